import PyProof.Rows.All
import Wide.All
import OpenK.AllK
import Wide.FinOn
import HandS.ForMost
import HandS.ForExc
import HandS.Codes
import HandS.IsInst
import HandS.Walk
import HandS.Evl
import HandS.Wide
import HandS.Conv
import HandS.Flow
import HandS.Style
import HandS.SortInts
import KE.GoesMore
import HandS.Star
import HandS.FStr
import HandS.ExcInit
import PySem.Challenge.RW_villagelines_k00_census_and_running
set_option Elab.async false
set_option linter.all false
set_option maxRecDepth 100000
set_option maxHeartbeats 4000000
/-! VL: data, what stands for them in the abstract heap, what an expression evaluates to. -/
namespace VL
open PySem PySem.Spec PyProof.Rows L2
open Evl (Ex)

abbrev Fr := PySem.W.Frag

/-- data without a heap -/
inductive D where
  | non | bl (b : Bool) | int (i : Int) | str (s : Str) | lst (ds : List D) | tup (ds : List D) | ins (C : Addr) (ns : List Str) (ds : List D) | pool | ty (n : String)

/-- the pool of draws at p: kept by what is true of its object, so that a draw changes nothing that is told -/
def PoolO (p c : Addr) (n : Nat) : Heap → Prop := fun h => ∃ (i1 i2 i3 i4 : Int) (t1 t2 t3 t4 : Tok) (m : Nat), 0 ≤ i1 ∧ 0 ≤ i2 ∧ 0 ≤ i3 ∧ 0 ≤ i4 ∧
  h.get? p = some { cls := .type "list", data := .seq #[.ref c, .int i1 t1, .int i2 t2, .int i3 t3, .int i4 t4] m }
structure PoolAt (H : Hp) (p : Addr) : Prop where
  ex : ∃ (c : Addr) (ns : List Int), H p = some (.ext (PoolO p c ns.length)) ∧ H c = some (.lst (ns.map V.int)) ∧ ∀ n ∈ ns, 0 ≤ n

/-- a list of data is fresh: it is new since H0 -/
def frOk : Option Hp → Addr → Prop
  | none, _ => True
  | some H0, a => H0 a = none

mutual
inductive Rep (K : Fr) (fr : Option Hp) (H : Hp) : D → V → Prop
  | non : Rep K fr H .non .non
  | bl (b : Bool) : Rep K fr H (.bl b) (.bl b)
  | int (i : Int) : Rep K fr H (.int i) (.int i)
  | str (s : Str) : Rep K fr H (.str s) (.str s)
  | lst {a : Addr} {vs : List V} {ds : List D} : frOk fr a → H a = some (.lst vs) → RepA K fr H ds vs → Rep K fr H (.lst ds) (.ref a)
  | tup {a : Addr} {vs : List V} {ds : List D} : SqT K H a vs → RepA K fr H ds vs → Rep K fr H (.tup ds) (.ref a)
  | ins {a C dx : Addr} {fs : List (Str × V)} {ns : List Str} {ds : List D} : H a = some (.ins C dx fs) → fs.map (·.1) = ns → RepA K fr H ds (fs.map (·.2)) → Rep K fr H (.ins C ns ds) (.ref a)
  | pool {p : Addr} : PoolAt H p → Rep K fr H .pool (.ref p)
  | ty (n : String) : Rep K fr H (.ty n) (.ty n)
inductive RepA (K : Fr) (fr : Option Hp) (H : Hp) : List D → List V → Prop
  | nil : RepA K fr H [] []
  | cons {d : D} {v : V} {ds : List D} {vs : List V} : Rep K fr H d v → RepA K fr H ds vs → RepA K fr H (d :: ds) (v :: vs)
end

section
variable {K : Fr} {fr : Option Hp} {H H' G G' : Hp}
theorem PoolAt.mono {p : Addr} (e : Ex H H') (h : PoolAt H p) : PoolAt H' p := by
  obtain ⟨c, ns, h1, h2, h3⟩ := h.ex
  exact ⟨c, ns, e _ _ h1, e _ _ h2, h3⟩
mutual
theorem Rep.mono (e : Ex H H') : ∀ {d : D} {v : V}, Rep K fr H d v → Rep K fr H' d v
  | _, _, .non => .non
  | _, _, .bl b => .bl b
  | _, _, .int i => .int i
  | _, _, .str s => .str s
  | _, _, .lst f h t => .lst f (e _ _ h) (RepA.mono e t)
  | _, _, .tup h t => .tup (Evl.ex_t e h) (RepA.mono e t)
  | _, _, .ins h q t => .ins (e _ _ h) q (RepA.mono e t)
  | _, _, .ty n => .ty n
  | _, _, .pool h => .pool (h.mono e)
theorem RepA.mono (e : Ex H H') : ∀ {ds : List D} {vs : List V}, RepA K fr H ds vs → RepA K fr H' ds vs
  | _, _, .nil => .nil
  | _, _, .cons h t => .cons (Rep.mono e h) (RepA.mono e t)
end
mutual
theorem Rep.old : ∀ {d : D} {v : V}, Rep K fr H d v → Rep K none H d v
  | _, _, .non => .non
  | _, _, .bl b => .bl b
  | _, _, .int i => .int i
  | _, _, .str s => .str s
  | _, _, .lst f h t => .lst trivial h (RepA.old t)
  | _, _, .tup h t => .tup h (RepA.old t)
  | _, _, .ins h q t => .ins h q (RepA.old t)
  | _, _, .ty n => .ty n
  | _, _, .pool h => .pool h
theorem RepA.old : ∀ {ds : List D} {vs : List V}, RepA K fr H ds vs → RepA K none H ds vs
  | _, _, .nil => .nil
  | _, _, .cons h t => .cons (Rep.old h) (RepA.old t)
end
/-- fresh since later is fresh since earlier -/
theorem frOk.back {a : Addr} (e : Ex G G') (h : frOk (some G') a) : frOk (some G) a := Evl.fresh_back e h
mutual
theorem Rep.back (e : Ex G G') : ∀ {d : D} {v : V}, Rep K (some G') H d v → Rep K (some G) H d v
  | _, _, .non => .non
  | _, _, .bl b => .bl b
  | _, _, .int i => .int i
  | _, _, .str s => .str s
  | _, _, .lst f h t => .lst (frOk.back e f) h (RepA.back e t)
  | _, _, .tup h t => .tup h (RepA.back e t)
  | _, _, .ins h q t => .ins h q (RepA.back e t)
  | _, _, .ty n => .ty n
  | _, _, .pool h => .pool h
theorem RepA.back (e : Ex G G') : ∀ {ds : List D} {vs : List V}, RepA K (some G') H ds vs → RepA K (some G) H ds vs
  | _, _, .nil => .nil
  | _, _, .cons h t => .cons (Rep.back e h) (RepA.back e t)
end
theorem RepA.length {ds : List D} {vs : List V} (h : RepA K fr H ds vs) : ds.length = vs.length := by
  induction ds generalizing vs with
  | nil => cases h; rfl
  | cons d ds ih => cases h with | cons h t => rw [List.length_cons, List.length_cons, ih t]
theorem RepA.get {ds : List D} {vs : List V} (h : RepA K fr H ds vs) : ∀ {i : Nat} {d : D}, ds[i]? = some d → ∃ v, vs[i]? = some v ∧ Rep K fr H d v := by
  induction ds generalizing vs with
  | nil => intro i d e; simp at e
  | cons d0 ds ih =>
    cases h with
    | cons h t =>
      intro i d e
      cases i with
      | zero => simp at e; subst e; exact ⟨_, rfl, h⟩
      | succ i => simpa using ih t (by simpa using e)
theorem RepA.getV {ds : List D} {vs : List V} (h : RepA K fr H ds vs) : ∀ {i : Nat} {v : V}, vs[i]? = some v → ∃ d, ds[i]? = some d ∧ Rep K fr H d v := by
  intro i v e
  have hi : i < vs.length := (List.getElem?_eq_some_iff.mp e).1
  have hd : i < ds.length := by rw [h.length]; exact hi
  obtain ⟨v', e', r⟩ := h.get (List.getElem?_eq_getElem hd)
  rw [e] at e'; cases e'
  exact ⟨_, List.getElem?_eq_getElem hd, r⟩
theorem RepA.append {ds es : List D} {vs us : List V} (h : RepA K fr H ds vs) (k : RepA K fr H es us) : RepA K fr H (ds ++ es) (vs ++ us) := by
  induction ds generalizing vs with
  | nil => cases h; exact k
  | cons d0 ds ih => cases h with | cons h t => exact .cons h (ih t)
theorem RepA.take {ds : List D} {vs : List V} (n : Nat) (h : RepA K fr H ds vs) : RepA K fr H (ds.take n) (vs.take n) := by
  induction ds generalizing vs n with
  | nil => cases h; simpa using RepA.nil
  | cons d0 ds ih => cases h with | cons h t => cases n with | zero => exact .nil | succ n => exact .cons h (ih n t)
theorem RepA.drop {ds : List D} {vs : List V} (n : Nat) (h : RepA K fr H ds vs) : RepA K fr H (ds.drop n) (vs.drop n) := by
  induction ds generalizing vs n with
  | nil => cases h; simpa using RepA.nil
  | cons d0 ds ih => cases h with | cons h t => cases n with | zero => exact .cons h t | succ n => exact ih n t
theorem RepA.set {ds : List D} {vs : List V} {d : D} {v : V} (n : Nat) (h : RepA K fr H ds vs) (k : Rep K fr H d v) : RepA K fr H (ds.set n d) (vs.set n v) := by
  induction ds generalizing vs n with
  | nil => cases h; exact .nil
  | cons d0 ds ih => cases h with | cons h t => cases n with | zero => exact .cons k t | succ n => exact .cons h (ih n t)
theorem RepA.ints {ns : List Int} {vs : List V} (h : RepA K fr H (ns.map D.int) vs) : vs = ns.map V.int := by
  induction ns generalizing vs with
  | nil => cases h; rfl
  | cons n ns ih => cases h with | cons h t => cases h; rw [ih t]; rfl
theorem RepA.ofInts : ∀ (ns : List Int), RepA K fr H (ns.map D.int) (ns.map V.int)
  | [] => .nil
  | n :: ns => .cons (.int n) (RepA.ofInts ns)
theorem RepA.bools {ns : List Bool} {vs : List V} (h : RepA K fr H (ns.map D.bl) vs) : vs = ns.map V.bl := by
  induction ns generalizing vs with
  | nil => cases h; rfl
  | cons n ns ih => cases h with | cons h t => cases h; rw [ih t]; rfl
theorem Rep.int_inv {i : Int} {v : V} (h : Rep K fr H (.int i) v) : v = .int i := by cases h; rfl
theorem Rep.bl_inv {i : Bool} {v : V} (h : Rep K fr H (.bl i) v) : v = .bl i := by cases h; rfl
theorem Rep.str_inv {i : Str} {v : V} (h : Rep K fr H (.str i) v) : v = .str i := by cases h; rfl
theorem Rep.non_inv {v : V} (h : Rep K fr H .non v) : v = .non := by cases h; rfl
theorem Rep.lst_inv {ds : List D} {v : V} (h : Rep K fr H (.lst ds) v) : ∃ a vs, v = .ref a ∧ frOk fr a ∧ H a = some (.lst vs) ∧ RepA K fr H ds vs := by cases h with | lst f h t => exact ⟨_, _, rfl, f, h, t⟩
theorem Rep.tup_inv {ds : List D} {v : V} (h : Rep K fr H (.tup ds) v) : ∃ a vs, v = .ref a ∧ SqT K H a vs ∧ RepA K fr H ds vs := by cases h with | tup h t => exact ⟨_, _, rfl, h, t⟩
end

/-- knowledge G of the heap H has grown to G' of H'; what is new in it was not in H -/
structure Grow (G H G' H' : Hp) : Prop where
  e : Ex G G'
  sub : Ex G' H'
  ext : Ex H H'
  new : ∀ a, G a = none → G' a ≠ none → H a = none
section
variable {G H G1 H1 G2 H2 G' H' : Hp} {p : Addr} {o : HO}
theorem Grow.refl (e : Ex G H) : Grow G H G H := ⟨Ex.refl _, e, Ex.refl _, fun a h h' => absurd h h'⟩
theorem Grow.trans (a : Grow G H G1 H1) (b : Grow G1 H1 G2 H2) : Grow G H G2 H2 := ⟨a.e.trans b.e, b.sub, a.ext.trans b.ext, fun x h1 h2 => by
  by_cases h : G1 x = none
  · exact Evl.fresh_back a.ext (b.new x h h2)
  · exact a.new x h1 h⟩
/-- a new object, known -/
theorem Grow.laid (e : Ex G H) (n : H p = none) : Grow G H (upd G p o) (upd H p o) := ⟨Ex.new (Evl.fresh_back e n), fun a u h => by
  by_cases ha : a = p
  · subst ha; rw [upd_same] at h ⊢; exact h
  · rw [upd_ne ha] at h ⊢; exact e a u h, Ex.new n, fun a h1 h2 => by
  by_cases ha : a = p
  · subst ha; exact n
  · rw [upd_ne ha] at h2; exact absurd h1 h2⟩
/-- a new object, not known (it will be written) -/
theorem Grow.hid (e : Ex G H) (n : H p = none) : Grow G H G (upd H p o) := ⟨Ex.refl _, e.mut (Evl.fresh_back e n), Ex.new n, fun a h1 h2 => absurd h1 h2⟩
/-- an object that is new since H0 and not known is written -/
theorem Grow.put (a : Grow G H G' H') (n : H p = none) (h : G' p = none) : Grow G H G' (upd H' p o) := ⟨a.e, a.sub.mut h, a.ext.mut n, a.new⟩
theorem Grow.mut (e : Ex G H) (h : G p = none) : Ex G (upd H p o) := e.mut h
/-- what stands in H and is not known stays so -/
theorem Grow.keep (a : Grow G H G' H') (h : H p = some o) (n : G p = none) : H' p = some o ∧ G' p = none := ⟨a.ext _ _ h, by
  cases q : G' p with
  | none => rfl
  | some u => rw [a.new p n (by rw [q]; simp)] at h; cases h⟩
theorem Grow.free (a : Grow G H G' H') (h : H' p = none) : H p = none := Evl.fresh_back a.ext h

/-- two pieces of knowledge of one heap -/
def un (G1 G2 : Hp) : Hp := fun a => match G1 a with | some o => some o | none => G2 a
theorem un_l : Ex G1 (un G1 G2) := fun a o h => by unfold un; rw [h]
theorem un_r (e1 : Ex G1 H) (e2 : Ex G2 H) : Ex G2 (un G1 G2) := fun a o h => by
  unfold un
  cases q : G1 a with
  | none => exact h
  | some u =>
    have h1 := e1 a u q
    rw [e2 a o h] at h1
    cases h1
    rfl
theorem un_sub (e1 : Ex G1 H) (e2 : Ex G2 H) : Ex (un G1 G2) H := fun a o h => by
  unfold un at h
  cases q : G1 a with
  | none => rw [q] at h; exact e2 a o h
  | some u => rw [q] at h; cases h; exact e1 a _ q
/-- growth of a part is growth of the whole -/
theorem Grow.on (e0 : Ex G G1) (e1 : Ex G1 H) (a : Grow G H G' H') : Grow G1 H (un G1 G') H' ∧ Ex G' (un G1 G') :=
  ⟨⟨un_l, un_sub (e1.trans a.ext) a.sub, a.ext, fun x h1 h2 => a.new x (Evl.fresh_back e0 h1) (by unfold un at h2; rw [h1] at h2; exact h2)⟩, un_r (e1.trans a.ext) a.sub⟩
end

def frh (f : Bool) (H : Hp) : Option Hp := if f then some H else none
section
variable {K : Fr} {f : Bool} {H H' G : Hp} {d : D} {v : V} {ds : List D} {vs : List V}
theorem Rep.h2 (e : Ex H H') (h : Rep K (frh f H') G d v) : Rep K (frh f H) G d v := by
  cases f with
  | true => exact Rep.back e h
  | false => exact h
theorem RepA.h2 (e : Ex H H') (h : RepA K (frh f H') G ds vs) : RepA K (frh f H) G ds vs := by
  cases f with
  | true => exact RepA.back e h
  | false => exact h
end

/-! ### the judgements -/
/-- te evaluates to some data of P, f: all its lists new -/
def EvS (K : Fr) (f : Bool) (te : TE) (σ : L2.St) (G : Hp) (P : D → Prop) : Prop := ∀ H, Ex G H → ∀ Q : VK, (∀ d v G' H', P d → Grow G H G' H' → Rep K (frh f H) G' d v → Q v H') → te σ H Q
def Ev (K : Fr) (f : Bool) (te : TE) (σ : L2.St) (G : Hp) (d : D) : Prop := ∀ H, Ex G H → ∀ Q : VK, (∀ v G' H', Grow G H G' H' → Rep K (frh f H) G' d v → Q v H') → te σ H Q
def EvT (_ : Fr) (tt : TT) (σ : L2.St) (G : Hp) (b : Bool) : Prop := ∀ H, Ex G H → ∀ Q : Bool → Hp → Prop, (∀ G' H', Grow G H G' H' → Q b H') → tt σ H Q
def EvA (K : Fr) (f : Bool) (ta : TA) (σ : L2.St) (G : Hp) (ds : List D) : Prop := ∀ H, Ex G H → ∀ Q : List V → Hp → Prop, (∀ vs G' H', Grow G H G' H' → RepA K (frh f H) G' ds vs → Q vs H') → ta σ H Q
def EvAS (K : Fr) (f : Bool) (ta : TA) (σ : L2.St) (G : Hp) (P : List D → Prop) : Prop := ∀ H, Ex G H → ∀ Q : List V → Hp → Prop, (∀ ds vs G' H', P ds → Grow G H G' H' → RepA K (frh f H) G' ds vs → Q vs H') → ta σ H Q
/-- a new list, still to be written: it is not known -/
def EvL (K : Fr) (f : Bool) (te : TE) (σ : L2.St) (G : Hp) (ds : List D) : Prop := ∀ H, Ex G H → ∀ Q : VK, (∀ p vs G' H', Grow G H G' H' → H p = none → G' p = none → H' p = some (.lst vs) → RepA K (frh f H) G' ds vs → Q (.ref p) H') → te σ H Q
def EvO (_ : Fr) (to : TO) (σ : L2.St) (G : Hp) (o : Option Int) : Prop := ∀ H, Ex G H → ∀ Q : Option Int → Hp → Prop, (∀ G' H', Grow G H G' H' → Q o H') → to σ H Q
/-- operations by values -/
def Rv (K : Fr) (f f1 : Bool) (r : R2) (a b c : D) : Prop := ∀ G x y H0, Rep K (frh f1 H0) G a x → Rep K (frh f1 H0) G b y → ∀ H, Ex G H → Ex H0 H → ∀ Q : VK, (∀ v G' H', Grow G H G' H' → Rep K (frh f H0) G' c v → Q v H') → r x y H Q
def Ru (K : Fr) (f : Bool) (r : V → Hp → VK → Prop) (a c : D) : Prop := ∀ G x, Rep K none G a x → ∀ H, Ex G H → ∀ Q : VK, (∀ v G' H', Grow G H G' H' → Rep K (frh f H) G' c v → Q v H') → r x H Q
/-- calls by values -/
def Rc (K : Fr) (f : Bool) (r : List V → Hp → VK → Prop) (ds : List D) (c : D) : Prop := ∀ G vs, RepA K none G ds vs → ∀ H, Ex G H → ∀ Q : VK, (∀ v G' H', Grow G H G' H' → Rep K (frh f H) G' c v → Q v H') → r vs H Q
def RcS (K : Fr) (f : Bool) (r : List V → Hp → VK → Prop) (ds : List D) (P : D → Prop) : Prop := ∀ G vs, RepA K none G ds vs → ∀ H, Ex G H → ∀ Q : VK, (∀ d v G' H', P d → Grow G H G' H' → Rep K (frh f H) G' d v → Q v H') → r vs H Q
/-- a def's promise, by data -/
def SpD (K : Fr) (f : Bool) (sp : Sp) (ds : List D) (c : D) : Prop := ∀ (E : XK), Rc K f (fun vs H Q => sp vs H Q E) ds c
def SpDS (K : Fr) (f : Bool) (sp : Sp) (ds : List D) (P : D → Prop) : Prop := ∀ (E : XK), RcS K f (fun vs H Q => sp vs H Q E) ds P

section
variable {K : Fr} {f : Bool} {σ : L2.St} {G G1 G2 H H' : Hp} {te ta tb tc : TE} {t u : TT} {d a b c : D} {v : V} {r : R2} {P P1 P2 P3 : D → Prop} {ds es : List D}
theorem Ev.mono (e : Ex G G1) (h : Ev K f te σ G d) : Ev K f te σ G1 d := fun H eH Q q => h H (e.trans eH) Q fun v G' H' g r =>
  let ⟨g1, e1⟩ := g.on e eH
  q v _ H' g1 (r.mono e1)
theorem EvS.mono (e : Ex G G1) (h : EvS K f te σ G P) : EvS K f te σ G1 P := fun H eH Q q => h H (e.trans eH) Q fun d v G' H' hp g r =>
  let ⟨g1, e1⟩ := g.on e eH
  q d v _ H' hp g1 (r.mono e1)
theorem EvT.mono {b : Bool} (e : Ex G G1) (h : EvT K t σ G b) : EvT K t σ G1 b := fun H eH Q q => h H (e.trans eH) Q fun G' H' g =>
  let ⟨g1, e1⟩ := g.on e eH
  q _ H' g1
theorem EvA.mono {ta : TA} (e : Ex G G1) (h : EvA K f ta σ G ds) : EvA K f ta σ G1 ds := fun H eH Q q => h H (e.trans eH) Q fun v G' H' g r =>
  let ⟨g1, e1⟩ := g.on e eH
  q v _ H' g1 (r.mono e1)
theorem EvO.mono {to : TO} {o : Option Int} (e : Ex G G1) (h : EvO K to σ G o) : EvO K to σ G1 o := fun H eH Q q => h H (e.trans eH) Q fun G' H' g =>
  let ⟨g1, e1⟩ := g.on e eH
  q _ H' g1
theorem Ev.toS (h : Ev K f te σ G d) : EvS K f te σ G (fun z => z = d) := fun H e Q q => h H e Q fun v G' H' g r => q d v G' H' rfl g r
theorem EvS.to1 (h : EvS K f te σ G (fun z => z = d)) : Ev K f te σ G d := fun H e Q q => h H e Q fun z v G' H' hz g r => q v G' H' g (hz ▸ r)
theorem EvS.imp (h : EvS K f te σ G P) (hp : ∀ d, P d → P1 d) : EvS K f te σ G P1 := fun H e Q q => h H e Q fun d v G' H' k g r => q d v G' H' (hp d k) g r
theorem Ev.old (h : Ev K f te σ G d) : Ev K false te σ G d := fun H e Q q => h H e Q fun v G' H' g r => q v G' H' g r.old
theorem EvS.old (h : EvS K f te σ G P) : EvS K false te σ G P := fun H e Q q => h H e Q fun d v G' H' k g r => q d v G' H' k g r.old
theorem EvA.old {ta : TA} (h : EvA K f ta σ G ds) : EvA K false ta σ G ds := fun H e Q q => h H e Q fun v G' H' g r => q v G' H' g r.old
theorem Ev.is (h : Ev K f te σ G d) (e : d = c) : Ev K f te σ G c := e ▸ h
theorem EvT.is {x y : Bool} (h : EvT K t σ G x) (e : x = y) : EvT K t σ G y := e ▸ h
theorem EvL.is (h : EvL K f te σ G ds) (e : ds = es) : EvL K f te σ G es := e ▸ h

/-- a scalar bears no list: old is new -/
def scalarD : D → Bool
  | .non => true | .bl _ => true | .int _ => true | .str _ => true | _ => false
theorem Rep.scalar {fr fr' : Option Hp} {H H' : Hp} (hs : scalarD d = true) (h : Rep K fr H d v) : Rep K fr' H' d v := by
  cases h with
  | non => exact .non
  | bl b => exact .bl b
  | int i => exact .int i
  | str i => exact .str i
  | lst _ _ _ => cases hs
  | tup _ _ => cases hs
  | ins _ _ _ => cases hs
  | pool _ => cases hs
  | ty _ => cases hs

theorem ev_var {i : Nat} (h : σ[i]? = some (some v)) (r : Rep K none G d v) : Ev K false (tVar i) σ G d := fun H e Q q => ⟨v, h, q v G H (Grow.refl e) r⟩
theorem ev_varS {i : Nat} (h : σ[i]? = some (some v)) (r : Rep K none G d v) (hs : scalarD d = true) : Ev K f (tVar i) σ G d := fun H e Q q => ⟨v, h, q v G H (Grow.refl e) (r.scalar hs)⟩
theorem ev_vi {i : Nat} {n : Int} (h : σ[i]? = some (some (.int n))) : Ev K f (tVar i) σ G (.int n) := fun H e Q q => ⟨_, h, q _ G H (Grow.refl e) (.int n)⟩
theorem ev_vb {i : Nat} {n : Bool} (h : σ[i]? = some (some (.bl n))) : Ev K f (tVar i) σ G (.bl n) := fun H e Q q => ⟨_, h, q _ G H (Grow.refl e) (.bl n)⟩
theorem ev_vn {i : Nat} (h : σ[i]? = some (some .non)) : Ev K f (tVar i) σ G .non := fun H e Q q => ⟨_, h, q _ G H (Grow.refl e) .non⟩
theorem ev_vs {i : Nat} {n : Str} (h : σ[i]? = some (some (.str n))) : Ev K f (tVar i) σ G (.str n) := fun H e Q q => ⟨_, h, q _ G H (Grow.refl e) (.str n)⟩
theorem ev_int {n : Int} : Ev K f (tC (.int n)) σ G (.int n) := fun H e Q q => q _ G H (Grow.refl e) (.int n)
theorem ev_bl {n : Bool} : Ev K f (tC (.bl n)) σ G (.bl n) := fun H e Q q => q _ G H (Grow.refl e) (.bl n)
theorem ev_non : Ev K f (tC .non) σ G .non := fun H e Q q => q _ G H (Grow.refl e) .non
theorem ev_str {n : Str} : Ev K f (tC (.str n)) σ G (.str n) := fun H e Q q => q _ G H (Grow.refl e) (.str n)

theorem ev_op {f1 : Bool} (ha : Ev K f1 ta σ G a) (hb : Ev K f1 tb σ G b) (hr : Rv K f f1 r a b c) : Ev K f (tOp r ta tb) σ G c := fun H e Q q =>
  ha H e _ fun x G1 H1 g1 rx => (hb.mono g1.e) H1 g1.sub _ fun y G2 H2 g2 ry => hr G2 x y H (rx.mono g2.e) (ry.h2 g1.ext) H2 g2.sub (g1.ext.trans g2.ext) Q fun v G3 H3 g3 rv => q v G3 H3 ((g1.trans g2).trans g3) rv
theorem evS_op {f1 : Bool} (ha : EvS K f1 ta σ G P1) (hb : EvS K f1 tb σ G P2) (hr : ∀ a b, P1 a → P2 b → ∃ c, P3 c ∧ Rv K f f1 r a b c) : EvS K f (tOp r ta tb) σ G P3 := fun H e Q q =>
  ha H e _ fun a x G1 H1 pa g1 rx => (hb.mono g1.e) H1 g1.sub _ fun b y G2 H2 pb g2 ry =>
    let ⟨c, pc, hr⟩ := hr a b pa pb
    hr G2 x y H (rx.mono g2.e) (ry.h2 g1.ext) H2 g2.sub (g1.ext.trans g2.ext) Q fun v G3 H3 g3 rv => q c v G3 H3 pc ((g1.trans g2).trans g3) rv
theorem ev_un {r : V → Hp → VK → Prop} (ha : Ev K false ta σ G a) (hr : Ru K f r a c) : Ev K f (tUn r ta) σ G c := fun H e Q q =>
  ha H e _ fun x G1 H1 g1 rx => hr G1 x rx H1 g1.sub Q fun v G2 H2 g2 rv => q v G2 H2 (g1.trans g2) (rv.h2 g1.ext)
theorem ea_nil : EvA K f tNil σ G [] := fun H e Q q => q [] G H (Grow.refl e) .nil
theorem ea_cons {tr : TA} (h : Ev K f te σ G d) (hr : EvA K f tr σ G ds) : EvA K f (tCons te tr) σ G (d :: ds) := fun H e Q q =>
  h H e _ fun x G1 H1 g1 rx => (hr.mono g1.e) H1 g1.sub _ fun vs G2 H2 g2 rs => q _ G2 H2 (g1.trans g2) (.cons (rx.mono g2.e) (rs.h2 g1.ext))
theorem EvAS.mono {ta : TA} {PA : List D → Prop} (e : Ex G G1) (h : EvAS K f ta σ G PA) : EvAS K f ta σ G1 PA := fun H eH Q q => h H (e.trans eH) Q fun ds v G' H' k g r =>
  let ⟨g1, e1⟩ := g.on e eH
  q ds v _ H' k g1 (r.mono e1)
theorem eaS_nil : EvAS K f tNil σ G (fun ds => ds = []) := fun H e Q q => q [] [] G H rfl (Grow.refl e) .nil
theorem eaS_cons {tr : TA} {PA : List D → Prop} (h : EvS K f te σ G P) (hr : EvAS K f tr σ G PA) : EvAS K f (tCons te tr) σ G (fun l => ∃ d ds, l = d :: ds ∧ P d ∧ PA ds) := fun H e Q q =>
  h H e _ fun d x G1 H1 pd g1 rx => (hr.mono g1.e) H1 g1.sub _ fun ds vs G2 H2 pds g2 rs => q (d :: ds) _ G2 H2 ⟨d, ds, rfl, pd, pds⟩ (g1.trans g2) (.cons (rx.mono g2.e) (rs.h2 g1.ext))
theorem ev_cb {r : List V → Hp → VK → Prop} {ta : TA} (h : EvA K false ta σ G ds) (hr : Rc K f r ds c) : Ev K f (tCB r ta) σ G c := fun H e Q q =>
  h H e _ fun vs G1 H1 g1 rs => hr G1 vs rs H1 g1.sub Q fun v G2 H2 g2 rv => q v G2 H2 (g1.trans g2) (rv.h2 g1.ext)
theorem evS_cb {r : List V → Hp → VK → Prop} {ta : TA} {PA : List D → Prop} (h : EvAS K false ta σ G PA) (hr : ∀ ds, PA ds → RcS K f r ds P) : EvS K f (tCB r ta) σ G P := fun H e Q q =>
  h H e _ fun ds vs G1 H1 pds g1 rs => hr ds pds G1 vs rs H1 g1.sub Q fun d v G2 H2 pd g2 rv => q d v G2 H2 pd (g1.trans g2) (rv.h2 g1.ext)
theorem ev_call {sp : Sp} {E : XK} {ta : TA} (h : EvA K false ta σ G ds) (hs : SpD K f sp ds c) : Ev K f (tCall sp [] E ta) σ G c := fun H e Q q =>
  h H e _ fun vs G1 H1 g1 rs => by
    rw [List.append_nil]
    exact hs E G1 vs rs H1 g1.sub Q fun v G2 H2 g2 rv => q v G2 H2 (g1.trans g2) (rv.h2 g1.ext)
theorem evS_call {sp : Sp} {E : XK} {ta : TA} {PA : List D → Prop} (h : EvAS K false ta σ G PA) (hs : ∀ ds, PA ds → SpDS K f sp ds P) : EvS K f (tCall sp [] E ta) σ G P := fun H e Q q =>
  h H e _ fun ds vs G1 H1 pds g1 rs => by
    rw [List.append_nil]
    exact hs ds pds E G1 vs rs H1 g1.sub Q fun d v G2 H2 pd g2 rv => q d v G2 H2 pd (g1.trans g2) (rv.h2 g1.ext)
theorem EvA.toS {ta : TA} (h : EvA K f ta σ G ds) : EvAS K f ta σ G (fun l => l = ds) := fun H e Q q => h H e Q fun vs G' H' g r => q ds vs G' H' rfl g r
theorem evS_call1 {sp : Sp} {E : XK} {ta : TA} (h : EvA K false ta σ G ds) (hs : SpDS K f sp ds P) : EvS K f (tCall sp [] E ta) σ G P := evS_call h.toS fun _ e => e ▸ hs

/-! ### tests -/
theorem et_test {x : Bool} (h : Ev K f te σ G (.bl x)) : EvT K (tTest te) σ G x := fun H e Q q => h H e _ fun v G1 H1 g1 rv => ⟨x, rv.bl_inv, q G1 H1 g1⟩
theorem et_B {x : Bool} (h : Ev K f te σ G (.bl x)) : EvT K (tB te) σ G x := fun H e Q q => h H e _ fun v G1 H1 g1 rv => ⟨x, rv.bl_inv, q G1 H1 g1⟩
theorem et_yes : EvT K tYes σ G true := fun H e Q q => q G H (Grow.refl e)
theorem et_and {x y : Bool} (h1 : EvT K t σ G x) (h2 : x = true → EvT K u σ G y) : EvT K (tAnd t u) σ G (x && y) := fun H e Q q => h1 H e _ fun G1 H1 g1 => by
  cases x with
  | true => exact ((h2 rfl).mono g1.e) H1 g1.sub Q fun G2 H2 g2 => q G2 H2 (g1.trans g2)
  | false => exact q G1 H1 g1
theorem et_or {x y : Bool} (h1 : EvT K t σ G x) (h2 : x = false → EvT K u σ G y) : EvT K (tOr t u) σ G (x || y) := fun H e Q q => h1 H e _ fun G1 H1 g1 => by
  cases x with
  | true => exact q G1 H1 g1
  | false => exact ((h2 rfl).mono g1.e) H1 g1.sub Q fun G2 H2 g2 => q G2 H2 (g1.trans g2)
theorem et_not {x : Bool} (h1 : EvT K t σ G x) : EvT K (tNot t) σ G (!x) := fun H e Q q => h1 H e _ fun G1 H1 g1 => q G1 H1 g1
theorem ev_andV {x y : Bool} (h1 : Ev K f ta σ G (.bl x)) (h2 : x = true → Ev K f tb σ G (.bl y)) : Ev K f (tAndV ta tb) σ G (.bl (x && y)) := fun H e Q q => h1 H e _ fun v G1 H1 g1 rv => ⟨x, rv.bl_inv, by
  cases x with
  | true => exact ((h2 rfl).mono g1.e) H1 g1.sub Q fun v G2 H2 g2 r2 => q v G2 H2 (g1.trans g2) (r2.h2 g1.ext)
  | false => exact q _ G1 H1 g1 (.bl false)⟩
theorem ev_orV {x y : Bool} (h1 : Ev K f ta σ G (.bl x)) (h2 : x = false → Ev K f tb σ G (.bl y)) : Ev K f (tOrV ta tb) σ G (.bl (x || y)) := fun H e Q q => h1 H e _ fun v G1 H1 g1 rv => ⟨x, rv.bl_inv, by
  cases x with
  | true => exact q _ G1 H1 g1 (.bl true)
  | false => exact ((h2 rfl).mono g1.e) H1 g1.sub Q fun v G2 H2 g2 r2 => q v G2 H2 (g1.trans g2) (r2.h2 g1.ext)⟩
theorem ev_notV {x : Bool} (h1 : Ev K f ta σ G (.bl x)) : Ev K f (tNotV ta) σ G (.bl (!x)) := fun H e Q q => h1 H e _ fun v G1 H1 g1 rv => ⟨x, rv.bl_inv, q _ G1 H1 g1 (.bl _)⟩
theorem ev_if {x : Bool} (h : EvT K t σ G x) (h1 : x = true → Ev K f ta σ G d) (h2 : x = false → Ev K f tb σ G d) : Ev K f (tIf t ta tb) σ G d := fun H e Q q => h H e _ fun G1 H1 g1 => by
  cases x with
  | true => exact ((h1 rfl).mono g1.e) H1 g1.sub Q fun v G2 H2 g2 r2 => q v G2 H2 (g1.trans g2) (r2.h2 g1.ext)
  | false => exact ((h2 rfl).mono g1.e) H1 g1.sub Q fun v G2 H2 g2 r2 => q v G2 H2 (g1.trans g2) (r2.h2 g1.ext)
theorem ev_chain {r1 r2 : R2} {x y : Bool} (ha : Ev K false ta σ G a) (hb : Ev K false tb σ G b) (h1 : Rv K false false r1 a b (.bl x)) (hc : x = true → Ev K false tc σ G c) (h2 : x = true → Rv K false false r2 b c (.bl y)) : Ev K f (tChain r1 r2 ta tb tc) σ G (.bl (x && y)) := fun H e Q q => by
  refine ha H e _ fun xv G1 H1 g1 rx => (hb.mono g1.e) H1 g1.sub _ fun yv G2 H2 g2 ry => h1 G2 xv yv H (rx.mono g2.e) ry H2 g2.sub (g1.ext.trans g2.ext) _ fun zv G3 H3 g3 rz => ⟨x, rz.bl_inv, ?_⟩
  cases x with
  | true =>
    refine ((hc rfl).mono ((g1.e.trans g2.e).trans g3.e)) H3 g3.sub _ fun wv G4 H4 g4 rw => (h2 rfl) G4 yv wv H (ry.mono (g3.e.trans g4.e)) rw H4 g4.sub (((g1.ext.trans g2.ext).trans g3.ext).trans g4.ext) Q fun v G5 H5 g5 rv => ?_
    have e5 := rv.bl_inv
    subst e5
    exact q _ G5 H5 ((((g1.trans g2).trans g3).trans g4).trans g5) (.bl _)
  | false => exact q _ G3 H3 ((g1.trans g2).trans g3) (.bl _)
end
end VL

/-! VL2: operations, built-in calls, displays, items, slices by data. -/
namespace VL
open PySem PySem.Spec PyProof.Rows L2
open Evl (Ex)

section
variable {K : Fr} {f f1 : Bool} {σ : L2.St} {G G1 G2 H H' : Hp} {te ta tb tc : TE} {t u : TT} {d a b c : D} {v : V} {r0 r1 r2 : R2} {P P1 P2 P3 : D → Prop} {ds es : List D}

theorem Rv.left (h : Rv K f f1 r1 a b c) : Rv K f f1 (fun x y H Q => r1 x y H Q ∨ r2 x y H Q) a b c := fun G x y H0 ra rb H e e0 Q q => Or.inl (h G x y H0 ra rb H e e0 Q q)
theorem Rv.right (h : Rv K f f1 r2 a b c) : Rv K f f1 (fun x y H Q => r1 x y H Q ∨ r2 x y H Q) a b c := fun G x y H0 ra rb H e e0 Q q => Or.inr (h G x y H0 ra rb H e e0 Q q)
theorem Rc.left {r1 r2 : List V → Hp → VK → Prop} (h : Rc K f r1 ds c) : Rc K f (fun xs H Q => r1 xs H Q ∨ r2 xs H Q) ds c := fun G x ra H e Q q => Or.inl (h G x ra H e Q q)
theorem Rc.right {r1 r2 : List V → Hp → VK → Prop} (h : Rc K f r2 ds c) : Rc K f (fun xs H Q => r1 xs H Q ∨ r2 xs H Q) ds c := fun G x ra H e Q q => Or.inr (h G x ra H e Q q)
theorem Rc.toS {r : List V → Hp → VK → Prop} (h : Rc K f r ds c) : RcS K f r ds (fun d => d = c) := fun G x ra H e Q q => h G x ra H e Q fun v G' H' g r => q c v G' H' rfl g r

/-! ints -/
theorem rv_I0 {g : Int → Int → V} {g' : D} {i j : Int} (hg : ∀ {fr : Option Hp} {H : Hp}, Rep K fr H g' (g i j)) : Rv K f f1 (rI0 g) (.int i) (.int j) g' := fun G x y H0 ra rb H e _ Q q =>
  ⟨i, j, ra.int_inv, rb.int_inv, q _ G H (Grow.refl e) hg⟩
theorem rv_I {C : Int → Int → Prop} {g : Int → Int → V} {g' : D} {i j : Int} (hc : C i j) (hg : ∀ {fr : Option Hp} {H : Hp}, Rep K fr H g' (g i j)) : Rv K f f1 (rI C g) (.int i) (.int j) g' := fun G x y H0 ra rb H e _ Q q =>
  ⟨i, j, ra.int_inv, rb.int_inv, hc, q _ G H (Grow.refl e) hg⟩
theorem rv_ii {g : Int → Int → Int} {i j : Int} : Rv K f f1 (rI0 fun i j => .int (g i j)) (.int i) (.int j) (.int (g i j)) := rv_I0 (.int _)
theorem rv_ib {g : Int → Int → Bool} {i j : Int} : Rv K f f1 (rI0 fun i j => .bl (g i j)) (.int i) (.int j) (.bl (g i j)) := rv_I0 (.bl _)
theorem rv_iiC {C : Int → Int → Prop} {g : Int → Int → Int} {i j : Int} (hc : C i j) : Rv K f f1 (rI C fun i j => .int (g i j)) (.int i) (.int j) (.int (g i j)) := rv_I hc (.int _)
theorem ru_neg {i : Int} : Ru K f (rU fun i => .int (-i)) (.int i) (.int (-i)) := fun G x ra H e Q q => ⟨i, ra.int_inv, q _ G H (Grow.refl e) (.int _)⟩

/-! equality of scalars -/
/-- what == says of two scalars of comparable kinds -/
def eqD : D → D → Option Bool
  | .int i, .int j => some (decide (i = j))
  | .bl i, .bl j => some (decide (i = j))
  | .str i, .str j => some (decide (i = j))
  | _, _ => none
theorem rv_eqI {i j : Int} : Rv K f f1 rEq (.int i) (.int j) (.bl (decide (i = j))) := fun G x y H0 ra rb H e _ Q q => by
  cases ra; cases rb
  refine ⟨rfl, ?_⟩
  have h : decide (V.int i = V.int j) = decide (i = j) := by by_cases h : i = j <;> simp [h]
  rw [h]; exact q _ G H (Grow.refl e) (.bl _)
theorem rv_neI {i j : Int} : Rv K f f1 rNe (.int i) (.int j) (.bl (!decide (i = j))) := fun G x y H0 ra rb H e _ Q q => by
  cases ra; cases rb
  refine ⟨rfl, ?_⟩
  have h : decide (V.int i = V.int j) = decide (i = j) := by by_cases h : i = j <;> simp [h]
  rw [h]; exact q _ G H (Grow.refl e) (.bl _)
theorem rv_eqS {i j : Str} : Rv K f f1 rEq (.str i) (.str j) (.bl (decide (i = j))) := fun G x y H0 ra rb H e _ Q q => by
  cases ra; cases rb
  refine ⟨rfl, ?_⟩
  have h : decide (V.str i = V.str j) = decide (i = j) := by by_cases h : i = j <;> simp [h]
  rw [h]; exact q _ G H (Grow.refl e) (.bl _)
theorem rv_neS {i j : Str} : Rv K f f1 rNe (.str i) (.str j) (.bl (!decide (i = j))) := fun G x y H0 ra rb H e _ Q q => by
  cases ra; cases rb
  refine ⟨rfl, ?_⟩
  have h : decide (V.str i = V.str j) = decide (i = j) := by by_cases h : i = j <;> simp [h]
  rw [h]; exact q _ G H (Grow.refl e) (.bl _)
def isNon : D → Bool
  | .non => true
  | _ => false
theorem Rep.isNon_eq {fr : Option Hp} (h : Rep K fr H d v) : decide (v = .non) = isNon d := by
  cases h <;> simp [isNon]
/-- is None, is not None -/
theorem rv_isN : Rv K f f1 (fun x y H Q => y = .non ∧ Q (.bl (decide (x = .non))) H) a .non (.bl (isNon a)) := fun G x y H0 ra rb H e _ Q q => by
  refine ⟨rb.non_inv, ?_⟩
  rw [ra.isNon_eq]; exact q _ G H (Grow.refl e) (.bl _)
theorem rv_notN : Rv K f f1 (fun x y H Q => y = .non ∧ Q (.bl (!decide (x = .non))) H) a .non (.bl (!isNon a)) := fun G x y H0 ra rb H e _ Q q => by
  refine ⟨rb.non_inv, ?_⟩
  rw [ra.isNon_eq]; exact q _ G H (Grow.refl e) (.bl _)
/-- x is True, x is False, whatever x is -/
def rIsTF : R2 := fun x y H Q => ∃ b, y = .bl b ∧ Q (.bl (decide (x = .bl b))) H
theorem op_isTF {X : Cx} : OpR X (compareOp .Is) rIsTF := by
  intro pins s σ H x y va vb Q I rx ry h
  obtain ⟨b, rfl, q⟩ := h
  cases (show vb = Value.bool b from ry)
  by_cases e : x = .bl b
  · subst e
    cases (show va = Value.bool b from rx)
    refine wpAny_is_self rfl ⟨.bl true, H, I, rfl, ?_⟩
    have e2 : decide (V.bl b = V.bl b) = true := by simp
    rw [← e2]; exact q
  · have hne : va ≠ Value.bool b := fun z => by
      subst z
      exact e (RelV.inj rx rfl)
    have hp : plainIs va (Value.bool b) = true := by
      cases x with
      | non => cases rx; rfl
      | bl c => cases rx; rfl
      | int i => obtain ⟨t, rfl⟩ := rx; rfl
      | str i => obtain ⟨t, rfl⟩ := rx; rfl
      | byt i => obtain ⟨t, rfl⟩ := rx; rfl
      | flt i => obtain ⟨t, rfl⟩ := rx; rfl
      | ref i => cases rx; rfl
      | ty i => cases rx; rfl
    refine wpAny_is_other hp hne ⟨.bl false, H, I, rfl, ?_⟩
    have e2 : decide (x = V.bl b) = false := decide_eq_false e
    rw [← e2]; exact q
def isBl (b : Bool) : D → Bool
  | .bl c => decide (c = b)
  | _ => false
theorem rv_isTF {x : Bool} : Rv K f f1 rIsTF a (.bl x) (.bl (isBl x a)) := fun G xv y H0 ra rb H e _ Q q => by
  refine ⟨x, rb.bl_inv, ?_⟩
  have h : decide (xv = V.bl x) = isBl x a := by cases ra <;> simp [isBl]
  rw [h]; exact q _ G H (Grow.refl e) (.bl _)

/-! in, for ints -/
theorem inV_int {n : Int} : ∀ (ns : List Int), inV (.int n) (ns.map V.int) = decide (n ∈ ns)
  | [] => by simp [inV]
  | m :: ns => by
    have ih := inV_int (n := n) ns
    unfold inV at ih ⊢
    rw [List.map_cons, List.any_cons, ih]
    have h : eqV (.int m) (.int n) = decide (m = n) := by
      show (m == n) = decide (m = n)
      by_cases e : m = n <;> simp [e]
    rw [h]
    by_cases e : n = m
    · subst e; simp
    · have e' : ¬ m = n := fun z => e z.symm
      simp [e, e']
theorem flat_ints : ∀ (ns : List Int), (ns.map V.int).all flatV = true
  | [] => rfl
  | n :: ns => by rw [List.map_cons, List.all_cons, flat_ints ns]; rfl
theorem rv_inL {n : Int} {ns : List Int} : Rv K f f1 (rIn K false) (.int n) (.lst (ns.map D.int)) (.bl (decide (n ∈ ns))) := fun G x y H0 ra rb H e _ Q q => by
  obtain ⟨p, vs, rfl, _, hp, rs⟩ := rb.lst_inv
  cases ra
  have ev := rs.ints
  subst ev
  refine ⟨p, _, rfl, Or.inl (SqL.of (e _ _ hp)), rfl, flat_ints ns, ?_⟩
  show Q (.bl (inV (.int n) (ns.map V.int))) H
  rw [inV_int]; exact q _ G H (Grow.refl e) (.bl _)
theorem rv_niL {n : Int} {ns : List Int} : Rv K f f1 (rIn K true) (.int n) (.lst (ns.map D.int)) (.bl (!decide (n ∈ ns))) := fun G x y H0 ra rb H e _ Q q => by
  obtain ⟨p, vs, rfl, _, hp, rs⟩ := rb.lst_inv
  cases ra
  have ev := rs.ints
  subst ev
  refine ⟨p, _, rfl, Or.inl (SqL.of (e _ _ hp)), rfl, flat_ints ns, ?_⟩
  show Q (.bl (!inV (.int n) (ns.map V.int))) H
  rw [inV_int]; exact q _ G H (Grow.refl e) (.bl _)
theorem rv_inT {n : Int} {ns : List Int} : Rv K f f1 (rIn K false) (.int n) (.tup (ns.map D.int)) (.bl (decide (n ∈ ns))) := fun G x y H0 ra rb H e _ Q q => by
  obtain ⟨p, vs, rfl, hp, rs⟩ := rb.tup_inv
  cases ra
  have ev := rs.ints
  subst ev
  refine ⟨p, _, rfl, Or.inr (Evl.ex_t e hp), rfl, flat_ints ns, ?_⟩
  show Q (.bl (inV (.int n) (ns.map V.int))) H
  rw [inV_int]; exact q _ G H (Grow.refl e) (.bl _)
theorem rv_niT {n : Int} {ns : List Int} : Rv K f f1 (rIn K true) (.int n) (.tup (ns.map D.int)) (.bl (!decide (n ∈ ns))) := fun G x y H0 ra rb H e _ Q q => by
  obtain ⟨p, vs, rfl, hp, rs⟩ := rb.tup_inv
  cases ra
  have ev := rs.ints
  subst ev
  refine ⟨p, _, rfl, Or.inr (Evl.ex_t e hp), rfl, flat_ints ns, ?_⟩
  show Q (.bl (!inV (.int n) (ns.map V.int))) H
  rw [inV_int]; exact q _ G H (Grow.refl e) (.bl _)

/-! items -/
theorem atI_len {α β : Type} {xs : List α} {ys : List β} (h : xs.length = ys.length) {i : Int} {x : α} (e : atI xs i = some x) : ∃ j : Nat, xs[j]? = some x ∧ ∀ y : β, ys[j]? = some y → atI ys i = some y := by
  unfold atI at e ⊢
  rw [h] at e
  cases q : ixN ys.length i with
  | none => rw [q] at e; cases e
  | some j =>
    rw [q] at e
    exact ⟨j, e, fun y hy => hy⟩
theorem rv_ixL {i : Int} (h : atI ds i = some d) : Rv K f f (rIxL K) (.lst ds) (.int i) d := fun G x y H0 ra rb H e e0 Q q => by
  obtain ⟨p, vs, rfl, _, hp, rs⟩ := ra.lst_inv
  cases rb
  obtain ⟨j, hj, hy⟩ := atI_len rs.length h
  obtain ⟨w, hw, rw'⟩ := rs.get hj
  exact ⟨p, vs, i, w, rfl, rfl, SqL.of (e _ _ hp), hy w hw, q w G H (Grow.refl e) rw'⟩
theorem rv_ixT {i : Int} (h : atI ds i = some d) : Rv K f f (rIxT K) (.tup ds) (.int i) d := fun G x y H0 ra rb H e e0 Q q => by
  obtain ⟨p, vs, rfl, hp, rs⟩ := ra.tup_inv
  cases rb
  obtain ⟨j, hj, hy⟩ := atI_len rs.length h
  obtain ⟨w, hw, rw'⟩ := rs.get hj
  exact ⟨p, vs, i, w, rfl, rfl, Evl.ex_t e hp, hy w hw, q w G H (Grow.refl e) rw'⟩
/-- + of two new lists -/
theorem rv_cat (hl : ds.length + es.length ≤ 100000) : Rv K true true rCat (.lst ds) (.lst es) (.lst (ds ++ es)) := fun G x y H0 ra rb H e e0 Q q => by
  obtain ⟨p, vs, rfl, fp, hp, rs⟩ := ra.lst_inv
  obtain ⟨p2, us, rfl, fp2, hp2, rs2⟩ := rb.lst_inv
  refine ⟨p, p2, vs, us, rfl, rfl, e _ _ hp, e _ _ hp2, Evl.sz_of (by rw [← rs.length, ← rs2.length]; exact hl), fun n hn => ?_⟩
  have g := Grow.laid (o := .lst (vs ++ us)) e hn
  exact q (.ref n) _ _ g (.lst (Evl.fresh_back e0 hn) upd_same ((rs.append rs2).mono g.e))
/-- + of two lists, the result new -/
theorem rv_catO (hl : ds.length + es.length ≤ 100000) : Rv K false f1 rCat (.lst ds) (.lst es) (.lst (ds ++ es)) := fun G x y H0 ra rb H e e0 Q q => by
  obtain ⟨p, vs, rfl, fp, hp, rs⟩ := ra.lst_inv
  obtain ⟨p2, us, rfl, fp2, hp2, rs2⟩ := rb.lst_inv
  refine ⟨p, p2, vs, us, rfl, rfl, e _ _ hp, e _ _ hp2, Evl.sz_of (by rw [← rs.length, ← rs2.length]; exact hl), fun n hn => ?_⟩
  have g := Grow.laid (o := .lst (vs ++ us)) e hn
  exact q (.ref n) _ _ g (.lst trivial upd_same ((rs.append rs2).old.mono g.e))
/-- [x] * k -/
theorem rv_rep1 {k : Int} (h0 : 0 ≤ k) (h1 : k ≤ 100000) (hs : scalarD d = true) : Rv K f f1 rRep (.lst [d]) (.int k) (.lst (List.replicate k.toNat d)) := fun G x y H0 ra rb H e e0 Q q => by
  obtain ⟨p, vs, rfl, fp, hp, rs⟩ := ra.lst_inv
  cases rb
  cases rs with
  | cons r1 r2 =>
    cases r2
    rename_i w
    refine ⟨p, k, [w], rfl, rfl, e _ _ hp, by omega, by omega, Evl.sz_of (by simp; omega), fun n hn => ?_⟩
    have g := Grow.laid (o := .lst (List.replicate k.toNat [w]).flatten) e hn
    have eq : (List.replicate k.toNat [w]).flatten = List.replicate k.toNat w := by
      generalize k.toNat = m
      induction m with
      | zero => rfl
      | succ m ih => rw [List.replicate_succ, List.replicate_succ, List.flatten_cons, ih]; rfl
    have rr : RepA K (frh f H0) (upd G n (.lst (List.replicate k.toNat [w]).flatten)) (List.replicate k.toNat d) (List.replicate k.toNat [w]).flatten := by
      rw [eq]
      have r' : Rep K (frh f H0) (upd G n (.lst (List.replicate k.toNat w))) d w := r1.scalar hs
      generalize (upd G n (.lst (List.replicate k.toNat w))) = G9 at r'
      generalize k.toNat = m
      induction m with
      | zero => exact .nil
      | succ m ih => exact .cons r' ih
    refine q (.ref n) _ _ g (.lst ?_ upd_same rr)
    cases f with
    | true => exact Evl.fresh_back e0 hn
    | false => trivial

/-! displays -/
theorem ev_tup {ta : TA} (h : EvA K f ta σ G ds) (hl : ds.length ≤ 100000) : Ev K f (tTup ta) σ G (.tup ds) := fun H e Q q =>
  h H e _ fun vs G1 H1 g1 rs => ⟨Evl.sz_of (by rw [← rs.length]; exact hl), fun p hp =>
    have g := Grow.laid (o := .tup vs) g1.sub hp
    q (.ref p) _ _ (g1.trans g) (.tup (SqT.of upd_same) (rs.mono g.e))⟩
theorem evS_tup {ta : TA} {PA : List D → Prop} (h : EvAS K f ta σ G PA) (hl : ∀ ds, PA ds → ds.length ≤ 100000) (hp : ∀ ds, PA ds → P (.tup ds)) : EvS K f (tTup ta) σ G P := fun H e Q q =>
  h H e _ fun ds vs G1 H1 pds g1 rs => ⟨Evl.sz_of (by rw [← rs.length]; exact hl ds pds), fun p hp' =>
    have g := Grow.laid (o := .tup vs) g1.sub hp'
    q (.tup ds) (.ref p) _ _ (hp ds pds) (g1.trans g) (.tup (SqT.of upd_same) (rs.mono g.e))⟩
/-- a new list is a list -/
theorem EvL.ev (h : EvL K f te σ G ds) : Ev K f te σ G (.lst ds) := fun H e Q q =>
  h H e _ fun p vs G1 H1 g1 h1 h2 h3 rs => by
    have e1 : Ex G1 (upd G1 p (.lst vs)) := Ex.new h2
    refine q (.ref p) (upd G1 p (.lst vs)) H1 ⟨g1.e.trans e1, fun a o ha => ?_, g1.ext, fun a ha ha' => ?_⟩ (.lst ?_ upd_same (rs.mono e1))
    · by_cases hx : a = p
      · subst hx; rw [upd_same] at ha; cases ha; exact h3
      · rw [upd_ne hx] at ha; exact g1.sub a o ha
    · by_cases hx : a = p
      · subst hx; exact h1
      · rw [upd_ne hx] at ha'; exact g1.new a ha ha'
    · cases f with
      | true => exact h1
      | false => trivial
theorem evl_lst {ta : TA} (h : EvA K f ta σ G ds) (hl : ds.length ≤ 100000) : EvL K f (tLst ta) σ G ds := fun H e Q q =>
  h H e _ fun vs G1 H1 g1 rs => ⟨Evl.sz_of (by rw [← rs.length]; exact hl), fun p hp =>
    q p vs G1 _ (g1.trans (Grow.hid g1.sub hp)) (Evl.fresh_back g1.ext hp) (Evl.fresh_back g1.sub hp) upd_same rs⟩
theorem ev_lst {ta : TA} (h : EvA K f ta σ G ds) (hl : ds.length ≤ 100000) : Ev K f (tLst ta) σ G (.lst ds) := (evl_lst h hl).ev
theorem evS_lst {ta : TA} {PA : List D → Prop} (h : EvAS K f ta σ G PA) (hl : ∀ ds, PA ds → ds.length ≤ 100000) (hp : ∀ ds, PA ds → P (.lst ds)) : EvS K f (tLst ta) σ G P := fun H e Q q =>
  h H e _ fun ds vs G1 H1 pds g1 rs => ⟨Evl.sz_of (by rw [← rs.length]; exact hl ds pds), fun p hp' => by
    have g := Grow.laid (o := .lst vs) g1.sub hp'
    refine q (.lst ds) (.ref p) _ _ (hp ds pds) (g1.trans g) (.lst ?_ upd_same (rs.mono g.e))
    cases f with
    | true => exact Evl.fresh_back g1.ext hp'
    | false => trivial⟩

/-! slices -/
theorem eo_none : EvO K tNoPart σ G none := fun H e Q q => q G H (Grow.refl e)
theorem eo_some {i : Int} (h : Ev K false te σ G (.int i)) : EvO K (tPart te) σ G (some i) := fun H e Q q => h H e _ fun v G1 H1 g1 rv => ⟨i, rv.int_inv, q G1 H1 g1⟩
/-- the part lo .. hi of a list -/
def cutD {α : Type} (xs : List α) (lo hi : Option Int) : List α := (xs.drop (HT.sIx xs.length 0 lo)).take (HT.sIx xs.length xs.length hi - HT.sIx xs.length 0 lo)
theorem RepA.cut {fr : Option Hp} {vs : List V} (lo hi : Option Int) (h : RepA K fr H ds vs) : RepA K fr H (cutD ds lo hi) (cutV vs lo hi) := by
  unfold cutD cutV
  rw [h.length]
  exact (h.drop _).take _
theorem evl_sl {tl th : TO} {lo hi : Option Int} (h : Ev K f te σ G (.lst ds)) (h1 : EvO K tl σ G lo) (h2 : EvO K th σ G hi) : EvL K f (tSl (rSlL K) te tl th) σ G (cutD ds lo hi) := fun H e Q q =>
  h H e _ fun v G1 H1 g1 rv => (h1.mono g1.e) H1 g1.sub _ fun G2 H2 g2 => (h2.mono (g1.e.trans g2.e)) H2 g2.sub _ fun G3 H3 g3 => by
    obtain ⟨p, vs, rfl, _, hp, rs⟩ := rv.lst_inv
    have g := (g1.trans g2).trans g3
    refine ⟨p, vs, rfl, SqL.of (g3.sub _ _ (g3.e _ _ (g2.e _ _ hp))), fun n hn => q n _ G3 _ (g.trans (Grow.hid g.sub hn)) (Evl.fresh_back g.ext hn) (Evl.fresh_back g.sub hn) upd_same ((rs.mono (g2.e.trans g3.e)).cut lo hi)⟩
theorem ev_sl {tl th : TO} {lo hi : Option Int} (h : Ev K f te σ G (.lst ds)) (h1 : EvO K tl σ G lo) (h2 : EvO K th σ G hi) : Ev K f (tSl (rSlL K) te tl th) σ G (.lst (cutD ds lo hi)) := (evl_sl h h1 h2).ev

/-! built-in calls -/
theorem rc_len1 : Rc K f (fun xs H Q => ∃ p ys, xs = [.ref p] ∧ (SqL K H p ys ∨ SqT K H p ys) ∧ Q (.int ys.length) H) [.lst ds] (.int (ds.length : Int)) := fun G vs rs H e Q q => by
  cases rs with
  | cons r t =>
    cases t
    obtain ⟨p, us, rfl, _, hp, rr⟩ := r.lst_inv
    refine ⟨p, us, rfl, Or.inl (SqL.of (e _ _ hp)), ?_⟩
    rw [← rr.length]; exact q _ G H (Grow.refl e) (.int _)
theorem rc_len2 : Rc K f (fun xs H Q => ∃ p ys, xs = [.ref p] ∧ (SqL K H p ys ∨ SqT K H p ys) ∧ Q (.int ys.length) H) [.tup ds] (.int (ds.length : Int)) := fun G vs rs H e Q q => by
  cases rs with
  | cons r t =>
    cases t
    obtain ⟨p, us, rfl, hp, rr⟩ := r.tup_inv
    refine ⟨p, us, rfl, Or.inr (Evl.ex_t e hp), ?_⟩
    rw [← rr.length]; exact q _ G H (Grow.refl e) (.int _)
theorem rc_sum {ns : List Int} : Rc K f (rSum K) [.lst (ns.map D.int)] (.int ns.sum) := fun G vs rs H e Q q => by
  cases rs with
  | cons r t =>
    cases t
    obtain ⟨p, us, rfl, _, hp, rr⟩ := r.lst_inv
    cases rr.ints
    exact ⟨p, ns, rfl, SqL.of (e _ _ hp), q _ G H (Grow.refl e) (.int _)⟩
theorem rc_any {bs : List Bool} : Rc K f (rAny K) [.lst (bs.map D.bl)] (.bl (bs.any id)) := fun G vs rs H e Q q => by
  cases rs with
  | cons r t =>
    cases t
    obtain ⟨p, us, rfl, _, hp, rr⟩ := r.lst_inv
    cases rr.bools
    exact ⟨p, bs, rfl, SqL.of (e _ _ hp), q _ G H (Grow.refl e) (.bl _)⟩
theorem rc_all {bs : List Bool} : Rc K f (rAll K) [.lst (bs.map D.bl)] (.bl (bs.all id)) := fun G vs rs H e Q q => by
  cases rs with
  | cons r t =>
    cases t
    obtain ⟨p, us, rfl, _, hp, rr⟩ := r.lst_inv
    cases rr.bools
    exact ⟨p, bs, rfl, SqL.of (e _ _ hp), q _ G H (Grow.refl e) (.bl _)⟩
theorem rc_abs {i : Int} : Rc K f (fun xs H Q => ∃ i, xs = [.int i] ∧ Q (.int (if i < 0 then -i else i)) H) [.int i] (.int (if i < 0 then -i else i)) := fun G vs rs H e Q q => by
  cases rs with
  | cons r t => cases t; cases r; exact ⟨i, rfl, q _ G H (Grow.refl e) (.int _)⟩
theorem rc_max2 {i j : Int} : Rc K f (fun xs H Q => ∃ i j, xs = [.int i, .int j] ∧ Q (.int (if j > i then j else i)) H) [.int i, .int j] (.int (max i j)) := fun G vs rs H e Q q => by
  cases rs with
  | cons r t =>
    cases t with
    | cons r' t =>
      cases t; cases r; cases r'
      refine ⟨i, j, rfl, ?_⟩
      have h : (if j > i then j else i) = max i j := by split <;> omega
      rw [h]; exact q _ G H (Grow.refl e) (.int _)
theorem rc_min2 {i j : Int} : Rc K f (fun xs H Q => ∃ i j, xs = [.int i, .int j] ∧ Q (.int (if j < i then j else i)) H) [.int i, .int j] (.int (min i j)) := fun G vs rs H e Q q => by
  cases rs with
  | cons r t =>
    cases t with
    | cons r' t =>
      cases t; cases r; cases r'
      refine ⟨i, j, rfl, ?_⟩
      have h : (if j < i then j else i) = min i j := by split <;> omega
      rw [h]; exact q _ G H (Grow.refl e) (.int _)
theorem rc_int {i : Int} : Rc K f (fun xs H Q => (∃ i, xs = [.int i] ∧ Q (.int i) H) ∨ ∃ k, xs = [.bl k] ∧ Q (.int (if k then 1 else 0)) H) [.int i] (.int i) := fun G vs rs H e Q q => by
  cases rs with
  | cons r t => cases t; cases r; exact Or.inl ⟨i, rfl, q _ G H (Grow.refl e) (.int _)⟩
theorem rc_intB {i : Bool} : Rc K f (fun xs H Q => (∃ i, xs = [.int i] ∧ Q (.int i) H) ∨ ∃ k, xs = [.bl k] ∧ Q (.int (if k then 1 else 0)) H) [.bl i] (.int (if i then 1 else 0)) := fun G vs rs H e Q q => by
  cases rs with
  | cons r t => cases t; cases r; exact Or.inr ⟨i, rfl, q _ G H (Grow.refl e) (.int _)⟩
/-- list(x): the items as they are -/
theorem rc_listL : Rc K false (fun xs H Q => ∃ p ys, xs = [.ref p] ∧ (SqL K H p ys ∨ SqT K H p ys) ∧ ∀ l, H l = none → Q (.ref l) (upd H l (.lst ys))) [.lst ds] (.lst ds) := fun G vs rs H e Q q => by
  cases rs with
  | cons r t =>
    cases t
    obtain ⟨p, us, rfl, _, hp, rr⟩ := r.lst_inv
    refine ⟨p, us, rfl, Or.inl (SqL.of (e _ _ hp)), fun n hn => ?_⟩
    have g := Grow.laid (o := .lst us) e hn
    exact q (.ref n) _ _ g (.lst trivial upd_same (rr.mono g.e))
theorem rc_listT : Rc K false (fun xs H Q => ∃ p ys, xs = [.ref p] ∧ (SqL K H p ys ∨ SqT K H p ys) ∧ ∀ l, H l = none → Q (.ref l) (upd H l (.lst ys))) [.tup ds] (.lst ds) := fun G vs rs H e Q q => by
  cases rs with
  | cons r t =>
    cases t
    obtain ⟨p, us, rfl, hp, rr⟩ := r.tup_inv
    refine ⟨p, us, rfl, Or.inr (Evl.ex_t e hp), fun n hn => ?_⟩
    have g := Grow.laid (o := .lst us) e hn
    exact q (.ref n) _ _ g (.lst trivial upd_same (rr.mono g.e))
/-- data without lists within: old is new -/
theorem RepA.scalars {fr fr' : Option Hp} : ∀ {ds : List D} {vs : List V}, (∀ d ∈ ds, scalarD d = true) → RepA K fr H ds vs → RepA K fr' H' ds vs := by
  intro ds
  induction ds with
  | nil => intro vs _ h; cases h; exact .nil
  | cons d ds ih =>
    intro vs hs h
    cases h with
    | cons h t => exact .cons (h.scalar (hs d List.mem_cons_self)) (ih (fun x hx => hs x (List.mem_cons_of_mem _ hx)) t)
theorem rc_listLs (hs : ∀ d ∈ ds, scalarD d = true) : Rc K f (fun xs H Q => ∃ p ys, xs = [.ref p] ∧ (SqL K H p ys ∨ SqT K H p ys) ∧ ∀ l, H l = none → Q (.ref l) (upd H l (.lst ys))) [.lst ds] (.lst ds) := fun G vs rs H e Q q => by
  cases rs with
  | cons r t =>
    cases t
    obtain ⟨p, us, rfl, _, hp, rr⟩ := r.lst_inv
    refine ⟨p, us, rfl, Or.inl (SqL.of (e _ _ hp)), fun n hn => ?_⟩
    have g := Grow.laid (o := .lst us) e hn
    refine q (.ref n) _ _ g (.lst ?_ upd_same (rr.scalars hs))
    cases f with
    | true => exact hn
    | false => trivial
theorem rc_listTs (hs : ∀ d ∈ ds, scalarD d = true) : Rc K f (fun xs H Q => ∃ p ys, xs = [.ref p] ∧ (SqL K H p ys ∨ SqT K H p ys) ∧ ∀ l, H l = none → Q (.ref l) (upd H l (.lst ys))) [.tup ds] (.lst ds) := fun G vs rs H e Q q => by
  cases rs with
  | cons r t =>
    cases t
    obtain ⟨p, us, rfl, hp, rr⟩ := r.tup_inv
    refine ⟨p, us, rfl, Or.inr (Evl.ex_t e hp), fun n hn => ?_⟩
    have g := Grow.laid (o := .lst us) e hn
    refine q (.ref n) _ _ g (.lst ?_ upd_same (rr.scalars hs))
    cases f with
    | true => exact hn
    | false => trivial
/-- tuple(list) -/
theorem rc_tupL : Rc K false (fun xs H Q => ∃ p ys, xs = [.ref p] ∧ ((SqL K H p ys ∧ ∀ l, H l = none → Q (.ref l) (upd H l (.tup ys))) ∨ (SqT K H p ys ∧ Q (.ref p) H))) [.lst ds] (.tup ds) := fun G vs rs H e Q q => by
  cases rs with
  | cons r t =>
    cases t
    obtain ⟨p, us, rfl, _, hp, rr⟩ := r.lst_inv
    refine ⟨p, us, rfl, Or.inl ⟨SqL.of (e _ _ hp), fun n hn => ?_⟩⟩
    have g := Grow.laid (o := .tup us) e hn
    exact q (.ref n) _ _ g (.tup (SqT.of upd_same) (rr.mono g.e))
theorem rc_tupT : Rc K false (fun xs H Q => ∃ p ys, xs = [.ref p] ∧ ((SqL K H p ys ∧ ∀ l, H l = none → Q (.ref l) (upd H l (.tup ys))) ∨ (SqT K H p ys ∧ Q (.ref p) H))) [.tup ds] (.tup ds) := fun G vs rs H e Q q => by
  cases rs with
  | cons r t =>
    cases t
    obtain ⟨p, us, rfl, hp, rr⟩ := r.tup_inv
    exact ⟨p, us, rfl, Or.inr ⟨Evl.ex_t e hp, q (.ref p) G H (Grow.refl e) (.tup hp rr)⟩⟩
/-- sorted(ints) -/
theorem rc_sorted {ns ms : List Int} (hu : ∀ zs : List Int, zs.Perm ns → zs.Pairwise (· ≤ ·) → zs = ms) : Rc K f (rSortedI K) [.lst (ns.map D.int)] (.lst (ms.map D.int)) := fun G vs rs H e Q q => by
  cases rs with
  | cons r t =>
    cases t
    obtain ⟨p, us, rfl, _, hp, rr⟩ := r.lst_inv
    cases rr.ints
    refine ⟨p, ns, rfl, SqL.of (e _ _ hp), fun zs n h1 h2 hn => ?_⟩
    have hz := hu zs h1 h2
    rw [hz]
    have g := Grow.laid (o := .lst (ms.map V.int)) e hn
    refine q (.ref n) _ _ g (.lst ?_ upd_same (RepA.ofInts ms))
    cases f with
    | true => exact hn
    | false => trivial
end
end VL

/-! VL3: what a for walks, comprehensions, statements, loops, promises. -/
namespace VL
open PySem PySem.Spec PyProof.Rows L2
open Evl (Ex)

/-- what is given at turn i: some data of the i-th -/
def YR (K : Fr) (G : Hp) {α : Type} (xs : List α) (c : α → D) : Nat → Hp → V → Hp → Prop := fun i Hc x H' => ∃ a G2, xs[i]? = some a ∧ Grow G Hc G2 H' ∧ Rep K none G2 (c a) x
def EvI (K : Fr) (wi : TI) (σ : L2.St) (G : Hp) {α : Type} (xs : List α) (c : α → D) : Prop := ∀ H, Ex G H → ∀ R : It → Hp → Prop, (∀ J G' H', Grow G H G' H' → Walk J xs.length (fun H => Ex G' H) (YR K G' xs c) → R J H') → wi σ H R
def iOr (w1 w2 : TI) : TI := fun σ H R => w1 σ H R ∨ w2 σ H R
theorem pi_or {X : Cx} {tg e : Expr} {w1 w2 : TI} (h1 : PI X tg e w1) (h2 : PI X tg e w2) : PI X tg e (iOr w1 w2) :=
  ⟨fun pins s σ H R I h => h.elim (fun z => h1.run pins s σ H R I z) fun z => h2.run pins s σ H R I z⟩
def eOr (t1 t2 : TE) : TE := fun σ H Q => t1 σ H Q ∨ t2 σ H Q
theorem pe_or2 {X : Cx} {e : Expr} {t1 t2 : TE} (h1 : PE X e t1) (h2 : PE X e t2) : PE X e (eOr t1 t2) :=
  ⟨fun pins s σ H Q I h => h.elim (fun z => h1.run pins s σ H Q I z) fun z => h2.run pins s σ H Q I z⟩

/-- lo, lo + 1, .. -/
def rng (lo : Int) (n : Nat) : List Int := (List.range n).map fun i : Nat => lo + (i : Int)
theorem rng_length (lo : Int) (n : Nat) : (rng lo n).length = n := by unfold rng; rw [List.length_map, List.length_range]
theorem rng_get {lo : Int} {n i : Nat} (h : i < n) : (rng lo n)[i]? = some (lo + (i : Int)) := by
  unfold rng
  rw [List.getElem?_map, List.getElem?_range h]
  rfl
theorem mem_rng {lo x : Int} {n : Nat} : x ∈ rng lo n ↔ lo ≤ x ∧ x < lo + (n : Int) := by
  unfold rng
  rw [List.mem_map]
  constructor
  · rintro ⟨i, hi, rfl⟩
    have := List.mem_range.mp hi
    omega
  · rintro ⟨h1, h2⟩
    exact ⟨(x - lo).toNat, List.mem_range.mpr (by omega), by omega⟩
/-- the items with their numbers -/
def enumL {α : Type} : Nat → List α → List (Int × α)
  | _, [] => []
  | n, x :: xs => ((n : Int), x) :: enumL (n + 1) xs
theorem enumL_length {α : Type} : ∀ (n : Nat) (xs : List α), (enumL n xs).length = xs.length
  | _, [] => rfl
  | n, x :: xs => by unfold enumL; rw [List.length_cons, List.length_cons, enumL_length]
theorem enumL_get {α : Type} : ∀ {n : Nat} {xs : List α} {i : Nat} {x : α}, xs[i]? = some x → (enumL n xs)[i]? = some (((n + i : Nat) : Int), x)
  | n, [], i, x, h => by simp at h
  | n, y :: ys, 0, x, h => by simp at h; subst h; rfl
  | n, y :: ys, i + 1, x, h => by
    have q := enumL_get (n := n + 1) (xs := ys) (i := i) (x := x) (by simpa using h)
    have e : n + 1 + i = n + (i + 1) := by omega
    rw [e] at q
    simpa [enumL] using q
theorem mem_enumL {α : Type} : ∀ {n : Nat} {xs : List α} {p : Int × α}, p ∈ enumL n xs → ∃ i : Nat, xs[i]? = some p.2 ∧ p.1 = ((n + i : Nat) : Int)
  | n, [], p, h => by simp [enumL] at h
  | n, y :: ys, p, h => by
    unfold enumL at h
    rcases List.mem_cons.mp h with rfl | h
    · exact ⟨0, rfl, by simp⟩
    · obtain ⟨i, h1, h2⟩ := mem_enumL h
      exact ⟨i + 1, by simpa using h1, by rw [h2]; congr 1; omega⟩

section
variable {K : Fr} {f : Bool} {σ : L2.St} {G H : Hp} {te ta tb : TE} {d : D} {α : Type} {xs : List α} {c : α → D} {wi : TI}
theorem getm {i : Nat} {d : D} (h : (xs.map c)[i]? = some d) : ∃ a, xs[i]? = some a ∧ d = c a := by
  rw [List.getElem?_map] at h
  cases q : xs[i]? with
  | none => rw [q] at h; cases h
  | some a => rw [q] at h; exact ⟨a, rfl, (Option.some.inj h).symm⟩
theorem ei_list {tl : TE} (h : Ev K false tl σ G (.lst (xs.map c))) : EvI K (iList K tl) σ G xs c := fun H e R q =>
  h H e _ fun v G1 H1 g1 rv => by
    obtain ⟨p, vs, rfl, _, hp, rs⟩ := rv.lst_inv
    refine ⟨p, rfl, ⟨vs, SqL.of (g1.sub _ _ hp)⟩, q _ G1 H1 g1 ?_⟩
    have hl : xs.length = vs.length := by rw [← rs.length, List.length_map]
    rw [hl]
    refine Walk.mono walk_list (fun H2 e2 => SqL.of (e2 _ _ hp)) fun i H2 x H3 hi e2 y => ?_
    obtain ⟨rfl, hx⟩ := y
    obtain ⟨d, hd, rd⟩ := rs.getV hx
    obtain ⟨a, ha, rfl⟩ := getm hd
    exact ⟨a, G1, ha, Grow.refl e2, rd⟩
theorem ei_tup {tl : TE} (h : Ev K false tl σ G (.tup (xs.map c))) : EvI K (iTup K tl) σ G xs c := fun H e R q =>
  h H e _ fun v G1 H1 g1 rv => by
    obtain ⟨p, vs, rfl, hp, rs⟩ := rv.tup_inv
    refine ⟨p, rfl, ⟨vs, Evl.ex_t g1.sub hp⟩, q _ G1 H1 g1 ?_⟩
    have hl : xs.length = vs.length := by rw [← rs.length, List.length_map]
    rw [hl]
    refine Walk.mono walk_tup (fun H2 e2 => Evl.ex_t e2 hp) fun i H2 x H3 hi e2 y => ?_
    obtain ⟨rfl, hx⟩ := y
    obtain ⟨d, hd, rd⟩ := rs.getV hx
    obtain ⟨a, ha, rfl⟩ := getm hd
    exact ⟨a, G1, ha, Grow.refl e2, rd⟩
theorem ei_left {w1 w2 : TI} (h : EvI K w1 σ G xs c) : EvI K (iOr w1 w2) σ G xs c := fun H e R q => Or.inl (h H e R q)
theorem ei_right {w1 w2 : TI} (h : EvI K w2 σ G xs c) : EvI K (iOr w1 w2) σ G xs c := fun H e R q => Or.inr (h H e R q)
theorem ev_left {t1 t2 : TE} (h : Ev K f t1 σ G d) : Ev K f (eOr t1 t2) σ G d := fun H e R q => Or.inl (h H e R q)
theorem ev_right {t1 t2 : TE} (h : Ev K f t2 σ G d) : Ev K f (eOr t1 t2) σ G d := fun H e R q => Or.inr (h H e R q)
theorem ei_rng1 {ta : TA} {n : Int} (h : EvA K false ta σ G [.int n]) (h1 : -(2 ^ 62) ≤ n) (h2 : n < 2 ^ 62) : EvI K (iRng1 ta) σ G (rng 0 n.toNat) D.int := fun H e R q =>
  h H e _ fun vs G1 H1 g1 rs => by
    cases rs with
    | cons r t =>
      cases t
      cases r
      refine ⟨n, rfl, h1, h2, q _ G1 H1 g1 ?_⟩
      rw [rng_length]
      refine Walk.mono walk_range (fun _ _ => trivial) fun i H2 x H3 hi e2 y => ?_
      obtain ⟨rfl, rfl⟩ := y
      exact ⟨_, G1, rng_get hi, Grow.refl e2, .int _⟩
theorem ei_rng2 {ta : TA} {a b : Int} (h : EvA K false ta σ G [.int a, .int b]) (hb : -(2 ^ 62) ≤ a ∧ a < 2 ^ 62 ∧ -(2 ^ 62) ≤ b ∧ b < 2 ^ 62) : EvI K (iRng2 ta) σ G (rng a (b - a).toNat) D.int := fun H e R q =>
  h H e _ fun vs G1 H1 g1 rs => by
    cases rs with
    | cons r t =>
      cases t with
      | cons r' t =>
        cases t; cases r; cases r'
        refine ⟨a, b, rfl, hb, q _ G1 H1 g1 ?_⟩
        rw [rng_length]
        refine Walk.mono walk_range (fun _ _ => trivial) fun i H2 x H3 hi e2 y => ?_
        obtain ⟨rfl, rfl⟩ := y
        exact ⟨_, G1, rng_get hi, Grow.refl e2, .int _⟩
theorem rep_pair {G H : Hp} {p : Addr} {n : Int} {d : D} {v : V} (e : Ex G H) (hn : H p = none) (r : Rep K none G d v) : Grow G H (upd G p (.tup [.int n, v])) (upd H p (.tup [.int n, v])) ∧ Rep K none (upd G p (.tup [.int n, v])) (.tup [.int n, d]) (.ref p) :=
  have g := Grow.laid (o := .tup [.int n, v]) e hn
  ⟨g, .tup (SqT.of upd_same) (.cons (.int n) (.cons (r.mono g.e) .nil))⟩
theorem ei_enum {ta : TA} (h : EvA K false ta σ G [.lst (xs.map c)]) : EvI K (iEnum K ta) σ G (enumL 0 xs) (fun p => .tup [.int p.1, c p.2]) := fun H e R q =>
  h H e _ fun vs G1 H1 g1 rs => by
    cases rs with
    | cons r t =>
      cases t
      obtain ⟨p, us, rfl, _, hp, rr⟩ := r.lst_inv
      refine ⟨p, us, rfl, SqL.of (g1.sub _ _ hp), q _ G1 H1 g1 ?_⟩
      have hl : xs.length = us.length := by rw [← rr.length, List.length_map]
      rw [enumL_length, hl]
      refine Walk.mono walk_enum (fun H2 e2 => SqL.of (e2 _ _ hp)) fun i H2 x H3 hi e2 y => ?_
      obtain ⟨T, x1, x2, rfl, hT, rfl, h1, h2⟩ := y
      cases h1
      obtain ⟨d, hd, rd⟩ := rr.getV h2
      obtain ⟨a, ha, rfl⟩ := getm hd
      obtain ⟨g, r2⟩ := rep_pair (n := (i : Int)) e2 hT rd
      exact ⟨_, _, enumL_get ha, g, by simpa using r2⟩
end

/-! ### targets -/
/-- the target g takes data d: the slots behind it are of S -/
def Tgt (K : Fr) (g : TG) (σ : L2.St) (d : D) (G : Hp) (S : L2.St → Prop) : Prop := ∀ v, Rep K none G d v → ∀ H, Ex G H → ∀ Q : L2.St → Hp → Prop, (∀ σ', S σ' → Q σ' H) → g v σ H Q
section
variable {K : Fr} {σ : L2.St} {G : Hp} {d d1 d2 : D} {S S1 : L2.St → Prop} {g g1 g2 : TG} {i : Nat}
theorem tg_name : Tgt K (gName i) σ d G (fun σ' => ∃ v, Rep K none G d v ∧ σ' = σ.set i (some v)) := fun v r H e Q q => q _ ⟨v, r, rfl⟩
theorem tg_int {n : Int} : Tgt K (gName i) σ (.int n) G (fun σ' => σ' = σ.set i (some (.int n))) := fun v r H e Q q => by cases r; exact q _ rfl
theorem tg_pair {S2 : L2.St → L2.St → Prop} (h1 : Tgt K g1 σ d1 G S1) (h2 : ∀ σ1, S1 σ1 → Tgt K g2 σ1 d2 G (S2 σ1)) : Tgt K (gTup K 2 (gCons g1 (gCons g2 gNil))) σ (.tup [d1, d2]) G (fun σ' => ∃ σ1, S1 σ1 ∧ S2 σ1 σ') := fun v r H e Q q => by
  obtain ⟨a, vs, rfl, ha, rs⟩ := r.tup_inv
  cases rs with
  | cons r1 t =>
    cases t with
    | cons r2 t =>
      cases t
      refine ⟨a, _, rfl, Evl.ex_t e ha, rfl, _, _, rfl, ?_⟩
      exact h1 _ r1 H e _ fun σ1 s1 => ⟨_, _, rfl, h2 σ1 s1 _ r2 H e _ fun σ2 s2 => ⟨rfl, q _ ⟨σ1, s1, s2⟩⟩⟩
theorem tg_triple {g3 : TG} {d3 : D} {S2 S3 : L2.St → L2.St → Prop} (h1 : Tgt K g1 σ d1 G S1) (h2 : ∀ σ1, S1 σ1 → Tgt K g2 σ1 d2 G (S2 σ1)) (h3 : ∀ σ1 σ2, S1 σ1 → S2 σ1 σ2 → Tgt K g3 σ2 d3 G (S3 σ2)) : Tgt K (gTup K 3 (gCons g1 (gCons g2 (gCons g3 gNil)))) σ (.tup [d1, d2, d3]) G (fun σ' => ∃ σ1 σ2, S1 σ1 ∧ S2 σ1 σ2 ∧ S3 σ2 σ') := fun v r H e Q q => by
  obtain ⟨a, vs, rfl, ha, rs⟩ := r.tup_inv
  cases rs with
  | cons r1 t =>
    cases t with
    | cons r2 t =>
      cases t with
      | cons r3 t =>
        cases t
        refine ⟨a, _, rfl, Evl.ex_t e ha, rfl, _, _, rfl, ?_⟩
        exact h1 _ r1 H e _ fun σ1 s1 => ⟨_, _, rfl, h2 σ1 s1 _ r2 H e _ fun σ2 s2 => ⟨_, _, rfl, h3 σ1 σ2 s1 s2 _ r3 H e _ fun σ3 s3 => ⟨rfl, q _ ⟨σ1, σ2, s1, s2, s3⟩⟩⟩⟩
theorem Tgt.imp {S' : L2.St → Prop} (h : Tgt K g σ d G S) (hs : ∀ σ', S σ' → S' σ') : Tgt K g σ d G S' := fun v r H e Q q => h v r H e Q fun σ' s => q σ' (hs σ' s)
end

/-! ### comprehensions -/
theorem take_next {α : Type} {xs : List α} {i : Nat} {a : α} (h : xs[i]? = some a) : xs.take (i + 1) = xs.take i ++ [a] := by
  rw [List.take_add_one, h]; rfl
section
variable {K : Fr} {f : Bool} {σ : L2.St} {G H : Hp} {te : TE} {tt : TT} {g : TG} {vs : List Nat} {α : Type} {xs : List α} {c : α → D} {wi : TI} {b : α → Bool} {h : α → D} {S : α → Hp → L2.St → Prop}
theorem evl_lc (hi : EvI K wi σ G xs c) (hl : xs.length ≤ 50000) (hw : ∀ a G1 σ', S a G1 σ' → wipe σ' vs = wipe σ vs)
    (hg : ∀ a ∈ xs, ∀ G1, Ex G G1 → Tgt K g (wipe σ vs) (c a) G1 (S a G1))
    (ht : ∀ a ∈ xs, ∀ G1, Ex G G1 → ∀ σ', S a G1 σ' → EvT K tt σ' G1 (b a))
    (he : ∀ a ∈ xs, b a = true → ∀ G1, Ex G G1 → ∀ σ', S a G1 σ' → Ev K f te σ' G1 (h a)) : EvL K f (tLc wi g tt te vs) σ G ((xs.filter b).map h) := fun H e Q q =>
  hi H e _ fun J G1 H1 g1 W => fun L hL => by
    have hLH : H L = none := g1.free hL
    refine lc_it W (fun i Hc => ∃ Gc acc, Grow G H Gc Hc ∧ Ex G1 Gc ∧ Gc L = none ∧ Hc L = some (.lst acc) ∧ RepA K (frh f H) Gc (((xs.take i).filter b).map h) acc) ?_ ?_ ?_ ?_
    · exact ⟨G1, [], g1.trans (Grow.hid g1.sub hL), Ex.refl _, Evl.fresh_back g1.sub hL, upd_same, by simpa using RepA.nil⟩
    · rintro i Hc hi' ⟨Gc, acc, gc, e1, _, _, _⟩
      exact e1.trans gc.sub
    · rintro i x Hc H2 hi' ⟨Gc, acc, gc, e1, nL, hcL, rs⟩ ⟨a, G2, ha, g2, rx⟩
      obtain ⟨g3, e3⟩ := g2.on e1 gc.sub
      have ma : a ∈ xs := List.mem_of_getElem? ha
      have k2 := g3.keep hcL nL
      have lenA : acc.length ≤ xs.length := by
        rw [← rs.length, List.length_map]
        refine Nat.le_trans (List.length_filter_le _ _) ?_
        rw [List.length_take]; exact Nat.min_le_right _ _
      refine hg a ma _ (gc.e.trans g3.e) x (rx.mono e3) H2 g3.sub _ fun σ' sσ => ⟨hw a _ σ' sσ, ?_⟩
      refine ht a ma _ (gc.e.trans g3.e) σ' sσ H2 g3.sub _ fun G4 H4 g4 => ?_
      have k4 := g4.keep k2.1 k2.2
      cases hb : b a with
      | true =>
        refine ((he a ma hb _ (gc.e.trans g3.e) σ' sσ).mono g4.e) H4 g4.sub _ fun y G5 H5 g5 ry => ?_
        have k5 := g5.keep k4.1 k4.2
        have gA := ((gc.trans g3).trans g4)
        refine ⟨acc, k5.1, Evl.sz_lt (by omega), G5, acc ++ [y], (gA.trans g5).put hLH k5.2, e1.trans (g3.e.trans (g4.e.trans g5.e)), k5.2, upd_same, ?_⟩
        rw [take_next ha, List.filter_append, List.map_append, List.filter_cons, if_pos hb]
        exact (rs.mono (g3.e.trans (g4.e.trans g5.e))).append (.cons (ry.h2 gA.ext) .nil)
      | false =>
        refine ⟨G4, acc, (gc.trans g3).trans g4, e1.trans (g3.e.trans g4.e), k4.2, k4.1, ?_⟩
        rw [take_next ha, List.filter_append, List.map_append, List.filter_cons, if_neg (by rw [hb]; decide)]
        have z := rs.mono (g3.e.trans g4.e)
        simpa using z
    · rintro Hc ⟨Gc, acc, gc, e1, nL, hcL, rs⟩
      rw [List.take_length] at rs
      exact q L acc Gc Hc gc hLH nL hcL rs
theorem filter_yes : ∀ xs : List α, xs.filter (fun _ => true) = xs
  | [] => rfl
  | x :: xs => by rw [List.filter_cons, if_pos rfl, filter_yes xs]
/-- without a test -/
theorem evl_lc0 (hi : EvI K wi σ G xs c) (hl : xs.length ≤ 50000) (hw : ∀ a G1 σ', S a G1 σ' → wipe σ' vs = wipe σ vs)
    (hg : ∀ a ∈ xs, ∀ G1, Ex G G1 → Tgt K g (wipe σ vs) (c a) G1 (S a G1))
    (he : ∀ a ∈ xs, ∀ G1, Ex G G1 → ∀ σ', S a G1 σ' → Ev K f te σ' G1 (h a)) : EvL K f (tLc wi g tYes te vs) σ G (xs.map h) := by
  have z := evl_lc (b := fun _ => true) hi hl hw hg (fun a ma G1 e σ' s => et_yes) (fun a ma _ G1 e σ' s => he a ma G1 e σ' s)
  rw [filter_yes] at z
  exact z
/-- the elements (and the tests) are drawn: which lists may come -/
inductive LcR {α : Type} (T : α → Bool → Prop) (E : α → D → Prop) : List α → List D → Prop
  | nil : LcR T E [] []
  | skip {a : α} {as : List α} {ds : List D} : T a false → LcR T E as ds → LcR T E (a :: as) ds
  | take {a : α} {as : List α} {d : D} {ds : List D} : T a true → E a d → LcR T E as ds → LcR T E (a :: as) (d :: ds)
theorem LcR.skipR {T : α → Bool → Prop} {E : α → D → Prop} {a : α} (ht : T a false) : ∀ {as : List α} {ds : List D}, LcR T E as ds → LcR T E (as ++ [a]) ds
  | _, _, .nil => .skip ht .nil
  | _, _, .skip h t => .skip h (LcR.skipR ht t)
  | _, _, .take h e t => .take h e (LcR.skipR ht t)
theorem LcR.takeR {T : α → Bool → Prop} {E : α → D → Prop} {a : α} {d : D} (ht : T a true) (hd : E a d) : ∀ {as : List α} {ds : List D}, LcR T E as ds → LcR T E (as ++ [a]) (ds ++ [d])
  | _, _, .nil => .take ht hd .nil
  | _, _, .skip h t => .skip h (LcR.takeR ht hd t)
  | _, _, .take h e t => .take h e (LcR.takeR ht hd t)
theorem LcR.len {T : α → Bool → Prop} {E : α → D → Prop} : ∀ {as : List α} {ds : List D}, LcR T E as ds → ds.length ≤ as.length
  | _, _, .nil => Nat.le_refl _
  | _, _, .skip h t => Nat.le_succ_of_le (LcR.len t)
  | _, _, .take h e t => Nat.succ_le_succ (LcR.len t)
def EvTS (_ : Fr) (tt : TT) (σ : L2.St) (G : Hp) (T : Bool → Prop) : Prop := ∀ H, Ex G H → ∀ Q : Bool → Hp → Prop, (∀ b G' H', T b → Grow G H G' H' → Q b H') → tt σ H Q
theorem evS_lc {T : α → Bool → Prop} {E : α → D → Prop} (hi : EvI K wi σ G xs c) (hl : xs.length ≤ 50000) (hw : ∀ a G1 σ', S a G1 σ' → wipe σ' vs = wipe σ vs)
    (hg : ∀ a ∈ xs, ∀ G1, Ex G G1 → Tgt K g (wipe σ vs) (c a) G1 (S a G1))
    (ht : ∀ a ∈ xs, ∀ G1, Ex G G1 → ∀ σ', S a G1 σ' → EvTS K tt σ' G1 (T a))
    (he : ∀ a ∈ xs, ∀ G1, Ex G G1 → ∀ σ', S a G1 σ' → EvS K f te σ' G1 (E a)) : EvS K f (tLc wi g tt te vs) σ G (fun d => ∃ ds, d = .lst ds ∧ LcR T E xs ds) := fun H e Q q =>
  hi H e _ fun J G1 H1 g1 W => fun L hL => by
    have hLH : H L = none := g1.free hL
    refine lc_it W (fun i Hc => ∃ Gc acc ds, Grow G H Gc Hc ∧ Ex G1 Gc ∧ Gc L = none ∧ Hc L = some (.lst acc) ∧ LcR T E (xs.take i) ds ∧ RepA K (frh f H) Gc ds acc) ?_ ?_ ?_ ?_
    · exact ⟨G1, [], [], g1.trans (Grow.hid g1.sub hL), Ex.refl _, Evl.fresh_back g1.sub hL, upd_same, by simpa using LcR.nil, RepA.nil⟩
    · rintro i Hc hi' ⟨Gc, acc, ds, gc, e1, _, _, _, _⟩
      exact e1.trans gc.sub
    · rintro i x Hc H2 hi' ⟨Gc, acc, ds, gc, e1, nL, hcL, lr, rs⟩ ⟨a, G2, ha, g2, rx⟩
      obtain ⟨g3, e3⟩ := g2.on e1 gc.sub
      have ma : a ∈ xs := List.mem_of_getElem? ha
      have k2 := g3.keep hcL nL
      have lenA : acc.length ≤ xs.length := by
        rw [← rs.length]
        refine Nat.le_trans lr.len ?_
        rw [List.length_take]; exact Nat.min_le_right _ _
      refine hg a ma _ (gc.e.trans g3.e) x (rx.mono e3) H2 g3.sub _ fun σ' sσ => ⟨hw a _ σ' sσ, ?_⟩
      refine ht a ma _ (gc.e.trans g3.e) σ' sσ H2 g3.sub _ fun bb G4 H4 tb g4 => ?_
      have k4 := g4.keep k2.1 k2.2
      cases bb with
      | true =>
        refine ((he a ma _ (gc.e.trans g3.e) σ' sσ).mono g4.e) H4 g4.sub _ fun d y G5 H5 pd g5 ry => ?_
        have k5 := g5.keep k4.1 k4.2
        have gA := ((gc.trans g3).trans g4)
        refine ⟨acc, k5.1, Evl.sz_lt (by omega), G5, acc ++ [y], ds ++ [d], (gA.trans g5).put hLH k5.2, e1.trans (g3.e.trans (g4.e.trans g5.e)), k5.2, upd_same, ?_, ?_⟩
        · rw [take_next ha]; exact lr.takeR tb pd
        · exact (rs.mono (g3.e.trans (g4.e.trans g5.e))).append (.cons (ry.h2 gA.ext) .nil)
      | false =>
        refine ⟨G4, acc, ds, (gc.trans g3).trans g4, e1.trans (g3.e.trans g4.e), k4.2, k4.1, ?_, rs.mono (g3.e.trans g4.e)⟩
        rw [take_next ha]; exact lr.skipR tb
    · rintro Hc ⟨Gc, acc, ds, gc, e1, nL, hcL, lr, rs⟩
      rw [List.take_length] at lr
      have e2 : Ex Gc (upd Gc L (.lst acc)) := Ex.new nL
      refine q (.lst ds) (.ref L) (upd Gc L (.lst acc)) Hc ⟨ds, rfl, lr⟩ ⟨gc.e.trans e2, fun a o ha => ?_, gc.ext, fun a ha ha' => ?_⟩ (.lst ?_ upd_same (rs.mono e2))
      · by_cases hx : a = L
        · subst hx; rw [upd_same] at ha; cases ha; exact hcL
        · rw [upd_ne hx] at ha; exact gc.sub a o ha
      · by_cases hx : a = L
        · subst hx; exact hLH
        · rw [upd_ne hx] at ha'; exact gc.new a ha ha'
      · cases f with
        | true => exact hLH
        | false => trivial
theorem EvT.toS {x : Bool} (h : EvT K tt σ G x) : EvTS K tt σ G (fun y => y = x) := fun H e Q q => h H e Q fun G' H' g => q x G' H' rfl g
theorem etS_test {P : D → Prop} {T : Bool → Prop} (h : EvS K f te σ G P) (hp : ∀ d, P d → ∃ b, d = .bl b ∧ T b) : EvTS K (tTest te) σ G T := fun H e Q q => h H e _ fun d v G1 H1 pd g1 rv => by
  obtain ⟨b, rfl, tb⟩ := hp d pd
  exact ⟨b, rv.bl_inv, q b G1 H1 tb g1⟩
end

/-! ### statements -/
section
variable {K : Fr} {f : Bool} {σ : L2.St} {G H G0 H0 : Hp} {te ta tb : TE} {tt : TT} {g : TG} {De : Ends} {tu tw : TS} {P : D → Prop} {d : D} {ds : List D} {i : Nat}
theorem s_asgS {σf : V → L2.St} (e : Ex G H) (h : EvS K f te σ G P) (k : ∀ d v G' H', P d → Grow G H G' H' → Rep K (frh f H) G' d v → De.nx (σf v) H') (hσ : ∀ v, σ.set i (some v) = σf v := by intro v; simp only [L2.start, List.map_cons, List.map_nil, List.length_cons, List.length_nil, List.cons_append, List.nil_append, Nat.reduceAdd, Nat.reduceSub, List.replicate_succ, List.replicate_zero, List.set_cons_zero, List.set_cons_succ]; rfl) : tAsg te (gName i) De σ H := h H e _ fun d v G' H' pd g r => by
  show De.nx (σ.set i (some v)) H'
  rw [hσ v]; exact k d v G' H' pd g r
theorem s_asg {σf : V → L2.St} (e : Ex G H) (h : Ev K f te σ G d) (k : ∀ v G' H', Grow G H G' H' → Rep K (frh f H) G' d v → De.nx (σf v) H') (hσ : ∀ v, σ.set i (some v) = σf v := by intro v; simp only [L2.start, List.map_cons, List.map_nil, List.length_cons, List.length_nil, List.cons_append, List.nil_append, Nat.reduceAdd, Nat.reduceSub, List.replicate_succ, List.replicate_zero, List.set_cons_zero, List.set_cons_succ]; rfl) : tAsg te (gName i) De σ H := h H e _ fun v G' H' g r => by
  show De.nx (σ.set i (some v)) H'
  rw [hσ v]; exact k v G' H' g r
theorem s_asgL {σf : V → L2.St} (e : Ex G H) (h : EvL K f te σ G ds) (k : ∀ p vs G' H', Grow G H G' H' → H p = none → G' p = none → H' p = some (.lst vs) → RepA K (frh f H) G' ds vs → De.nx (σf (.ref p)) H') (hσ : ∀ v, σ.set i (some v) = σf v := by intro v; simp only [L2.start, List.map_cons, List.map_nil, List.length_cons, List.length_nil, List.cons_append, List.nil_append, Nat.reduceAdd, Nat.reduceSub, List.replicate_succ, List.replicate_zero, List.set_cons_zero, List.set_cons_succ]; rfl) : tAsg te (gName i) De σ H := h H e _ fun p vs G' H' g h1 h2 h3 r => by
  show De.nx (σ.set i (some (.ref p))) H'
  rw [hσ (.ref p)]; exact k p vs G' H' g h1 h2 h3 r
/-- a target of any form -/
theorem s_asgG {S : Hp → L2.St → Prop} (e : Ex G H) (h : EvS K f te σ G P) (hg : ∀ d, P d → ∀ G1, Ex G G1 → Tgt K g σ d G1 (S G1)) (k : ∀ d σ' G' H', P d → Grow G H G' H' → S G' σ' → De.nx σ' H') : tAsg te g De σ H := h H e _ fun d v G' H' pd g1 r =>
  hg d pd G' g1.e v r.old H' g1.sub _ fun σ' s => k d σ' G' H' pd g1 s
theorem s_retS (e : Ex G H) (h : EvS K f te σ G P) (k : ∀ d v G' H', P d → Grow G H G' H' → Rep K (frh f H) G' d v → De.rt v H') : tRet te De σ H := h H e _ fun d v G' H' pd g r => k d v G' H' pd g r
theorem s_ret (e : Ex G H) (h : Ev K f te σ G d) (k : ∀ v G' H', Grow G H G' H' → Rep K (frh f H) G' d v → De.rt v H') : tRet te De σ H := h H e _ fun v G' H' g r => k v G' H' g r
theorem s_if {x : Bool} (e : Ex G H) (h : EvT K tt σ G x) (h1 : x = true → ∀ G' H', Grow G H G' H' → tu De σ H') (h2 : x = false → ∀ G' H', Grow G H G' H' → tw De σ H') : tIfS tt tu tw De σ H := h H e _ fun G' H' g => by
  cases x with
  | true => exact h1 rfl G' H' g
  | false => exact h2 rfl G' H' g
theorem s_ifS {T : Bool → Prop} (e : Ex G H) (h : EvTS K tt σ G T) (h1 : T true → ∀ G' H', Grow G H G' H' → tu De σ H') (h2 : T false → ∀ G' H', Grow G H G' H' → tw De σ H') : tIfS tt tu tw De σ H := h H e _ fun b G' H' tb g => by
  cases b with
  | true => exact h1 tb G' H' g
  | false => exact h2 tb G' H' g
/-- xs.append(e), xs written -/
theorem s_app {p : Addr} {vs : List V} (e : Ex G H) (hv : σ[i]? = some (some (.ref p))) (hp : H p = some (.lst vs)) (hn : G p = none) (hl : vs.length < 100000) (h : EvS K f te σ G P)
    (k : ∀ d v G' H', P d → Grow G H G' H' → Rep K (frh f H) G' d v → H' p = some (.lst vs) → G' p = none → De.nx σ (upd H' p (.lst (vs ++ [v])))) : tDrop (tBM K "list" rAppend (tVar i) (tCons te tNil)) De σ H :=
  ⟨.ref p, hv, Or.inl ⟨rfl, vs, SqL.of hp⟩, h H e _ fun d v G' H' pd g r =>
    have z := g.keep hp hn
    ⟨p, vs, v, rfl, rfl, z.1, Evl.sz_lt hl, k d v G' H' pd g r z.1 z.2⟩⟩
/-- xs[j] = e, xs written -/
theorem s_set {p : Addr} {vs : List V} {j : Nat} {ti : TE} (e : Ex G H) (hv : σ[i]? = some (some (.ref p))) (hp : H p = some (.lst vs)) (hn : G p = none) (hj : j < vs.length) (h : EvS K f te σ G P) (hi : Ev K false ti σ G (.int (j : Int)))
    (k : ∀ d v G' H', P d → Grow G H G' H' → Rep K (frh f H) G' d v → H' p = some (.lst vs) → G' p = none → De.nx σ (upd H' p (.lst (vs.set j v)))) : tAsg te (gSub (tVar i) ti rSetL) De σ H :=
  h H e _ fun d v G1 H1 pd g1 r => ⟨.ref p, hv, (hi.mono g1.e) H1 g1.sub _ fun w G2 H2 g2 rw => by
    cases rw
    have z := (g1.trans g2).keep hp hn
    exact ⟨p, vs, (j : Int), j, rfl, rfl, z.1, Evl.ixN_nat hj, k d v G2 H2 pd (g1.trans g2) (r.mono g2.e) z.1 z.2⟩⟩
/-- a loop: Pv by the turn, the slots, what is known, the heap -/
theorem s_for {α : Type} {xs : List α} {c : α → D} {wi : TI} {S : α → L2.St → Hp → L2.St → Prop} (g0 : Grow G0 H0 G H) (hi : EvI K wi σ G xs c) (Pv : Nat → L2.St → Hp → Hp → Prop)
    (h0 : ∀ G' H', Grow G H G' H' → Pv 0 σ G' H')
    (hg : ∀ a ∈ xs, ∀ i σ1 G1 H1 G2, Pv i σ1 G1 H1 → Ex G1 G2 → Tgt K g σ1 (c a) G2 (S a σ1 G2))
    (hs : ∀ i a σ1 G1 H1 G2 H2 σ2, xs[i]? = some a → Ex G G1 → Grow G0 H0 G1 H1 → Pv i σ1 G1 H1 → Grow G1 H1 G2 H2 → S a σ1 G2 σ2 → ∀ N : L2.St → Hp → Prop, (∀ σ' G' H', Ex G1 G' → Grow G0 H0 G' H' → Pv (i + 1) σ' G' H' → N σ' H') →
      tu { De with nx := N, ct := N, bk := De.nx } σ2 H2)
    (hd : ∀ σ1 G1 H1, Ex G G1 → Grow G0 H0 G1 H1 → Pv xs.length σ1 G1 H1 → De.nx σ1 H1) : tFor wi g tu De σ H :=
  hi H g0.sub _ fun J Gs Hs gs W => by
    refine for_it W (fun i σ1 H1 => ∃ G1, Ex Gs G1 ∧ Grow G0 H0 G1 H1 ∧ Pv i σ1 G1 H1) ⟨Gs, Ex.refl _, g0.trans gs, h0 Gs Hs gs⟩ ?_ ?_ ?_
    · rintro i σ1 H1 _ ⟨G1, e1, g1, _⟩
      exact e1.trans g1.sub
    · rintro i x σ1 H1 H2 hi' ⟨G1, e1, g1, p1⟩ ⟨a, G2, ha, g2, rx⟩
      obtain ⟨g3, e3⟩ := g2.on e1 g1.sub
      refine hg a (List.mem_of_getElem? ha) i σ1 G1 H1 _ p1 g3.e x (rx.mono e3) H2 g3.sub _ fun σ2 s2 => ?_
      exact hs i a σ1 G1 H1 _ H2 σ2 ha (gs.e.trans e1) g1 p1 g3 s2 _ fun σ' G' H' e' g' p' => ⟨G', e1.trans e', g', p'⟩
    · rintro σ1 H1 ⟨G1, e1, g1, p1⟩
      exact hd σ1 G1 H1 (gs.e.trans e1) g1 p1
end

/-! ### promises -/
/-- arguments that are data of some i with pre i; the result is data d with out i d -/
def spF (K : Fr) (f : Bool) {ι : Type} (args : ι → List D) (pre : ι → Prop) (out : ι → D → Prop) : Sp := fun vs H Q _ => ∃ (i : ι) (G : Hp), Ex G H ∧ RepA K none G (args i) vs ∧ pre i ∧ ∀ d v G' H', out i d → Grow G H G' H' → Rep K (frh f H) G' d v → Q v H'
theorem spF_useS {K : Fr} {f : Bool} {ι : Type} {args : ι → List D} {pre : ι → Prop} {out : ι → D → Prop} (i : ι) (hp : pre i) : SpDS K f (spF K f args pre out) (args i) (out i) := fun E G vs rs H e Q q => ⟨i, G, e, rs, hp, q⟩
theorem spF_use {K : Fr} {f : Bool} {ι : Type} {args : ι → List D} {pre : ι → Prop} {o : ι → D} (i : ι) (hp : pre i) : SpD K f (spF K f args pre fun i d => d = o i) (args i) (o i) := fun E G vs rs H e Q q => ⟨i, G, e, rs, hp, fun d v G' H' hd g r => q v G' H' g (hd ▸ r)⟩
section
variable {P : Program} {w : World} {K : Fr} {mg : Str → Option Value} {base : Heap}
theorem okF {f : Bool} {ι : Type} {args : ι → List D} {pre : ι → Prop} {out : ι → D → Prop} {x qual : Str} {st : Stmt} {fa : Addr} {fd : FuncData} {N ps : List Str} {k : Nat} (F : L2.Fun K x qual st fa fd) (S : FnScope N ps (defScope st)) (len : ∀ i, (args i).length = ps.length)
    (hb : ∀ (cdv : Value) (A : Around) (outer : List Env) (s : Shared) (H : Hp) (vs : List V) (Q : VK) (E : XK), Room k (A.deeper (envOfC qual (defScope st) s.heap.objs.size fa cdv)) → ∀ (i : ι) (G : Hp), Ex G H → RepA K none G (args i) vs → pre i →
      (∀ d v G' H', out i d → Grow G H G' H' → Rep K (frh f H) G' d v → Q v H') →
      ∃ t, PSs (cxOf CX0 P w K mg base N qual (defScope st) fa cdv A outer s H E).nox (defBody st) t ∧ t { nx := fun _ H' => Q .non H', rt := Q } (start N vs) H) : FnOk P w K mg base CX0 (k + 1) fa fd ps (spF K f args pre out) := by
  refine F.ok S (fun vs H Q E h => ?_) (fun cdv A outer s H vs Q E hr h => ?_)
  · obtain ⟨i, G, e, rs, _⟩ := h
    rw [← rs.length, len]
  · obtain ⟨i, G, e, rs, hp, q⟩ := h
    exact hb cdv A outer s H vs Q E hr i G e rs hp q
end
end VL

/-! VL4: enumerate(tuple), rules that serve several kinds at once, isinstance, the pool seen from outside. -/
namespace VL
open PySem PySem.Spec PyProof.Rows L2
open Evl (Ex)

/-! ### enumerate(tuple) -/
theorem meets_enumT (t : Addr) (o : Obj) (its : Array Value) (ht : o.cls = .type "tuple") (hd : ∃ n, o.data = .seq its n) :
    Meets (Builtin.«enumerate.__new__» ⟨[.type "enumerate", .ref t], []⟩) (fun _ R s => s.heap.get? t = some o ∧
      R (.ok (.ret (.ref (s.heap.push { cls := .type "tuple_iterator", data := .fields #[.ref t, .int 0 0] }).objs.size)))
        { s with heap := (s.heap.push { cls := .type "tuple_iterator", data := .fields #[.ref t, .int 0 0] }).push { cls := .type "enumerate", data := .fields #[.none, .bool false, .ref s.heap.objs.size, rawInt 0, .none, .none] } }) :=
  .of_wp fun prog w A R s h => by
    obtain ⟨oc, od, odt, osl⟩ := o
    replace ht : oc = .type "tuple" := ht
    subst ht
    obtain ⟨n, hd⟩ := hd
    replace hd : odt = .seq its n := hd
    subst hd
    obtain ⟨hp, gs, dr, tk, os⟩ := s
    obtain ⟨hl, h⟩ := h
    have hsub := sub_enumerate
    have hT : Heap.IsTuple (Shared.heap ⟨hp, gs, dr, tk, os⟩) t its := ⟨_, hl, rfl, n, rfl⟩
    wp_walk using wpAny_loadPart' hl
    refine wpAny_stack_any fun st => wpAny_pure ?_
    split
    · rename_i c _ _ _ _ _
      cases (c == Value.type "enumerate")
      · wp_walk using wpAny_loadPart' hl, wpAny_pyIter_tuple hT
        exact ⟨_, rfl, h⟩
      · wp_walk using wpAny_loadPart' hl, wpAny_pyIter_tuple hT
        exact ⟨_, rfl, h⟩
    · wp_walk using wpAny_loadPart' hl, wpAny_pyIter_tuple hT
      exact ⟨_, rfl, h⟩
theorem call_enumT {prog : Program} {w : World} {A : Around} {E : Value → Shared → Prop} {s : Shared} {t : Addr} {its : Array Value} {Q : Value → Shared → Prop} (hT : s.heap.IsTuple t its)
    (h : ∀ h', IsEnum h' (s.heap.objs.size + 1) s.heap.objs.size 0 .none → h'.IsTupleIter s.heap.objs.size t 0 → h'.objs.size = s.heap.objs.size + 2 →
      (∀ b o, s.heap.get? b = some o → h'.get? b = some o) → Q (.ref (s.heap.objs.size + 1)) { s with heap := h' }) : wpAny (model prog w) A (call (.type "enumerate") [.ref t]) Q E s := by
  obtain ⟨o, ho, hc, hd⟩ := hT
  refine callType_new F.called_enumerate (by decide) (F.typeCall_enumerate_1 _) (F.newCall_enumerate_1 _) (fun obj => F.args_object_init_2 obj _) F.entry_enumerate_new (meets_enumT t o its hc hd) ⟨ho, ?_⟩
  have hz : (s.heap.push { cls := .type "tuple_iterator", data := .fields #[.ref t, .int 0 0] }).objs.size = s.heap.objs.size + 1 := Heap.size_push ..
  show _ ∧ _
  rw [hz]
  have he : IsEnum ((s.heap.push { cls := .type "tuple_iterator", data := .fields #[.ref t, .int 0 0] }).push
      { cls := .type "enumerate", data := .fields #[.none, .bool false, .ref s.heap.objs.size, rawInt 0, .none, .none] }) (s.heap.objs.size + 1) s.heap.objs.size 0 .none := by
    have q := Heap.get?_push_size (s.heap.push { cls := .type "tuple_iterator", data := .fields #[.ref t, .int 0 0] }) (o := { cls := .type "enumerate", data := .fields #[.none, .bool false, .ref s.heap.objs.size, rawInt 0, .none, .none] }) rfl
    rw [hz] at q; exact q
  exact ⟨⟨_, he, rfl⟩, h _ he ⟨_, Heap.get?_push_of_some _ (Heap.get?_push_size _ rfl), rfl, rfl⟩ (by rw [Heap.size_push, hz]) fun b o x => Heap.get?_push_of_some _ (Heap.get?_push_of_some _ x)⟩
/-- the tuple at a, each item in a new pair -/
def IteT (K : PySem.W.Frag) (a : Addr) : It :=
  ⟨fun i H => ∃ (xs : List V) (x : V), SqT K H a xs ∧ xs[i]? = some x, fun i H v H' => ∃ T x, v = .ref T ∧ H T = none ∧ H' = upd H T (.tup [.int (i : Nat), x]) ∧ ∀ xs, SqT K H a xs → xs[i]? = some x, fun i H => ∃ xs : List V, SqT K H a xs ∧ xs.length = i⟩
theorem turn_enumT {P : Program} {w : World} {K : PySem.W.Frag} {elts : List Expr} {kk : Nat} {tpos : Pos} (a e it : Addr) :
    Turn P w K (.Tuple elts kk tpos) (IteT K a) [e, it] e (fun i h => (∃ old, IsEnum h e it ((i : Nat) : Int) old) ∧ h.IsTupleIter it a i ∧ e ≠ it) where
  mem := by simp
  obj := fun i h st b hb => by
    obtain ⟨⟨old, he⟩, ⟨o, ho, hc, hd⟩, _⟩ := st
    have e' : b = e ∨ b = it := by simpa using hb
    rcases e' with z | z
    · rw [z]; exact ⟨_, he, fun v q => nomatch q⟩
    · rw [z]; exact ⟨o, ho, fun v q => by rw [hd] at q; cases q⟩
  keep := fun i h h' st k => by
    obtain ⟨⟨old, he⟩, ⟨o, ho, hr⟩, hne⟩ := st
    exact ⟨⟨old, k e (by simp) _ he⟩, ⟨o, k it (by simp) o ho, hr⟩, hne⟩
  item := by
    intro X hP hw hK hc i pins s σ H E I hf st hg
    subst hP hw hK
    obtain ⟨⟨old, he⟩, hit, hne⟩ := st
    obtain ⟨xs, x, hq, hx⟩ := hg
    obtain ⟨its, rv, ⟨oT, hoT, hcT, hdT⟩, hz⟩ := I.tuple hq
    obtain ⟨u, hu, ru⟩ := rv.get hx
    have hel : e < s.heap.objs.size := Heap.lt_size he
    have hil : it < s.heap.objs.size := by obtain ⟨_, q, _⟩ := hit; exact Heap.lt_size q
    have tit : a ≠ it := fun z => by
      obtain ⟨oi, hoi, hci, _⟩ := hit
      rw [z, hoi] at hoT; cases hoT
      rw [hci] at hcT; exact absurd hcT (by decide)
    have tie : e ≠ a := fun z => by
      rw [← z] at hoT
      have q : s.heap.get? e = _ := he
      rw [q] at hoT; cases hoT
      exact absurd (show Value.type "enumerate" = Value.type "tuple" from hcT) (by decide)
    have hit2 : s.heap.IsTupleIter it a i ∧ s.heap.IsTuple a its.toArray := ⟨hit, oT, hoT, hcT, hdT⟩
    refine wpAny_pyNext_enum_itemD (Draws.tuple (prog := X.prog) (w := X.w) (A := X.A.in1) (I.ok.hd hc) it a tit its.toArray) he hit2 (by have := rv.length; have q := (List.getElem?_eq_some_iff.mp hx).1; simp; omega) hne (by simp [hne, tie]) fun y h' tk hy ho hit' hT hsz hk => ?_
    have ey : y = u := by
      rw [List.getElem?_toArray, hu] at hy
      exact (Option.some.inj hy).symm
    subst ey
    refine ⟨_, rfl, wpAny_letOwnedTupleGo_enum (s := { s with heap := h', toks := tk + 1 }) ho fun h'' he' sb => ?_⟩
    have hT2 : h''.get? s.heap.objs.size = some { cls := .type "tuple", data := .seq #[.int i tk, y] } := (sb.2 _ (Nat.ne_of_gt hel)).trans hT
    have new : ObjOk X.prog X.w (upd H s.heap.objs.size (.tup [.int (i : Nat), x])) h'' s.heap.objs.size (.tup [.int (i : Nat), x]) :=
      ⟨by show 2 ≤ sizeLine; decide, [.int i tk, y], .cons ⟨_, rfl⟩ (.cons ru .nil), ⟨_, hT2, rfl, _, rfl⟩⟩
    have I1 : Inv X pins σ (upd H s.heap.objs.size (.tup [.int (i : Nat), x])) { s with heap := h'', toks := tk + 1 } :=
      I.turnedNew (ch := [e, it]) (fun b ob hb q => (sb.2 b (fun z => hb (by simp [z]))).trans (hk b ob (fun z => hb (by simp [z])) (fun z => hb (by simp [z])) q)) hf (Nat.le_refl _) new
    refine ⟨.ref s.heap.objs.size, _, I1, rfl, ⟨_, x, rfl, I.hok.fresh (Nat.le_refl _), rfl, fun ys hy2 => by rw [I.tuple_inj hy2 hq]; exact hx⟩, ⟨⟨y, ?_⟩, ?_, hne⟩, fun b hb => ?_⟩
    · have e1 : ((i + 1 : Nat) : Int) = (i : Int) + 1 := by omega
      rw [e1]; exact he'
    · obtain ⟨oi, hoi, hri⟩ := hit'.1
      exact ⟨oi, (sb.2 it (Ne.symm hne)).trans hoi, hri⟩
    · have hb' : b < s.heap.objs.size := by
        have e' : b = e ∨ b = it := by simpa using hb
        rcases e' with z | z
        · rw [z]; exact hel
        · rw [z]; exact hil
      rw [upd_ne (Nat.ne_of_lt hb')]
      exact (hf b hb).1
  done := by
    intro X hP hw hK hc i pins s σ H E I hf st hg
    subst hP hw hK
    obtain ⟨⟨old, he⟩, hit, hne⟩ := st
    obtain ⟨xs, hq, hx⟩ := hg
    obtain ⟨its, rv, ⟨oT, hoT, hcT, hdT⟩, hz⟩ := I.tuple hq
    obtain ⟨f0, f1, f2, f3, f4, f5⟩ := hf it (by simp)
    have hl := rv.length
    have tit : a ≠ it := fun z => by
      obtain ⟨oi, hoi, hci, _⟩ := hit
      rw [z, hoi] at hoT; cases hoT
      rw [hci] at hcT; exact absurd hcT (by decide)
    have ei : its.toArray.size = i := by rw [List.size_toArray, ← hl]; exact hx
    have hit2 : s.heap.IsTupleIter it a its.toArray.size ∧ s.heap.IsTuple a its.toArray := ⟨by rw [ei]; exact hit, oT, hoT, hcT, hdT⟩
    exact wpAny_pyNext_enum_endD (Draws.tuple (prog := X.prog) (w := X.w) (A := X.A.in1) (I.ok.hd hc) it a tit its.toArray) he hit2 fun h' eb => ⟨rfl, I.turned (t' := s.toks) (fun b o hb q => eb b o hb q) f0 f1 f3 f4 f5⟩
  self := fun A i s Q E st h => let ⟨⟨_, he⟩, _⟩ := st; wpAny_pyIter_enum he h
def iEnumT (K : PySem.W.Frag) (ta : TA) : TI := fun σ H R => ta σ H fun vs H1 => ∃ a xs, vs = [.ref a] ∧ SqT K H1 a xs ∧ R (IteT K a) H1
theorem pi_enumT {X : Cx} {e : Expr} {ta : TA} {p pos tpos : Pos} {elts : List Expr} {kk : Nat} (hg : Gl X "enumerate") (hm : X.mg "enumerate" = none) (ha : PA X [e] ta) (hs : starEach [e] X.env = [(false, eval e X.env)] := by rfl) :
    PI X (.Tuple elts kk tpos) (.Call (.Name "enumerate" p) [e] [] pos) (iEnumT X.K ta) := by
  refine ⟨fun pins s σ H R I h => ?_⟩
  refine Call_ (ld_blt I hg hm boot_enumerate (PyProof.Rows.callWith_type1 (thn (ha.run pos pins s σ H _ I h) fun us s1 ⟨vs, H1, I1, r1, q1⟩ => ?_) hs rfl))
  obtain ⟨a, xs, ex, hq, q⟩ := q1
  subst ex
  cases r1 with
  | cons r rr =>
    cases rr
    cases r
    obtain ⟨its, rv, p', hz⟩ := I1.tuple hq
    refine call_enumT p' fun h' he hit hsz hk => wpAny_pyIter_enum he ?_
    have I2 : Inv X pins σ H1 { s1 with heap := h' } := I1.kept (t' := s1.toks) hk
    refine ⟨s1.heap.objs.size + 1, [s1.heap.objs.size + 1, s1.heap.objs.size], _, _, H1, rfl, I2, turn_enumT a (s1.heap.objs.size + 1) s1.heap.objs.size, ⟨⟨.none, he⟩, hit, Nat.succ_ne_self _⟩, fun b hb => ?_, q⟩
    have e' : b = s1.heap.objs.size + 1 ∨ b = s1.heap.objs.size := by simpa using hb
    have hle : s1.heap.objs.size ≤ b := by
      rcases e' with z | z
      · rw [z]; exact Nat.le_add_right _ _
      · rw [z]; exact Nat.le_refl _
    exact I1.fpOk hle (I1.hok.fresh hle)
theorem walk_enumT {K : PySem.W.Frag} {a : Addr} {xs : List V} : Walk (IteT K a) xs.length (fun H => SqT K H a xs) (YPair (fun i => some (.int (i : Nat))) (fun i => xs[i]?)) := by
  refine ⟨fun i _ hi q => ⟨xs, xs[i], q, by simp [hi]⟩, fun _ q => ⟨xs, q, rfl⟩, fun i H v H' _ q y => ?_⟩
  obtain ⟨T, x, h1, h2, h3, h4⟩ := y
  exact ⟨T, .int (i : Nat), x, h1, h2, h3, rfl, h4 xs q⟩
theorem ei_enumT {K : Fr} {σ : L2.St} {G : Hp} {α : Type} {xs : List α} {c : α → D} {ta : TA} (h : EvA K false ta σ G [.tup (xs.map c)]) : EvI K (iEnumT K ta) σ G (enumL 0 xs) (fun p => .tup [.int p.1, c p.2]) := fun H e R q =>
  h H e _ fun vs G1 H1 g1 rs => by
    cases rs with
    | cons r t =>
      cases t
      obtain ⟨p, us, rfl, hp, rr⟩ := r.tup_inv
      refine ⟨p, us, rfl, Evl.ex_t g1.sub hp, q _ G1 H1 g1 ?_⟩
      have hl : xs.length = us.length := by rw [← rr.length, List.length_map]
      rw [enumL_length, hl]
      refine Walk.mono walk_enumT (fun H2 e2 => Evl.ex_t e2 hp) fun i H2 x H3 hi e2 y => ?_
      obtain ⟨T, x1, x2, rfl, hT, rfl, h1, h2⟩ := y
      cases h1
      obtain ⟨d, hd, rd⟩ := rr.getV h2
      obtain ⟨a, ha, rfl⟩ := getm hd
      obtain ⟨g, r2⟩ := rep_pair (n := (i : Int)) e2 hT rd
      exact ⟨_, _, enumL_get ha, g, by simpa using r2⟩

/-! ### rules that serve several kinds -/
section
variable {X : Cx} {K : Fr} {f f1 : Bool} {ds es : List D} {d : D} {σ : L2.St} {G H : Hp} {te : TE}
def rAddS2 : R2 := fun x y H Q => ∃ i j, x = .str i ∧ y = .str j ∧ i.length + j.length ≤ sizeLine ∧ Q (.str (i ++ j)) H
def rAddU (K : Fr) : R2 := fun x y H Q => (rI0 (fun i j => .int (i + j)) x y H Q ∨ rCat x y H Q) ∨ (rAddS2 x y H Q ∨ rCatT K x y H Q)
theorem op_addU : OpR X (binaryOp .Add) (rAddU X.K) := (op_add.or op_cat).or (OpR.or (r := rAddS2) op_add_str op_catT)
theorem va_int {i j : Int} : Rv K f f1 (rAddU K) (.int i) (.int j) (.int (i + j)) := Rv.left (Rv.left (rv_ii (g := fun i j => i + j)))
theorem va_lst (hl : ds.length + es.length ≤ 100000) : Rv K true true (rAddU K) (.lst ds) (.lst es) (.lst (ds ++ es)) := Rv.left (Rv.right (rv_cat hl))
theorem va_lstO (hl : ds.length + es.length ≤ 100000) : Rv K false f1 (rAddU K) (.lst ds) (.lst es) (.lst (ds ++ es)) := Rv.left (Rv.right (rv_catO hl))
theorem va_str {i j : Str} (hl : i.length + j.length ≤ 100000) : Rv K f f1 (rAddU K) (.str i) (.str j) (.str (i ++ j)) := Rv.right (Rv.left (fun G x y H0 ra rb H e _ Q q =>
  ⟨i, j, ra.str_inv, rb.str_inv, Evl.sz_of hl, q _ G H (Grow.refl e) (.str _)⟩))
def rMulU : R2 := fun x y H Q => rI CMul (fun i j => .int (i * j)) x y H Q ∨ rRep x y H Q
theorem op_mulU : OpR X (binaryOp .Mult) rMulU := op_mul.or op_rep
theorem vm_int {i j : Int} (h : CMul i j) : Rv K f f1 rMulU (.int i) (.int j) (.int (i * j)) := Rv.left (rv_iiC (g := fun i j => i * j) h)
theorem vm_rep {k : Int} (h0 : 0 ≤ k) (h1 : k ≤ 100000) (hs : scalarD d = true) : Rv K f f1 rMulU (.lst [d]) (.int k) (.lst (List.replicate k.toNat d)) := Rv.right (rv_rep1 h0 h1 hs)
theorem vs_int {i j : Int} : Rv K f f1 (rI0 fun i j => .int (i - j)) (.int i) (.int j) (.int (i - j)) := rv_ii (g := fun i j => i - j)
theorem vd_int {i j : Int} (h : CDivW i j) : Rv K f f1 (rI CDivW fun i j => .int (i / j)) (.int i) (.int j) (.int (i / j)) := rv_iiC (g := fun i j => i / j) h
theorem vo_int {i j : Int} (h : 0 < j) : Rv K f f1 (rI (fun _ j => j ≠ 0) fun i j => .int (i.fmod j)) (.int i) (.int j) (.int (i % j)) := by
  have e : i.fmod j = i % j := Int.fmod_eq_emod_of_nonneg i (by omega)
  rw [← e]
  exact rv_iiC (g := fun i j => i.fmod j) (by omega)
theorem vp_int {i j : Int} (h : CPow i j) : Rv K f f1 (rI CPow fun i j => .int (i ^ j.toNat)) (.int i) (.int j) (.int (i ^ j.toNat)) := rv_iiC (g := fun i j => i ^ j.toNat) h
theorem v_lt {i j : Int} : Rv K f f1 (rI0 fun i j => .bl (decide (i < j))) (.int i) (.int j) (.bl (decide (i < j))) := rv_ib (g := fun i j => decide (i < j))
theorem v_le {i j : Int} : Rv K f f1 (rI0 fun i j => .bl (decide (i ≤ j))) (.int i) (.int j) (.bl (decide (i ≤ j))) := rv_ib (g := fun i j => decide (i ≤ j))
theorem v_gt {i j : Int} : Rv K f f1 (rI0 fun i j => .bl (decide (j < i))) (.int i) (.int j) (.bl (decide (j < i))) := rv_ib (g := fun i j => decide (j < i))
theorem v_ge {i j : Int} : Rv K f f1 (rI0 fun i j => .bl (decide (j ≤ i))) (.int i) (.int j) (.bl (decide (j ≤ i))) := rv_ib (g := fun i j => decide (j ≤ i))
/-- is None | is True, is False -/
def rIsU : R2 := fun x y H Q => (y = .non ∧ Q (.bl (decide (x = .non))) H) ∨ rIsTF x y H Q
theorem op_isU : OpR X (compareOp .Is) rIsU := OpR.or (r := fun x y H Q => y = .non ∧ Q (.bl (decide (x = .non))) H) op_isN op_isTF
theorem v_isN : Rv K f f1 rIsU d .non (.bl (isNon d)) := Rv.left rv_isN
theorem v_isTF {x : Bool} : Rv K f f1 rIsU d (.bl x) (.bl (isBl x d)) := Rv.right rv_isTF
theorem v_notN : Rv K f f1 (fun x y H Q => y = .non ∧ Q (.bl (!decide (x = .non))) H) d .non (.bl (!isNon d)) := rv_notN
/-- == -/
def rEqU (K : Fr) : R2 := fun x y H Q => rEq x y H Q ∨ rEqD K x y H Q
def rNeU (K : Fr) : R2 := fun x y H Q => rNe x y H Q ∨ rNeD K x y H Q
theorem op_eqU (hu : X.A.units + 64 < cLine) : OpR X (compareOp .Eq) (rEqU X.K) := op_eq.or (op_eqD hu)
theorem op_neU (hu : X.A.units + 64 < cLine) : OpR X (compareOp .NotEq) (rNeU X.K) := op_ne.or (op_neD hu)
theorem v_eqI {i j : Int} : Rv K f f1 (rEqU K) (.int i) (.int j) (.bl (decide (i = j))) := Rv.left rv_eqI
theorem v_neI {i j : Int} : Rv K f f1 (rNeU K) (.int i) (.int j) (.bl (!decide (i = j))) := Rv.left rv_neI
theorem v_eqS {i j : Str} : Rv K f f1 (rEqU K) (.str i) (.str j) (.bl (decide (i = j))) := Rv.left rv_eqS
theorem v_neS {i j : Str} : Rv K f f1 (rNeU K) (.str i) (.str j) (.bl (!decide (i = j))) := Rv.left rv_neS
/-- x[i] -/
theorem v_ixL {i : Int} (h : atI ds i = some d) : Rv K f f (rIx K) (.lst ds) (.int i) d := Rv.left (rv_ixL h)
theorem v_ixT {i : Int} (h : atI ds i = some d) : Rv K f f (rIx K) (.tup ds) (.int i) d := Rv.right (Rv.left (rv_ixT h))
/-- x[a:b] -/
def rSlU (K : Fr) : V → Option Int → Option Int → Hp → VK → Prop := fun x lo hi H Q => rSlL K x lo hi H Q ∨ rSlT K x lo hi H Q
theorem sl_U : SlR X (rSlU X.K) := sl_list.or sl_tup
theorem ev_slU {tl th : TO} {lo hi : Option Int} (h : Ev K f te σ G (.lst ds)) (h1 : EvO K tl σ G lo) (h2 : EvO K th σ G hi) : Ev K f (tSl (rSlU K) te tl th) σ G (.lst (cutD ds lo hi)) := fun H e Q q =>
  h H e _ fun v G1 H1 g1 rv => (h1.mono g1.e) H1 g1.sub _ fun G2 H2 g2 => (h2.mono (g1.e.trans g2.e)) H2 g2.sub _ fun G3 H3 g3 => Or.inl (by
    obtain ⟨p, vs, rfl, _, hp, rs⟩ := rv.lst_inv
    have g := (g1.trans g2).trans g3
    refine ⟨p, vs, rfl, SqL.of (g3.sub _ _ (g3.e _ _ (g2.e _ _ hp))), fun n hn => ?_⟩
    have gl := Grow.laid (o := .lst (cutV vs lo hi)) g.sub hn
    refine q (.ref n) _ _ (g.trans gl) (.lst ?_ upd_same (((rs.mono (g2.e.trans g3.e)).cut lo hi).mono gl.e))
    cases f with
    | true => exact Evl.fresh_back g.ext hn
    | false => trivial)
/-- len -/
def rcLen (K : Fr) : List V → Hp → VK → Prop := fun xs H Q => (∃ p ys, xs = [.ref p] ∧ (SqL K H p ys ∨ SqT K H p ys) ∧ Q (.int ys.length) H) ∨ (∃ z, xs = [.str z] ∧ z.length ≤ sizeLine ∧ Q (.int z.length) H)
theorem cl_len : CallR X (.builtin "len") (rcLen X.K) := call_len_seq.or call_len_str
theorem c_lenL : Rc K f (rcLen K) [.lst ds] (.int (ds.length : Int)) := Rc.left rc_len1
theorem c_lenT : Rc K f (rcLen K) [.tup ds] (.int (ds.length : Int)) := Rc.left rc_len2
theorem c_lenS {z : Str} (h : z.length ≤ 100000) : Rc K f (rcLen K) [.str z] (.int (z.length : Int)) := Rc.right fun G vs rs H e Q q => by
  cases rs with
  | cons r t => cases t; cases r; exact ⟨z, rfl, Evl.sz_of h, q _ G H (Grow.refl e) (.int _)⟩
def rcList (K : Fr) : List V → Hp → VK → Prop := fun xs H Q => ∃ p ys, xs = [.ref p] ∧ (SqL K H p ys ∨ SqT K H p ys) ∧ ∀ l, H l = none → Q (.ref l) (upd H l (.lst ys))
def rcTup (K : Fr) : List V → Hp → VK → Prop := fun xs H Q => ∃ p ys, xs = [.ref p] ∧ ((SqL K H p ys ∧ ∀ l, H l = none → Q (.ref l) (upd H l (.tup ys))) ∨ (SqT K H p ys ∧ Q (.ref p) H))
theorem cl_list : CallR X (.type "list") (rcList X.K) := call_list_of
theorem cl_tup : CallR X (.type "tuple") (rcTup X.K) := call_tuple_of
theorem c_listL : Rc K false (rcList K) [.lst ds] (.lst ds) := rc_listL
theorem c_listT : Rc K false (rcList K) [.tup ds] (.lst ds) := rc_listT
theorem c_listLs (hs : ∀ d ∈ ds, scalarD d = true) : Rc K f (rcList K) [.lst ds] (.lst ds) := rc_listLs hs
theorem c_listTs (hs : ∀ d ∈ ds, scalarD d = true) : Rc K f (rcList K) [.tup ds] (.lst ds) := rc_listTs hs
theorem c_tupL : Rc K false (rcTup K) [.lst ds] (.tup ds) := rc_tupL
theorem c_tupT : Rc K false (rcTup K) [.tup ds] (.tup ds) := rc_tupT
def rcInt : List V → Hp → VK → Prop := fun xs H Q => (∃ i, xs = [.int i] ∧ Q (.int i) H) ∨ ∃ k, xs = [.bl k] ∧ Q (.int (if k then 1 else 0)) H
theorem cl_int : CallR X (.type "int") rcInt := call_int1
theorem c_int {i : Int} : Rc K f rcInt [.int i] (.int i) := rc_int
theorem c_intB {i : Bool} : Rc K f rcInt [.bl i] (.int (if i then 1 else 0)) := rc_intB
/-- list(range(n)) -/
theorem rg_scal (lo : Int) (n : Nat) : RepA K (frh f H) G ((rng lo n).map D.int) ((rng lo n).map V.int) := RepA.ofInts _
theorem ev_listRg {ta : TE} {n : Int} (h : Ev K false ta σ G (.int n)) (h0 : -100000 ≤ n) (h1 : n ≤ 100000) : Ev K f (tLstRg (tRg1 ta)) σ G (.lst ((rng 0 n.toNat).map D.int)) := fun H e Q q =>
  h H e _ fun v G1 H1 g1 rv => by
    cases rv
    refine ⟨n, rfl, ⟨by omega, by omega, by omega, by omega, by omega⟩, fun p hp => ?_⟩
    have ev : rgV 0 n = (rng 0 n.toNat).map V.int := by
      unfold rgV rng
      rw [List.map_map]
      have e0 : n - 0 = n := by omega
      rw [e0]; rfl
    rw [ev]
    have g := Grow.laid (o := .lst ((rng 0 n.toNat).map V.int)) g1.sub hp
    refine q (.ref p) _ _ (g1.trans g) (.lst ?_ upd_same (rg_scal 0 _))
    cases f with
    | true => exact Evl.fresh_back g1.ext hp
    | false => trivial
/-- a list's items by place, for += -/
def rGetL (K : Fr) : V → V → Hp → VK → Prop := fun x y H Q => ∃ p xs i j v, x = .ref p ∧ y = .int i ∧ SqL K H p xs ∧ i = ((j : Nat) : Int) ∧ xs[j]? = some v ∧ Q v H
theorem get_list : PGet X (rGetL X.K) := by
  intro pins s σ H o i ov iv Q I ro ri h
  obtain ⟨p, xs, i, j, v, rfl, rfl, hq, rfl, hj, q⟩ := h
  cases ro
  obtain ⟨t, rfl⟩ := ri
  obtain ⟨its, r, pl, hz⟩ := I.list hq
  obtain ⟨u, hu, ru⟩ := r.get hj
  have hlt : j < xs.length := (List.getElem?_eq_some_iff.mp hj).1
  have hs : sizeLine < 2 ^ 62 := by decide
  exact wpAny_getItem_list pl.isList (by omega) (by omega) (by simpa using hu) ⟨v, H, I, ru, q⟩
/-- xs[j] += e, xs written, ints -/
theorem s_augL {De : Ends} {i : Nat} {p : Addr} {vs : List V} {j : Nat} {ti te : TE} {a b : Int} (e : Ex G H) (hv : σ[i]? = some (some (.ref p))) (hp : H p = some (.lst vs)) (hn : G p = none) (hi : Ev K false ti σ G (.int (j : Int))) (ha : vs[j]? = some (.int a)) (h : Ev K false te σ G (.int b))
    (k : ∀ G' H', Grow G H G' H' → H' p = some (.lst vs) → G' p = none → De.nx σ (upd H' p (.lst (vs.set j (.int (a + b)))))) : tAugS (tVar i) ti te (rGetL K) (ipI fun i j => i + j) rSetL De σ H :=
  ⟨.ref p, hv, hi H e _ fun w G1 H1 g1 rw => by
    cases rw
    have z := g1.keep hp hn
    refine ⟨p, vs, (j : Int), j, _, rfl, rfl, SqL.of z.1, rfl, ha, (h.mono g1.e) H1 g1.sub _ fun w2 G2 H2 g2 rw2 => ?_⟩
    cases rw2
    have z2 := g2.keep z.1 z.2
    have hlt : j < vs.length := (List.getElem?_eq_some_iff.mp ha).1
    exact ⟨a, b, rfl, rfl, p, vs, (j : Int), j, rfl, rfl, z2.1, Evl.ixN_nat hlt, k G2 H2 (g1.trans g2) z2.1 z2.2⟩⟩
end
end VL

/-! VL5: isinstance by data; the pool. -/
namespace VL
open PySem PySem.Spec PyProof.Rows L2
open Evl (Ex)

/-- the name of a datum's built-in class -/
def tyD : D → String
  | .non => "NoneType" | .bl _ => "bool" | .int _ => "int" | .str _ => "str" | .lst _ => "list" | .tup _ => "tuple" | .ins _ _ _ => "object" | .pool => "list" | .ty _ => "type"
/-- plain data -/
def plainD : D → Bool
  | .non => true | .bl _ => true | .int _ => true | .str _ => true | .lst _ => true | .tup _ => true | _ => false
def isiD (d : D) (T : String) : Bool := tyD d == T || (T == "int" && tyD d == "bool")
theorem kit_tab (a b : String) (ha : a ∈ ["NoneType", "bool", "int", "str", "list", "tuple"]) (hb : b ∈ ["bool", "int", "str", "list", "tuple"]) : kitB a b = some (a == b || (b == "int" && a == "bool")) := by
  simp only [List.mem_cons, List.not_mem_nil, or_false] at ha hb
  rcases ha with rfl | rfl | rfl | rfl | rfl | rfl <;> rcases hb with rfl | rfl | rfl | rfl | rfl <;> decide +kernel
section
variable {K : Fr} {f : Bool} {G H : Hp} {d : D} {v : V}
theorem Rep.tyx {fr : Option Hp} (hp : plainD d = true) (h : Rep K fr H d v) : TyX K H v (.type (tyD d)) := by
  cases h with
  | non => exact .base .non
  | bl b => exact .base (.bl b)
  | int b => exact .base (.int b)
  | str b => exact .base (.str b)
  | lst _ h _ => exact .base (.lst h)
  | tup h _ =>
    rcases h with (h | ⟨o, h⟩) | ⟨o, its, n, h1, h2, _⟩
    · exact .base (.tup h)
    · exact .fTuple h
    · exact .kTuple h1 h2
  | ins _ _ _ => cases hp
  | pool _ => cases hp
  | ty _ => cases hp
theorem c_isi {T : String} (hp : plainD d = true) (hT : T ∈ ["bool", "int", "str", "list", "tuple"]) : Rc K f (rIsi K) [d, .ty T] (.bl (isiD d T)) := fun G vs rs H e Q q => by
  cases rs with
  | cons r t =>
    cases t with
    | cons r' t =>
      cases t; cases r'
      rename_i x
      refine ⟨x, .ty T, _, .type T, isiD d T, rfl, .ty T, (r.mono e).tyx hp, kit_ty (kit_tab _ _ ?_ hT), q _ G H (Grow.refl e) (.bl _)⟩
      cases d <;> first | (cases hp; done) | (simp [tyD])
theorem ev_ty {σ : L2.St} {n : String} : Ev K f (tC (.ty n)) σ G (.ty n) := fun H e Q q => q _ G H (Grow.refl e) (.ty n)
end

/-! ### the pool -/
/-- what the pool's list holds -/
def poolVs (c : Addr) (i1 i2 i3 i4 : Int) : List V := [.ref c, .int i1, .int i2, .int i3, .int i4]
theorem poolO_stable (p c : Addr) (n : Nat) : ∀ h1 h2 : Heap, PoolO p c n h1 → (∀ o, h1.get? p = some o → h2.get? p = some o) → PoolO p c n h2 := fun h1 h2 ⟨i1, i2, i3, i4, t1, t2, t3, t4, m, a1, a2, a3, a4, e⟩ k =>
  ⟨i1, i2, i3, i4, t1, t2, t3, t4, m, a1, a2, a3, a4, k _ e⟩
section
variable {P : Program} {w : World} {H : Hp} {h : Heap} {p c : Addr} {n : Nat}
/-- from the list to the pool -/
theorem pool_in {i1 i2 i3 i4 : Int} (a1 : 0 ≤ i1) (a2 : 0 ≤ i2) (a3 : 0 ≤ i3) (a4 : 0 ≤ i4) (x : ObjOk P w H h p (.lst (poolVs c i1 i2 i3 i4))) : PoolO p c n h := by
  obtain ⟨_, its, m, rv, e⟩ := x
  unfold poolVs at rv
  cases rv with
  | cons r0 rv =>
    cases rv with
    | cons r1 rv =>
      cases rv with
      | cons r2 rv =>
        cases rv with
        | cons r3 rv =>
          cases rv with
          | cons r4 rv =>
            cases rv
            cases r0
            obtain ⟨t1, rfl⟩ := r1
            obtain ⟨t2, rfl⟩ := r2
            obtain ⟨t3, rfl⟩ := r3
            obtain ⟨t4, rfl⟩ := r4
            exact ⟨i1, i2, i3, i4, t1, t2, t3, t4, m, a1, a2, a3, a4, e⟩
/-- from the pool to the list -/
theorem pool_out (x : PoolO p c n h) : ∃ i1 i2 i3 i4 : Int, 0 ≤ i1 ∧ 0 ≤ i2 ∧ 0 ≤ i3 ∧ 0 ≤ i4 ∧ ∀ H : Hp, ObjOk P w H h p (.lst (poolVs c i1 i2 i3 i4)) := by
  obtain ⟨i1, i2, i3, i4, t1, t2, t3, t4, m, a1, a2, a3, a4, e⟩ := x
  exact ⟨i1, i2, i3, i4, a1, a2, a3, a4, fun H => ⟨by show 5 ≤ sizeLine; decide, _, m, .cons rfl (.cons ⟨t1, rfl⟩ (.cons ⟨t2, rfl⟩ (.cons ⟨t3, rfl⟩ (.cons ⟨t4, rfl⟩ .nil)))), e⟩⟩
end
/-- behind: the list at p is the pool again -/
def asPool (H : Hp) (p c : Addr) (n : Nat) : Hp := upd H p (.ext (PoolO p c n))
theorem asPool_ok {P : Program} {w : World} {H : Hp} {h : Heap} {p c : Addr} {n : Nat} {i1 i2 i3 i4 : Int} (ok : HOk P w H h) (hp : H p = some (.lst (poolVs c i1 i2 i3 i4))) (a1 : 0 ≤ i1) (a2 : 0 ≤ i2) (a3 : 0 ≤ i3) (a4 : 0 ≤ i4) : HOk P w (asPool H p c n) h := fun a o e => by
  by_cases ha : a = p
  · subst ha
    unfold asPool at e
    rw [upd_same] at e; cases e
    have z := pool_in (n := n) a1 a2 a3 a4 (ok a _ hp)
    exact ⟨z, (by obtain ⟨_, _, _, _, _, _, _, _, _, _, _, _, _, e⟩ := z; exact ⟨_, e⟩), poolO_stable a c n⟩
  · unfold asPool at e ⊢
    rw [upd_ne ha] at e
    refine (ok a o e).stay (fun _ _ _ z => z) (fun b z => ?_) fun b xs z => ?_
    · rw [upd_ne (fun y => by rw [y, hp] at z; cases z)]; exact z
    · rw [upd_ne (fun y => by rw [y, hp] at z; cases z)]; exact z
theorem asPool_un {H1 H2 : Hp} {h h' : Heap} {fs : List Addr} {p c : Addr} {n : Nat} {i1 i2 i3 i4 : Int} (u : Un fs [] H1 H2 h h') (hp : H2 p = some (.lst (poolVs c i1 i2 i3 i4))) (hn : ∀ o, h.get? p = some o → H1 p ≠ none) : Un fs [] H1 (asPool H2 p c n) h h' := by
  have nt : ∀ b o, H2 b = some o → (∀ vs, o ≠ .lst vs) → asPool H2 p c n b = some o := fun b o z hv => by
    unfold asPool
    rw [upd_ne (fun y => by rw [y, hp] at z; cases z; exact hv _ rfl)]; exact z
  refine ⟨u.keep, u.slot, fun b o e n0 hx => ?_, u.there, fun b xs z => nt b _ (u.tups b xs z) (fun _ q => by cases q), fun b o w z => nt b _ (u.frzs b o w z) (fun _ q => by cases q), fun b ps z => ?_⟩
  · unfold asPool
    rw [upd_ne (fun y => by subst y; exact hn o e n0)]
    exact u.free b o e n0 hx
  · obtain ⟨m, q⟩ := u.tbls b ps z
    exact ⟨m, nt b _ q (fun _ q => by cases q)⟩
/-- inside: the pool's list is written -/
def spDrawIn : Sp := fun vs H Q _ => ∃ (p c : Addr) (ns : List Int) (many i1 i2 i3 i4 : Int), vs = [.ref p, .int many] ∧ p ≠ c ∧ H p = some (.lst (poolVs c i1 i2 i3 i4)) ∧ H c = some (.lst (ns.map V.int)) ∧ (∀ n ∈ ns, 0 ≤ n) ∧
  0 < many ∧ many < 2 ^ 200 ∧ 0 ≤ i1 ∧ 0 ≤ i2 ∧ 0 ≤ i3 ∧ 0 ≤ i4 ∧ ∀ (d j1 j2 j3 j4 : Int) (H' : Hp), 0 ≤ d → d < many → 0 ≤ j1 → 0 ≤ j2 → 0 ≤ j3 → 0 ≤ j4 → H' p = some (.lst (poolVs c j1 j2 j3 j4)) → Ex (fun a => if a = p then none else H a) H' → Q (.int d) H'
/-- outside: nothing changes -/
def spDrawV : Sp := fun vs H Q _ => ∃ (p : Addr) (many : Int), vs = [.ref p, .int many] ∧ PoolAt H p ∧ 0 < many ∧ many < 2 ^ 200 ∧ ∀ (d : Int) (H' : Hp), 0 ≤ d → d < many → Ex H H' → Q (.int d) H'
theorem draw_out {P : Program} {w : World} {K : Fr} {mg : Str → Option Value} {base : Heap} {k : Nat} {f : Addr} {fd : FuncData} {ps : List Str} (F : FnOk P w K mg base CX0 k f fd ps spDrawIn) (hl : ps.length = 2) : FnOk P w K mg base CX0 k f fd ps spDrawV := by
  refine ⟨fun vs H Q E h => ?_, fun A outer s H args us vs Q E hr e0 hb rv hsp => ?_⟩
  · obtain ⟨p, many, rfl, _⟩ := h
    rw [hl]; rfl
  · obtain ⟨p, many, rfl, hP, hm, hm2, q⟩ := hsp
    obtain ⟨c, ns, hp, hc, hn⟩ := hP.ex
    have hpc : p ≠ c := ne_of hp hc (fun z => by cases z)
    obtain ⟨po, _, _⟩ := (show ObjOk P w H s.heap p (.ext (PoolO p c ns.length)) from e0.hok p _ hp)
    obtain ⟨i1, i2, i3, i4, a1, a2, a3, a4, ol⟩ := pool_out (P := P) (w := w) po
    generalize hH1 : upd H p (.lst (poolVs c i1 i2 i3 i4)) = H1
    have ne : ∀ b, b ≠ p → H1 b = H b := fun b hb => by rw [← hH1, upd_ne hb]
    have at1 : H1 p = some (.lst (poolVs c i1 i2 i3 i4)) := by rw [← hH1, upd_same]
    have e1 : Env0 P w K mg base A outer s H1 := by
      refine ⟨e0.frames, e0.mod, fun b o e => ?_, e0.bsz, e0.funs, fun b hb => ?_, fun a o e => ?_, e0.bare⟩
      · have z := e0.bs b o e
        refine ⟨z.1, ?_⟩
        rw [ne b (fun y => by rw [y, hp] at z; cases z.2)]; exact z.2
      · have z := e0.frf b hb
        rw [ne b (fun y => by rw [y, hp] at z; cases z)]; exact z
      · by_cases ha : a = p
        · subst ha
          rw [at1] at e; cases e
          exact ol H1
        · rw [ne a ha] at e
          refine (e0.hok a o e).stay (fun _ _ _ z => z) (fun b z => ?_) fun b xs z => ?_
          · rw [ne b (fun y => by rw [y, hp] at z; cases z)]; exact z
          · rw [ne b (fun y => by rw [y, hp] at z; cases z)]; exact z
    have run := F.run A outer s H1 args us [.ref p, .int many] (fun v H2 => ∃ d j1 j2 j3 j4 : Int, v = .int d ∧ 0 ≤ d ∧ d < many ∧ 0 ≤ j1 ∧ 0 ≤ j2 ∧ 0 ≤ j3 ∧ 0 ≤ j4 ∧ H2 p = some (.lst (poolVs c j1 j2 j3 j4)) ∧ Ex (fun a => if a = p then none else H1 a) H2) E hr e1 hb rv
      ⟨p, c, ns, many, i1, i2, i3, i4, rfl, hpc, at1, by rw [ne c hpc.symm]; exact hc, hn, hm, hm2, a1, a2, a3, a4, fun d j1 j2 j3 j4 H' h1 h2 h3 h4 h5 h6 h7 h8 => ⟨d, j1, j2, j3, j4, rfl, h1, h2, h3, h4, h5, h6, h7, h8⟩⟩
    refine codeAny_mono run fun r s' hh => ?_
    cases r with
    | error e => exact hh
    | ok fl =>
      cases fl with
      | next => exact hh
      | brk => exact hh
      | cont => exact hh
      | ret u =>
        obtain ⟨v, H2, os, bare, un, hok, rr, d, j1, j2, j3, j4, rfl, h1, h2, h3, h4, h5, h6, hp2, ex2⟩ := hh
        have np : ∀ b, H b = none → b ≠ p := fun b z y => by rw [y, hp] at z; cases z
        have un2 := asPool_un (n := ns.length) un hp2 (fun o e z => by rw [at1] at z; cases z)
        refine ⟨.int d, asPool H2 p c ns.length, os, bare, ⟨fun b o e n hf hx => un.keep b o e (by rw [ne b (np b n)]; exact n) hf hx, fun b o e n hf hx => un.slot b o e (by rw [ne b (np b n)]; exact n) hf hx, fun b o e n hx => un2.free b o e (by rw [ne b (np b n)]; exact n) hx, fun b o e hx => un.there b o e hx,
          fun b xs z => un2.tups b xs (by rw [ne b (fun y => by rw [y, hp] at z; cases z)]; exact z), fun b o u z => un2.frzs b o u (by rw [ne b (fun y => by rw [y, hp] at z; cases z)]; exact z), fun b pz z => un2.tbls b pz (by rw [ne b (fun y => by rw [y, hp] at z; cases z)]; exact z)⟩, asPool_ok hok hp2 h3 h4 h5 h6, rr, q d _ h1 h2 fun a o e => ?_⟩
        unfold asPool
        by_cases ha : a = p
        · subst ha; rw [upd_same, ← e, hp]
        · rw [upd_ne ha]
          exact ex2 a o (by show (if a = p then none else H1 a) = some o; rw [if_neg ha, ne a ha]; exact e)
/-- a draw by data -/
theorem spDraw_use {K : Fr} {f : Bool} {many : Int} (h : 0 < many) (h2 : many < 2 ^ 200) : SpDS K f spDrawV [.pool, .int many] (fun d => ∃ i, d = .int i ∧ 0 ≤ i ∧ i < many) := fun E G vs rs H e Q q => by
  cases rs with
  | cons r t =>
    cases t with
    | cons r' t =>
      cases t; cases r'
      cases r with
      | pool hp => exact ⟨_, many, rfl, hp.mono e, h, h2, fun d H' h1 h2 eH => q (.int d) _ G H' ⟨d, rfl, h1, h2⟩ ⟨Ex.refl _, e.trans eH, eH, fun a h h' => absurd h h'⟩ (.int d)⟩
/-- the pool is made: inside its list is new -/
def spPoolIn (K : Fr) : Sp := fun vs H Q _ => ∃ (a : Addr) (ns : List Int), vs = [.ref a] ∧ SqL K H a (ns.map V.int) ∧ ns.length ≤ 63 ∧
  ∀ (p c : Addr) (ms : List Int) (j1 j2 j3 j4 : Int) (H' : Hp), 0 ≤ j1 → 0 ≤ j2 → 0 ≤ j3 → 0 ≤ j4 → H p = none → p ≠ c → H' p = some (.lst (poolVs c j1 j2 j3 j4)) → H' c = some (.lst (ms.map V.int)) → (∀ n ∈ ms, 0 ≤ n) → Ex H H' → Q (.ref p) H'
def spPoolV (K : Fr) : Sp := fun vs H Q _ => ∃ (a : Addr) (ns : List Int), vs = [.ref a] ∧ SqL K H a (ns.map V.int) ∧ ns.length ≤ 63 ∧ ∀ (p : Addr) (H' : Hp), PoolAt H' p → Ex H H' → Q (.ref p) H'
theorem pool_made {P : Program} {w : World} {K : Fr} {mg : Str → Option Value} {base : Heap} {k : Nat} {f : Addr} {fd : FuncData} {ps : List Str} (F : FnOk P w K mg base CX0 k f fd ps (spPoolIn K)) (hl : ps.length = 1) : FnOk P w K mg base CX0 k f fd ps (spPoolV K) := by
  refine ⟨fun vs H Q E h => ?_, fun A outer s H args us vs Q E hr e0 hb rv hsp => ?_⟩
  · obtain ⟨p, many, rfl, _⟩ := h
    rw [hl]; rfl
  · obtain ⟨a, ns, rfl, hS, hl63, q⟩ := hsp
    have run := F.run A outer s H args us [.ref a] (fun v H2 => ∃ (p c : Addr) (ms : List Int) (j1 j2 j3 j4 : Int), v = .ref p ∧ 0 ≤ j1 ∧ 0 ≤ j2 ∧ 0 ≤ j3 ∧ 0 ≤ j4 ∧ H p = none ∧ p ≠ c ∧ H2 p = some (.lst (poolVs c j1 j2 j3 j4)) ∧ H2 c = some (.lst (ms.map V.int)) ∧ (∀ n ∈ ms, 0 ≤ n) ∧ Ex H H2) E hr e0 hb rv
      ⟨a, ns, rfl, hS, hl63, fun p c ms j1 j2 j3 j4 H' h1 h2 h3 h4 h5 h6 h7 h8 h9 h10 => ⟨p, c, ms, j1, j2, j3, j4, rfl, h1, h2, h3, h4, h5, h6, h7, h8, h9, h10⟩⟩
    refine codeAny_mono run fun r s' hh => ?_
    cases r with
    | error e => exact hh
    | ok fl =>
      cases fl with
      | next => exact hh
      | brk => exact hh
      | cont => exact hh
      | ret u =>
        obtain ⟨v, H2, os, bare, un, hok, rr, p, c, ms, j1, j2, j3, j4, rfl, h1, h2, h3, h4, hn, hpc, hp2, hc2, hms, ex2⟩ := hh
        have un2 := asPool_un (n := ms.length) un hp2 (fun o e z => by
          have y := un.free p o e z (by simp)
          rw [hp2] at y; cases y)
        refine ⟨.ref p, asPool H2 p c ms.length, os, bare, un2, asPool_ok hok hp2 h1 h2 h3 h4, rr, q p _ ⟨c, ms, by unfold asPool; rw [upd_same], by unfold asPool; rw [upd_ne hpc.symm]; exact hc2, hms⟩ fun b o e => ?_⟩
        unfold asPool
        rw [upd_ne (ne_of_none e hn)]
        exact ex2 b o e
end VL

/-! VL6: the built-in names, sequences, fields, items of mapped lists. -/
namespace VL
open PySem PySem.Spec PyProof.Rows L2
open Evl (Ex)

theorem bt_len : bootBuiltins "len" = some (.builtin "len") := by decide +kernel
theorem bt_sum : bootBuiltins "sum" = some (.builtin "sum") := by decide +kernel
theorem bt_any : bootBuiltins "any" = some (.builtin "any") := by decide +kernel
theorem bt_all : bootBuiltins "all" = some (.builtin "all") := by decide +kernel
theorem bt_abs : bootBuiltins "abs" = some (.builtin "abs") := by decide +kernel
theorem bt_isinstance : bootBuiltins "isinstance" = some (.builtin "isinstance") := by decide +kernel
theorem bt_max : bootBuiltins "max" = some (.builtin "max") := by decide +kernel
theorem bt_min : bootBuiltins "min" = some (.builtin "min") := by decide +kernel
theorem bt_sorted : bootBuiltins "sorted" = some (.builtin "sorted") := by decide +kernel
theorem bt_int : bootBuiltins "int" = some (.type "int") := by decide +kernel
theorem bt_list : bootBuiltins "list" = some (.type "list") := by decide +kernel
theorem bt_tuple : bootBuiltins "tuple" = some (.type "tuple") := by decide +kernel
theorem bt_str : bootBuiltins "str" = some (.type "str") := by decide +kernel
theorem bt_bool : bootBuiltins "bool" = some (.type "bool") := by decide +kernel
theorem bt_set : bootBuiltins "set" = some (.type "set") := by decide +kernel
theorem bt_dict : bootBuiltins "dict" = some (.type "dict") := by decide +kernel
/-- no name of a built-in is taken by the module -/
structure Bt (mg : Str → Option Value) : Prop where
  b_len : mg "len" = none
  b_range : mg "range" = none
  b_sum : mg "sum" = none
  b_any : mg "any" = none
  b_all : mg "all" = none
  b_abs : mg "abs" = none
  b_int : mg "int" = none
  b_isinstance : mg "isinstance" = none
  b_list : mg "list" = none
  b_tuple : mg "tuple" = none
  b_sorted : mg "sorted" = none
  b_enumerate : mg "enumerate" = none
  b_max : mg "max" = none
  b_min : mg "min" = none
  b_str : mg "str" = none
  b_set : mg "set" = none
  b_zip : mg "zip" = none
  b_reversed : mg "reversed" = none
  b_dict : mg "dict" = none
  b_bool : mg "bool" = none

/-- a list or a tuple -/
def iSeq (K : Fr) (tl : TE) : TI := iOr (iList K tl) (iTup K tl)
theorem pi_seq {X : Cx} {tg l : Expr} {tl : TE} (h : PE X l tl) : PI X tg l (iSeq X.K tl) := pi_or (pi_list h) (pi_tup h)
def iEnumU (K : Fr) (ta : TA) : TI := iOr (iEnum K ta) (iEnumT K ta)
theorem pi_enumU {X : Cx} {e : Expr} {ta : TA} {p pos tpos : Pos} {elts : List Expr} {kk : Nat} (hg : Gl X "enumerate") (hm : X.mg "enumerate" = none) (ha : PA X [e] ta) (hs : starEach [e] X.env = [(false, eval e X.env)] := by rfl) :
    PI X (.Tuple elts kk tpos) (.Call (.Name "enumerate" p) [e] [] pos) (iEnumU X.K ta) := pi_or (pi_enum hg hm ha hs) (pi_enumT hg hm ha hs)
def seqD (b : Bool) (ds : List D) : D := if b then .tup ds else .lst ds
section
variable {K : Fr} {f f1 : Bool} {σ : L2.St} {G H : Hp} {α β : Type} {xs : List α} {c : α → D} {te tl : TE} {ta : TA} {ds : List D} {d : D}
theorem ei_seqL (h : Ev K false tl σ G (.lst (xs.map c))) : EvI K (iSeq K tl) σ G xs c := ei_left (ei_list h)
theorem ei_seqT (h : Ev K false tl σ G (.tup (xs.map c))) : EvI K (iSeq K tl) σ G xs c := ei_right (ei_tup h)
theorem ei_seq {b : Bool} (h : Ev K false tl σ G (seqD b (xs.map c))) : EvI K (iSeq K tl) σ G xs c := by
  cases b with
  | true => exact ei_seqT h
  | false => exact ei_seqL h
theorem ei_enumL (h : EvA K false ta σ G [.lst (xs.map c)]) : EvI K (iEnumU K ta) σ G (enumL 0 xs) (fun p => .tup [.int p.1, c p.2]) := ei_left (ei_enum h)
theorem ei_enumTu (h : EvA K false ta σ G [.tup (xs.map c)]) : EvI K (iEnumU K ta) σ G (enumL 0 xs) (fun p => .tup [.int p.1, c p.2]) := ei_right (ei_enumT h)
theorem c_lenU {b : Bool} : Rc K f (rcLen K) [seqD b ds] (.int (ds.length : Int)) := by
  cases b with
  | true => exact c_lenT
  | false => exact c_lenL
theorem v_ixU {b : Bool} {i : Int} (h : atI ds i = some d) : Rv K f f (rIx K) (seqD b ds) (.int i) d := by
  cases b with
  | true => exact v_ixT h
  | false => exact v_ixL h
theorem v_inU {b : Bool} {n : Int} {ns : List Int} : Rv K f f1 (rIn K false) (.int n) (seqD b (ns.map D.int)) (.bl (decide (n ∈ ns))) := by
  cases b with
  | true => exact rv_inT
  | false => exact rv_inL
theorem v_niU {b : Bool} {n : Int} {ns : List Int} : Rv K f f1 (rIn K true) (.int n) (seqD b (ns.map D.int)) (.bl (!decide (n ∈ ns))) := by
  cases b with
  | true => exact rv_niT
  | false => exact rv_niL
/-- the item at i, i a place of the list -/
theorem at_map {i : Int} {a : α} (h0 : 0 ≤ i) (h : xs[i.toNat]? = some a) : atI (xs.map c) i = some (c a) := by
  have hl : i.toNat < xs.length := (List.getElem?_eq_some_iff.mp h).1
  unfold atI ixN
  rw [List.length_map, if_pos h0, if_pos (by omega)]
  show (xs.map c)[i.toNat]? = some (c a)
  rw [List.getElem?_map, h]; rfl
/-- a number's item, 0 beyond -/
def ix (xs : List Int) (i : Int) : Int := xs.getD i.toNat 0
theorem ix_get {xs : List Int} {i : Int} (h0 : 0 ≤ i) (h1 : i < xs.length) : xs[i.toNat]? = some (ix xs i) := by
  unfold ix
  have hl : i.toNat < xs.length := by omega
  rw [List.getD_eq_getElem?_getD, List.getElem?_eq_getElem hl]; rfl
theorem at_int {xs : List Int} {i : Int} (h0 : 0 ≤ i) (h1 : i < xs.length) : atI (xs.map D.int) i = some (.int (ix xs i)) := at_map h0 (ix_get h0 h1)
theorem at_last {d : D} {ds : List D} : atI (ds ++ [d]) (-1) = some d := by
  unfold atI ixN
  rw [if_neg (by omega), if_pos (by simp; omega)]
  show (ds ++ [d])[((-1 : Int) + ((ds ++ [d]).length : Int)).toNat]? = some d
  have e : ((-1 : Int) + ((ds ++ [d]).length : Int)).toNat = ds.length := by simp; omega
  rw [e]; simp
/-- a field of an instance -/
theorem look_fld {fr : Option Hp} {G : Hp} {fld : Str} : ∀ {ns : List Str} {ds : List D} {fs : List (Str × V)} {d : D}, fs.map (·.1) = ns → RepA K fr G ds (fs.map (·.2)) → (ns.zip ds).lookup fld = some d → ∃ v, fs.lookup fld = some v ∧ Rep K fr G d v := by
  intro ns
  induction ns with
  | nil => intro ds fs d _ _ h; simp at h
  | cons n ns ih =>
    intro ds fs d hn hr h
    cases fs with
    | nil => simp at hn
    | cons p fs =>
      obtain ⟨m, v⟩ := p
      simp only [List.map_cons, List.cons.injEq] at hn
      obtain ⟨rfl, hn⟩ := hn
      cases ds with
      | nil => simp at h
      | cons d0 ds =>
        simp only [List.map_cons] at hr
        cases hr with
        | cons h1 t1 =>
          rw [List.zip_cons_cons, List.lookup_cons] at h
          rw [List.lookup_cons]
          cases q : (fld == m) with
          | true => rw [q] at h; cases h; exact ⟨v, rfl, h1⟩
          | false => rw [q] at h; exact ih hn t1 h
theorem ev_fld {C : Addr} {ns : List Str} {fld : Str} (cl : Cls K C) (na : NoAttr K C fld) (hd : (ns.zip ds).lookup fld = some d) (h : Ev K f te σ G (.ins C ns ds)) : Ev K f (tFld K te fld) σ G d := fun H e Q q =>
  h H e _ fun v G1 H1 g1 rv => by
    cases rv with
    | ins hp hn hr =>
      rename_i a dx fs
      obtain ⟨w, hw, rw'⟩ := look_fld hn hr hd
      exact ⟨a, C, dx, fs, w, rfl, g1.sub _ _ hp, cl, na, hw, q w G1 H1 g1 rw'⟩
theorem RepA.one {fr : Option Hp} {d1 : D} {vs : List V} (h : RepA K fr G [d1] vs) : ∃ v1, vs = [v1] ∧ Rep K fr G d1 v1 := by
  cases h with | cons h t => cases t; exact ⟨_, rfl, h⟩
theorem RepA.two {fr : Option Hp} {d1 d2 : D} {vs : List V} (h : RepA K fr G [d1, d2] vs) : ∃ v1 v2, vs = [v1, v2] ∧ Rep K fr G d1 v1 ∧ Rep K fr G d2 v2 := by
  cases h with | cons h t => obtain ⟨v2, rfl, h2⟩ := t.one; exact ⟨_, _, rfl, h, h2⟩
theorem RepA.three {fr : Option Hp} {d1 d2 d3 : D} {vs : List V} (h : RepA K fr G [d1, d2, d3] vs) : ∃ v1 v2 v3, vs = [v1, v2, v3] ∧ Rep K fr G d1 v1 ∧ Rep K fr G d2 v2 ∧ Rep K fr G d3 v3 := by
  cases h with | cons h t => obtain ⟨v2, v3, rfl, h2, h3⟩ := t.two; exact ⟨_, _, _, rfl, h, h2, h3⟩
theorem RepA.four {fr : Option Hp} {d1 d2 d3 d4 : D} {vs : List V} (h : RepA K fr G [d1, d2, d3, d4] vs) : ∃ v1 v2 v3 v4, vs = [v1, v2, v3, v4] ∧ Rep K fr G d1 v1 ∧ Rep K fr G d2 v2 ∧ Rep K fr G d3 v3 ∧ Rep K fr G d4 v4 := by
  cases h with | cons h t => obtain ⟨v2, v3, v4, rfl, h2, h3, h4⟩ := t.three; exact ⟨_, _, _, _, rfl, h, h2, h3, h4⟩
theorem RepA.five {fr : Option Hp} {d1 d2 d3 d4 d5 : D} {vs : List V} (h : RepA K fr G [d1, d2, d3, d4, d5] vs) : ∃ v1 v2 v3 v4 v5, vs = [v1, v2, v3, v4, v5] ∧ Rep K fr G d1 v1 ∧ Rep K fr G d2 v2 ∧ Rep K fr G d3 v3 ∧ Rep K fr G d4 v4 ∧ Rep K fr G d5 v5 := by
  cases h with | cons h t => obtain ⟨v2, v3, v4, v5, rfl, h2, h3, h4, h5⟩ := t.four; exact ⟨_, _, _, _, _, rfl, h, h2, h3, h4, h5⟩
end
end VL

/-! VL7: the rules with the written part told by name (a block's own context hides it). -/
namespace VL
open PySem PySem.Spec PyProof.Rows L2
section
variable {X : Cx} {K : Fr}
theorem ix_seqK (hK : X.K = K) : IxR X (rIx K) := hK ▸ ix_seq
theorem sl_UK (hK : X.K = K) : SlR X (rSlU K) := hK ▸ sl_U
theorem op_addUK (hK : X.K = K) : OpR X (binaryOp .Add) (rAddU K) := hK ▸ op_addU
theorem op_eqUK (hK : X.K = K) (hu : X.A.units + 64 < cLine) : OpR X (compareOp .Eq) (rEqU K) := hK ▸ op_eqU hu
theorem op_neUK (hK : X.K = K) (hu : X.A.units + 64 < cLine) : OpR X (compareOp .NotEq) (rNeU K) := hK ▸ op_neU hu
theorem op_inK (hK : X.K = K) : OpR X (compareOp .In) (rIn K false) := hK ▸ op_in_seq
theorem op_niK (hK : X.K = K) : OpR X (compareOp .NotIn) (rIn K true) := hK ▸ op_notIn_seq
theorem cl_lenK (hK : X.K = K) : CallR X (.builtin "len") (rcLen K) := hK ▸ cl_len
theorem cl_listK (hK : X.K = K) : CallR X (.type "list") (rcList K) := hK ▸ cl_list
theorem cl_tupK (hK : X.K = K) : CallR X (.type "tuple") (rcTup K) := hK ▸ cl_tup
theorem cr_sumK (hK : X.K = K) (hc : X.calm = true) : CallR X (.builtin "sum") (rSum K) := hK ▸ cr_sum hc
theorem cr_anyK (hK : X.K = K) (hc : X.calm = true) : CallR X (.builtin "any") (rAny K) := hK ▸ cr_any hc
theorem cr_allK (hK : X.K = K) (hc : X.calm = true) : CallR X (.builtin "all") (rAll K) := hK ▸ cr_all hc
theorem cr_maxK (hK : X.K = K) (hc : X.calm = true) : CallR X (.builtin "max") (rMax K) := hK ▸ cr_max hc
theorem cr_minK (hK : X.K = K) (hc : X.calm = true) : CallR X (.builtin "min") (rMin K) := hK ▸ cr_min hc
theorem cr_sortedK (hK : X.K = K) : CallR X (.builtin "sorted") (rSortedI K) := hK ▸ cr_sortedI
theorem cl_isiK (hK : X.K = K) : CallR X (.builtin "isinstance") (rIsi K) := hK ▸ call_isi
theorem mt_indexK (hK : X.K = K) : MtR X "list.index" (rIndex K) := hK ▸ mt_index
theorem get_listK (hK : X.K = K) : PGet X (rGetL K) := hK ▸ get_list
theorem pe_fldK (hK : X.K = K) {e : Expr} {te : TE} {fld : Str} {pos : Pos} (he : PE X e te) (hb : attributeBase e fld X.env (eval e X.env) = eval e X.env) : PE X (.Attribute e fld pos) (tFld K te fld) := hK ▸ pe_fld he hb
theorem pi_seqK (hK : X.K = K) {tg l : Expr} {tl : TE} (h : PE X l tl) : PI X tg l (iSeq K tl) := hK ▸ pi_seq h
theorem pi_enumK (hK : X.K = K) {e : Expr} {ta : TA} {p pos tpos : Pos} {elts : List Expr} {kk : Nat} (hg : Gl X "enumerate") (hm : X.mg "enumerate" = none) (ha : PA X [e] ta) (hs : starEach [e] X.env = [(false, eval e X.env)] := by rfl) :
    PI X (.Tuple elts kk tpos) (.Call (.Name "enumerate" p) [e] [] pos) (iEnumU K ta) := hK ▸ pi_enumU hg hm ha hs
theorem pg_tupK (hK : X.K = K) {es : List Expr} {k : Nat} {t : TGs} {n : Nat} {pos : Pos} (hc : X.calm = true) (h : PGs X es t)
    (hn : (assignEach es X.env).length = n := by rfl) (hst : (assignEach es X.env).findIdx? (·.1) = none := by rfl) : PG X (.Tuple es k pos) (gTup K n t) := hK ▸ pg_tup hc h hn hst
theorem pe_revLK (hK : X.K = K) {e : Expr} {te : TE} {k : Nat} {p1 p2 p3 pos : Pos} (he : PE X e te) : PE X (.Subscript e (.Slice none none (some (.UnaryOp .USub (.Constant (.int 1) k p1) p2)) p3) pos) (tRevL K te) := hK ▸ pe_revL he
theorem pa_starK (hK : X.K = K) {e : Expr} {es : List Expr} {te : TE} {t : TA} {p : Pos} (he : PE X e te) (hr : PA X es t) (hs : starEach (.Starred e p :: es) X.env = (true, eval e X.env) :: starEach es X.env := by rfl) : PA X (.Starred e p :: es) (StX.tStar K te t) := hK ▸ StX.pa_star he hr hs
theorem pi_reversedK (hK : X.K = K) {tg e : Expr} {ta : TA} {p pos : Pos} (hg : Gl X "reversed") (hm : X.mg "reversed" = none) (ha : PA X [e] ta) (hs : starEach [e] X.env = [(false, eval e X.env)] := by rfl) : PI X tg (.Call (.Name "reversed" p) [e] [] pos) (iRev K ta) := hK ▸ pi_reversed hg hm ha hs
theorem pi_zipK (hK : X.K = K) {e e2 : Expr} {ta : TA} {p pos tpos : Pos} {elts : List Expr} {kk : Nat} (hg : Gl X "zip") (hm : X.mg "zip" = none) (ha : PA X [e, e2] ta)
    (hs : starEach [e, e2] X.env = (false, eval e X.env) :: starEach [e2] X.env := by rfl) (hpl : (backTo pos (starEach [e2] X.env)).any (·.1) = false := by rfl) :
    PI X (.Tuple elts kk tpos) (.Call (.Name "zip" p) [e, e2] [] pos) (iZip K ta) := hK ▸ pi_zip hg hm ha hs hpl
end
end VL

/-! VL8: later rules. -/
namespace VL
open PySem PySem.Spec PyProof.Rows L2
open Evl (Ex)
theorem Rc.is1 {K : Fr} {f : Bool} {r : List V → Hp → VK → Prop} {d e c : D} (h : Rc K f r [e] c) (eq : d = e) : Rc K f r [d] c := eq ▸ h
theorem Rc.old {K : Fr} {f : Bool} {r : List V → Hp → VK → Prop} {ds : List D} {c : D} (h : Rc K f r ds c) : Rc K false r ds c := fun G vs rs H e Q q => h G vs rs H e Q fun v G' H' g rv => q v G' H' g rv.old
theorem RcS.old {K : Fr} {f : Bool} {r : List V → Hp → VK → Prop} {ds : List D} {P : D → Prop} (h : RcS K f r ds P) : RcS K false r ds P := fun G vs rs H e Q q => h G vs rs H e Q fun d v G' H' pd g rv => q d v G' H' pd g rv.old
theorem EvI.is {K : Fr} {wi : TI} {σ : L2.St} {G : Hp} {α : Type} {xs ys : List α} {c : α → D} (h : EvI K wi σ G xs c) (e : xs = ys) : EvI K wi σ G ys c := e ▸ h
section
variable {K : Fr} {f : Bool} {σ : L2.St} {G H G0 H0 : Hp} {te : TE} {d : D} {p : Addr} {vs : List V} {ds : List D} {De : Ends} {i : Nat}
/-- a scalar is as good as new -/
theorem Ev.sc (h : Ev K false te σ G d) (hs : scalarD d = true) : Ev K f te σ G d := fun H e Q q => h H e Q fun v G' H' g r => q v G' H' g (r.scalar hs)
/-- a list of one's own is written no more: it is known from here on -/
theorem Grow.own (g : Grow G0 H0 G H) (hp : H p = some (.lst vs)) (hn : G p = none) (h0 : H0 p = none) : Grow G0 H0 (upd G p (.lst vs)) H :=
  ⟨g.e.trans (Ex.new hn), fun a o ha => by
    by_cases hx : a = p
    · subst hx; rw [upd_same] at ha; cases ha; exact hp
    · rw [upd_ne hx] at ha; exact g.sub a o ha, g.ext, fun a ha ha' => by
    by_cases hx : a = p
    · subst hx; exact h0
    · rw [upd_ne hx] at ha'; exact g.new a ha ha'⟩
theorem rep_own (h0 : H0 p = none) (hn : G p = none) (r : RepA K (frh f H0) G ds vs) : Rep K (frh f H0) (upd G p (.lst vs)) (.lst ds) (.ref p) := by
  refine .lst ?_ upd_same (r.mono (Ex.new hn))
  cases f with
  | true => exact h0
  | false => trivial
theorem ev_anyLc {α : Type} {xs : List α} {c : α → D} {wi : TI} {g : TG} {vs : List Nat} {h : α → Bool} {S : α → Hp → L2.St → Prop} (hi : EvI K wi σ G xs c) (hl : xs.length ≤ 50000) (hw : ∀ a G1 σ', S a G1 σ' → wipe σ' vs = wipe σ vs)
    (hg : ∀ a ∈ xs, ∀ G1, Ex G G1 → Tgt K g (wipe σ vs) (c a) G1 (S a G1)) (he : ∀ a ∈ xs, ∀ G1, Ex G G1 → ∀ σ', S a G1 σ' → Ev K false te σ' G1 (.bl (h a))) : Ev K f (tCB (rAny K) (tCons (tLc wi g tYes te vs) tNil)) σ G (.bl (xs.any h)) := by
  have z := ev_cb (f := f) (ea_cons ((evl_lc0 (f := false) (h := fun a => .bl (h a)) hi hl hw hg he).ev.is (show _ = D.lst ((xs.map h).map D.bl) by rw [List.map_map]; rfl)) ea_nil) (rc_any (bs := xs.map h))
  rw [List.any_map] at z
  exact z
theorem ev_allLc {α : Type} {xs : List α} {c : α → D} {wi : TI} {g : TG} {vs : List Nat} {h : α → Bool} {S : α → Hp → L2.St → Prop} (hi : EvI K wi σ G xs c) (hl : xs.length ≤ 50000) (hw : ∀ a G1 σ', S a G1 σ' → wipe σ' vs = wipe σ vs)
    (hg : ∀ a ∈ xs, ∀ G1, Ex G G1 → Tgt K g (wipe σ vs) (c a) G1 (S a G1)) (he : ∀ a ∈ xs, ∀ G1, Ex G G1 → ∀ σ', S a G1 σ' → Ev K false te σ' G1 (.bl (h a))) : Ev K f (tCB (rAll K) (tCons (tLc wi g tYes te vs) tNil)) σ G (.bl (xs.all h)) := by
  have z := ev_cb (f := f) (ea_cons ((evl_lc0 (f := false) (h := fun a => .bl (h a)) hi hl hw hg he).ev.is (show _ = D.lst ((xs.map h).map D.bl) by rw [List.map_map]; rfl)) ea_nil) (rc_all (bs := xs.map h))
  rw [List.all_map] at z
  exact z
theorem ev_sumLc {α : Type} {xs : List α} {c : α → D} {wi : TI} {g : TG} {tt : TT} {vs : List Nat} {b : α → Bool} {h : α → Int} {S : α → Hp → L2.St → Prop} (hi : EvI K wi σ G xs c) (hl : xs.length ≤ 50000) (hw : ∀ a G1 σ', S a G1 σ' → wipe σ' vs = wipe σ vs)
    (hg : ∀ a ∈ xs, ∀ G1, Ex G G1 → Tgt K g (wipe σ vs) (c a) G1 (S a G1)) (ht : ∀ a ∈ xs, ∀ G1, Ex G G1 → ∀ σ', S a G1 σ' → EvT K tt σ' G1 (b a)) (he : ∀ a ∈ xs, b a = true → ∀ G1, Ex G G1 → ∀ σ', S a G1 σ' → Ev K false te σ' G1 (.int (h a))) :
    Ev K f (tCB (rSum K) (tCons (tLc wi g tt te vs) tNil)) σ G (.int (((xs.filter b).map h).sum)) :=
  ev_cb (f := f) (ea_cons ((evl_lc (f := false) (b := b) (h := fun a => .int (h a)) hi hl hw hg ht he).ev.is (show _ = D.lst (((xs.filter b).map h).map D.int) by rw [List.map_map]; rfl)) ea_nil) rc_sum
theorem ev_sumLc0 {α : Type} {xs : List α} {c : α → D} {wi : TI} {g : TG} {vs : List Nat} {h : α → Int} {S : α → Hp → L2.St → Prop} (hi : EvI K wi σ G xs c) (hl : xs.length ≤ 50000) (hw : ∀ a G1 σ', S a G1 σ' → wipe σ' vs = wipe σ vs)
    (hg : ∀ a ∈ xs, ∀ G1, Ex G G1 → Tgt K g (wipe σ vs) (c a) G1 (S a G1)) (he : ∀ a ∈ xs, ∀ G1, Ex G G1 → ∀ σ', S a G1 σ' → Ev K false te σ' G1 (.int (h a))) :
    Ev K f (tCB (rSum K) (tCons (tLc wi g tYes te vs) tNil)) σ G (.int ((xs.map h).sum)) :=
  ev_cb (f := f) (ea_cons ((evl_lc0 (f := false) (h := fun a => .int (h a)) hi hl hw hg he).ev.is (show _ = D.lst ((xs.map h).map D.int) by rw [List.map_map]; rfl)) ea_nil) rc_sum
/-- a list of whole numbers by a comprehension -/
theorem ev_intLc {α : Type} {xs : List α} {c : α → D} {wi : TI} {g : TG} {tt : TT} {vs : List Nat} {b : α → Bool} {h : α → Int} {S : α → Hp → L2.St → Prop} (hi : EvI K wi σ G xs c) (hl : xs.length ≤ 50000) (hw : ∀ a G1 σ', S a G1 σ' → wipe σ' vs = wipe σ vs)
    (hg : ∀ a ∈ xs, ∀ G1, Ex G G1 → Tgt K g (wipe σ vs) (c a) G1 (S a G1)) (ht : ∀ a ∈ xs, ∀ G1, Ex G G1 → ∀ σ', S a G1 σ' → EvT K tt σ' G1 (b a)) (he : ∀ a ∈ xs, b a = true → ∀ G1, Ex G G1 → ∀ σ', S a G1 σ' → Ev K f te σ' G1 (.int (h a))) :
    Ev K f (tLc wi g tt te vs) σ G (.lst (((xs.filter b).map h).map D.int)) := (evl_lc (b := b) (h := fun a => .int (h a)) hi hl hw hg ht he).ev.is (by rw [List.map_map]; rfl)
theorem ev_intLc0 {α : Type} {xs : List α} {c : α → D} {wi : TI} {g : TG} {vs : List Nat} {h : α → Int} {S : α → Hp → L2.St → Prop} (hi : EvI K wi σ G xs c) (hl : xs.length ≤ 50000) (hw : ∀ a G1 σ', S a G1 σ' → wipe σ' vs = wipe σ vs)
    (hg : ∀ a ∈ xs, ∀ G1, Ex G G1 → Tgt K g (wipe σ vs) (c a) G1 (S a G1)) (he : ∀ a ∈ xs, ∀ G1, Ex G G1 → ∀ σ', S a G1 σ' → Ev K f te σ' G1 (.int (h a))) :
    Ev K f (tLc wi g tYes te vs) σ G (.lst ((xs.map h).map D.int)) := (evl_lc0 (h := fun a => .int (h a)) hi hl hw hg he).ev.is (by rw [List.map_map]; rfl)
/-- if .. : (leaves); what follows -/
theorem s_ifc {x : Bool} {tt : TT} {tu tr : TS} (e : Ex G H) (h : EvT K tt σ G x) (h1 : x = true → ∀ G' H', Grow G H G' H' → tu { De with nx := tr De } σ H') (h2 : x = false → ∀ G' H', Grow G H G' H' → tr De σ H') : tSeq (tIfS tt tu tNext) tr De σ H := h H e _ fun G' H' g => by
  cases x with
  | true => exact h1 rfl G' H' g
  | false => exact h2 rfl G' H' g
theorem s_ifcS {T : Bool → Prop} {tt : TT} {tu tr : TS} (e : Ex G H) (h : EvTS K tt σ G T) (h1 : T true → ∀ G' H', Grow G H G' H' → tu { De with nx := tr De } σ H') (h2 : T false → ∀ G' H', Grow G H G' H' → tr De σ H') : tSeq (tIfS tt tu tNext) tr De σ H := h H e _ fun x G' H' tx g => by
  cases x with
  | true => exact h1 tx G' H' g
  | false => exact h2 tx G' H' g
theorem s_retP {v : V} (hv : σ[i]? = some (some v)) (k : De.rt v H) : tRet (tVar i) De σ H := ⟨v, hv, k⟩
end
/-! ### instances made -/
/-- the heap without x -/
def cutx (H : Hp) (x : Addr) : Hp := fun a => if a = x then none else H a
theorem cutx_self {H : Hp} {x : Addr} : cutx H x x = none := if_pos rfl
theorem cutx_ne {H : Hp} {x a : Addr} (h : a ≠ x) : cutx H x a = H a := if_neg h
theorem cutx_ex {H : Hp} {x : Addr} : Ex (cutx H x) H := fun a o h => by
  by_cases e : a = x
  · subst e; rw [cutx_self] at h; cases h
  · rw [cutx_ne e] at h; exact h
theorem Grow.cutx {G H : Hp} {x : Addr} (e : Ex G H) : Grow G (cutx H x) G H := ⟨Ex.refl _, e, cutx_ex, fun a h h' => absurd h h'⟩
/-- __init__: x is new; its fields behind -/
def spInit (K : Fr) (C : Addr) {ι : Type} (args : ι → List D) (pre : ι → Prop) (names : List Str) (out : ι → List D) : Sp := fun vs H Q _ => ∃ (i : ι) (G : Hp) (x dx : Addr) (us : List V), vs = .ref x :: us ∧ Ex G H ∧ G x = none ∧ H x = some (.ins C dx []) ∧ RepA K none G (args i) us ∧ pre i ∧
  ∀ fs G' H', fs.map (·.1) = names → RepA K none G' (out i) (fs.map (·.2)) → Grow G (cutx H x) G' H' → H' x = some (.ins C dx fs) → G' x = none → Q .non H'
section
variable {K : Fr} {f : Bool} {σ : L2.St} {G H G0 H0 : Hp} {te : TE} {d : D} {ds : List D} {De : Ends} {i : Nat} {P : D → Prop}
theorem ev_mk {C : Addr} {ι : Type} {args : ι → List D} {pre : ι → Prop} {names : List Str} {out : ι → List D} {E : XK} {ta : TA} (j : ι) (hp : pre j) (h : EvA K false ta σ G (args j)) : Ev K false (tMake C (spInit K C args pre names out) [] E ta) σ G (.ins C names (out j)) := fun H e Q q =>
  h H e _ fun vs G1 H1 g1 rs => fun x dx hx hdx hne => by
    have n1 : G1 x = none := Evl.fresh_back g1.sub hx
    have e2 : Ex G1 (upd (upd H1 dx (.own x)) x (.ins C dx [])) := fun a o ha => by
      have z := g1.sub a o ha
      rw [upd_ne (ne_of_none z hx), upd_ne (ne_of_none z hdx)]; exact z
    refine ⟨j, G1, x, dx, vs, by rw [List.append_nil], e2, n1, upd_same, rs, hp, fun fs G' H' hn hr g hX hG => ⟨rfl, ?_⟩⟩
    have e3 : Ex G' (upd G' x (.ins C dx fs)) := Ex.new hG
    refine q (.ref x) (upd G' x (.ins C dx fs)) H' (g1.trans ⟨g.e.trans e3, fun a o ha => ?_, fun a o ha => ?_, fun a ha ha' => ?_⟩) (.ins upd_same hn (hr.mono e3))
    · by_cases hh : a = x
      · subst hh; rw [upd_same] at ha; cases ha; exact hX
      · rw [upd_ne hh] at ha; exact g.sub a o ha
    · refine g.ext a o ?_
      rw [cutx_ne (ne_of_none ha hx), upd_ne (ne_of_none ha hx), upd_ne (ne_of_none ha hdx)]; exact ha
    · by_cases hh : a = x
      · subst hh; exact hx
      · rw [upd_ne hh] at ha'
        have z := g.new a ha ha'
        rw [cutx_ne hh, upd_ne hh] at z
        by_cases hd : a = dx
        · subst hd; exact hdx
        · rw [upd_ne hd] at z; exact z
theorem putF_new {fl : Str} {v : V} : ∀ {fs : List (Str × V)}, (∀ p ∈ fs, ¬ p.1 = fl) → putF fl v fs = fs ++ [(fl, v)]
  | [], _ => rfl
  | p :: fs, h => by
    unfold putF
    rw [if_neg (h p List.mem_cons_self), putF_new fun q hq => h q (List.mem_cons_of_mem _ hq)]; rfl
/-- self.x = e, self still new -/
theorem s_fldS {x C dx : Addr} {fs : List (Str × V)} {fl : Str} (e : Ex G H) (hv : σ[i]? = some (some (.ref x))) (hx : H x = some (.ins C dx fs)) (hn : G x = none) (cl : Cls K C) (na : NoAttr K C fl) (hl : fs.length < 1000) (h : EvS K f te σ G P)
    (k : ∀ d v G' H', P d → Grow G H G' H' → Rep K (frh f H) G' d v → H' x = some (.ins C dx fs) → G' x = none → De.nx σ (upd H' x (.ins C dx (putF fl v fs)))) : sFld K (tVar i) te fl De σ H :=
  h H e _ fun d v G1 H1 pd g1 r => by
    have z := g1.keep hx hn
    exact ⟨.ref x, hv, x, C, dx, fs, rfl, z.1, cl, na, hl, k d v G1 H1 pd g1 r z.1 z.2⟩
end
section
variable {K : Fr} {f : Bool} {σ : L2.St} {G H : Hp}
/-- a part of a list of whole numbers that may be the script -/
theorem ev_slScript {tl th : TO} {lo hi : Option Int} {i : Nat} {a : Addr} {ns : List Int} (hv : σ[i]? = some (some (.ref a))) (hs : SqL K G a (ns.map V.int)) (h1 : EvO K tl σ G lo) (h2 : EvO K th σ G hi) : Ev K f (tSl (rSlU K) (tVar i) tl th) σ G (.lst ((cutD ns lo hi).map D.int)) := fun H e Q q =>
  ⟨.ref a, hv, h1 H e _ fun G2 H2 g2 => (h2.mono g2.e) H2 g2.sub _ fun G3 H3 g3 => Or.inl (by
    have g := g2.trans g3
    refine ⟨a, _, rfl, Evl.ex_l (e.trans g.ext) hs, fun n hn => ?_⟩
    have ec : cutV (ns.map V.int) lo hi = (cutD ns lo hi).map V.int := by
      unfold cutV cutD
      rw [List.length_map, ← List.map_drop, ← List.map_take]
    rw [ec]
    have gl := Grow.laid (o := .lst ((cutD ns lo hi).map V.int)) g.sub hn
    refine q (.ref n) _ _ (g.trans gl) (.lst ?_ upd_same (RepA.ofInts _))
    cases f with
    | true => exact Evl.fresh_back g.ext hn
    | false => trivial)⟩
theorem cutD_length {α : Type} (xs : List α) (lo hi : Option Int) : (cutD xs lo hi).length ≤ xs.length := by
  unfold cutD
  rw [List.length_take, List.length_drop]
  omega
end
end VL

/-! VL9: drawn whole numbers, lists of one's own that are read while they grow. -/
namespace VL
open PySem PySem.Spec PyProof.Rows L2
open Evl (Ex)
/-- a whole number with p -/
def IntP (p : Int → Prop) : D → Prop := fun d => ∃ i, d = .int i ∧ p i
/-- at one heap -/
def EvH (K : Fr) (f : Bool) (te : TE) (σ : L2.St) (G H : Hp) (P : D → Prop) : Prop := ∀ Q : VK, (∀ d v G' H', P d → Grow G H G' H' → Rep K (frh f H) G' d v → Q v H') → te σ H Q
def EtH (_ : Fr) (tt : TT) (σ : L2.St) (G H : Hp) (T : Bool → Prop) : Prop := ∀ Q : Bool → Hp → Prop, (∀ b G' H', T b → Grow G H G' H' → Q b H') → tt σ H Q
def EaH (K : Fr) (f : Bool) (ta : TA) (σ : L2.St) (G H : Hp) (P : List D → Prop) : Prop := ∀ Q : List V → Hp → Prop, (∀ ds vs G' H', P ds → Grow G H G' H' → RepA K (frh f H) G' ds vs → Q vs H') → ta σ H Q
section
variable {K : Fr} {f : Bool} {σ : L2.St} {G H : Hp} {te ta tb : TE} {tt tu : TT} {P P1 : D → Prop} {p p1 p2 p3 : Int → Prop} {T T1 T2 : Bool → Prop} {ds : List D} {vs : List V} {d : D} {x : Addr} {i : Nat}
theorem EvS.h (h : EvS K f te σ G P) (e : Ex G H) : EvH K f te σ G H P := fun Q q => h H e Q q
theorem Ev.h (h : Ev K f te σ G d) (e : Ex G H) : EvH K f te σ G H (fun z => z = d) := fun Q q => h H e Q fun v G' H' g r => q d v G' H' rfl g r
theorem EvH.imp (h : EvH K f te σ G H P) (hp : ∀ d, P d → P1 d) : EvH K f te σ G H P1 := fun Q q => h Q fun d v G' H' k g r => q d v G' H' (hp d k) g r
theorem Ev.toI {j : Int} (h : Ev K f te σ G (.int j)) (hp : p j) : EvS K f te σ G (IntP p) := h.toS.imp fun _ e => ⟨j, e, hp⟩
theorem iS_op {r : R2} (ha : EvS K true ta σ G (IntP p1)) (hb : EvS K true tb σ G (IntP p2)) (hr : ∀ i j, p1 i → p2 j → ∃ k, p3 k ∧ Rv K f true r (.int i) (.int j) (.int k)) : EvS K f (tOp r ta tb) σ G (IntP p3) :=
  evS_op ha hb fun a b ⟨i, ea, h1⟩ ⟨j, eb, h2⟩ => by
    subst ea; subst eb
    obtain ⟨k, hk, hv⟩ := hr i j h1 h2
    exact ⟨_, ⟨k, rfl, hk⟩, hv⟩
theorem iS_add (ha : EvS K true ta σ G (IntP p1)) (hb : EvS K true tb σ G (IntP p2)) (hr : ∀ i j, p1 i → p2 j → p3 (i + j)) : EvS K f (tOp (rAddU K) ta tb) σ G (IntP p3) := iS_op ha hb fun i j h1 h2 => ⟨_, hr i j h1 h2, va_int⟩
theorem iS_sub (ha : EvS K true ta σ G (IntP p1)) (hb : EvS K true tb σ G (IntP p2)) (hr : ∀ i j, p1 i → p2 j → p3 (i - j)) : EvS K f (tOp (rI0 fun i j => .int (i - j)) ta tb) σ G (IntP p3) := iS_op ha hb fun i j h1 h2 => ⟨_, hr i j h1 h2, vs_int⟩
theorem iS_mul (ha : EvS K true ta σ G (IntP p1)) (hb : EvS K true tb σ G (IntP p2)) (hr : ∀ i j, p1 i → p2 j → CMul i j ∧ p3 (i * j)) : EvS K f (tOp rMulU ta tb) σ G (IntP p3) := iS_op ha hb fun i j h1 h2 => ⟨_, (hr i j h1 h2).2, vm_int (hr i j h1 h2).1⟩
theorem iS_mod (ha : EvS K true ta σ G (IntP p1)) (hb : EvS K true tb σ G (IntP p2)) (hr : ∀ i j, p1 i → p2 j → 0 < j ∧ p3 (i % j)) : EvS K f (tOp (rI (fun _ j => j ≠ 0) fun i j => .int (i.fmod j)) ta tb) σ G (IntP p3) := iS_op ha hb fun i j h1 h2 => ⟨_, (hr i j h1 h2).2, vo_int (hr i j h1 h2).1⟩
theorem iS_c1 {r : List V → Hp → VK → Prop} (ha : EvS K false ta σ G (IntP p1)) (hr : ∀ i, p1 i → ∃ k, p3 k ∧ Rc K f r [.int i] (.int k)) : EvS K f (tCB r (tCons ta tNil)) σ G (IntP p3) :=
  evS_cb (eaS_cons ha eaS_nil) (by
    rintro _ ⟨_, _, rfl, ⟨i, rfl, h1⟩, rfl⟩
    obtain ⟨k, hk, hv⟩ := hr i h1
    exact fun G vs rs H e Q q => hv G vs rs H e Q fun v G' H' g r => q _ v G' H' ⟨k, rfl, hk⟩ g r)
theorem iS_int (ha : EvS K false ta σ G (IntP p)) : EvS K f (tCB rcInt (tCons ta tNil)) σ G (IntP p) := iS_c1 ha fun i h => ⟨i, h, c_int⟩
theorem iS_c2 {r : List V → Hp → VK → Prop} (ha : EvS K false ta σ G (IntP p1)) (hb : EvS K false tb σ G (IntP p2)) (hr : ∀ i j, p1 i → p2 j → ∃ k, p3 k ∧ Rc K f r [.int i, .int j] (.int k)) : EvS K f (tCB r (tCons ta (tCons tb tNil))) σ G (IntP p3) :=
  evS_cb (eaS_cons ha (eaS_cons hb eaS_nil)) (by
    rintro _ ⟨_, _, rfl, ⟨i, rfl, h1⟩, _, _, rfl, ⟨j, rfl, h2⟩, rfl⟩
    obtain ⟨k, hk, hv⟩ := hr i j h1 h2
    exact fun G vs rs H e Q q => hv G vs rs H e Q fun v G' H' g r => q _ v G' H' ⟨k, rfl, hk⟩ g r)
theorem iS_max (ha : EvS K false ta σ G (IntP p1)) (hb : EvS K false tb σ G (IntP p2)) (hr : ∀ i j, p1 i → p2 j → p3 (max i j)) : EvS K f (tCB (fun xs H Q => ∃ i j, xs = [.int i, .int j] ∧ Q (.int (if j > i then j else i)) H) (tCons ta (tCons tb tNil))) σ G (IntP p3) := iS_c2 ha hb fun i j h1 h2 => ⟨_, hr i j h1 h2, rc_max2⟩
/-- a draw -/
theorem ev_draw {E : XK} {ta : TA} {many : Int} (h : EvA K false ta σ G [.pool, .int many]) (h0 : 0 < many) (h1 : many < 2 ^ 200) : EvS K f (tCall spDrawV [] E ta) σ G (IntP fun i => 0 ≤ i ∧ i < many) := evS_call1 h (spDraw_use h0 h1)
/-- tests of drawn things -/
theorem etS_eq {g : Int → Int → Bool} {r : R2} (ha : EvS K true ta σ G (IntP p1)) (hb : EvS K true tb σ G (IntP p2)) (hr : ∀ i j, Rv K false true r (.int i) (.int j) (.bl (g i j))) (hT : ∀ i j, p1 i → p2 j → T (g i j)) : EvTS K (tTest (tOp r ta tb)) σ G T :=
  etS_test (f := false) (P := fun d => ∃ b, d = .bl b ∧ T b) (evS_op ha hb fun a b ⟨i, ea, h1⟩ ⟨j, eb, h2⟩ => by
    subst ea; subst eb
    exact ⟨_, ⟨_, rfl, hT i j h1 h2⟩, hr i j⟩) fun d h => h
theorem EvTS.mono {G1 : Hp} (e : Ex G G1) (h : EvTS K tt σ G T) : EvTS K tt σ G1 T := fun H eH Q q => h H (e.trans eH) Q fun b G' H' hb g => q b _ H' hb (Grow.on e eH g).1
theorem EvTS.imp (h : EvTS K tt σ G T) (hp : ∀ b, T b → T1 b) : EvTS K tt σ G T1 := fun H e Q q => h H e Q fun b G' H' k g => q b G' H' (hp b k) g
theorem etS_and (h1 : EvTS K tt σ G T1) (h2 : T1 true → EvTS K tu σ G T2) : EvTS K (tAnd tt tu) σ G (fun b => (b = true → T1 true ∧ T2 true)) := fun H e Q q => h1 H e _ fun c G1 H1 hc g1 => by
  cases c with
  | true => exact (h2 hc).mono g1.e H1 g1.sub _ fun b G2 H2 hb g2 => q b G2 H2 (fun eb => ⟨hc, eb ▸ hb⟩) (g1.trans g2)
  | false => exact q false G1 H1 (fun eb => by cases eb) g1
theorem EvTS.h (h : EvTS K tt σ G T) (e : Ex G H) : EtH K tt σ G H T := fun Q q => h H e Q q
/-! own lists -/
theorem Grow.forget {G' H' : Hp} (hn : G x = none) (e : Ex G H) (g : Grow (upd G x (.lst vs)) H G' H') : Grow G H (VL.cutx G' x) H' := ⟨fun a o ha => by
    have hx : a ≠ x := fun y => by rw [y, hn] at ha; cases ha
    rw [cutx_ne hx]
    exact g.e a o (by rw [upd_ne hx]; exact ha), cutx_ex.trans g.sub, g.ext, fun a ha ha' => by
    by_cases hx : a = x
    · subst hx; rw [cutx_self] at ha'; exact absurd rfl ha'
    · rw [cutx_ne hx] at ha'
      exact g.new a (by rw [upd_ne hx]; exact ha) ha'⟩
theorem ex_own (hp : H x = some (.lst vs)) (e : Ex G H) : Ex (upd G x (.lst vs)) H := fun a o ha => by
  by_cases hx : a = x
  · subst hx; rw [upd_same] at ha; cases ha; exact hp
  · rw [upd_ne hx] at ha; exact e a o ha
theorem rep_ownN (hn : G x = none) (r : RepA K none G ds vs) : Rep K none (upd G x (.lst vs)) (.lst ds) (.ref x) := .lst trivial upd_same (r.mono (Ex.new hn))
/-- what reads one's own list and gives a scalar -/
theorem eh_own (hp : H x = some (.lst vs)) (hn : G x = none) (e : Ex G H) (h : EvS K f te σ (upd G x (.lst vs)) P) (hs : ∀ d, P d → scalarD d = true) : EvH K f te σ G H P := fun Q q =>
  h H (ex_own hp e) Q fun d v G' H' pd g r => q d v _ H' pd (Grow.forget hn e g) (r.scalar (hs d pd))
theorem eth_own (hp : H x = some (.lst vs)) (hn : G x = none) (e : Ex G H) (h : EvTS K tt σ (upd G x (.lst vs)) T) : EtH K tt σ G H T := fun Q q =>
  h H (ex_own hp e) Q fun d G' H' pd g => q d _ H' pd (Grow.forget hn e g)
/-- an item of one's own list -/
theorem eh_ixOwn (hv : σ[i]? = some (some (.ref x))) (hp : H x = some (.lst vs)) (r : RepA K none G ds vs) (h : EvH K false tb σ G H (IntP p)) (hq : ∀ j, p j → ∃ d, atI ds j = some d ∧ P d) : EvH K false (tOp (rIx K) (tVar i) tb) σ G H P := fun Q q =>
  ⟨.ref x, hv, h _ fun d v G1 H1 pd g1 rv => by
    obtain ⟨j, rfl, pj⟩ := pd
    cases rv
    obtain ⟨d, hd, pd⟩ := hq j pj
    obtain ⟨n, hn, hy⟩ := atI_len (ys := vs) r.length hd
    obtain ⟨v, hv', rv⟩ := r.get hn
    exact Or.inl ⟨x, vs, j, v, rfl, rfl, SqL.of (g1.ext _ _ hp), hy v hv', q d v G1 H1 pd g1 (rv.mono g1.e)⟩⟩
theorem EvH.ix {tc : TE} (hc : EvS K f tc σ G P) (e : Ex G H) : EvH K f tc σ G H P := hc.h e
variable {De : Ends} {ts tw tr : TS}
theorem s_asgH (h : EvH K f te σ G H P) (k : ∀ d v G' H', P d → Grow G H G' H' → Rep K (frh f H) G' d v → De.nx (σ.set i (some v)) H') : tAsg te (gName i) De σ H := h _ fun d v G' H' pd g r => k d v G' H' pd g r
theorem s_retH (h : EvH K f te σ G H P) (k : ∀ d v G' H', P d → Grow G H G' H' → Rep K (frh f H) G' d v → De.rt v H') : tRet te De σ H := h _ fun d v G' H' pd g r => k d v G' H' pd g r
theorem s_ifH (h : EtH K tt σ G H T) (h1 : T true → ∀ G' H', Grow G H G' H' → ts De σ H') (h2 : T false → ∀ G' H', Grow G H G' H' → tw De σ H') : tIfS tt ts tw De σ H := h _ fun b G' H' tb g => by
  cases b with
  | true => exact h1 tb G' H' g
  | false => exact h2 tb G' H' g
theorem s_ifcH (h : EtH K tt σ G H T) (h1 : T true → ∀ G' H', Grow G H G' H' → ts { De with nx := tr De } σ H') (h2 : T false → ∀ G' H', Grow G H G' H' → tr De σ H') : tSeq (tIfS tt ts tNext) tr De σ H := h _ fun b G' H' tb g => by
  cases b with
  | true => exact h1 tb G' H' g
  | false => exact h2 tb G' H' g
theorem s_appH {y : Addr} {us : List V} (hv : σ[i]? = some (some (.ref y))) (hp : H y = some (.lst us)) (hn : G y = none) (hl : us.length < 100000) (h : EvH K f te σ G H P)
    (k : ∀ d v G' H', P d → Grow G H G' H' → Rep K (frh f H) G' d v → H' y = some (.lst us) → G' y = none → De.nx σ (upd H' y (.lst (us ++ [v])))) : tDrop (tBM K "list" rAppend (tVar i) (tCons te tNil)) De σ H :=
  ⟨.ref y, hv, Or.inl ⟨rfl, us, SqL.of hp⟩, h _ fun d v G' H' pd g r =>
    have z := g.keep hp hn
    ⟨y, us, v, rfl, rfl, z.1, Evl.sz_lt hl, k d v G' H' pd g r z.1 z.2⟩⟩
theorem s_setH {y : Addr} {us : List V} {j : Nat} {ti : TE} (hv : σ[i]? = some (some (.ref y))) (hp : H y = some (.lst us)) (hn : G y = none) (hj : j < us.length) (h : EvH K f te σ G H P) (hi : Ev K false ti σ G (.int (j : Int)))
    (k : ∀ d v G' H', P d → Grow G H G' H' → Rep K (frh f H) G' d v → H' y = some (.lst us) → G' y = none → De.nx σ (upd H' y (.lst (us.set j v)))) : tAsg te (gSub (tVar i) ti rSetL) De σ H :=
  h _ fun d v G1 H1 pd g1 r => ⟨.ref y, hv, (hi.mono g1.e) H1 g1.sub _ fun w G2 H2 g2 rw => by
    cases rw
    have z := (g1.trans g2).keep hp hn
    exact ⟨y, us, (j : Int), j, rfl, rfl, z.1, Evl.ixN_nat hj, k d v G2 H2 pd (g1.trans g2) (r.mono g2.e) z.1 z.2⟩⟩
/-- less is known than could be -/
theorem Grow.less {G0 H0 G2 G' H' : Hp} (g : Grow G0 H0 G' H') (e : Ex G0 G2) (e2 : Ex G2 G') : Grow G0 H0 G2 H' := ⟨e, e2.trans g.sub, g.ext, fun a h h' => g.new a h fun z => h' (by
    cases q : G2 a with
    | none => rfl
    | some o => rw [e2 a o q] at z; cases z)⟩
/-- a comprehension of drawn whole numbers -/
theorem LcR.ints {α : Type} : ∀ {xs : List α} {ds : List D}, LcR (fun _ b => b = true) (fun _ => IntP p) xs ds → ∃ ns : List Int, ds = ns.map .int ∧ ns.length = xs.length ∧ ∀ n ∈ ns, p n
  | _, _, .nil => ⟨[], rfl, rfl, fun n h => by cases h⟩
  | _, _, .skip h _ => by cases h
  | _, _, .take _ ⟨i, e, hi⟩ t => by
    obtain ⟨ns, h1, h2, h3⟩ := LcR.ints t
    refine ⟨i :: ns, by rw [e, h1]; rfl, by rw [List.length_cons, List.length_cons, h2], fun n hn => ?_⟩
    rcases List.mem_cons.mp hn with h | h
    · rw [h]; exact hi
    · exact h3 n h
theorem evS_intLc {α : Type} {xs : List α} {c : α → D} {wi : TI} {g : TG} {ws : List Nat} {S : α → Hp → L2.St → Prop} (hi : EvI K wi σ G xs c) (hl : xs.length ≤ 50000) (hw : ∀ a G1 σ', S a G1 σ' → wipe σ' ws = wipe σ ws)
    (hg : ∀ a ∈ xs, ∀ G1, Ex G G1 → Tgt K g (wipe σ ws) (c a) G1 (S a G1)) (he : ∀ a ∈ xs, ∀ G1, Ex G G1 → ∀ σ', S a G1 σ' → EvS K f te σ' G1 (IntP p)) : EvS K f (tLc wi g tYes te ws) σ G (fun d => ∃ ns : List Int, d = .lst (ns.map .int) ∧ ns.length = xs.length ∧ ∀ n ∈ ns, p n) :=
  (evS_lc (T := fun _ b => b = true) (E := fun _ => IntP p) hi hl hw hg (fun a ma G1 e σ' hs => et_yes.toS) he).imp fun d ⟨ds, hd, hr⟩ => by
    obtain ⟨ns, h1, h2, h3⟩ := hr.ints
    exact ⟨ns, by rw [hd, h1], h2, h3⟩
/-- arguments that are there already -/
def cstA (us : List V) : TA := fun _ H Q => Q us H
theorem ea_cst {us : List V} (h : RepA K none G ds us) : EvA K false (cstA us) σ G ds := fun H e Q q => q us G H (Grow.refl e) h
/-- for .. in range(what is drawn) -/
theorem s_forA {ta : TA} {g : TG} {PA : List D → Prop} (e : Ex G H) (h : EvAS K false ta σ G PA) (k : ∀ ds us G' H', PA ds → Grow G H G' H' → RepA K none G' ds us → tFor (iRng1 (cstA us)) g ts De σ H') : tFor (iRng1 ta) g ts De σ H :=
  h H e _ fun ds us G' H' pd g r => k ds us G' H' pd g r
end
/-- the same items, otherwise called -/
theorem EvI.as {K : Fr} {wi : TI} {σ : L2.St} {G : Hp} {α β : Type} {xs : List α} {c : α → D} {ys : List β} {c' : β → D} (h : EvI K wi σ G xs c) (e : xs.map c = ys.map c') : EvI K wi σ G ys c' := fun H eH R q => h H eH R fun J G' H' g W => by
  have hl : xs.length = ys.length := by have := congrArg List.length e; rwa [List.length_map, List.length_map] at this
  refine q J G' H' g ?_
  rw [← hl]
  refine Walk.mono W (fun _ h => h) fun i H2 x H3 hi e2 y => ?_
  obtain ⟨a, G2, ha, g2, rx⟩ := y
  have h1 : (xs.map c)[i]? = some (c a) := by rw [List.getElem?_map, ha]; rfl
  rw [e] at h1
  obtain ⟨b, hb, eb⟩ := getm h1
  exact ⟨b, G2, hb, g2, eb ▸ rx⟩
theorem rng_cons (lo : Int) (n : Nat) : rng lo (n + 1) = lo :: rng (lo + 1) n := by
  unfold rng
  rw [List.range_succ_eq_map, List.map_cons, List.map_map]
  have e1 : lo + ((0 : Nat) : Int) = lo := by omega
  rw [e1]
  congr 1
  apply List.map_congr_left
  intro a _
  show lo + ((a + 1 : Nat) : Int) = lo + 1 + (a : Int)
  omega
theorem map_enum_fst {α : Type} : ∀ (n : Nat) (xs : List α), (enumL n xs).map (fun p => D.int p.1) = (rng n xs.length).map D.int
  | _, [] => rfl
  | n, x :: xs => by
    show D.int (n : Int) :: (enumL (n + 1) xs).map (fun p => D.int p.1) = _
    rw [map_enum_fst (n + 1) xs, List.length_cons, rng_cons]
    rfl
theorem enum_rng {α : Type} {xs : List α} {n : Nat} {k : Nat} (h : xs.length = n) (hk : k = n := by omega) : (rng 0 k).map D.int = (enumL 0 xs).map (fun p => D.int p.1) := by
  subst hk; subst h
  rw [map_enum_fst]; rfl
theorem rv_inTK {K : Fr} {f f1 : Bool} {n : Int} {ns : List Int} : Rv K f f1 (rIn K false) (.int n) (.tup (ns.map D.int)) (.bl (decide (n ∈ ns))) := rv_inT
theorem c_listU {K : Fr} {b : Bool} {ds : List D} : Rc K false (rcList K) [seqD b ds] (.lst ds) := by
  cases b
  · exact c_listL
  · exact c_listT
/-! ### picking -/
theorem cutD_to {α : Type} {xs : List α} {k : Nat} (h : k ≤ xs.length) : cutD xs none (some (k : Int)) = xs.take k := by
  unfold cutD
  have e1 : HT.sIx xs.length 0 none = 0 := by unfold HT.sIx; rfl
  have e2 : HT.sIx xs.length xs.length (some (k : Int)) = k := by
    have hk : ¬ ((k : Int) < 0) := by omega
    unfold HT.sIx; simp only [if_neg hk]; omega
  rw [e1, e2, List.drop_zero, Nat.sub_zero]
theorem cutD_from {α : Type} {xs : List α} {k : Nat} (h : k ≤ xs.length) : cutD xs (some (k : Int)) none = xs.drop k := by
  unfold cutD
  have e1 : HT.sIx xs.length xs.length none = xs.length := by unfold HT.sIx; rfl
  have e2 : HT.sIx xs.length 0 (some (k : Int)) = k := by
    have hk : ¬ ((k : Int) < 0) := by omega
    unfold HT.sIx; simp only [if_neg hk]; omega
  rw [e1, e2, List.take_of_length_le (by rw [List.length_drop]; exact Nat.le_refl _)]
theorem perm_pick {α : Type} {xs : List α} {k : Nat} {x : α} (h : xs[k]? = some x) : (x :: (xs.take k ++ xs.drop (k + 1))).Perm xs := by
  have e : xs = xs.take k ++ x :: xs.drop (k + 1) := by
    have hk := (List.getElem?_eq_some_iff.mp h)
    obtain ⟨hl, he⟩ := hk
    rw [← he, ← List.drop_eq_getElem_cons hl, List.take_append_drop]
  have z : (x :: (xs.take k ++ xs.drop (k + 1))).Perm (xs.take k ++ x :: xs.drop (k + 1)) := List.perm_middle.symm
  rw [← e] at z
  exact z
theorem rcS_sorted {K : Fr} {f : Bool} {ns : List Int} : RcS K f (rSortedI K) [.lst (ns.map D.int)] (fun d => ∃ zs : List Int, d = .lst (zs.map .int) ∧ zs.Perm ns ∧ zs.Pairwise (· ≤ ·)) := fun G vs rs H e Q q => by
  cases rs with
  | cons r t =>
    cases t
    obtain ⟨p, us, rfl, _, hp, rr⟩ := r.lst_inv
    cases rr.ints
    refine ⟨p, ns, rfl, SqL.of (e _ _ hp), fun zs n h1 h2 hn => ?_⟩
    have g := Grow.laid (o := .lst (zs.map V.int)) e hn
    refine q _ (.ref n) _ _ ⟨zs, rfl, h1, h2⟩ g (.lst ?_ upd_same (RepA.ofInts zs))
    cases f with
    | true => exact hn
    | false => trivial
theorem rng_nodup (lo : Int) (n : Nat) : (rng lo n).Nodup := by
  unfold rng
  exact List.pairwise_map.mpr (List.nodup_range.imp fun {a b} h e => h (by omega))
theorem sum_append (xs ys : List Int) : (xs ++ ys).sum = xs.sum + ys.sum := by simp
end VL

set_option Elab.async false
set_option linter.all false
set_option maxRecDepth 100000
set_option maxHeartbeats 4000000
namespace VL
open PySem PySem.Spec PyProof.Rows L2
open Evl (Ex)
def top (i : Nat) : Stmt := PySem.Challenge.pw_villagelines_k00_census_and_running.main.body.getD i (.Pass ⟨0, 0, 0, 0⟩)
abbrev s_wall : Stmt := top 0
abbrev s_BadRegion_initM : Stmt := inClass (top 3) 0
abbrev s_census_of : Stmt := top 5
abbrev s_heads_in : Stmt := top 6
abbrev s_runs_in : Stmt := top 7
abbrev s_running_lines : Stmt := top 8
abbrev s_fault_of_stops : Stmt := top 10
abbrev s_fault_of_line : Stmt := top 11
abbrev s_Region_initM : Stmt := inClass (top 12) 0
abbrev s_Region_bare : Stmt := inClass (top 12) 1
abbrev s_Region_greatest : Stmt := inClass (top 12) 2
abbrev s_Region_lenM : Stmt := inClass (top 12) 3
abbrev s_Region_iterM : Stmt := inClass (top 12) 4
abbrev s_Region_containsM : Stmt := inClass (top 12) 5
abbrev s_Region_eqM : Stmt := inClass (top 12) 6
abbrev s_Region_addM : Stmt := inClass (top 12) 7
abbrev s_Region_with_line : Stmt := inClass (top 12) 8
abbrev s_Region_without : Stmt := inClass (top 12) 9
abbrev s_law_pool : Stmt := top 14
abbrev s_law_draw : Stmt := top 15
abbrev s_law_stops : Stmt := top 16
abbrev s_law_great : Stmt := top 17
abbrev s_law_sums : Stmt := top 18
abbrev s_law_same : Stmt := top 19
abbrev s_law_size : Stmt := top 20
abbrev s_law_entry : Stmt := top 21
abbrev s_law_rows : Stmt := top 22
abbrev s_law_edge : Stmt := top 23
abbrev s_law_picked : Stmt := top 24
abbrev s_law_awake : Stmt := top 25
abbrev s_law_reads : Stmt := top 26
abbrev s_law : Stmt := top 27
theorem sc_wall : FnScope ["k"] ["k"] (defScope s_wall) := ⟨rfl, rfl, rfl, by decide +kernel, rfl, by decide +kernel, by decide +kernel⟩
theorem sc_BadRegion_initM : FnScope ["self", "line", "why"] ["self", "line", "why"] (defScope s_BadRegion_initM) := ⟨rfl, rfl, rfl, by decide +kernel, rfl, by decide +kernel, by decide +kernel⟩
theorem sc_census_of : FnScope ["region", "heads", "placing", "census", "family", "village"] ["region", "heads", "placing"] (defScope s_census_of) := ⟨rfl, rfl, rfl, by decide +kernel, rfl, by decide +kernel, by decide +kernel⟩
theorem sc_heads_in : FnScope ["census", "villages", "village"] ["census", "villages"] (defScope s_heads_in) := ⟨rfl, rfl, rfl, by decide +kernel, rfl, by decide +kernel, by decide +kernel⟩
theorem sc_runs_in : FnScope ["census", "line", "stops", "number"] ["census", "line"] (defScope s_runs_in) := ⟨rfl, rfl, rfl, by decide +kernel, rfl, by decide +kernel, by decide +kernel⟩
theorem sc_running_lines : FnScope ["region", "census", "at", "line"] ["region", "census"] (defScope s_running_lines) := ⟨rfl, rfl, rfl, by decide +kernel, rfl, by decide +kernel, by decide +kernel⟩
theorem sc_fault_of_stops : FnScope ["villages", "stops", "stop", "at"] ["villages", "stops"] (defScope s_fault_of_stops) := ⟨rfl, rfl, rfl, by decide +kernel, rfl, by decide +kernel, by decide +kernel⟩
theorem sc_fault_of_line : FnScope ["villages", "stops", "number", "why"] ["villages", "stops", "number"] (defScope s_fault_of_line) := ⟨rfl, rfl, rfl, by decide +kernel, rfl, by decide +kernel, by decide +kernel⟩
theorem sc_Region_initM : FnScope ["self", "villages", "lines", "at", "stops", "number", "why"] ["self", "villages", "lines"] (defScope s_Region_initM) := ⟨rfl, rfl, rfl, by decide +kernel, rfl, by decide +kernel, by decide +kernel⟩
theorem sc_Region_bare : FnScope ["cls", "villages"] ["cls", "villages"] (defScope s_Region_bare) := ⟨rfl, rfl, rfl, by decide +kernel, rfl, by decide +kernel, by decide +kernel⟩
theorem sc_Region_greatest : FnScope ["self"] ["self"] (defScope s_Region_greatest) := ⟨rfl, rfl, rfl, by decide +kernel, rfl, by decide +kernel, by decide +kernel⟩
theorem sc_Region_lenM : FnScope ["self"] ["self"] (defScope s_Region_lenM) := ⟨rfl, rfl, rfl, by decide +kernel, rfl, by decide +kernel, by decide +kernel⟩
theorem sc_Region_iterM : FnScope ["self"] ["self"] (defScope s_Region_iterM) := ⟨rfl, rfl, rfl, by decide +kernel, rfl, by decide +kernel, by decide +kernel⟩
theorem sc_Region_containsM : FnScope ["self", "line"] ["self", "line"] (defScope s_Region_containsM) := ⟨rfl, rfl, rfl, by decide +kernel, rfl, by decide +kernel, by decide +kernel⟩
theorem sc_Region_eqM : FnScope ["self", "other"] ["self", "other"] (defScope s_Region_eqM) := ⟨rfl, rfl, rfl, by decide +kernel, rfl, by decide +kernel, by decide +kernel⟩
theorem sc_Region_addM : FnScope ["self", "other"] ["self", "other"] (defScope s_Region_addM) := ⟨rfl, rfl, rfl, by decide +kernel, rfl, by decide +kernel, by decide +kernel⟩
theorem sc_Region_with_line : FnScope ["self", "stops", "number"] ["self", "stops", "number"] (defScope s_Region_with_line) := ⟨rfl, rfl, rfl, by decide +kernel, rfl, by decide +kernel, by decide +kernel⟩
theorem sc_Region_without : FnScope ["self", "index"] ["self", "index"] (defScope s_Region_without) := ⟨rfl, rfl, rfl, by decide +kernel, rfl, by decide +kernel, by decide +kernel⟩
theorem sc_law_pool : FnScope ["script", "cells", "cell"] ["script"] (defScope s_law_pool) := ⟨rfl, rfl, rfl, by decide +kernel, rfl, by decide +kernel, by decide +kernel⟩
theorem sc_law_draw : FnScope ["pool", "many", "base", "digit", "mixed"] ["pool", "many"] (defScope s_law_draw) := ⟨rfl, rfl, rfl, by decide +kernel, rfl, by decide +kernel, by decide +kernel⟩
theorem sc_law_stops : FnScope ["pool", "villages", "widest", "size", "left", "stops", "turn", "at"] ["pool", "villages", "widest"] (defScope s_law_stops) := ⟨rfl, rfl, rfl, by decide +kernel, rfl, by decide +kernel, by decide +kernel⟩
theorem sc_law_great : FnScope ["pool", "top", "way"] ["pool", "top"] (defScope s_law_great) := ⟨rfl, rfl, rfl, by decide +kernel, rfl, by decide +kernel, by decide +kernel⟩
theorem sc_law_sums : FnScope ["villages", "heads", "placing", "k", "v"] ["villages", "heads", "placing"] (defScope s_law_sums) := ⟨rfl, rfl, rfl, by decide +kernel, rfl, by decide +kernel, by decide +kernel⟩
theorem sc_law_same : FnScope ["got", "due", "k"] ["got", "due"] (defScope s_law_same) := ⟨rfl, rfl, rfl, by decide +kernel, rfl, by decide +kernel, by decide +kernel⟩
theorem sc_law_size : FnScope ["pool", "small", "large"] ["pool", "small", "large"] (defScope s_law_size) := ⟨rfl, rfl, rfl, by decide +kernel, rfl, by decide +kernel, by decide +kernel⟩
theorem sc_law_entry : FnScope ["pool", "way"] ["pool"] (defScope s_law_entry) := ⟨rfl, rfl, rfl, by decide +kernel, rfl, by decide +kernel, by decide +kernel⟩
theorem sc_law_rows : FnScope ["pool", "villages", "many", "lines", "turn"] ["pool", "villages", "many"] (defScope s_law_rows) := ⟨rfl, rfl, rfl, by decide +kernel, rfl, by decide +kernel, by decide +kernel⟩
theorem sc_law_edge : FnScope ["pool", "lines", "censuses", "way", "at", "census", "total", "v"] ["pool", "lines", "censuses"] (defScope s_law_edge) := ⟨rfl, rfl, rfl, by decide +kernel, rfl, by decide +kernel, by decide +kernel⟩
theorem sc_law_picked : FnScope ["pool", "villages", "left", "row", "turn", "at"] ["pool", "villages"] (defScope s_law_picked) := ⟨rfl, rfl, rfl, by decide +kernel, rfl, by decide +kernel, by decide +kernel⟩
theorem sc_law_awake : FnScope ["lines", "census", "found", "k", "total", "v"] ["lines", "census"] (defScope s_law_awake) := ⟨rfl, rfl, rfl, by decide +kernel, rfl, by decide +kernel, by decide +kernel⟩
theorem sc_law_reads : FnScope ["town", "census", "lines", "row", "some", "mine", "due", "got", "v"] ["town", "census", "lines", "row", "some"] (defScope s_law_reads) := ⟨rfl, rfl, rfl, by decide +kernel, rfl, by decide +kernel, by decide +kernel⟩
theorem sc_law : FnScope ["script", "pool", "villages", "families", "heads", "k", "placing", "second", "free", "v", "sums", "lines", "row", "some", "others", "town", "given", "got"] ["script"] (defScope s_law) := ⟨rfl, rfl, rfl, by decide +kernel, rfl, by decide +kernel, by decide +kernel⟩
/-- the heads at some villages -/
def hin (census villages : List Int) : Int := (villages.map (ix census)).sum
abbrev sp_heads_in (K : Fr) : Sp := spF K true (fun i : List Int × Bool × List Int => [.lst (i.1.map .int), seqD i.2.1 (i.2.2.map .int)]) (fun i => i.2.2.length ≤ 1000 ∧ ∀ v ∈ i.2.2, 0 ≤ v ∧ v < i.1.length) (fun i d => d = .int (hin i.1 i.2.2))
theorem ok_heads_in {P : Program} {w : World} {K : Fr} {mg : Str → Option Value} {base : Heap} {fa : Addr} {fd : FuncData} (F : L2.Fun K "heads_in" "heads_in" s_heads_in fa fd) (B : Bt mg) : FnOk P w K mg base CX0 1 fa fd ["census", "villages"] (sp_heads_in K) := by
  refine okF F sc_heads_in (fun _ => rfl) fun cdv A outer s H vs Q E hr i G eG rs pre q => ?_
  obtain ⟨census, b, villages⟩ := i
  dsimp only at rs pre q
  obtain ⟨v1, v2, rfl, r1, r2⟩ := rs.two
  obtain ⟨hl, hv⟩ := pre
  refine ⟨_, (pss_one (ps_ret (pe_callB (cr_sumK (K := K) rfl rfl) (by rfl) B.b_sum bt_sum (pa_cons (pe_lc (own := [("village", 2)]) rfl sc_heads_in.nd (pi_seqK (K := K) rfl (pv 1)) (blkOk_by (by kernel_rfl)) (fun _ _ _ _ _ => (pg_name (i := 2) sc_heads_in.nd rfl (Or.inl rfl))) (fun _ _ _ _ _ => pts_nil) (fun _ _ _ _ _ => (pe_ix (ix_seqK (K := K) rfl) (pv 0) (pv 2) (fun _ _ => rfl)))) pa_nil)))), ?_⟩
  refine s_ret (K := K) eG (ev_cb (ea_cons (evl_lc0 (h := fun v => .int (ix census v)) (ei_seq (ev_var rfl r2)) (Nat.le_trans hl (by decide)) (S := fun a G1 σ' => σ' = [some v1, some v2, some (.int a)]) (by rintro a G1 σ' rfl; rfl) (fun a _ G1 _ => tg_int)
    (fun a ma G1 e σ' hs => by subst hs; exact ev_op (ev_var rfl (r1.mono e)) (ev_vi rfl) (v_ixL (at_int (hv a ma).1 (hv a ma).2)))).ev ea_nil) ?_) fun v G' H' g r => q _ v G' H' rfl g r
  have e1 : villages.map (fun v => D.int (ix census v)) = (villages.map (ix census)).map D.int := by rw [List.map_map]; rfl
  rw [e1]
  exact rc_sum
/-- a line: its stops, its number -/
abbrev Line := List Int × Int
def lineD (l : Line) : D := .tup [.tup (l.1.map .int), .int l.2]
def runsB (census : List Int) (l : Line) : Bool := decide (l.2 ≤ hin census l.1)
def stopsIn (n : Nat) (l : Line) : Prop := l.1.length ≤ 1000 ∧ ∀ v ∈ l.1, 0 ≤ v ∧ v < (n : Int)
abbrev sp_runs_in (K : Fr) : Sp := spF K true (fun i : List Int × Line => [.lst (i.1.map .int), lineD i.2]) (fun i => stopsIn i.1.length i.2) (fun i d => d = .bl (runsB i.1 i.2))
theorem ok_runs_in {P : Program} {w : World} {K : Fr} {mg : Str → Option Value} {base : Heap} {fa : Addr} {fd : FuncData} (F : L2.Fun K "runs_in" "runs_in" s_runs_in fa fd) (B : Bt mg)
    (c_heads_in : C8.Cal P w K mg base 1 "heads_in" (sp_heads_in K) []) : FnOk P w K mg base CX0 2 fa fd ["census", "line"] (sp_runs_in K) := by
  refine okF F sc_runs_in (fun _ => rfl) fun cdv A outer s H vs Q E hr i G eG rs pre q => ?_
  obtain ⟨census, stops, number⟩ := i
  dsimp only at rs pre q
  obtain ⟨v1, v2, rfl, r1, r2⟩ := rs.two
  obtain ⟨hl, hv⟩ := pre
  refine ⟨_, (pss_cons (ps_asg (pv 1) (pg_tupK (K := K) (n := 2) rfl rfl (pgs_cons (pg_name (i := 2) sc_runs_in.nd rfl (Or.inl rfl)) (pgs_cons (pg_name (i := 3) sc_runs_in.nd rfl (Or.inl rfl)) pgs_nil)))) 
  (pss_one (ps_ret (pe_cmpR op_ge (C8.pe_c c_heads_in hr (by first | decide | exact Nat.le_refl _) (by rfl) (pa_cons (pv 0) (pa_cons (pv 2) pa_nil))) (pv 3) (nomark _))))), ?_⟩
  refine s_asgG (K := K) (f := false) (S := fun G1 σ' => ∃ v, Rep K none G1 (seqD true (stops.map .int)) v ∧ σ' = [some v1, some v2, some v, some (.int number)]) eG (ev_var rfl r2).toS ?_ ?_
  · rintro _ rfl G1 e1
    exact (tg_pair tg_name (fun _ _ => tg_int)).imp (by rintro _ ⟨_, ⟨v, rv, rfl⟩, rfl⟩; exact ⟨v, rv, rfl⟩)
  · rintro _ _ G1 H1 rfl g1 ⟨v, rv, rfl⟩
    exact s_ret (K := K) g1.sub (ev_op (f1 := false) (ev_call (ea_cons (ev_var rfl (r1.mono g1.e)) (ea_cons (ev_var rfl rv) ea_nil)) (spF_use (o := fun i : List Int × Bool × List Int => .int (hin i.1 i.2.2)) (census, true, stops) ⟨hl, hv⟩)).old (ev_vi rfl) v_ge) fun v G' H' g r => q _ v G' H' rfl (g1.trans g) (r.h2 g1.ext)
def regD (C : Addr) (n : Int) (lines : List Line) : D := .ins C ["villages", "lines"] [.int n, .tup (lines.map lineD)]
/-- what the module says of the class Region -/
structure RegC (K : Fr) (mg : Str → Option Value) (C : Addr) : Prop where
  cl : Cls K C
  nV : NoAttr K C "villages"
  nL : NoAttr K C "lines"
  mgC : mg "Region" = some (.ref C)
theorem ev_regV {K : Fr} {mg : Str → Option Value} {C : Addr} {f : Bool} {te : TE} {σ : L2.St} {G : Hp} {n : Int} {lines : List Line} (R : RegC K mg C) (h : Ev K false te σ G (regD C n lines)) : Ev K f (tFld K te "villages") σ G (.int n) := (ev_fld R.cl R.nV (by simp [List.lookup_cons]) h).sc rfl
theorem ev_regL {K : Fr} {mg : Str → Option Value} {C : Addr} {f : Bool} {te : TE} {σ : L2.St} {G : Hp} {n : Int} {lines : List Line} (R : RegC K mg C) (h : Ev K f te σ G (regD C n lines)) : Ev K f (tFld K te "lines") σ G (.tup (lines.map lineD)) := ev_fld R.cl R.nL (by simp [List.lookup_cons, (by decide +kernel : (("lines" : Str) == "villages") = false)]) h
def running (census : List Int) (lines : List Line) : List Int := ((enumL 0 lines).filter fun p => runsB census p.2).map (·.1)
abbrev sp_running_lines (K : Fr) (C : Addr) : Sp := spF K true (fun i : Int × List Line × List Int => [regD C i.1 i.2.1, .lst (i.2.2.map .int)]) (fun i => i.2.1.length ≤ 1000 ∧ ∀ l ∈ i.2.1, stopsIn i.2.2.length l) (fun i d => d = .lst ((running i.2.2 i.2.1).map .int))
theorem ok_running_lines {P : Program} {w : World} {K : Fr} {mg : Str → Option Value} {base : Heap} {fa C : Addr} {fd : FuncData} (F : L2.Fun K "running_lines" "running_lines" s_running_lines fa fd) (B : Bt mg) (R : RegC K mg C)
    (c_runs_in : C8.Cal P w K mg base 2 "runs_in" (sp_runs_in K) []) : FnOk P w K mg base CX0 3 fa fd ["region", "census"] (sp_running_lines K C) := by
  refine okF F sc_running_lines (fun _ => rfl) fun cdv A outer s H vs Q E hr i G eG rs pre q => ?_
  obtain ⟨n, lines, census⟩ := i
  dsimp only at rs pre q
  obtain ⟨v1, v2, rfl, r1, r2⟩ := rs.two
  obtain ⟨hl, hv⟩ := pre
  refine ⟨_, (pss_one (ps_ret (pe_lc (own := [("at", 2), ("line", 3)]) rfl sc_running_lines.nd (pi_enumK (K := K) rfl (by rfl) B.b_enumerate (pa_cons (pe_fldK (K := K) rfl (pv 0) rfl) pa_nil)) (blkOk_by (by kernel_rfl)) (fun _ _ _ _ _ => (pg_tupK (K := K) (n := 2) rfl rfl (pgs_cons (pg_name (i := 2) sc_running_lines.nd rfl (Or.inl rfl)) (pgs_cons (pg_name (i := 3) sc_running_lines.nd rfl (Or.inl rfl)) pgs_nil)))) (fun _ _ _ _ _ => (pts_one (pt_val (C8.pe_c c_runs_in hr (by first | decide | exact Nat.le_refl _) (by rfl) (pa_cons (pv 1) (pa_cons (pv 3) pa_nil)))))) (fun _ _ _ _ _ => (pv 2))))), ?_⟩
  refine s_ret (K := K) eG ((evl_lc (h := fun p => .int p.1) (b := fun p => runsB census p.2) (ei_enumTu (c := lineD) (ea_cons (ev_regL R (ev_var rfl r1)) ea_nil)) (by rw [enumL_length]; exact Nat.le_trans hl (by decide))
    (S := fun p G1 σ' => ∃ v, Rep K none G1 (lineD p.2) v ∧ σ' = [some v1, some v2, some (.int p.1), some v]) (by rintro p G1 _ ⟨v, rv, rfl⟩; rfl)
    (fun p _ G1 _ => (tg_pair tg_int (fun _ _ => tg_name)).imp (by rintro _ ⟨_, rfl, v, rv, rfl⟩; exact ⟨v, rv, rfl⟩))
    (fun p mp G1 e σ' hs => ?_) (fun p mp _ G1 e σ' hs => ?_)).ev) fun v G' H' g r => q _ v G' H' ?_ g r
  · obtain ⟨v, rv, rfl⟩ := hs
    obtain ⟨j, hj, _⟩ := mem_enumL mp
    exact et_B (ev_call (f := false) (ea_cons (ev_var rfl (r2.mono e)) (ea_cons (ev_var rfl rv) ea_nil)) (fun E => (spF_use (K := K) (f := true) (o := fun i : List Int × Line => .bl (runsB i.1 i.2)) (census, p.2) (hv _ (List.mem_of_getElem? hj)) E).old))
  · obtain ⟨v, rv, rfl⟩ := hs
    exact ev_vi rfl
  · show _ = D.lst (((((enumL 0 lines).filter fun p => runsB census p.2).map (·.1))).map .int)
    rw [List.map_map]; rfl
/-- heads are added at the villages of a placing, family by family -/
def censFold (heads : List Int) : List (Int × Int) → List Int → List Int
  | [], c => c
  | p :: ps, c => censFold heads ps (c.set p.2.toNat (ix c p.2 + ix heads p.1))
def census (n : Int) (heads placing : List Int) : List Int := censFold heads (enumL 0 placing) (List.replicate n.toNat 0)
theorem censFold_append (heads : List Int) : ∀ (ps qs : List (Int × Int)) (c : List Int), censFold heads (ps ++ qs) c = censFold heads qs (censFold heads ps c)
  | [], qs, c => rfl
  | p :: ps, qs, c => censFold_append heads ps qs _
theorem censFold_length (heads : List Int) : ∀ (ps : List (Int × Int)) (c : List Int), (censFold heads ps c).length = c.length
  | [], c => rfl
  | p :: ps, c => by
    unfold censFold
    rw [censFold_length heads ps, List.length_set]
theorem census_length (n : Int) (heads placing : List Int) : (census n heads placing).length = n.toNat := by
  unfold census; rw [censFold_length, List.length_replicate]
def worldOk (n : Int) (heads placing : List Int) : Prop := placing.length ≤ 1000 ∧ heads.length = placing.length ∧ ∀ v ∈ placing, 0 ≤ v ∧ v < n
abbrev sp_census_of (K : Fr) (C : Addr) : Sp := spF K true (fun i : (Int × List Line) × List Int × List Int => [regD C i.1.1 i.1.2, .lst (i.2.1.map .int), .lst (i.2.2.map .int)]) (fun i => 0 ≤ i.1.1 ∧ i.1.1 ≤ 1000 ∧ worldOk i.1.1 i.2.1 i.2.2) (fun i d => d = .lst ((census i.1.1 i.2.1 i.2.2).map .int))
theorem ok_census_of {P : Program} {w : World} {K : Fr} {mg : Str → Option Value} {base : Heap} {fa C : Addr} {fd : FuncData} (F : L2.Fun K "census_of" "census_of" s_census_of fa fd) (B : Bt mg) (R : RegC K mg C) : FnOk P w K mg base CX0 1 fa fd ["region", "heads", "placing"] (sp_census_of K C) := by
  refine okF F sc_census_of (fun _ => rfl) fun cdv A outer s H vs Q E hr i G eG rs pre q => ?_
  obtain ⟨⟨n, lines⟩, heads, placing⟩ := i
  dsimp only at rs pre q
  obtain ⟨v1, v2, v3, rfl, r1, r2, r3⟩ := rs.three
  obtain ⟨h0, h1, hl, hh, hv⟩ := pre
  refine ⟨_, (pss_cons (ps_set (i := 3) sc_census_of.nd rfl (Or.inl rfl) (pe_op op_mulU (pe_lst (pa_cons pe_int pa_nil)) (pe_fldK (K := K) rfl (pv 0) rfl))) 
  (pss_cons (ps_for PassesOwn.never rfl (pi_enumK (K := K) rfl (by rfl) B.b_enumerate (pa_cons (pv 2) pa_nil)) (pg_tupK (K := K) (n := 2) rfl rfl (pgs_cons (pg_name (i := 4) sc_census_of.nd rfl (Or.inl rfl)) (pgs_cons (pg_name (i := 5) sc_census_of.nd rfl (Or.inl rfl)) pgs_nil))) (pss_one (ps_augS (pv 3) (pv 5) (get_listK (K := K) rfl) (pe_ix (ix_seqK (K := K) rfl) (pv 1) (pv 4) (fun _ _ => rfl)) ip_add set_list))) 
  (pss_one (ps_ret (pv 3))))), ?_⟩
  -- census = [0] * region.villages
  refine s_asg (K := K) (f := true) eG (ev_op (f1 := true) (ev_lst (ea_cons ev_int ea_nil) (by decide)) (ev_regV R (ev_var rfl r1)) (vm_rep h0 (by omega) rfl)) fun v G1 H1 g1 rv => ?_
  obtain ⟨p, us, rfl, fp, hp, rs1⟩ := rv.lst_inv
  have eu : us = (List.replicate n.toNat 0).map V.int := by
    have e1 : List.replicate n.toNat (D.int 0) = (List.replicate n.toNat 0).map D.int := by rw [List.map_replicate]
    rw [e1] at rs1
    exact rs1.ints
  subst eu
  have hH : H p = none := fp
  have hGp : G p = none := Evl.fresh_back eG hH
  have g1' : Grow G H G H1 := ⟨Ex.refl _, eG.trans g1.ext, g1.ext, fun a h h' => absurd h h'⟩
  have hp1 : H1 p = some (.lst ((List.replicate n.toNat 0).map V.int)) := g1.sub _ _ hp
  refine s_for (K := K) (xs := enumL 0 placing) (c := fun p => .tup [.int p.1, .int p.2]) (S := fun a σ1 G2 σ' => σ' = (σ1.set 4 (some (.int a.1))).set 5 (some (.int a.2))) g1' (ei_enumL (c := D.int) (ea_cons (ev_var rfl r3) ea_nil))
    (fun i σ1 G1 H1 => ∃ x y, σ1 = [some v1, some v2, some v3, some (.ref p), x, y] ∧ G1 p = none ∧ H1 p = some (.lst ((censFold heads ((enumL 0 placing).take i) (List.replicate n.toNat 0)).map V.int))) ?_ ?_ ?_ ?_
  · intro G' H' g
    have z := g.keep hp1 hGp
    exact ⟨none, none, rfl, z.2, by simpa [censFold] using z.1⟩
  · rintro a _ i σ1 G2 H2 G3 ⟨x, y, rfl, _, _⟩ _
    exact (tg_pair tg_int (fun _ _ => tg_int)).imp (by rintro _ ⟨_, rfl, rfl⟩; rfl)
  · rintro i a σ1 G2 H2 G3 H3 σ2 ha eG2 g2 ⟨x, y, rfl, hn2, hp2⟩ g3 rfl N hN
    have ma := List.mem_of_getElem? ha
    obtain ⟨j, hj, ej⟩ := mem_enumL ma
    have hva := hv a.2 (List.mem_of_getElem? hj)
    have hjl : j < placing.length := (List.getElem?_eq_some_iff.mp hj).1
    have z := g3.keep hp2 hn2
    have ez : a.2 = ((a.2.toNat : Nat) : Int) := by omega
    have hlc : (censFold heads ((enumL 0 placing).take i) (List.replicate n.toNat 0)).length = n.toNat := by rw [censFold_length, List.length_replicate]
    refine s_augL (K := K) (j := a.2.toNat) (a := ix (censFold heads ((enumL 0 placing).take i) (List.replicate n.toNat 0)) a.2) g3.sub rfl z.1 z.2 (Ev.is (ev_vi rfl) (by rw [← ez])) ?_ (ev_op (f1 := false) (ev_var rfl (r2.mono (eG2.trans g3.e))) (ev_vi rfl) (v_ixL (at_int (by omega) (by omega)))) fun G4 H4 g4 h4 n4 => ?_
    · rw [List.getElem?_map, ix_get hva.1 (by rw [hlc]; omega)]; rfl
    · refine hN _ G4 _ (g3.e.trans g4.e) (((g2.trans g3).trans g4).put hH n4) ⟨_, _, rfl, n4, ?_⟩
      rw [upd_same, take_next ha, censFold_append]
      simp only [censFold, List.map_set]
  · rintro σ1 G2 H2 eG2 g2 ⟨x, y, rfl, hn2, hp2⟩
    rw [List.take_length] at hp2
    exact s_retP rfl (q _ _ _ _ rfl (g2.own hp2 hn2 hH) (rep_own hH hn2 (RepA.ofInts _)))
/-- a fault's text, or None -/
def optD : Option Str → D
  | none => .non
  | some x => .str x
theorem isNon_opt (o : Option Str) : isNon (optD o) = o.isNone := by cases o <;> rfl
def badAt (stops : List Int) (i : Int) : Bool := decide (ix stops (i + 1) ≤ ix stops i)
def fStops (n : Int) (stops : List Int) : Option Str :=
  if stops.length < 2 then some "stops"
  else if stops.any fun s => !(decide (0 ≤ s) && decide (s < n)) then some "range"
  else if (rng 0 (stops.length - 1)).any (badAt stops) then some "order"
  else none
abbrev sp_fault_of_stops (K : Fr) : Sp := spF K true (fun i : Int × Bool × List Int => [.int i.1, seqD i.2.1 (i.2.2.map .int)]) (fun i => i.2.2.length ≤ 1000) (fun i d => d = optD (fStops i.1 i.2.2))
theorem ok_fault_of_stops {P : Program} {w : World} {K : Fr} {mg : Str → Option Value} {base : Heap} {fa : Addr} {fd : FuncData} (F : L2.Fun K "fault_of_stops" "fault_of_stops" s_fault_of_stops fa fd) (B : Bt mg) : FnOk P w K mg base CX0 1 fa fd ["villages", "stops"] (sp_fault_of_stops K) := by
  refine okF F sc_fault_of_stops (fun _ => rfl) fun cdv A outer s H vs Q E hr i G eG rs pre q => ?_
  obtain ⟨n, b, stops⟩ := i
  dsimp only at rs pre q
  obtain ⟨v1, v2, rfl, r1, r2⟩ := rs.two
  cases r1
  have lenE : ∀ {G1 : Hp}, Ex G G1 → Ev K false (tCB (rcLen K) (tCons (tVar 1) tNil)) [some (.int n), some v2, none, none] G1 (.int (stops.length : Int)) := fun e => Ev.is (ev_cb (ea_cons (ev_var rfl (r2.mono e)) ea_nil) c_lenU) (by rw [List.length_map])
  refine ⟨_, (pss_cons (ps_if (pt_cmpR op_lt (pe_callB (cl_lenK (K := K) rfl) (by rfl) B.b_len bt_len (pa_cons (pv 1) pa_nil)) pe_int (nomark _)) (pss_one (ps_ret pe_str)) pss_nil) 
  (pss_cons (ps_if (pt_val (pe_callB (cr_anyK (K := K) rfl rfl) (by rfl) B.b_any bt_any (pa_cons (pe_lc (own := [("stop", 2)]) rfl sc_fault_of_stops.nd (pi_seqK (K := K) rfl (pv 1)) (blkOk_by (by kernel_rfl)) (fun _ _ _ _ _ => (pg_name (i := 2) sc_fault_of_stops.nd rfl (Or.inl rfl))) (fun _ _ _ _ _ => pts_nil) (fun _ _ _ _ _ => (pe_not (pe_chain op_le op_lt pe_int (pv 2) (pv 0))))) pa_nil))) (pss_one (ps_ret pe_str)) pss_nil) 
  (pss_cons (ps_if (pt_val (pe_callB (cr_anyK (K := K) rfl rfl) (by rfl) B.b_any bt_any (pa_cons (pe_lc (own := [("at", 3)]) rfl sc_fault_of_stops.nd (pi_range1 (by rfl) B.b_range (pa_cons (pe_op op_sub (pe_callB (cl_lenK (K := K) rfl) (by rfl) B.b_len bt_len (pa_cons (pv 1) pa_nil)) pe_int) pa_nil)) (blkOk_by (by kernel_rfl)) (fun _ _ _ _ _ => (pg_name (i := 3) sc_fault_of_stops.nd rfl (Or.inl rfl))) (fun _ _ _ _ _ => pts_nil) (fun _ _ _ _ _ => (pe_cmpR op_ge (pe_ix (ix_seqK (K := K) rfl) (pv 1) (pv 3) (fun _ _ => rfl)) (pe_ix (ix_seqK (K := K) rfl) (pv 1) (pe_op (op_addUK (K := K) rfl) (pv 3) pe_int) (fun _ _ => rfl)) (nomark _)))) pa_nil))) (pss_one (ps_ret pe_str)) pss_nil) 
  (pss_one (ps_ret pe_non))))), ?_⟩
  refine s_ifc (K := K) (x := decide ((stops.length : Int) < 2)) eG (et_test (f := false) (ev_op (f1 := false) (lenE (Ex.refl _)) ev_int v_lt)) (fun hx G1 H1 g1 => ?_) (fun hx G1 H1 g1 => ?_)
  · have hx' : stops.length < 2 := by have := of_decide_eq_true hx; omega
    exact s_ret (K := K) (f := true) g1.sub ev_str fun v G' H' g r => q _ v G' H' (by unfold fStops; rw [if_pos hx']; rfl) (g1.trans g) (r.h2 g1.ext)
  have hx' : ¬ stops.length < 2 := by have := of_decide_eq_false hx; omega
  refine s_ifc (K := K) (x := stops.any fun s => !(decide (0 ≤ s) && decide (s < n))) g1.sub (et_B (f := false) (ev_anyLc (ei_seq (ev_var rfl (r2.mono g1.e))) (Nat.le_trans pre (by decide))
      (S := fun a G1 σ' => σ' = [some (.int n), some v2, some (.int a), none]) (by rintro a G1 σ' rfl; rfl) (fun a _ G1 _ => tg_int) (fun a ma G2 e σ' hs => ?_))) (fun hy G2 H2 g2 => ?_) (fun hy G2 H2 g2 => ?_)
  · subst hs
    exact ev_notV (ev_chain ev_int (ev_vi rfl) v_le (fun _ => ev_vi rfl) (fun _ => v_lt))
  · exact s_ret (K := K) (f := true) g2.sub ev_str fun v G' H' g r => q _ v G' H' (by unfold fStops; rw [if_neg hx', if_pos hy]; rfl) ((g1.trans g2).trans g) (r.h2 (g1.trans g2).ext)
  have hy' : ¬ (stops.any fun s => !(decide (0 ≤ s) && decide (s < n))) = true := by rw [hy]; decide
  refine s_ifc (K := K) (x := (rng 0 (stops.length - 1)).any (badAt stops)) g2.sub (et_B (f := false) (ev_anyLc (xs := rng 0 (stops.length - 1)) (c := D.int) ((ei_rng1 (n := (stops.length : Int) - 1) (ea_cons (ev_op (f1 := false) (lenE (g1.trans g2).e) ev_int vs_int) ea_nil) (by omega) (by omega)).is (by congr 1; omega)) (by rw [rng_length]; omega)
      (S := fun a G1 σ' => σ' = [some (.int n), some v2, none, some (.int a)]) (by rintro a G1 σ' rfl; rfl) (fun a _ G1 _ => tg_int) (fun a ma G3 e σ' hs => ?_))) (fun hz G3 H3 g3 => ?_) (fun hz G3 H3 g3 => ?_)
  · subst hs
    have hm := mem_rng.mp ma
    have r2' := r2.mono ((g1.trans g2).e.trans e)
    exact ev_op (f1 := false) (ev_op (f1 := false) (ev_var rfl r2') (ev_vi rfl) (v_ixU (at_int (by omega) (by omega)))) (ev_op (f1 := false) (ev_var rfl r2') (ev_op (f1 := false) (ev_vi rfl) ev_int va_int) (v_ixU (at_int (by omega) (by omega)))) v_ge
  · exact s_ret (K := K) (f := true) g3.sub ev_str fun v G' H' g r => q _ v G' H' (by unfold fStops; rw [if_neg hx', if_neg hy', if_pos hz]; rfl) (((g1.trans g2).trans g3).trans g) (r.h2 ((g1.trans g2).trans g3).ext)
  · have hz' : ¬ (rng 0 (stops.length - 1)).any (badAt stops) = true := by rw [hz]; decide
    exact s_ret (K := K) (f := true) g3.sub ev_non fun v G' H' g r => q _ v G' H' (by unfold fStops; rw [if_neg hx', if_neg hy', if_neg hz']; rfl) (((g1.trans g2).trans g3).trans g) (r.h2 ((g1.trans g2).trans g3).ext)
def fLine (n : Int) (l : Line) : Option Str := if (fStops n l.1).isNone && decide (l.2 < 1) then some "number" else fStops n l.1
abbrev sp_fault_of_line (K : Fr) : Sp := spF K true (fun i : Int × Bool × Line => [.int i.1, seqD i.2.1 (i.2.2.1.map .int), .int i.2.2.2]) (fun i => i.2.2.1.length ≤ 1000) (fun i d => d = optD (fLine i.1 i.2.2))
theorem ok_fault_of_line {P : Program} {w : World} {K : Fr} {mg : Str → Option Value} {base : Heap} {fa : Addr} {fd : FuncData} (F : L2.Fun K "fault_of_line" "fault_of_line" s_fault_of_line fa fd) (B : Bt mg)
    (c_fault_of_stops : C8.Cal P w K mg base 1 "fault_of_stops" (sp_fault_of_stops K) []) : FnOk P w K mg base CX0 2 fa fd ["villages", "stops", "number"] (sp_fault_of_line K) := by
  refine okF F sc_fault_of_line (fun _ => rfl) fun cdv A outer s H vs Q E hr i G eG rs pre q => ?_
  obtain ⟨n, b, stops, number⟩ := i
  dsimp only at rs pre q
  obtain ⟨v1, v2, v3, rfl, r1, r2, r3⟩ := rs.three
  cases r1
  cases r3
  refine ⟨_, (pss_cons (ps_set (i := 3) sc_fault_of_line.nd rfl (Or.inl rfl) (C8.pe_c c_fault_of_stops hr (by first | decide | exact Nat.le_refl _) (by rfl) (pa_cons (pv 0) (pa_cons (pv 1) pa_nil)))) 
  (pss_cons (ps_if (PW.pt (pw_and (pt_cmpR op_isU (pv 3) pe_non (nomark _)) (pw_and1 (pt_cmpR op_lt (pv 2) pe_int (nomark _))))) (pss_one (ps_ret pe_str)) pss_nil) 
  (pss_one (ps_ret (pv 3))))), ?_⟩
  refine s_asg (K := K) (f := true) eG (ev_call (ea_cons (ev_vi rfl) (ea_cons (ev_var rfl r2) ea_nil)) (spF_use (o := fun i : Int × Bool × List Int => optD (fStops i.1 i.2.2)) (n, b, stops) pre)) fun v G1 H1 g1 rv => ?_
  refine s_ifc (K := K) (x := (fStops n stops).isNone && decide (number < 1)) g1.sub (et_and (et_test (f := false) (Ev.is (ev_op (f1 := false) (ev_var rfl rv.old) ev_non v_isN) (by rw [isNon_opt]))) fun _ => et_test (f := false) (ev_op (f1 := false) (ev_vi rfl) ev_int v_lt)) (fun hx G2 H2 g2 => ?_) (fun hx G2 H2 g2 => ?_)
  · exact s_ret (K := K) (f := true) g2.sub ev_str fun v G' H' g r => q _ v G' H' (by unfold fLine; rw [if_pos hx]; rfl) ((g1.trans g2).trans g) (r.h2 (g1.trans g2).ext)
  · exact s_retP rfl (q _ _ _ _ (by unfold fLine; rw [if_neg (by rw [hx]; decide)]) (g1.trans g2) (rv.mono g2.e))
/-- all lines are as they must be -/
def goodLines (n : Int) (lines : List Line) : Prop := 1 ≤ n ∧ lines.length ≤ 1000 ∧ ∀ l ∈ lines, l.1.length ≤ 1000 ∧ fLine n l = none
abbrev sp_Region_init (K : Fr) (C : Addr) : Sp := spInit K C (fun i : Int × List Line => [.int i.1, .lst (i.2.map lineD)]) (fun i => goodLines i.1 i.2) ["villages", "lines"] (fun i => [.int i.1, .tup (i.2.map lineD)])
theorem ok_Region_init {P : Program} {w : World} {K : Fr} {mg : Str → Option Value} {base : Heap} {fa C : Addr} {fd : FuncData} (F : L2.Fun K "__init__" "Region.__init__" s_Region_initM fa fd) (B : Bt mg) (R : RegC K mg C)
    (c_fault_of_line : C8.Cal P w K mg base 2 "fault_of_line" (sp_fault_of_line K) []) : FnOk P w K mg base CX0 3 fa fd ["self", "villages", "lines"] (sp_Region_init K C) := by
  refine F.ok sc_Region_initM (fun vs H Q E h => ?_) (fun cdv A outer s H vs Q E hr h => ?_)
  · obtain ⟨i, G, x, dx, us, rfl, _, _, _, rs, _⟩ := h
    rw [List.length_cons, ← rs.length]; rfl
  obtain ⟨⟨n, lines⟩, G, x, dx, us, rfl, eG, nx, hx, rs, pre, q⟩ := h
  dsimp only at rs pre q
  obtain ⟨v1, v2, rfl, r1, r2⟩ := rs.two
  cases r1
  obtain ⟨hn, hl, hg⟩ := pre
  have g0 : Grow G (cutx H x) G H := Grow.cutx eG
  refine ⟨_, (pss_cons (ps_if (pt_cmpR op_lt (pv 1) pe_int (nomark _)) (pss_one ps_never) pss_nil) 
  (pss_cons (ps_for PassesOwn.never rfl (pi_enumK (K := K) rfl (by rfl) B.b_enumerate (pa_cons (pv 2) pa_nil)) (pg_tupK (K := K) (n := 2) rfl rfl (pgs_cons (pg_name (i := 3) sc_Region_initM.nd rfl (Or.inl rfl)) (pgs_cons (pg_tupK (K := K) (n := 2) rfl rfl (pgs_cons (pg_name (i := 4) sc_Region_initM.nd rfl (Or.inl rfl)) (pgs_cons (pg_name (i := 5) sc_Region_initM.nd rfl (Or.inl rfl)) pgs_nil))) pgs_nil))) (pss_cons (ps_set (i := 6) sc_Region_initM.nd rfl (Or.inl rfl) (C8.pe_c c_fault_of_line hr (by first | decide | exact Nat.le_refl _) (by rfl) (pa_cons (pv 1) (pa_cons (pv 4) (pa_cons (pv 5) pa_nil))))) 
  (pss_one (ps_if (pt_cmpR op_notN (pv 6) pe_non (nomark _)) (pss_one ps_never) pss_nil)))) 
  (pss_cons (ps_fld (pv 0) (pv 1) rfl) 
  (pss_one (ps_fld (pv 0) (pe_callTy (cl_tupK (K := K) rfl) (by rfl) B.b_tuple bt_tuple (pa_cons (pe_lc (own := [("stops", 4), ("number", 5)]) rfl sc_Region_initM.nd (pi_seqK (K := K) rfl (pv 2)) (blkOk_by (by kernel_rfl)) (fun _ _ _ _ _ => (pg_tupK (K := K) (n := 2) rfl rfl (pgs_cons (pg_name (i := 4) sc_Region_initM.nd rfl (Or.inl rfl)) (pgs_cons (pg_name (i := 5) sc_Region_initM.nd rfl (Or.inl rfl)) pgs_nil)))) (fun _ _ _ _ _ => pts_nil) (fun _ _ _ _ _ => (pe_tup (pa_cons (pe_callTy (cl_tupK (K := K) rfl) (by rfl) B.b_tuple bt_tuple (pa_cons (pv 4) pa_nil)) (pa_cons (pv 5) pa_nil))))) pa_nil)) rfl))))), ?_⟩
  refine s_ifc (K := K) (x := false) eG (et_test (f := false) (Ev.is (ev_op (f1 := false) (ev_vi rfl) ev_int v_lt) (by rw [decide_eq_false (by omega)]))) (fun hh => by cases hh) fun _ G1 H1 g1 => ?_
  have z1 := g1.keep hx nx
  refine s_for (K := K) (xs := enumL 0 lines) (c := fun p => .tup [.int p.1, lineD p.2]) (S := fun a σ1 G2 σ' => ∃ v, Rep K none G2 (seqD true (a.2.1.map .int)) v ∧ σ' = ((σ1.set 3 (some (.int a.1))).set 4 (some v)).set 5 (some (.int a.2.2))) (g0.trans g1) (ei_enumL (c := lineD) (ea_cons (ev_var rfl (r2.mono g1.e)) ea_nil))
    (fun i σ1 G1 H1 => ∃ y1 y2 y3 y4, σ1 = [some (.ref x), some (.int n), some v2, y1, y2, y3, y4] ∧ G1 x = none ∧ H1 x = some (.ins C dx [])) ?_ ?_ ?_ ?_
  · intro G' H' g
    have z := g.keep z1.1 z1.2
    exact ⟨none, none, none, none, rfl, z.2, z.1⟩
  · rintro a _ i σ1 G2 H2 G3 ⟨y1, y2, y3, y4, rfl, _, _⟩ _
    exact (tg_pair tg_int (fun _ _ => tg_pair (d1 := seqD true (a.2.1.map .int)) tg_name (fun _ _ => tg_int))).imp (by rintro _ ⟨_, rfl, _, ⟨v, rv, rfl⟩, rfl⟩; exact ⟨v, rv, rfl⟩)
  · rintro i a σ1 G2 H2 G3 H3 σ2 ha eG2 g2 ⟨y1, y2, y3, y4, rfl, hn2, hx2⟩ g3 ⟨v, rv, rfl⟩ N hN
    have ma := List.mem_of_getElem? ha
    obtain ⟨j, hj, ej⟩ := mem_enumL ma
    have hla := hg a.2 (List.mem_of_getElem? hj)
    refine s_asg (K := K) (f := false) g3.sub (ev_call (ea_cons (ev_vi rfl) (ea_cons (ev_var rfl rv) (ea_cons (ev_vi rfl) ea_nil))) (fun E => (spF_use (K := K) (f := true) (o := fun i : Int × Bool × Line => optD (fLine i.1 i.2.2)) (n, true, a.2) hla.1 E).old)) fun v4 G4 H4 g4 r4 => ?_
    refine s_if (K := K) (x := false) g4.sub (et_test (f := false) (Ev.is (ev_op (f1 := false) (ev_var rfl r4) ev_non v_notN) ?_)) (fun hh => by cases hh) fun _ G5 H5 g5 => ?_
    · show D.bl (!isNon (optD (fLine n a.2))) = _
      rw [hla.2]; rfl
    · have z := ((g3.trans g4).trans g5).keep hx2 hn2
      exact hN _ G5 _ ((g3.trans g4).trans g5).e (((g2.trans g3).trans g4).trans g5) ⟨_, _, _, _, rfl, z.2, z.1⟩
  · rintro σ1 G2 H2 eG2 g2 ⟨y1, y2, y3, y4, rfl, hn2, hx2⟩
    refine s_fldS (f := true) g2.sub rfl hx2 hn2 R.cl R.nV (by decide) (ev_vi (n := n) rfl).toS fun d v G3 H3 hd g3 rv hx3 hn3 => ?_
    subst hd
    cases rv
    have gA := (g2.trans g3).put (o := .ins C dx (putF "villages" (.int n) [])) (p := x) cutx_self hn3
    have r2' := r2.mono (g1.e.trans (eG2.trans g3.e))
    refine s_fldS (f := false) (C := C) (dx := dx) (fs := [(("villages" : Str), .int n)]) gA.sub rfl upd_same hn3 R.cl R.nL (by simp) (EvS.imp (ev_cb (ea_cons (evl_lc0 (xs := lines) (c := lineD) (h := lineD) (ei_seqL (ev_var rfl r2')) (Nat.le_trans hl (by decide))
      (S := fun a G1 σ' => ∃ v, Rep K none G1 (.tup (a.1.map .int)) v ∧ σ' = [some (.ref x), some (.int n), some v2, y1, some v, some (.int a.2), y4]) (by rintro a G1 _ ⟨v, rv, rfl⟩; rfl)
      (fun a _ G1 _ => (tg_pair tg_name (fun _ _ => tg_int)).imp (by rintro _ ⟨_, ⟨v, rv, rfl⟩, rfl⟩; exact ⟨v, rv, rfl⟩)) (fun a ma G4 e σ' hs => ?_)).ev ea_nil) c_tupL).toS (fun d hd => hd)) fun d v G4 H4 hd g4 rv hx4 hn4 => ?_
    · obtain ⟨v, rv, rfl⟩ := hs
      exact ev_tup (ea_cons (ev_cb (ea_cons (ev_var rfl rv) ea_nil) c_tupT) (ea_cons (ev_vi rfl) ea_nil)) (by simp)
    · subst hd
      have ep : putF "lines" v [(("villages" : Str), V.int n)] = [(("villages" : Str), V.int n), (("lines" : Str), v)] := putF_new (fs := [(("villages" : Str), V.int n)]) (by
        intro p hp
        rw [List.mem_singleton] at hp
        subst hp
        exact (by decide +kernel : ¬ ("villages" : Str) = "lines"))
      refine q [(("villages" : Str), .int n), (("lines" : Str), v)] G4 _ rfl (.cons (.int n) (.cons rv .nil)) (((gA.trans g4)).put cutx_self hn4) ?_ hn4
      rw [upd_same, ep]
theorem ok_draw_in {P : Program} {w : World} {K : Fr} {mg : Str → Option Value} {base : Heap} {fa : Addr} {fd : FuncData} (F : L2.Fun K "_law_draw" "_law_draw" s_law_draw fa fd) (B : Bt mg) : FnOk P w K mg base CX0 1 fa fd ["pool", "many"] spDrawIn := by
  refine F.ok sc_law_draw (fun vs H Q E h => ?_) (fun cdv A outer s H vs Q E hr h => ?_)
  · obtain ⟨p, c, ns, many, i1, i2, i3, i4, rfl, _⟩ := h
    rfl
  obtain ⟨p, c, ns, many, i1, i2, i3, i4, rfl, hpc, hp, hc, hns, hm, hm2, a1, a2, a3, a4, q⟩ := h
  -- the states
  let St : Int → Int → Int → Int → Hp → Prop := fun j1 j2 j3 j4 H' => H' p = some (.lst (poolVs c j1 j2 j3 j4)) ∧ Ex (fun a => if a = p then none else H a) H'
  let Gp : Int → Int → Int → Int → Hp := fun j1 j2 j3 j4 => upd (fun a => if a = c then some (.lst (ns.map V.int)) else none) p (.lst (poolVs c j1 j2 j3 j4))
  have GE : ∀ {j1 j2 j3 j4 : Int} {H' : Hp}, St j1 j2 j3 j4 H' → Ex (Gp j1 j2 j3 j4) H' := fun {j1 j2 j3 j4 H'} st a o e => by
    by_cases ha : a = p
    · subst ha; rw [show Gp j1 j2 j3 j4 a = some (.lst (poolVs c j1 j2 j3 j4)) from upd_same] at e; cases e; exact st.1
    · have e' : (if a = c then some (HO.lst (ns.map V.int)) else none) = some o := by
        have z : Gp j1 j2 j3 j4 a = (if a = c then some (HO.lst (ns.map V.int)) else none) := upd_ne ha
        rw [← z]; exact e
      by_cases hac : a = c
      · rw [if_pos hac] at e'; cases e'
        exact st.2 a _ (by show (if a = p then none else H a) = _; rw [if_neg ha, hac]; exact hc)
      · rw [if_neg hac] at e'; cases e'
  have SG : ∀ {j1 j2 j3 j4 : Int} {H' H'' : Hp}, St j1 j2 j3 j4 H' → Ex H' H'' → St j1 j2 j3 j4 H'' := fun st e => ⟨e _ _ st.1, st.2.trans e⟩
  have RP : ∀ (j1 j2 j3 j4 : Int), Rep K none (Gp j1 j2 j3 j4) (.lst [.lst (ns.map .int), .int j1, .int j2, .int j3, .int j4]) (.ref p) := fun j1 j2 j3 j4 =>
    .lst trivial upd_same (.cons (.lst trivial (by show upd _ p _ c = _; rw [upd_ne hpc.symm]; exact if_pos rfl) (RepA.ofInts ns)) (.cons (.int _) (.cons (.int _) (.cons (.int _) (.cons (.int _) .nil)))))
  have I1 : ∀ {f : Bool} {σ : L2.St} {j1 j2 j3 j4 : Int}, σ[0]? = some (some (.ref p)) → Ev K f (tOp (rIx K) (tVar 0) (tC (.int 1))) σ (Gp j1 j2 j3 j4) (.int j1) := fun h => (ev_op (ev_var h (RP _ _ _ _)) ev_int (v_ixL rfl)).sc rfl
  have I2 : ∀ {f : Bool} {σ : L2.St} {j1 j2 j3 j4 : Int}, σ[0]? = some (some (.ref p)) → Ev K f (tOp (rIx K) (tVar 0) (tC (.int 2))) σ (Gp j1 j2 j3 j4) (.int j2) := fun h => (ev_op (ev_var h (RP _ _ _ _)) ev_int (v_ixL rfl)).sc rfl
  have I3 : ∀ {f : Bool} {σ : L2.St} {j1 j2 j3 j4 : Int}, σ[0]? = some (some (.ref p)) → Ev K f (tOp (rIx K) (tVar 0) (tC (.int 3))) σ (Gp j1 j2 j3 j4) (.int j3) := fun h => (ev_op (ev_var h (RP _ _ _ _)) ev_int (v_ixL rfl)).sc rfl
  have I4 : ∀ {f : Bool} {σ : L2.St} {j1 j2 j3 j4 : Int}, σ[0]? = some (some (.ref p)) → Ev K f (tOp (rIx K) (tVar 0) (tC (.int 4))) σ (Gp j1 j2 j3 j4) (.int j4) := fun h => (ev_op (ev_var h (RP _ _ _ _)) ev_int (v_ixL rfl)).sc rfl
  have I0 : ∀ {σ : L2.St} {j1 j2 j3 j4 : Int}, σ[0]? = some (some (.ref p)) → Ev K false (tOp (rIx K) (tVar 0) (tC (.int 0))) σ (Gp j1 j2 j3 j4) (.lst (ns.map .int)) := fun h => ev_op (ev_var h (RP _ _ _ _)) ev_int (v_ixL rfl)
  have T18 : ∀ {f : Bool} {σ : L2.St} {G : Hp}, Ev K f (tOp (rI CPow fun i j => .int (i ^ j.toNat)) (tC (.int 10)) (tC (.int 18))) σ G (.int (10 ^ 18)) := ev_op (f1 := false) ev_int ev_int (vp_int ⟨by decide, by decide, by decide⟩)
  have ST : ∀ {j1 j2 j3 j4 k1 k2 k3 k4 : Int} {H' : Hp} {vs : List V}, St j1 j2 j3 j4 H' → vs = poolVs c k1 k2 k3 k4 → St k1 k2 k3 k4 (upd H' p (.lst vs)) := fun {j1 j2 j3 j4 k1 k2 k3 k4 H' vs} st e => ⟨by rw [upd_same, e], st.2.mut (if_pos rfl)⟩
  have s0 : St i1 i2 i3 i4 H := ⟨hp, fun a o e => by
    have e' : (if a = p then none else H a) = some o := e
    by_cases ha : a = p
    · rw [if_pos ha] at e'; cases e'
    · rw [if_neg ha] at e'; exact e'⟩
  refine ⟨_, (pss_cons (ps_asg (pe_op (op_addUK (K := K) rfl) (pe_ix (ix_seqK (K := K) rfl) (pv 0) pe_int (fun _ _ => rfl)) pe_int) (pg_sub (pv 0) pe_int set_list)) 
  (pss_cons (ps_set (i := 2) sc_law_draw.nd rfl (Or.inl rfl) (pe_ix (ix_seqK (K := K) rfl) (pv 0) pe_int (fun _ _ => rfl))) 
  (C8.pss_cut (ps_if (PW.pt (pw_and (pt_cmpR op_lt (pe_ix (ix_seqK (K := K) rfl) (pv 0) pe_int (fun _ _ => rfl)) pe_int (nomark _)) (pw_and1 (pt_cmpR op_lt (pe_ix (ix_seqK (K := K) rfl) (pv 0) pe_int (fun _ _ => rfl)) (pe_callB (cl_lenK (K := K) rfl) (by rfl) B.b_len bt_len (pa_cons (pe_ix (ix_seqK (K := K) rfl) (pv 0) pe_int (fun _ _ => rfl)) pa_nil)) (nomark _))))) (pss_cons (ps_set (i := 2) sc_law_draw.nd rfl (Or.inl rfl) (pe_ix (ix_seqK (K := K) rfl) (pe_ix (ix_seqK (K := K) rfl) (pv 0) pe_int (fun _ _ => rfl)) (pe_ix (ix_seqK (K := K) rfl) (pv 0) pe_int (fun _ _ => rfl)) (fun _ _ => rfl))) 
  (pss_cons (ps_asg (pe_op (op_addUK (K := K) rfl) (pe_ix (ix_seqK (K := K) rfl) (pv 0) pe_int (fun _ _ => rfl)) pe_int) (pg_sub (pv 0) pe_int set_list)) 
  (pss_one (ps_if (pt_cmpR op_ge (pv 2) (pe_op op_pow pe_int pe_int) (nomark _)) (pss_one (ps_asg (pe_op op_sub (pv 2) (pe_op op_pow pe_int pe_int)) (pg_sub (pv 0) pe_int set_list))) pss_nil)))) pss_nil) 
  (pss_cons (ps_if (PW.pt (pw_or (pt_cmpR op_gt (pe_ix (ix_seqK (K := K) rfl) (pv 0) pe_int (fun _ _ => rfl)) pe_int (nomark _)) (pw_or1 (pt_cmpR op_ge (pv 2) (pe_op op_pow pe_int pe_int) (nomark _))))) (pss_cons (ps_set (i := 3) sc_law_draw.nd rfl (Or.inl rfl) (pe_op op_modN (pe_callTy cl_int (by rfl) B.b_int bt_int (pa_cons (pe_ix (ix_seqK (K := K) rfl) (pv 0) pe_int (fun _ _ => rfl)) pa_nil)) (pv 1))) 
  (pss_cons (ps_asg (pe_op op_fdivW (pe_ix (ix_seqK (K := K) rfl) (pv 0) pe_int (fun _ _ => rfl)) (pv 1)) (pg_sub (pv 0) pe_int set_list)) 
  (pss_one (ps_ret (pv 3))))) pss_nil) 
  (pss_cons (ps_set (i := 4) sc_law_draw.nd rfl (Or.inl rfl) (pe_op op_modN (pe_callTy cl_int (by rfl) B.b_int bt_int (pa_cons (pe_op (op_addUK (K := K) rfl) (pe_op (op_addUK (K := K) rfl) (pe_op op_mulU (pv 2) pe_int) (pe_op op_mulU (pe_ix (ix_seqK (K := K) rfl) (pv 0) pe_int (fun _ _ => rfl)) pe_int)) pe_int) pa_nil)) pe_int)) 
  (pss_cons (ps_set (i := 4) sc_law_draw.nd rfl (Or.inl rfl) (pe_op op_modN (pe_callTy cl_int (by rfl) B.b_int bt_int (pa_cons (pe_op (op_addUK (K := K) rfl) (pe_op (op_addUK (K := K) rfl) (pe_op op_mulU (pv 4) (pv 4)) (pe_op op_mulU (pe_ix (ix_seqK (K := K) rfl) (pv 0) pe_int (fun _ _ => rfl)) pe_int)) pe_int) pa_nil)) pe_int)) 
  (pss_cons (ps_set (i := 4) sc_law_draw.nd rfl (Or.inl rfl) (pe_op op_modN (pe_callTy cl_int (by rfl) B.b_int bt_int (pa_cons (pe_op (op_addUK (K := K) rfl) (pe_op (op_addUK (K := K) rfl) (pe_op op_mulU (pv 4) (pv 4)) (pv 2)) pe_int) pa_nil)) pe_int)) 
  (pss_one (ps_ret (pe_op op_modN (pe_callTy cl_int (by rfl) B.b_int bt_int (pa_cons (pe_op op_fdivW (pv 4) pe_int) pa_nil)) (pv 1))))))))))), ?_⟩
  -- pool[3] = pool[3] + 1
  refine (ev_op (K := K) (f1 := false) (f := false) (I3 rfl) ev_int va_int) H (GE s0) _ fun v G1 H1 g1 r1 => ?_
  cases r1
  have s1 := SG s0 g1.ext
  refine ⟨.ref p, rfl, p, _, 3, 3, rfl, rfl, s1.1, rfl, ?_⟩
  have s2 : St i1 i2 (i3 + 1) i4 (upd H1 p (.lst ((poolVs c i1 i2 i3 i4).set 3 (.int (i3 + 1))))) := ST s1 rfl
  generalize upd H1 p (.lst ((poolVs c i1 i2 i3 i4).set 3 (.int (i3 + 1)))) = H2 at s2
  -- base = pool[4]
  refine (I4 (f := false) rfl) H2 (GE s2) _ fun v G3 H3 g3 r3 => ?_
  cases r3
  have s3 := SG s2 g3.ext
  refine ⟨fun σ H' => ∃ b j1 j2 j3 j4, σ = [some (.ref p), some (.int many), some (.int b), none, none] ∧ 0 ≤ j1 ∧ 0 ≤ j2 ∧ 0 ≤ j3 ∧ 0 ≤ j4 ∧ St j1 j2 j3 j4 H', ?_, ?_⟩
  · -- if pool[2] < 2 and pool[1] < len(pool[0])
    refine s_if (K := K) (x := decide (i2 < 2) && decide (i1 < (ns.length : Int))) (GE s3) (et_and (et_test (f := false) (ev_op (f1 := false) (I2 rfl) ev_int v_lt)) fun _ => et_test (f := false) (ev_op (f1 := false) (I1 rfl) (Ev.is (ev_cb (ea_cons (I0 rfl) ea_nil) c_lenL) (by rw [List.length_map])) v_lt)) (fun hx G4 H4 g4 => ?_) (fun hx G4 H4 g4 => ?_)
    · have s4 := SG s3 g4.ext
      rw [Bool.and_eq_true] at hx
      have hlt := of_decide_eq_true hx.2
      -- base = pool[0][pool[1]]
      refine (ev_op (K := K) (f1 := false) (f := false) (I0 rfl) (I1 rfl) (v_ixL (at_int a1 hlt))) H4 (GE s4) _ fun v G5 H5 g5 r5 => ?_
      cases r5
      have s5 := SG s4 g5.ext
      -- pool[1] = pool[1] + 1
      refine (ev_op (K := K) (f1 := false) (f := false) (I1 rfl) ev_int va_int) H5 (GE s5) _ fun v G6 H6 g6 r6 => ?_
      cases r6
      have s6 := SG s5 g6.ext
      refine ⟨.ref p, rfl, p, _, 1, 1, rfl, rfl, s6.1, rfl, ?_⟩
      have s7 : St (i1 + 1) i2 (i3 + 1) i4 (upd H6 p (.lst ((poolVs c i1 i2 (i3 + 1) i4).set 1 (.int (i1 + 1))))) := ST s6 rfl
      generalize upd H6 p (.lst ((poolVs c i1 i2 (i3 + 1) i4).set 1 (.int (i1 + 1)))) = H7 at s7
      -- if base >= 10 ** 18: pool[2] = base - 10 ** 18
      refine s_if (K := K) (x := decide ((10 : Int) ^ 18 ≤ ix ns i1)) (GE s7) (et_test (f := false) (ev_op (f1 := false) (ev_vi rfl) T18 v_ge)) (fun hy G8 H8 g8 => ?_) (fun hy G8 H8 g8 => ?_)
      · have s8 := SG s7 g8.ext
        have hge := of_decide_eq_true hy
        refine (ev_op (K := K) (f1 := false) (f := false) (ev_vi rfl) T18 vs_int) H8 (GE s8) _ fun v G9 H9 g9 r9 => ?_
        cases r9
        have s9 := SG s8 g9.ext
        refine ⟨.ref p, rfl, p, _, 2, 2, rfl, rfl, s9.1, rfl, ?_⟩
        exact ⟨_, _, _, _, _, rfl, by omega, by omega, by omega, a4, ST s9 rfl⟩
      · exact ⟨_, _, _, _, _, rfl, by omega, a2, by omega, a4, SG s7 g8.ext⟩
    · exact ⟨_, _, _, _, _, rfl, a1, a2, by omega, a4, SG s3 g4.ext⟩
  rintro σ' H4 ⟨b, j1, j2, j3, j4, rfl, b1, b2, b3, b4, s4⟩
  refine s_ifc (K := K) (x := decide (1 < j2) || decide ((10 : Int) ^ 18 ≤ b)) (GE s4) (et_or (et_test (f := false) (ev_op (f1 := false) (I2 rfl) ev_int v_gt)) fun _ => et_test (f := false) (ev_op (f1 := false) (ev_vi rfl) T18 v_ge)) (fun hx G5 H5 g5 => ?_) (fun hx G5 H5 g5 => ?_)
  · have s5 := SG s4 g5.ext
    -- digit = int(pool[2]) % many
    refine (ev_op (K := K) (f1 := false) (f := false) (ev_cb (ea_cons (I2 rfl) ea_nil) c_int) (ev_vi rfl) (vo_int hm)) H5 (GE s5) _ fun v G6 H6 g6 r6 => ?_
    cases r6
    have s6 := SG s5 g6.ext
    -- pool[2] = pool[2] // many
    refine (ev_op (K := K) (f1 := false) (f := false) (I2 rfl) (ev_vi rfl) (vd_int (wide_div hm (b := 200) (by omega) (by decide) (by decide)))) H6 (GE s6) _ fun v G7 H7 g7 r7 => ?_
    cases r7
    have s7 := SG s6 g7.ext
    refine ⟨.ref p, rfl, p, _, 2, 2, rfl, rfl, s7.1, rfl, ?_⟩
    have s8 : St j1 (j2 / many) j3 j4 (upd H7 p (.lst ((poolVs c j1 j2 j3 j4).set 2 (.int (j2 / many))))) := ST s7 rfl
    refine s_retP (v := .int (j2 % many)) rfl ?_
    exact q _ _ _ _ _ _ (Int.emod_nonneg _ (by omega)) (Int.emod_lt_of_pos _ hm) b1 (Int.ediv_nonneg b2 (by omega)) b3 b4 s8.1 s8.2
  · have s5 := SG s4 g5.ext
    -- mixed
    refine (ev_op (K := K) (f1 := false) (f := false) (ev_cb (ea_cons (ev_op (f1 := false) (ev_op (f1 := false) (ev_op (f1 := false) (ev_vi rfl) ev_int (vm_int (.inr (by constructor <;> decide)))) (ev_op (f1 := false) (I3 rfl) ev_int (vm_int (.inr (by constructor <;> decide)))) va_int) ev_int va_int) ea_nil) c_int) ev_int (vo_int (by decide))) H5 (GE s5) _ fun v G6 H6 g6 r6 => ?_
    have e6 := r6.int_inv
    subst e6
    have s6 := SG s5 g6.ext
    generalize hm1 : (b * 48271 + j3 * 69621 + 12345) % 2147483647 = m1 at *
    have l1 : 0 ≤ m1 ∧ m1 < 2147483647 := by rw [← hm1]; exact ⟨Int.emod_nonneg _ (by decide), Int.emod_lt_of_pos _ (by decide)⟩
    refine (ev_op (K := K) (f1 := false) (f := false) (ev_cb (ea_cons (ev_op (f1 := false) (ev_op (f1 := false) (ev_op (f1 := false) (ev_vi rfl) (ev_vi rfl) (vm_int (i := m1) (j := m1) (.inl ⟨by omega, by omega⟩))) (ev_op (f1 := false) (I3 rfl) ev_int (vm_int (.inr (by constructor <;> decide)))) va_int) ev_int va_int) ea_nil) c_int) ev_int (vo_int (by decide))) H6 (GE s6) _ fun v G7 H7 g7 r7 => ?_
    have e7 := r7.int_inv
    subst e7
    have s7 := SG s6 g7.ext
    generalize hm2' : (m1 * m1 + j3 * 40692 + 7) % 2147483399 = m2 at *
    have l2 : 0 ≤ m2 ∧ m2 < 2147483399 := by rw [← hm2']; exact ⟨Int.emod_nonneg _ (by decide), Int.emod_lt_of_pos _ (by decide)⟩
    refine (ev_op (K := K) (f1 := false) (f := false) (ev_cb (ea_cons (ev_op (f1 := false) (ev_op (f1 := false) (ev_op (f1 := false) (ev_vi rfl) (ev_vi rfl) (vm_int (i := m2) (j := m2) (.inl ⟨by omega, by omega⟩))) (ev_vi rfl) va_int) ev_int va_int) ea_nil) c_int) ev_int (vo_int (by decide))) H7 (GE s7) _ fun v G8 H8 g8 r8 => ?_
    have e8 := r8.int_inv
    subst e8
    have s8 := SG s7 g8.ext
    refine (ev_op (K := K) (f1 := false) (f := false) (ev_cb (ea_cons (ev_op (f1 := false) (ev_vi rfl) ev_int (vd_int ⟨by decide, by decide⟩)) ea_nil) c_int) (ev_vi rfl) (vo_int hm)) H8 (GE s8) _ fun v G9 H9 g9 r9 => ?_
    have e9 := r9.int_inv
    subst e9
    have s9 := SG s8 g9.ext
    exact q _ _ _ _ _ _ (Int.emod_nonneg _ (by omega)) (Int.emod_lt_of_pos _ hm) b1 b2 b3 b4 s9.1 s9.2
theorem ok_pool_in {P : Program} {w : World} {K : Fr} {mg : Str → Option Value} {base : Heap} {fa : Addr} {fd : FuncData} (F : L2.Fun K "_law_pool" "_law_pool" s_law_pool fa fd) (B : Bt mg) : FnOk P w K mg base CX0 1 fa fd ["script"] (spPoolIn K) := by
  refine F.ok sc_law_pool (fun vs H Q E h => ?_) (fun cdv A outer s H vs Q E hr h => ?_)
  · obtain ⟨a, ns, rfl, _⟩ := h
    rfl
  obtain ⟨a, ns, rfl, hS, hl, q⟩ := h
  refine ⟨_, (pss_cons (ps_setLc (i := 1) (own := [("cell", 2)]) rfl sc_law_pool.nd rfl rfl (sw_true rfl rfl rfl (by decide +kernel)) (pi_seqK (K := K) rfl (pe_slice (sl_UK (K := K) rfl) (pv 0) po_none (po_some pe_int))) (blkOk_by (by kernel_rfl)) (fun _ _ _ _ _ => (pg_name (i := 2) sc_law_pool.nd rfl (Or.inl rfl))) (fun _ _ _ _ _ => pts_nil) (fun _ _ _ _ _ => (pe_callB call_abs (by rfl) B.b_abs bt_abs (pa_cons (pe_callTy cl_int (by rfl) B.b_int bt_int (pa_cons (pv 2) pa_nil)) pa_nil)))) 
  (pss_one (ps_ret (pe_lst (pa_cons (pv 1) (pa_cons pe_int (pa_cons pe_int (pa_cons pe_int (pa_cons (pe_op op_modN (pe_callTy cl_int (by rfl) B.b_int bt_int (pa_cons (pe_callB (cr_sumK (K := K) rfl rfl) (by rfl) B.b_sum bt_sum (pa_cons (pv 1) pa_nil)) pa_nil)) pe_int) pa_nil))))))))), ?_⟩
  have lc : (cutD ns none (some 63)).length ≤ 50000 := Nat.le_trans (cutD_length _ _ _) (by omega)
  refine s_asg (K := K) (f := true) (Ex.refl H) (ev_intLc0 (h := fun n => if n < 0 then -n else n) (ei_seqL (ev_slScript (f := false) rfl hS eo_none (eo_some ev_int))) lc (S := fun n G1 σ' => σ' = [some (.ref a), none, some (.int n)]) (by rintro n G1 σ' rfl; rfl) (fun n _ G1 _ => tg_int)
    (fun n mn G1 e σ' hs => by subst hs; exact ev_cb (ea_cons (ev_cb (ea_cons (ev_vi rfl) ea_nil) c_int) ea_nil) rc_abs)) fun v G1 H1 g1 rv => ?_
  obtain ⟨c, us, rfl, fc, hc, rs⟩ := rv.lst_inv
  cases rs.ints
  generalize hms : (cutD ns none (some 63)).map (fun n => if n < 0 then -n else n) = ms at *
  have hms0 : ∀ n ∈ ms, 0 ≤ n := by
    rw [← hms]
    intro n hn
    obtain ⟨m, _, rfl⟩ := List.mem_map.mp hn
    split <;> omega
  have ec : Ev K false (tVar 1) [some (.ref a), some (.ref c), none] G1 (.lst (ms.map .int)) := ev_var rfl (.lst trivial hc rs.old)
  -- the list of the pool
  refine (evl_lst (f := false) (K := K) (G := G1) (ds := [.lst (ms.map .int), .int 0, .int 0, .int 0, .int (ms.sum % 1000000007)]) (ea_cons ec (ea_cons ev_int (ea_cons ev_int (ea_cons ev_int (ea_cons (ev_op (f1 := false) (ev_cb (ea_cons (ev_cb (ea_cons ec ea_nil) rc_sum) ea_nil) c_int) ev_int (vo_int (by decide))) ea_nil))))) (by simp)) H1 g1.sub _ fun p vs G2 H2 g2 hp hG hp2 rs2 => ?_
  cases rs2 with
  | cons r0 rs2 =>
    obtain ⟨v1, v2, v3, v4, rfl, r1, r2, r3, r4⟩ := rs2.four
    cases r1; cases r2; cases r3; cases r4
    obtain ⟨c', us', rfl, _, hc', rs'⟩ := r0.lst_inv
    cases rs'.ints
    have hpc : p ≠ c' := fun e => by rw [← e, hG] at hc'; cases hc'
    exact q p c' ms 0 0 0 _ H2 (by decide) (by decide) (by decide) (Int.emod_nonneg _ (by decide)) (Evl.fresh_back g1.ext hp) hpc hp2 (g2.sub _ _ hc') hms0 (g1.trans g2).ext
/-- plain data of at most so many levels -/
inductive Pl : Nat → D → Prop
  | sc {n : Nat} {d : D} (h : scalarD d = true) : Pl n d
  | lst {n : Nat} {ds : List D} (hl : ds.length ≤ 50000) (h : ∀ d ∈ ds, Pl n d) : Pl (n + 1) (.lst ds)
  | tup {n : Nat} {ds : List D} (hl : ds.length ≤ 50000) (h : ∀ d ∈ ds, Pl n d) : Pl (n + 1) (.tup ds)
theorem Pl.plain {n : Nat} {d : D} (h : Pl n d) : plainD d = true := by
  cases h with
  | sc h => cases d <;> first | rfl | cases h
  | lst _ _ => rfl
  | tup _ _ => rfl
theorem Pl.up {n : Nat} {d : D} (h : Pl n d) : Pl (n + 1) d := by
  induction h with
  | sc h => exact .sc h
  | lst hl _ ih => exact .lst hl ih
  | tup hl _ ih => exact .tup hl ih
theorem Pl.mono {n m : Nat} {d : D} (h : Pl n d) (l : n ≤ m) : Pl m d := by
  induction l with
  | refl => exact h
  | step _ ih => exact ih.up
mutual
/-- the same data of the same kinds -/
def sameD : D → D → Bool
  | .non, .non => true
  | .bl a, .bl b => decide (a = b)
  | .int a, .int b => decide (a = b)
  | .str a, .str b => decide (a = b)
  | .lst as, .lst bs => sameL as bs
  | .tup as, .tup bs => sameL as bs
  | _, _ => false
def sameL : List D → List D → Bool
  | [], [] => true
  | a :: as, b :: bs => sameD a b && sameL as bs
  | _, _ => false
end
mutual
theorem sameD_refl : ∀ {n : Nat} {d : D}, Pl n d → sameD d d = true
  | _, .non, _ => rfl
  | _, .bl _, _ => by simp [sameD]
  | _, .int _, _ => by simp [sameD]
  | _, .str _, _ => by simp [sameD]
  | _, .lst ds, h => by
    cases h with
    | sc h => cases h
    | lst hl h => exact sameL_refl ds h
  | _, .tup ds, h => by
    cases h with
    | sc h => cases h
    | tup hl h => exact sameL_refl ds h
  | _, .ins _ _ _, h => by cases h with | sc h => cases h
  | _, .pool, h => by cases h with | sc h => cases h
  | _, .ty _, h => by cases h with | sc h => cases h
theorem sameL_refl : ∀ {n : Nat} (ds : List D), (∀ d ∈ ds, Pl n d) → sameL ds ds = true
  | _, [], _ => rfl
  | _, d :: ds, h => by
    show (sameD d d && sameL ds ds) = true
    rw [sameD_refl (h d List.mem_cons_self), sameL_refl ds fun x hx => h x (List.mem_cons_of_mem _ hx)]; rfl
end
theorem sameL_len : ∀ {as bs : List D}, as.length ≠ bs.length → sameL as bs = false
  | [], [], h => absurd rfl h
  | [], _ :: _, _ => rfl
  | _ :: _, [], _ => rfl
  | a :: as, b :: bs, h => by
    show (sameD a b && sameL as bs) = false
    rw [sameL_len (as := as) (bs := bs) fun e => h (by rw [List.length_cons, List.length_cons, e]), Bool.and_false]
theorem sameL_no : ∀ {as bs : List D} {i : Nat} {a b : D}, as[i]? = some a → bs[i]? = some b → sameD a b = false → sameL as bs = false
  | [], _, _, _, _, h, _, _ => by simp at h
  | _ :: _, [], _, _, _, _, h, _ => by simp at h
  | a :: as, b :: bs, 0, x, y, h1, h2, h3 => by
    simp at h1 h2; subst h1; subst h2
    show (sameD a b && sameL as bs) = false
    rw [h3]; rfl
  | a :: as, b :: bs, i + 1, x, y, h1, h2, h3 => by
    show (sameD a b && sameL as bs) = false
    rw [sameL_no (i := i) (by simpa using h1) (by simpa using h2) h3, Bool.and_false]
theorem sameL_yes : ∀ {as bs : List D}, as.length = bs.length → (∀ (i : Nat) a b, as[i]? = some a → bs[i]? = some b → sameD a b = true) → sameL as bs = true
  | [], [], _, _ => rfl
  | [], _ :: _, h, _ => by simp at h
  | _ :: _, [], h, _ => by simp at h
  | a :: as, b :: bs, h, k => by
    show (sameD a b && sameL as bs) = true
    rw [k 0 a b rfl rfl, sameL_yes (by simpa using h) fun i x y h1 h2 => k (i + 1) x y (by simpa using h1) (by simpa using h2)]; rfl
theorem Ev.seq {K : Fr} {f : Bool} {te : TE} {σ : L2.St} {G : Hp} {d e : D} (h : Ev K f te σ G d) (eq : d = e) : Ev K f te σ G e := eq ▸ h
/-- by levels -/
def spSame (K : Fr) : Nat → Sp
  | 0 => fun _ _ _ _ => False
  | n + 1 => spF K true (fun i : D × D => [i.1, i.2]) (fun i => Pl n i.1 ∧ Pl n i.2) (fun i d => d = .bl (sameD i.1 i.2))
theorem same_use {K : Fr} {n : Nat} {a b : D} (ha : Pl n a) (hb : Pl n b) : SpD K true (spSame K (n + 1)) [a, b] (.bl (sameD a b)) := spF_use (o := fun i : D × D => .bl (sameD i.1 i.2)) (a, b) ⟨ha, hb⟩
theorem ok_same {P : Program} {w : World} {K : Fr} {mg : Str → Option Value} {base : Heap} {fa : Addr} {fd : FuncData} (F : L2.Fun K "_law_same" "_law_same" s_law_same fa fd) (B : Bt mg)
    (hc : ∀ k sp, FnOk P w K mg base CX0 k fa fd ["got", "due"] sp → C8.Cal P w K mg base k "_law_same" sp []) : ∀ n, FnOk P w K mg base CX0 n fa fd ["got", "due"] (spSame K n)
  | 0 => ⟨fun _ _ _ _ h => h.elim, fun _ _ _ _ _ _ _ _ _ _ _ _ _ h => h.elim⟩
  | n + 1 => by
    have c_law_same := hc _ _ (ok_same F B hc n)
    refine okF F sc_law_same (fun _ => rfl) fun cdv A outer s H vs Q E hr i G eG rs pre q => ?_
    obtain ⟨got, due⟩ := i
    dsimp only at rs pre q
    obtain ⟨v1, v2, rfl, r1, r2⟩ := rs.two
    obtain ⟨pg, pd⟩ := pre
    have hg : ∀ {f : Bool} {G1 : Hp} {y : Option V} , Ex G G1 → Ev K false (tVar 0) [some v1, some v2, y] G1 got := fun e => ev_var rfl (r1.mono e)
    have hd : ∀ {f : Bool} {G1 : Hp} {y : Option V}, Ex G G1 → Ev K false (tVar 1) [some v1, some v2, y] G1 due := fun e => ev_var rfl (r2.mono e)
    have ti : ∀ {f : Bool} {G1 : Hp} {y : Option V} {T : String}, Ex G G1 → T ∈ ["bool", "int", "str", "list", "tuple"] → Ev K f (tCB (rIsi K) (tCons (tVar 1) (tCons (tC (.ty T)) tNil))) [some v1, some v2, y] G1 (.bl (isiD due T)) := fun e hT => ev_cb (ea_cons (hd (f := false) e) (ea_cons ev_ty ea_nil)) (c_isi pd.plain hT)
    have tj : ∀ {f : Bool} {G1 : Hp} {y : Option V} {T : String}, Ex G G1 → T ∈ ["bool", "int", "str", "list", "tuple"] → Ev K f (tCB (rIsi K) (tCons (tVar 0) (tCons (tC (.ty T)) tNil))) [some v1, some v2, y] G1 (.bl (isiD got T)) := fun e hT => ev_cb (ea_cons (hg (f := false) e) (ea_cons ev_ty ea_nil)) (c_isi pg.plain hT)
    have pp := pg.plain
    have pq := pd.plain
    refine ⟨_, (pss_cons (ps_if (pt_cmpR op_isU (pv 1) pe_non (nomark _)) (pss_one (ps_ret (pe_cmpR op_isU (pv 0) pe_non (nomark _)))) pss_nil) 
  (pss_cons (ps_if (pt_cmpR op_isU (pv 1) pe_bl (nomark _)) (pss_one (ps_ret (pe_cmpR op_isU (pv 0) pe_bl (nomark _)))) pss_nil) 
  (pss_cons (ps_if (pt_cmpR op_isU (pv 1) pe_bl (nomark _)) (pss_one (ps_ret (pe_cmpR op_isU (pv 0) pe_bl (nomark _)))) pss_nil) 
  (pss_cons (ps_if (pt_val (pe_callB (cl_isiK (K := K) rfl) (by rfl) B.b_isinstance bt_isinstance (pa_cons (pv 1) (pa_cons (pe_bltn (v := .ty "int") (by rfl) B.b_int bt_int rfl) pa_nil)))) (pss_one (ps_ret (pe_and (pe_callB (cl_isiK (K := K) rfl) (by rfl) B.b_isinstance bt_isinstance (pa_cons (pv 0) (pa_cons (pe_bltn (v := .ty "int") (by rfl) B.b_int bt_int rfl) pa_nil))) (pe_and (pe_not (pe_callB (cl_isiK (K := K) rfl) (by rfl) B.b_isinstance bt_isinstance (pa_cons (pv 0) (pa_cons (pe_bltn (v := .ty "bool") (by rfl) B.b_bool bt_bool rfl) pa_nil)))) (pe_one (pe_cmpR (op_eqUK (K := K) rfl hr.units) (pv 0) (pv 1) (nomark _))))))) pss_nil) 
  (pss_cons (ps_if (pt_val (pe_callB (cl_isiK (K := K) rfl) (by rfl) B.b_isinstance bt_isinstance (pa_cons (pv 1) (pa_cons (pe_bltn (v := .ty "str") (by rfl) B.b_str bt_str rfl) pa_nil)))) (pss_one (ps_ret (pe_and (pe_callB (cl_isiK (K := K) rfl) (by rfl) B.b_isinstance bt_isinstance (pa_cons (pv 0) (pa_cons (pe_bltn (v := .ty "str") (by rfl) B.b_str bt_str rfl) pa_nil))) (pe_one (pe_cmpR (op_eqUK (K := K) rfl hr.units) (pv 0) (pv 1) (nomark _)))))) pss_nil) 
  (pss_cons (ps_if (PW.pt (pw_or (PW.pt (pw_and (pt_val (pe_callB (cl_isiK (K := K) rfl) (by rfl) B.b_isinstance bt_isinstance (pa_cons (pv 1) (pa_cons (pe_bltn (v := .ty "list") (by rfl) B.b_list bt_list rfl) pa_nil)))) (pw_and1 (pt_not (pt_val (pe_callB (cl_isiK (K := K) rfl) (by rfl) B.b_isinstance bt_isinstance (pa_cons (pv 0) (pa_cons (pe_bltn (v := .ty "list") (by rfl) B.b_list bt_list rfl) pa_nil)))))))) (pw_or1 (PW.pt (pw_and (pt_val (pe_callB (cl_isiK (K := K) rfl) (by rfl) B.b_isinstance bt_isinstance (pa_cons (pv 1) (pa_cons (pe_bltn (v := .ty "tuple") (by rfl) B.b_tuple bt_tuple rfl) pa_nil)))) (pw_and1 (pt_not (pt_val (pe_callB (cl_isiK (K := K) rfl) (by rfl) B.b_isinstance bt_isinstance (pa_cons (pv 0) (pa_cons (pe_bltn (v := .ty "tuple") (by rfl) B.b_tuple bt_tuple rfl) pa_nil))))))))))) (pss_one (ps_ret pe_bl)) pss_nil) 
  (pss_cons (ps_if (pt_cmpR (op_neUK (K := K) rfl hr.units) (pe_callB (cl_lenK (K := K) rfl) (by rfl) B.b_len bt_len (pa_cons (pv 0) pa_nil)) (pe_callB (cl_lenK (K := K) rfl) (by rfl) B.b_len bt_len (pa_cons (pv 1) pa_nil)) (nomark _)) (pss_one (ps_ret pe_bl)) pss_nil) 
  (pss_cons (ps_for PassesOwn.never rfl (pi_range1 (by rfl) B.b_range (pa_cons (pe_callB (cl_lenK (K := K) rfl) (by rfl) B.b_len bt_len (pa_cons (pv 1) pa_nil)) pa_nil)) (pg_name (i := 2) sc_law_same.nd rfl (Or.inl rfl)) (pss_one (ps_if (pt_not (pt_val (C8.pe_c c_law_same hr (by first | decide | exact Nat.le_refl _) (by rfl) (pa_cons (pe_ix (ix_seqK (K := K) rfl) (pv 0) (pv 2) (fun _ _ => rfl)) (pa_cons (pe_ix (ix_seqK (K := K) rfl) (pv 1) (pv 2) (fun _ _ => rfl)) pa_nil))))) (pss_one (ps_ret pe_bl)) pss_nil))) 
  (pss_one (ps_ret pe_bl)))))))))), ?_⟩
    -- None, True, False
    refine s_ifc (K := K) (x := isNon due) eG (et_test (f := false) (ev_op (f1 := false) (hd (f := false) (Ex.refl _)) ev_non v_isN)) (fun hx G1 H1 g1 => s_ret (K := K) (f := true) g1.sub (ev_op (f1 := false) (hg (f := false) g1.e) ev_non v_isN) fun v G' H' g r => q _ v G' H' ?_ (g1.trans g) (r.h2 g1.ext)) (fun h1 G1 H1 g1 => ?_)
    · cases due <;> first | (cases hx; done) | (cases got <;> rfl)
    refine s_ifc (K := K) (x := isBl true due) g1.sub (et_test (f := false) (ev_op (f1 := false) (hd (f := false) g1.e) ev_bl v_isTF)) (fun hx G2 H2 g2 => s_ret (K := K) (f := true) g2.sub (ev_op (f1 := false) (hg (f := false) (g1.e.trans g2.e)) ev_bl v_isTF) fun v G' H' g r => q _ v G' H' ?_ ((g1.trans g2).trans g) (r.h2 (g1.trans g2).ext)) (fun h2 G2 H2 g2 => ?_)
    · cases due <;> first | (cases hx; done) | (rename_i b; cases b <;> first | (cases hx; done) | (cases got <;> rfl))
    have g12 := g1.trans g2
    refine s_ifc (K := K) (x := isBl false due) g12.sub (et_test (f := false) (ev_op (f1 := false) (hd (f := false) g12.e) ev_bl v_isTF)) (fun hx G3 H3 g3 => s_ret (K := K) (f := true) g3.sub (ev_op (f1 := false) (hg (f := false) (g12.e.trans g3.e)) ev_bl v_isTF) fun v G' H' g r => q _ v G' H' ?_ ((g12.trans g3).trans g) (r.h2 (g12.trans g3).ext)) (fun h3 G3 H3 g3 => ?_)
    · cases due <;> first | (cases hx; done) | (rename_i b; cases b <;> first | (cases hx; done) | (cases got <;> rfl))
    have g13 := g12.trans g3
    have nb : ∀ b, due ≠ .bl b := fun b e => by subst e; cases b <;> first | (cases h2; done) | (cases h3; done)
    -- whole numbers
    refine s_ifc (K := K) (x := isiD due "int") g13.sub (et_B (ti (f := false) g13.e (by decide))) (fun hx G4 H4 g4 => ?_) (fun h4 G4 H4 g4 => ?_)
    · have e4 := g13.e.trans g4.e
      cases due with
      | int j =>
        refine s_ret (K := K) (f := true) g4.sub (Ev.seq (ev_andV (x := isiD got "int") (y := sameD got (.int j)) (tj e4 (by decide)) fun hi => Ev.seq (ev_andV (x := !isiD got "bool") (y := sameD got (.int j)) (ev_notV (tj e4 (by decide))) fun hb => ?_) ?_) ?_) fun v G' H' g r => q _ v G' H' rfl ((g13.trans g4).trans g) (r.h2 (g13.trans g4).ext)
        · cases got <;> first | (cases hi; done) | (cases hb; done) | skip
          rename_i i
          exact Ev.seq (ev_op (f1 := false) (hg (f := false) e4) (hd (f := false) e4) v_eqI) rfl
        · cases got <;> first | rfl | (cases hi; done)
        · cases got <;> rfl
      | bl b => exact absurd rfl (nb b)
      | non => cases hx
      | str _ => cases hx
      | lst _ => cases hx
      | tup _ => cases hx
      | ins _ _ _ => cases pq
      | pool => cases pq
      | ty _ => cases pq
    have g14 := g13.trans g4
    -- texts
    refine s_ifc (K := K) (x := isiD due "str") g14.sub (et_B (ti (f := false) g14.e (by decide))) (fun hx G5 H5 g5 => ?_) (fun h5 G5 H5 g5 => ?_)
    · have e5 := g14.e.trans g5.e
      cases due with
      | str j =>
        refine s_ret (K := K) (f := true) g5.sub (Ev.seq (ev_andV (x := isiD got "str") (y := sameD got (.str j)) (tj e5 (by decide)) fun hi => ?_) ?_) fun v G' H' g r => q _ v G' H' rfl ((g14.trans g5).trans g) (r.h2 (g14.trans g5).ext)
        · cases got <;> first | (cases hi; done) | skip
          rename_i i
          exact Ev.seq (ev_op (f1 := false) (hg (f := false) e5) (hd (f := false) e5) v_eqS) rfl
        · cases got <;> rfl
      | bl b => exact absurd rfl (nb b)
      | non => cases hx
      | int _ => cases h4
      | lst _ => cases hx
      | tup _ => cases hx
      | ins _ _ _ => cases pq
      | pool => cases pq
      | ty _ => cases pq
    have g15 := g14.trans g5
    -- lists and tuples
    refine s_ifc (K := K) (x := (isiD due "list" && !isiD got "list") || (isiD due "tuple" && !isiD got "tuple")) g15.sub (et_or (et_and (et_B (ti (f := false) g15.e (by decide))) fun _ => et_not (et_B (tj (f := false) g15.e (by decide)))) fun _ => et_and (et_B (ti (f := false) g15.e (by decide))) fun _ => et_not (et_B (tj (f := false) g15.e (by decide)))) (fun hx G6 H6 g6 => s_ret (K := K) (f := true) g6.sub ev_bl fun v G' H' g r => q _ v G' H' ?_ ((g15.trans g6).trans g) (r.h2 (g15.trans g6).ext)) (fun h6 G6 H6 g6 => ?_)
    · cases due <;> first | (cases hx; done) | (cases got <;> first | rfl | (cases hx; done))
    have g16 := g15.trans g6
    obtain ⟨b, es, ds, rfl, rfl, le, ld, m, pe, pds⟩ : ∃ b es ds, got = seqD b es ∧ due = seqD b ds ∧ es.length ≤ 50000 ∧ ds.length ≤ 50000 ∧ ∃ m, (∀ d ∈ es, Pl m d ∧ n = m + 1) ∧ (∀ d ∈ ds, Pl m d ∧ n = m + 1) := by
      cases due with
      | non => cases h1
      | bl b => exact absurd rfl (nb b)
      | int _ => cases h4
      | str _ => cases h5
      | ins _ _ _ => cases pq
      | pool => cases pq
      | ty _ => cases pq
      | lst ds =>
        cases got <;> first | (cases h6; done) | (cases pp; done) | skip
        rename_i es
        cases pd with
        | sc h => cases h
        | lst hl h =>
          cases pg with
          | sc h => cases h
          | lst hl' h' => exact ⟨false, es, ds, rfl, rfl, hl', hl, _, fun d hd => ⟨h' d hd, rfl⟩, fun d hd => ⟨h d hd, rfl⟩⟩
      | tup ds =>
        cases got <;> first | (cases h6; done) | (cases pp; done) | skip
        rename_i es
        cases pd with
        | sc h => cases h
        | tup hl h =>
          cases pg with
          | sc h => cases h
          | tup hl' h' => exact ⟨true, es, ds, rfl, rfl, hl', hl, _, fun d hd => ⟨h' d hd, rfl⟩, fun d hd => ⟨h d hd, rfl⟩⟩
    have es0 : sameD (seqD b es) (seqD b ds) = sameL es ds := by cases b <;> rfl
    rw [es0] at q
    have lg : ∀ {f : Bool} {G1 : Hp} {y : Option V}, Ex G G1 → Ev K f (tCB (rcLen K) (tCons (tVar 0) tNil)) [some v1, some v2, y] G1 (.int (es.length : Int)) := fun e => ev_cb (ea_cons (hg (f := false) e) ea_nil) c_lenU
    have ld' : ∀ {f : Bool} {G1 : Hp} {y : Option V}, Ex G G1 → Ev K f (tCB (rcLen K) (tCons (tVar 1) tNil)) [some v1, some v2, y] G1 (.int (ds.length : Int)) := fun e => ev_cb (ea_cons (hd (f := false) e) ea_nil) c_lenU
    refine s_ifc (K := K) (x := !decide ((es.length : Int) = (ds.length : Int))) g16.sub (et_test (f := false) (ev_op (f1 := false) (lg g16.e) (ld' g16.e) v_neI)) (fun hx G7 H7 g7 => s_ret (K := K) (f := true) g7.sub ev_bl fun v G' H' g r => q _ v G' H' ?_ ((g16.trans g7).trans g) (r.h2 (g16.trans g7).ext)) (fun h7 G7 H7 g7 => ?_)
    · rw [sameL_len (fun e => by rw [e] at hx; simp at hx)]
    have el : es.length = ds.length := by
      have z : decide ((es.length : Int) = (ds.length : Int)) = true := by simpa using h7
      have := of_decide_eq_true z
      omega
    have g17 := g16.trans g7
    refine s_for (K := K) (xs := rng 0 ds.length) (c := D.int) (S := fun a σ1 G2 σ' => σ' = σ1.set 2 (some (.int a))) g17 ((ei_rng1 (n := (ds.length : Int)) (ea_cons (ld' g17.e) ea_nil) (by omega) (by omega)).is (by congr 1))
      (fun i σ1 G1 H1 => ∃ y, σ1 = [some v1, some v2, y] ∧ ∀ (j : Nat) x z, j < i → es[j]? = some x → ds[j]? = some z → sameD x z = true) ?_ ?_ ?_ ?_
    · intro G' H' g
      exact ⟨none, rfl, fun j x z hj => absurd hj (Nat.not_lt_zero j)⟩
    · rintro a _ i σ1 G2 H2 G3 ⟨y, rfl, _⟩ _
      exact tg_int
    · rintro i a σ1 G2 H2 G3 H3 σ2 ha eG2 g2' ⟨y, rfl, hj⟩ g3' rfl N hN
      have hi : i < ds.length := by
        have := (List.getElem?_eq_some_iff.mp ha).1
        rwa [rng_length] at this
      rw [rng_get hi] at ha
      have ea : a = ((i : Nat) : Int) := by have := Option.some.inj ha; omega
      subst ea
      have e3 := (g17.e.trans eG2).trans g3'.e
      obtain ⟨x, hx⟩ : ∃ x, es[i]? = some x := ⟨_, List.getElem?_eq_getElem (by omega)⟩
      obtain ⟨z, hz⟩ : ∃ z, ds[i]? = some z := ⟨_, List.getElem?_eq_getElem hi⟩
      have px := pe x (List.mem_of_getElem? hx)
      have pz := pds z (List.mem_of_getElem? hz)
      obtain ⟨pz, rfl⟩ := pz
      refine s_if (K := K) (x := !sameD x z) g3'.sub (et_not (et_B (ev_call (f := true) (ea_cons (ev_op (f1 := false) (hg (f := false) e3) (ev_vi rfl) (v_ixU (at_map (c := id) (xs := es) (i := (i : Int)) (by omega) (by simpa using hx)) |> fun z => by simpa using z)) (ea_cons (ev_op (f1 := false) (hd (f := false) e3) (ev_vi rfl) (v_ixU (at_map (c := id) (xs := ds) (i := (i : Int)) (by omega) (by simpa using hz)) |> fun z => by simpa using z)) ea_nil)) (same_use px.1 pz)))) (fun hs G4 H4 g4 => ?_) (fun hs G4 H4 g4 => ?_)
      · exact s_ret (K := K) (f := true) g4.sub ev_bl fun v G' H' g r => q _ v G' H' (by rw [sameL_no hx hz (by simpa using hs)]) (((g2'.trans g3').trans g4).trans g) (r.h2 ((g2'.trans g3').trans g4).ext)
      · refine hN _ G4 H4 (g3'.trans g4).e ((g2'.trans g3').trans g4) ⟨_, rfl, fun j x' z' hj' hx' hz' => ?_⟩
        by_cases ej : j = i
        · subst ej
          rw [hx] at hx'; cases hx'
          rw [hz] at hz'; cases hz'
          simpa using hs
        · exact hj j x' z' (by omega) hx' hz'
    · rintro σ1 G2 H2 eG2 g2' ⟨y, rfl, hj⟩
      rw [rng_length] at hj
      dsimp only
      refine s_ret (K := K) (f := true) g2'.sub ev_bl ?_
      exact fun v G' H' g r => q _ v G' H' (by rw [sameL_yes el fun i x z h1 h2 => hj i x z (List.getElem?_eq_some_iff.mp h2).1 h1 h2]) (g2'.trans g) (r.h2 g2'.ext)
def stopsOk (n : Int) (ns : List Int) : Prop := 2 ≤ ns.length ∧ ns.length ≤ 1000 ∧ (∀ v ∈ ns, 0 ≤ v ∧ v < n) ∧ ns.Pairwise (· < ·)
abbrev sp_law_stops (K : Fr) : Sp := spF K false (fun i : Int × Int => [.pool, .int i.1, .int i.2]) (fun i => 2 ≤ i.1 ∧ i.1 ≤ 1000 ∧ 2 ≤ i.2 ∧ i.2 ≤ 1000) (fun i d => ∃ ns, d = .tup (ns.map .int) ∧ stopsOk i.1 ns)
theorem ok_law_stops {P : Program} {w : World} {K : Fr} {mg : Str → Option Value} {base : Heap} {fa : Addr} {fd : FuncData} (F : L2.Fun K "_law_stops" "_law_stops" s_law_stops fa fd) (B : Bt mg)
    (c_law_draw : C8.Cal P w K mg base 1 "_law_draw" spDrawV []) : FnOk P w K mg base CX0 2 fa fd ["pool", "villages", "widest"] (sp_law_stops K) := by
  refine okF F sc_law_stops (fun _ => rfl) fun cdv A outer s H vs Q E hr i G eG rs pre q => ?_
  obtain ⟨n, wd⟩ := i
  dsimp only at rs pre q
  obtain ⟨v1, v2, v3, rfl, r1, r2, r3⟩ := rs.three
  cases r2
  cases r3
  obtain ⟨h1, h2, h3, h4⟩ := pre
  refine ⟨_, (pss_cons (ps_set (i := 3) sc_law_stops.nd rfl (Or.inl rfl) (pe_op (op_addUK (K := K) rfl) pe_int (C8.pe_c c_law_draw hr (by first | decide | exact Nat.le_refl _) (by rfl) (pa_cons (pv 0) (pa_cons (pe_callB (call_max2 rfl) (by rfl) B.b_max bt_max (pa_cons pe_int (pa_cons (pe_op op_sub (pe_callB (call_min2 rfl) (by rfl) B.b_min bt_min (pa_cons (pv 2) (pa_cons (pv 1) pa_nil))) pe_int) pa_nil))) pa_nil))))) 
  (pss_cons (ps_set (i := 4) sc_law_stops.nd rfl (Or.inl rfl) (pe_listRg rfl (by rfl) B.b_list (prg_1 (by rfl) B.b_range (pv 1)))) 
  (pss_cons (ps_set (i := 5) sc_law_stops.nd rfl (Or.inl rfl) (pe_lst pa_nil)) 
  (pss_cons (ps_for PassesOwn.never rfl (pi_range1 (by rfl) B.b_range (pa_cons (pv 3) pa_nil)) (pg_name (i := 6) sc_law_stops.nd rfl (Or.inl rfl)) (pss_cons (ps_set (i := 7) sc_law_stops.nd rfl (Or.inl rfl) (C8.pe_c c_law_draw hr (by first | decide | exact Nat.le_refl _) (by rfl) (pa_cons (pv 0) (pa_cons (pe_callB (cl_lenK (K := K) rfl) (by rfl) B.b_len bt_len (pa_cons (pv 4) pa_nil)) pa_nil)))) 
  (pss_cons (ps_expr (pe_bm PySem.F.plainAttrs_list PySem.F.slot_list_append PySem.F.type_list_append mt_append (pv 5) (pa_cons (pe_ix (ix_seqK (K := K) rfl) (pv 4) (pv 7) (fun _ _ => rfl)) pa_nil))) 
  (pss_one (ps_set (i := 4) sc_law_stops.nd rfl (Or.inl rfl) (pe_op (op_addUK (K := K) rfl) (pe_slice (sl_UK (K := K) rfl) (pv 4) po_none (po_some (pv 7))) (pe_slice (sl_UK (K := K) rfl) (pv 4) (po_some (pe_op (op_addUK (K := K) rfl) (pv 7) pe_int)) po_none))))))) 
  (pss_one (ps_ret (pe_callTy (cl_tupK (K := K) rfl) (by rfl) B.b_tuple bt_tuple (pa_cons (pe_callB (cr_sortedK (K := K) rfl) (by rfl) B.b_sorted bt_sorted (pa_cons (pv 5) pa_nil)) pa_nil)))))))), ?_⟩
  refine s_asgS (K := K) (f := true) eG (iS_add (p1 := fun j => j = 2) (p2 := fun j => 0 ≤ j ∧ j < max 1 (min wd n - 1)) (p3 := fun j => 2 ≤ j ∧ j ≤ n) (ev_int.toI rfl) (ev_draw (ea_cons (ev_var rfl r1) (ea_cons (ev_cb (ea_cons ev_int (ea_cons (ev_op (f1 := false) (ev_cb (ea_cons (ev_vi rfl) (ea_cons (ev_vi rfl) ea_nil)) rc_min2) ev_int vs_int) ea_nil)) rc_max2) ea_nil)) (by omega) (by omega)) (by omega)) fun d v G1 H1 pd g1 rv => ?_
  obtain ⟨size, rfl, hs1, hs2⟩ := pd
  cases rv
  refine s_asg (K := K) (f := true) g1.sub (ev_listRg (ev_vi rfl) (by omega) (by omega)) fun vL G2 H2 g2 rL => ?_
  refine s_asgL (K := K) (f := true) g2.sub (evl_lst ea_nil (by decide)) fun p us G3 H3 g3 hp0 hn hp ru => ?_
  cases ru
  have g13 := (g1.trans g2).trans g3
  have hp00 : H p = none := (g1.trans g2).free hp0
  refine s_for (K := K) (xs := rng 0 size.toNat) (c := D.int) (S := fun a σ1 G2 σ' => σ' = σ1.set 6 (some (.int a))) g13 (ei_rng1 (n := size) (ea_cons (ev_vi rfl) ea_nil) (by omega) (by omega))
    (fun i σ1 G1 H1 => ∃ (L S : List Int) (vL : V) (y1 y2 : Option V), σ1 = [some v1, some (.int n), some (.int wd), some (.int size), some vL, some (.ref p), y1, y2] ∧ Rep K none G1 (.lst (L.map .int)) vL ∧ G1 p = none ∧ H1 p = some (.lst (S.map V.int)) ∧ S.length = i ∧ (S ++ L).Perm (rng 0 n.toNat)) ?_ ?_ ?_ ?_
  · intro G' H' g
    have z := g.keep hp hn
    exact ⟨_, [], vL, none, none, rfl, rL.old.mono (g3.e.trans g.e), z.2, z.1, rfl, List.Perm.refl _⟩
  · rintro a _ i σ1 G2 H2 G3 ⟨L, S, vL, y1, y2, rfl, _⟩ _
    exact tg_int
  · rintro i a σ1 G4 H4 G5 H5 σ2 ha e4 g4 ⟨L, S, vL, y1, y2, rfl, rl, n4, p4, hl, pm⟩ g5 rfl N hN
    have hi : i < size.toNat := by
      have := (List.getElem?_eq_some_iff.mp ha).1
      rwa [rng_length] at this
    have hlen := pm.length_eq
    rw [List.length_append, rng_length] at hlen
    have z5 := g5.keep p4 n4
    have eb := ((g13.e.trans e4).trans g5.e)
    refine s_asgS (K := K) (f := true) g5.sub (ev_draw (many := (L.length : Int)) (ea_cons (ev_var rfl (r1.mono eb)) (ea_cons (Ev.is (ev_cb (ea_cons (ev_var rfl (rl.mono g5.e)) ea_nil) c_lenL) (by rw [List.length_map])) ea_nil)) (by omega) (by omega)) fun d v G6 H6 pd g6 rv => ?_
    obtain ⟨at', rfl, ha1, ha2⟩ := pd
    cases rv
    have z6 := g6.keep z5.1 z5.2
    obtain ⟨k, rfl⟩ : ∃ k : Nat, at' = (k : Int) := ⟨at'.toNat, by omega⟩
    have hx : L[k]? = some (ix L k) := ix_get (i := (k : Int)) ha1 ha2
    refine s_app (K := K) (f := false) (P := fun d => d = .int (ix L k)) g6.sub rfl z6.1 z6.2 (by rw [List.length_map]; omega) (ev_op (f1 := false) (ev_var rfl (rl.mono (g5.e.trans g6.e))) (ev_vi rfl) (v_ixL (at_int ha1 ha2))).toS fun d v G7 H7 pd g7 rv h7 n7 => ?_
    subst pd
    cases rv
    have e7 := (g5.e.trans g6.e).trans g7.e
    refine s_asg (K := K) (f := false) (d := .lst ((L.take k ++ L.drop (k + 1)).map .int)) (g7.sub.mut n7) (Ev.is (ev_op (f1 := false) (ev_slU (ev_var rfl (rl.mono e7)) eo_none (eo_some (ev_vi rfl))) (ev_slU (ev_var rfl (rl.mono e7)) (eo_some (i := ((k + 1 : Nat) : Int)) (Ev.is (ev_op (f1 := false) (ev_vi rfl) ev_int va_int) (by simp))) eo_none) (va_lstO ?_)) ?_) fun v8 G8 H8 g8 r8 => ?_
    · have q1 := cutD_length (L.map D.int) none (some (k : Int))
      have q2 := cutD_length (L.map D.int) (some ((k + 1 : Nat) : Int)) none
      rw [List.length_map] at q1 q2
      omega
    · rw [cutD_to (by rw [List.length_map]; omega), cutD_from (by rw [List.length_map]; omega), List.map_append, List.map_take, List.map_drop]
    · have z8 := g8.keep upd_same n7
      have gg : Grow G H G8 H8 := ((((g4.trans g5).trans g6).trans g7).put hp00 n7).trans g8
      refine hN _ G8 H8 (e7.trans g8.e) gg ⟨_, S ++ [ix L k], v8, _, _, rfl, r8, z8.2, by rw [List.map_append]; exact z8.1, by rw [List.length_append, hl]; rfl, ?_⟩
      rw [List.append_assoc]
      exact (List.Perm.append_left S (perm_pick hx)).trans pm
  · rintro σ1 G4 H4 e4 g4 ⟨L, S, vL, y1, y2, rfl, rl, n4, p4, hl, pm⟩
    rw [rng_length] at hl
    dsimp only
    refine s_retH (K := K) (G := G4) (f := false) (P := fun d => ∃ ns : List Int, d = .tup (ns.map .int) ∧ ns.Perm S ∧ ns.Pairwise (· ≤ ·)) ?_ fun d v G5 H5 pd g5 rv => ?_
    · refine fun Q' q' => ?_
      refine (evS_cb (f := false) (P := fun d => ∃ zs : List Int, d = .lst (zs.map .int) ∧ zs.Perm S ∧ zs.Pairwise (· ≤ ·)) (G := upd G4 p (.lst (S.map V.int))) (ea_cons (ev_var (d := .lst (S.map .int)) rfl (rep_ownN n4 (RepA.ofInts S))) ea_nil).toS (by rintro _ rfl; exact rcS_sorted)) H4 (ex_own p4 g4.sub) _ fun d v G5 H5 pd g5 rv => ?_
      obtain ⟨zs, rfl, hz1, hz2⟩ := pd
      obtain ⟨x, us, rfl, _, hx, ru⟩ := rv.lst_inv
      have hu := ru.ints
      subst hu
      refine ⟨x, _, rfl, Or.inl ⟨SqL.of (g5.sub _ _ hx), fun l hl => ?_⟩⟩
      have gf := Grow.forget n4 g4.sub g5
      exact q' _ (.ref l) _ _ ⟨zs, rfl, hz1, hz2⟩ (gf.trans (Grow.laid (o := .tup (zs.map V.int)) gf.sub hl)) (.tup (Evl.ex_t (Ex.refl _) (SqT.of upd_same)) (RepA.ofInts zs))
    · obtain ⟨ns, rfl, hp1, hp2⟩ := pd
      have hlen := hp1.length_eq
      have hnd : (S ++ L).Nodup := pm.symm.nodup_iff.mp (rng_nodup _ _) 
      have hnS : ns.Nodup := hp1.symm.nodup_iff.mp (List.Nodup.sublist (List.sublist_append_left S L) hnd)
      have hlen2 := pm.length_eq
      rw [List.length_append, rng_length] at hlen2
      refine q _ v G5 H5 ⟨ns, rfl, by omega, by omega, fun v hv => ?_, ?_⟩ (g4.trans g5) (rv.h2 g4.ext)
      · have := mem_rng.mp (pm.mem_iff.mp (List.mem_append_left L (hp1.mem_iff.mp hv)))
        omega
      · have z := List.pairwise_and_iff.mpr ⟨hp2, hnS⟩
        exact z.imp fun {a b} h => by have := h.1; have := h.2; omega
abbrev sp_law_great (K : Fr) : Sp := spF K true (fun i : Int => [.pool, .int i]) (fun i => 1 ≤ i ∧ i ≤ 2 ^ 60) (fun i d => IntP (fun j => 1 ≤ j ∧ j ≤ i) d)
theorem ok_law_great {P : Program} {w : World} {K : Fr} {mg : Str → Option Value} {base : Heap} {fa : Addr} {fd : FuncData} (F : L2.Fun K "_law_great" "_law_great" s_law_great fa fd) (B : Bt mg)
    (c_law_draw : C8.Cal P w K mg base 1 "_law_draw" spDrawV []) : FnOk P w K mg base CX0 2 fa fd ["pool", "top"] (sp_law_great K) := by
  refine okF F sc_law_great (fun _ => rfl) fun cdv A outer s H vs Q E hr top G eG rs pre q => ?_
  obtain ⟨v1, v2, rfl, r1, r2⟩ := rs.two
  cases r2
  obtain ⟨h1, h2⟩ := pre
  have dr : ∀ {f : Bool} {E : XK} {te : TE} {G1 : Hp} {y : Option V} {m : Int}, Ex G G1 → Ev K false te [some v1, some (.int top), y] G1 (.int m) → 0 < m → m < 2 ^ 200 → EvS K f (tCall spDrawV [] E (tCons (tVar 0) (tCons te tNil))) [some v1, some (.int top), y] G1 (IntP fun i => 0 ≤ i ∧ i < m) := fun e h a b => ev_draw (ea_cons (ev_var rfl (r1.mono e)) (ea_cons h ea_nil)) a b
  refine ⟨_, (pss_cons (ps_set (i := 2) sc_law_great.nd rfl (Or.inl rfl) (C8.pe_c c_law_draw hr (by first | decide | exact Nat.le_refl _) (by rfl) (pa_cons (pv 0) (pa_cons pe_int pa_nil)))) 
  (pss_cons (ps_if (pt_cmpR (op_eqUK (K := K) rfl hr.units) (pv 2) pe_int (nomark _)) (pss_one (ps_ret (pv 1))) pss_nil) 
  (pss_cons (ps_if (pt_cmpR (op_eqUK (K := K) rfl hr.units) (pv 2) pe_int (nomark _)) (pss_one (ps_ret (pe_callB (call_max2 rfl) (by rfl) B.b_max bt_max (pa_cons pe_int (pa_cons (pe_op op_sub (pe_op op_sub (pv 1) pe_int) (C8.pe_c c_law_draw hr (by first | decide | exact Nat.le_refl _) (by rfl) (pa_cons (pv 0) (pa_cons pe_int pa_nil)))) pa_nil))))) pss_nil) 
  (pss_cons (ps_if (pt_cmpR (op_eqUK (K := K) rfl hr.units) (pv 2) pe_int (nomark _)) (pss_one (ps_ret (pe_op (op_addUK (K := K) rfl) pe_int (pe_op op_modN (pe_callTy cl_int (by rfl) B.b_int bt_int (pa_cons (pe_op (op_addUK (K := K) rfl) (pe_op op_mulU (C8.pe_c c_law_draw hr (by first | decide | exact Nat.le_refl _) (by rfl) (pa_cons (pv 0) (pa_cons pe_int pa_nil))) pe_int) (C8.pe_c c_law_draw hr (by first | decide | exact Nat.le_refl _) (by rfl) (pa_cons (pv 0) (pa_cons pe_int pa_nil)))) pa_nil)) (pv 1))))) pss_nil) 
  (pss_one (ps_ret (pe_op (op_addUK (K := K) rfl) pe_int (C8.pe_c c_law_draw hr (by first | decide | exact Nat.le_refl _) (by rfl) (pa_cons (pv 0) (pa_cons (pe_callB (call_min2 rfl) (by rfl) B.b_min bt_min (pa_cons pe_int (pa_cons (pv 1) pa_nil))) pa_nil)))))))))), ?_⟩
  refine s_asgS (K := K) (f := true) eG (dr (Ex.refl _) ev_int (by decide) (by decide)) fun d v G1 H1 pd g1 rv => ?_
  obtain ⟨way, rfl, hw⟩ := pd
  cases rv
  refine s_ifc (K := K) (x := decide (way = 0)) g1.sub (et_test (f := false) (ev_op (f1 := false) (ev_vi rfl) ev_int v_eqI)) (fun hx G2 H2 g2 => ?_) (fun hx G2 H2 g2 => ?_)
  · exact s_ret (K := K) (f := true) g2.sub (ev_vi rfl) fun v G' H' g r => q _ v G' H' ⟨top, rfl, by omega⟩ ((g1.trans g2).trans g) (r.h2 (g1.trans g2).ext)
  have g12 := g1.trans g2
  refine s_ifc (K := K) (x := decide (way = 1)) g2.sub (et_test (f := false) (ev_op (f1 := false) (ev_vi rfl) ev_int v_eqI)) (fun hx G3 H3 g3 => ?_) (fun hx G3 H3 g3 => ?_)
  · have e3 := g12.e.trans g3.e
    refine s_retS (K := K) (f := true) g3.sub (iS_max (p1 := fun j => j = 1) (p2 := fun j => j ≤ top - 1) (p3 := fun j => 1 ≤ j ∧ j ≤ top) (ev_int.toI rfl) (iS_sub (p1 := fun j => j = top - 1) (p2 := fun j => 0 ≤ j ∧ j < 3) ((ev_op (f1 := false) (ev_vi rfl) ev_int vs_int).toI rfl) (dr e3 ev_int (by decide) (by decide)) (by omega)) (by omega)) fun d v G' H' pd g r => q _ v G' H' pd ((g12.trans g3).trans g) (r.h2 (g12.trans g3).ext)
  have g13 := g12.trans g3
  refine s_ifc (K := K) (x := decide (way = 2)) g3.sub (et_test (f := false) (ev_op (f1 := false) (ev_vi rfl) ev_int v_eqI)) (fun hx G4 H4 g4 => ?_) (fun hx G4 H4 g4 => ?_)
  · have e4 := g13.e.trans g4.e
    refine s_retS (K := K) (f := true) g4.sub (iS_add (p1 := fun j => j = 1) (p2 := fun j => 0 ≤ j ∧ j < top) (p3 := fun j => 1 ≤ j ∧ j ≤ top) (ev_int.toI rfl) (iS_mod (p1 := fun j => 0 ≤ j) (p2 := fun j => j = top) (iS_int (iS_add (p1 := fun j => 0 ≤ j) (p2 := fun j => 0 ≤ j ∧ j < 1000000) (iS_mul (p1 := fun j => 0 ≤ j ∧ j < 1000000) (p2 := fun j => j = 1000000) (dr e4 ev_int (by decide) (by decide)) (ev_int.toI rfl) ?_) (dr e4 ev_int (by decide) (by decide)) (by omega))) ((ev_vi rfl).toI rfl) ?_) (by omega)) fun d v G' H' pd g r => q _ v G' H' pd ((g13.trans g4).trans g) (r.h2 (g13.trans g4).ext)
    · rintro i j hi rfl
      exact ⟨.inl ⟨by omega, by omega⟩, by omega⟩
    · rintro i j hi rfl
      exact ⟨by omega, Int.emod_nonneg _ (by omega), Int.emod_lt_of_pos _ (by omega)⟩
  · have e4 := g13.e.trans g4.e
    refine s_retS (K := K) (f := true) g4.sub (iS_add (p1 := fun j => j = 1) (p2 := fun j => 0 ≤ j ∧ j < min 6 top) (p3 := fun j => 1 ≤ j ∧ j ≤ top) (ev_int.toI rfl) (dr e4 (ev_cb (ea_cons ev_int (ea_cons (ev_vi rfl) ea_nil)) rc_min2) (by omega) (by omega)) (by omega)) fun d v G' H' pd g r => q _ v G' H' pd ((g13.trans g4).trans g) (r.h2 (g13.trans g4).ext)
/-- the heads at each village -/
def sumAt (heads placing : List Int) (v : Int) : Int := (((rng 0 heads.length).filter fun k => decide (ix placing k = v)).map (ix heads)).sum
def sumsOf (n : Int) (heads placing : List Int) : List Int := (rng 0 n.toNat).map (sumAt heads placing)
abbrev sp_law_sums (K : Fr) : Sp := spF K true (fun i : Int × List Int × List Int => [.int i.1, .lst (i.2.1.map .int), .lst (i.2.2.map .int)]) (fun i => 0 ≤ i.1 ∧ i.1 ≤ 1000 ∧ i.2.1.length ≤ 1000 ∧ i.2.1.length = i.2.2.length) (fun i d => d = .lst ((sumsOf i.1 i.2.1 i.2.2).map .int))
theorem ok_law_sums {P : Program} {w : World} {K : Fr} {mg : Str → Option Value} {base : Heap} {fa : Addr} {fd : FuncData} (F : L2.Fun K "_law_sums" "_law_sums" s_law_sums fa fd) (B : Bt mg) : FnOk P w K mg base CX0 1 fa fd ["villages", "heads", "placing"] (sp_law_sums K) := by
  refine okF F sc_law_sums (fun _ => rfl) fun cdv A outer s H vs Q E hr i G eG rs pre q => ?_
  obtain ⟨n, heads, placing⟩ := i
  dsimp only at rs pre q
  obtain ⟨v1, v2, v3, rfl, r1, r2, r3⟩ := rs.three
  cases r1
  obtain ⟨h0, h1, h2, h3⟩ := pre
  refine ⟨_, (pss_one (ps_ret (pe_lc (own := [("v", 4)]) rfl sc_law_sums.nd (pi_range1 (by rfl) B.b_range (pa_cons (pv 0) pa_nil)) (blkOk_by (by kernel_rfl)) (fun _ _ _ _ _ => (pg_name (i := 4) sc_law_sums.nd rfl (Or.inr rfl))) (fun _ _ _ _ _ => pts_nil) (fun _ _ _ _ _ => (pe_callB (cr_sumK (K := K) rfl rfl) (by rfl) B.b_sum bt_sum (pa_cons (pe_lc (own := [("k", 3)]) rfl sc_law_sums.nd (pi_range1 (by rfl) B.b_range (pa_cons (pe_callB (cl_lenK (K := K) rfl) (by rfl) B.b_len bt_len (pa_cons (pv 1) pa_nil)) pa_nil)) (blkOk_by (by kernel_rfl)) (fun _ _ _ _ _ => (pg_name (i := 3) sc_law_sums.nd rfl (Or.inl rfl))) (fun _ _ _ _ _ => (pts_one (pt_cmpR (op_eqUK (K := K) rfl hr.units) (pe_ix (ix_seqK (K := K) rfl) (pv 2) (pv 3) (fun _ _ => rfl)) (pv 4) (nomark _)))) (fun _ _ _ _ _ => (pe_ix (ix_seqK (K := K) rfl) (pv 1) (pv 3) (fun _ _ => rfl)))) pa_nil)))))), ?_⟩
  refine s_ret (K := K) (f := true) eG (ev_intLc0 (h := sumAt heads placing) (ei_rng1 (n := n) (ea_cons (ev_vi rfl) ea_nil) (by omega) (by omega)) (by rw [rng_length]; omega)
    (S := fun a G1 σ' => σ' = [some (.int n), some v2, some v3, none, some (.int a)]) (by rintro a G1 σ' rfl; rfl) (fun a _ G1 _ => tg_int) (fun a ma G1 e1 σ' hs => ?_)) fun v G' H' g r => q _ v G' H' rfl g r
  subst hs
  refine ev_sumLc (b := fun k => decide (ix placing k = a)) (h := ix heads) (xs := rng 0 heads.length) (c := D.int) ((ei_rng1 (n := (heads.length : Int)) (ea_cons (Ev.is (ev_cb (ea_cons (ev_var rfl (r2.mono e1)) ea_nil) c_lenL) (by rw [List.length_map])) ea_nil) (by omega) (by omega)).is (by congr 1)) (by rw [rng_length]; omega)
    (S := fun b G1 σ' => σ' = [some (.int n), some v2, some v3, some (.int b), some (.int a)]) (by rintro a G1 σ' rfl; rfl) (fun b _ G2 _ => tg_int) (fun b mb G2 e2 σ' hs => ?_) (fun b mb _ G2 e2 σ' hs => ?_)
  · subst hs
    have := mem_rng.mp mb
    exact et_test (f := false) (ev_op (f1 := false) (ev_op (f1 := false) (ev_var rfl (r3.mono (e1.trans e2))) (ev_vi rfl) (v_ixL (at_int (by omega) (by omega)))) (ev_vi rfl) v_eqI)
  · subst hs
    have := mem_rng.mp mb
    exact ev_op (f1 := false) (ev_var rfl (r2.mono (e1.trans e2))) (ev_vi rfl) (v_ixL (at_int (by omega) (by omega)))
abbrev sp_law_size (K : Fr) : Sp := spF K true (fun i : Int × Int => [.pool, .int i.1, .int i.2]) (fun i => 1 ≤ i.1 ∧ i.1 ≤ 1000 ∧ 1 ≤ i.2 ∧ i.2 ≤ 1000) (fun i d => IntP (fun j => 0 ≤ j ∧ j ≤ max i.1 (i.2 - 1)) d)
theorem ok_law_size {P : Program} {w : World} {K : Fr} {mg : Str → Option Value} {base : Heap} {fa : Addr} {fd : FuncData} (F : L2.Fun K "_law_size" "_law_size" s_law_size fa fd) (B : Bt mg)
    (c_law_draw : C8.Cal P w K mg base 1 "_law_draw" spDrawV []) : FnOk P w K mg base CX0 2 fa fd ["pool", "small", "large"] (sp_law_size K) := by
  refine okF F sc_law_size (fun _ => rfl) fun cdv A outer s H vs Q E hr i G eG rs pre q => ?_
  obtain ⟨sm, lg⟩ := i
  dsimp only at rs pre q
  obtain ⟨v1, v2, v3, rfl, r1, r2, r3⟩ := rs.three
  cases r2
  cases r3
  obtain ⟨h1, h2, h3, h4⟩ := pre
  refine ⟨_, (pss_cons (ps_if (pt_cmpR (op_eqUK (K := K) rfl hr.units) (C8.pe_c c_law_draw hr (by first | decide | exact Nat.le_refl _) (by rfl) (pa_cons (pv 0) (pa_cons pe_int pa_nil))) pe_int (nomark _)) (pss_one (ps_ret (C8.pe_c c_law_draw hr (by first | decide | exact Nat.le_refl _) (by rfl) (pa_cons (pv 0) (pa_cons (pv 2) pa_nil))))) pss_nil) 
  (pss_one (ps_ret (pe_op (op_addUK (K := K) rfl) pe_int (C8.pe_c c_law_draw hr (by first | decide | exact Nat.le_refl _) (by rfl) (pa_cons (pv 0) (pa_cons (pv 1) pa_nil))))))), ?_⟩
  refine s_ifcS (K := K) (T := fun _ => True) eG (etS_eq (ev_draw (ea_cons (ev_var rfl r1) (ea_cons ev_int ea_nil)) (by decide) (by decide)) (ev_int.toI (p := fun j => j = 0) rfl) (fun i j => v_eqI) (fun _ _ _ _ => trivial)) (fun _ G1 H1 g1 => ?_) (fun _ G1 H1 g1 => ?_)
  · exact s_retS (K := K) (f := true) g1.sub (ev_draw (ea_cons (ev_var rfl (r1.mono g1.e)) (ea_cons (ev_vi rfl) ea_nil)) (by omega) (by omega)) fun d v G' H' pd g r => q _ v G' H' (by obtain ⟨j, rfl, hj⟩ := pd; exact ⟨j, rfl, by omega⟩) (g1.trans g) (r.h2 g1.ext)
  · exact s_retS (K := K) (f := true) g1.sub (iS_add (p1 := fun j => j = 1) (p2 := fun j => 0 ≤ j ∧ j < sm) (p3 := fun j => 0 ≤ j ∧ j ≤ sm) (ev_int.toI rfl) (ev_draw (ea_cons (ev_var rfl (r1.mono g1.e)) (ea_cons (ev_vi rfl) ea_nil)) (by omega) (by omega)) (by omega)) fun d v G' H' pd g r => q _ v G' H' (by obtain ⟨j, rfl, hj⟩ := pd; exact ⟨j, rfl, by omega⟩) (g1.trans g) (r.h2 g1.ext)
abbrev sp_law_entry (K : Fr) : Sp := spF K true (fun i : Unit => [.pool]) (fun i => True) (fun i d => IntP (fun j => 0 ≤ j ∧ j ≤ 100000000000000) d)
theorem ok_law_entry {P : Program} {w : World} {K : Fr} {mg : Str → Option Value} {base : Heap} {fa : Addr} {fd : FuncData} (F : L2.Fun K "_law_entry" "_law_entry" s_law_entry fa fd) (B : Bt mg)
    (c_law_draw : C8.Cal P w K mg base 1 "_law_draw" spDrawV []) : FnOk P w K mg base CX0 2 fa fd ["pool"] (sp_law_entry K) := by
  refine okF F sc_law_entry (fun _ => rfl) fun cdv A outer s H vs Q E hr top G eG rs pre q => ?_
  obtain ⟨v1, rfl, r1⟩ := rs.one
  have dr : ∀ {f : Bool} {E : XK} {te : TE} {G1 : Hp} {y : Option V} {m : Int}, Ex G G1 → Ev K false te [some v1, y] G1 (.int m) → 0 < m → m < 2 ^ 200 → EvS K f (tCall spDrawV [] E (tCons (tVar 0) (tCons te tNil))) [some v1, y] G1 (IntP fun i => 0 ≤ i ∧ i < m) := fun e h a b => ev_draw (ea_cons (ev_var rfl (r1.mono e)) (ea_cons h ea_nil)) a b
  have p14 : ∀ {f : Bool} {G1 : Hp} {y : Option V}, Ev K f (tOp (rI CPow fun i j => .int (i ^ j.toNat)) (tC (.int 10)) (tC (.int 14))) [some v1, y] G1 (.int 100000000000000) := Ev.is (ev_op (f1 := false) ev_int ev_int (vp_int ⟨by decide, by decide, by decide⟩)) (congrArg D.int (by decide))
  refine ⟨_, (pss_cons (ps_set (i := 1) sc_law_entry.nd rfl (Or.inl rfl) (C8.pe_c c_law_draw hr (by first | decide | exact Nat.le_refl _) (by rfl) (pa_cons (pv 0) (pa_cons pe_int pa_nil)))) 
  (pss_cons (ps_if (pt_cmpR (op_eqUK (K := K) rfl hr.units) (pv 1) pe_int (nomark _)) (pss_one (ps_ret pe_int)) pss_nil) 
  (pss_cons (ps_if (pt_cmpR (op_eqUK (K := K) rfl hr.units) (pv 1) pe_int (nomark _)) (pss_one (ps_ret (pe_op op_sub (pe_op op_pow pe_int pe_int) (C8.pe_c c_law_draw hr (by first | decide | exact Nat.le_refl _) (by rfl) (pa_cons (pv 0) (pa_cons pe_int pa_nil)))))) pss_nil) 
  (pss_cons (ps_if (pt_cmpR (op_eqUK (K := K) rfl hr.units) (pv 1) pe_int (nomark _)) (pss_one (ps_ret (C8.pe_c c_law_draw hr (by first | decide | exact Nat.le_refl _) (by rfl) (pa_cons (pv 0) (pa_cons (pe_op (op_addUK (K := K) rfl) (pe_op op_pow pe_int pe_int) pe_int) pa_nil))))) pss_nil) 
  (pss_one (ps_ret (C8.pe_c c_law_draw hr (by first | decide | exact Nat.le_refl _) (by rfl) (pa_cons (pv 0) (pa_cons pe_int pa_nil))))))))), ?_⟩
  refine s_asgS (K := K) (f := true) eG (dr (Ex.refl _) ev_int (by decide) (by decide)) fun d v G1 H1 pd g1 rv => ?_
  obtain ⟨way, rfl, hw⟩ := pd
  cases rv
  refine s_ifc (K := K) (x := decide (way = 0)) g1.sub (et_test (f := false) (ev_op (f1 := false) (ev_vi rfl) ev_int v_eqI)) (fun hx G2 H2 g2 => ?_) (fun hx G2 H2 g2 => ?_)
  · exact s_ret (K := K) (f := true) g2.sub ev_int fun v G' H' g r => q _ v G' H' ⟨_, rfl, by omega⟩ ((g1.trans g2).trans g) (r.h2 (g1.trans g2).ext)
  have g12 := g1.trans g2
  refine s_ifc (K := K) (x := decide (way = 1)) g2.sub (et_test (f := false) (ev_op (f1 := false) (ev_vi rfl) ev_int v_eqI)) (fun hx G3 H3 g3 => ?_) (fun hx G3 H3 g3 => ?_)
  · refine s_retS (K := K) (f := true) g3.sub (iS_sub (p1 := fun j => j = 100000000000000) (p2 := fun j => 0 ≤ j ∧ j < 3) (p3 := fun j => 0 ≤ j ∧ j ≤ 100000000000000) (p14.toI rfl) (dr (g12.e.trans g3.e) ev_int (by decide) (by decide)) (by omega)) fun d v G' H' pd g r => q _ v G' H' pd ((g12.trans g3).trans g) (r.h2 (g12.trans g3).ext)
  have g13 := g12.trans g3
  refine s_ifc (K := K) (x := decide (way = 2)) g3.sub (et_test (f := false) (ev_op (f1 := false) (ev_vi rfl) ev_int v_eqI)) (fun hx G4 H4 g4 => ?_) (fun hx G4 H4 g4 => ?_)
  · refine s_retS (K := K) (f := true) g4.sub (dr (g13.e.trans g4.e) (ev_op (f1 := false) p14 ev_int va_int) (by decide) (by decide)) fun d v G' H' pd g r => q _ v G' H' (by obtain ⟨j, rfl, hj⟩ := pd; exact ⟨j, rfl, by omega⟩) ((g13.trans g4).trans g) (r.h2 (g13.trans g4).ext)
  · refine s_retS (K := K) (f := true) g4.sub (dr (g13.e.trans g4.e) ev_int (by decide) (by decide)) fun d v G' H' pd g r => q _ v G' H' (by obtain ⟨j, rfl, hj⟩ := pd; exact ⟨j, rfl, by omega⟩) ((g13.trans g4).trans g) (r.h2 (g13.trans g4).ext)
/-- a line that Region takes -/
def lineOk (n : Int) (l : Line) : Prop := stopsOk n l.1 ∧ 1 ≤ l.2 ∧ l.2 ≤ 1000000000000
abbrev sp_law_rows (K : Fr) : Sp := spF K false (fun i : Int × Int => [.pool, .int i.1, .int i.2]) (fun i => 1 ≤ i.1 ∧ i.1 ≤ 1000 ∧ 0 ≤ i.2 ∧ i.2 ≤ 1000) (fun i d => ∃ ls : List Line, d = .lst (ls.map lineD) ∧ ls.length ≤ 1000 ∧ ∀ l ∈ ls, lineOk i.1 l)
theorem ok_law_rows {P : Program} {w : World} {K : Fr} {mg : Str → Option Value} {base : Heap} {fa : Addr} {fd : FuncData} (F : L2.Fun K "_law_rows" "_law_rows" s_law_rows fa fd) (B : Bt mg)
    (c_law_draw : C8.Cal P w K mg base 1 "_law_draw" spDrawV []) (c_law_stops : C8.Cal P w K mg base 2 "_law_stops" (sp_law_stops K) []) (c_law_great : C8.Cal P w K mg base 2 "_law_great" (sp_law_great K) []) : FnOk P w K mg base CX0 3 fa fd ["pool", "villages", "many"] (sp_law_rows K) := by
  refine okF F sc_law_rows (fun _ => rfl) fun cdv A outer s H vs Q E hr i G eG rs pre q => ?_
  obtain ⟨n, many⟩ := i
  dsimp only at rs pre q
  obtain ⟨v1, v2, v3, rfl, r1, r2, r3⟩ := rs.three
  cases r2
  cases r3
  obtain ⟨h1, h2, h3, h4⟩ := pre
  have hb : many * (if decide (1 < n) = true then 1 else 0) = if 1 < n then many else 0 := by
    by_cases hn : 1 < n
    · rw [if_pos (decide_eq_true hn), if_pos hn, Int.mul_one]
    · rw [if_neg (by rw [decide_eq_false hn]; decide), if_neg hn, Int.mul_zero]
  refine ⟨_, (pss_cons (ps_set (i := 3) sc_law_rows.nd rfl (Or.inl rfl) (pe_lst pa_nil)) 
  (pss_cons (ps_for PassesOwn.never rfl (pi_range1 (by rfl) B.b_range (pa_cons (pe_op op_mulU (pv 2) (pe_callTy cl_int (by rfl) B.b_int bt_int (pa_cons (pe_cmpR op_gt (pv 1) pe_int (nomark _)) pa_nil))) pa_nil)) (pg_name (i := 4) sc_law_rows.nd rfl (Or.inl rfl)) (pss_one (ps_if (PW.pt (pw_and (pt_cmpR op_gt (pe_callB (cl_lenK (K := K) rfl) (by rfl) B.b_len bt_len (pa_cons (pv 3) pa_nil)) pe_int (nomark _)) (pw_and1 (pt_cmpR (op_eqUK (K := K) rfl hr.units) (C8.pe_c c_law_draw hr (by first | decide | exact Nat.le_refl _) (by rfl) (pa_cons (pv 0) (pa_cons pe_int pa_nil))) pe_int (nomark _))))) (pss_one (ps_expr (pe_bm PySem.F.plainAttrs_list PySem.F.slot_list_append PySem.F.type_list_append mt_append (pv 3) (pa_cons (pe_ix (ix_seqK (K := K) rfl) (pv 3) (C8.pe_c c_law_draw hr (by first | decide | exact Nat.le_refl _) (by rfl) (pa_cons (pv 0) (pa_cons (pe_callB (cl_lenK (K := K) rfl) (by rfl) B.b_len bt_len (pa_cons (pv 3) pa_nil)) pa_nil))) (fun _ _ => rfl)) pa_nil)))) (pss_one (ps_expr (pe_bm PySem.F.plainAttrs_list PySem.F.slot_list_append PySem.F.type_list_append mt_append (pv 3) (pa_cons (pe_tup (pa_cons (C8.pe_c c_law_stops hr (by first | decide | exact Nat.le_refl _) (by rfl) (pa_cons (pv 0) (pa_cons (pv 1) (pa_cons pe_int pa_nil)))) (pa_cons (C8.pe_c c_law_great hr (by first | decide | exact Nat.le_refl _) (by rfl) (pa_cons (pv 0) (pa_cons (pe_op op_pow pe_int pe_int) pa_nil))) pa_nil))) pa_nil))))))) 
  (pss_one (ps_ret (pv 3))))), ?_⟩
  refine s_asgL (K := K) (f := false) eG (evl_lst ea_nil (by decide)) fun p us G1 H1 g1 hp0 hn hp ru => ?_
  cases ru
  refine s_for (K := K) (xs := rng 0 (if 1 < n then many else 0).toNat) (c := D.int) (S := fun a σ1 G2 σ' => σ' = σ1.set 4 (some (.int a))) g1 ((ei_rng1 (n := many * (if decide (1 < n) = true then 1 else 0)) (ea_cons (ev_op (f1 := false) (ev_vi rfl) (ev_cb (ea_cons (ev_op (f1 := false) (ev_vi rfl) ev_int v_gt) ea_nil) c_intB) (vm_int (.inr (by constructor <;> split <;> decide)))) ea_nil) (by rw [hb]; split <;> omega) (by rw [hb]; split <;> omega)).is (by rw [hb]))
    (fun i σ1 G1 H1 => ∃ (ls : List Line) (us : List V) (y : Option V), σ1 = [some v1, some (.int n), some (.int many), some (.ref p), y] ∧ RepA K none G1 (ls.map lineD) us ∧ G1 p = none ∧ H1 p = some (.lst us) ∧ ls.length = i ∧ ∀ l ∈ ls, lineOk n l) ?_ ?_ ?_ ?_
  · intro G' H' g
    have z := g.keep hp hn
    exact ⟨[], [], none, rfl, .nil, z.2, z.1, rfl, fun l hl => by cases hl⟩
  · rintro a _ i σ1 G2 H2 G3 ⟨ls, us, y, rfl, _⟩ _
    exact tg_int
  · rintro i a σ1 G4 H4 G5 H5 σ2 ha e4 g4 ⟨ls, us, y, rfl, ru, n4, p4, hl, hg⟩ g5 rfl N hN
    have hi : i < (if 1 < n then many else 0).toNat := by
      have := (List.getElem?_eq_some_iff.mp ha).1
      rwa [rng_length] at this
    have hn1 : 1 < n := by
      by_cases hn : 1 < n
      · exact hn
      · rw [if_neg hn] at hi; omega
    rw [if_pos hn1] at hi
    have z5 := g5.keep p4 n4
    have e5 := ((g1.e.trans e4).trans g5.e)
    have lu := ru.length
    rw [List.length_map] at lu
    have lenO : ∀ {f : Bool} {G' : Hp} {z : Option V}, Ex G5 G' → G' p = none → Ev K f (tCB (rcLen K) (tCons (tVar 3) tNil)) [some v1, some (.int n), some (.int many), some (.ref p), z] (upd G' p (.lst us)) (.int (ls.length : Int)) := fun e hn => Ev.is (ev_cb (ea_cons (ev_var rfl (rep_ownN hn (ru.mono (g5.e.trans e)))) ea_nil) c_lenL) (by rw [List.length_map])
    refine s_ifH (K := K) (T := fun b => b = true → 0 < ls.length) (eth_own z5.1 z5.2 g5.sub ((etS_and (T1 := fun b => b = decide ((0 : Int) < (ls.length : Int))) (T2 := fun _ => True) (EvT.toS (et_test (f := false) (ev_op (f1 := false) (lenO (Ex.refl _) z5.2) ev_int v_gt))) fun _ => etS_eq (ev_draw (ea_cons (ev_var rfl (r1.mono (e5.trans (Ex.new z5.2)))) (ea_cons ev_int ea_nil)) (by decide) (by decide)) (ev_int.toI (p := fun j => j = 0) rfl) (fun i j => v_eqI) (fun _ _ _ _ => trivial)).imp fun b h hb => by have := of_decide_eq_true (h hb).1.symm; omega)) (fun hx G6 H6 g6 => ?_) (fun hx G6 H6 g6 => ?_)
    · have hx' := hx rfl
      have z6 := g6.keep z5.1 z5.2
      refine s_appH (K := K) (P := fun d => ∃ l ∈ ls, d = lineD l) rfl z6.1 z6.2 (by omega) (eh_ixOwn (p := fun j => 0 ≤ j ∧ j < (ls.length : Int)) rfl z6.1 (ru.mono (g5.e.trans g6.e)) (eh_own z6.1 z6.2 g6.sub (ev_draw (ea_cons (ev_var rfl (r1.mono ((e5.trans g6.e).trans (Ex.new z6.2)))) (ea_cons (lenO g6.e z6.2) ea_nil)) (by omega) (by omega)) (by rintro _ ⟨j, rfl, _⟩; rfl)) ?_) fun d v G7 H7 pd g7 rv h7 n7 => ?_
      · rintro j ⟨j1, j2⟩
        obtain ⟨l, hl⟩ : ∃ l, ls[j.toNat]? = some l := ⟨_, List.getElem?_eq_getElem (by omega)⟩
        exact ⟨_, at_map j1 hl, l, List.mem_of_getElem? hl, rfl⟩
      · obtain ⟨l, ml, rfl⟩ := pd
        refine hN _ G7 _ ((g5.e.trans g6.e).trans g7.e) ((((g4.trans g5).trans g6).trans g7).put hp0 n7) ⟨ls ++ [l], us ++ [v], _, rfl, ?_, n7, upd_same, by rw [List.length_append, hl]; rfl, ?_⟩
        · rw [List.map_append]
          exact (ru.mono ((g5.e.trans g6.e).trans g7.e)).append (.cons rv .nil)
        · intro x hx
          rcases List.mem_append.mp hx with h | h
          · exact hg x h
          · rw [List.mem_singleton.mp h]; exact hg l ml
    · have z6 := g6.keep z5.1 z5.2
      have e6 := e5.trans g6.e
      refine s_app (K := K) (f := false) (P := fun d => ∃ l, d = lineD l ∧ lineOk n l) g6.sub rfl z6.1 z6.2 (by omega) (evS_tup (eaS_cons (evS_call1 (ea_cons (ev_var rfl (r1.mono e6)) (ea_cons (ev_vi rfl) (ea_cons ev_int ea_nil))) (spF_useS (n, 5) ⟨by show (2:Int) ≤ n; omega, by show n ≤ (1000:Int); omega, by show (2:Int) ≤ 5; decide, by show (5:Int) ≤ 1000; decide⟩)) (eaS_cons (evS_call1 (ea_cons (ev_var rfl (r1.mono e6)) (ea_cons (Ev.is (ev_op (f1 := false) ev_int ev_int (vp_int ⟨by decide, by decide, by decide⟩)) (show _ = D.int 1000000000000 from congrArg D.int (by decide))) ea_nil)) (fun E G vs rs H e Q q => (spF_useS (K := K) (f := true) (out := fun i d => IntP (fun j => 1 ≤ j ∧ j ≤ i) d) (1000000000000 : Int) ⟨by decide, by decide⟩ E).old G vs rs H e Q q)) eaS_nil)) ?_ ?_) fun d v G7 H7 pd g7 rv h7 n7 => ?_
      · rintro _ ⟨_, _, rfl, _, _, _, rfl, _, rfl⟩; exact Nat.le_of_ble_eq_true rfl
      · rintro _ ⟨_, _, rfl, ⟨ns, rfl, hns⟩, _, _, rfl, ⟨j, rfl, hj⟩, rfl⟩
        exact ⟨(ns, j), rfl, hns, hj⟩
      · obtain ⟨l, rfl, hl'⟩ := pd
        refine hN _ G7 _ ((g5.e.trans g6.e).trans g7.e) ((((g4.trans g5).trans g6).trans g7).put hp0 n7) ⟨ls ++ [l], us ++ [v], _, rfl, ?_, n7, upd_same, by rw [List.length_append, hl]; rfl, ?_⟩
        · rw [List.map_append]
          exact (ru.mono ((g5.e.trans g6.e).trans g7.e)).append (.cons rv .nil)
        · intro x hx
          rcases List.mem_append.mp hx with h | h
          · exact hg x h
          · rw [List.mem_singleton.mp h]; exact hl'
  · rintro σ1 G4 H4 e4 g4 ⟨ls, us, y, rfl, ru, n4, p4, hl, hg⟩
    rw [rng_length] at hl
    refine s_retP rfl (q _ _ _ _ ⟨ls, rfl, by split at hl <;> omega, hg⟩ (g4.own p4 n4 hp0) (rep_own hp0 n4 ru))
abbrev sp_law_edge (K : Fr) : Sp := spF K false (fun i : Int × List Line × List (List Int) => [.pool, .lst (i.2.1.map lineD), .lst (i.2.2.map fun c => .lst (c.map .int))]) (fun i => i.2.1.length ≤ 1000 ∧ (∀ l ∈ i.2.1, lineOk i.1 l) ∧ i.2.2.length = 2 ∧ ∀ c ∈ i.2.2, (c.length : Int) = i.1)
  (fun i d => ∃ ls : List Line, d = .lst (ls.map lineD) ∧ ls.length ≤ 1000 ∧ ∀ l ∈ ls, lineOk i.1 l)
theorem ok_law_edge {P : Program} {w : World} {K : Fr} {mg : Str → Option Value} {base : Heap} {fa : Addr} {fd : FuncData} (F : L2.Fun K "_law_edge" "_law_edge" s_law_edge fa fd) (B : Bt mg)
    (c_law_draw : C8.Cal P w K mg base 1 "_law_draw" spDrawV []) : FnOk P w K mg base CX0 2 fa fd ["pool", "lines", "censuses"] (sp_law_edge K) := by
  refine okF F sc_law_edge (fun _ => rfl) fun cdv A outer s H vs Q E hr i G eG rs pre q => ?_
  obtain ⟨n, ls, cs⟩ := i
  dsimp only at rs pre q
  obtain ⟨v1, v2, v3, rfl, r1, r2, r3⟩ := rs.three
  obtain ⟨h1, h2, h3, h4⟩ := pre
  have lenE : ∀ {f : Bool} {G' : Hp} {y1 y2 y3 y4 y5 : Option V}, Ex G G' → Ev K f (tCB (rcLen K) (tCons (tVar 1) tNil)) [some v1, some v2, some v3, y1, y2, y3, y4, y5] G' (.int (ls.length : Int)) := fun e => Ev.is (ev_cb (ea_cons (ev_var rfl (r2.mono e)) ea_nil) c_lenL) (by rw [List.length_map])
  refine ⟨_, (pss_cons (ps_set (i := 3) sc_law_edge.nd rfl (Or.inl rfl) (C8.pe_c c_law_draw hr (by first | decide | exact Nat.le_refl _) (by rfl) (pa_cons (pv 0) (pa_cons pe_int pa_nil)))) 
  (pss_cons (ps_if (PW.pt (pw_or (pt_cmpR op_gt (pv 3) pe_int (nomark _)) (pw_or1 (pt_cmpR (op_eqUK (K := K) rfl hr.units) (pe_callB (cl_lenK (K := K) rfl) (by rfl) B.b_len bt_len (pa_cons (pv 1) pa_nil)) pe_int (nomark _))))) (pss_one (ps_ret (pv 1))) pss_nil) 
  (pss_cons (ps_set (i := 4) sc_law_edge.nd rfl (Or.inl rfl) (C8.pe_c c_law_draw hr (by first | decide | exact Nat.le_refl _) (by rfl) (pa_cons (pv 0) (pa_cons (pe_callB (cl_lenK (K := K) rfl) (by rfl) B.b_len bt_len (pa_cons (pv 1) pa_nil)) pa_nil)))) 
  (pss_cons (ps_set (i := 5) sc_law_edge.nd rfl (Or.inr rfl) (pe_ix (ix_seqK (K := K) rfl) (pv 2) (C8.pe_c c_law_draw hr (by first | decide | exact Nat.le_refl _) (by rfl) (pa_cons (pv 0) (pa_cons pe_int pa_nil))) (fun _ _ => rfl))) 
  (pss_cons (ps_set (i := 6) sc_law_edge.nd rfl (Or.inl rfl) (pe_op (op_addUK (K := K) rfl) (pe_callB (cr_sumK (K := K) rfl rfl) (by rfl) B.b_sum bt_sum (pa_cons (pe_lc (own := [("v", 7)]) rfl sc_law_edge.nd (pi_seqK (K := K) rfl (pe_ix (ix_seqK (K := K) rfl) (pe_ix (ix_seqK (K := K) rfl) (pv 1) (pv 4) (fun _ _ => rfl)) pe_int (fun _ _ => rfl))) (blkOk_by (by kernel_rfl)) (fun _ _ _ _ _ => (pg_name (i := 7) sc_law_edge.nd rfl (Or.inl rfl))) (fun _ _ _ _ _ => pts_nil) (fun _ _ _ _ _ => (pe_ix (ix_seqK (K := K) rfl) (pv 5) (pv 7) (fun _ _ => rfl)))) pa_nil)) (pv 3))) 
  (pss_cons (ps_if (pt_not (pt_chain op_le op_le pe_int (pv 6) (pe_op op_pow pe_int pe_int))) (pss_one (ps_ret (pv 1))) pss_nil) 
  (pss_one (ps_ret (pe_op (op_addUK (K := K) rfl) (pe_op (op_addUK (K := K) rfl) (pe_slice (sl_UK (K := K) rfl) (pv 1) po_none (po_some (pv 4))) (pe_lst (pa_cons (pe_tup (pa_cons (pe_ix (ix_seqK (K := K) rfl) (pe_ix (ix_seqK (K := K) rfl) (pv 1) (pv 4) (fun _ _ => rfl)) pe_int (fun _ _ => rfl)) (pa_cons (pv 6) pa_nil))) pa_nil))) (pe_slice (sl_UK (K := K) rfl) (pv 1) (po_some (pe_op (op_addUK (K := K) rfl) (pv 4) pe_int)) po_none)))))))))), ?_⟩
  refine s_asgS (K := K) (f := true) eG (ev_draw (ea_cons (ev_var rfl r1) (ea_cons ev_int ea_nil)) (by decide) (by decide)) fun d v G1 H1 pd g1 rv => ?_
  obtain ⟨way, rfl, hw⟩ := pd
  cases rv
  have retL : ∀ {De : Ends} {y1 y2 y3 y4 y5 : Option V} {G' H' : Hp}, De.rt = Q → Grow G H G' H' → tRet (tVar 1) De [some v1, some v2, some v3, y1, y2, y3, y4, y5] H' := fun hD g => s_retP rfl (by rw [hD]; exact q _ _ _ _ ⟨ls, rfl, h1, h2⟩ g (r2.mono g.e))
  refine s_ifc (K := K) (x := decide (1 < way) || decide ((ls.length : Int) = 0)) g1.sub (et_or (et_test (f := false) (ev_op (f1 := false) (ev_vi rfl) ev_int v_gt)) fun _ => et_test (f := false) (ev_op (f1 := false) (lenE g1.e) ev_int v_eqI)) (fun hx G2 H2 g2 => retL rfl (g1.trans g2)) (fun hx G2 H2 g2 => ?_)
  have g12 := g1.trans g2
  have hx' := Bool.or_eq_false_iff.mp hx
  have hw1 : way ≤ 1 := by have := of_decide_eq_false hx'.1; omega
  have hl0 : 0 < ls.length := by have := of_decide_eq_false hx'.2; omega
  refine s_asgS (K := K) (f := true) g2.sub (ev_draw (ea_cons (ev_var rfl (r1.mono g12.e)) (ea_cons (lenE g12.e) ea_nil)) (by omega) (by omega)) fun d v G3 H3 pd g3 rv => ?_
  obtain ⟨at', rfl, ha1, ha2⟩ := pd
  cases rv
  obtain ⟨k, rfl⟩ : ∃ k : Nat, at' = (k : Int) := ⟨at'.toNat, by omega⟩
  have g13 := g12.trans g3
  obtain ⟨l, hk⟩ : ∃ l, ls[k]? = some l := ⟨_, List.getElem?_eq_getElem (by omega)⟩
  have hl := h2 l (List.mem_of_getElem? hk)
  obtain ⟨stops, number⟩ := l
  refine s_asgS (K := K) (f := false) (P := fun d => ∃ c ∈ cs, d = .lst (c.map .int)) g3.sub (evS_op (f1 := false) (P1 := fun d => d = .lst (cs.map fun c => .lst (c.map .int))) (P2 := IntP fun i => 0 ≤ i ∧ i < 2) (ev_var rfl (r3.mono g13.e)).toS (ev_draw (ea_cons (ev_var rfl (r1.mono g13.e)) (ea_cons ev_int ea_nil)) (by decide) (by decide)) ?_) fun d v G4 H4 pd g4 rv => ?_
  · rintro _ _ rfl ⟨j, rfl, hj1, hj2⟩
    obtain ⟨c, hc⟩ : ∃ c, cs[j.toNat]? = some c := ⟨_, List.getElem?_eq_getElem (by omega)⟩
    exact ⟨_, ⟨c, List.mem_of_getElem? hc, rfl⟩, v_ixL (at_map hj1 hc)⟩
  obtain ⟨c, mc, rfl⟩ := pd
  have hc := h4 c mc
  have g14 := g13.trans g4
  have e0 : ∀ {f : Bool} {G' : Hp} {y1 y3 y4 y5 : Option V}, Ex G G' → Ev K false (tOp (rIx K) (tOp (rIx K) (tVar 1) (tVar 4)) (tC (.int 0))) [some v1, some v2, some v3, y1, some (.int (k : Int)), y3, y4, y5] G' (.tup (stops.map .int)) := fun e => ev_op (f1 := false) (ev_op (f1 := false) (ev_var rfl (r2.mono e)) (ev_vi rfl) (v_ixL (at_map (c := lineD) (i := (k : Int)) (by omega) hk))) ev_int (v_ixT (by rfl))
  refine s_asg (K := K) (f := true) (d := .int ((stops.map (ix c)).sum + way)) g4.sub (ev_op (f1 := false) (ev_sumLc0 (h := ix c) (ei_seqT (e0 (f := false) g14.e)) (Nat.le_trans hl.1.2.1 (by decide))
    (S := fun a G1 σ' => σ' = [some v1, some v2, some v3, some (.int way), some (.int (k : Int)), some v, none, some (.int a)]) (by rintro a G1 σ' rfl; rfl) (fun b _ G2 _ => tg_int) (fun b mb G2 e2 σ' hs => ?_)) (ev_vi rfl) va_int) fun v6 G5 H5 g5 r6 => ?_
  · subst hs
    have := hl.1.2.2.1 b mb
    exact ev_op (f1 := false) (ev_var rfl (rv.old.mono e2)) (ev_vi rfl) (v_ixL (at_int (by omega) (by omega)))
  cases r6
  generalize htot : (stops.map (ix c)).sum + way = tot
  have g15 := g14.trans g5
  refine s_ifc (K := K) (x := !(decide (1 ≤ tot) && decide (tot ≤ 1000000000000))) g5.sub (et_not (et_B (f := false) (ev_chain ev_int (ev_vi rfl) v_le (fun _ => Ev.is (ev_op (f1 := false) ev_int ev_int (vp_int ⟨by decide, by decide, by decide⟩)) (show _ = D.int 1000000000000 from congrArg D.int (by decide))) (fun _ => v_le)))) (fun hx G6 H6 g6 => retL rfl (g15.trans g6)) (fun hx G6 H6 g6 => ?_)
  have ht : 1 ≤ tot ∧ tot ≤ 1000000000000 := by
    have z : (decide (1 ≤ tot) && decide (tot ≤ 1000000000000)) = true := by simpa using hx
    have z := Bool.and_eq_true_iff.mp z
    exact ⟨of_decide_eq_true z.1, of_decide_eq_true z.2⟩
  have g16 := g15.trans g6
  refine s_ret (K := K) (f := false) (d := .lst ((ls.take k ++ [(stops, tot)] ++ ls.drop (k + 1)).map lineD)) g6.sub (Ev.is (ev_op (f1 := false) (ev_op (f1 := false) (ev_slU (ev_var rfl (r2.mono g16.e)) eo_none (eo_some (ev_vi rfl))) (ev_lst (ea_cons (ev_tup (ea_cons (e0 (f := false) g16.e) (ea_cons (ev_vi rfl) ea_nil)) (Nat.le_of_ble_eq_true rfl)) ea_nil) (Nat.le_of_ble_eq_true rfl)) (va_lstO ?_)) (ev_slU (ev_var rfl (r2.mono g16.e)) (eo_some (i := ((k + 1 : Nat) : Int)) (Ev.is (ev_op (f1 := false) (ev_vi rfl) ev_int va_int) (by simp))) eo_none) (va_lstO ?_)) ?_) fun v G' H' g r => q _ v G' H' ⟨_, rfl, ?_, ?_⟩ (g16.trans g) (r.h2 g16.ext)
  · have q1 := cutD_length (ls.map lineD) none (some (k : Int))
    rw [List.length_map] at q1
    simp only [List.length_cons, List.length_nil]
    omega
  · have q1 := cutD_length (ls.map lineD) none (some (k : Int))
    have q2 := cutD_length (ls.map lineD) (some ((k + 1 : Nat) : Int)) none
    rw [List.length_map] at q1 q2
    simp only [List.length_append, List.length_cons, List.length_nil]
    omega
  · rw [cutD_to (by rw [List.length_map]; omega), cutD_from (by rw [List.length_map]; omega), List.map_append, List.map_append, List.map_take, List.map_drop]; rfl
  · simp only [List.length_append, List.length_cons, List.length_nil, List.length_take, List.length_drop]
    omega
  · intro x hx
    rcases List.mem_append.mp hx with h | h
    · rcases List.mem_append.mp h with h | h
      · exact h2 x (List.mem_of_mem_take h)
      · rw [List.mem_singleton.mp h]; exact ⟨hl.1, ht.1, ht.2⟩
    · exact h2 x (List.mem_of_mem_drop h)
abbrev sp_law_picked (K : Fr) : Sp := spF K true (fun i : Int => [.pool, .int i]) (fun i => 0 ≤ i ∧ i ≤ 1000) (fun i d => ∃ ns : List Int, d = .lst (ns.map .int) ∧ ns.length ≤ 1000 ∧ ∀ v ∈ ns, 0 ≤ v ∧ v < i)
theorem ok_law_picked {P : Program} {w : World} {K : Fr} {mg : Str → Option Value} {base : Heap} {fa : Addr} {fd : FuncData} (F : L2.Fun K "_law_picked" "_law_picked" s_law_picked fa fd) (B : Bt mg)
    (c_law_draw : C8.Cal P w K mg base 1 "_law_draw" spDrawV []) : FnOk P w K mg base CX0 2 fa fd ["pool", "villages"] (sp_law_picked K) := by
  refine okF F sc_law_picked (fun _ => rfl) fun cdv A outer s H vs Q E hr n G eG rs pre q => ?_
  obtain ⟨v1, v2, rfl, r1, r2⟩ := rs.two
  cases r2
  obtain ⟨h1, h2⟩ := pre
  refine ⟨_, (pss_cons (ps_set (i := 2) sc_law_picked.nd rfl (Or.inl rfl) (pe_listRg rfl (by rfl) B.b_list (prg_1 (by rfl) B.b_range (pv 1)))) 
  (pss_cons (ps_set (i := 3) sc_law_picked.nd rfl (Or.inl rfl) (pe_lst pa_nil)) 
  (pss_cons (ps_for PassesOwn.never rfl (pi_range1 (by rfl) B.b_range (pa_cons (C8.pe_c c_law_draw hr (by first | decide | exact Nat.le_refl _) (by rfl) (pa_cons (pv 0) (pa_cons (pe_op (op_addUK (K := K) rfl) (pv 1) pe_int) pa_nil))) pa_nil)) (pg_name (i := 4) sc_law_picked.nd rfl (Or.inl rfl)) (pss_cons (ps_set (i := 5) sc_law_picked.nd rfl (Or.inl rfl) (C8.pe_c c_law_draw hr (by first | decide | exact Nat.le_refl _) (by rfl) (pa_cons (pv 0) (pa_cons (pe_callB (cl_lenK (K := K) rfl) (by rfl) B.b_len bt_len (pa_cons (pv 2) pa_nil)) pa_nil)))) 
  (pss_cons (ps_expr (pe_bm PySem.F.plainAttrs_list PySem.F.slot_list_append PySem.F.type_list_append mt_append (pv 3) (pa_cons (pe_ix (ix_seqK (K := K) rfl) (pv 2) (pv 5) (fun _ _ => rfl)) pa_nil))) 
  (pss_one (ps_set (i := 2) sc_law_picked.nd rfl (Or.inl rfl) (pe_op (op_addUK (K := K) rfl) (pe_slice (sl_UK (K := K) rfl) (pv 2) po_none (po_some (pv 5))) (pe_slice (sl_UK (K := K) rfl) (pv 2) (po_some (pe_op (op_addUK (K := K) rfl) (pv 5) pe_int)) po_none))))))) 
  (pss_one (ps_ret (pv 3)))))), ?_⟩
  refine s_asg (K := K) (f := true) eG (ev_listRg (ev_vi rfl) (by omega) (by omega)) fun vL G2 H2 g2 rL => ?_
  refine s_asgL (K := K) (f := true) g2.sub (evl_lst ea_nil (by decide)) fun p us G3 H3 g3 hp0 hn hp ru => ?_
  cases ru
  have g13' := g2.trans g3
  have hp00 : H p = none := g2.free hp0
  refine s_forA (K := K) g3.sub (eaS_cons (ev_draw (ea_cons (ev_var rfl (r1.mono g13'.e)) (ea_cons (ev_op (f1 := false) (ev_vi rfl) ev_int va_int) ea_nil)) (by omega) (by omega)) eaS_nil) fun ds us G4 H4 pd g4 ru => ?_
  obtain ⟨_, _, rfl, ⟨size, rfl, hs1, hs2⟩, rfl⟩ := pd
  have z4 := g4.keep hp hn
  have g13 := g13'.trans g4
  refine s_for (K := K) (xs := rng 0 size.toNat) (c := D.int) (S := fun a σ1 G2 σ' => σ' = σ1.set 4 (some (.int a))) g13 (ei_rng1 (n := size) (ea_cst ru) (by omega) (by omega))
    (fun i σ1 G1 H1 => ∃ (L S : List Int) (vL : V) (y1 y2 : Option V), σ1 = [some v1, some (.int n), some vL, some (.ref p), y1, y2] ∧ Rep K none G1 (.lst (L.map .int)) vL ∧ G1 p = none ∧ H1 p = some (.lst (S.map V.int)) ∧ S.length = i ∧ (S ++ L).Perm (rng 0 n.toNat)) ?_ ?_ ?_ ?_
  · intro G' H' g
    have z := g.keep z4.1 z4.2
    exact ⟨_, [], vL, none, none, rfl, rL.old.mono ((g3.e.trans g4.e).trans g.e), z.2, z.1, rfl, List.Perm.refl _⟩
  · rintro a _ i σ1 G2 H2 G3 ⟨L, S, vL, y1, y2, rfl, _⟩ _
    exact tg_int
  · rintro i a σ1 G4 H4 G5 H5 σ2 ha e4 g4 ⟨L, S, vL, y1, y2, rfl, rl, n4, p4, hl, pm⟩ g5 rfl N hN
    have hi : i < size.toNat := by
      have := (List.getElem?_eq_some_iff.mp ha).1
      rwa [rng_length] at this
    have hlen := pm.length_eq
    rw [List.length_append, rng_length] at hlen
    have z5 := g5.keep p4 n4
    have eb := ((g13.e.trans e4).trans g5.e)
    refine s_asgS (K := K) (f := true) g5.sub (ev_draw (many := (L.length : Int)) (ea_cons (ev_var rfl (r1.mono eb)) (ea_cons (Ev.is (ev_cb (ea_cons (ev_var rfl (rl.mono g5.e)) ea_nil) c_lenL) (by rw [List.length_map])) ea_nil)) (by omega) (by omega)) fun d v G6 H6 pd g6 rv => ?_
    obtain ⟨at', rfl, ha1, ha2⟩ := pd
    cases rv
    have z6 := g6.keep z5.1 z5.2
    obtain ⟨k, rfl⟩ : ∃ k : Nat, at' = (k : Int) := ⟨at'.toNat, by omega⟩
    have hx : L[k]? = some (ix L k) := ix_get (i := (k : Int)) ha1 ha2
    refine s_app (K := K) (f := false) (P := fun d => d = .int (ix L k)) g6.sub rfl z6.1 z6.2 (by rw [List.length_map]; omega) (ev_op (f1 := false) (ev_var rfl (rl.mono (g5.e.trans g6.e))) (ev_vi rfl) (v_ixL (at_int ha1 ha2))).toS fun d v G7 H7 pd g7 rv h7 n7 => ?_
    subst pd
    cases rv
    have e7 := (g5.e.trans g6.e).trans g7.e
    refine s_asg (K := K) (f := false) (d := .lst ((L.take k ++ L.drop (k + 1)).map .int)) (g7.sub.mut n7) (Ev.is (ev_op (f1 := false) (ev_slU (ev_var rfl (rl.mono e7)) eo_none (eo_some (ev_vi rfl))) (ev_slU (ev_var rfl (rl.mono e7)) (eo_some (i := ((k + 1 : Nat) : Int)) (Ev.is (ev_op (f1 := false) (ev_vi rfl) ev_int va_int) (by simp))) eo_none) (va_lstO ?_)) ?_) fun v8 G8 H8 g8 r8 => ?_
    · have q1 := cutD_length (L.map D.int) none (some (k : Int))
      have q2 := cutD_length (L.map D.int) (some ((k + 1 : Nat) : Int)) none
      rw [List.length_map] at q1 q2
      omega
    · rw [cutD_to (by rw [List.length_map]; omega), cutD_from (by rw [List.length_map]; omega), List.map_append, List.map_take, List.map_drop]
    · have z8 := g8.keep upd_same n7
      have gg : Grow G H G8 H8 := ((((g4.trans g5).trans g6).trans g7).put hp00 n7).trans g8
      refine hN _ G8 H8 (e7.trans g8.e) gg ⟨_, S ++ [ix L k], v8, _, _, rfl, r8, z8.2, by rw [List.map_append]; exact z8.1, by rw [List.length_append, hl]; rfl, ?_⟩
      rw [List.append_assoc]
      exact (List.Perm.append_left S (perm_pick hx)).trans pm
  · rintro σ1 G4 H4 e4 g4 ⟨L, S, vL, y1, y2, rfl, rl, n4, p4, hl, pm⟩
    rw [rng_length] at hl
    refine s_retP rfl (q _ _ _ _ ⟨S, rfl, by omega, fun v hv => ?_⟩ (g4.own p4 n4 hp00) (rep_own hp00 n4 (RepA.ofInts S)))
    have := mem_rng.mp (pm.mem_iff.mp (List.mem_append_left L hv))
    omega
/-- the census at the stops, village by village -/
def totAt (census stops : List Int) : Int := (((rng 0 census.length).filter fun v => decide (v ∈ stops)).map (ix census)).sum
def awake (lines : List Line) (census : List Int) : List Int := ((enumL 0 lines).filter fun p => decide (p.2.2 ≤ totAt census p.2.1)).map (·.1)
theorem enumL_take {α : Type} : ∀ (n : Nat) (xs : List α) (i : Nat), (enumL n xs).take i = enumL n (xs.take i)
  | _, [], i => by cases i <;> rfl
  | _, _ :: _, 0 => rfl
  | n, x :: xs, i + 1 => by
    show ((n : Int), x) :: (enumL (n + 1) xs).take i = ((n : Int), x) :: enumL (n + 1) (xs.take i)
    rw [enumL_take]
theorem sum_snoc (xs : List Int) (x : Int) : (xs ++ [x]).sum = xs.sum + x := by rw [sum_append]; simp
abbrev sp_law_awake (K : Fr) : Sp := spF K true (fun i : List Line × List Int => [.lst (i.1.map lineD), .lst (i.2.map .int)]) (fun i => i.1.length ≤ 1000 ∧ i.2.length ≤ 1000) (fun i d => d = .lst ((awake i.1 i.2).map .int))
theorem ok_law_awake {P : Program} {w : World} {K : Fr} {mg : Str → Option Value} {base : Heap} {fa : Addr} {fd : FuncData} (F : L2.Fun K "_law_awake" "_law_awake" s_law_awake fa fd) (B : Bt mg) : FnOk P w K mg base CX0 1 fa fd ["lines", "census"] (sp_law_awake K) := by
  refine okF F sc_law_awake (fun _ => rfl) fun cdv A outer s H vs Q E hr i G eG rs pre q => ?_
  obtain ⟨lines, census⟩ := i
  dsimp only at rs pre q
  obtain ⟨v1, v2, rfl, r1, r2⟩ := rs.two
  obtain ⟨h1, h2⟩ := pre
  refine ⟨_, (pss_cons (ps_set (i := 2) sc_law_awake.nd rfl (Or.inl rfl) (pe_lst pa_nil)) 
  (pss_cons (ps_for PassesOwn.never rfl (pi_range1 (by rfl) B.b_range (pa_cons (pe_callB (cl_lenK (K := K) rfl) (by rfl) B.b_len bt_len (pa_cons (pv 0) pa_nil)) pa_nil)) (pg_name (i := 3) sc_law_awake.nd rfl (Or.inl rfl)) (pss_cons (ps_set (i := 4) sc_law_awake.nd rfl (Or.inl rfl) pe_int) 
  (pss_cons (ps_for PassesOwn.never rfl (pi_range1 (by rfl) B.b_range (pa_cons (pe_callB (cl_lenK (K := K) rfl) (by rfl) B.b_len bt_len (pa_cons (pv 1) pa_nil)) pa_nil)) (pg_name (i := 5) sc_law_awake.nd rfl (Or.inl rfl)) (pss_one (ps_if (pt_cmpR (op_inK (K := K) rfl) (pv 5) (pe_ix (ix_seqK (K := K) rfl) (pe_ix (ix_seqK (K := K) rfl) (pv 0) (pv 3) (fun _ _ => rfl)) pe_int (fun _ _ => rfl)) rfl) (pss_one (ps_set (i := 4) sc_law_awake.nd rfl (Or.inl rfl) (pe_op (op_addUK (K := K) rfl) (pv 4) (pe_ix (ix_seqK (K := K) rfl) (pv 1) (pv 5) (fun _ _ => rfl))))) pss_nil))) 
  (pss_one (ps_if (pt_cmpR op_ge (pv 4) (pe_ix (ix_seqK (K := K) rfl) (pe_ix (ix_seqK (K := K) rfl) (pv 0) (pv 3) (fun _ _ => rfl)) pe_int (fun _ _ => rfl)) (nomark _)) (pss_one (ps_expr (pe_bm PySem.F.plainAttrs_list PySem.F.slot_list_append PySem.F.type_list_append mt_append (pv 2) (pa_cons (pv 3) pa_nil)))) pss_nil))))) 
  (pss_one (ps_ret (pv 2))))), ?_⟩
  refine s_asgL (K := K) (f := true) eG (evl_lst ea_nil (by decide)) fun p us G1 H1 g1 hp0 hn hp ru => ?_
  cases ru
  have e0 : ∀ {f : Bool} {G' : Hp} {k : Nat} {stops : List Int} {number : Int} {y2 y4 y5 : Option V} , Ex G G' → lines[k]? = some (stops, number) → Ev K false (tOp (rIx K) (tOp (rIx K) (tVar 0) (tVar 3)) (tC (.int 0))) [some v1, some v2, y2, some (.int (k : Int)), y4, y5] G' (.tup (stops.map .int)) := fun e hk => ev_op (f1 := false) (ev_op (f1 := false) (ev_var rfl (r1.mono e)) (ev_vi rfl) (v_ixL (at_map (c := lineD) (by omega) hk))) ev_int (v_ixT (by rfl))
  have e1 : ∀ {f : Bool} {G' : Hp} {k : Nat} {stops : List Int} {number : Int} {y2 y4 y5 : Option V} , Ex G G' → lines[k]? = some (stops, number) → Ev K false (tOp (rIx K) (tOp (rIx K) (tVar 0) (tVar 3)) (tC (.int 1))) [some v1, some v2, y2, some (.int (k : Int)), y4, y5] G' (.int number) := fun e hk => ev_op (f1 := false) (ev_op (f1 := false) (ev_var rfl (r1.mono e)) (ev_vi rfl) (v_ixL (at_map (c := lineD) (by omega) hk))) ev_int (v_ixT (by rfl))
  refine s_for (K := K) (xs := enumL 0 lines) (c := fun p => D.int p.1) (S := fun a σ1 G2 σ' => σ' = σ1.set 3 (some (.int a.1))) g1 (((ei_rng1 (n := (lines.length : Int)) (ea_cons (Ev.is (ev_cb (ea_cons (ev_var rfl (r1.mono g1.e)) ea_nil) c_lenL) (by rw [List.length_map])) ea_nil) (by omega) (by omega))).as (enum_rng (n := lines.length) rfl (by omega)))
    (fun i σ1 G1 H1 => ∃ (y1 y2 y3 : Option V), σ1 = [some v1, some v2, some (.ref p), y1, y2, y3] ∧ G1 p = none ∧ H1 p = some (.lst (((((enumL 0 lines).take i).filter fun p => decide (p.2.2 ≤ totAt census p.2.1)).map (·.1)).map V.int))) ?_ ?_ ?_ ?_
  · intro G' H' g
    have z := g.keep hp hn
    exact ⟨none, none, none, rfl, z.2, z.1⟩
  · rintro a _ i σ1 G2 H2 G3 ⟨y1, y2, y3, rfl, _⟩ _
    exact tg_int
  · rintro i a σ1 G4 H4 G5 H5 σ2 ha e4 g4 ⟨y1, y2, y3, rfl, n4, p4⟩ g5 rfl N hN
    obtain ⟨j, hj, ej⟩ := mem_enumL (List.mem_of_getElem? ha)
    obtain ⟨at', stops, number⟩ := a
    dsimp only at hj ej
    rw [Nat.zero_add] at ej
    subst ej
    have z5 := g5.keep p4 n4
    have e5 := (g1.e.trans e4).trans g5.e
    refine s_asg (K := K) (f := true) g5.sub ev_int fun v G6 H6 g6 rv => ?_
    cases rv
    have z6 := g6.keep z5.1 z5.2
    have g46 := (g4.trans g5).trans g6
    refine s_for (K := K) (xs := rng 0 census.length) (c := D.int) (S := fun a σ1 G2 σ' => σ' = σ1.set 5 (some (.int a))) g46 ((ei_rng1 (n := (census.length : Int)) (ea_cons (Ev.is (ev_cb (ea_cons (ev_var rfl (r2.mono (e5.trans g6.e))) ea_nil) c_lenL) (by rw [List.length_map])) ea_nil) (by omega) (by omega)).is (by congr 1))
      (fun m σ1 G1 H1 => ∃ (y3 : Option V), σ1 = [some v1, some v2, some (.ref p), some (.int (j : Int)), some (.int ((((rng 0 census.length).take m).filter fun v => decide (v ∈ stops)).map (ix census)).sum), y3] ∧ G1 p = none ∧ H1 p = some (.lst (((((enumL 0 lines).take i).filter fun p => decide (p.2.2 ≤ totAt census p.2.1)).map (·.1)).map V.int))) ?_ ?_ ?_ ?_
    · intro G' H' g
      have z := g.keep z6.1 z6.2
      exact ⟨y3, rfl, z.2, z.1⟩
    · rintro a _ i σ1 G2 H2 G3 ⟨y3, rfl, _⟩ _
      exact tg_int
    · rintro m b σ1 G7 H7 G8 H8 σ2 hb e7 g7 ⟨y3, rfl, n7, p7⟩ g8 rfl N2 hN2
      have mb := mem_rng.mp (List.mem_of_getElem? hb)
      have z8 := g8.keep p7 n7
      have e8 := (((e5.trans g6.e).trans e7).trans g8.e)
      refine s_if (K := K) (x := decide (b ∈ stops)) g8.sub (et_test (f := false) (ev_op (f1 := false) (ev_vi rfl) (e0 (f := false) e8 hj) rv_inTK)) (fun hx G9 H9 g9 => ?_) (fun hx G9 H9 g9 => ?_)
      · refine s_asg (K := K) (f := true) g9.sub (ev_op (f1 := false) (ev_vi rfl) (ev_op (f1 := false) (ev_var rfl (r2.mono (e8.trans g9.e))) (ev_vi rfl) (v_ixL (at_int (by omega) (by omega)))) va_int) fun v G10 H10 g10 rv => ?_
        cases rv
        have z10 := (g9.trans g10).keep z8.1 z8.2
        refine hN2 _ G10 H10 ((g8.e.trans g9.e).trans g10.e) (((g7.trans g8).trans g9).trans g10) ⟨some (.int b), ?_, z10.2, z10.1⟩
        rw [take_next hb, List.filter_append, List.filter_cons, if_pos hx, List.map_append]
        show _ = [some v1, some v2, some (V.ref p), some (V.int (j : Int)), some (V.int (_ ++ [ix census b]).sum), _]
        rw [sum_snoc]
      · have z9 := g9.keep z8.1 z8.2
        refine hN2 _ G9 H9 (g8.e.trans g9.e) ((g7.trans g8).trans g9) ⟨some (.int b), ?_, z9.2, z9.1⟩
        rw [take_next hb, List.filter_append, List.filter_cons, if_neg (by rw [hx]; decide), List.filter_nil, List.append_nil]; rfl
    · rintro σ1 G7 H7 e7 g7 ⟨y3, rfl, n7, p7⟩
      rw [List.take_length] 
      have e8 := (e5.trans g6.e).trans e7
      dsimp only
      refine s_if (K := K) (x := decide (number ≤ totAt census stops)) g7.sub (et_test (f := false) (ev_op (f1 := false) (ev_vi rfl) (e1 (f := false) e8 hj) v_ge)) (fun hx G9 H9 g9 => ?_) (fun hx G9 H9 g9 => ?_)
      · have z9 := g9.keep p7 n7
        refine s_app (K := K) (f := true) (P := fun d => d = .int (j : Int)) g9.sub rfl z9.1 z9.2 ?_ (ev_vi rfl).toS fun d v G10 H10 pd g10 rv h10 n10 => ?_
        · rw [List.length_map, List.length_map]
          refine Nat.lt_of_le_of_lt (List.length_filter_le _ _) ?_
          rw [List.length_take, enumL_length]; omega
        · subst pd
          cases rv
          refine hN _ G10 _ ((((g5.e.trans g6.e).trans e7).trans g9.e).trans g10.e) (((g7.trans g9).trans g10).put hp0 n10) ⟨_, _, _, rfl, n10, ?_⟩
          rw [upd_same, take_next ha, List.filter_append, List.filter_cons, if_pos hx, List.map_append, List.map_append]; rfl
      · have z9 := g9.keep p7 n7
        refine hN _ G9 _ (((g5.e.trans g6.e).trans e7).trans g9.e) (g7.trans g9) ⟨_, _, _, rfl, z9.2, ?_⟩
        rw [z9.1, take_next ha, List.filter_append, List.filter_cons, if_neg (by rw [hx]; decide), List.filter_nil, List.append_nil]
  · rintro σ1 G4 H4 e4 g4 ⟨y1, y2, y3, rfl, n4, p4⟩
    rw [List.take_length] at p4
    exact s_retP rfl (q _ _ _ _ rfl (g4.own p4 n4 hp0) (rep_own hp0 n4 (RepA.ofInts _)))
/-! ### the plain law -/
theorem ext_ix {as bs : List Int} (hl : as.length = bs.length) (h : ∀ v : Int, 0 ≤ v → v < as.length → ix as v = ix bs v) : as = bs := by
  refine List.ext_getElem? fun i => ?_
  by_cases hi : i < as.length
  · have e1 := ix_get (xs := as) (i := (i : Int)) (by omega) (by omega)
    have e2 := ix_get (xs := bs) (i := (i : Int)) (by omega) (by omega)
    have e3 : ((i : Int)).toNat = i := by omega
    rw [e3] at e1 e2
    rw [e1, e2, h i (by omega) (by omega)]
  · rw [List.getElem?_eq_none (by omega), List.getElem?_eq_none (by omega)]
theorem ix_set {c : List Int} {a v x : Int} (h0 : 0 ≤ a) (h1 : a < c.length) (h2 : 0 ≤ v) (h3 : v < c.length) : ix (c.set a.toNat x) v = if a = v then x else ix c v := by
  unfold ix
  rw [List.getD_eq_getElem?_getD, List.getD_eq_getElem?_getD, List.getElem?_set]
  by_cases e : a = v
  · subst e
    rw [if_pos rfl, if_pos (by omega), if_pos rfl]; rfl
  · rw [if_neg (by omega), if_neg e]
theorem ix_map_rng {f : Int → Int} {n : Nat} {v : Int} (h0 : 0 ≤ v) (h1 : v < n) : ix ((rng 0 n).map f) v = f v := by
  unfold ix
  rw [List.getD_eq_getElem?_getD, List.getElem?_map, rng_get (by omega)]
  show f (0 + (v.toNat : Int)) = f v
  congr 1; omega
theorem ix_rep {n : Nat} {v : Int} : ix (List.replicate n 0) v = 0 := by
  unfold ix
  rw [List.getD_eq_getElem?_getD, List.getElem?_replicate]
  split <;> rfl
theorem sum_cons (x : Int) (xs : List Int) : (x :: xs).sum = x + xs.sum := by simp
theorem censFold_ix (heads : List Int) : ∀ (ps : List (Int × Int)) (c : List Int) (v : Int), (∀ p ∈ ps, 0 ≤ p.2 ∧ p.2 < c.length) → 0 ≤ v → v < c.length → ix (censFold heads ps c) v = ix c v + ((ps.filter fun p => decide (p.2 = v)).map fun p => ix heads p.1).sum
  | [], c, v, _, _, _ => by simp [censFold]
  | p :: ps, c, v, hp, h0, h1 => by
    have hq := hp p List.mem_cons_self
    unfold censFold
    rw [censFold_ix heads ps _ v (fun q hq => by rw [List.length_set]; exact hp q (List.mem_cons_of_mem _ hq)) h0 (by rw [List.length_set]; exact h1), ix_set hq.1 hq.2 h0 h1, List.filter_cons]
    by_cases e : p.2 = v
    · rw [if_pos e, if_pos (decide_eq_true e), List.map_cons, sum_cons, e]; omega
    · rw [if_neg e, if_neg (by rw [decide_eq_false e]; decide)]
theorem enum_ix (xs : List Int) : enumL 0 xs = (rng 0 xs.length).map fun k => (k, ix xs k) := by
  refine List.ext_getElem? fun i => ?_
  by_cases hi : i < xs.length
  · rw [enumL_get (List.getElem?_eq_getElem hi), List.getElem?_map, rng_get hi]
    have e2 := ix_get (xs := xs) (i := (i : Int)) (by omega) (by omega)
    have e3 : ((i : Int)).toNat = i := by omega
    rw [e3, List.getElem?_eq_getElem hi] at e2
    have e4 := Option.some.inj e2
    show some (((0 + i : Nat) : Int), xs[i]) = some (0 + (i : Int), ix xs (0 + (i : Int)))
    have e5 : (0 : Int) + (i : Int) = (i : Int) := by omega
    rw [e4, e5, Nat.zero_add]
  · rw [List.getElem?_eq_none (by rw [enumL_length]; omega), List.getElem?_eq_none (by rw [List.length_map, rng_length]; omega)]
theorem census_sums {n : Int} {heads placing : List Int} (h0 : 0 ≤ n) (h : worldOk n heads placing) : census n heads placing = sumsOf n heads placing := by
  obtain ⟨h1, h2, h3⟩ := h
  refine ext_ix (by rw [census_length]; unfold sumsOf; rw [List.length_map, rng_length]) fun v v0 v1 => ?_
  rw [census_length] at v1
  unfold census sumsOf
  rw [censFold_ix heads _ _ v ?_ v0 (by rw [List.length_replicate]; exact v1), ix_rep, ix_map_rng v0 v1, enum_ix, List.filter_map, List.map_map, Int.zero_add]
  · unfold sumAt; rw [h2]; rfl
  · intro p hp
    obtain ⟨j, hj, _⟩ := mem_enumL hp
    have := h3 p.2 (List.mem_of_getElem? hj)
    rw [List.length_replicate]; omega
theorem sum_perm {xs ys : List Int} (h : xs.Perm ys) : xs.sum = ys.sum := by
  induction h with
  | nil => rfl
  | cons x _ ih => rw [sum_cons, sum_cons, ih]
  | swap x y l => rw [sum_cons, sum_cons, sum_cons, sum_cons]; omega
  | trans _ _ i1 i2 => exact i1.trans i2
theorem lt_nodup {xs : List Int} (h : xs.Pairwise (· < ·)) : xs.Nodup := h.imp fun {a b} h e => by omega
theorem tot_hin {census stops : List Int} {n : Int} (hc : (census.length : Int) = n) (h : stopsOk n stops) : totAt census stops = hin census stops := by
  obtain ⟨_, _, h3, h4⟩ := h
  unfold totAt hin
  refine sum_perm (List.Perm.map _ ((List.perm_ext_iff_of_nodup ((rng_nodup _ _).filter _) (lt_nodup h4)).mpr fun a => ?_))
  rw [List.mem_filter, mem_rng]
  constructor
  · rintro ⟨_, h⟩; exact of_decide_eq_true h
  · intro h
    have := h3 a h
    exact ⟨by omega, decide_eq_true h⟩
theorem awake_running {census : List Int} {lines : List Line} {n : Int} (hc : (census.length : Int) = n) (h : ∀ l ∈ lines, lineOk n l) : awake lines census = running census lines := by
  unfold awake running
  congr 1
  refine List.filter_congr fun p hp => ?_
  obtain ⟨j, hj, _⟩ := mem_enumL hp
  unfold runsB
  rw [tot_hin hc (h _ (List.mem_of_getElem? hj)).1]
theorem pair_ix {xs : List Int} (h : xs.Pairwise (· < ·)) {i : Int} (h0 : 0 ≤ i) (h1 : i + 1 < xs.length) : ix xs i < ix xs (i + 1) := by
  have e1 := ix_get (xs := xs) (i := i) h0 (by omega)
  have e2 := ix_get (xs := xs) (i := i + 1) (by omega) h1
  obtain ⟨l1, e1⟩ := List.getElem?_eq_some_iff.mp e1
  obtain ⟨l2, e2⟩ := List.getElem?_eq_some_iff.mp e2
  rw [← e1, ← e2]
  exact List.pairwise_iff_getElem.mp h _ _ l1 l2 (by omega)
theorem fLine_ok {n : Int} {l : Line} (h : lineOk n l) : fLine n l = none := by
  obtain ⟨⟨h1, h2, h3, h4⟩, h5, h6⟩ := h
  have fs : fStops n l.1 = none := by
    unfold fStops
    rw [if_neg (by omega), if_neg, if_neg]
    · intro hh
      obtain ⟨i, hi, hb⟩ := List.any_eq_true.mp hh
      have := mem_rng.mp hi
      have hb := of_decide_eq_true hb
      have := pair_ix h4 (i := i) (by omega) (by omega)
      omega
    · intro hh
      obtain ⟨v, hv, hb⟩ := List.any_eq_true.mp hh
      have := h3 v hv
      rw [decide_eq_true this.1, decide_eq_true this.2] at hb
      cases hb
  unfold fLine
  rw [fs, decide_eq_false (by omega)]; rfl
theorem stops_in {census : List Int} {n : Int} {l : Line} (hc : (census.length : Int) = n) (h : lineOk n l) : stopsIn census.length l := ⟨h.1.2.1, fun v hv => by have := h.1.2.2.1 v hv; omega⟩
theorem Pl.ints {n : Nat} {xs : List Int} (h : xs.length ≤ 50000) : Pl (n + 1) (.lst (xs.map .int)) := .lst (by rw [List.length_map]; exact h) fun d hd => by
  obtain ⟨x, _, rfl⟩ := List.mem_map.mp hd
  exact .sc rfl
theorem Pl.intsT {n : Nat} {xs : List Int} (h : xs.length ≤ 50000) : Pl (n + 1) (.tup (xs.map .int)) := .tup (by rw [List.length_map]; exact h) fun d hd => by
  obtain ⟨x, _, rfl⟩ := List.mem_map.mp hd
  exact .sc rfl
theorem Pl.line {n : Nat} {l : Line} (h : l.1.length ≤ 50000) : Pl (n + 2) (lineD l) := .tup (Nat.le_of_ble_eq_true rfl) fun d hd => by
  rcases List.mem_cons.mp hd with rfl | hd
  · exact Pl.intsT h
  · rw [List.mem_singleton.mp hd]; exact .sc rfl
theorem Pl.lines {n : Nat} {ls : List Line} (h : ls.length ≤ 50000) (hl : ∀ l ∈ ls, l.1.length ≤ 50000) : Pl (n + 3) (.tup (ls.map lineD)) := .tup (by rw [List.length_map]; exact h) fun d hd => by
  obtain ⟨l, ml, rfl⟩ := List.mem_map.mp hd
  exact Pl.line (hl l ml)
structure ReadsI where
  n : Int
  lines : List Line
  census : List Int
  row : List Int
  b : Bool
abbrev readsOk (i : ReadsI) : Prop := i.lines.length ≤ 1000 ∧ (∀ l ∈ i.lines, lineOk i.n l) ∧ (i.census.length : Int) = i.n ∧ i.n ≤ 1000 ∧ i.row.length ≤ 1000 ∧ ∀ v ∈ i.row, 0 ≤ v ∧ v < i.n
abbrev sp_law_reads (K : Fr) (C : Addr) : Sp := spF K true (fun i : ReadsI => [regD C i.n i.lines, .lst (i.census.map .int), .lst (i.lines.map lineD), .lst (i.row.map .int), seqD i.b (i.row.map .int)]) readsOk (fun i d => d = .bl true)
theorem ok_law_reads {P : Program} {w : World} {K : Fr} {mg : Str → Option Value} {base : Heap} {fa C : Addr} {fd : FuncData} (F : L2.Fun K "_law_reads" "_law_reads" s_law_reads fa fd) (B : Bt mg)
    (c_law_awake : C8.Cal P w K mg base 1 "_law_awake" (sp_law_awake K) []) (c_running_lines : C8.Cal P w K mg base 3 "running_lines" (sp_running_lines K C) []) (c_law_same : C8.Cal P w K mg base 9 "_law_same" (spSame K 9) []) (c_heads_in : C8.Cal P w K mg base 1 "heads_in" (sp_heads_in K) []) : FnOk P w K mg base CX0 10 fa fd ["town", "census", "lines", "row", "some"] (sp_law_reads K C) := by
  refine okF F sc_law_reads (fun _ => rfl) fun cdv A outer s H vs Q E hr i G eG rs pre q => ?_
  obtain ⟨n, lines, census, row, b⟩ := i
  obtain ⟨h1, h2, h3, h4, h5, h6⟩ := pre
  dsimp only at rs q h1 h2 h3 h4 h5 h6
  obtain ⟨v1, v2, v3, v4, v5, rfl, r1, r2, r3, r4, r5⟩ := rs.five
  have aw : awake lines census = running census lines := awake_running h3 h2
  have pr : running census lines = running census lines := rfl
  have lr : (running census lines).length ≤ 50000 := by
    unfold running
    rw [List.length_map]
    refine Nat.le_trans (List.length_filter_le _ _) ?_
    rw [enumL_length]; omega
  have same : ∀ {f : Bool} {ta tb : TE} {σ : L2.St} {G1 : Hp} {d1 d2 : D} {E : XK}, Ev K false ta σ G1 d1 → Ev K false tb σ G1 d2 → d1 = d2 → Pl 8 d2 → Ev K f (tCall (spSame K 9) [] E (tCons ta (tCons tb tNil))) σ G1 (.bl true) := fun h1 h2 e p => Ev.sc (Ev.is (ev_call (f := true) (ea_cons h1 (ea_cons h2 ea_nil)) (same_use (e ▸ p) p)).old (by rw [e, sameD_refl p])) rfl
  refine ⟨_, (pss_cons (ps_set (i := 5) sc_law_reads.nd rfl (Or.inl rfl) (pe_callTy (cl_listK (K := K) rfl) (by rfl) B.b_list bt_list (pa_cons (pv 1) pa_nil))) 
  (pss_cons (ps_set (i := 6) sc_law_reads.nd rfl (Or.inl rfl) (C8.pe_c c_law_awake hr (by first | decide | exact Nat.le_refl _) (by rfl) (pa_cons (pv 2) (pa_cons (pv 1) pa_nil)))) 
  (pss_cons (ps_set (i := 7) sc_law_reads.nd rfl (Or.inl rfl) (C8.pe_c c_running_lines hr (by first | decide | exact Nat.le_refl _) (by rfl) (pa_cons (pv 0) (pa_cons (pv 5) pa_nil)))) 
  (pss_cons (ps_if (PW.pt (pw_or (pt_not (pt_val (C8.pe_c c_law_same hr (by first | decide | exact Nat.le_refl _) (by rfl) (pa_cons (pv 7) (pa_cons (pv 6) pa_nil))))) (pw_or1 (pt_not (pt_val (C8.pe_c c_law_same hr (by first | decide | exact Nat.le_refl _) (by rfl) (pa_cons (C8.pe_c c_heads_in hr (by first | decide | exact Nat.le_refl _) (by rfl) (pa_cons (pv 5) (pa_cons (pv 4) pa_nil))) (pa_cons (pe_callB (cr_sumK (K := K) rfl rfl) (by rfl) B.b_sum bt_sum (pa_cons (pe_lc (own := [("v", 8)]) rfl sc_law_reads.nd (pi_seqK (K := K) rfl (pv 3)) (blkOk_by (by kernel_rfl)) (fun _ _ _ _ _ => (pg_name (i := 8) sc_law_reads.nd rfl (Or.inl rfl))) (fun _ _ _ _ _ => pts_nil) (fun _ _ _ _ _ => (pe_ix (ix_seqK (K := K) rfl) (pv 1) (pv 8) (fun _ _ => rfl)))) pa_nil)) pa_nil)))))))) (pss_one (ps_ret pe_bl)) pss_nil) 
  (pss_cons (ps_expr (pe_bm PySem.F.plainAttrs_list PySem.F.slot_list_append PySem.F.type_list_append mt_append (pv 7) (pa_cons (pe_callB (cl_lenK (K := K) rfl) (by rfl) B.b_len bt_len (pa_cons (pv 2) pa_nil)) pa_nil))) 
  (pss_one (ps_ret (pe_and (C8.pe_c c_law_same hr (by first | decide | exact Nat.le_refl _) (by rfl) (pa_cons (C8.pe_c c_running_lines hr (by first | decide | exact Nat.le_refl _) (by rfl) (pa_cons (pv 0) (pa_cons (pv 5) pa_nil))) (pa_cons (pv 6) pa_nil))) (pe_and (C8.pe_c c_law_same hr (by first | decide | exact Nat.le_refl _) (by rfl) (pa_cons (pv 5) (pa_cons (pv 1) pa_nil))) (pe_one (C8.pe_c c_law_same hr (by first | decide | exact Nat.le_refl _) (by rfl) (pa_cons (pe_callTy (cl_listK (K := K) rfl) (by rfl) B.b_list bt_list (pa_cons (pv 4) pa_nil)) (pa_cons (pv 3) pa_nil))))))))))))), ?_⟩
  refine s_asg (K := K) (f := false) eG (ev_cb (ea_cons (ev_var rfl r2) ea_nil) c_listL) fun v6 G1 H1 g1 r6 => ?_
  refine s_asg (K := K) (f := false) g1.sub (ev_call (ea_cons (ev_var rfl (r3.mono g1.e)) (ea_cons (ev_var rfl (r2.mono g1.e)) ea_nil)) (spF_use (o := fun i : List Line × List Int => .lst ((awake i.1 i.2).map .int)) (lines, census) ⟨h1, by show census.length ≤ 1000; omega⟩)).old fun v7 G2 H2 g2 r7 => ?_
  dsimp only at r7
  rw [aw] at r7
  have g12 := g1.trans g2
  have run : ∀ {f : Bool} {G' : Hp} {y8 y9 : Option V} {E : XK}, Ex G2 G' → Ev K true (tCall (sp_running_lines K C) [] E (tCons (tVar 0) (tCons (tVar 5) tNil))) [some v1, some v2, some v3, some v4, some v5, some v6, some v7, y8, y9] G' (.lst ((running census lines).map .int)) := fun e => ev_call (ea_cons (ev_var rfl (r1.mono (g12.e.trans e))) (ea_cons (ev_var rfl (r6.old.mono (g2.e.trans e))) ea_nil)) (spF_use (o := fun i : Int × List Line × List Int => .lst ((running i.2.2 i.2.1).map .int)) (n, lines, census) ⟨h1, fun l hl => stops_in h3 (h2 l hl)⟩)
  refine s_asg (K := K) (f := true) g2.sub (run (f := true) (Ex.refl _)) fun v8 G3 H3 g3 r8 => ?_
  obtain ⟨p, us, rfl, fp, hp, rr⟩ := id r8.lst_inv
  have hu := rr.ints
  subst hu
  have fp : H2 p = none := fp
  have hp0 : H p = none := g12.free fp
  have n2 : G2 p = none := Evl.fresh_back g2.sub fp
  have g13 := g12.trans g3
  refine s_ifc (K := K) (x := false) g3.sub ((et_or (x := false) (y := false) ((et_not (et_B (same (f := false) (ev_var rfl r8.old) (ev_var rfl (r7.old.mono g3.e)) rfl (Pl.ints lr)))).is rfl) fun _ => (et_not (et_B (same (f := false) (ev_call (ea_cons (ev_var rfl (r6.old.mono (g2.e.trans g3.e))) (ea_cons (ev_var rfl (r5.mono g13.e)) ea_nil)) (spF_use (o := fun i : List Int × Bool × List Int => .int (hin i.1 i.2.2)) (census, b, row) ⟨h5, fun v hv => by have := h6 v hv; show 0 ≤ v ∧ v < (census.length : Int); omega⟩)).old
      (ev_sumLc0 (xs := row) (h := ix census) (ei_seqL (ev_var rfl (r4.mono g13.e))) (Nat.le_trans h5 (by decide)) (S := fun a G1 σ' => σ' = [some v1, some v2, some v3, some v4, some v5, some v6, some v7, some (.ref p), some (.int a)]) (by rintro a G1 σ' rfl; rfl) (fun a _ G1 _ => tg_int) (fun a ma G4 e4 σ' hs => ?_)) rfl (.sc rfl)))).is rfl).is rfl) (fun hh => by cases hh) fun _ G4 H4 g4 => ?_
  · subst hs
    have := h6 a ma
    exact ev_op (f1 := false) (ev_var rfl (r2.mono (g13.e.trans e4))) (ev_vi rfl) (v_ixL (at_int (by omega) (by omega)))
  -- got.append(len(lines)): what is known of got is given up
  have gl : Grow G H G2 H4 := (g13.trans g4).less g12.e (g3.e.trans g4.e)
  have p4 : H4 p = some (.lst ((running census lines).map V.int)) := g4.sub _ _ (g4.e _ _ hp)
  refine s_app (K := K) (f := true) (P := fun d => d = .int (lines.length : Int)) gl.sub rfl p4 n2 (by rw [List.length_map]; omega) (Ev.is (ev_cb (ea_cons (ev_var rfl (r3.mono g12.e)) ea_nil) c_lenL) (by rw [List.length_map])).toS fun d v9 G5 H5 pd g5 r9 h5' n5 => ?_
  subst pd
  have g6 : Grow G H G5 (upd H5 p (.lst ((running census lines).map V.int ++ [v9]))) := (gl.trans g5).put hp0 n5
  have e5 := g12.e.trans g5.e
  dsimp only
  refine s_ret (K := K) (f := true) (d := .bl (true && (true && true))) g6.sub (ev_andV (same (f := true) (run (f := true) g5.e).old (ev_var rfl (r7.old.mono g5.e)) rfl (Pl.ints lr)) fun _ => ev_andV (same (f := true) (ev_var rfl (r6.old.mono (g2.e.trans g5.e))) (ev_var rfl (r2.mono e5)) rfl (Pl.ints (by omega))) fun _ => same (f := true) (ev_cb (ea_cons (ev_var rfl (r5.mono e5)) ea_nil) (c_listU (b := b))) (ev_var rfl (r4.mono e5)) rfl (Pl.ints (by omega))) ?_
  exact fun v G' H' g r => q _ v G' H' rfl (g6.trans g) (r.h2 g6.ext)
def spLaw (K : Fr) : Sp := fun vs H Q _ => ∃ (a : Addr) (ns : List Int), vs = [.ref a] ∧ SqL K H a (ns.map V.int) ∧ ns.length ≤ 63 ∧ ∀ H', Q (.bl true) H'
theorem ok_law {P : Program} {w : World} {K : Fr} {mg : Str → Option Value} {base : Heap} {fa C : Addr} {fd : FuncData} (F : L2.Fun K "law" "law" s_law fa fd) (B : Bt mg) (R : RegC K mg C)
    (c_law_pool : C8.Cal P w K mg base 1 "_law_pool" (spPoolV K) []) (c_law_draw : C8.Cal P w K mg base 1 "_law_draw" spDrawV []) (c_law_size : C8.Cal P w K mg base 2 "_law_size" (sp_law_size K) [])
    (c_law_great : C8.Cal P w K mg base 2 "_law_great" (sp_law_great K) []) (c_law_entry : C8.Cal P w K mg base 2 "_law_entry" (sp_law_entry K) []) (c_law_sums : C8.Cal P w K mg base 1 "_law_sums" (sp_law_sums K) [])
    (c_law_edge : C8.Cal P w K mg base 2 "_law_edge" (sp_law_edge K) []) (c_law_rows : C8.Cal P w K mg base 3 "_law_rows" (sp_law_rows K) []) (c_law_picked : C8.Cal P w K mg base 2 "_law_picked" (sp_law_picked K) [])
    (mk_Region : C8.Mak P w K mg base 3 "Region" C (sp_Region_init K C) []) (c_census_of : C8.Cal P w K mg base 1 "census_of" (sp_census_of K C) []) (c_law_same : C8.Cal P w K mg base 9 "_law_same" (spSame K 9) []) (c_law_reads : C8.Cal P w K mg base 10 "_law_reads" (sp_law_reads K C) []) :
    FnOk P w K mg base CX0 11 fa fd ["script"] (spLaw K) := by
  refine F.ok sc_law (fun vs H Q E h => ?_) (fun cdv A outer s H vs Q E hr h => ?_)
  · obtain ⟨a, ns, rfl, _⟩ := h
    rfl
  obtain ⟨a, ns, rfl, hS, hl, q⟩ := h
  have same : ∀ {f : Bool} {ta tb : TE} {σ : L2.St} {G1 : Hp} {d1 d2 : D} {E : XK}, Ev K false ta σ G1 d1 → Ev K false tb σ G1 d2 → d1 = d2 → Pl 8 d2 → Ev K f (tCall (spSame K 9) [] E (tCons ta (tCons tb tNil))) σ G1 (.bl true) := fun h1 h2 e p => Ev.sc (Ev.is (ev_call (f := true) (ea_cons h1 (ea_cons h2 ea_nil)) (same_use (e ▸ p) p)).old (by rw [e, sameD_refl p])) rfl
  have t12 : ∀ {f : Bool} {σ : L2.St} {G : Hp}, Ev K f (tOp (rI CPow fun i j => .int (i ^ j.toNat)) (tC (.int 10)) (tC (.int 12))) σ G (.int 1000000000000) := Ev.is (ev_op (f1 := false) ev_int ev_int (vp_int ⟨by decide, by decide, by decide⟩)) (congrArg D.int (by decide))
  refine ⟨_, (pss_cons (ps_set (i := 1) sc_law.nd rfl (Or.inr rfl) (C8.pe_c c_law_pool hr (by first | decide | exact Nat.le_refl _) (by rfl) (pa_cons (pv 0) pa_nil))) 
  (pss_cons (ps_set (i := 2) sc_law.nd rfl (Or.inr rfl) (pe_op (op_addUK (K := K) rfl) pe_int (C8.pe_c c_law_size hr (by first | decide | exact Nat.le_refl _) (by rfl) (pa_cons (pv 1) (pa_cons pe_int (pa_cons pe_int pa_nil)))))) 
  (pss_cons (ps_set (i := 3) sc_law.nd rfl (Or.inl rfl) (C8.pe_c c_law_size hr (by first | decide | exact Nat.le_refl _) (by rfl) (pa_cons (pv 1) (pa_cons pe_int (pa_cons pe_int pa_nil))))) 
  (pss_cons (ps_setLc (i := 4) (own := [("k", 5)]) rfl sc_law.nd rfl rfl (sw_true rfl rfl rfl (by decide +kernel)) (pi_range1 (by rfl) B.b_range (pa_cons (pv 3) pa_nil)) (blkOk_by (by kernel_rfl)) (fun _ _ _ _ _ => (pg_name (i := 5) sc_law.nd rfl (Or.inl rfl))) (fun _ _ _ _ _ => pts_nil) (fun _ _ _ _ _ => (C8.pe_c c_law_great hr (by first | decide | exact Nat.le_refl _) (by rfl) (pa_cons (pv 1) (pa_cons (pe_op op_pow pe_int pe_int) pa_nil))))) 
  (pss_cons (ps_setLc (i := 6) (own := [("k", 5)]) rfl sc_law.nd rfl rfl (sw_true rfl rfl rfl (by decide +kernel)) (pi_range1 (by rfl) B.b_range (pa_cons (pv 3) pa_nil)) (blkOk_by (by kernel_rfl)) (fun _ _ _ _ _ => (pg_name (i := 5) sc_law.nd rfl (Or.inl rfl))) (fun _ _ _ _ _ => pts_nil) (fun _ _ _ _ _ => (C8.pe_c c_law_draw hr (by first | decide | exact Nat.le_refl _) (by rfl) (pa_cons (pv 1) (pa_cons (pv 2) pa_nil))))) 
  (pss_cons (ps_setLc (i := 7) (own := [("k", 5)]) rfl sc_law.nd rfl rfl (sw_true rfl rfl rfl (by decide +kernel)) (pi_range1 (by rfl) B.b_range (pa_cons (pv 3) pa_nil)) (blkOk_by (by kernel_rfl)) (fun _ _ _ _ _ => (pg_name (i := 5) sc_law.nd rfl (Or.inl rfl))) (fun _ _ _ _ _ => pts_nil) (fun _ _ _ _ _ => (C8.pe_c c_law_draw hr (by first | decide | exact Nat.le_refl _) (by rfl) (pa_cons (pv 1) (pa_cons (pv 2) pa_nil))))) 
  (pss_cons (ps_setLc (i := 8) (own := [("v", 9)]) rfl sc_law.nd rfl rfl (sw_true rfl rfl rfl (by decide +kernel)) (pi_range1 (by rfl) B.b_range (pa_cons (pv 2) pa_nil)) (blkOk_by (by kernel_rfl)) (fun _ _ _ _ _ => (pg_name (i := 9) sc_law.nd rfl (Or.inl rfl))) (fun _ _ _ _ _ => pts_nil) (fun _ _ _ _ _ => (C8.pe_c c_law_entry hr (by first | decide | exact Nat.le_refl _) (by rfl) (pa_cons (pv 1) pa_nil)))) 
  (pss_cons (ps_set (i := 10) sc_law.nd rfl (Or.inl rfl) (C8.pe_c c_law_sums hr (by first | decide | exact Nat.le_refl _) (by rfl) (pa_cons (pv 2) (pa_cons (pv 4) (pa_cons (pv 6) pa_nil))))) 
  (pss_cons (ps_set (i := 11) sc_law.nd rfl (Or.inl rfl) (C8.pe_c c_law_edge hr (by first | decide | exact Nat.le_refl _) (by rfl) (pa_cons (pv 1) (pa_cons (C8.pe_c c_law_rows hr (by first | decide | exact Nat.le_refl _) (by rfl) (pa_cons (pv 1) (pa_cons (pv 2) (pa_cons (C8.pe_c c_law_size hr (by first | decide | exact Nat.le_refl _) (by rfl) (pa_cons (pv 1) (pa_cons pe_int (pa_cons pe_int pa_nil)))) pa_nil)))) (pa_cons (pe_lst (pa_cons (pv 10) (pa_cons (pv 8) pa_nil))) pa_nil))))) 
  (pss_cons (ps_set (i := 12) sc_law.nd rfl (Or.inl rfl) (C8.pe_c c_law_picked hr (by first | decide | exact Nat.le_refl _) (by rfl) (pa_cons (pv 1) (pa_cons (pv 2) pa_nil)))) 
  (pss_cons (ps_set (i := 13) sc_law.nd rfl (Or.inl rfl) (pe_ix (ix_seqK (K := K) rfl) (pe_lst (pa_cons (pe_callTy (cl_listK (K := K) rfl) (by rfl) B.b_list bt_list (pa_cons (pv 12) pa_nil)) (pa_cons (pe_callTy (cl_tupK (K := K) rfl) (by rfl) B.b_tuple bt_tuple (pa_cons (pv 12) pa_nil)) pa_nil))) (C8.pe_c c_law_draw hr (by first | decide | exact Nat.le_refl _) (by rfl) (pa_cons (pv 1) (pa_cons pe_int pa_nil))) (fun _ _ => rfl))) 
  (pss_cons (ps_setLc (i := 14) (own := [("k", 5)]) rfl sc_law.nd rfl rfl (sw_true rfl rfl rfl (by decide +kernel)) (pi_range1 (by rfl) B.b_range (pa_cons (pv 3) pa_nil)) (blkOk_by (by kernel_rfl)) (fun _ _ _ _ _ => (pg_name (i := 5) sc_law.nd rfl (Or.inl rfl))) (fun _ _ _ _ _ => pts_nil) (fun _ _ _ _ _ => (C8.pe_c c_law_great hr (by first | decide | exact Nat.le_refl _) (by rfl) (pa_cons (pv 1) (pa_cons (pe_op op_pow pe_int pe_int) pa_nil))))) 
  (pss_cons (ps_set (i := 15) sc_law.nd rfl (Or.inl rfl) (C8.pe_mk mk_Region hr (by decide) (by rfl) (pa_cons (pv 2) (pa_cons (pe_callTy (cl_listK (K := K) rfl) (by rfl) B.b_list bt_list (pa_cons (pv 11) pa_nil)) pa_nil)))) 
  (pss_cons (ps_set (i := 16) sc_law.nd rfl (Or.inl rfl) (pe_lst (pa_cons (pe_callTy (cl_listK (K := K) rfl) (by rfl) B.b_list bt_list (pa_cons (pv 4) pa_nil)) (pa_cons (pe_callTy (cl_listK (K := K) rfl) (by rfl) B.b_list bt_list (pa_cons (pv 6) pa_nil)) (pa_cons (pe_callTy (cl_listK (K := K) rfl) (by rfl) B.b_list bt_list (pa_cons (pv 7) pa_nil)) (pa_cons (pe_callTy (cl_listK (K := K) rfl) (by rfl) B.b_list bt_list (pa_cons (pv 14) pa_nil)) pa_nil)))))) 
  (pss_cons (ps_set (i := 17) sc_law.nd rfl (Or.inl rfl) (C8.pe_c c_census_of hr (by first | decide | exact Nat.le_refl _) (by rfl) (pa_cons (pv 15) (pa_cons (pe_ix (ix_seqK (K := K) rfl) (pv 16) pe_int (fun _ _ => rfl)) (pa_cons (pe_ix (ix_seqK (K := K) rfl) (pv 16) pe_int (fun _ _ => rfl)) pa_nil))))) 
  (pss_cons (ps_if (pt_not (pt_val (C8.pe_c c_law_same hr (by first | decide | exact Nat.le_refl _) (by rfl) (pa_cons (pv 17) (pa_cons (pv 10) pa_nil))))) (pss_one (ps_ret pe_bl)) pss_nil) 
  (pss_cons (ps_asg (pe_op (op_addUK (K := K) rfl) (pe_ix (ix_seqK (K := K) rfl) (pv 17) pe_int (fun _ _ => rfl)) pe_int) (pg_sub (pv 17) pe_int set_list)) 
  (pss_cons (ps_expr (pe_bm PySem.F.plainAttrs_list PySem.F.slot_list_append PySem.F.type_list_append mt_append (pv 17) (pa_cons pe_int pa_nil))) 
  (pss_cons (ps_if (pt_not (pt_val (C8.pe_c c_law_same hr (by first | decide | exact Nat.le_refl _) (by rfl) (pa_cons (C8.pe_c c_census_of hr (by first | decide | exact Nat.le_refl _) (by rfl) (pa_cons (pv 15) (pa_cons (pe_ix (ix_seqK (K := K) rfl) (pv 16) pe_int (fun _ _ => rfl)) (pa_cons (pe_ix (ix_seqK (K := K) rfl) (pv 16) pe_int (fun _ _ => rfl)) pa_nil)))) (pa_cons (C8.pe_c c_law_sums hr (by first | decide | exact Nat.le_refl _) (by rfl) (pa_cons (pv 2) (pa_cons (pv 4) (pa_cons (pv 7) pa_nil)))) pa_nil))))) (pss_one (ps_ret pe_bl)) pss_nil) 
  (pss_cons (ps_if (pt_not (pt_val (C8.pe_c c_law_same hr (by first | decide | exact Nat.le_refl _) (by rfl) (pa_cons (C8.pe_c c_census_of hr (by first | decide | exact Nat.le_refl _) (by rfl) (pa_cons (pv 15) (pa_cons (pe_ix (ix_seqK (K := K) rfl) (pv 16) pe_int (fun _ _ => rfl)) (pa_cons (pe_ix (ix_seqK (K := K) rfl) (pv 16) pe_int (fun _ _ => rfl)) pa_nil)))) (pa_cons (C8.pe_c c_law_sums hr (by first | decide | exact Nat.le_refl _) (by rfl) (pa_cons (pv 2) (pa_cons (pv 14) (pa_cons (pv 6) pa_nil)))) pa_nil))))) (pss_one (ps_ret pe_bl)) pss_nil) 
  (pss_cons (ps_if (pt_not (pt_val (C8.pe_c c_law_same hr (by first | decide | exact Nat.le_refl _) (by rfl) (pa_cons (C8.pe_c c_census_of hr (by first | decide | exact Nat.le_refl _) (by rfl) (pa_cons (pv 15) (pa_cons (pe_ix (ix_seqK (K := K) rfl) (pv 16) pe_int (fun _ _ => rfl)) (pa_cons (pe_ix (ix_seqK (K := K) rfl) (pv 16) pe_int (fun _ _ => rfl)) pa_nil)))) (pa_cons (pv 10) pa_nil))))) (pss_one (ps_ret pe_bl)) pss_nil) 
  (pss_cons (ps_if (PW.pt (pw_or (pt_not (pt_val (C8.pe_c c_law_reads hr (by first | decide | exact Nat.le_refl _) (by rfl) (pa_cons (pv 15) (pa_cons (pv 10) (pa_cons (pv 11) (pa_cons (pv 12) (pa_cons (pv 13) pa_nil)))))))) (pw_or1 (pt_not (pt_val (C8.pe_c c_law_reads hr (by first | decide | exact Nat.le_refl _) (by rfl) (pa_cons (pv 15) (pa_cons (pv 8) (pa_cons (pv 11) (pa_cons (pv 12) (pa_cons (pv 13) pa_nil))))))))))) (pss_one (ps_ret pe_bl)) pss_nil) 
  (pss_one (ps_ret (pe_and (C8.pe_c c_law_same hr (by first | decide | exact Nat.le_refl _) (by rfl) (pa_cons (pv 16) (pa_cons (pe_lst (pa_cons (pv 4) (pa_cons (pv 6) (pa_cons (pv 7) (pa_cons (pv 14) pa_nil))))) pa_nil))) (pe_one (C8.pe_c c_law_same hr (by first | decide | exact Nat.le_refl _) (by rfl) (pa_cons (pe_fldK (K := K) rfl (pv 15) rfl) (pa_cons (pe_callTy (cl_tupK (K := K) rfl) (by rfl) B.b_tuple bt_tuple (pa_cons (pv 11) pa_nil)) pa_nil))))))))))))))))))))))))))))), ?_⟩
  -- pool = _law_pool(script)
  refine ⟨_, rfl, a, ns, rfl, hS, hl, fun p H0 hP e0 => ?_⟩
  have eG : Ex H0 H0 := Ex.refl _
  have r1 : Rep K none H0 .pool (.ref p) := .pool hP
  have sz : ∀ {f : Bool} {σ : L2.St} {G : Hp} {E : XK} {a b : Int}, σ[1]? = some (some (.ref p)) → Ex H0 G → (1 ≤ a ∧ a ≤ 1000 ∧ 1 ≤ b ∧ b ≤ 1000) → EvS K true (tCall (sp_law_size K) [] E (tCons (tVar 1) (tCons (tC (.int a)) (tCons (tC (.int b)) tNil)))) σ G (IntP fun j => 0 ≤ j ∧ j ≤ max a (b - 1)) := fun {f σ G E a b} h e hab => evS_call1 (ea_cons (ev_var h (r1.mono e)) (ea_cons ev_int (ea_cons ev_int ea_nil))) (spF_useS (out := fun i d => IntP (fun j => 0 ≤ j ∧ j ≤ max i.1 (i.2 - 1)) d) (a, b) hab)
  refine s_asgS (K := K) (f := true) eG (iS_add (p1 := fun j => j = 1) (p3 := fun j => 1 ≤ j ∧ j ≤ 7) (ev_int.toI rfl) (sz (f := true) rfl (Ex.refl _) (by decide)) (by intro i j h1 h2; omega)) fun d v G1 H1 pd g1 rv => ?_
  obtain ⟨n, rfl, hn⟩ := pd
  cases rv
  refine s_asgS (K := K) (f := true) g1.sub (sz (f := true) rfl g1.e (by decide)) fun d v G2 H2 pd g2 rv => ?_
  obtain ⟨fam, rfl, hf⟩ := pd
  cases rv
  have hf : 0 ≤ fam ∧ fam ≤ 6 := by
    have : max (3 : Int) (7 - 1) = 6 := by decide
    rw [this] at hf; exact hf
  have g12 := g1.trans g2
  have lf : (rng 0 fam.toNat).length ≤ 50000 := by rw [rng_length]; omega
  have gr : ∀ {f : Bool} {σ : L2.St} {G : Hp} {E : XK}, σ[1]? = some (some (.ref p)) → Ex H0 G → EvS K true (tCall (sp_law_great K) [] E (tCons (tVar 1) (tCons (tOp (rI CPow fun i j => .int (i ^ j.toNat)) (tC (.int 10)) (tC (.int 12))) tNil))) σ G (IntP fun j => 1 ≤ j ∧ j ≤ 1000000000000) := fun {f σ G E} h e => evS_call1 (ea_cons (ev_var h (r1.mono e)) (ea_cons t12 ea_nil)) (spF_useS (out := fun i d => IntP (fun j => 1 ≤ j ∧ j ≤ i) d) (1000000000000 : Int) (by decide))
  -- heads
  refine s_asgS (K := K) (f := true) g2.sub (evS_intLc (p := fun j => 1 ≤ j ∧ j ≤ 1000000000000) (ei_rng1 (n := fam) (ea_cons (ev_vi rfl) ea_nil) (by omega) (by omega)) lf (S := fun a G1 σ' => σ' = [some (.ref _), some (.ref p), some (.int n), some (.int fam), none, some (.int a), none, none, none, none, none, none, none, none, none, none, none, none]) (by rintro a G1 σ' rfl; rfl) (fun a _ G1 _ => tg_int)
    (fun a ma G3 e3 σ' hs => by subst hs; exact gr (f := true) rfl (g12.e.trans e3))) fun d v3 G3 H3 pd g3 r3 => ?_
  obtain ⟨heads, rfl, lh, hh⟩ := pd
  rw [rng_length] at lh
  have g13 := g12.trans g3
  -- placing
  refine s_asgS (K := K) (f := true) g3.sub (evS_intLc (p := fun j => 0 ≤ j ∧ j < n) (ei_rng1 (n := fam) (ea_cons (ev_vi rfl) ea_nil) (by omega) (by omega)) lf (S := fun a G1 σ' => σ' = [some (.ref _), some (.ref p), some (.int n), some (.int fam), some v3, some (.int a), none, none, none, none, none, none, none, none, none, none, none, none]) (by rintro a G1 σ' rfl; rfl) (fun a _ G1 _ => tg_int)
    (fun a ma G4 e4 σ' hs => by subst hs; exact ev_draw (ea_cons (ev_var rfl (r1.mono (g13.e.trans e4))) (ea_cons (ev_vi rfl) ea_nil)) (by omega) (by omega))) fun d v4 G4 H4 pd g4 r4 => ?_
  obtain ⟨placing, rfl, lp, hp⟩ := pd
  rw [rng_length] at lp
  have g14 := g13.trans g4
  -- second
  refine s_asgS (K := K) (f := true) g4.sub (evS_intLc (p := fun j => 0 ≤ j ∧ j < n) (ei_rng1 (n := fam) (ea_cons (ev_vi rfl) ea_nil) (by omega) (by omega)) lf (S := fun a G1 σ' => σ' = [some (.ref _), some (.ref p), some (.int n), some (.int fam), some v3, some (.int a), some v4, none, none, none, none, none, none, none, none, none, none, none]) (by rintro a G1 σ' rfl; rfl) (fun a _ G1 _ => tg_int)
    (fun a ma G5 e5 σ' hs => by subst hs; exact ev_draw (ea_cons (ev_var rfl (r1.mono (g14.e.trans e5))) (ea_cons (ev_vi rfl) ea_nil)) (by omega) (by omega))) fun d v5 G5 H5 pd g5 r5 => ?_
  obtain ⟨second, rfl, ls, hs⟩ := pd
  rw [rng_length] at ls
  have g15 := g14.trans g5
  -- free
  refine s_asgS (K := K) (f := true) g5.sub (evS_intLc (p := fun j => 0 ≤ j ∧ j ≤ 100000000000000) (ei_rng1 (n := n) (ea_cons (ev_vi rfl) ea_nil) (by omega) (by omega)) (by rw [rng_length]; omega) (S := fun a G1 σ' => σ' = [some (.ref _), some (.ref p), some (.int n), some (.int fam), some v3, none, some v4, some v5, none, some (.int a), none, none, none, none, none, none, none, none]) (by rintro a G1 σ' rfl; rfl) (fun a _ G1 _ => tg_int)
    (fun a ma G6 e6 σ' hs => by subst hs; exact evS_call1 (ea_cons (ev_var rfl (r1.mono (g15.e.trans e6))) ea_nil) (spF_useS () trivial))) fun d v6 G6 H6 pd g6 r6 => ?_
  obtain ⟨free, rfl, lfr, hfr⟩ := pd
  rw [rng_length] at lfr
  have g16 := g15.trans g6
  have w1 : worldOk n heads placing := ⟨by omega, by omega, hp⟩
  have w2 : worldOk n heads second := ⟨by omega, by omega, hs⟩
  -- sums
  have su : ∀ {f : Bool} {σ : L2.St} {G : Hp} {E : XK} {th tp : TE} {xs ys : List Int}, σ[2]? = some (some (.int n)) → Ev K false th σ G (.lst (xs.map .int)) → Ev K false tp σ G (.lst (ys.map .int)) → xs.length = fam.toNat → ys.length = fam.toNat → Ev K true (tCall (sp_law_sums K) [] E (tCons (tVar 2) (tCons th (tCons tp tNil)))) σ G (.lst ((sumsOf n xs ys).map .int)) := fun {f σ G E th tp xs ys} h h1 h2 e1 e2 => ev_call (ea_cons (ev_vi h) (ea_cons h1 (ea_cons h2 ea_nil))) (spF_use (o := fun i : Int × List Int × List Int => .lst ((sumsOf i.1 i.2.1 i.2.2).map .int)) (n, xs, ys) ⟨by show 0 ≤ n; omega, by show n ≤ 1000; omega, by show xs.length ≤ 1000; omega, by show xs.length = ys.length; omega⟩)
  refine s_asg (K := K) (f := false) g6.sub (su (f := true) rfl (ev_var rfl (r3.old.mono ((g4.e.trans g5.e).trans g6.e))) (ev_var rfl (r4.old.mono (g5.e.trans g6.e))) lh lp).old fun v7 G7 H7 g7 r7 => ?_
  have g17 := g16.trans g7
  have lsum : ∀ {xs ys : List Int}, (sumsOf n xs ys).length = n.toNat := by intro xs ys; unfold sumsOf; rw [List.length_map, rng_length]
  -- lines
  refine s_asgS (K := K) (f := false) (P := fun d => ∃ ls : List Line, d = .lst (ls.map lineD) ∧ ls.length ≤ 1000 ∧ ∀ l ∈ ls, lineOk n l) g7.sub (evS_call (eaS_cons (ev_var rfl (r1.mono g17.e)).toS (eaS_cons (P := fun d => ∃ ls : List Line, d = .lst (ls.map lineD) ∧ ls.length ≤ 1000 ∧ ∀ l ∈ ls, lineOk n l) (evS_call (eaS_cons (ev_var rfl (r1.mono g17.e)).toS (eaS_cons (ev_vi rfl).toS (eaS_cons (sz (f := true) rfl g17.e (by decide)).old eaS_nil))) ?_)
    (eaS_cons (ev_lst (f := false) (ea_cons (ev_var rfl r7.old) (ea_cons (ev_var rfl (r6.old.mono g7.e)) ea_nil)) (Nat.le_of_ble_eq_true rfl)).toS eaS_nil))) ?_) fun d v8 G8 H8 pd g8 r8 => ?_
  · rintro _ ⟨_, _, rfl, rfl, _, _, rfl, rfl, _, _, rfl, ⟨many, rfl, hm⟩, rfl⟩
    have hm : 0 ≤ many ∧ many ≤ max 4 (9 - 1) := hm
    have : max (4 : Int) (9 - 1) = 8 := by decide
    exact spF_useS (out := fun (i : Int × Int) d => ∃ ls : List Line, d = .lst (ls.map lineD) ∧ ls.length ≤ 1000 ∧ ∀ l ∈ ls, lineOk i.1 l) (n, many) ⟨by show 1 ≤ n; omega, by show n ≤ 1000; omega, by show 0 ≤ many; omega, by show many ≤ 1000; omega⟩
  · rintro _ ⟨_, _, rfl, rfl, _, _, rfl, ⟨ls, rfl, hl1, hl2⟩, _, _, rfl, rfl, rfl⟩
    exact spF_useS (out := fun (i : Int × List Line × List (List Int)) d => ∃ ls : List Line, d = .lst (ls.map lineD) ∧ ls.length ≤ 1000 ∧ ∀ l ∈ ls, lineOk i.1 l) (n, ls, [sumsOf n heads placing, free]) ⟨hl1, hl2, rfl, fun c hc => by
      rcases List.mem_cons.mp hc with rfl | hc
      · rw [lsum]; show (n.toNat : Int) = n; omega
      · rw [List.mem_singleton.mp hc, lfr]; show (n.toNat : Int) = n; omega⟩
  obtain ⟨lines, rfl, ll, hlines⟩ := pd
  have g18 := g17.trans g8
  -- row
  refine s_asgS (K := K) (f := true) g8.sub (evS_call1 (ea_cons (ev_var rfl (r1.mono g18.e)) (ea_cons (ev_vi rfl) ea_nil)) (spF_useS (out := fun (i : Int) d => ∃ ns : List Int, d = .lst (ns.map .int) ∧ ns.length ≤ 1000 ∧ ∀ v ∈ ns, 0 ≤ v ∧ v < i) n ⟨by omega, by omega⟩)) fun d v9 G9 H9 pd g9 r9 => ?_
  obtain ⟨row, rfl, lrow, hrow⟩ := pd
  have g19 := g18.trans g9
  -- some
  refine s_asgS (K := K) (f := false) (P := fun d => ∃ b, d = seqD b (row.map .int)) g9.sub (evS_op (f1 := false) (P1 := fun d => d = .lst [.lst (row.map .int), .tup (row.map .int)]) (P2 := IntP fun i => 0 ≤ i ∧ i < 2) (ev_lst (ea_cons (ev_cb (ea_cons (ev_var rfl r9.old) ea_nil) c_listL) (ea_cons (ev_cb (ea_cons (ev_var rfl r9.old) ea_nil) c_tupL) ea_nil)) (Nat.le_of_ble_eq_true rfl)).toS (ev_draw (ea_cons (ev_var rfl (r1.mono g19.e)) (ea_cons ev_int ea_nil)) (by decide) (by decide)) ?_) fun d v10 G10 H10 pd g10 r10 => ?_
  · rintro _ _ rfl ⟨j, rfl, j1, j2⟩
    have hj : j = 0 ∨ j = 1 := by omega
    rcases hj with rfl | rfl
    · exact ⟨_, ⟨false, rfl⟩, v_ixL rfl⟩
    · exact ⟨_, ⟨true, rfl⟩, v_ixL rfl⟩
  obtain ⟨b, rfl⟩ := pd
  have g110 := g19.trans g10
  -- others
  refine s_asgS (K := K) (f := true) g10.sub (evS_intLc (p := fun j => 1 ≤ j ∧ j ≤ 1000000000000) (ei_rng1 (n := fam) (ea_cons (ev_vi rfl) ea_nil) (by omega) (by omega)) lf (S := fun a G1 σ' => σ' = [some (.ref _), some (.ref p), some (.int n), some (.int fam), some v3, some (.int a), some v4, some v5, some v6, none, some v7, some v8, some v9, some v10, none, none, none, none]) (by rintro a G1 σ' rfl; rfl) (fun a _ G1 _ => tg_int)
    (fun a ma G3 e3 σ' hs => by subst hs; exact gr (f := true) rfl (g110.e.trans e3))) fun d v11 G11 H11 pd g11 r11 => ?_
  obtain ⟨others, rfl, lo, ho⟩ := pd
  rw [rng_length] at lo
  have g111 := g110.trans g11
  have e8_11 := (g9.e.trans g10.e).trans g11.e
  -- town
  have hgood : goodLines n lines := ⟨by omega, ll, fun l hl => ⟨(hlines l hl).1.2.1, fLine_ok (hlines l hl)⟩⟩
  refine s_asg (K := K) (f := false) g11.sub (ev_mk (args := fun i : Int × List Line => [.int i.1, .lst (i.2.map lineD)]) (pre := fun i => goodLines i.1 i.2) (names := ["villages", "lines"]) (out := fun i => [.int i.1, .tup (i.2.map lineD)]) (n, lines) hgood (ea_cons (ev_vi rfl) (ea_cons (ev_cb (ea_cons (ev_var rfl (r8.old.mono e8_11)) ea_nil) c_listL) ea_nil))) fun v12 G12 H12 g12' r12 => ?_
  have g112 := g111.trans g12'
  -- given
  have e3_11 := (((g4.e.trans g5.e).trans g6.e).trans (g7.e.trans g8.e)).trans e8_11
  have e4_11 := ((g5.e.trans g6.e).trans (g7.e.trans g8.e)).trans e8_11
  have e5_11 := (g6.e.trans (g7.e.trans g8.e)).trans e8_11
  have e6_11 := (g7.e.trans g8.e).trans e8_11
  have e7_11 := g8.e.trans e8_11
  refine s_asg (K := K) (f := false) (d := .lst [.lst (heads.map .int), .lst (placing.map .int), .lst (second.map .int), .lst (others.map .int)]) g12'.sub (ev_lst (ea_cons (ev_cb (ea_cons (ev_var rfl (r3.old.mono (e3_11.trans g12'.e))) ea_nil) c_listL) (ea_cons (ev_cb (ea_cons (ev_var rfl (r4.old.mono (e4_11.trans g12'.e))) ea_nil) c_listL) (ea_cons (ev_cb (ea_cons (ev_var rfl (r5.old.mono (e5_11.trans g12'.e))) ea_nil) c_listL) (ea_cons (ev_cb (ea_cons (ev_var rfl (r11.old.mono g12'.e)) ea_nil) c_listL) ea_nil)))) (Nat.le_of_ble_eq_true rfl)) fun v13 G13 H13 g13' r13 => ?_
  have g113 := g112.trans g13'
  have eL := g12'.e.trans g13'.e
  have cen : ∀ {f : Bool} {σ : L2.St} {G : Hp} {E : XK} {i j : Int} {xs ys : List Int}, σ[15]? = some (some v12) → σ[16]? = some (some v13) → Ex G13 G → atI [D.lst (heads.map .int), .lst (placing.map .int), .lst (second.map .int), .lst (others.map .int)] i = some (.lst (xs.map .int)) → atI [D.lst (heads.map .int), .lst (placing.map .int), .lst (second.map .int), .lst (others.map .int)] j = some (.lst (ys.map .int)) → worldOk n xs ys → Ev K true (tCall (sp_census_of K C) [] E (tCons (tVar 15) (tCons (tOp (rIx K) (tVar 16) (tC (.int i))) (tCons (tOp (rIx K) (tVar 16) (tC (.int j))) tNil)))) σ G (.lst ((sumsOf n xs ys).map .int)) :=
    fun {f σ G E i j xs ys} s1 s2 e h1 h2 hw => (ev_call (ea_cons (ev_var s1 (r12.mono (g13'.e.trans e))) (ea_cons (ev_op (f1 := false) (ev_var s2 (r13.mono e)) ev_int (v_ixL h1)) (ea_cons (ev_op (f1 := false) (ev_var s2 (r13.mono e)) ev_int (v_ixL h2)) ea_nil))) (spF_use (o := fun i : (Int × List Line) × List Int × List Int => .lst ((census i.1.1 i.2.1 i.2.2).map .int)) ((n, lines), xs, ys) ⟨by show 0 ≤ n; omega, by show n ≤ 1000; omega, hw⟩)).is (by rw [census_sums (by show 0 ≤ n; omega) hw])
  have plS : ∀ {xs ys : List Int}, Pl 8 (.lst ((sumsOf n xs ys).map .int)) := Pl.ints (by rw [lsum]; omega)
  -- got
  refine s_asg (K := K) (f := true) g13'.sub (cen (f := true) rfl rfl (Ex.refl _) rfl rfl w1) fun v14 G14 H14 g14' r14 => ?_
  obtain ⟨x, us, rfl, fx, hx, rr⟩ := id r14.lst_inv
  have hu := rr.ints
  subst hu
  have fx : H13 x = none := fx
  have n13 : G13 x = none := Evl.fresh_back g13'.sub fx
  refine s_ifc (K := K) (x := false) g14'.sub ((et_not (et_B (same (f := false) (ev_var rfl r14.old) (ev_var rfl (r7.old.mono ((e7_11.trans eL).trans g14'.e))) rfl plS))).is rfl) (fun hh => by cases hh) fun _ G15 H15 g15' => ?_
  have gl : Grow G13 H13 G13 H15 := (g14'.trans g15').less (Ex.refl _) (g14'.e.trans g15'.e)
  have x15 : H15 x = some (.lst ((sumsOf n heads placing).map V.int)) := g15'.sub _ _ (g15'.e _ _ hx)
  -- got[0] = got[0] + 1
  refine s_setH (K := K) (f := false) (j := 0) (P := fun d => True) rfl x15 n13 (by rw [List.length_map, lsum]; omega) ((eh_own x15 n13 gl.sub (P := fun d => ∃ i, d = .int i) ?_ (by rintro _ ⟨i, rfl⟩; rfl)).imp fun _ _ => trivial) ev_int fun d v15 G16 H16 _ g16' r15 x16 n16 => ?_
  · refine (ev_op (f1 := false) (ev_op (f1 := false) (ev_var rfl (rep_ownN n13 (RepA.ofInts (sumsOf n heads placing)))) ev_int (v_ixL (at_int (i := 0) (by omega) (by rw [lsum]; omega)))) ev_int va_int).toS.imp ?_
    rintro _ rfl; exact ⟨_, rfl⟩
  have gA : Grow G13 H13 G16 _ := (gl.trans g16').put (o := .lst (((sumsOf n heads placing).map V.int).set 0 v15)) fx n16
  -- got.append(0)
  refine s_app (K := K) (f := false) (P := fun d => d = .int 0) gA.sub rfl upd_same n16 (by rw [List.length_set, List.length_map, lsum]; omega) ev_int.toS fun d v16 G17 H17 _ g17' r16 x17 n17 => ?_
  have gB : Grow G13 H13 G17 _ := (gA.trans g17').put (o := .lst (((sumsOf n heads placing).map V.int).set 0 v15 ++ [v16])) fx n17
  -- the other censuses
  refine s_ifc (K := K) (x := false) gB.sub ((et_not (et_B (same (f := false) (cen (f := true) rfl rfl gB.e rfl rfl w2).old (su (f := true) rfl (ev_var rfl (r3.old.mono ((e3_11.trans eL).trans gB.e))) (ev_var rfl (r5.old.mono ((e5_11.trans eL).trans gB.e))) lh ls).old rfl plS))).is rfl) (fun hh => by cases hh) fun _ G18 H18 g18' => ?_
  have gC := gB.trans g18'
  refine s_ifc (K := K) (x := false) g18'.sub ((et_not (et_B (same (f := false) (cen (f := true) rfl rfl gC.e rfl rfl ⟨by omega, by omega, hp⟩).old (su (f := true) rfl (ev_var rfl (r11.old.mono (eL.trans gC.e))) (ev_var rfl (r4.old.mono ((e4_11.trans eL).trans gC.e))) lo lp).old rfl plS))).is rfl) (fun hh => by cases hh) fun _ G19 H19 g19' => ?_
  have gD := gC.trans g19'
  refine s_ifc (K := K) (x := false) g19'.sub ((et_not (et_B (same (f := false) (cen (f := true) rfl rfl gD.e rfl rfl w1).old (ev_var rfl (r7.old.mono ((e7_11.trans eL).trans gD.e))) rfl plS))).is rfl) (fun hh => by cases hh) fun _ G20 H20 g20' => ?_
  have gE := gD.trans g20'
  -- the reads
  have rd : ∀ {f : Bool} {σ : L2.St} {G : Hp} {E : XK} {tc : TE} {cs : List Int}, σ[15]? = some (some v12) → σ[11]? = some (some v8) → σ[12]? = some (some v9) → σ[13]? = some (some v10) → Ex G13 G → Ev K false tc σ G (.lst (cs.map .int)) → cs.length = n.toNat → Ev K f (tCall (sp_law_reads K C) [] E (tCons (tVar 15) (tCons tc (tCons (tVar 11) (tCons (tVar 12) (tCons (tVar 13) tNil)))))) σ G (.bl true) :=
    fun {f σ G E tc cs} s1 s2 s3 s4 e hc hn => (ev_call (f := true) (ea_cons (ev_var s1 (r12.mono (g13'.e.trans e))) (ea_cons hc (ea_cons (ev_var s2 (r8.old.mono ((e8_11.trans eL).trans e))) (ea_cons (ev_var s3 (r9.old.mono (((g10.e.trans g11.e).trans eL).trans e))) (ea_cons (ev_var s4 (r10.old.mono ((g11.e.trans eL).trans e))) ea_nil))))) (spF_use (o := fun _ => .bl true) (⟨n, lines, cs, row, b⟩ : ReadsI) ⟨ll, hlines, by show (cs.length : Int) = n; omega, by show n ≤ 1000; omega, lrow, hrow⟩)).old.sc rfl
  refine s_ifc (K := K) (x := false) g20'.sub ((et_or (x := false) (y := false) ((et_not (et_B (rd (f := false) rfl rfl rfl rfl gE.e (ev_var rfl (r7.old.mono ((e7_11.trans eL).trans gE.e))) lsum))).is rfl) fun _ => (et_not (et_B (rd (f := false) rfl rfl rfl rfl gE.e (ev_var rfl (r6.old.mono ((e6_11.trans eL).trans gE.e))) lfr))).is rfl).is rfl) (fun hh => by cases hh) fun _ G21 H21 g21' => ?_
  have gF := gE.trans g21'
  have eF := eL.trans gF.e
  refine s_ret (K := K) (f := true) (d := .bl (true && true)) g21'.sub (ev_andV (same (f := true) (ev_var rfl (r13.mono gF.e)) (ev_lst (ea_cons (ev_var rfl (r3.old.mono (e3_11.trans eF))) (ea_cons (ev_var rfl (r4.old.mono (e4_11.trans eF))) (ea_cons (ev_var rfl (r5.old.mono (e5_11.trans eF))) (ea_cons (ev_var rfl (r11.old.mono eF)) ea_nil)))) (Nat.le_of_ble_eq_true rfl)) rfl ?_) fun _ => same (f := true) (ev_regL R (ev_var rfl (r12.mono (g13'.e.trans gF.e)))) (ev_cb (ea_cons (ev_var rfl (r8.old.mono (e8_11.trans eF))) ea_nil) c_tupL) rfl (Pl.lines (by omega) fun l hl => by have := (hlines l hl).1.2.1; omega)) ?_
  · refine .lst (Nat.le_of_ble_eq_true rfl) fun d hd => ?_
    simp only [List.mem_cons, List.not_mem_nil, or_false] at hd
    rcases hd with rfl | rfl | rfl | rfl
    · exact Pl.ints (by omega)
    · exact Pl.ints (by omega)
    · exact Pl.ints (by omega)
    · exact Pl.ints (by omega)
  · intro v G' H' g r
    cases r
    exact q _
-- @CLASS R Region villages lines
theorem all_mk {l : PySem.W.OpenLaw} {w : World} {K : PySem.W.Frag} {h : Heap} {mg : Str → Option Value} {fa C_Region f0 f1 f2 f3 f4 f5 f6 f7 f8 f9 f10 f11 f12 f13 f14 f15 f16 f17 f18 f19 f20 : Addr} (X : K.In h) (G : h.Ns mainGlobals mg) (hfa : mg "law" = some (.ref fa))
    {od0 an0 od1 an1 od2 an2 od3 an3 od4 an4 od5 an5 od6 an6 od7 an7 od8 an8 od9 an9 od10 an10 od11 an11 od12 an12 od13 an13 od14 an14 od15 an15 od16 an16 od17 an17 od18 an18 od19 an19 od20 an20 : Option Addr} {sl0 sl1 sl2 sl3 sl4 sl5 sl6 sl7 sl8 sl9 sl10 sl11 sl12 sl13 sl14 sl15 sl16 sl17 sl18 sl19 sl20 : Array (Option Value)} {oc0 kV0 dc0 pm0 cd0 ct0 oc1 kV1 dc1 pm1 cd1 ct1 oc2 kV2 dc2 pm2 cd2 ct2 oc3 kV3 dc3 pm3 cd3 ct3 oc4 kV4 dc4 pm4 cd4 ct4 oc5 kV5 dc5 pm5 cd5 ct5 oc6 kV6 dc6 pm6 cd6 ct6 oc7 kV7 dc7 pm7 cd7 ct7 oc8 kV8 dc8 pm8 cd8 ct8 oc9 kV9 dc9 pm9 cd9 ct9 oc10 kV10 dc10 pm10 cd10 ct10 oc11 kV11 dc11 pm11 cd11 ct11 oc12 kV12 dc12 pm12 cd12 ct12 oc13 kV13 dc13 pm13 cd13 ct13 oc14 kV14 dc14 pm14 cd14 ct14 oc15 kV15 dc15 pm15 cd15 ct15 oc16 kV16 dc16 pm16 cd16 ct16 oc17 kV17 dc17 pm17 cd17 ct17 oc18 kV18 dc18 pm18 cd18 ct18 oc19 kV19 dc19 pm19 cd19 ct19 oc20 kV20 dc20 pm20 cd20 ct20 : Value}
    (aC_Region : PySem.W.nsIn K mainGlobals "Region" = some (some (.ref C_Region)))
    (a0 : PySem.W.nsIn K mainGlobals "heads_in" = some (some (.ref f0)))
    (l0 : K.lookup f0 = some ⟨oc0, od0, .func (PySem.W.fnOf "heads_in" "heads_in" (defArgs s_heads_in) (defBody s_heads_in) (defScope s_heads_in) .none kV0 dc0 pm0 an0 cd0 ct0), sl0⟩)
    (c0 : PySem.W.codeIn K cd0 "heads_in" = true)
    (k0 : PySem.W.keepIn K (.ref f0) = true)
    (a1 : PySem.W.nsIn K mainGlobals "runs_in" = some (some (.ref f1)))
    (l1 : K.lookup f1 = some ⟨oc1, od1, .func (PySem.W.fnOf "runs_in" "runs_in" (defArgs s_runs_in) (defBody s_runs_in) (defScope s_runs_in) .none kV1 dc1 pm1 an1 cd1 ct1), sl1⟩)
    (c1 : PySem.W.codeIn K cd1 "runs_in" = true)
    (k1 : PySem.W.keepIn K (.ref f1) = true)
    (a2 : PySem.W.nsIn K mainGlobals "running_lines" = some (some (.ref f2)))
    (l2 : K.lookup f2 = some ⟨oc2, od2, .func (PySem.W.fnOf "running_lines" "running_lines" (defArgs s_running_lines) (defBody s_running_lines) (defScope s_running_lines) .none kV2 dc2 pm2 an2 cd2 ct2), sl2⟩)
    (c2 : PySem.W.codeIn K cd2 "running_lines" = true)
    (k2 : PySem.W.keepIn K (.ref f2) = true)
    (a3 : PySem.W.nsIn K mainGlobals "census_of" = some (some (.ref f3)))
    (l3 : K.lookup f3 = some ⟨oc3, od3, .func (PySem.W.fnOf "census_of" "census_of" (defArgs s_census_of) (defBody s_census_of) (defScope s_census_of) .none kV3 dc3 pm3 an3 cd3 ct3), sl3⟩)
    (c3 : PySem.W.codeIn K cd3 "census_of" = true)
    (k3 : PySem.W.keepIn K (.ref f3) = true)
    (a4 : PySem.W.nsIn K mainGlobals "fault_of_stops" = some (some (.ref f4)))
    (l4 : K.lookup f4 = some ⟨oc4, od4, .func (PySem.W.fnOf "fault_of_stops" "fault_of_stops" (defArgs s_fault_of_stops) (defBody s_fault_of_stops) (defScope s_fault_of_stops) .none kV4 dc4 pm4 an4 cd4 ct4), sl4⟩)
    (c4 : PySem.W.codeIn K cd4 "fault_of_stops" = true)
    (k4 : PySem.W.keepIn K (.ref f4) = true)
    (a5 : PySem.W.nsIn K mainGlobals "fault_of_line" = some (some (.ref f5)))
    (l5 : K.lookup f5 = some ⟨oc5, od5, .func (PySem.W.fnOf "fault_of_line" "fault_of_line" (defArgs s_fault_of_line) (defBody s_fault_of_line) (defScope s_fault_of_line) .none kV5 dc5 pm5 an5 cd5 ct5), sl5⟩)
    (c5 : PySem.W.codeIn K cd5 "fault_of_line" = true)
    (k5 : PySem.W.keepIn K (.ref f5) = true)
    (a6 : PySem.W.findIn K (.ref C_Region) "__init__" = some (some (.ref f6)))
    (i6 : PySem.W.isFn K (.ref f6) = true)
    (l6 : K.lookup f6 = some ⟨oc6, od6, .func (PySem.W.fnOf "__init__" "Region.__init__" (defArgs s_Region_initM) (defBody s_Region_initM) (defScope s_Region_initM) .none kV6 dc6 pm6 an6 cd6 ct6), sl6⟩)
    (c6 : PySem.W.codeIn K cd6 "Region.__init__" = true)
    (k6 : PySem.W.keepIn K (.ref f6) = true)
    (a7 : PySem.W.nsIn K mainGlobals "_law_draw" = some (some (.ref f7)))
    (l7 : K.lookup f7 = some ⟨oc7, od7, .func (PySem.W.fnOf "_law_draw" "_law_draw" (defArgs s_law_draw) (defBody s_law_draw) (defScope s_law_draw) .none kV7 dc7 pm7 an7 cd7 ct7), sl7⟩)
    (c7 : PySem.W.codeIn K cd7 "_law_draw" = true)
    (k7 : PySem.W.keepIn K (.ref f7) = true)
    (a8 : PySem.W.nsIn K mainGlobals "_law_pool" = some (some (.ref f8)))
    (l8 : K.lookup f8 = some ⟨oc8, od8, .func (PySem.W.fnOf "_law_pool" "_law_pool" (defArgs s_law_pool) (defBody s_law_pool) (defScope s_law_pool) .none kV8 dc8 pm8 an8 cd8 ct8), sl8⟩)
    (c8 : PySem.W.codeIn K cd8 "_law_pool" = true)
    (k8 : PySem.W.keepIn K (.ref f8) = true)
    (a9 : PySem.W.nsIn K mainGlobals "_law_same" = some (some (.ref f9)))
    (l9 : K.lookup f9 = some ⟨oc9, od9, .func (PySem.W.fnOf "_law_same" "_law_same" (defArgs s_law_same) (defBody s_law_same) (defScope s_law_same) .none kV9 dc9 pm9 an9 cd9 ct9), sl9⟩)
    (c9 : PySem.W.codeIn K cd9 "_law_same" = true)
    (k9 : PySem.W.keepIn K (.ref f9) = true)
    (a10 : PySem.W.nsIn K mainGlobals "_law_stops" = some (some (.ref f10)))
    (l10 : K.lookup f10 = some ⟨oc10, od10, .func (PySem.W.fnOf "_law_stops" "_law_stops" (defArgs s_law_stops) (defBody s_law_stops) (defScope s_law_stops) .none kV10 dc10 pm10 an10 cd10 ct10), sl10⟩)
    (c10 : PySem.W.codeIn K cd10 "_law_stops" = true)
    (k10 : PySem.W.keepIn K (.ref f10) = true)
    (a11 : PySem.W.nsIn K mainGlobals "_law_great" = some (some (.ref f11)))
    (l11 : K.lookup f11 = some ⟨oc11, od11, .func (PySem.W.fnOf "_law_great" "_law_great" (defArgs s_law_great) (defBody s_law_great) (defScope s_law_great) .none kV11 dc11 pm11 an11 cd11 ct11), sl11⟩)
    (c11 : PySem.W.codeIn K cd11 "_law_great" = true)
    (k11 : PySem.W.keepIn K (.ref f11) = true)
    (a12 : PySem.W.nsIn K mainGlobals "_law_sums" = some (some (.ref f12)))
    (l12 : K.lookup f12 = some ⟨oc12, od12, .func (PySem.W.fnOf "_law_sums" "_law_sums" (defArgs s_law_sums) (defBody s_law_sums) (defScope s_law_sums) .none kV12 dc12 pm12 an12 cd12 ct12), sl12⟩)
    (c12 : PySem.W.codeIn K cd12 "_law_sums" = true)
    (k12 : PySem.W.keepIn K (.ref f12) = true)
    (a13 : PySem.W.nsIn K mainGlobals "_law_size" = some (some (.ref f13)))
    (l13 : K.lookup f13 = some ⟨oc13, od13, .func (PySem.W.fnOf "_law_size" "_law_size" (defArgs s_law_size) (defBody s_law_size) (defScope s_law_size) .none kV13 dc13 pm13 an13 cd13 ct13), sl13⟩)
    (c13 : PySem.W.codeIn K cd13 "_law_size" = true)
    (k13 : PySem.W.keepIn K (.ref f13) = true)
    (a14 : PySem.W.nsIn K mainGlobals "_law_entry" = some (some (.ref f14)))
    (l14 : K.lookup f14 = some ⟨oc14, od14, .func (PySem.W.fnOf "_law_entry" "_law_entry" (defArgs s_law_entry) (defBody s_law_entry) (defScope s_law_entry) .none kV14 dc14 pm14 an14 cd14 ct14), sl14⟩)
    (c14 : PySem.W.codeIn K cd14 "_law_entry" = true)
    (k14 : PySem.W.keepIn K (.ref f14) = true)
    (a15 : PySem.W.nsIn K mainGlobals "_law_rows" = some (some (.ref f15)))
    (l15 : K.lookup f15 = some ⟨oc15, od15, .func (PySem.W.fnOf "_law_rows" "_law_rows" (defArgs s_law_rows) (defBody s_law_rows) (defScope s_law_rows) .none kV15 dc15 pm15 an15 cd15 ct15), sl15⟩)
    (c15 : PySem.W.codeIn K cd15 "_law_rows" = true)
    (k15 : PySem.W.keepIn K (.ref f15) = true)
    (a16 : PySem.W.nsIn K mainGlobals "_law_edge" = some (some (.ref f16)))
    (l16 : K.lookup f16 = some ⟨oc16, od16, .func (PySem.W.fnOf "_law_edge" "_law_edge" (defArgs s_law_edge) (defBody s_law_edge) (defScope s_law_edge) .none kV16 dc16 pm16 an16 cd16 ct16), sl16⟩)
    (c16 : PySem.W.codeIn K cd16 "_law_edge" = true)
    (k16 : PySem.W.keepIn K (.ref f16) = true)
    (a17 : PySem.W.nsIn K mainGlobals "_law_picked" = some (some (.ref f17)))
    (l17 : K.lookup f17 = some ⟨oc17, od17, .func (PySem.W.fnOf "_law_picked" "_law_picked" (defArgs s_law_picked) (defBody s_law_picked) (defScope s_law_picked) .none kV17 dc17 pm17 an17 cd17 ct17), sl17⟩)
    (c17 : PySem.W.codeIn K cd17 "_law_picked" = true)
    (k17 : PySem.W.keepIn K (.ref f17) = true)
    (a18 : PySem.W.nsIn K mainGlobals "_law_awake" = some (some (.ref f18)))
    (l18 : K.lookup f18 = some ⟨oc18, od18, .func (PySem.W.fnOf "_law_awake" "_law_awake" (defArgs s_law_awake) (defBody s_law_awake) (defScope s_law_awake) .none kV18 dc18 pm18 an18 cd18 ct18), sl18⟩)
    (c18 : PySem.W.codeIn K cd18 "_law_awake" = true)
    (k18 : PySem.W.keepIn K (.ref f18) = true)
    (a19 : PySem.W.nsIn K mainGlobals "_law_reads" = some (some (.ref f19)))
    (l19 : K.lookup f19 = some ⟨oc19, od19, .func (PySem.W.fnOf "_law_reads" "_law_reads" (defArgs s_law_reads) (defBody s_law_reads) (defScope s_law_reads) .none kV19 dc19 pm19 an19 cd19 ct19), sl19⟩)
    (c19 : PySem.W.codeIn K cd19 "_law_reads" = true)
    (k19 : PySem.W.keepIn K (.ref f19) = true)
    (a20 : PySem.W.nsIn K mainGlobals "law" = some (some (.ref f20)))
    (l20 : K.lookup f20 = some ⟨oc20, od20, .func (PySem.W.fnOf "law" "law" (defArgs s_law) (defBody s_law) (defScope s_law) .none kV20 dc20 pm20 an20 cd20 ct20), sl20⟩)
    (c20 : PySem.W.codeIn K cd20 "law" = true)
    (k20 : PySem.W.keepIn K (.ref f20) = true)
    (pgC_Region : PySem.W.plainGet K C_Region Str.empty = true)
    (hdC_Region : PySem.W.hasDictIn K C_Region = true)
    (poC_Region : PySem.W.plainOver K C_Region = true)
    (saC_Region : PySem.W.findIn K (.ref C_Region) "__setattr__" = some (some (.builtin "object.__setattr__")))
    (mkC_Region : PySem.W.makesIn K C_Region = true)
    (kcC_Region : PySem.W.keepIn K (.ref C_Region) = true)
    (nC_Regionvillages : PySem.W.findIn K (.ref C_Region) "villages" = some none)
    (nC_Regionlines : PySem.W.findIn K (.ref C_Region) "lines" = some none)
    (z_len : PySem.W.nsIn K mainGlobals "len" = some none)
    (z_range : PySem.W.nsIn K mainGlobals "range" = some none)
    (z_sum : PySem.W.nsIn K mainGlobals "sum" = some none)
    (z_any : PySem.W.nsIn K mainGlobals "any" = some none)
    (z_all : PySem.W.nsIn K mainGlobals "all" = some none)
    (z_abs : PySem.W.nsIn K mainGlobals "abs" = some none)
    (z_int : PySem.W.nsIn K mainGlobals "int" = some none)
    (z_isinstance : PySem.W.nsIn K mainGlobals "isinstance" = some none)
    (z_list : PySem.W.nsIn K mainGlobals "list" = some none)
    (z_tuple : PySem.W.nsIn K mainGlobals "tuple" = some none)
    (z_sorted : PySem.W.nsIn K mainGlobals "sorted" = some none)
    (z_enumerate : PySem.W.nsIn K mainGlobals "enumerate" = some none)
    (z_max : PySem.W.nsIn K mainGlobals "max" = some none)
    (z_min : PySem.W.nsIn K mainGlobals "min" = some none)
    (z_str : PySem.W.nsIn K mainGlobals "str" = some none)
    (z_set : PySem.W.nsIn K mainGlobals "set" = some none)
    (z_zip : PySem.W.nsIn K mainGlobals "zip" = some none)
    (z_reversed : PySem.W.nsIn K mainGlobals "reversed" = some none)
    (z_dict : PySem.W.nsIn K mainGlobals "dict" = some none)
    (z_bool : PySem.W.nsIn K mainGlobals "bool" = some none) :
    ∃ fd : FuncData, (∀ (s : Shared) (v : Value), BindsTo s fd ⟨[v], []⟩ [("script", v)]) ∧ ∀ base : Heap, K.In base → base.Ns mainGlobals mg → FnOk l.prog w K mg base CX0 11 fa fd ["script"] (spLaw K) := by
  have e := hfa.symm.trans (PySem.W.mg_of X G a20)
  cases e
  have B : Bt mg := ⟨PySem.W.mg_none_of X G z_len, PySem.W.mg_none_of X G z_range, PySem.W.mg_none_of X G z_sum, PySem.W.mg_none_of X G z_any, PySem.W.mg_none_of X G z_all, PySem.W.mg_none_of X G z_abs, PySem.W.mg_none_of X G z_int, PySem.W.mg_none_of X G z_isinstance, PySem.W.mg_none_of X G z_list, PySem.W.mg_none_of X G z_tuple, PySem.W.mg_none_of X G z_sorted, PySem.W.mg_none_of X G z_enumerate, PySem.W.mg_none_of X G z_max, PySem.W.mg_none_of X G z_min, PySem.W.mg_none_of X G z_str, PySem.W.mg_none_of X G z_set, PySem.W.mg_none_of X G z_zip, PySem.W.mg_none_of X G z_reversed, PySem.W.mg_none_of X G z_dict, PySem.W.mg_none_of X G z_bool⟩
  have R : RegC K mg C_Region := ⟨⟨pgC_Region, hdC_Region, poC_Region, saC_Region⟩, nC_Regionvillages, nC_Regionlines, PySem.W.mg_of X G aC_Region⟩
  have F0 := fun_mk (st := s_heads_in) l0 c0 k0
  have b0 := F0.binds (ps := ["census", "villages"]) fun _ _ _ _ _ _ us hl => match us, hl with | [_, _], _ => rfl
  have F1 := fun_mk (st := s_runs_in) l1 c1 k1
  have b1 := F1.binds (ps := ["census", "line"]) fun _ _ _ _ _ _ us hl => match us, hl with | [_, _], _ => rfl
  have F2 := fun_mk (st := s_running_lines) l2 c2 k2
  have b2 := F2.binds (ps := ["region", "census"]) fun _ _ _ _ _ _ us hl => match us, hl with | [_, _], _ => rfl
  have F3 := fun_mk (st := s_census_of) l3 c3 k3
  have b3 := F3.binds (ps := ["region", "heads", "placing"]) fun _ _ _ _ _ _ us hl => match us, hl with | [_, _, _], _ => rfl
  have F4 := fun_mk (st := s_fault_of_stops) l4 c4 k4
  have b4 := F4.binds (ps := ["villages", "stops"]) fun _ _ _ _ _ _ us hl => match us, hl with | [_, _], _ => rfl
  have F5 := fun_mk (st := s_fault_of_line) l5 c5 k5
  have b5 := F5.binds (ps := ["villages", "stops", "number"]) fun _ _ _ _ _ _ us hl => match us, hl with | [_, _, _], _ => rfl
  have F6 := fun_mk (st := s_Region_initM) l6 c6 k6
  have b6 := F6.binds (ps := ["self", "villages", "lines"]) fun _ _ _ _ _ _ us hl => match us, hl with | [_, _, _], _ => rfl
  have F7 := fun_mk (st := s_law_draw) l7 c7 k7
  have b7 := F7.binds (ps := ["pool", "many"]) fun _ _ _ _ _ _ us hl => match us, hl with | [_, _], _ => rfl
  have F8 := fun_mk (st := s_law_pool) l8 c8 k8
  have b8 := F8.binds (ps := ["script"]) fun _ _ _ _ _ _ us hl => match us, hl with | [_], _ => rfl
  have F9 := fun_mk (st := s_law_same) l9 c9 k9
  have b9 := F9.binds (ps := ["got", "due"]) fun _ _ _ _ _ _ us hl => match us, hl with | [_, _], _ => rfl
  have F10 := fun_mk (st := s_law_stops) l10 c10 k10
  have b10 := F10.binds (ps := ["pool", "villages", "widest"]) fun _ _ _ _ _ _ us hl => match us, hl with | [_, _, _], _ => rfl
  have F11 := fun_mk (st := s_law_great) l11 c11 k11
  have b11 := F11.binds (ps := ["pool", "top"]) fun _ _ _ _ _ _ us hl => match us, hl with | [_, _], _ => rfl
  have F12 := fun_mk (st := s_law_sums) l12 c12 k12
  have b12 := F12.binds (ps := ["villages", "heads", "placing"]) fun _ _ _ _ _ _ us hl => match us, hl with | [_, _, _], _ => rfl
  have F13 := fun_mk (st := s_law_size) l13 c13 k13
  have b13 := F13.binds (ps := ["pool", "small", "large"]) fun _ _ _ _ _ _ us hl => match us, hl with | [_, _, _], _ => rfl
  have F14 := fun_mk (st := s_law_entry) l14 c14 k14
  have b14 := F14.binds (ps := ["pool"]) fun _ _ _ _ _ _ us hl => match us, hl with | [_], _ => rfl
  have F15 := fun_mk (st := s_law_rows) l15 c15 k15
  have b15 := F15.binds (ps := ["pool", "villages", "many"]) fun _ _ _ _ _ _ us hl => match us, hl with | [_, _, _], _ => rfl
  have F16 := fun_mk (st := s_law_edge) l16 c16 k16
  have b16 := F16.binds (ps := ["pool", "lines", "censuses"]) fun _ _ _ _ _ _ us hl => match us, hl with | [_, _, _], _ => rfl
  have F17 := fun_mk (st := s_law_picked) l17 c17 k17
  have b17 := F17.binds (ps := ["pool", "villages"]) fun _ _ _ _ _ _ us hl => match us, hl with | [_, _], _ => rfl
  have F18 := fun_mk (st := s_law_awake) l18 c18 k18
  have b18 := F18.binds (ps := ["lines", "census"]) fun _ _ _ _ _ _ us hl => match us, hl with | [_, _], _ => rfl
  have F19 := fun_mk (st := s_law_reads) l19 c19 k19
  have b19 := F19.binds (ps := ["town", "census", "lines", "row", "some"]) fun _ _ _ _ _ _ us hl => match us, hl with | [_, _, _, _, _], _ => rfl
  have F20 := fun_mk (st := s_law) l20 c20 k20
  refine ⟨PySem.W.fnOf "law" "law" (defArgs s_law) (defBody s_law) (defScope s_law) .none kV20 dc20 pm20 an20 cd20 ct20, fun s v => .of_eq rfl, fun base _ _ => ?_⟩
  have c_heads_in : C8.Cal l.prog w K mg base 1 "heads_in" (sp_heads_in K) [] := ⟨f0, _, ["census", "villages"], [], ok_heads_in F0 B, PySem.W.mg_of X G a0, k0, b0, .nil⟩
  have c_runs_in : C8.Cal l.prog w K mg base 2 "runs_in" (sp_runs_in K) [] := ⟨f1, _, ["census", "line"], [], ok_runs_in F1 B c_heads_in, PySem.W.mg_of X G a1, k1, b1, .nil⟩
  have c_running_lines : C8.Cal l.prog w K mg base 3 "running_lines" (sp_running_lines K C_Region) [] := ⟨f2, _, ["region", "census"], [], ok_running_lines F2 B R c_runs_in, PySem.W.mg_of X G a2, k2, b2, .nil⟩
  have c_census_of : C8.Cal l.prog w K mg base 1 "census_of" (sp_census_of K C_Region) [] := ⟨f3, _, ["region", "heads", "placing"], [], ok_census_of F3 B R, PySem.W.mg_of X G a3, k3, b3, .nil⟩
  have c_fault_of_stops : C8.Cal l.prog w K mg base 1 "fault_of_stops" (sp_fault_of_stops K) [] := ⟨f4, _, ["villages", "stops"], [], ok_fault_of_stops F4 B, PySem.W.mg_of X G a4, k4, b4, .nil⟩
  have c_fault_of_line : C8.Cal l.prog w K mg base 2 "fault_of_line" (sp_fault_of_line K) [] := ⟨f5, _, ["villages", "stops", "number"], [], ok_fault_of_line F5 B c_fault_of_stops, PySem.W.mg_of X G a5, k5, b5, .nil⟩
  have mk_Region : C8.Mak l.prog w K mg base 3 "Region" C_Region (sp_Region_init K C_Region) [] := ⟨f6, _, ["self", "villages", "lines"], [], ⟨mkC_Region, a6, i6, kcC_Region⟩, ok_Region_init F6 B R c_fault_of_line, PySem.W.mg_of X G aC_Region, b6, .nil⟩
  have c_law_draw : C8.Cal l.prog w K mg base 1 "_law_draw" spDrawV [] := ⟨f7, _, ["pool", "many"], [], draw_out (ok_draw_in F7 B) rfl, PySem.W.mg_of X G a7, k7, b7, .nil⟩
  have c_law_pool : C8.Cal l.prog w K mg base 1 "_law_pool" (spPoolV K) [] := ⟨f8, _, ["script"], [], pool_made (ok_pool_in F8 B) rfl, PySem.W.mg_of X G a8, k8, b8, .nil⟩
  have c_law_same : C8.Cal l.prog w K mg base 9 "_law_same" (spSame K 9) [] := ⟨f9, _, ["got", "due"], [], ok_same (base := base) F9 B (fun k sp h => ⟨f9, _, ["got", "due"], [], h, PySem.W.mg_of X G a9, k9, b9, .nil⟩) 9, PySem.W.mg_of X G a9, k9, b9, .nil⟩
  have c_law_stops : C8.Cal l.prog w K mg base 2 "_law_stops" (sp_law_stops K) [] := ⟨f10, _, ["pool", "villages", "widest"], [], ok_law_stops F10 B c_law_draw, PySem.W.mg_of X G a10, k10, b10, .nil⟩
  have c_law_great : C8.Cal l.prog w K mg base 2 "_law_great" (sp_law_great K) [] := ⟨f11, _, ["pool", "top"], [], ok_law_great F11 B c_law_draw, PySem.W.mg_of X G a11, k11, b11, .nil⟩
  have c_law_sums : C8.Cal l.prog w K mg base 1 "_law_sums" (sp_law_sums K) [] := ⟨f12, _, ["villages", "heads", "placing"], [], ok_law_sums F12 B, PySem.W.mg_of X G a12, k12, b12, .nil⟩
  have c_law_size : C8.Cal l.prog w K mg base 2 "_law_size" (sp_law_size K) [] := ⟨f13, _, ["pool", "small", "large"], [], ok_law_size F13 B c_law_draw, PySem.W.mg_of X G a13, k13, b13, .nil⟩
  have c_law_entry : C8.Cal l.prog w K mg base 2 "_law_entry" (sp_law_entry K) [] := ⟨f14, _, ["pool"], [], ok_law_entry F14 B c_law_draw, PySem.W.mg_of X G a14, k14, b14, .nil⟩
  have c_law_rows : C8.Cal l.prog w K mg base 3 "_law_rows" (sp_law_rows K) [] := ⟨f15, _, ["pool", "villages", "many"], [], ok_law_rows F15 B c_law_draw c_law_stops c_law_great, PySem.W.mg_of X G a15, k15, b15, .nil⟩
  have c_law_edge : C8.Cal l.prog w K mg base 2 "_law_edge" (sp_law_edge K) [] := ⟨f16, _, ["pool", "lines", "censuses"], [], ok_law_edge F16 B c_law_draw, PySem.W.mg_of X G a16, k16, b16, .nil⟩
  have c_law_picked : C8.Cal l.prog w K mg base 2 "_law_picked" (sp_law_picked K) [] := ⟨f17, _, ["pool", "villages"], [], ok_law_picked F17 B c_law_draw, PySem.W.mg_of X G a17, k17, b17, .nil⟩
  have c_law_awake : C8.Cal l.prog w K mg base 1 "_law_awake" (sp_law_awake K) [] := ⟨f18, _, ["lines", "census"], [], ok_law_awake F18 B, PySem.W.mg_of X G a18, k18, b18, .nil⟩
  have c_law_reads : C8.Cal l.prog w K mg base 10 "_law_reads" (sp_law_reads K C_Region) [] := ⟨f19, _, ["town", "census", "lines", "row", "some"], [], ok_law_reads F19 B c_law_awake c_running_lines c_law_same c_heads_in, PySem.W.mg_of X G a19, k19, b19, .nil⟩
  exact ok_law F20 B R c_law_pool c_law_draw c_law_size c_law_great c_law_entry c_law_sums c_law_edge c_law_rows c_law_picked mk_Region c_census_of c_law_same c_law_reads
theorem walk {l : PySem.W.OpenLaw} {q : Program} {loose : List Str} {XP : (Str → Option Value) → Heap → Prop} {YP : World → Heap → Prop} {d : DefRec} {K : Params → PySem.W.Frag} (hn : l.most = some 63) (hdf : d.params.defaults = []) (hY : ∀ (w : World) (h : Heap), YP w h → (K w.params).In h)
    (F : ∀ (w : World) (mg : Str → Option Value) (fa : Addr) (h : Heap), (K w.params).In h → h.Ns mainGlobals mg → mg d.name = some (.ref fa) → ∃ fd : FuncData, (∀ (s : Shared) (u : Value), BindsTo s fd ⟨[u], []⟩ [("script", u)]) ∧ ∀ base : Heap, (K w.params).In base → base.Ns mainGlobals mg → FnOk l.prog w (K w.params) mg base CX0 11 fa fd ["script"] (spLaw (K w.params))) : PySem.W.WalkO q loose XP YP l.row.toRowW d [] (fun f vs => PySem.call f vs) :=
  L2.walk_of (n := 63) (k := 11) (x := "script") (CX := fun _ => CX0) (sp := fun w => spLaw (K w.params)) hn (by decide) hdf ⟨rfl, by decide, by decide⟩ hY F (fun _ _ a ns hl _ hS => ⟨a, ns, rfl, hS, hl, fun _ => rfl⟩) fun _ _ _ _ _ z => z
end VL
open PySem PySem.W PyProof.Rows in
set_option maxRecDepth 100000 in
set_option maxHeartbeats 0 in
theorem PySem.Challenge.cw_villagelines_k00_census_and_running_holds : PySem.Challenge.rw_villagelines_k00_census_and_running.Holds := by
  w_on; o_law; k_head; (case hw => w_witness2)
  k_fill
  refine VL.walk (l := PySem.Challenge.rw_villagelines_k00_census_and_running) rfl rfl (fun w h Y => PySem.W.kIn_of Y) ?F
  case F =>
    intro w mg fa h KX G hmg
    refine' VL.all_mk KX G hmg ?aC_Region ?a0 ?l0 ?c0 ?k0 ?a1 ?l1 ?c1 ?k1 ?a2 ?l2 ?c2 ?k2 ?a3 ?l3 ?c3 ?k3 ?a4 ?l4 ?c4 ?k4 ?a5 ?l5 ?c5 ?k5 ?a6 ?i6 ?l6 ?c6 ?k6 ?a7 ?l7 ?c7 ?k7 ?a8 ?l8 ?c8 ?k8 ?a9 ?l9 ?c9 ?k9 ?a10 ?l10 ?c10 ?k10 ?a11 ?l11 ?c11 ?k11 ?a12 ?l12 ?c12 ?k12 ?a13 ?l13 ?c13 ?k13 ?a14 ?l14 ?c14 ?k14 ?a15 ?l15 ?c15 ?k15 ?a16 ?l16 ?c16 ?k16 ?a17 ?l17 ?c17 ?k17 ?a18 ?l18 ?c18 ?k18 ?a19 ?l19 ?c19 ?k19 ?a20 ?l20 ?c20 ?k20 ?pgC_Region ?hdC_Region ?poC_Region ?saC_Region ?mkC_Region ?kcC_Region ?nC_Regionvillages ?nC_Regionlines ?z_len ?z_range ?z_sum ?z_any ?z_all ?z_abs ?z_int ?z_isinstance ?z_list ?z_tuple ?z_sorted ?z_enumerate ?z_max ?z_min ?z_str ?z_set ?z_zip ?z_reversed ?z_dict ?z_bool
    (case aC_Region => k_is)
    (case a0 => k_is)
    (case l0 => k_is)
    (case c0 => k_is)
    (case k0 => k_is)
    (case a1 => k_is)
    (case l1 => k_is)
    (case c1 => k_is)
    (case k1 => k_is)
    (case a2 => k_is)
    (case l2 => k_is)
    (case c2 => k_is)
    (case k2 => k_is)
    (case a3 => k_is)
    (case l3 => k_is)
    (case c3 => k_is)
    (case k3 => k_is)
    (case a4 => k_is)
    (case l4 => k_is)
    (case c4 => k_is)
    (case k4 => k_is)
    (case a5 => k_is)
    (case l5 => k_is)
    (case c5 => k_is)
    (case k5 => k_is)
    (case a6 => k_is)
    (case i6 => k_is)
    (case l6 => k_is)
    (case c6 => k_is)
    (case k6 => k_is)
    (case a7 => k_is)
    (case l7 => k_is)
    (case c7 => k_is)
    (case k7 => k_is)
    (case a8 => k_is)
    (case l8 => k_is)
    (case c8 => k_is)
    (case k8 => k_is)
    (case a9 => k_is)
    (case l9 => k_is)
    (case c9 => k_is)
    (case k9 => k_is)
    (case a10 => k_is)
    (case l10 => k_is)
    (case c10 => k_is)
    (case k10 => k_is)
    (case a11 => k_is)
    (case l11 => k_is)
    (case c11 => k_is)
    (case k11 => k_is)
    (case a12 => k_is)
    (case l12 => k_is)
    (case c12 => k_is)
    (case k12 => k_is)
    (case a13 => k_is)
    (case l13 => k_is)
    (case c13 => k_is)
    (case k13 => k_is)
    (case a14 => k_is)
    (case l14 => k_is)
    (case c14 => k_is)
    (case k14 => k_is)
    (case a15 => k_is)
    (case l15 => k_is)
    (case c15 => k_is)
    (case k15 => k_is)
    (case a16 => k_is)
    (case l16 => k_is)
    (case c16 => k_is)
    (case k16 => k_is)
    (case a17 => k_is)
    (case l17 => k_is)
    (case c17 => k_is)
    (case k17 => k_is)
    (case a18 => k_is)
    (case l18 => k_is)
    (case c18 => k_is)
    (case k18 => k_is)
    (case a19 => k_is)
    (case l19 => k_is)
    (case c19 => k_is)
    (case k19 => k_is)
    (case a20 => k_is)
    (case l20 => k_is)
    (case c20 => k_is)
    (case k20 => k_is)
    (case pgC_Region => k_is)
    (case hdC_Region => k_is)
    (case poC_Region => k_is)
    (case saC_Region => k_is)
    (case mkC_Region => k_is)
    (case kcC_Region => k_is)
    (case nC_Regionvillages => k_is)
    (case nC_Regionlines => k_is)
    (case z_len => k_is)
    (case z_range => k_is)
    (case z_sum => k_is)
    (case z_any => k_is)
    (case z_all => k_is)
    (case z_abs => k_is)
    (case z_int => k_is)
    (case z_isinstance => k_is)
    (case z_list => k_is)
    (case z_tuple => k_is)
    (case z_sorted => k_is)
    (case z_enumerate => k_is)
    (case z_max => k_is)
    (case z_min => k_is)
    (case z_str => k_is)
    (case z_set => k_is)
    (case z_zip => k_is)
    (case z_reversed => k_is)
    (case z_dict => k_is)
    (case z_bool => k_is)
#print axioms PySem.Challenge.cw_villagelines_k00_census_and_running_holds
