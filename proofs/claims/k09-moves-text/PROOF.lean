import PyProof.Rows.All
import Wide.All
import OpenK.AllK
import Wide.FinOn
import HandS.ForMost
import HandS.ForExc
import HandS.Codes
import HandS.IsInst
import HandS.Walk
import HandS.Evl
import HandS.Wide
import HandS.Conv
import HandS.Flow
import HandS.Style
import HandS.SortInts
import HandS.Nested
import KE.GoesMore
import HandS.Star
import HandS.FStr
import HandS.ExcInit
import HandS.Deep
import KE.SortData
import HandS.Strs
import HandS.SetFor
import HandS.Rev
import HandS.RevRange
import HandS.Zip
import KE.KRevSl
import HandS.DictComp
import HandS.SetBool
import HandS.ExcOwn
import HandS.ExcField
import HandS.WordsExc
import HandS.TryOnly
import HandS.ExcIs
import PyProof.SetRoads
import HandS.Lambda
import HandS.EndTab
import KE.KNest
import KE.DataMinMax
import HandS.SortKw
import HandS.Property
import HandS.Text
import HandS.Iter
import HandS.CallLocal
import PySem.Challenge.RW_villagelines_k09_moves_text
set_option Elab.async false
set_option linter.all false
set_option maxRecDepth 100000
set_option maxHeartbeats 4000000
/-! VM1: data, what stands for them in the abstract heap, what an expression evaluates to. -/
namespace VL
open PySem PySem.Spec PyProof.Rows L2

abbrev Fr := PySem.W.Frag

/-- data without a heap -/
inductive D where
  | non | bl (b : Bool) | int (i : Int) | str (s : Str) | lst (ds : List D) | tup (ds : List D) | ins (C : Addr) (ns : List Str) (ds : List D) | pool | ty (n : String)
  | scr | fn (a : Addr) | dct (ks : List Key) (ds : List D) | dctT (ks : List (List Key)) (ds : List D) | clo (k : Nat) (d : D) | at_ (a : Addr) (d : D) | exc (a d c : Addr) (ns : List Str) (ds : List D)

/-- no table of code objects within -/
def NoTbl (G : Hp) : Prop := ∀ a ps, G a ≠ some (.tbl ps)
/-- what G knows stands in H; G knows no table -/
structure Ex (G H : Hp) : Prop where
  e : Evl.Ex G H
  n : NoTbl G
instance {G H : Hp} : CoeFun (Ex G H) (fun _ => ∀ a o, G a = some o → H a = some o) := ⟨fun x => x.e⟩
section
variable {G H H1 H2 H' : Hp} {p a : Addr} {o : HO}
theorem Ex.refl' (n : NoTbl G) : Ex G G := ⟨Evl.Ex.refl G, n⟩
theorem Ex.self (e : Ex G H) : Ex G G := ⟨Evl.Ex.refl G, e.n⟩
theorem Ex.trans (a : Ex G H1) (b : Ex H1 H2) : Ex G H2 := ⟨a.e.trans b.e, a.n⟩
theorem Ex.new (n : NoTbl G) (h : G p = none) : Ex G (upd G p o) := ⟨Evl.Ex.new h, n⟩
theorem Ex.mut (e : Ex G H') (h : G p = none) : Ex G (upd H' p o) := ⟨e.e.mut h, e.n⟩
theorem ex_rd {u : HO} (e : Ex G H) (h : Rd G a u) : Rd H a u := Evl.ex_rd e.e h
theorem ex_l {K : PySem.W.Frag} {xs : List V} (e : Ex G H) (h : SqL K G a xs) : SqL K H a xs := Evl.ex_l e.e h
theorem ex_t {K : PySem.W.Frag} {xs : List V} (e : Ex G H) (h : SqT K G a xs) : SqT K H a xs := Evl.ex_t e.e h
theorem fresh_back (e : Ex G H) (h : H p = none) : G p = none := Evl.fresh_back e.e h
theorem NoTbl.upd (n : NoTbl G) (w : ∀ ps, o ≠ .tbl ps) : NoTbl (upd G p o) := fun a ps h => by
  unfold L2.upd at h; split at h
  · cases h; exact w _ rfl
  · exact n a ps h
end
/-- a lambda's words: its full name, its parameters, its body, its scope, its cells, its code object -/
structure LF where
  qual : Str
  params : Arguments
  body : Expr
  scope : Scope
  cl : List (Str × Addr)
  c : Addr
/-- the lambda's function object at f -/
def FnL (f : Addr) (F : LF) : HO := .ext fun h => ∃ (pm ctv : Value), h.get? f = some (PySem.W.kla_obj "<lambda>" F.qual F.params F.body F.scope F.cl pm F.c ctv)
/-- what a law fixes: the tables of code objects that closures are made by, the closures (kind, cell, code object) -/
class Tbl where
  T : List NdefX.NTab
  clo : Nat → Addr → Addr → LF
/-- all stays but the tables, and these stay good -/
structure ExN [Tbl] (H H' : Hp) : Prop where
  e : LamX.ExtN H H'
  f : ∀ a, H' a = none → H a = none
  t : NdefX.TabsN Tbl.T H → NdefX.TabsN Tbl.T H'
/-- what may be written without a table or a code object being touched -/
def isW : Option HO → Bool
  | some (.lst _) => true | some (.dK _) => true | some (.dT _) => true | some (.ins _ _ _) => true | _ => false
section
variable [Tbl] {H H1 H2 H' : Hp} {p : Addr} {o : HO}
theorem ExN.of (e : Evl.Ex H H') : ExN H H' := ⟨fun b o h _ => e b o h, fun a h => Evl.fresh_back e h, fun t => t.ext e⟩
theorem ExN.refl (H : Hp) : ExN H H := .of (Evl.Ex.refl H)
theorem ExN.trans (a : ExN H H1) (b : ExN H1 H2) : ExN H H2 := ⟨a.e.trans b.e, fun x h => a.f x (b.f x h), fun t => b.t (a.t t)⟩
theorem ExN.new (h : H p = none) : ExN H (upd H p o) := .of (Evl.Ex.new h)
theorem isW.tbl {u : Option HO} (w : isW u = true) : ∀ ps, u ≠ some (.tbl ps) := fun ps e => by subst e; cases w
theorem isW.code {u : Option HO} (w : isW u = true) : ∀ c q, u ≠ some (LamX.CodeO c q) := fun c q e => by subst e; cases w
theorem ExN.mut (e : ExN H H') (h : H p = none) (w : isW (H' p) = true) : ExN H (upd H' p o) := ⟨fun b u hb n => by
    rw [upd_ne (ne_of_none hb h)]; exact e.e b u hb n, fun a ha => e.f a (by
    unfold upd at ha; split at ha
    · cases ha
    · exact ha), fun t x hx => by
    obtain ⟨ps, h1, h2, h3⟩ := e.t t x hx
    refine ⟨ps, ?_, h2, fun pos cv hc => ?_⟩
    · rw [upd_ne (fun y => isW.tbl w ps (by rw [← y]; exact h1))]; exact h1
    · obtain ⟨c, e1, e2⟩ := h3 pos cv hc
      exact ⟨c, e1, by rw [upd_ne (fun y => isW.code w _ _ (by rw [← y]; exact e2))]; exact e2⟩⟩
theorem ExN.keep (e : ExN H H') {a : Addr} {u : HO} (h : H a = some u) (w : isW (some u) = true) : H' a = some u := e.e a u h fun ps z => by subst z; cases w
end
/-- a captured cell: what it holds, forever -/
def CellO (c : Addr) (v : V) : HO := .ext fun h => ∃ u, RelV v u ∧ h.IsCell c u
/-- the closure at a, its one captured cell's value -/
structure CloAt [Tbl] (H : Hp) (k : Nat) (a : Addr) (v : V) : Prop where
  ex : ∃ c c', H a = some (FnL a (Tbl.clo k c c')) ∧ H (Tbl.clo k c c').c = some (LamX.CodeO (Tbl.clo k c c').c (Tbl.clo k c c').qual) ∧ H c = some (CellO c v)

/-- the pool of draws at p: kept by what is true of its object, so that a draw changes nothing that is told -/
def PoolO (p c : Addr) (n : Nat) : Heap → Prop := fun h => ∃ (i1 i2 i3 i4 : Int) (t1 t2 t3 t4 : Tok) (m : Nat), 0 ≤ i1 ∧ 0 ≤ i2 ∧ 0 ≤ i3 ∧ 0 ≤ i4 ∧
  h.get? p = some { cls := .type "list", data := .seq #[.ref c, .int i1 t1, .int i2 t2, .int i3 t3, .int i4 t4] m }
structure PoolAt (H : Hp) (p : Addr) : Prop where
  ex : ∃ (c : Addr) (ns : List Int), H p = some (.ext (PoolO p c ns.length)) ∧ H c = some (.lst (ns.map V.int)) ∧ ∀ n ∈ ns, 0 ≤ n

/-- a list of data is fresh: it is new since H0 -/
def frOk : Option Hp → Addr → Prop
  | none, _ => True
  | some H0, a => H0 a = none

section
variable [Tbl]
mutual
inductive Rep (K : Fr) (fr : Option Hp) (H : Hp) : D → V → Prop
  | non : Rep K fr H .non .non
  | bl (b : Bool) : Rep K fr H (.bl b) (.bl b)
  | int (i : Int) : Rep K fr H (.int i) (.int i)
  | str (s : Str) : Rep K fr H (.str s) (.str s)
  | lst {a : Addr} {vs : List V} {ds : List D} : frOk fr a → H a = some (.lst vs) → RepA K fr H ds vs → Rep K fr H (.lst ds) (.ref a)
  | tup {a : Addr} {vs : List V} {ds : List D} : SqT K H a vs → RepA K fr H ds vs → Rep K fr H (.tup ds) (.ref a)
  | ins {a C dx : Addr} {fs : List (Str × V)} {ns : List Str} {ds : List D} : H a = some (.ins C dx fs) → fs.map (·.1) = ns → RepA K fr H ds (fs.map (·.2)) → Rep K fr H (.ins C ns ds) (.ref a)
  | pool {p : Addr} : fr = none → PoolAt H p → Rep K fr H .pool (.ref p)
  | ty (n : String) : Rep K fr H (.ty n) (.ty n)
  | scr {a : Addr} {ns : List Int} : fr = none → SqL K H a (ns.map V.int) → ns.length ≤ 63 → Rep K fr H .scr (.ref a)
  | fn (a : Addr) : Rep K fr H (.fn a) (.ref a)
  | dct {a : Addr} {kvs : List (Key × V)} {ks : List Key} {ds : List D} : frOk fr a → H a = some (.dK kvs) → kvs.map (·.1) = ks → RepA K fr H ds (kvs.map (·.2)) → Rep K fr H (.dct ks ds) (.ref a)
  | dctT {a : Addr} {kvs : List (List Key × V)} {ks : List (List Key)} {ds : List D} : frOk fr a → H a = some (.dT kvs) → kvs.map (·.1) = ks → RepA K fr H ds (kvs.map (·.2)) → Rep K fr H (.dctT ks ds) (.ref a)
  | clo {a : Addr} {k : Nat} {d : D} {v : V} : CloAt H k a v → Rep K fr H d v → Rep K fr H (.clo k d) (.ref a)
  | at_ {a : Addr} {d : D} : Rep K fr H d (.ref a) → Rep K fr H (.at_ a d) (.ref a)
  | exc {a d c : Addr} {fs : List (Str × V)} {ns : List Str} {ds : List D} : H d = some (.xd fs) → fs.map (·.1) = ns → RepA K fr H ds (fs.map (·.2)) → Rep K fr H (.exc a d c ns ds) (.ref a)
inductive RepA (K : Fr) (fr : Option Hp) (H : Hp) : List D → List V → Prop
  | nil : RepA K fr H [] []
  | cons {d : D} {v : V} {ds : List D} {vs : List V} : Rep K fr H d v → RepA K fr H ds vs → RepA K fr H (d :: ds) (v :: vs)
end
end

section
variable [Tbl] {K : Fr} {fr : Option Hp} {H H' G G' : Hp}
theorem CloAt.mono {k : Nat} {a : Addr} {v : V} (e : Ex H H') (h : CloAt H k a v) : CloAt H' k a v := by
  obtain ⟨c, c', h1, h2, h3⟩ := h.ex
  exact ⟨c, c', e _ _ h1, e _ _ h2, e _ _ h3⟩
theorem PoolAt.mono {p : Addr} (e : Ex H H') (h : PoolAt H p) : PoolAt H' p := by
  obtain ⟨c, ns, h1, h2, h3⟩ := h.ex
  exact ⟨c, ns, e _ _ h1, e _ _ h2, h3⟩
mutual
theorem Rep.mono (e : Ex H H') : ∀ {d : D} {v : V}, Rep K fr H d v → Rep K fr H' d v
  | _, _, .non => .non
  | _, _, .bl b => .bl b
  | _, _, .int i => .int i
  | _, _, .str s => .str s
  | _, _, .lst f h t => .lst f (e _ _ h) (RepA.mono e t)
  | _, _, .tup h t => .tup (ex_t e h) (RepA.mono e t)
  | _, _, .ins h q t => .ins (e _ _ h) q (RepA.mono e t)
  | _, _, .ty n => .ty n
  | _, _, .pool q h => .pool q (h.mono e)
  | _, _, .scr q h l => .scr q (ex_l e h) l
  | _, _, .fn a => .fn a
  | _, _, .dct f h q t => .dct f (e _ _ h) q (RepA.mono e t)
  | _, _, .dctT f h q t => .dctT f (e _ _ h) q (RepA.mono e t)
  | _, _, .clo h t => .clo (h.mono e) (Rep.mono e t)
  | _, _, .at_ t => .at_ (Rep.mono e t)
  | _, _, .exc h q t => .exc (e _ _ h) q (RepA.mono e t)
theorem RepA.mono (e : Ex H H') : ∀ {ds : List D} {vs : List V}, RepA K fr H ds vs → RepA K fr H' ds vs
  | _, _, .nil => .nil
  | _, _, .cons h t => .cons (Rep.mono e h) (RepA.mono e t)
end
mutual
theorem Rep.old : ∀ {d : D} {v : V}, Rep K fr H d v → Rep K none H d v
  | _, _, .non => .non
  | _, _, .bl b => .bl b
  | _, _, .int i => .int i
  | _, _, .str s => .str s
  | _, _, .lst f h t => .lst trivial h (RepA.old t)
  | _, _, .tup h t => .tup h (RepA.old t)
  | _, _, .ins h q t => .ins h q (RepA.old t)
  | _, _, .ty n => .ty n
  | _, _, .pool q h => .pool rfl h
  | _, _, .scr q h l => .scr rfl h l
  | _, _, .fn a => .fn a
  | _, _, .dct f h q t => .dct trivial h q (RepA.old t)
  | _, _, .dctT f h q t => .dctT trivial h q (RepA.old t)
  | _, _, .clo h t => .clo h (Rep.old t)
  | _, _, .at_ t => .at_ (Rep.old t)
  | _, _, .exc h q t => .exc h q (RepA.old t)
theorem RepA.old : ∀ {ds : List D} {vs : List V}, RepA K fr H ds vs → RepA K none H ds vs
  | _, _, .nil => .nil
  | _, _, .cons h t => .cons (Rep.old h) (RepA.old t)
end
/-- fresh since later is fresh since earlier -/
theorem frOk.back {a : Addr} (e : ExN G G') (h : frOk (some G') a) : frOk (some G) a := e.f _ h
mutual
theorem Rep.back (e : ExN G G') : ∀ {d : D} {v : V}, Rep K (some G') H d v → Rep K (some G) H d v
  | _, _, .non => .non
  | _, _, .bl b => .bl b
  | _, _, .int i => .int i
  | _, _, .str s => .str s
  | _, _, .lst f h t => .lst (frOk.back e f) h (RepA.back e t)
  | _, _, .tup h t => .tup h (RepA.back e t)
  | _, _, .ins h q t => .ins h q (RepA.back e t)
  | _, _, .ty n => .ty n
  | _, _, .pool q h => by cases q
  | _, _, .scr q h l => by cases q
  | _, _, .fn a => .fn a
  | _, _, .dct f h q t => .dct (frOk.back e f) h q (RepA.back e t)
  | _, _, .dctT f h q t => .dctT (frOk.back e f) h q (RepA.back e t)
  | _, _, .clo h t => .clo h (Rep.back e t)
  | _, _, .at_ t => .at_ (Rep.back e t)
  | _, _, .exc h q t => .exc h q (RepA.back e t)
theorem RepA.back (e : ExN G G') : ∀ {ds : List D} {vs : List V}, RepA K (some G') H ds vs → RepA K (some G) H ds vs
  | _, _, .nil => .nil
  | _, _, .cons h t => .cons (Rep.back e h) (RepA.back e t)
end
theorem RepA.length {ds : List D} {vs : List V} (h : RepA K fr H ds vs) : ds.length = vs.length := by
  induction ds generalizing vs with
  | nil => cases h; rfl
  | cons d ds ih => cases h with | cons h t => rw [List.length_cons, List.length_cons, ih t]
theorem RepA.get {ds : List D} {vs : List V} (h : RepA K fr H ds vs) : ∀ {i : Nat} {d : D}, ds[i]? = some d → ∃ v, vs[i]? = some v ∧ Rep K fr H d v := by
  induction ds generalizing vs with
  | nil => intro i d e; simp at e
  | cons d0 ds ih =>
    cases h with
    | cons h t =>
      intro i d e
      cases i with
      | zero => simp at e; subst e; exact ⟨_, rfl, h⟩
      | succ i => simpa using ih t (by simpa using e)
theorem RepA.getV {ds : List D} {vs : List V} (h : RepA K fr H ds vs) : ∀ {i : Nat} {v : V}, vs[i]? = some v → ∃ d, ds[i]? = some d ∧ Rep K fr H d v := by
  intro i v e
  have hi : i < vs.length := (List.getElem?_eq_some_iff.mp e).1
  have hd : i < ds.length := by rw [h.length]; exact hi
  obtain ⟨v', e', r⟩ := h.get (List.getElem?_eq_getElem hd)
  rw [e] at e'; cases e'
  exact ⟨_, List.getElem?_eq_getElem hd, r⟩
theorem RepA.append {ds es : List D} {vs us : List V} (h : RepA K fr H ds vs) (k : RepA K fr H es us) : RepA K fr H (ds ++ es) (vs ++ us) := by
  induction ds generalizing vs with
  | nil => cases h; exact k
  | cons d0 ds ih => cases h with | cons h t => exact .cons h (ih t)
theorem RepA.take {ds : List D} {vs : List V} (n : Nat) (h : RepA K fr H ds vs) : RepA K fr H (ds.take n) (vs.take n) := by
  induction ds generalizing vs n with
  | nil => cases h; simpa using RepA.nil
  | cons d0 ds ih => cases h with | cons h t => cases n with | zero => exact .nil | succ n => exact .cons h (ih n t)
theorem RepA.drop {ds : List D} {vs : List V} (n : Nat) (h : RepA K fr H ds vs) : RepA K fr H (ds.drop n) (vs.drop n) := by
  induction ds generalizing vs n with
  | nil => cases h; simpa using RepA.nil
  | cons d0 ds ih => cases h with | cons h t => cases n with | zero => exact .cons h t | succ n => exact ih n t
theorem RepA.set {ds : List D} {vs : List V} {d : D} {v : V} (n : Nat) (h : RepA K fr H ds vs) (k : Rep K fr H d v) : RepA K fr H (ds.set n d) (vs.set n v) := by
  induction ds generalizing vs n with
  | nil => cases h; exact .nil
  | cons d0 ds ih => cases h with | cons h t => cases n with | zero => exact .cons k t | succ n => exact .cons h (ih n t)
theorem RepA.ints {ns : List Int} {vs : List V} (h : RepA K fr H (ns.map D.int) vs) : vs = ns.map V.int := by
  induction ns generalizing vs with
  | nil => cases h; rfl
  | cons n ns ih => cases h with | cons h t => cases h; rw [ih t]; rfl
theorem RepA.ofInts : ∀ (ns : List Int), RepA K fr H (ns.map D.int) (ns.map V.int)
  | [] => .nil
  | n :: ns => .cons (.int n) (RepA.ofInts ns)
theorem RepA.bools {ns : List Bool} {vs : List V} (h : RepA K fr H (ns.map D.bl) vs) : vs = ns.map V.bl := by
  induction ns generalizing vs with
  | nil => cases h; rfl
  | cons n ns ih => cases h with | cons h t => cases h; rw [ih t]; rfl
theorem Rep.int_inv {i : Int} {v : V} (h : Rep K fr H (.int i) v) : v = .int i := by cases h; rfl
theorem Rep.bl_inv {i : Bool} {v : V} (h : Rep K fr H (.bl i) v) : v = .bl i := by cases h; rfl
theorem Rep.str_inv {i : Str} {v : V} (h : Rep K fr H (.str i) v) : v = .str i := by cases h; rfl
theorem Rep.non_inv {v : V} (h : Rep K fr H .non v) : v = .non := by cases h; rfl
theorem Rep.lst_inv {ds : List D} {v : V} (h : Rep K fr H (.lst ds) v) : ∃ a vs, v = .ref a ∧ frOk fr a ∧ H a = some (.lst vs) ∧ RepA K fr H ds vs := by cases h with | lst f h t => exact ⟨_, _, rfl, f, h, t⟩
theorem Rep.tup_inv {ds : List D} {v : V} (h : Rep K fr H (.tup ds) v) : ∃ a vs, v = .ref a ∧ SqT K H a vs ∧ RepA K fr H ds vs := by cases h with | tup h t => exact ⟨_, _, rfl, h, t⟩
end

/-- knowledge G of the heap H has grown to G' of H'; what is new in it was not in H -/
structure Grow [Tbl] (G H G' H' : Hp) : Prop where
  e : Ex G G'
  sub : Ex G' H'
  ext : ExN H H'
  new : ∀ a, G a = none → G' a ≠ none → H a = none ∨ ∃ q, G' a = some (LamX.CodeO a q)
section
variable [Tbl] {G H G1 H1 G2 H2 G' H' : Hp} {p : Addr} {o : HO}
theorem Grow.refl (e : Ex G H) : Grow G H G H := ⟨e.self, e, ExN.refl _, fun a h h' => absurd h h'⟩
theorem Grow.trans (a : Grow G H G1 H1) (b : Grow G1 H1 G2 H2) : Grow G H G2 H2 := ⟨a.e.trans b.e, b.sub, a.ext.trans b.ext, fun x h1 h2 => by
  by_cases h : G1 x = none
  · exact (b.new x h h2).imp (a.ext.f _) id
  · exact (a.new x h1 h).imp id fun ⟨q, e⟩ => ⟨q, b.e _ _ e⟩⟩
theorem Ex.both (e : Ex G H) (w : ∀ ps, o ≠ .tbl ps) : Ex (upd G p o) (upd H p o) := ⟨fun a u h => by
  by_cases ha : a = p
  · subst ha; rw [upd_same] at h ⊢; exact h
  · rw [upd_ne ha] at h ⊢; exact e a u h, e.n.upd w⟩
/-- a new object, known -/
theorem Grow.laid (e : Ex G H) (n : H p = none) (w : ∀ ps, o ≠ .tbl ps := by intro _ z; cases z) : Grow G H (upd G p o) (upd H p o) := ⟨Ex.new e.n (fresh_back e n), e.both w, ExN.new n, fun a h1 h2 => by
  by_cases ha : a = p
  · subst ha; exact .inl n
  · rw [upd_ne ha] at h2; exact absurd h1 h2⟩
/-- a new object, not known (it will be written) -/
theorem Grow.hid (e : Ex G H) (n : H p = none) : Grow G H G (upd H p o) := ⟨e.self, e.mut (fresh_back e n), ExN.new n, fun a h1 h2 => absurd h1 h2⟩
/-- an object that is new since H0 and not known is written -/
theorem Grow.put (a : Grow G H G' H') (n : H p = none) (h : G' p = none) (w : isW (H' p) = true) : Grow G H G' (upd H' p o) := ⟨a.e, a.sub.mut h, a.ext.mut n w, a.new⟩
theorem Grow.mut (e : Ex G H) (h : G p = none) : Ex G (upd H p o) := e.mut h
/-- what stands in H and is not known stays so -/
theorem Grow.keep (a : Grow G H G' H') (h : H p = some o) (n : G p = none) (w : isW (some o) = true := by rfl) : H' p = some o ∧ G' p = none := ⟨a.ext.keep h w, by
  cases q : G' p with
  | none => rfl
  | some u =>
    rcases a.new p n (by rw [q]; simp) with z | ⟨c, z⟩
    · rw [z] at h; cases h
    · have h2 := a.ext.keep h w
      rw [a.sub _ _ z] at h2
      cases h2; cases w⟩
theorem Grow.free (a : Grow G H G' H') (h : H' p = none) : H p = none := a.ext.f _ h

/-- two pieces of knowledge of one heap -/
def un (G1 G2 : Hp) : Hp := fun a => match G1 a with | some o => some o | none => G2 a
theorem un_n (n1 : NoTbl G1) (n2 : NoTbl G2) : NoTbl (un G1 G2) := fun a ps h => by
  unfold un at h
  cases q : G1 a with
  | none => rw [q] at h; exact n2 a ps h
  | some u => rw [q] at h; cases h; exact n1 a ps q
theorem un_l (n1 : NoTbl G1) : Ex G1 (un G1 G2) := ⟨fun a o h => by unfold un; rw [h], n1⟩
theorem un_r (e1 : Ex G1 H) (e2 : Ex G2 H) : Ex G2 (un G1 G2) := ⟨fun a o h => by
  unfold un
  cases q : G1 a with
  | none => exact h
  | some u =>
    have h1 := e1 a u q
    rw [e2 a o h] at h1
    cases h1
    rfl, e2.n⟩
theorem un_sub (e1 : Ex G1 H) (e2 : Ex G2 H) : Ex (un G1 G2) H := ⟨fun a o h => by
  unfold un at h
  cases q : G1 a with
  | none => rw [q] at h; exact e2 a o h
  | some u => rw [q] at h; cases h; exact e1 a _ q, un_n e1.n e2.n⟩
theorem Ex.transN [Tbl] (e : Ex G H) (x : ExN H H') : Ex G H' := ⟨fun a o h => x.e a o (e a o h) fun ps z => e.n a ps (by rw [h, z]), e.n⟩
/-- growth of a part is growth of the whole -/
theorem Grow.on (e0 : Ex G G1) (e1 : Ex G1 H) (a : Grow G H G' H') : Grow G1 H (un G1 G') H' ∧ Ex G' (un G1 G') :=
  ⟨⟨un_l e1.n, un_sub (e1.transN a.ext) a.sub, a.ext, fun x h1 h2 => (a.new x (fresh_back e0 h1) (by unfold un at h2; rw [h1] at h2; exact h2)).imp id fun ⟨q, e⟩ => ⟨q, by unfold un; rw [h1]; exact e⟩⟩, un_r (e1.transN a.ext) a.sub⟩
end

def frh (f : Bool) (H : Hp) : Option Hp := if f then some H else none
section
variable [Tbl] {K : Fr} {f : Bool} {H H' G : Hp} {d : D} {v : V} {ds : List D} {vs : List V}
theorem Rep.h2 (e : ExN H H') (h : Rep K (frh f H') G d v) : Rep K (frh f H) G d v := by
  cases f with
  | true => exact Rep.back e h
  | false => exact h
theorem RepA.h2 (e : ExN H H') (h : RepA K (frh f H') G ds vs) : RepA K (frh f H) G ds vs := by
  cases f with
  | true => exact RepA.back e h
  | false => exact h
end

end VL

/-! VM2: what a def does, as a Lean function over data (M); expressions. -/
namespace VL
open PySem PySem.Spec PyProof.Rows L2

/-- an exception that flies: its class, its fields -/
structure Exn where
  c : Addr
  ns : List Str
  ds : List D
/-- what a piece of program does: what must hold so that its end is in Φ, its exception in Ξ -/
abbrev M (α : Type) : Type := (α → Prop) → (Exn → Prop) → Prop
namespace M
variable {α β γ : Type}
def ret (a : α) : M α := fun Φ _ => Φ a
def bnd (m : M α) (k : α → M β) : M β := fun Φ Ξ => m (fun a => k a Φ Ξ) Ξ
def nope : M α := fun _ _ => False
def grd (p : Prop) (m : M α) : M α := fun Φ Ξ => p ∧ m Φ Ξ
def exn (x : Exn) : M α := fun _ Ξ => Ξ x
def opt : Option α → M α
  | some a => ret a
  | none => nope
def drw (n : Int) : M Int := fun Φ _ => 0 < n ∧ n < 2 ^ 200 ∧ ∀ i, 0 ≤ i → i < n → Φ i
@[simp] theorem bnd_ret (a : α) (k : α → M β) : bnd (ret a) k = k a := id rfl
@[simp] theorem bnd_bnd (m : M α) (k : α → M β) (l : β → M γ) : bnd (bnd m k) l = bnd m fun a => bnd (k a) l := id rfl
@[simp] theorem bnd_nope (k : α → M β) : bnd nope k = nope := id rfl
@[simp] theorem bnd_exn (x : Exn) (k : α → M β) : bnd (exn x) k = exn x := id rfl
@[simp] theorem opt_some (a : α) : opt (some a) = ret a := id rfl
@[simp] theorem opt_none : opt (none : Option α) = nope := id rfl
theorem grd_pos {p : Prop} (h : p) (m : M α) : grd p m = m := by funext Φ Ξ; exact propext ⟨fun z => z.2, fun z => ⟨h, z⟩⟩
@[simp] theorem grd_true (m : M α) : grd True m = m := grd_pos trivial m
@[simp] theorem bnd_grd {p : Prop} (m : M α) (k : α → M β) : bnd (grd p m) k = grd p (bnd m k) := id rfl
theorem bnd_ite {p : Prop} [Decidable p] (m1 m2 : M α) (k : α → M β) : bnd (if p then m1 else m2) k = if p then bnd m1 k else bnd m2 k := by split <;> rfl
theorem opt_inv {o : Option α} {Φ : α → Prop} {Ξ : Exn → Prop} (h : opt o Φ Ξ) : ∃ a, o = some a ∧ Φ a := by
  cases o with
  | none => exact h.elim
  | some a => exact ⟨a, rfl, h⟩
theorem ret_bnd (m : M α) : bnd m ret = m := rfl
/-- a weaker end -/
def Mono (m : M α) : Prop := ∀ Φ Φ' : α → Prop, ∀ Ξ Ξ' : Exn → Prop, (∀ a, Φ a → Φ' a) → (∀ x, Ξ x → Ξ' x) → m Φ Ξ → m Φ' Ξ'
end M
open M (ret bnd nope grd exn opt drw)

/-- what is known of the slots: data, and whether its lists are new -/
abbrev VE := List (Option (Bool × D))
section
variable [Tbl]
structure VR (K : Fr) (Hb : Hp) (ve : VE) (σ : L2.St) (G : Hp) : Prop where
  len : ve.length = σ.length
  at_ : ∀ (i : Nat) (f : Bool) (d : D), ve[i]? = some (some (f, d)) → ∃ v, σ[i]? = some (some v) ∧ Rep K (frh f Hb) G d v
def ExR (K : Fr) (x : Exn) (cls : Value) (d : Option Addr) (G : Hp) : Prop := cls = .ref x.c ∧ ∃ a fs, d = some a ∧ G a = some (.xd fs) ∧ fs.map (·.1) = x.ns ∧ RepA K none G x.ds (fs.map (·.2))
/-- the state of an evaluation -/
structure Cv (K : Fr) (EE : XK) (Hb : Hp) (ve : VE) (σ : L2.St) (G H : Hp) (Ξ : Exn → Prop) : Prop where
  vr : VR K Hb ve σ G
  e : Ex G H
  b : ExN Hb H
  x : ∀ x cls d G' H', Ξ x → Grow G H G' H' → ExR K x cls d G' → EE cls d H'
  tb : NdefX.TabsN Tbl.T H
def XE (K : Fr) (EE : XK) (f : Bool) (te : TE) (m : VE → M D) : Prop := ∀ Hb ve σ G H Φ Ξ, Cv K EE Hb ve σ G H Ξ → m ve Φ Ξ → ∀ Q : VK, (∀ d v G' H', Φ d → Grow G H G' H' → Rep K (frh f Hb) G' d v → Q v H') → te σ H Q
def XA (K : Fr) (EE : XK) (f : Bool) (ta : TA) (m : VE → M (List D)) : Prop := ∀ Hb ve σ G H Φ Ξ, Cv K EE Hb ve σ G H Ξ → m ve Φ Ξ → ∀ Q : List V → Hp → Prop, (∀ ds vs G' H', Φ ds → Grow G H G' H' → RepA K (frh f Hb) G' ds vs → Q vs H') → ta σ H Q
def XT (K : Fr) (EE : XK) (tt : TT) (m : VE → M Bool) : Prop := ∀ Hb ve σ G H Φ Ξ, Cv K EE Hb ve σ G H Ξ → m ve Φ Ξ → ∀ Q : Bool → Hp → Prop, (∀ b G' H', Φ b → Grow G H G' H' → Q b H') → tt σ H Q
def XO (K : Fr) (EE : XK) (to : TO) (m : VE → M (Option Int)) : Prop := ∀ Hb ve σ G H Φ Ξ, Cv K EE Hb ve σ G H Ξ → m ve Φ Ξ → ∀ Q : Option Int → Hp → Prop, (∀ o G' H', Φ o → Grow G H G' H' → Q o H') → to σ H Q
/-- a new list, not known -/
def XL (K : Fr) (EE : XK) (f : Bool) (te : TE) (m : VE → M (List D)) : Prop := ∀ Hb ve σ G H Φ Ξ, Cv K EE Hb ve σ G H Ξ → m ve Φ Ξ → ∀ Q : VK, (∀ ds p vs G' H', Φ ds → Grow G H G' H' → H p = none → G' p = none → H' p = some (.lst vs) → RepA K (frh f Hb) G' ds vs → Q (.ref p) H') → te σ H Q
/-- what is given at turn i: the i-th datum -/
def YD (K : Fr) (G : Hp) (ds : List D) : Nat → Hp → V → Hp → Prop := fun i Hc x H' => ∃ d G2, ds[i]? = some d ∧ Grow G Hc G2 H' ∧ Rep K none G2 d x
def XI (K : Fr) (EE : XK) (wi : TI) (m : VE → M (List D)) : Prop := ∀ Hb ve σ G H Φ Ξ, Cv K EE Hb ve σ G H Ξ → m ve Φ Ξ → ∀ R : It → Hp → Prop, (∀ J ds G' H', Φ ds → Grow G H G' H' → Walk J ds.length (fun H => Ex G' H) (YD K G' ds) → R J H') → wi σ H R
/-- a walk over scalars that leans on nothing -/
def XR (K : Fr) (EE : XK) (wi : TI) (m : VE → M (List D)) : Prop := ∀ Hb ve σ G H Φ Ξ, Cv K EE Hb ve σ G H Ξ → m ve Φ Ξ → ∀ R : It → Hp → Prop, (∀ J ds G' H', Φ ds → Grow G H G' H' → Walk J ds.length (fun _ => True) (fun i H x H' => H' = H ∧ ∃ d, ds[i]? = some d ∧ ∀ fr G, Rep K fr G d x) → R J H') → wi σ H R

/-- operations by values -/
def Rv (K : Fr) (f f1 : Bool) (r : R2) (a b c : D) : Prop := ∀ G x y H0, Rep K (frh f1 H0) G a x → Rep K (frh f1 H0) G b y → ∀ H, Ex G H → ExN H0 H → ∀ Q : VK, (∀ v G' H', Grow G H G' H' → Rep K (frh f H0) G' c v → Q v H') → r x y H Q
def Ru (K : Fr) (f : Bool) (r : V → Hp → VK → Prop) (a c : D) : Prop := ∀ G x, Rep K none G a x → ∀ H, Ex G H → ∀ Q : VK, (∀ v G' H', Grow G H G' H' → Rep K (frh f H) G' c v → Q v H') → r x H Q
def Rc (K : Fr) (f : Bool) (r : List V → Hp → VK → Prop) (ds : List D) (c : D) : Prop := ∀ G vs, RepA K none G ds vs → ∀ H, Ex G H → ∀ Q : VK, (∀ v G' H', Grow G H G' H' → Rep K (frh f H) G' c v → Q v H') → r vs H Q
def OpD (K : Fr) (f f1 : Bool) (r : R2) (o : D → D → Option D) : Prop := ∀ a b c, o a b = some c → Rv K f f1 r a b c
def UnD (K : Fr) (f : Bool) (r : V → Hp → VK → Prop) (o : D → Option D) : Prop := ∀ a c, o a = some c → Ru K f r a c
def CbD (K : Fr) (f : Bool) (r : List V → Hp → VK → Prop) (o : List D → Option D) : Prop := ∀ ds c, o ds = some c → Rc K f r ds c
end

/-- a scalar bears no list: old is new -/
def scalarD : D → Bool
  | .non => true | .bl _ => true | .int _ => true | .str _ => true | .ty _ => true | .fn _ => true | _ => false
@[simp] theorem scalar_int (i : Int) : scalarD (.int i) = true := id rfl
@[simp] theorem scalar_bl (i : Bool) : scalarD (.bl i) = true := id rfl
@[simp] theorem scalar_non : scalarD .non = true := id rfl
@[simp] theorem scalar_str (i : Str) : scalarD (.str i) = true := id rfl
section
variable [Tbl] {K : Fr} {EE : XK} {f f1 : Bool} {Hb : Hp} {ve : VE} {σ : L2.St} {G G' H H' : Hp} {Ξ : Exn → Prop} {d : D} {v : V} {ds : List D} {vs : List V}
theorem VR.mono (e : Ex G G') (h : VR K Hb ve σ G) : VR K Hb ve σ G' := ⟨h.len, fun i f d hi => let ⟨v, h1, h2⟩ := h.at_ i f d hi; ⟨v, h1, h2.mono e⟩⟩
theorem Cv.grow (c : Cv K EE Hb ve σ G H Ξ) (g : Grow G H G' H') : Cv K EE Hb ve σ G' H' Ξ := ⟨c.vr.mono g.e, g.sub, c.b.trans g.ext, fun x cls d G2 H2 hx g2 r => c.x x cls d G2 H2 hx (g.trans g2) r, g.ext.t c.tb⟩
theorem Rep.scalar {fr fr' : Option Hp} {H H' : Hp} (hs : scalarD d = true) (h : Rep K fr H d v) : Rep K fr' H' d v := by
  cases h with
  | non => exact .non
  | bl b => exact .bl b
  | int i => exact .int i
  | str i => exact .str i
  | ty n => exact .ty n
  | fn a => exact .fn a
  | lst _ _ _ => cases hs
  | tup _ _ => cases hs
  | ins _ _ _ => cases hs
  | pool _ _ => cases hs
  | scr _ _ _ => cases hs
  | dct _ _ _ _ => cases hs
  | dctT _ _ _ _ => cases hs
  | clo _ _ => cases hs
  | at_ _ => cases hs
  | exc _ _ _ => cases hs
theorem RepA.scalars {fr fr' : Option Hp} : ∀ {ds : List D} {vs : List V}, (∀ d ∈ ds, scalarD d = true) → RepA K fr H ds vs → RepA K fr' H' ds vs := by
  intro ds
  induction ds with
  | nil => intro vs _ h; cases h; exact .nil
  | cons d ds ih =>
    intro vs hs h
    cases h with
    | cons h t => exact .cons (h.scalar (hs d List.mem_cons_self)) (ih (fun x hx => hs x (List.mem_cons_of_mem _ hx)) t)
theorem Rep.fr0 (h : Rep K (frh f Hb) G d v) : Rep K none G d v := h.old
theorem Rep.toF (h : Rep K (frh f H) G d v) (b : ExN Hb H) : Rep K (frh f Hb) G d v := h.h2 b

/-! ### expressions -/
def getV (ve : VE) (i : Nat) : Option D := match ve[i]? with
  | some (some p) => some p.2
  | _ => none
def getF (ve : VE) (i : Nat) : Option D := match ve[i]? with
  | some (some p) => if (p.1 || scalarD p.2) = true then some p.2 else none
  | _ => none
theorem getV_inv {ve : VE} {i : Nat} {d : D} (h : getV ve i = some d) : ∃ f, ve[i]? = some (some (f, d)) := by
  unfold getV at h
  split at h
  · rename_i p hp; cases h; exact ⟨p.1, hp⟩
  · cases h
theorem getF_inv {ve : VE} {i : Nat} {d : D} (h : getF ve i = some d) : ∃ f, ve[i]? = some (some (f, d)) ∧ (f || scalarD d) = true := by
  unfold getF at h
  split at h
  · rename_i p hp
    split at h
    · rename_i hs; cases h; exact ⟨p.1, hp, hs⟩
    · cases h
  · cases h
def mVar (i : Nat) : VE → M D := fun ve => opt (getV ve i)
/-- a variable's value that is new -/
def mVarF (i : Nat) : VE → M D := fun ve => opt (getF ve i)
theorem xe_var {i : Nat} : XE K EE false (tVar i) (mVar i) := fun Hb ve σ G H Φ Ξ c m Q q => by
  obtain ⟨d, h, m⟩ := M.opt_inv m
  obtain ⟨g, h⟩ := getV_inv h
  obtain ⟨v, hv, r⟩ := c.vr.at_ i g d h
  exact ⟨v, hv, q d v G H m (Grow.refl c.e) r.old⟩
theorem xe_varF {i : Nat} : XE K EE true (tVar i) (mVarF i) := fun Hb ve σ G H Φ Ξ c m Q q => by
  obtain ⟨d, h, m⟩ := M.opt_inv m
  obtain ⟨g, h, hs⟩ := getF_inv h
  obtain ⟨v, hv, r⟩ := c.vr.at_ i g d h
  refine ⟨v, hv, q d v G H m (Grow.refl c.e) ?_⟩
  cases g with
  | true => exact r
  | false => exact r.scalar (by simpa using hs)
def mC (d : D) : VE → M D := fun _ => ret d
theorem xe_int {n : Int} : XE K EE f (tC (.int n)) (mC (.int n)) := fun Hb ve σ G H Φ Ξ c m Q q => q _ _ G H m (Grow.refl c.e) (.int n)
theorem xe_bl {n : Bool} : XE K EE f (tC (.bl n)) (mC (.bl n)) := fun Hb ve σ G H Φ Ξ c m Q q => q _ _ G H m (Grow.refl c.e) (.bl n)
theorem xe_non : XE K EE f (tC .non) (mC .non) := fun Hb ve σ G H Φ Ξ c m Q q => q _ _ G H m (Grow.refl c.e) .non
theorem xe_str {n : Str} : XE K EE f (tC (.str n)) (mC (.str n)) := fun Hb ve σ G H Φ Ξ c m Q q => q _ _ G H m (Grow.refl c.e) (.str n)
theorem xe_ty {n : String} : XE K EE f (tC (.ty n)) (mC (.ty n)) := fun Hb ve σ G H Φ Ξ c m Q q => q _ _ G H m (Grow.refl c.e) (.ty n)
theorem xe_fn {a : Addr} : XE K EE f (tC (.ref a)) (mC (.fn a)) := fun Hb ve σ G H Φ Ξ c m Q q => q _ _ G H m (Grow.refl c.e) (.fn a)
variable {te ta tb tc : TE} {ma mb mc : VE → M D} {tr : TA} {mr : VE → M (List D)}
theorem XE.old (h : XE K EE f te ma) : XE K EE false te ma := fun Hb ve σ G H Φ Ξ c m Q q => h Hb ve σ G H Φ Ξ c m Q fun d v G' H' p g r => q d v G' H' p g r.old
/-- a scalar, told so at the value -/
def mSc (m : VE → M D) : VE → M D := fun ve => bnd (m ve) fun d => opt (if scalarD d = true then some d else none)
theorem xe_sc (h : XE K EE false te ma) : XE K EE f te (mSc ma) := fun Hb ve σ G H Φ Ξ c m Q q => h Hb ve σ G H _ Ξ c m Q fun d v G' H' p g r => by
  obtain ⟨z, e, p⟩ := M.opt_inv p
  by_cases hs : scalarD d = true
  · rw [if_pos hs] at e; cases e; exact q d v G' H' p g (r.scalar hs)
  · rw [if_neg hs] at e; cases e
def m2 (o : D → D → Option D) (ma mb : VE → M D) : VE → M D := fun ve => bnd (ma ve) fun a => bnd (mb ve) fun b => opt (o a b)
theorem xe_op {r : R2} {o : D → D → Option D} (ho : OpD K f f1 r o) (ha : XE K EE f1 ta ma) (hb : XE K EE f1 tb mb) : XE K EE f (tOp r ta tb) (m2 o ma mb) := fun Hb ve σ G H Φ Ξ c m Q q =>
  ha Hb ve σ G H _ Ξ c m _ fun a x G1 H1 p1 g1 r1 => hb Hb ve σ G1 H1 _ Ξ (c.grow g1) p1 _ fun b y G2 H2 p2 g2 r2 => by
    obtain ⟨z, e, p2⟩ := M.opt_inv p2
    exact ho a b z e G2 x y Hb (r1.mono g2.e) r2 H2 g2.sub ((c.grow g1).grow g2).b Q fun v G3 H3 g3 r3 => q z v G3 H3 p2 ((g1.trans g2).trans g3) r3
def m1 (o : D → Option D) (ma : VE → M D) : VE → M D := fun ve => bnd (ma ve) fun a => opt (o a)
theorem xe_un {r : V → Hp → VK → Prop} {o : D → Option D} (ho : UnD K f r o) (ha : XE K EE false ta ma) : XE K EE f (tUn r ta) (m1 o ma) := fun Hb ve σ G H Φ Ξ c m Q q =>
  ha Hb ve σ G H _ Ξ c m _ fun a x G1 H1 p1 g1 r1 => by
    obtain ⟨z, e, p1⟩ := M.opt_inv p1
    exact ho a z e G1 x r1 H1 g1.sub Q fun v G3 H3 g3 r3 => q z v G3 H3 p1 (g1.trans g3) (r3.h2 (c.grow g1).b)
def aNil : VE → M (List D) := fun _ => ret []
def aCons (ma : VE → M D) (mr : VE → M (List D)) : VE → M (List D) := fun ve => bnd (ma ve) fun a => bnd (mr ve) fun as => ret (a :: as)
theorem xa_nil : XA K EE f tNil aNil := fun Hb ve σ G H Φ Ξ c m Q q => q [] [] G H m (Grow.refl c.e) .nil
theorem xa_cons (h : XE K EE f te ma) (hr : XA K EE f tr mr) : XA K EE f (tCons te tr) (aCons ma mr) := fun Hb ve σ G H Φ Ξ c m Q q =>
  h Hb ve σ G H _ Ξ c m _ fun a x G1 H1 p1 g1 r1 => hr Hb ve σ G1 H1 _ Ξ (c.grow g1) p1 _ fun as xs G2 H2 p2 g2 r2 => q (a :: as) _ G2 H2 p2 (g1.trans g2) (.cons (r1.mono g2.e) r2)
def mCb (o : List D → Option D) (mr : VE → M (List D)) : VE → M D := fun ve => bnd (mr ve) fun as => opt (o as)
theorem xe_cb {r : List V → Hp → VK → Prop} {o : List D → Option D} (ho : CbD K f r o) (h : XA K EE false tr mr) : XE K EE f (tCB r tr) (mCb o mr) := fun Hb ve σ G H Φ Ξ c m Q q =>
  h Hb ve σ G H _ Ξ c m _ fun as xs G1 H1 p1 g1 r1 => by
    obtain ⟨z, e, p1⟩ := M.opt_inv p1
    exact ho as z e G1 xs r1 H1 g1.sub Q fun v G3 H3 g3 r3 => q z v G3 H3 p1 (g1.trans g3) (r3.h2 (c.grow g1).b)
/-- a def's promise: what its M does -/
def spM (K : Fr) (f : Bool) (n : Nat) (m : List D → M D) : Sp := fun vs H Q E => ∃ (ds : List D) (G : Hp) (Φ : D → Prop) (Ξ : Exn → Prop), Ex G H ∧ RepA K none G ds vs ∧ ds.length = n ∧ m ds Φ Ξ ∧ NdefX.TabsN Tbl.T H ∧
  (∀ d v G' H', Φ d → Grow G H G' H' → Rep K (frh f H) G' d v → Q v H') ∧ ∀ x cls d G' H', Ξ x → Grow G H G' H' → ExR K x cls d G' → E cls d H'
def mCall (n : Nat) (mf : List D → M D) (mr : VE → M (List D)) : VE → M D := fun ve => bnd (mr ve) fun as => grd (as.length = n) (mf as)
theorem xe_call {n : Nat} {mf : List D → M D} (h : XA K EE false tr mr) : XE K EE f (tCall (spM K f n mf) [] EE tr) (mCall n mf mr) := fun Hb ve σ G H Φ Ξ c m Q q =>
  h Hb ve σ G H _ Ξ c m _ fun as xs G1 H1 p1 g1 r1 => by
    rw [List.append_nil]
    exact ⟨as, G1, Φ, Ξ, g1.sub, r1, p1.1, p1.2, (c.grow g1).tb, fun d v G' H' p g r => q d v G' H' p (g1.trans g) (r.h2 (c.grow g1).b), fun x cls d G' H' hx g r => (c.grow g1).x x cls d G' H' hx g r⟩
/-- a call that lets nothing out -/
theorem xe_callC {n : Nat} {mf : List D → M D} {E : XK} (hc : ∀ ds Φ Ξ, mf ds Φ Ξ → mf ds Φ (fun _ => False)) (h : XA K EE false tr mr) : XE K EE f (tCall (spM K f n mf) [] E tr) (mCall n mf mr) := fun Hb ve σ G H Φ Ξ c m Q q =>
  h Hb ve σ G H _ Ξ c m _ fun as xs G1 H1 p1 g1 r1 => by
    rw [List.append_nil]
    exact ⟨as, G1, Φ, fun _ => False, g1.sub, r1, p1.1, hc _ _ _ p1.2, (c.grow g1).tb, fun d v G' H' p g r => q d v G' H' p (g1.trans g) (r.h2 (c.grow g1).b), fun x cls d G' H' hx g r => hx.elim⟩

/-! ### tests -/
variable {tt tu : TT} {mt mu : VE → M Bool}
def tBl (d : D) : Option Bool := match d with
  | .bl b => some b
  | _ => none
@[simp] theorem tBl_bl (b : Bool) : tBl (.bl b) = some b := id rfl
def mTest (m : VE → M D) : VE → M Bool := fun ve => bnd (m ve) fun d => opt (tBl d)
theorem tBl_inv {d : D} {b : Bool} (h : tBl d = some b) : d = .bl b := by cases d <;> simp [tBl] at h; subst h; rfl
theorem xt_test (h : XE K EE false te ma) : XT K EE (tTest te) (mTest ma) := fun Hb ve σ G H Φ Ξ c m Q q => h Hb ve σ G H _ Ξ c m _ fun d v G1 H1 p1 g1 r1 => by
  obtain ⟨b, e, p1⟩ := M.opt_inv p1
  rw [tBl_inv e] at r1; exact ⟨b, r1.bl_inv, q b G1 H1 p1 g1⟩
theorem xt_B (h : XE K EE false te ma) : XT K EE (tB te) (mTest ma) := fun Hb ve σ G H Φ Ξ c m Q q => h Hb ve σ G H _ Ξ c m _ fun d v G1 H1 p1 g1 r1 => by
  obtain ⟨b, e, p1⟩ := M.opt_inv p1
  rw [tBl_inv e] at r1; exact ⟨b, r1.bl_inv, q b G1 H1 p1 g1⟩
def mTAnd (mt mu : VE → M Bool) : VE → M Bool := fun ve => bnd (mt ve) fun b => if b = true then mu ve else ret false
def mTOr (mt mu : VE → M Bool) : VE → M Bool := fun ve => bnd (mt ve) fun b => if b = true then ret true else mu ve
def mTNot (mt : VE → M Bool) : VE → M Bool := fun ve => bnd (mt ve) fun b => ret (!b)
theorem xt_and (h : XT K EE tt mt) (h2 : XT K EE tu mu) : XT K EE (tAnd tt tu) (mTAnd mt mu) := fun Hb ve σ G H Φ Ξ c m Q q => h Hb ve σ G H _ Ξ c m _ fun b G1 H1 p1 g1 => by
  cases b with
  | true => exact h2 Hb ve σ G1 H1 Φ Ξ (c.grow g1) p1 Q fun b G2 H2 p2 g2 => q b G2 H2 p2 (g1.trans g2)
  | false => exact q false G1 H1 p1 g1
theorem xt_or (h : XT K EE tt mt) (h2 : XT K EE tu mu) : XT K EE (tOr tt tu) (mTOr mt mu) := fun Hb ve σ G H Φ Ξ c m Q q => h Hb ve σ G H _ Ξ c m _ fun b G1 H1 p1 g1 => by
  cases b with
  | false => exact h2 Hb ve σ G1 H1 Φ Ξ (c.grow g1) p1 Q fun b G2 H2 p2 g2 => q b G2 H2 p2 (g1.trans g2)
  | true => exact q true G1 H1 p1 g1
theorem xt_not (h : XT K EE tt mt) : XT K EE (tNot tt) (mTNot mt) := fun Hb ve σ G H Φ Ξ c m Q q => h Hb ve σ G H _ Ξ c m _ fun b G1 H1 p1 g1 => q (!b) G1 H1 p1 g1
def mYes : VE → M Bool := fun _ => ret true
theorem xt_yes : XT K EE tYes mYes := fun Hb ve σ G H Φ Ξ c m Q q => q true G H m (Grow.refl c.e)
def mAnd (ma mb : VE → M D) : VE → M D := fun ve => bnd (ma ve) fun a => bnd (opt (tBl a)) fun b => if b = true then mb ve else ret (.bl false)
def mOr (ma mb : VE → M D) : VE → M D := fun ve => bnd (ma ve) fun a => bnd (opt (tBl a)) fun b => if b = true then ret (.bl true) else mb ve
def mNot (ma : VE → M D) : VE → M D := fun ve => bnd (ma ve) fun a => bnd (opt (tBl a)) fun b => ret (.bl !b)
theorem xe_and (h : XE K EE false ta ma) (h2 : XE K EE f tb mb) : XE K EE f (tAndV ta tb) (mAnd ma mb) := fun Hb ve σ G H Φ Ξ c m Q q => h Hb ve σ G H _ Ξ c m _ fun a x G1 H1 p1 g1 r1 => by
  obtain ⟨b, e, p1⟩ := M.opt_inv p1
  rw [tBl_inv e] at r1
  refine ⟨b, r1.bl_inv, ?_⟩
  cases b with
  | true => exact h2 Hb ve σ G1 H1 Φ Ξ (c.grow g1) p1 Q fun d v G2 H2 p2 g2 r2 => q d v G2 H2 p2 (g1.trans g2) r2
  | false => exact q _ _ G1 H1 p1 g1 (.bl false)
theorem xe_or (h : XE K EE false ta ma) (h2 : XE K EE f tb mb) : XE K EE f (tOrV ta tb) (mOr ma mb) := fun Hb ve σ G H Φ Ξ c m Q q => h Hb ve σ G H _ Ξ c m _ fun a x G1 H1 p1 g1 r1 => by
  obtain ⟨b, e, p1⟩ := M.opt_inv p1
  rw [tBl_inv e] at r1
  refine ⟨b, r1.bl_inv, ?_⟩
  cases b with
  | false => exact h2 Hb ve σ G1 H1 Φ Ξ (c.grow g1) p1 Q fun d v G2 H2 p2 g2 r2 => q d v G2 H2 p2 (g1.trans g2) r2
  | true => exact q _ _ G1 H1 p1 g1 (.bl true)
theorem xe_not (h : XE K EE false ta ma) : XE K EE f (tNotV ta) (mNot ma) := fun Hb ve σ G H Φ Ξ c m Q q => h Hb ve σ G H _ Ξ c m _ fun a x G1 H1 p1 g1 r1 => by
  obtain ⟨b, e, p1⟩ := M.opt_inv p1
  rw [tBl_inv e] at r1
  exact ⟨b, r1.bl_inv, q _ _ G1 H1 p1 g1 (.bl _)⟩
def mIf (mt : VE → M Bool) (ma mb : VE → M D) : VE → M D := fun ve => bnd (mt ve) fun b => if b = true then ma ve else mb ve
theorem xe_if (h : XT K EE tt mt) (ha : XE K EE f ta ma) (hb : XE K EE f tb mb) : XE K EE f (tIf tt ta tb) (mIf mt ma mb) := fun Hb ve σ G H Φ Ξ c m Q q => h Hb ve σ G H _ Ξ c m _ fun b G1 H1 p1 g1 => by
  cases b with
  | true => exact ha Hb ve σ G1 H1 Φ Ξ (c.grow g1) p1 Q fun d v G2 H2 p2 g2 r2 => q d v G2 H2 p2 (g1.trans g2) r2
  | false => exact hb Hb ve σ G1 H1 Φ Ξ (c.grow g1) p1 Q fun d v G2 H2 p2 g2 r2 => q d v G2 H2 p2 (g1.trans g2) r2
def mChain (o1 o2 : D → D → Option D) (ma mb mc : VE → M D) : VE → M D := fun ve => bnd (ma ve) fun a => bnd (mb ve) fun b => bnd (opt (o1 a b)) fun z => bnd (opt (tBl z)) fun x => if x = true then bnd (mc ve) fun c => opt (o2 b c) else ret (.bl false)
theorem xe_chain {r1 r2 : R2} {o1 o2 : D → D → Option D} (h1 : OpD K false false r1 o1) (h2 : OpD K f false r2 o2) (ha : XE K EE false ta ma) (hb : XE K EE false tb mb) (hc : XE K EE false tc mc) : XE K EE f (tChain r1 r2 ta tb tc) (mChain o1 o2 ma mb mc) := fun Hb ve σ G H Φ Ξ c m Q q =>
  ha Hb ve σ G H _ Ξ c m _ fun a x G1 H1 p1 g1 ra => hb Hb ve σ G1 H1 _ Ξ (c.grow g1) p1 _ fun b y G2 H2 p2 g2 rb => by
    have c2 := (c.grow g1).grow g2
    obtain ⟨z, e, p2⟩ := M.opt_inv p2
    refine h1 a b z e G2 x y Hb (ra.mono g2.e) rb H2 g2.sub c2.b _ fun zv G3 H3 g3 rz => ?_
    have p2 : bnd (opt (tBl z)) (fun x => if x = true then bnd (mc ve) fun c => opt (o2 b c) else ret (.bl false)) Φ Ξ := p2
    obtain ⟨k, e2, p2⟩ := M.opt_inv p2
    rw [tBl_inv e2] at rz
    refine ⟨k, rz.bl_inv, ?_⟩
    cases k with
    | false => exact q _ _ G3 H3 p2 ((g1.trans g2).trans g3) (.bl _)
    | true =>
      refine hc Hb ve σ G3 H3 _ Ξ (c2.grow g3) p2 _ fun cc w G4 H4 p4 g4 rc => ?_
      obtain ⟨u, e3, p4⟩ := M.opt_inv p4
      exact h2 b cc u e3 G4 y w Hb (rb.mono (g3.e.trans g4.e)) rc H4 g4.sub ((c2.grow g3).grow g4).b Q fun v G5 H5 g5 r5 => q u v G5 H5 p4 ((((g1.trans g2).trans g3).trans g4).trans g5) r5

/-! ### displays, slices -/
def mTup (mr : VE → M (List D)) : VE → M D := fun ve => bnd (mr ve) fun as => grd (as.length ≤ 100000) (ret (.tup as))
theorem xe_tup (h : XA K EE f tr mr) : XE K EE f (tTup tr) (mTup mr) := fun Hb ve σ G H Φ Ξ c m Q q => h Hb ve σ G H _ Ξ c m _ fun as xs G1 H1 p1 g1 r1 =>
  ⟨Evl.sz_of (by rw [← r1.length]; exact p1.1), fun p hp =>
    have g := Grow.laid (o := .tup xs) g1.sub hp
    q _ (.ref p) _ _ p1.2 (g1.trans g) (.tup (SqT.of upd_same) (r1.mono g.e))⟩
/-- a list of one's own is known from here on -/
theorem Grow.own {G0 H0 : Hp} {p : Addr} (g : Grow G0 H0 G H) (hp : H p = some (.lst vs)) (hn : G p = none) (h0 : H0 p = none) : Grow G0 H0 (upd G p (.lst vs)) H :=
  ⟨g.e.trans (Ex.new g.sub.n hn), ⟨fun a o ha => by
    by_cases hx : a = p
    · subst hx; rw [upd_same] at ha; cases ha; exact hp
    · rw [upd_ne hx] at ha; exact g.sub a o ha, g.sub.n.upd (by intro _ z; cases z)⟩, g.ext, fun a ha ha' => by
    by_cases hx : a = p
    · subst hx; exact .inl h0
    · rw [upd_ne hx] at ha' ⊢; exact g.new a ha ha'⟩
def mLst (mr : VE → M (List D)) : VE → M D := fun ve => bnd (mr ve) fun as => ret (.lst as)
def lLst (mr : VE → M (List D)) : VE → M (List D) := fun ve => bnd (mr ve) fun as => grd (as.length ≤ 100000) (ret as)
theorem XL.xe (h : XL K EE f te mr) : XE K EE f te (mLst mr) := fun Hb ve σ G H Φ Ξ c m Q q => h Hb ve σ G H _ Ξ c m _ fun as p xs G1 H1 p1 g1 h1 h2 h3 r1 => by
  refine q (.lst as) (.ref p) (upd G1 p (.lst xs)) H1 p1 (g1.own h3 h2 h1) (.lst ?_ upd_same (r1.mono (Ex.new g1.sub.n h2)))
  cases f with
  | true => exact c.b.f _ h1
  | false => trivial
theorem xl_lst (h : XA K EE f tr mr) : XL K EE f (tLst tr) (lLst mr) := fun Hb ve σ G H Φ Ξ c m Q q => h Hb ve σ G H _ Ξ c m _ fun as xs G1 H1 p1 g1 r1 =>
  ⟨Evl.sz_of (by rw [← r1.length]; exact p1.1), fun p hp => q as p xs G1 _ p1.2 (g1.trans (Grow.hid g1.sub hp)) (g1.free hp) (fresh_back g1.sub hp) upd_same r1⟩
def oNone : VE → M (Option Int) := fun _ => ret none
def tIn (d : D) : Option Int := match d with
  | .int i => some i
  | _ => none
@[simp] theorem tIn_int (i : Int) : tIn (.int i) = some i := id rfl
theorem tIn_inv {d : D} {b : Int} (h : tIn d = some b) : d = .int b := by cases d <;> simp [tIn] at h; subst h; rfl
def oSome (ma : VE → M D) : VE → M (Option Int) := fun ve => bnd (ma ve) fun a => bnd (opt (tIn a)) fun i => ret (some i)
theorem xo_none : XO K EE tNoPart oNone := fun Hb ve σ G H Φ Ξ c m Q q => q none G H m (Grow.refl c.e)
theorem xo_some (h : XE K EE false te ma) : XO K EE (tPart te) (oSome ma) := fun Hb ve σ G H Φ Ξ c m Q q => h Hb ve σ G H _ Ξ c m _ fun a x G1 H1 p1 g1 r1 => by
  obtain ⟨b, e, p1⟩ := M.opt_inv p1
  rw [tIn_inv e] at r1; exact ⟨b, r1.int_inv, q _ G1 H1 p1 g1⟩
/-- the part lo .. hi of a list -/
def cutD {α : Type} (xs : List α) (lo hi : Option Int) : List α := (xs.drop (HT.sIx xs.length 0 lo)).take (HT.sIx xs.length xs.length hi - HT.sIx xs.length 0 lo)
theorem RepA.cut {fr : Option Hp} {vs : List V} (lo hi : Option Int) (h : RepA K fr H ds vs) : RepA K fr H (cutD ds lo hi) (cutV vs lo hi) := by
  unfold cutD cutV
  rw [h.length]
  exact (h.drop _).take _
def tLs (d : D) : Option (List D) := match d with
  | .lst i => some i
  | _ => none
@[simp] theorem tLs_lst (i : List D) : tLs (.lst i) = some i := id rfl
theorem tLs_inv {d : D} {b : List D} (h : tLs d = some b) : d = .lst b := by cases d <;> simp [tLs] at h; subst h; rfl
def rSlU (K : Fr) : V → Option Int → Option Int → Hp → VK → Prop := fun x lo hi H Q => (rSlL K x lo hi H Q ∨ rSlT K x lo hi H Q) ∨ C8.rSlX x lo hi H Q
/-- a part of a list: a new list -/
def lCut (ma : VE → M D) (ml mh : VE → M (Option Int)) : VE → M (List D) := fun ve => bnd (ma ve) fun a => bnd (ml ve) fun lo => bnd (mh ve) fun hi => bnd (opt (tLs a)) fun ds => ret (cutD ds lo hi)
theorem xl_cut {tl th : TO} {ml mh : VE → M (Option Int)} (h : XE K EE f te ma) (hl : XO K EE tl ml) (hh : XO K EE th mh) : XL K EE f (tSl (rSlU K) te tl th) (lCut ma ml mh) := fun Hb ve σ G H Φ Ξ c m Q q =>
  h Hb ve σ G H _ Ξ c m _ fun a x G1 H1 p1 g1 r1 => hl Hb ve σ G1 H1 _ Ξ (c.grow g1) p1 _ fun lo G2 H2 p2 g2 => hh Hb ve σ G2 H2 _ Ξ ((c.grow g1).grow g2) p2 _ fun hi G3 H3 p3 g3 => by
    obtain ⟨ds, e, p3⟩ := M.opt_inv p3
    rw [tLs_inv e] at r1
    obtain ⟨p, vs, rfl, _, hp, rs⟩ := r1.lst_inv
    have g := (g1.trans g2).trans g3
    exact .inl (.inl ⟨p, vs, rfl, SqL.of (g3.sub _ _ (g3.e _ _ (g2.e _ _ hp))), fun n hn => q _ n _ G3 _ p3 (g.trans (Grow.hid g.sub hn)) (g.free hn) (fresh_back g.sub hn) upd_same ((rs.mono (g2.e.trans g3.e)).cut lo hi)⟩)
end
end VL

/-! VM3: operations on data. -/
namespace VL
open PySem PySem.Spec PyProof.Rows L2
open M (ret bnd nope grd exn opt drw)

/-! ### data read -/
def intsOf : List D → Option (List Int)
  | [] => some []
  | .int n :: ds => (intsOf ds).map (n :: ·)
  | _ :: _ => none
def strsOf : List D → Option (List Str)
  | [] => some []
  | .str n :: ds => (strsOf ds).map (n :: ·)
  | _ :: _ => none
def bolsOf : List D → Option (List Bool)
  | [] => some []
  | .bl n :: ds => (bolsOf ds).map (n :: ·)
  | _ :: _ => none
@[simp] theorem intsOf_map : ∀ ns : List Int, intsOf (ns.map D.int) = some ns
  | [] => rfl
  | n :: ns => by rw [List.map_cons]; show (intsOf (ns.map D.int)).map (n :: ·) = _; rw [intsOf_map ns]; rfl
@[simp] theorem strsOf_map : ∀ ns : List Str, strsOf (ns.map D.str) = some ns
  | [] => rfl
  | n :: ns => by rw [List.map_cons]; show (strsOf (ns.map D.str)).map (n :: ·) = _; rw [strsOf_map ns]; rfl
@[simp] theorem bolsOf_map : ∀ ns : List Bool, bolsOf (ns.map D.bl) = some ns
  | [] => rfl
  | n :: ns => by rw [List.map_cons]; show (bolsOf (ns.map D.bl)).map (n :: ·) = _; rw [bolsOf_map ns]; rfl
theorem intsOf_inv : ∀ {ds : List D} {ns : List Int}, intsOf ds = some ns → ds = ns.map D.int
  | [], ns, h => by cases h; rfl
  | d :: ds, ns, h => by
    cases d <;> simp [intsOf] at h
    obtain ⟨ms, h1, rfl⟩ := h
    rw [List.map_cons, intsOf_inv h1]
theorem strsOf_inv : ∀ {ds : List D} {ns : List Str}, strsOf ds = some ns → ds = ns.map D.str
  | [], ns, h => by cases h; rfl
  | d :: ds, ns, h => by
    cases d <;> simp [strsOf] at h
    obtain ⟨ms, h1, rfl⟩ := h
    rw [List.map_cons, strsOf_inv h1]
theorem bolsOf_inv : ∀ {ds : List D} {ns : List Bool}, bolsOf ds = some ns → ds = ns.map D.bl
  | [], ns, h => by cases h; rfl
  | d :: ds, ns, h => by
    cases d <;> simp [bolsOf] at h
    obtain ⟨ms, h1, rfl⟩ := h
    rw [List.map_cons, bolsOf_inv h1]
mutual
def toP : D → Option PyData
  | .non => some .none
  | .bl b => some (.bool b)
  | .int i => some (.int i)
  | .str s => some (.str s)
  | .lst ds => (toPs ds).map .list
  | .tup ds => (toPs ds).map .tuple
  | _ => none
def toPs : List D → Option (List PyData)
  | [] => some []
  | d :: ds => match toP d, toPs ds with
    | some p, some ps => some (p :: ps)
    | _, _ => none
end
section
variable [Tbl] {K : Fr} {EE : XK} {f f1 : Bool} {Hb : Hp} {σ : L2.St} {G G' H H' : Hp} {d : D} {v : V} {ds : List D} {vs : List V} {fr : Option Hp}
mutual
theorem Rep.dp (e : Ex G H) : ∀ (d : D) (v : V) (p : PyData), Rep K fr G d v → toP d = some p → Dp K H v p
  | .non, _, _, .non, h => by simp [toP] at h; subst h; exact .non
  | .bl _, _, _, .bl b, h => by simp [toP] at h; subst h; exact .bl b
  | .int _, _, _, .int b, h => by simp [toP] at h; subst h; exact .int b
  | .str _, _, _, .str b, h => by simp [toP] at h; subst h; exact .str b
  | .lst ds, _, _, .lst _ ha r, h => by
    simp only [toP, Option.map_eq_some_iff] at h
    obtain ⟨ps, h1, rfl⟩ := h
    exact .lst (SqL.of (e _ _ ha)) (RepA.dp e ds _ ps r h1)
  | .tup ds, _, _, .tup ha r, h => by
    simp only [toP, Option.map_eq_some_iff] at h
    obtain ⟨ps, h1, rfl⟩ := h
    exact .tup (ex_t e ha) (RepA.dp e ds _ ps r h1)
  | .ins _ _ _, _, _, _, h => by simp [toP] at h
  | .pool, _, _, _, h => by simp [toP] at h
  | .ty _, _, _, _, h => by simp [toP] at h
  | .scr, _, _, _, h => by simp [toP] at h
  | .fn _, _, _, _, h => by simp [toP] at h
  | .dct _ _, _, _, _, h => by simp [toP] at h
  | .dctT _ _, _, _, _, h => by simp [toP] at h
  | .clo _ _, _, _, _, h => by simp [toP] at h
  | .at_ _ _, _, _, _, h => by simp [toP] at h
  | .exc _ _ _ _ _, _, _, _, h => by simp [toP] at h
theorem RepA.dp (e : Ex G H) : ∀ (ds : List D) (vs : List V) (ps : List PyData), RepA K fr G ds vs → toPs ds = some ps → DpAll K H vs ps
  | [], _, _, .nil, h => by simp [toPs] at h; subst h; exact .nil
  | d :: ds, _, _, .cons r t, h => by
    simp only [toPs] at h
    split at h
    · rename_i p ps h1 h2
      cases h
      exact .cons (Rep.dp e d _ p r h1) (RepA.dp e ds _ ps t h2)
    · cases h
end
theorem RepA.strs {ns : List Str} {vs : List V} (h : RepA K fr H (ns.map D.str) vs) : vs = ns.map V.str := by
  induction ns generalizing vs with
  | nil => cases h; rfl
  | cons n ns ih => cases h with | cons h t => cases h; rw [ih t]; rfl

/-! ### two-place operations -/
theorem Rv.left {r1 r2 : R2} {a b c : D} (h : Rv K f f1 r1 a b c) : Rv K f f1 (fun x y H Q => r1 x y H Q ∨ r2 x y H Q) a b c := fun G x y H0 ra rb H e e0 Q q => .inl (h G x y H0 ra rb H e e0 Q q)
theorem Rv.right {r1 r2 : R2} {a b c : D} (h : Rv K f f1 r2 a b c) : Rv K f f1 (fun x y H Q => r1 x y H Q ∨ r2 x y H Q) a b c := fun G x y H0 ra rb H e e0 Q q => .inr (h G x y H0 ra rb H e e0 Q q)
theorem rv_I0 {g : Int → Int → V} {g' : D} {i j : Int} (hg : ∀ {fr : Option Hp} {H : Hp}, Rep K fr H g' (g i j)) : Rv K f f1 (rI0 g) (.int i) (.int j) g' := fun G x y H0 ra rb H e _ Q q =>
  ⟨i, j, ra.int_inv, rb.int_inv, q _ G H (Grow.refl e) hg⟩
theorem rv_I {C : Int → Int → Prop} {g : Int → Int → V} {g' : D} {i j : Int} (hc : C i j) (hg : ∀ {fr : Option Hp} {H : Hp}, Rep K fr H g' (g i j)) : Rv K f f1 (rI C g) (.int i) (.int j) g' := fun G x y H0 ra rb H e _ Q q =>
  ⟨i, j, ra.int_inv, rb.int_inv, hc, q _ G H (Grow.refl e) hg⟩
theorem frh_new {p : Addr} {H0 : Hp} (e0 : ExN H0 H) (hn : H p = none) : frOk (frh f H0) p := by
  cases f with
  | true => exact e0.f _ hn
  | false => trivial
def rAddS2 : R2 := fun x y H Q => ∃ i j, x = .str i ∧ y = .str j ∧ i.length + j.length ≤ sizeLine ∧ Q (.str (i ++ j)) H
def rAddU (K : Fr) : R2 := fun x y H Q => (rI0 (fun i j => .int (i + j)) x y H Q ∨ rCat x y H Q) ∨ (rAddS2 x y H Q ∨ rCatT K x y H Q)
theorem op_addU {X : Cx} : OpR X (binaryOp .Add) (rAddU X.K) := (op_add.or op_cat).or (OpR.or (r := rAddS2) op_add_str op_catT)
def addD : D → D → Option D
  | .int i, .int j => some (.int (i + j))
  | .lst a, .lst b => if a.length + b.length ≤ 100000 then some (.lst (a ++ b)) else none
  | .str a, .str b => if a.length + b.length ≤ 100000 then some (.str (a ++ b)) else none
  | .tup (a :: as), .tup b => if as.length + 1 + b.length ≤ 100000 then some (.tup (a :: as ++ b)) else none
  | _, _ => none
@[simp] theorem addD_int (i j : Int) : addD (.int i) (.int j) = some (.int (i + j)) := id rfl
theorem addD_lst {a b : List D} (h : a.length + b.length ≤ 100000) : addD (.lst a) (.lst b) = some (.lst (a ++ b)) := if_pos h
theorem addD_str {a b : Str} (h : a.length + b.length ≤ 100000) : addD (.str a) (.str b) = some (.str (a ++ b)) := if_pos h
theorem rv_cat {ds es : List D} (hl : ds.length + es.length ≤ 100000) : Rv K f f rCat (.lst ds) (.lst es) (.lst (ds ++ es)) := fun G x y H0 ra rb H e e0 Q q => by
  obtain ⟨p, vs, rfl, fp, hp, rs⟩ := ra.lst_inv
  obtain ⟨p2, us, rfl, fp2, hp2, rs2⟩ := rb.lst_inv
  refine ⟨p, p2, vs, us, rfl, rfl, e _ _ hp, e _ _ hp2, Evl.sz_of (by rw [← rs.length, ← rs2.length]; exact hl), fun n hn => ?_⟩
  have g := Grow.laid (o := .lst (vs ++ us)) e hn
  exact q (.ref n) _ _ g (.lst (frh_new e0 hn) upd_same ((rs.append rs2).mono g.e))
theorem od_add : OpD K f f (rAddU K) addD := fun a b c h => by
  unfold addD at h
  split at h
  · cases h; exact .left (.left (rv_I0 (.int _)))
  · split at h
    · rename_i hl; cases h; exact .left (.right (rv_cat hl))
    · cases h
  · split at h
    · rename_i i j hl; cases h
      exact .right (.left fun G x y H0 ra rb H e _ Q q => ⟨i, j, ra.str_inv, rb.str_inv, Evl.sz_of hl, q _ G H (Grow.refl e) (.str _)⟩)
    · cases h
  · split at h
    · rename_i a1 as bs hl; cases h
      refine .right (.right fun G x y H0 ra rb H e e0 Q q => ?_)
      obtain ⟨p, vs, rfl, hp, rs⟩ := ra.tup_inv
      obtain ⟨p2, us, rfl, hp2, rs2⟩ := rb.tup_inv
      refine ⟨p, p2, vs, us, rfl, rfl, ex_t e hp, ex_t e hp2, (by cases rs; simp), Evl.sz_of (by rw [← rs.length, ← rs2.length]; exact hl), fun hu => ?_, fun hu n hn => ?_⟩
      · subst hu
        have hb : bs = [] := by cases rs2; rfl
        subst hb
        exact q _ G H (Grow.refl e) (by rw [List.append_nil]; exact .tup hp rs)
      · have g := Grow.laid (o := .tup (vs ++ us)) e hn
        exact q (.ref n) _ _ g (.tup (SqT.of upd_same) ((rs.append rs2).mono g.e))
    · cases h
  · cases h
def subD : D → D → Option D
  | .int i, .int j => some (.int (i - j))
  | _, _ => none
@[simp] theorem subD_int (i j : Int) : subD (.int i) (.int j) = some (.int (i - j)) := id rfl
theorem od_sub : OpD K f f1 (rI0 fun i j => .int (i - j)) subD := fun a b c h => by
  unfold subD at h
  split at h
  · cases h; exact rv_I0 (.int _)
  · cases h
def rMulU : R2 := fun x y H Q => rI CMul (fun i j => .int (i * j)) x y H Q ∨ rRep x y H Q
theorem op_mulU {X : Cx} : OpR X (binaryOp .Mult) rMulU := op_mul.or op_rep
instance (i j : Int) : Decidable (CMul i j) := by unfold CMul; infer_instance
instance (i j : Int) : Decidable (CDivW i j) := by unfold CDivW; infer_instance
instance (i j : Int) : Decidable (CPow i j) := by unfold CPow; infer_instance
def mulD : D → D → Option D
  | .int i, .int j => if CMul i j then some (.int (i * j)) else none
  | .lst [d], .int k => if scalarD d = true ∧ k ≤ 100000 ∧ -100000 ≤ k then some (.lst (List.replicate k.toNat d)) else none
  | _, _ => none
theorem mulD_int {i j : Int} (h : CMul i j) : mulD (.int i) (.int j) = some (.int (i * j)) := if_pos h
theorem mulD_rep {d : D} {k : Int} (h : scalarD d = true ∧ k ≤ 100000 ∧ -100000 ≤ k) : mulD (.lst [d]) (.int k) = some (.lst (List.replicate k.toNat d)) := if_pos h
theorem od_mul : OpD K f f1 rMulU mulD := fun a b c h => by
  unfold mulD at h
  split at h
  · split at h
    · rename_i hc; cases h; exact .left (rv_I hc (.int _))
    · cases h
  · split at h
    · rename_i d k hc; cases h
      obtain ⟨hs, h1, h2⟩ := hc
      refine .right fun G x y H0 ra rb H e e0 Q q => ?_
      obtain ⟨p, vs, rfl, fp, hp, rs⟩ := ra.lst_inv
      cases rb
      cases rs with
      | cons r1 r2 =>
        cases r2
        rename_i w
        refine ⟨p, k, [w], rfl, rfl, e _ _ hp, by omega, by omega, Evl.sz_of (by simp; omega), fun n hn => ?_⟩
        have g := Grow.laid (o := .lst (List.replicate k.toNat [w]).flatten) e hn
        have eq : (List.replicate k.toNat [w]).flatten = List.replicate k.toNat w := by
          generalize k.toNat = m
          induction m with
          | zero => rfl
          | succ m ih => rw [List.replicate_succ, List.replicate_succ, List.flatten_cons, ih]; rfl
        have rr : RepA K (frh f H0) (upd G n (.lst (List.replicate k.toNat [w]).flatten)) (List.replicate k.toNat d) (List.replicate k.toNat [w]).flatten := by
          rw [eq]
          have r' : Rep K (frh f H0) (upd G n (.lst (List.replicate k.toNat w))) d w := r1.scalar hs
          generalize (upd G n (.lst (List.replicate k.toNat w))) = G9 at r'
          generalize k.toNat = m
          induction m with
          | zero => exact .nil
          | succ m ih => exact .cons r' ih
        exact q (.ref n) _ _ g (.lst (frh_new e0 hn) upd_same rr)
    · cases h
  · cases h
def divD : D → D → Option D
  | .int i, .int j => if CDivW i j then some (.int (i / j)) else none
  | _, _ => none
theorem divD_int {i j : Int} (h : CDivW i j) : divD (.int i) (.int j) = some (.int (i / j)) := if_pos h
theorem od_div : OpD K f f1 (rI CDivW fun i j => .int (i / j)) divD := fun a b c h => by
  unfold divD at h
  split at h
  · split at h
    · rename_i hc; cases h; exact rv_I hc (.int _)
    · cases h
  · cases h
def modD : D → D → Option D
  | .int i, .int j => if 0 < j then some (.int (i % j)) else none
  | _, _ => none
theorem modD_int {i j : Int} (h : 0 < j) : modD (.int i) (.int j) = some (.int (i % j)) := if_pos h
theorem od_mod : OpD K f f1 (rI (fun _ j => j ≠ 0) fun i j => .int (i.fmod j)) modD := fun a b c h => by
  unfold modD at h
  split at h
  · split at h
    · rename_i i j hc; cases h
      have e : i.fmod j = i % j := Int.fmod_eq_emod_of_nonneg i (by omega)
      rw [← e]
      exact rv_I (by omega) (.int _)
    · cases h
  · cases h
def powD : D → D → Option D
  | .int i, .int j => if CPow i j then some (.int (i ^ j.toNat)) else none
  | _, _ => none
theorem powD_int {i j : Int} (h : CPow i j) : powD (.int i) (.int j) = some (.int (i ^ j.toNat)) := if_pos h
theorem od_pow : OpD K f f1 (rI CPow fun i j => .int (i ^ j.toNat)) powD := fun a b c h => by
  unfold powD at h
  split at h
  · split at h
    · rename_i hc; cases h; exact rv_I hc (.int _)
    · cases h
  · cases h
/-- comparisons of whole numbers -/
def cmpD (g : Int → Int → Bool) : D → D → Option D
  | .int i, .int j => some (.bl (g i j))
  | _, _ => none
@[simp] theorem cmpD_int (g : Int → Int → Bool) (i j : Int) : cmpD g (.int i) (.int j) = some (.bl (g i j)) := id rfl
theorem od_cmp {g : Int → Int → Bool} : OpD K f f1 (rI0 fun i j => .bl (g i j)) (cmpD g) := fun a b c h => by
  unfold cmpD at h
  split at h
  · cases h; exact rv_I0 (.bl _)
  · cases h
theorem od_lt : OpD K f f1 (rI0 fun i j => .bl (decide (i < j))) (cmpD fun i j => decide (i < j)) := od_cmp (g := fun i j => decide (i < j))
theorem od_le : OpD K f f1 (rI0 fun i j => .bl (decide (i ≤ j))) (cmpD fun i j => decide (i ≤ j)) := od_cmp (g := fun i j => decide (i ≤ j))
theorem od_gt : OpD K f f1 (rI0 fun i j => .bl (decide (j < i))) (cmpD fun i j => decide (j < i)) := od_cmp (g := fun i j => decide (j < i))
theorem od_ge : OpD K f f1 (rI0 fun i j => .bl (decide (j ≤ i))) (cmpD fun i j => decide (j ≤ i)) := od_cmp (g := fun i j => decide (j ≤ i))
/-- == -/
def rEqU (K : Fr) : R2 := fun x y H Q => rEq x y H Q ∨ rEqD K x y H Q
def rNeU (K : Fr) : R2 := fun x y H Q => rNe x y H Q ∨ rNeD K x y H Q
theorem op_eqU {X : Cx} (hu : X.A.units + 64 < cLine) : OpR X (compareOp .Eq) (rEqU X.K) := op_eq.or (op_eqD hu)
theorem op_neU {X : Cx} (hu : X.A.units + 64 < cLine) : OpR X (compareOp .NotEq) (rNeU X.K) := op_ne.or (op_neD hu)
/-- equality of two plain data -/
def eqP (a b : D) : Option Bool := match toP a, toP b with
  | some p, some q => if SeqAt.shaped p = true ∧ SeqAt.shaped q = true then some (PyData.eqv p q) else none
  | _, _ => none
def eqB : D → D → Option Bool
  | .int i, .int j => some (decide (i = j))
  | .str i, .str j => some (decide (i = j))
  | .bl i, .bl j => some (decide (i = j))
  | a, b => eqP a b
def eqD (a b : D) : Option D := (eqB a b).map .bl
def neD (a b : D) : Option D := (eqB a b).map fun x => .bl (!x)
@[simp] theorem eqD_int (i j : Int) : eqD (.int i) (.int j) = some (.bl (decide (i = j))) := id rfl
@[simp] theorem eqD_str (i j : Str) : eqD (.str i) (.str j) = some (.bl (decide (i = j))) := id rfl
@[simp] theorem eqD_bl (i j : Bool) : eqD (.bl i) (.bl j) = some (.bl (decide (i = j))) := id rfl
@[simp] theorem neD_int (i j : Int) : neD (.int i) (.int j) = some (.bl (!decide (i = j))) := id rfl
@[simp] theorem neD_str (i j : Str) : neD (.str i) (.str j) = some (.bl (!decide (i = j))) := id rfl
theorem eqP_dp {a b : D} {z : Bool} {x y : V} {fr fr' : Option Hp} (h : eqP a b = some z) (ra : Rep K fr G a x) (rb : Rep K fr' G b y) (e : Ex G H) : ∃ p q, Dp K H x p ∧ Dp K H y q ∧ SeqAt.shaped p = true ∧ SeqAt.shaped q = true ∧ PyData.eqv p q = z := by
  unfold eqP at h
  split at h
  · rename_i p q h1 h2
    split at h
    · rename_i hs; cases h
      exact ⟨p, q, ra.dp e _ _ _ h1, rb.dp e _ _ _ h2, hs.1, hs.2, rfl⟩
    · cases h
  · cases h
theorem od_eq : OpD K f f1 (rEqU K) eqD := fun a b c h => by
  unfold eqD at h
  rw [Option.map_eq_some_iff] at h
  obtain ⟨z, h, rfl⟩ := h
  intro G x y H0 ra rb H e _ Q q
  unfold eqB at h
  split at h
  · rename_i i j
    cases ra; cases rb; cases h
    refine .inl ⟨rfl, ?_⟩
    have h : decide (V.int i = V.int j) = decide (i = j) := by by_cases h : i = j <;> simp [h]
    rw [h]; exact q _ G H (Grow.refl e) (.bl _)
  · rename_i i j
    cases ra; cases rb; cases h
    refine .inl ⟨rfl, ?_⟩
    have h : decide (V.str i = V.str j) = decide (i = j) := by by_cases h : i = j <;> simp [h]
    rw [h]; exact q _ G H (Grow.refl e) (.bl _)
  · rename_i i j
    cases ra; cases rb; cases h
    refine .inl ⟨rfl, ?_⟩
    have h : decide (V.bl i = V.bl j) = decide (i = j) := by by_cases h : i = j <;> simp [h]
    rw [h]; exact q _ G H (Grow.refl e) (.bl _)
  · obtain ⟨p, w, h1, h2, h3, h4, h5⟩ := eqP_dp h ra rb e
    refine .inr ⟨p, w, h1, h2, h3, h4, ?_⟩
    rw [h5]; exact q _ G H (Grow.refl e) (.bl _)
theorem od_ne : OpD K f f1 (rNeU K) neD := fun a b c h => by
  unfold neD at h
  rw [Option.map_eq_some_iff] at h
  obtain ⟨z, h, rfl⟩ := h
  intro G x y H0 ra rb H e _ Q q
  unfold eqB at h
  split at h
  · rename_i i j
    cases ra; cases rb; cases h
    refine .inl ⟨rfl, ?_⟩
    have h : decide (V.int i = V.int j) = decide (i = j) := by by_cases h : i = j <;> simp [h]
    rw [h]; exact q _ G H (Grow.refl e) (.bl _)
  · rename_i i j
    cases ra; cases rb; cases h
    refine .inl ⟨rfl, ?_⟩
    have h : decide (V.str i = V.str j) = decide (i = j) := by by_cases h : i = j <;> simp [h]
    rw [h]; exact q _ G H (Grow.refl e) (.bl _)
  · rename_i i j
    cases ra; cases rb; cases h
    refine .inl ⟨rfl, ?_⟩
    have h : decide (V.bl i = V.bl j) = decide (i = j) := by by_cases h : i = j <;> simp [h]
    rw [h]; exact q _ G H (Grow.refl e) (.bl _)
  · obtain ⟨p, w, h1, h2, h3, h4, h5⟩ := eqP_dp h ra rb e
    refine .inr ⟨p, w, h1, h2, h3, h4, ?_⟩
    rw [h5]; exact q _ G H (Grow.refl e) (.bl _)
/-! is None, is True, is False -/
def rIsTF : R2 := fun x y H Q => ∃ b, y = .bl b ∧ Q (.bl (decide (x = .bl b))) H
theorem op_isTF {X : Cx} : OpR X (compareOp .Is) rIsTF := by
  intro pins s σ H x y va vb Q I rx ry h
  obtain ⟨b, rfl, q⟩ := h
  cases (show vb = Value.bool b from ry)
  by_cases e : x = .bl b
  · subst e
    cases (show va = Value.bool b from rx)
    refine wpAny_is_self rfl ⟨.bl true, H, I, rfl, ?_⟩
    have e2 : decide (V.bl b = V.bl b) = true := by simp
    rw [← e2]; exact q
  · have hne : va ≠ Value.bool b := fun z => by
      subst z
      exact e (RelV.inj rx rfl)
    have hp : plainIs va (Value.bool b) = true := by
      cases x with
      | non => cases rx; rfl
      | bl c => cases rx; rfl
      | int i => obtain ⟨t, rfl⟩ := rx; rfl
      | str i => obtain ⟨t, rfl⟩ := rx; rfl
      | byt i => obtain ⟨t, rfl⟩ := rx; rfl
      | flt i => obtain ⟨t, rfl⟩ := rx; rfl
      | ref i => cases rx; rfl
      | ty i => cases rx; rfl
    refine wpAny_is_other hp hne ⟨.bl false, H, I, rfl, ?_⟩
    have e2 : decide (x = V.bl b) = false := decide_eq_false e
    rw [← e2]; exact q
def isNon : D → Bool
  | .non => true
  | _ => false
def isBl (b : Bool) : D → Bool
  | .bl c => decide (c = b)
  | _ => false
@[simp] theorem isNon_non : isNon .non = true := id rfl
@[simp] theorem isNon_int (i : Int) : isNon (.int i) = false := id rfl
@[simp] theorem isNon_str (i : Str) : isNon (.str i) = false := id rfl
@[simp] theorem isNon_bl (i : Bool) : isNon (.bl i) = false := id rfl
@[simp] theorem isNon_lst (i : List D) : isNon (.lst i) = false := id rfl
@[simp] theorem isNon_tup (i : List D) : isNon (.tup i) = false := id rfl
@[simp] theorem isBl_bl (b c : Bool) : isBl b (.bl c) = decide (c = b) := id rfl
@[simp] theorem isBl_int (b : Bool) (c : Int) : isBl b (.int c) = false := id rfl
theorem Rep.isNon_eq (h : Rep K fr H d v) : decide (v = .non) = isNon d := by cases h <;> simp [isNon]
def rIsU : R2 := fun x y H Q => (y = .non ∧ Q (.bl (decide (x = .non))) H) ∨ rIsTF x y H Q
theorem op_isU {X : Cx} : OpR X (compareOp .Is) rIsU := OpR.or (r := fun x y H Q => y = .non ∧ Q (.bl (decide (x = .non))) H) op_isN op_isTF
def isD : D → D → Option D
  | a, .non => some (.bl (isNon a))
  | a, .bl b => some (.bl (isBl b a))
  | _, _ => none
@[simp] theorem isD_non (a : D) : isD a .non = some (.bl (isNon a)) := id rfl
@[simp] theorem isD_bl (a : D) (b : Bool) : isD a (.bl b) = some (.bl (isBl b a)) := id rfl
theorem od_is : OpD K f f1 rIsU isD := fun a b c h => by
  intro G x y H0 ra rb H e _ Q q
  unfold isD at h
  split at h
  · cases h
    refine .inl ⟨rb.non_inv, ?_⟩
    rw [ra.isNon_eq]; exact q _ G H (Grow.refl e) (.bl _)
  · rename_i b; cases h
    refine .inr ⟨b, rb.bl_inv, ?_⟩
    have h : decide (x = V.bl b) = isBl b a := by cases ra <;> simp [isBl]
    rw [h]; exact q _ G H (Grow.refl e) (.bl _)
  · cases h
def isNotD : D → D → Option D
  | a, .non => some (.bl (!isNon a))
  | _, _ => none
@[simp] theorem isNotD_non (a : D) : isNotD a .non = some (.bl (!isNon a)) := id rfl
theorem od_isNot : OpD K f f1 (fun x y H Q => y = .non ∧ Q (.bl (!decide (x = .non))) H) isNotD := fun a b c h => by
  intro G x y H0 ra rb H e _ Q q
  unfold isNotD at h
  split at h
  · cases h
    refine ⟨rb.non_inv, ?_⟩
    rw [ra.isNon_eq]; exact q _ G H (Grow.refl e) (.bl _)
  · cases h
/-! in -/
def seqOf : D → Option (List D)
  | .lst ds => some ds
  | .tup ds => some ds
  | _ => none
@[simp] theorem seqOf_lst (ds : List D) : seqOf (.lst ds) = some ds := id rfl
@[simp] theorem seqOf_tup (ds : List D) : seqOf (.tup ds) = some ds := id rfl
theorem seq_rep {b : D} {y : V} (h : seqOf b = some ds) (r : Rep K fr G b y) : ∃ p vs, y = .ref p ∧ (SqL K G p vs ∨ SqT K G p vs) ∧ RepA K fr G ds vs := by
  cases b <;> simp [seqOf] at h
  · subst h
    obtain ⟨p, vs, rfl, _, hp, rs⟩ := r.lst_inv
    exact ⟨p, vs, rfl, .inl (SqL.of hp), rs⟩
  · subst h
    obtain ⟨p, vs, rfl, hp, rs⟩ := r.tup_inv
    exact ⟨p, vs, rfl, .inr hp, rs⟩
theorem inV_int {n : Int} : ∀ (ns : List Int), inV (.int n) (ns.map V.int) = decide (n ∈ ns)
  | [] => by simp [inV]
  | m :: ns => by
    have ih := inV_int (n := n) ns
    unfold inV at ih ⊢
    rw [List.map_cons, List.any_cons, ih]
    have h : eqV (.int m) (.int n) = decide (m = n) := by
      show (m == n) = decide (m = n)
      by_cases e : m = n <;> simp [e]
    rw [h]
    by_cases e : n = m
    · subst e; simp
    · have e' : ¬ m = n := fun z => e z.symm
      simp [e, e']
theorem flat_ints : ∀ (ns : List Int), (ns.map V.int).all flatV = true
  | [] => rfl
  | n :: ns => by rw [List.map_cons, List.all_cons, flat_ints ns]; rfl
theorem inV_str {n : Str} : ∀ (ns : List Str), inV (.str n) (ns.map V.str) = decide (n ∈ ns)
  | [] => by simp [inV]
  | m :: ns => by
    have ih := inV_str (n := n) ns
    unfold inV at ih ⊢
    rw [List.map_cons, List.any_cons, ih]
    have h : eqV (.str m) (.str n) = decide (m = n) := by
      show (m == n) = decide (m = n)
      by_cases e : m = n <;> simp [e]
    rw [h]
    by_cases e : n = m
    · subst e; simp
    · have e' : ¬ m = n := fun z => e z.symm
      simp [e, e']
theorem flat_strs : ∀ (ns : List Str), (ns.map V.str).all flatV = true
  | [] => rfl
  | n :: ns => by rw [List.map_cons, List.all_cons, flat_strs ns]; rfl
def valK {κ : Type} [DecidableEq κ] (ks : List κ) (ds : List D) (k : κ) : Option D := ((ks.zip ds).find? fun p => decide (p.1 = k)).map (·.2)
def keyD : D → Option Key
  | .int i => some (.inl i)
  | .str s => some (.inr s)
  | _ => none
def rInU (K : Fr) (neg : Bool) : R2 := fun x y H Q => rIn K neg x y H Q ∨ (if neg then rNotInD K x y H Q else rInD K x y H Q) ∨ ∃ a o, y = .ref a ∧ DGet H a x o ∧ Q (.bl (if neg then !o.isSome else o.isSome)) H
theorem op_inU {X : Cx} (hu : X.A.units + 65 < cLine) : OpR X (compareOp .In) (rInU X.K false) := by
  intro pins s σ H x y v u Q I rx ry h
  rcases h with h | h | ⟨a, o, rfl, g, q⟩
  · exact op_in_seq pins s σ H x y v u Q I rx ry h
  · exact op_inD hu pins s σ H x y v u Q I rx ry h
  · obtain rfl : u = Value.ref a := ry
    exact d_in (by omega) I g rx fun s3 I3 => ⟨.bl o.isSome, H, I3, rfl, q⟩
theorem op_niU {X : Cx} (hu : X.A.units + 65 < cLine) : OpR X (compareOp .NotIn) (rInU X.K true) := by
  intro pins s σ H x y v u Q I rx ry h
  rcases h with h | h | ⟨a, o, rfl, g, q⟩
  · exact op_notIn_seq pins s σ H x y v u Q I rx ry h
  · exact op_notInD hu pins s σ H x y v u Q I rx ry h
  · obtain rfl : u = Value.ref a := ry
    exact d_notIn (by omega) I g rx fun s3 I3 => ⟨.bl (!o.isSome), H, I3, rfl, q⟩
/-- x in y -/
def inB : D → D → Option Bool
  | .int n, .lst ds => match intsOf ds with
    | some ns => some (decide (n ∈ ns))
    | none => none
  | .int n, .tup ds => match intsOf ds with
    | some ns => some (decide (n ∈ ns))
    | none => none
  | .str n, .lst ds => match strsOf ds with
    | some ns => some (decide (n ∈ ns))
    | none => none
  | .str n, .tup ds => match strsOf ds with
    | some ns => some (decide (n ∈ ns))
    | none => none
  | a, .lst ds => match toP a, toPs ds with
    | some p, some ps => if SeqAt.shaped p = true ∧ SeqAt.shaped (.list ps) = true then some (ps.any fun z => PyData.eqv z p) else none
    | _, _ => none
  | .int i, .dct ks ds => some (valK ks ds (.inl i)).isSome
  | .str i, .dct ks ds => some (valK ks ds (.inr i)).isSome
  | _, _ => none
def inD (neg : Bool) (a b : D) : Option D := (inB a b).map fun x => .bl (if neg then !x else x)
theorem inD_int (n : Int) (ns : List Int) : inD false (.int n) (.lst (ns.map D.int)) = some (.bl (decide (n ∈ ns))) := by unfold inD inB; simp
theorem inD_intT (n : Int) (ns : List Int) : inD false (.int n) (.tup (ns.map D.int)) = some (.bl (decide (n ∈ ns))) := by unfold inD inB; simp
theorem niD_int (n : Int) (ns : List Int) : inD true (.int n) (.lst (ns.map D.int)) = some (.bl (!decide (n ∈ ns))) := by unfold inD inB; simp
theorem niD_intT (n : Int) (ns : List Int) : inD true (.int n) (.tup (ns.map D.int)) = some (.bl (!decide (n ∈ ns))) := by unfold inD inB; simp
theorem in_flatI {neg : Bool} {n : Int} {ns : List Int} {b : D} (hb : seqOf b = some (ns.map D.int)) : Rv K f f1 (rInU K neg) (.int n) b (.bl (if neg then !decide (n ∈ ns) else decide (n ∈ ns))) := fun G x y H0 ra rb H e _ Q q => by
  obtain ⟨p, vs, rfl, hs, rs⟩ := seq_rep hb rb
  cases ra
  have ev := rs.ints
  subst ev
  refine .inl ⟨p, _, rfl, hs.imp (ex_l e) (ex_t e), rfl, flat_ints ns, ?_⟩
  rw [inV_int]; exact q _ G H (Grow.refl e) (.bl _)
theorem in_flatS {neg : Bool} {n : Str} {ns : List Str} {b : D} (hb : seqOf b = some (ns.map D.str)) : Rv K f f1 (rInU K neg) (.str n) b (.bl (if neg then !decide (n ∈ ns) else decide (n ∈ ns))) := fun G x y H0 ra rb H e _ Q q => by
  obtain ⟨p, vs, rfl, hs, rs⟩ := seq_rep hb rb
  cases ra
  have ev := rs.strs
  subst ev
  refine .inl ⟨p, _, rfl, hs.imp (ex_l e) (ex_t e), rfl, flat_strs ns, ?_⟩
  rw [inV_str]; exact q _ G H (Grow.refl e) (.bl _)
theorem kvs_val {κ : Type} [DecidableEq κ] (k : κ) : ∀ {kvs : List (κ × V)} {ks : List κ} {ds : List D}, kvs.map (·.1) = ks → RepA K fr G ds (kvs.map (·.2)) →
    (∀ d, valK ks ds k = some d → ∃ v, valV kvs k = some v ∧ Rep K fr G d v) ∧ (valK ks ds k = none → valV kvs k = none) := by
  intro kvs
  induction kvs with
  | nil => intro ks ds h r; cases h; cases r; exact ⟨fun d h => by simp [valK] at h, fun _ => rfl⟩
  | cons p kvs ih =>
    intro ks ds h r
    cases h
    cases r with
    | cons r t =>
      rename_i d ds
      by_cases e : p.1 = k
      · have h1 : valK ((p :: kvs).map (·.1)) (d :: ds) k = some d := by simp [valK, e]
        have h2 : valV (p :: kvs) k = some p.2 := by simp [valV, e]
        rw [h1]
        exact ⟨fun d' h => by cases h; exact ⟨p.2, h2, r⟩, fun h => by cases h⟩
      · have h1 : valK ((p :: kvs).map (·.1)) (d :: ds) k = valK (kvs.map (·.1)) ds k := by simp [valK, e]
        have h2 : valV (p :: kvs) k = valV kvs k := by simp [valV, e]
        rw [h1, h2]
        exact ih rfl t
theorem kvs_some {κ : Type} [DecidableEq κ] {k : κ} {kvs : List (κ × V)} {ks : List κ} (h : kvs.map (·.1) = ks) (r : RepA K fr G ds (kvs.map (·.2))) : (valV kvs k).isSome = (valK ks ds k).isSome := by
  obtain ⟨h1, h2⟩ := kvs_val k h r
  cases e : valK ks ds k with
  | none => rw [h2 e]; rfl
  | some d => obtain ⟨v, hv, _⟩ := h1 d e; rw [hv]; rfl
theorem in_dct {neg : Bool} {a : D} {k : Key} {ks : List Key} (hk : ∀ x, Rep K (frh f1 Hb) G a x → x = kV k) : True := trivial
theorem rv_inDct {neg : Bool} {k : Key} {ks : List Key} {a : D} (hk : ∀ {fr : Option Hp} {G : Hp} {x : V}, Rep K fr G a x → x = kV k) : Rv K f f1 (rInU K neg) a (.dct ks ds) (.bl (if neg then !(valK ks ds k).isSome else (valK ks ds k).isSome)) := fun G x y H0 ra rb H e _ Q q => by
  cases rb with
  | dct _ hp hn hr =>
    rw [hk ra]
    refine .inr (.inr ⟨_, _, rfl, DGet.k (e _ _ hp), ?_⟩)
    rw [kvs_some hn hr]; exact q _ G H (Grow.refl e) (.bl _)
theorem od_in {neg : Bool} : OpD K f f1 (rInU K neg) (inD neg) := fun a b c h => by
  unfold inD at h
  rw [Option.map_eq_some_iff] at h
  obtain ⟨z, h, rfl⟩ := h
  unfold inB at h
  split at h
  · split at h
    · rename_i hi; cases h; rw [intsOf_inv hi]; exact in_flatI rfl
    · cases h
  · split at h
    · rename_i hi; cases h; rw [intsOf_inv hi]; exact in_flatI rfl
    · cases h
  · split at h
    · rename_i hi; cases h; rw [strsOf_inv hi]; exact in_flatS rfl
    · cases h
  · split at h
    · rename_i hi; cases h; rw [strsOf_inv hi]; exact in_flatS rfl
    · cases h
  · rename_i ds _ _
    split at h
    · rename_i p ps h1 h2
      split at h
      · rename_i hs; cases h
        intro G x y H0 ra rb H e _ Q q
        have d1 := ra.dp e _ _ _ h1
        have d2 := rb.dp e _ _ (.list ps) (by simp [toP, h2])
        refine .inr (.inl ?_)
        cases neg with
        | true => exact ⟨p, ps, d1, d2, hs.1, hs.2, q _ G H (Grow.refl e) (.bl _)⟩
        | false => exact ⟨p, ps, d1, d2, hs.1, hs.2, q _ G H (Grow.refl e) (.bl _)⟩
      · cases h
    · cases h
  · cases h; exact rv_inDct (k := .inl _) fun r => by cases r; rfl
  · cases h; exact rv_inDct (k := .inr _) fun r => by cases r; rfl
  · cases h

/-! ### items -/
theorem atI_len {α β : Type} {xs : List α} {ys : List β} (h : xs.length = ys.length) {i : Int} {x : α} (e : atI xs i = some x) : ∃ j : Nat, xs[j]? = some x ∧ ∀ y : β, ys[j]? = some y → atI ys i = some y := by
  unfold atI at e ⊢
  rw [h] at e
  cases q : ixN ys.length i with
  | none => rw [q] at e; cases e
  | some j =>
    rw [q] at e
    exact ⟨j, e, fun y hy => hy⟩
def rDGet : R2 := fun x y H Q => ∃ a v, x = .ref a ∧ DGet H a y (some v) ∧ Q v H
theorem ix_dict {X : Cx} (hu : X.A.units + 1 < cLine) : IxR X rDGet := by
  intro value slice pins s σ H x y v u Q I rx ry h hs
  obtain ⟨a, w, rfl, g, q⟩ := h
  obtain rfl : v = Value.ref a := rx
  exact PyProof.Rows.tail_any (dict_typeIs I g) PySem.F.slot_dict_getitem.lookup (d_getItem hu I g ry fun w' s' I' rw' => ⟨w, H, I', rw', q⟩) hs
def rIxU (K : Fr) : R2 := fun x y H Q => rIx K x y H Q ∨ rDGet x y H Q
theorem ix_U {X : Cx} (hu : X.A.units + 1 < cLine) : IxR X (rIxU X.K) := ix_seq.or (ix_dict hu)
def keysOf : List D → Option (List Key)
  | [] => some []
  | .int n :: ds => (keysOf ds).map (.inl n :: ·)
  | .str n :: ds => (keysOf ds).map (.inr n :: ·)
  | _ :: _ => none
theorem keysOf_inv : ∀ {ds : List D} {k : List Key} {vs : List V}, keysOf ds = some k → RepA K fr G ds vs → vs = k.map kV
  | [], k, vs, h, r => by cases h; cases r; rfl
  | d :: ds, k, vs, h, r => by
    cases r with
    | cons r t =>
      cases d <;> simp [keysOf] at h
      · obtain ⟨k, h, rfl⟩ := h; cases r; rw [keysOf_inv h t]; rfl
      · obtain ⟨k, h, rfl⟩ := h; cases r; rw [keysOf_inv h t]; rfl
def ixD : D → D → Option D
  | .lst ds, .int i => atI ds i
  | .tup ds, .int i => atI ds i
  | .at_ _ (.lst ds), .int i => atI ds i
  | .str z, .int i => if z.length ≤ 100000 then (atI z.cps.toList i).map fun c => .str ⟨#[c]⟩ else none
  | .dct ks ds, .int i => valK ks ds (.inl i)
  | .dct ks ds, .str i => valK ks ds (.inr i)
  | _, _ => none
@[simp] theorem ixD_lst (ds : List D) (i : Int) : ixD (.lst ds) (.int i) = atI ds i := id rfl
@[simp] theorem ixD_at (a : Addr) (ds : List D) (i : Int) : ixD (.at_ a (.lst ds)) (.int i) = atI ds i := id rfl
@[simp] theorem ixD_tup (ds : List D) (i : Int) : ixD (.tup ds) (.int i) = atI ds i := id rfl
@[simp] theorem ixD_dct (ks : List Key) (ds : List D) (i : Int) : ixD (.dct ks ds) (.int i) = valK ks ds (.inl i) := id rfl
theorem rv_ixDct {k : Key} {ks : List Key} {a : D} (hk : ∀ {fr : Option Hp} {G : Hp} {x : V}, Rep K fr G a x → x = kV k) (h : valK ks ds k = some d) : Rv K f f (rIxU K) (.dct ks ds) a d := fun G x y H0 ra rb H e _ Q q => by
  cases ra with
  | dct _ hp hn hr =>
    rw [hk rb]
    obtain ⟨v, hv, r⟩ := (kvs_val k hn hr).1 d h
    exact .inr ⟨_, v, rfl, hv ▸ DGet.k (e _ _ hp), q v G H (Grow.refl e) r⟩
theorem od_ix : OpD K f f (rIxU K) ixD := fun a b c h => by
  unfold ixD at h
  split at h
  · refine fun G x y H0 ra rb H e e0 Q q => .inl (.inl ?_)
    obtain ⟨p, vs, rfl, _, hp, rs⟩ := ra.lst_inv
    cases rb
    obtain ⟨j, hj, hy⟩ := atI_len rs.length h
    obtain ⟨w, hw, rw'⟩ := rs.get hj
    exact ⟨p, vs, _, w, rfl, rfl, SqL.of (e _ _ hp), hy w hw, q w G H (Grow.refl e) rw'⟩
  · refine fun G x y H0 ra rb H e e0 Q q => .inl (.inr (.inl ?_))
    obtain ⟨p, vs, rfl, hp, rs⟩ := ra.tup_inv
    cases rb
    obtain ⟨j, hj, hy⟩ := atI_len rs.length h
    obtain ⟨w, hw, rw'⟩ := rs.get hj
    exact ⟨p, vs, _, w, rfl, rfl, ex_t e hp, hy w hw, q w G H (Grow.refl e) rw'⟩
  · refine fun G x y H0 ra rb H e e0 Q q => .inl (.inl ?_)
    cases ra with
    | at_ ra =>
    obtain ⟨p, vs, e1, _, hp, rs⟩ := ra.lst_inv
    cases e1
    cases rb
    obtain ⟨j, hj, hy⟩ := atI_len rs.length h
    obtain ⟨w, hw, rw'⟩ := rs.get hj
    exact ⟨_, vs, _, w, rfl, rfl, SqL.of (e _ _ hp), hy w hw, q w G H (Grow.refl e) rw'⟩
  · split at h
    · rename_i hz
      rw [Option.map_eq_some_iff] at h
      obtain ⟨c, h, rfl⟩ := h
      refine fun G x y H0 ra rb H e e0 Q q => .inl (.inr (.inr ?_))
      cases ra; cases rb
      exact ⟨_, _, c, rfl, rfl, Evl.sz_of hz, h, q _ G H (Grow.refl e) (.str _)⟩
    · cases h
  · exact rv_ixDct (k := .inl _) (fun r => by cases r; rfl) h
  · exact rv_ixDct (k := .inr _) (fun r => by cases r; rfl) h
  · cases h
def negD : D → Option D
  | .int i => some (.int (-i))
  | _ => none
@[simp] theorem negD_int (i : Int) : negD (.int i) = some (.int (-i)) := id rfl
theorem ud_neg : UnD K f (rU fun i => .int (-i)) negD := fun a c h => by
  unfold negD at h
  split at h
  · cases h; exact fun G x ra H e Q q => ⟨_, ra.int_inv, q _ G H (Grow.refl e) (.int _)⟩
  · cases h
end
end VL

/-! VM4: built-in calls on data. -/
namespace VL
open PySem PySem.Spec PyProof.Rows L2
open M (ret bnd nope grd exn opt drw)
section
variable [Tbl] {K : Fr} {EE : XK} {f f1 : Bool} {Hb : Hp} {σ : L2.St} {G G' H H' : Hp} {d : D} {v : V} {ds : List D} {vs : List V} {fr : Option Hp}
theorem RepA.one {d1 : D} {vs : List V} (h : RepA K fr G [d1] vs) : ∃ v1, vs = [v1] ∧ Rep K fr G d1 v1 := by
  cases h with | cons h t => cases t; exact ⟨_, rfl, h⟩
theorem RepA.two {d1 d2 : D} {vs : List V} (h : RepA K fr G [d1, d2] vs) : ∃ v1 v2, vs = [v1, v2] ∧ Rep K fr G d1 v1 ∧ Rep K fr G d2 v2 := by
  cases h with | cons h t => obtain ⟨v2, rfl, h2⟩ := t.one; exact ⟨_, _, rfl, h, h2⟩
theorem frh_at {p : Addr} (hn : H p = none) : frOk (frh f H) p := by
  cases f with
  | true => exact hn
  | false => trivial
def rcLen (K : Fr) : List V → Hp → VK → Prop := fun xs H Q => (∃ p ys, xs = [.ref p] ∧ (SqL K H p ys ∨ SqT K H p ys) ∧ Q (.int ys.length) H) ∨ (∃ z, xs = [.str z] ∧ z.length ≤ sizeLine ∧ Q (.int z.length) H)
theorem cl_len {X : Cx} : CallR X (.builtin "len") (rcLen X.K) := call_len_seq.or call_len_str
def lenD : List D → Option D
  | [.lst ds] => some (.int (ds.length : Int))
  | [.tup ds] => some (.int (ds.length : Int))
  | [.at_ _ (.lst ds)] => some (.int (ds.length : Int))
  | [.str z] => if z.length ≤ 100000 then some (.int (z.length : Int)) else none
  | _ => none
@[simp] theorem lenD_lst (ds : List D) : lenD [.lst ds] = some (.int (ds.length : Int)) := id rfl
@[simp] theorem lenD_at (a : Addr) (ds : List D) : lenD [.at_ a (.lst ds)] = some (.int (ds.length : Int)) := id rfl
@[simp] theorem lenD_tup (ds : List D) : lenD [.tup ds] = some (.int (ds.length : Int)) := id rfl
theorem cd_len : CbD K f (rcLen K) lenD := fun ds c h => by
  intro G vs rs H e Q q
  unfold lenD at h
  split at h
  · cases h
    obtain ⟨v, rfl, r⟩ := rs.one
    obtain ⟨p, us, rfl, _, hp, rr⟩ := r.lst_inv
    refine .inl ⟨p, us, rfl, .inl (SqL.of (e _ _ hp)), ?_⟩
    rw [← rr.length]; exact q _ G H (Grow.refl e) (.int _)
  · cases h
    obtain ⟨v, rfl, r⟩ := rs.one
    obtain ⟨p, us, rfl, hp, rr⟩ := r.tup_inv
    refine .inl ⟨p, us, rfl, .inr (ex_t e hp), ?_⟩
    rw [← rr.length]; exact q _ G H (Grow.refl e) (.int _)
  · cases h
    obtain ⟨v, rfl, r⟩ := rs.one
    cases r with
    | at_ r =>
    obtain ⟨p, us, e1, _, hp, rr⟩ := r.lst_inv
    cases e1
    refine .inl ⟨_, us, rfl, .inl (SqL.of (e _ _ hp)), ?_⟩
    rw [← rr.length]; exact q _ G H (Grow.refl e) (.int _)
  · split at h
    · rename_i hz; cases h
      obtain ⟨v, rfl, r⟩ := rs.one
      cases r
      exact .inr ⟨_, rfl, Evl.sz_of hz, q _ G H (Grow.refl e) (.int _)⟩
    · cases h
  · cases h
def sumD : List D → Option D
  | [.lst ds] => (intsOf ds).map fun ns => .int ns.sum
  | _ => none
@[simp] theorem sumD_ints (ns : List Int) : sumD [.lst (ns.map D.int)] = some (.int ns.sum) := by unfold sumD; simp
theorem cd_sum : CbD K f (rSum K) sumD := fun ds c h => by
  intro G vs rs H e Q q
  unfold sumD at h
  split at h
  · rw [Option.map_eq_some_iff] at h
    obtain ⟨ns, h, rfl⟩ := h
    rw [intsOf_inv h] at rs
    obtain ⟨v, rfl, r⟩ := rs.one
    obtain ⟨p, us, rfl, _, hp, rr⟩ := r.lst_inv
    cases rr.ints
    exact ⟨p, ns, rfl, SqL.of (e _ _ hp), q _ G H (Grow.refl e) (.int _)⟩
  · cases h
def anyD : List D → Option D
  | [.lst ds] => (bolsOf ds).map fun ns => .bl (ns.any id)
  | _ => none
def allD : List D → Option D
  | [.lst ds] => (bolsOf ds).map fun ns => .bl (ns.all id)
  | _ => none
@[simp] theorem anyD_bols (ns : List Bool) : anyD [.lst (ns.map D.bl)] = some (.bl (ns.any id)) := by unfold anyD; simp
@[simp] theorem allD_bols (ns : List Bool) : allD [.lst (ns.map D.bl)] = some (.bl (ns.all id)) := by unfold allD; simp
theorem cd_any : CbD K f (rAny K) anyD := fun ds c h => by
  intro G vs rs H e Q q
  unfold anyD at h
  split at h
  · rw [Option.map_eq_some_iff] at h
    obtain ⟨ns, h, rfl⟩ := h
    rw [bolsOf_inv h] at rs
    obtain ⟨v, rfl, r⟩ := rs.one
    obtain ⟨p, us, rfl, _, hp, rr⟩ := r.lst_inv
    cases rr.bools
    exact ⟨p, ns, rfl, SqL.of (e _ _ hp), q _ G H (Grow.refl e) (.bl _)⟩
  · cases h
theorem cd_all : CbD K f (rAll K) allD := fun ds c h => by
  intro G vs rs H e Q q
  unfold allD at h
  split at h
  · rw [Option.map_eq_some_iff] at h
    obtain ⟨ns, h, rfl⟩ := h
    rw [bolsOf_inv h] at rs
    obtain ⟨v, rfl, r⟩ := rs.one
    obtain ⟨p, us, rfl, _, hp, rr⟩ := r.lst_inv
    cases rr.bools
    exact ⟨p, ns, rfl, SqL.of (e _ _ hp), q _ G H (Grow.refl e) (.bl _)⟩
  · cases h
def absD : List D → Option D
  | [.int i] => some (.int (if i < 0 then -i else i))
  | _ => none
@[simp] theorem absD_int (i : Int) : absD [.int i] = some (.int (if i < 0 then -i else i)) := id rfl
theorem cd_abs : CbD K f (fun xs H Q => ∃ i, xs = [.int i] ∧ Q (.int (if i < 0 then -i else i)) H) absD := fun ds c h => by
  intro G vs rs H e Q q
  unfold absD at h
  split at h
  · cases h; obtain ⟨v, rfl, r⟩ := rs.one; cases r; exact ⟨_, rfl, q _ G H (Grow.refl e) (.int _)⟩
  · cases h
def max2D : List D → Option D
  | [.int i, .int j] => some (.int (max i j))
  | _ => none
def min2D : List D → Option D
  | [.int i, .int j] => some (.int (min i j))
  | _ => none
@[simp] theorem max2D_int (i j : Int) : max2D [.int i, .int j] = some (.int (max i j)) := id rfl
@[simp] theorem min2D_int (i j : Int) : min2D [.int i, .int j] = some (.int (min i j)) := id rfl
theorem cd_max2 : CbD K f (fun xs H Q => ∃ i j, xs = [.int i, .int j] ∧ Q (.int (if j > i then j else i)) H) max2D := fun ds c h => by
  intro G vs rs H e Q q
  unfold max2D at h
  split at h
  · rename_i i j; cases h; obtain ⟨v, w, rfl, r, r'⟩ := rs.two; cases r; cases r'
    refine ⟨i, j, rfl, ?_⟩
    have h : (if j > i then j else i) = max i j := by split <;> omega
    rw [h]; exact q _ G H (Grow.refl e) (.int _)
  · cases h
theorem cd_min2 : CbD K f (fun xs H Q => ∃ i j, xs = [.int i, .int j] ∧ Q (.int (if j < i then j else i)) H) min2D := fun ds c h => by
  intro G vs rs H e Q q
  unfold min2D at h
  split at h
  · rename_i i j; cases h; obtain ⟨v, w, rfl, r, r'⟩ := rs.two; cases r; cases r'
    refine ⟨i, j, rfl, ?_⟩
    have h : (if j < i then j else i) = min i j := by split <;> omega
    rw [h]; exact q _ G H (Grow.refl e) (.int _)
  · cases h
def minI : List Int → Int
  | [] => 0
  | [n] => n
  | n :: m :: ns => min n (minI (m :: ns))
def maxI : List Int → Int
  | [] => 0
  | [n] => n
  | n :: m :: ns => max n (maxI (m :: ns))
theorem minI_spec : ∀ {ns : List Int}, 0 < ns.length → minI ns ∈ ns ∧ ∀ y ∈ ns, minI ns ≤ y
  | [n], _ => ⟨by simp [minI], fun y hy => by simp at hy; subst hy; simp [minI]⟩
  | n :: m :: ns, _ => by
    have h := minI_spec (ns := m :: ns) (by simp)
    show min n (minI (m :: ns)) ∈ _ ∧ ∀ y ∈ _, min n (minI (m :: ns)) ≤ y
    refine ⟨?_, fun y hy => ?_⟩
    · by_cases h1 : n ≤ minI (m :: ns)
      · rw [Int.min_eq_left h1]; exact List.mem_cons_self
      · rw [Int.min_eq_right (by omega)]; exact List.mem_cons_of_mem _ h.1
    · rcases List.mem_cons.mp hy with rfl | hy
      · exact Int.min_le_left _ _
      · have := h.2 y hy; omega
theorem maxI_spec : ∀ {ns : List Int}, 0 < ns.length → maxI ns ∈ ns ∧ ∀ y ∈ ns, y ≤ maxI ns
  | [n], _ => ⟨by simp [maxI], fun y hy => by simp at hy; subst hy; simp [maxI]⟩
  | n :: m :: ns, _ => by
    have h := maxI_spec (ns := m :: ns) (by simp)
    show max n (maxI (m :: ns)) ∈ _ ∧ ∀ y ∈ _, y ≤ max n (maxI (m :: ns))
    refine ⟨?_, fun y hy => ?_⟩
    · by_cases h1 : n ≤ maxI (m :: ns)
      · rw [Int.max_eq_right h1]; exact List.mem_cons_of_mem _ h.1
      · rw [Int.max_eq_left (by omega)]; exact List.mem_cons_self
    · rcases List.mem_cons.mp hy with rfl | hy
      · exact Int.le_max_left _ _
      · have := h.2 y hy; omega
def maxLD : List D → Option D
  | [.lst ds] => match intsOf ds with
    | some (n :: ns) => some (.int (maxI (n :: ns)))
    | _ => none
  | _ => none
def minLD : List D → Option D
  | [.lst ds] => match intsOf ds with
    | some (n :: ns) => some (.int (minI (n :: ns)))
    | _ => none
  | _ => none
theorem maxLD_ints {ns : List Int} (h : ns ≠ []) : maxLD [.lst (ns.map D.int)] = some (.int (maxI ns)) := by
  cases ns with
  | nil => exact (h rfl).elim
  | cons n ns => unfold maxLD; simp only [intsOf_map]
theorem minLD_ints {ns : List Int} (h : ns ≠ []) : minLD [.lst (ns.map D.int)] = some (.int (minI ns)) := by
  cases ns with
  | nil => exact (h rfl).elim
  | cons n ns => unfold minLD; simp only [intsOf_map]
theorem cd_maxL : CbD K f (rMax K) maxLD := fun ds c h => by
  intro G vs rs H e Q q
  unfold maxLD at h
  split at h
  · split at h
    · rename_i n ns h2
      cases h
      rw [intsOf_inv h2] at rs
      obtain ⟨v, rfl, r⟩ := rs.one
      obtain ⟨p, us, rfl, _, hp, rr⟩ := r.lst_inv
      cases rr.ints
      refine ⟨p, n :: ns, rfl, SqL.of (e _ _ hp), by simp, fun m h1 h2 => ?_⟩
      have z := maxI_spec (ns := n :: ns) (by simp)
      have em : m = maxI (n :: ns) := by have := h2 _ z.1; have := z.2 m h1; omega
      rw [em]; exact q _ G H (Grow.refl e) (.int _)
    · cases h
  · cases h
theorem cd_minL : CbD K f (rMin K) minLD := fun ds c h => by
  intro G vs rs H e Q q
  unfold minLD at h
  split at h
  · split at h
    · rename_i n ns h2
      cases h
      rw [intsOf_inv h2] at rs
      obtain ⟨v, rfl, r⟩ := rs.one
      obtain ⟨p, us, rfl, _, hp, rr⟩ := r.lst_inv
      cases rr.ints
      refine ⟨p, n :: ns, rfl, SqL.of (e _ _ hp), by simp, fun m h1 h2 => ?_⟩
      have z := minI_spec (ns := n :: ns) (by simp)
      have em : m = minI (n :: ns) := by have := h2 _ z.1; have := z.2 m h1; omega
      rw [em]; exact q _ G H (Grow.refl e) (.int _)
    · cases h
  · cases h
def rcInt : List V → Hp → VK → Prop := fun xs H Q => (∃ i, xs = [.int i] ∧ Q (.int i) H) ∨ ∃ k, xs = [.bl k] ∧ Q (.int (if k then 1 else 0)) H
theorem cl_int {X : Cx} : CallR X (.type "int") rcInt := call_int1
def intD : List D → Option D
  | [.int i] => some (.int i)
  | [.bl b] => some (.int (if b then 1 else 0))
  | _ => none
@[simp] theorem intD_int (i : Int) : intD [.int i] = some (.int i) := id rfl
@[simp] theorem intD_bl (b : Bool) : intD [.bl b] = some (.int (if b then 1 else 0)) := id rfl
theorem cd_int : CbD K f rcInt intD := fun ds c h => by
  intro G vs rs H e Q q
  unfold intD at h
  split at h
  · cases h; obtain ⟨v, rfl, r⟩ := rs.one; cases r; exact .inl ⟨_, rfl, q _ G H (Grow.refl e) (.int _)⟩
  · cases h; obtain ⟨v, rfl, r⟩ := rs.one; cases r; exact .inr ⟨_, rfl, q _ G H (Grow.refl e) (.int _)⟩
  · cases h
def rcList (K : Fr) : List V → Hp → VK → Prop := fun xs H Q => ∃ p ys, xs = [.ref p] ∧ (SqL K H p ys ∨ SqT K H p ys) ∧ ∀ l, H l = none → Q (.ref l) (upd H l (.lst ys))
def rcTup (K : Fr) : List V → Hp → VK → Prop := fun xs H Q => ∃ p ys, xs = [.ref p] ∧ ((SqL K H p ys ∧ ∀ l, H l = none → Q (.ref l) (upd H l (.tup ys))) ∨ (SqT K H p ys ∧ Q (.ref p) H))
theorem cl_list {X : Cx} : CallR X (.type "list") (rcList X.K) := call_list_of
theorem cl_tup {X : Cx} : CallR X (.type "tuple") (rcTup X.K) := call_tuple_of
/-- list(x) -/
def listD (f : Bool) : List D → Option D
  | [d] => match seqOf d with
    | some ds => if (!f || ds.all scalarD) = true then some (.lst ds) else none
    | none => none
  | _ => none
@[simp] theorem listD_lst (ds : List D) : listD false [.lst ds] = some (.lst ds) := id rfl
@[simp] theorem listD_tup (ds : List D) : listD false [.tup ds] = some (.lst ds) := id rfl
@[simp] theorem all_scalar_ints (ns : List Int) : (ns.map D.int).all scalarD = true := by
  rw [List.all_eq_true]
  intro d hd
  obtain ⟨n, _, rfl⟩ := List.mem_map.mp hd
  rfl
@[simp] theorem listD_intsF (ns : List Int) : listD true [.lst (ns.map D.int)] = some (.lst (ns.map D.int)) := by unfold listD; simp
@[simp] theorem listD_intsTF (ns : List Int) : listD true [.tup (ns.map D.int)] = some (.lst (ns.map D.int)) := by unfold listD; simp
theorem cd_list : CbD K f (rcList K) (listD f) := fun ds c h => by
  intro G vs rs H e Q q
  unfold listD at h
  split at h
  · split at h
    · rename_i d es hs
      split at h
      · rename_i hsc; cases h
        obtain ⟨v, rfl, r⟩ := rs.one
        obtain ⟨p, us, rfl, hp, rr⟩ := seq_rep hs r
        refine ⟨p, us, rfl, hp.imp (ex_l e) (ex_t e), fun n hn => ?_⟩
        have g := Grow.laid (o := .lst us) e hn
        refine q (.ref n) _ _ g (.lst (frh_at hn) upd_same ?_)
        cases f with
        | true => exact rr.scalars (by simpa using hsc)
        | false => exact rr.old.mono g.e
      · cases h
    · cases h
  · cases h
def tupD (f : Bool) : List D → Option D
  | [d] => match seqOf d with
    | some ds => if (!f || ds.all scalarD) = true then some (.tup ds) else none
    | none => none
  | _ => none
@[simp] theorem tupD_lst (ds : List D) : tupD false [.lst ds] = some (.tup ds) := id rfl
@[simp] theorem tupD_tup (ds : List D) : tupD false [.tup ds] = some (.tup ds) := id rfl
@[simp] theorem tupD_intsF (ns : List Int) : tupD true [.lst (ns.map D.int)] = some (.tup (ns.map D.int)) := by unfold tupD; simp
@[simp] theorem tupD_intsTF (ns : List Int) : tupD true [.tup (ns.map D.int)] = some (.tup (ns.map D.int)) := by unfold tupD; simp
theorem cd_tup : CbD K f (rcTup K) (tupD f) := fun ds c h => by
  intro G vs rs H e Q q
  unfold tupD at h
  split at h
  · split at h
    · rename_i dd oo es hs
      split at h
      · rename_i hsc; cases h
        obtain ⟨v, rfl, r⟩ := rs.one
        cases dd <;> simp [seqOf] at hs
        · subst hs
          obtain ⟨p, us, rfl, _, hp, rr⟩ := r.lst_inv
          refine ⟨p, us, rfl, .inl ⟨SqL.of (e _ _ hp), fun n hn => ?_⟩⟩
          have g := Grow.laid (o := .tup us) e hn
          refine q (.ref n) _ _ g (.tup (SqT.of upd_same) ?_)
          cases f with
          | true => exact rr.scalars (by simpa using hsc)
          | false => exact rr.old.mono g.e
        · subst hs
          obtain ⟨p, us, rfl, hp, rr⟩ := r.tup_inv
          refine ⟨p, us, rfl, .inr ⟨ex_t e hp, q (.ref p) G H (Grow.refl e) (.tup hp ?_)⟩⟩
          cases f with
          | true => exact rr.scalars (by simpa using hsc)
          | false => exact rr.old
      · cases h
    · cases h
  · cases h
/-! isinstance -/
def tyD : D → String
  | .non => "NoneType" | .bl _ => "bool" | .int _ => "int" | .str _ => "str" | .lst _ => "list" | .tup _ => "tuple" | _ => "object"
def plainD : D → Bool
  | .non => true | .bl _ => true | .int _ => true | .str _ => true | .lst _ => true | .tup _ => true | _ => false
def isiD (d : D) (T : String) : Bool := tyD d == T || (T == "int" && tyD d == "bool")
theorem kit_tab (a b : String) (ha : a ∈ ["NoneType", "bool", "int", "str", "list", "tuple"]) (hb : b ∈ ["bool", "int", "str", "list", "tuple"]) : kitB a b = some (a == b || (b == "int" && a == "bool")) := by
  simp only [List.mem_cons, List.not_mem_nil, or_false] at ha hb
  rcases ha with rfl | rfl | rfl | rfl | rfl | rfl <;> rcases hb with rfl | rfl | rfl | rfl | rfl <;> decide +kernel
theorem Rep.tyx (hp : plainD d = true) (h : Rep K fr H d v) : TyX K H v (.type (tyD d)) := by
  cases h with
  | non => exact .base .non
  | bl b => exact .base (.bl b)
  | int b => exact .base (.int b)
  | str b => exact .base (.str b)
  | lst _ h _ => exact .base (.lst h)
  | tup h _ =>
    rcases h with (h | ⟨o, h⟩) | ⟨o, its, n, h1, h2, _⟩
    · exact .base (.tup h)
    · exact .fTuple h
    · exact .kTuple h1 h2
  | ins _ _ _ => cases hp
  | pool _ _ => cases hp
  | ty _ => cases hp
  | scr _ _ _ => cases hp
  | fn _ => cases hp
  | dct _ _ _ _ => cases hp
  | dctT _ _ _ _ => cases hp
  | clo _ _ => cases hp
  | at_ _ => cases hp
  | exc _ _ _ => cases hp
def isiO : List D → Option D
  | [d, .ty T] => if plainD d = true ∧ T ∈ ["bool", "int", "str", "list", "tuple"] then some (.bl (isiD d T)) else none
  | _ => none
theorem cd_isi : CbD K f (rIsi K) isiO := fun ds c h => by
  intro G vs rs H e Q q
  unfold isiO at h
  split at h
  · split at h
    · rename_i d T hh
      obtain ⟨hp, hT⟩ := hh
      cases h
      obtain ⟨x, y, rfl, r, r'⟩ := rs.two
      cases r'
      refine ⟨x, .ty T, _, .type T, isiD d T, rfl, .ty T, (r.mono e).tyx hp, kit_ty (kit_tab _ _ ?_ hT), q _ G H (Grow.refl e) (.bl _)⟩
      cases d <;> first | (cases hp; done) | (simp [tyD])
    · cases h
  · cases h
/-! sorted -/
abbrev Row := Addr × List Int
def rowLe (p q : Row) : Bool := decide (p.2 ≤ q.2)
def rSortedLL (K : Fr) : List V → Hp → VK → Prop := fun vs H Q => ∃ (a : Addr) (bs : List Row), vs = [V.ref a] ∧ SqL K H a (bs.map fun b => V.ref b.1) ∧ (∀ b ∈ bs, SqL K H b.1 (b.2.map V.int)) ∧
  ∀ p, H p = none → Q (.ref p) (upd H p (.lst ((bs.mergeSort rowLe).map fun b => V.ref b.1)))
end
theorem vals_refs : ∀ {bs : List Row} {us : List Value}, Vals (bs.map fun b => V.ref b.1) us → PySem.W.EachIs (fun v (b : Row) => v = Value.ref b.1) us bs
  | [], us, h => by cases h; exact .nil
  | b :: bs, us, h => by
    cases h with
    | cons r t => cases r; exact .cons rfl (vals_refs t)
theorem refs_vals : ∀ {bs : List Row} {us : List Value}, PySem.W.EachIs (fun v (b : Row) => v = Value.ref b.1) us bs → Vals (bs.map fun b => V.ref b.1) us
  | [], us, h => by cases h; exact .nil
  | b :: bs, us, h => by
    cases h with
    | cons r t => cases r; exact .cons rfl (refs_vals t)
theorem reads_ints {h : Heap} : ∀ {ns : List Int} {us : List Value}, Vals (ns.map V.int) us → ReadsAll h us (ns.map PyData.int) []
  | [], us, h => by cases h; exact .nil
  | n :: ns, us, h => by
    cases h with
    | cons r t =>
      obtain ⟨tk, rfl⟩ := r
      exact .cons (.int n tk) (reads_ints t)
theorem cr_sortedLL {X : Cx} (hu : X.A.units + 64 < cLine) : CallR X (.builtin "sorted") (rSortedLL X.K) := by
  intro pins s σ H vs us Q I r h
  obtain ⟨a, bs, rfl, hs, hb, q⟩ := h
  obtain ⟨its, rv, hl, hz⟩ := I.list hs
  rw [Vals.ref1 r]
  have e := vals_refs rv
  have er : ∀ (cs : List Row) (us : List Value), (∀ b ∈ cs, SqL X.K H b.1 (b.2.map V.int)) → PySem.W.EachIs (fun v (b : Row) => v = Value.ref b.1) us cs → PySem.W.EachIs (fun v (b : Row) => ∃ as, Reads s.heap v (.list (b.2.map .int)) as) us cs := by
    intro cs
    induction cs with
    | nil => intro us _ e; cases e; exact .nil
    | cons b cs ih =>
      intro us hc e
      cases e with
      | cons e1 et =>
        subst e1
        obtain ⟨is2, rv2, hl2, _⟩ := I.list (hc b List.mem_cons_self)
        obtain ⟨o, ho, hcl, n, hd⟩ := hl2.isList
        refine .cons ⟨[b.1], .list ho hcl hd ?_⟩ (ih _ (fun b hb => hc b (List.mem_cons_of_mem _ hb)) et)
        exact reads_ints rv2
  refine PySem.W.sorted_data (R := fun v b => v = Value.ref b.1) (enc := fun b : Row => .list (b.2.map .int)) hl.isList e (er bs its hb e) (PySem.W.AllAlike.of fun b b' => by simp only [PySem.W.alike]; exact PySem.W.alike_ints _ _) (PySem.W.Sortable.others fun b => ⟨(fun h => by cases h), fun xs h => by cases h⟩) (by rw [List.length_map] at hz; exact hz) (fun b _ => ?_) fun out hlen eo => ?_
  · have hd : (PyData.list (b.2.map .int)).depth = 1 := by rw [PyData.depth, PySem.W.depth_ints]
    omega
  · rw [PySem.W.dataLe_rows (fun b : Row => b.2)] at eo
    obtain ⟨ep, he'⟩ := PyProof.Rows.sortedAll_at s.heap its out.toArray
    have rv' := refs_vals eo
    have hl' : ((bs.mergeSort rowLe).map fun b => V.ref b.1).length ≤ sizeLine := by
      rw [List.length_map, List.length_mergeSort]; rw [List.length_map] at hz; exact hz
    exact ⟨.ref _, upd H (s.heap.objs.size + 1) (.lst ((bs.mergeSort rowLe).map fun b => V.ref b.1)), I.laid (t' := s.toks) (fun _ _ => PyProof.Rows.sortedAll_old) (Nat.le_succ _) ⟨hl', out, ep, rv', he'⟩, rfl, q _ (I.hok.fresh (Nat.le_succ _))⟩
def rSortedU (K : Fr) : List V → Hp → VK → Prop := fun vs H Q => rSortedI K vs H Q ∨ rSortedLL K vs H Q
theorem cr_sortedU {X : Cx} (hu : X.A.units + 64 < cLine) : CallR X (.builtin "sorted") (rSortedU X.K) := cr_sortedI.or (cr_sortedLL hu)
abbrev blockD (r : List Int) : D := .lst (r.map .int)
abbrev rowsD (rs : List (List Int)) : D := .lst (rs.map blockD)
def sortRows (rs : List (List Int)) : List (List Int) := rs.mergeSort fun a b => decide (a ≤ b)
def sortInts (r : List Int) : List Int := r.mergeSort fun a b => decide (a ≤ b)
def rowsOf : List D → Option (List (List Int))
  | [] => some []
  | .lst r :: ds => match intsOf r, rowsOf ds with
    | some ns, some rs => some (ns :: rs)
    | _, _ => none
  | _ :: _ => none
@[simp] theorem rowsOf_map : ∀ rs : List (List Int), rowsOf (rs.map blockD) = some rs
  | [] => rfl
  | r :: rs => by rw [List.map_cons]; unfold rowsOf; rw [intsOf_map, rowsOf_map rs]
theorem rowsOf_inv : ∀ {ds : List D} {rs : List (List Int)}, rowsOf ds = some rs → ds = rs.map blockD
  | [], rs, h => by cases h; rfl
  | d :: ds, rs, h => by
    cases d <;> simp [rowsOf] at h
    split at h
    · rename_i ns ms h1 h2
      cases h
      rw [List.map_cons, rowsOf_inv h2, intsOf_inv h1]
    · cases h
section
variable [Tbl] {K : Fr} {EE : XK} {f f1 : Bool} {Hb : Hp} {σ : L2.St} {G G' H H' : Hp} {d : D} {v : V} {ds : List D} {vs : List V} {fr : Option Hp} {tr : TA} {mr : VE → M (List D)}
theorem RepA.rowsInv : ∀ {rs : List (List Int)} {vs : List V}, RepA K fr H (rs.map blockD) vs → ∃ bs : List Row, vs = bs.map (fun b => V.ref b.1) ∧ bs.map (·.2) = rs ∧ ∀ b ∈ bs, frOk fr b.1 ∧ H b.1 = some (.lst (b.2.map V.int))
  | [], _, h => by cases h; exact ⟨[], rfl, rfl, fun b hb => by cases hb⟩
  | r :: rs, _, h => by
    cases h with
    | cons h1 ht =>
      obtain ⟨a, us, rfl, hf, ha, ru⟩ := h1.lst_inv
      have hu := ru.ints
      subst hu
      obtain ⟨bs, rfl, hb1, hb2⟩ := RepA.rowsInv ht
      refine ⟨(a, r) :: bs, rfl, by rw [List.map_cons, hb1], fun b hb => ?_⟩
      rcases List.mem_cons.mp hb with rfl | hb
      · exact ⟨hf, ha⟩
      · exact hb2 b hb
theorem RepA.ofRows : ∀ {bs : List Row}, (∀ b ∈ bs, frOk fr b.1 ∧ H b.1 = some (.lst (b.2.map V.int))) → RepA K fr H ((bs.map (·.2)).map blockD) (bs.map fun b => V.ref b.1)
  | [], _ => .nil
  | b :: bs, h => .cons (.lst (h b List.mem_cons_self).1 (h b List.mem_cons_self).2 (RepA.ofInts _)) (RepA.ofRows fun c hc => h c (List.mem_cons_of_mem _ hc))
theorem sortInts_perm (r : List Int) : (sortInts r).Perm r := List.mergeSort_perm _ _
theorem sortInts_sorted (r : List Int) : (sortInts r).Pairwise (· ≤ ·) := by
  refine List.Pairwise.imp (fun h => of_decide_eq_true h) (List.pairwise_mergeSort (fun a b c h1 h2 => ?_) (fun a b => ?_) r)
  · have := of_decide_eq_true h1; have := of_decide_eq_true h2; exact decide_eq_true (by omega)
  · by_cases h : a ≤ b
    · rw [decide_eq_true h]; rfl
    · rw [decide_eq_true (show b ≤ a by omega), Bool.or_true]
theorem sorted_uniq : ∀ {xs ys : List Int}, xs.Perm ys → xs.Pairwise (· ≤ ·) → ys.Pairwise (· ≤ ·) → xs = ys := fun h h1 h2 => List.Perm.eq_of_pairwise (fun a b _ _ h1 h2 => by omega) h1 h2 h
/-- sorted(x): whole numbers, rows -/
def sortD : List D → Option D
  | [.lst ds] => match intsOf ds with
    | some ns => some (blockD (sortInts ns))
    | none => match rowsOf ds with
      | some rs => some (rowsD (sortRows rs))
      | none => none
  | _ => none
@[simp] theorem sortD_ints (ns : List Int) : sortD [.lst (ns.map D.int)] = some (blockD (sortInts ns)) := by unfold sortD; simp
theorem sortD_rows (rs : List (List Int)) : sortD [.lst (rs.map blockD)] = some (rowsD (sortRows rs)) := by
  cases rs with
  | nil => simp [sortD, intsOf, sortInts, sortRows]
  | cons r rs =>
    have h : intsOf (blockD r :: rs.map blockD) = none := rfl
    have h2 := rowsOf_map (r :: rs)
    rw [List.map_cons] at h2
    simp only [sortD, List.map_cons, h, h2]
theorem xe_sorted (h : XA K EE f tr mr) : XE K EE f (tCB (rSortedU K) tr) (mCb sortD mr) := fun Hb ve σ G H Φ Ξ c m Q q =>
  h Hb ve σ G H _ Ξ c m _ fun as xs G1 H1 p1 g1 rs => by
    obtain ⟨z, e, p1⟩ := M.opt_inv p1
    unfold sortD at e
    split at e
    · split at e
      · rename_i ns hi
        cases e
        rw [intsOf_inv hi] at rs
        obtain ⟨v, rfl, r⟩ := rs.one
        obtain ⟨p, us, rfl, _, hp, rr⟩ := r.lst_inv
        cases rr.ints
        refine .inl ⟨p, ns, rfl, SqL.of (g1.sub _ _ hp), fun zs n h1 h2 hn => ?_⟩
        have hz : zs = sortInts ns := sorted_uniq (h1.trans (sortInts_perm ns).symm) h2 (sortInts_sorted ns)
        rw [hz]
        have g := Grow.laid (o := .lst ((sortInts ns).map V.int)) g1.sub hn
        exact q _ (.ref n) _ _ p1 (g1.trans g) (.lst (frh_new (c.grow g1).b hn) upd_same (RepA.ofInts _))
      · split at e
        · rename_i rs' hr
          cases e
          rw [rowsOf_inv hr] at rs
          obtain ⟨v, rfl, rv⟩ := rs.one
          obtain ⟨p, us, rfl, hf, hp, ru⟩ := rv.lst_inv
          obtain ⟨bs, rfl, hb1, hb2⟩ := RepA.rowsInv ru
          refine .inr ⟨p, bs, rfl, SqL.of (g1.sub _ _ hp), fun b hb => SqL.of (g1.sub _ _ (hb2 b hb).2), fun n hn => ?_⟩
          have gl := Grow.laid (o := .lst ((bs.mergeSort rowLe).map fun b => V.ref b.1)) g1.sub hn
          refine q _ (.ref n) _ _ p1 (g1.trans gl) (.lst (frh_new (c.grow g1).b hn) upd_same ?_)
          have er : sortRows rs' = (bs.mergeSort rowLe).map (·.2) := by
            unfold sortRows
            rw [← hb1]
            exact (List.map_mergeSort (r := rowLe) (f := fun b : Row => b.2) (fun a _ b _ => rfl)).symm
          rw [er]
          refine RepA.ofRows fun b hb => ?_
          have := hb2 b (List.mem_mergeSort.mp hb)
          exact ⟨this.1, gl.e _ _ this.2⟩
        · cases e
    · cases e
end
end VL

/-! VM5: what is walked, targets, comprehensions. -/
namespace VL
open PySem PySem.Spec PyProof.Rows L2
open M (ret bnd nope grd exn opt drw)

/-! ### targets -/
def setS : L2.St → List Nat → List V → L2.St
  | σ, i :: is, v :: vs => setS (σ.set i (some v)) is vs
  | σ, _, _ => σ
def setVE (f : Bool) : VE → List Nat → List D → VE
  | ve, i :: is, d :: ds => setVE f (ve.set i (some (f, d))) is ds
  | ve, _, _ => ve
theorem setS_app : ∀ {σ : L2.St} {is js : List Nat} {vs us : List V}, is.length = vs.length → setS σ (is ++ js) (vs ++ us) = setS (setS σ is vs) js us
  | σ, [], js, [], us, _ => rfl
  | σ, i :: is, js, v :: vs, us, h => setS_app (is := is) (vs := vs) (by simpa using h)
section
variable [Tbl] {K : Fr} {EE : XK} {f f1 : Bool} {Hb : Hp} {ve : VE} {σ : L2.St} {G G' H H' : Hp} {Ξ : Exn → Prop} {d : D} {v : V} {ds : List D} {vs : List V}
/-- the target g gives the slots is the data b d -/
def XG (K : Fr) (g : TG) (is : List Nat) (b : D → Option (List D)) : Prop := ∀ fr G H d v ds σ (Q : L2.St → Hp → Prop), b d = some ds → Rep K fr G d v → Ex G H → (∀ vs, vs.length = is.length → RepA K fr G ds vs → Q (setS σ is vs) H) → g v σ H Q
def XGs (K : Fr) (g : TGs) (is : List Nat) (b : List D → Option (List D)) : Prop := ∀ fr G H d v ds σ (Q : L2.St → Hp → Prop), b d = some ds → RepA K fr G d v → Ex G H → (∀ vs, vs.length = is.length → RepA K fr G ds vs → Q (setS σ is vs) H) → g v σ H Q
def gOne (d : D) : Option (List D) := some [d]
@[simp] theorem gOne_eq (d : D) : gOne d = some [d] := id rfl
theorem xg_name {i : Nat} : XG K (gName i) [i] gOne := fun fr G H d v ds σ Q h r e q => by
  cases h
  exact q [v] rfl (.cons r .nil)
def gsNil : List D → Option (List D)
  | [] => some []
  | _ => none
def gsCons (b : D → Option (List D)) (bs : List D → Option (List D)) : List D → Option (List D)
  | d :: ds => (b d).bind fun xs => (bs ds).map fun ys => xs ++ ys
  | [] => none
@[simp] theorem gsNil_eq : gsNil [] = some [] := id rfl
@[simp] theorem gsCons_eq (b : D → Option (List D)) (bs : List D → Option (List D)) (d : D) (ds : List D) : gsCons b bs (d :: ds) = (b d).bind fun xs => (bs ds).map fun ys => xs ++ ys := id rfl
theorem xgs_nil : XGs K gNil [] gsNil := fun fr G H d v ds σ Q h r e q => by
  unfold gsNil at h
  split at h
  · cases h; cases r; exact ⟨rfl, q [] rfl .nil⟩
  · cases h
theorem xgs_cons {g : TG} {gs : TGs} {is js : List Nat} {b : D → Option (List D)} {bs : List D → Option (List D)} (h1 : XG K g is b) (h2 : XGs K gs js bs) : XGs K (gCons g gs) (is ++ js) (gsCons b bs) := fun fr G H d v ds σ Q h r e q => by
  cases r with
  | nil => cases h
  | cons r t =>
    simp only [gsCons, Option.bind_eq_some_iff, Option.map_eq_some_iff] at h
    obtain ⟨xs, hx, ys, hy, rfl⟩ := h
    refine ⟨_, _, rfl, h1 fr G H _ _ xs σ _ hx r e fun us hu ru => h2 fr G H _ _ ys _ _ hy t e fun ws hw rw' => ?_⟩
    rw [← setS_app hu.symm]
    exact q (us ++ ws) (by rw [List.length_append, List.length_append, hu, hw]) (ru.append rw')
def gTupD (n : Nat) (bs : List D → Option (List D)) : D → Option (List D)
  | .tup ds => if ds.length = n then bs ds else none
  | _ => none
theorem gTupD_eq {n : Nat} (bs : List D → Option (List D)) {ds : List D} (h : ds.length = n) : gTupD n bs (.tup ds) = bs ds := if_pos h
theorem xg_tup {gs : TGs} {n : Nat} {is : List Nat} {bs : List D → Option (List D)} (h1 : XGs K gs is bs) : XG K (gTup K n gs) is (gTupD n bs) := fun fr G H d v ds σ Q h r e q => by
  unfold gTupD at h
  split at h
  · split at h
    · rename_i hn
      obtain ⟨a, us, rfl, ha, rs⟩ := r.tup_inv
      exact ⟨a, us, rfl, ex_t e ha, by rw [← rs.length, hn], h1 fr G H _ _ ds σ Q h rs e q⟩
    · cases h
  · cases h
theorem VR.set1 {i : Nat} (h : VR K Hb ve σ G) (r : Rep K (frh f Hb) G d v) : VR K Hb (ve.set i (some (f, d))) (σ.set i (some v)) G := by
  refine ⟨by rw [List.length_set, List.length_set, h.len], fun j g c hj => ?_⟩
  by_cases e : i = j
  · subst e
    by_cases hl : i < ve.length
    · rw [List.getElem?_set_self hl] at hj
      cases hj
      exact ⟨v, by rw [List.getElem?_set_self (h.len ▸ hl)], r⟩
    · rw [List.getElem?_eq_none (by rw [List.length_set]; omega)] at hj
      cases hj
  · rw [List.getElem?_set_ne e] at hj ⊢
    exact h.at_ j g c hj
theorem VR.setS {is : List Nat} : ∀ {ds : List D} {vs : List V} {ve : VE} {σ : L2.St}, VR K Hb ve σ G → RepA K (frh f Hb) G ds vs → VR K Hb (setVE f ve is ds) (VL.setS σ is vs) G := by
  induction is with
  | nil => intro ds vs ve σ h _; unfold setVE VL.setS; exact h
  | cons i is ih =>
    intro ds vs ve σ h r
    cases r with
    | nil => exact h
    | cons r t => exact ih (h.set1 r) t
def wipeVE (ve : VE) : List Nat → VE
  | [] => ve
  | i :: is => (wipeVE ve is).set i none
theorem VR.wipe : ∀ {is : List Nat}, VR K Hb ve σ G → VR K Hb (wipeVE ve is) (L2.wipe σ is) G
  | [], h => h
  | i :: is, h => by
    have z := VR.wipe (is := is) h
    show VR K Hb ((wipeVE ve is).set i none) ((L2.wipe σ is).set i none) G
    refine ⟨by rw [List.length_set, List.length_set, z.len], fun j g c hj => ?_⟩
    by_cases e : i = j
    · subst e
      by_cases hl : i < (wipeVE ve is).length
      · rw [List.getElem?_set_self hl] at hj; cases hj
      · rw [List.getElem?_eq_none (by rw [List.length_set]; omega)] at hj; cases hj
    · rw [List.getElem?_set_ne e] at hj ⊢
      exact z.at_ j g c hj
theorem wipe_set {σ : L2.St} {i : Nat} {x : Option V} : ∀ {vs : List Nat}, i ∈ vs → L2.wipe (σ.set i x) vs = L2.wipe σ vs := by
  intro vs hi
  apply List.ext_getElem?
  intro j
  have key : ∀ (τ : L2.St) (ws : List Nat), (L2.wipe τ ws)[j]? = if j ∈ ws ∧ j < τ.length then some none else τ[j]? := by
    intro τ ws
    induction ws with
    | nil => simp [L2.wipe]
    | cons w ws ih =>
      show ((L2.wipe τ ws).set w none)[j]? = _
      by_cases e : w = j
      · subst e
        by_cases hl : w < τ.length
        · rw [List.getElem?_set_self (by rw [wipe_length]; exact hl)]
          simp [hl]
        · rw [List.getElem?_eq_none (by rw [List.length_set, wipe_length]; omega)]
          rw [if_neg (by omega), List.getElem?_eq_none (by omega)]
      · rw [List.getElem?_set_ne e, ih]
        have e' : ¬ j = w := fun z => e z.symm
        simp [e']
  rw [key, key, List.length_set]
  by_cases hj : j ∈ vs ∧ j < σ.length
  · rw [if_pos hj, if_pos hj]
  · rw [if_neg hj, if_neg hj]
    by_cases e : i = j
    · subst e
      have : ¬ i < σ.length := fun h => hj ⟨hi, h⟩
      rw [List.getElem?_eq_none (by rw [List.length_set]; omega), List.getElem?_eq_none (by omega)]
    · rw [List.getElem?_set_ne e]
theorem wipe_setS : ∀ {is : List Nat} {us : List V} {σ : L2.St} {vs : List Nat}, (∀ i ∈ is, i ∈ vs) → L2.wipe (setS σ is us) vs = L2.wipe σ vs
  | [], _, _, _, _ => by unfold setS; rfl
  | i :: is, [], _, _, _ => rfl
  | i :: is, u :: us, σ, vs, h => by
    show L2.wipe (setS (σ.set i (some u)) is us) vs = _
    rw [wipe_setS fun j hj => h j (List.mem_cons_of_mem _ hj), wipe_set (h i List.mem_cons_self)]
theorem wipe_wipe {σ : L2.St} {vs : List Nat} : L2.wipe (L2.wipe σ vs) vs = L2.wipe σ vs := by
  have : ∀ ws : List Nat, (∀ w ∈ ws, w ∈ vs) → L2.wipe (L2.wipe σ ws) vs = L2.wipe σ vs := by
    intro ws
    induction ws with
    | nil => intro _; rfl
    | cons w ws ih =>
      intro h
      show L2.wipe ((L2.wipe σ ws).set w none) vs = _
      rw [wipe_set (h w List.mem_cons_self), ih fun z hz => h z (List.mem_cons_of_mem _ hz)]
  exact this vs fun _ h => h

/-! ### what is walked -/
variable {te ta tl : TE} {ma mb mc : VE → M D} {tr : TA} {mr : VE → M (List D)}
/-- nothing is drawn -/
def Det {α : Type} (m : VE → M α) : Prop := ∀ ve, ∃ o, m ve = opt o
theorem det_var {i : Nat} : Det (mVar i) := fun ve => ⟨_, rfl⟩
theorem det_m2 {o : D → D → Option D} (ha : Det ma) (hb : Det mb) : Det (m2 o ma mb) := fun ve => by
  obtain ⟨x, hx⟩ := ha ve
  obtain ⟨y, hy⟩ := hb ve
  refine ⟨x.bind fun a => y.bind fun b => o a b, ?_⟩
  unfold m2
  rw [hx, hy]
  cases x <;> cases y <;> rfl
theorem det_c {d : D} : Det (mC d) := fun ve => ⟨some d, rfl⟩
theorem det_a1 (ha : Det ma) : Det (aCons ma aNil) := fun ve => by
  obtain ⟨x, hx⟩ := ha ve
  refine ⟨x.map fun a => [a], ?_⟩
  unfold aCons aNil
  rw [hx]
  cases x <;> rfl
theorem RepA.getD' {fr : Option Hp} {i : Nat} (h : RepA K fr G ds vs) (e : vs[i]? = some v) : ∃ d, ds[i]? = some d ∧ Rep K fr G d v := h.getV e
def iSeq (K : Fr) (tl : TE) : TI := fun σ H R => iList K tl σ H R ∨ iTup K tl σ H R
theorem pi_seq {X : Cx} {tg l : Expr} {tl : TE} (h : PE X l tl) : PI X tg l (iSeq X.K tl) :=
  ⟨fun pins s σ H R I q => q.elim (fun z => (pi_list h).run pins s σ H R I z) fun z => (pi_tup h).run pins s σ H R I z⟩
def mSeqL (ma : VE → M D) : VE → M (List D) := fun ve => bnd (ma ve) fun a => opt (tLs a)
def mSeq (ma : VE → M D) : VE → M (List D) := fun ve => bnd (ma ve) fun a => opt (seqOf a)
def tTp (d : D) : Option (List D) := match d with
  | .tup i => some i
  | _ => none
theorem tTp_inv {d : D} {b : List D} (h : tTp d = some b) : d = .tup b := by cases d <;> simp [tTp] at h; subst h; rfl
theorem xi_list (h : XE K EE false tl ma) : XI K EE (iList K tl) (mSeqL ma) := fun Hb ve σ G H Φ Ξ c m R q => h Hb ve σ G H _ Ξ c m _ fun a x G1 H1 p1 g1 r1 => by
  obtain ⟨ds, e, p1⟩ := M.opt_inv p1
  rw [tLs_inv e] at r1
  obtain ⟨p, us, rfl, _, hp, rs⟩ := r1.lst_inv
  refine ⟨p, rfl, ⟨us, SqL.of (g1.sub _ _ hp)⟩, q _ ds G1 H1 p1 g1 ?_⟩
  rw [rs.length]
  refine Walk.mono walk_list (fun H2 e2 => SqL.of (e2 _ _ hp)) fun i H2 x H3 hi e2 y => ?_
  obtain ⟨rfl, hx⟩ := y
  obtain ⟨d, hd, rd⟩ := rs.getV hx
  exact ⟨d, G1, hd, Grow.refl e2, rd⟩
theorem xi_tup (h : XE K EE false tl ma) : XI K EE (iTup K tl) (fun ve => bnd (ma ve) fun a => opt (tTp a)) := fun Hb ve σ G H Φ Ξ c m R q => h Hb ve σ G H _ Ξ c m _ fun a x G1 H1 p1 g1 r1 => by
  obtain ⟨ds, e, p1⟩ := M.opt_inv p1
  rw [tTp_inv e] at r1
  obtain ⟨p, us, rfl, hp, rs⟩ := r1.tup_inv
  refine ⟨p, rfl, ⟨us, ex_t g1.sub hp⟩, q _ ds G1 H1 p1 g1 ?_⟩
  rw [rs.length]
  refine Walk.mono walk_tup (fun H2 e2 => ex_t e2 hp) fun i H2 x H3 hi e2 y => ?_
  obtain ⟨rfl, hx⟩ := y
  obtain ⟨d, hd, rd⟩ := rs.getV hx
  exact ⟨d, G1, hd, Grow.refl e2, rd⟩
theorem xi_seqL (h : XE K EE false tl ma) : XI K EE (iSeq K tl) (mSeqL ma) := fun Hb ve σ G H Φ Ξ c m R q => .inl (xi_list h Hb ve σ G H Φ Ξ c m R q)
theorem xi_seq (hd : Det ma) (h : XE K EE false tl ma) : XI K EE (iSeq K tl) (mSeq ma) := fun Hb ve σ G H Φ Ξ c m R q => by
  obtain ⟨o, ho⟩ := hd ve
  have m' : bnd (opt o) (fun a => opt (seqOf a)) Φ Ξ := by rw [← ho]; exact m
  cases o with
  | none => exact m'.elim
  | some a =>
    cases ea : a with
    | lst ds =>
      refine .inl (xi_list h Hb ve σ G H Φ Ξ c ?_ R q)
      show bnd (ma ve) (fun a => opt (tLs a)) Φ Ξ
      rw [ho, ea]; rw [ea] at m'; exact m'
    | tup ds =>
      refine .inr (xi_tup h Hb ve σ G H Φ Ξ c ?_ R q)
      show bnd (ma ve) (fun a => opt (tTp a)) Φ Ξ
      rw [ho, ea]; rw [ea] at m'; exact m'
    | _ => rw [ea] at m'; exact m'.elim
/-- lo, lo + 1, .. -/
def rng (lo : Int) (n : Nat) : List Int := (List.range n).map fun i : Nat => lo + (i : Int)
theorem rng_length (lo : Int) (n : Nat) : (rng lo n).length = n := by unfold rng; rw [List.length_map, List.length_range]
theorem rng_get {lo : Int} {n i : Nat} (h : i < n) : (rng lo n)[i]? = some (lo + (i : Int)) := by
  unfold rng
  rw [List.getElem?_map, List.getElem?_range h]
  rfl
theorem mem_rng {lo x : Int} {n : Nat} : x ∈ rng lo n ↔ lo ≤ x ∧ x < lo + (n : Int) := by
  unfold rng
  rw [List.mem_map]
  constructor
  · rintro ⟨i, hi, rfl⟩
    have := List.mem_range.mp hi
    omega
  · rintro ⟨h1, h2⟩
    exact ⟨(x - lo).toNat, List.mem_range.mpr (by omega), by omega⟩
def rng1D : List D → Option (List D)
  | [.int n] => if n < 2 ^ 62 ∧ -(2 ^ 62) ≤ n then some ((rng 0 n.toNat).map D.int) else none
  | _ => none
def rng2D : List D → Option (List D)
  | [.int a, .int b] => if -(2 ^ 62) ≤ a ∧ a < 2 ^ 62 ∧ -(2 ^ 62) ≤ b ∧ b < 2 ^ 62 then some ((rng a (b - a).toNat).map D.int) else none
  | _ => none
theorem rng1D_eq {n : Int} (h : n < 2 ^ 62 ∧ -(2 ^ 62) ≤ n) : rng1D [.int n] = some ((rng 0 n.toNat).map D.int) := if_pos h
theorem rng2D_eq {a b : Int} (h : -(2 ^ 62) ≤ a ∧ a < 2 ^ 62 ∧ -(2 ^ 62) ≤ b ∧ b < 2 ^ 62) : rng2D [.int a, .int b] = some ((rng a (b - a).toNat).map D.int) := if_pos h
def mRg (o : List D → Option (List D)) (mr : VE → M (List D)) : VE → M (List D) := fun ve => bnd (mr ve) fun as => opt (o as)
theorem xr_rng1 (h : XA K EE false tr mr) : XR K EE (iRng1 tr) (mRg rng1D mr) := fun Hb ve σ G H Φ Ξ c m R q => h Hb ve σ G H _ Ξ c m _ fun as xs G1 H1 p1 g1 r1 => by
  obtain ⟨z, e, p1⟩ := M.opt_inv p1
  unfold rng1D at e
  split at e
  · split at e
    · rename_i n hh; cases e
      obtain ⟨v, rfl, r⟩ := r1.one
      cases r
      refine ⟨n, rfl, hh.2, hh.1, q _ _ G1 H1 p1 g1 ?_⟩
      rw [List.length_map, rng_length]
      refine Walk.mono walk_range (fun _ _ => trivial) fun i H2 x H3 hi e2 y => ?_
      obtain ⟨rfl, rfl⟩ := y
      exact ⟨rfl, .int _, by rw [List.getElem?_map, rng_get hi]; rfl, fun _ _ => .int _⟩
    · cases e
  · cases e
theorem xr_rng2 (h : XA K EE false tr mr) : XR K EE (iRng2 tr) (mRg rng2D mr) := fun Hb ve σ G H Φ Ξ c m R q => h Hb ve σ G H _ Ξ c m _ fun as xs G1 H1 p1 g1 r1 => by
  obtain ⟨z, e, p1⟩ := M.opt_inv p1
  unfold rng2D at e
  split at e
  · split at e
    · rename_i a b hh; cases e
      obtain ⟨v, w, rfl, r, r'⟩ := r1.two
      cases r; cases r'
      refine ⟨a, b, rfl, hh, q _ _ G1 H1 p1 g1 ?_⟩
      rw [List.length_map, rng_length]
      refine Walk.mono walk_range (fun _ _ => trivial) fun i H2 x H3 hi e2 y => ?_
      obtain ⟨rfl, rfl⟩ := y
      exact ⟨rfl, .int _, by rw [List.getElem?_map, rng_get hi]; rfl, fun _ _ => .int _⟩
    · cases e
  · cases e
theorem XR.xi {wi : TI} (h : XR K EE wi mr) : XI K EE wi mr := fun Hb ve σ G H Φ Ξ c m R q => h Hb ve σ G H _ Ξ c m R fun J ds G1 H1 p1 g1 W => by
  refine q J ds G1 H1 p1 g1 (Walk.mono W (fun _ _ => trivial) fun i H2 x H3 hi e2 y => ?_)
  obtain ⟨rfl, d, hd, r⟩ := y
  exact ⟨d, G1, hd, Grow.refl e2, r _ _⟩
/-- the items with their numbers -/
def enumD : Nat → List D → List D
  | _, [] => []
  | n, x :: xs => .tup [.int (n : Int), x] :: enumD (n + 1) xs
theorem enumD_length : ∀ (n : Nat) (xs : List D), (enumD n xs).length = xs.length
  | _, [] => rfl
  | n, x :: xs => by unfold enumD; rw [List.length_cons, List.length_cons, enumD_length]
theorem enumD_get : ∀ {n : Nat} {xs : List D} {i : Nat} {x : D}, xs[i]? = some x → (enumD n xs)[i]? = some (.tup [.int ((n + i : Nat) : Int), x])
  | n, [], i, x, h => by simp at h
  | n, y :: ys, 0, x, h => by simp at h; subst h; rfl
  | n, y :: ys, i + 1, x, h => by
    have q := enumD_get (n := n + 1) (xs := ys) (i := i) (x := x) (by simpa using h)
    have e : n + 1 + i = n + (i + 1) := by omega
    rw [e] at q
    simpa [enumD] using q
theorem rep_pair {p : Addr} {x y : D} {v w : V} (e : Ex G H) (hn : H p = none) (r1 : Rep K none G x v) (r2 : Rep K none G y w) : Grow G H (upd G p (.tup [v, w])) (upd H p (.tup [v, w])) ∧ Rep K none (upd G p (.tup [v, w])) (.tup [x, y]) (.ref p) :=
  have g := Grow.laid (o := .tup [v, w]) e hn
  ⟨g, .tup (SqT.of upd_same) (.cons (r1.mono g.e) (.cons (r2.mono g.e) .nil))⟩
end
end VL

/-! VM6: enumerate, reversed, zip; comprehensions. -/
namespace VL
open PySem PySem.Spec PyProof.Rows L2
open M (ret bnd nope grd exn opt drw)
/-! ### enumerate(tuple) -/
theorem meets_enumT (t : Addr) (o : Obj) (its : Array Value) (ht : o.cls = .type "tuple") (hd : ∃ n, o.data = .seq its n) :
    Meets (Builtin.«enumerate.__new__» ⟨[.type "enumerate", .ref t], []⟩) (fun _ R s => s.heap.get? t = some o ∧
      R (.ok (.ret (.ref (s.heap.push { cls := .type "tuple_iterator", data := .fields #[.ref t, .int 0 0] }).objs.size)))
        { s with heap := (s.heap.push { cls := .type "tuple_iterator", data := .fields #[.ref t, .int 0 0] }).push { cls := .type "enumerate", data := .fields #[.none, .bool false, .ref s.heap.objs.size, rawInt 0, .none, .none] } }) :=
  .of_wp fun prog w A R s h => by
    obtain ⟨oc, od, odt, osl⟩ := o
    replace ht : oc = .type "tuple" := ht
    subst ht
    obtain ⟨n, hd⟩ := hd
    replace hd : odt = .seq its n := hd
    subst hd
    obtain ⟨hp, gs, dr, tk, os⟩ := s
    obtain ⟨hl, h⟩ := h
    have hsub := sub_enumerate
    have hT : Heap.IsTuple (Shared.heap ⟨hp, gs, dr, tk, os⟩) t its := ⟨_, hl, rfl, n, rfl⟩
    wp_walk using wpAny_loadPart' hl
    refine wpAny_stack_any fun st => wpAny_pure ?_
    split
    · rename_i c _ _ _ _ _
      cases (c == Value.type "enumerate")
      · wp_walk using wpAny_loadPart' hl, wpAny_pyIter_tuple hT
        exact ⟨_, rfl, h⟩
      · wp_walk using wpAny_loadPart' hl, wpAny_pyIter_tuple hT
        exact ⟨_, rfl, h⟩
    · wp_walk using wpAny_loadPart' hl, wpAny_pyIter_tuple hT
      exact ⟨_, rfl, h⟩
theorem call_enumT {prog : Program} {w : World} {A : Around} {E : Value → Shared → Prop} {s : Shared} {t : Addr} {its : Array Value} {Q : Value → Shared → Prop} (hT : s.heap.IsTuple t its)
    (h : ∀ h', IsEnum h' (s.heap.objs.size + 1) s.heap.objs.size 0 .none → h'.IsTupleIter s.heap.objs.size t 0 → h'.objs.size = s.heap.objs.size + 2 →
      (∀ b o, s.heap.get? b = some o → h'.get? b = some o) → Q (.ref (s.heap.objs.size + 1)) { s with heap := h' }) : wpAny (model prog w) A (call (.type "enumerate") [.ref t]) Q E s := by
  obtain ⟨o, ho, hc, hd⟩ := hT
  refine callType_new F.called_enumerate (by decide) (F.typeCall_enumerate_1 _) (F.newCall_enumerate_1 _) (fun obj => F.args_object_init_2 obj _) F.entry_enumerate_new (meets_enumT t o its hc hd) ⟨ho, ?_⟩
  have hz : (s.heap.push { cls := .type "tuple_iterator", data := .fields #[.ref t, .int 0 0] }).objs.size = s.heap.objs.size + 1 := Heap.size_push ..
  show _ ∧ _
  rw [hz]
  have he : IsEnum ((s.heap.push { cls := .type "tuple_iterator", data := .fields #[.ref t, .int 0 0] }).push
      { cls := .type "enumerate", data := .fields #[.none, .bool false, .ref s.heap.objs.size, rawInt 0, .none, .none] }) (s.heap.objs.size + 1) s.heap.objs.size 0 .none := by
    have q := Heap.get?_push_size (s.heap.push { cls := .type "tuple_iterator", data := .fields #[.ref t, .int 0 0] }) (o := { cls := .type "enumerate", data := .fields #[.none, .bool false, .ref s.heap.objs.size, rawInt 0, .none, .none] }) rfl
    rw [hz] at q; exact q
  exact ⟨⟨_, he, rfl⟩, h _ he ⟨_, Heap.get?_push_of_some _ (Heap.get?_push_size _ rfl), rfl, rfl⟩ (by rw [Heap.size_push, hz]) fun b o x => Heap.get?_push_of_some _ (Heap.get?_push_of_some _ x)⟩
/-- the tuple at a, each item in a new pair -/
def IteT (K : PySem.W.Frag) (a : Addr) : It :=
  ⟨fun i H => ∃ (xs : List V) (x : V), SqT K H a xs ∧ xs[i]? = some x, fun i H v H' => ∃ T x, v = .ref T ∧ H T = none ∧ H' = upd H T (.tup [.int (i : Nat), x]) ∧ ∀ xs, SqT K H a xs → xs[i]? = some x, fun i H => ∃ xs : List V, SqT K H a xs ∧ xs.length = i⟩
theorem turn_enumT {P : Program} {w : World} {K : PySem.W.Frag} {elts : List Expr} {kk : Nat} {tpos : Pos} (a e it : Addr) :
    Turn P w K (.Tuple elts kk tpos) (IteT K a) [e, it] e (fun i h => (∃ old, IsEnum h e it ((i : Nat) : Int) old) ∧ h.IsTupleIter it a i ∧ e ≠ it) where
  mem := by simp
  obj := fun i h st b hb => by
    obtain ⟨⟨old, he⟩, ⟨o, ho, hc, hd⟩, _⟩ := st
    have e' : b = e ∨ b = it := by simpa using hb
    rcases e' with z | z
    · rw [z]; exact ⟨_, he, fun v q => nomatch q⟩
    · rw [z]; exact ⟨o, ho, fun v q => by rw [hd] at q; cases q⟩
  keep := fun i h h' st k => by
    obtain ⟨⟨old, he⟩, ⟨o, ho, hr⟩, hne⟩ := st
    exact ⟨⟨old, k e (by simp) _ he⟩, ⟨o, k it (by simp) o ho, hr⟩, hne⟩
  item := by
    intro X hP hw hK hc i pins s σ H E I hf st hg
    subst hP hw hK
    obtain ⟨⟨old, he⟩, hit, hne⟩ := st
    obtain ⟨xs, x, hq, hx⟩ := hg
    obtain ⟨its, rv, ⟨oT, hoT, hcT, hdT⟩, hz⟩ := I.tuple hq
    obtain ⟨u, hu, ru⟩ := rv.get hx
    have hel : e < s.heap.objs.size := Heap.lt_size he
    have hil : it < s.heap.objs.size := by obtain ⟨_, q, _⟩ := hit; exact Heap.lt_size q
    have tit : a ≠ it := fun z => by
      obtain ⟨oi, hoi, hci, _⟩ := hit
      rw [z, hoi] at hoT; cases hoT
      rw [hci] at hcT; exact absurd hcT (by decide)
    have tie : e ≠ a := fun z => by
      rw [← z] at hoT
      have q : s.heap.get? e = _ := he
      rw [q] at hoT; cases hoT
      exact absurd (show Value.type "enumerate" = Value.type "tuple" from hcT) (by decide)
    have hit2 : s.heap.IsTupleIter it a i ∧ s.heap.IsTuple a its.toArray := ⟨hit, oT, hoT, hcT, hdT⟩
    refine wpAny_pyNext_enum_itemD (Draws.tuple (prog := X.prog) (w := X.w) (A := X.A.in1) (I.ok.hd hc) it a tit its.toArray) he hit2 (by have := rv.length; have q := (List.getElem?_eq_some_iff.mp hx).1; simp; omega) hne (by simp [hne, tie]) fun y h' tk hy ho hit' hT hsz hk => ?_
    have ey : y = u := by
      rw [List.getElem?_toArray, hu] at hy
      exact (Option.some.inj hy).symm
    subst ey
    refine ⟨_, rfl, wpAny_letOwnedTupleGo_enum (s := { s with heap := h', toks := tk + 1 }) ho fun h'' he' sb => ?_⟩
    have hT2 : h''.get? s.heap.objs.size = some { cls := .type "tuple", data := .seq #[.int i tk, y] } := (sb.2 _ (Nat.ne_of_gt hel)).trans hT
    have new : ObjOk X.prog X.w (upd H s.heap.objs.size (.tup [.int (i : Nat), x])) h'' s.heap.objs.size (.tup [.int (i : Nat), x]) :=
      ⟨by show 2 ≤ sizeLine; decide, [.int i tk, y], .cons ⟨_, rfl⟩ (.cons ru .nil), ⟨_, hT2, rfl, _, rfl⟩⟩
    have I1 : Inv X pins σ (upd H s.heap.objs.size (.tup [.int (i : Nat), x])) { s with heap := h'', toks := tk + 1 } :=
      I.turnedNew (ch := [e, it]) (fun b ob hb q => (sb.2 b (fun z => hb (by simp [z]))).trans (hk b ob (fun z => hb (by simp [z])) (fun z => hb (by simp [z])) q)) hf (Nat.le_refl _) new
    refine ⟨.ref s.heap.objs.size, _, I1, rfl, ⟨_, x, rfl, I.hok.fresh (Nat.le_refl _), rfl, fun ys hy2 => by rw [I.tuple_inj hy2 hq]; exact hx⟩, ⟨⟨y, ?_⟩, ?_, hne⟩, fun b hb => ?_⟩
    · have e1 : ((i + 1 : Nat) : Int) = (i : Int) + 1 := by omega
      rw [e1]; exact he'
    · obtain ⟨oi, hoi, hri⟩ := hit'.1
      exact ⟨oi, (sb.2 it (Ne.symm hne)).trans hoi, hri⟩
    · have hb' : b < s.heap.objs.size := by
        have e' : b = e ∨ b = it := by simpa using hb
        rcases e' with z | z
        · rw [z]; exact hel
        · rw [z]; exact hil
      rw [upd_ne (Nat.ne_of_lt hb')]
      exact (hf b hb).1
  done := by
    intro X hP hw hK hc i pins s σ H E I hf st hg
    subst hP hw hK
    obtain ⟨⟨old, he⟩, hit, hne⟩ := st
    obtain ⟨xs, hq, hx⟩ := hg
    obtain ⟨its, rv, ⟨oT, hoT, hcT, hdT⟩, hz⟩ := I.tuple hq
    obtain ⟨f0, f1, f2, f3, f4, f5⟩ := hf it (by simp)
    have hl := rv.length
    have tit : a ≠ it := fun z => by
      obtain ⟨oi, hoi, hci, _⟩ := hit
      rw [z, hoi] at hoT; cases hoT
      rw [hci] at hcT; exact absurd hcT (by decide)
    have ei : its.toArray.size = i := by rw [List.size_toArray, ← hl]; exact hx
    have hit2 : s.heap.IsTupleIter it a its.toArray.size ∧ s.heap.IsTuple a its.toArray := ⟨by rw [ei]; exact hit, oT, hoT, hcT, hdT⟩
    exact wpAny_pyNext_enum_endD (Draws.tuple (prog := X.prog) (w := X.w) (A := X.A.in1) (I.ok.hd hc) it a tit its.toArray) he hit2 fun h' eb => ⟨rfl, I.turned (t' := s.toks) (fun b o hb q => eb b o hb q) f0 f1 f3 f4 f5⟩
  self := fun A i s Q E st h => let ⟨⟨_, he⟩, _⟩ := st; wpAny_pyIter_enum he h
def iEnumT (K : PySem.W.Frag) (ta : TA) : TI := fun σ H R => ta σ H fun vs H1 => ∃ a xs, vs = [.ref a] ∧ SqT K H1 a xs ∧ R (IteT K a) H1
theorem pi_enumT {X : Cx} {e : Expr} {ta : TA} {p pos tpos : Pos} {elts : List Expr} {kk : Nat} (hg : Gl X "enumerate") (hm : X.mg "enumerate" = none) (ha : PA X [e] ta) (hs : starEach [e] X.env = [(false, eval e X.env)] := by rfl) :
    PI X (.Tuple elts kk tpos) (.Call (.Name "enumerate" p) [e] [] pos) (iEnumT X.K ta) := by
  refine ⟨fun pins s σ H R I h => ?_⟩
  refine Call_ (ld_blt I hg hm boot_enumerate (PyProof.Rows.callWith_type1 (thn (ha.run pos pins s σ H _ I h) fun us s1 ⟨vs, H1, I1, r1, q1⟩ => ?_) hs rfl))
  obtain ⟨a, xs, ex, hq, q⟩ := q1
  subst ex
  cases r1 with
  | cons r rr =>
    cases rr
    cases r
    obtain ⟨its, rv, p', hz⟩ := I1.tuple hq
    refine call_enumT p' fun h' he hit hsz hk => wpAny_pyIter_enum he ?_
    have I2 : Inv X pins σ H1 { s1 with heap := h' } := I1.kept (t' := s1.toks) hk
    refine ⟨s1.heap.objs.size + 1, [s1.heap.objs.size + 1, s1.heap.objs.size], _, _, H1, rfl, I2, turn_enumT a (s1.heap.objs.size + 1) s1.heap.objs.size, ⟨⟨.none, he⟩, hit, Nat.succ_ne_self _⟩, fun b hb => ?_, q⟩
    have e' : b = s1.heap.objs.size + 1 ∨ b = s1.heap.objs.size := by simpa using hb
    have hle : s1.heap.objs.size ≤ b := by
      rcases e' with z | z
      · rw [z]; exact Nat.le_add_right _ _
      · rw [z]; exact Nat.le_refl _
    exact I1.fpOk hle (I1.hok.fresh hle)
theorem walk_enumT {K : PySem.W.Frag} {a : Addr} {xs : List V} : Walk (IteT K a) xs.length (fun H => SqT K H a xs) (YPair (fun i => some (.int (i : Nat))) (fun i => xs[i]?)) := by
  refine ⟨fun i _ hi q => ⟨xs, xs[i], q, by simp [hi]⟩, fun _ q => ⟨xs, q, rfl⟩, fun i H v H' _ q y => ?_⟩
  obtain ⟨T, x, h1, h2, h3, h4⟩ := y
  exact ⟨T, .int (i : Nat), x, h1, h2, h3, rfl, h4 xs q⟩
def iEnumU (K : Fr) (ta : TA) : TI := fun σ H R => iEnum K ta σ H R ∨ iEnumT K ta σ H R
theorem pi_enumU {X : Cx} {e : Expr} {ta : TA} {p pos tpos : Pos} {elts : List Expr} {kk : Nat} (hg : Gl X "enumerate") (hm : X.mg "enumerate" = none) (ha : PA X [e] ta) (hs : starEach [e] X.env = [(false, eval e X.env)] := by rfl) :
    PI X (.Tuple elts kk tpos) (.Call (.Name "enumerate" p) [e] [] pos) (iEnumU X.K ta) :=
  ⟨fun pins s σ H R I q => q.elim (fun z => (pi_enum hg hm ha hs).run pins s σ H R I z) fun z => (pi_enumT hg hm ha hs).run pins s σ H R I z⟩
section
variable [Tbl] {K : Fr} {EE : XK} {f f1 : Bool} {Hb : Hp} {ve : VE} {σ : L2.St} {G G' H H' : Hp} {Ξ : Exn → Prop} {d : D} {v : V} {ds : List D} {vs : List V} {te ta tl : TE} {ma mb mc : VE → M D} {tr : TA} {mr : VE → M (List D)}
def enumL1 : List D → Option (List D)
  | [.lst ds] => some (enumD 0 ds)
  | _ => none
def enumT1 : List D → Option (List D)
  | [.tup ds] => some (enumD 0 ds)
  | _ => none
def enum1 : List D → Option (List D)
  | [d] => (seqOf d).map (enumD 0)
  | _ => none
@[simp] theorem enum1_lst (ds : List D) : enum1 [.lst ds] = some (enumD 0 ds) := id rfl
@[simp] theorem enum1_tup (ds : List D) : enum1 [.tup ds] = some (enumD 0 ds) := id rfl
@[simp] theorem enumL1_lst (ds : List D) : enumL1 [.lst ds] = some (enumD 0 ds) := id rfl
theorem xi_enumL (h : XA K EE false tr mr) : XI K EE (iEnum K tr) (mRg enumL1 mr) := fun Hb ve σ G H Φ Ξ c m R q => h Hb ve σ G H _ Ξ c m _ fun as xs G1 H1 p1 g1 r1 => by
  obtain ⟨z, e, p1⟩ := M.opt_inv p1
  unfold enumL1 at e
  split at e
  · cases e
    obtain ⟨v, rfl, r⟩ := r1.one
    obtain ⟨p, us, rfl, _, hp, rr⟩ := r.lst_inv
    refine ⟨p, us, rfl, SqL.of (g1.sub _ _ hp), q _ _ G1 H1 p1 g1 ?_⟩
    rw [enumD_length, rr.length]
    refine Walk.mono walk_enum (fun H2 e2 => SqL.of (e2 _ _ hp)) fun i H2 x H3 hi e2 y => ?_
    obtain ⟨T, x1, x2, rfl, hT, rfl, h1, h2⟩ := y
    cases h1
    obtain ⟨d, hd, rd⟩ := rr.getV h2
    obtain ⟨g, r2⟩ := rep_pair e2 hT (Rep.int (i : Int)) rd
    exact ⟨_, _, enumD_get hd, g, by simpa using r2⟩
  · cases e
theorem xi_enumT (h : XA K EE false tr mr) : XI K EE (iEnumT K tr) (mRg enumT1 mr) := fun Hb ve σ G H Φ Ξ c m R q => h Hb ve σ G H _ Ξ c m _ fun as xs G1 H1 p1 g1 r1 => by
  obtain ⟨z, e, p1⟩ := M.opt_inv p1
  unfold enumT1 at e
  split at e
  · cases e
    obtain ⟨v, rfl, r⟩ := r1.one
    obtain ⟨p, us, rfl, hp, rr⟩ := r.tup_inv
    refine ⟨p, us, rfl, ex_t g1.sub hp, q _ _ G1 H1 p1 g1 ?_⟩
    rw [enumD_length, rr.length]
    refine Walk.mono walk_enumT (fun H2 e2 => ex_t e2 hp) fun i H2 x H3 hi e2 y => ?_
    obtain ⟨T, x1, x2, rfl, hT, rfl, h1, h2⟩ := y
    cases h1
    obtain ⟨d, hd, rd⟩ := rr.getV h2
    obtain ⟨g, r2⟩ := rep_pair e2 hT (Rep.int (i : Int)) rd
    exact ⟨_, _, enumD_get hd, g, by simpa using r2⟩
  · cases e
theorem xi_enumC (h : XA K EE false tr mr) : XI K EE (iEnumU K tr) (mRg enumL1 mr) := fun Hb ve σ G H Φ Ξ c m R q => .inl (xi_enumL h Hb ve σ G H Φ Ξ c m R q)
theorem xi_enum (hd : Det mr) (h : XA K EE false tr mr) : XI K EE (iEnumU K tr) (mRg enum1 mr) := fun Hb ve σ G H Φ Ξ c m R q => by
  obtain ⟨o, ho⟩ := hd ve
  have m' : bnd (opt o) (fun a => opt (enum1 a)) Φ Ξ := by rw [← ho]; exact m
  cases o with
  | none => exact m'.elim
  | some as =>
    obtain ⟨z, e, p1⟩ := M.opt_inv (show opt (enum1 as) Φ Ξ from m')
    unfold enum1 at e
    split at e
    · rename_i d
      rw [Option.map_eq_some_iff] at e
      obtain ⟨es, e, rfl⟩ := e
      cases d <;> simp [seqOf] at e
      · subst e
        refine .inl (xi_enumL h Hb ve σ G H Φ Ξ c ?_ R q)
        show bnd (mr ve) (fun a => opt (enumL1 a)) Φ Ξ
        rw [ho]; exact p1
      · subst e
        refine .inr (xi_enumT h Hb ve σ G H Φ Ξ c ?_ R q)
        show bnd (mr ve) (fun a => opt (enumT1 a)) Φ Ξ
        rw [ho]; exact p1
    · cases e
def mRev (ma : VE → M D) : VE → M (List D) := fun ve => bnd (ma ve) fun a => bnd (opt (tLs a)) fun ds => ret ds.reverse
theorem xi_rev (h : XE K EE false te ma) : XI K EE (RT.iRevA K te) (mRev ma) := fun Hb ve σ G H Φ Ξ c m R q => h Hb ve σ G H _ Ξ c m _ fun a x G1 H1 p1 g1 r1 => by
  obtain ⟨ds, e, p1⟩ := M.opt_inv p1
  rw [tLs_inv e] at r1
  obtain ⟨p, us, rfl, _, hp, rs⟩ := r1.lst_inv
  refine ⟨p, us, rfl, .inl ⟨SqL.of (g1.sub _ _ hp), q _ ds.reverse G1 H1 p1 g1 ?_⟩⟩
  rw [List.length_reverse, rs.length]
  refine Walk.mono walk_rev (fun H2 e2 => SqL.of (e2 _ _ hp)) fun i H2 x H3 hi e2 y => ?_
  obtain ⟨rfl, hx⟩ := y
  obtain ⟨d, hd, rd⟩ := rs.getV hx
  refine ⟨d, G1, ?_, Grow.refl e2, rd⟩
  rw [List.getElem?_reverse (by rw [rs.length]; exact hi), rs.length]; exact hd
/-- pairs of two lists -/
def zipD (xs ys : List D) : List D := (xs.zip ys).map fun p => .tup [p.1, p.2]
def zipD2 : List D → Option (List D)
  | [.lst xs, .lst ys] => some (zipD xs ys)
  | _ => none
@[simp] theorem zipD2_lst (xs ys : List D) : zipD2 [.lst xs, .lst ys] = some (zipD xs ys) := id rfl
theorem xi_zip (h : XA K EE false tr mr) : XI K EE (RZ.iZipA K tr) (mRg zipD2 mr) := fun Hb ve σ G H Φ Ξ c m R q => h Hb ve σ G H _ Ξ c m _ fun as xs G1 H1 p1 g1 r1 => by
  obtain ⟨z, e, p1⟩ := M.opt_inv p1
  unfold zipD2 at e
  split at e
  · cases e
    obtain ⟨v, w, rfl, r, r'⟩ := r1.two
    obtain ⟨p, us, rfl, _, hp, rr⟩ := r.lst_inv
    obtain ⟨p2, us2, rfl, _, hp2, rr2⟩ := r'.lst_inv
    refine ⟨p, p2, us, us2, rfl, .inl ⟨SqL.of (g1.sub _ _ hp), SqL.of (g1.sub _ _ hp2), q _ _ G1 H1 p1 g1 ?_⟩⟩
    refine Walk.mono (walk_zip (by unfold zipD; rw [List.length_map, List.length_zip, rr.length, rr2.length])) (fun H2 e2 => ⟨SqL.of (e2 _ _ hp), SqL.of (e2 _ _ hp2)⟩) fun i H2 x H3 hi e2 y => ?_
    obtain ⟨T, x1, x2, rfl, hT, rfl, h1, h2⟩ := y
    obtain ⟨d, hd, rd⟩ := rr.getV h1
    obtain ⟨d2, hd2, rd2⟩ := rr2.getV h2
    obtain ⟨g, r2⟩ := rep_pair e2 hT rd rd2
    refine ⟨_, _, ?_, g, r2⟩
    unfold zipD
    rw [List.getElem?_map, List.getElem?_zip_eq_some (z := (d, d2)) |>.mpr ⟨hd, hd2⟩]; rfl
  · cases e

/-! ### comprehensions -/
variable {tt tt1 : TT} {g g1 : TG} {is is1 us us1 : List Nat} {b b1 : D → Option (List D)} {mt mt1 : VE → M Bool} {me : VE → M D} {mi mi1 : VE → M (List D)} {wi wi1 : TI}
def lcGo (ve : VE) (is : List Nat) (b : D → Option (List D)) (mt : VE → M Bool) (me : VE → M D) : List D → M (List D)
  | [] => ret []
  | a :: as => bnd (opt (b a)) fun ds => bnd (mt (setVE false ve is ds)) fun x => if x = true then bnd (me (setVE false ve is ds)) fun d => bnd (lcGo ve is b mt me as) fun r => ret (d :: r) else lcGo ve is b mt me as
/-- [e for t in xs if c] -/
def mLc (mi : VE → M (List D)) (is : List Nat) (b : D → Option (List D)) (mt : VE → M Bool) (me : VE → M D) (us : List Nat) : VE → M (List D) := fun ve => bnd (mi ve) fun xs => grd (xs.length ≤ 50000) (lcGo (wipeVE ve us) is b mt me xs)
theorem drop_next {α : Type} {xs : List α} {i : Nat} {a : α} (h : xs[i]? = some a) : xs.drop i = a :: xs.drop (i + 1) := by
  have hl := (List.getElem?_eq_some_iff.mp h).1
  rw [List.drop_eq_getElem_cons hl]
  congr 1
  exact (List.getElem?_eq_some_iff.mp h).2
theorem xl_lc (hi : XI K EE wi mi) (hg : XG K g is b) (ht : XT K EE tt mt) (he : XE K EE f te me) (hs : ∀ i ∈ is, i ∈ us) : XL K EE f (tLc wi g tt te us) (mLc mi is b mt me us) := fun Hb ve σ G H Φ Ξ c m Q q =>
  hi Hb ve σ G H _ Ξ c m _ fun J xs G1 H1 p1 g1 W => fun L hL => by
    obtain ⟨hlen, p1⟩ := p1
    have hLH : H L = none := g1.free hL
    refine lc_it W (fun i Hc => ∃ Gc acc ds, Grow G H Gc Hc ∧ Ex G1 Gc ∧ Gc L = none ∧ Hc L = some (.lst acc) ∧ RepA K (frh f Hb) Gc ds acc ∧ ds.length ≤ i ∧ lcGo (wipeVE ve us) is b mt me (xs.drop i) (fun r => Φ (ds ++ r)) Ξ) ?_ ?_ ?_ ?_
    · exact ⟨G1, [], [], g1.trans (Grow.hid g1.sub hL), g1.sub.self, fresh_back g1.sub hL, upd_same, .nil, Nat.le_refl _, by simpa using p1⟩
    · rintro i Hc hi' ⟨Gc, acc, ds, gc, e1, _⟩
      exact e1.trans gc.sub
    · rintro i x Hc H2 hi' ⟨Gc, acc, ds, gc, e1, nL, hcL, rs, hdl, pm⟩ ⟨a, G2, ha, g2, rx⟩
      obtain ⟨g3, e3⟩ := g2.on e1 gc.sub
      have k2 := g3.keep hcL nL
      have c3 := (c.grow gc).grow g3
      rw [drop_next ha] at pm
      obtain ⟨bs, eb, pm⟩ := M.opt_inv pm
      refine hg none _ H2 a x bs _ _ eb (rx.mono e3) g3.sub fun ws hw rw' => ⟨by rw [wipe_setS hs, wipe_wipe], ?_⟩
      have c4 : Cv K EE Hb (setVE false (wipeVE ve us) is bs) (setS (L2.wipe σ us) is ws) _ H2 Ξ := ⟨VR.setS c3.vr.wipe rw', c3.e, c3.b, c3.x, c3.tb⟩
      refine ht Hb _ _ _ H2 _ Ξ c4 pm _ fun x G4 H4 p4 g4 => ?_
      have k4 := g4.keep k2.1 k2.2
      have c5 := c4.grow g4
      cases x with
      | true =>
        refine he Hb _ _ G4 H4 _ Ξ c5 p4 _ fun d y G5 H5 p5 g5 ry => ?_
        have k5 := g5.keep k4.1 k4.2
        have gA := (gc.trans g3).trans g4
        refine ⟨acc, k5.1, Evl.sz_lt (by rw [← rs.length]; omega), G5, acc ++ [y], ds ++ [d], (gA.trans g5).put hLH k5.2 (by rw [k5.1]; rfl), e1.trans (g3.e.trans (g4.e.trans g5.e)), k5.2, upd_same, (rs.mono (g3.e.trans (g4.e.trans g5.e))).append (.cons ry .nil), by rw [List.length_append]; simp; omega, ?_⟩
        have p5 : lcGo (wipeVE ve us) is b mt me (xs.drop (i + 1)) (fun r => Φ (ds ++ d :: r)) Ξ := p5
        simpa using p5
      | false =>
        exact ⟨G4, acc, ds, (gc.trans g3).trans g4, e1.trans (g3.e.trans g4.e), k4.2, k4.1, rs.mono (g3.e.trans g4.e), by omega, p4⟩
    · rintro Hc ⟨Gc, acc, ds, gc, e1, nL, hcL, rs, hdl, pm⟩
      rw [List.drop_length] at pm
      have pm : Φ (ds ++ []) := pm
      rw [List.append_nil] at pm
      exact q ds L acc Gc Hc pm gc hLH nL hcL rs
/-- [e for t in xs if c for t1 in ys if c1] -/
def lc2Go (ve : VE) (is : List Nat) (b : D → Option (List D)) (mt : VE → M Bool) (mi1 : VE → M (List D)) (is1 : List Nat) (b1 : D → Option (List D)) (mt1 : VE → M Bool) (me : VE → M D) (us1 : List Nat) : List D → M (List D)
  | [] => ret []
  | a :: as => bnd (opt (b a)) fun ds => bnd (mt (setVE false ve is ds)) fun x => if x = true then
      bnd (mi1 (setVE false ve is ds)) fun ys => grd (ys.length ≤ 300) (bnd (lcGo (wipeVE (setVE false ve is ds) us1) is1 b1 mt1 me ys) fun r => bnd (lc2Go ve is b mt mi1 is1 b1 mt1 me us1 as) fun r2 => ret (r ++ r2))
      else lc2Go ve is b mt mi1 is1 b1 mt1 me us1 as
def mLc2 (mi : VE → M (List D)) (is : List Nat) (b : D → Option (List D)) (mt : VE → M Bool) (mi1 : VE → M (List D)) (is1 : List Nat) (b1 : D → Option (List D)) (mt1 : VE → M Bool) (me : VE → M D) (us us1 : List Nat) : VE → M (List D) := fun ve =>
  bnd (mi ve) fun xs => grd (xs.length ≤ 300) (lc2Go (wipeVE ve us) is b mt mi1 is1 b1 mt1 me us1 xs)
theorem xl_lc2 (hi : XI K EE wi mi) (hg : XG K g is b) (ht : XT K EE tt mt) (hi1 : XI K EE wi1 mi1) (hg1 : XG K g1 is1 b1) (ht1 : XT K EE tt1 mt1) (he : XE K EE f te me) (hs : ∀ i ∈ is, i ∈ us) (hs1 : ∀ i ∈ is1, i ∈ us1) :
    XL K EE f (tLc2 wi g tt wi1 g1 tt1 te us us1) (mLc2 mi is b mt mi1 is1 b1 mt1 me us us1) := fun Hb ve σ G H Φ Ξ c m Q q =>
  hi Hb ve σ G H _ Ξ c m _ fun J xs G1 H1 p1 g1' W => fun L hL => by
    obtain ⟨hlen, p1⟩ := p1
    have hLH : H L = none := g1'.free hL
    let Pv : Nat → Hp → Prop := fun i Hc => ∃ Gc acc ds, Grow G H Gc Hc ∧ Ex G1 Gc ∧ Gc L = none ∧ Hc L = some (.lst acc) ∧ RepA K (frh f Hb) Gc ds acc ∧ ds.length ≤ 300 * i ∧ lc2Go (wipeVE ve us) is b mt mi1 is1 b1 mt1 me us1 (xs.drop i) (fun r => Φ (ds ++ r)) Ξ
    refine ⟨fun i m Hc => m = xs.length - i ∧ i ≤ xs.length ∧ Pv i Hc, ⟨_, rfl, Nat.zero_le _, G1, [], [], g1'.trans (Grow.hid g1'.sub hL), g1'.sub.self, fresh_back g1'.sub hL, upd_same, .nil, Nat.le_refl _, by simpa using p1⟩, ?_⟩
    rintro i m Hc ⟨rfl, hil, Gc, acc, ds, gc, e1, nL, hcL, rs, hdl, pm⟩
    have eH : Ex G1 Hc := e1.trans gc.sub
    by_cases hlt : i < xs.length
    · obtain ⟨a, ha⟩ : ∃ a, xs[i]? = some a := ⟨_, List.getElem?_eq_getElem hlt⟩
      refine .inr ⟨W.goes i Hc hlt eH, Pv (i + 1), fun H' p' => ⟨_, by omega, rfl, hlt, p'⟩, fun x H2 hy => ?_⟩
      obtain ⟨a', G2, ha', g2, rx⟩ := W.yields i Hc x H2 hlt eH hy
      rw [ha] at ha'
      cases ha'
      obtain ⟨g3, e3⟩ := g2.on e1 gc.sub
      have k2 := g3.keep hcL nL
      have c3 := (c.grow gc).grow g3
      rw [drop_next ha] at pm
      obtain ⟨bs, eb, pm⟩ := M.opt_inv pm
      refine hg none _ H2 a x bs _ _ eb (rx.mono e3) g3.sub fun ws hw rw' => ⟨by rw [wipe_setS hs, wipe_wipe], ?_⟩
      have c4 : Cv K EE Hb (setVE false (wipeVE ve us) is bs) (setS (L2.wipe σ us) is ws) _ H2 Ξ := ⟨VR.setS c3.vr.wipe rw', c3.e, c3.b, c3.x, c3.tb⟩
      refine ht Hb _ _ _ H2 _ Ξ c4 pm _ fun x G4 H4 p4 g4 => ?_
      have k4 := g4.keep k2.1 k2.2
      have c5 := c4.grow g4
      have gA := (gc.trans g3).trans g4
      cases x with
      | false => exact ⟨G4, acc, ds, gA, e1.trans (g3.e.trans g4.e), k4.2, k4.1, rs.mono (g3.e.trans g4.e), by omega, p4⟩
      | true =>
        -- the inner for
        refine hi1 Hb _ _ G4 H4 _ Ξ c5 p4 _ fun J1 ys G5 H5 p5 g5 W1 => ?_
        obtain ⟨hyl, p5⟩ := p5
        have c6 := c5.grow g5
        have k5 := g5.keep k4.1 k4.2
        have gB := gA.trans g5
        let Pi : Nat → Hp → Prop := fun j Hd => ∃ Gd acc' es, Grow G H Gd Hd ∧ Ex G5 Gd ∧ Gd L = none ∧ Hd L = some (.lst acc') ∧ RepA K (frh f Hb) Gd (ds ++ es) acc' ∧ es.length ≤ j ∧
          lcGo (wipeVE (setVE false (wipeVE ve us) is bs) us1) is1 b1 mt1 me (ys.drop j) (fun r => bnd (lc2Go (wipeVE ve us) is b mt mi1 is1 b1 mt1 me us1 (xs.drop (i + 1))) (fun r2 => ret (es ++ r ++ r2)) (fun r => Φ (ds ++ r)) Ξ) Ξ
        refine ⟨fun j k Hd => k = ys.length - j ∧ j ≤ ys.length ∧ Pi j Hd, ⟨_, rfl, Nat.zero_le _, G5, acc, [], gB, g5.sub.self, k5.2, k5.1, by rw [List.append_nil]; exact rs.mono ((g3.e.trans g4.e).trans g5.e), Nat.le_refl _, p5⟩, ?_⟩
        rintro j k Hd ⟨rfl, hjl, Gd, acc', es, gd, ed, nd, hd, rd, hda, pd⟩
        have eD : Ex G5 Hd := ed.trans gd.sub
        by_cases hj : j < ys.length
        · obtain ⟨y, hy'⟩ : ∃ y, ys[j]? = some y := ⟨_, List.getElem?_eq_getElem hj⟩
          refine .inr ⟨W1.goes j Hd hj eD, Pi (j + 1), fun H' p' => ⟨_, by omega, rfl, hj, p'⟩, fun x2 H6 hy2 => ?_⟩
          obtain ⟨y', G6, hy'', g6, rx2⟩ := W1.yields j Hd x2 H6 hj eD hy2
          rw [hy'] at hy''
          cases hy''
          obtain ⟨g7, e7⟩ := g6.on ed gd.sub
          have k7 := g7.keep hd nd
          rw [drop_next hy'] at pd
          obtain ⟨bs1, eb1, pd⟩ := M.opt_inv pd
          -- the state at the inner turn
          have cd : Cv K EE Hb (setVE false (wipeVE ve us) is bs) (setS (L2.wipe σ us) is ws) _ H6 Ξ := ⟨(c6.vr.mono ed).mono g7.e, g7.sub, (c.grow gd).b.trans g7.ext, fun x cls d G' H' hx g r => (c.grow gd).x x cls d G' H' hx (g7.trans g) r, g7.ext.t (c.grow gd).tb⟩
          refine hg1 none _ H6 y x2 bs1 _ _ eb1 (rx2.mono e7) g7.sub fun ws1 hw1 rw1 => ⟨by rw [wipe_setS hs1, wipe_wipe], ?_⟩
          have ce : Cv K EE Hb (setVE false (wipeVE (setVE false (wipeVE ve us) is bs) us1) is1 bs1) (setS (L2.wipe (setS (L2.wipe σ us) is ws) us1) is1 ws1) _ H6 Ξ := ⟨VR.setS cd.vr.wipe rw1, cd.e, cd.b, cd.x, cd.tb⟩
          refine ht1 Hb _ _ _ H6 _ Ξ ce pd _ fun x G8 H8 p8 g8 => ?_
          have k8 := g8.keep k7.1 k7.2
          have gC := (gd.trans g7).trans g8
          cases x with
          | false => exact ⟨G8, acc', es, gC, ed.trans (g7.e.trans g8.e), k8.2, k8.1, rd.mono (g7.e.trans g8.e), by omega, p8⟩
          | true =>
            refine he Hb _ _ G8 H8 _ Ξ (ce.grow g8) p8 _ fun d v G9 H9 p9 g9 ry => ?_
            have k9 := g9.keep k8.1 k8.2
            refine ⟨acc', k9.1, Evl.sz_lt (by rw [← rd.length, List.length_append]; omega), G9, acc' ++ [v], es ++ [d], (gC.trans g9).put hLH k9.2 (by rw [k9.1]; rfl), ed.trans (g7.e.trans (g8.e.trans g9.e)), k9.2, upd_same, ?_, by rw [List.length_append]; simp; omega, ?_⟩
            · rw [← List.append_assoc]
              exact (rd.mono (g7.e.trans (g8.e.trans g9.e))).append (.cons ry .nil)
            · have p9 : lcGo (wipeVE (setVE false (wipeVE ve us) is bs) us1) is1 b1 mt1 me (ys.drop (j + 1)) (fun r => bnd (lc2Go (wipeVE ve us) is b mt mi1 is1 b1 mt1 me us1 (xs.drop (i + 1))) (fun r2 => ret (es ++ (d :: r) ++ r2)) (fun r => Φ (ds ++ r)) Ξ) Ξ := p9
              simpa using p9
        · have ej : j = ys.length := by omega
          subst ej
          rw [List.drop_length] at pd
          have pd : lc2Go (wipeVE ve us) is b mt mi1 is1 b1 mt1 me us1 (xs.drop (i + 1)) (fun r2 => Φ (ds ++ (es ++ [] ++ r2))) Ξ := pd
          refine .inl ⟨W1.stops Hd eD, Gd, acc', ds ++ es, gd, ((e1.trans (g3.e.trans g4.e)).trans (g5.e)).trans ed, nd, hd, rd, by rw [List.length_append]; omega, ?_⟩
          simpa using pd
    · have ei : i = xs.length := by omega
      subst ei
      rw [List.drop_length] at pm
      have pm : Φ (ds ++ []) := pm
      rw [List.append_nil] at pm
      exact .inl ⟨W.stops Hc eH, q ds L acc Gc Hc pm gc hLH nL hcL rs⟩
end
end VL

/-! VM7: statements, defs. -/
namespace VL
open PySem PySem.Spec PyProof.Rows L2
open M (ret bnd nope grd exn opt drw)

/-- a slot: unset or not told; data (new since the def began?); a list of one's own (its items new?); a list of lists of one's own; data new all through, what was added to their lists not told -/
inductive Slot where
  | un | sh (f : Bool) (d : D) | ow (a : Option Addr) (f : Bool) (ds : List D) | rw (rows : List (List D)) | jk (ex : Bool) (b : Nat) (d : D)
abbrev Env := List Slot
/-- how a statement ends -/
inductive Oc where
  | nx (ρ : Env) | rt (ρ : Env) (d : D) | bk (ρ : Env) | ct (ρ : Env)
/-- what is read where lists of one's own are not read | .. where all is read, but nothing read goes into what is made -/
def vA (ρ : Env) : VE := ρ.map fun s => match s with
  | .sh f d => some (f, d)
  | _ => none
def vB (ρ : Env) : VE := ρ.map fun s => match s with
  | .sh _ d => some (false, d)
  | .ow _ _ ds => some (false, .lst ds)
  | .rw rows => some (false, .lst (rows.map .lst))
  | .jk true _ d => some (false, d)
  | .jk false _ _ => none
  | .un => none
section
variable [Tbl]
/-- two lists side by side -/
inductive RowsR (K : Fr) (G H : Hp) : List Addr → List (List D) → Prop
  | nil : RowsR K G H [] []
  | cons {p : Addr} {vs : List V} {ds : List D} {ps : List Addr} {rows : List (List D)} : H p = some (.lst vs) → RepA K none G ds vs → RowsR K G H ps rows → RowsR K G H (p :: ps) (ds :: rows)
-- data whose lists are all in l, with more behind their items, if they are not told as a whole
mutual
inductive JR (K : Fr) (l : List Addr) (ex : Bool) (b : Nat) (G H : Hp) : D → V → Prop
  | non : JR K l ex b G H .non .non
  | bl (x : Bool) : JR K l ex b G H (.bl x) (.bl x)
  | int (x : Int) : JR K l ex b G H (.int x) (.int x)
  | str (x : Str) : JR K l ex b G H (.str x) (.str x)
  | lst {a : Addr} {vs : List V} {ds : List D} : a ∈ l → H a = some (.lst vs) → ds.length ≤ vs.length → (ex = true → ds.length = vs.length) → JRA K l ex b G H ds (vs.take ds.length) → JR K l ex b G H (.lst ds) (.ref a)
  | tup {a : Addr} {vs : List V} {ds : List D} : SqT K G a vs → JRA K l ex b G H ds vs → JR K l ex b G H (.tup ds) (.ref a)
inductive JRA (K : Fr) (l : List Addr) (ex : Bool) (b : Nat) (G H : Hp) : List D → List V → Prop
  | nil : JRA K l ex b G H [] []
  | cons {d : D} {v : V} {ds : List D} {vs : List V} : JR K l ex b G H d v → JRA K l ex b G H ds vs → JRA K l ex b G H (d :: ds) (v :: vs)
end
/-- slot, value, addresses of one's own -/
inductive SlR (K : Fr) (H0 G H : Hp) : Slot → Option V → List Addr → Prop
  | un (o : Option V) : SlR K H0 G H .un o []
  | sh {f : Bool} {d : D} {v : V} : Rep K (frh f H0) G d v → SlR K H0 G H (.sh f d) (some v) []
  | ow {a : Option Addr} {f : Bool} {ds : List D} {p : Addr} {vs : List V} : H p = some (.lst vs) → RepA K (frh f H0) G ds vs → (∀ q, a = some q → p = q) → SlR K H0 G H (.ow a f ds) (some (.ref p)) [p]
  | rw {rows : List (List D)} {p : Addr} {ps : List Addr} : H p = some (.lst (ps.map V.ref)) → RowsR K G H ps rows → SlR K H0 G H (.rw rows) (some (.ref p)) (p :: ps)
  | jk {ex : Bool} {b : Nat} {d : D} {v : V} {l : List Addr} : JR K l ex b G H d v → (∀ a ∈ l, ∃ vs, H a = some (.lst vs) ∧ vs.length ≤ b) → SlR K H0 G H (.jk ex b d) (some v) l
/-- the slots' state: fp i are the addresses that slot i owns -/
structure StR (K : Fr) (H0 : Hp) (ρ : Env) (σ : L2.St) (G H : Hp) (fp : Nat → List Addr) : Prop where
  len : ρ.length = σ.length
  sl : ∀ i s, ρ[i]? = some s → SlR K H0 G H s ((σ[i]?).getD none) (fp i)
  out : ∀ i, ρ[i]? = none → fp i = []
  fr : ∀ i a, a ∈ fp i → H0 a = none ∧ G a = none ∧ ∃ vs, H a = some (.lst vs)
  dj : ∀ i j a, a ∈ fp i → a ∈ fp j → i = j
  nd : ∀ i, (fp i).Nodup
end
section
variable [Tbl] {K : Fr} {EE : XK} {f f1 : Bool} {H0 G0 : Hp} {ρ ρ' : Env} {σ : L2.St} {G G' H H' G1 H1 : Hp} {Ξ : Exn → Prop} {d : D} {v : V} {ds : List D} {vs : List V} {fp : Nat → List Addr} {i j : Nat} {s : Slot}
def fset (fp : Nat → List Addr) (i : Nat) (l : List Addr) : Nat → List Addr := fun j => if j = i then l else fp j
theorem RowsR.grow {ps : List Addr} {rows : List (List D)} (g : Grow G H G' H') (hn : ∀ a ∈ ps, G a = none) (h : RowsR K G H ps rows) : RowsR K G' H' ps rows := by
  induction h with
  | nil => exact .nil
  | cons h1 r t ih => exact .cons (g.keep h1 (hn _ List.mem_cons_self)).1 (r.mono g.e) (ih fun a ha => hn a (List.mem_cons_of_mem _ ha))
theorem RowsR.to {ps : List Addr} {rows : List (List D)} (e : Ex G G') (hn : ∀ a ∈ ps, H' a = H a) (h : RowsR K G H ps rows) : RowsR K G' H' ps rows := by
  induction h with
  | nil => exact .nil
  | cons h1 r t ih => exact .cons (by rw [hn _ List.mem_cons_self]; exact h1) (r.mono e) (ih fun a ha => hn a (List.mem_cons_of_mem _ ha))
mutual
theorem JR.to {l : List Addr} {ex : Bool} {b : Nat} (e : Ex G G') (hn : ∀ a ∈ l, H' a = H a) : ∀ {d : D} {v : V}, JR K l ex b G H d v → JR K l ex b G' H' d v
  | _, _, .non => .non
  | _, _, .bl x => .bl x
  | _, _, .int x => .int x
  | _, _, .str x => .str x
  | _, _, .lst ha h1 h2 h3 t => .lst ha (by rw [hn _ ha]; exact h1) h2 h3 (JRA.to e hn t)
  | _, _, .tup h t => .tup (ex_t e h) (JRA.to e hn t)
theorem JRA.to {l : List Addr} {ex : Bool} {b : Nat} (e : Ex G G') (hn : ∀ a ∈ l, H' a = H a) : ∀ {ds : List D} {vs : List V}, JRA K l ex b G H ds vs → JRA K l ex b G' H' ds vs
  | _, _, .nil => .nil
  | _, _, .cons h t => .cons (JR.to e hn h) (JRA.to e hn t)
end
theorem SlR.jkTo {l : List Addr} {ex : Bool} {b : Nat} (e : Ex G G') (hn : ∀ a ∈ l, H' a = H a) (h : JR K l ex b G H d v) (hl : ∀ a ∈ l, ∃ vs, H a = some (.lst vs) ∧ vs.length ≤ b) : SlR K H0 G' H' (.jk ex b d) (some v) l :=
  .jk (h.to e hn) fun a ha => by rw [hn a ha]; exact hl a ha
theorem StR.grow (h : StR K H0 ρ σ G H fp) (g : Grow G H G' H') : StR K H0 ρ σ G' H' fp := by
  refine ⟨h.len, fun i s e => ?_, h.out, fun i a ha => ?_, h.dj, h.nd⟩
  · have z := h.sl i s e
    have zf := h.fr i
    revert z zf
    generalize (σ[i]?).getD none = o
    generalize fp i = l
    intro z zf
    cases z with
    | un => exact .un _
    | sh r => exact .sh (r.mono g.e)
    | ow hp r ha => exact .ow (g.keep hp (zf _ (by simp)).2.1).1 (r.mono g.e) ha
    | rw hp r => exact .rw (g.keep hp (zf _ (by simp)).2.1).1 (r.grow g fun a ha => (zf a (List.mem_cons_of_mem _ ha)).2.1)
    | jk r hl => exact SlR.jkTo g.e (fun a ha => by
        obtain ⟨_, h2, vs, h3⟩ := zf a ha
        rw [(g.keep h3 h2).1, h3]) r hl
  · obtain ⟨h1, h2, vs, h3⟩ := h.fr i a ha
    have z := g.keep h3 h2
    exact ⟨h1, z.2, vs, z.1⟩
/-- slot i is given data -/
theorem StR.setSh (h : StR K H0 ρ σ G H fp) (r : Rep K (frh f H0) G d v) : StR K H0 (ρ.set i (.sh f d)) (σ.set i (some v)) G H (fset fp i []) := by
  refine ⟨by rw [List.length_set, List.length_set, h.len], fun j s e => ?_, fun j e => ?_, fun j a ha => ?_, fun j k a h1 h2 => ?_, fun j => ?_⟩
  · by_cases hj : i = j
    · subst hj
      by_cases hl : i < ρ.length
      · rw [List.getElem?_set_self hl] at e; cases e
        rw [List.getElem?_set_self (h.len ▸ hl)]
        unfold fset; rw [if_pos rfl]
        exact .sh r
      · rw [List.getElem?_eq_none (by rw [List.length_set]; omega)] at e; cases e
    · rw [List.getElem?_set_ne hj] at e ⊢
      unfold fset; rw [if_neg (fun z => hj z.symm)]
      exact h.sl j s e
  · unfold fset; split
    · rfl
    · exact h.out j (by rw [List.getElem?_eq_none_iff] at e ⊢; rw [List.length_set] at e; exact e)
  · unfold fset at ha; split at ha
    · cases ha
    · exact h.fr j a ha
  · unfold fset at h1 h2; split at h1
    · cases h1
    · split at h2
      · cases h2
      · exact h.dj j k a h1 h2
  · unfold fset; split
    · exact List.nodup_nil
    · exact h.nd j
theorem StR.setMany {is : List Nat} : ∀ {ds : List D} {vs : List V} {ρ : Env} {σ : L2.St} {fp : Nat → List Addr}, StR K H0 ρ σ G H fp → RepA K (frh f H0) G ds vs → ∃ fp', StR K H0 ((is.zip ds).foldl (fun ρ p => ρ.set p.1 (.sh f p.2)) ρ) (setS σ is vs) G H fp' := by
  induction is with
  | nil => intro ds vs ρ σ fp h _; exact ⟨fp, h⟩
  | cons i is ih =>
    intro ds vs ρ σ fp h r
    cases r with
    | nil => exact ⟨fp, h⟩
    | cons r t => exact ih (h.setSh r) t
/-- slot i is given a new list -/
theorem StR.setOw {p : Addr} (h : StR K H0 ρ σ G H fp) (hp : H p = some (.lst vs)) (h0 : H0 p = none) (hg : G p = none) (hn : ∀ j, p ∉ fp j) (r : RepA K (frh f H0) G ds vs) : ∃ fp', StR K H0 (ρ.set i (.ow none f ds)) (σ.set i (some (.ref p))) G H fp' := by
  by_cases hl : i < ρ.length
  · refine ⟨fset fp i [p], by rw [List.length_set, List.length_set, h.len], fun j s e => ?_, fun j e => ?_, fun j a ha => ?_, fun j k a h1 h2 => ?_, fun j => ?_⟩
    · by_cases hj : i = j
      · subst hj
        rw [List.getElem?_set_self hl] at e; cases e
        rw [List.getElem?_set_self (h.len ▸ hl)]
        unfold fset; rw [if_pos rfl]
        exact .ow hp r (fun q z => by cases z)
      · rw [List.getElem?_set_ne hj] at e ⊢
        unfold fset; rw [if_neg (fun z => hj z.symm)]
        exact h.sl j s e
    · unfold fset; split
      · rename_i q; subst q
        rw [List.getElem?_eq_none_iff, List.length_set] at e; omega
      · exact h.out j (by rw [List.getElem?_eq_none_iff] at e ⊢; rw [List.length_set] at e; exact e)
    · unfold fset at ha; split at ha
      · cases List.mem_singleton.mp ha; exact ⟨h0, hg, vs, hp⟩
      · exact h.fr j a ha
    · unfold fset at h1 h2; split at h1
      · rename_i q1
        cases List.mem_singleton.mp h1
        split at h2
        · rename_i q2; rw [q1, q2]
        · exact (hn k h2).elim
      · split at h2
        · cases List.mem_singleton.mp h2; exact (hn j h1).elim
        · exact h.dj j k a h1 h2
    · unfold fset; split
      · exact List.nodup_cons.mpr ⟨by simp, List.nodup_nil⟩
      · exact h.nd j
  · exact ⟨fp, by
      have e1 : ρ.set i (.ow none f ds) = ρ := List.set_eq_of_length_le (by omega)
      have e2 : σ.set i (some (.ref p)) = σ := List.set_eq_of_length_le (by rw [← h.len]; omega)
      rw [e1, e2]; exact h⟩
/-- the list of slot i is written -/
theorem StR.put {ad : Option Addr} (gself : Ex G G) (h : StR K H0 ρ σ G H fp) (hi : ρ[i]? = some (.ow ad f ds)) : ∃ p vs, σ[i]? = some (some (.ref p)) ∧ H p = some (.lst vs) ∧ RepA K (frh f H0) G ds vs ∧ H0 p = none ∧ G p = none ∧
    ∀ ds' vs' f', RepA K (frh f' H0) G ds' vs' → StR K H0 (ρ.set i (.ow ad f' ds')) σ G (upd H p (.lst vs')) fp := by
  have z := h.sl i _ hi
  have hl : i < ρ.length := (List.getElem?_eq_some_iff.mp hi).1
  have hs : ∃ o, σ[i]? = some o := ⟨_, List.getElem?_eq_getElem (h.len ▸ hl)⟩
  obtain ⟨o, hs⟩ := hs
  rw [hs, Option.getD_some] at z
  generalize hfp : fp i = l at z
  cases z with
  | ow hp r had =>
    rename_i p vs
    have fr := h.fr i p (by rw [hfp]; simp)
    refine ⟨p, vs, hs, hp, r, fr.1, fr.2.1, fun ds' vs' f' r' => ⟨by rw [List.length_set, h.len], fun j s e => ?_, fun j e => ?_, fun j a ha => ?_, h.dj, h.nd⟩⟩
    · by_cases hj : i = j
      · subst hj
        rw [List.getElem?_set_self hl] at e; cases e
        rw [hs, hfp]
        exact .ow upd_same r' had
      · rw [List.getElem?_set_ne hj] at e
        have zj := h.sl j s e
        have hne : ∀ a ∈ fp j, a ≠ p := fun a ha q => hj (h.dj i j p (by rw [hfp]; simp) (by rw [← q]; exact ha))
        revert zj hne
        generalize (σ[j]?).getD none = o
        generalize fp j = lj
        intro zj hne
        cases zj with
        | un => exact .un _
        | sh r => exact .sh r
        | ow hq rq ha => exact .ow (by rw [upd_ne (hne _ (by simp))]; exact hq) rq ha
        | rw hq rq =>
          exact .rw (by rw [upd_ne (hne _ (by simp))]; exact hq) (rq.to gself fun a ha => upd_ne (hne a (List.mem_cons_of_mem _ ha)))
        | jk r hl => exact SlR.jkTo gself (fun a ha => upd_ne (hne a ha)) r hl
    · exact h.out j (by rw [List.getElem?_eq_none_iff] at e ⊢; rw [List.length_set] at e; exact e)
    · obtain ⟨h1, h2, us, h3⟩ := h.fr j a ha
      by_cases q : a = p
      · subst q; exact ⟨h1, h2, vs', upd_same⟩
      · exact ⟨h1, h2, us, by rw [upd_ne q]; exact h3⟩
/-- the list of slot i is written no more -/
theorem StR.frz {ad : Option Addr} (h : StR K H0 ρ σ G H fp) (gr : Grow G0 H0 G H) (hi : ρ[i]? = some (.ow ad f ds)) : ∃ G' fp', Ex G G' ∧ Grow G0 H0 G' H ∧ StR K H0 (ρ.set i (.sh f (.lst ds))) σ G' H fp' := by
  obtain ⟨p, vs, hs, hp, r, h0, hg, _⟩ := StR.put gr.sub.self h hi
  have hl : i < ρ.length := (List.getElem?_eq_some_iff.mp hi).1
  have eg : Ex G (upd G p (.lst vs)) := Ex.new gr.sub.n hg
  have pi : p ∈ fp i := by
    have z := h.sl i _ hi
    rw [hs, Option.getD_some] at z
    generalize fp i = l at z
    cases z with
    | ow _ _ _ => simp
  refine ⟨upd G p (.lst vs), fset fp i [], eg, gr.own hp hg h0, by rw [List.length_set, h.len], fun j s e => ?_, fun j e => ?_, fun j a ha => ?_, fun j k a h1 h2 => ?_, fun j => ?_⟩
  · by_cases hj : i = j
    · subst hj
      rw [List.getElem?_set_self hl] at e; cases e
      rw [hs, Option.getD_some]
      unfold fset; rw [if_pos rfl]
      exact .sh (.lst (by cases f with | true => exact h0 | false => trivial) upd_same (r.mono eg))
    · rw [List.getElem?_set_ne hj] at e
      unfold fset; rw [if_neg (fun z => hj z.symm)]
      have zj := h.sl j s e
      revert zj
      generalize (σ[j]?).getD none = o
      generalize fp j = lj
      intro zj
      cases zj with
      | un => exact .un _
      | sh r => exact .sh (r.mono eg)
      | ow hq rq ha => exact .ow hq (rq.mono eg) ha
      | rw hq rq =>
        exact .rw hq (rq.to eg fun _ _ => rfl)
      | jk r hl => exact SlR.jkTo eg (fun _ _ => rfl) r hl
  · unfold fset; split
    · rfl
    · exact h.out j (by rw [List.getElem?_eq_none_iff] at e ⊢; rw [List.length_set] at e; exact e)
  · unfold fset at ha; split at ha
    · cases ha
    · rename_i hne
      obtain ⟨h1, h2, us, h3⟩ := h.fr j a ha
      have q : a ≠ p := fun q => hne (h.dj j i p (q ▸ ha) pi)
      exact ⟨h1, by rw [upd_ne q]; exact h2, us, h3⟩
  · unfold fset at h1 h2; split at h1
    · cases h1
    · split at h2
      · cases h2
      · exact h.dj j k a h1 h2
  · unfold fset; split
    · exact List.nodup_nil
    · exact h.nd j
/-! ### views -/
theorem vA_get {ρ : Env} {i : Nat} {f : Bool} {d : D} (h : (vA ρ)[i]? = some (some (f, d))) : ρ[i]? = some (.sh f d) := by
  unfold vA at h
  rw [List.getElem?_map] at h
  cases q : ρ[i]? with
  | none => rw [q] at h; cases h
  | some s =>
    rw [q] at h
    cases s <;> simp at h
    obtain ⟨rfl, rfl⟩ := h
    rfl
theorem StR.vA (h : StR K H0 ρ σ G H fp) : VR K H0 (vA ρ) σ G := ⟨by unfold VL.vA; rw [List.length_map, h.len], fun i f d hi => by
  have z := h.sl i _ (vA_get hi)
  have hl : i < ρ.length := (List.getElem?_eq_some_iff.mp (vA_get hi)).1
  obtain ⟨o, ho⟩ : ∃ o, σ[i]? = some o := ⟨_, List.getElem?_eq_getElem (h.len ▸ hl)⟩
  rw [ho, Option.getD_some] at z
  rw [ho]
  generalize fp i = l at z
  cases z with
  | sh r => exact ⟨_, rfl, r⟩⟩
/-- what is known, and all lists of one's own as they are now -/
def gB (fp : Nat → List Addr) (n : Nat) (G H : Hp) : Hp := fun a => if (List.range n).any (fun i => decide (a ∈ fp i)) = true then H a else G a
theorem gB_own {n : Nat} {a : Addr} (hi : i < n) (ha : a ∈ fp i) : gB fp n G H a = H a := by
  unfold gB
  rw [if_pos]
  rw [List.any_eq_true]
  exact ⟨i, List.mem_range.mpr hi, decide_eq_true ha⟩
theorem StR.gB_n (h : StR K H0 ρ σ G H fp) (e : Ex G H) : NoTbl (gB fp ρ.length G H) := fun a ps => by
  unfold gB
  split
  · rename_i q
    obtain ⟨i, hi, ha⟩ := List.any_eq_true.mp q
    obtain ⟨_, _, vs, h3⟩ := h.fr i a (of_decide_eq_true ha)
    rw [h3]; intro z; cases z
  · exact e.n a ps
theorem StR.gB_e (h : StR K H0 ρ σ G H fp) (e : Ex G H) : Ex G (gB fp ρ.length G H) := ⟨fun a o ha => by
  unfold gB
  split
  · exact e a o ha
  · exact ha, e.n⟩
theorem StR.gB_s (h : StR K H0 ρ σ G H fp) (e : Ex G H) : Ex (gB fp ρ.length G H) H := ⟨fun a o ha => by
  unfold gB at ha
  split at ha
  · exact ha
  · exact e a o ha, h.gB_n e⟩
theorem RowsR.rep {Gb : Hp} {ps : List Addr} {rows : List (List D)} (h : RowsR K G H ps rows) (hG : ∀ a ∈ ps, Gb a = H a) (e : Ex G Gb) : RepA K none Gb (rows.map D.lst) (ps.map V.ref) := by
  induction h with
  | nil => exact .nil
  | cons h1 r t ih => exact .cons (.lst trivial (by rw [hG _ List.mem_cons_self]; exact h1) (r.mono e)) (ih fun a ha => hG a (List.mem_cons_of_mem _ ha))
mutual
theorem JR.rep {Gb : Hp} {l : List Addr} {b : Nat} (hG : ∀ a ∈ l, Gb a = H a) (e : Ex G Gb) : ∀ {d : D} {v : V}, JR K l true b G H d v → Rep K none Gb d v
  | _, _, .non => .non
  | _, _, .bl x => .bl x
  | _, _, .int x => .int x
  | _, _, .str x => .str x
  | _, _, .lst ha h1 h2 h3 t => .lst trivial (by rw [hG _ ha]; exact h1) (by
      have z := JRA.rep hG e t
      rw [h3 rfl, List.take_length] at z
      exact z)
  | _, _, .tup h t => .tup (ex_t e h) (JRA.rep hG e t)
theorem JRA.rep {Gb : Hp} {l : List Addr} {b : Nat} (hG : ∀ a ∈ l, Gb a = H a) (e : Ex G Gb) : ∀ {ds : List D} {vs : List V}, JRA K l true b G H ds vs → RepA K none Gb ds vs
  | _, _, .nil => .nil
  | _, _, .cons h t => .cons (JR.rep hG e h) (JRA.rep hG e t)
end
theorem StR.vB (h : StR K H0 ρ σ G H fp) (e : Ex G H) (Hb : Hp) : VR K Hb (vB ρ) σ (gB fp ρ.length G H) := ⟨by unfold VL.vB; rw [List.length_map, h.len], fun i f d hi => by
  unfold VL.vB at hi
  rw [List.getElem?_map] at hi
  cases q : ρ[i]? with
  | none => rw [q] at hi; cases hi
  | some s =>
    rw [q] at hi
    have hl : i < ρ.length := (List.getElem?_eq_some_iff.mp q).1
    have z := h.sl i _ q
    have ow : ∀ a ∈ fp i, gB fp ρ.length G H a = H a := fun a ha => gB_own hl ha
    obtain ⟨o, ho⟩ : ∃ o, σ[i]? = some o := ⟨_, List.getElem?_eq_getElem (h.len ▸ hl)⟩
    rw [ho, Option.getD_some] at z
    rw [ho]
    generalize fp i = l at z ow
    cases z with
    | un => cases hi
    | sh r => simp at hi; obtain ⟨rfl, rfl⟩ := hi; exact ⟨_, rfl, (r.mono (h.gB_e e)).old⟩
    | ow hp r _ =>
      simp at hi; obtain ⟨rfl, rfl⟩ := hi
      exact ⟨_, rfl, .lst trivial (by rw [ow _ (by simp)]; exact hp) (r.mono (h.gB_e e)).old⟩
    | rw hp r =>
      simp at hi; obtain ⟨rfl, rfl⟩ := hi
      exact ⟨_, rfl, .lst trivial (by rw [ow _ (by simp)]; exact hp) (r.rep (fun a ha => ow a (List.mem_cons_of_mem _ ha)) (h.gB_e e))⟩
    | jk r hl =>
      rename_i ex b d v
      cases ex with
      | false => cases hi
      | true =>
        simp at hi; obtain ⟨rfl, rfl⟩ := hi
        exact ⟨_, rfl, r.rep ow (h.gB_e e)⟩⟩
/-- what is known behind, less the lists of one's own -/
def lessG (fp : Nat → List Addr) (n : Nat) (G : Hp) : Hp := fun a => if (List.range n).any (fun i => decide (a ∈ fp i)) = true then none else G a
theorem lessG_n (n : NoTbl G) {m : Nat} : NoTbl (lessG fp m G) := fun a ps => by
  unfold lessG; split
  · intro z; cases z
  · exact n a ps
/-- behind an evaluation that read the lists of one's own, these are one's own again -/
theorem StR.back (h : StR K H0 ρ σ G H fp) (e : Ex G H) (g : Grow (gB fp ρ.length G H) H G' H') : Grow G H (lessG fp ρ.length G') H' := by
  refine ⟨⟨fun a o ha => ?_, e.n⟩, ⟨fun a o ha => ?_, lessG_n g.sub.n⟩, g.ext, fun a h1 h2 => ?_⟩
  · unfold lessG
    split
    · rename_i q
      obtain ⟨i, hi, hm⟩ := List.any_eq_true.mp q
      rw [(h.fr i a (of_decide_eq_true hm)).2.1] at ha; cases ha
    · exact g.e a o ((h.gB_e e) a o ha)
  · unfold lessG at ha
    split at ha
    · cases ha
    · exact g.sub a o ha
  · unfold lessG at h2
    split at h2
    · exact (h2 rfl).elim
    · rename_i q
      unfold lessG
      rw [if_neg q]
      refine g.new a ?_ h2
      unfold gB
      rw [if_neg q]; exact h1
/-- kinds of objects that data that are new keep for themselves -/
def isFr : HO → Bool
  | .lst _ => true | .dK _ => true | .dT _ => true | _ => false
mutual
theorem Rep.keepN {Gx : Hp} (h : ∀ a o, G' a = some o → (isFr o = true → H a = none) → Gx a = some o) : ∀ {d : D} {v : V}, Rep K (some H) G' d v → Rep K (some H) Gx d v
  | _, _, .non => .non
  | _, _, .bl b => .bl b
  | _, _, .int b => .int b
  | _, _, .str b => .str b
  | _, _, .ty b => .ty b
  | _, _, .fn b => .fn b
  | _, _, .lst f h1 t => .lst f (h _ _ h1 fun _ => f) (RepA.keepN h t)
  | _, _, .tup h1 t => .tup (by
      rcases h1 with (h1 | ⟨o, h1⟩) | h1
      · exact .inl (.inl (h _ _ h1 fun z => by cases z))
      · exact .inl (.inr ⟨o, h _ _ h1 fun z => by cases z⟩)
      · exact .inr h1) (RepA.keepN h t)
  | _, _, .ins h1 q t => .ins (h _ _ h1 fun z => by cases z) q (RepA.keepN h t)
  | _, _, .pool q _ => by cases q
  | _, _, .scr q _ _ => by cases q
  | _, _, .dct f h1 q t => .dct f (h _ _ h1 fun _ => f) q (RepA.keepN h t)
  | _, _, .dctT f h1 q t => .dctT f (h _ _ h1 fun _ => f) q (RepA.keepN h t)
  | _, _, .clo h1 t => .clo (by
      obtain ⟨c, c', h1, h2, h3⟩ := h1.ex
      exact ⟨c, c', h _ _ h1 (fun z => by cases z), h _ _ h2 (fun z => by cases z), h _ _ h3 fun z => by cases z⟩) (Rep.keepN h t)
  | _, _, .at_ t => .at_ (Rep.keepN h t)
  | _, _, .exc h1 q t => .exc (h _ _ h1 fun z => by cases z) q (RepA.keepN h t)
theorem RepA.keepN {Gx : Hp} (h : ∀ a o, G' a = some o → (isFr o = true → H a = none) → Gx a = some o) : ∀ {ds : List D} {vs : List V}, RepA K (some H) G' ds vs → RepA K (some H) Gx ds vs
  | _, _, .nil => .nil
  | _, _, .cons r t => .cons (Rep.keepN h r) (RepA.keepN h t)
end
/-- what is new since the evaluation began does not lean on the lists of one's own -/
theorem StR.cutG (h : StR K H0 ρ σ G H fp) (g : Grow (gB fp ρ.length G H) H G' H') : ∀ a o, G' a = some o → (isFr o = true → H a = none) → lessG fp ρ.length G' a = some o := fun a o ha hf => by
  unfold lessG
  split
  · rename_i q
    obtain ⟨i, hi, hm⟩ := List.any_eq_true.mp q
    obtain ⟨_, _, vs, h3⟩ := h.fr i a (of_decide_eq_true hm)
    have z := g.sub a o ha
    rw [(g.ext.keep h3 rfl)] at z
    cases z
    rw [hf rfl] at h3; cases h3
  · exact ha
end
end VL

/-! VM8: statements by what they do. -/
namespace VL
open PySem PySem.Spec PyProof.Rows L2
open M (ret bnd nope grd exn opt drw)
section
variable [Tbl]
/-- the ends' wishes follow from what the M says -/
structure EndOk (K : Fr) (EE : XK) (fr : Bool) (G0 H0 G : Hp) (De : Ends) (Φ : Oc → Prop) (Ξ : Exn → Prop) : Prop where
  nx : ∀ ρ σ G' H' fp, Φ (.nx ρ) → Ex G G' → Grow G0 H0 G' H' → StR K H0 ρ σ G' H' fp → De.nx σ H'
  rt : ∀ ρ σ d v G' H' fp, Φ (.rt ρ d) → Grow G0 H0 G' H' → StR K H0 ρ σ G' H' fp → Rep K (frh fr H0) G' d v → De.rt v H'
  bk : ∀ ρ σ G' H' fp, Φ (.bk ρ) → Ex G G' → Grow G0 H0 G' H' → StR K H0 ρ σ G' H' fp → De.bk σ H'
  ct : ∀ ρ σ G' H' fp, Φ (.ct ρ) → Ex G G' → Grow G0 H0 G' H' → StR K H0 ρ σ G' H' fp → De.ct σ H'
  ex : ∀ x cls d G' H', Ξ x → Grow G0 H0 G' H' → ExR K x cls d G' → EE cls d H'
  tb : NdefX.TabsN Tbl.T H0
def RS (K : Fr) (EE : XK) (fr : Bool) (ts : TS) (m : Env → M Oc) : Prop := ∀ G0 H0 ρ σ G H fp De Φ Ξ, Grow G0 H0 G H → StR K H0 ρ σ G H fp → m ρ Φ Ξ → EndOk K EE fr G0 H0 G De Φ Ξ → ts De σ H
end
section
variable [Tbl] {K : Fr} {EE : XK} {fr f f1 : Bool} {H0 G0 : Hp} {ρ ρ' : Env} {σ : L2.St} {G G' H H' G1 H1 : Hp} {Ξ : Exn → Prop} {Φ : Oc → Prop} {De : Ends} {d : D} {v : V} {ds : List D} {vs : List V} {fp : Nat → List Addr} {i j : Nat} {s : Slot}
variable {te ta ti : TE} {tt : TT} {ts tu tw : TS} {ma mi' me : VE → M D} {mt : VE → M Bool} {ml : VE → M (List D)} {m m' mu : Env → M Oc} {g : TG} {is : List Nat} {b : D → Option (List D)}
theorem EndOk.on (h : EndOk K EE fr G0 H0 G De Φ Ξ) (e : Ex G G') : EndOk K EE fr G0 H0 G' De Φ Ξ :=
  ⟨fun ρ σ G2 H2 fp p e2 g s => h.nx ρ σ G2 H2 fp p (e.trans e2) g s, h.rt, fun ρ σ G2 H2 fp p e2 g s => h.bk ρ σ G2 H2 fp p (e.trans e2) g s, fun ρ σ G2 H2 fp p e2 g s => h.ct ρ σ G2 H2 fp p (e.trans e2) g s, h.ex, h.tb⟩
theorem EndOk.cvA (h : EndOk K EE fr G0 H0 G De Φ Ξ) (gr : Grow G0 H0 G H) (st : StR K H0 ρ σ G H fp) : Cv K EE H0 (vA ρ) σ G H Ξ :=
  ⟨st.vA, gr.sub, gr.ext, fun x cls d G' H' hx g r => h.ex x cls d G' H' hx (gr.trans g) r, gr.ext.t h.tb⟩
/-- all of one's own known -/
theorem StR.growB (st : StR K H0 ρ σ G H fp) (gr : Grow G0 H0 G H) : Grow G0 H0 (gB fp ρ.length G H) H := ⟨gr.e.trans (st.gB_e gr.sub), st.gB_s gr.sub, gr.ext, fun a h1 h2 => by
  unfold gB at h2
  split at h2
  · rename_i q
    obtain ⟨i, hi, hm⟩ := List.any_eq_true.mp q
    exact .inl (st.fr i a (of_decide_eq_true hm)).1
  · rename_i q
    unfold gB
    rw [if_neg q]
    exact gr.new a h1 h2⟩
theorem EndOk.cvB (h : EndOk K EE fr G0 H0 G De Φ Ξ) (gr : Grow G0 H0 G H) (st : StR K H0 ρ σ G H fp) : Cv K EE H (vB ρ) σ (gB fp ρ.length G H) H Ξ :=
  ⟨st.vB gr.sub H, st.gB_s gr.sub, ExN.refl H, fun x cls d G' H' hx g r => h.ex x cls d G' H' hx ((st.growB gr).trans g) r, gr.ext.t h.tb⟩
/-- an evaluation that read all: the result is new, or a scalar -/
theorem StR.evB (st : StR K H0 ρ σ G H fp) (gr : Grow G0 H0 G H) (g : Grow (gB fp ρ.length G H) H G' H') : Grow G H (lessG fp ρ.length G') H' := st.back gr.sub g
theorem StR.repB (st : StR K H0 ρ σ G H fp) (gr : Grow G0 H0 G H) (g : Grow (gB fp ρ.length G H) H G' H') (r : Rep K (frh true H) G' d v) : Rep K (frh true H0) (lessG fp ρ.length G') d v :=
  Rep.toF (f := true) (Rep.keepN (st.cutG g) r) gr.ext
theorem StR.repsB (st : StR K H0 ρ σ G H fp) (gr : Grow G0 H0 G H) (g : Grow (gB fp ρ.length G H) H G' H') (r : RepA K (frh true H) G' ds vs) : RepA K (frh true H0) (lessG fp ρ.length G') ds vs :=
  RepA.h2 (f := true) gr.ext (RepA.keepN (st.cutG g) r)
theorem Rep.any {G H : Hp} (r : Rep K (frh true H) G d v) : Rep K (frh fr H) G d v := by
  cases fr with
  | true => exact r
  | false => exact r.old

/-! ### assignments -/
def sA (f : Bool) (i : Nat) (me : VE → M D) : Env → M Oc := fun ρ => bnd (me (vA ρ)) fun d => ret (.nx (ρ.set i (.sh f d)))
def sB (i : Nat) (me : VE → M D) : Env → M Oc := fun ρ => bnd (me (vB ρ)) fun d => ret (.nx (ρ.set i (.sh true d)))
theorem r_asgA (h : XE K EE f te me) : RS K EE fr (tAsg te (gName i)) (sA f i me) := fun G0 H0 ρ σ G H fp De Φ Ξ gr st m k =>
  h H0 _ σ G H _ Ξ (k.cvA gr st) m _ fun d v G1 H1 p g r => k.nx _ _ G1 H1 _ p g.e (gr.trans g) ((st.grow g).setSh r)
theorem r_asgB (h : XE K EE true te me) : RS K EE fr (tAsg te (gName i)) (sB i me) := fun G0 H0 ρ σ G H fp De Φ Ξ gr st m k =>
  h H _ σ _ H _ Ξ (k.cvB gr st) m _ fun d v G1 H1 p g r => by
    have g' := st.evB gr g
    exact k.nx _ _ _ H1 _ p g'.e (gr.trans g') ((st.grow g').setSh (st.repB gr g r))
def sL (f : Bool) (i : Nat) (ml : VE → M (List D)) : Env → M Oc := fun ρ => bnd (ml (vA ρ)) fun ds => ret (.nx (ρ.set i (.ow none f ds)))
def sLB (i : Nat) (ml : VE → M (List D)) : Env → M Oc := fun ρ => bnd (ml (vB ρ)) fun ds => ret (.nx (ρ.set i (.ow none true ds)))
theorem StR.newP {p : Addr} (st : StR K H0 ρ σ G H fp) (h : H p = none) : ∀ j, p ∉ fp j := fun j hm => by
  obtain ⟨_, _, vs, h3⟩ := st.fr j p hm
  rw [h] at h3; cases h3
theorem r_asgL (h : XL K EE f te ml) : RS K EE fr (tAsg te (gName i)) (sL f i ml) := fun G0 H0 ρ σ G H fp De Φ Ξ gr st m k =>
  h H0 _ σ G H _ Ξ (k.cvA gr st) m _ fun ds p vs G1 H1 pm g h1 h2 h3 r => by
    obtain ⟨fp', s'⟩ := (st.grow g).setOw (i := i) h3 (gr.ext.f _ h1) h2 (st.newP h1) r
    exact k.nx _ _ G1 H1 _ pm g.e (gr.trans g) s'
theorem r_asgLB (h : XL K EE true te ml) : RS K EE fr (tAsg te (gName i)) (sLB i ml) := fun G0 H0 ρ σ G H fp De Φ Ξ gr st m k =>
  h H _ σ _ H _ Ξ (k.cvB gr st) m _ fun ds p vs G1 H1 pm g h1 h2 h3 r => by
    have g' := st.evB gr g
    obtain ⟨fp', s'⟩ := (st.grow g').setOw (i := i) h3 (gr.ext.f _ h1) (show lessG fp ρ.length G1 p = none by unfold lessG; split <;> first | rfl | exact h2) (st.newP h1) (st.repsB gr g r)
    exact k.nx _ _ _ H1 _ pm g'.e (gr.trans g') s'
/-- a list of scalars that is new becomes one's own -/
def sU (i : Nat) (me : VE → M D) : Env → M Oc := fun ρ => bnd (me (vB ρ)) fun d => bnd (opt (tLs d)) fun ds => grd (ds.all scalarD = true) (ret (.nx (ρ.set i (.ow none true ds))))
theorem r_asgU (h : XE K EE true te me) : RS K EE fr (tAsg te (gName i)) (sU i me) := fun G0 H0 ρ σ G H fp De Φ Ξ gr st m k =>
  h H _ σ _ H _ Ξ (k.cvB gr st) m _ fun d v G1 H1 pm g r => by
    obtain ⟨ds, e, hs, pm⟩ := M.opt_inv pm
    have r' := st.repB gr g r
    rw [tLs_inv e] at r r'
    have g' := st.evB gr g
    obtain ⟨p, vs, rfl, hf, hp, rs⟩ := r.lst_inv
    obtain ⟨p2, vs2, e2, hf2, hp2, rs2⟩ := r'.lst_inv
    cases e2
    have hpH : H p = none := hf
    -- forget p
    have gc : Grow G H (fun a => if a = p then none else lessG fp ρ.length G1 a) H1 := ⟨⟨fun a o ha => by
        show (if a = p then none else lessG fp ρ.length G1 a) = some o
        rw [if_neg (fun z => by subst z; rw [fresh_back gr.sub hpH] at ha; cases ha)]; exact g'.e a o ha, gr.sub.n⟩, ⟨fun a o ha => by
        have ha : (if a = p then none else lessG fp ρ.length G1 a) = some o := ha
        split at ha
        · cases ha
        · exact g'.sub a o ha, fun a ps ha => by
        have ha : (if a = p then none else lessG fp ρ.length G1 a) = some (.tbl ps) := ha
        split at ha
        · cases ha
        · exact g'.sub.n a ps ha⟩, g'.ext, fun a h1 h2 => by
        have h2 : (if a = p then none else lessG fp ρ.length G1 a) ≠ none := h2
        split at h2
        · exact (h2 rfl).elim
        · rename_i hz; exact (g'.new a h1 h2).imp id fun ⟨q, e⟩ => ⟨q, (if_neg hz).trans e⟩⟩
    obtain ⟨fp', s'⟩ := (st.grow gc).setOw (i := i) (g'.sub _ _ hp2) (gr.ext.f _ hpH) (show (if p = p then none else lessG fp ρ.length G1 p) = none from if_pos rfl) (st.newP hpH) (RepA.scalars (fr' := frh true H0) (H' := fun a => if a = p then none else lessG fp ρ.length G1 a) (by rw [List.all_eq_true] at hs; exact hs) rs2)
    exact k.nx _ _ _ H1 _ pm gc.e (gr.trans gc) s'
/-- several names at once -/
def setEnv (f : Bool) (ρ : Env) (is : List Nat) (ds : List D) : Env := (is.zip ds).foldl (fun ρ p => ρ.set p.1 (.sh f p.2)) ρ
@[simp] theorem setEnv_nil (f : Bool) (ρ : Env) (ds : List D) : setEnv f ρ [] ds = ρ := id rfl
@[simp] theorem setEnv_cons (f : Bool) (ρ : Env) (i : Nat) (is : List Nat) (d : D) (ds : List D) : setEnv f ρ (i :: is) (d :: ds) = setEnv f (ρ.set i (.sh f d)) is ds := id rfl
def sTA (f : Bool) (is : List Nat) (b : D → Option (List D)) (me : VE → M D) : Env → M Oc := fun ρ => bnd (me (vA ρ)) fun d => bnd (opt (b d)) fun ds => ret (.nx (setEnv f ρ is ds))
def sTB (is : List Nat) (b : D → Option (List D)) (me : VE → M D) : Env → M Oc := fun ρ => bnd (me (vB ρ)) fun d => bnd (opt (b d)) fun ds => ret (.nx (setEnv true ρ is ds))
theorem r_asgTA (hg : XG K g is b) (h : XE K EE f te me) : RS K EE fr (tAsg te g) (sTA f is b me) := fun G0 H0 ρ σ G H fp De Φ Ξ gr st m k =>
  h H0 _ σ G H _ Ξ (k.cvA gr st) m _ fun d v G1 H1 p g1 r => by
    obtain ⟨ds, e, p⟩ := M.opt_inv p
    refine hg _ G1 H1 d v ds σ _ e r g1.sub fun vs hl rs => ?_
    obtain ⟨fp', s'⟩ := (st.grow g1).setMany (is := is) rs
    exact k.nx _ _ G1 H1 _ p g1.e (gr.trans g1) s'
theorem r_asgTB (hg : XG K g is b) (h : XE K EE true te me) : RS K EE fr (tAsg te g) (sTB is b me) := fun G0 H0 ρ σ G H fp De Φ Ξ gr st m k =>
  h H _ σ _ H _ Ξ (k.cvB gr st) m _ fun d v G1 H1 p g1 r => by
    obtain ⟨ds, e, p⟩ := M.opt_inv p
    have g' := st.evB gr g1
    refine hg _ _ H1 d v ds σ _ e (st.repB gr g1 r) g'.sub fun vs hl rs => ?_
    obtain ⟨fp', s'⟩ := (st.grow g').setMany (is := is) (f := true) rs
    exact k.nx _ _ _ H1 _ p g'.e (gr.trans g') s'
/-- x += e, whole numbers -/
def sAug (i : Nat) (fn : Int → Int → Int) (me : VE → M D) : Env → M Oc := fun ρ => bnd (opt ((getV (vB ρ) i).bind tIn)) fun x => bnd (me (vB ρ)) fun d => bnd (opt (tIn d)) fun y => ret (.nx (ρ.set i (.sh true (.int (fn x y)))))
theorem r_aug {fn : Int → Int → Int} (h : XE K EE false te me) : RS K EE fr (tAug i te (ipI fn)) (sAug i fn me) := fun G0 H0 ρ σ G H fp De Φ Ξ gr st m k => by
  obtain ⟨x, ex, m⟩ := M.opt_inv m
  rw [Option.bind_eq_some_iff] at ex
  obtain ⟨dx, e1, e2⟩ := ex
  rw [tIn_inv e2] at e1
  obtain ⟨f, e1⟩ := getV_inv e1
  obtain ⟨v, hv, r⟩ := (k.cvB gr st).vr.at_ i f _ e1
  refine ⟨v, hv, h H _ σ _ H _ Ξ (k.cvB gr st) m _ fun d w G1 H1 p g1 rw' => ?_⟩
  obtain ⟨y, ey, p⟩ := M.opt_inv p
  rw [tIn_inv ey] at rw'
  have g' := st.evB gr g1
  exact ⟨x, y, r.int_inv, rw'.int_inv, k.nx _ _ _ H1 _ p g'.e (gr.trans g') ((st.grow g').setSh (.int _))⟩

/-! ### lists of one's own -/
def getO (ρ : Env) (i : Nat) : Option (Option Addr × Bool × List D) := match ρ[i]? with
  | some (.ow a f ds) => some (a, f, ds)
  | _ => none
theorem getO_inv {p : Option Addr × Bool × List D} (h : getO ρ i = some p) : ρ[i]? = some (.ow p.1 p.2.1 p.2.2) := by
  unfold getO at h
  split at h
  · rename_i a f ds e; cases h; exact e
  · cases h
/-- xs.append(e) -/
def sApp (f2 : Bool) (i : Nat) (me : VE → M D) : Env → M Oc := fun ρ => bnd (opt (getO ρ i)) fun p => grd (p.2.2.length < 100000) (bnd (me (vA ρ)) fun d => ret (.nx (ρ.set i (.ow p.1 (p.2.1 && f2) (p.2.2 ++ [d])))))
def sAppB (i : Nat) (me : VE → M D) : Env → M Oc := fun ρ => bnd (opt (getO ρ i)) fun p => grd (p.2.2.length < 100000) (bnd (me (vB ρ)) fun d => ret (.nx (ρ.set i (.ow p.1 p.2.1 (p.2.2 ++ [d])))))
theorem RepA.weak {f2 : Bool} (r : RepA K (frh f H) G ds vs) : RepA K (frh (f && f2) H) G ds vs := by
  cases f2 with
  | true => rw [Bool.and_true]; exact r
  | false => rw [Bool.and_false]; exact r.old
theorem Rep.weak' {f2 : Bool} (r : Rep K (frh f2 H) G d v) : Rep K (frh (f && f2) H) G d v := by
  cases f with
  | true => rw [Bool.true_and]; exact r
  | false => rw [Bool.false_and]; exact r.old
theorem r_app {f2 : Bool} (h : XE K EE f2 te me) : RS K EE fr (tDrop (tBM K "list" rAppend (tVar i) (tCons te tNil))) (sApp f2 i me) := fun G0 H0 ρ σ G H fp De Φ Ξ gr st m k => by
  obtain ⟨⟨ad, f, ds⟩, e, hl, m⟩ := M.opt_inv m
  have hi := getO_inv e
  obtain ⟨p, vs, hv, hp, rs, h0, hg, _⟩ := st.put gr.sub.self hi
  refine ⟨.ref p, hv, .inl ⟨rfl, vs, SqL.of hp⟩, h H0 _ σ G H _ Ξ (k.cvA gr st) m _ fun d v G1 H1 pm g1 r => ?_⟩
  have st1 := st.grow g1
  obtain ⟨p', vs', hv', hp', rs', h0', hg', put⟩ := st1.put g1.sub.self hi
  rw [hv] at hv'; cases hv'
  refine ⟨p, vs', v, rfl, rfl, hp', Evl.sz_lt (by rw [← rs'.length]; exact hl), ?_⟩
  exact k.nx _ _ G1 _ _ pm g1.e ((gr.trans g1).put h0 hg' (by rw [hp']; rfl)) (put _ _ _ (rs'.weak.append (.cons r.weak' .nil)))
theorem r_appB (h : XE K EE true te me) : RS K EE fr (tDrop (tBM K "list" rAppend (tVar i) (tCons te tNil))) (sAppB i me) := fun G0 H0 ρ σ G H fp De Φ Ξ gr st m k => by
  obtain ⟨⟨ad, f, ds⟩, e, hl, m⟩ := M.opt_inv m
  have hi := getO_inv e
  obtain ⟨p, vs, hv, hp, rs, h0, hg, _⟩ := st.put gr.sub.self hi
  refine ⟨.ref p, hv, .inl ⟨rfl, vs, SqL.of hp⟩, h H _ σ _ H _ Ξ (k.cvB gr st) m _ fun d v G1 H1 pm g1 r => ?_⟩
  have g' := st.evB gr g1
  have st1 := st.grow g'
  obtain ⟨p', vs', hv', hp', rs', h0', hg', put⟩ := st1.put g'.sub.self hi
  rw [hv] at hv'; cases hv'
  refine ⟨p, vs', v, rfl, rfl, hp', Evl.sz_lt (by rw [← rs'.length]; exact hl), ?_⟩
  exact k.nx _ _ _ _ _ pm g'.e ((gr.trans g').put h0 hg' (by rw [hp']; rfl)) (put _ _ _ (rs'.append (.cons (st.repB gr g1 r).any .nil)))
/-- xs[j] = e, e a scalar -/
def sSet (i : Nat) (mi me : VE → M D) : Env → M Oc := fun ρ => bnd (me (vB ρ)) fun d => grd (scalarD d = true) (bnd (opt (getO ρ i)) fun p => bnd (mi (vB ρ)) fun x => bnd (opt (tIn x)) fun j => bnd (opt (ixN p.2.2.length j)) fun k => ret (.nx (ρ.set i (.ow p.1 p.2.1 (p.2.2.set k d)))))
theorem RepA.set' (r : RepA K (frh f H) G ds vs) (h : Rep K (frh f H) G d v) (n : Nat) : RepA K (frh f H) G (ds.set n d) (vs.set n v) := r.set n h
theorem r_set (h : XE K EE false te me) (hi : XE K EE false ti mi') : RS K EE fr (tAsg te (gSub (tVar i) ti rSetL)) (sSet i mi' me) := fun G0 H0 ρ σ G H fp De Φ Ξ gr st m k =>
  h H _ σ _ H _ Ξ (k.cvB gr st) m _ fun d v G1 H1 pm g1 r => by
    obtain ⟨hs, pm⟩ := pm
    obtain ⟨⟨ad, f, ds⟩, e, pm⟩ := M.opt_inv pm
    have hO := getO_inv e
    have g' := st.evB gr g1
    have gr1 := gr.trans g'
    have st1 := st.grow g'
    have k1 := k.on g'.e
    obtain ⟨p, vs, hv, hp, rs, h0, hg, _⟩ := st1.put g'.sub.self hO
    refine ⟨.ref p, hv, hi H1 _ σ _ H1 _ Ξ (k1.cvB gr1 st1) pm _ fun x w G2 H2 pm2 g2 r2 => ?_⟩
    obtain ⟨j, ej, pm2⟩ := M.opt_inv pm2
    obtain ⟨kk, ek, pm2⟩ := M.opt_inv pm2
    rw [tIn_inv ej] at r2
    have g2' := st1.evB gr1 g2
    have st2 := st1.grow g2'
    obtain ⟨p', vs', hv', hp', rs', h0', hg', put⟩ := st2.put g2'.sub.self hO
    rw [hv] at hv'; cases hv'
    refine ⟨p, vs', j, kk, rfl, r2.int_inv, hp', by rw [← rs'.length]; exact ek, ?_⟩
    exact k1.nx _ _ _ _ _ pm2 g2'.e ((gr1.trans g2').put h0 hg' (by rw [hp']; rfl)) (put _ _ _ (rs'.set _ (r.scalar hs)))
/-- xs[j] += e -/
def rGetL (K : Fr) : V → V → Hp → VK → Prop := fun x y H Q => ∃ p xs i j v, x = .ref p ∧ y = .int i ∧ SqL K H p xs ∧ i = ((j : Nat) : Int) ∧ xs[j]? = some v ∧ Q v H
theorem get_list {X : Cx} : PGet X (rGetL X.K) := by
  intro pins s σ H o i ov iv Q I ro ri h
  obtain ⟨p, xs, i, j, v, rfl, rfl, hq, rfl, hj, q⟩ := h
  cases ro
  obtain ⟨t, rfl⟩ := ri
  obtain ⟨its, r, pl, hz⟩ := I.list hq
  obtain ⟨u, hu, ru⟩ := r.get hj
  have hlt : j < xs.length := (List.getElem?_eq_some_iff.mp hj).1
  have hs : sizeLine < 2 ^ 62 := by decide
  exact wpAny_getItem_list pl.isList (by omega) (by omega) (by simpa using hu) ⟨v, H, I, ru, q⟩
def sAugS (i : Nat) (fn : Int → Int → Int) (mi me : VE → M D) : Env → M Oc := fun ρ => bnd (opt (getO ρ i)) fun p => bnd (mi (vB ρ)) fun x => bnd (opt (tIn x)) fun j => grd (0 ≤ j) (bnd (opt ((p.2.2[j.toNat]?).bind tIn)) fun a =>
  bnd (me (vB ρ)) fun d => bnd (opt (tIn d)) fun y => ret (.nx (ρ.set i (.ow p.1 p.2.1 (p.2.2.set j.toNat (.int (fn a y)))))))
theorem r_augS {fn : Int → Int → Int} (hi : XE K EE false ti mi') (h : XE K EE false te me) : RS K EE fr (tAugS (tVar i) ti te (rGetL K) (ipI fn) rSetL) (sAugS i fn mi' me) := fun G0 H0 ρ σ G H fp De Φ Ξ gr st m k => by
  obtain ⟨⟨ad, f, ds⟩, e, m⟩ := M.opt_inv m
  have hO := getO_inv e
  obtain ⟨p, vs, hv, hp, rs, h0, hg, _⟩ := st.put gr.sub.self hO
  refine ⟨.ref p, hv, hi H _ σ _ H _ Ξ (k.cvB gr st) m _ fun x w G1 H1 pm g1 r1 => ?_⟩
  obtain ⟨j, ej, hj0, pm⟩ := M.opt_inv pm
  rw [tIn_inv ej] at r1
  obtain ⟨a, ea, pm⟩ := M.opt_inv pm
  rw [Option.bind_eq_some_iff] at ea
  obtain ⟨da, ea, ea2⟩ := ea
  rw [tIn_inv ea2] at ea
  have g' := st.evB gr g1
  have gr1 := gr.trans g'
  have st1 := st.grow g'
  have k1 := k.on g'.e
  obtain ⟨p1, vs1, hv1, hp1, rs1, h01, hg1, _⟩ := st1.put g'.sub.self hO
  rw [hv] at hv1; cases hv1
  obtain ⟨va, hva, rva⟩ := rs1.get ea
  refine ⟨p, vs1, j, j.toNat, va, rfl, r1.int_inv, SqL.of hp1, by omega, hva, ?_⟩
  refine h H1 _ σ _ H1 _ Ξ (k1.cvB gr1 st1) pm _ fun d u G2 H2 pm2 g2 r2 => ?_
  obtain ⟨y, ey, pm2⟩ := M.opt_inv pm2
  rw [tIn_inv ey] at r2
  have g2' := st1.evB gr1 g2
  have st2 := st1.grow g2'
  obtain ⟨p', vs', hv', hp', rs', h0', hg', put⟩ := st2.put g2'.sub.self hO
  rw [hv] at hv'; cases hv'
  have hlt : j.toNat < vs'.length := by rw [← rs'.length]; exact (List.getElem?_eq_some_iff.mp ea).1
  refine ⟨a, y, rva.int_inv, r2.int_inv, p, vs', j, j.toNat, rfl, r1.int_inv, hp', ?_, ?_⟩
  · have := Evl.ixN_nat hlt
    rwa [show ((j.toNat : Nat) : Int) = j by omega] at this
  · exact k1.nx _ _ _ _ _ pm2 g2'.e ((gr1.trans g2').put h0 hg' (by rw [hp']; rfl)) (put _ _ _ (rs'.set _ (.int _)))

/-! ### ends -/
def sRet (me : VE → M D) : Env → M Oc := fun ρ => bnd (me (vA ρ)) fun d => ret (.rt ρ d)
def sRetB (me : VE → M D) : Env → M Oc := fun ρ => bnd (me (vB ρ)) fun d => ret (.rt ρ d)
theorem r_ret (h : XE K EE fr te me) : RS K EE fr (tRet te) (sRet me) := fun G0 H0 ρ σ G H fp De Φ Ξ gr st m k =>
  h H0 _ σ G H _ Ξ (k.cvA gr st) m _ fun d v G1 H1 p g r => k.rt ρ σ d v G1 H1 fp p (gr.trans g) (st.grow g) r
theorem r_retB (h : XE K EE true te me) : RS K EE fr (tRet te) (sRetB me) := fun G0 H0 ρ σ G H fp De Φ Ξ gr st m k =>
  h H _ σ _ H _ Ξ (k.cvB gr st) m _ fun d v G1 H1 p g r => k.rt ρ σ d v _ H1 fp p (gr.trans (st.evB gr g)) (st.grow (st.evB gr g)) (st.repB gr g r).any
def sRetN : Env → M Oc := fun ρ => ret (.rt ρ .non)
theorem r_retN : RS K EE fr tRetN sRetN := fun G0 H0 ρ σ G H fp De Φ Ξ gr st m k => k.rt ρ σ _ _ G H fp m gr st .non
def sNx : Env → M Oc := fun ρ => ret (.nx ρ)
theorem r_nx : RS K EE fr tNext sNx := fun G0 H0 ρ σ G H fp De Φ Ξ gr st m k => k.nx _ _ G H _ m gr.sub.self gr st
def sBk : Env → M Oc := fun ρ => ret (.bk ρ)
def sCt : Env → M Oc := fun ρ => ret (.ct ρ)
theorem r_bk : RS K EE fr tBreak sBk := fun G0 H0 ρ σ G H fp De Φ Ξ gr st m k => k.bk _ _ G H _ m gr.sub.self gr st
theorem r_ct : RS K EE fr tCont sCt := fun G0 H0 ρ σ G H fp De Φ Ξ gr st m k => k.ct _ _ G H _ m gr.sub.self gr st
def sNever : Env → M Oc := fun _ => nope
theorem r_never : RS K EE fr tNever sNever := fun G0 H0 ρ σ G H fp De Φ Ξ gr st m k => m.elim
def sDrop (me : VE → M D) : Env → M Oc := fun ρ => bnd (me (vB ρ)) fun _ => ret (.nx ρ)
theorem Grow.same (e : Ex G H) (x : ExN H H') : Grow G H G H' := ⟨e.self, e.transN x, x, fun a h h' => absurd h h'⟩
theorem r_drop (h : XE K EE false te me) : RS K EE fr (tDrop te) (sDrop me) := fun G0 H0 ρ σ G H fp De Φ Ξ gr st m k =>
  h H _ σ _ H _ Ξ (k.cvB gr st) m _ fun d v G1 H1 p g r => by
    have g' := Grow.same gr.sub g.ext
    exact k.nx _ _ G H1 _ p g'.e (gr.trans g') (st.grow g')
def sIf (mt : VE → M Bool) (m1 m2 : Env → M Oc) : Env → M Oc := fun ρ => bnd (mt (vB ρ)) fun b => if b = true then m1 ρ else m2 ρ
theorem r_if (h : XT K EE tt mt) (h1 : RS K EE fr ts m) (h2 : RS K EE fr tu mu) : RS K EE fr (tIfS tt ts tu) (sIf mt m mu) := fun G0 H0 ρ σ G H fp De Φ Ξ gr st mm k =>
  h H _ σ _ H _ Ξ (k.cvB gr st) mm _ fun b G1 H1 p g => by
    have g' := Grow.same gr.sub g.ext
    cases b with
    | true => exact h1 G0 H0 ρ σ G H1 fp De Φ Ξ (gr.trans g') (st.grow g') p k
    | false => exact h2 G0 H0 ρ σ G H1 fp De Φ Ξ (gr.trans g') (st.grow g') p k
/-- one after the other -/
def thenM (k : Env → M Oc) : Oc → M Oc
  | .nx ρ => k ρ
  | .rt ρ d => ret (.rt ρ d)
  | .bk ρ => ret (.bk ρ)
  | .ct ρ => ret (.ct ρ)
def sSeq (m m' : Env → M Oc) : Env → M Oc := fun ρ => bnd (m ρ) (thenM m')
@[simp] theorem thenM_nx (k : Env → M Oc) (ρ : Env) : thenM k (.nx ρ) = k ρ := id rfl
@[simp] theorem thenM_rt (k : Env → M Oc) (ρ : Env) (d : D) : thenM k (.rt ρ d) = ret (.rt ρ d) := id rfl
@[simp] theorem thenM_bk (k : Env → M Oc) (ρ : Env) : thenM k (.bk ρ) = ret (.bk ρ) := id rfl
@[simp] theorem thenM_ct (k : Env → M Oc) (ρ : Env) : thenM k (.ct ρ) = ret (.ct ρ) := id rfl
theorem r_seq (h1 : RS K EE fr ts m) (h2 : RS K EE fr tu m') : RS K EE fr (tSeq ts tu) (sSeq m m') := fun G0 H0 ρ σ G H fp De Φ Ξ gr st mm k =>
  h1 G0 H0 ρ σ G H fp _ _ Ξ gr st mm ⟨fun ρ1 σ1 G1 H1 fp1 p e g s => h2 G0 H0 ρ1 σ1 G1 H1 fp1 De Φ Ξ g s p (k.on e), k.rt, fun ρ1 σ1 G1 H1 fp1 p e g s => k.bk ρ1 σ1 G1 H1 fp1 p e g s, fun ρ1 σ1 G1 H1 fp1 p e g s => k.ct ρ1 σ1 G1 H1 fp1 p e g s, k.ex, k.tb⟩
theorem r_cut (h1 : RS K EE fr ts m) (h2 : RS K EE fr tu m') : RS K EE fr (C8.tCut ts tu) (sSeq m m') := fun G0 H0 ρ σ G H fp De Φ Ξ gr st mm k =>
  ⟨fun σ1 H1 => ∃ ρ1 G1 fp1, thenM m' (.nx ρ1) Φ Ξ ∧ Ex G G1 ∧ Grow G0 H0 G1 H1 ∧ StR K H0 ρ1 σ1 G1 H1 fp1,
    h1 G0 H0 ρ σ G H fp _ _ Ξ gr st mm ⟨fun ρ1 σ1 G1 H1 fp1 p e g s => ⟨ρ1, G1, fp1, p, e, g, s⟩, k.rt, fun ρ1 σ1 G1 H1 fp1 p e g s => k.bk ρ1 σ1 G1 H1 fp1 p e g s, fun ρ1 σ1 G1 H1 fp1 p e g s => k.ct ρ1 σ1 G1 H1 fp1 p e g s, k.ex, k.tb⟩,
    fun σ1 H1 ⟨ρ1, G1, fp1, p, e, g, s⟩ => h2 G0 H0 ρ1 σ1 G1 H1 fp1 De Φ Ξ g s p (k.on e)⟩
/-- the list of slot i is one's own no more -/
def frz (i : Nat) (ρ : Env) : Env := match ρ[i]? with
  | some (.ow _ f ds) => ρ.set i (.sh f (.lst ds))
  | _ => ρ
def sFrz (i : Nat) (m : Env → M Oc) : Env → M Oc := fun ρ => m (frz i ρ)
theorem r_frz (h : RS K EE fr ts m) : RS K EE fr ts (sFrz i m) := fun G0 H0 ρ σ G H fp De Φ Ξ gr st mm k => by
  unfold sFrz frz at mm
  split at mm
  · rename_i ad f ds e
    obtain ⟨G1, fp1, e1, g1, s1⟩ := st.frz gr e
    exact h G0 H0 _ σ G1 H fp1 De Φ Ξ g1 s1 mm (k.on e1)
  · exact h G0 H0 ρ σ G H fp De Φ Ξ gr st mm k

/-! ### loops -/
variable {wi : TI} {mi : VE → M (List D)}
def forGo (is : List Nat) (b : D → Option (List D)) (m : Env → M Oc) : List D → Env → M Oc
  | [], ρ => ret (.nx ρ)
  | a :: as, ρ => bnd (opt (b a)) fun ds => bnd (m (setEnv false ρ is ds)) fun o => match o with
    | .nx ρ' => forGo is b m as ρ'
    | .ct ρ' => forGo is b m as ρ'
    | .bk ρ' => ret (.nx ρ')
    | .rt ρ' d => ret (.rt ρ' d)
theorem for_core {J : It} {xs : List D} {Gs : Hp} (Y : Nat → Hp → V → Hp → Prop) (KG : Hp → Prop) (W : Walk J xs.length KG Y)
    (hK : ∀ G1 H1, Ex Gs G1 → Ex G1 H1 → KG H1) (hY : ∀ i H1 x H2 G1, Ex Gs G1 → Ex G1 H1 → Y i H1 x H2 → ∃ d G2, xs[i]? = some d ∧ Grow G1 H1 G2 H2 ∧ Rep K none G2 d x)
    (hg : XG K g is b) (h : RS K EE fr ts m) (hΦ : forGo is b m xs ρ Φ Ξ) (gr : Grow G0 H0 Gs H) (st : StR K H0 ρ σ Gs H fp) (k : EndOk K EE fr G0 H0 Gs De Φ Ξ) :
    ∃ W : Nat → Nat → L2.St → Hp → Prop, (∃ m, W 0 m σ H) ∧ ∀ i m σ H, W i m σ H →
      (J.stop i H ∧ De.nx σ H) ∨ (J.go i H ∧ ∃ N : L2.St → Hp → Prop, (∀ σ' H', N σ' H' → ∃ m', m' < m ∧ W (i + 1) m' σ' H') ∧ ∀ x H', J.yld i H x H' → g x σ H' fun σ2 H2 => ts { De with nx := N, ct := N, bk := De.nx } σ2 H2) := by
  refine for_it W (fun i σ1 H1 => ∃ ρ1 G1 fp1, Ex Gs G1 ∧ Grow G0 H0 G1 H1 ∧ StR K H0 ρ1 σ1 G1 H1 fp1 ∧ forGo is b m (xs.drop i) ρ1 Φ Ξ) ⟨ρ, Gs, fp, gr.sub.self, gr, st, hΦ⟩ ?_ ?_ ?_
  · rintro i σ1 H1 _ ⟨ρ1, G1, fp1, e1, g1, _⟩
    exact hK G1 H1 e1 g1.sub
  · rintro i x σ1 H1 H2 hi ⟨ρ1, G1, fp1, e1, g1, s1, p1⟩ y
    obtain ⟨d, G2, hd, g2, rx⟩ := hY i H1 x H2 G1 e1 g1.sub y
    rw [drop_next hd] at p1
    obtain ⟨ds, eb, p1⟩ := M.opt_inv p1
    refine hg none G2 H2 d x ds σ1 _ eb rx g2.sub fun vs hl rs => ?_
    obtain ⟨fp2, s2⟩ := (s1.grow g2).setMany (is := is) (f := false) rs
    refine h G0 H0 _ _ G2 H2 fp2 _ _ Ξ (g1.trans g2) s2 p1 ⟨fun ρ3 σ3 G3 H3 fp3 p3 e3 g3 s3 => ⟨ρ3, G3, fp3, e1.trans (g2.e.trans e3), g3, s3, p3⟩, k.rt, fun ρ3 σ3 G3 H3 fp3 p3 e3 g3 s3 => k.nx ρ3 σ3 G3 H3 fp3 p3 (e1.trans (g2.e.trans e3)) g3 s3, fun ρ3 σ3 G3 H3 fp3 p3 e3 g3 s3 => ⟨ρ3, G3, fp3, e1.trans (g2.e.trans e3), g3, s3, p3⟩, k.ex, k.tb⟩
  · rintro σ1 H1 ⟨ρ1, G1, fp1, e1, g1, s1, p1⟩
    rw [List.drop_length] at p1
    exact k.nx ρ1 σ1 G1 H1 fp1 p1 e1 g1 s1
def sFor (mi : VE → M (List D)) (is : List Nat) (b : D → Option (List D)) (m : Env → M Oc) : Env → M Oc := fun ρ => bnd (mi (vA ρ)) fun xs => forGo is b m xs ρ
def sForR (mi : VE → M (List D)) (is : List Nat) (b : D → Option (List D)) (m : Env → M Oc) : Env → M Oc := fun ρ => bnd (mi (vB ρ)) fun xs => forGo is b m xs ρ
theorem r_for (hi : XI K EE wi mi) (hg : XG K g is b) (h : RS K EE fr ts m) : RS K EE fr (tFor wi g ts) (sFor mi is b m) := fun G0 H0 ρ σ G H fp De Φ Ξ gr st mm k =>
  hi H0 _ σ G H _ Ξ (k.cvA gr st) mm _ fun J xs Gs Hs p gs W =>
    for_core _ _ W (fun G1 H1 e1 e2 => e1.trans e2) (fun i H1 x H2 G1 e1 e2 y => by
      obtain ⟨d, G2, hd, g2, r⟩ := y
      obtain ⟨g3, e3⟩ := g2.on e1 e2
      exact ⟨d, _, hd, g3, r.mono e3⟩) hg h p (gr.trans gs) (st.grow gs) (k.on gs.e)
theorem r_forR (hi : XR K EE wi mi) (hg : XG K g is b) (h : RS K EE fr ts m) : RS K EE fr (tFor wi g ts) (sForR mi is b m) := fun G0 H0 ρ σ G H fp De Φ Ξ gr st mm k =>
  hi H _ σ _ H _ Ξ (k.cvB gr st) mm _ fun J xs Gs Hs p gs W => by
    have g' := Grow.same gr.sub gs.ext
    refine for_core _ _ W (fun G1 H1 e1 e2 => trivial) (fun i H1 x H2 G1 e1 e2 y => ?_) hg h p (gr.trans g') (st.grow g') (k.on g'.e)
    obtain ⟨rfl, d, hd, r⟩ := y
    exact ⟨d, G1, hd, Grow.refl e2, r _ _⟩
/-- while: n turns at most -/
def whGo (mt : VE → M Bool) (m : Env → M Oc) : Nat → Env → M Oc
  | 0, _ => nope
  | n + 1, ρ => bnd (mt (vB ρ)) fun b => if b = true then bnd (m ρ) (fun o => match o with
    | .nx ρ' => whGo mt m n ρ'
    | .ct ρ' => whGo mt m n ρ'
    | .bk ρ' => ret (.nx ρ')
    | .rt ρ' d => ret (.rt ρ' d)) else ret (.nx ρ)
def sWh (mt : VE → M Bool) (m : Env → M Oc) : Env → M Oc := fun ρ Φ Ξ => ∃ n, whGo mt m n ρ Φ Ξ
theorem r_while (h : XT K EE tt mt) (hb : RS K EE fr ts m) : RS K EE fr (tWhile tt ts) (sWh mt m) := fun G0 H0 ρ σ G H fp De Φ Ξ gr st mm k => by
  obtain ⟨n, mm⟩ := mm
  refine ⟨fun n σ1 H1 => ∃ ρ1 G1 fp1, Ex G G1 ∧ Grow G0 H0 G1 H1 ∧ StR K H0 ρ1 σ1 G1 H1 fp1 ∧ whGo mt m n ρ1 Φ Ξ, ⟨n, ρ, G, fp, gr.sub.self, gr, st, mm⟩, ?_⟩
  rintro n σ1 H1 ⟨ρ1, G1, fp1, e1, g1, s1, p1⟩
  cases n with
  | zero => exact p1.elim
  | succ n =>
    have k1 := k.on e1
    refine h H1 _ σ1 _ H1 _ Ξ (k1.cvB g1 s1) p1 _ fun b G2 H2 p2 g2 => ?_
    have g' := Grow.same g1.sub g2.ext
    cases b with
    | false => exact k1.nx _ _ _ _ _ p2 g'.e (g1.trans g') (s1.grow g')
    | true =>
      refine ⟨fun σ' H' => ∃ ρ1 G1 fp1, Ex G G1 ∧ Grow G0 H0 G1 H' ∧ StR K H0 ρ1 σ' G1 H' fp1 ∧ whGo mt m n ρ1 Φ Ξ, fun σ' H' hN => ⟨n, Nat.lt_succ_self n, hN⟩, ?_⟩
      refine hb G0 H0 ρ1 σ1 G1 H2 fp1 _ _ Ξ (g1.trans g') (s1.grow g') p2 ⟨fun ρ3 σ3 G3 H3 fp3 p3 e3 g3 s3 => ⟨ρ3, G3, fp3, e1.trans e3, g3, s3, p3⟩, k.rt, fun ρ3 σ3 G3 H3 fp3 p3 e3 g3 s3 => k1.nx ρ3 σ3 G3 H3 fp3 p3 e3 g3 s3, fun ρ3 σ3 G3 H3 fp3 p3 e3 g3 s3 => ⟨ρ3, G3, fp3, e1.trans e3, g3, s3, p3⟩, k.ex, k.tb⟩
end

/-! ### defs -/
/-- nothing is let out -/
def calm {α : Type} (m : M α) : M α := fun Φ _ => m Φ fun _ => False
@[simp] theorem calm_ret {α : Type} (a : α) : calm (ret a) = ret a := id rfl
@[simp] theorem calm_nope {α : Type} : calm (nope : M α) = nope := id rfl
@[simp] theorem calm_drw (n : Int) : calm (drw n) = drw n := id rfl
@[simp] theorem calm_calm {α : Type} (m : M α) : calm (calm m) = calm m := id rfl
@[simp] theorem calm_grd {α : Type} (p : Prop) (m : M α) : calm (grd p m) = grd p (calm m) := id rfl
@[simp] theorem calm_opt {α : Type} (o : Option α) : calm (opt o) = opt o := by cases o <;> rfl
theorem calm_bnd {α β : Type} (m : M α) (k : α → M β) : calm (bnd m k) = bnd (calm m) fun a => calm (k a) := rfl
/-- what is made of a def's end -/
def ocD : Oc → M D
  | .nx _ => ret .non
  | .rt _ d => ret d
  | _ => nope
@[simp] theorem ocD_nx (ρ : Env) : ocD (.nx ρ) = ret .non := id rfl
@[simp] theorem ocD_rt (ρ : Env) (d : D) : ocD (.rt ρ d) = ret d := id rfl
/-- what a def computes, of its body's M: n slots -/
def mDef (n : Nat) (m : Env → M Oc) : List D → M D := fun ds => bnd (m (ds.map (Slot.sh false) ++ List.replicate (n - ds.length) .un)) ocD
section
variable [Tbl] {P : Program} {w : World} {K : Fr} {mg : Str → Option Value} {base : Heap}
/-- a def's promise: it lets nothing out -/
def spC (K : Fr) (f : Bool) (n : Nat) (m : List D → M D) : Sp := fun vs H Q _ => ∃ (ds : List D) (G : Hp) (Φ : D → Prop), Ex G H ∧ RepA K none G ds vs ∧ ds.length = n ∧ m ds Φ (fun _ => False) ∧ NdefX.TabsN Tbl.T H ∧
  ∀ d v G' H', Φ d → Grow G H G' H' → Rep K (frh f H) G' d v → Q v H'
def mCallC (n : Nat) (mf : List D → M D) (mr : VE → M (List D)) : VE → M D := fun ve => bnd (mr ve) fun as => grd (as.length = n) (calm (mf as))
theorem xe_callC' {f : Bool} {EE E : XK} {n : Nat} {mf : List D → M D} {tr : TA} {mr : VE → M (List D)} (h : XA K EE false tr mr) : XE K EE f (tCall (spC K f n mf) [] E tr) (mCallC n mf mr) := fun Hb ve σ G H Φ Ξ c m Q q =>
  h Hb ve σ G H _ Ξ c m _ fun as xs G1 H1 p1 g1 r1 => by
    rw [List.append_nil]
    exact ⟨as, G1, Φ, g1.sub, r1, p1.1, p1.2, (c.grow g1).tb, fun d v G' H' p g r => q d v G' H' p (g1.trans g) (r.h2 (c.grow g1).b)⟩
theorem start_len (N : List Str) (vs : List V) (h : vs.length ≤ N.length) : (L2.start N vs).length = N.length := by
  unfold L2.start
  rw [List.length_append, List.length_map, List.length_replicate]; omega
theorem StR.init {H0 H G : Hp} {N : List Str} {ds : List D} {vs : List V} (r : RepA K none G ds vs) (h : vs.length ≤ N.length) : StR K H0 (ds.map (Slot.sh false) ++ List.replicate (N.length - ds.length) .un) (L2.start N vs) G H (fun _ => []) := by
  have hl := r.length
  refine ⟨by rw [start_len N vs h, List.length_append, List.length_map, List.length_replicate]; omega, fun i s e => ?_, fun _ _ => rfl, fun i a ha => (by cases ha), fun i j a ha => (by cases ha), fun _ => List.nodup_nil⟩
  by_cases hi : i < ds.length
  · rw [List.getElem?_append_left (by rw [List.length_map]; exact hi), List.getElem?_map] at e
    cases q : ds[i]? with
    | none => rw [q] at e; cases e
    | some d =>
      rw [q] at e; cases e
      obtain ⟨v, hv, rv⟩ := r.get q
      have e2 : (L2.start N vs)[i]? = some (some v) := by
        unfold L2.start
        rw [List.getElem?_append_left (by rw [List.length_map]; omega), List.getElem?_map, hv]; rfl
      rw [e2, Option.getD_some]
      exact .sh rv
  · rw [List.getElem?_append_right (by rw [List.length_map]; omega), List.getElem?_replicate] at e
    split at e
    · cases e; exact .un _
    · cases e
/-- a def whose body does m -/
theorem okM {fr : Bool} {x qual : Str} {st : Stmt} {fa : Addr} {fd : FuncData} {N ps : List Str} {k n : Nat} {m : Env → M Oc} (F : L2.Fun K x qual st fa fd) (S : FnScope N ps (defScope st)) (hn : N.length = n) (hp : ps.length ≤ n)
    (hb : ∀ (cdv : Value) (A : Around) (outer : List PySem.Env) (s : Shared) (H : Hp) (E : XK), Room k (A.deeper (envOfC qual (defScope st) s.heap.objs.size fa cdv)) →
      ∃ t, PSs (cxOf C8.CX0 P w K mg base N qual (defScope st) fa cdv A outer s H E).nox (defBody st) t ∧ RS K C8.E0 fr t m) : FnOk P w K mg base C8.CX0 (k + 1) fa fd ps (spC K fr ps.length (mDef n m)) := by
  refine F.ok S (fun vs H Q E h => ?_) (fun cdv A outer s H vs Q E hr h => ?_)
  · obtain ⟨ds, G, Φ, e, r, hl, _⟩ := h
    rw [← r.length, hl]
  · obtain ⟨ds, G, Φ, e, r, hl, hm, tb, q⟩ := h
    obtain ⟨t, ht, hr'⟩ := hb cdv A outer s H E hr
    refine ⟨t, ht, hr' G H _ _ G H (fun _ => []) _ _ (fun _ => False) (Grow.refl e) (StR.init r (by rw [← r.length, hl, hn]; exact hp)) (by rw [hn]; exact hm) ⟨fun ρ σ G' H' fp p _ g _ => ?_, fun ρ σ d v G' H' fp p g _ r => ?_, fun ρ σ G' H' fp p _ g _ => ?_, fun ρ σ G' H' fp p _ g _ => ?_, fun x cls d G' H' hx => hx.elim, tb⟩⟩
    · exact q _ _ G' H' p g .non
    · exact q _ _ G' H' p g r
    · exact p.elim
    · exact p.elim
end
end VL

/-! VM9: set(list of whole numbers). -/
namespace VL
open PySem PySem.Spec PyProof.Rows L2
/-- a set just made -/
abbrev newSetO (w : World) : Obj := { cls := .type "set", dict := none, data := .set #[] 0 (.fresh 0 0 (!w.params.followText "set-order")) }
section
variable {P : Program} {w : World} {A : Around} {E : Value → Shared → Prop} {s : Shared}
theorem set_of_list {l : Addr} {its : Array Value} (ns : List Int) {Q : Value → Shared → Prop} (quiet : A.handled = none) (hl : s.heap.IsList l its) (hit : IntsAre its.toList ns) (small : ns.length + 1 < scanBound)
    (done : ∀ (h' : Heap) (tk c : Nat), SetR w h' s.heap.objs.size (fun j => decide (j ∈ ns)) c → c ≤ ns.length → (∀ b o, s.heap.get? b = some o → h'.get? b = some o) → Q (.ref s.heap.objs.size) { s with heap := h', toks := tk }) : wpAny (model P w) A (call (.type "set") [.ref l]) Q E s := by
  have size_eq : its.size = ns.length := by
    have z := IntsAre.length hit
    rwa [Array.length_toList] at z
  obtain ⟨_, _, order⟩ := F.called_set.mro
  have f1 := F.called_set.made
  have f2 := F.called_set.sub
  refine wpAny_call (codeAny_of_tree ?_)
  show wpAny _ _ (callAny (.type "set") _) _ _ _
  refine wpAny_pure ⟨Code.quiet_builtin _ (by decide +kernel), codeAny_builtin F.entry_type_call ?_⟩
  rw [Around.under_plain (weight_type_call_type "set" [.ref l] []) rfl]
  have f3 := F.called_set.notType
  have f4 := F.called_set.canCreate
  have f5 := F.typeCall_set_1 (.ref l)
  repeat (any_goals (first | assumption | wp_step))
  refine codeAny_mono (code_set_led1 (.ref l) (E := E) (Q₁ := fun u s₁ => u = .ref s.heap.objs.size ∧ s₁ = { s with heap := s.heap.push (newSetO w) }) ⟨rfl, rfl⟩) fun r s₁ hr => ?_
  match r, hr with
  | .error _, hr => exact hr
  | .ok .next, hr => exact hr.elim
  | .ok .brk, hr => exact hr.elim
  | .ok .cont, hr => exact hr.elim
  | .ok (.ret u), hr =>
    obtain ⟨rfl, rfl⟩ := hr
    have at0 : (s.heap.push (newSetO w)).get? s.heap.objs.size = some (newSetO w) := Heap.get?_push_size _ rfl
    have ty0 : Shared.TypeIs { s with heap := s.heap.push (newSetO w) } (.ref s.heap.objs.size) "set" := ⟨_, at0, rfl⟩
    have f6 := F.called_set.init.lookup
    have f7 := F.called_set.init.bind (.ref s.heap.objs.size)
    repeat (any_goals (first | assumption | wp_step))
    refine codeAny_mono (codeAny_call_builtin (R := wants (fun v s₂ => v = .none ∧ ∃ h' tk c, s₂ = { s with heap := h', toks := tk } ∧ SetR w h' s.heap.objs.size (fun j => decide (j ∈ ns)) c ∧ c ≤ ns.length ∧ (∀ b o, s.heap.get? b = some o → h'.get? b = some o)) E) F.called_set.init.plain F.entry_set_init (check_set_init_1 ty0 ?_)) fun r₂ s₂ hr₂ => ?_
    · obtain ⟨⟨kc, kd, kt, ks⟩, lo, lc, ln, ld⟩ := hl
      dsimp only at lc ld
      subst lc ld
      have lo1 : (s.heap.push (newSetO w)).get? l = some { cls := .type "list", dict := kd, data := .seq its ln, slots := ks } := Heap.get?_push_of_some _ lo
      have g1 := F.sub_list_set
      have g2 := F.sub_list_frozenset
      have g3 : (Value.type "list" == Value.type "dict") = false := by decide
      have isl : (s.heap.push (newSetO w)).IsList l its := ⟨_, lo1, rfl, ln, rfl⟩
      unfold Builtin.«set.__init__» noKeywords Builtin.Frozenset.updateFrom
      generalize hIter : pyIter = PI
      wp_walk
      subst hIter
      refine wpAny_pyIter_list isl ?_
      refine wpAny_bind (wpAny_runValue ?_)
      have lsm : l < s.heap.objs.size := Heap.lt_size lo
      have q3 : A.in1.in1.in1.handled = none := by simp [quiet]
      have sz1 : (s.heap.push (newSetO w)).objs.size = s.heap.objs.size + 1 := Heap.size_push ..
      have apart : l ≠ (s.heap.push (newSetO w)).objs.size := by rw [sz1]; exact Nat.ne_of_lt (Nat.lt_succ_of_lt lsm)
      have outside : s.heap.objs.size ∉ [(s.heap.push (newSetO w)).objs.size, l] := by
        rw [sz1]
        intro hm
        rcases List.mem_cons.mp hm with e | hm
        · exact absurd e (Nat.ne_of_lt (Nat.lt_succ_self _))
        · exact absurd (List.mem_singleton.mp hm) (Nat.ne_of_gt lsm)
      have vals : ∀ (i : Nat) (v : Value), its[i]? = some v → ∃ k t, ns[i]? = some k ∧ v = .int k t := fun i v hv => by
        have hi : i < ns.length := by rw [← size_eq]; exact (Array.getElem?_eq_some_iff.mp hv).1
        obtain ⟨t, e⟩ := PyProof.Rows.IntsAre.int_at hit i v (by rw [Array.getElem?_toList]; exact hv)
        exact ⟨ns[i], t, List.getElem?_eq_getElem hi, by rw [e, List.getD_eq_getElem?_getD, List.getElem?_eq_getElem hi]; rfl⟩
      refine set_update_ints ((Walks.list q3 _ l apart its).toS) s.heap.objs.size outside ns size_eq small vals (its.size - 0) 0 _ (by omega) (Nat.zero_le _) ⟨⟨_, Heap.get?_push_size _ rfl, rfl, rfl⟩, isl.push _⟩ ⟨0, Nat.le_refl 0, setR_new_at (Heap.get?_push_of_some _ at0)⟩ ?_
      intro s' c' mv hc' hS'
      obtain ⟨h', gs, dr, tk', os'⟩ := s'
      have e1 : gs = s.gens := mv.gens
      have e2 : dr = s.drawn := mv.drawn
      have e3 : os' = s.os := mv.os
      subst e1 e2 e3
      show wpAny _ _ _ _ _ _
      refine wpAny_pure ?_
      show wpAny _ _ (ret Value.none) _ _ _
      refine wpAny_pure ⟨rfl, h', tk', c', rfl, hS', by omega, fun b o e => ?_⟩
      have b0 : b < s.heap.objs.size := Heap.lt_size e
      refine mv.heap b o (fun hm => ?_) (Heap.get?_push_of_some _ (Heap.get?_push_of_some _ e))
      rcases List.mem_cons.mp hm with z | hm
      · exact absurd z (Nat.ne_of_lt b0)
      · have z := List.mem_singleton.mp hm
        rw [sz1] at z; exact absurd z (Nat.ne_of_lt (Nat.lt_succ_of_lt b0))
    · match r₂, hr₂ with
      | .error _, hr₂ => exact hr₂
      | .ok .next, hr₂ => exact hr₂.elim
      | .ok .brk, hr₂ => exact hr₂.elim
      | .ok .cont, hr₂ => exact hr₂.elim
      | .ok (.ret v), hr₂ =>
        obtain ⟨rfl, h', tk, c', rfl, hS', hc', hk'⟩ := hr₂
        repeat (any_goals (first | assumption | wp_step))
        exact done _ _ _ hS' hc' hk'
end
end VL

/-! VM10: t[::-1] of a tuple. -/
namespace VL
open PySem PySem.Spec PyProof.Rows L2
section
variable {prog : Program} {w : World} {A : Around} {E : Value → Shared → Prop} {s : Shared}
theorem places_back (n : Nat) : Builtin.Slice.slicePlaces ((n : Int) - 1) (-1) (-1) = n := by
  unfold Builtin.Slice.slicePlaces
  rw [if_neg (by omega)]
  by_cases h : (n : Int) - 1 > -1
  · rw [if_pos h, show -(-1 : Int) = 1 by omega, Int.ediv_one]; omega
  · rw [if_neg h]; omega
theorem applied_back {sl : Addr} {a b c : Value} {n : Nat} {Q : Int × Int × Nat → Shared → Prop} (hs : s.heap.IsSliceOf sl a b c) (pa : IsPart a none) (pb : IsPart b none) (pc : IsPart c (some (-1))) (h : Q ((n : Int) - 1, -1, n) s) : wpAny (model prog w) A (Builtin.Slice.sliceApplied (.ref sl) (pure (n : Int))) Q E s := by
  obtain ⟨o, g, _, f⟩ := id hs
  unfold Builtin.Slice.sliceApplied Builtin.Slice.sliceFields
  refine wpAny_bind (wpAny_bind (wpAny_field g f (x := a) rfl (wpAny_bind (wpAny_field g f (x := b) rfl (wpAny_bind (wpAny_field g f (x := c) rfl (wpAny_pure ?_)))))))
  refine wpAny_bind (HT.slicePart_ pc ?_)
  show wpAny _ _ (if ((-1 : Int) == 0) = true then _ else _) _ _ s
  rw [if_neg (show ¬ (((-1 : Int) == 0) = true) by decide)]
  refine wpAny_bind (HT.slicePart_ pa (wpAny_bind (HT.slicePart_ pb (wpAny_bind (wpAny_pure ?_)))))
  show wpAny _ _ (match Builtin.Slice.sliceAdjust none none (-1) (n : Int) with | (x, y) => pure (x, (-1 : Int), Builtin.Slice.slicePlaces x y (-1))) _ _ s
  have e : Builtin.Slice.sliceAdjust none none (-1) (n : Int) = ((n : Int) - 1, -1) := rfl
  rw [e]
  refine wpAny_pure ?_
  rw [places_back]; exact h
theorem pick_back (xs : Array Value) : ((List.range xs.size).filterMap fun (k : Nat) => xs[((xs.size : Int) - 1 + (k : Int) * (-1)).toNat]?) = xs.toList.reverse := by
  have e : ((List.range xs.size).filterMap fun (k : Nat) => xs[((xs.size : Int) - 1 + (k : Int) * (-1)).toNat]?) = ((List.range xs.size).map fun k => xs.size - 1 - k).filterMap (xs[·]?) := by
    rw [List.filterMap_map]
    have go : ∀ l : List Nat, (∀ k ∈ l, k < xs.size) → (l.filterMap fun (k : Nat) => xs[((xs.size : Int) - 1 + (k : Int) * (-1)).toNat]?) = l.filterMap ((xs[·]?) ∘ fun k => xs.size - 1 - k) := by
      intro l
      induction l with
      | nil => intro _; rfl
      | cons k l ih =>
        intro hk
        have h1 := hk k List.mem_cons_self
        rw [List.filterMap_cons, List.filterMap_cons, ih fun j hj => hk j (List.mem_cons_of_mem _ hj)]
        have e1 : ((xs.size : Int) - 1 + (k : Int) * (-1)).toNat = xs.size - 1 - k := by omega
        rw [e1]; rfl
    exact go _ fun k hk => List.mem_range.mp hk
  rw [e, PySem.W.krv_range, List.filterMap_reverse, PySem.W.krv_all]
theorem tuple_back {t sl : Addr} {xs : Array Value} {a b c : Value} {Q : Value → Shared → Prop} (ht : IsTup s.heap t xs) (hs : s.heap.IsSliceOf sl a b c) (pa : IsPart a none) (pb : IsPart b none) (pc : IsPart c (some (-1)))
    (h : Q (.ref s.heap.objs.size) { s with heap := s.heap.push { cls := .type "tuple", data := .seq xs.toList.reverse.toArray } }) (hz : xs.size ≤ sizeLine) : wpAny (model prog w) A (getItem (.ref t) (.ref sl)) Q E s := by
  have fits : sizeOk (.seq xs.toList.reverse.toArray) := by show xs.toList.reverse.toArray.size ≤ sizeLine; rw [List.size_toArray, List.length_reverse, Array.length_toList]; exact hz
  obtain ⟨o, g, k, _⟩ := id hs
  have ty : s.TypeIs (.ref sl) "slice" := ⟨o, g, k⟩
  unfold getItem; try with_reducible refine wpAny_holding ?_
  (first | refine wpAny_bind (wpAny_pure ?_) | skip); refine wpAny_bind (wpAny_sequenceKey ht.typeIs (by decide) ?_)
  refine wpAny_bind (wpAny_callSpecial?_slot (name := Str.ofString "__getitem__") ht.typeIs PyProof.Rows.slot_tuple_getitem (wpAny_call_entry PyProof.Rows.slot_tuple_getitem ht.typeIs entry_tuple_getitem ?_ (args_tuple_getitem _ _)))
  show wpAny _ _ (Builtin.Tuple.tupleItemsOf (Value.ref t) >>= _) _ _ s
  refine wpAny_bind (tupleItemsOf_ ht (wpAny_bind (wpAny_typeOf ty ?_)))
  rw [if_pos (show _ = true by decide)]
  refine wpAny_bind (applied_back hs pa pb pc ?_)
  show wpAny _ _ (if (((xs.size : Int) - 1 == 0 && (-1 : Int) == 1 && xs.size == xs.size)) = true then _ else _) _ _ s
  rw [if_neg (by simp), pick_back]
  first
    | exact wpAny_bind (wpAny_bind (m := Builtin.Tuple.tupleExact _) (wpAny_newObj_type (wpAny_pure (wpAny_pure ⟨_, rfl, wpAny_pure h⟩)) fits))
    | (refine wpAny_bind (m := Builtin.Tuple.tupleExact _) (wpAny_newObj_type (wpAny_pure ⟨_, rfl, ?_⟩) fits); exact wpAny_pure h)
    | (refine wpAny_bind (m := Builtin.Tuple.tupleExact _) (wpAny_newObj_type (wpAny_bind (wpAny_pure (wpAny_pure ⟨_, rfl, ?_⟩))) fits); exact wpAny_pure h)
    | (refine wpAny_bind (wpAny_bind (m := Builtin.Tuple.tupleExact _) (wpAny_newObj_type (wpAny_pure ⟨_, rfl, ?_⟩) fits)); exact wpAny_pure h)
end
end VL

/-! VM11: the rules that a derivation names; fields, slices, further calls. -/
namespace VL
open PySem PySem.Spec PyProof.Rows L2
open M (ret bnd nope grd exn opt drw)
theorem bt_len : bootBuiltins "len" = some (.builtin "len") := by decide +kernel
theorem bt_sum : bootBuiltins "sum" = some (.builtin "sum") := by decide +kernel
theorem bt_any : bootBuiltins "any" = some (.builtin "any") := by decide +kernel
theorem bt_all : bootBuiltins "all" = some (.builtin "all") := by decide +kernel
theorem bt_abs : bootBuiltins "abs" = some (.builtin "abs") := by decide +kernel
theorem bt_isinstance : bootBuiltins "isinstance" = some (.builtin "isinstance") := by decide +kernel
theorem bt_max : bootBuiltins "max" = some (.builtin "max") := by decide +kernel
theorem bt_min : bootBuiltins "min" = some (.builtin "min") := by decide +kernel
theorem bt_sorted : bootBuiltins "sorted" = some (.builtin "sorted") := by decide +kernel
theorem bt_int : bootBuiltins "int" = some (.type "int") := by decide +kernel
theorem bt_list : bootBuiltins "list" = some (.type "list") := by decide +kernel
theorem bt_tuple : bootBuiltins "tuple" = some (.type "tuple") := by decide +kernel
theorem bt_str : bootBuiltins "str" = some (.type "str") := by decide +kernel
theorem bt_bool : bootBuiltins "bool" = some (.type "bool") := by decide +kernel
theorem bt_range : bootBuiltins "range" = some (.type "range") := by decide +kernel
theorem bt_ValueError : bootBuiltins "ValueError" = some (.type "ValueError") := by decide +kernel
theorem bt_set : bootBuiltins "set" = some (.type "set") := by decide +kernel
theorem bt_dict : bootBuiltins "dict" = some (.type "dict") := by decide +kernel
/-- no name of a built-in is taken by the module -/
structure Bt (mg : Str → Option Value) : Prop where
  b_len : mg "len" = none
  b_range : mg "range" = none
  b_sum : mg "sum" = none
  b_any : mg "any" = none
  b_all : mg "all" = none
  b_abs : mg "abs" = none
  b_int : mg "int" = none
  b_isinstance : mg "isinstance" = none
  b_list : mg "list" = none
  b_tuple : mg "tuple" = none
  b_sorted : mg "sorted" = none
  b_enumerate : mg "enumerate" = none
  b_max : mg "max" = none
  b_min : mg "min" = none
  b_str : mg "str" = none
  b_set : mg "set" = none
  b_zip : mg "zip" = none
  b_reversed : mg "reversed" = none
  b_dict : mg "dict" = none
  b_bool : mg "bool" = none
  b_ValueError : mg "ValueError" = none
  b_iter : mg "iter" = none
  b_type : mg "type" = none
  b_NotImplemented : mg "NotImplemented" = none

def tRevT (K : Fr) (te : TE) : TE := fun σ H Q => te σ H fun x H1 => ∃ a xs, x = V.ref a ∧ SqT K H1 a xs ∧ ∀ p, H1 p = none → Q (.ref p) (upd H1 p (.tup xs.reverse))
theorem pe_revT {X : Cx} {e : Expr} {te : TE} {k : Nat} {p1 p2 p3 pos : Pos} (he : PE X e te) : PE X (.Subscript e (.Slice none none (some (.UnaryOp .USub (.Constant (.int 1) k p1) p2)) p3) pos) (tRevT X.K te) := by
  refine ⟨fun pins s σ H Q I h => Subscript_ (thn (he.run pins s σ H _ I h) fun v s1 ⟨x, H1, I1, r1, a, xs, ex, hx, q⟩ => ?_)⟩
  subst ex; cases r1
  have back : PO X (some (.UnaryOp .USub (.Constant (.int 1) k p1) p2)) (tPart (tUn (rU fun i => .int (-i)) (tC (.int 1)))) := po_some (pe_un un_neg pe_int)
  refine wpAny_Slice (thn (po_none.run pins s1 σ H1 (fun o H2 => o = none ∧ H2 = H1) I1 ⟨rfl, rfl⟩) fun va s2 ⟨o1, H2, I2, pa, e1, e2⟩ => ?_)
  subst e1 e2; refine thn (po_none.run pins s2 σ H2 (fun o H3 => o = none ∧ H3 = H2) I2 ⟨rfl, rfl⟩) fun vb s3 ⟨o2, H3, I3, pb, e1, e2⟩ => ?_
  subst e1 e2; refine thn (back.run pins s3 σ H3 (fun o H4 => o = some (-1) ∧ H4 = H3) I3 ⟨1, rfl, -1, rfl, rfl, rfl⟩) fun vc s4 ⟨o3, H4, I4, pc, e1, e2⟩ => ?_
  subst e1 e2
  have J : Inv X pins σ H4 { s4 with heap := s4.heap.push { cls := .type "slice", data := .fields #[va, vb, vc] } } := I4.kept (t' := s4.toks) fun b ob z => Heap.get?_push_of_some _ z
  obtain ⟨its, r, ht, hz⟩ := J.tuple hx
  have len := r.length
  show wpAny (model X.prog X.w) X.A (subscriptTail e (.Slice none none (some (.UnaryOp .USub (.Constant (.int 1) k p1) p2)) p3) (Value.ref a) (Value.ref s4.heap.objs.size)) (EP X pins σ Q) X.xe { s4 with heap := s4.heap.push { cls := .type "slice", data := .fields #[va, vb, vc] } }
  refine tail_any (ops := [Value.ref a, Value.ref s4.heap.objs.size]) ht.typeIs (PyProof.Rows.slot_tuple_getitem.lookup) ?_ (by with_unfolding_all rfl)
  refine tuple_back ht (Heap.IsSliceOf.new _ va vb vc) pa pb pc ?_ (by rw [List.size_toArray]; omega)
  refine ⟨.ref _, _, J.laid (t' := s4.toks) (o := .tup xs.reverse) (fun b ob z => Heap.get?_push_of_some _ z) (Nat.le_refl _) ⟨by rw [List.length_reverse]; exact hz, _, r.reverse, IsTup.new _ _⟩, rfl, q _ (J.hok.fresh (Nat.le_refl _))⟩

def eOr (t1 t2 : TE) : TE := fun σ H Q => t1 σ H Q ∨ t2 σ H Q
theorem pe_or2 {X : Cx} {e : Expr} {t1 t2 : TE} (h1 : PE X e t1) (h2 : PE X e t2) : PE X e (eOr t1 t2) :=
  ⟨fun pins s σ H Q I h => h.elim (fun z => h1.run pins s σ H Q I z) fun z => h2.run pins s σ H Q I z⟩
theorem u65 {k : Nat} {A : Around} (r : Room k A) : A.units + 65 < cLine := by have := r.un; omega
theorem u1 {k : Nat} {A : Around} (r : Room k A) : A.units + 1 < cLine := by have := r.un; omega
section
variable [Tbl] {X : Cx} {K : Fr}
theorem ix_UK (hK : X.K = K) (hu : X.A.units + 1 < cLine) : IxR X (rIxU K) := hK ▸ ix_U hu
theorem sl_UK (hK : X.K = K) : L2.SlR X (rSlU K) := hK ▸ (sl_list.or sl_tup).or C8.sl_txt
theorem op_addUK (hK : X.K = K) : OpR X (binaryOp .Add) (rAddU K) := hK ▸ op_addU
theorem op_eqUK (hK : X.K = K) (hu : X.A.units + 64 < cLine) : OpR X (compareOp .Eq) (rEqU K) := hK ▸ op_eqU hu
theorem op_neUK (hK : X.K = K) (hu : X.A.units + 64 < cLine) : OpR X (compareOp .NotEq) (rNeU K) := hK ▸ op_neU hu
theorem op_inUK (hK : X.K = K) (hu : X.A.units + 65 < cLine) : OpR X (compareOp .In) (rInU K false) := hK ▸ op_inU hu
theorem op_niUK (hK : X.K = K) (hu : X.A.units + 65 < cLine) : OpR X (compareOp .NotIn) (rInU K true) := hK ▸ op_niU hu
theorem cl_lenK (hK : X.K = K) : CallR X (.builtin "len") (rcLen K) := hK ▸ cl_len
theorem cl_listK (hK : X.K = K) : CallR X (.type "list") (rcList K) := hK ▸ cl_list
theorem cl_tupK (hK : X.K = K) : CallR X (.type "tuple") (rcTup K) := hK ▸ cl_tup
theorem cr_sumK (hK : X.K = K) (hc : X.calm = true) : CallR X (.builtin "sum") (rSum K) := hK ▸ cr_sum hc
theorem cr_anyK (hK : X.K = K) (hc : X.calm = true) : CallR X (.builtin "any") (rAny K) := hK ▸ cr_any hc
theorem cr_allK (hK : X.K = K) (hc : X.calm = true) : CallR X (.builtin "all") (rAll K) := hK ▸ cr_all hc
theorem cr_maxK (hK : X.K = K) (hc : X.calm = true) : CallR X (.builtin "max") (rMax K) := hK ▸ cr_max hc
theorem cr_minK (hK : X.K = K) (hc : X.calm = true) : CallR X (.builtin "min") (rMin K) := hK ▸ cr_min hc
theorem cr_sortedUK (hK : X.K = K) (hu : X.A.units + 64 < cLine) : CallR X (.builtin "sorted") (rSortedU K) := hK ▸ cr_sortedU hu
theorem cl_isiK (hK : X.K = K) : CallR X (.builtin "isinstance") (rIsi K) := hK ▸ call_isi
theorem get_listK (hK : X.K = K) : PGet X (rGetL K) := hK ▸ get_list
theorem pe_fldK (hK : X.K = K) {e : Expr} {te : TE} {fld : Str} {pos : Pos} (he : PE X e te) (hb : attributeBase e fld X.env (eval e X.env) = eval e X.env) : PE X (.Attribute e fld pos) (tFld K te fld) := hK ▸ pe_fld he hb
theorem pi_seqK (hK : X.K = K) {tg l : Expr} {tl : TE} (h : PE X l tl) : PI X tg l (iSeq K tl) := hK ▸ pi_seq h
theorem pi_enumK (hK : X.K = K) {e : Expr} {ta : TA} {p pos tpos : Pos} {elts : List Expr} {kk : Nat} (hg : Gl X "enumerate") (hm : X.mg "enumerate" = none) (ha : PA X [e] ta) (hs : starEach [e] X.env = [(false, eval e X.env)] := by rfl) :
    PI X (.Tuple elts kk tpos) (.Call (.Name "enumerate" p) [e] [] pos) (iEnumU K ta) := hK ▸ pi_enumU hg hm ha hs
theorem pg_tupK (hK : X.K = K) {es : List Expr} {k : Nat} {t : TGs} {n : Nat} {pos : Pos} (hc : X.calm = true) (h : PGs X es t)
    (hn : (assignEach es X.env).length = n := by rfl) (hst : (assignEach es X.env).findIdx? (·.1) = none := by rfl) : PG X (.Tuple es k pos) (gTup K n t) := hK ▸ pg_tup hc h hn hst
theorem pe_revUK (hK : X.K = K) {e : Expr} {te : TE} {k : Nat} {p1 p2 p3 pos : Pos} (he : PE X e te) : PE X (.Subscript e (.Slice none none (some (.UnaryOp .USub (.Constant (.int 1) k p1) p2)) p3) pos) (eOr (tRevL K te) (tRevT K te)) := hK ▸ pe_or2 (pe_revL he) (pe_revT he)
theorem pa_starK (hK : X.K = K) {e : Expr} {es : List Expr} {te : TE} {t : TA} {p : Pos} (he : PE X e te) (hr : PA X es t) (hs : starEach (.Starred e p :: es) X.env = (true, eval e X.env) :: starEach es X.env := by rfl) : PA X (.Starred e p :: es) (StX.tStar K te t) := hK ▸ StX.pa_star he hr hs
theorem pi_revK (hK : X.K = K) {tg e : Expr} {te : TE} {p pos : Pos} (hg : Gl X "reversed") (hm : X.mg "reversed" = none) (he : PE X e te) (hs : starEach [e] X.env = (false, eval e X.env) :: starEach [] X.env := by rfl) : PI X tg (.Call (.Name "reversed" p) [e] [] pos) (RT.iRevA K te) := hK ▸ RT.pi_revA hg hm he hs
theorem pi_zipK (hK : X.K = K) {e e2 : Expr} {ta : TA} {p pos tpos : Pos} {elts : List Expr} {kk : Nat} (hg : Gl X "zip") (hm : X.mg "zip" = none) (ha : PA X [e, e2] ta)
    (hs : starEach [e, e2] X.env = (false, eval e X.env) :: starEach [e2] X.env := by rfl) (hpl : (backTo pos (starEach [e2] X.env)).any (·.1) = false := by rfl) :
    PI X (.Tuple elts kk tpos) (.Call (.Name "zip" p) [e, e2] [] pos) (RZ.iZipA K ta) := hK ▸ RZ.pi_zipA hg hm ha hs hpl
def rSetL' (K : Fr) (w : World) : List V → Hp → VK → Prop := fun xs H Q => ∃ (l : Addr) (ns : List Int), xs = [V.ref l] ∧ SqL K H l (ns.map V.int) ∧ ns.length < 64 ∧ ∀ p c, H p = none → c ≤ ns.length → Q (.ref p) (upd H p (SetO w p (fun j => decide (j ∈ ns)) c))
theorem cr_setLK {w : World} (hK : X.K = K) (hw : X.w = w) (hc : X.calm = true) : CallR X (.type "set") (rSetL' K w) := by
  subst hK hw
  intro pins s σ H xs us Q I r h
  obtain ⟨l, ns, rfl, hs, h64, q⟩ := h
  obtain ⟨its, rv, hl, hz⟩ := I.list hs
  rw [Vals.ref1 r]
  refine set_of_list ns (I.ok.hd hc) hl.isList (by simpa using rv.ints) (by unfold scanBound; omega) fun h' tk c R hcn kp => ?_
  have hn : H s.heap.objs.size = none := I.hok.fresh (Nat.le_refl _)
  exact ⟨.ref _, upd H s.heap.objs.size (SetO X.w s.heap.objs.size (fun j => decide (j ∈ ns)) c), I.laid (t' := tk) kp (Nat.le_refl _) (setO_new R), rfl, q _ c hn hcn⟩
theorem cr_sortedSetK {w : World} (hw : X.w = w) (hc : X.calm = true) : CallR X (.builtin "sorted") (rSortedSet w) := hw ▸ cr_sortedSet hc
end
/-- ascending, each once -/
def sortSet (ns : List Int) : List Int := sortInts ns.eraseDups
section
variable [Tbl]
theorem lt_uniq {xs ys : List Int} (h1 : xs.Pairwise (· < ·)) (h2 : ys.Pairwise (· < ·)) (h : ∀ k, k ∈ xs ↔ k ∈ ys) : xs = ys := by
  have n1 : xs.Nodup := h1.imp fun {a b} h e => by omega
  have n2 : ys.Nodup := h2.imp fun {a b} h e => by omega
  exact sorted_uniq ((List.perm_ext_iff_of_nodup n1 n2).mpr h) (h1.imp fun {a b} h => by omega) (h2.imp fun {a b} h => by omega)
theorem nodup_dedup : ∀ (n : Nat) (xs : List Int), xs.length ≤ n → xs.eraseDups.Nodup
  | _, [], _ => by simp
  | 0, x :: xs, h => by simp at h
  | n + 1, x :: xs, h => by
    rw [List.eraseDups_cons, List.nodup_cons]
    refine ⟨fun hm => ?_, nodup_dedup n _ (by have := List.length_filter_le (fun b => !b == x) xs; simp at h; omega)⟩
    rw [List.mem_eraseDups, List.mem_filter] at hm
    simp at hm
theorem mem_sortSet {ns : List Int} {k : Int} : k ∈ sortSet ns ↔ k ∈ ns := by
  unfold sortSet
  rw [(sortInts_perm _).mem_iff, List.mem_eraseDups]
theorem sortSet_lt (ns : List Int) : (sortSet ns).Pairwise (· < ·) := by
  have h1 := sortInts_sorted ns.eraseDups
  have h2 : (sortInts ns.eraseDups).Nodup := (sortInts_perm _).nodup_iff.mpr (nodup_dedup _ ns (Nat.le_refl _))
  unfold sortSet
  exact (h1.and h2).imp fun {a b} h => by have := h.1; have := h.2; omega
end
section
variable [Tbl] {K : Fr} {EE : XK} {f f1 : Bool} {Hb : Hp} {ve : VE} {σ : L2.St} {G G' H H' : Hp} {Ξ : Exn → Prop} {d : D} {v : V} {ds : List D} {vs : List V} {te ta tl : TE} {ma mb mc : VE → M D} {tr : TA} {mr : VE → M (List D)}
def sortSetD : D → Option D
  | .lst ds => match intsOf ds with
    | some ns => if ns.length < 64 then some (blockD (sortSet ns)) else none
    | none => none
  | _ => none
theorem sortSetD_ints {ns : List Int} (h : ns.length < 64) : sortSetD (.lst (ns.map D.int)) = some (blockD (sortSet ns)) := by unfold sortSetD; simp [h]
/-- sorted(set(whole numbers)) -/
theorem xe_sortSet {w : World} (h : XE K EE false te ma) : XE K EE f (tCB (rSortedSet w) (tCons (tCB (rSetL' K w) (tCons te tNil)) tNil)) (m1 sortSetD ma) := fun Hb ve σ G H Φ Ξ c m Q q =>
  h Hb ve σ G H _ Ξ c m _ fun a x G1 H1 p1 g1 rv => by
    obtain ⟨z, e, p1⟩ := M.opt_inv p1
    unfold sortSetD at e
    split at e
    · split at e
      · rename_i ns hi
        split at e
        · rename_i hl
          cases e
          rw [intsOf_inv hi] at rv
          obtain ⟨p, us, rfl, _, hp, ru⟩ := rv.lst_inv
          have hu := ru.ints
          subst hu
          refine ⟨p, ns, rfl, SqL.of (g1.sub _ _ hp), hl, fun s c' hs hc => ?_⟩
          refine ⟨s, _, c', rfl, upd_same, by omega, fun zs m hz hm _ hn => ?_⟩
          have ez : zs = sortSet ns := lt_uniq hz (sortSet_lt ns) fun k => by rw [hm, mem_sortSet, decide_eq_true_iff]
          subst ez
          have g2 : Grow G1 H1 G1 (upd H1 s (SetO w s (fun j => decide (j ∈ ns)) c')) := Grow.hid g1.sub hs
          have g3 := Grow.laid (o := .lst ((sortSet ns).map V.int)) g2.sub hn
          exact q _ (.ref m) _ _ p1 ((g1.trans g2).trans g3) (.lst (frh_new (c.grow (g1.trans g2)).b hn) upd_same (RepA.ofInts _))
        · cases e
      · cases e
    · cases e
/-! fields -/
structure FldOk (K : Fr) (C : Addr) (fld : Str) : Prop where
  cl : Cls K C
  na : NoAttr K C fld
theorem look_fld {fr : Option Hp} {G : Hp} {fld : Str} : ∀ {ns : List Str} {ds : List D} {fs : List (Str × V)} {d : D}, fs.map (·.1) = ns → RepA K fr G ds (fs.map (·.2)) → (ns.zip ds).lookup fld = some d → ∃ v, fs.lookup fld = some v ∧ Rep K fr G d v := by
  intro ns
  induction ns with
  | nil => intro ds fs d _ _ h; simp at h
  | cons n ns ih =>
    intro ds fs d hn hr h
    cases fs with
    | nil => simp at hn
    | cons p fs =>
      obtain ⟨m, v⟩ := p
      simp only [List.map_cons, List.cons.injEq] at hn
      obtain ⟨rfl, hn⟩ := hn
      cases ds with
      | nil => simp at h
      | cons d0 ds =>
        simp only [List.map_cons] at hr
        cases hr with
        | cons h1 t1 =>
          rw [List.zip_cons_cons, List.lookup_cons] at h
          rw [List.lookup_cons]
          cases q : (fld == m) with
          | true => rw [q] at h; cases h; exact ⟨v, rfl, h1⟩
          | false => rw [q] at h; exact ih hn t1 h
def fldD (cs : List Addr) (fld : Str) : D → Option D
  | .ins C ns ds => if C ∈ cs then (ns.zip ds).lookup fld else none
  | _ => none
theorem fldD_ins {cs : List Addr} {fld : Str} {C : Addr} (ns : List Str) (ds : List D) (h : C ∈ cs) : fldD cs fld (.ins C ns ds) = (ns.zip ds).lookup fld := if_pos h
def mFld (cs : List Addr) (fld : Str) (ma : VE → M D) : VE → M D := fun ve => bnd (ma ve) fun a => opt (fldD cs fld a)
theorem det_fld {cs : List Addr} {fld : Str} (ha : Det ma) : Det (mFld cs fld ma) := fun ve => by
  obtain ⟨x, hx⟩ := ha ve
  refine ⟨x.bind fun a => fldD cs fld a, ?_⟩
  unfold mFld
  rw [hx]
  cases x <;> rfl
theorem xe_fld {cs : List Addr} {fld : Str} (hc : ∀ C ∈ cs, FldOk K C fld) (h : XE K EE f te ma) : XE K EE f (tFld K te fld) (mFld cs fld ma) := fun Hb ve σ G H Φ Ξ c m Q q =>
  h Hb ve σ G H _ Ξ c m _ fun a x G1 H1 p1 g1 rv => by
    obtain ⟨z, e, p2⟩ := M.opt_inv p1
    unfold fldD at e
    split at e
    · split at e
      · rename_i C ns ds hC
        generalize hz : D.ins C ns ds = dd at rv
        cases rv with
        | ins hp hn hr =>
          cases hz
          obtain ⟨w, hw, rw'⟩ := look_fld hn hr e
          exact ⟨_, C, _, _, w, rfl, g1.sub _ _ hp, (hc C hC).cl, (hc C hC).na, hw, q z w G1 H1 p2 g1 rw'⟩
        | _ => cases hz
      · cases e
    · cases e
/-! parts of lists, tuples, texts -/
def slD (lo hi : Option Int) : D → Option D
  | .lst ds => some (.lst (cutD ds lo hi))
  | .tup ds => if HT.sIx ds.length 0 lo = 0 ∧ HT.sIx ds.length ds.length hi = ds.length then none else some (.tup (cutD ds lo hi))
  | .str z => if z.length ≤ 100000 then some (.str (Txt.slice z lo hi)) else none
  | _ => none
@[simp] theorem slD_lst (lo hi : Option Int) (ds : List D) : slD lo hi (.lst ds) = some (.lst (cutD ds lo hi)) := id rfl
def mSl (ma : VE → M D) (ml mh : VE → M (Option Int)) : VE → M D := fun ve => bnd (ma ve) fun a => bnd (ml ve) fun lo => bnd (mh ve) fun hi => opt (slD lo hi a)
theorem xe_sl {tl th : TO} {ml mh : VE → M (Option Int)} (h : XE K EE f te ma) (hl : XO K EE tl ml) (hh : XO K EE th mh) : XE K EE f (tSl (rSlU K) te tl th) (mSl ma ml mh) := fun Hb ve σ G H Φ Ξ c m Q q =>
  h Hb ve σ G H _ Ξ c m _ fun a x G1 H1 p1 g1 r1 => hl Hb ve σ G1 H1 _ Ξ (c.grow g1) p1 _ fun lo G2 H2 p2 g2 => hh Hb ve σ G2 H2 _ Ξ ((c.grow g1).grow g2) p2 _ fun hi G3 H3 p3 g3 => by
    obtain ⟨z, e, p3⟩ := M.opt_inv p3
    have g := (g1.trans g2).trans g3
    have c3 := c.grow g
    unfold slD at e
    split at e
    · cases e
      obtain ⟨p, vs, rfl, _, hp, rs⟩ := r1.lst_inv
      refine .inl (.inl ⟨p, vs, rfl, SqL.of (g3.sub _ _ (g3.e _ _ (g2.e _ _ hp))), fun n hn => ?_⟩)
      have gl := Grow.laid (o := .lst (cutV vs lo hi)) g.sub hn
      exact q _ (.ref n) _ _ p3 (g.trans gl) (.lst (frh_new c3.b hn) upd_same (((rs.mono (g2.e.trans g3.e)).cut lo hi).mono gl.e))
    · split at e
      · cases e
      · rename_i hne
        cases e
        obtain ⟨p, vs, rfl, hp, rs⟩ := r1.tup_inv
        refine .inl (.inr ⟨p, vs, rfl, ex_t g3.sub (ex_t (g2.e.trans g3.e) hp), by rw [← rs.length]; exact hne, fun n hn => ?_⟩)
        have gl := Grow.laid (o := .tup (cutV vs lo hi)) g.sub hn
        exact q _ (.ref n) _ _ p3 (g.trans gl) (.tup (SqT.of upd_same) (((rs.mono (g2.e.trans g3.e)).cut lo hi).mono gl.e))
    · split at e
      · rename_i hz; cases e
        cases r1
        exact .inr ⟨_, rfl, Evl.sz_of hz, q _ _ G3 H3 p3 g (.str _)⟩
      · cases e
    · cases e
/-- script[lo:hi]: some whole numbers -/
def lCutScr (ma : VE → M D) (ml mh : VE → M (Option Int)) : VE → M (List D) := fun ve => bnd (ma ve) fun a => bnd (ml ve) fun lo => bnd (mh ve) fun hi => match a with
  | .scr => fun Φ _ => ∀ ns : List Int, ns.length ≤ 63 → Φ (ns.map D.int)
  | _ => nope
theorem xl_cutScr {tl th : TO} {ml mh : VE → M (Option Int)} (h : XE K EE false te ma) (hl : XO K EE tl ml) (hh : XO K EE th mh) : XL K EE f (tSl (rSlU K) te tl th) (lCutScr ma ml mh) := fun Hb ve σ G H Φ Ξ c m Q q =>
  h Hb ve σ G H _ Ξ c m _ fun a x G1 H1 p1 g1 r1 => hl Hb ve σ G1 H1 _ Ξ (c.grow g1) p1 _ fun lo G2 H2 p2 g2 => hh Hb ve σ G2 H2 _ Ξ ((c.grow g1).grow g2) p2 _ fun hi G3 H3 p3 g3 => by
    cases r1 with
    | @scr p ns _ hs hl63 =>
      have g := (g1.trans g2).trans g3
      refine .inl (.inl ⟨p, _, rfl, ex_l (g2.e.trans g3.e |>.trans g3.sub) hs, fun n hn => ?_⟩)
      have ec : cutV (ns.map V.int) lo hi = (cutD ns lo hi).map V.int := by
        unfold cutV cutD
        rw [List.length_map, ← List.map_drop, ← List.map_take]
      rw [ec]
      refine q _ n _ G3 _ (p3 (cutD ns lo hi) ?_) (g.trans (Grow.hid g.sub hn)) (g.free hn) (fresh_back g.sub hn) upd_same (RepA.ofInts _)
      unfold cutD
      rw [List.length_take, List.length_drop]; omega
    | _ => exact p3.elim
/-! list(range), tuple(range) -/
def rgl (o : List D → D) : List D → Option D
  | [.int n] => if -100000 ≤ n ∧ n ≤ 100000 then some (o ((rng 0 n.toNat).map D.int)) else none
  | _ => none
theorem rgl_eq {o : List D → D} {n : Int} (h : -100000 ≤ n ∧ n ≤ 100000) : rgl o [.int n] = some (o ((rng 0 n.toNat).map D.int)) := if_pos h
theorem rgV_eq (n : Int) : rgV 0 n = (rng 0 n.toNat).map V.int := by
  unfold rgV rng
  rw [List.map_map]
  have e0 : n - 0 = n := by omega
  rw [e0]; rfl
theorem xe_listRg (h : XE K EE false te ma) : XE K EE f (tLstRg (tRg1 te)) (mCb (rgl .lst) (aCons ma aNil)) := fun Hb ve σ G H Φ Ξ c m Q q =>
  h Hb ve σ G H _ Ξ c m _ fun a x G1 H1 p1 g1 rv => by
    obtain ⟨z, e, p2⟩ := M.opt_inv (show opt (rgl .lst [a]) Φ Ξ from p1)
    unfold rgl at e
    split at e
    · rename_i n hn0
      split at e
      · rename_i hb; cases e
        cases hn0
        cases rv
        refine ⟨n, rfl, ⟨by omega, by omega, by omega, by omega, by omega⟩, fun p hp => ?_⟩
        rw [rgV_eq]
        have g := Grow.laid (o := .lst ((rng 0 n.toNat).map V.int)) g1.sub hp
        exact q _ (.ref p) _ _ p2 (g1.trans g) (.lst (frh_new (c.grow g1).b hp) upd_same (RepA.ofInts _))
      · cases e
    · cases e
theorem xe_tupRg (h : XE K EE false te ma) : XE K EE f (tTupRg (tRg1 te)) (mCb (rgl .tup) (aCons ma aNil)) := fun Hb ve σ G H Φ Ξ c m Q q =>
  h Hb ve σ G H _ Ξ c m _ fun a x G1 H1 p1 g1 rv => by
    obtain ⟨z, e, p2⟩ := M.opt_inv (show opt (rgl .tup [a]) Φ Ξ from p1)
    unfold rgl at e
    split at e
    · rename_i n hn0
      split at e
      · rename_i hb; cases e
        cases hn0
        cases rv
        refine ⟨n, rfl, ⟨by omega, by omega, by omega, by omega, by omega⟩, fun p hp => ?_⟩
        rw [rgV_eq]
        have g := Grow.laid (o := .tup ((rng 0 n.toNat).map V.int)) g1.sub hp
        exact q _ (.ref p) _ _ p2 (g1.trans g) (.tup (SqT.of upd_same) (RepA.ofInts _))
      · cases e
    · cases e
/-! xs[::-1] -/
theorem RepA.rev {fr : Option Hp} {H : Hp} : ∀ {ds : List D} {vs : List V}, RepA K fr H ds vs → RepA K fr H ds.reverse vs.reverse
  | _, _, .nil => .nil
  | _, _, .cons r t => by rw [List.reverse_cons, List.reverse_cons]; exact (RepA.rev t).append (.cons r .nil)
def revLD : D → Option D
  | .lst ds => some (.lst ds.reverse)
  | _ => none
def revTD : D → Option D
  | .tup ds => some (.tup ds.reverse)
  | _ => none
@[simp] theorem revLD_lst (ds : List D) : revLD (.lst ds) = some (.lst ds.reverse) := id rfl
@[simp] theorem revTD_tup (ds : List D) : revTD (.tup ds) = some (.tup ds.reverse) := id rfl
theorem xe_revL (h : XE K EE f te ma) : XE K EE f (eOr (tRevL K te) (tRevT K te)) (m1 revLD ma) := fun Hb ve σ G H Φ Ξ c m Q q => .inl (
  h Hb ve σ G H _ Ξ c m _ fun a x G1 H1 p1 g1 rv => by
    obtain ⟨z, e, p1⟩ := M.opt_inv p1
    unfold revLD at e
    split at e
    · cases e
      obtain ⟨p, vs, rfl, _, hp, rs⟩ := rv.lst_inv
      refine ⟨p, vs, rfl, SqL.of (g1.sub _ _ hp), fun n hn => ?_⟩
      have gl := Grow.laid (o := .lst vs.reverse) g1.sub hn
      exact q _ (.ref n) _ _ p1 (g1.trans gl) (.lst (frh_new (c.grow g1).b hn) upd_same (rs.rev.mono gl.e))
    · cases e)
theorem xe_revT (h : XE K EE f te ma) : XE K EE f (eOr (tRevL K te) (tRevT K te)) (m1 revTD ma) := fun Hb ve σ G H Φ Ξ c m Q q => .inr (
  h Hb ve σ G H _ Ξ c m _ fun a x G1 H1 p1 g1 rv => by
    obtain ⟨z, e, p1⟩ := M.opt_inv p1
    unfold revTD at e
    split at e
    · cases e
      obtain ⟨p, vs, rfl, hp, rs⟩ := rv.tup_inv
      refine ⟨p, vs, rfl, ex_t g1.sub hp, fun n hn => ?_⟩
      have gl := Grow.laid (o := .tup vs.reverse) g1.sub hn
      exact q _ (.ref n) _ _ p1 (g1.trans gl) (.tup (SqT.of upd_same) (rs.rev.mono gl.e))
    · cases e)
/-! [*xs, ..] -/
def aStar (ma : VE → M D) (mr : VE → M (List D)) : VE → M (List D) := fun ve => bnd (ma ve) fun a => bnd (opt (seqOf a)) fun as => bnd (mr ve) fun bs => ret (as ++ bs)
theorem xa_star (h : XE K EE f te ma) (hr : XA K EE f tr mr) : XA K EE f (StX.tStar K te tr) (aStar ma mr) := fun Hb ve σ G H Φ Ξ c m Q q =>
  h Hb ve σ G H _ Ξ c m _ fun a x G1 H1 p1 g1 rv => by
    obtain ⟨as, e, p1⟩ := M.opt_inv p1
    cases a <;> simp [seqOf] at e
    · subst e
      obtain ⟨p, vs, rfl, _, hp, rs⟩ := rv.lst_inv
      refine ⟨p, vs, rfl, .inr (SqL.of (g1.sub _ _ hp)), hr Hb ve σ G1 H1 _ Ξ (c.grow g1) p1 _ fun bs us G2 H2 p2 g2 r2 => q _ _ G2 H2 p2 (g1.trans g2) ((rs.mono g2.e).append r2)⟩
    · subst e
      obtain ⟨p, vs, rfl, hp, rs⟩ := rv.tup_inv
      refine ⟨p, vs, rfl, .inl (ex_t g1.sub hp), hr Hb ve σ G1 H1 _ Ξ (c.grow g1) p1 _ fun bs us G2 H2 p2 g2 r2 => q _ _ G2 H2 p2 (g1.trans g2) ((rs.mono g2.e).append r2)⟩
end
end VL

/-! VM12: reckoning with M. -/
namespace VL
open PySem PySem.Spec PyProof.Rows L2
open M (ret bnd nope grd exn opt drw)
section
variable [Tbl] {K : Fr} {f : Bool}
def sortID : List D → Option D
  | [.lst ds] => (intsOf ds).map fun ns => blockD (sortInts ns)
  | _ => none
@[simp] theorem sortID_ints (ns : List Int) : sortID [.lst (ns.map D.int)] = some (blockD (sortInts ns)) := by unfold sortID; simp
theorem cd_sortI : CbD K f (rSortedU K) sortID := fun ds c h => by
  intro G vs rs H e Q q
  unfold sortID at h
  split at h
  · rw [Option.map_eq_some_iff] at h
    obtain ⟨ns, hi, rfl⟩ := h
    rw [intsOf_inv hi] at rs
    obtain ⟨v, rfl, r⟩ := rs.one
    obtain ⟨p, us, rfl, _, hp, rr⟩ := r.lst_inv
    cases rr.ints
    refine .inl ⟨p, ns, rfl, SqL.of (e _ _ hp), fun zs n h1 h2 hn => ?_⟩
    have hz : zs = sortInts ns := sorted_uniq (h1.trans (sortInts_perm ns).symm) h2 (sortInts_sorted ns)
    rw [hz]
    have g := Grow.laid (o := .lst ((sortInts ns).map V.int)) e hn
    exact q (.ref n) _ _ g (.lst (frh_at hn) upd_same (RepA.ofInts _))
  · cases h
end
section
variable {α β : Type}
variable (ve : VE) (ρ : Env) (i : Nat) (ma mb mc me : VE → M D) (mt mu : VE → M Bool) (mr mi ml : VE → M (List D)) (lo hi : VE → M (Option Int))
@[simp] theorem getV_z (x : Option (Bool × D)) (ve : VE) : getV (x :: ve) 0 = x.map (·.2) := by unfold getV; cases x <;> rfl
@[simp] theorem getV_s (x : Option (Bool × D)) (ve : VE) (i : Nat) : getV (x :: ve) (i + 1) = getV ve i := by unfold getV; simp
@[simp] theorem getF_z (f : Bool) (d : D) (ve : VE) : getF (some (f, d) :: ve) 0 = if (f || scalarD d) = true then some d else none := by unfold getF; rfl
@[simp] theorem getF_n (ve : VE) : getF (none :: ve) 0 = none := id rfl
@[simp] theorem getF_s (x : Option (Bool × D)) (ve : VE) (i : Nat) : getF (x :: ve) (i + 1) = getF ve i := by unfold getF; simp
@[simp] theorem mVar_ap : mVar i ve = opt (getV ve i) := id rfl
@[simp] theorem mVarF_ap : mVarF i ve = opt (getF ve i) := id rfl
@[simp] theorem mC_ap (d : D) : mC d ve = ret d := id rfl
@[simp] theorem mSc_ap : mSc ma ve = bnd (ma ve) fun d => opt (if scalarD d = true then some d else none) := id rfl
@[simp] theorem m2_ap (o : D → D → Option D) : m2 o ma mb ve = bnd (ma ve) fun a => bnd (mb ve) fun b => opt (o a b) := id rfl
@[simp] theorem m1_ap (o : D → Option D) : m1 o ma ve = bnd (ma ve) fun a => opt (o a) := id rfl
@[simp] theorem aNil_ap : aNil ve = ret [] := id rfl
@[simp] theorem aCons_ap : aCons ma mr ve = bnd (ma ve) fun a => bnd (mr ve) fun as => ret (a :: as) := id rfl
@[simp] theorem aStar_ap : aStar ma mr ve = bnd (ma ve) fun a => bnd (opt (seqOf a)) fun as => bnd (mr ve) fun bs => ret (as ++ bs) := id rfl
@[simp] theorem mCb_ap (o : List D → Option D) : mCb o mr ve = bnd (mr ve) fun as => opt (o as) := id rfl
@[simp] theorem mRg_ap (o : List D → Option (List D)) : mRg o mr ve = bnd (mr ve) fun as => opt (o as) := id rfl
@[simp] theorem mCallC_ap (n : Nat) (mf : List D → M D) : mCallC n mf mr ve = bnd (mr ve) fun as => grd (as.length = n) (calm (mf as)) := id rfl
@[simp] theorem mTest_ap : mTest ma ve = bnd (ma ve) fun d => opt (tBl d) := id rfl
@[simp] theorem mTAnd_ap : mTAnd mt mu ve = bnd (mt ve) fun b => if b = true then mu ve else ret false := id rfl
@[simp] theorem mTOr_ap : mTOr mt mu ve = bnd (mt ve) fun b => if b = true then ret true else mu ve := id rfl
@[simp] theorem mTNot_ap : mTNot mt ve = bnd (mt ve) fun b => ret (!b) := id rfl
@[simp] theorem mYes_ap : mYes ve = ret true := id rfl
@[simp] theorem mAnd_ap : mAnd ma mb ve = bnd (ma ve) fun a => bnd (opt (tBl a)) fun b => if b = true then mb ve else ret (.bl false) := id rfl
@[simp] theorem mOr_ap : mOr ma mb ve = bnd (ma ve) fun a => bnd (opt (tBl a)) fun b => if b = true then ret (.bl true) else mb ve := id rfl
@[simp] theorem mNot_ap : mNot ma ve = bnd (ma ve) fun a => bnd (opt (tBl a)) fun b => ret (.bl !b) := id rfl
@[simp] theorem mIf_ap : mIf mt ma mb ve = bnd (mt ve) fun b => if b = true then ma ve else mb ve := id rfl
@[simp] theorem mChain_ap (o1 o2 : D → D → Option D) : mChain o1 o2 ma mb mc ve = bnd (ma ve) fun a => bnd (mb ve) fun b => bnd (opt (o1 a b)) fun z => bnd (opt (tBl z)) fun x => if x = true then bnd (mc ve) fun c => opt (o2 b c) else ret (.bl false) := id rfl
@[simp] theorem mTup_ap : mTup mr ve = bnd (mr ve) fun as => grd (as.length ≤ 100000) (ret (.tup as)) := id rfl
@[simp] theorem mLst_ap : mLst mr ve = bnd (mr ve) fun as => ret (.lst as) := id rfl
@[simp] theorem lLst_ap : lLst mr ve = bnd (mr ve) fun as => grd (as.length ≤ 100000) (ret as) := id rfl
@[simp] theorem oNone_ap : oNone ve = ret none := id rfl
@[simp] theorem oSome_ap : oSome ma ve = bnd (ma ve) fun a => bnd (opt (tIn a)) fun i => ret (some i) := id rfl
@[simp] theorem mSl_ap : mSl ma lo hi ve = bnd (ma ve) fun a => bnd (lo ve) fun l => bnd (hi ve) fun h => opt (slD l h a) := id rfl
@[simp] theorem mSeq_ap : mSeq ma ve = bnd (ma ve) fun a => opt (seqOf a) := id rfl
@[simp] theorem mSeqL_ap : mSeqL ma ve = bnd (ma ve) fun a => opt (tLs a) := id rfl
@[simp] theorem mRev_ap : mRev ma ve = bnd (ma ve) fun a => bnd (opt (tLs a)) fun ds => ret ds.reverse := id rfl
@[simp] theorem mFld_ap (cs : List Addr) (fld : Str) : mFld cs fld ma ve = bnd (ma ve) fun a => opt (fldD cs fld a) := id rfl
@[simp] theorem mLc_ap (is us : List Nat) (b : D → Option (List D)) : mLc mi is b mt me us ve = bnd (mi ve) fun xs => grd (xs.length ≤ 50000) (lcGo (wipeVE ve us) is b mt me xs) := id rfl
@[simp] theorem mLc2_ap (is is1 us us1 : List Nat) (b b1 : D → Option (List D)) (mi1 : VE → M (List D)) : mLc2 mi is b mt mi1 is1 b1 mu me us us1 ve = bnd (mi ve) fun xs => grd (xs.length ≤ 300) (lc2Go (wipeVE ve us) is b mt mi1 is1 b1 mu me us1 xs) := id rfl
@[simp] theorem wipeVE_nil : wipeVE ve [] = ve := id rfl
@[simp] theorem wipeVE_cons (is : List Nat) : wipeVE ve (i :: is) = (wipeVE ve is).set i none := id rfl
@[simp] theorem setVE_nil (f : Bool) (ds : List D) : setVE f ve [] ds = ve := id rfl
@[simp] theorem setVE_cons (f : Bool) (is : List Nat) (d : D) (ds : List D) : setVE f ve (i :: is) (d :: ds) = setVE f (ve.set i (some (f, d))) is ds := id rfl
@[simp] theorem vA_nil : vA [] = [] := id rfl
@[simp] theorem vA_sh (f : Bool) (d : D) : vA (.sh f d :: ρ) = some (f, d) :: vA ρ := id rfl
@[simp] theorem vA_un : vA (.un :: ρ) = none :: vA ρ := id rfl
@[simp] theorem vA_ow (a : Option Addr) (f : Bool) (ds : List D) : vA (.ow a f ds :: ρ) = none :: vA ρ := id rfl
@[simp] theorem vA_rw (rows : List (List D)) : vA (.rw rows :: ρ) = none :: vA ρ := id rfl
@[simp] theorem vB_nil : vB [] = [] := id rfl
@[simp] theorem vB_sh (f : Bool) (d : D) : vB (.sh f d :: ρ) = some (false, d) :: vB ρ := id rfl
@[simp] theorem vB_un : vB (.un :: ρ) = none :: vB ρ := id rfl
@[simp] theorem vB_ow (a : Option Addr) (f : Bool) (ds : List D) : vB (.ow a f ds :: ρ) = some (false, .lst ds) :: vB ρ := id rfl
@[simp] theorem vB_rw (rows : List (List D)) : vB (.rw rows :: ρ) = some (false, .lst (rows.map .lst)) :: vB ρ := id rfl
variable (ms ms' : Env → M Oc)
@[simp] theorem sA_ap (f : Bool) : sA f i me ρ = bnd (me (vA ρ)) fun d => ret (.nx (ρ.set i (.sh f d))) := id rfl
@[simp] theorem sB_ap : sB i me ρ = bnd (me (vB ρ)) fun d => ret (.nx (ρ.set i (.sh true d))) := id rfl
@[simp] theorem sL_ap (f : Bool) : sL f i ml ρ = bnd (ml (vA ρ)) fun ds => ret (.nx (ρ.set i (.ow none f ds))) := id rfl
@[simp] theorem sLB_ap : sLB i ml ρ = bnd (ml (vB ρ)) fun ds => ret (.nx (ρ.set i (.ow none true ds))) := id rfl
@[simp] theorem sU_ap : sU i me ρ = bnd (me (vB ρ)) fun d => bnd (opt (tLs d)) fun ds => grd (ds.all scalarD = true) (ret (.nx (ρ.set i (.ow none true ds)))) := id rfl
@[simp] theorem sTA_ap (f : Bool) (is : List Nat) (b : D → Option (List D)) : sTA f is b me ρ = bnd (me (vA ρ)) fun d => bnd (opt (b d)) fun ds => ret (.nx (setEnv f ρ is ds)) := id rfl
@[simp] theorem sTB_ap (is : List Nat) (b : D → Option (List D)) : sTB is b me ρ = bnd (me (vB ρ)) fun d => bnd (opt (b d)) fun ds => ret (.nx (setEnv true ρ is ds)) := id rfl
@[simp] theorem sAug_ap (fn : Int → Int → Int) : sAug i fn me ρ = bnd (opt ((getV (vB ρ) i).bind tIn)) fun x => bnd (me (vB ρ)) fun d => bnd (opt (tIn d)) fun y => ret (.nx (ρ.set i (.sh true (.int (fn x y))))) := id rfl
@[simp] theorem getO_z (a : Option Addr) (f : Bool) (ds : List D) : getO (.ow a f ds :: ρ) 0 = some (a, f, ds) := id rfl
@[simp] theorem getO_s (s : Slot) : getO (s :: ρ) (i + 1) = getO ρ i := by unfold getO; simp
@[simp] theorem sApp_ap (f2 : Bool) : sApp f2 i me ρ = bnd (opt (getO ρ i)) fun p => grd (p.2.2.length < 100000) (bnd (me (vA ρ)) fun d => ret (.nx (ρ.set i (.ow p.1 (p.2.1 && f2) (p.2.2 ++ [d]))))) := id rfl
@[simp] theorem sAppB_ap : sAppB i me ρ = bnd (opt (getO ρ i)) fun p => grd (p.2.2.length < 100000) (bnd (me (vB ρ)) fun d => ret (.nx (ρ.set i (.ow p.1 p.2.1 (p.2.2 ++ [d]))))) := id rfl
@[simp] theorem sSet_ap : sSet i ma me ρ = bnd (me (vB ρ)) fun d => grd (scalarD d = true) (bnd (opt (getO ρ i)) fun p => bnd (ma (vB ρ)) fun x => bnd (opt (tIn x)) fun j => bnd (opt (ixN p.2.2.length j)) fun k => ret (.nx (ρ.set i (.ow p.1 p.2.1 (p.2.2.set k d))))) := id rfl
@[simp] theorem sAugS_ap (fn : Int → Int → Int) : sAugS i fn ma me ρ = bnd (opt (getO ρ i)) fun p => bnd (ma (vB ρ)) fun x => bnd (opt (tIn x)) fun j => grd (0 ≤ j) (bnd (opt ((p.2.2[j.toNat]?).bind tIn)) fun a =>
  bnd (me (vB ρ)) fun d => bnd (opt (tIn d)) fun y => ret (.nx (ρ.set i (.ow p.1 p.2.1 (p.2.2.set j.toNat (.int (fn a y))))))) := id rfl
@[simp] theorem sRet_ap : sRet me ρ = bnd (me (vA ρ)) fun d => ret (.rt ρ d) := id rfl
@[simp] theorem sRetB_ap : sRetB me ρ = bnd (me (vB ρ)) fun d => ret (.rt ρ d) := id rfl
@[simp] theorem sRetN_ap : sRetN ρ = ret (.rt ρ .non) := id rfl
@[simp] theorem sNx_ap : sNx ρ = ret (.nx ρ) := id rfl
@[simp] theorem sBk_ap : sBk ρ = ret (.bk ρ) := id rfl
@[simp] theorem sCt_ap : sCt ρ = ret (.ct ρ) := id rfl
@[simp] theorem sNever_ap : sNever ρ = nope := id rfl
@[simp] theorem sDrop_ap : sDrop me ρ = bnd (me (vB ρ)) fun _ => ret (.nx ρ) := id rfl
@[simp] theorem sIf_ap : sIf mt ms ms' ρ = bnd (mt (vB ρ)) fun b => if b = true then ms ρ else ms' ρ := id rfl
@[simp] theorem sSeq_ap : sSeq ms ms' ρ = bnd (ms ρ) (thenM ms') := id rfl
@[simp] theorem sFor_ap (is : List Nat) (b : D → Option (List D)) : sFor mi is b ms ρ = bnd (mi (vA ρ)) fun xs => forGo is b ms xs ρ := id rfl
@[simp] theorem sForR_ap (is : List Nat) (b : D → Option (List D)) : sForR mi is b ms ρ = bnd (mi (vB ρ)) fun xs => forGo is b ms xs ρ := id rfl
@[simp] theorem frz_z (a : Option Addr) (f : Bool) (ds : List D) : frz 0 (.ow a f ds :: ρ) = .sh f (.lst ds) :: ρ := id rfl
@[simp] theorem frz_zs (f : Bool) (d : D) : frz 0 (.sh f d :: ρ) = .sh f d :: ρ := id rfl
@[simp] theorem frz_s (s : Slot) : frz (i + 1) (s :: ρ) = s :: frz i ρ := by
  unfold frz
  simp only [List.getElem?_cons_succ]
  cases h : ρ[i]? with
  | none => rfl
  | some s => cases s <;> simp
@[simp] theorem sFrz_ap : sFrz i ms ρ = ms (frz i ρ) := id rfl
@[simp] theorem mDef_ap (n : Nat) (ds : List D) : mDef n ms ds = bnd (ms (ds.map (Slot.sh false) ++ List.replicate (n - ds.length) .un)) ocD := id rfl
end
section
variable [Tbl] {α β : Type} {ve : VE} {is is1 us us1 : List Nat} {b b1 : D → Option (List D)} {mt mt1 : VE → M Bool} {me : VE → M D} {mi1 : VE → M (List D)}
theorem atI_get {xs : List α} {i : Int} {a : α} (h0 : 0 ≤ i) (h : xs[i.toNat]? = some a) : atI xs i = some a := by
  have hl := (List.getElem?_eq_some_iff.mp h).1
  unfold atI ixN
  rw [if_pos h0, if_pos (by omega)]
  exact h
theorem atI_nat {xs : List α} {i : Nat} {a : α} (h : xs[i]? = some a) : atI xs (i : Int) = some a := atI_get (by omega) (by simpa using h)
@[simp] theorem atI_0 (a : α) (xs : List α) : atI (a :: xs) 0 = some a := by
  show atI _ ((0 : Nat) : Int) = _
  exact atI_nat rfl
@[simp] theorem atI_1 (a b : α) (xs : List α) : atI (a :: b :: xs) 1 = some b := by
  show atI _ ((1 : Nat) : Int) = _
  exact atI_nat rfl
@[simp] theorem atI_2 (a b c : α) (xs : List α) : atI (a :: b :: c :: xs) 2 = some c := by
  show atI _ ((2 : Nat) : Int) = _
  exact atI_nat rfl
@[simp] theorem atI_3 (a b c d : α) (xs : List α) : atI (a :: b :: c :: d :: xs) 3 = some d := by
  show atI _ ((3 : Nat) : Int) = _
  exact atI_nat rfl
@[simp] theorem atI_4 (a b c d e : α) (xs : List α) : atI (a :: b :: c :: d :: e :: xs) 4 = some e := by
  show atI _ ((4 : Nat) : Int) = _
  exact atI_nat rfl
@[simp] theorem atI_5 (a b c d e f : α) (xs : List α) : atI (a :: b :: c :: d :: e :: f :: xs) 5 = some f := by
  show atI _ ((5 : Nat) : Int) = _
  exact atI_nat rfl
@[simp] theorem atI_6 (a b c d e f g : α) (xs : List α) : atI (a :: b :: c :: d :: e :: f :: g :: xs) 6 = some g := by
  show atI _ ((6 : Nat) : Int) = _
  exact atI_nat rfl
/-- a number's item, 0 beyond -/
def ix (xs : List Int) (i : Int) : Int := xs.getD i.toNat 0
theorem ix_get {xs : List Int} {i : Int} (h0 : 0 ≤ i) (h1 : i < xs.length) : xs[i.toNat]? = some (ix xs i) := by
  unfold ix
  have hl : i.toNat < xs.length := by omega
  rw [List.getD_eq_getElem?_getD, List.getElem?_eq_getElem hl]; rfl
theorem atI_int {xs : List Int} {i : Int} (h0 : 0 ≤ i) (h1 : i < xs.length) : atI (xs.map D.int) i = some (.int (ix xs i)) := atI_get h0 (by rw [List.getElem?_map, ix_get h0 h1]; rfl)
@[simp] theorem powD_10 {k : Int} (h : 0 ≤ k ∧ k ≤ 1000) : powD (.int 10) (.int k) = some (.int (10 ^ k.toNat)) := powD_int ⟨h.1, by omega, by decide⟩
@[simp] theorem mulD_r {i j : Int} (h : -(2 ^ 64) < j ∧ j < 2 ^ 64) : mulD (.int i) (.int j) = some (.int (i * j)) := mulD_int (.inr h)
theorem mulD_l {i j : Int} (h : -(2 ^ 64) < i ∧ i < 2 ^ 64) : mulD (.int i) (.int j) = some (.int (i * j)) := mulD_int (.inl h)
@[simp] theorem modD_pos {i j : Int} (h : 0 < j) : modD (.int i) (.int j) = some (.int (i % j)) := modD_int h
@[simp] theorem ixN_lit {n k : Nat} (h : k < n) : ixN n ((OfNat.ofNat k : Nat) : Int) = some k := Evl.ixN_nat h
theorem anyD_map {xs : List α} {p : α → Bool} : anyD [.lst (xs.map fun x => .bl (p x))] = some (.bl (xs.any p)) := by
  have h : (xs.map fun x => D.bl (p x)) = (xs.map p).map D.bl := by rw [List.map_map]; rfl
  rw [h, anyD_bols, List.any_map]; rfl
theorem allD_map {xs : List α} {p : α → Bool} : allD [.lst (xs.map fun x => .bl (p x))] = some (.bl (xs.all p)) := by
  have h : (xs.map fun x => D.bl (p x)) = (xs.map p).map D.bl := by rw [List.map_map]; rfl
  rw [h, allD_bols, List.all_map]; rfl
theorem sumD_map {xs : List α} {g : α → Int} : sumD [.lst (xs.map fun x => .int (g x))] = some (.int (xs.map g).sum) := by
  have h : (xs.map fun x => D.int (g x)) = (xs.map g).map D.int := by rw [List.map_map]; rfl
  rw [h, sumD_ints]
theorem map_int {xs : List α} {g : α → Int} : (xs.map fun x => D.int (g x)) = (xs.map g).map D.int := by rw [List.map_map]; rfl
theorem map_blk {xs : List α} {g : α → List Int} : (xs.map fun x => D.lst ((g x).map D.int)) = (xs.map g).map blockD := by rw [List.map_map]; rfl
/-- a comprehension that draws nothing -/
theorem lcGo_pure {c : α → D} {p : α → Bool} {h : α → D} {e : α → List D} : ∀ {xs : List α}, (∀ a ∈ xs, b (c a) = some (e a) ∧ mt (setVE false ve is (e a)) = ret (p a) ∧ (p a = true → me (setVE false ve is (e a)) = ret (h a))) →
    lcGo ve is b mt me (xs.map c) = ret ((xs.filter p).map h)
  | [], _ => rfl
  | a :: as, H => by
    obtain ⟨h1, h2, h3⟩ := H a List.mem_cons_self
    have ih := lcGo_pure (xs := as) fun x hx => H x (List.mem_cons_of_mem _ hx)
    rw [List.map_cons]
    unfold lcGo
    rw [h1, M.opt_some, M.bnd_ret, h2, M.bnd_ret, List.filter_cons]
    by_cases hp : p a = true
    · rw [if_pos hp, if_pos hp, h3 hp, M.bnd_ret, ih]; rfl
    · rw [if_neg hp, if_neg hp, ih]
theorem lcGo_all {c : α → D} {h : α → D} {e : α → List D} {xs : List α} (H : ∀ a ∈ xs, b (c a) = some (e a) ∧ mt (setVE false ve is (e a)) = ret true ∧ me (setVE false ve is (e a)) = ret (h a)) :
    lcGo ve is b mt me (xs.map c) = ret (xs.map h) := by
  have := lcGo_pure (p := fun _ => true) (h := h) (e := e) (xs := xs) (b := b) (mt := mt) (me := me) (ve := ve) (is := is) (c := c) fun a ha => ⟨(H a ha).1, (H a ha).2.1, fun _ => (H a ha).2.2⟩
  rw [this, List.filter_eq_self.mpr fun _ _ => rfl]
theorem lc2Go_pure {c : α → D} {p : α → Bool} {e : α → List D} {r : α → List D} : ∀ {xs : List α}, (∀ a ∈ xs, b (c a) = some (e a) ∧ mt (setVE false ve is (e a)) = ret (p a) ∧ (p a = true → ∃ ys : List D, mi1 (setVE false ve is (e a)) = ret ys ∧ ys.length ≤ 300 ∧ lcGo (wipeVE (setVE false ve is (e a)) us1) is1 b1 mt1 me ys = ret (r a))) →
    lc2Go ve is b mt mi1 is1 b1 mt1 me us1 (xs.map c) = ret ((xs.filter p).flatMap r)
  | [], _ => rfl
  | a :: as, H => by
    obtain ⟨h1, h2, h3⟩ := H a List.mem_cons_self
    have ih := lc2Go_pure (xs := as) fun x hx => H x (List.mem_cons_of_mem _ hx)
    rw [List.map_cons]
    unfold lc2Go
    rw [h1, M.opt_some, M.bnd_ret, h2, M.bnd_ret, List.filter_cons]
    by_cases hp : p a = true
    · obtain ⟨ys, h4, h5, h6⟩ := h3 hp
      rw [if_pos hp, if_pos hp, h4, M.bnd_ret, M.grd_pos h5, h6, M.bnd_ret, ih, List.flatMap_cons]; rfl
    · rw [if_neg hp, if_neg hp, ih]
/-- the items with their numbers -/
def enumL {α : Type} : Nat → List α → List (Int × α)
  | _, [] => []
  | n, x :: xs => ((n : Int), x) :: enumL (n + 1) xs
theorem enumD_map {c : α → D} : ∀ (n : Nat) (xs : List α), enumD n (xs.map c) = (enumL n xs).map fun p => .tup [.int p.1, c p.2]
  | _, [] => rfl
  | n, x :: xs => by rw [List.map_cons]; unfold enumD enumL; rw [enumD_map (n + 1) xs]; rfl
theorem enumL_length : ∀ (n : Nat) (xs : List α), (enumL n xs).length = xs.length
  | _, [] => rfl
  | n, x :: xs => by unfold enumL; rw [List.length_cons, List.length_cons, enumL_length]
theorem enumL_get : ∀ {n : Nat} {xs : List α} {i : Nat} {x : α}, xs[i]? = some x → (enumL n xs)[i]? = some (((n + i : Nat) : Int), x)
  | n, [], i, x, h => by simp at h
  | n, y :: ys, 0, x, h => by simp at h; subst h; rfl
  | n, y :: ys, i + 1, x, h => by
    have q := enumL_get (n := n + 1) (xs := ys) (i := i) (x := x) (by simpa using h)
    have e : n + 1 + i = n + (i + 1) := by omega
    rw [e] at q
    simpa [enumL] using q
theorem mem_enumL : ∀ {n : Nat} {xs : List α} {p : Int × α}, p ∈ enumL n xs → ∃ i : Nat, xs[i]? = some p.2 ∧ p.1 = ((n + i : Nat) : Int)
  | n, [], p, h => by simp [enumL] at h
  | n, y :: ys, p, h => by
    unfold enumL at h
    rcases List.mem_cons.mp h with rfl | h
    · exact ⟨0, rfl, by simp⟩
    · obtain ⟨i, h1, h2⟩ := mem_enumL h
      exact ⟨i + 1, by simpa using h1, by rw [h2]; congr 1; omega⟩
theorem drop_nx {xs : List α} {i : Nat} {a : α} (h : xs[i]? = some a) : xs.drop i = a :: xs.drop (i + 1) := by
  have hl := (List.getElem?_eq_some_iff.mp h).1
  rw [List.drop_eq_getElem_cons hl]
  congr 1
  exact (List.getElem?_eq_some_iff.mp h).2
/-- a loop: what holds of the slots, by the turn -/
theorem forGo_inv {m : Env → M Oc} {Φ : Oc → Prop} {Ξ : Exn → Prop} (I : Nat → Env → Prop) {xs : List D} {ρ : Env} (h0 : I 0 ρ)
    (hs : ∀ i x ρ, xs[i]? = some x → I i ρ → ∃ ds, b x = some ds ∧ m (setEnv false ρ is ds) (fun o => match o with
      | .nx ρ' => I (i + 1) ρ'
      | .ct ρ' => I (i + 1) ρ'
      | .bk ρ' => Φ (.nx ρ')
      | .rt ρ' d => Φ (.rt ρ' d)) Ξ) (hd : ∀ ρ, I xs.length ρ → Φ (.nx ρ)) (mono : ∀ ρ, M.Mono (m ρ)) : forGo is b m xs ρ Φ Ξ := by
  have key : ∀ (n i : Nat) (ρ : Env), xs.length - i = n → I i ρ → i ≤ xs.length → forGo is b m (xs.drop i) ρ Φ Ξ := by
    intro n
    induction n with
    | zero =>
      intro i ρ hn hi hl
      have e : i = xs.length := by omega
      subst e
      rw [List.drop_length]
      exact hd ρ hi
    | succ n ih =>
      intro i ρ hn hi hl
      have hlt : i < xs.length := by omega
      obtain ⟨x, hx⟩ : ∃ x, xs[i]? = some x := ⟨_, List.getElem?_eq_getElem hlt⟩
      rw [drop_nx hx]
      obtain ⟨ds, hb, hm⟩ := hs i x ρ hx hi
      unfold forGo
      rw [hb]
      refine mono _ _ _ _ _ (fun o ho => ?_) (fun _ z => z) hm
      cases o with
      | nx ρ' => exact ih (i + 1) ρ' (by omega) ho hlt
      | ct ρ' => exact ih (i + 1) ρ' (by omega) ho hlt
      | bk ρ' => exact ho
      | rt ρ' d => exact ho
  simpa using key xs.length 0 ρ (by simp) h0 (Nat.zero_le _)
/-- a loop that draws nothing: an accumulated state -/
theorem forGo_fold {m : Env → M Oc} {c : α → D} (enc : β → Env) (g : β → α → β) {e : α → List D} : ∀ {xs : List α} {s : β}, (∀ (ys : List α) (a : α) (zs : List α), xs = ys ++ a :: zs → b (c a) = some (e a) ∧ (∃ ρ', m (setEnv false (enc (ys.foldl g s)) is (e a)) = ret (.nx ρ') ∧ ρ' = enc (g (ys.foldl g s) a))) →
    forGo is b m (xs.map c) (enc s) = ret (.nx (enc (xs.foldl g s)))
  | [], s, _ => rfl
  | a :: as, s, H => by
    obtain ⟨h1, ρ', h2, h3⟩ := H [] a as rfl
    rw [List.map_cons]
    unfold forGo
    rw [h1, M.opt_some, M.bnd_ret]
    have h2' : m (setEnv false (enc s) is (e a)) = ret (.nx ρ') := h2
    rw [h2', M.bnd_ret, h3]
    exact forGo_fold enc g (xs := as) (s := g s a) fun ys x zs hx => H (a :: ys) x zs (by rw [hx]; rfl)
end
end VL

/-! VM13: the pool of draws; equal data; what a law begins with. -/
namespace VL
open PySem PySem.Spec PyProof.Rows L2
open M (ret bnd nope grd exn opt drw)
section
variable [Tbl]
/-! ### the pool -/
/-- what the pool's list holds -/
def poolVs (c : Addr) (i1 i2 i3 i4 : Int) : List V := [.ref c, .int i1, .int i2, .int i3, .int i4]
theorem poolO_stable (p c : Addr) (n : Nat) : ∀ h1 h2 : Heap, PoolO p c n h1 → (∀ o, h1.get? p = some o → h2.get? p = some o) → PoolO p c n h2 := fun h1 h2 ⟨i1, i2, i3, i4, t1, t2, t3, t4, m, a1, a2, a3, a4, e⟩ k =>
  ⟨i1, i2, i3, i4, t1, t2, t3, t4, m, a1, a2, a3, a4, k _ e⟩
section
variable {P : Program} {w : World} {H : Hp} {h : Heap} {p c : Addr} {n : Nat}
/-- from the list to the pool -/
theorem pool_in {i1 i2 i3 i4 : Int} (a1 : 0 ≤ i1) (a2 : 0 ≤ i2) (a3 : 0 ≤ i3) (a4 : 0 ≤ i4) (x : ObjOk P w H h p (.lst (poolVs c i1 i2 i3 i4))) : PoolO p c n h := by
  obtain ⟨_, its, m, rv, e⟩ := x
  unfold poolVs at rv
  cases rv with
  | cons r0 rv =>
    cases rv with
    | cons r1 rv =>
      cases rv with
      | cons r2 rv =>
        cases rv with
        | cons r3 rv =>
          cases rv with
          | cons r4 rv =>
            cases rv
            cases r0
            obtain ⟨t1, rfl⟩ := r1
            obtain ⟨t2, rfl⟩ := r2
            obtain ⟨t3, rfl⟩ := r3
            obtain ⟨t4, rfl⟩ := r4
            exact ⟨i1, i2, i3, i4, t1, t2, t3, t4, m, a1, a2, a3, a4, e⟩
/-- from the pool to the list -/
theorem pool_out (x : PoolO p c n h) : ∃ i1 i2 i3 i4 : Int, 0 ≤ i1 ∧ 0 ≤ i2 ∧ 0 ≤ i3 ∧ 0 ≤ i4 ∧ ∀ H : Hp, ObjOk P w H h p (.lst (poolVs c i1 i2 i3 i4)) := by
  obtain ⟨i1, i2, i3, i4, t1, t2, t3, t4, m, a1, a2, a3, a4, e⟩ := x
  exact ⟨i1, i2, i3, i4, a1, a2, a3, a4, fun H => ⟨by show 5 ≤ sizeLine; decide, _, m, .cons rfl (.cons ⟨t1, rfl⟩ (.cons ⟨t2, rfl⟩ (.cons ⟨t3, rfl⟩ (.cons ⟨t4, rfl⟩ .nil)))), e⟩⟩
end
/-- behind: the list at p is the pool again -/
def asPool (H : Hp) (p c : Addr) (n : Nat) : Hp := upd H p (.ext (PoolO p c n))
theorem asPool_ok {P : Program} {w : World} {H : Hp} {h : Heap} {p c : Addr} {n : Nat} {i1 i2 i3 i4 : Int} (ok : HOk P w H h) (hp : H p = some (.lst (poolVs c i1 i2 i3 i4))) (a1 : 0 ≤ i1) (a2 : 0 ≤ i2) (a3 : 0 ≤ i3) (a4 : 0 ≤ i4) : HOk P w (asPool H p c n) h := fun a o e => by
  by_cases ha : a = p
  · subst ha
    unfold asPool at e
    rw [upd_same] at e; cases e
    have z := pool_in (n := n) a1 a2 a3 a4 (ok a _ hp)
    exact ⟨z, (by obtain ⟨_, _, _, _, _, _, _, _, _, _, _, _, _, e⟩ := z; exact ⟨_, e⟩), poolO_stable a c n⟩
  · unfold asPool at e ⊢
    rw [upd_ne ha] at e
    refine (ok a o e).stay (fun _ _ _ z => z) (fun b z => ?_) fun b xs z => ?_
    · rw [upd_ne (fun y => by rw [y, hp] at z; cases z)]; exact z
    · rw [upd_ne (fun y => by rw [y, hp] at z; cases z)]; exact z
theorem asPool_un {H1 H2 : Hp} {h h' : Heap} {fs : List Addr} {p c : Addr} {n : Nat} {i1 i2 i3 i4 : Int} (u : Un fs [] H1 H2 h h') (hp : H2 p = some (.lst (poolVs c i1 i2 i3 i4))) (hn : ∀ o, h.get? p = some o → H1 p ≠ none) : Un fs [] H1 (asPool H2 p c n) h h' := by
  have nt : ∀ b o, H2 b = some o → (∀ vs, o ≠ .lst vs) → asPool H2 p c n b = some o := fun b o z hv => by
    unfold asPool
    rw [upd_ne (fun y => by rw [y, hp] at z; cases z; exact hv _ rfl)]; exact z
  refine ⟨u.keep, u.slot, fun b o e n0 hx => ?_, u.there, fun b xs z => nt b _ (u.tups b xs z) (fun _ q => by cases q), fun b o w z => nt b _ (u.frzs b o w z) (fun _ q => by cases q), fun b ps z => ?_⟩
  · unfold asPool
    rw [upd_ne (fun y => by subst y; exact hn o e n0)]
    exact u.free b o e n0 hx
  · obtain ⟨m, q⟩ := u.tbls b ps z
    exact ⟨m, nt b _ q (fun _ q => by cases q)⟩
/-- inside: the pool's list is written -/
def spDrawIn : Sp := fun vs H Q _ => ∃ (p c : Addr) (ns : List Int) (many i1 i2 i3 i4 : Int), vs = [.ref p, .int many] ∧ p ≠ c ∧ H p = some (.lst (poolVs c i1 i2 i3 i4)) ∧ H c = some (.lst (ns.map V.int)) ∧ (∀ n ∈ ns, 0 ≤ n) ∧
  0 < many ∧ many < 2 ^ 200 ∧ 0 ≤ i1 ∧ 0 ≤ i2 ∧ 0 ≤ i3 ∧ 0 ≤ i4 ∧ NdefX.TabsN Tbl.T (fun a => if a = p then none else H a) ∧ ∀ (d j1 j2 j3 j4 : Int) (H' : Hp), 0 ≤ d → d < many → 0 ≤ j1 → 0 ≤ j2 → 0 ≤ j3 → 0 ≤ j4 → H' p = some (.lst (poolVs c j1 j2 j3 j4)) → ExN (fun a => if a = p then none else H a) H' → Q (.int d) H'
/-- outside: nothing changes -/
def spDrawV : Sp := fun vs H Q _ => ∃ (p : Addr) (many : Int), vs = [.ref p, .int many] ∧ PoolAt H p ∧ 0 < many ∧ many < 2 ^ 200 ∧ NdefX.TabsN Tbl.T H ∧ ∀ (d : Int) (H' : Hp), 0 ≤ d → d < many → ExN H H' → Q (.int d) H'
theorem draw_out {P : Program} {w : World} {K : Fr} {mg : Str → Option Value} {base : Heap} {k : Nat} {f : Addr} {fd : FuncData} {ps : List Str} (F : FnOk P w K mg base C8.CX0 k f fd ps spDrawIn) (hl : ps.length = 2) : FnOk P w K mg base C8.CX0 k f fd ps spDrawV := by
  refine ⟨fun vs H Q E h => ?_, fun A outer s H args us vs Q E hr e0 hb rv hsp => ?_⟩
  · obtain ⟨p, many, rfl, _⟩ := h
    rw [hl]; rfl
  · obtain ⟨p, many, rfl, hP, hm, hm2, tbs, q⟩ := hsp
    obtain ⟨c, ns, hp, hc, hn⟩ := hP.ex
    have hpc : p ≠ c := ne_of hp hc (fun z => by cases z)
    obtain ⟨po, _, _⟩ := (show ObjOk P w H s.heap p (.ext (PoolO p c ns.length)) from e0.hok p _ hp)
    obtain ⟨i1, i2, i3, i4, a1, a2, a3, a4, ol⟩ := pool_out (P := P) (w := w) po
    generalize hH1 : upd H p (.lst (poolVs c i1 i2 i3 i4)) = H1
    have ne : ∀ b, b ≠ p → H1 b = H b := fun b hb => by rw [← hH1, upd_ne hb]
    have at1 : H1 p = some (.lst (poolVs c i1 i2 i3 i4)) := by rw [← hH1, upd_same]
    have e1 : Env0 P w K mg base A outer s H1 := by
      refine ⟨e0.frames, e0.mod, fun b o e => ?_, e0.bsz, e0.funs, fun b hb => ?_, fun a o e => ?_, e0.bare⟩
      · have z := e0.bs b o e
        refine ⟨z.1, ?_⟩
        rw [ne b (fun y => by rw [y, hp] at z; cases z.2)]; exact z.2
      · have z := e0.frf b hb
        rw [ne b (fun y => by rw [y, hp] at z; cases z)]; exact z
      · by_cases ha : a = p
        · subst ha
          rw [at1] at e; cases e
          exact ol H1
        · rw [ne a ha] at e
          refine (e0.hok a o e).stay (fun _ _ _ z => z) (fun b z => ?_) fun b xs z => ?_
          · rw [ne b (fun y => by rw [y, hp] at z; cases z)]; exact z
          · rw [ne b (fun y => by rw [y, hp] at z; cases z)]; exact z
    have cp0 : ∀ c q, H c = some (LamX.CodeO c q) → c ≠ p := fun c q hc z => by
      subst z
      obtain ⟨_, _, _, _, _, _, _, _, _, _, _, _, _, g1⟩ := po
      have po2 := (show ObjOk P w H s.heap c (LamX.CodeO c q) from e0.hok c _ hc)
      obtain ⟨⟨oc, vs, t, g2, g3, _⟩, _⟩ := po2
      rw [g1] at g2
      cases g2; cases g3
    have tb0 : NdefX.TabsN Tbl.T (fun a => if a = p then none else H1 a) := fun x hx => by
      obtain ⟨ps, k1, k2, k3⟩ := tbs x hx
      have np : x.1 ≠ p := fun z => by rw [z, hp] at k1; cases k1
      refine ⟨ps, by show (if x.1 = p then none else H1 x.1) = _; rw [if_neg np, ne _ np]; exact k1, k2, fun pos cv hc => ?_⟩
      obtain ⟨c', z1, z2⟩ := k3 pos cv hc
      have nc := cp0 _ _ z2
      exact ⟨c', z1, by show (if c' = p then none else H1 c') = _; rw [if_neg nc, ne _ nc]; exact z2⟩
    have run := F.run A outer s H1 args us [.ref p, .int many] (fun v H2 => ∃ d j1 j2 j3 j4 : Int, v = .int d ∧ 0 ≤ d ∧ d < many ∧ 0 ≤ j1 ∧ 0 ≤ j2 ∧ 0 ≤ j3 ∧ 0 ≤ j4 ∧ H2 p = some (.lst (poolVs c j1 j2 j3 j4)) ∧ ExN (fun a => if a = p then none else H1 a) H2) E hr e1 hb rv
      ⟨p, c, ns, many, i1, i2, i3, i4, rfl, hpc, at1, by rw [ne c hpc.symm]; exact hc, hn, hm, hm2, a1, a2, a3, a4, tb0, fun d j1 j2 j3 j4 H' h1 h2 h3 h4 h5 h6 h7 h8 => ⟨d, j1, j2, j3, j4, rfl, h1, h2, h3, h4, h5, h6, h7, h8⟩⟩
    refine codeAny_mono run fun r s' hh => ?_
    cases r with
    | error e => exact hh
    | ok fl =>
      cases fl with
      | next => exact hh
      | brk => exact hh
      | cont => exact hh
      | ret u =>
        obtain ⟨v, H2, os, bare, un, hok, rr, d, j1, j2, j3, j4, rfl, h1, h2, h3, h4, h5, h6, hp2, ex2⟩ := hh
        have np : ∀ b, H b = none → b ≠ p := fun b z y => by rw [y, hp] at z; cases z
        have un2 := asPool_un (n := ns.length) un hp2 (fun o e z => by rw [at1] at z; cases z)
        refine ⟨.int d, asPool H2 p c ns.length, os, bare, ⟨fun b o e n hf hx => un.keep b o e (by rw [ne b (np b n)]; exact n) hf hx, fun b o e n hf hx => un.slot b o e (by rw [ne b (np b n)]; exact n) hf hx, fun b o e n hx => un2.free b o e (by rw [ne b (np b n)]; exact n) hx, fun b o e hx => un.there b o e hx,
          fun b xs z => un2.tups b xs (by rw [ne b (fun y => by rw [y, hp] at z; cases z)]; exact z), fun b o u z => un2.frzs b o u (by rw [ne b (fun y => by rw [y, hp] at z; cases z)]; exact z), fun b pz z => un2.tbls b pz (by rw [ne b (fun y => by rw [y, hp] at z; cases z)]; exact z)⟩, asPool_ok hok hp2 h3 h4 h5 h6, rr, q d _ h1 h2 ⟨fun a o e nt => ?_, fun a e => ?_, fun tb => ?_⟩⟩
        · unfold asPool
          by_cases ha : a = p
          · subst ha; rw [upd_same, ← e, hp]
          · rw [upd_ne ha]
            exact ex2.e a o (by show (if a = p then none else H1 a) = some o; rw [if_neg ha, ne a ha]; exact e) nt
        · unfold asPool at e
          by_cases ha : a = p
          · subst ha; rw [upd_same] at e; cases e
          · rw [upd_ne ha] at e
            have z := ex2.f a e
            have z : (if a = p then none else H1 a) = none := z
            rw [if_neg ha, ne a ha] at z; exact z
        · have cp : ∀ c q, H c = some (LamX.CodeO c q) → c ≠ p := fun c q hc z => by
            subst z
            obtain ⟨_, _, _, _, _, _, _, _, _, _, _, _, _, g1⟩ := po
            have po2 := (show ObjOk P w H s.heap c (LamX.CodeO c q) from e0.hok c _ hc)
            obtain ⟨⟨oc, vs, t, g2, g3, _⟩, _⟩ := po2
            rw [g1] at g2
            cases g2; cases g3
          have tb1 : NdefX.TabsN Tbl.T (fun a => if a = p then none else H1 a) := fun x hx => by
            obtain ⟨ps, k1, k2, k3⟩ := tb x hx
            have np : x.1 ≠ p := fun z => by rw [z, hp] at k1; cases k1
            refine ⟨ps, by show (if x.1 = p then none else H1 x.1) = _; rw [if_neg np, ne _ np]; exact k1, k2, fun pos cv hc => ?_⟩
            obtain ⟨c', z1, z2⟩ := k3 pos cv hc
            have nc := cp _ _ z2
            exact ⟨c', z1, by show (if c' = p then none else H1 c') = _; rw [if_neg nc, ne _ nc]; exact z2⟩
          have tb2 := ex2.t tb1
          intro x hx
          obtain ⟨ps, k1, k2, k3⟩ := tb2 x hx
          have np : x.1 ≠ p := fun z => by rw [z, hp2] at k1; cases k1
          refine ⟨ps, by unfold asPool; rw [upd_ne np]; exact k1, k2, fun pos cv hc => ?_⟩
          obtain ⟨c', z1, z2⟩ := k3 pos cv hc
          have nc : c' ≠ p := fun z => by rw [z, hp2] at z2; cases z2
          exact ⟨c', z1, by unfold asPool; rw [upd_ne nc]; exact z2⟩
/-- the pool is made: inside its list is new -/
def spPoolIn (K : Fr) : Sp := fun vs H Q _ => ∃ (a : Addr) (ns : List Int), vs = [.ref a] ∧ SqL K H a (ns.map V.int) ∧ ns.length ≤ 63 ∧ NdefX.TabsN Tbl.T H ∧
  ∀ (p c : Addr) (ms : List Int) (j1 j2 j3 j4 : Int) (H' : Hp), 0 ≤ j1 → 0 ≤ j2 → 0 ≤ j3 → 0 ≤ j4 → H p = none → H c = none → p ≠ c → H' p = some (.lst (poolVs c j1 j2 j3 j4)) → H' c = some (.lst (ms.map V.int)) → (∀ n ∈ ms, 0 ≤ n) → ExN H H' → Q (.ref p) H'
def spPoolV (K : Fr) : Sp := fun vs H Q _ => ∃ (a : Addr) (ns : List Int), vs = [.ref a] ∧ SqL K H a (ns.map V.int) ∧ ns.length ≤ 63 ∧ NdefX.TabsN Tbl.T H ∧ ∀ (p c : Addr) (ms : List Int) (H' : Hp), H p = none → H c = none → p ≠ c → H' p = some (.ext (PoolO p c ms.length)) → H' c = some (.lst (ms.map V.int)) → (∀ n ∈ ms, 0 ≤ n) → ExN H H' → Q (.ref p) H'
theorem pool_made {P : Program} {w : World} {K : Fr} {mg : Str → Option Value} {base : Heap} {k : Nat} {f : Addr} {fd : FuncData} {ps : List Str} (F : FnOk P w K mg base C8.CX0 k f fd ps (spPoolIn K)) (hl : ps.length = 1) : FnOk P w K mg base C8.CX0 k f fd ps (spPoolV K) := by
  refine ⟨fun vs H Q E h => ?_, fun A outer s H args us vs Q E hr e0 hb rv hsp => ?_⟩
  · obtain ⟨p, many, rfl, _⟩ := h
    rw [hl]; rfl
  · obtain ⟨a, ns, rfl, hS, hl63, tbs, q⟩ := hsp
    have run := F.run A outer s H args us [.ref a] (fun v H2 => ∃ (p c : Addr) (ms : List Int) (j1 j2 j3 j4 : Int), v = .ref p ∧ 0 ≤ j1 ∧ 0 ≤ j2 ∧ 0 ≤ j3 ∧ 0 ≤ j4 ∧ H p = none ∧ H c = none ∧ p ≠ c ∧ H2 p = some (.lst (poolVs c j1 j2 j3 j4)) ∧ H2 c = some (.lst (ms.map V.int)) ∧ (∀ n ∈ ms, 0 ≤ n) ∧ ExN H H2) E hr e0 hb rv
      ⟨a, ns, rfl, hS, hl63, tbs, fun p c ms j1 j2 j3 j4 H' h1 h2 h3 h4 h5 h5c h6 h7 h8 h9 h10 => ⟨p, c, ms, j1, j2, j3, j4, rfl, h1, h2, h3, h4, h5, h5c, h6, h7, h8, h9, h10⟩⟩
    refine codeAny_mono run fun r s' hh => ?_
    cases r with
    | error e => exact hh
    | ok fl =>
      cases fl with
      | next => exact hh
      | brk => exact hh
      | cont => exact hh
      | ret u =>
        obtain ⟨v, H2, os, bare, un, hok, rr, p, c, ms, j1, j2, j3, j4, rfl, h1, h2, h3, h4, hn, hnc, hpc, hp2, hc2, hms, ex2⟩ := hh
        have un2 := asPool_un (n := ms.length) un hp2 (fun o e z => by
          have y := un.free p o e z (by simp)
          rw [hp2] at y; cases y)
        refine ⟨.ref p, asPool H2 p c ms.length, os, bare, un2, asPool_ok hok hp2 h1 h2 h3 h4, rr, q p c ms _ hn hnc hpc (by unfold asPool; rw [upd_same]) (by unfold asPool; rw [upd_ne hpc.symm]; exact hc2) hms ⟨fun b o e nt => ?_, fun b e => ?_, fun tb => ?_⟩⟩
        · unfold asPool
          rw [upd_ne (ne_of_none e hn)]
          exact ex2.e b o e nt
        · unfold asPool at e
          by_cases hb : b = p
          · subst hb; rw [upd_same] at e; cases e
          · rw [upd_ne hb] at e; exact ex2.f b e
        · intro x hx
          obtain ⟨ps, k1, k2, k3⟩ := ex2.t tb x hx
          have np : x.1 ≠ p := fun z => by rw [z, hp2] at k1; cases k1
          refine ⟨ps, by unfold asPool; rw [upd_ne np]; exact k1, k2, fun pos cv hc => ?_⟩
          obtain ⟨c', z1, z2⟩ := k3 pos cv hc
          have nc : c' ≠ p := fun z => by rw [z, hp2] at z2; cases z2
          exact ⟨c', z1, by unfold asPool; rw [upd_ne nc]; exact z2⟩
/-- the draw's body -/
theorem draw_in_of {st : Stmt} {P : Program} {w : World} {K : Fr} {mg : Str → Option Value} {base : Heap} {fa : Addr} {fd : FuncData} {N : List Str} {k n : Nat} {m : Env → M Oc} (F : L2.Fun K "_law_draw" "_law_draw" st fa fd) (S : FnScope N ["pool", "many"] (defScope st)) (hN : N.length = n + 2)
    (hb : ∀ (cdv : Value) (A : Around) (outer : List PySem.Env) (s : Shared) (H : Hp) (E : XK), Room k (A.deeper (envOfC "_law_draw" (defScope st) s.heap.objs.size fa cdv)) →
      ∃ t, PSs (cxOf C8.CX0 P w K mg base N "_law_draw" (defScope st) fa cdv A outer s H E).nox (defBody st) t ∧ RS K C8.E0 true t m)
    (hm : ∀ (p c : Addr) (ns : List Int) (i1 i2 i3 i4 many : Int), (∀ n ∈ ns, 0 ≤ n) → 0 ≤ i1 → 0 ≤ i2 → 0 ≤ i3 → 0 ≤ i4 → 0 < many → many < 2 ^ 200 →
      m ([.ow (some p) false [.at_ c (.lst (ns.map .int)), .int i1, .int i2, .int i3, .int i4], .sh false (.int many)] ++ List.replicate n .un)
        (fun o => ∃ ρ d j1 j2 j3 j4, o = .rt (.ow (some p) false [.at_ c (.lst (ns.map .int)), .int j1, .int j2, .int j3, .int j4] :: ρ) (.int d) ∧ 0 ≤ d ∧ d < many ∧ 0 ≤ j1 ∧ 0 ≤ j2 ∧ 0 ≤ j3 ∧ 0 ≤ j4) (fun _ => False)) : FnOk P w K mg base C8.CX0 (k + 1) fa fd ["pool", "many"] spDrawIn := by
  refine F.ok S (fun vs H Q E h => ?_) (fun cdv A outer s H vs Q E hr h => ?_)
  · obtain ⟨p, c, ns, many, i1, i2, i3, i4, rfl, _⟩ := h
    rfl
  obtain ⟨p, c, ns, many, i1, i2, i3, i4, rfl, hpc, hp, hc, hns, hm1, hm2, a1, a2, a3, a4, tb, q⟩ := h
  obtain ⟨t, ht, hr'⟩ := hb cdv A outer s H E hr
  refine ⟨t, ht, ?_⟩
  let G0 : Hp := fun a => if a = c then some (.lst (ns.map V.int)) else none
  let H0 : Hp := fun a => if a = p then none else H a
  have n0 : NoTbl G0 := fun a ps z => by
    have z : (if a = c then some (HO.lst (ns.map V.int)) else none) = some (.tbl ps) := z
    split at z <;> cases z
  have e0 : Ex G0 H := by
    refine ⟨fun a o z => ?_, n0⟩
    have z : (if a = c then some (HO.lst (ns.map V.int)) else none) = some o := z
    split at z
    · rename_i h; cases z; rw [h]; exact hc
    · cases z
  have g0 : Grow G0 H0 G0 H := ⟨e0.self, e0, ExN.of fun a o z => by
    have z : (if a = p then none else H a) = some o := z
    split at z
    · cases z
    · exact z, fun a h h' => absurd h h'⟩
  have gc : G0 c = some (.lst (ns.map V.int)) := if_pos rfl
  have gp : G0 p = none := if_neg hpc
  have hp0 : H0 p = none := if_pos rfl
  have lenN : (L2.start N [V.ref p, V.int many]).length = n + 2 := by rw [start_len N _ (by rw [hN]; simp)]; exact hN
  have r0 : RepA K (frh false H0) G0 [.at_ c (.lst (ns.map .int)), .int i1, .int i2, .int i3, .int i4] (poolVs c i1 i2 i3 i4) :=
    .cons (.at_ (.lst trivial gc (RepA.ofInts ns))) (.cons (.int _) (.cons (.int _) (.cons (.int _) (.cons (.int _) .nil))))
  have st : StR K H0 ([.ow (some p) false [.at_ c (.lst (ns.map .int)), .int i1, .int i2, .int i3, .int i4], .sh false (.int many)] ++ List.replicate n .un) (L2.start N [V.ref p, V.int many]) G0 H (fun i => if i = 0 then [p] else []) := by
    refine ⟨by rw [lenN]; simp, fun i s e => ?_, fun i e => ?_, fun i a ha => ?_, fun i j a h1 h2 => ?_, fun i => ?_⟩
    · match i with
      | 0 => cases e; exact .ow hp r0 fun q z => by cases z; rfl
      | 1 => cases e; exact .sh (.int _)
      | i + 2 =>
        have e : (List.replicate n Slot.un)[i]? = some s := by simpa using e
        rw [List.getElem?_replicate] at e
        split at e
        · cases e; exact .un _
        · cases e
    · match i with
      | 0 => cases e
      | i + 1 => rfl
    · split at ha
      · cases List.mem_singleton.mp ha; exact ⟨hp0, gp, _, hp⟩
      · cases ha
    · split at h1
      · split at h2
        · rename_i a b; rw [a, b]
        · cases h2
      · cases h1
    · show (if i = 0 then [p] else []).Nodup
      split
      · exact List.nodup_cons.mpr ⟨by simp, List.nodup_nil⟩
      · exact List.nodup_nil
  refine hr' G0 H0 _ _ G0 H _ _ _ _ g0 st (hm p c ns i1 i2 i3 i4 many hns a1 a2 a3 a4 hm1 hm2) ⟨fun ρ σ G' H' fp pm _ _ _ => ?_, fun ρ σ d v G' H' fp pm g s r => ?_, fun ρ σ G' H' fp pm _ _ _ => ?_, fun ρ σ G' H' fp pm _ _ _ => ?_, fun x cls d G' H' hx => hx.elim, tb⟩
  · obtain ⟨_, _, _, _, _, _, z, _⟩ := pm; cases z
  · obtain ⟨ρ', d', j1, j2, j3, j4, z, h1, h2, h3, h4, h5, h6⟩ := pm
    cases z
    cases r
    have z := s.sl 0 _ rfl
    generalize (σ[0]?).getD none = o at z
    generalize fp 0 = l at z
    cases z with
    | ow hp' rs had =>
      cases had p rfl
      cases rs with
      | cons r1 rs =>
        cases rs with
        | cons r2 rs =>
          cases rs with
          | cons r3 rs =>
            cases rs with
            | cons r4 rs =>
              cases rs with
              | cons r5 rs =>
                cases rs; cases r2; cases r3; cases r4; cases r5
                cases r1 with
                | at_ r1 =>
                exact q d' j1 j2 j3 j4 H' h1 h2 h3 h4 h5 h6 hp' g.ext
  · obtain ⟨_, _, _, _, _, _, z, _⟩ := pm; cases z
  · obtain ⟨_, _, _, _, _, _, z, _⟩ := pm; cases z
/-- what a draw is to its callers -/
def drawF : List D → M D
  | [.pool, .int n] => bnd (drw n) fun i => ret (.int i)
  | _ => nope
@[simp] theorem drawF_eq (n : Int) : drawF [.pool, .int n] = bnd (drw n) fun i => ret (.int i) := id rfl
theorem draw_spC {K : Fr} (vs : List V) (H : Hp) (Q : VK) (E : XK) (h : spC K true 2 drawF vs H Q E) : spDrawV vs H Q E := by
  obtain ⟨ds, G, Φ, e, r, hl, hm, tb, q⟩ := h
  unfold drawF at hm
  split at hm
  · obtain ⟨v1, v2, rfl, r1, r2⟩ := r.two
    cases r2
    cases r1 with
    | pool _ hp =>
      obtain ⟨h1, h2, h3⟩ := hm
      exact ⟨_, _, rfl, hp.mono e, h1, h2, tb, fun d H' a b x => q (.int d) _ G H' (h3 d a b) (Grow.same e x) (.int d)⟩
  · exact hm.elim
def poolF : List D → M D
  | [.scr] => ret .pool
  | _ => nope
@[simp] theorem poolF_eq : poolF [.scr] = ret .pool := id rfl
theorem pool_spC {K : Fr} (vs : List V) (H : Hp) (Q : VK) (E : XK) (h : spC K false 1 poolF vs H Q E) : spPoolV K vs H Q E := by
  obtain ⟨ds, G, Φ, e, r, hl, hm, tb, q⟩ := h
  unfold poolF at hm
  split at hm
  · obtain ⟨v1, rfl, r1⟩ := r.one
    cases r1 with
    | @scr a ns _ hs hl =>
      refine ⟨a, ns, rfl, ex_l e hs, hl, tb, fun p c ms H' np nc hpc hp hc hn x => ?_⟩
      -- the pool is known from here on
      have eG : Ex G H' := e.transN x
      have gp : G p = none := fresh_back e np
      have gc : G c = none := fresh_back e nc
      have e1 : Ex G (upd (upd G c (.lst (ms.map V.int))) p (.ext (PoolO p c ms.length))) := (Ex.new e.n gc).trans (Ex.new (e.n.upd (by intro _ z; cases z)) (by rw [upd_ne hpc]; exact gp))
      have s1 : Ex (upd (upd G c (.lst (ms.map V.int))) p (.ext (PoolO p c ms.length))) H' := by
        refine ⟨fun b o hb => ?_, (e.n.upd (by intro _ z; cases z)).upd (by intro _ z; cases z)⟩
        by_cases h1 : b = p
        · subst h1; rw [upd_same] at hb; cases hb; exact hp
        · rw [upd_ne h1] at hb
          by_cases h2 : b = c
          · subst h2; rw [upd_same] at hb; cases hb; exact hc
          · rw [upd_ne h2] at hb; exact eG b o hb
      refine q _ _ _ H' hm ⟨e1, s1, x, fun b h1 h2 => ?_⟩ (.pool rfl ⟨c, ms, upd_same, by rw [upd_ne hpc.symm, upd_same], hn⟩)
      by_cases h3 : b = p
      · subst h3; exact .inl np
      · rw [upd_ne h3] at h2
        by_cases h4 : b = c
        · subst h4; exact .inl nc
        · rw [upd_ne h4] at h2; exact absurd h1 h2
  · exact hm.elim
/-- the pool's making, by what its def computes -/
theorem pool_in_of {K : Fr} {mf : List D → M D} (hm : mf [.scr] (fun d => ∃ (ms : List Int) (j : Int), d = .lst [.lst (ms.map .int), .int 0, .int 0, .int 0, .int j] ∧ 0 ≤ j ∧ ∀ n ∈ ms, 0 ≤ n) (fun _ => False)) (vs : List V) (H : Hp) (Q : VK) (E : XK) (h : spPoolIn K vs H Q E) : spC K true 1 mf vs H Q E := by
  obtain ⟨a, ns, rfl, hS, hl, tb, q⟩ := h
  let G : Hp := fun b => match H b with
    | some (.tbl _) => none
    | o => o
  have nG : NoTbl G := fun b ps hb => by
    have hb : (match H b with
      | some (.tbl _) => none
      | o => o) = some (HO.tbl ps) := hb
    split at hb
    · cases hb
    · rename_i h; exact h ps hb
  have eG : Ex G H := ⟨fun b o hb => by
    have hb : (match H b with
      | some (.tbl _) => none
      | o => o) = some o := hb
    split at hb
    · cases hb
    · exact hb, nG⟩
  have keep : ∀ b o, H b = some o → (∀ ps, o ≠ .tbl ps) → G b = some o := fun b o hb ho => by
    show (match H b with
      | some (.tbl _) => none
      | o => o) = some o
    rw [hb]
    cases o <;> first | rfl | exact (ho _ rfl).elim
  have hS' : SqL K G a (ns.map V.int) := by
    rcases hS with (h | ⟨o, h⟩) | h
    · exact .inl (.inl (keep _ _ h (by intro _ z; cases z)))
    · exact .inl (.inr ⟨o, keep _ _ h (by intro _ z; cases z)⟩)
    · exact .inr h
  refine ⟨[.scr], G, _, eG, .cons (.scr rfl hS' hl) .nil, rfl, hm, tb, fun d v G' H' hd g r => ?_⟩
  obtain ⟨ms, j, rfl, h0, hn⟩ := hd
  obtain ⟨p, us, rfl, hp0, hp, rs⟩ := r.lst_inv
  cases rs with
  | cons r1 rs =>
    cases rs with
    | cons r2 rs =>
      cases rs with
      | cons r3 rs =>
        cases rs with
        | cons r4 rs =>
          cases rs with
          | cons r5 rs =>
            cases rs; cases r2; cases r3; cases r4; cases r5
            obtain ⟨c, us', rfl, hc0, hc, rs'⟩ := r1.lst_inv
            cases rs'.ints
            have hpc : p ≠ c := fun z => by
              subst z
              rw [hp] at hc
              have z := HO.lst.inj (Option.some.inj hc)
              cases ms with
              | nil => cases z
              | cons m ms => cases z
            exact q p c ms 0 0 0 j H' (by decide) (by decide) (by decide) h0 hp0 hc0 hpc (g.sub _ _ hp) (g.sub _ _ hc) hn g.ext
end
end VL

/-! VM14: equal data of equal kinds. -/
namespace VL
open PySem PySem.Spec PyProof.Rows L2
open M (ret bnd nope grd exn opt drw)
/-- scalars that equality is asked of -/
def simpD : D → Bool
  | .non => true | .bl _ => true | .int _ => true | .str _ => true | _ => false
/-- plain data of at most so many levels -/
inductive Pl : Nat → D → Prop
  | sc {n : Nat} {d : D} (h : simpD d = true) : Pl n d
  | lst {n : Nat} {ds : List D} (hl : ds.length ≤ 50000) (h : ∀ d ∈ ds, Pl n d) : Pl (n + 1) (.lst ds)
  | tup {n : Nat} {ds : List D} (hl : ds.length ≤ 50000) (h : ∀ d ∈ ds, Pl n d) : Pl (n + 1) (.tup ds)
theorem Pl.up {n : Nat} {d : D} (h : Pl n d) : Pl (n + 1) d := by
  induction h with
  | sc h => exact .sc h
  | lst hl _ ih => exact .lst hl ih
  | tup hl _ ih => exact .tup hl ih
theorem Pl.mono {n m : Nat} {d : D} (h : Pl n d) (l : n ≤ m) : Pl m d := by
  induction l with
  | refl => exact h
  | step _ ih => exact ih.up
mutual
/-- the same data of the same kinds -/
def sameD : D → D → Bool
  | .non, .non => true
  | .bl a, .bl b => decide (a = b)
  | .int a, .int b => decide (a = b)
  | .str a, .str b => decide (a = b)
  | .lst as, .lst bs => sameL as bs
  | .tup as, .tup bs => sameL as bs
  | _, _ => false
def sameL : List D → List D → Bool
  | [], [] => true
  | a :: as, b :: bs => sameD a b && sameL as bs
  | _, _ => false
end
mutual
theorem sameD_refl : ∀ {n : Nat} {d : D}, Pl n d → sameD d d = true
  | _, .non, _ => rfl
  | _, .bl _, _ => by simp [sameD]
  | _, .int _, _ => by simp [sameD]
  | _, .str _, _ => by simp [sameD]
  | _, .lst ds, h => by
    cases h with
    | sc h => cases h
    | lst hl h => exact sameL_refl ds h
  | _, .tup ds, h => by
    cases h with
    | sc h => cases h
    | tup hl h => exact sameL_refl ds h
  | _, .ins _ _ _, h => by cases h with | sc h => cases h
  | _, .scr, h => by cases h with | sc h => cases h
  | _, .fn _, h => by cases h with | sc h => cases h
  | _, .dct _ _, h => by cases h with | sc h => cases h
  | _, .dctT _ _, h => by cases h with | sc h => cases h
  | _, .clo _ _, h => by cases h with | sc h => cases h
  | _, .at_ _ _, h => by cases h with | sc h => cases h
  | _, .exc _ _ _ _ _, h => by cases h with | sc h => cases h
  | _, .pool, h => by cases h with | sc h => cases h
  | _, .ty _, h => by cases h with | sc h => cases h
theorem sameL_refl : ∀ {n : Nat} (ds : List D), (∀ d ∈ ds, Pl n d) → sameL ds ds = true
  | _, [], _ => rfl
  | _, d :: ds, h => by
    show (sameD d d && sameL ds ds) = true
    rw [sameD_refl (h d List.mem_cons_self), sameL_refl ds fun x hx => h x (List.mem_cons_of_mem _ hx)]; rfl
end
theorem sameL_len : ∀ {as bs : List D}, as.length ≠ bs.length → sameL as bs = false
  | [], [], h => absurd rfl h
  | [], _ :: _, _ => rfl
  | _ :: _, [], _ => rfl
  | a :: as, b :: bs, h => by
    show (sameD a b && sameL as bs) = false
    rw [sameL_len (as := as) (bs := bs) fun e => h (by rw [List.length_cons, List.length_cons, e]), Bool.and_false]
theorem sameL_no : ∀ {as bs : List D} {i : Nat} {a b : D}, as[i]? = some a → bs[i]? = some b → sameD a b = false → sameL as bs = false
  | [], _, _, _, _, h, _, _ => by simp at h
  | _ :: _, [], _, _, _, _, h, _ => by simp at h
  | a :: as, b :: bs, 0, x, y, h1, h2, h3 => by
    simp at h1 h2; subst h1; subst h2
    show (sameD a b && sameL as bs) = false
    rw [h3]; rfl
  | a :: as, b :: bs, i + 1, x, y, h1, h2, h3 => by
    show (sameD a b && sameL as bs) = false
    rw [sameL_no (i := i) (by simpa using h1) (by simpa using h2) h3, Bool.and_false]
theorem sameL_yes : ∀ {as bs : List D}, as.length = bs.length → (∀ (i : Nat) a b, as[i]? = some a → bs[i]? = some b → sameD a b = true) → sameL as bs = true
  | [], [], _, _ => rfl
  | [], _ :: _, h, _ => by simp at h
  | _ :: _, [], h, _ => by simp at h
  | a :: as, b :: bs, h, k => by
    show (sameD a b && sameL as bs) = true
    rw [k 0 a b rfl rfl, sameL_yes (by simpa using h) fun i x y h1 h2 => k (i + 1) x y (by simpa using h1) (by simpa using h2)]; rfl
theorem Pl.ints {k : Nat} {xs : List Int} (h : xs.length ≤ 50000) : Pl (k + 1) (blockD xs) := .lst (by rw [List.length_map]; exact h) fun d hd => by
  obtain ⟨x, _, rfl⟩ := List.mem_map.mp hd
  exact .sc rfl
theorem Pl.intsT {k : Nat} {xs : List Int} (h : xs.length ≤ 50000) : Pl (k + 1) (.tup (xs.map D.int)) := .tup (by rw [List.length_map]; exact h) fun d hd => by
  obtain ⟨x, _, rfl⟩ := List.mem_map.mp hd
  exact .sc rfl
theorem Pl.rows {k : Nat} {rs : List (List Int)} (h : rs.length ≤ 50000) (hr : ∀ r ∈ rs, r.length ≤ 50000) : Pl (k + 2) (rowsD rs) := .lst (by rw [List.length_map]; exact h) fun d hd => by
  obtain ⟨r, mr, rfl⟩ := List.mem_map.mp hd
  exact Pl.ints (hr r mr)
/-- what the law's own equality is to its callers -/
def sameF : List D → M D
  | [a, b] => grd (Pl 8 a ∧ Pl 8 b) (ret (.bl (sameD a b)))
  | _ => nope
theorem sameF_eq {a b : D} (ha : Pl 8 a) (hb : Pl 8 b) : sameF [a, b] = ret (.bl (sameD a b)) := M.grd_pos ⟨ha, hb⟩ _
theorem sameF_refl {a : D} (ha : Pl 8 a) : sameF [a, a] = ret (.bl true) := by rw [sameF_eq ha ha, sameD_refl ha]
end VL

/-! VM15: methods of lists. -/
namespace VL
open PySem PySem.Spec PyProof.Rows L2
open M (ret bnd nope grd exn opt drw)
theorem pe_bmK {X : Cx} {K : Fr} (hK : X.K = K) {T : String} {name : Str} {id : String} {r : V → List V → Hp → VK → Prop} {o e : Expr} {es : List Expr} {to : TE} {t : TA} {apos cpos : Pos} (pa : PlainAttrs T) (slot : PySem.Slot T name id) (hty : typeOf (.builtin id) = pure (.type "method_descriptor")) (hm : MtR X id r) (ho : PE X o to) (ha : PA X (e :: es) t) (hbase : attributeBase o name X.env (eval o X.env) = eval o X.env := by rfl) (hfew : ((backTo cpos (starEach (e :: es) X.env)).all (fun x => !x.1) && (backToKw cpos (keywordEach [] X.env)).all (fun x => x.1.isSome) && decide ((e :: es).length + ([] : List Keyword).length + (if ([] : List Keyword).isEmpty then 0 else 1) < 30)) = true := by rfl) (hline : (apos.endLine == cpos.line) = true := by rfl) (hs : starEach (e :: es) X.env = (false, eval e X.env) :: starEach es X.env := by rfl) (hplain : (backTo cpos (starEach es X.env)).any (·.1) = false := by rfl) : PE X (.Call (.Attribute o name apos) (e :: es) [] cpos) (tBM K T r to t) := hK ▸ pe_bm pa slot hty hm ho ha hbase hfew hline hs hplain
section
variable [Tbl] {K : Fr} {EE : XK} {f : Bool} {te : TE} {tr : TA} {ma : VE → M D} {mr : VE → M (List D)}
theorem mt_indexUK {X : Cx} (hK : X.K = K) (hu : X.A.units + 65 < cLine) : MtR X "list.index" (rIndexD K) := hK ▸ mt_indexD hu
/-- l.index(x): the first place -/
def indexD (ds : List D) : List D → Option D
  | [a] => match toPs ds, toP a with
    | some ps, some p => if SeqAt.shaped (.list ps) = true ∧ SeqAt.shaped p = true then (ps.findIdx? fun z => PyData.eqv z p).map fun j => .int (j : Nat) else none
    | _, _ => none
  | _ => none
def mML (o : List D → List D → Option D) (ma : VE → M D) (mr : VE → M (List D)) : VE → M D := fun ve => bnd (ma ve) fun a => bnd (opt (tLs a)) fun ds => bnd (mr ve) fun as => opt (o ds as)
@[simp] theorem mML_ap {o : List D → List D → Option D} {ve : VE} : mML o ma mr ve = bnd (ma ve) fun a => bnd (opt (tLs a)) fun ds => bnd (mr ve) fun as => opt (o ds as) := id rfl
theorem xe_index (h : XE K EE false te ma) (hr : XA K EE false tr mr) : XE K EE f (tBM K "list" (rIndexD K) te tr) (mML indexD ma mr) := fun Hb ve σ G H Φ Ξ c m Q q =>
  h Hb ve σ G H _ Ξ c m _ fun a x G1 H1 p1 g1 r1 => by
    obtain ⟨ds, e, p1⟩ := M.opt_inv p1
    have e := tLs_inv e
    subst e
    have r1' := r1
    obtain ⟨p, us, rfl, _, hp, ru⟩ := r1'.lst_inv
    refine ⟨Or.inl ⟨rfl, _, SqL.of (g1.sub _ _ hp)⟩, hr Hb ve σ G1 H1 _ Ξ (c.grow g1) p1 _ fun as xs G2 H2 p2 g2 r2 => ?_⟩
    obtain ⟨z, e, p2⟩ := M.opt_inv p2
    unfold indexD at e
    split at e
    · rename_i a0
      split at e
      · rename_i ps p0 hps hp0
        split at e
        · rename_i hsh
          simp only [Option.map_eq_some_iff] at e
          obtain ⟨j, hj, rfl⟩ := e
          cases r2 with
          | cons ra rt =>
            cases rt
            have hd := (r1.mono g2.e).dp g2.sub (.lst ds) _ (.list ps) (by simp [toP, hps])
            have hy := ra.dp g2.sub _ _ p0 hp0
            obtain ⟨hj1, hj2, hj3⟩ := List.findIdx?_eq_some_iff_getElem.mp hj
            refine ⟨p, _, p0, ps, j, ps[j], rfl, rfl, hd, hy, hsh.1, hsh.2, List.getElem?_eq_getElem hj1, hj2, fun m z' hm hz => ?_, q _ _ G2 H2 p2 (g1.trans g2) (.int _)⟩
            obtain ⟨hm1, hm2⟩ := List.getElem?_eq_some_iff.mp hz
            have := hj3 m hm
            rw [hm2] at this
            simpa using this
        · cases e
      · cases e
    · cases e
end
end VL

/-! VM16: data new all through, whose lists are added to. -/
namespace VL
open PySem PySem.Spec PyProof.Rows L2
open M (ret bnd nope grd exn opt drw)
/-- the whole law, by what it computes -/
def spLaw [Tbl] (K : Fr) : Sp := fun vs H Q _ => ∃ (a : Addr) (ns : List Int), vs = [.ref a] ∧ SqL K H a (ns.map V.int) ∧ ns.length ≤ 63 ∧ NdefX.TabsN Tbl.T H ∧ ∀ H', Q (.bl true) H'
theorem law_of [Tbl] {K : Fr} {mf : List D → M D} (hm : mf [.scr] (fun d => d = .bl true) (fun _ => False)) (vs : List V) (H : Hp) (Q : VK) (E : XK) (h : spLaw K vs H Q E) : spC K true 1 mf vs H Q E := by
  obtain ⟨a, ns, rfl, hS, hl, tb, q⟩ := h
  let G : Hp := fun b => match H b with
    | some (.tbl _) => none
    | o => o
  have nG : NoTbl G := fun b ps hb => by
    have hb : (match H b with
      | some (.tbl _) => none
      | o => o) = some (HO.tbl ps) := hb
    split at hb
    · cases hb
    · rename_i h; exact h ps hb
  have eG : Ex G H := ⟨fun b o hb => by
    have hb : (match H b with
      | some (.tbl _) => none
      | o => o) = some o := hb
    split at hb
    · cases hb
    · exact hb, nG⟩
  have keep : ∀ b o, H b = some o → (∀ ps, o ≠ .tbl ps) → G b = some o := fun b o hb ho => by
    show (match H b with
      | some (.tbl _) => none
      | o => o) = some o
    rw [hb]
    cases o <;> first | rfl | exact (ho _ rfl).elim
  have hS' : SqL K G a (ns.map V.int) := by
    rcases hS with (h | ⟨o, h⟩) | h
    · exact .inl (.inl (keep _ _ h (by intro _ z; cases z)))
    · exact .inl (.inr ⟨o, keep _ _ h (by intro _ z; cases z)⟩)
    · exact .inr h
  refine ⟨[.scr], G, _, eG, .cons (.scr rfl hS' hl) .nil, rfl, hm, tb, fun d v G' H' hd g r => ?_⟩
  subst hd
  cases r
  exact q H'

/-! ### data that may be added to -/
mutual
def jkOk (b : Nat) : D → Bool
  | .non => true
  | .bl _ => true
  | .int _ => true
  | .str _ => true
  | .lst ds => decide (ds.length ≤ b) && jkOks b ds
  | .tup ds => jkOks b ds
  | _ => false
def jkOks (b : Nat) : List D → Bool
  | [] => true
  | d :: ds => jkOk b d && jkOks b ds
end
def dd : List Addr → List Addr
  | [] => []
  | a :: l => if a ∈ l then dd l else a :: dd l
theorem mem_dd {a : Addr} : ∀ {l : List Addr}, a ∈ dd l ↔ a ∈ l
  | [] => Iff.rfl
  | x :: l => by
    unfold dd
    split
    · rename_i h
      rw [mem_dd, List.mem_cons]
      exact ⟨.inr, fun z => z.elim (fun e => e ▸ h) id⟩
    · rw [List.mem_cons, List.mem_cons, mem_dd]
theorem nodup_dd : ∀ {l : List Addr}, (dd l).Nodup
  | [] => List.nodup_nil
  | x :: l => by
    unfold dd
    split
    · exact nodup_dd
    · rename_i h
      exact List.nodup_cons.mpr ⟨fun z => h (mem_dd.mp z), nodup_dd⟩
section
variable [Tbl] {K : Fr} {EE : XK} {fr f f1 : Bool} {H0 G0 : Hp} {ρ ρ' : Env} {σ : L2.St} {G G' H H' G1 H1 : Hp} {Ξ : Exn → Prop} {Φ : Oc → Prop} {De : Ends} {d : D} {v : V} {ds : List D} {vs : List V} {fp : Nat → List Addr} {i j : Nat} {s : Slot}
variable {te ta ti tk : TE} {ma mi' me mk : VE → M D}
mutual
theorem jr_of {Hb : Hp} {b : Nat} : ∀ {d : D} {v : V}, Rep K (some Hb) G d v → jkOk b d = true → ∃ l : List Addr, (∀ a ∈ l, Hb a = none ∧ ∃ vs, G a = some (.lst vs) ∧ vs.length ≤ b) ∧
    ∀ (G' H : Hp) (l' : List Addr), (∀ a ∈ l, a ∈ l') → (∀ a vs, SqT K G a vs → SqT K G' a vs) → (∀ a ∈ l, H a = G a) → JR K l' true b G' H d v
  | _, _, .non, _ => ⟨[], (fun _ h => nomatch h), fun _ _ _ _ _ _ => .non⟩
  | _, _, .bl x, _ => ⟨[], (fun _ h => nomatch h), fun _ _ _ _ _ _ => .bl x⟩
  | _, _, .int x, _ => ⟨[], (fun _ h => nomatch h), fun _ _ _ _ _ _ => .int x⟩
  | _, _, .str x, _ => ⟨[], (fun _ h => nomatch h), fun _ _ _ _ _ _ => .str x⟩
  | _, _, .lst (a := a) (vs := vs) (ds := ds) f h t, hk => by
    unfold jkOk at hk
    rw [Bool.and_eq_true, decide_eq_true_eq] at hk
    obtain ⟨l, h1, h2⟩ := jrs_of t hk.2
    refine ⟨a :: l, fun x hx => ?_, fun G' H l' hl hs hh => ?_⟩
    · rcases List.mem_cons.mp hx with rfl | hx
      · exact ⟨f, vs, h, by rw [← t.length]; exact hk.1⟩
      · exact h1 x hx
    · have e := t.length
      refine .lst (hl _ List.mem_cons_self) (by rw [hh _ List.mem_cons_self]; exact h) (by omega) (fun _ => e) ?_
      rw [e, List.take_length]
      exact h2 G' H l' (fun x hx => hl x (List.mem_cons_of_mem _ hx)) hs fun x hx => hh x (List.mem_cons_of_mem _ hx)
  | _, _, .tup h t, hk => by
    unfold jkOk at hk
    obtain ⟨l, h1, h2⟩ := jrs_of t hk
    exact ⟨l, h1, fun G' H l' hl hs hh => .tup (hs _ _ h) (h2 G' H l' hl hs hh)⟩
  | _, _, .ins _ _ _, hk => by simp [jkOk] at hk
  | _, _, .pool _ _, hk => by simp [jkOk] at hk
  | _, _, .ty _, hk => by simp [jkOk] at hk
  | _, _, .scr _ _ _, hk => by simp [jkOk] at hk
  | _, _, .fn _, hk => by simp [jkOk] at hk
  | _, _, .dct _ _ _ _, hk => by simp [jkOk] at hk
  | _, _, .dctT _ _ _ _, hk => by simp [jkOk] at hk
  | _, _, .clo _ _, hk => by simp [jkOk] at hk
  | _, _, .at_ _, hk => by simp [jkOk] at hk
  | _, _, .exc _ _ _, hk => by simp [jkOk] at hk
theorem jrs_of {Hb : Hp} {b : Nat} : ∀ {ds : List D} {vs : List V}, RepA K (some Hb) G ds vs → jkOks b ds = true → ∃ l : List Addr, (∀ a ∈ l, Hb a = none ∧ ∃ vs, G a = some (.lst vs) ∧ vs.length ≤ b) ∧
    ∀ (G' H : Hp) (l' : List Addr), (∀ a ∈ l, a ∈ l') → (∀ a vs, SqT K G a vs → SqT K G' a vs) → (∀ a ∈ l, H a = G a) → JRA K l' true b G' H ds vs
  | _, _, .nil, _ => ⟨[], (fun _ h => nomatch h), fun _ _ _ _ _ _ => .nil⟩
  | _, _, .cons h t, hk => by
    unfold jkOks at hk
    rw [Bool.and_eq_true] at hk
    obtain ⟨l, h1, h2⟩ := jr_of h hk.1
    obtain ⟨k, k1, k2⟩ := jrs_of t hk.2
    refine ⟨l ++ k, fun x hx => (List.mem_append.mp hx).elim (h1 x) (k1 x), fun G' H l' hl hs hh => .cons (h2 G' H l' (fun x hx => hl x (List.mem_append_left _ hx)) hs fun x hx => hh x (List.mem_append_left _ hx)) (k2 G' H l' (fun x hx => hl x (List.mem_append_right _ hx)) hs fun x hx => hh x (List.mem_append_right _ hx))⟩
end
mutual
/-- a list is added to -/
theorem JR.add {l l' : List Addr} {ex : Bool} {b : Nat} {a : Addr} {us ws : List V} (ha : H a = some (.lst us)) (hl : ∀ x ∈ l, x ∈ l') (hH : ∀ x ∈ l, x ≠ a → H' x = H x) (hH' : H' a = some (.lst (us ++ ws))) {b' : Nat} : ∀ {d : D} {v : V}, JR K l ex b G H d v → JR K l' false b' G H' d v
  | _, _, .non => .non
  | _, _, .bl x => .bl x
  | _, _, .int x => .int x
  | _, _, .str x => .str x
  | _, _, .lst (a := y) (vs := vs) (ds := ds) hy h1 h2 h3 t => by
    have t' := JRA.add (l' := l') (b' := b') ha hl hH hH' t
    by_cases e : y = a
    · subst e
      rw [ha] at h1; cases h1
      refine .lst (hl _ hy) hH' (by rw [List.length_append]; omega) (fun z => by cases z) ?_
      rw [List.take_append_of_le_length h2]
      exact t'
    · exact .lst (hl _ hy) (by rw [hH _ hy e]; exact h1) h2 (fun z => by cases z) t'
  | _, _, .tup h t => .tup h (JRA.add ha hl hH hH' t)
theorem JRA.add {l l' : List Addr} {ex : Bool} {b : Nat} {a : Addr} {us ws : List V} (ha : H a = some (.lst us)) (hl : ∀ x ∈ l, x ∈ l') (hH : ∀ x ∈ l, x ≠ a → H' x = H x) (hH' : H' a = some (.lst (us ++ ws))) {b' : Nat} : ∀ {ds : List D} {vs : List V}, JRA K l ex b G H ds vs → JRA K l' false b' G H' ds vs
  | _, _, .nil => .nil
  | _, _, .cons h t => .cons (JR.add ha hl hH hH' h) (JRA.add ha hl hH hH' t)
end
theorem JRA.get {l : List Addr} {ex : Bool} {b : Nat} {i : Nat} : ∀ {ds : List D} {vs : List V} {d : D}, JRA K l ex b G H ds vs → ds[i]? = some d → ∃ v, vs[i]? = some v ∧ JR K l ex b G H d v := by
  induction i with
  | zero =>
    intro ds vs d h e
    cases h with
    | nil => cases e
    | cons h t => cases e; exact ⟨_, rfl, h⟩
  | succ i ih =>
    intro ds vs d h e
    cases h with
    | nil => cases e
    | cons h t => exact ih t e
theorem JRA.length {l : List Addr} {ex : Bool} {b : Nat} : ∀ {ds : List D} {vs : List V}, JRA K l ex b G H ds vs → ds.length = vs.length
  | _, _, .nil => rfl
  | _, _, .cons _ t => by rw [List.length_cons, List.length_cons, t.length]
/-- slot i is given data of one's own -/
theorem StR.setJk {ex : Bool} {b : Nat} {l : List Addr} (h : StR K H0 ρ σ G H fp) (hl : ∀ a ∈ l, H0 a = none ∧ G a = none ∧ ∃ vs, H a = some (.lst vs) ∧ vs.length ≤ b) (hn : ∀ a ∈ l, ∀ j, a ∉ fp j) (nd : l.Nodup) (r : JR K l ex b G H d v) : ∃ fp', StR K H0 (ρ.set i (.jk ex b d)) (σ.set i (some v)) G H fp' := by
  by_cases hi : i < ρ.length
  · refine ⟨fset fp i l, by rw [List.length_set, List.length_set, h.len], fun j s e => ?_, fun j e => ?_, fun j a ha => ?_, fun j k a h1 h2 => ?_, fun j => ?_⟩
    · by_cases hj : i = j
      · subst hj
        rw [List.getElem?_set_self hi] at e; cases e
        rw [List.getElem?_set_self (h.len ▸ hi)]
        unfold fset; rw [if_pos rfl]
        exact .jk r fun a ha => (hl a ha).2.2
      · rw [List.getElem?_set_ne hj] at e ⊢
        unfold fset; rw [if_neg (fun z => hj z.symm)]
        exact h.sl j s e
    · unfold fset; split
      · rename_i q; subst q
        rw [List.getElem?_eq_none_iff, List.length_set] at e; omega
      · exact h.out j (by rw [List.getElem?_eq_none_iff] at e ⊢; rw [List.length_set] at e; exact e)
    · unfold fset at ha; split at ha
      · obtain ⟨h1, h2, vs, h3, _⟩ := hl a ha
        exact ⟨h1, h2, vs, h3⟩
      · exact h.fr j a ha
    · unfold fset at h1 h2; split at h1
      · rename_i q1
        split at h2
        · rename_i q2; rw [q1, q2]
        · exact (hn a h1 k h2).elim
      · split at h2
        · exact (hn a h2 j h1).elim
        · exact h.dj j k a h1 h2
    · unfold fset; split
      · exact nd
      · exact h.nd j
  · exact ⟨fp, by
      have e1 : ρ.set i (.jk ex b d) = ρ := List.set_eq_of_length_le (by omega)
      have e2 : σ.set i (some v) = σ := List.set_eq_of_length_le (by rw [← h.len]; omega)
      rw [e1, e2]; exact h⟩
/-- what is new all through becomes one's own -/
def sJ (b : Nat) (i : Nat) (me : VE → M D) : Env → M Oc := fun ρ => bnd (me (vB ρ)) fun d => grd (jkOk b d = true) (ret (.nx (ρ.set i (.jk true b d))))
theorem r_asgJ {b : Nat} (h : XE K EE true te me) : RS K EE fr (tAsg te (gName i)) (sJ b i me) := fun G0 H0 ρ σ G H fp De Φ Ξ gr st m k =>
  h H _ σ _ H _ Ξ (k.cvB gr st) m _ fun d v G1 H1 pm g r => by
    obtain ⟨hk, pm⟩ := pm
    have g' := st.evB gr g
    obtain ⟨l, hl, hj⟩ := jr_of (b := b) r hk
    let G2 : Hp := fun a => if a ∈ l then none else lessG fp ρ.length G1 a
    have gc : Grow G H G2 H1 := ⟨⟨fun a o ha => by
        show (if a ∈ l then none else lessG fp ρ.length G1 a) = some o
        rw [if_neg (fun z => by rw [fresh_back gr.sub (hl a z).1] at ha; cases ha)]; exact g'.e a o ha, gr.sub.n⟩, ⟨fun a o ha => by
        have ha : (if a ∈ l then none else lessG fp ρ.length G1 a) = some o := ha
        split at ha
        · cases ha
        · exact g'.sub a o ha, fun a ps ha => by
        have ha : (if a ∈ l then none else lessG fp ρ.length G1 a) = some (.tbl ps) := ha
        split at ha
        · cases ha
        · exact g'.sub.n a ps ha⟩, g'.ext, fun a h1 h2 => by
        have h2 : (if a ∈ l then none else lessG fp ρ.length G1 a) ≠ none := h2
        split at h2
        · exact (h2 rfl).elim
        · rename_i hz; exact (g'.new a h1 h2).imp id fun ⟨q, e⟩ => ⟨q, (if_neg hz).trans e⟩⟩
    have kp : ∀ a vs, SqT K G1 a vs → SqT K G2 a vs := fun a vs hs => by
      have one : ∀ o, G1 a = some o → isFr o = false → G2 a = some o := fun o ho hf => by
        show (if a ∈ l then none else lessG fp ρ.length G1 a) = some o
        rw [if_neg (fun z => by
          obtain ⟨_, ws, hw, _⟩ := hl a z
          rw [hw] at ho; cases ho; cases hf)]
        exact st.cutG g a o ho fun z => by rw [hf] at z; cases z
      rcases hs with (h1 | ⟨o, h1⟩) | h1
      · exact .inl (.inl (one _ h1 rfl))
      · exact .inl (.inr ⟨o, one _ h1 rfl⟩)
      · exact .inr h1
    have jr := hj G2 H1 (dd l) (fun a ha => mem_dd.mpr ha) kp fun a ha => by
      obtain ⟨_, ws, hw, _⟩ := hl a ha
      rw [hw, g.sub _ _ hw]
    obtain ⟨fp', s'⟩ := (st.grow gc).setJk (i := i) (l := dd l) (fun a ha => by
      obtain ⟨h1, ws, hw, hb⟩ := hl a (mem_dd.mp ha)
      exact ⟨gr.ext.f _ h1, if_pos (mem_dd.mp ha), ws, g.sub _ _ hw, hb⟩) (fun a ha => st.newP (hl a (mem_dd.mp ha)).1) nodup_dd jr
    exact k.nx _ _ G2 H1 _ pm gc.e (gr.trans gc) s'
/-- the way to a list in it -/
def XJ (K : Fr) (EE : XK) (i : Nat) (tp : TE) (mp : VE → Bool → D → M D) : Prop := ∀ G0 H0 ρ σ G H fp fr De Φo Ξ Φ ex b d, Grow G0 H0 G H → StR K H0 ρ σ G H fp → EndOk K EE fr G0 H0 G De Φo Ξ → ρ[i]? = some (.jk ex b d) → mp (vB ρ) ex d Φ Ξ →
  ∀ Q : VK, (∀ d' v' G' H', Φ d' → Grow G H G' H' → JR K (fp i) ex b G' H' d' v' → Q v' H') → tp σ H Q
def jpV : VE → Bool → D → M D := fun _ _ d => ret d
theorem xj_var : XJ K EE i (tVar i) jpV := fun G0 H0 ρ σ G H fp fr De Φo Ξ Φ ex b d gr st k hi m Q q => by
  have z := st.sl i _ hi
  have hl : i < ρ.length := (List.getElem?_eq_some_iff.mp hi).1
  obtain ⟨o, ho⟩ : ∃ o, σ[i]? = some o := ⟨_, List.getElem?_eq_getElem (st.len ▸ hl)⟩
  rw [ho, Option.getD_some] at z
  generalize hf : fp i = l at z q
  cases z with
  | jk r hb0 => exact ⟨_, ho, q d _ G H m (Grow.refl gr.sub) r⟩
def jIx (ex : Bool) : D → D → Option D
  | .lst ds, .int k => if 0 ≤ k ∨ ex = true then atI ds k else none
  | .tup ds, .int k => atI ds k
  | _, _ => none
@[simp] theorem jIx_lst (ex : Bool) (ds : List D) (k : Int) : jIx ex (.lst ds) (.int k) = if 0 ≤ k ∨ ex = true then atI ds k else none := id rfl
@[simp] theorem jIx_tup (ex : Bool) (ds : List D) (k : Int) : jIx ex (.tup ds) (.int k) = atI ds k := id rfl
def jpIx (mp : VE → Bool → D → M D) (mk : VE → M D) : VE → Bool → D → M D := fun ve ex d => bnd (mp ve ex d) fun d' => bnd (mk ve) fun x => opt (jIx ex d' x)
@[simp] theorem jpIx_ap {mp : VE → Bool → D → M D} {ve : VE} {ex : Bool} {d : D} : jpIx mp mk ve ex d = bnd (mp ve ex d) fun d' => bnd (mk ve) fun x => opt (jIx ex d' x) := id rfl
theorem xj_ix {tp : TE} {mp : VE → Bool → D → M D} (h : XJ K EE i tp mp) (hk : XE K EE false tk mk) : XJ K EE i (tOp (rIxU K) tp tk) (jpIx mp mk) := fun G0 H0 ρ σ G H fp fr De Φo Ξ Φ ex b d gr st k hi m Q q =>
  h G0 H0 ρ σ G H fp fr De Φo Ξ _ ex b d gr st k hi m _ fun d' v' G1 H1 p1 g1 r1 => by
    have st1 := st.grow g1
    have gr1 := gr.trans g1
    refine hk H1 _ σ _ H1 _ Ξ ((k.on g1.e).cvB gr1 st1) p1 _ fun x w G2 H2 p2 g2 r2 => ?_
    obtain ⟨z, e, p3⟩ := M.opt_inv p2
    clear p2
    have g2' := st1.evB gr1 g2
    have r1' : JR K (fp i) ex b (lessG fp ρ.length G2) H2 d' v' := r1.to g2'.e fun a ha => by
      obtain ⟨_, h2, vs, h3⟩ := st1.fr i a ha
      rw [(g2'.keep h3 h2).1, h3]
    unfold jIx at e
    split at e
    · rename_i ds kk
      cases r2
      split at e
      · rename_i hc
        cases r1' with
        | lst ha h1 h2 h3 t =>
          rename_i a vs
          obtain ⟨n, hn, hv⟩ := atI_len (ys := vs.take ds.length) t.length e
          obtain ⟨w, hw, rw'⟩ := t.get hn
          have hw2 : vs[n]? = some w := by
            have hlt := (List.getElem?_eq_some_iff.mp hn).1
            rw [List.getElem?_take_of_lt hlt] at hw
            exact hw
          have ha2 : atI vs kk = some w := by
            rcases hc with hc | hc
            · unfold atI at e ⊢
              unfold ixN at e ⊢
              rw [if_pos hc] at e ⊢
              split at e
              · rename_i h5
                rw [if_pos (by omega)]
                have e : ds[kk.toNat]? = some z := e
                have hv2 := hv w hw
                unfold atI ixN at hv2
                rw [if_pos hc] at hv2
                split at hv2
                · have hv2 : (vs.take ds.length)[kk.toNat]? = some w := hv2
                  have hlt := (List.getElem?_eq_some_iff.mp e).1
                  rw [List.getElem?_take_of_lt hlt] at hv2
                  exact hv2
                · cases hv2
              · cases e
            · have hv2 := hv w hw
              rw [h3 hc, List.take_length] at hv2
              exact hv2
          exact .inl (.inl ⟨a, vs, _, w, rfl, rfl, SqL.of h1, ha2, q z w _ H2 p3 (g1.trans g2') rw'⟩)
      · cases e
    · rename_i ds kk
      cases r2
      cases r1' with
      | tup h1 t =>
        rename_i a vs
        obtain ⟨n, hn, hv⟩ := atI_len (ys := vs) t.length e
        obtain ⟨w, hw, rw'⟩ := t.get hn
        exact .inl (.inr (.inl ⟨a, vs, _, w, rfl, rfl, ex_t g2'.sub h1, hv w hw, q z w _ H2 p3 (g1.trans g2') rw'⟩))
    · cases e
def getJ (ρ : Env) (i : Nat) : Option (Bool × Nat × D) := match ρ[i]? with
  | some (.jk ex b d) => some (ex, b, d)
  | _ => none
theorem getJ_inv {p : Bool × Nat × D} (h : getJ ρ i = some p) : ρ[i]? = some (.jk p.1 p.2.1 p.2.2) := by
  unfold getJ at h
  split at h
  · rename_i a f ds e; cases h; exact e
  · cases h
/-- way.append(e) -/
def sJApp (i : Nat) (mp : VE → Bool → D → M D) (me : VE → M D) : Env → M Oc := fun ρ => bnd (opt (getJ ρ i)) fun p => grd (p.2.1 < 100000) (bnd (mp (vB ρ) p.1 p.2.2) fun x => bnd (opt (tLs x)) fun _ => bnd (me (vB ρ)) fun _ => ret (.nx (ρ.set i (.jk false (p.2.1 + 1) p.2.2))))
theorem StR.addJk {ex : Bool} {b : Nat} {a : Addr} {us : List V} (gself : Ex G G) (h : StR K H0 ρ σ G H fp) (hi : ρ[i]? = some (.jk ex b d)) (ha : a ∈ fp i) (hH : H a = some (.lst us)) (w : V) : StR K H0 (ρ.set i (.jk false (b + 1) d)) σ G (upd H a (.lst (us ++ [w]))) fp := by
  have hl : i < ρ.length := (List.getElem?_eq_some_iff.mp hi).1
  have fr := h.fr i a ha
  refine ⟨by rw [List.length_set, h.len], fun j s e => ?_, fun j e => ?_, fun j x hx => ?_, h.dj, h.nd⟩
  · by_cases hj : i = j
    · subst hj
      rw [List.getElem?_set_self hl] at e; cases e
      have z := h.sl i _ hi
      revert z ha
      generalize (σ[i]?).getD none = o
      generalize fp i = l
      intro ha z
      cases z with
      | jk r hb =>
        refine .jk (r.add hH (fun x hx => hx) (fun x hx hne => upd_ne hne) upd_same) fun x hx => ?_
        obtain ⟨vs, h1, h2⟩ := hb x hx
        by_cases q : x = a
        · subst q
          rw [hH] at h1; cases h1
          exact ⟨_, upd_same, by rw [List.length_append, List.length_singleton]; omega⟩
        · exact ⟨vs, by rw [upd_ne q]; exact h1, by omega⟩
    · rw [List.getElem?_set_ne hj] at e
      have zj := h.sl j s e
      have hne : ∀ x ∈ fp j, x ≠ a := fun x hx q => hj (h.dj i j a ha (by rw [← q]; exact hx))
      revert zj hne
      generalize (σ[j]?).getD none = o
      generalize fp j = lj
      intro zj hne
      cases zj with
      | un => exact .un _
      | sh r => exact .sh r
      | ow hq rq ha => exact .ow (by rw [upd_ne (hne _ (by simp))]; exact hq) rq ha
      | rw hq rq => exact .rw (by rw [upd_ne (hne _ (by simp))]; exact hq) (rq.to gself fun a ha => upd_ne (hne a (List.mem_cons_of_mem _ ha)))
      | jk r hl => exact SlR.jkTo gself (fun a ha => upd_ne (hne a ha)) r hl
  · exact h.out j (by rw [List.getElem?_eq_none_iff] at e ⊢; rw [List.length_set] at e; exact e)
  · obtain ⟨h1, h2, ws, h3⟩ := h.fr j x hx
    by_cases q : x = a
    · subst q; exact ⟨h1, h2, _, upd_same⟩
    · exact ⟨h1, h2, ws, by rw [upd_ne q]; exact h3⟩
theorem r_jApp {tp : TE} {mp : VE → Bool → D → M D} (hp : XJ K EE i tp mp) (h : XE K EE false te me) : RS K EE fr (tDrop (tBM K "list" rAppend tp (tCons te tNil))) (sJApp i mp me) := fun G0 H0 ρ σ G H fp De Φ Ξ gr st m k => by
  obtain ⟨⟨ex, b, d⟩, e, hb, m⟩ := M.opt_inv m
  have hi := getJ_inv e
  refine hp G0 H0 ρ σ G H fp fr De Φ Ξ _ ex b d gr st k hi m _ fun d' v' G1 H1 p1 g1 r1 => ?_
  obtain ⟨ds, e1, p1⟩ := M.opt_inv p1
  rw [tLs_inv e1] at r1
  have st1 := st.grow g1
  have gr1 := gr.trans g1
  cases r1 with
  | lst ha h1 h2 h3 t =>
    rename_i a vs
    refine ⟨.inl ⟨rfl, vs, SqL.of h1⟩, h H1 _ σ _ H1 _ Ξ ((k.on g1.e).cvB gr1 st1) p1 _ fun x w G2 H2 p2 g2 r2 => ?_⟩
    have g2' := st1.evB gr1 g2
    have st2 := st1.grow g2'
    have gr2 := gr1.trans g2'
    have hh : H2 a = some (.lst vs) := (g2'.keep h1 (st1.fr i a ha).2.1).1
    have z := st2.sl i _ hi
    have hlen : vs.length ≤ b := by
      revert z ha
      generalize (σ[i]?).getD none = o
      generalize fp i = l
      intro ha z
      cases z with
      | jk r hbb =>
        obtain ⟨ws, hw1, hw2⟩ := hbb a ha
        rw [hh] at hw1; cases hw1; exact hw2
    have hb : b < 100000 := hb
    refine ⟨a, vs, w, rfl, rfl, hh, Evl.sz_lt (by omega), ?_⟩
    have f2 := st2.fr i a ha
    exact (k.on (g1.e.trans g2'.e)).nx _ _ _ _ _ p2 gr2.sub.self (gr2.put f2.1 f2.2.1 (by rw [hh]; rfl)) (st2.addJk gr2.sub.self hi ha hh w)
section
variable {ρ : Env} {i : Nat} {me : VE → M D} {mp : VE → Bool → D → M D}
@[simp] theorem vA_jk (ex : Bool) (b : Nat) (d : D) : vA (.jk ex b d :: ρ) = none :: vA ρ := id rfl
@[simp] theorem vB_jkt (b : Nat) (d : D) : vB (.jk true b d :: ρ) = some (false, d) :: vB ρ := id rfl
@[simp] theorem vB_jkf (b : Nat) (d : D) : vB (.jk false b d :: ρ) = none :: vB ρ := id rfl
@[simp] theorem frz_zj (ex : Bool) (b : Nat) (d : D) : frz 0 (.jk ex b d :: ρ) = .jk ex b d :: ρ := id rfl
@[simp] theorem getJ_z (ex : Bool) (b : Nat) (d : D) : getJ (.jk ex b d :: ρ) 0 = some (ex, b, d) := id rfl
@[simp] theorem getJ_s (s : Slot) : getJ (s :: ρ) (i + 1) = getJ ρ i := by unfold getJ; simp
@[simp] theorem sJ_ap (b : Nat) : sJ b i me ρ = bnd (me (vB ρ)) fun d => grd (jkOk b d = true) (ret (.nx (ρ.set i (.jk true b d)))) := id rfl
@[simp] theorem sJApp_ap : sJApp i mp me ρ = bnd (opt (getJ ρ i)) fun p => grd (p.2.1 < 100000) (bnd (mp (vB ρ) p.1 p.2.2) fun x => bnd (opt (tLs x)) fun _ => bnd (me (vB ρ)) fun _ => ret (.nx (ρ.set i (.jk false (p.2.1 + 1) p.2.2)))) := id rfl
@[simp] theorem jpV_ap {ve : VE} {ex : Bool} {d : D} : jpV ve ex d = ret d := id rfl
end
end
end VL

/-! VM17: dict comprehensions over two sources: the rule of two sources (lists) turned to dicts. -/
namespace VD
open PySem PySem.Spec PyProof.Rows L2
theorem dTurn2_out (kx vx t0 i0 t1 i1 : Expr) (ifs0 ifs1 : List Expr) (scope : Scope) (pos : Pos) (it : Value) (D : Addr) (env : Env) :
    compTurn (.DictComp kx vx [⟨t0, i0, ifs0, 0⟩, ⟨t1, i1, ifs1, 0⟩] scope pos) 0 it (.ref D) env = (do
      standAt i0.pos
      match ← pyNext it with
      | none => pure (.done .next)
      | some v =>
        letOwnedTupleGo t0 it v
        assign t0 env v
        let mut ok := true
        for c in ifs0 do
          if ok then ok ← isTrue c env (eval c env)
        if ok then
          let x ← eval i1 env
          standAt i1.pos
          let x ← foldedSetIterable i1 env x
          let _ ← runOwn (.compStart (.DictComp kx vx [⟨t0, i0, ifs0, 0⟩, ⟨t1, i1, ifs1, 0⟩] scope pos) 1 (← holding [x] (pyIter x)) (.ref D) env) env
        again (.compLoop (.DictComp kx vx [⟨t0, i0, ifs0, 0⟩, ⟨t1, i1, ifs1, 0⟩] scope pos) 0 it (.ref D) env)) := by rfl
theorem dTurn2_in (kx vx t0 i0 t1 i1 : Expr) (ifs0 ifs1 : List Expr) (scope : Scope) (pos : Pos) (it : Value) (D : Addr) (env : Env) :
    compTurn (.DictComp kx vx [⟨t0, i0, ifs0, 0⟩, ⟨t1, i1, ifs1, 0⟩] scope pos) 1 it (.ref D) env = (do
      standAt i1.pos
      match ← pyNext it with
      | none => pure (.done .next)
      | some v =>
        letOwnedTupleGo t1 it v
        assign t1 env v
        let mut ok := true
        for c in ifs1 do
          if ok then ok ← isTrue c env (eval c env)
        if ok then
          (do
            let kv ← eval kx env
            let vv ← holding [kv] (eval vx env)
            standAt { kx.pos with endLine := vx.pos.endLine, endCol := vx.pos.endCol }
            holding [kv, vv] (dictSet D kv vv))
        again (.compLoop (.DictComp kx vx [⟨t0, i0, ifs0, 0⟩, ⟨t1, i1, ifs1, 0⟩] scope pos) 1 it (.ref D) env)) := by rfl

section
variable {prog : Program} {w : World} {A : Around} {R : Result → Shared → Prop} {s : Shared} {kx vx t0 i0 t1 i1 : Expr} {ifs0 ifs1 : List Expr} {scope : Scope} {pos : Pos} {it : Value} {D : Addr} {env : Env}
/-- the loop of the first clause -/
theorem dLoop2_out (hs : ∀ x, foldedSetIterable i1 env x = pure x) (I : Nat → Shared → Prop)
    (turn : ∀ n s, I n s → wpAny (model prog w) A (pyNext it) (fun r s₁ => match r with
      | none => R (.ok .next) s₁
      | some v => wpAny (model prog w) A (letOwnedTupleGo t0 it v) (fun _ s₁' => wpAny (model prog w) A (assign t0 env v) (fun _ s₂ =>
          wpAny (model prog w) A (forIn ifs0 true fun c r => if r = true then do let ok ← isTrue c env (eval c env); pure (ForInStep.yield ok) else pure (ForInStep.yield r)) (fun ok s₃ =>
            if ok = true then wpAny (model prog w) A (eval i1 env) (fun x s₄ => wpAny (model prog w) A (pyIter x) (fun it1 s₅ =>
              codeAny (model prog w) A (.compStart (.DictComp kx vx [⟨t0, i0, ifs0, 0⟩, ⟨t1, i1, ifs1, 0⟩] scope pos) 1 it1 (.ref D) env) (fun r s' => match r with
                | .ok _ => ∃ m, m < n ∧ I m s'
                | .error _ => False) s₅) (notedBy (model prog w) A env fun e s' => R (.error e) s') s₄) (notedBy (model prog w) A env fun e s' => R (.error e) s') s₃
            else ∃ m, m < n ∧ I m s₃) (notedBy (model prog w) A env fun e s' => R (.error e) s') s₂) (notedBy (model prog w) A env fun e s' => R (.error e) s') s₁') (notedBy (model prog w) A env fun e s' => R (.error e) s') s₁) (notedBy (model prog w) A env fun e s' => R (.error e) s') s)
    (n : Nat) (h : I n s) :
    codeAny (model prog w) A (.compLoop (.DictComp kx vx [⟨t0, i0, ifs0, 0⟩, ⟨t1, i1, ifs1, 0⟩] scope pos) 0 it (.ref D) env) R s := by
  refine codeAny_loop rfl I (fun n s hI => ?_) n h
  show wpAny _ A ((compTurn (.DictComp kx vx [⟨t0, i0, ifs0, 0⟩, ⟨t1, i1, ifs1, 0⟩] scope pos) 0 it (.ref D) env).onRaise (fun x => do noteFrame x env; theTreesLotGoes x)) _ _ s
  refine wpAny_noted ?_
  rw [dTurn2_out]
  refine wpAny_bind (wpAny_standAt (wpAny_bind (wpAny_mono (turn n s hI) (fun r s₁ h₁ => ?_) fun _ _ h' => h')))
  cases r with
  | none => exact wpAny_pure h₁
  | some v =>
    refine wpAny_bind (wpAny_mono h₁ (fun _ s₁' h₁' => ?_) fun _ _ h' => h')
    refine wpAny_bind (wpAny_mono h₁' (fun _ s₂ h₂ => wpAny_bind (wpAny_mono h₂ (fun ok s₃ h₃ => ?_) fun _ _ h' => h')) fun _ _ h' => h')
    cases ok with
    | false => exact wpAny_pure ⟨rfl, h₃⟩
    | true =>
      refine wpAny_bind (wpAny_mono h₃ (fun x s₄ h₄ => ?_) fun _ _ h' => h')
      refine wpAny_bind (wpAny_standAt (wpAny_bind (wpAny_of_eq (hs x) (wpAny_bind (wpAny_holding (wpAny_mono h₄ (fun it1 s₅ h₅ => ?_) fun _ _ h' => h'))))))
      refine wpAny_bind (wpAny_runOwn ?_)
      rw [Around.mark_none]
      refine codeAny_mono h₅ fun r s' hr => ?_
      cases r with
      | ok f =>
        first
          | exact wpAny_pure ⟨rfl, hr⟩
          | exact wpAny_bind (wpAny_pure (wpAny_pure ⟨rfl, hr⟩))
      | error e => exact hr.elim
/-- the loop of the second -/
theorem dLoop2_in (I : Nat → Shared → Prop)
    (turn : ∀ n s, I n s → wpAny (model prog w) A (pyNext it) (fun r s₁ => match r with
      | none => R (.ok .next) s₁
      | some v => wpAny (model prog w) A (letOwnedTupleGo t1 it v) (fun _ s₁' => wpAny (model prog w) A (assign t1 env v) (fun _ s₂ =>
          wpAny (model prog w) A (forIn ifs1 true fun c r => if r = true then do let ok ← isTrue c env (eval c env); pure (ForInStep.yield ok) else pure (ForInStep.yield r)) (fun ok s₃ =>
            if ok = true then wpAny (model prog w) A (eval kx env) (fun kv s₄ => wpAny (model prog w) A (eval vx env) (fun vv s₅ =>
              wpAny (model prog w) A (dictSet D kv vv) (fun _ s₆ => ∃ m, m < n ∧ I m s₆) (notedBy (model prog w) A env fun e s' => R (.error e) s') s₅) (notedBy (model prog w) A env fun e s' => R (.error e) s') s₄) (notedBy (model prog w) A env fun e s' => R (.error e) s') s₃
            else ∃ m, m < n ∧ I m s₃) (notedBy (model prog w) A env fun e s' => R (.error e) s') s₂) (notedBy (model prog w) A env fun e s' => R (.error e) s') s₁') (notedBy (model prog w) A env fun e s' => R (.error e) s') s₁) (notedBy (model prog w) A env fun e s' => R (.error e) s') s)
    (n : Nat) (h : I n s) :
    codeAny (model prog w) A (.compLoop (.DictComp kx vx [⟨t0, i0, ifs0, 0⟩, ⟨t1, i1, ifs1, 0⟩] scope pos) 1 it (.ref D) env) R s := by
  refine codeAny_loop rfl I (fun n s hI => ?_) n h
  show wpAny _ A ((compTurn (.DictComp kx vx [⟨t0, i0, ifs0, 0⟩, ⟨t1, i1, ifs1, 0⟩] scope pos) 1 it (.ref D) env).onRaise (fun x => do noteFrame x env; theTreesLotGoes x)) _ _ s
  refine wpAny_noted ?_
  rw [dTurn2_in]
  refine wpAny_bind (wpAny_standAt (wpAny_bind (wpAny_mono (turn n s hI) (fun r s₁ h₁ => ?_) fun _ _ h' => h')))
  cases r with
  | none => exact wpAny_pure h₁
  | some v =>
    refine wpAny_bind (wpAny_mono h₁ (fun _ s₁' h₁' => ?_) fun _ _ h' => h')
    refine wpAny_bind (wpAny_mono h₁' (fun _ s₂ h₂ => wpAny_bind (wpAny_mono h₂ (fun ok s₃ h₃ => ?_) fun _ _ h' => h')) fun _ _ h' => h')
    cases ok with
    | false => exact wpAny_pure ⟨rfl, h₃⟩
    | true =>
      exact wpAny_bind (wpAny_bind (wpAny_mono h₃ (fun kv s₄ h₄ => wpAny_bind (wpAny_holding (wpAny_mono h₄ (fun vv s₅ h₅ => wpAny_bind (wpAny_standAt (wpAny_holding (wpAny_mono h₅ (fun _ s₆ h₆ => wpAny_pure ⟨rfl, h₆⟩) fun _ _ h' => h')))) fun _ _ h' => h'))) fun _ _ h' => h'))
/-- the second clause's start -/
theorem dStart1_ok (h0 : codeAny (model prog w) A (.compLoop (.DictComp kx vx [⟨t0, i0, ifs0, 0⟩, ⟨t1, i1, ifs1, 0⟩] scope pos) 1 it (.ref D) env) R s)
    (h : wpAny (model prog w) A (pyIter it) (fun it' s' => codeAny (model prog w) A (.compLoop (.DictComp kx vx [⟨t0, i0, ifs0, 0⟩, ⟨t1, i1, ifs1, 0⟩] scope pos) 1 it' (.ref D) env) R s')
      (notedBy (model prog w) A env fun x s' => R (.error x) s') s) :
    codeAny (model prog w) A (.compStart (.DictComp kx vx [⟨t0, i0, ifs0, 0⟩, ⟨t1, i1, ifs1, 0⟩] scope pos) 1 it (.ref D) env) R s := by
  refine codeAny_of_tree ?_
  show wpAny _ _ ((compStart (.DictComp kx vx [⟨t0, i0, ifs0, 0⟩, ⟨t1, i1, ifs1, 0⟩] scope pos) 1 it (.ref D) env).onRaise (fun x => do noteFrame x env; standAt theWindowsPlace)) _ _ s
  refine wpAny_notedAt ?_
  unfold compStart
  show wpAny _ _ (ask >>= _) _ _ s
  refine wpAny_bind (wpAny_askSetting (wpAny_ite ?_))
  split
  · first
      | exact wpAny_bind (wpAny_pure (wpAny_pure (And.intro rfl h0)))
      | exact wpAny_pure (And.intro rfl h0)
  · first
      | exact wpAny_bind (wpAny_rule (wpAny_bind (wpAny_standAt (wpAny_bind (wpAny_mono h (fun it' s' h' => wpAny_pure (And.intro rfl h')) fun _ _ x => x)))))
      | (refine wpAny_bind (wpAny_rule ?_); show wpAny _ _ (standAt i1.pos >>= _) _ _ s; exact wpAny_bind (wpAny_standAt (wpAny_bind (wpAny_mono h (fun it' s' h' => wpAny_pure (And.intro rfl h')) fun _ _ x => x))))
end

section
variable {X : Cx}
/-- [elt for tg in iter if .. for tg1 in iter1 if ..]: behind the first clause's store and tests the second source's own loop, from which Nx is reached. vs: the block's names; vs1: those of the second target -/
def tDc2 (wi : TI) (g : TG) (tt : TT) (wi1 : TI) (g1 : TG) (tt1 : TT) (tk tv : TE) (vs vs1 : List Nat) : TE := fun σ H Q => wi σ H fun J H1 => ∀ D, H1 D = none → ∃ W : Nat → Nat → Hp → Prop, (∃ m, W 0 m (upd H1 D (.dK []))) ∧ ∀ i m H, W i m H →
  (J.stop i H ∧ Q (.ref D) H) ∨ (J.go i H ∧ ∃ Nx : Hp → Prop, (∀ H', Nx H' → ∃ m', m' < m ∧ W (i + 1) m' H') ∧ ∀ x H', J.yld i H x H' → g x (wipe σ vs) H' fun σ2 H2 => wipe σ2 vs = wipe σ vs ∧ tt σ2 H2 fun b H3 =>
    if b = true then wi1 σ2 H3 fun J1 H4 => ∃ W1 : Nat → Nat → Hp → Prop, (∃ m, W1 0 m H4) ∧ ∀ j k H, W1 j k H →
      (J1.stop j H ∧ Nx H) ∨ (J1.go j H ∧ ∃ Nx1 : Hp → Prop, (∀ H', Nx1 H' → ∃ k', k' < k ∧ W1 (j + 1) k' H') ∧ ∀ x H', J1.yld j H x H' → g1 x (wipe σ2 vs1) H' fun σ3 H5 => wipe σ3 vs1 = wipe σ2 vs1 ∧ tt1 σ3 H5 fun b H6 =>
        if b = true then tk σ3 H6 fun y H7 => tv σ3 H7 fun z H8 => ∃ kvs k, y = kV k ∧ H8 D = some (.dK kvs) ∧ kvs.length < sizeLine ∧ Nx1 (upd H8 D (.dK (putK kvs k z))) else Nx1 H6)
    else Nx H3)
theorem dc2_core {pins : List (Addr × Obj)} {s : Shared} {σ : L2.St} {H : Hp} {Q : VK} {kx vx tg iter tg1 iter1 : Expr} {ifs ifs1 : List Expr} {scope : Scope} {own : List (Str × Nat)} {vs1 : List Nat} {pos pos' : Pos} {wi wi1 : TI} {g g1 : TG} {tt tt1 : TT} {tk tv : TE} {use : Option (Value → Sem Unit)} {Qf : Value → Shared → Prop}
    (hc : X.calm = true) (hN : X.N.Nodup) (I : L2.Inv X pins σ H s) (hi : PI X tg iter wi) (ok : BlkOk X.N X.env.scope scope own) (hv : ∀ i ∈ vs1, i ∈ own.map (·.2))
    (hg : ∀ (s : Shared) (H : Hp) (C : Addr) (cl : List (Str × Addr)) (fp : List Addr), PG (X.blk s H scope (compEnvC scope cl C X.env) fp) tg g) (ht : ∀ (s : Shared) (H : Hp) (C : Addr) (cl : List (Str × Addr)) (fp : List Addr), PTs (X.blk s H scope (compEnvC scope cl C X.env) fp) ifs tt)
    (hk : ∀ (s : Shared) (H : Hp) (C : Addr) (cl : List (Str × Addr)) (fp : List Addr), PE (X.blk s H scope (compEnvC scope cl C X.env) fp) kx tk)
    (he : ∀ (s : Shared) (H : Hp) (C : Addr) (cl : List (Str × Addr)) (fp : List Addr), PE (X.blk s H scope (compEnvC scope cl C X.env) fp) vx tv) (hs : ∀ x, foldedSetIterable iter X.env x = pure x)
    (hi1 : ∀ (s : Shared) (H : Hp) (C : Addr) (cl : List (Str × Addr)) (fp : List Addr), PI (X.blk s H scope (compEnvC scope cl C X.env) fp) tg1 iter1 wi1)
    (hg1 : ∀ (s : Shared) (H : Hp) (C : Addr) (cl : List (Str × Addr)) (fp : List Addr), PG (X.blk s H scope (compEnvC scope cl C X.env) fp) tg1 g1)
    (ht1 : ∀ (s : Shared) (H : Hp) (C : Addr) (cl : List (Str × Addr)) (fp : List Addr), PTs (X.blk s H scope (compEnvC scope cl C X.env) fp) ifs1 tt1)
    (hs1 : ∀ env x, foldedSetIterable iter1 env x = pure x)
    (h : tDc2 wi g tt wi1 g1 tt1 tk tv (own.map (·.2)) vs1 σ H Q)
    (hRR : ∀ D C s' m H', L2.Inv X pins σ H' s' → Q (.ref D) H' → s'.heap.Ns C m → FpOk X pins H' C → compPost (model X.prog X.w) X.A X.xe use Qf (.ref D) C (.ok .next) s') :
    wpAny (model X.prog X.w) X.A (comprehension (.DictComp kx vx [⟨tg, iter, ifs, 0⟩, ⟨tg1, iter1, ifs1, 0⟩] scope pos) scope X.env pos' newDict false (eval iter X.env) use) Qf X.xe s := by
  have hfree : ∀ y ∈ scope.names, y.2 = .free → ∃ c, X.env.cells.lookup y.1 = some c := fun y hy e => by
    rcases ok.free y hy e with k | k
    · exact I.ok.has _ (.inl k)
    · exact I.ok.has _ (.inr k)
  refine wpAny_comprehension_free (use := use) rfl hs (closure_ok hfree) ok.kind (fun y hy e => by rw [ok.uniq y hy, e])
    (thn (hi.run pins s σ H _ I h) fun xv s1 hx => thn hx fun itv s2 h2 => ?_)
  obtain ⟨it, fp, tn, J, H2, e, I2, T, st2, f2, q⟩ := h2
  subst e
  refine wpAny_newObj_type (newEnv_comp ?_)
  generalize hD : s2.heap.objs.size = D
  have hDn : H2 D = none := I2.hok.fresh (Nat.le_of_eq hD)
  obtain ⟨W, ⟨m0, w0⟩, turn⟩ := q D hDn
  -- the new list
  generalize hs3 : ({ s2 with heap := s2.heap.push { cls := .type "dict", data := .dict #[] } } : Shared) = s3
  have I3 : L2.Inv X pins σ (upd H2 D (.dK [])) s3 := by
    rw [← hs3]
    refine I2.laid (t' := s2.toks) (fun b o e => Heap.get?_push_of_some _ e) (Nat.le_of_eq hD) ?_
    rw [← hD]
    exact dk_empty s2.heap I2.big
  have h3 : s3.heap = s2.heap.push { cls := .type "dict", data := .dict #[] } := by rw [← hs3]
  have sz : ∀ b ∈ fp, b < s2.heap.objs.size := fun b hb => by
    obtain ⟨o, e, _⟩ := T.obj _ _ st2 b hb
    exact Heap.lt_size e
  have f3 : ∀ b ∈ fp, FpOk X pins (upd H2 D (.dK [])) b ∧ b < s3.heap.objs.size := fun b hb => by
    have hlt := sz b hb
    refine ⟨⟨?_, (f2 b hb).2⟩, by rw [h3, Heap.size_push]; exact Nat.lt_succ_of_lt hlt⟩
    rw [upd_ne (by rw [← hD]; exact Nat.ne_of_lt hlt)]
    exact (f2 b hb).1
  have st3 : tn 0 s3.heap := T.keep _ _ _ st2 fun b _ o e => by rw [h3]; exact Heap.get?_push_of_some _ e
  have I4 := block_start I3 ok hN f3
  have pg := hg s3 (upd H2 D (.dK [])) s3.heap.objs.size (cellsFrom (s3.heap.objs.size + 1) scope.names (cloFrom X.env.cells scope.names [])) fp
  have pt := ht s3 (upd H2 D (.dK [])) s3.heap.objs.size (cellsFrom (s3.heap.objs.size + 1) scope.names (cloFrom X.env.cells scope.names [])) fp
  have pk := hk s3 (upd H2 D (.dK [])) s3.heap.objs.size (cellsFrom (s3.heap.objs.size + 1) scope.names (cloFrom X.env.cells scope.names [])) fp
  have pe := he s3 (upd H2 D (.dK [])) s3.heap.objs.size (cellsFrom (s3.heap.objs.size + 1) scope.names (cloFrom X.env.cells scope.names [])) fp
  have pi1 := hi1 s3 (upd H2 D (.dK [])) s3.heap.objs.size (cellsFrom (s3.heap.objs.size + 1) scope.names (cloFrom X.env.cells scope.names [])) fp
  have pg1 := hg1 s3 (upd H2 D (.dK [])) s3.heap.objs.size (cellsFrom (s3.heap.objs.size + 1) scope.names (cloFrom X.env.cells scope.names [])) fp
  have pt1 := ht1 s3 (upd H2 D (.dK [])) s3.heap.objs.size (cellsFrom (s3.heap.objs.size + 1) scope.names (cloFrom X.env.cells scope.names [])) fp
  show codeAny _ _ (.compStart (.DictComp kx vx [⟨tg, iter, ifs, 0⟩, ⟨tg1, iter1, ifs1, 0⟩] scope pos) 0 (.ref it) (.ref D) (compEnvC scope (cellsFrom (s3.heap.objs.size + 1) scope.names (cloFrom X.env.cells scope.names [])) s3.heap.objs.size X.env)) (compPost (model X.prog X.w) X.A X.xe use Qf (.ref D) s3.heap.objs.size) { s3 with heap := pushCells (s3.heap.push { cls := .type "dict", data := .dict #[] }) scope.names }
  have nfp : ∀ b ∈ fp, (upd H2 D (.dK [])) b = none := fun b hb => (f3 b hb).1.1
  generalize hce : compEnvC scope (cellsFrom (s3.heap.objs.size + 1) scope.names (cloFrom X.env.cells scope.names [])) s3.heap.objs.size X.env = ce at I4 pg pt pk pe pi1 pg1 pt1 ⊢
  have cL : ce.locals = s3.heap.objs.size := by subst hce; rfl
  generalize hH3 : upd H2 D (.dK []) = H3 at I3 I4 pg pt pk pe pi1 pg1 pt1 w0 nfp f3
  generalize hs4 : ({ s3 with heap := pushCells (s3.heap.push { cls := .type "dict", data := .dict #[] }) scope.names } : Shared) = s4 at I4 ⊢
  have st4 : tn 0 s4.heap := T.keep _ _ _ st3 fun b _ o e => by rw [← hs4]; exact pushCells_keeps _ _ _ _ (Heap.get?_push_of_some _ e)
  have stat : ∀ {σ' : L2.St} {H' : Hp} {s' : Shared}, Inv (X.blk s3 H3 scope ce fp) [] σ' H' s' → (∀ b ∈ fp, H' b = none) → ∀ b ∈ fp, FpOk (X.blk s3 H3 scope ce fp) [] H' b := fun {σ' H' s'} I' hn b hb =>
    ⟨hn b hb, (I'.ok.exf b hb).1, I'.ok.exfs b hb, .inl hb, fun x c e => (I'.ok.exf b hb).2 x c e, fun p hp => absurd (show p ∈ ([] : List (Addr × Obj)) ++ [] from hp) (by simp)⟩
  have loop : codeAny (model X.prog X.w) X.A (.compLoop (.DictComp kx vx [⟨tg, iter, ifs, 0⟩, ⟨tg1, iter1, ifs1, 0⟩] scope pos) 0 (.ref it) (.ref D) ce) (compPost (model X.prog X.w) X.A X.xe use Qf (.ref D) s3.heap.objs.size) s4 := by
    refine dLoop2_out (hs1 ce) (fun n s' => ∃ i H', Inv (X.blk s3 H3 scope ce fp) [] (wipe σ (own.map (·.2))) H' s' ∧ tn i s'.heap ∧ (∀ b ∈ fp, H' b = none) ∧ W i n H') ?_ m0 ⟨0, H3, I4, st4, nfp, w0⟩
    rintro n s5 ⟨i, H5, I5, st5, n5, w5⟩
    rcases turn i n H5 w5 with ⟨stop, qq⟩ | ⟨go, Nx, hNx, step⟩
    · have td := T.done (X.blk s3 H3 scope ce fp) rfl rfl rfl hc i [] s5 _ H5 (fun _ _ => False) I5 (stat I5 n5) st5 stop
      refine thnF td fun r s6 ⟨hr, I6⟩ => ?_
      subst hr
      -- back in the def's context
      have I7 : L2.Inv X pins σ H5 s6 := I3.call' (ch := fp) I6.os I6.base I6.hok I6.bare fun b hb => ⟨(f3 b hb).1.2.2.2.1, (f3 b hb).1.2.1, (f3 b hb).1.2.2.2.2.1, (f3 b hb).1.2.2.2.2.2⟩
      have nC : H5 s3.heap.objs.size = none := by
        have z : H5 ce.locals = none := I6.free
        rw [cL] at z
        exact z
      obtain ⟨m, hn, _⟩ := I6.loc
      have hn : s6.heap.Ns ce.locals m := hn
      rw [cL] at hn
      exact hRR D s3.heap.objs.size s6 m H5 I7 qq hn (I3.fpOk (Nat.le_refl _) nC)
    · have ti := T.item (X.blk s3 H3 scope ce fp) rfl rfl rfl hc i [] s5 _ H5 (fun _ _ => False) I5 (stat I5 n5) st5 go
      refine thnF ti fun r s6 ⟨u, hr, h6⟩ => ?_
      subst hr
      refine thnF h6 fun _ s7 ⟨x, H7, I7, r7, y7, st7, n7⟩ => ?_
      have I7' := I7.pinned (stat I7 n7) (T.obj _ _ st7)
      refine thnF (pg.run _ s7 _ H7 x u _ I7' r7 (step x H7 y7)) fun _ s8 ⟨σ8, H8, I8, hw8, q8⟩ => ?_
      refine thnF (pt.run _ s8 σ8 H8 _ I8 q8) fun b s9 ⟨H9, I9, q9⟩ => ?_
      -- the turn's end, from any slots that know what the block knew at its start
      have fin : ∀ {σ9 : L2.St} {s' : Shared} {H' : Hp}, Inv (X.blk s3 H3 scope ce fp) ([] ++ pinsAt fp s7.heap) σ9 H' s' → (wipe σ (own.map (·.2))).length = σ9.length → (∀ (j : Nat) v, (wipe σ (own.map (·.2)))[j]? = some (some v) → σ9[j]? = some (some v)) → Nx H' →
          ∃ m, m < n ∧ ∃ i H', Inv (X.blk s3 H3 scope ce fp) [] (wipe σ (own.map (·.2))) H' s' ∧ tn i s'.heap ∧ (∀ b ∈ fp, H' b = none) ∧ W i m H' := fun {σ9 s' H'} I' hl hk nx => by
        obtain ⟨m', hm, w'⟩ := hNx H' nx
        have pin' : ∀ b ∈ fp, ∀ o, s7.heap.get? b = some o → s'.heap.get? b = some o ∧ H' b = none := fun b hb o e =>
          let z := I'.pin (b, o) (List.mem_append_right _ (List.mem_append_right _ (mem_pinsAt hb e)))
          ⟨z.1, z.2.1⟩
        refine ⟨m', hm, i + 1, H', (I'.unpinned (pins := [])).weak hl hk, T.keep _ _ _ st7 fun b hb o e => (pin' b hb o e).1, fun b hb => ?_, w'⟩
        obtain ⟨o, e, _⟩ := T.obj _ _ st7 b hb
        exact (pin' b hb o e).2
      have hl8 : (wipe σ (own.map (·.2))).length = σ8.length := by rw [← hw8, wipe_length]
      have hk8 : ∀ (j : Nat) v, (wipe σ (own.map (·.2)))[j]? = some (some v) → σ8[j]? = some (some v) := fun j v e => by
        rw [← hw8] at e
        exact (wipe_some e).1
      have hk9 : ∀ (j : Nat) v, (wipe σ (own.map (·.2)))[j]? = some (some v) → (wipe σ8 vs1)[j]? = some (some v) := fun j v e => by
        rw [← hw8] at e
        obtain ⟨e1, e2⟩ := wipe_some e
        rw [wipe_out fun z => e2 (hv j z)]
        exact e1
      cases b with
      | false =>
        simp only [Bool.false_eq_true, if_false] at q9 ⊢
        exact fin I9 hl8 hk8 q9
      | true =>
        simp only [if_true] at q9 ⊢
        refine thnF (pi1.run _ s9 σ8 H9 _ I9 q9) fun xv s10 hx => thnF hx fun itv s11 h11 => ?_
        obtain ⟨it1, fp1, tn1, J1, H11, e1, I11, T1, st11, f11, W1, ⟨m1, w1⟩, turn1⟩ := h11
        subst e1
        -- the inner loop
        have stat1 : ∀ {H' : Hp}, (∀ b ∈ fp1, H' b = none) → ∀ b ∈ fp1, FpOk (X.blk s3 H3 scope ce fp) ([] ++ pinsAt fp s7.heap) H' b := fun hn b hb => ⟨hn b hb, (f11 b hb).2⟩
        have loop1 : codeAny (model X.prog X.w) X.A (.compLoop (.DictComp kx vx [⟨tg, iter, ifs, 0⟩, ⟨tg1, iter1, ifs1, 0⟩] scope pos) 1 (.ref it1) (.ref D) ce)
            (fun r s' => match r with
              | .ok _ => ∃ m, m < n ∧ ∃ i H', Inv (X.blk s3 H3 scope ce fp) [] (wipe σ (own.map (·.2))) H' s' ∧ tn i s'.heap ∧ (∀ b ∈ fp, H' b = none) ∧ W i m H'
              | .error _ => False) s11 := by
          refine dLoop2_in (fun k s' => ∃ j H', Inv (X.blk s3 H3 scope ce fp) ([] ++ pinsAt fp s7.heap) (wipe σ8 vs1) H' s' ∧ tn1 j s'.heap ∧ (∀ b ∈ fp1, H' b = none) ∧ W1 j k H') ?_ m1 ⟨0, H11, I11.weak (wipe_length _ _) (fun j v e => (wipe_some e).1), st11, fun b hb => (f11 b hb).1, w1⟩
          rintro k s12 ⟨j, H12, I12, st12, n12, w12⟩
          rcases turn1 j k H12 w12 with ⟨stop1, nx1⟩ | ⟨go1, Nx1, hNx1, step1⟩
          · refine thnF (T1.done (X.blk s3 H3 scope ce fp) rfl rfl rfl hc j _ s12 (wipe σ8 vs1) H12 (fun _ _ => False) I12 (stat1 n12) st12 stop1) fun r s13 ⟨hr, I13⟩ => ?_
            subst hr
            exact fin I13 (hl8.trans (wipe_length σ8 vs1).symm) hk9 nx1
          · refine thnF (T1.item (X.blk s3 H3 scope ce fp) rfl rfl rfl hc j _ s12 (wipe σ8 vs1) H12 (fun _ _ => False) I12 (stat1 n12) st12 go1) fun r s13 ⟨u1, hr, h13⟩ => ?_
            subst hr
            refine thnF h13 fun _ s14 ⟨x1, H14, I14, r14, y14, st14, n14⟩ => ?_
            have I14' := I14.pinned (stat1 n14) (T1.obj _ _ st14)
            refine thnF (pg1.run _ s14 (wipe σ8 vs1) H14 x1 u1 _ I14' r14 (step1 x1 H14 y14)) fun _ s15 ⟨σ15, H15, I15, hw15, q15⟩ => ?_
            refine thnF (pt1.run _ s15 σ15 H15 _ I15 q15) fun b1 s16 ⟨H16, I16, q16⟩ => ?_
            have fin1 : ∀ {s' : Shared} {H' : Hp}, Inv (X.blk s3 H3 scope ce fp) (([] ++ pinsAt fp s7.heap) ++ pinsAt fp1 s14.heap) σ15 H' s' → Nx1 H' → ∃ m, m < k ∧ ∃ j H', Inv (X.blk s3 H3 scope ce fp) ([] ++ pinsAt fp s7.heap) (wipe σ8 vs1) H' s' ∧ tn1 j s'.heap ∧ (∀ b ∈ fp1, H' b = none) ∧ W1 j m H' := fun {s' H'} I' nx => by
              obtain ⟨m', hm, w'⟩ := hNx1 H' nx
              have pin' : ∀ b ∈ fp1, ∀ o, s14.heap.get? b = some o → s'.heap.get? b = some o ∧ H' b = none := fun b hb o e =>
                let z := I'.pin (b, o) (List.mem_append_right _ (List.mem_append_right _ (mem_pinsAt hb e)))
                ⟨z.1, z.2.1⟩
              refine ⟨m', hm, j + 1, H', I'.unpinned.weak (by rw [← hw15, wipe_length]) (fun j v e => by rw [← hw15] at e; exact (wipe_some e).1), T1.keep _ _ _ st14 fun b hb o e => (pin' b hb o e).1, fun b hb => ?_, w'⟩
              obtain ⟨o, e, _⟩ := T1.obj _ _ st14 b hb
              exact (pin' b hb o e).2
            cases b1 with
            | false =>
              simp only [Bool.false_eq_true, if_false] at q16 ⊢
              exact fin1 I16 q16
            | true =>
              simp only [if_true] at q16 ⊢
              refine thnF (pk.run _ s16 σ15 H16 _ I16 q16) fun z s17 ⟨yk, H17, I17, r17, q17⟩ => ?_
              refine thnF (pe.run _ s17 σ15 H17 _ I17 q17) fun z2 s18 ⟨yv, H18, I18, r18, kvs, k, ek, hD18, hz18, nx⟩ => ?_
              subst ek
              exact d_dictSet (X := X.blk s3 H3 scope ce fp) I18 hD18 hz18 r17 r18 fun s19 I19 => fin1 I19 nx
        exact dStart1_ok loop1 (T1.self X.A 0 _ _ _ st11 loop1)
  exact codeAny_compStart_dict loop (T.self X.A 0 _ _ _ st4 loop)
/-- as a value -/
theorem pe_dc2 {kx vx tg iter tg1 iter1 : Expr} {ifs ifs1 : List Expr} {scope : Scope} {own : List (Str × Nat)} {vs1 : List Nat} {pos : Pos} {wi wi1 : TI} {g g1 : TG} {tt tt1 : TT} {tk tv : TE} (hc : X.calm = true) (hN : X.N.Nodup) (hi : PI X tg iter wi) (ok : BlkOk X.N X.env.scope scope own) (hv : ∀ i ∈ vs1, i ∈ own.map (·.2))
    (hg : ∀ (s : Shared) (H : Hp) (C : Addr) (cl : List (Str × Addr)) (fp : List Addr), PG (X.blk s H scope (compEnvC scope cl C X.env) fp) tg g) (ht : ∀ (s : Shared) (H : Hp) (C : Addr) (cl : List (Str × Addr)) (fp : List Addr), PTs (X.blk s H scope (compEnvC scope cl C X.env) fp) ifs tt)
    (hi1 : ∀ (s : Shared) (H : Hp) (C : Addr) (cl : List (Str × Addr)) (fp : List Addr), PI (X.blk s H scope (compEnvC scope cl C X.env) fp) tg1 iter1 wi1)
    (hg1 : ∀ (s : Shared) (H : Hp) (C : Addr) (cl : List (Str × Addr)) (fp : List Addr), PG (X.blk s H scope (compEnvC scope cl C X.env) fp) tg1 g1) (ht1 : ∀ (s : Shared) (H : Hp) (C : Addr) (cl : List (Str × Addr)) (fp : List Addr), PTs (X.blk s H scope (compEnvC scope cl C X.env) fp) ifs1 tt1)
    (hk : ∀ (s : Shared) (H : Hp) (C : Addr) (cl : List (Str × Addr)) (fp : List Addr), PE (X.blk s H scope (compEnvC scope cl C X.env) fp) kx tk)
    (he : ∀ (s : Shared) (H : Hp) (C : Addr) (cl : List (Str × Addr)) (fp : List Addr), PE (X.blk s H scope (compEnvC scope cl C X.env) fp) vx tv) (hs : ∀ x, foldedSetIterable iter X.env x = pure x := by intro _; rfl) (hs1 : ∀ env x, foldedSetIterable iter1 env x = pure x := by intro _ _; rfl) :
    PE X (.DictComp kx vx [⟨tg, iter, ifs, 0⟩, ⟨tg1, iter1, ifs1, 0⟩] scope pos) (tDc2 wi g tt wi1 g1 tt1 tk tv (own.map (·.2)) vs1) := by
  refine ⟨fun pins s σ H Q I h => ?_⟩
  rw [arm_eval_DictComp]
  refine dc2_core hc hN I hi ok hv hg ht hk he hs hi1 hg1 ht1 hs1 h fun D C s' m H' I' q hn f => ⟨m, hn, fun h'' sb => ?_⟩
  obtain ⟨f0, f1, f2, f3, f4, f5⟩ := f
  exact ⟨.ref D, H', I'.turned (t' := s'.toks) (fun b o hb e => (sb.2 b hb).trans e) f0 f1 f3 f4 f5, rfl, q⟩
end
end VD

/-! VM18: dict comprehensions by what they make. -/
namespace VL
open PySem PySem.Spec PyProof.Rows L2
open M (ret bnd nope grd exn opt drw)
/-- d[k] = v, of keys and values -/
def putD (kds : List (Key × D)) (k : Key) (v : D) : List (Key × D) :=
  if (kds.any fun kv => decide (kv.1 = k)) = true then kds.map (fun kv => if kv.1 = k then (kv.1, v) else kv) else kds ++ [(k, v)]
/-- a pair put -/
def stepP (kds : List (Key × D)) (p : D) : List (Key × D) := match p with
  | .tup [a, d] => (match keyD a with
    | some k => putD kds k d
    | none => kds)
  | _ => kds
/-- pairs put one after the other -/
def foldP (kds : List (Key × D)) (ps : List D) : List (Key × D) := ps.foldl stepP kds
def dOf (kds : List (Key × D)) : D := .dct (kds.map (·.1)) (kds.map (·.2))
theorem foldP_append (kds : List (Key × D)) (ps qs : List D) : foldP kds (ps ++ qs) = foldP (foldP kds ps) qs := by
  unfold foldP
  rw [List.foldl_append]
theorem foldP_snoc {kds : List (Key × D)} {ps : List D} {a d : D} {k : Key} (h : keyD a = some k) : foldP kds (ps ++ [.tup [a, d]]) = putD (foldP kds ps) k d := by
  rw [foldP_append]
  simp [foldP, stepP, h]
theorem length_putD (kds : List (Key × D)) (k : Key) (v : D) : (putD kds k v).length ≤ kds.length + 1 := by
  unfold putD
  split
  · rw [List.length_map]; omega
  · rw [List.length_append]; simp
theorem stepP_length (kds : List (Key × D)) (p : D) : (stepP kds p).length ≤ kds.length + 1 := by
  unfold stepP
  split
  · split
    · exact length_putD _ _ _
    · omega
  · omega
theorem foldP_length (kds : List (Key × D)) (ps : List D) : (foldP kds ps).length ≤ kds.length + ps.length := by
  unfold foldP
  induction ps generalizing kds with
  | nil => exact Nat.le_refl _
  | cons p ps ih =>
    rw [List.foldl_cons, List.length_cons]
    have h1 := ih (stepP kds p)
    have h2 := stepP_length kds p
    omega
section
variable [Tbl] {K : Fr} {EE : XK} {f : Bool} {G G' H H' : Hp} {fr : Option Hp} {Hb : Hp} {d : D} {v : V} {te tk tv : TE} {mk mv : VE → M D} {wi wi1 : TI} {g g1 : TG} {tt tt1 : TT} {mi mi1 : VE → M (List D)} {is is1 us us1 : List Nat} {b b1 : D → Option (List D)} {mt mt1 : VE → M Bool}
structure KR (K : Fr) (fr : Option Hp) (G : Hp) (kds : List (Key × D)) (kvs : List (Key × V)) : Prop where
  k : kds.map (·.1) = kvs.map (·.1)
  v : RepA K fr G (kds.map (·.2)) (kvs.map (·.2))
theorem KR.mono {kds : List (Key × D)} {kvs : List (Key × V)} (e : Ex G G') (h : KR K fr G kds kvs) : KR K fr G' kds kvs := ⟨h.k, h.v.mono e⟩
theorem KR.length {kds : List (Key × D)} {kvs : List (Key × V)} (h : KR K fr G kds kvs) : kds.length = kvs.length := by
  have := congrArg List.length h.k
  simpa using this
theorem KR.putMap {k : Key} (r : Rep K fr G d v) : ∀ {kds : List (Key × D)} {kvs : List (Key × V)}, KR K fr G kds kvs → KR K fr G (kds.map (fun kv => if kv.1 = k then (kv.1, d) else kv)) (kvs.map (fun kv => if kv.1 = k then (kv.1, v) else kv))
  | [], [], _ => ⟨rfl, .nil⟩
  | [], q :: qs, ⟨h1, _⟩ => by cases h1
  | p :: ps, [], ⟨h1, _⟩ => by cases h1
  | p :: ps, q :: qs, ⟨h1, h2⟩ => by
    have e1 : p.1 = q.1 := (List.cons.inj h1).1
    have e2 := (List.cons.inj h1).2
    cases h2 with
    | cons ra rt =>
      obtain ⟨i1, i2⟩ := KR.putMap (k := k) r (kds := ps) (kvs := qs) ⟨e2, rt⟩
      by_cases z : p.1 = k
      · have z' : q.1 = k := e1 ▸ z
        refine ⟨?_, ?_⟩
        · simp only [List.map_cons, if_pos z, if_pos z'] at i1 ⊢
          rw [i1, e1]
        · simp only [List.map_cons, if_pos z, if_pos z']
          exact .cons r i2
      · have z' : ¬ q.1 = k := fun y => z (e1 ▸ y)
        refine ⟨?_, ?_⟩
        · simp only [List.map_cons, if_neg z, if_neg z'] at i1 ⊢
          rw [i1, e1]
        · simp only [List.map_cons, if_neg z, if_neg z']
          exact .cons ra i2
theorem KR.put {kds : List (Key × D)} {kvs : List (Key × V)} {k : Key} (h : KR K fr G kds kvs) (r : Rep K fr G d v) : KR K fr G (putD kds k d) (putK kvs k v) := by
  have any : (kds.any fun kv => decide (kv.1 = k)) = (kvs.any fun kv => decide (kv.1 = k)) := by
    have e1 : (kds.any fun kv => decide (kv.1 = k)) = ((kds.map (·.1)).any fun x => decide (x = k)) := by rw [List.any_map]; rfl
    have e2 : (kvs.any fun kv => decide (kv.1 = k)) = ((kvs.map (·.1)).any fun x => decide (x = k)) := by rw [List.any_map]; rfl
    rw [e1, e2, h.k]
  unfold putD putK
  rw [any]
  split
  · exact h.putMap r
  · exact ⟨by rw [List.map_append, List.map_append, h.k]; rfl, by rw [List.map_append, List.map_append]; exact h.v.append (.cons r .nil)⟩
theorem keyD_rep {k : Key} (h : keyD d = some k) (r : Rep K fr G d v) : v = kV k := by
  cases d <;> simp [keyD] at h <;> subst h <;> cases r <;> rfl
theorem Grow.ownK {G0 H0 : Hp} {p : Addr} {kvs : List (Key × V)} (g : Grow G0 H0 G H) (hp : H p = some (.dK kvs)) (hn : G p = none) (h0 : H0 p = none) : Grow G0 H0 (upd G p (.dK kvs)) H :=
  ⟨g.e.trans (Ex.new g.sub.n hn), ⟨fun a o ha => by
    by_cases hx : a = p
    · subst hx; rw [upd_same] at ha; cases ha; exact hp
    · rw [upd_ne hx] at ha; exact g.sub a o ha, g.sub.n.upd (by intro _ z; cases z)⟩, g.ext, fun a ha ha' => by
    by_cases hx : a = p
    · subst hx; exact .inl h0
    · rw [upd_ne hx] at ha' ⊢; exact g.new a ha ha'⟩
def mPair (mk mv : VE → M D) : VE → M D := fun ve => bnd (mk ve) fun a => bnd (opt (keyD a)) fun _ => bnd (mv ve) fun d => ret (.tup [a, d])
@[simp] theorem mPair_ap {ve : VE} : mPair mk mv ve = bnd (mk ve) fun a => bnd (opt (keyD a)) fun _ => bnd (mv ve) fun d => ret (.tup [a, d]) := id rfl
/-- {k: v for t in xs if c for t1 in ys if c1} -/
def mDc2 (mi : VE → M (List D)) (is : List Nat) (b : D → Option (List D)) (mt : VE → M Bool) (mi1 : VE → M (List D)) (is1 : List Nat) (b1 : D → Option (List D)) (mt1 : VE → M Bool) (mk mv : VE → M D) (us us1 : List Nat) : VE → M D := fun ve =>
  bnd (mLc2 mi is b mt mi1 is1 b1 mt1 (mPair mk mv) us us1 ve) fun ps => ret (dOf (foldP [] ps))
@[simp] theorem mDc2_ap {ve : VE} : mDc2 mi is b mt mi1 is1 b1 mt1 mk mv us us1 ve = bnd (mLc2 mi is b mt mi1 is1 b1 mt1 (mPair mk mv) us us1 ve) fun ps => ret (dOf (foldP [] ps)) := id rfl
theorem xe_dc2 (hi : XI K EE wi mi) (hg : XG K g is b) (ht : XT K EE tt mt) (hi1 : XI K EE wi1 mi1) (hg1 : XG K g1 is1 b1) (ht1 : XT K EE tt1 mt1) (hk : XE K EE false tk mk) (hv : XE K EE f tv mv) (hs : ∀ i ∈ is, i ∈ us) (hs1 : ∀ i ∈ is1, i ∈ us1) :
    XE K EE f (VD.tDc2 wi g tt wi1 g1 tt1 tk tv us us1) (mDc2 mi is b mt mi1 is1 b1 mt1 mk mv us us1) := fun Hb ve σ G H Φ Ξ c m Q q =>
  hi Hb ve σ G H _ Ξ c m _ fun J xs G1 H1 p1 g1' W => fun L hL => by
    obtain ⟨hlen, p1⟩ := p1
    have p1 : lc2Go (wipeVE ve us) is b mt mi1 is1 b1 mt1 (mPair mk mv) us1 xs (fun r => Φ (dOf (foldP [] r))) Ξ := p1
    have hLH : H L = none := g1'.free hL
    let Pv : Nat → Hp → Prop := fun i Hc => ∃ Gc acc ds, Grow G H Gc Hc ∧ Ex G1 Gc ∧ Gc L = none ∧ Hc L = some (.dK acc) ∧ KR K (frh f Hb) Gc ds acc ∧ ds.length ≤ 300 * i ∧ lc2Go (wipeVE ve us) is b mt mi1 is1 b1 mt1 (mPair mk mv) us1 (xs.drop i) (fun r => Φ (dOf (foldP ds r))) Ξ
    refine ⟨fun i m Hc => m = xs.length - i ∧ i ≤ xs.length ∧ Pv i Hc, ⟨_, rfl, Nat.zero_le _, G1, [], [], g1'.trans (Grow.hid g1'.sub hL), g1'.sub.self, fresh_back g1'.sub hL, upd_same, ⟨rfl, .nil⟩, Nat.le_refl _, by simpa using p1⟩, ?_⟩
    rintro i m Hc ⟨rfl, hil, Gc, acc, ds, gc, e1, nL, hcL, rs, hdl, pm⟩
    have eH : Ex G1 Hc := e1.trans gc.sub
    by_cases hlt : i < xs.length
    · obtain ⟨a, ha⟩ : ∃ a, xs[i]? = some a := ⟨_, List.getElem?_eq_getElem hlt⟩
      refine .inr ⟨W.goes i Hc hlt eH, Pv (i + 1), fun H' p' => ⟨_, by omega, rfl, hlt, p'⟩, fun x H2 hy => ?_⟩
      obtain ⟨a', G2, ha', g2, rx⟩ := W.yields i Hc x H2 hlt eH hy
      rw [ha] at ha'
      cases ha'
      obtain ⟨g3, e3⟩ := g2.on e1 gc.sub
      have k2 := g3.keep hcL nL
      have c3 := (c.grow gc).grow g3
      rw [drop_next ha] at pm
      obtain ⟨bs, eb, pm⟩ := M.opt_inv pm
      refine hg none _ H2 a x bs _ _ eb (rx.mono e3) g3.sub fun ws hw rw' => ⟨by rw [wipe_setS hs, wipe_wipe], ?_⟩
      have c4 : Cv K EE Hb (setVE false (wipeVE ve us) is bs) (setS (L2.wipe σ us) is ws) _ H2 Ξ := ⟨VR.setS c3.vr.wipe rw', c3.e, c3.b, c3.x, c3.tb⟩
      refine ht Hb _ _ _ H2 _ Ξ c4 pm _ fun x G4 H4 p4 g4 => ?_
      have k4 := g4.keep k2.1 k2.2
      have c5 := c4.grow g4
      have gA := (gc.trans g3).trans g4
      cases x with
      | false => exact ⟨G4, acc, ds, gA, e1.trans (g3.e.trans g4.e), k4.2, k4.1, rs.mono (g3.e.trans g4.e), by omega, p4⟩
      | true =>
        -- the inner for
        refine hi1 Hb _ _ G4 H4 _ Ξ c5 p4 _ fun J1 ys G5 H5 p5 g5 W1 => ?_
        obtain ⟨hyl, p5⟩ := p5
        have c6 := c5.grow g5
        have k5 := g5.keep k4.1 k4.2
        have gB := gA.trans g5
        let Pi : Nat → Hp → Prop := fun j Hd => ∃ Gd acc' es, Grow G H Gd Hd ∧ Ex G5 Gd ∧ Gd L = none ∧ Hd L = some (.dK acc') ∧ KR K (frh f Hb) Gd (foldP ds es) acc' ∧ es.length ≤ j ∧
          lcGo (wipeVE (setVE false (wipeVE ve us) is bs) us1) is1 b1 mt1 (mPair mk mv) (ys.drop j) (fun r => bnd (lc2Go (wipeVE ve us) is b mt mi1 is1 b1 mt1 (mPair mk mv) us1 (xs.drop (i + 1))) (fun r2 => ret (es ++ r ++ r2)) (fun r => Φ (dOf (foldP ds r))) Ξ) Ξ
        refine ⟨fun j k Hd => k = ys.length - j ∧ j ≤ ys.length ∧ Pi j Hd, ⟨_, rfl, Nat.zero_le _, G5, acc, [], gB, g5.sub.self, k5.2, k5.1, rs.mono ((g3.e.trans g4.e).trans g5.e), Nat.le_refl _, p5⟩, ?_⟩
        rintro j k Hd ⟨rfl, hjl, Gd, acc', es, gd, ed, nd, hd, rd, hda, pd⟩
        have eD : Ex G5 Hd := ed.trans gd.sub
        by_cases hj : j < ys.length
        · obtain ⟨y, hy'⟩ : ∃ y, ys[j]? = some y := ⟨_, List.getElem?_eq_getElem hj⟩
          refine .inr ⟨W1.goes j Hd hj eD, Pi (j + 1), fun H' p' => ⟨_, by omega, rfl, hj, p'⟩, fun x2 H6 hy2 => ?_⟩
          obtain ⟨y', G6, hy'', g6, rx2⟩ := W1.yields j Hd x2 H6 hj eD hy2
          rw [hy'] at hy''
          cases hy''
          obtain ⟨g7, e7⟩ := g6.on ed gd.sub
          have k7 := g7.keep hd nd
          rw [drop_next hy'] at pd
          obtain ⟨bs1, eb1, pd⟩ := M.opt_inv pd
          -- the state at the inner turn
          have cd : Cv K EE Hb (setVE false (wipeVE ve us) is bs) (setS (L2.wipe σ us) is ws) _ H6 Ξ := ⟨(c6.vr.mono ed).mono g7.e, g7.sub, (c.grow gd).b.trans g7.ext, fun x cls d G' H' hx g r => (c.grow gd).x x cls d G' H' hx (g7.trans g) r, g7.ext.t (c.grow gd).tb⟩
          refine hg1 none _ H6 y x2 bs1 _ _ eb1 (rx2.mono e7) g7.sub fun ws1 hw1 rw1 => ⟨by rw [wipe_setS hs1, wipe_wipe], ?_⟩
          have ce : Cv K EE Hb (setVE false (wipeVE (setVE false (wipeVE ve us) is bs) us1) is1 bs1) (setS (L2.wipe (setS (L2.wipe σ us) is ws) us1) is1 ws1) _ H6 Ξ := ⟨VR.setS cd.vr.wipe rw1, cd.e, cd.b, cd.x, cd.tb⟩
          refine ht1 Hb _ _ _ H6 _ Ξ ce pd _ fun x G8 H8 p8 g8 => ?_
          have k8 := g8.keep k7.1 k7.2
          have gC := (gd.trans g7).trans g8
          cases x with
          | false => exact ⟨G8, acc', es, gC, ed.trans (g7.e.trans g8.e), k8.2, k8.1, rd.mono (g7.e.trans g8.e), by omega, p8⟩
          | true =>
            refine hk Hb _ _ G8 H8 _ Ξ (ce.grow g8) p8 _ fun d v G9 H9 p9 g9 ry => ?_
            obtain ⟨kk, ek, p9⟩ := M.opt_inv p9
            refine hv Hb _ _ G9 H9 _ Ξ ((ce.grow g8).grow g9) p9 _ fun d2 v2 G10 H10 p10 g10 ry2 => ?_
            have ev := keyD_rep ek ry
            have k10 := g10.keep (g9.keep k8.1 k8.2).1 (g9.keep k8.1 k8.2).2
            have hlen' := foldP_length ds es
            have hkl := rd.length
            refine ⟨acc', kk, ev, k10.1, Evl.sz_lt (by omega), G10, putK acc' kk v2, es ++ [.tup [d, d2]], ((gC.trans g9).trans g10).put hLH k10.2 (by rw [k10.1]; rfl), ed.trans (g7.e.trans (g8.e.trans (g9.e.trans g10.e))), k10.2, upd_same, ?_, by rw [List.length_append]; simp; omega, ?_⟩
            · rw [foldP_snoc ek]
              exact (rd.mono (g7.e.trans (g8.e.trans (g9.e.trans g10.e)))).put ry2
            · have p10 : lcGo (wipeVE (setVE false (wipeVE ve us) is bs) us1) is1 b1 mt1 (mPair mk mv) (ys.drop (j + 1)) (fun r => bnd (lc2Go (wipeVE ve us) is b mt mi1 is1 b1 mt1 (mPair mk mv) us1 (xs.drop (i + 1))) (fun r2 => ret (es ++ (.tup [d, d2] :: r) ++ r2)) (fun r => Φ (dOf (foldP ds r))) Ξ) Ξ := p10
              simpa using p10
        · have ej : j = ys.length := by omega
          subst ej
          rw [List.drop_length] at pd
          have pd : lc2Go (wipeVE ve us) is b mt mi1 is1 b1 mt1 (mPair mk mv) us1 (xs.drop (i + 1)) (fun r2 => Φ (dOf (foldP ds (es ++ [] ++ r2)))) Ξ := pd
          have hlen' := foldP_length ds es
          refine .inl ⟨W1.stops Hd eD, Gd, acc', foldP ds es, gd, ((e1.trans (g3.e.trans g4.e)).trans (g5.e)).trans ed, nd, hd, rd, by omega, ?_⟩
          simpa [foldP_append] using pd
    · have ei : i = xs.length := by omega
      subst ei
      rw [List.drop_length] at pm
      have pm : Φ (dOf (foldP ds [])) := pm
      exact .inl ⟨W.stops Hc eH, q (dOf ds) (.ref L) (upd Gc L (.dK acc)) Hc pm (gc.ownK hcL nL hLH) (.dct (by
        cases f with
        | true => exact c.b.f _ hLH
        | false => trivial) upd_same rs.1.symm ((rs.mono (Ex.new gc.sub.n nL)).2))⟩
end
end VL

/-! VM19: set comprehensions of whole numbers: the rule of truth values turned to whole numbers; sorted({..}). -/
namespace VD
open PySem PySem.Spec PyProof.Rows L2
theorem addI_ok {X : Cx} {pins : List (Addr × Obj)} {σ : L2.St} {H : Hp} {s : Shared} {E : Value → Shared → Prop} {D : Addr} {S : Int → Bool} {n : Nat} {y : Int} {tk : Tok} {Q : Value → Shared → Prop} (I : L2.Inv X pins σ H s) (hD : H D = some (SetO X.w D S n)) (room : n + 1 < scanBound)
    (h : ∀ s', L2.Inv X pins σ (upd H D (SetO X.w D (fun j => S j || decide (j = y)) (if S y = true then n else n + 1))) s' → Q .none s') : wpAny (model X.prog X.w) X.A (call (.builtin "set.add") [.ref D, .int y tk]) Q E s := by
  have R := setO_get I hD
  refine setR_add R room fun h' sb new => ?_
  have he : ∃ u, h'.get? D = some u := by
    have ⟨o, _, _, _, ho, _⟩ := new
    exact ⟨o, ho⟩
  exact h _ (I.write (e := D) (t' := s.toks + 1) (by rw [hD]; trivial) (.inl rfl) (fun b u hb hu => (sb.2 b hb).trans hu) he (setO_new new))
section
variable {X : Cx}
/-- {elt for target in iter if ..}, elt a whole number: D the new set -/
def tScI (w : World) (wi : TI) (g : TG) (tt : TT) (te : TE) (vs : List Nat) : TE := fun σ H Q => wi σ H fun J H1 => ∀ D, H1 D = none → ∃ W : Nat → Nat → Hp → Prop, (∃ m, W 0 m (upd H1 D (SetO w D (fun _ => false) 0))) ∧ ∀ i m H, W i m H →
  (J.stop i H ∧ Q (.ref D) H) ∨ (J.go i H ∧ ∃ Nx : Hp → Prop, (∀ H', Nx H' → ∃ m', m' < m ∧ W (i + 1) m' H') ∧ ∀ x H', J.yld i H x H' → g x (wipe σ vs) H' fun σ2 H2 => wipe σ2 vs = wipe σ vs ∧ tt σ2 H2 fun b H3 =>
    if b = true then te σ2 H3 fun y H4 => ∃ (c : Int) (S : Int → Bool) (n : Nat), y = .int c ∧ H4 D = some (SetO w D S n) ∧ n + 1 < scanBound ∧ Nx (upd H4 D (SetO w D (fun j => S j || decide (j = c)) (if S c = true then n else n + 1))) else Nx H3)
theorem scI_core {pins : List (Addr × Obj)} {s : Shared} {σ : L2.St} {H : Hp} {Q : VK} {elt tg iter : Expr} {ifs : List Expr} {scope : Scope} {own : List (PySem.Str × Nat)} {pos pos' : Pos} {wi : TI} {g : TG} {tt : TT} {te : TE} {use : Option (Value → Sem Unit)} {Qf : Value → Shared → Prop}
    (hc : X.calm = true) (hN : X.N.Nodup) (I : L2.Inv X pins σ H s) (hi : PI X tg iter wi) (ok : BlkOk X.N X.env.scope scope own)
    (hg : ∀ (s : Shared) (H : Hp) (C : Addr) (cl : List (PySem.Str × Addr)) (fp : List Addr), PG (X.blk s H scope (compEnvC scope cl C X.env) fp) tg g) (ht : ∀ (s : Shared) (H : Hp) (C : Addr) (cl : List (PySem.Str × Addr)) (fp : List Addr), PTs (X.blk s H scope (compEnvC scope cl C X.env) fp) ifs tt)
    (he : ∀ (s : Shared) (H : Hp) (C : Addr) (cl : List (PySem.Str × Addr)) (fp : List Addr), PE (X.blk s H scope (compEnvC scope cl C X.env) fp) elt te) (hs : ∀ x, foldedSetIterable iter X.env x = pure x)
    (h : tScI X.w wi g tt te (own.map (·.2)) σ H Q)
    (hRR : ∀ D C s' m H', L2.Inv X pins σ H' s' → Q (.ref D) H' → s'.heap.Ns C m → FpOk X pins H' C → compPost (model X.prog X.w) X.A X.xe use Qf (.ref D) C (.ok .next) s') :
    wpAny (model X.prog X.w) X.A (comprehension (.SetComp elt [⟨tg, iter, ifs, 0⟩] scope pos) scope X.env pos' (newSet (.type "set")) false (eval iter X.env) use) Qf X.xe s := by
  have hfree : ∀ y ∈ scope.names, y.2 = .free → ∃ c, X.env.cells.lookup y.1 = some c := fun y hy e => by
    rcases ok.free y hy e with k | k
    · exact I.ok.has _ (.inl k)
    · exact I.ok.has _ (.inr k)
  refine wpAny_comprehension_free (use := use) rfl hs (closure_ok hfree) ok.kind (fun y hy e => by rw [ok.uniq y hy, e])
    (thn (hi.run pins s σ H _ I h) fun xv s1 hx => thn hx fun itv s2 h2 => ?_)
  obtain ⟨it, fp, tn, J, H2, e, I2, T, st2, f2, q⟩ := h2
  subst e
  refine PpSet.newSet_ok (newEnv_comp ?_)
  generalize hD : s2.heap.objs.size = D
  have hDn : H2 D = none := I2.hok.fresh (Nat.le_of_eq hD)
  obtain ⟨W, ⟨m0, w0⟩, turn⟩ := q D hDn
  -- the new list
  generalize hs3 : ({ s2 with heap := s2.heap.push { cls := .type "set", dict := none, data := .set #[] 0 (.fresh 0 0 (!X.w.params.followText "set-order")) } } : Shared) = s3
  have I3 : L2.Inv X pins σ (upd H2 D (SetO X.w D (fun _ => false) 0)) s3 := by
    rw [← hs3]
    refine I2.laid (t' := s2.toks) (fun b o e => Heap.get?_push_of_some _ e) (Nat.le_of_eq hD) ?_
    rw [← hD]
    exact setO_new (setR_fresh X.w)
  have h3 : s3.heap = s2.heap.push { cls := .type "set", dict := none, data := .set #[] 0 (.fresh 0 0 (!X.w.params.followText "set-order")) } := by rw [← hs3]
  have sz : ∀ b ∈ fp, b < s2.heap.objs.size := fun b hb => by
    obtain ⟨o, e, _⟩ := T.obj _ _ st2 b hb
    exact Heap.lt_size e
  have f3 : ∀ b ∈ fp, FpOk X pins (upd H2 D (SetO X.w D (fun _ => false) 0)) b ∧ b < s3.heap.objs.size := fun b hb => by
    have hlt := sz b hb
    refine ⟨⟨?_, (f2 b hb).2⟩, by rw [h3, Heap.size_push]; exact Nat.lt_succ_of_lt hlt⟩
    rw [upd_ne (by rw [← hD]; exact Nat.ne_of_lt hlt)]
    exact (f2 b hb).1
  have st3 : tn 0 s3.heap := T.keep _ _ _ st2 fun b _ o e => by rw [h3]; exact Heap.get?_push_of_some _ e
  have I4 := block_start I3 ok hN f3
  have pg := hg s3 (upd H2 D (SetO X.w D (fun _ => false) 0)) s3.heap.objs.size (cellsFrom (s3.heap.objs.size + 1) scope.names (cloFrom X.env.cells scope.names [])) fp
  have pt := ht s3 (upd H2 D (SetO X.w D (fun _ => false) 0)) s3.heap.objs.size (cellsFrom (s3.heap.objs.size + 1) scope.names (cloFrom X.env.cells scope.names [])) fp
  have pe := he s3 (upd H2 D (SetO X.w D (fun _ => false) 0)) s3.heap.objs.size (cellsFrom (s3.heap.objs.size + 1) scope.names (cloFrom X.env.cells scope.names [])) fp
  show codeAny _ _ (.compStart (.SetComp elt [⟨tg, iter, ifs, 0⟩] scope pos) 0 (.ref it) (.ref D) (compEnvC scope (cellsFrom (s3.heap.objs.size + 1) scope.names (cloFrom X.env.cells scope.names [])) s3.heap.objs.size X.env)) (compPost (model X.prog X.w) X.A X.xe use Qf (.ref D) s3.heap.objs.size) { s3 with heap := pushCells (s3.heap.push { cls := .type "dict", data := .dict #[] }) scope.names }
  have nfp : ∀ b ∈ fp, (upd H2 D (SetO X.w D (fun _ => false) 0)) b = none := fun b hb => (f3 b hb).1.1
  generalize hce : compEnvC scope (cellsFrom (s3.heap.objs.size + 1) scope.names (cloFrom X.env.cells scope.names [])) s3.heap.objs.size X.env = ce at I4 pg pt pe ⊢
  have cL : ce.locals = s3.heap.objs.size := by subst hce; rfl
  generalize hH3 : upd H2 D (SetO X.w D (fun _ => false) 0) = H3 at I3 I4 pg pt pe w0 nfp f3
  generalize hs4 : ({ s3 with heap := pushCells (s3.heap.push { cls := .type "dict", data := .dict #[] }) scope.names } : Shared) = s4 at I4 ⊢
  have st4 : tn 0 s4.heap := T.keep _ _ _ st3 fun b _ o e => by rw [← hs4]; exact pushCells_keeps _ _ _ _ (Heap.get?_push_of_some _ e)
  have stat : ∀ {σ' : L2.St} {H' : Hp} {s' : Shared}, Inv (X.blk s3 H3 scope ce fp) [] σ' H' s' → (∀ b ∈ fp, H' b = none) → ∀ b ∈ fp, FpOk (X.blk s3 H3 scope ce fp) [] H' b := fun {σ' H' s'} I' hn b hb =>
    ⟨hn b hb, (I'.ok.exf b hb).1, I'.ok.exfs b hb, .inl hb, fun x c e => (I'.ok.exf b hb).2 x c e, fun p hp => absurd (show p ∈ ([] : List (Addr × Obj)) ++ [] from hp) (by simp)⟩
  have loop : codeAny (model X.prog X.w) X.A (.compLoop (.SetComp elt [⟨tg, iter, ifs, 0⟩] scope pos) 0 (.ref it) (.ref D) ce) (compPost (model X.prog X.w) X.A X.xe use Qf (.ref D) s3.heap.objs.size) s4 := by
    refine PpSet.compLoopS_any (fun n s' => ∃ i H', Inv (X.blk s3 H3 scope ce fp) [] (wipe σ (own.map (·.2))) H' s' ∧ tn i s'.heap ∧ (∀ b ∈ fp, H' b = none) ∧ W i n H') ?_ m0 ⟨0, H3, I4, st4, nfp, w0⟩
    rintro n s5 ⟨i, H5, I5, st5, n5, w5⟩
    rcases turn i n H5 w5 with ⟨stop, qq⟩ | ⟨go, Nx, hNx, step⟩
    · have td := T.done (X.blk s3 H3 scope ce fp) rfl rfl rfl hc i [] s5 _ H5 (fun _ _ => False) I5 (stat I5 n5) st5 stop
      refine thnF td fun r s6 ⟨hr, I6⟩ => ?_
      subst hr
      -- back in the def's context
      have I7 : L2.Inv X pins σ H5 s6 := I3.call' (ch := fp) I6.os I6.base I6.hok I6.bare fun b hb => ⟨(f3 b hb).1.2.2.2.1, (f3 b hb).1.2.1, (f3 b hb).1.2.2.2.2.1, (f3 b hb).1.2.2.2.2.2⟩
      have nC : H5 s3.heap.objs.size = none := by
        have z : H5 ce.locals = none := I6.free
        rw [cL] at z
        exact z
      obtain ⟨m, hn, _⟩ := I6.loc
      have hn : s6.heap.Ns ce.locals m := hn
      rw [cL] at hn
      exact hRR D s3.heap.objs.size s6 m H5 I7 qq hn (I3.fpOk (Nat.le_refl _) nC)
    · have ti := T.item (X.blk s3 H3 scope ce fp) rfl rfl rfl hc i [] s5 _ H5 (fun _ _ => False) I5 (stat I5 n5) st5 go
      refine thnF ti fun r s6 ⟨u, hr, h6⟩ => ?_
      subst hr
      refine thnF h6 fun _ s7 ⟨x, H7, I7, r7, y7, st7, n7⟩ => ?_
      have I7' := I7.pinned (stat I7 n7) (T.obj _ _ st7)
      refine thnF (pg.run _ s7 _ H7 x u _ I7' r7 (step x H7 y7)) fun _ s8 ⟨σ8, H8, I8, hw8, q8⟩ => ?_
      refine thnF (pt.run _ s8 σ8 H8 _ I8 q8) fun b s9 ⟨H9, I9, q9⟩ => ?_
      -- the turn's end
      have fin : ∀ {s' : Shared} {H' : Hp}, Inv (X.blk s3 H3 scope ce fp) ([] ++ pinsAt fp s7.heap) σ8 H' s' → Nx H' → ∃ m, m < n ∧ ∃ i H', Inv (X.blk s3 H3 scope ce fp) [] (wipe σ (own.map (·.2))) H' s' ∧ tn i s'.heap ∧ (∀ b ∈ fp, H' b = none) ∧ W i m H' := fun {s' H'} I' nx => by
        obtain ⟨m', hm, w'⟩ := hNx H' nx
        have pin' : ∀ b ∈ fp, ∀ o, s7.heap.get? b = some o → s'.heap.get? b = some o ∧ H' b = none := fun b hb o e =>
          let z := I'.pin (b, o) (List.mem_append_right _ (List.mem_append_right _ (mem_pinsAt hb e)))
          ⟨z.1, z.2.1⟩
        have hl : (wipe σ (own.map (·.2))).length = σ8.length := by rw [← hw8, wipe_length]
        refine ⟨m', hm, i + 1, H', (I'.unpinned (pins := [])).weak hl (fun j v e => ?_), T.keep _ _ _ st7 fun b hb o e => (pin' b hb o e).1, fun b hb => ?_, w'⟩
        · rw [← hw8] at e
          exact (wipe_some e).1
        · obtain ⟨o, e, _⟩ := T.obj _ _ st7 b hb
          exact (pin' b hb o e).2
      cases b with
      | false =>
        simp only [Bool.false_eq_true, if_false] at q9 ⊢
        exact fin I9 q9
      | true =>
        simp only [if_true] at q9 ⊢
        refine thnF (pe.run _ s9 σ8 H9 _ I9 q9) fun z s10 ⟨yv, H10, I10, r10, cb, S0, n0, ey, hD10, hz10, nx⟩ => ?_
        subst ey
        obtain ⟨tk, rfl⟩ := (show ∃ tk, z = Value.int cb tk from r10)
        exact addI_ok (X := X.blk s3 H3 scope ce fp) I10 hD10 hz10 fun s11 I11 => fin I11 nx
  exact PpSet.codeAny_compStart_set loop (T.self X.A 0 _ _ _ st4 loop)
/-- as a value -/
theorem pe_scI {elt tg iter : Expr} {ifs : List Expr} {scope : Scope} {own : List (PySem.Str × Nat)} {pos : Pos} {wi : TI} {g : TG} {tt : TT} {te : TE} (hc : X.calm = true) (hN : X.N.Nodup) (hi : PI X tg iter wi) (ok : BlkOk X.N X.env.scope scope own)
    (hg : ∀ (s : Shared) (H : Hp) (C : Addr) (cl : List (PySem.Str × Addr)) (fp : List Addr), PG (X.blk s H scope (compEnvC scope cl C X.env) fp) tg g) (ht : ∀ (s : Shared) (H : Hp) (C : Addr) (cl : List (PySem.Str × Addr)) (fp : List Addr), PTs (X.blk s H scope (compEnvC scope cl C X.env) fp) ifs tt)
    (he : ∀ (s : Shared) (H : Hp) (C : Addr) (cl : List (PySem.Str × Addr)) (fp : List Addr), PE (X.blk s H scope (compEnvC scope cl C X.env) fp) elt te) (hs : ∀ x, foldedSetIterable iter X.env x = pure x := by intro _; rfl) :
    PE X (.SetComp elt [⟨tg, iter, ifs, 0⟩] scope pos) (tScI X.w wi g tt te (own.map (·.2))) := by
  refine ⟨fun pins s σ H Q I h => ?_⟩
  rw [PpSet.eval_SetComp]
  refine scI_core hc hN I hi ok hg ht he hs h fun D C s' m H' I' q hn f => ⟨m, hn, fun h'' sb => ?_⟩
  obtain ⟨f0, f1, f2, f3, f4, f5⟩ := f
  exact ⟨.ref D, H', I'.turned (t' := s'.toks) (fun b o hb e => (sb.2 b hb).trans e) f0 f1 f3 f4 f5, rfl, q⟩
end

end VD
namespace VL
open PySem PySem.Spec PyProof.Rows L2
open M (ret bnd nope grd exn opt drw)
theorem setO_code {w : World} {a : Addr} {S : Int → Bool} {n : Nat} (c : Addr) (q : Str) : SetO w a S n ≠ LamX.CodeO c q := fun z => by
  have e : (fun h => SetR w h a S n) = (fun h : Heap => ∃ (oc : Obj) (vs : Array Value) (t : Tok), h.get? c = some oc ∧ oc.data = .fields vs ∧ vs[1]? = some (.str q t)) := HO.ext.inj z
  let ob : Obj := { cls := .none, data := .fields #[.none, .str q 0] }
  let h : Heap := { objs := Array.replicate (a + c + 1) ob }
  have hg : ∀ b, b < a + c + 1 → h.get? b = some ob := fun b hb => by
    have h1 : h.objs[b]? = some ob := by
      show (Array.replicate (a + c + 1) ob)[b]? = some ob
      rw [Array.getElem?_replicate, if_pos hb]
    unfold Heap.get?
    rw [h1]
  have h2 : SetR w h a S n := by
    have e2 := congrFun e h
    rw [e2]
    exact ⟨ob, _, 0, hg c (Nat.lt_succ_of_le (Nat.le_add_left c a)), rfl, rfl⟩
  obtain ⟨o, es, ep, t, ho, _, hd, _⟩ := h2
  rw [hg a (Nat.lt_succ_of_le (Nat.le_add_right a c))] at ho
  cases ho
  cases hd
section
variable [Tbl] {K : Fr} {EE : XK} {f : Bool} {G G' H H' : Hp} {Hb : Hp} {d : D} {v : V} {te : TE} {me : VE → M D} {wi : TI} {g : TG} {tt : TT} {mi : VE → M (List D)} {is us : List Nat} {b : D → Option (List D)} {mt : VE → M Bool} {p : Addr} {o : HO}
theorem ExN.mutS (e : ExN H H') (h : H p = none) (w1 : ∀ ps, H' p ≠ some (.tbl ps)) (w2 : ∀ c q, H' p ≠ some (LamX.CodeO c q)) : ExN H (upd H' p o) := ⟨fun b u hb n => by
    rw [upd_ne (ne_of_none hb h)]; exact e.e b u hb n, fun a ha => e.f a (by
    unfold upd at ha; split at ha
    · cases ha
    · exact ha), fun t x hx => by
    obtain ⟨ps, h1, h2, h3⟩ := e.t t x hx
    refine ⟨ps, ?_, h2, fun pos cv hc => ?_⟩
    · rw [upd_ne (fun y => w1 ps (by rw [← y]; exact h1))]; exact h1
    · obtain ⟨c, e1, e2⟩ := h3 pos cv hc
      exact ⟨c, e1, by rw [upd_ne (fun y => w2 _ _ (by rw [← y]; exact e2))]; exact e2⟩⟩
theorem Grow.putS {w : World} {S : Int → Bool} {n : Nat} (a : Grow G H G' H') (hn : H p = none) (h : G' p = none) (hs : H' p = some (SetO w p S n)) : Grow G H G' (upd H' p o) :=
  ⟨a.e, a.sub.mut h, a.ext.mutS hn (fun ps z => by rw [hs] at z; cases z) (fun c q z => by rw [hs] at z; exact setO_code c q (Option.some.inj z)), a.new⟩
theorem Grow.keepS {w : World} {S : Int → Bool} {n : Nat} (a : Grow G H G' H') (h : H p = some (SetO w p S n)) (hn : G p = none) : H' p = some (SetO w p S n) ∧ G' p = none := ⟨a.ext.e _ _ h (fun ps z => by cases z), by
  cases q : G' p with
  | none => rfl
  | some u =>
    rcases a.new p hn (by rw [q]; simp) with z | ⟨c, z⟩
    · rw [z] at h; cases h
    · have h1 := a.ext.e _ _ h (fun ps z => by cases z)
      rw [a.sub _ _ z] at h1
      exact (setO_code p c (Option.some.inj h1.symm)).elim⟩
def mInt (me : VE → M D) : VE → M D := fun ve => bnd (me ve) fun d => bnd (opt (tIn d)) fun n => ret (.int n)
@[simp] theorem mInt_ap {ve : VE} : mInt me ve = bnd (me ve) fun d => bnd (opt (tIn d)) fun n => ret (.int n) := id rfl
/-- sorted({e for t in xs if c}) -/
def mSortC (mi : VE → M (List D)) (is : List Nat) (b : D → Option (List D)) (mt : VE → M Bool) (me : VE → M D) (us : List Nat) : VE → M D := fun ve =>
  bnd (mi ve) fun xs => grd (xs.length < 64) (bnd (lcGo (wipeVE ve us) is b mt (mInt me) xs) fun ds => bnd (opt (intsOf ds)) fun ns => ret (.lst ((sortSet ns).map .int)))
@[simp] theorem mSortC_ap {ve : VE} : mSortC mi is b mt me us ve = bnd (mi ve) fun xs => grd (xs.length < 64) (bnd (lcGo (wipeVE ve us) is b mt (mInt me) xs) fun ds => bnd (opt (intsOf ds)) fun ns => ret (.lst ((sortSet ns).map .int))) := id rfl
theorem xe_sortC {w : World} (hi : XI K EE wi mi) (hg : XG K g is b) (ht : XT K EE tt mt) (he : XE K EE false te me) (hs : ∀ i ∈ is, i ∈ us) : XE K EE f (tCB (rSortedSet w) (tCons (VD.tScI w wi g tt te us) tNil)) (mSortC mi is b mt me us) := fun Hb ve σ G H Φ Ξ c m Q q =>
  hi Hb ve σ G H _ Ξ c m _ fun J xs G1 H1 p1 g1 W => fun L hL => by
    obtain ⟨hlen, p1⟩ := p1
    have hLH : H L = none := g1.free hL
    have h9 : (64 : Nat) ≤ scanBound := by decide
    let Φ' : List D → Prop := fun ds => bnd (opt (intsOf ds)) (fun ns => ret (.lst ((sortSet ns).map .int))) Φ Ξ
    have p1 : lcGo (wipeVE ve us) is b mt (mInt me) xs Φ' Ξ := p1
    let Pv : Nat → Hp → Prop := fun i Hc => ∃ (Gc : Hp) (ns : List Int) (k : Nat), Grow G H Gc Hc ∧ Ex G1 Gc ∧ Gc L = none ∧ Hc L = some (SetO w L (fun j => decide (j ∈ ns)) k) ∧ k ≤ ns.length ∧ ns.length ≤ i ∧ lcGo (wipeVE ve us) is b mt (mInt me) (xs.drop i) (fun r => Φ' (ns.map .int ++ r)) Ξ
    have e0 : (fun _ : Int => false) = (fun j => decide (j ∈ ([] : List Int))) := by funext j; simp
    refine ⟨fun i m Hc => m = xs.length - i ∧ i ≤ xs.length ∧ Pv i Hc, ⟨_, rfl, Nat.zero_le _, G1, [], 0, g1.trans (Grow.hid g1.sub hL), g1.sub.self, fresh_back g1.sub hL, by rw [upd_same, e0], Nat.le_refl _, Nat.le_refl _, by simpa using p1⟩, ?_⟩
    rintro i m Hc ⟨rfl, hil, Gc, ns, kn, gc, e1, nL, hcL, hk1, hk2, pm⟩
    have eH : Ex G1 Hc := e1.trans gc.sub
    by_cases hlt : i < xs.length
    · obtain ⟨a, ha⟩ : ∃ a, xs[i]? = some a := ⟨_, List.getElem?_eq_getElem hlt⟩
      refine .inr ⟨W.goes i Hc hlt eH, Pv (i + 1), fun H' p' => ⟨_, by omega, rfl, hlt, p'⟩, fun x H2 hy => ?_⟩
      obtain ⟨a', G2, ha', g2, rx⟩ := W.yields i Hc x H2 hlt eH hy
      rw [ha] at ha'
      cases ha'
      obtain ⟨g3, e3⟩ := g2.on e1 gc.sub
      have k2 := g3.keepS hcL nL
      have c3 := (c.grow gc).grow g3
      rw [drop_next ha] at pm
      obtain ⟨bs, eb, pm⟩ := M.opt_inv pm
      refine hg none _ H2 a x bs _ _ eb (rx.mono e3) g3.sub fun ws hw rw' => ⟨by rw [wipe_setS hs, wipe_wipe], ?_⟩
      have c4 : Cv K EE Hb (setVE false (wipeVE ve us) is bs) (setS (L2.wipe σ us) is ws) _ H2 Ξ := ⟨VR.setS c3.vr.wipe rw', c3.e, c3.b, c3.x, c3.tb⟩
      refine ht Hb _ _ _ H2 _ Ξ c4 pm _ fun x G4 H4 p4 g4 => ?_
      have k4 := g4.keepS k2.1 k2.2
      have c5 := c4.grow g4
      have gA := (gc.trans g3).trans g4
      cases x with
      | false => exact ⟨G4, ns, kn, gA, e1.trans (g3.e.trans g4.e), k4.2, k4.1, hk1, by omega, p4⟩
      | true =>
        refine he Hb _ _ G4 H4 _ Ξ c5 p4 _ fun d y G5 H5 p5 g5 ry => ?_
        obtain ⟨n0, en, p5⟩ := M.opt_inv p5
        rw [tIn_inv en] at ry
        have k5 := g5.keepS k4.1 k4.2
        refine ⟨n0, _, kn, ry.int_inv, k5.1, (by omega), G5, ns ++ [n0], _, (gA.trans g5).putS hLH k5.2 k5.1, e1.trans (g3.e.trans (g4.e.trans g5.e)), k5.2, (by
          rw [upd_same]
          congr 1
          have e2 : (fun j : Int => decide (j ∈ ns) || decide (j = n0)) = (fun j => decide (j ∈ ns ++ [n0])) := by funext j; simp
          rw [e2]), ?_, by rw [List.length_append]; simp; omega, ?_⟩
        · rw [List.length_append, List.length_singleton]; split <;> omega
        · have p5 : lcGo (wipeVE ve us) is b mt (mInt me) (xs.drop (i + 1)) (fun r => Φ' (ns.map .int ++ (.int n0 :: r))) Ξ := p5
          simpa using p5
    · have ei : i = xs.length := by omega
      subst ei
      rw [List.drop_length] at pm
      have pm : Φ' (ns.map .int ++ []) := pm
      rw [List.append_nil] at pm
      have pm : bnd (opt (intsOf (ns.map D.int))) (fun ns => ret (.lst ((sortSet ns).map .int))) Φ Ξ := pm
      rw [intsOf_map] at pm
      have pm : Φ (.lst ((sortSet ns).map .int)) := pm
      refine .inl ⟨W.stops Hc eH, L, _, kn, rfl, hcL, by omega, fun zs q' hz hm _ hn => ?_⟩
      have ez : zs = sortSet ns := lt_uniq hz (sortSet_lt ns) fun k => by rw [hm, mem_sortSet, decide_eq_true_iff]
      subst ez
      have g3 := Grow.laid (o := .lst ((sortSet ns).map V.int)) gc.sub hn
      exact q _ (.ref q') _ _ pm (gc.trans g3) (.lst (frh_new (c.grow gc).b hn) upd_same (RepA.ofInts _))
end
end VL

/-! VM20: exceptions: raised, let through, caught. -/
namespace VL
open PySem PySem.Spec PyProof.Rows L2
open M (ret bnd nope grd exn opt drw)
namespace M
variable {α β γ : Type}
/-- an end goes on by k, an exception by h -/
def hdl (m : M α) (k : α → M β) (h : Exn → M β) : M β := fun Φ Ξ => m (fun a => k a Φ Ξ) (fun x => h x Φ Ξ)
/-- whatever the address -/
def anyA (f : Addr → M α) : M α := fun Φ Ξ => ∀ a, f a Φ Ξ
@[simp] theorem hdl_ret (a : α) (k : α → M β) (h : Exn → M β) : hdl (ret a) k h = k a := id rfl
@[simp] theorem hdl_exn (x : Exn) (k : α → M β) (h : Exn → M β) : hdl (exn x) k h = h x := id rfl
@[simp] theorem hdl_nope (k : α → M β) (h : Exn → M β) : hdl nope k h = nope := id rfl
@[simp] theorem hdl_grd {p : Prop} (m : M α) (k : α → M β) (h : Exn → M β) : hdl (grd p m) k h = grd p (hdl m k h) := id rfl
@[simp] theorem hdl_bnd (m : M α) (f : α → M β) (k : β → M γ) (h : Exn → M γ) : hdl (bnd m f) k h = hdl m (fun a => hdl (f a) k h) h := id rfl
theorem hdl_ite {p : Prop} [Decidable p] (m1 m2 : M α) (k : α → M β) (h : Exn → M β) : hdl (if p then m1 else m2) k h = if p then hdl m1 k h else hdl m2 k h := by split <;> rfl
@[simp] theorem anyA_c (m : M α) : anyA (fun _ => m) = m := by funext Φ Ξ; exact propext ⟨fun z => z 0, fun z _ => z⟩
@[simp] theorem bnd_anyA (f : Addr → M α) (k : α → M β) : bnd (anyA f) k = anyA fun a => bnd (f a) k := id rfl
end M
open M (hdl anyA)
section
variable [Tbl] {K : Fr} {EE : XK} {fr f f1 : Bool} {H0 G0 : Hp} {ρ ρ' : Env} {σ : L2.St} {G G' H H' G1 H1 : Hp} {Ξ : Exn → Prop} {Φ : Oc → Prop} {De : Ends} {d : D} {v : V} {ds : List D} {vs : List V} {fp : Nat → List Addr} {i j : Nat} {s : Slot}
variable {te ta ti tk : TE} {tr : TA} {ma mi' me mk : VE → M D} {mr : VE → M (List D)} {ts tu : TS}
/-! ### calls that may let an exception out -/
/-- an expression that lets out what ES says of the slots -/
def XS (K : Fr) (f : Bool) (te : (L2.St → XK) → TE) (m : VE → M D) : Prop := ∀ (ES : L2.St → XK) Hb ve σ G H Φ Ξ, Cv K (ES σ) Hb ve σ G H Ξ → m ve Φ Ξ → ∀ Q : VK, (∀ d v G' H', Φ d → Grow G H G' H' → Rep K (frh f Hb) G' d v → Q v H') → te ES σ H Q
theorem xs_call {n : Nat} {mf : List D → M D} (h : ∀ EE, XA K EE false tr mr) : XS K f (fun ES => tCallS (spM K f n mf) ES tr) (mCall n mf mr) := fun ES Hb ve σ G H Φ Ξ c m Q q =>
  h (ES σ) Hb ve σ G H _ Ξ c m _ fun as xs G1 H1 p1 g1 r1 =>
    ⟨as, G1, Φ, Ξ, g1.sub, r1, p1.1, p1.2, (c.grow g1).tb, fun d v G' H' p g r => q d v G' H' p (g1.trans g) (r.h2 (c.grow g1).b), fun x cls d G' H' hx g r => (c.grow g1).x x cls d G' H' hx g r⟩
theorem XS.xe {tes : (L2.St → XK) → TE} (h : XS K f tes me) : XE K EE f (tes fun _ => EE) me := fun Hb ve σ G H Φ Ξ c m Q q => h (fun _ => EE) Hb ve σ G H Φ Ξ c m Q q
theorem XS.old {tes : (L2.St → XK) → TE} (h : XS K f tes me) : XS K false tes me := fun ES Hb ve σ G H Φ Ξ c m Q q => h ES Hb ve σ G H Φ Ξ c m Q fun d v G' H' p g r => q d v G' H' p g r.old
@[simp] theorem mCall_ap {n : Nat} {mf : List D → M D} {ve : VE} : mCall n mf mr ve = bnd (mr ve) fun as => grd (as.length = n) (mf as) := id rfl

/-! ### raise -/
/-- what an own exception's __init__ does: its fields are its arguments -/
def spExI (C : Addr) (ns : List Str) : Sp := fun vs H Q _ => ∃ (a : Addr) (us : List V), vs = .ref a :: us ∧ us.length = ns.length ∧ H a = some (exo a C none) ∧
  ∀ d, H d = none → d ≠ a → Q .non (upd (upd H d (exd d (ns.zip us).reverse)) a (exo a C (some d)))
/-- raise C(e, ..) -/
def sRaise (C : Addr) (ns : List Str) (mr : VE → M (List D)) : Env → M Oc := fun ρ => bnd (mr (vA ρ)) fun as => grd (as.length = ns.length ∧ ns.length ≤ 1000) (exn ⟨C, ns.reverse, as.reverse⟩)
@[simp] theorem sRaise_ap {C : Addr} {ns : List Str} : sRaise C ns mr ρ = bnd (mr (vA ρ)) fun as => grd (as.length = ns.length ∧ ns.length ≤ 1000) (exn ⟨C, ns.reverse, as.reverse⟩) := id rfl
def tRaiseO (C : Addr) (sp : Sp) (ta : TA) (EE : XK) : TS := fun _ σ H => tMkO C sp [] ta σ H fun cls d H' => EE cls d H'
theorem r_raise {C : Addr} {ns : List Str} (h : XA K EE false tr mr) : RS K EE fr (tRaiseO C (spExI C ns) tr EE) (sRaise C ns mr) := fun G0 H0 ρ σ G H fp De Φ Ξ gr st m k =>
  h H0 _ σ G H _ Ξ (k.cvA gr st) m _ fun as vs G1 H1 p g r => by
    obtain ⟨⟨hl, h1000⟩, p⟩ := p
    have hv : vs.length = ns.length := by rw [← r.length]; exact hl
    refine ⟨by omega, fun a ha => ⟨a, vs ++ [], rfl, by rw [List.append_nil]; exact hv, upd_same, fun d hd hda => ⟨rfl, d, (ns.zip vs).reverse, upd_same, ?_, ?_, ?_⟩⟩⟩
    · rw [List.append_nil, upd_ne hda, upd_same]
    · rw [upd_ne hda] at hd; exact hd
    · have hd' : H1 d = none := by rw [upd_ne hda] at hd; exact hd
      have eq : upd (del (upd (upd (upd H1 a (exo a C none)) d (exd d (ns.zip (vs ++ [])).reverse)) a (exo a C (some d))) a) d (.xd (ns.zip vs).reverse) = upd H1 d (.xd (ns.zip vs).reverse) := by
        funext b
        by_cases h1 : b = d
        · subst h1; rw [upd_same, upd_same]
        · rw [upd_ne h1, upd_ne h1]
          by_cases h2 : b = a
          · subst h2; rw [del_same]; exact ha.symm
          · rw [del_ne h2, upd_ne h2, upd_ne h1, upd_ne h2]
      rw [eq]
      have gl := Grow.laid (o := .xd (ns.zip vs).reverse) g.sub hd'
      have hzf : (ns.zip vs).map (·.1) = ns := List.map_fst_zip (by omega)
      have hzs : (ns.zip vs).map (·.2) = vs := List.map_snd_zip (by omega)
      refine k.ex _ _ _ _ _ p ((gr.trans g).trans gl) ⟨rfl, d, (ns.zip vs).reverse, rfl, upd_same, ?_, ?_⟩
      · rw [List.map_reverse, hzf]
      · rw [List.map_reverse, hzs]; exact (r.mono gl.e).rev
/-! ### try: x = e / except C as n -/
def outU (i : Nat) : Oc → M Oc
  | .nx ρ => ret (.nx (ρ.set i .un))
  | .rt ρ d => ret (.rt (ρ.set i .un) d)
  | .bk ρ => ret (.bk (ρ.set i .un))
  | .ct ρ => ret (.ct (ρ.set i .un))
@[simp] theorem outU_nx (i : Nat) (ρ : Env) : outU i (.nx ρ) = ret (.nx (ρ.set i .un)) := id rfl
@[simp] theorem outU_rt (i : Nat) (ρ : Env) (d : D) : outU i (.rt ρ d) = ret (.rt (ρ.set i .un) d) := id rfl
@[simp] theorem outU_bk (i : Nat) (ρ : Env) : outU i (.bk ρ) = ret (.bk (ρ.set i .un)) := id rfl
@[simp] theorem outU_ct (i : Nat) (ρ : Env) : outU i (.ct ρ) = ret (.ct (ρ.set i .un)) := id rfl
/-- the clause -/
def mHand (yes no : List Addr) (i : Nat) (mh : Addr → Addr → Addr → Env → M Oc) (ρ : Env) : Exn → M Oc := fun x =>
  if x.c ∈ yes then anyA fun a => anyA fun d => bnd (mh a x.c d (ρ.set i (.sh false (.exc a d x.c x.ns x.ds)))) (outU i) else if x.c ∈ no then exn x else nope
theorem StR.unset (h : StR K H0 ρ σ G H fp) (w : Option V) : StR K H0 (ρ.set i .un) (σ.set i w) G H (fset fp i []) := by
  refine ⟨by rw [List.length_set, List.length_set, h.len], fun j s e => ?_, fun j e => ?_, fun j a ha => ?_, fun j k a h1 h2 => ?_, fun j => ?_⟩
  · by_cases hj : i = j
    · subst hj
      by_cases hl : i < ρ.length
      · rw [List.getElem?_set_self hl] at e; cases e
        unfold fset; rw [if_pos rfl]
        exact .un _
      · rw [List.getElem?_eq_none (by rw [List.length_set]; omega)] at e; cases e
    · rw [List.getElem?_set_ne hj] at e ⊢
      unfold fset; rw [if_neg (fun z => hj z.symm)]
      exact h.sl j s e
  · unfold fset; split
    · rfl
    · exact h.out j (by rw [List.getElem?_eq_none_iff] at e ⊢; rw [List.length_set] at e; exact e)
  · unfold fset at ha; split at ha
    · cases ha
    · exact h.fr j a ha
  · unfold fset at h1 h2; split at h1
    · cases h1
    · split at h2
      · cases h2
      · exact h.dj j k a h1 h2
  · unfold fset; split
    · exact List.nodup_nil
    · exact h.nd j
/-- what the class clause says -/
structure ExcCl (K : Fr) (c : Value) (yes no : List Addr) : Prop where
  y : ∀ C ∈ yes, PySem.W.exmOne K (.ref C) c = some true
  n : ∀ C ∈ no, PySem.W.exmOne K (.ref C) c = some false
theorem hand_ok {c : Value} {yes no : List Addr} {mh : Addr → Addr → Addr → Env → M Oc} {th : Addr → Value → Option Addr → TS} (hc : ExcCl K c yes no) (hh : ∀ a c0 d, RS K EE fr (th a (.ref c0) (some d)) (mh a c0 d))
    (gr : Grow G0 H0 G H) (st : StR K H0 ρ σ G H fp) (k : EndOk K EE fr G0 H0 G De Φ Ξ) : ∀ (x : Exn) cls d G' H', mHand yes no i mh ρ x Φ Ξ → Grow G H G' H' → ExR K x cls d G' → wAs K c i th (fun cls d _ H => EE cls d H) De cls d σ H' := fun x cls d G' H' hx g r => by
  unfold mHand at hx
  obtain ⟨rfl, ex, fs, rfl, h1, h2, h3⟩ := id r
  split at hx
  · rename_i hy
    refine ⟨true, hc.y _ hy, fun _ a ha => ?_, fun z => by cases z⟩
    have st1 := (st.grow g).setSh (i := i) (f := false) (d := .exc a ex x.c x.ns x.ds) (v := .ref a) (.exc h1 h2 h3)
    refine hh a x.c ex G0 H0 _ _ G' H' _ _ _ Ξ (gr.trans g) st1 (hx a ex) ⟨fun ρ3 σ3 G3 H3 fp3 p3 e3 g3 s3 => ?_, fun ρ3 σ3 d3 v3 G3 H3 fp3 p3 g3 s3 r3 => ?_, fun ρ3 σ3 G3 H3 fp3 p3 e3 g3 s3 => ?_, fun ρ3 σ3 G3 H3 fp3 p3 e3 g3 s3 => ?_, k.ex, k.tb⟩
    · exact k.nx _ _ G3 H3 _ p3 (g.e.trans e3) g3 (s3.unset none)
    · exact k.rt _ _ d3 v3 G3 H3 _ p3 g3 (s3.unset none) r3
    · exact k.bk _ _ G3 H3 _ p3 (g.e.trans e3) g3 (s3.unset none)
    · exact k.ct _ _ G3 H3 _ p3 (g.e.trans e3) g3 (s3.unset none)
  · split at hx
    · rename_i hn
      exact ⟨false, hc.n _ hn, (fun z => nomatch z), fun _ => k.ex x _ _ G' H' hx (gr.trans g) r⟩
    · exact hx.elim
/-- try: x = e -/
def sTryA (f : Bool) (jx : Nat) (me : VE → M D) (h : Env → Exn → M Oc) : Env → M Oc := fun ρ => hdl (me (vA ρ)) (fun d => ret (.nx (ρ.set jx (.sh f d)))) (h ρ)
@[simp] theorem sTryA_ap {jx : Nat} {h : Env → Exn → M Oc} : sTryA f jx me h ρ = hdl (me (vA ρ)) (fun d => ret (.nx (ρ.set jx (.sh f d)))) (h ρ) := id rfl
/-- try: e -/
def sTryD (me : VE → M D) (h : Env → Exn → M Oc) : Env → M Oc := fun ρ => hdl (me (vA ρ)) (fun _ => ret (.nx ρ)) (h ρ)
@[simp] theorem sTryD_ap {h : Env → Exn → M Oc} : sTryD me h ρ = hdl (me (vA ρ)) (fun _ => ret (.nx ρ)) (h ρ) := id rfl
theorem r_tryA {tes : (L2.St → XK) → TE} {jx : Nat} {c : Value} {yes no : List Addr} {mh : Addr → Addr → Addr → Env → M Oc} {th : Addr → Value → Option Addr → TS} (hb : XS K f tes me) (hc : ExcCl K c yes no) (hh : ∀ a c0 d, RS K EE fr (th a (.ref c0) (some d)) (mh a c0 d)) :
    RS K EE fr (fun D σ H => tAsg (tes (WE (wAs K c i th (fun cls d _ H => EE cls d H) D))) (gName jx) D σ H) (sTryA f jx me (mHand yes no i mh)) := fun G0 H0 ρ σ G H fp De Φ Ξ gr st m k =>
  hb (WE (wAs K c i th (fun cls d _ H => EE cls d H) De)) H0 _ σ G H (fun d => Φ (.nx (ρ.set jx (.sh f d)))) (fun x => mHand yes no i mh ρ x Φ Ξ) ⟨st.vA, gr.sub, gr.ext, hand_ok hc hh gr st k, gr.ext.t k.tb⟩ m _ fun d v G1 H1 p g r => k.nx _ _ G1 H1 _ p g.e (gr.trans g) ((st.grow g).setSh r)
theorem r_tryD {tes : (L2.St → XK) → TE} {c : Value} {yes no : List Addr} {mh : Addr → Addr → Addr → Env → M Oc} {th : Addr → Value → Option Addr → TS} (hb : XS K false tes me) (hc : ExcCl K c yes no) (hh : ∀ a c0 d, RS K EE fr (th a (.ref c0) (some d)) (mh a c0 d)) :
    RS K EE fr (fun D σ H => tDrop (tes (WE (wAs K c i th (fun cls d _ H => EE cls d H) D))) D σ H) (sTryD me (mHand yes no i mh)) := fun G0 H0 ρ σ G H fp De Φ Ξ gr st m k =>
  hb (WE (wAs K c i th (fun cls d _ H => EE cls d H) De)) H0 _ σ G H (fun _ => Φ (.nx ρ)) (fun x => mHand yes no i mh ρ x Φ Ξ) ⟨st.vA, gr.sub, gr.ext, hand_ok hc hh gr st k, gr.ext.t k.tb⟩ m _ fun d v G1 H1 p g r => k.nx _ _ G1 H1 _ p g.e (gr.trans g) (st.grow g)
/-! ### the exception's fields -/
def lookF (f : Str) : List Str → List D → Option D
  | n :: ns, d :: ds => if n = f then some d else lookF f ns ds
  | _, _ => none
theorem lookF_ok {f : Str} {fr' : Option Hp} : ∀ {fs : List (Str × V)} {ns : List Str} {ds : List D} {d : D}, fs.map (·.1) = ns → RepA K fr' G ds (fs.map (·.2)) → lookF f ns ds = some d → ∃ v, fs.lookup f = some v ∧ Rep K fr' G d v
  | [], ns, ds, d, h, r, e => by cases h; cases r; simp [lookF] at e
  | p :: fs, ns, ds, d, h, r, e => by
    cases h
    cases r with
    | cons r t =>
      rename_i d0 ds
      obtain ⟨g, w⟩ := p
      rw [List.map_cons] at e
      unfold lookF at e
      split at e
      · rename_i h
        cases e
        have h : g = f := h
        subst h
        exact ⟨w, by simp [List.lookup], r⟩
      · rename_i h
        have h : ¬ g = f := h
        obtain ⟨v, hv, rv⟩ := lookF_ok rfl t e
        have e2 : (f == g) = false := by
          rw [beq_eq_false_iff_ne]; exact fun z => h z.symm
        exact ⟨v, by simp [List.lookup, e2, hv], rv⟩
/-- e.f, e the exception caught, of the class C -/
def mXf (C : Addr) (f : Str) (a c0 d : Addr) (ma : VE → M D) : VE → M D := fun ve => bnd (ma ve) fun x => match x with
  | .exc a' d' _ ns ds => grd (a' = a ∧ d' = d ∧ c0 = C) (opt (lookF f ns ds))
  | _ => nope
@[simp] theorem mXf_ap {C : Addr} {fl : Str} {a c0 d : Addr} {ve : VE} : mXf C fl a c0 d ma ve = bnd (ma ve) fun x => match x with
  | .exc a' d' _ ns ds => grd (a' = a ∧ d' = d ∧ c0 = C) (opt (lookF fl ns ds))
  | _ => nope := id rfl
theorem xe_xf {C a c0 dd : Addr} {fl : Str} (h : XE K EE false te ma) : XE K EE false (tXf a (.ref c0) (some dd) C fl te) (mXf C fl a c0 dd ma) := fun Hb ve σ G H Φ Ξ c m Q q =>
  h Hb ve σ G H _ Ξ c m _ fun x v G1 H1 p g r => by
    cases x <;> first | exact p.elim | skip
    obtain ⟨⟨rfl, rfl, rfl⟩, p⟩ := p
    obtain ⟨z, e, p⟩ := M.opt_inv p
    cases r with
    | exc h1 h2 h3 =>
      obtain ⟨v, hv, rv⟩ := lookF_ok h2 h3 e
      exact ⟨rfl, rfl, _, _, v, rfl, g.sub _ _ h1, hv, q z v G1 H1 p g rv⟩
end
end VL

/-! VM21: exceptions: the rules that a derivation names; isinstance of a caught one. -/
namespace VD
open PySem PySem.W PySem.Spec PySem.Calls PyProof.Rows
section
variable {prog : Program} {w : World} {A : Around} {E : Value → Shared → Prop} {s : Shared} {K : Frag} {x D : Addr} {ox : Obj} {od : Option Obj}
theorem findObj_dataO {C : Addr} {name : PySem.Str} {a g : Value} (hc : (clsIn K C).isSome = true) (ha : findIn K (.ref C) name = some (some a)) (hg : specialIn K a "__get__" = some (some g)) (ht : takesIn K a = some true) : findObj K C od name = some (.bind g a) := by
  obtain ⟨cd, hc⟩ := Option.isSome_iff_exists.mp hc
  unfold findObj
  rw [hc, Option.bind_some, ha, Option.bind_some]
  simp [hg, ht]
/-- .__class__ of an exception of an own class, whatever its dict -/
theorem kin_classO {Q : Option Value → Shared → Prop} (hga : findIn K (.ref D) "__getattribute__" = some (some (.builtin "BaseException.__getattribute__"))) (hgt : findIn K (.ref D) "__getattr__" = some none) (hsub : subIn K (.ref D) (.type "BaseException") = some true)
    (hdct : hasDictIn K D = true) (ha : findIn K (.ref D) "__class__" = some (some (.builtin "object.__class__")))
    (hn : specialIn K (.builtin "object.__class__") "__get__" = some (some (.builtin "getset_descriptor.__get__"))) (htk : takesIn K (.builtin "object.__class__") = some true) (hm : mroIn K D (.type "object") = some true)
    (X : K.In s.heap) (I : InstAt s.heap x ox D od) (h : Q (some (.ref D)) { s with toks := s.toks + 1 }) : wpAny (model prog w) A (getAttr? (.ref x) "__class__") Q E s := by
  have hf : findObj K D od "__class__" = some (.bind (.builtin "getset_descriptor.__get__") (.builtin "object.__class__")) := findObj_dataO (by obtain ⟨cd, hc, _⟩ := any_some hdct; rw [hc]; rfl) ha hn htk
  obtain ⟨hp, g, d, t, os⟩ := s
  have L0 := I.type (M := model prog w)
  have L1 := looks_findIn (M := model prog w) X hga
  have L2 := looks_findIn (M := model prog w) X hgt
  have L3 := looks_find (M := model prog w) X I hf
  have sub : Looks (model prog w) hp (isInstance (.ref x) (.type "BaseException")) true := L0.andThen (looks_subIn X hsub)
  have hx0 : (false && onTheHeap (Value.builtin "BaseException.__getattribute__")) = false := rfl
  have hx2 : (Value.builtin "BaseException.__getattribute__" == Value.builtin "object.__getattribute__") = false := by decide +kernel
  have hx1 : (onTheHeap (Value.ref D) && Value.builtin "BaseException.__getattribute__" == Value.builtin "object.__getattribute__") = false := by rw [hx2]; rfl
  unfold getAttr? getAttrBy? getAttrBy
  refine wpAny_bind (wpAny_mkText (wpAny_bind (wpAny_attempt (wpAny_holding (wpAny_bind (L0.at (wpAny_bind (L1.at ?_))))))))
  show wpAny _ _ (if (onTheHeap (Value.ref D) && Value.builtin "BaseException.__getattribute__" == Value.builtin "object.__getattribute__") = true then _ else _) _ _ _
  rw [hx1, if_neg Bool.false_ne_true]
  unfold getAttrByItsOwn hookBefore
  refine wpAny_bind ?_
  rw [if_pos (show onTheHeap (Value.ref D) = true from rfl)]
  refine L2.at ?_
  refine wpAny_bind (wpAny_attempt (wpAny_holding ?_))
  unfold callGetattribute
  rw [hx0, if_neg Bool.false_ne_true]
  unfold boundAndCalled
  rw [PySem.F.excAttr_ValueError.ga.bind (.ref x)]
  refine wpAny_bind (wpAny_pure ?_)
  show wpAny _ _ (call (.builtin "BaseException.__getattribute__") [.ref x, .str "__class__" t]) _ _ _
  refine wpAny_call (codeAny_call_builtin PySem.F.excAttr_ValueError.ga.plain PySem.F.entry_bexc_ga ?_)
  refine @check_slot (model prog w) _ _ ⟨hp, g, d, t + 1, os⟩ "BaseException.__getattribute__" "BaseException" "__getattribute__" (.ref x) [.str "__class__" t] [] _ (by decide +kernel) (by decide +kernel) sub (PySem.F.args_bexc_ga (.ref x) (.str "__class__" t)) ?_
  unfold Builtin.«object.__getattribute__»
  refine wpAny_bind (wpAny_of_eq (a := ((Value.ref x : Value), [Value.str "__class__" t])) (by first | rfl | (simp only [slotArgs]; rfl)) ?_)
  refine wpAny_bind (wpAny_pure (wpAny_bind (L0.at (wpAny_bind (L3.at ?_)))))
  show wpAny _ _ (holding [Value.builtin "object.__class__"] (call (.builtin "getset_descriptor.__get__") [.builtin "object.__class__", .ref x, .ref D]) >>= ret) _ _ _
  refine wpAny_bind (wpAny_holding (wpAny_call (class_get (s := ⟨hp, g, d, t + 1, os⟩) (ox := ox) (od := od) X I hm ?_)))
  refine wpAny_pure ?_
  show wpAny _ _ (handedOut (.ref D)) _ _ _
  rw [handedOut_of (v := .ref D) rfl]
  first
    | exact wpAny_pure (wpAny_pure h)
    | exact wpAny_pure h
    | exact wpAny_pure (wpAny_bind (wpAny_pure (wpAny_pure h)))
theorem kitx_excO (hga : findIn K (.ref D) "__getattribute__" = some (some (.builtin "BaseException.__getattribute__"))) (hgt : findIn K (.ref D) "__getattr__" = some none) (hsub : subIn K (.ref D) (.type "BaseException") = some true) (hdct : hasDictIn K D = true) (ha : findIn K (.ref D) "__class__" = some (some (.builtin "object.__class__")))
    (hn : specialIn K (.builtin "object.__class__") "__get__" = some (some (.builtin "getset_descriptor.__get__"))) (htk : takesIn K (.builtin "object.__class__") = some true) (hm : mroIn K D (.type "object") = some true) :
    KitX K (.ref x) (.ref D) (fun h => InstAt h x ox D od) where
  ty := fun _ _ _ I => I.type
  it := fun _ _ X _ => by
    obtain ⟨cdD, hcD, _⟩ := any_some hdct
    unfold clsIn at hcD
    split at hcD
    · rename_i c' d' cd' sl' ho
      intro A' Q' E' s' k q
      unfold isType loadHead
      exact wpAny_bind (wpAny_loadPart (k _ _ (X _ _ ho)) (wpAny_pure q))
    · cases hcD
  ne := fun h tp dd its n sl X htp => by
    obtain ⟨cdD, hcD, _⟩ := any_some hdct
    refine Bool.eq_false_iff.mpr fun q => ?_
    have e : D = tp := Value.ref.inj (beq_iff_eq.mp q)
    subst e
    unfold clsIn at hcD
    split at hcD
    · rename_i c' d' cd' sl' ho
      have z := (X _ _ ho).symm.trans htp
      cases z
    · cases hcD
  ca := fun X I k => kin_classO hga hgt hsub hdct ha hn htk hm X I k
end
open L2
/-- isinstance(e, c), e the exception that the suite holds: a class, a new tuple of classes -/
def rIsX (K : PySem.W.Frag) (cls : Value) (d : Option Addr) (a : Addr) : List V → Hp → VK → Prop := fun xs H Q => ∃ (C dd : Addr) (fs : List (PySem.Str × V)) (c : V) (b : Bool), cls = .ref C ∧ d = some dd ∧ H dd = some (.xd fs) ∧ ExcC K C ∧ xs = [.ref a, c] ∧
  ((∃ cv : Value, (∀ u, RelV c u → u = cv) ∧ PySem.W.kitOne K (.ref C) cv = some b) ∨ ∃ (tp : Addr) (cs : List V) (ws : List Value), c = .ref tp ∧ H tp = some (.tup cs) ∧ (∀ us, Vals cs us → us = ws) ∧ PySem.W.kitAny K (.ref C) ws = some b) ∧ Q (.bl b) H
theorem call_isX {X : Cx} {a : Addr} {cls : Value} {d : Option Addr} {oe : Obj} {pn : List (Addr × Obj)} (hz : Zc cls d oe) (hf : ∃ vs, oe.data = .fields vs) : CallR (X.suite a ((a, oe) :: pn)) (.builtin "isinstance") (rIsX X.K cls d a) := by
  intro pins s σ H xs us Q I r h
  obtain ⟨D, dd, fs, c, b, rfl, rfl, hd, C, rfl, hc, q⟩ := h
  cases r with
  | cons rx rr =>
    cases rr with
    | cons rt rr =>
      cases rr
      cases rx
      obtain ⟨hget, _⟩ := I.pin (a, oe) (List.mem_append.mpr (.inl List.mem_cons_self))
      obtain ⟨vs, hv⟩ := hf
      have hx : ObjOk X.prog X.w H s.heap dd (.xd fs) := I.hok dd _ hd
      obtain ⟨mA, hns, hr⟩ := hx
      obtain ⟨od, ho, hl⟩ := lookIn_ns hns
      have J : PySem.W.InstAt s.heap a oe D (some od) := ⟨hget, hz.1, by unfold PySem.W.notCls; rw [hv] <;> rfl, by rw [hz.2]; exact ho⟩
      rcases hc with ⟨cv, hcv, e⟩ | ⟨tp, cs, ws, rfl, htp, hws, e⟩
      · have ec := hcv _ rt
        subst ec
        exact PySem.W.kia_one (kitx_excO C.hg C.hk C.hs C.hd C.ha C.hn C.ht C.hm) I.kIn J e (fun z => nomatch z) fun tk => ⟨.bl b, H, I.kept (t' := tk) fun _ _ z => z, rfl, q⟩
      · cases rt
        obtain ⟨_, its, rv, o, h1, h2, n, h3⟩ := (show ObjOk X.prog X.w H s.heap tp (.tup cs) from I.hok tp _ htp)
        have e3 := hws _ rv
        subst e3
        obtain ⟨oc, od', dt, sl⟩ := o
        simp only at h2 h3
        subst h2 h3
        exact PySem.W.kia_tup (kitx_excO C.hg C.hk C.hs C.hd C.ha C.hn C.ht C.hm) I.kIn J h1 e (fun z => nomatch z) fun tk => ⟨.bl b, H, I.kept (t' := tk) fun _ _ z => z, rfl, q⟩
end VD
namespace VL
open PySem PySem.Spec PyProof.Rows L2
open M (ret bnd nope grd exn opt drw hdl anyA)
section
variable [Tbl] {K : Fr} {EE : XK} {fr f f1 : Bool} {H0 G0 : Hp} {ρ ρ' : Env} {σ : L2.St} {G G' H H' G1 H1 : Hp} {Ξ : Exn → Prop} {Φ : Oc → Prop} {De : Ends} {d : D} {v : V} {ds : List D} {vs : List V} {i j : Nat}
variable {te ta ti tk : TE} {tr : TA} {ma mi' me mk : VE → M D} {mr : VE → M (List D)} {ts tu : TS}
/-- what isinstance of an exception of a class in yes (no) against cv answers -/
structure IsCl (K : Fr) (cv : Value) (yes no : List Addr) : Prop where
  y : ∀ C ∈ yes, ExcC K C ∧ PySem.W.kitOne K (.ref C) cv = some true
  n : ∀ C ∈ no, ExcC K C ∧ PySem.W.kitOne K (.ref C) cv = some false
def mIsX (yes no : List Addr) (a c0 d : Addr) (ma : VE → M D) : VE → M D := fun ve => bnd (ma ve) fun x => match x with
  | .exc a' d' _ _ _ => grd (a' = a ∧ d' = d) (if c0 ∈ yes then ret (.bl true) else if c0 ∈ no then ret (.bl false) else nope)
  | _ => nope
@[simp] theorem mIsX_ap {yes no : List Addr} {a c0 d : Addr} {ve : VE} : mIsX yes no a c0 d ma ve = bnd (ma ve) fun x => match x with
  | .exc a' d' _ _ _ => grd (a' = a ∧ d' = d) (if c0 ∈ yes then ret (.bl true) else if c0 ∈ no then ret (.bl false) else nope)
  | _ => nope := id rfl
/-- a class's name as a value -/
def tyV' (c : V) (cv : Value) : Prop := ∀ u, RelV c u → u = cv
theorem tyV_ref (a : Addr) : tyV' (.ref a) (.ref a) := fun u h => h
theorem tyV_ty (n : String) : tyV' (.ty n) (.type n) := fun u h => h
theorem xe_isX {yes no : List Addr} {a c0 dd : Addr} {c : V} {cv : Value} (hv : tyV' c cv) (hc : IsCl K cv yes no) (h : XE K EE false te ma) : XE K EE f (tCB (VD.rIsX K (.ref c0) (some dd) a) (tCons te (tCons (tC c) tNil))) (mIsX yes no a c0 dd ma) := fun Hb ve σ G H Φ Ξ cc m Q q =>
  h Hb ve σ G H _ Ξ cc m _ fun x v G1 H1 p g r => by
    cases x <;> first | exact p.elim | skip
    obtain ⟨⟨rfl, rfl⟩, p⟩ := p
    cases r with
    | exc h1 h2 h3 =>
      split at p
      · rename_i hy
        obtain ⟨e1, e2⟩ := hc.y _ hy
        exact ⟨_, _, _, _, true, rfl, rfl, g.sub _ _ h1, e1, rfl, .inl ⟨cv, hv, e2⟩, q _ _ G1 H1 p g (.bl _)⟩
      · split at p
        · rename_i hn
          obtain ⟨e1, e2⟩ := hc.n _ hn
          exact ⟨_, _, _, _, false, rfl, rfl, g.sub _ _ h1, e1, rfl, .inl ⟨cv, hv, e2⟩, q _ _ G1 H1 p g (.bl _)⟩
        · exact p.elim
/-- .. against a tuple of classes -/
structure IsClT (K : Fr) (ws : List Value) (yes no : List Addr) : Prop where
  y : ∀ C ∈ yes, ExcC K C ∧ PySem.W.kitAny K (.ref C) ws = some true
  n : ∀ C ∈ no, ExcC K C ∧ PySem.W.kitAny K (.ref C) ws = some false
def tRefs : List Addr → TA
  | [] => tNil
  | a :: as => tCons (tC (.ref a)) (tRefs as)
theorem tRefs_run {σ : L2.St} {H : Hp} : ∀ {as : List Addr} {Q : List V → Hp → Prop}, Q (as.map V.ref) H → tRefs as σ H Q
  | [], Q, h => h
  | a :: as, Q, h => tRefs_run (as := as) (Q := fun vs H' => Q (.ref a :: vs) H') (σ := σ) h
theorem refs_valsX : ∀ {as : List Addr} {us : List Value}, Vals (as.map V.ref) us → us = as.map Value.ref
  | [], _, h => by cases h; rfl
  | a :: as, _, h => by
    cases h with
    | cons h t => cases h; rw [refs_valsX t]; rfl
theorem xe_isXT {yes no as : List Addr} {a c0 dd : Addr} (hl : as.length ≤ 1000) (hc : IsClT K (as.map Value.ref) yes no) (h : XE K EE false te ma) : XE K EE f (tCB (VD.rIsX K (.ref c0) (some dd) a) (tCons te (tCons (tTup (tRefs as)) tNil))) (mIsX yes no a c0 dd ma) := fun Hb ve σ G H Φ Ξ cc m Q q =>
  h Hb ve σ G H _ Ξ cc m _ fun x v G1 H1 p g r => by
    cases x <;> first | exact p.elim | skip
    obtain ⟨⟨rfl, rfl⟩, p⟩ := p
    cases r with
    | exc h1 h2 h3 =>
      refine tRefs_run ⟨Evl.sz_of (by rw [List.length_map]; omega), fun tp htp => ?_⟩
      have gl := Grow.laid (o := .tup (as.map V.ref)) g.sub htp
      have hx := gl.sub _ _ (gl.e _ _ h1)
      split at p
      · rename_i hy
        obtain ⟨e1, e2⟩ := hc.y _ hy
        exact ⟨_, _, _, _, true, rfl, rfl, hx, e1, rfl, .inr ⟨tp, _, _, rfl, upd_same, fun us hu => refs_valsX hu, e2⟩, q _ _ _ _ p (g.trans gl) (.bl _)⟩
      · split at p
        · rename_i hn
          obtain ⟨e1, e2⟩ := hc.n _ hn
          exact ⟨_, _, _, _, false, rfl, rfl, hx, e1, rfl, .inr ⟨tp, _, _, rfl, upd_same, fun us hu => refs_valsX hu, e2⟩, q _ _ _ _ p (g.trans gl) (.bl _)⟩
        · exact p.elim
theorem call_isXK {X : Cx} {a : Addr} {cls : Value} {dd : Option Addr} {oe : Obj} {pn : List (Addr × Obj)} (hK : X.K = K) (hz : Zc cls dd oe) (hf : ∃ vs, oe.data = .fields vs) : CallR (X.suite a ((a, oe) :: pn)) (.builtin "isinstance") (VD.rIsX K cls dd a) := hK ▸ VD.call_isX hz hf
theorem pe_xfK {X : Cx} {a C : Addr} {oe : Obj} {cls : Value} {d : Option Addr} {pn : List (Addr × Obj)} {e : Expr} {te : TE} {pos : Pos} {n : Str} (hK : X.K = K) (T : XfC K C) (hno : PySem.W.findIn K (.ref C) n = some none)
    (hz : Zc cls d oe) (hf : ∃ vs, oe.data = .fields vs) (he : PE (X.suite a ((a, oe) :: pn)) e te) (hb : attributeBase e n X.env (eval e X.env) = eval e X.env := by rfl) :
    PE (X.suite a ((a, oe) :: pn)) (.Attribute e n pos) (tXf a cls d C n te) := by
  subst hK
  exact pe_xf T hno hz hf he hb
end
section
variable [Tbl] {P : Program} {w : World} {K : Fr} {mg : Str → Option Value} {base : Heap}
/-- an own exception class that is made by its name -/
structure MkX (P : Program) (w : World) (K : Fr) (mg : Str → Option Value) (base : Heap) (k : Nat) (x : Str) (C : Addr) (ns : List Str) : Prop where
  ex : ∃ (fI : Addr) (fd : FuncData) (ps : List Str), OexC K C ∧ PySem.W.findIn K (.ref C) "__init__" = some (some (.ref fI)) ∧ PySem.W.typeIn K (.ref fI) = some (.type "function") ∧ FnOk P w K mg base C8.CX0 k fI fd ps (spExI C ns) ∧ mg x = some (.ref C) ∧ Binds K fd ps []
theorem ps_raiseX {X : Cx} {k j : Nat} {x : Str} {C : Addr} {ns : List Str} {W : WX} {e : Expr} {es : List Expr} {ta : TA} {p pos pos2 : Pos} (c : MkX X.prog X.w X.K X.mg X.base k x C ns) (hr : Room j X.A) (hk : k + 1 ≤ j) (hcalm : X.calm = true) (tk : Takes X W) (hg : Gl X x) (ha : PA X (e :: es) ta)
    (hdb : (x == ("__debug__" : Str)) = false := by decide) (he : starEach (e :: es) X.env = (false, eval e X.env) :: starEach es X.env := by rfl) (hpl : (backTo pos (starEach es X.env)).any (·.1) = false := by rfl) :
    PS X (.Raise (some (.Call (.Name x p) (e :: es) [] pos)) none pos2) (fun _ σ H => tMkO C (spExI C ns) [] ta σ H fun cls d H' => W cls d σ H') := by
  obtain ⟨fI, fd, ps, T, iC, tI, F, hm, b⟩ := c.ex
  exact ps_raise hcalm tk (pmk_oex T iC tI F (hr.mono hk) b .nil C8.pass0 hg hm ha hdb he hpl)
/-- a def that may raise -/
structure CalX (P : Program) (w : World) (K : Fr) (mg : Str → Option Value) (base : Heap) (k : Nat) (x : Str) (sp : Sp) : Prop where
  ex : ∃ (f : Addr) (fd : FuncData) (ps : List Str), FnOk P w K mg base (L2.CX P w) k f fd ps sp ∧ mg x = some (.ref f) ∧ PySem.W.keepIn K (.ref f) = true ∧ Binds K fd ps []
theorem pe_cX {X : Cx} {k j : Nat} {x : Str} {sp : Sp} {ES : L2.St → XK} {e : Expr} {es : List Expr} {t : TA} {p pos : Pos} (c : CalX X.prog X.w X.K X.mg X.base k x sp) (hr : Room j X.A) (hk : k ≤ j) (hg : Gl X x) (hx : ∀ σ, PassesAt (L2.CX X.prog X.w) X σ (ES σ)) (ha : PA X (e :: es) t)
    (hdb : (x == ("__debug__" : Str)) = false := by decide) (he : starEach (e :: es) X.env = (false, eval e X.env) :: starEach es X.env := by rfl) (hpl : (backTo pos (starEach es X.env)).any (·.1) = false := by rfl) :
    PE X (.Call (.Name x p) (e :: es) [] pos) (tCallS sp ES t) := by
  obtain ⟨f, fd, ps, F, hm, kp, b⟩ := c.ex
  exact pe_callS F (hr.mono hk) hg hm kp b hx ha hdb he hpl
/-- a def whose body does m, which may raise -/
theorem okMX {fr : Bool} {x qual : Str} {st : Stmt} {fa : Addr} {fd : FuncData} {N ps : List Str} {k n : Nat} {m : Env → M Oc} (F : L2.Fun K x qual st fa fd) (S : FnScope N ps (defScope st)) (hn : N.length = n) (hp : ps.length ≤ n)
    (hb : ∀ (cdv : Value) (A : Around) (outer : List PySem.Env) (s : Shared) (H : Hp) (E : XK), Room k (A.deeper (envOfC qual (defScope st) s.heap.objs.size fa cdv)) →
      ∃ t, PSs (cxOf (L2.CX P w) P w K mg base N qual (defScope st) fa cdv A outer s H E) (defBody st) t ∧ RS K E fr t m) : FnOk P w K mg base (L2.CX P w) (k + 1) fa fd ps (spM K fr ps.length (mDef n m)) := by
  refine F.okX S (fun vs H Q E h => ?_) (fun cdv A outer s H vs Q E hr h => ?_)
  · obtain ⟨ds, G, Φ, Ξ, e, r, hl, _⟩ := h
    rw [← r.length, hl]
  · obtain ⟨ds, G, Φ, Ξ, e, r, hl, hm, tb, q, qx⟩ := h
    obtain ⟨t, ht, hr'⟩ := hb cdv A outer s H E hr
    refine ⟨t, ht, hr' G H _ _ G H (fun _ => []) _ _ Ξ (Grow.refl e) (StR.init r (by rw [← r.length, hl, hn]; exact hp)) (by rw [hn]; exact hm) ⟨fun ρ σ G' H' fp p _ g _ => ?_, fun ρ σ d v G' H' fp p g _ r => ?_, fun ρ σ G' H' fp p _ g _ => ?_, fun ρ σ G' H' fp p _ g _ => ?_, qx, tb⟩⟩
    · exact q _ _ G' H' p g .non
    · exact q _ _ G' H' p g r
    · exact p.elim
    · exact p.elim
/-- an __init__ that keeps its one argument | its two -/
theorem ok_exI1 {qual f1 : Str} {st : Stmt} {fa C : Addr} {fd : FuncData} (F : L2.Fun K "__init__" qual st fa fd) (S : FnScope ["self", f1] ["self", f1] (defScope st)) (T : OexC K C) (h1 : PySem.W.findIn K (.ref C) f1 = some none)
    (hb : ∀ (cdv : Value) (A : Around) (outer : List PySem.Env) (s : Shared) (H : Hp) (E : XK), PSs (cxOf C8.CX0 P w K mg base ["self", f1] qual (defScope st) fa cdv A outer s H E).nox (defBody st) (tOst K f1 (tVar 0) (tVar 1))) : FnOk P w K mg base C8.CX0 1 fa fd ["self", f1] (spExI C [f1]) := by
  refine F.ok (k := 0) S (fun vs H Q E h => ?_) (fun cdv A outer s H vs Q E hr h => ⟨_, hb cdv A outer s H E, ?_⟩)
  · obtain ⟨a, us, rfl, hl, _⟩ := h
    rw [List.length_cons, hl]; rfl
  · obtain ⟨a, us, rfl, hl, ha, q⟩ := h
    match us, hl with
    | [y1], _ => exact ⟨y1, rfl, .ref a, rfl, a, C, rfl, T, h1, .inl ⟨ha, fun dx hd hne => q dx hd hne⟩⟩
theorem ok_exI2 {qual f1 f2 : Str} {st : Stmt} {fa C : Addr} {fd : FuncData} (F : L2.Fun K "__init__" qual st fa fd) (S : FnScope ["self", f1, f2] ["self", f1, f2] (defScope st)) (T : OexC K C) (h1 : PySem.W.findIn K (.ref C) f1 = some none) (h2 : PySem.W.findIn K (.ref C) f2 = some none)
    (hb : ∀ (cdv : Value) (A : Around) (outer : List PySem.Env) (s : Shared) (H : Hp) (E : XK), PSs (cxOf C8.CX0 P w K mg base ["self", f1, f2] qual (defScope st) fa cdv A outer s H E).nox (defBody st) (tSeq (tOst K f1 (tVar 0) (tVar 1)) (tOst K f2 (tVar 0) (tVar 2)))) : FnOk P w K mg base C8.CX0 1 fa fd ["self", f1, f2] (spExI C [f1, f2]) := by
  refine F.ok (k := 0) S (fun vs H Q E h => ?_) (fun cdv A outer s H vs Q E hr h => ⟨_, hb cdv A outer s H E, ?_⟩)
  · obtain ⟨a, us, rfl, hl, _⟩ := h
    rw [List.length_cons, hl]; rfl
  · obtain ⟨a, us, rfl, hl, ha, q⟩ := h
    match us, hl with
    | [y1, y2], _ =>
      refine ⟨y1, rfl, .ref a, rfl, a, C, rfl, T, h1, .inl ⟨ha, fun dx hd hne => ?_⟩⟩
      refine ⟨y2, rfl, .ref a, rfl, a, C, rfl, T, h2, .inr ⟨dx, [(f1, y1)], upd_same, by rw [upd_ne hne, upd_same], (by decide : 1 ≤ 900), ?_⟩⟩
      have eq : upd (upd (upd H dx (exd dx [(f1, y1)])) a (exo a C (some dx))) dx (exd dx [(f2, y2), (f1, y1)]) = upd (upd H dx (exd dx [(f2, y2), (f1, y1)])) a (exo a C (some dx)) := by
        funext b
        by_cases hb1 : b = dx
        · subst hb1; rw [upd_same, upd_ne hne, upd_same]
        · rw [upd_ne hb1]
          by_cases hb2 : b = a
          · subst hb2; rw [upd_same, upd_same]
          · rw [upd_ne hb2, upd_ne hb2, upd_ne hb1, upd_ne hb1]
      show Q .non (upd (upd (upd H dx (exd dx [(f1, y1)])) a (exo a C (some dx))) dx (exd dx [(f2, y2), (f1, y1)]))
      rw [eq]
      exact q dx hd hne
end
end VL

/-! VM22: a raising def called where nothing may be let out. -/
namespace VL
open PySem PySem.Spec PyProof.Rows L2
open M (ret bnd nope grd exn opt drw hdl anyA)
theorem passAt0 {X : Cx} {σ : L2.St} : PassesAt (L2.CX X.prog X.w) X σ C8.E0 := fun pins H s e s' I h => by
  obtain ⟨_, _, _, _, _, _, _, _, _, _, _, _, z⟩ := h
  exact z.elim
section
variable [Tbl] {K : Fr} {EE : XK} {f : Bool} {tr : TA} {mr : VE → M (List D)}
theorem xe_callX0 {n : Nat} {mf : List D → M D} (h : ∀ EE, XA K EE false tr mr) : XE K EE f (tCallS (spM K f n mf) (fun _ => C8.E0) tr) (mCallC n mf mr) := fun Hb ve σ G H Φ Ξ c m Q q =>
  h EE Hb ve σ G H _ Ξ c m _ fun as xs G1 H1 p1 g1 r1 =>
    ⟨as, G1, Φ, fun _ => False, g1.sub, r1, p1.1, p1.2, (c.grow g1).tb, fun d v G' H' p g r => q d v G' H' p (g1.trans g) (r.h2 (c.grow g1).b), fun _ _ _ _ _ hx _ _ => hx.elim⟩
end
end VL

/-! VM23: len(set(xs)); i in range(n). -/
namespace VD
open PySem PySem.Spec PyProof.Rows L2
theorem setR_card {w : World} {h : Heap} {a : Addr} {S : Int → Bool} {n : Nat} {zs : List Int} (R : SetR w h a S n) (nd : zs.Nodup) (hm : ∀ k, k ∈ zs ↔ S k = true) : n = zs.length := by
  obtain ⟨o, es, ep, t, ho, hex, hd, g, nd2, hk, hb, hf, hn, hr, hl⟩ := R
  have p : (es.toList.map keyOf).Perm zs := (List.perm_ext_iff_of_nodup nd2 nd).mpr fun k => by rw [hm, hk]
  have e := p.length_eq
  rw [List.length_map] at e
  rw [← hn, ← e]
  simp
def rLenSet (w : World) : List V → Hp → VK → Prop := fun xs H Q => ∃ (a : Addr) (S : Int → Bool) (n : Nat), xs = [.ref a] ∧ H a = some (SetO w a S n) ∧ Q (.int (n : Int)) H
theorem cl_lenSet {X : Cx} : CallR X (.builtin "len") (rLenSet X.w) := by
  intro pins s σ H xs us Q I r h
  obtain ⟨a, S, n, rfl, ha, q⟩ := h
  obtain ⟨u, rfl, rx⟩ := vals1 r
  cases rx
  have R := setO_get I ha
  obtain ⟨o, es, ep, t, ho, hex, hd, g, nd2, hk, hb, hf, hn, hr, hl⟩ := R
  have h9 : scanBound = 4096 := rfl
  refine call_len_set ho hex hd hf (by omega) ?_
  rw [hn]
  exact ⟨.int (n : Int), H, I.kept (t' := s.toks + 1 + 1) fun _ _ z => z, ⟨_, rfl⟩, q⟩
def rRange1 : List V → Hp → VK → Prop := fun vs H Q => ∃ i, vs = [V.int i] ∧ ∀ p, H p = none → Q (.ref p) (upd H p (.rng 0 i))
theorem cr_range1 {X : Cx} : CallR X (.type "range") rRange1 := by
  intro pins s σ H vs us Q I r h
  obtain ⟨i, rfl, q⟩ := h
  obtain ⟨u1, rfl, t, rfl⟩ := vals1 r
  refine call_range_1 ⟨.ref s.heap.objs.size, upd H s.heap.objs.size (.rng 0 i), I.laid (t' := s.toks + 1 + 1) (fun b o e => Heap.get?_push_of_some _ e) (Nat.le_refl _) ?_, rfl, q _ (I.hok.fresh (Nat.le_refl _))⟩
  exact ⟨s.toks, t, s.toks + 1, Heap.get?_push_size _ rfl⟩
def rInRng (neg : Bool) : R2 := fun x y H Q => ∃ i a lo hi, x = V.int i ∧ y = V.ref a ∧ H a = some (.rng lo hi) ∧ Q (.bl (if neg then !decide (lo ≤ i ∧ i < hi) else decide (lo ≤ i ∧ i < hi))) H
theorem or_inRng {X : Cx} : OpR X (compareOp .In) (rInRng false) := fun pins s σ H x y v u Q I rx ry h => op_in_rng pins s σ H x y v u Q I rx ry (by
  obtain ⟨i, a, lo, hi, h1, h2, h3, q⟩ := h
  exact ⟨i, a, lo, hi, h1, h2, h3, q⟩)
theorem or_niRng {X : Cx} : OpR X (compareOp .NotIn) (rInRng true) := by
  intro pins s σ H x y v u Q I rx ry h
  obtain ⟨i, a, lo, hi, rfl, rfl, ha, q⟩ := h
  obtain ⟨k, rfl⟩ := rx
  obtain rfl : u = Value.ref a := ry
  obtain ⟨t1, t2, t3, ho⟩ := I.hok a _ ha
  show wpAny _ _ (do return Value.bool (!(← contains (Value.ref a) (Value.int i k)))) _ _ s
  refine wpAny_bind (wpAny_contains_slot (T := "range") ⟨_, ho, rfl⟩ F.slot_range_contains (call_meets F.slot_range_contains ⟨_, ho, rfl⟩ F.entry_range_contains (F.args_range_contains_2 _ _) (q_contains a lo hi i t1 t2 t3 k)
    ⟨ho, wpAny_truthy_bool (wpAny_pure ⟨.bl _, H, I, rfl, ?_⟩)⟩))
  rw [place1]
  exact q
end VD
namespace VL
open PySem PySem.Spec PyProof.Rows L2
open M (ret bnd nope grd exn opt drw hdl anyA)
def rSetE (K : Fr) (w : World) : List V → Hp → VK → Prop := fun xs H Q => ∃ (l : Addr) (ns : List Int), xs = [V.ref l] ∧ SqL K H l (ns.map V.int) ∧ ns.length < 64 ∧ ∀ p, H p = none → Q (.ref p) (upd H p (SetO w p (fun j => decide (j ∈ ns)) (sortSet ns).length))
theorem sortSet_nodup [Tbl] (ns : List Int) : (sortSet ns).Nodup := (sortSet_lt ns).imp fun {a b} h e => by omega
theorem cr_setEK [Tbl] {X : Cx} {K : Fr} {w : World} (hK : X.K = K) (hw : X.w = w) (hc : X.calm = true) : CallR X (.type "set") (rSetE K w) := by
  subst hK hw
  intro pins s σ H xs us Q I r h
  obtain ⟨l, ns, rfl, hs, h64, q⟩ := h
  obtain ⟨its, rv, hl, hz⟩ := I.list hs
  rw [Vals.ref1 r]
  refine set_of_list ns (I.ok.hd hc) hl.isList (by simpa using rv.ints) (by unfold scanBound; omega) fun h' tk c R hcn kp => ?_
  have hn : H s.heap.objs.size = none := I.hok.fresh (Nat.le_refl _)
  have hc : c = (sortSet ns).length := VD.setR_card R (sortSet_nodup ns) fun k => by rw [mem_sortSet, decide_eq_true_iff]
  subst hc
  exact ⟨.ref _, upd H s.heap.objs.size (SetO X.w s.heap.objs.size (fun j => decide (j ∈ ns)) _), I.laid (t' := tk) kp (Nat.le_refl _) (setO_new R), rfl, q _ hn⟩
theorem cl_lenSetK {X : Cx} {w : World} (hw : X.w = w) : CallR X (.builtin "len") (VD.rLenSet w) := hw ▸ VD.cl_lenSet
section
variable [Tbl] {K : Fr} {EE : XK} {f : Bool} {te ta tb : TE} {ma mb : VE → M D}
def lenSetD : D → Option D
  | .lst ds => match intsOf ds with
    | some ns => if ns.length < 64 then some (.int ((sortSet ns).length : Int)) else none
    | none => none
  | _ => none
theorem lenSetD_ints (ns : List Int) (h : ns.length < 64) : lenSetD (.lst (ns.map .int)) = some (.int ((sortSet ns).length : Int)) := by
  show (match intsOf (ns.map D.int) with
    | some ns => if ns.length < 64 then some (D.int ((sortSet ns).length : Int)) else none
    | none => none) = _
  rw [intsOf_map]
  exact if_pos h
theorem xe_lenSet {w : World} (h : XE K EE false te ma) : XE K EE f (tCB (VD.rLenSet w) (tCons (tCB (rSetE K w) (tCons te tNil)) tNil)) (m1 lenSetD ma) := fun Hb ve σ G H Φ Ξ c m Q q =>
  h Hb ve σ G H _ Ξ c m _ fun a x G1 H1 p1 g1 rv => by
    obtain ⟨z, e, p1⟩ := M.opt_inv p1
    unfold lenSetD at e
    split at e
    · split at e
      · rename_i ns hi
        split at e
        · rename_i hl
          cases e
          rw [intsOf_inv hi] at rv
          obtain ⟨p, us, rfl, _, hp, ru⟩ := rv.lst_inv
          have hu := ru.ints
          subst hu
          refine ⟨p, ns, rfl, SqL.of (g1.sub _ _ hp), hl, fun s hs => ⟨s, _, _, rfl, upd_same, ?_⟩⟩
          exact q _ _ _ _ p1 (g1.trans (Grow.hid g1.sub hs)) (.int _)
        · cases e
      · cases e
    · cases e
/-- i in range(n) -/
def mInRg (neg : Bool) (ma mb : VE → M D) : VE → M D := fun ve => bnd (ma ve) fun a => bnd (opt (tIn a)) fun i => bnd (mb ve) fun b => bnd (opt (tIn b)) fun n => ret (.bl (if neg then !decide (0 ≤ i ∧ i < n) else decide (0 ≤ i ∧ i < n)))
@[simp] theorem mInRg_ap {neg : Bool} {ve : VE} : mInRg neg ma mb ve = bnd (ma ve) fun a => bnd (opt (tIn a)) fun i => bnd (mb ve) fun b => bnd (opt (tIn b)) fun n => ret (.bl (if neg then !decide (0 ≤ i ∧ i < n) else decide (0 ≤ i ∧ i < n))) := id rfl
theorem xe_inRg {neg : Bool} (h : XE K EE false ta ma) (h2 : XE K EE false tb mb) : XE K EE f (tOp (VD.rInRng neg) ta (tCB VD.rRange1 (tCons tb tNil))) (mInRg neg ma mb) := fun Hb ve σ G H Φ Ξ c m Q q =>
  h Hb ve σ G H _ Ξ c m _ fun a x G1 H1 p1 g1 r1 => by
    obtain ⟨i, e, p1⟩ := M.opt_inv p1
    rw [tIn_inv e] at r1
    refine h2 Hb ve σ G1 H1 _ Ξ (c.grow g1) p1 _ fun b y G2 H2 p2 g2 r2 => ?_
    obtain ⟨n, e2, p2⟩ := M.opt_inv p2
    rw [tIn_inv e2] at r2
    refine ⟨n, by rw [r2.int_inv], fun p hp => ⟨i, p, 0, n, r1.int_inv, rfl, upd_same, ?_⟩⟩
    exact q _ _ _ _ p2 ((g1.trans g2).trans (Grow.hid g2.sub hp)) (.bl _)
end
end VL

/-! VM24: isinstance by what the written part says of the classes. -/
namespace VD
open PySem PySem.Spec PyProof.Rows L2
theorem kit_ref {K : PySem.W.Frag} {C D : Addr} {b : Bool} (hdct : PySem.W.hasDictIn K D = true) (ht : PySem.W.typeIn K (.ref D) = some (.type "type")) (hdd : PySem.W.subIn K (.ref D) (.ref D) = some true) (h4 : PySem.W.subIn K (.ref C) (.ref D) = some b) : PySem.W.kitOne K (.ref C) (.ref D) = some b := by
  obtain ⟨cd, hc, _⟩ := PySem.W.any_some hdct
  have e2 : ((PySem.W.clsIn K D).isSome && PySem.W.typeIn K (.ref D) == some (.type "type")) = true := by rw [hc, ht] <;> rfl
  unfold PySem.W.kitOne
  by_cases e : (Value.ref C == Value.ref D) = true
  · rw [if_pos e]
    have e3 : C = D := Value.ref.inj (beq_iff_eq.mp e)
    subst e3
    rw [← hdd, h4]
  · rw [if_neg e]
    show (if ((PySem.W.clsIn K D).isSome && PySem.W.typeIn K (.ref D) == some (.type "type")) = true then PySem.W.subIn K (.ref C) (.ref D) else none) = some b
    rw [if_pos e2, h4]
theorem kit_type {K : PySem.W.Frag} {C : Addr} {n : String} {b : Bool} (hm : PySem.W.kitMeta n = true) (h4 : PySem.W.subIn K (.ref C) (.type n) = some b) : PySem.W.kitOne K (.ref C) (.type n) = some b := by
  unfold PySem.W.kitOne
  rw [if_neg (by intro z; cases beq_iff_eq.mp z)]
  show (if PySem.W.kitMeta n = true then PySem.W.subIn K (.ref C) (.type n) else none) = some b
  rw [if_pos hm, h4]
theorem kit_any_nil {K : PySem.W.Frag} {t : Value} : PySem.W.kitAny K t [] = some false := rfl
theorem kit_any_t {K : PySem.W.Frag} {t c : Value} {r : List Value} (h : PySem.W.kitOne K t c = some true) : PySem.W.kitAny K t (c :: r) = some true := by
  unfold PySem.W.kitAny
  rw [h]
theorem kit_any_f {K : PySem.W.Frag} {t c : Value} {r : List Value} {b : Bool} (h : PySem.W.kitOne K t c = some false) (h2 : PySem.W.kitAny K t r = some b) : PySem.W.kitAny K t (c :: r) = some b := by
  unfold PySem.W.kitAny
  rw [h]
  exact h2
end VD

/-! VM25: x, y = e, x spoilt behind; for b in list(x): b.append(v). -/
namespace VL
open PySem PySem.Spec PyProof.Rows L2
open M (ret bnd nope grd exn opt drw hdl anyA)
section
variable [Tbl] {K : Fr} {EE : XK} {fr f f1 : Bool} {H0 G0 : Hp} {ρ ρ' : Env} {σ : L2.St} {G G' H H' G1 H1 : Hp} {Ξ : Exn → Prop} {Φ : Oc → Prop} {De : Ends} {d : D} {v : V} {ds : List D} {vs : List V} {fp : Nat → List Addr} {i j : Nat} {s : Slot}
variable {te : TE} {me : VE → M D}
mutual
theorem JR.weak {l : List Addr} {ex : Bool} {b b' : Nat} : ∀ {d : D} {v : V}, JR K l ex b G H d v → JR K l false b' G H d v
  | _, _, .non => .non
  | _, _, .bl x => .bl x
  | _, _, .int x => .int x
  | _, _, .str x => .str x
  | _, _, .lst ha h1 h2 h3 t => .lst ha h1 h2 (fun z => nomatch z) (JRA.weak t)
  | _, _, .tup h t => .tup h (JRA.weak t)
theorem JRA.weak {l : List Addr} {ex : Bool} {b b' : Nat} : ∀ {ds : List D} {vs : List V}, JRA K l ex b G H ds vs → JRA K l false b' G H ds vs
  | _, _, .nil => .nil
  | _, _, .cons h t => .cons (JR.weak h) (JRA.weak t)
end
theorem StR.forget (h : StR K H0 ρ σ G H fp) : StR K H0 (ρ.set i .un) σ G H (fset fp i []) := by
  refine ⟨by rw [List.length_set, h.len], fun j s e => ?_, fun j e => ?_, fun j a ha => ?_, fun j k a h1 h2 => ?_, fun j => ?_⟩
  · by_cases hj : i = j
    · subst hj
      by_cases hl : i < ρ.length
      · rw [List.getElem?_set_self hl] at e; cases e
        unfold fset; rw [if_pos rfl]
        exact .un _
      · rw [List.getElem?_eq_none (by rw [List.length_set]; omega)] at e; cases e
    · rw [List.getElem?_set_ne hj] at e
      unfold fset; rw [if_neg (fun z => hj z.symm)]
      exact h.sl j s e
  · unfold fset; split
    · rfl
    · exact h.out j (by rw [List.getElem?_eq_none_iff] at e ⊢; rw [List.length_set] at e; exact e)
  · unfold fset at ha; split at ha
    · cases ha
    · exact h.fr j a ha
  · unfold fset at h1 h2; split at h1
    · cases h1
    · split at h2
      · cases h2
      · exact h.dj j k a h1 h2
  · unfold fset; split
    · exact List.nodup_nil
    · exact h.nd j
/-- slot i's data are told as a whole no more -/
theorem StR.jkWeak {ex : Bool} {b : Nat} (h : StR K H0 ρ σ G H fp) (hi : ρ[i]? = some (.jk ex b d)) : StR K H0 (ρ.set i (.jk false b d)) σ G H fp := by
  have hl : i < ρ.length := (List.getElem?_eq_some_iff.mp hi).1
  refine ⟨by rw [List.length_set, h.len], fun j s e => ?_, fun j e => h.out j (by rw [List.getElem?_eq_none_iff] at e ⊢; rw [List.length_set] at e; exact e), h.fr, h.dj, h.nd⟩
  by_cases hj : i = j
  · subst hj
    rw [List.getElem?_set_self hl] at e; cases e
    have z := h.sl i _ hi
    revert z
    generalize (σ[i]?).getD none = o
    generalize fp i = l
    intro z
    cases z with
    | jk r hb => exact .jk r.weak hb
  · rw [List.getElem?_set_ne hj] at e
    exact h.sl j s e
def tup2 (d : D) : Option (D × D) := match d with
  | .tup [a, b] => some (a, b)
  | _ => none
@[simp] theorem tup2_eq (a b : D) : tup2 (.tup [a, b]) = some (a, b) := id rfl
/-- x, y = e: x new all through, y a scalar -/
def sTJ (b : Nat) (i j : Nat) (me : VE → M D) : Env → M Oc := fun ρ => bnd (me (vB ρ)) fun d => bnd (opt (tup2 d)) fun p => grd (jkOk b p.1 = true ∧ scalarD p.2 = true) (ret (.nx ((ρ.set i (.jk true b p.1)).set j (.sh true p.2))))
@[simp] theorem sTJ_ap (b : Nat) : sTJ b i j me ρ = bnd (me (vB ρ)) fun d => bnd (opt (tup2 d)) fun p => grd (jkOk b p.1 = true ∧ scalarD p.2 = true) (ret (.nx ((ρ.set i (.jk true b p.1)).set j (.sh true p.2)))) := id rfl
theorem r_asgTJ {b : Nat} {g : TG} (hg : XG K g [i, j] (gTupD 2 (gsCons gOne (gsCons gOne gsNil)))) (h : XE K EE true te me) : RS K EE fr (tAsg te g) (sTJ b i j me) := fun G0 H0 ρ σ G H fp De Φ Ξ gr st m k =>
  h H _ σ _ H _ Ξ (k.cvB gr st) m _ fun d v G1 H1 pm g r => by
    obtain ⟨⟨d1, d2⟩, e, ⟨hk, hs⟩, pm'⟩ := M.opt_inv pm
    clear pm
    have e : d = .tup [d1, d2] := by
      unfold tup2 at e
      split at e
      · cases e; rfl
      · cases e
    subst e
    refine hg (some H) G1 H1 _ v [d1, d2] σ _ rfl r g.sub fun vs hl rs => ?_
    cases rs with
    | cons r1 rs =>
      rename_i v1 vs
      cases rs with
      | cons r2 rs =>
        rename_i v2 vs
        cases rs
        have g' := st.evB gr g
        obtain ⟨l, hl, hj⟩ := jr_of (b := b) r1 hk
        let G2 : Hp := fun a => if a ∈ l then none else lessG fp ρ.length G1 a
        have gc : Grow G H G2 H1 := ⟨⟨fun a o ha => by
            show (if a ∈ l then none else lessG fp ρ.length G1 a) = some o
            rw [if_neg (fun z => by rw [fresh_back gr.sub (hl a z).1] at ha; cases ha)]; exact g'.e a o ha, gr.sub.n⟩, ⟨fun a o ha => by
            have ha : (if a ∈ l then none else lessG fp ρ.length G1 a) = some o := ha
            split at ha
            · cases ha
            · exact g'.sub a o ha, fun a ps ha => by
            have ha : (if a ∈ l then none else lessG fp ρ.length G1 a) = some (.tbl ps) := ha
            split at ha
            · cases ha
            · exact g'.sub.n a ps ha⟩, g'.ext, fun a h1 h2 => by
            have h2 : (if a ∈ l then none else lessG fp ρ.length G1 a) ≠ none := h2
            split at h2
            · exact (h2 rfl).elim
            · rename_i hz; exact (g'.new a h1 h2).imp id fun ⟨q, e⟩ => ⟨q, (if_neg hz).trans e⟩⟩
        have kp : ∀ a vs, SqT K G1 a vs → SqT K G2 a vs := fun a vs hs => by
          have one : ∀ o, G1 a = some o → isFr o = false → G2 a = some o := fun o ho hf => by
            show (if a ∈ l then none else lessG fp ρ.length G1 a) = some o
            rw [if_neg (fun z => by
              obtain ⟨_, ws, hw, _⟩ := hl a z
              rw [hw] at ho; cases ho; cases hf)]
            exact st.cutG g a o ho fun z => by rw [hf] at z; cases z
          rcases hs with (h1 | ⟨o, h1⟩) | h1
          · exact .inl (.inl (one _ h1 rfl))
          · exact .inl (.inr ⟨o, one _ h1 rfl⟩)
          · exact .inr h1
        have jr := hj G2 H1 (dd l) (fun a ha => mem_dd.mpr ha) kp fun a ha => by
          obtain ⟨_, ws, hw, _⟩ := hl a ha
          rw [hw, g.sub _ _ hw]
        obtain ⟨fp', s'⟩ := (st.grow gc).setJk (i := i) (l := dd l) (fun a ha => by
          obtain ⟨h1, ws, hw, hb⟩ := hl a (mem_dd.mp ha)
          exact ⟨gr.ext.f _ h1, if_pos (mem_dd.mp ha), ws, g.sub _ _ hw, hb⟩) (fun a ha => st.newP (hl a (mem_dd.mp ha)).1) nodup_dd jr
        exact k.nx _ _ G2 H1 _ pm' gc.e (gr.trans gc) (s'.setSh (i := j) (f := true) (r2.scalar hs))
/-- lists, all of them -/
def allL : List D → Bool
  | [] => true
  | .lst _ :: ds => allL ds
  | _ :: _ => false
theorem allL_get : ∀ {ds : List D} {n : Nat} {d : D}, allL ds = true → ds[n]? = some d → ∃ es, d = .lst es
  | [], n, d, _, h => by simp at h
  | x :: ds, n, d, ha, h => by
    cases x <;> simp [allL] at ha
    cases n with
    | zero => simp at h; exact ⟨_, h.symm⟩
    | succ n => exact allL_get ha (by simpa using h)
/-- for b in list(x): b.append(v), v in slot kx -/
def sJLoop (i j kx : Nat) : Env → M Oc := fun ρ => bnd (opt (getJ ρ i)) fun p => bnd (opt (tLs p.2.2)) fun ds => bnd (opt (getV (vA ρ) kx)) fun _ => grd (p.1 = true ∧ allL ds = true ∧ p.2.1 + ds.length < 100000 ∧ i ≠ j ∧ kx ≠ i ∧ kx ≠ j ∧ j < ρ.length) (ret (.nx ((ρ.set i (.jk false (p.2.1 + ds.length) p.2.2)).set j .un)))
@[simp] theorem sJLoop_ap {kx : Nat} : sJLoop i j kx ρ = bnd (opt (getJ ρ i)) fun p => bnd (opt (tLs p.2.2)) fun ds => bnd (opt (getV (vA ρ) kx)) fun _ => grd (p.1 = true ∧ allL ds = true ∧ p.2.1 + ds.length < 100000 ∧ i ≠ j ∧ kx ≠ i ∧ kx ≠ j ∧ j < ρ.length) (ret (.nx ((ρ.set i (.jk false (p.2.1 + ds.length) p.2.2)).set j .un))) := id rfl
theorem r_jLoop {kx : Nat} : RS K EE fr (tFor (iSeq K (tCB (rcList K) (tCons (tVar i) tNil))) (gName j) (tDrop (tBM K "list" rAppend (tVar j) (tCons (tVar kx) tNil)))) (sJLoop i j kx) := fun G0 H0 ρ σ G H fp De Φ Ξ gr st m k => by
  obtain ⟨⟨ex, b, d⟩, e, m⟩ := M.opt_inv m
  have hi := getJ_inv e
  clear e
  obtain ⟨ds, e2, m⟩ := M.opt_inv m
  have e2 : d = .lst ds := tLs_inv e2
  subst e2
  obtain ⟨dk, ek, ⟨hx, hal, hbd, hij, hki, hkj, hjl⟩, m⟩ := M.opt_inv m
  have hx : ex = true := hx
  subst hx
  have hi : ρ[i]? = some (.jk true b (.lst ds)) := hi
  have hbd : b + ds.length < 100000 := hbd
  have m : Φ (.nx ((ρ.set i (.jk false (b + ds.length) (.lst ds))).set j .un)) := m
  have li : i < ρ.length := (List.getElem?_eq_some_iff.mp hi).1
  obtain ⟨gk, ek'⟩ := getV_inv ek
  have hk := vA_get ek'
  -- the list
  have z := st.sl i _ hi
  obtain ⟨o, ho⟩ : ∃ o, σ[i]? = some o := ⟨_, List.getElem?_eq_getElem (st.len ▸ li)⟩
  rw [ho, Option.getD_some] at z
  generalize hf : fp i = l at z
  cases z with
  | jk r hb =>
    cases r with
    | lst ha h1 h2 h3 t =>
      rename_i a vs
      have hlen := h3 rfl
      rw [hlen, List.take_length] at t
      refine .inl ⟨.ref a, ho, a, vs, rfl, .inl (SqL.of h1), fun q hq => ?_⟩
      have gl := Grow.laid (o := .lst vs) gr.sub hq
      refine ⟨q, rfl, ⟨vs, SqL.of upd_same⟩, ?_⟩
      have st1 := ((st.jkWeak hi).forget (i := j)).grow gl
      have fi : fset fp j [] i = l := by unfold fset; rw [if_neg hij]; exact hf
      let ρt : Nat → Env := fun n => (ρ.set i (.jk false (b + n) (.lst ds))).set j .un
      have ρi : ∀ n, (ρt n)[i]? = some (.jk false (b + n) (.lst ds)) := fun n => by
        show ((ρ.set i _).set j .un)[i]? = _
        rw [List.getElem?_set_ne (Ne.symm hij), List.getElem?_set_self li]
      have ρk : ∀ n, (ρt n)[kx]? = some (.sh gk dk) := fun n => by
        show ((ρ.set i _).set j .un)[kx]? = _
        rw [List.getElem?_set_ne (Ne.symm hkj), List.getElem?_set_ne (Ne.symm hki)]
        exact hk
      refine L2.for_it (J := Itl K q) (n := vs.length) walk_list (fun n σ' H' => ∃ G', Ex (upd G q (.lst vs)) G' ∧ Grow G0 H0 G' H' ∧ StR K H0 (ρt n) σ' G' H' (fset fp j [])) ⟨_, gl.sub.self, gr.trans gl, st1⟩ (fun n σ' H' _ ⟨G', e1, g1, _⟩ => SqL.of ((e1.trans g1.sub) _ _ upd_same)) ?_ ?_
      · rintro n x σ' H' H2 hn ⟨G', e1, g1, s1⟩ ⟨e0, hxn⟩
        rw [e0]
        clear e0
        have hn2 : n < ds.length := by omega
        have hdn : ds[n]? = some ds[n] := List.getElem?_eq_getElem hn2
        obtain ⟨es, hes⟩ := allL_get hal hdn
        obtain ⟨x', hx', rx⟩ := t.get hdn
        rw [hxn] at hx'
        cases hx'
        rw [hes] at rx
        cases rx with
        | lst ha' q1 q2 q3 q4 =>
          rename_i a' vs'
          have ha2 : a' ∈ fset fp j [] i := by rw [fi]; exact ha'
          have s2 : StR K H0 (ρt n) (σ'.set j (some (.ref a'))) G' H' (fset fp j []) := by
            have q1 := s1.unset (i := j) (some (V.ref a'))
            have q2 : (ρt n).set j .un = ρt n := by
              show ((ρ.set i _).set j .un).set j .un = _
              rw [List.set_set]
            have q3 : fset (fset fp j []) j [] = fset fp j [] := by
              funext y
              unfold fset
              split <;> rfl
            rw [q2, q3] at q1
            exact q1
          obtain ⟨_, hg', us, hus⟩ := s2.fr i a' ha2
          have hul : us.length ≤ b + n := by
            have z := s2.sl i _ (ρi n)
            revert z ha2
            generalize ((σ'.set j (some (V.ref a')))[i]?).getD none = o
            generalize fset fp j [] i = l'
            intro ha2 z
            cases z with
            | jk r hbb =>
              obtain ⟨ws, hw1, hw2⟩ := hbb a' ha2
              rw [hus] at hw1; cases hw1; exact hw2
          obtain ⟨vk, hvk, _⟩ : ∃ vk, (σ'.set j (some (.ref a')))[kx]? = some (some vk) ∧ True := by
            have z := s2.sl kx _ (ρk n)
            have lk : kx < (σ'.set j (some (V.ref a'))).length := by rw [← s2.len]; exact (List.getElem?_eq_some_iff.mp (ρk n)).1
            obtain ⟨o, ho⟩ : ∃ o, (σ'.set j (some (V.ref a')))[kx]? = some o := ⟨_, List.getElem?_eq_getElem lk⟩
            rw [ho, Option.getD_some] at z
            generalize fset fp j [] kx = l' at z
            cases z with
            | sh r => exact ⟨_, ho, trivial⟩
          have hjl' : j < σ'.length := by rw [← s1.len]; show j < ((ρ.set i _).set j .un).length; rw [List.length_set, List.length_set]; exact hjl
          refine ⟨.ref a', List.getElem?_set_self hjl', .inl ⟨rfl, us, SqL.of hus⟩, vk, hvk, a', us, vk, rfl, rfl, hus, Evl.sz_lt (by omega), ?_⟩
          refine ⟨G', e1, g1.put (s2.fr i a' ha2).1 hg' (by rw [hus]; rfl), ?_⟩
          have q1 := s2.addJk g1.sub.self (ρi n) ha2 hus vk
          have q2 : (ρt n).set i (.jk false (b + n + 1) (.lst ds)) = ρt (n + 1) := by
            show ((ρ.set i _).set j .un).set i _ = (ρ.set i _).set j .un
            rw [List.set_comm _ _ (Ne.symm hij), List.set_set]
            rfl
          rw [q2] at q1
          exact q1
      · rintro σ' H' ⟨G', e1, g1, s1⟩
        rw [← hlen] at s1
        exact k.nx _ _ G' H' _ m (gl.e.trans e1) g1 s1
end
end VL

/-! VM26: while (x := e) op f. -/
namespace VL
open PySem PySem.Spec PyProof.Rows L2
open M (ret bnd nope grd exn opt drw hdl anyA)
section
variable [Tbl] {K : Fr} {EE : XK} {fr f f1 : Bool} {H0 G0 : Hp} {ρ ρ' : Env} {σ : L2.St} {G G' H H' G1 H1 : Hp} {Ξ : Exn → Prop} {Φ : Oc → Prop} {De : Ends} {d : D} {v : V} {i : Nat}
variable {te tf : TE} {me mf : VE → M D} {mb : Env → M Oc} {tb : TS} {r : R2} {o : D → D → Option D}
/-- while (x := e) op f: n turns at most -/
def whWGo (i : Nat) (me : VE → M D) (o : D → D → Option D) (mf : VE → M D) (m : Env → M Oc) : Nat → Env → M Oc
  | 0, _ => nope
  | n + 1, ρ => bnd (me (vB ρ)) fun d => bnd (mf (vB (ρ.set i (.sh true d)))) fun y => bnd (opt (o d y)) fun z => bnd (opt (tBl z)) fun b => if b = true then bnd (m (ρ.set i (.sh true d))) (fun x => match x with
    | .nx ρ' => whWGo i me o mf m n ρ'
    | .ct ρ' => whWGo i me o mf m n ρ'
    | .bk ρ' => ret (.nx ρ')
    | .rt ρ' d => ret (.rt ρ' d)) else ret (.nx (ρ.set i (.sh true d)))
def sWhW (i : Nat) (me : VE → M D) (o : D → D → Option D) (mf : VE → M D) (m : Env → M Oc) : Env → M Oc := fun ρ Φ Ξ => ∃ n, whWGo i me o mf m n ρ Φ Ξ
theorem r_whileW (he : XE K EE true te me) (ho : OpD K false false r o) (hf : XE K EE false tf mf) (hb : RS K EE fr tb mb) : RS K EE fr (tWhileW (wCmp r (wNm (wE te) i) tf) tb tNext) (sWhW i me o mf mb) := fun G0 H0 ρ σ G H fp De Φ Ξ gr st mm k => by
  obtain ⟨n, mm⟩ := mm
  refine ⟨fun n σ1 H1 => ∃ ρ1 G1 fp1, Ex G G1 ∧ Grow G0 H0 G1 H1 ∧ StR K H0 ρ1 σ1 G1 H1 fp1 ∧ whWGo i me o mf mb n ρ1 Φ Ξ, ⟨n, ρ, G, fp, gr.sub.self, gr, st, mm⟩, ?_⟩
  rintro n σ1 H1 ⟨ρ1, G1, fp1, e1, g1, s1, p1⟩
  cases n with
  | zero => exact p1.elim
  | succ n =>
    have k1 := k.on e1
    refine he H1 _ σ1 _ H1 _ Ξ (k1.cvB g1 s1) p1 _ fun d v G2 H2 p2 g2 r2 => ?_
    have g' := s1.evB g1 g2
    have gr2 := g1.trans g'
    have s2 := (s1.grow g').setSh (i := i) (s1.repB g1 g2 r2)
    have k2 := k1.on g'.e
    refine hf H2 _ _ _ H2 _ Ξ (k2.cvB gr2 s2) p2 _ fun y w G3 H3 p3 g3 r3 => ?_
    obtain ⟨z, ez, p3⟩ := M.opt_inv p3
    obtain ⟨b, eb, p3⟩ := M.opt_inv p3
    have g3' := s2.evB gr2 g3
    have s3 := s2.grow g3'
    have gr3 := gr2.trans g3'
    have rv : Rep K none G3 d v := ((s1.repB g1 g2 r2).old.mono (s2.gB_e gr2.sub)).mono g3.e
    refine ho d y z ez G3 v w H3 rv r3 H3 g3.sub (ExN.refl _) _ fun zv G4 H4 g4 r4 => ?_
    rw [tBl_inv eb] at r4
    refine ⟨b, r4.bl_inv, ?_⟩
    have gs := Grow.same gr3.sub g4.ext
    have s4 := s3.grow gs
    have gr4 := gr3.trans gs
    have k4 := k2.on (g3'.e)
    cases b with
    | false => exact k4.nx _ _ _ _ _ p3 gr4.sub.self gr4 s4
    | true =>
      refine ⟨fun σ' H' => ∃ ρ1 G1 fp1, Ex G G1 ∧ Grow G0 H0 G1 H' ∧ StR K H0 ρ1 σ' G1 H' fp1 ∧ whWGo i me o mf mb n ρ1 Φ Ξ, fun σ' H' hN => ⟨n, Nat.lt_succ_self n, hN⟩, ?_⟩
      exact hb G0 H0 _ _ _ H4 _ _ _ Ξ gr4 s4 p3 ⟨fun ρ5 σ5 G5 H5 fp5 p5 e5 g5 s5 => ⟨ρ5, G5, fp5, (e1.trans (g'.e.trans g3'.e)).trans e5, g5, s5, p5⟩, k.rt, fun ρ5 σ5 G5 H5 fp5 p5 e5 g5 s5 => k4.nx ρ5 σ5 G5 H5 fp5 p5 e5 g5 s5, fun ρ5 σ5 G5 H5 fp5 p5 e5 g5 s5 => ⟨ρ5, G5, fp5, (e1.trans (g'.e.trans g3'.e)).trans e5, g5, s5, p5⟩, k.ex, k.tb⟩
end
end VL

/-! VM27: an own class's __init__ that may raise and then writes its fields; the making of an instance. -/
namespace VL
open PySem PySem.Spec PyProof.Rows L2
open M (ret bnd nope grd exn opt drw hdl anyA)
theorem putF_new {fl : Str} {v : V} : ∀ {fs : List (Str × V)}, (∀ p ∈ fs, ¬ p.1 = fl) → putF fl v fs = fs ++ [(fl, v)]
  | [], _ => rfl
  | p :: fs, h => by
    unfold putF
    rw [if_neg (h p List.mem_cons_self), putF_new fun q hq => h q (List.mem_cons_of_mem _ hq)]; rfl
/-- self.f = e, one behind the other -/
def fTail (K : Fr) : List (Str × TE) → TS
  | [] => tNext
  | p :: [] => sFld K (tVar 0) p.2 p.1
  | p :: q :: r => tSeq (sFld K (tVar 0) p.2 p.1) (fTail K (q :: r))
section
variable [Tbl] {K : Fr} {EE : XK} {fr f f1 : Bool} {H0 G0 Hc : Hp} {ρ ρ' : Env} {σ : L2.St} {G G' H H' G1 H1 : Hp} {Ξ : Exn → Prop} {De : Ends} {d : D} {v : V} {ds : List D} {vs : List V} {fp : Nat → List Addr} {i j : Nat} {C x dx : Addr} {ve : VE}
inductive XF (K : Fr) (EE : XK) : List (Str × TE) → (VE → M (List D)) → Prop
  | nil : XF K EE [] aNil
  | cons {n : Str} {t : TE} {m : VE → M D} {ps : List (Str × TE)} {mr : VE → M (List D)} : XE K EE false t m → XF K EE ps mr → XF K EE ((n, t) :: ps) (aCons m mr)
theorem tail_run (hcl : Cls K C) : ∀ {ps : List (Str × TE)} {mr : VE → M (List D)} (_ : XF K EE ps mr) (_ : ∀ p ∈ ps, NoAttr K C p.1) (fs0 : List (Str × V)) (_ : (fs0.map (·.1) ++ ps.map (·.1)).Nodup) (_ : fs0.length + ps.length < 1000) {G H : Hp} {Φ : List D → Prop} (_ : NdefX.TabsN Tbl.T Hc) (_ : VR K Hc ve σ G) (_ : Grow G0 Hc G H)
    (_ : H x = some (.ins C dx fs0)) (_ : G x = none) (_ : Hc x = none) (_ : σ[0]? = some (some (.ref x))) (_ : ∀ xx cls d G' H', Ξ xx → Grow G0 Hc G' H' → ExR K xx cls d G' → EE cls d H') (_ : mr ve Φ Ξ)
    (_ : ∀ es fs G' H', Φ es → Ex G G' → Grow G0 Hc G' H' → G' x = none → H' x = some (.ins C dx (fs0 ++ fs)) → fs.map (·.1) = ps.map (·.1) → RepA K none G' es (fs.map (·.2)) → De.nx σ H'), fTail K ps De σ H := by
  intro ps mr h
  induction h generalizing De with
  | nil =>
    intro hna fs0 hnd hlen G H Φ tb vr gr hx gx hcx hσ hex m q
    exact q [] [] G H m gr.sub.self gr gx (by rw [List.append_nil]; exact hx) rfl .nil
  | @cons n t mm ps mr he hr ih =>
    intro hna fs0 hnd hlen G H Φ tb vr gr hx gx hcx hσ hex m q
    have step : ∀ (De' : Ends), (∀ d v G1 H1, (bnd (mr ve) fun as => ret (d :: as)) Φ Ξ → Grow G H G1 H1 → Rep K none G1 d v → De'.nx σ (upd H1 x (.ins C dx (fs0 ++ [(n, v)])))) → sFld K (tVar 0) t n De' σ H := fun De' q' =>
      he Hc ve σ G H _ Ξ ⟨vr, gr.sub, gr.ext, fun xx cls d G' H' hh g r => hex xx cls d G' H' hh (gr.trans g) r, gr.ext.t tb⟩ m _ fun d v G1 H1 p1 g1 r1 => by
        have z := g1.keep hx gx
        have pn : putF n v fs0 = fs0 ++ [(n, v)] := putF_new fun p hp e => by
          rw [List.map_cons] at hnd
          have h1 := (List.nodup_append.mp hnd).2.2 p.1 (List.mem_map.mpr ⟨p, hp, rfl⟩) n List.mem_cons_self
          exact h1 e
        refine ⟨.ref x, hσ, x, C, dx, fs0, rfl, z.1, hcl, hna _ List.mem_cons_self, by simp at hlen; omega, ?_⟩
        rw [pn]
        exact q' d v G1 H1 p1 g1 r1
    have hnd2 : ∀ v : V, ((fs0 ++ [(n, v)]).map (·.1) ++ ps.map (·.1)).Nodup := fun v => by
      rw [List.map_append, List.append_assoc]
      exact hnd
    have fin : ∀ (De' : Ends) d v G1 H1, (bnd (mr ve) fun as => ret (d :: as)) Φ Ξ → Grow G H G1 H1 → Rep K none G1 d v → (∀ es fs G' H', Φ es → Ex G G' → Grow G0 Hc G' H' → G' x = none → H' x = some (.ins C dx (fs0 ++ fs)) → fs.map (·.1) = n :: ps.map (·.1) → RepA K none G' es (fs.map (·.2)) → De'.nx σ H') → fTail K ps De' σ (upd H1 x (.ins C dx (fs0 ++ [(n, v)]))) := fun De' d v G1 H1 p1 g1 r1 qq => by
      have z := g1.keep hx gx
      have gr2 := (gr.trans g1).put (o := .ins C dx (fs0 ++ [(n, v)])) hcx z.2 (by rw [z.1]; rfl)
      refine ih (fun p hp => hna p (List.mem_cons_of_mem _ hp)) (fs0 ++ [(n, v)]) (hnd2 v) (by simp at hlen ⊢; omega) tb (vr.mono g1.e) gr2 upd_same z.2 hcx hσ hex p1 fun es fs G' H' pe e2 g2 gx2 hx2 hn hrep => ?_
      refine qq (d :: es) ((n, v) :: fs) G' H' pe (g1.e.trans e2) g2 gx2 ?_ (by rw [List.map_cons, hn]) (.cons (r1.mono e2) hrep)
      rw [hx2, List.append_assoc]
      rfl
    cases ps with
    | nil =>
      refine step De fun d v G1 H1 p1 g1 r1 => ?_
      have := fin De d v G1 H1 p1 g1 r1 (fun es fs G' H' pe e2 g2 gx2 hx2 hn hrep => q es fs G' H' pe e2 g2 gx2 hx2 hn hrep)
      exact this
    | cons p ps =>
      exact step _ fun d v G1 H1 p1 g1 r1 => fin De d v G1 H1 p1 g1 r1 q
/-- the promise of an __init__ -/
def spIni (K : Fr) (C : Addr) (names : List Str) (n : Nat) (m : List D → M (List D)) : Sp := fun vs H Q E => ∃ (x dx : Addr) (us : List V) (ds : List D) (G Hc : Hp) (Φ : List D → Prop) (Ξ : Exn → Prop), vs = .ref x :: us ∧ H x = some (.ins C dx []) ∧ G x = none ∧ Hc x = none ∧ Grow G Hc G H ∧ RepA K none G ds us ∧ ds.length = n ∧ m ds Φ Ξ ∧ NdefX.TabsN Tbl.T Hc ∧
  (∀ es fs G' H', Φ es → Grow G Hc G' H' → G' x = none → H' x = some (.ins C dx fs) → fs.map (·.1) = names → RepA K none G' es (fs.map (·.2)) → Q .non H') ∧ ∀ xx cls d G' H', Ξ xx → Grow G Hc G' H' → ExR K xx cls d G' → E cls d H'
/-- the last statements: the fields -/
def iTail (mf : VE → M (List D)) : Addr → Env → M (List D) := fun x ρ => grd (ρ[0]? = some (.sh false (.fn x))) (mf (vA ρ))
@[simp] theorem iTail_ap {mf : VE → M (List D)} : iTail mf x ρ = grd (ρ[0]? = some (.sh false (.fn x))) (mf (vA ρ)) := id rfl
def iNx (k : Env → M (List D)) : Oc → M (List D)
  | .nx ρ' => k ρ'
  | _ => nope
@[simp] theorem iNx_nx (k : Env → M (List D)) : iNx k (.nx ρ) = k ρ := id rfl
@[simp] theorem iNx_rt (k : Env → M (List D)) : iNx k (.rt ρ d) = nope := id rfl
/-- a statement ahead -/
def iSt (m : Env → M Oc) (k : Addr → Env → M (List D)) : Addr → Env → M (List D) := fun x ρ => bnd (m ρ) (iNx (k x))
@[simp] theorem iSt_ap {m : Env → M Oc} {k : Addr → Env → M (List D)} : iSt m k x ρ = bnd (m ρ) (iNx (k x)) := id rfl
/-- the __init__: n slots -/
def mIni (n : Nat) (mi : Addr → Env → M (List D)) : List D → M (List D) := fun ds => anyA fun x => mi x (.sh false (.fn x) :: (ds.map (Slot.sh false) ++ List.replicate (n - 1 - ds.length) .un))
@[simp] theorem mIni_ap {n : Nat} {mi : Addr → Env → M (List D)} : mIni n mi ds = anyA fun x => mi x (.sh false (.fn x) :: (ds.map (Slot.sh false) ++ List.replicate (n - 1 - ds.length) .un)) := id rfl
def IS (K : Fr) (EE : XK) (C : Addr) (names : List Str) (ts : TS) (mi : Addr → Env → M (List D)) : Prop := ∀ Gi Hi Hc ρ σ G H fp De Φ Ξ x dx, NdefX.TabsN Tbl.T Hc → Hi x = some (.ins C dx []) → Gi x = none → Hc x = none → Grow Gi Hc Gi Hi → Grow Gi Hi G H → StR K Hi ρ σ G H fp → mi x ρ Φ Ξ →
  (∀ es fs G' H', Φ es → Grow Gi Hc G' H' → G' x = none → H' x = some (.ins C dx fs) → fs.map (·.1) = names → RepA K none G' es (fs.map (·.2)) → ∀ σ, De.nx σ H') → (∀ xx cls d G' H', Ξ xx → Grow Gi Hc G' H' → ExR K xx cls d G' → EE cls d H') → ts De σ H
theorem VR.back {Hb Hb' : Hp} (e : ExN Hb Hb') (h : VR K Hb' ve σ G) : VR K Hb ve σ G := ⟨h.len, fun i f d hi => by
  obtain ⟨v, h1, h2⟩ := h.at_ i f d hi
  refine ⟨v, h1, ?_⟩
  cases f with
  | true => exact Rep.back e h2
  | false => exact h2⟩
theorem is_tail (hcl : Cls K C) {ps : List (Str × TE)} {mf : VE → M (List D)} (h : XF K EE ps mf) (hna : ∀ p ∈ ps, NoAttr K C p.1) (hnd : (ps.map (·.1)).Nodup) (hl : ps.length < 1000) : IS K EE C (ps.map (·.1)) (fTail K ps) (iTail mf) := fun Gi Hi Hc ρ σ G H fp De Φ Ξ x dx tb hx gx hcx gc gi st m q qx => by
  obtain ⟨h0, m⟩ := m
  have z := gi.keep hx gx
  have hσ : σ[0]? = some (some (.ref x)) := by
    have l0 : 0 < ρ.length := (List.getElem?_eq_some_iff.mp h0).1
    have s0 := st.sl 0 _ h0
    obtain ⟨o, ho⟩ : ∃ o, σ[0]? = some o := ⟨_, List.getElem?_eq_getElem (st.len ▸ l0)⟩
    rw [ho, Option.getD_some] at s0
    rw [ho]
    generalize fp 0 = l at s0
    cases s0 with
    | sh r => cases r; rfl
  refine tail_run (G0 := Gi) (Hc := Hc) (Ξ := Ξ) (ve := vA ρ) (Φ := Φ) hcl h hna [] (by simpa using hnd) (by simpa using hl) tb (VR.back gc.ext st.vA) (gc.trans gi) z.1 z.2 hcx hσ qx m fun es fs G' H' pe e2 g2 gx2 hx2 hn hr => ?_
  exact q es fs G' H' pe g2 gx2 (by simpa using hx2) hn hr σ
theorem is_tailN (hcl : Cls K C) {names : List Str} {ps : List (Str × TE)} {mf : VE → M (List D)} (h : XF K EE ps mf) (hna : ∀ p ∈ ps, NoAttr K C p.1) (hnm : ps.map (·.1) = names) (hnd : names.Nodup) (hl : names.length < 1000) : IS K EE C names (fTail K ps) (iTail mf) := by
  subst hnm
  exact is_tail hcl h hna hnd (by simpa using hl)
theorem is_st {names : List Str} {t u : TS} {m : Env → M Oc} {k : Addr → Env → M (List D)} (h : RS K EE fr t m) (h2 : IS K EE C names u k) : IS K EE C names (tSeq t u) (iSt m k) := fun Gi Hi Hc ρ σ G H fp De Φ Ξ x dx tb hx gx hcx gc gi st mm q qx =>
  h Gi Hi ρ σ G H fp _ (fun o => iNx (k x) o Φ Ξ) Ξ gi st mm ⟨fun ρ1 σ1 G1 H1 fp1 p e g s => h2 Gi Hi Hc ρ1 σ1 G1 H1 fp1 De Φ Ξ x dx tb hx gx hcx gc g s p q qx, fun _ _ _ _ _ _ _ p => p.elim, fun _ _ _ _ _ p => p.elim, fun _ _ _ _ _ p => p.elim, fun xx cls d G' H' hh g r => qx xx cls d G' H' hh (gc.trans g) r, gc.ext.t tb⟩
/-- C(e, ..) -/
def mMake (C : Addr) (names : List Str) (n : Nat) (mf : List D → M (List D)) (mr : VE → M (List D)) : VE → M D := fun ve => bnd (mr ve) fun as => grd (as.length = n) (bnd (mf as) fun es => ret (.ins C names es))
@[simp] theorem mMake_ap {names : List Str} {n : Nat} {mf : List D → M (List D)} {mr : VE → M (List D)} : mMake C names n mf mr ve = bnd (mr ve) fun as => grd (as.length = n) (bnd (mf as) fun es => ret (.ins C names es)) := id rfl
def mMakeC (C : Addr) (names : List Str) (n : Nat) (mf : List D → M (List D)) (mr : VE → M (List D)) : VE → M D := fun ve => bnd (mr ve) fun as => grd (as.length = n) (bnd (calm (mf as)) fun es => ret (.ins C names es))
@[simp] theorem mMakeC_ap {names : List Str} {n : Nat} {mf : List D → M (List D)} {mr : VE → M (List D)} : mMakeC C names n mf mr ve = bnd (mr ve) fun as => grd (as.length = n) (bnd (calm (mf as)) fun es => ret (.ins C names es)) := id rfl
theorem make_core {names : List Str} {n : Nat} {mf : List D → M (List D)} {EX : XK} {Q : VK} {as : List D} {xs : List V} {Φ : D → Prop} (tb : NdefX.TabsN Tbl.T H1) (g1 : Ex G1 H1) (r1 : RepA K none G1 as xs) (hl : as.length = n) (m : mf as (fun es => Φ (.ins C names es)) Ξ)
    (q : ∀ d v G' H', Φ d → Grow G1 H1 G' H' → Rep K none G' d v → Q v H') (qx : ∀ xx cls d G' H', Ξ xx → Grow G1 H1 G' H' → ExR K xx cls d G' → EX cls d H') :
    ∀ x dx, H1 x = none → H1 dx = none → dx ≠ x → spIni K C names n mf (.ref x :: (xs ++ [])) (upd (upd H1 dx (.own x)) x (.ins C dx [])) (fun v H2 => v = .non ∧ Q (.ref x) H2) EX := fun x dx hx hdx hne => by
  have ga : Grow G1 H1 G1 (upd H1 dx (.own x)) := Grow.hid g1 hdx
  have hx2 : upd H1 dx (.own x) x = none := by rw [upd_ne (fun z => hne z.symm)]; exact hx
  have gb : Grow G1 (upd H1 dx (.own x)) G1 (upd (upd H1 dx (.own x)) x (.ins C dx [])) := Grow.hid ga.sub hx2
  refine ⟨x, dx, xs, as, G1, H1, _, Ξ, by rw [List.append_nil], upd_same, fresh_back g1 hx, hx, ga.trans gb, r1, hl, m, tb, fun es fs G' H' pe g gx hx' hn hr => ⟨rfl, ?_⟩, qx⟩
  have gE : Ex G' (upd G' x (.ins C dx fs)) := Ex.new g.sub.n gx
  refine q (.ins C names es) (.ref x) (upd G' x (.ins C dx fs)) H' pe ⟨g.e.trans gE, ⟨fun a o ha => ?_, g.sub.n.upd (by intro _ z; cases z)⟩, g.ext, fun a h1 h2 => ?_⟩ (.ins upd_same hn (hr.mono gE))
  · by_cases hax : a = x
    · subst hax; rw [upd_same] at ha; cases ha; exact hx'
    · rw [upd_ne hax] at ha; exact g.sub a o ha
  · by_cases hax : a = x
    · subst hax; exact .inl hx
    · rw [upd_ne hax] at h2 ⊢; exact g.new a h1 h2
theorem xe_make {names : List Str} {n : Nat} {mf : List D → M (List D)} {tr : TA} {mr : VE → M (List D)} (h : XA K EE false tr mr) : XE K EE false (tMake C (spIni K C names n mf) [] EE tr) (mMake C names n mf mr) := fun Hb ve σ G H Φ Ξ c m Q q =>
  h Hb ve σ G H _ Ξ c m _ fun as xs G1 H1 p1 g1 r1 => make_core (c.grow g1).tb g1.sub r1 p1.1 p1.2 (fun d v G' H' p g r => q d v G' H' p (g1.trans g) r) fun xx cls d G' H' hx g r => (c.grow g1).x xx cls d G' H' hx g r
theorem xe_makeC {names : List Str} {n : Nat} {mf : List D → M (List D)} {tr : TA} {mr : VE → M (List D)} (h : XA K EE false tr mr) : XE K EE false (tMake C (spIni K C names n mf) [] C8.E0 tr) (mMakeC C names n mf mr) := fun Hb ve σ G H Φ Ξ c m Q q =>
  h Hb ve σ G H _ Ξ c m _ fun as xs G1 H1 p1 g1 r1 => make_core (Ξ := fun _ => False) (c.grow g1).tb g1.sub r1 p1.1 p1.2 (fun d v G' H' p g r => q d v G' H' p (g1.trans g) r) fun xx cls d G' H' hx g r => hx.elim
section
variable {P : Program} {w : World} {mg : Str → Option Value} {base : Heap}
/-- an own class that is made by its name -/
structure MkI (P : Program) (w : World) (K : Fr) (mg : Str → Option Value) (base : Heap) (k : Nat) (x : Str) (C : Addr) (sp : Sp) : Prop where
  ex : ∃ (f : Addr) (fd : FuncData) (ps : List Str), L2.Mk K C f ∧ FnOk P w K mg base (L2.CX P w) k f fd ps sp ∧ mg x = some (.ref C) ∧ Binds K fd ps []
theorem pe_mkI {X : Cx} {k j : Nat} {x : Str} {C : Addr} {sp : Sp} {E : XK} {e : Expr} {es : List Expr} {t : TA} {p pos : Pos} (c : MkI X.prog X.w X.K X.mg X.base k x C sp) (hr : Room j X.A) (hk : k + 1 ≤ j) (hg : Gl X x) (hx : Passes (L2.CX X.prog X.w) X E) (ha : PA X (e :: es) t)
    (hdb : (x == ("__debug__" : Str)) = false := by decide) (he : starEach (e :: es) X.env = (false, eval e X.env) :: starEach es X.env := by rfl) (hpl : (backTo pos (starEach es X.env)).any (·.1) = false := by rfl) :
    PE X (.Call (.Name x p) (e :: es) [] pos) (tMake C sp [] E t) := by
  obtain ⟨f, fd, ps, M, F, hm, b⟩ := c.ex
  exact pe_make M F (hr.mono hk) hg hm b .nil hx ha hdb he hpl
theorem passE0 {X : Cx} : Passes (L2.CX X.prog X.w) X C8.E0 := fun _ _ _ _ _ _ _ h => by
  obtain ⟨_, _, _, _, _, _, _, _, _, _, _, _, z⟩ := h
  exact z.elim
theorem okIni {x qual : Str} {st : Stmt} {fa : Addr} {fd : FuncData} {N ps names : List Str} {k n : Nat} {mi : Addr → Env → M (List D)} (F : L2.Fun K x qual st fa fd) (S : FnScope N ps (defScope st)) (hn : N.length = n) (hp : ps.length ≤ n) (hp1 : 1 ≤ ps.length)
    (hb : ∀ (cdv : Value) (A : Around) (outer : List PySem.Env) (s : Shared) (H : Hp) (E : XK), Room k (A.deeper (envOfC qual (defScope st) s.heap.objs.size fa cdv)) →
      ∃ t, PSs (cxOf (L2.CX P w) P w K mg base N qual (defScope st) fa cdv A outer s H E) (defBody st) t ∧ IS K E C names t mi) : FnOk P w K mg base (L2.CX P w) (k + 1) fa fd ps (spIni K C names (ps.length - 1) (mIni n mi)) := by
  refine F.okX S (fun vs H Q E h => ?_) (fun cdv A outer s H vs Q E hr h => ?_)
  · obtain ⟨x, dx, us, ds, G, Hc, Φ, Ξ, rfl, _, _, _, _, r, hl, _⟩ := h
    rw [List.length_cons, ← r.length, hl]; omega
  · obtain ⟨x, dx, us, ds, G, Hc, Φ, Ξ, rfl, hx, gx, hcx, gc, r, hl, hm, tb, q, qx⟩ := h
    obtain ⟨t, ht, hi⟩ := hb cdv A outer s H E hr
    have r2 : RepA K none G (.fn x :: ds) (.ref x :: us) := .cons (.fn x) r
    have s0 : StR K H ((D.fn x :: ds).map (Slot.sh false) ++ List.replicate (N.length - (D.fn x :: ds).length) .un) (L2.start N (V.ref x :: us)) G H (fun _ => []) := StR.init r2 (by rw [List.length_cons, ← r.length, hl, hn]; omega)
    have e0 : (D.fn x :: ds).map (Slot.sh false) ++ List.replicate (N.length - (D.fn x :: ds).length) .un = .sh false (.fn x) :: (ds.map (Slot.sh false) ++ List.replicate (n - 1 - ds.length) .un) := by
      rw [List.map_cons, List.cons_append, List.length_cons, hn]
      congr 3
      omega
    rw [e0] at s0
    exact ⟨t, ht, hi G H Hc _ _ G H _ _ Φ Ξ x dx tb hx gx hcx gc (Grow.refl gc.sub) s0 (hm x) (fun es fs G' H' pe g gx2 hx2 hnn hrr σ => q es fs G' H' pe g gx2 hx2 hnn hrr) qx⟩
end
end
end VL

/-! VM28: a list of lists of one's own, the inner ones written. -/
namespace VL
open PySem PySem.Spec PyProof.Rows L2
open M (ret bnd nope grd exn opt drw hdl anyA)
section
variable [Tbl] {K : Fr} {EE : XK} {fr f f1 : Bool} {H0 G0 : Hp} {ρ ρ' : Env} {σ : L2.St} {G G' H H' G1 H1 : Hp} {Ξ : Exn → Prop} {Φ : Oc → Prop} {De : Ends} {d : D} {v : V} {ds : List D} {vs : List V} {fp : Nat → List Addr} {i j : Nat} {s : Slot}
variable {te tk tj : TE} {ta : TA} {me mk mj : VE → M D} {ml : VE → M (List D)} {mr : VE → M (List (List D))}
/-- new lists, one after the other -/
def XLs (K : Fr) (EE : XK) (ta : TA) (m : VE → M (List (List D))) : Prop := ∀ Hb ve σ G H Φ Ξ, Cv K EE Hb ve σ G H Ξ → m ve Φ Ξ → ∀ Q : List V → Hp → Prop, (∀ rows ps G' H', Φ rows → Grow G H G' H' → ps.Nodup → (∀ p ∈ ps, H p = none ∧ G' p = none) → RowsR K G' H' ps rows → Q (ps.map V.ref) H') → ta σ H Q
def lsNil : VE → M (List (List D)) := fun _ => ret []
def lsCons (ml : VE → M (List D)) (mr : VE → M (List (List D))) : VE → M (List (List D)) := fun ve => bnd (ml ve) fun a => bnd (mr ve) fun as => ret (a :: as)
@[simp] theorem lsNil_ap {ve : VE} : lsNil ve = ret [] := id rfl
@[simp] theorem lsCons_ap {ve : VE} : lsCons ml mr ve = bnd (ml ve) fun a => bnd (mr ve) fun as => ret (a :: as) := id rfl
theorem xls_nil : XLs K EE tNil lsNil := fun Hb ve σ G H Φ Ξ c m Q q => q [] [] G H m (Grow.refl c.e) List.nodup_nil (fun _ h => nomatch h) .nil
theorem xls_cons (h : XL K EE f te ml) (hr : XLs K EE ta mr) : XLs K EE (tCons te ta) (lsCons ml mr) := fun Hb ve σ G H Φ Ξ c m Q q =>
  h Hb ve σ G H _ Ξ c m _ fun as p xs G1 H1 p1 g1 h1 h2 h3 r1 => hr Hb ve σ G1 H1 _ Ξ (c.grow g1) p1 _ fun rows ps G2 H2 p2 g2 nd hn rr => by
    have z := g2.keep h3 h2
    refine q (as :: rows) (p :: ps) G2 H2 p2 (g1.trans g2) (List.nodup_cons.mpr ⟨fun hm => ?_, nd⟩) (fun a ha => ?_) (.cons z.1 (r1.mono g2.e).old rr)
    · rw [(hn p hm).1] at h3; cases h3
    · rcases List.mem_cons.mp ha with rfl | ha
      · exact ⟨h1, z.2⟩
      · exact ⟨g1.free (hn a ha).1, (hn a ha).2⟩
theorem StR.setRw {p : Addr} {ps : List Addr} {rows : List (List D)} (h : StR K H0 ρ σ G H fp) (hp : H p = some (.lst (ps.map V.ref))) (hl : ∀ a ∈ p :: ps, H0 a = none ∧ G a = none ∧ ∃ vs, H a = some (.lst vs)) (hn : ∀ a ∈ p :: ps, ∀ j, a ∉ fp j) (nd : (p :: ps).Nodup) (r : RowsR K G H ps rows) : ∃ fp', StR K H0 (ρ.set i (.rw rows)) (σ.set i (some (.ref p))) G H fp' := by
  by_cases hi : i < ρ.length
  · refine ⟨fset fp i (p :: ps), by rw [List.length_set, List.length_set, h.len], fun j s e => ?_, fun j e => ?_, fun j a ha => ?_, fun j k a h1 h2 => ?_, fun j => ?_⟩
    · by_cases hj : i = j
      · subst hj
        rw [List.getElem?_set_self hi] at e; cases e
        rw [List.getElem?_set_self (h.len ▸ hi)]
        unfold fset; rw [if_pos rfl]
        exact .rw hp r
      · rw [List.getElem?_set_ne hj] at e ⊢
        unfold fset; rw [if_neg (fun z => hj z.symm)]
        exact h.sl j s e
    · unfold fset; split
      · rename_i q; subst q
        rw [List.getElem?_eq_none_iff, List.length_set] at e; omega
      · exact h.out j (by rw [List.getElem?_eq_none_iff] at e ⊢; rw [List.length_set] at e; exact e)
    · unfold fset at ha; split at ha
      · exact hl a ha
      · exact h.fr j a ha
    · unfold fset at h1 h2; split at h1
      · rename_i q1
        split at h2
        · rename_i q2; rw [q1, q2]
        · exact (hn a h1 k h2).elim
      · split at h2
        · exact (hn a h2 j h1).elim
        · exact h.dj j k a h1 h2
    · unfold fset; split
      · exact nd
      · exact h.nd j
  · exact ⟨fp, by
      have e1 : ρ.set i (.rw rows) = ρ := List.set_eq_of_length_le (by omega)
      have e2 : σ.set i (some (.ref p)) = σ := List.set_eq_of_length_le (by rw [← h.len]; omega)
      rw [e1, e2]; exact h⟩
/-- x = [new list, ..] -/
def sRw (i : Nat) (mr : VE → M (List (List D))) : Env → M Oc := fun ρ => bnd (mr (vA ρ)) fun rows => grd (rows.length ≤ 100000) (ret (.nx (ρ.set i (.rw rows))))
@[simp] theorem sRw_ap : sRw i mr ρ = bnd (mr (vA ρ)) fun rows => grd (rows.length ≤ 100000) (ret (.nx (ρ.set i (.rw rows)))) := id rfl
theorem RowsR.length {ps : List Addr} {rows : List (List D)} (h : RowsR K G H ps rows) : ps.length = rows.length := by
  induction h with
  | nil => rfl
  | cons _ _ _ ih => rw [List.length_cons, List.length_cons, ih]
theorem RowsR.get {ps : List Addr} {rows : List (List D)} (h : RowsR K G H ps rows) : ∀ {n : Nat} {p : Addr}, ps[n]? = some p → ∃ vs ds, rows[n]? = some ds ∧ H p = some (.lst vs) ∧ RepA K none G ds vs := by
  induction h with
  | nil => intro n p e; simp at e
  | cons h1 r t ih =>
    intro n p e
    cases n with
    | zero => simp at e; subst e; exact ⟨_, _, rfl, h1, r⟩
    | succ n => simpa using ih (by simpa using e)
theorem r_rw (h : XLs K EE ta mr) : RS K EE fr (tAsg (tLst ta) (gName i)) (sRw i mr) := fun G0 H0 ρ σ G H fp De Φ Ξ gr st m k =>
  h H0 _ σ G H _ Ξ (k.cvA gr st) m _ fun rows ps G1 H1 pm g nd hn rr => by
    obtain ⟨hl, pm⟩ := pm
    refine ⟨Evl.sz_of (by rw [List.length_map, rr.length]; exact hl), fun p hp => ?_⟩
    have g2 := Grow.hid (o := .lst (ps.map V.ref)) g.sub hp
    have gg := g.trans g2
    have hpn : p ∉ ps := fun hm => by
      obtain ⟨n, hn'⟩ := List.mem_iff_getElem?.mp hm
      obtain ⟨vs, _, _, hv, _⟩ := rr.get hn'
      rw [hp] at hv; cases hv
    have keep : ∀ a ∈ ps, upd H1 p (.lst (ps.map V.ref)) a = H1 a := fun a ha => upd_ne (fun z => hpn (z ▸ ha))
    obtain ⟨fp', s'⟩ := (st.grow gg).setRw (i := i) (p := p) (ps := ps) (rows := rows) upd_same (fun a ha => by
      rcases List.mem_cons.mp ha with rfl | ha
      · exact ⟨gr.ext.f _ (g.free hp), fresh_back g.sub hp, _, upd_same⟩
      · obtain ⟨n, hn'⟩ := List.mem_iff_getElem?.mp ha
        obtain ⟨vs, _, _, hv, _⟩ := rr.get hn'
        exact ⟨gr.ext.f _ (hn a ha).1, (hn a ha).2, vs, by rw [keep a ha]; exact hv⟩) (fun a ha => by
      rcases List.mem_cons.mp ha with rfl | ha
      · exact st.newP (g.free hp)
      · exact st.newP (hn a ha).1) (List.nodup_cons.mpr ⟨hpn, nd⟩) (rr.to g.sub.self keep)
    exact k.nx _ _ G1 _ _ pm gg.e (gr.trans gg) s'
theorem refs_inj : ∀ {as bs : List Addr}, as.map V.ref = bs.map V.ref → as = bs
  | [], [], _ => rfl
  | [], _ :: _, h => by cases h
  | _ :: _, [], h => by cases h
  | a :: as, b :: bs, h => by
    have h1 := List.cons.inj h
    rw [V.ref.inj h1.1, refs_inj h1.2]
theorem RowsR.set {ps : List Addr} {rows : List (List D)} {n : Nat} {a : Addr} {ds' : List D} {vs' : List V} (gself : Ex G G) (h : RowsR K G H ps rows) (nd : ps.Nodup) (ha : ps[n]? = some a) (r : RepA K none G ds' vs') : RowsR K G (upd H a (.lst vs')) ps (rows.set n ds') := by
  induction h generalizing n with
  | nil => simp at ha
  | @cons p vs ds ps rows h1 r1 t ih =>
    obtain ⟨n1, n2⟩ := List.nodup_cons.mp nd
    cases n with
    | zero =>
      simp at ha
      subst ha
      exact .cons upd_same r (t.to gself fun b hb => upd_ne fun z => n1 (z ▸ hb))
    | succ n =>
      have ha : ps[n]? = some a := by simpa using ha
      have hne : p ≠ a := fun z => n1 (z ▸ List.mem_of_getElem? ha)
      exact .cons (by rw [upd_ne hne]; exact h1) r1 (ih n2 ha)
theorem StR.putRw {rows : List (List D)} (gself : Ex G G) (h : StR K H0 ρ σ G H fp) (hi : ρ[i]? = some (.rw rows)) : ∃ p ps, σ[i]? = some (some (.ref p)) ∧ H p = some (.lst (ps.map V.ref)) ∧ RowsR K G H ps rows ∧ (∀ a ∈ ps, H0 a = none ∧ G a = none) ∧ G p = none ∧
    ∀ n a ds' vs', ps[n]? = some a → RepA K none G ds' vs' → StR K H0 (ρ.set i (.rw (rows.set n ds'))) σ G (upd H a (.lst vs')) fp := by
  have z := h.sl i _ hi
  have hl : i < ρ.length := (List.getElem?_eq_some_iff.mp hi).1
  obtain ⟨o, hs⟩ : ∃ o, σ[i]? = some o := ⟨_, List.getElem?_eq_getElem (h.len ▸ hl)⟩
  rw [hs, Option.getD_some] at z
  have hnd := h.nd i
  generalize hfp : fp i = l at z hnd
  cases z with
  | rw hp r =>
    rename_i p ps
    have fr : ∀ a ∈ p :: ps, H0 a = none ∧ G a = none := fun a ha => ⟨(h.fr i a (by rw [hfp]; exact ha)).1, (h.fr i a (by rw [hfp]; exact ha)).2.1⟩
    obtain ⟨n1, n2⟩ := List.nodup_cons.mp hnd
    refine ⟨p, ps, hs, hp, r, fun a ha => fr a (List.mem_cons_of_mem _ ha), (fr p List.mem_cons_self).2, fun n a ds' vs' ha hr => ⟨by rw [List.length_set, h.len], fun j s e => ?_, fun j e => ?_, fun j x hx => ?_, h.dj, h.nd⟩⟩
    · have ham : a ∈ ps := List.mem_of_getElem? ha
      by_cases hj : i = j
      · subst hj
        rw [List.getElem?_set_self hl] at e; cases e
        rw [hs, hfp]
        exact .rw (by rw [upd_ne (fun z => n1 (by rw [z]; exact ham))]; exact hp) (r.set gself n2 ha hr)
      · rw [List.getElem?_set_ne hj] at e
        have zj := h.sl j s e
        have hne : ∀ x ∈ fp j, x ≠ a := fun x hx q => hj (h.dj i j a (by rw [hfp]; exact List.mem_cons_of_mem _ ham) (by rw [← q]; exact hx))
        revert zj hne
        generalize (σ[j]?).getD none = o
        generalize fp j = lj
        intro zj hne
        cases zj with
        | un => exact .un _
        | sh r => exact .sh r
        | ow hq rq ha => exact .ow (by rw [upd_ne (hne _ (by simp))]; exact hq) rq ha
        | rw hq rq => exact .rw (by rw [upd_ne (hne _ (by simp))]; exact hq) (rq.to gself fun a ha => upd_ne (hne a (List.mem_cons_of_mem _ ha)))
        | jk r hl => exact SlR.jkTo gself (fun a ha => upd_ne (hne a ha)) r hl
    · exact h.out j (by rw [List.getElem?_eq_none_iff] at e ⊢; rw [List.length_set] at e; exact e)
    · obtain ⟨h1, h2, ws, h3⟩ := h.fr j x hx
      by_cases q : x = a
      · subst q; exact ⟨h1, h2, _, upd_same⟩
      · exact ⟨h1, h2, ws, by rw [upd_ne q]; exact h3⟩
def getR (ρ : Env) (i : Nat) : Option (List (List D)) := match ρ[i]? with
  | some (.rw rows) => some rows
  | _ => none
@[simp] theorem getR_z (rows : List (List D)) : getR (.rw rows :: ρ) 0 = some rows := id rfl
@[simp] theorem getR_s (s : Slot) : getR (s :: ρ) (i + 1) = getR ρ i := by unfold getR; simp
theorem getR_inv {rows : List (List D)} (h : getR ρ i = some rows) : ρ[i]? = some (.rw rows) := by
  unfold getR at h
  split at h
  · rename_i a e; cases h; exact e
  · cases h
/-- x[k][j] = e, e a scalar -/
def sRwS (i : Nat) (me mk mj : VE → M D) : Env → M Oc := fun ρ => bnd (me (vB ρ)) fun d => grd (scalarD d = true) (bnd (opt (getR ρ i)) fun rows => bnd (mk (vB ρ)) fun x => bnd (opt (tIn x)) fun k => bnd (opt (ixN rows.length k)) fun n => bnd (opt rows[n]?) fun row =>
  bnd (mj (vB ρ)) fun y => bnd (opt (tIn y)) fun j => bnd (opt (ixN row.length j)) fun l => ret (.nx (ρ.set i (.rw (rows.set n (row.set l d))))))
@[simp] theorem sRwS_ap : sRwS i me mk mj ρ = bnd (me (vB ρ)) fun d => grd (scalarD d = true) (bnd (opt (getR ρ i)) fun rows => bnd (mk (vB ρ)) fun x => bnd (opt (tIn x)) fun k => bnd (opt (ixN rows.length k)) fun n => bnd (opt rows[n]?) fun row =>
  bnd (mj (vB ρ)) fun y => bnd (opt (tIn y)) fun j => bnd (opt (ixN row.length j)) fun l => ret (.nx (ρ.set i (.rw (rows.set n (row.set l d)))))) := id rfl
theorem r_rwS (h : XE K EE false te me) (hk : XE K EE false tk mk) (hj : XE K EE false tj mj) : RS K EE fr (tAsg te (gSub (tOp (rIxU K) (tVar i) tk) tj rSetL)) (sRwS i me mk mj) := fun G0 H0 ρ σ G H fp De Φ Ξ gr st m k =>
  h H _ σ _ H _ Ξ (k.cvB gr st) m _ fun d v G1 H1 pm g r => by
    obtain ⟨hs, pm⟩ := pm
    obtain ⟨rows, er, pm⟩ := M.opt_inv pm
    have hi := getR_inv er
    have g' := st.evB gr g
    have gr1 := gr.trans g'
    have st1 := st.grow g'
    have k1 := k.on g'.e
    obtain ⟨p, ps, hv, hp, rr, hf, gp, _⟩ := st1.putRw g'.sub.self hi
    refine ⟨.ref p, hv, hk H1 _ σ _ H1 _ Ξ (k1.cvB gr1 st1) pm _ fun x w G2 H2 pm2 g2 r2 => ?_⟩
    obtain ⟨kk, ek, pm2⟩ := M.opt_inv pm2
    obtain ⟨n, en, pm2⟩ := M.opt_inv pm2
    obtain ⟨row, erow, pm2⟩ := M.opt_inv pm2
    rw [tIn_inv ek] at r2
    have g2' := st1.evB gr1 g2
    have gr2 := gr1.trans g2'
    have st2 := st1.grow g2'
    have k2 := k1.on g2'.e
    obtain ⟨p', ps', hv', hp', rr', hf', gp', _⟩ := st2.putRw g2'.sub.self hi
    rw [hv] at hv'; cases hv'
    have hnl : n < ps'.length := by rw [rr'.length]; exact (List.getElem?_eq_some_iff.mp erow).1
    have han : ps'[n]? = some ps'[n] := List.getElem?_eq_getElem hnl
    refine .inl (.inl ⟨p, ps'.map V.ref, kk, .ref ps'[n], rfl, r2.int_inv, SqL.of hp', ?_, ?_⟩)
    · unfold atI
      rw [List.length_map, rr'.length, en]
      show (ps'.map V.ref)[n]? = _
      rw [List.getElem?_map, han]
      rfl
    · refine hj H2 _ σ _ H2 _ Ξ (k2.cvB gr2 st2) pm2 _ fun y w2 G3 H3 pm3 g3 r3 => ?_
      obtain ⟨jj, ej, pm3⟩ := M.opt_inv pm3
      obtain ⟨l, el, pm3⟩ := M.opt_inv pm3
      rw [tIn_inv ej] at r3
      have g3' := st2.evB gr2 g3
      have gr3 := gr2.trans g3'
      have st3 := st2.grow g3'
      obtain ⟨p3, ps3, hv3, hp3, rr3, hf3, gp3, put⟩ := st3.putRw g3'.sub.self hi
      rw [hv] at hv3; cases hv3
      have eps : ps3 = ps' := by
        have z := (g3'.keep hp' gp').1
        rw [hp3] at z
        have z := HO.lst.inj (Option.some.inj z)
        exact refs_inj z
      subst eps
      obtain ⟨vs, ds, hds, hH, hr⟩ := rr3.get han
      rw [erow] at hds
      cases hds
      refine ⟨ps3[n], vs, jj, l, rfl, r3.int_inv, hH, by rw [← hr.length]; exact el, ?_⟩
      have hfa := hf3 ps3[n] (List.mem_of_getElem? han)
      exact (k2.on g3'.e).nx _ _ _ _ _ pm3 gr3.sub.self (gr3.put hfa.1 hfa.2 (by rw [hH]; rfl)) (put n _ _ _ han (hr.set l (r.scalar hs)))
/-- list(e) -/
def lList (ma : VE → M D) : VE → M (List D) := fun ve => bnd (ma ve) fun a => opt (seqOf a)
@[simp] theorem lList_ap {ma : VE → M D} {ve : VE} : lList ma ve = bnd (ma ve) fun a => opt (seqOf a) := id rfl
theorem xl_listOf {ma : VE → M D} (h : XE K EE false te ma) : XL K EE false (tCB (rcList K) (tCons te tNil)) (lList ma) := fun Hb ve σ G H Φ Ξ c m Q q =>
  h Hb ve σ G H _ Ξ c m _ fun a x G1 H1 p1 g1 r1 => by
    obtain ⟨ds, e, p1⟩ := M.opt_inv p1
    cases a <;> simp [seqOf] at e
    · subst e
      obtain ⟨p, us, rfl, _, hp, rs⟩ := r1.lst_inv
      exact ⟨p, us, rfl, .inl (SqL.of (g1.sub _ _ hp)), fun l hl => q _ l us G1 _ p1 (g1.trans (Grow.hid g1.sub hl)) (g1.free hl) (fresh_back g1.sub hl) upd_same rs⟩
    · subst e
      obtain ⟨p, us, rfl, hp, rs⟩ := r1.tup_inv
      exact ⟨p, us, rfl, .inr (ex_t g1.sub hp), fun l hl => q _ l us G1 _ p1 (g1.trans (Grow.hid g1.sub hl)) (g1.free hl) (fresh_back g1.sub hl) upd_same rs⟩
end
end VL

/-! VM29: xs.extend(e). -/
namespace VL
open PySem PySem.Spec PyProof.Rows L2
open M (ret bnd nope grd exn opt drw hdl anyA)
section
variable [Tbl] {K : Fr} {EE : XK} {fr : Bool} {ρ : Env} {i : Nat} {te : TE} {me : VE → M D}
theorem RepA.any' {f : Bool} {G H : Hp} {ds : List D} {vs : List V} (r : RepA K (frh true H) G ds vs) : RepA K (frh f H) G ds vs := by
  cases f with
  | true => exact r
  | false => exact r.old
/-- xs.extend(e), e new -/
def sExtB (i : Nat) (me : VE → M D) : Env → M Oc := fun ρ => bnd (opt (getO ρ i)) fun p => bnd (me (vB ρ)) fun d => bnd (opt (tLs d)) fun es => grd (p.2.2.length + es.length ≤ 100000) (ret (.nx (ρ.set i (.ow p.1 p.2.1 (p.2.2 ++ es)))))
@[simp] theorem sExtB_ap : sExtB i me ρ = bnd (opt (getO ρ i)) fun p => bnd (me (vB ρ)) fun d => bnd (opt (tLs d)) fun es => grd (p.2.2.length + es.length ≤ 100000) (ret (.nx (ρ.set i (.ow p.1 p.2.1 (p.2.2 ++ es))))) := id rfl
theorem r_extB (h : XE K EE true te me) : RS K EE fr (tDrop (tBM K "list" rExtend (tVar i) (tCons te tNil))) (sExtB i me) := fun G0 H0 ρ σ G H fp De Φ Ξ gr st m k => by
  obtain ⟨⟨ad, f, ds⟩, e, m⟩ := M.opt_inv m
  have hi := getO_inv e
  obtain ⟨p, vs, hv, hp, rs, h0, hg, _⟩ := st.put gr.sub.self hi
  refine ⟨.ref p, hv, .inl ⟨rfl, vs, SqL.of hp⟩, h H _ σ _ H _ Ξ (k.cvB gr st) m _ fun d v G1 H1 pm g1 r => ?_⟩
  obtain ⟨es, e2, hl, pm⟩ := M.opt_inv pm
  rw [tLs_inv e2] at r
  have g' := st.evB gr g1
  have st1 := st.grow g'
  obtain ⟨p', vs', hv', hp', rs', h0', hg', put⟩ := st1.put g'.sub.self hi
  rw [hv] at hv'; cases hv'
  obtain ⟨q, us, rfl, fq, hq, rq⟩ := (st.repB gr g1 r).lst_inv
  refine ⟨p, q, vs', us, rfl, rfl, hp', g'.sub _ _ hq, Evl.sz_of (by rw [← rs'.length, ← rq.length]; exact hl), ?_⟩
  exact k.nx _ _ _ _ _ pm g'.e ((gr.trans g').put h0 hg' (by rw [hp']; rfl)) (put _ _ _ (rs'.append (RepA.any' rq)))
end
end VL

namespace VL
open PySem PySem.Spec PyProof.Rows L2
open M (ret bnd nope grd exn opt drw)
section
variable {α β : Type}
/-- whatever is drawn, m ends with something that P holds of -/
structure Ok (m : M α) (P : α → Prop) : Prop where
  run : ∀ Φ Ξ, (∀ a, P a → Φ a) → m Φ Ξ
theorem Ok.ret {a : α} {P : α → Prop} (h : P a) : Ok (ret a) P := ⟨fun Φ Ξ k => k a h⟩
theorem Ok.bnd {m : M α} {k : α → M β} {P : α → Prop} {Q : β → Prop} (h : Ok m P) (hk : ∀ a, P a → Ok (k a) Q) : Ok (bnd m k) Q := ⟨fun Φ Ξ q => h.run _ Ξ fun a ha => (hk a ha).run Φ Ξ q⟩
theorem Ok.mono {m : M α} {P Q : α → Prop} (h : Ok m P) (hk : ∀ a, P a → Q a) : Ok m Q := ⟨fun Φ Ξ q => h.run Φ Ξ fun a ha => q a (hk a ha)⟩
theorem Ok.eq {m : M α} {a : α} {P : α → Prop} (e : m = M.ret a) (h : P a) : Ok m P := e ▸ Ok.ret h
theorem Ok.beq {m : M α} {a : α} {k : α → M β} {Q : β → Prop} (e : m = M.ret a) (h : Ok (k a) Q) : Ok (M.bnd m k) Q := by subst e; exact h
theorem Ok.drw {n : Int} (h : 0 < n) (h2 : n < 2 ^ 200) : Ok (drw n) fun i => 0 ≤ i ∧ i < n := ⟨fun Φ Ξ q => ⟨h, h2, fun i a b => q i ⟨a, b⟩⟩⟩
theorem Ok.drawB {n : Int} {k : Int → M β} {Q : β → Prop} (h : 0 < n) (h2 : n < 2 ^ 200) (hk : ∀ i, 0 ≤ i → i < n → Ok (k i) Q) : Ok (M.bnd (M.drw n) k) Q := (Ok.drw h h2).bnd fun i hi => hk i hi.1 hi.2
theorem Ok.grd {p : Prop} {m : M α} {P : α → Prop} (hp : p) (h : Ok m P) : Ok (grd p m) P := ⟨fun Φ Ξ q => ⟨hp, h.run Φ Ξ q⟩⟩
theorem Ok.calm {m : M α} {P : α → Prop} (h : Ok m P) : Ok (calm m) P := ⟨fun Φ Ξ q => h.run Φ _ q⟩
theorem Ok.calmB {m : M α} {k : α → M β} {P : α → Prop} {Q : β → Prop} (h : Ok m P) (hk : ∀ a, P a → Ok (k a) Q) : Ok (M.bnd (VL.calm m) k) Q := h.calm.bnd hk
theorem Ok.ite {c : Prop} [Decidable c] {m n : M α} {P : α → Prop} (h1 : c → Ok m P) (h2 : ¬ c → Ok n P) : Ok (if c then m else n) P := by
  split
  · exact h1 ‹_›
  · exact h2 ‹_›
/-- the exceptions that come are caught -/
theorem Ok.hdl {m : M α} {k : α → M β} {h : Exn → M β} {P : α → Prop} {Q : β → Prop} (hm : Ok m P) (hk : ∀ a, P a → Ok (k a) Q) : Ok (M.hdl m k h) Q := ⟨fun Φ Ξ q => hm.run _ _ fun a ha => (hk a ha).run Φ Ξ q⟩
theorem Ok.for {is : List Nat} {b : D → Option (List D)} {m : Env → M Oc} (I : Nat → Env → Prop) : ∀ {xs : List D} {n : Nat} {ρ : Env}, I n ρ → (∀ i x ρ, xs[i]? = some x → I (n + i) ρ → ∃ ds, b x = some ds ∧ Ok (m (setEnv false ρ is ds)) fun o => ∃ ρ', o = .nx ρ' ∧ I (n + i + 1) ρ') → Ok (forGo is b m xs ρ) fun o => ∃ ρ', o = .nx ρ' ∧ I (n + xs.length) ρ'
  | [], n, ρ, h, _ => Ok.ret ⟨ρ, rfl, h⟩
  | x :: xs, n, ρ, h, hs => by
    obtain ⟨ds, e, o⟩ := hs 0 x ρ rfl h
    show Ok (M.bnd (M.opt (b x)) _) _
    rw [e, M.opt_some, M.bnd_ret]
    refine Ok.bnd o fun o ho => ?_
    obtain ⟨ρ', rfl, h'⟩ := ho
    have := Ok.for I (xs := xs) (n := n + 1) (ρ := ρ') h' fun i y ρ hy hI => by
      have := hs (i + 1) y ρ hy (by rw [show n + (i + 1) = n + 1 + i by omega]; exact hI)
      rw [show n + (i + 1) + 1 = n + 1 + i + 1 by omega] at this
      exact this
    rw [List.length_cons, show n + (xs.length + 1) = n + 1 + xs.length by omega]
    exact this
/-- what is drawn, entry by entry -/
theorem Ok.lc {is : List Nat} {b : D → Option (List D)} {mt : VE → M Bool} {me : VE → M D} {ve : VE} {P : D → Prop} : ∀ {xs : List D}, (∀ x ∈ xs, ∃ ds, b x = some ds ∧ mt (setVE false ve is ds) = M.ret true ∧ Ok (me (setVE false ve is ds)) P) → Ok (lcGo ve is b mt me xs) fun ds => ds.length = xs.length ∧ ∀ d ∈ ds, P d
  | [], _ => Ok.ret ⟨rfl, fun _ h => by cases h⟩
  | x :: xs, H => by
    obtain ⟨ds, e, e2, o⟩ := H x List.mem_cons_self
    have ih := Ok.lc (xs := xs) fun y hy => H y (List.mem_cons_of_mem _ hy)
    unfold lcGo
    rw [e, M.opt_some, M.bnd_ret, e2, M.bnd_ret]
    simp only [if_true]
    refine o.bnd fun d hd => ih.bnd fun ds hds => Ok.ret ⟨by rw [List.length_cons, List.length_cons, hds.1], fun z hz => ?_⟩
    rcases List.mem_cons.mp hz with rfl | hz
    · exact hd
    · exact hds.2 z hz
/-- all whole numbers -/
theorem ints_of : ∀ {ds : List D}, (∀ d ∈ ds, ∃ i, d = D.int i) → ∃ ns : List Int, ds = ns.map D.int
  | [], _ => ⟨[], rfl⟩
  | d :: ds, h => by
    obtain ⟨i, rfl⟩ := h d List.mem_cons_self
    obtain ⟨ns, rfl⟩ := ints_of fun d hd => h d (List.mem_cons_of_mem _ hd)
    exact ⟨i :: ns, rfl⟩
theorem intsP_of {p : Int → Prop} : ∀ {ds : List D}, (∀ d ∈ ds, ∃ i, d = D.int i ∧ p i) → ∃ ns : List Int, ds = ns.map D.int ∧ ∀ i ∈ ns, p i
  | [], _ => ⟨[], rfl, fun _ h => by cases h⟩
  | d :: ds, h => by
    obtain ⟨i, rfl, hi⟩ := h d List.mem_cons_self
    obtain ⟨ns, rfl, hn⟩ := intsP_of fun d hd => h d (List.mem_cons_of_mem _ hd)
    refine ⟨i :: ns, rfl, fun j hj => ?_⟩
    rcases List.mem_cons.mp hj with rfl | hj
    · exact hi
    · exact hn j hj
/-- any slot -/
def vBs : Slot → Option (Bool × D)
  | .sh _ d => some (false, d)
  | .ow _ _ ds => some (false, .lst ds)
  | .rw rows => some (false, .lst (rows.map .lst))
  | .jk true _ d => some (false, d)
  | .jk false _ _ => none
  | .un => none
def vAs : Slot → Option (Bool × D)
  | .sh f d => some (f, d)
  | _ => none
theorem vB_any (s : Slot) (ρ : Env) : vB (s :: ρ) = vBs s :: vB ρ := by
  cases s with
  | jk ex b d => cases ex <;> rfl
  | _ => rfl
theorem vA_any (s : Slot) (ρ : Env) : vA (s :: ρ) = vAs s :: vA ρ := by cases s <;> rfl
end
end VL

/-! VM31: x, y = e, x a list of one's own behind if it is one. -/
namespace VL
open PySem PySem.Spec PyProof.Rows L2
open M (ret bnd nope grd exn opt drw hdl anyA)
/-- a scalar, or a tuple of scalars -/
def flatD : D → Bool
  | .tup ds => ds.all scalarD
  | d => scalarD d
section
variable [Tbl] {K : Fr} {EE : XK} {fr f f1 : Bool} {H0 G0 : Hp} {ρ ρ' : Env} {σ : L2.St} {G G' H H' G1 H1 : Hp} {Ξ : Exn → Prop} {Φ : Oc → Prop} {De : Ends} {d : D} {v : V} {ds : List D} {vs : List V} {fp : Nat → List Addr} {i j : Nat} {s : Slot}
variable {te : TE} {me : VE → M D}
theorem Rep.flat {fr fr' : Option Hp} (hs : flatD d = true) (kp : ∀ a vs, SqT K G a vs → SqT K G' a vs) (h : Rep K fr G d v) : Rep K fr' G' d v := by
  cases h with
  | tup hq t => exact .tup (kp _ _ hq) (RepA.scalars (fun x hx => List.all_eq_true.mp hs x hx) t)
  | non => exact .non
  | bl b => exact .bl b
  | int i => exact .int i
  | str i => exact .str i
  | ty n => exact .ty n
  | fn a => exact .fn a
  | lst _ _ _ => cases hs
  | ins _ _ _ => cases hs
  | pool _ _ => cases hs
  | scr _ _ _ => cases hs
  | dct _ _ _ _ => cases hs
  | dctT _ _ _ _ => cases hs
  | _ => cases hs
def ownE (ρ : Env) (i j : Nat) (d2 : D) : D → M Oc
  | .lst ds => grd (ds.all scalarD = true) (ret (.nx ((ρ.set i (.ow none true ds)).set j (.sh true d2))))
  | d1 => grd (scalarD d1 = true) (ret (.nx ((ρ.set i (.sh true d1)).set j (.sh true d2))))
@[simp] theorem ownE_lst (i j : Nat) (d2 : D) : ownE ρ i j d2 (.lst ds) = grd (ds.all scalarD = true) (ret (.nx ((ρ.set i (.ow none true ds)).set j (.sh true d2)))) := id rfl
@[simp] theorem ownE_non (i j : Nat) (d2 : D) : ownE ρ i j d2 .non = grd (scalarD .non = true) (ret (.nx ((ρ.set i (.sh true .non)).set j (.sh true d2)))) := id rfl
theorem ownE_inv {d1 d2 : D} (h : ownE ρ i j d2 d1 Φ Ξ) : (∃ ds, d1 = .lst ds ∧ ds.all scalarD = true ∧ Φ (.nx ((ρ.set i (.ow none true ds)).set j (.sh true d2)))) ∨ (scalarD d1 = true ∧ Φ (.nx ((ρ.set i (.sh true d1)).set j (.sh true d2)))) := by
  cases d1 with
  | lst ds => exact .inl ⟨ds, rfl, h.1, h.2⟩
  | _ => exact .inr ⟨h.1, h.2⟩
/-- x, y = e -/
def sTO (i j : Nat) (me : VE → M D) : Env → M Oc := fun ρ => bnd (me (vB ρ)) fun d => bnd (opt (tup2 d)) fun p => grd (flatD p.2 = true) (ownE ρ i j p.2 p.1)
@[simp] theorem sTO_ap : sTO i j me ρ = bnd (me (vB ρ)) fun d => bnd (opt (tup2 d)) fun p => grd (flatD p.2 = true) (ownE ρ i j p.2 p.1) := id rfl
theorem r_asgTO {g : TG} (hg : XG K g [i, j] (gTupD 2 (gsCons gOne (gsCons gOne gsNil)))) (h : XE K EE true te me) : RS K EE fr (tAsg te g) (sTO i j me) := fun G0 H0 ρ σ G H fp De Φ Ξ gr st m k =>
  h H _ σ _ H _ Ξ (k.cvB gr st) m _ fun d v G1 H1 pm g r => by
    obtain ⟨⟨d1, d2⟩, e, hs2, pm'⟩ := M.opt_inv pm
    clear pm
    have e : d = .tup [d1, d2] := by
      unfold tup2 at e
      split at e
      · cases e; rfl
      · cases e
    subst e
    refine hg (some H) G1 H1 _ v [d1, d2] σ _ rfl r g.sub fun vs hl rs => ?_
    cases rs with
    | cons r1 rs =>
      rename_i v1 vs
      cases rs with
      | cons r2 rs =>
        rename_i v2 vs
        cases rs
        have g' := st.evB gr g
        rcases ownE_inv pm' with ⟨ds, rfl, hsc, pm2⟩ | ⟨hsc, pm2⟩
        · obtain ⟨p, vs, rfl, hf, hp, rs⟩ := r1.lst_inv
          have hpH : H p = none := hf
          have gc : Grow G H (fun a => if a = p then none else lessG fp ρ.length G1 a) H1 := ⟨⟨fun a o ha => by
              show (if a = p then none else lessG fp ρ.length G1 a) = some o
              rw [if_neg (fun z => by subst z; rw [fresh_back gr.sub hpH] at ha; cases ha)]; exact g'.e a o ha, gr.sub.n⟩, ⟨fun a o ha => by
              have ha : (if a = p then none else lessG fp ρ.length G1 a) = some o := ha
              split at ha
              · cases ha
              · exact g'.sub a o ha, fun a ps ha => by
              have ha : (if a = p then none else lessG fp ρ.length G1 a) = some (.tbl ps) := ha
              split at ha
              · cases ha
              · exact g'.sub.n a ps ha⟩, g'.ext, fun a h1 h2 => by
              have h2 : (if a = p then none else lessG fp ρ.length G1 a) ≠ none := h2
              split at h2
              · exact (h2 rfl).elim
              · rename_i hz; exact (g'.new a h1 h2).imp id fun ⟨q, e⟩ => ⟨q, (if_neg hz).trans e⟩⟩
          have kp : ∀ a vs, SqT K G1 a vs → SqT K (fun a => if a = p then none else lessG fp ρ.length G1 a) a vs := fun a vs hs => by
            have one : ∀ o, G1 a = some o → isFr o = false → (fun a => if a = p then none else lessG fp ρ.length G1 a) a = some o := fun o ho hf => by
              show (if a = p then none else lessG fp ρ.length G1 a) = some o
              rw [if_neg (fun z => by
                subst z
                rw [hp] at ho; cases ho; cases hf)]
              exact st.cutG g a o ho fun z => by rw [hf] at z; cases z
            rcases hs with (h1 | ⟨o, h1⟩) | h1
            · exact .inl (.inl (one _ h1 rfl))
            · exact .inl (.inr ⟨o, one _ h1 rfl⟩)
            · exact .inr h1
          obtain ⟨fp', s'⟩ := (st.grow gc).setOw (i := i) (f := true) (g.sub _ _ hp) (gr.ext.f _ hpH) (show (if p = p then none else lessG fp ρ.length G1 p) = none from if_pos rfl) (st.newP hpH) (RepA.scalars (fr' := frh true H0) (H' := fun a => if a = p then none else lessG fp ρ.length G1 a) (fun x hx => List.all_eq_true.mp hsc x hx) rs)
          exact k.nx _ _ _ H1 _ pm2 gc.e (gr.trans gc) (s'.setSh (i := j) (f := true) (r2.flat hs2 kp))
        · exact k.nx _ _ _ H1 _ pm2 g'.e (gr.trans g') (((st.grow g').setSh (i := i) (f := true) (r1.scalar hsc)).setSh (i := j) (f := true) (st.repB gr g r2))
end
end VL

/-! VM32: x = xs[e] and xs[e] = x for a list of one's own, x of any kind. -/
namespace VL
open PySem PySem.Spec PyProof.Rows L2
open M (ret bnd nope grd exn opt drw hdl anyA)
section
variable [Tbl] {K : Fr} {EE : XK} {fr f f1 : Bool} {H0 G0 : Hp} {ρ ρ' : Env} {σ : L2.St} {G G' H H' G1 H1 : Hp} {Ξ : Exn → Prop} {Φ : Oc → Prop} {De : Ends} {d : D} {v : V} {ds : List D} {vs : List V} {fp : Nat → List Addr} {i j : Nat} {s : Slot}
variable {te ti tk : TE} {me mi' mk : VE → M D}
def sIx (i j : Nat) (mk : VE → M D) : Env → M Oc := fun ρ => bnd (opt (getO ρ j)) fun p => bnd (mk (vB ρ)) fun x => bnd (opt (tIn x)) fun k => bnd (opt (atI p.2.2 k)) fun d => ret (.nx (ρ.set i (.sh p.2.1 d)))
@[simp] theorem sIx_ap : sIx i j mk ρ = bnd (opt (getO ρ j)) fun p => bnd (mk (vB ρ)) fun x => bnd (opt (tIn x)) fun k => bnd (opt (atI p.2.2 k)) fun d => ret (.nx (ρ.set i (.sh p.2.1 d))) := id rfl
theorem r_asgIx (hk : XE K EE false tk mk) : RS K EE fr (tAsg (tOp (rIxU K) (tVar j) tk) (gName i)) (sIx i j mk) := fun G0 H0 ρ σ G H fp De Φ Ξ gr st m k => by
  obtain ⟨⟨ad, f, ds⟩, e, m⟩ := M.opt_inv m
  have hO := getO_inv e
  obtain ⟨p, vs, hv, hp, rs, h0, hg, _⟩ := st.put gr.sub.self hO
  refine ⟨.ref p, hv, hk H _ σ _ H _ Ξ (k.cvB gr st) m _ fun x w G2 H2 pm g2 r2 => ?_⟩
  obtain ⟨kk, ek, pm⟩ := M.opt_inv pm
  obtain ⟨d, ed, pm⟩ := M.opt_inv pm
  rw [tIn_inv ek] at r2
  cases r2
  have g' := st.evB gr g2
  have st1 := st.grow g'
  obtain ⟨p', vs', hv', hp', rs', h0', hg', _⟩ := st1.put g'.sub.self hO
  rw [hv] at hv'; cases hv'
  obtain ⟨n, hn, hvv⟩ := atI_len (ys := vs') rs'.length ed
  obtain ⟨w, hw, rw'⟩ := rs'.get hn
  exact .inl (.inl ⟨p, vs', _, w, rfl, rfl, SqL.of hp', hvv w hw, k.nx _ _ _ _ _ pm g'.e (gr.trans g') (st1.setSh rw')⟩)
def sSetA (f2 : Bool) (i : Nat) (mi me : VE → M D) : Env → M Oc := fun ρ => bnd (me (vA ρ)) fun d => bnd (opt (getO ρ i)) fun p => bnd (mi (vB ρ)) fun x => bnd (opt (tIn x)) fun j => bnd (opt (ixN p.2.2.length j)) fun k => ret (.nx (ρ.set i (.ow p.1 (p.2.1 && f2) (p.2.2.set k d))))
@[simp] theorem sSetA_ap (f2 : Bool) {mi me : VE → M D} : sSetA f2 i mi me ρ = bnd (me (vA ρ)) fun d => bnd (opt (getO ρ i)) fun p => bnd (mi (vB ρ)) fun x => bnd (opt (tIn x)) fun j => bnd (opt (ixN p.2.2.length j)) fun k => ret (.nx (ρ.set i (.ow p.1 (p.2.1 && f2) (p.2.2.set k d)))) := id rfl
theorem r_setA {f2 : Bool} (h : XE K EE f2 te me) (hi : XE K EE false ti mi') : RS K EE fr (tAsg te (gSub (tVar i) ti rSetL)) (sSetA f2 i mi' me) := fun G0 H0 ρ σ G H fp De Φ Ξ gr st m k =>
  h H0 _ σ G H _ Ξ (k.cvA gr st) m _ fun d v G1 H1 pm g1 r => by
    obtain ⟨⟨ad, f, ds⟩, e, pm⟩ := M.opt_inv pm
    have hO := getO_inv e
    have gr1 := gr.trans g1
    have st1 := st.grow g1
    have k1 := k.on g1.e
    obtain ⟨p, vs, hv, hp, rs, h0, hg, _⟩ := st1.put g1.sub.self hO
    refine ⟨.ref p, hv, hi H1 _ σ _ H1 _ Ξ (k1.cvB gr1 st1) pm _ fun x w G2 H2 pm2 g2 r2 => ?_⟩
    obtain ⟨j, ej, pm2⟩ := M.opt_inv pm2
    obtain ⟨kk, ek, pm2⟩ := M.opt_inv pm2
    rw [tIn_inv ej] at r2
    have g2' := st1.evB gr1 g2
    have st2 := st1.grow g2'
    obtain ⟨p', vs', hv', hp', rs', h0', hg', put⟩ := st2.put g2'.sub.self hO
    rw [hv] at hv'; cases hv'
    refine ⟨p, vs', j, kk, rfl, r2.int_inv, hp', by rw [← rs'.length]; exact ek, ?_⟩
    exact k1.nx _ _ _ _ _ pm2 g2'.e ((gr1.trans g2').put h0 hg' (by rw [hp']; rfl)) (put _ _ _ (rs'.weak.set _ (r.mono g2'.e).weak'))
end
end VL

/-! VM33: plain tools: slices, entries. -/
namespace VL
open PySem PySem.Spec PyProof.Rows L2
open M (ret bnd nope grd exn opt drw)
@[simp] theorem calm_bnd2 {α β : Type} (m : M α) (k : α → M β) : calm (bnd m k) = bnd (calm m) fun a => calm (k a) := id rfl
section
variable {α β : Type}
theorem cutD_to {α : Type} {xs : List α} {k : Nat} (h : k ≤ xs.length) : cutD xs none (some (k : Int)) = xs.take k := by
  unfold cutD
  have e1 : HT.sIx xs.length 0 none = 0 := by unfold HT.sIx; rfl
  have e2 : HT.sIx xs.length xs.length (some (k : Int)) = k := by
    have hk : ¬ ((k : Int) < 0) := by omega
    unfold HT.sIx; simp only [if_neg hk]; omega
  rw [e1, e2, List.drop_zero, Nat.sub_zero]
theorem cutD_from {α : Type} {xs : List α} {k : Nat} (h : k ≤ xs.length) : cutD xs (some (k : Int)) none = xs.drop k := by
  unfold cutD
  have e1 : HT.sIx xs.length xs.length none = xs.length := by unfold HT.sIx; rfl
  have e2 : HT.sIx xs.length 0 (some (k : Int)) = k := by
    have hk : ¬ ((k : Int) < 0) := by omega
    unfold HT.sIx; simp only [if_neg hk]; omega
  rw [e1, e2, List.take_of_length_le (by rw [List.length_drop]; exact Nat.le_refl _)]
theorem perm_pick {α : Type} {xs : List α} {k : Nat} {x : α} (h : xs[k]? = some x) : (x :: (xs.take k ++ xs.drop (k + 1))).Perm xs := by
  have e : xs = xs.take k ++ x :: xs.drop (k + 1) := by
    have hk := (List.getElem?_eq_some_iff.mp h)
    obtain ⟨hl, he⟩ := hk
    rw [← he, ← List.drop_eq_getElem_cons hl, List.take_append_drop]
  have z : (x :: (xs.take k ++ xs.drop (k + 1))).Perm (xs.take k ++ x :: xs.drop (k + 1)) := List.perm_middle.symm
  rw [← e] at z
  exact z
theorem cutI_to {xs : List α} {i : Int} (h0 : 0 ≤ i) (h : i ≤ xs.length) : cutD xs none (some i) = xs.take i.toNat := by
  have := cutD_to (xs := xs) (k := i.toNat) (by omega)
  rwa [show ((i.toNat : Nat) : Int) = i by omega] at this
theorem cutI_from {xs : List α} {i : Int} (h0 : 0 ≤ i) : cutD xs (some i) none = xs.drop i.toNat := by
  unfold cutD
  have e1 : HT.sIx xs.length xs.length none = xs.length := by unfold HT.sIx; rfl
  have e2 : HT.sIx xs.length 0 (some i) = min i.toNat xs.length := by
    have hk : ¬ (i < 0) := by omega
    unfold HT.sIx
    simp only [if_neg hk]
  rw [e1, e2]
  by_cases h : i.toNat ≤ xs.length
  · rw [Nat.min_eq_left h, List.take_of_length_le (by rw [List.length_drop]; exact Nat.le_refl _)]
  · rw [Nat.min_eq_right (by omega), List.drop_eq_nil_of_le (Nat.le_refl _), List.drop_eq_nil_of_le (by omega)]; simp
theorem atI_map [Tbl] {c : α → D} {xs : List α} {i : Int} (h0 : 0 ≤ i) (h1 : i < xs.length) : ∃ x, xs[i.toNat]? = some x ∧ atI (xs.map c) i = some (c x) := by
  have hl : i.toNat < xs.length := by omega
  refine ⟨xs[i.toNat], List.getElem?_eq_getElem hl, atI_get h0 ?_⟩
  rw [List.getElem?_map, List.getElem?_eq_getElem hl]; rfl
/-- how many numbers in all rows -/
def tot (rs : List (List Int)) : Nat := rs.flatten.length
theorem tot_nil : tot [] = 0 := rfl
theorem tot_cons (r : List Int) (rs : List (List Int)) : tot (r :: rs) = r.length + tot rs := by
  unfold tot; rw [List.flatten_cons, List.length_append]
theorem tot_append (a b : List (List Int)) : tot (a ++ b) = tot a + tot b := by
  unfold tot; rw [List.flatten_append, List.length_append]
theorem tot_pick {rs : List (List Int)} {k : Nat} {r : List Int} (h : rs[k]? = some r) : tot (rs.take k) + r.length + tot (rs.drop (k + 1)) = tot rs := by
  obtain ⟨hl, he⟩ := List.getElem?_eq_some_iff.mp h
  have e : rs = rs.take k ++ r :: rs.drop (k + 1) := by
    rw [← he, ← List.drop_eq_getElem_cons hl, List.take_append_drop]
  conv => rhs; rw [e]
  rw [tot_append, tot_cons]; omega
theorem tot_set {rs : List (List Int)} {k : Nat} {r q : List Int} (h : rs[k]? = some r) : tot (rs.set k q) + r.length = tot rs + q.length := by
  obtain ⟨hl, he⟩ := List.getElem?_eq_some_iff.mp h
  have := tot_pick h
  rw [List.set_eq_take_append_cons_drop, if_pos hl, tot_append, tot_cons]
  omega
theorem tot_row {rs : List (List Int)} {k : Nat} {r : List Int} (h : rs[k]? = some r) : r.length ≤ tot rs := by
  have := tot_pick h; omega
theorem Ok.forX0 {is : List Nat} {b : D → Option (List D)} {m : Env → M Oc} {k : Oc → M β} {Q : β → Prop} (I : Nat → Env → Prop) : ∀ {xs : List D} {n : Nat} {ρ : Env}, I n ρ → (∀ i x ρ, xs[i]? = some x → I (n + i) ρ → ∃ ds, b x = some ds ∧ Ok (m (setEnv false ρ is ds)) fun o => match o with
    | .nx ρ' => I (n + i + 1) ρ'
    | .ct ρ' => I (n + i + 1) ρ'
    | .bk ρ' => Ok (k (.nx ρ')) Q
    | .rt ρ' d => Ok (k (.rt ρ' d)) Q) → (∀ ρ', I (n + xs.length) ρ' → Ok (k (.nx ρ')) Q) → Ok (M.bnd (forGo is b m xs ρ) k) Q
  | [], n, ρ, h, _, hd => hd ρ h
  | x :: xs, n, ρ, h, hs, hd => by
    obtain ⟨ds, e, o⟩ := hs 0 x ρ rfl h
    have ih := fun ρ' (h' : I (n + 1) ρ') => Ok.forX0 I (xs := xs) (n := n + 1) (ρ := ρ') h' (fun i y ρ hy hI => by
      have := hs (i + 1) y ρ hy (by rw [show n + (i + 1) = n + 1 + i by omega]; exact hI)
      rw [show n + (i + 1) + 1 = n + 1 + i + 1 by omega] at this
      exact this) (fun ρ' h' => hd ρ' (by rw [List.length_cons, show n + (xs.length + 1) = n + 1 + xs.length by omega]; exact h'))
    show Ok (M.bnd (M.bnd (M.opt (b x)) _) k) _
    rw [e, M.opt_some, M.bnd_ret, M.bnd_bnd]
    refine Ok.bnd o fun o ho => ?_
    cases o with
    | nx ρ' => exact ih ρ' ho
    | ct ρ' => exact ih ρ' ho
    | bk ρ' => exact ho
    | rt ρ' d => exact ho
theorem Ok.forX {is : List Nat} {b : D → Option (List D)} {m : Env → M Oc} {k : Oc → M β} {Q : β → Prop} (I : Nat → Env → Prop) {xs : List D} {ρ : Env} (h : I 0 ρ) (hs : ∀ i x ρ, xs[i]? = some x → I i ρ → ∃ ds, b x = some ds ∧ Ok (m (setEnv false ρ is ds)) fun o => match o with
    | .nx ρ' => I (i + 1) ρ'
    | .ct ρ' => I (i + 1) ρ'
    | .bk ρ' => Ok (k (.nx ρ')) Q
    | .rt ρ' d => Ok (k (.rt ρ' d)) Q) (hd : ∀ ρ', I xs.length ρ' → Ok (k (.nx ρ')) Q) : Ok (M.bnd (forGo is b m xs ρ) k) Q :=
  Ok.forX0 I (n := 0) h (fun i x ρ hx hI => by
    have := hs i x ρ hx (by rwa [Nat.zero_add] at hI)
    simpa only [Nat.zero_add] using this) fun ρ' h' => hd ρ' (by rwa [Nat.zero_add] at h')
@[simp] theorem vBs_sh (f : Bool) (d : D) : vBs (.sh f d) = some (false, d) := id rfl
@[simp] theorem vBs_ow (a : Option Addr) (f : Bool) (ds : List D) : vBs (.ow a f ds) = some (false, .lst ds) := id rfl
@[simp] theorem vBs_rw (rows : List (List D)) : vBs (.rw rows) = some (false, .lst (rows.map .lst)) := id rfl
@[simp] theorem vBs_un : vBs .un = none := id rfl
@[simp] theorem vBs_jt (b : Nat) (d : D) : vBs (.jk true b d) = some (false, d) := id rfl
@[simp] theorem vBs_jf (b : Nat) (d : D) : vBs (.jk false b d) = none := id rfl
@[simp] theorem vAs_sh (f : Bool) (d : D) : vAs (.sh f d) = some (f, d) := id rfl
@[simp] theorem vAs_ow (a : Option Addr) (f : Bool) (ds : List D) : vAs (.ow a f ds) = none := id rfl
@[simp] theorem vAs_rw (rows : List (List D)) : vAs (.rw rows) = none := id rfl
@[simp] theorem vAs_un : vAs .un = none := id rfl
@[simp] theorem vAs_jk (ex : Bool) (b : Nat) (d : D) : vAs (.jk ex b d) = none := id rfl
theorem get_map {c : α → D} {xs : List α} {i : Nat} {x : D} (h : (xs.map c)[i]? = some x) : ∃ z, xs[i]? = some z ∧ c z = x := by
  rw [List.getElem?_map] at h
  cases q : xs[i]? with
  | none => rw [q] at h; cases h
  | some z => rw [q] at h; exact ⟨z, rfl, Option.some.inj h⟩
end
end VL

/-! VM34: patterns of targets. -/
namespace VL
open PySem PySem.Spec PyProof.Rows L2
open M (ret bnd nope grd exn opt drw)
section
@[simp] theorem pat2 (a b : D) : gTupD 2 (gsCons gOne (gsCons gOne gsNil)) (.tup [a, b]) = some [a, b] := id rfl
@[simp] theorem pat3 (a b c : D) : gTupD 3 (gsCons gOne (gsCons gOne (gsCons gOne gsNil))) (.tup [a, b, c]) = some [a, b, c] := id rfl
@[simp] theorem pat12 (a b c : D) : gTupD 2 (gsCons gOne (gsCons (gTupD 2 (gsCons gOne (gsCons gOne gsNil))) gsNil)) (.tup [a, .tup [b, c]]) = some [a, b, c] := id rfl
theorem toPs_ints : ∀ ns : List Int, toPs (ns.map D.int) = some (ns.map PyData.int)
  | [] => rfl
  | n :: ns => by
    rw [List.map_cons, toPs, toPs_ints ns]
    rfl
theorem toPs_rows : ∀ rs : List (List Int), toPs (rs.map blockD) = some (rs.map fun r => PyData.list (r.map PyData.int))
  | [] => rfl
  | r :: rs => by
    rw [List.map_cons, toPs, toPs_rows rs, blockD, toP, toPs_ints]
    rfl
theorem lay_ints : ∀ ns : List Int, PyData.canLayAll0 (ns.map PyData.int) = true
  | [] => rfl
  | n :: ns => by rw [List.map_cons, PyData.canLayAll0, lay_ints ns]; rfl
theorem lay_rows : ∀ rs : List (List Int), PyData.canLayAll0 (rs.map fun r => PyData.list (r.map PyData.int)) = true
  | [] => rfl
  | r :: rs => by rw [List.map_cons, PyData.canLayAll0, lay_rows rs, PyData.canLay0, lay_ints r]; rfl
theorem dep_ints : ∀ ns : List Int, PyData.depthAll (ns.map PyData.int) = 0
  | [] => rfl
  | n :: ns => by rw [List.map_cons, PyData.depthAll, dep_ints ns]; rfl
theorem dep_rows : ∀ rs : List (List Int), PyData.depthAll (rs.map fun r => PyData.list (r.map PyData.int)) ≤ 1
  | [] => by show 0 ≤ 1; omega
  | r :: rs => by
    have := dep_rows rs
    rw [List.map_cons, PyData.depthAll, PyData.depth, dep_ints]
    omega
theorem eqB_rows (rs : List (List Int)) : eqB (rowsD rs) (rowsD rs) = some true := by
  have e : toP (rowsD rs) = some (.list (rs.map fun r => PyData.list (r.map PyData.int))) := by rw [rowsD, toP, toPs_rows]; rfl
  have hc : PyData.canLay0 (.list (rs.map fun r => PyData.list (r.map PyData.int))) = true := lay_rows rs
  have hs : SeqAt.shaped (.list (rs.map fun r => PyData.list (r.map PyData.int))) = true := by
    unfold SeqAt.shaped
    rw [hc, Bool.true_and, decide_eq_true_iff, PyData.depth]
    have := dep_rows rs
    omega
  show eqP (rowsD rs) (rowsD rs) = some true
  unfold eqP
  rw [e]
  simp only
  rw [if_pos ⟨hs, hs⟩, SeqAt.eqv_refl _ hc]
theorem neD_rows (rs : List (List Int)) : neD (rowsD rs) (rowsD rs) = some (.bl false) := by unfold neD; rw [eqB_rows]; rfl
theorem eqD_rows (rs : List (List Int)) : eqD (rowsD rs) (rowsD rs) = some (.bl true) := by unfold eqD; rw [eqB_rows]; rfl
end
end VL

/-! VM35: closures: a lambda that keeps one name of the def that returns it. -/
namespace VL
open PySem PySem.Spec PyProof.Rows L2
open M (ret bnd nope grd exn opt drw)
open LamX (CodeO TabB ExtN inv_table codeO_ne) 
open NdefX (TabN TabsN NTab among_app2 upd_none)
section
variable {X : Cx} {pins : List (Addr × Obj)} {σ : L2.St} {H : Hp} {s : Shared}
theorem inv_fnL {F : LF} {o : Obj} {t' : Nat} {pm ctv : Value} (I : Inv X pins σ H s) (ho : o = PySem.W.kla_obj "<lambda>" F.qual F.params F.body F.scope F.cl pm F.c ctv) :
    Inv X pins σ (upd H s.heap.objs.size (FnL s.heap.objs.size F)) { s with heap := s.heap.push o, toks := t' } := by
  subst ho
  refine I.laid (a := s.heap.objs.size) (fun b u e => Heap.get?_push_of_some _ e) (Nat.le_refl _) ?_
  have e : (s.heap.push (PySem.W.kla_obj "<lambda>" F.qual F.params F.body F.scope F.cl pm F.c ctv)).get? s.heap.objs.size = some (PySem.W.kla_obj "<lambda>" F.qual F.params F.body F.scope F.cl pm F.c ctv) := Heap.get?_push_size _ rfl
  exact ⟨⟨pm, ctv, e⟩, ⟨_, e⟩, fun h1 h2 ⟨p, t, z⟩ st => ⟨p, t, st _ z⟩⟩
theorem lam_makeN {T : List NTab} {nm : Nat → Nat → Str} {c P : Addr} {params : Arguments} {body : Expr} {scope : Scope} {pos : Pos} {E : Value → Shared → Prop} {Q : Value → Shared → Prop} (I : Inv X pins σ H s) (TB : TabB X.base X.mg c P) (hcode : X.env.code = .ref c)
    (hm : (P, nm) ∈ T) (hn : nm pos.line pos.col = X.env.qual ++ "<lambda>") (hu : ∀ p ∈ T, p.1 = P → p.2 = nm) (hT : TabsN T H) (hdef : defaultsOf params X.env = ([], [])) (hfree : ∀ y ∈ scope.names, y.2 = .free → ∃ c, X.env.cells.lookup y.1 = some c)
    (h : ∀ (f c' : Addr) (H1 : Hp) (s' : Shared), Inv X pins σ H1 s' → ExtN H H1 → (∀ b, H1 b = Option.none → H b = Option.none) → TabsN T H1 → H f = none → H1 f = some (FnL f ⟨X.env.qual ++ "<lambda>", params, body, scope, cloFrom X.env.cells scope.names [], c'⟩) → H1 c' = some (CodeO c' (X.env.qual ++ "<lambda>")) → Q (.ref f) s') :
    wpAny (model X.prog X.w) X.A (eval (.Lambda params body scope pos) X.env) Q E s := by
  obtain ⟨ps, hP, ht, ha⟩ := (show TabN H P nm from hT _ hm)
  refine PySem.W.kla_eval hdef ?_
  have bP : s.heap.BuiltinsAt X.mg P := TB.bm.keeps I.bk
  have hP' : s.heap.get? P = some { cls := .none, data := .fields ps } := I.hok P _ hP
  cases hc : codeAmong pos ps.toList with
  | none =>
    refine PySem.W.kla_makeFunction (mg := X.mg) (c := c) (P := P) (ps := ps) (closure_ok hfree) I.ok.glob (I.mod.glob.keeps I.bk) hcode (TB.code.keeps I.bk) hP' ht hc TB.gP bP fun c' ctv h' tk hx hge hlt hrec htb => ?_
    obtain ⟨c2, oc, vs, t, e2, hoc, hd, hv⟩ := hrec
    cases e2
    have nC : H c' = none := I.hok.fresh hge
    have I1 := inv_table (t' := tk) (more := #[rawInt pos.line, rawInt pos.col, .ref c']) (h' := h') I hP (fun b o hb e => hx b o hb e) htb hge ⟨oc, vs, t, hoc, hd, hv⟩
    have hE : ExtN H (upd (upd H P (.tbl (ps ++ #[rawInt pos.line, rawInt pos.col, .ref c']))) c' (CodeO c' (X.env.qual ++ "<lambda>"))) := fun b o e n => by
      rw [upd_ne (ne_of_none e nC), upd_ne (fun z => n ps (Option.some.inj (e.symm.trans (by rw [z]; exact hP))))]
      exact e
    have eL : (ps ++ #[rawInt pos.line, rawInt pos.col, .ref c']).toList = ps.toList ++ [rawInt pos.line, rawInt pos.col, .ref c'] := by simp
    have T1 : TabsN T (upd (upd H P (.tbl (ps ++ #[rawInt pos.line, rawInt pos.col, .ref c']))) c' (CodeO c' (X.env.qual ++ "<lambda>"))) := fun p hp => by
      by_cases hb : p.1 = P
      · rw [hu p hp hb, hb]
        refine ⟨_, by rw [upd_ne (ne_of_none hP nC), upd_same], by rw [eL]; exact PySem.TriplesOk_snoc _ _ _ _ ht, fun p' cv hcv => ?_⟩
        rw [eL] at hcv
        rcases among_app2 _ ht hcv with z | ⟨z, z1, z2⟩
        · obtain ⟨c0, e1, e2⟩ := ha p' cv z
          exact ⟨c0, e1, hE _ _ e2 codeO_ne⟩
        · refine ⟨c', z, ?_⟩
          rw [← z1, ← z2, hn]
          exact upd_same
      · obtain ⟨ps', a1, a2, a3⟩ := hT p hp
        refine ⟨ps', by rw [upd_ne (ne_of_none a1 nC), upd_ne hb]; exact a1, a2, fun p' cv hcv => ?_⟩
        obtain ⟨c0, e1, e2⟩ := a3 p' cv hcv
        exact ⟨c0, e1, hE _ _ e2 codeO_ne⟩
    have nF := I1.hok.fresh (Nat.le_refl _)
    have I2 := inv_fnL (F := ⟨X.env.qual ++ "<lambda>", params, body, scope, cloFrom X.env.cells scope.names [], c'⟩) (t' := tk) (pm := (X.mg "__name__").getD .none) (ctv := ctv) I1 rfl
    refine h h'.objs.size c' _ _ I2 (fun b o e n => ?_) (fun b e => upd_none (upd_none (upd_none e))) (T1.ext fun b o e => ?_) (I.hok.fresh (Nat.le_trans hge (Nat.le_of_lt hlt))) upd_same ?_
    · have e1 := hE b o e n
      exact (upd_ne (ne_of_none e1 nF)).trans e1
    · exact (upd_ne (ne_of_none e nF)).trans e
    · exact (upd_ne (Nat.ne_of_lt hlt)).trans upd_same
  | some cv =>
    obtain ⟨c', e, hco⟩ := ha pos cv hc
    subst e
    rw [hn] at hco
    refine PySem.W.kla_makeFunctionHit (mg := X.mg) (c := c) (P := P) (ps := ps) (closure_ok hfree) I.ok.glob (I.mod.glob.keeps I.bk) hcode (TB.code.keeps I.bk) hP' ht hc bP fun ctv h' tk hx hsz => ?_
    have I1 : Inv X pins σ H { s with heap := h', toks := tk } := I.kept hx
    have nF : H h'.objs.size = none := I1.hok.fresh (Nat.le_refl _)
    have I2 := inv_fnL (F := ⟨X.env.qual ++ "<lambda>", params, body, scope, cloFrom X.env.cells scope.names [], c'⟩) (t' := tk) (pm := (X.mg "__name__").getD .none) (ctv := ctv) I1 rfl
    refine h h'.objs.size c' _ _ I2 (fun b o e n => ?_) (fun b e => upd_none e) (hT.ext fun b o e => ?_) nF upd_same ?_
    · exact (upd_ne (ne_of_none e nF)).trans e
    · exact (upd_ne (ne_of_none e nF)).trans e
    · exact (upd_ne (ne_of_none hco nF)).trans hco
end
mutual
/-- data that no closure, no pool and no object of an own class is in -/
def cleanD : D → Bool
  | .non => true | .bl _ => true | .int _ => true | .str _ => true | .ty _ => true | .fn _ => true
  | .lst ds => cleanDs ds
  | .tup ds => cleanDs ds
  | _ => false
def cleanDs : List D → Bool
  | [] => true
  | d :: ds => cleanD d && cleanDs ds
end
/-- the closure of kind kk over its one value -/
def cloF (kk : Nat) : List D → M D
  | [d] => ret (.clo kk d)
  | _ => nope
@[simp] theorem cloF_eq (kk : Nat) (d : D) : cloF kk [d] = ret (.clo kk d) := id rfl
section
variable [Tbl] {P : Program} {w : World} {K : Fr} {mg : Str → Option Value} {base : Heap}
/-- a def of one name that returns a lambda that keeps it -/
theorem clo_ok {x qual pn : Str} {st : Stmt} {f : Addr} {fd : FuncData} {k kk : Nat} {p3 pos : Pos} {params : Arguments} {body : Expr} {scope : Scope} {c PT : Addr} {nm : Nat → Nat → Str}
    (F : L2.Fun K x qual st f fd) (S : FnScope [pn] [pn] (defScope st)) (hcell : (defScope st).names.lookup pn = some .cell)
    (hbody : defBody st = [.Return (some (.Lambda params body scope pos)) p3])
    (hcd : fd.code = .ref c) (TB : TabB base mg c PT) (hm : (PT, nm) ∈ Tbl.T) (hq : nm pos.line pos.col = (qual ++ ".<locals>.") ++ "<lambda>") (hu : ∀ p ∈ Tbl.T, p.1 = PT → p.2 = nm)
    (hdef : ∀ env, defaultsOf params env = ([], [])) (hfree : ∀ y ∈ scope.names, y.2 = .free → y.1 = pn)
    (hclo : ∀ (cells : List (Str × Addr)) (a : Addr), cells.lookup pn = some a → cloFrom cells scope.names [] = [(pn, a)])
    (hk : ∀ a a', Tbl.clo kk a a' = ⟨(qual ++ ".<locals>.") ++ "<lambda>", params, body, scope, [(pn, a)], a'⟩) :
    FnOk P w K mg base C8.CX0 (k + 1) f fd [pn] (spC K false 1 (cloF kk)) := by
  obtain ⟨oc, od, kV, doc, pm, an, cdv, ct, osl, rfl, lk, hcdi⟩ := F.ex
  have hcd : cdv = .ref c := hcd
  refine ⟨fun vs H Q E h => ?_, fun A outer s H args us vs Q E hr e0 hb r hsp => ?_⟩
  · obtain ⟨ds, G, Φ, e, r, hl, _⟩ := h
    rw [← r.length, hl]; rfl
  obtain ⟨ds, G, Φ, e, ra, hl, hm2, tb, q⟩ := hsp
  obtain ⟨d, rfl⟩ : ∃ d, ds = [d] := by
    match ds, hl with
    | [d], _ => exact ⟨d, rfl⟩
  obtain ⟨v0, rfl, r0⟩ := ra.one
  have hl : [v0].length = [pn].length := rfl
  have KX : K.In s.heap := e0.mod.kin.keeps fun b o e => (e0.bs b o e).1
  have lim : s.heap.NoLimit := e0.mod.nolimit.keeps fun b o e => (e0.bs b o e).1
  have hkind : ∀ y ∈ [pn].zip us, (defScope st).names.lookup y.1 = some .local ∨ ((defScope st).names.lookup y.1 = some .cell ∧ ((cellsFrom (s.heap.objs.size + 1) (defScope st).names []).lookup y.1).isSome = true) := fun ⟨n, v⟩ hy => by
    rcases S.par n (List.of_mem_zip hy).1 with q | q
    · exact .inl q
    · exact .inr ⟨q, PySem.W.cellsFrom_some _ _ _ (.inl q)⟩
  refine codeAny_call_function hr.depth (KX _ _ lk) rfl S.co S.gen rfl (PySem.W.codeRec_of KX hcdi) (hb _ _ _ _ ?_)
  refine wpAny_newFunctionEnv_cells S.kind hkind fun env he s1 x1 => ?_
  subst he
  refine ⟨lim.keeps x1.toInCall.keep, codeAny_func ?_⟩
  have I : Inv (cxOf C8.CX0 P w K mg base [pn] qual (defScope st) f cdv A outer s H E) [] (start [pn] [v0]) H s1 := inv_start S hr.hd e0 hl r x1
  show wpAny _ _ (execs (defBody st) _) _ _ _
  rw [hbody]
  obtain ⟨c0, hc0⟩ : ∃ c0, (cellsFrom (s.heap.objs.size + 1) (defScope st).names []).lookup pn = some c0 := cell_has hcell
  refine wpAny_execs_cons (wpAny_Return_some (lam_makeN (T := Tbl.T) (nm := nm) I TB hcd hm hq hu tb ?_ ?_ fun f' c' H1 s3 I3 eN nn T1 f0 f1 c1 => ?_))
  · exact hdef _
  · intro y hy e
    exact ⟨c0, by rw [hfree y hy e]; exact hc0⟩
  have hcl : cloFrom (cellsFrom (s.heap.objs.size + 1) (defScope st).names []) scope.names [] = [(pn, c0)] := hclo _ _ hc0
  have f1' : H1 f' = some (FnL f' (Tbl.clo kk c0 c')) := by
    rw [hk]
    have z : H1 f' = some (FnL f' ⟨(qual ++ ".<locals>.") ++ "<lambda>", params, body, scope, cloFrom (cellsFrom (s.heap.objs.size + 1) (defScope st).names []) scope.names [], c'⟩) := f1
    rw [hcl] at z
    exact z
  have c1' : H1 (Tbl.clo kk c0 c').c = some (CodeO (Tbl.clo kk c0 c').c (Tbl.clo kk c0 c').qual) := by rw [hk]; exact c1
  -- the cell's content
  obtain ⟨m, hns, hloc⟩ := I3.loc
  obtain ⟨u, ru, hlook⟩ := hloc 0 pn v0 rfl rfl (.inr (.inl hcell))
  have hic : s3.heap.IsCell c0 (some u) := by
    rcases hlook with ⟨z, _⟩ | ⟨_, c2, z1, z2⟩
    · have z : (defScope st).names.lookup pn = some .local := z
      rw [hcell] at z; cases z
    · have z1 : (cellsFrom (s.heap.objs.size + 1) (defScope st).names []).lookup pn = some c2 := z1
      rw [hc0] at z1; cases z1; exact z2
  have n0 : H1 c0 = none := I3.freeC pn c0 hc0
  have h0 : s.heap.objs.size ≤ c0 := I3.ok.cab pn c0 rfl hc0
  have hgc : ∀ b o, s.heap.get? b = some o → b ≠ c0 := fun b o z y => by
    have := Heap.lt_size z
    rw [y] at this
    exact Nat.lt_irrefl _ (Nat.lt_of_lt_of_le this h0)
  have un : Un (frs outer) [] H H1 s.heap s3.heap := I3.base
  have ne : ∀ b, b ≠ c0 → upd H1 c0 (CellO c0 v0) b = H1 b := fun b hb => upd_ne hb
  have gH0 : H c0 = none := nn _ n0
  refine ⟨.ref f', upd H1 c0 (CellO c0 v0), I3.os, I3.bare, ⟨un.keep, un.slot, fun b o z n hx => ?_, un.there, fun b xs z => ?_, fun b o u z => ?_, fun b ps z => ?_⟩, ?_, rfl, ?_⟩
  · rw [ne b (hgc b o z)]; exact un.free b o z n hx
  · have := un.tups b xs z
    rw [ne b (fun y => by rw [y, n0] at this; cases this)]; exact this
  · have := un.frzs b o u z
    rw [ne b (fun y => by rw [y, n0] at this; cases this)]; exact this
  · obtain ⟨more, this⟩ := un.tbls b ps z
    exact ⟨more, by rw [ne b (fun y => by rw [y, n0] at this; cases this)]; exact this⟩
  · intro a o z
    by_cases ha : a = c0
    · subst ha
      rw [upd_same] at z; cases z
      obtain ⟨oc, g1, g2⟩ := hic
      exact ⟨⟨u, ru, oc, g1, g2⟩, ⟨oc, g1⟩, fun h1 h2 ⟨u', r', o', y1, y2⟩ k => ⟨u', r', o', k _ y1, y2⟩⟩
    · rw [ne a ha] at z
      exact (I3.hok a o z).stay (fun _ _ _ z => z) (fun b z => by rw [ne b (fun y => by rw [y, n0] at z; cases z)]; exact z) fun b xs z => by rw [ne b (fun y => by rw [y, n0] at z; cases z)]; exact z
  · -- what is known from here on
    have gf : G f' = none := fresh_back e f0
    have gc0 : G c0 = none := fresh_back e gH0
    have kc : ∀ o, G c' = some o → o = CodeO c' (Tbl.clo kk c0 c').qual := fun o z => by
      have z1 := eN _ _ (e _ _ z) (fun ps y => by rw [y] at z; exact e.n _ _ z)
      rw [hk] at c1'
      have c2 : H1 c' = some (CodeO c' ((qual ++ ".<locals>.") ++ "<lambda>")) := c1
      rw [c2] at z1; cases z1
      rw [hk]
    have hcc : (Tbl.clo kk c0 c').c = c' := by rw [hk]
    rw [hcc] at c1'
    have nfc : f' ≠ c' := fun y => by
      obtain ⟨⟨pm', ctv', y1⟩, _⟩ := (show ObjOk P w H1 s3.heap f' (FnL f' (Tbl.clo kk c0 c')) from I3.hok _ _ f1')
      obtain ⟨⟨oc', vs', t', y2, y3, _⟩, _⟩ := (show ObjOk P w H1 s3.heap c' (CodeO c' (Tbl.clo kk c0 c').qual) from I3.hok _ _ c1')
      rw [y, y2] at y1
      cases y1
      cases y3
    have nc0f : c0 ≠ f' := fun y => by rw [y] at n0; rw [f1'] at n0; cases n0
    have nc0c : c0 ≠ c' := fun y => by rw [y] at n0; rw [c1'] at n0; cases n0
    let G1 : Hp := upd G c' (CodeO c' (Tbl.clo kk c0 c').qual)
    have eG1 : Evl.Ex G G1 := fun a o z => by
      show upd G c' _ a = some o
      by_cases ha : a = c'
      · subst ha; rw [upd_same, kc o z]
      · rw [upd_ne ha]; exact z
    have nG1 : NoTbl G1 := e.n.upd (by intro _ z; cases z)
    have g1f : G1 f' = none := (upd_ne nfc).trans gf
    have g1c0 : G1 c0 = none := (upd_ne nc0c).trans gc0
    let G2 : Hp := upd G1 f' (FnL f' (Tbl.clo kk c0 c'))
    have nG2 : NoTbl G2 := nG1.upd (by intro _ z; cases z)
    have g2c0 : G2 c0 = none := (upd_ne nc0f).trans g1c0
    let G3 : Hp := upd G2 c0 (CellO c0 v0)
    have nG3 : NoTbl G3 := nG2.upd (by intro _ z; cases z)
    have e3 : Ex G G3 := ⟨eG1.trans ((Evl.Ex.new g1f).trans (Evl.Ex.new g2c0)), e.n⟩
    have s3' : Ex G3 (upd H1 c0 (CellO c0 v0)) := by
      refine ⟨fun a o z => ?_, nG3⟩
      have z : upd G2 c0 (CellO c0 v0) a = some o := z
      by_cases ha : a = c0
      · subst ha; rw [upd_same] at z ⊢; exact z
      rw [upd_ne ha] at z ⊢
      have z : upd G1 f' (FnL f' (Tbl.clo kk c0 c')) a = some o := z
      by_cases hb : a = f'
      · subst hb; rw [upd_same] at z; cases z; exact f1'
      rw [upd_ne hb] at z
      have z : upd G c' (CodeO c' (Tbl.clo kk c0 c').qual) a = some o := z
      by_cases hd : a = c'
      · subst hd; rw [upd_same] at z; cases z; exact c1'
      rw [upd_ne hd] at z
      exact eN _ _ (e _ _ z) fun ps y => by rw [y] at z; exact e.n _ _ z
    have x3 : ExN H (upd H1 c0 (CellO c0 v0)) := ⟨fun b o z n => by
        rw [ne b (fun y => by rw [y, gH0] at z; cases z)]; exact eN b o z n, fun b z => by
        unfold upd at z
        split at z
        · cases z
        · exact nn _ z, fun _ => T1.ext fun b o z => by rw [ne b (fun y => by rw [y, n0] at z; cases z)]; exact z⟩
    have c3 : G3 c' = some (CodeO c' (Tbl.clo kk c0 c').qual) := by
      show upd G2 c0 _ c' = _
      rw [upd_ne nc0c.symm]
      show upd G1 f' _ c' = _
      rw [upd_ne nfc.symm]
      exact upd_same
    refine q (.clo kk d) (.ref f') G3 _ hm2 ⟨e3, s3', x3, fun a h1 h2 => ?_⟩ (.clo ⟨c0, c', ?_, by rw [hcc]; exact c3, upd_same⟩ (r0.mono e3))
    · by_cases ha : a = c0
      · subst ha; exact .inl gH0
      by_cases hb : a = f'
      · subst hb; exact .inl f0
      by_cases hd : a = c'
      · subst hd; exact .inr ⟨_, c3⟩
      · exfalso
        apply h2
        show upd G2 c0 _ a = none
        rw [upd_ne ha]
        show upd G1 f' _ a = none
        rw [upd_ne hb]
        show upd G c' _ a = none
        rw [upd_ne hd]; exact h1
    · show upd G2 c0 _ f' = _
      rw [upd_ne nc0f.symm]
      exact upd_same
end
end VL

/-! VM36: a closure's call. -/
namespace VL
open PySem PySem.Spec PyProof.Rows L2
open M (ret bnd nope grd exn opt drw)
open LamX (CodeO TabB ExtN)
open NdefX (TabN TabsN NTab NScope NF CellsAt startF envF ncx inv_startN)
section
variable [Tbl] {K : Fr} {G G' : Hp}
mutual
/-- clean data lean on lists and tuples alone -/
theorem Rep.clean (k : ∀ a o, G a = some o → (∀ φ, o ≠ .ext φ) → G' a = some o) : ∀ {d : D} {v : V}, cleanD d = true → Rep K none G d v → Rep K none G' d v
  | _, _, _, .non => .non
  | _, _, _, .bl b => .bl b
  | _, _, _, .int b => .int b
  | _, _, _, .str b => .str b
  | _, _, _, .ty n => .ty n
  | _, _, _, .fn a => .fn a
  | .lst ds, _, hc, .lst hf h1 t => .lst hf (k _ _ h1 fun φ z => by cases z) (RepA.clean k (show cleanDs ds = true from hc) t)
  | .tup ds, _, hc, .tup h1 t => .tup (by
      rcases h1 with (h1 | ⟨o, h1⟩) | h1
      · exact .inl (.inl (k _ _ h1 fun φ z => by cases z))
      · exact .inl (.inr ⟨o, k _ _ h1 fun φ z => by cases z⟩)
      · exact .inr h1) (RepA.clean k (show cleanDs ds = true from hc) t)
  | .ins _ _ _, _, hc, _ => by cases hc
  | .pool, _, hc, _ => by cases hc
  | .scr, _, hc, _ => by cases hc
  | .dct _ _, _, hc, _ => by cases hc
  | .dctT _ _, _, hc, _ => by cases hc
  | .clo _ _, _, hc, _ => by cases hc
  | .at_ _ _, _, hc, _ => by cases hc
  | .exc _ _ _ _ _, _, hc, _ => by cases hc
theorem RepA.clean (k : ∀ a o, G a = some o → (∀ φ, o ≠ .ext φ) → G' a = some o) : ∀ {ds : List D} {vs : List V}, cleanDs ds = true → RepA K none G ds vs → RepA K none G' ds vs
  | _, _, _, .nil => .nil
  | d :: ds, _, hc, .cons r t => by
    have hc : (cleanD d && cleanDs ds) = true := hc
    rw [Bool.and_eq_true] at hc
    exact .cons (Rep.clean k hc.1 r) (RepA.clean k hc.2 t)
end
end
/-- what a lambda computes: its kept value ahead -/
def mLam (me : VE → M D) : List D → M D
  | d :: ds => me ((ds.map fun x => some (false, x)) ++ [some (false, d)])
  | [] => nope
@[simp] theorem mLam_ap (me : VE → M D) (d : D) (ds : List D) : mLam me (d :: ds) = me ((ds.map fun x => some (false, x)) ++ [some (false, d)]) := id rfl
/-- the promise of the closures of kind kk with n parameters -/
structure LOk [Tbl] (P : Program) (w : World) (K : Fr) (mg : Str → Option Value) (base : Heap) (k kk n : Nat) (mf : List D → M D) : Prop where
  run : ∀ (A : Around) (outer : List PySem.Env) (s : Shared) (H : Hp) (us : List Value) (vs : List V) (f c c' : Addr) (v0 : V) (ds : List D) (d : D) (G : Hp) (Φ : D → Prop) (Q : VK) (E : XK), Room k A → Env0 P w K mg base A outer s H →
    G f = some (FnL f (Tbl.clo kk c c')) → G (Tbl.clo kk c c').c = some (CodeO (Tbl.clo kk c c').c (Tbl.clo kk c c').qual) → G c = some (CellO c v0) → Ex G H → Rep K none G d v0 → RepA K none G ds vs → Vals vs us → ds.length = n → cleanD d = true → cleanDs ds = true → TabsN Tbl.T H →
    mf (d :: ds) Φ (fun _ => False) → (∀ d' v' G' H', Φ d' → Grow G H G' H' → Rep K none G' d' v' → Q v' H') → codeAny (model P w) A (.call (.ref f) ⟨us, []⟩) (CR C8.CX0 outer P w H s Q E) s
section
variable [Tbl] {P : Program} {w : World} {K : Fr} {mg : Str → Option Value} {base : Heap}
theorem LOk.mono {j k kk n : Nat} {mf : List D → M D} (o : LOk P w K mg base j kk n mf) (h : j ≤ k) : LOk P w K mg base k kk n mf := ⟨fun A outer s H us vs f c c' v0 ds d G Φ Q E hr => o.run A outer s H us vs f c c' v0 ds d G Φ Q E (hr.mono h)⟩
theorem lok_of {k kk n : Nat} {N ps : List Str} {pn qual : Str} {params : Arguments} {body : Expr} {scope : Scope} {me : VE → M D}
    (S : NScope N ps [pn] scope) (hn : ps.length = n) (hN : N.length = n + 1)
    (hk : ∀ a a', Tbl.clo kk a a' = ⟨qual, params, body, scope, [(pn, a)], a'⟩)
    (hb : ∀ (cl : List (Str × Addr)) (pm cd ctv : Value) (us : List Value), us.length = ps.length → bindArgs (PySem.W.kla_fn "<lambda>" qual params body scope cl pm cd ctv) ⟨us, []⟩ = pure (ps.zip us))
    (hbody : ∀ (a a' f : Addr) (A : Around) (outer : List PySem.Env) (s : Shared) (H : Hp) (E : XK), Room k (A.deeper (envF ⟨"<lambda>", qual, params, [], scope, [(pn, a)], a'⟩ f s.heap.objs.size)) → ∃ te, PE (ncx C8.CX0 P w K mg base N ⟨"<lambda>", qual, params, [], scope, [(pn, a)], a'⟩ f A outer s H E).nox body te ∧ XE K C8.E0 false te me) :
    LOk P w K mg base (k + 1) kk n (mLam me) := by
  refine ⟨fun A outer s H us vs f c c' v0 ds d G Φ Q E hr e0 hf hc hcl e rd ra rv hl cd cds tb m q => ?_⟩
  rw [hk] at hf hc
  have hc : G c' = some (CodeO c' qual) := hc
  have hfH := e _ _ hf
  have hcH := e _ _ hc
  have hclH := e _ _ hcl
  obtain ⟨⟨pm, ctv, ho⟩, _⟩ := (show ObjOk P w H s.heap f (FnL f ⟨qual, params, body, scope, [(pn, c)], c'⟩) from e0.hok _ _ hfH)
  obtain ⟨⟨oc, vcs, t, hoc, hdc, hvc⟩, _⟩ := (show ObjOk P w H s.heap c' (CodeO c' qual) from e0.hok _ _ hcH)
  obtain ⟨⟨u0, ru0, ocl, hocl, hdcl⟩, _⟩ := (show ObjOk P w H s.heap c (CellO c v0) from e0.hok _ _ hclH)
  let Hr : Hp := fun a => if a = c then none else H a
  let Gr : Hp := fun a => if a = c then none else G a
  have hr0 : Hr c = none := if_pos rfl
  have hrn : ∀ b, b ≠ c → Hr b = H b := fun b hb => if_neg hb
  have grn : ∀ b, b ≠ c → Gr b = G b := fun b hb => if_neg hb
  have ncc : c' ≠ c := fun y => by
    rw [y, hocl] at hoc
    cases hoc
    rw [hdcl] at hdc; cases hdc
  have e0r : Env0 P w K mg base A outer s Hr := by
    refine ⟨e0.frames, e0.mod, fun b o z => ?_, e0.bsz, e0.funs, fun b hb => ?_, fun a o z => ?_, e0.bare⟩
    · have y := e0.bs b o z
      refine ⟨y.1, ?_⟩
      rw [hrn b (fun x => by rw [x, hclH] at y; cases y.2)]; exact y.2
    · have y := e0.frf b hb
      rw [hrn b (fun x => by rw [x, hclH] at y; cases y)]; exact y
    · by_cases ha : a = c
      · subst ha; rw [hr0] at z; cases z
      · rw [hrn a ha] at z
        refine (e0.hok a o z).stay (fun _ _ _ z => z) (fun b z => ?_) fun b xs z => ?_
        · rw [hrn b (fun y => by rw [y, hclH] at z; cases z)]; exact z
        · rw [hrn b (fun y => by rw [y, hclH] at z; cases z)]; exact z
  let F : NF := ⟨"<lambda>", qual, params, [], scope, [(pn, c)], c'⟩
  have look : ∀ y a, F.cl.lookup y = some a → y = pn ∧ a = c := fun y a z => by
    have z : List.lookup y [(pn, c)] = some a := z
    unfold List.lookup at z
    split at z
    · rename_i h; cases z; exact ⟨by simpa using h, rfl⟩
    · cases z
  have CA : CellsAt F.cl [pn] [some v0] s.heap Hr := by
    refine ⟨rfl, fun y a z => ?_, fun x y a z1 z2 => ?_, fun i y z => ?_⟩
    · obtain ⟨_, rfl⟩ := look y a z
      exact ⟨hr0, _, ocl, hocl, hdcl⟩
    · rw [(look x a z1).1, (look y a z2).1]
    · match i with
      | 0 =>
        cases z
        refine ⟨c, by show List.lookup pn [(pn, c)] = some c; unfold List.lookup; simp, fun v z => ?_⟩
        cases z
        exact ⟨u0, ru0, ocl, hocl, hdcl⟩
      | i + 1 => cases z
  have lim : s.heap.NoLimit := e0.mod.nolimit.keeps fun b o e => (e0.bs b o e).1
  have hlv : vs.length = ps.length := by rw [← ra.length, hl, hn]
  refine PySem.W.kla_callFunE hr.depth ho rfl S.co S.gen rfl ⟨c', oc, vcs, t, rfl, hoc, hdc, hvc⟩ ?_
  rw [hb _ _ _ _ us (by rw [← rv.length]; exact hlv)]
  refine wpAny_pure (wpAny_newFunctionEnv S.nocell (fun ⟨n, _⟩ hy => S.par n (List.of_mem_zip hy).1) (fun h₁ hns hsb => ⟨lim.fresh _ hsb, ?_⟩) S.kind)
  show codeAny _ _ (.expr body (envF F f s.heap.objs.size)) _ _
  have kp : ∀ b o, s.heap.get? b = some o → h₁.get? b = some o := fun b o e => hsb.extBut b o (Nat.ne_of_lt (Heap.lt_size e)) (Heap.get?_push_of_some _ e)
  obtain ⟨te, ht, hx⟩ := hbody c c' f A outer s Hr E (hr.deeper _)
  have J : Inv (ncx C8.CX0 P w K mg base N F f A outer s Hr E) [] (startF N vs [some v0]) Hr { s with heap := h₁, toks := s.toks + (ps.zip us).length } := inv_startN S hr.hd e0r hlv rv CA hns kp
  have kx : ∀ a o, G a = some o → (∀ φ, o ≠ .ext φ) → Gr a = some o := fun a o z n => by
    rw [grn a (fun y => by rw [y, hcl] at z; cases z; exact n _ rfl)]; exact z
  have rd' := Rep.clean kx cd rd
  have ra' := RepA.clean kx cds ra
  have eGr : Ex Gr Hr := ⟨fun a o z => by
    by_cases ha : a = c
    · subst ha; rw [show Gr a = none from if_pos rfl] at z; cases z
    · rw [grn a ha] at z; rw [hrn a ha]; exact e a o z, fun a ps z => by
    by_cases ha : a = c
    · subst ha; rw [show Gr a = none from if_pos rfl] at z; cases z
    · rw [grn a ha] at z; exact e.n a ps z⟩
  have tbr : TabsN Tbl.T Hr := fun x hx => by
    obtain ⟨ps', k1, k2, k3⟩ := tb x hx
    refine ⟨ps', by rw [hrn _ (fun y => by rw [y, hclH] at k1; cases k1)]; exact k1, k2, fun pos cv hcv => ?_⟩
    obtain ⟨a, z1, z2⟩ := k3 pos cv hcv
    refine ⟨a, z1, ?_⟩
    rw [hrn _ (fun y => by
      obtain ⟨⟨oc2, _, _, y1, y2, _⟩, _⟩ := (show ObjOk P w H s.heap a (CodeO a _) from e0.hok _ _ z2)
      rw [y, hocl] at y1
      cases y1
      rw [hdcl] at y2; cases y2)]
    exact z2
  have hσ : startF N vs [some v0] = vs.map some ++ [some v0] := by
    unfold startF
    rw [hN, hlv, hn, List.length_singleton, show n + 1 - n - 1 = 0 by omega]
    simp
  have vr : VR K Hr ((ds.map fun x => some (false, x)) ++ [some (false, d)]) (startF N vs [some v0]) Gr := by
    rw [hσ]
    refine ⟨by rw [List.length_append, List.length_append, List.length_map, List.length_map, ra.length]; rfl, fun i f d1 hi => ?_⟩
    by_cases h1 : i < ds.length
    · rw [List.getElem?_append_left (by rw [List.length_map]; exact h1), List.getElem?_map] at hi
      cases z : ds[i]? with
      | none => rw [z] at hi; cases hi
      | some x =>
        rw [z] at hi; cases hi
        obtain ⟨v1, y1, y2⟩ := ra'.get z
        refine ⟨v1, ?_, y2⟩
        rw [List.getElem?_append_left (by rw [List.length_map, ← ra.length]; exact h1), List.getElem?_map, y1]; rfl
    · rw [List.getElem?_append_right (by rw [List.length_map]; omega), List.length_map] at hi
      have hi0 : i - ds.length = 0 := by
        cases z : i - ds.length with
        | zero => rfl
        | succ j => rw [z] at hi; cases hi
      rw [hi0] at hi; cases hi
      refine ⟨v0, ?_, rd'⟩
      rw [List.getElem?_append_right (by rw [List.length_map, ← ra.length]; omega), List.length_map, ← ra.length, hi0]; rfl
  have read : te (startF N vs [some v0]) Hr (fun v H2 => ∃ d' G2, Φ d' ∧ Grow Gr Hr G2 H2 ∧ Rep K none G2 d' v) := hx Hr _ _ Gr Hr Φ (fun _ => False) ⟨vr, eGr, ExN.refl Hr, fun _ _ _ _ _ z => z.elim, tbr⟩ m _ fun d' v G2 H2 p g r => ⟨d', G2, p, g, r⟩
  refine PySem.W.kla_codeExpr (wpAny_mono (ht.nox.run [] _ _ Hr _ J read) (fun v s' hq => ?_) fun e s' hq => hq)
  obtain ⟨v', H2, J', rv', d', G2, p2, g2, r2⟩ := hq
  have un : Un (frs outer) [] Hr H2 s.heap s'.heap := J'.base
  have n2 : H2 c = none := un.free c _ hocl hr0 (by simp)
  have ncl : ∀ b, H b = none → b ≠ c := fun b z y => by rw [y, hclH] at z; cases z
  let H3 : Hp := upd H2 c (CellO c v0)
  have h3n : ∀ b, b ≠ c → H3 b = H2 b := fun b hb => upd_ne hb
  have g2c : G2 c = none := fresh_back g2.sub n2
  let G3 : Hp := upd G2 c (CellO c v0)
  have g3n : ∀ b, b ≠ c → G3 b = G2 b := fun b hb => upd_ne hb
  have e3 : Ex G G3 := ⟨fun a o z => by
    by_cases ha : a = c
    · subst ha; rw [hcl] at z; cases z; exact upd_same
    · rw [g3n a ha]; exact g2.e a o (by rw [grn a ha]; exact z), e.n⟩
  have s3 : Ex G3 H3 := ⟨fun a o z => by
    by_cases ha : a = c
    · subst ha; rw [show G3 a = some (CellO a v0) from upd_same] at z; rw [← z]; exact upd_same
    · rw [g3n a ha] at z; rw [h3n a ha]; exact g2.sub a o z, g2.sub.n.upd (by intro _ z; cases z)⟩
  have x3 : ExN H H3 := ⟨fun b o z nt => by
      by_cases hb : b = c
      · subst hb; rw [hclH] at z; cases z; exact upd_same
      · rw [h3n b hb]; exact g2.ext.e b o (by rw [hrn b hb]; exact z) nt, fun b z => by
      have hb : b ≠ c := fun y => by rw [y, show H3 c = some (CellO c v0) from upd_same] at z; cases z
      rw [h3n b hb] at z
      have := g2.ext.f b z
      rw [hrn b hb] at this; exact this, fun _ => (g2.ext.t tbr).ext fun b o z => by rw [h3n b (fun y => by rw [y, n2] at z; cases z)]; exact z⟩
  have ge : Ex G2 G3 := Ex.new g2.sub.n g2c
  refine ⟨v', H3, J'.os, J'.bare, ⟨fun b o z n hf hx => un.keep b o z (by rw [hrn b (ncl b n)]; exact n) hf hx, fun b o z n hf hx => un.slot b o z (by rw [hrn b (ncl b n)]; exact n) hf hx, fun b o z n hx => by rw [h3n b (ncl b n)]; exact un.free b o z (by rw [hrn b (ncl b n)]; exact n) hx, un.there,
    fun b xs z => ?_, fun b o u z => ?_, fun b ps z => ?_⟩, fun a o z => ?_, rv', q d' v' G3 H3 p2 ⟨e3, s3, x3, fun a h1 h2 => ?_⟩ (r2.mono ge)⟩
  · have hb : b ≠ c := fun y => by rw [y, hclH] at z; cases z
    rw [h3n b hb]; exact un.tups b xs (by rw [hrn b hb]; exact z)
  · have hb : b ≠ c := fun y => by rw [y, hclH] at z; cases z
    rw [h3n b hb]; exact un.frzs b o u (by rw [hrn b hb]; exact z)
  · have hb : b ≠ c := fun y => by rw [y, hclH] at z; cases z
    rw [h3n b hb]; exact un.tbls b ps (by rw [hrn b hb]; exact z)
  · by_cases ha : a = c
    · subst ha
      rw [show H3 a = some (CellO a v0) from upd_same] at z; cases z
      obtain ⟨sl, y⟩ := un.any hocl hr0 (by simp)
      exact ⟨⟨u0, ru0, _, y, hdcl⟩, ⟨_, y⟩, fun h1 h2 ⟨u', r', o', y1, y2⟩ k => ⟨u', r', o', k _ y1, y2⟩⟩
    · rw [h3n a ha] at z
      exact (J'.hok a o z).stay (fun _ _ _ z => z) (fun b z => by rw [h3n b (fun y => by rw [y, n2] at z; cases z)]; exact z) fun b xs z => by rw [h3n b (fun y => by rw [y, n2] at z; cases z)]; exact z
  · by_cases ha : a = c
    · subst ha; rw [hcl] at h1; cases h1
    · rw [g3n a ha] at h2 ⊢
      rw [← hrn a ha]
      exact g2.new a (by rw [grn a ha]; exact h1) h2
end
end VL

/-! VM37: a closure that a name holds is called. -/
namespace VL
open PySem PySem.Spec PyProof.Rows L2
open M (ret bnd nope grd exn opt drw)
open LamX (CodeO TabB ExtN)
open NdefX (TabN TabsN NTab)
/-- what the call of a closure of a kind below m asks and gives -/
def rClo [Tbl] (K : Fr) (m n : Nat) (mf : Nat → List D → M D) : Addr → List V → Hp → VK → Prop := fun f vs H Q => ∃ (kk : Nat) (c c' : Addr) (v0 : V) (ds : List D) (d : D) (G : Hp) (Φ : D → Prop), kk < m ∧
  G f = some (FnL f (Tbl.clo kk c c')) ∧ G (Tbl.clo kk c c').c = some (CodeO (Tbl.clo kk c c').c (Tbl.clo kk c c').qual) ∧ G c = some (CellO c v0) ∧ Ex G H ∧ Rep K none G d v0 ∧ RepA K none G ds vs ∧ ds.length = n ∧ cleanD d = true ∧ cleanDs ds = true ∧ TabsN Tbl.T H ∧
  mf kk (d :: ds) Φ (fun _ => False) ∧ ∀ d' v' G' H', Φ d' → Grow G H G' H' → Rep K none G' d' v' → Q v' H'
def tCallL (i : Nat) (r : Addr → List V → Hp → VK → Prop) (t : TA) : TE := fun σ H Q => ∃ f, σ[i]? = some (some (.ref f)) ∧ (∃ F, H f = some (FnL f F)) ∧ t σ H fun vs H1 => r f vs H1 Q
section
variable [Tbl] {X : Cx}
theorem pe_clo {m n j k i : Nat} {mf : Nat → List D → M D} {x : Str} {t : TA} {e : Expr} {es : List Expr} {p pos : Pos} (lo : ∀ kk, kk < m → LOk X.prog X.w X.K X.mg X.base k kk n (mf kk)) (hr : Room j X.A) (hk : k ≤ j) (hN : X.N[i]? = some x) (hv : Vis X.env.scope x) (ha : PA X (e :: es) t)
    (hd : (x == ("__debug__" : Str)) = false := by decide) (hcd : (x == ("__classdict__" : Str)) = false := by decide)
    (he : starEach (e :: es) X.env = (false, eval e X.env) :: starEach es X.env := by rfl) (hpl : (backTo pos (starEach es X.env)).any (·.1) = false := by rfl) :
    PE X (.Call (.Name x p) (e :: es) [] pos) (tCallL i (rClo X.K m n mf) t) := by
  refine ⟨fun pins s σ H Q I h => ?_⟩
  obtain ⟨f, hs, ⟨F, hf⟩, ht⟩ := h
  refine wpAny_Call_Name_kw (thn ((pe_var (pos := p) hN hv hd hcd).run pins s σ H (fun v H1 => v = .ref f ∧ H1 = H) I ⟨.ref f, hs, rfl, rfl⟩) fun u s1 ⟨v, H1, I1, r1, q1⟩ => ?_)
  obtain ⟨ev, eH⟩ := q1
  subst ev
  rw [eH] at I1
  obtain rfl : u = Value.ref f := r1
  have at_ : ∀ {F : LF} {s : Shared} {H : Hp} {σ : L2.St} {pins : List (Addr × Obj)}, Inv X pins σ H s → H f = some (FnL f F) → PySem.W.FnAt f s.heap := fun {F s H σ pins} I z => by
    obtain ⟨⟨pm, ctv, ho⟩, _⟩ := (show ObjOk X.prog X.w H s.heap f (FnL f F) from I.hok _ _ z)
    exact ⟨_, _, _, _, ho⟩
  refine PySem.W.callWith_F (first := []) (at_ I1 hf) (thn (ha.run pos pins s1 σ H _ I1 ht) fun us s2 ⟨vs, H2, I2, r, q⟩ => ?_) he hpl
  obtain ⟨kk, c, c', v0, ds, d, G, Φ, hkk, g1, g2, g3, e, rd, ra, hl, cd, cds, tb, hm, q⟩ := q
  refine ⟨at_ I2 (e _ _ g1), ?_⟩
  show wpAny _ _ (call (.ref f) us) _ _ _
  refine wpAny_call (codeAny_mono ((lo kk hkk).run X.A X.stack s2 H2 us vs f c c' v0 ds d G Φ Q (fun _ _ _ => False) (hr.mono hk) I2.env0 g1 g2 g3 e rd ra r hl cd cds tb hm q) fun r s' hq => ?_)
  cases r with
  | error e => exact hq.elim
  | ok fl =>
    cases fl with
    | ret u => exact I2.after hq
    | next => exact False.elim hq
    | brk => exact False.elim hq
    | cont => exact False.elim hq
end
def cloOf : D → Option (Nat × D)
  | .clo k d => some (k, d)
  | _ => none
@[simp] theorem cloOf_eq (k : Nat) (d : D) : cloOf (.clo k d) = some (k, d) := id rfl
theorem cloOf_inv {x : D} {p : Nat × D} (h : cloOf x = some p) : x = .clo p.1 p.2 := by
  cases x <;> simp [cloOf] at h
  subst h; rfl
/-- x(e, ..), x a name that holds a closure -/
def mClo (i n m : Nat) (mf : Nat → List D → M D) (mr : VE → M (List D)) : VE → M D := fun ve => bnd (opt (getV ve i)) fun x => bnd (opt (cloOf x)) fun p => bnd (mr ve) fun as => grd (p.1 < m ∧ as.length = n ∧ cleanD p.2 = true ∧ cleanDs as = true) (calm (mf p.1 (p.2 :: as)))
@[simp] theorem mClo_ap {i n m : Nat} {mf : Nat → List D → M D} {mr : VE → M (List D)} {ve : VE} : mClo i n m mf mr ve = bnd (opt (getV ve i)) fun x => bnd (opt (cloOf x)) fun p => bnd (mr ve) fun as => grd (p.1 < m ∧ as.length = n ∧ cleanD p.2 = true ∧ cleanDs as = true) (calm (mf p.1 (p.2 :: as))) := id rfl
section
variable [Tbl] {K : Fr} {EE : XK}
theorem xe_clo {i n m : Nat} {mf : Nat → List D → M D} {tr : TA} {mr : VE → M (List D)} (h : XA K EE false tr mr) : XE K EE false (tCallL i (rClo K m n mf) tr) (mClo i n m mf mr) := fun Hb ve σ G H Φ Ξ c mm Q q => by
  obtain ⟨x, e1, mm⟩ := M.opt_inv mm
  obtain ⟨⟨kk, d⟩, e2, mm⟩ := M.opt_inv mm
  have e2 := cloOf_inv e2
  subst e2
  obtain ⟨f, hi⟩ : ∃ f, ve[i]? = some (some (f, .clo kk d)) := by
    unfold getV at e1
    split at e1
    · rename_i p hp; exact ⟨p.1, by rw [hp, ← Option.some.inj e1]⟩
    · cases e1
  obtain ⟨v, hv, rv⟩ := c.vr.at_ i f _ hi
  have rv := Rep.old rv
  cases rv with
  | @clo a _ _ v0 hc rd =>
    obtain ⟨cc, c', h1, h2, h3⟩ := hc.ex
    refine ⟨a, hv, ⟨_, c.e _ _ h1⟩, h Hb ve σ G H _ Ξ c mm _ fun as xs G1 H1 p1 g1 r1 => ?_⟩
    exact ⟨kk, cc, c', v0, as, d, G1, Φ, p1.1.1, g1.e _ _ h1, g1.e _ _ h2, g1.e _ _ h3, g1.sub, rd.mono g1.e, r1, p1.1.2.1, p1.1.2.2.1, p1.1.2.2.2, (c.grow g1).tb, p1.2, fun d' v' G' H' pd g r => q d' v' G' H' pd (g1.trans g) r⟩
end
end VL

/-! VM38: the words of a returned lambda; the end with tables of code objects. -/
namespace VL
open PySem PySem.Spec PyProof.Rows L2
open LamX (CodeO TabB ExtN)
open NdefX (TabN TabsN NTab)
/-- the lambda that a def returns -/
def lamE (st : Stmt) : Expr := match defBody st with
  | [.Return (some e) _] => e
  | _ => .Constant .none 0 ⟨0, 0, 0, 0⟩
def lamP (st : Stmt) : Arguments := match lamE st with
  | .Lambda a _ _ _ => a
  | _ => { posonlyargs := [], args := [], vararg := none, kwonlyargs := [], kw_defaults := [], kwarg := none, defaults := [] }
def lamB (st : Stmt) : Expr := match lamE st with
  | .Lambda _ b _ _ => b
  | e => e
def lamS (st : Stmt) : Scope := match lamE st with
  | .Lambda _ _ sc _ => sc
  | _ => { kind := .function, names := [], isGenerator := false, isCoroutine := false }
theorem tabs0 [Tbl] (h : Tbl.T = []) (H : Hp) : TabsN Tbl.T H := fun p hp => by rw [h] at hp; cases hp
/-- the table of a def's code object, at the head -/
theorem tab_top {p : Program} {loose : List Str} {mean : ExcName → Option Value} {mg mb : Str → Option Value} {h : Heap} {K : Fr} {x : Str} {c P : Addr} (T : Top p loose mean mg mb h) (X : K.In h) (hr : ((recsOf p).find? (fun e => e.name == x)).isSome = true) (ht : PySem.W.tabIn K x = some (c, P)) :
    PySem.W.CodeHd h c P ∧ h.get? P = some { cls := .none, data := .fields #[] } := by
  obtain ⟨d, hd⟩ := Option.isSome_iff_exists.mp hr
  exact PySem.W.tab_of T X hd ht
theorem walkT {l : PySem.W.OpenLaw} {k : Nat} {q : Program} {loose : List Str} {XP : (Str → Option Value) → Heap → Prop} {YP : World → Heap → Prop} {d : DefRec} {K : Params → PySem.W.Frag}
    (hn : l.most = some 63) (hdf : d.params.defaults = []) (hr : Room k callerA) (hY : ∀ (w : World) (h : Heap), YP w h → (K w.params).In h)
    (F : ∀ (w : World) (mg mb : Str → Option Value) (fa : Addr) (h : Heap) (mean : ExcName → Option Value), Top q (PySem.W.looseW q loose) mean mg mb h → (K w.params).In h → h.Ns mainGlobals mg → mg d.name = some (.ref fa) → LamX.LawAtS l w (K w.params) C8.CX0 k 63 "script" mg fa h) :
    PySem.W.WalkO q loose XP YP l.row.toRowW d [] (fun f vs => PySem.call f vs) := by
  refine Att.attach_callB hn hdf fun w s₀ s₁ mg mb fa o pm cd doc a vs ns G Y ho hd hcd hmg hobj hints hlen hbits hg => ?_
  have KX := hY w _ Y
  obtain ⟨fd, cs, sp, hT, nT, C, hb, hsp, hF⟩ := F w mg mb fa _ _ G.T KX G.T.g hmg
  exact LamX.law_callTs KX G.T.g G.T.b G.T.builtins G.T.nolimit hg hT nT C G.T.bmain hobj hints (Nat.le_trans hlen (by decide)) hr hF hb (fun H hH hS => hsp H a ns hlen hbits hH hS) fun H e s' z => z
end VL

/-! VM39: x is not True, x is not False. -/
namespace VL
open PySem PySem.Spec PyProof.Rows L2
open M (ret bnd nope grd exn opt drw hdl anyA)
section
variable [Tbl] {K : Fr} {f f1 : Bool}
def rNotTF : R2 := fun x y H Q => ∃ b, y = .bl b ∧ Q (.bl (!decide (x = .bl b))) H
theorem op_notTF {X : Cx} : OpR X (compareOp .IsNot) rNotTF := by
  intro pins s σ H x y va vb Q I rx ry h
  obtain ⟨b, rfl, q⟩ := h
  cases (show vb = Value.bool b from ry)
  by_cases e : x = .bl b
  · subst e
    cases (show va = Value.bool b from rx)
    refine wpAny_isNot_self rfl ⟨.bl false, H, I, rfl, ?_⟩
    have e2 : (!decide (V.bl b = V.bl b)) = false := by simp
    rw [← e2]; exact q
  · have hne : va ≠ Value.bool b := fun z => by
      subst z
      exact e (RelV.inj rx rfl)
    have hp : plainIs va (Value.bool b) = true := by
      cases x with
      | non => cases rx; rfl
      | bl c => cases rx; rfl
      | int i => obtain ⟨t, rfl⟩ := rx; rfl
      | str i => obtain ⟨t, rfl⟩ := rx; rfl
      | byt i => obtain ⟨t, rfl⟩ := rx; rfl
      | flt i => obtain ⟨t, rfl⟩ := rx; rfl
      | ref i => cases rx; rfl
      | ty i => cases rx; rfl
    refine wpAny_isNot_other hp hne ⟨.bl true, H, I, rfl, ?_⟩
    have e2 : (!decide (x = V.bl b)) = true := by rw [decide_eq_false e]; rfl
    rw [← e2]; exact q
def isNotBD : D → D → Option D
  | a, .bl b => some (.bl (!isBl b a))
  | _, _ => none
@[simp] theorem isNotBD_bl (a : D) (b : Bool) : isNotBD a (.bl b) = some (.bl (!isBl b a)) := id rfl
theorem od_isNotB : OpD K f f1 rNotTF isNotBD := fun a b c h => by
  intro G x y H0 ra rb H e _ Q q
  unfold isNotBD at h
  split at h
  · rename_i b; cases h
    refine ⟨b, rb.bl_inv, ?_⟩
    have h : decide (x = V.bl b) = isBl b a := by cases ra <;> simp [isBl]
    rw [h]; exact q _ G H (Grow.refl e) (.bl _)
  · cases h
end
end VL

/-! VM40: x = [a new list for t in xs if c], the inner ones written. -/
namespace VL
open PySem PySem.Spec PyProof.Rows L2
open M (ret bnd nope grd exn opt drw hdl anyA)
section
variable [Tbl] {K : Fr} {EE : XK} {fr f f1 : Bool} {H0 G0 : Hp} {ρ ρ' : Env} {σ : L2.St} {G G' H H' G1 H1 : Hp} {Ξ : Exn → Prop} {Φ : Oc → Prop} {De : Ends} {d : D} {v : V} {ds : List D} {vs : List V} {fp : Nat → List Addr} {i j : Nat} {s : Slot}
variable {te : TE} {tt : TT} {g : TG} {is us : List Nat} {b : D → Option (List D)} {mt : VE → M Bool} {ml : VE → M (List D)} {mi : VE → M (List D)} {wi : TI} {mr : VE → M (List (List D))}
/-- a new list of new lists -/
def XRw (K : Fr) (EE : XK) (te : TE) (m : VE → M (List (List D))) : Prop := ∀ Hb ve σ G H Φ Ξ, Cv K EE Hb ve σ G H Ξ → m ve Φ Ξ → ∀ Q : VK, (∀ rows ps p G' H', Φ rows → Grow G H G' H' → (p :: ps).Nodup → (∀ a ∈ p :: ps, H a = none ∧ G' a = none) → H' p = some (.lst (ps.map V.ref)) → RowsR K G' H' ps rows → Q (.ref p) H') → te σ H Q
def rlGo (ve : VE) (is : List Nat) (b : D → Option (List D)) (mt : VE → M Bool) (ml : VE → M (List D)) : List D → M (List (List D))
  | [] => ret []
  | a :: as => bnd (opt (b a)) fun ds => bnd (mt (setVE false ve is ds)) fun x => if x = true then bnd (ml (setVE false ve is ds)) fun d => bnd (rlGo ve is b mt ml as) fun r => ret (d :: r) else rlGo ve is b mt ml as
/-- [a new list for t in xs if c] -/
def mRl (mi : VE → M (List D)) (is : List Nat) (b : D → Option (List D)) (mt : VE → M Bool) (ml : VE → M (List D)) (us : List Nat) : VE → M (List (List D)) := fun ve => bnd (mi ve) fun xs => grd (xs.length ≤ 50000) (rlGo (wipeVE ve us) is b mt ml xs)
@[simp] theorem mRl_ap {ve : VE} : mRl mi is b mt ml us ve = bnd (mi ve) fun xs => grd (xs.length ≤ 50000) (rlGo (wipeVE ve us) is b mt ml xs) := id rfl
theorem rlGo_all {α : Type} {ve : VE} {c : α → D} {h : α → List D} {e : α → List D} : ∀ {xs : List α}, (∀ a ∈ xs, b (c a) = some (e a) ∧ mt (setVE false ve is (e a)) = ret true ∧ ml (setVE false ve is (e a)) = ret (h a)) → rlGo ve is b mt ml (xs.map c) = ret (xs.map h)
  | [], _ => rfl
  | a :: as, H => by
    obtain ⟨h1, h2, h3⟩ := H a List.mem_cons_self
    have ih := rlGo_all (xs := as) fun x hx => H x (List.mem_cons_of_mem _ hx)
    rw [List.map_cons, rlGo, h1, M.opt_some, M.bnd_ret, h2, M.bnd_ret, if_pos rfl, h3, M.bnd_ret, ih, M.bnd_ret, List.map_cons]
theorem RowsR.snoc {p : Addr} {ps : List Addr} {rows : List (List D)} (h : RowsR K G H ps rows) (hp : H p = some (.lst vs)) (r : RepA K none G ds vs) : RowsR K G H (ps ++ [p]) (rows ++ [ds]) := by
  induction h with
  | nil => exact .cons hp r .nil
  | cons h1 r1 _ ih => exact .cons h1 r1 ih
theorem xrw_lc (hi : XI K EE wi mi) (hg : XG K g is b) (ht : XT K EE tt mt) (he : XL K EE f te ml) (hs : ∀ i ∈ is, i ∈ us) : XRw K EE (tLc wi g tt te us) (mRl mi is b mt ml us) := fun Hb ve σ G H Φ Ξ c m Q q =>
  hi Hb ve σ G H _ Ξ c m _ fun J xs G1 H1 p1 g1 W => fun L hL => by
    obtain ⟨hlen, p1⟩ := p1
    have hLH : H L = none := g1.free hL
    refine lc_it W (fun i Hc => ∃ Gc ps rows, Grow G H Gc Hc ∧ Ex G1 Gc ∧ Gc L = none ∧ Hc L = some (.lst (ps.map V.ref)) ∧ (L :: ps).Nodup ∧ (∀ a ∈ ps, H a = none ∧ Gc a = none) ∧ RowsR K Gc Hc ps rows ∧ rows.length ≤ i ∧ rlGo (wipeVE ve us) is b mt ml (xs.drop i) (fun r => Φ (rows ++ r)) Ξ) ?_ ?_ ?_ ?_
    · exact ⟨G1, [], [], g1.trans (Grow.hid g1.sub hL), g1.sub.self, fresh_back g1.sub hL, upd_same, List.nodup_cons.mpr ⟨List.not_mem_nil, List.nodup_nil⟩, (fun _ h => nomatch h), .nil, Nat.le_refl _, by simpa using p1⟩
    · rintro i Hc hi' ⟨Gc, ps, rows, gc, e1, _⟩
      exact e1.trans gc.sub
    · rintro i x Hc H2 hi' ⟨Gc, ps, rows, gc, e1, nL, hcL, nd, hps, rr, hdl, pm⟩ ⟨a, G2, ha, g2, rx⟩
      obtain ⟨g3, e3⟩ := g2.on e1 gc.sub
      have k2 := g3.keep hcL nL
      have rr3 := rr.grow g3 fun a ha => (hps a ha).2
      have hps3 : ∀ a ∈ ps, H a = none ∧ (un Gc G2) a = none := fun a ha => by
        obtain ⟨n, hn⟩ := List.mem_iff_getElem?.mp ha
        obtain ⟨vs, ds, _, hv, _⟩ := rr.get hn
        exact ⟨(hps a ha).1, (g3.keep hv (hps a ha).2).2⟩
      have c3 := (c.grow gc).grow g3
      rw [drop_next ha] at pm
      obtain ⟨bs, eb, pm⟩ := M.opt_inv pm
      refine hg none _ H2 a x bs _ _ eb (rx.mono e3) g3.sub fun ws hw rw' => ⟨by rw [wipe_setS hs, wipe_wipe], ?_⟩
      have c4 : Cv K EE Hb (setVE false (wipeVE ve us) is bs) (setS (L2.wipe σ us) is ws) _ H2 Ξ := ⟨VR.setS c3.vr.wipe rw', c3.e, c3.b, c3.x, c3.tb⟩
      refine ht Hb _ _ _ H2 _ Ξ c4 pm _ fun x G4 H4 p4 g4 => ?_
      have k4 := g4.keep k2.1 k2.2
      have rr4 := rr3.grow g4 fun a ha => (hps3 a ha).2
      have hps4 : ∀ a ∈ ps, H a = none ∧ G4 a = none := fun a ha => by
        obtain ⟨n, hn⟩ := List.mem_iff_getElem?.mp ha
        obtain ⟨vs, ds, _, hv, _⟩ := rr3.get hn
        exact ⟨(hps a ha).1, (g4.keep hv (hps3 a ha).2).2⟩
      have c5 := c4.grow g4
      cases x with
      | true =>
        refine he Hb _ _ G4 H4 _ Ξ c5 p4 _ fun dd p vs5 G5 H5 p5 g5 h1 h2 h3 r5 => ?_
        have k5 := g5.keep k4.1 k4.2
        have gA := (gc.trans g3).trans g4
        have rr5 := rr4.grow g5 fun a ha => (hps4 a ha).2
        have hps5 : ∀ a ∈ ps, H a = none ∧ G5 a = none := fun a ha => by
          obtain ⟨n, hn⟩ := List.mem_iff_getElem?.mp ha
          obtain ⟨vs, ds, _, hv, _⟩ := rr4.get hn
          exact ⟨(hps a ha).1, (g5.keep hv (hps4 a ha).2).2⟩
        have pL : p ≠ L := fun z => by rw [z, k4.1] at h1; cases h1
        have pps : p ∉ ps := fun hm => by
          obtain ⟨n, hn⟩ := List.mem_iff_getElem?.mp hm
          obtain ⟨vs, ds, _, hv, _⟩ := rr4.get hn
          rw [h1] at hv; cases hv
        have nd' := List.nodup_cons.mp nd
        have keepL : ∀ a ∈ ps ++ [p], upd H5 L (.lst (ps.map V.ref ++ [V.ref p])) a = H5 a := fun a ha => upd_ne (fun z => by
          rcases List.mem_append.mp ha with ha | ha
          · exact nd'.1 (z ▸ ha)
          · rw [List.mem_singleton.mp ha] at z; exact pL z)
        have rr6 := rr5.snoc h3 r5.old
        refine ⟨ps.map V.ref, k5.1, Evl.sz_lt (by rw [List.length_map, rr.length]; omega), G5, ps ++ [p], rows ++ [dd], (gA.trans g5).put hLH k5.2 (by rw [k5.1]; rfl), e1.trans (g3.e.trans (g4.e.trans g5.e)), k5.2, ?_, ?_, ?_, rr6.to g5.sub.self keepL, by rw [List.length_append]; simp; omega, ?_⟩
        · rw [List.map_append]; exact upd_same
        · refine List.nodup_cons.mpr ⟨fun hm => ?_, ?_⟩
          · rcases List.mem_append.mp hm with hm | hm
            · exact nd'.1 hm
            · exact pL (List.mem_singleton.mp hm).symm
          · exact List.nodup_append.mpr ⟨nd'.2, List.pairwise_singleton _ _, fun a ha b hb e => pps (by rw [← List.mem_singleton.mp hb, ← e]; exact ha)⟩
        · intro a ha
          rcases List.mem_append.mp ha with ha | ha
          · exact hps5 a ha
          · rw [List.mem_singleton.mp ha]
            exact ⟨((gc.trans g3).trans g4).free h1, h2⟩
        · have p5 : rlGo (wipeVE ve us) is b mt ml (xs.drop (i + 1)) (fun r => Φ (rows ++ dd :: r)) Ξ := p5
          simpa using p5
      | false =>
        exact ⟨G4, ps, rows, (gc.trans g3).trans g4, e1.trans (g3.e.trans g4.e), k4.2, k4.1, nd, hps4, rr4, by omega, p4⟩
    · rintro Hc ⟨Gc, ps, rows, gc, e1, nL, hcL, nd, hps, rr, hdl, pm⟩
      rw [List.drop_length] at pm
      have pm : Φ (rows ++ []) := pm
      rw [List.append_nil] at pm
      exact q rows ps L Gc Hc pm gc nd (fun a ha => by
        rcases List.mem_cons.mp ha with rfl | ha
        · exact ⟨hLH, nL⟩
        · exact hps a ha) hcL rr
/-- x = [a new list for t in xs if c] -/
theorem r_rwLc (h : XRw K EE te mr) : RS K EE fr (tAsg te (gName i)) (sRw i mr) := fun G0 H0 ρ σ G H fp De Φ Ξ gr st m k =>
  h H0 _ σ G H _ Ξ (k.cvA gr st) m _ fun rows ps p G1 H1 pm g nd hn hp rr => by
    obtain ⟨hl, pm⟩ := pm
    obtain ⟨fp', s'⟩ := (st.grow g).setRw (i := i) (p := p) (ps := ps) (rows := rows) hp (fun a ha => by
      rcases List.mem_cons.mp ha with rfl | ha
      · exact ⟨gr.ext.f _ (hn a List.mem_cons_self).1, (hn a List.mem_cons_self).2, _, hp⟩
      · obtain ⟨n, hn'⟩ := List.mem_iff_getElem?.mp ha
        obtain ⟨vs, _, _, hv, _⟩ := rr.get hn'
        exact ⟨gr.ext.f _ (hn a (List.mem_cons_of_mem _ ha)).1, (hn a (List.mem_cons_of_mem _ ha)).2, vs, hv⟩) (fun a ha => st.newP (hn a ha).1) nd rr
    exact k.nx _ _ G1 _ _ pm g.e (gr.trans g) s'
end
end VL

/-! VM41: xs[::k], k = 1 or -1. -/
namespace VL
open PySem PySem.Spec PyProof.Rows L2
open M (ret bnd nope grd exn opt drw hdl anyA)
theorem step_one (items : Array Value) : slicePick items none none (some 1) = items := by
  unfold slicePick
  have e : sliceBounds none none (some 1) items.size = (0, (items.size : Int), 1) := rfl
  rw [e]
  show ((sliceRange 0 (items.size : Int) 1).filterMap (items[·]?)).toArray = _
  have e2 : sliceRange 0 (items.size : Int) 1 = List.range items.size := by
    unfold sliceRange
    simp only [show (1 : Int) > 0 from by decide, if_true]
    have hc : (if (0 : Int) < items.size then ((items.size : Int) - 0 + 1 - 1) / 1 else 0).toNat = items.size := by
      by_cases h : (0 : Int) < items.size
      · rw [if_pos h, Int.ediv_one]; omega
      · rw [if_neg h]; omega
    rw [hc]
    refine Eq.trans (List.map_congr_left (g := id) fun k hk => ?_) (List.map_id _)
    show (0 + 1 * (k : Int)).toNat = k
    omega
  rw [e2, PySem.W.krv_all]
def stepXs {α : Type} (k : Int) (xs : List α) : List α := if k = 1 then xs else xs.reverse
def tStepL (K : Fr) (te ts : TE) : TE := fun σ H Q => te σ H fun x H1 => tPart ts σ H1 fun o H2 => ∃ a xs k, x = V.ref a ∧ o = some k ∧ (k = 1 ∨ k = -1) ∧ SqL K H2 a xs ∧ ∀ p, H2 p = none → Q (.ref p) (upd H2 p (.lst (stepXs k xs)))
theorem pe_stepL {X : Cx} {K : Fr} (hK : X.K = K) {e : Expr} {n : Str} {te ts : TE} {p2 p3 pos : Pos} (he : PE X e te) (hs : PE X (.Name n p2) ts) : PE X (.Subscript e (.Slice none none (some (.Name n p2)) p3) pos) (tStepL K te ts) := by
  subst hK
  refine ⟨fun pins s σ H Q I h => ?_⟩
  refine Subscript_ (thn (he.run pins s σ H _ I h) fun v s1 ⟨x, H1, I1, r1, q1⟩ => ?_)
  have hst : PO X (some (.Name n p2)) (tPart ts) := po_some hs
  refine wpAny_Slice (thn (po_none.run pins s1 σ H1 (fun o H2 => o = none ∧ H2 = H1) I1 ⟨rfl, rfl⟩) fun vl s2 ⟨l, H2, I2, pl, el, e2⟩ => ?_)
  subst el e2
  refine thn (po_none.run pins s2 σ H2 (fun o H3 => o = none ∧ H3 = H2) I2 ⟨rfl, rfl⟩) fun vu s3 ⟨u, H3, I3, pu, eu, e3⟩ => ?_
  subst eu e3
  refine thn (hst.run pins s3 σ H3 _ I3 q1) fun vs s4 ⟨o, H4, I4, ps, a, xs, k, ex, eo, hk, hx, q⟩ => ?_
  subst ex eo
  cases r1
  have I5 : Inv X pins σ H4 { s4 with heap := s4.heap.push { cls := .type "slice", data := .fields #[vl, vu, vs] } } := I4.kept (t' := s4.toks) fun b ob q => Heap.get?_push_of_some _ q
  obtain ⟨its, r, ht, hz⟩ := I5.list hx
  have hlen := r.length
  show wpAny (model X.prog X.w) X.A (subscriptTail e (.Slice none none (some (.Name n p2)) p3) (.ref a) (.ref s4.heap.objs.size)) (EP X pins σ Q) X.xe { s4 with heap := s4.heap.push { cls := .type "slice", data := .fields #[vl, vu, vs] } }
  refine tail_any (ops := [.ref a, .ref s4.heap.objs.size]) ht.isList.typeIs (PySem.slot_list_getitem.lookup) ?_ (by with_unfolding_all rfl)
  rcases hk with rfl | rfl
  · refine wpAny_getItem_list_slice ht.isList (Heap.IsSliceOf.new _ vl vu vs) pl pu ps (by decide) ?_ (by rw [List.size_toArray]; omega)
    rw [step_one]
    refine ⟨.ref _, _, I5.laid (t' := s4.toks) (o := .lst xs) (fun b ob q => Heap.get?_push_of_some _ q) (Nat.le_refl _) ?_, rfl, q _ (I5.hok.fresh (Nat.le_refl _))⟩
    exact ⟨hz, _, 0, r, Heap.get?_push_size _ rfl⟩
  · refine wpAny_getItem_list_slice ht.isList (Heap.IsSliceOf.new _ vl vu vs) pl pu ps (by decide) ?_ (by rw [List.size_toArray]; omega)
    rw [PySem.W.krv_pick]
    refine ⟨.ref _, _, I5.laid (t' := s4.toks) (o := .lst xs.reverse) (fun b ob q => Heap.get?_push_of_some _ q) (Nat.le_refl _) ?_, rfl, q _ (I5.hok.fresh (Nat.le_refl _))⟩
    exact ⟨by rw [List.length_reverse]; exact hz, _, 0, r.reverse, Heap.get?_push_size _ rfl⟩
section
variable [Tbl] {K : Fr} {EE : XK} {f f1 : Bool} {te ts : TE} {ma ms : VE → M D}
def stepD : D → D → Option D
  | .lst ds, .int k => if k = 1 ∨ k = -1 then some (.lst (stepXs k ds)) else none
  | _, _ => none
@[simp] theorem stepD_one (ds : List D) : stepD (.lst ds) (.int 1) = some (.lst ds) := id rfl
@[simp] theorem stepD_neg (ds : List D) : stepD (.lst ds) (.int (-1)) = some (.lst ds.reverse) := id rfl
theorem RepA.step {fr : Option Hp} {H : Hp} {ds : List D} {vs : List V} (k : Int) (h : RepA K fr H ds vs) : RepA K fr H (stepXs k ds) (stepXs k vs) := by
  unfold stepXs
  split
  · exact h
  · exact h.rev
theorem xe_stepL (h : XE K EE f te ma) (hs : XE K EE f1 ts ms) : XE K EE f (tStepL K te ts) (m2 stepD ma ms) := fun Hb ve σ G H Φ Ξ c m Q q =>
  h Hb ve σ G H _ Ξ c m _ fun a x G1 H1 p1 g1 rv =>
    hs Hb ve σ G1 H1 _ Ξ (c.grow g1) p1 _ fun b y G2 H2 p2 g2 ry => by
      obtain ⟨z, e, p3⟩ := M.opt_inv p2
      unfold stepD at e
      split at e
      · rename_i ds k
        split at e
        · rename_i hk
          cases e
          cases ry
          obtain ⟨p, vs, rfl, _, hp, rs⟩ := rv.lst_inv
          have hp2 := g2.sub _ _ (g2.e _ _ hp)
          refine ⟨k, rfl, p, vs, k, rfl, rfl, hk, SqL.of hp2, fun n hn => ?_⟩
          have gl := Grow.laid (o := .lst (stepXs k vs)) g2.sub hn
          exact q _ (.ref n) _ _ p3 ((g1.trans g2).trans gl) (.lst (frh_new (c.grow (g1.trans g2)).b hn) upd_same (((rs.mono g2.e).step k).mono gl.e))
        · cases e
      · cases e
end
end VL

/-! VM42: spoilt data: a part of it is added to a list of it. -/
namespace VL
open PySem PySem.Spec PyProof.Rows L2
open M (ret bnd nope grd exn opt drw hdl anyA)
section
variable [Tbl] {K : Fr} {EE : XK} {fr : Bool} {ρ : Env} {i : Nat} {tq : TE} {mp mq : VE → Bool → D → M D}
def sJAppJ (i : Nat) (mp mq : VE → Bool → D → M D) : Env → M Oc := fun ρ => bnd (opt (getJ ρ i)) fun p => grd (p.2.1 < 100000) (bnd (mp (vB ρ) p.1 p.2.2) fun x => bnd (opt (tLs x)) fun _ => bnd (mq (vB ρ) p.1 p.2.2) fun _ => ret (.nx (ρ.set i (.jk false (p.2.1 + 1) p.2.2))))
@[simp] theorem sJAppJ_ap : sJAppJ i mp mq ρ = bnd (opt (getJ ρ i)) fun p => grd (p.2.1 < 100000) (bnd (mp (vB ρ) p.1 p.2.2) fun x => bnd (opt (tLs x)) fun _ => bnd (mq (vB ρ) p.1 p.2.2) fun _ => ret (.nx (ρ.set i (.jk false (p.2.1 + 1) p.2.2)))) := id rfl
theorem r_jAppJ {tp : TE} (hp : XJ K EE i tp mp) (hq : XJ K EE i tq mq) : RS K EE fr (tDrop (tBM K "list" rAppend tp (tCons tq tNil))) (sJAppJ i mp mq) := fun G0 H0 ρ σ G H fp De Φ Ξ gr st m k => by
  obtain ⟨⟨ex, b, d⟩, e, hb, m⟩ := M.opt_inv m
  have hi := getJ_inv e
  refine hp G0 H0 ρ σ G H fp fr De Φ Ξ _ ex b d gr st k hi m _ fun d' v' G1 H1 p1 g1 r1 => ?_
  obtain ⟨ds, e1, p1⟩ := M.opt_inv p1
  rw [tLs_inv e1] at r1
  have st1 := st.grow g1
  have gr1 := gr.trans g1
  cases r1 with
  | lst ha h1 h2 h3 t =>
    rename_i a vs
    refine ⟨.inl ⟨rfl, vs, SqL.of h1⟩, hq G0 H0 ρ σ G1 H1 fp fr De Φ Ξ _ ex b d gr1 st1 (k.on g1.e) hi p1 _ fun x w G2 H2 p2 g2' r2 => ?_⟩
    have st2 := st1.grow g2'
    have gr2 := gr1.trans g2'
    have hh : H2 a = some (.lst vs) := (g2'.keep h1 (st1.fr i a ha).2.1).1
    have z := st2.sl i _ hi
    have hlen : vs.length ≤ b := by
      revert z ha
      generalize (σ[i]?).getD none = o
      generalize fp i = l
      intro ha z
      cases z with
      | jk r hbb =>
        obtain ⟨ws, hw1, hw2⟩ := hbb a ha
        rw [hh] at hw1; cases hw1; exact hw2
    have hb : b < 100000 := hb
    refine ⟨a, vs, w, rfl, rfl, hh, Evl.sz_lt (by omega), ?_⟩
    have f2 := st2.fr i a ha
    exact (k.on (g1.e.trans g2'.e)).nx _ _ _ _ _ p2 gr2.sub.self (gr2.put f2.1 f2.2.1 (by rw [hh]; rfl)) (st2.addJk gr2.sub.self hi ha hh w)
end
end VL

/-! VM43: max(xs, default=d). -/
namespace VL
open PySem PySem.Spec PyProof.Rows L2
open M (ret bnd nope grd exn opt drw hdl anyA)
/-- the greatest, d if there is none -/
def maxDI (d : Int) : List Int → Int
  | [] => d
  | n :: ns => maxI (n :: ns)
theorem foldl_max [Tbl] : ∀ (ns : List Int) (n : Int), ns.foldl max n = maxI (n :: ns)
  | [], n => rfl
  | m :: ns, n => by
    rw [List.foldl_cons, foldl_max ns (max n m)]
    have h1 := maxI_spec (ns := max n m :: ns) (by simp)
    have h2 := maxI_spec (ns := n :: m :: ns) (by simp)
    have a := h2.2 (maxI (max n m :: ns)) (by
      rcases List.mem_cons.mp h1.1 with e | e
      · rw [e]
        by_cases q : n ≤ m
        · rw [Int.max_eq_right q]; simp
        · rw [Int.max_eq_left (by omega)]; simp
      · exact List.mem_cons_of_mem _ (List.mem_cons_of_mem _ e))
    have b : maxI (n :: m :: ns) ≤ maxI (max n m :: ns) := by
      have h0 := h1.2 (max n m) List.mem_cons_self
      rcases List.mem_cons.mp h2.1 with e | e
      · rw [e]; omega
      · rcases List.mem_cons.mp e with e | e
        · rw [e]; omega
        · exact h1.2 _ (List.mem_cons_of_mem _ e)
    omega
def rMaxDef (K : Fr) : List V → List V → Hp → VK → Prop := fun vs zs H Q => ∃ (a : Addr) (ns : List Int) (d : Int), vs = [V.ref a] ∧ zs = [V.int d] ∧ SqL K H a (ns.map V.int) ∧ Q (.int (maxDI d ns)) H
theorem cr_maxDef [Tbl] {X : Cx} {K : Fr} (hK : X.K = K) (hc : X.calm = true) (hu : X.A.units + 64 < cLine) : CallRK X (.builtin "max") [Str.ofString "default"] (rMaxDef K) := by
  subst hK
  intro pins s σ H vs zs us ws Q I r rz h
  obtain ⟨a, ns, d, rfl, rfl, hs, q⟩ := h
  obtain ⟨its, rv, hl, _⟩ := I.list hs
  obtain rfl := Vals.ref1 r
  obtain ⟨w1, rfl, e1⟩ := vals1 rz
  obtain ⟨t, rfl⟩ := e1
  have hr := IntsAre.reads s.heap rv.ints
  show wpAny (model X.prog X.w) X.A (call (.builtin "max") [.ref a] [(Str.ofString "default", .int d t)]) (EP X pins σ Q) X.xe s
  refine PySem.W.max_list_default (I.ok.hd hc) hl.isList (by simpa using hr) ⟨fun x hx y hy => ?_, fun x hx => ?_⟩ (by rw [dep_ints]; omega) (fun e h' tk hk => ?_) (fun y ys i v h' tk bs e hv hrd hk => ?_)
  · obtain ⟨i, _, rfl⟩ := List.mem_map.mp hx
    obtain ⟨j, _, rfl⟩ := List.mem_map.mp hy
    rfl
  · obtain ⟨i, _, rfl⟩ := List.mem_map.mp hx
    exact fun z => by cases z
  · have e : ns = [] := List.map_eq_nil_iff.mp e
    subst e
    exact ⟨.int _, H, I.kept hk, ⟨_, rfl⟩, q⟩
  · cases ns with
    | nil => cases e
    | cons n ns =>
      cases e
      rw [PySem.W.maxD_ints] at hrd
      cases hrd
      rw [foldl_max] at *
      exact ⟨.int _, H, I.kept hk, ⟨_, rfl⟩, q⟩
section
variable [Tbl] {K : Fr} {EE : XK} {f f1 : Bool} {ta tb : TE} {ma mb : VE → M D}
def maxDefD : D → D → Option D
  | .lst ds, .int d => match intsOf ds with
    | some ns => some (.int (maxDI d ns))
    | none => none
  | _, _ => none
@[simp] theorem maxDefD_ints (ns : List Int) (d : Int) : maxDefD (.lst (ns.map .int)) (.int d) = some (.int (maxDI d ns)) := by
  unfold maxDefD
  simp only [intsOf_map]
theorem xe_maxDef (ha : XE K EE false ta ma) (hb : XE K EE false tb mb) : XE K EE f (tCKw (rMaxDef K) (tCons ta tNil) (tCons tb tNil)) (m2 maxDefD ma mb) := fun Hb ve σ G H Φ Ξ c m Q q =>
  ha Hb ve σ G H _ Ξ c m _ fun a x G1 H1 p1 g1 rv =>
    hb Hb ve σ G1 H1 _ Ξ (c.grow g1) p1 _ fun b y G2 H2 p2 g2 ry => by
      obtain ⟨z, e, p3⟩ := M.opt_inv p2
      unfold maxDefD at e
      split at e
      · rename_i ds d
        split at e
        · rename_i ns h2
          cases e
          cases ry
          rw [intsOf_inv h2] at rv
          obtain ⟨p, us, rfl, _, hp, rr⟩ := rv.lst_inv
          cases rr.ints
          exact ⟨p, ns, d, rfl, rfl, SqL.of (g2.sub _ _ (g2.e _ _ hp)), q _ _ G2 H2 p3 (g1.trans g2) (.int _)⟩
        · cases e
      · cases e
end
end VL

/-! VM44: a property of an own class. -/
namespace VL
open PySem PySem.Spec PyProof.Rows L2
open M (ret bnd nope grd exn opt drw hdl anyA)
def PropC (P : Program) (w : World) (K : Fr) (mg : Str → Option Value) (base : Heap) (k : Nat) (C : Addr) (f : Str) (sp : Sp) : Prop :=
  ∃ (p g : Addr) (fd : FuncData), Cls K C ∧ PropOf K C f p g ∧ FnOk P w K mg base C8.CX0 k g fd ["self"] sp ∧ Binds K fd ["self"] []
theorem pe_propC {X : Cx} {j k : Nat} {C : Addr} {f : Str} {sp : Sp} {e : Expr} {te : TE} {pos : Pos} (c : PropC X.prog X.w X.K X.mg X.base j C f sp) (hr : Room k X.A) (hk : j + 1 ≤ k) (he : PE X e te) (hab : attributeBase e f X.env (eval e X.env) = eval e X.env) : PE X (.Attribute e f pos) (tProp C sp [] C8.E0 te) := by
  obtain ⟨p, g, fd, cl, po, F, b⟩ := c
  exact pe_prop he cl po F (hr.mono hk) b .nil C8.pass0 hab
def insD (C : Addr) : D → Option D
  | .ins c ns ds => if c = C then some (.ins c ns ds) else none
  | _ => none
@[simp] theorem insD_ins (C : Addr) (ns : List Str) (ds : List D) : insD C (.ins C ns ds) = some (.ins C ns ds) := if_pos rfl
def mProp (C : Addr) (mf : List D → M D) (ma : VE → M D) : VE → M D := fun ve => bnd (ma ve) fun a => bnd (opt (insD C a)) fun d => calm (mf [d])
@[simp] theorem mProp_ap {C : Addr} {mf : List D → M D} {ma : VE → M D} {ve : VE} : mProp C mf ma ve = bnd (ma ve) fun a => bnd (opt (insD C a)) fun d => calm (mf [d]) := id rfl
theorem xe_prop [Tbl] {K : Fr} {EE E : XK} {f : Bool} {C : Addr} {mf : List D → M D} {te : TE} {ma : VE → M D} (h : XE K EE false te ma) : XE K EE f (tProp C (spC K f 1 mf) [] E te) (mProp C mf ma) := fun Hb ve σ G H Φ Ξ c m Q q =>
  h Hb ve σ G H _ Ξ c m _ fun a x G1 H1 p1 g1 rv => by
    obtain ⟨d, e, p2⟩ := M.opt_inv p1
    unfold insD at e
    split at e
    · split at e
      · rename_i hc
        cases e
        cases rv with
        | ins h1 h2 h3 =>
          subst hc
          exact ⟨_, _, _, rfl, g1.sub _ _ h1, [_], G1, Φ, g1.sub, .cons (.ins h1 h2 h3) .nil, rfl, p2, (c.grow g1).tb, fun d v G' H' p g r => q d v G' H' p (g1.trans g) (r.h2 (c.grow g1).b)⟩
      · cases e
    · cases e
end VL

/-! VM45: a walk over a tuple that a call gives. -/
namespace VL
open PySem PySem.Spec PyProof.Rows L2
open M (ret bnd nope grd exn opt drw)
section
variable [Tbl] {K : Fr} {EE : XK} {f : Bool} {te : TE} {ma : VE → M D}
def mSeqT (ma : VE → M D) : VE → M (List D) := fun ve => bnd (ma ve) fun a => opt (tTp a)
@[simp] theorem mSeqT_ap {ve : VE} : mSeqT ma ve = bnd (ma ve) fun a => opt (tTp a) := id rfl
@[simp] theorem tTp_tup (ds : List D) : tTp (.tup ds) = some ds := id rfl
theorem xi_seqT (h : XE K EE false te ma) : XI K EE (iSeq K te) (mSeqT ma) := fun Hb ve σ G H Φ Ξ c m R q => .inr (xi_tup h Hb ve σ G H Φ Ξ c m R q)
end
end VL

/-! VM46: [c] * n as a new list; rows of one's own are told. -/
namespace VL
open PySem PySem.Spec PyProof.Rows L2
open M (ret bnd nope grd exn opt drw hdl anyA)
section
variable [Tbl] {K : Fr} {EE : XK} {fr f f1 : Bool} {H0 G0 : Hp} {ρ ρ' : Env} {σ : L2.St} {G G' H H' G1 H1 : Hp} {Ξ : Exn → Prop} {Φ : Oc → Prop} {De : Ends} {d : D} {v : V} {ds : List D} {vs : List V} {fp : Nat → List Addr} {i j : Nat} {s : Slot}
variable {ta tb : TE} {ma mb : VE → M D} {m : Env → M Oc} {ts : TS}
def repL : D → D → Option (List D)
  | .lst [d], .int k => if scalarD d = true ∧ k ≤ 100000 ∧ -100000 ≤ k then some (List.replicate k.toNat d) else none
  | _, _ => none
theorem repL_eq {d : D} {k : Int} (h : scalarD d = true ∧ k ≤ 100000 ∧ -100000 ≤ k) : repL (.lst [d]) (.int k) = some (List.replicate k.toNat d) := if_pos h
def lRep (ma mb : VE → M D) : VE → M (List D) := fun ve => bnd (ma ve) fun a => bnd (mb ve) fun b => opt (repL a b)
@[simp] theorem lRep_ap {ve : VE} : lRep ma mb ve = bnd (ma ve) fun a => bnd (mb ve) fun b => opt (repL a b) := id rfl
theorem xl_rep (ha : XE K EE false ta ma) (hb : XE K EE false tb mb) : XL K EE false (tOp rMulU ta tb) (lRep ma mb) := fun Hb ve σ G H Φ Ξ c m Q q =>
  ha Hb ve σ G H _ Ξ c m _ fun a x G1 H1 p1 g1 r1 => hb Hb ve σ G1 H1 _ Ξ (c.grow g1) p1 _ fun b y G2 H2 p2 g2 r2 => by
    obtain ⟨as, e, p2⟩ := M.opt_inv p2
    unfold repL at e
    split at e
    · rename_i d k
      split at e
      · rename_i hc; cases e
        obtain ⟨hs, h1, h2⟩ := hc
        obtain ⟨p, us, rfl, _, hp, rs⟩ := r1.lst_inv
        cases r2
        cases rs with
        | cons ra rt =>
          cases rt
          rename_i w
          have hp2 : H2 p = some (.lst [w]) := g2.sub _ _ (g2.e _ _ hp)
          refine Or.inr ⟨p, k, [w], rfl, rfl, hp2, by omega, by omega, Evl.sz_of (by simp; omega), fun l hl => ?_⟩
          have eq : (List.replicate k.toNat [w]).flatten = List.replicate k.toNat w := by
            generalize k.toNat = n
            induction n with
            | zero => rfl
            | succ n ih => rw [List.replicate_succ, List.flatten_cons, ih]; rfl
          rw [eq]
          refine q _ l _ G2 _ p2 ((g1.trans g2).trans (Grow.hid g2.sub hl)) (g1.free (g2.free hl)) (fresh_back g2.sub hl) upd_same ?_
          generalize k.toNat = n
          induction n with
          | zero => exact .nil
          | succ n ih => exact .cons (ra.scalar hs) ih
      · cases e
    · cases e
def allSc (rows : List (List D)) : Bool := rows.all fun r => r.all scalarD
theorem scRows {G : Hp} : ∀ {ds : List D} {vs : List V}, RepA K none G ds vs → ds.all scalarD = true → ∀ Hb, RepA K Hb G ds vs
  | _, _, .nil, _, _ => .nil
  | _, _, .cons r t, h, Hb => by
    rw [List.all_cons, Bool.and_eq_true] at h
    exact .cons (r.scalar h.1) (scRows t h.2 Hb)
theorem own_rows : ∀ (ps : List Addr) (rows : List (List D)) (G : Hp), RowsR K G H ps rows → ps.Nodup → (∀ a ∈ ps, H0 a = none ∧ G a = none) → allSc rows = true → Grow G0 H0 G H → ∃ G', Ex G G' ∧ Grow G0 H0 G' H ∧ (∀ a, a ∉ ps → G' a = G a) ∧ RepA K (frh true H0) G' (rows.map D.lst) (ps.map V.ref)
  | [], rows, G, h, _, _, _, gr => by
    cases h
    exact ⟨G, gr.sub.self, gr, fun _ _ => rfl, .nil⟩
  | p :: ps, rows, G, h, nd, hf, hs, gr => by
    cases h with
    | cons h1 r t =>
      rename_i vs ds rows
      have hs : (ds.all scalarD && allSc rows) = true := hs
      rw [Bool.and_eq_true] at hs
      obtain ⟨n1, n2⟩ := List.nodup_cons.mp nd
      obtain ⟨f1, f2⟩ := hf p List.mem_cons_self
      have eg : Ex G (upd G p (.lst vs)) := Ex.new gr.sub.n f2
      obtain ⟨G', e1, g1, k1, r1⟩ := own_rows ps rows (upd G p (.lst vs)) (t.to eg fun _ _ => rfl) n2 (fun a ha => ⟨(hf a (List.mem_cons_of_mem _ ha)).1, by rw [upd_ne (fun z : a = p => n1 (by rw [← z]; exact ha))]; exact (hf a (List.mem_cons_of_mem _ ha)).2⟩) hs.2 (gr.own h1 f2 f1)
      refine ⟨G', eg.trans e1, g1, fun a ha => ?_, .cons (.lst f1 (e1 _ _ upd_same) ((scRows r hs.1 _).mono (eg.trans e1))) r1⟩
      rw [k1 a fun z => ha (List.mem_cons_of_mem _ z), upd_ne (fun z : a = p => ha (by rw [z]; exact List.mem_cons_self))]
theorem StR.frzRw {rows : List (List D)} (h : StR K H0 ρ σ G H fp) (gr : Grow G0 H0 G H) (hi : ρ[i]? = some (.rw rows)) (hs : allSc rows = true) : ∃ G' fp', Ex G G' ∧ Grow G0 H0 G' H ∧ StR K H0 (ρ.set i (.sh true (.lst (rows.map .lst)))) σ G' H fp' := by
  have z := h.sl i _ hi
  have hl : i < ρ.length := (List.getElem?_eq_some_iff.mp hi).1
  obtain ⟨o, hsi⟩ : ∃ o, σ[i]? = some o := ⟨_, List.getElem?_eq_getElem (h.len ▸ hl)⟩
  rw [hsi, Option.getD_some] at z
  have hnd := h.nd i
  generalize hfp : fp i = l at z hnd
  cases z with
  | rw hp r =>
    rename_i p ps
    have fr : ∀ a ∈ p :: ps, H0 a = none ∧ G a = none := fun a ha => ⟨(h.fr i a (by rw [hfp]; exact ha)).1, (h.fr i a (by rw [hfp]; exact ha)).2.1⟩
    obtain ⟨n1, n2⟩ := List.nodup_cons.mp hnd
    obtain ⟨G1, e1, g1, k1, r1⟩ := own_rows ps rows G r n2 (fun a ha => fr a (List.mem_cons_of_mem _ ha)) hs gr
    have gp : G1 p = none := by rw [k1 p n1]; exact (fr p List.mem_cons_self).2
    have e2 : Ex G1 (upd G1 p (.lst (ps.map V.ref))) := Ex.new g1.sub.n gp
    have eg := e1.trans e2
    have kk : ∀ a, a ∉ p :: ps → upd G1 p (.lst (ps.map V.ref)) a = G a := fun a ha => by
      rw [upd_ne (fun z : a = p => ha (by rw [z]; exact List.mem_cons_self)), k1 a fun z => ha (List.mem_cons_of_mem _ z)]
    refine ⟨upd G1 p (.lst (ps.map V.ref)), fset fp i [], eg, g1.own hp gp (fr p List.mem_cons_self).1, by rw [List.length_set, h.len], fun j s e => ?_, fun j e => ?_, fun j a ha => ?_, fun j k a h1 h2 => ?_, fun j => ?_⟩
    · by_cases hj : i = j
      · subst hj
        rw [List.getElem?_set_self hl] at e; cases e
        rw [hsi, Option.getD_some]
        unfold fset; rw [if_pos rfl]
        exact .sh (.lst (fr p List.mem_cons_self).1 upd_same (r1.mono e2))
      · rw [List.getElem?_set_ne hj] at e
        unfold fset; rw [if_neg (fun z => hj z.symm)]
        have zj := h.sl j s e
        revert zj
        generalize (σ[j]?).getD none = o
        generalize fp j = lj
        intro zj
        cases zj with
        | un => exact .un _
        | sh r => exact .sh (r.mono eg)
        | ow hq rq ha => exact .ow hq (rq.mono eg) ha
        | rw hq rq => exact .rw hq (rq.to eg fun _ _ => rfl)
        | jk r hl => exact SlR.jkTo eg (fun _ _ => rfl) r hl
    · unfold fset; split
      · rfl
      · exact h.out j (by rw [List.getElem?_eq_none_iff] at e ⊢; rw [List.length_set] at e; exact e)
    · unfold fset at ha; split at ha
      · cases ha
      · rename_i hne
        obtain ⟨h1, h2, us, h3⟩ := h.fr j a ha
        have q : a ∉ p :: ps := fun q => hne (h.dj j i a ha (by rw [hfp]; exact q))
        exact ⟨h1, by rw [kk a q]; exact h2, us, h3⟩
    · unfold fset at h1 h2; split at h1
      · cases h1
      · split at h2
        · cases h2
        · exact h.dj j k a h1 h2
    · unfold fset; split
      · exact List.nodup_nil
      · exact h.nd j
/-- the rows of slot i are one's own no more -/
def sFrR (i : Nat) (m : Env → M Oc) : Env → M Oc := fun ρ => bnd (opt (getR ρ i)) fun rows => grd (allSc rows = true) (m (ρ.set i (.sh true (.lst (rows.map .lst)))))
@[simp] theorem sFrR_ap : sFrR i m ρ = bnd (opt (getR ρ i)) fun rows => grd (allSc rows = true) (m (ρ.set i (.sh true (.lst (rows.map .lst))))) := id rfl
theorem r_frzR (h : RS K EE fr ts m) : RS K EE fr ts (sFrR i m) := fun G0 H0 ρ σ G H fp De Φ Ξ gr st mm k => by
  obtain ⟨rows, e, hs, mm⟩ := M.opt_inv mm
  obtain ⟨G1, fp1, e1, g1, s1⟩ := st.frzRw gr (getR_inv e) hs
  exact h G0 H0 _ σ G1 H fp1 De Φ Ξ g1 s1 mm (k.on e1)
end
end VL

/-! VM47: isinstance of an own class. -/
namespace VL
open PySem PySem.Spec PyProof.Rows L2
open M (ret bnd nope grd exn opt drw hdl anyA)
section
variable [Tbl] {K : Fr} {f : Bool}
def rIsC (C : Addr) : List V → Hp → VK → Prop := fun xs H Q => ∃ a dx fs, xs = [.ref a, .ref C] ∧ H a = some (.ins C dx fs) ∧ Q (.bl true) H
theorem cr_isC {X : Cx} {C : Addr} (hK : X.K = K) (c : C8.InsC K C) : CallR X (.builtin "isinstance") (rIsC C) := by
  subst hK
  exact C8.call_isC c
def isCD (C : Addr) : List D → Option D
  | [.ins C' _ _, .fn a] => if C' = C ∧ a = C then some (.bl true) else none
  | _ => none
@[simp] theorem isCD_ins (C : Addr) (ns : List Str) (ds : List D) : isCD C [.ins C ns ds, .fn C] = some (.bl true) := if_pos ⟨rfl, rfl⟩
theorem cd_isC {C : Addr} : CbD K f (rIsC C) (isCD C) := fun ds c h => by
  intro G vs rs H e Q q
  unfold isCD at h
  split at h
  · split at h
    · rename_i hc
      obtain ⟨rfl, rfl⟩ := hc
      cases h
      obtain ⟨x, y, rfl, r, r'⟩ := rs.two
      cases r with
      | ins h1 h2 h3 =>
        cases r'
        exact ⟨_, _, _, rfl, e _ _ h1, q _ G H (Grow.refl e) (.bl _)⟩
    · cases h
  · cases h
end
end VL

/-! VM48: for b in x: b[0] = k; b.append(k), x new all through. -/
namespace VL
open PySem PySem.Spec PyProof.Rows L2
open M (ret bnd nope grd exn opt drw hdl anyA)
section
variable [Tbl] {K : Fr} {EE : XK} {fr f f1 : Bool} {H0 G0 : Hp} {ρ ρ' : Env} {σ : L2.St} {G G' H H' G1 H1 : Hp} {Ξ : Exn → Prop} {Φ : Oc → Prop} {De : Ends} {d : D} {v : V} {ds : List D} {vs : List V} {fp : Nat → List Addr} {i j : Nat} {s : Slot}
def isRow : D → Bool
  | .lst (e :: _) => scalarD e
  | _ => false
theorem isRow_inv (h : isRow d = true) : ∃ e es, d = .lst (e :: es) ∧ scalarD e = true := by
  unfold isRow at h
  split at h
  · exact ⟨_, _, rfl, h⟩
  · cases h
theorem StR.jkNone {ex : Bool} {b b' : Nat} (h : StR K H0 ρ σ G H fp) (hi : ρ[i]? = some (.jk ex b (.lst ds))) (hb : b ≤ b') : StR K H0 (ρ.set i (.jk false b' (.lst []))) σ G H fp := by
  have hl : i < ρ.length := (List.getElem?_eq_some_iff.mp hi).1
  refine ⟨by rw [List.length_set, h.len], fun j s e => ?_, fun j e => h.out j (by rw [List.getElem?_eq_none_iff] at e ⊢; rw [List.length_set] at e; exact e), h.fr, h.dj, h.nd⟩
  by_cases hj : i = j
  · subst hj
    rw [List.getElem?_set_self hl] at e; cases e
    have z := h.sl i _ hi
    revert z
    generalize (σ[i]?).getD none = o
    generalize fp i = l
    intro z
    cases z with
    | jk r hbb =>
      cases r with
      | lst ha h1 h2 h3 t =>
        refine .jk (.lst ha h1 (Nat.zero_le _) (fun z => nomatch z) .nil) fun x hx => ?_
        obtain ⟨vs, q1, q2⟩ := hbb x hx
        exact ⟨vs, q1, by omega⟩
  · rw [List.getElem?_set_ne hj] at e
    exact h.sl j s e
/-- a list of one's own is set anew -/
theorem StR.pokeJk {b b' : Nat} {a : Addr} {us : List V} (gself : Ex G G) (h : StR K H0 ρ σ G H fp) (hi : ρ[i]? = some (.jk false b (.lst []))) (ha : a ∈ fp i) (hb : b ≤ b') (hu : us.length ≤ b') : StR K H0 (ρ.set i (.jk false b' (.lst []))) σ G (upd H a (.lst us)) fp := by
  have hl : i < ρ.length := (List.getElem?_eq_some_iff.mp hi).1
  refine ⟨by rw [List.length_set, h.len], fun j s e => ?_, fun j e => ?_, fun j x hx => ?_, h.dj, h.nd⟩
  · by_cases hj : i = j
    · subst hj
      rw [List.getElem?_set_self hl] at e; cases e
      have z := h.sl i _ hi
      revert z ha
      generalize (σ[i]?).getD none = o
      generalize fp i = l
      intro ha z
      cases z with
      | jk r hbb =>
        refine .jk ?_ fun x hx => ?_
        · cases r with
          | lst ha0 h1 h2 h3 t =>
            rename_i a0 vs
            by_cases q : a0 = a
            · subst q
              exact .lst ha0 upd_same (Nat.zero_le _) (fun z => nomatch z) .nil
            · exact .lst ha0 (by rw [upd_ne q]; exact h1) (Nat.zero_le _) (fun z => nomatch z) .nil
        · obtain ⟨vs, h1, h2⟩ := hbb x hx
          by_cases q : x = a
          · subst q
            exact ⟨_, upd_same, hu⟩
          · exact ⟨vs, by rw [upd_ne q]; exact h1, by omega⟩
    · rw [List.getElem?_set_ne hj] at e
      have zj := h.sl j s e
      have hne : ∀ x ∈ fp j, x ≠ a := fun x hx q => hj (h.dj i j a ha (by rw [← q]; exact hx))
      revert zj hne
      generalize (σ[j]?).getD none = o
      generalize fp j = lj
      intro zj hne
      cases zj with
      | un => exact .un _
      | sh r => exact .sh r
      | ow hq rq ha => exact .ow (by rw [upd_ne (hne _ (by simp))]; exact hq) rq ha
      | rw hq rq => exact .rw (by rw [upd_ne (hne _ (by simp))]; exact hq) (rq.to gself fun a ha => upd_ne (hne a (List.mem_cons_of_mem _ ha)))
      | jk r hl => exact SlR.jkTo gself (fun a ha => upd_ne (hne a ha)) r hl
  · exact h.out j (by rw [List.getElem?_eq_none_iff] at e ⊢; rw [List.length_set] at e; exact e)
  · obtain ⟨h1, h2, ws, h3⟩ := h.fr j x hx
    by_cases q : x = a
    · subst q; exact ⟨h1, h2, _, upd_same⟩
    · exact ⟨h1, h2, ws, by rw [upd_ne q]; exact h3⟩
/-- for b in x: b[0] = k; b.append(k) -/
def sJSet (i j : Nat) : Env → M Oc := fun ρ => bnd (opt (getJ ρ i)) fun p => bnd (opt (tLs p.2.2)) fun ds => grd (p.1 = true ∧ ds.all isRow = true ∧ p.2.1 + ds.length < 100000 ∧ i ≠ j ∧ j < ρ.length) (ret (.nx ((ρ.set i (.jk false (p.2.1 + ds.length) (.lst []))).set j .un)))
@[simp] theorem sJSet_ap : sJSet i j ρ = bnd (opt (getJ ρ i)) fun p => bnd (opt (tLs p.2.2)) fun ds => grd (p.1 = true ∧ ds.all isRow = true ∧ p.2.1 + ds.length < 100000 ∧ i ≠ j ∧ j < ρ.length) (ret (.nx ((ρ.set i (.jk false (p.2.1 + ds.length) (.lst []))).set j .un))) := id rfl
theorem r_jSet {k1 k2 : Int} : RS K EE fr (tFor (iSeq K (tVar i)) (gName j) (tSeq (tAsg (tC (.int k1)) (gSub (tVar j) (tC (.int 0)) rSetL)) (tDrop (tBM K "list" rAppend (tVar j) (tCons (tC (.int k2)) tNil))))) (sJSet i j) := fun G0 H0 ρ σ G H fp De Φ Ξ gr st m k => by
  obtain ⟨⟨ex, b, d⟩, e, m⟩ := M.opt_inv m
  have hi := getJ_inv e
  clear e
  obtain ⟨ds, e2, m⟩ := M.opt_inv m
  have e2 : d = .lst ds := tLs_inv e2
  subst e2
  obtain ⟨⟨hx, hal, hbd, hij, hjl⟩, m⟩ := m
  have hx : ex = true := hx
  subst hx
  have hi : ρ[i]? = some (.jk true b (.lst ds)) := hi
  have hbd : b + ds.length < 100000 := hbd
  have m : Φ (.nx ((ρ.set i (.jk false (b + ds.length) (.lst []))).set j .un)) := m
  have li : i < ρ.length := (List.getElem?_eq_some_iff.mp hi).1
  have z := st.sl i _ hi
  obtain ⟨o, ho⟩ : ∃ o, σ[i]? = some o := ⟨_, List.getElem?_eq_getElem (st.len ▸ li)⟩
  rw [ho, Option.getD_some] at z
  generalize hf : fp i = l at z
  cases z with
  | jk r hb =>
    cases r with
    | lst ha h1 h2 h3 t =>
      rename_i a vs
      have hlen := h3 rfl
      rw [hlen, List.take_length] at t
      -- the rows
      have rows : ∀ n x, vs[n]? = some x → ∃ a' us, x = V.ref a' ∧ a' ∈ l ∧ a' ≠ a ∧ H a' = some (.lst us) ∧ 0 < us.length := fun n x hx => by
        have hn : n < ds.length := by have := (List.getElem?_eq_some_iff.mp hx).1; omega
        have hdn : ds[n]? = some ds[n] := List.getElem?_eq_getElem hn
        obtain ⟨x', hx', rx⟩ := t.get hdn
        rw [hx] at hx'; cases hx'
        obtain ⟨e, es, he, hs⟩ := isRow_inv (List.all_eq_true.mp hal _ (List.getElem_mem hn))
        rw [he] at rx
        cases rx with
        | lst ha' q1 q2 q3 q4 =>
          rename_i a' ws
          have hwl : 0 < ws.length := by rw [List.length_cons] at q2; omega
          refine ⟨a', ws, rfl, ha', fun z => ?_, q1, hwl⟩
          subst z
          rw [h1] at q1; cases q1
          -- the first item of a row is no list
          have h0 : ds[0]? = some ds[0] := List.getElem?_eq_getElem (by omega)
          obtain ⟨y, hy, ry⟩ := t.get h0
          obtain ⟨e', es', he', hs'⟩ := isRow_inv (List.all_eq_true.mp hal _ (List.getElem_mem (show 0 < ds.length by omega)))
          rw [he'] at ry
          cases ry with
          | lst _ _ _ _ _ =>
            rename_i a'' ws''
            cases vs with
            | nil => simp at hy
            | cons v0 vt =>
              simp at hy
              rw [hy] at q4
              rw [List.length_cons, List.take_succ_cons] at q4
              cases q4 with
              | cons qa qb => cases qa <;> simp [scalarD] at hs
      refine .inl ⟨.ref a, ho, a, rfl, ⟨vs, SqL.of h1⟩, ?_⟩
      have st1 := (st.jkNone (b' := b) hi (Nat.le_refl _)).forget (i := j)
      have fi : fset fp j [] i = l := by unfold fset; rw [if_neg hij]; exact hf
      let ρt : Nat → Env := fun n => (ρ.set i (.jk false (b + n) (.lst []))).set j .un
      have ρi : ∀ n, (ρt n)[i]? = some (.jk false (b + n) (.lst [])) := fun n => by
        show ((ρ.set i _).set j .un)[i]? = _
        rw [List.getElem?_set_ne (Ne.symm hij), List.getElem?_set_self li]
      refine L2.for_it (J := Itl K a) (n := vs.length) walk_list (fun n σ' H' => ∃ G', Ex G G' ∧ Grow G0 H0 G' H' ∧ StR K H0 (ρt n) σ' G' H' (fset fp j []) ∧ H' a = some (.lst vs) ∧ ∀ n x, vs[n]? = some x → ∃ a' us, x = V.ref a' ∧ a' ∈ l ∧ a' ≠ a ∧ H' a' = some (.lst us) ∧ 0 < us.length) ⟨G, gr.sub.self, gr, st1, h1, rows⟩ (fun n σ' H' _ ⟨G', e1, g1, _, ha1, _⟩ => SqL.of ha1) ?_ ?_
      · rintro n x σ' H' H2 hn ⟨G', e1, g1, s1, ha1, hr⟩ ⟨e0, hxn⟩
        rw [e0]
        clear e0
        obtain ⟨a', us, rfl, ha', hne, hus, hul⟩ := hr n x hxn
        have ha2 : a' ∈ fset fp j [] i := by rw [fi]; exact ha'
        have s2 : StR K H0 (ρt n) (σ'.set j (some (.ref a'))) G' H' (fset fp j []) := by
          have q1 := s1.unset (i := j) (some (V.ref a'))
          have q2 : (ρt n).set j .un = ρt n := by
            show ((ρ.set i _).set j .un).set j .un = _
            rw [List.set_set]
          have q3 : fset (fset fp j []) j [] = fset fp j [] := by
            funext y
            unfold fset
            split <;> rfl
          rw [q2, q3] at q1
          exact q1
        have hub : us.length ≤ b + n := by
          have z := s2.sl i _ (ρi n)
          revert z ha2
          generalize ((σ'.set j (some (V.ref a')))[i]?).getD none = o
          generalize fset fp j [] i = l'
          intro ha2 z
          cases z with
          | jk r hbb =>
            obtain ⟨ws, hw1, hw2⟩ := hbb a' ha2
            rw [hus] at hw1; cases hw1; exact hw2
        have hjl' : j < σ'.length := by rw [← s1.len]; show j < ((ρ.set i _).set j .un).length; rw [List.length_set, List.length_set]; exact hjl
        have i0 : ixN us.length 0 = some 0 := by unfold ixN; rw [if_pos (by omega), if_pos (by omega)]; rfl
        have hfr := s2.fr i a' ha2
        have hg1 : (upd H' a' (.lst (us.set 0 (.int k1)))) a' = some (.lst (us.set 0 (.int k1))) := upd_same
        refine ⟨.ref a', List.getElem?_set_self hjl', a', us, 0, 0, rfl, rfl, hus, i0, .ref a', List.getElem?_set_self hjl', .inl ⟨rfl, _, SqL.of hg1⟩, a', us.set 0 (.int k1), .int k2, rfl, rfl, hg1, Evl.sz_lt (by rw [List.length_set]; omega), ?_⟩
        have eu : upd (upd H' a' (.lst (us.set 0 (.int k1)))) a' (.lst (us.set 0 (.int k1) ++ [.int k2])) = upd H' a' (.lst (us.set 0 (.int k1) ++ [.int k2])) := by
          funext y
          by_cases q : y = a'
          · subst q; rw [upd_same, upd_same]
          · rw [upd_ne q, upd_ne q, upd_ne q]
        rw [eu]
        refine ⟨G', e1, g1.put hfr.1 hfr.2.1 (by rw [hus]; rfl), ?_, by rw [upd_ne (Ne.symm hne)]; exact ha1, fun n' x' hx' => ?_⟩
        · have q1 := s2.pokeJk (b' := b + n + 1) (us := us.set 0 (.int k1) ++ [.int k2]) g1.sub.self (ρi n) ha2 (by omega) (by rw [List.length_append, List.length_set, List.length_singleton]; omega)
          have q2 : (ρt n).set i (.jk false (b + n + 1) (.lst [])) = ρt (n + 1) := by
            show ((ρ.set i _).set j .un).set i _ = (ρ.set i _).set j .un
            rw [List.set_comm _ _ (Ne.symm hij), List.set_set]
            rfl
          rw [q2] at q1
          exact q1
        · obtain ⟨c', ws, hc1, hc2, hc3, hc4, hc5⟩ := hr n' x' hx'
          by_cases q : c' = a'
          · subst q
            exact ⟨c', _, hc1, hc2, hc3, upd_same, by rw [List.length_append, List.length_singleton]; omega⟩
          · exact ⟨c', ws, hc1, hc2, hc3, by rw [upd_ne q]; exact hc4, hc5⟩
      · rintro σ' H' ⟨G', e1, g1, s1, _, _⟩
        rw [← hlen] at s1
        exact k.nx _ _ G' H' _ m e1 g1 s1
end
end VL

/-! VM49: try: return e; except C without a name. -/
namespace VL
open PySem PySem.Spec PyProof.Rows L2
open M (ret bnd nope grd exn opt drw hdl anyA)
section
variable [Tbl] {K : Fr} {EE : XK} {fr f f1 : Bool} {H0 G0 : Hp} {ρ ρ' : Env} {σ : L2.St} {G G' H H' G1 H1 : Hp} {Ξ : Exn → Prop} {Φ : Oc → Prop} {De : Ends} {d : D} {v : V} {ds : List D} {vs : List V} {fp : Nat → List Addr} {i j : Nat} {s : Slot}
variable {te ta tb : TE} {ma mb me : VE → M D}
/-- e op e2, e may let an exception out -/
theorem xs_op {r : R2} {o : D → D → Option D} {tes : (L2.St → XK) → TE} (ho : OpD K f f1 r o) (ha : XS K f1 tes ma) (hb : ∀ EE, XE K EE f1 tb mb) : XS K f (fun ES => tOp r (tes ES) tb) (m2 o ma mb) := fun ES Hb ve σ G H Φ Ξ c m Q q =>
  ha ES Hb ve σ G H _ Ξ c m _ fun a x G1 H1 p1 g1 r1 => hb (ES σ) Hb ve σ G1 H1 _ Ξ (c.grow g1) p1 _ fun b y G2 H2 p2 g2 r2 => by
    obtain ⟨z, e, p2⟩ := M.opt_inv p2
    exact ho a b z e G2 x y Hb (r1.mono g2.e) r2 H2 g2.sub ((c.grow g1).grow g2).b Q fun v G3 H3 g3 r3 => q z v G3 H3 p2 ((g1.trans g2).trans g3) r3
/-- the clause without a name -/
def mHandO (yes no : List Addr) (mh : Addr → Addr → Addr → Env → M Oc) (ρ : Env) : Exn → M Oc := fun x =>
  if x.c ∈ yes then anyA fun a => anyA fun d => mh a x.c d ρ else if x.c ∈ no then exn x else nope
theorem handO_ok {c : Value} {yes no : List Addr} {mh : Addr → Addr → Addr → Env → M Oc} {th : Addr → Value → Option Addr → TS} (hc : ExcCl K c yes no) (hh : ∀ a c0 d, RS K EE fr (th a (.ref c0) (some d)) (mh a c0 d))
    (gr : Grow G0 H0 G H) (st : StR K H0 ρ σ G H fp) (k : EndOk K EE fr G0 H0 G De Φ Ξ) : ∀ (x : Exn) cls d G' H', mHandO yes no mh ρ x Φ Ξ → Grow G H G' H' → ExR K x cls d G' → wOnly K c th (fun cls d _ H => EE cls d H) De cls d σ H' := fun x cls d G' H' hx g r => by
  unfold mHandO at hx
  obtain ⟨rfl, ex, fs, rfl, h1, h2, h3⟩ := id r
  split at hx
  · rename_i hy
    refine ⟨true, hc.y _ hy, fun _ a ha => ?_, fun z => by cases z⟩
    exact hh a x.c ex G0 H0 _ _ G' H' _ _ _ Ξ (gr.trans g) (st.grow g) (hx a ex) ⟨fun ρ3 σ3 G3 H3 fp3 p3 e3 g3 s3 => k.nx _ _ G3 H3 _ p3 (g.e.trans e3) g3 s3, k.rt, fun ρ3 σ3 G3 H3 fp3 p3 e3 g3 s3 => k.bk _ _ G3 H3 _ p3 (g.e.trans e3) g3 s3, fun ρ3 σ3 G3 H3 fp3 p3 e3 g3 s3 => k.ct _ _ G3 H3 _ p3 (g.e.trans e3) g3 s3, k.ex, k.tb⟩
  · split at hx
    · rename_i hn
      exact ⟨false, hc.n _ hn, (fun z => nomatch z), fun _ => k.ex x _ _ G' H' hx (gr.trans g) r⟩
    · exact hx.elim
/-- try: return e -/
def sTryR (me : VE → M D) (h : Env → Exn → M Oc) : Env → M Oc := fun ρ => hdl (me (vA ρ)) (fun d => ret (.rt ρ d)) (h ρ)
@[simp] theorem sTryR_ap {h : Env → Exn → M Oc} : sTryR me h ρ = hdl (me (vA ρ)) (fun d => ret (.rt ρ d)) (h ρ) := id rfl
theorem r_tryR {tes : (L2.St → XK) → TE} {c : Value} {yes no : List Addr} {mh : Addr → Addr → Addr → Env → M Oc} {th : Addr → Value → Option Addr → TS} (hb : XS K fr tes me) (hc : ExcCl K c yes no) (hh : ∀ a c0 d, RS K EE fr (th a (.ref c0) (some d)) (mh a c0 d)) :
    RS K EE fr (fun D σ H => tRet (tes (WE (wAs K c i th (fun cls d _ H => EE cls d H) D))) D σ H) (sTryR me (mHand yes no i mh)) := fun G0 H0 ρ σ G H fp De Φ Ξ gr st m k =>
  hb (WE (wAs K c i th (fun cls d _ H => EE cls d H) De)) H0 _ σ G H (fun d => Φ (.rt ρ d)) (fun x => mHand yes no i mh ρ x Φ Ξ) ⟨st.vA, gr.sub, gr.ext, hand_ok hc hh gr st k, gr.ext.t k.tb⟩ m _ fun d v G1 H1 p g r => k.rt _ _ d v G1 H1 _ p (gr.trans g) (st.grow g) r
theorem r_tryRO {tes : (L2.St → XK) → TE} {c : Value} {yes no : List Addr} {mh : Addr → Addr → Addr → Env → M Oc} {th : Addr → Value → Option Addr → TS} (hb : XS K fr tes me) (hc : ExcCl K c yes no) (hh : ∀ a c0 d, RS K EE fr (th a (.ref c0) (some d)) (mh a c0 d)) :
    RS K EE fr (fun D σ H => tRet (tes (WE (wOnly K c th (fun cls d _ H => EE cls d H) D))) D σ H) (sTryR me (mHandO yes no mh)) := fun G0 H0 ρ σ G H fp De Φ Ξ gr st m k =>
  hb (WE (wOnly K c th (fun cls d _ H => EE cls d H) De)) H0 _ σ G H (fun d => Φ (.rt ρ d)) (fun x => mHandO yes no mh ρ x Φ Ξ) ⟨st.vA, gr.sub, gr.ext, handO_ok hc hh gr st k, gr.ext.t k.tb⟩ m _ fun d v G1 H1 p g r => k.rt _ _ d v G1 H1 _ p (gr.trans g) (st.grow g) r
theorem r_tryAO {tes : (L2.St → XK) → TE} {jx : Nat} {c : Value} {yes no : List Addr} {mh : Addr → Addr → Addr → Env → M Oc} {th : Addr → Value → Option Addr → TS} (hb : XS K f tes me) (hc : ExcCl K c yes no) (hh : ∀ a c0 d, RS K EE fr (th a (.ref c0) (some d)) (mh a c0 d)) :
    RS K EE fr (fun D σ H => tAsg (tes (WE (wOnly K c th (fun cls d _ H => EE cls d H) D))) (gName jx) D σ H) (sTryA f jx me (mHandO yes no mh)) := fun G0 H0 ρ σ G H fp De Φ Ξ gr st m k =>
  hb (WE (wOnly K c th (fun cls d _ H => EE cls d H) De)) H0 _ σ G H (fun d => Φ (.nx (ρ.set jx (.sh f d)))) (fun x => mHandO yes no mh ρ x Φ Ξ) ⟨st.vA, gr.sub, gr.ext, handO_ok hc hh gr st k, gr.ext.t k.tb⟩ m _ fun d v G1 H1 p g r => k.nx _ _ G1 H1 _ p g.e (gr.trans g) ((st.grow g).setSh r)
theorem r_tryDO {tes : (L2.St → XK) → TE} {c : Value} {yes no : List Addr} {mh : Addr → Addr → Addr → Env → M Oc} {th : Addr → Value → Option Addr → TS} (hb : XS K false tes me) (hc : ExcCl K c yes no) (hh : ∀ a c0 d, RS K EE fr (th a (.ref c0) (some d)) (mh a c0 d)) :
    RS K EE fr (fun D σ H => tDrop (tes (WE (wOnly K c th (fun cls d _ H => EE cls d H) D))) D σ H) (sTryD me (mHandO yes no mh)) := fun G0 H0 ρ σ G H fp De Φ Ξ gr st m k =>
  hb (WE (wOnly K c th (fun cls d _ H => EE cls d H) De)) H0 _ σ G H (fun _ => Φ (.nx ρ)) (fun x => mHandO yes no mh ρ x Φ Ξ) ⟨st.vA, gr.sub, gr.ext, handO_ok hc hh gr st k, gr.ext.t k.tb⟩ m _ fun d v G1 H1 p g r => k.nx _ _ G1 H1 _ p g.e (gr.trans g) (st.grow g)
end
end VL

/-! VM50: a list of any data times a number. -/
namespace VL
open PySem PySem.Spec PyProof.Rows L2
open M (ret bnd nope grd exn opt drw hdl anyA)
section
variable [Tbl] {K : Fr} {f f1 : Bool}
def repD (n : Nat) (ds : List D) : List D := (List.replicate n ds).flatten
def mulLD : D → D → Option D
  | .lst ds, .int k => if ds.length * k.toNat ≤ 100000 ∧ k ≤ 100000 ∧ -100000 ≤ k then some (.lst (repD k.toNat ds)) else none
  | _, _ => none
theorem mulLD_eq {ds : List D} {k : Int} (h : ds.length * k.toNat ≤ 100000 ∧ k ≤ 100000 ∧ -100000 ≤ k) : mulLD (.lst ds) (.int k) = some (.lst (repD k.toNat ds)) := if_pos h
theorem rep_repD {fr : Option Hp} {G : Hp} {ds : List D} {vs : List V} (h : RepA K fr G ds vs) : ∀ n, RepA K fr G (repD n ds) (List.replicate n vs).flatten
  | 0 => .nil
  | n + 1 => by
    unfold repD
    rw [List.replicate_succ, List.replicate_succ, List.flatten_cons, List.flatten_cons]
    exact h.append (rep_repD h n)
theorem od_mulL : OpD K false f1 rMulU mulLD := fun a b c h => by
  unfold mulLD at h
  split at h
  · split at h
    · rename_i ds k hc; cases h
      obtain ⟨h0, h1, h2⟩ := hc
      refine .right fun G x y H0 ra rb H e e0 Q q => ?_
      obtain ⟨p, vs, rfl, fp, hp, rs⟩ := ra.lst_inv
      cases rb
      refine ⟨p, k, vs, rfl, rfl, e _ _ hp, by omega, by omega, Evl.sz_of (by rw [← rs.length]; exact h0), fun n hn => ?_⟩
      have g := Grow.laid (o := .lst (List.replicate k.toNat vs).flatten) e hn
      exact q _ _ _ g (.lst trivial upd_same ((rep_repD rs.old k.toNat).mono g.e))
    · cases h
  · cases h
end
end VL

/-! VM51: xs.extend(e), e any data. -/
namespace VL
open PySem PySem.Spec PyProof.Rows L2
open M (ret bnd nope grd exn opt drw hdl anyA)
section
variable [Tbl] {K : Fr} {EE : XK} {fr : Bool} {ρ : Env} {i : Nat} {te : TE} {me : VE → M D}
theorem RepA.weakR {f f2 : Bool} {G H : Hp} {ds : List D} {vs : List V} (r : RepA K (frh f2 H) G ds vs) : RepA K (frh (f && f2) H) G ds vs := by
  cases f with
  | true => rw [Bool.true_and]; exact r
  | false => rw [Bool.false_and]; exact r.old
/-- xs.extend(e) -/
def sExt (f2 : Bool) (i : Nat) (me : VE → M D) : Env → M Oc := fun ρ => bnd (opt (getO ρ i)) fun p => bnd (me (vA ρ)) fun d => bnd (opt (tLs d)) fun es => grd (p.2.2.length + es.length ≤ 100000) (ret (.nx (ρ.set i (.ow p.1 (p.2.1 && f2) (p.2.2 ++ es)))))
@[simp] theorem sExt_ap (f2 : Bool) : sExt f2 i me ρ = bnd (opt (getO ρ i)) fun p => bnd (me (vA ρ)) fun d => bnd (opt (tLs d)) fun es => grd (p.2.2.length + es.length ≤ 100000) (ret (.nx (ρ.set i (.ow p.1 (p.2.1 && f2) (p.2.2 ++ es))))) := id rfl
theorem r_ext {f2 : Bool} (h : XE K EE f2 te me) : RS K EE fr (tDrop (tBM K "list" rExtend (tVar i) (tCons te tNil))) (sExt f2 i me) := fun G0 H0 ρ σ G H fp De Φ Ξ gr st m k => by
  obtain ⟨⟨ad, f, ds⟩, e, m⟩ := M.opt_inv m
  have hi := getO_inv e
  obtain ⟨p, vs, hv, hp, rs, h0, hg, _⟩ := st.put gr.sub.self hi
  refine ⟨.ref p, hv, .inl ⟨rfl, vs, SqL.of hp⟩, h H0 _ σ G H _ Ξ (k.cvA gr st) m _ fun d v G1 H1 pm g1 r => ?_⟩
  obtain ⟨es, e2, hl, pm⟩ := M.opt_inv pm
  rw [tLs_inv e2] at r
  have st1 := st.grow g1
  obtain ⟨p', vs', hv', hp', rs', h0', hg', put⟩ := st1.put g1.sub.self hi
  rw [hv] at hv'; cases hv'
  obtain ⟨q, us, rfl, fq, hq, rq⟩ := r.lst_inv
  refine ⟨p, q, vs', us, rfl, rfl, hp', g1.sub _ _ hq, Evl.sz_of (by rw [← rs'.length, ← rq.length]; exact hl), ?_⟩
  exact k.nx _ _ G1 _ _ pm g1.e ((gr.trans g1).put h0 hg' (by rw [hp']; rfl)) (put _ _ _ (rs'.weak.append (RepA.weakR rq)))
/-- xs[j] = e, e new -/
def sSetB (i : Nat) (mi me : VE → M D) : Env → M Oc := fun ρ => bnd (me (vB ρ)) fun d => bnd (opt (getO ρ i)) fun p => bnd (mi (vB ρ)) fun x => bnd (opt (tIn x)) fun j => bnd (opt (ixN p.2.2.length j)) fun k => ret (.nx (ρ.set i (.ow p.1 p.2.1 (p.2.2.set k d))))
@[simp] theorem sSetB_ap {mi me : VE → M D} : sSetB i mi me ρ = bnd (me (vB ρ)) fun d => bnd (opt (getO ρ i)) fun p => bnd (mi (vB ρ)) fun x => bnd (opt (tIn x)) fun j => bnd (opt (ixN p.2.2.length j)) fun k => ret (.nx (ρ.set i (.ow p.1 p.2.1 (p.2.2.set k d)))) := id rfl
theorem r_setB {ti : TE} {mi' : VE → M D} (h : XE K EE true te me) (hi : XE K EE false ti mi') : RS K EE fr (tAsg te (gSub (tVar i) ti rSetL)) (sSetB i mi' me) := fun G0 H0 ρ σ G H fp De Φ Ξ gr st m k =>
  h H _ σ _ H _ Ξ (k.cvB gr st) m _ fun d v G1 H1 pm g1 r => by
    obtain ⟨⟨ad, f, ds⟩, e, pm⟩ := M.opt_inv pm
    have hO := getO_inv e
    have g' := st.evB gr g1
    have gr1 := gr.trans g'
    have st1 := st.grow g'
    have k1 := k.on g'.e
    have r' : Rep K (frh f H0) (lessG fp (List.length ρ) G1) d v := (st.repB gr g1 r).any
    obtain ⟨p, vs, hv, hp, rs, h0, hg, _⟩ := st1.put g'.sub.self hO
    refine ⟨.ref p, hv, hi H1 _ σ _ H1 _ Ξ (k1.cvB gr1 st1) pm _ fun x w G2 H2 pm2 g2 r2 => ?_⟩
    obtain ⟨j, ej, pm2⟩ := M.opt_inv pm2
    obtain ⟨kk, ek, pm2⟩ := M.opt_inv pm2
    rw [tIn_inv ej] at r2
    have g2' := st1.evB gr1 g2
    have st2 := st1.grow g2'
    obtain ⟨p', vs', hv', hp', rs', h0', hg', put⟩ := st2.put g2'.sub.self hO
    rw [hv] at hv'; cases hv'
    refine ⟨p, vs', j, kk, rfl, r2.int_inv, hp', by rw [← rs'.length]; exact ek, ?_⟩
    exact k1.nx _ _ _ _ _ pm2 g2'.e ((gr1.trans g2').put h0 hg' (by rw [hp']; rfl)) (put _ _ _ (rs'.set _ (r'.mono g2'.e)))
/-! a + b of lists of scalars, new; list(range(a, b)) -/
def addSD : D → D → Option D
  | .lst a, .lst b => if a.length + b.length ≤ 100000 ∧ (∀ d ∈ a, scalarD d = true) ∧ ∀ d ∈ b, scalarD d = true then some (.lst (a ++ b)) else none
  | _, _ => none
theorem addSD_lst {a b : List D} (h : a.length + b.length ≤ 100000 ∧ (∀ d ∈ a, scalarD d = true) ∧ ∀ d ∈ b, scalarD d = true) : addSD (.lst a) (.lst b) = some (.lst (a ++ b)) := if_pos h
theorem od_addS {f : Bool} : OpD K f false (rAddU K) addSD := fun a b c h => by
  unfold addSD at h
  split at h
  · rename_i ds es
    split at h
    · rename_i hl; cases h
      obtain ⟨hl, h1, h2⟩ := hl
      refine .left (.right fun G x y H0 ra rb H e e0 Q q => ?_)
      obtain ⟨p, vs, rfl, fp, hp, rs⟩ := ra.lst_inv
      obtain ⟨p2, us, rfl, fp2, hp2, rs2⟩ := rb.lst_inv
      refine ⟨p, p2, vs, us, rfl, rfl, e _ _ hp, e _ _ hp2, Evl.sz_of (by rw [← rs.length, ← rs2.length]; exact hl), fun n hn => ?_⟩
      have g := Grow.laid (o := .lst (vs ++ us)) e hn
      exact q (.ref n) _ _ g (.lst (frh_new e0 hn) upd_same ((rs.scalars h1).append (rs2.scalars h2)))
    · cases h
  · cases h
def rgl2 (o : List D → D) : List D → Option D
  | [.int a, .int b] => if -100000 ≤ a ∧ a ≤ 100000 ∧ -100000 ≤ b ∧ b ≤ 100000 then some (o ((rng a (b - a).toNat).map D.int)) else none
  | _ => none
theorem rgl2_eq {o : List D → D} {a b : Int} (h : -100000 ≤ a ∧ a ≤ 100000 ∧ -100000 ≤ b ∧ b ≤ 100000) : rgl2 o [.int a, .int b] = some (o ((rng a (b - a).toNat).map D.int)) := if_pos h
theorem rgV_eq2 (a b : Int) : rgV a b = (rng a (b - a).toNat).map V.int := by
  unfold rgV rng
  rw [List.map_map]; rfl
theorem xe_listRg2 {f : Bool} {ta tb : TE} {ma mb : VE → M D} (ha : XE K EE false ta ma) (hb : XE K EE false tb mb) : XE K EE f (tLstRg (tRg2 ta tb)) (mCb (rgl2 .lst) (aCons ma (aCons mb aNil))) := fun Hb ve σ G H Φ Ξ c m Q q =>
  ha Hb ve σ G H _ Ξ c m _ fun a x G1 H1 p1 g1 rv => hb Hb ve σ G1 H1 _ Ξ (c.grow g1) p1 _ fun b y G2 H2 p2 g2 rw2 => by
    obtain ⟨z, e, p3⟩ := M.opt_inv (show opt (rgl2 .lst [a, b]) Φ Ξ from p2)
    unfold rgl2 at e
    split at e
    · rename_i n k hn0
      split at e
      · rename_i hb; cases e
        cases hn0
        cases rv; cases rw2
        refine ⟨n, k, rfl, rfl, ⟨by omega, by omega, by omega, by omega, by omega⟩, fun p hp => ?_⟩
        rw [rgV_eq2]
        have g := Grow.laid (o := .lst ((rng n (k - n).toNat).map V.int)) g2.sub hp
        exact q _ (.ref p) _ _ p3 ((g1.trans g2).trans g) (.lst (frh_new ((c.grow g1).grow g2).b hp) upd_same (RepA.ofInts _))
      · cases e
    · cases e
end
end VL

/-! VM52: a def that adds a 0 to all lists of a tuple that it is given. -/
namespace VL
open PySem PySem.Spec PyProof.Rows L2
open M (ret bnd nope grd exn opt drw hdl anyA)
section
variable [Tbl] {K : Fr} {H : Hp} {l : List Addr} {b : Nat}
def zer (k : Nat) : List V := List.replicate k (.int 0)
/-- each list of l has k zeros more -/
def Hk (H : Hp) (l : List Addr) (k : Addr → Nat) : Hp := fun a => if a ∈ l then (match H a with
  | some (.lst vs) => some (.lst (vs ++ zer (k a)))
  | o => o) else H a
def bump (k : Addr → Nat) (a : Addr) : Addr → Nat := fun x => if x = a then k a + 1 else k x
theorem hk_at {k : Addr → Nat} {a : Addr} {vs : List V} (ha : a ∈ l) (e : H a = some (.lst vs)) : Hk H l k a = some (.lst (vs ++ zer (k a))) := by
  unfold Hk
  rw [if_pos ha, e]
theorem hk_ne {k : Addr → Nat} {a : Addr} (ha : a ∉ l) : Hk H l k a = H a := if_neg ha
theorem hk_zero (hl : ∀ a ∈ l, ∃ vs, H a = some (.lst vs) ∧ vs.length ≤ b) : Hk H l (fun _ => 0) = H := by
  funext a
  by_cases h : a ∈ l
  · obtain ⟨vs, e, _⟩ := hl a h
    rw [hk_at h e, e]
    simp [zer]
  · exact hk_ne h
theorem hk_upd {k : Addr → Nat} {a : Addr} {vs : List V} (ha : a ∈ l) (e : H a = some (.lst vs)) : upd (Hk H l k) a (.lst (vs ++ zer (k a) ++ [.int 0])) = Hk H l (bump k a) := by
  funext x
  by_cases h : x = a
  · subst h
    rw [upd_same, hk_at ha e]
    unfold bump zer
    rw [if_pos rfl, List.append_assoc, List.replicate_succ']
  · rw [upd_ne h]
    unfold Hk bump
    rw [if_neg h]
theorem sqT_hk {k : Addr → Nat} {a : Addr} {xs : List V} (hl : ∀ a ∈ l, ∃ vs, H a = some (.lst vs) ∧ vs.length ≤ b) (h : SqT K H a xs) : SqT K (Hk H l k) a xs := by
  have one : ∀ o, H a = some o → (∀ vs, o ≠ .lst vs) → Hk H l k a = some o := fun o e n => by
    rw [hk_ne, e]
    intro ha
    obtain ⟨vs, e2, _⟩ := hl a ha
    rw [e] at e2
    cases e2
    exact n _ rfl
  rcases h with (h | ⟨o, h⟩) | h
  · exact .inl (.inl (one _ h (by intro _ z; cases z)))
  · exact .inl (.inr ⟨o, one _ h (by intro _ z; cases z)⟩)
  · exact .inr h
def spTy : List String := ["NoneType", "bool", "int", "str"]
def spSc (K : Fr) (x : V) : Prop := ∃ T ∈ spTy, ∀ H, TyX K H x (.type T)
/-- an item of a part: no list, or a list of l -/
def rowV (K : Fr) (l : List Addr) (p : Addr) (x : V) : Prop := spSc K x ∨ ∃ q ∈ l, x = .ref q ∧ q ≠ p
def partV (K : Fr) (l : List Addr) (H : Hp) (x : V) : Prop := spSc K x ∨ ∃ p ∈ l, ∃ vs, x = .ref p ∧ H p = some (.lst vs) ∧ ∀ y ∈ vs, rowV K l p y
theorem kit_no {T : String} (h : T ∈ spTy) : PySem.W.kitOne K (.type T) (.type "list") = some false := by
  have : kitB T "list" = some false := by
    rw [kit_tab T "list" (by
      simp only [spTy, List.mem_cons, List.not_mem_nil, or_false] at h ⊢
      rcases h with h | h | h | h <;> simp [h]) (by decide)]
    simp only [spTy, List.mem_cons, List.not_mem_nil, or_false] at h
    rcases h with rfl | rfl | rfl | rfl <;> decide
  exact kit_ty this
theorem kit_yes : PySem.W.kitOne K (.type "list") (.type "list") = some true := by
  have : kitB "list" "list" = some true := by rw [kit_tab "list" "list" (by decide) (by decide)]; decide
  exact kit_ty this
theorem isl_no {σ : L2.St} {i : Nat} {x : V} {t u : TS} {D : Ends} (hi : σ[i]? = some (some x)) (h : spSc K x) (q : u D σ H) : tIfS (tB (tCB (rIsi K) (tCons (tVar i) (tCons (tC (V.ty "list")) tNil)))) t u D σ H := by
  obtain ⟨T, hT, ht⟩ := h
  exact ⟨x, hi, x, .ty "list", .type T, .type "list", false, rfl, .ty "list", ht H, kit_no hT, false, rfl, by show (if false = true then t D σ H else u D σ H); rw [if_neg Bool.false_ne_true]; exact q⟩
theorem isl_yes {σ : L2.St} {i : Nat} {p : Addr} {vs : List V} {t u : TS} {D : Ends} (hi : σ[i]? = some (some (.ref p))) (h : H p = some (.lst vs)) (q : t D σ H) : tIfS (tB (tCB (rIsi K) (tCons (tVar i) (tCons (tC (V.ty "list")) tNil)))) t u D σ H :=
  ⟨.ref p, hi, .ref p, .ty "list", .type "list", .type "list", true, rfl, .ty "list", .base (.lst h), kit_yes, true, rfl, by show (if true = true then t D σ H else u D σ H); rw [if_pos rfl]; exact q⟩
theorem add0 {σ : L2.St} {i : Nat} {p : Addr} {vs : List V} {k : Addr → Nat} {D : Ends} (hi : σ[i]? = some (some (.ref p))) (hp : p ∈ l) (e : H p = some (.lst vs)) (hs : vs.length + k p < 100000) (q : D.nx σ (Hk H l (bump k p))) : tDrop (tBM K "list" rAppend (tVar i) (tCons (tC (V.int 0)) tNil)) D σ (Hk H l k) := by
  refine ⟨.ref p, hi, .inl ⟨rfl, _, SqL.of (hk_at hp e)⟩, p, vs ++ zer (k p), .int 0, rfl, rfl, hk_at hp e, Evl.sz_lt (by rw [List.length_append]; unfold zer; rw [List.length_replicate]; exact hs), ?_⟩
  rw [hk_upd hp e]
  exact q
theorem spoil_main {a : Addr} {xs : List V} (hT : SqT K H a xs) (hx : xs.length ≤ 20) (hb : b ≤ 1000) (hl : ∀ a ∈ l, ∃ vs, H a = some (.lst vs) ∧ vs.length ≤ b) (hp : ∀ x ∈ xs, partV K l H x) {D : Ends} {σ : L2.St} (h0 : σ[0]? = some (some (.ref a))) (hlen : σ.length = 3) (hd : ∀ σ' k, D.nx σ' (Hk H l k)) :
    tFor (iSeq K (tVar 0)) (gName 1)
      (tIfS (tB (tCB (rIsi K) (tCons (tVar 1) (tCons (tC (V.ty "list")) tNil))))
        (tSeq
          (tFor (iSeq K (tVar 1)) (gName 2)
            (tIfS (tB (tCB (rIsi K) (tCons (tVar 2) (tCons (tC (V.ty "list")) tNil))))
              (tDrop (tBM K "list" rAppend (tVar 2) (tCons (tC (V.int 0)) tNil))) tNext))
          (tDrop (tBM K "list" rAppend (tVar 1) (tCons (tC (V.int 0)) tNil))))
        tNext) D σ H := by
  refine .inr ⟨.ref a, h0, a, rfl, ⟨xs, hT⟩, ?_⟩
  refine L2.for_it (J := Itt K a) (n := xs.length) walk_tup (fun n σ' H' => σ'.length = 3 ∧ ∃ k, H' = Hk H l k ∧ ∀ a, k a ≤ n * (b + 1)) ⟨hlen, fun _ => 0, (hk_zero hl).symm, fun _ => Nat.zero_le _⟩ (fun n σ' H' _ ⟨_, k, e, _⟩ => by rw [e]; exact sqT_hk hl hT) ?_ ?_
  · rintro n x σ' H' H2 hn ⟨hs, k, rfl, hk⟩ ⟨e0, hxn⟩
    rw [e0]
    clear e0
    have hn1 : n * (b + 1) ≤ 20 * 1001 := Nat.mul_le_mul (by omega) (by omega)
    have en : (n + 1) * (b + 1) = n * (b + 1) + (b + 1) := Nat.succ_mul _ _
    have s1 : (σ'.set 1 (some x))[1]? = some (some x) := List.getElem?_set_self (by omega)
    have s1l : (σ'.set 1 (some x)).length = 3 := by rw [List.length_set]; exact hs
    rcases hp x (List.mem_of_getElem? hxn) with h | ⟨p, hpl, vs, rfl, e, hv⟩
    · exact isl_no s1 h ⟨s1l, k, rfl, fun a => by have := hk a; omega⟩
    · obtain ⟨vs', e', hvb⟩ := hl p hpl
      rw [e] at e'; cases e'
      refine isl_yes s1 (hk_at hpl e) ?_
      refine .inl ⟨.ref p, s1, p, rfl, ⟨_, SqL.of (hk_at hpl e)⟩, ?_⟩
      refine L2.for_it (J := Itl K p) (n := (vs ++ zer (k p)).length) walk_list (fun m σ2 H3 => σ2.length = 3 ∧ σ2[1]? = some (some (.ref p)) ∧ ∃ k', H3 = Hk H l k' ∧ k' p = k p ∧ ∀ a, k' a ≤ n * (b + 1) + min m vs.length) ⟨s1l, s1, k, rfl, rfl, fun a => by have := hk a; omega⟩ (fun m σ2 H3 _ ⟨_, _, k', e2, e3, _⟩ => by rw [e2]; have := hk_at (k := k') hpl e; rw [e3] at this; exact SqL.of this) ?_ ?_
      · rintro m y σ2 H3 H4 hm ⟨z1, z2, k', rfl, z3, z4⟩ ⟨e0, hy⟩
        rw [e0]
        clear e0
        have t2 : (σ2.set 2 (some y))[2]? = some (some y) := List.getElem?_set_self (by omega)
        have t1 : (σ2.set 2 (some y))[1]? = some (some (.ref p)) := by rw [List.getElem?_set_ne (by decide)]; exact z2
        have tl : (σ2.set 2 (some y)).length = 3 := by rw [List.length_set]; exact z1
        have stay : (σ2.set 2 (some y)).length = 3 ∧ (σ2.set 2 (some y))[1]? = some (some (.ref p)) ∧ ∃ k'', Hk H l k' = Hk H l k'' ∧ k'' p = k p ∧ ∀ a, k'' a ≤ n * (b + 1) + min (m + 1) vs.length := ⟨tl, t1, k', rfl, z3, fun a => by have := z4 a; omega⟩
        by_cases hmv : m < vs.length
        · rw [List.getElem?_append_left hmv] at hy
          rcases hv y (List.mem_of_getElem? hy) with h | ⟨q, hq, rfl, hne⟩
          · exact isl_no t2 h stay
          · obtain ⟨ws, ew, hw⟩ := hl q hq
            refine isl_yes t2 (hk_at hq ew) (add0 t2 hq ew (by have := z4 q; omega) ⟨tl, t1, bump k' q, rfl, ?_, fun c => ?_⟩)
            · unfold bump; rw [if_neg (Ne.symm hne)]; exact z3
            · unfold bump
              have := z4 c
              have := z4 q
              split <;> omega
        · rw [List.getElem?_append_right (by omega)] at hy
          unfold zer at hy
          rw [List.getElem?_replicate] at hy
          split at hy
          · cases hy
            exact isl_no t2 ⟨"int", by decide, fun H => .base (.int 0)⟩ stay
          · cases hy
      · rintro σ2 H3 ⟨z1, z2, k', rfl, z3, z4⟩
        refine add0 z2 hpl e (by have := z4 p; omega) ⟨z1, bump k' p, rfl, fun c => ?_⟩
        unfold bump
        have := z4 c
        have := z4 p
        split <;> omega
  · rintro σ' H' ⟨_, k, rfl, _⟩
    exact hd σ' k
end
/-- it adds to the lists of l, and to nothing else -/
def spSpo (K : Fr) : Sp := fun vs H Q _ => ∃ (l : List Addr) (b : Nat) (a : Addr) (xs : List V), vs = [.ref a] ∧ SqT K H a xs ∧ xs.length ≤ 20 ∧ b ≤ 1000 ∧ (∀ a ∈ l, ∃ vs, H a = some (.lst vs) ∧ vs.length ≤ b) ∧ (∀ x ∈ xs, partV K l H x) ∧
  ∀ H', (∀ a, a ∉ l → H' a = H a) → (∀ a ∈ l, ∃ vs, H' a = some (.lst vs)) → Q .non H'
/-! ### the call -/
def spRow : D → Bool
  | .lst ds => ds.all scalarD
  | d => scalarD d
def spPart : D → Bool
  | .lst ds => ds.all spRow
  | d => scalarD d
def spTup : D → Bool
  | .tup ds => decide (ds.length ≤ 20) && ds.all spPart
  | _ => false
section
variable [Tbl] {K : Fr} {EE : XK} {fr : Bool} {H0 G0 : Hp} {ρ : Env} {σ : L2.St} {G H H' : Hp} {fp : Nat → List Addr} {i : Nat} {l : List Addr} {b : Nat} {ex : Bool}
theorem JRA.mem : ∀ {ds : List D} {vs : List V} {y : V}, JRA K l ex b G H ds vs → y ∈ vs → ∃ d ∈ ds, JR K l ex b G H d y
  | _, _, _, .nil, h => nomatch h
  | _, _, _, .cons r t, h => by
    rcases List.mem_cons.mp h with z | z
    · exact ⟨_, List.mem_cons_self, z ▸ r⟩
    · obtain ⟨d, h1, h2⟩ := JRA.mem t z
      exact ⟨d, List.mem_cons_of_mem _ h1, h2⟩
theorem jr_sc {d : D} {x : V} (h : JR K l ex b G H d x) (hs : scalarD d = true) : spSc K x ∧ ∀ q, x ≠ .ref q := by
  cases h with
  | non => exact ⟨⟨"NoneType", by decide, fun _ => .base .non⟩, fun q z => by cases z⟩
  | bl y => exact ⟨⟨"bool", by decide, fun _ => .base (.bl y)⟩, fun q z => by cases z⟩
  | int y => exact ⟨⟨"int", by decide, fun _ => .base (.int y)⟩, fun q z => by cases z⟩
  | str y => exact ⟨⟨"str", by decide, fun _ => .base (.str y)⟩, fun q z => by cases z⟩
  | lst => simp [scalarD] at hs
  | tup => simp [scalarD] at hs
theorem jr_row {d : D} {x : V} {p : Addr} {vs : List V} (hp : H p = some (.lst vs)) (hx : x ∈ vs) (h : JR K l true b G H d x) (hs : spRow d = true) : rowV K l p x := by
  have one : scalarD d = true → rowV K l p x := fun z => .inl (jr_sc h z).1
  cases h with
  | lst ha h1 h2 h3 t =>
    rename_i q ws ds
    refine .inr ⟨q, ha, rfl, fun z => ?_⟩
    subst z
    rw [hp] at h1; cases h1
    rw [h3 rfl, List.take_length] at t
    obtain ⟨d', hd, r⟩ := t.mem hx
    exact (jr_sc r (List.all_eq_true.mp hs d' hd)).2 _ rfl
  | non => exact one rfl
  | bl y => exact one rfl
  | int y => exact one rfl
  | str y => exact one rfl
  | tup => simp [spRow, scalarD] at hs
theorem jr_part {d : D} {x : V} (h : JR K l true b G H d x) (hs : spPart d = true) : partV K l H x := by
  have one : scalarD d = true → partV K l H x := fun z => .inl (jr_sc h z).1
  cases h with
  | lst ha h1 h2 h3 t =>
    rename_i p ws ds
    refine .inr ⟨p, ha, ws, rfl, h1, fun y hy => ?_⟩
    rw [h3 rfl, List.take_length] at t
    obtain ⟨d', hd, r⟩ := t.mem hy
    exact jr_row h1 hy r (List.all_eq_true.mp hs d' hd)
  | non => exact one rfl
  | bl y => exact one rfl
  | int y => exact one rfl
  | str y => exact one rfl
  | tup => simp [spPart, scalarD] at hs
theorem tabs_chg {T : List NdefX.NTab} (hl : ∀ a ∈ l, ∃ vs, H a = some (.lst vs)) (hn : ∀ a, a ∉ l → H' a = H a) (t : NdefX.TabsN T H) : NdefX.TabsN T H' := fun p hp => by
  obtain ⟨ps, h1, h2, h3⟩ := t p hp
  have nt : ∀ a o, H a = some o → (∀ vs, o ≠ .lst vs) → H' a = some o := fun a o e n => by
    rw [hn, e]
    intro ha
    obtain ⟨vs, e2⟩ := hl a ha
    rw [e] at e2; cases e2
    exact n _ rfl
  refine ⟨ps, nt _ _ h1 (by intro _ z; cases z), h2, fun pos cv hc => ?_⟩
  obtain ⟨c, e1, e2⟩ := h3 pos cv hc
  exact ⟨c, e1, nt _ _ e2 (by intro _ z; unfold LamX.CodeO at z; cases z)⟩
theorem Grow.chg (g : Grow G0 H0 G H) (hf : ∀ a ∈ l, H0 a = none ∧ G a = none) (hl' : ∀ a ∈ l, ∃ vs, H' a = some (.lst vs)) (hl : ∀ a ∈ l, ∃ vs, H a = some (.lst vs)) (hn : ∀ a, a ∉ l → H' a = H a) : Grow G0 H0 G H' := by
  refine ⟨g.e, ⟨fun a o e => ?_, g.sub.n⟩, ⟨fun a o e n => ?_, fun a e => ?_, fun t => tabs_chg hl hn (g.ext.t t)⟩, g.new⟩
  · rw [hn a fun ha => by rw [(hf a ha).2] at e; cases e]
    exact g.sub a o e
  · rw [hn a fun ha => by rw [(hf a ha).1] at e; cases e]
    exact g.ext.e a o e n
  · by_cases ha : a ∈ l
    · obtain ⟨vs, e2⟩ := hl' a ha
      rw [e] at e2; cases e2
    · rw [hn a ha] at e
      exact g.ext.f a e
theorem StR.chg (gself : Ex G G) (h : StR K H0 ρ σ G H fp) (hd : ∀ j a, a ∈ fp j → a ∉ l) (hn : ∀ a, a ∉ l → H' a = H a) : StR K H0 ρ σ G H' fp := by
  refine ⟨h.len, fun j s e => ?_, h.out, fun j a ha => ?_, h.dj, h.nd⟩
  · have zj := h.sl j s e
    have hne : ∀ x ∈ fp j, H' x = H x := fun x hx => hn x (hd j x hx)
    revert zj hne
    generalize (σ[j]?).getD none = o
    generalize fp j = lj
    intro zj hne
    cases zj with
    | un => exact .un _
    | sh r => exact .sh r
    | ow hq rq ha => exact .ow (by rw [hne _ (by simp)]; exact hq) rq ha
    | rw hq rq => exact .rw (by rw [hne _ (by simp)]; exact hq) (rq.to gself fun a ha => hne a (List.mem_cons_of_mem _ ha))
    | jk r hl => exact SlR.jkTo gself hne r hl
  · obtain ⟨h1, h2, vs, h3⟩ := h.fr j a ha
    exact ⟨h1, h2, vs, by rw [hn a (hd j a ha)]; exact h3⟩
/-- a def that spoils a tuple new all through -/
def sSpoil (i : Nat) : Env → M Oc := fun ρ => bnd (opt (getJ ρ i)) fun p => grd (p.1 = true ∧ p.2.1 ≤ 1000 ∧ spTup p.2.2 = true) (ret (.nx (ρ.set i .un)))
@[simp] theorem sSpoil_ap : sSpoil i ρ = bnd (opt (getJ ρ i)) fun p => grd (p.1 = true ∧ p.2.1 ≤ 1000 ∧ spTup p.2.2 = true) (ret (.nx (ρ.set i .un))) := id rfl
theorem r_spoil {E : XK} : RS K EE fr (tDrop (tCall (spSpo K) [] E (tCons (tVar i) tNil))) (sSpoil i) := fun G0 H0 ρ σ G H fp De Φ Ξ gr st m k => by
  obtain ⟨⟨ex, b, d⟩, e, m⟩ := M.opt_inv m
  have hi := getJ_inv e
  clear e
  obtain ⟨⟨hx, hb, hs⟩, m⟩ := m
  have hx : ex = true := hx
  subst hx
  have hb : b ≤ 1000 := hb
  have hs : spTup d = true := hs
  have li : i < ρ.length := (List.getElem?_eq_some_iff.mp hi).1
  have z := st.sl i _ hi
  obtain ⟨o, ho⟩ : ∃ o, σ[i]? = some o := ⟨_, List.getElem?_eq_getElem (st.len ▸ li)⟩
  rw [ho, Option.getD_some] at z
  generalize hf : fp i = l at z
  cases z with
  | jk r hb0 =>
    rename_i v
    cases d with
    | tup ds =>
      unfold spTup at hs
      rw [Bool.and_eq_true, decide_eq_true_eq] at hs
      cases r with
      | tup h1 t =>
        rename_i a vs
        refine ⟨.ref a, ho, l, b, a, vs, rfl, ex_t gr.sub h1, by rw [← t.length]; exact hs.1, hb, hb0, fun x hx => ?_, fun H' hn hl' => ?_⟩
        · obtain ⟨d', hd, r⟩ := t.mem hx
          exact jr_part r (List.all_eq_true.mp hs.2 d' hd)
        · have hfr : ∀ a ∈ l, H0 a = none ∧ G a = none := fun a ha => by
            obtain ⟨h1, h2, _⟩ := st.fr i a (by rw [hf]; exact ha)
            exact ⟨h1, h2⟩
          have hl : ∀ a ∈ l, ∃ vs, H a = some (.lst vs) := fun a ha => by
            obtain ⟨vs, h, _⟩ := hb0 a ha
            exact ⟨vs, h⟩
          have s1 := st.forget (i := i)
          have s2 : StR K H0 (ρ.set i .un) σ G H' (fset fp i []) := s1.chg gr.sub.self (fun j a ha hal => by
            unfold fset at ha
            split at ha
            · cases ha
            · rename_i hne
              exact hne (st.dj j i a ha (by rw [hf]; exact hal))) hn
          exact k.nx _ _ G H' _ m gr.sub.self (gr.chg hfr hl' hl hn) s2
    | _ => simp [spTup] at hs
end
end VL

/-! VM53: texts: walked, split, joined, found, made of numbers, read as numbers; a def that a name holds is called. -/
namespace VL
open PySem PySem.Spec PyProof.Rows L2
open M (ret bnd nope grd exn opt drw hdl anyA)
section
variable [Tbl] {K : Fr} {EE : XK} {fr f f1 : Bool} {te ta tb : TE} {ma mb : VE → M D} {tr : TA} {mr : VE → M (List D)} {G H : Hp} {frx : Option Hp}
theorem RepA.ofStrs : ∀ (ns : List Str), RepA K frx H (ns.map D.str) (ns.map V.str)
  | [] => .nil
  | n :: ns => .cons (.str n) (RepA.ofStrs ns)
/-! ### the signs of a text -/
def sigL (z : Str) : List D := z.cps.toList.map fun c => .str ⟨#[c]⟩
def strI : D → Option (List D)
  | .str z => if z.cps.size ≤ 50000 then some (sigL z) else none
  | _ => none
theorem strI_eq {z : Str} (h : z.cps.size ≤ 50000) : strI (.str z) = some (sigL z) := if_pos h
def mStrI (ma : VE → M D) : VE → M (List D) := fun ve => bnd (ma ve) fun a => opt (strI a)
@[simp] theorem mStrI_ap {ve : VE} : mStrI ma ve = bnd (ma ve) fun a => opt (strI a) := id rfl
theorem xr_str (h : XE K EE false te ma) : XR K EE (iStr te) (mStrI ma) := fun Hb ve σ G H Φ Ξ c m R q => h Hb ve σ G H _ Ξ c m _ fun a x G1 H1 p1 g1 r1 => by
  obtain ⟨ds, e, p1⟩ := M.opt_inv p1
  unfold strI at e
  split at e
  · rename_i z
    split at e
    · cases e
      cases r1
      refine ⟨z, rfl, q _ _ G1 H1 p1 g1 ?_⟩
      have hl : (sigL z).length = z.cps.size := by unfold sigL; simp
      rw [hl]
      refine Walk.mono walk_str (fun _ _ => trivial) fun i H2 x H3 hi e2 y => ?_
      obtain ⟨rfl, c, hc, rfl⟩ := y
      exact ⟨rfl, .str ⟨#[c]⟩, by unfold sigL; simp [hc], fun _ _ => .str _⟩
    · cases e
  · cases e
/-! ### methods of texts -/
def strO : D → Option Str
  | .str z => some z
  | _ => none
@[simp] theorem strO_str (z : Str) : strO (.str z) = some z := id rfl
theorem strO_inv {d : D} {z : Str} (h : strO d = some z) : d = .str z := by cases d <;> simp [strO] at h; subst h; rfl
def mM1 (o : D → D → Option D) (ma mb : VE → M D) : VE → M D := fun ve => bnd (ma ve) fun a => bnd (opt (strO a)) fun _ => bnd (mb ve) fun b => opt (o a b)
@[simp] theorem mM1_ap {o : D → D → Option D} {ve : VE} : mM1 o ma mb ve = bnd (ma ve) fun a => bnd (opt (strO a)) fun _ => bnd (mb ve) fun b => opt (o a b) := id rfl
theorem xe_m1 {r : V → List V → Hp → VK → Prop} {o : D → D → Option D} (ho : OpD K f f1 (fun x y H Q => r x [y] H Q) o) (ha : XE K EE f1 ta ma) (hb : XE K EE f1 tb mb) : XE K EE f (tM1 r ta tb) (mM1 o ma mb) := fun Hb ve σ G H Φ Ξ c m Q q =>
  ha Hb ve σ G H _ Ξ c m _ fun a x G1 H1 p1 g1 r1 => by
    obtain ⟨s, e, p1⟩ := M.opt_inv p1
    have e := strO_inv e
    subst e
    have hx : x = .str s := by cases r1; rfl
    refine ⟨⟨s, hx⟩, hb Hb ve σ G1 H1 _ Ξ (c.grow g1) p1 _ fun b y G2 H2 p2 g2 r2 => ?_⟩
    obtain ⟨z, e, p2⟩ := M.opt_inv p2
    exact ho _ b z e G2 x y Hb (r1.mono g2.e) r2 H2 g2.sub ((c.grow g1).grow g2).b Q fun v G3 H3 g3 r3 => q z v G3 H3 p2 ((g1.trans g2).trans g3) r3
def rSplit : V → List V → Hp → VK → Prop := fun x xs H Q => ∃ a b, x = .str a ∧ xs = [.str b] ∧ (b.length == 0) = false ∧ a.length + 2 ≤ sizeLine ∧ rNewStrs (Txt.split a b) H Q
def splitD : D → D → Option D
  | .str a, .str b => if (b.length == 0) = false ∧ a.length + 2 ≤ 100000 then some (.lst ((Txt.split a b).map .str)) else none
  | _, _ => none
theorem splitD_eq {a b : Str} (h : (b.length == 0) = false ∧ a.length + 2 ≤ 100000) : splitD (.str a) (.str b) = some (.lst ((Txt.split a b).map .str)) := if_pos h
theorem od_split : OpD K f f1 (fun x y H Q => rSplit x [y] H Q) splitD := fun a b c h => by
  unfold splitD at h
  split at h
  · split at h
    · rename_i i j hl; cases h
      intro G x y H0 ra rb H e e0 Q q
      cases ra; cases rb
      refine ⟨i, j, rfl, rfl, hl.1, Evl.sz_of hl.2, fun p hp => ?_⟩
      have g := Grow.laid (o := .lst ((Txt.split i j).map V.str)) e hp
      exact q (.ref p) _ _ g (.lst (frh_new e0 hp) upd_same (RepA.ofStrs _))
    · cases h
  · cases h
def rJoin (K : Fr) : V → List V → Hp → VK → Prop := fun x xs H Q => ∃ a p, ∃ ys : List Str, x = .str a ∧ xs = [.ref p] ∧ (SqL K H p (ys.map V.str) ∨ SqT K H p (ys.map V.str)) ∧
      (ys.map (·.length)).sum + ys.length * a.length ≤ 16777216 ∧ Q (.str (Txt.join a ys)) H
def joinD : D → D → Option D
  | .str a, .lst ds => match strsOf ds with
    | some ys => if (ys.map (·.length)).sum + ys.length * a.length ≤ 1000000 then some (.str (Txt.join a ys)) else none
    | none => none
  | _, _ => none
theorem joinD_eq {a : Str} {ys : List Str} (h : (ys.map (·.length)).sum + ys.length * a.length ≤ 1000000) : joinD (.str a) (.lst (ys.map .str)) = some (.str (Txt.join a ys)) := by
  show (match strsOf (ys.map D.str) with
    | some ys => if (ys.map (fun y : Str => y.length)).sum + ys.length * a.length ≤ 1000000 then some (D.str (Txt.join a ys)) else none
    | none => none) = _
  rw [strsOf_map]
  exact if_pos h
theorem od_join : OpD K f f1 (fun x y H Q => rJoin K x [y] H Q) joinD := fun a b c h => by
  unfold joinD at h
  split at h
  · rename_i i ds
    split at h
    · rename_i ys hs
      split at h
      · rename_i hl; cases h
        intro G x y H0 ra rb H e e0 Q q
        cases ra
        obtain ⟨p, vs, rfl, fp, hp, rs⟩ := rb.lst_inv
        have hd := strsOf_inv hs
        subst hd
        have hv := rs.strs
        subst hv
        exact ⟨i, p, ys, rfl, rfl, .inl (SqL.of (e _ _ hp)), by omega, q _ G H (Grow.refl e) (.str _)⟩
      · cases h
    · cases h
  · cases h
def rFind : V → List V → Hp → VK → Prop := fun x xs H Q => ∃ a b, x = .str a ∧ xs = [.str b] ∧ Q (.int (Txt.find a b)) H
def findD : D → D → Option D
  | .str a, .str b => some (.int (Txt.find a b))
  | _, _ => none
@[simp] theorem findD_eq (a b : Str) : findD (.str a) (.str b) = some (.int (Txt.find a b)) := id rfl
theorem od_find : OpD K f f1 (fun x y H Q => rFind x [y] H Q) findD := fun a b c h => by
  unfold findD at h
  split at h
  · rename_i i j; cases h
    intro G x y H0 ra rb H e e0 Q q
    cases ra; cases rb
    exact ⟨i, j, rfl, rfl, q _ G H (Grow.refl e) (.int _)⟩
  · cases h
/-! ### a sign in a text -/
def rInSg (neg : Bool) : R2 := fun x y H Q => ∃ (c : Nat) (z : Str), x = .str ⟨#[c]⟩ ∧ y = .str z ∧ Q (.bl (if neg then !decide (c ∈ z.cps.toList) else decide (c ∈ z.cps.toList))) H
theorem op_inSg {X : Cx} : OpR X (compareOp .In) (rInSg false) := op_in_sign
theorem op_niSg {X : Cx} : OpR X (compareOp .NotIn) (rInSg true) := op_notIn_sign
def inSgD (neg : Bool) : D → D → Option D
  | .str ⟨⟨[c]⟩⟩, .str z => some (.bl (if neg then !decide (c ∈ z.cps.toList) else decide (c ∈ z.cps.toList)))
  | _, _ => none
@[simp] theorem inSgD_eq (neg : Bool) (c : Nat) (z : Str) : inSgD neg (.str ⟨#[c]⟩) (.str z) = some (.bl (if neg then !decide (c ∈ z.cps.toList) else decide (c ∈ z.cps.toList))) := id rfl
theorem od_inSg {neg : Bool} : OpD K f f1 (rInSg neg) (inSgD neg) := fun a b d h => by
  unfold inSgD at h
  split at h
  · rename_i c z; cases h
    intro G x y H0 ra rb H e e0 Q q
    cases ra; cases rb
    exact ⟨c, z, rfl, rfl, q _ G H (Grow.refl e) (.bl _)⟩
  · cases h
/-! ### str(n), int(s) -/
def rStrI : List V → Hp → VK → Prop := fun xs H Q => ∃ i : Int, xs = [.int i] ∧ i.natAbs.log2 < 1920 ∧ Q (.str (toString i)) H
theorem cr_strI {X : Cx} : CallR X (.type "str") rStrI := call_str_int
def strID : List D → Option D
  | [.int i] => if i.natAbs.log2 < 1920 then some (.str (toString i)) else none
  | _ => none
theorem strID_eq {i : Int} (h : i.natAbs.log2 < 1920) : strID [.int i] = some (.str (toString i)) := if_pos h
theorem cd_strI : CbD K f rStrI strID := fun ds c h => by
  intro G vs rs H e Q q
  unfold strID at h
  split at h
  · split at h
    · rename_i i hl; cases h
      obtain ⟨v, rfl, r⟩ := rs.one
      cases r
      exact ⟨i, rfl, hl, q _ G H (Grow.refl e) (.str _)⟩
    · cases h
  · cases h
def rIntS : List V → Hp → VK → Prop := fun xs H Q => ∃ a n, xs = [.str a] ∧ PySem.intText? a = some n ∧ a.length ≤ 640 ∧ Q (.int n) H
theorem cr_intS {X : Cx} : CallR X (.type "int") rIntS := call_int_str
def intSD : List D → Option D
  | [.str a] => if a.length ≤ 640 then (PySem.intText? a).map .int else none
  | _ => none
theorem intSD_eq {a : Str} {n : Int} (h : a.length ≤ 640) (e : PySem.intText? a = some n) : intSD [.str a] = some (.int n) := by
  show (if a.length ≤ 640 then (PySem.intText? a).map D.int else none) = _
  rw [if_pos h, e]; rfl
theorem cd_intS : CbD K f rIntS intSD := fun ds c h => by
  intro G vs rs H e Q q
  unfold intSD at h
  split at h
  · split at h
    · rename_i a hl
      obtain ⟨n, hn, rfl⟩ := Option.map_eq_some_iff.mp h
      obtain ⟨v, rfl, r⟩ := rs.one
      cases r
      exact ⟨a, n, rfl, hn, hl, q _ G H (Grow.refl e) (.int _)⟩
    · cases h
  · cases h
/-! ### f-strings -/
def fmtD : D → Option D
  | .str y => if y.length ≤ 100000 then some (.str y) else none
  | .int i => if i.natAbs.log2 < 1920 then some (.str (toString i)) else none
  | _ => none
theorem fmtD_int {i : Int} (h : i.natAbs.log2 < 1920) : fmtD (.int i) = some (.str (toString i)) := if_pos h
def mFmt (ma : VE → M D) : VE → M D := fun ve => bnd (ma ve) fun a => opt (fmtD a)
@[simp] theorem mFmt_ap {ve : VE} : mFmt ma ve = bnd (ma ve) fun a => opt (fmtD a) := id rfl
theorem xe_fmt (h : XE K EE false ta ma) : XE K EE f (tFmt ta) (mFmt ma) := fun Hb ve σ G H Φ Ξ c m Q q => h Hb ve σ G H _ Ξ c m _ fun a x G1 H1 p1 g1 r1 => by
  obtain ⟨z, e, p1⟩ := M.opt_inv p1
  unfold fmtD at e
  split at e
  · split at e
    · rename_i y hl; cases e
      cases r1
      exact .inl ⟨y, rfl, Evl.sz_of hl, q _ _ G1 H1 p1 g1 (.str _)⟩
    · cases e
  · split at e
    · rename_i i hl; cases e
      cases r1
      exact .inr ⟨i, rfl, hl, q _ _ G1 H1 p1 g1 (.str _)⟩
    · cases e
  · cases e
inductive XJs (K : Fr) (EE : XK) : List TE → List (VE → M D) → Prop
  | nil : XJs K EE [] []
  | cons {t : TE} {m : VE → M D} {ts : List TE} {ms : List (VE → M D)} : XE K EE false t m → XJs K EE ts ms → XJs K EE (t :: ts) (m :: ms)
def mJs : List (VE → M D) → Str → VE → M D
  | [], acc, _ => ret (.str acc)
  | m :: ms, acc, ve => bnd (m ve) fun d => bnd (opt (strO d)) fun y => grd ((acc ++ y).length ≤ 100000) (mJs ms (acc ++ y) ve)
@[simp] theorem mJs_nil (acc : Str) (ve : VE) : mJs [] acc ve = ret (.str acc) := id rfl
@[simp] theorem mJs_cons (m : VE → M D) (ms : List (VE → M D)) (acc : Str) (ve : VE) : mJs (m :: ms) acc ve = bnd (m ve) fun d => bnd (opt (strO d)) fun y => grd ((acc ++ y).length ≤ 100000) (mJs ms (acc ++ y) ve) := id rfl
theorem xe_js {ts : List TE} {ms : List (VE → M D)} (h : XJs K EE ts ms) : ∀ acc : Str, XE K EE f (fun σ H Q => tJs ts acc σ H fun out H1 => Q (.str out) H1) (mJs ms acc) := by
  induction h with
  | nil => exact fun acc Hb ve σ G H Φ Ξ c m Q q => q _ _ G H m (Grow.refl c.e) (.str _)
  | cons h hs ih =>
    intro acc Hb ve σ G H Φ Ξ c m Q q
    refine h Hb ve σ G H _ Ξ c m _ fun a x G1 H1 p1 g1 r1 => ?_
    · obtain ⟨y, e, p1⟩ := M.opt_inv p1
      have e := strO_inv e
      subst e
      obtain ⟨hl, p1⟩ := p1
      cases r1
      exact ⟨y, rfl, Evl.sz_of hl, ih (acc ++ y) Hb _ σ G1 H1 Φ Ξ (c.grow g1) p1 Q fun d v G' H' p g r => q d v G' H' p (g1.trans g) r⟩
/-! ### a def that a name holds -/
def fnO : D → Option Addr
  | .fn a => some a
  | _ => none
@[simp] theorem fnO_fn (a : Addr) : fnO (.fn a) = some a := id rfl
def mCallA (i n : Nat) (tab : Addr → Option (List D → M D)) (mr : VE → M (List D)) : VE → M D := fun ve => bnd (opt (getV ve i)) fun x => bnd (opt (fnO x)) fun a => bnd (opt (tab a)) fun mf => bnd (mr ve) fun as => grd (as.length = n) (calm (mf as))
@[simp] theorem mCallA_ap {i n : Nat} {tab : Addr → Option (List D → M D)} {ve : VE} : mCallA i n tab mr ve = bnd (opt (getV ve i)) fun x => bnd (opt (fnO x)) fun a => bnd (opt (tab a)) fun mf => bnd (mr ve) fun as => grd (as.length = n) (calm (mf as)) := id rfl
theorem xe_callA {i n : Nat} {tab : Addr → Option (List D → M D)} (h : XA K EE false tr mr) : XE K EE f (L2.tCallA i (fun a => (tab a).map (spC K f n)) tr) (mCallA i n tab mr) := fun Hb ve σ G H Φ Ξ c m Q q => by
  obtain ⟨x, e1, m1⟩ := M.opt_inv m
  obtain ⟨a, e2, m2⟩ := M.opt_inv m1
  obtain ⟨mf, e3, m3⟩ := M.opt_inv m2
  clear m m1 m2
  obtain ⟨f0, hi⟩ := getV_inv e1
  obtain ⟨v, hv, rv⟩ := c.vr.at_ i f0 _ hi
  have hx : x = .fn a := by cases x <;> simp [fnO] at e2; subst e2; rfl
  subst hx
  have hv2 : v = .ref a := by
    cases f0 <;> cases rv <;> rfl
  subst hv2
  refine ⟨a, spC K f n mf, hv, (by show (tab a).map _ = _; rw [e3]; rfl), h Hb ve σ G H _ Ξ c m3 _ fun as xs G1 H1 p1 g1 r1 => ?_⟩
  exact ⟨as, G1, Φ, g1.sub, r1, p1.1, p1.2, (c.grow g1).tb, fun d v G' H' p g r => q d v G' H' p (g1.trans g) (r.h2 (c.grow g1).b)⟩
theorem held_of {P : Program} {w : World} {mg : Str → Option Value} {base : Heap} {k : Nat} {x : Str} {sp : Sp} {a : Addr} (c : C8.Cal P w K mg base k x sp []) (hm : mg x = some (.ref a)) : Held P w K mg base k a sp := by
  obtain ⟨f, fd, ps, ds, F, hf, hk, hb, hd⟩ := c.ex
  rw [hm] at hf
  cases hf
  cases hd
  exact ⟨fd, ps, F, hk, hb⟩
/-! ### a pair whose second part may let an exception out -/
theorem xs_tup2 {tes : (L2.St → XK) → TE} (ha : ∀ EE, XE K EE f ta ma) (hb : XS K f tes mb) : XS K f (fun ES => tTup (tCons ta (tCons (tes ES) tNil))) (mTup (aCons ma (aCons mb aNil))) := fun ES Hb ve σ G H Φ Ξ c m Q q =>
  ha (ES σ) Hb ve σ G H _ Ξ c m _ fun a x G1 H1 p1 g1 r1 => hb ES Hb ve σ G1 H1 _ Ξ (c.grow g1) p1 _ fun b y G2 H2 p2 g2 r2 =>
    ⟨Evl.sz_of (n := 2) (by decide), fun p hp =>
      have g := Grow.laid (o := .tup [x, y]) g2.sub hp
      q _ (.ref p) _ _ p2.2 ((g1.trans g2).trans g) (.tup (SqT.of upd_same) (.cons ((r1.mono g2.e).mono g.e) (.cons (r2.mono g.e) .nil)))⟩
/-! ### a text or a number that the top names -/
theorem pe_globS {X : Cx} {x : Str} {s : Str} {pos : Pos} (hg : Gl X x) (hm : ∃ t, X.mg x = some (.str s t)) (hd : (x == ("__debug__" : Str)) = false := by decide) : PE X (.Name x pos) (tC (.str s)) := by
  obtain ⟨t, e⟩ := hm
  exact pe_glob hg e ⟨t, rfl⟩ hd
theorem pe_globI {X : Cx} {x : Str} {i : Int} {pos : Pos} (hg : Gl X x) (hm : ∃ t, X.mg x = some (.int i t)) (hd : (x == ("__debug__" : Str)) = false := by decide) : PE X (.Name x pos) (tC (.int i)) := by
  obtain ⟨t, e⟩ := hm
  exact pe_glob hg e ⟨t, rfl⟩ hd
end
end VL

namespace VL
open PySem PySem.Spec PyProof.Rows L2
open M (ret bnd nope grd exn opt drw)
def top (i : Nat) : Stmt := PySem.Challenge.pw_villagelines_k09_moves_text.main.body.getD i (.Pass ⟨0, 0, 0, 0⟩)
abbrev s_BadMove_initM : Stmt := inClass (top 2) 0
abbrev s_BadText_initM : Stmt := inClass (top 3) 0
abbrev s_rows_of : Stmt := top 7
abbrev s_is_number : Stmt := top 8
abbrev s_are_numbers : Stmt := top 9
abbrev s_require_form : Stmt := top 10
abbrev s_write_moves : Stmt := top 12
abbrev s_is_move_row : Stmt := top 13
abbrev s_read_moves : Stmt := top 14
abbrev s_law_pool : Stmt := top 16
abbrev s_law_draw : Stmt := top 17
abbrev s_law_same : Stmt := top 18
abbrev s_law_size : Stmt := top 19
abbrev s_law_cell : Stmt := top 20
abbrev s_law_parts : Stmt := top 21
abbrev s_law_value : Stmt := top 22
abbrev s_law_odd : Stmt := top 23
abbrev s_law_words : Stmt := top 24
abbrev s_law_bent : Stmt := top 25
abbrev s_law_due : Stmt := top 26
abbrev s_law_read : Stmt := top 27
abbrev s_law_base : Stmt := top 28
abbrev s_law : Stmt := top 29
theorem sc_BadMove_initM : FnScope ["self", "at", "why"] ["self", "at", "why"] (defScope s_BadMove_initM) := ⟨rfl, rfl, rfl, by decide +kernel, rfl, by decide +kernel, by decide +kernel⟩
theorem sc_BadText_initM : FnScope ["self", "row", "why"] ["self", "row", "why"] (defScope s_BadText_initM) := ⟨rfl, rfl, rfl, by decide +kernel, rfl, by decide +kernel, by decide +kernel⟩
theorem sc_rows_of : FnScope ["text", "row"] ["text"] (defScope s_rows_of) := ⟨rfl, rfl, rfl, by decide +kernel, rfl, by decide +kernel, by decide +kernel⟩
theorem sc_is_number : FnScope ["word", "sign"] ["word"] (defScope s_is_number) := ⟨rfl, rfl, rfl, by decide +kernel, rfl, by decide +kernel, by decide +kernel⟩
theorem sc_are_numbers : FnScope ["words", "word"] ["words"] (defScope s_are_numbers) := ⟨rfl, rfl, rfl, by decide +kernel, rfl, by decide +kernel, by decide +kernel⟩
theorem sc_require_form : FnScope ["rows", "has_form", "at", "words"] ["rows", "has_form"] (defScope s_require_form) := ⟨rfl, rfl, rfl, by decide +kernel, rfl, by decide +kernel, by decide +kernel⟩
theorem sc_write_moves : FnScope ["moves", "family", "line", "village"] ["moves"] (defScope s_write_moves) := ⟨rfl, rfl, rfl, by decide +kernel, rfl, by decide +kernel, by decide +kernel⟩
theorem sc_is_move_row : FnScope ["at", "words"] ["at", "words"] (defScope s_is_move_row) := ⟨rfl, rfl, rfl, by decide +kernel, rfl, by decide +kernel, by decide +kernel⟩
theorem sc_read_moves : FnScope ["text", "rows", "word", "words"] ["text"] (defScope s_read_moves) := ⟨rfl, rfl, rfl, by decide +kernel, rfl, by decide +kernel, by decide +kernel⟩
theorem sc_law_pool : FnScope ["script", "cells", "cell"] ["script"] (defScope s_law_pool) := ⟨rfl, rfl, rfl, by decide +kernel, rfl, by decide +kernel, by decide +kernel⟩
theorem sc_law_draw : FnScope ["pool", "many", "base", "digit", "mixed"] ["pool", "many"] (defScope s_law_draw) := ⟨rfl, rfl, rfl, by decide +kernel, rfl, by decide +kernel, by decide +kernel⟩
theorem sc_law_same : FnScope ["got", "due", "k"] ["got", "due"] (defScope s_law_same) := ⟨rfl, rfl, rfl, by decide +kernel, rfl, by decide +kernel, by decide +kernel⟩
theorem sc_law_size : FnScope ["pool", "small", "large"] ["pool", "small", "large"] (defScope s_law_size) := ⟨rfl, rfl, rfl, by decide +kernel, rfl, by decide +kernel, by decide +kernel⟩
theorem sc_law_cell : FnScope ["pool", "way"] ["pool"] (defScope s_law_cell) := ⟨rfl, rfl, rfl, by decide +kernel, rfl, by decide +kernel, by decide +kernel⟩
theorem sc_law_parts : FnScope ["text", "mark", "parts", "sign"] ["text", "mark"] (defScope s_law_parts) := ⟨rfl, rfl, rfl, by decide +kernel, rfl, by decide +kernel, by decide +kernel⟩
theorem sc_law_value : FnScope ["word", "value", "sign"] ["word"] (defScope s_law_value) := ⟨rfl, rfl, rfl, by decide +kernel, rfl, by decide +kernel, by decide +kernel⟩
theorem sc_law_odd : FnScope ["pool", "signs", "k", "menu"] ["pool"] (defScope s_law_odd) := ⟨rfl, rfl, rfl, by decide +kernel, rfl, by decide +kernel, by decide +kernel⟩
theorem sc_law_words : FnScope ["pool", "words", "way", "place", "word", "bent"] ["pool", "words"] (defScope s_law_words) := ⟨rfl, rfl, rfl, by decide +kernel, rfl, by decide +kernel, by decide +kernel⟩
theorem sc_law_bent : FnScope ["pool", "rows", "way", "at"] ["pool", "rows"] (defScope s_law_bent) := ⟨rfl, rfl, rfl, by decide +kernel, rfl, by decide +kernel, by decide +kernel⟩
theorem sc_law_due : FnScope ["text", "found", "rows", "at", "cells", "word"] ["text"] (defScope s_law_due) := ⟨rfl, rfl, rfl, by decide +kernel, rfl, by decide +kernel, by decide +kernel⟩
theorem sc_law_read : FnScope ["text", "told", "e"] ["text"] (defScope s_law_read) := ⟨rfl, rfl, rfl, by decide +kernel, rfl, by decide +kernel, by decide +kernel⟩
theorem sc_law_base : FnScope ["text", "found", "e"] ["text"] (defScope s_law_base) := ⟨rfl, rfl, rfl, by decide +kernel, rfl, by decide +kernel, by decide +kernel⟩
theorem sc_law : FnScope ["script", "pool", "moves", "k", "rows", "part", "move", "turn", "text", "row", "due", "written", "given", "got", "again"] ["script"] (defScope s_law) := ⟨rfl, rfl, rfl, by decide +kernel, rfl, by decide +kernel, by decide +kernel⟩
structure CE where
  mk ::
  VillageError : Addr
  BadMove : Addr
  BadText : Addr
  is_move_row : Addr
theorem ok_BadText_initM [Tbl] {ce : CE} {P : Program} {w : World} {K : Fr} {mg : Str → Option Value} {base : Heap} {fa : Addr} {fd : FuncData} (F : L2.Fun K "__init__" "BadText.__init__" s_BadText_initM fa fd) (ox_BadText : OexC K ce.BadText) (xn_BadText_row : PySem.W.findIn K (.ref ce.BadText) "row" = some none) (xn_BadText_why : PySem.W.findIn K (.ref ce.BadText) "why" = some none) : FnOk P w K mg base C8.CX0 1 fa fd ["self", "row", "why"] (spExI ce.BadText ["row", "why"]) := by
  exact ok_exI2 F sc_BadText_initM ox_BadText xn_BadText_row xn_BadText_why fun cdv A outer s H E => (pss_cons (ps_ost (pv 0) (pv 1)) (pss_one (ps_ost (pv 0) (pv 2))))
def m_rows_of (ce : CE) : Env → M Oc := (sRet (mLst (mLc (mSeqL (mM1 splitD (mVar 0) (mC (.str "\n")))) [1] gOne mYes (mM1 splitD (mVar 1) (mC (.str " "))) [1])))
def f_rows_of (ce : CE) : List D → M D := mDef 2 (m_rows_of ce)
theorem ok_rows_of [Tbl] {ce : CE} {P : Program} {w : World} {K : Fr} {mg : Str → Option Value} {base : Heap} {fa : Addr} {fd : FuncData} (F : L2.Fun K "rows_of" "rows_of" s_rows_of fa fd) (B : Bt mg) : FnOk P w K mg base C8.CX0 1 fa fd ["text"] (spC K true 1 (f_rows_of ce)) :=
  okM F sc_rows_of rfl (by decide) fun cdv A outer s H E hr => ⟨_, (pss_one (ps_ret (pe_lc (own := [("row", 1)]) rfl sc_rows_of.nd (pi_seqK (K := K) rfl (pe_split (pv 0) pe_str)) (blkOk_by (by kernel_rfl)) (fun _ _ _ _ _ => (pg_name (i := 1) sc_rows_of.nd rfl (Or.inl rfl))) (fun _ _ _ _ _ => pts_nil) (fun _ _ _ _ _ => (pe_split (pv 1) pe_str))))),
  (r_ret (xl_lc (xi_seqL (xe_m1 (f1 := false) od_split xe_var xe_str)) xg_name xt_yes (xe_m1 (f1 := false) od_split xe_var xe_str) (by decide)).xe)⟩
def m_is_number_2 (ce : CE) : Env → M Oc := (sRetB (mOr (m2 eqD (mVar 0) (mC (.str "0"))) (m2 neD (m2 ixD (mVar 0) (mC (.int 0))) (mC (.str "0")))))
def m_is_number_1 (ce : CE) : Env → M Oc := (sSeq (sIf (mTest (mCb anyD (aCons (mLst (mLc (mStrI (mVar 0)) [1] gOne mYes (m2 (inSgD true) (mVar 1) (mC (.str "0123456789"))) [1])) aNil))) (sRetB (mC (.bl false))) sNx) (m_is_number_2 ce))
def m_is_number (ce : CE) : Env → M Oc := (sSeq (sIf (mTOr (mTest (m2 eqD (mVar 0) (mC (.str "")))) (mTest (m2 (cmpD fun i j => decide (j < i)) (mCb lenD (aCons (mVar 0) aNil)) (mC (.int 60))))) (sRetB (mC (.bl false))) sNx) (m_is_number_1 ce))
def f_is_number (ce : CE) : List D → M D := mDef 2 (m_is_number ce)
theorem ok_is_number [Tbl] {ce : CE} {P : Program} {w : World} {K : Fr} {mg : Str → Option Value} {base : Heap} {fa : Addr} {fd : FuncData} (F : L2.Fun K "is_number" "is_number" s_is_number fa fd) (B : Bt mg) (mg_MOST_DIGITS : ∃ t, mg "MOST_DIGITS" = some (.int 60 t)) (mg_DIGITS : ∃ t, mg "DIGITS" = some (.str "0123456789" t)) : FnOk P w K mg base C8.CX0 1 fa fd ["word"] (spC K true 1 (f_is_number ce)) :=
  okM F sc_is_number rfl (by decide) fun cdv A outer s H E hr => ⟨_, (pss_cons (ps_if (PW.pt (pw_or (pt_cmpR (op_eqUK (K := K) rfl hr.units) (pv 0) pe_str (nomark _)) (pw_or1 (pt_cmpR op_gt (pe_callB (cl_lenK (K := K) rfl) (by rfl) B.b_len bt_len (pa_cons (pv 0) pa_nil)) (pe_globI (by rfl) mg_MOST_DIGITS) (nomark _))))) (pss_one (ps_ret pe_bl)) pss_nil) 
  (pss_cons (ps_if (pt_val (pe_callB (cr_anyK (K := K) rfl rfl) (by rfl) B.b_any bt_any (pa_cons (pe_lc (own := [("sign", 1)]) rfl sc_is_number.nd (pi_str (pv 0)) (blkOk_by (by kernel_rfl)) (fun _ _ _ _ _ => (pg_name (i := 1) sc_is_number.nd rfl (Or.inl rfl))) (fun _ _ _ _ _ => pts_nil) (fun _ _ _ _ _ => (pe_cmpR op_niSg (pv 1) (pe_globS (by rfl) mg_DIGITS) rfl))) pa_nil))) (pss_one (ps_ret pe_bl)) pss_nil) 
  (pss_one (ps_ret (pe_or (pe_cmpR (op_eqUK (K := K) rfl hr.units) (pv 0) pe_str (nomark _)) (pe_one (pe_cmpR (op_neUK (K := K) rfl hr.units) (pe_ix (ix_UK (K := K) rfl (u1 hr)) (pv 0) pe_int (fun _ _ => rfl)) pe_str (nomark _)))))))),
  (r_seq (r_if (xt_or (xt_test (xe_op (f1 := false) od_eq xe_var xe_str)) (xt_test (xe_op (f1 := false) od_gt (xe_cb cd_len (xa_cons xe_var xa_nil)) xe_int))) (r_retB xe_bl) r_nx)
  (r_seq (r_if (xt_B (xe_cb cd_any (xa_cons (xl_lc ((xr_str xe_var)).xi xg_name xt_yes (xe_op (f1 := false) od_inSg xe_var xe_str) (by decide)).xe xa_nil))) (r_retB xe_bl) r_nx)
  (r_retB (xe_or (xe_op (f1 := false) od_eq xe_var xe_str) (xe_op (f1 := false) od_ne (xe_op od_ix xe_var xe_int) xe_str)))))⟩
def m_are_numbers (ce : CE) : Env → M Oc := (sRetB (mCb allD (aCons (mLst (mLc (mSeq (mVar 0)) [1] gOne mYes (mCallC 1 (f_is_number ce) (aCons (mVar 1) aNil)) [1])) aNil)))
def f_are_numbers (ce : CE) : List D → M D := mDef 2 (m_are_numbers ce)
theorem ok_are_numbers [Tbl] {ce : CE} {P : Program} {w : World} {K : Fr} {mg : Str → Option Value} {base : Heap} {fa : Addr} {fd : FuncData} (F : L2.Fun K "are_numbers" "are_numbers" s_are_numbers fa fd) (B : Bt mg) (c_is_number : C8.Cal P w K mg base 1 "is_number" (spC K true 1 (f_is_number ce)) []) : FnOk P w K mg base C8.CX0 2 fa fd ["words"] (spC K true 1 (f_are_numbers ce)) :=
  okM F sc_are_numbers rfl (by decide) fun cdv A outer s H E hr => ⟨_, (pss_one (ps_ret (pe_callB (cr_allK (K := K) rfl rfl) (by rfl) B.b_all bt_all (pa_cons (pe_lc (own := [("word", 1)]) rfl sc_are_numbers.nd (pi_seqK (K := K) rfl (pv 0)) (blkOk_by (by kernel_rfl)) (fun _ _ _ _ _ => (pg_name (i := 1) sc_are_numbers.nd rfl (Or.inl rfl))) (fun _ _ _ _ _ => pts_nil) (fun _ _ _ _ _ => (C8.pe_c c_is_number hr (by first | decide | exact Nat.le_refl _) (by rfl) (pa_cons (pv 1) pa_nil)))) pa_nil)))),
  (r_retB (xe_cb cd_all (xa_cons (xl_lc (xi_seq det_var xe_var) xg_name xt_yes (xe_callC' (xa_cons xe_var xa_nil)).old (by decide)).xe xa_nil)))⟩
def m_is_move_row (ce : CE) : Env → M Oc := (sRetB (mAnd (m2 eqD (mCb lenD (aCons (mVar 1) aNil)) (mC (.int 3))) (mCallC 1 (f_are_numbers ce) (aCons (mVar 1) aNil))))
def f_is_move_row (ce : CE) : List D → M D := mDef 2 (m_is_move_row ce)
theorem ok_is_move_row [Tbl] {ce : CE} {P : Program} {w : World} {K : Fr} {mg : Str → Option Value} {base : Heap} {fa : Addr} {fd : FuncData} (F : L2.Fun K "is_move_row" "is_move_row" s_is_move_row fa fd) (B : Bt mg) (c_are_numbers : C8.Cal P w K mg base 2 "are_numbers" (spC K true 1 (f_are_numbers ce)) []) : FnOk P w K mg base C8.CX0 3 fa fd ["at", "words"] (spC K true 2 (f_is_move_row ce)) :=
  okM F sc_is_move_row rfl (by decide) fun cdv A outer s H E hr => ⟨_, (pss_one (ps_ret (pe_and (pe_cmpR (op_eqUK (K := K) rfl hr.units) (pe_callB (cl_lenK (K := K) rfl) (by rfl) B.b_len bt_len (pa_cons (pv 1) pa_nil)) pe_int (nomark _)) (pe_one (C8.pe_c c_are_numbers hr (by first | decide | exact Nat.le_refl _) (by rfl) (pa_cons (pv 1) pa_nil)))))),
  (r_retB (xe_and (xe_op (f1 := false) od_eq (xe_cb cd_len (xa_cons xe_var xa_nil)) xe_int) (xe_callC' (xa_cons xe_var xa_nil))))⟩
def tabA (ce : CE) : Addr → Option (List D → M D) := fun a => if a = ce.is_move_row then some (f_is_move_row ce) else none
def m_require_form (ce : CE) : Env → M Oc := (sFor (mRg enum1 (aCons (mVar 0) aNil)) [2, 3] (gTupD 2 (gsCons gOne (gsCons gOne gsNil))) (sIf (mTNot (mTest (mCallA 1 2 (tabA ce) (aCons (mVar 2) (aCons (mVar 3) aNil))))) (sRaise ce.BadText ["row", "why"] (aCons (mVar 2) (aCons (mC (.str "form")) aNil))) sNx))
def f_require_form (ce : CE) : List D → M D := mDef 4 (m_require_form ce)
theorem ok_require_form [Tbl] {ce : CE} {P : Program} {w : World} {K : Fr} {mg : Str → Option Value} {base : Heap} {fa : Addr} {fd : FuncData} (F : L2.Fun K "require_form" "require_form" s_require_form fa fd) (B : Bt mg) (hd_A : ∀ a sp, (fun a => (tabA ce a).map (spC K true 2)) a = some sp → Held P w K mg base 3 a sp) (mx_BadText : MkX P w K mg base 1 "BadText" ce.BadText ["row", "why"]) : FnOk P w K mg base (L2.CX P w) 5 fa fd ["rows", "has_form"] (spM K true 2 (f_require_form ce)) :=
  okMX F sc_require_form rfl (by decide) fun cdv A outer s H E hr => ⟨_, (pss_one (ps_for (passes_of rfl) rfl (pi_enumK (K := K) rfl (by rfl) B.b_enumerate (pa_cons (pv 0) pa_nil)) (pg_tupK (K := K) (n := 2) rfl rfl (pgs_cons (pg_name (i := 2) sc_require_form.nd rfl (Or.inl rfl)) (pgs_cons (pg_name (i := 3) sc_require_form.nd rfl (Or.inl rfl)) pgs_nil))) (pss_one (ps_if (pt_not (pt_val (pe_callA (i := 1) hd_A (hr.mono (by first | decide | exact Nat.le_refl _)) (by rfl) (by first | exact Or.inl rfl | exact Or.inr (Or.inl rfl) | exact Or.inr (Or.inr rfl)) (pa_cons (pv 2) (pa_cons (pv 3) pa_nil))))) (pss_one (ps_raiseX mx_BadText hr (by decide) rfl (takes_of rfl rfl rfl rfl) (by rfl) (pa_cons (pv 2) (pa_cons pe_str pa_nil)))) pss_nil)))),
  (r_for (xi_enum (det_a1 det_var) (xa_cons xe_var xa_nil)) (xg_tup (xgs_cons xg_name (xgs_cons xg_name xgs_nil))) (r_if (xt_not (xt_B (xe_callA (xa_cons xe_var (xa_cons xe_var xa_nil))).old)) (r_raise (xa_cons xe_var (xa_cons xe_str xa_nil))) r_nx))⟩
def m_write_moves (ce : CE) : Env → M Oc := (sRet (mM1 joinD (mC (.str "\n")) (mLst (mLc (mSeq (mVar 0)) [1, 2, 3] (gTupD 3 (gsCons gOne (gsCons gOne (gsCons gOne gsNil)))) mYes (mJs [(mFmt (mVar 1)), (mC (.str " ")), (mFmt (mVar 2)), (mC (.str " ")), (mFmt (mVar 3))] Str.empty) [1, 2, 3]))))
def f_write_moves (ce : CE) : List D → M D := mDef 4 (m_write_moves ce)
theorem ok_write_moves [Tbl] {ce : CE} {P : Program} {w : World} {K : Fr} {mg : Str → Option Value} {base : Heap} {fa : Addr} {fd : FuncData} (F : L2.Fun K "write_moves" "write_moves" s_write_moves fa fd) (B : Bt mg) : FnOk P w K mg base C8.CX0 1 fa fd ["moves"] (spC K true 1 (f_write_moves ce)) :=
  okM F sc_write_moves rfl (by decide) fun cdv A outer s H E hr => ⟨_, (pss_one (ps_ret (pe_join pe_str (pe_lc (own := [("family", 1), ("line", 2), ("village", 3)]) rfl sc_write_moves.nd (pi_seqK (K := K) rfl (pv 0)) (blkOk_by (by kernel_rfl)) (fun _ _ _ _ _ => (pg_tupK (K := K) (n := 3) rfl rfl (pgs_cons (pg_name (i := 1) sc_write_moves.nd rfl (Or.inl rfl)) (pgs_cons (pg_name (i := 2) sc_write_moves.nd rfl (Or.inl rfl)) (pgs_cons (pg_name (i := 3) sc_write_moves.nd rfl (Or.inl rfl)) pgs_nil))))) (fun _ _ _ _ _ => pts_nil) (fun _ _ _ _ _ => (pe_joined (PJ.cons (pe_fmt (pv 1)) (PJ.cons pe_str (PJ.cons (pe_fmt (pv 2)) (PJ.cons pe_str (PJ.cons (pe_fmt (pv 3)) PJ.nil))))))))))),
  (r_ret (xe_m1 (f1 := false) od_join xe_str (xl_lc (xi_seq det_var xe_var) (xg_tup (xgs_cons xg_name (xgs_cons xg_name (xgs_cons xg_name xgs_nil)))) xt_yes (xe_js (XJs.cons (xe_fmt xe_var) (XJs.cons xe_str (XJs.cons (xe_fmt xe_var) (XJs.cons xe_str (XJs.cons (xe_fmt xe_var) XJs.nil))))) Str.empty) (by decide)).xe))⟩
def m_read_moves_3 (ce : CE) : Env → M Oc := (sRetB (mLst (mLc (mSeq (mVar 1)) [3] gOne mYes (mCb (tupD true) (aCons (mLst (mLc (mSeq (mVar 3)) [2] gOne mYes (mCb intSD (aCons (mVar 2) aNil)) [2])) aNil)) [3])))
def m_read_moves_2 (ce : CE) : Env → M Oc := (sSeq (sDrop (mCall 2 (f_require_form ce) (aCons (mVar 1) (aCons (mC (.fn ce.is_move_row)) aNil)))) (m_read_moves_3 ce))
def m_read_moves_1 (ce : CE) : Env → M Oc := (sSeq (sB 1 (mCallC 1 (f_rows_of ce) (aCons (mVar 0) aNil))) (m_read_moves_2 ce))
def m_read_moves (ce : CE) : Env → M Oc := (sSeq (sIf (mTest (m2 eqD (mVar 0) (mC (.str "")))) (sRetB (mLst (lLst aNil))) sNx) (m_read_moves_1 ce))
def f_read_moves (ce : CE) : List D → M D := mDef 4 (m_read_moves ce)
theorem ok_read_moves [Tbl] {ce : CE} {P : Program} {w : World} {K : Fr} {mg : Str → Option Value} {base : Heap} {fa : Addr} {fd : FuncData} (F : L2.Fun K "read_moves" "read_moves" s_read_moves fa fd) (B : Bt mg) (c_rows_of : C8.Cal P w K mg base 1 "rows_of" (spC K true 1 (f_rows_of ce)) []) (cX_require_form : CalX P w K mg base 5 "require_form" (spM K true 2 (f_require_form ce))) (c_is_move_row : C8.Cal P w K mg base 3 "is_move_row" (spC K true 2 (f_is_move_row ce)) []) (mg_is_move_row : mg "is_move_row" = some (.ref ce.is_move_row)) : FnOk P w K mg base (L2.CX P w) 6 fa fd ["text"] (spM K true 1 (f_read_moves ce)) :=
  okMX F sc_read_moves rfl (by decide) fun cdv A outer s H E hr => ⟨_, (pss_cons (ps_if (pt_cmpR (op_eqUK (K := K) rfl hr.units) (pv 0) pe_str (nomark _)) (pss_one (ps_ret (pe_lst pa_nil))) pss_nil) 
  (pss_cons (ps_set (i := 1) sc_read_moves.nd rfl (Or.inl rfl) (C8.pe_c c_rows_of hr (by first | decide | exact Nat.le_refl _) (by rfl) (pa_cons (pv 0) pa_nil))) 
  (pss_cons (ps_expr (pe_cX cX_require_form hr (by first | decide | exact Nat.le_refl _) (by rfl) (fun σ => passAt (takes_of rfl rfl rfl rfl) σ) (pa_cons (pv 1) (pa_cons (pe_glob (v := .ref ce.is_move_row) (by rfl) mg_is_move_row rfl) pa_nil)))) 
  (pss_one (ps_ret (pe_lc (own := [("words", 3)]) rfl sc_read_moves.nd (pi_seqK (K := K) rfl (pv 1)) (blkOk_by (by kernel_rfl)) (fun _ _ _ _ _ => (pg_name (i := 3) sc_read_moves.nd rfl (Or.inl rfl))) (fun _ _ _ _ _ => pts_nil) (fun _ _ _ _ _ => (pe_callTy (cl_tupK (K := K) rfl) (by rfl) B.b_tuple bt_tuple (pa_cons (pe_lc (own := [("word", 2)]) rfl sc_read_moves.nd (pi_seqK (K := K) rfl (pv 3)) (blkOk_by (by kernel_rfl)) (fun _ _ _ _ _ => (pg_name (i := 2) sc_read_moves.nd rfl (Or.inl rfl))) (fun _ _ _ _ _ => pts_nil) (fun _ _ _ _ _ => (pe_callTy cr_intS (by rfl) B.b_int bt_int (pa_cons (pv 2) pa_nil)))) pa_nil))))))))),
  (r_seq (r_if (xt_test (xe_op (f1 := false) od_eq xe_var xe_str)) (r_retB (xl_lst xa_nil).xe) r_nx)
  (r_seq (r_asgB (xe_callC' (xa_cons xe_var xa_nil)))
  (r_seq (r_drop ((xs_call fun _ => (xa_cons xe_var (xa_cons xe_fn xa_nil))).xe).old)
  (r_retB (xl_lc (xi_seq det_var xe_var) xg_name xt_yes (xe_cb cd_tup (xa_cons (xl_lc (xi_seq det_var xe_var) xg_name xt_yes (xe_cb cd_intS (xa_cons xe_var xa_nil)) (by decide)).xe xa_nil)) (by decide)).xe))))⟩
def m_law_pool_1 (_ : Unit) : Env → M Oc := (sRet (mLst (lLst (aCons (mVarF 1) (aCons (mC (.int 0)) (aCons (mC (.int 0)) (aCons (mC (.int 0)) (aCons (m2 modD (mCb intD (aCons (mCb sumD (aCons (mVar 1) aNil)) aNil)) (mC (.int 1000000007))) aNil))))))))
def m_law_pool (_ : Unit) : Env → M Oc := (sSeq (sB 1 (mLst (mLc (mSeqL (mLst (lCutScr (mVar 0) oNone (oSome (mC (.int 63)))))) [2] gOne mYes (mCb absD (aCons (mCb intD (aCons (mVar 2) aNil)) aNil)) [2]))) (m_law_pool_1 ()))
def f_law_pool (ce : CE) : List D → M D := poolF
theorem law_pool_m [Tbl] : mDef 3 (m_law_pool ()) [.scr] (fun d => ∃ (ms : List Int) (j : Int), d = .lst [.lst (ms.map .int), .int 0, .int 0, .int 0, .int j] ∧ 0 ≤ j ∧ ∀ n ∈ ms, 0 ≤ n) (fun _ => False) := by
  simp [m_law_pool, lCutScr]
  intro ns hn
  dsimp only
  rw [M.grd_pos (show (ns.map D.int).length ≤ 50000 by rw [List.length_map]; omega)]
  rw [lcGo_all (h := fun n => .int (if n < 0 then -n else n)) (e := fun n => [.int n]) (fun a _ => by simp), map_int]
  generalize hms : ns.map (fun n => if n < 0 then -n else n) = ms
  simp [m_law_pool_1, modD_pos (i := ms.sum) (j := 1000000007) (by decide)]
  refine ⟨ms, _, rfl, Int.emod_nonneg _ (by decide), fun n hn => ?_⟩
  rw [← hms] at hn
  obtain ⟨m, _, rfl⟩ := List.mem_map.mp hn
  split <;> omega
theorem ok_law_pool [Tbl] {ce : CE} {P : Program} {w : World} {K : Fr} {mg : Str → Option Value} {base : Heap} {fa : Addr} {fd : FuncData} (F : L2.Fun K "_law_pool" "_law_pool" s_law_pool fa fd) (B : Bt mg) : FnOk P w K mg base C8.CX0 1 fa fd ["script"] (spC K false 1 (f_law_pool ce)) :=
  (pool_made ((okM (m := m_law_pool ()) F sc_law_pool rfl (by decide) fun cdv A outer s H E hr => ⟨_, (pss_cons (ps_setLc (i := 1) (own := [("cell", 2)]) rfl sc_law_pool.nd rfl rfl (sw_true rfl rfl rfl (by decide +kernel)) (pi_seqK (K := K) rfl (pe_slice (sl_UK (K := K) rfl) (pv 0) po_none (po_some pe_int))) (blkOk_by (by kernel_rfl)) (fun _ _ _ _ _ => (pg_name (i := 2) sc_law_pool.nd rfl (Or.inl rfl))) (fun _ _ _ _ _ => pts_nil) (fun _ _ _ _ _ => (pe_callB call_abs (by rfl) B.b_abs bt_abs (pa_cons (pe_callTy cl_int (by rfl) B.b_int bt_int (pa_cons (pv 2) pa_nil)) pa_nil)))) 
  (pss_one (ps_ret (pe_lst (pa_cons (pv 1) (pa_cons pe_int (pa_cons pe_int (pa_cons pe_int (pa_cons (pe_op op_modN (pe_callTy cl_int (by rfl) B.b_int bt_int (pa_cons (pe_callB (cr_sumK (K := K) rfl rfl) (by rfl) B.b_sum bt_sum (pa_cons (pv 1) pa_nil)) pa_nil)) pe_int) pa_nil))))))))),
  (r_seq (r_asgB (xl_lc (xi_seqL (xl_cutScr xe_var xo_none (xo_some xe_int)).xe) xg_name xt_yes (xe_cb cd_abs (xa_cons (xe_cb cd_int (xa_cons xe_var xa_nil)) xa_nil)) (by decide)).xe)
  (r_ret (xl_lst (xa_cons xe_varF (xa_cons xe_int (xa_cons xe_int (xa_cons xe_int (xa_cons (xe_op (f1 := false) od_mod (xe_cb cd_int (xa_cons (xe_cb cd_sum (xa_cons xe_var xa_nil)) xa_nil)) xe_int) xa_nil)))))).xe))⟩).imp (pool_in_of law_pool_m)) rfl).imp pool_spC
def m_law_draw_7 (_ : Unit) : Env → M Oc := (sRetB (m2 modD (mCb intD (aCons (m2 divD (mVar 4) (mC (.int 64))) aNil)) (mVar 1)))
def m_law_draw_6 (_ : Unit) : Env → M Oc := (sSeq (sB 4 (m2 modD (mCb intD (aCons (m2 addD (m2 addD (m2 mulD (mVar 4) (mVar 4)) (mVar 2)) (mC (.int 1))) aNil)) (mC (.int 2147483563)))) (m_law_draw_7 ()))
def m_law_draw_5 (_ : Unit) : Env → M Oc := (sSeq (sB 4 (m2 modD (mCb intD (aCons (m2 addD (m2 addD (m2 mulD (mVar 4) (mVar 4)) (m2 mulD (m2 ixD (mVar 0) (mC (.int 3))) (mC (.int 40692)))) (mC (.int 7))) aNil)) (mC (.int 2147483399)))) (m_law_draw_6 ()))
def m_law_draw_4 (_ : Unit) : Env → M Oc := (sSeq (sB 4 (m2 modD (mCb intD (aCons (m2 addD (m2 addD (m2 mulD (mVar 2) (mC (.int 48271))) (m2 mulD (m2 ixD (mVar 0) (mC (.int 3))) (mC (.int 69621)))) (mC (.int 12345))) aNil)) (mC (.int 2147483647)))) (m_law_draw_5 ()))
def m_law_draw_3 (_ : Unit) : Env → M Oc := (sSeq (sIf (mTOr (mTest (m2 (cmpD fun i j => decide (j < i)) (m2 ixD (mVar 0) (mC (.int 2))) (mC (.int 1)))) (mTest (m2 (cmpD fun i j => decide (j ≤ i)) (mVar 2) (m2 powD (mC (.int 10)) (mC (.int 18)))))) (sSeq (sB 3 (m2 modD (mCb intD (aCons (m2 ixD (mVar 0) (mC (.int 2))) aNil)) (mVar 1)))
  (sSeq (sSet 0 (mC (.int 2)) (m2 divD (m2 ixD (mVar 0) (mC (.int 2))) (mVar 1)))
  (sRet (mVarF 3)))) sNx) (m_law_draw_4 ()))
def m_law_draw_2 (_ : Unit) : Env → M Oc := (sSeq (sIf (mTAnd (mTest (m2 (cmpD fun i j => decide (i < j)) (m2 ixD (mVar 0) (mC (.int 2))) (mC (.int 2)))) (mTest (m2 (cmpD fun i j => decide (i < j)) (m2 ixD (mVar 0) (mC (.int 1))) (mCb lenD (aCons (m2 ixD (mVar 0) (mC (.int 0))) aNil))))) (sSeq (sB 2 (mSc (m2 ixD (m2 ixD (mVar 0) (mC (.int 0))) (m2 ixD (mVar 0) (mC (.int 1))))))
  (sSeq (sSet 0 (mC (.int 1)) (m2 addD (m2 ixD (mVar 0) (mC (.int 1))) (mC (.int 1))))
  (sIf (mTest (m2 (cmpD fun i j => decide (j ≤ i)) (mVar 2) (m2 powD (mC (.int 10)) (mC (.int 18))))) (sSet 0 (mC (.int 2)) (m2 subD (mVar 2) (m2 powD (mC (.int 10)) (mC (.int 18))))) sNx))) sNx) (m_law_draw_3 ()))
def m_law_draw_1 (_ : Unit) : Env → M Oc := (sSeq (sB 2 (mSc (m2 ixD (mVar 0) (mC (.int 4))))) (m_law_draw_2 ()))
def m_law_draw (_ : Unit) : Env → M Oc := (sSeq (sSet 0 (mC (.int 3)) (m2 addD (m2 ixD (mVar 0) (mC (.int 3))) (mC (.int 1)))) (m_law_draw_1 ()))
def f_law_draw (ce : CE) : List D → M D := drawF
def drawEnd (p c : Addr) (ns : List Int) (many : Int) : Oc → Prop := fun o => ∃ ρ d j1 j2 j3 j4, o = .rt (.ow (some p) false [.at_ c (.lst (ns.map .int)), .int j1, .int j2, .int j3, .int j4] :: ρ) (.int d) ∧ 0 ≤ d ∧ d < many ∧ 0 ≤ j1 ∧ 0 ≤ j2 ∧ 0 ≤ j3 ∧ 0 ≤ j4
theorem law_draw_m3 [Tbl] (p c : Addr) (ns : List Int) (i1 i2 i3 i4 b many : Int) (h1 : 0 ≤ i1) (h2 : 0 ≤ i2) (h3 : 0 ≤ i3) (h4 : 0 ≤ i4) (hm : 0 < many) (hm2 : many < 2 ^ 200) :
    m_law_draw_3 () [.ow (some p) false [.at_ c (.lst (ns.map .int)), .int i1, .int i2, .int i3, .int i4], .sh false (.int many), .sh true (.int b), .un, .un] (drawEnd p c ns many) (fun _ => False) := by
  have x2 : ixN 5 2 = some 2 := by decide
  have cd : CDivW i2 many := wide_div hm (by omega : many.natAbs < 2 ^ 200) (by decide) (by decide)
  have md := modD_pos (i := i2) hm
  have dd := divD_int cd
  have tail : m_law_draw_4 () [.ow (some p) false [.at_ c (.lst (ns.map .int)), .int i1, .int i2, .int i3, .int i4], .sh false (.int many), .sh true (.int b), .un, .un] (drawEnd p c ns many) (fun _ => False) := by
    have sm : ∀ x : Int, -(2 ^ 64) < x % 2147483399 ∧ x % 2147483399 < 2 ^ 64 := fun x => by have := Int.emod_nonneg x (b := 2147483399) (by decide); have := Int.emod_lt_of_pos x (b := 2147483399) (by decide); omega
    have sm2 : ∀ x : Int, -(2 ^ 64) < x % 2147483647 ∧ x % 2147483647 < 2 ^ 64 := fun x => by have := Int.emod_nonneg x (b := 2147483647) (by decide); have := Int.emod_lt_of_pos x (b := 2147483647) (by decide); omega
    have c64 : ∀ x : Int, CDivW x 64 := fun x => ⟨by decide, by decide⟩
    simp [m_law_draw_4, m_law_draw_5, m_law_draw_6, m_law_draw_7, mulD_l (sm2 _), mulD_l (sm _), divD_int (c64 _), modD_pos hm]
    exact ⟨_, _, _, _, _, _, rfl, Int.emod_nonneg _ (by omega), Int.emod_lt_of_pos _ hm, h1, h2, h3, h4⟩
  unfold m_law_draw_3
  by_cases a : 1 < i2
  · simp [a, x2, md, dd]
    exact ⟨_, _, _, _, _, _, rfl, Int.emod_nonneg _ (by omega), Int.emod_lt_of_pos _ hm, h1, Int.ediv_nonneg h2 (by omega), h3, h4⟩
  · by_cases e : 1000000000000000000 ≤ b
    · simp [a, e, x2, md, dd]
      exact ⟨_, _, _, _, _, _, rfl, Int.emod_nonneg _ (by omega), Int.emod_lt_of_pos _ hm, h1, Int.ediv_nonneg h2 (by omega), h3, h4⟩
    · simp [a, e]
      exact tail
theorem law_draw_m [Tbl] (p c : Addr) (ns : List Int) (i1 i2 i3 i4 many : Int) (hn : ∀ n ∈ ns, 0 ≤ n) (h1 : 0 ≤ i1) (h2 : 0 ≤ i2) (h3 : 0 ≤ i3) (h4 : 0 ≤ i4) (hm : 0 < many) (hm2 : many < 2 ^ 200) :
    m_law_draw () ([.ow (some p) false [.at_ c (.lst (ns.map .int)), .int i1, .int i2, .int i3, .int i4], .sh false (.int many)] ++ List.replicate 3 .un)
        (drawEnd p c ns many) (fun _ => False) := by
  have x3 : ixN 5 3 = some 3 := by decide
  have x1 : ixN 5 1 = some 1 := by decide
  have x2 : ixN 5 2 = some 2 := by decide
  have t := law_draw_m3 (p := p) (c := c) (ns := ns) (many := many) (hm := hm) (hm2 := hm2)
  simp [m_law_draw, m_law_draw_1, m_law_draw_2, List.replicate, x3]
  by_cases a : i2 < 2
  · by_cases b : i1 < ns.length
    · have hx := atI_int h1 b
      have x0 : 0 ≤ ix ns i1 := hn _ (List.mem_of_getElem? (ix_get h1 b))
      by_cases e : 1000000000000000000 ≤ ix ns i1
      · simp [a, b, hx, x1, x2, e]
        exact t _ _ _ _ _ (by omega) (by omega) (by omega) h4
      · simp [a, b, hx, x1, e]
        exact t _ _ _ _ _ (by omega) h2 (by omega) h4
    · simp [a, b]
      exact t _ _ _ _ _ h1 h2 (by omega) h4
  · simp [a]
    exact t _ _ _ _ _ h1 h2 (by omega) h4
theorem ok_law_draw [Tbl] {ce : CE} {P : Program} {w : World} {K : Fr} {mg : Str → Option Value} {base : Heap} {fa : Addr} {fd : FuncData} (F : L2.Fun K "_law_draw" "_law_draw" s_law_draw fa fd) (B : Bt mg) : FnOk P w K mg base C8.CX0 1 fa fd ["pool", "many"] (spC K true 2 (f_law_draw ce)) :=
  (draw_out (draw_in_of F sc_law_draw rfl (fun cdv A outer s H E hr => ⟨_, (pss_cons (ps_asg (pe_op (op_addUK (K := K) rfl) (pe_ix (ix_UK (K := K) rfl (u1 hr)) (pv 0) pe_int (fun _ _ => rfl)) pe_int) (pg_sub (pv 0) pe_int set_list)) 
  (pss_cons (ps_set (i := 2) sc_law_draw.nd rfl (Or.inl rfl) (pe_ix (ix_UK (K := K) rfl (u1 hr)) (pv 0) pe_int (fun _ _ => rfl))) 
  (pss_cons (ps_if (PW.pt (pw_and (pt_cmpR op_lt (pe_ix (ix_UK (K := K) rfl (u1 hr)) (pv 0) pe_int (fun _ _ => rfl)) pe_int (nomark _)) (pw_and1 (pt_cmpR op_lt (pe_ix (ix_UK (K := K) rfl (u1 hr)) (pv 0) pe_int (fun _ _ => rfl)) (pe_callB (cl_lenK (K := K) rfl) (by rfl) B.b_len bt_len (pa_cons (pe_ix (ix_UK (K := K) rfl (u1 hr)) (pv 0) pe_int (fun _ _ => rfl)) pa_nil)) (nomark _))))) (pss_cons (ps_set (i := 2) sc_law_draw.nd rfl (Or.inl rfl) (pe_ix (ix_UK (K := K) rfl (u1 hr)) (pe_ix (ix_UK (K := K) rfl (u1 hr)) (pv 0) pe_int (fun _ _ => rfl)) (pe_ix (ix_UK (K := K) rfl (u1 hr)) (pv 0) pe_int (fun _ _ => rfl)) (fun _ _ => rfl))) 
  (pss_cons (ps_asg (pe_op (op_addUK (K := K) rfl) (pe_ix (ix_UK (K := K) rfl (u1 hr)) (pv 0) pe_int (fun _ _ => rfl)) pe_int) (pg_sub (pv 0) pe_int set_list)) 
  (pss_one (ps_if (pt_cmpR op_ge (pv 2) (pe_op op_pow pe_int pe_int) (nomark _)) (pss_one (ps_asg (pe_op op_sub (pv 2) (pe_op op_pow pe_int pe_int)) (pg_sub (pv 0) pe_int set_list))) pss_nil)))) pss_nil) 
  (pss_cons (ps_if (PW.pt (pw_or (pt_cmpR op_gt (pe_ix (ix_UK (K := K) rfl (u1 hr)) (pv 0) pe_int (fun _ _ => rfl)) pe_int (nomark _)) (pw_or1 (pt_cmpR op_ge (pv 2) (pe_op op_pow pe_int pe_int) (nomark _))))) (pss_cons (ps_set (i := 3) sc_law_draw.nd rfl (Or.inl rfl) (pe_op op_modN (pe_callTy cl_int (by rfl) B.b_int bt_int (pa_cons (pe_ix (ix_UK (K := K) rfl (u1 hr)) (pv 0) pe_int (fun _ _ => rfl)) pa_nil)) (pv 1))) 
  (pss_cons (ps_asg (pe_op op_fdivW (pe_ix (ix_UK (K := K) rfl (u1 hr)) (pv 0) pe_int (fun _ _ => rfl)) (pv 1)) (pg_sub (pv 0) pe_int set_list)) 
  (pss_one (ps_ret (pv 3))))) pss_nil) 
  (pss_cons (ps_set (i := 4) sc_law_draw.nd rfl (Or.inl rfl) (pe_op op_modN (pe_callTy cl_int (by rfl) B.b_int bt_int (pa_cons (pe_op (op_addUK (K := K) rfl) (pe_op (op_addUK (K := K) rfl) (pe_op op_mulU (pv 2) pe_int) (pe_op op_mulU (pe_ix (ix_UK (K := K) rfl (u1 hr)) (pv 0) pe_int (fun _ _ => rfl)) pe_int)) pe_int) pa_nil)) pe_int)) 
  (pss_cons (ps_set (i := 4) sc_law_draw.nd rfl (Or.inl rfl) (pe_op op_modN (pe_callTy cl_int (by rfl) B.b_int bt_int (pa_cons (pe_op (op_addUK (K := K) rfl) (pe_op (op_addUK (K := K) rfl) (pe_op op_mulU (pv 4) (pv 4)) (pe_op op_mulU (pe_ix (ix_UK (K := K) rfl (u1 hr)) (pv 0) pe_int (fun _ _ => rfl)) pe_int)) pe_int) pa_nil)) pe_int)) 
  (pss_cons (ps_set (i := 4) sc_law_draw.nd rfl (Or.inl rfl) (pe_op op_modN (pe_callTy cl_int (by rfl) B.b_int bt_int (pa_cons (pe_op (op_addUK (K := K) rfl) (pe_op (op_addUK (K := K) rfl) (pe_op op_mulU (pv 4) (pv 4)) (pv 2)) pe_int) pa_nil)) pe_int)) 
  (pss_one (ps_ret (pe_op op_modN (pe_callTy cl_int (by rfl) B.b_int bt_int (pa_cons (pe_op op_fdivW (pv 4) pe_int) pa_nil)) (pv 1))))))))))),
  (r_seq (r_set (xe_op od_add (xe_op od_ix xe_var xe_int) xe_int) xe_int)
  (r_seq (r_asgB (xe_sc (xe_op od_ix xe_var xe_int)))
  (r_seq (r_if (xt_and (xt_test (xe_op (f1 := false) od_lt (xe_op od_ix xe_var xe_int) xe_int)) (xt_test (xe_op (f1 := false) od_lt (xe_op od_ix xe_var xe_int) (xe_cb cd_len (xa_cons (xe_op od_ix xe_var xe_int) xa_nil))))) (r_seq (r_asgB (xe_sc (xe_op od_ix (xe_op od_ix xe_var xe_int) (xe_op od_ix xe_var xe_int))))
  (r_seq (r_set (xe_op od_add (xe_op od_ix xe_var xe_int) xe_int) xe_int)
  (r_if (xt_test (xe_op (f1 := false) od_ge xe_var (xe_op (f1 := false) od_pow xe_int xe_int))) (r_set (xe_op (f1 := false) od_sub xe_var (xe_op (f1 := false) od_pow xe_int xe_int)) xe_int) r_nx))) r_nx)
  (r_seq (r_if (xt_or (xt_test (xe_op (f1 := false) od_gt (xe_op od_ix xe_var xe_int) xe_int)) (xt_test (xe_op (f1 := false) od_ge xe_var (xe_op (f1 := false) od_pow xe_int xe_int)))) (r_seq (r_asgB (xe_op (f1 := false) od_mod (xe_cb cd_int (xa_cons (xe_op od_ix xe_var xe_int) xa_nil)) xe_var))
  (r_seq (r_set (xe_op (f1 := false) od_div (xe_op od_ix xe_var xe_int) xe_var) xe_int)
  (r_ret xe_varF))) r_nx)
  (r_seq (r_asgB (xe_op (f1 := false) od_mod (xe_cb cd_int (xa_cons (xe_op od_add (xe_op od_add (xe_op (f1 := false) od_mul xe_var xe_int) (xe_op (f1 := false) od_mul (xe_op od_ix xe_var xe_int) xe_int)) xe_int) xa_nil)) xe_int))
  (r_seq (r_asgB (xe_op (f1 := false) od_mod (xe_cb cd_int (xa_cons (xe_op od_add (xe_op od_add (xe_op (f1 := false) od_mul xe_var xe_var) (xe_op (f1 := false) od_mul (xe_op od_ix xe_var xe_int) xe_int)) xe_int) xa_nil)) xe_int))
  (r_seq (r_asgB (xe_op (f1 := false) od_mod (xe_cb cd_int (xa_cons (xe_op od_add (xe_op od_add (xe_op (f1 := false) od_mul xe_var xe_var) xe_var) xe_int) xa_nil)) xe_int))
  (r_retB (xe_op (f1 := false) od_mod (xe_cb cd_int (xa_cons (xe_op (f1 := false) od_div xe_var xe_int) xa_nil)) xe_var)))))))))⟩) law_draw_m) rfl).imp draw_spC
def m_law_same_8 (rec : List D → M D) : Env → M Oc := (sRetB (mC (.bl true)))
def m_law_same_7 (rec : List D → M D) : Env → M Oc := (sSeq (sForR (mRg rng1D (aCons (mCb lenD (aCons (mVar 1) aNil)) aNil)) [2] gOne (sIf (mTNot (mTest (mCallC 2 rec (aCons (m2 ixD (mVar 0) (mVar 2)) (aCons (m2 ixD (mVar 1) (mVar 2)) aNil))))) (sRetB (mC (.bl false))) sNx)) (m_law_same_8 rec))
def m_law_same_6 (rec : List D → M D) : Env → M Oc := (sSeq (sIf (mTest (m2 neD (mCb lenD (aCons (mVar 0) aNil)) (mCb lenD (aCons (mVar 1) aNil)))) (sRetB (mC (.bl false))) sNx) (m_law_same_7 rec))
def m_law_same_5 (rec : List D → M D) : Env → M Oc := (sSeq (sIf (mTOr (mTAnd (mTest (mCb isiO (aCons (mVar 1) (aCons (mC (.ty "list")) aNil)))) (mTNot (mTest (mCb isiO (aCons (mVar 0) (aCons (mC (.ty "list")) aNil)))))) (mTAnd (mTest (mCb isiO (aCons (mVar 1) (aCons (mC (.ty "tuple")) aNil)))) (mTNot (mTest (mCb isiO (aCons (mVar 0) (aCons (mC (.ty "tuple")) aNil))))))) (sRetB (mC (.bl false))) sNx) (m_law_same_6 rec))
def m_law_same_4 (rec : List D → M D) : Env → M Oc := (sSeq (sIf (mTest (mCb isiO (aCons (mVar 1) (aCons (mC (.ty "str")) aNil)))) (sRetB (mAnd (mCb isiO (aCons (mVar 0) (aCons (mC (.ty "str")) aNil))) (m2 eqD (mVar 0) (mVar 1)))) sNx) (m_law_same_5 rec))
def m_law_same_3 (rec : List D → M D) : Env → M Oc := (sSeq (sIf (mTest (mCb isiO (aCons (mVar 1) (aCons (mC (.ty "int")) aNil)))) (sRetB (mAnd (mCb isiO (aCons (mVar 0) (aCons (mC (.ty "int")) aNil))) (mAnd (mNot (mCb isiO (aCons (mVar 0) (aCons (mC (.ty "bool")) aNil)))) (m2 eqD (mVar 0) (mVar 1))))) sNx) (m_law_same_4 rec))
def m_law_same_2 (rec : List D → M D) : Env → M Oc := (sSeq (sIf (mTest (m2 isD (mVar 1) (mC (.bl false)))) (sRetB (m2 isD (mVar 0) (mC (.bl false)))) sNx) (m_law_same_3 rec))
def m_law_same_1 (rec : List D → M D) : Env → M Oc := (sSeq (sIf (mTest (m2 isD (mVar 1) (mC (.bl true)))) (sRetB (m2 isD (mVar 0) (mC (.bl true)))) sNx) (m_law_same_2 rec))
def m_law_same (rec : List D → M D) : Env → M Oc := (sSeq (sIf (mTest (m2 isD (mVar 1) (mC .non))) (sRetB (m2 isD (mVar 0) (mC .non))) sNx) (m_law_same_1 rec))
def f_law_rec : Nat → List D → M D
  | 0 => fun _ => nope
  | k + 1 => mDef 3 (m_law_same (f_law_rec k))
def f_law_same (ce : CE) : List D → M D := sameF
theorem rng_cons (lo : Int) (n : Nat) : rng lo (n + 1) = lo :: rng (lo + 1) n := by
  unfold rng
  rw [List.range_succ_eq_map, List.map_cons, List.map_map]
  congr 1
  · omega
  · apply List.map_congr_left
    intro i _
    show lo + ((i + 1 : Nat) : Int) = lo + 1 + (i : Int)
    omega
theorem law_same_loop [Tbl] {rec : List D → M D} {da db : D} {as bs : List D} (hl : as.length = bs.length) (hr : ∀ (i : Nat) (a b : D), as[i]? = some a → bs[i]? = some b → rec [a, b] = ret (.bl (sameD a b)))
    (ha : ∀ i, ixD da (.int i) = atI as i) (hb : ∀ i, ixD db (.int i) = atI bs i) : ∀ (n k : Nat) (x : Slot), k + n = bs.length →
    bnd (forGo [2] gOne (sIf (mTNot (mTest (mCallC 2 rec (aCons (m2 ixD (mVar 0) (mVar 2)) (aCons (m2 ixD (mVar 1) (mVar 2)) aNil))))) (sRetB (mC (.bl false))) sNx) ((rng (k : Int) n).map D.int) [.sh false da, .sh false db, x]) (fun o => bnd (thenM (m_law_same_8 rec) o) ocD) = ret (.bl (sameL (as.drop k) (bs.drop k)))
  | 0, k, x, h => by
    have h1 : rng (k : Int) 0 = [] := rfl
    rw [h1, List.drop_of_length_le (by omega), List.drop_of_length_le (by omega)]
    simp [forGo, m_law_same_8, sameL]
  | n + 1, k, x, h => by
    obtain ⟨a, h1⟩ : ∃ a, as[k]? = some a := ⟨_, List.getElem?_eq_getElem (by omega)⟩
    obtain ⟨b, h2⟩ : ∃ b, bs[k]? = some b := ⟨_, List.getElem?_eq_getElem (by omega)⟩
    have ih := law_same_loop hl hr ha hb n (k + 1) (.sh false (.int (k : Int))) (by omega)
    rw [rng_cons, List.map_cons, drop_nx h1, drop_nx h2]
    unfold forGo
    simp [ha, hb, atI_nat h1, atI_nat h2, hr k a b h1 h2]
    cases e : sameD a b with
    | false => simp [sameL, e]
    | true =>
      simp [sameL, e]
      simpa using ih
/-- the kinds that are compared -/
def kindD : D → Bool
  | .non => true | .bl _ => true | .int _ => true | .str _ => true | .lst _ => true | .tup _ => true | _ => false
theorem Pl.kind {k : Nat} {d : D} (h : Pl k d) : kindD d = true := by
  cases h with
  | sc h => cases d <;> first | rfl | cases h
  | lst _ _ => rfl
  | tup _ _ => rfl
theorem isi_eq [Tbl] {d : D} {T : String} (hd : kindD d = true) (hT : T ∈ ["bool", "int", "str", "list", "tuple"]) : isiO [d, .ty T] = some (.bl (isiD d T)) := by
  have h : plainD d = true := by cases d <;> first | rfl | cases hd
  exact if_pos ⟨h, hT⟩
theorem law_same_sc [Tbl] {rec : List D → M D} {a b : D} (ha : kindD a = true) (hb : simpD b = true) : mDef 3 (m_law_same rec) [a, b] = ret (.bl (sameD a b)) := by
  have i1 := isi_eq (T := "int") ha (by decide)
  have i2 := isi_eq (T := "str") ha (by decide)
  have i3 := isi_eq (T := "bool") ha (by decide)
  cases b <;> first | (cases hb; done) | skip
  · simp [m_law_same]
    cases a <;> first | (cases ha; done) | rfl
  · rename_i y
    cases y <;> simp [m_law_same, m_law_same_1, m_law_same_2] <;> (cases a <;> first | (cases ha; done) | simp [sameD, isBl])
  · rename_i y
    have j1 : isiO [D.int y, .ty "int"] = some (.bl true) := isi_eq (by rfl) (by decide)
    have n1 : isBl true (.int y) = false := rfl
    have n2 : isBl false (.int y) = false := rfl
    simp [m_law_same, m_law_same_1, m_law_same_2, m_law_same_3, j1, i1, i3, n1, n2]
    cases a <;> first | (cases ha; done) | simp [sameD, isiD, tyD]
  · rename_i y
    have j1 : isiO [D.str y, .ty "int"] = some (.bl false) := isi_eq (by rfl) (by decide)
    have j2 : isiO [D.str y, .ty "str"] = some (.bl true) := isi_eq (by rfl) (by decide)
    have n1 : isBl true (.str y) = false := rfl
    have n2 : isBl false (.str y) = false := rfl
    simp [m_law_same, m_law_same_1, m_law_same_2, m_law_same_3, m_law_same_4, j1, j2, i2, n1, n2]
    cases a <;> first | (cases ha; done) | simp [sameD, isiD, tyD]
theorem law_same_tail [Tbl] {rec : List D → M D} {da db : D} {as bs : List D} (la : lenD [da] = some (.int (as.length : Int))) (lb : lenD [db] = some (.int (bs.length : Int))) (h5 : bs.length ≤ 50000)
    (hr : ∀ (i : Nat) (a b : D), as[i]? = some a → bs[i]? = some b → rec [a, b] = ret (.bl (sameD a b))) (ha : ∀ i, ixD da (.int i) = atI as i) (hb : ∀ i, ixD db (.int i) = atI bs i) :
    bnd (m_law_same_6 rec [.sh false da, .sh false db, .un]) ocD = ret (.bl (sameL as bs)) := by
  have lp := law_same_loop (rec := rec) (da := da) (db := db) (as := as) (bs := bs)
  by_cases e : as.length = bs.length
  · have e' : (as.length : Int) = (bs.length : Int) := by omega
    have r1 : rng1D [.int (bs.length : Int)] = some ((rng 0 bs.length).map D.int) := by
      have := rng1D_eq (n := (bs.length : Int)) ⟨by omega, by omega⟩
      simpa using this
    have := lp e hr ha hb bs.length 0 .un (by omega)
    simp [m_law_same_6, m_law_same_7, la, lb, e', r1]
    simpa using this
  · have e' : ¬ (as.length : Int) = (bs.length : Int) := by omega
    simp [m_law_same_6, la, lb, e', sameL_len e]
theorem law_same_ls [Tbl] {rec : List D → M D} {a b : D} (ha : kindD a = true) (bs : List D) (hb : b = .lst bs ∨ b = .tup bs) (h5 : bs.length ≤ 50000)
    (hr : ∀ as, (a = .lst as ∨ a = .tup as) → ∀ (i : Nat) (x y : D), as[i]? = some x → bs[i]? = some y → rec [x, y] = ret (.bl (sameD x y))) : mDef 3 (m_law_same rec) [a, b] = ret (.bl (sameD a b)) := by
  have i1 := isi_eq (T := "list") ha (by decide)
  have i2 := isi_eq (T := "tuple") ha (by decide)
  have kb : kindD b = true := by rcases hb with rfl | rfl <;> rfl
  have j1 := isi_eq (T := "int") kb (by decide)
  have j2 := isi_eq (T := "str") kb (by decide)
  have j3 := isi_eq (T := "list") kb (by decide)
  have j4 := isi_eq (T := "tuple") kb (by decide)
  rcases hb with rfl | rfl
  · have n1 : isBl true (.lst bs) = false := rfl
    have n2 : isBl false (.lst bs) = false := rfl
    have j1 : isiO [D.lst bs, .ty "int"] = some (.bl false) := j1
    have j2 : isiO [D.lst bs, .ty "str"] = some (.bl false) := j2
    have j3 : isiO [D.lst bs, .ty "list"] = some (.bl true) := j3
    have j4 : isiO [D.lst bs, .ty "tuple"] = some (.bl false) := j4
    by_cases hl : ∃ as, a = .lst as
    · obtain ⟨as, rfl⟩ := hl
      have i1 : isiO [D.lst as, .ty "list"] = some (.bl true) := i1
      have := law_same_tail (rec := rec) (da := .lst as) (db := .lst bs) (as := as) (bs := bs) rfl rfl h5 (hr as (.inl rfl)) (fun _ => rfl) (fun _ => rfl)
      simp [m_law_same, m_law_same_1, m_law_same_2, m_law_same_3, m_law_same_4, m_law_same_5, j1, j2, j3, j4, i1, n1, n2]
      exact this
    · have i1' : isiD a "list" = false := by cases a <;> first | (cases ha; done) | rfl | exact absurd ⟨_, rfl⟩ hl
      rw [i1'] at i1
      have s : sameD a (.lst bs) = false := by cases a <;> first | (cases ha; done) | rfl | exact absurd ⟨_, rfl⟩ hl
      simp [m_law_same, m_law_same_1, m_law_same_2, m_law_same_3, m_law_same_4, m_law_same_5, j1, j2, j3, j4, i1, n1, n2, s]
  · have n1 : isBl true (.tup bs) = false := rfl
    have n2 : isBl false (.tup bs) = false := rfl
    have j1 : isiO [D.tup bs, .ty "int"] = some (.bl false) := j1
    have j2 : isiO [D.tup bs, .ty "str"] = some (.bl false) := j2
    have j3 : isiO [D.tup bs, .ty "list"] = some (.bl false) := j3
    have j4 : isiO [D.tup bs, .ty "tuple"] = some (.bl true) := j4
    by_cases hl : ∃ as, a = .tup as
    · obtain ⟨as, rfl⟩ := hl
      have i2 : isiO [D.tup as, .ty "tuple"] = some (.bl true) := i2
      have := law_same_tail (rec := rec) (da := .tup as) (db := .tup bs) (as := as) (bs := bs) rfl rfl h5 (hr as (.inr rfl)) (fun _ => rfl) (fun _ => rfl)
      simp [m_law_same, m_law_same_1, m_law_same_2, m_law_same_3, m_law_same_4, m_law_same_5, j1, j2, j3, j4, i2, n1, n2]
      exact this
    · have i1' : isiD a "tuple" = false := by cases a <;> first | (cases ha; done) | rfl | exact absurd ⟨_, rfl⟩ hl
      rw [i1'] at i2
      have s : sameD a (.tup bs) = false := by cases a <;> first | (cases ha; done) | rfl | exact absurd ⟨_, rfl⟩ hl
      simp [m_law_same, m_law_same_1, m_law_same_2, m_law_same_3, m_law_same_4, m_law_same_5, j1, j2, j3, j4, i2, n1, n2, s]
theorem law_rec_eq [Tbl] : ∀ (k : Nat) (a b : D), Pl k a → Pl k b → f_law_rec (k + 1) [a, b] = ret (.bl (sameD a b)) := by
  intro k
  induction k with
  | zero =>
    intro a b ha hb
    cases hb with
    | sc hb => exact law_same_sc ha.kind hb
  | succ k ih =>
    intro a b ha hb
    have hel : ∀ {bs : List D}, (∀ d ∈ bs, Pl k d) → ∀ as, (a = .lst as ∨ a = .tup as) → ∀ (i : Nat) (x y : D), as[i]? = some x → bs[i]? = some y → f_law_rec (k + 1) [x, y] = ret (.bl (sameD x y)) := fun {bs} hbs as has i x y hx hy => by
      refine ih x y ?_ (hbs y (List.mem_of_getElem? hy))
      rcases has with rfl | rfl
      · cases ha with
        | sc h => cases h
        | lst _ h => exact h x (List.mem_of_getElem? hx)
      · cases ha with
        | sc h => cases h
        | tup _ h => exact h x (List.mem_of_getElem? hx)
    cases hb with
    | sc hb => exact law_same_sc ha.kind hb
    | lst h5 hbs => exact law_same_ls ha.kind _ (.inl rfl) h5 (hel hbs)
    | tup h5 hbs => exact law_same_ls ha.kind _ (.inr rfl) h5 (hel hbs)
theorem law_same_to [Tbl] {ds : List D} {Φ : D → Prop} (h : sameF ds Φ (fun _ => False)) : f_law_rec 9 ds Φ (fun _ => False) := by
  unfold sameF at h
  split at h
  · obtain ⟨⟨h1, h2⟩, h⟩ := h
    rw [law_rec_eq 8 _ _ h1 h2]
    exact h
  · exact h.elim
theorem ok_law_rec [Tbl] {ce : CE} {P : Program} {w : World} {K : Fr} {mg : Str → Option Value} {base : Heap} {fa : Addr} {fd : FuncData} (F : L2.Fun K "_law_same" "_law_same" s_law_same fa fd) (B : Bt mg) (hc : ∀ k sp, FnOk P w K mg base C8.CX0 k fa fd ["got", "due"] sp → C8.Cal P w K mg base k "_law_same" sp []) : ∀ k, FnOk P w K mg base C8.CX0 k fa fd ["got", "due"] (spC K true 2 (f_law_rec k))
  | 0 => ⟨fun _ _ _ _ ⟨_, _, _, _, _, _, h, _⟩ => h.elim, fun _ _ _ _ _ _ _ _ _ _ _ _ _ ⟨_, _, _, _, _, _, h, _⟩ => h.elim⟩
  | k + 1 => by
    have c_law_same := hc _ _ (ok_law_rec (ce := ce) F B hc k)
    exact okM F sc_law_same rfl (by decide) fun cdv A outer s H E hr => ⟨_, (pss_cons (ps_if (pt_cmpR op_isU (pv 1) pe_non (nomark _)) (pss_one (ps_ret (pe_cmpR op_isU (pv 0) pe_non (nomark _)))) pss_nil) 
  (pss_cons (ps_if (pt_cmpR op_isU (pv 1) pe_bl (nomark _)) (pss_one (ps_ret (pe_cmpR op_isU (pv 0) pe_bl (nomark _)))) pss_nil) 
  (pss_cons (ps_if (pt_cmpR op_isU (pv 1) pe_bl (nomark _)) (pss_one (ps_ret (pe_cmpR op_isU (pv 0) pe_bl (nomark _)))) pss_nil) 
  (pss_cons (ps_if (pt_val (pe_callB (cl_isiK (K := K) rfl) (by rfl) B.b_isinstance bt_isinstance (pa_cons (pv 1) (pa_cons (pe_bltn (v := .ty "int") (by rfl) B.b_int bt_int rfl) pa_nil)))) (pss_one (ps_ret (pe_and (pe_callB (cl_isiK (K := K) rfl) (by rfl) B.b_isinstance bt_isinstance (pa_cons (pv 0) (pa_cons (pe_bltn (v := .ty "int") (by rfl) B.b_int bt_int rfl) pa_nil))) (pe_and (pe_not (pe_callB (cl_isiK (K := K) rfl) (by rfl) B.b_isinstance bt_isinstance (pa_cons (pv 0) (pa_cons (pe_bltn (v := .ty "bool") (by rfl) B.b_bool bt_bool rfl) pa_nil)))) (pe_one (pe_cmpR (op_eqUK (K := K) rfl hr.units) (pv 0) (pv 1) (nomark _))))))) pss_nil) 
  (pss_cons (ps_if (pt_val (pe_callB (cl_isiK (K := K) rfl) (by rfl) B.b_isinstance bt_isinstance (pa_cons (pv 1) (pa_cons (pe_bltn (v := .ty "str") (by rfl) B.b_str bt_str rfl) pa_nil)))) (pss_one (ps_ret (pe_and (pe_callB (cl_isiK (K := K) rfl) (by rfl) B.b_isinstance bt_isinstance (pa_cons (pv 0) (pa_cons (pe_bltn (v := .ty "str") (by rfl) B.b_str bt_str rfl) pa_nil))) (pe_one (pe_cmpR (op_eqUK (K := K) rfl hr.units) (pv 0) (pv 1) (nomark _)))))) pss_nil) 
  (pss_cons (ps_if (PW.pt (pw_or (PW.pt (pw_and (pt_val (pe_callB (cl_isiK (K := K) rfl) (by rfl) B.b_isinstance bt_isinstance (pa_cons (pv 1) (pa_cons (pe_bltn (v := .ty "list") (by rfl) B.b_list bt_list rfl) pa_nil)))) (pw_and1 (pt_not (pt_val (pe_callB (cl_isiK (K := K) rfl) (by rfl) B.b_isinstance bt_isinstance (pa_cons (pv 0) (pa_cons (pe_bltn (v := .ty "list") (by rfl) B.b_list bt_list rfl) pa_nil)))))))) (pw_or1 (PW.pt (pw_and (pt_val (pe_callB (cl_isiK (K := K) rfl) (by rfl) B.b_isinstance bt_isinstance (pa_cons (pv 1) (pa_cons (pe_bltn (v := .ty "tuple") (by rfl) B.b_tuple bt_tuple rfl) pa_nil)))) (pw_and1 (pt_not (pt_val (pe_callB (cl_isiK (K := K) rfl) (by rfl) B.b_isinstance bt_isinstance (pa_cons (pv 0) (pa_cons (pe_bltn (v := .ty "tuple") (by rfl) B.b_tuple bt_tuple rfl) pa_nil))))))))))) (pss_one (ps_ret pe_bl)) pss_nil) 
  (pss_cons (ps_if (pt_cmpR (op_neUK (K := K) rfl hr.units) (pe_callB (cl_lenK (K := K) rfl) (by rfl) B.b_len bt_len (pa_cons (pv 0) pa_nil)) (pe_callB (cl_lenK (K := K) rfl) (by rfl) B.b_len bt_len (pa_cons (pv 1) pa_nil)) (nomark _)) (pss_one (ps_ret pe_bl)) pss_nil) 
  (pss_cons (ps_for PassesOwn.never rfl (pi_range1 (by rfl) B.b_range (pa_cons (pe_callB (cl_lenK (K := K) rfl) (by rfl) B.b_len bt_len (pa_cons (pv 1) pa_nil)) pa_nil)) (pg_name (i := 2) sc_law_same.nd rfl (Or.inl rfl)) (pss_one (ps_if (pt_not (pt_val (C8.pe_c c_law_same hr (by first | decide | exact Nat.le_refl _) (by rfl) (pa_cons (pe_ix (ix_UK (K := K) rfl (u1 hr)) (pv 0) (pv 2) (fun _ _ => rfl)) (pa_cons (pe_ix (ix_UK (K := K) rfl (u1 hr)) (pv 1) (pv 2) (fun _ _ => rfl)) pa_nil))))) (pss_one (ps_ret pe_bl)) pss_nil))) 
  (pss_one (ps_ret pe_bl)))))))))),
  (r_seq (r_if (xt_test (xe_op (f1 := false) od_is xe_var xe_non)) (r_retB (xe_op (f1 := false) od_is xe_var xe_non)) r_nx)
  (r_seq (r_if (xt_test (xe_op (f1 := false) od_is xe_var xe_bl)) (r_retB (xe_op (f1 := false) od_is xe_var xe_bl)) r_nx)
  (r_seq (r_if (xt_test (xe_op (f1 := false) od_is xe_var xe_bl)) (r_retB (xe_op (f1 := false) od_is xe_var xe_bl)) r_nx)
  (r_seq (r_if (xt_B (xe_cb cd_isi (xa_cons xe_var (xa_cons xe_ty xa_nil)))) (r_retB (xe_and (xe_cb cd_isi (xa_cons xe_var (xa_cons xe_ty xa_nil))) (xe_and (xe_not (xe_cb cd_isi (xa_cons xe_var (xa_cons xe_ty xa_nil)))) (xe_op (f1 := false) od_eq xe_var xe_var)))) r_nx)
  (r_seq (r_if (xt_B (xe_cb cd_isi (xa_cons xe_var (xa_cons xe_ty xa_nil)))) (r_retB (xe_and (xe_cb cd_isi (xa_cons xe_var (xa_cons xe_ty xa_nil))) (xe_op (f1 := false) od_eq xe_var xe_var))) r_nx)
  (r_seq (r_if (xt_or (xt_and (xt_B (xe_cb cd_isi (xa_cons xe_var (xa_cons xe_ty xa_nil)))) (xt_not (xt_B (xe_cb cd_isi (xa_cons xe_var (xa_cons xe_ty xa_nil)))))) (xt_and (xt_B (xe_cb cd_isi (xa_cons xe_var (xa_cons xe_ty xa_nil)))) (xt_not (xt_B (xe_cb cd_isi (xa_cons xe_var (xa_cons xe_ty xa_nil))))))) (r_retB xe_bl) r_nx)
  (r_seq (r_if (xt_test (xe_op (f1 := false) od_ne (xe_cb cd_len (xa_cons xe_var xa_nil)) (xe_cb cd_len (xa_cons xe_var xa_nil)))) (r_retB xe_bl) r_nx)
  (r_seq (r_forR (xr_rng1 (xa_cons (xe_cb cd_len (xa_cons xe_var xa_nil)) xa_nil)) xg_name (r_if (xt_not (xt_B (xe_callC' (xa_cons (xe_op od_ix xe_var xe_var) (xa_cons (xe_op od_ix xe_var xe_var) xa_nil))).old)) (r_retB xe_bl) r_nx))
  (r_retB xe_bl)))))))))⟩
theorem ok_law_same [Tbl] {ce : CE} {P : Program} {w : World} {K : Fr} {mg : Str → Option Value} {base : Heap} {fa : Addr} {fd : FuncData} (F : L2.Fun K "_law_same" "_law_same" s_law_same fa fd) (B : Bt mg) (hc : ∀ k sp, FnOk P w K mg base C8.CX0 k fa fd ["got", "due"] sp → C8.Cal P w K mg base k "_law_same" sp []) : FnOk P w K mg base C8.CX0 9 fa fd ["got", "due"] (spC K true 2 (f_law_same ce)) := (ok_law_rec (ce := ce) F B hc 9).imp fun vs H Q E ⟨ds, G, Φ, e, r, hl, hm, q⟩ => ⟨ds, G, Φ, e, r, hl, law_same_to hm, q⟩
def m_law_size_1 (ce : CE) : Env → M Oc := (sRetB (m2 addD (mC (.int 1)) (mCallC 2 (f_law_draw ce) (aCons (mVar 0) (aCons (mVar 1) aNil)))))
def m_law_size (ce : CE) : Env → M Oc := (sSeq (sIf (mTest (m2 eqD (mCallC 2 (f_law_draw ce) (aCons (mVar 0) (aCons (mC (.int 6)) aNil))) (mC (.int 0)))) (sRetB (mCallC 2 (f_law_draw ce) (aCons (mVar 0) (aCons (mVar 2) aNil)))) sNx) (m_law_size_1 ce))
def f_law_size (ce : CE) : List D → M D := mDef 3 (m_law_size ce)
theorem ok_law_size [Tbl] {ce : CE} {P : Program} {w : World} {K : Fr} {mg : Str → Option Value} {base : Heap} {fa : Addr} {fd : FuncData} (F : L2.Fun K "_law_size" "_law_size" s_law_size fa fd) (B : Bt mg) (c_law_draw : C8.Cal P w K mg base 1 "_law_draw" (spC K true 2 (f_law_draw ce)) []) : FnOk P w K mg base C8.CX0 2 fa fd ["pool", "small", "large"] (spC K true 3 (f_law_size ce)) :=
  okM F sc_law_size rfl (by decide) fun cdv A outer s H E hr => ⟨_, (pss_cons (ps_if (pt_cmpR (op_eqUK (K := K) rfl hr.units) (C8.pe_c c_law_draw hr (by first | decide | exact Nat.le_refl _) (by rfl) (pa_cons (pv 0) (pa_cons pe_int pa_nil))) pe_int (nomark _)) (pss_one (ps_ret (C8.pe_c c_law_draw hr (by first | decide | exact Nat.le_refl _) (by rfl) (pa_cons (pv 0) (pa_cons (pv 2) pa_nil))))) pss_nil) 
  (pss_one (ps_ret (pe_op (op_addUK (K := K) rfl) pe_int (C8.pe_c c_law_draw hr (by first | decide | exact Nat.le_refl _) (by rfl) (pa_cons (pv 0) (pa_cons (pv 1) pa_nil))))))),
  (r_seq (r_if (xt_test (xe_op (f1 := false) od_eq (xe_callC' (xa_cons xe_var (xa_cons xe_int xa_nil))).old xe_int)) (r_retB (xe_callC' (xa_cons xe_var (xa_cons xe_var xa_nil)))) r_nx)
  (r_retB (xe_op od_add xe_int (xe_callC' (xa_cons xe_var (xa_cons xe_var xa_nil))))))⟩
def m_law_cell_4 (ce : CE) : Env → M Oc := (sRetB (mCallC 2 (f_law_draw ce) (aCons (mVar 0) (aCons (mC (.int 10)) aNil))))
def m_law_cell_3 (ce : CE) : Env → M Oc := (sSeq (sIf (mTest (m2 eqD (mVar 1) (mC (.int 2)))) (sRetB (m2 addD (m2 powD (mC (.int 10)) (mC (.int 12))) (mCallC 2 (f_law_draw ce) (aCons (mVar 0) (aCons (m2 powD (mC (.int 10)) (mC (.int 12))) aNil))))) sNx) (m_law_cell_4 ce))
def m_law_cell_2 (ce : CE) : Env → M Oc := (sSeq (sIf (mTest (m2 eqD (mVar 1) (mC (.int 1)))) (sRetB (m2 subD (m2 subD (m2 powD (mC (.int 10)) (mC (.int 60))) (mC (.int 1))) (mCallC 2 (f_law_draw ce) (aCons (mVar 0) (aCons (m2 powD (mC (.int 10)) (mC (.int 12))) aNil))))) sNx) (m_law_cell_3 ce))
def m_law_cell_1 (ce : CE) : Env → M Oc := (sSeq (sIf (mTest (m2 eqD (mVar 1) (mC (.int 0)))) (sRetB (mCallC 2 (f_law_draw ce) (aCons (mVar 0) (aCons (m2 powD (mC (.int 10)) (mC (.int 60))) aNil)))) sNx) (m_law_cell_2 ce))
def m_law_cell (ce : CE) : Env → M Oc := (sSeq (sB 1 (mCallC 2 (f_law_draw ce) (aCons (mVar 0) (aCons (mC (.int 8)) aNil)))) (m_law_cell_1 ce))
def f_law_cell (ce : CE) : List D → M D := mDef 2 (m_law_cell ce)
theorem ok_law_cell [Tbl] {ce : CE} {P : Program} {w : World} {K : Fr} {mg : Str → Option Value} {base : Heap} {fa : Addr} {fd : FuncData} (F : L2.Fun K "_law_cell" "_law_cell" s_law_cell fa fd) (B : Bt mg) (c_law_draw : C8.Cal P w K mg base 1 "_law_draw" (spC K true 2 (f_law_draw ce)) []) : FnOk P w K mg base C8.CX0 2 fa fd ["pool"] (spC K true 1 (f_law_cell ce)) :=
  okM F sc_law_cell rfl (by decide) fun cdv A outer s H E hr => ⟨_, (pss_cons (ps_set (i := 1) sc_law_cell.nd rfl (Or.inl rfl) (C8.pe_c c_law_draw hr (by first | decide | exact Nat.le_refl _) (by rfl) (pa_cons (pv 0) (pa_cons pe_int pa_nil)))) 
  (pss_cons (ps_if (pt_cmpR (op_eqUK (K := K) rfl hr.units) (pv 1) pe_int (nomark _)) (pss_one (ps_ret (C8.pe_c c_law_draw hr (by first | decide | exact Nat.le_refl _) (by rfl) (pa_cons (pv 0) (pa_cons (pe_op op_pow pe_int pe_int) pa_nil))))) pss_nil) 
  (pss_cons (ps_if (pt_cmpR (op_eqUK (K := K) rfl hr.units) (pv 1) pe_int (nomark _)) (pss_one (ps_ret (pe_op op_sub (pe_op op_sub (pe_op op_pow pe_int pe_int) pe_int) (C8.pe_c c_law_draw hr (by first | decide | exact Nat.le_refl _) (by rfl) (pa_cons (pv 0) (pa_cons (pe_op op_pow pe_int pe_int) pa_nil)))))) pss_nil) 
  (pss_cons (ps_if (pt_cmpR (op_eqUK (K := K) rfl hr.units) (pv 1) pe_int (nomark _)) (pss_one (ps_ret (pe_op (op_addUK (K := K) rfl) (pe_op op_pow pe_int pe_int) (C8.pe_c c_law_draw hr (by first | decide | exact Nat.le_refl _) (by rfl) (pa_cons (pv 0) (pa_cons (pe_op op_pow pe_int pe_int) pa_nil)))))) pss_nil) 
  (pss_one (ps_ret (C8.pe_c c_law_draw hr (by first | decide | exact Nat.le_refl _) (by rfl) (pa_cons (pv 0) (pa_cons pe_int pa_nil))))))))),
  (r_seq (r_asgB (xe_callC' (xa_cons xe_var (xa_cons xe_int xa_nil))))
  (r_seq (r_if (xt_test (xe_op (f1 := false) od_eq xe_var xe_int)) (r_retB (xe_callC' (xa_cons xe_var (xa_cons (xe_op (f1 := false) od_pow xe_int xe_int) xa_nil)))) r_nx)
  (r_seq (r_if (xt_test (xe_op (f1 := false) od_eq xe_var xe_int)) (r_retB (xe_op (f1 := false) od_sub (xe_op (f1 := false) od_sub (xe_op (f1 := false) od_pow xe_int xe_int) xe_int) (xe_callC' (xa_cons xe_var (xa_cons (xe_op (f1 := false) od_pow xe_int xe_int) xa_nil))).old)) r_nx)
  (r_seq (r_if (xt_test (xe_op (f1 := false) od_eq xe_var xe_int)) (r_retB (xe_op od_add (xe_op (f1 := false) od_pow xe_int xe_int) (xe_callC' (xa_cons xe_var (xa_cons (xe_op (f1 := false) od_pow xe_int xe_int) xa_nil))))) r_nx)
  (r_retB (xe_callC' (xa_cons xe_var (xa_cons xe_int xa_nil))))))))⟩
def m_law_parts_2 (ce : CE) : Env → M Oc := (sFrz 2 (sRet (mVarF 2)))
def m_law_parts_1 (ce : CE) : Env → M Oc := (sSeq (sForR (mStrI (mVar 0)) [3] gOne (sIf (mTest (m2 eqD (mVar 3) (mVar 1))) (sAppB 2 (mC (.str ""))) (sSet 2 (m2 subD (mCb lenD (aCons (mVar 2) aNil)) (mC (.int 1))) (m2 addD (m2 ixD (mVar 2) (m2 subD (mCb lenD (aCons (mVar 2) aNil)) (mC (.int 1)))) (mVar 3))))) (m_law_parts_2 ce))
def m_law_parts (ce : CE) : Env → M Oc := (sSeq (sLB 2 (lLst (aCons (mC (.str "")) aNil))) (m_law_parts_1 ce))
def f_law_parts (ce : CE) : List D → M D := mDef 4 (m_law_parts ce)
theorem ok_law_parts [Tbl] {ce : CE} {P : Program} {w : World} {K : Fr} {mg : Str → Option Value} {base : Heap} {fa : Addr} {fd : FuncData} (F : L2.Fun K "_law_parts" "_law_parts" s_law_parts fa fd) (B : Bt mg) : FnOk P w K mg base C8.CX0 1 fa fd ["text", "mark"] (spC K true 2 (f_law_parts ce)) :=
  okM F sc_law_parts rfl (by decide) fun cdv A outer s H E hr => ⟨_, (pss_cons (ps_set (i := 2) sc_law_parts.nd rfl (Or.inl rfl) (pe_lst (pa_cons pe_str pa_nil))) 
  (pss_cons (ps_for PassesOwn.never rfl (pi_str (pv 0)) (pg_name (i := 3) sc_law_parts.nd rfl (Or.inl rfl)) (pss_one (ps_if (pt_cmpR (op_eqUK (K := K) rfl hr.units) (pv 3) (pv 1) (nomark _)) (pss_one (ps_expr (pe_bmK (K := K) rfl PySem.F.plainAttrs_list PySem.F.slot_list_append PySem.F.type_list_append mt_append (pv 2) (pa_cons pe_str pa_nil)))) (pss_one (ps_asg (pe_op (op_addUK (K := K) rfl) (pe_ix (ix_UK (K := K) rfl (u1 hr)) (pv 2) (pe_op op_sub (pe_callB (cl_lenK (K := K) rfl) (by rfl) B.b_len bt_len (pa_cons (pv 2) pa_nil)) pe_int) (fun _ _ => rfl)) (pv 3)) (pg_sub (pv 2) (pe_op op_sub (pe_callB (cl_lenK (K := K) rfl) (by rfl) B.b_len bt_len (pa_cons (pv 2) pa_nil)) pe_int) set_list)))))) 
  (pss_one (ps_ret (pv 2))))),
  (r_seq (r_asgLB (xl_lst (xa_cons xe_str xa_nil)))
  (r_seq (r_forR (xr_str xe_var) xg_name (r_if (xt_test (xe_op (f1 := false) od_eq xe_var xe_var)) (r_appB xe_str) (r_set (xe_op od_add (xe_op od_ix xe_var (xe_op (f1 := false) od_sub (xe_cb cd_len (xa_cons xe_var xa_nil)) xe_int)) xe_var) (xe_op (f1 := false) od_sub (xe_cb cd_len (xa_cons xe_var xa_nil)) xe_int))))
  (r_frz (r_ret xe_varF))))⟩
def m_law_value_3 (ce : CE) : Env → M Oc := (sRet (mVarF 1))
def m_law_value_2 (ce : CE) : Env → M Oc := (sSeq (sIf (mTOr (mTest (m2 eqD (mVar 0) (mC (.str "")))) (mTAnd (mTest (m2 (cmpD fun i j => decide (j < i)) (mCb lenD (aCons (mVar 0) aNil)) (mC (.int 1)))) (mTest (m2 eqD (m2 ixD (mVar 0) (mC (.int 0))) (mC (.str "0")))))) (sRetB (m1 negD (mC (.int 1)))) sNx) (m_law_value_3 ce))
def m_law_value_1 (ce : CE) : Env → M Oc := (sSeq (sForR (mStrI (mVar 0)) [2] gOne (sSeq (sIf (mTest (m2 (inSgD true) (mVar 2) (mC (.str "0123456789")))) (sRetB (m1 negD (mC (.int 1)))) sNx)
  (sA false 1 (m2 addD (m2 mulD (mVar 1) (mC (.int 10))) (mM1 findD (mC (.str "0123456789")) (mVar 2)))))) (m_law_value_2 ce))
def m_law_value (ce : CE) : Env → M Oc := (sSeq (sB 1 (mC (.int 0))) (m_law_value_1 ce))
def f_law_value (ce : CE) : List D → M D := mDef 3 (m_law_value ce)
theorem ok_law_value [Tbl] {ce : CE} {P : Program} {w : World} {K : Fr} {mg : Str → Option Value} {base : Heap} {fa : Addr} {fd : FuncData} (F : L2.Fun K "_law_value" "_law_value" s_law_value fa fd) (B : Bt mg) : FnOk P w K mg base C8.CX0 1 fa fd ["word"] (spC K true 1 (f_law_value ce)) :=
  okM F sc_law_value rfl (by decide) fun cdv A outer s H E hr => ⟨_, (pss_cons (ps_set (i := 1) sc_law_value.nd rfl (Or.inl rfl) pe_int) 
  (pss_cons (ps_for PassesOwn.never rfl (pi_str (pv 0)) (pg_name (i := 2) sc_law_value.nd rfl (Or.inl rfl)) (pss_cons (ps_if (pt_cmpR op_niSg (pv 2) pe_str rfl) (pss_one (ps_ret (pe_un un_neg pe_int))) pss_nil) 
  (pss_one (ps_set (i := 1) sc_law_value.nd rfl (Or.inl rfl) (pe_op (op_addUK (K := K) rfl) (pe_op op_mulU (pv 1) pe_int) (pe_m1 PySem.F.slot_str_find PySem.F.type_str_find mt_find pe_str (pv 2))))))) 
  (pss_cons (ps_if (PW.pt (pw_or (pt_cmpR (op_eqUK (K := K) rfl hr.units) (pv 0) pe_str (nomark _)) (pw_or1 (PW.pt (pw_and (pt_cmpR op_gt (pe_callB (cl_lenK (K := K) rfl) (by rfl) B.b_len bt_len (pa_cons (pv 0) pa_nil)) pe_int (nomark _)) (pw_and1 (pt_cmpR (op_eqUK (K := K) rfl hr.units) (pe_ix (ix_UK (K := K) rfl (u1 hr)) (pv 0) pe_int (fun _ _ => rfl)) pe_str (nomark _)))))))) (pss_one (ps_ret (pe_un un_neg pe_int))) pss_nil) 
  (pss_one (ps_ret (pv 1)))))),
  (r_seq (r_asgB xe_int)
  (r_seq (r_forR (xr_str xe_var) xg_name (r_seq (r_if (xt_test (xe_op (f1 := false) od_inSg xe_var xe_str)) (r_retB (xe_un ud_neg xe_int)) r_nx)
  (r_asgA (xe_op od_add (xe_op (f1 := false) od_mul xe_var xe_int) (xe_m1 (f1 := false) od_find xe_str xe_var)))))
  (r_seq (r_if (xt_or (xt_test (xe_op (f1 := false) od_eq xe_var xe_str)) (xt_and (xt_test (xe_op (f1 := false) od_gt (xe_cb cd_len (xa_cons xe_var xa_nil)) xe_int)) (xt_test (xe_op (f1 := false) od_eq (xe_op od_ix xe_var xe_int) xe_str)))) (r_retB (xe_un ud_neg xe_int)) r_nx)
  (r_ret xe_varF))))⟩
def m_law_odd_3 (ce : CE) : Env → M Oc := (sRetB (mSc (m2 ixD (mVar 3) (mCallC 2 (f_law_draw ce) (aCons (mVar 0) (aCons (mCb lenD (aCons (mVar 3) aNil)) aNil))))))
def m_law_odd_2 (ce : CE) : Env → M Oc := (sSeq (sB 3 (mLst (lLst (aCons (mC (.str "-1")) (aCons (mC (.str "+1")) (aCons (mC (.str "01")) (aCons (mC (.str "00")) (aCons (mC (.str "1a")) (aCons (mC (.str "a1")) (aCons (mC (.str "1.0")) (aCons (mC (.str "0x1")) (aCons (mC (.str "one")) (aCons (mC (.str "1_0")) (aCons (mC (.str "-0")) (aCons (mC (.str "1,")) (aCons (mC (.str "None")) (aCons (mC (.str "family")) aNil))))))))))))))))) (m_law_odd_3 ce))
def m_law_odd_1 (ce : CE) : Env → M Oc := (sSeq (sIf (mTest (m2 eqD (mCallC 2 (f_law_draw ce) (aCons (mVar 0) (aCons (mC (.int 2)) aNil))) (mC (.int 0)))) (sRet (mM1 joinD (mC (.str "")) (mLst (mLc (mRg rng1D (aCons (m2 addD (mC (.int 1)) (mCallC 2 (f_law_draw ce) (aCons (mVar 0) (aCons (mC (.int 4)) aNil)))) aNil)) [2] gOne mYes (m2 ixD (mVar 1) (mCallC 2 (f_law_draw ce) (aCons (mVar 0) (aCons (mCb lenD (aCons (mVar 1) aNil)) aNil)))) [2])))) sNx) (m_law_odd_2 ce))
def m_law_odd (ce : CE) : Env → M Oc := (sSeq (sB 1 (mC (.str "!\"#$&'()*+,-./0123456789:;<=>?@ABCDEFGHIJKLMNOPQRSTUVWXYZ[\\]^_`abcdefghijklmnopqrstuvwxyz{|}~"))) (m_law_odd_1 ce))
def f_law_odd (ce : CE) : List D → M D := mDef 4 (m_law_odd ce)
theorem ok_law_odd [Tbl] {ce : CE} {P : Program} {w : World} {K : Fr} {mg : Str → Option Value} {base : Heap} {fa : Addr} {fd : FuncData} (F : L2.Fun K "_law_odd" "_law_odd" s_law_odd fa fd) (B : Bt mg) (c_law_draw : C8.Cal P w K mg base 1 "_law_draw" (spC K true 2 (f_law_draw ce)) []) : FnOk P w K mg base C8.CX0 2 fa fd ["pool"] (spC K true 1 (f_law_odd ce)) :=
  okM F sc_law_odd rfl (by decide) fun cdv A outer s H E hr => ⟨_, (pss_cons (ps_set (i := 1) sc_law_odd.nd rfl (Or.inr rfl) pe_str) 
  (pss_cons (ps_if (pt_cmpR (op_eqUK (K := K) rfl hr.units) (C8.pe_c c_law_draw hr (by first | decide | exact Nat.le_refl _) (by rfl) (pa_cons (pv 0) (pa_cons pe_int pa_nil))) pe_int (nomark _)) (pss_one (ps_ret (pe_join pe_str (pe_lc (own := [("k", 2)]) rfl sc_law_odd.nd (pi_range1 (by rfl) B.b_range (pa_cons (pe_op (op_addUK (K := K) rfl) pe_int (C8.pe_c c_law_draw hr (by first | decide | exact Nat.le_refl _) (by rfl) (pa_cons (pv 0) (pa_cons pe_int pa_nil)))) pa_nil)) (blkOk_by (by kernel_rfl)) (fun _ _ _ _ _ => (pg_name (i := 2) sc_law_odd.nd rfl (Or.inl rfl))) (fun _ _ _ _ _ => pts_nil) (fun _ _ _ _ _ => (pe_ix (ix_UK (K := K) rfl (u1 hr)) (pv 1) (C8.pe_c c_law_draw hr (by first | decide | exact Nat.le_refl _) (by rfl) (pa_cons (pv 0) (pa_cons (pe_callB (cl_lenK (K := K) rfl) (by rfl) B.b_len bt_len (pa_cons (pv 1) pa_nil)) pa_nil))) (fun _ _ => rfl))))))) pss_nil) 
  (pss_cons (ps_set (i := 3) sc_law_odd.nd rfl (Or.inl rfl) (pe_lst (pa_cons pe_str (pa_cons pe_str (pa_cons pe_str (pa_cons pe_str (pa_cons pe_str (pa_cons pe_str (pa_cons pe_str (pa_cons pe_str (pa_cons pe_str (pa_cons pe_str (pa_cons pe_str (pa_cons pe_str (pa_cons pe_str (pa_cons pe_str pa_nil)))))))))))))))) 
  (pss_one (ps_ret (pe_ix (ix_UK (K := K) rfl (u1 hr)) (pv 3) (C8.pe_c c_law_draw hr (by first | decide | exact Nat.le_refl _) (by rfl) (pa_cons (pv 0) (pa_cons (pe_callB (cl_lenK (K := K) rfl) (by rfl) B.b_len bt_len (pa_cons (pv 3) pa_nil)) pa_nil))) (fun _ _ => rfl))))))),
  (r_seq (r_asgB xe_str)
  (r_seq (r_if (xt_test (xe_op (f1 := false) od_eq (xe_callC' (xa_cons xe_var (xa_cons xe_int xa_nil))).old xe_int)) (r_ret (xe_m1 (f1 := false) od_join xe_str (xl_lc ((xr_rng1 (xa_cons (xe_op od_add xe_int (xe_callC' (xa_cons xe_var (xa_cons xe_int xa_nil))).old) xa_nil))).xi xg_name xt_yes (xe_op od_ix xe_var (xe_callC' (xa_cons xe_var (xa_cons (xe_cb cd_len (xa_cons xe_var xa_nil)) xa_nil))).old) (by decide)).xe)) r_nx)
  (r_seq (r_asgB (xl_lst (xa_cons xe_str (xa_cons xe_str (xa_cons xe_str (xa_cons xe_str (xa_cons xe_str (xa_cons xe_str (xa_cons xe_str (xa_cons xe_str (xa_cons xe_str (xa_cons xe_str (xa_cons xe_str (xa_cons xe_str (xa_cons xe_str (xa_cons xe_str xa_nil))))))))))))))).xe)
  (r_retB (xe_sc (xe_op od_ix xe_var (xe_callC' (xa_cons xe_var (xa_cons (xe_cb cd_len (xa_cons xe_var xa_nil)) xa_nil))).old))))))⟩
def m_law_words_8 (ce : CE) : Env → M Oc := (sRet (m2 addD (m2 addD (mSl (mVar 1) oNone (oSome (mVar 3))) (mLst (lLst (aCons (mVar 5) aNil)))) (mSl (mVar 1) (oSome (m2 addD (mVar 3) (mC (.int 1)))) oNone)))
def m_law_words_7 (ce : CE) : Env → M Oc := (sSeq (sA false 5 (m2 ixD (mLst (lLst (aCons (m2 addD (mC (.str "0")) (mVar 4)) (aCons (m2 addD (mC (.str "-")) (mVar 4)) (aCons (m2 addD (mC (.str "+")) (mVar 4)) (aCons (m2 addD (mVar 4) (mC (.str "a"))) aNil)))))) (mCallC 2 (f_law_draw ce) (aCons (mVar 0) (aCons (mC (.int 4)) aNil))))) (m_law_words_8 ce))
def m_law_words_6 (ce : CE) : Env → M Oc := (sSeq (sA false 4 (m2 ixD (mVar 1) (mVar 3))) (m_law_words_7 ce))
def m_law_words_5 (ce : CE) : Env → M Oc := (sSeq (sIf (mTest (m2 eqD (mVar 2) (mC (.int 3)))) (sRet (m2 addD (m2 addD (mSl (mVar 1) oNone (oSome (mVar 3))) (mLst (lLst (aCons (mCallC 1 (f_law_odd ce) (aCons (mVar 0) aNil)) aNil)))) (mSl (mVar 1) (oSome (m2 addD (mVar 3) (mC (.int 1)))) oNone))) sNx) (m_law_words_6 ce))
def m_law_words_4 (ce : CE) : Env → M Oc := (sSeq (sIf (mTest (m2 eqD (mVar 2) (mC (.int 2)))) (sRet (m2 addD (mSl (mVar 1) oNone (oSome (m2 addD (mVar 3) (mC (.int 1))))) (mSl (mVar 1) (oSome (mVar 3)) oNone))) sNx) (m_law_words_5 ce))
def m_law_words_3 (ce : CE) : Env → M Oc := (sSeq (sIf (mTest (m2 eqD (mVar 2) (mC (.int 1)))) (sRet (m2 addD (mSl (mVar 1) oNone (oSome (mVar 3))) (mSl (mVar 1) (oSome (m2 addD (mVar 3) (mC (.int 1)))) oNone))) sNx) (m_law_words_4 ce))
def m_law_words_2 (ce : CE) : Env → M Oc := (sSeq (sIf (mTOr (mTest (m2 eqD (mVar 2) (mC (.int 0)))) (mTest (m2 eqD (mVar 3) (mCb lenD (aCons (mVar 1) aNil))))) (sRet (m2 addD (m2 addD (mSl (mVar 1) oNone (oSome (mVar 3))) (mLst (lLst (aCons (mC (.str "")) aNil)))) (mSl (mVar 1) (oSome (mVar 3)) oNone))) sNx) (m_law_words_3 ce))
def m_law_words_1 (ce : CE) : Env → M Oc := (sSeq (sB 3 (mCallC 2 (f_law_draw ce) (aCons (mVar 0) (aCons (m2 addD (mCb lenD (aCons (mVar 1) aNil)) (mC (.int 1))) aNil)))) (m_law_words_2 ce))
def m_law_words (ce : CE) : Env → M Oc := (sSeq (sB 2 (mCallC 2 (f_law_draw ce) (aCons (mVar 0) (aCons (mC (.int 5)) aNil)))) (m_law_words_1 ce))
def f_law_words (ce : CE) : List D → M D := mDef 6 (m_law_words ce)
theorem ok_law_words [Tbl] {ce : CE} {P : Program} {w : World} {K : Fr} {mg : Str → Option Value} {base : Heap} {fa : Addr} {fd : FuncData} (F : L2.Fun K "_law_words" "_law_words" s_law_words fa fd) (B : Bt mg) (c_law_draw : C8.Cal P w K mg base 1 "_law_draw" (spC K true 2 (f_law_draw ce)) []) (c_law_odd : C8.Cal P w K mg base 2 "_law_odd" (spC K true 1 (f_law_odd ce)) []) : FnOk P w K mg base C8.CX0 3 fa fd ["pool", "words"] (spC K false 2 (f_law_words ce)) :=
  okM F sc_law_words rfl (by decide) fun cdv A outer s H E hr => ⟨_, (pss_cons (ps_set (i := 2) sc_law_words.nd rfl (Or.inl rfl) (C8.pe_c c_law_draw hr (by first | decide | exact Nat.le_refl _) (by rfl) (pa_cons (pv 0) (pa_cons pe_int pa_nil)))) 
  (pss_cons (ps_set (i := 3) sc_law_words.nd rfl (Or.inl rfl) (C8.pe_c c_law_draw hr (by first | decide | exact Nat.le_refl _) (by rfl) (pa_cons (pv 0) (pa_cons (pe_op (op_addUK (K := K) rfl) (pe_callB (cl_lenK (K := K) rfl) (by rfl) B.b_len bt_len (pa_cons (pv 1) pa_nil)) pe_int) pa_nil)))) 
  (pss_cons (ps_if (PW.pt (pw_or (pt_cmpR (op_eqUK (K := K) rfl hr.units) (pv 2) pe_int (nomark _)) (pw_or1 (pt_cmpR (op_eqUK (K := K) rfl hr.units) (pv 3) (pe_callB (cl_lenK (K := K) rfl) (by rfl) B.b_len bt_len (pa_cons (pv 1) pa_nil)) (nomark _))))) (pss_one (ps_ret (pe_op (op_addUK (K := K) rfl) (pe_op (op_addUK (K := K) rfl) (pe_slice (sl_UK (K := K) rfl) (pv 1) po_none (po_some (pv 3))) (pe_lst (pa_cons pe_str pa_nil))) (pe_slice (sl_UK (K := K) rfl) (pv 1) (po_some (pv 3)) po_none)))) pss_nil) 
  (pss_cons (ps_if (pt_cmpR (op_eqUK (K := K) rfl hr.units) (pv 2) pe_int (nomark _)) (pss_one (ps_ret (pe_op (op_addUK (K := K) rfl) (pe_slice (sl_UK (K := K) rfl) (pv 1) po_none (po_some (pv 3))) (pe_slice (sl_UK (K := K) rfl) (pv 1) (po_some (pe_op (op_addUK (K := K) rfl) (pv 3) pe_int)) po_none)))) pss_nil) 
  (pss_cons (ps_if (pt_cmpR (op_eqUK (K := K) rfl hr.units) (pv 2) pe_int (nomark _)) (pss_one (ps_ret (pe_op (op_addUK (K := K) rfl) (pe_slice (sl_UK (K := K) rfl) (pv 1) po_none (po_some (pe_op (op_addUK (K := K) rfl) (pv 3) pe_int))) (pe_slice (sl_UK (K := K) rfl) (pv 1) (po_some (pv 3)) po_none)))) pss_nil) 
  (pss_cons (ps_if (pt_cmpR (op_eqUK (K := K) rfl hr.units) (pv 2) pe_int (nomark _)) (pss_one (ps_ret (pe_op (op_addUK (K := K) rfl) (pe_op (op_addUK (K := K) rfl) (pe_slice (sl_UK (K := K) rfl) (pv 1) po_none (po_some (pv 3))) (pe_lst (pa_cons (C8.pe_c c_law_odd hr (by first | decide | exact Nat.le_refl _) (by rfl) (pa_cons (pv 0) pa_nil)) pa_nil))) (pe_slice (sl_UK (K := K) rfl) (pv 1) (po_some (pe_op (op_addUK (K := K) rfl) (pv 3) pe_int)) po_none)))) pss_nil) 
  (pss_cons (ps_set (i := 4) sc_law_words.nd rfl (Or.inl rfl) (pe_ix (ix_UK (K := K) rfl (u1 hr)) (pv 1) (pv 3) (fun _ _ => rfl))) 
  (pss_cons (ps_set (i := 5) sc_law_words.nd rfl (Or.inl rfl) (pe_ix (ix_UK (K := K) rfl (u1 hr)) (pe_lst (pa_cons (pe_op (op_addUK (K := K) rfl) pe_str (pv 4)) (pa_cons (pe_op (op_addUK (K := K) rfl) pe_str (pv 4)) (pa_cons (pe_op (op_addUK (K := K) rfl) pe_str (pv 4)) (pa_cons (pe_op (op_addUK (K := K) rfl) (pv 4) pe_str) pa_nil))))) (C8.pe_c c_law_draw hr (by first | decide | exact Nat.le_refl _) (by rfl) (pa_cons (pv 0) (pa_cons pe_int pa_nil))) (fun _ _ => rfl))) 
  (pss_one (ps_ret (pe_op (op_addUK (K := K) rfl) (pe_op (op_addUK (K := K) rfl) (pe_slice (sl_UK (K := K) rfl) (pv 1) po_none (po_some (pv 3))) (pe_lst (pa_cons (pv 5) pa_nil))) (pe_slice (sl_UK (K := K) rfl) (pv 1) (po_some (pe_op (op_addUK (K := K) rfl) (pv 3) pe_int)) po_none)))))))))))),
  (r_seq (r_asgB (xe_callC' (xa_cons xe_var (xa_cons xe_int xa_nil))))
  (r_seq (r_asgB (xe_callC' (xa_cons xe_var (xa_cons (xe_op od_add (xe_cb cd_len (xa_cons xe_var xa_nil)) xe_int) xa_nil))))
  (r_seq (r_if (xt_or (xt_test (xe_op (f1 := false) od_eq xe_var xe_int)) (xt_test (xe_op (f1 := false) od_eq xe_var (xe_cb cd_len (xa_cons xe_var xa_nil))))) (r_ret (xe_op od_add (xe_op od_add (xe_sl xe_var xo_none (xo_some xe_var)) (xl_lst (xa_cons xe_str xa_nil)).xe) (xe_sl xe_var (xo_some xe_var) xo_none))) r_nx)
  (r_seq (r_if (xt_test (xe_op (f1 := false) od_eq xe_var xe_int)) (r_ret (xe_op od_add (xe_sl xe_var xo_none (xo_some xe_var)) (xe_sl xe_var (xo_some (xe_op od_add xe_var xe_int)) xo_none))) r_nx)
  (r_seq (r_if (xt_test (xe_op (f1 := false) od_eq xe_var xe_int)) (r_ret (xe_op od_add (xe_sl xe_var xo_none (xo_some (xe_op od_add xe_var xe_int))) (xe_sl xe_var (xo_some xe_var) xo_none))) r_nx)
  (r_seq (r_if (xt_test (xe_op (f1 := false) od_eq xe_var xe_int)) (r_ret (xe_op od_add (xe_op od_add (xe_sl xe_var xo_none (xo_some xe_var)) (xl_lst (xa_cons (xe_callC' (xa_cons xe_var xa_nil)).old xa_nil)).xe) (xe_sl xe_var (xo_some (xe_op od_add xe_var xe_int)) xo_none))) r_nx)
  (r_seq (r_asgA (xe_op od_ix xe_var xe_var))
  (r_seq (r_asgA (xe_op od_ix (xl_lst (xa_cons (xe_op od_add xe_str xe_var) (xa_cons (xe_op od_add xe_str xe_var) (xa_cons (xe_op od_add xe_str xe_var) (xa_cons (xe_op od_add xe_var xe_str) xa_nil))))).xe (xe_callC' (xa_cons xe_var (xa_cons xe_int xa_nil))).old))
  (r_ret (xe_op od_add (xe_op od_add (xe_sl xe_var xo_none (xo_some xe_var)) (xl_lst (xa_cons xe_var xa_nil)).xe) (xe_sl xe_var (xo_some (xe_op od_add xe_var xe_int)) xo_none)))))))))))⟩
def m_law_bent_6 (ce : CE) : Env → M Oc := (sRet (m2 addD (m2 addD (mSl (mVar 1) oNone (oSome (mVar 3))) (mLst (lLst (aCons (mCallC 2 (f_law_words ce) (aCons (mVar 0) (aCons (m2 ixD (mVar 1) (mVar 3)) aNil))) aNil)))) (mSl (mVar 1) (oSome (m2 addD (mVar 3) (mC (.int 1)))) oNone)))
def m_law_bent_5 (ce : CE) : Env → M Oc := (sSeq (sIf (mTest (m2 eqD (mVar 2) (mC (.int 3)))) (sRet (m2 addD (mSl (mVar 1) oNone (oSome (m2 addD (mVar 3) (mC (.int 1))))) (mSl (mVar 1) (oSome (mVar 3)) oNone))) sNx) (m_law_bent_6 ce))
def m_law_bent_4 (ce : CE) : Env → M Oc := (sSeq (sIf (mTest (m2 eqD (mVar 2) (mC (.int 2)))) (sRet (m2 addD (mSl (mVar 1) oNone (oSome (mVar 3))) (mSl (mVar 1) (oSome (m2 addD (mVar 3) (mC (.int 1)))) oNone))) sNx) (m_law_bent_5 ce))
def m_law_bent_3 (ce : CE) : Env → M Oc := (sSeq (sB 3 (mCallC 2 (f_law_draw ce) (aCons (mVar 0) (aCons (mCb lenD (aCons (mVar 1) aNil)) aNil)))) (m_law_bent_4 ce))
def m_law_bent_2 (ce : CE) : Env → M Oc := (sSeq (sIf (mTOr (mTest (m2 eqD (mVar 2) (mC (.int 1)))) (mTest (m2 eqD (mCb lenD (aCons (mVar 1) aNil)) (mC (.int 0))))) (sRetB (mLst (lLst aNil))) sNx) (m_law_bent_3 ce))
def m_law_bent_1 (ce : CE) : Env → M Oc := (sSeq (sIf (mTest (m2 eqD (mVar 2) (mC (.int 0)))) (sSeq (sB 3 (mCallC 2 (f_law_draw ce) (aCons (mVar 0) (aCons (m2 addD (mCb lenD (aCons (mVar 1) aNil)) (mC (.int 1))) aNil))))
  (sRet (m2 addD (m2 addD (mSl (mVar 1) oNone (oSome (mVar 3))) (mLst (lLst (aCons (mLst (lLst (aCons (mC (.str "")) aNil))) aNil)))) (mSl (mVar 1) (oSome (mVar 3)) oNone)))) sNx) (m_law_bent_2 ce))
def m_law_bent (ce : CE) : Env → M Oc := (sSeq (sB 2 (mCallC 2 (f_law_draw ce) (aCons (mVar 0) (aCons (mC (.int 10)) aNil)))) (m_law_bent_1 ce))
def f_law_bent (ce : CE) : List D → M D := mDef 4 (m_law_bent ce)
theorem ok_law_bent [Tbl] {ce : CE} {P : Program} {w : World} {K : Fr} {mg : Str → Option Value} {base : Heap} {fa : Addr} {fd : FuncData} (F : L2.Fun K "_law_bent" "_law_bent" s_law_bent fa fd) (B : Bt mg) (c_law_draw : C8.Cal P w K mg base 1 "_law_draw" (spC K true 2 (f_law_draw ce)) []) (c_law_words : C8.Cal P w K mg base 3 "_law_words" (spC K false 2 (f_law_words ce)) []) : FnOk P w K mg base C8.CX0 4 fa fd ["pool", "rows"] (spC K false 2 (f_law_bent ce)) :=
  okM F sc_law_bent rfl (by decide) fun cdv A outer s H E hr => ⟨_, (pss_cons (ps_set (i := 2) sc_law_bent.nd rfl (Or.inl rfl) (C8.pe_c c_law_draw hr (by first | decide | exact Nat.le_refl _) (by rfl) (pa_cons (pv 0) (pa_cons pe_int pa_nil)))) 
  (pss_cons (ps_if (pt_cmpR (op_eqUK (K := K) rfl hr.units) (pv 2) pe_int (nomark _)) (pss_cons (ps_set (i := 3) sc_law_bent.nd rfl (Or.inl rfl) (C8.pe_c c_law_draw hr (by first | decide | exact Nat.le_refl _) (by rfl) (pa_cons (pv 0) (pa_cons (pe_op (op_addUK (K := K) rfl) (pe_callB (cl_lenK (K := K) rfl) (by rfl) B.b_len bt_len (pa_cons (pv 1) pa_nil)) pe_int) pa_nil)))) 
  (pss_one (ps_ret (pe_op (op_addUK (K := K) rfl) (pe_op (op_addUK (K := K) rfl) (pe_slice (sl_UK (K := K) rfl) (pv 1) po_none (po_some (pv 3))) (pe_lst (pa_cons (pe_lst (pa_cons pe_str pa_nil)) pa_nil))) (pe_slice (sl_UK (K := K) rfl) (pv 1) (po_some (pv 3)) po_none))))) pss_nil) 
  (pss_cons (ps_if (PW.pt (pw_or (pt_cmpR (op_eqUK (K := K) rfl hr.units) (pv 2) pe_int (nomark _)) (pw_or1 (pt_cmpR (op_eqUK (K := K) rfl hr.units) (pe_callB (cl_lenK (K := K) rfl) (by rfl) B.b_len bt_len (pa_cons (pv 1) pa_nil)) pe_int (nomark _))))) (pss_one (ps_ret (pe_lst pa_nil))) pss_nil) 
  (pss_cons (ps_set (i := 3) sc_law_bent.nd rfl (Or.inl rfl) (C8.pe_c c_law_draw hr (by first | decide | exact Nat.le_refl _) (by rfl) (pa_cons (pv 0) (pa_cons (pe_callB (cl_lenK (K := K) rfl) (by rfl) B.b_len bt_len (pa_cons (pv 1) pa_nil)) pa_nil)))) 
  (pss_cons (ps_if (pt_cmpR (op_eqUK (K := K) rfl hr.units) (pv 2) pe_int (nomark _)) (pss_one (ps_ret (pe_op (op_addUK (K := K) rfl) (pe_slice (sl_UK (K := K) rfl) (pv 1) po_none (po_some (pv 3))) (pe_slice (sl_UK (K := K) rfl) (pv 1) (po_some (pe_op (op_addUK (K := K) rfl) (pv 3) pe_int)) po_none)))) pss_nil) 
  (pss_cons (ps_if (pt_cmpR (op_eqUK (K := K) rfl hr.units) (pv 2) pe_int (nomark _)) (pss_one (ps_ret (pe_op (op_addUK (K := K) rfl) (pe_slice (sl_UK (K := K) rfl) (pv 1) po_none (po_some (pe_op (op_addUK (K := K) rfl) (pv 3) pe_int))) (pe_slice (sl_UK (K := K) rfl) (pv 1) (po_some (pv 3)) po_none)))) pss_nil) 
  (pss_one (ps_ret (pe_op (op_addUK (K := K) rfl) (pe_op (op_addUK (K := K) rfl) (pe_slice (sl_UK (K := K) rfl) (pv 1) po_none (po_some (pv 3))) (pe_lst (pa_cons (C8.pe_c c_law_words hr (by first | decide | exact Nat.le_refl _) (by rfl) (pa_cons (pv 0) (pa_cons (pe_ix (ix_UK (K := K) rfl (u1 hr)) (pv 1) (pv 3) (fun _ _ => rfl)) pa_nil))) pa_nil))) (pe_slice (sl_UK (K := K) rfl) (pv 1) (po_some (pe_op (op_addUK (K := K) rfl) (pv 3) pe_int)) po_none)))))))))),
  (r_seq (r_asgB (xe_callC' (xa_cons xe_var (xa_cons xe_int xa_nil))))
  (r_seq (r_if (xt_test (xe_op (f1 := false) od_eq xe_var xe_int)) (r_seq (r_asgB (xe_callC' (xa_cons xe_var (xa_cons (xe_op od_add (xe_cb cd_len (xa_cons xe_var xa_nil)) xe_int) xa_nil))))
  (r_ret (xe_op od_add (xe_op od_add (xe_sl xe_var xo_none (xo_some xe_var)) (xl_lst (xa_cons (xl_lst (xa_cons xe_str xa_nil)).xe xa_nil)).xe) (xe_sl xe_var (xo_some xe_var) xo_none)))) r_nx)
  (r_seq (r_if (xt_or (xt_test (xe_op (f1 := false) od_eq xe_var xe_int)) (xt_test (xe_op (f1 := false) od_eq (xe_cb cd_len (xa_cons xe_var xa_nil)) xe_int))) (r_retB (xl_lst xa_nil).xe) r_nx)
  (r_seq (r_asgB (xe_callC' (xa_cons xe_var (xa_cons (xe_cb cd_len (xa_cons xe_var xa_nil)) xa_nil))))
  (r_seq (r_if (xt_test (xe_op (f1 := false) od_eq xe_var xe_int)) (r_ret (xe_op od_add (xe_sl xe_var xo_none (xo_some xe_var)) (xe_sl xe_var (xo_some (xe_op od_add xe_var xe_int)) xo_none))) r_nx)
  (r_seq (r_if (xt_test (xe_op (f1 := false) od_eq xe_var xe_int)) (r_ret (xe_op od_add (xe_sl xe_var xo_none (xo_some (xe_op od_add xe_var xe_int))) (xe_sl xe_var (xo_some xe_var) xo_none))) r_nx)
  (r_ret (xe_op od_add (xe_op od_add (xe_sl xe_var xo_none (xo_some xe_var)) (xl_lst (xa_cons (xe_callC' (xa_cons xe_var (xa_cons (xe_op od_ix xe_var xe_var) xa_nil))) xa_nil)).xe) (xe_sl xe_var (xo_some (xe_op od_add xe_var xe_int)) xo_none)))))))))⟩
def m_law_due_4 (ce : CE) : Env → M Oc := (sFrz 1 (sRet (mTup (aCons (mC (.str "moves")) (aCons (mVarF 1) aNil)))))
def m_law_due_3 (ce : CE) : Env → M Oc := (sSeq (sForR (mRg rng1D (aCons (mCb lenD (aCons (mVar 2) aNil)) aNil)) [3] gOne (sSeq (sB 4 (mLst (mLc (mSeqL (mCallC 2 (f_law_parts ce) (aCons (m2 ixD (mVar 2) (mVar 3)) (aCons (mC (.str " ")) aNil)))) [5] gOne mYes (mCallC 1 (f_law_value ce) (aCons (mVar 5) aNil)) [5])))
  (sSeq (sIf (mTOr (mTest (m2 neD (mCb lenD (aCons (mVar 4) aNil)) (mC (.int 3)))) (mTest (m2 (cmpD fun i j => decide (i < j)) (mCb minLD (aCons (mVar 4) aNil)) (mC (.int 0))))) (sRet (mTup (aCons (mC (.str "text")) (aCons (mVarF 3) (aCons (mC (.str "form")) aNil))))) sNx)
  (sAppB 1 (mTup (aCons (mSc (m2 ixD (mVar 4) (mC (.int 0)))) (aCons (mSc (m2 ixD (mVar 4) (mC (.int 1)))) (aCons (mSc (m2 ixD (mVar 4) (mC (.int 2)))) aNil)))))))) (m_law_due_4 ce))
def m_law_due_2 (ce : CE) : Env → M Oc := (sSeq (sB 2 (mCallC 2 (f_law_parts ce) (aCons (mVar 0) (aCons (mC (.str "\n")) aNil)))) (m_law_due_3 ce))
def m_law_due_1 (ce : CE) : Env → M Oc := (sSeq (sLB 1 (lLst aNil)) (m_law_due_2 ce))
def m_law_due (ce : CE) : Env → M Oc := (sSeq (sIf (mTest (m2 eqD (mCb lenD (aCons (mVar 0) aNil)) (mC (.int 0)))) (sRetB (mTup (aCons (mC (.str "moves")) (aCons (mLst (lLst aNil)) aNil)))) sNx) (m_law_due_1 ce))
def f_law_due (ce : CE) : List D → M D := mDef 6 (m_law_due ce)
theorem ok_law_due [Tbl] {ce : CE} {P : Program} {w : World} {K : Fr} {mg : Str → Option Value} {base : Heap} {fa : Addr} {fd : FuncData} (F : L2.Fun K "_law_due" "_law_due" s_law_due fa fd) (B : Bt mg) (c_law_parts : C8.Cal P w K mg base 1 "_law_parts" (spC K true 2 (f_law_parts ce)) []) (c_law_value : C8.Cal P w K mg base 1 "_law_value" (spC K true 1 (f_law_value ce)) []) : FnOk P w K mg base C8.CX0 2 fa fd ["text"] (spC K true 1 (f_law_due ce)) :=
  okM F sc_law_due rfl (by decide) fun cdv A outer s H E hr => ⟨_, (pss_cons (ps_if (pt_cmpR (op_eqUK (K := K) rfl hr.units) (pe_callB (cl_lenK (K := K) rfl) (by rfl) B.b_len bt_len (pa_cons (pv 0) pa_nil)) pe_int (nomark _)) (pss_one (ps_ret (pe_tup (pa_cons pe_str (pa_cons (pe_lst pa_nil) pa_nil))))) pss_nil) 
  (pss_cons (ps_set (i := 1) sc_law_due.nd rfl (Or.inl rfl) (pe_lst pa_nil)) 
  (pss_cons (ps_set (i := 2) sc_law_due.nd rfl (Or.inl rfl) (C8.pe_c c_law_parts hr (by first | decide | exact Nat.le_refl _) (by rfl) (pa_cons (pv 0) (pa_cons pe_str pa_nil)))) 
  (pss_cons (ps_for PassesOwn.never rfl (pi_range1 (by rfl) B.b_range (pa_cons (pe_callB (cl_lenK (K := K) rfl) (by rfl) B.b_len bt_len (pa_cons (pv 2) pa_nil)) pa_nil)) (pg_name (i := 3) sc_law_due.nd rfl (Or.inl rfl)) (pss_cons (ps_setLc (i := 4) (own := [("word", 5)]) rfl sc_law_due.nd rfl rfl (sw_true rfl rfl rfl (by decide +kernel)) (pi_seqK (K := K) rfl (C8.pe_c c_law_parts hr (by first | decide | exact Nat.le_refl _) (by rfl) (pa_cons (pe_ix (ix_UK (K := K) rfl (u1 hr)) (pv 2) (pv 3) (fun _ _ => rfl)) (pa_cons pe_str pa_nil)))) (blkOk_by (by kernel_rfl)) (fun _ _ _ _ _ => (pg_name (i := 5) sc_law_due.nd rfl (Or.inl rfl))) (fun _ _ _ _ _ => pts_nil) (fun _ _ _ _ _ => (C8.pe_c c_law_value hr (by first | decide | exact Nat.le_refl _) (by rfl) (pa_cons (pv 5) pa_nil)))) 
  (pss_cons (ps_if (PW.pt (pw_or (pt_cmpR (op_neUK (K := K) rfl hr.units) (pe_callB (cl_lenK (K := K) rfl) (by rfl) B.b_len bt_len (pa_cons (pv 4) pa_nil)) pe_int (nomark _)) (pw_or1 (pt_cmpR op_lt (pe_callB (cr_minK (K := K) rfl rfl) (by rfl) B.b_min bt_min (pa_cons (pv 4) pa_nil)) pe_int (nomark _))))) (pss_one (ps_ret (pe_tup (pa_cons pe_str (pa_cons (pv 3) (pa_cons pe_str pa_nil)))))) pss_nil) 
  (pss_one (ps_expr (pe_bmK (K := K) rfl PySem.F.plainAttrs_list PySem.F.slot_list_append PySem.F.type_list_append mt_append (pv 1) (pa_cons (pe_tup (pa_cons (pe_ix (ix_UK (K := K) rfl (u1 hr)) (pv 4) pe_int (fun _ _ => rfl)) (pa_cons (pe_ix (ix_UK (K := K) rfl (u1 hr)) (pv 4) pe_int (fun _ _ => rfl)) (pa_cons (pe_ix (ix_UK (K := K) rfl (u1 hr)) (pv 4) pe_int (fun _ _ => rfl)) pa_nil)))) pa_nil))))))) 
  (pss_one (ps_ret (pe_tup (pa_cons pe_str (pa_cons (pv 1) pa_nil))))))))),
  (r_seq (r_if (xt_test (xe_op (f1 := false) od_eq (xe_cb cd_len (xa_cons xe_var xa_nil)) xe_int)) (r_retB (xe_tup (xa_cons xe_str (xa_cons (xl_lst xa_nil).xe xa_nil)))) r_nx)
  (r_seq (r_asgLB (xl_lst xa_nil))
  (r_seq (r_asgB (xe_callC' (xa_cons xe_var (xa_cons xe_str xa_nil))))
  (r_seq (r_forR (xr_rng1 (xa_cons (xe_cb cd_len (xa_cons xe_var xa_nil)) xa_nil)) xg_name (r_seq (r_asgB (xl_lc (xi_seqL (xe_callC' (xa_cons (xe_op od_ix xe_var xe_var) (xa_cons xe_str xa_nil))).old) xg_name xt_yes (xe_callC' (xa_cons xe_var xa_nil)) (by decide)).xe)
  (r_seq (r_if (xt_or (xt_test (xe_op (f1 := false) od_ne (xe_cb cd_len (xa_cons xe_var xa_nil)) xe_int)) (xt_test (xe_op (f1 := false) od_lt (xe_cb cd_minL (xa_cons xe_var xa_nil)) xe_int))) (r_ret (xe_tup (xa_cons xe_str (xa_cons xe_varF (xa_cons xe_str xa_nil))))) r_nx)
  (r_appB (xe_tup (xa_cons (xe_sc (xe_op od_ix xe_var xe_int)) (xa_cons (xe_sc (xe_op od_ix xe_var xe_int)) (xa_cons (xe_sc (xe_op od_ix xe_var xe_int)) xa_nil))))))))
  (r_frz (r_ret (xe_tup (xa_cons xe_str (xa_cons xe_varF xa_nil)))))))))⟩
def m_law_read_2 (ce : CE) : Env → M Oc := (sRet (mVarF 1))
def m_law_read_1 (ce : CE) : Env → M Oc := (sSeq (sTryA true 1 (mTup (aCons (mC (.str "moves")) (aCons (mCall 1 (f_read_moves ce) (aCons (mVar 0) aNil)) aNil))) (mHand [ce.BadText] [] 2 (fun a c0 d => (sB 1 (mTup (aCons (mC (.str "text")) (aCons (mSc (mXf ce.BadText "row" a c0 d (mVar 2))) (aCons (mSc (mXf ce.BadText "why" a c0 d (mVar 2))) aNil)))))))) (m_law_read_2 ce))
def m_law_read (ce : CE) : Env → M Oc := (sSeq (sB 1 (mC .non)) (m_law_read_1 ce))
def f_law_read (ce : CE) : List D → M D := mDef 3 (m_law_read ce)
theorem ok_law_read [Tbl] {ce : CE} {P : Program} {w : World} {K : Fr} {mg : Str → Option Value} {base : Heap} {fa : Addr} {fd : FuncData} (F : L2.Fun K "_law_read" "_law_read" s_law_read fa fd) (B : Bt mg) (cX_read_moves : CalX P w K mg base 6 "read_moves" (spM K true 1 (f_read_moves ce))) (xf_BadText : XfC K ce.BadText) (xn_BadText_why : PySem.W.findIn K (.ref ce.BadText) "why" = some none) (xn_BadText_row : PySem.W.findIn K (.ref ce.BadText) "row" = some none) (xc_BadText : ExcCl K (.ref ce.BadText) [ce.BadText] []) (mg_BadText : mg "BadText" = some (.ref ce.BadText)) : FnOk P w K mg base C8.CX0 7 fa fd ["text"] (spC K true 1 (f_law_read ce)) :=
  okM F sc_law_read rfl (by decide) fun cdv A outer s H E hr => ⟨_, (pss_cons (ps_set (i := 1) sc_law_read.nd rfl (Or.inl rfl) pe_non) 
  (pss_cons (ps_try_as (i := 2) rfl rfl sc_law_read.nd rfl rfl ⟨by rfl, by decide, Or.inl mg_BadText⟩ (Wout := fun cls d _ H => C8.E0 cls d H) (fun u s' z => takes0 u s' z) (fun W pn xe tk _ => pss_one (ps_set (i := 1) sc_law_read.nd rfl (Or.inl rfl) (pe_tup (pa_cons pe_str (pa_cons (pe_cX cX_read_moves hr (by first | decide | exact Nat.le_refl _) (by rfl) (fun σ => passAt tk σ) (pa_cons (pv 0) pa_nil)) pa_nil))))) (fun a oe cls d pn hz hf => (pss_one (ps_set (i := 1) sc_law_read.nd rfl (Or.inl rfl) (pe_tup (pa_cons pe_str (pa_cons (pe_xfK (K := K) rfl xf_BadText xn_BadText_row hz hf (pv 2)) (pa_cons (pe_xfK (K := K) rfl xf_BadText xn_BadText_why hz hf (pv 2)) pa_nil)))))))) 
  (pss_one (ps_ret (pv 1))))),
  (r_seq (r_asgB xe_non)
  (r_seq (r_tryA (xs_tup2 (fun _ => xe_str) (xs_call fun _ => (xa_cons xe_var xa_nil))) xc_BadText (fun a c0 d => (r_asgB (xe_tup (xa_cons xe_str (xa_cons (xe_sc (xe_xf xe_var)) (xa_cons (xe_sc (xe_xf xe_var)) xa_nil)))))))
  (r_ret xe_varF)))⟩
def m_law_base_2 (ce : CE) : Env → M Oc := (sRet (mVarF 1))
def m_law_base_1 (ce : CE) : Env → M Oc := (sSeq (sTryD (mCall 1 (f_read_moves ce) (aCons (mVar 0) aNil)) (mHand [ce.BadText] [] 2 (fun a c0 d => (sB 1 (mAnd (mIsX [ce.BadText] [] a c0 d (mVar 2)) (mAnd (mIsX [ce.BadText] [] a c0 d (mVar 2)) (mNot (mIsX [] [ce.BadText] a c0 d (mVar 2))))))))) (m_law_base_2 ce))
def m_law_base (ce : CE) : Env → M Oc := (sSeq (sB 1 (mC (.bl false))) (m_law_base_1 ce))
def f_law_base (ce : CE) : List D → M D := mDef 3 (m_law_base ce)
theorem ok_law_base [Tbl] {ce : CE} {P : Program} {w : World} {K : Fr} {mg : Str → Option Value} {base : Heap} {fa : Addr} {fd : FuncData} (F : L2.Fun K "_law_base" "_law_base" s_law_base fa fd) (B : Bt mg) (cX_read_moves : CalX P w K mg base 6 "read_moves" (spM K true 1 (f_read_moves ce))) (mg_BadMove : mg "BadMove" = some (.ref ce.BadMove)) (is_BadMove : IsCl K (.ref ce.BadMove) [] [ce.BadText]) (mg_BadText : mg "BadText" = some (.ref ce.BadText)) (is_BadText : IsCl K (.ref ce.BadText) [ce.BadText] []) (is_ValueError : IsCl K (.type "ValueError") [ce.BadText] []) (xc_VillageError : ExcCl K (.ref ce.VillageError) [ce.BadText] []) (mg_VillageError : mg "VillageError" = some (.ref ce.VillageError)) : FnOk P w K mg base C8.CX0 7 fa fd ["text"] (spC K true 1 (f_law_base ce)) :=
  okM F sc_law_base rfl (by decide) fun cdv A outer s H E hr => ⟨_, (pss_cons (ps_set (i := 1) sc_law_base.nd rfl (Or.inl rfl) pe_bl) 
  (pss_cons (ps_try_as (i := 2) rfl rfl sc_law_base.nd rfl rfl ⟨by rfl, by decide, Or.inl mg_VillageError⟩ (Wout := fun cls d _ H => C8.E0 cls d H) (fun u s' z => takes0 u s' z) (fun W pn xe tk _ => pss_one (ps_expr (pe_cX cX_read_moves hr (by first | decide | exact Nat.le_refl _) (by rfl) (fun σ => passAt tk σ) (pa_cons (pv 0) pa_nil)))) (fun a oe cls d pn hz hf => (pss_one (ps_set (i := 1) sc_law_base.nd rfl (Or.inl rfl) (pe_and (pe_callB (call_isXK (K := K) rfl hz hf) (by rfl) B.b_isinstance bt_isinstance (pa_cons (pv 2) (pa_cons (pe_bltn (v := .ty "ValueError") (by rfl) B.b_ValueError bt_ValueError rfl) pa_nil))) (pe_and (pe_callB (call_isXK (K := K) rfl hz hf) (by rfl) B.b_isinstance bt_isinstance (pa_cons (pv 2) (pa_cons (pe_glob (v := .ref ce.BadText) (by rfl) mg_BadText rfl) pa_nil))) (pe_one (pe_not (pe_callB (call_isXK (K := K) rfl hz hf) (by rfl) B.b_isinstance bt_isinstance (pa_cons (pv 2) (pa_cons (pe_glob (v := .ref ce.BadMove) (by rfl) mg_BadMove rfl) pa_nil))))))))))) 
  (pss_one (ps_ret (pv 1))))),
  (r_seq (r_asgB xe_bl)
  (r_seq (r_tryD (xs_call fun _ => (xa_cons xe_var xa_nil)).old xc_VillageError (fun a c0 d => (r_asgB (xe_and (xe_isX (tyV_ty _) is_ValueError xe_var) (xe_and (xe_isX (tyV_ref _) is_BadText xe_var) (xe_not (xe_isX (tyV_ref _) is_BadMove xe_var)))))))
  (r_ret xe_varF)))⟩
def m_law_15 (ce : CE) : Env → M Oc := (sRetB (mCallC 2 (f_law_same ce) (aCons (mCallC 1 (f_write_moves ce) (aCons (mVar 14) aNil)) (aCons (mVar 11) aNil))))
def m_law_14 (ce : CE) : Env → M Oc := (sSeq (sIf (mTOr (mTNot (mTest (mCallC 2 (f_law_same ce) (aCons (mVar 14) (aCons (mVar 2) aNil))))) (mTNot (mTest (mCallC 2 (f_law_same ce) (aCons (mVar 12) (aCons (mVar 2) aNil)))))) (sRetB (mC (.bl false))) sNx) (m_law_15 ce))
def m_law_13 (ce : CE) : Env → M Oc := (sSeq (sB 14 (mCallC 1 (f_read_moves ce) (aCons (mVar 11) aNil))) (m_law_14 ce))
def m_law_12 (ce : CE) : Env → M Oc := (sSeq (sIf (mTOr (mTNot (mTest (mCallC 2 (f_law_same ce) (aCons (mCallC 1 (f_law_read ce) (aCons (mVar 8) aNil)) (aCons (mVar 10) aNil))))) (mTAnd (mTest (m2 eqD (m2 ixD (mVar 10) (mC (.int 0))) (mC (.str "text")))) (mTNot (mTest (mCallC 1 (f_law_base ce) (aCons (mVar 8) aNil)))))) (sRetB (mC (.bl false))) sNx) (m_law_13 ce))
def m_law_11 (ce : CE) : Env → M Oc := (sSeq (sJApp 13 jpV (mTup (aCons (mC (.int 0)) (aCons (mC (.int 0)) (aCons (mC (.int 0)) aNil))))) (m_law_12 ce))
def m_law_10 (ce : CE) : Env → M Oc := (sSeq (sIf (mTNot (mTest (mCallC 2 (f_law_same ce) (aCons (mVar 13) (aCons (mVar 2) aNil))))) (sRetB (mC (.bl false))) sNx) (m_law_11 ce))
def m_law_9 (ce : CE) : Env → M Oc := (sSeq (sJ 1000 13 (mCallC 1 (f_read_moves ce) (aCons (mVar 11) aNil))) (m_law_10 ce))
def m_law_8 (ce : CE) : Env → M Oc := (sSeq (sIf (mTNot (mTest (mCallC 2 (f_law_same ce) (aCons (mCallC 1 (f_write_moves ce) (aCons (mVar 12) aNil)) (aCons (mVar 11) aNil))))) (sRetB (mC (.bl false))) sNx) (m_law_9 ce))
def m_law_7 (ce : CE) : Env → M Oc := (sSeq (sA false 12 (mCb (listD false) (aCons (mVar 2) aNil))) (m_law_8 ce))
def m_law_6 (ce : CE) : Env → M Oc := (sSeq (sA false 11 (mM1 joinD (mC (.str "\n")) (mLst (mLc (mSeq (mVar 2)) [6] gOne mYes (mM1 joinD (mC (.str " ")) (mLst (mLc (mSeq (mVar 6)) [5] gOne mYes (mCb strID (aCons (mVar 5) aNil)) [5]))) [6])))) (m_law_7 ce))
def m_law_5 (ce : CE) : Env → M Oc := (sSeq (sB 10 (mCallC 1 (f_law_due ce) (aCons (mVar 8) aNil))) (m_law_6 ce))
def m_law_4 (ce : CE) : Env → M Oc := (sSeq (sA false 8 (mM1 joinD (mC (.str "\n")) (mLst (mLc (mSeq (mVar 4)) [9] gOne mYes (mM1 joinD (mC (.str " ")) (mVar 9)) [9])))) (m_law_5 ce))
def m_law_3 (ce : CE) : Env → M Oc := (sSeq (sForR (mRg rng1D (aCons (mCallC 2 (f_law_draw ce) (aCons (mVar 1) (aCons (mC (.int 3)) aNil))) aNil)) [7] gOne (sA false 4 (mCallC 2 (f_law_bent ce) (aCons (mVar 1) (aCons (mVar 4) aNil))))) (m_law_4 ce))
def m_law_2 (ce : CE) : Env → M Oc := (sSeq (sB 4 (mLst (mLc (mSeq (mVar 2)) [6] gOne mYes (mLst (mLc (mSeq (mVar 6)) [5] gOne mYes (mCb strID (aCons (m2 modD (mCb intD (aCons (mVar 5) aNil)) (m2 powD (mC (.int 10)) (mC (.int 40)))) aNil)) [5])) [6]))) (m_law_3 ce))
def m_law_1 (ce : CE) : Env → M Oc := (sSeq (sB 2 (mLst (mLc (mRg rng1D (aCons (mCallC 3 (f_law_size ce) (aCons (mVar 1) (aCons (mC (.int 4)) (aCons (mC (.int 9)) aNil)))) aNil)) [3] gOne mYes (mTup (aCons (mCallC 1 (f_law_cell ce) (aCons (mVar 1) aNil)) (aCons (mCallC 1 (f_law_cell ce) (aCons (mVar 1) aNil)) (aCons (mCallC 1 (f_law_cell ce) (aCons (mVar 1) aNil)) aNil)))) [3]))) (m_law_2 ce))
def m_law (ce : CE) : Env → M Oc := (sSeq (sA false 1 (mCallC 1 (f_law_pool ce) (aCons (mVar 0) aNil))) (m_law_1 ce))
def f_law (ce : CE) : List D → M D := mDef 15 (m_law ce)
theorem ok_law [Tbl] {ce : CE} {P : Program} {w : World} {K : Fr} {mg : Str → Option Value} {base : Heap} {fa : Addr} {fd : FuncData} (F : L2.Fun K "law" "law" s_law fa fd) (B : Bt mg) (c_law_pool : C8.Cal P w K mg base 1 "_law_pool" (spC K false 1 (f_law_pool ce)) []) (c_law_due : C8.Cal P w K mg base 2 "_law_due" (spC K true 1 (f_law_due ce)) []) (cX_read_moves : CalX P w K mg base 6 "read_moves" (spM K true 1 (f_read_moves ce))) (c_law_same : C8.Cal P w K mg base 9 "_law_same" (spC K true 2 (f_law_same ce)) []) (c_law_draw : C8.Cal P w K mg base 1 "_law_draw" (spC K true 2 (f_law_draw ce)) []) (c_law_bent : C8.Cal P w K mg base 4 "_law_bent" (spC K false 2 (f_law_bent ce)) []) (c_write_moves : C8.Cal P w K mg base 1 "write_moves" (spC K true 1 (f_write_moves ce)) []) (c_law_cell : C8.Cal P w K mg base 2 "_law_cell" (spC K true 1 (f_law_cell ce)) []) (c_law_size : C8.Cal P w K mg base 2 "_law_size" (spC K true 3 (f_law_size ce)) []) (c_law_read : C8.Cal P w K mg base 7 "_law_read" (spC K true 1 (f_law_read ce)) []) (c_law_base : C8.Cal P w K mg base 7 "_law_base" (spC K true 1 (f_law_base ce)) []) : FnOk P w K mg base C8.CX0 10 fa fd ["script"] (spC K true 1 (f_law ce)) :=
  okM F sc_law rfl (by decide) fun cdv A outer s H E hr => ⟨_, (pss_cons (ps_set (i := 1) sc_law.nd rfl (Or.inr rfl) (C8.pe_c c_law_pool hr (by first | decide | exact Nat.le_refl _) (by rfl) (pa_cons (pv 0) pa_nil))) 
  (pss_cons (ps_setLc (i := 2) (own := [("k", 3)]) rfl sc_law.nd rfl rfl (sw_true rfl rfl rfl (by decide +kernel)) (pi_range1 (by rfl) B.b_range (pa_cons (C8.pe_c c_law_size hr (by first | decide | exact Nat.le_refl _) (by rfl) (pa_cons (pv 1) (pa_cons pe_int (pa_cons pe_int pa_nil)))) pa_nil)) (blkOk_by (by kernel_rfl)) (fun _ _ _ _ _ => (pg_name (i := 3) sc_law.nd rfl (Or.inl rfl))) (fun _ _ _ _ _ => pts_nil) (fun _ _ _ _ _ => (pe_tup (pa_cons (C8.pe_c c_law_cell hr (by first | decide | exact Nat.le_refl _) (by rfl) (pa_cons (pv 1) pa_nil)) (pa_cons (C8.pe_c c_law_cell hr (by first | decide | exact Nat.le_refl _) (by rfl) (pa_cons (pv 1) pa_nil)) (pa_cons (C8.pe_c c_law_cell hr (by first | decide | exact Nat.le_refl _) (by rfl) (pa_cons (pv 1) pa_nil)) pa_nil)))))) 
  (pss_cons (ps_setLc (i := 4) (own := [("move", 6)]) rfl sc_law.nd rfl rfl (sw_true rfl rfl rfl (by decide +kernel)) (pi_seqK (K := K) rfl (pv 2)) (blkOk_by (by kernel_rfl)) (fun _ _ _ _ _ => (pg_name (i := 6) sc_law.nd rfl (Or.inl rfl))) (fun _ _ _ _ _ => pts_nil) (fun _ _ _ _ _ => (pe_lc (own := [("part", 5)]) rfl sc_law.nd (pi_seqK (K := K) rfl (pv 6)) (blkOk_by (by kernel_rfl)) (fun _ _ _ _ _ => (pg_name (i := 5) sc_law.nd rfl (Or.inl rfl))) (fun _ _ _ _ _ => pts_nil) (fun _ _ _ _ _ => (pe_callTy cr_strI (by rfl) B.b_str bt_str (pa_cons (pe_op op_modN (pe_callTy cl_int (by rfl) B.b_int bt_int (pa_cons (pv 5) pa_nil)) (pe_op op_pow pe_int pe_int)) pa_nil)))))) 
  (pss_cons (ps_for PassesOwn.never rfl (pi_range1 (by rfl) B.b_range (pa_cons (C8.pe_c c_law_draw hr (by first | decide | exact Nat.le_refl _) (by rfl) (pa_cons (pv 1) (pa_cons pe_int pa_nil))) pa_nil)) (pg_name (i := 7) sc_law.nd rfl (Or.inl rfl)) (pss_one (ps_set (i := 4) sc_law.nd rfl (Or.inl rfl) (C8.pe_c c_law_bent hr (by first | decide | exact Nat.le_refl _) (by rfl) (pa_cons (pv 1) (pa_cons (pv 4) pa_nil)))))) 
  (pss_cons (ps_set (i := 8) sc_law.nd rfl (Or.inl rfl) (pe_join pe_str (pe_lc (own := [("row", 9)]) rfl sc_law.nd (pi_seqK (K := K) rfl (pv 4)) (blkOk_by (by kernel_rfl)) (fun _ _ _ _ _ => (pg_name (i := 9) sc_law.nd rfl (Or.inl rfl))) (fun _ _ _ _ _ => pts_nil) (fun _ _ _ _ _ => (pe_join pe_str (pv 9)))))) 
  (pss_cons (ps_set (i := 10) sc_law.nd rfl (Or.inl rfl) (C8.pe_c c_law_due hr (by first | decide | exact Nat.le_refl _) (by rfl) (pa_cons (pv 8) pa_nil))) 
  (pss_cons (ps_set (i := 11) sc_law.nd rfl (Or.inl rfl) (pe_join pe_str (pe_lc (own := [("move", 6)]) rfl sc_law.nd (pi_seqK (K := K) rfl (pv 2)) (blkOk_by (by kernel_rfl)) (fun _ _ _ _ _ => (pg_name (i := 6) sc_law.nd rfl (Or.inl rfl))) (fun _ _ _ _ _ => pts_nil) (fun _ _ _ _ _ => (pe_join pe_str (pe_lc (own := [("part", 5)]) rfl sc_law.nd (pi_seqK (K := K) rfl (pv 6)) (blkOk_by (by kernel_rfl)) (fun _ _ _ _ _ => (pg_name (i := 5) sc_law.nd rfl (Or.inl rfl))) (fun _ _ _ _ _ => pts_nil) (fun _ _ _ _ _ => (pe_callTy cr_strI (by rfl) B.b_str bt_str (pa_cons (pv 5) pa_nil))))))))) 
  (pss_cons (ps_set (i := 12) sc_law.nd rfl (Or.inl rfl) (pe_callTy (cl_listK (K := K) rfl) (by rfl) B.b_list bt_list (pa_cons (pv 2) pa_nil))) 
  (pss_cons (ps_if (pt_not (pt_val (C8.pe_c c_law_same hr (by first | decide | exact Nat.le_refl _) (by rfl) (pa_cons (C8.pe_c c_write_moves hr (by first | decide | exact Nat.le_refl _) (by rfl) (pa_cons (pv 12) pa_nil)) (pa_cons (pv 11) pa_nil))))) (pss_one (ps_ret pe_bl)) pss_nil) 
  (pss_cons (ps_set (i := 13) sc_law.nd rfl (Or.inl rfl) (pe_cX cX_read_moves hr (by first | decide | exact Nat.le_refl _) (by rfl) (fun _ => passAt0) (pa_cons (pv 11) pa_nil))) 
  (pss_cons (ps_if (pt_not (pt_val (C8.pe_c c_law_same hr (by first | decide | exact Nat.le_refl _) (by rfl) (pa_cons (pv 13) (pa_cons (pv 2) pa_nil))))) (pss_one (ps_ret pe_bl)) pss_nil) 
  (pss_cons (ps_expr (pe_bmK (K := K) rfl PySem.F.plainAttrs_list PySem.F.slot_list_append PySem.F.type_list_append mt_append (pv 13) (pa_cons (pe_tup (pa_cons pe_int (pa_cons pe_int (pa_cons pe_int pa_nil)))) pa_nil))) 
  (pss_cons (ps_if (PW.pt (pw_or (pt_not (pt_val (C8.pe_c c_law_same hr (by first | decide | exact Nat.le_refl _) (by rfl) (pa_cons (C8.pe_c c_law_read hr (by first | decide | exact Nat.le_refl _) (by rfl) (pa_cons (pv 8) pa_nil)) (pa_cons (pv 10) pa_nil))))) (pw_or1 (PW.pt (pw_and (pt_cmpR (op_eqUK (K := K) rfl hr.units) (pe_ix (ix_UK (K := K) rfl (u1 hr)) (pv 10) pe_int (fun _ _ => rfl)) pe_str (nomark _)) (pw_and1 (pt_not (pt_val (C8.pe_c c_law_base hr (by first | decide | exact Nat.le_refl _) (by rfl) (pa_cons (pv 8) pa_nil)))))))))) (pss_one (ps_ret pe_bl)) pss_nil) 
  (pss_cons (ps_set (i := 14) sc_law.nd rfl (Or.inl rfl) (pe_cX cX_read_moves hr (by first | decide | exact Nat.le_refl _) (by rfl) (fun _ => passAt0) (pa_cons (pv 11) pa_nil))) 
  (pss_cons (ps_if (PW.pt (pw_or (pt_not (pt_val (C8.pe_c c_law_same hr (by first | decide | exact Nat.le_refl _) (by rfl) (pa_cons (pv 14) (pa_cons (pv 2) pa_nil))))) (pw_or1 (pt_not (pt_val (C8.pe_c c_law_same hr (by first | decide | exact Nat.le_refl _) (by rfl) (pa_cons (pv 12) (pa_cons (pv 2) pa_nil)))))))) (pss_one (ps_ret pe_bl)) pss_nil) 
  (pss_one (ps_ret (C8.pe_c c_law_same hr (by first | decide | exact Nat.le_refl _) (by rfl) (pa_cons (C8.pe_c c_write_moves hr (by first | decide | exact Nat.le_refl _) (by rfl) (pa_cons (pv 14) pa_nil)) (pa_cons (pv 11) pa_nil)))))))))))))))))))),
  (r_seq (r_asgA (xe_callC' (xa_cons xe_var xa_nil)))
  (r_seq (r_asgB (xl_lc ((xr_rng1 (xa_cons (xe_callC' (xa_cons xe_var (xa_cons xe_int (xa_cons xe_int xa_nil)))).old xa_nil))).xi xg_name xt_yes (xe_tup (xa_cons (xe_callC' (xa_cons xe_var xa_nil)) (xa_cons (xe_callC' (xa_cons xe_var xa_nil)) (xa_cons (xe_callC' (xa_cons xe_var xa_nil)) xa_nil)))) (by decide)).xe)
  (r_seq (r_asgB (xl_lc (xi_seq det_var xe_var) xg_name xt_yes (xl_lc (xi_seq det_var xe_var) xg_name xt_yes (xe_cb cd_strI (xa_cons (xe_op (f1 := false) od_mod (xe_cb cd_int (xa_cons xe_var xa_nil)) (xe_op (f1 := false) od_pow xe_int xe_int)) xa_nil)) (by decide)).xe (by decide)).xe)
  (r_seq (r_forR (xr_rng1 (xa_cons (xe_callC' (xa_cons xe_var (xa_cons xe_int xa_nil))).old xa_nil)) xg_name (r_asgA (xe_callC' (xa_cons xe_var (xa_cons xe_var xa_nil)))))
  (r_seq (r_asgA (xe_m1 (f1 := false) od_join xe_str (xl_lc (xi_seq det_var xe_var) xg_name xt_yes (xe_m1 (f1 := false) od_join xe_str xe_var) (by decide)).xe))
  (r_seq (r_asgB (xe_callC' (xa_cons xe_var xa_nil)))
  (r_seq (r_asgA (xe_m1 (f1 := false) od_join xe_str (xl_lc (xi_seq det_var xe_var) xg_name xt_yes (xe_m1 (f1 := false) od_join xe_str (xl_lc (xi_seq det_var xe_var) xg_name xt_yes (xe_cb cd_strI (xa_cons xe_var xa_nil)) (by decide)).xe) (by decide)).xe))
  (r_seq (r_asgA (xe_cb cd_list (xa_cons xe_var xa_nil)))
  (r_seq (r_if (xt_not (xt_B (xe_callC' (xa_cons (xe_callC' (xa_cons xe_var xa_nil)).old (xa_cons xe_var xa_nil))).old)) (r_retB xe_bl) r_nx)
  (r_seq (r_asgJ (xe_callX0 fun _ => (xa_cons xe_var xa_nil)))
  (r_seq (r_if (xt_not (xt_B (xe_callC' (xa_cons xe_var (xa_cons xe_var xa_nil))).old)) (r_retB xe_bl) r_nx)
  (r_seq (r_jApp xj_var (xe_tup (xa_cons xe_int (xa_cons xe_int (xa_cons xe_int xa_nil)))))
  (r_seq (r_if (xt_or (xt_not (xt_B (xe_callC' (xa_cons (xe_callC' (xa_cons xe_var xa_nil)).old (xa_cons xe_var xa_nil))).old)) (xt_and (xt_test (xe_op (f1 := false) od_eq (xe_op od_ix xe_var xe_int) xe_str)) (xt_not (xt_B (xe_callC' (xa_cons xe_var xa_nil)).old)))) (r_retB xe_bl) r_nx)
  (r_seq (r_asgB (xe_callX0 fun _ => (xa_cons xe_var xa_nil)))
  (r_seq (r_if (xt_or (xt_not (xt_B (xe_callC' (xa_cons xe_var (xa_cons xe_var xa_nil))).old)) (xt_not (xt_B (xe_callC' (xa_cons xe_var (xa_cons xe_var xa_nil))).old))) (r_retB xe_bl) r_nx)
  (r_retB (xe_callC' (xa_cons (xe_callC' (xa_cons xe_var xa_nil)).old (xa_cons xe_var xa_nil)))))))))))))))))))⟩
/-! texts as lists of signs -/
section
variable [Tbl]
def tx (l : List Nat) : D := .str (SX.S l)
def pts (c : Nat) : List Nat → List Nat → List (List Nat)
  | acc, [] => [acc]
  | acc, x :: r => if x = c then acc :: pts c [] r else pts c (acc ++ [x]) r
theorem pts_nil (c : Nat) (acc : List Nat) : pts c acc [] = [acc] := rfl
theorem pts_cons (c : Nat) (acc : List Nat) (x : Nat) (r : List Nat) : pts c acc (x :: r) = if x = c then acc :: pts c [] r else pts c (acc ++ [x]) r := rfl
theorem spl_pts (c : Nat) : ∀ (l acc : List Nat), TL.spl [c] 0 acc l = pts c acc l
  | [], acc => by rw [TL.spl_nil, pts_nil]
  | x :: r, acc => by
    rw [pts_cons]
    by_cases e : x = c
    · subst e
      rw [if_pos rfl, TL.spl_hit (by simp [TL.pre])]
      show acc :: TL.spl [x] 0 [] r = _
      rw [spl_pts x r []]
    · rw [if_neg e, TL.spl_miss (TL.pre_of_head _ _ e), spl_pts c r]
theorem split_tx {c : Nat} {l : List Nat} (h : c < 256) : Txt.split (SX.S l) (SX.S [c]) = (pts c [] l).map SX.S := by
  rw [SX.split_S (by simp) (by simp [h]), spl_pts]
theorem join_tx (c : List Nat) (ys : List (List Nat)) : Txt.join (SX.S c) (ys.map SX.S) = SX.S (TL.joinL c ys) := SX.join_S c ys
theorem pts_app (c : Nat) (v : List Nat) : ∀ (u acc : List Nat), pts c acc (u ++ c :: v) = pts c acc u ++ pts c [] v
  | [], acc => by simp [pts_cons, pts_nil]
  | x :: u, acc => by
    rw [List.cons_append, pts_cons, pts_cons]
    split
    · rw [pts_app c v u []]; rfl
    · exact pts_app c v u _
theorem pts_free {c : Nat} : ∀ (u acc : List Nat), c ∉ u → pts c acc u = [acc ++ u]
  | [], acc, _ => by simp [pts_nil]
  | x :: u, acc, h => by
    rw [pts_cons, if_neg (fun e => h (by simp [e])), pts_free u _ (fun z => h (List.mem_cons_of_mem _ z))]
    simp
theorem pts_len {c : Nat} : ∀ (u acc : List Nat), ∀ p ∈ pts c acc u, p.length ≤ acc.length + u.length
  | [], acc, p, h => by rw [pts_nil, List.mem_singleton] at h; subst h; simp
  | x :: u, acc, p, h => by
    rw [pts_cons] at h
    split at h
    · rcases List.mem_cons.mp h with rfl | h
      · simp only [List.length_cons]; omega
      · have := pts_len u [] p h; simp only [List.length_cons, List.length_nil] at *; omega
    · have := pts_len u _ p h; simp only [List.length_cons, List.length_append, List.length_nil] at *; omega
theorem pts_ne (c : Nat) (u acc : List Nat) : pts c acc u ≠ [] := by
  cases u with
  | nil => simp [pts_nil]
  | cons x u =>
    rw [pts_cons]
    split
    · simp
    · exact pts_ne c u _
theorem pts_count {c : Nat} : ∀ (u acc : List Nat), (pts c acc u).length ≤ u.length + 1
  | [], acc => by simp [pts_nil]
  | x :: u, acc => by
    rw [pts_cons]
    split
    · have := pts_count (c := c) u []; simp only [List.length_cons]; omega
    · have := pts_count (c := c) u (acc ++ [x]); simp only [List.length_cons]; omega
theorem joinL_cons (c : List Nat) (w v : List Nat) (ws : List (List Nat)) : TL.joinL c (w :: v :: ws) = w ++ (c ++ TL.joinL c (v :: ws)) := by
  simp [TL.joinL]
theorem joinL_one (c w : List Nat) : TL.joinL c [w] = w := by simp [TL.joinL]
theorem joinL_nil (c : List Nat) : TL.joinL c [] = [] := by simp [TL.joinL]
theorem pts_join {c : Nat} : ∀ (ws : List (List Nat)), ws ≠ [] → pts c [] (TL.joinL [c] ws) = (ws.map (pts c [])).flatten
  | [], h => absurd rfl h
  | [w], _ => by rw [joinL_one]; simp
  | w :: v :: ws, _ => by
    rw [joinL_cons, List.singleton_append, pts_app, pts_join (v :: ws) (by simp)]
    simp
theorem pts_joinF {c : Nat} (ws : List (List Nat)) (h : ws ≠ []) (hf : ∀ w ∈ ws, c ∉ w) : pts c [] (TL.joinL [c] ws) = ws := by
  rw [← spl_pts]; exact TL.spl_join h hf
theorem joinL_free {c : Nat} {s : List Nat} (hs : c ∉ s) : ∀ {ws : List (List Nat)}, (∀ w ∈ ws, c ∉ w) → c ∉ TL.joinL s ws
  | [], _ => by simp [joinL_nil]
  | [w], h => by rw [joinL_one]; exact h w (by simp)
  | w :: v :: ws, h => by
    rw [joinL_cons]
    have h1 := h w (by simp)
    have h2 := joinL_free hs (ws := v :: ws) (fun x hx => h x (List.mem_cons_of_mem _ hx))
    simp [h1, h2, hs]
theorem joinL_len {s : List Nat} : ∀ {ws : List (List Nat)} {n : Nat}, (∀ w ∈ ws, w.length ≤ n) → (TL.joinL s ws).length ≤ ws.length * (n + s.length)
  | [], n, _ => by simp [joinL_nil]
  | [w], n, h => by rw [joinL_one]; have := h w (by simp); simp only [List.length_cons, List.length_nil]; omega
  | w :: v :: ws, n, h => by
    rw [joinL_cons]
    have h1 := h w (by simp)
    have h2 := joinL_len (s := s) (ws := v :: ws) (n := n) (fun x hx => h x (List.mem_cons_of_mem _ hx))
    rw [List.length_append, List.length_append, List.length_cons, Nat.succ_mul]
    omega
theorem lens_tx (ys : List (List Nat)) : ((ys.map SX.S).map fun y : Str => y.length) = ys.map List.length := by
  rw [List.map_map]; exact List.map_congr_left fun a _ => SX.S_len a
theorem sum_le_all : ∀ {ns : List Nat} {m : Nat}, (∀ n ∈ ns, n ≤ m) → ns.sum ≤ ns.length * m
  | [], m, _ => by simp
  | n :: ns, m, h => by
    have h1 := h n (by simp); have h2 := sum_le_all (fun x hx => h x (List.mem_cons_of_mem n hx))
    rw [List.sum_cons, List.length_cons, Nat.succ_mul]; omega
theorem joinD_tx {c : List Nat} {ys : List (List Nat)} {n : Nat} (h : ∀ y ∈ ys, y.length ≤ n) (hl : ys.length * (n + c.length) ≤ 1000000) : joinD (tx c) (.lst (ys.map tx)) = some (tx (TL.joinL c ys)) := by
  have e : ys.map tx = (ys.map SX.S).map D.str := by rw [List.map_map]; rfl
  rw [e]
  show joinD (.str (SX.S c)) _ = _
  rw [joinD_eq]
  · rw [join_tx]; rfl
  · rw [lens_tx, List.length_map, SX.S_len]
    have h2 : (ys.map List.length).sum ≤ (ys.map List.length).length * n := sum_le_all (by simpa using h)
    rw [List.length_map] at h2
    rw [Nat.mul_add] at hl
    omega
theorem splitD_tx {c : Nat} {l : List Nat} (hc : c < 256) (h : l.length + 2 ≤ 100000) : splitD (tx l) (tx [c]) = some (.lst ((pts c [] l).map tx)) := by
  show splitD (.str (SX.S l)) (.str (SX.S [c])) = _
  rw [splitD_eq ⟨by rw [SX.S_len]; rfl, by rw [SX.S_len]; exact h⟩, split_tx hc, List.map_map]
  rfl
theorem strI_tx {l : List Nat} (h : l.length ≤ 50000) : strI (tx l) = some (l.map fun c => tx [c]) := by
  show strI (.str (SX.S l)) = _
  rw [strI_eq (by simpa using h)]
  rfl
theorem inSgD_tx (neg : Bool) (c : Nat) (l : List Nat) : inSgD neg (tx [c]) (tx l) = some (.bl (if neg then !decide (c ∈ l) else decide (c ∈ l))) := by
  show inSgD neg (.str ⟨#[c]⟩) (.str (SX.S l)) = _
  rw [inSgD_eq]
theorem tx_inj {a b : List Nat} : (tx a = tx b) ↔ a = b := ⟨fun h => SX.S_inj (D.str.inj h), fun h => by rw [h]⟩
theorem eqD_tx (a b : List Nat) : eqD (tx a) (tx b) = some (.bl (decide (a = b))) := by
  rw [show eqD (tx a) (tx b) = some (.bl (SX.S a == SX.S b)) from rfl, SX.S_beq_eq]
theorem neD_tx (a b : List Nat) : neD (tx a) (tx b) = some (.bl (!decide (a = b))) := by
  rw [show neD (tx a) (tx b) = some (.bl (!(SX.S a == SX.S b))) from rfl, SX.S_beq_eq]
theorem lenD_tx {a : List Nat} (h : a.length ≤ 100000) : lenD [tx a] = some (.int a.length) := by
  have e : lenD [tx a] = if (SX.S a).length ≤ 100000 then some (.int ((SX.S a).length : Int)) else none := rfl
  rw [e, SX.S_len, if_pos h]
theorem addD_tx {a b : List Nat} (h : a.length + b.length ≤ 10000) : addD (tx a) (tx b) = some (tx (a ++ b)) := by
  show _ = some (D.str (SX.S (a ++ b)))
  rw [← SX.S_cat]
  exact addD_str (by rw [SX.S_len, SX.S_len]; omega)
theorem ixD_tx0 {c : Nat} {l : List Nat} (h : (c :: l).length ≤ 100000) : ixD (tx (c :: l)) (.int 0) = some (tx [c]) := by
  have e : ixD (tx (c :: l)) (.int 0) = if (SX.S (c :: l)).length ≤ 100000 then (atI (c :: l) 0).map fun c => .str ⟨#[c]⟩ else none := rfl
  rw [e, SX.S_len, if_pos h, atI_0]; rfl
/-! ### numbers -/
def digs (w : List Nat) : Bool := w.all fun c => decide (48 ≤ c) && decide (c ≤ 57)
/-- a word that is a number: nothing but digits, no needless 0 ahead -/
def numW (w : List Nat) : Bool := digs w && decide (w ≠ []) && (decide (w = [48]) || decide (w.head? ≠ some 48))
/-- what a word tells, -1 for none -/
def valI (w : List Nat) : Int := if numW w = true then ((NumText.digitsVal w : Nat) : Int) else -1
theorem valI_yes {w : List Nat} (h : numW w = true) : valI w = ((NumText.digitsVal w : Nat) : Int) := if_pos h
theorem valI_neg {w : List Nat} : decide (valI w < 0) = !numW w := by
  unfold valI
  cases h : numW w <;> simp
theorem digs_of {w : List Nat} (h : NumText.AllDigits w) : digs w = true := by
  unfold digs
  rw [List.all_eq_true]
  intro c hc
  have := h c hc
  simp; omega
theorem numL_head : ∀ (k n : Nat), n < k → n ≠ 0 → (TL.numL n).head? ≠ some 48
  | 0, n, h, _ => absurd h (by omega)
  | k + 1, n, h, h0 => by
    by_cases e : n < 10
    · rw [TL.numL_lt e]; simp; omega
    · rw [TL.numL_step (by omega)]
      have ih := numL_head k (n / 10) (by omega) (by omega)
      cases hh : TL.numL (n / 10) with
      | nil => exact absurd hh (TL.numL_ne _)
      | cons a l => rw [hh] at ih; simpa using ih
theorem numW_numL (n : Nat) : numW (TL.numL n) = true := by
  unfold numW
  rw [digs_of (TL.numL_digits n)]
  by_cases e : n = 0
  · subst e; simp [TL.numL_lt]
  · simp [TL.numL_ne, numL_head (n + 1) n (by omega) e]
theorem valI_numL (n : Nat) : valI (TL.numL n) = (n : Int) := by rw [valI_yes (numW_numL n), TL.numL_val]
theorem intText_numW {w : List Nat} (h : numW w = true) (hl : w.length ≤ 640) : PySem.intText? (SX.S w) = some (valI w) := by
  rw [valI_yes h]
  unfold numW at h
  simp only [Bool.and_eq_true, decide_eq_true_eq] at h
  exact SX.int_S h.1.1 h.1.2 (by omega)
theorem intSD_tx {w : List Nat} (h : numW w = true) (hl : w.length ≤ 640) : intSD [tx w] = some (.int (valI w)) := intSD_eq (by rw [SX.S_len]; exact hl) (intText_numW h hl)
theorem log2_of {n : Nat} (h : n < 10 ^ 70) : (n : Int).natAbs.log2 < 1920 := by
  rw [Int.natAbs_natCast]
  by_cases e : n = 0
  · subst e; decide
  · rw [Nat.log2_lt e]
    exact Nat.lt_trans h (by decide +kernel)
theorem strID_num {n : Nat} (h : n < 10 ^ 70) : strID [.int (n : Int)] = some (tx (TL.numL n)) := by
  rw [strID_eq (log2_of h)]
  exact congrArg (fun z => some (D.str z)) (SX.num_S n)
theorem fmtD_num {n : Nat} (h : n < 10 ^ 70) : fmtD (.int (n : Int)) = some (tx (TL.numL n)) := by
  rw [fmtD_int (log2_of h)]
  exact congrArg (fun z => some (D.str z)) (SX.num_S n)
theorem digits10 (c : Nat) : c ∈ [48, 49, 50, 51, 52, 53, 54, 55, 56, 57] ↔ 48 ≤ c ∧ c ≤ 57 := by
  simp only [List.mem_cons, List.not_mem_nil, or_false]; omega
theorem s_em : D.str "" = tx [] := by unfold tx; exact congrArg D.str (by decide +kernel)
theorem s_nl : D.str "\n" = tx [10] := by unfold tx; exact congrArg D.str (by decide +kernel)
theorem s_sp : D.str " " = tx [32] := by unfold tx; exact congrArg D.str (by decide +kernel)
theorem s_0 : D.str "0" = tx [48] := by unfold tx; exact congrArg D.str (by decide +kernel)
theorem s_dig : D.str "0123456789" = tx [48, 49, 50, 51, 52, 53, 54, 55, 56, 57] := by unfold tx; exact congrArg D.str (by decide +kernel)
@[simp] theorem scalarD_tx (l : List Nat) : scalarD (tx l) = true := rfl
@[simp] theorem strO_tx (l : List Nat) : strO (tx l) = some (SX.S l) := rfl
theorem findD_dig {c : Nat} (h : 48 ≤ c ∧ c ≤ 57) : findD (tx [48, 49, 50, 51, 52, 53, 54, 55, 56, 57]) (tx [c]) = some (.int ((c : Int) - 48)) := by
  have k : ∀ i : Fin 10, Txt.find (SX.S [48, 49, 50, 51, 52, 53, 54, 55, 56, 57]) (SX.S [48 + i.val]) = (i.val : Int) := by decide +kernel
  have e := k ⟨c - 48, by omega⟩
  have e2 : 48 + (c - 48) = c := by omega
  simp only [e2] at e
  show findD (.str _) (.str _) = _
  rw [findD_eq, e]
  congr 2
  omega
end
section
variable [Tbl]
/-! the law's own reading of a text -/
def ptB (ce : CE) : Env → M Oc := sIf (mTest (m2 eqD (mVar 3) (mVar 1))) (sAppB 2 (mC (.str ""))) (sSet 2 (m2 subD (mCb lenD (aCons (mVar 2) aNil)) (mC (.int 1))) (m2 addD (m2 ixD (mVar 2) (m2 subD (mCb lenD (aCons (mVar 2) aNil)) (mC (.int 1)))) (mVar 3)))
theorem atI_last {α : Type} (xs : List α) (a : α) : atI (xs ++ [a]) ((xs.length : Int) + 1 - 1) = some a := by
  rw [show (xs.length : Int) + 1 - 1 = ((xs.length : Nat) : Int) from by omega]
  exact atI_nat (by simp)
theorem pt_loop {ce : CE} {t : D} {c : Nat} : ∀ (l : List Nat) (done : List (List Nat)) (acc : List Nat) (s3 : Slot), done.length + l.length < 20000 → acc.length + l.length ≤ 9000 →
    ∃ s, forGo [3] gOne (ptB ce) (l.map fun x => tx [x]) [.sh false t, .sh false (tx [c]), .ow none true ((done ++ [acc]).map tx), s3] = ret (.nx [.sh false t, .sh false (tx [c]), .ow none true ((done ++ pts c acc l).map tx), s])
  | [], done, acc, s3, _, _ => ⟨s3, rfl⟩
  | x :: l, done, acc, s3, h1, h2 => by
    simp only [List.length_cons] at h1 h2
    rw [List.map_cons, pts_cons]
    by_cases e : x = c
    · subst e
      obtain ⟨s, ih⟩ := pt_loop (ce := ce) (t := t) (c := x) l (done ++ [acc]) [] (.sh false (tx [x])) (by simp; omega) (by simp; omega)
      refine ⟨s, ?_⟩
      rw [if_pos rfl, forGo]
      have eb : ptB ce [.sh false t, .sh false (tx [x]), .ow none true ((done ++ [acc]).map tx), .sh false (tx [x])] = ret (.nx [.sh false t, .sh false (tx [x]), .ow none true (((done ++ [acc]) ++ [[]]).map tx), .sh false (tx [x])]) := by
        unfold ptB
        have hg : done.length + 1 < 100000 := by omega
        simp [eqD_tx, M.grd_pos, hg, s_em]
      show bnd (opt (gOne (tx [x]))) _ = _
      rw [show gOne (tx [x]) = some [tx [x]] from rfl, M.opt_some, M.bnd_ret]
      show bnd (ptB ce [.sh false t, .sh false (tx [x]), .ow none true ((done ++ [acc]).map tx), .sh false (tx [x])]) _ = _
      rw [eb, M.bnd_ret]
      show forGo _ _ _ _ _ = _
      rw [ih]
      simp
    · obtain ⟨s, ih⟩ := pt_loop (ce := ce) (t := t) (c := c) l done (acc ++ [x]) (.sh false (tx [x])) (by omega) (by simp; omega)
      refine ⟨s, ?_⟩
      rw [if_neg e, forGo]
      have eb : ptB ce [.sh false t, .sh false (tx [c]), .ow none true ((done ++ [acc]).map tx), .sh false (tx [x])] = ret (.nx [.sh false t, .sh false (tx [c]), .ow none true ((done ++ [acc ++ [x]]).map tx), .sh false (tx [x])]) := by
        unfold ptB
        have ha : addD (tx acc) (tx [x]) = some (tx (acc ++ [x])) := addD_tx (by simp; omega)
        have hat : atI (done.map tx ++ [tx acc]) (done.length : Int) = some (tx acc) := by
          have := atI_last (done.map tx) (tx acc)
          rwa [List.length_map, show (done.length : Int) + 1 - 1 = ((done.length : Nat) : Int) from by omega] at this
        have hix : ixN (done.length + 1) (done.length : Int) = some done.length := Evl.ixN_nat (by omega)
        have hse : (done.map tx ++ [tx acc]).set done.length (tx (acc ++ [x])) = done.map tx ++ [tx (acc ++ [x])] := by
          have := List.set_append_right (s := done.map tx) (t := [tx acc]) (i := done.length) (x := tx (acc ++ [x])) (by simp)
          rw [this]; simp
        simp [eqD_tx, e, hat, ha, hix, hse, M.grd_pos]
      show bnd (opt (gOne (tx [x]))) _ = _
      rw [show gOne (tx [x]) = some [tx [x]] from rfl, M.opt_some, M.bnd_ret]
      show bnd (ptB ce [.sh false t, .sh false (tx [c]), .ow none true ((done ++ [acc]).map tx), .sh false (tx [x])]) _ = _
      rw [eb, M.bnd_ret]
      exact ih
theorem f_law_parts_eq {ce : CE} {l : List Nat} {c : Nat} (h : l.length ≤ 9000) : f_law_parts ce [tx l, tx [c]] = ret (.lst ((pts c [] l).map tx)) := by
  obtain ⟨s, e⟩ := pt_loop (ce := ce) (t := tx l) (c := c) l [] [] .un (by simp; omega) (by simp; omega)
  unfold ptB at e
  simp [s_em] at e
  simp [f_law_parts, m_law_parts, m_law_parts_1, s_em, strI_tx (show l.length ≤ 50000 by omega), e, m_law_parts_2, M.grd_pos]
/-! a word's number, as the law reads it -/
def vlB (ce : CE) : Env → M Oc := (sSeq (sIf (mTest (m2 (inSgD true) (mVar 2) (mC (.str "0123456789")))) (sRetB (m1 negD (mC (.int 1)))) sNx)
  (sA false 1 (m2 addD (m2 mulD (mVar 1) (mC (.int 10))) (mM1 findD (mC (.str "0123456789")) (mVar 2)))))
def digV : Nat → List Nat → Nat
  | a, [] => a
  | a, c :: l => digV (a * 10 + (c - 48)) l
theorem digV_eq : ∀ (l : List Nat) (a : Nat), digV a l = l.foldl (fun acc c => acc * 10 + (c - 48)) a
  | [], a => rfl
  | c :: l, a => digV_eq l _
theorem vl_loop {ce : CE} {t : D} {k : Oc → M D} (kr : ∀ ρ d, k (.rt ρ d) = ret d) : ∀ (l : List Nat) (a : Nat) (f1 : Bool) (s2 : Slot), ∃ s f, bnd (forGo [2] gOne (vlB ce) (l.map fun x => tx [x]) [.sh false t, .sh f1 (.int (a : Int)), s2]) k = if digs l = true then k (.nx [.sh false t, .sh f (.int ((digV a l : Nat) : Int)), s]) else ret (.int (-1))
  | [], a, f1, s2 => ⟨s2, f1, by show bnd (M.ret _) k = _; rw [M.bnd_ret]; rfl⟩
  | x :: l, a, f1, s2 => by
    rw [List.map_cons, forGo, show gOne (tx [x]) = some [tx [x]] from rfl, M.opt_some, M.bnd_ret]
    show ∃ s f, bnd (bnd (vlB ce [.sh false t, .sh f1 (.int (a : Int)), .sh false (tx [x])]) _) k = _
    by_cases hx : 48 ≤ x ∧ x ≤ 57
    · obtain ⟨s, f, ih⟩ := vl_loop kr l (a * 10 + (x - 48)) false (.sh false (tx [x]))
      refine ⟨s, f, ?_⟩
      have hm : x ∈ [48, 49, 50, 51, 52, 53, 54, 55, 56, 57] := (digits10 x).mpr hx
      have eb : vlB ce [.sh false t, .sh f1 (.int (a : Int)), .sh false (tx [x])] = ret (.nx [.sh false t, .sh false (.int ((a * 10 + (x - 48) : Nat) : Int)), .sh false (tx [x])]) := by
        unfold vlB
        have ea : ((a * 10 + (x - 48) : Nat) : Int) = (a : Int) * 10 + ((x : Int) - 48) := by omega
        have hi : inSgD true (tx [x]) (tx [48, 49, 50, 51, 52, 53, 54, 55, 56, 57]) = some (.bl false) := by rw [inSgD_tx]; simp [hm]
        rw [ea]
        simp [s_dig, hi, findD_dig hx]
      rw [eb, M.bnd_ret]
      show bnd (forGo _ _ _ _ _) k = _
      rw [ih]
      have ed : digs (x :: l) = digs l := by unfold digs; simp [hx.1, hx.2]
      rw [ed]
      rfl
    · refine ⟨s2, f1, ?_⟩
      have hm : x ∉ [48, 49, 50, 51, 52, 53, 54, 55, 56, 57] := fun h => hx ((digits10 x).mp h)
      have hi : inSgD true (tx [x]) (tx [48, 49, 50, 51, 52, 53, 54, 55, 56, 57]) = some (.bl true) := by rw [inSgD_tx]; simp [hm]
      have eb : vlB ce [.sh false t, .sh f1 (.int (a : Int)), .sh false (tx [x])] = ret (.rt [.sh false t, .sh f1 (.int (a : Int)), .sh false (tx [x])] (.int (-1))) := by
        unfold vlB
        simp [s_dig, hi]
      have ed : digs (x :: l) = false := by
        unfold digs
        simp only [List.all_cons]
        rw [show (decide (48 ≤ x) && decide (x ≤ 57)) = false from by simp; omega]
        rfl
      rw [eb, M.bnd_ret, M.bnd_ret, kr, ed]
      rfl
theorem f_law_value_eq {ce : CE} {w : List Nat} (h : w.length ≤ 9000) : f_law_value ce [tx w] = ret (.int (valI w)) := by
  have hl : lenD [tx w] = some (.int (w.length : Int)) := lenD_tx (by omega)
  obtain ⟨s, f, e⟩ := vl_loop (ce := ce) (t := tx w) (k := fun o => bnd (thenM (m_law_value_2 ce) o) ocD) (fun ρ d => rfl) w 0 true .un
  have e0 : f_law_value ce [tx w] = bnd (forGo [2] gOne (vlB ce) (w.map fun x => tx [x]) [.sh false (tx w), .sh true (.int ((0 : Nat) : Int)), .un]) (fun o => bnd (thenM (m_law_value_2 ce) o) ocD) := by
    unfold vlB
    simp [f_law_value, m_law_value, m_law_value_1, strI_tx (show w.length ≤ 50000 by omega)]
  rw [e0, e]
  cases hd : digs w with
  | false =>
    have : numW w = false := by unfold numW; rw [hd]; rfl
    simp [valI, this]
  | true =>
    rw [if_pos rfl]
    have ev : digV 0 w = NumText.digitsVal w := digV_eq w 0
    cases w with
    | nil =>
      have : numW [] = false := by decide
      simp [m_law_value_2, s_em, eqD_tx, valI, this]
    | cons c r =>
      have hix : ixD (tx (c :: r)) (.int 0) = some (tx [c]) := ixD_tx0 (by omega)
      cases r with
      | nil =>
        have : numW [c] = true := by unfold numW; rw [hd]; simp
        rw [ev]
        simp [m_law_value_2, s_em, s_0, eqD_tx, hl, hix, valI, this, m_law_value_3]
      | cons c2 r =>
        have h2 : (1 : Int) < (r.length : Int) + 1 + 1 := by omega
        by_cases h48 : c = 48
        · subst h48
          have : numW (48 :: c2 :: r) = false := by unfold numW; rw [hd]; simp
          simp [m_law_value_2, s_em, s_0, eqD_tx, hl, hix, valI, this, h2]
        · have : numW (c :: c2 :: r) = true := by unfold numW; rw [hd]; simp [h48]
          rw [ev]
          simp [m_law_value_2, s_em, s_0, eqD_tx, hl, hix, valI, this, m_law_value_3, h48, h2]
end
section
variable [Tbl]
/-! the program's own reading of a text -/
def rowT (ws : List (List Nat)) : D := .lst (ws.map tx)
/-- the rows of words of a text -/
def rowsL (l : List Nat) : List (List (List Nat)) := (pts 10 [] l).map (pts 32 [])
theorem f_rows_of_eq {ce : CE} {l : List Nat} (h : l.length ≤ 9000) : f_rows_of ce [tx l] = ret (.lst ((rowsL l).map rowT)) := by
  have h1 : splitD (tx l) (tx [10]) = some (.lst ((pts 10 [] l).map tx)) := splitD_tx (by omega) (by omega)
  have h2 := pts_count (c := 10) l []
  have h3 : ((pts 10 [] l).map tx).length ≤ 50000 := by rw [List.length_map]; omega
  simp [f_rows_of, m_rows_of, s_nl, h1, strO_tx]
  rw [M.grd_pos (by omega), lcGo_all (h := fun p => rowT (pts 32 [] p)) (e := fun p => [tx p])]
  · simp [rowsL, Function.comp_def]
  · intro p hp
    have hl := pts_len l [] p hp
    simp only [List.length_nil] at hl
    have h4 : splitD (tx p) (tx [32]) = some (.lst ((pts 32 [] p).map tx)) := splitD_tx (by omega) (by omega)
    refine ⟨rfl, rfl, ?_⟩
    simp [s_sp, h4, strO_tx, rowT]
theorem rowsL_len {l : List Nat} {ws : List (List Nat)} (h : ws ∈ rowsL l) : ws.length ≤ l.length + 1 ∧ ∀ w ∈ ws, w.length ≤ l.length := by
  obtain ⟨p, hp, rfl⟩ := List.mem_map.mp h
  have h1 := pts_len l [] p hp
  simp only [List.length_nil] at h1
  refine ⟨by have := pts_count (c := 32) p []; omega, fun w hw => ?_⟩
  have := pts_len p [] w hw
  simp only [List.length_nil] at this
  omega
theorem rowsL_count (l : List Nat) : (rowsL l).length ≤ l.length + 1 := by unfold rowsL; rw [List.length_map]; exact pts_count l []
def numB (w : List Nat) : Bool := numW w && decide (w.length ≤ 60)
theorem f_is_number_eq {ce : CE} {w : List Nat} (h : w.length ≤ 9000) : f_is_number ce [tx w] = ret (.bl (numB w)) := by
  have hl : lenD [tx w] = some (.int (w.length : Int)) := lenD_tx (by omega)
  by_cases e0 : w = []
  · subst e0
    have : numB [] = false := by decide
    simp [f_is_number, m_is_number, s_em, eqD_tx, this]
  · by_cases e1 : 60 < w.length
    · have e2 : (60 : Int) < (w.length : Int) := by omega
      have : numB w = false := by unfold numB; simp; omega
      simp [f_is_number, m_is_number, s_em, eqD_tx, this, e0, hl, e2]
    · have e2 : ¬ (60 : Int) < (w.length : Int) := by omega
      have e3 : decide (w.length ≤ 60) = true := by simp; omega
      have ea : (w.any fun c => !decide (c ∈ [48, 49, 50, 51, 52, 53, 54, 55, 56, 57])) = !digs w := by
        unfold digs
        rw [List.not_all_eq_any_not]
        congr 1
        funext c
        congr 1
        rw [show decide (c ∈ [48, 49, 50, 51, 52, 53, 54, 55, 56, 57]) = decide (48 ≤ c ∧ c ≤ 57) from decide_eq_decide.mpr (digits10 c)]
        simp
      have hin : ∀ c, inSgD true (tx [c]) (tx [48, 49, 50, 51, 52, 53, 54, 55, 56, 57]) = some (.bl (!decide (c ∈ [48, 49, 50, 51, 52, 53, 54, 55, 56, 57]))) := fun c => by rw [inSgD_tx]; rfl
      have hlc : ∀ ve : VE, lcGo (ve) [1] gOne mYes (m2 (inSgD true) (mVar 1) (mC (.str "0123456789"))) (w.map fun c => tx [c]) = ret (w.map fun c => .bl (!decide (c ∈ [48, 49, 50, 51, 52, 53, 54, 55, 56, 57]))) ∨ ve.length < 2 := fun ve => by
        match ve with
        | [] => right; simp
        | [_] => right; simp
        | a :: b :: ve =>
          left
          rw [lcGo_all (h := fun c => .bl (!decide (c ∈ [48, 49, 50, 51, 52, 53, 54, 55, 56, 57]))) (e := fun c => [tx [c]])]
          intro c hc
          refine ⟨rfl, rfl, ?_⟩
          simp only [s_dig, m2_ap, mVar_ap, mC_ap, setVE_cons, setVE_nil, List.set_cons_succ, List.set_cons_zero, getV_s, getV_z, Option.map_some, M.opt_some, M.bnd_ret, hin]
      have hlc2 := (hlc [some (false, tx w), none]).resolve_right (by simp)
      have ean : anyD [.lst (w.map fun c => .bl (!decide (c ∈ [48, 49, 50, 51, 52, 53, 54, 55, 56, 57])))] = some (.bl (!digs w)) := by rw [anyD_map, ea]
      have hw : w.length ≤ 50000 := by omega
      have ef : f_is_number ce [tx w] = bnd (if (!digs w) = true then ret (.rt [.sh false (tx w), .un] (.bl false)) else m_is_number_2 ce [.sh false (tx w), .un]) ocD := by
        simp only [f_is_number, m_is_number, m_is_number_1, mDef_ap, List.map_cons, List.map_nil, List.length_cons, List.length_nil, Nat.reduceAdd, Nat.reduceSub, List.replicate, List.cons_append, List.nil_append, sSeq_ap, sIf_ap, mTOr_ap, mTest_ap, m2_ap, mVar_ap, mC_ap, vB_sh, vB_un, vB_nil, getV_z, Option.map_some, M.opt_some, M.bnd_ret, s_em, eqD_tx, e0, decide_false, tBl_bl, mCb_ap, aCons_ap, aNil_ap, hl, cmpD_int, e2, if_false, Bool.false_eq_true, sNx_ap, thenM_nx, mLst_ap, mLc_ap, mStrI_ap, strI_tx hw, List.length_map, M.grd_pos hw, wipeVE_cons, wipeVE_nil, List.set_cons_succ, List.set_cons_zero, hlc2, ean]
        cases digs w <;> simp
      rw [ef]
      cases hd : digs w with
      | false =>
        have : numB w = false := by unfold numB numW; rw [hd]; rfl
        simp [this]
      | true =>
        cases w with
        | nil => exact absurd rfl e0
        | cons c r =>
          have hix : ixD (tx (c :: r)) (.int 0) = some (tx [c]) := ixD_tx0 (by omega)
          have hb : numB (c :: r) = (decide ((c :: r) = [48]) || !decide (c = 48)) := by
            unfold numB numW
            rw [hd, e3]
            by_cases h48 : c = 48
            · subst h48; simp
            · simp [h48]
          rw [hb]
          by_cases h1 : (c :: r) = [48]
          · simp [m_is_number_2, s_0, eqD_tx, h1]
          · have h2 : decide (c = 48 ∧ r = []) = false := by simpa using h1
            by_cases h48 : c = 48
            · subst h48
              simp at h1
              simp [m_is_number_2, s_0, eqD_tx, h1, hix, neD_tx]
            · simp [m_is_number_2, s_0, eqD_tx, h1, hix, neD_tx, h48]
end
section
variable [Tbl]
theorem f_are_numbers_eq {ce : CE} {ws : List (List Nat)} (h : ∀ w ∈ ws, w.length ≤ 9000) (hl : ws.length ≤ 50000) : f_are_numbers ce [rowT ws] = ret (.bl (ws.all numB)) := by
  simp [f_are_numbers, m_are_numbers, rowT]
  rw [M.grd_pos (by simpa using hl), lcGo_all (h := fun w => .bl (numB w)) (e := fun w => [tx w])]
  · simp [allD_map]
  · intro w hw
    refine ⟨rfl, rfl, ?_⟩
    simp [f_is_number_eq (h w hw)]
/-- the first row without the form -/
def badAt (p : List (List Nat) → Bool) : Nat → List (List (List Nat)) → Option Nat
  | _, [] => none
  | k, r :: rs => if p r = true then badAt p (k + 1) rs else some k
def exT (C : Addr) (k : Nat) : Exn := ⟨C, ["why", "row"], [.str "form", .int k]⟩
def rfB (ce : CE) : Env → M Oc := (sIf (mTNot (mTest (mCallA 1 2 (tabA ce) (aCons (mVar 2) (aCons (mVar 3) aNil))))) (sRaise ce.BadText ["row", "why"] (aCons (mVar 2) (aCons (mC (.str "form")) aNil))) sNx)
theorem rf_loop {ce : CE} {a : Addr} {mf : List D → M D} {p : List (List Nat) → Bool} {t : D} (ha : tabA ce a = some mf) : ∀ (rs : List (List (List Nat))) (k : Nat) (s2 s3 : Slot), (∀ r ∈ rs, ∀ k : Nat, mf [.int k, rowT r] = ret (.bl (p r))) →
    bnd (forGo [2, 3] (gTupD 2 (gsCons gOne (gsCons gOne gsNil))) (rfB ce) ((enumL k rs).map fun q => .tup [.int q.1, rowT q.2]) [.sh false t, .sh false (.fn a), s2, s3]) ocD = match badAt p k rs with
    | none => ret .non
    | some k => exn (exT ce.BadText k)
  | [], k, s2, s3, _ => rfl
  | r :: rs, k, s2, s3, h => by
    have he : enumL k (r :: rs) = ((k : Int), r) :: enumL (k + 1) rs := rfl
    have e1 := h r (by simp) k
    rw [he, List.map_cons, forGo, pat2, M.opt_some, M.bnd_ret]
    unfold badAt
    cases hp : p r with
    | true =>
      rw [hp] at e1
      have eb : rfB ce (setEnv false [.sh false t, .sh false (.fn a), s2, s3] [2, 3] [.int k, rowT r]) = ret (.nx [.sh false t, .sh false (.fn a), .sh false (.int k), .sh false (rowT r)]) := by
        simp [rfB, ha, e1]
      have ih := rf_loop (t := t) (p := p) ha rs (k + 1) (.sh false (.int k)) (.sh false (rowT r)) fun x hx => h x (List.mem_cons_of_mem _ hx)
      rw [eb, M.bnd_ret]
      exact ih
    | false =>
      rw [hp] at e1
      simp [rfB, ha, e1, exT]
theorem f_require_form_eq {ce : CE} {a : Addr} {mf : List D → M D} {p : List (List Nat) → Bool} (ha : tabA ce a = some mf) {rs : List (List (List Nat))} (h : ∀ r ∈ rs, ∀ k : Nat, mf [.int k, rowT r] = ret (.bl (p r))) :
    f_require_form ce [.lst (rs.map rowT), .fn a] = match badAt p 0 rs with
    | none => ret .non
    | some k => exn (exT ce.BadText k) := by
  have e := rf_loop (t := .lst (rs.map rowT)) (p := p) ha rs 0 .un .un h
  have en := enumD_map (c := rowT) 0 rs
  rw [← e]
  unfold rfB
  simp [f_require_form, m_require_form, en]
end
section
variable [Tbl]
theorem rng_cons9 (lo : Int) (n : Nat) : rng lo (n + 1) = lo :: rng (lo + 1) n := by
  unfold rng
  rw [List.range_succ_eq_map, List.map_cons, List.map_map]
  refine congr (congrArg _ (by simp)) (List.map_congr_left fun i _ => ?_)
  simp only [Function.comp]
  omega
def okRow (ws : List (List Nat)) : Bool := decide (ws.length = 3) && ws.all numB
theorem f_is_move_row_eq {ce : CE} {k : Nat} {ws : List (List Nat)} (h : ∀ w ∈ ws, w.length ≤ 9000) (hl : ws.length ≤ 50000) : f_is_move_row ce [.int k, rowT ws] = ret (.bl (okRow ws)) := by
  have e := f_are_numbers_eq (ce := ce) h hl
  have hln : lenD [rowT ws] = some (.int (ws.length : Int)) := by unfold rowT; simp
  by_cases h3 : ws.length = 3
  · have h4 : ((ws.length : Int) = 3) := by omega
    simp [f_is_move_row, m_is_move_row, hln, h4, e, okRow, h3]
  · have h4 : ¬ ((ws.length : Int) = 3) := by omega
    simp [f_is_move_row, m_is_move_row, hln, h4, e, okRow, h3]
def mvT (ws : List (List Nat)) : D := .tup ((ws.map valI).map .int)
theorem badAt_none {p : List (List Nat) → Bool} : ∀ {rs : List (List (List Nat))} {k : Nat}, badAt p k rs = none → ∀ r ∈ rs, p r = true
  | [], k, _, r, hr => nomatch hr
  | a :: rs, k, h, r, hr => by
    unfold badAt at h
    split at h
    · rename_i hp
      rcases List.mem_cons.mp hr with rfl | hr
      · exact hp
      · exact badAt_none h r hr
    · cases h
theorem numB_W {w : List Nat} (h : numB w = true) : numW w = true ∧ w.length ≤ 60 := by
  unfold numB at h
  simpa using h
def readM (ce : CE) (l : List Nat) : M D := if l = [] then ret (.lst []) else match badAt okRow 0 (rowsL l) with
  | none => ret (.lst ((rowsL l).map mvT))
  | some k => exn (exT ce.BadText k)
theorem f_read_moves_eq {ce : CE} {l : List Nat} (h : l.length ≤ 8000) : f_read_moves ce [tx l] = readM ce l := by
  unfold readM
  by_cases e0 : l = []
  · subst e0
    simp [f_read_moves, m_read_moves, s_em, eqD_tx]
  · have e1 := f_rows_of_eq (ce := ce) (l := l) (by omega)
    have hw : ∀ r ∈ rowsL l, (∀ w ∈ r, w.length ≤ 9000) ∧ r.length ≤ 50000 := fun r hr => ⟨fun w hw => by have := (rowsL_len hr).2 w hw; omega, by have := (rowsL_len hr).1; omega⟩
    have e2 := f_require_form_eq (ce := ce) (a := ce.is_move_row) (mf := f_is_move_row ce) (p := okRow) (if_pos rfl) (rs := rowsL l) fun r hr k => f_is_move_row_eq (hw r hr).1 (hw r hr).2
    have hc := rowsL_count l
    rw [if_neg e0]
    cases hb : badAt okRow 0 (rowsL l) with
    | some k =>
      rw [hb] at e2
      simp [f_read_moves, m_read_moves, s_em, eqD_tx, e0, m_read_moves_1, e1, m_read_moves_2, e2]
    | none =>
      rw [hb] at e2
      have hk := badAt_none hb
      simp [f_read_moves, m_read_moves, s_em, eqD_tx, e0, m_read_moves_1, e1, m_read_moves_2, e2, m_read_moves_3]
      rw [M.grd_pos (by omega), lcGo_all (h := mvT) (e := fun r => [rowT r])]
      · simp
      · intro r hr
        refine ⟨rfl, rfl, ?_⟩
        have h3 := hk r hr
        unfold okRow at h3
        simp only [Bool.and_eq_true, decide_eq_true_eq, List.all_eq_true] at h3
        simp [rowT]
        rw [M.grd_pos (by omega), lcGo_all (h := fun w => .int (valI w)) (e := fun w => [tx w])]
        · have := tupD_intsF (r.map valI)
          rw [List.map_map] at this
          simp [mvT, Function.comp_def] at this ⊢
          simp [this]
        · intro w hw
          refine ⟨rfl, rfl, ?_⟩
          have h5 := numB_W (h3.2 w hw)
          simp [intSD_tx h5.1 (show w.length ≤ 640 by omega)]
end
section
variable [Tbl]
theorem f_law_parts_sp {ce : CE} {l : List Nat} (h : l.length ≤ 9000) : f_law_parts ce [tx l, .str " "] = ret (.lst ((pts 32 [] l).map tx)) := by rw [s_sp]; exact f_law_parts_eq h
theorem f_law_parts_nl {ce : CE} {l : List Nat} (h : l.length ≤ 9000) : f_law_parts ce [tx l, .str "\n"] = ret (.lst ((pts 10 [] l).map tx)) := by rw [s_nl]; exact f_law_parts_eq h
theorem minI_neg {ws : List (List Nat)} (h : ws ≠ []) : decide (minI (ws.map valI) < 0) = !ws.all numW := by
  have hs := minI_spec (ns := ws.map valI) (by rw [List.length_map]; exact List.length_pos_iff.mpr h)
  cases ha : ws.all numW with
  | true =>
    rw [List.all_eq_true] at ha
    obtain ⟨w, hw, e⟩ := List.mem_map.mp hs.1
    rw [← e, valI_yes (ha w hw)]
    simp
  | false =>
    obtain ⟨w, hw, e⟩ := List.all_eq_false.mp ha
    have h1 := hs.2 (valI w) (List.mem_map_of_mem hw)
    have h2 : valI w = -1 := by unfold valI; rw [if_neg e]
    simp; omega
def dueB (ce : CE) : Env → M Oc := (sSeq (sB 4 (mLst (mLc (mSeqL (mCallC 2 (f_law_parts ce) (aCons (m2 ixD (mVar 2) (mVar 3)) (aCons (mC (.str " ")) aNil)))) [5] gOne mYes (mCallC 1 (f_law_value ce) (aCons (mVar 5) aNil)) [5])))
  (sSeq (sIf (mTOr (mTest (m2 neD (mCb lenD (aCons (mVar 4) aNil)) (mC (.int 3)))) (mTest (m2 (cmpD fun i j => decide (i < j)) (mCb minLD (aCons (mVar 4) aNil)) (mC (.int 0))))) (sRet (mTup (aCons (mC (.str "text")) (aCons (mVarF 3) (aCons (mC (.str "form")) aNil))))) sNx)
  (sAppB 1 (mTup (aCons (mSc (m2 ixD (mVar 4) (mC (.int 0)))) (aCons (mSc (m2 ixD (mVar 4) (mC (.int 1)))) (aCons (mSc (m2 ixD (mVar 4) (mC (.int 2)))) aNil)))))))
def cellsT (p : List Nat) : D := .lst (((pts 32 [] p).map valI).map .int)
theorem cells_lc {ce : CE} {p : List Nat} {ve : VE} (h : p.length ≤ 8000) (h6 : ve.length = 6) : lcGo (ve.set 5 none) [5] gOne mYes (mCallC 1 (f_law_value ce) (aCons (mVar 5) aNil)) ((pts 32 [] p).map tx) = ret (((pts 32 [] p).map valI).map .int) := by
  match ve, h6 with
  | [a, b, c, d, e, f], _ =>
    rw [lcGo_all (h := fun w => .int (valI w)) (e := fun w => [tx w])]
    · rw [List.map_map]; rfl
    · intro w hw
      have h1 := pts_len p [] w hw
      simp only [List.length_nil] at h1
      refine ⟨rfl, rfl, ?_⟩
      simp [f_law_value_eq (ce := ce) (w := w) (by omega)]
theorem due_row {ce : CE} {t : D} {fd : List D} {P : List (List Nat)} {p : List Nat} {k : Nat} {s4 s5 : Slot} (hp : P[k]? = some p) (h : p.length ≤ 8000) (hfd : fd.length < 20000) (h60 : ∀ w ∈ pts 32 [] p, w.length ≤ 60) (e4 : ∃ b d, s4 = .sh b d ∨ s4 = .un) (e5 : s5 = .un) :
    dueB ce [.sh false t, .ow none true fd, .sh true (.lst (P.map tx)), .sh false (.int k), s4, s5] = if okRow (pts 32 [] p) = true then ret (.nx [.sh false t, .ow none true (fd ++ [mvT (pts 32 [] p)]), .sh true (.lst (P.map tx)), .sh false (.int k), .sh true (cellsT p), .un]) else ret (.rt [.sh false t, .ow none true fd, .sh true (.lst (P.map tx)), .sh false (.int k), .sh true (cellsT p), .un] (.tup [.str "text", .int k, .str "form"])) := by
  subst e5
  have hix : ixD (.lst (P.map tx)) (.int k) = some (tx p) := by rw [ixD_lst]; exact atI_nat (by rw [List.getElem?_map, hp]; rfl)
  have hpa := f_law_parts_sp (ce := ce) (l := p) (by omega)
  have hcl : ((pts 32 [] p).map tx).length ≤ 50000 := by have := pts_count (c := 32) p []; rw [List.length_map]; omega
  have ec : (sB 4 (mLst (mLc (mSeqL (mCallC 2 (f_law_parts ce) (aCons (m2 ixD (mVar 2) (mVar 3)) (aCons (mC (.str " ")) aNil)))) [5] gOne mYes (mCallC 1 (f_law_value ce) (aCons (mVar 5) aNil)) [5]))) [.sh false t, .ow none true fd, .sh true (.lst (P.map tx)), .sh false (.int k), s4, .un] = ret (.nx [.sh false t, .ow none true fd, .sh true (.lst (P.map tx)), .sh false (.int k), .sh true (cellsT p), .un]) := by
    have hv : ∃ x, vB [.sh false t, .ow none true fd, .sh true (.lst (P.map tx)), .sh false (.int k), s4, .un] = [some (false, t), some (false, .lst fd), some (false, .lst (P.map tx)), some (false, .int k), x, none] := by
      obtain ⟨b, d, rfl | rfl⟩ := e4
      · exact ⟨_, rfl⟩
      · exact ⟨_, rfl⟩
    obtain ⟨x, hv⟩ := hv
    have hl := cells_lc (ce := ce) (p := p) (ve := [some (false, t), some (false, .lst fd), some (false, .lst (P.map tx)), some (false, .int k), x, none]) h rfl
    rw [sB_ap, hv]
    simp only [mLst_ap, mLc_ap, mSeqL_ap, mCallC_ap, aCons_ap, aNil_ap, m2_ap, mVar_ap, mC_ap, getV_s, getV_z, Option.map_some, M.opt_some, M.bnd_ret, hix, List.length_cons, List.length_nil, Nat.reduceAdd, M.grd_true, hpa, calm_ret, tLs_lst, M.grd_pos hcl, wipeVE_cons, wipeVE_nil, hl]
    rfl
  unfold dueB
  rw [sSeq_ap, ec, M.bnd_ret]
  show sSeq _ _ _ = _
  have hln : lenD [cellsT p] = some (.int ((pts 32 [] p).length : Int)) := by unfold cellsT; simp
  generalize hws : pts 32 [] p = ws at h60 hln ⊢
  have hcT : cellsT p = .lst ((ws.map valI).map .int) := by unfold cellsT; rw [hws]
  have hall : ws.all numB = ws.all numW := by
    rw [Bool.eq_iff_iff, List.all_eq_true, List.all_eq_true]
    refine forall_congr' fun w => forall_congr' fun hw => ?_
    unfold numB
    simp [h60 w hw]
  by_cases h3 : ws.length = 3
  · have hne : ws ≠ [] := fun e => by rw [e] at h3; cases h3
    have hm : minLD [cellsT p] = some (.int (minI (ws.map valI))) := by rw [hcT]; exact minLD_ints (by simpa using hne)
    have hmi := minI_neg hne
    have h4 : ((ws.length : Int) = 3) := by omega
    cases ha : ws.all numW with
    | false =>
      rw [ha] at hmi
      have ho : okRow ws = false := by unfold okRow; rw [hall, ha]; simp
      rw [ho]
      have hm2 : minI (ws.map valI) < 0 := by simpa using hmi
      simp [hln, h4, hm, hm2]
    | true =>
      rw [ha] at hmi
      have ho : okRow ws = true := by unfold okRow; rw [hall, ha]; simp [h3]
      rw [ho]
      have hm2 : ¬ minI (ws.map valI) < 0 := by simpa using hmi
      have hg : fd.length < 100000 := by omega
      match ws, h3 with
      | [a, b, c], _ =>
        have i0 : ixD (cellsT p) (.int 0) = some (.int (valI a)) := by rw [hcT]; rfl
        have i1 : ixD (cellsT p) (.int 1) = some (.int (valI b)) := by rw [hcT]; rfl
        have i2 : ixD (cellsT p) (.int 2) = some (.int (valI c)) := by rw [hcT]; rfl
        simp only [List.map_cons, List.map_nil] at hm hm2
        simp [hln, hm, hm2, i0, i1, i2, M.grd_pos, hg, mvT]
  · have ho : okRow ws = false := by unfold okRow; simp [h3]
    have h4 : ¬ ((ws.length : Int) = 3) := by omega
    rw [ho]
    simp [hln, h4]
end
section
variable [Tbl]
def dueK (ce : CE) (o : Oc) : M D := bnd (thenM (m_law_due_4 ce) o) ocD
def dueO : Option Nat → List D → D
  | none, fd => .tup [.str "moves", .lst fd]
  | some k, _ => .tup [.str "text", .int k, .str "form"]
theorem due_loop {ce : CE} {t : D} {P : List (List Nat)} (hP : ∀ p ∈ P, p.length ≤ 8000 ∧ ∀ w ∈ pts 32 [] p, w.length ≤ 60) (hPl : P.length ≤ 9000) : ∀ (suf pre : List (List Nat)) (fd : List D) (s3 s4 : Slot), P = pre ++ suf → fd.length = pre.length → (∃ b d, s4 = .sh b d ∨ s4 = .un) →
    bnd (forGo [3] gOne (dueB ce) ((rng (pre.length : Int) suf.length).map D.int) [.sh false t, .ow none true fd, .sh true (.lst (P.map tx)), s3, s4, .un]) (dueK ce) = ret (dueO (badAt okRow pre.length (suf.map (pts 32 []))) (fd ++ (suf.map (pts 32 [])).map mvT))
  | [], pre, fd, s3, s4, e, hf, h4 => by
    show bnd (M.ret _) _ = _
    rw [M.bnd_ret]
    simp [dueK, m_law_due_4, badAt, dueO]
  | p :: suf, pre, fd, s3, s4, e, hf, h4 => by
    have hk : P[pre.length]? = some p := by rw [e]; simp
    have hm : p ∈ P := by rw [e]; simp
    have hl : pre.length < P.length := by rw [e]; simp
    have hb := due_row (ce := ce) (t := t) (fd := fd) (P := P) (p := p) (k := pre.length) (s4 := s4) (s5 := .un) hk (hP p hm).1 (by omega) (hP p hm).2 h4 rfl
    rw [List.length_cons, rng_cons9, List.map_cons, forGo, show gOne (.int (pre.length : Int)) = some [.int (pre.length : Int)] from rfl, M.opt_some, M.bnd_ret]
    show bnd (bnd (dueB ce [.sh false t, .ow none true fd, .sh true (.lst (P.map tx)), .sh false (.int (pre.length : Int)), s4, .un]) _) _ = _
    rw [hb, List.map_cons, badAt]
    cases ho : okRow (pts 32 [] p) with
    | true =>
      have ih := due_loop (ce := ce) (t := t) hP hPl suf (pre ++ [p]) (fd ++ [mvT (pts 32 [] p)]) (.sh false (.int pre.length)) (.sh true (cellsT p)) (by rw [e]; simp) (by simp [hf]) ⟨_, _, .inl rfl⟩
      rw [if_pos rfl, M.bnd_ret, if_pos rfl]
      have e1 : ((pre ++ [p]).length : Int) = (pre.length : Int) + 1 := by simp
      rw [e1] at ih
      show bnd (forGo _ _ _ _ _) _ = _
      rw [ih]
      simp
    | false =>
      rw [if_neg (by simp), M.bnd_ret, if_neg (by simp)]
      rfl
/-- every word is short -/
def Short (l : List Nat) : Prop := l.length ≤ 8000 ∧ ∀ r ∈ rowsL l, ∀ w ∈ r, w.length ≤ 60
def dueL (l : List Nat) : D := if l = [] then .tup [.str "moves", .lst []] else dueO (badAt okRow 0 (rowsL l)) ((rowsL l).map mvT)
theorem f_law_due_eq {ce : CE} {l : List Nat} (h : Short l) : f_law_due ce [tx l] = ret (dueL l) := by
  have hl : lenD [tx l] = some (.int (l.length : Int)) := lenD_tx (by have := h.1; omega)
  unfold dueL
  by_cases e0 : l = []
  · subst e0
    simp [f_law_due, m_law_due, hl]
  · have e1 : ¬ ((l.length : Int) = 0) := by have := List.length_pos_iff.mpr e0; omega
    have hc := pts_count (c := 10) l []
    have h8 := h.1
    have hP : ∀ p ∈ pts 10 [] l, p.length ≤ 8000 ∧ ∀ w ∈ pts 32 [] p, w.length ≤ 60 := fun p hp => by
      have h1 := pts_len l [] p hp
      simp only [List.length_nil] at h1
      exact ⟨by omega, h.2 _ (List.mem_map_of_mem hp)⟩
    have e := due_loop (ce := ce) (t := tx l) hP (by omega) (pts 10 [] l) [] [] .un .un rfl rfl ⟨true, .non, .inr rfl⟩
    unfold dueK dueB at e
    simp only [List.length_nil, Int.ofNat_zero, List.nil_append] at e
    have er : rng1D [.int ((pts 10 [] l).length : Int)] = some ((rng 0 (pts 10 [] l).length).map D.int) := rng1D_eq (n := ((pts 10 [] l).length : Int)) (by omega)
    have hpn := f_law_parts_nl (ce := ce) (l := l) (by omega)
    rw [if_neg e0]
    have ef : f_law_due ce [tx l] = bnd (m_law_due_3 ce [.sh false (tx l), .ow none true [], .sh true (.lst ((pts 10 [] l).map tx)), .un, .un, .un]) ocD := by
      simp [f_law_due, m_law_due, hl, e1, e0, m_law_due_1, m_law_due_2, hpn]
    rw [ef]
    have hl2 : lenD [.lst ((pts 10 [] l).map tx)] = some (.int ((pts 10 [] l).length : Int)) := by simp
    unfold m_law_due_3
    simp only [sSeq_ap (ρ := [Slot.sh false (tx l), .ow none true [], .sh true (.lst ((pts 10 [] l).map tx)), .un, .un, .un]), sForR_ap, mRg_ap, mCb_ap, aCons_ap, aNil_ap, mVar_ap, vB_sh, vB_ow, vB_un, vB_nil, getV_s, getV_z, Option.map_some, M.opt_some, M.bnd_ret, hl2, er, M.bnd_bnd]
    exact e
end
section
variable [Tbl]
theorem f_law_read_eq {ce : CE} {l : List Nat} (h : Short l) : f_law_read ce [tx l] = ret (dueL l) := by
  have e := f_read_moves_eq (ce := ce) h.1
  unfold readM at e
  unfold dueL
  by_cases e0 : l = []
  · rw [if_pos e0] at e ⊢
    simp [f_law_read, m_law_read, m_law_read_1, m_law_read_2, e]
  · rw [if_neg e0] at e ⊢
    cases hb : badAt okRow 0 (rowsL l) with
    | none =>
      rw [hb] at e
      simp [f_law_read, m_law_read, m_law_read_1, m_law_read_2, e, dueO]
    | some k =>
      rw [hb] at e
      have hne : ¬ (Str.ofString "why" = Str.ofString "row") := by decide +kernel
      simp [f_law_read, m_law_read, m_law_read_1, m_law_read_2, e, exT, mHand, outU, dueO, lookF, hne]
theorem f_law_base_eq {ce : CE} {l : List Nat} (h : Short l) : f_law_base ce [tx l] = ret (.bl (decide (l ≠ []) && (badAt okRow 0 (rowsL l)).isSome)) := by
  have e := f_read_moves_eq (ce := ce) h.1
  unfold readM at e
  by_cases e0 : l = []
  · rw [if_pos e0] at e
    subst e0
    simp [f_law_base, m_law_base, m_law_base_1, m_law_base_2, e]
  · rw [if_neg e0] at e
    cases hb : badAt okRow 0 (rowsL l) with
    | none =>
      rw [hb] at e
      simp [f_law_base, m_law_base, m_law_base_1, m_law_base_2, e]
    | some k =>
      rw [hb] at e
      simp [f_law_base, m_law_base, m_law_base_1, m_law_base_2, e, exT, mHand, outU, lookF, e0]
/-! ### the moves as they are written -/
abbrev Mv := Nat × Nat × Nat
def mvN (m : Mv) : List Nat := [m.1, m.2.1, m.2.2]
def mvD (m : Mv) : D := .tup ((mvN m).map fun n : Nat => D.int (n : Int))
def wordsOf (m : Mv) : List (List Nat) := (mvN m).map TL.numL
def writ (ms : List Mv) : List Nat := TL.joinL [10] (ms.map fun m => TL.joinL [32] (wordsOf m))
def SmallM (m : Mv) : Prop := ∀ n ∈ mvN m, n < 10 ^ 60
theorem numL_len60 {n : Nat} (h : n < 10 ^ 60) : (TL.numL n).length ≤ 60 := TL.numL_len (by decide) h
theorem row_len {m : Mv} (h : SmallM m) : (TL.joinL [32] (wordsOf m)).length ≤ 183 := by
  have := joinL_len (s := [32]) (ws := wordsOf m) (n := 60) (fun w hw => by
    obtain ⟨n, hn, rfl⟩ := List.mem_map.mp hw
    exact numL_len60 (h n hn))
  simpa [wordsOf, mvN] using this
theorem writ_len {ms : List Mv} (h : ∀ m ∈ ms, SmallM m) (hl : ms.length ≤ 20) : (writ ms).length ≤ 8000 := by
  have := joinL_len (s := [10]) (ws := ms.map fun m => TL.joinL [32] (wordsOf m)) (n := 183) (fun w hw => by
    obtain ⟨m, hm, rfl⟩ := List.mem_map.mp hw
    exact row_len (h m hm))
  rw [List.length_map] at this
  simp only [List.length_cons, List.length_nil] at this
  unfold writ
  omega
theorem join3 (a b c : List Nat) : TL.joinL [32] [a, b, c] = a ++ (32 :: (b ++ (32 :: c))) := by
  rw [joinL_cons, joinL_cons, joinL_one]; rfl
theorem fs3 {a b c : Nat} {ve : VE} (ha : a < 10 ^ 60) (hb : b < 10 ^ 60) (hc : c < 10 ^ 60) (h1 : getV ve 1 = some (.int (a : Int))) (h2 : getV ve 2 = some (.int (b : Int))) (h3 : getV ve 3 = some (.int (c : Int))) :
    mJs [(mFmt (mVar 1)), (mC (.str " ")), (mFmt (mVar 2)), (mC (.str " ")), (mFmt (mVar 3))] Str.empty ve = ret (tx (TL.joinL [32] [TL.numL a, TL.numL b, TL.numL c])) := by
  have la := numL_len60 ha; have lb := numL_len60 hb; have lc := numL_len60 hc
  have fa := fmtD_num (n := a) (by omega); have fb := fmtD_num (n := b) (by omega); have fc := fmtD_num (n := c) (by omega)
  have e0 : Str.empty = SX.S [] := by decide
  rw [e0, join3]
  simp only [mJs_cons, mJs_nil, mFmt_ap, mVar_ap, mC_ap, s_sp, h1, h2, h3, fa, fb, fc, M.opt_some, M.bnd_ret, strO_tx, SX.S_cat, SX.S_len]
  rw [M.grd_pos (by simp; omega), M.grd_pos (by simp; omega), M.grd_pos (by simp; omega), M.grd_pos (by simp; omega), M.grd_pos (by simp; omega)]
  simp [tx]
theorem f_write_moves_eq {ce : CE} {ms : List Mv} (h : ∀ m ∈ ms, SmallM m) (hl : ms.length ≤ 20) : f_write_moves ce [.lst (ms.map mvD)] = ret (tx (writ ms)) := by
  simp [f_write_moves, m_write_moves]
  rw [M.grd_pos (by omega), lcGo_all (h := fun m => tx (TL.joinL [32] (wordsOf m))) (e := fun m => (mvN m).map fun n : Nat => D.int (n : Int))]
  · have ej : joinD (tx [10]) (.lst ((ms.map fun m => TL.joinL [32] (wordsOf m)).map tx)) = some (tx (writ ms)) := joinD_tx (n := 183) (fun y hy => by
      obtain ⟨m, hm, rfl⟩ := List.mem_map.mp hy
      exact row_len (h m hm)) (by rw [List.length_map]; simp only [List.length_cons, List.length_nil]; omega)
    rw [List.map_map] at ej
    simp only [Function.comp_def] at ej
    simp [s_nl, ej]
  · intro m hm
    obtain ⟨a, b, c⟩ := m
    have hs := h _ hm
    unfold SmallM mvN at hs
    simp only [List.mem_cons, List.not_mem_nil, or_false, forall_eq_or_imp, forall_eq] at hs
    refine ⟨rfl, rfl, ?_⟩
    exact fs3 hs.1 hs.2.1 hs.2.2 rfl rfl rfl
theorem wordsOf_free {m : Mv} {c : Nat} (hc : c < 48) : ∀ w ∈ wordsOf m, c ∉ w := fun w hw => by
  obtain ⟨n, hn, rfl⟩ := List.mem_map.mp hw
  exact TL.numL_free (.inl hc)
theorem writ_rows {ms : List Mv} (h : ms ≠ []) : rowsL (writ ms) = ms.map wordsOf := by
  unfold rowsL writ
  rw [pts_joinF _ (by simpa using h) (fun w hw => by
    obtain ⟨m, hm, rfl⟩ := List.mem_map.mp hw
    exact joinL_free (by decide) (wordsOf_free (by decide))), List.map_map]
  refine List.map_congr_left fun m hm => ?_
  exact pts_joinF _ (by simp [wordsOf, mvN]) (wordsOf_free (by decide))
theorem writ_short {ms : List Mv} (h : ∀ m ∈ ms, SmallM m) (hl : ms.length ≤ 20) : (writ ms).length ≤ 8000 := writ_len h hl
theorem numB_numL {n : Nat} (h : n < 10 ^ 60) : numB (TL.numL n) = true := by
  unfold numB
  rw [numW_numL]
  simpa using numL_len60 h
theorem badAt_all {p : List (List Nat) → Bool} : ∀ {rs : List (List (List Nat))} {k : Nat}, (∀ r ∈ rs, p r = true) → badAt p k rs = none
  | [], _, _ => rfl
  | r :: rs, k, h => by
    unfold badAt
    rw [if_pos (h r (by simp))]
    exact badAt_all fun x hx => h x (List.mem_cons_of_mem _ hx)
theorem okRow_words {m : Mv} (h : SmallM m) : okRow (wordsOf m) = true := by
  unfold okRow
  rw [Bool.and_eq_true]
  refine ⟨by simp [wordsOf, mvN], List.all_eq_true.mpr fun w hw => ?_⟩
  obtain ⟨n, hn, rfl⟩ := List.mem_map.mp hw
  exact numB_numL (h n hn)
theorem mvT_words (m : Mv) : mvT (wordsOf m) = mvD m := by
  unfold mvT wordsOf mvD
  simp [Function.comp_def, valI_numL]
theorem writ_ne {ms : List Mv} (h : ms ≠ []) : writ ms ≠ [] := by
  match ms, h with
  | m :: r, _ =>
    intro e
    have e2 : rowsL (writ (m :: r)) = (m :: r).map wordsOf := writ_rows (by simp)
    rw [e] at e2
    have e3 : rowsL [] = [[[]]] := rfl
    rw [e3] at e2
    have e4 := List.cons.inj e2
    have e5 := congrArg List.length e4.1
    simp [wordsOf, mvN] at e5
theorem f_read_writ {ce : CE} {ms : List Mv} (h : ∀ m ∈ ms, SmallM m) (hl : ms.length ≤ 20) : f_read_moves ce [tx (writ ms)] = ret (.lst (ms.map mvD)) := by
  rw [f_read_moves_eq (writ_len h hl)]
  unfold readM
  by_cases e : ms = []
  · subst e; rfl
  · rw [if_neg (writ_ne e), writ_rows e, badAt_all (fun r hr => by
      obtain ⟨m, hm, rfl⟩ := List.mem_map.mp hr
      exact okRow_words (h m hm))]
    simp [Function.comp_def, mvT_words]
end
section
variable [Tbl]
theorem cTo {α : Type} {c : α → D} {xs : List α} {i : Int} (h0 : 0 ≤ i) (h : i ≤ xs.length) : cutD (xs.map c) none (some i) = (xs.take i.toNat).map c := by rw [cutI_to h0 (by rw [List.length_map]; omega), List.map_take]
theorem cFrom {α : Type} {c : α → D} {xs : List α} {i : Int} (h0 : 0 ≤ i) : cutD (xs.map c) (some i) none = (xs.drop i.toNat).map c := by rw [cutI_from h0, List.map_drop]
theorem addC {α : Type} {c : α → D} {xs ys : List α} (h : xs.length + ys.length ≤ 100000) : addD (.lst (xs.map c)) (.lst (ys.map c)) = some (.lst ((xs ++ ys).map c)) := by
  rw [List.map_append]
  exact addD_lst (by rw [List.length_map, List.length_map]; exact h)
theorem addC1 {α : Type} {c : α → D} {xs : List α} {y : α} (h : xs.length + 1 ≤ 100000) : addD (.lst (xs.map c)) (.lst [c y]) = some (.lst ((xs ++ [y]).map c)) := addC (ys := [y]) h
theorem ex_map {α : Type} {c : α → D} {P : α → Prop} : ∀ {ds : List D}, (∀ d ∈ ds, ∃ w, d = c w ∧ P w) → ∃ ws : List α, ds = ws.map c ∧ (∀ w ∈ ws, P w) ∧ ws.length = ds.length
  | [], _ => ⟨[], rfl, (fun _ h => nomatch h), rfl⟩
  | d :: ds, h => by
    obtain ⟨w, rfl, hw⟩ := h _ List.mem_cons_self
    obtain ⟨ws, rfl, h2, h3⟩ := ex_map (ds := ds) fun x hx => h x (List.mem_cons_of_mem _ hx)
    exact ⟨w :: ws, rfl, List.forall_mem_cons.mpr ⟨hw, h2⟩, by simp⟩
theorem str_tx (z : Str) : D.str z = tx z.cps.toList := rfl
theorem ixD_txi {l : List Nat} {i : Int} (hl : l.length ≤ 100000) (h0 : 0 ≤ i) (h1 : i < l.length) : ∃ c ∈ l, ixD (tx l) (.int i) = some (tx [c]) := by
  have e : ixD (tx l) (.int i) = if (SX.S l).length ≤ 100000 then (atI l i).map fun c => .str ⟨#[c]⟩ else none := rfl
  obtain ⟨c, hc⟩ := List.getElem?_eq_some_iff.mpr ⟨show i.toNat < l.length by omega, rfl⟩ |> fun h => (⟨_, h⟩ : ∃ c, l[i.toNat]? = some c)
  refine ⟨c, List.mem_of_getElem? hc, ?_⟩
  rw [e, SX.S_len, if_pos hl, atI_get h0 hc]
  rfl
/-- a word that is drawn: short, without a newline -/
def Wd (n : Nat) (w : List Nat) : Prop := w.length ≤ n ∧ 10 ∉ w
theorem Wd.mono {m n : Nat} {w : List Nat} (h : Wd m w) (hm : m ≤ n) : Wd n w := ⟨Nat.le_trans h.1 hm, h.2⟩
def signsL : List Nat := (Str.ofString "!\"#$&'()*+,-./0123456789:;<=>?@ABCDEFGHIJKLMNOPQRSTUVWXYZ[\\]^_`abcdefghijklmnopqrstuvwxyz{|}~").cps.toList
theorem signs_len : signsL.length = 93 := by decide +kernel
theorem signs_nl : 10 ∉ signsL := by decide +kernel
def menuS : List Str := ["-1", "+1", "01", "00", "1a", "a1", "1.0", "0x1", "one", "1_0", "-0", "1,", "None", "family"]
theorem menu_ok : ∀ z ∈ menuS, z.cps.toList.length ≤ 8 ∧ 10 ∉ z.cps.toList := by decide +kernel
theorem odd_ok {ce : CE} : Ok (f_law_odd ce [.pool]) fun d => ∃ w, d = tx w ∧ Wd 8 w := by
  have hs : ∀ z : Str, z = (Str.ofString "!\"#$&'()*+,-./0123456789:;<=>?@ABCDEFGHIJKLMNOPQRSTUVWXYZ[\\]^_`abcdefghijklmnopqrstuvwxyz{|}~") → D.str z = tx signsL := fun z e => by rw [e]; rfl
  have e0 : f_law_odd ce [.pool] = bnd (m_law_odd_1 ce [.sh false .pool, .sh true (tx signsL), .un, .un]) ocD := by
    simp only [f_law_odd, m_law_odd, hs _ rfl, mDef_ap, List.map_cons, List.map_nil, List.length_cons, List.length_nil, Nat.reduceAdd, Nat.reduceSub, List.replicate, List.cons_append, List.nil_append, sSeq_ap, sB_ap, mC_ap, M.bnd_ret, thenM_nx, List.set_cons_succ, List.set_cons_zero]
  have hl : lenD [tx signsL] = some (.int 93) := by rw [lenD_tx (by rw [signs_len]; decide), signs_len]; rfl
  rw [e0]
  simp [m_law_odd_1, f_law_draw]
  refine Ok.drawB (by omega) (by omega) fun w w0 w1 => ?_
  by_cases c : w = 0
  · simp [c]
    refine Ok.drawB (by omega) (by omega) fun x x0 x1 => ?_
    have er : rng1D [.int (1 + x)] = some ((rng 0 (1 + x).toNat).map D.int) := rng1D_eq ⟨by omega, by omega⟩
    simp [er]
    refine Ok.grd (by rw [rng_length]; omega) ?_
    refine Ok.bnd (Ok.lc (P := fun d => ∃ w, d = tx w ∧ Wd 1 w) ?_) ?_
    · intro d hd
      obtain ⟨k, hk, rfl⟩ := List.mem_map.mp hd
      refine ⟨_, rfl, rfl, ?_⟩
      simp [f_law_draw, hl]
      refine Ok.drawB (by omega) (by omega) fun y y0 y1 => ?_
      obtain ⟨s, hs, e⟩ := ixD_txi (l := signsL) (i := y) (by rw [signs_len]; decide) y0 (by rw [signs_len]; omega)
      rw [e]
      exact Ok.ret ⟨_, rfl, by simp, fun h => by
        have : 10 = s := List.mem_singleton.mp h
        exact signs_nl (this ▸ hs)⟩
    · rintro ds ⟨hn, hd⟩
      obtain ⟨ws, rfl, h2, h3⟩ := ex_map hd
      rw [List.length_map, List.length_map, rng_length] at hn
      have hj : joinD (tx []) (.lst (ws.map tx)) = some (tx (TL.joinL [] ws)) := joinD_tx (n := 1) (fun y hy => (h2 y hy).1) (by simp; omega)
      simp [s_em, hj]
      refine Ok.ret ⟨_, rfl, ?_, joinL_free (by simp) fun y hy => (h2 y hy).2⟩
      have := joinL_len (s := []) (ws := ws) (n := 1) (fun y hy => (h2 y hy).1)
      simp at this
      omega
  · simp [c]
    have em : ∀ i : Int, 0 ≤ i → i < 14 → ∃ w, atI (menuS.map D.str) i = some (tx w) ∧ Wd 8 w := fun i i0 i1 => by
      have hlen : menuS.length = 14 := by decide
      have hk : i.toNat < menuS.length := by omega
      have hg : menuS[i.toNat]? = some menuS[i.toNat] := List.getElem?_eq_getElem hk
      refine ⟨menuS[i.toNat].cps.toList, ?_, menu_ok _ (List.getElem_mem hk)⟩
      rw [← str_tx]
      exact atI_get i0 (by rw [List.getElem?_map, hg]; rfl)
    unfold menuS at em
    simp only [List.map_cons, List.map_nil] at em
    simp [m_law_odd_2, m_law_odd_3, f_law_draw]
    refine Ok.drawB (by omega) (by omega) fun y y0 y1 => ?_
    obtain ⟨w, e, hw⟩ := em y y0 (by omega)
    rw [e]
    simp
    exact Ok.ret ⟨_, rfl, hw⟩
/-- a row of words -/
def WI (n : Nat) (ws : List (List Nat)) : Prop := ws.length ≤ 3 + n ∧ ∀ w ∈ ws, Wd (41 + n) w
theorem WI.splice {n k j m : Nat} {ws vs : List (List Nat)} (h : WI n ws) (hv : ∀ w ∈ vs, Wd (41 + m) w) (hm : n ≤ m) (hl : (ws.take k ++ vs ++ ws.drop j).length ≤ 3 + m) : WI m (ws.take k ++ vs ++ ws.drop j) := by
  refine ⟨hl, fun w hw => ?_⟩
  rcases List.mem_append.mp hw with hw | hw
  · rcases List.mem_append.mp hw with hw | hw
    · exact (h.2 w (List.mem_of_mem_take hw)).mono (by omega)
    · exact hv w hw
  · exact (h.2 w (List.mem_of_mem_drop hw)).mono (by omega)
theorem words_ok {ce : CE} {n : Nat} {ws : List (List Nat)} (h : WI n ws) (hn : n ≤ 100) : Ok (f_law_words ce [.pool, rowT ws]) fun d => ∃ vs, d = rowT vs ∧ WI (n + 1) vs := by
  have h1 := h.1
  unfold rowT
  simp [f_law_words, m_law_words, f_law_draw, m_law_words_1]
  refine Ok.drawB (by omega) (by omega) fun way y0 y1 => ?_
  refine Ok.drawB (by omega) (by omega) fun i i0 i1 => ?_
  have t1 := cTo (c := tx) (xs := ws) (i := i) i0 (by omega)
  have t2 := cFrom (c := tx) (xs := ws) (i := i) i0
  have t3 := cFrom (c := tx) (xs := ws) (i := i + 1) (by omega)
  have lt : (ws.take i.toNat).length ≤ 3 + n := by rw [List.length_take]; omega
  have put : ∀ v : List Nat, Wd (41 + (n + 1)) v → ∀ j : Int, 0 ≤ j → j ≤ ws.length → (ws.take i.toNat).length + 1 + (ws.drop j.toNat).length ≤ 3 + (n + 1) →
      Ok (bnd (opt (addD (.lst ((ws.take i.toNat).map tx)) (.lst [tx v]))) fun a => bnd (opt (addD a (.lst ((ws.drop j.toNat).map tx)))) fun a => ret a) fun d => ∃ vs, d = .lst (vs.map tx) ∧ WI (n + 1) vs := fun v hv j j0 j1 hl => by
    have b1 := addC1 (c := tx) (xs := ws.take i.toNat) (y := v) (by omega)
    have b2 := addC (c := tx) (xs := ws.take i.toNat ++ [v]) (ys := ws.drop j.toNat) (by rw [List.length_append, List.length_singleton]; omega)
    rw [b1, M.opt_some, M.bnd_ret, b2, M.opt_some, M.bnd_ret]
    exact Ok.ret ⟨_, rfl, h.splice (k := i.toNat) (j := j.toNat) (fun w hw => by rw [List.mem_singleton.mp hw]; exact hv) (by omega) (by rw [List.length_append, List.length_append, List.length_singleton]; omega)⟩
  have cut : ∀ a b : Int, 0 ≤ a → 0 ≤ b → (ws.take a.toNat).length + (ws.drop b.toNat).length ≤ 3 + (n + 1) →
      Ok (bnd (opt (addD (.lst ((ws.take a.toNat).map tx)) (.lst ((ws.drop b.toNat).map tx)))) fun a => ret a) fun d => ∃ vs, d = .lst (vs.map tx) ∧ WI (n + 1) vs := fun a b a0 b0 hl => by
    have b2 := addC (c := tx) (xs := ws.take a.toNat) (ys := ws.drop b.toNat) (by omega)
    rw [b2, M.opt_some, M.bnd_ret]
    have hs := h.splice (m := n + 1) (k := a.toNat) (j := b.toNat) (vs := []) (fun w hw => nomatch hw) (by omega) (by rw [List.append_nil, List.length_append]; exact hl)
    rw [List.append_nil] at hs
    exact Ok.ret ⟨_, rfl, hs⟩
  by_cases c0 : way = 0
  · have hf := put [] ⟨by simp, by simp⟩ i i0 (by omega) (by rw [List.length_take, List.length_drop]; omega)
    simp [m_law_words_2, s_em, c0, t1, t2]
    rw [← List.map_take, ← List.map_drop]
    exact hf
  by_cases ci : i = ws.length
  · have hf := put [] ⟨by simp, by simp⟩ i i0 (by omega) (by rw [List.length_take, List.length_drop]; omega)
    subst ci
    simp [m_law_words_2, s_em, c0, t1, t2]
    simpa using hf
  have t4 := cTo (c := tx) (xs := ws) (i := i + 1) (by omega) (by omega)
  by_cases c1 : way = 1
  · simp [m_law_words_2, m_law_words_3, c0, ci, c1, t1, t2, t3]
    rw [← List.map_take, ← List.map_drop]
    exact cut i (i + 1) i0 (by omega) (by rw [List.length_take, List.length_drop]; omega)
  by_cases c2 : way = 2
  · simp [m_law_words_2, m_law_words_3, m_law_words_4, c0, ci, c1, c2, t1, t2, t3, t4]
    rw [← List.map_take, ← List.map_drop]
    exact cut (i + 1) i (by omega) i0 (by rw [List.length_take, List.length_drop]; omega)
  by_cases c3 : way = 3
  · simp [m_law_words_2, m_law_words_3, m_law_words_4, m_law_words_5, c0, ci, c1, c2, c3, t1, t2, t3, t4]
    refine Ok.calmB odd_ok fun d hd => ?_
    obtain ⟨w, rfl, hw⟩ := hd
    rw [← List.map_take, ← List.map_drop]
    exact put w (hw.mono (by omega)) (i + 1) (by omega) (by omega) (by rw [List.length_take, List.length_drop]; omega)
  obtain ⟨w, hw⟩ : ∃ w, ws[i.toNat]? = some w := ⟨_, List.getElem?_eq_getElem (by omega)⟩
  have hm : Wd (41 + n) w := h.2 w (List.mem_of_getElem? hw)
  have hix : atI (ws.map tx) i = some (tx w) := atI_get i0 (by rw [List.getElem?_map, hw]; rfl)
  have s1 : D.str "-" = tx [45] := str_tx _
  have s2 : D.str "+" = tx [43] := str_tx _
  have s3 : D.str "a" = tx [97] := str_tx _
  have a1 : addD (tx [48]) (tx w) = some (tx ([48] ++ w)) := addD_tx (by have := hm.1; simp; omega)
  have a2 : addD (tx [45]) (tx w) = some (tx ([45] ++ w)) := addD_tx (by have := hm.1; simp; omega)
  have a3 : addD (tx [43]) (tx w) = some (tx ([43] ++ w)) := addD_tx (by have := hm.1; simp; omega)
  have a4 : addD (tx w) (tx [97]) = some (tx (w ++ [97])) := addD_tx (by have := hm.1; simp; omega)
  have hh := hm.2
  have hlw := hm.1
  simp [m_law_words_2, m_law_words_3, m_law_words_4, m_law_words_5, m_law_words_6, m_law_words_7, c0, ci, c1, c2, c3, hix, s1, s2, s3, s_0, a1, a2, a3, a4, f_law_draw]
  refine Ok.drawB (by omega) (by omega) fun k k0 k1 => ?_
  have hk : ∃ v, atI [tx (48 :: w), tx (45 :: w), tx (43 :: w), tx (w ++ [97])] k = some (tx v) ∧ Wd (41 + (n + 1)) v := by
    have : k = 0 ∨ k = 1 ∨ k = 2 ∨ k = 3 := by omega
    rcases this with rfl | rfl | rfl | rfl
    · exact ⟨_, rfl, by simp; omega, by simpa using hh⟩
    · exact ⟨_, rfl, by simp; omega, by simpa using hh⟩
    · exact ⟨_, rfl, by simp; omega, by simpa using hh⟩
    · exact ⟨_, rfl, by simp; omega, by simpa using hh⟩
  obtain ⟨v, hv, hvw⟩ := hk
  rw [hv]
  simp [m_law_words_8, t1, t3]
  rw [← List.map_take, ← List.map_drop]
  exact put v hvw (i + 1) (by omega) (by omega) (by rw [List.length_take, List.length_drop]; omega)
end
section
variable [Tbl]
/-- rows of words -/
def RI (n : Nat) (rs : List (List (List Nat))) : Prop := rs.length ≤ 8 + n ∧ ∀ r ∈ rs, WI n r
theorem WI.mono {m n : Nat} {r : List (List Nat)} (h : WI m r) (hm : m ≤ n) : WI n r := ⟨by have := h.1; omega, fun w hw => (h.2 w hw).mono (by omega)⟩
theorem RI.splice {n k j m : Nat} {ws vs : List (List (List Nat))} (h : RI n ws) (hv : ∀ w ∈ vs, WI m w) (hm : n ≤ m) (hl : (ws.take k ++ vs ++ ws.drop j).length ≤ 8 + m) : RI m (ws.take k ++ vs ++ ws.drop j) := by
  refine ⟨hl, fun w hw => ?_⟩
  rcases List.mem_append.mp hw with hw | hw
  · rcases List.mem_append.mp hw with hw | hw
    · exact (h.2 w (List.mem_of_mem_take hw)).mono hm
    · exact hv w hw
  · exact (h.2 w (List.mem_of_mem_drop hw)).mono hm
theorem bent_ok {ce : CE} {n : Nat} {rs : List (List (List Nat))} (h : RI n rs) (hn : n ≤ 100) : Ok (f_law_bent ce [.pool, .lst (rs.map rowT)]) fun d => ∃ vs, d = .lst (vs.map rowT) ∧ RI (n + 1) vs := by
  have h1 := h.1
  simp [f_law_bent, m_law_bent, f_law_draw]
  refine Ok.drawB (by omega) (by omega) fun way y0 y1 => ?_
  have put : ∀ (v : List (List Nat)), WI (n + 1) v → ∀ i j : Int, 0 ≤ i → i ≤ rs.length → 0 ≤ j → (rs.take i.toNat).length + 1 + (rs.drop j.toNat).length ≤ 8 + (n + 1) →
      Ok (bnd (opt (addD (.lst ((rs.take i.toNat).map rowT)) (.lst [rowT v]))) fun a => bnd (opt (addD a (.lst ((rs.drop j.toNat).map rowT)))) fun a => ret a) fun d => ∃ vs, d = .lst (vs.map rowT) ∧ RI (n + 1) vs := fun v hv i j i0 i1 j0 hl => by
    have b1 := addC1 (c := rowT) (xs := rs.take i.toNat) (y := v) (by omega)
    have b2 := addC (c := rowT) (xs := rs.take i.toNat ++ [v]) (ys := rs.drop j.toNat) (by rw [List.length_append, List.length_singleton]; omega)
    rw [b1, M.opt_some, M.bnd_ret, b2, M.opt_some, M.bnd_ret]
    exact Ok.ret ⟨_, rfl, h.splice (k := i.toNat) (j := j.toNat) (fun w hw => by rw [List.mem_singleton.mp hw]; exact hv) (by omega) (by rw [List.length_append, List.length_append, List.length_singleton]; omega)⟩
  have cut : ∀ a b : Int, 0 ≤ a → 0 ≤ b → (rs.take a.toNat).length + (rs.drop b.toNat).length ≤ 8 + (n + 1) →
      Ok (bnd (opt (addD (.lst ((rs.take a.toNat).map rowT)) (.lst ((rs.drop b.toNat).map rowT)))) fun a => ret a) fun d => ∃ vs, d = .lst (vs.map rowT) ∧ RI (n + 1) vs := fun a b a0 b0 hl => by
    have b2 := addC (c := rowT) (xs := rs.take a.toNat) (ys := rs.drop b.toNat) (by omega)
    rw [b2, M.opt_some, M.bnd_ret]
    have hs := h.splice (m := n + 1) (k := a.toNat) (j := b.toNat) (vs := []) (fun w hw => nomatch hw) (by omega) (by rw [List.append_nil, List.length_append]; exact hl)
    rw [List.append_nil] at hs
    exact Ok.ret ⟨_, rfl, hs⟩
  by_cases c0 : way = 0
  · simp [m_law_bent_1, c0, f_law_draw]
    refine Ok.drawB (by omega) (by omega) fun i i0 i1 => ?_
    have t1 := cTo (c := rowT) (xs := rs) (i := i) i0 (by omega)
    have t2 := cFrom (c := rowT) (xs := rs) (i := i) i0
    have hf := put [[]] ⟨by simp; omega, fun w hw => by rw [List.mem_singleton.mp hw]; exact ⟨by simp, by simp⟩⟩ i i i0 (by omega) i0 (by rw [List.length_take, List.length_drop]; omega)
    have e1 : D.lst [tx []] = rowT [[]] := rfl
    simp [s_em, t1, t2, e1]
    rw [← List.map_take, ← List.map_drop]
    exact hf
  have nil : Ok (M.ret (D.lst [])) fun d => ∃ vs, d = .lst (vs.map rowT) ∧ RI (n + 1) vs := Ok.ret ⟨[], rfl, by simp, fun w hw => nomatch hw⟩
  by_cases c1 : way = 1
  · simp [m_law_bent_1, m_law_bent_2, c0, c1]
    simpa using nil
  by_cases ce0 : rs = []
  · subst ce0
    simp [m_law_bent_1, m_law_bent_2, c0, c1]
    simpa using nil
  have hl0 := List.length_pos_iff.mpr ce0
  simp [m_law_bent_1, m_law_bent_2, c0, c1, ce0, m_law_bent_3, f_law_draw]
  refine Ok.drawB (by omega) (by omega) fun i i0 i1 => ?_
  have t1 := cTo (c := rowT) (xs := rs) (i := i) i0 (by omega)
  have t2 := cFrom (c := rowT) (xs := rs) (i := i) i0
  have t3 := cFrom (c := rowT) (xs := rs) (i := i + 1) (by omega)
  have t4 := cTo (c := rowT) (xs := rs) (i := i + 1) (by omega) (by omega)
  by_cases c2 : way = 2
  · simp [m_law_bent_4, c2, t1, t3]
    rw [← List.map_take, ← List.map_drop]
    exact cut i (i + 1) i0 (by omega) (by rw [List.length_take, List.length_drop]; omega)
  by_cases c3 : way = 3
  · simp [m_law_bent_4, m_law_bent_5, c2, c3, t2, t4]
    rw [← List.map_take, ← List.map_drop]
    exact cut (i + 1) i (by omega) i0 (by rw [List.length_take, List.length_drop]; omega)
  obtain ⟨w, hw⟩ : ∃ w, rs[i.toNat]? = some w := ⟨_, List.getElem?_eq_getElem (by omega)⟩
  have hm := h.2 w (List.mem_of_getElem? hw)
  have hix : atI (rs.map rowT) i = some (rowT w) := atI_get i0 (by rw [List.getElem?_map, hw]; rfl)
  simp [m_law_bent_4, m_law_bent_5, m_law_bent_6, c2, c3, hix, t1, t3]
  refine Ok.calmB (words_ok hm hn) fun d hd => ?_
  obtain ⟨v, rfl, hv⟩ := hd
  rw [← List.map_take, ← List.map_drop]
  exact put v hv i (i + 1) i0 (by omega) (by omega) (by rw [List.length_take, List.length_drop]; omega)
theorem cell_ok {ce : CE} : Ok (f_law_cell ce [.pool]) fun d => ∃ n : Nat, d = .int (n : Int) ∧ n < 10 ^ 60 := by
  have fin : ∀ i : Int, 0 ≤ i → i < 10 ^ 60 → Ok (M.ret (D.int i)) fun d => ∃ n : Nat, d = .int (n : Int) ∧ n < 10 ^ 60 := fun i h0 h1 => Ok.ret ⟨i.toNat, by rw [Int.toNat_of_nonneg h0], by omega⟩
  simp [f_law_cell, m_law_cell, f_law_draw]
  refine Ok.drawB (by omega) (by omega) fun way y0 y1 => ?_
  by_cases c0 : way = 0
  · simp [m_law_cell_1, c0, f_law_draw]
    refine Ok.drawB (by omega) (by omega) fun x x0 x1 => ?_
    simpa using fin x x0 (by omega)
  by_cases c1 : way = 1
  · simp [m_law_cell_1, m_law_cell_2, c0, c1, f_law_draw]
    refine Ok.drawB (by omega) (by omega) fun x x0 x1 => ?_
    simpa using fin (999999999999999999999999999999999999999999999999999999999999 - x) (by omega) (by omega)
  by_cases c2 : way = 2
  · simp [m_law_cell_1, m_law_cell_2, m_law_cell_3, c0, c1, c2, f_law_draw]
    refine Ok.drawB (by omega) (by omega) fun x x0 x1 => ?_
    simpa using fin (1000000000000 + x) (by omega) (by omega)
  simp [m_law_cell_1, m_law_cell_2, m_law_cell_3, m_law_cell_4, c0, c1, c2, f_law_draw]
  refine Ok.drawB (by omega) (by omega) fun x x0 x1 => ?_
  simpa using fin x x0 (by omega)
end
section
variable [Tbl]
theorem size_ok9 {ce : CE} : Ok (f_law_size ce [.pool, .int 4, .int 9]) fun d => ∃ i, d = .int i ∧ 0 ≤ i ∧ i ≤ 8 := by
  simp [f_law_size, m_law_size, f_law_draw]
  refine Ok.drawB (by omega) (by omega) fun w w0 w1 => ?_
  by_cases c : w = 0
  · simp [c]
    refine Ok.drawB (by omega) (by omega) fun x x0 x1 => ?_
    exact Ok.ret ⟨x, rfl, by omega, by omega⟩
  · simp [c, m_law_size_1, f_law_draw]
    refine Ok.drawB (by omega) (by omega) fun x x0 x1 => ?_
    exact Ok.ret ⟨_, rfl, by omega, by omega⟩
theorem Pl.tx {n : Nat} {l : List Nat} : Pl n (VL.tx l) := .sc rfl
theorem Pl.mvT {n : Nat} {ws : List (List Nat)} (h : ws.length ≤ 9000) : Pl (n + 1) (VL.mvT ws) := .tup (by simp; omega) fun d hd => by
  obtain ⟨x, _, rfl⟩ := List.mem_map.mp hd
  exact .sc rfl
theorem Pl.mvD {n : Nat} {m : Mv} : Pl (n + 1) (VL.mvD m) := by rw [← mvT_words]; exact .mvT (by simp [wordsOf, mvN])
theorem Pl.mvs {n : Nat} {ms : List Mv} (h : ms.length ≤ 50000) : Pl (n + 2) (.lst (ms.map VL.mvD)) := .lst (by rw [List.length_map]; exact h) fun d hd => by
  obtain ⟨m, _, rfl⟩ := List.mem_map.mp hd
  exact .mvD
theorem Pl.due {l : List Nat} (h : Short l) : Pl 8 (dueL l) := by
  have hc := rowsL_count l
  have h8 := h.1
  have hm : Pl 7 (.lst ((rowsL l).map VL.mvT)) := .lst (by rw [List.length_map]; omega) fun d hd => by
    obtain ⟨r, hr, rfl⟩ := List.mem_map.mp hd
    exact .mvT (by have := (rowsL_len hr).1; omega)
  unfold dueL
  split
  · exact .tup (by simp) fun d hd => by
      rcases List.mem_cons.mp hd with rfl | hd
      · exact .sc rfl
      · rw [List.mem_singleton.mp hd]; exact .lst (by simp) fun d hd => nomatch hd
  · cases badAt okRow 0 (rowsL l) with
    | none =>
      refine .tup (by simp) fun d hd => ?_
      rcases List.mem_cons.mp hd with rfl | hd
      · exact .sc rfl
      · rw [List.mem_singleton.mp hd]; exact hm
    | some k =>
      refine .tup (by simp) fun d hd => ?_
      rcases List.mem_cons.mp hd with rfl | hd
      · exact .sc rfl
      · rcases List.mem_cons.mp hd with rfl | hd
        · exact .sc rfl
        · rw [List.mem_singleton.mp hd]; exact .sc rfl
/-- the text of rows of words -/
def txtL (rs : List (List (List Nat))) : List Nat := TL.joinL [10] (rs.map (TL.joinL [32]))
theorem WI.text {n : Nat} {r : List (List Nat)} (h : WI n r) : (TL.joinL [32] r).length ≤ (3 + n) * (42 + n) := by
  have h1 := joinL_len (s := [32]) (ws := r) (n := 41 + n) fun w hw => (h.2 w hw).1
  simp only [List.length_cons, List.length_nil] at h1
  have h2 : r.length * (41 + n + (0 + 1)) ≤ (3 + n) * (42 + n) := Nat.mul_le_mul h.1 (by omega)
  omega
theorem pts_short {r : List (List Nat)} {n : Nat} (h : ∀ w ∈ r, w.length ≤ n) : ∀ p ∈ pts 32 [] (TL.joinL [32] r), p.length ≤ n := fun p hp => by
  by_cases e : r = []
  · subst e
    rw [joinL_nil, pts_nil, List.mem_singleton] at hp
    subst hp
    simp
  · rw [pts_join _ e] at hp
    obtain ⟨q, hq, hpq⟩ := List.mem_flatten.mp hp
    obtain ⟨w, hw, rfl⟩ := List.mem_map.mp hq
    have h1 := pts_len w [] p hpq
    simp only [List.length_nil] at h1
    have h2 := h w hw
    omega
theorem RI.short {rs : List (List (List Nat))} (h : RI 2 rs) : Short (txtL rs) := by
  have hr := h.1
  refine ⟨?_, fun r hr' w hw => ?_⟩
  · have h1 := joinL_len (s := [10]) (ws := rs.map (TL.joinL [32])) (n := 220) fun w hw => by
      obtain ⟨r, hr, rfl⟩ := List.mem_map.mp hw
      exact (h.2 r hr).text
    rw [List.length_map] at h1
    simp only [List.length_cons, List.length_nil] at h1
    unfold txtL
    omega
  · unfold rowsL txtL at hr'
    by_cases e : rs = []
    · subst e
      rw [List.map_nil, joinL_nil, pts_nil] at hr'
      rw [List.map_cons, List.map_nil, List.mem_singleton] at hr'
      subst hr'
      rw [pts_nil, List.mem_singleton] at hw
      subst hw
      simp
    · rw [pts_joinF _ (by simpa using e) fun w hw => by
        obtain ⟨r, hr, rfl⟩ := List.mem_map.mp hw
        exact joinL_free (by decide) fun w hw => ((h.2 r hr).2 w hw).2] at hr'
      rw [List.map_map] at hr'
      obtain ⟨q, hq, rfl⟩ := List.mem_map.mp hr'
      have := pts_short (r := q) (n := 43) (fun w hw => ((h.2 q hq).2 w hw).1) w hw
      omega
def words40 (m : Mv) : List (List Nat) := (mvN m).map fun n => TL.numL (n % 10 ^ 40)
theorem words40_ok (m : Mv) : WI 0 (words40 m) := by
  refine ⟨by simp [words40, mvN], fun w hw => ?_⟩
  obtain ⟨n, hn, rfl⟩ := List.mem_map.mp hw
  exact ⟨by have := TL.numL_len (n := n % 10 ^ 40) (k := 40) (by decide) (Nat.mod_lt _ (by decide)); omega, TL.numL_free (.inl (by decide))⟩
theorem due_zero {l : List Nat} : ∃ z ds, dueL l = .tup (.str z :: ds) ∧ (z = "moves" ∨ (z = "text" ∧ (decide (l ≠ []) && (badAt okRow 0 (rowsL l)).isSome) = true)) := by
  unfold dueL
  split
  · exact ⟨_, _, rfl, .inl rfl⟩
  · rename_i h
    cases hb : badAt okRow 0 (rowsL l) with
    | none => exact ⟨_, _, rfl, .inl rfl⟩
    | some k => exact ⟨_, _, rfl, .inr ⟨rfl, by simp [h]⟩⟩
theorem jk_mv {ms : List Mv} (hl : ms.length ≤ 1000) : jkOk 1000 (.lst (ms.map mvD)) = true := by
  have h1 : ∀ xs : List Mv, jkOks 1000 (xs.map mvD) = true := fun xs => by
    induction xs with
    | nil => rfl
    | cons x xs ih =>
      show (jkOk 1000 (mvD x) && jkOks 1000 (xs.map mvD)) = true
      rw [ih]
      rfl
  show (decide ((ms.map mvD).length ≤ 1000) && jkOks 1000 (ms.map mvD)) = true
  rw [h1, List.length_map]
  simpa using hl
theorem law_end {ce : CE} {ms : List Mv} (h : ∀ m ∈ ms, SmallM m) (hl : ms.length ≤ 20) {rs : List (List (List Nat))} (hr : RI 2 rs) (b4 : Bool) (s7 : Slot) : Ok (bnd (m_law_4 ce [.sh false .scr, .sh false .pool, .sh true (.lst (ms.map mvD)), .un, .sh b4 (.lst (rs.map rowT)), .un, .un, s7, .un, .un, .un, .un, .un, .un, .un]) ocD) fun d => d = .bl true := by
  have hs := hr.short
  have h1 := hr.1
  have hj : joinD (tx [10]) (.lst ((rs.map (TL.joinL [32])).map tx)) = some (tx (txtL rs)) := joinD_tx (n := 220) (fun w hw => by
    obtain ⟨r, hr2, rfl⟩ := List.mem_map.mp hw
    exact (hr.2 r hr2).text) (by rw [List.length_map]; simp only [List.length_cons, List.length_nil]; omega)
  have hjr : ∀ r ∈ rs, joinD (tx [32]) (rowT r) = some (tx (TL.joinL [32] r)) := fun r hr2 => by
    have hw := hr.2 r hr2
    have hw1 := hw.1
    exact joinD_tx (n := 43) (fun w hw2 => (hw.2 w hw2).1) (by simp only [List.length_cons, List.length_nil]; omega)
  have hdue := f_law_due_eq (ce := ce) hs
  have hread := f_law_read_eq (ce := ce) hs
  have hbase := f_law_base_eq (ce := ce) hs
  have hwr := f_write_moves_eq (ce := ce) h hl
  have hrd := f_read_writ (ce := ce) h hl
  have wj : joinD (tx [10]) (.lst ((ms.map fun m => TL.joinL [32] (wordsOf m)).map tx)) = some (tx (writ ms)) := joinD_tx (n := 183) (fun y hy => by
      obtain ⟨m, hm, rfl⟩ := List.mem_map.mp hy
      exact row_len (h m hm)) (by rw [List.length_map]; simp only [List.length_cons, List.length_nil]; omega)
  have wjr : ∀ m ∈ ms, joinD (tx [32]) (.lst ((wordsOf m).map tx)) = some (tx (TL.joinL [32] (wordsOf m))) := fun m hm => joinD_tx (n := 60) (fun y hy => by
    obtain ⟨n, hn, rfl⟩ := List.mem_map.mp hy
    exact numL_len60 (h m hm n hn)) (by simp [wordsOf, mvN])
  have hmp : Pl 8 (.lst (ms.map mvD)) := Pl.mvs (n := 6) (by omega)
  have s1 := sameF_refl hmp
  have s2 := sameF_refl (Pl.due hs)
  have s3 := sameF_refl (Pl.tx (n := 8) (l := writ ms))
  have hjk := jk_mv (ms := ms) (by omega)
  obtain ⟨z, ds, hz, hz2⟩ := due_zero (l := txtL rs)
  have e5 : bnd (m_law_4 ce [.sh false .scr, .sh false .pool, .sh true (.lst (ms.map mvD)), .un, .sh b4 (.lst (rs.map rowT)), .un, .un, s7, .un, .un, .un, .un, .un, .un, .un]) ocD = bnd (m_law_5 ce [.sh false .scr, .sh false .pool, .sh true (.lst (ms.map mvD)), .un, .sh b4 (.lst (rs.map rowT)), .un, .un, s7, .sh false (tx (txtL rs)), .un, .un, .un, .un, .un, .un]) ocD := by
    simp [m_law_4, vA_any]
    rw [M.grd_pos (by omega), lcGo_all (h := fun r => tx (TL.joinL [32] r)) (e := fun r => [rowT r])]
    · have hj2 := hj
      rw [List.map_map] at hj2
      simp only [Function.comp_def] at hj2
      simp [s_nl, hj2]
    · intro r hr2
      refine ⟨rfl, rfl, ?_⟩
      simp [s_sp, hjr r hr2, vA_any]
  rw [e5]
  have e6 : bnd (m_law_5 ce [.sh false .scr, .sh false .pool, .sh true (.lst (ms.map mvD)), .un, .sh b4 (.lst (rs.map rowT)), .un, .un, s7, .sh false (tx (txtL rs)), .un, .un, .un, .un, .un, .un]) ocD = bnd (m_law_7 ce [.sh false .scr, .sh false .pool, .sh true (.lst (ms.map mvD)), .un, .sh b4 (.lst (rs.map rowT)), .un, .un, s7, .sh false (tx (txtL rs)), .un, .sh true (dueL (txtL rs)), .sh false (tx (writ ms)), .un, .un, .un]) ocD := by
    simp [m_law_5, vA_any, vB_any, hdue, m_law_6]
    rw [M.grd_pos (by omega), lcGo_all (h := fun m => tx (TL.joinL [32] (wordsOf m))) (e := fun m => [mvD m])]
    · have hj2 := wj
      rw [List.map_map] at hj2
      simp only [Function.comp_def] at hj2
      simp [s_nl, hj2]
    · intro m hm
      refine ⟨rfl, rfl, ?_⟩
      have hsm := h m hm
      simp [s_sp, vA_any, mvD]
      rw [M.grd_pos (by simp [mvN]), lcGo_all (h := fun n : Nat => tx (TL.numL n)) (e := fun n => [.int (n : Int)])]
      · have hj3 := wjr m hm
        unfold wordsOf at hj3
        rw [List.map_map] at hj3
        simp only [Function.comp_def] at hj3
        simp [hj3, wordsOf]
      · intro n hn
        refine ⟨rfl, rfl, ?_⟩
        have hx := hsm n hn
        simp [vA_any, strID_num (n := n) (by omega)]
  rw [e6]
  generalize ms.map mvD = md at *
  generalize rs.map rowT = rd at *
  simp [m_law_7, vA_any, vB_any, hwr, f_law_same, s3, m_law_8, hrd, m_law_9, hjk, M.grd_pos, s1, m_law_10, m_law_11, m_law_12, hread, s2]
  have hix : ixD (dueL (txtL rs)) (.int 0) = some (.str z) := by rw [hz]; simp
  rw [hix]
  rcases hz2 with rfl | ⟨rfl, hb⟩
  · have hq : eqD (.str (Str.ofString "moves")) (.str (Str.ofString "text")) = some (.bl false) := by
      show some (D.bl (Str.ofString "moves" == Str.ofString "text")) = _
      exact congrArg (fun b => some (D.bl b)) (by decide +kernel)
    simp [hq, m_law_13, m_law_14, m_law_15, vA_any, vB_any, hrd, s1, hwr, s3, f_law_same]
    exact Ok.ret rfl
  · have hq : eqD (.str (Str.ofString "text")) (.str (Str.ofString "text")) = some (.bl true) := by
      show some (D.bl (Str.ofString "text" == Str.ofString "text")) = _
      exact congrArg (fun b => some (D.bl b)) (by decide +kernel)
    rw [hb] at hbase
    simp [hq, hbase, m_law_13, m_law_14, m_law_15, vA_any, vB_any, hrd, s1, hwr, s3, f_law_same]
    exact Ok.ret rfl
def lawI (ms : List Mv) (i : Nat) (ρ : Env) : Prop := ∃ rs s7 b, ρ = [.sh false .scr, .sh false .pool, .sh true (.lst (ms.map mvD)), .un, .sh b (.lst (rs.map rowT)), .un, .un, s7, .un, .un, .un, .un, .un, .un, .un] ∧ RI i rs
theorem law_true0 (ce : CE) : Ok (f_law ce [.scr]) fun d => d = .bl true := by
  simp [f_law, m_law, f_law_pool, poolF, m_law_1]
  refine Ok.calmB size_ok9 fun d hd => ?_
  obtain ⟨n, rfl, n0, n1⟩ := hd
  have er : rng1D [.int n] = some ((rng 0 n.toNat).map D.int) := rng1D_eq ⟨by omega, by omega⟩
  simp [er]
  refine Ok.grd (by rw [rng_length]; omega) ?_
  refine Ok.bnd (Ok.lc (P := fun d => ∃ m : Mv, d = mvD m ∧ SmallM m) ?_) ?_
  · intro d hd
    obtain ⟨k, hk, rfl⟩ := List.mem_map.mp hd
    refine ⟨_, rfl, rfl, ?_⟩
    simp
    refine Ok.calmB cell_ok fun d hd => ?_
    obtain ⟨a, rfl, ha⟩ := hd
    refine Ok.calmB cell_ok fun d hd => ?_
    obtain ⟨b, rfl, hb⟩ := hd
    refine Ok.calmB cell_ok fun d hd => ?_
    obtain ⟨c, rfl, hc⟩ := hd
    exact Ok.ret ⟨a, b, c, rfl, by
      unfold SmallM mvN
      simp only [List.mem_cons, List.not_mem_nil, or_false, forall_eq_or_imp, forall_eq]
      exact ⟨ha, hb, hc⟩⟩
  · rintro ds ⟨hn, hd⟩
    obtain ⟨ms, rfl, h2, h3⟩ := ex_map hd
    rw [List.length_map, List.length_map, rng_length] at hn
    have e2 : ∀ x : Slot, (m_law_2 ce [.sh false .scr, .sh false .pool, .sh true (.lst (ms.map mvD)), .un, .un, .un, .un, .un, .un, .un, .un, .un, .un, .un, .un]) = m_law_3 ce [.sh false .scr, .sh false .pool, .sh true (.lst (ms.map mvD)), .un, .sh true (.lst ((ms.map words40).map rowT)), .un, .un, .un, .un, .un, .un, .un, .un, .un, .un] := fun x => by
      simp [m_law_2, vA_any, vB_any]
      rw [M.grd_pos (by omega), lcGo_all (h := fun m => rowT (words40 m)) (e := fun m => [mvD m])]
      · simp [Function.comp_def]
      · intro m hm
        refine ⟨rfl, rfl, ?_⟩
        have hsm := h2 m hm
        simp [vA_any, mvD]
        rw [M.grd_pos (by simp [mvN]), lcGo_all (h := fun n : Nat => tx (TL.numL (n % 10 ^ 40))) (e := fun n => [.int (n : Int)])]
        · simp [rowT, words40, Function.comp_def]
        · intro n hn
          refine ⟨rfl, rfl, ?_⟩
          have hx := hsm n hn
          have hmod : modD (.int (n : Int)) (.int (10 ^ 40)) = some (.int ((n % 10 ^ 40 : Nat) : Int)) := by
            rw [modD_pos (by decide)]
            congr 2
          simp at hmod
          have hst := strID_num (n := n % 10 ^ 40) (Nat.lt_trans (Nat.mod_lt _ (by decide)) (by decide))
          simp at hst
          simp [vA_any, intD, hmod, hst]
    have e3 := e2 .un
    rw [e3]
    simp [m_law_3, f_law_draw]
    refine Ok.drawB (by omega) (by omega) fun k k0 k1 => ?_
    have ek : rng1D [.int k] = some ((rng 0 k.toNat).map D.int) := rng1D_eq ⟨by omega, by omega⟩
    simp [ek]
    refine Ok.forX (I := lawI ms) ⟨ms.map words40, .un, true, by simp [Function.comp_def], by simp; omega, fun r hr => by
      obtain ⟨m, hm, rfl⟩ := List.mem_map.mp hr
      exact words40_ok m⟩ ?_ ?_
    · rintro i x ρ hx ⟨rs, s7, b, rfl, hr⟩
      obtain ⟨z, hz, rfl⟩ := get_map hx
      have hi : i < k.toNat := by
        have := (List.getElem?_eq_some_iff.mp hz).1
        rwa [rng_length] at this
      refine ⟨_, rfl, ?_⟩
      simp [vA_any]
      refine Ok.calmB (bent_ok hr (by omega)) fun d hd => ?_
      obtain ⟨vs, rfl, hv⟩ := hd
      exact Ok.ret ⟨vs, _, _, rfl, hv⟩
    · rintro ρ ⟨rs, s7, b, rfl, hr⟩
      rw [List.length_map, rng_length] at hr
      have hr2 : RI 2 rs := ⟨by have := hr.1; omega, fun r h => (hr.2 r h).mono (by omega)⟩
      simpa using law_end (ce := ce) h2 (by omega) hr2 b s7
theorem law_true [Tbl] (ce : CE) : f_law ce [.scr] (fun d => d = .bl true) (fun _ => False) := (law_true0 ce).run _ _ fun _ h => h
end
@[reducible] def tblI : Tbl := ⟨[], fun kk a a' => ⟨"", lamP s_law, lamB s_law, lamS s_law, [], 0⟩⟩
theorem all_mk {l : PySem.W.OpenLaw} {w : World} {K : PySem.W.Frag} {h : Heap} {mg : Str → Option Value} {fa C_VillageError C_BadMove C_BadText f0 f1 f2 f3 f4 f5 f6 f7 f8 f9 f10 f11 f12 f13 f14 f15 f16 f17 f18 f19 f20 f21 : Addr} (X : K.In h) (G : h.Ns mainGlobals mg) (hfa : mg "law" = some (.ref fa))
    {od0 an0 od1 an1 od2 an2 od3 an3 od4 an4 od5 an5 od6 an6 od7 an7 od8 an8 od9 an9 od10 an10 od11 an11 od12 an12 od13 an13 od14 an14 od15 an15 od16 an16 od17 an17 od18 an18 od19 an19 od20 an20 od21 an21 : Option Addr} {sl0 sl1 sl2 sl3 sl4 sl5 sl6 sl7 sl8 sl9 sl10 sl11 sl12 sl13 sl14 sl15 sl16 sl17 sl18 sl19 sl20 sl21 : Array (Option Value)} {oc0 kV0 dc0 pm0 cd0 ct0 oc1 kV1 dc1 pm1 cd1 ct1 oc2 kV2 dc2 pm2 cd2 ct2 oc3 kV3 dc3 pm3 cd3 ct3 oc4 kV4 dc4 pm4 cd4 ct4 oc5 kV5 dc5 pm5 cd5 ct5 oc6 kV6 dc6 pm6 cd6 ct6 oc7 kV7 dc7 pm7 cd7 ct7 oc8 kV8 dc8 pm8 cd8 ct8 oc9 kV9 dc9 pm9 cd9 ct9 oc10 kV10 dc10 pm10 cd10 ct10 oc11 kV11 dc11 pm11 cd11 ct11 oc12 kV12 dc12 pm12 cd12 ct12 oc13 kV13 dc13 pm13 cd13 ct13 oc14 kV14 dc14 pm14 cd14 ct14 oc15 kV15 dc15 pm15 cd15 ct15 oc16 kV16 dc16 pm16 cd16 ct16 oc17 kV17 dc17 pm17 cd17 ct17 oc18 kV18 dc18 pm18 cd18 ct18 oc19 kV19 dc19 pm19 cd19 ct19 oc20 kV20 dc20 pm20 cd20 ct20 oc21 kV21 dc21 pm21 cd21 ct21 : Value} {nmC_BadText qnC_BadText : Str} {NC_BadText : Addr} {bsC_BadText : List Value} {snC_BadText : List Str} {subC_BadText : List Value} {abC_BadText : Bool} {colC_BadText : Option Bool} {ddC_BadText : Option Addr} {m0C_BadText m1C_BadText m2C_BadText m3C_BadText m5C_BadText : Option Value} {tk_MOST_DIGITS : PySem.Tok} {tk_DIGITS : PySem.Tok}
    (aC_VillageError : PySem.W.nsIn K mainGlobals "VillageError" = some (some (.ref C_VillageError)))
    (aC_BadMove : PySem.W.nsIn K mainGlobals "BadMove" = some (some (.ref C_BadMove)))
    (aC_BadText : PySem.W.nsIn K mainGlobals "BadText" = some (some (.ref C_BadText)))
    (a0 : PySem.W.findIn K (.ref C_BadText) "__init__" = some (some (.ref f0)))
    (i0 : PySem.W.isFn K (.ref f0) = true)
    (l0 : K.lookup f0 = some ⟨oc0, od0, .func (PySem.W.fnOf "__init__" "BadText.__init__" (defArgs s_BadText_initM) (defBody s_BadText_initM) (defScope s_BadText_initM) .none kV0 dc0 pm0 an0 cd0 ct0), sl0⟩)
    (c0 : PySem.W.codeIn K cd0 "BadText.__init__" = true)
    (k0 : PySem.W.keepIn K (.ref f0) = true)
    (a1 : PySem.W.nsIn K mainGlobals "rows_of" = some (some (.ref f1)))
    (l1 : K.lookup f1 = some ⟨oc1, od1, .func (PySem.W.fnOf "rows_of" "rows_of" (defArgs s_rows_of) (defBody s_rows_of) (defScope s_rows_of) .none kV1 dc1 pm1 an1 cd1 ct1), sl1⟩)
    (c1 : PySem.W.codeIn K cd1 "rows_of" = true)
    (k1 : PySem.W.keepIn K (.ref f1) = true)
    (a2 : PySem.W.nsIn K mainGlobals "is_number" = some (some (.ref f2)))
    (l2 : K.lookup f2 = some ⟨oc2, od2, .func (PySem.W.fnOf "is_number" "is_number" (defArgs s_is_number) (defBody s_is_number) (defScope s_is_number) .none kV2 dc2 pm2 an2 cd2 ct2), sl2⟩)
    (c2 : PySem.W.codeIn K cd2 "is_number" = true)
    (k2 : PySem.W.keepIn K (.ref f2) = true)
    (a3 : PySem.W.nsIn K mainGlobals "are_numbers" = some (some (.ref f3)))
    (l3 : K.lookup f3 = some ⟨oc3, od3, .func (PySem.W.fnOf "are_numbers" "are_numbers" (defArgs s_are_numbers) (defBody s_are_numbers) (defScope s_are_numbers) .none kV3 dc3 pm3 an3 cd3 ct3), sl3⟩)
    (c3 : PySem.W.codeIn K cd3 "are_numbers" = true)
    (k3 : PySem.W.keepIn K (.ref f3) = true)
    (a4 : PySem.W.nsIn K mainGlobals "is_move_row" = some (some (.ref f4)))
    (l4 : K.lookup f4 = some ⟨oc4, od4, .func (PySem.W.fnOf "is_move_row" "is_move_row" (defArgs s_is_move_row) (defBody s_is_move_row) (defScope s_is_move_row) .none kV4 dc4 pm4 an4 cd4 ct4), sl4⟩)
    (c4 : PySem.W.codeIn K cd4 "is_move_row" = true)
    (k4 : PySem.W.keepIn K (.ref f4) = true)
    (a5 : PySem.W.nsIn K mainGlobals "require_form" = some (some (.ref f5)))
    (l5 : K.lookup f5 = some ⟨oc5, od5, .func (PySem.W.fnOf "require_form" "require_form" (defArgs s_require_form) (defBody s_require_form) (defScope s_require_form) .none kV5 dc5 pm5 an5 cd5 ct5), sl5⟩)
    (c5 : PySem.W.codeIn K cd5 "require_form" = true)
    (k5 : PySem.W.keepIn K (.ref f5) = true)
    (a6 : PySem.W.nsIn K mainGlobals "write_moves" = some (some (.ref f6)))
    (l6 : K.lookup f6 = some ⟨oc6, od6, .func (PySem.W.fnOf "write_moves" "write_moves" (defArgs s_write_moves) (defBody s_write_moves) (defScope s_write_moves) .none kV6 dc6 pm6 an6 cd6 ct6), sl6⟩)
    (c6 : PySem.W.codeIn K cd6 "write_moves" = true)
    (k6 : PySem.W.keepIn K (.ref f6) = true)
    (a7 : PySem.W.nsIn K mainGlobals "read_moves" = some (some (.ref f7)))
    (l7 : K.lookup f7 = some ⟨oc7, od7, .func (PySem.W.fnOf "read_moves" "read_moves" (defArgs s_read_moves) (defBody s_read_moves) (defScope s_read_moves) .none kV7 dc7 pm7 an7 cd7 ct7), sl7⟩)
    (c7 : PySem.W.codeIn K cd7 "read_moves" = true)
    (k7 : PySem.W.keepIn K (.ref f7) = true)
    (a8 : PySem.W.nsIn K mainGlobals "_law_pool" = some (some (.ref f8)))
    (l8 : K.lookup f8 = some ⟨oc8, od8, .func (PySem.W.fnOf "_law_pool" "_law_pool" (defArgs s_law_pool) (defBody s_law_pool) (defScope s_law_pool) .none kV8 dc8 pm8 an8 cd8 ct8), sl8⟩)
    (c8 : PySem.W.codeIn K cd8 "_law_pool" = true)
    (k8 : PySem.W.keepIn K (.ref f8) = true)
    (a9 : PySem.W.nsIn K mainGlobals "_law_draw" = some (some (.ref f9)))
    (l9 : K.lookup f9 = some ⟨oc9, od9, .func (PySem.W.fnOf "_law_draw" "_law_draw" (defArgs s_law_draw) (defBody s_law_draw) (defScope s_law_draw) .none kV9 dc9 pm9 an9 cd9 ct9), sl9⟩)
    (c9 : PySem.W.codeIn K cd9 "_law_draw" = true)
    (k9 : PySem.W.keepIn K (.ref f9) = true)
    (a10 : PySem.W.nsIn K mainGlobals "_law_same" = some (some (.ref f10)))
    (l10 : K.lookup f10 = some ⟨oc10, od10, .func (PySem.W.fnOf "_law_same" "_law_same" (defArgs s_law_same) (defBody s_law_same) (defScope s_law_same) .none kV10 dc10 pm10 an10 cd10 ct10), sl10⟩)
    (c10 : PySem.W.codeIn K cd10 "_law_same" = true)
    (k10 : PySem.W.keepIn K (.ref f10) = true)
    (a11 : PySem.W.nsIn K mainGlobals "_law_size" = some (some (.ref f11)))
    (l11 : K.lookup f11 = some ⟨oc11, od11, .func (PySem.W.fnOf "_law_size" "_law_size" (defArgs s_law_size) (defBody s_law_size) (defScope s_law_size) .none kV11 dc11 pm11 an11 cd11 ct11), sl11⟩)
    (c11 : PySem.W.codeIn K cd11 "_law_size" = true)
    (k11 : PySem.W.keepIn K (.ref f11) = true)
    (a12 : PySem.W.nsIn K mainGlobals "_law_cell" = some (some (.ref f12)))
    (l12 : K.lookup f12 = some ⟨oc12, od12, .func (PySem.W.fnOf "_law_cell" "_law_cell" (defArgs s_law_cell) (defBody s_law_cell) (defScope s_law_cell) .none kV12 dc12 pm12 an12 cd12 ct12), sl12⟩)
    (c12 : PySem.W.codeIn K cd12 "_law_cell" = true)
    (k12 : PySem.W.keepIn K (.ref f12) = true)
    (a13 : PySem.W.nsIn K mainGlobals "_law_parts" = some (some (.ref f13)))
    (l13 : K.lookup f13 = some ⟨oc13, od13, .func (PySem.W.fnOf "_law_parts" "_law_parts" (defArgs s_law_parts) (defBody s_law_parts) (defScope s_law_parts) .none kV13 dc13 pm13 an13 cd13 ct13), sl13⟩)
    (c13 : PySem.W.codeIn K cd13 "_law_parts" = true)
    (k13 : PySem.W.keepIn K (.ref f13) = true)
    (a14 : PySem.W.nsIn K mainGlobals "_law_value" = some (some (.ref f14)))
    (l14 : K.lookup f14 = some ⟨oc14, od14, .func (PySem.W.fnOf "_law_value" "_law_value" (defArgs s_law_value) (defBody s_law_value) (defScope s_law_value) .none kV14 dc14 pm14 an14 cd14 ct14), sl14⟩)
    (c14 : PySem.W.codeIn K cd14 "_law_value" = true)
    (k14 : PySem.W.keepIn K (.ref f14) = true)
    (a15 : PySem.W.nsIn K mainGlobals "_law_odd" = some (some (.ref f15)))
    (l15 : K.lookup f15 = some ⟨oc15, od15, .func (PySem.W.fnOf "_law_odd" "_law_odd" (defArgs s_law_odd) (defBody s_law_odd) (defScope s_law_odd) .none kV15 dc15 pm15 an15 cd15 ct15), sl15⟩)
    (c15 : PySem.W.codeIn K cd15 "_law_odd" = true)
    (k15 : PySem.W.keepIn K (.ref f15) = true)
    (a16 : PySem.W.nsIn K mainGlobals "_law_words" = some (some (.ref f16)))
    (l16 : K.lookup f16 = some ⟨oc16, od16, .func (PySem.W.fnOf "_law_words" "_law_words" (defArgs s_law_words) (defBody s_law_words) (defScope s_law_words) .none kV16 dc16 pm16 an16 cd16 ct16), sl16⟩)
    (c16 : PySem.W.codeIn K cd16 "_law_words" = true)
    (k16 : PySem.W.keepIn K (.ref f16) = true)
    (a17 : PySem.W.nsIn K mainGlobals "_law_bent" = some (some (.ref f17)))
    (l17 : K.lookup f17 = some ⟨oc17, od17, .func (PySem.W.fnOf "_law_bent" "_law_bent" (defArgs s_law_bent) (defBody s_law_bent) (defScope s_law_bent) .none kV17 dc17 pm17 an17 cd17 ct17), sl17⟩)
    (c17 : PySem.W.codeIn K cd17 "_law_bent" = true)
    (k17 : PySem.W.keepIn K (.ref f17) = true)
    (a18 : PySem.W.nsIn K mainGlobals "_law_due" = some (some (.ref f18)))
    (l18 : K.lookup f18 = some ⟨oc18, od18, .func (PySem.W.fnOf "_law_due" "_law_due" (defArgs s_law_due) (defBody s_law_due) (defScope s_law_due) .none kV18 dc18 pm18 an18 cd18 ct18), sl18⟩)
    (c18 : PySem.W.codeIn K cd18 "_law_due" = true)
    (k18 : PySem.W.keepIn K (.ref f18) = true)
    (a19 : PySem.W.nsIn K mainGlobals "_law_read" = some (some (.ref f19)))
    (l19 : K.lookup f19 = some ⟨oc19, od19, .func (PySem.W.fnOf "_law_read" "_law_read" (defArgs s_law_read) (defBody s_law_read) (defScope s_law_read) .none kV19 dc19 pm19 an19 cd19 ct19), sl19⟩)
    (c19 : PySem.W.codeIn K cd19 "_law_read" = true)
    (k19 : PySem.W.keepIn K (.ref f19) = true)
    (a20 : PySem.W.nsIn K mainGlobals "_law_base" = some (some (.ref f20)))
    (l20 : K.lookup f20 = some ⟨oc20, od20, .func (PySem.W.fnOf "_law_base" "_law_base" (defArgs s_law_base) (defBody s_law_base) (defScope s_law_base) .none kV20 dc20 pm20 an20 cd20 ct20), sl20⟩)
    (c20 : PySem.W.codeIn K cd20 "_law_base" = true)
    (k20 : PySem.W.keepIn K (.ref f20) = true)
    (a21 : PySem.W.nsIn K mainGlobals "law" = some (some (.ref f21)))
    (l21 : K.lookup f21 = some ⟨oc21, od21, .func (PySem.W.fnOf "law" "law" (defArgs s_law) (defBody s_law) (defScope s_law) .none kV21 dc21 pm21 an21 cd21 ct21), sl21⟩)
    (c21 : PySem.W.codeIn K cd21 "law" = true)
    (k21 : PySem.W.keepIn K (.ref f21) = true)
    (exCC_BadText : PySem.W.subIn K (.ref C_BadText) (.type "BaseException") = some true)
    (tyCC_BadText : PySem.W.typeIn K (.ref C_BadText) = some (.type "type"))
    (hdCC_BadText : PySem.W.hasDictIn K C_BadText = true)
    (exCC_VillageError : PySem.W.subIn K (.ref C_VillageError) (.type "BaseException") = some true)
    (tyCC_VillageError : PySem.W.typeIn K (.ref C_VillageError) = some (.type "type"))
    (hdCC_VillageError : PySem.W.hasDictIn K C_VillageError = true)
    (gaC_BadText : PySem.W.findIn K (.ref C_BadText) "__getattribute__" = some (some (.builtin "BaseException.__getattribute__")))
    (ggC_BadText : PySem.W.findIn K (.ref C_BadText) "__getattr__" = some none)
    (hkC_BadText : PySem.W.findIn K (.ref C_BadText) "__class__" = some (some (.builtin "object.__class__")))
    (hmC_BadText : PySem.W.mroIn K C_BadText (.type "object") = some true)
    (hnG : PySem.W.specialIn K (.builtin "object.__class__") "__get__" = some (some (.builtin "getset_descriptor.__get__")))
    (htG : PySem.W.takesIn K (.builtin "object.__class__") = some true)
    (xLC_BadText : K.lookup C_BadText = some (excClassObj nmC_BadText qnC_BadText C_BadText NC_BadText bsC_BadText [.ref C_VillageError, .type "ValueError", .type "Exception", .type "BaseException", .type "object"] true snC_BadText subC_BadText abC_BadText colC_BadText ddC_BadText m0C_BadText m1C_BadText m2C_BadText m3C_BadText m5C_BadText "ValueError.__new__"))
    (saC_BadText : PySem.W.findIn K (.ref C_BadText) "__setattr__" = some (some (.builtin "object.__setattr__")))
    (kcC_BadText : PySem.W.keepIn K (.ref C_BadText) = true)
    (tIC_BadText : PySem.W.typeIn K (.ref f0) = some (.type "function"))
    (xn_BadText_row : PySem.W.findIn K (.ref C_BadText) "row" = some none)
    (xn_BadText_why : PySem.W.findIn K (.ref C_BadText) "why" = some none)
    (su_BadText_BadText : PySem.W.subIn K (.ref C_BadText) (.ref C_BadText) = some true)
    (su_BadText_VillageError : PySem.W.subIn K (.ref C_BadText) (.ref C_VillageError) = some true)
    (tyCC_BadMove : PySem.W.typeIn K (.ref C_BadMove) = some (.type "type"))
    (hdCC_BadMove : PySem.W.hasDictIn K C_BadMove = true)
    (su_BadMove_BadMove : PySem.W.subIn K (.ref C_BadMove) (.ref C_BadMove) = some true)
    (su_BadText_BadMove : PySem.W.subIn K (.ref C_BadText) (.ref C_BadMove) = some false)
    (sb_BadText_ValueError : PySem.W.subIn K (.ref C_BadText) (.type "ValueError") = some true)
    (g_MOST_DIGITS : PySem.W.nsIn K mainGlobals "MOST_DIGITS" = some (some (.int 60 tk_MOST_DIGITS)))
    (g_DIGITS : PySem.W.nsIn K mainGlobals "DIGITS" = some (some (.str "0123456789" tk_DIGITS)))
    (z_len : PySem.W.nsIn K mainGlobals "len" = some none)
    (z_range : PySem.W.nsIn K mainGlobals "range" = some none)
    (z_sum : PySem.W.nsIn K mainGlobals "sum" = some none)
    (z_any : PySem.W.nsIn K mainGlobals "any" = some none)
    (z_all : PySem.W.nsIn K mainGlobals "all" = some none)
    (z_abs : PySem.W.nsIn K mainGlobals "abs" = some none)
    (z_int : PySem.W.nsIn K mainGlobals "int" = some none)
    (z_isinstance : PySem.W.nsIn K mainGlobals "isinstance" = some none)
    (z_list : PySem.W.nsIn K mainGlobals "list" = some none)
    (z_tuple : PySem.W.nsIn K mainGlobals "tuple" = some none)
    (z_sorted : PySem.W.nsIn K mainGlobals "sorted" = some none)
    (z_enumerate : PySem.W.nsIn K mainGlobals "enumerate" = some none)
    (z_max : PySem.W.nsIn K mainGlobals "max" = some none)
    (z_min : PySem.W.nsIn K mainGlobals "min" = some none)
    (z_str : PySem.W.nsIn K mainGlobals "str" = some none)
    (z_set : PySem.W.nsIn K mainGlobals "set" = some none)
    (z_zip : PySem.W.nsIn K mainGlobals "zip" = some none)
    (z_reversed : PySem.W.nsIn K mainGlobals "reversed" = some none)
    (z_dict : PySem.W.nsIn K mainGlobals "dict" = some none)
    (z_bool : PySem.W.nsIn K mainGlobals "bool" = some none)
    (z_ValueError : PySem.W.nsIn K mainGlobals "ValueError" = some none)
    (z_iter : PySem.W.nsIn K mainGlobals "iter" = some none)
    (z_type : PySem.W.nsIn K mainGlobals "type" = some none)
    (z_NotImplemented : PySem.W.nsIn K mainGlobals "NotImplemented" = some none) :
    ∃ fd : FuncData, (∀ (s : Shared) (v : Value), BindsTo s fd ⟨[v], []⟩ [("script", v)]) ∧ ∀ base : Heap, K.In base → base.Ns mainGlobals mg → FnOk l.prog w K mg base C8.CX0 10 fa fd ["script"] (@spLaw tblI K) := by
  letI : Tbl := tblI
  let ce : CE := ⟨C_VillageError, C_BadMove, C_BadText, f4⟩
  have e := hfa.symm.trans (PySem.W.mg_of X G a21)
  cases e
  have B : Bt mg := ⟨PySem.W.mg_none_of X G z_len, PySem.W.mg_none_of X G z_range, PySem.W.mg_none_of X G z_sum, PySem.W.mg_none_of X G z_any, PySem.W.mg_none_of X G z_all, PySem.W.mg_none_of X G z_abs, PySem.W.mg_none_of X G z_int, PySem.W.mg_none_of X G z_isinstance, PySem.W.mg_none_of X G z_list, PySem.W.mg_none_of X G z_tuple, PySem.W.mg_none_of X G z_sorted, PySem.W.mg_none_of X G z_enumerate, PySem.W.mg_none_of X G z_max, PySem.W.mg_none_of X G z_min, PySem.W.mg_none_of X G z_str, PySem.W.mg_none_of X G z_set, PySem.W.mg_none_of X G z_zip, PySem.W.mg_none_of X G z_reversed, PySem.W.mg_none_of X G z_dict, PySem.W.mg_none_of X G z_bool, PySem.W.mg_none_of X G z_ValueError, PySem.W.mg_none_of X G z_iter, PySem.W.mg_none_of X G z_type, PySem.W.mg_none_of X G z_NotImplemented⟩
  have mg_VillageError : mg "VillageError" = some (.ref ce.VillageError) := PySem.W.mg_of X G aC_VillageError
  have mg_BadMove : mg "BadMove" = some (.ref ce.BadMove) := PySem.W.mg_of X G aC_BadMove
  have mg_BadText : mg "BadText" = some (.ref ce.BadText) := PySem.W.mg_of X G aC_BadText
  have mg_is_move_row : mg "is_move_row" = some (.ref ce.is_move_row) := PySem.W.mg_of X G a4
  have mg_MOST_DIGITS : ∃ t, mg "MOST_DIGITS" = some (.int 60 t) := ⟨_, PySem.W.mg_of X G g_MOST_DIGITS⟩
  have mg_DIGITS : ∃ t, mg "DIGITS" = some (.str "0123456789" t) := ⟨_, PySem.W.mg_of X G g_DIGITS⟩
  have ox_BadText : OexC K ce.BadText := ⟨⟨_, _, _, _, _, _, _, _, _, _, _, _, _, _, _, xLC_BadText, (show PySem.HandSPX.refsVE [.type "ValueError", .type "Exception", .type "BaseException", .type "object"] = true from by decide +kernel)⟩, saC_BadText, exCC_BadText, tyCC_BadText, kcC_BadText⟩
  have xf_BadText : XfC K ce.BadText := ⟨gaC_BadText, ggC_BadText, exCC_BadText, hdCC_BadText⟩
  have ec_BadText : ExcC K ce.BadText := ⟨gaC_BadText, ggC_BadText, exCC_BadText, hdCC_BadText, hkC_BadText, hnG, htG, hmC_BadText⟩
  have xc_BadText : ExcCl K (.ref ce.BadText) [ce.BadText] [] := ⟨(fun C h => by
      rw [List.mem_singleton] at h
      subst h
      exact PySem.W.exm_ref exCC_BadText hdCC_BadText tyCC_BadText su_BadText_BadText), (fun _ h => nomatch h)⟩
  have xc_VillageError : ExcCl K (.ref ce.VillageError) [ce.BadText] [] := ⟨(fun C h => by
      rw [List.mem_singleton] at h
      subst h
      exact PySem.W.exm_ref exCC_VillageError hdCC_VillageError tyCC_VillageError su_BadText_VillageError), (fun _ h => nomatch h)⟩
  have is_BadMove : IsCl K (.ref ce.BadMove) [] [ce.BadText] := ⟨(fun _ h => nomatch h), (fun C h => by
      rw [List.mem_singleton] at h
      subst h
      exact ⟨ec_BadText, (VD.kit_ref hdCC_BadMove tyCC_BadMove su_BadMove_BadMove su_BadText_BadMove)⟩)⟩
  have is_BadText : IsCl K (.ref ce.BadText) [ce.BadText] [] := ⟨(fun C h => by
      rw [List.mem_singleton] at h
      subst h
      exact ⟨ec_BadText, (VD.kit_ref hdCC_BadText tyCC_BadText su_BadText_BadText su_BadText_BadText)⟩), (fun _ h => nomatch h)⟩
  have is_ValueError : IsCl K (.type "ValueError") [ce.BadText] [] := ⟨(fun C h => by
      rw [List.mem_singleton] at h
      subst h
      exact ⟨ec_BadText, (VD.kit_type (by decide +kernel) sb_BadText_ValueError)⟩), (fun _ h => nomatch h)⟩
  have F0 := fun_mk (st := s_BadText_initM) l0 c0 k0
  have b0 := F0.binds (ps := ["self", "row", "why"]) fun _ _ _ _ _ _ us hl => match us, hl with | [_, _, _], _ => rfl
  have F1 := fun_mk (st := s_rows_of) l1 c1 k1
  have b1 := F1.binds (ps := ["text"]) fun _ _ _ _ _ _ us hl => match us, hl with | [_], _ => rfl
  have F2 := fun_mk (st := s_is_number) l2 c2 k2
  have b2 := F2.binds (ps := ["word"]) fun _ _ _ _ _ _ us hl => match us, hl with | [_], _ => rfl
  have F3 := fun_mk (st := s_are_numbers) l3 c3 k3
  have b3 := F3.binds (ps := ["words"]) fun _ _ _ _ _ _ us hl => match us, hl with | [_], _ => rfl
  have F4 := fun_mk (st := s_is_move_row) l4 c4 k4
  have b4 := F4.binds (ps := ["at", "words"]) fun _ _ _ _ _ _ us hl => match us, hl with | [_, _], _ => rfl
  have F5 := fun_mk (st := s_require_form) l5 c5 k5
  have b5 := F5.binds (ps := ["rows", "has_form"]) fun _ _ _ _ _ _ us hl => match us, hl with | [_, _], _ => rfl
  have F6 := fun_mk (st := s_write_moves) l6 c6 k6
  have b6 := F6.binds (ps := ["moves"]) fun _ _ _ _ _ _ us hl => match us, hl with | [_], _ => rfl
  have F7 := fun_mk (st := s_read_moves) l7 c7 k7
  have b7 := F7.binds (ps := ["text"]) fun _ _ _ _ _ _ us hl => match us, hl with | [_], _ => rfl
  have F8 := fun_mk (st := s_law_pool) l8 c8 k8
  have b8 := F8.binds (ps := ["script"]) fun _ _ _ _ _ _ us hl => match us, hl with | [_], _ => rfl
  have F9 := fun_mk (st := s_law_draw) l9 c9 k9
  have b9 := F9.binds (ps := ["pool", "many"]) fun _ _ _ _ _ _ us hl => match us, hl with | [_, _], _ => rfl
  have F10 := fun_mk (st := s_law_same) l10 c10 k10
  have b10 := F10.binds (ps := ["got", "due"]) fun _ _ _ _ _ _ us hl => match us, hl with | [_, _], _ => rfl
  have F11 := fun_mk (st := s_law_size) l11 c11 k11
  have b11 := F11.binds (ps := ["pool", "small", "large"]) fun _ _ _ _ _ _ us hl => match us, hl with | [_, _, _], _ => rfl
  have F12 := fun_mk (st := s_law_cell) l12 c12 k12
  have b12 := F12.binds (ps := ["pool"]) fun _ _ _ _ _ _ us hl => match us, hl with | [_], _ => rfl
  have F13 := fun_mk (st := s_law_parts) l13 c13 k13
  have b13 := F13.binds (ps := ["text", "mark"]) fun _ _ _ _ _ _ us hl => match us, hl with | [_, _], _ => rfl
  have F14 := fun_mk (st := s_law_value) l14 c14 k14
  have b14 := F14.binds (ps := ["word"]) fun _ _ _ _ _ _ us hl => match us, hl with | [_], _ => rfl
  have F15 := fun_mk (st := s_law_odd) l15 c15 k15
  have b15 := F15.binds (ps := ["pool"]) fun _ _ _ _ _ _ us hl => match us, hl with | [_], _ => rfl
  have F16 := fun_mk (st := s_law_words) l16 c16 k16
  have b16 := F16.binds (ps := ["pool", "words"]) fun _ _ _ _ _ _ us hl => match us, hl with | [_, _], _ => rfl
  have F17 := fun_mk (st := s_law_bent) l17 c17 k17
  have b17 := F17.binds (ps := ["pool", "rows"]) fun _ _ _ _ _ _ us hl => match us, hl with | [_, _], _ => rfl
  have F18 := fun_mk (st := s_law_due) l18 c18 k18
  have b18 := F18.binds (ps := ["text"]) fun _ _ _ _ _ _ us hl => match us, hl with | [_], _ => rfl
  have F19 := fun_mk (st := s_law_read) l19 c19 k19
  have b19 := F19.binds (ps := ["text"]) fun _ _ _ _ _ _ us hl => match us, hl with | [_], _ => rfl
  have F20 := fun_mk (st := s_law_base) l20 c20 k20
  have b20 := F20.binds (ps := ["text"]) fun _ _ _ _ _ _ us hl => match us, hl with | [_], _ => rfl
  have F21 := fun_mk (st := s_law) l21 c21 k21
  refine ⟨PySem.W.fnOf "law" "law" (defArgs s_law) (defBody s_law) (defScope s_law) .none kV21 dc21 pm21 an21 cd21 ct21, fun s v => .of_eq rfl, fun base _ _ => ?_⟩
  have mx_BadText : MkX l.prog w K mg base 1 "BadText" ce.BadText ["row", "why"] := ⟨f0, _, ["self", "row", "why"], ox_BadText, a0, tIC_BadText, ok_BadText_initM (ce := ce) F0 ox_BadText xn_BadText_row xn_BadText_why, PySem.W.mg_of X G aC_BadText, b0⟩
  have c_rows_of : C8.Cal l.prog w K mg base 1 "rows_of" (spC K true 1 (f_rows_of ce)) [] := ⟨f1, _, ["text"], [], ok_rows_of (ce := ce) F1 B, PySem.W.mg_of X G a1, k1, b1, .nil⟩
  have c_is_number : C8.Cal l.prog w K mg base 1 "is_number" (spC K true 1 (f_is_number ce)) [] := ⟨f2, _, ["word"], [], ok_is_number (ce := ce) F2 B mg_MOST_DIGITS mg_DIGITS, PySem.W.mg_of X G a2, k2, b2, .nil⟩
  have c_are_numbers : C8.Cal l.prog w K mg base 2 "are_numbers" (spC K true 1 (f_are_numbers ce)) [] := ⟨f3, _, ["words"], [], ok_are_numbers (ce := ce) F3 B c_is_number, PySem.W.mg_of X G a3, k3, b3, .nil⟩
  have c_is_move_row : C8.Cal l.prog w K mg base 3 "is_move_row" (spC K true 2 (f_is_move_row ce)) [] := ⟨f4, _, ["at", "words"], [], ok_is_move_row (ce := ce) F4 B c_are_numbers, PySem.W.mg_of X G a4, k4, b4, .nil⟩
  have hd_A : ∀ a sp, (fun a => (tabA ce a).map (spC K true 2)) a = some sp → Held l.prog w K mg base 3 a sp := fun a sp h => by
    obtain ⟨mf, h1, rfl⟩ := Option.map_eq_some_iff.mp h
    unfold tabA at h1
    split at h1
    · rename_i e; subst e; cases h1; exact held_of c_is_move_row mg_is_move_row
    cases h1
  have cX_require_form : CalX l.prog w K mg base 5 "require_form" (spM K true 2 (f_require_form ce)) := ⟨f5, _, ["rows", "has_form"], ok_require_form (ce := ce) F5 B hd_A mx_BadText, PySem.W.mg_of X G a5, k5, b5⟩
  have c_write_moves : C8.Cal l.prog w K mg base 1 "write_moves" (spC K true 1 (f_write_moves ce)) [] := ⟨f6, _, ["moves"], [], ok_write_moves (ce := ce) F6 B, PySem.W.mg_of X G a6, k6, b6, .nil⟩
  have cX_read_moves : CalX l.prog w K mg base 6 "read_moves" (spM K true 1 (f_read_moves ce)) := ⟨f7, _, ["text"], ok_read_moves (ce := ce) F7 B c_rows_of cX_require_form c_is_move_row mg_is_move_row, PySem.W.mg_of X G a7, k7, b7⟩
  have c_law_pool : C8.Cal l.prog w K mg base 1 "_law_pool" (spC K false 1 (f_law_pool ce)) [] := ⟨f8, _, ["script"], [], ok_law_pool (ce := ce) F8 B, PySem.W.mg_of X G a8, k8, b8, .nil⟩
  have c_law_draw : C8.Cal l.prog w K mg base 1 "_law_draw" (spC K true 2 (f_law_draw ce)) [] := ⟨f9, _, ["pool", "many"], [], ok_law_draw (ce := ce) F9 B, PySem.W.mg_of X G a9, k9, b9, .nil⟩
  have c_law_same : C8.Cal l.prog w K mg base 9 "_law_same" (spC K true 2 (f_law_same ce)) [] := ⟨f10, _, ["got", "due"], [], ok_law_same (ce := ce) (base := base) F10 B (fun k sp h => ⟨f10, _, ["got", "due"], [], h, PySem.W.mg_of X G a10, k10, b10, .nil⟩), PySem.W.mg_of X G a10, k10, b10, .nil⟩
  have c_law_size : C8.Cal l.prog w K mg base 2 "_law_size" (spC K true 3 (f_law_size ce)) [] := ⟨f11, _, ["pool", "small", "large"], [], ok_law_size (ce := ce) F11 B c_law_draw, PySem.W.mg_of X G a11, k11, b11, .nil⟩
  have c_law_cell : C8.Cal l.prog w K mg base 2 "_law_cell" (spC K true 1 (f_law_cell ce)) [] := ⟨f12, _, ["pool"], [], ok_law_cell (ce := ce) F12 B c_law_draw, PySem.W.mg_of X G a12, k12, b12, .nil⟩
  have c_law_parts : C8.Cal l.prog w K mg base 1 "_law_parts" (spC K true 2 (f_law_parts ce)) [] := ⟨f13, _, ["text", "mark"], [], ok_law_parts (ce := ce) F13 B, PySem.W.mg_of X G a13, k13, b13, .nil⟩
  have c_law_value : C8.Cal l.prog w K mg base 1 "_law_value" (spC K true 1 (f_law_value ce)) [] := ⟨f14, _, ["word"], [], ok_law_value (ce := ce) F14 B, PySem.W.mg_of X G a14, k14, b14, .nil⟩
  have c_law_odd : C8.Cal l.prog w K mg base 2 "_law_odd" (spC K true 1 (f_law_odd ce)) [] := ⟨f15, _, ["pool"], [], ok_law_odd (ce := ce) F15 B c_law_draw, PySem.W.mg_of X G a15, k15, b15, .nil⟩
  have c_law_words : C8.Cal l.prog w K mg base 3 "_law_words" (spC K false 2 (f_law_words ce)) [] := ⟨f16, _, ["pool", "words"], [], ok_law_words (ce := ce) F16 B c_law_draw c_law_odd, PySem.W.mg_of X G a16, k16, b16, .nil⟩
  have c_law_bent : C8.Cal l.prog w K mg base 4 "_law_bent" (spC K false 2 (f_law_bent ce)) [] := ⟨f17, _, ["pool", "rows"], [], ok_law_bent (ce := ce) F17 B c_law_draw c_law_words, PySem.W.mg_of X G a17, k17, b17, .nil⟩
  have c_law_due : C8.Cal l.prog w K mg base 2 "_law_due" (spC K true 1 (f_law_due ce)) [] := ⟨f18, _, ["text"], [], ok_law_due (ce := ce) F18 B c_law_parts c_law_value, PySem.W.mg_of X G a18, k18, b18, .nil⟩
  have c_law_read : C8.Cal l.prog w K mg base 7 "_law_read" (spC K true 1 (f_law_read ce)) [] := ⟨f19, _, ["text"], [], ok_law_read (ce := ce) F19 B cX_read_moves xf_BadText xn_BadText_why xn_BadText_row xc_BadText mg_BadText, PySem.W.mg_of X G a19, k19, b19, .nil⟩
  have c_law_base : C8.Cal l.prog w K mg base 7 "_law_base" (spC K true 1 (f_law_base ce)) [] := ⟨f20, _, ["text"], [], ok_law_base (ce := ce) F20 B cX_read_moves mg_BadMove is_BadMove mg_BadText is_BadText is_ValueError xc_VillageError mg_VillageError, PySem.W.mg_of X G a20, k20, b20, .nil⟩
  exact (ok_law (ce := ce) F21 B c_law_pool c_law_due cX_read_moves c_law_same c_law_draw c_law_bent c_write_moves c_law_cell c_law_size c_law_read c_law_base).imp (law_of (law_true ce))
theorem walk {l : PySem.W.OpenLaw} {q : Program} {loose : List Str} {XP : (Str → Option Value) → Heap → Prop} {YP : World → Heap → Prop} {d : DefRec} {K : Params → PySem.W.Frag} (hn : l.most = some 63) (hdf : d.params.defaults = []) (hY : ∀ (w : World) (h : Heap), YP w h → (K w.params).In h)
    (F : ∀ (w : World) (mg : Str → Option Value) (fa : Addr) (h : Heap), (K w.params).In h → h.Ns mainGlobals mg → mg d.name = some (.ref fa) → ∃ fd : FuncData, (∀ (s : Shared) (u : Value), BindsTo s fd ⟨[u], []⟩ [("script", u)]) ∧ ∀ base : Heap, (K w.params).In base → base.Ns mainGlobals mg → FnOk l.prog w (K w.params) mg base C8.CX0 10 fa fd ["script"] (@spLaw tblI (K w.params))) : PySem.W.WalkO q loose XP YP l.row.toRowW d [] (fun f vs => PySem.call f vs) :=
  L2.walk_of (n := 63) (k := 10) (x := "script") (CX := fun _ => C8.CX0) (sp := fun w => @spLaw tblI (K w.params)) hn (by decide) hdf ⟨rfl, by decide, by decide⟩ hY F (fun _ _ a ns hl _ hS => ⟨a, ns, rfl, hS, hl, (fun p hp => nomatch hp), fun _ => rfl⟩) fun _ _ _ _ _ z => z
end VL
open PySem PySem.W PyProof.Rows in
theorem PySem.Challenge.cw_villagelines_k09_moves_text_holds : PySem.Challenge.rw_villagelines_k09_moves_text.Holds := by
  w_on; o_law; k_head; (case hw => w_witness2)
  k_fill
  refine VL.walk (l := PySem.Challenge.rw_villagelines_k09_moves_text) rfl rfl (fun w h Y => PySem.W.kIn_of Y) ?F
  case F =>
    intro w mg fa h KX G hmg
    refine' VL.all_mk KX G hmg ?aC_VillageError ?aC_BadMove ?aC_BadText ?a0 ?i0 ?l0 ?c0 ?k0 ?a1 ?l1 ?c1 ?k1 ?a2 ?l2 ?c2 ?k2 ?a3 ?l3 ?c3 ?k3 ?a4 ?l4 ?c4 ?k4 ?a5 ?l5 ?c5 ?k5 ?a6 ?l6 ?c6 ?k6 ?a7 ?l7 ?c7 ?k7 ?a8 ?l8 ?c8 ?k8 ?a9 ?l9 ?c9 ?k9 ?a10 ?l10 ?c10 ?k10 ?a11 ?l11 ?c11 ?k11 ?a12 ?l12 ?c12 ?k12 ?a13 ?l13 ?c13 ?k13 ?a14 ?l14 ?c14 ?k14 ?a15 ?l15 ?c15 ?k15 ?a16 ?l16 ?c16 ?k16 ?a17 ?l17 ?c17 ?k17 ?a18 ?l18 ?c18 ?k18 ?a19 ?l19 ?c19 ?k19 ?a20 ?l20 ?c20 ?k20 ?a21 ?l21 ?c21 ?k21 ?exCC_BadText ?tyCC_BadText ?hdCC_BadText ?exCC_VillageError ?tyCC_VillageError ?hdCC_VillageError ?gaC_BadText ?ggC_BadText ?hkC_BadText ?hmC_BadText ?hnG ?htG ?xLC_BadText ?saC_BadText ?kcC_BadText ?tIC_BadText ?xn_BadText_row ?xn_BadText_why ?su_BadText_BadText ?su_BadText_VillageError ?tyCC_BadMove ?hdCC_BadMove ?su_BadMove_BadMove ?su_BadText_BadMove ?sb_BadText_ValueError ?g_MOST_DIGITS ?g_DIGITS ?z_len ?z_range ?z_sum ?z_any ?z_all ?z_abs ?z_int ?z_isinstance ?z_list ?z_tuple ?z_sorted ?z_enumerate ?z_max ?z_min ?z_str ?z_set ?z_zip ?z_reversed ?z_dict ?z_bool ?z_ValueError ?z_iter ?z_type ?z_NotImplemented
    (case aC_VillageError => k_is)
    (case aC_BadMove => k_is)
    (case aC_BadText => k_is)
    (case a0 => k_is)
    (case i0 => k_is)
    (case l0 => k_is)
    (case c0 => k_is)
    (case k0 => k_is)
    (case a1 => k_is)
    (case l1 => k_is)
    (case c1 => k_is)
    (case k1 => k_is)
    (case a2 => k_is)
    (case l2 => k_is)
    (case c2 => k_is)
    (case k2 => k_is)
    (case a3 => k_is)
    (case l3 => k_is)
    (case c3 => k_is)
    (case k3 => k_is)
    (case a4 => k_is)
    (case l4 => k_is)
    (case c4 => k_is)
    (case k4 => k_is)
    (case a5 => k_is)
    (case l5 => k_is)
    (case c5 => k_is)
    (case k5 => k_is)
    (case a6 => k_is)
    (case l6 => k_is)
    (case c6 => k_is)
    (case k6 => k_is)
    (case a7 => k_is)
    (case l7 => k_is)
    (case c7 => k_is)
    (case k7 => k_is)
    (case a8 => k_is)
    (case l8 => k_is)
    (case c8 => k_is)
    (case k8 => k_is)
    (case a9 => k_is)
    (case l9 => k_is)
    (case c9 => k_is)
    (case k9 => k_is)
    (case a10 => k_is)
    (case l10 => k_is)
    (case c10 => k_is)
    (case k10 => k_is)
    (case a11 => k_is)
    (case l11 => k_is)
    (case c11 => k_is)
    (case k11 => k_is)
    (case a12 => k_is)
    (case l12 => k_is)
    (case c12 => k_is)
    (case k12 => k_is)
    (case a13 => k_is)
    (case l13 => k_is)
    (case c13 => k_is)
    (case k13 => k_is)
    (case a14 => k_is)
    (case l14 => k_is)
    (case c14 => k_is)
    (case k14 => k_is)
    (case a15 => k_is)
    (case l15 => k_is)
    (case c15 => k_is)
    (case k15 => k_is)
    (case a16 => k_is)
    (case l16 => k_is)
    (case c16 => k_is)
    (case k16 => k_is)
    (case a17 => k_is)
    (case l17 => k_is)
    (case c17 => k_is)
    (case k17 => k_is)
    (case a18 => k_is)
    (case l18 => k_is)
    (case c18 => k_is)
    (case k18 => k_is)
    (case a19 => k_is)
    (case l19 => k_is)
    (case c19 => k_is)
    (case k19 => k_is)
    (case a20 => k_is)
    (case l20 => k_is)
    (case c20 => k_is)
    (case k20 => k_is)
    (case a21 => k_is)
    (case l21 => k_is)
    (case c21 => k_is)
    (case k21 => k_is)
    (case exCC_BadText => k_is)
    (case tyCC_BadText => k_is)
    (case hdCC_BadText => k_is)
    (case exCC_VillageError => k_is)
    (case tyCC_VillageError => k_is)
    (case hdCC_VillageError => k_is)
    (case gaC_BadText => k_is)
    (case ggC_BadText => k_is)
    (case hkC_BadText => k_is)
    (case hmC_BadText => k_is)
    (case hnG => k_is)
    (case htG => k_is)
    (case xLC_BadText => k_is)
    (case saC_BadText => k_is)
    (case kcC_BadText => k_is)
    (case tIC_BadText => k_is)
    (case xn_BadText_row => k_is)
    (case xn_BadText_why => k_is)
    (case su_BadText_BadText => k_is)
    (case su_BadText_VillageError => k_is)
    (case tyCC_BadMove => k_is)
    (case hdCC_BadMove => k_is)
    (case su_BadMove_BadMove => k_is)
    (case su_BadText_BadMove => k_is)
    (case sb_BadText_ValueError => k_is)
    (case g_MOST_DIGITS => k_is)
    (case g_DIGITS => k_is)
    (case z_len => k_is)
    (case z_range => k_is)
    (case z_sum => k_is)
    (case z_any => k_is)
    (case z_all => k_is)
    (case z_abs => k_is)
    (case z_int => k_is)
    (case z_isinstance => k_is)
    (case z_list => k_is)
    (case z_tuple => k_is)
    (case z_sorted => k_is)
    (case z_enumerate => k_is)
    (case z_max => k_is)
    (case z_min => k_is)
    (case z_str => k_is)
    (case z_set => k_is)
    (case z_zip => k_is)
    (case z_reversed => k_is)
    (case z_dict => k_is)
    (case z_bool => k_is)
    (case z_ValueError => k_is)
    (case z_iter => k_is)
    (case z_type => k_is)
    (case z_NotImplemented => k_is)
#print axioms PySem.Challenge.cw_villagelines_k09_moves_text_holds