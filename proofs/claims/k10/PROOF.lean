import PyProof.Rows.All
import Wide.All
import OpenK.AllK
import Wide.FinOn
import KE.KStateDown
import Lean
import HandS.ForMost
import HandS.Wide
import HandS.IsInst
import HandS.Words
import HandS.WordsExc
import HandS.Defaults
import HandS.Head0
import HandS.Head1
import HandS.Head2
import HandS.HeadEnd
import HandS.HeadHook1
import HandS.HeadHook2
import PyProof.ListRange
import HandS.ClsMeth
import HandS.Deep
import HandS.Dict
import HandS.EndBits
import HandS.ExcCtx
import HandS.ExcIs
import HandS.ExcValue
import HandS.HotCalls
import HandS.Iter
import HandS.More
import HandS.RevRange
import HandS.SetKeys
import HandS.StrMore
import HandS.Strs
import HandS.Style
import HandS.Text
import HandS.TryOnly
import HandS.TupAny
import HandS.WordsDict
import KE.DataMinMax
import KE.DatumOrd
import KE.GoesMore
import KE.KDictSum
import KE.KEqDict
import KE.KTupSum
import KE.SortData
import OpenK.KMake
import PyProof.Draws
import PyProof.EnumMake
import PyProof.ExcBaseAll.ValueError
import PyProof.FitsBits
import PyProof.Rows.RuleB_pow
import PyProof.StrBlock2
import PySem.Challenge.RW_shownranks_k10_refusals
set_option Elab.async false
set_option linter.all false
set_option maxRecDepth 100000
set_option maxHeartbeats 4000000

/-! A layer of pure values over the hand layer: what an expression is worth, as a plain Lean value, while the heap only grows. -/
namespace PL
open PySem PySem.Spec PyProof.Rows L2

structure Rel (α : Type) where
  rd : Hp → V → α → Prop
  mono : ∀ {G G' : Hp} {v : V} {x : α}, Same G G' → rd G v x → rd G' v x

def SmF (G H : Hp) : Prop := ∀ b u, G b = some u → H b = some u ∨ ∃ o us, u = .dK us ∧ H b = some (.frz o u)
theorem SmF.free {G H : Hp} (s : SmF G H) {b : Addr} (h : H b = none) : G b = none := by
  cases e : G b with
  | none => rfl
  | some u =>
    rcases s b u e with q | ⟨o, us, _, q⟩ <;> rw [h] at q <;> cases q
theorem SmF.at {G H : Hp} (s : SmF G H) {b : Addr} {u : HO} (h : G b = some u) (hn : ∀ us, u ≠ .dK us) : H b = some u := (s b u h).elim id fun ⟨_, us, q, _⟩ => absurd q (hn us)
theorem SmF.ins {G H : Hp} (s : SmF G H) {b C dx : Addr} {fs : List (Str × V)} (h : G b = some (.ins C dx fs)) : H b = some (.ins C dx fs) := s.at h fun _ z => by cases z
theorem SmF.own {G H : Hp} (s : SmF G H) {b o : Addr} (h : G b = some (.own o)) : H b = some (.own o) := s.at h fun _ z => by cases z
theorem SmF.updo {F H : Hp} {o : Addr} {u : HO} (hF : F o = none) (s : SmF F H) : SmF F (upd H o u) := fun b x e => by
  rw [upd_ne (ne_of_none e hF)]
  exact s b x e
theorem SmF.trans {A B C : Hp} (s : SmF A B) (t : Same B C) : SmF A C := fun b u e => (s b u e).elim (fun q => .inl (t _ _ q)) fun ⟨o, us, h, q⟩ => .inr ⟨o, us, h, t _ _ q⟩
structure Ext (G H G' H' : Hp) : Prop where
  g : Same G G'
  s : SmF G' H'
  h : Same H H'
  n : ∀ b, H b ≠ none → G b = none → G' b = none
theorem nn_same {H H' : Hp} (h : Same H H') {b : Addr} (e : H b ≠ none) : H' b ≠ none := by
  cases q : H b with
  | none => exact absurd q e
  | some o => rw [h b o q]; exact fun z => by cases z
theorem Ext.trans {G H G1 H1 G2 H2 : Hp} (a : Ext G H G1 H1) (b : Ext G1 H1 G2 H2) : Ext G H G2 H2 :=
  ⟨a.g.trans b.g, b.s, a.h.trans b.h, fun c e z => b.n c (nn_same a.h e) (a.n c e z)⟩
inductive Slot : Type 1
  | any : Slot
  | val {α : Type} (r : Rel α) (x : α) : Slot
def Slot.ok (G : Hp) (ov : Option V) : Slot → Prop
  | .any => True
  | .val r x => ∃ v, ov = some v ∧ r.rd G v x
abbrev Text := List Nat
def mkS (x : Text) : Str := ⟨x.toArray⟩
def okT (x : Text) : Prop := x.length ≤ sizeLine ∧ ∀ c ∈ x, c < 1114112
inductive Cell : Type 1
  | lst {α : Type} (o : Addr) (r : Rel α) (xs : List α) : Cell
  | dic {α : Type} (o : Addr) (r : Rel α) (kvs : List (Text × α)) : Cell
  | ins (o dx C : Addr) (fs : List (Str × Slot)) : Cell
def Cell.addr : Cell → Addr
  | .lst o _ _ => o
  | .dic o _ _ => o
  | .ins o _ _ _ => o
def ent {α : Type} (r : Rel α) (G : Hp) (q : Key × V) (p : Text × α) : Prop := q.1 = Sum.inr (mkS p.1) ∧ r.rd G q.2 p.2 ∧ okT p.1
inductive Flds (G : Hp) : List (Str × V) → List (Str × Slot) → Prop
  | nil : Flds G [] []
  | cons {n : Str} {v : V} {s : Slot} {vs : List (Str × V)} {fs : List (Str × Slot)} : s.ok G (some v) → Flds G vs fs → Flds G ((n, v) :: vs) ((n, s) :: fs)
def Cell.is (G : Hp) (u : HO) : Cell → Prop
  | .lst _ r xs => ∃ vs, u = .lst vs ∧ Paired (r.rd G) vs xs ∧ xs.length ≤ sizeLine
  | .dic _ r kvs => ∃ us, u = .dK us ∧ Paired (ent r G) us kvs ∧ kvs.length ≤ sizeLine ∧ (kvs.map (·.1)).Nodup
  | .ins o dx C fs => G dx = some (.own o) ∧ ∃ vfs, u = .ins C dx vfs ∧ Flds G vfs fs
def Cell.ok (H0 G H : Hp) (c : Cell) : Prop := H0 c.addr = none ∧ G c.addr = none ∧ ∃ u, H c.addr = some u ∧ c.is G u
theorem Cell.ok_upd {H0 G H : Hp} {c : Cell} {o : Addr} {u : HO} (h : c.ok H0 G H) (hne : c.addr ≠ o) : c.ok H0 G (upd H o u) := by
  obtain ⟨h0, h1, v, h2, h3⟩ := h
  exact ⟨h0, h1, v, by rw [upd_ne hne]; exact h2, h3⟩
theorem Cell.ok_lst {H0 G H : Hp} {α : Type} {o : Addr} {r : Rel α} {xs : List α} (h : (Cell.lst o r xs).ok H0 G H) : H0 o = none ∧ G o = none ∧ ∃ vs, H o = some (.lst vs) ∧ Paired (r.rd G) vs xs ∧ xs.length ≤ sizeLine := by
  obtain ⟨h0, h1, u, h2, vs, rfl, h3, h4⟩ := h
  exact ⟨h0, h1, vs, h2, h3, h4⟩
theorem Cell.lst_ok {H0 G H : Hp} {α : Type} {o : Addr} {r : Rel α} {xs : List α} (h0 : H0 o = none) (h1 : G o = none) {vs : List V} (h2 : H o = some (.lst vs)) (h3 : Paired (r.rd G) vs xs) (h4 : xs.length ≤ sizeLine) : (Cell.lst o r xs).ok H0 G H := ⟨h0, h1, _, h2, vs, rfl, h3, h4⟩
structure Bs where
  G0 : Hp
  H0 : Hp
  ab : List Hp
structure Ctx where
  b : Bs
  sl : List Slot
  ce : List Cell
structure Env (Z : Ctx) (G H : Hp) (σ : L2.St) : Prop where
  ex : Ext Z.b.G0 Z.b.H0 G H
  ab : ∀ B ∈ Z.b.ab, Same B G
  sl : ∀ (i : Nat) (s : Slot), Z.sl[i]? = some s → ∃ ov, σ[i]? = some ov ∧ s.ok G ov
  ce : ∀ c ∈ Z.ce, c.ok Z.b.H0 G H
  nd : (Z.ce.map Cell.addr).Nodup
theorem Env.get {Z : Ctx} {G H : Hp} {σ : L2.St} (E : Env Z G H σ) {i : Nat} {α : Type} {r : Rel α} {x : α} (h : Z.sl[i]? = some (.val r x)) : ∃ v, σ[i]? = some (some v) ∧ r.rd G v x := by
  obtain ⟨ov, h1, v, h2, h3⟩ := E.sl i _ h
  exact ⟨v, by rw [h1, h2], h3⟩
def Ctx.set (Z : Ctx) (i : Nat) (s : Slot) : Ctx := ⟨Z.b, Z.sl.set i s, Z.ce⟩
def Ctx.setC (Z : Ctx) (cs : List Cell) : Ctx := ⟨Z.b, Z.sl, cs⟩
section
variable {X : Cx}
structure wE (X : Cx) (e : Expr) (σ : L2.St) (H : Hp) (Q : VK) : Prop where
  run : ∀ pins s, Inv X pins σ H s → wpAny (model X.prog X.w) X.A (eval e X.env) (EP X pins σ Q) X.xe s
structure wT (X : Cx) (e : Expr) (σ : L2.St) (H : Hp) (Q : Bool → Hp → Prop) : Prop where
  run : ∀ pins s, Inv X pins σ H s → wpAny (model X.prog X.w) X.A (isTrue e X.env (eval e X.env)) (TP X pins σ Q) X.xe s
structure wW (X : Cx) (e : Expr) (σ : L2.St) (H : Hp) (Q : Bool → Hp → Prop) : Prop where
  run : ∀ whole pins s, Inv X pins σ H s → wpAny (model X.prog X.w) X.A (isTrue e X.env whole) (TP X pins σ Q) X.xe s
structure wA (X : Cx) (es : List Expr) (σ : L2.St) (H : Hp) (Q : List V → Hp → Prop) : Prop where
  run : ∀ pos pins s, Inv X pins σ H s → wpAny (model X.prog X.w) X.A (spliced (backTo pos (starEach es X.env))) (AP X pins σ Q) X.xe s
structure wS (X : Cx) (st : Stmt) (D : Ends) (σ : L2.St) (H : Hp) : Prop where
  run : ∀ pins s, Inv X pins σ H s → wpAny (model X.prog X.w) X.A (exec st X.env) (SP X pins D) X.xe s
structure wSs (X : Cx) (st : List Stmt) (D : Ends) (σ : L2.St) (H : Hp) : Prop where
  run : ∀ pins s, Inv X pins σ H s → wpAny (model X.prog X.w) X.A (execs st X.env) (SP X pins D) X.xe s
theorem ce {e : Expr} : PE X e (wE X e) := ⟨fun pins s _ _ _ I h => h.run pins s I⟩
end

inductive Slv (G : Hp) : List V → List Slot → Prop
  | nil : Slv G [] []
  | cons {α : Type} {r : Rel α} {x : α} {v : V} {vs : List V} {ss : List Slot} : r.rd G v x → Slv G vs ss → Slv G (v :: vs) (.val r x :: ss)
section
variable {X : Cx} {Z : Ctx} {α β γ : Type} {r : Rel α} {x : α} {pos : Pos}
variable {a b c : Expr} {i j : Int}
end
end PL

namespace PL
open PySem PySem.Spec PyProof.Rows L2
section
variable {X : Cx} {Z : Ctx} {α β γ : Type} {r : Rel α} {x : α} {pos : Pos} {a b c e : Expr} {es : List Expr} {D : Ends} {rest : List Stmt}
variable {p : Pos} {n : Str}
end
end PL

namespace PL
open PySem PySem.Spec PyProof.Rows L2
inductive SubS : List Slot → List Slot → Prop
  | nil : SubS [] []
  | any {s : Slot} {l m : List Slot} : SubS l m → SubS (s :: l) (.any :: m)
  | same {s : Slot} {l m : List Slot} : SubS l m → SubS (s :: l) (s :: m)
  | eq {s t : Slot} {l m : List Slot} : s = t → SubS l m → SubS (s :: l) (t :: m)
theorem SubS.get {l m : List Slot} (h : SubS l m) : ∀ (i : Nat) (t : Slot), m[i]? = some t → ∃ s, l[i]? = some s ∧ (t = .any ∨ t = s) := by
  induction h with
  | nil => intro i t e; simp at e
  | any _ ih =>
    intro i t e
    cases i with
    | zero => simp at e; exact ⟨_, rfl, .inl e.symm⟩
    | succ i => simpa using ih i t (by simpa using e)
  | same _ ih =>
    intro i t e
    cases i with
    | zero => simp at e; exact ⟨_, rfl, .inr e.symm⟩
    | succ i => simpa using ih i t (by simpa using e)
  | eq q _ ih =>
    intro i t e
    cases i with
    | zero => simp at e; exact ⟨_, rfl, .inr (e.symm.trans q.symm)⟩
    | succ i => simpa using ih i t (by simpa using e)
structure Walks {α : Type} (J : It) (G : Hp) (r : Rel α) (xs : List α) : Prop where
  stop : ∀ i G1 H, Same G G1 → SmF G1 H → xs.length ≤ i → J.stop i H
  go : ∀ i G1 H, Same G G1 → SmF G1 H → i < xs.length → J.go i H
  yld : ∀ i G1 H v H', Same G G1 → SmF G1 H → i < xs.length → J.yld i H v H' → ∃ x G2, xs[i]? = some x ∧ Ext G1 H G2 H' ∧ r.rd G2 v x
section
variable {X : Cx} {Z : Ctx} {α β γ : Type} {r : Rel α} {x : α} {pos p : Pos} {a b c e tg : Expr} {es : List Expr} {D : Ends} {rest : List Stmt}
structure wG (X : Cx) (tg : Expr) (v : V) (σ : L2.St) (H : Hp) (Q : L2.St → Hp → Prop) : Prop where
  run : ∀ pins s u, Inv X pins σ H s → RelV v u → wpAny (model X.prog X.w) X.A (assign tg X.env u) (fun _ s' => ∃ σ' H', Inv X pins σ' H' s' ∧ Q σ' H') X.xe s
end

section
variable {X : Cx} {Z : Ctx} {α β γ : Type} {r : Rel α} {x : α} {pos p : Pos} {tg e elt : Expr} {D : Ends} {rest : List Stmt}
end
end PL

namespace PL
open PySem PySem.Spec PyProof.Rows L2
theorem set_self {α : Type _} : ∀ {l : List α} {i : Nat} {x : α}, l[i]? = some x → l.set i x = l
  | [], _, _, h => by simp at h
  | a :: l, 0, x, h => by simp at h; subst h; rfl
  | a :: l, i + 1, x, h => by
    show a :: l.set i x = a :: l
    rw [set_self (l := l) (i := i) (by simpa using h)]
theorem nd_inj {α : Type _} : ∀ {l : List α}, l.Nodup → ∀ {i j : Nat} {x : α}, l[i]? = some x → l[j]? = some x → i = j
  | [], _, i, j, x, h, _ => by simp at h
  | a :: l, nd, i, j, x, h1, h2 => by
    obtain ⟨n1, n2⟩ := List.nodup_cons.mp nd
    cases i with
    | zero =>
      cases j with
      | zero => rfl
      | succ j =>
        simp at h1 h2
        subst h1
        exact absurd (List.mem_of_getElem? h2) n1
    | succ i =>
      cases j with
      | zero =>
        simp at h1 h2
        subst h2
        exact absurd (List.mem_of_getElem? h1) n1
      | succ j =>
        have e1 : l[i]? = some x := by simpa using h1
        have e2 : l[j]? = some x := by simpa using h2
        rw [nd_inj n2 e1 e2]
section
variable {P : Program} {w : World} {K : PySem.W.Frag} {mg : Str → Option Value} {base : Heap}
end
section
variable {X : Cx} {Z : Ctx} {α β γ δ ε ζ : Type} {r : Rel α} {s : Rel β} {t : Rel γ} {u : Rel δ} {rz : Rel ζ} {x : α} {y : β} {z : γ} {q : δ} {pos p : Pos} {a b c d e tg : Expr} {es : List Expr} {D : Ends} {rest : List Stmt} {n : Str} {k : Nat}
theorem Env.cell {G H : Hp} {σ : L2.St} {j : Nat} {o : Addr} {vs : List V} {xs ys : List α} (E : Env Z G H σ) (hj : Z.ce[j]? = some (.lst o r xs)) (hp : Paired (r.rd G) vs ys) (hly : ys.length ≤ sizeLine) : Env (Z.setC (Z.ce.set j (.lst o r ys))) G (upd H o (.lst vs)) σ := by
  have hjl : j < Z.ce.length := (List.getElem?_eq_some_iff.mp hj).1
  have hmem : Cell.lst o r xs ∈ Z.ce := List.mem_of_getElem? hj
  obtain ⟨h0, hG, vs0, hH, _, _⟩ := Cell.ok_lst (E.ce _ hmem)
  have s1 : ∀ F : Hp, F o = none → Same F H → Same F (upd H o (.lst vs)) := fun F hF s b x e => by
    rw [upd_ne (ne_of_none e hF)]
    exact s b x e
  have hm : (Z.ce.set j (.lst o r ys)).map Cell.addr = Z.ce.map Cell.addr := by
    rw [List.map_set]
    have : (Z.ce.map Cell.addr)[j]? = some o := by rw [List.getElem?_map, hj]; rfl
    exact set_self this
  refine ⟨⟨E.ex.g, SmF.updo hG E.ex.s, s1 _ h0 E.ex.h, E.ex.n⟩, E.ab, E.sl, fun c hc => ?_, by show ((Z.ce.set j _).map Cell.addr).Nodup; rw [hm]; exact E.nd⟩
  obtain ⟨i, hi⟩ := List.getElem?_of_mem hc
  have hi' : (Z.ce.set j (.lst o r ys))[i]? = some c := hi
  by_cases hij : j = i
  · subst hij
    rw [List.getElem?_set_self hjl] at hi'
    have e := Option.some.inj hi'
    subst e
    exact Cell.lst_ok h0 hG upd_same hp hly
  · rw [List.getElem?_set_ne hij] at hi'
    have hc' := E.ce c (List.mem_of_getElem? hi')
    have hne : c.addr ≠ o := fun z => by
      have e1 : (Z.ce.map Cell.addr)[i]? = some o := by rw [List.getElem?_map, hi']; exact congrArg some z
      have e2 : (Z.ce.map Cell.addr)[j]? = some o := by rw [List.getElem?_map, hj]; rfl
      exact hij (nd_inj E.nd e2 e1)
    exact Cell.ok_upd hc' hne
structure DataR {α : Type} (K : PySem.W.Frag) (r : Rel α) (n : Nat) where
  toD : α → PyData
  dp : ∀ G v x, r.rd G v x → Dp K G v (toD x)
  lay : ∀ G v x, r.rd G v x → (toD x).canLay0 = true
  dep : ∀ x, (toD x).depth ≤ n
  eqv : ∀ x y, PyData.eqv (toD x) (toD y) = true ↔ x = y
end
end PL

namespace PL
open PySem PySem.Spec PyProof.Rows L2
section
variable {P : Program} {w : World} {K : PySem.W.Frag} {mg : Str → Option Value} {base : Heap}
end
section
variable {X : Cx} {Z Z' Z2 : Ctx} {α β γ : Type} {r : Rel α} {s : Rel β} {x : α} {pos p : Pos} {a b c e : Expr} {es : List Expr} {D : Ends} {rest : List Stmt} {n : Str} {k : Nat}
end
end PL

namespace PL
open PySem PySem.Spec PyProof.Rows L2
section
variable {X : Cx} {Z : Ctx} {α β γ : Type} {r : Rel α} {x : α} {pos p p1 p2 : Pos} {a b c e : Expr} {D : Ends} {rest : List Stmt} {n : Str} {k : Nat}
end
end PL

namespace PL
open PySem PySem.Spec PyProof.Rows L2
def Bt (n : Nat) (i : Int) : Prop := i.natAbs.log2 ≤ n
section
variable {X : Cx} {Z : Ctx} {pos : Pos} {a b : Expr} {i j : Int}
end
theorem log2_le {a n : Nat} (h : a < 2 ^ (n + 1)) : a.log2 ≤ n := by
  by_cases h0 : a = 0
  · subst h0
    exact Nat.zero_le _
  · have := (Nat.log2_lt h0).mpr h
    omega
theorem Bt.of {i : Int} {n : Nat} (h : i.natAbs < 2 ^ (n + 1)) : Bt n i := log2_le h
end PL

namespace PL
open PySem PySem.Spec PyProof.Rows L2
section
variable {X : Cx} {Z W : PL.Ctx} {body : List Stmt} {D : Ends} {α : Type} {r : Rel α} {x y : α} {pos : Pos} {a b : Expr}
end
end PL

namespace PL
open PySem PySem.Spec PyProof.Rows L2
section
variable {X : Cx} {Z : PL.Ctx} {α β γ : Type} {r : Rel α} {pos p p2 : Pos} {a b c e tg : Expr} {x y z : Text} {k : Nat} {n : Str}
end
end PL

namespace PL
open PySem PySem.Spec PyProof.Rows L2
section
variable {P : Program} {w : World} {K : PySem.W.Frag} {mg : Str → Option Value} {base : Heap} {α : Type} {r : Rel α}
end
section
variable {X : Cx} {Z : PL.Ctx} {α β γ δ : Type} {r : Rel α} {pos p : Pos} {a b c e : Expr} {es : List Expr} {D : Ends} {rest : List Stmt} {n : Str} {k : Nat}
end
end PL

namespace PL
open PySem PySem.Spec PyProof.Rows L2
section
variable {X : Cx} {Z : PL.Ctx} {α β γ δ : Type} {r : Rel α} {s : Rel β} {t : Rel γ} {u : Rel δ} {x : α} {y : β} {z : γ} {q : δ} {pos p : Pos} {a b c d e : Expr} {es : List Expr} {D : Ends} {rest : List Stmt} {n : Str} {k : Nat}
variable {y3 : α × β × γ}
end
end PL

namespace PL
open PySem PySem.Spec PyProof.Rows L2
section
variable {α : Type} {r : Rel α} {G : Hp}
end
section
variable {X : Cx} {Z : Ctx} {α β γ : Type} {r : Rel α} {s : Rel β} {x : α} {pos p pos' : Pos} {a b c d e o : Expr} {D : Ends} {rest : List Stmt} {n : Str} {k : Nat} {t : Text} {kvs : List (Text × α)}
end
section
variable {P : Program} {w : World} {K : PySem.W.Frag} {mg : Str → Option Value} {base : Heap}
end
section
variable {X : Cx} {Z : Ctx} {α β γ : Type} {r : Rel α} {s : Rel β} {x : α} {pos p apos : Pos} {e o : Expr} {es : List Expr} {D : Ends} {rest : List Stmt} {n m : Str} {k : Nat} {C : Addr}
end
end PL

namespace PL
open PySem PySem.Spec PyProof.Rows L2
section
variable {X : Cx} {Z : Ctx} {α β γ : Type} {r : Rel α} {s : Rel β} {x : α} {pos p apos : Pos} {a b c d e o tg : Expr} {es : List Expr} {D : Ends} {rest : List Stmt} {n : Str} {k : Nat} {t u : Text} {i j l : Int}
section
variable {op op' : CmpOp} {R R' : R2} {ra : Rel α} {rb : Rel β} {rc : Rel γ} {xa : α} {xb : β} {xc : γ} {k1 k2 : Bool}
end
end
end PL

namespace PL
open PySem PySem.Spec PyProof.Rows L2
section
variable {α β γ : Type} {r : Rel α} {s : Rel β} {t : Rel γ} {K : PySem.W.Frag}
end
section
variable {X : Cx} {Z : Ctx} {α β γ : Type} {r : Rel α} {s : Rel β} {x : α} {y : β} {e : Expr}
end
end PL

namespace PL
open PySem PySem.Spec PyProof.Rows L2
section
variable {X : Cx} {Z : Ctx} {α β γ : Type} {r : Rel α} {x : α} {pos p : Pos} {a b c e : Expr} {es : List Expr}
variable {D : Ends} {rest th el : List Stmt} {k : Bool}
end
end PL

namespace PL
open PySem PySem.Spec PyProof.Rows L2
inductive Rs (α : Type) : Type
  | ok (a : α) : Rs α
  | ex (c : Nat) : Rs α
  | no : Rs α
def Rs.bd {α β : Type} (m : Rs α) (f : α → Rs β) : Rs β := match m with
  | .ok a => f a
  | .ex c => .ex c
  | .no => .no
@[simp] theorem Rs.bd_ok {α β : Type} (a : α) (f : α → Rs β) : (Rs.ok a).bd f = f a := rfl
@[simp] theorem Rs.bd_ex {α β : Type} (c : Nat) (f : α → Rs β) : (Rs.ex c).bd f = .ex c := rfl
@[simp] theorem Rs.bd_no {α β : Type} (f : α → Rs β) : (Rs.no : Rs α).bd f = .no := rfl
theorem Rs.bd_as {α β γ : Type} (m : Rs α) (f : α → Rs β) (g : β → Rs γ) : (m.bd f).bd g = m.bd fun x => (f x).bd g := by cases m <;> rfl
def mapR {α β : Type} (f : α → Rs β) : List α → Rs (List β)
  | [] => .ok []
  | x :: xs => (f x).bd fun y => (mapR f xs).bd fun ys => .ok (y :: ys)
inductive Stp (S ζ : Type) : Type
  | nxt (s : S) : Stp S ζ
  | brk (s : S) : Stp S ζ
  | ret (z : ζ) : Stp S ζ
section
variable {α β S ζ O : Type}
end
section
variable {X : Cx} {Z : PL.Ctx} {α β γ S ζ O : Type} {r : Rel α} {s : Rel β} {x : α} {pos p : Pos} {a b c e tg elt : Expr} {es : List Expr} {D : O → Ends} {body rest : List Stmt} {n : Str} {k : Nat}
variable {m m1 m2 : Rs O}
end
end PL

namespace PL
open PySem PySem.Spec PyProof.Rows L2
section
variable {X : Cx} {Z : PL.Ctx} {α β γ S ζ O : Type} {r : Rel α} {s : Rel β} {x : α} {pos p p2 : Pos} {a b c e tg elt d : Expr} {es : List Expr} {D : O → Ends} {body rest : List Stmt} {n : Str} {k : Nat} {i j : Int} {xs ys : List α} {t u : Text}
section
variable {scope : Scope} {own : List (Str × Nat)} {ifs : List Expr} {a' tg' : Expr}
end
end
end PL

namespace PL
open PySem PySem.Spec PyProof.Rows L2
section
variable {X : Cx} {Z : PL.Ctx} {α β γ δ ε S ζ O : Type} {r : Rel α} {s : Rel β} {r3 : Rel γ} {r4 : Rel δ} {x : α} {pos p p2 : Pos} {a b c e f tg elt d : Expr} {es : List Expr} {D : O → Ends} {body rest : List Stmt} {n : Str} {k : Nat} {i j : Int} {xs ys : List α} {t u : Text}
end
end PL

namespace PL
open PySem PySem.Spec PyProof.Rows L2
section
variable {X : Cx} {Z : PL.Ctx} {α β γ S ζ O : Type} {r : Rel α} {s : Rel β} {x : α} {pos p p2 : Pos} {a b c e f tg elt d : Expr} {es : List Expr} {D : O → Ends} {body rest th el : List Stmt} {n : Str} {k : Nat} {i j : Int} {xs ys : List α} {t u : Text} {m : Rs α} {g : α → Rs O}
end
end PL

namespace PL
open PySem PySem.Spec PyProof.Rows L2
section
variable {α β S T ζ O : Type}
end
section
variable {α β S T ζ O : Type} {m m1 m2 : Rs α} {f : α → Rs β} {P : α → Prop} {Q : β → Prop} {k : Bool}
def Yes (m : Rs α) (Q : α → Prop) : Prop := ∃ y, m = .ok y ∧ Q y
theorem Yes.ok {y : β} (h : Q y) : Yes (.ok y) Q := ⟨y, rfl, h⟩
theorem Yes.bd (h : Yes m P) (q : ∀ x, P x → Yes (f x) Q) : Yes (m.bd f) Q := by
  obtain ⟨x, rfl, h2⟩ := h
  exact q x h2
theorem Yes.by {x : α} (h : m = .ok x) (q : Yes (f x) Q) : Yes (m.bd f) Q := by
  subst h
  exact q
theorem Yes.val {x : α} (q : Yes (f x) Q) : Yes ((Rs.ok x).bd f) Q := q
theorem Yes.as {γ : Type} {g : β → Rs γ} {R : γ → Prop} (q : Yes (m.bd fun x => (f x).bd g) R) : Yes ((m.bd f).bd g) R := by
  rw [Rs.bd_as]
  exact q
theorem Yes.map {h : α → Rs β} {xs : List α} {R : List β → Prop} {T : α → β → Prop} (hs : ∀ x ∈ xs, Yes (h x) (T x)) (q : ∀ ys : List β, Paired T xs ys → R ys) : Yes (mapR h xs) R := by
  induction xs generalizing R with
  | nil => exact ⟨[], rfl, q [] .nil⟩
  | cons x xs ih =>
    obtain ⟨y, e1, t1⟩ := hs x (List.mem_cons_self ..)
    obtain ⟨ys, e2, t2⟩ := ih (R := fun ys => Paired T xs ys) (fun z hz => hs z (List.mem_cons_of_mem _ hz)) fun _ h => h
    exact ⟨y :: ys, by unfold mapR; rw [e1, e2]; rfl, q _ (.cons t1 t2)⟩
end
end PL

namespace PL
open PySem PySem.Spec PyProof.Rows L2
section
variable {X : Cx} {Z : PL.Ctx} {α β γ δ S ζ O τ : Type} {r : Rel α} {s : Rel β} {x : α} {pos p p2 : Pos} {a b c e f tg elt d : Expr} {es : List Expr} {D : O → Ends} {body rest th el : List Stmt} {n : Str} {k : Nat} {Zs : S → PL.Ctx}
variable {mi : Rs (Int × S)} {mj : Int × S → Rs (Int × S)} {mt : Rs (Text × S)} {mu : Text × S → Rs (Text × S)} {mv : Text × S → Rs (Int × S)} {ml : Rs (List α × S)} {mw : List α × S → Rs (Int × S)}
end
end PL

namespace PL
open PySem PySem.Spec PyProof.Rows L2
section
variable {P : Program} {w : World} {K : PySem.W.Frag} {mg : Str → Option Value} {base : Heap} {τ : Type} {rt : Rel τ}
end
section
variable {X : Cx} {Z : PL.Ctx} {α β γ δ S ζ O τ : Type} {r : Rel α} {s : Rel β} {rt : Rel τ} {x : α} {pos p p2 : Pos} {a b c e f tg elt d : Expr} {es : List Expr} {D : O → Ends} {body rest th el : List Stmt} {n v : Str} {k : Nat} {Zs : S → PL.Ctx} {Zl : List τ → PL.Ctx}
variable {m : Rs (α × S)} {g : α × S → Rs O}
end
end PL

namespace PL
open PySem PySem.Spec PyProof.Rows L2
section
variable {X : Cx} {Z : PL.Ctx} {α β γ δ S ζ O τ : Type} {r : Rel α} {s : Rel β} {rt : Rel τ} {x : α} {pos p p2 : Pos} {a b c e f tg elt d : Expr} {es : List Expr} {D : O → Ends} {body rest th el : List Stmt} {n : Str} {k : Nat} {Zs : S → PL.Ctx}
end
end PL

namespace PL
open PySem PySem.Spec PyProof.Rows L2 TL
section
variable {X : Cx} {Z : PL.Ctx} {α β S ζ O τ : Type} {r : Rel α} {rt : Rel τ} {pos p apos : Pos} {a b e : Expr} {es : List Expr} {n v : Str} {k : Nat} {Zs : S → PL.Ctx} {Zl : List τ → PL.Ctx} {t : Text} {xs : List Text}
end
end PL

namespace PL
open PySem PySem.Spec PyProof.Rows L2 TL
section
variable {α β S : Type}
theorem Yes.then {α β : Type} {m : Rs α} {f : α → Rs β} {P : α → Prop} {Q : β → Prop} (h : Yes m P) (q : ∀ x, P x → Yes (f x) Q) : Yes (m.bd f) Q := h.bd q
end
end PL

namespace PL
open PySem PySem.Spec PyProof.Rows L2
structure IsC (K : PySem.W.Frag) (C : Addr) : Prop where
  ha : PySem.W.findIn K (.ref C) "__class__" = some (some (.builtin "object.__class__"))
  hs : PySem.W.specialIn K (.builtin "object.__class__") "__get__" = some (some (.builtin "getset_descriptor.__get__"))
  ht : PySem.W.takesIn K (.builtin "object.__class__") = some true
  hm : PySem.W.mroIn K C (.type "object") = some true
section
variable {X : Cx} {Z : PL.Ctx} {α β O : Type} {r : Rel α} {x : α} {pos p : Pos} {a : Expr} {D : O → Ends} {rest : List Stmt}
end
end PL

namespace PL
open PySem PySem.Spec PyProof.Rows L2
structure Mk0 (K : PySem.W.Frag) (C : Addr) : Prop where
  makes : PySem.W.makesIn K C = true
  init : PySem.W.findIn K (.ref C) "__init__" = some (some (.builtin "object.__init__"))
  kp : PySem.W.keepIn K (.ref C) = true
section
variable {X : Cx} {C : Addr} {x : Str} {p pos : Pos}
end
section
variable {P : Program} {w : World} {K : PySem.W.Frag} {mg : Str → Option Value} {base : Heap} {n m : Str} {C : Addr} {j k : Nat} {sp sp' : Sp}
end
section
variable {X : Cx} {Z : PL.Ctx} {α β O : Type} {r : Rel α} {x : α} {pos p : Pos} {a : Expr}
end
end PL

namespace PL
open PySem PySem.Spec PyProof.Rows L2
def isFnK : ScopeKind → Bool
  | .function => true
  | _ => false
def isFreeK : NameKind → Bool
  | .free => true
  | _ => false
def isLocK : Option NameKind → Bool
  | some .local => true
  | some .cell => true
  | _ => false
def scB (N P : List Str) (sc : Scope) : Bool := isFnK sc.kind && (!sc.isCoroutine && (!sc.isGenerator && (decide N.Nodup && (decide (N.take P.length = P) && ((P.all fun x => isLocK (sc.names.lookup x)) && (sc.names.all fun y => !isFreeK y.2))))))
theorem scp_of {N P : List Str} {sc : Scope} (h : scB N P sc = true) : FnScope N P sc := by
  unfold scB at h
  simp only [Bool.and_eq_true, Bool.not_eq_true', List.all_eq_true, decide_eq_true_eq] at h
  obtain ⟨h1, h2, h3, h4, h5, h6, h7⟩ := h
  refine ⟨?_, h2, h3, h4, h5, fun x hx => ?_, fun y hy z => ?_⟩
  · cases e : sc.kind <;> rw [e] at h1 <;> first | rfl | cases h1
  · have := h6 x hx
    cases e : sc.names.lookup x with
    | none => rw [e] at this; cases this
    | some k =>
      rw [e] at this
      cases k <;> first | exact .inl rfl | exact .inr rfl | cases this
  · have := h7 y hy
    rw [z] at this
    cases this
end PL

namespace PL
open PySem PySem.Spec PyProof.Rows L2
def dupM : List Addr → Nat → List Addr
  | [], _ => []
  | a :: r, m => bif ((m >>> a) % 2 == 1) then dupM r m else a :: dupM r (m ||| (1 <<< a))
def growM (g : Addr → Option Obj) (as : List Addr) : List Addr := dupM (as ++ as.flatMap fun a => match g a with
  | some o => He.refsD o
  | none => []) 0
def asM (g : Addr → Option Obj) : Nat → List Addr
  | 0 => [mainGlobals]
  | n + 1 => growM g (asM g n)
def obsY (n : Nat) (fa : List He.Fa) (fn : List He.DefD) (ck : PySem.W.Frag → Bool) (g : Addr → Option Obj) : He.AlD × Bool := let K := He.frG g (asM g n); (He.obsD fa fn K, ck K)
def hookY (n : Nat) (fa : List He.Fa) (fn : List He.DefD) (ck : PySem.W.Frag → Bool) : PySem.W.Hook where
  α := He.AlD × Bool
  obs := fun s => obsY n fa fn ck s.heap.get?
  val := fun _ => (He.valD fn, true)
  says := fun _ h => ∃ K : PySem.W.Frag, K.In h ∧ He.SaysD fa fn K ∧ ck K = true
  of := fun _ _ e => ⟨_, He.frG_in, congrArg (fun z : He.AlD × Bool => z.1) e, congrArg (fun z : He.AlD × Bool => z.2) e⟩
  keeps := fun _ _ _ ⟨K, hK, c⟩ k => ⟨K, PySem.W.Frag.In.keeps hK k, c⟩
theorem obsY_eq {n : Nat} {fa : List He.Fa} {fn : List He.DefD} {ck : PySem.W.Frag → Bool} {g : Addr → Option Obj} {s : Shared} (h : ∀ a, g a = s.heap.get? a) : obsY n fa fn ck g = (hookY n fa fn ck).obs s := by
  have e : g = s.heap.get? := funext h
  rw [e] <;> rfl
end PL

namespace PL
open PySem PySem.W PySem.Calls PyProof.Rows HandSHeadRun
theorem opt_three {α β γ δ : Type} {o : Option α} {f : α → β} {g : α → γ} {h : α → δ} {a : β} {b : γ} {c : δ} (h1 : o.map (fun s => (f s, g s)) = some (a, b)) (h2 : o.map h = some c) : o.map (fun s => (f s, g s, h s)) = some (a, b, c) := by
  cases o with
  | none => cases h2
  | some s =>
    cases h1
    cases h2
    rfl
def RunA (r : OpenRow) (q : Program) (M : Nat) (loose : List PySem.Str) (w : World) : Prop :=
  ∀ os : OsState, (endF (stepQ (denQ tabQ) r.prog w) M r.prog w os).map (fun s => (looksF r.prog (boot_heap w.params) s.abs, HandSHeadRun.seenQ q loose (importedModules r.prog.main.body) (fun s => xlAt q [] s && recOk r.toRowW.records s) s.abs)) = some (true, openGood q loose)
def RunB (r : OpenRow) (H : Hook) (ob : SharedT → H.α) (M : Nat) (w : World) : Prop :=
  ∀ os : OsState, (endF (stepQ (denQ tabQ) r.prog w) M r.prog w os).map (fun s => ob s) = some (H.val w)
theorem run_of {r : OpenRow} {q : Program} {H : Hook} {ob : SharedT → H.α} {M : Nat} {loose : List PySem.Str} {w : World} (a : RunA r q M loose w) (b : RunB r H ob M w) : RunEq r q H ob M loose w := fun os => opt_three (a os) (b os)
end PL

namespace PL
open PySem PySem.W PySem.Calls PyProof.Rows HandSHeadRun
theorem opt_two {α β γ : Type} {o : Option α} {f : α → β} {g : α → γ} {a : β} {b : γ} (h1 : o.map (fun s => f s) = some a) (h2 : o.map (fun s => g s) = some b) : o.map (fun s => (f s, g s)) = some (a, b) := by
  cases o with
  | none => cases h2
  | some s =>
    cases h1
    cases h2
    rfl
def RunC {β : Type} (r : OpenRow) (f : SharedT → β) (b : β) (M : Nat) (w : World) : Prop := ∀ os : OsState, (endF (stepQ (denQ tabQ) r.prog w) M r.prog w os).map (fun s => f s) = some b
theorem runB_of {n : Nat} {fa : List He.Fa} {fn : List He.DefD} {ck : PySem.W.Frag → Bool} {r : OpenRow} {M : Nat} {w : World}
    (h1 : RunC r (fun s => He.obsD fa fn (He.frG (getT s) (asM (getT s) n))) (He.valD fn) M w) (h2 : RunC r (fun s => ck (He.frG (getT s) (asM (getT s) n))) true M w) :
    RunB r (hookY n fa fn ck) (fun s => obsY n fa fn ck (getT s)) M w := fun os => opt_two (h1 os) (h2 os)
end PL

namespace PL
open PySem PySem.Spec PyProof.Rows L2
structure ExcF (K : PySem.W.Frag) (mg : Str → Option Value) (x : Str) : Prop where
  q : PySem.W.excIn K (He.ga K x) He.veBase "ValueError.__new__" = true
  g : mg x = some (.ref (He.ga K x))
  k : PySem.W.keepIn K (.ref (He.ga K x)) = true
  r1 : PySem.W.subIn K (.ref (He.ga K x)) (.type "BaseException") = some true
  r2 : PySem.W.typeIn K (.ref (He.ga K x)) = some (.type "type")
def excFB (K : PySem.W.Frag) (C : Addr) : Bool := PySem.W.excIn K C He.veBase "ValueError.__new__" && (PySem.W.keepIn K (.ref C) && (decide (PySem.W.subIn K (.ref C) (.type "BaseException") = some true) && decide (PySem.W.typeIn K (.ref C) = some (.type "type"))))
def excCB (K : PySem.W.Frag) (D : Addr) : Bool := decide (PySem.W.findIn K (.ref D) "__getattribute__" = some (some (.builtin "BaseException.__getattribute__"))) && (decide (PySem.W.findIn K (.ref D) "__getattr__" = some none) && (decide (PySem.W.subIn K (.ref D) (.type "BaseException") = some true) && (PySem.W.hasDictIn K D && (decide (PySem.W.findIn K (.ref D) "__class__" = some (some (.builtin "object.__class__"))) && (decide (PySem.W.specialIn K (.builtin "object.__class__") "__get__" = some (some (.builtin "getset_descriptor.__get__"))) && (decide (PySem.W.takesIn K (.builtin "object.__class__") = some true) && decide (PySem.W.mroIn K D (.type "object") = some true)))))))
def exmB (K : PySem.W.Frag) (D C : Addr) (b : Bool) : Bool := decide (PySem.W.exmOne K (.ref D) (.ref C) = some b)
def kitXB (K : PySem.W.Frag) (D : Addr) (c : Value) (b : Bool) : Bool := decide (PySem.W.kitOne K (.ref D) c = some b)
end PL

namespace PL
open PySem PySem.Spec PyProof.Rows L2
section
variable {X : Cx} {Z : PL.Ctx} {α β γ δ O : Type} {r : Rel α} {s : Rel β} {t : Rel γ} {x : α} {pos p p2 py : Pos} {a b e : Expr} {es : List Expr} {D : O → Ends} {rest : List Stmt} {n : Str} {k : Nat} {G0 H0 : Hp} {c0 : Str}
end
section
variable {P : Program} {w : World} {K : PySem.W.Frag} {mg : Str → Option Value} {base : Heap}
end
end PL

namespace PL
open PySem PySem.Spec PyProof.Rows L2
section
variable {X : Cx} {Z : PL.Ctx} {S O : Type} {n x : Str} {c : Value} {i : Nat} {body suite rest : List Stmt} {b₀ : Stmt} {np pos pos' : Pos} {D : O → Ends}
structure HX (K : PySem.W.Frag) (C : Addr) (oe : Obj) : Prop where
  z : Zc (.ref C) none oe
  f : ∃ vs, oe.data = .fields vs
  n : ∀ vs : Array Value, oe.data = .fields vs → vs[2]? = some .none
end
section
variable {X : Cx} {Z : PL.Ctx} {a D : Addr} {oe : Obj} {pn : List (Addr × Obj)} {n m : Str} {pos p pe pu : Pos}
end
end PL
namespace PL
open PySem PySem.Spec PyProof.Rows L2
end PL

namespace PL
open PySem PySem.Spec PyProof.Rows L2
section
variable {X : Cx} {Z : PL.Ctx} {α β γ δ O : Type} {r : Rel α} {s : Rel β} {x : α} {pos p p2 py : Pos} {a b e c : Expr} {es : List Expr} {D : O → Ends} {rest : List Stmt} {n : Str} {k : Nat} {G0 H0 : Hp} {c0 : Str} {m : Rs Unit}
end
end PL

namespace Tp
open PySem PySem.Spec PyProof.Rows L2 PL
def top (i : Nat) : Stmt := PySem.Challenge.pw_shownranks_k10_refusals.main.body.getD i (.Pass ⟨0, 0, 0, 0⟩)
abbrev s__wall : Stmt := top 0
def d__wall : He.DefD := ⟨("_wall", none), "_wall", "_wall", defArgs s__wall, defBody s__wall, defScope s__wall, [], []⟩
abbrev s_rule_is_of : Stmt := top 20
theorem sc_rule_is_of : FnScope ["word", "signs", "least", "most", "sign"] ["word", "signs", "least", "most"] (defScope s_rule_is_of) := scp_of (by kernel_rfl)
abbrev F_rule_is_of (K : PySem.W.Frag) (f : Addr) (fd : FuncData) : Prop := FunD K "rule_is_of" "rule_is_of" (defArgs s_rule_is_of) (defBody s_rule_is_of) (defScope s_rule_is_of) [] [] f fd
def d_rule_is_of : He.DefD := ⟨("rule_is_of", none), "rule_is_of", "rule_is_of", defArgs s_rule_is_of, defBody s_rule_is_of, defScope s_rule_is_of, [], []⟩
abbrev s_rule_fits : Stmt := top 21
theorem sc_rule_fits : FnScope ["ending", "instead", "least"] ["ending", "instead", "least"] (defScope s_rule_fits) := scp_of (by kernel_rfl)
abbrev F_rule_fits (K : PySem.W.Frag) (f : Addr) (fd : FuncData) : Prop := FunD K "rule_fits" "rule_fits" (defArgs s_rule_fits) (defBody s_rule_fits) (defScope s_rule_fits) [] [] f fd
def d_rule_fits : He.DefD := ⟨("rule_fits", none), "rule_fits", "rule_fits", defArgs s_rule_fits, defBody s_rule_fits, defScope s_rule_fits, [], []⟩
abbrev s_Rulebook_init : Stmt := inClass (top 22) 0
theorem sc_Rulebook_init : FnScope ["self", "endings", "silent", "ending", "instead", "least", "word"] ["self", "endings", "silent"] (defScope s_Rulebook_init) := scp_of (by kernel_rfl)
abbrev F_Rulebook_init (K : PySem.W.Frag) (f : Addr) (fd : FuncData) : Prop := FunD K "__init__" "Rulebook.__init__" (defArgs s_Rulebook_init) (defBody s_Rulebook_init) (defScope s_Rulebook_init) [] [] f fd
def d_Rulebook_init : He.DefD := ⟨("Rulebook", some "__init__"), "__init__", "Rulebook.__init__", defArgs s_Rulebook_init, defBody s_Rulebook_init, defScope s_Rulebook_init, [], []⟩
abbrev s_Rulebook_brought : Stmt := inClass (top 22) 1
def d_Rulebook_brought : He.DefD := ⟨("Rulebook", some "brought"), "brought", "Rulebook.brought", defArgs s_Rulebook_brought, defBody s_Rulebook_brought, defScope s_Rulebook_brought, [], []⟩
abbrev s_Rulebook_is_silent : Stmt := inClass (top 22) 2
def d_Rulebook_is_silent : He.DefD := ⟨("Rulebook", some "is_silent"), "is_silent", "Rulebook.is_silent", defArgs s_Rulebook_is_silent, defBody s_Rulebook_is_silent, defScope s_Rulebook_is_silent, [], []⟩
abbrev s_law_signs : Stmt := top 24
theorem sc_law_signs : FnScope [] [] (defScope s_law_signs) := scp_of (by kernel_rfl)
abbrev F_law_signs (K : PySem.W.Frag) (f : Addr) (fd : FuncData) : Prop := FunD K "_law_signs" "_law_signs" (defArgs s_law_signs) (defBody s_law_signs) (defScope s_law_signs) [] [] f fd
def d_law_signs : He.DefD := ⟨("_law_signs", none), "_law_signs", "_law_signs", defArgs s_law_signs, defBody s_law_signs, defScope s_law_signs, [], []⟩
abbrev s_law_text_by_digits : Stmt := top 25
theorem sc_law_text_by_digits : FnScope ["_law_number", "_law_most", "_law_signs_here", "_law_many", "_law_text", "_law_k"] ["_law_number", "_law_most"] (defScope s_law_text_by_digits) := scp_of (by kernel_rfl)
abbrev F_law_text_by_digits (K : PySem.W.Frag) (f : Addr) (fd : FuncData) : Prop := FunD K "_law_text_by_digits" "_law_text_by_digits" (defArgs s_law_text_by_digits) (defBody s_law_text_by_digits) (defScope s_law_text_by_digits) [] [] f fd
def d_law_text_by_digits : He.DefD := ⟨("_law_text_by_digits", none), "_law_text_by_digits", "_law_text_by_digits", defArgs s_law_text_by_digits, defBody s_law_text_by_digits, defScope s_law_text_by_digits, [], []⟩
abbrev s_law_sorts : Stmt := top 26
theorem sc_law_sorts : FnScope ["_law_e", "_law_some"] ["_law_e"] (defScope s_law_sorts) := scp_of (by kernel_rfl)
abbrev F_law_sorts (K : PySem.W.Frag) (f : Addr) (fd : FuncData) : Prop := FunD K "_law_sorts" "_law_sorts" (defArgs s_law_sorts) (defBody s_law_sorts) (defScope s_law_sorts) [] [] f fd
def d_law_sorts : He.DefD := ⟨("_law_sorts", none), "_law_sorts", "_law_sorts", defArgs s_law_sorts, defBody s_law_sorts, defScope s_law_sorts, [], []⟩
abbrev s_law_made : Stmt := top 27
theorem sc_law_made : FnScope ["_law_found", "_law_e"] [] (defScope s_law_made) := scp_of (by kernel_rfl)
abbrev F_law_made (K : PySem.W.Frag) (f : Addr) (fd : FuncData) : Prop := FunD K "_law_made" "_law_made" (defArgs s_law_made) (defBody s_law_made) (defScope s_law_made) [] [] f fd
def d_law_made : He.DefD := ⟨("_law_made", none), "_law_made", "_law_made", defArgs s_law_made, defBody s_law_made, defScope s_law_made, [], []⟩
abbrev s_law : Stmt := top 28
theorem sc_law : FnScope ["_law_script", "_law_text", "_law_some", "_law_k", "_law_e", "_law_j"] ["_law_script"] (defScope s_law) := scp_of (by kernel_rfl)
abbrev F_law (K : PySem.W.Frag) (f : Addr) (fd : FuncData) : Prop := FunD K "law" "law" (defArgs s_law) (defBody s_law) (defScope s_law) [] [] f fd
def d_law : He.DefD := ⟨("law", none), "law", "law", defArgs s_law, defBody s_law, defScope s_law, [], []⟩
def fn : List He.DefD := [d__wall, d_rule_is_of, d_rule_fits, d_Rulebook_init, d_Rulebook_brought, d_Rulebook_is_silent, d_law_signs, d_law_text_by_digits, d_law_sorts, d_law_made, d_law]
def fa : List He.Fa := [.glo "_wall", .glo "rule_is_of", .glo "rule_fits", .glo "_law_signs", .glo "_law_text_by_digits", .glo "_law_sorts", .glo "_law_made", .glo "law", .glo "SearchError", .exc "SearchError", .glo "NoRule", .glo "NoName", .glo "NoText", .glo "Lacking", .glo "NoMake", .glo "NoAsking", .glo "NoPath", .glo "NoWeighing", .glo "NoMany", .glo "Over", .glo "NoRow", .glo "Rulebook", .cls "Rulebook", .keep "Rulebook", .noat "Rulebook" "hushed", .noat "Rulebook" "tails", .mkr "Rulebook", .meth "Rulebook" "brought", .meth "Rulebook" "is_silent", .str "RULE_LETTERS" "abcdefghijklmnopqrstuvwxyz", .str "RULE_SIGNS" "abcdefghijklmnopqrstuvwxyz0123456789", .int "LONGEST_ENDING" 8, .int "LONGEST_PLAIN" 20, .int "MOST_LEFT" 20, .free "ValueError", .free "all", .free "any", .free "enumerate", .free "isinstance", .free "len", .free "range"]
abbrev R : PySem.W.OpenRow := PySem.W.OpenLaw.row PySem.Challenge.rw_shownranks_k10_refusals
def ck (K : PySem.W.Frag) : Bool := PL.excFB K (He.ga K "Lacking") && (PL.excCB K (He.ga K "Lacking") && (PL.exmB K (He.ga K "Lacking") (He.ga K "SearchError") true && (PL.kitXB K (He.ga K "Lacking") (.ref (He.ga K "Lacking")) true && (PL.kitXB K (He.ga K "Lacking") (.ref (He.ga K "NoAsking")) false && (PL.kitXB K (He.ga K "Lacking") (.ref (He.ga K "NoMake")) false && (PL.kitXB K (He.ga K "Lacking") (.ref (He.ga K "NoMany")) false && (PL.kitXB K (He.ga K "Lacking") (.ref (He.ga K "NoName")) false && (PL.kitXB K (He.ga K "Lacking") (.ref (He.ga K "NoPath")) false && (PL.kitXB K (He.ga K "Lacking") (.ref (He.ga K "NoRow")) false && (PL.kitXB K (He.ga K "Lacking") (.ref (He.ga K "NoRule")) false && (PL.kitXB K (He.ga K "Lacking") (.ref (He.ga K "NoText")) false && (PL.kitXB K (He.ga K "Lacking") (.ref (He.ga K "NoWeighing")) false && (PL.kitXB K (He.ga K "Lacking") (.ref (He.ga K "Over")) false && (PL.kitXB K (He.ga K "Lacking") (.ref (He.ga K "SearchError")) true && (PL.kitXB K (He.ga K "Lacking") (.type "ValueError") true && (PL.excFB K (He.ga K "NoAsking") && (PL.excCB K (He.ga K "NoAsking") && (PL.exmB K (He.ga K "NoAsking") (He.ga K "SearchError") true && (PL.kitXB K (He.ga K "NoAsking") (.ref (He.ga K "Lacking")) false && (PL.kitXB K (He.ga K "NoAsking") (.ref (He.ga K "NoAsking")) true && (PL.kitXB K (He.ga K "NoAsking") (.ref (He.ga K "NoMake")) false && (PL.kitXB K (He.ga K "NoAsking") (.ref (He.ga K "NoMany")) false && (PL.kitXB K (He.ga K "NoAsking") (.ref (He.ga K "NoName")) false && (PL.kitXB K (He.ga K "NoAsking") (.ref (He.ga K "NoPath")) false && (PL.kitXB K (He.ga K "NoAsking") (.ref (He.ga K "NoRow")) false && (PL.kitXB K (He.ga K "NoAsking") (.ref (He.ga K "NoRule")) false && (PL.kitXB K (He.ga K "NoAsking") (.ref (He.ga K "NoText")) false && (PL.kitXB K (He.ga K "NoAsking") (.ref (He.ga K "NoWeighing")) false && (PL.kitXB K (He.ga K "NoAsking") (.ref (He.ga K "Over")) false && (PL.kitXB K (He.ga K "NoAsking") (.ref (He.ga K "SearchError")) true && (PL.kitXB K (He.ga K "NoAsking") (.type "ValueError") true && (PL.excFB K (He.ga K "NoMake") && (PL.excCB K (He.ga K "NoMake") && (PL.exmB K (He.ga K "NoMake") (He.ga K "SearchError") true && (PL.kitXB K (He.ga K "NoMake") (.ref (He.ga K "Lacking")) false && (PL.kitXB K (He.ga K "NoMake") (.ref (He.ga K "NoAsking")) false && (PL.kitXB K (He.ga K "NoMake") (.ref (He.ga K "NoMake")) true && (PL.kitXB K (He.ga K "NoMake") (.ref (He.ga K "NoMany")) false && (PL.kitXB K (He.ga K "NoMake") (.ref (He.ga K "NoName")) false && (PL.kitXB K (He.ga K "NoMake") (.ref (He.ga K "NoPath")) false && (PL.kitXB K (He.ga K "NoMake") (.ref (He.ga K "NoRow")) false && (PL.kitXB K (He.ga K "NoMake") (.ref (He.ga K "NoRule")) false && (PL.kitXB K (He.ga K "NoMake") (.ref (He.ga K "NoText")) false && (PL.kitXB K (He.ga K "NoMake") (.ref (He.ga K "NoWeighing")) false && (PL.kitXB K (He.ga K "NoMake") (.ref (He.ga K "Over")) false && (PL.kitXB K (He.ga K "NoMake") (.ref (He.ga K "SearchError")) true && (PL.kitXB K (He.ga K "NoMake") (.type "ValueError") true && (PL.excFB K (He.ga K "NoMany") && (PL.excCB K (He.ga K "NoMany") && (PL.exmB K (He.ga K "NoMany") (He.ga K "SearchError") true && (PL.kitXB K (He.ga K "NoMany") (.ref (He.ga K "Lacking")) false && (PL.kitXB K (He.ga K "NoMany") (.ref (He.ga K "NoAsking")) false && (PL.kitXB K (He.ga K "NoMany") (.ref (He.ga K "NoMake")) false && (PL.kitXB K (He.ga K "NoMany") (.ref (He.ga K "NoMany")) true && (PL.kitXB K (He.ga K "NoMany") (.ref (He.ga K "NoName")) false && (PL.kitXB K (He.ga K "NoMany") (.ref (He.ga K "NoPath")) false && (PL.kitXB K (He.ga K "NoMany") (.ref (He.ga K "NoRow")) false && (PL.kitXB K (He.ga K "NoMany") (.ref (He.ga K "NoRule")) false && (PL.kitXB K (He.ga K "NoMany") (.ref (He.ga K "NoText")) false && (PL.kitXB K (He.ga K "NoMany") (.ref (He.ga K "NoWeighing")) false && (PL.kitXB K (He.ga K "NoMany") (.ref (He.ga K "Over")) false && (PL.kitXB K (He.ga K "NoMany") (.ref (He.ga K "SearchError")) true && (PL.kitXB K (He.ga K "NoMany") (.type "ValueError") true && (PL.excFB K (He.ga K "NoName") && (PL.excCB K (He.ga K "NoName") && (PL.exmB K (He.ga K "NoName") (He.ga K "SearchError") true && (PL.kitXB K (He.ga K "NoName") (.ref (He.ga K "Lacking")) false && (PL.kitXB K (He.ga K "NoName") (.ref (He.ga K "NoAsking")) false && (PL.kitXB K (He.ga K "NoName") (.ref (He.ga K "NoMake")) false && (PL.kitXB K (He.ga K "NoName") (.ref (He.ga K "NoMany")) false && (PL.kitXB K (He.ga K "NoName") (.ref (He.ga K "NoName")) true && (PL.kitXB K (He.ga K "NoName") (.ref (He.ga K "NoPath")) false && (PL.kitXB K (He.ga K "NoName") (.ref (He.ga K "NoRow")) false && (PL.kitXB K (He.ga K "NoName") (.ref (He.ga K "NoRule")) false && (PL.kitXB K (He.ga K "NoName") (.ref (He.ga K "NoText")) false && (PL.kitXB K (He.ga K "NoName") (.ref (He.ga K "NoWeighing")) false && (PL.kitXB K (He.ga K "NoName") (.ref (He.ga K "Over")) false && (PL.kitXB K (He.ga K "NoName") (.ref (He.ga K "SearchError")) true && (PL.kitXB K (He.ga K "NoName") (.type "ValueError") true && (PL.excFB K (He.ga K "NoPath") && (PL.excCB K (He.ga K "NoPath") && (PL.exmB K (He.ga K "NoPath") (He.ga K "SearchError") true && (PL.kitXB K (He.ga K "NoPath") (.ref (He.ga K "Lacking")) false && (PL.kitXB K (He.ga K "NoPath") (.ref (He.ga K "NoAsking")) false && (PL.kitXB K (He.ga K "NoPath") (.ref (He.ga K "NoMake")) false && (PL.kitXB K (He.ga K "NoPath") (.ref (He.ga K "NoMany")) false && (PL.kitXB K (He.ga K "NoPath") (.ref (He.ga K "NoName")) false && (PL.kitXB K (He.ga K "NoPath") (.ref (He.ga K "NoPath")) true && (PL.kitXB K (He.ga K "NoPath") (.ref (He.ga K "NoRow")) false && (PL.kitXB K (He.ga K "NoPath") (.ref (He.ga K "NoRule")) false && (PL.kitXB K (He.ga K "NoPath") (.ref (He.ga K "NoText")) false && (PL.kitXB K (He.ga K "NoPath") (.ref (He.ga K "NoWeighing")) false && (PL.kitXB K (He.ga K "NoPath") (.ref (He.ga K "Over")) false && (PL.kitXB K (He.ga K "NoPath") (.ref (He.ga K "SearchError")) true && (PL.kitXB K (He.ga K "NoPath") (.type "ValueError") true && (PL.excFB K (He.ga K "NoRow") && (PL.excCB K (He.ga K "NoRow") && (PL.exmB K (He.ga K "NoRow") (He.ga K "SearchError") true && (PL.kitXB K (He.ga K "NoRow") (.ref (He.ga K "Lacking")) false && (PL.kitXB K (He.ga K "NoRow") (.ref (He.ga K "NoAsking")) false && (PL.kitXB K (He.ga K "NoRow") (.ref (He.ga K "NoMake")) false && (PL.kitXB K (He.ga K "NoRow") (.ref (He.ga K "NoMany")) false && (PL.kitXB K (He.ga K "NoRow") (.ref (He.ga K "NoName")) false && (PL.kitXB K (He.ga K "NoRow") (.ref (He.ga K "NoPath")) false && (PL.kitXB K (He.ga K "NoRow") (.ref (He.ga K "NoRow")) true && (PL.kitXB K (He.ga K "NoRow") (.ref (He.ga K "NoRule")) false && (PL.kitXB K (He.ga K "NoRow") (.ref (He.ga K "NoText")) false && (PL.kitXB K (He.ga K "NoRow") (.ref (He.ga K "NoWeighing")) false && (PL.kitXB K (He.ga K "NoRow") (.ref (He.ga K "Over")) false && (PL.kitXB K (He.ga K "NoRow") (.ref (He.ga K "SearchError")) true && (PL.kitXB K (He.ga K "NoRow") (.type "ValueError") true && (PL.excFB K (He.ga K "NoRule") && (PL.excCB K (He.ga K "NoRule") && (PL.exmB K (He.ga K "NoRule") (He.ga K "SearchError") true && (PL.kitXB K (He.ga K "NoRule") (.ref (He.ga K "Lacking")) false && (PL.kitXB K (He.ga K "NoRule") (.ref (He.ga K "NoAsking")) false && (PL.kitXB K (He.ga K "NoRule") (.ref (He.ga K "NoMake")) false && (PL.kitXB K (He.ga K "NoRule") (.ref (He.ga K "NoMany")) false && (PL.kitXB K (He.ga K "NoRule") (.ref (He.ga K "NoName")) false && (PL.kitXB K (He.ga K "NoRule") (.ref (He.ga K "NoPath")) false && (PL.kitXB K (He.ga K "NoRule") (.ref (He.ga K "NoRow")) false && (PL.kitXB K (He.ga K "NoRule") (.ref (He.ga K "NoRule")) true && (PL.kitXB K (He.ga K "NoRule") (.ref (He.ga K "NoText")) false && (PL.kitXB K (He.ga K "NoRule") (.ref (He.ga K "NoWeighing")) false && (PL.kitXB K (He.ga K "NoRule") (.ref (He.ga K "Over")) false && (PL.kitXB K (He.ga K "NoRule") (.ref (He.ga K "SearchError")) true && (PL.kitXB K (He.ga K "NoRule") (.type "ValueError") true && (PL.excFB K (He.ga K "NoText") && (PL.excCB K (He.ga K "NoText") && (PL.exmB K (He.ga K "NoText") (He.ga K "SearchError") true && (PL.kitXB K (He.ga K "NoText") (.ref (He.ga K "Lacking")) false && (PL.kitXB K (He.ga K "NoText") (.ref (He.ga K "NoAsking")) false && (PL.kitXB K (He.ga K "NoText") (.ref (He.ga K "NoMake")) false && (PL.kitXB K (He.ga K "NoText") (.ref (He.ga K "NoMany")) false && (PL.kitXB K (He.ga K "NoText") (.ref (He.ga K "NoName")) false && (PL.kitXB K (He.ga K "NoText") (.ref (He.ga K "NoPath")) false && (PL.kitXB K (He.ga K "NoText") (.ref (He.ga K "NoRow")) false && (PL.kitXB K (He.ga K "NoText") (.ref (He.ga K "NoRule")) false && (PL.kitXB K (He.ga K "NoText") (.ref (He.ga K "NoText")) true && (PL.kitXB K (He.ga K "NoText") (.ref (He.ga K "NoWeighing")) false && (PL.kitXB K (He.ga K "NoText") (.ref (He.ga K "Over")) false && (PL.kitXB K (He.ga K "NoText") (.ref (He.ga K "SearchError")) true && (PL.kitXB K (He.ga K "NoText") (.type "ValueError") true && (PL.excFB K (He.ga K "NoWeighing") && (PL.excCB K (He.ga K "NoWeighing") && (PL.exmB K (He.ga K "NoWeighing") (He.ga K "SearchError") true && (PL.kitXB K (He.ga K "NoWeighing") (.ref (He.ga K "Lacking")) false && (PL.kitXB K (He.ga K "NoWeighing") (.ref (He.ga K "NoAsking")) false && (PL.kitXB K (He.ga K "NoWeighing") (.ref (He.ga K "NoMake")) false && (PL.kitXB K (He.ga K "NoWeighing") (.ref (He.ga K "NoMany")) false && (PL.kitXB K (He.ga K "NoWeighing") (.ref (He.ga K "NoName")) false && (PL.kitXB K (He.ga K "NoWeighing") (.ref (He.ga K "NoPath")) false && (PL.kitXB K (He.ga K "NoWeighing") (.ref (He.ga K "NoRow")) false && (PL.kitXB K (He.ga K "NoWeighing") (.ref (He.ga K "NoRule")) false && (PL.kitXB K (He.ga K "NoWeighing") (.ref (He.ga K "NoText")) false && (PL.kitXB K (He.ga K "NoWeighing") (.ref (He.ga K "NoWeighing")) true && (PL.kitXB K (He.ga K "NoWeighing") (.ref (He.ga K "Over")) false && (PL.kitXB K (He.ga K "NoWeighing") (.ref (He.ga K "SearchError")) true && (PL.kitXB K (He.ga K "NoWeighing") (.type "ValueError") true && (PL.excFB K (He.ga K "Over") && (PL.excCB K (He.ga K "Over") && (PL.exmB K (He.ga K "Over") (He.ga K "SearchError") true && (PL.kitXB K (He.ga K "Over") (.ref (He.ga K "Lacking")) false && (PL.kitXB K (He.ga K "Over") (.ref (He.ga K "NoAsking")) false && (PL.kitXB K (He.ga K "Over") (.ref (He.ga K "NoMake")) false && (PL.kitXB K (He.ga K "Over") (.ref (He.ga K "NoMany")) false && (PL.kitXB K (He.ga K "Over") (.ref (He.ga K "NoName")) false && (PL.kitXB K (He.ga K "Over") (.ref (He.ga K "NoPath")) false && (PL.kitXB K (He.ga K "Over") (.ref (He.ga K "NoRow")) false && (PL.kitXB K (He.ga K "Over") (.ref (He.ga K "NoRule")) false && (PL.kitXB K (He.ga K "Over") (.ref (He.ga K "NoText")) false && (PL.kitXB K (He.ga K "Over") (.ref (He.ga K "NoWeighing")) false && (PL.kitXB K (He.ga K "Over") (.ref (He.ga K "Over")) true && (PL.kitXB K (He.ga K "Over") (.ref (He.ga K "SearchError")) true && (PL.kitXB K (He.ga K "Over") (.type "ValueError") true && (PL.excFB K (He.ga K "SearchError") && (PL.excCB K (He.ga K "SearchError") && (PL.exmB K (He.ga K "SearchError") (He.ga K "SearchError") true && (PL.kitXB K (He.ga K "SearchError") (.ref (He.ga K "Lacking")) false && (PL.kitXB K (He.ga K "SearchError") (.ref (He.ga K "NoAsking")) false && (PL.kitXB K (He.ga K "SearchError") (.ref (He.ga K "NoMake")) false && (PL.kitXB K (He.ga K "SearchError") (.ref (He.ga K "NoMany")) false && (PL.kitXB K (He.ga K "SearchError") (.ref (He.ga K "NoName")) false && (PL.kitXB K (He.ga K "SearchError") (.ref (He.ga K "NoPath")) false && (PL.kitXB K (He.ga K "SearchError") (.ref (He.ga K "NoRow")) false && (PL.kitXB K (He.ga K "SearchError") (.ref (He.ga K "NoRule")) false && (PL.kitXB K (He.ga K "SearchError") (.ref (He.ga K "NoText")) false && (PL.kitXB K (He.ga K "SearchError") (.ref (He.ga K "NoWeighing")) false && (PL.kitXB K (He.ga K "SearchError") (.ref (He.ga K "Over")) false && (PL.kitXB K (He.ga K "SearchError") (.ref (He.ga K "SearchError")) true && (PL.kitXB K (He.ga K "SearchError") (.type "ValueError") true && (true))))))))))))))))))))))))))))))))))))))))))))))))))))))))))))))))))))))))))))))))))))))))))))))))))))))))))))))))))))))))))))))))))))))))))))))))))))))))))))))))))))))))))))))))))))))))))))))))
abbrev hk : PySem.W.Hook := PL.hookY 4 fa fn ck
def ob (s : PySem.W.SharedT) : He.AlD × Bool := PL.obsY 4 fa fn ck (HandSHeadRun.getT s)
theorem ob_eq (s : PySem.W.SharedT) : ob s = hk.obs s.abs := PL.obsY_eq (HandSHeadRun.getT_eq s)
def nm0 : List Str := ["_wall", "SearchError", "NoRule", "NoName", "NoText", "Lacking", "NoMake", "NoAsking", "NoPath", "NoWeighing", "NoMany", "Over", "NoRow", "rule_is_of", "rule_fits", "Rulebook", "_law_signs", "_law_text_by_digits", "_law_sorts", "_law_made", "RULE_LETTERS", "RULE_SIGNS", "LONGEST_ENDING", "LONGEST_PLAIN", "MOST_LEFT"]
def nms : List Str := nm0
theorem runA (w : World) : PL.RunA R (PySem.W.view R.prog [28]) 13000 nms w := by
  intro os
  kernel_rfl
theorem runB1 (w : World) : PL.RunC R (fun s => He.obsD fa fn (He.frG (HandSHeadRun.getT s) (PL.asM (HandSHeadRun.getT s) 4))) (He.valD fn) 13000 w := by
  intro os
  kernel_rfl
theorem runB2 (w : World) : PL.RunC R (fun s => ck (He.frG (HandSHeadRun.getT s) (PL.asM (HandSHeadRun.getT s) 4))) (true) 13000 w := by
  intro os
  kernel_rfl
theorem runB (w : World) : PL.RunB R hk ob 13000 w := PL.runB_of (runB1 w) (runB2 w)
theorem run (w : World) : HandSHeadRun.RunEq R (PySem.W.view R.prog [28]) hk ob 13000 nms w := PL.run_of (runA w) (runB w)
end Tp
namespace PL
open PySem PySem.Spec PyProof.Rows L2

theorem seqT {K : PySem.W.Frag} {H H' : Hp} {a : Addr} {xs : List V} (e : Same H H') (h : SqT K H a xs) : SqT K H' a xs := by
  rcases h with (h | ⟨o, h⟩) | h
  · exact .inl (.inl (e _ _ h))
  · exact .inl (.inr ⟨o, e _ _ h⟩)
  · exact .inr h
theorem _root_.L2.Same.smf {G H : Hp} (h : Same G H) : SmF G H := fun b u e => .inl (h b u e)
theorem SmF.seq {K : PySem.W.Frag} {G H : Hp} {a : Addr} {xs : List V} (s : SmF G H) (h : SqL K G a xs) : SqL K H a xs := by
  rcases h with (h | ⟨o, h⟩) | h
  · exact .inl (.inl (s.at h fun _ z => by cases z))
  · exact .inl (.inr ⟨o, s.at h fun _ z => by cases z⟩)
  · exact .inr h
theorem SmF.seqT {K : PySem.W.Frag} {G H : Hp} {a : Addr} {xs : List V} (s : SmF G H) (h : SqT K G a xs) : SqT K H a xs := by
  rcases h with (h | ⟨o, h⟩) | h
  · exact .inl (.inl (s.at h fun _ z => by cases z))
  · exact .inl (.inr ⟨o, s.at h fun _ z => by cases z⟩)
  · exact .inr h
theorem _root_.L2.Same.trf {A B C : Hp} (s : Same A B) (t : SmF B C) : SmF A C := fun b u e => t b u (s b u e)
theorem pmono {α β : Type} {F F' : α → β → Prop} (h : ∀ a b, F a b → F' a b) : ∀ {l : List α} {m : List β}, Paired F l m → Paired F' l m
  | _, _, .nil => .nil
  | _, _, .cons x t => .cons (h _ _ x) (pmono h t)
theorem plen {α β : Type} {F : α → β → Prop} : ∀ {l : List α} {m : List β}, Paired F l m → l.length = m.length
  | _, _, .nil => rfl
  | _, _, .cons _ t => by rw [List.length_cons, List.length_cons, plen t]
theorem pget {α β : Type} {F : α → β → Prop} : ∀ {l : List α} {m : List β} {i : Nat} {x : α}, Paired F l m → l[i]? = some x → ∃ y, m[i]? = some y ∧ F x y
  | _, _, _, _, .nil, e => by simp at e
  | _, _, 0, _, .cons r _, e => by simp at e; subst e; exact ⟨_, rfl, r⟩
  | _, _, i + 1, x, .cons _ t, e => by
    obtain ⟨u, h1, h2⟩ := pget (i := i) (x := x) t (by simpa using e)
    exact ⟨u, by simpa using h1, h2⟩
theorem pget' {α β : Type} {F : α → β → Prop} : ∀ {l : List α} {m : List β} {i : Nat} {y : β}, Paired F l m → m[i]? = some y → ∃ x, l[i]? = some x ∧ F x y
  | _, _, _, _, .nil, e => by simp at e
  | _, _, 0, _, .cons r _, e => by simp at e; subst e; exact ⟨_, rfl, r⟩
  | _, _, i + 1, x, .cons _ t, e => by
    obtain ⟨u, h1, h2⟩ := pget' (i := i) (y := x) t (by simpa using e)
    exact ⟨u, by simpa using h1, h2⟩
theorem psnoc {α β : Type} {F : α → β → Prop} {a : α} {b : β} : ∀ {l : List α} {m : List β}, Paired F l m → F a b → Paired F (l ++ [a]) (m ++ [b])
  | _, _, .nil, h => .cons h .nil
  | _, _, .cons x t, h => .cons x (psnoc t h)
theorem papp {α β : Type} {F : α → β → Prop} : ∀ {l l' : List α} {m m' : List β}, Paired F l m → Paired F l' m' → Paired F (l ++ l') (m ++ m')
  | _, _, _, _, .nil, h => h
  | _, _, _, _, .cons x t, h => .cons x (papp t h)
theorem pmap {α β : Type} {f : β → α} {F : α → β → Prop} (h : ∀ a b, F a b → a = f b) : ∀ {l : List α} {m : List β}, Paired F l m → l = m.map f
  | _, _, .nil => rfl
  | _, _, .cons x t => by rw [List.map_cons, ← pmap h t, h _ _ x]
theorem pof {α β : Type} {f : β → α} {F : α → β → Prop} (h : ∀ b, F (f b) b) : ∀ (m : List β), Paired F (m.map f) m
  | [] => .nil
  | _ :: m => .cons (h _) (pof h m)

def rI : Rel Int := ⟨fun _ v x => v = .int x, fun _ h => h⟩
def rB : Rel Bool := ⟨fun _ v x => v = .bl x, fun _ h => h⟩
def rN : Rel Unit := ⟨fun _ v _ => v = .non, fun _ h => h⟩
def rRef : Rel Addr := ⟨fun _ v x => v = .ref x, fun _ h => h⟩
def rL {α : Type} (K : PySem.W.Frag) (r : Rel α) : Rel (List α) :=
  ⟨fun G v xs => ∃ a vs, v = .ref a ∧ SqL K G a vs ∧ Paired (r.rd G) vs xs ∧ xs.length ≤ sizeLine, fun e ⟨a, vs, h1, h2, h3, h4⟩ => ⟨a, vs, h1, e.seq h2, pmono (fun _ _ => r.mono e) h3, h4⟩⟩
def rT2 {α β : Type} (K : PySem.W.Frag) (r : Rel α) (s : Rel β) : Rel (α × β) :=
  ⟨fun G v x => ∃ a v1 v2, v = .ref a ∧ SqT K G a [v1, v2] ∧ r.rd G v1 x.1 ∧ s.rd G v2 x.2, fun e ⟨a, v1, v2, h1, h2, h3, h4⟩ => ⟨a, v1, v2, h1, seqT e h2, r.mono e h3, s.mono e h4⟩⟩
def rT3 {α β γ : Type} (K : PySem.W.Frag) (r : Rel α) (s : Rel β) (t : Rel γ) : Rel (α × β × γ) :=
  ⟨fun G v x => ∃ a v1 v2 v3, v = .ref a ∧ SqT K G a [v1, v2, v3] ∧ r.rd G v1 x.1 ∧ s.rd G v2 x.2.1 ∧ t.rd G v3 x.2.2, fun e ⟨a, v1, v2, v3, h1, h2, h3, h4, h5⟩ => ⟨a, v1, v2, v3, h1, seqT e h2, r.mono e h3, s.mono e h4, t.mono e h5⟩⟩
theorem Ext.refl {G H : Hp} (h : SmF G H) : Ext G H G H := ⟨Same.refl _, h, Same.refl _, fun _ _ z => z⟩
theorem same_upd {H : Hp} {p : Addr} {o : HO} (h : H p = none) : Same H (upd H p o) := fun b x e => by
  rw [upd_ne (ne_of_none e h)]; exact e
theorem same_upd2 {G H : Hp} {p : Addr} {o : HO} (h : SmF G H) : SmF (upd G p o) (upd H p o) := fun b x e => by
  by_cases hb : b = p
  · subst hb; rw [upd_same] at e ⊢; exact .inl e
  · rw [upd_ne hb] at e ⊢; exact h b x e
theorem Ext.new {G H : Hp} {p : Addr} {o : HO} (h : SmF G H) (np : H p = none) : Ext G H (upd G p o) (upd H p o) :=
  ⟨same_upd (h.free np), same_upd2 h, same_upd np, fun b e z => by
    have hb : b ≠ p := fun q => e (q ▸ np)
    rw [upd_ne hb]; exact z⟩
theorem Ext.newM {G H : Hp} {p : Addr} {o : HO} (h : SmF G H) (np : H p = none) : Ext G H G (upd H p o) :=
  ⟨Same.refl _, h.trans (same_upd np), same_upd np, fun _ _ z => z⟩

theorem Slot.ok_mono {G G' : Hp} {ov : Option V} (e : Same G G') : ∀ {s : Slot}, s.ok G ov → s.ok G' ov
  | .any, _ => trivial
  | .val r _, ⟨v, h1, h2⟩ => ⟨v, h1, r.mono e h2⟩
theorem Flds.mono {G G' : Hp} (e : Same G G') : ∀ {vs : List (Str × V)} {fs : List (Str × Slot)}, Flds G vs fs → Flds G' vs fs
  | _, _, .nil => .nil
  | _, _, .cons h t => .cons (Slot.ok_mono e h) (Flds.mono e t)
theorem Cell.is_mono {G G' : Hp} {u : HO} (e : Same G G') : ∀ {c : Cell}, c.is G u → c.is G' u
  | .lst _ r xs, ⟨vs, h1, h2, h3⟩ => ⟨vs, h1, pmono (fun _ _ => r.mono e) h2, h3⟩
  | .dic _ r xs, ⟨vs, h1, h2, h3⟩ => ⟨vs, h1, pmono (fun _ _ h => ⟨h.1, r.mono e h.2.1, h.2.2⟩) h2, h3⟩
  | .ins o dx C fs, ⟨h0, vs, h1, h2⟩ => ⟨e _ _ h0, vs, h1, h2.mono e⟩
theorem Cell.ok_ext {H0 G H G' H' : Hp} (e : Ext G H G' H') {c : Cell} (h : c.ok H0 G H) : c.ok H0 G' H' := by
  obtain ⟨h0, h1, u, h2, h3⟩ := h
  exact ⟨h0, e.n _ (by rw [h2]; exact fun z => by cases z) h1, u, e.h _ _ h2, Cell.is_mono e.g h3⟩
theorem Env.le {Z : Ctx} {G H : Hp} {σ : L2.St} (E : Env Z G H σ) : SmF G H := E.ex.s
theorem Env.ext {Z : Ctx} {G H G' H' : Hp} {σ : L2.St} (E : Env Z G H σ) (e : Ext G H G' H') : Env Z G' H' σ :=
  ⟨E.ex.trans e, fun B hB => (E.ab B hB).trans e.g, fun i s hi => let ⟨ov, h1, h2⟩ := E.sl i s hi; ⟨ov, h1, Slot.ok_mono e.g h2⟩, fun c hc => Cell.ok_ext e (E.ce c hc), E.nd⟩
def Ctx.up (Z : Ctx) (B : Hp) : Ctx := ⟨⟨Z.b.G0, Z.b.H0, B :: Z.b.ab⟩, Z.sl, Z.ce⟩
theorem Env.setv {Z : Ctx} {G H : Hp} {σ : L2.St} (E : Env Z G H σ) {i : Nat} {s : Slot} {ov : Option V} (h : s.ok G ov) : Env (Z.set i s) G H (σ.set i ov) := by
  refine ⟨E.ex, E.ab, fun j t ht => ?_, E.ce, E.nd⟩
  by_cases hj : i = j
  · subst hj
    have hlt : i < Z.sl.length := by
      have := (List.getElem?_eq_some_iff.mp ht).1
      simpa [Ctx.set] using this
    have e1 : (Z.sl.set i s)[i]? = some s := by rw [List.getElem?_set_self hlt]
    have e2 : s = t := Option.some.inj (e1.symm.trans ht)
    subst e2
    obtain ⟨ov', h1, _⟩ := E.sl i _ (List.getElem?_eq_getElem hlt)
    have hl2 : i < σ.length := (List.getElem?_eq_some_iff.mp h1).1
    exact ⟨ov, by rw [List.getElem?_set_self hl2], h⟩
  · have e1 : (Z.sl.set i s)[j]? = Z.sl[j]? := List.getElem?_set_ne hj
    obtain ⟨ov', h1, h2⟩ := E.sl j t (e1.symm.trans ht)
    exact ⟨ov', by rw [List.getElem?_set_ne hj]; exact h1, h2⟩

section
variable {X : Cx}
theorem ct {e : Expr} : PT X e (wT X e) := ⟨fun pins s _ _ _ I h => h.run pins s I⟩
theorem cw {e : Expr} : PW X e (wW X e) := ⟨fun wh pins s _ _ _ I h => h.run wh pins s I⟩
theorem ca {es : List Expr} : PA X es (wA X es) := ⟨fun pos pins s _ _ _ I h => h.run pos pins s I⟩
theorem css {st : List Stmt} : PSs X st (wSs X st) := ⟨fun pins s _ _ _ I h => h.run pins s I⟩
theorem toE {e : Expr} {t : TE} (p : PE X e t) {σ : L2.St} {H : Hp} {Q : VK} (h : t σ H Q) : wE X e σ H Q := ⟨fun pins s I => p.run pins s σ H Q I h⟩
theorem toT {e : Expr} {t : TT} (p : PT X e t) {σ : L2.St} {H : Hp} {Q : Bool → Hp → Prop} (h : t σ H Q) : wT X e σ H Q := ⟨fun pins s I => p.run pins s σ H Q I h⟩
theorem toW {e : Expr} {t : TT} (p : PW X e t) {σ : L2.St} {H : Hp} {Q : Bool → Hp → Prop} (h : t σ H Q) : wW X e σ H Q := ⟨fun wh pins s I => p.run wh pins s σ H Q I h⟩
theorem toA {es : List Expr} {t : TA} (p : PA X es t) {σ : L2.St} {H : Hp} {Q : List V → Hp → Prop} (h : t σ H Q) : wA X es σ H Q := ⟨fun pos pins s I => p.run pos pins s σ H Q I h⟩
theorem toSs {st : List Stmt} {t : TS} (p : PSs X st t) {D : Ends} {σ : L2.St} {H : Hp} (h : t D σ H) : wSs X st D σ H := ⟨fun pins s I => p.run pins s σ H D I h⟩
end

def EvE (X : Cx) (e : Expr) (Z : Ctx) {α : Type} (r : Rel α) (x : α) : Prop :=
  ∀ G H σ Q, Env Z G H σ → (∀ G' H' v, Ext G H G' H' → r.rd G' v x → Q v H') → wE X e σ H Q
def EvT (X : Cx) (e : Expr) (Z : Ctx) (b : Bool) : Prop :=
  ∀ G H σ Q, Env Z G H σ → (∀ G' H', Ext G H G' H' → Q b H') → wT X e σ H Q
def EvW (X : Cx) (e : Expr) (Z : Ctx) (b : Bool) : Prop :=
  ∀ G H σ Q, Env Z G H σ → (∀ G' H', Ext G H G' H' → Q b H') → wW X e σ H Q
theorem Slv.mono {G G' : Hp} (e : Same G G') : ∀ {vs : List V} {ss : List Slot}, Slv G vs ss → Slv G' vs ss
  | _, _, .nil => .nil
  | _, _, .cons (r := r) h t => .cons (r.mono e h) (Slv.mono e t)
def EvA (X : Cx) (es : List Expr) (Z : Ctx) (ss : List Slot) : Prop :=
  ∀ G H σ Q, Env Z G H σ → (∀ G' H' vs, Ext G H G' H' → Slv G' vs ss → Q vs H') → wA X es σ H Q
def Goes (X : Cx) (body : List Stmt) (Z : Ctx) (D : Ends) : Prop := ∀ G H σ, Env Z G H σ → wSs X body D σ H
def Nx (Z : Ctx) : L2.St → Hp → Prop := fun σ H => ∃ G, Env Z G H σ

section
variable {X : Cx} {Z : Ctx} {α β γ : Type} {r : Rel α} {x : α} {pos : Pos}
theorem ev_v (i : Nat) {n : Str} (hz : Z.sl[i]? = some (.val r x) := by rfl) (hN : X.N[i]? = some n := by rfl) (hv : Vis X.env.scope n := by first | exact Or.inl rfl | exact Or.inr (Or.inl rfl) | exact Or.inr (Or.inr rfl))
    (hd : (n == ("__debug__" : Str)) = false := by decide) (hcd : (n == ("__classdict__" : Str)) = false := by decide) : EvE X (.Name n pos) Z r x := fun G H σ Q E k => by
  obtain ⟨v, h1, h2⟩ := E.get hz
  exact toE (pe_var hN hv hd hcd) ⟨v, h1, k G H v (.refl E.le) h2⟩
theorem ev_pure {e : Expr} {v : V} (p : PE X e (tC v)) (h : ∀ G, r.rd G v x) : EvE X e Z r x := fun G H σ Q E k => toE p (k G H v (.refl E.le) (h G))
theorem ev_int {i : Int} {j : Nat} : EvE X (.Constant (.int i) j pos) Z rI i := ev_pure pe_int fun _ => rfl
theorem ev_bl {i : Bool} {j : Nat} : EvE X (.Constant (.bool i) j pos) Z rB i := ev_pure pe_bl fun _ => rfl
theorem ev_non {j : Nat} : EvE X (.Constant .none j pos) Z rN () := ev_pure pe_non fun _ => rfl
theorem ev2 {a b e : Expr} {rel : R2} {ra : Rel α} {rb : Rel β} {rc : Rel γ} {x : α} {y : β} {z : γ} (p : PE X e (tOp rel (wE X a) (wE X b))) (ha : EvE X a Z ra x) (hb : EvE X b Z rb y)
    (h : ∀ G H v w Q, SmF G H → ra.rd G v x → rb.rd G w y → (∀ G' H' u, Ext G H G' H' → rc.rd G' u z → Q u H') → rel v w H Q) : EvE X e Z rc z := fun G H σ Q E k =>
  toE p (ha G H σ _ E fun G1 H1 v e1 h1 => hb G1 H1 σ _ (E.ext e1) fun G2 H2 w e2 h2 => h G2 H2 v w Q e2.s (ra.mono e2.g h1) h2 fun G3 H3 u e3 => k G3 H3 u ((e1.trans e2).trans e3))
def CmpE (X : Cx) (op : CmpOp) (a b : Expr) (Z : Ctx) (k : Bool) : Prop :=
  behindInMarks op b = false ∧ ∃ t : TE, PC X op a b t ∧ ∀ G H σ Q, Env Z G H σ → (∀ G' H', Ext G H G' H' → Q (.bl k) H') → t σ H Q
theorem pc_of {op : CmpOp} {a b : Expr} {rel : R2} {ta tb : TE} (ho : OpR X (compareOp op) rel) (ha : PE X a ta) (hb : PE X b tb) : PC X op a b (tOp rel ta tb) :=
  ⟨fun pins s σ H Q I h => binT ha hb I h fun v u s2 x y H2 I2 rx ry q => ho pins s2 σ H2 x y v u Q I2 rx ry q⟩
theorem cm2 {op : CmpOp} {a b : Expr} {rel : R2} {ra : Rel α} {rb : Rel β} {x : α} {y : β} {k : Bool} (ho : OpR X (compareOp op) rel) (hm : behindInMarks op b = false) (ha : EvE X a Z ra x) (hb : EvE X b Z rb y)
    (h : ∀ G H v w Q, SmF G H → ra.rd G v x → rb.rd G w y → (∀ G' H' u, Ext G H G' H' → rB.rd G' u k → Q u H') → rel v w H Q) : CmpE X op a b Z k := ⟨hm, _, pc_of ho ce ce, fun G H σ Q E q =>
  ha G H σ _ E fun G1 H1 v e1 h1 => hb G1 H1 σ _ (E.ext e1) fun G2 H2 w e2 h2 => h G2 H2 v w Q e2.s (ra.mono e2.g h1) h2 fun G3 H3 u e3 hu => by
    obtain rfl : u = .bl k := hu
    exact q G3 H3 ((e1.trans e2).trans e3)⟩
theorem ev_c {op : CmpOp} {a b : Expr} {k : Bool} (h : CmpE X op a b Z k) : EvE X (.Compare a [op] [b] pos) Z rB k := by
  obtain ⟨hm, t, ho, h⟩ := h
  exact fun G H σ Q E q => toE (pe_cmp ho hm) (h G H σ Q E fun G1 H1 e1 => q G1 H1 _ e1 rfl)
theorem et_c {op : CmpOp} {a b : Expr} {k : Bool} (h : CmpE X op a b Z k) : EvT X (.Compare a [op] [b] pos) Z k := by
  obtain ⟨hm, t, ho, h⟩ := h
  exact fun G H σ Q E q => toT (pt_cmp ho hm) (h G H σ _ E fun G1 H1 e1 => ⟨k, rfl, q G1 H1 e1⟩)
theorem opI2 {C : Int → Int → Prop} {f : Int → Int → Int} {x y : Int} (hc : C x y) : ∀ (G H : Hp) (v w : V) (Q : VK), SmF G H → rI.rd G v x → rI.rd G w y → (∀ G' H' u, Ext G H G' H' → rI.rd G' u (f x y) → Q u H') → L2.rI C (fun i j => .int (f i j)) v w H Q :=
  fun G H v w Q s h1 h2 k => ⟨x, y, h1, h2, hc, k G H _ (.refl s) rfl⟩
theorem opI02 {f : Int → Int → Int} {x y : Int} : ∀ (G H : Hp) (v w : V) (Q : VK), SmF G H → rI.rd G v x → rI.rd G w y → (∀ G' H' u, Ext G H G' H' → rI.rd G' u (f x y) → Q u H') → L2.rI0 (fun i j => .int (f i j)) v w H Q :=
  fun G H v w Q s h1 h2 k => ⟨x, y, h1, h2, k G H _ (.refl s) rfl⟩
variable {a b c : Expr} {i j : Int}
theorem ev_add (ha : EvE X a Z rI i) (hb : EvE X b Z rI j) : EvE X (.BinOp a .Add b pos) Z rI (i + j) := ev2 (pe_op op_add ce ce) ha hb (opI02 (f := fun i j => i + j))
theorem ev_mod (ha : EvE X a Z rI i) (hb : EvE X b Z rI j) (h : 0 < j) : EvE X (.BinOp a .Mod b pos) Z rI (i % j) := ev2 (pe_op op_mod ce ce) ha hb (opI2 (C := fun _ j => 0 < j) (f := fun i j => i % j) h)
theorem ev_fdiv (ha : EvE X a Z rI i) (hb : EvE X b Z rI j) (h : CDivW i j) : EvE X (.BinOp a .FloorDiv b pos) Z rI (i / j) := ev2 (pe_op op_fdivW ce ce) ha hb (opI2 (f := fun i j => i / j) h)
def CDivZ (_ j : Int) : Prop := j ≠ 0 ∧ j.natAbs.log2 < 9000
theorem op_fdivZ : OpR X (binaryOp .FloorDiv) (L2.rI CDivZ fun i j => .int (i.fdiv j)) := opI fun i j _ _ _ _ _ hc q => floordiv_int hc.1 q (.inl (PyProof.noPylong_of_log2 hc.2))
theorem ev_fdivZ (ha : EvE X a Z rI i) (hb : EvE X b Z rI j) (h : CDivZ i j) : EvE X (.BinOp a .FloorDiv b pos) Z rI (i.fdiv j) := ev2 (pe_op op_fdivZ ce ce) ha hb (opI2 (f := fun i j => i.fdiv j) h)
end
end PL

namespace PL
open PySem PySem.Spec PyProof.Rows L2
section
variable {X : Cx} {Z : Ctx} {α β γ : Type} {r : Rel α} {x : α} {pos : Pos} {a b c e : Expr} {es : List Expr} {D : Ends} {rest : List Stmt}
theorem ev_t {k : Bool} (h : EvE X e Z rB k) (he : ∀ whole, isTrue e X.env whole = (do let v ← whole; standAt e.pos; holding [v] (truthy v)) := by intro _; rfl) : EvT X e Z k := fun G H σ Q E q =>
  toT (pt_val ce he) (h G H σ _ E fun G1 H1 v e1 h1 => ⟨k, h1, q G1 H1 e1⟩)
theorem ev_w {k : Bool} (h : EvW X e Z k) : EvT X e Z k := fun G H σ Q E q => toT (PW.pt cw) (h G H σ Q E q)
theorem et_not {k : Bool} (h : EvT X a Z k) : EvT X (.UnaryOp .Not a pos) Z (!k) := fun G H σ Q E q => toT (pt_not ct) (h G H σ _ E q)
theorem ew_or1 {k : Bool} (h : EvT X a Z k) : EvW X (.BoolOp .Or [a] pos) Z k := fun G H σ Q E q => toW (pw_or1 ct) (h G H σ _ E q)
theorem ew_or {k l : Bool} (h : EvT X a Z k) (h2 : k = false → EvW X (.BoolOp .Or (b :: es) pos) Z l) : EvW X (.BoolOp .Or (a :: b :: es) pos) Z (k || l) := fun G H σ Q E q =>
  toW (pw_or ct cw) (h G H σ _ E fun G1 H1 e1 => by
    cases k with
    | true => exact q G1 H1 e1
    | false => exact h2 rfl G1 H1 σ Q (E.ext e1) fun G2 H2 e2 => q G2 H2 (e1.trans e2))
theorem ev_one {op} (h : EvE X a Z r x) : EvE X (.BoolOp op [a] pos) Z r x := fun G H σ Q E q => toE (pe_one ce) (h G H σ Q E q)
theorem ev_and {k l : Bool} (h : EvE X a Z rB k) (h2 : k = true → EvE X (.BoolOp .And (b :: es) pos) Z rB l) : EvE X (.BoolOp .And (a :: b :: es) pos) Z rB (k && l) := fun G H σ Q E q =>
  toE (pe_and ce ce) (h G H σ _ E fun G1 H1 v e1 h1 => ⟨k, h1, by
    cases k with
    | true => exact h2 rfl G1 H1 σ Q (E.ext e1) fun G2 H2 v e2 => q G2 H2 v (e1.trans e2)
    | false => exact q G1 H1 _ e1 rfl⟩)
theorem ev_not {k : Bool} (h : EvE X a Z rB k) : EvE X (.UnaryOp .Not a pos) Z rB (!k) := fun G H σ Q E q =>
  toE (pe_not ce) (h G H σ _ E fun G1 H1 v e1 h1 => ⟨k, h1, q G1 H1 _ e1 rfl⟩)
theorem ev_cast {y : α} (h : EvE X e Z r x) (q : x = y) : EvE X e Z r y := q ▸ h
theorem et_cast {k l : Bool} (h : EvT X e Z k) (q : k = l) : EvT X e Z l := q ▸ h
theorem cm_eqI {i j : Int} (ha : EvE X a Z rI i) (hb : EvE X b Z rI j) : CmpE X .Eq a b Z (decide (i = j)) := cm2 op_eq (nomark _) ha hb fun G H v w Q s h1 h2 k => by
  cases h1; cases h2; exact ⟨rfl, k G H _ (.refl s) (by rw [dec_int]; show V.bl _ = V.bl _; congr 1)⟩
theorem ea_nil : EvA X [] Z [] := fun G H σ Q E q => toA pa_nil (q G H [] (.refl E.le) .nil)
theorem ea_cons {ss : List Slot} (h : EvE X e Z r x) (hr : EvA X es Z ss) (hs : starEach (e :: es) X.env = (false, eval e X.env) :: starEach es X.env := by rfl) : EvA X (e :: es) Z (.val r x :: ss) := fun G H σ Q E q =>
  toA (pa_cons ce ca hs) (h G H σ _ E fun G1 H1 v e1 h1 => hr G1 H1 σ _ (E.ext e1) fun G2 H2 vs e2 h2 => q G2 H2 (v :: vs) (e1.trans e2) (.cons (r.mono e2.g h1) h2))
theorem ev_cb {t : List V → Hp → VK → Prop} {ss : List Slot} (p : PE X e (tCB t (wA X es))) (ha : EvA X es Z ss)
    (h : ∀ G H vs Q, SmF G H → Slv G vs ss → (∀ G' H' u, Ext G H G' H' → r.rd G' u x → Q u H') → t vs H Q) : EvE X e Z r x := fun G H σ Q E k =>
  toE p (ha G H σ _ E fun G1 H1 vs e1 h1 => h G1 H1 vs Q e1.s h1 fun G2 H2 u e2 => k G2 H2 u (e1.trans e2))
theorem slv1 {G : Hp} {vs : List V} (h : Slv G vs [.val r x]) : ∃ v, vs = [v] ∧ r.rd G v x := by
  cases h with
  | cons h t => cases t; exact ⟨_, rfl, h⟩
theorem slv2 {G : Hp} {vs : List V} {s : Rel β} {y : β} (h : Slv G vs [.val r x, .val s y]) : ∃ v w, vs = [v, w] ∧ r.rd G v x ∧ s.rd G w y := by
  cases h with
  | cons h t =>
    obtain ⟨w, rfl, h2⟩ := slv1 t
    exact ⟨_, w, rfl, h, h2⟩
variable {p : Pos} {n : Str}
theorem ev_all {xs : List Bool} (hc : X.calm = true) (hm : X.mg "all" = none) (ha : EvA X [a] Z [.val (rL X.K rB) xs]) (hg : Gl X "all" := by rfl) (he : starEach [a] X.env = (false, eval a X.env) :: starEach [] X.env := by rfl) : EvE X (.Call (.Name "all" p) [a] [] pos) Z rB (xs.all id) :=
  ev_cb (pe_callB (cr_all hc) hg hm (by decide +kernel) ca (he := he)) ha fun G H vs Q s h k => by
    obtain ⟨v, rfl, l, us, rfl, h1, h2, _⟩ := slv1 h
    obtain rfl := pmap (f := V.bl) (fun _ _ q => q) h2
    exact ⟨l, xs, rfl, s.seq h1, k G H _ (.refl s) rfl⟩
theorem ev_any {xs : List Bool} (hc : X.calm = true) (hm : X.mg "any" = none) (ha : EvA X [a] Z [.val (rL X.K rB) xs]) (hg : Gl X "any" := by rfl) (he : starEach [a] X.env = (false, eval a X.env) :: starEach [] X.env := by rfl) : EvE X (.Call (.Name "any" p) [a] [] pos) Z rB (xs.any id) :=
  ev_cb (pe_callB (cr_any hc) hg hm (by decide +kernel) ca (he := he)) ha fun G H vs Q s h k => by
    obtain ⟨v, rfl, l, us, rfl, h1, h2, _⟩ := slv1 h
    obtain rfl := pmap (f := V.bl) (fun _ _ q => q) h2
    exact ⟨l, xs, rfl, s.seq h1, k G H _ (.refl s) rfl⟩
theorem small_two : (2 : Nat) ≤ sizeLine := by decide
theorem ev_tup2 {s : Rel β} {y : β} {k : Nat} (ha : EvA X [a, b] Z [.val r x, .val s y]) : EvE X (.Tuple [a, b] k pos) Z (rT2 X.K r s) (x, y) := fun G H σ Q E q =>
  toE (pe_tup ca) (ha G H σ _ E fun G1 H1 vs e1 h1 => by
    obtain ⟨v, w, rfl, h2, h3⟩ := slv2 h1
    refine ⟨small_two, fun t ht => q _ _ _ (e1.trans (.new e1.s ht)) ?_⟩
    have e2 : Same G1 (upd G1 t (.tup [v, w])) := same_upd (e1.s.free ht)
    exact ⟨t, v, w, rfl, SqT.of upd_same, r.mono e2 h2, s.mono e2 h3⟩)
theorem slvL {G : Hp} {ss : List Slot} : ∀ {xs : List α} {vs : List V}, Slv G vs (xs.map (.val r)) → Paired (r.rd G) vs xs
  | [], _, .nil => .nil
  | _ :: _, _, .cons h t => .cons h (slvL (ss := ss) t)
theorem slv_len {G : Hp} : ∀ {vs : List V} {ss : List Slot}, Slv G vs ss → vs.length = ss.length
  | _, _, .nil => rfl
  | _, _, .cons _ t => by rw [List.length_cons, List.length_cons, slv_len t]
end
end PL

namespace PL
open PySem PySem.Spec PyProof.Rows L2
theorem SubS.refl : ∀ l : List Slot, SubS l l
  | [] => .nil
  | _ :: l => .same (SubS.refl l)
theorem Env.weak {Z W : Ctx} {G H : Hp} {σ : L2.St} (E : Env Z G H σ) (hb : Z.b = W.b) (hs : SubS Z.sl W.sl) (hc : Z.ce = W.ce) : Env W G H σ := by
  refine ⟨hb ▸ E.ex, hb ▸ E.ab, fun i t ht => ?_, hb ▸ hc ▸ E.ce, hc ▸ E.nd⟩
  obtain ⟨s, h1, h2⟩ := hs.get i t ht
  obtain ⟨ov, h3, h4⟩ := E.sl i s h1
  rcases h2 with rfl | rfl
  · exact ⟨ov, h3, trivial⟩
  · exact ⟨ov, h3, h4⟩
theorem Env.dn {Z : Ctx} {G H B : Hp} {σ : L2.St} (E : Env (Z.up B) G H σ) : Env Z G H σ := ⟨E.ex, fun b hb => E.ab b (List.mem_cons_of_mem _ hb), E.sl, E.ce, E.nd⟩
theorem Env.upB {Z : Ctx} {G H B : Hp} {σ : L2.St} (E : Env Z G H σ) (h : Same B G) : Env (Z.up B) G H σ := ⟨E.ex, fun b hb => by
  rcases List.mem_cons.mp hb with e | hb
  · rw [e]; exact h
  · exact E.ab b hb, E.sl, E.ce, E.nd⟩
theorem Env.above {Z : Ctx} {G H B : Hp} {σ : L2.St} (E : Env (Z.up B) G H σ) : Same B G := E.ab B List.mem_cons_self
theorem Env.own {Z : Ctx} {G H : Hp} {σ : L2.St} {o : Addr} {u : HO} (E : Env Z G H σ) (hG : G o = none) (h0 : Z.b.H0 o = none) (hc : ∀ c ∈ Z.ce, c.addr ≠ o) : Env Z G (upd H o u) σ := by
  have s1 : ∀ F : Hp, F o = none → Same F H → Same F (upd H o u) := fun F hF s b x e => by
    rw [upd_ne (ne_of_none e hF)]
    exact s b x e
  refine ⟨⟨E.ex.g, SmF.updo hG E.ex.s, s1 _ h0 E.ex.h, E.ex.n⟩, E.ab, E.sl, fun c hc' => ?_, E.nd⟩
  exact Cell.ok_upd (E.ce c hc') (hc c hc')

def EvI (X : Cx) (tg iter : Expr) (Z : Ctx) {α : Type} (r : Rel α) (xs : List α) : Prop :=
  ∃ wi : TI, PI X tg iter wi ∧ ∀ G H σ R, Env Z G H σ → (∀ G' H' J, Ext G H G' H' → Walks J G' r xs → xs.length ≤ sizeLine → R J H') → wi σ H R
section
variable {X : Cx} {Z : Ctx} {α β γ : Type} {r : Rel α} {x : α} {pos p : Pos} {a b c e tg : Expr} {es : List Expr} {D : Ends} {rest : List Stmt}
theorem ei_list {xs : List α} (h : EvE X e Z (rL X.K r) xs) : EvI X tg e Z r xs := ⟨_, pi_list ce, fun G H σ R E k => h G H σ _ E fun G1 H1 v e1 h1 => by
  obtain ⟨l, us, rfl, h3, h4, h5⟩ := h1
  refine ⟨l, rfl, ⟨us, e1.s.seq h3⟩, k G1 H1 _ e1 ⟨fun i G2 H2 s1 s2 hi => ⟨us, s2.seq (s1.seq h3), by rw [plen h4]; exact hi⟩, fun i G2 H2 s1 s2 hi => ?_, fun i G2 H2 v H3 s1 s2 hi hy => ?_⟩ h5⟩
  · have hi' : i < us.length := by rw [plen h4]; exact hi
    exact ⟨us, us[i], s2.seq (s1.seq h3), List.getElem?_eq_getElem hi'⟩
  · obtain ⟨rfl, hy⟩ := hy
    obtain ⟨x, q1, q2⟩ := pget h4 (hy us (s2.seq (s1.seq h3)))
    exact ⟨x, G2, q1, .refl s2, r.mono s1 q2⟩⟩
def rngL (lo : Int) (n : Nat) : List Int := (List.range n).map fun (i : Nat) => lo + (i : Int)
theorem rngL_len (lo : Int) (n : Nat) : (rngL lo n).length = n := by simp [rngL]
theorem rngL_get {lo : Int} {n i : Nat} (h : i < n) : (rngL lo n)[i]? = some (lo + (i : Int)) := by simp [rngL, h]
theorem walks_rng (lo : Int) (n : Nat) (G : Hp) : Walks (Itr lo n) G rI (rngL lo n) :=
  ⟨fun i _ _ _ _ hi => by rw [rngL_len] at hi; exact hi, fun i _ _ _ _ hi => by rw [rngL_len] at hi; exact hi, fun i G1 H v H' s1 s2 hi hy => by
    obtain ⟨rfl, rfl⟩ := hy
    rw [rngL_len] at hi
    exact ⟨_, G1, rngL_get hi, .refl s2, rfl⟩⟩
theorem ei_range {n : Int} (hm : X.mg "range" = none) (ha : EvA X [a] Z [.val rI n]) (h1 : -(2 ^ 62) ≤ n) (h2 : n ≤ 16777216) (hg : Gl X "range" := by rfl) (hs : starEach [a] X.env = [(false, eval a X.env)] := by rfl) :
    EvI X tg (.Call (.Name "range" p) [a] [] pos) Z rI (rngL 0 n.toNat) := ⟨_, pi_range1 hg hm ca hs, fun G H σ R E k => ha G H σ _ E fun G1 H1 vs e1 q => by
  obtain ⟨v, rfl, q1⟩ := slv1 q
  cases q1
  exact ⟨n, rfl, h1, by omega, k G1 H1 _ e1 (walks_rng 0 n.toNat G1) (by rw [rngL_len, sizeLine_eq]; omega)⟩⟩
def numd {α : Type} (xs : List α) : List (Int × α) := xs.zipIdx.map fun q => ((q.2 : Int), q.1)
theorem numd_len {α : Type} (xs : List α) : (numd xs).length = xs.length := by simp [numd]
theorem numd_get {α : Type} {xs : List α} {i : Nat} {x : α} (h : xs[i]? = some x) : (numd xs)[i]? = some ((i : Int), x) := by
  simp [numd, List.getElem?_zipIdx, h]
theorem ei_enum {xs : List α} {elts : List Expr} {kk : Nat} {tp : Pos} (hm : X.mg "enumerate" = none) (ha : EvA X [e] Z [.val (rL X.K r) xs]) (hg : Gl X "enumerate" := by rfl) (hs : starEach [e] X.env = [(false, eval e X.env)] := by rfl) :
    EvI X (.Tuple elts kk tp) (.Call (.Name "enumerate" p) [e] [] pos) Z (rT2 X.K rI r) (numd xs) := ⟨_, pi_enum hg hm ca hs, fun G H σ R E k => ha G H σ _ E fun G1 H1 vs e1 q => by
  obtain ⟨v, rfl, l, us, rfl, h3, h4, h5⟩ := slv1 q
  refine ⟨l, us, rfl, e1.s.seq h3, k G1 H1 _ e1 ⟨fun i G2 H2 s1 s2 hi => ⟨us, s2.seq (s1.seq h3), by rw [plen h4]; rw [numd_len] at hi; exact hi⟩, fun i G2 H2 s1 s2 hi => ?_, fun i G2 H2 v H3 s1 s2 hi hy => ?_⟩ (by rw [numd_len]; exact h5)⟩
  · have hi' : i < us.length := by rw [plen h4]; rw [numd_len] at hi; exact hi
    exact ⟨us, us[i], s2.seq (s1.seq h3), List.getElem?_eq_getElem hi'⟩
  · obtain ⟨T, x, rfl, nT, rfl, hy⟩ := hy
    obtain ⟨y, q1, q2⟩ := pget h4 (hy us (s2.seq (s1.seq h3)))
    have e2 := Ext.new (o := .tup [.int (i : Nat), x]) s2 nT
    exact ⟨_, _, numd_get q1, e2, T, _, _, rfl, SqT.of upd_same, rfl, r.mono (s1.trans e2.g) q2⟩⟩
theorem cg : PG X tg (wG X tg) := ⟨fun pins s _ _ _ u _ I r h => h.run pins s u I r⟩
theorem toG {t : TG} (q : PG X tg t) {v : V} {σ : L2.St} {H : Hp} {Q : L2.St → Hp → Prop} (h : t v σ H Q) : wG X tg v σ H Q := ⟨fun pins s u I r => q.run pins s σ H v u Q I r h⟩
def EvG (X : Cx) (tg : Expr) {α : Type} (r : Rel α) (x : α) (Z Z' : Ctx) : Prop := ∀ G H σ v Q, Env Z G H σ → r.rd G v x → (∀ σ', Env Z' G H σ' → Q σ' H) → wG X tg v σ H Q
theorem eg_name (i : Nat) {n : Str} (nd : X.N.Nodup) (hi : X.N[i]? = some n := by rfl) (hx : Loc X.env.scope n := by first | exact Or.inl rfl | exact Or.inr rfl) (hf : X.fn n = true ∨ X.env.scope.names.lookup n = some .local := by first | exact .inl rfl | exact .inr rfl | assumption) :
    EvG X (.Name n pos) r x Z (Z.set i (.val r x)) := fun G H σ v Q E h k => toG (pg_name nd hi hx hf) (k _ (E.setv ⟨v, rfl, h⟩))
theorem eg_tup2 {Z1 Z2 : Ctx} {s : Rel β} {y : α × β} {kk : Nat} (hc : X.calm = true) (h1 : EvG X a r y.1 Z Z1) (h2 : EvG X b s y.2 Z1 Z2)
    (hs1 : (assignEach [a, b] X.env).map (·.2) = assign a X.env :: (assignEach [b] X.env).map (·.2) := by rfl) (hs2 : (assignEach [b] X.env).map (·.2) = assign b X.env :: (assignEach [] X.env).map (·.2) := by rfl)
    (hn : (assignEach [a, b] X.env).length = 2 := by rfl) (hst : (assignEach [a, b] X.env).findIdx? (·.1) = none := by rfl) : EvG X (.Tuple [a, b] kk pos) (rT2 X.K r s) y Z Z2 := fun G H σ v Q E h k => by
  obtain ⟨t, v1, v2, rfl, q1, q2, q3⟩ := h
  exact toG (pg_tup hc (pgs_cons cg (pgs_cons cg pgs_nil hs2) hs1) hn hst) ⟨t, _, rfl, E.le.seqT q1, rfl, v1, _, rfl, h1 G H σ v1 _ E q2 fun σ1 E1 => ⟨v2, _, rfl, h2 G H σ1 v2 _ E1 q3 fun σ2 E2 => ⟨rfl, k σ2 E2⟩⟩⟩
theorem eg_tup3 {Z1 Z2 Z3 : Ctx} {s : Rel β} {t : Rel γ} {y : α × β × γ} {kk : Nat} (hc : X.calm = true) (h1 : EvG X a r y.1 Z Z1) (h2 : EvG X b s y.2.1 Z1 Z2) (h3 : EvG X c t y.2.2 Z2 Z3)
    (hs1 : (assignEach [a, b, c] X.env).map (·.2) = assign a X.env :: (assignEach [b, c] X.env).map (·.2) := by rfl) (hs2 : (assignEach [b, c] X.env).map (·.2) = assign b X.env :: (assignEach [c] X.env).map (·.2) := by rfl) (hs3 : (assignEach [c] X.env).map (·.2) = assign c X.env :: (assignEach [] X.env).map (·.2) := by rfl)
    (hn : (assignEach [a, b, c] X.env).length = 3 := by rfl) (hst : (assignEach [a, b, c] X.env).findIdx? (·.1) = none := by rfl) : EvG X (.Tuple [a, b, c] kk pos) (rT3 X.K r s t) y Z Z3 := fun G H σ v Q E h k => by
  obtain ⟨l, v1, v2, v3, rfl, q1, q2, q3, q4⟩ := h
  exact toG (pg_tup hc (pgs_cons cg (pgs_cons cg (pgs_cons cg pgs_nil hs3) hs2) hs1) hn hst) ⟨l, _, rfl, E.le.seqT q1, rfl, v1, _, rfl, h1 G H σ v1 _ E q2 fun σ1 E1 => ⟨v2, _, rfl, h2 G H σ1 v2 _ E1 q3 fun σ2 E2 => ⟨v3, _, rfl, h3 G H σ2 v3 _ E2 q4 fun σ3 E3 => ⟨rfl, k σ3 E3⟩⟩⟩⟩

theorem goes_nil (h : ∀ G H σ, Env Z G H σ → D.nx σ H) : Goes X [] Z D := fun G H σ E => toSs pss_nil (h G H σ E)
theorem goes_of {st : Stmt} {t : TS} (q : PS X st t) (h : ∀ G H σ, Env Z G H σ → t { D with nx := wSs X rest D } σ H) : Goes X (st :: rest) Z D := fun G H σ E => toSs (pss_cons q css) (h G H σ E)
theorem goes_ret (he : EvE X e Z r x) (h : ∀ G H v σ, Env Z G H σ → r.rd G v x → D.rt v H) : Goes X (.Return (some e) pos :: rest) Z D :=
  goes_of (ps_ret ce) fun G H σ E => he G H σ _ E fun G1 H1 v e1 h1 => h G1 H1 v σ (E.ext e1) h1
theorem goes_set (i : Nat) {n : Str} {p' : Pos} (nd : X.N.Nodup) (he : EvE X e Z r x) (h : Goes X rest (Z.set i (.val r x)) D) (hi : X.N[i]? = some n := by rfl) (hx : Loc X.env.scope n := by first | exact Or.inl rfl | exact Or.inr rfl)
    (hs : swapsWith e (some (.Name n p')) pos.line X.env = pure false := by rfl) (hf : X.fn n = true ∨ X.env.scope.names.lookup n = some .local := by first | exact .inl rfl | exact .inr rfl | assumption) : Goes X (.Assign [.Name n p'] e pos :: rest) Z D :=
  goes_of (ps_set nd hi hx ce hs hf) fun G H σ E => he G H σ _ E fun G1 H1 v e1 h1 => h G1 H1 _ ((E.ext e1).setv ⟨v, rfl, h1⟩)
theorem goes_if {th el : List Stmt} {k : Bool} (hc : EvT X c Z k) (h1 : k = true → Goes X th Z { D with nx := wSs X rest D }) (h2 : k = false → Goes X el Z { D with nx := wSs X rest D }) : Goes X (.If c th el pos :: rest) Z D :=
  goes_of (ps_if ct css css) fun G H σ E => hc G H σ _ E fun G1 H1 e1 => by
    cases k with
    | true => rw [if_pos rfl]; exact h1 rfl G1 H1 σ (E.ext e1)
    | false => rw [if_neg Bool.false_ne_true]; exact h2 rfl G1 H1 σ (E.ext e1)
theorem goes_on (h : Goes X rest Z D) {bk ct : L2.St → Hp → Prop} {rt : VK} : Goes X [] Z { nx := wSs X rest D, rt := rt, bk := bk, ct := ct } := goes_nil fun G H σ E => h G H σ E
def LN {S : Type} (Zs : S → Ctx) (I : Nat → S → Prop) (B : Hp) (i : Nat) : L2.St → Hp → Prop := fun σ H => ∃ s G, I i s ∧ Env ((Zs s).up B) G H σ
theorem goes_for {S : Type} {xs : List α} {body : List Stmt} (Zs : S → Ctx) (I : Nat → S → Prop) (s0 : S) (hc : X.calm = true) (hp : PassesOwn (model X.prog X.w) X.A X.env X.xe) (src : EvI X tg e Z r xs) (hI : I 0 s0) (hb0 : Z.b = (Zs s0).b) (hs0 : SubS Z.sl (Zs s0).sl) (hc0 : Z.ce = (Zs s0).ce)
    (turn : ∀ (B : Hp) (i : Nat) (x : α) (s : S), xs[i]? = some x → I i s → ∃ Z', EvG X tg r x ((Zs s).up B) Z' ∧ Goes X body Z' { nx := LN Zs I B (i + 1), rt := D.rt, bk := wSs X rest D, ct := LN Zs I B (i + 1) })
    (after : ∀ s, I xs.length s → Goes X rest (Zs s) D)
    (hs : ∀ x, foldedSetIterable e X.env x = pure x := by intro _; rfl) : Goes X (.For tg e body [] pos :: rest) Z D := by
  obtain ⟨wi, pi, hw⟩ := src
  refine goes_of (ps_for hp hc pi cg css hs) fun G H σ E => ?_
  refine hw G H σ _ E fun G1 H1 J e1 W _ => ?_
  refine ⟨fun i m σ2 H2 => m = xs.length - i ∧ i ≤ xs.length ∧ ∃ s G2, I i s ∧ Env ((Zs s).up G1) G2 H2 σ2, ⟨xs.length, by simp, Nat.zero_le _, s0, G1, hI, ((E.ext e1).weak hb0 hs0 hc0).upB (Same.refl _)⟩, ?_⟩
  rintro i m σ2 H2 ⟨rfl, hi, s, G2, hIs, E2⟩
  by_cases hlt : i < xs.length
  · refine .inr ⟨W.go i G2 H2 E2.above E2.le hlt, LN Zs I G1 (i + 1), fun σ' H' ⟨s', G', q1, q2⟩ => ⟨xs.length - (i + 1), by omega, rfl, hlt, s', G', q1, q2⟩, fun v H3 hy => ?_⟩
    obtain ⟨x, G3, hx, e3, hr⟩ := W.yld i G2 H2 v H3 E2.above E2.le hlt hy
    obtain ⟨Z', g1, g2⟩ := turn G1 i x s hx hIs
    exact g1 G3 H3 σ2 v _ (E2.ext e3) hr fun σ' E' => g2 G3 H3 σ' E'
  · have e : i = xs.length := by omega
    subst e
    exact .inl ⟨W.stop _ G2 H2 E2.above E2.le (Nat.le_refl _), after s hIs G2 H2 σ2 E2.dn⟩
end

section
variable {X : Cx} {Z : Ctx} {α β γ : Type} {r : Rel α} {x : α} {pos p : Pos} {tg e elt : Expr} {D : Ends} {rest : List Stmt}
def Ctx.wipe (Z : Ctx) : List Nat → Ctx
  | [] => Z
  | v :: vs => (Z.wipe vs).set v .any
theorem Env.wipe {G H : Hp} {σ : L2.St} (E : Env Z G H σ) : ∀ vs : List Nat, Env (Z.wipe vs) G H (L2.wipe σ vs)
  | [] => E
  | v :: vs => (Env.wipe E vs).setv trivial
abbrev blkX (X : Cx) (scope : Scope) (s : Shared) (H : Hp) (C : Addr) (cl : List (Str × Addr)) (fp : List Addr) : Cx := X.blk s H scope (compEnvC scope cl C X.env) fp
def OnlyAt (vs : List Nat) (σ σ' : L2.St) : Prop := L2.wipe σ' vs = L2.wipe σ vs
def EvGB (X : Cx) (tg : Expr) {α : Type} (r : Rel α) (x : α) (vs : List Nat) (Z Z' : Ctx) : Prop := ∀ G H σ v Q, Env Z G H σ → r.rd G v x → (∀ σ', Env Z' G H σ' → OnlyAt vs σ σ' → Q σ' H) → wG X tg v σ H Q
theorem wipe_set (σ : L2.St) (i : Nat) (ov : Option V) : ∀ vs : List Nat, i ∈ vs → L2.wipe (σ.set i ov) vs = L2.wipe σ vs
  | [], h => by cases h
  | v :: vs, h => by
    show (L2.wipe (σ.set i ov) vs).set v none = (L2.wipe σ vs).set v none
    by_cases hm : i ∈ vs
    · rw [wipe_set σ i ov vs hm]
    · have e : i = v := (List.mem_cons.mp h).resolve_right hm
      subst e
      have q : ∀ vs : List Nat, i ∉ vs → L2.wipe (σ.set i ov) vs = (L2.wipe σ vs).set i ov := by
        intro vs
        induction vs with
        | nil => intro _; rfl
        | cons w ws ih =>
          intro hw
          have h1 : i ≠ w := fun z => hw (z ▸ List.mem_cons_self)
          show (L2.wipe (σ.set i ov) ws).set w none = ((L2.wipe σ ws).set w none).set i ov
          rw [ih fun z => hw (List.mem_cons_of_mem _ z), List.set_comm _ _ h1]
      rw [q vs hm, List.set_set]
theorem egb_name (i : Nat) {n : Str} {vs : List Nat} (nd : X.N.Nodup) (hm : i ∈ vs := by decide) (hi : X.N[i]? = some n := by rfl) (hx : Loc X.env.scope n := by first | exact Or.inl rfl | exact Or.inr rfl) (hf : X.fn n = true ∨ X.env.scope.names.lookup n = some .local := by first | exact .inl rfl | exact .inr rfl | assumption) :
    EvGB X (.Name n pos) r x vs Z (Z.set i (.val r x)) := fun G H σ v Q E h k => toG (pg_name nd hi hx hf) (k _ (E.setv ⟨v, rfl, h⟩) (wipe_set σ i _ vs hm))
theorem wipe_idem (σ : L2.St) (vs : List Nat) : L2.wipe (L2.wipe σ vs) vs = L2.wipe σ vs := by
  have q : ∀ ws : List Nat, (∀ v ∈ ws, v ∈ vs) → L2.wipe (L2.wipe σ ws) vs = L2.wipe σ vs := by
    intro ws
    induction ws with
    | nil => intro _; rfl
    | cons w ws ih =>
      intro h
      show L2.wipe ((L2.wipe σ ws).set w none) vs = _
      rw [wipe_set _ _ _ vs (h w List.mem_cons_self)]
      exact ih fun v hv => h v (List.mem_cons_of_mem _ hv)
  exact q vs fun _ h => h
def gB (X : Cx) (scope : Scope) (tg : Expr) : TG := fun v σ H Q => ∀ st H0 C cl fp, wG (blkX X scope st H0 C cl fp) tg v σ H Q
def eB (X : Cx) (scope : Scope) (elt : Expr) : TE := fun σ H Q => ∀ st H0 C cl fp, wE (blkX X scope st H0 C cl fp) elt σ H Q
theorem lc_ev {scope : Scope} {own : List (Str × Nat)} {xs : List α} {s : Rel β} {wi : TI} {wt : TT} (hw : ∀ G H σ R, Env Z G H σ → (∀ G' H' J, Ext G H G' H' → Walks J G' r xs → xs.length ≤ sizeLine → R J H') → wi σ H R)
    (acc : Nat → List β) (hacc0 : acc 0 = []) (hlen : ∀ i, (acc i).length ≤ i)
    (turn : ∀ (B : Hp) (i : Nat) (x : α), xs[i]? = some x → ∃ Z' k, (∀ st H C cl fp, EvGB (blkX X scope st H C cl fp) tg r x (own.map (·.2)) ((Z.up B).wipe (own.map (·.2))) Z') ∧
      (∀ G H σ Q, Env Z' G H σ → (∀ G' H', Ext G H G' H' → Q k H') → wt σ H Q) ∧ (k = true → ∃ y, (∀ st H C cl fp, EvE (blkX X scope st H C cl fp) elt Z' s y) ∧ acc (i + 1) = acc i ++ [y]) ∧ (k = false → acc (i + 1) = acc i))
    {G H : Hp} {σ : L2.St} {Q : VK} (E : Env Z G H σ) (q : ∀ G' H' o vs, Ext G H G' H' → H o = none → G' o = none → H' o = some (.lst vs) → Paired (s.rd G') vs (acc xs.length) → (acc xs.length).length ≤ sizeLine → Q (.ref o) H') : tLc wi (gB X scope tg) wt (eB X scope elt) (own.map (·.2)) σ H Q := by
  refine hw G H σ _ E fun G1 H1 J e1 W hl D nD => ?_
  have E1 := E.ext e1
  have h0D : Z.b.H0 D = none := E1.ex.h.free nD
  have hcD : ∀ c ∈ Z.ce, c.addr ≠ D := fun c hc z => by
    obtain ⟨_, _, u, q3, _⟩ := E1.ce c hc
    rw [z, nD] at q3
    cases q3
  have hGD : G1 D = none := E1.le.free nD
  refine ⟨fun (i m : Nat) (H2 : Hp) => m = xs.length - i ∧ i ≤ xs.length ∧ ∃ (G2 : Hp) (vs : List V), Env (Z.up G1) G2 H2 σ ∧ Same H1 H2 ∧ (∀ b, H1 b ≠ none → G1 b = none → G2 b = none) ∧ G2 D = none ∧ H2 D = some (.lst vs) ∧ Paired (s.rd G2) vs (acc i), ⟨xs.length, by simp, Nat.zero_le _, G1, [], ((E1.ext (.newM E1.le nD)).upB (Same.refl _)), same_upd nD, fun _ _ z => z, hGD, upd_same, by rw [hacc0]; exact .nil⟩, ?_⟩
  rintro i m H2 ⟨rfl, hi, G2, vs, E2, s12, n2, g2, hD, hP⟩
  by_cases hlt : i < xs.length
  · refine .inr ⟨W.go i G2 H2 E2.above E2.le hlt, fun (H' : Hp) => ∃ (G2 : Hp) (vs : List V), Env (Z.up G1) G2 H' σ ∧ Same H1 H' ∧ (∀ b, H1 b ≠ none → G1 b = none → G2 b = none) ∧ G2 D = none ∧ H' D = some (.lst vs) ∧ Paired (s.rd G2) vs (acc (i + 1)), fun H' h => ⟨xs.length - (i + 1), by omega, rfl, hlt, h⟩, fun v H3 hy => ?_⟩
    obtain ⟨x, G3, hx, e3, hr⟩ := W.yld i G2 H2 v H3 E2.above E2.le hlt hy
    obtain ⟨Z', k, t1, t2, t3, t4⟩ := turn G1 i x hx
    intro st H0 C cl fp
    have E3 := E2.ext e3
    refine t1 st H0 C cl fp G3 H3 (L2.wipe σ (own.map (·.2))) v _ (E3.wipe _) hr fun σ2 Eb o2 => ?_
    refine ⟨Eq.trans o2 (wipe_idem σ _), ?_⟩
    refine t2 G3 H3 σ2 _ Eb fun G4 H4 e4 => ?_
    have nn : ∀ {G' H' : Hp}, Ext G2 H2 G' H' → ∀ b, H1 b ≠ none → G1 b = none → G' b = none := fun e b hb hg => e.n b (nn_same s12 hb) (n2 b hb hg)
    have nD2 : H2 D ≠ none := by rw [hD]; exact fun z => by cases z
    cases k with
    | false =>
      rw [if_neg Bool.false_ne_true]
      have e34 := e3.trans e4
      refine ⟨G4, vs, E2.ext e34, s12.trans e34.h, nn e34, e34.n D nD2 g2, e34.h D _ hD, ?_⟩
      rw [t4 rfl]
      exact pmono (fun _ _ => s.mono e34.g) hP
    | true =>
      rw [if_pos rfl]
      intro st' H0' C' cl' fp'
      obtain ⟨y, t3, t5⟩ := t3 rfl
      refine t3 st' H0' C' cl' fp' G4 H4 σ2 _ (Eb.ext e4) fun G5 H5 w e5 hw5 => ?_
      have e35 := (e3.trans e4).trans e5
      have gD5 : G5 D = none := e35.n D nD2 g2
      refine ⟨vs, e35.h D _ hD, ?_, G5, vs ++ [w], ?_, ?_, nn e35, gD5, upd_same, ?_⟩
      · have := plen hP
        have := hlen i
        omega
      · exact (E2.ext e35).own gD5 h0D hcD
      · intro b o hb
        rw [upd_ne (ne_of_none hb nD)]
        exact e35.h _ _ (s12 _ _ hb)
      · rw [t5]
        exact psnoc (pmono (fun _ _ => s.mono e35.g) hP) hw5
  · have e : i = xs.length := by omega
    subst e
    refine .inl ⟨W.stop _ G2 H2 E2.above E2.le (Nat.le_refl _), ?_⟩
    exact q G2 H2 D vs ⟨e1.g.trans E2.above, E2.le, e1.h.trans s12, fun b hb hg => n2 b (nn_same e1.h hb) (e1.n b hb hg)⟩ (e1.h.free nD) g2 hD hP (Nat.le_trans (hlen _) hl)
def EvF (X : Cx) (e : Expr) (Z : Ctx) {α : Type} (r : Rel α) (xs : List α) : Prop :=
  ∀ G H σ Q, Env Z G H σ → (∀ G' H' o vs, Ext G H G' H' → H o = none → G' o = none → H' o = some (.lst vs) → Paired (r.rd G') vs xs → xs.length ≤ sizeLine → Q (.ref o) H') → wE X e σ H Q
theorem frz_ext {G H G1 H1 : Hp} {o : Addr} {vs : List V} (e1 : Ext G H G1 H1) (h1 : H o = none) (h2 : G1 o = none) (h3 : H1 o = some (.lst vs)) : Ext G H (upd G1 o (.lst vs)) H1 := by
  have s1 : Same G1 (upd G1 o (.lst vs)) := same_upd h2
  refine ⟨e1.g.trans s1, fun b u hb => ?_, e1.h, fun b hb hg => ?_⟩
  · by_cases hbo : b = o
    · subst hbo
      rw [upd_same] at hb
      rw [← hb]
      exact .inl h3
    · rw [upd_ne hbo] at hb
      exact e1.s b u hb
  · have hbo : b ≠ o := fun z => hb (z ▸ h1)
    rw [upd_ne hbo]
    exact e1.n b hb hg
theorem ev_f {xs : List α} (h : EvF X e Z r xs) : EvE X e Z (rL X.K r) xs := fun G H σ Q E k => h G H σ Q E fun G1 H1 o vs e1 h1 h2 h3 h4 h5 =>
  k (upd G1 o (.lst vs)) H1 (.ref o) (frz_ext e1 h1 h2 h3) ⟨o, vs, rfl, SqL.of upd_same, pmono (fun _ _ => r.mono (same_upd h2)) h4, h5⟩
end
end PL

namespace PL
open PySem PySem.Spec PyProof.Rows L2
def Rt (G0 H0 : Hp) (R : Hp → V → Prop) : VK := fun v H' => ∃ G', Ext G0 H0 G' H' ∧ R G' v
abbrev retD (G0 H0 : Hp) (R : Hp → V → Prop) : Ends := { nx := fun _ H' => Rt G0 H0 R .non H', rt := Rt G0 H0 R }
def spG (P : List Slot → (Hp → V → Prop) → Prop) : Sp := fun vs H Q _ => ∃ (ss : List Slot) (G : Hp) (R : Hp → V → Prop), P ss R ∧ SmF G H ∧ Slv G vs ss ∧ ∀ G' H' v, Ext G H G' H' → R G' v → Q v H'
theorem start_get {G : Hp} {N : List Str} : ∀ {vs : List V} {ss : List Slot}, Slv G vs ss → ∀ (m i : Nat) (s : Slot), (ss ++ List.replicate m .any)[i]? = some s → ∃ ov, (vs.map some ++ List.replicate m none)[i]? = some ov ∧ s.ok G ov
  | _, _, .nil, m, i, s, h => by
    have hi : i < m := by
      have := (List.getElem?_eq_some_iff.mp h).1
      simpa using this
    have e : s = .any := by
      simp [List.getElem?_replicate, hi] at h
      exact h.symm
    subst e
    exact ⟨none, by simp [List.getElem?_replicate, hi], trivial⟩
  | _, _, .cons (v := v) h t, m, 0, s, e => by
    simp at e
    subst e
    exact ⟨some v, by simp, v, rfl, h⟩
  | _, _, .cons h t, m, i + 1, s, e => by
    obtain ⟨ov, h1, h2⟩ := start_get (N := N) t m i s (by simpa using e)
    exact ⟨ov, by simpa using h1, h2⟩
theorem env_start {G H : Hp} {N : List Str} {vs : List V} {ss : List Slot} (hs : SmF G H) (h : Slv G vs ss) : Env ⟨⟨G, H, []⟩, ss ++ List.replicate (N.length - ss.length) .any, []⟩ G H (L2.start N vs) := by
  refine ⟨.refl hs, (fun B hB => by cases hB), fun i s hi => ?_, (fun c hc => by cases hc), List.nodup_nil⟩
  unfold L2.start
  rw [slv_len h]
  exact start_get (N := N) h _ i s hi
section
variable {P : Program} {w : World} {K : PySem.W.Frag} {mg : Str → Option Value} {base : Heap}
def CallOk (P : Program) (w : World) (K : PySem.W.Frag) (mg : Str → Option Value) (base : Heap) (n : Str) (k : Nat) (sp : Sp) : Prop :=
  ∃ f fd ps, FnOk P w K mg base CX0 k f fd ps sp ∧ mg n = some (.ref f) ∧ PySem.W.keepIn K (.ref f) = true ∧ Binds K fd ps []
end
section
variable {X : Cx} {Z : Ctx} {α β γ δ ε ζ : Type} {r : Rel α} {s : Rel β} {t : Rel γ} {u : Rel δ} {rz : Rel ζ} {x : α} {y : β} {z : γ} {q : δ} {pos p : Pos} {a b c d e tg : Expr} {es : List Expr} {D : Ends} {rest : List Stmt} {n : Str} {k : Nat}
theorem ev_call {Pr : List Slot → (Hp → V → Prop) → Prop} {ss : List Slot} {R : Hp → V → Prop} (C : CallOk X.prog X.w X.K X.mg X.base n k (spG Pr)) (hr : Room k X.A) (ha : EvA X (e :: es) Z ss) (hP : Pr ss R) (hR : ∀ G v, R G v → r.rd G v x)
    (hg : Gl X n := by rfl) (hdb : (n == ("__debug__" : Str)) = false := by decide) (he : starEach (e :: es) X.env = (false, eval e X.env) :: starEach es X.env := by rfl) (hpl : (backTo pos (starEach es X.env)).any (·.1) = false := by rfl) :
    EvE X (.Call (.Name n p) (e :: es) [] pos) Z r x := fun G H σ Q E q => by
  obtain ⟨f, fd, ps, F, hm, hk, hb⟩ := C
  exact toE (pe_call (E := fun _ _ _ => False) F hr hg hm hk hb .nil pass0 ca hdb he hpl) (ha G H σ _ E fun G1 H1 vs e1 h1 => ⟨ss, G1, R, hP, e1.s, by rw [List.append_nil]; exact h1, fun G2 H2 v e2 h2 => q G2 H2 v (e1.trans e2) (hR G2 v h2)⟩)
theorem ev_call00 {Pr : List Slot → (Hp → V → Prop) → Prop} {R : Hp → V → Prop} (C : CallOk X.prog X.w X.K X.mg X.base n k (spG Pr)) (hr : Room k X.A) (hP : Pr [] R) (hR : ∀ G v, R G v → r.rd G v x)
    (hg : Gl X n := by rfl) (hdb : (n == ("__debug__" : Str)) = false := by decide) : EvE X (.Call (.Name n p) [] [] pos) Z r x := fun G H σ Q E q => by
  obtain ⟨f, fd, ps, F, hm, hk, hb⟩ := C
  exact toE (pe_call0 (E := fun _ _ _ => False) F hr hg hm hk hb .nil pass0 hdb) ⟨[], G, R, hP, E.le, .nil, fun G2 H2 v e2 h2 => q G2 H2 v e2 (hR G2 v h2)⟩
theorem ef_nil : EvF X (.List [] pos) Z r [] := fun G H σ Q E k => toE (pe_lst pa_nil) ⟨Nat.zero_le _, fun o no => k G _ o [] (.newM E.le no) no (E.le.free no) upd_same .nil (Nat.zero_le _)⟩
theorem strs_mono {K : PySem.W.Frag} {H H' : Hp} (e : SmF H H') : ∀ (d : PyData) (v : V), Dp K H v d → Dp K H' v d := fun d => by
  refine PyData.rec (motive_1 := fun d => ∀ v, Dp K H v d → Dp K H' v d) (motive_2 := fun ds => ∀ vs, DpAll K H vs ds → DpAll K H' vs ds) (motive_3 := fun _ => True) (motive_4 := fun _ => True) ?_ ?_ ?_ ?_ ?_ ?_ ?_ ?_ ?_ ?_ ?_ ?_ d
  · intro v h; cases h; exact .non
  · intro b v h; cases h; exact .bl _
  · intro b v h; cases h; exact .int _
  · intro b v h; cases h; exact .str _
  · intro xs ih v h
    cases h with
    | lst h1 h2 => exact .lst (e.seq h1) (ih _ h2)
  · intro xs ih v h
    cases h with
    | tup h1 h2 => exact .tup (e.seqT h1) (ih _ h2)
  · intro xs _ v h; cases h
  · intro vs h; cases h; exact .nil
  · intro d ds ih1 ih2 vs h
    cases h with
    | cons h1 h2 => exact .cons (ih1 _ h1) (ih2 _ h2)
  · trivial
  · intros; trivial
  · intros; trivial
def dI {K : PySem.W.Frag} : DataR K rI 0 := ⟨.int, fun G v x h => by cases h; exact .int _, fun _ _ _ _ => rfl, fun _ => Nat.le_refl _, fun x y => by simp [PyData.eqv]⟩
def dB {K : PySem.W.Frag} : DataR K rB 0 := ⟨.bool, fun G v x h => by cases h; exact .bl _, fun _ _ _ _ => rfl, fun _ => Nat.le_refl _, fun x y => by simp [PyData.eqv]⟩
theorem dpAll {K : PySem.W.Frag} {n : Nat} (d : DataR K r n) (G : Hp) : ∀ {vs : List V} {xs : List α}, Paired (r.rd G) vs xs → DpAll K G vs (xs.map d.toD)
  | _, _, .nil => .nil
  | _, _, .cons h t => .cons (d.dp _ _ _ h) (dpAll d G t)
theorem layAll {K : PySem.W.Frag} {n : Nat} (d : DataR K r n) {G : Hp} : ∀ {vs : List V} {xs : List α}, Paired (r.rd G) vs xs → PyData.canLayAll0 (xs.map d.toD) = true
  | _, _, .nil => rfl
  | _, _, .cons (l₂ := xs) h t => by
    show (PyData.canLay0 (d.toD _) && PyData.canLayAll0 (xs.map d.toD)) = true
    rw [d.lay _ _ _ h, layAll d t]
    rfl
theorem depAll {K : PySem.W.Frag} {n : Nat} (d : DataR K r n) : ∀ (xs : List α), PyData.depthAll (xs.map d.toD) ≤ n
  | [] => Nat.zero_le _
  | x :: xs => by
    show max (PyData.depth (d.toD x)) (PyData.depthAll (xs.map d.toD)) ≤ n
    have h1 := d.dep x
    have h2 := depAll d xs
    omega
theorem eqvAll {K : PySem.W.Frag} {n : Nat} (d : DataR K r n) : ∀ (xs ys : List α), PyData.eqvAll (xs.map d.toD) (ys.map d.toD) = true ↔ xs = ys
  | [], [] => by simp [PyData.eqvAll]
  | [], y :: ys => by simp [PyData.eqvAll]
  | x :: xs, [] => by simp [PyData.eqvAll]
  | x :: xs, y :: ys => by
    show (PyData.eqv (d.toD x) (d.toD y) && PyData.eqvAll (xs.map d.toD) (ys.map d.toD)) = true ↔ _
    rw [Bool.and_eq_true, d.eqv, eqvAll d xs ys]
    simp
def dL {K : PySem.W.Frag} {n : Nat} (d : DataR K r n) : DataR K (rL K r) (n + 1) :=
  ⟨fun xs => .list (xs.map d.toD), fun G v xs ⟨a, vs, h1, h2, h3, _⟩ => by subst h1; exact .lst h2 (dpAll d G h3), fun G v xs ⟨a, vs, h1, h2, h3, _⟩ => layAll d h3, fun xs => Nat.succ_le_succ (depAll d xs), fun xs ys => by
    show PyData.eqvAll _ _ = true ↔ _
    exact eqvAll d xs ys⟩
theorem shaped_of {d : PyData} {n : Nat} (h : d.canLay0 = true) (h2 : d.depth ≤ n) (h3 : n ≤ 64) : SeqAt.shaped d = true := by
  unfold SeqAt.shaped
  rw [h, decide_eq_true (Nat.le_trans h2 h3)]
  rfl
theorem cm_neD [DecidableEq α] {m : Nat} {x' : α} (d : DataR X.K r m) (hr : Room k X.A) (ha : EvE X a Z r x) (hb : EvE X b Z r x') (hm : m ≤ 64 := by decide) : CmpE X .NotEq a b Z (!decide (x = x')) := cm2 (op_neD hr.units) (nomark _) ha hb fun G H v w Q s h1 h2 k => by
    refine ⟨d.toD x, d.toD x', strs_mono s _ _ (d.dp _ _ _ h1), strs_mono s _ _ (d.dp _ _ _ h2), shaped_of (d.lay _ _ _ h1) (d.dep _) hm, shaped_of (d.lay _ _ _ h2) (d.dep _) hm, k G H _ (.refl s) ?_⟩
    show V.bl _ = V.bl _
    congr 2
    cases e : PyData.eqv (d.toD x) (d.toD x') with
    | true => exact (decide_eq_true ((d.eqv _ _).mp e)).symm
    | false => exact (decide_eq_false fun q => by rw [(d.eqv _ _).mpr q] at e; cases e).symm
end
end PL

namespace PL
open PySem PySem.Spec PyProof.Rows L2
section
variable {P : Program} {w : World} {K : PySem.W.Frag} {mg : Str → Option Value} {base : Heap}
theorem fn_d {x qual : Str} {st : Stmt} {f : Addr} {fd : FuncData} {N ps : List Str} {k : Nat} {Pr : List Slot → (Hp → V → Prop) → Prop} (F : FunD K x qual (defArgs st) (defBody st) (defScope st) [] [] f fd) (S : FnScope N ps (defScope st)) (len : ∀ ss R, Pr ss R → ss.length = ps.length)
    (body : ∀ (cdv : Value) (A : Around) (outer : List PySem.Env) (s : Shared) (H : Hp) (E : XK) (G : Hp) (ss : List Slot) (R : Hp → V → Prop), Room k (A.deeper (envOfC qual (defScope st) s.heap.objs.size f cdv)) → Pr ss R →
      Goes (cxOf CX0 P w K mg base N qual (defScope st) f cdv A outer s H E).nox (defBody st) ⟨⟨G, H, []⟩, ss ++ List.replicate (N.length - ss.length) .any, []⟩ (retD G H R)) : FnOk P w K mg base CX0 (k + 1) f fd ps (spG Pr) := by
  refine F.ok S (fun vs H Q E h => ?_) (fun cdv A outer s H vs Q E hr h => ?_)
  · obtain ⟨ss, G, R, h1, h2, h3, h4⟩ := h
    rw [slv_len h3, len ss R h1]
  · obtain ⟨ss, G, R, h1, h2, h3, h4⟩ := h
    refine ⟨wSs _ _, PSs.nox css, ?_⟩
    constructor
    intro pins s' I
    refine thn ((body cdv A outer s H E G ss R hr h1 G H (L2.start N vs) (env_start h2 h3)).run pins s' I) fun fl s1 hq => ?_
    cases fl with
    | next =>
      obtain ⟨σ', H', I', G', q1, q2⟩ := hq
      exact ⟨σ', H', I', h4 G' H' _ q1 q2⟩
    | brk => exact hq
    | cont => exact hq
    | ret u =>
      obtain ⟨v, σ', H', I', rv, G', q1, q2⟩ := hq
      exact ⟨v, σ', H', I', rv, h4 G' H' _ q1 q2⟩
end
section
variable {X : Cx} {Z Z' Z2 : Ctx} {α β γ : Type} {r : Rel α} {s : Rel β} {x : α} {pos p : Pos} {a b c e : Expr} {es : List Expr} {D : Ends} {rest : List Stmt} {n : Str} {k : Nat}
end
end PL

namespace PL
open PySem PySem.Spec PyProof.Rows L2
section
variable {X : Cx} {Z : Ctx} {α β γ : Type} {r : Rel α} {x : α} {pos p p1 p2 : Pos} {a b c e : Expr} {D : Ends} {rest : List Stmt} {n : Str} {k : Nat}
def Sz (n : Nat) (q : Rat) : Prop := q.num.natAbs < 2 ^ n ∧ q.den < 2 ^ n
theorem Sz.mono {n m : Nat} {q : Rat} (h : Sz n q) (hnm : n ≤ m) : Sz m q := ⟨Nat.lt_of_lt_of_le h.1 (Nat.pow_le_pow_right (by decide) hnm), Nat.lt_of_lt_of_le h.2 (Nat.pow_le_pow_right (by decide) hnm)⟩
theorem Sz.zero {n : Nat} (h : 1 ≤ n) : Sz n 0 := ⟨Nat.pow_pos (by decide), by show 1 < 2 ^ n; exact Nat.one_lt_two_pow (by omega)⟩
end
end PL

namespace PL
open PySem PySem.Spec PyProof.Rows L2
theorem walk_EB {l : PySem.W.OpenLaw} {n k : Nat} {q : Program} {loose : List Str} {XP : (Str → Option Value) → Heap → Prop} {YP : World → Heap → Prop} {d : DefRec} {CX : CXT} {x : Str}
    (hn : l.most = some n) (hn2 : n ≤ sizeLine) (hdf : d.params.defaults = []) (hr : Room k callerA)
    (F : ∀ (w : World) (mg : Str → Option Value) (fa : Addr) (h : Heap), YP w h → h.Ns mainGlobals mg → mg d.name = some (.ref fa) → ∃ (K : PySem.W.Frag) (fd : FuncData) (sp : Sp), K.In h ∧ (∀ (s : Shared) (u : Value), BindsTo s fd ⟨[u], []⟩ [(x, u)]) ∧
        (∀ (H : Hp) (a : Addr) (ns : List Int), ns.length ≤ n → (∀ i ∈ ns, Builtin.Int.intBits i ≤ 1048576) → SqL K H a (ns.map V.int) → sp [.ref a] H (fun v _ => v = .bl true) fun _ _ _ => False) ∧ ∀ base : Heap, K.In base → base.Ns mainGlobals mg → FnOk l.prog w K mg base CX k fa fd [x] sp)
    (hCX : ∀ (H : Hp) (s : Shared) (e : Value) (s' : Shared), CX [] H s (fun _ _ _ => False) e s' → False) : PySem.W.WalkO q loose XP YP l.row.toRowW d [] (fun f vs => PySem.call f vs) :=
  Att.attach_callB hn hdf fun w s₀ s₁ mg mb fa o pm cd doc a vs ns G Y ho hd hcd hmg hobj hints hlen hbits hg =>
    let ⟨_, _, _, KX, hb, hsp, hF⟩ := F w mg fa _ Y G.T.g hmg
    law_call KX G.T.g G.T.b G.T.builtins G.T.nolimit hg hobj hints (Nat.le_trans hlen hn2) hr hF hb (fun H _ hS => hsp H a ns hlen hbits hS) fun H e s' => hCX H s₁ e s'
section
variable {X : Cx} {Z : Ctx} {pos : Pos} {a b : Expr} {i j : Int}
end
theorem Bt.mono {i : Int} {n m : Nat} (h : Bt n i) (hm : n ≤ m) : Bt m i := Nat.le_trans h hm
end PL

namespace PL
open PySem PySem.Spec PyProof.Rows L2
section
variable {X : Cx} {Z W : PL.Ctx} {body : List Stmt} {D : Ends} {α : Type} {r : Rel α} {x y : α} {pos : Pos} {a b : Expr}
end
end PL

namespace PL
open PySem PySem.Spec PyProof.Rows L2
def rC : Rel Text := ⟨fun _ v x => v = .str (mkS x) ∧ okT x, fun _ h => h⟩
abbrev tx (s : Str) : Text := s.cps.toList
theorem mk_tx (z : Str) : mkS (tx z) = z := by
  cases z
  simp [mkS, tx]
theorem tx_mk (x : Text) : tx (mkS x) = x := by simp [mkS, tx]
theorem mkS_len (x : Text) : (mkS x).length = x.length := by simp [mkS, Str.length]
theorem mkS_app (x y : Text) : mkS x ++ mkS y = mkS (x ++ y) := by
  show (⟨x.toArray ++ y.toArray⟩ : Str) = ⟨(x ++ y).toArray⟩
  simp
def okTb (x : Text) : Bool := decide (x.length ≤ 1000000) && x.all fun c => decide (c < 1114112)
theorem okT_b {x : Text} (h : okTb x = true) : okT x := by
  unfold okTb at h
  rw [Bool.and_eq_true] at h
  have h1 := of_decide_eq_true h.1
  exact ⟨by rw [sizeLine_eq]; omega, fun c hc => of_decide_eq_true (List.all_eq_true.mp h.2 c hc)⟩
theorem okT.app {x y : Text} (hx : okT x) (hy : okT y) (h : x.length + y.length ≤ sizeLine) : okT (x ++ y) :=
  ⟨by rw [List.length_append]; exact h, fun c hc => (List.mem_append.mp hc).elim (hx.2 c) (hy.2 c)⟩
theorem okT.one {x : Text} {c : Nat} (h : okT x) (hc : c ∈ x) : okT [c] := ⟨by rw [sizeLine_eq]; show 1 ≤ 16777216; decide, fun d hd => by rw [List.mem_singleton.mp hd]; exact h.2 c hc⟩
section
variable {X : Cx} {Z : PL.Ctx} {α β γ : Type} {r : Rel α} {pos p p2 : Pos} {a b c e tg : Expr} {x y z : Text} {k : Nat} {n : Str}
theorem ev_txt {i : Str} {j : Nat} (h : okTb (tx i) = true := by decide +kernel) : EvE X (.Constant (.str i) j pos) Z rC (tx i) := ev_pure pe_str fun _ => ⟨by rw [mk_tx], okT_b h⟩
theorem ev_cat (ha : EvE X a Z rC x) (hb : EvE X b Z rC y) (hl : x.length + y.length ≤ sizeLine) : EvE X (.BinOp a .Add b pos) Z rC (x ++ y) := ev2 (pe_op op_add_str ce ce) ha hb fun G H v w Q s h1 h2 k => by
  obtain ⟨rfl, o1⟩ := h1
  obtain ⟨rfl, o2⟩ := h2
  exact ⟨_, _, rfl, rfl, by rw [mkS_len, mkS_len]; exact hl, k G H _ (.refl s) ⟨by rw [mkS_app], o1.app o2 hl⟩⟩
theorem ev_lenX (hm : X.mg "len" = none) (ha : EvA X [a] Z [.val rC x]) (hg : Gl X "len" := by rfl) (he : starEach [a] X.env = (false, eval a X.env) :: starEach [] X.env := by rfl) : EvE X (.Call (.Name "len" p) [a] [] pos) Z rI (x.length : Int) :=
  ev_cb (pe_callB call_len_str hg hm PySem.boot_len ca (he := he)) ha fun G H vs Q s h k => by
    obtain ⟨v, rfl, h1⟩ := slv1 h
    obtain ⟨rfl, o1⟩ := h1
    exact ⟨_, rfl, by rw [mkS_len]; exact o1.1, k G H _ (.refl s) (by rw [mkS_len]; rfl)⟩
theorem cm_inC {t : Text} (ha : EvE X a Z rC t) (hb : EvE X b Z rC y) (h1 : t.length = 1) (hm : behindInMarks .In b = false := by rfl) : CmpE X .In a b Z (decide (t.headD 0 ∈ y)) := cm2 op_in_sign hm ha hb fun G H v w Q s h1' h2 k => by
  obtain ⟨rfl, o1⟩ := h1'
  obtain ⟨rfl, o2⟩ := h2
  obtain ⟨ch, rfl⟩ := List.length_eq_one_iff.mp h1
  exact ⟨ch, _, rfl, rfl, k G H _ (.refl s) (by rw [show (mkS y).cps.toList = y from tx_mk y]; rfl)⟩
theorem ev_ixC {i : Int} {ch : Nat} (ha : EvE X a Z rC x) (hb : EvE X b Z rI i) (hj : atI x i = some ch) (hs : PlainIx b := by exact fun _ _ => rfl) : EvE X (.Subscript a b pos) Z rC [ch] :=
  ev2 (pe_ix ix_str ce ce hs) ha hb fun G H v w Q s h1 h2 k => by
    obtain ⟨rfl, o1⟩ := h1
    cases h2
    have hm : ch ∈ x := by
      unfold atI at hj
      cases e : ixN x.length i with
      | none => rw [e] at hj; cases hj
      | some j => rw [e] at hj; exact List.mem_of_getElem? hj
    exact ⟨_, i, ch, rfl, rfl, by rw [mkS_len]; exact o1.1, by rw [show (mkS x).cps.toList = x from tx_mk x]; exact hj, k G H _ (.refl s) ⟨rfl, o1.one hm⟩⟩
theorem ei_txt (h : EvE X e Z rC x) : EvI X tg e Z rC (x.map fun c => [c]) := ⟨_, pi_str ce, fun G H σ R E k => h G H σ _ E fun G1 H1 v e1 h1 => by
  obtain ⟨rfl, o1⟩ := h1
  have hl : (x.map fun c => [c]).length = (mkS x).cps.size := by simp [mkS]
  refine ⟨mkS x, rfl, k G1 H1 _ e1 ⟨fun i G2 H2 s1 s2 hi => by rw [hl] at hi; exact hi, fun i G2 H2 s1 s2 hi => by rw [hl] at hi; exact hi, fun i G2 H2 v H3 s1 s2 hi hy => ?_⟩ (by rw [List.length_map]; exact o1.1)⟩
  obtain ⟨rfl, c, q, rfl⟩ := hy
  have q' : x[i]? = some c := by simpa [mkS] using q
  exact ⟨[c], G2, by simp [q'], .refl s2, rfl, o1.one (List.mem_of_getElem? q')⟩⟩
end
end PL

namespace PL
open PySem PySem.Spec PyProof.Rows L2
section
variable {P : Program} {w : World} {K : PySem.W.Frag} {mg : Str → Option Value} {base : Heap} {α : Type} {r : Rel α}
end
section
variable {X : Cx} {Z : PL.Ctx} {α β γ δ : Type} {r : Rel α} {pos p : Pos} {a b c e : Expr} {es : List Expr} {D : Ends} {rest : List Stmt} {n : Str} {k : Nat}
theorem ev_gtxt {z : Str} (h : ∃ t, X.mg n = some (.str z t)) (ho : okTb (tx z) = true := by decide +kernel) (hg : Gl X n := by rfl) (hd : (n == ("__debug__" : Str)) = false := by decide) : EvE X (.Name n pos) Z rC (tx z) := by
  obtain ⟨t, h⟩ := h
  exact ev_pure (v := .str z) (pe_glob hg h ⟨t, rfl⟩ hd) fun _ => ⟨by rw [mk_tx], okT_b ho⟩
theorem ev_gint {i : Int} (h : ∃ t, X.mg n = some (.int i t)) (hg : Gl X n := by rfl) (hd : (n == ("__debug__" : Str)) = false := by decide) : EvE X (.Name n pos) Z rI i := by
  obtain ⟨t, h⟩ := h
  exact ev_pure (v := .int i) (pe_glob hg h ⟨t, rfl⟩ hd) fun _ => rfl
end
end PL

namespace PL
open PySem PySem.Spec PyProof.Rows L2
section
variable {X : Cx} {Z : PL.Ctx} {α β γ δ : Type} {r : Rel α} {s : Rel β} {t : Rel γ} {u : Rel δ} {x : α} {y : β} {z : γ} {q : δ} {pos p : Pos} {a b c d e : Expr} {es : List Expr} {D : Ends} {rest : List Stmt} {n : Str} {k : Nat}
variable {y3 : α × β × γ}
end
end PL

namespace PL
open PySem PySem.Spec PyProof.Rows L2
def dget {α : Type} : List (Text × α) → Text → Option α
  | [], _ => none
  | (k, x) :: r, t => if k = t then some x else dget r t
def dput {α : Type} : List (Text × α) → Text → α → List (Text × α)
  | [], t, y => [(t, y)]
  | (k, x) :: r, t, y => if k = t then (k, y) :: r else (k, x) :: dput r t y
section
variable {α : Type} {r : Rel α} {G : Hp}
theorem ent_get {t : Text} : ∀ {us : List (Key × V)} {kvs : List (Text × α)}, Paired (ent r G) us kvs → (valV us (Sum.inr (mkS t) : Key) = none ∧ dget kvs t = none) ∨ ∃ v x, valV us (Sum.inr (mkS t) : Key) = some v ∧ dget kvs t = some x ∧ r.rd G v x
  | _, _, .nil => .inl ⟨rfl, rfl⟩
  | (k, v) :: us, (t', x) :: kvs, .cons h rest => by
    obtain ⟨hk, hv, hko⟩ := h
    have hk' : k = Sum.inr (mkS t') := hk
    by_cases e : t' = t
    · refine .inr ⟨v, x, valV_pos (by show k = _; rw [hk', e]), ?_, hv⟩
      show (if t' = t then some x else _) = some x
      rw [if_pos e]
    · have hne : ¬ k = (Sum.inr (mkS t) : Key) := by
        rw [hk']
        exact fun z => e (by
          have := Sum.inr.inj z
          have h2 : (mkS t').cps.toList = (mkS t).cps.toList := by rw [this]
          simpa [mkS] using h2)
      have e2 : dget ((t', x) :: kvs) t = dget kvs t := by
        show (if t' = t then some x else _) = _
        rw [if_neg e]
      rw [valV_neg hne, e2]
      exact ent_get rest
theorem putK_cons (k : Key) (v : V) (k' : Key) (v' : V) (us : List (Key × V)) (hn : ((k', v') :: us).map (·.1) |>.Nodup) : putK ((k', v') :: us) k v = if k' = k then (k', v) :: us else (k', v') :: putK us k v := by
  unfold putK
  by_cases h : k' = k
  · rw [if_pos h]
    have e : (((k', v') :: us).any fun kv => decide (kv.1 = k)) = true := by simp [h]
    rw [if_pos e, List.map_cons, if_pos h]
    congr 1
    have hm : ∀ q ∈ us, ¬ q.1 = k := fun q hq z => by
      have := (List.nodup_cons.mp hn).1
      exact this (List.mem_map.mpr ⟨q, hq, z.trans h.symm⟩)
    rw [List.map_congr_left (g := id) (fun q hq => by rw [if_neg (hm q hq)]; rfl)]
    simp
  · rw [if_neg h]
    have e : (((k', v') :: us).any fun kv => decide (kv.1 = k)) = us.any fun kv => decide (kv.1 = k) := by simp [h]
    rw [e]
    split
    · rw [List.map_cons, if_neg h]
    · rfl
theorem ent_nd : ∀ {us : List (Key × V)} {kvs : List (Text × α)}, Paired (ent r G) us kvs → (kvs.map (·.1)).Nodup → (us.map (·.1)).Nodup
  | _, _, .nil, _ => List.nodup_nil
  | (k, v) :: us, (t', x) :: kvs, .cons h rest, hn => by
    obtain ⟨h1, h2⟩ := List.nodup_cons.mp hn
    refine List.nodup_cons.mpr ⟨fun hm => h1 ?_, ent_nd rest h2⟩
    obtain ⟨q, hq, hqk⟩ := List.mem_map.mp hm
    obtain ⟨i, hi⟩ := List.getElem?_of_mem hq
    obtain ⟨p, hp, he⟩ := pget rest hi
    refine List.mem_map.mpr ⟨p, List.mem_of_getElem? hp, ?_⟩
    have z : (Sum.inr (mkS p.1) : Key) = Sum.inr (mkS t') := he.1.symm.trans (hqk.trans h.1)
    have z2 : (mkS p.1).cps.toList = (mkS t').cps.toList := by rw [Sum.inr.inj z]
    simpa [mkS] using z2
theorem ent_put {t : Text} {v : V} {x : α} (hv : r.rd G v x) (ht : okT t) : ∀ {us : List (Key × V)} {kvs : List (Text × α)}, Paired (ent r G) us kvs → (kvs.map (·.1)).Nodup → Paired (ent r G) (putK us (Sum.inr (mkS t) : Key) v) (dput kvs t x)
  | _, _, .nil, _ => .cons ⟨rfl, hv, ht⟩ .nil
  | (k, v') :: us, (t', x') :: kvs, .cons h rest, hn => by
    have hnd := ent_nd (.cons h rest) hn
    rw [putK_cons _ _ _ _ _ hnd]
    have hk' : k = Sum.inr (mkS t') := h.1
    unfold dput
    by_cases e : t' = t
    · rw [if_pos (show k = _ by rw [hk', e]), if_pos e]
      exact .cons ⟨h.1, hv, h.2.2⟩ rest
    · have hne : ¬ k = (Sum.inr (mkS t) : Key) := by
        rw [hk']
        exact fun z => e (by
          have h2 : (mkS t').cps.toList = (mkS t).cps.toList := by rw [Sum.inr.inj z]
          simpa [mkS] using h2)
      rw [if_neg hne, if_neg e]
      exact .cons h (ent_put hv ht rest (List.nodup_cons.mp hn).2)
end
theorem dput_keys {α : Type} (t : Text) (y : α) : ∀ l : List (Text × α), (dput l t y).map (·.1) = if dget l t = none then l.map (·.1) ++ [t] else l.map (·.1)
  | [] => rfl
  | (k, x) :: r => by
    unfold dput dget
    by_cases h : k = t
    · rw [if_pos h, if_pos h, if_neg (by intro z; cases z)]
      rfl
    · rw [if_neg h, if_neg h]
      show k :: (dput r t y).map (·.1) = _
      rw [dput_keys t y r]
      split <;> rfl
theorem dget_mem {α : Type} {t : Text} : ∀ {l : List (Text × α)}, dget l t = none → t ∉ l.map (·.1)
  | [], _ => by simp
  | (k, x) :: r, h => by
    unfold dget at h
    split at h
    · cases h
    · rename_i hk
      intro hm
      rcases List.mem_cons.mp hm with e | hm
      · exact hk e.symm
      · exact dget_mem h hm
theorem dput_nd {α : Type} {t : Text} {y : α} {l : List (Text × α)} (h : (l.map (·.1)).Nodup) : ((dput l t y).map (·.1)).Nodup := by
  rw [dput_keys]
  split
  · rename_i hn
    exact List.nodup_append.mpr ⟨h, by simp, fun a ha b hb z => by
      rw [List.mem_singleton.mp hb] at z
      exact dget_mem hn (z ▸ ha)⟩
  · exact h
theorem dput_len {α : Type} (t : Text) (y : α) (l : List (Text × α)) : (dput l t y).length ≤ l.length + 1 := by
  have e : (dput l t y).length = ((dput l t y).map (·.1)).length := by rw [List.length_map]
  rw [e, dput_keys]
  split
  · rw [List.length_append, List.length_map]
    exact Nat.le_refl _
  · rw [List.length_map]
    exact Nat.le_succ _
section
variable {X : Cx} {Z : Ctx} {α β γ : Type} {r : Rel α} {s : Rel β} {x : α} {pos p pos' : Pos} {a b c d e o : Expr} {D : Ends} {rest : List Stmt} {n : Str} {k : Nat} {t : Text} {kvs : List (Text × α)}
theorem cm_inDC (j : Nat) {l : Addr} (hr : Room k X.A) (ha : EvE X a Z rC t) (hb : EvE X b Z rRef l) (hj : Z.ce[j]? = some (.dic l r kvs)) (hm : behindInMarks .In b = false := by rfl) : CmpE X .In a b Z (dget kvs t).isSome := ⟨hm, _, pc_din (hu_of hr) ce ce, fun G H σ Q E q =>
  ha G H σ _ E fun G1 H1 v e1 h1 => hb G1 H1 σ _ (E.ext e1) fun G2 H2 w e2 h2 => by
    obtain ⟨rfl, _⟩ : v = .str (mkS t) ∧ okT t := h1
    obtain rfl : w = .ref l := h2
    obtain ⟨_, _, u, g0, us, rfl, g2, _⟩ := (E.ext (e1.trans e2)).ce _ (List.mem_of_getElem? hj)
    refine ⟨l, _, rfl, DGet.k (k := Sum.inr (mkS t)) g0, ?_⟩
    have z : (valV us (Sum.inr (mkS t) : Key)).isSome = (dget kvs t).isSome := by
      rcases ent_get (t := t) g2 with ⟨q1, q2⟩ | ⟨v, y, q1, q2, _⟩ <;> rw [q1, q2] <;> rfl
    rw [z]
    exact q G2 H2 (e1.trans e2)⟩
theorem Env.cellD {G H : Hp} {σ : L2.St} {j : Nat} {c c' : Cell} {u : HO} (E : Env Z G H σ) (hj : Z.ce[j]? = some c) (ha : c'.addr = c.addr) (hi : c'.is G u) : Env (Z.setC (Z.ce.set j c')) G (upd H c.addr u) σ := by
  have hjl : j < Z.ce.length := (List.getElem?_eq_some_iff.mp hj).1
  obtain ⟨h0, hG, u0, hH, _⟩ := E.ce _ (List.mem_of_getElem? hj)
  have s1 : ∀ F : Hp, F c.addr = none → Same F H → Same F (upd H c.addr u) := fun F hF s b x e => by
    rw [upd_ne (ne_of_none e hF)]
    exact s b x e
  have e2 : (Z.ce.map Cell.addr)[j]? = some c.addr := by rw [List.getElem?_map, hj]; rfl
  have hm : (Z.ce.set j c').map Cell.addr = Z.ce.map Cell.addr := by
    rw [List.map_set, ha]
    exact set_self e2
  refine ⟨⟨E.ex.g, SmF.updo hG E.ex.s, s1 _ h0 E.ex.h, E.ex.n⟩, E.ab, E.sl, fun q hq => ?_, by show ((Z.ce.set j _).map Cell.addr).Nodup; rw [hm]; exact E.nd⟩
  obtain ⟨i, hi'⟩ := List.getElem?_of_mem hq
  have hi2 : (Z.ce.set j c')[i]? = some q := hi'
  by_cases hij : j = i
  · subst hij
    rw [List.getElem?_set_self hjl] at hi2
    have e := Option.some.inj hi2
    subst e
    exact ⟨by rw [ha]; exact h0, by rw [ha]; exact hG, u, by rw [ha]; exact upd_same, hi⟩
  · rw [List.getElem?_set_ne hij] at hi2
    refine Cell.ok_upd (E.ce q (List.mem_of_getElem? hi2)) fun z => hij ?_
    exact nd_inj E.nd e2 (by rw [List.getElem?_map, hi2]; exact congrArg some z)
theorem goes_putD (j : Nat) {l : Addr} {y : α} (hr : Room k X.A) (hv : EvE X e Z r y) (hd : EvE X d Z rRef l) (ha : EvE X a Z rC t) (hj : Z.ce[j]? = some (.dic l r kvs)) (hl : kvs.length < sizeLine)
    (h : Goes X rest (Z.setC (Z.ce.set j (.dic l r (dput kvs t y)))) D) (hs : swapsWith e (some (.Subscript d a pos')) pos.line X.env = pure false := by rfl) : Goes X (.Assign [.Subscript d a pos'] e pos :: rest) Z D :=
  goes_of (ps_dput (hu_of hr) ce ce ce hs) fun G H σ E => hv G H σ _ E fun G1 H1 v e1 h1 => hd G1 H1 σ _ (E.ext e1) fun G2 H2 w e2 h2 => ha G2 H2 σ _ (E.ext (e1.trans e2)) fun G3 H3 u e3 h3 => by
    obtain rfl : w = .ref l := h2
    obtain ⟨rfl, ot⟩ : u = .str (mkS t) ∧ okT t := h3
    have E3 := E.ext ((e1.trans e2).trans e3)
    obtain ⟨_, _, u, g0, us, rfl, g2, g3, hn⟩ := E3.ce _ (List.mem_of_getElem? hj)
    exact ⟨l, _, rfl, DPut.k (k := Sum.inr (mkS t)) g0 (by rw [plen g2]; exact hl), h G3 _ σ (E3.cellD (c' := .dic l r (dput kvs t y)) hj rfl ⟨_, rfl, ent_put (r.mono (e2.trans e3).g h1) ot g2 hn, Nat.le_trans (dput_len t y kvs) hl, dput_nd hn⟩)⟩
theorem flds_get {G : Hp} {f : Str} {sl : Slot} : ∀ {vfs : List (Str × V)} {fs : List (Str × Slot)}, Flds G vfs fs → fs.lookup f = some sl → ∃ v, vfs.lookup f = some v ∧ sl.ok G (some v)
  | _, _, .nil, h => by cases h
  | _, _, .cons (n := m) (v := v) hs rest, h => by
    by_cases e : f == m
    · simp only [List.lookup, e] at h ⊢
      cases h
      exact ⟨v, rfl, hs⟩
    · simp only [List.lookup, e] at h ⊢
      exact flds_get rest h
def putS (f : Str) (s : Slot) : List (Str × Slot) → List (Str × Slot)
  | [] => [(f, s)]
  | (g, t) :: r => if g = f then (g, s) :: r else (g, t) :: putS f s r
theorem flds_put {G : Hp} {f : Str} {s : Slot} {v : V} (h : s.ok G (some v)) : ∀ {vfs : List (Str × V)} {fs : List (Str × Slot)}, Flds G vfs fs → Flds G (putF f v vfs) (putS f s fs)
  | _, _, .nil => .cons h .nil
  | _, _, .cons (n := m) hs rest => by
    unfold putF putS
    by_cases e : m = f
    · rw [if_pos e, if_pos e]
      exact .cons h rest
    · rw [if_neg e, if_neg e]
      exact .cons hs (flds_put h rest)
theorem flds_len {G : Hp} : ∀ {vfs : List (Str × V)} {fs : List (Str × Slot)}, Flds G vfs fs → vfs.length = fs.length
  | _, _, .nil => rfl
  | _, _, .cons _ t => by rw [List.length_cons, List.length_cons, flds_len t]
theorem ev_fldC (j : Nat) {l dx C : Addr} {fs : List (Str × Slot)} {f : Str} {y : β} (hc : Cls X.K C) (hn : NoAttr X.K C f) (ha : EvE X e Z rRef l) (hj : Z.ce[j]? = some (.ins l dx C fs)) (hl : fs.lookup f = some (.val s y)) (hb : attributeBase e f X.env (eval e X.env) = eval e X.env := by rfl) : EvE X (.Attribute e f pos) Z s y := fun G H σ Q E q =>
  toE (pe_fld ce hb) (ha G H σ _ E fun G1 H1 v e1 h1 => by
    obtain rfl : v = .ref l := h1
    obtain ⟨_, _, u, g0, g1, vfs, rfl, g3⟩ := (E.ext e1).ce _ (List.mem_of_getElem? hj)
    obtain ⟨v, g4, g5⟩ := flds_get g3 hl
    obtain ⟨v', z, g6⟩ := g5
    cases z
    exact ⟨l, C, dx, vfs, v, rfl, g0, hc, hn, g4, q G1 H1 v e1 g6⟩)
theorem goes_fldD (r : Rel α) (j : Nat) {l dx C : Addr} {fs : List (Str × Slot)} {f : Str} {p2 : Pos} (hc : Cls X.K C) (hn : NoAttr X.K C f) (ho : EvE X o Z rRef l) (hj : Z.ce[j]? = some (.ins l dx C fs)) (hl : fs.length < 1000)
    (h : ∀ m, Goes X rest (Z.setC (.dic m r [] :: Z.ce.set j (.ins l dx C (putS f (.val rRef m) fs)))) D) (hs : swapsWith (.Dict [] [] p2) (some (.Attribute o f pos')) pos.line X.env = pure false := by rfl) : Goes X (.Assign [.Attribute o f pos'] (.Dict [] [] p2) pos :: rest) Z D :=
  goes_of (ps_fld ce pe_dnewK hs) fun G H σ E => fun m nm => ho G _ σ _ (E.ext (.newM E.le nm)) fun G2 H2 w e2 h2 => by
    obtain rfl : w = .ref l := h2
    have e1 := Ext.newM (o := .dK []) E.le nm
    have E2 := E.ext (e1.trans e2)
    obtain ⟨_, _, u, g0, g1, vfs, rfl, g3⟩ := E2.ce _ (List.mem_of_getElem? hj)
    have nml : m ≠ l := fun z => by
      obtain ⟨_, _, u, q0, _⟩ := E.ce _ (List.mem_of_getElem? hj)
      have q0' : H l = some u := q0
      rw [← z, nm] at q0'
      cases q0'
    have E3 := E2.cellD (c' := .ins l dx C (putS f (.val rRef m) fs)) hj rfl ⟨g1, _, rfl, flds_put (s := .val rRef m) (v := .ref m) ⟨.ref m, rfl, rfl⟩ g3⟩
    refine ⟨l, C, dx, vfs, rfl, g0, hc, hn, by rw [flds_len g3]; exact hl, h m G2 _ σ ⟨E3.ex, E3.ab, E3.sl, fun q hq => ?_, ?_⟩⟩
    · rcases List.mem_cons.mp hq with rfl | hq
      · have hG2 : G2 m = none := e2.n m (by rw [upd_same]; exact fun z => by cases z) (E.le.free nm)
        refine ⟨E.ex.h.free nm, hG2, .dK [], ?_, [], rfl, .nil, Nat.zero_le _, List.nodup_nil⟩
        show (upd H2 l _) m = _
        rw [upd_ne nml]
        exact e2.h _ _ upd_same
      · exact E3.ce q hq
    · refine List.nodup_cons.mpr ⟨fun hm => ?_, E3.nd⟩
      have hm2 : m ∈ Z.ce.map Cell.addr := by
        have e2' : (Z.ce.map Cell.addr)[j]? = some l := by rw [List.getElem?_map, hj]; rfl
        have : (Z.ce.set j (.ins l dx C (putS f (.val rRef m) fs))).map Cell.addr = Z.ce.map Cell.addr := by
          rw [List.map_set]
          exact set_self e2'
        rw [← this]
        exact hm
      obtain ⟨q, hq, hqm⟩ := List.mem_map.mp hm2
      obtain ⟨_, _, u, q0, _⟩ := E.ce q hq
      rw [hqm, nm] at q0
      cases q0
end
def hid (H : Hp) (o : Addr) : Hp := fun b => if b = o then none else H b
theorem hid_same {H : Hp} {o : Addr} : hid H o o = none := if_pos rfl
theorem hid_ne {H : Hp} {o b : Addr} (h : b ≠ o) : hid H o b = H b := if_neg h
theorem hid_sub (H : Hp) (o : Addr) : Same (hid H o) H := fun b u e => by
  by_cases h : b = o
  · subst h
    rw [hid_same] at e
    cases e
  · rwa [hid_ne h] at e
section
variable {P : Program} {w : World} {K : PySem.W.Frag} {mg : Str → Option Value} {base : Heap}
def MethOk (P : Program) (w : World) (K : PySem.W.Frag) (mg : Str → Option Value) (base : Heap) (C : Addr) (m : Str) (k : Nat) (sp : Sp) : Prop :=
  ∃ f fd ps, FnOk P w K mg base CX0 k f fd ps sp ∧ Meth K C m f ∧ Binds K fd ps [] ∧ Cls K C
end
section
variable {X : Cx} {Z : Ctx} {α β γ : Type} {r : Rel α} {s : Rel β} {x : α} {pos p apos : Pos} {e o : Expr} {es : List Expr} {D : Ends} {rest : List Stmt} {n m : Str} {k : Nat} {C : Addr}
end
end PL

namespace PL
open PySem PySem.Spec PyProof.Rows L2
section
variable {X : Cx} {Z : Ctx} {α β γ : Type} {r : Rel α} {s : Rel β} {x : α} {pos p apos : Pos} {a b c d e o tg : Expr} {es : List Expr} {D : Ends} {rest : List Stmt} {n : Str} {k : Nat} {t u : Text} {i j l : Int}
def rCatG (K : PySem.W.Frag) : R2 := fun x y H Q => ∃ l b xs zs, x = .ref l ∧ y = .ref b ∧ SqL K H l xs ∧ SqL K H b zs ∧ xs.length + zs.length ≤ sizeLine ∧ ∀ p, H p = none → Q (.ref p) (upd H p (.lst (xs ++ zs)))
theorem op_catG : OpR X (binaryOp .Add) (rCatG X.K) := by
  intro pins s σ H x y v u Q I rx ry h
  obtain ⟨l, b, xs, zs, rfl, rfl, hH, hB, hz, q⟩ := h
  cases rx
  cases ry
  obtain ⟨its, r, ⟨⟨cls, dd, data, sl⟩, n, ho, hc, hd0, hd⟩, z⟩ := I.list hH
  obtain ⟨its2, r2, ⟨⟨cls2, dd2, data2, sl2⟩, n2, ho2, hc2, hd02, hd2⟩, z2⟩ := I.list hB
  simp only at hc hd hc2 hd2
  subst hc hd hc2 hd2
  have ea : its.toArray ++ its2.toArray = (its ++ its2).toArray := by simp
  have e1 := r.length
  have e2 := r2.length
  refine concat_meets ⟨_, ho, rfl⟩ ⟨_, ho2, rfl⟩ noFill_list_add seq_list_add PySem.F.slot_list_add PySem.F.entry_list_add (PySem.F.args_list_add_2 _ _) (list_addW l b its.toArray its2.toArray n n2 dd dd2 sl sl2 (by rw [List.size_toArray, List.size_toArray]; omega)) ⟨ho, ho2, ?_⟩
  rw [ea]
  exact ⟨.ref _, _, I.lnew (t' := s.toks) (r.append r2) (by rw [List.length_append]; omega), rfl, q _ I.fresh⟩
theorem ef_cat {xs ys : List α} (ha : EvE X a Z (rL X.K r) xs) (hb : EvE X b Z (rL X.K r) ys) (hl : xs.length + ys.length ≤ sizeLine) : EvF X (.BinOp a .Add b pos) Z r (xs ++ ys) := fun G H σ Q E q =>
  toE (pe_op op_catG ce ce) (ha G H σ _ E fun G1 H1 v e1 h1 => hb G1 H1 σ _ (E.ext e1) fun G2 H2 w e2 h2 => by
    obtain ⟨m, us, rfl, g1, g2, _⟩ := h1
    obtain ⟨m2, us2, rfl, g3, g4, _⟩ := h2
    refine ⟨m, m2, us, us2, rfl, rfl, (e2.g.trf e2.s).seq g1, e2.s.seq g3, by rw [plen g2, plen g4]; exact hl, fun q1 h1 => ?_⟩
    have e3 := Ext.newM (o := .lst (us ++ us2)) e2.s h1
    exact q G2 _ q1 _ ((e1.trans e2).trans e3) (E.ext (e1.trans e2) |>.ex.h.free h1 |> fun _ => (e1.trans e2).h.free h1) (e2.s.free h1) upd_same (papp (pmono (fun _ _ => r.mono e2.g) g2) g4) (by rw [List.length_append]; exact hl))
section
variable {op op' : CmpOp} {R R' : R2} {ra : Rel α} {rb : Rel β} {rc : Rel γ} {xa : α} {xb : β} {xc : γ} {k1 k2 : Bool}
theorem chE (ho : OpR X (compareOp op) R) (ho' : OpR X (compareOp op') R') (ha : EvE X a Z ra xa) (hb : EvE X b Z rb xb) (hc : EvE X c Z rc xc)
    (f1 : ∀ (G H : Hp) (v w : V) (Q : VK), SmF G H → ra.rd G v xa → rb.rd G w xb → Q (.bl k1) H → R v w H Q)
    (f2 : ∀ (G H : Hp) (v w : V) (Q : VK), SmF G H → rb.rd G v xb → rc.rd G w xc → Q (.bl k2) H → R' v w H Q)
    (hm : lastMarks [op, op'] [b, c] = false := by with_unfolding_all rfl) : EvE X (.Compare a [op, op'] [b, c] pos) Z rB (k1 && k2) ∧ EvT X (.Compare a [op, op'] [b, c] pos) Z (k1 && k2) := by
  have core : ∀ G H σ (Q : VK), Env Z G H σ → (∀ G' H', Ext G H G' H' → Q (.bl (k1 && k2)) H') → tChain R R' (wE X a) (wE X b) (wE X c) σ H Q := fun G H σ Q E q =>
    ha G H σ _ E fun G1 H1 v e1 h1 => hb G1 H1 σ _ (E.ext e1) fun G2 H2 w e2 h2 => f1 G2 H2 v w _ e2.s (ra.mono e2.g h1) h2 (by
      refine ⟨k1, rfl, ?_⟩
      cases k1 with
      | false => exact q G2 H2 (e1.trans e2)
      | true =>
        rw [if_pos rfl]
        exact hc G2 H2 σ _ (E.ext (e1.trans e2)) fun G3 H3 u e3 h3 => f2 G3 H3 w u _ e3.s (rb.mono e3.g h2) h3 (q G3 H3 ((e1.trans e2).trans e3)))
  exact ⟨fun G H σ Q E q => toE (pe_chain ho ho' ce ce ce hm) (core G H σ _ E fun G' H' e => q G' H' _ e rfl), fun G H σ Q E q => toT (pt_chain ho ho' ce ce ce hm) (core G H σ _ E fun G' H' e => ⟨_, rfl, q G' H' e⟩)⟩
end
theorem fI0 {f : Int → Int → Bool} {i j : Int} : ∀ (G H : Hp) (v w : V) (Q : VK), SmF G H → rI.rd G v i → rI.rd G w j → Q (.bl (f i j)) H → L2.rI0 (fun i j => .bl (f i j)) v w H Q := fun G H v w Q _ h1 h2 q => ⟨i, j, h1, h2, q⟩
theorem ev_lele (ha : EvE X a Z rI i) (hb : EvE X b Z rI j) (hc : EvE X c Z rI l) (hm : lastMarks [.LtE, .LtE] [b, c] = false := by with_unfolding_all rfl) : EvE X (.Compare a [.LtE, .LtE] [b, c] pos) Z rB (decide (i ≤ j) && decide (j ≤ l)) :=
  (chE op_le op_le ha hb hc (fI0 (f := fun i j => decide (i ≤ j))) (fI0 (f := fun i j => decide (i ≤ j))) hm).1
def ends (x y : Text) : Bool := decide (y.length ≤ x.length) && decide (x.drop (x.length - y.length) = y)
end
end PL

namespace PL
open PySem PySem.Spec PyProof.Rows L2
section
variable {α β γ : Type} {r : Rel α} {s : Rel β} {t : Rel γ} {K : PySem.W.Frag}
end
section
variable {X : Cx} {Z : Ctx} {α β γ : Type} {r : Rel α} {s : Rel β} {x : α} {y : β} {e : Expr}
end
end PL

namespace PL
open PySem PySem.Spec PyProof.Rows L2
theorem md {n m : Int} (h : 0 < m) : 0 ≤ n % m ∧ n % m < m := ⟨Int.emod_nonneg _ (by omega), Int.emod_lt_of_pos _ h⟩
section
variable {X : Cx} {Z : Ctx} {α β γ : Type} {r : Rel α} {x : α} {pos p : Pos} {a b c e : Expr} {es : List Expr}
theorem ef_lst {xs : List α} (ha : EvA X es Z (xs.map (.val r))) (hl : xs.length ≤ sizeLine) : EvF X (.List es pos) Z r xs := fun G H σ Q E q =>
  toE (pe_lst ca) (ha G H σ _ E fun G1 H1 vs e1 h1 => by
    have l := slv_len h1
    rw [List.length_map] at l
    exact ⟨by omega, fun t ht => q G1 _ t vs (e1.trans (.newM e1.s ht)) (e1.h.free ht) (e1.s.free ht) upd_same (slvL (ss := []) h1) hl⟩)
variable {D : Ends} {rest th el : List Stmt} {k : Bool}
theorem goes_ifJ (W : Ctx) (hc : EvT X c Z k) (h1 : k = true → Goes X th Z { D with nx := Nx W }) (h2 : k = false → Goes X el Z { D with nx := Nx W }) (h : Goes X rest W D) : Goes X (.If c th el pos :: rest) Z D :=
  have up : ∀ body, Goes X body Z { D with nx := Nx W } → Goes X body Z { D with nx := wSs X rest D } := fun body hb G H σ E => ⟨fun pins s I => by
    refine thn ((hb G H σ E).run pins s I) fun fl s1 hq => ?_
    cases fl with
    | next =>
      obtain ⟨σ', H', I', G', E'⟩ := hq
      exact ⟨σ', H', I', h G' H' σ' E'⟩
    | brk => exact hq
    | cont => exact hq
    | ret u => exact hq⟩
  goes_if hc (fun q => up _ (h1 q)) (fun q => up _ (h2 q))
theorem goes_to {W : Ctx} {rt : VK} {bk ct : L2.St → Hp → Prop} (hb : Z.b = W.b) (hs : SubS Z.sl W.sl) (hc : Z.ce = W.ce) : Goes X [] Z { nx := Nx W, rt := rt, bk := bk, ct := ct } :=
  goes_nil fun G H σ E => ⟨G, E.weak hb hs hc⟩
end
end PL

namespace PL
open PySem PySem.Spec PyProof.Rows L2
noncomputable def Rs.gd {α : Type} (c : Prop) (m : Rs α) : Rs α := @ite _ c (Classical.propDecidable c) m .no
theorem Rs.gd_pos {α : Type} {c : Prop} {m : Rs α} (h : c) : Rs.gd c m = m := by unfold Rs.gd; rw [if_pos h]
theorem Rs.bd_inv {α β : Type} {m : Rs α} {f : α → Rs β} {y : β} (h : m.bd f = .ok y) : ∃ x, m = .ok x ∧ f x = .ok y := by
  cases m with
  | ok a => exact ⟨a, rfl, h⟩
  | ex c => cases h
  | no => cases h
theorem Rs.gd_inv {α : Type} {c : Prop} {m : Rs α} {y : α} (h : Rs.gd c m = .ok y) : c ∧ m = .ok y := by
  by_cases hc : c
  · rw [Rs.gd_pos hc] at h
    exact ⟨hc, h⟩
  · unfold Rs.gd at h
    rw [if_neg hc] at h
    cases h
def lcR {α β : Type} (k : α → Rs Bool) (f : α → Rs β) : List α → Rs (List β)
  | [] => .ok []
  | x :: xs => (k x).bd fun b => if b = true then (f x).bd fun y => (lcR k f xs).bd fun ys => .ok (y :: ys) else lcR k f xs
def foldR {α S : Type} (f : S → α → Rs S) : S → List α → Rs S
  | s, [] => .ok s
  | s, x :: xs => (f s x).bd fun s' => foldR f s' xs
def forX {α S ζ : Type} (f : S → α → Rs (Stp S ζ)) : S → List α → Rs (Stp S ζ)
  | s, [] => .ok (.nxt s)
  | s, x :: xs => (f s x).bd fun o => match o with
    | .nxt s' => forX f s' xs
    | .brk s' => .ok (.brk s')
    | .ret z => .ok (.ret z)
def Stp.fin {S ζ O : Type} (g : S → Rs O) (er : ζ → O) : Stp S ζ → Rs O
  | .nxt s => g s
  | .brk s => g s
  | .ret z => .ok (er z)
def ixR {α : Type} (xs : List α) (i : Int) : Rs α := match atI xs i with
  | some x => .ok x
  | none => .no
theorem ixR_inv {α : Type} {xs : List α} {i : Int} {y : α} (h : ixR xs i = .ok y) : atI xs i = some y := by
  unfold ixR at h
  cases e : atI xs i with
  | none => rw [e] at h; cases h
  | some x => rw [e] at h; cases h; rfl
noncomputable def catR {α : Type} (x y : List α) : Rs (List α) := .gd (x.length + y.length ≤ 16777216) (.ok (x ++ y))
noncomputable def putR {α : Type} (kvs : List (Text × α)) (t : Text) (y : α) : Rs (List (Text × α)) := .gd (kvs.length < 16777216) (.ok (dput kvs t y))
def sgnR (x : Text) (i : Int) : Rs Text := (ixR x i).bd fun c => .ok [c]
noncomputable def sinR (t y : Text) : Rs Bool := .gd (t.length = 1) (.ok (decide (t.headD 0 ∈ y)))
noncomputable def modR (i j : Int) : Rs Int := .gd (0 < j) (.ok (i % j))
noncomputable def divR (i j : Int) : Rs Int := .gd (CDivZ i j) (.ok (i.fdiv j))
noncomputable def rngR (n : Int) : Rs (List Int) := .gd (-(2 ^ 62) ≤ n ∧ n ≤ 16777216) (.ok (rngL 0 n.toNat))
section
variable {α β S ζ O : Type}
theorem mapR_ok {f : α → Rs β} {g : α → β} : ∀ {xs : List α}, (∀ x ∈ xs, f x = .ok (g x)) → mapR f xs = .ok (xs.map g)
  | [], _ => rfl
  | x :: xs, h => by
    unfold mapR
    rw [h x (List.mem_cons_self ..), mapR_ok fun y hy => h y (List.mem_cons_of_mem _ hy)]
    rfl
theorem foldR_inv {f : S → α → Rs S} {xs : List α} {s0 : S} (I : Nat → S → Prop) (h0 : I 0 s0) (hs : ∀ i x s, xs[i]? = some x → I i s → ∃ s', f s x = .ok s' ∧ I (i + 1) s') : ∃ s, foldR f s0 xs = .ok s ∧ I xs.length s := by
  induction xs generalizing s0 I with
  | nil => exact ⟨s0, rfl, h0⟩
  | cons x xs ih =>
    obtain ⟨s1, e1, i1⟩ := hs 0 x s0 rfl h0
    obtain ⟨s, e, i⟩ := ih (s0 := s1) (fun n => I (n + 1)) i1 fun i y s hy => hs (i + 1) y s (by simpa using hy)
    exact ⟨s, by unfold foldR; rw [e1]; exact e, i⟩
end
section
variable {X : Cx} {Z : PL.Ctx} {α β γ S ζ O : Type} {r : Rel α} {s : Rel β} {x : α} {pos p : Pos} {a b c e tg elt : Expr} {es : List Expr} {D : O → Ends} {body rest : List Stmt} {n : Str} {k : Nat}
def EvM (X : Cx) (e : Expr) (Z : PL.Ctx) {α : Type} (r : Rel α) (m : Rs α) : Prop := ∀ x, m = .ok x → EvE X e Z r x
def EvTM (X : Cx) (e : Expr) (Z : PL.Ctx) (m : Rs Bool) : Prop := ∀ x, m = .ok x → EvT X e Z x
def EvFM (X : Cx) (e : Expr) (Z : PL.Ctx) {α : Type} (r : Rel α) (m : Rs (List α)) : Prop := ∀ x, m = .ok x → EvF X e Z r x
def EvIM (X : Cx) (tg e : Expr) (Z : PL.Ctx) {α : Type} (r : Rel α) (m : Rs (List α)) : Prop := ∀ x, m = .ok x → EvI X tg e Z r x
def GM {O : Type} (X : Cx) (body : List Stmt) (Z : PL.Ctx) (D : O → Ends) (m : Rs O) : Prop := ∀ o, m = .ok o → Goes X body Z (D o)
theorem ev_ofM {m : Rs α} (h : EvM X e Z r m) (q : m = .ok x) : EvE X e Z r x := h x q
theorem em_ok (h : EvE X e Z r x) : EvM X e Z r (.ok x) := fun y q => by cases q; exact h
theorem etm_ok {k : Bool} (h : EvT X e Z k) : EvTM X e Z (.ok k) := fun y q => by cases q; exact h
theorem efm_ok {xs : List α} (h : EvF X e Z r xs) : EvFM X e Z r (.ok xs) := fun y q => by cases q; exact h
theorem eim_ok {xs : List α} (h : EvI X tg e Z r xs) : EvIM X tg e Z r (.ok xs) := fun y q => by cases q; exact h
theorem em_f {m : Rs (List α)} (h : EvFM X e Z r m) : EvM X e Z (rL X.K r) m := fun y q => ev_f (h y q)
theorem em_bd {m : Rs α} {f : α → Rs β} (hm : EvM X a Z r m) (h : ∀ x, EvE X a Z r x → EvM X e Z s (f x)) : EvM X e Z s (m.bd f) := fun y q => let ⟨x, h1, h2⟩ := Rs.bd_inv q; h x (hm x h1) y h2
theorem em_gd {cd : Prop} {m : Rs β} (h : cd → EvM X e Z s m) : EvM X e Z s (.gd cd m) := fun y q => let ⟨h1, h2⟩ := Rs.gd_inv q; h h1 y h2
theorem etm_bd {m : Rs α} {f : α → Rs Bool} (hm : EvM X a Z r m) (h : ∀ x, EvE X a Z r x → EvTM X e Z (f x)) : EvTM X e Z (m.bd f) := fun y q => let ⟨x, h1, h2⟩ := Rs.bd_inv q; h x (hm x h1) y h2
theorem efm_gd {cd : Prop} {m : Rs (List β)} (h : cd → EvFM X e Z s m) : EvFM X e Z s (.gd cd m) := fun y q => let ⟨h1, h2⟩ := Rs.gd_inv q; h h1 y h2
theorem eim_gd {cd : Prop} {m : Rs (List β)} (h : cd → EvIM X tg e Z s m) : EvIM X tg e Z s (.gd cd m) := fun y q => let ⟨h1, h2⟩ := Rs.gd_inv q; h h1 y h2
theorem em_and {m n : Rs Bool} (ha : EvM X a Z rB m) (hb : EvM X (.BoolOp .And (b :: es) pos) Z rB n) : EvM X (.BoolOp .And (a :: b :: es) pos) Z rB (m.bd fun k => if k = true then n else .ok false) := fun y q => by
  obtain ⟨k, h1, h2⟩ := Rs.bd_inv q
  cases k with
  | false => cases h2; exact ev_cast (ev_and (l := false) (ha false h1) fun z => by cases z) rfl
  | true => exact ev_cast (ev_and (l := y) (ha true h1) fun _ => hb y h2) (by cases y <;> rfl)
theorem em_one {op} {m : Rs α} (h : EvM X a Z r m) : EvM X (.BoolOp op [a] pos) Z r m := fun y q => ev_one (h y q)
theorem gm_run {o : O} {m : Rs O} (h : GM X body Z D m) (q : m = .ok o) : Goes X body Z (D o) := h o q
theorem gm_no : GM X body Z D .no := fun y q => by cases q
variable {m m1 m2 : Rs O}
theorem gm_set (i : Nat) {p' : Pos} (nd : X.N.Nodup) (he : EvE X e Z r x) (h : GM X rest (Z.set i (.val r x)) D m) (hi : X.N[i]? = some n := by rfl) (hx : Loc X.env.scope n := by first | exact Or.inl rfl | exact Or.inr rfl)
    (hs : swapsWith e (some (.Name n p')) pos.line X.env = pure false := by rfl) (hf : X.fn n = true ∨ X.env.scope.names.lookup n = some .local := by first | exact .inl rfl | exact .inr rfl | assumption) : GM X (.Assign [.Name n p'] e pos :: rest) Z D m := fun o q => goes_set i nd he (h o q) hi hx hs hf
abbrev DB (X : Cx) (rest : List Stmt) (D : O → Ends) : O → Ends := fun o => { D o with nx := wSs X rest (D o) }
theorem gm_if {th el : List Stmt} {k : Bool} (hc : EvT X c Z k) (h1 : GM X th Z (DB X rest D) m1) (h2 : GM X el Z (DB X rest D) m2) : GM X (.If c th el pos :: rest) Z D (if k = true then m1 else m2) := fun o q => by
  cases k with
  | true => exact goes_if hc (fun _ => h1 o q) fun z => by cases z
  | false => exact goes_if hc (fun z => by cases z) fun _ => h2 o q
theorem gm_on (h : GM X rest Z D m) : GM X [] Z (DB X rest D) m := fun o q => goes_on (h o q)
abbrev DN (Zs : S → PL.Ctx) : S → Ends := fun s => { nx := Nx (Zs s), rt := fun _ _ => False }
theorem gm_to {Zs : S → PL.Ctx} (s : S) (hb : Z.b = (Zs s).b) (hs : SubS Z.sl (Zs s).sl) (hc : Z.ce = (Zs s).ce) : GM X [] Z (DN Zs) (.ok s) := fun o q => by cases q; exact goes_to hb hs hc
theorem gm_ifJ {th el : List Stmt} {k : Bool} {m1 m2 : Rs S} {g : S → Rs O} (Zs : S → PL.Ctx) (hc : EvT X c Z k) (h1 : GM X th Z (DN Zs) m1) (h2 : GM X el Z (DN Zs) m2) (h : ∀ s, GM X rest (Zs s) D (g s)) : GM X (.If c th el pos :: rest) Z D ((if k = true then m1 else m2).bd g) := fun o q => by
  obtain ⟨s, q1, q2⟩ := Rs.bd_inv q
  have up : ∀ body, Goes X body Z { nx := Nx (Zs s), rt := fun _ _ => False } → Goes X body Z { D o with nx := Nx (Zs s) } := fun body hb G H σ E => ⟨fun pins s0 I => by
    refine thn ((hb G H σ E).run pins s0 I) fun fl s1 hq => ?_
    cases fl with
    | next => exact hq
    | brk => obtain ⟨_, _, _, hq⟩ := hq; exact hq.elim
    | cont => obtain ⟨_, _, _, hq⟩ := hq; exact hq.elim
    | ret u => obtain ⟨_, _, _, _, _, hq⟩ := hq; exact hq.elim⟩
  cases k with
  | true => exact goes_ifJ (Zs s) hc (fun _ => up _ (h1 s q1)) (fun z => by cases z) (h s o q2)
  | false => exact goes_ifJ (Zs s) hc (fun z => by cases z) (fun _ => up _ (h2 s q1)) (h s o q2)
theorem gm_ret {o : O} (he : EvE X e Z r x) (hrt : (D o).rt = Rt Z.b.G0 Z.b.H0 (fun G v => r.rd G v x) := by rfl) : GM X (.Return (some e) pos :: rest) Z D (.ok o) := fun o' q => by
  cases q
  exact goes_ret he fun G H v σ E h => by rw [hrt]; exact ⟨G, E.ex, h⟩
abbrev NU (W : PL.Ctx) (B : Hp) : L2.St → Hp → Prop := fun σ H => ∃ G, Env (W.up B) G H σ
abbrev DF (Zs : S → PL.Ctx) (B : Hp) : S → Ends := fun s => { nx := NU (Zs s) B, rt := fun _ _ => False, ct := NU (Zs s) B }
theorem gm_next {Zs : S → PL.Ctx} {B : Hp} (s : S) (hb : Z.b = ((Zs s).up B).b) (hs : SubS Z.sl (Zs s).sl) (hc : Z.ce = (Zs s).ce) : GM X [] Z (DF Zs B) (.ok s) := fun o q => by
  cases q
  exact goes_nil fun G H σ E => ⟨G, E.weak hb hs hc⟩
theorem goes_mono {D D' : Ends} (h : Goes X body Z D) (h1 : ∀ σ H, D.nx σ H → D'.nx σ H) (h2 : ∀ v H, D.rt v H → D'.rt v H) (h3 : ∀ σ H, D.bk σ H → D'.bk σ H) (h4 : ∀ σ H, D.ct σ H → D'.ct σ H) : Goes X body Z D' := fun G H σ E => ⟨fun pins s I => by
  refine thn ((h G H σ E).run pins s I) fun fl s1 hq => ?_
  cases fl with
  | next => obtain ⟨σ', H', I', hq⟩ := hq; exact ⟨σ', H', I', h1 _ _ hq⟩
  | brk => obtain ⟨σ', H', I', hq⟩ := hq; exact ⟨σ', H', I', h3 _ _ hq⟩
  | cont => obtain ⟨σ', H', I', hq⟩ := hq; exact ⟨σ', H', I', h4 _ _ hq⟩
  | ret u => obtain ⟨v, σ', H', I', rv, hq⟩ := hq; exact ⟨v, σ', H', I', rv, h2 _ _ hq⟩⟩
theorem foldR_drop {f : S → α → Rs S} {xs : List α} {i : Nat} {x : α} {s t : S} (hx : xs[i]? = some x) (h : foldR f s (xs.drop i) = .ok t) : ∃ s', f s x = .ok s' ∧ foldR f s' (xs.drop (i + 1)) = .ok t := by
  have hi := (List.getElem?_eq_some_iff.mp hx).1
  rw [List.drop_eq_getElem_cons hi, (List.getElem?_eq_some_iff.mp hx).2] at h
  exact Rs.bd_inv h
theorem gm_for {xs : List α} {f : S → α → Rs S} {g : S → Rs O} (Zs : S → PL.Ctx) (s0 : S) (hc : X.calm = true) (hp : PassesOwn (model X.prog X.w) X.A X.env X.xe) (src : EvI X tg e Z r xs) (hb0 : Z.b = (Zs s0).b) (hs0 : SubS Z.sl (Zs s0).sl) (hc0 : Z.ce = (Zs s0).ce)
    (turn : ∀ (B : Hp) (x : α) (s : S), ∃ Z', EvG X tg r x ((Zs s).up B) Z' ∧ GM X body Z' (DF Zs B) (f s x)) (after : ∀ s, GM X rest (Zs s) D (g s))
    (hs : ∀ x, foldedSetIterable e X.env x = pure x := by intro _; rfl) : GM X (.For tg e body [] pos :: rest) Z D ((foldR f s0 xs).bd g) := fun o q => by
  obtain ⟨t, q1, q2⟩ := Rs.bd_inv q
  refine goes_for Zs (fun i s => foldR f s (xs.drop i) = .ok t) s0 hc hp src q1 hb0 hs0 hc0 (fun B i x s hx hI => ?_) (fun s hI => ?_) hs
  · obtain ⟨s', h1, h2⟩ := foldR_drop hx hI
    obtain ⟨Z', g1, g2⟩ := turn B x s
    exact ⟨Z', g1, goes_mono (g2 s' h1) (fun σ H ⟨G, E⟩ => ⟨s', G, h2, E⟩) (fun _ _ z => z.elim) (fun _ _ z => z.elim) fun σ H ⟨G, E⟩ => ⟨s', G, h2, E⟩⟩
  · rw [List.drop_length] at hI
    cases hI
    exact after _ o q2
def DX (Zs : S → PL.Ctx) (B : Hp) (D : O → Ends) (er : ζ → O) : Stp S ζ → Ends
  | .nxt s => { nx := NU (Zs s) B, rt := fun _ _ => False, ct := NU (Zs s) B }
  | .brk s => { nx := fun _ _ => False, rt := fun _ _ => False, bk := NU (Zs s) B }
  | .ret z => { nx := fun _ _ => False, rt := (D (er z)).rt }
theorem gm_nextX {Zs : S → PL.Ctx} {B : Hp} {D : O → Ends} {er : ζ → O} (s : S) (hb : Z.b = ((Zs s).up B).b) (hs : SubS Z.sl (Zs s).sl) (hc : Z.ce = (Zs s).ce) : GM X [] Z (DX Zs B D er) (.ok (.nxt s)) := fun o q => by
  cases q
  exact goes_nil fun G H σ E => ⟨G, E.weak hb hs hc⟩
theorem forX_drop {f : S → α → Rs (Stp S ζ)} {xs : List α} {i : Nat} {x : α} {s : S} {t : Stp S ζ} (hx : xs[i]? = some x) (h : forX f s (xs.drop i) = .ok t) : ∃ o, f s x = .ok o ∧ ((∃ s', o = .nxt s' ∧ forX f s' (xs.drop (i + 1)) = .ok t) ∨ (∃ s', o = .brk s' ∧ t = .brk s') ∨ ∃ z, o = .ret z ∧ t = .ret z) := by
  have hi := (List.getElem?_eq_some_iff.mp hx).1
  rw [List.drop_eq_getElem_cons hi, (List.getElem?_eq_some_iff.mp hx).2] at h
  obtain ⟨o, h1, h2⟩ := Rs.bd_inv h
  refine ⟨o, h1, ?_⟩
  cases o with
  | nxt s' => exact .inl ⟨s', rfl, h2⟩
  | brk s' => cases h2; exact .inr (.inl ⟨s', rfl, rfl⟩)
  | ret z => cases h2; exact .inr (.inr ⟨z, rfl, rfl⟩)
theorem gm_forX {xs : List α} {f : S → α → Rs (Stp S ζ)} {g : S → Rs O} (er : ζ → O) (Zs : S → PL.Ctx) (s0 : S) (hc : X.calm = true) (hp : PassesOwn (model X.prog X.w) X.A X.env X.xe) (src : EvI X tg e Z r xs) (hb0 : Z.b = (Zs s0).b) (hs0 : SubS Z.sl (Zs s0).sl) (hc0 : Z.ce = (Zs s0).ce)
    (turn : ∀ (B : Hp) (x : α) (s : S), ∃ Z', EvG X tg r x ((Zs s).up B) Z' ∧ GM X body Z' (DX Zs B D er) (f s x)) (after : ∀ s, GM X rest (Zs s) D (g s))
    (hs : ∀ x, foldedSetIterable e X.env x = pure x := by intro _; rfl) : GM X (.For tg e body [] pos :: rest) Z D ((forX f s0 xs).bd (Stp.fin g er)) := fun o q => by
  obtain ⟨t, q1, q2⟩ := Rs.bd_inv q
  refine goes_for Zs (fun i s => forX f s (xs.drop i) = .ok t) s0 hc hp src q1 hb0 hs0 hc0 (fun B i x s hx hI => ?_) (fun s hI => ?_) hs
  · obtain ⟨o1, h1, h2⟩ := forX_drop hx hI
    obtain ⟨Z', g1, g2⟩ := turn B x s
    refine ⟨Z', g1, ?_⟩
    rcases h2 with ⟨s', rfl, h2⟩ | ⟨s', rfl, rfl⟩ | ⟨z, rfl, rfl⟩
    · exact goes_mono (g2 _ h1) (fun σ H ⟨G, E⟩ => ⟨s', G, h2, E⟩) (fun _ _ z => z.elim) (fun _ _ z => z.elim) fun σ H ⟨G, E⟩ => ⟨s', G, h2, E⟩
    · exact goes_mono (g2 _ h1) (fun _ _ z => z.elim) (fun _ _ z => z.elim) (fun σ H ⟨G, E⟩ => after s' o q2 G H σ E.dn) fun _ _ z => z.elim
    · cases q2
      exact goes_mono (g2 _ h1) (fun _ _ z => z.elim) (fun _ _ z => z) (fun _ _ z => z.elim) fun _ _ z => z.elim
  · rw [List.drop_length] at hI
    cases hI
    exact after s o q2
end
end PL

namespace PL
open PySem PySem.Spec PyProof.Rows L2
def M1 {ζ : Type} {α1 : Type} (r1 : Rel α1) (rz : Rel ζ) (f : α1 → Rs ζ) : List Slot → (Hp → V → Prop) → Prop := fun ss R => ∃ x1 z, ss = [.val r1 x1] ∧ f x1 = .ok z ∧ R = fun G v => rz.rd G v z
def M2 {ζ : Type} {α1 : Type} {α2 : Type} (r1 : Rel α1) (r2 : Rel α2) (rz : Rel ζ) (f : α1 → α2 → Rs ζ) : List Slot → (Hp → V → Prop) → Prop := fun ss R => ∃ x1 x2 z, ss = [.val r1 x1, .val r2 x2] ∧ f x1 x2 = .ok z ∧ R = fun G v => rz.rd G v z
def M3 {ζ : Type} {α1 : Type} {α2 : Type} {α3 : Type} (r1 : Rel α1) (r2 : Rel α2) (r3 : Rel α3) (rz : Rel ζ) (f : α1 → α2 → α3 → Rs ζ) : List Slot → (Hp → V → Prop) → Prop := fun ss R => ∃ x1 x2 x3 z, ss = [.val r1 x1, .val r2 x2, .val r3 x3] ∧ f x1 x2 x3 = .ok z ∧ R = fun G v => rz.rd G v z
def M4 {ζ : Type} {α1 : Type} {α2 : Type} {α3 : Type} {α4 : Type} (r1 : Rel α1) (r2 : Rel α2) (r3 : Rel α3) (r4 : Rel α4) (rz : Rel ζ) (f : α1 → α2 → α3 → α4 → Rs ζ) : List Slot → (Hp → V → Prop) → Prop := fun ss R => ∃ x1 x2 x3 x4 z, ss = [.val r1 x1, .val r2 x2, .val r3 x3, .val r4 x4] ∧ f x1 x2 x3 x4 = .ok z ∧ R = fun G v => rz.rd G v z
section
variable {X : Cx} {Z : PL.Ctx} {α β γ S ζ O : Type} {r : Rel α} {s : Rel β} {x : α} {pos p p2 : Pos} {a b c e tg elt d : Expr} {es : List Expr} {D : O → Ends} {body rest : List Stmt} {n : Str} {k : Nat} {i j : Int} {xs ys : List α} {t u : Text}
theorem em_mod (ha : EvE X a Z rI i) (hb : EvE X b Z rI j) : EvM X (.BinOp a .Mod b pos) Z rI (modR i j) := em_gd fun h => em_ok (ev_mod ha hb h)
theorem em_div (ha : EvE X a Z rI i) (hb : EvE X b Z rI j) : EvM X (.BinOp a .FloorDiv b pos) Z rI (divR i j) := em_gd fun h => em_ok (ev_fdivZ ha hb h)
theorem em_cat (ha : EvE X a Z rC t) (hb : EvE X b Z rC u) : EvM X (.BinOp a .Add b pos) Z rC (catR t u) := em_gd fun h => em_ok (ev_cat ha hb (by rw [sizeLine_eq]; exact h))
theorem efm_cat (ha : EvE X a Z (rL X.K r) xs) (hb : EvE X b Z (rL X.K r) ys) : EvFM X (.BinOp a .Add b pos) Z r (catR xs ys) := efm_gd fun h => efm_ok (ef_cat ha hb (by rw [sizeLine_eq]; exact h))
theorem em_ixL (ha : EvE X a Z (rL X.K r) xs) (hb : EvE X b Z rI i) (hs : PlainIx b := by exact fun _ _ => rfl) : EvM X (.Subscript a b pos) Z r (ixR xs i) := fun y q => by
  have q := ixR_inv q
  exact ev2 (pe_ix ix_list ce ce hs) ha hb fun G H v w Q s h1 h2 k => by
    obtain ⟨l, us, rfl, h3, h4, _⟩ := h1
    unfold atI at q
    cases e : ixN xs.length i with
    | none => rw [e] at q; cases q
    | some j =>
      rw [e] at q
      obtain ⟨u, h5, h6⟩ := pget' h4 q
      exact ⟨l, us, i, u, rfl, h2, s.seq h3, by unfold atI; rw [plen h4, e]; exact h5, k G H _ (.refl s) h6⟩
theorem em_ixC (ha : EvE X a Z rC t) (hb : EvE X b Z rI i) (hs : PlainIx b := by exact fun _ _ => rfl) : EvM X (.Subscript a b pos) Z rC (sgnR t i) := fun y q => by
  obtain ⟨c, h1, h2⟩ := Rs.bd_inv q
  cases h2
  exact ev_ixC ha hb (ixR_inv h1) hs
def CmpM (X : Cx) (op : CmpOp) (a b : Expr) (Z : PL.Ctx) (m : Rs Bool) : Prop := ∀ k, m = .ok k → CmpE X op a b Z k
theorem em_c {op : CmpOp} {m : Rs Bool} (h : CmpM X op a b Z m) : EvM X (.Compare a [op] [b] pos) Z rB m := fun y q => ev_c (h y q)
theorem cmm_in (ha : EvE X a Z rC t) (hb : EvE X b Z rC u) (hm : behindInMarks .In b = false := by rfl) : CmpM X .In a b Z (sinR t u) := fun y q => by
  obtain ⟨h1, h2⟩ := Rs.gd_inv q
  cases h2
  exact cm_inC ha hb h1 hm
theorem eim_range (hm : X.mg "range" = none) (ha : EvA X [a] Z [.val rI i]) (hg : Gl X "range" := by rfl) (hs : starEach [a] X.env = [(false, eval a X.env)] := by rfl) : EvIM X tg (.Call (.Name "range" p) [a] [] pos) Z rI (rngR i) := eim_gd fun h => eim_ok (ei_range hm ha h.1 h.2 hg hs)
theorem lcR_acc {k : α → Rs Bool} {f : α → Rs β} : ∀ {xs : List α} {zs : List β}, lcR k f xs = .ok zs → ∃ acc : Nat → List β, acc 0 = [] ∧ (∀ i, (acc i).length ≤ i) ∧ acc xs.length = zs ∧ ∀ i x, xs[i]? = some x → ∃ b, k x = .ok b ∧ (b = true → ∃ y, f x = .ok y ∧ acc (i + 1) = acc i ++ [y]) ∧ (b = false → acc (i + 1) = acc i)
  | [], zs, h => by
    cases h
    exact ⟨fun _ => [], rfl, fun _ => Nat.zero_le _, rfl, fun i x hx => by simp at hx⟩
  | x :: xs, zs, h => by
    unfold lcR at h
    obtain ⟨b, h1, h2⟩ := Rs.bd_inv h
    cases b with
    | true =>
      rw [if_pos rfl] at h2
      obtain ⟨y, h3, h4⟩ := Rs.bd_inv h2
      obtain ⟨ys, h5, h6⟩ := Rs.bd_inv h4
      cases h6
      obtain ⟨acc, a0, a1, a2, a3⟩ := lcR_acc h5
      refine ⟨fun i => match i with | 0 => [] | i + 1 => y :: acc i, rfl, fun i => ?_, by show y :: acc xs.length = _; rw [a2], fun i z hz => ?_⟩
      · cases i with
        | zero => exact Nat.zero_le _
        | succ i => exact Nat.succ_le_succ (a1 i)
      · cases i with
        | zero =>
          cases hz
          exact ⟨true, h1, fun _ => ⟨y, h3, by show y :: acc 0 = _; rw [a0]; rfl⟩, fun z => by cases z⟩
        | succ i =>
          obtain ⟨b, b1, b2, b3⟩ := a3 i z (by simpa using hz)
          refine ⟨b, b1, fun hb => ?_, fun hb => by show y :: acc (i + 1) = y :: acc i; rw [b3 hb]⟩
          obtain ⟨w, w1, w2⟩ := b2 hb
          exact ⟨w, w1, by show y :: acc (i + 1) = (y :: acc i) ++ [w]; rw [w2]; rfl⟩
    | false =>
      rw [if_neg Bool.false_ne_true] at h2
      obtain ⟨acc, a0, a1, a2, a3⟩ := lcR_acc h2
      refine ⟨fun i => match i with | 0 => [] | i + 1 => acc i, rfl, fun i => ?_, a2, fun i z hz => ?_⟩
      · cases i with
        | zero => exact Nat.zero_le _
        | succ i => exact Nat.le_succ_of_le (a1 i)
      · cases i with
        | zero =>
          cases hz
          exact ⟨false, h1, (fun z => by cases z), fun _ => a0⟩
        | succ i => exact a3 i z (by simpa using hz)
theorem mapR_lcR (f : α → Rs β) : ∀ xs : List α, mapR f xs = lcR (fun _ => .ok true) f xs
  | [] => rfl
  | x :: xs => by
    show (f x).bd _ = (f x).bd _
    rw [mapR_lcR f xs]
theorem lc_core {scope : Scope} {own : List (Str × Nat)} {wi : TI} {wt : TT} {kM : α → Rs Bool} {fM : α → Rs β} {zs : List β} (hw : ∀ G H σ R, Env Z G H σ → (∀ G' H' J, Ext G H G' H' → Walks J G' r xs → xs.length ≤ sizeLine → R J H') → wi σ H R) (hz : lcR kM fM xs = .ok zs)
    (turn : ∀ (B : Hp) (x : α), ∃ Z', (∀ st H C cl fp, EvGB (blkX X scope st H C cl fp) tg r x (own.map (·.2)) ((Z.up B).wipe (own.map (·.2))) Z') ∧
      (∀ k, kM x = .ok k → ∀ G H σ Q, Env Z' G H σ → (∀ G' H', Ext G H G' H' → Q k H') → wt σ H Q) ∧ (∀ st H C cl fp, EvM (blkX X scope st H C cl fp) elt Z' s (fM x)))
    {G H : Hp} {σ : L2.St} {Q : VK} (E : Env Z G H σ) (q : ∀ G' H' o vs, Ext G H G' H' → H o = none → G' o = none → H' o = some (.lst vs) → Paired (s.rd G') vs zs → zs.length ≤ sizeLine → Q (.ref o) H') : tLc wi (gB X scope tg) wt (eB X scope elt) (own.map (·.2)) σ H Q := by
  obtain ⟨acc, a0, a1, a2, a3⟩ := lcR_acc hz
  refine lc_ev (s := s) hw acc a0 a1 (fun B i x hx => ?_) E fun G' H' o vs e1 h1 h2 h3 h4 h5 => q G' H' o vs e1 h1 h2 h3 (a2 ▸ h4) (a2 ▸ h5)
  obtain ⟨b, b1, b2, b3⟩ := a3 i x hx
  obtain ⟨Z', t1, t2, t3⟩ := turn B x
  refine ⟨Z', b, t1, t2 b b1, fun hb => ?_, b3⟩
  obtain ⟨y, y1, y2⟩ := b2 hb
  exact ⟨y, fun st H C cl fp => t3 st H C cl fp y y1, y2⟩
abbrev Turn1 (X : Cx) (Z : PL.Ctx) (scope : Scope) (own : List (Str × Nat)) (tg elt : Expr) {α β : Type} (r : Rel α) (s : Rel β) (fM : α → Rs β) : Prop := ∀ (B : Hp) (x : α), ∃ Z', (∀ st H C cl fp, EvGB (blkX X scope st H C cl fp) tg r x (own.map (·.2)) ((Z.up B).wipe (own.map (·.2))) Z') ∧ (∀ st H C cl fp, EvM (blkX X scope st H C cl fp) elt Z' s (fM x))
theorem pgB {scope : Scope} (st : Shared) (H : Hp) (C : Addr) (cl : List (Str × Addr)) (fp : List Addr) : PG (X.blk st H scope (compEnvC scope cl C X.env) fp) tg (gB X scope tg) := ⟨fun pins s _ _ _ u _ I r h => (h st H C cl fp).run pins s u I r⟩
theorem peB {scope : Scope} (st : Shared) (H : Hp) (C : Addr) (cl : List (Str × Addr)) (fp : List Addr) : PE (X.blk st H scope (compEnvC scope cl C X.env) fp) elt (eB X scope elt) := ⟨fun pins s _ _ _ I h => (h st H C cl fp).run pins s I⟩
def LcRd (X : Cx) (Z : PL.Ctx) (scope : Scope) (own : List (Str × Nat)) (tg e elt : Expr) (ifs : List Expr) {β : Type} (s : Rel β) (m : Rs (List β)) : Prop := ∀ zs, m = .ok zs → ∃ wi wt, PI X tg e wi ∧ (∀ st H C cl fp, PTs (X.blk st H scope (compEnvC scope cl C X.env) fp) ifs wt) ∧
  ∀ G H σ (Q : VK), Env Z G H σ → (∀ G' H' o vs, Ext G H G' H' → H o = none → G' o = none → H' o = some (.lst vs) → Paired (s.rd G') vs zs → zs.length ≤ sizeLine → Q (.ref o) H') → tLc wi (gB X scope tg) wt (eB X scope elt) (own.map (·.2)) σ H Q
theorem lcr_1 {scope : Scope} {own : List (Str × Nat)} {fM : α → Rs β} (src : EvI X tg e Z r xs) (turn : Turn1 X Z scope own tg elt r s fM) : LcRd X Z scope own tg e elt [] s (mapR fM xs) := fun zs hz => by
  obtain ⟨wi, pi, hw⟩ := src
  rw [mapR_lcR] at hz
  exact ⟨wi, _, pi, fun _ _ _ _ _ => pts_nil, fun G H σ Q E q => lc_core hw hz (fun B x => let ⟨Z', t1, t2⟩ := turn B x; ⟨Z', t1, fun k hk G H σ Q E q => by cases hk; exact q G H (.refl E.le), t2⟩) E q⟩
section
variable {scope : Scope} {own : List (Str × Nat)} {ifs : List Expr} {a' tg' : Expr}
theorem lcr_ib {m : Rs (List α)} {g : List α → Rs (List β)} (hm : EvIM X tg' a' Z r m) (h : ∀ x, EvI X tg' a' Z r x → LcRd X Z scope own tg e elt ifs s (g x)) : LcRd X Z scope own tg e elt ifs s (m.bd g) := fun y q => let ⟨x, h1, h2⟩ := Rs.bd_inv q; h x (hm x h1) y h2
end
theorem efm_lc {scope : Scope} (own : List (Str × Nat)) {ifs : List Expr} {m : Rs (List β)} (hc : X.calm = true) (nd : X.N.Nodup) (h : LcRd X Z scope own tg e elt ifs s m)
    (ok : blkC X.N X.env.scope scope own = true := by kernel_rfl) (hs : ∀ x, foldedSetIterable e X.env x = pure x := by intro _; rfl) : EvFM X (.ListComp elt [⟨tg, e, ifs, 0⟩] scope pos) Z s m := fun zs hz => by
  obtain ⟨wi, wt, h1, h2, h3⟩ := h zs hz
  exact fun G H σ Q E q => toE (pe_lc (own := own) hc nd h1 (blkOk_by ok) pgB h2 peB hs) (h3 G H σ Q E q)
def M0 {ζ : Type} (rz : Rel ζ) (f : Rs ζ) : List Slot → (Hp → V → Prop) → Prop := fun ss R => ∃ z, ss = [] ∧ f = .ok z ∧ R = fun G v => rz.rd G v z
theorem em_c0 {rz : Rel ζ} {f : Rs ζ} (C : CallOk X.prog X.w X.K X.mg X.base n k (spG (M0 rz f))) (hr : Room k X.A) (hg : Gl X n := by rfl) (hdb : (n == ("__debug__" : Str)) = false := by decide) : EvM X (.Call (.Name n p) [] [] pos) Z rz f := fun z q => ev_call00 C hr ⟨z, rfl, q, rfl⟩ (fun _ _ h => h) hg hdb
theorem em_c1 {α1 : Type} {r1 : Rel α1} {x1 : α1} {rz : Rel ζ} {f : α1 → Rs ζ} (C : CallOk X.prog X.w X.K X.mg X.base n k (spG (M1 r1 rz f))) (hr : Room k X.A) (ha : EvA X (e :: es) Z [.val r1 x1]) (hg : Gl X n := by rfl) (hdb : (n == ("__debug__" : Str)) = false := by decide) (he : starEach (e :: es) X.env = (false, eval e X.env) :: starEach es X.env := by rfl) (hpl : (backTo pos (starEach es X.env)).any (·.1) = false := by rfl) : EvM X (.Call (.Name n p) (e :: es) [] pos) Z rz (f x1) := fun z q => ev_call C hr ha ⟨x1, z, rfl, q, rfl⟩ (fun _ _ h => h) hg hdb he hpl
theorem em_c2 {α1 : Type} {r1 : Rel α1} {x1 : α1} {α2 : Type} {r2 : Rel α2} {x2 : α2} {rz : Rel ζ} {f : α1 → α2 → Rs ζ} (C : CallOk X.prog X.w X.K X.mg X.base n k (spG (M2 r1 r2 rz f))) (hr : Room k X.A) (ha : EvA X (e :: es) Z [.val r1 x1, .val r2 x2]) (hg : Gl X n := by rfl) (hdb : (n == ("__debug__" : Str)) = false := by decide) (he : starEach (e :: es) X.env = (false, eval e X.env) :: starEach es X.env := by rfl) (hpl : (backTo pos (starEach es X.env)).any (·.1) = false := by rfl) : EvM X (.Call (.Name n p) (e :: es) [] pos) Z rz (f x1 x2) := fun z q => ev_call C hr ha ⟨x1, x2, z, rfl, q, rfl⟩ (fun _ _ h => h) hg hdb he hpl
theorem em_c3 {α1 : Type} {r1 : Rel α1} {x1 : α1} {α2 : Type} {r2 : Rel α2} {x2 : α2} {α3 : Type} {r3 : Rel α3} {x3 : α3} {rz : Rel ζ} {f : α1 → α2 → α3 → Rs ζ} (C : CallOk X.prog X.w X.K X.mg X.base n k (spG (M3 r1 r2 r3 rz f))) (hr : Room k X.A) (ha : EvA X (e :: es) Z [.val r1 x1, .val r2 x2, .val r3 x3]) (hg : Gl X n := by rfl) (hdb : (n == ("__debug__" : Str)) = false := by decide) (he : starEach (e :: es) X.env = (false, eval e X.env) :: starEach es X.env := by rfl) (hpl : (backTo pos (starEach es X.env)).any (·.1) = false := by rfl) : EvM X (.Call (.Name n p) (e :: es) [] pos) Z rz (f x1 x2 x3) := fun z q => ev_call C hr ha ⟨x1, x2, x3, z, rfl, q, rfl⟩ (fun _ _ h => h) hg hdb he hpl
theorem em_c4 {α1 : Type} {r1 : Rel α1} {x1 : α1} {α2 : Type} {r2 : Rel α2} {x2 : α2} {α3 : Type} {r3 : Rel α3} {x3 : α3} {α4 : Type} {r4 : Rel α4} {x4 : α4} {rz : Rel ζ} {f : α1 → α2 → α3 → α4 → Rs ζ} (C : CallOk X.prog X.w X.K X.mg X.base n k (spG (M4 r1 r2 r3 r4 rz f))) (hr : Room k X.A) (ha : EvA X (e :: es) Z [.val r1 x1, .val r2 x2, .val r3 x3, .val r4 x4]) (hg : Gl X n := by rfl) (hdb : (n == ("__debug__" : Str)) = false := by decide) (he : starEach (e :: es) X.env = (false, eval e X.env) :: starEach es X.env := by rfl) (hpl : (backTo pos (starEach es X.env)).any (·.1) = false := by rfl) : EvM X (.Call (.Name n p) (e :: es) [] pos) Z rz (f x1 x2 x3 x4) := fun z q => ev_call C hr ha ⟨x1, x2, x3, x4, z, rfl, q, rfl⟩ (fun _ _ h => h) hg hdb he hpl
end
end PL

namespace PL
open PySem PySem.Spec PyProof.Rows L2
theorem szl (n : Nat) (h : n ≤ 1000 := by decide) : n ≤ sizeLine := by rw [sizeLine_eq]; omega
section
variable {X : Cx} {Z : PL.Ctx} {α β γ δ ε S ζ O : Type} {r : Rel α} {s : Rel β} {r3 : Rel γ} {r4 : Rel δ} {x : α} {pos p p2 : Pos} {a b c e f tg elt d : Expr} {es : List Expr} {D : O → Ends} {body rest : List Stmt} {n : Str} {k : Nat} {i j : Int} {xs ys : List α} {t u : Text}
def txts : List Expr → Option (List Text)
  | [] => some []
  | .Constant (.str i) _ _ :: es => (txts es).map (tx i :: ·)
  | _ :: _ => none
theorem ea_txts : ∀ {es : List Expr} {xs : List Text}, txts es = some xs → xs.all okTb = true → EvA X es Z (xs.map (.val rC))
  | [], _, h, _ => by cases h; exact ea_nil
  | .Constant (.str i) _ _ :: es, _, h, ho => by
    unfold txts at h
    cases e : txts es with
    | none => rw [e] at h; cases h
    | some ys =>
      rw [e] at h
      cases h
      rw [List.all_cons, Bool.and_eq_true] at ho
      exact ea_cons (ev_txt ho.1) (ea_txts e ho.2)
theorem ef_txts {xs : List Text} (h : txts es = some xs := by rfl) (ho : xs.all okTb = true := by decide +kernel) (hl : decide (xs.length ≤ 1000) = true := by rfl) : EvF X (.List es pos) Z rC xs := ef_lst (ea_txts h ho) (by have := of_decide_eq_true hl; rw [sizeLine_eq]; omega)
end
end PL

namespace PL
open PySem PySem.Spec PyProof.Rows L2
section
variable {X : Cx} {Z : PL.Ctx} {α β γ S ζ O : Type} {r : Rel α} {s : Rel β} {x : α} {pos p p2 : Pos} {a b c e f tg elt d : Expr} {es : List Expr} {D : O → Ends} {body rest th el : List Stmt} {n : Str} {k : Nat} {i j : Int} {xs ys : List α} {t u : Text} {m : Rs α} {g : α → Rs O}
theorem gm_setM (i : Nat) {p' : Pos} (nd : X.N.Nodup) (he : EvM X e Z r m) (h : ∀ x, GM X rest (Z.set i (.val r x)) D (g x)) (hi : X.N[i]? = some n := by rfl) (hx : Loc X.env.scope n := by first | exact Or.inl rfl | exact Or.inr rfl)
    (hs : swapsWith e (some (.Name n p')) pos.line X.env = pure false := by rfl) (hf : X.fn n = true ∨ X.env.scope.names.lookup n = some .local := by first | exact .inl rfl | exact .inr rfl | assumption) : GM X (.Assign [.Name n p'] e pos :: rest) Z D (m.bd g) := fun o q =>
  let ⟨x, h1, h2⟩ := Rs.bd_inv q; goes_set i nd (he x h1) (h x o h2) hi hx hs hf
theorem gm_retM {g : α → O} (he : EvM X e Z r m) (hrt : ∀ x, (D (g x)).rt = Rt Z.b.G0 Z.b.H0 (fun G v => r.rd G v x) := by intro _; rfl) : GM X (.Return (some e) pos :: rest) Z D (m.bd fun x => .ok (g x)) := fun o q => by
  obtain ⟨x, q1, q2⟩ := Rs.bd_inv q
  exact gm_ret (he x q1) (hrt x) o q2
theorem gm_ifM {mk : Rs Bool} {g1 g2 : Bool → Rs O} (hc : EvTM X c Z mk) (h1 : ∀ k, GM X th Z (DB X rest D) (g1 k)) (h2 : ∀ k, GM X el Z (DB X rest D) (g2 k)) : GM X (.If c th el pos :: rest) Z D (mk.bd fun k => if k = true then g1 k else g2 k) := fun o q => by
  obtain ⟨k, q1, q2⟩ := Rs.bd_inv q
  exact gm_if (hc k q1) (h1 k) (h2 k) o q2
theorem gm_forM {mx : Rs (List α)} {f : S → α → Rs S} {g : S → Rs O} (Zs : S → PL.Ctx) (s0 : S) (hc : X.calm = true) (hp : PassesOwn (model X.prog X.w) X.A X.env X.xe) (src : EvIM X tg e Z r mx) (hb0 : Z.b = (Zs s0).b) (hs0 : SubS Z.sl (Zs s0).sl) (hc0 : Z.ce = (Zs s0).ce)
    (turn : ∀ (B : Hp) (x : α) (s : S), ∃ Z', EvG X tg r x ((Zs s).up B) Z' ∧ GM X body Z' (DF Zs B) (f s x)) (after : ∀ s, GM X rest (Zs s) D (g s))
    (hs : ∀ x, foldedSetIterable e X.env x = pure x := by intro _; rfl) : GM X (.For tg e body [] pos :: rest) Z D (mx.bd fun xs => (foldR f s0 xs).bd g) := fun o q => by
  obtain ⟨xs, q1, q2⟩ := Rs.bd_inv q
  exact gm_for Zs s0 hc hp (src xs q1) hb0 hs0 hc0 turn after hs o q2
end
end PL

namespace PL
open PySem PySem.Spec PyProof.Rows L2
theorem bt_of {i : Int} (this : Builtin.Int.intBits i ≤ 1048576) : Bt 1048576 i := by
  unfold Builtin.Int.intBits at this
  unfold Bt
  split at this
  · have e : i.natAbs = 0 := by simp_all
    rw [e]
    decide
  · omega
theorem law_spM {K : PySem.W.Frag} {H : Hp} {a : Addr} {ns : List Int} {E : XK} {f : List Int → Rs Bool} (hl : ns.length ≤ 63) (hS : SqL K H a (ns.map V.int)) (h : f ns = .ok true) : spG (M1 (rL K PL.rI) rB f) [.ref a] H (fun v _ => v = .bl true) E :=
  ⟨[.val (rL K PL.rI) ns], H, _, ⟨ns, true, rfl, h, rfl⟩, (Same.refl _).smf, .cons ⟨a, _, rfl, hS, pof (f := V.int) (F := PL.rI.rd H) (fun _ => rfl) ns, by rw [sizeLine_eq]; omega⟩ .nil, fun _ _ _ _ h => h⟩
section
variable {α β S T ζ O : Type}
theorem ixR_at {xs : List α} {i : Int} {j : Nat} {x : α} (hi : i = (j : Int)) (h : xs[j]? = some x) : ixR xs i = .ok x := by
  subst hi
  unfold ixR
  rw [atI_nat h]
theorem ixR_in {xs : List α} {n m : Int} (hm : (xs.length : Int) = m) (h0 : 0 < m) : ∃ x, x ∈ xs ∧ ixR xs (n % m) = .ok x := by
  have h := md (n := n) h0
  have hl : (n % m).toNat < xs.length := by omega
  exact ⟨xs[(n % m).toNat], List.getElem_mem hl, ixR_at (by omega) (List.getElem?_eq_getElem hl)⟩
theorem catR_ok {x y : List α} (h : x.length + y.length ≤ 16777216) : catR x y = .ok (x ++ y) := Rs.gd_pos h
theorem rngR_ok {n : Int} (h0 : 0 ≤ n) (h : n ≤ 16777216) : rngR n = .ok (rngL 0 n.toNat) := Rs.gd_pos ⟨by omega, h⟩
theorem modR_ok {i j : Int} (h : 0 < j) : modR i j = .ok (i % j) := Rs.gd_pos h
theorem divR_ok {i j : Int} (h : 0 < j) (h2 : j.natAbs < 2 ^ 64) : divR i j = .ok (i / j) := by
  unfold divR
  rw [Rs.gd_pos ⟨by omega, Nat.lt_of_le_of_lt (log2_le (n := 64) (Nat.lt_of_lt_of_le h2 (Nat.pow_le_pow_right (by decide) (by decide)))) (by decide)⟩, Int.fdiv_eq_ediv_of_nonneg _ (by omega)]
theorem mapR_pure (f : α → β) (xs : List α) : mapR (fun x => Rs.ok (f x)) xs = .ok (xs.map f) := mapR_ok fun _ _ => rfl
theorem forX_all {f : S → α → Rs (Stp S ζ)} {xs : List α} {s : S} (h : ∀ x ∈ xs, f s x = .ok (.nxt s)) : forX f s xs = .ok (.nxt s) := by
  induction xs with
  | nil => rfl
  | cons x xs ih =>
    unfold forX
    rw [h x (List.mem_cons_self ..)]
    exact ih fun y hy => h y (List.mem_cons_of_mem _ hy)
end
section
variable {α β S T ζ O : Type} {m m1 m2 : Rs α} {f : α → Rs β} {P : α → Prop} {Q : β → Prop} {k : Bool}
theorem Yes.mono {R : β → Prop} {m : Rs β} (h : Yes m Q) (q : ∀ y, Q y → R y) : Yes m R := let ⟨y, h1, h2⟩ := h; ⟨y, h1, q y h2⟩
theorem Yes.if (h1 : k = true → Yes m1 P) (h2 : k = false → Yes m2 P) : Yes (if k = true then m1 else m2) P := by
  cases k with
  | true => exact h1 rfl
  | false => exact h2 rfl
theorem Yes.fold {h : S → α → Rs S} {g : S → Rs β} {xs : List α} {s0 : S} (I : Nat → S → Prop) (h0 : I 0 s0) (hs : ∀ i x s, xs[i]? = some x → I i s → Yes (h s x) (I (i + 1))) (q : ∀ s, I xs.length s → Yes (g s) Q) : Yes ((foldR h s0 xs).bd g) Q := by
  obtain ⟨s, e, i⟩ := foldR_inv I h0 hs
  rw [e]
  exact q s i
end
end PL

namespace PL
open PySem PySem.Spec PyProof.Rows L2
section
variable {X : Cx} {Z : PL.Ctx} {α β γ δ S ζ O τ : Type} {r : Rel α} {s : Rel β} {x : α} {pos p p2 : Pos} {a b c e f tg elt d : Expr} {es : List Expr} {D : O → Ends} {body rest th el : List Stmt} {n : Str} {k : Nat} {Zs : S → PL.Ctx}
theorem Env.is {G H : Hp} {σ : L2.St} {W : PL.Ctx} (E : Env Z G H σ) (hb : Z.b = W.b) (hs : Z.sl = W.sl) (hc : Z.ce = W.ce) : Env W G H σ := ⟨hb ▸ E.ex, hb ▸ E.ab, hs ▸ E.sl, hb ▸ hc ▸ E.ce, hc ▸ E.nd⟩
variable {mi : Rs (Int × S)} {mj : Int × S → Rs (Int × S)} {mt : Rs (Text × S)} {mu : Text × S → Rs (Text × S)} {mv : Text × S → Rs (Int × S)} {ml : Rs (List α × S)} {mw : List α × S → Rs (Int × S)}
end
end PL

namespace PL
open PySem PySem.Spec PyProof.Rows L2
section
variable {P : Program} {w : World} {K : PySem.W.Frag} {mg : Str → Option Value} {base : Heap} {τ : Type} {rt : Rel τ}
end
section
variable {X : Cx} {Z : PL.Ctx} {α β γ δ S ζ O τ : Type} {r : Rel α} {s : Rel β} {rt : Rel τ} {x : α} {pos p p2 : Pos} {a b c e f tg elt d : Expr} {es : List Expr} {D : O → Ends} {body rest th el : List Stmt} {n v : Str} {k : Nat} {Zs : S → PL.Ctx} {Zl : List τ → PL.Ctx}
variable {m : Rs (α × S)} {g : α × S → Rs O}
end
end PL

namespace PL
open PySem PySem.Spec PyProof.Rows L2
section
variable {X : Cx} {Z : PL.Ctx} {α β γ δ S ζ O τ : Type} {r : Rel α} {s : Rel β} {rt : Rel τ} {x : α} {pos p p2 : Pos} {a b c e f tg elt d : Expr} {es : List Expr} {D : O → Ends} {body rest th el : List Stmt} {n : Str} {k : Nat} {Zs : S → PL.Ctx}
end
end PL

namespace PL
open PySem PySem.Spec PyProof.Rows L2 TL
section
variable {X : Cx} {Z : PL.Ctx} {α β S ζ O τ : Type} {r : Rel α} {rt : Rel τ} {pos p apos : Pos} {a b e : Expr} {es : List Expr} {n v : Str} {k : Nat} {Zs : S → PL.Ctx} {Zl : List τ → PL.Ctx} {t : Text} {xs : List Text}
end
end PL

namespace PL
open PySem PySem.Spec PyProof.Rows L2 TL
section
variable {α β S : Type}
end
end PL

namespace PL
open PySem PySem.Spec PyProof.Rows L2
section
variable {X : Cx} {Z : PL.Ctx} {α β O : Type} {r : Rel α} {x : α} {pos p : Pos} {a : Expr} {D : O → Ends} {rest : List Stmt}
end
end PL

namespace PL
open PySem PySem.Spec PyProof.Rows L2
section
variable {X : Cx} {C : Addr} {x : Str} {p pos : Pos}
end
section
variable {P : Program} {w : World} {K : PySem.W.Frag} {mg : Str → Option Value} {base : Heap} {n m : Str} {C : Addr} {j k : Nat} {sp sp' : Sp}
theorem CallOk.up (h : CallOk P w K mg base n j sp) (le : j ≤ k) : CallOk P w K mg base n k sp := by
  obtain ⟨f, fd, ps, F, r⟩ := h
  exact ⟨f, fd, ps, F.mono le, r⟩
theorem MethOk.up (h : MethOk P w K mg base C m j sp) (le : j ≤ k) : MethOk P w K mg base C m k sp := by
  obtain ⟨f, fd, ps, F, r⟩ := h
  exact ⟨f, fd, ps, F.mono le, r⟩
end
section
variable {X : Cx} {Z : PL.Ctx} {α β O : Type} {r : Rel α} {x : α} {pos p : Pos} {a : Expr}
end
end PL

namespace PL
open PySem PySem.Spec PyProof.Rows L2
end PL

namespace PL
open PySem PySem.Spec PyProof.Rows L2
end PL

namespace PL
open PySem PySem.W PySem.Calls PyProof.Rows HandSHeadRun
end PL

namespace PL
open PySem PySem.W PySem.Calls PyProof.Rows HandSHeadRun
end PL

namespace PL
open PySem PySem.Spec PyProof.Rows L2
theorem excF_ok {K : PySem.W.Frag} {mg : Str → Option Value} {x : Str} (h : excFB K (He.ga K x) = true) (g : mg x = some (.ref (He.ga K x))) : ExcF K mg x := by
  unfold excFB at h
  obtain ⟨h1, h⟩ := He.ba h
  obtain ⟨h2, h⟩ := He.ba h
  obtain ⟨h3, h4⟩ := He.ba h
  exact ⟨h1, g, h2, of_decide_eq_true h3, of_decide_eq_true h4⟩
theorem excC_ok {K : PySem.W.Frag} {D : Addr} (h : excCB K D = true) : ExcC K D := by
  unfold excCB at h
  obtain ⟨h1, h⟩ := He.ba h
  obtain ⟨h2, h⟩ := He.ba h
  obtain ⟨h3, h⟩ := He.ba h
  obtain ⟨h4, h⟩ := He.ba h
  obtain ⟨h5, h⟩ := He.ba h
  obtain ⟨h6, h⟩ := He.ba h
  obtain ⟨h7, h8⟩ := He.ba h
  exact ⟨of_decide_eq_true h1, of_decide_eq_true h2, of_decide_eq_true h3, h4, of_decide_eq_true h5, of_decide_eq_true h6, of_decide_eq_true h7, of_decide_eq_true h8⟩
theorem exm_ok {K : PySem.W.Frag} {D C : Addr} {b : Bool} (h : exmB K D C b = true) : PySem.W.exmOne K (.ref D) (.ref C) = some b := of_decide_eq_true h
theorem kitX_ok {K : PySem.W.Frag} {D : Addr} {c : Value} {b : Bool} (h : kitXB K D c b = true) : PySem.W.kitOne K (.ref D) c = some b := of_decide_eq_true h
end PL

namespace PL
open PySem PySem.Spec PyProof.Rows L2
def AcX (X : Cx) (C : Addr) (G0 H0 : Hp) : Prop := ∃ W : WX, L2N.Takes X W ∧ ∀ G H (σ : L2.St), Ext G0 H0 G H → σ.length = X.N.length → W (.ref C) none σ H
abbrev xkOf (C : Addr) (G0 H0 : Hp) : XK := fun cls d H => cls = .ref C ∧ d = none ∧ ∃ G, Ext G0 H0 G H
theorem AcX.takes {X : Cx} {C : Addr} {G0 H0 : Hp} (h : AcX X C G0 H0) : L2N.Takes X (fun cls d _ H => xkOf C G0 H0 cls d H) := by
  obtain ⟨W, tk, hW⟩ := h
  rintro u s' ⟨a, B, sI, pins, σ, H, cls, d, e, I, nb, up, sky, na, os, ag, rfl, rfl, G, hx⟩
  exact tk u s' ⟨a, B, sI, pins, σ, H, _, _, e, I, nb, up, sky, na, os, ag, hW G H σ hx I.len⟩
theorem AcX.passes {X : Cx} {C : Addr} {G0 H0 : Hp} (h : AcX X C G0 H0) : Passes (L2N.CX X.prog X.w) X (xkOf C G0 H0) := L2N.passes_call h.takes fun _ _ _ _ z => z
def rz (c0 x : Str) : Rs Unit := if c0 = x then .ok () else .no
def noEnds : Ends := { nx := fun _ _ => False, rt := fun _ _ => False }
section
variable {X : Cx} {Z : PL.Ctx} {α β γ δ O : Type} {r : Rel α} {s : Rel β} {t : Rel γ} {x : α} {pos p p2 py : Pos} {a b e : Expr} {es : List Expr} {D : O → Ends} {rest : List Stmt} {n : Str} {k : Nat} {G0 H0 : Hp} {c0 : Str}
def EvR (X : Cx) (e : Expr) (Z : PL.Ctx) : Prop := ∀ G H σ (Q : VK), Env Z G H σ → wE X e σ H Q
def EvRM (X : Cx) (e : Expr) (Z : PL.Ctx) (m : Rs Unit) : Prop := ∀ u, m = .ok u → EvR X e Z
def spIX (K : PySem.W.Frag) (C : Addr) (Pr : List Slot → Str → Prop) : Sp := fun vs H _ E => ∃ (o dx : Addr) (us : List V) (ss : List Slot) (c : Str) (G : Hp), vs = .ref o :: us ∧ Pr ss c ∧ SmF G H ∧ H o = some (.ins C dx []) ∧ G o = none ∧ G dx = some (.own o) ∧ Slv G us ss ∧ ∀ G' H', Ext G (hid H o) G' H' → E (.ref (He.ga K c)) none H'
def X2 {α1 α2 : Type} (r1 : Rel α1) (r2 : Rel α2) (f : Str → α1 → α2 → Rs Unit) : List Slot → Str → Prop := fun ss c => ∃ x1 x2, ss = [.val r1 x1, .val r2 x2] ∧ f c x1 x2 = .ok ()
def MakeX (P : Program) (w : World) (K : PySem.W.Frag) (mg : Str → Option Value) (base : Heap) (n : Str) (C : Addr) (k : Nat) (sp : Sp) : Prop :=
  ∃ f fd ps, FnOk P w K mg base (L2N.CX P w) k f fd ps sp ∧ mg n = some (.ref C) ∧ Mk K C f ∧ Binds K fd ps []
theorem er_make {Pr : List Slot → Str → Prop} {ss : List Slot} {C : Addr} (ac : AcX X (He.ga X.K c0) G0 H0) (M : MakeX X.prog X.w X.K X.mg X.base n C k (spIX X.K C Pr)) (hr : Room (k + 1) X.A) (ha : EvA X (e :: es) Z ss) (hP : Pr ss c0) (h0 : Z.b.G0 = G0) (h1 : Z.b.H0 = H0)
    (hg : Gl X n) (hdb : (n == ("__debug__" : Str)) = false) (he : starEach (e :: es) X.env = (false, eval e X.env) :: starEach es X.env) (hpl : (backTo pos (starEach es X.env)).any (·.1) = false) :
    EvR X (.Call (.Name n p) (e :: es) [] pos) Z := fun G H σ Q E => by
  obtain ⟨f, fd, ps, F, hm, hk, hb⟩ := M
  refine toE (pe_make (E := xkOf (He.ga X.K c0) G0 H0) hk F hr hg hm hb .nil ac.passes ca hdb he hpl) (ha G H σ _ E fun G1 H1 vs e1 g1 => fun l dx nl nd ne => ?_)
  have gl : G1 l = none := e1.s.free nl
  have gd : G1 dx = none := e1.s.free nd
  have s1 : Same G1 (upd G1 dx (.own l)) := same_upd gd
  refine ⟨l, dx, vs, ss, c0, upd G1 dx (.own l), by rw [List.append_nil], hP, fun b u hb => ?_, upd_same, by rw [upd_ne (Ne.symm ne)]; exact gl, upd_same, g1.mono s1, fun G2 H2 e2 => ⟨rfl, rfl, G2, ?_⟩⟩
  · by_cases hbd : b = dx
    · subst hbd
      rw [upd_same] at hb
      rw [upd_ne ne, upd_same]
      exact .inl hb
    · rw [upd_ne hbd] at hb
      have hbl : b ≠ l := fun z => by rw [z, gl] at hb; cases hb
      rw [upd_ne hbl, upd_ne hbd]
      exact e1.s _ _ hb
  · rw [← h0, ← h1]
    refine (E.ex.trans e1).trans ⟨s1.trans e2.g, e2.s, fun b u hb => ?_, fun b hb hgb => ?_⟩
    · have hbl : b ≠ l := ne_of_none hb nl
      have hbd : b ≠ dx := ne_of_none hb nd
      refine e2.h _ _ ?_
      rw [hid_ne hbl, upd_ne hbl, upd_ne hbd]
      exact hb
    · have hbl : b ≠ l := fun z => hb (z ▸ nl)
      have hbd : b ≠ dx := fun z => hb (z ▸ nd)
      refine e2.n b ?_ ?_
      · rw [hid_ne hbl, upd_ne hbl, upd_ne hbd]
        exact hb
      · rw [upd_ne hbd]
        exact hgb
end
section
variable {P : Program} {w : World} {K : PySem.W.Frag} {mg : Str → Option Value} {base : Heap}
theorem fn_ix {x qual : Str} {st : Stmt} {f C : Addr} {fd : FuncData} {N ps : List Str} {k : Nat} {Pr : List Slot → Str → Prop} (F : FunD K x qual (defArgs st) (defBody st) (defScope st) [] [] f fd) (S : FnScope N ps (defScope st)) (len : ∀ ss c, Pr ss c → ss.length + 1 = ps.length)
    (body : ∀ (cdv : Value) (A : Around) (outer : List PySem.Env) (s : Shared) (H : Hp) (E : XK) (G : Hp) (o dx : Addr) (ss : List Slot) (c : Str), Room k (A.deeper (envOfC qual (defScope st) s.heap.objs.size f cdv)) → Pr ss c → AcX (cxOf (L2N.CX P w) P w K mg base N qual (defScope st) f cdv A outer s H E) (He.ga K c) G (hid H o) →
      PassesOwn (model P w) (cxOf (L2N.CX P w) P w K mg base N qual (defScope st) f cdv A outer s H E).A (cxOf (L2N.CX P w) P w K mg base N qual (defScope st) f cdv A outer s H E).env (cxOf (L2N.CX P w) P w K mg base N qual (defScope st) f cdv A outer s H E).xe →
      Goes (cxOf (L2N.CX P w) P w K mg base N qual (defScope st) f cdv A outer s H E) (defBody st) ⟨⟨G, hid H o, []⟩, (.val rRef o :: ss) ++ List.replicate (N.length - (ss.length + 1)) .any, [.ins o dx C []]⟩ noEnds) : FnOk P w K mg base (L2N.CX P w) (k + 1) f fd ps (spIX K C Pr) := by
  refine F.ok S (fun vs H Q E h => ?_) (fun cdv A outer s H vs Q E hr h => ?_)
  · obtain ⟨o, dx, us, ss, c, G, rfl, h1, h2, h3, h4, h5, h6, h7⟩ := h
    rw [List.length_cons, slv_len h6, len ss c h1]
  · obtain ⟨o, dx, us, ss, c, G, rfl, h1, h2, h3, h4, h5, h6, h7⟩ := h
    refine ⟨wSs _ _, css, ?_⟩
    constructor
    intro pins s' I
    have sl : Slv G (.ref o :: us) (.val rRef o :: ss) := .cons rfl h6
    have st0 := env_start (N := N) h2 sl
    have E0 : Env ⟨⟨G, hid H o, []⟩, (.val rRef o :: ss) ++ List.replicate (N.length - (ss.length + 1)) .any, [.ins o dx C []]⟩ G H (L2.start N (.ref o :: us)) := by
      refine ⟨⟨Same.refl _, h2, hid_sub H o, fun b _ z => z⟩, (fun B hB => by cases hB), st0.sl, fun c hc => ?_, by simp⟩
      rw [List.mem_singleton.mp hc]
      exact ⟨hid_same, h4, _, h3, h5, [], rfl, .nil⟩
    have ac : AcX (cxOf (L2N.CX P w) P w K mg base N qual (defScope st) f cdv A outer s H E) (He.ga K c) G (hid H o) := ⟨fun cls d _ H => E cls d H, L2N.takes_of rfl rfl rfl rfl, fun G' H' σ e _ => h7 G' H' e⟩
    refine thn ((body cdv A outer s H E G o dx ss c hr h1 ac (passes_of rfl) G H (L2.start N (.ref o :: us)) E0).run pins s' I) fun fl s1 hq => ?_
    cases fl with
    | next => obtain ⟨_, _, _, z⟩ := hq; exact z.elim
    | brk => exact hq
    | cont => exact hq
    | ret u => obtain ⟨_, _, _, _, _, z⟩ := hq; exact z.elim
end
end PL

namespace PL
open PySem PySem.Spec PyProof.Rows L2
abbrev hCtx (b : Bs) (N : List Str) (i : Nat) (a : Addr) : PL.Ctx := ⟨b, (List.replicate N.length Slot.any).set i (.val rRef a), []⟩
section
variable {X : Cx} {Z : PL.Ctx} {S O : Type} {n x : Str} {c : Value} {i : Nat} {body suite rest : List Stmt} {b₀ : Stmt} {np pos pos' : Pos} {D : O → Ends}
theorem env_h {b : Bs} {N : List Str} {G H : Hp} {σ : L2.St} {a : Addr} (e : Ext b.G0 b.H0 G H) (ab : ∀ B ∈ b.ab, Same B G) (hl : σ.length = N.length) : Env (hCtx b N i a) G H (σ.set i (some (.ref a))) := by
  refine ⟨e, ab, fun j s hj => ?_, (fun c hc => by cases hc), List.nodup_nil⟩
  have hj' : ((List.replicate N.length Slot.any).set i (.val rRef a))[j]? = some s := hj
  have hjl : j < N.length := by
    have := (List.getElem?_eq_some_iff.mp hj').1
    simpa using this
  by_cases hij : i = j
  · subst hij
    rw [List.getElem?_set_self (by simpa using hjl)] at hj'
    cases hj'
    exact ⟨some (.ref a), by rw [List.getElem?_set_self (by rw [hl]; exact hjl)], .ref a, rfl, rfl⟩
  · rw [List.getElem?_set_ne hij, List.getElem?_replicate, if_pos hjl] at hj'
    cases hj'
    have hs : j < σ.length := by rw [hl]; exact hjl
    exact ⟨σ[j], by rw [List.getElem?_set_ne hij]; exact List.getElem?_eq_getElem hs, trivial⟩
abbrev InTry (X : Cx) (Q : Cx → Prop) : Prop := ∀ (pn : List (Addr × Obj)) (xe : Value → Shared → Prop), PassesOwn (model X.prog X.w) X.A X.env xe → Q (X.tr pn xe)
end
section
variable {X : Cx} {Z : PL.Ctx} {a D : Addr} {oe : Obj} {pn : List (Addr × Obj)} {n m : Str} {pos p pe pu : Pos}
end
end PL
namespace PL
open PySem PySem.Spec PyProof.Rows L2
end PL

namespace PL
open PySem PySem.Spec PyProof.Rows L2
section
variable {X : Cx} {Z : PL.Ctx} {α β γ δ O : Type} {r : Rel α} {s : Rel β} {x : α} {pos p p2 py : Pos} {a b e c : Expr} {es : List Expr} {D : O → Ends} {rest : List Stmt} {n : Str} {k : Nat} {G0 H0 : Hp} {c0 : Str} {m : Rs Unit}
theorem gm_rzO (o : O) {xn ms : Str} {j : Nat} {pos2 : Pos} (ac : AcX X (He.ga X.K c0) G0 H0) (f : ExcF X.K X.mg xn) (hc : X.calm = true := by rfl) (hg : Gl X xn := by rfl) (hdb : (xn == ("__debug__" : Str)) = false := by decide) (h0 : Z.b.G0 = G0 := by rfl) (h1 : Z.b.H0 = H0 := by rfl) :
    GM X (.Raise (some (.Call (.Name xn p) [.Constant (.str ms) j p2] [] pos)) none pos2 :: rest) Z D ((rz c0 xn).bd fun _ => .ok o) := fun o' h => by
  obtain ⟨u, h1, h2⟩ := Rs.bd_inv h
  unfold rz at h1
  split at h1
  · rename_i e
    subst e
    refine goes_of (L2N.ps_raise hc ac.takes (L2N.pmk_own (B := "ValueError") (initId := "ValueError.__init__") PySem.F.excBase_ValueError f.q f.g f.k (raises_own f.r1 f.r2) hg hdb)) fun G H σ E => ⟨rfl, rfl, G, ?_⟩
    rw [← h0, ← ‹Z.b.H0 = H0›]
    exact E.ex
  · cases h1
theorem gm_exprX (o : O) (h : EvRM X e Z m) (hs : swapsWith e none pos.line X.env = pure false := by rfl) : GM X (.Expr e pos :: rest) Z D (m.bd fun _ => .ok o) := fun o' ho => by
  obtain ⟨u, h1, h2⟩ := Rs.bd_inv ho
  exact goes_of (ps_expr ce hs) fun G H σ E => h u h1 G H σ _ E
theorem erm_make {Pr : List Slot → Str → Prop} {ss : List Slot} {C : Addr} (ac : AcX X (He.ga X.K c0) G0 H0) (M : MakeX X.prog X.w X.K X.mg X.base n C k (spIX X.K C Pr)) (hr : Room (k + 1) X.A) (ha : EvA X (e :: es) Z ss) (hP : m = .ok () → Pr ss c0) (h0 : Z.b.G0 = G0 := by rfl) (h1 : Z.b.H0 = H0 := by rfl)
    (hg : Gl X n := by rfl) (hdb : (n == ("__debug__" : Str)) = false := by decide) (he : starEach (e :: es) X.env = (false, eval e X.env) :: starEach es X.env := by rfl) (hpl : (backTo pos (starEach es X.env)).any (·.1) = false := by rfl) : EvRM X (.Call (.Name n p) (e :: es) [] pos) Z m :=
  fun u hu => er_make ac M hr ha (hP hu) h0 h1 hg hdb he hpl
end
end PL

namespace Tp
open PySem PySem.Spec PyProof.Rows L2 PL
structure Tx (K : PySem.W.Frag) (mg : Str → Option Value) : Prop where
  c : He.SaysD fa fn K
  x : ck K = true
  xg : ∃ h : Heap, K.In h ∧ h.Ns mainGlobals mg
section
variable {P : Program} {w : World} {K : PySem.W.Frag} {mg : Str → Option Value} {base : Heap}
theorem Tx.g_rule_is_of (T : Tx K mg) : mg "rule_is_of" = some (.ref (He.ga K "rule_is_of")) := let ⟨_, X, G⟩ := T.xg; He.glo_ok X G (T.c.fact 1 (f := .glo "rule_is_of") (by kernel_rfl))
theorem Tx.g_rule_fits (T : Tx K mg) : mg "rule_fits" = some (.ref (He.ga K "rule_fits")) := let ⟨_, X, G⟩ := T.xg; He.glo_ok X G (T.c.fact 2 (f := .glo "rule_fits") (by kernel_rfl))
theorem Tx.g_law_signs (T : Tx K mg) : mg "_law_signs" = some (.ref (He.ga K "_law_signs")) := let ⟨_, X, G⟩ := T.xg; He.glo_ok X G (T.c.fact 3 (f := .glo "_law_signs") (by kernel_rfl))
theorem Tx.g_law_text_by_digits (T : Tx K mg) : mg "_law_text_by_digits" = some (.ref (He.ga K "_law_text_by_digits")) := let ⟨_, X, G⟩ := T.xg; He.glo_ok X G (T.c.fact 4 (f := .glo "_law_text_by_digits") (by kernel_rfl))
theorem Tx.g_law_sorts (T : Tx K mg) : mg "_law_sorts" = some (.ref (He.ga K "_law_sorts")) := let ⟨_, X, G⟩ := T.xg; He.glo_ok X G (T.c.fact 5 (f := .glo "_law_sorts") (by kernel_rfl))
theorem Tx.g_law_made (T : Tx K mg) : mg "_law_made" = some (.ref (He.ga K "_law_made")) := let ⟨_, X, G⟩ := T.xg; He.glo_ok X G (T.c.fact 6 (f := .glo "_law_made") (by kernel_rfl))
theorem Tx.g_law (T : Tx K mg) : mg "law" = some (.ref (He.ga K "law")) := let ⟨_, X, G⟩ := T.xg; He.glo_ok X G (T.c.fact 7 (f := .glo "law") (by kernel_rfl))
theorem Tx.g_SearchError (T : Tx K mg) : mg "SearchError" = some (.ref (He.ga K "SearchError")) := let ⟨_, X, G⟩ := T.xg; He.glo_ok X G (T.c.fact 8 (f := .glo "SearchError") (by kernel_rfl))
theorem Tx.g_NoRule (T : Tx K mg) : mg "NoRule" = some (.ref (He.ga K "NoRule")) := let ⟨_, X, G⟩ := T.xg; He.glo_ok X G (T.c.fact 10 (f := .glo "NoRule") (by kernel_rfl))
theorem Tx.g_NoName (T : Tx K mg) : mg "NoName" = some (.ref (He.ga K "NoName")) := let ⟨_, X, G⟩ := T.xg; He.glo_ok X G (T.c.fact 11 (f := .glo "NoName") (by kernel_rfl))
theorem Tx.g_NoText (T : Tx K mg) : mg "NoText" = some (.ref (He.ga K "NoText")) := let ⟨_, X, G⟩ := T.xg; He.glo_ok X G (T.c.fact 12 (f := .glo "NoText") (by kernel_rfl))
theorem Tx.g_Lacking (T : Tx K mg) : mg "Lacking" = some (.ref (He.ga K "Lacking")) := let ⟨_, X, G⟩ := T.xg; He.glo_ok X G (T.c.fact 13 (f := .glo "Lacking") (by kernel_rfl))
theorem Tx.g_NoMake (T : Tx K mg) : mg "NoMake" = some (.ref (He.ga K "NoMake")) := let ⟨_, X, G⟩ := T.xg; He.glo_ok X G (T.c.fact 14 (f := .glo "NoMake") (by kernel_rfl))
theorem Tx.g_NoAsking (T : Tx K mg) : mg "NoAsking" = some (.ref (He.ga K "NoAsking")) := let ⟨_, X, G⟩ := T.xg; He.glo_ok X G (T.c.fact 15 (f := .glo "NoAsking") (by kernel_rfl))
theorem Tx.g_NoPath (T : Tx K mg) : mg "NoPath" = some (.ref (He.ga K "NoPath")) := let ⟨_, X, G⟩ := T.xg; He.glo_ok X G (T.c.fact 16 (f := .glo "NoPath") (by kernel_rfl))
theorem Tx.g_NoWeighing (T : Tx K mg) : mg "NoWeighing" = some (.ref (He.ga K "NoWeighing")) := let ⟨_, X, G⟩ := T.xg; He.glo_ok X G (T.c.fact 17 (f := .glo "NoWeighing") (by kernel_rfl))
theorem Tx.g_NoMany (T : Tx K mg) : mg "NoMany" = some (.ref (He.ga K "NoMany")) := let ⟨_, X, G⟩ := T.xg; He.glo_ok X G (T.c.fact 18 (f := .glo "NoMany") (by kernel_rfl))
theorem Tx.g_Over (T : Tx K mg) : mg "Over" = some (.ref (He.ga K "Over")) := let ⟨_, X, G⟩ := T.xg; He.glo_ok X G (T.c.fact 19 (f := .glo "Over") (by kernel_rfl))
theorem Tx.g_NoRow (T : Tx K mg) : mg "NoRow" = some (.ref (He.ga K "NoRow")) := let ⟨_, X, G⟩ := T.xg; He.glo_ok X G (T.c.fact 20 (f := .glo "NoRow") (by kernel_rfl))
theorem Tx.g_Rulebook (T : Tx K mg) : mg "Rulebook" = some (.ref (He.ga K "Rulebook")) := let ⟨_, X, G⟩ := T.xg; He.glo_ok X G (T.c.fact 21 (f := .glo "Rulebook") (by kernel_rfl))
theorem Tx.c_Rulebook (T : Tx K mg) : Cls K (He.ga K "Rulebook") := He.cls_ok (T.c.fact 22 (f := .cls "Rulebook") (by kernel_rfl))
theorem Tx.n_Rulebook_hushed (T : Tx K mg) : NoAttr K (He.ga K "Rulebook") "hushed" := He.noat_ok (T.c.fact 24 (f := .noat "Rulebook" "hushed") (by kernel_rfl))
theorem Tx.n_Rulebook_tails (T : Tx K mg) : NoAttr K (He.ga K "Rulebook") "tails" := He.noat_ok (T.c.fact 25 (f := .noat "Rulebook" "tails") (by kernel_rfl))
theorem Tx.i_Rulebook (T : Tx K mg) : Mk K (He.ga K "Rulebook") (He.ma K (He.ga K "Rulebook") "__init__") := He.mkr_ok (T.c.fact 26 (f := .mkr "Rulebook") (by kernel_rfl))
theorem Tx.v_RULE_LETTERS (T : Tx K mg) : ∃ t, mg "RULE_LETTERS" = some (.str "abcdefghijklmnopqrstuvwxyz" t) := let ⟨_, X, G⟩ := T.xg; He.str_ok X G (T.c.fact 29 (f := .str "RULE_LETTERS" "abcdefghijklmnopqrstuvwxyz") (by kernel_rfl))
theorem Tx.v_RULE_SIGNS (T : Tx K mg) : ∃ t, mg "RULE_SIGNS" = some (.str "abcdefghijklmnopqrstuvwxyz0123456789" t) := let ⟨_, X, G⟩ := T.xg; He.str_ok X G (T.c.fact 30 (f := .str "RULE_SIGNS" "abcdefghijklmnopqrstuvwxyz0123456789") (by kernel_rfl))
theorem Tx.v_LONGEST_ENDING (T : Tx K mg) : ∃ t, mg "LONGEST_ENDING" = some (.int 8 t) := let ⟨_, X, G⟩ := T.xg; He.int_ok X G (T.c.fact 31 (f := .int "LONGEST_ENDING" 8) (by kernel_rfl))
theorem Tx.v_LONGEST_PLAIN (T : Tx K mg) : ∃ t, mg "LONGEST_PLAIN" = some (.int 20 t) := let ⟨_, X, G⟩ := T.xg; He.int_ok X G (T.c.fact 32 (f := .int "LONGEST_PLAIN" 20) (by kernel_rfl))
theorem Tx.v_MOST_LEFT (T : Tx K mg) : ∃ t, mg "MOST_LEFT" = some (.int 20 t) := let ⟨_, X, G⟩ := T.xg; He.int_ok X G (T.c.fact 33 (f := .int "MOST_LEFT" 20) (by kernel_rfl))
theorem Tx.b_ValueError (T : Tx K mg) : mg "ValueError" = none := let ⟨_, X, G⟩ := T.xg; He.free_ok X G (T.c.fact 34 (f := .free "ValueError") (by kernel_rfl))
theorem Tx.b_all (T : Tx K mg) : mg "all" = none := let ⟨_, X, G⟩ := T.xg; He.free_ok X G (T.c.fact 35 (f := .free "all") (by kernel_rfl))
theorem Tx.b_any (T : Tx K mg) : mg "any" = none := let ⟨_, X, G⟩ := T.xg; He.free_ok X G (T.c.fact 36 (f := .free "any") (by kernel_rfl))
theorem Tx.b_enumerate (T : Tx K mg) : mg "enumerate" = none := let ⟨_, X, G⟩ := T.xg; He.free_ok X G (T.c.fact 37 (f := .free "enumerate") (by kernel_rfl))
theorem Tx.b_isinstance (T : Tx K mg) : mg "isinstance" = none := let ⟨_, X, G⟩ := T.xg; He.free_ok X G (T.c.fact 38 (f := .free "isinstance") (by kernel_rfl))
theorem Tx.b_len (T : Tx K mg) : mg "len" = none := let ⟨_, X, G⟩ := T.xg; He.free_ok X G (T.c.fact 39 (f := .free "len") (by kernel_rfl))
theorem Tx.b_range (T : Tx K mg) : mg "range" = none := let ⟨_, X, G⟩ := T.xg; He.free_ok X G (T.c.fact 40 (f := .free "range") (by kernel_rfl))
theorem Tx.ef_Lacking (T : Tx K mg) : PL.ExcF K mg "Lacking" := PL.excF_ok (He.ba T.x).1 T.g_Lacking
theorem Tx.ec_Lacking (T : Tx K mg) : L2.ExcC K (He.ga K "Lacking") := PL.excC_ok (He.ba (He.ba T.x).2).1
theorem Tx.kx_Lacking_Lacking (T : Tx K mg) : PySem.W.kitOne K (.ref (He.ga K "Lacking")) (.ref (He.ga K "Lacking")) = some true := PL.kitX_ok (He.ba (He.ba (He.ba (He.ba T.x).2).2).2).1
theorem Tx.kx_Lacking_NoAsking (T : Tx K mg) : PySem.W.kitOne K (.ref (He.ga K "Lacking")) (.ref (He.ga K "NoAsking")) = some false := PL.kitX_ok (He.ba (He.ba (He.ba (He.ba (He.ba T.x).2).2).2).2).1
theorem Tx.kx_Lacking_NoMake (T : Tx K mg) : PySem.W.kitOne K (.ref (He.ga K "Lacking")) (.ref (He.ga K "NoMake")) = some false := PL.kitX_ok (He.ba (He.ba (He.ba (He.ba (He.ba (He.ba T.x).2).2).2).2).2).1
theorem Tx.kx_Lacking_NoMany (T : Tx K mg) : PySem.W.kitOne K (.ref (He.ga K "Lacking")) (.ref (He.ga K "NoMany")) = some false := PL.kitX_ok (He.ba (He.ba (He.ba (He.ba (He.ba (He.ba (He.ba T.x).2).2).2).2).2).2).1
theorem Tx.kx_Lacking_NoName (T : Tx K mg) : PySem.W.kitOne K (.ref (He.ga K "Lacking")) (.ref (He.ga K "NoName")) = some false := PL.kitX_ok (He.ba (He.ba (He.ba (He.ba (He.ba (He.ba (He.ba (He.ba T.x).2).2).2).2).2).2).2).1
theorem Tx.kx_Lacking_NoPath (T : Tx K mg) : PySem.W.kitOne K (.ref (He.ga K "Lacking")) (.ref (He.ga K "NoPath")) = some false := PL.kitX_ok (He.ba (He.ba (He.ba (He.ba (He.ba (He.ba (He.ba (He.ba (He.ba T.x).2).2).2).2).2).2).2).2).1
theorem Tx.kx_Lacking_NoRow (T : Tx K mg) : PySem.W.kitOne K (.ref (He.ga K "Lacking")) (.ref (He.ga K "NoRow")) = some false := PL.kitX_ok (He.ba (He.ba (He.ba (He.ba (He.ba (He.ba (He.ba (He.ba (He.ba (He.ba T.x).2).2).2).2).2).2).2).2).2).1
theorem Tx.kx_Lacking_NoRule (T : Tx K mg) : PySem.W.kitOne K (.ref (He.ga K "Lacking")) (.ref (He.ga K "NoRule")) = some false := PL.kitX_ok (He.ba (He.ba (He.ba (He.ba (He.ba (He.ba (He.ba (He.ba (He.ba (He.ba (He.ba T.x).2).2).2).2).2).2).2).2).2).2).1
theorem Tx.kx_Lacking_NoText (T : Tx K mg) : PySem.W.kitOne K (.ref (He.ga K "Lacking")) (.ref (He.ga K "NoText")) = some false := PL.kitX_ok (He.ba (He.ba (He.ba (He.ba (He.ba (He.ba (He.ba (He.ba (He.ba (He.ba (He.ba (He.ba T.x).2).2).2).2).2).2).2).2).2).2).2).1
theorem Tx.kx_Lacking_NoWeighing (T : Tx K mg) : PySem.W.kitOne K (.ref (He.ga K "Lacking")) (.ref (He.ga K "NoWeighing")) = some false := PL.kitX_ok (He.ba (He.ba (He.ba (He.ba (He.ba (He.ba (He.ba (He.ba (He.ba (He.ba (He.ba (He.ba (He.ba T.x).2).2).2).2).2).2).2).2).2).2).2).2).1
theorem Tx.kx_Lacking_Over (T : Tx K mg) : PySem.W.kitOne K (.ref (He.ga K "Lacking")) (.ref (He.ga K "Over")) = some false := PL.kitX_ok (He.ba (He.ba (He.ba (He.ba (He.ba (He.ba (He.ba (He.ba (He.ba (He.ba (He.ba (He.ba (He.ba (He.ba T.x).2).2).2).2).2).2).2).2).2).2).2).2).2).1
theorem Tx.kx_Lacking_SearchError (T : Tx K mg) : PySem.W.kitOne K (.ref (He.ga K "Lacking")) (.ref (He.ga K "SearchError")) = some true := PL.kitX_ok (He.ba (He.ba (He.ba (He.ba (He.ba (He.ba (He.ba (He.ba (He.ba (He.ba (He.ba (He.ba (He.ba (He.ba (He.ba T.x).2).2).2).2).2).2).2).2).2).2).2).2).2).2).1
theorem Tx.kx_Lacking_ValueError (T : Tx K mg) : PySem.W.kitOne K (.ref (He.ga K "Lacking")) (.type "ValueError") = some true := PL.kitX_ok (He.ba (He.ba (He.ba (He.ba (He.ba (He.ba (He.ba (He.ba (He.ba (He.ba (He.ba (He.ba (He.ba (He.ba (He.ba (He.ba T.x).2).2).2).2).2).2).2).2).2).2).2).2).2).2).2).1
theorem Tx.ef_NoAsking (T : Tx K mg) : PL.ExcF K mg "NoAsking" := PL.excF_ok (He.ba (He.ba (He.ba (He.ba (He.ba (He.ba (He.ba (He.ba (He.ba (He.ba (He.ba (He.ba (He.ba (He.ba (He.ba (He.ba (He.ba T.x).2).2).2).2).2).2).2).2).2).2).2).2).2).2).2).2).1 T.g_NoAsking
theorem Tx.ec_NoAsking (T : Tx K mg) : L2.ExcC K (He.ga K "NoAsking") := PL.excC_ok (He.ba (He.ba (He.ba (He.ba (He.ba (He.ba (He.ba (He.ba (He.ba (He.ba (He.ba (He.ba (He.ba (He.ba (He.ba (He.ba (He.ba (He.ba T.x).2).2).2).2).2).2).2).2).2).2).2).2).2).2).2).2).2).1
theorem Tx.kx_NoAsking_Lacking (T : Tx K mg) : PySem.W.kitOne K (.ref (He.ga K "NoAsking")) (.ref (He.ga K "Lacking")) = some false := PL.kitX_ok (He.ba (He.ba (He.ba (He.ba (He.ba (He.ba (He.ba (He.ba (He.ba (He.ba (He.ba (He.ba (He.ba (He.ba (He.ba (He.ba (He.ba (He.ba (He.ba (He.ba T.x).2).2).2).2).2).2).2).2).2).2).2).2).2).2).2).2).2).2).2).1
theorem Tx.kx_NoAsking_NoAsking (T : Tx K mg) : PySem.W.kitOne K (.ref (He.ga K "NoAsking")) (.ref (He.ga K "NoAsking")) = some true := PL.kitX_ok (He.ba (He.ba (He.ba (He.ba (He.ba (He.ba (He.ba (He.ba (He.ba (He.ba (He.ba (He.ba (He.ba (He.ba (He.ba (He.ba (He.ba (He.ba (He.ba (He.ba (He.ba T.x).2).2).2).2).2).2).2).2).2).2).2).2).2).2).2).2).2).2).2).2).1
theorem Tx.kx_NoAsking_NoMake (T : Tx K mg) : PySem.W.kitOne K (.ref (He.ga K "NoAsking")) (.ref (He.ga K "NoMake")) = some false := PL.kitX_ok (He.ba (He.ba (He.ba (He.ba (He.ba (He.ba (He.ba (He.ba (He.ba (He.ba (He.ba (He.ba (He.ba (He.ba (He.ba (He.ba (He.ba (He.ba (He.ba (He.ba (He.ba (He.ba T.x).2).2).2).2).2).2).2).2).2).2).2).2).2).2).2).2).2).2).2).2).2).1
theorem Tx.kx_NoAsking_NoMany (T : Tx K mg) : PySem.W.kitOne K (.ref (He.ga K "NoAsking")) (.ref (He.ga K "NoMany")) = some false := PL.kitX_ok (He.ba (He.ba (He.ba (He.ba (He.ba (He.ba (He.ba (He.ba (He.ba (He.ba (He.ba (He.ba (He.ba (He.ba (He.ba (He.ba (He.ba (He.ba (He.ba (He.ba (He.ba (He.ba (He.ba T.x).2).2).2).2).2).2).2).2).2).2).2).2).2).2).2).2).2).2).2).2).2).2).1
theorem Tx.kx_NoAsking_NoName (T : Tx K mg) : PySem.W.kitOne K (.ref (He.ga K "NoAsking")) (.ref (He.ga K "NoName")) = some false := PL.kitX_ok (He.ba (He.ba (He.ba (He.ba (He.ba (He.ba (He.ba (He.ba (He.ba (He.ba (He.ba (He.ba (He.ba (He.ba (He.ba (He.ba (He.ba (He.ba (He.ba (He.ba (He.ba (He.ba (He.ba (He.ba T.x).2).2).2).2).2).2).2).2).2).2).2).2).2).2).2).2).2).2).2).2).2).2).2).1
theorem Tx.kx_NoAsking_NoPath (T : Tx K mg) : PySem.W.kitOne K (.ref (He.ga K "NoAsking")) (.ref (He.ga K "NoPath")) = some false := PL.kitX_ok (He.ba (He.ba (He.ba (He.ba (He.ba (He.ba (He.ba (He.ba (He.ba (He.ba (He.ba (He.ba (He.ba (He.ba (He.ba (He.ba (He.ba (He.ba (He.ba (He.ba (He.ba (He.ba (He.ba (He.ba (He.ba T.x).2).2).2).2).2).2).2).2).2).2).2).2).2).2).2).2).2).2).2).2).2).2).2).2).1
theorem Tx.kx_NoAsking_NoRow (T : Tx K mg) : PySem.W.kitOne K (.ref (He.ga K "NoAsking")) (.ref (He.ga K "NoRow")) = some false := PL.kitX_ok (He.ba (He.ba (He.ba (He.ba (He.ba (He.ba (He.ba (He.ba (He.ba (He.ba (He.ba (He.ba (He.ba (He.ba (He.ba (He.ba (He.ba (He.ba (He.ba (He.ba (He.ba (He.ba (He.ba (He.ba (He.ba (He.ba T.x).2).2).2).2).2).2).2).2).2).2).2).2).2).2).2).2).2).2).2).2).2).2).2).2).2).1
theorem Tx.kx_NoAsking_NoRule (T : Tx K mg) : PySem.W.kitOne K (.ref (He.ga K "NoAsking")) (.ref (He.ga K "NoRule")) = some false := PL.kitX_ok (He.ba (He.ba (He.ba (He.ba (He.ba (He.ba (He.ba (He.ba (He.ba (He.ba (He.ba (He.ba (He.ba (He.ba (He.ba (He.ba (He.ba (He.ba (He.ba (He.ba (He.ba (He.ba (He.ba (He.ba (He.ba (He.ba (He.ba T.x).2).2).2).2).2).2).2).2).2).2).2).2).2).2).2).2).2).2).2).2).2).2).2).2).2).2).1
theorem Tx.kx_NoAsking_NoText (T : Tx K mg) : PySem.W.kitOne K (.ref (He.ga K "NoAsking")) (.ref (He.ga K "NoText")) = some false := PL.kitX_ok (He.ba (He.ba (He.ba (He.ba (He.ba (He.ba (He.ba (He.ba (He.ba (He.ba (He.ba (He.ba (He.ba (He.ba (He.ba (He.ba (He.ba (He.ba (He.ba (He.ba (He.ba (He.ba (He.ba (He.ba (He.ba (He.ba (He.ba (He.ba T.x).2).2).2).2).2).2).2).2).2).2).2).2).2).2).2).2).2).2).2).2).2).2).2).2).2).2).2).1
theorem Tx.kx_NoAsking_NoWeighing (T : Tx K mg) : PySem.W.kitOne K (.ref (He.ga K "NoAsking")) (.ref (He.ga K "NoWeighing")) = some false := PL.kitX_ok (He.ba (He.ba (He.ba (He.ba (He.ba (He.ba (He.ba (He.ba (He.ba (He.ba (He.ba (He.ba (He.ba (He.ba (He.ba (He.ba (He.ba (He.ba (He.ba (He.ba (He.ba (He.ba (He.ba (He.ba (He.ba (He.ba (He.ba (He.ba (He.ba T.x).2).2).2).2).2).2).2).2).2).2).2).2).2).2).2).2).2).2).2).2).2).2).2).2).2).2).2).2).1
theorem Tx.kx_NoAsking_Over (T : Tx K mg) : PySem.W.kitOne K (.ref (He.ga K "NoAsking")) (.ref (He.ga K "Over")) = some false := PL.kitX_ok (He.ba (He.ba (He.ba (He.ba (He.ba (He.ba (He.ba (He.ba (He.ba (He.ba (He.ba (He.ba (He.ba (He.ba (He.ba (He.ba (He.ba (He.ba (He.ba (He.ba (He.ba (He.ba (He.ba (He.ba (He.ba (He.ba (He.ba (He.ba (He.ba (He.ba T.x).2).2).2).2).2).2).2).2).2).2).2).2).2).2).2).2).2).2).2).2).2).2).2).2).2).2).2).2).2).1
theorem Tx.kx_NoAsking_SearchError (T : Tx K mg) : PySem.W.kitOne K (.ref (He.ga K "NoAsking")) (.ref (He.ga K "SearchError")) = some true := PL.kitX_ok (He.ba (He.ba (He.ba (He.ba (He.ba (He.ba (He.ba (He.ba (He.ba (He.ba (He.ba (He.ba (He.ba (He.ba (He.ba (He.ba (He.ba (He.ba (He.ba (He.ba (He.ba (He.ba (He.ba (He.ba (He.ba (He.ba (He.ba (He.ba (He.ba (He.ba (He.ba T.x).2).2).2).2).2).2).2).2).2).2).2).2).2).2).2).2).2).2).2).2).2).2).2).2).2).2).2).2).2).2).1
theorem Tx.kx_NoAsking_ValueError (T : Tx K mg) : PySem.W.kitOne K (.ref (He.ga K "NoAsking")) (.type "ValueError") = some true := PL.kitX_ok (He.ba (He.ba (He.ba (He.ba (He.ba (He.ba (He.ba (He.ba (He.ba (He.ba (He.ba (He.ba (He.ba (He.ba (He.ba (He.ba (He.ba (He.ba (He.ba (He.ba (He.ba (He.ba (He.ba (He.ba (He.ba (He.ba (He.ba (He.ba (He.ba (He.ba (He.ba (He.ba T.x).2).2).2).2).2).2).2).2).2).2).2).2).2).2).2).2).2).2).2).2).2).2).2).2).2).2).2).2).2).2).2).1
theorem Tx.ef_NoMake (T : Tx K mg) : PL.ExcF K mg "NoMake" := PL.excF_ok (He.ba (He.ba (He.ba (He.ba (He.ba (He.ba (He.ba (He.ba (He.ba (He.ba (He.ba (He.ba (He.ba (He.ba (He.ba (He.ba (He.ba (He.ba (He.ba (He.ba (He.ba (He.ba (He.ba (He.ba (He.ba (He.ba (He.ba (He.ba (He.ba (He.ba (He.ba (He.ba (He.ba T.x).2).2).2).2).2).2).2).2).2).2).2).2).2).2).2).2).2).2).2).2).2).2).2).2).2).2).2).2).2).2).2).2).1 T.g_NoMake
theorem Tx.ec_NoMake (T : Tx K mg) : L2.ExcC K (He.ga K "NoMake") := PL.excC_ok (He.ba (He.ba (He.ba (He.ba (He.ba (He.ba (He.ba (He.ba (He.ba (He.ba (He.ba (He.ba (He.ba (He.ba (He.ba (He.ba (He.ba (He.ba (He.ba (He.ba (He.ba (He.ba (He.ba (He.ba (He.ba (He.ba (He.ba (He.ba (He.ba (He.ba (He.ba (He.ba (He.ba (He.ba T.x).2).2).2).2).2).2).2).2).2).2).2).2).2).2).2).2).2).2).2).2).2).2).2).2).2).2).2).2).2).2).2).2).2).1
theorem Tx.kx_NoMake_Lacking (T : Tx K mg) : PySem.W.kitOne K (.ref (He.ga K "NoMake")) (.ref (He.ga K "Lacking")) = some false := PL.kitX_ok (He.ba (He.ba (He.ba (He.ba (He.ba (He.ba (He.ba (He.ba (He.ba (He.ba (He.ba (He.ba (He.ba (He.ba (He.ba (He.ba (He.ba (He.ba (He.ba (He.ba (He.ba (He.ba (He.ba (He.ba (He.ba (He.ba (He.ba (He.ba (He.ba (He.ba (He.ba (He.ba (He.ba (He.ba (He.ba (He.ba T.x).2).2).2).2).2).2).2).2).2).2).2).2).2).2).2).2).2).2).2).2).2).2).2).2).2).2).2).2).2).2).2).2).2).2).2).1
theorem Tx.kx_NoMake_NoAsking (T : Tx K mg) : PySem.W.kitOne K (.ref (He.ga K "NoMake")) (.ref (He.ga K "NoAsking")) = some false := PL.kitX_ok (He.ba (He.ba (He.ba (He.ba (He.ba (He.ba (He.ba (He.ba (He.ba (He.ba (He.ba (He.ba (He.ba (He.ba (He.ba (He.ba (He.ba (He.ba (He.ba (He.ba (He.ba (He.ba (He.ba (He.ba (He.ba (He.ba (He.ba (He.ba (He.ba (He.ba (He.ba (He.ba (He.ba (He.ba (He.ba (He.ba (He.ba T.x).2).2).2).2).2).2).2).2).2).2).2).2).2).2).2).2).2).2).2).2).2).2).2).2).2).2).2).2).2).2).2).2).2).2).2).2).1
theorem Tx.kx_NoMake_NoMake (T : Tx K mg) : PySem.W.kitOne K (.ref (He.ga K "NoMake")) (.ref (He.ga K "NoMake")) = some true := PL.kitX_ok (He.ba (He.ba (He.ba (He.ba (He.ba (He.ba (He.ba (He.ba (He.ba (He.ba (He.ba (He.ba (He.ba (He.ba (He.ba (He.ba (He.ba (He.ba (He.ba (He.ba (He.ba (He.ba (He.ba (He.ba (He.ba (He.ba (He.ba (He.ba (He.ba (He.ba (He.ba (He.ba (He.ba (He.ba (He.ba (He.ba (He.ba (He.ba T.x).2).2).2).2).2).2).2).2).2).2).2).2).2).2).2).2).2).2).2).2).2).2).2).2).2).2).2).2).2).2).2).2).2).2).2).2).2).1
theorem Tx.kx_NoMake_NoMany (T : Tx K mg) : PySem.W.kitOne K (.ref (He.ga K "NoMake")) (.ref (He.ga K "NoMany")) = some false := PL.kitX_ok (He.ba (He.ba (He.ba (He.ba (He.ba (He.ba (He.ba (He.ba (He.ba (He.ba (He.ba (He.ba (He.ba (He.ba (He.ba (He.ba (He.ba (He.ba (He.ba (He.ba (He.ba (He.ba (He.ba (He.ba (He.ba (He.ba (He.ba (He.ba (He.ba (He.ba (He.ba (He.ba (He.ba (He.ba (He.ba (He.ba (He.ba (He.ba (He.ba T.x).2).2).2).2).2).2).2).2).2).2).2).2).2).2).2).2).2).2).2).2).2).2).2).2).2).2).2).2).2).2).2).2).2).2).2).2).2).2).1
theorem Tx.kx_NoMake_NoName (T : Tx K mg) : PySem.W.kitOne K (.ref (He.ga K "NoMake")) (.ref (He.ga K "NoName")) = some false := PL.kitX_ok (He.ba (He.ba (He.ba (He.ba (He.ba (He.ba (He.ba (He.ba (He.ba (He.ba (He.ba (He.ba (He.ba (He.ba (He.ba (He.ba (He.ba (He.ba (He.ba (He.ba (He.ba (He.ba (He.ba (He.ba (He.ba (He.ba (He.ba (He.ba (He.ba (He.ba (He.ba (He.ba (He.ba (He.ba (He.ba (He.ba (He.ba (He.ba (He.ba (He.ba T.x).2).2).2).2).2).2).2).2).2).2).2).2).2).2).2).2).2).2).2).2).2).2).2).2).2).2).2).2).2).2).2).2).2).2).2).2).2).2).2).1
theorem Tx.kx_NoMake_NoPath (T : Tx K mg) : PySem.W.kitOne K (.ref (He.ga K "NoMake")) (.ref (He.ga K "NoPath")) = some false := PL.kitX_ok (He.ba (He.ba (He.ba (He.ba (He.ba (He.ba (He.ba (He.ba (He.ba (He.ba (He.ba (He.ba (He.ba (He.ba (He.ba (He.ba (He.ba (He.ba (He.ba (He.ba (He.ba (He.ba (He.ba (He.ba (He.ba (He.ba (He.ba (He.ba (He.ba (He.ba (He.ba (He.ba (He.ba (He.ba (He.ba (He.ba (He.ba (He.ba (He.ba (He.ba (He.ba T.x).2).2).2).2).2).2).2).2).2).2).2).2).2).2).2).2).2).2).2).2).2).2).2).2).2).2).2).2).2).2).2).2).2).2).2).2).2).2).2).2).1
theorem Tx.kx_NoMake_NoRow (T : Tx K mg) : PySem.W.kitOne K (.ref (He.ga K "NoMake")) (.ref (He.ga K "NoRow")) = some false := PL.kitX_ok (He.ba (He.ba (He.ba (He.ba (He.ba (He.ba (He.ba (He.ba (He.ba (He.ba (He.ba (He.ba (He.ba (He.ba (He.ba (He.ba (He.ba (He.ba (He.ba (He.ba (He.ba (He.ba (He.ba (He.ba (He.ba (He.ba (He.ba (He.ba (He.ba (He.ba (He.ba (He.ba (He.ba (He.ba (He.ba (He.ba (He.ba (He.ba (He.ba (He.ba (He.ba (He.ba T.x).2).2).2).2).2).2).2).2).2).2).2).2).2).2).2).2).2).2).2).2).2).2).2).2).2).2).2).2).2).2).2).2).2).2).2).2).2).2).2).2).2).1
theorem Tx.kx_NoMake_NoRule (T : Tx K mg) : PySem.W.kitOne K (.ref (He.ga K "NoMake")) (.ref (He.ga K "NoRule")) = some false := PL.kitX_ok (He.ba (He.ba (He.ba (He.ba (He.ba (He.ba (He.ba (He.ba (He.ba (He.ba (He.ba (He.ba (He.ba (He.ba (He.ba (He.ba (He.ba (He.ba (He.ba (He.ba (He.ba (He.ba (He.ba (He.ba (He.ba (He.ba (He.ba (He.ba (He.ba (He.ba (He.ba (He.ba (He.ba (He.ba (He.ba (He.ba (He.ba (He.ba (He.ba (He.ba (He.ba (He.ba (He.ba T.x).2).2).2).2).2).2).2).2).2).2).2).2).2).2).2).2).2).2).2).2).2).2).2).2).2).2).2).2).2).2).2).2).2).2).2).2).2).2).2).2).2).2).1
theorem Tx.kx_NoMake_NoText (T : Tx K mg) : PySem.W.kitOne K (.ref (He.ga K "NoMake")) (.ref (He.ga K "NoText")) = some false := PL.kitX_ok (He.ba (He.ba (He.ba (He.ba (He.ba (He.ba (He.ba (He.ba (He.ba (He.ba (He.ba (He.ba (He.ba (He.ba (He.ba (He.ba (He.ba (He.ba (He.ba (He.ba (He.ba (He.ba (He.ba (He.ba (He.ba (He.ba (He.ba (He.ba (He.ba (He.ba (He.ba (He.ba (He.ba (He.ba (He.ba (He.ba (He.ba (He.ba (He.ba (He.ba (He.ba (He.ba (He.ba (He.ba T.x).2).2).2).2).2).2).2).2).2).2).2).2).2).2).2).2).2).2).2).2).2).2).2).2).2).2).2).2).2).2).2).2).2).2).2).2).2).2).2).2).2).2).2).1
theorem Tx.kx_NoMake_NoWeighing (T : Tx K mg) : PySem.W.kitOne K (.ref (He.ga K "NoMake")) (.ref (He.ga K "NoWeighing")) = some false := PL.kitX_ok (He.ba (He.ba (He.ba (He.ba (He.ba (He.ba (He.ba (He.ba (He.ba (He.ba (He.ba (He.ba (He.ba (He.ba (He.ba (He.ba (He.ba (He.ba (He.ba (He.ba (He.ba (He.ba (He.ba (He.ba (He.ba (He.ba (He.ba (He.ba (He.ba (He.ba (He.ba (He.ba (He.ba (He.ba (He.ba (He.ba (He.ba (He.ba (He.ba (He.ba (He.ba (He.ba (He.ba (He.ba (He.ba T.x).2).2).2).2).2).2).2).2).2).2).2).2).2).2).2).2).2).2).2).2).2).2).2).2).2).2).2).2).2).2).2).2).2).2).2).2).2).2).2).2).2).2).2).2).1
theorem Tx.kx_NoMake_Over (T : Tx K mg) : PySem.W.kitOne K (.ref (He.ga K "NoMake")) (.ref (He.ga K "Over")) = some false := PL.kitX_ok (He.ba (He.ba (He.ba (He.ba (He.ba (He.ba (He.ba (He.ba (He.ba (He.ba (He.ba (He.ba (He.ba (He.ba (He.ba (He.ba (He.ba (He.ba (He.ba (He.ba (He.ba (He.ba (He.ba (He.ba (He.ba (He.ba (He.ba (He.ba (He.ba (He.ba (He.ba (He.ba (He.ba (He.ba (He.ba (He.ba (He.ba (He.ba (He.ba (He.ba (He.ba (He.ba (He.ba (He.ba (He.ba (He.ba T.x).2).2).2).2).2).2).2).2).2).2).2).2).2).2).2).2).2).2).2).2).2).2).2).2).2).2).2).2).2).2).2).2).2).2).2).2).2).2).2).2).2).2).2).2).2).1
theorem Tx.kx_NoMake_SearchError (T : Tx K mg) : PySem.W.kitOne K (.ref (He.ga K "NoMake")) (.ref (He.ga K "SearchError")) = some true := PL.kitX_ok (He.ba (He.ba (He.ba (He.ba (He.ba (He.ba (He.ba (He.ba (He.ba (He.ba (He.ba (He.ba (He.ba (He.ba (He.ba (He.ba (He.ba (He.ba (He.ba (He.ba (He.ba (He.ba (He.ba (He.ba (He.ba (He.ba (He.ba (He.ba (He.ba (He.ba (He.ba (He.ba (He.ba (He.ba (He.ba (He.ba (He.ba (He.ba (He.ba (He.ba (He.ba (He.ba (He.ba (He.ba (He.ba (He.ba (He.ba T.x).2).2).2).2).2).2).2).2).2).2).2).2).2).2).2).2).2).2).2).2).2).2).2).2).2).2).2).2).2).2).2).2).2).2).2).2).2).2).2).2).2).2).2).2).2).2).1
theorem Tx.kx_NoMake_ValueError (T : Tx K mg) : PySem.W.kitOne K (.ref (He.ga K "NoMake")) (.type "ValueError") = some true := PL.kitX_ok (He.ba (He.ba (He.ba (He.ba (He.ba (He.ba (He.ba (He.ba (He.ba (He.ba (He.ba (He.ba (He.ba (He.ba (He.ba (He.ba (He.ba (He.ba (He.ba (He.ba (He.ba (He.ba (He.ba (He.ba (He.ba (He.ba (He.ba (He.ba (He.ba (He.ba (He.ba (He.ba (He.ba (He.ba (He.ba (He.ba (He.ba (He.ba (He.ba (He.ba (He.ba (He.ba (He.ba (He.ba (He.ba (He.ba (He.ba (He.ba T.x).2).2).2).2).2).2).2).2).2).2).2).2).2).2).2).2).2).2).2).2).2).2).2).2).2).2).2).2).2).2).2).2).2).2).2).2).2).2).2).2).2).2).2).2).2).2).2).1
theorem Tx.ef_NoMany (T : Tx K mg) : PL.ExcF K mg "NoMany" := PL.excF_ok (He.ba (He.ba (He.ba (He.ba (He.ba (He.ba (He.ba (He.ba (He.ba (He.ba (He.ba (He.ba (He.ba (He.ba (He.ba (He.ba (He.ba (He.ba (He.ba (He.ba (He.ba (He.ba (He.ba (He.ba (He.ba (He.ba (He.ba (He.ba (He.ba (He.ba (He.ba (He.ba (He.ba (He.ba (He.ba (He.ba (He.ba (He.ba (He.ba (He.ba (He.ba (He.ba (He.ba (He.ba (He.ba (He.ba (He.ba (He.ba (He.ba T.x).2).2).2).2).2).2).2).2).2).2).2).2).2).2).2).2).2).2).2).2).2).2).2).2).2).2).2).2).2).2).2).2).2).2).2).2).2).2).2).2).2).2).2).2).2).2).2).2).1 T.g_NoMany
theorem Tx.ec_NoMany (T : Tx K mg) : L2.ExcC K (He.ga K "NoMany") := PL.excC_ok (He.ba (He.ba (He.ba (He.ba (He.ba (He.ba (He.ba (He.ba (He.ba (He.ba (He.ba (He.ba (He.ba (He.ba (He.ba (He.ba (He.ba (He.ba (He.ba (He.ba (He.ba (He.ba (He.ba (He.ba (He.ba (He.ba (He.ba (He.ba (He.ba (He.ba (He.ba (He.ba (He.ba (He.ba (He.ba (He.ba (He.ba (He.ba (He.ba (He.ba (He.ba (He.ba (He.ba (He.ba (He.ba (He.ba (He.ba (He.ba (He.ba (He.ba T.x).2).2).2).2).2).2).2).2).2).2).2).2).2).2).2).2).2).2).2).2).2).2).2).2).2).2).2).2).2).2).2).2).2).2).2).2).2).2).2).2).2).2).2).2).2).2).2).2).2).1
theorem Tx.kx_NoMany_Lacking (T : Tx K mg) : PySem.W.kitOne K (.ref (He.ga K "NoMany")) (.ref (He.ga K "Lacking")) = some false := PL.kitX_ok (He.ba (He.ba (He.ba (He.ba (He.ba (He.ba (He.ba (He.ba (He.ba (He.ba (He.ba (He.ba (He.ba (He.ba (He.ba (He.ba (He.ba (He.ba (He.ba (He.ba (He.ba (He.ba (He.ba (He.ba (He.ba (He.ba (He.ba (He.ba (He.ba (He.ba (He.ba (He.ba (He.ba (He.ba (He.ba (He.ba (He.ba (He.ba (He.ba (He.ba (He.ba (He.ba (He.ba (He.ba (He.ba (He.ba (He.ba (He.ba (He.ba (He.ba (He.ba (He.ba T.x).2).2).2).2).2).2).2).2).2).2).2).2).2).2).2).2).2).2).2).2).2).2).2).2).2).2).2).2).2).2).2).2).2).2).2).2).2).2).2).2).2).2).2).2).2).2).2).2).2).2).2).1
theorem Tx.kx_NoMany_NoAsking (T : Tx K mg) : PySem.W.kitOne K (.ref (He.ga K "NoMany")) (.ref (He.ga K "NoAsking")) = some false := PL.kitX_ok (He.ba (He.ba (He.ba (He.ba (He.ba (He.ba (He.ba (He.ba (He.ba (He.ba (He.ba (He.ba (He.ba (He.ba (He.ba (He.ba (He.ba (He.ba (He.ba (He.ba (He.ba (He.ba (He.ba (He.ba (He.ba (He.ba (He.ba (He.ba (He.ba (He.ba (He.ba (He.ba (He.ba (He.ba (He.ba (He.ba (He.ba (He.ba (He.ba (He.ba (He.ba (He.ba (He.ba (He.ba (He.ba (He.ba (He.ba (He.ba (He.ba (He.ba (He.ba (He.ba (He.ba T.x).2).2).2).2).2).2).2).2).2).2).2).2).2).2).2).2).2).2).2).2).2).2).2).2).2).2).2).2).2).2).2).2).2).2).2).2).2).2).2).2).2).2).2).2).2).2).2).2).2).2).2).2).1
theorem Tx.kx_NoMany_NoMake (T : Tx K mg) : PySem.W.kitOne K (.ref (He.ga K "NoMany")) (.ref (He.ga K "NoMake")) = some false := PL.kitX_ok (He.ba (He.ba (He.ba (He.ba (He.ba (He.ba (He.ba (He.ba (He.ba (He.ba (He.ba (He.ba (He.ba (He.ba (He.ba (He.ba (He.ba (He.ba (He.ba (He.ba (He.ba (He.ba (He.ba (He.ba (He.ba (He.ba (He.ba (He.ba (He.ba (He.ba (He.ba (He.ba (He.ba (He.ba (He.ba (He.ba (He.ba (He.ba (He.ba (He.ba (He.ba (He.ba (He.ba (He.ba (He.ba (He.ba (He.ba (He.ba (He.ba (He.ba (He.ba (He.ba (He.ba (He.ba T.x).2).2).2).2).2).2).2).2).2).2).2).2).2).2).2).2).2).2).2).2).2).2).2).2).2).2).2).2).2).2).2).2).2).2).2).2).2).2).2).2).2).2).2).2).2).2).2).2).2).2).2).2).2).1
theorem Tx.kx_NoMany_NoMany (T : Tx K mg) : PySem.W.kitOne K (.ref (He.ga K "NoMany")) (.ref (He.ga K "NoMany")) = some true := PL.kitX_ok (He.ba (He.ba (He.ba (He.ba (He.ba (He.ba (He.ba (He.ba (He.ba (He.ba (He.ba (He.ba (He.ba (He.ba (He.ba (He.ba (He.ba (He.ba (He.ba (He.ba (He.ba (He.ba (He.ba (He.ba (He.ba (He.ba (He.ba (He.ba (He.ba (He.ba (He.ba (He.ba (He.ba (He.ba (He.ba (He.ba (He.ba (He.ba (He.ba (He.ba (He.ba (He.ba (He.ba (He.ba (He.ba (He.ba (He.ba (He.ba (He.ba (He.ba (He.ba (He.ba (He.ba (He.ba (He.ba T.x).2).2).2).2).2).2).2).2).2).2).2).2).2).2).2).2).2).2).2).2).2).2).2).2).2).2).2).2).2).2).2).2).2).2).2).2).2).2).2).2).2).2).2).2).2).2).2).2).2).2).2).2).2).2).1
theorem Tx.kx_NoMany_NoName (T : Tx K mg) : PySem.W.kitOne K (.ref (He.ga K "NoMany")) (.ref (He.ga K "NoName")) = some false := PL.kitX_ok (He.ba (He.ba (He.ba (He.ba (He.ba (He.ba (He.ba (He.ba (He.ba (He.ba (He.ba (He.ba (He.ba (He.ba (He.ba (He.ba (He.ba (He.ba (He.ba (He.ba (He.ba (He.ba (He.ba (He.ba (He.ba (He.ba (He.ba (He.ba (He.ba (He.ba (He.ba (He.ba (He.ba (He.ba (He.ba (He.ba (He.ba (He.ba (He.ba (He.ba (He.ba (He.ba (He.ba (He.ba (He.ba (He.ba (He.ba (He.ba (He.ba (He.ba (He.ba (He.ba (He.ba (He.ba (He.ba (He.ba T.x).2).2).2).2).2).2).2).2).2).2).2).2).2).2).2).2).2).2).2).2).2).2).2).2).2).2).2).2).2).2).2).2).2).2).2).2).2).2).2).2).2).2).2).2).2).2).2).2).2).2).2).2).2).2).2).1
theorem Tx.kx_NoMany_NoPath (T : Tx K mg) : PySem.W.kitOne K (.ref (He.ga K "NoMany")) (.ref (He.ga K "NoPath")) = some false := PL.kitX_ok (He.ba (He.ba (He.ba (He.ba (He.ba (He.ba (He.ba (He.ba (He.ba (He.ba (He.ba (He.ba (He.ba (He.ba (He.ba (He.ba (He.ba (He.ba (He.ba (He.ba (He.ba (He.ba (He.ba (He.ba (He.ba (He.ba (He.ba (He.ba (He.ba (He.ba (He.ba (He.ba (He.ba (He.ba (He.ba (He.ba (He.ba (He.ba (He.ba (He.ba (He.ba (He.ba (He.ba (He.ba (He.ba (He.ba (He.ba (He.ba (He.ba (He.ba (He.ba (He.ba (He.ba (He.ba (He.ba (He.ba (He.ba T.x).2).2).2).2).2).2).2).2).2).2).2).2).2).2).2).2).2).2).2).2).2).2).2).2).2).2).2).2).2).2).2).2).2).2).2).2).2).2).2).2).2).2).2).2).2).2).2).2).2).2).2).2).2).2).2).2).1
theorem Tx.kx_NoMany_NoRow (T : Tx K mg) : PySem.W.kitOne K (.ref (He.ga K "NoMany")) (.ref (He.ga K "NoRow")) = some false := PL.kitX_ok (He.ba (He.ba (He.ba (He.ba (He.ba (He.ba (He.ba (He.ba (He.ba (He.ba (He.ba (He.ba (He.ba (He.ba (He.ba (He.ba (He.ba (He.ba (He.ba (He.ba (He.ba (He.ba (He.ba (He.ba (He.ba (He.ba (He.ba (He.ba (He.ba (He.ba (He.ba (He.ba (He.ba (He.ba (He.ba (He.ba (He.ba (He.ba (He.ba (He.ba (He.ba (He.ba (He.ba (He.ba (He.ba (He.ba (He.ba (He.ba (He.ba (He.ba (He.ba (He.ba (He.ba (He.ba (He.ba (He.ba (He.ba (He.ba T.x).2).2).2).2).2).2).2).2).2).2).2).2).2).2).2).2).2).2).2).2).2).2).2).2).2).2).2).2).2).2).2).2).2).2).2).2).2).2).2).2).2).2).2).2).2).2).2).2).2).2).2).2).2).2).2).2).2).1
theorem Tx.kx_NoMany_NoRule (T : Tx K mg) : PySem.W.kitOne K (.ref (He.ga K "NoMany")) (.ref (He.ga K "NoRule")) = some false := PL.kitX_ok (He.ba (He.ba (He.ba (He.ba (He.ba (He.ba (He.ba (He.ba (He.ba (He.ba (He.ba (He.ba (He.ba (He.ba (He.ba (He.ba (He.ba (He.ba (He.ba (He.ba (He.ba (He.ba (He.ba (He.ba (He.ba (He.ba (He.ba (He.ba (He.ba (He.ba (He.ba (He.ba (He.ba (He.ba (He.ba (He.ba (He.ba (He.ba (He.ba (He.ba (He.ba (He.ba (He.ba (He.ba (He.ba (He.ba (He.ba (He.ba (He.ba (He.ba (He.ba (He.ba (He.ba (He.ba (He.ba (He.ba (He.ba (He.ba (He.ba T.x).2).2).2).2).2).2).2).2).2).2).2).2).2).2).2).2).2).2).2).2).2).2).2).2).2).2).2).2).2).2).2).2).2).2).2).2).2).2).2).2).2).2).2).2).2).2).2).2).2).2).2).2).2).2).2).2).2).2).1
theorem Tx.kx_NoMany_NoText (T : Tx K mg) : PySem.W.kitOne K (.ref (He.ga K "NoMany")) (.ref (He.ga K "NoText")) = some false := PL.kitX_ok (He.ba (He.ba (He.ba (He.ba (He.ba (He.ba (He.ba (He.ba (He.ba (He.ba (He.ba (He.ba (He.ba (He.ba (He.ba (He.ba (He.ba (He.ba (He.ba (He.ba (He.ba (He.ba (He.ba (He.ba (He.ba (He.ba (He.ba (He.ba (He.ba (He.ba (He.ba (He.ba (He.ba (He.ba (He.ba (He.ba (He.ba (He.ba (He.ba (He.ba (He.ba (He.ba (He.ba (He.ba (He.ba (He.ba (He.ba (He.ba (He.ba (He.ba (He.ba (He.ba (He.ba (He.ba (He.ba (He.ba (He.ba (He.ba (He.ba (He.ba T.x).2).2).2).2).2).2).2).2).2).2).2).2).2).2).2).2).2).2).2).2).2).2).2).2).2).2).2).2).2).2).2).2).2).2).2).2).2).2).2).2).2).2).2).2).2).2).2).2).2).2).2).2).2).2).2).2).2).2).2).1
theorem Tx.kx_NoMany_NoWeighing (T : Tx K mg) : PySem.W.kitOne K (.ref (He.ga K "NoMany")) (.ref (He.ga K "NoWeighing")) = some false := PL.kitX_ok (He.ba (He.ba (He.ba (He.ba (He.ba (He.ba (He.ba (He.ba (He.ba (He.ba (He.ba (He.ba (He.ba (He.ba (He.ba (He.ba (He.ba (He.ba (He.ba (He.ba (He.ba (He.ba (He.ba (He.ba (He.ba (He.ba (He.ba (He.ba (He.ba (He.ba (He.ba (He.ba (He.ba (He.ba (He.ba (He.ba (He.ba (He.ba (He.ba (He.ba (He.ba (He.ba (He.ba (He.ba (He.ba (He.ba (He.ba (He.ba (He.ba (He.ba (He.ba (He.ba (He.ba (He.ba (He.ba (He.ba (He.ba (He.ba (He.ba (He.ba (He.ba T.x).2).2).2).2).2).2).2).2).2).2).2).2).2).2).2).2).2).2).2).2).2).2).2).2).2).2).2).2).2).2).2).2).2).2).2).2).2).2).2).2).2).2).2).2).2).2).2).2).2).2).2).2).2).2).2).2).2).2).2).2).1
theorem Tx.kx_NoMany_Over (T : Tx K mg) : PySem.W.kitOne K (.ref (He.ga K "NoMany")) (.ref (He.ga K "Over")) = some false := PL.kitX_ok (He.ba (He.ba (He.ba (He.ba (He.ba (He.ba (He.ba (He.ba (He.ba (He.ba (He.ba (He.ba (He.ba (He.ba (He.ba (He.ba (He.ba (He.ba (He.ba (He.ba (He.ba (He.ba (He.ba (He.ba (He.ba (He.ba (He.ba (He.ba (He.ba (He.ba (He.ba (He.ba (He.ba (He.ba (He.ba (He.ba (He.ba (He.ba (He.ba (He.ba (He.ba (He.ba (He.ba (He.ba (He.ba (He.ba (He.ba (He.ba (He.ba (He.ba (He.ba (He.ba (He.ba (He.ba (He.ba (He.ba (He.ba (He.ba (He.ba (He.ba (He.ba (He.ba T.x).2).2).2).2).2).2).2).2).2).2).2).2).2).2).2).2).2).2).2).2).2).2).2).2).2).2).2).2).2).2).2).2).2).2).2).2).2).2).2).2).2).2).2).2).2).2).2).2).2).2).2).2).2).2).2).2).2).2).2).2).2).1
theorem Tx.kx_NoMany_SearchError (T : Tx K mg) : PySem.W.kitOne K (.ref (He.ga K "NoMany")) (.ref (He.ga K "SearchError")) = some true := PL.kitX_ok (He.ba (He.ba (He.ba (He.ba (He.ba (He.ba (He.ba (He.ba (He.ba (He.ba (He.ba (He.ba (He.ba (He.ba (He.ba (He.ba (He.ba (He.ba (He.ba (He.ba (He.ba (He.ba (He.ba (He.ba (He.ba (He.ba (He.ba (He.ba (He.ba (He.ba (He.ba (He.ba (He.ba (He.ba (He.ba (He.ba (He.ba (He.ba (He.ba (He.ba (He.ba (He.ba (He.ba (He.ba (He.ba (He.ba (He.ba (He.ba (He.ba (He.ba (He.ba (He.ba (He.ba (He.ba (He.ba (He.ba (He.ba (He.ba (He.ba (He.ba (He.ba (He.ba (He.ba T.x).2).2).2).2).2).2).2).2).2).2).2).2).2).2).2).2).2).2).2).2).2).2).2).2).2).2).2).2).2).2).2).2).2).2).2).2).2).2).2).2).2).2).2).2).2).2).2).2).2).2).2).2).2).2).2).2).2).2).2).2).2).2).1
theorem Tx.kx_NoMany_ValueError (T : Tx K mg) : PySem.W.kitOne K (.ref (He.ga K "NoMany")) (.type "ValueError") = some true := PL.kitX_ok (He.ba (He.ba (He.ba (He.ba (He.ba (He.ba (He.ba (He.ba (He.ba (He.ba (He.ba (He.ba (He.ba (He.ba (He.ba (He.ba (He.ba (He.ba (He.ba (He.ba (He.ba (He.ba (He.ba (He.ba (He.ba (He.ba (He.ba (He.ba (He.ba (He.ba (He.ba (He.ba (He.ba (He.ba (He.ba (He.ba (He.ba (He.ba (He.ba (He.ba (He.ba (He.ba (He.ba (He.ba (He.ba (He.ba (He.ba (He.ba (He.ba (He.ba (He.ba (He.ba (He.ba (He.ba (He.ba (He.ba (He.ba (He.ba (He.ba (He.ba (He.ba (He.ba (He.ba (He.ba T.x).2).2).2).2).2).2).2).2).2).2).2).2).2).2).2).2).2).2).2).2).2).2).2).2).2).2).2).2).2).2).2).2).2).2).2).2).2).2).2).2).2).2).2).2).2).2).2).2).2).2).2).2).2).2).2).2).2).2).2).2).2).2).2).1
theorem Tx.ef_NoName (T : Tx K mg) : PL.ExcF K mg "NoName" := PL.excF_ok (He.ba (He.ba (He.ba (He.ba (He.ba (He.ba (He.ba (He.ba (He.ba (He.ba (He.ba (He.ba (He.ba (He.ba (He.ba (He.ba (He.ba (He.ba (He.ba (He.ba (He.ba (He.ba (He.ba (He.ba (He.ba (He.ba (He.ba (He.ba (He.ba (He.ba (He.ba (He.ba (He.ba (He.ba (He.ba (He.ba (He.ba (He.ba (He.ba (He.ba (He.ba (He.ba (He.ba (He.ba (He.ba (He.ba (He.ba (He.ba (He.ba (He.ba (He.ba (He.ba (He.ba (He.ba (He.ba (He.ba (He.ba (He.ba (He.ba (He.ba (He.ba (He.ba (He.ba (He.ba (He.ba T.x).2).2).2).2).2).2).2).2).2).2).2).2).2).2).2).2).2).2).2).2).2).2).2).2).2).2).2).2).2).2).2).2).2).2).2).2).2).2).2).2).2).2).2).2).2).2).2).2).2).2).2).2).2).2).2).2).2).2).2).2).2).2).2).2).1 T.g_NoName
theorem Tx.ec_NoName (T : Tx K mg) : L2.ExcC K (He.ga K "NoName") := PL.excC_ok (He.ba (He.ba (He.ba (He.ba (He.ba (He.ba (He.ba (He.ba (He.ba (He.ba (He.ba (He.ba (He.ba (He.ba (He.ba (He.ba (He.ba (He.ba (He.ba (He.ba (He.ba (He.ba (He.ba (He.ba (He.ba (He.ba (He.ba (He.ba (He.ba (He.ba (He.ba (He.ba (He.ba (He.ba (He.ba (He.ba (He.ba (He.ba (He.ba (He.ba (He.ba (He.ba (He.ba (He.ba (He.ba (He.ba (He.ba (He.ba (He.ba (He.ba (He.ba (He.ba (He.ba (He.ba (He.ba (He.ba (He.ba (He.ba (He.ba (He.ba (He.ba (He.ba (He.ba (He.ba (He.ba (He.ba T.x).2).2).2).2).2).2).2).2).2).2).2).2).2).2).2).2).2).2).2).2).2).2).2).2).2).2).2).2).2).2).2).2).2).2).2).2).2).2).2).2).2).2).2).2).2).2).2).2).2).2).2).2).2).2).2).2).2).2).2).2).2).2).2).2).2).1
theorem Tx.kx_NoName_Lacking (T : Tx K mg) : PySem.W.kitOne K (.ref (He.ga K "NoName")) (.ref (He.ga K "Lacking")) = some false := PL.kitX_ok (He.ba (He.ba (He.ba (He.ba (He.ba (He.ba (He.ba (He.ba (He.ba (He.ba (He.ba (He.ba (He.ba (He.ba (He.ba (He.ba (He.ba (He.ba (He.ba (He.ba (He.ba (He.ba (He.ba (He.ba (He.ba (He.ba (He.ba (He.ba (He.ba (He.ba (He.ba (He.ba (He.ba (He.ba (He.ba (He.ba (He.ba (He.ba (He.ba (He.ba (He.ba (He.ba (He.ba (He.ba (He.ba (He.ba (He.ba (He.ba (He.ba (He.ba (He.ba (He.ba (He.ba (He.ba (He.ba (He.ba (He.ba (He.ba (He.ba (He.ba (He.ba (He.ba (He.ba (He.ba (He.ba (He.ba (He.ba (He.ba T.x).2).2).2).2).2).2).2).2).2).2).2).2).2).2).2).2).2).2).2).2).2).2).2).2).2).2).2).2).2).2).2).2).2).2).2).2).2).2).2).2).2).2).2).2).2).2).2).2).2).2).2).2).2).2).2).2).2).2).2).2).2).2).2).2).2).2).2).1
theorem Tx.kx_NoName_NoAsking (T : Tx K mg) : PySem.W.kitOne K (.ref (He.ga K "NoName")) (.ref (He.ga K "NoAsking")) = some false := PL.kitX_ok (He.ba (He.ba (He.ba (He.ba (He.ba (He.ba (He.ba (He.ba (He.ba (He.ba (He.ba (He.ba (He.ba (He.ba (He.ba (He.ba (He.ba (He.ba (He.ba (He.ba (He.ba (He.ba (He.ba (He.ba (He.ba (He.ba (He.ba (He.ba (He.ba (He.ba (He.ba (He.ba (He.ba (He.ba (He.ba (He.ba (He.ba (He.ba (He.ba (He.ba (He.ba (He.ba (He.ba (He.ba (He.ba (He.ba (He.ba (He.ba (He.ba (He.ba (He.ba (He.ba (He.ba (He.ba (He.ba (He.ba (He.ba (He.ba (He.ba (He.ba (He.ba (He.ba (He.ba (He.ba (He.ba (He.ba (He.ba (He.ba (He.ba T.x).2).2).2).2).2).2).2).2).2).2).2).2).2).2).2).2).2).2).2).2).2).2).2).2).2).2).2).2).2).2).2).2).2).2).2).2).2).2).2).2).2).2).2).2).2).2).2).2).2).2).2).2).2).2).2).2).2).2).2).2).2).2).2).2).2).2).2).2).1
theorem Tx.kx_NoName_NoMake (T : Tx K mg) : PySem.W.kitOne K (.ref (He.ga K "NoName")) (.ref (He.ga K "NoMake")) = some false := PL.kitX_ok (He.ba (He.ba (He.ba (He.ba (He.ba (He.ba (He.ba (He.ba (He.ba (He.ba (He.ba (He.ba (He.ba (He.ba (He.ba (He.ba (He.ba (He.ba (He.ba (He.ba (He.ba (He.ba (He.ba (He.ba (He.ba (He.ba (He.ba (He.ba (He.ba (He.ba (He.ba (He.ba (He.ba (He.ba (He.ba (He.ba (He.ba (He.ba (He.ba (He.ba (He.ba (He.ba (He.ba (He.ba (He.ba (He.ba (He.ba (He.ba (He.ba (He.ba (He.ba (He.ba (He.ba (He.ba (He.ba (He.ba (He.ba (He.ba (He.ba (He.ba (He.ba (He.ba (He.ba (He.ba (He.ba (He.ba (He.ba (He.ba (He.ba (He.ba T.x).2).2).2).2).2).2).2).2).2).2).2).2).2).2).2).2).2).2).2).2).2).2).2).2).2).2).2).2).2).2).2).2).2).2).2).2).2).2).2).2).2).2).2).2).2).2).2).2).2).2).2).2).2).2).2).2).2).2).2).2).2).2).2).2).2).2).2).2).2).1
theorem Tx.kx_NoName_NoMany (T : Tx K mg) : PySem.W.kitOne K (.ref (He.ga K "NoName")) (.ref (He.ga K "NoMany")) = some false := PL.kitX_ok (He.ba (He.ba (He.ba (He.ba (He.ba (He.ba (He.ba (He.ba (He.ba (He.ba (He.ba (He.ba (He.ba (He.ba (He.ba (He.ba (He.ba (He.ba (He.ba (He.ba (He.ba (He.ba (He.ba (He.ba (He.ba (He.ba (He.ba (He.ba (He.ba (He.ba (He.ba (He.ba (He.ba (He.ba (He.ba (He.ba (He.ba (He.ba (He.ba (He.ba (He.ba (He.ba (He.ba (He.ba (He.ba (He.ba (He.ba (He.ba (He.ba (He.ba (He.ba (He.ba (He.ba (He.ba (He.ba (He.ba (He.ba (He.ba (He.ba (He.ba (He.ba (He.ba (He.ba (He.ba (He.ba (He.ba (He.ba (He.ba (He.ba (He.ba (He.ba T.x).2).2).2).2).2).2).2).2).2).2).2).2).2).2).2).2).2).2).2).2).2).2).2).2).2).2).2).2).2).2).2).2).2).2).2).2).2).2).2).2).2).2).2).2).2).2).2).2).2).2).2).2).2).2).2).2).2).2).2).2).2).2).2).2).2).2).2).2).2).2).1
theorem Tx.kx_NoName_NoName (T : Tx K mg) : PySem.W.kitOne K (.ref (He.ga K "NoName")) (.ref (He.ga K "NoName")) = some true := PL.kitX_ok (He.ba (He.ba (He.ba (He.ba (He.ba (He.ba (He.ba (He.ba (He.ba (He.ba (He.ba (He.ba (He.ba (He.ba (He.ba (He.ba (He.ba (He.ba (He.ba (He.ba (He.ba (He.ba (He.ba (He.ba (He.ba (He.ba (He.ba (He.ba (He.ba (He.ba (He.ba (He.ba (He.ba (He.ba (He.ba (He.ba (He.ba (He.ba (He.ba (He.ba (He.ba (He.ba (He.ba (He.ba (He.ba (He.ba (He.ba (He.ba (He.ba (He.ba (He.ba (He.ba (He.ba (He.ba (He.ba (He.ba (He.ba (He.ba (He.ba (He.ba (He.ba (He.ba (He.ba (He.ba (He.ba (He.ba (He.ba (He.ba (He.ba (He.ba (He.ba (He.ba T.x).2).2).2).2).2).2).2).2).2).2).2).2).2).2).2).2).2).2).2).2).2).2).2).2).2).2).2).2).2).2).2).2).2).2).2).2).2).2).2).2).2).2).2).2).2).2).2).2).2).2).2).2).2).2).2).2).2).2).2).2).2).2).2).2).2).2).2).2).2).2).2).1
theorem Tx.kx_NoName_NoPath (T : Tx K mg) : PySem.W.kitOne K (.ref (He.ga K "NoName")) (.ref (He.ga K "NoPath")) = some false := PL.kitX_ok (He.ba (He.ba (He.ba (He.ba (He.ba (He.ba (He.ba (He.ba (He.ba (He.ba (He.ba (He.ba (He.ba (He.ba (He.ba (He.ba (He.ba (He.ba (He.ba (He.ba (He.ba (He.ba (He.ba (He.ba (He.ba (He.ba (He.ba (He.ba (He.ba (He.ba (He.ba (He.ba (He.ba (He.ba (He.ba (He.ba (He.ba (He.ba (He.ba (He.ba (He.ba (He.ba (He.ba (He.ba (He.ba (He.ba (He.ba (He.ba (He.ba (He.ba (He.ba (He.ba (He.ba (He.ba (He.ba (He.ba (He.ba (He.ba (He.ba (He.ba (He.ba (He.ba (He.ba (He.ba (He.ba (He.ba (He.ba (He.ba (He.ba (He.ba (He.ba (He.ba (He.ba T.x).2).2).2).2).2).2).2).2).2).2).2).2).2).2).2).2).2).2).2).2).2).2).2).2).2).2).2).2).2).2).2).2).2).2).2).2).2).2).2).2).2).2).2).2).2).2).2).2).2).2).2).2).2).2).2).2).2).2).2).2).2).2).2).2).2).2).2).2).2).2).2).2).1
theorem Tx.kx_NoName_NoRow (T : Tx K mg) : PySem.W.kitOne K (.ref (He.ga K "NoName")) (.ref (He.ga K "NoRow")) = some false := PL.kitX_ok (He.ba (He.ba (He.ba (He.ba (He.ba (He.ba (He.ba (He.ba (He.ba (He.ba (He.ba (He.ba (He.ba (He.ba (He.ba (He.ba (He.ba (He.ba (He.ba (He.ba (He.ba (He.ba (He.ba (He.ba (He.ba (He.ba (He.ba (He.ba (He.ba (He.ba (He.ba (He.ba (He.ba (He.ba (He.ba (He.ba (He.ba (He.ba (He.ba (He.ba (He.ba (He.ba (He.ba (He.ba (He.ba (He.ba (He.ba (He.ba (He.ba (He.ba (He.ba (He.ba (He.ba (He.ba (He.ba (He.ba (He.ba (He.ba (He.ba (He.ba (He.ba (He.ba (He.ba (He.ba (He.ba (He.ba (He.ba (He.ba (He.ba (He.ba (He.ba (He.ba (He.ba (He.ba T.x).2).2).2).2).2).2).2).2).2).2).2).2).2).2).2).2).2).2).2).2).2).2).2).2).2).2).2).2).2).2).2).2).2).2).2).2).2).2).2).2).2).2).2).2).2).2).2).2).2).2).2).2).2).2).2).2).2).2).2).2).2).2).2).2).2).2).2).2).2).2).2).2).2).1
theorem Tx.kx_NoName_NoRule (T : Tx K mg) : PySem.W.kitOne K (.ref (He.ga K "NoName")) (.ref (He.ga K "NoRule")) = some false := PL.kitX_ok (He.ba (He.ba (He.ba (He.ba (He.ba (He.ba (He.ba (He.ba (He.ba (He.ba (He.ba (He.ba (He.ba (He.ba (He.ba (He.ba (He.ba (He.ba (He.ba (He.ba (He.ba (He.ba (He.ba (He.ba (He.ba (He.ba (He.ba (He.ba (He.ba (He.ba (He.ba (He.ba (He.ba (He.ba (He.ba (He.ba (He.ba (He.ba (He.ba (He.ba (He.ba (He.ba (He.ba (He.ba (He.ba (He.ba (He.ba (He.ba (He.ba (He.ba (He.ba (He.ba (He.ba (He.ba (He.ba (He.ba (He.ba (He.ba (He.ba (He.ba (He.ba (He.ba (He.ba (He.ba (He.ba (He.ba (He.ba (He.ba (He.ba (He.ba (He.ba (He.ba (He.ba (He.ba (He.ba T.x).2).2).2).2).2).2).2).2).2).2).2).2).2).2).2).2).2).2).2).2).2).2).2).2).2).2).2).2).2).2).2).2).2).2).2).2).2).2).2).2).2).2).2).2).2).2).2).2).2).2).2).2).2).2).2).2).2).2).2).2).2).2).2).2).2).2).2).2).2).2).2).2).2).2).1
theorem Tx.kx_NoName_NoText (T : Tx K mg) : PySem.W.kitOne K (.ref (He.ga K "NoName")) (.ref (He.ga K "NoText")) = some false := PL.kitX_ok (He.ba (He.ba (He.ba (He.ba (He.ba (He.ba (He.ba (He.ba (He.ba (He.ba (He.ba (He.ba (He.ba (He.ba (He.ba (He.ba (He.ba (He.ba (He.ba (He.ba (He.ba (He.ba (He.ba (He.ba (He.ba (He.ba (He.ba (He.ba (He.ba (He.ba (He.ba (He.ba (He.ba (He.ba (He.ba (He.ba (He.ba (He.ba (He.ba (He.ba (He.ba (He.ba (He.ba (He.ba (He.ba (He.ba (He.ba (He.ba (He.ba (He.ba (He.ba (He.ba (He.ba (He.ba (He.ba (He.ba (He.ba (He.ba (He.ba (He.ba (He.ba (He.ba (He.ba (He.ba (He.ba (He.ba (He.ba (He.ba (He.ba (He.ba (He.ba (He.ba (He.ba (He.ba (He.ba (He.ba T.x).2).2).2).2).2).2).2).2).2).2).2).2).2).2).2).2).2).2).2).2).2).2).2).2).2).2).2).2).2).2).2).2).2).2).2).2).2).2).2).2).2).2).2).2).2).2).2).2).2).2).2).2).2).2).2).2).2).2).2).2).2).2).2).2).2).2).2).2).2).2).2).2).2).2).2).1
theorem Tx.kx_NoName_NoWeighing (T : Tx K mg) : PySem.W.kitOne K (.ref (He.ga K "NoName")) (.ref (He.ga K "NoWeighing")) = some false := PL.kitX_ok (He.ba (He.ba (He.ba (He.ba (He.ba (He.ba (He.ba (He.ba (He.ba (He.ba (He.ba (He.ba (He.ba (He.ba (He.ba (He.ba (He.ba (He.ba (He.ba (He.ba (He.ba (He.ba (He.ba (He.ba (He.ba (He.ba (He.ba (He.ba (He.ba (He.ba (He.ba (He.ba (He.ba (He.ba (He.ba (He.ba (He.ba (He.ba (He.ba (He.ba (He.ba (He.ba (He.ba (He.ba (He.ba (He.ba (He.ba (He.ba (He.ba (He.ba (He.ba (He.ba (He.ba (He.ba (He.ba (He.ba (He.ba (He.ba (He.ba (He.ba (He.ba (He.ba (He.ba (He.ba (He.ba (He.ba (He.ba (He.ba (He.ba (He.ba (He.ba (He.ba (He.ba (He.ba (He.ba (He.ba (He.ba T.x).2).2).2).2).2).2).2).2).2).2).2).2).2).2).2).2).2).2).2).2).2).2).2).2).2).2).2).2).2).2).2).2).2).2).2).2).2).2).2).2).2).2).2).2).2).2).2).2).2).2).2).2).2).2).2).2).2).2).2).2).2).2).2).2).2).2).2).2).2).2).2).2).2).2).2).2).1
theorem Tx.kx_NoName_Over (T : Tx K mg) : PySem.W.kitOne K (.ref (He.ga K "NoName")) (.ref (He.ga K "Over")) = some false := PL.kitX_ok (He.ba (He.ba (He.ba (He.ba (He.ba (He.ba (He.ba (He.ba (He.ba (He.ba (He.ba (He.ba (He.ba (He.ba (He.ba (He.ba (He.ba (He.ba (He.ba (He.ba (He.ba (He.ba (He.ba (He.ba (He.ba (He.ba (He.ba (He.ba (He.ba (He.ba (He.ba (He.ba (He.ba (He.ba (He.ba (He.ba (He.ba (He.ba (He.ba (He.ba (He.ba (He.ba (He.ba (He.ba (He.ba (He.ba (He.ba (He.ba (He.ba (He.ba (He.ba (He.ba (He.ba (He.ba (He.ba (He.ba (He.ba (He.ba (He.ba (He.ba (He.ba (He.ba (He.ba (He.ba (He.ba (He.ba (He.ba (He.ba (He.ba (He.ba (He.ba (He.ba (He.ba (He.ba (He.ba (He.ba (He.ba (He.ba T.x).2).2).2).2).2).2).2).2).2).2).2).2).2).2).2).2).2).2).2).2).2).2).2).2).2).2).2).2).2).2).2).2).2).2).2).2).2).2).2).2).2).2).2).2).2).2).2).2).2).2).2).2).2).2).2).2).2).2).2).2).2).2).2).2).2).2).2).2).2).2).2).2).2).2).2).2).2).1
theorem Tx.kx_NoName_SearchError (T : Tx K mg) : PySem.W.kitOne K (.ref (He.ga K "NoName")) (.ref (He.ga K "SearchError")) = some true := PL.kitX_ok (He.ba (He.ba (He.ba (He.ba (He.ba (He.ba (He.ba (He.ba (He.ba (He.ba (He.ba (He.ba (He.ba (He.ba (He.ba (He.ba (He.ba (He.ba (He.ba (He.ba (He.ba (He.ba (He.ba (He.ba (He.ba (He.ba (He.ba (He.ba (He.ba (He.ba (He.ba (He.ba (He.ba (He.ba (He.ba (He.ba (He.ba (He.ba (He.ba (He.ba (He.ba (He.ba (He.ba (He.ba (He.ba (He.ba (He.ba (He.ba (He.ba (He.ba (He.ba (He.ba (He.ba (He.ba (He.ba (He.ba (He.ba (He.ba (He.ba (He.ba (He.ba (He.ba (He.ba (He.ba (He.ba (He.ba (He.ba (He.ba (He.ba (He.ba (He.ba (He.ba (He.ba (He.ba (He.ba (He.ba (He.ba (He.ba (He.ba T.x).2).2).2).2).2).2).2).2).2).2).2).2).2).2).2).2).2).2).2).2).2).2).2).2).2).2).2).2).2).2).2).2).2).2).2).2).2).2).2).2).2).2).2).2).2).2).2).2).2).2).2).2).2).2).2).2).2).2).2).2).2).2).2).2).2).2).2).2).2).2).2).2).2).2).2).2).2).2).1
theorem Tx.kx_NoName_ValueError (T : Tx K mg) : PySem.W.kitOne K (.ref (He.ga K "NoName")) (.type "ValueError") = some true := PL.kitX_ok (He.ba (He.ba (He.ba (He.ba (He.ba (He.ba (He.ba (He.ba (He.ba (He.ba (He.ba (He.ba (He.ba (He.ba (He.ba (He.ba (He.ba (He.ba (He.ba (He.ba (He.ba (He.ba (He.ba (He.ba (He.ba (He.ba (He.ba (He.ba (He.ba (He.ba (He.ba (He.ba (He.ba (He.ba (He.ba (He.ba (He.ba (He.ba (He.ba (He.ba (He.ba (He.ba (He.ba (He.ba (He.ba (He.ba (He.ba (He.ba (He.ba (He.ba (He.ba (He.ba (He.ba (He.ba (He.ba (He.ba (He.ba (He.ba (He.ba (He.ba (He.ba (He.ba (He.ba (He.ba (He.ba (He.ba (He.ba (He.ba (He.ba (He.ba (He.ba (He.ba (He.ba (He.ba (He.ba (He.ba (He.ba (He.ba (He.ba (He.ba T.x).2).2).2).2).2).2).2).2).2).2).2).2).2).2).2).2).2).2).2).2).2).2).2).2).2).2).2).2).2).2).2).2).2).2).2).2).2).2).2).2).2).2).2).2).2).2).2).2).2).2).2).2).2).2).2).2).2).2).2).2).2).2).2).2).2).2).2).2).2).2).2).2).2).2).2).2).2).2).2).1
theorem Tx.ef_NoPath (T : Tx K mg) : PL.ExcF K mg "NoPath" := PL.excF_ok (He.ba (He.ba (He.ba (He.ba (He.ba (He.ba (He.ba (He.ba (He.ba (He.ba (He.ba (He.ba (He.ba (He.ba (He.ba (He.ba (He.ba (He.ba (He.ba (He.ba (He.ba (He.ba (He.ba (He.ba (He.ba (He.ba (He.ba (He.ba (He.ba (He.ba (He.ba (He.ba (He.ba (He.ba (He.ba (He.ba (He.ba (He.ba (He.ba (He.ba (He.ba (He.ba (He.ba (He.ba (He.ba (He.ba (He.ba (He.ba (He.ba (He.ba (He.ba (He.ba (He.ba (He.ba (He.ba (He.ba (He.ba (He.ba (He.ba (He.ba (He.ba (He.ba (He.ba (He.ba (He.ba (He.ba (He.ba (He.ba (He.ba (He.ba (He.ba (He.ba (He.ba (He.ba (He.ba (He.ba (He.ba (He.ba (He.ba (He.ba (He.ba T.x).2).2).2).2).2).2).2).2).2).2).2).2).2).2).2).2).2).2).2).2).2).2).2).2).2).2).2).2).2).2).2).2).2).2).2).2).2).2).2).2).2).2).2).2).2).2).2).2).2).2).2).2).2).2).2).2).2).2).2).2).2).2).2).2).2).2).2).2).2).2).2).2).2).2).2).2).2).2).2).2).1 T.g_NoPath
theorem Tx.ec_NoPath (T : Tx K mg) : L2.ExcC K (He.ga K "NoPath") := PL.excC_ok (He.ba (He.ba (He.ba (He.ba (He.ba (He.ba (He.ba (He.ba (He.ba (He.ba (He.ba (He.ba (He.ba (He.ba (He.ba (He.ba (He.ba (He.ba (He.ba (He.ba (He.ba (He.ba (He.ba (He.ba (He.ba (He.ba (He.ba (He.ba (He.ba (He.ba (He.ba (He.ba (He.ba (He.ba (He.ba (He.ba (He.ba (He.ba (He.ba (He.ba (He.ba (He.ba (He.ba (He.ba (He.ba (He.ba (He.ba (He.ba (He.ba (He.ba (He.ba (He.ba (He.ba (He.ba (He.ba (He.ba (He.ba (He.ba (He.ba (He.ba (He.ba (He.ba (He.ba (He.ba (He.ba (He.ba (He.ba (He.ba (He.ba (He.ba (He.ba (He.ba (He.ba (He.ba (He.ba (He.ba (He.ba (He.ba (He.ba (He.ba (He.ba (He.ba T.x).2).2).2).2).2).2).2).2).2).2).2).2).2).2).2).2).2).2).2).2).2).2).2).2).2).2).2).2).2).2).2).2).2).2).2).2).2).2).2).2).2).2).2).2).2).2).2).2).2).2).2).2).2).2).2).2).2).2).2).2).2).2).2).2).2).2).2).2).2).2).2).2).2).2).2).2).2).2).2).2).2).1
theorem Tx.kx_NoPath_Lacking (T : Tx K mg) : PySem.W.kitOne K (.ref (He.ga K "NoPath")) (.ref (He.ga K "Lacking")) = some false := PL.kitX_ok (He.ba (He.ba (He.ba (He.ba (He.ba (He.ba (He.ba (He.ba (He.ba (He.ba (He.ba (He.ba (He.ba (He.ba (He.ba (He.ba (He.ba (He.ba (He.ba (He.ba (He.ba (He.ba (He.ba (He.ba (He.ba (He.ba (He.ba (He.ba (He.ba (He.ba (He.ba (He.ba (He.ba (He.ba (He.ba (He.ba (He.ba (He.ba (He.ba (He.ba (He.ba (He.ba (He.ba (He.ba (He.ba (He.ba (He.ba (He.ba (He.ba (He.ba (He.ba (He.ba (He.ba (He.ba (He.ba (He.ba (He.ba (He.ba (He.ba (He.ba (He.ba (He.ba (He.ba (He.ba (He.ba (He.ba (He.ba (He.ba (He.ba (He.ba (He.ba (He.ba (He.ba (He.ba (He.ba (He.ba (He.ba (He.ba (He.ba (He.ba (He.ba (He.ba (He.ba (He.ba T.x).2).2).2).2).2).2).2).2).2).2).2).2).2).2).2).2).2).2).2).2).2).2).2).2).2).2).2).2).2).2).2).2).2).2).2).2).2).2).2).2).2).2).2).2).2).2).2).2).2).2).2).2).2).2).2).2).2).2).2).2).2).2).2).2).2).2).2).2).2).2).2).2).2).2).2).2).2).2).2).2).2).2).2).1
theorem Tx.kx_NoPath_NoAsking (T : Tx K mg) : PySem.W.kitOne K (.ref (He.ga K "NoPath")) (.ref (He.ga K "NoAsking")) = some false := PL.kitX_ok (He.ba (He.ba (He.ba (He.ba (He.ba (He.ba (He.ba (He.ba (He.ba (He.ba (He.ba (He.ba (He.ba (He.ba (He.ba (He.ba (He.ba (He.ba (He.ba (He.ba (He.ba (He.ba (He.ba (He.ba (He.ba (He.ba (He.ba (He.ba (He.ba (He.ba (He.ba (He.ba (He.ba (He.ba (He.ba (He.ba (He.ba (He.ba (He.ba (He.ba (He.ba (He.ba (He.ba (He.ba (He.ba (He.ba (He.ba (He.ba (He.ba (He.ba (He.ba (He.ba (He.ba (He.ba (He.ba (He.ba (He.ba (He.ba (He.ba (He.ba (He.ba (He.ba (He.ba (He.ba (He.ba (He.ba (He.ba (He.ba (He.ba (He.ba (He.ba (He.ba (He.ba (He.ba (He.ba (He.ba (He.ba (He.ba (He.ba (He.ba (He.ba (He.ba (He.ba (He.ba (He.ba T.x).2).2).2).2).2).2).2).2).2).2).2).2).2).2).2).2).2).2).2).2).2).2).2).2).2).2).2).2).2).2).2).2).2).2).2).2).2).2).2).2).2).2).2).2).2).2).2).2).2).2).2).2).2).2).2).2).2).2).2).2).2).2).2).2).2).2).2).2).2).2).2).2).2).2).2).2).2).2).2).2).2).2).2).2).1
theorem Tx.kx_NoPath_NoMake (T : Tx K mg) : PySem.W.kitOne K (.ref (He.ga K "NoPath")) (.ref (He.ga K "NoMake")) = some false := PL.kitX_ok (He.ba (He.ba (He.ba (He.ba (He.ba (He.ba (He.ba (He.ba (He.ba (He.ba (He.ba (He.ba (He.ba (He.ba (He.ba (He.ba (He.ba (He.ba (He.ba (He.ba (He.ba (He.ba (He.ba (He.ba (He.ba (He.ba (He.ba (He.ba (He.ba (He.ba (He.ba (He.ba (He.ba (He.ba (He.ba (He.ba (He.ba (He.ba (He.ba (He.ba (He.ba (He.ba (He.ba (He.ba (He.ba (He.ba (He.ba (He.ba (He.ba (He.ba (He.ba (He.ba (He.ba (He.ba (He.ba (He.ba (He.ba (He.ba (He.ba (He.ba (He.ba (He.ba (He.ba (He.ba (He.ba (He.ba (He.ba (He.ba (He.ba (He.ba (He.ba (He.ba (He.ba (He.ba (He.ba (He.ba (He.ba (He.ba (He.ba (He.ba (He.ba (He.ba (He.ba (He.ba (He.ba (He.ba T.x).2).2).2).2).2).2).2).2).2).2).2).2).2).2).2).2).2).2).2).2).2).2).2).2).2).2).2).2).2).2).2).2).2).2).2).2).2).2).2).2).2).2).2).2).2).2).2).2).2).2).2).2).2).2).2).2).2).2).2).2).2).2).2).2).2).2).2).2).2).2).2).2).2).2).2).2).2).2).2).2).2).2).2).2).2).1
theorem Tx.kx_NoPath_NoMany (T : Tx K mg) : PySem.W.kitOne K (.ref (He.ga K "NoPath")) (.ref (He.ga K "NoMany")) = some false := PL.kitX_ok (He.ba (He.ba (He.ba (He.ba (He.ba (He.ba (He.ba (He.ba (He.ba (He.ba (He.ba (He.ba (He.ba (He.ba (He.ba (He.ba (He.ba (He.ba (He.ba (He.ba (He.ba (He.ba (He.ba (He.ba (He.ba (He.ba (He.ba (He.ba (He.ba (He.ba (He.ba (He.ba (He.ba (He.ba (He.ba (He.ba (He.ba (He.ba (He.ba (He.ba (He.ba (He.ba (He.ba (He.ba (He.ba (He.ba (He.ba (He.ba (He.ba (He.ba (He.ba (He.ba (He.ba (He.ba (He.ba (He.ba (He.ba (He.ba (He.ba (He.ba (He.ba (He.ba (He.ba (He.ba (He.ba (He.ba (He.ba (He.ba (He.ba (He.ba (He.ba (He.ba (He.ba (He.ba (He.ba (He.ba (He.ba (He.ba (He.ba (He.ba (He.ba (He.ba (He.ba (He.ba (He.ba (He.ba (He.ba T.x).2).2).2).2).2).2).2).2).2).2).2).2).2).2).2).2).2).2).2).2).2).2).2).2).2).2).2).2).2).2).2).2).2).2).2).2).2).2).2).2).2).2).2).2).2).2).2).2).2).2).2).2).2).2).2).2).2).2).2).2).2).2).2).2).2).2).2).2).2).2).2).2).2).2).2).2).2).2).2).2).2).2).2).2).2).2).1
theorem Tx.kx_NoPath_NoName (T : Tx K mg) : PySem.W.kitOne K (.ref (He.ga K "NoPath")) (.ref (He.ga K "NoName")) = some false := PL.kitX_ok (He.ba (He.ba (He.ba (He.ba (He.ba (He.ba (He.ba (He.ba (He.ba (He.ba (He.ba (He.ba (He.ba (He.ba (He.ba (He.ba (He.ba (He.ba (He.ba (He.ba (He.ba (He.ba (He.ba (He.ba (He.ba (He.ba (He.ba (He.ba (He.ba (He.ba (He.ba (He.ba (He.ba (He.ba (He.ba (He.ba (He.ba (He.ba (He.ba (He.ba (He.ba (He.ba (He.ba (He.ba (He.ba (He.ba (He.ba (He.ba (He.ba (He.ba (He.ba (He.ba (He.ba (He.ba (He.ba (He.ba (He.ba (He.ba (He.ba (He.ba (He.ba (He.ba (He.ba (He.ba (He.ba (He.ba (He.ba (He.ba (He.ba (He.ba (He.ba (He.ba (He.ba (He.ba (He.ba (He.ba (He.ba (He.ba (He.ba (He.ba (He.ba (He.ba (He.ba (He.ba (He.ba (He.ba (He.ba (He.ba T.x).2).2).2).2).2).2).2).2).2).2).2).2).2).2).2).2).2).2).2).2).2).2).2).2).2).2).2).2).2).2).2).2).2).2).2).2).2).2).2).2).2).2).2).2).2).2).2).2).2).2).2).2).2).2).2).2).2).2).2).2).2).2).2).2).2).2).2).2).2).2).2).2).2).2).2).2).2).2).2).2).2).2).2).2).2).2).2).1
theorem Tx.kx_NoPath_NoPath (T : Tx K mg) : PySem.W.kitOne K (.ref (He.ga K "NoPath")) (.ref (He.ga K "NoPath")) = some true := PL.kitX_ok (He.ba (He.ba (He.ba (He.ba (He.ba (He.ba (He.ba (He.ba (He.ba (He.ba (He.ba (He.ba (He.ba (He.ba (He.ba (He.ba (He.ba (He.ba (He.ba (He.ba (He.ba (He.ba (He.ba (He.ba (He.ba (He.ba (He.ba (He.ba (He.ba (He.ba (He.ba (He.ba (He.ba (He.ba (He.ba (He.ba (He.ba (He.ba (He.ba (He.ba (He.ba (He.ba (He.ba (He.ba (He.ba (He.ba (He.ba (He.ba (He.ba (He.ba (He.ba (He.ba (He.ba (He.ba (He.ba (He.ba (He.ba (He.ba (He.ba (He.ba (He.ba (He.ba (He.ba (He.ba (He.ba (He.ba (He.ba (He.ba (He.ba (He.ba (He.ba (He.ba (He.ba (He.ba (He.ba (He.ba (He.ba (He.ba (He.ba (He.ba (He.ba (He.ba (He.ba (He.ba (He.ba (He.ba (He.ba (He.ba (He.ba T.x).2).2).2).2).2).2).2).2).2).2).2).2).2).2).2).2).2).2).2).2).2).2).2).2).2).2).2).2).2).2).2).2).2).2).2).2).2).2).2).2).2).2).2).2).2).2).2).2).2).2).2).2).2).2).2).2).2).2).2).2).2).2).2).2).2).2).2).2).2).2).2).2).2).2).2).2).2).2).2).2).2).2).2).2).2).2).2).2).1
theorem Tx.kx_NoPath_NoRow (T : Tx K mg) : PySem.W.kitOne K (.ref (He.ga K "NoPath")) (.ref (He.ga K "NoRow")) = some false := PL.kitX_ok (He.ba (He.ba (He.ba (He.ba (He.ba (He.ba (He.ba (He.ba (He.ba (He.ba (He.ba (He.ba (He.ba (He.ba (He.ba (He.ba (He.ba (He.ba (He.ba (He.ba (He.ba (He.ba (He.ba (He.ba (He.ba (He.ba (He.ba (He.ba (He.ba (He.ba (He.ba (He.ba (He.ba (He.ba (He.ba (He.ba (He.ba (He.ba (He.ba (He.ba (He.ba (He.ba (He.ba (He.ba (He.ba (He.ba (He.ba (He.ba (He.ba (He.ba (He.ba (He.ba (He.ba (He.ba (He.ba (He.ba (He.ba (He.ba (He.ba (He.ba (He.ba (He.ba (He.ba (He.ba (He.ba (He.ba (He.ba (He.ba (He.ba (He.ba (He.ba (He.ba (He.ba (He.ba (He.ba (He.ba (He.ba (He.ba (He.ba (He.ba (He.ba (He.ba (He.ba (He.ba (He.ba (He.ba (He.ba (He.ba (He.ba (He.ba T.x).2).2).2).2).2).2).2).2).2).2).2).2).2).2).2).2).2).2).2).2).2).2).2).2).2).2).2).2).2).2).2).2).2).2).2).2).2).2).2).2).2).2).2).2).2).2).2).2).2).2).2).2).2).2).2).2).2).2).2).2).2).2).2).2).2).2).2).2).2).2).2).2).2).2).2).2).2).2).2).2).2).2).2).2).2).2).2).2).2).1
theorem Tx.kx_NoPath_NoRule (T : Tx K mg) : PySem.W.kitOne K (.ref (He.ga K "NoPath")) (.ref (He.ga K "NoRule")) = some false := PL.kitX_ok (He.ba (He.ba (He.ba (He.ba (He.ba (He.ba (He.ba (He.ba (He.ba (He.ba (He.ba (He.ba (He.ba (He.ba (He.ba (He.ba (He.ba (He.ba (He.ba (He.ba (He.ba (He.ba (He.ba (He.ba (He.ba (He.ba (He.ba (He.ba (He.ba (He.ba (He.ba (He.ba (He.ba (He.ba (He.ba (He.ba (He.ba (He.ba (He.ba (He.ba (He.ba (He.ba (He.ba (He.ba (He.ba (He.ba (He.ba (He.ba (He.ba (He.ba (He.ba (He.ba (He.ba (He.ba (He.ba (He.ba (He.ba (He.ba (He.ba (He.ba (He.ba (He.ba (He.ba (He.ba (He.ba (He.ba (He.ba (He.ba (He.ba (He.ba (He.ba (He.ba (He.ba (He.ba (He.ba (He.ba (He.ba (He.ba (He.ba (He.ba (He.ba (He.ba (He.ba (He.ba (He.ba (He.ba (He.ba (He.ba (He.ba (He.ba (He.ba T.x).2).2).2).2).2).2).2).2).2).2).2).2).2).2).2).2).2).2).2).2).2).2).2).2).2).2).2).2).2).2).2).2).2).2).2).2).2).2).2).2).2).2).2).2).2).2).2).2).2).2).2).2).2).2).2).2).2).2).2).2).2).2).2).2).2).2).2).2).2).2).2).2).2).2).2).2).2).2).2).2).2).2).2).2).2).2).2).2).2).2).1
theorem Tx.kx_NoPath_NoText (T : Tx K mg) : PySem.W.kitOne K (.ref (He.ga K "NoPath")) (.ref (He.ga K "NoText")) = some false := PL.kitX_ok (He.ba (He.ba (He.ba (He.ba (He.ba (He.ba (He.ba (He.ba (He.ba (He.ba (He.ba (He.ba (He.ba (He.ba (He.ba (He.ba (He.ba (He.ba (He.ba (He.ba (He.ba (He.ba (He.ba (He.ba (He.ba (He.ba (He.ba (He.ba (He.ba (He.ba (He.ba (He.ba (He.ba (He.ba (He.ba (He.ba (He.ba (He.ba (He.ba (He.ba (He.ba (He.ba (He.ba (He.ba (He.ba (He.ba (He.ba (He.ba (He.ba (He.ba (He.ba (He.ba (He.ba (He.ba (He.ba (He.ba (He.ba (He.ba (He.ba (He.ba (He.ba (He.ba (He.ba (He.ba (He.ba (He.ba (He.ba (He.ba (He.ba (He.ba (He.ba (He.ba (He.ba (He.ba (He.ba (He.ba (He.ba (He.ba (He.ba (He.ba (He.ba (He.ba (He.ba (He.ba (He.ba (He.ba (He.ba (He.ba (He.ba (He.ba (He.ba (He.ba T.x).2).2).2).2).2).2).2).2).2).2).2).2).2).2).2).2).2).2).2).2).2).2).2).2).2).2).2).2).2).2).2).2).2).2).2).2).2).2).2).2).2).2).2).2).2).2).2).2).2).2).2).2).2).2).2).2).2).2).2).2).2).2).2).2).2).2).2).2).2).2).2).2).2).2).2).2).2).2).2).2).2).2).2).2).2).2).2).2).2).2).2).1
theorem Tx.kx_NoPath_NoWeighing (T : Tx K mg) : PySem.W.kitOne K (.ref (He.ga K "NoPath")) (.ref (He.ga K "NoWeighing")) = some false := PL.kitX_ok (He.ba (He.ba (He.ba (He.ba (He.ba (He.ba (He.ba (He.ba (He.ba (He.ba (He.ba (He.ba (He.ba (He.ba (He.ba (He.ba (He.ba (He.ba (He.ba (He.ba (He.ba (He.ba (He.ba (He.ba (He.ba (He.ba (He.ba (He.ba (He.ba (He.ba (He.ba (He.ba (He.ba (He.ba (He.ba (He.ba (He.ba (He.ba (He.ba (He.ba (He.ba (He.ba (He.ba (He.ba (He.ba (He.ba (He.ba (He.ba (He.ba (He.ba (He.ba (He.ba (He.ba (He.ba (He.ba (He.ba (He.ba (He.ba (He.ba (He.ba (He.ba (He.ba (He.ba (He.ba (He.ba (He.ba (He.ba (He.ba (He.ba (He.ba (He.ba (He.ba (He.ba (He.ba (He.ba (He.ba (He.ba (He.ba (He.ba (He.ba (He.ba (He.ba (He.ba (He.ba (He.ba (He.ba (He.ba (He.ba (He.ba (He.ba (He.ba (He.ba (He.ba T.x).2).2).2).2).2).2).2).2).2).2).2).2).2).2).2).2).2).2).2).2).2).2).2).2).2).2).2).2).2).2).2).2).2).2).2).2).2).2).2).2).2).2).2).2).2).2).2).2).2).2).2).2).2).2).2).2).2).2).2).2).2).2).2).2).2).2).2).2).2).2).2).2).2).2).2).2).2).2).2).2).2).2).2).2).2).2).2).2).2).2).2).2).1
theorem Tx.kx_NoPath_Over (T : Tx K mg) : PySem.W.kitOne K (.ref (He.ga K "NoPath")) (.ref (He.ga K "Over")) = some false := PL.kitX_ok (He.ba (He.ba (He.ba (He.ba (He.ba (He.ba (He.ba (He.ba (He.ba (He.ba (He.ba (He.ba (He.ba (He.ba (He.ba (He.ba (He.ba (He.ba (He.ba (He.ba (He.ba (He.ba (He.ba (He.ba (He.ba (He.ba (He.ba (He.ba (He.ba (He.ba (He.ba (He.ba (He.ba (He.ba (He.ba (He.ba (He.ba (He.ba (He.ba (He.ba (He.ba (He.ba (He.ba (He.ba (He.ba (He.ba (He.ba (He.ba (He.ba (He.ba (He.ba (He.ba (He.ba (He.ba (He.ba (He.ba (He.ba (He.ba (He.ba (He.ba (He.ba (He.ba (He.ba (He.ba (He.ba (He.ba (He.ba (He.ba (He.ba (He.ba (He.ba (He.ba (He.ba (He.ba (He.ba (He.ba (He.ba (He.ba (He.ba (He.ba (He.ba (He.ba (He.ba (He.ba (He.ba (He.ba (He.ba (He.ba (He.ba (He.ba (He.ba (He.ba (He.ba (He.ba T.x).2).2).2).2).2).2).2).2).2).2).2).2).2).2).2).2).2).2).2).2).2).2).2).2).2).2).2).2).2).2).2).2).2).2).2).2).2).2).2).2).2).2).2).2).2).2).2).2).2).2).2).2).2).2).2).2).2).2).2).2).2).2).2).2).2).2).2).2).2).2).2).2).2).2).2).2).2).2).2).2).2).2).2).2).2).2).2).2).2).2).2).2).2).1
theorem Tx.kx_NoPath_SearchError (T : Tx K mg) : PySem.W.kitOne K (.ref (He.ga K "NoPath")) (.ref (He.ga K "SearchError")) = some true := PL.kitX_ok (He.ba (He.ba (He.ba (He.ba (He.ba (He.ba (He.ba (He.ba (He.ba (He.ba (He.ba (He.ba (He.ba (He.ba (He.ba (He.ba (He.ba (He.ba (He.ba (He.ba (He.ba (He.ba (He.ba (He.ba (He.ba (He.ba (He.ba (He.ba (He.ba (He.ba (He.ba (He.ba (He.ba (He.ba (He.ba (He.ba (He.ba (He.ba (He.ba (He.ba (He.ba (He.ba (He.ba (He.ba (He.ba (He.ba (He.ba (He.ba (He.ba (He.ba (He.ba (He.ba (He.ba (He.ba (He.ba (He.ba (He.ba (He.ba (He.ba (He.ba (He.ba (He.ba (He.ba (He.ba (He.ba (He.ba (He.ba (He.ba (He.ba (He.ba (He.ba (He.ba (He.ba (He.ba (He.ba (He.ba (He.ba (He.ba (He.ba (He.ba (He.ba (He.ba (He.ba (He.ba (He.ba (He.ba (He.ba (He.ba (He.ba (He.ba (He.ba (He.ba (He.ba (He.ba (He.ba T.x).2).2).2).2).2).2).2).2).2).2).2).2).2).2).2).2).2).2).2).2).2).2).2).2).2).2).2).2).2).2).2).2).2).2).2).2).2).2).2).2).2).2).2).2).2).2).2).2).2).2).2).2).2).2).2).2).2).2).2).2).2).2).2).2).2).2).2).2).2).2).2).2).2).2).2).2).2).2).2).2).2).2).2).2).2).2).2).2).2).2).2).2).2).2).1
theorem Tx.kx_NoPath_ValueError (T : Tx K mg) : PySem.W.kitOne K (.ref (He.ga K "NoPath")) (.type "ValueError") = some true := PL.kitX_ok (He.ba (He.ba (He.ba (He.ba (He.ba (He.ba (He.ba (He.ba (He.ba (He.ba (He.ba (He.ba (He.ba (He.ba (He.ba (He.ba (He.ba (He.ba (He.ba (He.ba (He.ba (He.ba (He.ba (He.ba (He.ba (He.ba (He.ba (He.ba (He.ba (He.ba (He.ba (He.ba (He.ba (He.ba (He.ba (He.ba (He.ba (He.ba (He.ba (He.ba (He.ba (He.ba (He.ba (He.ba (He.ba (He.ba (He.ba (He.ba (He.ba (He.ba (He.ba (He.ba (He.ba (He.ba (He.ba (He.ba (He.ba (He.ba (He.ba (He.ba (He.ba (He.ba (He.ba (He.ba (He.ba (He.ba (He.ba (He.ba (He.ba (He.ba (He.ba (He.ba (He.ba (He.ba (He.ba (He.ba (He.ba (He.ba (He.ba (He.ba (He.ba (He.ba (He.ba (He.ba (He.ba (He.ba (He.ba (He.ba (He.ba (He.ba (He.ba (He.ba (He.ba (He.ba (He.ba (He.ba T.x).2).2).2).2).2).2).2).2).2).2).2).2).2).2).2).2).2).2).2).2).2).2).2).2).2).2).2).2).2).2).2).2).2).2).2).2).2).2).2).2).2).2).2).2).2).2).2).2).2).2).2).2).2).2).2).2).2).2).2).2).2).2).2).2).2).2).2).2).2).2).2).2).2).2).2).2).2).2).2).2).2).2).2).2).2).2).2).2).2).2).2).2).2).2).2).1
theorem Tx.ef_NoRow (T : Tx K mg) : PL.ExcF K mg "NoRow" := PL.excF_ok (He.ba (He.ba (He.ba (He.ba (He.ba (He.ba (He.ba (He.ba (He.ba (He.ba (He.ba (He.ba (He.ba (He.ba (He.ba (He.ba (He.ba (He.ba (He.ba (He.ba (He.ba (He.ba (He.ba (He.ba (He.ba (He.ba (He.ba (He.ba (He.ba (He.ba (He.ba (He.ba (He.ba (He.ba (He.ba (He.ba (He.ba (He.ba (He.ba (He.ba (He.ba (He.ba (He.ba (He.ba (He.ba (He.ba (He.ba (He.ba (He.ba (He.ba (He.ba (He.ba (He.ba (He.ba (He.ba (He.ba (He.ba (He.ba (He.ba (He.ba (He.ba (He.ba (He.ba (He.ba (He.ba (He.ba (He.ba (He.ba (He.ba (He.ba (He.ba (He.ba (He.ba (He.ba (He.ba (He.ba (He.ba (He.ba (He.ba (He.ba (He.ba (He.ba (He.ba (He.ba (He.ba (He.ba (He.ba (He.ba (He.ba (He.ba (He.ba (He.ba (He.ba (He.ba (He.ba (He.ba (He.ba T.x).2).2).2).2).2).2).2).2).2).2).2).2).2).2).2).2).2).2).2).2).2).2).2).2).2).2).2).2).2).2).2).2).2).2).2).2).2).2).2).2).2).2).2).2).2).2).2).2).2).2).2).2).2).2).2).2).2).2).2).2).2).2).2).2).2).2).2).2).2).2).2).2).2).2).2).2).2).2).2).2).2).2).2).2).2).2).2).2).2).2).2).2).2).2).2).2).1 T.g_NoRow
theorem Tx.ec_NoRow (T : Tx K mg) : L2.ExcC K (He.ga K "NoRow") := PL.excC_ok (He.ba (He.ba (He.ba (He.ba (He.ba (He.ba (He.ba (He.ba (He.ba (He.ba (He.ba (He.ba (He.ba (He.ba (He.ba (He.ba (He.ba (He.ba (He.ba (He.ba (He.ba (He.ba (He.ba (He.ba (He.ba (He.ba (He.ba (He.ba (He.ba (He.ba (He.ba (He.ba (He.ba (He.ba (He.ba (He.ba (He.ba (He.ba (He.ba (He.ba (He.ba (He.ba (He.ba (He.ba (He.ba (He.ba (He.ba (He.ba (He.ba (He.ba (He.ba (He.ba (He.ba (He.ba (He.ba (He.ba (He.ba (He.ba (He.ba (He.ba (He.ba (He.ba (He.ba (He.ba (He.ba (He.ba (He.ba (He.ba (He.ba (He.ba (He.ba (He.ba (He.ba (He.ba (He.ba (He.ba (He.ba (He.ba (He.ba (He.ba (He.ba (He.ba (He.ba (He.ba (He.ba (He.ba (He.ba (He.ba (He.ba (He.ba (He.ba (He.ba (He.ba (He.ba (He.ba (He.ba (He.ba (He.ba T.x).2).2).2).2).2).2).2).2).2).2).2).2).2).2).2).2).2).2).2).2).2).2).2).2).2).2).2).2).2).2).2).2).2).2).2).2).2).2).2).2).2).2).2).2).2).2).2).2).2).2).2).2).2).2).2).2).2).2).2).2).2).2).2).2).2).2).2).2).2).2).2).2).2).2).2).2).2).2).2).2).2).2).2).2).2).2).2).2).2).2).2).2).2).2).2).2).2).1
theorem Tx.kx_NoRow_Lacking (T : Tx K mg) : PySem.W.kitOne K (.ref (He.ga K "NoRow")) (.ref (He.ga K "Lacking")) = some false := PL.kitX_ok (He.ba (He.ba (He.ba (He.ba (He.ba (He.ba (He.ba (He.ba (He.ba (He.ba (He.ba (He.ba (He.ba (He.ba (He.ba (He.ba (He.ba (He.ba (He.ba (He.ba (He.ba (He.ba (He.ba (He.ba (He.ba (He.ba (He.ba (He.ba (He.ba (He.ba (He.ba (He.ba (He.ba (He.ba (He.ba (He.ba (He.ba (He.ba (He.ba (He.ba (He.ba (He.ba (He.ba (He.ba (He.ba (He.ba (He.ba (He.ba (He.ba (He.ba (He.ba (He.ba (He.ba (He.ba (He.ba (He.ba (He.ba (He.ba (He.ba (He.ba (He.ba (He.ba (He.ba (He.ba (He.ba (He.ba (He.ba (He.ba (He.ba (He.ba (He.ba (He.ba (He.ba (He.ba (He.ba (He.ba (He.ba (He.ba (He.ba (He.ba (He.ba (He.ba (He.ba (He.ba (He.ba (He.ba (He.ba (He.ba (He.ba (He.ba (He.ba (He.ba (He.ba (He.ba (He.ba (He.ba (He.ba (He.ba (He.ba (He.ba T.x).2).2).2).2).2).2).2).2).2).2).2).2).2).2).2).2).2).2).2).2).2).2).2).2).2).2).2).2).2).2).2).2).2).2).2).2).2).2).2).2).2).2).2).2).2).2).2).2).2).2).2).2).2).2).2).2).2).2).2).2).2).2).2).2).2).2).2).2).2).2).2).2).2).2).2).2).2).2).2).2).2).2).2).2).2).2).2).2).2).2).2).2).2).2).2).2).2).2).2).1
theorem Tx.kx_NoRow_NoAsking (T : Tx K mg) : PySem.W.kitOne K (.ref (He.ga K "NoRow")) (.ref (He.ga K "NoAsking")) = some false := PL.kitX_ok (He.ba (He.ba (He.ba (He.ba (He.ba (He.ba (He.ba (He.ba (He.ba (He.ba (He.ba (He.ba (He.ba (He.ba (He.ba (He.ba (He.ba (He.ba (He.ba (He.ba (He.ba (He.ba (He.ba (He.ba (He.ba (He.ba (He.ba (He.ba (He.ba (He.ba (He.ba (He.ba (He.ba (He.ba (He.ba (He.ba (He.ba (He.ba (He.ba (He.ba (He.ba (He.ba (He.ba (He.ba (He.ba (He.ba (He.ba (He.ba (He.ba (He.ba (He.ba (He.ba (He.ba (He.ba (He.ba (He.ba (He.ba (He.ba (He.ba (He.ba (He.ba (He.ba (He.ba (He.ba (He.ba (He.ba (He.ba (He.ba (He.ba (He.ba (He.ba (He.ba (He.ba (He.ba (He.ba (He.ba (He.ba (He.ba (He.ba (He.ba (He.ba (He.ba (He.ba (He.ba (He.ba (He.ba (He.ba (He.ba (He.ba (He.ba (He.ba (He.ba (He.ba (He.ba (He.ba (He.ba (He.ba (He.ba (He.ba (He.ba (He.ba T.x).2).2).2).2).2).2).2).2).2).2).2).2).2).2).2).2).2).2).2).2).2).2).2).2).2).2).2).2).2).2).2).2).2).2).2).2).2).2).2).2).2).2).2).2).2).2).2).2).2).2).2).2).2).2).2).2).2).2).2).2).2).2).2).2).2).2).2).2).2).2).2).2).2).2).2).2).2).2).2).2).2).2).2).2).2).2).2).2).2).2).2).2).2).2).2).2).2).2).2).2).1
theorem Tx.kx_NoRow_NoMake (T : Tx K mg) : PySem.W.kitOne K (.ref (He.ga K "NoRow")) (.ref (He.ga K "NoMake")) = some false := PL.kitX_ok (He.ba (He.ba (He.ba (He.ba (He.ba (He.ba (He.ba (He.ba (He.ba (He.ba (He.ba (He.ba (He.ba (He.ba (He.ba (He.ba (He.ba (He.ba (He.ba (He.ba (He.ba (He.ba (He.ba (He.ba (He.ba (He.ba (He.ba (He.ba (He.ba (He.ba (He.ba (He.ba (He.ba (He.ba (He.ba (He.ba (He.ba (He.ba (He.ba (He.ba (He.ba (He.ba (He.ba (He.ba (He.ba (He.ba (He.ba (He.ba (He.ba (He.ba (He.ba (He.ba (He.ba (He.ba (He.ba (He.ba (He.ba (He.ba (He.ba (He.ba (He.ba (He.ba (He.ba (He.ba (He.ba (He.ba (He.ba (He.ba (He.ba (He.ba (He.ba (He.ba (He.ba (He.ba (He.ba (He.ba (He.ba (He.ba (He.ba (He.ba (He.ba (He.ba (He.ba (He.ba (He.ba (He.ba (He.ba (He.ba (He.ba (He.ba (He.ba (He.ba (He.ba (He.ba (He.ba (He.ba (He.ba (He.ba (He.ba (He.ba (He.ba (He.ba T.x).2).2).2).2).2).2).2).2).2).2).2).2).2).2).2).2).2).2).2).2).2).2).2).2).2).2).2).2).2).2).2).2).2).2).2).2).2).2).2).2).2).2).2).2).2).2).2).2).2).2).2).2).2).2).2).2).2).2).2).2).2).2).2).2).2).2).2).2).2).2).2).2).2).2).2).2).2).2).2).2).2).2).2).2).2).2).2).2).2).2).2).2).2).2).2).2).2).2).2).2).2).1
theorem Tx.kx_NoRow_NoMany (T : Tx K mg) : PySem.W.kitOne K (.ref (He.ga K "NoRow")) (.ref (He.ga K "NoMany")) = some false := PL.kitX_ok (He.ba (He.ba (He.ba (He.ba (He.ba (He.ba (He.ba (He.ba (He.ba (He.ba (He.ba (He.ba (He.ba (He.ba (He.ba (He.ba (He.ba (He.ba (He.ba (He.ba (He.ba (He.ba (He.ba (He.ba (He.ba (He.ba (He.ba (He.ba (He.ba (He.ba (He.ba (He.ba (He.ba (He.ba (He.ba (He.ba (He.ba (He.ba (He.ba (He.ba (He.ba (He.ba (He.ba (He.ba (He.ba (He.ba (He.ba (He.ba (He.ba (He.ba (He.ba (He.ba (He.ba (He.ba (He.ba (He.ba (He.ba (He.ba (He.ba (He.ba (He.ba (He.ba (He.ba (He.ba (He.ba (He.ba (He.ba (He.ba (He.ba (He.ba (He.ba (He.ba (He.ba (He.ba (He.ba (He.ba (He.ba (He.ba (He.ba (He.ba (He.ba (He.ba (He.ba (He.ba (He.ba (He.ba (He.ba (He.ba (He.ba (He.ba (He.ba (He.ba (He.ba (He.ba (He.ba (He.ba (He.ba (He.ba (He.ba (He.ba (He.ba (He.ba (He.ba T.x).2).2).2).2).2).2).2).2).2).2).2).2).2).2).2).2).2).2).2).2).2).2).2).2).2).2).2).2).2).2).2).2).2).2).2).2).2).2).2).2).2).2).2).2).2).2).2).2).2).2).2).2).2).2).2).2).2).2).2).2).2).2).2).2).2).2).2).2).2).2).2).2).2).2).2).2).2).2).2).2).2).2).2).2).2).2).2).2).2).2).2).2).2).2).2).2).2).2).2).2).2).2).1
theorem Tx.kx_NoRow_NoName (T : Tx K mg) : PySem.W.kitOne K (.ref (He.ga K "NoRow")) (.ref (He.ga K "NoName")) = some false := PL.kitX_ok (He.ba (He.ba (He.ba (He.ba (He.ba (He.ba (He.ba (He.ba (He.ba (He.ba (He.ba (He.ba (He.ba (He.ba (He.ba (He.ba (He.ba (He.ba (He.ba (He.ba (He.ba (He.ba (He.ba (He.ba (He.ba (He.ba (He.ba (He.ba (He.ba (He.ba (He.ba (He.ba (He.ba (He.ba (He.ba (He.ba (He.ba (He.ba (He.ba (He.ba (He.ba (He.ba (He.ba (He.ba (He.ba (He.ba (He.ba (He.ba (He.ba (He.ba (He.ba (He.ba (He.ba (He.ba (He.ba (He.ba (He.ba (He.ba (He.ba (He.ba (He.ba (He.ba (He.ba (He.ba (He.ba (He.ba (He.ba (He.ba (He.ba (He.ba (He.ba (He.ba (He.ba (He.ba (He.ba (He.ba (He.ba (He.ba (He.ba (He.ba (He.ba (He.ba (He.ba (He.ba (He.ba (He.ba (He.ba (He.ba (He.ba (He.ba (He.ba (He.ba (He.ba (He.ba (He.ba (He.ba (He.ba (He.ba (He.ba (He.ba (He.ba (He.ba (He.ba (He.ba T.x).2).2).2).2).2).2).2).2).2).2).2).2).2).2).2).2).2).2).2).2).2).2).2).2).2).2).2).2).2).2).2).2).2).2).2).2).2).2).2).2).2).2).2).2).2).2).2).2).2).2).2).2).2).2).2).2).2).2).2).2).2).2).2).2).2).2).2).2).2).2).2).2).2).2).2).2).2).2).2).2).2).2).2).2).2).2).2).2).2).2).2).2).2).2).2).2).2).2).2).2).2).2).2).1
theorem Tx.kx_NoRow_NoPath (T : Tx K mg) : PySem.W.kitOne K (.ref (He.ga K "NoRow")) (.ref (He.ga K "NoPath")) = some false := PL.kitX_ok (He.ba (He.ba (He.ba (He.ba (He.ba (He.ba (He.ba (He.ba (He.ba (He.ba (He.ba (He.ba (He.ba (He.ba (He.ba (He.ba (He.ba (He.ba (He.ba (He.ba (He.ba (He.ba (He.ba (He.ba (He.ba (He.ba (He.ba (He.ba (He.ba (He.ba (He.ba (He.ba (He.ba (He.ba (He.ba (He.ba (He.ba (He.ba (He.ba (He.ba (He.ba (He.ba (He.ba (He.ba (He.ba (He.ba (He.ba (He.ba (He.ba (He.ba (He.ba (He.ba (He.ba (He.ba (He.ba (He.ba (He.ba (He.ba (He.ba (He.ba (He.ba (He.ba (He.ba (He.ba (He.ba (He.ba (He.ba (He.ba (He.ba (He.ba (He.ba (He.ba (He.ba (He.ba (He.ba (He.ba (He.ba (He.ba (He.ba (He.ba (He.ba (He.ba (He.ba (He.ba (He.ba (He.ba (He.ba (He.ba (He.ba (He.ba (He.ba (He.ba (He.ba (He.ba (He.ba (He.ba (He.ba (He.ba (He.ba (He.ba (He.ba (He.ba (He.ba (He.ba (He.ba T.x).2).2).2).2).2).2).2).2).2).2).2).2).2).2).2).2).2).2).2).2).2).2).2).2).2).2).2).2).2).2).2).2).2).2).2).2).2).2).2).2).2).2).2).2).2).2).2).2).2).2).2).2).2).2).2).2).2).2).2).2).2).2).2).2).2).2).2).2).2).2).2).2).2).2).2).2).2).2).2).2).2).2).2).2).2).2).2).2).2).2).2).2).2).2).2).2).2).2).2).2).2).2).2).2).1
theorem Tx.kx_NoRow_NoRow (T : Tx K mg) : PySem.W.kitOne K (.ref (He.ga K "NoRow")) (.ref (He.ga K "NoRow")) = some true := PL.kitX_ok (He.ba (He.ba (He.ba (He.ba (He.ba (He.ba (He.ba (He.ba (He.ba (He.ba (He.ba (He.ba (He.ba (He.ba (He.ba (He.ba (He.ba (He.ba (He.ba (He.ba (He.ba (He.ba (He.ba (He.ba (He.ba (He.ba (He.ba (He.ba (He.ba (He.ba (He.ba (He.ba (He.ba (He.ba (He.ba (He.ba (He.ba (He.ba (He.ba (He.ba (He.ba (He.ba (He.ba (He.ba (He.ba (He.ba (He.ba (He.ba (He.ba (He.ba (He.ba (He.ba (He.ba (He.ba (He.ba (He.ba (He.ba (He.ba (He.ba (He.ba (He.ba (He.ba (He.ba (He.ba (He.ba (He.ba (He.ba (He.ba (He.ba (He.ba (He.ba (He.ba (He.ba (He.ba (He.ba (He.ba (He.ba (He.ba (He.ba (He.ba (He.ba (He.ba (He.ba (He.ba (He.ba (He.ba (He.ba (He.ba (He.ba (He.ba (He.ba (He.ba (He.ba (He.ba (He.ba (He.ba (He.ba (He.ba (He.ba (He.ba (He.ba (He.ba (He.ba (He.ba (He.ba (He.ba T.x).2).2).2).2).2).2).2).2).2).2).2).2).2).2).2).2).2).2).2).2).2).2).2).2).2).2).2).2).2).2).2).2).2).2).2).2).2).2).2).2).2).2).2).2).2).2).2).2).2).2).2).2).2).2).2).2).2).2).2).2).2).2).2).2).2).2).2).2).2).2).2).2).2).2).2).2).2).2).2).2).2).2).2).2).2).2).2).2).2).2).2).2).2).2).2).2).2).2).2).2).2).2).2).2).2).1
theorem Tx.kx_NoRow_NoRule (T : Tx K mg) : PySem.W.kitOne K (.ref (He.ga K "NoRow")) (.ref (He.ga K "NoRule")) = some false := PL.kitX_ok (He.ba (He.ba (He.ba (He.ba (He.ba (He.ba (He.ba (He.ba (He.ba (He.ba (He.ba (He.ba (He.ba (He.ba (He.ba (He.ba (He.ba (He.ba (He.ba (He.ba (He.ba (He.ba (He.ba (He.ba (He.ba (He.ba (He.ba (He.ba (He.ba (He.ba (He.ba (He.ba (He.ba (He.ba (He.ba (He.ba (He.ba (He.ba (He.ba (He.ba (He.ba (He.ba (He.ba (He.ba (He.ba (He.ba (He.ba (He.ba (He.ba (He.ba (He.ba (He.ba (He.ba (He.ba (He.ba (He.ba (He.ba (He.ba (He.ba (He.ba (He.ba (He.ba (He.ba (He.ba (He.ba (He.ba (He.ba (He.ba (He.ba (He.ba (He.ba (He.ba (He.ba (He.ba (He.ba (He.ba (He.ba (He.ba (He.ba (He.ba (He.ba (He.ba (He.ba (He.ba (He.ba (He.ba (He.ba (He.ba (He.ba (He.ba (He.ba (He.ba (He.ba (He.ba (He.ba (He.ba (He.ba (He.ba (He.ba (He.ba (He.ba (He.ba (He.ba (He.ba (He.ba (He.ba (He.ba T.x).2).2).2).2).2).2).2).2).2).2).2).2).2).2).2).2).2).2).2).2).2).2).2).2).2).2).2).2).2).2).2).2).2).2).2).2).2).2).2).2).2).2).2).2).2).2).2).2).2).2).2).2).2).2).2).2).2).2).2).2).2).2).2).2).2).2).2).2).2).2).2).2).2).2).2).2).2).2).2).2).2).2).2).2).2).2).2).2).2).2).2).2).2).2).2).2).2).2).2).2).2).2).2).2).2).2).1
theorem Tx.kx_NoRow_NoText (T : Tx K mg) : PySem.W.kitOne K (.ref (He.ga K "NoRow")) (.ref (He.ga K "NoText")) = some false := PL.kitX_ok (He.ba (He.ba (He.ba (He.ba (He.ba (He.ba (He.ba (He.ba (He.ba (He.ba (He.ba (He.ba (He.ba (He.ba (He.ba (He.ba (He.ba (He.ba (He.ba (He.ba (He.ba (He.ba (He.ba (He.ba (He.ba (He.ba (He.ba (He.ba (He.ba (He.ba (He.ba (He.ba (He.ba (He.ba (He.ba (He.ba (He.ba (He.ba (He.ba (He.ba (He.ba (He.ba (He.ba (He.ba (He.ba (He.ba (He.ba (He.ba (He.ba (He.ba (He.ba (He.ba (He.ba (He.ba (He.ba (He.ba (He.ba (He.ba (He.ba (He.ba (He.ba (He.ba (He.ba (He.ba (He.ba (He.ba (He.ba (He.ba (He.ba (He.ba (He.ba (He.ba (He.ba (He.ba (He.ba (He.ba (He.ba (He.ba (He.ba (He.ba (He.ba (He.ba (He.ba (He.ba (He.ba (He.ba (He.ba (He.ba (He.ba (He.ba (He.ba (He.ba (He.ba (He.ba (He.ba (He.ba (He.ba (He.ba (He.ba (He.ba (He.ba (He.ba (He.ba (He.ba (He.ba (He.ba (He.ba (He.ba T.x).2).2).2).2).2).2).2).2).2).2).2).2).2).2).2).2).2).2).2).2).2).2).2).2).2).2).2).2).2).2).2).2).2).2).2).2).2).2).2).2).2).2).2).2).2).2).2).2).2).2).2).2).2).2).2).2).2).2).2).2).2).2).2).2).2).2).2).2).2).2).2).2).2).2).2).2).2).2).2).2).2).2).2).2).2).2).2).2).2).2).2).2).2).2).2).2).2).2).2).2).2).2).2).2).2).2).2).1
theorem Tx.kx_NoRow_NoWeighing (T : Tx K mg) : PySem.W.kitOne K (.ref (He.ga K "NoRow")) (.ref (He.ga K "NoWeighing")) = some false := PL.kitX_ok (He.ba (He.ba (He.ba (He.ba (He.ba (He.ba (He.ba (He.ba (He.ba (He.ba (He.ba (He.ba (He.ba (He.ba (He.ba (He.ba (He.ba (He.ba (He.ba (He.ba (He.ba (He.ba (He.ba (He.ba (He.ba (He.ba (He.ba (He.ba (He.ba (He.ba (He.ba (He.ba (He.ba (He.ba (He.ba (He.ba (He.ba (He.ba (He.ba (He.ba (He.ba (He.ba (He.ba (He.ba (He.ba (He.ba (He.ba (He.ba (He.ba (He.ba (He.ba (He.ba (He.ba (He.ba (He.ba (He.ba (He.ba (He.ba (He.ba (He.ba (He.ba (He.ba (He.ba (He.ba (He.ba (He.ba (He.ba (He.ba (He.ba (He.ba (He.ba (He.ba (He.ba (He.ba (He.ba (He.ba (He.ba (He.ba (He.ba (He.ba (He.ba (He.ba (He.ba (He.ba (He.ba (He.ba (He.ba (He.ba (He.ba (He.ba (He.ba (He.ba (He.ba (He.ba (He.ba (He.ba (He.ba (He.ba (He.ba (He.ba (He.ba (He.ba (He.ba (He.ba (He.ba (He.ba (He.ba (He.ba (He.ba T.x).2).2).2).2).2).2).2).2).2).2).2).2).2).2).2).2).2).2).2).2).2).2).2).2).2).2).2).2).2).2).2).2).2).2).2).2).2).2).2).2).2).2).2).2).2).2).2).2).2).2).2).2).2).2).2).2).2).2).2).2).2).2).2).2).2).2).2).2).2).2).2).2).2).2).2).2).2).2).2).2).2).2).2).2).2).2).2).2).2).2).2).2).2).2).2).2).2).2).2).2).2).2).2).2).2).2).2).2).1
theorem Tx.kx_NoRow_Over (T : Tx K mg) : PySem.W.kitOne K (.ref (He.ga K "NoRow")) (.ref (He.ga K "Over")) = some false := PL.kitX_ok (He.ba (He.ba (He.ba (He.ba (He.ba (He.ba (He.ba (He.ba (He.ba (He.ba (He.ba (He.ba (He.ba (He.ba (He.ba (He.ba (He.ba (He.ba (He.ba (He.ba (He.ba (He.ba (He.ba (He.ba (He.ba (He.ba (He.ba (He.ba (He.ba (He.ba (He.ba (He.ba (He.ba (He.ba (He.ba (He.ba (He.ba (He.ba (He.ba (He.ba (He.ba (He.ba (He.ba (He.ba (He.ba (He.ba (He.ba (He.ba (He.ba (He.ba (He.ba (He.ba (He.ba (He.ba (He.ba (He.ba (He.ba (He.ba (He.ba (He.ba (He.ba (He.ba (He.ba (He.ba (He.ba (He.ba (He.ba (He.ba (He.ba (He.ba (He.ba (He.ba (He.ba (He.ba (He.ba (He.ba (He.ba (He.ba (He.ba (He.ba (He.ba (He.ba (He.ba (He.ba (He.ba (He.ba (He.ba (He.ba (He.ba (He.ba (He.ba (He.ba (He.ba (He.ba (He.ba (He.ba (He.ba (He.ba (He.ba (He.ba (He.ba (He.ba (He.ba (He.ba (He.ba (He.ba (He.ba (He.ba (He.ba (He.ba T.x).2).2).2).2).2).2).2).2).2).2).2).2).2).2).2).2).2).2).2).2).2).2).2).2).2).2).2).2).2).2).2).2).2).2).2).2).2).2).2).2).2).2).2).2).2).2).2).2).2).2).2).2).2).2).2).2).2).2).2).2).2).2).2).2).2).2).2).2).2).2).2).2).2).2).2).2).2).2).2).2).2).2).2).2).2).2).2).2).2).2).2).2).2).2).2).2).2).2).2).2).2).2).2).2).2).2).2).2).2).1
theorem Tx.kx_NoRow_SearchError (T : Tx K mg) : PySem.W.kitOne K (.ref (He.ga K "NoRow")) (.ref (He.ga K "SearchError")) = some true := PL.kitX_ok (He.ba (He.ba (He.ba (He.ba (He.ba (He.ba (He.ba (He.ba (He.ba (He.ba (He.ba (He.ba (He.ba (He.ba (He.ba (He.ba (He.ba (He.ba (He.ba (He.ba (He.ba (He.ba (He.ba (He.ba (He.ba (He.ba (He.ba (He.ba (He.ba (He.ba (He.ba (He.ba (He.ba (He.ba (He.ba (He.ba (He.ba (He.ba (He.ba (He.ba (He.ba (He.ba (He.ba (He.ba (He.ba (He.ba (He.ba (He.ba (He.ba (He.ba (He.ba (He.ba (He.ba (He.ba (He.ba (He.ba (He.ba (He.ba (He.ba (He.ba (He.ba (He.ba (He.ba (He.ba (He.ba (He.ba (He.ba (He.ba (He.ba (He.ba (He.ba (He.ba (He.ba (He.ba (He.ba (He.ba (He.ba (He.ba (He.ba (He.ba (He.ba (He.ba (He.ba (He.ba (He.ba (He.ba (He.ba (He.ba (He.ba (He.ba (He.ba (He.ba (He.ba (He.ba (He.ba (He.ba (He.ba (He.ba (He.ba (He.ba (He.ba (He.ba (He.ba (He.ba (He.ba (He.ba (He.ba (He.ba (He.ba (He.ba (He.ba T.x).2).2).2).2).2).2).2).2).2).2).2).2).2).2).2).2).2).2).2).2).2).2).2).2).2).2).2).2).2).2).2).2).2).2).2).2).2).2).2).2).2).2).2).2).2).2).2).2).2).2).2).2).2).2).2).2).2).2).2).2).2).2).2).2).2).2).2).2).2).2).2).2).2).2).2).2).2).2).2).2).2).2).2).2).2).2).2).2).2).2).2).2).2).2).2).2).2).2).2).2).2).2).2).2).2).2).2).2).2).2).1
theorem Tx.kx_NoRow_ValueError (T : Tx K mg) : PySem.W.kitOne K (.ref (He.ga K "NoRow")) (.type "ValueError") = some true := PL.kitX_ok (He.ba (He.ba (He.ba (He.ba (He.ba (He.ba (He.ba (He.ba (He.ba (He.ba (He.ba (He.ba (He.ba (He.ba (He.ba (He.ba (He.ba (He.ba (He.ba (He.ba (He.ba (He.ba (He.ba (He.ba (He.ba (He.ba (He.ba (He.ba (He.ba (He.ba (He.ba (He.ba (He.ba (He.ba (He.ba (He.ba (He.ba (He.ba (He.ba (He.ba (He.ba (He.ba (He.ba (He.ba (He.ba (He.ba (He.ba (He.ba (He.ba (He.ba (He.ba (He.ba (He.ba (He.ba (He.ba (He.ba (He.ba (He.ba (He.ba (He.ba (He.ba (He.ba (He.ba (He.ba (He.ba (He.ba (He.ba (He.ba (He.ba (He.ba (He.ba (He.ba (He.ba (He.ba (He.ba (He.ba (He.ba (He.ba (He.ba (He.ba (He.ba (He.ba (He.ba (He.ba (He.ba (He.ba (He.ba (He.ba (He.ba (He.ba (He.ba (He.ba (He.ba (He.ba (He.ba (He.ba (He.ba (He.ba (He.ba (He.ba (He.ba (He.ba (He.ba (He.ba (He.ba (He.ba (He.ba (He.ba (He.ba (He.ba (He.ba (He.ba T.x).2).2).2).2).2).2).2).2).2).2).2).2).2).2).2).2).2).2).2).2).2).2).2).2).2).2).2).2).2).2).2).2).2).2).2).2).2).2).2).2).2).2).2).2).2).2).2).2).2).2).2).2).2).2).2).2).2).2).2).2).2).2).2).2).2).2).2).2).2).2).2).2).2).2).2).2).2).2).2).2).2).2).2).2).2).2).2).2).2).2).2).2).2).2).2).2).2).2).2).2).2).2).2).2).2).2).2).2).2).2).2).1
theorem Tx.ef_NoRule (T : Tx K mg) : PL.ExcF K mg "NoRule" := PL.excF_ok (He.ba (He.ba (He.ba (He.ba (He.ba (He.ba (He.ba (He.ba (He.ba (He.ba (He.ba (He.ba (He.ba (He.ba (He.ba (He.ba (He.ba (He.ba (He.ba (He.ba (He.ba (He.ba (He.ba (He.ba (He.ba (He.ba (He.ba (He.ba (He.ba (He.ba (He.ba (He.ba (He.ba (He.ba (He.ba (He.ba (He.ba (He.ba (He.ba (He.ba (He.ba (He.ba (He.ba (He.ba (He.ba (He.ba (He.ba (He.ba (He.ba (He.ba (He.ba (He.ba (He.ba (He.ba (He.ba (He.ba (He.ba (He.ba (He.ba (He.ba (He.ba (He.ba (He.ba (He.ba (He.ba (He.ba (He.ba (He.ba (He.ba (He.ba (He.ba (He.ba (He.ba (He.ba (He.ba (He.ba (He.ba (He.ba (He.ba (He.ba (He.ba (He.ba (He.ba (He.ba (He.ba (He.ba (He.ba (He.ba (He.ba (He.ba (He.ba (He.ba (He.ba (He.ba (He.ba (He.ba (He.ba (He.ba (He.ba (He.ba (He.ba (He.ba (He.ba (He.ba (He.ba (He.ba (He.ba (He.ba (He.ba (He.ba (He.ba (He.ba (He.ba T.x).2).2).2).2).2).2).2).2).2).2).2).2).2).2).2).2).2).2).2).2).2).2).2).2).2).2).2).2).2).2).2).2).2).2).2).2).2).2).2).2).2).2).2).2).2).2).2).2).2).2).2).2).2).2).2).2).2).2).2).2).2).2).2).2).2).2).2).2).2).2).2).2).2).2).2).2).2).2).2).2).2).2).2).2).2).2).2).2).2).2).2).2).2).2).2).2).2).2).2).2).2).2).2).2).2).2).2).2).2).2).2).2).1 T.g_NoRule
theorem Tx.ec_NoRule (T : Tx K mg) : L2.ExcC K (He.ga K "NoRule") := PL.excC_ok (He.ba (He.ba (He.ba (He.ba (He.ba (He.ba (He.ba (He.ba (He.ba (He.ba (He.ba (He.ba (He.ba (He.ba (He.ba (He.ba (He.ba (He.ba (He.ba (He.ba (He.ba (He.ba (He.ba (He.ba (He.ba (He.ba (He.ba (He.ba (He.ba (He.ba (He.ba (He.ba (He.ba (He.ba (He.ba (He.ba (He.ba (He.ba (He.ba (He.ba (He.ba (He.ba (He.ba (He.ba (He.ba (He.ba (He.ba (He.ba (He.ba (He.ba (He.ba (He.ba (He.ba (He.ba (He.ba (He.ba (He.ba (He.ba (He.ba (He.ba (He.ba (He.ba (He.ba (He.ba (He.ba (He.ba (He.ba (He.ba (He.ba (He.ba (He.ba (He.ba (He.ba (He.ba (He.ba (He.ba (He.ba (He.ba (He.ba (He.ba (He.ba (He.ba (He.ba (He.ba (He.ba (He.ba (He.ba (He.ba (He.ba (He.ba (He.ba (He.ba (He.ba (He.ba (He.ba (He.ba (He.ba (He.ba (He.ba (He.ba (He.ba (He.ba (He.ba (He.ba (He.ba (He.ba (He.ba (He.ba (He.ba (He.ba (He.ba (He.ba (He.ba (He.ba T.x).2).2).2).2).2).2).2).2).2).2).2).2).2).2).2).2).2).2).2).2).2).2).2).2).2).2).2).2).2).2).2).2).2).2).2).2).2).2).2).2).2).2).2).2).2).2).2).2).2).2).2).2).2).2).2).2).2).2).2).2).2).2).2).2).2).2).2).2).2).2).2).2).2).2).2).2).2).2).2).2).2).2).2).2).2).2).2).2).2).2).2).2).2).2).2).2).2).2).2).2).2).2).2).2).2).2).2).2).2).2).2).2).2).1
theorem Tx.em_NoRule_SearchError (T : Tx K mg) : PySem.W.exmOne K (.ref (He.ga K "NoRule")) (.ref (He.ga K "SearchError")) = some true := PL.exm_ok (He.ba (He.ba (He.ba (He.ba (He.ba (He.ba (He.ba (He.ba (He.ba (He.ba (He.ba (He.ba (He.ba (He.ba (He.ba (He.ba (He.ba (He.ba (He.ba (He.ba (He.ba (He.ba (He.ba (He.ba (He.ba (He.ba (He.ba (He.ba (He.ba (He.ba (He.ba (He.ba (He.ba (He.ba (He.ba (He.ba (He.ba (He.ba (He.ba (He.ba (He.ba (He.ba (He.ba (He.ba (He.ba (He.ba (He.ba (He.ba (He.ba (He.ba (He.ba (He.ba (He.ba (He.ba (He.ba (He.ba (He.ba (He.ba (He.ba (He.ba (He.ba (He.ba (He.ba (He.ba (He.ba (He.ba (He.ba (He.ba (He.ba (He.ba (He.ba (He.ba (He.ba (He.ba (He.ba (He.ba (He.ba (He.ba (He.ba (He.ba (He.ba (He.ba (He.ba (He.ba (He.ba (He.ba (He.ba (He.ba (He.ba (He.ba (He.ba (He.ba (He.ba (He.ba (He.ba (He.ba (He.ba (He.ba (He.ba (He.ba (He.ba (He.ba (He.ba (He.ba (He.ba (He.ba (He.ba (He.ba (He.ba (He.ba (He.ba (He.ba (He.ba (He.ba (He.ba T.x).2).2).2).2).2).2).2).2).2).2).2).2).2).2).2).2).2).2).2).2).2).2).2).2).2).2).2).2).2).2).2).2).2).2).2).2).2).2).2).2).2).2).2).2).2).2).2).2).2).2).2).2).2).2).2).2).2).2).2).2).2).2).2).2).2).2).2).2).2).2).2).2).2).2).2).2).2).2).2).2).2).2).2).2).2).2).2).2).2).2).2).2).2).2).2).2).2).2).2).2).2).2).2).2).2).2).2).2).2).2).2).2).2).2).1
theorem Tx.kx_NoRule_Lacking (T : Tx K mg) : PySem.W.kitOne K (.ref (He.ga K "NoRule")) (.ref (He.ga K "Lacking")) = some false := PL.kitX_ok (He.ba (He.ba (He.ba (He.ba (He.ba (He.ba (He.ba (He.ba (He.ba (He.ba (He.ba (He.ba (He.ba (He.ba (He.ba (He.ba (He.ba (He.ba (He.ba (He.ba (He.ba (He.ba (He.ba (He.ba (He.ba (He.ba (He.ba (He.ba (He.ba (He.ba (He.ba (He.ba (He.ba (He.ba (He.ba (He.ba (He.ba (He.ba (He.ba (He.ba (He.ba (He.ba (He.ba (He.ba (He.ba (He.ba (He.ba (He.ba (He.ba (He.ba (He.ba (He.ba (He.ba (He.ba (He.ba (He.ba (He.ba (He.ba (He.ba (He.ba (He.ba (He.ba (He.ba (He.ba (He.ba (He.ba (He.ba (He.ba (He.ba (He.ba (He.ba (He.ba (He.ba (He.ba (He.ba (He.ba (He.ba (He.ba (He.ba (He.ba (He.ba (He.ba (He.ba (He.ba (He.ba (He.ba (He.ba (He.ba (He.ba (He.ba (He.ba (He.ba (He.ba (He.ba (He.ba (He.ba (He.ba (He.ba (He.ba (He.ba (He.ba (He.ba (He.ba (He.ba (He.ba (He.ba (He.ba (He.ba (He.ba (He.ba (He.ba (He.ba (He.ba (He.ba (He.ba (He.ba T.x).2).2).2).2).2).2).2).2).2).2).2).2).2).2).2).2).2).2).2).2).2).2).2).2).2).2).2).2).2).2).2).2).2).2).2).2).2).2).2).2).2).2).2).2).2).2).2).2).2).2).2).2).2).2).2).2).2).2).2).2).2).2).2).2).2).2).2).2).2).2).2).2).2).2).2).2).2).2).2).2).2).2).2).2).2).2).2).2).2).2).2).2).2).2).2).2).2).2).2).2).2).2).2).2).2).2).2).2).2).2).2).2).2).2).2).1
theorem Tx.kx_NoRule_NoAsking (T : Tx K mg) : PySem.W.kitOne K (.ref (He.ga K "NoRule")) (.ref (He.ga K "NoAsking")) = some false := PL.kitX_ok (He.ba (He.ba (He.ba (He.ba (He.ba (He.ba (He.ba (He.ba (He.ba (He.ba (He.ba (He.ba (He.ba (He.ba (He.ba (He.ba (He.ba (He.ba (He.ba (He.ba (He.ba (He.ba (He.ba (He.ba (He.ba (He.ba (He.ba (He.ba (He.ba (He.ba (He.ba (He.ba (He.ba (He.ba (He.ba (He.ba (He.ba (He.ba (He.ba (He.ba (He.ba (He.ba (He.ba (He.ba (He.ba (He.ba (He.ba (He.ba (He.ba (He.ba (He.ba (He.ba (He.ba (He.ba (He.ba (He.ba (He.ba (He.ba (He.ba (He.ba (He.ba (He.ba (He.ba (He.ba (He.ba (He.ba (He.ba (He.ba (He.ba (He.ba (He.ba (He.ba (He.ba (He.ba (He.ba (He.ba (He.ba (He.ba (He.ba (He.ba (He.ba (He.ba (He.ba (He.ba (He.ba (He.ba (He.ba (He.ba (He.ba (He.ba (He.ba (He.ba (He.ba (He.ba (He.ba (He.ba (He.ba (He.ba (He.ba (He.ba (He.ba (He.ba (He.ba (He.ba (He.ba (He.ba (He.ba (He.ba (He.ba (He.ba (He.ba (He.ba (He.ba (He.ba (He.ba (He.ba (He.ba T.x).2).2).2).2).2).2).2).2).2).2).2).2).2).2).2).2).2).2).2).2).2).2).2).2).2).2).2).2).2).2).2).2).2).2).2).2).2).2).2).2).2).2).2).2).2).2).2).2).2).2).2).2).2).2).2).2).2).2).2).2).2).2).2).2).2).2).2).2).2).2).2).2).2).2).2).2).2).2).2).2).2).2).2).2).2).2).2).2).2).2).2).2).2).2).2).2).2).2).2).2).2).2).2).2).2).2).2).2).2).2).2).2).2).2).2).2).1
theorem Tx.kx_NoRule_NoMake (T : Tx K mg) : PySem.W.kitOne K (.ref (He.ga K "NoRule")) (.ref (He.ga K "NoMake")) = some false := PL.kitX_ok (He.ba (He.ba (He.ba (He.ba (He.ba (He.ba (He.ba (He.ba (He.ba (He.ba (He.ba (He.ba (He.ba (He.ba (He.ba (He.ba (He.ba (He.ba (He.ba (He.ba (He.ba (He.ba (He.ba (He.ba (He.ba (He.ba (He.ba (He.ba (He.ba (He.ba (He.ba (He.ba (He.ba (He.ba (He.ba (He.ba (He.ba (He.ba (He.ba (He.ba (He.ba (He.ba (He.ba (He.ba (He.ba (He.ba (He.ba (He.ba (He.ba (He.ba (He.ba (He.ba (He.ba (He.ba (He.ba (He.ba (He.ba (He.ba (He.ba (He.ba (He.ba (He.ba (He.ba (He.ba (He.ba (He.ba (He.ba (He.ba (He.ba (He.ba (He.ba (He.ba (He.ba (He.ba (He.ba (He.ba (He.ba (He.ba (He.ba (He.ba (He.ba (He.ba (He.ba (He.ba (He.ba (He.ba (He.ba (He.ba (He.ba (He.ba (He.ba (He.ba (He.ba (He.ba (He.ba (He.ba (He.ba (He.ba (He.ba (He.ba (He.ba (He.ba (He.ba (He.ba (He.ba (He.ba (He.ba (He.ba (He.ba (He.ba (He.ba (He.ba (He.ba (He.ba (He.ba (He.ba (He.ba (He.ba T.x).2).2).2).2).2).2).2).2).2).2).2).2).2).2).2).2).2).2).2).2).2).2).2).2).2).2).2).2).2).2).2).2).2).2).2).2).2).2).2).2).2).2).2).2).2).2).2).2).2).2).2).2).2).2).2).2).2).2).2).2).2).2).2).2).2).2).2).2).2).2).2).2).2).2).2).2).2).2).2).2).2).2).2).2).2).2).2).2).2).2).2).2).2).2).2).2).2).2).2).2).2).2).2).2).2).2).2).2).2).2).2).2).2).2).2).2).2).1
theorem Tx.kx_NoRule_NoMany (T : Tx K mg) : PySem.W.kitOne K (.ref (He.ga K "NoRule")) (.ref (He.ga K "NoMany")) = some false := PL.kitX_ok (He.ba (He.ba (He.ba (He.ba (He.ba (He.ba (He.ba (He.ba (He.ba (He.ba (He.ba (He.ba (He.ba (He.ba (He.ba (He.ba (He.ba (He.ba (He.ba (He.ba (He.ba (He.ba (He.ba (He.ba (He.ba (He.ba (He.ba (He.ba (He.ba (He.ba (He.ba (He.ba (He.ba (He.ba (He.ba (He.ba (He.ba (He.ba (He.ba (He.ba (He.ba (He.ba (He.ba (He.ba (He.ba (He.ba (He.ba (He.ba (He.ba (He.ba (He.ba (He.ba (He.ba (He.ba (He.ba (He.ba (He.ba (He.ba (He.ba (He.ba (He.ba (He.ba (He.ba (He.ba (He.ba (He.ba (He.ba (He.ba (He.ba (He.ba (He.ba (He.ba (He.ba (He.ba (He.ba (He.ba (He.ba (He.ba (He.ba (He.ba (He.ba (He.ba (He.ba (He.ba (He.ba (He.ba (He.ba (He.ba (He.ba (He.ba (He.ba (He.ba (He.ba (He.ba (He.ba (He.ba (He.ba (He.ba (He.ba (He.ba (He.ba (He.ba (He.ba (He.ba (He.ba (He.ba (He.ba (He.ba (He.ba (He.ba (He.ba (He.ba (He.ba (He.ba (He.ba (He.ba (He.ba (He.ba (He.ba T.x).2).2).2).2).2).2).2).2).2).2).2).2).2).2).2).2).2).2).2).2).2).2).2).2).2).2).2).2).2).2).2).2).2).2).2).2).2).2).2).2).2).2).2).2).2).2).2).2).2).2).2).2).2).2).2).2).2).2).2).2).2).2).2).2).2).2).2).2).2).2).2).2).2).2).2).2).2).2).2).2).2).2).2).2).2).2).2).2).2).2).2).2).2).2).2).2).2).2).2).2).2).2).2).2).2).2).2).2).2).2).2).2).2).2).2).2).2).2).1
theorem Tx.kx_NoRule_NoName (T : Tx K mg) : PySem.W.kitOne K (.ref (He.ga K "NoRule")) (.ref (He.ga K "NoName")) = some false := PL.kitX_ok (He.ba (He.ba (He.ba (He.ba (He.ba (He.ba (He.ba (He.ba (He.ba (He.ba (He.ba (He.ba (He.ba (He.ba (He.ba (He.ba (He.ba (He.ba (He.ba (He.ba (He.ba (He.ba (He.ba (He.ba (He.ba (He.ba (He.ba (He.ba (He.ba (He.ba (He.ba (He.ba (He.ba (He.ba (He.ba (He.ba (He.ba (He.ba (He.ba (He.ba (He.ba (He.ba (He.ba (He.ba (He.ba (He.ba (He.ba (He.ba (He.ba (He.ba (He.ba (He.ba (He.ba (He.ba (He.ba (He.ba (He.ba (He.ba (He.ba (He.ba (He.ba (He.ba (He.ba (He.ba (He.ba (He.ba (He.ba (He.ba (He.ba (He.ba (He.ba (He.ba (He.ba (He.ba (He.ba (He.ba (He.ba (He.ba (He.ba (He.ba (He.ba (He.ba (He.ba (He.ba (He.ba (He.ba (He.ba (He.ba (He.ba (He.ba (He.ba (He.ba (He.ba (He.ba (He.ba (He.ba (He.ba (He.ba (He.ba (He.ba (He.ba (He.ba (He.ba (He.ba (He.ba (He.ba (He.ba (He.ba (He.ba (He.ba (He.ba (He.ba (He.ba (He.ba (He.ba (He.ba (He.ba (He.ba (He.ba (He.ba T.x).2).2).2).2).2).2).2).2).2).2).2).2).2).2).2).2).2).2).2).2).2).2).2).2).2).2).2).2).2).2).2).2).2).2).2).2).2).2).2).2).2).2).2).2).2).2).2).2).2).2).2).2).2).2).2).2).2).2).2).2).2).2).2).2).2).2).2).2).2).2).2).2).2).2).2).2).2).2).2).2).2).2).2).2).2).2).2).2).2).2).2).2).2).2).2).2).2).2).2).2).2).2).2).2).2).2).2).2).2).2).2).2).2).2).2).2).2).2).2).1
theorem Tx.kx_NoRule_NoPath (T : Tx K mg) : PySem.W.kitOne K (.ref (He.ga K "NoRule")) (.ref (He.ga K "NoPath")) = some false := PL.kitX_ok (He.ba (He.ba (He.ba (He.ba (He.ba (He.ba (He.ba (He.ba (He.ba (He.ba (He.ba (He.ba (He.ba (He.ba (He.ba (He.ba (He.ba (He.ba (He.ba (He.ba (He.ba (He.ba (He.ba (He.ba (He.ba (He.ba (He.ba (He.ba (He.ba (He.ba (He.ba (He.ba (He.ba (He.ba (He.ba (He.ba (He.ba (He.ba (He.ba (He.ba (He.ba (He.ba (He.ba (He.ba (He.ba (He.ba (He.ba (He.ba (He.ba (He.ba (He.ba (He.ba (He.ba (He.ba (He.ba (He.ba (He.ba (He.ba (He.ba (He.ba (He.ba (He.ba (He.ba (He.ba (He.ba (He.ba (He.ba (He.ba (He.ba (He.ba (He.ba (He.ba (He.ba (He.ba (He.ba (He.ba (He.ba (He.ba (He.ba (He.ba (He.ba (He.ba (He.ba (He.ba (He.ba (He.ba (He.ba (He.ba (He.ba (He.ba (He.ba (He.ba (He.ba (He.ba (He.ba (He.ba (He.ba (He.ba (He.ba (He.ba (He.ba (He.ba (He.ba (He.ba (He.ba (He.ba (He.ba (He.ba (He.ba (He.ba (He.ba (He.ba (He.ba (He.ba (He.ba (He.ba (He.ba (He.ba (He.ba (He.ba (He.ba T.x).2).2).2).2).2).2).2).2).2).2).2).2).2).2).2).2).2).2).2).2).2).2).2).2).2).2).2).2).2).2).2).2).2).2).2).2).2).2).2).2).2).2).2).2).2).2).2).2).2).2).2).2).2).2).2).2).2).2).2).2).2).2).2).2).2).2).2).2).2).2).2).2).2).2).2).2).2).2).2).2).2).2).2).2).2).2).2).2).2).2).2).2).2).2).2).2).2).2).2).2).2).2).2).2).2).2).2).2).2).2).2).2).2).2).2).2).2).2).2).2).1
theorem Tx.kx_NoRule_NoRow (T : Tx K mg) : PySem.W.kitOne K (.ref (He.ga K "NoRule")) (.ref (He.ga K "NoRow")) = some false := PL.kitX_ok (He.ba (He.ba (He.ba (He.ba (He.ba (He.ba (He.ba (He.ba (He.ba (He.ba (He.ba (He.ba (He.ba (He.ba (He.ba (He.ba (He.ba (He.ba (He.ba (He.ba (He.ba (He.ba (He.ba (He.ba (He.ba (He.ba (He.ba (He.ba (He.ba (He.ba (He.ba (He.ba (He.ba (He.ba (He.ba (He.ba (He.ba (He.ba (He.ba (He.ba (He.ba (He.ba (He.ba (He.ba (He.ba (He.ba (He.ba (He.ba (He.ba (He.ba (He.ba (He.ba (He.ba (He.ba (He.ba (He.ba (He.ba (He.ba (He.ba (He.ba (He.ba (He.ba (He.ba (He.ba (He.ba (He.ba (He.ba (He.ba (He.ba (He.ba (He.ba (He.ba (He.ba (He.ba (He.ba (He.ba (He.ba (He.ba (He.ba (He.ba (He.ba (He.ba (He.ba (He.ba (He.ba (He.ba (He.ba (He.ba (He.ba (He.ba (He.ba (He.ba (He.ba (He.ba (He.ba (He.ba (He.ba (He.ba (He.ba (He.ba (He.ba (He.ba (He.ba (He.ba (He.ba (He.ba (He.ba (He.ba (He.ba (He.ba (He.ba (He.ba (He.ba (He.ba (He.ba (He.ba (He.ba (He.ba (He.ba (He.ba (He.ba (He.ba T.x).2).2).2).2).2).2).2).2).2).2).2).2).2).2).2).2).2).2).2).2).2).2).2).2).2).2).2).2).2).2).2).2).2).2).2).2).2).2).2).2).2).2).2).2).2).2).2).2).2).2).2).2).2).2).2).2).2).2).2).2).2).2).2).2).2).2).2).2).2).2).2).2).2).2).2).2).2).2).2).2).2).2).2).2).2).2).2).2).2).2).2).2).2).2).2).2).2).2).2).2).2).2).2).2).2).2).2).2).2).2).2).2).2).2).2).2).2).2).2).2).2).1
theorem Tx.kx_NoRule_NoRule (T : Tx K mg) : PySem.W.kitOne K (.ref (He.ga K "NoRule")) (.ref (He.ga K "NoRule")) = some true := PL.kitX_ok (He.ba (He.ba (He.ba (He.ba (He.ba (He.ba (He.ba (He.ba (He.ba (He.ba (He.ba (He.ba (He.ba (He.ba (He.ba (He.ba (He.ba (He.ba (He.ba (He.ba (He.ba (He.ba (He.ba (He.ba (He.ba (He.ba (He.ba (He.ba (He.ba (He.ba (He.ba (He.ba (He.ba (He.ba (He.ba (He.ba (He.ba (He.ba (He.ba (He.ba (He.ba (He.ba (He.ba (He.ba (He.ba (He.ba (He.ba (He.ba (He.ba (He.ba (He.ba (He.ba (He.ba (He.ba (He.ba (He.ba (He.ba (He.ba (He.ba (He.ba (He.ba (He.ba (He.ba (He.ba (He.ba (He.ba (He.ba (He.ba (He.ba (He.ba (He.ba (He.ba (He.ba (He.ba (He.ba (He.ba (He.ba (He.ba (He.ba (He.ba (He.ba (He.ba (He.ba (He.ba (He.ba (He.ba (He.ba (He.ba (He.ba (He.ba (He.ba (He.ba (He.ba (He.ba (He.ba (He.ba (He.ba (He.ba (He.ba (He.ba (He.ba (He.ba (He.ba (He.ba (He.ba (He.ba (He.ba (He.ba (He.ba (He.ba (He.ba (He.ba (He.ba (He.ba (He.ba (He.ba (He.ba (He.ba (He.ba (He.ba (He.ba (He.ba (He.ba T.x).2).2).2).2).2).2).2).2).2).2).2).2).2).2).2).2).2).2).2).2).2).2).2).2).2).2).2).2).2).2).2).2).2).2).2).2).2).2).2).2).2).2).2).2).2).2).2).2).2).2).2).2).2).2).2).2).2).2).2).2).2).2).2).2).2).2).2).2).2).2).2).2).2).2).2).2).2).2).2).2).2).2).2).2).2).2).2).2).2).2).2).2).2).2).2).2).2).2).2).2).2).2).2).2).2).2).2).2).2).2).2).2).2).2).2).2).2).2).2).2).2).2).1
theorem Tx.kx_NoRule_NoText (T : Tx K mg) : PySem.W.kitOne K (.ref (He.ga K "NoRule")) (.ref (He.ga K "NoText")) = some false := PL.kitX_ok (He.ba (He.ba (He.ba (He.ba (He.ba (He.ba (He.ba (He.ba (He.ba (He.ba (He.ba (He.ba (He.ba (He.ba (He.ba (He.ba (He.ba (He.ba (He.ba (He.ba (He.ba (He.ba (He.ba (He.ba (He.ba (He.ba (He.ba (He.ba (He.ba (He.ba (He.ba (He.ba (He.ba (He.ba (He.ba (He.ba (He.ba (He.ba (He.ba (He.ba (He.ba (He.ba (He.ba (He.ba (He.ba (He.ba (He.ba (He.ba (He.ba (He.ba (He.ba (He.ba (He.ba (He.ba (He.ba (He.ba (He.ba (He.ba (He.ba (He.ba (He.ba (He.ba (He.ba (He.ba (He.ba (He.ba (He.ba (He.ba (He.ba (He.ba (He.ba (He.ba (He.ba (He.ba (He.ba (He.ba (He.ba (He.ba (He.ba (He.ba (He.ba (He.ba (He.ba (He.ba (He.ba (He.ba (He.ba (He.ba (He.ba (He.ba (He.ba (He.ba (He.ba (He.ba (He.ba (He.ba (He.ba (He.ba (He.ba (He.ba (He.ba (He.ba (He.ba (He.ba (He.ba (He.ba (He.ba (He.ba (He.ba (He.ba (He.ba (He.ba (He.ba (He.ba (He.ba (He.ba (He.ba (He.ba (He.ba (He.ba (He.ba (He.ba (He.ba (He.ba T.x).2).2).2).2).2).2).2).2).2).2).2).2).2).2).2).2).2).2).2).2).2).2).2).2).2).2).2).2).2).2).2).2).2).2).2).2).2).2).2).2).2).2).2).2).2).2).2).2).2).2).2).2).2).2).2).2).2).2).2).2).2).2).2).2).2).2).2).2).2).2).2).2).2).2).2).2).2).2).2).2).2).2).2).2).2).2).2).2).2).2).2).2).2).2).2).2).2).2).2).2).2).2).2).2).2).2).2).2).2).2).2).2).2).2).2).2).2).2).2).2).2).2).2).1
theorem Tx.kx_NoRule_NoWeighing (T : Tx K mg) : PySem.W.kitOne K (.ref (He.ga K "NoRule")) (.ref (He.ga K "NoWeighing")) = some false := PL.kitX_ok (He.ba (He.ba (He.ba (He.ba (He.ba (He.ba (He.ba (He.ba (He.ba (He.ba (He.ba (He.ba (He.ba (He.ba (He.ba (He.ba (He.ba (He.ba (He.ba (He.ba (He.ba (He.ba (He.ba (He.ba (He.ba (He.ba (He.ba (He.ba (He.ba (He.ba (He.ba (He.ba (He.ba (He.ba (He.ba (He.ba (He.ba (He.ba (He.ba (He.ba (He.ba (He.ba (He.ba (He.ba (He.ba (He.ba (He.ba (He.ba (He.ba (He.ba (He.ba (He.ba (He.ba (He.ba (He.ba (He.ba (He.ba (He.ba (He.ba (He.ba (He.ba (He.ba (He.ba (He.ba (He.ba (He.ba (He.ba (He.ba (He.ba (He.ba (He.ba (He.ba (He.ba (He.ba (He.ba (He.ba (He.ba (He.ba (He.ba (He.ba (He.ba (He.ba (He.ba (He.ba (He.ba (He.ba (He.ba (He.ba (He.ba (He.ba (He.ba (He.ba (He.ba (He.ba (He.ba (He.ba (He.ba (He.ba (He.ba (He.ba (He.ba (He.ba (He.ba (He.ba (He.ba (He.ba (He.ba (He.ba (He.ba (He.ba (He.ba (He.ba (He.ba (He.ba (He.ba (He.ba (He.ba (He.ba (He.ba (He.ba (He.ba (He.ba (He.ba (He.ba (He.ba T.x).2).2).2).2).2).2).2).2).2).2).2).2).2).2).2).2).2).2).2).2).2).2).2).2).2).2).2).2).2).2).2).2).2).2).2).2).2).2).2).2).2).2).2).2).2).2).2).2).2).2).2).2).2).2).2).2).2).2).2).2).2).2).2).2).2).2).2).2).2).2).2).2).2).2).2).2).2).2).2).2).2).2).2).2).2).2).2).2).2).2).2).2).2).2).2).2).2).2).2).2).2).2).2).2).2).2).2).2).2).2).2).2).2).2).2).2).2).2).2).2).2).2).2).2).1
theorem Tx.kx_NoRule_Over (T : Tx K mg) : PySem.W.kitOne K (.ref (He.ga K "NoRule")) (.ref (He.ga K "Over")) = some false := PL.kitX_ok (He.ba (He.ba (He.ba (He.ba (He.ba (He.ba (He.ba (He.ba (He.ba (He.ba (He.ba (He.ba (He.ba (He.ba (He.ba (He.ba (He.ba (He.ba (He.ba (He.ba (He.ba (He.ba (He.ba (He.ba (He.ba (He.ba (He.ba (He.ba (He.ba (He.ba (He.ba (He.ba (He.ba (He.ba (He.ba (He.ba (He.ba (He.ba (He.ba (He.ba (He.ba (He.ba (He.ba (He.ba (He.ba (He.ba (He.ba (He.ba (He.ba (He.ba (He.ba (He.ba (He.ba (He.ba (He.ba (He.ba (He.ba (He.ba (He.ba (He.ba (He.ba (He.ba (He.ba (He.ba (He.ba (He.ba (He.ba (He.ba (He.ba (He.ba (He.ba (He.ba (He.ba (He.ba (He.ba (He.ba (He.ba (He.ba (He.ba (He.ba (He.ba (He.ba (He.ba (He.ba (He.ba (He.ba (He.ba (He.ba (He.ba (He.ba (He.ba (He.ba (He.ba (He.ba (He.ba (He.ba (He.ba (He.ba (He.ba (He.ba (He.ba (He.ba (He.ba (He.ba (He.ba (He.ba (He.ba (He.ba (He.ba (He.ba (He.ba (He.ba (He.ba (He.ba (He.ba (He.ba (He.ba (He.ba (He.ba (He.ba (He.ba (He.ba (He.ba (He.ba (He.ba (He.ba T.x).2).2).2).2).2).2).2).2).2).2).2).2).2).2).2).2).2).2).2).2).2).2).2).2).2).2).2).2).2).2).2).2).2).2).2).2).2).2).2).2).2).2).2).2).2).2).2).2).2).2).2).2).2).2).2).2).2).2).2).2).2).2).2).2).2).2).2).2).2).2).2).2).2).2).2).2).2).2).2).2).2).2).2).2).2).2).2).2).2).2).2).2).2).2).2).2).2).2).2).2).2).2).2).2).2).2).2).2).2).2).2).2).2).2).2).2).2).2).2).2).2).2).2).2).2).1
theorem Tx.kx_NoRule_SearchError (T : Tx K mg) : PySem.W.kitOne K (.ref (He.ga K "NoRule")) (.ref (He.ga K "SearchError")) = some true := PL.kitX_ok (He.ba (He.ba (He.ba (He.ba (He.ba (He.ba (He.ba (He.ba (He.ba (He.ba (He.ba (He.ba (He.ba (He.ba (He.ba (He.ba (He.ba (He.ba (He.ba (He.ba (He.ba (He.ba (He.ba (He.ba (He.ba (He.ba (He.ba (He.ba (He.ba (He.ba (He.ba (He.ba (He.ba (He.ba (He.ba (He.ba (He.ba (He.ba (He.ba (He.ba (He.ba (He.ba (He.ba (He.ba (He.ba (He.ba (He.ba (He.ba (He.ba (He.ba (He.ba (He.ba (He.ba (He.ba (He.ba (He.ba (He.ba (He.ba (He.ba (He.ba (He.ba (He.ba (He.ba (He.ba (He.ba (He.ba (He.ba (He.ba (He.ba (He.ba (He.ba (He.ba (He.ba (He.ba (He.ba (He.ba (He.ba (He.ba (He.ba (He.ba (He.ba (He.ba (He.ba (He.ba (He.ba (He.ba (He.ba (He.ba (He.ba (He.ba (He.ba (He.ba (He.ba (He.ba (He.ba (He.ba (He.ba (He.ba (He.ba (He.ba (He.ba (He.ba (He.ba (He.ba (He.ba (He.ba (He.ba (He.ba (He.ba (He.ba (He.ba (He.ba (He.ba (He.ba (He.ba (He.ba (He.ba (He.ba (He.ba (He.ba (He.ba (He.ba (He.ba (He.ba (He.ba (He.ba (He.ba T.x).2).2).2).2).2).2).2).2).2).2).2).2).2).2).2).2).2).2).2).2).2).2).2).2).2).2).2).2).2).2).2).2).2).2).2).2).2).2).2).2).2).2).2).2).2).2).2).2).2).2).2).2).2).2).2).2).2).2).2).2).2).2).2).2).2).2).2).2).2).2).2).2).2).2).2).2).2).2).2).2).2).2).2).2).2).2).2).2).2).2).2).2).2).2).2).2).2).2).2).2).2).2).2).2).2).2).2).2).2).2).2).2).2).2).2).2).2).2).2).2).2).2).2).2).2).2).1
theorem Tx.kx_NoRule_ValueError (T : Tx K mg) : PySem.W.kitOne K (.ref (He.ga K "NoRule")) (.type "ValueError") = some true := PL.kitX_ok (He.ba (He.ba (He.ba (He.ba (He.ba (He.ba (He.ba (He.ba (He.ba (He.ba (He.ba (He.ba (He.ba (He.ba (He.ba (He.ba (He.ba (He.ba (He.ba (He.ba (He.ba (He.ba (He.ba (He.ba (He.ba (He.ba (He.ba (He.ba (He.ba (He.ba (He.ba (He.ba (He.ba (He.ba (He.ba (He.ba (He.ba (He.ba (He.ba (He.ba (He.ba (He.ba (He.ba (He.ba (He.ba (He.ba (He.ba (He.ba (He.ba (He.ba (He.ba (He.ba (He.ba (He.ba (He.ba (He.ba (He.ba (He.ba (He.ba (He.ba (He.ba (He.ba (He.ba (He.ba (He.ba (He.ba (He.ba (He.ba (He.ba (He.ba (He.ba (He.ba (He.ba (He.ba (He.ba (He.ba (He.ba (He.ba (He.ba (He.ba (He.ba (He.ba (He.ba (He.ba (He.ba (He.ba (He.ba (He.ba (He.ba (He.ba (He.ba (He.ba (He.ba (He.ba (He.ba (He.ba (He.ba (He.ba (He.ba (He.ba (He.ba (He.ba (He.ba (He.ba (He.ba (He.ba (He.ba (He.ba (He.ba (He.ba (He.ba (He.ba (He.ba (He.ba (He.ba (He.ba (He.ba (He.ba (He.ba (He.ba (He.ba (He.ba (He.ba (He.ba (He.ba (He.ba (He.ba (He.ba T.x).2).2).2).2).2).2).2).2).2).2).2).2).2).2).2).2).2).2).2).2).2).2).2).2).2).2).2).2).2).2).2).2).2).2).2).2).2).2).2).2).2).2).2).2).2).2).2).2).2).2).2).2).2).2).2).2).2).2).2).2).2).2).2).2).2).2).2).2).2).2).2).2).2).2).2).2).2).2).2).2).2).2).2).2).2).2).2).2).2).2).2).2).2).2).2).2).2).2).2).2).2).2).2).2).2).2).2).2).2).2).2).2).2).2).2).2).2).2).2).2).2).2).2).2).2).2).2).1
theorem Tx.ef_NoText (T : Tx K mg) : PL.ExcF K mg "NoText" := PL.excF_ok (He.ba (He.ba (He.ba (He.ba (He.ba (He.ba (He.ba (He.ba (He.ba (He.ba (He.ba (He.ba (He.ba (He.ba (He.ba (He.ba (He.ba (He.ba (He.ba (He.ba (He.ba (He.ba (He.ba (He.ba (He.ba (He.ba (He.ba (He.ba (He.ba (He.ba (He.ba (He.ba (He.ba (He.ba (He.ba (He.ba (He.ba (He.ba (He.ba (He.ba (He.ba (He.ba (He.ba (He.ba (He.ba (He.ba (He.ba (He.ba (He.ba (He.ba (He.ba (He.ba (He.ba (He.ba (He.ba (He.ba (He.ba (He.ba (He.ba (He.ba (He.ba (He.ba (He.ba (He.ba (He.ba (He.ba (He.ba (He.ba (He.ba (He.ba (He.ba (He.ba (He.ba (He.ba (He.ba (He.ba (He.ba (He.ba (He.ba (He.ba (He.ba (He.ba (He.ba (He.ba (He.ba (He.ba (He.ba (He.ba (He.ba (He.ba (He.ba (He.ba (He.ba (He.ba (He.ba (He.ba (He.ba (He.ba (He.ba (He.ba (He.ba (He.ba (He.ba (He.ba (He.ba (He.ba (He.ba (He.ba (He.ba (He.ba (He.ba (He.ba (He.ba (He.ba (He.ba (He.ba (He.ba (He.ba (He.ba (He.ba (He.ba (He.ba (He.ba (He.ba (He.ba (He.ba (He.ba (He.ba (He.ba T.x).2).2).2).2).2).2).2).2).2).2).2).2).2).2).2).2).2).2).2).2).2).2).2).2).2).2).2).2).2).2).2).2).2).2).2).2).2).2).2).2).2).2).2).2).2).2).2).2).2).2).2).2).2).2).2).2).2).2).2).2).2).2).2).2).2).2).2).2).2).2).2).2).2).2).2).2).2).2).2).2).2).2).2).2).2).2).2).2).2).2).2).2).2).2).2).2).2).2).2).2).2).2).2).2).2).2).2).2).2).2).2).2).2).2).2).2).2).2).2).2).2).2).2).2).2).2).2).2).1 T.g_NoText
theorem Tx.ec_NoText (T : Tx K mg) : L2.ExcC K (He.ga K "NoText") := PL.excC_ok (He.ba (He.ba (He.ba (He.ba (He.ba (He.ba (He.ba (He.ba (He.ba (He.ba (He.ba (He.ba (He.ba (He.ba (He.ba (He.ba (He.ba (He.ba (He.ba (He.ba (He.ba (He.ba (He.ba (He.ba (He.ba (He.ba (He.ba (He.ba (He.ba (He.ba (He.ba (He.ba (He.ba (He.ba (He.ba (He.ba (He.ba (He.ba (He.ba (He.ba (He.ba (He.ba (He.ba (He.ba (He.ba (He.ba (He.ba (He.ba (He.ba (He.ba (He.ba (He.ba (He.ba (He.ba (He.ba (He.ba (He.ba (He.ba (He.ba (He.ba (He.ba (He.ba (He.ba (He.ba (He.ba (He.ba (He.ba (He.ba (He.ba (He.ba (He.ba (He.ba (He.ba (He.ba (He.ba (He.ba (He.ba (He.ba (He.ba (He.ba (He.ba (He.ba (He.ba (He.ba (He.ba (He.ba (He.ba (He.ba (He.ba (He.ba (He.ba (He.ba (He.ba (He.ba (He.ba (He.ba (He.ba (He.ba (He.ba (He.ba (He.ba (He.ba (He.ba (He.ba (He.ba (He.ba (He.ba (He.ba (He.ba (He.ba (He.ba (He.ba (He.ba (He.ba (He.ba (He.ba (He.ba (He.ba (He.ba (He.ba (He.ba (He.ba (He.ba (He.ba (He.ba (He.ba (He.ba (He.ba (He.ba (He.ba T.x).2).2).2).2).2).2).2).2).2).2).2).2).2).2).2).2).2).2).2).2).2).2).2).2).2).2).2).2).2).2).2).2).2).2).2).2).2).2).2).2).2).2).2).2).2).2).2).2).2).2).2).2).2).2).2).2).2).2).2).2).2).2).2).2).2).2).2).2).2).2).2).2).2).2).2).2).2).2).2).2).2).2).2).2).2).2).2).2).2).2).2).2).2).2).2).2).2).2).2).2).2).2).2).2).2).2).2).2).2).2).2).2).2).2).2).2).2).2).2).2).2).2).2).2).2).2).2).2).2).1
theorem Tx.kx_NoText_Lacking (T : Tx K mg) : PySem.W.kitOne K (.ref (He.ga K "NoText")) (.ref (He.ga K "Lacking")) = some false := PL.kitX_ok (He.ba (He.ba (He.ba (He.ba (He.ba (He.ba (He.ba (He.ba (He.ba (He.ba (He.ba (He.ba (He.ba (He.ba (He.ba (He.ba (He.ba (He.ba (He.ba (He.ba (He.ba (He.ba (He.ba (He.ba (He.ba (He.ba (He.ba (He.ba (He.ba (He.ba (He.ba (He.ba (He.ba (He.ba (He.ba (He.ba (He.ba (He.ba (He.ba (He.ba (He.ba (He.ba (He.ba (He.ba (He.ba (He.ba (He.ba (He.ba (He.ba (He.ba (He.ba (He.ba (He.ba (He.ba (He.ba (He.ba (He.ba (He.ba (He.ba (He.ba (He.ba (He.ba (He.ba (He.ba (He.ba (He.ba (He.ba (He.ba (He.ba (He.ba (He.ba (He.ba (He.ba (He.ba (He.ba (He.ba (He.ba (He.ba (He.ba (He.ba (He.ba (He.ba (He.ba (He.ba (He.ba (He.ba (He.ba (He.ba (He.ba (He.ba (He.ba (He.ba (He.ba (He.ba (He.ba (He.ba (He.ba (He.ba (He.ba (He.ba (He.ba (He.ba (He.ba (He.ba (He.ba (He.ba (He.ba (He.ba (He.ba (He.ba (He.ba (He.ba (He.ba (He.ba (He.ba (He.ba (He.ba (He.ba (He.ba (He.ba (He.ba (He.ba (He.ba (He.ba (He.ba (He.ba (He.ba (He.ba (He.ba (He.ba (He.ba (He.ba T.x).2).2).2).2).2).2).2).2).2).2).2).2).2).2).2).2).2).2).2).2).2).2).2).2).2).2).2).2).2).2).2).2).2).2).2).2).2).2).2).2).2).2).2).2).2).2).2).2).2).2).2).2).2).2).2).2).2).2).2).2).2).2).2).2).2).2).2).2).2).2).2).2).2).2).2).2).2).2).2).2).2).2).2).2).2).2).2).2).2).2).2).2).2).2).2).2).2).2).2).2).2).2).2).2).2).2).2).2).2).2).2).2).2).2).2).2).2).2).2).2).2).2).2).2).2).2).2).2).2).2).2).1
theorem Tx.kx_NoText_NoAsking (T : Tx K mg) : PySem.W.kitOne K (.ref (He.ga K "NoText")) (.ref (He.ga K "NoAsking")) = some false := PL.kitX_ok (He.ba (He.ba (He.ba (He.ba (He.ba (He.ba (He.ba (He.ba (He.ba (He.ba (He.ba (He.ba (He.ba (He.ba (He.ba (He.ba (He.ba (He.ba (He.ba (He.ba (He.ba (He.ba (He.ba (He.ba (He.ba (He.ba (He.ba (He.ba (He.ba (He.ba (He.ba (He.ba (He.ba (He.ba (He.ba (He.ba (He.ba (He.ba (He.ba (He.ba (He.ba (He.ba (He.ba (He.ba (He.ba (He.ba (He.ba (He.ba (He.ba (He.ba (He.ba (He.ba (He.ba (He.ba (He.ba (He.ba (He.ba (He.ba (He.ba (He.ba (He.ba (He.ba (He.ba (He.ba (He.ba (He.ba (He.ba (He.ba (He.ba (He.ba (He.ba (He.ba (He.ba (He.ba (He.ba (He.ba (He.ba (He.ba (He.ba (He.ba (He.ba (He.ba (He.ba (He.ba (He.ba (He.ba (He.ba (He.ba (He.ba (He.ba (He.ba (He.ba (He.ba (He.ba (He.ba (He.ba (He.ba (He.ba (He.ba (He.ba (He.ba (He.ba (He.ba (He.ba (He.ba (He.ba (He.ba (He.ba (He.ba (He.ba (He.ba (He.ba (He.ba (He.ba (He.ba (He.ba (He.ba (He.ba (He.ba (He.ba (He.ba (He.ba (He.ba (He.ba (He.ba (He.ba (He.ba (He.ba (He.ba (He.ba (He.ba (He.ba (He.ba T.x).2).2).2).2).2).2).2).2).2).2).2).2).2).2).2).2).2).2).2).2).2).2).2).2).2).2).2).2).2).2).2).2).2).2).2).2).2).2).2).2).2).2).2).2).2).2).2).2).2).2).2).2).2).2).2).2).2).2).2).2).2).2).2).2).2).2).2).2).2).2).2).2).2).2).2).2).2).2).2).2).2).2).2).2).2).2).2).2).2).2).2).2).2).2).2).2).2).2).2).2).2).2).2).2).2).2).2).2).2).2).2).2).2).2).2).2).2).2).2).2).2).2).2).2).2).2).2).2).2).2).2).2).1
theorem Tx.kx_NoText_NoMake (T : Tx K mg) : PySem.W.kitOne K (.ref (He.ga K "NoText")) (.ref (He.ga K "NoMake")) = some false := PL.kitX_ok (He.ba (He.ba (He.ba (He.ba (He.ba (He.ba (He.ba (He.ba (He.ba (He.ba (He.ba (He.ba (He.ba (He.ba (He.ba (He.ba (He.ba (He.ba (He.ba (He.ba (He.ba (He.ba (He.ba (He.ba (He.ba (He.ba (He.ba (He.ba (He.ba (He.ba (He.ba (He.ba (He.ba (He.ba (He.ba (He.ba (He.ba (He.ba (He.ba (He.ba (He.ba (He.ba (He.ba (He.ba (He.ba (He.ba (He.ba (He.ba (He.ba (He.ba (He.ba (He.ba (He.ba (He.ba (He.ba (He.ba (He.ba (He.ba (He.ba (He.ba (He.ba (He.ba (He.ba (He.ba (He.ba (He.ba (He.ba (He.ba (He.ba (He.ba (He.ba (He.ba (He.ba (He.ba (He.ba (He.ba (He.ba (He.ba (He.ba (He.ba (He.ba (He.ba (He.ba (He.ba (He.ba (He.ba (He.ba (He.ba (He.ba (He.ba (He.ba (He.ba (He.ba (He.ba (He.ba (He.ba (He.ba (He.ba (He.ba (He.ba (He.ba (He.ba (He.ba (He.ba (He.ba (He.ba (He.ba (He.ba (He.ba (He.ba (He.ba (He.ba (He.ba (He.ba (He.ba (He.ba (He.ba (He.ba (He.ba (He.ba (He.ba (He.ba (He.ba (He.ba (He.ba (He.ba (He.ba (He.ba (He.ba (He.ba (He.ba (He.ba (He.ba (He.ba T.x).2).2).2).2).2).2).2).2).2).2).2).2).2).2).2).2).2).2).2).2).2).2).2).2).2).2).2).2).2).2).2).2).2).2).2).2).2).2).2).2).2).2).2).2).2).2).2).2).2).2).2).2).2).2).2).2).2).2).2).2).2).2).2).2).2).2).2).2).2).2).2).2).2).2).2).2).2).2).2).2).2).2).2).2).2).2).2).2).2).2).2).2).2).2).2).2).2).2).2).2).2).2).2).2).2).2).2).2).2).2).2).2).2).2).2).2).2).2).2).2).2).2).2).2).2).2).2).2).2).2).2).2).2).1
theorem Tx.kx_NoText_NoMany (T : Tx K mg) : PySem.W.kitOne K (.ref (He.ga K "NoText")) (.ref (He.ga K "NoMany")) = some false := PL.kitX_ok (He.ba (He.ba (He.ba (He.ba (He.ba (He.ba (He.ba (He.ba (He.ba (He.ba (He.ba (He.ba (He.ba (He.ba (He.ba (He.ba (He.ba (He.ba (He.ba (He.ba (He.ba (He.ba (He.ba (He.ba (He.ba (He.ba (He.ba (He.ba (He.ba (He.ba (He.ba (He.ba (He.ba (He.ba (He.ba (He.ba (He.ba (He.ba (He.ba (He.ba (He.ba (He.ba (He.ba (He.ba (He.ba (He.ba (He.ba (He.ba (He.ba (He.ba (He.ba (He.ba (He.ba (He.ba (He.ba (He.ba (He.ba (He.ba (He.ba (He.ba (He.ba (He.ba (He.ba (He.ba (He.ba (He.ba (He.ba (He.ba (He.ba (He.ba (He.ba (He.ba (He.ba (He.ba (He.ba (He.ba (He.ba (He.ba (He.ba (He.ba (He.ba (He.ba (He.ba (He.ba (He.ba (He.ba (He.ba (He.ba (He.ba (He.ba (He.ba (He.ba (He.ba (He.ba (He.ba (He.ba (He.ba (He.ba (He.ba (He.ba (He.ba (He.ba (He.ba (He.ba (He.ba (He.ba (He.ba (He.ba (He.ba (He.ba (He.ba (He.ba (He.ba (He.ba (He.ba (He.ba (He.ba (He.ba (He.ba (He.ba (He.ba (He.ba (He.ba (He.ba (He.ba (He.ba (He.ba (He.ba (He.ba (He.ba (He.ba (He.ba (He.ba (He.ba (He.ba T.x).2).2).2).2).2).2).2).2).2).2).2).2).2).2).2).2).2).2).2).2).2).2).2).2).2).2).2).2).2).2).2).2).2).2).2).2).2).2).2).2).2).2).2).2).2).2).2).2).2).2).2).2).2).2).2).2).2).2).2).2).2).2).2).2).2).2).2).2).2).2).2).2).2).2).2).2).2).2).2).2).2).2).2).2).2).2).2).2).2).2).2).2).2).2).2).2).2).2).2).2).2).2).2).2).2).2).2).2).2).2).2).2).2).2).2).2).2).2).2).2).2).2).2).2).2).2).2).2).2).2).2).2).2).2).1
theorem Tx.kx_NoText_NoName (T : Tx K mg) : PySem.W.kitOne K (.ref (He.ga K "NoText")) (.ref (He.ga K "NoName")) = some false := PL.kitX_ok (He.ba (He.ba (He.ba (He.ba (He.ba (He.ba (He.ba (He.ba (He.ba (He.ba (He.ba (He.ba (He.ba (He.ba (He.ba (He.ba (He.ba (He.ba (He.ba (He.ba (He.ba (He.ba (He.ba (He.ba (He.ba (He.ba (He.ba (He.ba (He.ba (He.ba (He.ba (He.ba (He.ba (He.ba (He.ba (He.ba (He.ba (He.ba (He.ba (He.ba (He.ba (He.ba (He.ba (He.ba (He.ba (He.ba (He.ba (He.ba (He.ba (He.ba (He.ba (He.ba (He.ba (He.ba (He.ba (He.ba (He.ba (He.ba (He.ba (He.ba (He.ba (He.ba (He.ba (He.ba (He.ba (He.ba (He.ba (He.ba (He.ba (He.ba (He.ba (He.ba (He.ba (He.ba (He.ba (He.ba (He.ba (He.ba (He.ba (He.ba (He.ba (He.ba (He.ba (He.ba (He.ba (He.ba (He.ba (He.ba (He.ba (He.ba (He.ba (He.ba (He.ba (He.ba (He.ba (He.ba (He.ba (He.ba (He.ba (He.ba (He.ba (He.ba (He.ba (He.ba (He.ba (He.ba (He.ba (He.ba (He.ba (He.ba (He.ba (He.ba (He.ba (He.ba (He.ba (He.ba (He.ba (He.ba (He.ba (He.ba (He.ba (He.ba (He.ba (He.ba (He.ba (He.ba (He.ba (He.ba (He.ba (He.ba (He.ba (He.ba (He.ba (He.ba (He.ba (He.ba T.x).2).2).2).2).2).2).2).2).2).2).2).2).2).2).2).2).2).2).2).2).2).2).2).2).2).2).2).2).2).2).2).2).2).2).2).2).2).2).2).2).2).2).2).2).2).2).2).2).2).2).2).2).2).2).2).2).2).2).2).2).2).2).2).2).2).2).2).2).2).2).2).2).2).2).2).2).2).2).2).2).2).2).2).2).2).2).2).2).2).2).2).2).2).2).2).2).2).2).2).2).2).2).2).2).2).2).2).2).2).2).2).2).2).2).2).2).2).2).2).2).2).2).2).2).2).2).2).2).2).2).2).2).2).2).2).1
theorem Tx.kx_NoText_NoPath (T : Tx K mg) : PySem.W.kitOne K (.ref (He.ga K "NoText")) (.ref (He.ga K "NoPath")) = some false := PL.kitX_ok (He.ba (He.ba (He.ba (He.ba (He.ba (He.ba (He.ba (He.ba (He.ba (He.ba (He.ba (He.ba (He.ba (He.ba (He.ba (He.ba (He.ba (He.ba (He.ba (He.ba (He.ba (He.ba (He.ba (He.ba (He.ba (He.ba (He.ba (He.ba (He.ba (He.ba (He.ba (He.ba (He.ba (He.ba (He.ba (He.ba (He.ba (He.ba (He.ba (He.ba (He.ba (He.ba (He.ba (He.ba (He.ba (He.ba (He.ba (He.ba (He.ba (He.ba (He.ba (He.ba (He.ba (He.ba (He.ba (He.ba (He.ba (He.ba (He.ba (He.ba (He.ba (He.ba (He.ba (He.ba (He.ba (He.ba (He.ba (He.ba (He.ba (He.ba (He.ba (He.ba (He.ba (He.ba (He.ba (He.ba (He.ba (He.ba (He.ba (He.ba (He.ba (He.ba (He.ba (He.ba (He.ba (He.ba (He.ba (He.ba (He.ba (He.ba (He.ba (He.ba (He.ba (He.ba (He.ba (He.ba (He.ba (He.ba (He.ba (He.ba (He.ba (He.ba (He.ba (He.ba (He.ba (He.ba (He.ba (He.ba (He.ba (He.ba (He.ba (He.ba (He.ba (He.ba (He.ba (He.ba (He.ba (He.ba (He.ba (He.ba (He.ba (He.ba (He.ba (He.ba (He.ba (He.ba (He.ba (He.ba (He.ba (He.ba (He.ba (He.ba (He.ba (He.ba (He.ba (He.ba (He.ba T.x).2).2).2).2).2).2).2).2).2).2).2).2).2).2).2).2).2).2).2).2).2).2).2).2).2).2).2).2).2).2).2).2).2).2).2).2).2).2).2).2).2).2).2).2).2).2).2).2).2).2).2).2).2).2).2).2).2).2).2).2).2).2).2).2).2).2).2).2).2).2).2).2).2).2).2).2).2).2).2).2).2).2).2).2).2).2).2).2).2).2).2).2).2).2).2).2).2).2).2).2).2).2).2).2).2).2).2).2).2).2).2).2).2).2).2).2).2).2).2).2).2).2).2).2).2).2).2).2).2).2).2).2).2).2).2).2).1
theorem Tx.kx_NoText_NoRow (T : Tx K mg) : PySem.W.kitOne K (.ref (He.ga K "NoText")) (.ref (He.ga K "NoRow")) = some false := PL.kitX_ok (He.ba (He.ba (He.ba (He.ba (He.ba (He.ba (He.ba (He.ba (He.ba (He.ba (He.ba (He.ba (He.ba (He.ba (He.ba (He.ba (He.ba (He.ba (He.ba (He.ba (He.ba (He.ba (He.ba (He.ba (He.ba (He.ba (He.ba (He.ba (He.ba (He.ba (He.ba (He.ba (He.ba (He.ba (He.ba (He.ba (He.ba (He.ba (He.ba (He.ba (He.ba (He.ba (He.ba (He.ba (He.ba (He.ba (He.ba (He.ba (He.ba (He.ba (He.ba (He.ba (He.ba (He.ba (He.ba (He.ba (He.ba (He.ba (He.ba (He.ba (He.ba (He.ba (He.ba (He.ba (He.ba (He.ba (He.ba (He.ba (He.ba (He.ba (He.ba (He.ba (He.ba (He.ba (He.ba (He.ba (He.ba (He.ba (He.ba (He.ba (He.ba (He.ba (He.ba (He.ba (He.ba (He.ba (He.ba (He.ba (He.ba (He.ba (He.ba (He.ba (He.ba (He.ba (He.ba (He.ba (He.ba (He.ba (He.ba (He.ba (He.ba (He.ba (He.ba (He.ba (He.ba (He.ba (He.ba (He.ba (He.ba (He.ba (He.ba (He.ba (He.ba (He.ba (He.ba (He.ba (He.ba (He.ba (He.ba (He.ba (He.ba (He.ba (He.ba (He.ba (He.ba (He.ba (He.ba (He.ba (He.ba (He.ba (He.ba (He.ba (He.ba (He.ba (He.ba (He.ba (He.ba (He.ba T.x).2).2).2).2).2).2).2).2).2).2).2).2).2).2).2).2).2).2).2).2).2).2).2).2).2).2).2).2).2).2).2).2).2).2).2).2).2).2).2).2).2).2).2).2).2).2).2).2).2).2).2).2).2).2).2).2).2).2).2).2).2).2).2).2).2).2).2).2).2).2).2).2).2).2).2).2).2).2).2).2).2).2).2).2).2).2).2).2).2).2).2).2).2).2).2).2).2).2).2).2).2).2).2).2).2).2).2).2).2).2).2).2).2).2).2).2).2).2).2).2).2).2).2).2).2).2).2).2).2).2).2).2).2).2).2).2).2).1
theorem Tx.kx_NoText_NoRule (T : Tx K mg) : PySem.W.kitOne K (.ref (He.ga K "NoText")) (.ref (He.ga K "NoRule")) = some false := PL.kitX_ok (He.ba (He.ba (He.ba (He.ba (He.ba (He.ba (He.ba (He.ba (He.ba (He.ba (He.ba (He.ba (He.ba (He.ba (He.ba (He.ba (He.ba (He.ba (He.ba (He.ba (He.ba (He.ba (He.ba (He.ba (He.ba (He.ba (He.ba (He.ba (He.ba (He.ba (He.ba (He.ba (He.ba (He.ba (He.ba (He.ba (He.ba (He.ba (He.ba (He.ba (He.ba (He.ba (He.ba (He.ba (He.ba (He.ba (He.ba (He.ba (He.ba (He.ba (He.ba (He.ba (He.ba (He.ba (He.ba (He.ba (He.ba (He.ba (He.ba (He.ba (He.ba (He.ba (He.ba (He.ba (He.ba (He.ba (He.ba (He.ba (He.ba (He.ba (He.ba (He.ba (He.ba (He.ba (He.ba (He.ba (He.ba (He.ba (He.ba (He.ba (He.ba (He.ba (He.ba (He.ba (He.ba (He.ba (He.ba (He.ba (He.ba (He.ba (He.ba (He.ba (He.ba (He.ba (He.ba (He.ba (He.ba (He.ba (He.ba (He.ba (He.ba (He.ba (He.ba (He.ba (He.ba (He.ba (He.ba (He.ba (He.ba (He.ba (He.ba (He.ba (He.ba (He.ba (He.ba (He.ba (He.ba (He.ba (He.ba (He.ba (He.ba (He.ba (He.ba (He.ba (He.ba (He.ba (He.ba (He.ba (He.ba (He.ba (He.ba (He.ba (He.ba (He.ba (He.ba (He.ba (He.ba (He.ba (He.ba T.x).2).2).2).2).2).2).2).2).2).2).2).2).2).2).2).2).2).2).2).2).2).2).2).2).2).2).2).2).2).2).2).2).2).2).2).2).2).2).2).2).2).2).2).2).2).2).2).2).2).2).2).2).2).2).2).2).2).2).2).2).2).2).2).2).2).2).2).2).2).2).2).2).2).2).2).2).2).2).2).2).2).2).2).2).2).2).2).2).2).2).2).2).2).2).2).2).2).2).2).2).2).2).2).2).2).2).2).2).2).2).2).2).2).2).2).2).2).2).2).2).2).2).2).2).2).2).2).2).2).2).2).2).2).2).2).2).2).2).1
theorem Tx.kx_NoText_NoText (T : Tx K mg) : PySem.W.kitOne K (.ref (He.ga K "NoText")) (.ref (He.ga K "NoText")) = some true := PL.kitX_ok (He.ba (He.ba (He.ba (He.ba (He.ba (He.ba (He.ba (He.ba (He.ba (He.ba (He.ba (He.ba (He.ba (He.ba (He.ba (He.ba (He.ba (He.ba (He.ba (He.ba (He.ba (He.ba (He.ba (He.ba (He.ba (He.ba (He.ba (He.ba (He.ba (He.ba (He.ba (He.ba (He.ba (He.ba (He.ba (He.ba (He.ba (He.ba (He.ba (He.ba (He.ba (He.ba (He.ba (He.ba (He.ba (He.ba (He.ba (He.ba (He.ba (He.ba (He.ba (He.ba (He.ba (He.ba (He.ba (He.ba (He.ba (He.ba (He.ba (He.ba (He.ba (He.ba (He.ba (He.ba (He.ba (He.ba (He.ba (He.ba (He.ba (He.ba (He.ba (He.ba (He.ba (He.ba (He.ba (He.ba (He.ba (He.ba (He.ba (He.ba (He.ba (He.ba (He.ba (He.ba (He.ba (He.ba (He.ba (He.ba (He.ba (He.ba (He.ba (He.ba (He.ba (He.ba (He.ba (He.ba (He.ba (He.ba (He.ba (He.ba (He.ba (He.ba (He.ba (He.ba (He.ba (He.ba (He.ba (He.ba (He.ba (He.ba (He.ba (He.ba (He.ba (He.ba (He.ba (He.ba (He.ba (He.ba (He.ba (He.ba (He.ba (He.ba (He.ba (He.ba (He.ba (He.ba (He.ba (He.ba (He.ba (He.ba (He.ba (He.ba (He.ba (He.ba (He.ba (He.ba (He.ba (He.ba (He.ba (He.ba T.x).2).2).2).2).2).2).2).2).2).2).2).2).2).2).2).2).2).2).2).2).2).2).2).2).2).2).2).2).2).2).2).2).2).2).2).2).2).2).2).2).2).2).2).2).2).2).2).2).2).2).2).2).2).2).2).2).2).2).2).2).2).2).2).2).2).2).2).2).2).2).2).2).2).2).2).2).2).2).2).2).2).2).2).2).2).2).2).2).2).2).2).2).2).2).2).2).2).2).2).2).2).2).2).2).2).2).2).2).2).2).2).2).2).2).2).2).2).2).2).2).2).2).2).2).2).2).2).2).2).2).2).2).2).2).2).2).2).2).2).1
theorem Tx.kx_NoText_NoWeighing (T : Tx K mg) : PySem.W.kitOne K (.ref (He.ga K "NoText")) (.ref (He.ga K "NoWeighing")) = some false := PL.kitX_ok (He.ba (He.ba (He.ba (He.ba (He.ba (He.ba (He.ba (He.ba (He.ba (He.ba (He.ba (He.ba (He.ba (He.ba (He.ba (He.ba (He.ba (He.ba (He.ba (He.ba (He.ba (He.ba (He.ba (He.ba (He.ba (He.ba (He.ba (He.ba (He.ba (He.ba (He.ba (He.ba (He.ba (He.ba (He.ba (He.ba (He.ba (He.ba (He.ba (He.ba (He.ba (He.ba (He.ba (He.ba (He.ba (He.ba (He.ba (He.ba (He.ba (He.ba (He.ba (He.ba (He.ba (He.ba (He.ba (He.ba (He.ba (He.ba (He.ba (He.ba (He.ba (He.ba (He.ba (He.ba (He.ba (He.ba (He.ba (He.ba (He.ba (He.ba (He.ba (He.ba (He.ba (He.ba (He.ba (He.ba (He.ba (He.ba (He.ba (He.ba (He.ba (He.ba (He.ba (He.ba (He.ba (He.ba (He.ba (He.ba (He.ba (He.ba (He.ba (He.ba (He.ba (He.ba (He.ba (He.ba (He.ba (He.ba (He.ba (He.ba (He.ba (He.ba (He.ba (He.ba (He.ba (He.ba (He.ba (He.ba (He.ba (He.ba (He.ba (He.ba (He.ba (He.ba (He.ba (He.ba (He.ba (He.ba (He.ba (He.ba (He.ba (He.ba (He.ba (He.ba (He.ba (He.ba (He.ba (He.ba (He.ba (He.ba (He.ba (He.ba (He.ba (He.ba (He.ba (He.ba (He.ba (He.ba (He.ba (He.ba (He.ba T.x).2).2).2).2).2).2).2).2).2).2).2).2).2).2).2).2).2).2).2).2).2).2).2).2).2).2).2).2).2).2).2).2).2).2).2).2).2).2).2).2).2).2).2).2).2).2).2).2).2).2).2).2).2).2).2).2).2).2).2).2).2).2).2).2).2).2).2).2).2).2).2).2).2).2).2).2).2).2).2).2).2).2).2).2).2).2).2).2).2).2).2).2).2).2).2).2).2).2).2).2).2).2).2).2).2).2).2).2).2).2).2).2).2).2).2).2).2).2).2).2).2).2).2).2).2).2).2).2).2).2).2).2).2).2).2).2).2).2).2).2).1
theorem Tx.kx_NoText_Over (T : Tx K mg) : PySem.W.kitOne K (.ref (He.ga K "NoText")) (.ref (He.ga K "Over")) = some false := PL.kitX_ok (He.ba (He.ba (He.ba (He.ba (He.ba (He.ba (He.ba (He.ba (He.ba (He.ba (He.ba (He.ba (He.ba (He.ba (He.ba (He.ba (He.ba (He.ba (He.ba (He.ba (He.ba (He.ba (He.ba (He.ba (He.ba (He.ba (He.ba (He.ba (He.ba (He.ba (He.ba (He.ba (He.ba (He.ba (He.ba (He.ba (He.ba (He.ba (He.ba (He.ba (He.ba (He.ba (He.ba (He.ba (He.ba (He.ba (He.ba (He.ba (He.ba (He.ba (He.ba (He.ba (He.ba (He.ba (He.ba (He.ba (He.ba (He.ba (He.ba (He.ba (He.ba (He.ba (He.ba (He.ba (He.ba (He.ba (He.ba (He.ba (He.ba (He.ba (He.ba (He.ba (He.ba (He.ba (He.ba (He.ba (He.ba (He.ba (He.ba (He.ba (He.ba (He.ba (He.ba (He.ba (He.ba (He.ba (He.ba (He.ba (He.ba (He.ba (He.ba (He.ba (He.ba (He.ba (He.ba (He.ba (He.ba (He.ba (He.ba (He.ba (He.ba (He.ba (He.ba (He.ba (He.ba (He.ba (He.ba (He.ba (He.ba (He.ba (He.ba (He.ba (He.ba (He.ba (He.ba (He.ba (He.ba (He.ba (He.ba (He.ba (He.ba (He.ba (He.ba (He.ba (He.ba (He.ba (He.ba (He.ba (He.ba (He.ba (He.ba (He.ba (He.ba (He.ba (He.ba (He.ba (He.ba (He.ba (He.ba (He.ba (He.ba (He.ba T.x).2).2).2).2).2).2).2).2).2).2).2).2).2).2).2).2).2).2).2).2).2).2).2).2).2).2).2).2).2).2).2).2).2).2).2).2).2).2).2).2).2).2).2).2).2).2).2).2).2).2).2).2).2).2).2).2).2).2).2).2).2).2).2).2).2).2).2).2).2).2).2).2).2).2).2).2).2).2).2).2).2).2).2).2).2).2).2).2).2).2).2).2).2).2).2).2).2).2).2).2).2).2).2).2).2).2).2).2).2).2).2).2).2).2).2).2).2).2).2).2).2).2).2).2).2).2).2).2).2).2).2).2).2).2).2).2).2).2).2).2).2).1
theorem Tx.kx_NoText_SearchError (T : Tx K mg) : PySem.W.kitOne K (.ref (He.ga K "NoText")) (.ref (He.ga K "SearchError")) = some true := PL.kitX_ok (He.ba (He.ba (He.ba (He.ba (He.ba (He.ba (He.ba (He.ba (He.ba (He.ba (He.ba (He.ba (He.ba (He.ba (He.ba (He.ba (He.ba (He.ba (He.ba (He.ba (He.ba (He.ba (He.ba (He.ba (He.ba (He.ba (He.ba (He.ba (He.ba (He.ba (He.ba (He.ba (He.ba (He.ba (He.ba (He.ba (He.ba (He.ba (He.ba (He.ba (He.ba (He.ba (He.ba (He.ba (He.ba (He.ba (He.ba (He.ba (He.ba (He.ba (He.ba (He.ba (He.ba (He.ba (He.ba (He.ba (He.ba (He.ba (He.ba (He.ba (He.ba (He.ba (He.ba (He.ba (He.ba (He.ba (He.ba (He.ba (He.ba (He.ba (He.ba (He.ba (He.ba (He.ba (He.ba (He.ba (He.ba (He.ba (He.ba (He.ba (He.ba (He.ba (He.ba (He.ba (He.ba (He.ba (He.ba (He.ba (He.ba (He.ba (He.ba (He.ba (He.ba (He.ba (He.ba (He.ba (He.ba (He.ba (He.ba (He.ba (He.ba (He.ba (He.ba (He.ba (He.ba (He.ba (He.ba (He.ba (He.ba (He.ba (He.ba (He.ba (He.ba (He.ba (He.ba (He.ba (He.ba (He.ba (He.ba (He.ba (He.ba (He.ba (He.ba (He.ba (He.ba (He.ba (He.ba (He.ba (He.ba (He.ba (He.ba (He.ba (He.ba (He.ba (He.ba (He.ba (He.ba (He.ba (He.ba (He.ba (He.ba (He.ba (He.ba T.x).2).2).2).2).2).2).2).2).2).2).2).2).2).2).2).2).2).2).2).2).2).2).2).2).2).2).2).2).2).2).2).2).2).2).2).2).2).2).2).2).2).2).2).2).2).2).2).2).2).2).2).2).2).2).2).2).2).2).2).2).2).2).2).2).2).2).2).2).2).2).2).2).2).2).2).2).2).2).2).2).2).2).2).2).2).2).2).2).2).2).2).2).2).2).2).2).2).2).2).2).2).2).2).2).2).2).2).2).2).2).2).2).2).2).2).2).2).2).2).2).2).2).2).2).2).2).2).2).2).2).2).2).2).2).2).2).2).2).2).2).2).2).1
theorem Tx.kx_NoText_ValueError (T : Tx K mg) : PySem.W.kitOne K (.ref (He.ga K "NoText")) (.type "ValueError") = some true := PL.kitX_ok (He.ba (He.ba (He.ba (He.ba (He.ba (He.ba (He.ba (He.ba (He.ba (He.ba (He.ba (He.ba (He.ba (He.ba (He.ba (He.ba (He.ba (He.ba (He.ba (He.ba (He.ba (He.ba (He.ba (He.ba (He.ba (He.ba (He.ba (He.ba (He.ba (He.ba (He.ba (He.ba (He.ba (He.ba (He.ba (He.ba (He.ba (He.ba (He.ba (He.ba (He.ba (He.ba (He.ba (He.ba (He.ba (He.ba (He.ba (He.ba (He.ba (He.ba (He.ba (He.ba (He.ba (He.ba (He.ba (He.ba (He.ba (He.ba (He.ba (He.ba (He.ba (He.ba (He.ba (He.ba (He.ba (He.ba (He.ba (He.ba (He.ba (He.ba (He.ba (He.ba (He.ba (He.ba (He.ba (He.ba (He.ba (He.ba (He.ba (He.ba (He.ba (He.ba (He.ba (He.ba (He.ba (He.ba (He.ba (He.ba (He.ba (He.ba (He.ba (He.ba (He.ba (He.ba (He.ba (He.ba (He.ba (He.ba (He.ba (He.ba (He.ba (He.ba (He.ba (He.ba (He.ba (He.ba (He.ba (He.ba (He.ba (He.ba (He.ba (He.ba (He.ba (He.ba (He.ba (He.ba (He.ba (He.ba (He.ba (He.ba (He.ba (He.ba (He.ba (He.ba (He.ba (He.ba (He.ba (He.ba (He.ba (He.ba (He.ba (He.ba (He.ba (He.ba (He.ba (He.ba (He.ba (He.ba (He.ba (He.ba (He.ba (He.ba (He.ba (He.ba T.x).2).2).2).2).2).2).2).2).2).2).2).2).2).2).2).2).2).2).2).2).2).2).2).2).2).2).2).2).2).2).2).2).2).2).2).2).2).2).2).2).2).2).2).2).2).2).2).2).2).2).2).2).2).2).2).2).2).2).2).2).2).2).2).2).2).2).2).2).2).2).2).2).2).2).2).2).2).2).2).2).2).2).2).2).2).2).2).2).2).2).2).2).2).2).2).2).2).2).2).2).2).2).2).2).2).2).2).2).2).2).2).2).2).2).2).2).2).2).2).2).2).2).2).2).2).2).2).2).2).2).2).2).2).2).2).2).2).2).2).2).2).2).2).1
theorem Tx.ef_NoWeighing (T : Tx K mg) : PL.ExcF K mg "NoWeighing" := PL.excF_ok (He.ba (He.ba (He.ba (He.ba (He.ba (He.ba (He.ba (He.ba (He.ba (He.ba (He.ba (He.ba (He.ba (He.ba (He.ba (He.ba (He.ba (He.ba (He.ba (He.ba (He.ba (He.ba (He.ba (He.ba (He.ba (He.ba (He.ba (He.ba (He.ba (He.ba (He.ba (He.ba (He.ba (He.ba (He.ba (He.ba (He.ba (He.ba (He.ba (He.ba (He.ba (He.ba (He.ba (He.ba (He.ba (He.ba (He.ba (He.ba (He.ba (He.ba (He.ba (He.ba (He.ba (He.ba (He.ba (He.ba (He.ba (He.ba (He.ba (He.ba (He.ba (He.ba (He.ba (He.ba (He.ba (He.ba (He.ba (He.ba (He.ba (He.ba (He.ba (He.ba (He.ba (He.ba (He.ba (He.ba (He.ba (He.ba (He.ba (He.ba (He.ba (He.ba (He.ba (He.ba (He.ba (He.ba (He.ba (He.ba (He.ba (He.ba (He.ba (He.ba (He.ba (He.ba (He.ba (He.ba (He.ba (He.ba (He.ba (He.ba (He.ba (He.ba (He.ba (He.ba (He.ba (He.ba (He.ba (He.ba (He.ba (He.ba (He.ba (He.ba (He.ba (He.ba (He.ba (He.ba (He.ba (He.ba (He.ba (He.ba (He.ba (He.ba (He.ba (He.ba (He.ba (He.ba (He.ba (He.ba (He.ba (He.ba (He.ba (He.ba (He.ba (He.ba (He.ba (He.ba (He.ba (He.ba (He.ba (He.ba (He.ba (He.ba (He.ba (He.ba (He.ba T.x).2).2).2).2).2).2).2).2).2).2).2).2).2).2).2).2).2).2).2).2).2).2).2).2).2).2).2).2).2).2).2).2).2).2).2).2).2).2).2).2).2).2).2).2).2).2).2).2).2).2).2).2).2).2).2).2).2).2).2).2).2).2).2).2).2).2).2).2).2).2).2).2).2).2).2).2).2).2).2).2).2).2).2).2).2).2).2).2).2).2).2).2).2).2).2).2).2).2).2).2).2).2).2).2).2).2).2).2).2).2).2).2).2).2).2).2).2).2).2).2).2).2).2).2).2).2).2).2).2).2).2).2).2).2).2).2).2).2).2).2).2).2).2).2).1 T.g_NoWeighing
theorem Tx.ec_NoWeighing (T : Tx K mg) : L2.ExcC K (He.ga K "NoWeighing") := PL.excC_ok (He.ba (He.ba (He.ba (He.ba (He.ba (He.ba (He.ba (He.ba (He.ba (He.ba (He.ba (He.ba (He.ba (He.ba (He.ba (He.ba (He.ba (He.ba (He.ba (He.ba (He.ba (He.ba (He.ba (He.ba (He.ba (He.ba (He.ba (He.ba (He.ba (He.ba (He.ba (He.ba (He.ba (He.ba (He.ba (He.ba (He.ba (He.ba (He.ba (He.ba (He.ba (He.ba (He.ba (He.ba (He.ba (He.ba (He.ba (He.ba (He.ba (He.ba (He.ba (He.ba (He.ba (He.ba (He.ba (He.ba (He.ba (He.ba (He.ba (He.ba (He.ba (He.ba (He.ba (He.ba (He.ba (He.ba (He.ba (He.ba (He.ba (He.ba (He.ba (He.ba (He.ba (He.ba (He.ba (He.ba (He.ba (He.ba (He.ba (He.ba (He.ba (He.ba (He.ba (He.ba (He.ba (He.ba (He.ba (He.ba (He.ba (He.ba (He.ba (He.ba (He.ba (He.ba (He.ba (He.ba (He.ba (He.ba (He.ba (He.ba (He.ba (He.ba (He.ba (He.ba (He.ba (He.ba (He.ba (He.ba (He.ba (He.ba (He.ba (He.ba (He.ba (He.ba (He.ba (He.ba (He.ba (He.ba (He.ba (He.ba (He.ba (He.ba (He.ba (He.ba (He.ba (He.ba (He.ba (He.ba (He.ba (He.ba (He.ba (He.ba (He.ba (He.ba (He.ba (He.ba (He.ba (He.ba (He.ba (He.ba (He.ba (He.ba (He.ba (He.ba (He.ba (He.ba T.x).2).2).2).2).2).2).2).2).2).2).2).2).2).2).2).2).2).2).2).2).2).2).2).2).2).2).2).2).2).2).2).2).2).2).2).2).2).2).2).2).2).2).2).2).2).2).2).2).2).2).2).2).2).2).2).2).2).2).2).2).2).2).2).2).2).2).2).2).2).2).2).2).2).2).2).2).2).2).2).2).2).2).2).2).2).2).2).2).2).2).2).2).2).2).2).2).2).2).2).2).2).2).2).2).2).2).2).2).2).2).2).2).2).2).2).2).2).2).2).2).2).2).2).2).2).2).2).2).2).2).2).2).2).2).2).2).2).2).2).2).2).2).2).2).2).1
theorem Tx.kx_NoWeighing_Lacking (T : Tx K mg) : PySem.W.kitOne K (.ref (He.ga K "NoWeighing")) (.ref (He.ga K "Lacking")) = some false := PL.kitX_ok (He.ba (He.ba (He.ba (He.ba (He.ba (He.ba (He.ba (He.ba (He.ba (He.ba (He.ba (He.ba (He.ba (He.ba (He.ba (He.ba (He.ba (He.ba (He.ba (He.ba (He.ba (He.ba (He.ba (He.ba (He.ba (He.ba (He.ba (He.ba (He.ba (He.ba (He.ba (He.ba (He.ba (He.ba (He.ba (He.ba (He.ba (He.ba (He.ba (He.ba (He.ba (He.ba (He.ba (He.ba (He.ba (He.ba (He.ba (He.ba (He.ba (He.ba (He.ba (He.ba (He.ba (He.ba (He.ba (He.ba (He.ba (He.ba (He.ba (He.ba (He.ba (He.ba (He.ba (He.ba (He.ba (He.ba (He.ba (He.ba (He.ba (He.ba (He.ba (He.ba (He.ba (He.ba (He.ba (He.ba (He.ba (He.ba (He.ba (He.ba (He.ba (He.ba (He.ba (He.ba (He.ba (He.ba (He.ba (He.ba (He.ba (He.ba (He.ba (He.ba (He.ba (He.ba (He.ba (He.ba (He.ba (He.ba (He.ba (He.ba (He.ba (He.ba (He.ba (He.ba (He.ba (He.ba (He.ba (He.ba (He.ba (He.ba (He.ba (He.ba (He.ba (He.ba (He.ba (He.ba (He.ba (He.ba (He.ba (He.ba (He.ba (He.ba (He.ba (He.ba (He.ba (He.ba (He.ba (He.ba (He.ba (He.ba (He.ba (He.ba (He.ba (He.ba (He.ba (He.ba (He.ba (He.ba (He.ba (He.ba (He.ba (He.ba (He.ba (He.ba (He.ba (He.ba (He.ba (He.ba T.x).2).2).2).2).2).2).2).2).2).2).2).2).2).2).2).2).2).2).2).2).2).2).2).2).2).2).2).2).2).2).2).2).2).2).2).2).2).2).2).2).2).2).2).2).2).2).2).2).2).2).2).2).2).2).2).2).2).2).2).2).2).2).2).2).2).2).2).2).2).2).2).2).2).2).2).2).2).2).2).2).2).2).2).2).2).2).2).2).2).2).2).2).2).2).2).2).2).2).2).2).2).2).2).2).2).2).2).2).2).2).2).2).2).2).2).2).2).2).2).2).2).2).2).2).2).2).2).2).2).2).2).2).2).2).2).2).2).2).2).2).2).2).2).2).2).2).2).1
theorem Tx.kx_NoWeighing_NoAsking (T : Tx K mg) : PySem.W.kitOne K (.ref (He.ga K "NoWeighing")) (.ref (He.ga K "NoAsking")) = some false := PL.kitX_ok (He.ba (He.ba (He.ba (He.ba (He.ba (He.ba (He.ba (He.ba (He.ba (He.ba (He.ba (He.ba (He.ba (He.ba (He.ba (He.ba (He.ba (He.ba (He.ba (He.ba (He.ba (He.ba (He.ba (He.ba (He.ba (He.ba (He.ba (He.ba (He.ba (He.ba (He.ba (He.ba (He.ba (He.ba (He.ba (He.ba (He.ba (He.ba (He.ba (He.ba (He.ba (He.ba (He.ba (He.ba (He.ba (He.ba (He.ba (He.ba (He.ba (He.ba (He.ba (He.ba (He.ba (He.ba (He.ba (He.ba (He.ba (He.ba (He.ba (He.ba (He.ba (He.ba (He.ba (He.ba (He.ba (He.ba (He.ba (He.ba (He.ba (He.ba (He.ba (He.ba (He.ba (He.ba (He.ba (He.ba (He.ba (He.ba (He.ba (He.ba (He.ba (He.ba (He.ba (He.ba (He.ba (He.ba (He.ba (He.ba (He.ba (He.ba (He.ba (He.ba (He.ba (He.ba (He.ba (He.ba (He.ba (He.ba (He.ba (He.ba (He.ba (He.ba (He.ba (He.ba (He.ba (He.ba (He.ba (He.ba (He.ba (He.ba (He.ba (He.ba (He.ba (He.ba (He.ba (He.ba (He.ba (He.ba (He.ba (He.ba (He.ba (He.ba (He.ba (He.ba (He.ba (He.ba (He.ba (He.ba (He.ba (He.ba (He.ba (He.ba (He.ba (He.ba (He.ba (He.ba (He.ba (He.ba (He.ba (He.ba (He.ba (He.ba (He.ba (He.ba (He.ba (He.ba (He.ba (He.ba (He.ba T.x).2).2).2).2).2).2).2).2).2).2).2).2).2).2).2).2).2).2).2).2).2).2).2).2).2).2).2).2).2).2).2).2).2).2).2).2).2).2).2).2).2).2).2).2).2).2).2).2).2).2).2).2).2).2).2).2).2).2).2).2).2).2).2).2).2).2).2).2).2).2).2).2).2).2).2).2).2).2).2).2).2).2).2).2).2).2).2).2).2).2).2).2).2).2).2).2).2).2).2).2).2).2).2).2).2).2).2).2).2).2).2).2).2).2).2).2).2).2).2).2).2).2).2).2).2).2).2).2).2).2).2).2).2).2).2).2).2).2).2).2).2).2).2).2).2).2).2).2).1
theorem Tx.kx_NoWeighing_NoMake (T : Tx K mg) : PySem.W.kitOne K (.ref (He.ga K "NoWeighing")) (.ref (He.ga K "NoMake")) = some false := PL.kitX_ok (He.ba (He.ba (He.ba (He.ba (He.ba (He.ba (He.ba (He.ba (He.ba (He.ba (He.ba (He.ba (He.ba (He.ba (He.ba (He.ba (He.ba (He.ba (He.ba (He.ba (He.ba (He.ba (He.ba (He.ba (He.ba (He.ba (He.ba (He.ba (He.ba (He.ba (He.ba (He.ba (He.ba (He.ba (He.ba (He.ba (He.ba (He.ba (He.ba (He.ba (He.ba (He.ba (He.ba (He.ba (He.ba (He.ba (He.ba (He.ba (He.ba (He.ba (He.ba (He.ba (He.ba (He.ba (He.ba (He.ba (He.ba (He.ba (He.ba (He.ba (He.ba (He.ba (He.ba (He.ba (He.ba (He.ba (He.ba (He.ba (He.ba (He.ba (He.ba (He.ba (He.ba (He.ba (He.ba (He.ba (He.ba (He.ba (He.ba (He.ba (He.ba (He.ba (He.ba (He.ba (He.ba (He.ba (He.ba (He.ba (He.ba (He.ba (He.ba (He.ba (He.ba (He.ba (He.ba (He.ba (He.ba (He.ba (He.ba (He.ba (He.ba (He.ba (He.ba (He.ba (He.ba (He.ba (He.ba (He.ba (He.ba (He.ba (He.ba (He.ba (He.ba (He.ba (He.ba (He.ba (He.ba (He.ba (He.ba (He.ba (He.ba (He.ba (He.ba (He.ba (He.ba (He.ba (He.ba (He.ba (He.ba (He.ba (He.ba (He.ba (He.ba (He.ba (He.ba (He.ba (He.ba (He.ba (He.ba (He.ba (He.ba (He.ba (He.ba (He.ba (He.ba (He.ba (He.ba (He.ba (He.ba (He.ba T.x).2).2).2).2).2).2).2).2).2).2).2).2).2).2).2).2).2).2).2).2).2).2).2).2).2).2).2).2).2).2).2).2).2).2).2).2).2).2).2).2).2).2).2).2).2).2).2).2).2).2).2).2).2).2).2).2).2).2).2).2).2).2).2).2).2).2).2).2).2).2).2).2).2).2).2).2).2).2).2).2).2).2).2).2).2).2).2).2).2).2).2).2).2).2).2).2).2).2).2).2).2).2).2).2).2).2).2).2).2).2).2).2).2).2).2).2).2).2).2).2).2).2).2).2).2).2).2).2).2).2).2).2).2).2).2).2).2).2).2).2).2).2).2).2).2).2).2).2).2).1
theorem Tx.kx_NoWeighing_NoMany (T : Tx K mg) : PySem.W.kitOne K (.ref (He.ga K "NoWeighing")) (.ref (He.ga K "NoMany")) = some false := PL.kitX_ok (He.ba (He.ba (He.ba (He.ba (He.ba (He.ba (He.ba (He.ba (He.ba (He.ba (He.ba (He.ba (He.ba (He.ba (He.ba (He.ba (He.ba (He.ba (He.ba (He.ba (He.ba (He.ba (He.ba (He.ba (He.ba (He.ba (He.ba (He.ba (He.ba (He.ba (He.ba (He.ba (He.ba (He.ba (He.ba (He.ba (He.ba (He.ba (He.ba (He.ba (He.ba (He.ba (He.ba (He.ba (He.ba (He.ba (He.ba (He.ba (He.ba (He.ba (He.ba (He.ba (He.ba (He.ba (He.ba (He.ba (He.ba (He.ba (He.ba (He.ba (He.ba (He.ba (He.ba (He.ba (He.ba (He.ba (He.ba (He.ba (He.ba (He.ba (He.ba (He.ba (He.ba (He.ba (He.ba (He.ba (He.ba (He.ba (He.ba (He.ba (He.ba (He.ba (He.ba (He.ba (He.ba (He.ba (He.ba (He.ba (He.ba (He.ba (He.ba (He.ba (He.ba (He.ba (He.ba (He.ba (He.ba (He.ba (He.ba (He.ba (He.ba (He.ba (He.ba (He.ba (He.ba (He.ba (He.ba (He.ba (He.ba (He.ba (He.ba (He.ba (He.ba (He.ba (He.ba (He.ba (He.ba (He.ba (He.ba (He.ba (He.ba (He.ba (He.ba (He.ba (He.ba (He.ba (He.ba (He.ba (He.ba (He.ba (He.ba (He.ba (He.ba (He.ba (He.ba (He.ba (He.ba (He.ba (He.ba (He.ba (He.ba (He.ba (He.ba (He.ba (He.ba (He.ba (He.ba (He.ba (He.ba (He.ba (He.ba T.x).2).2).2).2).2).2).2).2).2).2).2).2).2).2).2).2).2).2).2).2).2).2).2).2).2).2).2).2).2).2).2).2).2).2).2).2).2).2).2).2).2).2).2).2).2).2).2).2).2).2).2).2).2).2).2).2).2).2).2).2).2).2).2).2).2).2).2).2).2).2).2).2).2).2).2).2).2).2).2).2).2).2).2).2).2).2).2).2).2).2).2).2).2).2).2).2).2).2).2).2).2).2).2).2).2).2).2).2).2).2).2).2).2).2).2).2).2).2).2).2).2).2).2).2).2).2).2).2).2).2).2).2).2).2).2).2).2).2).2).2).2).2).2).2).2).2).2).2).2).2).1
theorem Tx.kx_NoWeighing_NoName (T : Tx K mg) : PySem.W.kitOne K (.ref (He.ga K "NoWeighing")) (.ref (He.ga K "NoName")) = some false := PL.kitX_ok (He.ba (He.ba (He.ba (He.ba (He.ba (He.ba (He.ba (He.ba (He.ba (He.ba (He.ba (He.ba (He.ba (He.ba (He.ba (He.ba (He.ba (He.ba (He.ba (He.ba (He.ba (He.ba (He.ba (He.ba (He.ba (He.ba (He.ba (He.ba (He.ba (He.ba (He.ba (He.ba (He.ba (He.ba (He.ba (He.ba (He.ba (He.ba (He.ba (He.ba (He.ba (He.ba (He.ba (He.ba (He.ba (He.ba (He.ba (He.ba (He.ba (He.ba (He.ba (He.ba (He.ba (He.ba (He.ba (He.ba (He.ba (He.ba (He.ba (He.ba (He.ba (He.ba (He.ba (He.ba (He.ba (He.ba (He.ba (He.ba (He.ba (He.ba (He.ba (He.ba (He.ba (He.ba (He.ba (He.ba (He.ba (He.ba (He.ba (He.ba (He.ba (He.ba (He.ba (He.ba (He.ba (He.ba (He.ba (He.ba (He.ba (He.ba (He.ba (He.ba (He.ba (He.ba (He.ba (He.ba (He.ba (He.ba (He.ba (He.ba (He.ba (He.ba (He.ba (He.ba (He.ba (He.ba (He.ba (He.ba (He.ba (He.ba (He.ba (He.ba (He.ba (He.ba (He.ba (He.ba (He.ba (He.ba (He.ba (He.ba (He.ba (He.ba (He.ba (He.ba (He.ba (He.ba (He.ba (He.ba (He.ba (He.ba (He.ba (He.ba (He.ba (He.ba (He.ba (He.ba (He.ba (He.ba (He.ba (He.ba (He.ba (He.ba (He.ba (He.ba (He.ba (He.ba (He.ba (He.ba (He.ba (He.ba (He.ba (He.ba T.x).2).2).2).2).2).2).2).2).2).2).2).2).2).2).2).2).2).2).2).2).2).2).2).2).2).2).2).2).2).2).2).2).2).2).2).2).2).2).2).2).2).2).2).2).2).2).2).2).2).2).2).2).2).2).2).2).2).2).2).2).2).2).2).2).2).2).2).2).2).2).2).2).2).2).2).2).2).2).2).2).2).2).2).2).2).2).2).2).2).2).2).2).2).2).2).2).2).2).2).2).2).2).2).2).2).2).2).2).2).2).2).2).2).2).2).2).2).2).2).2).2).2).2).2).2).2).2).2).2).2).2).2).2).2).2).2).2).2).2).2).2).2).2).2).2).2).2).2).2).2).2).1
theorem Tx.kx_NoWeighing_NoPath (T : Tx K mg) : PySem.W.kitOne K (.ref (He.ga K "NoWeighing")) (.ref (He.ga K "NoPath")) = some false := PL.kitX_ok (He.ba (He.ba (He.ba (He.ba (He.ba (He.ba (He.ba (He.ba (He.ba (He.ba (He.ba (He.ba (He.ba (He.ba (He.ba (He.ba (He.ba (He.ba (He.ba (He.ba (He.ba (He.ba (He.ba (He.ba (He.ba (He.ba (He.ba (He.ba (He.ba (He.ba (He.ba (He.ba (He.ba (He.ba (He.ba (He.ba (He.ba (He.ba (He.ba (He.ba (He.ba (He.ba (He.ba (He.ba (He.ba (He.ba (He.ba (He.ba (He.ba (He.ba (He.ba (He.ba (He.ba (He.ba (He.ba (He.ba (He.ba (He.ba (He.ba (He.ba (He.ba (He.ba (He.ba (He.ba (He.ba (He.ba (He.ba (He.ba (He.ba (He.ba (He.ba (He.ba (He.ba (He.ba (He.ba (He.ba (He.ba (He.ba (He.ba (He.ba (He.ba (He.ba (He.ba (He.ba (He.ba (He.ba (He.ba (He.ba (He.ba (He.ba (He.ba (He.ba (He.ba (He.ba (He.ba (He.ba (He.ba (He.ba (He.ba (He.ba (He.ba (He.ba (He.ba (He.ba (He.ba (He.ba (He.ba (He.ba (He.ba (He.ba (He.ba (He.ba (He.ba (He.ba (He.ba (He.ba (He.ba (He.ba (He.ba (He.ba (He.ba (He.ba (He.ba (He.ba (He.ba (He.ba (He.ba (He.ba (He.ba (He.ba (He.ba (He.ba (He.ba (He.ba (He.ba (He.ba (He.ba (He.ba (He.ba (He.ba (He.ba (He.ba (He.ba (He.ba (He.ba (He.ba (He.ba (He.ba (He.ba (He.ba (He.ba (He.ba (He.ba T.x).2).2).2).2).2).2).2).2).2).2).2).2).2).2).2).2).2).2).2).2).2).2).2).2).2).2).2).2).2).2).2).2).2).2).2).2).2).2).2).2).2).2).2).2).2).2).2).2).2).2).2).2).2).2).2).2).2).2).2).2).2).2).2).2).2).2).2).2).2).2).2).2).2).2).2).2).2).2).2).2).2).2).2).2).2).2).2).2).2).2).2).2).2).2).2).2).2).2).2).2).2).2).2).2).2).2).2).2).2).2).2).2).2).2).2).2).2).2).2).2).2).2).2).2).2).2).2).2).2).2).2).2).2).2).2).2).2).2).2).2).2).2).2).2).2).2).2).2).2).2).2).2).1
theorem Tx.kx_NoWeighing_NoRow (T : Tx K mg) : PySem.W.kitOne K (.ref (He.ga K "NoWeighing")) (.ref (He.ga K "NoRow")) = some false := PL.kitX_ok (He.ba (He.ba (He.ba (He.ba (He.ba (He.ba (He.ba (He.ba (He.ba (He.ba (He.ba (He.ba (He.ba (He.ba (He.ba (He.ba (He.ba (He.ba (He.ba (He.ba (He.ba (He.ba (He.ba (He.ba (He.ba (He.ba (He.ba (He.ba (He.ba (He.ba (He.ba (He.ba (He.ba (He.ba (He.ba (He.ba (He.ba (He.ba (He.ba (He.ba (He.ba (He.ba (He.ba (He.ba (He.ba (He.ba (He.ba (He.ba (He.ba (He.ba (He.ba (He.ba (He.ba (He.ba (He.ba (He.ba (He.ba (He.ba (He.ba (He.ba (He.ba (He.ba (He.ba (He.ba (He.ba (He.ba (He.ba (He.ba (He.ba (He.ba (He.ba (He.ba (He.ba (He.ba (He.ba (He.ba (He.ba (He.ba (He.ba (He.ba (He.ba (He.ba (He.ba (He.ba (He.ba (He.ba (He.ba (He.ba (He.ba (He.ba (He.ba (He.ba (He.ba (He.ba (He.ba (He.ba (He.ba (He.ba (He.ba (He.ba (He.ba (He.ba (He.ba (He.ba (He.ba (He.ba (He.ba (He.ba (He.ba (He.ba (He.ba (He.ba (He.ba (He.ba (He.ba (He.ba (He.ba (He.ba (He.ba (He.ba (He.ba (He.ba (He.ba (He.ba (He.ba (He.ba (He.ba (He.ba (He.ba (He.ba (He.ba (He.ba (He.ba (He.ba (He.ba (He.ba (He.ba (He.ba (He.ba (He.ba (He.ba (He.ba (He.ba (He.ba (He.ba (He.ba (He.ba (He.ba (He.ba (He.ba (He.ba (He.ba (He.ba (He.ba T.x).2).2).2).2).2).2).2).2).2).2).2).2).2).2).2).2).2).2).2).2).2).2).2).2).2).2).2).2).2).2).2).2).2).2).2).2).2).2).2).2).2).2).2).2).2).2).2).2).2).2).2).2).2).2).2).2).2).2).2).2).2).2).2).2).2).2).2).2).2).2).2).2).2).2).2).2).2).2).2).2).2).2).2).2).2).2).2).2).2).2).2).2).2).2).2).2).2).2).2).2).2).2).2).2).2).2).2).2).2).2).2).2).2).2).2).2).2).2).2).2).2).2).2).2).2).2).2).2).2).2).2).2).2).2).2).2).2).2).2).2).2).2).2).2).2).2).2).2).2).2).2).2).2).1
theorem Tx.kx_NoWeighing_NoRule (T : Tx K mg) : PySem.W.kitOne K (.ref (He.ga K "NoWeighing")) (.ref (He.ga K "NoRule")) = some false := PL.kitX_ok (He.ba (He.ba (He.ba (He.ba (He.ba (He.ba (He.ba (He.ba (He.ba (He.ba (He.ba (He.ba (He.ba (He.ba (He.ba (He.ba (He.ba (He.ba (He.ba (He.ba (He.ba (He.ba (He.ba (He.ba (He.ba (He.ba (He.ba (He.ba (He.ba (He.ba (He.ba (He.ba (He.ba (He.ba (He.ba (He.ba (He.ba (He.ba (He.ba (He.ba (He.ba (He.ba (He.ba (He.ba (He.ba (He.ba (He.ba (He.ba (He.ba (He.ba (He.ba (He.ba (He.ba (He.ba (He.ba (He.ba (He.ba (He.ba (He.ba (He.ba (He.ba (He.ba (He.ba (He.ba (He.ba (He.ba (He.ba (He.ba (He.ba (He.ba (He.ba (He.ba (He.ba (He.ba (He.ba (He.ba (He.ba (He.ba (He.ba (He.ba (He.ba (He.ba (He.ba (He.ba (He.ba (He.ba (He.ba (He.ba (He.ba (He.ba (He.ba (He.ba (He.ba (He.ba (He.ba (He.ba (He.ba (He.ba (He.ba (He.ba (He.ba (He.ba (He.ba (He.ba (He.ba (He.ba (He.ba (He.ba (He.ba (He.ba (He.ba (He.ba (He.ba (He.ba (He.ba (He.ba (He.ba (He.ba (He.ba (He.ba (He.ba (He.ba (He.ba (He.ba (He.ba (He.ba (He.ba (He.ba (He.ba (He.ba (He.ba (He.ba (He.ba (He.ba (He.ba (He.ba (He.ba (He.ba (He.ba (He.ba (He.ba (He.ba (He.ba (He.ba (He.ba (He.ba (He.ba (He.ba (He.ba (He.ba (He.ba (He.ba (He.ba (He.ba (He.ba T.x).2).2).2).2).2).2).2).2).2).2).2).2).2).2).2).2).2).2).2).2).2).2).2).2).2).2).2).2).2).2).2).2).2).2).2).2).2).2).2).2).2).2).2).2).2).2).2).2).2).2).2).2).2).2).2).2).2).2).2).2).2).2).2).2).2).2).2).2).2).2).2).2).2).2).2).2).2).2).2).2).2).2).2).2).2).2).2).2).2).2).2).2).2).2).2).2).2).2).2).2).2).2).2).2).2).2).2).2).2).2).2).2).2).2).2).2).2).2).2).2).2).2).2).2).2).2).2).2).2).2).2).2).2).2).2).2).2).2).2).2).2).2).2).2).2).2).2).2).2).2).2).2).2).2).1
theorem Tx.kx_NoWeighing_NoText (T : Tx K mg) : PySem.W.kitOne K (.ref (He.ga K "NoWeighing")) (.ref (He.ga K "NoText")) = some false := PL.kitX_ok (He.ba (He.ba (He.ba (He.ba (He.ba (He.ba (He.ba (He.ba (He.ba (He.ba (He.ba (He.ba (He.ba (He.ba (He.ba (He.ba (He.ba (He.ba (He.ba (He.ba (He.ba (He.ba (He.ba (He.ba (He.ba (He.ba (He.ba (He.ba (He.ba (He.ba (He.ba (He.ba (He.ba (He.ba (He.ba (He.ba (He.ba (He.ba (He.ba (He.ba (He.ba (He.ba (He.ba (He.ba (He.ba (He.ba (He.ba (He.ba (He.ba (He.ba (He.ba (He.ba (He.ba (He.ba (He.ba (He.ba (He.ba (He.ba (He.ba (He.ba (He.ba (He.ba (He.ba (He.ba (He.ba (He.ba (He.ba (He.ba (He.ba (He.ba (He.ba (He.ba (He.ba (He.ba (He.ba (He.ba (He.ba (He.ba (He.ba (He.ba (He.ba (He.ba (He.ba (He.ba (He.ba (He.ba (He.ba (He.ba (He.ba (He.ba (He.ba (He.ba (He.ba (He.ba (He.ba (He.ba (He.ba (He.ba (He.ba (He.ba (He.ba (He.ba (He.ba (He.ba (He.ba (He.ba (He.ba (He.ba (He.ba (He.ba (He.ba (He.ba (He.ba (He.ba (He.ba (He.ba (He.ba (He.ba (He.ba (He.ba (He.ba (He.ba (He.ba (He.ba (He.ba (He.ba (He.ba (He.ba (He.ba (He.ba (He.ba (He.ba (He.ba (He.ba (He.ba (He.ba (He.ba (He.ba (He.ba (He.ba (He.ba (He.ba (He.ba (He.ba (He.ba (He.ba (He.ba (He.ba (He.ba (He.ba (He.ba (He.ba (He.ba (He.ba (He.ba (He.ba T.x).2).2).2).2).2).2).2).2).2).2).2).2).2).2).2).2).2).2).2).2).2).2).2).2).2).2).2).2).2).2).2).2).2).2).2).2).2).2).2).2).2).2).2).2).2).2).2).2).2).2).2).2).2).2).2).2).2).2).2).2).2).2).2).2).2).2).2).2).2).2).2).2).2).2).2).2).2).2).2).2).2).2).2).2).2).2).2).2).2).2).2).2).2).2).2).2).2).2).2).2).2).2).2).2).2).2).2).2).2).2).2).2).2).2).2).2).2).2).2).2).2).2).2).2).2).2).2).2).2).2).2).2).2).2).2).2).2).2).2).2).2).2).2).2).2).2).2).2).2).2).2).2).2).2).2).1
theorem Tx.kx_NoWeighing_NoWeighing (T : Tx K mg) : PySem.W.kitOne K (.ref (He.ga K "NoWeighing")) (.ref (He.ga K "NoWeighing")) = some true := PL.kitX_ok (He.ba (He.ba (He.ba (He.ba (He.ba (He.ba (He.ba (He.ba (He.ba (He.ba (He.ba (He.ba (He.ba (He.ba (He.ba (He.ba (He.ba (He.ba (He.ba (He.ba (He.ba (He.ba (He.ba (He.ba (He.ba (He.ba (He.ba (He.ba (He.ba (He.ba (He.ba (He.ba (He.ba (He.ba (He.ba (He.ba (He.ba (He.ba (He.ba (He.ba (He.ba (He.ba (He.ba (He.ba (He.ba (He.ba (He.ba (He.ba (He.ba (He.ba (He.ba (He.ba (He.ba (He.ba (He.ba (He.ba (He.ba (He.ba (He.ba (He.ba (He.ba (He.ba (He.ba (He.ba (He.ba (He.ba (He.ba (He.ba (He.ba (He.ba (He.ba (He.ba (He.ba (He.ba (He.ba (He.ba (He.ba (He.ba (He.ba (He.ba (He.ba (He.ba (He.ba (He.ba (He.ba (He.ba (He.ba (He.ba (He.ba (He.ba (He.ba (He.ba (He.ba (He.ba (He.ba (He.ba (He.ba (He.ba (He.ba (He.ba (He.ba (He.ba (He.ba (He.ba (He.ba (He.ba (He.ba (He.ba (He.ba (He.ba (He.ba (He.ba (He.ba (He.ba (He.ba (He.ba (He.ba (He.ba (He.ba (He.ba (He.ba (He.ba (He.ba (He.ba (He.ba (He.ba (He.ba (He.ba (He.ba (He.ba (He.ba (He.ba (He.ba (He.ba (He.ba (He.ba (He.ba (He.ba (He.ba (He.ba (He.ba (He.ba (He.ba (He.ba (He.ba (He.ba (He.ba (He.ba (He.ba (He.ba (He.ba (He.ba (He.ba (He.ba (He.ba (He.ba (He.ba T.x).2).2).2).2).2).2).2).2).2).2).2).2).2).2).2).2).2).2).2).2).2).2).2).2).2).2).2).2).2).2).2).2).2).2).2).2).2).2).2).2).2).2).2).2).2).2).2).2).2).2).2).2).2).2).2).2).2).2).2).2).2).2).2).2).2).2).2).2).2).2).2).2).2).2).2).2).2).2).2).2).2).2).2).2).2).2).2).2).2).2).2).2).2).2).2).2).2).2).2).2).2).2).2).2).2).2).2).2).2).2).2).2).2).2).2).2).2).2).2).2).2).2).2).2).2).2).2).2).2).2).2).2).2).2).2).2).2).2).2).2).2).2).2).2).2).2).2).2).2).2).2).2).2).2).2).2).1
theorem Tx.kx_NoWeighing_Over (T : Tx K mg) : PySem.W.kitOne K (.ref (He.ga K "NoWeighing")) (.ref (He.ga K "Over")) = some false := PL.kitX_ok (He.ba (He.ba (He.ba (He.ba (He.ba (He.ba (He.ba (He.ba (He.ba (He.ba (He.ba (He.ba (He.ba (He.ba (He.ba (He.ba (He.ba (He.ba (He.ba (He.ba (He.ba (He.ba (He.ba (He.ba (He.ba (He.ba (He.ba (He.ba (He.ba (He.ba (He.ba (He.ba (He.ba (He.ba (He.ba (He.ba (He.ba (He.ba (He.ba (He.ba (He.ba (He.ba (He.ba (He.ba (He.ba (He.ba (He.ba (He.ba (He.ba (He.ba (He.ba (He.ba (He.ba (He.ba (He.ba (He.ba (He.ba (He.ba (He.ba (He.ba (He.ba (He.ba (He.ba (He.ba (He.ba (He.ba (He.ba (He.ba (He.ba (He.ba (He.ba (He.ba (He.ba (He.ba (He.ba (He.ba (He.ba (He.ba (He.ba (He.ba (He.ba (He.ba (He.ba (He.ba (He.ba (He.ba (He.ba (He.ba (He.ba (He.ba (He.ba (He.ba (He.ba (He.ba (He.ba (He.ba (He.ba (He.ba (He.ba (He.ba (He.ba (He.ba (He.ba (He.ba (He.ba (He.ba (He.ba (He.ba (He.ba (He.ba (He.ba (He.ba (He.ba (He.ba (He.ba (He.ba (He.ba (He.ba (He.ba (He.ba (He.ba (He.ba (He.ba (He.ba (He.ba (He.ba (He.ba (He.ba (He.ba (He.ba (He.ba (He.ba (He.ba (He.ba (He.ba (He.ba (He.ba (He.ba (He.ba (He.ba (He.ba (He.ba (He.ba (He.ba (He.ba (He.ba (He.ba (He.ba (He.ba (He.ba (He.ba (He.ba (He.ba (He.ba (He.ba (He.ba (He.ba (He.ba T.x).2).2).2).2).2).2).2).2).2).2).2).2).2).2).2).2).2).2).2).2).2).2).2).2).2).2).2).2).2).2).2).2).2).2).2).2).2).2).2).2).2).2).2).2).2).2).2).2).2).2).2).2).2).2).2).2).2).2).2).2).2).2).2).2).2).2).2).2).2).2).2).2).2).2).2).2).2).2).2).2).2).2).2).2).2).2).2).2).2).2).2).2).2).2).2).2).2).2).2).2).2).2).2).2).2).2).2).2).2).2).2).2).2).2).2).2).2).2).2).2).2).2).2).2).2).2).2).2).2).2).2).2).2).2).2).2).2).2).2).2).2).2).2).2).2).2).2).2).2).2).2).2).2).2).2).2).2).1
theorem Tx.kx_NoWeighing_SearchError (T : Tx K mg) : PySem.W.kitOne K (.ref (He.ga K "NoWeighing")) (.ref (He.ga K "SearchError")) = some true := PL.kitX_ok (He.ba (He.ba (He.ba (He.ba (He.ba (He.ba (He.ba (He.ba (He.ba (He.ba (He.ba (He.ba (He.ba (He.ba (He.ba (He.ba (He.ba (He.ba (He.ba (He.ba (He.ba (He.ba (He.ba (He.ba (He.ba (He.ba (He.ba (He.ba (He.ba (He.ba (He.ba (He.ba (He.ba (He.ba (He.ba (He.ba (He.ba (He.ba (He.ba (He.ba (He.ba (He.ba (He.ba (He.ba (He.ba (He.ba (He.ba (He.ba (He.ba (He.ba (He.ba (He.ba (He.ba (He.ba (He.ba (He.ba (He.ba (He.ba (He.ba (He.ba (He.ba (He.ba (He.ba (He.ba (He.ba (He.ba (He.ba (He.ba (He.ba (He.ba (He.ba (He.ba (He.ba (He.ba (He.ba (He.ba (He.ba (He.ba (He.ba (He.ba (He.ba (He.ba (He.ba (He.ba (He.ba (He.ba (He.ba (He.ba (He.ba (He.ba (He.ba (He.ba (He.ba (He.ba (He.ba (He.ba (He.ba (He.ba (He.ba (He.ba (He.ba (He.ba (He.ba (He.ba (He.ba (He.ba (He.ba (He.ba (He.ba (He.ba (He.ba (He.ba (He.ba (He.ba (He.ba (He.ba (He.ba (He.ba (He.ba (He.ba (He.ba (He.ba (He.ba (He.ba (He.ba (He.ba (He.ba (He.ba (He.ba (He.ba (He.ba (He.ba (He.ba (He.ba (He.ba (He.ba (He.ba (He.ba (He.ba (He.ba (He.ba (He.ba (He.ba (He.ba (He.ba (He.ba (He.ba (He.ba (He.ba (He.ba (He.ba (He.ba (He.ba (He.ba (He.ba (He.ba (He.ba (He.ba (He.ba T.x).2).2).2).2).2).2).2).2).2).2).2).2).2).2).2).2).2).2).2).2).2).2).2).2).2).2).2).2).2).2).2).2).2).2).2).2).2).2).2).2).2).2).2).2).2).2).2).2).2).2).2).2).2).2).2).2).2).2).2).2).2).2).2).2).2).2).2).2).2).2).2).2).2).2).2).2).2).2).2).2).2).2).2).2).2).2).2).2).2).2).2).2).2).2).2).2).2).2).2).2).2).2).2).2).2).2).2).2).2).2).2).2).2).2).2).2).2).2).2).2).2).2).2).2).2).2).2).2).2).2).2).2).2).2).2).2).2).2).2).2).2).2).2).2).2).2).2).2).2).2).2).2).2).2).2).2).2).2).1
theorem Tx.kx_NoWeighing_ValueError (T : Tx K mg) : PySem.W.kitOne K (.ref (He.ga K "NoWeighing")) (.type "ValueError") = some true := PL.kitX_ok (He.ba (He.ba (He.ba (He.ba (He.ba (He.ba (He.ba (He.ba (He.ba (He.ba (He.ba (He.ba (He.ba (He.ba (He.ba (He.ba (He.ba (He.ba (He.ba (He.ba (He.ba (He.ba (He.ba (He.ba (He.ba (He.ba (He.ba (He.ba (He.ba (He.ba (He.ba (He.ba (He.ba (He.ba (He.ba (He.ba (He.ba (He.ba (He.ba (He.ba (He.ba (He.ba (He.ba (He.ba (He.ba (He.ba (He.ba (He.ba (He.ba (He.ba (He.ba (He.ba (He.ba (He.ba (He.ba (He.ba (He.ba (He.ba (He.ba (He.ba (He.ba (He.ba (He.ba (He.ba (He.ba (He.ba (He.ba (He.ba (He.ba (He.ba (He.ba (He.ba (He.ba (He.ba (He.ba (He.ba (He.ba (He.ba (He.ba (He.ba (He.ba (He.ba (He.ba (He.ba (He.ba (He.ba (He.ba (He.ba (He.ba (He.ba (He.ba (He.ba (He.ba (He.ba (He.ba (He.ba (He.ba (He.ba (He.ba (He.ba (He.ba (He.ba (He.ba (He.ba (He.ba (He.ba (He.ba (He.ba (He.ba (He.ba (He.ba (He.ba (He.ba (He.ba (He.ba (He.ba (He.ba (He.ba (He.ba (He.ba (He.ba (He.ba (He.ba (He.ba (He.ba (He.ba (He.ba (He.ba (He.ba (He.ba (He.ba (He.ba (He.ba (He.ba (He.ba (He.ba (He.ba (He.ba (He.ba (He.ba (He.ba (He.ba (He.ba (He.ba (He.ba (He.ba (He.ba (He.ba (He.ba (He.ba (He.ba (He.ba (He.ba (He.ba (He.ba (He.ba (He.ba (He.ba (He.ba (He.ba T.x).2).2).2).2).2).2).2).2).2).2).2).2).2).2).2).2).2).2).2).2).2).2).2).2).2).2).2).2).2).2).2).2).2).2).2).2).2).2).2).2).2).2).2).2).2).2).2).2).2).2).2).2).2).2).2).2).2).2).2).2).2).2).2).2).2).2).2).2).2).2).2).2).2).2).2).2).2).2).2).2).2).2).2).2).2).2).2).2).2).2).2).2).2).2).2).2).2).2).2).2).2).2).2).2).2).2).2).2).2).2).2).2).2).2).2).2).2).2).2).2).2).2).2).2).2).2).2).2).2).2).2).2).2).2).2).2).2).2).2).2).2).2).2).2).2).2).2).2).2).2).2).2).2).2).2).2).2).2).2).1
theorem Tx.ef_Over (T : Tx K mg) : PL.ExcF K mg "Over" := PL.excF_ok (He.ba (He.ba (He.ba (He.ba (He.ba (He.ba (He.ba (He.ba (He.ba (He.ba (He.ba (He.ba (He.ba (He.ba (He.ba (He.ba (He.ba (He.ba (He.ba (He.ba (He.ba (He.ba (He.ba (He.ba (He.ba (He.ba (He.ba (He.ba (He.ba (He.ba (He.ba (He.ba (He.ba (He.ba (He.ba (He.ba (He.ba (He.ba (He.ba (He.ba (He.ba (He.ba (He.ba (He.ba (He.ba (He.ba (He.ba (He.ba (He.ba (He.ba (He.ba (He.ba (He.ba (He.ba (He.ba (He.ba (He.ba (He.ba (He.ba (He.ba (He.ba (He.ba (He.ba (He.ba (He.ba (He.ba (He.ba (He.ba (He.ba (He.ba (He.ba (He.ba (He.ba (He.ba (He.ba (He.ba (He.ba (He.ba (He.ba (He.ba (He.ba (He.ba (He.ba (He.ba (He.ba (He.ba (He.ba (He.ba (He.ba (He.ba (He.ba (He.ba (He.ba (He.ba (He.ba (He.ba (He.ba (He.ba (He.ba (He.ba (He.ba (He.ba (He.ba (He.ba (He.ba (He.ba (He.ba (He.ba (He.ba (He.ba (He.ba (He.ba (He.ba (He.ba (He.ba (He.ba (He.ba (He.ba (He.ba (He.ba (He.ba (He.ba (He.ba (He.ba (He.ba (He.ba (He.ba (He.ba (He.ba (He.ba (He.ba (He.ba (He.ba (He.ba (He.ba (He.ba (He.ba (He.ba (He.ba (He.ba (He.ba (He.ba (He.ba (He.ba (He.ba (He.ba (He.ba (He.ba (He.ba (He.ba (He.ba (He.ba (He.ba (He.ba (He.ba (He.ba (He.ba (He.ba (He.ba (He.ba (He.ba T.x).2).2).2).2).2).2).2).2).2).2).2).2).2).2).2).2).2).2).2).2).2).2).2).2).2).2).2).2).2).2).2).2).2).2).2).2).2).2).2).2).2).2).2).2).2).2).2).2).2).2).2).2).2).2).2).2).2).2).2).2).2).2).2).2).2).2).2).2).2).2).2).2).2).2).2).2).2).2).2).2).2).2).2).2).2).2).2).2).2).2).2).2).2).2).2).2).2).2).2).2).2).2).2).2).2).2).2).2).2).2).2).2).2).2).2).2).2).2).2).2).2).2).2).2).2).2).2).2).2).2).2).2).2).2).2).2).2).2).2).2).2).2).2).2).2).2).2).2).2).2).2).2).2).2).2).2).2).2).2).2).1 T.g_Over
theorem Tx.ec_Over (T : Tx K mg) : L2.ExcC K (He.ga K "Over") := PL.excC_ok (He.ba (He.ba (He.ba (He.ba (He.ba (He.ba (He.ba (He.ba (He.ba (He.ba (He.ba (He.ba (He.ba (He.ba (He.ba (He.ba (He.ba (He.ba (He.ba (He.ba (He.ba (He.ba (He.ba (He.ba (He.ba (He.ba (He.ba (He.ba (He.ba (He.ba (He.ba (He.ba (He.ba (He.ba (He.ba (He.ba (He.ba (He.ba (He.ba (He.ba (He.ba (He.ba (He.ba (He.ba (He.ba (He.ba (He.ba (He.ba (He.ba (He.ba (He.ba (He.ba (He.ba (He.ba (He.ba (He.ba (He.ba (He.ba (He.ba (He.ba (He.ba (He.ba (He.ba (He.ba (He.ba (He.ba (He.ba (He.ba (He.ba (He.ba (He.ba (He.ba (He.ba (He.ba (He.ba (He.ba (He.ba (He.ba (He.ba (He.ba (He.ba (He.ba (He.ba (He.ba (He.ba (He.ba (He.ba (He.ba (He.ba (He.ba (He.ba (He.ba (He.ba (He.ba (He.ba (He.ba (He.ba (He.ba (He.ba (He.ba (He.ba (He.ba (He.ba (He.ba (He.ba (He.ba (He.ba (He.ba (He.ba (He.ba (He.ba (He.ba (He.ba (He.ba (He.ba (He.ba (He.ba (He.ba (He.ba (He.ba (He.ba (He.ba (He.ba (He.ba (He.ba (He.ba (He.ba (He.ba (He.ba (He.ba (He.ba (He.ba (He.ba (He.ba (He.ba (He.ba (He.ba (He.ba (He.ba (He.ba (He.ba (He.ba (He.ba (He.ba (He.ba (He.ba (He.ba (He.ba (He.ba (He.ba (He.ba (He.ba (He.ba (He.ba (He.ba (He.ba (He.ba (He.ba (He.ba (He.ba (He.ba (He.ba T.x).2).2).2).2).2).2).2).2).2).2).2).2).2).2).2).2).2).2).2).2).2).2).2).2).2).2).2).2).2).2).2).2).2).2).2).2).2).2).2).2).2).2).2).2).2).2).2).2).2).2).2).2).2).2).2).2).2).2).2).2).2).2).2).2).2).2).2).2).2).2).2).2).2).2).2).2).2).2).2).2).2).2).2).2).2).2).2).2).2).2).2).2).2).2).2).2).2).2).2).2).2).2).2).2).2).2).2).2).2).2).2).2).2).2).2).2).2).2).2).2).2).2).2).2).2).2).2).2).2).2).2).2).2).2).2).2).2).2).2).2).2).2).2).2).2).2).2).2).2).2).2).2).2).2).2).2).2).2).2).2).2).1
theorem Tx.kx_Over_Lacking (T : Tx K mg) : PySem.W.kitOne K (.ref (He.ga K "Over")) (.ref (He.ga K "Lacking")) = some false := PL.kitX_ok (He.ba (He.ba (He.ba (He.ba (He.ba (He.ba (He.ba (He.ba (He.ba (He.ba (He.ba (He.ba (He.ba (He.ba (He.ba (He.ba (He.ba (He.ba (He.ba (He.ba (He.ba (He.ba (He.ba (He.ba (He.ba (He.ba (He.ba (He.ba (He.ba (He.ba (He.ba (He.ba (He.ba (He.ba (He.ba (He.ba (He.ba (He.ba (He.ba (He.ba (He.ba (He.ba (He.ba (He.ba (He.ba (He.ba (He.ba (He.ba (He.ba (He.ba (He.ba (He.ba (He.ba (He.ba (He.ba (He.ba (He.ba (He.ba (He.ba (He.ba (He.ba (He.ba (He.ba (He.ba (He.ba (He.ba (He.ba (He.ba (He.ba (He.ba (He.ba (He.ba (He.ba (He.ba (He.ba (He.ba (He.ba (He.ba (He.ba (He.ba (He.ba (He.ba (He.ba (He.ba (He.ba (He.ba (He.ba (He.ba (He.ba (He.ba (He.ba (He.ba (He.ba (He.ba (He.ba (He.ba (He.ba (He.ba (He.ba (He.ba (He.ba (He.ba (He.ba (He.ba (He.ba (He.ba (He.ba (He.ba (He.ba (He.ba (He.ba (He.ba (He.ba (He.ba (He.ba (He.ba (He.ba (He.ba (He.ba (He.ba (He.ba (He.ba (He.ba (He.ba (He.ba (He.ba (He.ba (He.ba (He.ba (He.ba (He.ba (He.ba (He.ba (He.ba (He.ba (He.ba (He.ba (He.ba (He.ba (He.ba (He.ba (He.ba (He.ba (He.ba (He.ba (He.ba (He.ba (He.ba (He.ba (He.ba (He.ba (He.ba (He.ba (He.ba (He.ba (He.ba (He.ba (He.ba (He.ba (He.ba (He.ba (He.ba (He.ba (He.ba T.x).2).2).2).2).2).2).2).2).2).2).2).2).2).2).2).2).2).2).2).2).2).2).2).2).2).2).2).2).2).2).2).2).2).2).2).2).2).2).2).2).2).2).2).2).2).2).2).2).2).2).2).2).2).2).2).2).2).2).2).2).2).2).2).2).2).2).2).2).2).2).2).2).2).2).2).2).2).2).2).2).2).2).2).2).2).2).2).2).2).2).2).2).2).2).2).2).2).2).2).2).2).2).2).2).2).2).2).2).2).2).2).2).2).2).2).2).2).2).2).2).2).2).2).2).2).2).2).2).2).2).2).2).2).2).2).2).2).2).2).2).2).2).2).2).2).2).2).2).2).2).2).2).2).2).2).2).2).2).2).2).2).2).2).1
theorem Tx.kx_Over_NoAsking (T : Tx K mg) : PySem.W.kitOne K (.ref (He.ga K "Over")) (.ref (He.ga K "NoAsking")) = some false := PL.kitX_ok (He.ba (He.ba (He.ba (He.ba (He.ba (He.ba (He.ba (He.ba (He.ba (He.ba (He.ba (He.ba (He.ba (He.ba (He.ba (He.ba (He.ba (He.ba (He.ba (He.ba (He.ba (He.ba (He.ba (He.ba (He.ba (He.ba (He.ba (He.ba (He.ba (He.ba (He.ba (He.ba (He.ba (He.ba (He.ba (He.ba (He.ba (He.ba (He.ba (He.ba (He.ba (He.ba (He.ba (He.ba (He.ba (He.ba (He.ba (He.ba (He.ba (He.ba (He.ba (He.ba (He.ba (He.ba (He.ba (He.ba (He.ba (He.ba (He.ba (He.ba (He.ba (He.ba (He.ba (He.ba (He.ba (He.ba (He.ba (He.ba (He.ba (He.ba (He.ba (He.ba (He.ba (He.ba (He.ba (He.ba (He.ba (He.ba (He.ba (He.ba (He.ba (He.ba (He.ba (He.ba (He.ba (He.ba (He.ba (He.ba (He.ba (He.ba (He.ba (He.ba (He.ba (He.ba (He.ba (He.ba (He.ba (He.ba (He.ba (He.ba (He.ba (He.ba (He.ba (He.ba (He.ba (He.ba (He.ba (He.ba (He.ba (He.ba (He.ba (He.ba (He.ba (He.ba (He.ba (He.ba (He.ba (He.ba (He.ba (He.ba (He.ba (He.ba (He.ba (He.ba (He.ba (He.ba (He.ba (He.ba (He.ba (He.ba (He.ba (He.ba (He.ba (He.ba (He.ba (He.ba (He.ba (He.ba (He.ba (He.ba (He.ba (He.ba (He.ba (He.ba (He.ba (He.ba (He.ba (He.ba (He.ba (He.ba (He.ba (He.ba (He.ba (He.ba (He.ba (He.ba (He.ba (He.ba (He.ba (He.ba (He.ba (He.ba (He.ba (He.ba (He.ba T.x).2).2).2).2).2).2).2).2).2).2).2).2).2).2).2).2).2).2).2).2).2).2).2).2).2).2).2).2).2).2).2).2).2).2).2).2).2).2).2).2).2).2).2).2).2).2).2).2).2).2).2).2).2).2).2).2).2).2).2).2).2).2).2).2).2).2).2).2).2).2).2).2).2).2).2).2).2).2).2).2).2).2).2).2).2).2).2).2).2).2).2).2).2).2).2).2).2).2).2).2).2).2).2).2).2).2).2).2).2).2).2).2).2).2).2).2).2).2).2).2).2).2).2).2).2).2).2).2).2).2).2).2).2).2).2).2).2).2).2).2).2).2).2).2).2).2).2).2).2).2).2).2).2).2).2).2).2).2).2).2).2).2).2).2).1
theorem Tx.kx_Over_NoMake (T : Tx K mg) : PySem.W.kitOne K (.ref (He.ga K "Over")) (.ref (He.ga K "NoMake")) = some false := PL.kitX_ok (He.ba (He.ba (He.ba (He.ba (He.ba (He.ba (He.ba (He.ba (He.ba (He.ba (He.ba (He.ba (He.ba (He.ba (He.ba (He.ba (He.ba (He.ba (He.ba (He.ba (He.ba (He.ba (He.ba (He.ba (He.ba (He.ba (He.ba (He.ba (He.ba (He.ba (He.ba (He.ba (He.ba (He.ba (He.ba (He.ba (He.ba (He.ba (He.ba (He.ba (He.ba (He.ba (He.ba (He.ba (He.ba (He.ba (He.ba (He.ba (He.ba (He.ba (He.ba (He.ba (He.ba (He.ba (He.ba (He.ba (He.ba (He.ba (He.ba (He.ba (He.ba (He.ba (He.ba (He.ba (He.ba (He.ba (He.ba (He.ba (He.ba (He.ba (He.ba (He.ba (He.ba (He.ba (He.ba (He.ba (He.ba (He.ba (He.ba (He.ba (He.ba (He.ba (He.ba (He.ba (He.ba (He.ba (He.ba (He.ba (He.ba (He.ba (He.ba (He.ba (He.ba (He.ba (He.ba (He.ba (He.ba (He.ba (He.ba (He.ba (He.ba (He.ba (He.ba (He.ba (He.ba (He.ba (He.ba (He.ba (He.ba (He.ba (He.ba (He.ba (He.ba (He.ba (He.ba (He.ba (He.ba (He.ba (He.ba (He.ba (He.ba (He.ba (He.ba (He.ba (He.ba (He.ba (He.ba (He.ba (He.ba (He.ba (He.ba (He.ba (He.ba (He.ba (He.ba (He.ba (He.ba (He.ba (He.ba (He.ba (He.ba (He.ba (He.ba (He.ba (He.ba (He.ba (He.ba (He.ba (He.ba (He.ba (He.ba (He.ba (He.ba (He.ba (He.ba (He.ba (He.ba (He.ba (He.ba (He.ba (He.ba (He.ba (He.ba (He.ba (He.ba (He.ba T.x).2).2).2).2).2).2).2).2).2).2).2).2).2).2).2).2).2).2).2).2).2).2).2).2).2).2).2).2).2).2).2).2).2).2).2).2).2).2).2).2).2).2).2).2).2).2).2).2).2).2).2).2).2).2).2).2).2).2).2).2).2).2).2).2).2).2).2).2).2).2).2).2).2).2).2).2).2).2).2).2).2).2).2).2).2).2).2).2).2).2).2).2).2).2).2).2).2).2).2).2).2).2).2).2).2).2).2).2).2).2).2).2).2).2).2).2).2).2).2).2).2).2).2).2).2).2).2).2).2).2).2).2).2).2).2).2).2).2).2).2).2).2).2).2).2).2).2).2).2).2).2).2).2).2).2).2).2).2).2).2).2).2).2).2).2).1
theorem Tx.kx_Over_NoMany (T : Tx K mg) : PySem.W.kitOne K (.ref (He.ga K "Over")) (.ref (He.ga K "NoMany")) = some false := PL.kitX_ok (He.ba (He.ba (He.ba (He.ba (He.ba (He.ba (He.ba (He.ba (He.ba (He.ba (He.ba (He.ba (He.ba (He.ba (He.ba (He.ba (He.ba (He.ba (He.ba (He.ba (He.ba (He.ba (He.ba (He.ba (He.ba (He.ba (He.ba (He.ba (He.ba (He.ba (He.ba (He.ba (He.ba (He.ba (He.ba (He.ba (He.ba (He.ba (He.ba (He.ba (He.ba (He.ba (He.ba (He.ba (He.ba (He.ba (He.ba (He.ba (He.ba (He.ba (He.ba (He.ba (He.ba (He.ba (He.ba (He.ba (He.ba (He.ba (He.ba (He.ba (He.ba (He.ba (He.ba (He.ba (He.ba (He.ba (He.ba (He.ba (He.ba (He.ba (He.ba (He.ba (He.ba (He.ba (He.ba (He.ba (He.ba (He.ba (He.ba (He.ba (He.ba (He.ba (He.ba (He.ba (He.ba (He.ba (He.ba (He.ba (He.ba (He.ba (He.ba (He.ba (He.ba (He.ba (He.ba (He.ba (He.ba (He.ba (He.ba (He.ba (He.ba (He.ba (He.ba (He.ba (He.ba (He.ba (He.ba (He.ba (He.ba (He.ba (He.ba (He.ba (He.ba (He.ba (He.ba (He.ba (He.ba (He.ba (He.ba (He.ba (He.ba (He.ba (He.ba (He.ba (He.ba (He.ba (He.ba (He.ba (He.ba (He.ba (He.ba (He.ba (He.ba (He.ba (He.ba (He.ba (He.ba (He.ba (He.ba (He.ba (He.ba (He.ba (He.ba (He.ba (He.ba (He.ba (He.ba (He.ba (He.ba (He.ba (He.ba (He.ba (He.ba (He.ba (He.ba (He.ba (He.ba (He.ba (He.ba (He.ba (He.ba (He.ba (He.ba (He.ba (He.ba (He.ba (He.ba T.x).2).2).2).2).2).2).2).2).2).2).2).2).2).2).2).2).2).2).2).2).2).2).2).2).2).2).2).2).2).2).2).2).2).2).2).2).2).2).2).2).2).2).2).2).2).2).2).2).2).2).2).2).2).2).2).2).2).2).2).2).2).2).2).2).2).2).2).2).2).2).2).2).2).2).2).2).2).2).2).2).2).2).2).2).2).2).2).2).2).2).2).2).2).2).2).2).2).2).2).2).2).2).2).2).2).2).2).2).2).2).2).2).2).2).2).2).2).2).2).2).2).2).2).2).2).2).2).2).2).2).2).2).2).2).2).2).2).2).2).2).2).2).2).2).2).2).2).2).2).2).2).2).2).2).2).2).2).2).2).2).2).2).2).2).2).2).1
theorem Tx.kx_Over_NoName (T : Tx K mg) : PySem.W.kitOne K (.ref (He.ga K "Over")) (.ref (He.ga K "NoName")) = some false := PL.kitX_ok (He.ba (He.ba (He.ba (He.ba (He.ba (He.ba (He.ba (He.ba (He.ba (He.ba (He.ba (He.ba (He.ba (He.ba (He.ba (He.ba (He.ba (He.ba (He.ba (He.ba (He.ba (He.ba (He.ba (He.ba (He.ba (He.ba (He.ba (He.ba (He.ba (He.ba (He.ba (He.ba (He.ba (He.ba (He.ba (He.ba (He.ba (He.ba (He.ba (He.ba (He.ba (He.ba (He.ba (He.ba (He.ba (He.ba (He.ba (He.ba (He.ba (He.ba (He.ba (He.ba (He.ba (He.ba (He.ba (He.ba (He.ba (He.ba (He.ba (He.ba (He.ba (He.ba (He.ba (He.ba (He.ba (He.ba (He.ba (He.ba (He.ba (He.ba (He.ba (He.ba (He.ba (He.ba (He.ba (He.ba (He.ba (He.ba (He.ba (He.ba (He.ba (He.ba (He.ba (He.ba (He.ba (He.ba (He.ba (He.ba (He.ba (He.ba (He.ba (He.ba (He.ba (He.ba (He.ba (He.ba (He.ba (He.ba (He.ba (He.ba (He.ba (He.ba (He.ba (He.ba (He.ba (He.ba (He.ba (He.ba (He.ba (He.ba (He.ba (He.ba (He.ba (He.ba (He.ba (He.ba (He.ba (He.ba (He.ba (He.ba (He.ba (He.ba (He.ba (He.ba (He.ba (He.ba (He.ba (He.ba (He.ba (He.ba (He.ba (He.ba (He.ba (He.ba (He.ba (He.ba (He.ba (He.ba (He.ba (He.ba (He.ba (He.ba (He.ba (He.ba (He.ba (He.ba (He.ba (He.ba (He.ba (He.ba (He.ba (He.ba (He.ba (He.ba (He.ba (He.ba (He.ba (He.ba (He.ba (He.ba (He.ba (He.ba (He.ba (He.ba (He.ba (He.ba (He.ba (He.ba T.x).2).2).2).2).2).2).2).2).2).2).2).2).2).2).2).2).2).2).2).2).2).2).2).2).2).2).2).2).2).2).2).2).2).2).2).2).2).2).2).2).2).2).2).2).2).2).2).2).2).2).2).2).2).2).2).2).2).2).2).2).2).2).2).2).2).2).2).2).2).2).2).2).2).2).2).2).2).2).2).2).2).2).2).2).2).2).2).2).2).2).2).2).2).2).2).2).2).2).2).2).2).2).2).2).2).2).2).2).2).2).2).2).2).2).2).2).2).2).2).2).2).2).2).2).2).2).2).2).2).2).2).2).2).2).2).2).2).2).2).2).2).2).2).2).2).2).2).2).2).2).2).2).2).2).2).2).2).2).2).2).2).2).2).2).2).2).2).1
theorem Tx.kx_Over_NoPath (T : Tx K mg) : PySem.W.kitOne K (.ref (He.ga K "Over")) (.ref (He.ga K "NoPath")) = some false := PL.kitX_ok (He.ba (He.ba (He.ba (He.ba (He.ba (He.ba (He.ba (He.ba (He.ba (He.ba (He.ba (He.ba (He.ba (He.ba (He.ba (He.ba (He.ba (He.ba (He.ba (He.ba (He.ba (He.ba (He.ba (He.ba (He.ba (He.ba (He.ba (He.ba (He.ba (He.ba (He.ba (He.ba (He.ba (He.ba (He.ba (He.ba (He.ba (He.ba (He.ba (He.ba (He.ba (He.ba (He.ba (He.ba (He.ba (He.ba (He.ba (He.ba (He.ba (He.ba (He.ba (He.ba (He.ba (He.ba (He.ba (He.ba (He.ba (He.ba (He.ba (He.ba (He.ba (He.ba (He.ba (He.ba (He.ba (He.ba (He.ba (He.ba (He.ba (He.ba (He.ba (He.ba (He.ba (He.ba (He.ba (He.ba (He.ba (He.ba (He.ba (He.ba (He.ba (He.ba (He.ba (He.ba (He.ba (He.ba (He.ba (He.ba (He.ba (He.ba (He.ba (He.ba (He.ba (He.ba (He.ba (He.ba (He.ba (He.ba (He.ba (He.ba (He.ba (He.ba (He.ba (He.ba (He.ba (He.ba (He.ba (He.ba (He.ba (He.ba (He.ba (He.ba (He.ba (He.ba (He.ba (He.ba (He.ba (He.ba (He.ba (He.ba (He.ba (He.ba (He.ba (He.ba (He.ba (He.ba (He.ba (He.ba (He.ba (He.ba (He.ba (He.ba (He.ba (He.ba (He.ba (He.ba (He.ba (He.ba (He.ba (He.ba (He.ba (He.ba (He.ba (He.ba (He.ba (He.ba (He.ba (He.ba (He.ba (He.ba (He.ba (He.ba (He.ba (He.ba (He.ba (He.ba (He.ba (He.ba (He.ba (He.ba (He.ba (He.ba (He.ba (He.ba (He.ba (He.ba (He.ba (He.ba (He.ba T.x).2).2).2).2).2).2).2).2).2).2).2).2).2).2).2).2).2).2).2).2).2).2).2).2).2).2).2).2).2).2).2).2).2).2).2).2).2).2).2).2).2).2).2).2).2).2).2).2).2).2).2).2).2).2).2).2).2).2).2).2).2).2).2).2).2).2).2).2).2).2).2).2).2).2).2).2).2).2).2).2).2).2).2).2).2).2).2).2).2).2).2).2).2).2).2).2).2).2).2).2).2).2).2).2).2).2).2).2).2).2).2).2).2).2).2).2).2).2).2).2).2).2).2).2).2).2).2).2).2).2).2).2).2).2).2).2).2).2).2).2).2).2).2).2).2).2).2).2).2).2).2).2).2).2).2).2).2).2).2).2).2).2).2).2).2).2).2).2).1
theorem Tx.kx_Over_NoRow (T : Tx K mg) : PySem.W.kitOne K (.ref (He.ga K "Over")) (.ref (He.ga K "NoRow")) = some false := PL.kitX_ok (He.ba (He.ba (He.ba (He.ba (He.ba (He.ba (He.ba (He.ba (He.ba (He.ba (He.ba (He.ba (He.ba (He.ba (He.ba (He.ba (He.ba (He.ba (He.ba (He.ba (He.ba (He.ba (He.ba (He.ba (He.ba (He.ba (He.ba (He.ba (He.ba (He.ba (He.ba (He.ba (He.ba (He.ba (He.ba (He.ba (He.ba (He.ba (He.ba (He.ba (He.ba (He.ba (He.ba (He.ba (He.ba (He.ba (He.ba (He.ba (He.ba (He.ba (He.ba (He.ba (He.ba (He.ba (He.ba (He.ba (He.ba (He.ba (He.ba (He.ba (He.ba (He.ba (He.ba (He.ba (He.ba (He.ba (He.ba (He.ba (He.ba (He.ba (He.ba (He.ba (He.ba (He.ba (He.ba (He.ba (He.ba (He.ba (He.ba (He.ba (He.ba (He.ba (He.ba (He.ba (He.ba (He.ba (He.ba (He.ba (He.ba (He.ba (He.ba (He.ba (He.ba (He.ba (He.ba (He.ba (He.ba (He.ba (He.ba (He.ba (He.ba (He.ba (He.ba (He.ba (He.ba (He.ba (He.ba (He.ba (He.ba (He.ba (He.ba (He.ba (He.ba (He.ba (He.ba (He.ba (He.ba (He.ba (He.ba (He.ba (He.ba (He.ba (He.ba (He.ba (He.ba (He.ba (He.ba (He.ba (He.ba (He.ba (He.ba (He.ba (He.ba (He.ba (He.ba (He.ba (He.ba (He.ba (He.ba (He.ba (He.ba (He.ba (He.ba (He.ba (He.ba (He.ba (He.ba (He.ba (He.ba (He.ba (He.ba (He.ba (He.ba (He.ba (He.ba (He.ba (He.ba (He.ba (He.ba (He.ba (He.ba (He.ba (He.ba (He.ba (He.ba (He.ba (He.ba (He.ba (He.ba (He.ba T.x).2).2).2).2).2).2).2).2).2).2).2).2).2).2).2).2).2).2).2).2).2).2).2).2).2).2).2).2).2).2).2).2).2).2).2).2).2).2).2).2).2).2).2).2).2).2).2).2).2).2).2).2).2).2).2).2).2).2).2).2).2).2).2).2).2).2).2).2).2).2).2).2).2).2).2).2).2).2).2).2).2).2).2).2).2).2).2).2).2).2).2).2).2).2).2).2).2).2).2).2).2).2).2).2).2).2).2).2).2).2).2).2).2).2).2).2).2).2).2).2).2).2).2).2).2).2).2).2).2).2).2).2).2).2).2).2).2).2).2).2).2).2).2).2).2).2).2).2).2).2).2).2).2).2).2).2).2).2).2).2).2).2).2).2).2).2).2).2).2).1
theorem Tx.kx_Over_NoRule (T : Tx K mg) : PySem.W.kitOne K (.ref (He.ga K "Over")) (.ref (He.ga K "NoRule")) = some false := PL.kitX_ok (He.ba (He.ba (He.ba (He.ba (He.ba (He.ba (He.ba (He.ba (He.ba (He.ba (He.ba (He.ba (He.ba (He.ba (He.ba (He.ba (He.ba (He.ba (He.ba (He.ba (He.ba (He.ba (He.ba (He.ba (He.ba (He.ba (He.ba (He.ba (He.ba (He.ba (He.ba (He.ba (He.ba (He.ba (He.ba (He.ba (He.ba (He.ba (He.ba (He.ba (He.ba (He.ba (He.ba (He.ba (He.ba (He.ba (He.ba (He.ba (He.ba (He.ba (He.ba (He.ba (He.ba (He.ba (He.ba (He.ba (He.ba (He.ba (He.ba (He.ba (He.ba (He.ba (He.ba (He.ba (He.ba (He.ba (He.ba (He.ba (He.ba (He.ba (He.ba (He.ba (He.ba (He.ba (He.ba (He.ba (He.ba (He.ba (He.ba (He.ba (He.ba (He.ba (He.ba (He.ba (He.ba (He.ba (He.ba (He.ba (He.ba (He.ba (He.ba (He.ba (He.ba (He.ba (He.ba (He.ba (He.ba (He.ba (He.ba (He.ba (He.ba (He.ba (He.ba (He.ba (He.ba (He.ba (He.ba (He.ba (He.ba (He.ba (He.ba (He.ba (He.ba (He.ba (He.ba (He.ba (He.ba (He.ba (He.ba (He.ba (He.ba (He.ba (He.ba (He.ba (He.ba (He.ba (He.ba (He.ba (He.ba (He.ba (He.ba (He.ba (He.ba (He.ba (He.ba (He.ba (He.ba (He.ba (He.ba (He.ba (He.ba (He.ba (He.ba (He.ba (He.ba (He.ba (He.ba (He.ba (He.ba (He.ba (He.ba (He.ba (He.ba (He.ba (He.ba (He.ba (He.ba (He.ba (He.ba (He.ba (He.ba (He.ba (He.ba (He.ba (He.ba (He.ba (He.ba (He.ba (He.ba (He.ba (He.ba T.x).2).2).2).2).2).2).2).2).2).2).2).2).2).2).2).2).2).2).2).2).2).2).2).2).2).2).2).2).2).2).2).2).2).2).2).2).2).2).2).2).2).2).2).2).2).2).2).2).2).2).2).2).2).2).2).2).2).2).2).2).2).2).2).2).2).2).2).2).2).2).2).2).2).2).2).2).2).2).2).2).2).2).2).2).2).2).2).2).2).2).2).2).2).2).2).2).2).2).2).2).2).2).2).2).2).2).2).2).2).2).2).2).2).2).2).2).2).2).2).2).2).2).2).2).2).2).2).2).2).2).2).2).2).2).2).2).2).2).2).2).2).2).2).2).2).2).2).2).2).2).2).2).2).2).2).2).2).2).2).2).2).2).2).2).2).2).2).2).2).2).1
theorem Tx.kx_Over_NoText (T : Tx K mg) : PySem.W.kitOne K (.ref (He.ga K "Over")) (.ref (He.ga K "NoText")) = some false := PL.kitX_ok (He.ba (He.ba (He.ba (He.ba (He.ba (He.ba (He.ba (He.ba (He.ba (He.ba (He.ba (He.ba (He.ba (He.ba (He.ba (He.ba (He.ba (He.ba (He.ba (He.ba (He.ba (He.ba (He.ba (He.ba (He.ba (He.ba (He.ba (He.ba (He.ba (He.ba (He.ba (He.ba (He.ba (He.ba (He.ba (He.ba (He.ba (He.ba (He.ba (He.ba (He.ba (He.ba (He.ba (He.ba (He.ba (He.ba (He.ba (He.ba (He.ba (He.ba (He.ba (He.ba (He.ba (He.ba (He.ba (He.ba (He.ba (He.ba (He.ba (He.ba (He.ba (He.ba (He.ba (He.ba (He.ba (He.ba (He.ba (He.ba (He.ba (He.ba (He.ba (He.ba (He.ba (He.ba (He.ba (He.ba (He.ba (He.ba (He.ba (He.ba (He.ba (He.ba (He.ba (He.ba (He.ba (He.ba (He.ba (He.ba (He.ba (He.ba (He.ba (He.ba (He.ba (He.ba (He.ba (He.ba (He.ba (He.ba (He.ba (He.ba (He.ba (He.ba (He.ba (He.ba (He.ba (He.ba (He.ba (He.ba (He.ba (He.ba (He.ba (He.ba (He.ba (He.ba (He.ba (He.ba (He.ba (He.ba (He.ba (He.ba (He.ba (He.ba (He.ba (He.ba (He.ba (He.ba (He.ba (He.ba (He.ba (He.ba (He.ba (He.ba (He.ba (He.ba (He.ba (He.ba (He.ba (He.ba (He.ba (He.ba (He.ba (He.ba (He.ba (He.ba (He.ba (He.ba (He.ba (He.ba (He.ba (He.ba (He.ba (He.ba (He.ba (He.ba (He.ba (He.ba (He.ba (He.ba (He.ba (He.ba (He.ba (He.ba (He.ba (He.ba (He.ba (He.ba (He.ba (He.ba (He.ba (He.ba (He.ba (He.ba T.x).2).2).2).2).2).2).2).2).2).2).2).2).2).2).2).2).2).2).2).2).2).2).2).2).2).2).2).2).2).2).2).2).2).2).2).2).2).2).2).2).2).2).2).2).2).2).2).2).2).2).2).2).2).2).2).2).2).2).2).2).2).2).2).2).2).2).2).2).2).2).2).2).2).2).2).2).2).2).2).2).2).2).2).2).2).2).2).2).2).2).2).2).2).2).2).2).2).2).2).2).2).2).2).2).2).2).2).2).2).2).2).2).2).2).2).2).2).2).2).2).2).2).2).2).2).2).2).2).2).2).2).2).2).2).2).2).2).2).2).2).2).2).2).2).2).2).2).2).2).2).2).2).2).2).2).2).2).2).2).2).2).2).2).2).2).2).2).2).2).2).2).1
theorem Tx.kx_Over_NoWeighing (T : Tx K mg) : PySem.W.kitOne K (.ref (He.ga K "Over")) (.ref (He.ga K "NoWeighing")) = some false := PL.kitX_ok (He.ba (He.ba (He.ba (He.ba (He.ba (He.ba (He.ba (He.ba (He.ba (He.ba (He.ba (He.ba (He.ba (He.ba (He.ba (He.ba (He.ba (He.ba (He.ba (He.ba (He.ba (He.ba (He.ba (He.ba (He.ba (He.ba (He.ba (He.ba (He.ba (He.ba (He.ba (He.ba (He.ba (He.ba (He.ba (He.ba (He.ba (He.ba (He.ba (He.ba (He.ba (He.ba (He.ba (He.ba (He.ba (He.ba (He.ba (He.ba (He.ba (He.ba (He.ba (He.ba (He.ba (He.ba (He.ba (He.ba (He.ba (He.ba (He.ba (He.ba (He.ba (He.ba (He.ba (He.ba (He.ba (He.ba (He.ba (He.ba (He.ba (He.ba (He.ba (He.ba (He.ba (He.ba (He.ba (He.ba (He.ba (He.ba (He.ba (He.ba (He.ba (He.ba (He.ba (He.ba (He.ba (He.ba (He.ba (He.ba (He.ba (He.ba (He.ba (He.ba (He.ba (He.ba (He.ba (He.ba (He.ba (He.ba (He.ba (He.ba (He.ba (He.ba (He.ba (He.ba (He.ba (He.ba (He.ba (He.ba (He.ba (He.ba (He.ba (He.ba (He.ba (He.ba (He.ba (He.ba (He.ba (He.ba (He.ba (He.ba (He.ba (He.ba (He.ba (He.ba (He.ba (He.ba (He.ba (He.ba (He.ba (He.ba (He.ba (He.ba (He.ba (He.ba (He.ba (He.ba (He.ba (He.ba (He.ba (He.ba (He.ba (He.ba (He.ba (He.ba (He.ba (He.ba (He.ba (He.ba (He.ba (He.ba (He.ba (He.ba (He.ba (He.ba (He.ba (He.ba (He.ba (He.ba (He.ba (He.ba (He.ba (He.ba (He.ba (He.ba (He.ba (He.ba (He.ba (He.ba (He.ba (He.ba (He.ba (He.ba (He.ba T.x).2).2).2).2).2).2).2).2).2).2).2).2).2).2).2).2).2).2).2).2).2).2).2).2).2).2).2).2).2).2).2).2).2).2).2).2).2).2).2).2).2).2).2).2).2).2).2).2).2).2).2).2).2).2).2).2).2).2).2).2).2).2).2).2).2).2).2).2).2).2).2).2).2).2).2).2).2).2).2).2).2).2).2).2).2).2).2).2).2).2).2).2).2).2).2).2).2).2).2).2).2).2).2).2).2).2).2).2).2).2).2).2).2).2).2).2).2).2).2).2).2).2).2).2).2).2).2).2).2).2).2).2).2).2).2).2).2).2).2).2).2).2).2).2).2).2).2).2).2).2).2).2).2).2).2).2).2).2).2).2).2).2).2).2).2).2).2).2).2).2).2).2).1
theorem Tx.kx_Over_Over (T : Tx K mg) : PySem.W.kitOne K (.ref (He.ga K "Over")) (.ref (He.ga K "Over")) = some true := PL.kitX_ok (He.ba (He.ba (He.ba (He.ba (He.ba (He.ba (He.ba (He.ba (He.ba (He.ba (He.ba (He.ba (He.ba (He.ba (He.ba (He.ba (He.ba (He.ba (He.ba (He.ba (He.ba (He.ba (He.ba (He.ba (He.ba (He.ba (He.ba (He.ba (He.ba (He.ba (He.ba (He.ba (He.ba (He.ba (He.ba (He.ba (He.ba (He.ba (He.ba (He.ba (He.ba (He.ba (He.ba (He.ba (He.ba (He.ba (He.ba (He.ba (He.ba (He.ba (He.ba (He.ba (He.ba (He.ba (He.ba (He.ba (He.ba (He.ba (He.ba (He.ba (He.ba (He.ba (He.ba (He.ba (He.ba (He.ba (He.ba (He.ba (He.ba (He.ba (He.ba (He.ba (He.ba (He.ba (He.ba (He.ba (He.ba (He.ba (He.ba (He.ba (He.ba (He.ba (He.ba (He.ba (He.ba (He.ba (He.ba (He.ba (He.ba (He.ba (He.ba (He.ba (He.ba (He.ba (He.ba (He.ba (He.ba (He.ba (He.ba (He.ba (He.ba (He.ba (He.ba (He.ba (He.ba (He.ba (He.ba (He.ba (He.ba (He.ba (He.ba (He.ba (He.ba (He.ba (He.ba (He.ba (He.ba (He.ba (He.ba (He.ba (He.ba (He.ba (He.ba (He.ba (He.ba (He.ba (He.ba (He.ba (He.ba (He.ba (He.ba (He.ba (He.ba (He.ba (He.ba (He.ba (He.ba (He.ba (He.ba (He.ba (He.ba (He.ba (He.ba (He.ba (He.ba (He.ba (He.ba (He.ba (He.ba (He.ba (He.ba (He.ba (He.ba (He.ba (He.ba (He.ba (He.ba (He.ba (He.ba (He.ba (He.ba (He.ba (He.ba (He.ba (He.ba (He.ba (He.ba (He.ba (He.ba (He.ba (He.ba (He.ba (He.ba (He.ba T.x).2).2).2).2).2).2).2).2).2).2).2).2).2).2).2).2).2).2).2).2).2).2).2).2).2).2).2).2).2).2).2).2).2).2).2).2).2).2).2).2).2).2).2).2).2).2).2).2).2).2).2).2).2).2).2).2).2).2).2).2).2).2).2).2).2).2).2).2).2).2).2).2).2).2).2).2).2).2).2).2).2).2).2).2).2).2).2).2).2).2).2).2).2).2).2).2).2).2).2).2).2).2).2).2).2).2).2).2).2).2).2).2).2).2).2).2).2).2).2).2).2).2).2).2).2).2).2).2).2).2).2).2).2).2).2).2).2).2).2).2).2).2).2).2).2).2).2).2).2).2).2).2).2).2).2).2).2).2).2).2).2).2).2).2).2).2).2).2).2).2).2).2).2).1
theorem Tx.kx_Over_SearchError (T : Tx K mg) : PySem.W.kitOne K (.ref (He.ga K "Over")) (.ref (He.ga K "SearchError")) = some true := PL.kitX_ok (He.ba (He.ba (He.ba (He.ba (He.ba (He.ba (He.ba (He.ba (He.ba (He.ba (He.ba (He.ba (He.ba (He.ba (He.ba (He.ba (He.ba (He.ba (He.ba (He.ba (He.ba (He.ba (He.ba (He.ba (He.ba (He.ba (He.ba (He.ba (He.ba (He.ba (He.ba (He.ba (He.ba (He.ba (He.ba (He.ba (He.ba (He.ba (He.ba (He.ba (He.ba (He.ba (He.ba (He.ba (He.ba (He.ba (He.ba (He.ba (He.ba (He.ba (He.ba (He.ba (He.ba (He.ba (He.ba (He.ba (He.ba (He.ba (He.ba (He.ba (He.ba (He.ba (He.ba (He.ba (He.ba (He.ba (He.ba (He.ba (He.ba (He.ba (He.ba (He.ba (He.ba (He.ba (He.ba (He.ba (He.ba (He.ba (He.ba (He.ba (He.ba (He.ba (He.ba (He.ba (He.ba (He.ba (He.ba (He.ba (He.ba (He.ba (He.ba (He.ba (He.ba (He.ba (He.ba (He.ba (He.ba (He.ba (He.ba (He.ba (He.ba (He.ba (He.ba (He.ba (He.ba (He.ba (He.ba (He.ba (He.ba (He.ba (He.ba (He.ba (He.ba (He.ba (He.ba (He.ba (He.ba (He.ba (He.ba (He.ba (He.ba (He.ba (He.ba (He.ba (He.ba (He.ba (He.ba (He.ba (He.ba (He.ba (He.ba (He.ba (He.ba (He.ba (He.ba (He.ba (He.ba (He.ba (He.ba (He.ba (He.ba (He.ba (He.ba (He.ba (He.ba (He.ba (He.ba (He.ba (He.ba (He.ba (He.ba (He.ba (He.ba (He.ba (He.ba (He.ba (He.ba (He.ba (He.ba (He.ba (He.ba (He.ba (He.ba (He.ba (He.ba (He.ba (He.ba (He.ba (He.ba (He.ba (He.ba (He.ba (He.ba (He.ba (He.ba T.x).2).2).2).2).2).2).2).2).2).2).2).2).2).2).2).2).2).2).2).2).2).2).2).2).2).2).2).2).2).2).2).2).2).2).2).2).2).2).2).2).2).2).2).2).2).2).2).2).2).2).2).2).2).2).2).2).2).2).2).2).2).2).2).2).2).2).2).2).2).2).2).2).2).2).2).2).2).2).2).2).2).2).2).2).2).2).2).2).2).2).2).2).2).2).2).2).2).2).2).2).2).2).2).2).2).2).2).2).2).2).2).2).2).2).2).2).2).2).2).2).2).2).2).2).2).2).2).2).2).2).2).2).2).2).2).2).2).2).2).2).2).2).2).2).2).2).2).2).2).2).2).2).2).2).2).2).2).2).2).2).2).2).2).2).2).2).2).2).2).2).2).2).2).2).1
theorem Tx.kx_Over_ValueError (T : Tx K mg) : PySem.W.kitOne K (.ref (He.ga K "Over")) (.type "ValueError") = some true := PL.kitX_ok (He.ba (He.ba (He.ba (He.ba (He.ba (He.ba (He.ba (He.ba (He.ba (He.ba (He.ba (He.ba (He.ba (He.ba (He.ba (He.ba (He.ba (He.ba (He.ba (He.ba (He.ba (He.ba (He.ba (He.ba (He.ba (He.ba (He.ba (He.ba (He.ba (He.ba (He.ba (He.ba (He.ba (He.ba (He.ba (He.ba (He.ba (He.ba (He.ba (He.ba (He.ba (He.ba (He.ba (He.ba (He.ba (He.ba (He.ba (He.ba (He.ba (He.ba (He.ba (He.ba (He.ba (He.ba (He.ba (He.ba (He.ba (He.ba (He.ba (He.ba (He.ba (He.ba (He.ba (He.ba (He.ba (He.ba (He.ba (He.ba (He.ba (He.ba (He.ba (He.ba (He.ba (He.ba (He.ba (He.ba (He.ba (He.ba (He.ba (He.ba (He.ba (He.ba (He.ba (He.ba (He.ba (He.ba (He.ba (He.ba (He.ba (He.ba (He.ba (He.ba (He.ba (He.ba (He.ba (He.ba (He.ba (He.ba (He.ba (He.ba (He.ba (He.ba (He.ba (He.ba (He.ba (He.ba (He.ba (He.ba (He.ba (He.ba (He.ba (He.ba (He.ba (He.ba (He.ba (He.ba (He.ba (He.ba (He.ba (He.ba (He.ba (He.ba (He.ba (He.ba (He.ba (He.ba (He.ba (He.ba (He.ba (He.ba (He.ba (He.ba (He.ba (He.ba (He.ba (He.ba (He.ba (He.ba (He.ba (He.ba (He.ba (He.ba (He.ba (He.ba (He.ba (He.ba (He.ba (He.ba (He.ba (He.ba (He.ba (He.ba (He.ba (He.ba (He.ba (He.ba (He.ba (He.ba (He.ba (He.ba (He.ba (He.ba (He.ba (He.ba (He.ba (He.ba (He.ba (He.ba (He.ba (He.ba (He.ba (He.ba (He.ba (He.ba (He.ba (He.ba T.x).2).2).2).2).2).2).2).2).2).2).2).2).2).2).2).2).2).2).2).2).2).2).2).2).2).2).2).2).2).2).2).2).2).2).2).2).2).2).2).2).2).2).2).2).2).2).2).2).2).2).2).2).2).2).2).2).2).2).2).2).2).2).2).2).2).2).2).2).2).2).2).2).2).2).2).2).2).2).2).2).2).2).2).2).2).2).2).2).2).2).2).2).2).2).2).2).2).2).2).2).2).2).2).2).2).2).2).2).2).2).2).2).2).2).2).2).2).2).2).2).2).2).2).2).2).2).2).2).2).2).2).2).2).2).2).2).2).2).2).2).2).2).2).2).2).2).2).2).2).2).2).2).2).2).2).2).2).2).2).2).2).2).2).2).2).2).2).2).2).2).2).2).2).2).2).1
theorem Tx.ef_SearchError (T : Tx K mg) : PL.ExcF K mg "SearchError" := PL.excF_ok (He.ba (He.ba (He.ba (He.ba (He.ba (He.ba (He.ba (He.ba (He.ba (He.ba (He.ba (He.ba (He.ba (He.ba (He.ba (He.ba (He.ba (He.ba (He.ba (He.ba (He.ba (He.ba (He.ba (He.ba (He.ba (He.ba (He.ba (He.ba (He.ba (He.ba (He.ba (He.ba (He.ba (He.ba (He.ba (He.ba (He.ba (He.ba (He.ba (He.ba (He.ba (He.ba (He.ba (He.ba (He.ba (He.ba (He.ba (He.ba (He.ba (He.ba (He.ba (He.ba (He.ba (He.ba (He.ba (He.ba (He.ba (He.ba (He.ba (He.ba (He.ba (He.ba (He.ba (He.ba (He.ba (He.ba (He.ba (He.ba (He.ba (He.ba (He.ba (He.ba (He.ba (He.ba (He.ba (He.ba (He.ba (He.ba (He.ba (He.ba (He.ba (He.ba (He.ba (He.ba (He.ba (He.ba (He.ba (He.ba (He.ba (He.ba (He.ba (He.ba (He.ba (He.ba (He.ba (He.ba (He.ba (He.ba (He.ba (He.ba (He.ba (He.ba (He.ba (He.ba (He.ba (He.ba (He.ba (He.ba (He.ba (He.ba (He.ba (He.ba (He.ba (He.ba (He.ba (He.ba (He.ba (He.ba (He.ba (He.ba (He.ba (He.ba (He.ba (He.ba (He.ba (He.ba (He.ba (He.ba (He.ba (He.ba (He.ba (He.ba (He.ba (He.ba (He.ba (He.ba (He.ba (He.ba (He.ba (He.ba (He.ba (He.ba (He.ba (He.ba (He.ba (He.ba (He.ba (He.ba (He.ba (He.ba (He.ba (He.ba (He.ba (He.ba (He.ba (He.ba (He.ba (He.ba (He.ba (He.ba (He.ba (He.ba (He.ba (He.ba (He.ba (He.ba (He.ba (He.ba (He.ba (He.ba (He.ba (He.ba (He.ba (He.ba (He.ba (He.ba (He.ba T.x).2).2).2).2).2).2).2).2).2).2).2).2).2).2).2).2).2).2).2).2).2).2).2).2).2).2).2).2).2).2).2).2).2).2).2).2).2).2).2).2).2).2).2).2).2).2).2).2).2).2).2).2).2).2).2).2).2).2).2).2).2).2).2).2).2).2).2).2).2).2).2).2).2).2).2).2).2).2).2).2).2).2).2).2).2).2).2).2).2).2).2).2).2).2).2).2).2).2).2).2).2).2).2).2).2).2).2).2).2).2).2).2).2).2).2).2).2).2).2).2).2).2).2).2).2).2).2).2).2).2).2).2).2).2).2).2).2).2).2).2).2).2).2).2).2).2).2).2).2).2).2).2).2).2).2).2).2).2).2).2).2).2).2).2).2).2).2).2).2).2).2).2).2).2).2).2).1 T.g_SearchError
theorem Tx.ec_SearchError (T : Tx K mg) : L2.ExcC K (He.ga K "SearchError") := PL.excC_ok (He.ba (He.ba (He.ba (He.ba (He.ba (He.ba (He.ba (He.ba (He.ba (He.ba (He.ba (He.ba (He.ba (He.ba (He.ba (He.ba (He.ba (He.ba (He.ba (He.ba (He.ba (He.ba (He.ba (He.ba (He.ba (He.ba (He.ba (He.ba (He.ba (He.ba (He.ba (He.ba (He.ba (He.ba (He.ba (He.ba (He.ba (He.ba (He.ba (He.ba (He.ba (He.ba (He.ba (He.ba (He.ba (He.ba (He.ba (He.ba (He.ba (He.ba (He.ba (He.ba (He.ba (He.ba (He.ba (He.ba (He.ba (He.ba (He.ba (He.ba (He.ba (He.ba (He.ba (He.ba (He.ba (He.ba (He.ba (He.ba (He.ba (He.ba (He.ba (He.ba (He.ba (He.ba (He.ba (He.ba (He.ba (He.ba (He.ba (He.ba (He.ba (He.ba (He.ba (He.ba (He.ba (He.ba (He.ba (He.ba (He.ba (He.ba (He.ba (He.ba (He.ba (He.ba (He.ba (He.ba (He.ba (He.ba (He.ba (He.ba (He.ba (He.ba (He.ba (He.ba (He.ba (He.ba (He.ba (He.ba (He.ba (He.ba (He.ba (He.ba (He.ba (He.ba (He.ba (He.ba (He.ba (He.ba (He.ba (He.ba (He.ba (He.ba (He.ba (He.ba (He.ba (He.ba (He.ba (He.ba (He.ba (He.ba (He.ba (He.ba (He.ba (He.ba (He.ba (He.ba (He.ba (He.ba (He.ba (He.ba (He.ba (He.ba (He.ba (He.ba (He.ba (He.ba (He.ba (He.ba (He.ba (He.ba (He.ba (He.ba (He.ba (He.ba (He.ba (He.ba (He.ba (He.ba (He.ba (He.ba (He.ba (He.ba (He.ba (He.ba (He.ba (He.ba (He.ba (He.ba (He.ba (He.ba (He.ba (He.ba (He.ba (He.ba (He.ba (He.ba (He.ba (He.ba T.x).2).2).2).2).2).2).2).2).2).2).2).2).2).2).2).2).2).2).2).2).2).2).2).2).2).2).2).2).2).2).2).2).2).2).2).2).2).2).2).2).2).2).2).2).2).2).2).2).2).2).2).2).2).2).2).2).2).2).2).2).2).2).2).2).2).2).2).2).2).2).2).2).2).2).2).2).2).2).2).2).2).2).2).2).2).2).2).2).2).2).2).2).2).2).2).2).2).2).2).2).2).2).2).2).2).2).2).2).2).2).2).2).2).2).2).2).2).2).2).2).2).2).2).2).2).2).2).2).2).2).2).2).2).2).2).2).2).2).2).2).2).2).2).2).2).2).2).2).2).2).2).2).2).2).2).2).2).2).2).2).2).2).2).2).2).2).2).2).2).2).2).2).2).2).2).2).2).1
theorem Tx.kx_SearchError_Lacking (T : Tx K mg) : PySem.W.kitOne K (.ref (He.ga K "SearchError")) (.ref (He.ga K "Lacking")) = some false := PL.kitX_ok (He.ba (He.ba (He.ba (He.ba (He.ba (He.ba (He.ba (He.ba (He.ba (He.ba (He.ba (He.ba (He.ba (He.ba (He.ba (He.ba (He.ba (He.ba (He.ba (He.ba (He.ba (He.ba (He.ba (He.ba (He.ba (He.ba (He.ba (He.ba (He.ba (He.ba (He.ba (He.ba (He.ba (He.ba (He.ba (He.ba (He.ba (He.ba (He.ba (He.ba (He.ba (He.ba (He.ba (He.ba (He.ba (He.ba (He.ba (He.ba (He.ba (He.ba (He.ba (He.ba (He.ba (He.ba (He.ba (He.ba (He.ba (He.ba (He.ba (He.ba (He.ba (He.ba (He.ba (He.ba (He.ba (He.ba (He.ba (He.ba (He.ba (He.ba (He.ba (He.ba (He.ba (He.ba (He.ba (He.ba (He.ba (He.ba (He.ba (He.ba (He.ba (He.ba (He.ba (He.ba (He.ba (He.ba (He.ba (He.ba (He.ba (He.ba (He.ba (He.ba (He.ba (He.ba (He.ba (He.ba (He.ba (He.ba (He.ba (He.ba (He.ba (He.ba (He.ba (He.ba (He.ba (He.ba (He.ba (He.ba (He.ba (He.ba (He.ba (He.ba (He.ba (He.ba (He.ba (He.ba (He.ba (He.ba (He.ba (He.ba (He.ba (He.ba (He.ba (He.ba (He.ba (He.ba (He.ba (He.ba (He.ba (He.ba (He.ba (He.ba (He.ba (He.ba (He.ba (He.ba (He.ba (He.ba (He.ba (He.ba (He.ba (He.ba (He.ba (He.ba (He.ba (He.ba (He.ba (He.ba (He.ba (He.ba (He.ba (He.ba (He.ba (He.ba (He.ba (He.ba (He.ba (He.ba (He.ba (He.ba (He.ba (He.ba (He.ba (He.ba (He.ba (He.ba (He.ba (He.ba (He.ba (He.ba (He.ba (He.ba (He.ba (He.ba (He.ba (He.ba (He.ba (He.ba (He.ba (He.ba T.x).2).2).2).2).2).2).2).2).2).2).2).2).2).2).2).2).2).2).2).2).2).2).2).2).2).2).2).2).2).2).2).2).2).2).2).2).2).2).2).2).2).2).2).2).2).2).2).2).2).2).2).2).2).2).2).2).2).2).2).2).2).2).2).2).2).2).2).2).2).2).2).2).2).2).2).2).2).2).2).2).2).2).2).2).2).2).2).2).2).2).2).2).2).2).2).2).2).2).2).2).2).2).2).2).2).2).2).2).2).2).2).2).2).2).2).2).2).2).2).2).2).2).2).2).2).2).2).2).2).2).2).2).2).2).2).2).2).2).2).2).2).2).2).2).2).2).2).2).2).2).2).2).2).2).2).2).2).2).2).2).2).2).2).2).2).2).2).2).2).2).2).2).2).2).2).2).2).2).2).1
theorem Tx.kx_SearchError_NoAsking (T : Tx K mg) : PySem.W.kitOne K (.ref (He.ga K "SearchError")) (.ref (He.ga K "NoAsking")) = some false := PL.kitX_ok (He.ba (He.ba (He.ba (He.ba (He.ba (He.ba (He.ba (He.ba (He.ba (He.ba (He.ba (He.ba (He.ba (He.ba (He.ba (He.ba (He.ba (He.ba (He.ba (He.ba (He.ba (He.ba (He.ba (He.ba (He.ba (He.ba (He.ba (He.ba (He.ba (He.ba (He.ba (He.ba (He.ba (He.ba (He.ba (He.ba (He.ba (He.ba (He.ba (He.ba (He.ba (He.ba (He.ba (He.ba (He.ba (He.ba (He.ba (He.ba (He.ba (He.ba (He.ba (He.ba (He.ba (He.ba (He.ba (He.ba (He.ba (He.ba (He.ba (He.ba (He.ba (He.ba (He.ba (He.ba (He.ba (He.ba (He.ba (He.ba (He.ba (He.ba (He.ba (He.ba (He.ba (He.ba (He.ba (He.ba (He.ba (He.ba (He.ba (He.ba (He.ba (He.ba (He.ba (He.ba (He.ba (He.ba (He.ba (He.ba (He.ba (He.ba (He.ba (He.ba (He.ba (He.ba (He.ba (He.ba (He.ba (He.ba (He.ba (He.ba (He.ba (He.ba (He.ba (He.ba (He.ba (He.ba (He.ba (He.ba (He.ba (He.ba (He.ba (He.ba (He.ba (He.ba (He.ba (He.ba (He.ba (He.ba (He.ba (He.ba (He.ba (He.ba (He.ba (He.ba (He.ba (He.ba (He.ba (He.ba (He.ba (He.ba (He.ba (He.ba (He.ba (He.ba (He.ba (He.ba (He.ba (He.ba (He.ba (He.ba (He.ba (He.ba (He.ba (He.ba (He.ba (He.ba (He.ba (He.ba (He.ba (He.ba (He.ba (He.ba (He.ba (He.ba (He.ba (He.ba (He.ba (He.ba (He.ba (He.ba (He.ba (He.ba (He.ba (He.ba (He.ba (He.ba (He.ba (He.ba (He.ba (He.ba (He.ba (He.ba (He.ba (He.ba (He.ba (He.ba (He.ba (He.ba (He.ba (He.ba (He.ba T.x).2).2).2).2).2).2).2).2).2).2).2).2).2).2).2).2).2).2).2).2).2).2).2).2).2).2).2).2).2).2).2).2).2).2).2).2).2).2).2).2).2).2).2).2).2).2).2).2).2).2).2).2).2).2).2).2).2).2).2).2).2).2).2).2).2).2).2).2).2).2).2).2).2).2).2).2).2).2).2).2).2).2).2).2).2).2).2).2).2).2).2).2).2).2).2).2).2).2).2).2).2).2).2).2).2).2).2).2).2).2).2).2).2).2).2).2).2).2).2).2).2).2).2).2).2).2).2).2).2).2).2).2).2).2).2).2).2).2).2).2).2).2).2).2).2).2).2).2).2).2).2).2).2).2).2).2).2).2).2).2).2).2).2).2).2).2).2).2).2).2).2).2).2).2).2).2).2).2).2).2).1
theorem Tx.kx_SearchError_NoMake (T : Tx K mg) : PySem.W.kitOne K (.ref (He.ga K "SearchError")) (.ref (He.ga K "NoMake")) = some false := PL.kitX_ok (He.ba (He.ba (He.ba (He.ba (He.ba (He.ba (He.ba (He.ba (He.ba (He.ba (He.ba (He.ba (He.ba (He.ba (He.ba (He.ba (He.ba (He.ba (He.ba (He.ba (He.ba (He.ba (He.ba (He.ba (He.ba (He.ba (He.ba (He.ba (He.ba (He.ba (He.ba (He.ba (He.ba (He.ba (He.ba (He.ba (He.ba (He.ba (He.ba (He.ba (He.ba (He.ba (He.ba (He.ba (He.ba (He.ba (He.ba (He.ba (He.ba (He.ba (He.ba (He.ba (He.ba (He.ba (He.ba (He.ba (He.ba (He.ba (He.ba (He.ba (He.ba (He.ba (He.ba (He.ba (He.ba (He.ba (He.ba (He.ba (He.ba (He.ba (He.ba (He.ba (He.ba (He.ba (He.ba (He.ba (He.ba (He.ba (He.ba (He.ba (He.ba (He.ba (He.ba (He.ba (He.ba (He.ba (He.ba (He.ba (He.ba (He.ba (He.ba (He.ba (He.ba (He.ba (He.ba (He.ba (He.ba (He.ba (He.ba (He.ba (He.ba (He.ba (He.ba (He.ba (He.ba (He.ba (He.ba (He.ba (He.ba (He.ba (He.ba (He.ba (He.ba (He.ba (He.ba (He.ba (He.ba (He.ba (He.ba (He.ba (He.ba (He.ba (He.ba (He.ba (He.ba (He.ba (He.ba (He.ba (He.ba (He.ba (He.ba (He.ba (He.ba (He.ba (He.ba (He.ba (He.ba (He.ba (He.ba (He.ba (He.ba (He.ba (He.ba (He.ba (He.ba (He.ba (He.ba (He.ba (He.ba (He.ba (He.ba (He.ba (He.ba (He.ba (He.ba (He.ba (He.ba (He.ba (He.ba (He.ba (He.ba (He.ba (He.ba (He.ba (He.ba (He.ba (He.ba (He.ba (He.ba (He.ba (He.ba (He.ba (He.ba (He.ba (He.ba (He.ba (He.ba (He.ba (He.ba (He.ba (He.ba (He.ba T.x).2).2).2).2).2).2).2).2).2).2).2).2).2).2).2).2).2).2).2).2).2).2).2).2).2).2).2).2).2).2).2).2).2).2).2).2).2).2).2).2).2).2).2).2).2).2).2).2).2).2).2).2).2).2).2).2).2).2).2).2).2).2).2).2).2).2).2).2).2).2).2).2).2).2).2).2).2).2).2).2).2).2).2).2).2).2).2).2).2).2).2).2).2).2).2).2).2).2).2).2).2).2).2).2).2).2).2).2).2).2).2).2).2).2).2).2).2).2).2).2).2).2).2).2).2).2).2).2).2).2).2).2).2).2).2).2).2).2).2).2).2).2).2).2).2).2).2).2).2).2).2).2).2).2).2).2).2).2).2).2).2).2).2).2).2).2).2).2).2).2).2).2).2).2).2).2).2).2).2).2).2).1
theorem Tx.kx_SearchError_NoMany (T : Tx K mg) : PySem.W.kitOne K (.ref (He.ga K "SearchError")) (.ref (He.ga K "NoMany")) = some false := PL.kitX_ok (He.ba (He.ba (He.ba (He.ba (He.ba (He.ba (He.ba (He.ba (He.ba (He.ba (He.ba (He.ba (He.ba (He.ba (He.ba (He.ba (He.ba (He.ba (He.ba (He.ba (He.ba (He.ba (He.ba (He.ba (He.ba (He.ba (He.ba (He.ba (He.ba (He.ba (He.ba (He.ba (He.ba (He.ba (He.ba (He.ba (He.ba (He.ba (He.ba (He.ba (He.ba (He.ba (He.ba (He.ba (He.ba (He.ba (He.ba (He.ba (He.ba (He.ba (He.ba (He.ba (He.ba (He.ba (He.ba (He.ba (He.ba (He.ba (He.ba (He.ba (He.ba (He.ba (He.ba (He.ba (He.ba (He.ba (He.ba (He.ba (He.ba (He.ba (He.ba (He.ba (He.ba (He.ba (He.ba (He.ba (He.ba (He.ba (He.ba (He.ba (He.ba (He.ba (He.ba (He.ba (He.ba (He.ba (He.ba (He.ba (He.ba (He.ba (He.ba (He.ba (He.ba (He.ba (He.ba (He.ba (He.ba (He.ba (He.ba (He.ba (He.ba (He.ba (He.ba (He.ba (He.ba (He.ba (He.ba (He.ba (He.ba (He.ba (He.ba (He.ba (He.ba (He.ba (He.ba (He.ba (He.ba (He.ba (He.ba (He.ba (He.ba (He.ba (He.ba (He.ba (He.ba (He.ba (He.ba (He.ba (He.ba (He.ba (He.ba (He.ba (He.ba (He.ba (He.ba (He.ba (He.ba (He.ba (He.ba (He.ba (He.ba (He.ba (He.ba (He.ba (He.ba (He.ba (He.ba (He.ba (He.ba (He.ba (He.ba (He.ba (He.ba (He.ba (He.ba (He.ba (He.ba (He.ba (He.ba (He.ba (He.ba (He.ba (He.ba (He.ba (He.ba (He.ba (He.ba (He.ba (He.ba (He.ba (He.ba (He.ba (He.ba (He.ba (He.ba (He.ba (He.ba (He.ba (He.ba (He.ba (He.ba (He.ba (He.ba T.x).2).2).2).2).2).2).2).2).2).2).2).2).2).2).2).2).2).2).2).2).2).2).2).2).2).2).2).2).2).2).2).2).2).2).2).2).2).2).2).2).2).2).2).2).2).2).2).2).2).2).2).2).2).2).2).2).2).2).2).2).2).2).2).2).2).2).2).2).2).2).2).2).2).2).2).2).2).2).2).2).2).2).2).2).2).2).2).2).2).2).2).2).2).2).2).2).2).2).2).2).2).2).2).2).2).2).2).2).2).2).2).2).2).2).2).2).2).2).2).2).2).2).2).2).2).2).2).2).2).2).2).2).2).2).2).2).2).2).2).2).2).2).2).2).2).2).2).2).2).2).2).2).2).2).2).2).2).2).2).2).2).2).2).2).2).2).2).2).2).2).2).2).2).2).2).2).2).2).2).2).2).2).1
theorem Tx.kx_SearchError_NoName (T : Tx K mg) : PySem.W.kitOne K (.ref (He.ga K "SearchError")) (.ref (He.ga K "NoName")) = some false := PL.kitX_ok (He.ba (He.ba (He.ba (He.ba (He.ba (He.ba (He.ba (He.ba (He.ba (He.ba (He.ba (He.ba (He.ba (He.ba (He.ba (He.ba (He.ba (He.ba (He.ba (He.ba (He.ba (He.ba (He.ba (He.ba (He.ba (He.ba (He.ba (He.ba (He.ba (He.ba (He.ba (He.ba (He.ba (He.ba (He.ba (He.ba (He.ba (He.ba (He.ba (He.ba (He.ba (He.ba (He.ba (He.ba (He.ba (He.ba (He.ba (He.ba (He.ba (He.ba (He.ba (He.ba (He.ba (He.ba (He.ba (He.ba (He.ba (He.ba (He.ba (He.ba (He.ba (He.ba (He.ba (He.ba (He.ba (He.ba (He.ba (He.ba (He.ba (He.ba (He.ba (He.ba (He.ba (He.ba (He.ba (He.ba (He.ba (He.ba (He.ba (He.ba (He.ba (He.ba (He.ba (He.ba (He.ba (He.ba (He.ba (He.ba (He.ba (He.ba (He.ba (He.ba (He.ba (He.ba (He.ba (He.ba (He.ba (He.ba (He.ba (He.ba (He.ba (He.ba (He.ba (He.ba (He.ba (He.ba (He.ba (He.ba (He.ba (He.ba (He.ba (He.ba (He.ba (He.ba (He.ba (He.ba (He.ba (He.ba (He.ba (He.ba (He.ba (He.ba (He.ba (He.ba (He.ba (He.ba (He.ba (He.ba (He.ba (He.ba (He.ba (He.ba (He.ba (He.ba (He.ba (He.ba (He.ba (He.ba (He.ba (He.ba (He.ba (He.ba (He.ba (He.ba (He.ba (He.ba (He.ba (He.ba (He.ba (He.ba (He.ba (He.ba (He.ba (He.ba (He.ba (He.ba (He.ba (He.ba (He.ba (He.ba (He.ba (He.ba (He.ba (He.ba (He.ba (He.ba (He.ba (He.ba (He.ba (He.ba (He.ba (He.ba (He.ba (He.ba (He.ba (He.ba (He.ba (He.ba (He.ba (He.ba (He.ba (He.ba (He.ba (He.ba T.x).2).2).2).2).2).2).2).2).2).2).2).2).2).2).2).2).2).2).2).2).2).2).2).2).2).2).2).2).2).2).2).2).2).2).2).2).2).2).2).2).2).2).2).2).2).2).2).2).2).2).2).2).2).2).2).2).2).2).2).2).2).2).2).2).2).2).2).2).2).2).2).2).2).2).2).2).2).2).2).2).2).2).2).2).2).2).2).2).2).2).2).2).2).2).2).2).2).2).2).2).2).2).2).2).2).2).2).2).2).2).2).2).2).2).2).2).2).2).2).2).2).2).2).2).2).2).2).2).2).2).2).2).2).2).2).2).2).2).2).2).2).2).2).2).2).2).2).2).2).2).2).2).2).2).2).2).2).2).2).2).2).2).2).2).2).2).2).2).2).2).2).2).2).2).2).2).2).2).2).2).2).2).2).1
theorem Tx.kx_SearchError_NoPath (T : Tx K mg) : PySem.W.kitOne K (.ref (He.ga K "SearchError")) (.ref (He.ga K "NoPath")) = some false := PL.kitX_ok (He.ba (He.ba (He.ba (He.ba (He.ba (He.ba (He.ba (He.ba (He.ba (He.ba (He.ba (He.ba (He.ba (He.ba (He.ba (He.ba (He.ba (He.ba (He.ba (He.ba (He.ba (He.ba (He.ba (He.ba (He.ba (He.ba (He.ba (He.ba (He.ba (He.ba (He.ba (He.ba (He.ba (He.ba (He.ba (He.ba (He.ba (He.ba (He.ba (He.ba (He.ba (He.ba (He.ba (He.ba (He.ba (He.ba (He.ba (He.ba (He.ba (He.ba (He.ba (He.ba (He.ba (He.ba (He.ba (He.ba (He.ba (He.ba (He.ba (He.ba (He.ba (He.ba (He.ba (He.ba (He.ba (He.ba (He.ba (He.ba (He.ba (He.ba (He.ba (He.ba (He.ba (He.ba (He.ba (He.ba (He.ba (He.ba (He.ba (He.ba (He.ba (He.ba (He.ba (He.ba (He.ba (He.ba (He.ba (He.ba (He.ba (He.ba (He.ba (He.ba (He.ba (He.ba (He.ba (He.ba (He.ba (He.ba (He.ba (He.ba (He.ba (He.ba (He.ba (He.ba (He.ba (He.ba (He.ba (He.ba (He.ba (He.ba (He.ba (He.ba (He.ba (He.ba (He.ba (He.ba (He.ba (He.ba (He.ba (He.ba (He.ba (He.ba (He.ba (He.ba (He.ba (He.ba (He.ba (He.ba (He.ba (He.ba (He.ba (He.ba (He.ba (He.ba (He.ba (He.ba (He.ba (He.ba (He.ba (He.ba (He.ba (He.ba (He.ba (He.ba (He.ba (He.ba (He.ba (He.ba (He.ba (He.ba (He.ba (He.ba (He.ba (He.ba (He.ba (He.ba (He.ba (He.ba (He.ba (He.ba (He.ba (He.ba (He.ba (He.ba (He.ba (He.ba (He.ba (He.ba (He.ba (He.ba (He.ba (He.ba (He.ba (He.ba (He.ba (He.ba (He.ba (He.ba (He.ba (He.ba (He.ba (He.ba (He.ba (He.ba (He.ba T.x).2).2).2).2).2).2).2).2).2).2).2).2).2).2).2).2).2).2).2).2).2).2).2).2).2).2).2).2).2).2).2).2).2).2).2).2).2).2).2).2).2).2).2).2).2).2).2).2).2).2).2).2).2).2).2).2).2).2).2).2).2).2).2).2).2).2).2).2).2).2).2).2).2).2).2).2).2).2).2).2).2).2).2).2).2).2).2).2).2).2).2).2).2).2).2).2).2).2).2).2).2).2).2).2).2).2).2).2).2).2).2).2).2).2).2).2).2).2).2).2).2).2).2).2).2).2).2).2).2).2).2).2).2).2).2).2).2).2).2).2).2).2).2).2).2).2).2).2).2).2).2).2).2).2).2).2).2).2).2).2).2).2).2).2).2).2).2).2).2).2).2).2).2).2).2).2).2).2).2).2).2).2).2).2).1
theorem Tx.kx_SearchError_NoRow (T : Tx K mg) : PySem.W.kitOne K (.ref (He.ga K "SearchError")) (.ref (He.ga K "NoRow")) = some false := PL.kitX_ok (He.ba (He.ba (He.ba (He.ba (He.ba (He.ba (He.ba (He.ba (He.ba (He.ba (He.ba (He.ba (He.ba (He.ba (He.ba (He.ba (He.ba (He.ba (He.ba (He.ba (He.ba (He.ba (He.ba (He.ba (He.ba (He.ba (He.ba (He.ba (He.ba (He.ba (He.ba (He.ba (He.ba (He.ba (He.ba (He.ba (He.ba (He.ba (He.ba (He.ba (He.ba (He.ba (He.ba (He.ba (He.ba (He.ba (He.ba (He.ba (He.ba (He.ba (He.ba (He.ba (He.ba (He.ba (He.ba (He.ba (He.ba (He.ba (He.ba (He.ba (He.ba (He.ba (He.ba (He.ba (He.ba (He.ba (He.ba (He.ba (He.ba (He.ba (He.ba (He.ba (He.ba (He.ba (He.ba (He.ba (He.ba (He.ba (He.ba (He.ba (He.ba (He.ba (He.ba (He.ba (He.ba (He.ba (He.ba (He.ba (He.ba (He.ba (He.ba (He.ba (He.ba (He.ba (He.ba (He.ba (He.ba (He.ba (He.ba (He.ba (He.ba (He.ba (He.ba (He.ba (He.ba (He.ba (He.ba (He.ba (He.ba (He.ba (He.ba (He.ba (He.ba (He.ba (He.ba (He.ba (He.ba (He.ba (He.ba (He.ba (He.ba (He.ba (He.ba (He.ba (He.ba (He.ba (He.ba (He.ba (He.ba (He.ba (He.ba (He.ba (He.ba (He.ba (He.ba (He.ba (He.ba (He.ba (He.ba (He.ba (He.ba (He.ba (He.ba (He.ba (He.ba (He.ba (He.ba (He.ba (He.ba (He.ba (He.ba (He.ba (He.ba (He.ba (He.ba (He.ba (He.ba (He.ba (He.ba (He.ba (He.ba (He.ba (He.ba (He.ba (He.ba (He.ba (He.ba (He.ba (He.ba (He.ba (He.ba (He.ba (He.ba (He.ba (He.ba (He.ba (He.ba (He.ba (He.ba (He.ba (He.ba (He.ba (He.ba (He.ba (He.ba (He.ba T.x).2).2).2).2).2).2).2).2).2).2).2).2).2).2).2).2).2).2).2).2).2).2).2).2).2).2).2).2).2).2).2).2).2).2).2).2).2).2).2).2).2).2).2).2).2).2).2).2).2).2).2).2).2).2).2).2).2).2).2).2).2).2).2).2).2).2).2).2).2).2).2).2).2).2).2).2).2).2).2).2).2).2).2).2).2).2).2).2).2).2).2).2).2).2).2).2).2).2).2).2).2).2).2).2).2).2).2).2).2).2).2).2).2).2).2).2).2).2).2).2).2).2).2).2).2).2).2).2).2).2).2).2).2).2).2).2).2).2).2).2).2).2).2).2).2).2).2).2).2).2).2).2).2).2).2).2).2).2).2).2).2).2).2).2).2).2).2).2).2).2).2).2).2).2).2).2).2).2).2).2).2).2).2).2).2).1
theorem Tx.kx_SearchError_NoRule (T : Tx K mg) : PySem.W.kitOne K (.ref (He.ga K "SearchError")) (.ref (He.ga K "NoRule")) = some false := PL.kitX_ok (He.ba (He.ba (He.ba (He.ba (He.ba (He.ba (He.ba (He.ba (He.ba (He.ba (He.ba (He.ba (He.ba (He.ba (He.ba (He.ba (He.ba (He.ba (He.ba (He.ba (He.ba (He.ba (He.ba (He.ba (He.ba (He.ba (He.ba (He.ba (He.ba (He.ba (He.ba (He.ba (He.ba (He.ba (He.ba (He.ba (He.ba (He.ba (He.ba (He.ba (He.ba (He.ba (He.ba (He.ba (He.ba (He.ba (He.ba (He.ba (He.ba (He.ba (He.ba (He.ba (He.ba (He.ba (He.ba (He.ba (He.ba (He.ba (He.ba (He.ba (He.ba (He.ba (He.ba (He.ba (He.ba (He.ba (He.ba (He.ba (He.ba (He.ba (He.ba (He.ba (He.ba (He.ba (He.ba (He.ba (He.ba (He.ba (He.ba (He.ba (He.ba (He.ba (He.ba (He.ba (He.ba (He.ba (He.ba (He.ba (He.ba (He.ba (He.ba (He.ba (He.ba (He.ba (He.ba (He.ba (He.ba (He.ba (He.ba (He.ba (He.ba (He.ba (He.ba (He.ba (He.ba (He.ba (He.ba (He.ba (He.ba (He.ba (He.ba (He.ba (He.ba (He.ba (He.ba (He.ba (He.ba (He.ba (He.ba (He.ba (He.ba (He.ba (He.ba (He.ba (He.ba (He.ba (He.ba (He.ba (He.ba (He.ba (He.ba (He.ba (He.ba (He.ba (He.ba (He.ba (He.ba (He.ba (He.ba (He.ba (He.ba (He.ba (He.ba (He.ba (He.ba (He.ba (He.ba (He.ba (He.ba (He.ba (He.ba (He.ba (He.ba (He.ba (He.ba (He.ba (He.ba (He.ba (He.ba (He.ba (He.ba (He.ba (He.ba (He.ba (He.ba (He.ba (He.ba (He.ba (He.ba (He.ba (He.ba (He.ba (He.ba (He.ba (He.ba (He.ba (He.ba (He.ba (He.ba (He.ba (He.ba (He.ba (He.ba (He.ba (He.ba (He.ba (He.ba T.x).2).2).2).2).2).2).2).2).2).2).2).2).2).2).2).2).2).2).2).2).2).2).2).2).2).2).2).2).2).2).2).2).2).2).2).2).2).2).2).2).2).2).2).2).2).2).2).2).2).2).2).2).2).2).2).2).2).2).2).2).2).2).2).2).2).2).2).2).2).2).2).2).2).2).2).2).2).2).2).2).2).2).2).2).2).2).2).2).2).2).2).2).2).2).2).2).2).2).2).2).2).2).2).2).2).2).2).2).2).2).2).2).2).2).2).2).2).2).2).2).2).2).2).2).2).2).2).2).2).2).2).2).2).2).2).2).2).2).2).2).2).2).2).2).2).2).2).2).2).2).2).2).2).2).2).2).2).2).2).2).2).2).2).2).2).2).2).2).2).2).2).2).2).2).2).2).2).2).2).2).2).2).2).2).2).2).1
theorem Tx.kx_SearchError_NoText (T : Tx K mg) : PySem.W.kitOne K (.ref (He.ga K "SearchError")) (.ref (He.ga K "NoText")) = some false := PL.kitX_ok (He.ba (He.ba (He.ba (He.ba (He.ba (He.ba (He.ba (He.ba (He.ba (He.ba (He.ba (He.ba (He.ba (He.ba (He.ba (He.ba (He.ba (He.ba (He.ba (He.ba (He.ba (He.ba (He.ba (He.ba (He.ba (He.ba (He.ba (He.ba (He.ba (He.ba (He.ba (He.ba (He.ba (He.ba (He.ba (He.ba (He.ba (He.ba (He.ba (He.ba (He.ba (He.ba (He.ba (He.ba (He.ba (He.ba (He.ba (He.ba (He.ba (He.ba (He.ba (He.ba (He.ba (He.ba (He.ba (He.ba (He.ba (He.ba (He.ba (He.ba (He.ba (He.ba (He.ba (He.ba (He.ba (He.ba (He.ba (He.ba (He.ba (He.ba (He.ba (He.ba (He.ba (He.ba (He.ba (He.ba (He.ba (He.ba (He.ba (He.ba (He.ba (He.ba (He.ba (He.ba (He.ba (He.ba (He.ba (He.ba (He.ba (He.ba (He.ba (He.ba (He.ba (He.ba (He.ba (He.ba (He.ba (He.ba (He.ba (He.ba (He.ba (He.ba (He.ba (He.ba (He.ba (He.ba (He.ba (He.ba (He.ba (He.ba (He.ba (He.ba (He.ba (He.ba (He.ba (He.ba (He.ba (He.ba (He.ba (He.ba (He.ba (He.ba (He.ba (He.ba (He.ba (He.ba (He.ba (He.ba (He.ba (He.ba (He.ba (He.ba (He.ba (He.ba (He.ba (He.ba (He.ba (He.ba (He.ba (He.ba (He.ba (He.ba (He.ba (He.ba (He.ba (He.ba (He.ba (He.ba (He.ba (He.ba (He.ba (He.ba (He.ba (He.ba (He.ba (He.ba (He.ba (He.ba (He.ba (He.ba (He.ba (He.ba (He.ba (He.ba (He.ba (He.ba (He.ba (He.ba (He.ba (He.ba (He.ba (He.ba (He.ba (He.ba (He.ba (He.ba (He.ba (He.ba (He.ba (He.ba (He.ba (He.ba (He.ba (He.ba (He.ba (He.ba (He.ba (He.ba T.x).2).2).2).2).2).2).2).2).2).2).2).2).2).2).2).2).2).2).2).2).2).2).2).2).2).2).2).2).2).2).2).2).2).2).2).2).2).2).2).2).2).2).2).2).2).2).2).2).2).2).2).2).2).2).2).2).2).2).2).2).2).2).2).2).2).2).2).2).2).2).2).2).2).2).2).2).2).2).2).2).2).2).2).2).2).2).2).2).2).2).2).2).2).2).2).2).2).2).2).2).2).2).2).2).2).2).2).2).2).2).2).2).2).2).2).2).2).2).2).2).2).2).2).2).2).2).2).2).2).2).2).2).2).2).2).2).2).2).2).2).2).2).2).2).2).2).2).2).2).2).2).2).2).2).2).2).2).2).2).2).2).2).2).2).2).2).2).2).2).2).2).2).2).2).2).2).2).2).2).2).2).2).2).2).2).2).2).1
theorem Tx.kx_SearchError_NoWeighing (T : Tx K mg) : PySem.W.kitOne K (.ref (He.ga K "SearchError")) (.ref (He.ga K "NoWeighing")) = some false := PL.kitX_ok (He.ba (He.ba (He.ba (He.ba (He.ba (He.ba (He.ba (He.ba (He.ba (He.ba (He.ba (He.ba (He.ba (He.ba (He.ba (He.ba (He.ba (He.ba (He.ba (He.ba (He.ba (He.ba (He.ba (He.ba (He.ba (He.ba (He.ba (He.ba (He.ba (He.ba (He.ba (He.ba (He.ba (He.ba (He.ba (He.ba (He.ba (He.ba (He.ba (He.ba (He.ba (He.ba (He.ba (He.ba (He.ba (He.ba (He.ba (He.ba (He.ba (He.ba (He.ba (He.ba (He.ba (He.ba (He.ba (He.ba (He.ba (He.ba (He.ba (He.ba (He.ba (He.ba (He.ba (He.ba (He.ba (He.ba (He.ba (He.ba (He.ba (He.ba (He.ba (He.ba (He.ba (He.ba (He.ba (He.ba (He.ba (He.ba (He.ba (He.ba (He.ba (He.ba (He.ba (He.ba (He.ba (He.ba (He.ba (He.ba (He.ba (He.ba (He.ba (He.ba (He.ba (He.ba (He.ba (He.ba (He.ba (He.ba (He.ba (He.ba (He.ba (He.ba (He.ba (He.ba (He.ba (He.ba (He.ba (He.ba (He.ba (He.ba (He.ba (He.ba (He.ba (He.ba (He.ba (He.ba (He.ba (He.ba (He.ba (He.ba (He.ba (He.ba (He.ba (He.ba (He.ba (He.ba (He.ba (He.ba (He.ba (He.ba (He.ba (He.ba (He.ba (He.ba (He.ba (He.ba (He.ba (He.ba (He.ba (He.ba (He.ba (He.ba (He.ba (He.ba (He.ba (He.ba (He.ba (He.ba (He.ba (He.ba (He.ba (He.ba (He.ba (He.ba (He.ba (He.ba (He.ba (He.ba (He.ba (He.ba (He.ba (He.ba (He.ba (He.ba (He.ba (He.ba (He.ba (He.ba (He.ba (He.ba (He.ba (He.ba (He.ba (He.ba (He.ba (He.ba (He.ba (He.ba (He.ba (He.ba (He.ba (He.ba (He.ba (He.ba (He.ba (He.ba (He.ba (He.ba (He.ba T.x).2).2).2).2).2).2).2).2).2).2).2).2).2).2).2).2).2).2).2).2).2).2).2).2).2).2).2).2).2).2).2).2).2).2).2).2).2).2).2).2).2).2).2).2).2).2).2).2).2).2).2).2).2).2).2).2).2).2).2).2).2).2).2).2).2).2).2).2).2).2).2).2).2).2).2).2).2).2).2).2).2).2).2).2).2).2).2).2).2).2).2).2).2).2).2).2).2).2).2).2).2).2).2).2).2).2).2).2).2).2).2).2).2).2).2).2).2).2).2).2).2).2).2).2).2).2).2).2).2).2).2).2).2).2).2).2).2).2).2).2).2).2).2).2).2).2).2).2).2).2).2).2).2).2).2).2).2).2).2).2).2).2).2).2).2).2).2).2).2).2).2).2).2).2).2).2).2).2).2).2).2).2).2).2).2).2).2).2).1
theorem Tx.kx_SearchError_Over (T : Tx K mg) : PySem.W.kitOne K (.ref (He.ga K "SearchError")) (.ref (He.ga K "Over")) = some false := PL.kitX_ok (He.ba (He.ba (He.ba (He.ba (He.ba (He.ba (He.ba (He.ba (He.ba (He.ba (He.ba (He.ba (He.ba (He.ba (He.ba (He.ba (He.ba (He.ba (He.ba (He.ba (He.ba (He.ba (He.ba (He.ba (He.ba (He.ba (He.ba (He.ba (He.ba (He.ba (He.ba (He.ba (He.ba (He.ba (He.ba (He.ba (He.ba (He.ba (He.ba (He.ba (He.ba (He.ba (He.ba (He.ba (He.ba (He.ba (He.ba (He.ba (He.ba (He.ba (He.ba (He.ba (He.ba (He.ba (He.ba (He.ba (He.ba (He.ba (He.ba (He.ba (He.ba (He.ba (He.ba (He.ba (He.ba (He.ba (He.ba (He.ba (He.ba (He.ba (He.ba (He.ba (He.ba (He.ba (He.ba (He.ba (He.ba (He.ba (He.ba (He.ba (He.ba (He.ba (He.ba (He.ba (He.ba (He.ba (He.ba (He.ba (He.ba (He.ba (He.ba (He.ba (He.ba (He.ba (He.ba (He.ba (He.ba (He.ba (He.ba (He.ba (He.ba (He.ba (He.ba (He.ba (He.ba (He.ba (He.ba (He.ba (He.ba (He.ba (He.ba (He.ba (He.ba (He.ba (He.ba (He.ba (He.ba (He.ba (He.ba (He.ba (He.ba (He.ba (He.ba (He.ba (He.ba (He.ba (He.ba (He.ba (He.ba (He.ba (He.ba (He.ba (He.ba (He.ba (He.ba (He.ba (He.ba (He.ba (He.ba (He.ba (He.ba (He.ba (He.ba (He.ba (He.ba (He.ba (He.ba (He.ba (He.ba (He.ba (He.ba (He.ba (He.ba (He.ba (He.ba (He.ba (He.ba (He.ba (He.ba (He.ba (He.ba (He.ba (He.ba (He.ba (He.ba (He.ba (He.ba (He.ba (He.ba (He.ba (He.ba (He.ba (He.ba (He.ba (He.ba (He.ba (He.ba (He.ba (He.ba (He.ba (He.ba (He.ba (He.ba (He.ba (He.ba (He.ba (He.ba (He.ba (He.ba (He.ba T.x).2).2).2).2).2).2).2).2).2).2).2).2).2).2).2).2).2).2).2).2).2).2).2).2).2).2).2).2).2).2).2).2).2).2).2).2).2).2).2).2).2).2).2).2).2).2).2).2).2).2).2).2).2).2).2).2).2).2).2).2).2).2).2).2).2).2).2).2).2).2).2).2).2).2).2).2).2).2).2).2).2).2).2).2).2).2).2).2).2).2).2).2).2).2).2).2).2).2).2).2).2).2).2).2).2).2).2).2).2).2).2).2).2).2).2).2).2).2).2).2).2).2).2).2).2).2).2).2).2).2).2).2).2).2).2).2).2).2).2).2).2).2).2).2).2).2).2).2).2).2).2).2).2).2).2).2).2).2).2).2).2).2).2).2).2).2).2).2).2).2).2).2).2).2).2).2).2).2).2).2).2).2).2).2).2).2).2).2).2).1
theorem Tx.kx_SearchError_SearchError (T : Tx K mg) : PySem.W.kitOne K (.ref (He.ga K "SearchError")) (.ref (He.ga K "SearchError")) = some true := PL.kitX_ok (He.ba (He.ba (He.ba (He.ba (He.ba (He.ba (He.ba (He.ba (He.ba (He.ba (He.ba (He.ba (He.ba (He.ba (He.ba (He.ba (He.ba (He.ba (He.ba (He.ba (He.ba (He.ba (He.ba (He.ba (He.ba (He.ba (He.ba (He.ba (He.ba (He.ba (He.ba (He.ba (He.ba (He.ba (He.ba (He.ba (He.ba (He.ba (He.ba (He.ba (He.ba (He.ba (He.ba (He.ba (He.ba (He.ba (He.ba (He.ba (He.ba (He.ba (He.ba (He.ba (He.ba (He.ba (He.ba (He.ba (He.ba (He.ba (He.ba (He.ba (He.ba (He.ba (He.ba (He.ba (He.ba (He.ba (He.ba (He.ba (He.ba (He.ba (He.ba (He.ba (He.ba (He.ba (He.ba (He.ba (He.ba (He.ba (He.ba (He.ba (He.ba (He.ba (He.ba (He.ba (He.ba (He.ba (He.ba (He.ba (He.ba (He.ba (He.ba (He.ba (He.ba (He.ba (He.ba (He.ba (He.ba (He.ba (He.ba (He.ba (He.ba (He.ba (He.ba (He.ba (He.ba (He.ba (He.ba (He.ba (He.ba (He.ba (He.ba (He.ba (He.ba (He.ba (He.ba (He.ba (He.ba (He.ba (He.ba (He.ba (He.ba (He.ba (He.ba (He.ba (He.ba (He.ba (He.ba (He.ba (He.ba (He.ba (He.ba (He.ba (He.ba (He.ba (He.ba (He.ba (He.ba (He.ba (He.ba (He.ba (He.ba (He.ba (He.ba (He.ba (He.ba (He.ba (He.ba (He.ba (He.ba (He.ba (He.ba (He.ba (He.ba (He.ba (He.ba (He.ba (He.ba (He.ba (He.ba (He.ba (He.ba (He.ba (He.ba (He.ba (He.ba (He.ba (He.ba (He.ba (He.ba (He.ba (He.ba (He.ba (He.ba (He.ba (He.ba (He.ba (He.ba (He.ba (He.ba (He.ba (He.ba (He.ba (He.ba (He.ba (He.ba (He.ba (He.ba (He.ba (He.ba (He.ba (He.ba T.x).2).2).2).2).2).2).2).2).2).2).2).2).2).2).2).2).2).2).2).2).2).2).2).2).2).2).2).2).2).2).2).2).2).2).2).2).2).2).2).2).2).2).2).2).2).2).2).2).2).2).2).2).2).2).2).2).2).2).2).2).2).2).2).2).2).2).2).2).2).2).2).2).2).2).2).2).2).2).2).2).2).2).2).2).2).2).2).2).2).2).2).2).2).2).2).2).2).2).2).2).2).2).2).2).2).2).2).2).2).2).2).2).2).2).2).2).2).2).2).2).2).2).2).2).2).2).2).2).2).2).2).2).2).2).2).2).2).2).2).2).2).2).2).2).2).2).2).2).2).2).2).2).2).2).2).2).2).2).2).2).2).2).2).2).2).2).2).2).2).2).2).2).2).2).2).2).2).2).2).2).2).2).2).2).2).2).2).2).2).2).1
theorem Tx.kx_SearchError_ValueError (T : Tx K mg) : PySem.W.kitOne K (.ref (He.ga K "SearchError")) (.type "ValueError") = some true := PL.kitX_ok (He.ba (He.ba (He.ba (He.ba (He.ba (He.ba (He.ba (He.ba (He.ba (He.ba (He.ba (He.ba (He.ba (He.ba (He.ba (He.ba (He.ba (He.ba (He.ba (He.ba (He.ba (He.ba (He.ba (He.ba (He.ba (He.ba (He.ba (He.ba (He.ba (He.ba (He.ba (He.ba (He.ba (He.ba (He.ba (He.ba (He.ba (He.ba (He.ba (He.ba (He.ba (He.ba (He.ba (He.ba (He.ba (He.ba (He.ba (He.ba (He.ba (He.ba (He.ba (He.ba (He.ba (He.ba (He.ba (He.ba (He.ba (He.ba (He.ba (He.ba (He.ba (He.ba (He.ba (He.ba (He.ba (He.ba (He.ba (He.ba (He.ba (He.ba (He.ba (He.ba (He.ba (He.ba (He.ba (He.ba (He.ba (He.ba (He.ba (He.ba (He.ba (He.ba (He.ba (He.ba (He.ba (He.ba (He.ba (He.ba (He.ba (He.ba (He.ba (He.ba (He.ba (He.ba (He.ba (He.ba (He.ba (He.ba (He.ba (He.ba (He.ba (He.ba (He.ba (He.ba (He.ba (He.ba (He.ba (He.ba (He.ba (He.ba (He.ba (He.ba (He.ba (He.ba (He.ba (He.ba (He.ba (He.ba (He.ba (He.ba (He.ba (He.ba (He.ba (He.ba (He.ba (He.ba (He.ba (He.ba (He.ba (He.ba (He.ba (He.ba (He.ba (He.ba (He.ba (He.ba (He.ba (He.ba (He.ba (He.ba (He.ba (He.ba (He.ba (He.ba (He.ba (He.ba (He.ba (He.ba (He.ba (He.ba (He.ba (He.ba (He.ba (He.ba (He.ba (He.ba (He.ba (He.ba (He.ba (He.ba (He.ba (He.ba (He.ba (He.ba (He.ba (He.ba (He.ba (He.ba (He.ba (He.ba (He.ba (He.ba (He.ba (He.ba (He.ba (He.ba (He.ba (He.ba (He.ba (He.ba (He.ba (He.ba (He.ba (He.ba (He.ba (He.ba (He.ba (He.ba (He.ba (He.ba (He.ba (He.ba T.x).2).2).2).2).2).2).2).2).2).2).2).2).2).2).2).2).2).2).2).2).2).2).2).2).2).2).2).2).2).2).2).2).2).2).2).2).2).2).2).2).2).2).2).2).2).2).2).2).2).2).2).2).2).2).2).2).2).2).2).2).2).2).2).2).2).2).2).2).2).2).2).2).2).2).2).2).2).2).2).2).2).2).2).2).2).2).2).2).2).2).2).2).2).2).2).2).2).2).2).2).2).2).2).2).2).2).2).2).2).2).2).2).2).2).2).2).2).2).2).2).2).2).2).2).2).2).2).2).2).2).2).2).2).2).2).2).2).2).2).2).2).2).2).2).2).2).2).2).2).2).2).2).2).2).2).2).2).2).2).2).2).2).2).2).2).2).2).2).2).2).2).2).2).2).2).2).2).2).2).2).2).2).2).2).2).2).2).2).2).2).2).1
theorem Tx.f_rule_is_of (T : Tx K mg) : ∃ fd, F_rule_is_of K (He.fAd K ("rule_is_of", none)) fd := T.c.def_ 1 (d := d_rule_is_of) (by kernel_rfl)
theorem b_rule_is_of {f : Addr} {fd : FuncData} (F : F_rule_is_of K f fd) : Binds K fd ["word", "signs", "least", "most"] [] := F.bindsN fun _ _ _ _ _ _ us hl => match us, hl with | [_, _, _, _], _ => rfl
theorem call_rule_is_of (T : Tx K mg) {k : Nat} {sp : Sp} (h : ∀ f fd, F_rule_is_of K f fd → FnOk P w K mg base CX0 k f fd ["word", "signs", "least", "most"] sp) : CallOk P w K mg base "rule_is_of" k sp := let ⟨fd, F⟩ := T.f_rule_is_of; ⟨_, fd, _, h _ fd F, T.g_rule_is_of, F.kp, b_rule_is_of F⟩
theorem Tx.f_rule_fits (T : Tx K mg) : ∃ fd, F_rule_fits K (He.fAd K ("rule_fits", none)) fd := T.c.def_ 2 (d := d_rule_fits) (by kernel_rfl)
theorem b_rule_fits {f : Addr} {fd : FuncData} (F : F_rule_fits K f fd) : Binds K fd ["ending", "instead", "least"] [] := F.bindsN fun _ _ _ _ _ _ us hl => match us, hl with | [_, _, _], _ => rfl
theorem call_rule_fits (T : Tx K mg) {k : Nat} {sp : Sp} (h : ∀ f fd, F_rule_fits K f fd → FnOk P w K mg base CX0 k f fd ["ending", "instead", "least"] sp) : CallOk P w K mg base "rule_fits" k sp := let ⟨fd, F⟩ := T.f_rule_fits; ⟨_, fd, _, h _ fd F, T.g_rule_fits, F.kp, b_rule_fits F⟩
theorem Tx.f_Rulebook_init (T : Tx K mg) : ∃ fd, F_Rulebook_init K (He.fAd K ("Rulebook", some "__init__")) fd := T.c.def_ 3 (d := d_Rulebook_init) (by kernel_rfl)
theorem b_Rulebook_init {f : Addr} {fd : FuncData} (F : F_Rulebook_init K f fd) : Binds K fd ["self", "endings", "silent"] [] := F.bindsN fun _ _ _ _ _ _ us hl => match us, hl with | [_, _, _], _ => rfl
theorem Tx.f_law_signs (T : Tx K mg) : ∃ fd, F_law_signs K (He.fAd K ("_law_signs", none)) fd := T.c.def_ 6 (d := d_law_signs) (by kernel_rfl)
theorem b_law_signs {f : Addr} {fd : FuncData} (F : F_law_signs K f fd) : Binds K fd [] [] := F.bindsN fun _ _ _ _ _ _ us hl => match us, hl with | [], _ => rfl
theorem call_law_signs (T : Tx K mg) {k : Nat} {sp : Sp} (h : ∀ f fd, F_law_signs K f fd → FnOk P w K mg base CX0 k f fd [] sp) : CallOk P w K mg base "_law_signs" k sp := let ⟨fd, F⟩ := T.f_law_signs; ⟨_, fd, _, h _ fd F, T.g_law_signs, F.kp, b_law_signs F⟩
theorem Tx.f_law_text_by_digits (T : Tx K mg) : ∃ fd, F_law_text_by_digits K (He.fAd K ("_law_text_by_digits", none)) fd := T.c.def_ 7 (d := d_law_text_by_digits) (by kernel_rfl)
theorem b_law_text_by_digits {f : Addr} {fd : FuncData} (F : F_law_text_by_digits K f fd) : Binds K fd ["_law_number", "_law_most"] [] := F.bindsN fun _ _ _ _ _ _ us hl => match us, hl with | [_, _], _ => rfl
theorem call_law_text_by_digits (T : Tx K mg) {k : Nat} {sp : Sp} (h : ∀ f fd, F_law_text_by_digits K f fd → FnOk P w K mg base CX0 k f fd ["_law_number", "_law_most"] sp) : CallOk P w K mg base "_law_text_by_digits" k sp := let ⟨fd, F⟩ := T.f_law_text_by_digits; ⟨_, fd, _, h _ fd F, T.g_law_text_by_digits, F.kp, b_law_text_by_digits F⟩
theorem Tx.f_law_sorts (T : Tx K mg) : ∃ fd, F_law_sorts K (He.fAd K ("_law_sorts", none)) fd := T.c.def_ 8 (d := d_law_sorts) (by kernel_rfl)
theorem b_law_sorts {f : Addr} {fd : FuncData} (F : F_law_sorts K f fd) : Binds K fd ["_law_e"] [] := F.bindsN fun _ _ _ _ _ _ us hl => match us, hl with | [_], _ => rfl
theorem call_law_sorts (T : Tx K mg) {k : Nat} {sp : Sp} (h : ∀ f fd, F_law_sorts K f fd → FnOk P w K mg base CX0 k f fd ["_law_e"] sp) : CallOk P w K mg base "_law_sorts" k sp := let ⟨fd, F⟩ := T.f_law_sorts; ⟨_, fd, _, h _ fd F, T.g_law_sorts, F.kp, b_law_sorts F⟩
theorem Tx.f_law_made (T : Tx K mg) : ∃ fd, F_law_made K (He.fAd K ("_law_made", none)) fd := T.c.def_ 9 (d := d_law_made) (by kernel_rfl)
theorem b_law_made {f : Addr} {fd : FuncData} (F : F_law_made K f fd) : Binds K fd [] [] := F.bindsN fun _ _ _ _ _ _ us hl => match us, hl with | [], _ => rfl
theorem call_law_made (T : Tx K mg) {k : Nat} {sp : Sp} (h : ∀ f fd, F_law_made K f fd → FnOk P w K mg base CX0 k f fd [] sp) : CallOk P w K mg base "_law_made" k sp := let ⟨fd, F⟩ := T.f_law_made; ⟨_, fd, _, h _ fd F, T.g_law_made, F.kp, b_law_made F⟩
theorem Tx.f_law (T : Tx K mg) : ∃ fd, F_law K (He.fAd K ("law", none)) fd := T.c.def_ 10 (d := d_law) (by kernel_rfl)
end
end Tp

/-! An exception that is caught, and kept behind its handler; exceptions as values. -/
namespace L2N
open PySem PySem.Spec PyProof.Rows L2
def ExT (cls : Value) (a : Addr) : HO := .ext fun h => ∃ (oe : Obj) (vs : Array Value), h.get? a = some oe ∧ Zc cls none oe ∧ oe.data = .fields vs
section
variable {X : Cx} {pins : List (Addr × Obj)} {σ : St} {H : Hp} {s : Shared} {a : Addr} {oe : Obj} {cls : Value}
theorem _root_.L2.Inv.unsuiteK {q : Addr × Obj} {pn' : List (Addr × Obj)} (I : Inv (X.suite a (q :: (X.pn ++ pins))) pn' σ H s) (ok : X.Ok) : Inv X (q :: pins) σ H s :=
  ⟨ok, I.os, I.bare, I.base, I.loc, I.cell, I.free, I.freeC, fun p hp => I.pin p (List.mem_append_left _ (by
    rcases List.mem_append.mp hp with h | h
    · exact List.mem_cons_of_mem _ (List.mem_append_left _ h)
    · rcases List.mem_cons.mp h with h | h
      · exact h ▸ List.mem_cons_self
      · exact List.mem_cons_of_mem _ (List.mem_append_right _ h))), I.hok, I.len⟩
theorem _root_.L2.Inv.track (I : Inv X ((a, oe) :: pins) σ H s) (hd : ∃ vs, oe.data = .fields vs) (hz : Zc cls none oe) (n0 : ∀ o, X.s_0.heap.get? a = some o → X.H_0 a = none → a ∈ X.ex) (np : ∀ p ∈ X.pn ++ pins, p.1 ≠ a) : Inv X pins σ (upd H a (ExT cls a)) s := by
  obtain ⟨ha, na, nL, nF, nc⟩ := I.pin (a, oe) (List.mem_append_right _ List.mem_cons_self)
  have ha : s.heap.get? a = some oe := ha
  have na : H a = none := na
  obtain ⟨vs, hv⟩ := hd
  refine ⟨I.ok, I.os, I.bare, ⟨I.base.keep, I.base.slot, fun b o e n hx => ?_, I.base.there, fun b xs e => ?_, fun b o u e => ?_, fun b ps e => ?_⟩, I.loc, I.cell, ?_, fun x c e => ?_, fun p hp => ?_, ?_, I.len⟩
  · have hb : b ≠ a := fun z => hx (z ▸ n0 o (z ▸ e) (z ▸ n))
    rw [upd_ne hb]
    exact I.base.free b o e n hx
  · have q := I.base.tups b xs e
    rw [upd_ne (ne_of_none q na)]; exact q
  · have q := I.base.frzs b o u e
    rw [upd_ne (ne_of_none q na)]; exact q
  · obtain ⟨more, q⟩ := I.base.tbls b ps e
    exact ⟨more, by rw [upd_ne (ne_of_none q na)]; exact q⟩
  · rw [upd_ne (Ne.symm nL)]; exact I.free
  · have hb : c ≠ a := fun z => by
      obtain ⟨v, o, ho, hc⟩ := I.cell x c e
      rw [z, ha] at ho
      cases ho
      rw [hv] at hc; cases hc
    rw [upd_ne hb]; exact I.freeC x c e
  · obtain ⟨e, n, nl, nf, d⟩ := I.pin p (by
      rcases List.mem_append.mp hp with h | h
      · exact List.mem_append_left _ h
      · exact List.mem_append_right _ (List.mem_cons_of_mem _ h))
    exact ⟨e, by rw [upd_ne (np p hp)]; exact n, nl, nf, d⟩
  · exact I.hok.laidN (fun _ _ q => q) na ⟨⟨oe, vs, ha, hz, hv⟩, ⟨oe, ha⟩, fun _ _ ⟨o, v, q, r⟩ k => ⟨o, v, k o q, r⟩⟩
end
def wAsK (K : PySem.W.Frag) (c : Value) (i : Nat) (ts : Addr → Value → Option Addr → TS) (Wout : WX) (D : Ends) : WX := fun cls d σ H =>
  ∃ b, PySem.W.exmOne K cls c = some b ∧ (b = true → d = none ∧ ∀ a, H a = none → ts a cls none { nx := fun σ' H' => H' a = none → D.nx (σ'.set i none) (upd H' a (ExT cls a)), rt := fun _ _ => False } (σ.set i (some (.ref a))) H) ∧
    (b = false → Wout cls d σ H)
section
variable {X : Cx} {x n : Str} {c : Value} {i : Nat} {body suite : List Stmt} {b₀ : Stmt} {np pos pos' : Pos} {tb : WX → TS} {ts : Addr → Value → Option Addr → TS} {Wout : WX}
theorem ps_try_asK (hs : X.stack = X.env :: X.outer) (hf : X.env.frame = some X.env.locals) (hN : X.N.Nodup) (hi : X.N[i]? = some n) (hln : X.env.kindOf n = some .local) (hc : Names X x c) (tk : Takes X Wout)
    (hb : ∀ (W : WX) (pn : List (Addr × Obj)) (xe : Value → Shared → Prop), Takes (X.tr pn xe) W → PassesOwn (model X.prog X.w) X.A X.env xe → PSs (X.tr pn xe) body (tb W))
    (hsu : ∀ (a : Addr) (oe : Obj) (cls : Value) (d : Option Addr) (pn : List (Addr × Obj)), Zn cls d oe → (∃ vs, oe.data = .fields vs) → PSs (X.suite a ((a, oe) :: pn)) (b₀ :: suite) (ts a cls d)) :
    PS X (.Try body [.ExceptHandler (some (.Name x np)) (some n) (b₀ :: suite) pos'] [] [] pos) (fun D σ H => tb (wAsK X.K c i ts Wout D) D σ H) := by
  refine ⟨fun pins s σ H D I h => ?_⟩
  have ok := I.ok
  have hfr : X.A.frames = some (X.env :: X.outer) := by rw [ok.frames, hs]
  have hloc : Loc X.env.scope n := .inl hln
  refine wpAny_Try_except ?_
  refine wpAny_mono ((hb (wAsK X.K c i ts Wout D) (X.pn ++ pins) (fun e s₁ => wpAny (model X.prog X.w) X.A (noteFrame e X.env) (fun _ s₂ => wpAny (model X.prog X.w) X.A (setFlight e none) (fun _ s₃ =>
    wpAny (model X.prog X.w) X.A (handleBy e X.env [.ExceptHandler (some (.Name x np)) (some n) (b₀ :: suite) pos']) (SP X pins D) X.xe s₃) X.xe s₂) X.xe s₁) (fun u s' xx => ?_) PassesOwn.looking).run [] s σ H D (I.toTry _) h) (fun f s1 hsp => ?_) (fun e s1 he => he)
  · -- the catch
    obtain ⟨a, B, sI, pins', σ', H', cls, d, rfl, J', nb, up, sky, na, os, ag, b, hb1, hyes, hno⟩ := xx
    have J : Inv X pins σ' H' sI := J'.ofTry ok
    have sky' : Sky B (X.env :: X.outer) a (Zn cls d) X.env.locals s'.heap := by rw [← hs]; exact sky
    show wpAny (model X.prog X.w) X.A (noteFrame (.ref a) X.env) _ _ _
    refine Sky.land Zn.steady hfr hf sky' fun h3 fl3 up3 => ?_
    have J3 : Inv X pins σ' H' { s' with heap := h3 } := J.landed nb fl3.1 (up.trans up3) os ag
    obtain ⟨oe3, vs3, he3, hz3, hd3⟩ := fl3.there
    have notFr : ∀ {h : Heap} {o : Obj} {vs : Array Value}, h.FunFrames B (X.env :: X.outer) → h.get? a = some o → o.data = .fields vs → a ∉ frs (X.env :: X.outer) := fun {h o vs} ff e dd hm => by
      obtain ⟨_, o', e', hnf⟩ := ff.mem hm
      rw [e] at e'; cases e'
      exact hnf _ dd
    have nfr := notFr fl3.2.2.1 he3 hd3
    have nL : a ≠ X.env.locals := fun z => nfr (List.mem_filterMap.mpr ⟨X.env, List.mem_cons_self, by rw [hf, z]⟩)
    have nF : a ∉ X.fs := fun hm => by
      obtain ⟨e, he, q⟩ := List.mem_filterMap.mp hm
      exact nfr (List.mem_filterMap.mpr ⟨e, List.mem_cons_of_mem _ he, q⟩)
    have S3 := J3.suite he3 hd3 na nL nF
    refine wpAny_handleBy_cons (codeAny_handlers_test ?_) (by intro q; cases q)
    have LT : PySem.W.Looks (model X.prog X.w) h3 (typeOf (.ref a)) cls := fun A Q E s k q => wpAny_typeOf_ref (k _ _ he3) (by rw [hz3.1]; exact q)
    have LM := PySem.W.exm_one (M := model X.prog X.w) (J3.kIn) LT hb1
    have test : ∀ {Q : Value → Shared → Prop} {E : Value → Shared → Prop}, Q c { s' with heap := h3 } → wpAny (model X.prog X.w) (X.A.mark (some (.ref a))) (eval (.Name x np) X.env) Q E { s' with heap := h3 } := fun {Q E} q => by
      obtain ⟨hg, hdbg, hm | ⟨hm, hv, hnn⟩⟩ := hc
      · exact ld_glob (X := X.suite a ((a, oe3) :: (X.pn ++ pins))) S3 hg hm q hdbg
      · exact ld_blt (X := X.suite a ((a, oe3) :: (X.pn ++ pins))) S3 hg hm hv q hnn hdbg
    refine test (LM.here ?_)
    cases b with
    | true =>
      refine codeAny_handlers_suite_as ?_
      refine HandSPX.lands_againZ fl3 fun h4 fl4 up4 => ?_
      have J4 : Inv X pins σ' H' { s' with heap := h4 } := J.landed nb fl4.1 ((up.trans up3).trans up4) os ag
      obtain ⟨oe4, vs4, he4, hz4, hd4⟩ := fl4.there
      have S4 := J4.suite he4 hd4 na nL nF
      refine store_ok (X := X.suite a ((a, oe4) :: (X.pn ++ pins))) (v := .ref a) S4 hN hi hloc rfl (fun s5 S5 => ?_) (.inr hln)
      obtain ⟨rfl, hy2⟩ := hyes rfl
      refine wpAny_mono ((hsu a oe4 cls none (X.pn ++ pins) hz4 ⟨_, hd4⟩).run [] s5 _ H' _ S5 (hy2 a na)) (fun f s6 hsp => ?_) (fun _ _ z => False.elim z)
      have nB : B.get? a = none := fl4.2.1
      have inB : ∀ b o, sI.heap.get? b = some o → b ∉ frs (X.env :: X.outer) → b ≠ a := fun b o e hb z => by
        have q := nb b o e (by rw [hs]; exact hb)
        rw [z, nB] at q; cases q
      have n0 : ∀ o, X.s_0.heap.get? a = some o → X.H_0 a = none → a ∈ X.ex := fun o e n => Classical.byContradiction fun hx => inB a o (J.base.keep a o e n nF hx) nfr rfl
      have np : ∀ p ∈ X.pn ++ pins, p.1 ≠ a := fun p hp => by
        obtain ⟨e, n, nl, nf, _⟩ := J.pin p hp
        refine inB p.1 p.2 e fun hm => ?_
        obtain ⟨w, hw, q⟩ := List.mem_filterMap.mp hm
        rcases List.mem_cons.mp hw with z | hw
        · rw [z, hf] at q
          exact nl (Option.some.inj q).symm
        · exact nf (List.mem_filterMap.mpr ⟨w, hw, q⟩)
      have end_ : ∀ {σ6 : St} {H6 : Hp} {Q : Shared → Prop}, Inv (X.suite a ((a, oe4) :: (X.pn ++ pins))) [] σ6 H6 s6 → (H6 a = none → ∀ s7, Inv X pins (σ6.set i none) (upd H6 a (ExT cls a)) s7 → Q s7) →
          wpAny (model X.prog X.w) X.A (do bindName X.env n .none; unbindBehindTheSuite X.env n pos') (fun _ s7 => Q s7) X.xe s6 := fun {σ6 H6 Q} S6 hq => by
        have P6 := S6.pin (a, oe4) (List.mem_append_left _ List.mem_cons_self)
        exact gone_ok (S6.unsuiteK ok) hN hi hln fun s7 J7 => hq P6.2.1 s7 (J7.track ⟨_, hd4⟩ ⟨hz4.1, hz4.2.1⟩ n0 np)
      cases f with
      | next =>
        obtain ⟨σ6, H6, S6, q6⟩ := hsp
        exact end_ S6 fun n6 s7 J7 => ⟨_, _, J7, q6 n6⟩
      | brk => obtain ⟨σ6, H6, S6, q6⟩ := hsp; exact q6.elim
      | cont => obtain ⟨σ6, H6, S6, q6⟩ := hsp; exact q6.elim
      | ret u => obtain ⟨v6, σ6, H6, S6, r6, q6⟩ := hsp; exact q6.elim
    | false =>
      show wpAny _ X.A (handleBy (.ref a) X.env []) _ _ _
      refine wpAny_handleBy_nil ?_
      obtain ⟨k1, k2, k3, oe, vs, T, oT, ts', he, hz, hd, h1, hr⟩ := id fl3
      unfold PySem.passOn
      refine wpAny_bind (wpAny_field he hd h1 ?_)
      rw [if_neg (show ¬ ((Value.ref T == Value.none) = true) from by simp)]
      have fin : wpAny (model X.prog X.w) X.A (setFlight (.ref a) X.env.frame) (fun _ s4 => wpAny (model X.prog X.w) X.A (throw (.ref a) : Sem Flow) (SP X pins D) X.xe s4) X.xe { s' with heap := h3 } := by
        rw [hf]
        refine HandSPX.setFlight_upZ fl3 fun h4 hh4 up4 => wpAny_throw (tk _ _ ?_)
        exact ⟨a, B, sI, pins, σ', H', cls, d, rfl, J, nb, (up.trans up3).trans up4, .inr (.inr (by rw [hs]; exact hh4)), na, os, ag, hno rfl⟩
      first
        | exact wpAny_bind (wpAny_pure (wpAny_bind fin))
        | exact wpAny_bind fin
  · cases f with
    | next =>
      obtain ⟨σ', H', J', q⟩ := hsp
      exact wpAny_execs_nil ⟨σ', H', J'.ofTry ok, q⟩
    | brk =>
      obtain ⟨σ', H', J', q⟩ := hsp
      exact ⟨σ', H', J'.ofTry ok, q⟩
    | cont =>
      obtain ⟨σ', H', J', q⟩ := hsp
      exact ⟨σ', H', J'.ofTry ok, q⟩
    | ret u =>
      obtain ⟨v, σ', H', J', r, q⟩ := hsp
      exact ⟨v, σ', H', J'.ofTry ok, r, q⟩
end
end L2N

namespace PL
open PySem PySem.Spec PyProof.Rows L2
/-! ### exceptions as values: of one of the classes ns -/
def rExc (K : PySem.W.Frag) (ns : List Str) : Rel Str := ⟨fun G v c => c ∈ ns ∧ ∃ (a : Addr) (φ : Heap → Prop), v = .ref a ∧ G a = some (.ext φ) ∧ ∀ h, φ h → ∃ (oe : Obj) (vs : Array Value), h.get? a = some oe ∧ Zc (.ref (He.ga K c)) none oe ∧ oe.data = .fields vs,
  fun e ⟨h1, a, φ, h2, h3, h4⟩ => ⟨h1, a, φ, h2, e _ _ h3, h4⟩⟩
theorem call_isV {X : Cx} : CallR X (.builtin "isinstance") (fun xs H Q => ∃ (D a : Addr) (φ : Heap → Prop), ExcC X.K D ∧ H a = some (.ext φ) ∧ (∀ h, φ h → ∃ (oe : Obj) (vs : Array Value), h.get? a = some oe ∧ Zc (.ref D) none oe ∧ oe.data = .fields vs) ∧ rIsE X.K D a xs H Q) := by
  rintro pins s σ H xs us Q I r ⟨D, a, φ, C, ha, hφ, c, cv, b, rfl, hcv, e, q⟩
  obtain ⟨u1, u2, rfl, r1, r2⟩ := vals2 r
  cases (show u1 = Value.ref a from r1)
  cases hcv _ r2
  obtain ⟨oe, vs, hget, ⟨h1, h2⟩, hv⟩ := hφ _ (I.hok a _ ha).1
  have J : PySem.W.InstAt s.heap a oe D none := by
    obtain ⟨oc, od, oda, osl⟩ := oe
    dsimp only at h1 h2 hv
    subst h1 h2 hv
    exact ⟨hget, rfl, rfl, trivial⟩
  exact PySem.W.kia_one (PySem.W.handS_kitx_exc C.hg C.hk C.hs C.hd C.ha C.hn C.ht C.hm) I.kIn J e (fun z => nomatch z) fun tk => ⟨.bl b, H, I.kept (t' := tk) fun _ _ z => z, rfl, q⟩
section
variable {X : Cx} {Z : PL.Ctx} {α O : Type} {r : Rel α} {x : α} {m xn c : Str} {ns : List Str} {pos p pu : Pos} {e en : Expr}
theorem ev_mkE (f : ExcF X.K X.mg xn) (hn : xn ∈ ns) (he : EvE X e Z r x) (hg : Gl X xn := by rfl) (hs : starEach [e] X.env = (false, eval e X.env) :: starEach [] X.env := by rfl) (hdb : (xn == ("__debug__" : Str)) = false := by decide) :
    EvE X (.Call (.Name xn p) [e] [] pos) Z (rExc X.K ns) xn := fun G H σ Q E q =>
  toE (pe_exc1 (B := "ValueError") (initId := "ValueError.__init__") PySem.F.excBase_ValueError f.q f.g f.k hg ce hs hdb) (he G H σ _ E fun G1 H1 v e1 h1 => fun a na =>
    q (upd G1 a (ExO (.ref (He.ga X.K xn)) a)) _ _ (e1.trans (Ext.new e1.s na)) ⟨hn, a, _, rfl, upd_same, fun h ⟨oe, vs, q1, q2, q3, _⟩ => ⟨oe, vs, q1, q2, q3⟩⟩)
theorem sm_ext {G H : Hp} {a : Addr} {φ : Heap → Prop} (h : SmF G H) (e : G a = some (.ext φ)) : H a = some (.ext φ) := by
  rcases h a _ e with q | ⟨o, us, q, _⟩
  · exact q
  · cases q
theorem ev_isV {C : Addr} {f : Str → Bool} (hC : ∀ c ∈ ns, ExcC X.K (He.ga X.K c)) (hk : ∀ c ∈ ns, PySem.W.kitOne X.K (.ref (He.ga X.K c)) (.ref C) = some (f c)) (hm : X.mg "isinstance" = none) (hu : X.mg m = some (.ref C)) (ha : EvE X en Z (rExc X.K ns) c) (hgu : Gl X m := by rfl)
    (hg : Gl X "isinstance" := by rfl) (he : starEach [en, .Name m pu] X.env = (false, eval en X.env) :: starEach [.Name m pu] X.env := by rfl) (he2 : starEach [.Name m pu] X.env = (false, eval (.Name m pu) X.env) :: starEach [] X.env := by rfl) (hpl : (backTo pos (starEach [.Name m pu] X.env)).any (·.1) = false := by rfl)
    (hdb : (m == ("__debug__" : Str)) = false := by decide) : EvE X (.Call (.Name "isinstance" p) [en, .Name m pu] [] pos) Z PL.rB (f c) := fun G H σ Q E q =>
  toE (pe_callB call_isV hg hm (by decide +kernel) (pa_cons ce (pa_cons (pe_glob (v := .ref C) hgu hu rfl hdb) pa_nil he2) he) (he := he) (hpl := hpl)) (ha G H σ _ E fun G1 H1 v e1 h1 => by
    obtain ⟨hn, a, φ, rfl, h2, h3⟩ := h1
    exact ⟨_, a, φ, hC c hn, sm_ext e1.s h2, h3, .ref C, .ref C, f c, rfl, fun u h => h, hk c hn, q G1 H1 _ e1 rfl⟩)
theorem ev_isVb {f : Str → Bool} (u : String) (hC : ∀ c ∈ ns, ExcC X.K (He.ga X.K c)) (hk : ∀ c ∈ ns, PySem.W.kitOne X.K (.ref (He.ga X.K c)) (.type u) = some (f c)) (hm : X.mg "isinstance" = none) (hu : X.mg m = none) (ha : EvE X en Z (rExc X.K ns) c) (hbu : bootBuiltins m = some (.type u) := by decide +kernel) (hnm : m ≠ "__name__" := by decide) (hgu : Gl X m := by rfl)
    (hg : Gl X "isinstance" := by rfl) (he : starEach [en, .Name m pu] X.env = (false, eval en X.env) :: starEach [.Name m pu] X.env := by rfl) (he2 : starEach [.Name m pu] X.env = (false, eval (.Name m pu) X.env) :: starEach [] X.env := by rfl) (hpl : (backTo pos (starEach [.Name m pu] X.env)).any (·.1) = false := by rfl)
    (hdb : (m == ("__debug__" : Str)) = false := by decide) : EvE X (.Call (.Name "isinstance" p) [en, .Name m pu] [] pos) Z PL.rB (f c) := fun G H σ Q E q =>
  toE (pe_callB call_isV hg hm (by decide +kernel) (pa_cons ce (pa_cons (pe_bltn (v := .ty u) hgu hu hbu rfl hnm hdb) pa_nil he2) he) (he := he) (hpl := hpl)) (ha G H σ _ E fun G1 H1 v e1 h1 => by
    obtain ⟨hn, a, φ, rfl, h2, h3⟩ := h1
    exact ⟨_, a, φ, hC c hn, sm_ext e1.s h2, h3, .ty u, .type u, f c, rfl, fun u h => h, hk c hn, q G1 H1 _ e1 rfl⟩)
end
/-! ### try: .. except x as n: v = n -/
section
variable {X : Cx} {Z : PL.Ctx} {O : Type} {n x : Str} {c : Value} {i j : Nat} {body suite rest : List Stmt} {b₀ : Stmt} {np pos pos' : Pos} {ns : List Str} {c0 : Str}
theorem goes_tryK (hs : X.stack = X.env :: X.outer) (hf : X.env.frame = some X.env.locals) (hN : X.N.Nodup) (hi : X.N[i]? = some n) (hln : X.env.kindOf n = some .local) (hc : Names X x c) {D : Ends}
    (h : ∀ (W : WX) (pn : List (Addr × Obj)) (xe : Value → Shared → Prop), L2N.Takes (X.tr pn xe) W → PassesOwn (model X.prog X.w) X.A X.env xe →
      (∀ (C : Addr) (H : Hp) (σ : L2.St), PySem.W.exmOne X.K (.ref C) c = some true → (∀ a oe pn, H a = none → HX X.K C oe → wSs (X.suite a ((a, oe) :: pn)) (b₀ :: suite) { nx := fun σ' H' => H' a = none → wSs X rest D (σ'.set i none) (upd H' a (L2N.ExT (.ref C) a)), rt := fun _ _ => False } (σ.set i (some (.ref a))) H) → W (.ref C) none σ H) → Goes (X.tr pn xe) body Z { D with nx := wSs X rest D }) :
    Goes X (.Try body [.ExceptHandler (some (.Name x np)) (some n) (b₀ :: suite) pos'] [] [] pos :: rest) Z D := by
  have tk : L2N.Takes X (fun _ _ _ _ => False) := fun u s' ⟨_, _, _, _, _, _, _, _, _, _, _, _, _, _, _, _, z⟩ => z.elim
  refine goes_of (L2N.ps_try_asK (i := i) (tb := fun W D σ H => ∀ (pn : List (Addr × Obj)) (xe : Value → Shared → Prop), L2N.Takes (X.tr pn xe) W → PassesOwn (model X.prog X.w) X.A X.env xe → wSs (X.tr pn xe) body D σ H)
    (ts := fun a cls d D σ H => ∀ oe pn, L2N.Zn cls d oe → (∃ vs, oe.data = .fields vs) → wSs (X.suite a ((a, oe) :: pn)) (b₀ :: suite) D σ H) hs hf hN hi hln hc tk (fun W pn xe t po => ⟨fun pins s σ H D I q => (q pn xe t po).run pins s I⟩) (fun a oe cls d pn hz hv => ⟨fun pins s σ H D I q => (q oe pn hz hv).run pins s I⟩)) fun G H σ E pn xe t po => ?_
  exact h _ pn xe t po (fun C H σ e q => ⟨true, e, fun _ => ⟨rfl, fun a ha oe pn hz hv => q a oe pn ha ⟨hz.zc, hv, hz.2.2⟩⟩, fun z => by cases z⟩) G H σ E
abbrev DKn (b : Bs) (N : List Str) (j : Nat) (a : Addr) : Ends := { nx := fun σ H => ∃ G, Env ⟨b, (List.replicate N.length Slot.any).set j (.val rRef a), []⟩ G H σ, rt := fun _ _ => False }
theorem gm_tryK {bx : Rs Unit} {g : Rs O} {D : O → Ends} (i j : Nat) (nd : X.N.Nodup) (hc : Names X x c) (hij : i ≠ j) (hj : j < X.N.length) (hcn : c0 ∈ ns)
    (hx : InTry X fun X' => AcX X' (He.ga X.K c0) Z.b.G0 Z.b.H0 → GM X' body Z (fun _ => noEnds) bx)
    (he : PySem.W.exmOne X.K (.ref (He.ga X.K c0)) c = some true)
    (hh : ∀ a oe pn, HX X.K (He.ga X.K c0) oe → Goes (X.suite a ((a, oe) :: pn)) (b₀ :: suite) (hCtx ⟨Z.b.G0, Z.b.H0, []⟩ X.N i a) (DKn ⟨Z.b.G0, Z.b.H0, []⟩ X.N j a))
    (after : GM X rest ⟨⟨Z.b.G0, Z.b.H0, []⟩, (List.replicate X.N.length Slot.any).set j (.val (rExc X.K ns) c0), []⟩ D g) (hi : X.N[i]? = some n := by rfl) (hln : X.env.kindOf n = some .local := by rfl) (hs : X.stack = X.env :: X.outer := by rfl) (hf : X.env.frame = some X.env.locals := by rfl) :
    GM X (.Try body [.ExceptHandler (some (.Name x np)) (some n) (b₀ :: suite) pos'] [] [] pos :: rest) Z D (bx.bd fun _ => g) := fun o ho => by
  obtain ⟨u, h1, h2⟩ := Rs.bd_inv ho
  refine goes_tryK hs hf nd hi hln hc fun W pn xe tk po acc => ?_
  have ac : AcX (X.tr pn xe) (He.ga X.K c0) Z.b.G0 Z.b.H0 := ⟨W, tk, fun G H σ e hl => acc _ H σ he fun a oe pn' ha hz => by
    refine goes_mono (hh a oe pn' hz) ?_ ?_ ?_ ?_ G H _ (env_h (N := X.N) e (fun B hB => by cases hB) hl)
    · rintro σ H ⟨G, E⟩ na
      have E1 := E.setv (i := i) (s := .any) (ov := none) trivial
      have E2 := E1.ext (Ext.new (o := L2N.ExT (.ref (He.ga X.K c0)) a) E1.le na)
      have ej : (((List.replicate X.N.length Slot.any).set j (.val rRef a)).set i .any)[j]? = some (.val rRef a) := by
        rw [List.getElem?_set_ne hij, List.getElem?_set_self (by simpa using hj)]
      obtain ⟨w, g1, g2⟩ := E1.get ej
      obtain rfl : w = .ref a := g2
      have E3 := E2.setv (i := j) (s := .val (rExc X.K ns) c0) (ov := some (.ref a)) ⟨.ref a, rfl, hcn, a, _, rfl, upd_same, fun h q => q⟩
      have eσ : (σ.set i none).set j (some (.ref a)) = σ.set i none := by
        apply List.ext_getElem?
        intro k
        by_cases hk : j = k
        · subst hk
          have hl := (List.getElem?_eq_some_iff.mp g1).1
          rw [List.getElem?_set_self hl, g1]
        · rw [List.getElem?_set_ne hk]
      rw [eσ] at E3
      refine after o h2 _ _ _ (E3.weak rfl ?_ rfl)
      show SubS ((((List.replicate X.N.length Slot.any).set j (.val rRef a)).set i .any).set j (.val (rExc X.K ns) c0)) _
      have : ((((List.replicate X.N.length Slot.any).set j (.val rRef a)).set i .any).set j (.val (rExc X.K ns) c0)) = (List.replicate X.N.length Slot.any).set j (.val (rExc X.K ns) c0) := by
        apply List.ext_getElem?
        intro k
        by_cases hk : j = k
        · subst hk
          rw [List.getElem?_set_self (by simpa using hj), List.getElem?_set_self (by simpa using hj)]
        · rw [List.getElem?_set_ne hk, List.getElem?_set_ne hk]
          by_cases hk2 : i = k
          · subst hk2
            by_cases hl : i < X.N.length
            · rw [List.getElem?_set_self (by simpa using hl), List.getElem?_replicate, if_pos hl]
            · rw [List.getElem?_eq_none (by simp; omega), List.getElem?_eq_none (by simp; omega)]
          · rw [List.getElem?_set_ne hk2, List.getElem?_set_ne hk]
      rw [this]
      exact SubS.refl _
    · exact fun _ _ z => z.elim
    · exact fun _ _ z => z.elim
    · exact fun _ _ z => z.elim⟩
  refine goes_mono (hx pn xe po ac _ h1) ?_ ?_ ?_ ?_
  · exact fun _ _ z => z.elim
  · exact fun _ _ z => z.elim
  · exact fun _ _ z => z.elim
  · exact fun _ _ z => z.elim
end
end PL

namespace Lw
open PySem PySem.Spec PyProof.Rows L2 PL Tp
/-! ### rulebooks, plainly -/
def isOf (w s : Text) (lo hi : Int) : Bool := (decide (lo ≤ (w.length : Int)) && decide ((w.length : Int) ≤ hi)) && w.all fun c => decide (c ∈ s)
def lets : Text := tx (Str.ofString "abcdefghijklmnopqrstuvwxyz")
def lsgn : Text := tx (Str.ofString "abcdefghijklmnopqrstuvwxyz0123456789")
def fits (e : Text × Text × Int) : Bool := isOf e.1 lets 1 8 && (isOf e.2.1 lets 0 (e.1.length : Int) && (decide (1 ≤ e.2.2) && decide (e.2.2 ≤ 20)))
structure RB where
  tails : List (Text × Text × Int)
  hushed : List (Text × Bool)
abbrev rEnd (K : PySem.W.Frag) : Rel (Text × Text × Int) := rT3 K rC rC rI
end Lw

namespace Lw
open PySem PySem.Spec PyProof.Rows L2 PL Tp
section
variable {P : Program} {w : World} {K : PySem.W.Frag} {mg : Str → Option Value} {base : Heap}
noncomputable def m_rule_is_of (word_1 : Text) (signs_2 : Text) (least_3 : Int) (most_4 : Int) : Rs Bool :=
 ((Rs.ok (decide (least_3 ≤ (word_1.length : Int)) && decide ((word_1.length : Int) ≤ most_4))).bd fun k7 => if k7 = true then (mapR (fun (x5 : Text) => sinR x5 signs_2) (word_1.map fun c => [c])).bd fun v_7 =>
 Rs.ok (v_7.all id) else Rs.ok false).bd fun z_10 => Rs.ok z_10
theorem ok_rule_is_of (T : Tx K mg) : CallOk P w K mg base "rule_is_of" 1 (spG (M4 PL.rC PL.rC PL.rI PL.rI PL.rB m_rule_is_of)) := call_rule_is_of T fun f fd F =>
  fn_d F sc_rule_is_of (by rintro ss R ⟨_, _, _, _, _, rfl, _, rfl⟩; rfl) (by
    rintro cdv A outer s H E G ss R hr ⟨word_1, signs_2, least_3, most_4,  z, rfl, hm, rfl⟩
    have nd := sc_rule_is_of.nd
    unfold m_rule_is_of at hm
    refine gm_run (D := fun z => retD G H (fun G v => (PL.rB).rd G v z)) ?_ hm
    exact gm_retM (r := PL.rB) (em_and (em_ok (ev_lele (ev_v 2) (ev_lenX T.b_len (ea_cons (ev_v 0) ea_nil)) (ev_v 3))) (em_one (em_bd (em_f (efm_lc (s := PL.rB) (own := [("sign", 4)]) rfl nd (lcr_1 (r := PL.rC) (ei_txt (ev_v 0)) fun B x5 => ⟨_, fun _ _ _ _ _ => egb_name 4 nd, fun _ _ _ _ _ => em_c (cmm_in (ev_v 4) (ev_v 1))⟩))) fun v_7 h7 =>
       em_ok (ev_all rfl T.b_all (ea_cons (h7) ea_nil))))))

noncomputable def m_rule_fits (ending_1 : Text) (instead_2 : Text) (least_3 : Int) : Rs Bool :=
 ((m_rule_is_of ending_1 (tx "abcdefghijklmnopqrstuvwxyz") (1 : Int) (8 : Int)).bd fun v_4 =>
 Rs.ok (!v_4)).bd fun k_5 =>
 if k_5 = true then
 Rs.ok false
 else ((m_rule_is_of instead_2 (tx "abcdefghijklmnopqrstuvwxyz") (0 : Int) (ending_1.length : Int)).bd fun v_6 =>
 Rs.ok (v_6 && (decide ((1 : Int) ≤ least_3) && decide (least_3 ≤ (20 : Int))))).bd fun z_7 => Rs.ok z_7
theorem ok_rule_fits (T : Tx K mg) : CallOk P w K mg base "rule_fits" 2 (spG (M3 PL.rC PL.rC PL.rI PL.rB m_rule_fits)) := call_rule_fits T fun f fd F =>
  fn_d F sc_rule_fits (by rintro ss R ⟨_, _, _, _, rfl, _, rfl⟩; rfl) (by
    rintro cdv A outer s H E G ss R hr ⟨ending_1, instead_2, least_3,  z, rfl, hm, rfl⟩
    have nd := sc_rule_fits.nd
    unfold m_rule_fits at hm
    refine gm_run (D := fun z => retD G H (fun G v => (PL.rB).rd G v z)) ?_ hm
    refine gm_ifM (etm_bd (em_c4 (ok_rule_is_of T) (hr.mono (by decide)) (ea_cons (ev_v 0) (ea_cons (ev_gtxt T.v_RULE_LETTERS) (ea_cons (ev_int) (ea_cons (ev_gint T.v_LONGEST_ENDING) ea_nil))))) fun v_4 h4 =>
       etm_ok (et_not (ev_t (h4)))) (fun k_5 => ?_) (fun k_5 => ?_)
    · exact gm_ret (r := PL.rB) (ev_bl)
    · refine gm_on ?_
      exact gm_retM (r := PL.rB) (em_bd (em_c4 (ok_rule_is_of T) (hr.mono (by decide)) (ea_cons (ev_v 1) (ea_cons (ev_gtxt T.v_RULE_LETTERS) (ea_cons (ev_int) (ea_cons (ev_lenX T.b_len (ea_cons (ev_v 0) ea_nil)) ea_nil))))) fun v_6 h6 =>
         em_ok (r := PL.rB) (ev_and (h6) fun _ => ev_one (ev_lele (ev_int) (ev_v 2) (ev_gint T.v_MOST_LEFT)))))
end
end Lw

namespace Lw
open PySem PySem.Spec PyProof.Rows L2 PL Tp
theorem inR_one (c : Nat) (s : Text) : sinR [c] s = .ok (decide (c ∈ s)) := by
  unfold sinR
  exact Rs.gd_pos rfl
theorem m_is_of (w s : Text) (lo hi : Int) : m_rule_is_of w s lo hi = .ok (isOf w s lo hi) := by
  unfold m_rule_is_of isOf
  have e : mapR (fun (x : Text) => sinR x s) (w.map fun c => [c]) = .ok ((w.map fun c => [c]).map fun t : Text => decide (t.headD 0 ∈ s)) := mapR_ok fun x hx => by
    obtain ⟨c, _, rfl⟩ := List.mem_map.mp hx
    exact inR_one c s
  simp only [Rs.bd_ok]
  cases h : (decide (lo ≤ (w.length : Int)) && decide ((w.length : Int) ≤ hi)) with
  | false => rfl
  | true =>
    rw [if_pos rfl, e]
    show Rs.ok _ = Rs.ok _
    rw [List.map_map, List.all_map]
    rfl
theorem m_fits (e : Text × Text × Int) : m_rule_fits e.1 e.2.1 e.2.2 = .ok (fits e) := by
  unfold m_rule_fits fits
  simp only [m_is_of, Rs.bd_ok]
  cases h : isOf e.1 (tx "abcdefghijklmnopqrstuvwxyz") 1 8 with
  | false =>
    rw [show isOf e.1 lets 1 8 = false from h]
    rfl
  | true =>
    rw [show isOf e.1 lets 1 8 = true from h]
    show Rs.ok _ = Rs.ok _
    rfl
section
variable {P : Program} {w : World} {K : PySem.W.Frag} {mg : Str → Option Value} {base : Heap}
end
end Lw

namespace Lw
open PySem PySem.Spec PyProof.Rows L2 PL Tp
/-! ### a rulebook that is none: __init__ raises NoRule -/
noncomputable def mx_E (c0 : Str) (q : List (Text × Text × Int)) (x : Text × Text × Int) : Rs (Stp (List (Text × Text × Int)) Unit) :=
  if (!fits x || (dget q x.1).isSome) = true then (rz c0 "NoRule").bd fun _ => .ok (.ret ()) else (putR q x.1 x.2).bd fun q' => .ok (.nxt q')
noncomputable def mx_S (c0 : Str) (p : List (Text × Bool)) (x : Text) : Rs (Stp (List (Text × Bool)) Unit) :=
  if (!isOf x lsgn 1 20 || (dget p x).isSome) = true then (rz c0 "NoRule").bd fun _ => .ok (.ret ()) else (putR p x true).bd fun p' => .ok (.nxt p')
noncomputable def mx_RB (c0 : Str) (es : List (Text × Text × Int)) (sl : List Text) : Rs Unit :=
  (forX (mx_E c0) [] es).bd (Stp.fin (fun _ => (forX (mx_S c0) [] sl).bd (Stp.fin (fun _ => .no) fun z => z)) fun z => z)
section
variable {X : Cx} {Z : PL.Ctx} {α O : Type} {r : Rel α} {pos pos' : Pos} {a d e : Expr} {rest : List Stmt} {k : Nat} {D : O → Ends} {t : Text} {kvs : List (Text × α)}
theorem gm_putDK (j : Nat) {l : Addr} {y : α} {f : List (Text × α) → Rs O} (hr : Room k X.A) (hv : EvE X e Z r y) (hd : EvE X d Z rRef l) (ha : EvE X a Z rC t) (hj : Z.ce[j]? = some (.dic l r kvs))
    (h : ∀ us, GM X rest (Z.setC (Z.ce.set j (.dic l r us))) D (f us)) (hs : swapsWith e (some (.Subscript d a pos')) pos.line X.env = pure false := by rfl) : GM X (.Assign [.Subscript d a pos'] e pos :: rest) Z D ((putR kvs t y).bd f) := fun o ho => by
  obtain ⟨us, h1, h2⟩ := Rs.bd_inv ho
  unfold putR at h1
  obtain ⟨h3, h4⟩ := Rs.gd_inv h1
  cases h4
  exact goes_putD j hr hv hd ha hj (by rw [sizeLine_eq]; exact h3) (h _ o h2) hs
end
section
variable {P : Program} {w : World} {K : PySem.W.Frag} {mg : Str → Option Value} {base : Heap}
theorem mkx_RB (T : Tx K mg) : MakeX P w K mg base "Rulebook" (He.ga K "Rulebook") 3 (spIX K (He.ga K "Rulebook") (X2 (rL K (rEnd K)) (rL K rC) mx_RB)) := let ⟨fd, F⟩ := T.f_Rulebook_init; ⟨_, fd, _,
  fn_ix F sc_Rulebook_init (by rintro ss c ⟨es, sl, rfl, _⟩; rfl) (by
    rintro cdv A outer s H E G o dx ss c0 hr ⟨es, sl, rfl, hm⟩ ac pp
    have hc := T.c_Rulebook
    have nd := sc_Rulebook_init.nd
    unfold mx_RB at hm
    refine gm_run (D := fun _ => noEnds) ?_ hm
    intro z0 hz0
    refine goes_fldD (rT2 K rC rI) 0 hc T.n_Rulebook_tails (ev_v 0) rfl (by decide) fun m => gm_run (D := fun _ => noEnds) ?_ hz0
    refine gm_forX (S := List (Text × Text × Int)) (ζ := Unit) (fun z => z) (fun q => ⟨⟨G, hid H o, []⟩, [.val rRef o, .any, .val (rL K rC) sl, .any, .any, .any, .any], [.dic m (rT2 K rC rI) q, .ins o dx (He.ga K "Rulebook") [("tails", .val rRef m)]]⟩)
      [] rfl pp (ei_list (ev_v 1)) rfl (.same (.any (.same (.any (.any (.any (.any .nil))))))) rfl (fun B x q => ⟨_, eg_tup3 rfl (eg_name 3 nd) (eg_name 4 nd) (eg_name 5 nd), ?_⟩) (fun q => ?_)
    · unfold mx_E
      refine gm_if (et_cast (ev_w (ew_or (et_not (ev_t (ev_ofM (em_c3 (ok_rule_fits T) hr (ea_cons (ev_v 3) (ea_cons (ev_v 4) (ea_cons (ev_v 5) ea_nil)))) (by rw [m_fits])))) fun _ => ew_or1 (et_c (cm_inDC 0 hr (ev_v 3) (ev_fldC 1 hc T.n_Rulebook_tails (ev_v 0) rfl rfl) rfl)))) rfl) ?_ ?_
      · exact gm_rzO _ ac T.ef_NoRule
      · refine gm_on ?_
        refine gm_putDK 0 hr (ev_tup2 (ea_cons (ev_v 4) (ea_cons (ev_v 5) ea_nil))) (ev_fldC 1 hc T.n_Rulebook_tails (ev_v 0) rfl rfl) (ev_v 3) rfl fun us => ?_
        exact gm_nextX us rfl (.same (.any (.same (.any (.any (.any (.any .nil))))))) rfl
    · intro z1 hz1
      refine goes_fldD rB 1 hc T.n_Rulebook_hushed (ev_v 0) rfl (by show 1 < 1000; decide) fun m2 => gm_run (D := fun _ => noEnds) ?_ hz1
      refine gm_forX (S := List (Text × Bool)) (ζ := Unit) (fun z => z) (fun p => ⟨⟨G, hid H o, []⟩, [.val rRef o, .any, .any, .any, .any, .any, .any], [.dic m2 rB p, .dic m (rT2 K rC rI) q, .ins o dx (He.ga K "Rulebook") [("tails", .val rRef m), ("hushed", .val rRef m2)]]⟩)
        [] rfl pp (ei_list (ev_v 2)) rfl (.same (.any (.any (.any (.any (.any (.any .nil))))))) rfl (fun B x p => ⟨_, eg_name 6 nd, ?_⟩) (fun p => gm_no)
      unfold mx_S
      refine gm_if (et_cast (ev_w (ew_or (et_not (ev_t (ev_ofM (em_c4 (ok_rule_is_of T) (hr.mono (by decide)) (ea_cons (ev_v 6) (ea_cons (ev_gtxt T.v_RULE_SIGNS) (ea_cons ev_int (ea_cons (ev_gint T.v_LONGEST_PLAIN) ea_nil))))) (m_is_of _ _ _ _)))) fun _ => ew_or1 (et_c (cm_inDC 0 hr (ev_v 6) (ev_fldC 2 hc T.n_Rulebook_hushed (ev_v 0) rfl rfl) rfl)))) rfl) ?_ ?_
      · exact gm_rzO _ ac T.ef_NoRule
      · refine gm_on ?_
        refine gm_putDK 0 hr ev_bl (ev_fldC 2 hc T.n_Rulebook_hushed (ev_v 0) rfl rfl) (ev_v 6) rfl fun us => ?_
        exact gm_nextX us rfl (.same (.any (.any (.any (.any (.any (.any .nil))))))) rfl), T.g_Rulebook, T.i_Rulebook, b_Rulebook_init F⟩
end
end Lw

namespace Lw
open PySem PySem.Spec PyProof.Rows L2 PL Tp
section
variable {P : Program} {w : World} {K : PySem.W.Frag} {mg : Str → Option Value} {base : Heap}
def xns : List Str := ["NoRule", "NoName", "NoText", "Lacking", "NoMake", "NoAsking", "NoPath", "NoWeighing", "NoMany", "Over", "NoRow", "SearchError"]
theorem xns_all {Q : Str → Prop} (h0 : Q "NoRule") (h1 : Q "NoName") (h2 : Q "NoText") (h3 : Q "Lacking") (h4 : Q "NoMake") (h5 : Q "NoAsking") (h6 : Q "NoPath") (h7 : Q "NoWeighing") (h8 : Q "NoMany") (h9 : Q "Over") (h10 : Q "NoRow") (h11 : Q "SearchError") : ∀ c ∈ xns, Q c := by
  intro c hc
  unfold xns at hc
  simp only [List.mem_cons, List.not_mem_nil, or_false] at hc
  rcases hc with rfl | rfl | rfl | rfl | rfl | rfl | rfl | rfl | rfl | rfl | rfl | rfl <;> assumption
def xE (C c : Str) : Bool := if C = "SearchError" ∨ C = "ValueError" then true else decide (c = C)
theorem xC (T : Tx K mg) : ∀ c ∈ xns, ExcC K (He.ga K c) := xns_all T.ec_NoRule T.ec_NoName T.ec_NoText T.ec_Lacking T.ec_NoMake T.ec_NoAsking T.ec_NoPath T.ec_NoWeighing T.ec_NoMany T.ec_Over T.ec_NoRow T.ec_SearchError
theorem xK_NoRule (T : Tx K mg) : ∀ c ∈ xns, PySem.W.kitOne K (.ref (He.ga K c)) (.ref (He.ga K "NoRule")) = some (xE "NoRule" c) := xns_all (T.kx_NoRule_NoRule.trans (congrArg some (by decide))) (T.kx_NoName_NoRule.trans (congrArg some (by decide))) (T.kx_NoText_NoRule.trans (congrArg some (by decide))) (T.kx_Lacking_NoRule.trans (congrArg some (by decide))) (T.kx_NoMake_NoRule.trans (congrArg some (by decide))) (T.kx_NoAsking_NoRule.trans (congrArg some (by decide))) (T.kx_NoPath_NoRule.trans (congrArg some (by decide))) (T.kx_NoWeighing_NoRule.trans (congrArg some (by decide))) (T.kx_NoMany_NoRule.trans (congrArg some (by decide))) (T.kx_Over_NoRule.trans (congrArg some (by decide))) (T.kx_NoRow_NoRule.trans (congrArg some (by decide))) (T.kx_SearchError_NoRule.trans (congrArg some (by decide)))
theorem xK_NoName (T : Tx K mg) : ∀ c ∈ xns, PySem.W.kitOne K (.ref (He.ga K c)) (.ref (He.ga K "NoName")) = some (xE "NoName" c) := xns_all (T.kx_NoRule_NoName.trans (congrArg some (by decide))) (T.kx_NoName_NoName.trans (congrArg some (by decide))) (T.kx_NoText_NoName.trans (congrArg some (by decide))) (T.kx_Lacking_NoName.trans (congrArg some (by decide))) (T.kx_NoMake_NoName.trans (congrArg some (by decide))) (T.kx_NoAsking_NoName.trans (congrArg some (by decide))) (T.kx_NoPath_NoName.trans (congrArg some (by decide))) (T.kx_NoWeighing_NoName.trans (congrArg some (by decide))) (T.kx_NoMany_NoName.trans (congrArg some (by decide))) (T.kx_Over_NoName.trans (congrArg some (by decide))) (T.kx_NoRow_NoName.trans (congrArg some (by decide))) (T.kx_SearchError_NoName.trans (congrArg some (by decide)))
theorem xK_NoText (T : Tx K mg) : ∀ c ∈ xns, PySem.W.kitOne K (.ref (He.ga K c)) (.ref (He.ga K "NoText")) = some (xE "NoText" c) := xns_all (T.kx_NoRule_NoText.trans (congrArg some (by decide))) (T.kx_NoName_NoText.trans (congrArg some (by decide))) (T.kx_NoText_NoText.trans (congrArg some (by decide))) (T.kx_Lacking_NoText.trans (congrArg some (by decide))) (T.kx_NoMake_NoText.trans (congrArg some (by decide))) (T.kx_NoAsking_NoText.trans (congrArg some (by decide))) (T.kx_NoPath_NoText.trans (congrArg some (by decide))) (T.kx_NoWeighing_NoText.trans (congrArg some (by decide))) (T.kx_NoMany_NoText.trans (congrArg some (by decide))) (T.kx_Over_NoText.trans (congrArg some (by decide))) (T.kx_NoRow_NoText.trans (congrArg some (by decide))) (T.kx_SearchError_NoText.trans (congrArg some (by decide)))
theorem xK_Lacking (T : Tx K mg) : ∀ c ∈ xns, PySem.W.kitOne K (.ref (He.ga K c)) (.ref (He.ga K "Lacking")) = some (xE "Lacking" c) := xns_all (T.kx_NoRule_Lacking.trans (congrArg some (by decide))) (T.kx_NoName_Lacking.trans (congrArg some (by decide))) (T.kx_NoText_Lacking.trans (congrArg some (by decide))) (T.kx_Lacking_Lacking.trans (congrArg some (by decide))) (T.kx_NoMake_Lacking.trans (congrArg some (by decide))) (T.kx_NoAsking_Lacking.trans (congrArg some (by decide))) (T.kx_NoPath_Lacking.trans (congrArg some (by decide))) (T.kx_NoWeighing_Lacking.trans (congrArg some (by decide))) (T.kx_NoMany_Lacking.trans (congrArg some (by decide))) (T.kx_Over_Lacking.trans (congrArg some (by decide))) (T.kx_NoRow_Lacking.trans (congrArg some (by decide))) (T.kx_SearchError_Lacking.trans (congrArg some (by decide)))
theorem xK_NoMake (T : Tx K mg) : ∀ c ∈ xns, PySem.W.kitOne K (.ref (He.ga K c)) (.ref (He.ga K "NoMake")) = some (xE "NoMake" c) := xns_all (T.kx_NoRule_NoMake.trans (congrArg some (by decide))) (T.kx_NoName_NoMake.trans (congrArg some (by decide))) (T.kx_NoText_NoMake.trans (congrArg some (by decide))) (T.kx_Lacking_NoMake.trans (congrArg some (by decide))) (T.kx_NoMake_NoMake.trans (congrArg some (by decide))) (T.kx_NoAsking_NoMake.trans (congrArg some (by decide))) (T.kx_NoPath_NoMake.trans (congrArg some (by decide))) (T.kx_NoWeighing_NoMake.trans (congrArg some (by decide))) (T.kx_NoMany_NoMake.trans (congrArg some (by decide))) (T.kx_Over_NoMake.trans (congrArg some (by decide))) (T.kx_NoRow_NoMake.trans (congrArg some (by decide))) (T.kx_SearchError_NoMake.trans (congrArg some (by decide)))
theorem xK_NoAsking (T : Tx K mg) : ∀ c ∈ xns, PySem.W.kitOne K (.ref (He.ga K c)) (.ref (He.ga K "NoAsking")) = some (xE "NoAsking" c) := xns_all (T.kx_NoRule_NoAsking.trans (congrArg some (by decide))) (T.kx_NoName_NoAsking.trans (congrArg some (by decide))) (T.kx_NoText_NoAsking.trans (congrArg some (by decide))) (T.kx_Lacking_NoAsking.trans (congrArg some (by decide))) (T.kx_NoMake_NoAsking.trans (congrArg some (by decide))) (T.kx_NoAsking_NoAsking.trans (congrArg some (by decide))) (T.kx_NoPath_NoAsking.trans (congrArg some (by decide))) (T.kx_NoWeighing_NoAsking.trans (congrArg some (by decide))) (T.kx_NoMany_NoAsking.trans (congrArg some (by decide))) (T.kx_Over_NoAsking.trans (congrArg some (by decide))) (T.kx_NoRow_NoAsking.trans (congrArg some (by decide))) (T.kx_SearchError_NoAsking.trans (congrArg some (by decide)))
theorem xK_NoPath (T : Tx K mg) : ∀ c ∈ xns, PySem.W.kitOne K (.ref (He.ga K c)) (.ref (He.ga K "NoPath")) = some (xE "NoPath" c) := xns_all (T.kx_NoRule_NoPath.trans (congrArg some (by decide))) (T.kx_NoName_NoPath.trans (congrArg some (by decide))) (T.kx_NoText_NoPath.trans (congrArg some (by decide))) (T.kx_Lacking_NoPath.trans (congrArg some (by decide))) (T.kx_NoMake_NoPath.trans (congrArg some (by decide))) (T.kx_NoAsking_NoPath.trans (congrArg some (by decide))) (T.kx_NoPath_NoPath.trans (congrArg some (by decide))) (T.kx_NoWeighing_NoPath.trans (congrArg some (by decide))) (T.kx_NoMany_NoPath.trans (congrArg some (by decide))) (T.kx_Over_NoPath.trans (congrArg some (by decide))) (T.kx_NoRow_NoPath.trans (congrArg some (by decide))) (T.kx_SearchError_NoPath.trans (congrArg some (by decide)))
theorem xK_NoWeighing (T : Tx K mg) : ∀ c ∈ xns, PySem.W.kitOne K (.ref (He.ga K c)) (.ref (He.ga K "NoWeighing")) = some (xE "NoWeighing" c) := xns_all (T.kx_NoRule_NoWeighing.trans (congrArg some (by decide))) (T.kx_NoName_NoWeighing.trans (congrArg some (by decide))) (T.kx_NoText_NoWeighing.trans (congrArg some (by decide))) (T.kx_Lacking_NoWeighing.trans (congrArg some (by decide))) (T.kx_NoMake_NoWeighing.trans (congrArg some (by decide))) (T.kx_NoAsking_NoWeighing.trans (congrArg some (by decide))) (T.kx_NoPath_NoWeighing.trans (congrArg some (by decide))) (T.kx_NoWeighing_NoWeighing.trans (congrArg some (by decide))) (T.kx_NoMany_NoWeighing.trans (congrArg some (by decide))) (T.kx_Over_NoWeighing.trans (congrArg some (by decide))) (T.kx_NoRow_NoWeighing.trans (congrArg some (by decide))) (T.kx_SearchError_NoWeighing.trans (congrArg some (by decide)))
theorem xK_NoMany (T : Tx K mg) : ∀ c ∈ xns, PySem.W.kitOne K (.ref (He.ga K c)) (.ref (He.ga K "NoMany")) = some (xE "NoMany" c) := xns_all (T.kx_NoRule_NoMany.trans (congrArg some (by decide))) (T.kx_NoName_NoMany.trans (congrArg some (by decide))) (T.kx_NoText_NoMany.trans (congrArg some (by decide))) (T.kx_Lacking_NoMany.trans (congrArg some (by decide))) (T.kx_NoMake_NoMany.trans (congrArg some (by decide))) (T.kx_NoAsking_NoMany.trans (congrArg some (by decide))) (T.kx_NoPath_NoMany.trans (congrArg some (by decide))) (T.kx_NoWeighing_NoMany.trans (congrArg some (by decide))) (T.kx_NoMany_NoMany.trans (congrArg some (by decide))) (T.kx_Over_NoMany.trans (congrArg some (by decide))) (T.kx_NoRow_NoMany.trans (congrArg some (by decide))) (T.kx_SearchError_NoMany.trans (congrArg some (by decide)))
theorem xK_Over (T : Tx K mg) : ∀ c ∈ xns, PySem.W.kitOne K (.ref (He.ga K c)) (.ref (He.ga K "Over")) = some (xE "Over" c) := xns_all (T.kx_NoRule_Over.trans (congrArg some (by decide))) (T.kx_NoName_Over.trans (congrArg some (by decide))) (T.kx_NoText_Over.trans (congrArg some (by decide))) (T.kx_Lacking_Over.trans (congrArg some (by decide))) (T.kx_NoMake_Over.trans (congrArg some (by decide))) (T.kx_NoAsking_Over.trans (congrArg some (by decide))) (T.kx_NoPath_Over.trans (congrArg some (by decide))) (T.kx_NoWeighing_Over.trans (congrArg some (by decide))) (T.kx_NoMany_Over.trans (congrArg some (by decide))) (T.kx_Over_Over.trans (congrArg some (by decide))) (T.kx_NoRow_Over.trans (congrArg some (by decide))) (T.kx_SearchError_Over.trans (congrArg some (by decide)))
theorem xK_NoRow (T : Tx K mg) : ∀ c ∈ xns, PySem.W.kitOne K (.ref (He.ga K c)) (.ref (He.ga K "NoRow")) = some (xE "NoRow" c) := xns_all (T.kx_NoRule_NoRow.trans (congrArg some (by decide))) (T.kx_NoName_NoRow.trans (congrArg some (by decide))) (T.kx_NoText_NoRow.trans (congrArg some (by decide))) (T.kx_Lacking_NoRow.trans (congrArg some (by decide))) (T.kx_NoMake_NoRow.trans (congrArg some (by decide))) (T.kx_NoAsking_NoRow.trans (congrArg some (by decide))) (T.kx_NoPath_NoRow.trans (congrArg some (by decide))) (T.kx_NoWeighing_NoRow.trans (congrArg some (by decide))) (T.kx_NoMany_NoRow.trans (congrArg some (by decide))) (T.kx_Over_NoRow.trans (congrArg some (by decide))) (T.kx_NoRow_NoRow.trans (congrArg some (by decide))) (T.kx_SearchError_NoRow.trans (congrArg some (by decide)))
theorem xK_SearchError (T : Tx K mg) : ∀ c ∈ xns, PySem.W.kitOne K (.ref (He.ga K c)) (.ref (He.ga K "SearchError")) = some (xE "SearchError" c) := xns_all (T.kx_NoRule_SearchError.trans (congrArg some (by decide))) (T.kx_NoName_SearchError.trans (congrArg some (by decide))) (T.kx_NoText_SearchError.trans (congrArg some (by decide))) (T.kx_Lacking_SearchError.trans (congrArg some (by decide))) (T.kx_NoMake_SearchError.trans (congrArg some (by decide))) (T.kx_NoAsking_SearchError.trans (congrArg some (by decide))) (T.kx_NoPath_SearchError.trans (congrArg some (by decide))) (T.kx_NoWeighing_SearchError.trans (congrArg some (by decide))) (T.kx_NoMany_SearchError.trans (congrArg some (by decide))) (T.kx_Over_SearchError.trans (congrArg some (by decide))) (T.kx_NoRow_SearchError.trans (congrArg some (by decide))) (T.kx_SearchError_SearchError.trans (congrArg some (by decide)))
theorem xK_ValueError (T : Tx K mg) : ∀ c ∈ xns, PySem.W.kitOne K (.ref (He.ga K c)) (.type "ValueError") = some (xE "ValueError" c) := xns_all (T.kx_NoRule_ValueError.trans (congrArg some (by decide))) (T.kx_NoName_ValueError.trans (congrArg some (by decide))) (T.kx_NoText_ValueError.trans (congrArg some (by decide))) (T.kx_Lacking_ValueError.trans (congrArg some (by decide))) (T.kx_NoMake_ValueError.trans (congrArg some (by decide))) (T.kx_NoAsking_ValueError.trans (congrArg some (by decide))) (T.kx_NoPath_ValueError.trans (congrArg some (by decide))) (T.kx_NoWeighing_ValueError.trans (congrArg some (by decide))) (T.kx_NoMany_ValueError.trans (congrArg some (by decide))) (T.kx_Over_ValueError.trans (congrArg some (by decide))) (T.kx_NoRow_ValueError.trans (congrArg some (by decide))) (T.kx_SearchError_ValueError.trans (congrArg some (by decide)))

noncomputable def m_law_signs  : Rs Text :=
 Rs.ok (tx " !\"#$&'()*+,-./0123456789:;<=>?@ABCDEFGHIJKLMNOPQRSTUVWXYZ[\\]^_`abcdefghijklmnopqrstuvwxyz{|}~")
theorem ok_law_signs (T : Tx K mg) : CallOk P w K mg base "_law_signs" 1 (spG (M0  PL.rC m_law_signs)) := call_law_signs T fun f fd F =>
  fn_d F sc_law_signs (by rintro ss R ⟨_, rfl, _, rfl⟩; rfl) (by
    rintro cdv A outer s H E G ss R hr ⟨ z, rfl, hm, rfl⟩
    have nd := sc_law_signs.nd
    unfold m_law_signs at hm
    refine gm_run (D := fun z => retD G H (fun G v => (PL.rC).rd G v z)) ?_ hm
    exact gm_ret (r := PL.rC) (ev_txt))

noncomputable def m_law_text_by_digits (number_1 : Int) (most_2 : Int) : Rs Text :=
 (m_law_signs).bd fun signs_here_4 =>
 (modR number_1 (most_2 + (1 : Int))).bd fun many_6 =>
 (divR number_1 (most_2 + (1 : Int))).bd fun number_8 =>
 (Rs.ok (tx "")).bd fun text_9 =>
 (rngR many_6).bd fun xs_10 =>
 (foldR (S := (Int × Text)) (fun (s11 : (Int × Text)) (x12 : Int) => ((sgnR signs_here_4 (s11.1 % (94 : Int))).bd fun v_13 =>
 catR s11.2 v_13).bd fun text_15 =>
 (Rs.ok (s11.1 / (94 : Int))).bd fun number_16 =>
 Rs.ok (number_16, text_15)) (number_8, text_9) xs_10).bd fun s11 =>
 Rs.ok s11.2
theorem ok_law_text_by_digits (T : Tx K mg) : CallOk P w K mg base "_law_text_by_digits" 2 (spG (M2 PL.rI PL.rI PL.rC m_law_text_by_digits)) := call_law_text_by_digits T fun f fd F =>
  fn_d F sc_law_text_by_digits (by rintro ss R ⟨_, _, _, rfl, _, rfl⟩; rfl) (by
    rintro cdv A outer s H E G ss R hr ⟨number_1, most_2,  z, rfl, hm, rfl⟩
    have nd := sc_law_text_by_digits.nd
    unfold m_law_text_by_digits at hm
    refine gm_run (D := fun z => retD G H (fun G v => (PL.rC).rd G v z)) ?_ hm
    refine gm_setM (r := PL.rC) 2 nd (em_c0 (ok_law_signs T) (hr.mono (by decide))) fun signs_here_4 => ?_
    refine gm_setM (r := PL.rI) 3 nd (em_mod (ev_v 0) (ev_add (ev_v 1) (ev_int))) fun many_6 => ?_
    refine gm_setM (r := PL.rI) 0 nd (em_div (ev_v 0) (ev_add (ev_v 1) (ev_int))) fun number_8 => ?_
    refine gm_setM (r := PL.rC) 4 nd (em_ok (r := PL.rC) (ev_txt)) fun text_9 => ?_
    refine gm_forM (S := (Int × Text)) (fun (s11 : (Int × Text)) => ⟨⟨G, H, []⟩, [.val PL.rI s11.1, .val PL.rI most_2, .val PL.rC signs_here_4, .val PL.rI many_6, .val PL.rC s11.2, .any], []⟩) (number_8, text_9) rfl PassesOwn.never (eim_range T.b_range (ea_cons (ev_v 3) ea_nil)) rfl (.same (.same (.same (.same (.same (.any (.nil))))))) rfl (fun B12 x12 s11 => ⟨_, eg_name 5 nd, ?_⟩) (fun s11 => ?_)
    · refine gm_setM (r := PL.rC) 4 nd (em_bd (em_ixC (ev_v 2) (ev_mod (ev_v 0) (ev_int) (by decide))) fun v_13 h13 =>
         em_cat (ev_v 4) (h13)) fun text_15 => ?_
      refine gm_setM (r := PL.rI) 0 nd (em_ok (r := PL.rI) (ev_fdiv (ev_v 0) (ev_int) ⟨by decide, by decide⟩)) fun number_16 => ?_
      exact gm_next (number_16, text_15) rfl (.same (.same (.same (.same (.same (.any (.nil))))))) rfl
    exact gm_ret (r := PL.rC) (ev_v 4))

noncomputable def m_law_sorts (e_1 : Str) : Rs (List Bool) :=
 (Rs.ok [(xE "NoRule" e_1), (xE "NoName" e_1), (xE "NoText" e_1), (xE "Lacking" e_1)]).bd fun some_2 =>
 (catR some_2 [(xE "NoMake" e_1), (xE "NoAsking" e_1), (xE "NoPath" e_1), (xE "NoWeighing" e_1)]).bd fun some_4 =>
 (catR some_4 [(xE "NoMany" e_1), (xE "Over" e_1), (xE "NoRow" e_1)]).bd fun z_6 => Rs.ok z_6
theorem ok_law_sorts (T : Tx K mg) : CallOk P w K mg base "_law_sorts" 1 (spG (M1 (rExc K xns) (rL K PL.rB) m_law_sorts)) := call_law_sorts T fun f fd F =>
  fn_d F sc_law_sorts (by rintro ss R ⟨_, _, rfl, _, rfl⟩; rfl) (by
    rintro cdv A outer s H E G ss R hr ⟨e_1,  z, rfl, hm, rfl⟩
    have nd := sc_law_sorts.nd
    unfold m_law_sorts at hm
    refine gm_run (D := fun z => retD G H (fun G v => ((rL K PL.rB)).rd G v z)) ?_ hm
    refine gm_setM (r := (rL K PL.rB)) 1 nd (em_ok (r := (rL K PL.rB)) (ev_f (ef_lst (r := PL.rB) (xs := [(xE "NoRule" e_1), (xE "NoName" e_1), (xE "NoText" e_1), (xE "Lacking" e_1)]) (ea_cons (ev_isV (f := xE "NoRule") (xC T) (xK_NoRule T) T.b_isinstance T.g_NoRule (ev_v 0)) (ea_cons (ev_isV (f := xE "NoName") (xC T) (xK_NoName T) T.b_isinstance T.g_NoName (ev_v 0)) (ea_cons (ev_isV (f := xE "NoText") (xC T) (xK_NoText T) T.b_isinstance T.g_NoText (ev_v 0)) (ea_cons (ev_isV (f := xE "Lacking") (xC T) (xK_Lacking T) T.b_isinstance T.g_Lacking (ev_v 0)) ea_nil)))) (szl 4)))) fun some_2 => ?_
    refine gm_setM (r := (rL K PL.rB)) 1 nd (em_f (efm_cat (r := PL.rB) (ev_v 1) (ev_f (ef_lst (r := PL.rB) (xs := [(xE "NoMake" e_1), (xE "NoAsking" e_1), (xE "NoPath" e_1), (xE "NoWeighing" e_1)]) (ea_cons (ev_isV (f := xE "NoMake") (xC T) (xK_NoMake T) T.b_isinstance T.g_NoMake (ev_v 0)) (ea_cons (ev_isV (f := xE "NoAsking") (xC T) (xK_NoAsking T) T.b_isinstance T.g_NoAsking (ev_v 0)) (ea_cons (ev_isV (f := xE "NoPath") (xC T) (xK_NoPath T) T.b_isinstance T.g_NoPath (ev_v 0)) (ea_cons (ev_isV (f := xE "NoWeighing") (xC T) (xK_NoWeighing T) T.b_isinstance T.g_NoWeighing (ev_v 0)) ea_nil)))) (szl 4))))) fun some_4 => ?_
    exact gm_retM (r := (rL K PL.rB)) (em_f (efm_cat (r := PL.rB) (ev_v 1) (ev_f (ef_lst (r := PL.rB) (xs := [(xE "NoMany" e_1), (xE "Over" e_1), (xE "NoRow" e_1)]) (ea_cons (ev_isV (f := xE "NoMany") (xC T) (xK_NoMany T) T.b_isinstance T.g_NoMany (ev_v 0)) (ea_cons (ev_isV (f := xE "Over") (xC T) (xK_Over T) T.b_isinstance T.g_Over (ev_v 0)) (ea_cons (ev_isV (f := xE "NoRow") (xC T) (xK_NoRow T) T.b_isinstance T.g_NoRow (ev_v 0)) ea_nil))) (szl 3))))))

noncomputable def m_law_made : Rs Str := ((mx_RB "NoRule" [] [tx "A"]).bd fun _ => Rs.ok ()).bd fun _ => Rs.ok "NoRule"
theorem ok_law_made (T : Tx K mg) : CallOk P w K mg base "_law_made" 5 (spG (M0 (rExc K xns) m_law_made)) := call_law_made T fun f fd F =>
  fn_d F sc_law_made (by rintro ss R ⟨_, rfl, _, rfl⟩; rfl) (by
    rintro cdv A outer s H E G ss R hr ⟨z, rfl, hm, rfl⟩
    have nd := sc_law_made.nd
    unfold m_law_made at hm
    refine gm_run (D := fun z => retD G H (fun G v => (rExc K xns).rd G v z)) ?_ hm
    refine gm_set (r := PL.rN) 0 nd (ev_non) ?_
    refine gm_tryK (ns := xns) (c0 := "NoRule") 1 0 nd ⟨rfl, by decide, .inl T.g_SearchError⟩ (by decide) (by show 0 < 2; decide) (by decide) (fun pn xe po ac => ?_) T.em_NoRule_SearchError (fun a oe pn hx => ?_) ?_
    · exact gm_exprX () (erm_make ac (mkx_RB T) (hr.mono (by decide)) (ea_cons (ev_f (ef_nil)) (ea_cons (ev_f (ef_txts)) ea_nil)) (fun hq => ⟨_, _, rfl, hq⟩))
    · refine goes_set (r := rRef) 0 nd (ev_v 1) ?_
      exact goes_nil fun G H σ E => ⟨G, E.weak rfl (.same (.any .nil)) rfl⟩
    · exact gm_ret (r := rExc K xns) (ev_v 0))

noncomputable def m_law (script_1 : (List Int)) : Rs Bool :=
 (Rs.ok (tx "x")).bd fun text_2 =>
 (if (!decide (script_1 = [])) = true then (((ixR script_1 (0 : Int)).bd fun v_4 =>
 m_law_text_by_digits v_4 (60 : Int)).bd fun text_6 =>
 Rs.ok text_6 : Rs Text)
 else Rs.ok text_2).bd fun s3 =>
 ((m_law_made).bd fun v_7 =>
 (m_law_sorts v_7).bd fun v_8 =>
 ((rngR (11 : Int)).bd fun xs_9 =>
 mapR (fun (x10 : Int) => Rs.ok (decide (x10 = (0 : Int)))) xs_9).bd fun v_11 =>
 Rs.ok (!decide (v_8 = v_11))).bd fun k_12 =>
 if k_12 = true then
 Rs.ok false
 else (Rs.ok [("NoRule" : Str), ("NoName" : Str), ("NoText" : Str), ("Lacking" : Str), ("NoMake" : Str), ("NoAsking" : Str), ("NoPath" : Str)]).bd fun some_13 =>
 (catR some_13 [("NoWeighing" : Str), ("NoMany" : Str), ("Over" : Str), ("NoRow" : Str)]).bd fun some_15 =>
 (forX (S := Unit) (ζ := Bool) (fun (s16 : Unit) (x17 : (Int × Str)) => if ((!(xE "SearchError" x17.2)) || (!(xE "ValueError" x17.2))) = true then
 Rs.ok (Stp.ret false)
 else ((m_law_sorts x17.2).bd fun v_18 =>
 ((rngR (11 : Int)).bd fun xs_19 =>
 mapR (fun (x20 : Int) => Rs.ok (decide (x20 = x17.1))) xs_19).bd fun v_21 =>
 Rs.ok (!decide (v_18 = v_21))).bd fun k_22 =>
 if k_22 = true then
 Rs.ok (Stp.ret false)
 else Rs.ok (.nxt ())) () (numd some_15)).bd (Stp.fin (fun s16 =>
 ((m_law_sorts ("SearchError" : Str)).bd fun v_23 =>
 Rs.ok (!(v_23.any id))).bd fun z_24 => Rs.ok z_24) (fun z => z))
def lvl : Nat := 6
theorem fn_law (T : Tx K mg) {f : Addr} {fd : FuncData} (F : F_law K f fd) : FnOk P w K mg base CX0 lvl f fd ["_law_script"] (spG (M1 (rL K PL.rI) PL.rB m_law)) :=
  fn_d F sc_law (by rintro ss R ⟨_, _, rfl, _, rfl⟩; rfl) (by
    rintro cdv A outer s H E G ss R hr ⟨script_1,  z, rfl, hm, rfl⟩
    have nd := sc_law.nd
    unfold m_law at hm
    refine gm_run (D := fun z => retD G H (fun G v => (PL.rB).rd G v z)) ?_ hm
    refine gm_setM (r := PL.rC) 1 nd (em_ok (r := PL.rC) (ev_txt)) fun text_2 => ?_
    refine gm_ifJ (S := Text) (fun (s3 : Text) => ⟨⟨G, H, []⟩, [.val (rL K PL.rI) script_1, .val PL.rC s3, .any, .any, .any, .any], []⟩) (et_c (cm_neD (dL dI) hr (ev_v 0) (ev_f (ef_nil)))) ?_ ?_ (fun s3 => ?_)
    · refine gm_setM (r := PL.rC) 1 nd (em_bd (em_ixL (ev_v 0) (ev_int)) fun v_4 h4 =>
         em_c2 (ok_law_text_by_digits T) (hr.mono (by decide)) (ea_cons (h4) (ea_cons (ev_int) ea_nil))) fun text_6 => ?_
      exact gm_to text_6 rfl (.same (.same (.any (.any (.any (.any (.nil))))))) rfl
    · exact gm_to text_2 rfl (.same (.same (.any (.any (.any (.any (.nil))))))) rfl
    refine gm_ifM (etm_bd (em_c0 (ok_law_made T) (hr.mono (by decide))) fun v_7 h7 =>
       etm_bd (em_c1 (ok_law_sorts T) (hr.mono (by decide)) (ea_cons (h7) ea_nil)) fun v_8 h8 =>
       etm_bd (em_f (efm_lc (s := PL.rB) (own := [("_law_j", 5)]) rfl nd (lcr_ib (eim_range T.b_range (ea_cons (ev_int) ea_nil)) fun xs_9 h9 =>
       lcr_1 (r := PL.rI) (h9) fun B x10 => ⟨_, fun _ _ _ _ _ => egb_name 5 nd, fun _ _ _ _ _ => em_ok (r := PL.rB) (ev_c (cm_eqI (ev_v 5) (ev_int)))⟩))) fun v_11 h11 =>
       etm_ok (et_c (cm_neD (dL dB) hr (h8) (h11)))) (fun k_12 => ?_) (fun k_12 => ?_)
    · exact gm_ret (r := PL.rB) (ev_bl)
    · refine gm_on ?_
      refine gm_setM (r := (rL K (rExc K xns))) 2 nd (em_ok (r := (rL K (rExc K xns))) (ev_f (ef_lst (r := (rExc K xns)) (xs := [("NoRule" : Str), ("NoName" : Str), ("NoText" : Str), ("Lacking" : Str), ("NoMake" : Str), ("NoAsking" : Str), ("NoPath" : Str)]) (ea_cons (ev_mkE T.ef_NoRule (by decide) (ev_v 1)) (ea_cons (ev_mkE T.ef_NoName (by decide) (ev_v 1)) (ea_cons (ev_mkE T.ef_NoText (by decide) (ev_v 1)) (ea_cons (ev_mkE T.ef_Lacking (by decide) (ev_v 1)) (ea_cons (ev_mkE T.ef_NoMake (by decide) (ev_v 1)) (ea_cons (ev_mkE T.ef_NoAsking (by decide) (ev_v 1)) (ea_cons (ev_mkE T.ef_NoPath (by decide) (ev_v 1)) ea_nil))))))) (szl 7)))) fun some_13 => ?_
      refine gm_setM (r := (rL K (rExc K xns))) 2 nd (em_f (efm_cat (r := (rExc K xns)) (ev_v 2) (ev_f (ef_lst (r := (rExc K xns)) (xs := [("NoWeighing" : Str), ("NoMany" : Str), ("Over" : Str), ("NoRow" : Str)]) (ea_cons (ev_mkE T.ef_NoWeighing (by decide) (ev_v 1)) (ea_cons (ev_mkE T.ef_NoMany (by decide) (ev_v 1)) (ea_cons (ev_mkE T.ef_Over (by decide) (ev_v 1)) (ea_cons (ev_mkE T.ef_NoRow (by decide) (ev_v 1)) ea_nil)))) (szl 4))))) fun some_15 => ?_
      refine gm_forX (S := Unit) (ζ := Bool) (fun z => z) (fun (s16 : Unit) => ⟨⟨G, H, []⟩, [.val (rL K PL.rI) script_1, .val PL.rC s3, .val (rL K (rExc K xns)) some_15, .any, .any, .any], []⟩) () rfl PassesOwn.never (ei_enum T.b_enumerate (ea_cons (ev_v 2) ea_nil)) rfl (.same (.same (.same (.any (.any (.any (.nil))))))) rfl (fun B17 x17 s16 => ⟨_, eg_tup2 rfl (eg_name 3 nd) (eg_name 4 nd), ?_⟩) (fun s16 => ?_)
      · refine gm_if (ev_w (ew_or (et_not (ev_t (ev_isV (f := xE "SearchError") (xC T) (xK_SearchError T) T.b_isinstance T.g_SearchError (ev_v 4)))) fun _ => ew_or1 (et_not (ev_t (ev_isVb (f := xE "ValueError") "ValueError" (xC T) (xK_ValueError T) T.b_isinstance T.b_ValueError (ev_v 4)))))) ?_ ?_
        · exact gm_ret (r := PL.rB) (ev_bl)
        · refine gm_on ?_
          refine gm_ifM (etm_bd (em_c1 (ok_law_sorts T) (hr.mono (by decide)) (ea_cons (ev_v 4) ea_nil)) fun v_18 h18 =>
             etm_bd (em_f (efm_lc (s := PL.rB) (own := [("_law_j", 5)]) rfl nd (lcr_ib (eim_range T.b_range (ea_cons (ev_int) ea_nil)) fun xs_19 h19 =>
             lcr_1 (r := PL.rI) (h19) fun B x20 => ⟨_, fun _ _ _ _ _ => egb_name 5 nd, fun _ _ _ _ _ => em_ok (r := PL.rB) (ev_c (cm_eqI (ev_v 5) (ev_v 3)))⟩))) fun v_21 h21 =>
             etm_ok (et_c (cm_neD (dL dB) hr (h18) (h21)))) (fun k_22 => ?_) (fun k_22 => ?_)
          · exact gm_ret (r := PL.rB) (ev_bl)
          · refine gm_on ?_
            exact gm_nextX () rfl (.same (.same (.same (.any (.any (.any (.nil))))))) rfl
      exact gm_retM (r := PL.rB) (em_bd (em_c1 (ok_law_sorts T) (hr.mono (by decide)) (ea_cons (ev_mkE T.ef_SearchError (by decide) (ev_v 1)) ea_nil)) fun v_23 h23 =>
         em_ok (r := PL.rB) (ev_not (ev_any rfl T.b_any (ea_cons (h23) ea_nil)))))
end
end Lw

namespace Lw
open PySem PySem.Spec PyProof.Rows L2 PL Tp
/-! ### the law (k10) -/
theorem made_ok : m_law_made = .ok "NoRule" := by
  unfold m_law_made
  have e : mx_RB "NoRule" [] [tx "A"] = .ok () := by
    have hb : isOf (tx "A") lsgn 1 20 = false := by decide +kernel
    unfold mx_RB
    rw [show forX (mx_E "NoRule") [] [] = .ok (.nxt []) from rfl, Rs.bd_ok]
    have e1 : forX (mx_S "NoRule") [] [tx "A"] = .ok (.ret ()) := by
      unfold forX mx_S
      rw [hb, show rz "NoRule" "NoRule" = .ok () from if_pos rfl]
      rfl
    show (forX (mx_S "NoRule") [] [tx "A"]).bd (Stp.fin (fun _ => .no) fun z => z) = _
    rw [e1]
    rfl
  rw [e]
  rfl
theorem sorts_val (c : Str) : m_law_sorts c = .ok [xE "NoRule" c, xE "NoName" c, xE "NoText" c, xE "Lacking" c, xE "NoMake" c, xE "NoAsking" c, xE "NoPath" c, xE "NoWeighing" c, xE "NoMany" c, xE "Over" c, xE "NoRow" c] := by
  unfold m_law_sorts
  rw [Rs.bd_ok, catR_ok (by show 4 + 4 ≤ 16777216; decide), Rs.bd_ok, catR_ok (by show 8 + 3 ≤ 16777216; decide)]
  rfl
def srt (c : Str) : List Bool := [xE "NoRule" c, xE "NoName" c, xE "NoText" c, xE "Lacking" c, xE "NoMake" c, xE "NoAsking" c, xE "NoPath" c, xE "NoWeighing" c, xE "NoMany" c, xE "Over" c, xE "NoRow" c]
def row (k : Int) : List Bool := (rngL 0 11).map fun j => decide (j = k)
theorem rows_all : ∀ q ∈ numd (([("NoRule" : Str), "NoName", "NoText", "Lacking", "NoMake", "NoAsking", "NoPath"] : List Str) ++ [("NoWeighing" : Str), "NoMany", "Over", "NoRow"]), (xE "SearchError" q.2 = true ∧ xE "ValueError" q.2 = true) ∧ srt q.2 = row q.1 := by decide +kernel
theorem text_ok (n : Int) : Yes (m_law_text_by_digits n 60) fun _ => True := by
  have h0 := Int.emod_nonneg n (show (61 : Int) ≠ 0 by decide)
  have h1 := Int.emod_lt_of_pos n (show (0 : Int) < 61 by decide)
  unfold m_law_text_by_digits m_law_signs
  simp only [Rs.bd_ok]
  rw [show (60 : Int) + 1 = 61 from rfl, modR_ok (by decide), Rs.bd_ok, divR_ok (by decide) (by decide), Rs.bd_ok, rngR_ok h0 (by omega), Rs.bd_ok]
  refine Yes.fold (fun i (s : Int × Text) => s.2.length ≤ i) (Nat.zero_le _) (fun i x s hx hI => ?_) fun s hI => ⟨_, rfl, trivial⟩
  obtain ⟨c, hc, e⟩ := ixR_in (xs := tx " !\"#$&'()*+,-./0123456789:;<=>?@ABCDEFGHIJKLMNOPQRSTUVWXYZ[\\]^_`abcdefghijklmnopqrstuvwxyz{|}~") (n := s.1) (m := 94) (by decide +kernel) (by decide)
  have hi := (List.getElem?_eq_some_iff.mp hx).1
  rw [rngL_len] at hi
  unfold sgnR
  rw [e]
  simp only [Rs.bd_ok]
  rw [catR_ok (by show s.2.length + 1 ≤ _; omega)]
  exact ⟨_, rfl, by show (s.2 ++ [c]).length ≤ i + 1; rw [List.length_append]; show s.2.length + 1 ≤ i + 1; omega⟩
theorem law_holds (ns : List Int) (_ : ns.length ≤ 63) (_ : ∀ i ∈ ns, Bt 1048576 i) : m_law ns = .ok true := by
  have key : Yes (m_law ns) fun b => b = true := by
    unfold m_law
    rw [Rs.bd_ok]
    refine Yes.bd (P := fun _ => True) (Yes.if (fun hn => ?_) fun _ => ⟨_, rfl, trivial⟩) fun t _ => ?_
    · obtain ⟨x, e⟩ : ∃ x, ixR ns (0 : Int) = .ok x := by
        cases ns with
        | nil => exact absurd hn (by decide)
        | cons y ys => exact ⟨y, ixR_at (j := 0) rfl rfl⟩
      rw [e]
      simp only [Rs.bd_ok]
      exact Yes.bd (text_ok x) fun s _ => ⟨_, rfl, trivial⟩
    · have er : ∀ k : Int, (rngR (11 : Int)).bd (fun xs => mapR (fun (x10 : Int) => Rs.ok (decide (x10 = k))) xs) = .ok (row k) := fun k => by
        rw [rngR_ok (by decide) (by decide), Rs.bd_ok, mapR_pure]
        rfl
      rw [made_ok, Rs.bd_ok, sorts_val, Rs.bd_ok, er 0, Rs.bd_ok, Rs.bd_ok]
      rw [show decide ([xE "NoRule" "NoRule", xE "NoName" "NoRule", xE "NoText" "NoRule", xE "Lacking" "NoRule", xE "NoMake" "NoRule", xE "NoAsking" "NoRule", xE "NoPath" "NoRule", xE "NoWeighing" "NoRule", xE "NoMany" "NoRule", xE "Over" "NoRule", xE "NoRow" "NoRule"] = row 0) = true from by decide +kernel]
      simp only [Bool.not_true, Bool.false_eq_true, if_false]
      rw [Rs.bd_ok, catR_ok (by show 7 + 4 ≤ 16777216; decide), Rs.bd_ok, forX_all fun q hq => ?_]
      · simp only [Rs.bd_ok, Stp.fin]
        rw [sorts_val]
        exact ⟨_, rfl, by decide +kernel⟩
      · obtain ⟨⟨h1, h2⟩, h3⟩ := rows_all q hq
        rw [h1, h2, sorts_val, er]
        simp only [Bool.not_true, Bool.or_self, Bool.false_eq_true, if_false, Rs.bd_ok]
        rw [show decide ([xE "NoRule" q.2, xE "NoName" q.2, xE "NoText" q.2, xE "Lacking" q.2, xE "NoMake" q.2, xE "NoAsking" q.2, xE "NoPath" q.2, xE "NoWeighing" q.2, xE "NoMany" q.2, xE "Over" q.2, xE "NoRow" q.2] = row q.1) = true from decide_eq_true h3]
        simp only [Bool.not_true, Bool.false_eq_true, if_false]
  obtain ⟨b, h, rfl⟩ := key
  exact h
end Lw

open PySem PySem.W PySem.Calls PyProof.Rows
theorem PySem.Challenge.cw_shownranks_k10_refusals_holds : PySem.Challenge.rw_shownranks_k10_refusals.Holds := by
  w_on; o_law
  refine HandSHeadRun.head_any (r := OpenLaw.row PySem.Challenge.rw_shownranks_k10_refusals) (q := view (OpenLaw.row PySem.Challenge.rw_shownranks_k10_refusals).prog [28]) (H := Tp.hk) (ob := Tp.ob) (M := 13000) (loose := Tp.nms)
    (d := HandSHeadRun.topDef (OpenLaw.row PySem.Challenge.rw_shownranks_k10_refusals).prog 28) (kwd := []) Tp.ob_eq (by kernel_rfl) (fun s => by kernel_rfl) Tp.run (by kernel_rfl) (by kernel_rfl)
    (by kernel_rfl) (by rfl) (by first | assumption | decide +kernel) (by decide +kernel) ⟨rfl, rfl, rfl, rfl, rfl, by decide +kernel⟩ ?hw ?hc
  case hw => w_witness2
  case hc =>
    refine PL.walk_EB (l := PySem.Challenge.rw_shownranks_k10_refusals) (n := 63) (k := Lw.lvl) (x := "_law_script") (CX := L2.CX0) rfl (by decide) (by kernel_rfl) ⟨rfl, by decide, by decide⟩ ?F (fun _ _ _ _ z => z)
    intro w mg fa h Y G hmg0
    obtain ⟨K, KX, c, cx⟩ := Y
    have hmg : mg ("law" : PySem.Str) = some (.ref fa) := by
      have e : (HandSHeadRun.topDef (OpenLaw.row PySem.Challenge.rw_shownranks_k10_refusals).prog 28).name = ("law" : PySem.Str) := by kernel_rfl
      rw [← e]
      exact hmg0
    have T : Tp.Tx K mg := ⟨c, cx, h, KX, G⟩
    obtain ⟨fd, F⟩ := T.f_law
    have e := hmg.symm.trans T.g_law
    cases e
    have b := L2.FunD.bindsA (ps := ["_law_script"]) F fun _ _ _ _ _ _ us hl => match us, hl with | [_], _ => rfl
    exact ⟨K, fd, PL.spG (PL.M1 (PL.rL K PL.rI) PL.rB Lw.m_law), KX, fun s v => b s [v] rfl, fun H a ns hl hb hS => PL.law_spM hl hS (Lw.law_holds ns hl fun i hi => PL.bt_of (hb i hi)), fun base _ _ => Lw.fn_law T F⟩
