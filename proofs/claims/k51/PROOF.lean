import PyProof.Rows.All
import Wide.All
import OpenK.AllK
import Wide.FinOn
import KE.KStateDown
import Lean
import HandS.ForMost
import HandS.Wide
import HandS.IsInst
import HandS.Words
import HandS.WordsExc
import HandS.Defaults
import HandS.Head0
import HandS.Head1
import HandS.Head2
import HandS.HeadEnd
import HandS.HeadHook1
import HandS.HeadHook2
import PyProof.ListRange
import HandS.ClsMeth
import HandS.Deep
import HandS.Dict
import HandS.EndBits
import HandS.Ends
import HandS.ExcIs
import HandS.Flow
import HandS.Iter
import HandS.More
import HandS.RevRange
import HandS.SetKeys
import HandS.StrMore
import HandS.Strs
import HandS.Style
import HandS.Text
import HandS.TryOnly
import HandS.TupAny
import HandS.WordsDict
import KE.DataMinMax
import KE.DatumOrd
import KE.GoesMore
import KE.KDictSum
import KE.KEqDict
import KE.KTupSum
import KE.SortData
import OpenK.KMake
import PyProof.Draws
import PyProof.EnumMake
import PyProof.FitsBits
import PyProof.NeKinds
import PyProof.ReprRoads
import PyProof.Rows.RuleB_pow
import PyProof.StrBlock2
import PySem.Challenge.RW_shownranks_k51_leaves_and_parts
set_option Elab.async false
set_option linter.all false
set_option maxRecDepth 100000
set_option maxHeartbeats 4000000

/-! A layer of pure values over the hand layer: what an expression is worth, as a plain Lean value, while the heap only grows. -/
namespace PL
open PySem PySem.Spec PyProof.Rows L2

structure Rel (α : Type) where
  rd : Hp → V → α → Prop
  mono : ∀ {G G' : Hp} {v : V} {x : α}, Same G G' → rd G v x → rd G' v x

def SmF (G H : Hp) : Prop := ∀ b u, G b = some u → H b = some u ∨ ∃ o us, u = .dK us ∧ H b = some (.frz o u)
theorem SmF.free {G H : Hp} (s : SmF G H) {b : Addr} (h : H b = none) : G b = none := by
  cases e : G b with
  | none => rfl
  | some u =>
    rcases s b u e with q | ⟨o, us, _, q⟩ <;> rw [h] at q <;> cases q
theorem SmF.at {G H : Hp} (s : SmF G H) {b : Addr} {u : HO} (h : G b = some u) (hn : ∀ us, u ≠ .dK us) : H b = some u := (s b u h).elim id fun ⟨_, us, q, _⟩ => absurd q (hn us)
theorem SmF.ins {G H : Hp} (s : SmF G H) {b C dx : Addr} {fs : List (Str × V)} (h : G b = some (.ins C dx fs)) : H b = some (.ins C dx fs) := s.at h fun _ z => by cases z
theorem SmF.own {G H : Hp} (s : SmF G H) {b o : Addr} (h : G b = some (.own o)) : H b = some (.own o) := s.at h fun _ z => by cases z
theorem SmF.seq {K : PySem.W.Frag} {G H : Hp} {a : Addr} {xs : List V} (s : SmF G H) (h : SqL K G a xs) : SqL K H a xs := by
  rcases h with (h | ⟨o, h⟩) | h
  · exact .inl (.inl (s.at h fun _ z => by cases z))
  · exact .inl (.inr ⟨o, s.at h fun _ z => by cases z⟩)
  · exact .inr h
theorem SmF.updo {F H : Hp} {o : Addr} {u : HO} (hF : F o = none) (s : SmF F H) : SmF F (upd H o u) := fun b x e => by
  rw [upd_ne (ne_of_none e hF)]
  exact s b x e
theorem SmF.trans {A B C : Hp} (s : SmF A B) (t : Same B C) : SmF A C := fun b u e => (s b u e).elim (fun q => .inl (t _ _ q)) fun ⟨o, us, h, q⟩ => .inr ⟨o, us, h, t _ _ q⟩
structure Ext (G H G' H' : Hp) : Prop where
  g : Same G G'
  s : SmF G' H'
  h : Same H H'
  n : ∀ b, H b ≠ none → G b = none → G' b = none
theorem nn_same {H H' : Hp} (h : Same H H') {b : Addr} (e : H b ≠ none) : H' b ≠ none := by
  cases q : H b with
  | none => exact absurd q e
  | some o => rw [h b o q]; exact fun z => by cases z
theorem Ext.trans {G H G1 H1 G2 H2 : Hp} (a : Ext G H G1 H1) (b : Ext G1 H1 G2 H2) : Ext G H G2 H2 :=
  ⟨a.g.trans b.g, b.s, a.h.trans b.h, fun c e z => b.n c (nn_same a.h e) (a.n c e z)⟩
inductive Slot : Type 1
  | any : Slot
  | val {α : Type} (r : Rel α) (x : α) : Slot
def Slot.ok (G : Hp) (ov : Option V) : Slot → Prop
  | .any => True
  | .val r x => ∃ v, ov = some v ∧ r.rd G v x
abbrev Text := List Nat
def mkS (x : Text) : Str := ⟨x.toArray⟩
def okT (x : Text) : Prop := x.length ≤ sizeLine ∧ ∀ c ∈ x, c < 1114112
inductive Cell : Type 1
  | lst {α : Type} (o : Addr) (r : Rel α) (xs : List α) : Cell
  | dic {α : Type} (o : Addr) (r : Rel α) (kvs : List (Text × α)) : Cell
  | ins (o dx C : Addr) (fs : List (Str × Slot)) : Cell
def Cell.addr : Cell → Addr
  | .lst o _ _ => o
  | .dic o _ _ => o
  | .ins o _ _ _ => o
def ent {α : Type} (r : Rel α) (G : Hp) (q : Key × V) (p : Text × α) : Prop := q.1 = Sum.inr (mkS p.1) ∧ r.rd G q.2 p.2 ∧ okT p.1
inductive Flds (G : Hp) : List (Str × V) → List (Str × Slot) → Prop
  | nil : Flds G [] []
  | cons {n : Str} {v : V} {s : Slot} {vs : List (Str × V)} {fs : List (Str × Slot)} : s.ok G (some v) → Flds G vs fs → Flds G ((n, v) :: vs) ((n, s) :: fs)
def Cell.is (G : Hp) (u : HO) : Cell → Prop
  | .lst _ r xs => ∃ vs, u = .lst vs ∧ Paired (r.rd G) vs xs ∧ xs.length ≤ sizeLine
  | .dic _ r kvs => ∃ us, u = .dK us ∧ Paired (ent r G) us kvs ∧ kvs.length ≤ sizeLine ∧ (kvs.map (·.1)).Nodup
  | .ins o dx C fs => G dx = some (.own o) ∧ ∃ vfs, u = .ins C dx vfs ∧ Flds G vfs fs
def Cell.ok (H0 G H : Hp) (c : Cell) : Prop := H0 c.addr = none ∧ G c.addr = none ∧ ∃ u, H c.addr = some u ∧ c.is G u
theorem Cell.ok_upd {H0 G H : Hp} {c : Cell} {o : Addr} {u : HO} (h : c.ok H0 G H) (hne : c.addr ≠ o) : c.ok H0 G (upd H o u) := by
  obtain ⟨h0, h1, v, h2, h3⟩ := h
  exact ⟨h0, h1, v, by rw [upd_ne hne]; exact h2, h3⟩
theorem Cell.ok_lst {H0 G H : Hp} {α : Type} {o : Addr} {r : Rel α} {xs : List α} (h : (Cell.lst o r xs).ok H0 G H) : H0 o = none ∧ G o = none ∧ ∃ vs, H o = some (.lst vs) ∧ Paired (r.rd G) vs xs ∧ xs.length ≤ sizeLine := by
  obtain ⟨h0, h1, u, h2, vs, rfl, h3, h4⟩ := h
  exact ⟨h0, h1, vs, h2, h3, h4⟩
theorem Cell.lst_ok {H0 G H : Hp} {α : Type} {o : Addr} {r : Rel α} {xs : List α} (h0 : H0 o = none) (h1 : G o = none) {vs : List V} (h2 : H o = some (.lst vs)) (h3 : Paired (r.rd G) vs xs) (h4 : xs.length ≤ sizeLine) : (Cell.lst o r xs).ok H0 G H := ⟨h0, h1, _, h2, vs, rfl, h3, h4⟩
structure Bs where
  G0 : Hp
  H0 : Hp
  ab : List Hp
structure Ctx where
  b : Bs
  sl : List Slot
  ce : List Cell
structure Env (Z : Ctx) (G H : Hp) (σ : L2.St) : Prop where
  ex : Ext Z.b.G0 Z.b.H0 G H
  ab : ∀ B ∈ Z.b.ab, Same B G
  sl : ∀ (i : Nat) (s : Slot), Z.sl[i]? = some s → ∃ ov, σ[i]? = some ov ∧ s.ok G ov
  ce : ∀ c ∈ Z.ce, c.ok Z.b.H0 G H
  nd : (Z.ce.map Cell.addr).Nodup
theorem Env.get {Z : Ctx} {G H : Hp} {σ : L2.St} (E : Env Z G H σ) {i : Nat} {α : Type} {r : Rel α} {x : α} (h : Z.sl[i]? = some (.val r x)) : ∃ v, σ[i]? = some (some v) ∧ r.rd G v x := by
  obtain ⟨ov, h1, v, h2, h3⟩ := E.sl i _ h
  exact ⟨v, by rw [h1, h2], h3⟩
def Ctx.set (Z : Ctx) (i : Nat) (s : Slot) : Ctx := ⟨Z.b, Z.sl.set i s, Z.ce⟩
def Ctx.setC (Z : Ctx) (cs : List Cell) : Ctx := ⟨Z.b, Z.sl, cs⟩
section
variable {X : Cx}
structure wE (X : Cx) (e : Expr) (σ : L2.St) (H : Hp) (Q : VK) : Prop where
  run : ∀ pins s, Inv X pins σ H s → wpAny (model X.prog X.w) X.A (eval e X.env) (EP X pins σ Q) X.xe s
structure wT (X : Cx) (e : Expr) (σ : L2.St) (H : Hp) (Q : Bool → Hp → Prop) : Prop where
  run : ∀ pins s, Inv X pins σ H s → wpAny (model X.prog X.w) X.A (isTrue e X.env (eval e X.env)) (TP X pins σ Q) X.xe s
structure wW (X : Cx) (e : Expr) (σ : L2.St) (H : Hp) (Q : Bool → Hp → Prop) : Prop where
  run : ∀ whole pins s, Inv X pins σ H s → wpAny (model X.prog X.w) X.A (isTrue e X.env whole) (TP X pins σ Q) X.xe s
structure wA (X : Cx) (es : List Expr) (σ : L2.St) (H : Hp) (Q : List V → Hp → Prop) : Prop where
  run : ∀ pos pins s, Inv X pins σ H s → wpAny (model X.prog X.w) X.A (spliced (backTo pos (starEach es X.env))) (AP X pins σ Q) X.xe s
structure wS (X : Cx) (st : Stmt) (D : Ends) (σ : L2.St) (H : Hp) : Prop where
  run : ∀ pins s, Inv X pins σ H s → wpAny (model X.prog X.w) X.A (exec st X.env) (SP X pins D) X.xe s
structure wSs (X : Cx) (st : List Stmt) (D : Ends) (σ : L2.St) (H : Hp) : Prop where
  run : ∀ pins s, Inv X pins σ H s → wpAny (model X.prog X.w) X.A (execs st X.env) (SP X pins D) X.xe s
theorem ce {e : Expr} : PE X e (wE X e) := ⟨fun pins s _ _ _ I h => h.run pins s I⟩
end

inductive Slv (G : Hp) : List V → List Slot → Prop
  | nil : Slv G [] []
  | cons {α : Type} {r : Rel α} {x : α} {v : V} {vs : List V} {ss : List Slot} : r.rd G v x → Slv G vs ss → Slv G (v :: vs) (.val r x :: ss)
section
variable {X : Cx} {Z : Ctx} {α β γ : Type} {r : Rel α} {x : α} {pos : Pos}
variable {a b c : Expr} {i j : Int}
end
end PL

namespace PL
open PySem PySem.Spec PyProof.Rows L2
section
variable {X : Cx} {Z : Ctx} {α β γ : Type} {r : Rel α} {x : α} {pos : Pos} {a b c e : Expr} {es : List Expr} {D : Ends} {rest : List Stmt}
variable {p : Pos} {n : Str}
end
end PL

namespace PL
open PySem PySem.Spec PyProof.Rows L2
inductive SubS : List Slot → List Slot → Prop
  | nil : SubS [] []
  | any {s : Slot} {l m : List Slot} : SubS l m → SubS (s :: l) (.any :: m)
  | same {s : Slot} {l m : List Slot} : SubS l m → SubS (s :: l) (s :: m)
  | eq {s t : Slot} {l m : List Slot} : s = t → SubS l m → SubS (s :: l) (t :: m)
theorem SubS.get {l m : List Slot} (h : SubS l m) : ∀ (i : Nat) (t : Slot), m[i]? = some t → ∃ s, l[i]? = some s ∧ (t = .any ∨ t = s) := by
  induction h with
  | nil => intro i t e; simp at e
  | any _ ih =>
    intro i t e
    cases i with
    | zero => simp at e; exact ⟨_, rfl, .inl e.symm⟩
    | succ i => simpa using ih i t (by simpa using e)
  | same _ ih =>
    intro i t e
    cases i with
    | zero => simp at e; exact ⟨_, rfl, .inr e.symm⟩
    | succ i => simpa using ih i t (by simpa using e)
  | eq q _ ih =>
    intro i t e
    cases i with
    | zero => simp at e; exact ⟨_, rfl, .inr (e.symm.trans q.symm)⟩
    | succ i => simpa using ih i t (by simpa using e)
structure Walks {α : Type} (J : It) (G : Hp) (r : Rel α) (xs : List α) : Prop where
  stop : ∀ i G1 H, Same G G1 → SmF G1 H → xs.length ≤ i → J.stop i H
  go : ∀ i G1 H, Same G G1 → SmF G1 H → i < xs.length → J.go i H
  yld : ∀ i G1 H v H', Same G G1 → SmF G1 H → i < xs.length → J.yld i H v H' → ∃ x G2, xs[i]? = some x ∧ Ext G1 H G2 H' ∧ r.rd G2 v x
section
variable {X : Cx} {Z : Ctx} {α β γ : Type} {r : Rel α} {x : α} {pos p : Pos} {a b c e tg : Expr} {es : List Expr} {D : Ends} {rest : List Stmt}
structure wG (X : Cx) (tg : Expr) (v : V) (σ : L2.St) (H : Hp) (Q : L2.St → Hp → Prop) : Prop where
  run : ∀ pins s u, Inv X pins σ H s → RelV v u → wpAny (model X.prog X.w) X.A (assign tg X.env u) (fun _ s' => ∃ σ' H', Inv X pins σ' H' s' ∧ Q σ' H') X.xe s
end

section
variable {X : Cx} {Z : Ctx} {α β γ : Type} {r : Rel α} {x : α} {pos p : Pos} {tg e elt : Expr} {D : Ends} {rest : List Stmt}
end
end PL

namespace PL
open PySem PySem.Spec PyProof.Rows L2
theorem set_self {α : Type _} : ∀ {l : List α} {i : Nat} {x : α}, l[i]? = some x → l.set i x = l
  | [], _, _, h => by simp at h
  | a :: l, 0, x, h => by simp at h; subst h; rfl
  | a :: l, i + 1, x, h => by
    show a :: l.set i x = a :: l
    rw [set_self (l := l) (i := i) (by simpa using h)]
theorem nd_inj {α : Type _} : ∀ {l : List α}, l.Nodup → ∀ {i j : Nat} {x : α}, l[i]? = some x → l[j]? = some x → i = j
  | [], _, i, j, x, h, _ => by simp at h
  | a :: l, nd, i, j, x, h1, h2 => by
    obtain ⟨n1, n2⟩ := List.nodup_cons.mp nd
    cases i with
    | zero =>
      cases j with
      | zero => rfl
      | succ j =>
        simp at h1 h2
        subst h1
        exact absurd (List.mem_of_getElem? h2) n1
    | succ i =>
      cases j with
      | zero =>
        simp at h1 h2
        subst h2
        exact absurd (List.mem_of_getElem? h1) n1
      | succ j =>
        have e1 : l[i]? = some x := by simpa using h1
        have e2 : l[j]? = some x := by simpa using h2
        rw [nd_inj n2 e1 e2]
section
variable {P : Program} {w : World} {K : PySem.W.Frag} {mg : Str → Option Value} {base : Heap}
end
section
variable {X : Cx} {Z : Ctx} {α β γ δ ε ζ : Type} {r : Rel α} {s : Rel β} {t : Rel γ} {u : Rel δ} {rz : Rel ζ} {x : α} {y : β} {z : γ} {q : δ} {pos p : Pos} {a b c d e tg : Expr} {es : List Expr} {D : Ends} {rest : List Stmt} {n : Str} {k : Nat}
theorem Env.cell {G H : Hp} {σ : L2.St} {j : Nat} {o : Addr} {vs : List V} {xs ys : List α} (E : Env Z G H σ) (hj : Z.ce[j]? = some (.lst o r xs)) (hp : Paired (r.rd G) vs ys) (hly : ys.length ≤ sizeLine) : Env (Z.setC (Z.ce.set j (.lst o r ys))) G (upd H o (.lst vs)) σ := by
  have hjl : j < Z.ce.length := (List.getElem?_eq_some_iff.mp hj).1
  have hmem : Cell.lst o r xs ∈ Z.ce := List.mem_of_getElem? hj
  obtain ⟨h0, hG, vs0, hH, _, _⟩ := Cell.ok_lst (E.ce _ hmem)
  have s1 : ∀ F : Hp, F o = none → Same F H → Same F (upd H o (.lst vs)) := fun F hF s b x e => by
    rw [upd_ne (ne_of_none e hF)]
    exact s b x e
  have hm : (Z.ce.set j (.lst o r ys)).map Cell.addr = Z.ce.map Cell.addr := by
    rw [List.map_set]
    have : (Z.ce.map Cell.addr)[j]? = some o := by rw [List.getElem?_map, hj]; rfl
    exact set_self this
  refine ⟨⟨E.ex.g, SmF.updo hG E.ex.s, s1 _ h0 E.ex.h, E.ex.n⟩, E.ab, E.sl, fun c hc => ?_, by show ((Z.ce.set j _).map Cell.addr).Nodup; rw [hm]; exact E.nd⟩
  obtain ⟨i, hi⟩ := List.getElem?_of_mem hc
  have hi' : (Z.ce.set j (.lst o r ys))[i]? = some c := hi
  by_cases hij : j = i
  · subst hij
    rw [List.getElem?_set_self hjl] at hi'
    have e := Option.some.inj hi'
    subst e
    exact Cell.lst_ok h0 hG upd_same hp hly
  · rw [List.getElem?_set_ne hij] at hi'
    have hc' := E.ce c (List.mem_of_getElem? hi')
    have hne : c.addr ≠ o := fun z => by
      have e1 : (Z.ce.map Cell.addr)[i]? = some o := by rw [List.getElem?_map, hi']; exact congrArg some z
      have e2 : (Z.ce.map Cell.addr)[j]? = some o := by rw [List.getElem?_map, hj]; rfl
      exact hij (nd_inj E.nd e2 e1)
    exact Cell.ok_upd hc' hne
structure DataR {α : Type} (K : PySem.W.Frag) (r : Rel α) (n : Nat) where
  toD : α → PyData
  dp : ∀ G v x, r.rd G v x → Dp K G v (toD x)
  lay : ∀ G v x, r.rd G v x → (toD x).canLay0 = true
  dep : ∀ x, (toD x).depth ≤ n
  eqv : ∀ x y, PyData.eqv (toD x) (toD y) = true ↔ x = y
end
end PL

namespace PL
open PySem PySem.Spec PyProof.Rows L2
section
variable {P : Program} {w : World} {K : PySem.W.Frag} {mg : Str → Option Value} {base : Heap}
end
section
variable {X : Cx} {Z Z' Z2 : Ctx} {α β γ : Type} {r : Rel α} {s : Rel β} {x : α} {pos p : Pos} {a b c e : Expr} {es : List Expr} {D : Ends} {rest : List Stmt} {n : Str} {k : Nat}
end
end PL

namespace PL
open PySem PySem.Spec PyProof.Rows L2
section
variable {X : Cx} {Z : Ctx} {α β γ : Type} {r : Rel α} {x : α} {pos p p1 p2 : Pos} {a b c e : Expr} {D : Ends} {rest : List Stmt} {n : Str} {k : Nat}
end
end PL

namespace PL
open PySem PySem.Spec PyProof.Rows L2
def Bt (n : Nat) (i : Int) : Prop := i.natAbs.log2 ≤ n
section
variable {X : Cx} {Z : Ctx} {pos : Pos} {a b : Expr} {i j : Int}
end
theorem log2_le {a n : Nat} (h : a < 2 ^ (n + 1)) : a.log2 ≤ n := by
  by_cases h0 : a = 0
  · subst h0
    exact Nat.zero_le _
  · have := (Nat.log2_lt h0).mpr h
    omega
theorem Bt.of {i : Int} {n : Nat} (h : i.natAbs < 2 ^ (n + 1)) : Bt n i := log2_le h
end PL

namespace PL
open PySem PySem.Spec PyProof.Rows L2
section
variable {X : Cx} {Z W : PL.Ctx} {body : List Stmt} {D : Ends} {α : Type} {r : Rel α} {x y : α} {pos : Pos} {a b : Expr}
end
end PL

namespace PL
open PySem PySem.Spec PyProof.Rows L2
abbrev tx (s : Str) : Text := s.cps.toList
theorem okT.one {x : Text} {c : Nat} (h : okT x) (hc : c ∈ x) : okT [c] := ⟨by rw [sizeLine_eq]; show 1 ≤ 16777216; decide, fun d hd => by rw [List.mem_singleton.mp hd]; exact h.2 c hc⟩
section
variable {X : Cx} {Z : PL.Ctx} {α β γ : Type} {r : Rel α} {pos p p2 : Pos} {a b c e tg : Expr} {x y z : Text} {k : Nat} {n : Str}
end
end PL

namespace PL
open PySem PySem.Spec PyProof.Rows L2
section
variable {P : Program} {w : World} {K : PySem.W.Frag} {mg : Str → Option Value} {base : Heap} {α : Type} {r : Rel α}
end
section
variable {X : Cx} {Z : PL.Ctx} {α β γ δ : Type} {r : Rel α} {pos p : Pos} {a b c e : Expr} {es : List Expr} {D : Ends} {rest : List Stmt} {n : Str} {k : Nat}
end
end PL

namespace PL
open PySem PySem.Spec PyProof.Rows L2
section
variable {X : Cx} {Z : PL.Ctx} {α β γ δ : Type} {r : Rel α} {s : Rel β} {t : Rel γ} {u : Rel δ} {x : α} {y : β} {z : γ} {q : δ} {pos p : Pos} {a b c d e : Expr} {es : List Expr} {D : Ends} {rest : List Stmt} {n : Str} {k : Nat}
variable {y3 : α × β × γ}
end
end PL

namespace PL
open PySem PySem.Spec PyProof.Rows L2
section
variable {α : Type} {r : Rel α} {G : Hp}
end
section
variable {X : Cx} {Z : Ctx} {α β γ : Type} {r : Rel α} {s : Rel β} {x : α} {pos p pos' : Pos} {a b c d e o : Expr} {D : Ends} {rest : List Stmt} {n : Str} {k : Nat} {t : Text} {kvs : List (Text × α)}
end
section
variable {P : Program} {w : World} {K : PySem.W.Frag} {mg : Str → Option Value} {base : Heap}
end
section
variable {X : Cx} {Z : Ctx} {α β γ : Type} {r : Rel α} {s : Rel β} {x : α} {pos p apos : Pos} {e o : Expr} {es : List Expr} {D : Ends} {rest : List Stmt} {n m : Str} {k : Nat} {C : Addr}
end
end PL

namespace PL
open PySem PySem.Spec PyProof.Rows L2
section
variable {X : Cx} {Z : Ctx} {α β γ : Type} {r : Rel α} {s : Rel β} {x : α} {pos p apos : Pos} {a b c d e o tg : Expr} {es : List Expr} {D : Ends} {rest : List Stmt} {n : Str} {k : Nat} {t u : Text} {i j l : Int}
section
variable {op op' : CmpOp} {R R' : R2} {ra : Rel α} {rb : Rel β} {rc : Rel γ} {xa : α} {xb : β} {xc : γ} {k1 k2 : Bool}
end
end
end PL

namespace PL
open PySem PySem.Spec PyProof.Rows L2
section
variable {α β γ : Type} {r : Rel α} {s : Rel β} {t : Rel γ} {K : PySem.W.Frag}
end
section
variable {X : Cx} {Z : Ctx} {α β γ : Type} {r : Rel α} {s : Rel β} {x : α} {y : β} {e : Expr}
end
end PL

namespace PL
open PySem PySem.Spec PyProof.Rows L2
section
variable {X : Cx} {Z : Ctx} {α β γ : Type} {r : Rel α} {x : α} {pos p : Pos} {a b c e : Expr} {es : List Expr}
variable {D : Ends} {rest th el : List Stmt} {k : Bool}
end
end PL

namespace PL
open PySem PySem.Spec PyProof.Rows L2
inductive Rs (α : Type) : Type
  | ok (a : α) : Rs α
  | ex (c : Nat) : Rs α
  | no : Rs α
def Rs.bd {α β : Type} (m : Rs α) (f : α → Rs β) : Rs β := match m with
  | .ok a => f a
  | .ex c => .ex c
  | .no => .no
@[simp] theorem Rs.bd_ok {α β : Type} (a : α) (f : α → Rs β) : (Rs.ok a).bd f = f a := rfl
@[simp] theorem Rs.bd_ex {α β : Type} (c : Nat) (f : α → Rs β) : (Rs.ex c).bd f = .ex c := rfl
@[simp] theorem Rs.bd_no {α β : Type} (f : α → Rs β) : (Rs.no : Rs α).bd f = .no := rfl
theorem Rs.bd_as {α β γ : Type} (m : Rs α) (f : α → Rs β) (g : β → Rs γ) : (m.bd f).bd g = m.bd fun x => (f x).bd g := by cases m <;> rfl
def mapR {α β : Type} (f : α → Rs β) : List α → Rs (List β)
  | [] => .ok []
  | x :: xs => (f x).bd fun y => (mapR f xs).bd fun ys => .ok (y :: ys)
inductive Stp (S ζ : Type) : Type
  | nxt (s : S) : Stp S ζ
  | brk (s : S) : Stp S ζ
  | ret (z : ζ) : Stp S ζ
section
variable {α β S ζ O : Type}
end
section
variable {X : Cx} {Z : PL.Ctx} {α β γ S ζ O : Type} {r : Rel α} {s : Rel β} {x : α} {pos p : Pos} {a b c e tg elt : Expr} {es : List Expr} {D : O → Ends} {body rest : List Stmt} {n : Str} {k : Nat}
variable {m m1 m2 : Rs O}
end
end PL

namespace PL
open PySem PySem.Spec PyProof.Rows L2
section
variable {X : Cx} {Z : PL.Ctx} {α β γ S ζ O : Type} {r : Rel α} {s : Rel β} {x : α} {pos p p2 : Pos} {a b c e tg elt d : Expr} {es : List Expr} {D : O → Ends} {body rest : List Stmt} {n : Str} {k : Nat} {i j : Int} {xs ys : List α} {t u : Text}
section
variable {scope : Scope} {own : List (Str × Nat)} {ifs : List Expr} {a' tg' : Expr}
end
end
end PL

namespace PL
open PySem PySem.Spec PyProof.Rows L2
section
variable {X : Cx} {Z : PL.Ctx} {α β γ δ ε S ζ O : Type} {r : Rel α} {s : Rel β} {r3 : Rel γ} {r4 : Rel δ} {x : α} {pos p p2 : Pos} {a b c e f tg elt d : Expr} {es : List Expr} {D : O → Ends} {body rest : List Stmt} {n : Str} {k : Nat} {i j : Int} {xs ys : List α} {t u : Text}
end
end PL

namespace PL
open PySem PySem.Spec PyProof.Rows L2
section
variable {X : Cx} {Z : PL.Ctx} {α β γ S ζ O : Type} {r : Rel α} {s : Rel β} {x : α} {pos p p2 : Pos} {a b c e f tg elt d : Expr} {es : List Expr} {D : O → Ends} {body rest th el : List Stmt} {n : Str} {k : Nat} {i j : Int} {xs ys : List α} {t u : Text} {m : Rs α} {g : α → Rs O}
end
end PL

namespace PL
open PySem PySem.Spec PyProof.Rows L2
section
variable {α β S T ζ O : Type}
end
section
variable {α β S T ζ O : Type} {m m1 m2 : Rs α} {f : α → Rs β} {P : α → Prop} {Q : β → Prop} {k : Bool}
def Yes (m : Rs α) (Q : α → Prop) : Prop := ∃ y, m = .ok y ∧ Q y
theorem Yes.ok {y : β} (h : Q y) : Yes (.ok y) Q := ⟨y, rfl, h⟩
theorem Yes.bd (h : Yes m P) (q : ∀ x, P x → Yes (f x) Q) : Yes (m.bd f) Q := by
  obtain ⟨x, rfl, h2⟩ := h
  exact q x h2
theorem Yes.by {x : α} (h : m = .ok x) (q : Yes (f x) Q) : Yes (m.bd f) Q := by
  subst h
  exact q
theorem Yes.val {x : α} (q : Yes (f x) Q) : Yes ((Rs.ok x).bd f) Q := q
theorem Yes.as {γ : Type} {g : β → Rs γ} {R : γ → Prop} (q : Yes (m.bd fun x => (f x).bd g) R) : Yes ((m.bd f).bd g) R := by
  rw [Rs.bd_as]
  exact q
theorem Yes.map {h : α → Rs β} {xs : List α} {R : List β → Prop} {T : α → β → Prop} (hs : ∀ x ∈ xs, Yes (h x) (T x)) (q : ∀ ys : List β, Paired T xs ys → R ys) : Yes (mapR h xs) R := by
  induction xs generalizing R with
  | nil => exact ⟨[], rfl, q [] .nil⟩
  | cons x xs ih =>
    obtain ⟨y, e1, t1⟩ := hs x (List.mem_cons_self ..)
    obtain ⟨ys, e2, t2⟩ := ih (R := fun ys => Paired T xs ys) (fun z hz => hs z (List.mem_cons_of_mem _ hz)) fun _ h => h
    exact ⟨y :: ys, by unfold mapR; rw [e1, e2]; rfl, q _ (.cons t1 t2)⟩
end
end PL

namespace PL
open PySem PySem.Spec PyProof.Rows L2
section
variable {X : Cx} {Z : PL.Ctx} {α β γ δ S ζ O τ : Type} {r : Rel α} {s : Rel β} {x : α} {pos p p2 : Pos} {a b c e f tg elt d : Expr} {es : List Expr} {D : O → Ends} {body rest th el : List Stmt} {n : Str} {k : Nat} {Zs : S → PL.Ctx}
variable {mi : Rs (Int × S)} {mj : Int × S → Rs (Int × S)} {mt : Rs (Text × S)} {mu : Text × S → Rs (Text × S)} {mv : Text × S → Rs (Int × S)} {ml : Rs (List α × S)} {mw : List α × S → Rs (Int × S)}
end
end PL

namespace PL
open PySem PySem.Spec PyProof.Rows L2
section
variable {P : Program} {w : World} {K : PySem.W.Frag} {mg : Str → Option Value} {base : Heap} {τ : Type} {rt : Rel τ}
end
section
variable {X : Cx} {Z : PL.Ctx} {α β γ δ S ζ O τ : Type} {r : Rel α} {s : Rel β} {rt : Rel τ} {x : α} {pos p p2 : Pos} {a b c e f tg elt d : Expr} {es : List Expr} {D : O → Ends} {body rest th el : List Stmt} {n v : Str} {k : Nat} {Zs : S → PL.Ctx} {Zl : List τ → PL.Ctx}
variable {m : Rs (α × S)} {g : α × S → Rs O}
end
end PL

namespace PL
open PySem PySem.Spec PyProof.Rows L2
section
variable {X : Cx} {Z : PL.Ctx} {α β γ δ S ζ O τ : Type} {r : Rel α} {s : Rel β} {rt : Rel τ} {x : α} {pos p p2 : Pos} {a b c e f tg elt d : Expr} {es : List Expr} {D : O → Ends} {body rest th el : List Stmt} {n : Str} {k : Nat} {Zs : S → PL.Ctx}
end
end PL

namespace PL
open PySem PySem.Spec PyProof.Rows L2 TL
section
variable {X : Cx} {Z : PL.Ctx} {α β S ζ O τ : Type} {r : Rel α} {rt : Rel τ} {pos p apos : Pos} {a b e : Expr} {es : List Expr} {n v : Str} {k : Nat} {Zs : S → PL.Ctx} {Zl : List τ → PL.Ctx} {t : Text} {xs : List Text}
end
end PL

namespace PL
open PySem PySem.Spec PyProof.Rows L2 PySem.W
structure OrdD {α : Type} {K : PySem.W.Frag} {r : Rel α} {n : Nat} (d : DataR K r n) : Prop where
  al : ∀ x y, alike (d.toD x) (d.toD y) = true
  so : (∀ x, ∃ a q, d.toD x = .tuple (a :: q)) ∨ ∀ x, d.toD x ≠ .none ∧ ∀ xs, d.toD x ≠ .tuple xs
section
variable {X : Cx} {Z : PL.Ctx} {α β : Type} {r : Rel α} {x : α} {pos p : Pos} {a b c e tg : Expr} {k m : Nat}
end
section
variable {K : PySem.W.Frag} {α β γ δ : Type} {r : Rel α} {s : Rel β} {t : Rel γ} {u : Rel δ} {n m l o : Nat}
end
end PL

namespace PL
open PySem PySem.Spec PyProof.Rows L2 PySem.W
end PL

namespace PL
open PySem PySem.Spec PyProof.Rows L2 PySem.W
section
variable {X : Cx} {Z : PL.Ctx} {α β : Type} {r : Rel α} {x : α} {pos p cp apos : Pos} {a b c d e tg : Expr} {k m : Nat} {kvs : List (Text × α)}
end
end PL

namespace PL
open PySem PySem.Spec PyProof.Rows L2
section
variable {K : PySem.W.Frag} {α β γ δ : Type} {r : Rel α} {s : Rel β} {t : Rel γ} {u : Rel δ}
end
section
variable {X : Cx} {Z : PL.Ctx} {α β γ O : Type} {r : Rel α} {s : Rel β} {x : α} {y : β} {e elt tg c a b : Expr} {kvs kvs' : List (Text × α)} {pos p : Pos} {k : Nat} {D : O → Ends} {rest : List Stmt}
end
end PL

namespace PL
open PySem PySem.Spec PyProof.Rows L2
section
variable {X : Cx} {Z : PL.Ctx} {α β γ δ ε ζ τ O : Type} {r : Rel α} {s : Rel β} {t : Rel γ} {u : Rel δ} {rz : Rel ζ} {rt : Rel τ} {pos p : Pos} {a e : Expr} {es : List Expr} {n : Str} {k : Nat} {D : O → Ends} {rest : List Stmt} {x : α} {y : β} {z : γ} {q : δ} {xs ys : List τ}
end
end PL

namespace PL
open PySem PySem.Spec PyProof.Rows L2 TL
section
variable {α β S : Type}
theorem Yes.then {α β : Type} {m : Rs α} {f : α → Rs β} {P : α → Prop} {Q : β → Prop} (h : Yes m P) (q : ∀ x, P x → Yes (f x) Q) : Yes (m.bd f) Q := h.bd q
end
end PL

namespace PL
open PySem PySem.Spec PyProof.Rows L2
section
variable {K : PySem.W.Frag} {α : Type}
end
section
variable {X : Cx} {Z : PL.Ctx} {α β O : Type} {r : Rel α} {x : α} {pos p pos' : Pos} {o e : Expr} {D : O → Ends} {rest : List Stmt}
end
end PL
namespace PL
open PySem PySem.Spec PyProof.Rows L2
section
variable {X : Cx} {Z : PL.Ctx} {α S : Type} {Zs : S → PL.Ctx} {r : Rel α} {p pos : Pos} {a : Expr}
end
end PL

namespace PL
open PySem PySem.Spec PyProof.Rows L2
structure IsC (K : PySem.W.Frag) (C : Addr) : Prop where
  ha : PySem.W.findIn K (.ref C) "__class__" = some (some (.builtin "object.__class__"))
  hs : PySem.W.specialIn K (.builtin "object.__class__") "__get__" = some (some (.builtin "getset_descriptor.__get__"))
  ht : PySem.W.takesIn K (.builtin "object.__class__") = some true
  hm : PySem.W.mroIn K C (.type "object") = some true
def isCB (K : PySem.W.Frag) (C : Addr) : Bool := decide (PySem.W.findIn K (.ref C) "__class__" = some (some (.builtin "object.__class__"))) && (decide (PySem.W.specialIn K (.builtin "object.__class__") "__get__" = some (some (.builtin "getset_descriptor.__get__"))) && (decide (PySem.W.takesIn K (.builtin "object.__class__") = some true) && decide (PySem.W.mroIn K C (.type "object") = some true)))
section
variable {X : Cx} {Z : PL.Ctx} {α β O : Type} {r : Rel α} {x : α} {pos p : Pos} {a : Expr} {D : O → Ends} {rest : List Stmt}
end
end PL

namespace PL
open PySem PySem.Spec PyProof.Rows L2
section
variable {X : Cx} {Z : PL.Ctx} {α S ζ O : Type} {r : Rel α} {pos px : Pos} {tg : Expr} {body rest : List Stmt} {n : Str}
end
end PL

namespace PL
open PySem PySem.Spec PyProof.Rows L2
mutual
def okPB : PyData → Bool
  | .none => true
  | .bool _ => true
  | .int _ => true
  | .str x => decide (x.cps.toList.length ≤ sizeLine) && x.cps.toList.all fun c => decide (c < 1114112)
  | .list _ => false
  | .tuple xs => decide (xs.length ≤ sizeLine) && okPBs xs
  | .dict _ => false
def okPBs : List PyData → Bool
  | [] => true
  | d :: ds => okPB d && okPBs ds
end
section
variable {K : PySem.W.Frag} {α β γ δ ε : Type} {r : Rel α} {s : Rel β} {t : Rel γ} {u : Rel δ}
end
section
variable {X : Cx} {Z : PL.Ctx} {α β γ O : Type} {r : Rel α} {x : α} {pos p : Pos} {a b e : Expr} {d d' : PyData} {i : Int} {k : Nat}
end
end PL

namespace PL
open PySem PySem.Spec PyProof.Rows L2
structure Mk0 (K : PySem.W.Frag) (C : Addr) : Prop where
  makes : PySem.W.makesIn K C = true
  init : PySem.W.findIn K (.ref C) "__init__" = some (some (.builtin "object.__init__"))
  kp : PySem.W.keepIn K (.ref C) = true
def mk0B (K : PySem.W.Frag) (C : Addr) : Bool := PySem.W.makesIn K C && (decide (PySem.W.findIn K (.ref C) "__init__" = some (some (.builtin "object.__init__"))) && PySem.W.keepIn K (.ref C))
section
variable {X : Cx} {C : Addr} {x : Str} {p pos : Pos}
end
section
variable {P : Program} {w : World} {K : PySem.W.Frag} {mg : Str → Option Value} {base : Heap} {n m : Str} {C : Addr} {j k : Nat} {sp sp' : Sp}
end
section
variable {X : Cx} {Z : PL.Ctx} {α β O : Type} {r : Rel α} {x : α} {pos p : Pos} {a : Expr}
end
end PL

namespace PL
open PySem PySem.Spec PyProof.Rows L2
def tupCB (K : PySem.W.Frag) (a : Addr) (its : List V) : Bool := match K.lookup a with
  | some o => decide (o.cls = .type "tuple") && (match o.data with
    | .seq xs _ => decide (xs.size ≤ 1000) && decide (xs.toList.map absV = its.map some)
    | _ => false)
  | none => false
def kitAllB (K : PySem.W.Frag) (D : Addr) (l : List (Str × Bool)) : Bool := l.all fun q => decide (PySem.W.kitOne K (.ref (He.ga K q.1)) (.ref D) = some q.2)
def isAllB (K : PySem.W.Frag) (l : List Str) : Bool := l.all fun q => isCB K (He.ga K q)
section
variable {X : Cx} {Z : PL.Ctx} {p : Pos} {n : Str} {a : Addr}
end
end PL

namespace PL
open PySem PySem.Spec PyProof.Rows L2
section
variable {X : Cx} {Z : PL.Ctx} {α β : Type} {r : Rel α} {pos p : Pos} {a b e : Expr} {x : Text} {xs : List Text} {i : Int} {is : List Int} {ds : List PyData}
end
end PL

namespace PL
open PySem PySem.Spec PyProof.Rows L2
section
variable {X : Cx} {Z : PL.Ctx} {α : Type} {r : Rel α} {pos p p2 : Pos} {a b e : Expr} {xs ys : List α}
end
end PL

namespace PL
open PySem PySem.Spec PyProof.Rows L2
end PL

namespace PL
open PySem PySem.Spec PyProof.Rows L2
section
variable {X : Cx} {Z : PL.Ctx} {α β γ O S : Type} {r : Rel α} {s : Rel β} {x : α} {pos p p2 apos : Pos} {a b e : Expr} {d : PyData} {k : Nat} {t u : Text} {Zs : S → PL.Ctx}
inductive DispC : List (Option Expr) → List Expr → List (Text × Text) → Prop
  | nil : DispC [] [] []
  | cons {k v : Str} {j j' : Nat} {p p' : Pos} {ks : List (Option Expr)} {vs : List Expr} {kvs : List (Text × Text)} : DispC ks vs kvs → DispC (some (.Constant (.str k) j p) :: ks) (.Constant (.str v) j' p' :: vs) ((tx k, tx v) :: kvs)
end
section
variable {X : Cx} {Z : PL.Ctx} {α β O S : Type} {r : Rel α} {pos p px : Pos} {a b e : Expr} {es : List Expr} {rest : List Stmt} {D : O → Ends} {n : Str} {Zs : S → PL.Ctx}
end
section
variable {X : Cx} {Z : PL.Ctx} {α ζ τ : Type} {r : Rel α} {rt : Rel τ} {pos p : Pos} {es : List Expr} {n v : Str} {k : Nat} {Zl : List τ → PL.Ctx}
end
end PL

namespace PL
open PySem PySem.Spec PyProof.Rows L2
def isFnK : ScopeKind → Bool
  | .function => true
  | _ => false
def isFreeK : NameKind → Bool
  | .free => true
  | _ => false
def isLocK : Option NameKind → Bool
  | some .local => true
  | some .cell => true
  | _ => false
def scB (N P : List Str) (sc : Scope) : Bool := isFnK sc.kind && (!sc.isCoroutine && (!sc.isGenerator && (decide N.Nodup && (decide (N.take P.length = P) && ((P.all fun x => isLocK (sc.names.lookup x)) && (sc.names.all fun y => !isFreeK y.2))))))
theorem scp_of {N P : List Str} {sc : Scope} (h : scB N P sc = true) : FnScope N P sc := by
  unfold scB at h
  simp only [Bool.and_eq_true, Bool.not_eq_true', List.all_eq_true, decide_eq_true_eq] at h
  obtain ⟨h1, h2, h3, h4, h5, h6, h7⟩ := h
  refine ⟨?_, h2, h3, h4, h5, fun x hx => ?_, fun y hy z => ?_⟩
  · cases e : sc.kind <;> rw [e] at h1 <;> first | rfl | cases h1
  · have := h6 x hx
    cases e : sc.names.lookup x with
    | none => rw [e] at this; cases this
    | some k =>
      rw [e] at this
      cases k <;> first | exact .inl rfl | exact .inr rfl | cases this
  · have := h7 y hy
    rw [z] at this
    cases this
end PL

namespace PL
open PySem PySem.Spec PyProof.Rows L2
def dupM : List Addr → Nat → List Addr
  | [], _ => []
  | a :: r, m => bif ((m >>> a) % 2 == 1) then dupM r m else a :: dupM r (m ||| (1 <<< a))
def growM (g : Addr → Option Obj) (as : List Addr) : List Addr := dupM (as ++ as.flatMap fun a => match g a with
  | some o => He.refsD o
  | none => []) 0
def asM (g : Addr → Option Obj) : Nat → List Addr
  | 0 => [mainGlobals]
  | n + 1 => growM g (asM g n)
def obsY (n : Nat) (fa : List He.Fa) (fn : List He.DefD) (ck : PySem.W.Frag → Bool) (g : Addr → Option Obj) : He.AlD × Bool := let K := He.frG g (asM g n); (He.obsD fa fn K, ck K)
def hookY (n : Nat) (fa : List He.Fa) (fn : List He.DefD) (ck : PySem.W.Frag → Bool) : PySem.W.Hook where
  α := He.AlD × Bool
  obs := fun s => obsY n fa fn ck s.heap.get?
  val := fun _ => (He.valD fn, true)
  says := fun _ h => ∃ K : PySem.W.Frag, K.In h ∧ He.SaysD fa fn K ∧ ck K = true
  of := fun _ _ e => ⟨_, He.frG_in, congrArg (fun z : He.AlD × Bool => z.1) e, congrArg (fun z : He.AlD × Bool => z.2) e⟩
  keeps := fun _ _ _ ⟨K, hK, c⟩ k => ⟨K, PySem.W.Frag.In.keeps hK k, c⟩
theorem obsY_eq {n : Nat} {fa : List He.Fa} {fn : List He.DefD} {ck : PySem.W.Frag → Bool} {g : Addr → Option Obj} {s : Shared} (h : ∀ a, g a = s.heap.get? a) : obsY n fa fn ck g = (hookY n fa fn ck).obs s := by
  have e : g = s.heap.get? := funext h
  rw [e] <;> rfl
end PL

namespace PL
open PySem PySem.W PySem.Calls PyProof.Rows HandSHeadRun
theorem opt_three {α β γ δ : Type} {o : Option α} {f : α → β} {g : α → γ} {h : α → δ} {a : β} {b : γ} {c : δ} (h1 : o.map (fun s => (f s, g s)) = some (a, b)) (h2 : o.map h = some c) : o.map (fun s => (f s, g s, h s)) = some (a, b, c) := by
  cases o with
  | none => cases h2
  | some s =>
    cases h1
    cases h2
    rfl
def RunA (r : OpenRow) (q : Program) (M : Nat) (loose : List PySem.Str) (w : World) : Prop :=
  ∀ os : OsState, (endF (stepQ (denQ tabQ) r.prog w) M r.prog w os).map (fun s => (looksF r.prog (boot_heap w.params) s.abs, HandSHeadRun.seenQ q loose (importedModules r.prog.main.body) (fun s => xlAt q [] s && recOk r.toRowW.records s) s.abs)) = some (true, openGood q loose)
def RunB (r : OpenRow) (H : Hook) (ob : SharedT → H.α) (M : Nat) (w : World) : Prop :=
  ∀ os : OsState, (endF (stepQ (denQ tabQ) r.prog w) M r.prog w os).map (fun s => ob s) = some (H.val w)
theorem run_of {r : OpenRow} {q : Program} {H : Hook} {ob : SharedT → H.α} {M : Nat} {loose : List PySem.Str} {w : World} (a : RunA r q M loose w) (b : RunB r H ob M w) : RunEq r q H ob M loose w := fun os => opt_three (a os) (b os)
end PL

namespace PL
open PySem PySem.W PySem.Calls PyProof.Rows HandSHeadRun
theorem opt_two {α β γ : Type} {o : Option α} {f : α → β} {g : α → γ} {a : β} {b : γ} (h1 : o.map (fun s => f s) = some a) (h2 : o.map (fun s => g s) = some b) : o.map (fun s => (f s, g s)) = some (a, b) := by
  cases o with
  | none => cases h2
  | some s =>
    cases h1
    cases h2
    rfl
def RunC {β : Type} (r : OpenRow) (f : SharedT → β) (b : β) (M : Nat) (w : World) : Prop := ∀ os : OsState, (endF (stepQ (denQ tabQ) r.prog w) M r.prog w os).map (fun s => f s) = some b
theorem runB_of {n : Nat} {fa : List He.Fa} {fn : List He.DefD} {ck : PySem.W.Frag → Bool} {r : OpenRow} {M : Nat} {w : World}
    (h1 : RunC r (fun s => He.obsD fa fn (He.frG (getT s) (asM (getT s) n))) (He.valD fn) M w) (h2 : RunC r (fun s => ck (He.frG (getT s) (asM (getT s) n))) true M w) :
    RunB r (hookY n fa fn ck) (fun s => obsY n fa fn ck (getT s)) M w := fun os => opt_two (h1 os) (h2 os)
end PL

namespace Tp
open PySem PySem.Spec PyProof.Rows L2 PL
def top (i : Nat) : Stmt := PySem.Challenge.pw_shownranks_k51_leaves_and_parts.main.body.getD i (.Pass ⟨0, 0, 0, 0⟩)
abbrev s__wall : Stmt := top 0
def d__wall : He.DefD := ⟨("_wall", none), "_wall", "_wall", defArgs s__wall, defBody s__wall, defScope s__wall, [], []⟩
abbrev s_is_plain : Stmt := top 11
theorem sc_is_plain : FnScope ["word", "sign"] ["word"] (defScope s_is_plain) := scp_of (by kernel_rfl)
abbrev F_is_plain (K : PySem.W.Frag) (f : Addr) (fd : FuncData) : Prop := FunD K "is_plain" "is_plain" (defArgs s_is_plain) (defBody s_is_plain) (defScope s_is_plain) [] [] f fd
def d_is_plain : He.DefD := ⟨("is_plain", none), "is_plain", "is_plain", defArgs s_is_plain, defBody s_is_plain, defScope s_is_plain, [], []⟩
abbrev s_want_plain : Stmt := top 12
theorem sc_want_plain : FnScope ["words", "word"] ["words"] (defScope s_want_plain) := scp_of (by kernel_rfl)
abbrev F_want_plain (K : PySem.W.Frag) (f : Addr) (fd : FuncData) : Prop := FunD K "want_plain" "want_plain" (defArgs s_want_plain) (defBody s_want_plain) (defScope s_want_plain) [] [] f fd
def d_want_plain : He.DefD := ⟨("want_plain", none), "want_plain", "want_plain", defArgs s_want_plain, defBody s_want_plain, defScope s_want_plain, [], []⟩
abbrev s_want_within : Stmt := top 13
theorem sc_want_within : FnScope ["number", "least", "most"] ["number", "least", "most"] (defScope s_want_within) := scp_of (by kernel_rfl)
abbrev F_want_within (K : PySem.W.Frag) (f : Addr) (fd : FuncData) : Prop := FunD K "want_within" "want_within" (defArgs s_want_within) (defBody s_want_within) (defScope s_want_within) [] [] f fd
def d_want_within : He.DefD := ⟨("want_within", none), "want_within", "want_within", defArgs s_want_within, defBody s_want_within, defScope s_want_within, [], []⟩
abbrev s_Asking_told : Stmt := inClass (top 14) 0
def d_Asking_told : He.DefD := ⟨("Asking", some "told"), "told", "Asking.told", defArgs s_Asking_told, defBody s_Asking_told, defScope s_Asking_told, [], []⟩
abbrev s_Asking_inner_ones : Stmt := inClass (top 14) 1
def d_Asking_inner_ones : He.DefD := ⟨("Asking", some "inner_ones"), "inner_ones", "Asking.inner_ones", defArgs s_Asking_inner_ones, defBody s_Asking_inner_ones, defScope s_Asking_inner_ones, [], []⟩
abbrev s_Asking_with_inner : Stmt := inClass (top 14) 2
def d_Asking_with_inner : He.DefD := ⟨("Asking", some "with_inner"), "with_inner", "Asking.with_inner", defArgs s_Asking_with_inner, defBody s_Asking_with_inner, defScope s_Asking_with_inner, [], []⟩
abbrev s_Word_inner_ones : Stmt := inClass (top 14) 1
theorem sc_Word_inner_ones : FnScope ["self"] ["self"] (defScope s_Word_inner_ones) := scp_of (by kernel_rfl)
abbrev F_Word_inner_ones (K : PySem.W.Frag) (f : Addr) (fd : FuncData) : Prop := FunD K "inner_ones" "Asking.inner_ones" (defArgs s_Word_inner_ones) (defBody s_Word_inner_ones) (defScope s_Word_inner_ones) [] [] f fd
def d_Word_inner_ones : He.DefD := ⟨("Word", some "inner_ones"), "inner_ones", "Asking.inner_ones", defArgs s_Word_inner_ones, defBody s_Word_inner_ones, defScope s_Word_inner_ones, [], []⟩
abbrev s_Word_with_inner : Stmt := inClass (top 14) 2
def d_Word_with_inner : He.DefD := ⟨("Word", some "with_inner"), "with_inner", "Asking.with_inner", defArgs s_Word_with_inner, defBody s_Word_with_inner, defScope s_Word_with_inner, [], []⟩
abbrev s_Word_init : Stmt := inClass (top 15) 0
theorem sc_Word_init : FnScope ["self", "word"] ["self", "word"] (defScope s_Word_init) := scp_of (by kernel_rfl)
abbrev F_Word_init (K : PySem.W.Frag) (f : Addr) (fd : FuncData) : Prop := FunD K "__init__" "Word.__init__" (defArgs s_Word_init) (defBody s_Word_init) (defScope s_Word_init) [] [] f fd
def d_Word_init : He.DefD := ⟨("Word", some "__init__"), "__init__", "Word.__init__", defArgs s_Word_init, defBody s_Word_init, defScope s_Word_init, [], []⟩
abbrev s_Word_told : Stmt := inClass (top 15) 1
theorem sc_Word_told : FnScope ["self"] ["self"] (defScope s_Word_told) := scp_of (by kernel_rfl)
abbrev F_Word_told (K : PySem.W.Frag) (f : Addr) (fd : FuncData) : Prop := FunD K "told" "Word.told" (defArgs s_Word_told) (defBody s_Word_told) (defScope s_Word_told) [] [] f fd
def d_Word_told : He.DefD := ⟨("Word", some "told"), "told", "Word.told", defArgs s_Word_told, defBody s_Word_told, defScope s_Word_told, [], []⟩
abbrev s_Begin_inner_ones : Stmt := inClass (top 14) 1
theorem sc_Begin_inner_ones : FnScope ["self"] ["self"] (defScope s_Begin_inner_ones) := scp_of (by kernel_rfl)
abbrev F_Begin_inner_ones (K : PySem.W.Frag) (f : Addr) (fd : FuncData) : Prop := FunD K "inner_ones" "Asking.inner_ones" (defArgs s_Begin_inner_ones) (defBody s_Begin_inner_ones) (defScope s_Begin_inner_ones) [] [] f fd
def d_Begin_inner_ones : He.DefD := ⟨("Begin", some "inner_ones"), "inner_ones", "Asking.inner_ones", defArgs s_Begin_inner_ones, defBody s_Begin_inner_ones, defScope s_Begin_inner_ones, [], []⟩
abbrev s_Begin_with_inner : Stmt := inClass (top 14) 2
def d_Begin_with_inner : He.DefD := ⟨("Begin", some "with_inner"), "with_inner", "Asking.with_inner", defArgs s_Begin_with_inner, defBody s_Begin_with_inner, defScope s_Begin_with_inner, [], []⟩
abbrev s_Begin_init : Stmt := inClass (top 16) 0
theorem sc_Begin_init : FnScope ["self", "start"] ["self", "start"] (defScope s_Begin_init) := scp_of (by kernel_rfl)
abbrev F_Begin_init (K : PySem.W.Frag) (f : Addr) (fd : FuncData) : Prop := FunD K "__init__" "Begin.__init__" (defArgs s_Begin_init) (defBody s_Begin_init) (defScope s_Begin_init) [] [] f fd
def d_Begin_init : He.DefD := ⟨("Begin", some "__init__"), "__init__", "Begin.__init__", defArgs s_Begin_init, defBody s_Begin_init, defScope s_Begin_init, [], []⟩
abbrev s_Begin_told : Stmt := inClass (top 16) 1
theorem sc_Begin_told : FnScope ["self"] ["self"] (defScope s_Begin_told) := scp_of (by kernel_rfl)
abbrev F_Begin_told (K : PySem.W.Frag) (f : Addr) (fd : FuncData) : Prop := FunD K "told" "Begin.told" (defArgs s_Begin_told) (defBody s_Begin_told) (defScope s_Begin_told) [] [] f fd
def d_Begin_told : He.DefD := ⟨("Begin", some "told"), "told", "Begin.told", defArgs s_Begin_told, defBody s_Begin_told, defScope s_Begin_told, [], []⟩
abbrev s_Row_inner_ones : Stmt := inClass (top 14) 1
theorem sc_Row_inner_ones : FnScope ["self"] ["self"] (defScope s_Row_inner_ones) := scp_of (by kernel_rfl)
abbrev F_Row_inner_ones (K : PySem.W.Frag) (f : Addr) (fd : FuncData) : Prop := FunD K "inner_ones" "Asking.inner_ones" (defArgs s_Row_inner_ones) (defBody s_Row_inner_ones) (defScope s_Row_inner_ones) [] [] f fd
def d_Row_inner_ones : He.DefD := ⟨("Row", some "inner_ones"), "inner_ones", "Asking.inner_ones", defArgs s_Row_inner_ones, defBody s_Row_inner_ones, defScope s_Row_inner_ones, [], []⟩
abbrev s_Row_with_inner : Stmt := inClass (top 14) 2
def d_Row_with_inner : He.DefD := ⟨("Row", some "with_inner"), "with_inner", "Asking.with_inner", defArgs s_Row_with_inner, defBody s_Row_with_inner, defScope s_Row_with_inner, [], []⟩
abbrev s_Row_init : Stmt := inClass (top 17) 0
theorem sc_Row_init : FnScope ["self", "words"] ["self", "words"] (defScope s_Row_init) := scp_of (by kernel_rfl)
abbrev F_Row_init (K : PySem.W.Frag) (f : Addr) (fd : FuncData) : Prop := FunD K "__init__" "Row.__init__" (defArgs s_Row_init) (defBody s_Row_init) (defScope s_Row_init) [] [] f fd
def d_Row_init : He.DefD := ⟨("Row", some "__init__"), "__init__", "Row.__init__", defArgs s_Row_init, defBody s_Row_init, defScope s_Row_init, [], []⟩
abbrev s_Row_told : Stmt := inClass (top 17) 1
theorem sc_Row_told : FnScope ["self"] ["self"] (defScope s_Row_told) := scp_of (by kernel_rfl)
abbrev F_Row_told (K : PySem.W.Frag) (f : Addr) (fd : FuncData) : Prop := FunD K "told" "Row.told" (defArgs s_Row_told) (defBody s_Row_told) (defScope s_Row_told) [] [] f fd
def d_Row_told : He.DefD := ⟨("Row", some "told"), "told", "Row.told", defArgs s_Row_told, defBody s_Row_told, defScope s_Row_told, [], []⟩
abbrev s_Near_inner_ones : Stmt := inClass (top 14) 1
theorem sc_Near_inner_ones : FnScope ["self"] ["self"] (defScope s_Near_inner_ones) := scp_of (by kernel_rfl)
abbrev F_Near_inner_ones (K : PySem.W.Frag) (f : Addr) (fd : FuncData) : Prop := FunD K "inner_ones" "Asking.inner_ones" (defArgs s_Near_inner_ones) (defBody s_Near_inner_ones) (defScope s_Near_inner_ones) [] [] f fd
def d_Near_inner_ones : He.DefD := ⟨("Near", some "inner_ones"), "inner_ones", "Asking.inner_ones", defArgs s_Near_inner_ones, defBody s_Near_inner_ones, defScope s_Near_inner_ones, [], []⟩
abbrev s_Near_with_inner : Stmt := inClass (top 14) 2
def d_Near_with_inner : He.DefD := ⟨("Near", some "with_inner"), "with_inner", "Asking.with_inner", defArgs s_Near_with_inner, defBody s_Near_with_inner, defScope s_Near_with_inner, [], []⟩
abbrev s_Near_init : Stmt := inClass (top 18) 0
theorem sc_Near_init : FnScope ["self", "far", "one", "other"] ["self", "far", "one", "other"] (defScope s_Near_init) := scp_of (by kernel_rfl)
abbrev F_Near_init (K : PySem.W.Frag) (f : Addr) (fd : FuncData) : Prop := FunD K "__init__" "Near.__init__" (defArgs s_Near_init) (defBody s_Near_init) (defScope s_Near_init) [] [] f fd
def d_Near_init : He.DefD := ⟨("Near", some "__init__"), "__init__", "Near.__init__", defArgs s_Near_init, defBody s_Near_init, defScope s_Near_init, [], []⟩
abbrev s_Near_told : Stmt := inClass (top 18) 1
theorem sc_Near_told : FnScope ["self"] ["self"] (defScope s_Near_told) := scp_of (by kernel_rfl)
abbrev F_Near_told (K : PySem.W.Frag) (f : Addr) (fd : FuncData) : Prop := FunD K "told" "Near.told" (defArgs s_Near_told) (defBody s_Near_told) (defScope s_Near_told) [] [] f fd
def d_Near_told : He.DefD := ⟨("Near", some "told"), "told", "Near.told", defArgs s_Near_told, defBody s_Near_told, defScope s_Near_told, [], []⟩
abbrev s_In_init : Stmt := inClass (top 19) 0
theorem sc_In_init : FnScope ["self", "part", "inner"] ["self", "part", "inner"] (defScope s_In_init) := scp_of (by kernel_rfl)
abbrev F_In_init (K : PySem.W.Frag) (f : Addr) (fd : FuncData) : Prop := FunD K "__init__" "In.__init__" (defArgs s_In_init) (defBody s_In_init) (defScope s_In_init) [] [] f fd
def d_In_init : He.DefD := ⟨("In", some "__init__"), "__init__", "In.__init__", defArgs s_In_init, defBody s_In_init, defScope s_In_init, [], []⟩
abbrev s_In_told : Stmt := inClass (top 19) 1
theorem sc_In_told : FnScope ["self"] ["self"] (defScope s_In_told) := scp_of (by kernel_rfl)
abbrev F_In_told (K : PySem.W.Frag) (f : Addr) (fd : FuncData) : Prop := FunD K "told" "In.told" (defArgs s_In_told) (defBody s_In_told) (defScope s_In_told) [] [] f fd
def d_In_told : He.DefD := ⟨("In", some "told"), "told", "In.told", defArgs s_In_told, defBody s_In_told, defScope s_In_told, [], []⟩
abbrev s_In_inner_ones : Stmt := inClass (top 19) 2
theorem sc_In_inner_ones : FnScope ["self"] ["self"] (defScope s_In_inner_ones) := scp_of (by kernel_rfl)
abbrev F_In_inner_ones (K : PySem.W.Frag) (f : Addr) (fd : FuncData) : Prop := FunD K "inner_ones" "In.inner_ones" (defArgs s_In_inner_ones) (defBody s_In_inner_ones) (defScope s_In_inner_ones) [] [] f fd
def d_In_inner_ones : He.DefD := ⟨("In", some "inner_ones"), "inner_ones", "In.inner_ones", defArgs s_In_inner_ones, defBody s_In_inner_ones, defScope s_In_inner_ones, [], []⟩
abbrev s_In_with_inner : Stmt := inClass (top 19) 3
def d_In_with_inner : He.DefD := ⟨("In", some "with_inner"), "with_inner", "In.with_inner", defArgs s_In_with_inner, defBody s_In_with_inner, defScope s_In_with_inner, [], []⟩
abbrev s_All_init : Stmt := inClass (top 20) 0
theorem sc_All_init : FnScope ["self", "parts"] ["self", "parts"] (defScope s_All_init) := scp_of (by kernel_rfl)
abbrev F_All_init (K : PySem.W.Frag) (f : Addr) (fd : FuncData) : Prop := FunD K "__init__" "All.__init__" (defArgs s_All_init) (defBody s_All_init) (defScope s_All_init) [] [] f fd
def d_All_init : He.DefD := ⟨("All", some "__init__"), "__init__", "All.__init__", defArgs s_All_init, defBody s_All_init, defScope s_All_init, [], []⟩
abbrev s_All_told : Stmt := inClass (top 20) 1
theorem sc_All_told : FnScope ["self", "one"] ["self"] (defScope s_All_told) := scp_of (by kernel_rfl)
abbrev F_All_told (K : PySem.W.Frag) (f : Addr) (fd : FuncData) : Prop := FunD K "told" "All.told" (defArgs s_All_told) (defBody s_All_told) (defScope s_All_told) [] [] f fd
def d_All_told : He.DefD := ⟨("All", some "told"), "told", "All.told", defArgs s_All_told, defBody s_All_told, defScope s_All_told, [], []⟩
abbrev s_All_inner_ones : Stmt := inClass (top 20) 2
theorem sc_All_inner_ones : FnScope ["self"] ["self"] (defScope s_All_inner_ones) := scp_of (by kernel_rfl)
abbrev F_All_inner_ones (K : PySem.W.Frag) (f : Addr) (fd : FuncData) : Prop := FunD K "inner_ones" "All.inner_ones" (defArgs s_All_inner_ones) (defBody s_All_inner_ones) (defScope s_All_inner_ones) [] [] f fd
def d_All_inner_ones : He.DefD := ⟨("All", some "inner_ones"), "inner_ones", "All.inner_ones", defArgs s_All_inner_ones, defBody s_All_inner_ones, defScope s_All_inner_ones, [], []⟩
abbrev s_All_with_inner : Stmt := inClass (top 20) 3
def d_All_with_inner : He.DefD := ⟨("All", some "with_inner"), "with_inner", "All.with_inner", defArgs s_All_with_inner, defBody s_All_with_inner, defScope s_All_with_inner, [], []⟩
abbrev s_Any_init : Stmt := inClass (top 21) 0
theorem sc_Any_init : FnScope ["self", "parts"] ["self", "parts"] (defScope s_Any_init) := scp_of (by kernel_rfl)
abbrev F_Any_init (K : PySem.W.Frag) (f : Addr) (fd : FuncData) : Prop := FunD K "__init__" "Any.__init__" (defArgs s_Any_init) (defBody s_Any_init) (defScope s_Any_init) [] [] f fd
def d_Any_init : He.DefD := ⟨("Any", some "__init__"), "__init__", "Any.__init__", defArgs s_Any_init, defBody s_Any_init, defScope s_Any_init, [], []⟩
abbrev s_Any_told : Stmt := inClass (top 21) 1
theorem sc_Any_told : FnScope ["self", "one"] ["self"] (defScope s_Any_told) := scp_of (by kernel_rfl)
abbrev F_Any_told (K : PySem.W.Frag) (f : Addr) (fd : FuncData) : Prop := FunD K "told" "Any.told" (defArgs s_Any_told) (defBody s_Any_told) (defScope s_Any_told) [] [] f fd
def d_Any_told : He.DefD := ⟨("Any", some "told"), "told", "Any.told", defArgs s_Any_told, defBody s_Any_told, defScope s_Any_told, [], []⟩
abbrev s_Any_inner_ones : Stmt := inClass (top 21) 2
theorem sc_Any_inner_ones : FnScope ["self"] ["self"] (defScope s_Any_inner_ones) := scp_of (by kernel_rfl)
abbrev F_Any_inner_ones (K : PySem.W.Frag) (f : Addr) (fd : FuncData) : Prop := FunD K "inner_ones" "Any.inner_ones" (defArgs s_Any_inner_ones) (defBody s_Any_inner_ones) (defScope s_Any_inner_ones) [] [] f fd
def d_Any_inner_ones : He.DefD := ⟨("Any", some "inner_ones"), "inner_ones", "Any.inner_ones", defArgs s_Any_inner_ones, defBody s_Any_inner_ones, defScope s_Any_inner_ones, [], []⟩
abbrev s_Any_with_inner : Stmt := inClass (top 21) 3
def d_Any_with_inner : He.DefD := ⟨("Any", some "with_inner"), "with_inner", "Any.with_inner", defArgs s_Any_with_inner, defBody s_Any_with_inner, defScope s_Any_with_inner, [], []⟩
abbrev s_But_init : Stmt := inClass (top 22) 0
theorem sc_But_init : FnScope ["self", "one", "other"] ["self", "one", "other"] (defScope s_But_init) := scp_of (by kernel_rfl)
abbrev F_But_init (K : PySem.W.Frag) (f : Addr) (fd : FuncData) : Prop := FunD K "__init__" "But.__init__" (defArgs s_But_init) (defBody s_But_init) (defScope s_But_init) [] [] f fd
def d_But_init : He.DefD := ⟨("But", some "__init__"), "__init__", "But.__init__", defArgs s_But_init, defBody s_But_init, defScope s_But_init, [], []⟩
abbrev s_But_told : Stmt := inClass (top 22) 1
theorem sc_But_told : FnScope ["self"] ["self"] (defScope s_But_told) := scp_of (by kernel_rfl)
abbrev F_But_told (K : PySem.W.Frag) (f : Addr) (fd : FuncData) : Prop := FunD K "told" "But.told" (defArgs s_But_told) (defBody s_But_told) (defScope s_But_told) [] [] f fd
def d_But_told : He.DefD := ⟨("But", some "told"), "told", "But.told", defArgs s_But_told, defBody s_But_told, defScope s_But_told, [], []⟩
abbrev s_But_inner_ones : Stmt := inClass (top 22) 2
theorem sc_But_inner_ones : FnScope ["self"] ["self"] (defScope s_But_inner_ones) := scp_of (by kernel_rfl)
abbrev F_But_inner_ones (K : PySem.W.Frag) (f : Addr) (fd : FuncData) : Prop := FunD K "inner_ones" "But.inner_ones" (defArgs s_But_inner_ones) (defBody s_But_inner_ones) (defScope s_But_inner_ones) [] [] f fd
def d_But_inner_ones : He.DefD := ⟨("But", some "inner_ones"), "inner_ones", "But.inner_ones", defArgs s_But_inner_ones, defBody s_But_inner_ones, defScope s_But_inner_ones, [], []⟩
abbrev s_But_with_inner : Stmt := inClass (top 22) 3
def d_But_with_inner : He.DefD := ⟨("But", some "with_inner"), "with_inner", "But.with_inner", defArgs s_But_with_inner, defBody s_But_with_inner, defScope s_But_with_inner, [], []⟩
abbrev s_Also_init : Stmt := inClass (top 23) 0
theorem sc_Also_init : FnScope ["self", "one", "other"] ["self", "one", "other"] (defScope s_Also_init) := scp_of (by kernel_rfl)
abbrev F_Also_init (K : PySem.W.Frag) (f : Addr) (fd : FuncData) : Prop := FunD K "__init__" "Also.__init__" (defArgs s_Also_init) (defBody s_Also_init) (defScope s_Also_init) [] [] f fd
def d_Also_init : He.DefD := ⟨("Also", some "__init__"), "__init__", "Also.__init__", defArgs s_Also_init, defBody s_Also_init, defScope s_Also_init, [], []⟩
abbrev s_Also_told : Stmt := inClass (top 23) 1
theorem sc_Also_told : FnScope ["self"] ["self"] (defScope s_Also_told) := scp_of (by kernel_rfl)
abbrev F_Also_told (K : PySem.W.Frag) (f : Addr) (fd : FuncData) : Prop := FunD K "told" "Also.told" (defArgs s_Also_told) (defBody s_Also_told) (defScope s_Also_told) [] [] f fd
def d_Also_told : He.DefD := ⟨("Also", some "told"), "told", "Also.told", defArgs s_Also_told, defBody s_Also_told, defScope s_Also_told, [], []⟩
abbrev s_Also_inner_ones : Stmt := inClass (top 23) 2
theorem sc_Also_inner_ones : FnScope ["self"] ["self"] (defScope s_Also_inner_ones) := scp_of (by kernel_rfl)
abbrev F_Also_inner_ones (K : PySem.W.Frag) (f : Addr) (fd : FuncData) : Prop := FunD K "inner_ones" "Also.inner_ones" (defArgs s_Also_inner_ones) (defBody s_Also_inner_ones) (defScope s_Also_inner_ones) [] [] f fd
def d_Also_inner_ones : He.DefD := ⟨("Also", some "inner_ones"), "inner_ones", "Also.inner_ones", defArgs s_Also_inner_ones, defBody s_Also_inner_ones, defScope s_Also_inner_ones, [], []⟩
abbrev s_Also_with_inner : Stmt := inClass (top 23) 3
def d_Also_with_inner : He.DefD := ⟨("Also", some "with_inner"), "with_inner", "Also.with_inner", defArgs s_Also_with_inner, defBody s_Also_with_inner, defScope s_Also_with_inner, [], []⟩
abbrev s_By_init : Stmt := inClass (top 24) 0
theorem sc_By_init : FnScope ["self", "times", "inner"] ["self", "times", "inner"] (defScope s_By_init) := scp_of (by kernel_rfl)
abbrev F_By_init (K : PySem.W.Frag) (f : Addr) (fd : FuncData) : Prop := FunD K "__init__" "By.__init__" (defArgs s_By_init) (defBody s_By_init) (defScope s_By_init) [] [] f fd
def d_By_init : He.DefD := ⟨("By", some "__init__"), "__init__", "By.__init__", defArgs s_By_init, defBody s_By_init, defScope s_By_init, [], []⟩
abbrev s_By_told : Stmt := inClass (top 24) 1
theorem sc_By_told : FnScope ["self"] ["self"] (defScope s_By_told) := scp_of (by kernel_rfl)
abbrev F_By_told (K : PySem.W.Frag) (f : Addr) (fd : FuncData) : Prop := FunD K "told" "By.told" (defArgs s_By_told) (defBody s_By_told) (defScope s_By_told) [] [] f fd
def d_By_told : He.DefD := ⟨("By", some "told"), "told", "By.told", defArgs s_By_told, defBody s_By_told, defScope s_By_told, [], []⟩
abbrev s_By_inner_ones : Stmt := inClass (top 24) 2
theorem sc_By_inner_ones : FnScope ["self"] ["self"] (defScope s_By_inner_ones) := scp_of (by kernel_rfl)
abbrev F_By_inner_ones (K : PySem.W.Frag) (f : Addr) (fd : FuncData) : Prop := FunD K "inner_ones" "By.inner_ones" (defArgs s_By_inner_ones) (defBody s_By_inner_ones) (defScope s_By_inner_ones) [] [] f fd
def d_By_inner_ones : He.DefD := ⟨("By", some "inner_ones"), "inner_ones", "By.inner_ones", defArgs s_By_inner_ones, defBody s_By_inner_ones, defScope s_By_inner_ones, [], []⟩
abbrev s_By_with_inner : Stmt := inClass (top 24) 3
def d_By_with_inner : He.DefD := ⟨("By", some "with_inner"), "with_inner", "By.with_inner", defArgs s_By_with_inner, defBody s_By_with_inner, defScope s_By_with_inner, [], []⟩
abbrev s_Never_inner_ones : Stmt := inClass (top 14) 1
theorem sc_Never_inner_ones : FnScope ["self"] ["self"] (defScope s_Never_inner_ones) := scp_of (by kernel_rfl)
abbrev F_Never_inner_ones (K : PySem.W.Frag) (f : Addr) (fd : FuncData) : Prop := FunD K "inner_ones" "Asking.inner_ones" (defArgs s_Never_inner_ones) (defBody s_Never_inner_ones) (defScope s_Never_inner_ones) [] [] f fd
def d_Never_inner_ones : He.DefD := ⟨("Never", some "inner_ones"), "inner_ones", "Asking.inner_ones", defArgs s_Never_inner_ones, defBody s_Never_inner_ones, defScope s_Never_inner_ones, [], []⟩
abbrev s_Never_with_inner : Stmt := inClass (top 14) 2
def d_Never_with_inner : He.DefD := ⟨("Never", some "with_inner"), "with_inner", "Asking.with_inner", defArgs s_Never_with_inner, defBody s_Never_with_inner, defScope s_Never_with_inner, [], []⟩
abbrev s_Never_told : Stmt := inClass (top 25) 0
theorem sc_Never_told : FnScope ["self"] ["self"] (defScope s_Never_told) := scp_of (by kernel_rfl)
abbrev F_Never_told (K : PySem.W.Frag) (f : Addr) (fd : FuncData) : Prop := FunD K "told" "Never.told" (defArgs s_Never_told) (defBody s_Never_told) (defScope s_Never_told) [] [] f fd
def d_Never_told : He.DefD := ⟨("Never", some "told"), "told", "Never.told", defArgs s_Never_told, defBody s_Never_told, defScope s_Never_told, [], []⟩
abbrev s_paths_of : Stmt := top 27
theorem sc_paths_of : FnScope ["asking", "found", "k", "one", "path"] ["asking"] (defScope s_paths_of) := scp_of (by kernel_rfl)
abbrev F_paths_of (K : PySem.W.Frag) (f : Addr) (fd : FuncData) : Prop := FunD K "paths_of" "paths_of" (defArgs s_paths_of) (defBody s_paths_of) (defScope s_paths_of) [] [] f fd
def d_paths_of : He.DefD := ⟨("paths_of", none), "paths_of", "paths_of", defArgs s_paths_of, defBody s_paths_of, defScope s_paths_of, [], []⟩
abbrev s_want_part : Stmt := top 28
theorem sc_want_part : FnScope ["asking", "k"] ["asking", "k"] (defScope s_want_part) := scp_of (by kernel_rfl)
abbrev F_want_part (K : PySem.W.Frag) (f : Addr) (fd : FuncData) : Prop := FunD K "want_part" "want_part" (defArgs s_want_part) (defBody s_want_part) (defScope s_want_part) [] [] f fd
def d_want_part : He.DefD := ⟨("want_part", none), "want_part", "want_part", defArgs s_want_part, defBody s_want_part, defScope s_want_part, [], []⟩
abbrev s_node_at : Stmt := top 29
theorem sc_node_at : FnScope ["asking", "path", "k"] ["asking", "path"] (defScope s_node_at) := scp_of (by kernel_rfl)
abbrev F_node_at (K : PySem.W.Frag) (f : Addr) (fd : FuncData) : Prop := FunD K "node_at" "node_at" (defArgs s_node_at) (defBody s_node_at) (defScope s_node_at) [] [] f fd
def d_node_at : He.DefD := ⟨("node_at", none), "node_at", "node_at", defArgs s_node_at, defBody s_node_at, defScope s_node_at, [], []⟩
abbrev s_is_leaf : Stmt := top 32
theorem sc_is_leaf : FnScope ["asking"] ["asking"] (defScope s_is_leaf) := scp_of (by kernel_rfl)
abbrev F_is_leaf (K : PySem.W.Frag) (f : Addr) (fd : FuncData) : Prop := FunD K "is_leaf" "is_leaf" (defArgs s_is_leaf) (defBody s_is_leaf) (defScope s_is_leaf) [] [] f fd
def d_is_leaf : He.DefD := ⟨("is_leaf", none), "is_leaf", "is_leaf", defArgs s_is_leaf, defBody s_is_leaf, defScope s_is_leaf, [], []⟩
abbrev s_parts_within : Stmt := top 33
theorem sc_parts_within : FnScope ["parts", "asking", "part"] ["parts", "asking"] (defScope s_parts_within) := scp_of (by kernel_rfl)
abbrev F_parts_within (K : PySem.W.Frag) (f : Addr) (fd : FuncData) : Prop := FunD K "parts_within" "parts_within" (defArgs s_parts_within) (defBody s_parts_within) (defScope s_parts_within) [] [] f fd
def d_parts_within : He.DefD := ⟨("parts_within", none), "parts_within", "parts_within", defArgs s_parts_within, defBody s_parts_within, defScope s_parts_within, [], []⟩
abbrev s_parts_at : Stmt := top 34
theorem sc_parts_at : FnScope ["asking", "path", "parts", "k"] ["asking", "path"] (defScope s_parts_at) := scp_of (by kernel_rfl)
abbrev F_parts_at (K : PySem.W.Frag) (f : Addr) (fd : FuncData) : Prop := FunD K "parts_at" "parts_at" (defArgs s_parts_at) (defBody s_parts_at) (defScope s_parts_at) [] [] f fd
def d_parts_at : He.DefD := ⟨("parts_at", none), "parts_at", "parts_at", defArgs s_parts_at, defBody s_parts_at, defScope s_parts_at, [], []⟩
abbrev s_leaves_of : Stmt := top 35
theorem sc_leaves_of : FnScope ["asking", "paths", "path"] ["asking"] (defScope s_leaves_of) := scp_of (by kernel_rfl)
abbrev F_leaves_of (K : PySem.W.Frag) (f : Addr) (fd : FuncData) : Prop := FunD K "leaves_of" "leaves_of" (defArgs s_leaves_of) (defBody s_leaves_of) (defScope s_leaves_of) [] [] f fd
def d_leaves_of : He.DefD := ⟨("leaves_of", none), "leaves_of", "leaves_of", defArgs s_leaves_of, defBody s_leaves_of, defScope s_leaves_of, [], []⟩
abbrev s_law_at : Stmt := top 37
theorem sc_law_at : FnScope ["_law_script", "_law_k"] ["_law_script", "_law_k"] (defScope s_law_at) := scp_of (by kernel_rfl)
abbrev F_law_at (K : PySem.W.Frag) (f : Addr) (fd : FuncData) : Prop := FunD K "_law_at" "_law_at" (defArgs s_law_at) (defBody s_law_at) (defScope s_law_at) [] [] f fd
def d_law_at : He.DefD := ⟨("_law_at", none), "_law_at", "_law_at", defArgs s_law_at, defBody s_law_at, defScope s_law_at, [], []⟩
abbrev s_law_mixed : Stmt := top 38
theorem sc_law_mixed : FnScope ["_law_cell", "_law_k", "_law_number"] ["_law_cell", "_law_k"] (defScope s_law_mixed) := scp_of (by kernel_rfl)
abbrev F_law_mixed (K : PySem.W.Frag) (f : Addr) (fd : FuncData) : Prop := FunD K "_law_mixed" "_law_mixed" (defArgs s_law_mixed) (defBody s_law_mixed) (defScope s_law_mixed) [] [] f fd
def d_law_mixed : He.DefD := ⟨("_law_mixed", none), "_law_mixed", "_law_mixed", defArgs s_law_mixed, defBody s_law_mixed, defScope s_law_mixed, [], []⟩
abbrev s_law_rich : Stmt := top 39
theorem sc_law_rich : FnScope ["_law_cell", "_law_rest", "_law_k"] ["_law_cell"] (defScope s_law_rich) := scp_of (by kernel_rfl)
abbrev F_law_rich (K : PySem.W.Frag) (f : Addr) (fd : FuncData) : Prop := FunD K "_law_rich" "_law_rich" (defArgs s_law_rich) (defBody s_law_rich) (defScope s_law_rich) [] [] f fd
def d_law_rich : He.DefD := ⟨("_law_rich", none), "_law_rich", "_law_rich", defArgs s_law_rich, defBody s_law_rich, defScope s_law_rich, [], []⟩
abbrev s_law_stream : Stmt := top 40
theorem sc_law_stream : FnScope ["_law_cell"] ["_law_cell"] (defScope s_law_stream) := scp_of (by kernel_rfl)
abbrev F_law_stream (K : PySem.W.Frag) (f : Addr) (fd : FuncData) : Prop := FunD K "_law_stream" "_law_stream" (defArgs s_law_stream) (defBody s_law_stream) (defScope s_law_stream) [] [] f fd
def d_law_stream : He.DefD := ⟨("_law_stream", none), "_law_stream", "_law_stream", defArgs s_law_stream, defBody s_law_stream, defScope s_law_stream, [], []⟩
abbrev s_law_word : Stmt := top 41
theorem sc_law_word : FnScope ["_law_rest", "_law_pool", "_law_way", "_law_signs", "_law_found", "_law_size", "_law_k"] ["_law_rest", "_law_pool"] (defScope s_law_word) := scp_of (by kernel_rfl)
abbrev F_law_word (K : PySem.W.Frag) (f : Addr) (fd : FuncData) : Prop := FunD K "_law_word" "_law_word" (defArgs s_law_word) (defBody s_law_word) (defScope s_law_word) [] [] f fd
def d_law_word : He.DefD := ⟨("_law_word", none), "_law_word", "_law_word", defArgs s_law_word, defBody s_law_word, defScope s_law_word, [], []⟩
abbrev s_law_leaf : Stmt := top 42
theorem sc_law_leaf : FnScope ["_law_rest", "_law_pool", "_law_way", "_law_one", "_law_row", "_law_size", "_law_far", "_law_other"] ["_law_rest", "_law_pool"] (defScope s_law_leaf) := scp_of (by kernel_rfl)
abbrev F_law_leaf (K : PySem.W.Frag) (f : Addr) (fd : FuncData) : Prop := FunD K "_law_leaf" "_law_leaf" (defArgs s_law_leaf) (defBody s_law_leaf) (defScope s_law_leaf) [] [] f fd
def d_law_leaf : He.DefD := ⟨("_law_leaf", none), "_law_leaf", "_law_leaf", defArgs s_law_leaf, defBody s_law_leaf, defScope s_law_leaf, [], []⟩
abbrev s_law_leaf_tree : Stmt := top 43
theorem sc_law_leaf_tree : FnScope ["_law_rest", "_law_pool", "_law_way", "_law_deep", "_law_part", "_law_inner", "_law_times"] ["_law_rest", "_law_pool", "_law_way", "_law_deep"] (defScope s_law_leaf_tree) := scp_of (by kernel_rfl)
abbrev F_law_leaf_tree (K : PySem.W.Frag) (f : Addr) (fd : FuncData) : Prop := FunD K "_law_leaf_tree" "_law_leaf_tree" (defArgs s_law_leaf_tree) (defBody s_law_leaf_tree) (defScope s_law_leaf_tree) [] [] f fd
def d_law_leaf_tree : He.DefD := ⟨("_law_leaf_tree", none), "_law_leaf_tree", "_law_leaf_tree", defArgs s_law_leaf_tree, defBody s_law_leaf_tree, defScope s_law_leaf_tree, [], []⟩
abbrev s_law_tree : Stmt := top 44
theorem sc_law_tree : FnScope ["_law_rest", "_law_pool", "_law_deep", "_law_way", "_law_size", "_law_parts", "_law_k", "_law_part"] ["_law_rest", "_law_pool", "_law_deep"] (defScope s_law_tree) := scp_of (by kernel_rfl)
abbrev F_law_tree (K : PySem.W.Frag) (f : Addr) (fd : FuncData) : Prop := FunD K "_law_tree" "_law_tree" (defArgs s_law_tree) (defBody s_law_tree) (defScope s_law_tree) [] [] f fd
def d_law_tree : He.DefD := ⟨("_law_tree", none), "_law_tree", "_law_tree", defArgs s_law_tree, defBody s_law_tree, defScope s_law_tree, [], []⟩
abbrev s_law_new : Stmt := top 45
theorem sc_law_new : FnScope ["_law_tree_here", "_law_kept", "_law_part"] ["_law_tree_here", "_law_kept"] (defScope s_law_new) := scp_of (by kernel_rfl)
abbrev F_law_new (K : PySem.W.Frag) (f : Addr) (fd : FuncData) : Prop := FunD K "_law_new" "_law_new" (defArgs s_law_new) (defBody s_law_new) (defScope s_law_new) [] [] f fd
def d_law_new : He.DefD := ⟨("_law_new", none), "_law_new", "_law_new", defArgs s_law_new, defBody s_law_new, defScope s_law_new, [], []⟩
abbrev s_law_made : Stmt := top 46
theorem sc_law_made : FnScope ["_law_tree_here", "_law_kept"] ["_law_tree_here", "_law_kept"] (defScope s_law_made) := scp_of (by kernel_rfl)
abbrev F_law_made (K : PySem.W.Frag) (f : Addr) (fd : FuncData) : Prop := FunD K "_law_made" "_law_made" (defArgs s_law_made) (defBody s_law_made) (defScope s_law_made) [] [] f fd
def d_law_made : He.DefD := ⟨("_law_made", none), "_law_made", "_law_made", defArgs s_law_made, defBody s_law_made, defScope s_law_made, [], []⟩
abbrev s_law_leaves : Stmt := top 47
theorem sc_law_leaves : FnScope ["_law_tree_here", "_law_path", "_law_parts", "_law_inner", "_law_found", "_law_k", "_law_part"] ["_law_tree_here", "_law_path", "_law_parts"] (defScope s_law_leaves) := scp_of (by kernel_rfl)
abbrev F_law_leaves (K : PySem.W.Frag) (f : Addr) (fd : FuncData) : Prop := FunD K "_law_leaves" "_law_leaves" (defArgs s_law_leaves) (defBody s_law_leaves) (defScope s_law_leaves) [] [] f fd
def d_law_leaves : He.DefD := ⟨("_law_leaves", none), "_law_leaves", "_law_leaves", defArgs s_law_leaves, defBody s_law_leaves, defScope s_law_leaves, [], []⟩
abbrev s_law_right : Stmt := top 48
theorem sc_law_right : FnScope ["_law_tree_here", "_law_asking", "_law_due", "_law_found", "_law_path", "_law_parts"] ["_law_tree_here"] (defScope s_law_right) := scp_of (by kernel_rfl)
abbrev F_law_right (K : PySem.W.Frag) (f : Addr) (fd : FuncData) : Prop := FunD K "_law_right" "_law_right" (defArgs s_law_right) (defBody s_law_right) (defScope s_law_right) [] [] f fd
def d_law_right : He.DefD := ⟨("_law_right", none), "_law_right", "_law_right", defArgs s_law_right, defBody s_law_right, defScope s_law_right, [], []⟩
abbrev s_law : Stmt := top 49
theorem sc_law : FnScope ["_law_script", "_law_pool", "_law_cell", "_law_rest", "_law_tree_here", "_law_twice", "_law_once"] ["_law_script"] (defScope s_law) := scp_of (by kernel_rfl)
abbrev F_law (K : PySem.W.Frag) (f : Addr) (fd : FuncData) : Prop := FunD K "law" "law" (defArgs s_law) (defBody s_law) (defScope s_law) [] [] f fd
def d_law : He.DefD := ⟨("law", none), "law", "law", defArgs s_law, defBody s_law, defScope s_law, [], []⟩
def fn : List He.DefD := [d__wall, d_is_plain, d_want_plain, d_want_within, d_Asking_told, d_Asking_inner_ones, d_Asking_with_inner, d_Word_inner_ones, d_Word_with_inner, d_Word_init, d_Word_told, d_Begin_inner_ones, d_Begin_with_inner, d_Begin_init, d_Begin_told, d_Row_inner_ones, d_Row_with_inner, d_Row_init, d_Row_told, d_Near_inner_ones, d_Near_with_inner, d_Near_init, d_Near_told, d_In_init, d_In_told, d_In_inner_ones, d_In_with_inner, d_All_init, d_All_told, d_All_inner_ones, d_All_with_inner, d_Any_init, d_Any_told, d_Any_inner_ones, d_Any_with_inner, d_But_init, d_But_told, d_But_inner_ones, d_But_with_inner, d_Also_init, d_Also_told, d_Also_inner_ones, d_Also_with_inner, d_By_init, d_By_told, d_By_inner_ones, d_By_with_inner, d_Never_inner_ones, d_Never_with_inner, d_Never_told, d_paths_of, d_want_part, d_node_at, d_is_leaf, d_parts_within, d_parts_at, d_leaves_of, d_law_at, d_law_mixed, d_law_rich, d_law_stream, d_law_word, d_law_leaf, d_law_leaf_tree, d_law_tree, d_law_new, d_law_made, d_law_leaves, d_law_right, d_law]
def fa : List He.Fa := [.glo "_wall", .glo "is_plain", .glo "want_plain", .glo "want_within", .glo "paths_of", .glo "want_part", .glo "node_at", .glo "is_leaf", .glo "parts_within", .glo "parts_at", .glo "leaves_of", .glo "_law_at", .glo "_law_mixed", .glo "_law_rich", .glo "_law_stream", .glo "_law_word", .glo "_law_leaf", .glo "_law_leaf_tree", .glo "_law_tree", .glo "_law_new", .glo "_law_made", .glo "_law_leaves", .glo "_law_right", .glo "law", .glo "SearchError", .exc "SearchError", .glo "NoAsking", .glo "NoPath", .glo "Asking", .cls "Asking", .keep "Asking", .meth "Asking" "told", .meth "Asking" "inner_ones", .meth "Asking" "with_inner", .glo "Word", .cls "Word", .keep "Word", .noat "Word" "word", .mkr "Word", .meth "Word" "told", .meth "Word" "inner_ones", .meth "Word" "with_inner", .glo "Begin", .cls "Begin", .keep "Begin", .noat "Begin" "start", .mkr "Begin", .meth "Begin" "told", .meth "Begin" "inner_ones", .meth "Begin" "with_inner", .glo "Row", .cls "Row", .keep "Row", .noat "Row" "row_words", .mkr "Row", .meth "Row" "told", .meth "Row" "inner_ones", .meth "Row" "with_inner", .glo "Near", .cls "Near", .keep "Near", .noat "Near" "far", .noat "Near" "near_words", .mkr "Near", .meth "Near" "told", .meth "Near" "inner_ones", .meth "Near" "with_inner", .glo "In", .cls "In", .keep "In", .noat "In" "inner", .noat "In" "part", .mkr "In", .meth "In" "told", .meth "In" "inner_ones", .meth "In" "with_inner", .glo "All", .cls "All", .keep "All", .noat "All" "every", .mkr "All", .meth "All" "told", .meth "All" "inner_ones", .meth "All" "with_inner", .glo "Any", .cls "Any", .keep "Any", .noat "Any" "either", .mkr "Any", .meth "Any" "told", .meth "Any" "inner_ones", .meth "Any" "with_inner", .glo "But", .cls "But", .keep "But", .noat "But" "unwanted", .noat "But" "wanted", .mkr "But", .meth "But" "told", .meth "But" "inner_ones", .meth "But" "with_inner", .glo "Also", .cls "Also", .keep "Also", .noat "Also" "helping", .noat "Also" "needed", .mkr "Also", .meth "Also" "told", .meth "Also" "inner_ones", .meth "Also" "with_inner", .glo "By", .cls "By", .keep "By", .noat "By" "heavier", .noat "By" "times", .mkr "By", .meth "By" "told", .meth "By" "inner_ones", .meth "By" "with_inner", .glo "Never", .cls "Never", .keep "Never", .meth "Never" "told", .meth "Never" "inner_ones", .meth "Never" "with_inner", .str "PLAIN_SIGNS" "abcdefghijklmnopqrstuvwxyz0123456789", .int "MOST_PLAIN" 20, .int "MOST_ROW" 6, .int "MOST_FAR" 20, .int "MOST_BY" 999, .glo "EVERY_PART", .free "ValueError", .free "abs", .free "all", .free "enumerate", .free "isinstance", .free "len", .free "list", .free "range", .free "repr", .free "tuple"]
abbrev R : PySem.W.OpenRow := PySem.W.OpenLaw.row PySem.Challenge.rw_shownranks_k51_leaves_and_parts
def ck (K : PySem.W.Frag) : Bool := PL.isAllB K ["Asking", "Word", "Begin", "Row", "Near", "In", "All", "Any", "But", "Also", "By", "Never"] && (PL.kitAllB K (He.ga K "Begin") [("Asking", false), ("Word", false), ("Begin", true), ("Row", false), ("Near", false), ("In", false), ("All", false), ("Any", false), ("But", false), ("Also", false), ("By", false), ("Never", false)] && (PL.kitAllB K (He.ga K "In") [("Asking", false), ("Word", false), ("Begin", false), ("Row", false), ("Near", false), ("In", true), ("All", false), ("Any", false), ("But", false), ("Also", false), ("By", false), ("Never", false)] && (PL.kitAllB K (He.ga K "Near") [("Asking", false), ("Word", false), ("Begin", false), ("Row", false), ("Near", true), ("In", false), ("All", false), ("Any", false), ("But", false), ("Also", false), ("By", false), ("Never", false)] && (PL.kitAllB K (He.ga K "Row") [("Asking", false), ("Word", false), ("Begin", false), ("Row", true), ("Near", false), ("In", false), ("All", false), ("Any", false), ("But", false), ("Also", false), ("By", false), ("Never", false)] && (PL.kitAllB K (He.ga K "Word") [("Asking", false), ("Word", true), ("Begin", false), ("Row", false), ("Near", false), ("In", false), ("All", false), ("Any", false), ("But", false), ("Also", false), ("By", false), ("Never", false)] && (PL.mk0B K (He.ga K "Asking") && (PL.mk0B K (He.ga K "Never") && (PL.tupCB K (He.ga K "EVERY_PART") ([(0 : Int), (1 : Int), (2 : Int)].map V.int) && (true)))))))))
abbrev hk : PySem.W.Hook := PL.hookY 4 fa fn ck
def ob (s : PySem.W.SharedT) : He.AlD × Bool := PL.obsY 4 fa fn ck (HandSHeadRun.getT s)
theorem ob_eq (s : PySem.W.SharedT) : ob s = hk.obs s.abs := PL.obsY_eq (HandSHeadRun.getT_eq s)
def nm0 : List Str := ["_wall", "SearchError", "NoAsking", "NoPath", "is_plain", "want_plain", "want_within", "Asking", "Word", "Begin", "Row", "Near", "In", "All", "Any", "But", "Also", "By", "Never", "paths_of", "want_part", "node_at", "is_leaf", "parts_within", "parts_at", "leaves_of", "_law_at", "_law_mixed", "_law_rich", "_law_stream"]
def nm1 : List Str := ["_law_word", "_law_leaf", "_law_leaf_tree", "_law_tree", "_law_new", "_law_made", "_law_leaves", "_law_right", "PLAIN_SIGNS", "MOST_PLAIN", "MOST_ROW", "MOST_FAR", "MOST_BY", "EVERY_PART"]
def nms : List Str := nm0 ++ nm1
theorem runA (w : World) : PL.RunA R (PySem.W.view R.prog [49]) 13000 nms w := by
  intro os
  kernel_rfl
theorem runB1 (w : World) : PL.RunC R (fun s => He.obsD fa fn (He.frG (HandSHeadRun.getT s) (PL.asM (HandSHeadRun.getT s) 4))) (He.valD fn) 13000 w := by
  intro os
  kernel_rfl
theorem runB2 (w : World) : PL.RunC R (fun s => ck (He.frG (HandSHeadRun.getT s) (PL.asM (HandSHeadRun.getT s) 4))) (true) 13000 w := by
  intro os
  kernel_rfl
theorem runB (w : World) : PL.RunB R hk ob 13000 w := PL.runB_of (runB1 w) (runB2 w)
theorem run (w : World) : HandSHeadRun.RunEq R (PySem.W.view R.prog [49]) hk ob 13000 nms w := PL.run_of (runA w) (runB w)
end Tp
namespace PL
open PySem PySem.Spec PyProof.Rows L2

theorem seqT {K : PySem.W.Frag} {H H' : Hp} {a : Addr} {xs : List V} (e : Same H H') (h : SqT K H a xs) : SqT K H' a xs := by
  rcases h with (h | ⟨o, h⟩) | h
  · exact .inl (.inl (e _ _ h))
  · exact .inl (.inr ⟨o, e _ _ h⟩)
  · exact .inr h
theorem _root_.L2.Same.smf {G H : Hp} (h : Same G H) : SmF G H := fun b u e => .inl (h b u e)
theorem DGr {H : Hp} {a : Addr} {kvs : List (Key × V)} {k : Key} (e : Rd H a (.dK kvs)) : DGet H a (kV k) (valV kvs k) := .inl ⟨kvs, k, e, rfl, rfl⟩
theorem SmF.seqT {K : PySem.W.Frag} {G H : Hp} {a : Addr} {xs : List V} (s : SmF G H) (h : SqT K G a xs) : SqT K H a xs := by
  rcases h with (h | ⟨o, h⟩) | h
  · exact .inl (.inl (s.at h fun _ z => by cases z))
  · exact .inl (.inr ⟨o, s.at h fun _ z => by cases z⟩)
  · exact .inr h
theorem _root_.L2.Same.trf {A B C : Hp} (s : Same A B) (t : SmF B C) : SmF A C := fun b u e => t b u (s b u e)
theorem pmono {α β : Type} {F F' : α → β → Prop} (h : ∀ a b, F a b → F' a b) : ∀ {l : List α} {m : List β}, Paired F l m → Paired F' l m
  | _, _, .nil => .nil
  | _, _, .cons x t => .cons (h _ _ x) (pmono h t)
theorem plen {α β : Type} {F : α → β → Prop} : ∀ {l : List α} {m : List β}, Paired F l m → l.length = m.length
  | _, _, .nil => rfl
  | _, _, .cons _ t => by rw [List.length_cons, List.length_cons, plen t]
theorem pget {α β : Type} {F : α → β → Prop} : ∀ {l : List α} {m : List β} {i : Nat} {x : α}, Paired F l m → l[i]? = some x → ∃ y, m[i]? = some y ∧ F x y
  | _, _, _, _, .nil, e => by simp at e
  | _, _, 0, _, .cons r _, e => by simp at e; subst e; exact ⟨_, rfl, r⟩
  | _, _, i + 1, x, .cons _ t, e => by
    obtain ⟨u, h1, h2⟩ := pget (i := i) (x := x) t (by simpa using e)
    exact ⟨u, by simpa using h1, h2⟩
theorem pget' {α β : Type} {F : α → β → Prop} : ∀ {l : List α} {m : List β} {i : Nat} {y : β}, Paired F l m → m[i]? = some y → ∃ x, l[i]? = some x ∧ F x y
  | _, _, _, _, .nil, e => by simp at e
  | _, _, 0, _, .cons r _, e => by simp at e; subst e; exact ⟨_, rfl, r⟩
  | _, _, i + 1, x, .cons _ t, e => by
    obtain ⟨u, h1, h2⟩ := pget' (i := i) (y := x) t (by simpa using e)
    exact ⟨u, by simpa using h1, h2⟩
theorem psnoc {α β : Type} {F : α → β → Prop} {a : α} {b : β} : ∀ {l : List α} {m : List β}, Paired F l m → F a b → Paired F (l ++ [a]) (m ++ [b])
  | _, _, .nil, h => .cons h .nil
  | _, _, .cons x t, h => .cons x (psnoc t h)
theorem papp {α β : Type} {F : α → β → Prop} : ∀ {l l' : List α} {m m' : List β}, Paired F l m → Paired F l' m' → Paired F (l ++ l') (m ++ m')
  | _, _, _, _, .nil, h => h
  | _, _, _, _, .cons x t, h => .cons x (papp t h)
theorem ptake {α β : Type} {F : α → β → Prop} : ∀ (n : Nat) {l : List α} {m : List β}, Paired F l m → Paired F (l.take n) (m.take n)
  | 0, _, _, _ => .nil
  | _ + 1, _, _, .nil => .nil
  | n + 1, _, _, .cons x t => .cons x (ptake n t)
theorem pdrop {α β : Type} {F : α → β → Prop} : ∀ (n : Nat) {l : List α} {m : List β}, Paired F l m → Paired F (l.drop n) (m.drop n)
  | 0, _, _, h => h
  | _ + 1, _, _, .nil => .nil
  | n + 1, _, _, .cons _ t => pdrop n t
theorem pmap {α β : Type} {f : β → α} {F : α → β → Prop} (h : ∀ a b, F a b → a = f b) : ∀ {l : List α} {m : List β}, Paired F l m → l = m.map f
  | _, _, .nil => rfl
  | _, _, .cons x t => by rw [List.map_cons, ← pmap h t, h _ _ x]
theorem pof {α β : Type} {f : β → α} {F : α → β → Prop} (h : ∀ b, F (f b) b) : ∀ (m : List β), Paired F (m.map f) m
  | [] => .nil
  | _ :: m => .cons (h _) (pof h m)

def rI : Rel Int := ⟨fun _ v x => v = .int x, fun _ h => h⟩
def rB : Rel Bool := ⟨fun _ v x => v = .bl x, fun _ h => h⟩
def rN : Rel Unit := ⟨fun _ v _ => v = .non, fun _ h => h⟩
def rRef : Rel Addr := ⟨fun _ v x => v = .ref x, fun _ h => h⟩
def rL {α : Type} (K : PySem.W.Frag) (r : Rel α) : Rel (List α) :=
  ⟨fun G v xs => ∃ a vs, v = .ref a ∧ SqL K G a vs ∧ Paired (r.rd G) vs xs ∧ xs.length ≤ sizeLine, fun e ⟨a, vs, h1, h2, h3, h4⟩ => ⟨a, vs, h1, e.seq h2, pmono (fun _ _ => r.mono e) h3, h4⟩⟩
def rTL {α : Type} (K : PySem.W.Frag) (r : Rel α) : Rel (List α) :=
  ⟨fun G v xs => ∃ a vs, v = .ref a ∧ SqT K G a vs ∧ Paired (r.rd G) vs xs ∧ xs.length ≤ sizeLine, fun e ⟨a, vs, h1, h2, h3, h4⟩ => ⟨a, vs, h1, seqT e h2, pmono (fun _ _ => r.mono e) h3, h4⟩⟩
def rT2 {α β : Type} (K : PySem.W.Frag) (r : Rel α) (s : Rel β) : Rel (α × β) :=
  ⟨fun G v x => ∃ a v1 v2, v = .ref a ∧ SqT K G a [v1, v2] ∧ r.rd G v1 x.1 ∧ s.rd G v2 x.2, fun e ⟨a, v1, v2, h1, h2, h3, h4⟩ => ⟨a, v1, v2, h1, seqT e h2, r.mono e h3, s.mono e h4⟩⟩
def rT3 {α β γ : Type} (K : PySem.W.Frag) (r : Rel α) (s : Rel β) (t : Rel γ) : Rel (α × β × γ) :=
  ⟨fun G v x => ∃ a v1 v2 v3, v = .ref a ∧ SqT K G a [v1, v2, v3] ∧ r.rd G v1 x.1 ∧ s.rd G v2 x.2.1 ∧ t.rd G v3 x.2.2, fun e ⟨a, v1, v2, v3, h1, h2, h3, h4, h5⟩ => ⟨a, v1, v2, v3, h1, seqT e h2, r.mono e h3, s.mono e h4, t.mono e h5⟩⟩
theorem Ext.refl {G H : Hp} (h : SmF G H) : Ext G H G H := ⟨Same.refl _, h, Same.refl _, fun _ _ z => z⟩
theorem same_upd {H : Hp} {p : Addr} {o : HO} (h : H p = none) : Same H (upd H p o) := fun b x e => by
  rw [upd_ne (ne_of_none e h)]; exact e
theorem same_upd2 {G H : Hp} {p : Addr} {o : HO} (h : SmF G H) : SmF (upd G p o) (upd H p o) := fun b x e => by
  by_cases hb : b = p
  · subst hb; rw [upd_same] at e ⊢; exact .inl e
  · rw [upd_ne hb] at e ⊢; exact h b x e
theorem Ext.new {G H : Hp} {p : Addr} {o : HO} (h : SmF G H) (np : H p = none) : Ext G H (upd G p o) (upd H p o) :=
  ⟨same_upd (h.free np), same_upd2 h, same_upd np, fun b e z => by
    have hb : b ≠ p := fun q => e (q ▸ np)
    rw [upd_ne hb]; exact z⟩
theorem Ext.newM {G H : Hp} {p : Addr} {o : HO} (h : SmF G H) (np : H p = none) : Ext G H G (upd H p o) :=
  ⟨Same.refl _, h.trans (same_upd np), same_upd np, fun _ _ z => z⟩

theorem Slot.ok_mono {G G' : Hp} {ov : Option V} (e : Same G G') : ∀ {s : Slot}, s.ok G ov → s.ok G' ov
  | .any, _ => trivial
  | .val r _, ⟨v, h1, h2⟩ => ⟨v, h1, r.mono e h2⟩
theorem Flds.mono {G G' : Hp} (e : Same G G') : ∀ {vs : List (Str × V)} {fs : List (Str × Slot)}, Flds G vs fs → Flds G' vs fs
  | _, _, .nil => .nil
  | _, _, .cons h t => .cons (Slot.ok_mono e h) (Flds.mono e t)
theorem Cell.is_mono {G G' : Hp} {u : HO} (e : Same G G') : ∀ {c : Cell}, c.is G u → c.is G' u
  | .lst _ r xs, ⟨vs, h1, h2, h3⟩ => ⟨vs, h1, pmono (fun _ _ => r.mono e) h2, h3⟩
  | .dic _ r xs, ⟨vs, h1, h2, h3⟩ => ⟨vs, h1, pmono (fun _ _ h => ⟨h.1, r.mono e h.2.1, h.2.2⟩) h2, h3⟩
  | .ins o dx C fs, ⟨h0, vs, h1, h2⟩ => ⟨e _ _ h0, vs, h1, h2.mono e⟩
theorem Cell.ok_ext {H0 G H G' H' : Hp} (e : Ext G H G' H') {c : Cell} (h : c.ok H0 G H) : c.ok H0 G' H' := by
  obtain ⟨h0, h1, u, h2, h3⟩ := h
  exact ⟨h0, e.n _ (by rw [h2]; exact fun z => by cases z) h1, u, e.h _ _ h2, Cell.is_mono e.g h3⟩
theorem Cell.ok_G {H0 G G' H : Hp} {c : Cell} (h : c.ok H0 G H) (e : Same G G') (hn : G' c.addr = none) : c.ok H0 G' H := by
  obtain ⟨h0, h1, v, h2, h3⟩ := h
  exact ⟨h0, hn, v, h2, Cell.is_mono e h3⟩
theorem Env.le {Z : Ctx} {G H : Hp} {σ : L2.St} (E : Env Z G H σ) : SmF G H := E.ex.s
theorem Env.ext {Z : Ctx} {G H G' H' : Hp} {σ : L2.St} (E : Env Z G H σ) (e : Ext G H G' H') : Env Z G' H' σ :=
  ⟨E.ex.trans e, fun B hB => (E.ab B hB).trans e.g, fun i s hi => let ⟨ov, h1, h2⟩ := E.sl i s hi; ⟨ov, h1, Slot.ok_mono e.g h2⟩, fun c hc => Cell.ok_ext e (E.ce c hc), E.nd⟩
def Ctx.up (Z : Ctx) (B : Hp) : Ctx := ⟨⟨Z.b.G0, Z.b.H0, B :: Z.b.ab⟩, Z.sl, Z.ce⟩
theorem Env.setv {Z : Ctx} {G H : Hp} {σ : L2.St} (E : Env Z G H σ) {i : Nat} {s : Slot} {ov : Option V} (h : s.ok G ov) : Env (Z.set i s) G H (σ.set i ov) := by
  refine ⟨E.ex, E.ab, fun j t ht => ?_, E.ce, E.nd⟩
  by_cases hj : i = j
  · subst hj
    have hlt : i < Z.sl.length := by
      have := (List.getElem?_eq_some_iff.mp ht).1
      simpa [Ctx.set] using this
    have e1 : (Z.sl.set i s)[i]? = some s := by rw [List.getElem?_set_self hlt]
    have e2 : s = t := Option.some.inj (e1.symm.trans ht)
    subst e2
    obtain ⟨ov', h1, _⟩ := E.sl i _ (List.getElem?_eq_getElem hlt)
    have hl2 : i < σ.length := (List.getElem?_eq_some_iff.mp h1).1
    exact ⟨ov, by rw [List.getElem?_set_self hl2], h⟩
  · have e1 : (Z.sl.set i s)[j]? = Z.sl[j]? := List.getElem?_set_ne hj
    obtain ⟨ov', h1, h2⟩ := E.sl j t (e1.symm.trans ht)
    exact ⟨ov', by rw [List.getElem?_set_ne hj]; exact h1, h2⟩

section
variable {X : Cx}
theorem ct {e : Expr} : PT X e (wT X e) := ⟨fun pins s _ _ _ I h => h.run pins s I⟩
theorem cw {e : Expr} : PW X e (wW X e) := ⟨fun wh pins s _ _ _ I h => h.run wh pins s I⟩
theorem ca {es : List Expr} : PA X es (wA X es) := ⟨fun pos pins s _ _ _ I h => h.run pos pins s I⟩
theorem cs {st : Stmt} : PS X st (wS X st) := ⟨fun pins s _ _ _ I h => h.run pins s I⟩
theorem css {st : List Stmt} : PSs X st (wSs X st) := ⟨fun pins s _ _ _ I h => h.run pins s I⟩
theorem toE {e : Expr} {t : TE} (p : PE X e t) {σ : L2.St} {H : Hp} {Q : VK} (h : t σ H Q) : wE X e σ H Q := ⟨fun pins s I => p.run pins s σ H Q I h⟩
theorem toT {e : Expr} {t : TT} (p : PT X e t) {σ : L2.St} {H : Hp} {Q : Bool → Hp → Prop} (h : t σ H Q) : wT X e σ H Q := ⟨fun pins s I => p.run pins s σ H Q I h⟩
theorem toW {e : Expr} {t : TT} (p : PW X e t) {σ : L2.St} {H : Hp} {Q : Bool → Hp → Prop} (h : t σ H Q) : wW X e σ H Q := ⟨fun wh pins s I => p.run wh pins s σ H Q I h⟩
theorem toA {es : List Expr} {t : TA} (p : PA X es t) {σ : L2.St} {H : Hp} {Q : List V → Hp → Prop} (h : t σ H Q) : wA X es σ H Q := ⟨fun pos pins s I => p.run pos pins s σ H Q I h⟩
theorem toSs {st : List Stmt} {t : TS} (p : PSs X st t) {D : Ends} {σ : L2.St} {H : Hp} (h : t D σ H) : wSs X st D σ H := ⟨fun pins s I => p.run pins s σ H D I h⟩
end

def EvE (X : Cx) (e : Expr) (Z : Ctx) {α : Type} (r : Rel α) (x : α) : Prop :=
  ∀ G H σ Q, Env Z G H σ → (∀ G' H' v, Ext G H G' H' → r.rd G' v x → Q v H') → wE X e σ H Q
def EvT (X : Cx) (e : Expr) (Z : Ctx) (b : Bool) : Prop :=
  ∀ G H σ Q, Env Z G H σ → (∀ G' H', Ext G H G' H' → Q b H') → wT X e σ H Q
def EvW (X : Cx) (e : Expr) (Z : Ctx) (b : Bool) : Prop :=
  ∀ G H σ Q, Env Z G H σ → (∀ G' H', Ext G H G' H' → Q b H') → wW X e σ H Q
theorem Slv.mono {G G' : Hp} (e : Same G G') : ∀ {vs : List V} {ss : List Slot}, Slv G vs ss → Slv G' vs ss
  | _, _, .nil => .nil
  | _, _, .cons (r := r) h t => .cons (r.mono e h) (Slv.mono e t)
def EvA (X : Cx) (es : List Expr) (Z : Ctx) (ss : List Slot) : Prop :=
  ∀ G H σ Q, Env Z G H σ → (∀ G' H' vs, Ext G H G' H' → Slv G' vs ss → Q vs H') → wA X es σ H Q
def Goes (X : Cx) (body : List Stmt) (Z : Ctx) (D : Ends) : Prop := ∀ G H σ, Env Z G H σ → wSs X body D σ H
def Nx (Z : Ctx) : L2.St → Hp → Prop := fun σ H => ∃ G, Env Z G H σ

section
variable {X : Cx} {Z : Ctx} {α β γ : Type} {r : Rel α} {x : α} {pos : Pos}
theorem ev_v (i : Nat) {n : Str} (hz : Z.sl[i]? = some (.val r x) := by rfl) (hN : X.N[i]? = some n := by rfl) (hv : Vis X.env.scope n := by first | exact Or.inl rfl | exact Or.inr (Or.inl rfl) | exact Or.inr (Or.inr rfl))
    (hd : (n == ("__debug__" : Str)) = false := by decide) (hcd : (n == ("__classdict__" : Str)) = false := by decide) : EvE X (.Name n pos) Z r x := fun G H σ Q E k => by
  obtain ⟨v, h1, h2⟩ := E.get hz
  exact toE (pe_var hN hv hd hcd) ⟨v, h1, k G H v (.refl E.le) h2⟩
theorem ev_pure {e : Expr} {v : V} (p : PE X e (tC v)) (h : ∀ G, r.rd G v x) : EvE X e Z r x := fun G H σ Q E k => toE p (k G H v (.refl E.le) (h G))
theorem ev_int {i : Int} {j : Nat} : EvE X (.Constant (.int i) j pos) Z rI i := ev_pure pe_int fun _ => rfl
theorem ev_bl {i : Bool} {j : Nat} : EvE X (.Constant (.bool i) j pos) Z rB i := ev_pure pe_bl fun _ => rfl
theorem ev2 {a b e : Expr} {rel : R2} {ra : Rel α} {rb : Rel β} {rc : Rel γ} {x : α} {y : β} {z : γ} (p : PE X e (tOp rel (wE X a) (wE X b))) (ha : EvE X a Z ra x) (hb : EvE X b Z rb y)
    (h : ∀ G H v w Q, SmF G H → ra.rd G v x → rb.rd G w y → (∀ G' H' u, Ext G H G' H' → rc.rd G' u z → Q u H') → rel v w H Q) : EvE X e Z rc z := fun G H σ Q E k =>
  toE p (ha G H σ _ E fun G1 H1 v e1 h1 => hb G1 H1 σ _ (E.ext e1) fun G2 H2 w e2 h2 => h G2 H2 v w Q e2.s (ra.mono e2.g h1) h2 fun G3 H3 u e3 => k G3 H3 u ((e1.trans e2).trans e3))
def CmpE (X : Cx) (op : CmpOp) (a b : Expr) (Z : Ctx) (k : Bool) : Prop :=
  behindInMarks op b = false ∧ ∃ t : TE, PC X op a b t ∧ ∀ G H σ Q, Env Z G H σ → (∀ G' H', Ext G H G' H' → Q (.bl k) H') → t σ H Q
theorem pc_of {op : CmpOp} {a b : Expr} {rel : R2} {ta tb : TE} (ho : OpR X (compareOp op) rel) (ha : PE X a ta) (hb : PE X b tb) : PC X op a b (tOp rel ta tb) :=
  ⟨fun pins s σ H Q I h => binT ha hb I h fun v u s2 x y H2 I2 rx ry q => ho pins s2 σ H2 x y v u Q I2 rx ry q⟩
theorem cm2 {op : CmpOp} {a b : Expr} {rel : R2} {ra : Rel α} {rb : Rel β} {x : α} {y : β} {k : Bool} (ho : OpR X (compareOp op) rel) (hm : behindInMarks op b = false) (ha : EvE X a Z ra x) (hb : EvE X b Z rb y)
    (h : ∀ G H v w Q, SmF G H → ra.rd G v x → rb.rd G w y → (∀ G' H' u, Ext G H G' H' → rB.rd G' u k → Q u H') → rel v w H Q) : CmpE X op a b Z k := ⟨hm, _, pc_of ho ce ce, fun G H σ Q E q =>
  ha G H σ _ E fun G1 H1 v e1 h1 => hb G1 H1 σ _ (E.ext e1) fun G2 H2 w e2 h2 => h G2 H2 v w Q e2.s (ra.mono e2.g h1) h2 fun G3 H3 u e3 hu => by
    obtain rfl : u = .bl k := hu
    exact q G3 H3 ((e1.trans e2).trans e3)⟩
theorem ev_c {op : CmpOp} {a b : Expr} {k : Bool} (h : CmpE X op a b Z k) : EvE X (.Compare a [op] [b] pos) Z rB k := by
  obtain ⟨hm, t, ho, h⟩ := h
  exact fun G H σ Q E q => toE (pe_cmp ho hm) (h G H σ Q E fun G1 H1 e1 => q G1 H1 _ e1 rfl)
theorem et_c {op : CmpOp} {a b : Expr} {k : Bool} (h : CmpE X op a b Z k) : EvT X (.Compare a [op] [b] pos) Z k := by
  obtain ⟨hm, t, ho, h⟩ := h
  exact fun G H σ Q E q => toT (pt_cmp ho hm) (h G H σ _ E fun G1 H1 e1 => ⟨k, rfl, q G1 H1 e1⟩)
theorem opI2 {C : Int → Int → Prop} {f : Int → Int → Int} {x y : Int} (hc : C x y) : ∀ (G H : Hp) (v w : V) (Q : VK), SmF G H → rI.rd G v x → rI.rd G w y → (∀ G' H' u, Ext G H G' H' → rI.rd G' u (f x y) → Q u H') → L2.rI C (fun i j => .int (f i j)) v w H Q :=
  fun G H v w Q s h1 h2 k => ⟨x, y, h1, h2, hc, k G H _ (.refl s) rfl⟩
theorem opI02 {f : Int → Int → Int} {x y : Int} : ∀ (G H : Hp) (v w : V) (Q : VK), SmF G H → rI.rd G v x → rI.rd G w y → (∀ G' H' u, Ext G H G' H' → rI.rd G' u (f x y) → Q u H') → L2.rI0 (fun i j => .int (f i j)) v w H Q :=
  fun G H v w Q s h1 h2 k => ⟨x, y, h1, h2, k G H _ (.refl s) rfl⟩
theorem opB02 {f : Int → Int → Bool} {x y : Int} : ∀ (G H : Hp) (v w : V) (Q : VK), SmF G H → rI.rd G v x → rI.rd G w y → (∀ G' H' u, Ext G H G' H' → rB.rd G' u (f x y) → Q u H') → L2.rI0 (fun i j => .bl (f i j)) v w H Q :=
  fun G H v w Q s h1 h2 k => ⟨x, y, h1, h2, k G H _ (.refl s) rfl⟩
variable {a b c : Expr} {i j : Int}
theorem ev_add (ha : EvE X a Z rI i) (hb : EvE X b Z rI j) : EvE X (.BinOp a .Add b pos) Z rI (i + j) := ev2 (pe_op op_add ce ce) ha hb (opI02 (f := fun i j => i + j))
theorem ev_sub (ha : EvE X a Z rI i) (hb : EvE X b Z rI j) : EvE X (.BinOp a .Sub b pos) Z rI (i - j) := ev2 (pe_op op_sub ce ce) ha hb (opI02 (f := fun i j => i - j))
theorem ev_mulS (ha : EvE X a Z rI i) (hb : EvE X b Z rI j) (h : CMul i j) : EvE X (.BinOp a .Mult b pos) Z rI (i * j) := ev2 (pe_op op_mul ce ce) ha hb (opI2 (f := fun i j => i * j) h)
theorem ev_mod (ha : EvE X a Z rI i) (hb : EvE X b Z rI j) (h : 0 < j) : EvE X (.BinOp a .Mod b pos) Z rI (i % j) := ev2 (pe_op op_mod ce ce) ha hb (opI2 (C := fun _ j => 0 < j) (f := fun i j => i % j) h)
theorem ev_fdiv (ha : EvE X a Z rI i) (hb : EvE X b Z rI j) (h : CDivW i j) : EvE X (.BinOp a .FloorDiv b pos) Z rI (i / j) := ev2 (pe_op op_fdivW ce ce) ha hb (opI2 (f := fun i j => i / j) h)
def CDivZ (_ j : Int) : Prop := j ≠ 0 ∧ j.natAbs.log2 < 9000
theorem op_fdivZ : OpR X (binaryOp .FloorDiv) (L2.rI CDivZ fun i j => .int (i.fdiv j)) := opI fun i j _ _ _ _ _ hc q => floordiv_int hc.1 q (.inl (PyProof.noPylong_of_log2 hc.2))
theorem ev_fdivZ (ha : EvE X a Z rI i) (hb : EvE X b Z rI j) (h : CDivZ i j) : EvE X (.BinOp a .FloorDiv b pos) Z rI (i.fdiv j) := ev2 (pe_op op_fdivZ ce ce) ha hb (opI2 (f := fun i j => i.fdiv j) h)
theorem ev_pow (ha : EvE X a Z rI i) (hb : EvE X b Z rI j) (h : CPow i j) : EvE X (.BinOp a .Pow b pos) Z rI (i ^ j.toNat) := ev2 (pe_op op_pow ce ce) ha hb (opI2 (f := fun i j => i ^ j.toNat) h)
theorem cm_lt (ha : EvE X a Z rI i) (hb : EvE X b Z rI j) : CmpE X .Lt a b Z (decide (i < j)) := cm2 op_lt (nomark _) ha hb (opB02 (f := fun i j => decide (i < j)))
theorem cm_gt (ha : EvE X a Z rI i) (hb : EvE X b Z rI j) : CmpE X .Gt a b Z (decide (j < i)) := cm2 op_gt (nomark _) ha hb (opB02 (f := fun i j => decide (j < i)))
theorem cm_ge (ha : EvE X a Z rI i) (hb : EvE X b Z rI j) : CmpE X .GtE a b Z (decide (j ≤ i)) := cm2 op_ge (nomark _) ha hb (opB02 (f := fun i j => decide (j ≤ i)))
end
end PL

namespace PL
open PySem PySem.Spec PyProof.Rows L2
section
variable {X : Cx} {Z : Ctx} {α β γ : Type} {r : Rel α} {x : α} {pos : Pos} {a b c e : Expr} {es : List Expr} {D : Ends} {rest : List Stmt}
theorem ev_t {k : Bool} (h : EvE X e Z rB k) (he : ∀ whole, isTrue e X.env whole = (do let v ← whole; standAt e.pos; holding [v] (truthy v)) := by intro _; rfl) : EvT X e Z k := fun G H σ Q E q =>
  toT (pt_val ce he) (h G H σ _ E fun G1 H1 v e1 h1 => ⟨k, h1, q G1 H1 e1⟩)
theorem ev_w {k : Bool} (h : EvW X e Z k) : EvT X e Z k := fun G H σ Q E q => toT (PW.pt cw) (h G H σ Q E q)
theorem et_not {k : Bool} (h : EvT X a Z k) : EvT X (.UnaryOp .Not a pos) Z (!k) := fun G H σ Q E q => toT (pt_not ct) (h G H σ _ E q)
theorem ew_and1 {k : Bool} (h : EvT X a Z k) : EvW X (.BoolOp .And [a] pos) Z k := fun G H σ Q E q => toW (pw_and1 ct) (h G H σ _ E q)
theorem ew_or1 {k : Bool} (h : EvT X a Z k) : EvW X (.BoolOp .Or [a] pos) Z k := fun G H σ Q E q => toW (pw_or1 ct) (h G H σ _ E q)
theorem ew_and {k l : Bool} (h : EvT X a Z k) (h2 : k = true → EvW X (.BoolOp .And (b :: es) pos) Z l) : EvW X (.BoolOp .And (a :: b :: es) pos) Z (k && l) := fun G H σ Q E q =>
  toW (pw_and ct cw) (h G H σ _ E fun G1 H1 e1 => by
    cases k with
    | true => exact h2 rfl G1 H1 σ Q (E.ext e1) fun G2 H2 e2 => q G2 H2 (e1.trans e2)
    | false => exact q G1 H1 e1)
theorem ew_or {k l : Bool} (h : EvT X a Z k) (h2 : k = false → EvW X (.BoolOp .Or (b :: es) pos) Z l) : EvW X (.BoolOp .Or (a :: b :: es) pos) Z (k || l) := fun G H σ Q E q =>
  toW (pw_or ct cw) (h G H σ _ E fun G1 H1 e1 => by
    cases k with
    | true => exact q G1 H1 e1
    | false => exact h2 rfl G1 H1 σ Q (E.ext e1) fun G2 H2 e2 => q G2 H2 (e1.trans e2))
theorem ev_one {op} (h : EvE X a Z r x) : EvE X (.BoolOp op [a] pos) Z r x := fun G H σ Q E q => toE (pe_one ce) (h G H σ Q E q)
theorem ev_and {k l : Bool} (h : EvE X a Z rB k) (h2 : k = true → EvE X (.BoolOp .And (b :: es) pos) Z rB l) : EvE X (.BoolOp .And (a :: b :: es) pos) Z rB (k && l) := fun G H σ Q E q =>
  toE (pe_and ce ce) (h G H σ _ E fun G1 H1 v e1 h1 => ⟨k, h1, by
    cases k with
    | true => exact h2 rfl G1 H1 σ Q (E.ext e1) fun G2 H2 v e2 => q G2 H2 v (e1.trans e2)
    | false => exact q G1 H1 _ e1 rfl⟩)
theorem ev_if {k : Bool} {y z : α} (h : EvT X c Z k) (h1 : k = true → EvE X a Z r y) (h2 : k = false → EvE X b Z r z) : EvE X (.IfExp c a b pos) Z r (if k then y else z) := fun G H σ Q E q =>
  toE (pe_ifExp ct ce ce) (h G H σ _ E fun G1 H1 e1 => by
    cases k with
    | true => exact h1 rfl G1 H1 σ Q (E.ext e1) fun G2 H2 v e2 => q G2 H2 v (e1.trans e2)
    | false => exact h2 rfl G1 H1 σ Q (E.ext e1) fun G2 H2 v e2 => q G2 H2 v (e1.trans e2))
theorem ev_cast {y : α} (h : EvE X e Z r x) (q : x = y) : EvE X e Z r y := q ▸ h
theorem ev_cov {s : Rel β} {y : β} (h : EvE X e Z r x) (q : ∀ G v, r.rd G v x → s.rd G v y) : EvE X e Z s y := fun G H σ Q E k => h G H σ Q E fun G1 H1 v e1 h1 => k G1 H1 v e1 (q G1 v h1)
theorem cm_eqI {i j : Int} (ha : EvE X a Z rI i) (hb : EvE X b Z rI j) : CmpE X .Eq a b Z (decide (i = j)) := cm2 op_eq (nomark _) ha hb fun G H v w Q s h1 h2 k => by
  cases h1; cases h2; exact ⟨rfl, k G H _ (.refl s) (by rw [dec_int]; show V.bl _ = V.bl _; congr 1)⟩
theorem ea_nil : EvA X [] Z [] := fun G H σ Q E q => toA pa_nil (q G H [] (.refl E.le) .nil)
theorem ea_cons {ss : List Slot} (h : EvE X e Z r x) (hr : EvA X es Z ss) (hs : starEach (e :: es) X.env = (false, eval e X.env) :: starEach es X.env := by rfl) : EvA X (e :: es) Z (.val r x :: ss) := fun G H σ Q E q =>
  toA (pa_cons ce ca hs) (h G H σ _ E fun G1 H1 v e1 h1 => hr G1 H1 σ _ (E.ext e1) fun G2 H2 vs e2 h2 => q G2 H2 (v :: vs) (e1.trans e2) (.cons (r.mono e2.g h1) h2))
theorem ev_cb {t : List V → Hp → VK → Prop} {ss : List Slot} (p : PE X e (tCB t (wA X es))) (ha : EvA X es Z ss)
    (h : ∀ G H vs Q, SmF G H → Slv G vs ss → (∀ G' H' u, Ext G H G' H' → r.rd G' u x → Q u H') → t vs H Q) : EvE X e Z r x := fun G H σ Q E k =>
  toE p (ha G H σ _ E fun G1 H1 vs e1 h1 => h G1 H1 vs Q e1.s h1 fun G2 H2 u e2 => k G2 H2 u (e1.trans e2))
theorem slv1 {G : Hp} {vs : List V} (h : Slv G vs [.val r x]) : ∃ v, vs = [v] ∧ r.rd G v x := by
  cases h with
  | cons h t => cases t; exact ⟨_, rfl, h⟩
theorem slv2 {G : Hp} {vs : List V} {s : Rel β} {y : β} (h : Slv G vs [.val r x, .val s y]) : ∃ v w, vs = [v, w] ∧ r.rd G v x ∧ s.rd G w y := by
  cases h with
  | cons h t =>
    obtain ⟨w, rfl, h2⟩ := slv1 t
    exact ⟨_, w, rfl, h, h2⟩
variable {p : Pos} {n : Str}
theorem ev_abs {i : Int} (hm : X.mg "abs" = none) (ha : EvA X [a] Z [.val rI i]) (hg : Gl X "abs" := by rfl) (he : starEach [a] X.env = (false, eval a X.env) :: starEach [] X.env := by rfl) : EvE X (.Call (.Name "abs" p) [a] [] pos) Z rI (i.natAbs : Int) :=
  ev_cb (pe_callB call_abs hg hm (by decide +kernel) ca (he := he)) ha fun G H vs Q s h k => by
    obtain ⟨v, rfl, h1⟩ := slv1 h
    cases h1
    exact ⟨i, rfl, k G H _ (.refl s) (by show V.int _ = V.int _; congr 1; split <;> omega)⟩
theorem ev_len {K' : PySem.W.Frag} {xs : List α} (hm : X.mg "len" = none) (ha : EvA X [a] Z [.val (rL X.K r) xs]) (hg : Gl X "len" := by rfl) (he : starEach [a] X.env = (false, eval a X.env) :: starEach [] X.env := by rfl) : EvE X (.Call (.Name "len" p) [a] [] pos) Z rI (xs.length : Int) :=
  ev_cb (pe_callB call_len_seq hg hm PySem.boot_len ca (he := he)) ha fun G H vs Q s h k => by
    obtain ⟨v, rfl, l, us, rfl, h1, h2, _⟩ := slv1 h
    exact ⟨l, us, rfl, .inl (s.seq h1), k G H _ (.refl s) (by rw [plen h2]; rfl)⟩
theorem ev_lenT {xs : List α} (hm : X.mg "len" = none) (ha : EvA X [a] Z [.val (rTL X.K r) xs]) (hg : Gl X "len" := by rfl) (he : starEach [a] X.env = (false, eval a X.env) :: starEach [] X.env := by rfl) : EvE X (.Call (.Name "len" p) [a] [] pos) Z rI (xs.length : Int) :=
  ev_cb (pe_callB call_len_seq hg hm PySem.boot_len ca (he := he)) ha fun G H vs Q s h k => by
    obtain ⟨v, rfl, l, us, rfl, h1, h2, _⟩ := slv1 h
    exact ⟨l, us, rfl, .inr (s.seqT h1), k G H _ (.refl s) (by rw [plen h2]; rfl)⟩
theorem ev_all {xs : List Bool} (hc : X.calm = true) (hm : X.mg "all" = none) (ha : EvA X [a] Z [.val (rL X.K rB) xs]) (hg : Gl X "all" := by rfl) (he : starEach [a] X.env = (false, eval a X.env) :: starEach [] X.env := by rfl) : EvE X (.Call (.Name "all" p) [a] [] pos) Z rB (xs.all id) :=
  ev_cb (pe_callB (cr_all hc) hg hm (by decide +kernel) ca (he := he)) ha fun G H vs Q s h k => by
    obtain ⟨v, rfl, l, us, rfl, h1, h2, _⟩ := slv1 h
    obtain rfl := pmap (f := V.bl) (fun _ _ q => q) h2
    exact ⟨l, xs, rfl, s.seq h1, k G H _ (.refl s) rfl⟩
theorem ev_ix20 {s : Rel β} {y : α × β} {j : Nat} (ha : EvE X a Z (rT2 X.K r s) y) (hs : PlainIx (.Constant (.int 0) j p) := by exact fun _ _ => rfl) : EvE X (.Subscript a (.Constant (.int 0) j p) pos) Z r y.1 :=
  ev2 (pe_ix ix_tup ce ce hs) ha ev_int fun G H v w Q s h1 h2 k => by
    obtain ⟨l, v1, v2, rfl, h3, h4, h5⟩ := h1
    exact ⟨l, _, 0, v1, rfl, h2, s.seqT h3, atI_nat (j := 0) rfl, k G H _ (.refl s) h4⟩
theorem small_two : (2 : Nat) ≤ sizeLine := by decide
theorem ev_tup2 {s : Rel β} {y : β} {k : Nat} (ha : EvA X [a, b] Z [.val r x, .val s y]) : EvE X (.Tuple [a, b] k pos) Z (rT2 X.K r s) (x, y) := fun G H σ Q E q =>
  toE (pe_tup ca) (ha G H σ _ E fun G1 H1 vs e1 h1 => by
    obtain ⟨v, w, rfl, h2, h3⟩ := slv2 h1
    refine ⟨small_two, fun t ht => q _ _ _ (e1.trans (.new e1.s ht)) ?_⟩
    have e2 : Same G1 (upd G1 t (.tup [v, w])) := same_upd (e1.s.free ht)
    exact ⟨t, v, w, rfl, SqT.of upd_same, r.mono e2 h2, s.mono e2 h3⟩)
theorem slvL {G : Hp} {ss : List Slot} : ∀ {xs : List α} {vs : List V}, Slv G vs (xs.map (.val r)) → Paired (r.rd G) vs xs
  | [], _, .nil => .nil
  | _ :: _, _, .cons h t => .cons h (slvL (ss := ss) t)
theorem slv_len {G : Hp} : ∀ {vs : List V} {ss : List Slot}, Slv G vs ss → vs.length = ss.length
  | _, _, .nil => rfl
  | _, _, .cons _ t => by rw [List.length_cons, List.length_cons, slv_len t]
theorem ev_tupL {xs : List α} {k : Nat} (ha : EvA X es Z (xs.map (.val r))) (hl : xs.length ≤ sizeLine) : EvE X (.Tuple es k pos) Z (rTL X.K r) xs := fun G H σ Q E q =>
  toE (pe_tup ca) (ha G H σ _ E fun G1 H1 vs e1 h1 => by
    have l := slv_len h1
    rw [List.length_map] at l
    refine ⟨by omega, fun t ht => q _ _ _ (e1.trans (.new e1.s ht)) ?_⟩
    have e2 : Same G1 (upd G1 t (.tup vs)) := same_upd (e1.s.free ht)
    exact ⟨t, vs, rfl, SqT.of upd_same, pmono (fun _ _ => r.mono e2) (slvL (ss := []) h1), hl⟩)
def EvO (X : Cx) (oe : Option Expr) (Z : Ctx) (o : Option Int) : Prop := match oe, o with
  | none, none => True
  | some e, some i => EvE X e Z rI i
  | _, _ => False
def cut {α : Type} (xs : List α) (lo hi : Option Int) : List α := (xs.drop (HT.sIx xs.length 0 lo)).take (HT.sIx xs.length xs.length hi - HT.sIx xs.length 0 lo)
theorem cut_len {α : Type} (xs : List α) (lo hi : Option Int) : (cut xs lo hi).length ≤ xs.length := by
  unfold cut
  rw [List.length_take, List.length_drop]
  omega
theorem pcut {α β : Type} {F : α → β → Prop} {l : List α} {m : List β} (h : Paired F l m) (lo hi : Option Int) : Paired F ((l.drop (HT.sIx l.length 0 lo)).take (HT.sIx l.length l.length hi - HT.sIx l.length 0 lo)) (cut m lo hi) := by
  unfold cut
  rw [plen h]
  exact ptake _ (pdrop _ h)
end
end PL

namespace PL
open PySem PySem.Spec PyProof.Rows L2
theorem SubS.refl : ∀ l : List Slot, SubS l l
  | [] => .nil
  | _ :: l => .same (SubS.refl l)
theorem Env.weak {Z W : Ctx} {G H : Hp} {σ : L2.St} (E : Env Z G H σ) (hb : Z.b = W.b) (hs : SubS Z.sl W.sl) (hc : Z.ce = W.ce) : Env W G H σ := by
  refine ⟨hb ▸ E.ex, hb ▸ E.ab, fun i t ht => ?_, hb ▸ hc ▸ E.ce, hc ▸ E.nd⟩
  obtain ⟨s, h1, h2⟩ := hs.get i t ht
  obtain ⟨ov, h3, h4⟩ := E.sl i s h1
  rcases h2 with rfl | rfl
  · exact ⟨ov, h3, trivial⟩
  · exact ⟨ov, h3, h4⟩
theorem Env.dn {Z : Ctx} {G H B : Hp} {σ : L2.St} (E : Env (Z.up B) G H σ) : Env Z G H σ := ⟨E.ex, fun b hb => E.ab b (List.mem_cons_of_mem _ hb), E.sl, E.ce, E.nd⟩
theorem Env.upB {Z : Ctx} {G H B : Hp} {σ : L2.St} (E : Env Z G H σ) (h : Same B G) : Env (Z.up B) G H σ := ⟨E.ex, fun b hb => by
  rcases List.mem_cons.mp hb with e | hb
  · rw [e]; exact h
  · exact E.ab b hb, E.sl, E.ce, E.nd⟩
theorem Env.above {Z : Ctx} {G H B : Hp} {σ : L2.St} (E : Env (Z.up B) G H σ) : Same B G := E.ab B List.mem_cons_self
theorem Env.own {Z : Ctx} {G H : Hp} {σ : L2.St} {o : Addr} {u : HO} (E : Env Z G H σ) (hG : G o = none) (h0 : Z.b.H0 o = none) (hc : ∀ c ∈ Z.ce, c.addr ≠ o) : Env Z G (upd H o u) σ := by
  have s1 : ∀ F : Hp, F o = none → Same F H → Same F (upd H o u) := fun F hF s b x e => by
    rw [upd_ne (ne_of_none e hF)]
    exact s b x e
  refine ⟨⟨E.ex.g, SmF.updo hG E.ex.s, s1 _ h0 E.ex.h, E.ex.n⟩, E.ab, E.sl, fun c hc' => ?_, E.nd⟩
  exact Cell.ok_upd (E.ce c hc') (hc c hc')

def EvI (X : Cx) (tg iter : Expr) (Z : Ctx) {α : Type} (r : Rel α) (xs : List α) : Prop :=
  ∃ wi : TI, PI X tg iter wi ∧ ∀ G H σ R, Env Z G H σ → (∀ G' H' J, Ext G H G' H' → Walks J G' r xs → xs.length ≤ sizeLine → R J H') → wi σ H R
section
variable {X : Cx} {Z : Ctx} {α β γ : Type} {r : Rel α} {x : α} {pos p : Pos} {a b c e tg : Expr} {es : List Expr} {D : Ends} {rest : List Stmt}
theorem ei_list {xs : List α} (h : EvE X e Z (rL X.K r) xs) : EvI X tg e Z r xs := ⟨_, pi_list ce, fun G H σ R E k => h G H σ _ E fun G1 H1 v e1 h1 => by
  obtain ⟨l, us, rfl, h3, h4, h5⟩ := h1
  refine ⟨l, rfl, ⟨us, e1.s.seq h3⟩, k G1 H1 _ e1 ⟨fun i G2 H2 s1 s2 hi => ⟨us, s2.seq (s1.seq h3), by rw [plen h4]; exact hi⟩, fun i G2 H2 s1 s2 hi => ?_, fun i G2 H2 v H3 s1 s2 hi hy => ?_⟩ h5⟩
  · have hi' : i < us.length := by rw [plen h4]; exact hi
    exact ⟨us, us[i], s2.seq (s1.seq h3), List.getElem?_eq_getElem hi'⟩
  · obtain ⟨rfl, hy⟩ := hy
    obtain ⟨x, q1, q2⟩ := pget h4 (hy us (s2.seq (s1.seq h3)))
    exact ⟨x, G2, q1, .refl s2, r.mono s1 q2⟩⟩
theorem ei_tup {xs : List α} (h : EvE X e Z (rTL X.K r) xs) : EvI X tg e Z r xs := ⟨_, pi_tup ce, fun G H σ R E k => h G H σ _ E fun G1 H1 v e1 h1 => by
  obtain ⟨l, us, rfl, h3, h4, h5⟩ := h1
  refine ⟨l, rfl, ⟨us, e1.s.seqT h3⟩, k G1 H1 _ e1 ⟨fun i G2 H2 s1 s2 hi => ⟨us, s2.seqT (seqT s1 h3), by rw [plen h4]; exact hi⟩, fun i G2 H2 s1 s2 hi => ?_, fun i G2 H2 v H3 s1 s2 hi hy => ?_⟩ h5⟩
  · have hi' : i < us.length := by rw [plen h4]; exact hi
    exact ⟨us, us[i], s2.seqT (seqT s1 h3), List.getElem?_eq_getElem hi'⟩
  · obtain ⟨rfl, hy⟩ := hy
    obtain ⟨x, q1, q2⟩ := pget h4 (hy us (s2.seqT (seqT s1 h3)))
    exact ⟨x, G2, q1, .refl s2, r.mono s1 q2⟩⟩
def rngL (lo : Int) (n : Nat) : List Int := (List.range n).map fun (i : Nat) => lo + (i : Int)
theorem rngL_len (lo : Int) (n : Nat) : (rngL lo n).length = n := by simp [rngL]
theorem rngL_get {lo : Int} {n i : Nat} (h : i < n) : (rngL lo n)[i]? = some (lo + (i : Int)) := by simp [rngL, h]
theorem walks_rng (lo : Int) (n : Nat) (G : Hp) : Walks (Itr lo n) G rI (rngL lo n) :=
  ⟨fun i _ _ _ _ hi => by rw [rngL_len] at hi; exact hi, fun i _ _ _ _ hi => by rw [rngL_len] at hi; exact hi, fun i G1 H v H' s1 s2 hi hy => by
    obtain ⟨rfl, rfl⟩ := hy
    rw [rngL_len] at hi
    exact ⟨_, G1, rngL_get hi, .refl s2, rfl⟩⟩
theorem ei_range {n : Int} (hm : X.mg "range" = none) (ha : EvA X [a] Z [.val rI n]) (h1 : -(2 ^ 62) ≤ n) (h2 : n ≤ 16777216) (hg : Gl X "range" := by rfl) (hs : starEach [a] X.env = [(false, eval a X.env)] := by rfl) :
    EvI X tg (.Call (.Name "range" p) [a] [] pos) Z rI (rngL 0 n.toNat) := ⟨_, pi_range1 hg hm ca hs, fun G H σ R E k => ha G H σ _ E fun G1 H1 vs e1 q => by
  obtain ⟨v, rfl, q1⟩ := slv1 q
  cases q1
  exact ⟨n, rfl, h1, by omega, k G1 H1 _ e1 (walks_rng 0 n.toNat G1) (by rw [rngL_len, sizeLine_eq]; omega)⟩⟩
def numd {α : Type} (xs : List α) : List (Int × α) := xs.zipIdx.map fun q => ((q.2 : Int), q.1)
theorem numd_len {α : Type} (xs : List α) : (numd xs).length = xs.length := by simp [numd]
theorem numd_get {α : Type} {xs : List α} {i : Nat} {x : α} (h : xs[i]? = some x) : (numd xs)[i]? = some ((i : Int), x) := by
  simp [numd, List.getElem?_zipIdx, h]
theorem ei_enum {xs : List α} {elts : List Expr} {kk : Nat} {tp : Pos} (hm : X.mg "enumerate" = none) (ha : EvA X [e] Z [.val (rL X.K r) xs]) (hg : Gl X "enumerate" := by rfl) (hs : starEach [e] X.env = [(false, eval e X.env)] := by rfl) :
    EvI X (.Tuple elts kk tp) (.Call (.Name "enumerate" p) [e] [] pos) Z (rT2 X.K rI r) (numd xs) := ⟨_, pi_enum hg hm ca hs, fun G H σ R E k => ha G H σ _ E fun G1 H1 vs e1 q => by
  obtain ⟨v, rfl, l, us, rfl, h3, h4, h5⟩ := slv1 q
  refine ⟨l, us, rfl, e1.s.seq h3, k G1 H1 _ e1 ⟨fun i G2 H2 s1 s2 hi => ⟨us, s2.seq (s1.seq h3), by rw [plen h4]; rw [numd_len] at hi; exact hi⟩, fun i G2 H2 s1 s2 hi => ?_, fun i G2 H2 v H3 s1 s2 hi hy => ?_⟩ (by rw [numd_len]; exact h5)⟩
  · have hi' : i < us.length := by rw [plen h4]; rw [numd_len] at hi; exact hi
    exact ⟨us, us[i], s2.seq (s1.seq h3), List.getElem?_eq_getElem hi'⟩
  · obtain ⟨T, x, rfl, nT, rfl, hy⟩ := hy
    obtain ⟨y, q1, q2⟩ := pget h4 (hy us (s2.seq (s1.seq h3)))
    have e2 := Ext.new (o := .tup [.int (i : Nat), x]) s2 nT
    exact ⟨_, _, numd_get q1, e2, T, _, _, rfl, SqT.of upd_same, rfl, r.mono (s1.trans e2.g) q2⟩⟩
theorem cg : PG X tg (wG X tg) := ⟨fun pins s _ _ _ u _ I r h => h.run pins s u I r⟩
theorem toG {t : TG} (q : PG X tg t) {v : V} {σ : L2.St} {H : Hp} {Q : L2.St → Hp → Prop} (h : t v σ H Q) : wG X tg v σ H Q := ⟨fun pins s u I r => q.run pins s σ H v u Q I r h⟩
def EvG (X : Cx) (tg : Expr) {α : Type} (r : Rel α) (x : α) (Z Z' : Ctx) : Prop := ∀ G H σ v Q, Env Z G H σ → r.rd G v x → (∀ σ', Env Z' G H σ' → Q σ' H) → wG X tg v σ H Q
theorem eg_name (i : Nat) {n : Str} (nd : X.N.Nodup) (hi : X.N[i]? = some n := by rfl) (hx : Loc X.env.scope n := by first | exact Or.inl rfl | exact Or.inr rfl) (hf : X.fn n = true ∨ X.env.scope.names.lookup n = some .local := by first | exact .inl rfl | exact .inr rfl | assumption) :
    EvG X (.Name n pos) r x Z (Z.set i (.val r x)) := fun G H σ v Q E h k => toG (pg_name nd hi hx hf) (k _ (E.setv ⟨v, rfl, h⟩))
theorem eg_tup2 {Z1 Z2 : Ctx} {s : Rel β} {y : α × β} {kk : Nat} (hc : X.calm = true) (h1 : EvG X a r y.1 Z Z1) (h2 : EvG X b s y.2 Z1 Z2)
    (hs1 : (assignEach [a, b] X.env).map (·.2) = assign a X.env :: (assignEach [b] X.env).map (·.2) := by rfl) (hs2 : (assignEach [b] X.env).map (·.2) = assign b X.env :: (assignEach [] X.env).map (·.2) := by rfl)
    (hn : (assignEach [a, b] X.env).length = 2 := by rfl) (hst : (assignEach [a, b] X.env).findIdx? (·.1) = none := by rfl) : EvG X (.Tuple [a, b] kk pos) (rT2 X.K r s) y Z Z2 := fun G H σ v Q E h k => by
  obtain ⟨t, v1, v2, rfl, q1, q2, q3⟩ := h
  exact toG (pg_tup hc (pgs_cons cg (pgs_cons cg pgs_nil hs2) hs1) hn hst) ⟨t, _, rfl, E.le.seqT q1, rfl, v1, _, rfl, h1 G H σ v1 _ E q2 fun σ1 E1 => ⟨v2, _, rfl, h2 G H σ1 v2 _ E1 q3 fun σ2 E2 => ⟨rfl, k σ2 E2⟩⟩⟩
theorem goes_nil (h : ∀ G H σ, Env Z G H σ → D.nx σ H) : Goes X [] Z D := fun G H σ E => toSs pss_nil (h G H σ E)
theorem goes_of {st : Stmt} {t : TS} (q : PS X st t) (h : ∀ G H σ, Env Z G H σ → t { D with nx := wSs X rest D } σ H) : Goes X (st :: rest) Z D := fun G H σ E => toSs (pss_cons q css) (h G H σ E)
theorem goes_ret (he : EvE X e Z r x) (h : ∀ G H v σ, Env Z G H σ → r.rd G v x → D.rt v H) : Goes X (.Return (some e) pos :: rest) Z D :=
  goes_of (ps_ret ce) fun G H σ E => he G H σ _ E fun G1 H1 v e1 h1 => h G1 H1 v σ (E.ext e1) h1
theorem goes_set (i : Nat) {n : Str} {p' : Pos} (nd : X.N.Nodup) (he : EvE X e Z r x) (h : Goes X rest (Z.set i (.val r x)) D) (hi : X.N[i]? = some n := by rfl) (hx : Loc X.env.scope n := by first | exact Or.inl rfl | exact Or.inr rfl)
    (hs : swapsWith e (some (.Name n p')) pos.line X.env = pure false := by rfl) (hf : X.fn n = true ∨ X.env.scope.names.lookup n = some .local := by first | exact .inl rfl | exact .inr rfl | assumption) : Goes X (.Assign [.Name n p'] e pos :: rest) Z D :=
  goes_of (ps_set nd hi hx ce hs hf) fun G H σ E => he G H σ _ E fun G1 H1 v e1 h1 => h G1 H1 _ ((E.ext e1).setv ⟨v, rfl, h1⟩)
theorem goes_asg {Z' : Ctx} (he : EvE X e Z r x) (hg : EvG X tg r x Z Z') (h : Goes X rest Z' D) (hs : swapsWithSole [tg] e pos.line X.env = pure false := by rfl) (hw : swappedStores [tg] e X.env = pure none := by rfl)
    (h1 : (assignEach [tg] X.env).map (·.2) = [assign tg X.env] := by rfl) : Goes X (.Assign [tg] e pos :: rest) Z D :=
  goes_of (ps_asg ce cg hs hw h1) fun G H σ E => he G H σ _ E fun G1 H1 v e1 h1 => hg G1 H1 σ v _ (E.ext e1) h1 fun σ' E' => h G1 H1 σ' E'
theorem goes_expr (he : EvE X e Z r x) (h : Goes X rest Z D) (hs : swapsWith e none pos.line X.env = pure false := by rfl) : Goes X (.Expr e pos :: rest) Z D :=
  goes_of (ps_expr ce hs) fun G H σ E => he G H σ _ E fun G1 H1 v e1 h1 => h G1 H1 _ (E.ext e1)
theorem goes_if {th el : List Stmt} {k : Bool} (hc : EvT X c Z k) (h1 : k = true → Goes X th Z { D with nx := wSs X rest D }) (h2 : k = false → Goes X el Z { D with nx := wSs X rest D }) : Goes X (.If c th el pos :: rest) Z D :=
  goes_of (ps_if ct css css) fun G H σ E => hc G H σ _ E fun G1 H1 e1 => by
    cases k with
    | true => rw [if_pos rfl]; exact h1 rfl G1 H1 σ (E.ext e1)
    | false => rw [if_neg Bool.false_ne_true]; exact h2 rfl G1 H1 σ (E.ext e1)
theorem goes_on (h : Goes X rest Z D) {bk ct : L2.St → Hp → Prop} {rt : VK} : Goes X [] Z { nx := wSs X rest D, rt := rt, bk := bk, ct := ct } := goes_nil fun G H σ E => h G H σ E
def LN {S : Type} (Zs : S → Ctx) (I : Nat → S → Prop) (B : Hp) (i : Nat) : L2.St → Hp → Prop := fun σ H => ∃ s G, I i s ∧ Env ((Zs s).up B) G H σ
theorem goes_for {S : Type} {xs : List α} {body : List Stmt} (Zs : S → Ctx) (I : Nat → S → Prop) (s0 : S) (hc : X.calm = true) (hp : PassesOwn (model X.prog X.w) X.A X.env X.xe) (src : EvI X tg e Z r xs) (hI : I 0 s0) (hb0 : Z.b = (Zs s0).b) (hs0 : SubS Z.sl (Zs s0).sl) (hc0 : Z.ce = (Zs s0).ce)
    (turn : ∀ (B : Hp) (i : Nat) (x : α) (s : S), xs[i]? = some x → I i s → ∃ Z', EvG X tg r x ((Zs s).up B) Z' ∧ Goes X body Z' { nx := LN Zs I B (i + 1), rt := D.rt, bk := wSs X rest D, ct := LN Zs I B (i + 1) })
    (after : ∀ s, I xs.length s → Goes X rest (Zs s) D)
    (hs : ∀ x, foldedSetIterable e X.env x = pure x := by intro _; rfl) : Goes X (.For tg e body [] pos :: rest) Z D := by
  obtain ⟨wi, pi, hw⟩ := src
  refine goes_of (ps_for hp hc pi cg css hs) fun G H σ E => ?_
  refine hw G H σ _ E fun G1 H1 J e1 W _ => ?_
  refine ⟨fun i m σ2 H2 => m = xs.length - i ∧ i ≤ xs.length ∧ ∃ s G2, I i s ∧ Env ((Zs s).up G1) G2 H2 σ2, ⟨xs.length, by simp, Nat.zero_le _, s0, G1, hI, ((E.ext e1).weak hb0 hs0 hc0).upB (Same.refl _)⟩, ?_⟩
  rintro i m σ2 H2 ⟨rfl, hi, s, G2, hIs, E2⟩
  by_cases hlt : i < xs.length
  · refine .inr ⟨W.go i G2 H2 E2.above E2.le hlt, LN Zs I G1 (i + 1), fun σ' H' ⟨s', G', q1, q2⟩ => ⟨xs.length - (i + 1), by omega, rfl, hlt, s', G', q1, q2⟩, fun v H3 hy => ?_⟩
    obtain ⟨x, G3, hx, e3, hr⟩ := W.yld i G2 H2 v H3 E2.above E2.le hlt hy
    obtain ⟨Z', g1, g2⟩ := turn G1 i x s hx hIs
    exact g1 G3 H3 σ2 v _ (E2.ext e3) hr fun σ' E' => g2 G3 H3 σ' E'
  · have e : i = xs.length := by omega
    subst e
    exact .inl ⟨W.stop _ G2 H2 E2.above E2.le (Nat.le_refl _), after s hIs G2 H2 σ2 E2.dn⟩
def WN {S : Type} (Zs : S → Ctx) (I : S → Prop) (μ : S → Nat) (n : Nat) : L2.St → Hp → Prop := fun σ H => ∃ s G, I s ∧ μ s < n ∧ Env (Zs s) G H σ
theorem goes_while {S : Type} {body : List Stmt} (Zs : S → Ctx) (I : S → Prop) (μ : S → Nat) (k : S → Bool) (s0 : S) (hp : PassesOwn (model X.prog X.w) X.A X.env X.xe) (hI : I s0) (hb0 : Z.b = (Zs s0).b) (hs0 : SubS Z.sl (Zs s0).sl) (hc0 : Z.ce = (Zs s0).ce)
    (test : ∀ s, I s → EvT X c (Zs s) (k s)) (turn : ∀ s, I s → k s = true → Goes X body (Zs s) { nx := WN Zs I μ (μ s), rt := D.rt, bk := wSs X rest D, ct := WN Zs I μ (μ s) })
    (after : ∀ s, I s → k s = false → Goes X rest (Zs s) D) : Goes X (.While c body [] pos :: rest) Z D := by
  refine goes_of (ps_while hp ct css) fun G H σ E => ?_
  refine ⟨fun m σ2 H2 => ∃ s G2, I s ∧ μ s = m ∧ Env (Zs s) G2 H2 σ2, ⟨_, s0, G, hI, rfl, E.weak hb0 hs0 hc0⟩, ?_⟩
  rintro m σ2 H2 ⟨s, G2, hIs, rfl, E2⟩
  refine test s hIs G2 H2 σ2 _ E2 fun G3 H3 e3 => ?_
  cases hk : k s with
  | true =>
    rw [if_pos rfl]
    exact ⟨WN Zs I μ (μ s), fun σ' H' ⟨s', G', q1, q2, q3⟩ => ⟨μ s', q2, s', G', q1, rfl, q3⟩, turn s hIs hk G3 H3 σ2 (E2.ext e3)⟩
  | false =>
    rw [if_neg Bool.false_ne_true]
    exact after s hIs hk G3 H3 σ2 (E2.ext e3)
end

section
variable {X : Cx} {Z : Ctx} {α β γ : Type} {r : Rel α} {x : α} {pos p : Pos} {tg e elt : Expr} {D : Ends} {rest : List Stmt}
def Ctx.wipe (Z : Ctx) : List Nat → Ctx
  | [] => Z
  | v :: vs => (Z.wipe vs).set v .any
theorem Env.wipe {G H : Hp} {σ : L2.St} (E : Env Z G H σ) : ∀ vs : List Nat, Env (Z.wipe vs) G H (L2.wipe σ vs)
  | [] => E
  | v :: vs => (Env.wipe E vs).setv trivial
abbrev blkX (X : Cx) (scope : Scope) (s : Shared) (H : Hp) (C : Addr) (cl : List (Str × Addr)) (fp : List Addr) : Cx := X.blk s H scope (compEnvC scope cl C X.env) fp
def OnlyAt (vs : List Nat) (σ σ' : L2.St) : Prop := L2.wipe σ' vs = L2.wipe σ vs
def EvGB (X : Cx) (tg : Expr) {α : Type} (r : Rel α) (x : α) (vs : List Nat) (Z Z' : Ctx) : Prop := ∀ G H σ v Q, Env Z G H σ → r.rd G v x → (∀ σ', Env Z' G H σ' → OnlyAt vs σ σ' → Q σ' H) → wG X tg v σ H Q
theorem wipe_set (σ : L2.St) (i : Nat) (ov : Option V) : ∀ vs : List Nat, i ∈ vs → L2.wipe (σ.set i ov) vs = L2.wipe σ vs
  | [], h => by cases h
  | v :: vs, h => by
    show (L2.wipe (σ.set i ov) vs).set v none = (L2.wipe σ vs).set v none
    by_cases hm : i ∈ vs
    · rw [wipe_set σ i ov vs hm]
    · have e : i = v := (List.mem_cons.mp h).resolve_right hm
      subst e
      have q : ∀ vs : List Nat, i ∉ vs → L2.wipe (σ.set i ov) vs = (L2.wipe σ vs).set i ov := by
        intro vs
        induction vs with
        | nil => intro _; rfl
        | cons w ws ih =>
          intro hw
          have h1 : i ≠ w := fun z => hw (z ▸ List.mem_cons_self)
          show (L2.wipe (σ.set i ov) ws).set w none = ((L2.wipe σ ws).set w none).set i ov
          rw [ih fun z => hw (List.mem_cons_of_mem _ z), List.set_comm _ _ h1]
      rw [q vs hm, List.set_set]
theorem egb_name (i : Nat) {n : Str} {vs : List Nat} (nd : X.N.Nodup) (hm : i ∈ vs := by decide) (hi : X.N[i]? = some n := by rfl) (hx : Loc X.env.scope n := by first | exact Or.inl rfl | exact Or.inr rfl) (hf : X.fn n = true ∨ X.env.scope.names.lookup n = some .local := by first | exact .inl rfl | exact .inr rfl | assumption) :
    EvGB X (.Name n pos) r x vs Z (Z.set i (.val r x)) := fun G H σ v Q E h k => toG (pg_name nd hi hx hf) (k _ (E.setv ⟨v, rfl, h⟩) (wipe_set σ i _ vs hm))
theorem wipe_idem (σ : L2.St) (vs : List Nat) : L2.wipe (L2.wipe σ vs) vs = L2.wipe σ vs := by
  have q : ∀ ws : List Nat, (∀ v ∈ ws, v ∈ vs) → L2.wipe (L2.wipe σ ws) vs = L2.wipe σ vs := by
    intro ws
    induction ws with
    | nil => intro _; rfl
    | cons w ws ih =>
      intro h
      show L2.wipe ((L2.wipe σ ws).set w none) vs = _
      rw [wipe_set _ _ _ vs (h w List.mem_cons_self)]
      exact ih fun v hv => h v (List.mem_cons_of_mem _ hv)
  exact q vs fun _ h => h
def gB (X : Cx) (scope : Scope) (tg : Expr) : TG := fun v σ H Q => ∀ st H0 C cl fp, wG (blkX X scope st H0 C cl fp) tg v σ H Q
def eB (X : Cx) (scope : Scope) (elt : Expr) : TE := fun σ H Q => ∀ st H0 C cl fp, wE (blkX X scope st H0 C cl fp) elt σ H Q
def tB (X : Cx) (scope : Scope) (c : Expr) : TT := fun σ H Q => ∀ st H0 C cl fp, wT (blkX X scope st H0 C cl fp) c σ H Q
theorem lc_ev {scope : Scope} {own : List (Str × Nat)} {xs : List α} {s : Rel β} {wi : TI} {wt : TT} (hw : ∀ G H σ R, Env Z G H σ → (∀ G' H' J, Ext G H G' H' → Walks J G' r xs → xs.length ≤ sizeLine → R J H') → wi σ H R)
    (acc : Nat → List β) (hacc0 : acc 0 = []) (hlen : ∀ i, (acc i).length ≤ i)
    (turn : ∀ (B : Hp) (i : Nat) (x : α), xs[i]? = some x → ∃ Z' k, (∀ st H C cl fp, EvGB (blkX X scope st H C cl fp) tg r x (own.map (·.2)) ((Z.up B).wipe (own.map (·.2))) Z') ∧
      (∀ G H σ Q, Env Z' G H σ → (∀ G' H', Ext G H G' H' → Q k H') → wt σ H Q) ∧ (k = true → ∃ y, (∀ st H C cl fp, EvE (blkX X scope st H C cl fp) elt Z' s y) ∧ acc (i + 1) = acc i ++ [y]) ∧ (k = false → acc (i + 1) = acc i))
    {G H : Hp} {σ : L2.St} {Q : VK} (E : Env Z G H σ) (q : ∀ G' H' o vs, Ext G H G' H' → H o = none → G' o = none → H' o = some (.lst vs) → Paired (s.rd G') vs (acc xs.length) → (acc xs.length).length ≤ sizeLine → Q (.ref o) H') : tLc wi (gB X scope tg) wt (eB X scope elt) (own.map (·.2)) σ H Q := by
  refine hw G H σ _ E fun G1 H1 J e1 W hl D nD => ?_
  have E1 := E.ext e1
  have h0D : Z.b.H0 D = none := E1.ex.h.free nD
  have hcD : ∀ c ∈ Z.ce, c.addr ≠ D := fun c hc z => by
    obtain ⟨_, _, u, q3, _⟩ := E1.ce c hc
    rw [z, nD] at q3
    cases q3
  have hGD : G1 D = none := E1.le.free nD
  refine ⟨fun (i m : Nat) (H2 : Hp) => m = xs.length - i ∧ i ≤ xs.length ∧ ∃ (G2 : Hp) (vs : List V), Env (Z.up G1) G2 H2 σ ∧ Same H1 H2 ∧ (∀ b, H1 b ≠ none → G1 b = none → G2 b = none) ∧ G2 D = none ∧ H2 D = some (.lst vs) ∧ Paired (s.rd G2) vs (acc i), ⟨xs.length, by simp, Nat.zero_le _, G1, [], ((E1.ext (.newM E1.le nD)).upB (Same.refl _)), same_upd nD, fun _ _ z => z, hGD, upd_same, by rw [hacc0]; exact .nil⟩, ?_⟩
  rintro i m H2 ⟨rfl, hi, G2, vs, E2, s12, n2, g2, hD, hP⟩
  by_cases hlt : i < xs.length
  · refine .inr ⟨W.go i G2 H2 E2.above E2.le hlt, fun (H' : Hp) => ∃ (G2 : Hp) (vs : List V), Env (Z.up G1) G2 H' σ ∧ Same H1 H' ∧ (∀ b, H1 b ≠ none → G1 b = none → G2 b = none) ∧ G2 D = none ∧ H' D = some (.lst vs) ∧ Paired (s.rd G2) vs (acc (i + 1)), fun H' h => ⟨xs.length - (i + 1), by omega, rfl, hlt, h⟩, fun v H3 hy => ?_⟩
    obtain ⟨x, G3, hx, e3, hr⟩ := W.yld i G2 H2 v H3 E2.above E2.le hlt hy
    obtain ⟨Z', k, t1, t2, t3, t4⟩ := turn G1 i x hx
    intro st H0 C cl fp
    have E3 := E2.ext e3
    refine t1 st H0 C cl fp G3 H3 (L2.wipe σ (own.map (·.2))) v _ (E3.wipe _) hr fun σ2 Eb o2 => ?_
    refine ⟨Eq.trans o2 (wipe_idem σ _), ?_⟩
    refine t2 G3 H3 σ2 _ Eb fun G4 H4 e4 => ?_
    have nn : ∀ {G' H' : Hp}, Ext G2 H2 G' H' → ∀ b, H1 b ≠ none → G1 b = none → G' b = none := fun e b hb hg => e.n b (nn_same s12 hb) (n2 b hb hg)
    have nD2 : H2 D ≠ none := by rw [hD]; exact fun z => by cases z
    cases k with
    | false =>
      rw [if_neg Bool.false_ne_true]
      have e34 := e3.trans e4
      refine ⟨G4, vs, E2.ext e34, s12.trans e34.h, nn e34, e34.n D nD2 g2, e34.h D _ hD, ?_⟩
      rw [t4 rfl]
      exact pmono (fun _ _ => s.mono e34.g) hP
    | true =>
      rw [if_pos rfl]
      intro st' H0' C' cl' fp'
      obtain ⟨y, t3, t5⟩ := t3 rfl
      refine t3 st' H0' C' cl' fp' G4 H4 σ2 _ (Eb.ext e4) fun G5 H5 w e5 hw5 => ?_
      have e35 := (e3.trans e4).trans e5
      have gD5 : G5 D = none := e35.n D nD2 g2
      refine ⟨vs, e35.h D _ hD, ?_, G5, vs ++ [w], ?_, ?_, nn e35, gD5, upd_same, ?_⟩
      · have := plen hP
        have := hlen i
        omega
      · exact (E2.ext e35).own gD5 h0D hcD
      · intro b o hb
        rw [upd_ne (ne_of_none hb nD)]
        exact e35.h _ _ (s12 _ _ hb)
      · rw [t5]
        exact psnoc (pmono (fun _ _ => s.mono e35.g) hP) hw5
  · have e : i = xs.length := by omega
    subst e
    refine .inl ⟨W.stop _ G2 H2 E2.above E2.le (Nat.le_refl _), ?_⟩
    exact q G2 H2 D vs ⟨e1.g.trans E2.above, E2.le, e1.h.trans s12, fun b hb hg => n2 b (nn_same e1.h hb) (e1.n b hb hg)⟩ (e1.h.free nD) g2 hD hP (Nat.le_trans (hlen _) hl)
def EvF (X : Cx) (e : Expr) (Z : Ctx) {α : Type} (r : Rel α) (xs : List α) : Prop :=
  ∀ G H σ Q, Env Z G H σ → (∀ G' H' o vs, Ext G H G' H' → H o = none → G' o = none → H' o = some (.lst vs) → Paired (r.rd G') vs xs → xs.length ≤ sizeLine → Q (.ref o) H') → wE X e σ H Q
theorem frz_ext {G H G1 H1 : Hp} {o : Addr} {vs : List V} (e1 : Ext G H G1 H1) (h1 : H o = none) (h2 : G1 o = none) (h3 : H1 o = some (.lst vs)) : Ext G H (upd G1 o (.lst vs)) H1 := by
  have s1 : Same G1 (upd G1 o (.lst vs)) := same_upd h2
  refine ⟨e1.g.trans s1, fun b u hb => ?_, e1.h, fun b hb hg => ?_⟩
  · by_cases hbo : b = o
    · subst hbo
      rw [upd_same] at hb
      rw [← hb]
      exact .inl h3
    · rw [upd_ne hbo] at hb
      exact e1.s b u hb
  · have hbo : b ≠ o := fun z => hb (z ▸ h1)
    rw [upd_ne hbo]
    exact e1.n b hb hg
theorem ev_f {xs : List α} (h : EvF X e Z r xs) : EvE X e Z (rL X.K r) xs := fun G H σ Q E k => h G H σ Q E fun G1 H1 o vs e1 h1 h2 h3 h4 h5 =>
  k (upd G1 o (.lst vs)) H1 (.ref o) (frz_ext e1 h1 h2 h3) ⟨o, vs, rfl, SqL.of upd_same, pmono (fun _ _ => r.mono (same_upd h2)) h4, h5⟩
end
end PL

namespace PL
open PySem PySem.Spec PyProof.Rows L2
theorem map_erase {α β : Type _} (f : α → β) : ∀ (l : List α) (i : Nat), (l.eraseIdx i).map f = (l.map f).eraseIdx i
  | [], _ => rfl
  | a :: l, 0 => rfl
  | a :: l, i + 1 => by
    show f a :: (l.eraseIdx i).map f = f a :: (l.map f).eraseIdx i
    rw [map_erase f l i]
def Rt (G0 H0 : Hp) (R : Hp → V → Prop) : VK := fun v H' => ∃ G', Ext G0 H0 G' H' ∧ R G' v
abbrev retD (G0 H0 : Hp) (R : Hp → V → Prop) : Ends := { nx := fun _ H' => Rt G0 H0 R .non H', rt := Rt G0 H0 R }
def spG (P : List Slot → (Hp → V → Prop) → Prop) : Sp := fun vs H Q _ => ∃ (ss : List Slot) (G : Hp) (R : Hp → V → Prop), P ss R ∧ SmF G H ∧ Slv G vs ss ∧ ∀ G' H' v, Ext G H G' H' → R G' v → Q v H'
theorem start_get {G : Hp} {N : List Str} : ∀ {vs : List V} {ss : List Slot}, Slv G vs ss → ∀ (m i : Nat) (s : Slot), (ss ++ List.replicate m .any)[i]? = some s → ∃ ov, (vs.map some ++ List.replicate m none)[i]? = some ov ∧ s.ok G ov
  | _, _, .nil, m, i, s, h => by
    have hi : i < m := by
      have := (List.getElem?_eq_some_iff.mp h).1
      simpa using this
    have e : s = .any := by
      simp [List.getElem?_replicate, hi] at h
      exact h.symm
    subst e
    exact ⟨none, by simp [List.getElem?_replicate, hi], trivial⟩
  | _, _, .cons (v := v) h t, m, 0, s, e => by
    simp at e
    subst e
    exact ⟨some v, by simp, v, rfl, h⟩
  | _, _, .cons h t, m, i + 1, s, e => by
    obtain ⟨ov, h1, h2⟩ := start_get (N := N) t m i s (by simpa using e)
    exact ⟨ov, by simpa using h1, h2⟩
theorem env_start {G H : Hp} {N : List Str} {vs : List V} {ss : List Slot} (hs : SmF G H) (h : Slv G vs ss) : Env ⟨⟨G, H, []⟩, ss ++ List.replicate (N.length - ss.length) .any, []⟩ G H (L2.start N vs) := by
  refine ⟨.refl hs, (fun B hB => by cases hB), fun i s hi => ?_, (fun c hc => by cases hc), List.nodup_nil⟩
  unfold L2.start
  rw [slv_len h]
  exact start_get (N := N) h _ i s hi
section
variable {P : Program} {w : World} {K : PySem.W.Frag} {mg : Str → Option Value} {base : Heap}
def CallOk (P : Program) (w : World) (K : PySem.W.Frag) (mg : Str → Option Value) (base : Heap) (n : Str) (k : Nat) (sp : Sp) : Prop :=
  ∃ f fd ps, FnOk P w K mg base CX0 k f fd ps sp ∧ mg n = some (.ref f) ∧ PySem.W.keepIn K (.ref f) = true ∧ Binds K fd ps []
end
section
variable {X : Cx} {Z : Ctx} {α β γ δ ε ζ : Type} {r : Rel α} {s : Rel β} {t : Rel γ} {u : Rel δ} {rz : Rel ζ} {x : α} {y : β} {z : γ} {q : δ} {pos p : Pos} {a b c d e tg : Expr} {es : List Expr} {D : Ends} {rest : List Stmt} {n : Str} {k : Nat}
theorem ev_call {Pr : List Slot → (Hp → V → Prop) → Prop} {ss : List Slot} {R : Hp → V → Prop} (C : CallOk X.prog X.w X.K X.mg X.base n k (spG Pr)) (hr : Room k X.A) (ha : EvA X (e :: es) Z ss) (hP : Pr ss R) (hR : ∀ G v, R G v → r.rd G v x)
    (hg : Gl X n := by rfl) (hdb : (n == ("__debug__" : Str)) = false := by decide) (he : starEach (e :: es) X.env = (false, eval e X.env) :: starEach es X.env := by rfl) (hpl : (backTo pos (starEach es X.env)).any (·.1) = false := by rfl) :
    EvE X (.Call (.Name n p) (e :: es) [] pos) Z r x := fun G H σ Q E q => by
  obtain ⟨f, fd, ps, F, hm, hk, hb⟩ := C
  exact toE (pe_call (E := fun _ _ _ => False) F hr hg hm hk hb .nil pass0 ca hdb he hpl) (ha G H σ _ E fun G1 H1 vs e1 h1 => ⟨ss, G1, R, hP, e1.s, by rw [List.append_nil]; exact h1, fun G2 H2 v e2 h2 => q G2 H2 v (e1.trans e2) (hR G2 v h2)⟩)
theorem ef_nil : EvF X (.List [] pos) Z r [] := fun G H σ Q E k => toE (pe_lst pa_nil) ⟨Nat.zero_le _, fun o no => k G _ o [] (.newM E.le no) no (E.le.free no) upd_same .nil (Nat.zero_le _)⟩
theorem ef_list {xs : List α} (hm : X.mg "list" = none) (ha : EvA X [a] Z [.val (rL X.K r) xs]) (hg : Gl X "list" := by rfl) (he : starEach [a] X.env = (false, eval a X.env) :: starEach [] X.env := by rfl) : EvF X (.Call (.Name "list" p) [a] [] pos) Z r xs := fun G H σ Q E k =>
  toE (pe_callTy call_list_of hg hm (by decide +kernel) ca (he := he)) (ha G H σ _ E fun G1 H1 vs e1 h1 => by
    obtain ⟨v, rfl, l, us, rfl, h3, h4, h5⟩ := slv1 h1
    exact ⟨l, us, rfl, .inl (e1.s.seq h3), fun o no => k G1 _ o us (e1.trans (.newM e1.s no)) (e1.h.free no) (e1.s.free no) upd_same h4 h5⟩)
theorem goes_setF (i : Nat) {n : Str} {p' : Pos} {xs : List α} (nd : X.N.Nodup) (he : EvF X e Z r xs) (h : ∀ o, Goes X rest ⟨Z.b, Z.sl.set i (.val rRef o), .lst o r xs :: Z.ce⟩ D) (hi : X.N[i]? = some n := by rfl) (hx : Loc X.env.scope n := by first | exact Or.inl rfl | exact Or.inr rfl)
    (hs : swapsWith e (some (.Name n p')) pos.line X.env = pure false := by rfl) (hf : X.fn n = true ∨ X.env.scope.names.lookup n = some .local := by first | exact .inl rfl | exact .inr rfl | assumption) : Goes X (.Assign [.Name n p'] e pos :: rest) Z D :=
  goes_of (ps_set nd hi hx ce hs hf) fun G H σ E => he G H σ _ E fun G1 H1 o vs e1 h1 h2 h3 h4 h5 => by
    have E1 := (E.ext e1).setv (i := i) (s := .val rRef o) (ov := some (.ref o)) ⟨.ref o, rfl, rfl⟩
    refine h o G1 H1 _ ⟨E1.ex, E1.ab, E1.sl, fun c hc => ?_, ?_⟩
    · rcases List.mem_cons.mp hc with rfl | hc
      · exact Cell.lst_ok (E.ex.h.free h1) h2 h3 h4 h5
      · exact E1.ce c hc
    · refine List.nodup_cons.mpr ⟨fun hm => ?_, E1.nd⟩
      obtain ⟨c, hc, hco⟩ := List.mem_map.mp hm
      obtain ⟨_, _, u, q3, _⟩ := E.ce c hc
      have hco' : c.addr = o := hco
      rw [hco', h1] at q3
      cases q3
theorem goes_append (i j : Nat) {o : Addr} {xs : List α} {n : Str} {px pa : Pos} {pc : Pos} (he : EvA X [e] Z [.val r x]) (hz : Z.sl[i]? = some (.val rRef o)) (hj : Z.ce[j]? = some (.lst o r xs)) (hl : xs.length < sizeLine)
    (h : Goes X rest (Z.setC (Z.ce.set j (.lst o r (xs ++ [x])))) D) (hN : X.N[i]? = some n := by rfl) (hv : Vis X.env.scope n := by first | exact Or.inl rfl | exact Or.inr (Or.inl rfl) | exact Or.inr (Or.inr rfl))
    (hbase : attributeBase (.Name n px) "append" X.env (eval (.Name n px) X.env) = eval (.Name n px) X.env := by rfl)
    (hfew : ((backTo pc (starEach [e] X.env)).all (fun x => !x.1) && (backToKw pc (keywordEach [] X.env)).all (fun x => x.1.isSome) && decide ([e].length + ([] : List Keyword).length + (if ([] : List Keyword).isEmpty then 0 else 1) < 30)) = true := by rfl)
    (hline : (pa.endLine == pc.line) = true := by rfl) (hs : starEach [e] X.env = (false, eval e X.env) :: starEach [] X.env := by rfl) (hplain : (backTo pc (starEach [] X.env)).any (·.1) = false := by rfl)
    (hsw : swapsWith (.Call (.Attribute (.Name n px) "append" pa) [e] [] pc) none pos.line X.env = pure false := by rfl)
    (hd : (n == ("__debug__" : Str)) = false := by decide) (hcd : (n == ("__classdict__" : Str)) = false := by decide) : Goes X (.Expr (.Call (.Attribute (.Name n px) "append" pa) [e] [] pc) pos :: rest) Z D :=
  goes_of (ps_expr (pe_bm PySem.F.plainAttrs_list PySem.F.slot_list_append PySem.F.type_list_append mt_append (pe_var hN hv hd hcd) ca hbase hfew hline hs hplain) hsw) fun G H σ E => by
    obtain ⟨v, h1, h2⟩ := E.get hz
    obtain rfl : v = .ref o := h2
    obtain ⟨c0, cG, vs, cH, cP, cL⟩ := Cell.ok_lst (E.ce _ (List.mem_of_getElem? hj))
    refine ⟨.ref o, h1, .inl ⟨rfl, _, SqL.of cH⟩, he G H σ _ E fun G1 H1 us e1 q1 => ?_⟩
    obtain ⟨w, rfl, q2⟩ := slv1 q1
    have E1 := E.ext e1
    have cH1 := e1.h _ _ cH
    refine ⟨o, vs, w, rfl, rfl, cH1, by rw [plen cP]; exact hl, h G1 _ σ (E1.cell hj (psnoc (pmono (fun _ _ => r.mono e1.g) cP) q2) (by rw [List.length_append]; exact hl))⟩
theorem goes_frz (i j : Nat) {body : List Stmt} {o : Addr} {xs : List α} (hz : Z.sl[i]? = some (.val rRef o)) (hj : Z.ce[j]? = some (.lst o r xs)) (h : Goes X body ⟨Z.b, Z.sl.set i (.val (rL X.K r) xs), Z.ce.eraseIdx j⟩ D) : Goes X body Z D := fun G H σ E => by
  obtain ⟨v, h1, h2⟩ := E.get hz
  obtain rfl : v = .ref o := h2
  obtain ⟨c0, cG, vs, cH, cP, cL⟩ := Cell.ok_lst (E.ce _ (List.mem_of_getElem? hj))
  have s1 : Same G (upd G o (.lst vs)) := same_upd cG
  have hes : σ.set i (some (.ref o)) = σ := set_self h1
  have base : Env ⟨Z.b, Z.sl, Z.ce.eraseIdx j⟩ (upd G o (.lst vs)) H σ := by
    refine ⟨⟨E.ex.g.trans s1, fun b u hb => ?_, E.ex.h, fun b hb hg => ?_⟩, fun B hB => (E.ab B hB).trans s1, fun k s hk => ?_, fun c hc => ?_, ?_⟩
    · by_cases hbo : b = o
      · subst hbo
        rw [upd_same] at hb
        rw [← hb]
        exact .inl cH
      · rw [upd_ne hbo] at hb
        exact E.ex.s b u hb
    · have hbo : b ≠ o := fun z => hb (z ▸ c0)
      rw [upd_ne hbo]
      exact E.ex.n b hb hg
    · obtain ⟨ov, q1, q2⟩ := E.sl k s hk
      exact ⟨ov, q1, Slot.ok_mono s1 q2⟩
    · obtain ⟨k, hk⟩ := List.getElem?_of_mem hc
      have hc' := E.ce c (List.mem_of_mem_eraseIdx hc)
      have hne : c.addr ≠ o := fun z => by
        have hm : o ∈ (Z.ce.eraseIdx j).map Cell.addr := z ▸ List.mem_map_of_mem hc
        rw [map_erase] at hm
        have e2 : (Z.ce.map Cell.addr)[j]? = some o := by rw [List.getElem?_map, hj]; rfl
        obtain ⟨m, hm⟩ := List.getElem?_of_mem hm
        rw [List.getElem?_eraseIdx] at hm
        split at hm
        · have := nd_inj E.nd e2 hm
          omega
        · have := nd_inj E.nd e2 hm
          omega
      exact Cell.ok_G hc' s1 (by rw [upd_ne hne]; exact hc'.2.1)
    · show ((Z.ce.eraseIdx j).map Cell.addr).Nodup
      rw [map_erase]
      exact E.nd.sublist (List.eraseIdx_sublist _ _)
  have fin := base.setv (i := i) (s := .val (rL X.K r) xs) (ov := some (.ref o)) ⟨.ref o, rfl, o, vs, rfl, SqL.of upd_same, pmono (fun _ _ => r.mono s1) cP, cL⟩
  rw [hes] at fin
  exact h _ H σ fin
theorem strs_mono {K : PySem.W.Frag} {H H' : Hp} (e : SmF H H') : ∀ (d : PyData) (v : V), Dp K H v d → Dp K H' v d := fun d => by
  refine PyData.rec (motive_1 := fun d => ∀ v, Dp K H v d → Dp K H' v d) (motive_2 := fun ds => ∀ vs, DpAll K H vs ds → DpAll K H' vs ds) (motive_3 := fun _ => True) (motive_4 := fun _ => True) ?_ ?_ ?_ ?_ ?_ ?_ ?_ ?_ ?_ ?_ ?_ ?_ d
  · intro v h; cases h; exact .non
  · intro b v h; cases h; exact .bl _
  · intro b v h; cases h; exact .int _
  · intro b v h; cases h; exact .str _
  · intro xs ih v h
    cases h with
    | lst h1 h2 => exact .lst (e.seq h1) (ih _ h2)
  · intro xs ih v h
    cases h with
    | tup h1 h2 => exact .tup (e.seqT h1) (ih _ h2)
  · intro xs _ v h; cases h
  · intro vs h; cases h; exact .nil
  · intro d ds ih1 ih2 vs h
    cases h with
    | cons h1 h2 => exact .cons (ih1 _ h1) (ih2 _ h2)
  · trivial
  · intros; trivial
  · intros; trivial
def dI {K : PySem.W.Frag} : DataR K rI 0 := ⟨.int, fun G v x h => by cases h; exact .int _, fun _ _ _ _ => rfl, fun _ => Nat.le_refl _, fun x y => by simp [PyData.eqv]⟩
theorem dpAll {K : PySem.W.Frag} {n : Nat} (d : DataR K r n) (G : Hp) : ∀ {vs : List V} {xs : List α}, Paired (r.rd G) vs xs → DpAll K G vs (xs.map d.toD)
  | _, _, .nil => .nil
  | _, _, .cons h t => .cons (d.dp _ _ _ h) (dpAll d G t)
theorem layAll {K : PySem.W.Frag} {n : Nat} (d : DataR K r n) {G : Hp} : ∀ {vs : List V} {xs : List α}, Paired (r.rd G) vs xs → PyData.canLayAll0 (xs.map d.toD) = true
  | _, _, .nil => rfl
  | _, _, .cons (l₂ := xs) h t => by
    show (PyData.canLay0 (d.toD _) && PyData.canLayAll0 (xs.map d.toD)) = true
    rw [d.lay _ _ _ h, layAll d t]
    rfl
theorem depAll {K : PySem.W.Frag} {n : Nat} (d : DataR K r n) : ∀ (xs : List α), PyData.depthAll (xs.map d.toD) ≤ n
  | [] => Nat.zero_le _
  | x :: xs => by
    show max (PyData.depth (d.toD x)) (PyData.depthAll (xs.map d.toD)) ≤ n
    have h1 := d.dep x
    have h2 := depAll d xs
    omega
theorem eqvAll {K : PySem.W.Frag} {n : Nat} (d : DataR K r n) : ∀ (xs ys : List α), PyData.eqvAll (xs.map d.toD) (ys.map d.toD) = true ↔ xs = ys
  | [], [] => by simp [PyData.eqvAll]
  | [], y :: ys => by simp [PyData.eqvAll]
  | x :: xs, [] => by simp [PyData.eqvAll]
  | x :: xs, y :: ys => by
    show (PyData.eqv (d.toD x) (d.toD y) && PyData.eqvAll (xs.map d.toD) (ys.map d.toD)) = true ↔ _
    rw [Bool.and_eq_true, d.eqv, eqvAll d xs ys]
    simp
def dL {K : PySem.W.Frag} {n : Nat} (d : DataR K r n) : DataR K (rL K r) (n + 1) :=
  ⟨fun xs => .list (xs.map d.toD), fun G v xs ⟨a, vs, h1, h2, h3, _⟩ => by subst h1; exact .lst h2 (dpAll d G h3), fun G v xs ⟨a, vs, h1, h2, h3, _⟩ => layAll d h3, fun xs => Nat.succ_le_succ (depAll d xs), fun xs ys => by
    show PyData.eqvAll _ _ = true ↔ _
    exact eqvAll d xs ys⟩
def dTL {K : PySem.W.Frag} {n : Nat} (d : DataR K r n) : DataR K (rTL K r) (n + 1) :=
  ⟨fun xs => .tuple (xs.map d.toD), fun G v xs ⟨a, vs, h1, h2, h3, _⟩ => by subst h1; exact .tup h2 (dpAll d G h3), fun G v xs ⟨a, vs, h1, h2, h3, _⟩ => layAll d h3, fun xs => Nat.succ_le_succ (depAll d xs), fun xs ys => by
    show PyData.eqvAll _ _ = true ↔ _
    exact eqvAll d xs ys⟩
def dT2 {K : PySem.W.Frag} {n m : Nat} (d : DataR K r n) (d' : DataR K s m) : DataR K (rT2 K r s) (max n m + 1) :=
  ⟨fun x => .tuple [d.toD x.1, d'.toD x.2], fun G v x ⟨a, v1, v2, h1, h2, h3, h4⟩ => by subst h1; exact .tup h2 (.cons (d.dp _ _ _ h3) (.cons (d'.dp _ _ _ h4) .nil)), fun G v x ⟨a, v1, v2, h1, h2, h3, h4⟩ => by
    show (PyData.canLay0 (d.toD x.1) && (PyData.canLay0 (d'.toD x.2) && true)) = true
    rw [d.lay _ _ _ h3, d'.lay _ _ _ h4]
    rfl, fun x => by
    show max (PyData.depth (d.toD x.1)) (max (PyData.depth (d'.toD x.2)) 0) + 1 ≤ _
    have h1 := d.dep x.1
    have h2 := d'.dep x.2
    omega, fun x y => by
    show (PyData.eqv (d.toD x.1) (d.toD y.1) && (PyData.eqv (d'.toD x.2) (d'.toD y.2) && true)) = true ↔ _
    rw [Bool.and_true, Bool.and_eq_true, d.eqv, d'.eqv]
    exact ⟨fun h => Prod.ext h.1 h.2, fun h => by rw [h]; exact ⟨rfl, rfl⟩⟩⟩
theorem shaped_of {d : PyData} {n : Nat} (h : d.canLay0 = true) (h2 : d.depth ≤ n) (h3 : n ≤ 64) : SeqAt.shaped d = true := by
  unfold SeqAt.shaped
  rw [h, decide_eq_true (Nat.le_trans h2 h3)]
  rfl
theorem cm_eqD [DecidableEq α] {m : Nat} {x' : α} (d : DataR X.K r m) (hr : Room k X.A) (ha : EvE X a Z r x) (hb : EvE X b Z r x') (hm : m ≤ 64 := by decide) : CmpE X .Eq a b Z (decide (x = x')) := cm2 (op_eqD hr.units) (nomark _) ha hb fun G H v w Q s h1 h2 k => by
    refine ⟨d.toD x, d.toD x', strs_mono s _ _ (d.dp _ _ _ h1), strs_mono s _ _ (d.dp _ _ _ h2), shaped_of (d.lay _ _ _ h1) (d.dep _) hm, shaped_of (d.lay _ _ _ h2) (d.dep _) hm, k G H _ (.refl s) ?_⟩
    show V.bl _ = V.bl _
    congr 1
    cases e : PyData.eqv (d.toD x) (d.toD x') with
    | true => exact (decide_eq_true ((d.eqv _ _).mp e)).symm
    | false => exact (decide_eq_false fun q => by rw [(d.eqv _ _).mpr q] at e; cases e).symm
theorem cm_neD [DecidableEq α] {m : Nat} {x' : α} (d : DataR X.K r m) (hr : Room k X.A) (ha : EvE X a Z r x) (hb : EvE X b Z r x') (hm : m ≤ 64 := by decide) : CmpE X .NotEq a b Z (!decide (x = x')) := cm2 (op_neD hr.units) (nomark _) ha hb fun G H v w Q s h1 h2 k => by
    refine ⟨d.toD x, d.toD x', strs_mono s _ _ (d.dp _ _ _ h1), strs_mono s _ _ (d.dp _ _ _ h2), shaped_of (d.lay _ _ _ h1) (d.dep _) hm, shaped_of (d.lay _ _ _ h2) (d.dep _) hm, k G H _ (.refl s) ?_⟩
    show V.bl _ = V.bl _
    congr 2
    cases e : PyData.eqv (d.toD x) (d.toD x') with
    | true => exact (decide_eq_true ((d.eqv _ _).mp e)).symm
    | false => exact (decide_eq_false fun q => by rw [(d.eqv _ _).mpr q] at e; cases e).symm
def OfTy {α : Type} (K : PySem.W.Frag) (r : Rel α) (T : String) : Prop := ∀ G H v x, SmF G H → r.rd G v x → TyX K H v (.type T)
theorem ty_sqT {K : PySem.W.Frag} {G H : Hp} {o : Addr} {vs : List V} (s : SmF G H) (h : SqT K G o vs) : TyX K H (.ref o) (.type "tuple") := by
  rcases s.seqT h with (h | ⟨u, h⟩) | ⟨u, its, m, h1, h2, _⟩
  · exact .base (.tup h)
  · exact .fTuple h
  · exact .kTuple h1 h2
theorem ty_sqL {K : PySem.W.Frag} {G H : Hp} {o : Addr} {vs : List V} (s : SmF G H) (h : SqL K G o vs) : TyX K H (.ref o) (.type "list") := by
  rcases s.seq h with (h | ⟨u, h⟩) | ⟨u, its, m, h1, h2, _⟩
  · exact .base (.lst h)
  · exact .base (.frz h)
  · exact .kList h1 h2
theorem ty_TL {K : PySem.W.Frag} : OfTy K (rTL K r) "tuple" := fun G H v x q ⟨o, vs, h1, h2, _⟩ => by subst h1; exact ty_sqT q h2
theorem ty_L {K : PySem.W.Frag} : OfTy K (rL K r) "list" := fun G H v x q ⟨o, vs, h1, h2, _⟩ => by subst h1; exact ty_sqL q h2
theorem ev_isi (U : String) (kb : Bool) {T : String} {pu : Pos} {m : Str} (hm : X.mg "isinstance" = none) (hu : X.mg m = none) (ha : EvE X a Z r x) (ty : OfTy X.K r T) (hk : kitB T U = some kb := by decide +kernel) (hb : bootBuiltins m = some (.type U) := by decide +kernel) (hgu : Gl X m := by rfl)
    (hg : Gl X "isinstance" := by rfl) (he : starEach [a, .Name m pu] X.env = (false, eval a X.env) :: starEach [.Name m pu] X.env := by rfl) (he2 : starEach [.Name m pu] X.env = (false, eval (.Name m pu) X.env) :: starEach [] X.env := by rfl) (hpl : (backTo pos (starEach [.Name m pu] X.env)).any (·.1) = false := by rfl)
    (hn : m ≠ "__name__" := by decide) (hdb : (m == ("__debug__" : Str)) = false := by decide) : EvE X (.Call (.Name "isinstance" p) [a, .Name m pu] [] pos) Z rB kb := fun G H σ Q E q =>
  toE (pe_callB call_isi hg hm (by decide +kernel) (pa_cons ce (pa_cons (pe_bltn (v := .ty U) hgu hu hb rfl hn hdb) pa_nil he2) he) (he := he) (hpl := hpl)) (ha G H σ _ E fun G1 H1 v e1 h1 => ⟨v, .ty U, .type T, .type U, kb, rfl, .ty U, ty G1 H1 v x e1.s h1, kit_ty hk, q G1 H1 _ e1 rfl⟩)
end
end PL

namespace PL
open PySem PySem.Spec PyProof.Rows L2
section
variable {P : Program} {w : World} {K : PySem.W.Frag} {mg : Str → Option Value} {base : Heap}
theorem fn_d {x qual : Str} {st : Stmt} {f : Addr} {fd : FuncData} {N ps : List Str} {k : Nat} {Pr : List Slot → (Hp → V → Prop) → Prop} (F : FunD K x qual (defArgs st) (defBody st) (defScope st) [] [] f fd) (S : FnScope N ps (defScope st)) (len : ∀ ss R, Pr ss R → ss.length = ps.length)
    (body : ∀ (cdv : Value) (A : Around) (outer : List PySem.Env) (s : Shared) (H : Hp) (E : XK) (G : Hp) (ss : List Slot) (R : Hp → V → Prop), Room k (A.deeper (envOfC qual (defScope st) s.heap.objs.size f cdv)) → Pr ss R →
      Goes (cxOf CX0 P w K mg base N qual (defScope st) f cdv A outer s H E).nox (defBody st) ⟨⟨G, H, []⟩, ss ++ List.replicate (N.length - ss.length) .any, []⟩ (retD G H R)) : FnOk P w K mg base CX0 (k + 1) f fd ps (spG Pr) := by
  refine F.ok S (fun vs H Q E h => ?_) (fun cdv A outer s H vs Q E hr h => ?_)
  · obtain ⟨ss, G, R, h1, h2, h3, h4⟩ := h
    rw [slv_len h3, len ss R h1]
  · obtain ⟨ss, G, R, h1, h2, h3, h4⟩ := h
    refine ⟨wSs _ _, PSs.nox css, ?_⟩
    constructor
    intro pins s' I
    refine thn ((body cdv A outer s H E G ss R hr h1 G H (L2.start N vs) (env_start h2 h3)).run pins s' I) fun fl s1 hq => ?_
    cases fl with
    | next =>
      obtain ⟨σ', H', I', G', q1, q2⟩ := hq
      exact ⟨σ', H', I', h4 G' H' _ q1 q2⟩
    | brk => exact hq
    | cont => exact hq
    | ret u =>
      obtain ⟨v, σ', H', I', rv, G', q1, q2⟩ := hq
      exact ⟨v, σ', H', I', rv, h4 G' H' _ q1 q2⟩
end
section
variable {X : Cx} {Z Z' Z2 : Ctx} {α β γ : Type} {r : Rel α} {s : Rel β} {x : α} {pos p : Pos} {a b c e : Expr} {es : List Expr} {D : Ends} {rest : List Stmt} {n : Str} {k : Nat}
end
end PL

namespace PL
open PySem PySem.Spec PyProof.Rows L2
section
variable {X : Cx} {Z : Ctx} {α β γ : Type} {r : Rel α} {x : α} {pos p p1 p2 : Pos} {a b c e : Expr} {D : Ends} {rest : List Stmt} {n : Str} {k : Nat}
def Sz (n : Nat) (q : Rat) : Prop := q.num.natAbs < 2 ^ n ∧ q.den < 2 ^ n
theorem Sz.mono {n m : Nat} {q : Rat} (h : Sz n q) (hnm : n ≤ m) : Sz m q := ⟨Nat.lt_of_lt_of_le h.1 (Nat.pow_le_pow_right (by decide) hnm), Nat.lt_of_lt_of_le h.2 (Nat.pow_le_pow_right (by decide) hnm)⟩
theorem Sz.zero {n : Nat} (h : 1 ≤ n) : Sz n 0 := ⟨Nat.pow_pos (by decide), by show 1 < 2 ^ n; exact Nat.one_lt_two_pow (by omega)⟩
end
end PL

namespace PL
open PySem PySem.Spec PyProof.Rows L2
section
variable {X : Cx} {Z : Ctx} {pos : Pos} {a b : Expr} {i j : Int}
theorem op_mulG : OpR X (binaryOp .Mult) (L2.rI IntMulOk fun i j => .int (i * j)) := opI fun _ _ _ _ _ _ _ hc q => mul_int q hc
theorem ev_mulG (ha : EvE X a Z rI i) (hb : EvE X b Z rI j) (h : IntMulOk i j) : EvE X (.BinOp a .Mult b pos) Z rI (i * j) := ev2 (pe_op op_mulG ce ce) ha hb (opI2 (f := fun i j => i * j) h)
end
theorem Bt.mono {i : Int} {n m : Nat} (h : Bt n i) (hm : n ≤ m) : Bt m i := Nat.le_trans h hm
end PL

namespace PL
open PySem PySem.Spec PyProof.Rows L2
section
variable {X : Cx} {Z W : PL.Ctx} {body : List Stmt} {D : Ends} {α : Type} {r : Rel α} {x y : α} {pos : Pos} {a b : Expr}
end
end PL

namespace PL
open PySem PySem.Spec PyProof.Rows L2
def rC : Rel Text := ⟨fun _ v x => v = .str (mkS x) ∧ okT x, fun _ h => h⟩
theorem mk_tx (z : Str) : mkS (tx z) = z := by
  cases z
  simp [mkS, tx]
theorem tx_mk (x : Text) : tx (mkS x) = x := by simp [mkS, tx]
theorem mkS_inj {x y : Text} (h : mkS x = mkS y) : x = y := by rw [← tx_mk x, h, tx_mk]
theorem mkS_len (x : Text) : (mkS x).length = x.length := by simp [mkS, Str.length]
theorem mkS_app (x y : Text) : mkS x ++ mkS y = mkS (x ++ y) := by
  show (⟨x.toArray ++ y.toArray⟩ : Str) = ⟨(x ++ y).toArray⟩
  simp
def okTb (x : Text) : Bool := decide (x.length ≤ 1000000) && x.all fun c => decide (c < 1114112)
theorem okT_b {x : Text} (h : okTb x = true) : okT x := by
  unfold okTb at h
  rw [Bool.and_eq_true] at h
  have h1 := of_decide_eq_true h.1
  exact ⟨by rw [sizeLine_eq]; omega, fun c hc => of_decide_eq_true (List.all_eq_true.mp h.2 c hc)⟩
theorem okT.app {x y : Text} (hx : okT x) (hy : okT y) (h : x.length + y.length ≤ sizeLine) : okT (x ++ y) :=
  ⟨by rw [List.length_append]; exact h, fun c hc => (List.mem_append.mp hc).elim (hx.2 c) (hy.2 c)⟩
theorem okT.sub {x y : Text} (h : okT x) (hs : y.Sublist x) : okT y := ⟨Nat.le_trans hs.length_le h.1, fun c hc => h.2 c (hs.subset hc)⟩
theorem cut_sub {α : Type} (x : List α) (i j : Option Int) : (cut x i j).Sublist x := by
  unfold cut
  exact (List.take_sublist _ _).trans (List.drop_sublist _ _)
theorem okT.cut {x : Text} (h : okT x) (i j : Option Int) : okT (PL.cut x i j) := h.sub (cut_sub x i j)
section
variable {X : Cx} {Z : PL.Ctx} {α β γ : Type} {r : Rel α} {pos p p2 : Pos} {a b c e tg : Expr} {x y z : Text} {k : Nat} {n : Str}
theorem ev_txt {i : Str} {j : Nat} (h : okTb (tx i) = true := by decide +kernel) : EvE X (.Constant (.str i) j pos) Z rC (tx i) := ev_pure pe_str fun _ => ⟨by rw [mk_tx], okT_b h⟩
theorem ev_cat (ha : EvE X a Z rC x) (hb : EvE X b Z rC y) (hl : x.length + y.length ≤ sizeLine) : EvE X (.BinOp a .Add b pos) Z rC (x ++ y) := ev2 (pe_op op_add_str ce ce) ha hb fun G H v w Q s h1 h2 k => by
  obtain ⟨rfl, o1⟩ := h1
  obtain ⟨rfl, o2⟩ := h2
  exact ⟨_, _, rfl, rfl, by rw [mkS_len, mkS_len]; exact hl, k G H _ (.refl s) ⟨by rw [mkS_app], o1.app o2 hl⟩⟩
theorem cm_eqC (ha : EvE X a Z rC x) (hb : EvE X b Z rC y) : CmpE X .Eq a b Z (decide (x = y)) := cm2 op_eq (nomark _) ha hb fun G H v w Q s h1 h2 k => by
  obtain ⟨rfl, o1⟩ := h1
  obtain ⟨rfl, o2⟩ := h2
  exact ⟨rfl, k G H _ (.refl s) (by show V.bl _ = V.bl _; congr 1; exact decide_eq_decide.mpr ⟨fun q => mkS_inj (V.str.inj q), fun q => by rw [q]⟩)⟩
theorem ev_lenX (hm : X.mg "len" = none) (ha : EvA X [a] Z [.val rC x]) (hg : Gl X "len" := by rfl) (he : starEach [a] X.env = (false, eval a X.env) :: starEach [] X.env := by rfl) : EvE X (.Call (.Name "len" p) [a] [] pos) Z rI (x.length : Int) :=
  ev_cb (pe_callB call_len_str hg hm PySem.boot_len ca (he := he)) ha fun G H vs Q s h k => by
    obtain ⟨v, rfl, h1⟩ := slv1 h
    obtain ⟨rfl, o1⟩ := h1
    exact ⟨_, rfl, by rw [mkS_len]; exact o1.1, k G H _ (.refl s) (by rw [mkS_len]; rfl)⟩
theorem cm_inC {t : Text} (ha : EvE X a Z rC t) (hb : EvE X b Z rC y) (h1 : t.length = 1) (hm : behindInMarks .In b = false := by rfl) : CmpE X .In a b Z (decide (t.headD 0 ∈ y)) := cm2 op_in_sign hm ha hb fun G H v w Q s h1' h2 k => by
  obtain ⟨rfl, o1⟩ := h1'
  obtain ⟨rfl, o2⟩ := h2
  obtain ⟨ch, rfl⟩ := List.length_eq_one_iff.mp h1
  exact ⟨ch, _, rfl, rfl, k G H _ (.refl s) (by rw [show (mkS y).cps.toList = y from tx_mk y]; rfl)⟩
theorem ev_ixC {i : Int} {ch : Nat} (ha : EvE X a Z rC x) (hb : EvE X b Z rI i) (hj : atI x i = some ch) (hs : PlainIx b := by exact fun _ _ => rfl) : EvE X (.Subscript a b pos) Z rC [ch] :=
  ev2 (pe_ix ix_str ce ce hs) ha hb fun G H v w Q s h1 h2 k => by
    obtain ⟨rfl, o1⟩ := h1
    cases h2
    have hm : ch ∈ x := by
      unfold atI at hj
      cases e : ixN x.length i with
      | none => rw [e] at hj; cases hj
      | some j => rw [e] at hj; exact List.mem_of_getElem? hj
    exact ⟨_, i, ch, rfl, rfl, by rw [mkS_len]; exact o1.1, by rw [show (mkS x).cps.toList = x from tx_mk x]; exact hj, k G H _ (.refl s) ⟨rfl, o1.one hm⟩⟩
theorem cutS_eq (x : Text) (lo hi : Option Int) : cutS (mkS x) lo hi = mkS (cut x lo hi) := by
  unfold cutS cut mkS
  simp [Str.length]
theorem ev_cutC {lo hi : Option Expr} {i j : Option Int} (ha : EvE X a Z rC x) (hlo : EvO X lo Z i) (hhi : EvO X hi Z j) : EvE X (.Subscript a (.Slice lo hi none p2) pos) Z rC (cut x i j) := by
  intro G H σ Q E q
  have fin : ∀ G' H' v, Ext G H G' H' → rC.rd G' v x → rSlS v i j H' Q := fun G' H' v e1 h1 => by
    obtain ⟨rfl, o1⟩ := h1
    exact ⟨_, rfl, by rw [mkS_len]; exact o1.1, q G' H' _ e1 ⟨by rw [cutS_eq], o1.cut i j⟩⟩
  cases lo with
  | none =>
    cases i with
    | some _ => exact hlo.elim
    | none =>
      cases hi with
      | none =>
        cases j with
        | some _ => exact hhi.elim
        | none => exact toE (pe_slice sl_str ce po_none po_none) (ha G H σ _ E fun G1 H1 v e1 h1 => fin G1 H1 v e1 h1)
      | some e2 =>
        cases j with
        | none => exact hhi.elim
        | some j =>
          have hh' : EvE X e2 Z rI j := hhi
          exact toE (pe_slice sl_str ce po_none (po_some ce)) (ha G H σ _ E fun G1 H1 v e1 h1 => hh' G1 H1 σ _ (E.ext e1) fun G2 H2 w e2 h2 => ⟨j, h2, fin G2 H2 v (e1.trans e2) h1⟩)
  | some e1 =>
    cases i with
    | none => exact hlo.elim
    | some i =>
      have hl' : EvE X e1 Z rI i := hlo
      cases hi with
      | none =>
        cases j with
        | some _ => exact hhi.elim
        | none => exact toE (pe_slice sl_str ce (po_some ce) po_none) (ha G H σ _ E fun G1 H1 v e1 h1 => hl' G1 H1 σ _ (E.ext e1) fun G2 H2 w e2 h2 => ⟨i, h2, fin G2 H2 v (e1.trans e2) h1⟩)
      | some e2 =>
        cases j with
        | none => exact hhi.elim
        | some j =>
          have hh' : EvE X e2 Z rI j := hhi
          exact toE (pe_slice sl_str ce (po_some ce) (po_some ce)) (ha G H σ _ E fun G1 H1 v e1 h1 => hl' G1 H1 σ _ (E.ext e1) fun G2 H2 w e2 h2 => ⟨i, h2, hh' G2 H2 σ _ (E.ext (e1.trans e2)) fun G3 H3 u e3 h3 => ⟨j, h3, fin G3 H3 v ((e1.trans e2).trans e3) h1⟩⟩)
theorem ei_txt (h : EvE X e Z rC x) : EvI X tg e Z rC (x.map fun c => [c]) := ⟨_, pi_str ce, fun G H σ R E k => h G H σ _ E fun G1 H1 v e1 h1 => by
  obtain ⟨rfl, o1⟩ := h1
  have hl : (x.map fun c => [c]).length = (mkS x).cps.size := by simp [mkS]
  refine ⟨mkS x, rfl, k G1 H1 _ e1 ⟨fun i G2 H2 s1 s2 hi => by rw [hl] at hi; exact hi, fun i G2 H2 s1 s2 hi => by rw [hl] at hi; exact hi, fun i G2 H2 v H3 s1 s2 hi hy => ?_⟩ (by rw [List.length_map]; exact o1.1)⟩
  obtain ⟨rfl, c, q, rfl⟩ := hy
  have q' : x[i]? = some c := by simpa [mkS] using q
  exact ⟨[c], G2, by simp [q'], .refl s2, rfl, o1.one (List.mem_of_getElem? q')⟩⟩
def dC {K : PySem.W.Frag} : DataR K rC 0 := ⟨fun x => .str (mkS x), fun G v x h => by obtain ⟨rfl, _⟩ := h; exact .str _, fun G v x h => by
    show PyData.strOk (mkS x) = true
    unfold PyData.strOk mkS
    rw [Array.all_eq_true']
    intro c hc
    exact decide_eq_true (h.2.2 c (by simpa using hc)), fun _ => Nat.le_refl _, fun x y => by
    show (mkS x == mkS y) = true ↔ _
    rw [beq_iff_eq]
    exact ⟨mkS_inj, fun h => by rw [h]⟩⟩
end
end PL

namespace PL
open PySem PySem.Spec PyProof.Rows L2
def RtF {α : Type} (G0 H0 : Hp) (r : Rel α) (xs : List α) : VK := fun v H' => ∃ G' o us, v = .ref o ∧ Ext G0 H0 G' H' ∧ H0 o = none ∧ G' o = none ∧ H' o = some (.lst us) ∧ Paired (r.rd G') us xs ∧ xs.length ≤ sizeLine
abbrev retF {α : Type} (G0 H0 : Hp) (r : Rel α) (xs : List α) : Ends := { nx := fun _ _ => False, rt := RtF G0 H0 r xs }
def spF {α : Type} (r : Rel α) (Pr : List Slot → List α → Prop) : Sp := fun vs H Q _ => ∃ (ss : List Slot) (G : Hp) (xs : List α), Pr ss xs ∧ SmF G H ∧ Slv G vs ss ∧
  ∀ G' H' o us, Ext G H G' H' → H o = none → G' o = none → H' o = some (.lst us) → Paired (r.rd G') us xs → xs.length ≤ sizeLine → Q (.ref o) H'
section
variable {P : Program} {w : World} {K : PySem.W.Frag} {mg : Str → Option Value} {base : Heap} {α : Type} {r : Rel α}
theorem fn_f {x qual : Str} {st : Stmt} {f : Addr} {fd : FuncData} {N ps : List Str} {k : Nat} {Pr : List Slot → List α → Prop} (F : FunD K x qual (defArgs st) (defBody st) (defScope st) [] [] f fd) (S : FnScope N ps (defScope st)) (len : ∀ ss xs, Pr ss xs → ss.length = ps.length)
    (body : ∀ (cdv : Value) (A : Around) (outer : List PySem.Env) (s : Shared) (H : Hp) (E : XK) (G : Hp) (ss : List Slot) (xs : List α), Room k (A.deeper (envOfC qual (defScope st) s.heap.objs.size f cdv)) → Pr ss xs →
      Goes (cxOf CX0 P w K mg base N qual (defScope st) f cdv A outer s H E).nox (defBody st) ⟨⟨G, H, []⟩, ss ++ List.replicate (N.length - ss.length) .any, []⟩ (retF G H r xs)) : FnOk P w K mg base CX0 (k + 1) f fd ps (spF r Pr) := by
  refine F.ok S (fun vs H Q E h => ?_) (fun cdv A outer s H vs Q E hr h => ?_)
  · obtain ⟨ss, G, xs, h1, h2, h3, h4⟩ := h
    rw [slv_len h3, len ss xs h1]
  · obtain ⟨ss, G, xs, h1, h2, h3, h4⟩ := h
    refine ⟨wSs _ _, PSs.nox css, ?_⟩
    constructor
    intro pins s' I
    refine thn ((body cdv A outer s H E G ss xs hr h1 G H (L2.start N vs) (env_start h2 h3)).run pins s' I) fun fl s1 hq => ?_
    cases fl with
    | next =>
      obtain ⟨σ', H', I', q⟩ := hq
      exact q.elim
    | brk => exact hq
    | cont => exact hq
    | ret u =>
      obtain ⟨v, σ', H', I', rv, G', o, us, rfl, q1, q2, q3, q4, q5, q6⟩ := hq
      exact ⟨_, σ', H', I', rv, h4 G' H' o us q1 q2 q3 q4 q5 q6⟩
end
section
variable {X : Cx} {Z : PL.Ctx} {α β γ δ : Type} {r : Rel α} {pos p : Pos} {a b c e : Expr} {es : List Expr} {D : Ends} {rest : List Stmt} {n : Str} {k : Nat}
theorem ef_call {Pr : List Slot → List α → Prop} {ss : List Slot} {xs : List α} (C : CallOk X.prog X.w X.K X.mg X.base n k (spF r Pr)) (hr : Room k X.A) (ha : EvA X (e :: es) Z ss) (hP : Pr ss xs)
    (hg : Gl X n := by rfl) (hdb : (n == ("__debug__" : Str)) = false := by decide) (he : starEach (e :: es) X.env = (false, eval e X.env) :: starEach es X.env := by rfl) (hpl : (backTo pos (starEach es X.env)).any (·.1) = false := by rfl) :
    EvF X (.Call (.Name n p) (e :: es) [] pos) Z r xs := fun G H σ Q E q => by
  obtain ⟨f, fd, ps, F, hm, hk, hb⟩ := C
  exact toE (pe_call (E := fun _ _ _ => False) F hr hg hm hk hb .nil pass0 ca hdb he hpl) (ha G H σ _ E fun G1 H1 vs e1 h1 => ⟨ss, G1, xs, hP, e1.s, by rw [List.append_nil]; exact h1, fun G2 H2 o us e2 h2 h3 h4 h5 h6 => q G2 H2 o us (e1.trans e2) (e1.h.free h2) h3 h4 h5 h6⟩)
theorem ev_gtxt {z : Str} (h : ∃ t, X.mg n = some (.str z t)) (ho : okTb (tx z) = true := by decide +kernel) (hg : Gl X n := by rfl) (hd : (n == ("__debug__" : Str)) = false := by decide) : EvE X (.Name n pos) Z rC (tx z) := by
  obtain ⟨t, h⟩ := h
  exact ev_pure (v := .str z) (pe_glob hg h ⟨t, rfl⟩ hd) fun _ => ⟨by rw [mk_tx], okT_b ho⟩
theorem ev_gint {i : Int} (h : ∃ t, X.mg n = some (.int i t)) (hg : Gl X n := by rfl) (hd : (n == ("__debug__" : Str)) = false := by decide) : EvE X (.Name n pos) Z rI i := by
  obtain ⟨t, h⟩ := h
  exact ev_pure (v := .int i) (pe_glob hg h ⟨t, rfl⟩ hd) fun _ => rfl
end
end PL

namespace PL
open PySem PySem.Spec PyProof.Rows L2
section
variable {X : Cx} {Z : PL.Ctx} {α β γ δ : Type} {r : Rel α} {s : Rel β} {t : Rel γ} {u : Rel δ} {x : α} {y : β} {z : γ} {q : δ} {pos p : Pos} {a b c d e : Expr} {es : List Expr} {D : Ends} {rest : List Stmt} {n : Str} {k : Nat}
theorem Env.frz {G H : Hp} {σ : L2.St} {i j : Nat} {o : Addr} {xs : List α} (E : Env Z G H σ) (hz : Z.sl[i]? = some (.val rRef o)) (hj : Z.ce[j]? = some (.lst o r xs)) :
    ∃ vs, H o = some (.lst vs) ∧ G o = none ∧ Paired (r.rd G) vs xs ∧ Env ⟨Z.b, Z.sl.set i (.val (rL X.K r) xs), Z.ce.eraseIdx j⟩ (upd G o (.lst vs)) H σ := by
  obtain ⟨c0, cG, vs, cH, cP, cL⟩ := Cell.ok_lst (E.ce _ (List.mem_of_getElem? hj))
  refine ⟨vs, cH, cG, cP, ?_⟩
  obtain ⟨v, h1, h2⟩ := E.get hz
  obtain rfl : v = .ref o := h2
  have s1 : Same G (upd G o (.lst vs)) := same_upd cG
  have hes : σ.set i (some (.ref o)) = σ := set_self h1
  have base : Env ⟨Z.b, Z.sl, Z.ce.eraseIdx j⟩ (upd G o (.lst vs)) H σ := by
    refine ⟨⟨E.ex.g.trans s1, fun b u hb => ?_, E.ex.h, fun b hb hg => ?_⟩, fun B hB => (E.ab B hB).trans s1, fun k s hk => ?_, fun c hc => ?_, ?_⟩
    · by_cases hbo : b = o
      · subst hbo
        rw [upd_same] at hb
        rw [← hb]
        exact .inl cH
      · rw [upd_ne hbo] at hb
        exact E.ex.s b u hb
    · have hbo : b ≠ o := fun z => hb (z ▸ c0)
      rw [upd_ne hbo]
      exact E.ex.n b hb hg
    · obtain ⟨ov, q1, q2⟩ := E.sl k s hk
      exact ⟨ov, q1, Slot.ok_mono s1 q2⟩
    · have hc' := E.ce c (List.mem_of_mem_eraseIdx hc)
      have hne : c.addr ≠ o := fun z => by
        have hm : o ∈ (Z.ce.eraseIdx j).map Cell.addr := z ▸ List.mem_map_of_mem hc
        rw [map_erase] at hm
        have e2 : (Z.ce.map Cell.addr)[j]? = some o := by rw [List.getElem?_map, hj]; rfl
        obtain ⟨m, hm⟩ := List.getElem?_of_mem hm
        rw [List.getElem?_eraseIdx] at hm
        split at hm
        · have := nd_inj E.nd e2 hm
          omega
        · have := nd_inj E.nd e2 hm
          omega
      exact Cell.ok_G hc' s1 (by rw [upd_ne hne]; exact hc'.2.1)
    · show ((Z.ce.eraseIdx j).map Cell.addr).Nodup
      rw [map_erase]
      exact E.nd.sublist (List.eraseIdx_sublist _ _)
  have fin := base.setv (i := i) (s := .val (rL X.K r) xs) (ov := some (.ref o)) ⟨.ref o, rfl, o, vs, rfl, SqL.of upd_same, pmono (fun _ _ => r.mono s1) cP, cL⟩
  rw [hes] at fin
  exact fin
theorem bor_ext {G H G2 H2 : Hp} {o : Addr} {v : HO} (hG : SmF G H) (cG : G o = none) (e : Ext (upd G o v) H G2 H2) : Ext G H G H2 := ⟨Same.refl _, (same_upd cG).trf (e.g.trf e.s), e.h, fun _ _ z => z⟩
theorem et_bor (i j : Nat) {o : Addr} {xs : List α} {kb : Bool} (hz : Z.sl[i]? = some (.val rRef o)) (hj : Z.ce[j]? = some (.lst o r xs)) (h : EvT X c ⟨Z.b, Z.sl.set i (.val (rL X.K r) xs), Z.ce.eraseIdx j⟩ kb) : EvT X c Z kb := fun G H σ Q E k => by
  obtain ⟨vs, h1, h2, _, h3⟩ := E.frz (X := X) hz hj
  exact h _ H σ Q h3 fun G2 H2 e2 => k G H2 (bor_ext E.le h2 e2)
theorem slv3 {G : Hp} {vs : List V} (h : Slv G vs [.val r x, .val s y, .val t z]) : ∃ v w v3, vs = [v, w, v3] ∧ r.rd G v x ∧ s.rd G w y ∧ t.rd G v3 z := by
  cases h with
  | cons h t =>
    obtain ⟨w, v3, rfl, h2, h3⟩ := slv2 t
    exact ⟨_, w, v3, rfl, h, h2, h3⟩
theorem ev_tup3 {kk : Nat} (ha : EvA X [a, b, c] Z [.val r x, .val s y, .val t z]) : EvE X (.Tuple [a, b, c] kk pos) Z (rT3 X.K r s t) (x, y, z) := fun G H σ Q E q =>
  toE (pe_tup ca) (ha G H σ _ E fun G1 H1 vs e1 h1 => by
    obtain ⟨v, w, v3, rfl, h2, h3, h4⟩ := slv3 h1
    refine ⟨by show 3 ≤ sizeLine; decide, fun l hl => q _ _ _ (e1.trans (.new e1.s hl)) ?_⟩
    have e2 : Same G1 (upd G1 l (.tup [v, w, v3])) := same_upd (e1.s.free hl)
    exact ⟨l, v, w, v3, rfl, SqT.of upd_same, r.mono e2 h2, s.mono e2 h3, t.mono e2 h4⟩)
variable {y3 : α × β × γ}
end
end PL

namespace PL
open PySem PySem.Spec PyProof.Rows L2
def dget {α : Type} : List (Text × α) → Text → Option α
  | [], _ => none
  | (k, x) :: r, t => if k = t then some x else dget r t
def dput {α : Type} : List (Text × α) → Text → α → List (Text × α)
  | [], t, y => [(t, y)]
  | (k, x) :: r, t, y => if k = t then (k, y) :: r else (k, x) :: dput r t y
theorem dget_dput {α : Type} (y : α) (t u : Text) : ∀ l : List (Text × α), dget (dput l t y) u = if t = u then some y else dget l u
  | [] => rfl
  | (k, x) :: r => by
    unfold dput
    by_cases h : k = t
    · rw [if_pos h]
      unfold dget
      by_cases h2 : t = u
      · rw [if_pos (h.trans h2), if_pos h2]
      · rw [if_neg (fun z => h2 (h.symm.trans z)), if_neg h2, if_neg (fun z => h2 (h.symm.trans z))]
    · rw [if_neg h]
      show (if k = u then some x else dget (dput r t y) u) = if t = u then some y else (if k = u then some x else dget r u)
      rw [dget_dput y t u r]
      by_cases h2 : t = u
      · rw [if_neg (fun z => h (z.trans h2.symm)), if_pos h2]
        rw [if_pos h2]
      · rw [if_neg h2, if_neg h2]
section
variable {α : Type} {r : Rel α} {G : Hp}
theorem ent_get {t : Text} : ∀ {us : List (Key × V)} {kvs : List (Text × α)}, Paired (ent r G) us kvs → (valV us (Sum.inr (mkS t) : Key) = none ∧ dget kvs t = none) ∨ ∃ v x, valV us (Sum.inr (mkS t) : Key) = some v ∧ dget kvs t = some x ∧ r.rd G v x
  | _, _, .nil => .inl ⟨rfl, rfl⟩
  | (k, v) :: us, (t', x) :: kvs, .cons h rest => by
    obtain ⟨hk, hv, hko⟩ := h
    have hk' : k = Sum.inr (mkS t') := hk
    by_cases e : t' = t
    · refine .inr ⟨v, x, valV_pos (by show k = _; rw [hk', e]), ?_, hv⟩
      show (if t' = t then some x else _) = some x
      rw [if_pos e]
    · have hne : ¬ k = (Sum.inr (mkS t) : Key) := by
        rw [hk']
        exact fun z => e (by
          have := Sum.inr.inj z
          have h2 : (mkS t').cps.toList = (mkS t).cps.toList := by rw [this]
          simpa [mkS] using h2)
      have e2 : dget ((t', x) :: kvs) t = dget kvs t := by
        show (if t' = t then some x else _) = _
        rw [if_neg e]
      rw [valV_neg hne, e2]
      exact ent_get rest
theorem putK_cons (k : Key) (v : V) (k' : Key) (v' : V) (us : List (Key × V)) (hn : ((k', v') :: us).map (·.1) |>.Nodup) : putK ((k', v') :: us) k v = if k' = k then (k', v) :: us else (k', v') :: putK us k v := by
  unfold putK
  by_cases h : k' = k
  · rw [if_pos h]
    have e : (((k', v') :: us).any fun kv => decide (kv.1 = k)) = true := by simp [h]
    rw [if_pos e, List.map_cons, if_pos h]
    congr 1
    have hm : ∀ q ∈ us, ¬ q.1 = k := fun q hq z => by
      have := (List.nodup_cons.mp hn).1
      exact this (List.mem_map.mpr ⟨q, hq, z.trans h.symm⟩)
    rw [List.map_congr_left (g := id) (fun q hq => by rw [if_neg (hm q hq)]; rfl)]
    simp
  · rw [if_neg h]
    have e : (((k', v') :: us).any fun kv => decide (kv.1 = k)) = us.any fun kv => decide (kv.1 = k) := by simp [h]
    rw [e]
    split
    · rw [List.map_cons, if_neg h]
    · rfl
theorem ent_nd : ∀ {us : List (Key × V)} {kvs : List (Text × α)}, Paired (ent r G) us kvs → (kvs.map (·.1)).Nodup → (us.map (·.1)).Nodup
  | _, _, .nil, _ => List.nodup_nil
  | (k, v) :: us, (t', x) :: kvs, .cons h rest, hn => by
    obtain ⟨h1, h2⟩ := List.nodup_cons.mp hn
    refine List.nodup_cons.mpr ⟨fun hm => h1 ?_, ent_nd rest h2⟩
    obtain ⟨q, hq, hqk⟩ := List.mem_map.mp hm
    obtain ⟨i, hi⟩ := List.getElem?_of_mem hq
    obtain ⟨p, hp, he⟩ := pget rest hi
    refine List.mem_map.mpr ⟨p, List.mem_of_getElem? hp, ?_⟩
    have z : (Sum.inr (mkS p.1) : Key) = Sum.inr (mkS t') := he.1.symm.trans (hqk.trans h.1)
    have z2 : (mkS p.1).cps.toList = (mkS t').cps.toList := by rw [Sum.inr.inj z]
    simpa [mkS] using z2
theorem ent_put {t : Text} {v : V} {x : α} (hv : r.rd G v x) (ht : okT t) : ∀ {us : List (Key × V)} {kvs : List (Text × α)}, Paired (ent r G) us kvs → (kvs.map (·.1)).Nodup → Paired (ent r G) (putK us (Sum.inr (mkS t) : Key) v) (dput kvs t x)
  | _, _, .nil, _ => .cons ⟨rfl, hv, ht⟩ .nil
  | (k, v') :: us, (t', x') :: kvs, .cons h rest, hn => by
    have hnd := ent_nd (.cons h rest) hn
    rw [putK_cons _ _ _ _ _ hnd]
    have hk' : k = Sum.inr (mkS t') := h.1
    unfold dput
    by_cases e : t' = t
    · rw [if_pos (show k = _ by rw [hk', e]), if_pos e]
      exact .cons ⟨h.1, hv, h.2.2⟩ rest
    · have hne : ¬ k = (Sum.inr (mkS t) : Key) := by
        rw [hk']
        exact fun z => e (by
          have h2 : (mkS t').cps.toList = (mkS t).cps.toList := by rw [Sum.inr.inj z]
          simpa [mkS] using h2)
      rw [if_neg hne, if_neg e]
      exact .cons h (ent_put hv ht rest (List.nodup_cons.mp hn).2)
end
theorem dput_keys {α : Type} (t : Text) (y : α) : ∀ l : List (Text × α), (dput l t y).map (·.1) = if dget l t = none then l.map (·.1) ++ [t] else l.map (·.1)
  | [] => rfl
  | (k, x) :: r => by
    unfold dput dget
    by_cases h : k = t
    · rw [if_pos h, if_pos h, if_neg (by intro z; cases z)]
      rfl
    · rw [if_neg h, if_neg h]
      show k :: (dput r t y).map (·.1) = _
      rw [dput_keys t y r]
      split <;> rfl
theorem dget_mem {α : Type} {t : Text} : ∀ {l : List (Text × α)}, dget l t = none → t ∉ l.map (·.1)
  | [], _ => by simp
  | (k, x) :: r, h => by
    unfold dget at h
    split at h
    · cases h
    · rename_i hk
      intro hm
      rcases List.mem_cons.mp hm with e | hm
      · exact hk e.symm
      · exact dget_mem h hm
theorem dput_nd {α : Type} {t : Text} {y : α} {l : List (Text × α)} (h : (l.map (·.1)).Nodup) : ((dput l t y).map (·.1)).Nodup := by
  rw [dput_keys]
  split
  · rename_i hn
    exact List.nodup_append.mpr ⟨h, by simp, fun a ha b hb z => by
      rw [List.mem_singleton.mp hb] at z
      exact dget_mem hn (z ▸ ha)⟩
  · exact h
theorem dput_len {α : Type} (t : Text) (y : α) (l : List (Text × α)) : (dput l t y).length ≤ l.length + 1 := by
  have e : (dput l t y).length = ((dput l t y).map (·.1)).length := by rw [List.length_map]
  rw [e, dput_keys]
  split
  · rw [List.length_append, List.length_map]
    exact Nat.le_refl _
  · rw [List.length_map]
    exact Nat.le_succ _
section
variable {X : Cx} {Z : Ctx} {α β γ : Type} {r : Rel α} {s : Rel β} {x : α} {pos p pos' : Pos} {a b c d e o : Expr} {D : Ends} {rest : List Stmt} {n : Str} {k : Nat} {t : Text} {kvs : List (Text × α)}
theorem Env.cellD {G H : Hp} {σ : L2.St} {j : Nat} {c c' : Cell} {u : HO} (E : Env Z G H σ) (hj : Z.ce[j]? = some c) (ha : c'.addr = c.addr) (hi : c'.is G u) : Env (Z.setC (Z.ce.set j c')) G (upd H c.addr u) σ := by
  have hjl : j < Z.ce.length := (List.getElem?_eq_some_iff.mp hj).1
  obtain ⟨h0, hG, u0, hH, _⟩ := E.ce _ (List.mem_of_getElem? hj)
  have s1 : ∀ F : Hp, F c.addr = none → Same F H → Same F (upd H c.addr u) := fun F hF s b x e => by
    rw [upd_ne (ne_of_none e hF)]
    exact s b x e
  have e2 : (Z.ce.map Cell.addr)[j]? = some c.addr := by rw [List.getElem?_map, hj]; rfl
  have hm : (Z.ce.set j c').map Cell.addr = Z.ce.map Cell.addr := by
    rw [List.map_set, ha]
    exact set_self e2
  refine ⟨⟨E.ex.g, SmF.updo hG E.ex.s, s1 _ h0 E.ex.h, E.ex.n⟩, E.ab, E.sl, fun q hq => ?_, by show ((Z.ce.set j _).map Cell.addr).Nodup; rw [hm]; exact E.nd⟩
  obtain ⟨i, hi'⟩ := List.getElem?_of_mem hq
  have hi2 : (Z.ce.set j c')[i]? = some q := hi'
  by_cases hij : j = i
  · subst hij
    rw [List.getElem?_set_self hjl] at hi2
    have e := Option.some.inj hi2
    subst e
    exact ⟨by rw [ha]; exact h0, by rw [ha]; exact hG, u, by rw [ha]; exact upd_same, hi⟩
  · rw [List.getElem?_set_ne hij] at hi2
    refine Cell.ok_upd (E.ce q (List.mem_of_getElem? hi2)) fun z => hij ?_
    exact nd_inj E.nd e2 (by rw [List.getElem?_map, hi2]; exact congrArg some z)
def rObj {α : Type} (C : Addr) (fs : α → List (Str × Slot)) : Rel α :=
  ⟨fun G v x => ∃ o dx vfs, v = .ref o ∧ G o = some (.ins C dx vfs) ∧ G dx = some (.own o) ∧ Flds G vfs (fs x), fun e ⟨o, dx, vfs, h1, h2, h3, h4⟩ => ⟨o, dx, vfs, h1, e _ _ h2, e _ _ h3, h4.mono e⟩⟩
theorem flds_get {G : Hp} {f : Str} {sl : Slot} : ∀ {vfs : List (Str × V)} {fs : List (Str × Slot)}, Flds G vfs fs → fs.lookup f = some sl → ∃ v, vfs.lookup f = some v ∧ sl.ok G (some v)
  | _, _, .nil, h => by cases h
  | _, _, .cons (n := m) (v := v) hs rest, h => by
    by_cases e : f == m
    · simp only [List.lookup, e] at h ⊢
      cases h
      exact ⟨v, rfl, hs⟩
    · simp only [List.lookup, e] at h ⊢
      exact flds_get rest h
theorem flds_none {G : Hp} {f : Str} : ∀ {vfs : List (Str × V)} {fs : List (Str × Slot)}, Flds G vfs fs → fs.lookup f = none → vfs.lookup f = none
  | _, _, .nil, h => rfl
  | _, _, .cons (n := m) (v := v) hs rest, h => by
    by_cases e : f == m
    · simp only [List.lookup, e] at h
      cases h
    · simp only [List.lookup, e] at h ⊢
      exact flds_none rest h
def putS (f : Str) (s : Slot) : List (Str × Slot) → List (Str × Slot)
  | [] => [(f, s)]
  | (g, t) :: r => if g = f then (g, s) :: r else (g, t) :: putS f s r
theorem flds_put {G : Hp} {f : Str} {s : Slot} {v : V} (h : s.ok G (some v)) : ∀ {vfs : List (Str × V)} {fs : List (Str × Slot)}, Flds G vfs fs → Flds G (putF f v vfs) (putS f s fs)
  | _, _, .nil => .cons h .nil
  | _, _, .cons (n := m) hs rest => by
    unfold putF putS
    by_cases e : m = f
    · rw [if_pos e, if_pos e]
      exact .cons h rest
    · rw [if_neg e, if_neg e]
      exact .cons hs (flds_put h rest)
theorem flds_len {G : Hp} : ∀ {vfs : List (Str × V)} {fs : List (Str × Slot)}, Flds G vfs fs → vfs.length = fs.length
  | _, _, .nil => rfl
  | _, _, .cons _ t => by rw [List.length_cons, List.length_cons, flds_len t]
theorem ev_fld {C : Addr} {fs : α → List (Str × Slot)} {f : Str} {y : β} (hc : Cls X.K C) (hn : NoAttr X.K C f) (ha : EvE X e Z (rObj C fs) x) (hl : (fs x).lookup f = some (.val s y)) (hb : attributeBase e f X.env (eval e X.env) = eval e X.env := by rfl) : EvE X (.Attribute e f pos) Z s y := fun G H σ Q E q =>
  toE (pe_fld ce hb) (ha G H σ _ E fun G1 H1 v e1 h1 => by
    obtain ⟨o, dx, vfs, rfl, g1, g2, g3⟩ := h1
    obtain ⟨v, g4, g5⟩ := flds_get g3 hl
    obtain ⟨v', z, g6⟩ := g5
    cases z
    exact ⟨o, C, dx, vfs, v, rfl, e1.s.ins g1, hc, hn, g4, q G1 H1 v e1 g6⟩)
theorem goes_fld (j : Nat) {l dx C : Addr} {fs : List (Str × Slot)} {f : Str} (hc : Cls X.K C) (hn : NoAttr X.K C f) (he : EvE X e Z r x) (ho : EvE X o Z rRef l) (hj : Z.ce[j]? = some (.ins l dx C fs)) (hl : fs.length < 1000)
    (h : Goes X rest (Z.setC (Z.ce.set j (.ins l dx C (putS f (.val r x) fs)))) D) (hs : swapsWith e (some (.Attribute o f pos')) pos.line X.env = pure false := by rfl) : Goes X (.Assign [.Attribute o f pos'] e pos :: rest) Z D :=
  goes_of (ps_fld ce ce hs) fun G H σ E => he G H σ _ E fun G1 H1 v e1 h1 => ho G1 H1 σ _ (E.ext e1) fun G2 H2 w e2 h2 => by
    obtain rfl : w = .ref l := h2
    have E2 := E.ext (e1.trans e2)
    obtain ⟨_, _, u, g0, g1, vfs, rfl, g3⟩ := E2.ce _ (List.mem_of_getElem? hj)
    exact ⟨l, C, dx, vfs, rfl, g0, hc, hn, by rw [flds_len g3]; exact hl, h G2 _ σ (E2.cellD (c' := .ins l dx C (putS f (.val r x) fs)) hj rfl ⟨g1, _, rfl, flds_put (s := .val r x) (v := v) ⟨v, rfl, r.mono e2.g h1⟩ g3⟩)⟩
end
def hid (H : Hp) (o : Addr) : Hp := fun b => if b = o then none else H b
theorem hid_same {H : Hp} {o : Addr} : hid H o o = none := if_pos rfl
theorem hid_ne {H : Hp} {o b : Addr} (h : b ≠ o) : hid H o b = H b := if_neg h
theorem hid_sub (H : Hp) (o : Addr) : Same (hid H o) H := fun b u e => by
  by_cases h : b = o
  · subst h
    rw [hid_same] at e
    cases e
  · rwa [hid_ne h] at e
def spI (C : Addr) (Pr : List Slot → List (Str × Slot) → Prop) : Sp := fun vs H Q _ => ∃ (o dx : Addr) (us : List V) (ss : List Slot) (fs : List (Str × Slot)) (G : Hp), vs = .ref o :: us ∧ Pr ss fs ∧ SmF G H ∧ H o = some (.ins C dx []) ∧ G o = none ∧ G dx = some (.own o) ∧ Slv G us ss ∧
  ∀ G' H' vfs, Ext G (hid H o) G' H' → G' o = none → H' o = some (.ins C dx vfs) → Flds G' vfs fs → Q .non H'
def NxI (G0 H : Hp) (o dx C : Addr) (fs : List (Str × Slot)) (H' : Hp) : Prop := ∃ G' vfs, Ext G0 (hid H o) G' H' ∧ G' o = none ∧ H' o = some (.ins C dx vfs) ∧ Flds G' vfs fs
abbrev retI (G0 H : Hp) (o dx C : Addr) (fs : List (Str × Slot)) : Ends := { nx := fun _ H' => NxI G0 H o dx C fs H', rt := fun v H' => v = .non ∧ NxI G0 H o dx C fs H' }
section
variable {P : Program} {w : World} {K : PySem.W.Frag} {mg : Str → Option Value} {base : Heap}
theorem fn_i {x qual : Str} {st : Stmt} {f C : Addr} {fd : FuncData} {N ps : List Str} {k : Nat} {Pr : List Slot → List (Str × Slot) → Prop} (F : FunD K x qual (defArgs st) (defBody st) (defScope st) [] [] f fd) (S : FnScope N ps (defScope st)) (len : ∀ ss fs, Pr ss fs → ss.length + 1 = ps.length)
    (body : ∀ (cdv : Value) (A : Around) (outer : List PySem.Env) (s : Shared) (H : Hp) (E : XK) (G : Hp) (o dx : Addr) (ss : List Slot) (fs : List (Str × Slot)), Room k (A.deeper (envOfC qual (defScope st) s.heap.objs.size f cdv)) → Pr ss fs →
      Goes (cxOf CX0 P w K mg base N qual (defScope st) f cdv A outer s H E).nox (defBody st) ⟨⟨G, hid H o, []⟩, (.val rRef o :: ss) ++ List.replicate (N.length - (ss.length + 1)) .any, [.ins o dx C []]⟩ (retI G H o dx C fs)) : FnOk P w K mg base CX0 (k + 1) f fd ps (spI C Pr) := by
  refine F.ok S (fun vs H Q E h => ?_) (fun cdv A outer s H vs Q E hr h => ?_)
  · obtain ⟨o, dx, us, ss, fs, G, rfl, h1, h2, h3, h4, h5, h6, h7⟩ := h
    rw [List.length_cons, slv_len h6, len ss fs h1]
  · obtain ⟨o, dx, us, ss, fs, G, rfl, h1, h2, h3, h4, h5, h6, h7⟩ := h
    refine ⟨wSs _ _, PSs.nox css, ?_⟩
    constructor
    intro pins s' I
    have sl : Slv G (.ref o :: us) (.val rRef o :: ss) := .cons rfl h6
    have st0 := env_start (N := N) h2 sl
    have E0 : Env ⟨⟨G, hid H o, []⟩, (.val rRef o :: ss) ++ List.replicate (N.length - (ss.length + 1)) .any, [.ins o dx C []]⟩ G H (L2.start N (.ref o :: us)) := by
      refine ⟨⟨Same.refl _, h2, hid_sub H o, fun b _ z => z⟩, (fun B hB => by cases hB), st0.sl, fun c hc => ?_, by simp⟩
      rw [List.mem_singleton.mp hc]
      exact ⟨hid_same, h4, _, h3, h5, [], rfl, .nil⟩
    refine thn ((body cdv A outer s H E G o dx ss fs hr h1 G H (L2.start N (.ref o :: us)) E0).run pins s' I) fun fl s1 hq => ?_
    cases fl with
    | next =>
      obtain ⟨σ', H', I', G', vfs, q1, q2, q3, q4⟩ := hq
      exact ⟨σ', H', I', h7 G' H' vfs q1 q2 q3 q4⟩
    | brk => exact hq
    | cont => exact hq
    | ret u =>
      obtain ⟨v, σ', H', I', rv, rfl, G', vfs, q1, q2, q3, q4⟩ := hq
      exact ⟨_, σ', H', I', rv, h7 G' H' vfs q1 q2 q3 q4⟩
def MakeOk (P : Program) (w : World) (K : PySem.W.Frag) (mg : Str → Option Value) (base : Heap) (n : Str) (C : Addr) (k : Nat) (sp : Sp) : Prop :=
  ∃ f fd ps, FnOk P w K mg base CX0 k f fd ps sp ∧ mg n = some (.ref C) ∧ Mk K C f ∧ Binds K fd ps []
def MethOk (P : Program) (w : World) (K : PySem.W.Frag) (mg : Str → Option Value) (base : Heap) (C : Addr) (m : Str) (k : Nat) (sp : Sp) : Prop :=
  ∃ f fd ps, FnOk P w K mg base CX0 k f fd ps sp ∧ Meth K C m f ∧ Binds K fd ps [] ∧ Cls K C
end
section
variable {X : Cx} {Z : Ctx} {α β γ : Type} {r : Rel α} {s : Rel β} {x : α} {pos p apos : Pos} {e o : Expr} {es : List Expr} {D : Ends} {rest : List Stmt} {n m : Str} {k : Nat} {C : Addr}
theorem goes_endI {G0 H : Hp} {l dx : Addr} {fs : List (Str × Slot)} {rt : VK} {bk ct : L2.St → Hp → Prop} (hc : Z.ce = [.ins l dx C fs]) (h0 : Z.b.G0 = G0 := by rfl) (h1 : Z.b.H0 = hid H l := by rfl) : Goes X [] Z { nx := fun _ H' => NxI G0 H l dx C fs H', rt := rt, bk := bk, ct := ct } := goes_nil fun G H' σ E => by
  obtain ⟨a0, aG, u, aH, a1, vfs, rfl, a2⟩ := E.ce (.ins l dx C fs) (by rw [hc]; exact List.mem_singleton.mpr rfl)
  exact ⟨G, vfs, by rw [← h0, ← h1]; exact E.ex, aG, aH, a2⟩
theorem ev_make {Pr : List Slot → List (Str × Slot) → Prop} {fs : α → List (Str × Slot)} {ss : List Slot} (M : MakeOk X.prog X.w X.K X.mg X.base n C k (spI C Pr)) (hr : Room (k + 1) X.A) (ha : EvA X (e :: es) Z ss) (hP : Pr ss (fs x))
    (hg : Gl X n := by rfl) (hdb : (n == ("__debug__" : Str)) = false := by decide) (he : starEach (e :: es) X.env = (false, eval e X.env) :: starEach es X.env := by rfl) (hpl : (backTo pos (starEach es X.env)).any (·.1) = false := by rfl) :
    EvE X (.Call (.Name n p) (e :: es) [] pos) Z (rObj C fs) x := fun G H σ Q E q => by
  obtain ⟨f, fd, ps, F, hm, hk, hb⟩ := M
  refine toE (pe_make (E := fun _ _ _ => False) hk F hr hg hm hb .nil pass0 ca hdb he hpl) (ha G H σ _ E fun G1 H1 vs e1 h1 => fun l dx nl nd ne => ?_)
  have gl : G1 l = none := e1.s.free nl
  have gd : G1 dx = none := e1.s.free nd
  have s1 : Same G1 (upd G1 dx (.own l)) := same_upd gd
  refine ⟨l, dx, vs, ss, fs x, upd G1 dx (.own l), by rw [List.append_nil], hP, fun b u hb => ?_, upd_same, by rw [upd_ne (Ne.symm ne)]; exact gl, upd_same, h1.mono s1, fun G2 H2 vfs e2 g1 g2 g3 => ⟨rfl, ?_⟩⟩
  · by_cases hbd : b = dx
    · subst hbd
      rw [upd_same] at hb
      rw [upd_ne ne, upd_same]
      exact .inl hb
    · rw [upd_ne hbd] at hb
      have hbl : b ≠ l := fun z => by rw [z, gl] at hb; cases hb
      rw [upd_ne hbl, upd_ne hbd]
      exact e1.s _ _ hb
  · have s2 : Same G2 (upd G2 l (.ins C dx vfs)) := same_upd g1
    refine q (upd G2 l (.ins C dx vfs)) H2 (.ref l) ⟨(e1.g.trans s1).trans (e2.g.trans s2), fun b u hb => ?_, fun b u hb => ?_, fun b hb hg => ?_⟩ ⟨l, dx, vfs, rfl, upd_same, s2 _ _ (e2.g _ _ upd_same), g3.mono s2⟩
    · by_cases hbl : b = l
      · subst hbl
        rw [upd_same] at hb
        rw [← hb]
        exact .inl g2
      · rw [upd_ne hbl] at hb
        exact e2.s _ _ hb
    · have hb1 := e1.h _ _ hb
      have hbl : b ≠ l := ne_of_none hb1 nl
      have hbd : b ≠ dx := ne_of_none hb1 nd
      refine e2.h _ _ ?_
      rw [hid_ne hbl, upd_ne hbl, upd_ne hbd]
      exact hb1
    · have hb1 : H1 b ≠ none := nn_same e1.h hb
      have hbl : b ≠ l := fun z => hb1 (z ▸ nl)
      have hbd : b ≠ dx := fun z => hb1 (z ▸ nd)
      rw [upd_ne hbl]
      refine e2.n b ?_ ?_
      · rw [hid_ne hbl, upd_ne hbl, upd_ne hbd]
        exact hb1
      · rw [upd_ne hbd]
        exact e1.n b hb hg
theorem ev_meth0 {Pr : List Slot → (Hp → V → Prop) → Prop} {fs : α → List (Str × Slot)} {R : Hp → V → Prop} {y : β} {pl : Sem Bool} (M : MethOk X.prog X.w X.K X.mg X.base C m k (spG Pr)) (hr : Room k X.A) (ho : EvE X o Z (rObj C fs) x) (hf : (fs x).lookup m = none) (hP : Pr [.val (rObj C fs) x] R) (hR : ∀ G v, R G v → s.rd G v y)
    (ht : eval (.Call (.Attribute o m apos) [] [] pos) X.env = (do
      let ov ← eval o X.env
      standAt apos.atName
      let (f, first) ← holding [ov] (getMethod ov m pl)
      callWith pos f first (backTo pos (starEach [] X.env)) (backToKw pos (keywordEach [] X.env))) := by rfl) : EvE X (.Call (.Attribute o m apos) [] [] pos) Z s y := fun G H σ Q E q => by
  obtain ⟨f, fd, ps, F, hm, hb, hc⟩ := M
  refine toE (pe_meth0 (E := fun _ _ _ => False) ce hc hm F hr hb .nil pass0 ht) (ho G H σ _ E fun G1 H1 v e1 h1 => ?_)
  obtain ⟨l, dx, vfs, rfl, g1, g2, g3⟩ := id h1
  refine ⟨l, dx, vfs, rfl, e1.s.ins g1, flds_none g3 hf, ?_⟩
  exact ⟨_, G1, R, hP, e1.s, .cons h1 .nil, fun G3 H3 v e3 h3 => q G3 H3 v (e1.trans e3) (hR G3 v h3)⟩
end
end PL

namespace PL
open PySem PySem.Spec PyProof.Rows L2
section
variable {X : Cx} {Z : Ctx} {α β γ : Type} {r : Rel α} {s : Rel β} {x : α} {pos p apos : Pos} {a b c d e o tg : Expr} {es : List Expr} {D : Ends} {rest : List Stmt} {n : Str} {k : Nat} {t u : Text} {i j l : Int}
theorem cut_from {α : Type} (xs : List α) {n : Nat} (h : n ≤ xs.length) : cut xs (some (n : Int)) none = xs.drop n := by
  unfold cut
  rw [HT.sIx_none, HT.sIx_nat, Nat.min_eq_left h]
  exact List.take_of_length_le (by rw [List.length_drop]; omega)
theorem cut_to {α : Type} (xs : List α) {n : Nat} (h : n ≤ xs.length) : cut xs none (some (n : Int)) = xs.take n := by
  unfold cut
  rw [HT.sIx_none, HT.sIx_nat, Nat.min_eq_left h]
  simp
theorem cut_upto {α : Type} (xs : List α) (n : Nat) : cut xs none (some (n : Int)) = xs.take n := by
  unfold cut
  rw [HT.sIx_none, HT.sIx_nat]
  simp only [Nat.sub_zero, List.drop_zero]
  by_cases h : n ≤ xs.length
  · rw [Nat.min_eq_left h]
  · rw [Nat.min_eq_right (by omega), List.take_of_length_le (Nat.le_refl _), List.take_of_length_le (by omega)]
def rCatG (K : PySem.W.Frag) : R2 := fun x y H Q => ∃ l b xs zs, x = .ref l ∧ y = .ref b ∧ SqL K H l xs ∧ SqL K H b zs ∧ xs.length + zs.length ≤ sizeLine ∧ ∀ p, H p = none → Q (.ref p) (upd H p (.lst (xs ++ zs)))
theorem op_catG : OpR X (binaryOp .Add) (rCatG X.K) := by
  intro pins s σ H x y v u Q I rx ry h
  obtain ⟨l, b, xs, zs, rfl, rfl, hH, hB, hz, q⟩ := h
  cases rx
  cases ry
  obtain ⟨its, r, ⟨⟨cls, dd, data, sl⟩, n, ho, hc, hd0, hd⟩, z⟩ := I.list hH
  obtain ⟨its2, r2, ⟨⟨cls2, dd2, data2, sl2⟩, n2, ho2, hc2, hd02, hd2⟩, z2⟩ := I.list hB
  simp only at hc hd hc2 hd2
  subst hc hd hc2 hd2
  have ea : its.toArray ++ its2.toArray = (its ++ its2).toArray := by simp
  have e1 := r.length
  have e2 := r2.length
  refine concat_meets ⟨_, ho, rfl⟩ ⟨_, ho2, rfl⟩ noFill_list_add seq_list_add PySem.F.slot_list_add PySem.F.entry_list_add (PySem.F.args_list_add_2 _ _) (list_addW l b its.toArray its2.toArray n n2 dd dd2 sl sl2 (by rw [List.size_toArray, List.size_toArray]; omega)) ⟨ho, ho2, ?_⟩
  rw [ea]
  exact ⟨.ref _, _, I.lnew (t' := s.toks) (r.append r2) (by rw [List.length_append]; omega), rfl, q _ I.fresh⟩
theorem ef_cat {xs ys : List α} (ha : EvE X a Z (rL X.K r) xs) (hb : EvE X b Z (rL X.K r) ys) (hl : xs.length + ys.length ≤ sizeLine) : EvF X (.BinOp a .Add b pos) Z r (xs ++ ys) := fun G H σ Q E q =>
  toE (pe_op op_catG ce ce) (ha G H σ _ E fun G1 H1 v e1 h1 => hb G1 H1 σ _ (E.ext e1) fun G2 H2 w e2 h2 => by
    obtain ⟨m, us, rfl, g1, g2, _⟩ := h1
    obtain ⟨m2, us2, rfl, g3, g4, _⟩ := h2
    refine ⟨m, m2, us, us2, rfl, rfl, (e2.g.trf e2.s).seq g1, e2.s.seq g3, by rw [plen g2, plen g4]; exact hl, fun q1 h1 => ?_⟩
    have e3 := Ext.newM (o := .lst (us ++ us2)) e2.s h1
    exact q G2 _ q1 _ ((e1.trans e2).trans e3) (E.ext (e1.trans e2) |>.ex.h.free h1 |> fun _ => (e1.trans e2).h.free h1) (e2.s.free h1) upd_same (papp (pmono (fun _ _ => r.mono e2.g) g2) g4) (by rw [List.length_append]; exact hl))
section
variable {op op' : CmpOp} {R R' : R2} {ra : Rel α} {rb : Rel β} {rc : Rel γ} {xa : α} {xb : β} {xc : γ} {k1 k2 : Bool}
theorem chE (ho : OpR X (compareOp op) R) (ho' : OpR X (compareOp op') R') (ha : EvE X a Z ra xa) (hb : EvE X b Z rb xb) (hc : EvE X c Z rc xc)
    (f1 : ∀ (G H : Hp) (v w : V) (Q : VK), SmF G H → ra.rd G v xa → rb.rd G w xb → Q (.bl k1) H → R v w H Q)
    (f2 : ∀ (G H : Hp) (v w : V) (Q : VK), SmF G H → rb.rd G v xb → rc.rd G w xc → Q (.bl k2) H → R' v w H Q)
    (hm : lastMarks [op, op'] [b, c] = false := by with_unfolding_all rfl) : EvE X (.Compare a [op, op'] [b, c] pos) Z rB (k1 && k2) ∧ EvT X (.Compare a [op, op'] [b, c] pos) Z (k1 && k2) := by
  have core : ∀ G H σ (Q : VK), Env Z G H σ → (∀ G' H', Ext G H G' H' → Q (.bl (k1 && k2)) H') → tChain R R' (wE X a) (wE X b) (wE X c) σ H Q := fun G H σ Q E q =>
    ha G H σ _ E fun G1 H1 v e1 h1 => hb G1 H1 σ _ (E.ext e1) fun G2 H2 w e2 h2 => f1 G2 H2 v w _ e2.s (ra.mono e2.g h1) h2 (by
      refine ⟨k1, rfl, ?_⟩
      cases k1 with
      | false => exact q G2 H2 (e1.trans e2)
      | true =>
        rw [if_pos rfl]
        exact hc G2 H2 σ _ (E.ext (e1.trans e2)) fun G3 H3 u e3 h3 => f2 G3 H3 w u _ e3.s (rb.mono e3.g h2) h3 (q G3 H3 ((e1.trans e2).trans e3)))
  exact ⟨fun G H σ Q E q => toE (pe_chain ho ho' ce ce ce hm) (core G H σ _ E fun G' H' e => q G' H' _ e rfl), fun G H σ Q E q => toT (pt_chain ho ho' ce ce ce hm) (core G H σ _ E fun G' H' e => ⟨_, rfl, q G' H' e⟩)⟩
end
theorem fI0 {f : Int → Int → Bool} {i j : Int} : ∀ (G H : Hp) (v w : V) (Q : VK), SmF G H → rI.rd G v i → rI.rd G w j → Q (.bl (f i j)) H → L2.rI0 (fun i j => .bl (f i j)) v w H Q := fun G H v w Q _ h1 h2 q => ⟨i, j, h1, h2, q⟩
theorem ev_lele (ha : EvE X a Z rI i) (hb : EvE X b Z rI j) (hc : EvE X c Z rI l) (hm : lastMarks [.LtE, .LtE] [b, c] = false := by with_unfolding_all rfl) : EvE X (.Compare a [.LtE, .LtE] [b, c] pos) Z rB (decide (i ≤ j) && decide (j ≤ l)) :=
  (chE op_le op_le ha hb hc (fI0 (f := fun i j => decide (i ≤ j))) (fI0 (f := fun i j => decide (i ≤ j))) hm).1
def ends (x y : Text) : Bool := decide (y.length ≤ x.length) && decide (x.drop (x.length - y.length) = y)
def isin {α : Type} [DecidableEq α] (x : α) (xs : List α) : Bool := decide (x ∈ xs)
theorem cm_notInDC {kvs : List (Text × α)} (j : Nat) {l : Addr} (hr : Room k X.A) (ha : EvE X a Z rC t) (hb : EvE X b Z rRef l) (hj : Z.ce[j]? = some (.dic l r kvs)) (hm : behindInMarks .NotIn b = false := by rfl) : CmpE X .NotIn a b Z (!(dget kvs t).isSome) := ⟨hm, _, pc_dnotin (hu_of hr) ce ce, fun G H σ Q E q =>
  ha G H σ _ E fun G1 H1 v e1 h1 => hb G1 H1 σ _ (E.ext e1) fun G2 H2 w e2 h2 => by
    obtain ⟨rfl, _⟩ : v = .str (mkS t) ∧ okT t := h1
    obtain rfl : w = .ref l := h2
    obtain ⟨_, _, u, g0, us, rfl, g2, _⟩ := (E.ext (e1.trans e2)).ce _ (List.mem_of_getElem? hj)
    refine ⟨l, _, rfl, DGet.k (k := Sum.inr (mkS t)) g0, ?_⟩
    have z : (valV us (Sum.inr (mkS t) : Key)).isSome = (dget kvs t).isSome := by
      rcases ent_get (t := t) g2 with ⟨q1, q2⟩ | ⟨v, y, q1, q2, _⟩ <;> rw [q1, q2] <;> rfl
    rw [z]
    exact q G2 H2 (e1.trans e2)⟩
end
end PL

namespace PL
open PySem PySem.Spec PyProof.Rows L2
section
variable {α β γ : Type} {r : Rel α} {s : Rel β} {t : Rel γ} {K : PySem.W.Frag}
end
section
variable {X : Cx} {Z : Ctx} {α β γ : Type} {r : Rel α} {s : Rel β} {x : α} {y : β} {e : Expr}
end
end PL

namespace PL
open PySem PySem.Spec PyProof.Rows L2
theorem md {n m : Int} (h : 0 < m) : 0 ≤ n % m ∧ n % m < m := ⟨Int.emod_nonneg _ (by omega), Int.emod_lt_of_pos _ h⟩
def dig (sg : Text) (m : Int) : Nat → Int → Text
  | 0, _ => []
  | k + 1, n => sg.getD (n % m).toNat 0 :: dig sg m k (n / m)
section
variable {X : Cx} {Z : Ctx} {α β γ : Type} {r : Rel α} {x : α} {pos p : Pos} {a b c e : Expr} {es : List Expr}
theorem ef_lst {xs : List α} (ha : EvA X es Z (xs.map (.val r))) (hl : xs.length ≤ sizeLine) : EvF X (.List es pos) Z r xs := fun G H σ Q E q =>
  toE (pe_lst ca) (ha G H σ _ E fun G1 H1 vs e1 h1 => by
    have l := slv_len h1
    rw [List.length_map] at l
    exact ⟨by omega, fun t ht => q G1 _ t vs (e1.trans (.newM e1.s ht)) (e1.h.free ht) (e1.s.free ht) upd_same (slvL (ss := []) h1) hl⟩)
variable {D : Ends} {rest th el : List Stmt} {k : Bool}
theorem goes_ifJ (W : Ctx) (hc : EvT X c Z k) (h1 : k = true → Goes X th Z { D with nx := Nx W }) (h2 : k = false → Goes X el Z { D with nx := Nx W }) (h : Goes X rest W D) : Goes X (.If c th el pos :: rest) Z D :=
  have up : ∀ body, Goes X body Z { D with nx := Nx W } → Goes X body Z { D with nx := wSs X rest D } := fun body hb G H σ E => ⟨fun pins s I => by
    refine thn ((hb G H σ E).run pins s I) fun fl s1 hq => ?_
    cases fl with
    | next =>
      obtain ⟨σ', H', I', G', E'⟩ := hq
      exact ⟨σ', H', I', h G' H' σ' E'⟩
    | brk => exact hq
    | cont => exact hq
    | ret u => exact hq⟩
  goes_if hc (fun q => up _ (h1 q)) (fun q => up _ (h2 q))
theorem goes_to {W : Ctx} {rt : VK} {bk ct : L2.St → Hp → Prop} (hb : Z.b = W.b) (hs : SubS Z.sl W.sl) (hc : Z.ce = W.ce) : Goes X [] Z { nx := Nx W, rt := rt, bk := bk, ct := ct } :=
  goes_nil fun G H σ E => ⟨G, E.weak hb hs hc⟩
end
end PL

namespace PL
open PySem PySem.Spec PyProof.Rows L2
noncomputable def Rs.gd {α : Type} (c : Prop) (m : Rs α) : Rs α := @ite _ c (Classical.propDecidable c) m .no
theorem Rs.gd_pos {α : Type} {c : Prop} {m : Rs α} (h : c) : Rs.gd c m = m := by unfold Rs.gd; rw [if_pos h]
theorem Rs.bd_inv {α β : Type} {m : Rs α} {f : α → Rs β} {y : β} (h : m.bd f = .ok y) : ∃ x, m = .ok x ∧ f x = .ok y := by
  cases m with
  | ok a => exact ⟨a, rfl, h⟩
  | ex c => cases h
  | no => cases h
theorem Rs.gd_inv {α : Type} {c : Prop} {m : Rs α} {y : α} (h : Rs.gd c m = .ok y) : c ∧ m = .ok y := by
  by_cases hc : c
  · rw [Rs.gd_pos hc] at h
    exact ⟨hc, h⟩
  · unfold Rs.gd at h
    rw [if_neg hc] at h
    cases h
def lcR {α β : Type} (k : α → Rs Bool) (f : α → Rs β) : List α → Rs (List β)
  | [] => .ok []
  | x :: xs => (k x).bd fun b => if b = true then (f x).bd fun y => (lcR k f xs).bd fun ys => .ok (y :: ys) else lcR k f xs
def foldR {α S : Type} (f : S → α → Rs S) : S → List α → Rs S
  | s, [] => .ok s
  | s, x :: xs => (f s x).bd fun s' => foldR f s' xs
def forX {α S ζ : Type} (f : S → α → Rs (Stp S ζ)) : S → List α → Rs (Stp S ζ)
  | s, [] => .ok (.nxt s)
  | s, x :: xs => (f s x).bd fun o => match o with
    | .nxt s' => forX f s' xs
    | .brk s' => .ok (.brk s')
    | .ret z => .ok (.ret z)
def Stp.fin {S ζ O : Type} (g : S → Rs O) (er : ζ → O) : Stp S ζ → Rs O
  | .nxt s => g s
  | .brk s => g s
  | .ret z => .ok (er z)
def whileR {S : Type} (c : S → Rs Bool) (f : S → Rs S) : Nat → S → Rs S
  | 0, _ => .no
  | n + 1, s => (c s).bd fun b => if b = true then (f s).bd fun s' => whileR c f n s' else .ok s
def ixR {α : Type} (xs : List α) (i : Int) : Rs α := match atI xs i with
  | some x => .ok x
  | none => .no
theorem ixR_inv {α : Type} {xs : List α} {i : Int} {y : α} (h : ixR xs i = .ok y) : atI xs i = some y := by
  unfold ixR at h
  cases e : atI xs i with
  | none => rw [e] at h; cases h
  | some x => rw [e] at h; cases h; rfl
noncomputable def appR {α : Type} (xs : List α) (x : α) : Rs (List α) := .gd (xs.length < 16777216) (.ok (xs ++ [x]))
noncomputable def catR {α : Type} (x y : List α) : Rs (List α) := .gd (x.length + y.length ≤ 16777216) (.ok (x ++ y))
noncomputable def putR {α : Type} (kvs : List (Text × α)) (t : Text) (y : α) : Rs (List (Text × α)) := .gd (kvs.length < 16777216) (.ok (dput kvs t y))
def sgnR (x : Text) (i : Int) : Rs Text := (ixR x i).bd fun c => .ok [c]
noncomputable def sinR (t y : Text) : Rs Bool := .gd (t.length = 1) (.ok (decide (t.headD 0 ∈ y)))
noncomputable def mulR (i j : Int) : Rs Int := .gd (IntMulOk i j) (.ok (i * j))
noncomputable def modR (i j : Int) : Rs Int := .gd (0 < j) (.ok (i % j))
noncomputable def divR (i j : Int) : Rs Int := .gd (CDivZ i j) (.ok (i.fdiv j))
noncomputable def rngR (n : Int) : Rs (List Int) := .gd (-(2 ^ 62) ≤ n ∧ n ≤ 16777216) (.ok (rngL 0 n.toNat))
def dgetR {α : Type} (kvs : List (Text × α)) (t : Text) : Rs α := match dget kvs t with
  | some x => .ok x
  | none => .no
section
variable {α β S ζ O : Type}
theorem mapR_ok {f : α → Rs β} {g : α → β} : ∀ {xs : List α}, (∀ x ∈ xs, f x = .ok (g x)) → mapR f xs = .ok (xs.map g)
  | [], _ => rfl
  | x :: xs, h => by
    unfold mapR
    rw [h x (List.mem_cons_self ..), mapR_ok fun y hy => h y (List.mem_cons_of_mem _ hy)]
    rfl
theorem lcR_ok {k : α → Rs Bool} {f : α → Rs β} {k' : α → Bool} {g : α → β} : ∀ {xs : List α}, (∀ x ∈ xs, k x = .ok (k' x)) → (∀ x ∈ xs, k' x = true → f x = .ok (g x)) → lcR k f xs = .ok ((xs.filter k').map g)
  | [], _, _ => rfl
  | x :: xs, h, h2 => by
    unfold lcR
    have ih := lcR_ok (xs := xs) (fun y hy => h y (List.mem_cons_of_mem _ hy)) fun y hy => h2 y (List.mem_cons_of_mem _ hy)
    rw [h x (List.mem_cons_self ..), Rs.bd_ok]
    cases e : k' x with
    | true => rw [if_pos rfl, h2 x (List.mem_cons_self ..) e, ih, List.filter_cons_of_pos e]; rfl
    | false => rw [if_neg Bool.false_ne_true, ih, List.filter_cons_of_neg (by rw [e]; exact Bool.false_ne_true)]
theorem foldR_app (f : S → α → Rs S) : ∀ (s : S) (xs ys : List α), foldR f s (xs ++ ys) = (foldR f s xs).bd fun s' => foldR f s' ys
  | s, [], ys => rfl
  | s, x :: xs, ys => by
    show (f s x).bd (fun s' => foldR f s' (xs ++ ys)) = ((f s x).bd fun s' => foldR f s' xs).bd _
    rw [Rs.bd_as]
    cases f s x with
    | ok a => exact foldR_app f a xs ys
    | ex c => rfl
    | no => rfl
theorem foldR_inv {f : S → α → Rs S} {xs : List α} {s0 : S} (I : Nat → S → Prop) (h0 : I 0 s0) (hs : ∀ i x s, xs[i]? = some x → I i s → ∃ s', f s x = .ok s' ∧ I (i + 1) s') : ∃ s, foldR f s0 xs = .ok s ∧ I xs.length s := by
  induction xs generalizing s0 I with
  | nil => exact ⟨s0, rfl, h0⟩
  | cons x xs ih =>
    obtain ⟨s1, e1, i1⟩ := hs 0 x s0 rfl h0
    obtain ⟨s, e, i⟩ := ih (s0 := s1) (fun n => I (n + 1)) i1 fun i y s hy => hs (i + 1) y s (by simpa using hy)
    exact ⟨s, by unfold foldR; rw [e1]; exact e, i⟩
theorem whileR_inv {c : S → Rs Bool} {f : S → Rs S} (I : S → Prop) (μ : S → Nat) (hs : ∀ s, I s → ∃ b, c s = .ok b ∧ (b = true → ∃ s', f s = .ok s' ∧ I s' ∧ μ s' < μ s)) : ∀ (n : Nat) (s : S), I s → μ s < n → ∃ s', whileR c f n s = .ok s' ∧ I s' ∧ c s' = .ok false := by
  intro n
  induction n with
  | zero => intro s _ h; omega
  | succ n ih =>
    intro s hI hn
    obtain ⟨b, e, h⟩ := hs s hI
    unfold whileR
    rw [e, Rs.bd_ok]
    cases b with
    | false => exact ⟨s, rfl, hI, e⟩
    | true =>
      obtain ⟨s', e', hI', hm⟩ := h rfl
      rw [if_pos rfl, e']
      exact ih s' hI' (by omega)
end
section
variable {X : Cx} {Z : PL.Ctx} {α β γ S ζ O : Type} {r : Rel α} {s : Rel β} {x : α} {pos p : Pos} {a b c e tg elt : Expr} {es : List Expr} {D : O → Ends} {body rest : List Stmt} {n : Str} {k : Nat}
def EvM (X : Cx) (e : Expr) (Z : PL.Ctx) {α : Type} (r : Rel α) (m : Rs α) : Prop := ∀ x, m = .ok x → EvE X e Z r x
def EvTM (X : Cx) (e : Expr) (Z : PL.Ctx) (m : Rs Bool) : Prop := ∀ x, m = .ok x → EvT X e Z x
def EvWM (X : Cx) (e : Expr) (Z : PL.Ctx) (m : Rs Bool) : Prop := ∀ x, m = .ok x → EvW X e Z x
def EvFM (X : Cx) (e : Expr) (Z : PL.Ctx) {α : Type} (r : Rel α) (m : Rs (List α)) : Prop := ∀ x, m = .ok x → EvF X e Z r x
def EvIM (X : Cx) (tg e : Expr) (Z : PL.Ctx) {α : Type} (r : Rel α) (m : Rs (List α)) : Prop := ∀ x, m = .ok x → EvI X tg e Z r x
def GM {O : Type} (X : Cx) (body : List Stmt) (Z : PL.Ctx) (D : O → Ends) (m : Rs O) : Prop := ∀ o, m = .ok o → Goes X body Z (D o)
theorem em_ok (h : EvE X e Z r x) : EvM X e Z r (.ok x) := fun y q => by cases q; exact h
theorem etm_ok {k : Bool} (h : EvT X e Z k) : EvTM X e Z (.ok k) := fun y q => by cases q; exact h
theorem efm_ok {xs : List α} (h : EvF X e Z r xs) : EvFM X e Z r (.ok xs) := fun y q => by cases q; exact h
theorem eim_ok {xs : List α} (h : EvI X tg e Z r xs) : EvIM X tg e Z r (.ok xs) := fun y q => by cases q; exact h
theorem em_f {m : Rs (List α)} (h : EvFM X e Z r m) : EvM X e Z (rL X.K r) m := fun y q => ev_f (h y q)
theorem em_bd {m : Rs α} {f : α → Rs β} (hm : EvM X a Z r m) (h : ∀ x, EvE X a Z r x → EvM X e Z s (f x)) : EvM X e Z s (m.bd f) := fun y q => let ⟨x, h1, h2⟩ := Rs.bd_inv q; h x (hm x h1) y h2
theorem em_gd {cd : Prop} {m : Rs β} (h : cd → EvM X e Z s m) : EvM X e Z s (.gd cd m) := fun y q => let ⟨h1, h2⟩ := Rs.gd_inv q; h h1 y h2
theorem etm_bd {m : Rs α} {f : α → Rs Bool} (hm : EvM X a Z r m) (h : ∀ x, EvE X a Z r x → EvTM X e Z (f x)) : EvTM X e Z (m.bd f) := fun y q => let ⟨x, h1, h2⟩ := Rs.bd_inv q; h x (hm x h1) y h2
theorem efm_gd {cd : Prop} {m : Rs (List β)} (h : cd → EvFM X e Z s m) : EvFM X e Z s (.gd cd m) := fun y q => let ⟨h1, h2⟩ := Rs.gd_inv q; h h1 y h2
theorem eim_bd {m : Rs α} {f : α → Rs (List β)} (hm : EvM X a Z r m) (h : ∀ x, EvE X a Z r x → EvIM X tg e Z s (f x)) : EvIM X tg e Z s (m.bd f) := fun y q => let ⟨x, h1, h2⟩ := Rs.bd_inv q; h x (hm x h1) y h2
theorem eim_gd {cd : Prop} {m : Rs (List β)} (h : cd → EvIM X tg e Z s m) : EvIM X tg e Z s (.gd cd m) := fun y q => let ⟨h1, h2⟩ := Rs.gd_inv q; h h1 y h2
theorem em_and {m n : Rs Bool} (ha : EvM X a Z rB m) (hb : EvM X (.BoolOp .And (b :: es) pos) Z rB n) : EvM X (.BoolOp .And (a :: b :: es) pos) Z rB (m.bd fun k => if k = true then n else .ok false) := fun y q => by
  obtain ⟨k, h1, h2⟩ := Rs.bd_inv q
  cases k with
  | false => cases h2; exact ev_cast (ev_and (l := false) (ha false h1) fun z => by cases z) rfl
  | true => exact ev_cast (ev_and (l := y) (ha true h1) fun _ => hb y h2) (by cases y <;> rfl)
theorem em_one {op} {m : Rs α} (h : EvM X a Z r m) : EvM X (.BoolOp op [a] pos) Z r m := fun y q => ev_one (h y q)
theorem ewm_or {m n : Rs Bool} (ha : EvTM X a Z m) (hb : EvWM X (.BoolOp .Or (b :: es) pos) Z n) : EvWM X (.BoolOp .Or (a :: b :: es) pos) Z (m.bd fun k => if k = true then .ok true else n) := fun y q => by
  obtain ⟨k, h1, h2⟩ := Rs.bd_inv q
  cases k with
  | true => cases h2; exact ew_or (l := false) (ha true h1) fun z => by cases z
  | false => exact (show (false || y) = y by cases y <;> rfl) ▸ ew_or (l := y) (ha false h1) fun _ => hb y h2
theorem ewm_or1 {m : Rs Bool} (h : EvTM X a Z m) : EvWM X (.BoolOp .Or [a] pos) Z m := fun y q => ew_or1 (h y q)
theorem etm_w {m : Rs Bool} (h : EvWM X e Z m) : EvTM X e Z m := fun y q => ev_w (h y q)
theorem em_if {k : Bool} {m1 m2 : Rs α} (h : EvT X c Z k) (h1 : EvM X a Z r m1) (h2 : EvM X b Z r m2) : EvM X (.IfExp c a b pos) Z r (if k = true then m1 else m2) := fun y q => by
  cases k with
  | true => exact ev_cast (ev_if (y := y) (z := y) h (fun _ => h1 y q) fun z => by cases z) rfl
  | false => exact ev_cast (ev_if (y := y) (z := y) h (fun z => by cases z) fun _ => h2 y q) rfl
theorem gm_run {o : O} {m : Rs O} (h : GM X body Z D m) (q : m = .ok o) : Goes X body Z (D o) := h o q
theorem gm_no : GM X body Z D .no := fun y q => by cases q
variable {m m1 m2 : Rs O}
theorem gm_setF (i : Nat) {p' : Pos} {xs : List α} (nd : X.N.Nodup) (he : EvF X e Z r xs) (h : ∀ o, GM X rest ⟨Z.b, Z.sl.set i (.val rRef o), .lst o r xs :: Z.ce⟩ D m) (hi : X.N[i]? = some n := by rfl) (hx : Loc X.env.scope n := by first | exact Or.inl rfl | exact Or.inr rfl)
    (hs : swapsWith e (some (.Name n p')) pos.line X.env = pure false := by rfl) (hf : X.fn n = true ∨ X.env.scope.names.lookup n = some .local := by first | exact .inl rfl | exact .inr rfl | assumption) : GM X (.Assign [.Name n p'] e pos :: rest) Z D m := fun o q => goes_setF i nd he (fun l => h l o q) hi hx hs hf
theorem gm_frz (i j : Nat) {o : Addr} {xs : List α} (hz : Z.sl[i]? = some (.val rRef o)) (hj : Z.ce[j]? = some (.lst o r xs)) (h : GM X body ⟨Z.b, Z.sl.set i (.val (rL X.K r) xs), Z.ce.eraseIdx j⟩ D m) : GM X body Z D m := fun o q => goes_frz i j hz hj (h o q)
abbrev DB (X : Cx) (rest : List Stmt) (D : O → Ends) : O → Ends := fun o => { D o with nx := wSs X rest (D o) }
theorem gm_if {th el : List Stmt} {k : Bool} (hc : EvT X c Z k) (h1 : GM X th Z (DB X rest D) m1) (h2 : GM X el Z (DB X rest D) m2) : GM X (.If c th el pos :: rest) Z D (if k = true then m1 else m2) := fun o q => by
  cases k with
  | true => exact goes_if hc (fun _ => h1 o q) fun z => by cases z
  | false => exact goes_if hc (fun z => by cases z) fun _ => h2 o q
theorem gm_on (h : GM X rest Z D m) : GM X [] Z (DB X rest D) m := fun o q => goes_on (h o q)
abbrev DN (Zs : S → PL.Ctx) : S → Ends := fun s => { nx := Nx (Zs s), rt := fun _ _ => False }
theorem gm_to {Zs : S → PL.Ctx} (s : S) (hb : Z.b = (Zs s).b) (hs : SubS Z.sl (Zs s).sl) (hc : Z.ce = (Zs s).ce) : GM X [] Z (DN Zs) (.ok s) := fun o q => by cases q; exact goes_to hb hs hc
theorem gm_ifJ {th el : List Stmt} {k : Bool} {m1 m2 : Rs S} {g : S → Rs O} (Zs : S → PL.Ctx) (hc : EvT X c Z k) (h1 : GM X th Z (DN Zs) m1) (h2 : GM X el Z (DN Zs) m2) (h : ∀ s, GM X rest (Zs s) D (g s)) : GM X (.If c th el pos :: rest) Z D ((if k = true then m1 else m2).bd g) := fun o q => by
  obtain ⟨s, q1, q2⟩ := Rs.bd_inv q
  have up : ∀ body, Goes X body Z { nx := Nx (Zs s), rt := fun _ _ => False } → Goes X body Z { D o with nx := Nx (Zs s) } := fun body hb G H σ E => ⟨fun pins s0 I => by
    refine thn ((hb G H σ E).run pins s0 I) fun fl s1 hq => ?_
    cases fl with
    | next => exact hq
    | brk => obtain ⟨_, _, _, hq⟩ := hq; exact hq.elim
    | cont => obtain ⟨_, _, _, hq⟩ := hq; exact hq.elim
    | ret u => obtain ⟨_, _, _, _, _, hq⟩ := hq; exact hq.elim⟩
  cases k with
  | true => exact goes_ifJ (Zs s) hc (fun _ => up _ (h1 s q1)) (fun z => by cases z) (h s o q2)
  | false => exact goes_ifJ (Zs s) hc (fun z => by cases z) (fun _ => up _ (h2 s q1)) (h s o q2)
theorem gm_ret {o : O} (he : EvE X e Z r x) (hrt : (D o).rt = Rt Z.b.G0 Z.b.H0 (fun G v => r.rd G v x) := by rfl) : GM X (.Return (some e) pos :: rest) Z D (.ok o) := fun o' q => by
  cases q
  exact goes_ret he fun G H v σ E h => by rw [hrt]; exact ⟨G, E.ex, h⟩
theorem gm_retF {o : O} {xs : List α} (he : EvF X e Z r xs) (hrt : (D o).rt = RtF Z.b.G0 Z.b.H0 r xs := by rfl) : GM X (.Return (some e) pos :: rest) Z D (.ok o) := fun o' q => by
  cases q
  exact goes_of (ps_ret ce) fun G H σ E => he G H σ _ E fun G1 H1 l us e1 q1 q2 q3 q4 q5 => by
    have E1 := E.ext e1
    rw [hrt]
    exact ⟨G1, l, us, rfl, E1.ex, E.ex.h.free q1, q2, q3, q4, q5⟩
theorem gm_retC (i j : Nat) {o : O} {l : Addr} {xs : List α} (hz : Z.sl[i]? = some (.val rRef l)) (hj : Z.ce[j]? = some (.lst l r xs)) (hrt : (D o).rt = RtF Z.b.G0 Z.b.H0 r xs := by rfl)
    (hN : X.N[i]? = some n := by rfl) (hv : Vis X.env.scope n := by first | exact Or.inl rfl | exact Or.inr (Or.inl rfl) | exact Or.inr (Or.inr rfl)) (hd : (n == ("__debug__" : Str)) = false := by decide) (hcd : (n == ("__classdict__" : Str)) = false := by decide) :
    GM X (.Return (some (.Name n p)) pos :: rest) Z D (.ok o) := fun o' q => by
  cases q
  exact goes_of (ps_ret (pe_var hN hv hd hcd)) fun G H σ E => by
    obtain ⟨v, g1, g2⟩ := E.get hz
    obtain rfl : v = .ref l := g2
    obtain ⟨c0, cG, vs, cH, cP, cL⟩ := Cell.ok_lst (E.ce _ (List.mem_of_getElem? hj))
    rw [hrt]
    exact ⟨.ref l, g1, G, l, vs, rfl, E.ex, c0, cG, cH, cP, cL⟩
theorem gm_end {o : O} (hnx : (D o).nx = fun _ H' => Rt Z.b.G0 Z.b.H0 (fun _ v => v = .non) .non H' := by rfl) : GM X [] Z D (.ok o) := fun o' q => by
  cases q
  exact goes_nil fun G H σ E => by rw [hnx]; exact ⟨G, E.ex, rfl⟩
theorem gm_append (i j : Nat) {o : Addr} {xs : List α} {f : List α → Rs O} {px pa pc : Pos} (he : EvE X e Z r x) (hz : Z.sl[i]? = some (.val rRef o)) (hj : Z.ce[j]? = some (.lst o r xs))
    (h : ∀ ys, GM X rest (Z.setC (Z.ce.set j (.lst o r ys))) D (f ys)) (hN : X.N[i]? = some n := by rfl) (hv : Vis X.env.scope n := by first | exact Or.inl rfl | exact Or.inr (Or.inl rfl) | exact Or.inr (Or.inr rfl))
    (hbase : attributeBase (.Name n px) "append" X.env (eval (.Name n px) X.env) = eval (.Name n px) X.env := by rfl)
    (hfew : ((backTo pc (starEach [e] X.env)).all (fun x => !x.1) && (backToKw pc (keywordEach [] X.env)).all (fun x => x.1.isSome) && decide ([e].length + ([] : List Keyword).length + (if ([] : List Keyword).isEmpty then 0 else 1) < 30)) = true := by rfl)
    (hline : (pa.endLine == pc.line) = true := by rfl) (hs : starEach [e] X.env = (false, eval e X.env) :: starEach [] X.env := by rfl) (hplain : (backTo pc (starEach [] X.env)).any (·.1) = false := by rfl)
    (hsw : swapsWith (.Call (.Attribute (.Name n px) "append" pa) [e] [] pc) none pos.line X.env = pure false := by rfl)
    (hd : (n == ("__debug__" : Str)) = false := by decide) (hcd : (n == ("__classdict__" : Str)) = false := by decide) : GM X (.Expr (.Call (.Attribute (.Name n px) "append" pa) [e] [] pc) pos :: rest) Z D ((appR xs x).bd f) := fun o' q => by
  obtain ⟨ys, q1, q2⟩ := Rs.bd_inv q
  obtain ⟨hl, q1⟩ := Rs.gd_inv q1
  cases q1
  exact goes_append i j (ea_cons he ea_nil hs) hz hj (by rw [sizeLine_eq]; exact hl) (h _ o' q2) hN hv hbase hfew hline hs hplain hsw hd hcd
abbrev NU (W : PL.Ctx) (B : Hp) : L2.St → Hp → Prop := fun σ H => ∃ G, Env (W.up B) G H σ
abbrev DF (Zs : S → PL.Ctx) (B : Hp) : S → Ends := fun s => { nx := NU (Zs s) B, rt := fun _ _ => False, ct := NU (Zs s) B }
theorem gm_next {Zs : S → PL.Ctx} {B : Hp} (s : S) (hb : Z.b = ((Zs s).up B).b) (hs : SubS Z.sl (Zs s).sl) (hc : Z.ce = (Zs s).ce) : GM X [] Z (DF Zs B) (.ok s) := fun o q => by
  cases q
  exact goes_nil fun G H σ E => ⟨G, E.weak hb hs hc⟩
theorem goes_mono {D D' : Ends} (h : Goes X body Z D) (h1 : ∀ σ H, D.nx σ H → D'.nx σ H) (h2 : ∀ v H, D.rt v H → D'.rt v H) (h3 : ∀ σ H, D.bk σ H → D'.bk σ H) (h4 : ∀ σ H, D.ct σ H → D'.ct σ H) : Goes X body Z D' := fun G H σ E => ⟨fun pins s I => by
  refine thn ((h G H σ E).run pins s I) fun fl s1 hq => ?_
  cases fl with
  | next => obtain ⟨σ', H', I', hq⟩ := hq; exact ⟨σ', H', I', h1 _ _ hq⟩
  | brk => obtain ⟨σ', H', I', hq⟩ := hq; exact ⟨σ', H', I', h3 _ _ hq⟩
  | cont => obtain ⟨σ', H', I', hq⟩ := hq; exact ⟨σ', H', I', h4 _ _ hq⟩
  | ret u => obtain ⟨v, σ', H', I', rv, hq⟩ := hq; exact ⟨v, σ', H', I', rv, h2 _ _ hq⟩⟩
theorem foldR_drop {f : S → α → Rs S} {xs : List α} {i : Nat} {x : α} {s t : S} (hx : xs[i]? = some x) (h : foldR f s (xs.drop i) = .ok t) : ∃ s', f s x = .ok s' ∧ foldR f s' (xs.drop (i + 1)) = .ok t := by
  have hi := (List.getElem?_eq_some_iff.mp hx).1
  rw [List.drop_eq_getElem_cons hi, (List.getElem?_eq_some_iff.mp hx).2] at h
  exact Rs.bd_inv h
theorem gm_for {xs : List α} {f : S → α → Rs S} {g : S → Rs O} (Zs : S → PL.Ctx) (s0 : S) (hc : X.calm = true) (hp : PassesOwn (model X.prog X.w) X.A X.env X.xe) (src : EvI X tg e Z r xs) (hb0 : Z.b = (Zs s0).b) (hs0 : SubS Z.sl (Zs s0).sl) (hc0 : Z.ce = (Zs s0).ce)
    (turn : ∀ (B : Hp) (x : α) (s : S), ∃ Z', EvG X tg r x ((Zs s).up B) Z' ∧ GM X body Z' (DF Zs B) (f s x)) (after : ∀ s, GM X rest (Zs s) D (g s))
    (hs : ∀ x, foldedSetIterable e X.env x = pure x := by intro _; rfl) : GM X (.For tg e body [] pos :: rest) Z D ((foldR f s0 xs).bd g) := fun o q => by
  obtain ⟨t, q1, q2⟩ := Rs.bd_inv q
  refine goes_for Zs (fun i s => foldR f s (xs.drop i) = .ok t) s0 hc hp src q1 hb0 hs0 hc0 (fun B i x s hx hI => ?_) (fun s hI => ?_) hs
  · obtain ⟨s', h1, h2⟩ := foldR_drop hx hI
    obtain ⟨Z', g1, g2⟩ := turn B x s
    exact ⟨Z', g1, goes_mono (g2 s' h1) (fun σ H ⟨G, E⟩ => ⟨s', G, h2, E⟩) (fun _ _ z => z.elim) (fun _ _ z => z.elim) fun σ H ⟨G, E⟩ => ⟨s', G, h2, E⟩⟩
  · rw [List.drop_length] at hI
    cases hI
    exact after _ o q2
def DX (Zs : S → PL.Ctx) (B : Hp) (D : O → Ends) (er : ζ → O) : Stp S ζ → Ends
  | .nxt s => { nx := NU (Zs s) B, rt := fun _ _ => False, ct := NU (Zs s) B }
  | .brk s => { nx := fun _ _ => False, rt := fun _ _ => False, bk := NU (Zs s) B }
  | .ret z => { nx := fun _ _ => False, rt := (D (er z)).rt }
theorem gm_nextX {Zs : S → PL.Ctx} {B : Hp} {D : O → Ends} {er : ζ → O} (s : S) (hb : Z.b = ((Zs s).up B).b) (hs : SubS Z.sl (Zs s).sl) (hc : Z.ce = (Zs s).ce) : GM X [] Z (DX Zs B D er) (.ok (.nxt s)) := fun o q => by
  cases q
  exact goes_nil fun G H σ E => ⟨G, E.weak hb hs hc⟩
theorem forX_drop {f : S → α → Rs (Stp S ζ)} {xs : List α} {i : Nat} {x : α} {s : S} {t : Stp S ζ} (hx : xs[i]? = some x) (h : forX f s (xs.drop i) = .ok t) : ∃ o, f s x = .ok o ∧ ((∃ s', o = .nxt s' ∧ forX f s' (xs.drop (i + 1)) = .ok t) ∨ (∃ s', o = .brk s' ∧ t = .brk s') ∨ ∃ z, o = .ret z ∧ t = .ret z) := by
  have hi := (List.getElem?_eq_some_iff.mp hx).1
  rw [List.drop_eq_getElem_cons hi, (List.getElem?_eq_some_iff.mp hx).2] at h
  obtain ⟨o, h1, h2⟩ := Rs.bd_inv h
  refine ⟨o, h1, ?_⟩
  cases o with
  | nxt s' => exact .inl ⟨s', rfl, h2⟩
  | brk s' => cases h2; exact .inr (.inl ⟨s', rfl, rfl⟩)
  | ret z => cases h2; exact .inr (.inr ⟨z, rfl, rfl⟩)
theorem gm_forX {xs : List α} {f : S → α → Rs (Stp S ζ)} {g : S → Rs O} (er : ζ → O) (Zs : S → PL.Ctx) (s0 : S) (hc : X.calm = true) (hp : PassesOwn (model X.prog X.w) X.A X.env X.xe) (src : EvI X tg e Z r xs) (hb0 : Z.b = (Zs s0).b) (hs0 : SubS Z.sl (Zs s0).sl) (hc0 : Z.ce = (Zs s0).ce)
    (turn : ∀ (B : Hp) (x : α) (s : S), ∃ Z', EvG X tg r x ((Zs s).up B) Z' ∧ GM X body Z' (DX Zs B D er) (f s x)) (after : ∀ s, GM X rest (Zs s) D (g s))
    (hs : ∀ x, foldedSetIterable e X.env x = pure x := by intro _; rfl) : GM X (.For tg e body [] pos :: rest) Z D ((forX f s0 xs).bd (Stp.fin g er)) := fun o q => by
  obtain ⟨t, q1, q2⟩ := Rs.bd_inv q
  refine goes_for Zs (fun i s => forX f s (xs.drop i) = .ok t) s0 hc hp src q1 hb0 hs0 hc0 (fun B i x s hx hI => ?_) (fun s hI => ?_) hs
  · obtain ⟨o1, h1, h2⟩ := forX_drop hx hI
    obtain ⟨Z', g1, g2⟩ := turn B x s
    refine ⟨Z', g1, ?_⟩
    rcases h2 with ⟨s', rfl, h2⟩ | ⟨s', rfl, rfl⟩ | ⟨z, rfl, rfl⟩
    · exact goes_mono (g2 _ h1) (fun σ H ⟨G, E⟩ => ⟨s', G, h2, E⟩) (fun _ _ z => z.elim) (fun _ _ z => z.elim) fun σ H ⟨G, E⟩ => ⟨s', G, h2, E⟩
    · exact goes_mono (g2 _ h1) (fun _ _ z => z.elim) (fun _ _ z => z.elim) (fun σ H ⟨G, E⟩ => after s' o q2 G H σ E.dn) fun _ _ z => z.elim
    · cases q2
      exact goes_mono (g2 _ h1) (fun _ _ z => z.elim) (fun _ _ z => z) (fun _ _ z => z.elim) fun _ _ z => z.elim
  · rw [List.drop_length] at hI
    cases hI
    exact after s o q2
abbrev DW (Zs : S → PL.Ctx) : S → Ends := fun s => { nx := Nx (Zs s), rt := fun _ _ => False, ct := Nx (Zs s) }
theorem gm_again {Zs : S → PL.Ctx} (s : S) (hb : Z.b = (Zs s).b) (hs : SubS Z.sl (Zs s).sl) (hc : Z.ce = (Zs s).ce) : GM X [] Z (DW Zs) (.ok s) := fun o q => by
  cases q
  exact goes_nil fun G H σ E => ⟨G, E.weak hb hs hc⟩
theorem whileR_one {f : S → Rs S} {k : S → Rs Bool} {n : Nat} {s t : S} (h : whileR k f n s = .ok t) : ∃ m b, n = m + 1 ∧ k s = .ok b ∧ (b = true → ∃ s', f s = .ok s' ∧ whileR k f m s' = .ok t) ∧ (b = false → s = t) := by
  cases n with
  | zero => cases h
  | succ n =>
    unfold whileR at h
    obtain ⟨b, h1, h2⟩ := Rs.bd_inv h
    refine ⟨n, b, rfl, h1, fun z => ?_, fun z => ?_⟩
    · subst z
      exact Rs.bd_inv h2
    · subst z
      cases h2
      rfl
theorem gm_while {f : S → Rs S} {k : S → Rs Bool} {g : S → Rs O} {fl : Nat} (Zs : S → PL.Ctx) (s0 : S) (hp : PassesOwn (model X.prog X.w) X.A X.env X.xe) (hb0 : Z.b = (Zs s0).b) (hs0 : SubS Z.sl (Zs s0).sl) (hc0 : Z.ce = (Zs s0).ce)
    (test : ∀ s, EvTM X c (Zs s) (k s)) (turn : ∀ s, GM X body (Zs s) (DW Zs) (f s)) (after : ∀ s, GM X rest (Zs s) D (g s)) : GM X (.While c body [] pos :: rest) Z D ((whileR k f fl s0).bd g) := fun o q => by
  obtain ⟨t, q1, q2⟩ := Rs.bd_inv q
  refine goes_while (S := S × Nat) (fun s => Zs s.1) (fun s => whileR k f s.2 s.1 = .ok t) (fun s => s.2) (fun s => match k s.1 with | .ok b => b | _ => false) (s0, fl) hp q1 hb0 hs0 hc0 (fun s hI => ?_) (fun s hI hk => ?_) (fun s hI hk => ?_)
  · obtain ⟨m, b, h0, h1, h2, h3⟩ := whileR_one hI
    rw [h1]
    exact test s.1 b h1
  · obtain ⟨m, b, h0, h1, h2, h3⟩ := whileR_one hI
    rw [h1] at hk
    obtain ⟨s', h4, h5⟩ := h2 hk
    have hm : m < s.2 := by omega
    exact goes_mono (turn s.1 s' h4) (fun σ H ⟨G, E⟩ => ⟨(s', m), G, h5, hm, E⟩) (fun _ _ z => z.elim) (fun _ _ z => z.elim) fun σ H ⟨G, E⟩ => ⟨(s', m), G, h5, hm, E⟩
  · obtain ⟨m, b, h0, h1, h2, h3⟩ := whileR_one hI
    rw [h1] at hk
    rw [h3 hk]
    exact after _ o q2
end
end PL

namespace PL
open PySem PySem.Spec PyProof.Rows L2
def M1 {ζ : Type} {α1 : Type} (r1 : Rel α1) (rz : Rel ζ) (f : α1 → Rs ζ) : List Slot → (Hp → V → Prop) → Prop := fun ss R => ∃ x1 z, ss = [.val r1 x1] ∧ f x1 = .ok z ∧ R = fun G v => rz.rd G v z
def N1 {ζ : Type} {α1 : Type} (r1 : Rel α1) (f : α1 → Rs (List ζ)) : List Slot → List ζ → Prop := fun ss z => ∃ x1, ss = [.val r1 x1] ∧ f x1 = .ok z
def I1 {ζ : Type} {α1 : Type} (r1 : Rel α1) (fs : ζ → List (Str × Slot)) (f : α1 → Rs ζ) : List Slot → List (Str × Slot) → Prop := fun ss q => ∃ x1 z, ss = [.val r1 x1] ∧ f x1 = .ok z ∧ q = fs z
def M2 {ζ : Type} {α1 : Type} {α2 : Type} (r1 : Rel α1) (r2 : Rel α2) (rz : Rel ζ) (f : α1 → α2 → Rs ζ) : List Slot → (Hp → V → Prop) → Prop := fun ss R => ∃ x1 x2 z, ss = [.val r1 x1, .val r2 x2] ∧ f x1 x2 = .ok z ∧ R = fun G v => rz.rd G v z
def I2 {ζ : Type} {α1 : Type} {α2 : Type} (r1 : Rel α1) (r2 : Rel α2) (fs : ζ → List (Str × Slot)) (f : α1 → α2 → Rs ζ) : List Slot → List (Str × Slot) → Prop := fun ss q => ∃ x1 x2 z, ss = [.val r1 x1, .val r2 x2] ∧ f x1 x2 = .ok z ∧ q = fs z
def M3 {ζ : Type} {α1 : Type} {α2 : Type} {α3 : Type} (r1 : Rel α1) (r2 : Rel α2) (r3 : Rel α3) (rz : Rel ζ) (f : α1 → α2 → α3 → Rs ζ) : List Slot → (Hp → V → Prop) → Prop := fun ss R => ∃ x1 x2 x3 z, ss = [.val r1 x1, .val r2 x2, .val r3 x3] ∧ f x1 x2 x3 = .ok z ∧ R = fun G v => rz.rd G v z
def I3 {ζ : Type} {α1 : Type} {α2 : Type} {α3 : Type} (r1 : Rel α1) (r2 : Rel α2) (r3 : Rel α3) (fs : ζ → List (Str × Slot)) (f : α1 → α2 → α3 → Rs ζ) : List Slot → List (Str × Slot) → Prop := fun ss q => ∃ x1 x2 x3 z, ss = [.val r1 x1, .val r2 x2, .val r3 x3] ∧ f x1 x2 x3 = .ok z ∧ q = fs z
def M4 {ζ : Type} {α1 : Type} {α2 : Type} {α3 : Type} {α4 : Type} (r1 : Rel α1) (r2 : Rel α2) (r3 : Rel α3) (r4 : Rel α4) (rz : Rel ζ) (f : α1 → α2 → α3 → α4 → Rs ζ) : List Slot → (Hp → V → Prop) → Prop := fun ss R => ∃ x1 x2 x3 x4 z, ss = [.val r1 x1, .val r2 x2, .val r3 x3, .val r4 x4] ∧ f x1 x2 x3 x4 = .ok z ∧ R = fun G v => rz.rd G v z
section
variable {X : Cx} {Z : PL.Ctx} {α β γ S ζ O : Type} {r : Rel α} {s : Rel β} {x : α} {pos p p2 : Pos} {a b c e tg elt d : Expr} {es : List Expr} {D : O → Ends} {body rest : List Stmt} {n : Str} {k : Nat} {i j : Int} {xs ys : List α} {t u : Text}
theorem em_mul (ha : EvE X a Z rI i) (hb : EvE X b Z rI j) : EvM X (.BinOp a .Mult b pos) Z rI (mulR i j) := em_gd fun h => em_ok (ev_mulG ha hb h)
theorem em_mod (ha : EvE X a Z rI i) (hb : EvE X b Z rI j) : EvM X (.BinOp a .Mod b pos) Z rI (modR i j) := em_gd fun h => em_ok (ev_mod ha hb h)
theorem em_div (ha : EvE X a Z rI i) (hb : EvE X b Z rI j) : EvM X (.BinOp a .FloorDiv b pos) Z rI (divR i j) := em_gd fun h => em_ok (ev_fdivZ ha hb h)
theorem em_cat (ha : EvE X a Z rC t) (hb : EvE X b Z rC u) : EvM X (.BinOp a .Add b pos) Z rC (catR t u) := em_gd fun h => em_ok (ev_cat ha hb (by rw [sizeLine_eq]; exact h))
theorem efm_cat (ha : EvE X a Z (rL X.K r) xs) (hb : EvE X b Z (rL X.K r) ys) : EvFM X (.BinOp a .Add b pos) Z r (catR xs ys) := efm_gd fun h => efm_ok (ef_cat ha hb (by rw [sizeLine_eq]; exact h))
theorem em_ixL (ha : EvE X a Z (rL X.K r) xs) (hb : EvE X b Z rI i) (hs : PlainIx b := by exact fun _ _ => rfl) : EvM X (.Subscript a b pos) Z r (ixR xs i) := fun y q => by
  have q := ixR_inv q
  exact ev2 (pe_ix ix_list ce ce hs) ha hb fun G H v w Q s h1 h2 k => by
    obtain ⟨l, us, rfl, h3, h4, _⟩ := h1
    unfold atI at q
    cases e : ixN xs.length i with
    | none => rw [e] at q; cases q
    | some j =>
      rw [e] at q
      obtain ⟨u, h5, h6⟩ := pget' h4 q
      exact ⟨l, us, i, u, rfl, h2, s.seq h3, by unfold atI; rw [plen h4, e]; exact h5, k G H _ (.refl s) h6⟩
theorem em_ixTL (ha : EvE X a Z (rTL X.K r) xs) (hb : EvE X b Z rI i) (hs : PlainIx b := by exact fun _ _ => rfl) : EvM X (.Subscript a b pos) Z r (ixR xs i) := fun y q => by
  have q := ixR_inv q
  exact ev2 (pe_ix ix_tup ce ce hs) ha hb fun G H v w Q s h1 h2 k => by
    obtain ⟨l, us, rfl, h3, h4, _⟩ := h1
    unfold atI at q
    cases e : ixN xs.length i with
    | none => rw [e] at q; cases q
    | some j =>
      rw [e] at q
      obtain ⟨u, h5, h6⟩ := pget' h4 q
      exact ⟨l, us, i, u, rfl, h2, s.seqT h3, by unfold atI; rw [plen h4, e]; exact h5, k G H _ (.refl s) h6⟩
theorem em_ixC (ha : EvE X a Z rC t) (hb : EvE X b Z rI i) (hs : PlainIx b := by exact fun _ _ => rfl) : EvM X (.Subscript a b pos) Z rC (sgnR t i) := fun y q => by
  obtain ⟨c, h1, h2⟩ := Rs.bd_inv q
  cases h2
  exact ev_ixC ha hb (ixR_inv h1) hs
def CmpM (X : Cx) (op : CmpOp) (a b : Expr) (Z : PL.Ctx) (m : Rs Bool) : Prop := ∀ k, m = .ok k → CmpE X op a b Z k
theorem em_c {op : CmpOp} {m : Rs Bool} (h : CmpM X op a b Z m) : EvM X (.Compare a [op] [b] pos) Z rB m := fun y q => ev_c (h y q)
theorem etm_c {op : CmpOp} {m : Rs Bool} (h : CmpM X op a b Z m) : EvTM X (.Compare a [op] [b] pos) Z m := fun y q => et_c (h y q)
theorem cmm_in (ha : EvE X a Z rC t) (hb : EvE X b Z rC u) (hm : behindInMarks .In b = false := by rfl) : CmpM X .In a b Z (sinR t u) := fun y q => by
  obtain ⟨h1, h2⟩ := Rs.gd_inv q
  cases h2
  exact cm_inC ha hb h1 hm
theorem eim_range (hm : X.mg "range" = none) (ha : EvA X [a] Z [.val rI i]) (hg : Gl X "range" := by rfl) (hs : starEach [a] X.env = [(false, eval a X.env)] := by rfl) : EvIM X tg (.Call (.Name "range" p) [a] [] pos) Z rI (rngR i) := eim_gd fun h => eim_ok (ei_range hm ha h.1 h.2 hg hs)
theorem lcR_acc {k : α → Rs Bool} {f : α → Rs β} : ∀ {xs : List α} {zs : List β}, lcR k f xs = .ok zs → ∃ acc : Nat → List β, acc 0 = [] ∧ (∀ i, (acc i).length ≤ i) ∧ acc xs.length = zs ∧ ∀ i x, xs[i]? = some x → ∃ b, k x = .ok b ∧ (b = true → ∃ y, f x = .ok y ∧ acc (i + 1) = acc i ++ [y]) ∧ (b = false → acc (i + 1) = acc i)
  | [], zs, h => by
    cases h
    exact ⟨fun _ => [], rfl, fun _ => Nat.zero_le _, rfl, fun i x hx => by simp at hx⟩
  | x :: xs, zs, h => by
    unfold lcR at h
    obtain ⟨b, h1, h2⟩ := Rs.bd_inv h
    cases b with
    | true =>
      rw [if_pos rfl] at h2
      obtain ⟨y, h3, h4⟩ := Rs.bd_inv h2
      obtain ⟨ys, h5, h6⟩ := Rs.bd_inv h4
      cases h6
      obtain ⟨acc, a0, a1, a2, a3⟩ := lcR_acc h5
      refine ⟨fun i => match i with | 0 => [] | i + 1 => y :: acc i, rfl, fun i => ?_, by show y :: acc xs.length = _; rw [a2], fun i z hz => ?_⟩
      · cases i with
        | zero => exact Nat.zero_le _
        | succ i => exact Nat.succ_le_succ (a1 i)
      · cases i with
        | zero =>
          cases hz
          exact ⟨true, h1, fun _ => ⟨y, h3, by show y :: acc 0 = _; rw [a0]; rfl⟩, fun z => by cases z⟩
        | succ i =>
          obtain ⟨b, b1, b2, b3⟩ := a3 i z (by simpa using hz)
          refine ⟨b, b1, fun hb => ?_, fun hb => by show y :: acc (i + 1) = y :: acc i; rw [b3 hb]⟩
          obtain ⟨w, w1, w2⟩ := b2 hb
          exact ⟨w, w1, by show y :: acc (i + 1) = (y :: acc i) ++ [w]; rw [w2]; rfl⟩
    | false =>
      rw [if_neg Bool.false_ne_true] at h2
      obtain ⟨acc, a0, a1, a2, a3⟩ := lcR_acc h2
      refine ⟨fun i => match i with | 0 => [] | i + 1 => acc i, rfl, fun i => ?_, a2, fun i z hz => ?_⟩
      · cases i with
        | zero => exact Nat.zero_le _
        | succ i => exact Nat.le_succ_of_le (a1 i)
      · cases i with
        | zero =>
          cases hz
          exact ⟨false, h1, (fun z => by cases z), fun _ => a0⟩
        | succ i => exact a3 i z (by simpa using hz)
theorem mapR_lcR (f : α → Rs β) : ∀ xs : List α, mapR f xs = lcR (fun _ => .ok true) f xs
  | [] => rfl
  | x :: xs => by
    show (f x).bd _ = (f x).bd _
    rw [mapR_lcR f xs]
theorem lc_core {scope : Scope} {own : List (Str × Nat)} {wi : TI} {wt : TT} {kM : α → Rs Bool} {fM : α → Rs β} {zs : List β} (hw : ∀ G H σ R, Env Z G H σ → (∀ G' H' J, Ext G H G' H' → Walks J G' r xs → xs.length ≤ sizeLine → R J H') → wi σ H R) (hz : lcR kM fM xs = .ok zs)
    (turn : ∀ (B : Hp) (x : α), ∃ Z', (∀ st H C cl fp, EvGB (blkX X scope st H C cl fp) tg r x (own.map (·.2)) ((Z.up B).wipe (own.map (·.2))) Z') ∧
      (∀ k, kM x = .ok k → ∀ G H σ Q, Env Z' G H σ → (∀ G' H', Ext G H G' H' → Q k H') → wt σ H Q) ∧ (∀ st H C cl fp, EvM (blkX X scope st H C cl fp) elt Z' s (fM x)))
    {G H : Hp} {σ : L2.St} {Q : VK} (E : Env Z G H σ) (q : ∀ G' H' o vs, Ext G H G' H' → H o = none → G' o = none → H' o = some (.lst vs) → Paired (s.rd G') vs zs → zs.length ≤ sizeLine → Q (.ref o) H') : tLc wi (gB X scope tg) wt (eB X scope elt) (own.map (·.2)) σ H Q := by
  obtain ⟨acc, a0, a1, a2, a3⟩ := lcR_acc hz
  refine lc_ev (s := s) hw acc a0 a1 (fun B i x hx => ?_) E fun G' H' o vs e1 h1 h2 h3 h4 h5 => q G' H' o vs e1 h1 h2 h3 (a2 ▸ h4) (a2 ▸ h5)
  obtain ⟨b, b1, b2, b3⟩ := a3 i x hx
  obtain ⟨Z', t1, t2, t3⟩ := turn B x
  refine ⟨Z', b, t1, t2 b b1, fun hb => ?_, b3⟩
  obtain ⟨y, y1, y2⟩ := b2 hb
  exact ⟨y, fun st H C cl fp => t3 st H C cl fp y y1, y2⟩
abbrev Turn1 (X : Cx) (Z : PL.Ctx) (scope : Scope) (own : List (Str × Nat)) (tg elt : Expr) {α β : Type} (r : Rel α) (s : Rel β) (fM : α → Rs β) : Prop := ∀ (B : Hp) (x : α), ∃ Z', (∀ st H C cl fp, EvGB (blkX X scope st H C cl fp) tg r x (own.map (·.2)) ((Z.up B).wipe (own.map (·.2))) Z') ∧ (∀ st H C cl fp, EvM (blkX X scope st H C cl fp) elt Z' s (fM x))
abbrev Turn2 (X : Cx) (Z : PL.Ctx) (scope : Scope) (own : List (Str × Nat)) (tg elt c : Expr) {α β : Type} (r : Rel α) (s : Rel β) (kM : α → Rs Bool) (fM : α → Rs β) : Prop := ∀ (B : Hp) (x : α), ∃ Z', (∀ st H C cl fp, EvGB (blkX X scope st H C cl fp) tg r x (own.map (·.2)) ((Z.up B).wipe (own.map (·.2))) Z') ∧ (∀ st H C cl fp, EvTM (blkX X scope st H C cl fp) c Z' (kM x)) ∧ (∀ st H C cl fp, EvM (blkX X scope st H C cl fp) elt Z' s (fM x))
theorem pgB {scope : Scope} (st : Shared) (H : Hp) (C : Addr) (cl : List (Str × Addr)) (fp : List Addr) : PG (X.blk st H scope (compEnvC scope cl C X.env) fp) tg (gB X scope tg) := ⟨fun pins s _ _ _ u _ I r h => (h st H C cl fp).run pins s u I r⟩
theorem peB {scope : Scope} (st : Shared) (H : Hp) (C : Addr) (cl : List (Str × Addr)) (fp : List Addr) : PE (X.blk st H scope (compEnvC scope cl C X.env) fp) elt (eB X scope elt) := ⟨fun pins s _ _ _ I h => (h st H C cl fp).run pins s I⟩
theorem ptB {scope : Scope} (st : Shared) (H : Hp) (C : Addr) (cl : List (Str × Addr)) (fp : List Addr) : PTs (X.blk st H scope (compEnvC scope cl C X.env) fp) [c] (tB X scope c) := pts_one ⟨fun pins s _ _ _ I h => (h st H C cl fp).run pins s I⟩
def LcRd (X : Cx) (Z : PL.Ctx) (scope : Scope) (own : List (Str × Nat)) (tg e elt : Expr) (ifs : List Expr) {β : Type} (s : Rel β) (m : Rs (List β)) : Prop := ∀ zs, m = .ok zs → ∃ wi wt, PI X tg e wi ∧ (∀ st H C cl fp, PTs (X.blk st H scope (compEnvC scope cl C X.env) fp) ifs wt) ∧
  ∀ G H σ (Q : VK), Env Z G H σ → (∀ G' H' o vs, Ext G H G' H' → H o = none → G' o = none → H' o = some (.lst vs) → Paired (s.rd G') vs zs → zs.length ≤ sizeLine → Q (.ref o) H') → tLc wi (gB X scope tg) wt (eB X scope elt) (own.map (·.2)) σ H Q
theorem lcr_1 {scope : Scope} {own : List (Str × Nat)} {fM : α → Rs β} (src : EvI X tg e Z r xs) (turn : Turn1 X Z scope own tg elt r s fM) : LcRd X Z scope own tg e elt [] s (mapR fM xs) := fun zs hz => by
  obtain ⟨wi, pi, hw⟩ := src
  rw [mapR_lcR] at hz
  exact ⟨wi, _, pi, fun _ _ _ _ _ => pts_nil, fun G H σ Q E q => lc_core hw hz (fun B x => let ⟨Z', t1, t2⟩ := turn B x; ⟨Z', t1, fun k hk G H σ Q E q => by cases hk; exact q G H (.refl E.le), t2⟩) E q⟩
theorem lcr_2 {scope : Scope} {own : List (Str × Nat)} {kM : α → Rs Bool} {fM : α → Rs β} (src : EvI X tg e Z r xs) (turn : Turn2 X Z scope own tg elt c r s kM fM) : LcRd X Z scope own tg e elt [c] s (lcR kM fM xs) := fun zs hz => by
  obtain ⟨wi, pi, hw⟩ := src
  exact ⟨wi, _, pi, ptB, fun G H σ Q E q => lc_core hw hz (fun B x => let ⟨Z', t1, t2, t3⟩ := turn B x; ⟨Z', t1, fun k hk G H σ Q E q st H0 C cl fp => t2 st H0 C cl fp k hk G H σ Q E q, t3⟩) E q⟩
section
variable {scope : Scope} {own : List (Str × Nat)} {ifs : List Expr} {a' tg' : Expr}
theorem lcr_bd {m : Rs α} {g : α → Rs (List β)} (hm : EvM X a' Z r m) (h : ∀ x, EvE X a' Z r x → LcRd X Z scope own tg e elt ifs s (g x)) : LcRd X Z scope own tg e elt ifs s (m.bd g) := fun y q => let ⟨x, h1, h2⟩ := Rs.bd_inv q; h x (hm x h1) y h2
end
theorem efm_lc {scope : Scope} (own : List (Str × Nat)) {ifs : List Expr} {m : Rs (List β)} (hc : X.calm = true) (nd : X.N.Nodup) (h : LcRd X Z scope own tg e elt ifs s m)
    (ok : blkC X.N X.env.scope scope own = true := by kernel_rfl) (hs : ∀ x, foldedSetIterable e X.env x = pure x := by intro _; rfl) : EvFM X (.ListComp elt [⟨tg, e, ifs, 0⟩] scope pos) Z s m := fun zs hz => by
  obtain ⟨wi, wt, h1, h2, h3⟩ := h zs hz
  exact fun G H σ Q E q => toE (pe_lc (own := own) hc nd h1 (blkOk_by ok) pgB h2 peB hs) (h3 G H σ Q E q)
theorem env_frzNew {G H G' H' : Hp} {σ : L2.St} {o : Addr} {vs : List V} {zs : List β} (i : Nat) (E : Env Z G H σ) (e1 : Ext G H G' H') (h1 : H o = none) (h2 : G' o = none) (h3 : H' o = some (.lst vs)) (h4 : Paired (s.rd G') vs zs) (h5 : zs.length ≤ sizeLine) :
    Env (Z.set i (.val (rL X.K s) zs)) (upd G' o (.lst vs)) H' (σ.set i (some (.ref o))) := (E.ext (frz_ext e1 h1 h2 h3)).setv ⟨.ref o, rfl, o, vs, rfl, SqL.of upd_same, pmono (fun _ _ => s.mono (same_upd h2)) h4, h5⟩
theorem gm_lc (i : Nat) {py spos : Pos} {scope : Scope} (own : List (Str × Nat)) {ifs : List Expr} {m : Rs (List β)} {g : List β → Rs O} (hc : X.calm = true) (nd : X.N.Nodup) (hL : LcRd X Z scope own tg e elt ifs s m)
    (h : ∀ zs, GM X rest (Z.set i (.val (rL X.K s) zs)) D (g zs)) (hi : X.N[i]? = some n := by rfl) (hyl : X.env.scope.names.lookup n = some .local := by rfl)
    (hsw : swapsWith (.ListComp elt [⟨tg, e, ifs, 0⟩] scope pos) (some (.Name n py)) spos.line X.env = pure true := by exact sw_true rfl rfl rfl (by decide +kernel))
    (ok : blkC X.N X.env.scope scope own = true := by kernel_rfl) (hs : ∀ x, foldedSetIterable e X.env x = pure x := by intro _; rfl) : GM X (.Assign [.Name n py] (.ListComp elt [⟨tg, e, ifs, 0⟩] scope pos) spos :: rest) Z D (m.bd g) := fun o q => by
  obtain ⟨zs, hz, q2⟩ := Rs.bd_inv q
  obtain ⟨wi, wt, h1, h2, h3⟩ := hL zs hz
  exact goes_of (ps_setLc (i := i) (own := own) hc nd hi hyl hsw h1 (blkOk_by ok) pgB h2 peB hs) fun G H σ E => h3 G H σ _ E fun G' H' o' vs e1 h1 h2 h3 h4 h5 => h zs o q2 _ H' _ (env_frzNew i E e1 h1 h2 h3 h4 h5)
theorem etm_lent (i j : Nat) {o : Addr} {m : Rs Bool} (hz : Z.sl[i]? = some (.val rRef o)) (hj : Z.ce[j]? = some (.lst o r xs)) (h : EvTM X e ⟨Z.b, Z.sl.set i (.val (rL X.K r) xs), Z.ce.eraseIdx j⟩ m) : EvTM X e Z m := fun y q => et_bor i j hz hj (h y q)
theorem em_c1 {α1 : Type} {r1 : Rel α1} {x1 : α1} {rz : Rel ζ} {f : α1 → Rs ζ} (C : CallOk X.prog X.w X.K X.mg X.base n k (spG (M1 r1 rz f))) (hr : Room k X.A) (ha : EvA X (e :: es) Z [.val r1 x1]) (hg : Gl X n := by rfl) (hdb : (n == ("__debug__" : Str)) = false := by decide) (he : starEach (e :: es) X.env = (false, eval e X.env) :: starEach es X.env := by rfl) (hpl : (backTo pos (starEach es X.env)).any (·.1) = false := by rfl) : EvM X (.Call (.Name n p) (e :: es) [] pos) Z rz (f x1) := fun z q => ev_call C hr ha ⟨x1, z, rfl, q, rfl⟩ (fun _ _ h => h) hg hdb he hpl
theorem efm_c1 {α1 : Type} {r1 : Rel α1} {x1 : α1} {rz : Rel ζ} {f : α1 → Rs (List ζ)} (C : CallOk X.prog X.w X.K X.mg X.base n k (spF rz (N1 r1 f))) (hr : Room k X.A) (ha : EvA X (e :: es) Z [.val r1 x1]) (hg : Gl X n := by rfl) (hdb : (n == ("__debug__" : Str)) = false := by decide) (he : starEach (e :: es) X.env = (false, eval e X.env) :: starEach es X.env := by rfl) (hpl : (backTo pos (starEach es X.env)).any (·.1) = false := by rfl) : EvFM X (.Call (.Name n p) (e :: es) [] pos) Z rz (f x1) := fun z q => ef_call C hr ha ⟨x1, rfl, q⟩ hg hdb he hpl
theorem em_k1 {α1 : Type} {r1 : Rel α1} {x1 : α1} {C : Addr} {fs : ζ → List (Str × Slot)} {f : α1 → Rs ζ} (M : MakeOk X.prog X.w X.K X.mg X.base n C k (spI C (I1 r1 fs f))) (hr : Room (k + 1) X.A) (ha : EvA X (e :: es) Z [.val r1 x1]) (hg : Gl X n := by rfl) (hdb : (n == ("__debug__" : Str)) = false := by decide) (he : starEach (e :: es) X.env = (false, eval e X.env) :: starEach es X.env := by rfl) (hpl : (backTo pos (starEach es X.env)).any (·.1) = false := by rfl) : EvM X (.Call (.Name n p) (e :: es) [] pos) Z (rObj C fs) (f x1) := fun z q => ev_make M hr ha ⟨x1, z, rfl, q, rfl⟩ hg hdb he hpl
theorem em_c2 {α1 : Type} {r1 : Rel α1} {x1 : α1} {α2 : Type} {r2 : Rel α2} {x2 : α2} {rz : Rel ζ} {f : α1 → α2 → Rs ζ} (C : CallOk X.prog X.w X.K X.mg X.base n k (spG (M2 r1 r2 rz f))) (hr : Room k X.A) (ha : EvA X (e :: es) Z [.val r1 x1, .val r2 x2]) (hg : Gl X n := by rfl) (hdb : (n == ("__debug__" : Str)) = false := by decide) (he : starEach (e :: es) X.env = (false, eval e X.env) :: starEach es X.env := by rfl) (hpl : (backTo pos (starEach es X.env)).any (·.1) = false := by rfl) : EvM X (.Call (.Name n p) (e :: es) [] pos) Z rz (f x1 x2) := fun z q => ev_call C hr ha ⟨x1, x2, z, rfl, q, rfl⟩ (fun _ _ h => h) hg hdb he hpl
theorem em_c3 {α1 : Type} {r1 : Rel α1} {x1 : α1} {α2 : Type} {r2 : Rel α2} {x2 : α2} {α3 : Type} {r3 : Rel α3} {x3 : α3} {rz : Rel ζ} {f : α1 → α2 → α3 → Rs ζ} (C : CallOk X.prog X.w X.K X.mg X.base n k (spG (M3 r1 r2 r3 rz f))) (hr : Room k X.A) (ha : EvA X (e :: es) Z [.val r1 x1, .val r2 x2, .val r3 x3]) (hg : Gl X n := by rfl) (hdb : (n == ("__debug__" : Str)) = false := by decide) (he : starEach (e :: es) X.env = (false, eval e X.env) :: starEach es X.env := by rfl) (hpl : (backTo pos (starEach es X.env)).any (·.1) = false := by rfl) : EvM X (.Call (.Name n p) (e :: es) [] pos) Z rz (f x1 x2 x3) := fun z q => ev_call C hr ha ⟨x1, x2, x3, z, rfl, q, rfl⟩ (fun _ _ h => h) hg hdb he hpl
theorem em_k3 {α1 : Type} {r1 : Rel α1} {x1 : α1} {α2 : Type} {r2 : Rel α2} {x2 : α2} {α3 : Type} {r3 : Rel α3} {x3 : α3} {C : Addr} {fs : ζ → List (Str × Slot)} {f : α1 → α2 → α3 → Rs ζ} (M : MakeOk X.prog X.w X.K X.mg X.base n C k (spI C (I3 r1 r2 r3 fs f))) (hr : Room (k + 1) X.A) (ha : EvA X (e :: es) Z [.val r1 x1, .val r2 x2, .val r3 x3]) (hg : Gl X n := by rfl) (hdb : (n == ("__debug__" : Str)) = false := by decide) (he : starEach (e :: es) X.env = (false, eval e X.env) :: starEach es X.env := by rfl) (hpl : (backTo pos (starEach es X.env)).any (·.1) = false := by rfl) : EvM X (.Call (.Name n p) (e :: es) [] pos) Z (rObj C fs) (f x1 x2 x3) := fun z q => ev_make M hr ha ⟨x1, x2, x3, z, rfl, q, rfl⟩ hg hdb he hpl
theorem em_c4 {α1 : Type} {r1 : Rel α1} {x1 : α1} {α2 : Type} {r2 : Rel α2} {x2 : α2} {α3 : Type} {r3 : Rel α3} {x3 : α3} {α4 : Type} {r4 : Rel α4} {x4 : α4} {rz : Rel ζ} {f : α1 → α2 → α3 → α4 → Rs ζ} (C : CallOk X.prog X.w X.K X.mg X.base n k (spG (M4 r1 r2 r3 r4 rz f))) (hr : Room k X.A) (ha : EvA X (e :: es) Z [.val r1 x1, .val r2 x2, .val r3 x3, .val r4 x4]) (hg : Gl X n := by rfl) (hdb : (n == ("__debug__" : Str)) = false := by decide) (he : starEach (e :: es) X.env = (false, eval e X.env) :: starEach es X.env := by rfl) (hpl : (backTo pos (starEach es X.env)).any (·.1) = false := by rfl) : EvM X (.Call (.Name n p) (e :: es) [] pos) Z rz (f x1 x2 x3 x4) := fun z q => ev_call C hr ha ⟨x1, x2, x3, x4, z, rfl, q, rfl⟩ (fun _ _ h => h) hg hdb he hpl
theorem ef_meth0 {m : Str} {apos : Pos} {C : Addr} {Pr : List Slot → List β → Prop} {fs : α → List (Str × Slot)} {ys : List β} {pl : Sem Bool} (M : MethOk X.prog X.w X.K X.mg X.base C m k (spF s Pr)) (hr : Room k X.A) (ho : EvE X a Z (rObj C fs) x) (hf : (fs x).lookup m = none) (hP : Pr [.val (rObj C fs) x] ys)
    (ht : eval (.Call (.Attribute a m apos) [] [] pos) X.env = (do
      let ov ← eval a X.env
      standAt apos.atName
      let (f, first) ← holding [ov] (getMethod ov m pl)
      callWith pos f first (backTo pos (starEach [] X.env)) (backToKw pos (keywordEach [] X.env))) := by rfl) : EvF X (.Call (.Attribute a m apos) [] [] pos) Z s ys := fun G H σ Q E q => by
  obtain ⟨f, fd, ps, F, hm, hb, hc⟩ := M
  refine toE (pe_meth0 (E := fun _ _ _ => False) ce hc hm F hr hb .nil pass0 ht) (ho G H σ _ E fun G1 H1 v e1 h1 => ?_)
  obtain ⟨l, dx, vfs, rfl, g1, g2, g3⟩ := id h1
  refine ⟨l, dx, vfs, rfl, e1.s.ins g1, flds_none g3 hf, ?_⟩
  exact ⟨_, G1, ys, hP, e1.s, .cons h1 .nil, fun G3 H3 o us e3 h3 h4 h5 h6 h7 => q G3 H3 o us (e1.trans e3) (e1.h.free h3) h4 h5 h6 h7⟩
theorem em_m1 {m : Str} {apos : Pos} {C : Addr} {fs : α → List (Str × Slot)} {pl : Sem Bool} {rz : Rel ζ} {f : α → Rs ζ} (M : MethOk X.prog X.w X.K X.mg X.base C m k (spG (M1 (rObj C fs) rz f))) (hr : Room k X.A) (ho : EvE X a Z (rObj C fs) x) (hf : (fs x).lookup m = none := by rfl) (ht : eval (.Call (.Attribute a m apos) [] [] pos) X.env = (do
      let ov ← eval a X.env
      standAt apos.atName
      let (f, first) ← holding [ov] (getMethod ov m pl)
      callWith pos f first (backTo pos (starEach [] X.env)) (backToKw pos (keywordEach [] X.env))) := by rfl) : EvM X (.Call (.Attribute a m apos) [] [] pos) Z rz (f x) := fun z q => ev_meth0 M hr ho hf ⟨x, z, rfl, q, rfl⟩ (fun _ _ h => h) ht
theorem efm_m1 {m : Str} {apos : Pos} {C : Addr} {fs : α → List (Str × Slot)} {pl : Sem Bool} {rz : Rel ζ} {f : α → Rs (List ζ)} (M : MethOk X.prog X.w X.K X.mg X.base C m k (spF rz (N1 (rObj C fs) f))) (hr : Room k X.A) (ho : EvE X a Z (rObj C fs) x) (hf : (fs x).lookup m = none := by rfl) (ht : eval (.Call (.Attribute a m apos) [] [] pos) X.env = (do
      let ov ← eval a X.env
      standAt apos.atName
      let (f, first) ← holding [ov] (getMethod ov m pl)
      callWith pos f first (backTo pos (starEach [] X.env)) (backToKw pos (keywordEach [] X.env))) := by rfl) : EvFM X (.Call (.Attribute a m apos) [] [] pos) Z rz (f x) := fun z q => ef_meth0 M hr ho hf ⟨x, rfl, q⟩ ht
end
end PL

namespace PL
open PySem PySem.Spec PyProof.Rows L2
def fuelW : Nat := 1000000
theorem szl (n : Nat) (h : n ≤ 1000 := by decide) : n ≤ sizeLine := by rw [sizeLine_eq]; omega
section
variable {X : Cx} {Z : PL.Ctx} {α β γ δ ε S ζ O : Type} {r : Rel α} {s : Rel β} {r3 : Rel γ} {r4 : Rel δ} {x : α} {pos p p2 : Pos} {a b c e f tg elt d : Expr} {es : List Expr} {D : O → Ends} {body rest : List Stmt} {n : Str} {k : Nat} {i j : Int} {xs ys : List α} {t u : Text}
theorem ev_powK (m : Int) (q : Nat) {e1 e2 : Int} {j1 j2 : Nat} {p1 p2 : Pos} (h : decide (q ≤ 1000000 ∧ m.natAbs < 2 ^ 64) = true := by decide) (h1 : e1 = m := by rfl) (h2 : e2 = (q : Int) := by rfl) : EvE X (.BinOp (.Constant (.int e1) j1 p1) .Pow (.Constant (.int e2) j2 p2) pos) Z PL.rI (m ^ q) := by
  have h := of_decide_eq_true h
  subst h1 h2
  exact ev_cast (ev_pow ev_int ev_int ⟨by omega, by omega, by omega⟩) (by rw [Int.toNat_natCast])
theorem eo_none : EvO X none Z none := trivial
theorem eo_some (h : EvE X e Z PL.rI i) : EvO X (some e) Z (some i) := h
theorem ef_cutL {lo hi : Option Expr} {i j : Option Int} (ha : EvE X a Z (rL X.K r) xs) (hl : EvO X lo Z i) (hh : EvO X hi Z j) : EvF X (.Subscript a (.Slice lo hi none p2) pos) Z r (cut xs i j) := by
  intro G H σ Q E q
  have fin : ∀ G' H' v, Ext G H G' H' → (rL X.K r).rd G' v xs → rSlL X.K v i j H' Q := fun G' H' v e1 h1 => by
    obtain ⟨l, us, rfl, h3, h4, h5⟩ := h1
    exact ⟨l, us, rfl, e1.s.seq h3, fun t ht => q _ _ _ _ (e1.trans (.newM e1.s ht)) (e1.h.free ht) (e1.s.free ht) upd_same (pcut h4 i j) (Nat.le_trans (cut_len xs i j) h5)⟩
  cases lo with
  | none =>
    cases i with
    | some _ => exact hl.elim
    | none =>
      cases hi with
      | none =>
        cases j with
        | some _ => exact hh.elim
        | none => exact toE (pe_slice sl_list ce po_none po_none) (ha G H σ _ E fun G1 H1 v e1 h1 => fin G1 H1 v e1 h1)
      | some e2 =>
        cases j with
        | none => exact hh.elim
        | some j =>
          have hh' : EvE X e2 Z rI j := hh
          exact toE (pe_slice sl_list ce po_none (po_some ce)) (ha G H σ _ E fun G1 H1 v e1 h1 => hh' G1 H1 σ _ (E.ext e1) fun G2 H2 w e2 h2 => ⟨j, h2, fin G2 H2 v (e1.trans e2) ((rL X.K r).mono e2.g h1)⟩)
  | some e1 =>
    cases i with
    | none => exact hl.elim
    | some i =>
      have hl' : EvE X e1 Z rI i := hl
      cases hi with
      | none =>
        cases j with
        | some _ => exact hh.elim
        | none => exact toE (pe_slice sl_list ce (po_some ce) po_none) (ha G H σ _ E fun G1 H1 v e1 h1 => hl' G1 H1 σ _ (E.ext e1) fun G2 H2 w e2 h2 => ⟨i, h2, fin G2 H2 v (e1.trans e2) ((rL X.K r).mono e2.g h1)⟩)
      | some e2 =>
        cases j with
        | none => exact hh.elim
        | some j =>
          have hh' : EvE X e2 Z rI j := hh
          exact toE (pe_slice sl_list ce (po_some ce) (po_some ce)) (ha G H σ _ E fun G1 H1 v e1 h1 => hl' G1 H1 σ _ (E.ext e1) fun G2 H2 w e2 h2 => ⟨i, h2, hh' G2 H2 σ _ (E.ext (e1.trans e2)) fun G3 H3 u e3 h3 => ⟨j, h3, fin G3 H3 v ((e1.trans e2).trans e3) ((rL X.K r).mono (e2.trans e3).g h1)⟩⟩)
def txts : List Expr → Option (List Text)
  | [] => some []
  | .Constant (.str i) _ _ :: es => (txts es).map (tx i :: ·)
  | _ :: _ => none
theorem ea_txts : ∀ {es : List Expr} {xs : List Text}, txts es = some xs → xs.all okTb = true → EvA X es Z (xs.map (.val rC))
  | [], _, h, _ => by cases h; exact ea_nil
  | .Constant (.str i) _ _ :: es, _, h, ho => by
    unfold txts at h
    cases e : txts es with
    | none => rw [e] at h; cases h
    | some ys =>
      rw [e] at h
      cases h
      rw [List.all_cons, Bool.and_eq_true] at ho
      exact ea_cons (ev_txt ho.1) (ea_txts e ho.2)
theorem ef_txts {xs : List Text} (h : txts es = some xs := by rfl) (ho : xs.all okTb = true := by decide +kernel) (hl : decide (xs.length ≤ 1000) = true := by rfl) : EvF X (.List es pos) Z rC xs := ef_lst (ea_txts h ho) (by have := of_decide_eq_true hl; rw [sizeLine_eq]; omega)
theorem ef_listT (hm : X.mg "list" = none) (ha : EvA X [a] Z [.val (rTL X.K r) xs]) (hg : Gl X "list" := by rfl) (he : starEach [a] X.env = (false, eval a X.env) :: starEach [] X.env := by rfl) : EvF X (.Call (.Name "list" p) [a] [] pos) Z r xs := fun G H σ Q E k =>
  toE (pe_callTy call_list_of hg hm (by decide +kernel) ca (he := he)) (ha G H σ _ E fun G1 H1 vs e1 h1 => by
    obtain ⟨v, rfl, l, us, rfl, h3, h4, h5⟩ := slv1 h1
    exact ⟨l, us, rfl, .inr (e1.s.seqT h3), fun o no => k G1 _ o us (e1.trans (.newM e1.s no)) (e1.h.free no) (e1.s.free no) upd_same h4 h5⟩)
theorem ev_tupleL (hm : X.mg "tuple" = none) (ha : EvA X [a] Z [.val (rL X.K r) xs]) (hg : Gl X "tuple" := by rfl) (he : starEach [a] X.env = (false, eval a X.env) :: starEach [] X.env := by rfl) : EvE X (.Call (.Name "tuple" p) [a] [] pos) Z (rTL X.K r) xs := fun G H σ Q E k =>
  toE (pe_callTy call_tuple_of hg hm (by decide +kernel) ca (he := he)) (ha G H σ _ E fun G1 H1 vs e1 h1 => by
    obtain ⟨v, rfl, l, us, rfl, h3, h4, h5⟩ := slv1 h1
    refine ⟨l, us, rfl, .inl ⟨e1.s.seq h3, fun o no => k _ _ (.ref o) (e1.trans (.new e1.s no)) ?_⟩⟩
    exact ⟨o, us, rfl, SqT.of upd_same, pmono (fun _ _ => r.mono (same_upd (e1.s.free no))) h4, h5⟩)
end
end PL

namespace PL
open PySem PySem.Spec PyProof.Rows L2
section
variable {X : Cx} {Z : PL.Ctx} {α β γ S ζ O : Type} {r : Rel α} {s : Rel β} {x : α} {pos p p2 : Pos} {a b c e f tg elt d : Expr} {es : List Expr} {D : O → Ends} {body rest th el : List Stmt} {n : Str} {k : Nat} {i j : Int} {xs ys : List α} {t u : Text} {m : Rs α} {g : α → Rs O}
theorem gm_setM (i : Nat) {p' : Pos} (nd : X.N.Nodup) (he : EvM X e Z r m) (h : ∀ x, GM X rest (Z.set i (.val r x)) D (g x)) (hi : X.N[i]? = some n := by rfl) (hx : Loc X.env.scope n := by first | exact Or.inl rfl | exact Or.inr rfl)
    (hs : swapsWith e (some (.Name n p')) pos.line X.env = pure false := by rfl) (hf : X.fn n = true ∨ X.env.scope.names.lookup n = some .local := by first | exact .inl rfl | exact .inr rfl | assumption) : GM X (.Assign [.Name n p'] e pos :: rest) Z D (m.bd g) := fun o q =>
  let ⟨x, h1, h2⟩ := Rs.bd_inv q; goes_set i nd (he x h1) (h x o h2) hi hx hs hf
theorem gm_setFM (i : Nat) {p' : Pos} {m : Rs (List α)} {g : List α → Rs O} (nd : X.N.Nodup) (he : EvFM X e Z r m) (h : ∀ xs o, GM X rest ⟨Z.b, Z.sl.set i (.val rRef o), .lst o r xs :: Z.ce⟩ D (g xs)) (hi : X.N[i]? = some n := by rfl) (hx : Loc X.env.scope n := by first | exact Or.inl rfl | exact Or.inr rfl)
    (hs : swapsWith e (some (.Name n p')) pos.line X.env = pure false := by rfl) (hf : X.fn n = true ∨ X.env.scope.names.lookup n = some .local := by first | exact .inl rfl | exact .inr rfl | assumption) : GM X (.Assign [.Name n p'] e pos :: rest) Z D (m.bd g) := fun o q =>
  let ⟨x, h1, h2⟩ := Rs.bd_inv q; goes_setF i nd (he x h1) (fun l => h x l o h2) hi hx hs hf
theorem gm_asgM (he : EvM X e Z r m) (h : ∀ x, ∃ Z', EvG X tg r x Z Z' ∧ GM X rest Z' D (g x)) (hs : swapsWithSole [tg] e pos.line X.env = pure false := by rfl) (hw : swappedStores [tg] e X.env = pure none := by rfl)
    (h1 : (assignEach [tg] X.env).map (·.2) = [assign tg X.env] := by rfl) : GM X (.Assign [tg] e pos :: rest) Z D (m.bd g) := fun o q =>
  let ⟨x, q1, q2⟩ := Rs.bd_inv q; let ⟨_, g1, g2⟩ := h x; goes_asg (he x q1) g1 (g2 o q2) hs hw h1
theorem gm_exprM (he : EvM X e Z r m) (h : ∀ x, GM X rest Z D (g x)) (hs : swapsWith e none pos.line X.env = pure false := by rfl) : GM X (.Expr e pos :: rest) Z D (m.bd g) := fun o q =>
  let ⟨x, q1, q2⟩ := Rs.bd_inv q; goes_expr (he x q1) (h x o q2) hs
theorem gm_retM {g : α → O} (he : EvM X e Z r m) (hrt : ∀ x, (D (g x)).rt = Rt Z.b.G0 Z.b.H0 (fun G v => r.rd G v x) := by intro _; rfl) : GM X (.Return (some e) pos :: rest) Z D (m.bd fun x => .ok (g x)) := fun o q => by
  obtain ⟨x, q1, q2⟩ := Rs.bd_inv q
  exact gm_ret (he x q1) (hrt x) o q2
theorem gm_retFM {m : Rs (List α)} {g : List α → O} (he : EvFM X e Z r m) (hrt : ∀ xs, (D (g xs)).rt = RtF Z.b.G0 Z.b.H0 r xs := by intro _; rfl) : GM X (.Return (some e) pos :: rest) Z D (m.bd fun x => .ok (g x)) := fun o q => by
  obtain ⟨x, q1, q2⟩ := Rs.bd_inv q
  exact gm_retF (he x q1) (hrt x) o q2
theorem gm_ifM {mk : Rs Bool} {g1 g2 : Bool → Rs O} (hc : EvTM X c Z mk) (h1 : ∀ k, GM X th Z (DB X rest D) (g1 k)) (h2 : ∀ k, GM X el Z (DB X rest D) (g2 k)) : GM X (.If c th el pos :: rest) Z D (mk.bd fun k => if k = true then g1 k else g2 k) := fun o q => by
  obtain ⟨k, q1, q2⟩ := Rs.bd_inv q
  exact gm_if (hc k q1) (h1 k) (h2 k) o q2
theorem gm_ifJM {mk : Rs Bool} {m1 m2 : Bool → Rs S} {g : S → Rs O} (Zs : S → PL.Ctx) (hc : EvTM X c Z mk) (h1 : ∀ k, GM X th Z (DN Zs) (m1 k)) (h2 : ∀ k, GM X el Z (DN Zs) (m2 k)) (h : ∀ s, GM X rest (Zs s) D (g s)) : GM X (.If c th el pos :: rest) Z D (mk.bd fun k => (if k = true then m1 k else m2 k).bd g) := fun o q => by
  obtain ⟨k, q1, q2⟩ := Rs.bd_inv q
  exact gm_ifJ Zs (hc k q1) (h1 k) (h2 k) h o q2
theorem gm_forM {mx : Rs (List α)} {f : S → α → Rs S} {g : S → Rs O} (Zs : S → PL.Ctx) (s0 : S) (hc : X.calm = true) (hp : PassesOwn (model X.prog X.w) X.A X.env X.xe) (src : EvIM X tg e Z r mx) (hb0 : Z.b = (Zs s0).b) (hs0 : SubS Z.sl (Zs s0).sl) (hc0 : Z.ce = (Zs s0).ce)
    (turn : ∀ (B : Hp) (x : α) (s : S), ∃ Z', EvG X tg r x ((Zs s).up B) Z' ∧ GM X body Z' (DF Zs B) (f s x)) (after : ∀ s, GM X rest (Zs s) D (g s))
    (hs : ∀ x, foldedSetIterable e X.env x = pure x := by intro _; rfl) : GM X (.For tg e body [] pos :: rest) Z D (mx.bd fun xs => (foldR f s0 xs).bd g) := fun o q => by
  obtain ⟨xs, q1, q2⟩ := Rs.bd_inv q
  exact gm_for Zs s0 hc hp (src xs q1) hb0 hs0 hc0 turn after hs o q2
theorem gm_forXM {mx : Rs (List α)} {f : S → α → Rs (Stp S ζ)} {g : S → Rs O} (er : ζ → O) (Zs : S → PL.Ctx) (s0 : S) (hc : X.calm = true) (hp : PassesOwn (model X.prog X.w) X.A X.env X.xe) (src : EvIM X tg e Z r mx) (hb0 : Z.b = (Zs s0).b) (hs0 : SubS Z.sl (Zs s0).sl) (hc0 : Z.ce = (Zs s0).ce)
    (turn : ∀ (B : Hp) (x : α) (s : S), ∃ Z', EvG X tg r x ((Zs s).up B) Z' ∧ GM X body Z' (DX Zs B D er) (f s x)) (after : ∀ s, GM X rest (Zs s) D (g s))
    (hs : ∀ x, foldedSetIterable e X.env x = pure x := by intro _; rfl) : GM X (.For tg e body [] pos :: rest) Z D (mx.bd fun xs => (forX f s0 xs).bd (Stp.fin g er)) := fun o q => by
  obtain ⟨xs, q1, q2⟩ := Rs.bd_inv q
  exact gm_forX er Zs s0 hc hp (src xs q1) hb0 hs0 hc0 turn after hs o q2
theorem goes_extend (i j : Nat) {o : Addr} {D : Ends} {px pa pc : Pos} (he : EvF X e Z r ys) (hz : Z.sl[i]? = some (.val rRef o)) (hj : Z.ce[j]? = some (.lst o r xs)) (hl : xs.length + ys.length ≤ sizeLine)
    (h : Goes X rest (Z.setC (Z.ce.set j (.lst o r (xs ++ ys)))) D) (hN : X.N[i]? = some n := by rfl) (hv : Vis X.env.scope n := by first | exact Or.inl rfl | exact Or.inr (Or.inl rfl) | exact Or.inr (Or.inr rfl))
    (hbase : attributeBase (.Name n px) "extend" X.env (eval (.Name n px) X.env) = eval (.Name n px) X.env := by rfl)
    (hfew : ((backTo pc (starEach [e] X.env)).all (fun x => !x.1) && (backToKw pc (keywordEach [] X.env)).all (fun x => x.1.isSome) && decide ([e].length + ([] : List Keyword).length + (if ([] : List Keyword).isEmpty then 0 else 1) < 30)) = true := by rfl)
    (hline : (pa.endLine == pc.line) = true := by rfl) (hs : starEach [e] X.env = (false, eval e X.env) :: starEach [] X.env := by rfl) (hplain : (backTo pc (starEach [] X.env)).any (·.1) = false := by rfl)
    (hsw : swapsWith (.Call (.Attribute (.Name n px) "extend" pa) [e] [] pc) none pos.line X.env = pure false := by rfl)
    (hd : (n == ("__debug__" : Str)) = false := by decide) (hcd : (n == ("__classdict__" : Str)) = false := by decide) : Goes X (.Expr (.Call (.Attribute (.Name n px) "extend" pa) [e] [] pc) pos :: rest) Z D :=
  goes_of (ps_expr (pe_bm PySem.F.plainAttrs_list PySem.F.slot_list_extend PySem.F.type_list_extend mt_extend (pe_var hN hv hd hcd) (pa_cons ce pa_nil hs) hbase hfew hline hs hplain) hsw) fun G H σ E => by
    obtain ⟨v, h1, h2⟩ := E.get hz
    obtain rfl : v = .ref o := h2
    obtain ⟨c0, cG, vs, cH, cP, cL⟩ := Cell.ok_lst (E.ce _ (List.mem_of_getElem? hj))
    refine ⟨.ref o, h1, .inl ⟨rfl, _, SqL.of cH⟩, he G H σ _ E fun G1 H1 l us e1 _ _ g1 g2 _ => ?_⟩
    have E1 := E.ext e1
    exact ⟨o, l, vs, us, rfl, rfl, e1.h _ _ cH, g1, by rw [plen cP, plen g2]; exact hl, h G1 _ σ (E1.cell hj (papp (pmono (fun _ _ => r.mono e1.g) cP) g2) (by rw [List.length_append]; exact hl))⟩
theorem gm_extendM (i j : Nat) {o : Addr} {m : Rs (List α)} {f : List α → Rs O} {px pa pc : Pos} (he : EvFM X e Z r m) (hz : Z.sl[i]? = some (.val rRef o)) (hj : Z.ce[j]? = some (.lst o r xs))
    (h : ∀ ys, GM X rest (Z.setC (Z.ce.set j (.lst o r ys))) D (f ys)) (hN : X.N[i]? = some n := by rfl) (hv : Vis X.env.scope n := by first | exact Or.inl rfl | exact Or.inr (Or.inl rfl) | exact Or.inr (Or.inr rfl))
    (hbase : attributeBase (.Name n px) "extend" X.env (eval (.Name n px) X.env) = eval (.Name n px) X.env := by rfl)
    (hfew : ((backTo pc (starEach [e] X.env)).all (fun x => !x.1) && (backToKw pc (keywordEach [] X.env)).all (fun x => x.1.isSome) && decide ([e].length + ([] : List Keyword).length + (if ([] : List Keyword).isEmpty then 0 else 1) < 30)) = true := by rfl)
    (hline : (pa.endLine == pc.line) = true := by rfl) (hs : starEach [e] X.env = (false, eval e X.env) :: starEach [] X.env := by rfl) (hplain : (backTo pc (starEach [] X.env)).any (·.1) = false := by rfl)
    (hsw : swapsWith (.Call (.Attribute (.Name n px) "extend" pa) [e] [] pc) none pos.line X.env = pure false := by rfl)
    (hd : (n == ("__debug__" : Str)) = false := by decide) (hcd : (n == ("__classdict__" : Str)) = false := by decide) : GM X (.Expr (.Call (.Attribute (.Name n px) "extend" pa) [e] [] pc) pos :: rest) Z D (m.bd fun x => (catR xs x).bd f) := fun o' q => by
  obtain ⟨x, q1, q2⟩ := Rs.bd_inv q
  obtain ⟨ys, q3, q4⟩ := Rs.bd_inv q2
  obtain ⟨hl, q3⟩ := Rs.gd_inv q3
  cases q3
  exact goes_extend i j (he x q1) hz hj (by rw [sizeLine_eq]; exact hl) (h _ o' q4) hN hv hbase hfew hline hs hplain hsw hd hcd
end
end PL

namespace PL
open PySem PySem.Spec PyProof.Rows L2
theorem bt_of {i : Int} (this : Builtin.Int.intBits i ≤ 1048576) : Bt 1048576 i := by
  unfold Builtin.Int.intBits at this
  unfold Bt
  split at this
  · have e : i.natAbs = 0 := by simp_all
    rw [e]
    decide
  · omega
theorem law_spM {K : PySem.W.Frag} {H : Hp} {a : Addr} {ns : List Int} {E : XK} {f : List Int → Rs Bool} (hl : ns.length ≤ 63) (hS : SqL K H a (ns.map V.int)) (h : f ns = .ok true) : spG (M1 (rL K PL.rI) rB f) [.ref a] H (fun v _ => v = .bl true) E :=
  ⟨[.val (rL K PL.rI) ns], H, _, ⟨ns, true, rfl, h, rfl⟩, (Same.refl _).smf, .cons ⟨a, _, rfl, hS, pof (f := V.int) (F := PL.rI.rd H) (fun _ => rfl) ns, by rw [sizeLine_eq]; omega⟩ .nil, fun _ _ _ _ h => h⟩
section
variable {α β S T ζ O : Type}
theorem ixR_at {xs : List α} {i : Int} {j : Nat} {x : α} (hi : i = (j : Int)) (h : xs[j]? = some x) : ixR xs i = .ok x := by
  subst hi
  unfold ixR
  rw [atI_nat h]
theorem ixR_in {xs : List α} {n m : Int} (hm : (xs.length : Int) = m) (h0 : 0 < m) : ∃ x, x ∈ xs ∧ ixR xs (n % m) = .ok x := by
  have h := md (n := n) h0
  have hl : (n % m).toNat < xs.length := by omega
  exact ⟨xs[(n % m).toNat], List.getElem_mem hl, ixR_at (by omega) (List.getElem?_eq_getElem hl)⟩
theorem sgnR_in {sg : Text} {n m : Int} (hm : (sg.length : Int) = m) (h0 : 0 < m) : ∃ c, c ∈ sg ∧ sgnR sg (n % m) = .ok [c] := by
  obtain ⟨c, h1, h2⟩ := ixR_in (n := n) hm h0
  exact ⟨c, h1, by unfold sgnR; rw [h2]; rfl⟩
theorem catR_ok {x y : List α} (h : x.length + y.length ≤ 16777216) : catR x y = .ok (x ++ y) := Rs.gd_pos h
theorem appR_ok {xs : List α} {x : α} (h : xs.length < 16777216) : appR xs x = .ok (xs ++ [x]) := Rs.gd_pos h
theorem putR_ok {kvs : List (Text × α)} {t : Text} {y : α} (h : kvs.length < 16777216) : putR kvs t y = .ok (dput kvs t y) := Rs.gd_pos h
theorem rngR_ok {n : Int} (h0 : 0 ≤ n) (h : n ≤ 16777216) : rngR n = .ok (rngL 0 n.toNat) := Rs.gd_pos ⟨by omega, h⟩
theorem modR_ok {i j : Int} (h : 0 < j) : modR i j = .ok (i % j) := Rs.gd_pos h
theorem divR_ok {i j : Int} (h : 0 < j) (h2 : j.natAbs < 2 ^ 64) : divR i j = .ok (i / j) := by
  unfold divR
  rw [Rs.gd_pos ⟨by omega, Nat.lt_of_le_of_lt (log2_le (n := 64) (Nat.lt_of_lt_of_le h2 (Nat.pow_le_pow_right (by decide) (by decide)))) (by decide)⟩, Int.fdiv_eq_ediv_of_nonneg _ (by omega)]
theorem mulR_ok {i j : Int} (h : IntMulOk i j) : mulR i j = .ok (i * j) := Rs.gd_pos h
theorem mulR_s {i j : Int} (h : -(2 ^ 64) < i ∧ i < 2 ^ 64) : mulR i j = .ok (i * j) := mulR_ok (CMul.ok (.inl h))
theorem sinR_one (c : Nat) (s : Text) : sinR [c] s = .ok (decide (c ∈ s)) := by
  unfold sinR
  exact Rs.gd_pos rfl
theorem rngL_at {lo : Int} {n i : Nat} {x : Int} (h : (rngL lo n)[i]? = some x) : x = lo + (i : Int) ∧ i < n := by
  have hi := (List.getElem?_eq_some_iff.mp h).1
  rw [rngL_len] at hi
  rw [rngL_get hi] at h
  exact ⟨(Option.some.inj h).symm, hi⟩
theorem lcR_pure (k : α → Bool) (f : α → β) (xs : List α) : lcR (fun x => Rs.ok (k x)) (fun x => Rs.ok (f x)) xs = .ok ((xs.filter k).map f) := lcR_ok (fun _ _ => rfl) fun _ _ _ => rfl
theorem forX_all {f : S → α → Rs (Stp S ζ)} {xs : List α} {s : S} (h : ∀ x ∈ xs, f s x = .ok (.nxt s)) : forX f s xs = .ok (.nxt s) := by
  induction xs with
  | nil => rfl
  | cons x xs ih =>
    unfold forX
    rw [h x (List.mem_cons_self ..)]
    exact ih fun y hy => h y (List.mem_cons_of_mem _ hy)
end
section
variable {α β S T ζ O : Type} {m m1 m2 : Rs α} {f : α → Rs β} {P : α → Prop} {Q : β → Prop} {k : Bool}
theorem isin_t [DecidableEq α] {x : α} {xs : List α} (h : x ∈ xs) : isin x xs = true := decide_eq_true h
theorem isin_f [DecidableEq α] {x : α} {xs : List α} (h : ¬ x ∈ xs) : isin x xs = false := decide_eq_false h
theorem Yes.mono {R : β → Prop} {m : Rs β} (h : Yes m Q) (q : ∀ y, Q y → R y) : Yes m R := let ⟨y, h1, h2⟩ := h; ⟨y, h1, q y h2⟩
theorem Yes.if (h1 : k = true → Yes m1 P) (h2 : k = false → Yes m2 P) : Yes (if k = true then m1 else m2) P := by
  cases k with
  | true => exact h1 rfl
  | false => exact h2 rfl
theorem Yes.fold {h : S → α → Rs S} {g : S → Rs β} {xs : List α} {s0 : S} (I : Nat → S → Prop) (h0 : I 0 s0) (hs : ∀ i x s, xs[i]? = some x → I i s → Yes (h s x) (I (i + 1))) (q : ∀ s, I xs.length s → Yes (g s) Q) : Yes ((foldR h s0 xs).bd g) Q := by
  obtain ⟨s, e, i⟩ := foldR_inv I h0 hs
  rw [e]
  exact q s i
theorem Yes.rng {n : Int} {f : List Int → Rs β} (h0 : 0 ≤ n) (h : n ≤ 16777216) (q : Yes (f (rngL 0 n.toNat)) Q) : Yes ((rngR n).bd f) Q := Yes.by (rngR_ok h0 h) q
end
theorem dig_loop {sg : Text} {m : Int} {xs : List Int} {f : Int × Text → Int → Rs (Int × Text)} (hm : (sg.length : Int) = m) (h0 : 0 < m) (hl : xs.length ≤ 1000) (n : Int)
    (hf : ∀ s x, f s x = ((sgnR sg (s.1 % m)).bd fun v => catR s.2 v).bd fun t => (Rs.ok (s.1 / m)).bd fun k => .ok (k, t)) : ∃ s, foldR f (n, ([] : Text)) xs = .ok s ∧ s.2.length = xs.length ∧ ∀ c ∈ s.2, c ∈ sg := by
  obtain ⟨s, h1, h2, h3⟩ := foldR_inv (f := f) (xs := xs) (s0 := (n, ([] : Text))) (fun i s => s.2.length = i ∧ ∀ c ∈ s.2, c ∈ sg) ⟨rfl, fun _ h => by cases h⟩ fun i x s hx hI => by
    obtain ⟨c, hc, e⟩ := sgnR_in (n := s.1) hm h0
    have hi := (List.getElem?_eq_some_iff.mp hx).1
    refine ⟨(s.1 / m, s.2 ++ [c]), ?_, ?_, ?_⟩
    · rw [hf, e, Rs.bd_ok, catR_ok (by rw [hI.1]; show i + 1 ≤ _; omega)]
      rfl
    · show (s.2 ++ [c]).length = _
      rw [List.length_append, hI.1]
      rfl
    · intro d hd
      rcases List.mem_append.mp hd with hd | hd
      · exact hI.2 d hd
      · rw [List.mem_singleton.mp hd]; exact hc
  exact ⟨s, h1, h2, h3⟩
end PL

namespace PL
open PySem PySem.Spec PyProof.Rows L2
section
variable {X : Cx} {Z : PL.Ctx} {α β γ δ S ζ O τ : Type} {r : Rel α} {s : Rel β} {x : α} {pos p p2 : Pos} {a b c e f tg elt d : Expr} {es : List Expr} {D : O → Ends} {body rest th el : List Stmt} {n : Str} {k : Nat} {Zs : S → PL.Ctx}
def EvS (X : Cx) (e : Expr) (Z : PL.Ctx) {S : Type} (Zs : S → PL.Ctx) {α : Type} (r : Rel α) (m : Rs (α × S)) : Prop :=
  ∀ q, m = .ok q → ∀ G H σ Q, Env Z G H σ → (∀ G' H' v, Same G G' → Env (Zs q.2) G' H' σ → r.rd G' v q.1 → Q v H') → wE X e σ H Q
def EvFS (X : Cx) (e : Expr) (Z : PL.Ctx) {S : Type} (Zs : S → PL.Ctx) {α : Type} (r : Rel α) (m : Rs (List α × S)) : Prop :=
  ∀ q, m = .ok q → ∀ G H σ Q, Env Z G H σ → (∀ G' H' o vs, Same G G' → Env (Zs q.2) G' H' σ → Z.b.H0 o = none → (∀ c ∈ (Zs q.2).ce, c.addr ≠ o) → G' o = none → H' o = some (.lst vs) → Paired (r.rd G') vs q.1 → q.1.length ≤ sizeLine → Q (.ref o) H') → wE X e σ H Q
def EvAS (X : Cx) (es : List Expr) (Z : PL.Ctx) {S : Type} (Zs : S → PL.Ctx) {A : Type} (sl : A → List Slot) (m : Rs (A × S)) : Prop :=
  ∀ q, m = .ok q → ∀ G H σ Q, Env Z G H σ → (∀ G' H' vs, Same G G' → Env (Zs q.2) G' H' σ → Slv G' vs (sl q.1) → Q vs H') → wA X es σ H Q
def EvIS (X : Cx) (tg iter : Expr) (Z : PL.Ctx) {S : Type} (Zs : S → PL.Ctx) {α : Type} (r : Rel α) (m : Rs (List α × S)) : Prop :=
  ∀ q, m = .ok q → ∃ wi : TI, PI X tg iter wi ∧ ∀ G H σ R, Env Z G H σ → (∀ G' H' J, Same G G' → Env (Zs q.2) G' H' σ → Walks J G' r q.1 → q.1.length ≤ sizeLine → R J H') → wi σ H R
theorem Env.is {G H : Hp} {σ : L2.St} {W : PL.Ctx} (E : Env Z G H σ) (hb : Z.b = W.b) (hs : Z.sl = W.sl) (hc : Z.ce = W.ce) : Env W G H σ := ⟨hb ▸ E.ex, hb ▸ E.ab, hs ▸ E.sl, hb ▸ hc ▸ E.ce, hc ▸ E.nd⟩
theorem es_m {m : Rs α} (t : S) (h : EvM X e Z r m) (hb : Z.b = (Zs t).b := by rfl) (hs : Z.sl = (Zs t).sl := by rfl) (hc : Z.ce = (Zs t).ce := by rfl) : EvS X e Z Zs r (m.bd fun x => .ok (x, t)) := fun q hq G H σ Q E k => by
  obtain ⟨x, h1, h2⟩ := Rs.bd_inv hq
  cases h2
  exact h x h1 G H σ Q E fun G1 H1 v e1 g1 => k G1 H1 v e1.g ((E.ext e1).is hb hs hc) g1
theorem eis_m {m : Rs (List α)} (t : S) (h : EvIM X tg e Z r m) (hb : Z.b = (Zs t).b := by rfl) (hs : Z.sl = (Zs t).sl := by rfl) (hc : Z.ce = (Zs t).ce := by rfl) : EvIS X tg e Z Zs r (m.bd fun x => .ok (x, t)) := fun q hq => by
  obtain ⟨x, h1, h2⟩ := Rs.bd_inv hq
  cases h2
  obtain ⟨wi, pi, hw⟩ := h x h1
  exact ⟨wi, pi, fun G H σ R E k => hw G H σ R E fun G1 H1 J e1 W hl => k G1 H1 J e1.g ((E.ext e1).is hb hs hc) W hl⟩
variable {mi : Rs (Int × S)} {mj : Int × S → Rs (Int × S)} {mt : Rs (Text × S)} {mu : Text × S → Rs (Text × S)} {mv : Text × S → Rs (Int × S)} {ml : Rs (List α × S)} {mw : List α × S → Rs (Int × S)}
theorem eas_nil (t : S) (hb : Z.b = (Zs t).b := by rfl) (hs : Z.sl = (Zs t).sl := by rfl) (hc : Z.ce = (Zs t).ce := by rfl) : EvAS X [] Z Zs (fun _ : Unit => []) (.ok ((), t)) := fun q hq G H σ Q E k => by
  cases hq
  exact toA pa_nil (k G H [] (Same.refl _) (E.is hb hs hc) .nil)
theorem eas_cons {A : Type} {sl : A → List Slot} {m : Rs (α × S)} {m2 : α × S → Rs (A × S)} (h : EvS X e Z Zs r m) (hr : ∀ q, EvAS X es (Zs q.2) Zs sl (m2 q)) (hs : starEach (e :: es) X.env = (false, eval e X.env) :: starEach es X.env := by rfl) :
    EvAS X (e :: es) Z Zs (fun q : α × A => .val r q.1 :: sl q.2) (m.bd fun x => (m2 x).bd fun y => .ok ((x.1, y.1), y.2)) := fun q hq G H σ Q E k => by
  obtain ⟨x, g1, g2⟩ := Rs.bd_inv hq
  obtain ⟨y, g3, g4⟩ := Rs.bd_inv g2
  cases g4
  exact toA (pa_cons ce ca hs) (h x g1 G H σ _ E fun G1 H1 v s1 E1 h1 => hr x y g3 G1 H1 σ _ E1 fun G2 H2 vs s2 E2 h2 => k G2 H2 (v :: vs) (s1.trans s2) E2 (.cons (r.mono s2 h1) h2))
end
end PL

namespace PL
open PySem PySem.Spec PyProof.Rows L2
section
variable {P : Program} {w : World} {K : PySem.W.Frag} {mg : Str → Option Value} {base : Heap} {τ : Type} {rt : Rel τ}
end
section
variable {X : Cx} {Z : PL.Ctx} {α β γ δ S ζ O τ : Type} {r : Rel α} {s : Rel β} {rt : Rel τ} {x : α} {pos p p2 : Pos} {a b c e f tg elt d : Expr} {es : List Expr} {D : O → Ends} {body rest th el : List Stmt} {n v : Str} {k : Nat} {Zs : S → PL.Ctx} {Zl : List τ → PL.Ctx}
theorem es_bd {m : Rs β} {g : β → Rs (α × S)} (hm : EvM X a Z s m) (h : ∀ x, EvE X a Z s x → EvS X e Z Zs r (g x)) : EvS X e Z Zs r (m.bd g) := fun y q => let ⟨x, h1, h2⟩ := Rs.bd_inv q; h x (hm x h1) y h2
variable {m : Rs (α × S)} {g : α × S → Rs O}
end
end PL

namespace PL
open PySem PySem.Spec PyProof.Rows L2
def mapS {α β S : Type} (f : S → α → Rs (β × S)) : S → List α → Rs (List β × S)
  | t, [] => .ok ([], t)
  | t, x :: xs => (f t x).bd fun q => (mapS f q.2 xs).bd fun p => .ok (q.1 :: p.1, p.2)
theorem mapS_acc {α β S : Type} {f : S → α → Rs (β × S)} : ∀ {xs : List α} {t : S} {q : List β × S}, mapS f t xs = .ok q → ∃ (acc : Nat → List β) (st : Nat → S), acc 0 = [] ∧ st 0 = t ∧ (∀ i, (acc i).length ≤ i) ∧ acc xs.length = q.1 ∧ st xs.length = q.2 ∧ ∀ i x, xs[i]? = some x → ∃ y, f (st i) x = .ok (y, st (i + 1)) ∧ acc (i + 1) = acc i ++ [y]
  | [], t, q, h => by
    cases h
    exact ⟨fun _ => [], fun _ => t, rfl, rfl, fun _ => Nat.zero_le _, rfl, rfl, fun i x hx => by simp at hx⟩
  | x :: xs, t, q, h => by
    unfold mapS at h
    obtain ⟨y, h1, h2⟩ := Rs.bd_inv h
    obtain ⟨p, h3, h4⟩ := Rs.bd_inv h2
    cases h4
    obtain ⟨acc, st, a0, s0, a1, a2, s2, a3⟩ := mapS_acc h3
    refine ⟨fun i => match i with | 0 => [] | i + 1 => y.1 :: acc i, fun i => match i with | 0 => t | i + 1 => st i, rfl, rfl, fun i => ?_, by show y.1 :: acc xs.length = _; rw [a2], s2, fun i z hz => ?_⟩
    · cases i with
      | zero => exact Nat.zero_le _
      | succ i => exact Nat.succ_le_succ (a1 i)
    · cases i with
      | zero =>
        cases hz
        exact ⟨y.1, by show f t x = .ok (y.1, st 0); rw [h1, s0], by show y.1 :: acc 0 = _; rw [a0]; rfl⟩
      | succ i =>
        obtain ⟨w, w1, w2⟩ := a3 i z (by simpa using hz)
        exact ⟨w, w1, by show y.1 :: acc (i + 1) = (y.1 :: acc i) ++ [w]; rw [w2]; rfl⟩
def Ctx.plus (Z : PL.Ctx) (c : Cell) : PL.Ctx := ⟨Z.b, Z.sl, Z.ce ++ [c]⟩
theorem Env.keepO {W : PL.Ctx} {G H : Hp} {σ : L2.St} {o : Addr} {u : HO} (E : Env W G H σ) (h0 : W.b.H0 o = none) (hne : ∀ c ∈ W.ce, c.addr ≠ o) (hG : G o = none) (hH : H o = some u) : Env W (upd G o u) H σ := by
  have s1 : Same G (upd G o u) := same_upd hG
  refine ⟨⟨E.ex.g.trans s1, fun b v hb => ?_, E.ex.h, fun b hb hg => ?_⟩, fun B hB => (E.ab B hB).trans s1, fun i s hi => let ⟨ov, q1, q2⟩ := E.sl i s hi; ⟨ov, q1, Slot.ok_mono s1 q2⟩, fun c hc => ?_, E.nd⟩
  · by_cases hbo : b = o
    · subst hbo
      rw [upd_same] at hb
      rw [← hb]
      exact .inl hH
    · rw [upd_ne hbo] at hb
      exact E.ex.s b v hb
  · have hbo : b ≠ o := fun z => hb (z ▸ h0)
    rw [upd_ne hbo]
    exact E.ex.n b hb hg
  · have hc' := E.ce c hc
    exact Cell.ok_G hc' s1 (by rw [upd_ne (hne c hc)]; exact hc'.2.1)
section
variable {X : Cx} {Z : PL.Ctx} {α β γ δ S ζ O τ : Type} {r : Rel α} {s : Rel β} {rt : Rel τ} {x : α} {pos p p2 : Pos} {a b c e f tg elt d : Expr} {es : List Expr} {D : O → Ends} {body rest th el : List Stmt} {n : Str} {k : Nat} {Zs : S → PL.Ctx}
theorem es_f {m : Rs (List α × S)} (hb : ∀ t, (Zs t).b = Z.b) (h : EvFS X e Z Zs r m) : EvS X e Z Zs (rL X.K r) m := fun q hq G H σ Q E k => h q hq G H σ Q E fun G1 H1 o vs s1 E1 h0 hne h2 h3 h4 h5 =>
  k (upd G1 o (.lst vs)) H1 (.ref o) (s1.trans (same_upd h2)) (E1.keepO (by rw [hb]; exact h0) hne h2 h3) ⟨o, vs, rfl, SqL.of upd_same, pmono (fun _ _ => r.mono (same_upd h2)) h4, h5⟩
abbrev TurnS (X : Cx) (Z : PL.Ctx) (Zs : S → PL.Ctx) (scope : Scope) (own : List (Str × Nat)) (tg elt : Expr) {α β : Type} (r : Rel α) (s : Rel β) (fM : S → α → Rs (β × S)) : Prop := ∀ (B : Hp) (x : α) (t : S) (l : Addr) (ac : List β), ∃ (Z' : PL.Ctx) (Zx : S → PL.Ctx),
  (∀ st H C cl fp, EvGB (blkX X scope st H C cl fp) tg r x (own.map (·.2)) ((((Zs t).plus (.lst l s ac)).up B).wipe (own.map (·.2))) Z') ∧ (∀ st H C cl fp, EvS (blkX X scope st H C cl fp) elt Z' Zx s (fM t x)) ∧ ∀ u, (Zx u).b = ((Zs u).up B).b ∧ (Zx u).ce = (Zs u).ce ++ [.lst l s ac]
def LcS (X : Cx) (Z : PL.Ctx) (Zs : S → PL.Ctx) (scope : Scope) (own : List (Str × Nat)) (tg e elt : Expr) {β : Type} (s : Rel β) (m : Rs (List β × S)) : Prop := ∀ q, m = .ok q → ∃ wi, PI X tg e wi ∧
  ∀ G H σ (Q : VK), Env Z G H σ → (∀ G' H' o vs, Same G G' → Env (Zs q.2) G' H' σ → Z.b.H0 o = none → (∀ c ∈ (Zs q.2).ce, c.addr ≠ o) → G' o = none → H' o = some (.lst vs) → Paired (s.rd G') vs q.1 → q.1.length ≤ sizeLine → Q (.ref o) H') → tLc wi (gB X scope tg) tYes (eB X scope elt) (own.map (·.2)) σ H Q
theorem lcs_1 {scope : Scope} {own : List (Str × Nat)} {mx : Rs (List α × S)} {fM : S → α → Rs (β × S)} (src : EvIS X tg e Z Zs r mx) (hb : ∀ t, (Zs t).b = Z.b) (hsl : ∀ t u, (Zs t).sl = (Zs u).sl) (turn : TurnS X Z Zs scope own tg elt r s fM) : LcS X Z Zs scope own tg e elt s (mx.bd fun y => mapS fM y.2 y.1) := fun q hq => by
  obtain ⟨y, q1, q2⟩ := Rs.bd_inv hq
  obtain ⟨wi, pi, hw⟩ := src y q1
  obtain ⟨acc, st, a0, t0, a1, a2, t2, a3⟩ := mapS_acc q2
  refine ⟨wi, pi, fun G H σ Q E k => hw G H σ _ E fun G1 H1 J s1 E1 W hl D nD => ?_⟩
  have h0D : Z.b.H0 D = none := by rw [← hb y.2]; exact E1.ex.h.free nD
  have hGD : G1 D = none := E1.le.free nD
  have start : Env ((Zs y.2).plus (.lst D s [])) G1 (upd H1 D (.lst [])) σ := by
    have E2 := E1.ext (.newM (o := .lst []) E1.le nD)
    refine ⟨E2.ex, E2.ab, E2.sl, fun c hc => ?_, ?_⟩
    · rcases List.mem_append.mp hc with hc | hc
      · exact E2.ce c hc
      · rw [List.mem_singleton.mp hc]
        exact Cell.lst_ok (by show (Zs y.2).b.H0 D = none; rw [hb]; exact h0D) hGD upd_same .nil (Nat.zero_le _)
    · show (((Zs y.2).ce ++ [_]).map Cell.addr).Nodup
      rw [List.map_append]
      refine List.nodup_append.mpr ⟨E1.nd, by simp, fun u hu w hw z => ?_⟩
      obtain ⟨c, hc, hco⟩ := List.mem_map.mp hu
      have hw' : w = D := List.mem_singleton.mp hw
      obtain ⟨_, _, v, q3, _⟩ := E1.ce c hc
      rw [hco, z, hw', nD] at q3
      cases q3
  refine ⟨fun (i m : Nat) (H2 : Hp) => m = y.1.length - i ∧ i ≤ y.1.length ∧ ∃ G2, Env (((Zs (st i)).plus (.lst D s (acc i))).up G1) G2 H2 σ, ⟨y.1.length, by simp, Nat.zero_le _, G1, by rw [t0, a0]; exact start.upB (Same.refl _)⟩, ?_⟩
  rintro i m H2 ⟨rfl, hi, G2, E2⟩
  have hcell : ∀ (t : S) (ac : List β), (((Zs t).plus (.lst D s ac)).up G1).ce[(Zs t).ce.length]? = some (.lst D s ac) := fun t ac => by
    show ((Zs t).ce ++ [_])[(Zs t).ce.length]? = _
    rw [List.getElem?_append_right (Nat.le_refl _), Nat.sub_self]
    rfl
  by_cases hlt : i < y.1.length
  · refine .inr ⟨W.go i G2 H2 E2.above E2.le hlt, fun (H' : Hp) => ∃ G2, Env (((Zs (st (i + 1))).plus (.lst D s (acc (i + 1)))).up G1) G2 H' σ, fun H' h => ⟨y.1.length - (i + 1), by omega, rfl, hlt, h⟩, fun v H3 hy => ?_⟩
    obtain ⟨x, G3, hx, e3, hr⟩ := W.yld i G2 H2 v H3 E2.above E2.le hlt hy
    obtain ⟨w, w1, w2⟩ := a3 i x hx
    obtain ⟨Z', Zx, u1, u2, u3⟩ := turn G1 x (st i) D (acc i)
    intro st' H0 C cl fp
    have E3 := E2.ext e3
    refine u1 st' H0 C cl fp G3 H3 (L2.wipe σ (own.map (·.2))) v _ (E3.wipe _) hr fun σ2 Eb o2 => ?_
    refine ⟨Eq.trans o2 (wipe_idem σ _), ?_⟩
    have key : ∀ Q : Bool → Hp → Prop, Q true H3 → tYes σ2 H3 Q := fun _ h => h
    refine key _ ?_
    rw [if_pos rfl]
    intro st'' H0' C' cl' fp'
    refine u2 st'' H0' C' cl' fp' _ w1 G3 H3 σ2 _ Eb fun G5 H5 z s5 E5 hz => ?_
    obtain ⟨b5, c5⟩ := u3 (st (i + 1))
    -- the outer slots again
    have E6 : Env (((Zs (st (i + 1))).plus (.lst D s (acc i))).up G1) G5 H5 σ := by
      have hex := E5.ex
      have hab := E5.ab
      have hce := E5.ce
      have hnd := E5.nd
      rw [b5] at hex hab hce
      rw [c5] at hce hnd
      refine ⟨hex, hab, fun i' s' hi' => ?_, hce, hnd⟩
      have hi2 : (Zs (st (i + 1))).sl[i']? = some s' := hi'
      rw [hsl _ (st i)] at hi2
      obtain ⟨ov, g1, g2⟩ := E3.sl i' s' hi2
      exact ⟨ov, g1, Slot.ok_mono s5 g2⟩
    obtain ⟨_, _, vs, dH, dP, dL⟩ := Cell.ok_lst (E6.ce _ (List.mem_of_getElem? (hcell (st (i + 1)) (acc i))))
    refine ⟨vs, dH, ?_, G5, ?_⟩
    · have := plen dP
      have := a1 i
      omega
    · have E7 := E6.cell (hcell (st (i + 1)) (acc i)) (psnoc dP hz) (ys := acc i ++ [w]) (by have := a1 i; rw [List.length_append]; show _ + 1 ≤ _; omega)
      refine E7.is rfl rfl ?_
      show ((Zs (st (i + 1))).ce ++ [_]).set _ _ = (Zs (st (i + 1))).ce ++ [_]
      rw [List.set_append_right _ _ (Nat.le_refl _), Nat.sub_self, w2]
      rfl
  · have e : i = y.1.length := by omega
    subst e
    rw [t2, a2] at E2
    refine .inl ⟨W.stop _ G2 H2 E2.above E2.le (Nat.le_refl _), ?_⟩
    have E2' := E2.dn
    obtain ⟨_, dG, vs, dH, dP, dL⟩ := Cell.ok_lst (E2.ce _ (List.mem_of_getElem? (hcell q.2 q.1)))
    have hnd := E2.nd
    have hnd : (((Zs q.2).ce ++ [Cell.lst D s q.1]).map Cell.addr).Nodup := hnd
    rw [List.map_append] at hnd
    have hnd2 := List.nodup_append.mp hnd
    refine k G2 H2 D vs (s1.trans E2.above) ⟨E2'.ex, E2'.ab, E2'.sl, fun c hc => E2'.ce c (List.mem_append_left _ hc), hnd2.1⟩ h0D (fun c hc z => ?_) dG dH dP dL
    exact hnd2.2.2 _ (List.mem_map_of_mem hc) D (List.mem_singleton.mpr rfl) z
theorem efs_lc {scope : Scope} (own : List (Str × Nat)) {m : Rs (List β × S)} (hc : X.calm = true) (nd : X.N.Nodup) (h : LcS X Z Zs scope own tg e elt s m)
    (ok : blkC X.N X.env.scope scope own = true := by kernel_rfl) (hs : ∀ x, foldedSetIterable e X.env x = pure x := by intro _; rfl) : EvFS X (.ListComp elt [⟨tg, e, [], 0⟩] scope pos) Z Zs s m := fun q hq => by
  obtain ⟨wi, h1, h3⟩ := h q hq
  exact fun G H σ Q E k => toE (pe_lc (own := own) hc nd h1 (blkOk_by ok) pgB (fun _ _ _ _ _ => pts_nil) peB hs) (h3 G H σ Q E k)
end
end PL

namespace PL
open PySem PySem.Spec PyProof.Rows L2 TL
section
variable {X : Cx} {Z : PL.Ctx} {α β S ζ O τ : Type} {r : Rel α} {rt : Rel τ} {pos p apos : Pos} {a b e : Expr} {es : List Expr} {n v : Str} {k : Nat} {Zs : S → PL.Ctx} {Zl : List τ → PL.Ctx} {t : Text} {xs : List Text}
def B1 {ζ τ : Type}   (rz : Rel ζ) (f : List τ → Rs (ζ × List τ)) : List Slot → List τ → List τ → (Hp → V → Prop) → Prop := fun ss xs ys R => ∃  z, ss = [] ∧ f xs  = .ok (z, ys) ∧ R = fun G v => rz.rd G v z
def B4 {ζ τ : Type} {α2 : Type} {α3 : Type} {α4 : Type} (r2 : Rel α2) (r3 : Rel α3) (r4 : Rel α4) (rz : Rel ζ) (f : List τ → α2 → α3 → α4 → Rs (ζ × List τ)) : List Slot → List τ → List τ → (Hp → V → Prop) → Prop := fun ss xs ys R => ∃ x2 x3 x4 z, ss = [.val r2 x2, .val r3 x3, .val r4 x4] ∧ f xs x2 x3 x4 = .ok (z, ys) ∧ R = fun G v => rz.rd G v z
def B5 {ζ τ : Type} {α2 : Type} {α3 : Type} {α4 : Type} {α5 : Type} (r2 : Rel α2) (r3 : Rel α3) (r4 : Rel α4) (r5 : Rel α5) (rz : Rel ζ) (f : List τ → α2 → α3 → α4 → α5 → Rs (ζ × List τ)) : List Slot → List τ → List τ → (Hp → V → Prop) → Prop := fun ss xs ys R => ∃ x2 x3 x4 x5 z, ss = [.val r2 x2, .val r3 x3, .val r4 x4, .val r5 x5] ∧ f xs x2 x3 x4 x5 = .ok (z, ys) ∧ R = fun G v => rz.rd G v z
def B6 {ζ τ : Type} {α2 : Type} {α3 : Type} {α4 : Type} {α5 : Type} {α6 : Type} (r2 : Rel α2) (r3 : Rel α3) (r4 : Rel α4) (r5 : Rel α5) (r6 : Rel α6) (rz : Rel ζ) (f : List τ → α2 → α3 → α4 → α5 → α6 → Rs (ζ × List τ)) : List Slot → List τ → List τ → (Hp → V → Prop) → Prop := fun ss xs ys R => ∃ x2 x3 x4 x5 x6 z, ss = [.val r2 x2, .val r3 x3, .val r4 x4, .val r5 x5, .val r6 x6] ∧ f xs x2 x3 x4 x5 x6 = .ok (z, ys) ∧ R = fun G v => rz.rd G v z
def B7 {ζ τ : Type} {α2 : Type} {α3 : Type} {α4 : Type} {α5 : Type} {α6 : Type} {α7 : Type} (r2 : Rel α2) (r3 : Rel α3) (r4 : Rel α4) (r5 : Rel α5) (r6 : Rel α6) (r7 : Rel α7) (rz : Rel ζ) (f : List τ → α2 → α3 → α4 → α5 → α6 → α7 → Rs (ζ × List τ)) : List Slot → List τ → List τ → (Hp → V → Prop) → Prop := fun ss xs ys R => ∃ x2 x3 x4 x5 x6 x7 z, ss = [.val r2 x2, .val r3 x3, .val r4 x4, .val r5 x5, .val r6 x6, .val r7 x7] ∧ f xs x2 x3 x4 x5 x6 x7 = .ok (z, ys) ∧ R = fun G v => rz.rd G v z
end
end PL

namespace PL
open PySem PySem.Spec PyProof.Rows L2 PySem.W
section
variable {X : Cx} {Z : PL.Ctx} {α β : Type} {r : Rel α} {x : α} {pos p : Pos} {a b c e tg : Expr} {k m : Nat}
end
section
variable {K : PySem.W.Frag} {α β γ δ : Type} {r : Rel α} {s : Rel β} {t : Rel γ} {u : Rel δ} {n m l o : Nat}
end
end PL

namespace PL
open PySem PySem.Spec PyProof.Rows L2 PySem.W
end PL

namespace PL
open PySem PySem.Spec PyProof.Rows L2 PySem.W
section
variable {X : Cx} {Z : PL.Ctx} {α β : Type} {r : Rel α} {x : α} {pos p cp apos : Pos} {a b c d e tg : Expr} {k m : Nat} {kvs : List (Text × α)}
end
end PL

namespace PL
open PySem PySem.Spec PyProof.Rows L2
section
variable {K : PySem.W.Frag} {α β γ δ : Type} {r : Rel α} {s : Rel β} {t : Rel γ} {u : Rel δ}
end
section
variable {X : Cx} {Z : PL.Ctx} {α β γ O : Type} {r : Rel α} {s : Rel β} {x : α} {y : β} {e elt tg c a b : Expr} {kvs kvs' : List (Text × α)} {pos p : Pos} {k : Nat} {D : O → Ends} {rest : List Stmt}
end
end PL

namespace PL
open PySem PySem.Spec PyProof.Rows L2
section
variable {X : Cx} {Z : PL.Ctx} {α β γ δ ε ζ τ O : Type} {r : Rel α} {s : Rel β} {t : Rel γ} {u : Rel δ} {rz : Rel ζ} {rt : Rel τ} {pos p : Pos} {a e : Expr} {es : List Expr} {n : Str} {k : Nat} {D : O → Ends} {rest : List Stmt} {x : α} {y : β} {z : γ} {q : δ} {xs ys : List τ}
theorem gm_clear (i j : Nat) {o : Addr} {zs : List α} {m : Rs O} {px pa pc : Pos} (hz : Z.sl[i]? = some (.val rRef o)) (hj : Z.ce[j]? = some (.lst o r zs))
    (h : GM X rest (Z.setC (Z.ce.set j (.lst o r []))) D m) (hN : X.N[i]? = some n := by rfl) (hv : Vis X.env.scope n := by first | exact Or.inl rfl | exact Or.inr (Or.inl rfl) | exact Or.inr (Or.inr rfl))
    (hbase : attributeBase (.Name n px) "clear" X.env (eval (.Name n px) X.env) = eval (.Name n px) X.env := by rfl) (hline : (pa.endLine == pc.line) = true := by rfl)
    (hsw : swapsWith (.Call (.Attribute (.Name n px) "clear" pa) [] [] pc) none pos.line X.env = pure false := by rfl)
    (hd : (n == ("__debug__" : Str)) = false := by decide) (hcd : (n == ("__classdict__" : Str)) = false := by decide) : GM X (.Expr (.Call (.Attribute (.Name n px) "clear" pa) [] [] pc) pos :: rest) Z D m := fun o' q =>
  goes_of (ps_expr (pe_bm0 PySem.F.plainAttrs_list PySem.F.slot_list_clear PySem.F.type_list_clear mt_clear (pe_var hN hv hd hcd) hbase hline) hsw) fun G H σ E => by
    obtain ⟨v, h1, h2⟩ := E.get hz
    obtain rfl : v = .ref o := h2
    obtain ⟨c0, cG, vs, cH, cP, cL⟩ := Cell.ok_lst (E.ce _ (List.mem_of_getElem? hj))
    exact ⟨.ref o, h1, .inl ⟨rfl, _, SqL.of cH⟩, o, vs, rfl, rfl, cH, h o' q G _ σ (E.cell hj .nil (Nat.zero_le _))⟩
end
end PL

namespace PL
open PySem PySem.Spec PyProof.Rows L2 TL
section
variable {α β S : Type}
theorem dput_mem {α : Type} {t : Text} {y : α} {q : Text × α} : ∀ {l : List (Text × α)}, q ∈ dput l t y → q = (t, y) ∨ q ∈ l
  | [], h => .inl (List.mem_singleton.mp h)
  | (k, x) :: l, h => by
    unfold dput at h
    split at h
    · rename_i hk
      rcases List.mem_cons.mp h with h | h
      · exact .inl (by rw [h, hk])
      · exact .inr (List.mem_cons_of_mem _ h)
    · rcases List.mem_cons.mp h with h | h
      · exact .inr (by rw [h]; exact List.mem_cons_self ..)
      · rcases dput_mem h with h | h
        · exact .inl h
        · exact .inr (List.mem_cons_of_mem _ h)
theorem dget_mem_some {α : Type} {t : Text} {x : α} : ∀ {l : List (Text × α)}, dget l t = some x → (t, x) ∈ l
  | (k, y) :: l, h => by
    unfold dget at h
    split at h
    · rename_i e
      cases h
      rw [e]
      exact List.mem_cons_self ..
    · exact List.mem_cons_of_mem _ (dget_mem_some h)
end
end PL

namespace PL
open PySem PySem.Spec PyProof.Rows L2
section
variable {K : PySem.W.Frag} {α : Type}
end
section
variable {X : Cx} {Z : PL.Ctx} {α β O : Type} {r : Rel α} {x : α} {pos p pos' : Pos} {o e : Expr} {D : O → Ends} {rest : List Stmt}
theorem gm_fldM (j : Nat) {l dx C : Addr} {fs : List (Str × Slot)} {f : Str} {m : Rs α} {g : α → Rs O} (hc : Cls X.K C) (hn : NoAttr X.K C f) (he : EvM X e Z r m) (ho : EvE X o Z rRef l) (hj : Z.ce[j]? = some (.ins l dx C fs)) (hl : fs.length < 1000)
    (h : ∀ x, GM X rest (Z.setC (Z.ce.set j (.ins l dx C (putS f (.val r x) fs)))) D (g x)) (hs : swapsWith e (some (.Attribute o f pos')) pos.line X.env = pure false := by rfl) : GM X (.Assign [.Attribute o f pos'] e pos :: rest) Z D (m.bd g) := fun z q => by
  obtain ⟨x, q1, q2⟩ := Rs.bd_inv q
  exact goes_fld j hc hn (he x q1) ho hj hl (h x z q2) hs
theorem gm_endI {G0 H : Hp} {l dx C : Addr} {fs : O → List (Str × Slot)} (z : O) (hc : Z.ce = [.ins l dx C (fs z)]) (h0 : Z.b.G0 = G0 := by rfl) (h1 : Z.b.H0 = hid H l := by rfl) : GM X [] Z (fun z => retI G0 H l dx C (fs z)) (.ok z) := fun o q => by
  cases q
  exact goes_endI hc h0 h1
end
end PL
namespace PL
open PySem PySem.Spec PyProof.Rows L2
section
variable {X : Cx} {Z : PL.Ctx} {α S : Type} {Zs : S → PL.Ctx} {r : Rel α} {p pos : Pos} {a : Expr}
end
end PL

namespace PL
open PySem PySem.Spec PyProof.Rows L2
theorem isC_ok {K : PySem.W.Frag} {C : Addr} (h : isCB K C = true) : IsC K C := by
  unfold isCB at h
  obtain ⟨h1, h⟩ := He.ba h
  obtain ⟨h2, h⟩ := He.ba h
  obtain ⟨h3, h4⟩ := He.ba h
  exact ⟨of_decide_eq_true h1, of_decide_eq_true h2, of_decide_eq_true h3, of_decide_eq_true h4⟩
section
variable {X : Cx} {Z : PL.Ctx} {α β O : Type} {r : Rel α} {x : α} {pos p : Pos} {a : Expr} {D : O → Ends} {rest : List Stmt}
end
end PL

namespace PL
open PySem PySem.Spec PyProof.Rows L2
section
variable {X : Cx} {Z : PL.Ctx} {α S ζ O : Type} {r : Rel α} {pos px : Pos} {tg : Expr} {body rest : List Stmt} {n : Str}
theorem goes_forC {xs : List α} {o : Addr} {D : Ends} (i j : Nat) (Zs : S → PL.Ctx) (I : Nat → S → Prop) (s0 : S) (hc : X.calm = true) (hp : PassesOwn (model X.prog X.w) X.A X.env X.xe) (hz : Z.sl[i]? = some (.val rRef o)) (hj0 : Z.ce[j]? = some (.lst o r xs)) (hj : ∀ s, (Zs s).ce[j]? = some (.lst o r xs)) (hI : I 0 s0) (hb0 : Z.b = (Zs s0).b) (hs0 : SubS Z.sl (Zs s0).sl) (hc0 : Z.ce = (Zs s0).ce)
    (turn : ∀ (B : Hp) (i : Nat) (x : α) (s : S), xs[i]? = some x → I i s → ∃ Z', EvG X tg r x ((Zs s).up B) Z' ∧ Goes X body Z' { nx := LN Zs I B (i + 1), rt := D.rt, bk := wSs X rest D, ct := LN Zs I B (i + 1) })
    (after : ∀ s, I xs.length s → Goes X rest (Zs s) D) (hN : X.N[i]? = some n := by rfl) (hv : Vis X.env.scope n := by first | exact Or.inl rfl | exact Or.inr (Or.inl rfl) | exact Or.inr (Or.inr rfl))
    (hs : ∀ x, foldedSetIterable (.Name n px) X.env x = pure x := by intro _; rfl) (hd : (n == ("__debug__" : Str)) = false := by decide) (hcd : (n == ("__classdict__" : Str)) = false := by decide) : Goes X (.For tg (.Name n px) body [] pos :: rest) Z D := by
  refine goes_of (ps_for hp hc (pi_list (pe_var hN hv hd hcd)) cg css hs) fun G H σ E => ?_
  obtain ⟨v, h1, h2⟩ := E.get hz
  obtain rfl : v = .ref o := h2
  obtain ⟨c0, cG, vs, cH, cP, cL⟩ := Cell.ok_lst (E.ce _ (List.mem_of_getElem? hj0))
  refine ⟨.ref o, h1, o, rfl, ⟨vs, SqL.of cH⟩, ?_⟩
  refine ⟨fun i m σ2 H2 => m = xs.length - i ∧ i ≤ xs.length ∧ ∃ s G2, I i s ∧ Env ((Zs s).up G) G2 H2 σ2, ⟨xs.length, by simp, Nat.zero_le _, s0, G, hI, (E.weak hb0 hs0 hc0).upB (Same.refl _)⟩, ?_⟩
  rintro i m σ2 H2 ⟨rfl, hi, s, G2, hIs, E2⟩
  obtain ⟨_, _, us, uH, uP, uL⟩ := Cell.ok_lst (E2.ce _ (List.mem_of_getElem? (hj s)))
  have hlen : us.length = xs.length := plen uP
  by_cases hlt : i < xs.length
  · have hi' : i < us.length := by omega
    refine .inr ⟨⟨us, us[i], SqL.of uH, List.getElem?_eq_getElem hi'⟩, LN Zs I G (i + 1), fun σ' H' ⟨s', G', q1, q2⟩ => ⟨xs.length - (i + 1), by omega, rfl, hlt, s', G', q1, q2⟩, fun v H3 hy => ?_⟩
    obtain ⟨e3, hy⟩ := hy
    subst e3
    obtain ⟨x, q1, q2⟩ := pget uP (hy us (SqL.of uH))
    obtain ⟨Z', g1, g2⟩ := turn G i x s q1 hIs
    exact g1 G2 _ σ2 v _ E2 q2 fun σ' E' => g2 G2 _ σ' E'
  · have e : i = xs.length := by omega
    subst e
    exact .inl ⟨⟨us, SqL.of uH, by omega⟩, after s hIs G2 H2 σ2 E2.dn⟩
theorem gm_forXC {xs : List α} {o : Addr} {D : O → Ends} {f : S → α → Rs (Stp S ζ)} {g : S → Rs O} (i j : Nat) (er : ζ → O) (Zs : S → PL.Ctx) (s0 : S) (hc : X.calm = true) (hp : PassesOwn (model X.prog X.w) X.A X.env X.xe) (hz : Z.sl[i]? = some (.val rRef o)) (hj0 : Z.ce[j]? = some (.lst o r xs)) (hj : ∀ s, (Zs s).ce[j]? = some (.lst o r xs)) (hb0 : Z.b = (Zs s0).b) (hs0 : SubS Z.sl (Zs s0).sl) (hc0 : Z.ce = (Zs s0).ce)
    (turn : ∀ (B : Hp) (x : α) (s : S), ∃ Z', EvG X tg r x ((Zs s).up B) Z' ∧ GM X body Z' (DX Zs B D er) (f s x)) (after : ∀ s, GM X rest (Zs s) D (g s)) (hN : X.N[i]? = some n := by rfl) (hv : Vis X.env.scope n := by first | exact Or.inl rfl | exact Or.inr (Or.inl rfl) | exact Or.inr (Or.inr rfl))
    (hs : ∀ x, foldedSetIterable (.Name n px) X.env x = pure x := by intro _; rfl) (hd : (n == ("__debug__" : Str)) = false := by decide) (hcd : (n == ("__classdict__" : Str)) = false := by decide) : GM X (.For tg (.Name n px) body [] pos :: rest) Z D ((forX f s0 xs).bd (Stp.fin g er)) := fun z q => by
  obtain ⟨t, q1, q2⟩ := Rs.bd_inv q
  refine goes_forC i j Zs (fun i s => forX f s (xs.drop i) = .ok t) s0 hc hp hz hj0 hj q1 hb0 hs0 hc0 (fun B i x s hx hI => ?_) (fun s hI => ?_) hN hv hs hd hcd
  · obtain ⟨o1, h1, h2⟩ := forX_drop hx hI
    obtain ⟨Z', g1, g2⟩ := turn B x s
    refine ⟨Z', g1, ?_⟩
    rcases h2 with ⟨s', rfl, h2⟩ | ⟨s', rfl, rfl⟩ | ⟨w, rfl, rfl⟩
    · exact goes_mono (g2 _ h1) (fun σ H ⟨G, E⟩ => ⟨s', G, h2, E⟩) (fun _ _ z => z.elim) (fun _ _ z => z.elim) fun σ H ⟨G, E⟩ => ⟨s', G, h2, E⟩
    · exact goes_mono (g2 _ h1) (fun _ _ z => z.elim) (fun _ _ z => z.elim) (fun σ H ⟨G, E⟩ => after s' z q2 G H σ E.dn) fun _ _ z => z.elim
    · cases q2
      exact goes_mono (g2 _ h1) (fun _ _ z => z.elim) (fun _ _ z => z) (fun _ _ z => z.elim) fun _ _ z => z.elim
  · rw [List.drop_length] at hI
    cases hI
    exact after s z q2
end
end PL

namespace PL
open PySem PySem.Spec PyProof.Rows L2
theorem okPBs_all : ∀ {ds : List PyData}, okPBs ds = true → ∀ d ∈ ds, okPB d = true
  | [], _, d, h => by cases h
  | e :: ds, h, d, hd => by
    unfold okPBs at h
    rw [Bool.and_eq_true] at h
    rcases List.mem_cons.mp hd with rfl | hd
    · exact h.1
    · exact okPBs_all h.2 d hd
theorem okPBs_of : ∀ {ds : List PyData}, (∀ d ∈ ds, okPB d = true) → okPBs ds = true
  | [], _ => rfl
  | e :: ds, h => by
    unfold okPBs
    rw [h e (List.mem_cons_self ..), okPBs_of fun d hd => h d (List.mem_cons_of_mem _ hd)]
    rfl
theorem okPB_tup {ds : List PyData} (hl : ds.length ≤ sizeLine) (h : ∀ d ∈ ds, okPB d = true) : okPB (.tuple ds) = true := by
  unfold okPB
  rw [decide_eq_true hl, okPBs_of h]
  rfl
theorem okPB_tup' {ds : List PyData} (h : okPB (.tuple ds) = true) : ds.length ≤ sizeLine ∧ ∀ d ∈ ds, okPB d = true := by
  unfold okPB at h
  rw [Bool.and_eq_true] at h
  exact ⟨of_decide_eq_true h.1, okPBs_all h.2⟩
theorem okPB_str {x : Text} (h : okT x) : okPB (.str (mkS x)) = true := by
  have e : (mkS x).cps.toList = x := tx_mk x
  unfold okPB
  rw [e, decide_eq_true h.1]
  show x.all _ = true
  rw [List.all_eq_true]
  exact fun c hc => decide_eq_true (h.2 c hc)
theorem okPB_str' {x : Str} (h : okPB (.str x) = true) : okT x.cps.toList := by
  unfold okPB at h
  rw [Bool.and_eq_true, List.all_eq_true] at h
  exact ⟨of_decide_eq_true h.1, fun c hc => of_decide_eq_true (h.2 c hc)⟩
theorem strOk_of {x : Str} (h : okPB (.str x) = true) : PyData.strOk x = true := by
  have := okPB_str' h
  unfold PyData.strOk
  rw [Array.all_eq_true']
  intro c hc
  exact decide_eq_true (this.2 c (by simpa using hc))
theorem layP : ∀ d : PyData, okPB d = true → d.canLay0 = true := fun d => by
  refine PyData.rec (motive_1 := fun d => okPB d = true → d.canLay0 = true) (motive_2 := fun ds => okPBs ds = true → PyData.canLayAll0 ds = true) (motive_3 := fun _ => True) (motive_4 := fun _ => True) ?_ ?_ ?_ ?_ ?_ ?_ ?_ ?_ ?_ ?_ ?_ ?_ d
  · intro _; rfl
  · intro _ _; rfl
  · intro _ _; rfl
  · intro x h; exact strOk_of h
  · intro xs _ h; cases h
  · intro xs ih h
    unfold okPB at h
    rw [Bool.and_eq_true] at h
    exact ih h.2
  · intro xs _ h; cases h
  · intro _; rfl
  · intro d ds ih1 ih2 h
    unfold okPBs at h
    rw [Bool.and_eq_true] at h
    show (PyData.canLay0 d && PyData.canLayAll0 ds) = true
    rw [ih1 h.1, ih2 h.2]
    rfl
  · trivial
  · intros; trivial
  · intros; trivial
def rP (K : PySem.W.Frag) : Rel PyData := ⟨fun G v d => Dp K G v d ∧ okPB d = true, fun e h => ⟨strs_mono e.smf _ _ h.1, h.2⟩⟩
theorem prP {K : PySem.W.Frag} {G : Hp} : ∀ {vs : List V} {ds : List PyData}, DpAll K G vs ds → (∀ d ∈ ds, okPB d = true) → Paired ((rP K).rd G) vs ds
  | _, _, .nil, _ => .nil
  | _, _, .cons h t, o => .cons ⟨h, o _ (List.mem_cons_self ..)⟩ (prP t fun d hd => o d (List.mem_cons_of_mem _ hd))
theorem prP' {K : PySem.W.Frag} {G : Hp} : ∀ {vs : List V} {ds : List PyData}, Paired ((rP K).rd G) vs ds → DpAll K G vs ds ∧ ∀ d ∈ ds, okPB d = true
  | _, _, .nil => ⟨.nil, fun _ h => by cases h⟩
  | _, _, .cons h t => by
    obtain ⟨t1, t2⟩ := prP' t
    refine ⟨.cons h.1 t1, fun d hd => ?_⟩
    rcases List.mem_cons.mp hd with rfl | hd
    · exact h.2
    · exact t2 d hd
theorem rP_tup {K : PySem.W.Frag} {G : Hp} {v : V} {ds : List PyData} : (rP K).rd G v (.tuple ds) ↔ (rTL K (rP K)).rd G v ds := by
  constructor
  · rintro ⟨h, o⟩
    obtain ⟨hl, ho⟩ := okPB_tup' o
    cases h with
    | tup h1 h2 => exact ⟨_, _, rfl, h1, prP h2 ho, hl⟩
  · rintro ⟨a, vs, rfl, h1, h2, h3⟩
    obtain ⟨q1, q2⟩ := prP' h2
    exact ⟨.tup h1 q1, okPB_tup h3 q2⟩
def Cst {α : Type} (K : PySem.W.Frag) (r : Rel α) (f : PyData → Rs α) : Prop := ∀ G v d x, (rP K).rd G v d → f d = .ok x → r.rd G v x
def asC : PyData → Rs Text
  | .str s => .ok s.cps.toList
  | _ => .no
def asI : PyData → Rs Int
  | .int i => .ok i
  | _ => .no
def asT : PyData → Rs (List PyData)
  | .tuple ds => .ok ds
  | _ => .no
def asTL {α : Type} (f : PyData → Rs α) (d : PyData) : Rs (List α) := (asT d).bd (mapR f)
section
variable {K : PySem.W.Frag} {α β γ δ ε : Type} {r : Rel α} {s : Rel β} {t : Rel γ} {u : Rel δ}
theorem cst_C : Cst K rC asC := fun G v d x h q => by
  cases d with
  | str s =>
    cases q
    obtain ⟨h1, h2⟩ := h
    cases h1
    exact ⟨by rw [mk_tx], okPB_str' h2⟩
  | none | bool | int | list | tuple | dict => cases q
theorem cst_I : Cst K rI asI := fun G v d x h q => by
  cases d with
  | int s =>
    cases q
    obtain ⟨h1, h2⟩ := h
    cases h1
    rfl
  | none | bool | str | list | tuple | dict => cases q
theorem cst_T : Cst K (rTL K (rP K)) asT := fun G v d x h q => by
  cases d with
  | tuple s => cases q; exact rP_tup.mp h
  | none | int | str | list | bool | dict => cases q
theorem cst_prs {f : PyData → Rs α} (c : Cst K r f) {G : Hp} : ∀ {vs : List V} {ds : List PyData} {xs : List α}, Paired ((rP K).rd G) vs ds → mapR f ds = .ok xs → Paired (r.rd G) vs xs
  | _, _, _, .nil, q => by cases q; exact .nil
  | _, _, _, .cons h t, q => by
    unfold mapR at q
    obtain ⟨y, q1, q⟩ := Rs.bd_inv q
    obtain ⟨ys, q2, q⟩ := Rs.bd_inv q
    cases q
    exact .cons (c _ _ _ _ h q1) (cst_prs c t q2)
theorem mapR_len {f : α → Rs β} : ∀ {xs : List α} {ys : List β}, mapR f xs = .ok ys → ys.length = xs.length
  | [], _, q => by cases q; rfl
  | x :: xs, _, q => by
    unfold mapR at q
    obtain ⟨y, q1, q⟩ := Rs.bd_inv q
    obtain ⟨ys, q2, q⟩ := Rs.bd_inv q
    cases q
    rw [List.length_cons, List.length_cons, mapR_len q2]
theorem cst_TL {f : PyData → Rs α} (c : Cst K r f) : Cst K (rTL K r) (asTL f) := fun G v d x h q => by
  obtain ⟨ds, q1, q2⟩ := Rs.bd_inv q
  obtain ⟨a, vs, rfl, h1, h2, h3⟩ := cst_T G v d ds h q1
  exact ⟨a, vs, rfl, h1, cst_prs c h2 q2, by rw [mapR_len q2]; exact h3⟩
def ToP (K : PySem.W.Frag) {α : Type} (r : Rel α) (f : α → PyData) : Prop := ∀ G v x, r.rd G v x → (rP K).rd G v (f x)
theorem tp_P : ToP K (rP K) (fun x => x) := fun _ _ _ h => h
theorem tp_I : ToP K rI .int := fun G v x h => by cases h; exact ⟨.int _, rfl⟩
theorem tp_C : ToP K rC (fun x => .str (mkS x)) := fun G v x h => by
  obtain ⟨rfl, o⟩ := h
  exact ⟨.str _, okPB_str o⟩
theorem tp_prs {f : α → PyData} (c : ToP K r f) {G : Hp} : ∀ {vs : List V} {xs : List α}, Paired (r.rd G) vs xs → Paired ((rP K).rd G) vs (xs.map f)
  | _, _, .nil => .nil
  | _, _, .cons h t => .cons (c _ _ _ h) (tp_prs c t)
theorem tp_TL {f : α → PyData} (c : ToP K r f) : ToP K (rTL K r) (fun x => .tuple (x.map f)) := fun G v x h => by
  obtain ⟨a, vs, rfl, h1, h2, h3⟩ := h
  exact rP_tup.mpr ⟨a, vs, rfl, h1, tp_prs c h2, by rw [List.length_map]; exact h3⟩
theorem tp_T2 {f : α → PyData} {g : β → PyData} (c : ToP K r f) (c' : ToP K s g) : ToP K (rT2 K r s) (fun x => .tuple [f x.1, g x.2]) := fun G v x h => by
  obtain ⟨a, v1, v2, rfl, h1, h2, h3⟩ := h
  exact rP_tup.mpr ⟨a, _, rfl, h1, .cons (c _ _ _ h2) (.cons (c' _ _ _ h3) .nil), szl 2⟩
theorem tp_T3 {f : α → PyData} {g : β → PyData} {g3 : γ → PyData} (c : ToP K r f) (c' : ToP K s g) (c3 : ToP K t g3) : ToP K (rT3 K r s t) (fun x => .tuple [f x.1, g x.2.1, g3 x.2.2]) := fun G v x h => by
  obtain ⟨a, v1, v2, v3, rfl, h1, h2, h3, h4⟩ := h
  exact rP_tup.mpr ⟨a, _, rfl, h1, .cons (c _ _ _ h2) (.cons (c' _ _ _ h3) (.cons (c3 _ _ _ h4) .nil)), szl 3⟩
end
def ixP (d : PyData) (i : Int) : Rs PyData := (asT d).bd fun ds => ixR ds i
noncomputable def eqPR (a b : PyData) : Rs Bool := .gd (a.depth ≤ 64 ∧ b.depth ≤ 64) (.ok (PyData.eqv a b))
section
variable {X : Cx} {Z : PL.Ctx} {α β γ O : Type} {r : Rel α} {x : α} {pos p : Pos} {a b e : Expr} {d d' : PyData} {i : Int} {k : Nat}
theorem em_as {f : PyData → Rs α} (c : Cst X.K r f) (h : EvE X e Z (rP X.K) d) : EvM X e Z r (f d) := fun x hx G H σ Q E k => h G H σ Q E fun G1 H1 v e1 h1 => k G1 H1 v e1 (c _ _ _ _ h1 hx)
theorem ev_p {f : α → PyData} (c : ToP X.K r f) (h : EvE X e Z r x) : EvE X e Z (rP X.K) (f x) := ev_cov h fun G v q => c _ _ _ q
theorem em_ixP (ha : EvE X a Z (rP X.K) d) (hb : EvE X b Z rI i) (hs : PlainIx b := by exact fun _ _ => rfl) : EvM X (.Subscript a b pos) Z (rP X.K) (ixP d i) := fun y q => by
  obtain ⟨ds, q1, q2⟩ := Rs.bd_inv q
  exact em_ixTL (em_as cst_T ha ds q1) hb hs y q2
theorem cmm_neP (hr : Room k X.A) (ha : EvE X a Z (rP X.K) d) (hb : EvE X b Z (rP X.K) d') : CmpM X .NotEq a b Z ((eqPR d d').bd fun k => .ok (!k)) := fun y q => by
  obtain ⟨z, q0, q⟩ := Rs.bd_inv q
  cases q
  obtain ⟨⟨g1, g2⟩, q⟩ := Rs.gd_inv q0
  cases q
  exact cm2 (op_neD hr.units) (nomark _) ha hb fun G H v w Q s h1 h2 k => ⟨d, d', strs_mono s _ _ h1.1, strs_mono s _ _ h2.1, shaped_of (layP _ h1.2) g1 (Nat.le_refl _), shaped_of (layP _ h2.2) g2 (Nat.le_refl _), k G H _ (.refl s) rfl⟩
end
end PL

namespace PL
open PySem PySem.Spec PyProof.Rows L2
theorem mk0_ok {K : PySem.W.Frag} {C : Addr} (h : mk0B K C = true) : Mk0 K C := by
  unfold mk0B at h
  obtain ⟨h1, h⟩ := He.ba h
  obtain ⟨h2, h3⟩ := He.ba h
  exact ⟨h1, of_decide_eq_true h2, h3⟩
section
variable {X : Cx} {C : Addr} {x : Str} {p pos : Pos}
theorem run_mk0 {pins : List (Addr × Obj)} {σ : L2.St} {H : Hp} {s : Shared} {Q : VK} (M : Mk0 X.K C) (I : Inv X pins σ H s)
    (h : ∀ o dx, H o = none → H dx = none → dx ≠ o → Q (.ref o) (upd (upd H dx (.own o)) o (.ins C dx []))) : wpAny (model X.prog X.w) X.A (call (.ref C) []) (EP X pins σ Q) X.xe s := by
  have hq := h (s.heap.objs.size + 1) s.heap.objs.size (I.hok.fresh (Nat.le_succ _)) (I.hok.fresh (Nat.le_refl _)) (Nat.ne_of_lt (Nat.lt_succ_self _))
  have I2 := Inv.made (C := C) I
  have Y := PySem.W.makes_of (M := model X.prog X.w) I.kIn M.makes
  have hx : ((s.heap.push PySem.W.emptyDict).push (PySem.W.instObj C s.heap.objs.size)).get? (s.heap.objs.size + 1) = some (PySem.W.instObj C s.heap.objs.size) := by
    obtain ⟨mA, O, _⟩ := ins_get I2.hok (upd_same (H := upd H s.heap.objs.size (.own (s.heap.objs.size + 1))) (a := s.heap.objs.size + 1) (o := .ins C s.heap.objs.size []))
    exact O.obj
  have t1 : PySem.W.Looks (model X.prog X.w) ((s.heap.push PySem.W.emptyDict).push (PySem.W.instObj C s.heap.objs.size)) (typeOf (.ref (s.heap.objs.size + 1))) (.ref C) := (PySem.W.Looks.ld hx).andThen .now
  have t2 : PySem.W.Looks (model X.prog X.w) ((s.heap.push PySem.W.emptyDict).push (PySem.W.instObj C s.heap.objs.size)) (isInstance (.ref (s.heap.objs.size + 1)) (.type "object")) true := t1.andThen (Y.top.keeps fun b o e => Heap.get?_push_of_some _ (Heap.get?_push_of_some _ e))
  refine wpAny_call (make_map0 I.kIn M.makes M.init (fun self => PySem.W.Looks.of_pure (PySem.W.oi_bind self)) ?_)
  refine codeAny_call_builtin PySem.W.oi_plain PySem.W.entry_oi (@PySem.W.check_slot (model X.prog X.w) _ _ _ "object.__init__" "object" "__init__" (.ref (s.heap.objs.size + 1)) [] [] _ PySem.W.oi_kind PySem.W.oi_split t2 (PySem.W.oi_args (.ref (s.heap.objs.size + 1))) ?_)
  rw [PySem.W.oi_run]
  exact wpAny_pure (And.intro rfl ⟨V.ref (s.heap.objs.size + 1), _, I2, rfl, hq⟩)
theorem pe_mk0 (M : Mk0 X.K C) (hg : Gl X x) (hm : X.mg x = some (.ref C)) (hdb : (x == ("__debug__" : Str)) = false := by decide) :
    PE X (.Call (.Name x p) [] [] pos) (fun _ H Q => ∀ o dx, H o = none → H dx = none → dx ≠ o → Q (.ref o) (upd (upd H dx (.own o)) o (.ins C dx []))) := by
  refine ⟨fun pins s σ H Q I h => ?_⟩
  refine wpAny_Call_Name_kw (ld_glob I hg hm ?_ hdb)
  exact PySem.W.callWith_K0 I.kIn M.kp (run_mk0 M I h)
theorem ev_mk0 {α : Type} {Z : PL.Ctx} {fs : α → List (Str × Slot)} {y : α} (M : Mk0 X.K C) (hm : X.mg x = some (.ref C)) (hf : fs y = []) (hg : Gl X x := by rfl) (hdb : (x == ("__debug__" : Str)) = false := by decide) : EvE X (.Call (.Name x p) [] [] pos) Z (rObj C fs) y := fun G H σ Q E q => by
  refine toE (pe_mk0 M hg hm hdb) fun l dx nl nd ne => ?_
  have gl : G l = none := E.le.free nl
  have gd : G dx = none := E.le.free nd
  have e1 := Ext.new (o := .own l) E.le nd
  have e2 := Ext.new (o := HO.ins C dx []) e1.s (show upd H dx (.own l) l = none by rw [upd_ne (Ne.symm ne)]; exact nl)
  refine q _ _ _ (e1.trans e2) ⟨l, dx, [], rfl, upd_same, ?_, by rw [hf]; exact .nil⟩
  rw [upd_ne ne]
  exact upd_same
end
section
variable {P : Program} {w : World} {K : PySem.W.Frag} {mg : Str → Option Value} {base : Heap} {n m : Str} {C : Addr} {j k : Nat} {sp sp' : Sp}
theorem CallOk.up (h : CallOk P w K mg base n j sp) (le : j ≤ k) : CallOk P w K mg base n k sp := by
  obtain ⟨f, fd, ps, F, r⟩ := h
  exact ⟨f, fd, ps, F.mono le, r⟩
theorem MethOk.up (h : MethOk P w K mg base C m j sp) (le : j ≤ k) : MethOk P w K mg base C m k sp := by
  obtain ⟨f, fd, ps, F, r⟩ := h
  exact ⟨f, fd, ps, F.mono le, r⟩
theorem MethOk.imp (h : MethOk P w K mg base C m k sp) (i : ∀ vs H Q E, sp' vs H Q E → sp vs H Q E) : MethOk P w K mg base C m k sp' := by
  obtain ⟨f, fd, ps, F, r⟩ := h
  exact ⟨f, fd, ps, F.imp i, r⟩
theorem fn_0 {f : Addr} {fd : FuncData} {ps : List Str} (h : ∀ vs H Q E, ¬ sp vs H Q E) : FnOk P w K mg base CX0 k f fd ps sp := ⟨fun vs H Q E q => (h vs H Q E q).elim, fun A outer s H args us vs Q E _ _ _ _ q => (h vs H Q E q).elim⟩
theorem spG_0 {Pr : List Slot → (Hp → V → Prop) → Prop} (h : ∀ ss R, ¬ Pr ss R) : ∀ vs H Q E, ¬ spG Pr vs H Q E := fun vs H Q E ⟨ss, G, R, q, _⟩ => h ss R q
theorem spF_0 {α : Type} {r : Rel α} {Pr : List Slot → List α → Prop} (h : ∀ ss R, ¬ Pr ss R) : ∀ vs H Q E, ¬ spF r Pr vs H Q E := fun vs H Q E ⟨ss, G, R, q, _⟩ => h ss R q
end
section
variable {X : Cx} {Z : PL.Ctx} {α β O : Type} {r : Rel α} {x : α} {pos p : Pos} {a : Expr}
theorem ev_isD {C D : Addr} {b : Bool} {fs : α → List (Str × Slot)} {pu : Pos} {m : Str} (hc : Cls X.K C) (hi : IsC X.K C) (hk : PySem.W.kitOne X.K (.ref C) (.ref D) = some b) (hm : X.mg "isinstance" = none) (hu : X.mg m = some (.ref D)) (ha : EvE X a Z (rObj C fs) x) (hgu : Gl X m := by rfl)
    (hg : Gl X "isinstance" := by rfl) (he : starEach [a, .Name m pu] X.env = (false, eval a X.env) :: starEach [.Name m pu] X.env := by rfl) (he2 : starEach [.Name m pu] X.env = (false, eval (.Name m pu) X.env) :: starEach [] X.env := by rfl) (hpl : (backTo pos (starEach [.Name m pu] X.env)).any (·.1) = false := by rfl)
    (hdb : (m == ("__debug__" : Str)) = false := by decide) : EvE X (.Call (.Name "isinstance" p) [a, .Name m pu] [] pos) Z rB b := fun G H σ Q E q =>
  toE (pe_callB call_isi hg hm (by decide +kernel) (pa_cons ce (pa_cons (pe_glob (v := .ref D) hgu hu rfl hdb) pa_nil he2) he) (he := he) (hpl := hpl)) (ha G H σ _ E fun G1 H1 v e1 h1 => by
    obtain ⟨o, dx, vfs, rfl, h2, h3, h4⟩ := h1
    refine ⟨.ref o, .ref D, .ref C, .ref D, b, rfl, .own D, .base ?_, hk, q G1 H1 _ e1 rfl⟩
    rcases e1.s o _ h2 with z | ⟨_, _, z, _⟩
    · exact .ins z hc hi.ha hi.hs hi.ht hi.hm
    · cases z)
theorem ev_isT {C : Addr} {Ds : List Addr} {b : Bool} {fs : α → List (Str × Slot)} {es : List Expr} {kk : Nat} {pt : Pos} (hc : Cls X.K C) (hi : IsC X.K C) (hk : PySem.W.kitAny X.K (.ref C) (Ds.map .ref) = some b) (hl : Ds.length ≤ 1000) (hm : X.mg "isinstance" = none) (ha : EvE X a Z (rObj C fs) x) (hes : EvA X es Z (Ds.map (.val rRef)))
    (hg : Gl X "isinstance" := by rfl) (he : starEach [a, .Tuple es kk pt] X.env = (false, eval a X.env) :: starEach [.Tuple es kk pt] X.env := by rfl) (he2 : starEach [.Tuple es kk pt] X.env = (false, eval (.Tuple es kk pt) X.env) :: starEach [] X.env := by rfl) (hpl : (backTo pos (starEach [.Tuple es kk pt] X.env)).any (·.1) = false := by rfl) :
    EvE X (.Call (.Name "isinstance" p) [a, .Tuple es kk pt] [] pos) Z rB b := fun G H σ Q E q =>
  toE (pe_callB call_isiT hg hm (by decide +kernel) (pa_cons ce (pa_cons (pe_tup ca) pa_nil he2) he) (he := he) (hpl := hpl)) (ha G H σ _ E fun G1 H1 v e1 h1 => hes G1 H1 σ _ (E.ext e1) fun G2 H2 vs e2 h2 => by
    have hp := slvL (ss := []) h2
    have hlen := plen hp
    refine ⟨by rw [hlen]; exact Nat.le_trans hl (by rw [sizeLine_eq]; decide), fun t ht => ?_⟩
    have e3 := Ext.new (o := HO.tup vs) e2.s ht
    obtain ⟨o, dx, vfs, rfl, h3, h4, h5⟩ := h1
    refine ⟨.ref o, t, vs, .ref C, Ds.map .ref, b, rfl, upd_same, ?_, .base ?_, hk, q _ _ _ ((e1.trans e2).trans e3) rfl⟩
    · clear hk hlen e3 h2 hl ht hes
      induction hp with
      | nil => exact .nil
      | cons h t ih => cases h; exact .cons (.own _) ih
    · have z := e3.g _ _ (e2.g _ _ h3)
      rcases e3.s o _ z with z | ⟨_, _, z, _⟩
      · exact .ins z hc hi.ha hi.hs hi.ht hi.hm
      · cases z)
theorem ea_ref {n : Str} {D : Addr} {es : List Expr} {ss : List Slot} (hu : X.mg n = some (.ref D)) (hr : EvA X es Z ss) (hgu : Gl X n := by rfl) (hdb : (n == ("__debug__" : Str)) = false := by decide) (hs : starEach (.Name n p :: es) X.env = (false, eval (.Name n p) X.env) :: starEach es X.env := by rfl) : EvA X (.Name n p :: es) Z (.val rRef D :: ss) :=
  ea_cons (r := rRef) (x := D) (fun G H σ Q E k => toE (pe_glob (v := .ref D) hgu hu rfl hdb) (k G H _ (.refl E.le) rfl)) hr hs
end
end PL

namespace PL
open PySem PySem.Spec PyProof.Rows L2
theorem absV_rel {x : V} {u : Value} (h : absV u = some x) : RelV x u := by
  cases u <;> first | (cases h; rfl) | (cases h; exact ⟨_, rfl⟩) | cases h
theorem vals_abs : ∀ {us : List Value} {vs : List V}, us.map absV = vs.map some → Vals vs us
  | [], [], _ => .nil
  | [], _ :: _, h => by cases h
  | _ :: _, [], h => by cases h
  | u :: us, v :: vs, h => by
    rw [List.map_cons, List.map_cons] at h
    injection h with h1 h2
    exact .cons (absV_rel h1) (vals_abs h2)
theorem tupC_ok {K : PySem.W.Frag} {a : Addr} {its : List V} (h : tupCB K a its = true) (G : Hp) : SqT K G a its := by
  unfold tupCB at h
  split at h
  · rename_i o ho
    obtain ⟨h1, h⟩ := He.ba h
    split at h
    · rename_i xs n hd
      obtain ⟨h2, h3⟩ := He.ba h
      exact .inr ⟨o, xs, n, ho, of_decide_eq_true h1, hd, Nat.le_trans (of_decide_eq_true h2) (by rw [sizeLine_eq]; decide), vals_abs (of_decide_eq_true h3)⟩
    · cases h
  · cases h
theorem kit_at {K : PySem.W.Frag} {D : Addr} {l : List (Str × Bool)} (h : kitAllB K D l = true) (i : Nat) {C : Str} {b : Bool} (hi : l[i]? = some (C, b) := by rfl) : PySem.W.kitOne K (.ref (He.ga K C)) (.ref D) = some b :=
  of_decide_eq_true (List.all_eq_true.mp h _ (List.mem_of_getElem? hi))
theorem is_at {K : PySem.W.Frag} {l : List Str} (h : isAllB K l = true) (i : Nat) {C : Str} (hi : l[i]? = some C := by rfl) : IsC K (He.ga K C) := isC_ok (List.all_eq_true.mp h _ (List.mem_of_getElem? hi))
section
variable {X : Cx} {Z : PL.Ctx} {p : Pos} {n : Str} {a : Addr}
theorem ev_gtupI {xs : List Int} (hu : X.mg n = some (.ref a)) (ht : ∀ G, SqT X.K G a (xs.map V.int)) (hl : xs.length ≤ 1000 := by decide) (hgu : Gl X n := by rfl) (hdb : (n == ("__debug__" : Str)) = false := by decide) : EvE X (.Name n p) Z (rTL X.K rI) xs := fun G H σ Q E k =>
  toE (pe_glob (v := .ref a) hgu hu rfl hdb) (k G H _ (.refl E.le) ⟨a, _, rfl, ht G, pof (f := V.int) (F := rI.rd G) (fun _ => rfl) xs, Nat.le_trans hl (by rw [sizeLine_eq]; decide)⟩)
end
end PL

namespace PL
open PySem PySem.Spec PyProof.Rows L2
theorem inV_C (x : Text) : ∀ xs : List Text, inV (.str (mkS x)) (xs.map fun y => V.str (mkS y)) = isin x xs
  | [] => rfl
  | y :: xs => by
    have ih := inV_C x xs
    unfold inV at ih ⊢
    rw [List.map_cons, List.any_cons, ih]
    show ((mkS y == mkS x) || isin x xs) = isin x (y :: xs)
    by_cases h : y = x
    · subst h
      rw [beq_self_eq_true, isin_t (List.mem_cons_self ..)]
      rfl
    · have hb : (mkS y == mkS x) = false := by
        rw [beq_eq_false_iff_ne]
        exact fun z => h (mkS_inj z)
      rw [hb, Bool.false_or]
      by_cases hm : x ∈ xs
      · rw [isin_t hm, isin_t (List.mem_cons_of_mem _ hm)]
      · rw [isin_f hm, isin_f fun z => (List.mem_cons.mp z).elim (fun q => h q.symm) hm]
theorem inV_I (x : Int) : ∀ xs : List Int, inV (.int x) (xs.map V.int) = isin x xs
  | [] => rfl
  | y :: xs => by
    have ih := inV_I x xs
    unfold inV at ih ⊢
    rw [List.map_cons, List.any_cons, ih]
    show ((y == x) || isin x xs) = isin x (y :: xs)
    by_cases h : y = x
    · subst h
      rw [beq_self_eq_true, isin_t (List.mem_cons_self ..)]
      rfl
    · have hb : (y == x) = false := by
        rw [beq_eq_false_iff_ne]
        exact h
      rw [hb, Bool.false_or]
      by_cases hm : x ∈ xs
      · rw [isin_t hm, isin_t (List.mem_cons_of_mem _ hm)]
      · rw [isin_f hm, isin_f fun z => (List.mem_cons.mp z).elim (fun q => h q.symm) hm]
theorem prs_C {G : Hp} : ∀ {vs : List V} {xs : List Text}, Paired (rC.rd G) vs xs → vs = xs.map (fun y => V.str (mkS y)) ∧ vs.all flatV = true
  | _, _, .nil => ⟨rfl, rfl⟩
  | _, _, .cons h t => by
    obtain ⟨h1, h2⟩ := prs_C t
    obtain ⟨rfl, _⟩ := h
    exact ⟨by rw [List.map_cons, ← h1], by rw [List.all_cons, h2]; rfl⟩
theorem prs_I {G : Hp} : ∀ {vs : List V} {xs : List Int}, Paired (rI.rd G) vs xs → vs = xs.map V.int ∧ vs.all flatV = true
  | _, _, .nil => ⟨rfl, rfl⟩
  | _, _, .cons h t => by
    obtain ⟨h1, h2⟩ := prs_I t
    cases h
    exact ⟨by rw [List.map_cons, ← h1], by rw [List.all_cons, h2]; rfl⟩
section
variable {X : Cx} {Z : PL.Ctx} {α β : Type} {r : Rel α} {pos p : Pos} {a b e : Expr} {x : Text} {xs : List Text} {i : Int} {is : List Int} {ds : List PyData}
theorem cm_inTC (ha : EvE X a Z rC x) (hb : EvE X b Z (rTL X.K rC) xs) (hm : behindInMarks .In b = false := by rfl) : CmpE X .In a b Z (isin x xs) := cm2 op_in_seq hm ha hb fun G H v w Q s h1 h2 k => by
  obtain ⟨rfl, _⟩ := h1
  obtain ⟨c, vs, rfl, h3, h4, _⟩ := h2
  obtain ⟨rfl, h5⟩ := prs_C h4
  exact ⟨c, _, rfl, .inr (s.seqT h3), rfl, h5, k G H _ (.refl s) (by show V.bl _ = V.bl _; rw [if_neg Bool.false_ne_true, inV_C])⟩
theorem cm_inTI (ha : EvE X a Z rI i) (hb : EvE X b Z (rTL X.K rI) is) (hm : behindInMarks .In b = false := by rfl) : CmpE X .In a b Z (isin i is) := cm2 op_in_seq hm ha hb fun G H v w Q s h1 h2 k => by
  cases h1
  obtain ⟨c, vs, rfl, h3, h4, _⟩ := h2
  obtain ⟨rfl, h5⟩ := prs_I h4
  exact ⟨c, _, rfl, .inr (s.seqT h3), rfl, h5, k G H _ (.refl s) (by show V.bl _ = V.bl _; rw [if_neg Bool.false_ne_true, inV_I])⟩
theorem tp_TP {K : PySem.W.Frag} : ToP K (rTL K (rP K)) .tuple := fun G v x h => rP_tup.mpr h
end
theorem kitAny_or {K : PySem.W.Frag} {t c : Value} {cs : List Value} {b r : Bool} (h : PySem.W.kitOne K t c = some b) (hr : PySem.W.kitAny K t cs = some r) : PySem.W.kitAny K t (c :: cs) = some (b || r) := kitAny_cons h (fun z => by rw [hr, z]; rfl) (fun z => by rw [z]; rfl)
end PL

namespace PL
open PySem PySem.Spec PyProof.Rows L2
section
variable {X : Cx} {Z : PL.Ctx} {α : Type} {r : Rel α} {pos p p2 : Pos} {a b e : Expr} {xs ys : List α}
theorem ev_catT (ha : EvE X a Z (rTL X.K r) xs) (hb : EvE X b Z (rTL X.K r) ys) (hl : xs.length + ys.length ≤ sizeLine) : EvE X (.BinOp a .Add b pos) Z (rTL X.K r) (xs ++ ys) := ev2 (pe_op op_catA ce ce) ha hb fun G H v w Q s h1 h2 k => by
  obtain ⟨c, us, rfl, h3, h4, h5⟩ := h1
  obtain ⟨d, ws, rfl, g3, g4, g5⟩ := h2
  refine ⟨c, d, us, ws, rfl, rfl, s.seqT h3, s.seqT g3, by rw [plen h4, plen g4]; exact hl, fun z => ?_, fun _ z => ?_, fun _ _ q hq => ?_⟩
  · subst z
    cases h4
    exact k G H _ (.refl s) ⟨d, ws, rfl, g3, g4, g5⟩
  · subst z
    cases g4
    exact k G H _ (.refl s) ⟨c, us, rfl, h3, by rw [List.append_nil]; exact h4, by rw [List.append_nil]; exact h5⟩
  · have e2 : Same G (upd G q (.tup (us ++ ws))) := same_upd (s.free hq)
    exact k _ _ _ (.new s hq) ⟨q, _, rfl, SqT.of upd_same, pmono (fun _ _ => r.mono e2) (papp h4 g4), by rw [List.length_append]; exact hl⟩
theorem em_catT (ha : EvE X a Z (rTL X.K r) xs) (hb : EvE X b Z (rTL X.K r) ys) : EvM X (.BinOp a .Add b pos) Z (rTL X.K r) (catR xs ys) := em_gd fun h => em_ok (ev_catT ha hb (by rw [sizeLine_eq]; exact h))
theorem ev_cutT {lo hi : Option Expr} {i j : Option Int} (ha : EvE X a Z (rTL X.K r) xs) (hl : EvO X lo Z i) (hh : EvO X hi Z j) : EvE X (.Subscript a (.Slice lo hi none p2) pos) Z (rTL X.K r) (cut xs i j) := by
  intro G H σ Q E q
  have fin : ∀ G' H' v, Ext G H G' H' → (rTL X.K r).rd G' v xs → rSlA X.K v i j H' Q := fun G' H' v e1 h1 => by
    obtain ⟨l, us, rfl, h3, h4, h5⟩ := h1
    refine ⟨l, us, rfl, e1.s.seqT h3, fun z => ?_, fun _ t ht => ?_⟩
    · refine q _ _ _ e1 ⟨l, us, rfl, h3, ?_, Nat.le_trans (cut_len xs i j) h5⟩
      have := pcut h4 i j
      rw [z.1, z.2, Nat.sub_zero, List.drop_zero, List.take_length] at this
      exact this
    · refine q _ _ _ (e1.trans (.new e1.s ht)) ?_
      exact ⟨t, _, rfl, SqT.of upd_same, pmono (fun _ _ => r.mono (same_upd (e1.s.free ht))) (pcut h4 i j), Nat.le_trans (cut_len xs i j) h5⟩
  cases lo with
  | none =>
    cases i with
    | some _ => exact hl.elim
    | none =>
      cases hi with
      | none =>
        cases j with
        | some _ => exact hh.elim
        | none => exact toE (pe_slice sl_tupA ce po_none po_none) (ha G H σ _ E fun G1 H1 v e1 h1 => fin G1 H1 v e1 h1)
      | some e2 =>
        cases j with
        | none => exact hh.elim
        | some j =>
          have hh' : EvE X e2 Z rI j := hh
          exact toE (pe_slice sl_tupA ce po_none (po_some ce)) (ha G H σ _ E fun G1 H1 v e1 h1 => hh' G1 H1 σ _ (E.ext e1) fun G2 H2 w e2 h2 => ⟨j, h2, fin G2 H2 v (e1.trans e2) ((rTL X.K r).mono e2.g h1)⟩)
  | some e1 =>
    cases i with
    | none => exact hl.elim
    | some i =>
      have hl' : EvE X e1 Z rI i := hl
      cases hi with
      | none =>
        cases j with
        | some _ => exact hh.elim
        | none => exact toE (pe_slice sl_tupA ce (po_some ce) po_none) (ha G H σ _ E fun G1 H1 v e1 h1 => hl' G1 H1 σ _ (E.ext e1) fun G2 H2 w e2 h2 => ⟨i, h2, fin G2 H2 v (e1.trans e2) ((rTL X.K r).mono e2.g h1)⟩)
      | some e2 =>
        cases j with
        | none => exact hh.elim
        | some j =>
          have hh' : EvE X e2 Z rI j := hh
          exact toE (pe_slice sl_tupA ce (po_some ce) (po_some ce)) (ha G H σ _ E fun G1 H1 v e1 h1 => hl' G1 H1 σ _ (E.ext e1) fun G2 H2 w e2 h2 => ⟨i, h2, hh' G2 H2 σ _ (E.ext (e1.trans e2)) fun G3 H3 u e3 h3 => ⟨j, h3, fin G3 H3 v ((e1.trans e2).trans e3) ((rTL X.K r).mono (e2.trans e3).g h1)⟩⟩)
end
end PL

namespace PL
open PySem PySem.Spec PyProof.Rows L2
end PL

namespace PL
open PySem PySem.Spec PyProof.Rows L2
section
variable {X : Cx} {Z : PL.Ctx} {α β γ O S : Type} {r : Rel α} {s : Rel β} {x : α} {pos p p2 apos : Pos} {a b e : Expr} {d : PyData} {k : Nat} {t u : Text} {Zs : S → PL.Ctx}
theorem es_cov {m : Rs (α × S)} {f : α → β} (h : EvS X e Z Zs r m) (c : ∀ G v x, r.rd G v x → s.rd G v (f x)) : EvS X e Z Zs s (m.bd fun q => .ok (f q.1, q.2)) := fun q hq G H σ Q E k => by
  obtain ⟨y, h1, h2⟩ := Rs.bd_inv hq
  cases h2
  exact h y h1 G H σ Q E fun G1 H1 v s1 E1 g1 => k G1 H1 v s1 E1 (c _ _ _ g1)
end
section
variable {X : Cx} {Z : PL.Ctx} {α β O S : Type} {r : Rel α} {pos p px : Pos} {a b e : Expr} {es : List Expr} {rest : List Stmt} {D : O → Ends} {n : Str} {Zs : S → PL.Ctx}
end
section
variable {X : Cx} {Z : PL.Ctx} {α ζ τ : Type} {r : Rel α} {rt : Rel τ} {pos p : Pos} {es : List Expr} {n v : Str} {k : Nat} {Zl : List τ → PL.Ctx}
end
end PL

namespace PL
open PySem PySem.Spec PyProof.Rows L2
end PL

namespace PL
open PySem PySem.Spec PyProof.Rows L2
end PL

namespace PL
open PySem PySem.W PySem.Calls PyProof.Rows HandSHeadRun
end PL

namespace PL
open PySem PySem.W PySem.Calls PyProof.Rows HandSHeadRun
end PL

namespace Tp
open PySem PySem.Spec PyProof.Rows L2 PL
structure Tx (K : PySem.W.Frag) (mg : Str → Option Value) : Prop where
  c : He.SaysD fa fn K
  x : ck K = true
  xg : ∃ h : Heap, K.In h ∧ h.Ns mainGlobals mg
section
variable {P : Program} {w : World} {K : PySem.W.Frag} {mg : Str → Option Value} {base : Heap}
theorem Tx.g_is_plain (T : Tx K mg) : mg "is_plain" = some (.ref (He.ga K "is_plain")) := let ⟨_, X, G⟩ := T.xg; He.glo_ok X G (T.c.fact 1 (f := .glo "is_plain") (by kernel_rfl))
theorem Tx.g_want_plain (T : Tx K mg) : mg "want_plain" = some (.ref (He.ga K "want_plain")) := let ⟨_, X, G⟩ := T.xg; He.glo_ok X G (T.c.fact 2 (f := .glo "want_plain") (by kernel_rfl))
theorem Tx.g_want_within (T : Tx K mg) : mg "want_within" = some (.ref (He.ga K "want_within")) := let ⟨_, X, G⟩ := T.xg; He.glo_ok X G (T.c.fact 3 (f := .glo "want_within") (by kernel_rfl))
theorem Tx.g_paths_of (T : Tx K mg) : mg "paths_of" = some (.ref (He.ga K "paths_of")) := let ⟨_, X, G⟩ := T.xg; He.glo_ok X G (T.c.fact 4 (f := .glo "paths_of") (by kernel_rfl))
theorem Tx.g_want_part (T : Tx K mg) : mg "want_part" = some (.ref (He.ga K "want_part")) := let ⟨_, X, G⟩ := T.xg; He.glo_ok X G (T.c.fact 5 (f := .glo "want_part") (by kernel_rfl))
theorem Tx.g_node_at (T : Tx K mg) : mg "node_at" = some (.ref (He.ga K "node_at")) := let ⟨_, X, G⟩ := T.xg; He.glo_ok X G (T.c.fact 6 (f := .glo "node_at") (by kernel_rfl))
theorem Tx.g_is_leaf (T : Tx K mg) : mg "is_leaf" = some (.ref (He.ga K "is_leaf")) := let ⟨_, X, G⟩ := T.xg; He.glo_ok X G (T.c.fact 7 (f := .glo "is_leaf") (by kernel_rfl))
theorem Tx.g_parts_within (T : Tx K mg) : mg "parts_within" = some (.ref (He.ga K "parts_within")) := let ⟨_, X, G⟩ := T.xg; He.glo_ok X G (T.c.fact 8 (f := .glo "parts_within") (by kernel_rfl))
theorem Tx.g_parts_at (T : Tx K mg) : mg "parts_at" = some (.ref (He.ga K "parts_at")) := let ⟨_, X, G⟩ := T.xg; He.glo_ok X G (T.c.fact 9 (f := .glo "parts_at") (by kernel_rfl))
theorem Tx.g_leaves_of (T : Tx K mg) : mg "leaves_of" = some (.ref (He.ga K "leaves_of")) := let ⟨_, X, G⟩ := T.xg; He.glo_ok X G (T.c.fact 10 (f := .glo "leaves_of") (by kernel_rfl))
theorem Tx.g_law_at (T : Tx K mg) : mg "_law_at" = some (.ref (He.ga K "_law_at")) := let ⟨_, X, G⟩ := T.xg; He.glo_ok X G (T.c.fact 11 (f := .glo "_law_at") (by kernel_rfl))
theorem Tx.g_law_mixed (T : Tx K mg) : mg "_law_mixed" = some (.ref (He.ga K "_law_mixed")) := let ⟨_, X, G⟩ := T.xg; He.glo_ok X G (T.c.fact 12 (f := .glo "_law_mixed") (by kernel_rfl))
theorem Tx.g_law_rich (T : Tx K mg) : mg "_law_rich" = some (.ref (He.ga K "_law_rich")) := let ⟨_, X, G⟩ := T.xg; He.glo_ok X G (T.c.fact 13 (f := .glo "_law_rich") (by kernel_rfl))
theorem Tx.g_law_stream (T : Tx K mg) : mg "_law_stream" = some (.ref (He.ga K "_law_stream")) := let ⟨_, X, G⟩ := T.xg; He.glo_ok X G (T.c.fact 14 (f := .glo "_law_stream") (by kernel_rfl))
theorem Tx.g_law_word (T : Tx K mg) : mg "_law_word" = some (.ref (He.ga K "_law_word")) := let ⟨_, X, G⟩ := T.xg; He.glo_ok X G (T.c.fact 15 (f := .glo "_law_word") (by kernel_rfl))
theorem Tx.g_law_leaf (T : Tx K mg) : mg "_law_leaf" = some (.ref (He.ga K "_law_leaf")) := let ⟨_, X, G⟩ := T.xg; He.glo_ok X G (T.c.fact 16 (f := .glo "_law_leaf") (by kernel_rfl))
theorem Tx.g_law_leaf_tree (T : Tx K mg) : mg "_law_leaf_tree" = some (.ref (He.ga K "_law_leaf_tree")) := let ⟨_, X, G⟩ := T.xg; He.glo_ok X G (T.c.fact 17 (f := .glo "_law_leaf_tree") (by kernel_rfl))
theorem Tx.g_law_tree (T : Tx K mg) : mg "_law_tree" = some (.ref (He.ga K "_law_tree")) := let ⟨_, X, G⟩ := T.xg; He.glo_ok X G (T.c.fact 18 (f := .glo "_law_tree") (by kernel_rfl))
theorem Tx.g_law_new (T : Tx K mg) : mg "_law_new" = some (.ref (He.ga K "_law_new")) := let ⟨_, X, G⟩ := T.xg; He.glo_ok X G (T.c.fact 19 (f := .glo "_law_new") (by kernel_rfl))
theorem Tx.g_law_made (T : Tx K mg) : mg "_law_made" = some (.ref (He.ga K "_law_made")) := let ⟨_, X, G⟩ := T.xg; He.glo_ok X G (T.c.fact 20 (f := .glo "_law_made") (by kernel_rfl))
theorem Tx.g_law_leaves (T : Tx K mg) : mg "_law_leaves" = some (.ref (He.ga K "_law_leaves")) := let ⟨_, X, G⟩ := T.xg; He.glo_ok X G (T.c.fact 21 (f := .glo "_law_leaves") (by kernel_rfl))
theorem Tx.g_law_right (T : Tx K mg) : mg "_law_right" = some (.ref (He.ga K "_law_right")) := let ⟨_, X, G⟩ := T.xg; He.glo_ok X G (T.c.fact 22 (f := .glo "_law_right") (by kernel_rfl))
theorem Tx.g_law (T : Tx K mg) : mg "law" = some (.ref (He.ga K "law")) := let ⟨_, X, G⟩ := T.xg; He.glo_ok X G (T.c.fact 23 (f := .glo "law") (by kernel_rfl))
theorem Tx.g_Word (T : Tx K mg) : mg "Word" = some (.ref (He.ga K "Word")) := let ⟨_, X, G⟩ := T.xg; He.glo_ok X G (T.c.fact 34 (f := .glo "Word") (by kernel_rfl))
theorem Tx.c_Word (T : Tx K mg) : Cls K (He.ga K "Word") := He.cls_ok (T.c.fact 35 (f := .cls "Word") (by kernel_rfl))
theorem Tx.n_Word_word (T : Tx K mg) : NoAttr K (He.ga K "Word") "word" := He.noat_ok (T.c.fact 37 (f := .noat "Word" "word") (by kernel_rfl))
theorem Tx.i_Word (T : Tx K mg) : Mk K (He.ga K "Word") (He.ma K (He.ga K "Word") "__init__") := He.mkr_ok (T.c.fact 38 (f := .mkr "Word") (by kernel_rfl))
theorem Tx.m_Word_told (T : Tx K mg) : Meth K (He.ga K "Word") "told" (He.ma K (He.ga K "Word") "told") := He.meth_ok (T.c.fact 39 (f := .meth "Word" "told") (by kernel_rfl))
theorem Tx.m_Word_inner_ones (T : Tx K mg) : Meth K (He.ga K "Word") "inner_ones" (He.ma K (He.ga K "Word") "inner_ones") := He.meth_ok (T.c.fact 40 (f := .meth "Word" "inner_ones") (by kernel_rfl))
theorem Tx.g_Begin (T : Tx K mg) : mg "Begin" = some (.ref (He.ga K "Begin")) := let ⟨_, X, G⟩ := T.xg; He.glo_ok X G (T.c.fact 42 (f := .glo "Begin") (by kernel_rfl))
theorem Tx.c_Begin (T : Tx K mg) : Cls K (He.ga K "Begin") := He.cls_ok (T.c.fact 43 (f := .cls "Begin") (by kernel_rfl))
theorem Tx.n_Begin_start (T : Tx K mg) : NoAttr K (He.ga K "Begin") "start" := He.noat_ok (T.c.fact 45 (f := .noat "Begin" "start") (by kernel_rfl))
theorem Tx.i_Begin (T : Tx K mg) : Mk K (He.ga K "Begin") (He.ma K (He.ga K "Begin") "__init__") := He.mkr_ok (T.c.fact 46 (f := .mkr "Begin") (by kernel_rfl))
theorem Tx.m_Begin_told (T : Tx K mg) : Meth K (He.ga K "Begin") "told" (He.ma K (He.ga K "Begin") "told") := He.meth_ok (T.c.fact 47 (f := .meth "Begin" "told") (by kernel_rfl))
theorem Tx.m_Begin_inner_ones (T : Tx K mg) : Meth K (He.ga K "Begin") "inner_ones" (He.ma K (He.ga K "Begin") "inner_ones") := He.meth_ok (T.c.fact 48 (f := .meth "Begin" "inner_ones") (by kernel_rfl))
theorem Tx.g_Row (T : Tx K mg) : mg "Row" = some (.ref (He.ga K "Row")) := let ⟨_, X, G⟩ := T.xg; He.glo_ok X G (T.c.fact 50 (f := .glo "Row") (by kernel_rfl))
theorem Tx.c_Row (T : Tx K mg) : Cls K (He.ga K "Row") := He.cls_ok (T.c.fact 51 (f := .cls "Row") (by kernel_rfl))
theorem Tx.n_Row_row_words (T : Tx K mg) : NoAttr K (He.ga K "Row") "row_words" := He.noat_ok (T.c.fact 53 (f := .noat "Row" "row_words") (by kernel_rfl))
theorem Tx.i_Row (T : Tx K mg) : Mk K (He.ga K "Row") (He.ma K (He.ga K "Row") "__init__") := He.mkr_ok (T.c.fact 54 (f := .mkr "Row") (by kernel_rfl))
theorem Tx.m_Row_told (T : Tx K mg) : Meth K (He.ga K "Row") "told" (He.ma K (He.ga K "Row") "told") := He.meth_ok (T.c.fact 55 (f := .meth "Row" "told") (by kernel_rfl))
theorem Tx.m_Row_inner_ones (T : Tx K mg) : Meth K (He.ga K "Row") "inner_ones" (He.ma K (He.ga K "Row") "inner_ones") := He.meth_ok (T.c.fact 56 (f := .meth "Row" "inner_ones") (by kernel_rfl))
theorem Tx.g_Near (T : Tx K mg) : mg "Near" = some (.ref (He.ga K "Near")) := let ⟨_, X, G⟩ := T.xg; He.glo_ok X G (T.c.fact 58 (f := .glo "Near") (by kernel_rfl))
theorem Tx.c_Near (T : Tx K mg) : Cls K (He.ga K "Near") := He.cls_ok (T.c.fact 59 (f := .cls "Near") (by kernel_rfl))
theorem Tx.n_Near_far (T : Tx K mg) : NoAttr K (He.ga K "Near") "far" := He.noat_ok (T.c.fact 61 (f := .noat "Near" "far") (by kernel_rfl))
theorem Tx.n_Near_near_words (T : Tx K mg) : NoAttr K (He.ga K "Near") "near_words" := He.noat_ok (T.c.fact 62 (f := .noat "Near" "near_words") (by kernel_rfl))
theorem Tx.i_Near (T : Tx K mg) : Mk K (He.ga K "Near") (He.ma K (He.ga K "Near") "__init__") := He.mkr_ok (T.c.fact 63 (f := .mkr "Near") (by kernel_rfl))
theorem Tx.m_Near_told (T : Tx K mg) : Meth K (He.ga K "Near") "told" (He.ma K (He.ga K "Near") "told") := He.meth_ok (T.c.fact 64 (f := .meth "Near" "told") (by kernel_rfl))
theorem Tx.m_Near_inner_ones (T : Tx K mg) : Meth K (He.ga K "Near") "inner_ones" (He.ma K (He.ga K "Near") "inner_ones") := He.meth_ok (T.c.fact 65 (f := .meth "Near" "inner_ones") (by kernel_rfl))
theorem Tx.g_In (T : Tx K mg) : mg "In" = some (.ref (He.ga K "In")) := let ⟨_, X, G⟩ := T.xg; He.glo_ok X G (T.c.fact 67 (f := .glo "In") (by kernel_rfl))
theorem Tx.c_In (T : Tx K mg) : Cls K (He.ga K "In") := He.cls_ok (T.c.fact 68 (f := .cls "In") (by kernel_rfl))
theorem Tx.n_In_inner (T : Tx K mg) : NoAttr K (He.ga K "In") "inner" := He.noat_ok (T.c.fact 70 (f := .noat "In" "inner") (by kernel_rfl))
theorem Tx.n_In_part (T : Tx K mg) : NoAttr K (He.ga K "In") "part" := He.noat_ok (T.c.fact 71 (f := .noat "In" "part") (by kernel_rfl))
theorem Tx.i_In (T : Tx K mg) : Mk K (He.ga K "In") (He.ma K (He.ga K "In") "__init__") := He.mkr_ok (T.c.fact 72 (f := .mkr "In") (by kernel_rfl))
theorem Tx.m_In_told (T : Tx K mg) : Meth K (He.ga K "In") "told" (He.ma K (He.ga K "In") "told") := He.meth_ok (T.c.fact 73 (f := .meth "In" "told") (by kernel_rfl))
theorem Tx.m_In_inner_ones (T : Tx K mg) : Meth K (He.ga K "In") "inner_ones" (He.ma K (He.ga K "In") "inner_ones") := He.meth_ok (T.c.fact 74 (f := .meth "In" "inner_ones") (by kernel_rfl))
theorem Tx.g_All (T : Tx K mg) : mg "All" = some (.ref (He.ga K "All")) := let ⟨_, X, G⟩ := T.xg; He.glo_ok X G (T.c.fact 76 (f := .glo "All") (by kernel_rfl))
theorem Tx.c_All (T : Tx K mg) : Cls K (He.ga K "All") := He.cls_ok (T.c.fact 77 (f := .cls "All") (by kernel_rfl))
theorem Tx.n_All_every (T : Tx K mg) : NoAttr K (He.ga K "All") "every" := He.noat_ok (T.c.fact 79 (f := .noat "All" "every") (by kernel_rfl))
theorem Tx.i_All (T : Tx K mg) : Mk K (He.ga K "All") (He.ma K (He.ga K "All") "__init__") := He.mkr_ok (T.c.fact 80 (f := .mkr "All") (by kernel_rfl))
theorem Tx.m_All_told (T : Tx K mg) : Meth K (He.ga K "All") "told" (He.ma K (He.ga K "All") "told") := He.meth_ok (T.c.fact 81 (f := .meth "All" "told") (by kernel_rfl))
theorem Tx.m_All_inner_ones (T : Tx K mg) : Meth K (He.ga K "All") "inner_ones" (He.ma K (He.ga K "All") "inner_ones") := He.meth_ok (T.c.fact 82 (f := .meth "All" "inner_ones") (by kernel_rfl))
theorem Tx.g_Any (T : Tx K mg) : mg "Any" = some (.ref (He.ga K "Any")) := let ⟨_, X, G⟩ := T.xg; He.glo_ok X G (T.c.fact 84 (f := .glo "Any") (by kernel_rfl))
theorem Tx.c_Any (T : Tx K mg) : Cls K (He.ga K "Any") := He.cls_ok (T.c.fact 85 (f := .cls "Any") (by kernel_rfl))
theorem Tx.n_Any_either (T : Tx K mg) : NoAttr K (He.ga K "Any") "either" := He.noat_ok (T.c.fact 87 (f := .noat "Any" "either") (by kernel_rfl))
theorem Tx.i_Any (T : Tx K mg) : Mk K (He.ga K "Any") (He.ma K (He.ga K "Any") "__init__") := He.mkr_ok (T.c.fact 88 (f := .mkr "Any") (by kernel_rfl))
theorem Tx.m_Any_told (T : Tx K mg) : Meth K (He.ga K "Any") "told" (He.ma K (He.ga K "Any") "told") := He.meth_ok (T.c.fact 89 (f := .meth "Any" "told") (by kernel_rfl))
theorem Tx.m_Any_inner_ones (T : Tx K mg) : Meth K (He.ga K "Any") "inner_ones" (He.ma K (He.ga K "Any") "inner_ones") := He.meth_ok (T.c.fact 90 (f := .meth "Any" "inner_ones") (by kernel_rfl))
theorem Tx.g_But (T : Tx K mg) : mg "But" = some (.ref (He.ga K "But")) := let ⟨_, X, G⟩ := T.xg; He.glo_ok X G (T.c.fact 92 (f := .glo "But") (by kernel_rfl))
theorem Tx.c_But (T : Tx K mg) : Cls K (He.ga K "But") := He.cls_ok (T.c.fact 93 (f := .cls "But") (by kernel_rfl))
theorem Tx.n_But_unwanted (T : Tx K mg) : NoAttr K (He.ga K "But") "unwanted" := He.noat_ok (T.c.fact 95 (f := .noat "But" "unwanted") (by kernel_rfl))
theorem Tx.n_But_wanted (T : Tx K mg) : NoAttr K (He.ga K "But") "wanted" := He.noat_ok (T.c.fact 96 (f := .noat "But" "wanted") (by kernel_rfl))
theorem Tx.i_But (T : Tx K mg) : Mk K (He.ga K "But") (He.ma K (He.ga K "But") "__init__") := He.mkr_ok (T.c.fact 97 (f := .mkr "But") (by kernel_rfl))
theorem Tx.m_But_told (T : Tx K mg) : Meth K (He.ga K "But") "told" (He.ma K (He.ga K "But") "told") := He.meth_ok (T.c.fact 98 (f := .meth "But" "told") (by kernel_rfl))
theorem Tx.m_But_inner_ones (T : Tx K mg) : Meth K (He.ga K "But") "inner_ones" (He.ma K (He.ga K "But") "inner_ones") := He.meth_ok (T.c.fact 99 (f := .meth "But" "inner_ones") (by kernel_rfl))
theorem Tx.g_Also (T : Tx K mg) : mg "Also" = some (.ref (He.ga K "Also")) := let ⟨_, X, G⟩ := T.xg; He.glo_ok X G (T.c.fact 101 (f := .glo "Also") (by kernel_rfl))
theorem Tx.c_Also (T : Tx K mg) : Cls K (He.ga K "Also") := He.cls_ok (T.c.fact 102 (f := .cls "Also") (by kernel_rfl))
theorem Tx.n_Also_helping (T : Tx K mg) : NoAttr K (He.ga K "Also") "helping" := He.noat_ok (T.c.fact 104 (f := .noat "Also" "helping") (by kernel_rfl))
theorem Tx.n_Also_needed (T : Tx K mg) : NoAttr K (He.ga K "Also") "needed" := He.noat_ok (T.c.fact 105 (f := .noat "Also" "needed") (by kernel_rfl))
theorem Tx.i_Also (T : Tx K mg) : Mk K (He.ga K "Also") (He.ma K (He.ga K "Also") "__init__") := He.mkr_ok (T.c.fact 106 (f := .mkr "Also") (by kernel_rfl))
theorem Tx.m_Also_told (T : Tx K mg) : Meth K (He.ga K "Also") "told" (He.ma K (He.ga K "Also") "told") := He.meth_ok (T.c.fact 107 (f := .meth "Also" "told") (by kernel_rfl))
theorem Tx.m_Also_inner_ones (T : Tx K mg) : Meth K (He.ga K "Also") "inner_ones" (He.ma K (He.ga K "Also") "inner_ones") := He.meth_ok (T.c.fact 108 (f := .meth "Also" "inner_ones") (by kernel_rfl))
theorem Tx.g_By (T : Tx K mg) : mg "By" = some (.ref (He.ga K "By")) := let ⟨_, X, G⟩ := T.xg; He.glo_ok X G (T.c.fact 110 (f := .glo "By") (by kernel_rfl))
theorem Tx.c_By (T : Tx K mg) : Cls K (He.ga K "By") := He.cls_ok (T.c.fact 111 (f := .cls "By") (by kernel_rfl))
theorem Tx.n_By_heavier (T : Tx K mg) : NoAttr K (He.ga K "By") "heavier" := He.noat_ok (T.c.fact 113 (f := .noat "By" "heavier") (by kernel_rfl))
theorem Tx.n_By_times (T : Tx K mg) : NoAttr K (He.ga K "By") "times" := He.noat_ok (T.c.fact 114 (f := .noat "By" "times") (by kernel_rfl))
theorem Tx.i_By (T : Tx K mg) : Mk K (He.ga K "By") (He.ma K (He.ga K "By") "__init__") := He.mkr_ok (T.c.fact 115 (f := .mkr "By") (by kernel_rfl))
theorem Tx.m_By_told (T : Tx K mg) : Meth K (He.ga K "By") "told" (He.ma K (He.ga K "By") "told") := He.meth_ok (T.c.fact 116 (f := .meth "By" "told") (by kernel_rfl))
theorem Tx.m_By_inner_ones (T : Tx K mg) : Meth K (He.ga K "By") "inner_ones" (He.ma K (He.ga K "By") "inner_ones") := He.meth_ok (T.c.fact 117 (f := .meth "By" "inner_ones") (by kernel_rfl))
theorem Tx.g_Never (T : Tx K mg) : mg "Never" = some (.ref (He.ga K "Never")) := let ⟨_, X, G⟩ := T.xg; He.glo_ok X G (T.c.fact 119 (f := .glo "Never") (by kernel_rfl))
theorem Tx.c_Never (T : Tx K mg) : Cls K (He.ga K "Never") := He.cls_ok (T.c.fact 120 (f := .cls "Never") (by kernel_rfl))
theorem Tx.m_Never_told (T : Tx K mg) : Meth K (He.ga K "Never") "told" (He.ma K (He.ga K "Never") "told") := He.meth_ok (T.c.fact 122 (f := .meth "Never" "told") (by kernel_rfl))
theorem Tx.m_Never_inner_ones (T : Tx K mg) : Meth K (He.ga K "Never") "inner_ones" (He.ma K (He.ga K "Never") "inner_ones") := He.meth_ok (T.c.fact 123 (f := .meth "Never" "inner_ones") (by kernel_rfl))
theorem Tx.v_PLAIN_SIGNS (T : Tx K mg) : ∃ t, mg "PLAIN_SIGNS" = some (.str "abcdefghijklmnopqrstuvwxyz0123456789" t) := let ⟨_, X, G⟩ := T.xg; He.str_ok X G (T.c.fact 125 (f := .str "PLAIN_SIGNS" "abcdefghijklmnopqrstuvwxyz0123456789") (by kernel_rfl))
theorem Tx.v_MOST_PLAIN (T : Tx K mg) : ∃ t, mg "MOST_PLAIN" = some (.int 20 t) := let ⟨_, X, G⟩ := T.xg; He.int_ok X G (T.c.fact 126 (f := .int "MOST_PLAIN" 20) (by kernel_rfl))
theorem Tx.v_MOST_ROW (T : Tx K mg) : ∃ t, mg "MOST_ROW" = some (.int 6 t) := let ⟨_, X, G⟩ := T.xg; He.int_ok X G (T.c.fact 127 (f := .int "MOST_ROW" 6) (by kernel_rfl))
theorem Tx.v_MOST_FAR (T : Tx K mg) : ∃ t, mg "MOST_FAR" = some (.int 20 t) := let ⟨_, X, G⟩ := T.xg; He.int_ok X G (T.c.fact 128 (f := .int "MOST_FAR" 20) (by kernel_rfl))
theorem Tx.v_MOST_BY (T : Tx K mg) : ∃ t, mg "MOST_BY" = some (.int 999 t) := let ⟨_, X, G⟩ := T.xg; He.int_ok X G (T.c.fact 129 (f := .int "MOST_BY" 999) (by kernel_rfl))
theorem Tx.g_EVERY_PART (T : Tx K mg) : mg "EVERY_PART" = some (.ref (He.ga K "EVERY_PART")) := let ⟨_, X, G⟩ := T.xg; He.glo_ok X G (T.c.fact 130 (f := .glo "EVERY_PART") (by kernel_rfl))
theorem Tx.b_abs (T : Tx K mg) : mg "abs" = none := let ⟨_, X, G⟩ := T.xg; He.free_ok X G (T.c.fact 132 (f := .free "abs") (by kernel_rfl))
theorem Tx.b_all (T : Tx K mg) : mg "all" = none := let ⟨_, X, G⟩ := T.xg; He.free_ok X G (T.c.fact 133 (f := .free "all") (by kernel_rfl))
theorem Tx.b_enumerate (T : Tx K mg) : mg "enumerate" = none := let ⟨_, X, G⟩ := T.xg; He.free_ok X G (T.c.fact 134 (f := .free "enumerate") (by kernel_rfl))
theorem Tx.b_isinstance (T : Tx K mg) : mg "isinstance" = none := let ⟨_, X, G⟩ := T.xg; He.free_ok X G (T.c.fact 135 (f := .free "isinstance") (by kernel_rfl))
theorem Tx.b_len (T : Tx K mg) : mg "len" = none := let ⟨_, X, G⟩ := T.xg; He.free_ok X G (T.c.fact 136 (f := .free "len") (by kernel_rfl))
theorem Tx.b_list (T : Tx K mg) : mg "list" = none := let ⟨_, X, G⟩ := T.xg; He.free_ok X G (T.c.fact 137 (f := .free "list") (by kernel_rfl))
theorem Tx.b_range (T : Tx K mg) : mg "range" = none := let ⟨_, X, G⟩ := T.xg; He.free_ok X G (T.c.fact 138 (f := .free "range") (by kernel_rfl))
theorem Tx.b_repr (T : Tx K mg) : mg "repr" = none := let ⟨_, X, G⟩ := T.xg; He.free_ok X G (T.c.fact 139 (f := .free "repr") (by kernel_rfl))
theorem Tx.b_tuple (T : Tx K mg) : mg "tuple" = none := let ⟨_, X, G⟩ := T.xg; He.free_ok X G (T.c.fact 140 (f := .free "tuple") (by kernel_rfl))
theorem Tx.is_Word (T : Tx K mg) : PL.IsC K (He.ga K "Word") := PL.is_at (He.ba T.x).1 1
theorem Tx.is_Begin (T : Tx K mg) : PL.IsC K (He.ga K "Begin") := PL.is_at (He.ba T.x).1 2
theorem Tx.is_Row (T : Tx K mg) : PL.IsC K (He.ga K "Row") := PL.is_at (He.ba T.x).1 3
theorem Tx.is_Near (T : Tx K mg) : PL.IsC K (He.ga K "Near") := PL.is_at (He.ba T.x).1 4
theorem Tx.is_In (T : Tx K mg) : PL.IsC K (He.ga K "In") := PL.is_at (He.ba T.x).1 5
theorem Tx.is_All (T : Tx K mg) : PL.IsC K (He.ga K "All") := PL.is_at (He.ba T.x).1 6
theorem Tx.is_Any (T : Tx K mg) : PL.IsC K (He.ga K "Any") := PL.is_at (He.ba T.x).1 7
theorem Tx.is_But (T : Tx K mg) : PL.IsC K (He.ga K "But") := PL.is_at (He.ba T.x).1 8
theorem Tx.is_Also (T : Tx K mg) : PL.IsC K (He.ga K "Also") := PL.is_at (He.ba T.x).1 9
theorem Tx.is_By (T : Tx K mg) : PL.IsC K (He.ga K "By") := PL.is_at (He.ba T.x).1 10
theorem Tx.is_Never (T : Tx K mg) : PL.IsC K (He.ga K "Never") := PL.is_at (He.ba T.x).1 11
theorem Tx.kit_Word_Begin (T : Tx K mg) : PySem.W.kitOne K (.ref (He.ga K "Word")) (.ref (He.ga K "Begin")) = some false := PL.kit_at (He.ba (He.ba T.x).2).1 1
theorem Tx.kit_Begin_Begin (T : Tx K mg) : PySem.W.kitOne K (.ref (He.ga K "Begin")) (.ref (He.ga K "Begin")) = some true := PL.kit_at (He.ba (He.ba T.x).2).1 2
theorem Tx.kit_Row_Begin (T : Tx K mg) : PySem.W.kitOne K (.ref (He.ga K "Row")) (.ref (He.ga K "Begin")) = some false := PL.kit_at (He.ba (He.ba T.x).2).1 3
theorem Tx.kit_Near_Begin (T : Tx K mg) : PySem.W.kitOne K (.ref (He.ga K "Near")) (.ref (He.ga K "Begin")) = some false := PL.kit_at (He.ba (He.ba T.x).2).1 4
theorem Tx.kit_In_Begin (T : Tx K mg) : PySem.W.kitOne K (.ref (He.ga K "In")) (.ref (He.ga K "Begin")) = some false := PL.kit_at (He.ba (He.ba T.x).2).1 5
theorem Tx.kit_All_Begin (T : Tx K mg) : PySem.W.kitOne K (.ref (He.ga K "All")) (.ref (He.ga K "Begin")) = some false := PL.kit_at (He.ba (He.ba T.x).2).1 6
theorem Tx.kit_Any_Begin (T : Tx K mg) : PySem.W.kitOne K (.ref (He.ga K "Any")) (.ref (He.ga K "Begin")) = some false := PL.kit_at (He.ba (He.ba T.x).2).1 7
theorem Tx.kit_But_Begin (T : Tx K mg) : PySem.W.kitOne K (.ref (He.ga K "But")) (.ref (He.ga K "Begin")) = some false := PL.kit_at (He.ba (He.ba T.x).2).1 8
theorem Tx.kit_Also_Begin (T : Tx K mg) : PySem.W.kitOne K (.ref (He.ga K "Also")) (.ref (He.ga K "Begin")) = some false := PL.kit_at (He.ba (He.ba T.x).2).1 9
theorem Tx.kit_By_Begin (T : Tx K mg) : PySem.W.kitOne K (.ref (He.ga K "By")) (.ref (He.ga K "Begin")) = some false := PL.kit_at (He.ba (He.ba T.x).2).1 10
theorem Tx.kit_Never_Begin (T : Tx K mg) : PySem.W.kitOne K (.ref (He.ga K "Never")) (.ref (He.ga K "Begin")) = some false := PL.kit_at (He.ba (He.ba T.x).2).1 11
theorem Tx.kit_Word_In (T : Tx K mg) : PySem.W.kitOne K (.ref (He.ga K "Word")) (.ref (He.ga K "In")) = some false := PL.kit_at (He.ba (He.ba (He.ba T.x).2).2).1 1
theorem Tx.kit_Begin_In (T : Tx K mg) : PySem.W.kitOne K (.ref (He.ga K "Begin")) (.ref (He.ga K "In")) = some false := PL.kit_at (He.ba (He.ba (He.ba T.x).2).2).1 2
theorem Tx.kit_Row_In (T : Tx K mg) : PySem.W.kitOne K (.ref (He.ga K "Row")) (.ref (He.ga K "In")) = some false := PL.kit_at (He.ba (He.ba (He.ba T.x).2).2).1 3
theorem Tx.kit_Near_In (T : Tx K mg) : PySem.W.kitOne K (.ref (He.ga K "Near")) (.ref (He.ga K "In")) = some false := PL.kit_at (He.ba (He.ba (He.ba T.x).2).2).1 4
theorem Tx.kit_In_In (T : Tx K mg) : PySem.W.kitOne K (.ref (He.ga K "In")) (.ref (He.ga K "In")) = some true := PL.kit_at (He.ba (He.ba (He.ba T.x).2).2).1 5
theorem Tx.kit_All_In (T : Tx K mg) : PySem.W.kitOne K (.ref (He.ga K "All")) (.ref (He.ga K "In")) = some false := PL.kit_at (He.ba (He.ba (He.ba T.x).2).2).1 6
theorem Tx.kit_Any_In (T : Tx K mg) : PySem.W.kitOne K (.ref (He.ga K "Any")) (.ref (He.ga K "In")) = some false := PL.kit_at (He.ba (He.ba (He.ba T.x).2).2).1 7
theorem Tx.kit_But_In (T : Tx K mg) : PySem.W.kitOne K (.ref (He.ga K "But")) (.ref (He.ga K "In")) = some false := PL.kit_at (He.ba (He.ba (He.ba T.x).2).2).1 8
theorem Tx.kit_Also_In (T : Tx K mg) : PySem.W.kitOne K (.ref (He.ga K "Also")) (.ref (He.ga K "In")) = some false := PL.kit_at (He.ba (He.ba (He.ba T.x).2).2).1 9
theorem Tx.kit_By_In (T : Tx K mg) : PySem.W.kitOne K (.ref (He.ga K "By")) (.ref (He.ga K "In")) = some false := PL.kit_at (He.ba (He.ba (He.ba T.x).2).2).1 10
theorem Tx.kit_Never_In (T : Tx K mg) : PySem.W.kitOne K (.ref (He.ga K "Never")) (.ref (He.ga K "In")) = some false := PL.kit_at (He.ba (He.ba (He.ba T.x).2).2).1 11
theorem Tx.kit_Word_Near (T : Tx K mg) : PySem.W.kitOne K (.ref (He.ga K "Word")) (.ref (He.ga K "Near")) = some false := PL.kit_at (He.ba (He.ba (He.ba (He.ba T.x).2).2).2).1 1
theorem Tx.kit_Begin_Near (T : Tx K mg) : PySem.W.kitOne K (.ref (He.ga K "Begin")) (.ref (He.ga K "Near")) = some false := PL.kit_at (He.ba (He.ba (He.ba (He.ba T.x).2).2).2).1 2
theorem Tx.kit_Row_Near (T : Tx K mg) : PySem.W.kitOne K (.ref (He.ga K "Row")) (.ref (He.ga K "Near")) = some false := PL.kit_at (He.ba (He.ba (He.ba (He.ba T.x).2).2).2).1 3
theorem Tx.kit_Near_Near (T : Tx K mg) : PySem.W.kitOne K (.ref (He.ga K "Near")) (.ref (He.ga K "Near")) = some true := PL.kit_at (He.ba (He.ba (He.ba (He.ba T.x).2).2).2).1 4
theorem Tx.kit_In_Near (T : Tx K mg) : PySem.W.kitOne K (.ref (He.ga K "In")) (.ref (He.ga K "Near")) = some false := PL.kit_at (He.ba (He.ba (He.ba (He.ba T.x).2).2).2).1 5
theorem Tx.kit_All_Near (T : Tx K mg) : PySem.W.kitOne K (.ref (He.ga K "All")) (.ref (He.ga K "Near")) = some false := PL.kit_at (He.ba (He.ba (He.ba (He.ba T.x).2).2).2).1 6
theorem Tx.kit_Any_Near (T : Tx K mg) : PySem.W.kitOne K (.ref (He.ga K "Any")) (.ref (He.ga K "Near")) = some false := PL.kit_at (He.ba (He.ba (He.ba (He.ba T.x).2).2).2).1 7
theorem Tx.kit_But_Near (T : Tx K mg) : PySem.W.kitOne K (.ref (He.ga K "But")) (.ref (He.ga K "Near")) = some false := PL.kit_at (He.ba (He.ba (He.ba (He.ba T.x).2).2).2).1 8
theorem Tx.kit_Also_Near (T : Tx K mg) : PySem.W.kitOne K (.ref (He.ga K "Also")) (.ref (He.ga K "Near")) = some false := PL.kit_at (He.ba (He.ba (He.ba (He.ba T.x).2).2).2).1 9
theorem Tx.kit_By_Near (T : Tx K mg) : PySem.W.kitOne K (.ref (He.ga K "By")) (.ref (He.ga K "Near")) = some false := PL.kit_at (He.ba (He.ba (He.ba (He.ba T.x).2).2).2).1 10
theorem Tx.kit_Never_Near (T : Tx K mg) : PySem.W.kitOne K (.ref (He.ga K "Never")) (.ref (He.ga K "Near")) = some false := PL.kit_at (He.ba (He.ba (He.ba (He.ba T.x).2).2).2).1 11
theorem Tx.kit_Word_Row (T : Tx K mg) : PySem.W.kitOne K (.ref (He.ga K "Word")) (.ref (He.ga K "Row")) = some false := PL.kit_at (He.ba (He.ba (He.ba (He.ba (He.ba T.x).2).2).2).2).1 1
theorem Tx.kit_Begin_Row (T : Tx K mg) : PySem.W.kitOne K (.ref (He.ga K "Begin")) (.ref (He.ga K "Row")) = some false := PL.kit_at (He.ba (He.ba (He.ba (He.ba (He.ba T.x).2).2).2).2).1 2
theorem Tx.kit_Row_Row (T : Tx K mg) : PySem.W.kitOne K (.ref (He.ga K "Row")) (.ref (He.ga K "Row")) = some true := PL.kit_at (He.ba (He.ba (He.ba (He.ba (He.ba T.x).2).2).2).2).1 3
theorem Tx.kit_Near_Row (T : Tx K mg) : PySem.W.kitOne K (.ref (He.ga K "Near")) (.ref (He.ga K "Row")) = some false := PL.kit_at (He.ba (He.ba (He.ba (He.ba (He.ba T.x).2).2).2).2).1 4
theorem Tx.kit_In_Row (T : Tx K mg) : PySem.W.kitOne K (.ref (He.ga K "In")) (.ref (He.ga K "Row")) = some false := PL.kit_at (He.ba (He.ba (He.ba (He.ba (He.ba T.x).2).2).2).2).1 5
theorem Tx.kit_All_Row (T : Tx K mg) : PySem.W.kitOne K (.ref (He.ga K "All")) (.ref (He.ga K "Row")) = some false := PL.kit_at (He.ba (He.ba (He.ba (He.ba (He.ba T.x).2).2).2).2).1 6
theorem Tx.kit_Any_Row (T : Tx K mg) : PySem.W.kitOne K (.ref (He.ga K "Any")) (.ref (He.ga K "Row")) = some false := PL.kit_at (He.ba (He.ba (He.ba (He.ba (He.ba T.x).2).2).2).2).1 7
theorem Tx.kit_But_Row (T : Tx K mg) : PySem.W.kitOne K (.ref (He.ga K "But")) (.ref (He.ga K "Row")) = some false := PL.kit_at (He.ba (He.ba (He.ba (He.ba (He.ba T.x).2).2).2).2).1 8
theorem Tx.kit_Also_Row (T : Tx K mg) : PySem.W.kitOne K (.ref (He.ga K "Also")) (.ref (He.ga K "Row")) = some false := PL.kit_at (He.ba (He.ba (He.ba (He.ba (He.ba T.x).2).2).2).2).1 9
theorem Tx.kit_By_Row (T : Tx K mg) : PySem.W.kitOne K (.ref (He.ga K "By")) (.ref (He.ga K "Row")) = some false := PL.kit_at (He.ba (He.ba (He.ba (He.ba (He.ba T.x).2).2).2).2).1 10
theorem Tx.kit_Never_Row (T : Tx K mg) : PySem.W.kitOne K (.ref (He.ga K "Never")) (.ref (He.ga K "Row")) = some false := PL.kit_at (He.ba (He.ba (He.ba (He.ba (He.ba T.x).2).2).2).2).1 11
theorem Tx.kit_Word_Word (T : Tx K mg) : PySem.W.kitOne K (.ref (He.ga K "Word")) (.ref (He.ga K "Word")) = some true := PL.kit_at (He.ba (He.ba (He.ba (He.ba (He.ba (He.ba T.x).2).2).2).2).2).1 1
theorem Tx.kit_Begin_Word (T : Tx K mg) : PySem.W.kitOne K (.ref (He.ga K "Begin")) (.ref (He.ga K "Word")) = some false := PL.kit_at (He.ba (He.ba (He.ba (He.ba (He.ba (He.ba T.x).2).2).2).2).2).1 2
theorem Tx.kit_Row_Word (T : Tx K mg) : PySem.W.kitOne K (.ref (He.ga K "Row")) (.ref (He.ga K "Word")) = some false := PL.kit_at (He.ba (He.ba (He.ba (He.ba (He.ba (He.ba T.x).2).2).2).2).2).1 3
theorem Tx.kit_Near_Word (T : Tx K mg) : PySem.W.kitOne K (.ref (He.ga K "Near")) (.ref (He.ga K "Word")) = some false := PL.kit_at (He.ba (He.ba (He.ba (He.ba (He.ba (He.ba T.x).2).2).2).2).2).1 4
theorem Tx.kit_In_Word (T : Tx K mg) : PySem.W.kitOne K (.ref (He.ga K "In")) (.ref (He.ga K "Word")) = some false := PL.kit_at (He.ba (He.ba (He.ba (He.ba (He.ba (He.ba T.x).2).2).2).2).2).1 5
theorem Tx.kit_All_Word (T : Tx K mg) : PySem.W.kitOne K (.ref (He.ga K "All")) (.ref (He.ga K "Word")) = some false := PL.kit_at (He.ba (He.ba (He.ba (He.ba (He.ba (He.ba T.x).2).2).2).2).2).1 6
theorem Tx.kit_Any_Word (T : Tx K mg) : PySem.W.kitOne K (.ref (He.ga K "Any")) (.ref (He.ga K "Word")) = some false := PL.kit_at (He.ba (He.ba (He.ba (He.ba (He.ba (He.ba T.x).2).2).2).2).2).1 7
theorem Tx.kit_But_Word (T : Tx K mg) : PySem.W.kitOne K (.ref (He.ga K "But")) (.ref (He.ga K "Word")) = some false := PL.kit_at (He.ba (He.ba (He.ba (He.ba (He.ba (He.ba T.x).2).2).2).2).2).1 8
theorem Tx.kit_Also_Word (T : Tx K mg) : PySem.W.kitOne K (.ref (He.ga K "Also")) (.ref (He.ga K "Word")) = some false := PL.kit_at (He.ba (He.ba (He.ba (He.ba (He.ba (He.ba T.x).2).2).2).2).2).1 9
theorem Tx.kit_By_Word (T : Tx K mg) : PySem.W.kitOne K (.ref (He.ga K "By")) (.ref (He.ga K "Word")) = some false := PL.kit_at (He.ba (He.ba (He.ba (He.ba (He.ba (He.ba T.x).2).2).2).2).2).1 10
theorem Tx.kit_Never_Word (T : Tx K mg) : PySem.W.kitOne K (.ref (He.ga K "Never")) (.ref (He.ga K "Word")) = some false := PL.kit_at (He.ba (He.ba (He.ba (He.ba (He.ba (He.ba T.x).2).2).2).2).2).1 11
theorem Tx.z_Never (T : Tx K mg) : PL.Mk0 K (He.ga K "Never") := PL.mk0_ok (He.ba (He.ba (He.ba (He.ba (He.ba (He.ba (He.ba (He.ba T.x).2).2).2).2).2).2).2).1
theorem Tx.t_EVERY_PART (T : Tx K mg) : ∀ G, SqT K G (He.ga K "EVERY_PART") ([(0 : Int), (1 : Int), (2 : Int)].map V.int) := PL.tupC_ok (He.ba (He.ba (He.ba (He.ba (He.ba (He.ba (He.ba (He.ba (He.ba T.x).2).2).2).2).2).2).2).2).1
theorem Tx.f_is_plain (T : Tx K mg) : ∃ fd, F_is_plain K (He.fAd K ("is_plain", none)) fd := T.c.def_ 1 (d := d_is_plain) (by kernel_rfl)
theorem b_is_plain {f : Addr} {fd : FuncData} (F : F_is_plain K f fd) : Binds K fd ["word"] [] := F.bindsN fun _ _ _ _ _ _ us hl => match us, hl with | [_], _ => rfl
theorem call_is_plain (T : Tx K mg) {k : Nat} {sp : Sp} (h : ∀ f fd, F_is_plain K f fd → FnOk P w K mg base CX0 k f fd ["word"] sp) : CallOk P w K mg base "is_plain" k sp := let ⟨fd, F⟩ := T.f_is_plain; ⟨_, fd, _, h _ fd F, T.g_is_plain, F.kp, b_is_plain F⟩
theorem Tx.f_want_plain (T : Tx K mg) : ∃ fd, F_want_plain K (He.fAd K ("want_plain", none)) fd := T.c.def_ 2 (d := d_want_plain) (by kernel_rfl)
theorem b_want_plain {f : Addr} {fd : FuncData} (F : F_want_plain K f fd) : Binds K fd ["words"] [] := F.bindsN fun _ _ _ _ _ _ us hl => match us, hl with | [_], _ => rfl
theorem call_want_plain (T : Tx K mg) {k : Nat} {sp : Sp} (h : ∀ f fd, F_want_plain K f fd → FnOk P w K mg base CX0 k f fd ["words"] sp) : CallOk P w K mg base "want_plain" k sp := let ⟨fd, F⟩ := T.f_want_plain; ⟨_, fd, _, h _ fd F, T.g_want_plain, F.kp, b_want_plain F⟩
theorem Tx.f_want_within (T : Tx K mg) : ∃ fd, F_want_within K (He.fAd K ("want_within", none)) fd := T.c.def_ 3 (d := d_want_within) (by kernel_rfl)
theorem b_want_within {f : Addr} {fd : FuncData} (F : F_want_within K f fd) : Binds K fd ["number", "least", "most"] [] := F.bindsN fun _ _ _ _ _ _ us hl => match us, hl with | [_, _, _], _ => rfl
theorem call_want_within (T : Tx K mg) {k : Nat} {sp : Sp} (h : ∀ f fd, F_want_within K f fd → FnOk P w K mg base CX0 k f fd ["number", "least", "most"] sp) : CallOk P w K mg base "want_within" k sp := let ⟨fd, F⟩ := T.f_want_within; ⟨_, fd, _, h _ fd F, T.g_want_within, F.kp, b_want_within F⟩
theorem Tx.f_Word_inner_ones (T : Tx K mg) : ∃ fd, F_Word_inner_ones K (He.fAd K ("Word", some "inner_ones")) fd := T.c.def_ 7 (d := d_Word_inner_ones) (by kernel_rfl)
theorem b_Word_inner_ones {f : Addr} {fd : FuncData} (F : F_Word_inner_ones K f fd) : Binds K fd ["self"] [] := F.bindsN fun _ _ _ _ _ _ us hl => match us, hl with | [_], _ => rfl
theorem meth_Word_inner_ones (T : Tx K mg) {k : Nat} {sp : Sp} (h : ∀ f fd, F_Word_inner_ones K f fd → FnOk P w K mg base CX0 k f fd ["self"] sp) : MethOk P w K mg base (He.ga K "Word") "inner_ones" k sp := let ⟨fd, F⟩ := T.f_Word_inner_ones; ⟨_, fd, _, h _ fd F, T.m_Word_inner_ones, b_Word_inner_ones F, T.c_Word⟩
theorem Tx.f_Word_init (T : Tx K mg) : ∃ fd, F_Word_init K (He.fAd K ("Word", some "__init__")) fd := T.c.def_ 9 (d := d_Word_init) (by kernel_rfl)
theorem b_Word_init {f : Addr} {fd : FuncData} (F : F_Word_init K f fd) : Binds K fd ["self", "word"] [] := F.bindsN fun _ _ _ _ _ _ us hl => match us, hl with | [_, _], _ => rfl
theorem make_Word (T : Tx K mg) {k : Nat} {sp : Sp} (h : ∀ f fd, F_Word_init K f fd → FnOk P w K mg base CX0 k f fd ["self", "word"] sp) : MakeOk P w K mg base "Word" (He.ga K "Word") k sp := let ⟨fd, F⟩ := T.f_Word_init; ⟨_, fd, _, h _ fd F, T.g_Word, T.i_Word, b_Word_init F⟩
theorem Tx.f_Word_told (T : Tx K mg) : ∃ fd, F_Word_told K (He.fAd K ("Word", some "told")) fd := T.c.def_ 10 (d := d_Word_told) (by kernel_rfl)
theorem b_Word_told {f : Addr} {fd : FuncData} (F : F_Word_told K f fd) : Binds K fd ["self"] [] := F.bindsN fun _ _ _ _ _ _ us hl => match us, hl with | [_], _ => rfl
theorem meth_Word_told (T : Tx K mg) {k : Nat} {sp : Sp} (h : ∀ f fd, F_Word_told K f fd → FnOk P w K mg base CX0 k f fd ["self"] sp) : MethOk P w K mg base (He.ga K "Word") "told" k sp := let ⟨fd, F⟩ := T.f_Word_told; ⟨_, fd, _, h _ fd F, T.m_Word_told, b_Word_told F, T.c_Word⟩
theorem Tx.f_Begin_inner_ones (T : Tx K mg) : ∃ fd, F_Begin_inner_ones K (He.fAd K ("Begin", some "inner_ones")) fd := T.c.def_ 11 (d := d_Begin_inner_ones) (by kernel_rfl)
theorem b_Begin_inner_ones {f : Addr} {fd : FuncData} (F : F_Begin_inner_ones K f fd) : Binds K fd ["self"] [] := F.bindsN fun _ _ _ _ _ _ us hl => match us, hl with | [_], _ => rfl
theorem meth_Begin_inner_ones (T : Tx K mg) {k : Nat} {sp : Sp} (h : ∀ f fd, F_Begin_inner_ones K f fd → FnOk P w K mg base CX0 k f fd ["self"] sp) : MethOk P w K mg base (He.ga K "Begin") "inner_ones" k sp := let ⟨fd, F⟩ := T.f_Begin_inner_ones; ⟨_, fd, _, h _ fd F, T.m_Begin_inner_ones, b_Begin_inner_ones F, T.c_Begin⟩
theorem Tx.f_Begin_init (T : Tx K mg) : ∃ fd, F_Begin_init K (He.fAd K ("Begin", some "__init__")) fd := T.c.def_ 13 (d := d_Begin_init) (by kernel_rfl)
theorem b_Begin_init {f : Addr} {fd : FuncData} (F : F_Begin_init K f fd) : Binds K fd ["self", "start"] [] := F.bindsN fun _ _ _ _ _ _ us hl => match us, hl with | [_, _], _ => rfl
theorem make_Begin (T : Tx K mg) {k : Nat} {sp : Sp} (h : ∀ f fd, F_Begin_init K f fd → FnOk P w K mg base CX0 k f fd ["self", "start"] sp) : MakeOk P w K mg base "Begin" (He.ga K "Begin") k sp := let ⟨fd, F⟩ := T.f_Begin_init; ⟨_, fd, _, h _ fd F, T.g_Begin, T.i_Begin, b_Begin_init F⟩
theorem Tx.f_Begin_told (T : Tx K mg) : ∃ fd, F_Begin_told K (He.fAd K ("Begin", some "told")) fd := T.c.def_ 14 (d := d_Begin_told) (by kernel_rfl)
theorem b_Begin_told {f : Addr} {fd : FuncData} (F : F_Begin_told K f fd) : Binds K fd ["self"] [] := F.bindsN fun _ _ _ _ _ _ us hl => match us, hl with | [_], _ => rfl
theorem meth_Begin_told (T : Tx K mg) {k : Nat} {sp : Sp} (h : ∀ f fd, F_Begin_told K f fd → FnOk P w K mg base CX0 k f fd ["self"] sp) : MethOk P w K mg base (He.ga K "Begin") "told" k sp := let ⟨fd, F⟩ := T.f_Begin_told; ⟨_, fd, _, h _ fd F, T.m_Begin_told, b_Begin_told F, T.c_Begin⟩
theorem Tx.f_Row_inner_ones (T : Tx K mg) : ∃ fd, F_Row_inner_ones K (He.fAd K ("Row", some "inner_ones")) fd := T.c.def_ 15 (d := d_Row_inner_ones) (by kernel_rfl)
theorem b_Row_inner_ones {f : Addr} {fd : FuncData} (F : F_Row_inner_ones K f fd) : Binds K fd ["self"] [] := F.bindsN fun _ _ _ _ _ _ us hl => match us, hl with | [_], _ => rfl
theorem meth_Row_inner_ones (T : Tx K mg) {k : Nat} {sp : Sp} (h : ∀ f fd, F_Row_inner_ones K f fd → FnOk P w K mg base CX0 k f fd ["self"] sp) : MethOk P w K mg base (He.ga K "Row") "inner_ones" k sp := let ⟨fd, F⟩ := T.f_Row_inner_ones; ⟨_, fd, _, h _ fd F, T.m_Row_inner_ones, b_Row_inner_ones F, T.c_Row⟩
theorem Tx.f_Row_init (T : Tx K mg) : ∃ fd, F_Row_init K (He.fAd K ("Row", some "__init__")) fd := T.c.def_ 17 (d := d_Row_init) (by kernel_rfl)
theorem b_Row_init {f : Addr} {fd : FuncData} (F : F_Row_init K f fd) : Binds K fd ["self", "words"] [] := F.bindsN fun _ _ _ _ _ _ us hl => match us, hl with | [_, _], _ => rfl
theorem make_Row (T : Tx K mg) {k : Nat} {sp : Sp} (h : ∀ f fd, F_Row_init K f fd → FnOk P w K mg base CX0 k f fd ["self", "words"] sp) : MakeOk P w K mg base "Row" (He.ga K "Row") k sp := let ⟨fd, F⟩ := T.f_Row_init; ⟨_, fd, _, h _ fd F, T.g_Row, T.i_Row, b_Row_init F⟩
theorem Tx.f_Row_told (T : Tx K mg) : ∃ fd, F_Row_told K (He.fAd K ("Row", some "told")) fd := T.c.def_ 18 (d := d_Row_told) (by kernel_rfl)
theorem b_Row_told {f : Addr} {fd : FuncData} (F : F_Row_told K f fd) : Binds K fd ["self"] [] := F.bindsN fun _ _ _ _ _ _ us hl => match us, hl with | [_], _ => rfl
theorem meth_Row_told (T : Tx K mg) {k : Nat} {sp : Sp} (h : ∀ f fd, F_Row_told K f fd → FnOk P w K mg base CX0 k f fd ["self"] sp) : MethOk P w K mg base (He.ga K "Row") "told" k sp := let ⟨fd, F⟩ := T.f_Row_told; ⟨_, fd, _, h _ fd F, T.m_Row_told, b_Row_told F, T.c_Row⟩
theorem Tx.f_Near_inner_ones (T : Tx K mg) : ∃ fd, F_Near_inner_ones K (He.fAd K ("Near", some "inner_ones")) fd := T.c.def_ 19 (d := d_Near_inner_ones) (by kernel_rfl)
theorem b_Near_inner_ones {f : Addr} {fd : FuncData} (F : F_Near_inner_ones K f fd) : Binds K fd ["self"] [] := F.bindsN fun _ _ _ _ _ _ us hl => match us, hl with | [_], _ => rfl
theorem meth_Near_inner_ones (T : Tx K mg) {k : Nat} {sp : Sp} (h : ∀ f fd, F_Near_inner_ones K f fd → FnOk P w K mg base CX0 k f fd ["self"] sp) : MethOk P w K mg base (He.ga K "Near") "inner_ones" k sp := let ⟨fd, F⟩ := T.f_Near_inner_ones; ⟨_, fd, _, h _ fd F, T.m_Near_inner_ones, b_Near_inner_ones F, T.c_Near⟩
theorem Tx.f_Near_init (T : Tx K mg) : ∃ fd, F_Near_init K (He.fAd K ("Near", some "__init__")) fd := T.c.def_ 21 (d := d_Near_init) (by kernel_rfl)
theorem b_Near_init {f : Addr} {fd : FuncData} (F : F_Near_init K f fd) : Binds K fd ["self", "far", "one", "other"] [] := F.bindsN fun _ _ _ _ _ _ us hl => match us, hl with | [_, _, _, _], _ => rfl
theorem make_Near (T : Tx K mg) {k : Nat} {sp : Sp} (h : ∀ f fd, F_Near_init K f fd → FnOk P w K mg base CX0 k f fd ["self", "far", "one", "other"] sp) : MakeOk P w K mg base "Near" (He.ga K "Near") k sp := let ⟨fd, F⟩ := T.f_Near_init; ⟨_, fd, _, h _ fd F, T.g_Near, T.i_Near, b_Near_init F⟩
theorem Tx.f_Near_told (T : Tx K mg) : ∃ fd, F_Near_told K (He.fAd K ("Near", some "told")) fd := T.c.def_ 22 (d := d_Near_told) (by kernel_rfl)
theorem b_Near_told {f : Addr} {fd : FuncData} (F : F_Near_told K f fd) : Binds K fd ["self"] [] := F.bindsN fun _ _ _ _ _ _ us hl => match us, hl with | [_], _ => rfl
theorem meth_Near_told (T : Tx K mg) {k : Nat} {sp : Sp} (h : ∀ f fd, F_Near_told K f fd → FnOk P w K mg base CX0 k f fd ["self"] sp) : MethOk P w K mg base (He.ga K "Near") "told" k sp := let ⟨fd, F⟩ := T.f_Near_told; ⟨_, fd, _, h _ fd F, T.m_Near_told, b_Near_told F, T.c_Near⟩
theorem Tx.f_In_init (T : Tx K mg) : ∃ fd, F_In_init K (He.fAd K ("In", some "__init__")) fd := T.c.def_ 23 (d := d_In_init) (by kernel_rfl)
theorem b_In_init {f : Addr} {fd : FuncData} (F : F_In_init K f fd) : Binds K fd ["self", "part", "inner"] [] := F.bindsN fun _ _ _ _ _ _ us hl => match us, hl with | [_, _, _], _ => rfl
theorem make_In (T : Tx K mg) {k : Nat} {sp : Sp} (h : ∀ f fd, F_In_init K f fd → FnOk P w K mg base CX0 k f fd ["self", "part", "inner"] sp) : MakeOk P w K mg base "In" (He.ga K "In") k sp := let ⟨fd, F⟩ := T.f_In_init; ⟨_, fd, _, h _ fd F, T.g_In, T.i_In, b_In_init F⟩
theorem Tx.f_In_told (T : Tx K mg) : ∃ fd, F_In_told K (He.fAd K ("In", some "told")) fd := T.c.def_ 24 (d := d_In_told) (by kernel_rfl)
theorem b_In_told {f : Addr} {fd : FuncData} (F : F_In_told K f fd) : Binds K fd ["self"] [] := F.bindsN fun _ _ _ _ _ _ us hl => match us, hl with | [_], _ => rfl
theorem meth_In_told (T : Tx K mg) {k : Nat} {sp : Sp} (h : ∀ f fd, F_In_told K f fd → FnOk P w K mg base CX0 k f fd ["self"] sp) : MethOk P w K mg base (He.ga K "In") "told" k sp := let ⟨fd, F⟩ := T.f_In_told; ⟨_, fd, _, h _ fd F, T.m_In_told, b_In_told F, T.c_In⟩
theorem Tx.f_In_inner_ones (T : Tx K mg) : ∃ fd, F_In_inner_ones K (He.fAd K ("In", some "inner_ones")) fd := T.c.def_ 25 (d := d_In_inner_ones) (by kernel_rfl)
theorem b_In_inner_ones {f : Addr} {fd : FuncData} (F : F_In_inner_ones K f fd) : Binds K fd ["self"] [] := F.bindsN fun _ _ _ _ _ _ us hl => match us, hl with | [_], _ => rfl
theorem meth_In_inner_ones (T : Tx K mg) {k : Nat} {sp : Sp} (h : ∀ f fd, F_In_inner_ones K f fd → FnOk P w K mg base CX0 k f fd ["self"] sp) : MethOk P w K mg base (He.ga K "In") "inner_ones" k sp := let ⟨fd, F⟩ := T.f_In_inner_ones; ⟨_, fd, _, h _ fd F, T.m_In_inner_ones, b_In_inner_ones F, T.c_In⟩
theorem Tx.f_All_init (T : Tx K mg) : ∃ fd, F_All_init K (He.fAd K ("All", some "__init__")) fd := T.c.def_ 27 (d := d_All_init) (by kernel_rfl)
theorem b_All_init {f : Addr} {fd : FuncData} (F : F_All_init K f fd) : Binds K fd ["self", "parts"] [] := F.bindsN fun _ _ _ _ _ _ us hl => match us, hl with | [_, _], _ => rfl
theorem make_All (T : Tx K mg) {k : Nat} {sp : Sp} (h : ∀ f fd, F_All_init K f fd → FnOk P w K mg base CX0 k f fd ["self", "parts"] sp) : MakeOk P w K mg base "All" (He.ga K "All") k sp := let ⟨fd, F⟩ := T.f_All_init; ⟨_, fd, _, h _ fd F, T.g_All, T.i_All, b_All_init F⟩
theorem Tx.f_All_told (T : Tx K mg) : ∃ fd, F_All_told K (He.fAd K ("All", some "told")) fd := T.c.def_ 28 (d := d_All_told) (by kernel_rfl)
theorem b_All_told {f : Addr} {fd : FuncData} (F : F_All_told K f fd) : Binds K fd ["self"] [] := F.bindsN fun _ _ _ _ _ _ us hl => match us, hl with | [_], _ => rfl
theorem meth_All_told (T : Tx K mg) {k : Nat} {sp : Sp} (h : ∀ f fd, F_All_told K f fd → FnOk P w K mg base CX0 k f fd ["self"] sp) : MethOk P w K mg base (He.ga K "All") "told" k sp := let ⟨fd, F⟩ := T.f_All_told; ⟨_, fd, _, h _ fd F, T.m_All_told, b_All_told F, T.c_All⟩
theorem Tx.f_All_inner_ones (T : Tx K mg) : ∃ fd, F_All_inner_ones K (He.fAd K ("All", some "inner_ones")) fd := T.c.def_ 29 (d := d_All_inner_ones) (by kernel_rfl)
theorem b_All_inner_ones {f : Addr} {fd : FuncData} (F : F_All_inner_ones K f fd) : Binds K fd ["self"] [] := F.bindsN fun _ _ _ _ _ _ us hl => match us, hl with | [_], _ => rfl
theorem meth_All_inner_ones (T : Tx K mg) {k : Nat} {sp : Sp} (h : ∀ f fd, F_All_inner_ones K f fd → FnOk P w K mg base CX0 k f fd ["self"] sp) : MethOk P w K mg base (He.ga K "All") "inner_ones" k sp := let ⟨fd, F⟩ := T.f_All_inner_ones; ⟨_, fd, _, h _ fd F, T.m_All_inner_ones, b_All_inner_ones F, T.c_All⟩
theorem Tx.f_Any_init (T : Tx K mg) : ∃ fd, F_Any_init K (He.fAd K ("Any", some "__init__")) fd := T.c.def_ 31 (d := d_Any_init) (by kernel_rfl)
theorem b_Any_init {f : Addr} {fd : FuncData} (F : F_Any_init K f fd) : Binds K fd ["self", "parts"] [] := F.bindsN fun _ _ _ _ _ _ us hl => match us, hl with | [_, _], _ => rfl
theorem make_Any (T : Tx K mg) {k : Nat} {sp : Sp} (h : ∀ f fd, F_Any_init K f fd → FnOk P w K mg base CX0 k f fd ["self", "parts"] sp) : MakeOk P w K mg base "Any" (He.ga K "Any") k sp := let ⟨fd, F⟩ := T.f_Any_init; ⟨_, fd, _, h _ fd F, T.g_Any, T.i_Any, b_Any_init F⟩
theorem Tx.f_Any_told (T : Tx K mg) : ∃ fd, F_Any_told K (He.fAd K ("Any", some "told")) fd := T.c.def_ 32 (d := d_Any_told) (by kernel_rfl)
theorem b_Any_told {f : Addr} {fd : FuncData} (F : F_Any_told K f fd) : Binds K fd ["self"] [] := F.bindsN fun _ _ _ _ _ _ us hl => match us, hl with | [_], _ => rfl
theorem meth_Any_told (T : Tx K mg) {k : Nat} {sp : Sp} (h : ∀ f fd, F_Any_told K f fd → FnOk P w K mg base CX0 k f fd ["self"] sp) : MethOk P w K mg base (He.ga K "Any") "told" k sp := let ⟨fd, F⟩ := T.f_Any_told; ⟨_, fd, _, h _ fd F, T.m_Any_told, b_Any_told F, T.c_Any⟩
theorem Tx.f_Any_inner_ones (T : Tx K mg) : ∃ fd, F_Any_inner_ones K (He.fAd K ("Any", some "inner_ones")) fd := T.c.def_ 33 (d := d_Any_inner_ones) (by kernel_rfl)
theorem b_Any_inner_ones {f : Addr} {fd : FuncData} (F : F_Any_inner_ones K f fd) : Binds K fd ["self"] [] := F.bindsN fun _ _ _ _ _ _ us hl => match us, hl with | [_], _ => rfl
theorem meth_Any_inner_ones (T : Tx K mg) {k : Nat} {sp : Sp} (h : ∀ f fd, F_Any_inner_ones K f fd → FnOk P w K mg base CX0 k f fd ["self"] sp) : MethOk P w K mg base (He.ga K "Any") "inner_ones" k sp := let ⟨fd, F⟩ := T.f_Any_inner_ones; ⟨_, fd, _, h _ fd F, T.m_Any_inner_ones, b_Any_inner_ones F, T.c_Any⟩
theorem Tx.f_But_init (T : Tx K mg) : ∃ fd, F_But_init K (He.fAd K ("But", some "__init__")) fd := T.c.def_ 35 (d := d_But_init) (by kernel_rfl)
theorem b_But_init {f : Addr} {fd : FuncData} (F : F_But_init K f fd) : Binds K fd ["self", "one", "other"] [] := F.bindsN fun _ _ _ _ _ _ us hl => match us, hl with | [_, _, _], _ => rfl
theorem make_But (T : Tx K mg) {k : Nat} {sp : Sp} (h : ∀ f fd, F_But_init K f fd → FnOk P w K mg base CX0 k f fd ["self", "one", "other"] sp) : MakeOk P w K mg base "But" (He.ga K "But") k sp := let ⟨fd, F⟩ := T.f_But_init; ⟨_, fd, _, h _ fd F, T.g_But, T.i_But, b_But_init F⟩
theorem Tx.f_But_told (T : Tx K mg) : ∃ fd, F_But_told K (He.fAd K ("But", some "told")) fd := T.c.def_ 36 (d := d_But_told) (by kernel_rfl)
theorem b_But_told {f : Addr} {fd : FuncData} (F : F_But_told K f fd) : Binds K fd ["self"] [] := F.bindsN fun _ _ _ _ _ _ us hl => match us, hl with | [_], _ => rfl
theorem meth_But_told (T : Tx K mg) {k : Nat} {sp : Sp} (h : ∀ f fd, F_But_told K f fd → FnOk P w K mg base CX0 k f fd ["self"] sp) : MethOk P w K mg base (He.ga K "But") "told" k sp := let ⟨fd, F⟩ := T.f_But_told; ⟨_, fd, _, h _ fd F, T.m_But_told, b_But_told F, T.c_But⟩
theorem Tx.f_But_inner_ones (T : Tx K mg) : ∃ fd, F_But_inner_ones K (He.fAd K ("But", some "inner_ones")) fd := T.c.def_ 37 (d := d_But_inner_ones) (by kernel_rfl)
theorem b_But_inner_ones {f : Addr} {fd : FuncData} (F : F_But_inner_ones K f fd) : Binds K fd ["self"] [] := F.bindsN fun _ _ _ _ _ _ us hl => match us, hl with | [_], _ => rfl
theorem meth_But_inner_ones (T : Tx K mg) {k : Nat} {sp : Sp} (h : ∀ f fd, F_But_inner_ones K f fd → FnOk P w K mg base CX0 k f fd ["self"] sp) : MethOk P w K mg base (He.ga K "But") "inner_ones" k sp := let ⟨fd, F⟩ := T.f_But_inner_ones; ⟨_, fd, _, h _ fd F, T.m_But_inner_ones, b_But_inner_ones F, T.c_But⟩
theorem Tx.f_Also_init (T : Tx K mg) : ∃ fd, F_Also_init K (He.fAd K ("Also", some "__init__")) fd := T.c.def_ 39 (d := d_Also_init) (by kernel_rfl)
theorem b_Also_init {f : Addr} {fd : FuncData} (F : F_Also_init K f fd) : Binds K fd ["self", "one", "other"] [] := F.bindsN fun _ _ _ _ _ _ us hl => match us, hl with | [_, _, _], _ => rfl
theorem make_Also (T : Tx K mg) {k : Nat} {sp : Sp} (h : ∀ f fd, F_Also_init K f fd → FnOk P w K mg base CX0 k f fd ["self", "one", "other"] sp) : MakeOk P w K mg base "Also" (He.ga K "Also") k sp := let ⟨fd, F⟩ := T.f_Also_init; ⟨_, fd, _, h _ fd F, T.g_Also, T.i_Also, b_Also_init F⟩
theorem Tx.f_Also_told (T : Tx K mg) : ∃ fd, F_Also_told K (He.fAd K ("Also", some "told")) fd := T.c.def_ 40 (d := d_Also_told) (by kernel_rfl)
theorem b_Also_told {f : Addr} {fd : FuncData} (F : F_Also_told K f fd) : Binds K fd ["self"] [] := F.bindsN fun _ _ _ _ _ _ us hl => match us, hl with | [_], _ => rfl
theorem meth_Also_told (T : Tx K mg) {k : Nat} {sp : Sp} (h : ∀ f fd, F_Also_told K f fd → FnOk P w K mg base CX0 k f fd ["self"] sp) : MethOk P w K mg base (He.ga K "Also") "told" k sp := let ⟨fd, F⟩ := T.f_Also_told; ⟨_, fd, _, h _ fd F, T.m_Also_told, b_Also_told F, T.c_Also⟩
theorem Tx.f_Also_inner_ones (T : Tx K mg) : ∃ fd, F_Also_inner_ones K (He.fAd K ("Also", some "inner_ones")) fd := T.c.def_ 41 (d := d_Also_inner_ones) (by kernel_rfl)
theorem b_Also_inner_ones {f : Addr} {fd : FuncData} (F : F_Also_inner_ones K f fd) : Binds K fd ["self"] [] := F.bindsN fun _ _ _ _ _ _ us hl => match us, hl with | [_], _ => rfl
theorem meth_Also_inner_ones (T : Tx K mg) {k : Nat} {sp : Sp} (h : ∀ f fd, F_Also_inner_ones K f fd → FnOk P w K mg base CX0 k f fd ["self"] sp) : MethOk P w K mg base (He.ga K "Also") "inner_ones" k sp := let ⟨fd, F⟩ := T.f_Also_inner_ones; ⟨_, fd, _, h _ fd F, T.m_Also_inner_ones, b_Also_inner_ones F, T.c_Also⟩
theorem Tx.f_By_init (T : Tx K mg) : ∃ fd, F_By_init K (He.fAd K ("By", some "__init__")) fd := T.c.def_ 43 (d := d_By_init) (by kernel_rfl)
theorem b_By_init {f : Addr} {fd : FuncData} (F : F_By_init K f fd) : Binds K fd ["self", "times", "inner"] [] := F.bindsN fun _ _ _ _ _ _ us hl => match us, hl with | [_, _, _], _ => rfl
theorem make_By (T : Tx K mg) {k : Nat} {sp : Sp} (h : ∀ f fd, F_By_init K f fd → FnOk P w K mg base CX0 k f fd ["self", "times", "inner"] sp) : MakeOk P w K mg base "By" (He.ga K "By") k sp := let ⟨fd, F⟩ := T.f_By_init; ⟨_, fd, _, h _ fd F, T.g_By, T.i_By, b_By_init F⟩
theorem Tx.f_By_told (T : Tx K mg) : ∃ fd, F_By_told K (He.fAd K ("By", some "told")) fd := T.c.def_ 44 (d := d_By_told) (by kernel_rfl)
theorem b_By_told {f : Addr} {fd : FuncData} (F : F_By_told K f fd) : Binds K fd ["self"] [] := F.bindsN fun _ _ _ _ _ _ us hl => match us, hl with | [_], _ => rfl
theorem meth_By_told (T : Tx K mg) {k : Nat} {sp : Sp} (h : ∀ f fd, F_By_told K f fd → FnOk P w K mg base CX0 k f fd ["self"] sp) : MethOk P w K mg base (He.ga K "By") "told" k sp := let ⟨fd, F⟩ := T.f_By_told; ⟨_, fd, _, h _ fd F, T.m_By_told, b_By_told F, T.c_By⟩
theorem Tx.f_By_inner_ones (T : Tx K mg) : ∃ fd, F_By_inner_ones K (He.fAd K ("By", some "inner_ones")) fd := T.c.def_ 45 (d := d_By_inner_ones) (by kernel_rfl)
theorem b_By_inner_ones {f : Addr} {fd : FuncData} (F : F_By_inner_ones K f fd) : Binds K fd ["self"] [] := F.bindsN fun _ _ _ _ _ _ us hl => match us, hl with | [_], _ => rfl
theorem meth_By_inner_ones (T : Tx K mg) {k : Nat} {sp : Sp} (h : ∀ f fd, F_By_inner_ones K f fd → FnOk P w K mg base CX0 k f fd ["self"] sp) : MethOk P w K mg base (He.ga K "By") "inner_ones" k sp := let ⟨fd, F⟩ := T.f_By_inner_ones; ⟨_, fd, _, h _ fd F, T.m_By_inner_ones, b_By_inner_ones F, T.c_By⟩
theorem Tx.f_Never_inner_ones (T : Tx K mg) : ∃ fd, F_Never_inner_ones K (He.fAd K ("Never", some "inner_ones")) fd := T.c.def_ 47 (d := d_Never_inner_ones) (by kernel_rfl)
theorem b_Never_inner_ones {f : Addr} {fd : FuncData} (F : F_Never_inner_ones K f fd) : Binds K fd ["self"] [] := F.bindsN fun _ _ _ _ _ _ us hl => match us, hl with | [_], _ => rfl
theorem meth_Never_inner_ones (T : Tx K mg) {k : Nat} {sp : Sp} (h : ∀ f fd, F_Never_inner_ones K f fd → FnOk P w K mg base CX0 k f fd ["self"] sp) : MethOk P w K mg base (He.ga K "Never") "inner_ones" k sp := let ⟨fd, F⟩ := T.f_Never_inner_ones; ⟨_, fd, _, h _ fd F, T.m_Never_inner_ones, b_Never_inner_ones F, T.c_Never⟩
theorem Tx.f_Never_told (T : Tx K mg) : ∃ fd, F_Never_told K (He.fAd K ("Never", some "told")) fd := T.c.def_ 49 (d := d_Never_told) (by kernel_rfl)
theorem b_Never_told {f : Addr} {fd : FuncData} (F : F_Never_told K f fd) : Binds K fd ["self"] [] := F.bindsN fun _ _ _ _ _ _ us hl => match us, hl with | [_], _ => rfl
theorem meth_Never_told (T : Tx K mg) {k : Nat} {sp : Sp} (h : ∀ f fd, F_Never_told K f fd → FnOk P w K mg base CX0 k f fd ["self"] sp) : MethOk P w K mg base (He.ga K "Never") "told" k sp := let ⟨fd, F⟩ := T.f_Never_told; ⟨_, fd, _, h _ fd F, T.m_Never_told, b_Never_told F, T.c_Never⟩
theorem Tx.f_paths_of (T : Tx K mg) : ∃ fd, F_paths_of K (He.fAd K ("paths_of", none)) fd := T.c.def_ 50 (d := d_paths_of) (by kernel_rfl)
theorem b_paths_of {f : Addr} {fd : FuncData} (F : F_paths_of K f fd) : Binds K fd ["asking"] [] := F.bindsN fun _ _ _ _ _ _ us hl => match us, hl with | [_], _ => rfl
theorem call_paths_of (T : Tx K mg) {k : Nat} {sp : Sp} (h : ∀ f fd, F_paths_of K f fd → FnOk P w K mg base CX0 k f fd ["asking"] sp) : CallOk P w K mg base "paths_of" k sp := let ⟨fd, F⟩ := T.f_paths_of; ⟨_, fd, _, h _ fd F, T.g_paths_of, F.kp, b_paths_of F⟩
theorem Tx.f_want_part (T : Tx K mg) : ∃ fd, F_want_part K (He.fAd K ("want_part", none)) fd := T.c.def_ 51 (d := d_want_part) (by kernel_rfl)
theorem b_want_part {f : Addr} {fd : FuncData} (F : F_want_part K f fd) : Binds K fd ["asking", "k"] [] := F.bindsN fun _ _ _ _ _ _ us hl => match us, hl with | [_, _], _ => rfl
theorem call_want_part (T : Tx K mg) {k : Nat} {sp : Sp} (h : ∀ f fd, F_want_part K f fd → FnOk P w K mg base CX0 k f fd ["asking", "k"] sp) : CallOk P w K mg base "want_part" k sp := let ⟨fd, F⟩ := T.f_want_part; ⟨_, fd, _, h _ fd F, T.g_want_part, F.kp, b_want_part F⟩
theorem Tx.f_node_at (T : Tx K mg) : ∃ fd, F_node_at K (He.fAd K ("node_at", none)) fd := T.c.def_ 52 (d := d_node_at) (by kernel_rfl)
theorem b_node_at {f : Addr} {fd : FuncData} (F : F_node_at K f fd) : Binds K fd ["asking", "path"] [] := F.bindsN fun _ _ _ _ _ _ us hl => match us, hl with | [_, _], _ => rfl
theorem call_node_at (T : Tx K mg) {k : Nat} {sp : Sp} (h : ∀ f fd, F_node_at K f fd → FnOk P w K mg base CX0 k f fd ["asking", "path"] sp) : CallOk P w K mg base "node_at" k sp := let ⟨fd, F⟩ := T.f_node_at; ⟨_, fd, _, h _ fd F, T.g_node_at, F.kp, b_node_at F⟩
theorem Tx.f_is_leaf (T : Tx K mg) : ∃ fd, F_is_leaf K (He.fAd K ("is_leaf", none)) fd := T.c.def_ 53 (d := d_is_leaf) (by kernel_rfl)
theorem b_is_leaf {f : Addr} {fd : FuncData} (F : F_is_leaf K f fd) : Binds K fd ["asking"] [] := F.bindsN fun _ _ _ _ _ _ us hl => match us, hl with | [_], _ => rfl
theorem call_is_leaf (T : Tx K mg) {k : Nat} {sp : Sp} (h : ∀ f fd, F_is_leaf K f fd → FnOk P w K mg base CX0 k f fd ["asking"] sp) : CallOk P w K mg base "is_leaf" k sp := let ⟨fd, F⟩ := T.f_is_leaf; ⟨_, fd, _, h _ fd F, T.g_is_leaf, F.kp, b_is_leaf F⟩
theorem Tx.f_parts_within (T : Tx K mg) : ∃ fd, F_parts_within K (He.fAd K ("parts_within", none)) fd := T.c.def_ 54 (d := d_parts_within) (by kernel_rfl)
theorem b_parts_within {f : Addr} {fd : FuncData} (F : F_parts_within K f fd) : Binds K fd ["parts", "asking"] [] := F.bindsN fun _ _ _ _ _ _ us hl => match us, hl with | [_, _], _ => rfl
theorem call_parts_within (T : Tx K mg) {k : Nat} {sp : Sp} (h : ∀ f fd, F_parts_within K f fd → FnOk P w K mg base CX0 k f fd ["parts", "asking"] sp) : CallOk P w K mg base "parts_within" k sp := let ⟨fd, F⟩ := T.f_parts_within; ⟨_, fd, _, h _ fd F, T.g_parts_within, F.kp, b_parts_within F⟩
theorem Tx.f_parts_at (T : Tx K mg) : ∃ fd, F_parts_at K (He.fAd K ("parts_at", none)) fd := T.c.def_ 55 (d := d_parts_at) (by kernel_rfl)
theorem b_parts_at {f : Addr} {fd : FuncData} (F : F_parts_at K f fd) : Binds K fd ["asking", "path"] [] := F.bindsN fun _ _ _ _ _ _ us hl => match us, hl with | [_, _], _ => rfl
theorem call_parts_at (T : Tx K mg) {k : Nat} {sp : Sp} (h : ∀ f fd, F_parts_at K f fd → FnOk P w K mg base CX0 k f fd ["asking", "path"] sp) : CallOk P w K mg base "parts_at" k sp := let ⟨fd, F⟩ := T.f_parts_at; ⟨_, fd, _, h _ fd F, T.g_parts_at, F.kp, b_parts_at F⟩
theorem Tx.f_leaves_of (T : Tx K mg) : ∃ fd, F_leaves_of K (He.fAd K ("leaves_of", none)) fd := T.c.def_ 56 (d := d_leaves_of) (by kernel_rfl)
theorem b_leaves_of {f : Addr} {fd : FuncData} (F : F_leaves_of K f fd) : Binds K fd ["asking"] [] := F.bindsN fun _ _ _ _ _ _ us hl => match us, hl with | [_], _ => rfl
theorem call_leaves_of (T : Tx K mg) {k : Nat} {sp : Sp} (h : ∀ f fd, F_leaves_of K f fd → FnOk P w K mg base CX0 k f fd ["asking"] sp) : CallOk P w K mg base "leaves_of" k sp := let ⟨fd, F⟩ := T.f_leaves_of; ⟨_, fd, _, h _ fd F, T.g_leaves_of, F.kp, b_leaves_of F⟩
theorem Tx.f_law_at (T : Tx K mg) : ∃ fd, F_law_at K (He.fAd K ("_law_at", none)) fd := T.c.def_ 57 (d := d_law_at) (by kernel_rfl)
theorem b_law_at {f : Addr} {fd : FuncData} (F : F_law_at K f fd) : Binds K fd ["_law_script", "_law_k"] [] := F.bindsN fun _ _ _ _ _ _ us hl => match us, hl with | [_, _], _ => rfl
theorem call_law_at (T : Tx K mg) {k : Nat} {sp : Sp} (h : ∀ f fd, F_law_at K f fd → FnOk P w K mg base CX0 k f fd ["_law_script", "_law_k"] sp) : CallOk P w K mg base "_law_at" k sp := let ⟨fd, F⟩ := T.f_law_at; ⟨_, fd, _, h _ fd F, T.g_law_at, F.kp, b_law_at F⟩
theorem Tx.f_law_mixed (T : Tx K mg) : ∃ fd, F_law_mixed K (He.fAd K ("_law_mixed", none)) fd := T.c.def_ 58 (d := d_law_mixed) (by kernel_rfl)
theorem b_law_mixed {f : Addr} {fd : FuncData} (F : F_law_mixed K f fd) : Binds K fd ["_law_cell", "_law_k"] [] := F.bindsN fun _ _ _ _ _ _ us hl => match us, hl with | [_, _], _ => rfl
theorem call_law_mixed (T : Tx K mg) {k : Nat} {sp : Sp} (h : ∀ f fd, F_law_mixed K f fd → FnOk P w K mg base CX0 k f fd ["_law_cell", "_law_k"] sp) : CallOk P w K mg base "_law_mixed" k sp := let ⟨fd, F⟩ := T.f_law_mixed; ⟨_, fd, _, h _ fd F, T.g_law_mixed, F.kp, b_law_mixed F⟩
theorem Tx.f_law_rich (T : Tx K mg) : ∃ fd, F_law_rich K (He.fAd K ("_law_rich", none)) fd := T.c.def_ 59 (d := d_law_rich) (by kernel_rfl)
theorem b_law_rich {f : Addr} {fd : FuncData} (F : F_law_rich K f fd) : Binds K fd ["_law_cell"] [] := F.bindsN fun _ _ _ _ _ _ us hl => match us, hl with | [_], _ => rfl
theorem call_law_rich (T : Tx K mg) {k : Nat} {sp : Sp} (h : ∀ f fd, F_law_rich K f fd → FnOk P w K mg base CX0 k f fd ["_law_cell"] sp) : CallOk P w K mg base "_law_rich" k sp := let ⟨fd, F⟩ := T.f_law_rich; ⟨_, fd, _, h _ fd F, T.g_law_rich, F.kp, b_law_rich F⟩
theorem Tx.f_law_stream (T : Tx K mg) : ∃ fd, F_law_stream K (He.fAd K ("_law_stream", none)) fd := T.c.def_ 60 (d := d_law_stream) (by kernel_rfl)
theorem b_law_stream {f : Addr} {fd : FuncData} (F : F_law_stream K f fd) : Binds K fd ["_law_cell"] [] := F.bindsN fun _ _ _ _ _ _ us hl => match us, hl with | [_], _ => rfl
theorem call_law_stream (T : Tx K mg) {k : Nat} {sp : Sp} (h : ∀ f fd, F_law_stream K f fd → FnOk P w K mg base CX0 k f fd ["_law_cell"] sp) : CallOk P w K mg base "_law_stream" k sp := let ⟨fd, F⟩ := T.f_law_stream; ⟨_, fd, _, h _ fd F, T.g_law_stream, F.kp, b_law_stream F⟩
theorem Tx.f_law_word (T : Tx K mg) : ∃ fd, F_law_word K (He.fAd K ("_law_word", none)) fd := T.c.def_ 61 (d := d_law_word) (by kernel_rfl)
theorem b_law_word {f : Addr} {fd : FuncData} (F : F_law_word K f fd) : Binds K fd ["_law_rest", "_law_pool"] [] := F.bindsN fun _ _ _ _ _ _ us hl => match us, hl with | [_, _], _ => rfl
theorem call_law_word (T : Tx K mg) {k : Nat} {sp : Sp} (h : ∀ f fd, F_law_word K f fd → FnOk P w K mg base CX0 k f fd ["_law_rest", "_law_pool"] sp) : CallOk P w K mg base "_law_word" k sp := let ⟨fd, F⟩ := T.f_law_word; ⟨_, fd, _, h _ fd F, T.g_law_word, F.kp, b_law_word F⟩
theorem Tx.f_law_leaf (T : Tx K mg) : ∃ fd, F_law_leaf K (He.fAd K ("_law_leaf", none)) fd := T.c.def_ 62 (d := d_law_leaf) (by kernel_rfl)
theorem b_law_leaf {f : Addr} {fd : FuncData} (F : F_law_leaf K f fd) : Binds K fd ["_law_rest", "_law_pool"] [] := F.bindsN fun _ _ _ _ _ _ us hl => match us, hl with | [_, _], _ => rfl
theorem call_law_leaf (T : Tx K mg) {k : Nat} {sp : Sp} (h : ∀ f fd, F_law_leaf K f fd → FnOk P w K mg base CX0 k f fd ["_law_rest", "_law_pool"] sp) : CallOk P w K mg base "_law_leaf" k sp := let ⟨fd, F⟩ := T.f_law_leaf; ⟨_, fd, _, h _ fd F, T.g_law_leaf, F.kp, b_law_leaf F⟩
theorem Tx.f_law_leaf_tree (T : Tx K mg) : ∃ fd, F_law_leaf_tree K (He.fAd K ("_law_leaf_tree", none)) fd := T.c.def_ 63 (d := d_law_leaf_tree) (by kernel_rfl)
theorem b_law_leaf_tree {f : Addr} {fd : FuncData} (F : F_law_leaf_tree K f fd) : Binds K fd ["_law_rest", "_law_pool", "_law_way", "_law_deep"] [] := F.bindsN fun _ _ _ _ _ _ us hl => match us, hl with | [_, _, _, _], _ => rfl
theorem call_law_leaf_tree (T : Tx K mg) {k : Nat} {sp : Sp} (h : ∀ f fd, F_law_leaf_tree K f fd → FnOk P w K mg base CX0 k f fd ["_law_rest", "_law_pool", "_law_way", "_law_deep"] sp) : CallOk P w K mg base "_law_leaf_tree" k sp := let ⟨fd, F⟩ := T.f_law_leaf_tree; ⟨_, fd, _, h _ fd F, T.g_law_leaf_tree, F.kp, b_law_leaf_tree F⟩
theorem Tx.f_law_tree (T : Tx K mg) : ∃ fd, F_law_tree K (He.fAd K ("_law_tree", none)) fd := T.c.def_ 64 (d := d_law_tree) (by kernel_rfl)
theorem b_law_tree {f : Addr} {fd : FuncData} (F : F_law_tree K f fd) : Binds K fd ["_law_rest", "_law_pool", "_law_deep"] [] := F.bindsN fun _ _ _ _ _ _ us hl => match us, hl with | [_, _, _], _ => rfl
theorem call_law_tree (T : Tx K mg) {k : Nat} {sp : Sp} (h : ∀ f fd, F_law_tree K f fd → FnOk P w K mg base CX0 k f fd ["_law_rest", "_law_pool", "_law_deep"] sp) : CallOk P w K mg base "_law_tree" k sp := let ⟨fd, F⟩ := T.f_law_tree; ⟨_, fd, _, h _ fd F, T.g_law_tree, F.kp, b_law_tree F⟩
theorem Tx.f_law_new (T : Tx K mg) : ∃ fd, F_law_new K (He.fAd K ("_law_new", none)) fd := T.c.def_ 65 (d := d_law_new) (by kernel_rfl)
theorem b_law_new {f : Addr} {fd : FuncData} (F : F_law_new K f fd) : Binds K fd ["_law_tree_here", "_law_kept"] [] := F.bindsN fun _ _ _ _ _ _ us hl => match us, hl with | [_, _], _ => rfl
theorem Tx.f_law_made (T : Tx K mg) : ∃ fd, F_law_made K (He.fAd K ("_law_made", none)) fd := T.c.def_ 66 (d := d_law_made) (by kernel_rfl)
theorem b_law_made {f : Addr} {fd : FuncData} (F : F_law_made K f fd) : Binds K fd ["_law_tree_here", "_law_kept"] [] := F.bindsN fun _ _ _ _ _ _ us hl => match us, hl with | [_, _], _ => rfl
theorem Tx.f_law_leaves (T : Tx K mg) : ∃ fd, F_law_leaves K (He.fAd K ("_law_leaves", none)) fd := T.c.def_ 67 (d := d_law_leaves) (by kernel_rfl)
theorem b_law_leaves {f : Addr} {fd : FuncData} (F : F_law_leaves K f fd) : Binds K fd ["_law_tree_here", "_law_path", "_law_parts"] [] := F.bindsN fun _ _ _ _ _ _ us hl => match us, hl with | [_, _, _], _ => rfl
theorem call_law_leaves (T : Tx K mg) {k : Nat} {sp : Sp} (h : ∀ f fd, F_law_leaves K f fd → FnOk P w K mg base CX0 k f fd ["_law_tree_here", "_law_path", "_law_parts"] sp) : CallOk P w K mg base "_law_leaves" k sp := let ⟨fd, F⟩ := T.f_law_leaves; ⟨_, fd, _, h _ fd F, T.g_law_leaves, F.kp, b_law_leaves F⟩
theorem Tx.f_law_right (T : Tx K mg) : ∃ fd, F_law_right K (He.fAd K ("_law_right", none)) fd := T.c.def_ 68 (d := d_law_right) (by kernel_rfl)
theorem b_law_right {f : Addr} {fd : FuncData} (F : F_law_right K f fd) : Binds K fd ["_law_tree_here"] [] := F.bindsN fun _ _ _ _ _ _ us hl => match us, hl with | [_], _ => rfl
theorem Tx.f_law (T : Tx K mg) : ∃ fd, F_law K (He.fAd K ("law", none)) fd := T.c.def_ 69 (d := d_law) (by kernel_rfl)
end
end Tp

/-! Promises where no repr is under way; repr of nested tuples. -/
namespace L2
open PySem PySem.Spec PyProof.Rows
structure FnG (P : Program) (w : World) (K : PySem.W.Frag) (mg : Str → Option Value) (base : Heap) (k : Nat) (f : Addr) (fd : FuncData) (ps : List Str) (sp : Sp) : Prop where
  len : ∀ vs H Q E, sp vs H Q E → vs.length = ps.length
  run : ∀ (A : Around) (outer : List Env) (s : Shared) (H : Hp) (args : Args) (us : List Value) (vs : List V) (Q : VK) (E : XK), Room k A → A.guards = some [] → Env0 P w K mg base A outer s H → BindsTo s fd args (ps.zip us) → Vals vs us → sp vs H Q E →
    codeAny (model P w) A (.call (.ref f) args) (CR CX0 outer P w H s Q E) s
section
variable {P : Program} {w : World} {K : PySem.W.Frag} {mg : Str → Option Value} {base : Heap} {x qual : Str} {params : Arguments} {body : List Stmt} {scope : Scope} {dvs : List V} {kws : List (Str × V)} {f : Addr} {fd : FuncData}
theorem FnG.up {j k : Nat} {ps : List Str} {sp : Sp} (F : FnG P w K mg base j f fd ps sp) (h : j ≤ k) : FnG P w K mg base k f fd ps sp :=
  ⟨F.len, fun A outer s H args us vs Q E hr hg => F.run A outer s H args us vs Q E (hr.mono h) hg⟩
theorem FunD.okG {N ps : List Str} {k : Nat} {sp : Sp} (F : FunD K x qual params body scope dvs kws f fd) (S : FnScope N ps scope) (len : ∀ vs H Q E, sp vs H Q E → vs.length = ps.length)
    (hbody : ∀ (cdv : Value) (A : Around) (outer : List Env) (s : Shared) (H : Hp) (vs : List V) (Q : VK) (E : XK), Room k (A.deeper (envOfC qual scope s.heap.objs.size f cdv)) → (A.deeper (envOfC qual scope s.heap.objs.size f cdv)).guards = some [] → sp vs H Q E →
      ∃ t, PSs (cxOf CX0 P w K mg base N qual scope f cdv A outer s H E) body t ∧ t { nx := fun _ H' => Q .non H', rt := Q } (start N vs) H) : FnG P w K mg base (k + 1) f fd ps sp := by
  obtain ⟨oc, od, dV, kV, doc, pm, an, cdv, ct, osl, rfl, lk, hcd, _, _⟩ := F.ex
  refine ⟨len, fun A outer s H args us vs Q E hr hgd e0 hb r hsp => ?_⟩
  have hl := len _ _ _ _ hsp
  have inK : K.In s.heap := e0.mod.kin.keeps fun b o e => (e0.bs b o e).1
  have nol : s.heap.NoLimit := e0.mod.nolimit.keeps fun b o e => (e0.bs b o e).1
  have kinds : ∀ y ∈ ps.zip us, scope.names.lookup y.1 = some .local ∨ (scope.names.lookup y.1 = some .cell ∧ ((cellsFrom (s.heap.objs.size + 1) scope.names []).lookup y.1).isSome = true) := by
    rintro ⟨n, v⟩ hy
    exact (S.par n (List.of_mem_zip hy).1).imp id fun q => ⟨q, PySem.W.cellsFrom_some _ _ _ (.inl q)⟩
  refine codeAny_call_function hr.depth (inK _ _ lk) rfl S.co S.gen rfl (PySem.W.codeRec_of inK hcd) (hb _ _ _ _ (wpAny_newFunctionEnv_cells S.kind kinds fun env he s1 xc => ?_))
  subst he
  refine ⟨nol.keeps xc.toInCall.keep, codeAny_func ?_⟩
  obtain ⟨t, ht, hq⟩ := hbody cdv A outer s H vs Q E (hr.deeper _) hgd hsp
  have I := inv_start (CX := CX0) (E := E) S hr.hd e0 hl r xc
  refine wpAny_mono (ht.run [] s1 (start N vs) H _ I hq) (fun fl s' hs => ?_) fun e s' hs => hs
  have done {σ' : St} {H' : Hp} {v : V} {u : Value} (J : Inv (cxOf CX0 P w K mg base N qual scope f cdv A outer s H E) [] σ' H' s') (rv : RelV v u) (q : Q v H') : CE outer P w H s Q u s' := ⟨v, H', J.os, J.bare, J.base, J.hok, rv, q⟩
  cases fl with
  | next => obtain ⟨_, _, J, q⟩ := hs; exact done J (show RelV V.non Value.none from rfl) q
  | ret u => obtain ⟨_, _, _, J, rv, q⟩ := hs; exact done J rv q
  | brk => obtain ⟨_, _, _, q⟩ := hs; exact q.elim
  | cont => obtain ⟨_, _, _, q⟩ := hs; exact q.elim
end
section
variable {X : Cx} {k : Nat} {f : Addr} {fd : FuncData} {ps : List Str} {sp : Sp} {E : XK} {x : Str} {p pos : Pos} {e : Expr} {es : List Expr} {t : TA}
theorem pe_callG (F : FnG X.prog X.w X.K X.mg X.base k f fd ps sp) (hr : Room k X.A) (hgd : X.A.guards = some []) (hg : Gl X x) (hm : X.mg x = some (.ref f)) (hk : PySem.W.keepIn X.K (.ref f) = true) (hb : Binds X.K fd ps [])
    (ha : PA X (e :: es) t) (hdb : (x == ("__debug__" : Str)) = false := by decide) (he : starEach (e :: es) X.env = (false, eval e X.env) :: starEach es X.env := by rfl) (hpl : (backTo pos (starEach es X.env)).any (·.1) = false := by rfl) :
    PE X (.Call (.Name x p) (e :: es) [] pos) (fun σ H Q => t σ H fun vs H1 => sp vs H1 Q E) := by
  refine ⟨fun pins s σ H Q I h => wpAny_Call_Name_kw (ld_glob I hg hm (PySem.W.callWith_K (h₀ := X.base) I.ok.mod.kin hk (thn (ha.run pos pins s σ H _ I h) fun us s1 ⟨vs, H1, I1, r, q⟩ => ⟨I1.kIn, ?_⟩) he hpl) hdb)⟩
  have hl : us.length = ps.length := by rw [← r.length]; exact F.len _ _ _ _ q
  have hbs := hb s1 us I1.kIn (by rw [List.append_nil]; exact hl)
  rw [List.append_nil] at hbs
  refine wpAny_call (codeAny_mono (F.run X.A X.stack s1 H1 ⟨us, []⟩ us vs Q E hr hgd I1.env0 hbs r q) fun r s' hq => ?_)
  cases r with
  | error e => exact (show False from hq).elim
  | ok fl =>
    cases fl with
    | ret u => exact I1.after hq
    | next => exact False.elim hq
    | brk => exact False.elim hq
    | cont => exact False.elim hq
end
/-! ### repr of a nested tuple -/
theorem call_reprG {X : Cx} (hr : X.A.units + 164 < cLine) (hgd : X.A.guards = some []) : CallR X (.builtin "repr") (fun xs H Q => ∃ (v : V) (ds : List PyData), xs = [v] ∧ Dp X.K H v (.tuple ds) ∧ PyData.showable (.tuple ds) = true ∧ PyData.hasDict (.tuple ds) = false ∧ PyData.depth (.tuple ds) ≤ 100 ∧ (PyData.shown (.tuple ds)).length ≤ sizeLine ∧ Q (.str (PyData.shown (.tuple ds))) H) := by
  rintro pins s σ H xs us Q I r ⟨v, ds, rfl, hd, h1, h2, h3, h4, q⟩
  obtain ⟨u, rfl, ru⟩ := vals1 r
  obtain ⟨as, rd⟩ := Dp.reads I (.tuple ds) v u hd ru
  obtain ⟨a, rfl⟩ : ∃ a, u = .ref a := by cases rd; exact ⟨_, rfl⟩
  refine repr_of_reads' (h₀ := s.heap) rd h1 (fun z => by rw [h2] at z; cases z) hgd (by omega) (fun _ _ e => e) (fun h' u tk hk => ?_) h4
  exact ⟨.str _, H, I.kept (t' := tk) hk, ⟨u, rfl⟩, q⟩
end L2

namespace PL
open PySem PySem.Spec PyProof.Rows L2
/-! ### defs that are called where no repr is under way -/
def CallG (P : Program) (w : World) (K : PySem.W.Frag) (mg : Str → Option Value) (base : Heap) (n : Str) (k : Nat) (sp : Sp) : Prop :=
  ∃ f fd ps, FnG P w K mg base k f fd ps sp ∧ mg n = some (.ref f) ∧ PySem.W.keepIn K (.ref f) = true ∧ Binds K fd ps []
def spVD {τ : Type} (rt : Rel τ) (Pr : List Slot → List (Text × τ) → List (Text × τ) → (Hp → V → Prop) → Prop) : Sp := fun vs H Q _ => ∃ (o : Addr) (us : List V) (ss : List Slot) (G : Hp) (ws : List (Key × V)) (xs ys : List (Text × τ)) (R : Hp → V → Prop), vs = us ++ [.ref o] ∧ Pr ss xs ys R ∧ SmF G H ∧ H o = some (.dK ws) ∧ G o = none ∧ Paired (ent rt G) ws xs ∧ xs.length ≤ sizeLine ∧ (xs.map (·.1)).Nodup ∧ Slv G us ss ∧
  ∀ G' H' v ws', Ext G (hid H o) G' H' → G' o = none → H' o = some (.dK ws') → Paired (ent rt G') ws' ys → ys.length ≤ sizeLine → (ys.map (·.1)).Nodup → R G' v → Q v H'
def RtBD {τ : Type} (G0 H : Hp) (o : Addr) (rt : Rel τ) (ys : List (Text × τ)) (R : Hp → V → Prop) : VK := fun v H' => ∃ G' ws', Ext G0 (hid H o) G' H' ∧ G' o = none ∧ H' o = some (.dK ws') ∧ Paired (ent rt G') ws' ys ∧ ys.length ≤ sizeLine ∧ (ys.map (·.1)).Nodup ∧ R G' v
abbrev retBD {τ : Type} (G0 H : Hp) (o : Addr) (rt : Rel τ) (ys : List (Text × τ)) (R : Hp → V → Prop) : Ends := { nx := fun _ H' => RtBD G0 H o rt ys R .non H', rt := RtBD G0 H o rt ys R }
def D2 {α τ ζ : Type} (r : Rel α) (rz : Rel ζ) (f : α → List (Text × τ) → Rs (ζ × List (Text × τ))) : List Slot → List (Text × τ) → List (Text × τ) → (Hp → V → Prop) → Prop := fun ss xs ys R => ∃ x z, ss = [.val r x] ∧ f x xs = .ok (z, ys) ∧ R = fun G v => rz.rd G v z
theorem slv_app3 {G : Hp} : ∀ {vs ws : List V} {ss ts : List Slot}, Slv G vs ss → Slv G ws ts → Slv G (vs ++ ws) (ss ++ ts)
  | _, _, _, _, .nil, h => h
  | _, _, _, _, .cons h t, h2 => .cons h (slv_app3 t h2)
theorem Cell.dic_ok {H0 G H : Hp} {α : Type} {o : Addr} {r : Rel α} {xs : List (Text × α)} (h0 : H0 o = none) (h1 : G o = none) {ws : List (Key × V)} (h2 : H o = some (.dK ws)) (h3 : Paired (ent r G) ws xs) (h4 : xs.length ≤ sizeLine) (h5 : (xs.map (·.1)).Nodup) : (Cell.dic o r xs).ok H0 G H := ⟨h0, h1, _, h2, ws, rfl, h3, h4, h5⟩
section
variable {P : Program} {w : World} {K : PySem.W.Frag} {mg : Str → Option Value} {base : Heap} {τ : Type} {rt : Rel τ}
theorem fn_gd {x qual : Str} {st : Stmt} {f : Addr} {fd : FuncData} {N ps : List Str} {k : Nat} {Pr : List Slot → (Hp → V → Prop) → Prop} (F : FunD K x qual (defArgs st) (defBody st) (defScope st) [] [] f fd) (S : FnScope N ps (defScope st)) (len : ∀ ss R, Pr ss R → ss.length = ps.length)
    (body : ∀ (cdv : Value) (A : Around) (outer : List PySem.Env) (s : Shared) (H : Hp) (E : XK) (G : Hp) (ss : List Slot) (R : Hp → V → Prop), Room k (A.deeper (envOfC qual (defScope st) s.heap.objs.size f cdv)) → (A.deeper (envOfC qual (defScope st) s.heap.objs.size f cdv)).guards = some [] → Pr ss R →
      Goes (cxOf CX0 P w K mg base N qual (defScope st) f cdv A outer s H E).nox (defBody st) ⟨⟨G, H, []⟩, ss ++ List.replicate (N.length - ss.length) .any, []⟩ (retD G H R)) : FnG P w K mg base (k + 1) f fd ps (spG Pr) := by
  refine F.okG S (fun vs H Q E h => ?_) (fun cdv A outer s H vs Q E hr hgd h => ?_)
  · obtain ⟨ss, G, R, h1, h2, h3, h4⟩ := h
    rw [slv_len h3, len ss R h1]
  · obtain ⟨ss, G, R, h1, h2, h3, h4⟩ := h
    refine ⟨wSs _ _, PSs.nox css, ?_⟩
    constructor
    intro pins s' I
    refine thn ((body cdv A outer s H E G ss R hr hgd h1 G H (L2.start N vs) (env_start h2 h3)).run pins s' I) fun fl s1 hq => ?_
    cases fl with
    | next =>
      obtain ⟨σ', H', I', G', q1, q2⟩ := hq
      exact ⟨σ', H', I', h4 G' H' _ q1 q2⟩
    | brk => exact hq
    | cont => exact hq
    | ret u =>
      obtain ⟨v, σ', H', I', rv, G', q1, q2⟩ := hq
      exact ⟨v, σ', H', I', rv, h4 G' H' _ q1 q2⟩
theorem fn_gvd {x qual : Str} {st : Stmt} {f : Addr} {fd : FuncData} {N ps : List Str} {k : Nat} {Pr : List Slot → List (Text × τ) → List (Text × τ) → (Hp → V → Prop) → Prop} (F : FunD K x qual (defArgs st) (defBody st) (defScope st) [] [] f fd) (S : FnScope N ps (defScope st)) (len : ∀ ss xs ys R, Pr ss xs ys R → ss.length + 1 = ps.length)
    (body : ∀ (cdv : Value) (A : Around) (outer : List PySem.Env) (s : Shared) (H : Hp) (E : XK) (G : Hp) (o : Addr) (ss : List Slot) (xs ys : List (Text × τ)) (R : Hp → V → Prop), Room k (A.deeper (envOfC qual (defScope st) s.heap.objs.size f cdv)) → (A.deeper (envOfC qual (defScope st) s.heap.objs.size f cdv)).guards = some [] → Pr ss xs ys R →
      Goes (cxOf CX0 P w K mg base N qual (defScope st) f cdv A outer s H E).nox (defBody st) ⟨⟨G, hid H o, []⟩, (ss ++ [.val rRef o]) ++ List.replicate (N.length - (ss ++ [Slot.val rRef o]).length) .any, [.dic o rt xs]⟩ (retBD G H o rt ys R)) : FnG P w K mg base (k + 1) f fd ps (spVD rt Pr) := by
  refine F.okG S (fun vs H Q E h => ?_) (fun cdv A outer s H vs Q E hr hgd h => ?_)
  · obtain ⟨o, us, ss, G, ws, xs, ys, R, rfl, h1, h2, h3, h4, h5, h6, hn, h7, h8⟩ := h
    rw [List.length_append, slv_len h7, ← len ss xs ys R h1]
    rfl
  · obtain ⟨o, us, ss, G, ws, xs, ys, R, rfl, h1, h2, h3, h4, h5, h6, hn, h7, h8⟩ := h
    refine ⟨wSs _ _, PSs.nox css, ?_⟩
    constructor
    intro pins s' I
    have st0 := env_start (N := N) h2 (slv_app3 h7 (show Slv G [V.ref o] [.val rRef o] from .cons rfl .nil))
    have E0 : Env ⟨⟨G, hid H o, []⟩, (ss ++ [.val rRef o]) ++ List.replicate (N.length - (ss ++ [Slot.val rRef o]).length) .any, [.dic o rt xs]⟩ G H (L2.start N (us ++ [.ref o])) := by
      refine ⟨⟨Same.refl _, h2, hid_sub H o, fun b _ z => z⟩, (fun B hB => by cases hB), st0.sl, fun c hc => ?_, by simp⟩
      rw [List.mem_singleton.mp hc]
      exact Cell.dic_ok hid_same h4 h3 h5 h6 hn
    refine thn ((body cdv A outer s H E G o ss xs ys R hr hgd h1 G H (L2.start N (us ++ [.ref o])) E0).run pins s' I) fun fl s1 hq => ?_
    cases fl with
    | next =>
      obtain ⟨σ', H', I', G', ws', q1, q2, q3, q4, q5, q6, q7⟩ := hq
      exact ⟨σ', H', I', h8 G' H' _ ws' q1 q2 q3 q4 q5 q6 q7⟩
    | brk => exact hq
    | cont => exact hq
    | ret u =>
      obtain ⟨v, σ', H', I', rv, G', ws', q1, q2, q3, q4, q5, q6, q7⟩ := hq
      exact ⟨v, σ', H', I', rv, h8 G' H' v ws' q1 q2 q3 q4 q5 q6 q7⟩
end
theorem Env.byrefD {Z : PL.Ctx} {τ : Type} {rt : Rel τ} {G H G' H' : Hp} {σ : L2.St} {j : Nat} {o : Addr} {xs ys : List (Text × τ)} {ws : List (Key × V)} (E : Env Z G H σ) (hj : Z.ce[j]? = some (.dic o rt xs)) (e : Ext G (hid H o) G' H') (h1 : G' o = none) (h2 : H' o = some (.dK ws)) (h3 : Paired (ent rt G') ws ys) (h4 : ys.length ≤ sizeLine) (h5 : (ys.map (·.1)).Nodup) :
    Env (Z.setC (Z.ce.set j (.dic o rt ys))) G' H' σ := by
  have hjl : j < Z.ce.length := (List.getElem?_eq_some_iff.mp hj).1
  have hmem : Cell.dic o rt xs ∈ Z.ce := List.mem_of_getElem? hj
  obtain ⟨h0, hG, u0, hH, _⟩ := E.ce _ hmem
  have e2 : (Z.ce.map Cell.addr)[j]? = some o := by rw [List.getElem?_map, hj]; rfl
  have hm : (Z.ce.set j (.dic o rt ys)).map Cell.addr = Z.ce.map Cell.addr := by
    rw [List.map_set]
    exact set_self e2
  have sH : ∀ b u, b ≠ o → H b = some u → H' b = some u := fun b u hb hu => e.h b u (by rw [hid_ne hb]; exact hu)
  refine ⟨⟨E.ex.g.trans e.g, e.s, fun b u hb => ?_, fun b hb hg => ?_⟩, fun B hB => (E.ab B hB).trans e.g, fun i s hi => let ⟨ov, q1, q2⟩ := E.sl i s hi; ⟨ov, q1, Slot.ok_mono e.g q2⟩, fun c hc => ?_, by show ((Z.ce.set j _).map Cell.addr).Nodup; rw [hm]; exact E.nd⟩
  · exact sH b u (ne_of_none hb h0) (E.ex.h b u hb)
  · have hbo : b ≠ o := fun z => hb (z ▸ h0)
    exact e.n b (by rw [hid_ne hbo]; exact nn_same E.ex.h hb) (E.ex.n b hb hg)
  · obtain ⟨i, hi⟩ := List.getElem?_of_mem hc
    have hi' : (Z.ce.set j (.dic o rt ys))[i]? = some c := hi
    by_cases hij : j = i
    · subst hij
      rw [List.getElem?_set_self hjl] at hi'
      have e3 := Option.some.inj hi'
      subst e3
      exact Cell.dic_ok h0 h1 h2 h3 h4 h5
    · rw [List.getElem?_set_ne hij] at hi'
      have hcm := List.mem_of_getElem? hi'
      obtain ⟨k0, k1, u, k2, k3⟩ := E.ce c hcm
      have hne : c.addr ≠ o := fun z => hij (nd_inj E.nd e2 (by rw [List.getElem?_map, hi', ← z]; rfl))
      have hH0 : hid H o c.addr = some u := by rw [hid_ne hne]; exact k2
      exact ⟨k0, e.n c.addr (by rw [hH0]; exact fun z => by cases z) k1, u, e.h _ _ hH0, Cell.is_mono e.g k3⟩
theorem Env.toBD {τ : Type} {rt : Rel τ} {W : PL.Ctx} {G H0 H : Hp} {σ : L2.St} {j : Nat} {o : Addr} {ys : List (Text × τ)} {R : Hp → V → Prop} {v : V} (E : Env W G H σ) (hj : W.ce[j]? = some (.dic o rt ys)) (h1 : W.b.H0 = hid H0 o) (hR : R G v) : RtBD W.b.G0 H0 o rt ys R v H := by
  obtain ⟨c0, cG, u, cH, ws, rfl, cP, cL, cN⟩ := E.ce _ (List.mem_of_getElem? hj)
  have ex := E.ex
  rw [h1] at ex
  exact ⟨G, ws, ex, cG, cH, cP, cL, cN, hR⟩
section
variable {X : Cx} {Z : PL.Ctx} {α β S ζ O τ : Type} {r : Rel α} {rz : Rel ζ} {rt : Rel τ} {x : α} {pos pos' p : Pos} {a b d e : Expr} {es : List Expr} {D : O → Ends} {rest : List Stmt} {n v : Str} {k : Nat} {Zs : S → PL.Ctx} {Zl : List (Text × τ) → PL.Ctx}
theorem gm_retBD (j : Nat) {o : Addr} {H0 : Hp} {ys : List (Text × τ)} {z : O} (he : EvE X e Z r x) (hj : Z.ce[j]? = some (.dic o rt ys)) (hrt : (D z).rt = RtBD Z.b.G0 H0 o rt ys (fun G v => r.rd G v x) := by rfl) (h1 : Z.b.H0 = hid H0 o := by rfl) : GM X (.Return (some e) pos :: rest) Z D (.ok z) := fun o' q => by
  cases q
  exact goes_ret he fun G H v σ E h => by rw [hrt]; exact E.toBD hj h1 h
theorem gm_retBDM (j : Nat) {o : Addr} {H0 : Hp} {ys : List (Text × τ)} {m : Rs α} {g : α → O} (he : EvM X e Z r m) (hj : Z.ce[j]? = some (.dic o rt ys)) (hrt : ∀ x, (D (g x)).rt = RtBD Z.b.G0 H0 o rt ys (fun G v => r.rd G v x) := by intro _; rfl) (h1 : Z.b.H0 = hid H0 o := by rfl) : GM X (.Return (some e) pos :: rest) Z D (m.bd fun x => .ok (g x)) := fun o' q => by
  obtain ⟨x, q1, q2⟩ := Rs.bd_inv q
  exact gm_retBD j (he x q1) hj (hrt x) h1 o' q2
theorem gm_retBDS (j : Nat) {o : Addr} {H0 : Hp} {cont : S → List (Text × τ)} {m : Rs (α × S)} {g : α × S → O} (he : EvS X e Z Zs r m) (hj : ∀ t, (Zs t).ce[j]? = some (.dic o rt (cont t))) (hrt : ∀ q t, (D (g q)).rt = RtBD (Zs t).b.G0 H0 o rt (cont q.2) (fun G v => r.rd G v q.1) := by intro _ _; rfl) (h1 : ∀ t, (Zs t).b.H0 = hid H0 o := by intro _; rfl) : GM X (.Return (some e) pos :: rest) Z D (m.bd fun q => .ok (g q)) := fun o' q => by
  obtain ⟨y, q1, q2⟩ := Rs.bd_inv q
  cases q2
  exact goes_of (ps_ret ce) fun G H σ E => he y q1 G H σ _ E fun G1 H1 v s1 E1 r1 => by rw [hrt y y.2]; exact E1.toBD (hj y.2) (h1 y.2) r1
theorem es_gvd (i j : Nat) {o : Addr} {f : α → List (Text × τ) → Rs (ζ × List (Text × τ))} {px : Pos} (t : List (Text × τ)) (C : CallG X.prog X.w X.K X.mg X.base n k (spVD rt (D2 r rz f))) (hr : Room k X.A) (hgd : X.A.guards = some []) (ha : EvE X a Z r x)
    (hz : Z.sl[i]? = some (.val rRef o)) (hj : Z.ce[j]? = some (.dic o rt t)) (hset : ∀ u, Zl u = Z.setC (Z.ce.set j (.dic o rt u)) := by intro _; rfl)
    (hg : Gl X n := by rfl) (hdb : (n == ("__debug__" : Str)) = false := by decide) (he : starEach [a, .Name v px] X.env = (false, eval a X.env) :: starEach [.Name v px] X.env := by rfl) (he2 : starEach [.Name v px] X.env = (false, eval (.Name v px) X.env) :: starEach [] X.env := by rfl) (hpl : (backTo pos (starEach [.Name v px] X.env)).any (·.1) = false := by rfl)
    (hN : X.N[i]? = some v := by rfl) (hv : Vis X.env.scope v := by first | exact Or.inl rfl | exact Or.inr (Or.inl rfl) | exact Or.inr (Or.inr rfl)) (hd : (v == ("__debug__" : Str)) = false := by decide) (hcd : (v == ("__classdict__" : Str)) = false := by decide) :
    EvS X (.Call (.Name n p) [a, .Name v px] [] pos) Z Zl rz (f x t) := fun q hq G H σ Q E kk => by
  obtain ⟨g, fd, ps, F, hm, hk, hb⟩ := C
  obtain ⟨w, g1, g2⟩ := E.get hz
  obtain rfl : w = .ref o := g2
  refine toE (pe_callG (E := fun _ _ _ => False) F hr hgd hg hm hk hb (pa_cons ce (pa_cons (pe_var hN hv hd hcd) pa_nil he2) he) hdb he hpl) (ha G H σ _ E fun G1 H1 u e1 r1 => ⟨.ref o, g1, ?_⟩)
  have E1 := E.ext e1
  obtain ⟨c0, cG, u0, cH, ws, rfl, cP, cL, cN⟩ := E1.ce _ (List.mem_of_getElem? hj)
  refine ⟨o, [u], [.val r x], G1, ws, t, q.2, _, rfl, ⟨x, q.1, rfl, hq, rfl⟩, e1.s, cH, cG, cP, cL, cN, .cons r1 .nil, fun G2 H2 z ws' e2 k1 k2 k3 k4 k5 k6 => ?_⟩
  exact kk G2 H2 z (e1.g.trans e2.g) (by rw [hset]; exact E1.byrefD hj e2 k1 k2 k3 k4 k5) k6
theorem em_gvd0 {f : α → List (Text × τ) → Rs (ζ × List (Text × τ))} {pd : Pos} (C : CallG X.prog X.w X.K X.mg X.base n k (spVD rt (D2 r rz f))) (hr : Room k X.A) (hgd : X.A.guards = some []) (ha : EvE X a Z r x)
    (hg : Gl X n := by rfl) (hdb : (n == ("__debug__" : Str)) = false := by decide) (he : starEach [a, .Dict [] [] pd] X.env = (false, eval a X.env) :: starEach [.Dict [] [] pd] X.env := by rfl) (he2 : starEach [.Dict [] [] pd] X.env = (false, eval (.Dict [] [] pd) X.env) :: starEach [] X.env := by rfl) (hpl : (backTo pos (starEach [.Dict [] [] pd] X.env)).any (·.1) = false := by rfl) :
    EvM X (.Call (.Name n p) [a, .Dict [] [] pd] [] pos) Z rz ((f x []).bd fun q => .ok q.1) := fun z hz G H σ Q E kk => by
  obtain ⟨y, hy, h2⟩ := Rs.bd_inv hz
  cases h2
  obtain ⟨g, fd, ps, F, hm, hk, hb⟩ := C
  refine toE (pe_callG (E := fun _ _ _ => False) F hr hgd hg hm hk hb (pa_cons ce (pa_cons pe_dnewK pa_nil he2) he) hdb he hpl) (ha G H σ _ E fun G1 H1 u e1 r1 => fun m nm => ?_)
  have e2 : Ext G1 H1 G1 (upd H1 m (.dK [])) := .newM e1.s nm
  refine ⟨m, [u], [.val r x], G1, [], [], y.2, _, rfl, ⟨x, y.1, rfl, hy, rfl⟩, e2.s, upd_same, e1.s.free nm, .nil, Nat.zero_le _, List.nodup_nil, .cons r1 .nil, fun G2 H2 z ws' e3 k1 k2 k3 k4 k5 k6 => ?_⟩
  refine kk G2 H2 z (e1.trans ⟨e3.g, e3.s, fun b u hb => e3.h b u ?_, fun b hb hg => e3.n b ?_ hg⟩) k6
  · have hbm : b ≠ m := ne_of_none hb nm
    rw [hid_ne hbm, upd_ne hbm]; exact hb
  · have hbm : b ≠ m := fun z => hb (z ▸ nm)
    rw [hid_ne hbm, upd_ne hbm]; exact hb
theorem em_g1 {f : α → Rs ζ} (C : CallG X.prog X.w X.K X.mg X.base n k (spG (M1 r rz f))) (hr : Room k X.A) (hgd : X.A.guards = some []) (ha : EvA X (a :: es) Z [.val r x])
    (hg : Gl X n := by rfl) (hdb : (n == ("__debug__" : Str)) = false := by decide) (he : starEach (a :: es) X.env = (false, eval a X.env) :: starEach es X.env := by rfl) (hpl : (backTo pos (starEach es X.env)).any (·.1) = false := by rfl) :
    EvM X (.Call (.Name n p) (a :: es) [] pos) Z rz (f x) := fun z hz G H σ Q E kk => by
  obtain ⟨g, fd, ps, F, hm, hk, hb⟩ := C
  exact toE (pe_callG (E := fun _ _ _ => False) F hr hgd hg hm hk hb ca hdb he hpl) (ha G H σ _ E fun G1 H1 vs e1 h1 => ⟨[.val r x], G1, _, ⟨x, z, rfl, hz, rfl⟩, e1.s, h1, fun G2 H2 v e2 h2 => kk G2 H2 v (e1.trans e2) h2⟩)
/-! ### repr -/
noncomputable def reprR (d : PyData) : Rs Text := .gd ((∃ ds, d = .tuple ds) ∧ d.showable = true ∧ d.hasDict = false ∧ d.depth ≤ 100 ∧ d.shown.length ≤ sizeLine ∧ okT d.shown.cps.toList) (.ok d.shown.cps.toList)
theorem em_repr {dd : PyData} (hr : Room k X.A) (hgd : X.A.guards = some []) (hm : X.mg "repr" = none) (ha : EvE X a Z (rP X.K) dd) (hg : Gl X "repr" := by rfl) (he : starEach [a] X.env = (false, eval a X.env) :: starEach [] X.env := by rfl) : EvM X (.Call (.Name "repr" p) [a] [] pos) Z rC (reprR dd) := fun t ht G H σ Q E kk => by
  obtain ⟨⟨⟨ds, rfl⟩, h1, h2, h3, h4, h5⟩, h6⟩ := Rs.gd_inv ht
  cases h6
  refine toE (pe_callB (call_reprG (by have := hr.un; omega) hgd) hg hm boot_repr (pa_cons ce pa_nil he) (he := he)) (ha G H σ _ E fun G1 H1 v e1 hv => ?_)
  exact ⟨v, ds, rfl, strs_mono e1.s _ _ hv.1, h1, h2, h3, h4, kk G1 H1 _ e1 ⟨rfl, h5⟩⟩
theorem gm_putDVS (j : Nat) {l : Addr} {cont : S → List (Text × α)} {m1 : Rs (α × S)} {m2 : α × S → Rs Text} {f : α × S → List (Text × α) → Rs O} (hr : Room k X.A) (hv : EvS X e Z Zs r m1) (hd : ∀ q : α × S, EvE X d (Zs q.2) rRef l) (ha : ∀ q : α × S, EvM X a (Zs q.2) rC (m2 q)) (hj : ∀ t, (Zs t).ce[j]? = some (.dic l r (cont t)))
    (h : ∀ q us, GM X rest ((Zs q.2).setC ((Zs q.2).ce.set j (.dic l r us))) D (f q us)) (hs : swapsWith e (some (.Subscript d a pos')) pos.line X.env = pure false := by rfl) : GM X (.Assign [.Subscript d a pos'] e pos :: rest) Z D (m1.bd fun q => (m2 q).bd fun t => (putR (cont q.2) t q.1).bd (f q)) := fun o' q => by
  obtain ⟨y, q1, q2⟩ := Rs.bd_inv q
  obtain ⟨t, q3, q4⟩ := Rs.bd_inv q2
  obtain ⟨us, q5, q6⟩ := Rs.bd_inv q4
  obtain ⟨hl, q5⟩ := Rs.gd_inv q5
  cases q5
  refine goes_of (ps_dput (hu_of hr) ce ce ce hs) fun G H σ E => hv y q1 G H σ _ E fun G1 H1 v s1 E1 h1 => hd y G1 H1 σ _ E1 fun G2 H2 w e2 h2 => ha y t q3 G2 H2 σ _ (E1.ext e2) fun G3 H3 u e3 h3 => ?_
  have E3 := E1.ext (e2.trans e3)
  obtain rfl : w = .ref l := h2
  obtain ⟨rfl, ot⟩ : u = .str (mkS t) ∧ okT t := h3
  obtain ⟨_, _, u, g0, us, rfl, g2, g3, hn⟩ := E3.ce _ (List.mem_of_getElem? (hj y.2))
  exact ⟨l, _, rfl, DPut.k (k := Sum.inr (mkS t)) g0 (by rw [plen g2, sizeLine_eq]; exact hl), h y _ o' q6 G3 _ σ (E3.cellD (c' := .dic l r (dput (cont y.2) t y.1)) (hj y.2) rfl ⟨_, rfl, ent_put (r.mono (e2.g.trans e3.g) h1) ot g2 hn, Nat.le_trans (dput_len t y.1 (cont y.2)) (by rw [sizeLine_eq]; exact hl), dput_nd hn⟩)⟩
theorem es_mkS {A : Type} {sl : A → List Slot} {Pr : List Slot → List (Str × Slot) → Prop} {C : Addr} {fs : ζ → List (Str × Slot)} {g : A → Rs ζ} {ma : Rs (A × S)} (M : MakeOk X.prog X.w X.K X.mg X.base n C k (spI C Pr)) (hr : Room (k + 1) X.A) (ha : EvAS X (e :: es) Z Zs sl ma) (hP : ∀ y z, g y = .ok z → Pr (sl y) (fs z))
    (hg : Gl X n := by rfl) (hdb : (n == ("__debug__" : Str)) = false := by decide) (he : starEach (e :: es) X.env = (false, eval e X.env) :: starEach es X.env := by rfl) (hpl : (backTo pos (starEach es X.env)).any (·.1) = false := by rfl) :
    EvS X (.Call (.Name n p) (e :: es) [] pos) Z Zs (rObj C fs) (ma.bd fun y => (g y.1).bd fun z => .ok (z, y.2)) := fun w hw G H σ Q E kk => by
  obtain ⟨y, gy, hw⟩ := Rs.bd_inv hw
  obtain ⟨z, gz, hw⟩ := Rs.bd_inv hw
  cases hw
  obtain ⟨f, fd, ps, F, hm, hk, hb⟩ := M
  refine toE (pe_make (E := fun _ _ _ => False) hk F hr hg hm hb .nil pass0 ca hdb he hpl) (ha y gy G H σ _ E fun G1 H1 vs sG E1 h1 => fun l dx nl nd ne => ?_)
  have e1 : Ext G1 H1 G1 H1 := .refl E1.le
  have gl : G1 l = none := e1.s.free nl
  have gd : G1 dx = none := e1.s.free nd
  have s1 : Same G1 (upd G1 dx (.own l)) := same_upd gd
  refine ⟨l, dx, vs, _, fs z, upd G1 dx (.own l), by rw [List.append_nil], hP y.1 z gz, fun b u hb => ?_, upd_same, by rw [upd_ne (Ne.symm ne)]; exact gl, upd_same, h1.mono s1, fun G2 H2 vfs e2 g1 g2 g3 => ⟨rfl, ?_⟩⟩
  · by_cases hbd : b = dx
    · subst hbd
      rw [upd_same] at hb
      rw [upd_ne ne, upd_same]
      exact .inl hb
    · rw [upd_ne hbd] at hb
      have hbl : b ≠ l := fun z => by rw [z, gl] at hb; cases hb
      rw [upd_ne hbl, upd_ne hbd]
      exact e1.s _ _ hb
  · have s2 : Same G2 (upd G2 l (.ins C dx vfs)) := same_upd g1
    have e9 : Ext G1 H1 (upd G2 l (.ins C dx vfs)) H2 := by
      refine ⟨(e1.g.trans s1).trans (e2.g.trans s2), fun b u hb => ?_, fun b u hb => ?_, fun b hb hg => ?_⟩
      · by_cases hbl : b = l
        · subst hbl
          rw [upd_same] at hb
          rw [← hb]
          exact .inl g2
        · rw [upd_ne hbl] at hb
          exact e2.s _ _ hb
      · have hb1 := e1.h _ _ hb
        have hbl : b ≠ l := ne_of_none hb1 nl
        have hbd : b ≠ dx := ne_of_none hb1 nd
        refine e2.h _ _ ?_
        rw [hid_ne hbl, upd_ne hbl, upd_ne hbd]
        exact hb1
      · have hb1 : H1 b ≠ none := nn_same e1.h hb
        have hbl : b ≠ l := fun z => hb1 (z ▸ nl)
        have hbd : b ≠ dx := fun z => hb1 (z ▸ nd)
        rw [upd_ne hbl]
        refine e2.n b ?_ ?_
        · rw [hid_ne hbl, upd_ne hbl, upd_ne hbd]
          exact hb1
        · rw [upd_ne hbd]
          exact e1.n b hb hg
    exact kk (upd G2 l (.ins C dx vfs)) H2 (.ref l) (sG.trans e9.g) (E1.ext e9) ⟨l, dx, vfs, rfl, upd_same, s2 _ _ (e2.g _ _ upd_same), g3.mono s2⟩
end
end PL
namespace PL
open PySem PySem.Spec PyProof.Rows L2
section
variable {P : Program} {w : World} {K : PySem.W.Frag} {mg : Str → Option Value} {base : Heap} {k : Nat} {f : Addr} {fd : FuncData} {ps : List Str} {sp : Sp}
theorem fn_g0 (h : ∀ vs H Q E, ¬ sp vs H Q E) : FnG P w K mg base k f fd ps sp := ⟨fun vs H Q E q => (h _ _ _ _ q).elim, fun _ _ _ _ _ _ vs Q E _ _ _ _ _ q => (h _ _ _ _ q).elim⟩
theorem spVD_0 {τ α ζ : Type} {rt : Rel τ} {r : Rel α} {rz : Rel ζ} : ∀ vs H Q E, ¬ spVD rt (D2 r rz fun _ _ => .no) vs H Q E := by
  rintro vs H Q E ⟨_, _, _, _, _, _, _, _, _, ⟨_, _, _, q, _⟩, _⟩
  cases q
end
section
variable {X : Cx} {Z : PL.Ctx} {α : Type} {r : Rel α} {pos : Pos} {a d : Expr} {k : Nat}
theorem em_getDO (j : Nat) {l : Addr} {kvs : List (Text × α)} {mt : Rs Text} (hr : Room k X.A) (hd : EvE X d Z rRef l) (ha : EvM X a Z rC mt) (hj : Z.ce[j]? = some (.dic l r kvs)) (hs : NoSl a := by exact fun _ _ => rfl) : EvM X (.Subscript d a pos) Z r (mt.bd fun t => dgetR kvs t) := fun y q G H σ Q E h => by
  obtain ⟨t, ht, q⟩ := Rs.bd_inv q
  unfold dgetR at q
  refine toE (pe_dget (hu_of hr) ce ce hs) (hd G H σ _ E fun G1 H1 v e1 h1 => ha t ht G1 H1 σ _ (E.ext e1) fun G2 H2 w e2 h2 => ?_)
  obtain rfl : v = .ref l := h1
  obtain ⟨rfl, _⟩ : w = .str (mkS t) ∧ okT t := h2
  obtain ⟨_, _, u, g0, us, rfl, g2, g3, hn⟩ := (E.ext (e1.trans e2)).ce _ (List.mem_of_getElem? hj)
  rcases ent_get (t := t) g2 with ⟨q1, q2⟩ | ⟨v, z, q1, q2, q3⟩
  · rw [q2] at q
    cases q
  · rw [q2] at q
    cases q
    exact ⟨l, v, rfl, by rw [← q1]; exact DGr (k := Sum.inr (mkS t)) (Rd.of g0), h G2 H2 v (e1.trans e2) q3⟩
end
end PL
namespace PL
open PySem PySem.Spec PyProof.Rows L2
section
variable {X : Cx} {Z : PL.Ctx} {α S ζ : Type} {r : Rel α} {pos p : Pos} {a : Expr} {n : Str} {k : Nat} {Zs : S → PL.Ctx}
theorem es_mk1S {C : Addr} {fs : ζ → List (Str × Slot)} {f : α → Rs ζ} {ma : Rs (α × S)} (M : MakeOk X.prog X.w X.K X.mg X.base n C k (spI C (I1 r fs f))) (hr : Room (k + 1) X.A) (ha : EvS X a Z Zs r ma)
    (hg : Gl X n := by rfl) (hdb : (n == ("__debug__" : Str)) = false := by decide) (he : starEach [a] X.env = (false, eval a X.env) :: starEach [] X.env := by rfl) (hpl : (backTo pos (starEach [] X.env)).any (·.1) = false := by rfl) :
    EvS X (.Call (.Name n p) [a] [] pos) Z Zs (rObj C fs) (ma.bd fun y => (f y.1).bd fun z => .ok (z, y.2)) := fun q hq => by
  obtain ⟨y, h1, h2⟩ := Rs.bd_inv hq
  refine es_mkS (g := fun y : α × Unit => f y.1) M hr (eas_cons (A := Unit) (sl := fun _ => []) ha (fun q => eas_nil (Zs := Zs) q.2) he) (fun y z gz => ⟨y.1, z, rfl, gz, rfl⟩) hg hdb he hpl q ?_
  rw [h1]
  exact h2
end
end PL

namespace L2
open PySem PySem.Spec PyProof.Rows
/-! ### a law's end, by a promise that knows its guards -/
theorem law_callG {P : Program} {w : World} {K : PySem.W.Frag} {mg mb : Str → Option Value} {k : Nat} {fa a : Addr} {fd : FuncData} {x : Str} {sp : Sp} {s₁ : Shared} {vs : List Value} {ns : List Int}
    (KX : K.In s₁.heap) (hns : s₁.heap.Ns mainGlobals mg) (hb : s₁.heap.Ns builtinsNs mb) (hbb : ∀ x : Str, x ≠ "__name__" → mb x = bootBuiltins x) (hlim : s₁.heap.NoLimit) (hg : s₁.gens = #[])
    (ha : s₁.heap.get? a = some { cls := .type "list", data := .seq vs.toArray }) (hi : IntsAre vs ns) (hl : ns.length ≤ sizeLine) (hr : Room k callerA)
    (F : ∀ base : Heap, K.In base → base.Ns mainGlobals mg → FnG P w K mg base k fa fd [x] sp) (hbind : ∀ (s : Shared) (u : Value), BindsTo s fd ⟨[u], []⟩ [(x, u)])
    (hsp : ∀ H : Hp, Only H → SqL K H a (ns.map V.int) → sp [.ref a] H (fun v _ => v = .bl true) fun _ _ _ => False) :
    codeAny (model P w) callerA (.call (.ref fa) ⟨[.ref a], []⟩) (fun r s' => r = .ok (.ret (.bool true)) ∧ OldK s₁.heap s'.heap ∧ s'.os = s₁.os ∧ AllBare s'.gens) s₁ := by
  have rv := vals_ints hi
  have lenV := hi.length
  -- from an abstract heap in which nothing but the script may be tracked
  have core : ∀ H : Hp, Only H → SqL K H a (ns.map V.int) → HOk P w H s₁.heap → (∀ b, H b ≠ none → b = a) → (H a ≠ none → K.lookup a = none) →
      codeAny (model P w) callerA (.call (.ref fa) ⟨[.ref a], []⟩) (fun r s' => r = .ok (.ret (.bool true)) ∧ OldK s₁.heap s'.heap ∧ s'.os = s₁.os ∧ AllBare s'.gens) s₁ := by
    intro H hO hS hok hA hK
    have base_of : ∀ {b : Addr} {o : Obj}, s₁.heap.get? b = some o → H b = none → (hidT s₁.heap H).get? b = some o := fun e n => hidT_get e n
    have noA : ∀ {b : Addr} {o : Obj} {es : Array DictEntry} {ep : Nat}, s₁.heap.get? b = some o → o.data = .dict es ep → H b = none := fun {b o es ep} e d => by
      cases q : H b with
      | none => rfl
      | some u =>
        have e' : b = a := hA b (by rw [q]; simp)
        subst e'
        rw [ha] at e; cases e
        have d' : Data.seq vs.toArray _ = Data.dict es ep := d
        cases d'
    have nsK : ∀ {b : Addr} {m : Str → Option Value}, s₁.heap.Ns b m → (hidT s₁.heap H).Ns b m := fun {b m} ⟨o, es, ep, e, d, r⟩ => ⟨o, es, ep, base_of e (noA e d), d, r⟩
    have hKb : K.In (hidT s₁.heap H) := fun b o e => base_of (KX b o e) (by
      cases q : H b with
      | none => rfl
      | some u =>
        have e' : b = a := hA b (by rw [q]; simp)
        subst e'
        rw [hK (by rw [q]; simp)] at e; cases e)
    have hM : Mod K mg (hidT s₁.heap H) := ⟨hKb, nsK hns, ⟨mb, nsK hb, hbb⟩, let ⟨mc, h1, h2⟩ := hlim; ⟨mc, nsK h1, h2⟩⟩
    have e0 : Env0 P w K mg (hidT s₁.heap H) callerA [] s₁ H := ⟨rfl, hM, fun b o e => of_hidT e, Nat.le_of_eq (hidT_size _ _), trivial, fun b hb => absurd (show b ∈ ([] : List Addr) from hb) (by simp), hok, .of_eq hg⟩
    refine codeAny_mono ((F _ hKb (nsK hns)).run callerA [] s₁ H ⟨[.ref a], []⟩ [.ref a] [.ref a] _ _ hr rfl e0 (hbind s₁ (.ref a)) (.cons rfl .nil) (hsp H hO hS)) fun r s' h => ?_
    cases r with
    | error e => exact (show False from h).elim
    | ok fl =>
      cases fl with
      | next => exact False.elim h
      | brk => exact False.elim h
      | cont => exact False.elim h
      | ret u =>
        obtain ⟨v, H', os, bare, un, hok', r', q⟩ := h
        have q' : v = .bl true := q
        subst q'
        obtain rfl : u = Value.bool true := r'
        refine ⟨rfl, OldK.of_keep fun b o e => ?_, os, bare⟩
        cases q : H b with
        | none => exact un.keep b o e q (by intro z; exact absurd (show b ∈ ([] : List Addr) from z) (by simp)) (by simp)
        | some u =>
          rcases hO b with z | ⟨ob, xs, z⟩
          · rw [q] at z; cases z
          · have z2 := un.frzs b ob _ z
            obtain ⟨e1, _⟩ := hok b _ z
            obtain ⟨e2, _⟩ := hok' b _ z2
            rw [e] at e1; cases e1
            exact e2
  cases hk : K.lookup a with
  | some o =>
    -- the script is one of the module's own objects
    have e := KX a o hk
    rw [ha] at e
    cases e
    refine core (fun _ => none) (fun _ => .inl rfl) (.inr ⟨_, vs.toArray, _, hk, rfl, rfl, rfl, by rw [List.size_toArray, lenV]; exact hl, by simpa using rv⟩) (fun b u z => by have z' : (none : Option HO) = some u := z; cases z') (fun b z => absurd rfl z) fun z => absurd rfl z
  | none =>
    refine core (fun b => if b = a then some (.frz { cls := .type "list", data := .seq vs.toArray } (.lst (ns.map V.int))) else none) (fun b => ?_) (.inl (.inr ⟨{ cls := .type "list", data := .seq vs.toArray }, if_pos rfl⟩)) (fun b u z => ?_) (fun b z => ?_) fun _ => hk
    · by_cases hb : b = a
      · exact .inr ⟨_, _, if_pos hb⟩
      · exact .inl (if_neg hb)
    · by_cases hb : b = a
      · have z' := (if_pos hb).symm.trans z
        cases z'
        subst hb
        exact ⟨ha, by rw [List.length_map]; exact hl, vs, _, rv, ha⟩
      · have z' := (if_neg hb).symm.trans z
        cases z'
    · by_cases hb : b = a
      · exact hb
      · exact absurd (if_neg hb) z
end L2
namespace PL
open PySem PySem.Spec PyProof.Rows L2
theorem walk_EBG {l : PySem.W.OpenLaw} {n k : Nat} {q : Program} {loose : List Str} {XP : (Str → Option Value) → Heap → Prop} {YP : World → Heap → Prop} {d : DefRec} {x : Str}
    (hn : l.most = some n) (hn2 : n ≤ sizeLine) (hdf : d.params.defaults = []) (hr : Room k callerA)
    (F : ∀ (w : World) (mg : Str → Option Value) (fa : Addr) (h : Heap), YP w h → h.Ns mainGlobals mg → mg d.name = some (.ref fa) → ∃ (K : PySem.W.Frag) (fd : FuncData) (sp : Sp), K.In h ∧ (∀ (s : Shared) (u : Value), BindsTo s fd ⟨[u], []⟩ [(x, u)]) ∧
        (∀ (H : Hp) (a : Addr) (ns : List Int), ns.length ≤ n → (∀ i ∈ ns, Builtin.Int.intBits i ≤ 1048576) → SqL K H a (ns.map V.int) → sp [.ref a] H (fun v _ => v = .bl true) fun _ _ _ => False) ∧ ∀ base : Heap, K.In base → base.Ns mainGlobals mg → FnG l.prog w K mg base k fa fd [x] sp) : PySem.W.WalkO q loose XP YP l.row.toRowW d [] (fun f vs => PySem.call f vs) :=
  Att.attach_callB hn hdf fun w s₀ s₁ mg mb fa o pm cd doc a vs ns G Y ho hd hcd hmg hobj hints hlen hbits hg =>
    let ⟨_, _, _, KX, hb, hsp, hF⟩ := F w mg fa _ Y G.T.g hmg
    law_callG KX G.T.g G.T.b G.T.builtins G.T.nolimit hg hobj hints (Nat.le_trans hlen hn2) hr hF hb (fun H _ hS => hsp H a ns hlen hbits hS)
end PL

namespace Lw
open PySem PySem.Spec PyProof.Rows L2 PL Tp
/-! ### askings, plainly, and how instances stand for them -/
inductive Ask where
  | word (w : Text)
  | begin (w : Text)
  | row (ws : List Text)
  | near (n : Int) (a b : Text)
  | in_ (p : Int) (a : Ask)
  | all (xs : List Ask)
  | any (xs : List Ask)
  | but (a b : Ask)
  | also (a b : Ask)
  | by_ (n : Int) (a : Ask)
  | never
def askC (K : PySem.W.Frag) : Ask → Addr
  | .word _ => He.ga K "Word"
  | .begin _ => He.ga K "Begin"
  | .row _ => He.ga K "Row"
  | .near .. => He.ga K "Near"
  | .in_ .. => He.ga K "In"
  | .all _ => He.ga K "All"
  | .any _ => He.ga K "Any"
  | .but .. => He.ga K "But"
  | .also .. => He.ga K "Also"
  | .by_ .. => He.ga K "By"
  | .never => He.ga K "Never"
def askF (K : PySem.W.Frag) (r : Rel Ask) : Ask → List (Str × Slot)
  | .word w => [("word", .val PL.rC w)]
  | .begin w => [("start", .val PL.rC w)]
  | .row ws => [("row_words", .val (rTL K PL.rC) ws)]
  | .near n a b => [("far", .val PL.rI n), ("near_words", .val (rT2 K PL.rC PL.rC) (a, b))]
  | .in_ p a => [("part", .val PL.rI p), ("inner", .val r a)]
  | .all xs => [("every", .val (rL K r) xs)]
  | .any xs => [("either", .val (rL K r) xs)]
  | .but a b => [("wanted", .val r a), ("unwanted", .val r b)]
  | .also a b => [("needed", .val r a), ("helping", .val r b)]
  | .by_ n a => [("times", .val PL.rI n), ("heavier", .val r a)]
  | .never => []
abbrev rOne (K : PySem.W.Frag) (r : Rel Ask) (a : Ask) : Rel Unit := rObj (askC K a) (fun _ => askF K r a)
def rAskN (K : PySem.W.Frag) : Nat → Rel Ask
  | 0 => ⟨fun _ _ _ => False, fun _ h => h⟩
  | n + 1 => ⟨fun G v a => (rOne K (rAskN K n) a).rd G v (), fun e h => (rOne K (rAskN K n) _).mono e h⟩
def rAsk (K : PySem.W.Frag) : Rel Ask := ⟨fun G v a => ∃ n, (rAskN K n).rd G v a, fun e ⟨n, h⟩ => ⟨n, (rAskN K n).mono e h⟩⟩
section
variable {K : PySem.W.Frag}
theorem rl_imp {r s : Rel Ask} {G : Hp} (h : ∀ v a, r.rd G v a → s.rd G v a) {v : V} {xs : List Ask} (q : (rL K r).rd G v xs) : (rL K s).rd G v xs := by
  obtain ⟨a, vs, h1, h2, h3, h4⟩ := q
  exact ⟨a, vs, h1, h2, pmono (fun _ _ => h _ _) h3, h4⟩
theorem ok_imp {α : Type} {r s : Rel α} {G : Hp} {ov : Option V} {x : α} (h : ∀ v, r.rd G v x → s.rd G v x) (q : (Slot.val r x).ok G ov) : (Slot.val s x).ok G ov := by
  obtain ⟨v, h1, h2⟩ := q
  exact ⟨v, h1, h v h2⟩
theorem flds_ask {r s : Rel Ask} {G : Hp} (h : ∀ v a, r.rd G v a → s.rd G v a) {vfs : List (Str × V)} {a : Ask} (q : Flds G vfs (askF K r a)) : Flds G vfs (askF K s a) := by
  cases a with
  | word w => exact q
  | begin w => exact q
  | row ws => exact q
  | near n a b => exact q
  | never => exact q
  | in_ p a => cases q with
    | cons q1 q => cases q with
      | cons q2 q => exact .cons q1 (.cons (ok_imp (fun v => h v _) q2) q)
  | by_ p a => cases q with
    | cons q1 q => cases q with
      | cons q2 q => exact .cons q1 (.cons (ok_imp (fun v => h v _) q2) q)
  | but p a => cases q with
    | cons q1 q => cases q with
      | cons q2 q => exact .cons (ok_imp (fun v => h v _) q1) (.cons (ok_imp (fun v => h v _) q2) q)
  | also p a => cases q with
    | cons q1 q => cases q with
      | cons q2 q => exact .cons (ok_imp (fun v => h v _) q1) (.cons (ok_imp (fun v => h v _) q2) q)
  | all xs => cases q with
    | cons q1 q => exact .cons (ok_imp (fun v => rl_imp h) q1) q
  | any xs => cases q with
    | cons q1 q => exact .cons (ok_imp (fun v => rl_imp h) q1) q
theorem one_imp {r s : Rel Ask} {G : Hp} (h : ∀ v a, r.rd G v a → s.rd G v a) {v : V} {a : Ask} (q : (rOne K r a).rd G v ()) : (rOne K s a).rd G v () := by
  obtain ⟨o, dx, vfs, h1, h2, h3, h4⟩ := q
  exact ⟨o, dx, vfs, h1, h2, h3, flds_ask h h4⟩
theorem askN_le {G : Hp} : ∀ {n m : Nat}, n ≤ m → ∀ v a, (rAskN K n).rd G v a → (rAskN K m).rd G v a
  | 0, _, _, _, _, h => h.elim
  | n + 1, 0, le, _, _, _ => absurd le (Nat.not_succ_le_zero n)
  | n + 1, m + 1, le, v, a, h => one_imp (fun v a => askN_le (Nat.le_of_succ_le_succ le) v a) h
theorem ask_un {G : Hp} {v : V} {a : Ask} (h : (rAsk K).rd G v a) : (rOne K (rAsk K) a).rd G v () := by
  obtain ⟨n, h⟩ := h
  cases n with
  | zero => exact h.elim
  | succ n => exact one_imp (r := rAskN K n) (s := rAsk K) (fun v a q => ⟨n, q⟩) h
theorem prs_max {G : Hp} : ∀ {vs : List V} {xs : List Ask}, Paired ((rAsk K).rd G) vs xs → ∃ n, Paired ((rAskN K n).rd G) vs xs
  | _, _, .nil => ⟨0, .nil⟩
  | _, _, .cons h t => by
    obtain ⟨n, h⟩ := h
    obtain ⟨m, t⟩ := prs_max t
    exact ⟨max n m, .cons (askN_le (Nat.le_max_left n m) _ _ h) (pmono (fun _ _ => askN_le (Nat.le_max_right n m) _ _) t)⟩
theorem flds_max {G : Hp} {vfs : List (Str × V)} {a : Ask} (q : Flds G vfs (askF K (rAsk K) a)) : ∃ n, Flds G vfs (askF K (rAskN K n) a) := by
  cases a with
  | word w => exact ⟨0, q⟩
  | begin w => exact ⟨0, q⟩
  | row ws => exact ⟨0, q⟩
  | near n a b => exact ⟨0, q⟩
  | never => exact ⟨0, q⟩
  | in_ p a => cases q with
    | cons q1 q => cases q with
      | cons q2 q =>
        obtain ⟨v, z, n, h⟩ := q2
        exact ⟨n, .cons q1 (.cons ⟨v, z, h⟩ q)⟩
  | by_ p a => cases q with
    | cons q1 q => cases q with
      | cons q2 q =>
        obtain ⟨v, z, n, h⟩ := q2
        exact ⟨n, .cons q1 (.cons ⟨v, z, h⟩ q)⟩
  | but p a => cases q with
    | cons q1 q => cases q with
      | cons q2 q =>
        obtain ⟨v, z, n, h⟩ := q2
        obtain ⟨v', z', m, h'⟩ := q1
        exact ⟨max n m, .cons ⟨v', z', askN_le (Nat.le_max_right n m) _ _ h'⟩ (.cons ⟨v, z, askN_le (Nat.le_max_left n m) _ _ h⟩ q)⟩
  | also p a => cases q with
    | cons q1 q => cases q with
      | cons q2 q =>
        obtain ⟨v, z, n, h⟩ := q2
        obtain ⟨v', z', m, h'⟩ := q1
        exact ⟨max n m, .cons ⟨v', z', askN_le (Nat.le_max_right n m) _ _ h'⟩ (.cons ⟨v, z, askN_le (Nat.le_max_left n m) _ _ h⟩ q)⟩
  | all xs => cases q with
    | cons q1 q =>
      obtain ⟨v, z, a, vs, h1, h2, h3, h4⟩ := q1
      obtain ⟨n, h⟩ := prs_max h3
      exact ⟨n, .cons ⟨v, z, a, vs, h1, h2, h, h4⟩ q⟩
  | any xs => cases q with
    | cons q1 q =>
      obtain ⟨v, z, a, vs, h1, h2, h3, h4⟩ := q1
      obtain ⟨n, h⟩ := prs_max h3
      exact ⟨n, .cons ⟨v, z, a, vs, h1, h2, h, h4⟩ q⟩
theorem ask_mk {G : Hp} {v : V} {a : Ask} (h : (rOne K (rAsk K) a).rd G v ()) : (rAsk K).rd G v a := by
  obtain ⟨o, dx, vfs, h1, h2, h3, h4⟩ := h
  obtain ⟨n, h5⟩ := flds_max h4
  exact ⟨n + 1, o, dx, vfs, h1, h2, h3, h5⟩
end
section
variable {X : Cx} {Z : PL.Ctx} {ζ α2 : Type} {pos p apos : Pos} {e o : Expr} {es : List Expr} {k : Nat} {a : Ask} {rz : Rel ζ} {r2 : Rel α2} {x2 : α2}
theorem ev_A {α : Type} {fs : α → List (Str × Slot)} {C : Addr} {x : α} (a : Ask) (h : EvE X e Z (rObj C fs) x) (hC : C = askC X.K a := by rfl) (hf : fs x = askF X.K (rAsk X.K) a := by rfl) : EvE X e Z (rAsk X.K) a := ev_cov h fun G v q => ask_mk (by
  subst hC
  obtain ⟨o, dx, vfs, h1, h2, h3, h4⟩ := q
  exact ⟨o, dx, vfs, h1, h2, h3, hf ▸ h4⟩)
theorem ev_one_ {e : Expr} (h : EvE X e Z (rAsk X.K) a) : EvE X e Z (rOne X.K (rAsk X.K) a) () := ev_cov h fun G v q => ask_un q
theorem ev_isA {D : Addr} {f : Ask → Bool} {pu : Pos} {m : Str} (hc : ∀ a, Cls X.K (askC X.K a)) (hi : ∀ a, PL.IsC X.K (askC X.K a)) (hk : ∀ a, PySem.W.kitOne X.K (.ref (askC X.K a)) (.ref D) = some (f a)) (hm : X.mg "isinstance" = none) (hu : X.mg m = some (.ref D)) (ha : EvE X e Z (rAsk X.K) a) (hgu : Gl X m := by rfl)
    (hg : Gl X "isinstance" := by rfl) (he : starEach [e, .Name m pu] X.env = (false, eval e X.env) :: starEach [.Name m pu] X.env := by rfl) (he2 : starEach [.Name m pu] X.env = (false, eval (.Name m pu) X.env) :: starEach [] X.env := by rfl) (hpl : (backTo pos (starEach [.Name m pu] X.env)).any (·.1) = false := by rfl)
    (hdb : (m == ("__debug__" : Str)) = false := by decide) : EvE X (.Call (.Name "isinstance" p) [e, .Name m pu] [] pos) Z PL.rB (f a) := ev_isD (hc a) (hi a) (hk a) hm hu (ev_one_ ha) hgu hg he he2 hpl hdb
abbrev AM1 (P : Program) (w : World) (K : PySem.W.Frag) (mg : Str → Option Value) (base : Heap) (m : Str) (k : Nat) (rz : Rel ζ) (f : Ask → Rs ζ) : Prop := ∀ a, MethOk P w K mg base (askC K a) m k (spG (M1 (rOne K (rAsk K) a) rz (fun _ => f a)))
abbrev AF1 (P : Program) (w : World) (K : PySem.W.Frag) (mg : Str → Option Value) (base : Heap) (m : Str) (k : Nat) (rz : Rel ζ) (f : Ask → Rs (List ζ)) : Prop := ∀ a, MethOk P w K mg base (askC K a) m k (spF rz (N1 (rOne K (rAsk K) a) (fun _ => f a)))
theorem em_mA1 {m : Str} {pl : Sem Bool} {f : Ask → Rs ζ} (M : AM1 X.prog X.w X.K X.mg X.base m k rz f) (hr : Room k X.A) (ho : EvE X o Z (rAsk X.K) a) (hf : ∀ b, (askF X.K (rAsk X.K) b).lookup m = none := by intro b; cases b <;> rfl) (ht : eval (.Call (.Attribute o m apos) [] [] pos) X.env = (do
      let ov ← eval o X.env
      standAt apos.atName
      let (f, first) ← holding [ov] (getMethod ov m pl)
      callWith pos f first (backTo pos (starEach [] X.env)) (backToKw pos (keywordEach [] X.env))) := by rfl) : EvM X (.Call (.Attribute o m apos) [] [] pos) Z rz (f a) := em_m1 (fs := fun _ => askF X.K (rAsk X.K) a) (x := ()) (f := fun _ => f a) (M a) hr (ev_one_ ho) (hf a) ht
theorem efm_mA1 {m : Str} {pl : Sem Bool} {f : Ask → Rs (List ζ)} (M : AF1 X.prog X.w X.K X.mg X.base m k rz f) (hr : Room k X.A) (ho : EvE X o Z (rAsk X.K) a) (hf : ∀ b, (askF X.K (rAsk X.K) b).lookup m = none := by intro b; cases b <;> rfl) (ht : eval (.Call (.Attribute o m apos) [] [] pos) X.env = (do
      let ov ← eval o X.env
      standAt apos.atName
      let (f, first) ← holding [ov] (getMethod ov m pl)
      callWith pos f first (backTo pos (starEach [] X.env)) (backToKw pos (keywordEach [] X.env))) := by rfl) : EvFM X (.Call (.Attribute o m apos) [] [] pos) Z rz (f a) := efm_m1 (fs := fun _ => askF X.K (rAsk X.K) a) (x := ()) (f := fun _ => f a) (M a) hr (ev_one_ ho) (hf a) ht
end
section
variable {P : Program} {w : World} {K : PySem.W.Frag} {mg : Str → Option Value} {base : Heap} {C : Addr} {m : Str} {k : Nat} {α ζ α2 : Type} {fs : α → List (Str × Slot)} {x : α} {a : Ask} {rz : Rel ζ} {r2 : Rel α2}
theorem am1 (x : α) {g : α → Rs ζ} {f : Unit → Rs ζ} (M : MethOk P w K mg base C m k (spG (M1 (rObj C fs) rz g))) (hC : C = askC K a := by rfl) (hf : fs x = askF K (rAsk K) a := by rfl) (hg : g x = f () := by rfl) : MethOk P w K mg base (askC K a) m k (spG (M1 (rOne K (rAsk K) a) rz f)) := by
  subst hC
  refine M.imp fun vs H Q E h => ?_
  obtain ⟨ss, G, R, ⟨_, z, rfl, q, rfl⟩, h2, h3, h4⟩ := h
  obtain ⟨v, rfl, h5⟩ := slv1 h3
  exact ⟨_, G, _, ⟨x, z, rfl, hg.trans q, rfl⟩, h2, .cons (by obtain ⟨o, dx, vfs, q1, q2, q3, q4⟩ := h5; exact ⟨o, dx, vfs, q1, q2, q3, hf ▸ q4⟩) .nil, h4⟩
theorem af1 (x : α) {g : α → Rs (List ζ)} {f : Unit → Rs (List ζ)} (M : MethOk P w K mg base C m k (spF rz (N1 (rObj C fs) g))) (hC : C = askC K a := by rfl) (hf : fs x = askF K (rAsk K) a := by rfl) (hg : g x = f () := by rfl) : MethOk P w K mg base (askC K a) m k (spF rz (N1 (rOne K (rAsk K) a) f)) := by
  subst hC
  refine M.imp fun vs H Q E h => ?_
  obtain ⟨ss, G, xs, ⟨_, rfl, q⟩, h2, h3, h4⟩ := h
  obtain ⟨v, rfl, h5⟩ := slv1 h3
  exact ⟨_, G, xs, ⟨x, rfl, hg.trans q⟩, h2, .cons (by obtain ⟨o, dx, vfs, q1, q2, q3, q4⟩ := h5; exact ⟨o, dx, vfs, q1, q2, q3, hf ▸ q4⟩) .nil, h4⟩
end
end Lw

namespace Lw
open PySem PySem.Spec PyProof.Rows L2 PL Tp
section
variable {P : Program} {w : World} {K : PySem.W.Frag} {mg : Str → Option Value} {base : Heap}
noncomputable def m_is_plain (word_1 : Text) : Rs Bool :=
 ((Rs.ok (decide ((1 : Int) ≤ (word_1.length : Int)) && decide ((word_1.length : Int) ≤ (20 : Int)))).bd fun k4 => if k4 = true then (mapR (fun (x2 : Text) => sinR x2 (tx "abcdefghijklmnopqrstuvwxyz0123456789")) (word_1.map fun c => [c])).bd fun v_4 =>
 Rs.ok (v_4.all id) else Rs.ok false).bd fun z_7 => Rs.ok z_7
theorem ok_is_plain (T : Tx K mg) : CallOk P w K mg base "is_plain" 1 (spG (M1 PL.rC PL.rB m_is_plain)) := call_is_plain T fun f fd F =>
  fn_d F sc_is_plain (by rintro ss R ⟨_, _, rfl, _, rfl⟩; rfl) (by
    rintro cdv A outer s H E G ss R hr ⟨word_1,  z, rfl, hm, rfl⟩
    have nd := sc_is_plain.nd
    unfold m_is_plain at hm
    refine gm_run (D := fun z => retD G H (fun G v => (PL.rB).rd G v z)) ?_ hm
    exact gm_retM (r := PL.rB) (em_and (em_ok (ev_lele (ev_int) (ev_lenX T.b_len (ea_cons (ev_v 0) ea_nil)) (ev_gint T.v_MOST_PLAIN))) (em_one (em_bd (em_f (efm_lc (s := PL.rB) (own := [("sign", 1)]) rfl nd (lcr_1 (r := PL.rC) (ei_txt (ev_v 0)) fun B x2 => ⟨_, fun _ _ _ _ _ => egb_name 1 nd, fun _ _ _ _ _ => em_c (cmm_in (ev_v 1) (ev_gtxt T.v_PLAIN_SIGNS))⟩))) fun v_4 h4 =>
       em_ok (ev_all rfl T.b_all (ea_cons (h4) ea_nil))))))

noncomputable def m_want_plain (words_1 : (List Text)) : Rs Unit :=
 ((mapR (fun (x2 : Text) => m_is_plain x2) words_1).bd fun v_4 =>
 Rs.ok (!(v_4.all id))).bd fun k_5 =>
 if k_5 = true then
 .no
 else Rs.ok ()
theorem ok_want_plain (T : Tx K mg) : CallOk P w K mg base "want_plain" 2 (spG (M1 (rL K PL.rC) PL.rN m_want_plain)) := call_want_plain T fun f fd F =>
  fn_d F sc_want_plain (by rintro ss R ⟨_, _, rfl, _, rfl⟩; rfl) (by
    rintro cdv A outer s H E G ss R hr ⟨words_1,  z, rfl, hm, rfl⟩
    have nd := sc_want_plain.nd
    unfold m_want_plain at hm
    refine gm_run (D := fun z => retD G H (fun G v => (PL.rN).rd G v z)) ?_ hm
    refine gm_ifM (etm_bd (em_f (efm_lc (s := PL.rB) (own := [("word", 1)]) rfl nd (lcr_1 (r := PL.rC) (ei_list (ev_v 0)) fun B x2 => ⟨_, fun _ _ _ _ _ => egb_name 1 nd, fun _ _ _ _ _ => em_c1 (ok_is_plain T) (hr.mono (by decide)) (ea_cons (ev_v 1) ea_nil)⟩))) fun v_4 h4 =>
       etm_ok (et_not (ev_t (ev_all rfl T.b_all (ea_cons (h4) ea_nil))))) (fun k_5 => ?_) (fun k_5 => ?_)
    · exact gm_no
    · refine gm_on ?_
      exact gm_end)

noncomputable def m_want_within (number_1 : Int) (least_2 : Int) (most_3 : Int) : Rs Unit :=
 if (decide (number_1 < least_2) || decide (most_3 < number_1)) = true then
 .no
 else Rs.ok ()
theorem ok_want_within (T : Tx K mg) : CallOk P w K mg base "want_within" 1 (spG (M3 PL.rI PL.rI PL.rI PL.rN m_want_within)) := call_want_within T fun f fd F =>
  fn_d F sc_want_within (by rintro ss R ⟨_, _, _, _, rfl, _, rfl⟩; rfl) (by
    rintro cdv A outer s H E G ss R hr ⟨number_1, least_2, most_3,  z, rfl, hm, rfl⟩
    have nd := sc_want_within.nd
    unfold m_want_within at hm
    refine gm_run (D := fun z => retD G H (fun G v => (PL.rN).rd G v z)) ?_ hm
    refine gm_if (ev_w (ew_or (et_c (cm_lt (ev_v 0) (ev_v 1))) fun _ => ew_or1 (et_c (cm_gt (ev_v 0) (ev_v 2))))) ?_ ?_
    · exact gm_no
    · refine gm_on ?_
      exact gm_end)

structure OWord where
  word : Text
def oWordF (K : PySem.W.Frag) (x : OWord) : List (Str × Slot) := [("word", .val PL.rC x.word)]
abbrev rOWord (K : PySem.W.Frag) : Rel OWord := rObj (He.ga K "Word") (oWordF K)
noncomputable def m_OWord (word_1 : Text) : Rs OWord :=
 (m_want_plain [word_1]).bd fun v_4 => (Rs.ok word_1).bd fun word_3 =>
 Rs.ok ⟨word_3⟩
theorem mk_OWord (T : Tx K mg) : MakeOk P w K mg base "Word" (He.ga K "Word") 3 (spI (He.ga K "Word") (I1 PL.rC (oWordF K) m_OWord)) := make_Word T fun f fd F =>
  fn_i F sc_Word_init (by rintro ss fs ⟨_, _, rfl, _, rfl⟩; rfl) (by
    rintro cdv A outer s H E G o dx ss fs hr ⟨word_1,  z, rfl, hm, rfl⟩
    have nd := sc_Word_init.nd
    have hc := T.c_Word
    unfold m_OWord at hm
    refine gm_run (D := fun z => retI G H o dx (He.ga K "Word") (oWordF K z)) ?_ hm
    refine gm_exprM (r := PL.rN) (em_c1 (ok_want_plain T) (hr.mono (by decide)) (ea_cons (ev_f (ef_lst (r := PL.rC) (xs := [word_1]) (ea_cons (ev_v 1) ea_nil) (szl 1))) ea_nil)) fun v_4 => ?_
    refine gm_fldM (r := PL.rC) 0 hc T.n_Word_word (em_ok (r := PL.rC) (ev_v 1)) (ev_v 0) rfl (by show 0 < 1000; decide) fun word_3 => ?_
    exact gm_endI (fs := oWordF K) (⟨word_3⟩ : OWord) rfl)

structure OBegin where
  start : Text
def oBeginF (K : PySem.W.Frag) (x : OBegin) : List (Str × Slot) := [("start", .val PL.rC x.start)]
abbrev rOBegin (K : PySem.W.Frag) : Rel OBegin := rObj (He.ga K "Begin") (oBeginF K)
noncomputable def m_OBegin (start_1 : Text) : Rs OBegin :=
 (m_want_plain [start_1]).bd fun v_4 => (Rs.ok start_1).bd fun start_3 =>
 Rs.ok ⟨start_3⟩
theorem mk_OBegin (T : Tx K mg) : MakeOk P w K mg base "Begin" (He.ga K "Begin") 3 (spI (He.ga K "Begin") (I1 PL.rC (oBeginF K) m_OBegin)) := make_Begin T fun f fd F =>
  fn_i F sc_Begin_init (by rintro ss fs ⟨_, _, rfl, _, rfl⟩; rfl) (by
    rintro cdv A outer s H E G o dx ss fs hr ⟨start_1,  z, rfl, hm, rfl⟩
    have nd := sc_Begin_init.nd
    have hc := T.c_Begin
    unfold m_OBegin at hm
    refine gm_run (D := fun z => retI G H o dx (He.ga K "Begin") (oBeginF K z)) ?_ hm
    refine gm_exprM (r := PL.rN) (em_c1 (ok_want_plain T) (hr.mono (by decide)) (ea_cons (ev_f (ef_lst (r := PL.rC) (xs := [start_1]) (ea_cons (ev_v 1) ea_nil) (szl 1))) ea_nil)) fun v_4 => ?_
    refine gm_fldM (r := PL.rC) 0 hc T.n_Begin_start (em_ok (r := PL.rC) (ev_v 1)) (ev_v 0) rfl (by show 0 < 1000; decide) fun start_3 => ?_
    exact gm_endI (fs := oBeginF K) (⟨start_3⟩ : OBegin) rfl)

structure ORow where
  row_words : (List Text)
def oRowF (K : PySem.W.Frag) (x : ORow) : List (Str × Slot) := [("row_words", .val (rTL K PL.rC) x.row_words)]
abbrev rORow (K : PySem.W.Frag) : Rel ORow := rObj (He.ga K "Row") (oRowF K)
noncomputable def m_ORow (words_1 : (List Text)) : Rs ORow :=
 (m_want_within (words_1.length : Int) (2 : Int) (6 : Int)).bd fun v_6 => (m_want_plain words_1).bd fun v_5 => (Rs.ok words_1).bd fun row_words_4 =>
 Rs.ok ⟨row_words_4⟩
theorem mk_ORow (T : Tx K mg) : MakeOk P w K mg base "Row" (He.ga K "Row") 3 (spI (He.ga K "Row") (I1 (rL K PL.rC) (oRowF K) m_ORow)) := make_Row T fun f fd F =>
  fn_i F sc_Row_init (by rintro ss fs ⟨_, _, rfl, _, rfl⟩; rfl) (by
    rintro cdv A outer s H E G o dx ss fs hr ⟨words_1,  z, rfl, hm, rfl⟩
    have nd := sc_Row_init.nd
    have hc := T.c_Row
    unfold m_ORow at hm
    refine gm_run (D := fun z => retI G H o dx (He.ga K "Row") (oRowF K z)) ?_ hm
    refine gm_exprM (r := PL.rN) (em_c3 (ok_want_within T) (hr.mono (by decide)) (ea_cons (ev_len (K' := K) T.b_len (ea_cons (ev_v 1) ea_nil)) (ea_cons (ev_int) (ea_cons (ev_gint T.v_MOST_ROW) ea_nil)))) fun v_6 => ?_
    refine gm_exprM (r := PL.rN) (em_c1 (ok_want_plain T) (hr.mono (by decide)) (ea_cons (ev_v 1) ea_nil)) fun v_5 => ?_
    refine gm_fldM (r := (rTL K PL.rC)) 0 hc T.n_Row_row_words (em_ok (r := (rTL K PL.rC)) (ev_tupleL T.b_tuple (ea_cons (ev_v 1) ea_nil))) (ev_v 0) rfl (by show 0 < 1000; decide) fun row_words_4 => ?_
    exact gm_endI (fs := oRowF K) (⟨row_words_4⟩ : ORow) rfl)

structure ONear where
  far : Int
  near_words : (Text × Text)
def oNearF (K : PySem.W.Frag) (x : ONear) : List (Str × Slot) := [("far", .val PL.rI x.far), ("near_words", .val (rT2 K PL.rC PL.rC) x.near_words)]
abbrev rONear (K : PySem.W.Frag) : Rel ONear := rObj (He.ga K "Near") (oNearF K)
noncomputable def m_ONear (far_1 : Int) (one_2 : Text) (other_3 : Text) : Rs ONear :=
 (m_want_within far_1 (1 : Int) (20 : Int)).bd fun v_9 => (m_want_plain [one_2, other_3]).bd fun v_8 => (Rs.ok far_1).bd fun far_6 =>
 (Rs.ok (one_2, other_3)).bd fun near_words_7 =>
 Rs.ok ⟨far_6, near_words_7⟩
theorem mk_ONear (T : Tx K mg) : MakeOk P w K mg base "Near" (He.ga K "Near") 3 (spI (He.ga K "Near") (I3 PL.rI PL.rC PL.rC (oNearF K) m_ONear)) := make_Near T fun f fd F =>
  fn_i F sc_Near_init (by rintro ss fs ⟨_, _, _, _, rfl, _, rfl⟩; rfl) (by
    rintro cdv A outer s H E G o dx ss fs hr ⟨far_1, one_2, other_3,  z, rfl, hm, rfl⟩
    have nd := sc_Near_init.nd
    have hc := T.c_Near
    unfold m_ONear at hm
    refine gm_run (D := fun z => retI G H o dx (He.ga K "Near") (oNearF K z)) ?_ hm
    refine gm_exprM (r := PL.rN) (em_c3 (ok_want_within T) (hr.mono (by decide)) (ea_cons (ev_v 1) (ea_cons (ev_int) (ea_cons (ev_gint T.v_MOST_FAR) ea_nil)))) fun v_9 => ?_
    refine gm_exprM (r := PL.rN) (em_c1 (ok_want_plain T) (hr.mono (by decide)) (ea_cons (ev_f (ef_lst (r := PL.rC) (xs := [one_2, other_3]) (ea_cons (ev_v 2) (ea_cons (ev_v 3) ea_nil)) (szl 2))) ea_nil)) fun v_8 => ?_
    refine gm_fldM (r := PL.rI) 0 hc T.n_Near_far (em_ok (r := PL.rI) (ev_v 1)) (ev_v 0) rfl (by show 0 < 1000; decide) fun far_6 => ?_
    refine gm_fldM (r := (rT2 K PL.rC PL.rC)) 0 hc T.n_Near_near_words (em_ok (r := (rT2 K PL.rC PL.rC)) (ev_tup2 (ea_cons (ev_v 2) (ea_cons (ev_v 3) ea_nil)))) (ev_v 0) rfl (by show 1 < 1000; decide) fun near_words_7 => ?_
    exact gm_endI (fs := oNearF K) (⟨far_6, near_words_7⟩ : ONear) rfl)

structure OIn where
  part : Int
  inner : Ask
def oInF (K : PySem.W.Frag) (x : OIn) : List (Str × Slot) := [("part", .val PL.rI x.part), ("inner", .val (rAsk K) x.inner)]
abbrev rOIn (K : PySem.W.Frag) : Rel OIn := rObj (He.ga K "In") (oInF K)
noncomputable def m_OIn (part_1 : Int) (inner_2 : Ask) : Rs OIn :=
 (m_want_within part_1 (0 : Int) (2 : Int)).bd fun v_6 => (Rs.ok part_1).bd fun part_4 =>
 (Rs.ok inner_2).bd fun inner_5 =>
 Rs.ok ⟨part_4, inner_5⟩
theorem mk_OIn (T : Tx K mg) : MakeOk P w K mg base "In" (He.ga K "In") 2 (spI (He.ga K "In") (I2 PL.rI (rAsk K) (oInF K) m_OIn)) := make_In T fun f fd F =>
  fn_i F sc_In_init (by rintro ss fs ⟨_, _, _, rfl, _, rfl⟩; rfl) (by
    rintro cdv A outer s H E G o dx ss fs hr ⟨part_1, inner_2,  z, rfl, hm, rfl⟩
    have nd := sc_In_init.nd
    have hc := T.c_In
    unfold m_OIn at hm
    refine gm_run (D := fun z => retI G H o dx (He.ga K "In") (oInF K z)) ?_ hm
    refine gm_exprM (r := PL.rN) (em_c3 (ok_want_within T) (hr.mono (by decide)) (ea_cons (ev_v 1) (ea_cons (ev_int) (ea_cons (ev_int) ea_nil)))) fun v_6 => ?_
    refine gm_fldM (r := PL.rI) 0 hc T.n_In_part (em_ok (r := PL.rI) (ev_v 1)) (ev_v 0) rfl (by show 0 < 1000; decide) fun part_4 => ?_
    refine gm_fldM (r := (rAsk K)) 0 hc T.n_In_inner (em_ok (r := (rAsk K)) (ev_v 2)) (ev_v 0) rfl (by show 1 < 1000; decide) fun inner_5 => ?_
    exact gm_endI (fs := oInF K) (⟨part_4, inner_5⟩ : OIn) rfl)

structure OAll where
  every : (List Ask)
def oAllF (K : PySem.W.Frag) (x : OAll) : List (Str × Slot) := [("every", .val (rL K (rAsk K)) x.every)]
abbrev rOAll (K : PySem.W.Frag) : Rel OAll := rObj (He.ga K "All") (oAllF K)
noncomputable def m_OAll (parts_1 : (List Ask)) : Rs OAll :=
 (m_want_within (parts_1.length : Int) (1 : Int) (parts_1.length : Int)).bd fun v_4 => (Rs.ok parts_1).bd fun every_3 =>
 Rs.ok ⟨every_3⟩
theorem mk_OAll (T : Tx K mg) : MakeOk P w K mg base "All" (He.ga K "All") 2 (spI (He.ga K "All") (I1 (rL K (rAsk K)) (oAllF K) m_OAll)) := make_All T fun f fd F =>
  fn_i F sc_All_init (by rintro ss fs ⟨_, _, rfl, _, rfl⟩; rfl) (by
    rintro cdv A outer s H E G o dx ss fs hr ⟨parts_1,  z, rfl, hm, rfl⟩
    have nd := sc_All_init.nd
    have hc := T.c_All
    unfold m_OAll at hm
    refine gm_run (D := fun z => retI G H o dx (He.ga K "All") (oAllF K z)) ?_ hm
    refine gm_exprM (r := PL.rN) (em_c3 (ok_want_within T) (hr.mono (by decide)) (ea_cons (ev_len (K' := K) T.b_len (ea_cons (ev_v 1) ea_nil)) (ea_cons (ev_int) (ea_cons (ev_len (K' := K) T.b_len (ea_cons (ev_v 1) ea_nil)) ea_nil)))) fun v_4 => ?_
    refine gm_fldM (r := (rL K (rAsk K))) 0 hc T.n_All_every (em_ok (r := (rL K (rAsk K))) (ev_f (ef_list T.b_list (ea_cons (ev_v 1) ea_nil)))) (ev_v 0) rfl (by show 0 < 1000; decide) fun every_3 => ?_
    exact gm_endI (fs := oAllF K) (⟨every_3⟩ : OAll) rfl)

structure OAny where
  either : (List Ask)
def oAnyF (K : PySem.W.Frag) (x : OAny) : List (Str × Slot) := [("either", .val (rL K (rAsk K)) x.either)]
abbrev rOAny (K : PySem.W.Frag) : Rel OAny := rObj (He.ga K "Any") (oAnyF K)
noncomputable def m_OAny (parts_1 : (List Ask)) : Rs OAny :=
 (m_want_within (parts_1.length : Int) (1 : Int) (parts_1.length : Int)).bd fun v_4 => (Rs.ok parts_1).bd fun either_3 =>
 Rs.ok ⟨either_3⟩
theorem mk_OAny (T : Tx K mg) : MakeOk P w K mg base "Any" (He.ga K "Any") 2 (spI (He.ga K "Any") (I1 (rL K (rAsk K)) (oAnyF K) m_OAny)) := make_Any T fun f fd F =>
  fn_i F sc_Any_init (by rintro ss fs ⟨_, _, rfl, _, rfl⟩; rfl) (by
    rintro cdv A outer s H E G o dx ss fs hr ⟨parts_1,  z, rfl, hm, rfl⟩
    have nd := sc_Any_init.nd
    have hc := T.c_Any
    unfold m_OAny at hm
    refine gm_run (D := fun z => retI G H o dx (He.ga K "Any") (oAnyF K z)) ?_ hm
    refine gm_exprM (r := PL.rN) (em_c3 (ok_want_within T) (hr.mono (by decide)) (ea_cons (ev_len (K' := K) T.b_len (ea_cons (ev_v 1) ea_nil)) (ea_cons (ev_int) (ea_cons (ev_len (K' := K) T.b_len (ea_cons (ev_v 1) ea_nil)) ea_nil)))) fun v_4 => ?_
    refine gm_fldM (r := (rL K (rAsk K))) 0 hc T.n_Any_either (em_ok (r := (rL K (rAsk K))) (ev_f (ef_list T.b_list (ea_cons (ev_v 1) ea_nil)))) (ev_v 0) rfl (by show 0 < 1000; decide) fun either_3 => ?_
    exact gm_endI (fs := oAnyF K) (⟨either_3⟩ : OAny) rfl)

structure OBut where
  wanted : Ask
  unwanted : Ask
def oButF (K : PySem.W.Frag) (x : OBut) : List (Str × Slot) := [("wanted", .val (rAsk K) x.wanted), ("unwanted", .val (rAsk K) x.unwanted)]
abbrev rOBut (K : PySem.W.Frag) : Rel OBut := rObj (He.ga K "But") (oButF K)
noncomputable def m_OBut (one_1 : Ask) (other_2 : Ask) : Rs OBut :=
 (Rs.ok one_1).bd fun wanted_3 =>
 (Rs.ok other_2).bd fun unwanted_4 =>
 Rs.ok ⟨wanted_3, unwanted_4⟩
theorem mk_OBut (T : Tx K mg) : MakeOk P w K mg base "But" (He.ga K "But") 1 (spI (He.ga K "But") (I2 (rAsk K) (rAsk K) (oButF K) m_OBut)) := make_But T fun f fd F =>
  fn_i F sc_But_init (by rintro ss fs ⟨_, _, _, rfl, _, rfl⟩; rfl) (by
    rintro cdv A outer s H E G o dx ss fs hr ⟨one_1, other_2,  z, rfl, hm, rfl⟩
    have nd := sc_But_init.nd
    have hc := T.c_But
    unfold m_OBut at hm
    refine gm_run (D := fun z => retI G H o dx (He.ga K "But") (oButF K z)) ?_ hm
    refine gm_fldM (r := (rAsk K)) 0 hc T.n_But_wanted (em_ok (r := (rAsk K)) (ev_v 1)) (ev_v 0) rfl (by show 0 < 1000; decide) fun wanted_3 => ?_
    refine gm_fldM (r := (rAsk K)) 0 hc T.n_But_unwanted (em_ok (r := (rAsk K)) (ev_v 2)) (ev_v 0) rfl (by show 1 < 1000; decide) fun unwanted_4 => ?_
    exact gm_endI (fs := oButF K) (⟨wanted_3, unwanted_4⟩ : OBut) rfl)

structure OAlso where
  needed : Ask
  helping : Ask
def oAlsoF (K : PySem.W.Frag) (x : OAlso) : List (Str × Slot) := [("needed", .val (rAsk K) x.needed), ("helping", .val (rAsk K) x.helping)]
abbrev rOAlso (K : PySem.W.Frag) : Rel OAlso := rObj (He.ga K "Also") (oAlsoF K)
noncomputable def m_OAlso (one_1 : Ask) (other_2 : Ask) : Rs OAlso :=
 (Rs.ok one_1).bd fun needed_3 =>
 (Rs.ok other_2).bd fun helping_4 =>
 Rs.ok ⟨needed_3, helping_4⟩
theorem mk_OAlso (T : Tx K mg) : MakeOk P w K mg base "Also" (He.ga K "Also") 1 (spI (He.ga K "Also") (I2 (rAsk K) (rAsk K) (oAlsoF K) m_OAlso)) := make_Also T fun f fd F =>
  fn_i F sc_Also_init (by rintro ss fs ⟨_, _, _, rfl, _, rfl⟩; rfl) (by
    rintro cdv A outer s H E G o dx ss fs hr ⟨one_1, other_2,  z, rfl, hm, rfl⟩
    have nd := sc_Also_init.nd
    have hc := T.c_Also
    unfold m_OAlso at hm
    refine gm_run (D := fun z => retI G H o dx (He.ga K "Also") (oAlsoF K z)) ?_ hm
    refine gm_fldM (r := (rAsk K)) 0 hc T.n_Also_needed (em_ok (r := (rAsk K)) (ev_v 1)) (ev_v 0) rfl (by show 0 < 1000; decide) fun needed_3 => ?_
    refine gm_fldM (r := (rAsk K)) 0 hc T.n_Also_helping (em_ok (r := (rAsk K)) (ev_v 2)) (ev_v 0) rfl (by show 1 < 1000; decide) fun helping_4 => ?_
    exact gm_endI (fs := oAlsoF K) (⟨needed_3, helping_4⟩ : OAlso) rfl)

structure OBy where
  times : Int
  heavier : Ask
def oByF (K : PySem.W.Frag) (x : OBy) : List (Str × Slot) := [("times", .val PL.rI x.times), ("heavier", .val (rAsk K) x.heavier)]
abbrev rOBy (K : PySem.W.Frag) : Rel OBy := rObj (He.ga K "By") (oByF K)
noncomputable def m_OBy (times_1 : Int) (inner_2 : Ask) : Rs OBy :=
 (m_want_within times_1 (0 : Int) (999 : Int)).bd fun v_6 => (Rs.ok times_1).bd fun times_4 =>
 (Rs.ok inner_2).bd fun heavier_5 =>
 Rs.ok ⟨times_4, heavier_5⟩
theorem mk_OBy (T : Tx K mg) : MakeOk P w K mg base "By" (He.ga K "By") 2 (spI (He.ga K "By") (I2 PL.rI (rAsk K) (oByF K) m_OBy)) := make_By T fun f fd F =>
  fn_i F sc_By_init (by rintro ss fs ⟨_, _, _, rfl, _, rfl⟩; rfl) (by
    rintro cdv A outer s H E G o dx ss fs hr ⟨times_1, inner_2,  z, rfl, hm, rfl⟩
    have nd := sc_By_init.nd
    have hc := T.c_By
    unfold m_OBy at hm
    refine gm_run (D := fun z => retI G H o dx (He.ga K "By") (oByF K z)) ?_ hm
    refine gm_exprM (r := PL.rN) (em_c3 (ok_want_within T) (hr.mono (by decide)) (ea_cons (ev_v 1) (ea_cons (ev_int) (ea_cons (ev_gint T.v_MOST_BY) ea_nil)))) fun v_6 => ?_
    refine gm_fldM (r := PL.rI) 0 hc T.n_By_times (em_ok (r := PL.rI) (ev_v 1)) (ev_v 0) rfl (by show 0 < 1000; decide) fun times_4 => ?_
    refine gm_fldM (r := (rAsk K)) 0 hc T.n_By_heavier (em_ok (r := (rAsk K)) (ev_v 2)) (ev_v 0) rfl (by show 1 < 1000; decide) fun heavier_5 => ?_
    exact gm_endI (fs := oByF K) (⟨times_4, heavier_5⟩ : OBy) rfl)

abbrev rNever (K : PySem.W.Frag) : Rel Unit := rObj (He.ga K "Never") (fun _ => [])
theorem clsA (T : Tx K mg) (a : Ask) : Cls K (askC K a) := by cases a with
  | word x1 => exact T.c_Word
  | begin x1 => exact T.c_Begin
  | row x1 => exact T.c_Row
  | near x1 x2 x3 => exact T.c_Near
  | in_ x1 x2 => exact T.c_In
  | all x1 => exact T.c_All
  | any x1 => exact T.c_Any
  | but x1 x2 => exact T.c_But
  | also x1 x2 => exact T.c_Also
  | by_ x1 x2 => exact T.c_By
  | never => exact T.c_Never
theorem isA (T : Tx K mg) (a : Ask) : PL.IsC K (askC K a) := by cases a with
  | word x1 => exact T.is_Word
  | begin x1 => exact T.is_Begin
  | row x1 => exact T.is_Row
  | near x1 x2 x3 => exact T.is_Near
  | in_ x1 x2 => exact T.is_In
  | all x1 => exact T.is_All
  | any x1 => exact T.is_Any
  | but x1 x2 => exact T.is_But
  | also x1 x2 => exact T.is_Also
  | by_ x1 x2 => exact T.is_By
  | never => exact T.is_Never
def is_Begin : Ask → Bool
  | .begin x1 => true
  | _ => false
theorem kA_Begin (T : Tx K mg) (a : Ask) : PySem.W.kitOne K (.ref (askC K a)) (.ref (He.ga K "Begin")) = some (is_Begin a) := by cases a with
  | word x1 => exact T.kit_Word_Begin
  | begin x1 => exact T.kit_Begin_Begin
  | row x1 => exact T.kit_Row_Begin
  | near x1 x2 x3 => exact T.kit_Near_Begin
  | in_ x1 x2 => exact T.kit_In_Begin
  | all x1 => exact T.kit_All_Begin
  | any x1 => exact T.kit_Any_Begin
  | but x1 x2 => exact T.kit_But_Begin
  | also x1 x2 => exact T.kit_Also_Begin
  | by_ x1 x2 => exact T.kit_By_Begin
  | never => exact T.kit_Never_Begin
def is_In : Ask → Bool
  | .in_ x1 x2 => true
  | _ => false
theorem kA_In (T : Tx K mg) (a : Ask) : PySem.W.kitOne K (.ref (askC K a)) (.ref (He.ga K "In")) = some (is_In a) := by cases a with
  | word x1 => exact T.kit_Word_In
  | begin x1 => exact T.kit_Begin_In
  | row x1 => exact T.kit_Row_In
  | near x1 x2 x3 => exact T.kit_Near_In
  | in_ x1 x2 => exact T.kit_In_In
  | all x1 => exact T.kit_All_In
  | any x1 => exact T.kit_Any_In
  | but x1 x2 => exact T.kit_But_In
  | also x1 x2 => exact T.kit_Also_In
  | by_ x1 x2 => exact T.kit_By_In
  | never => exact T.kit_Never_In
def is_Near : Ask → Bool
  | .near x1 x2 x3 => true
  | _ => false
theorem kA_Near (T : Tx K mg) (a : Ask) : PySem.W.kitOne K (.ref (askC K a)) (.ref (He.ga K "Near")) = some (is_Near a) := by cases a with
  | word x1 => exact T.kit_Word_Near
  | begin x1 => exact T.kit_Begin_Near
  | row x1 => exact T.kit_Row_Near
  | near x1 x2 x3 => exact T.kit_Near_Near
  | in_ x1 x2 => exact T.kit_In_Near
  | all x1 => exact T.kit_All_Near
  | any x1 => exact T.kit_Any_Near
  | but x1 x2 => exact T.kit_But_Near
  | also x1 x2 => exact T.kit_Also_Near
  | by_ x1 x2 => exact T.kit_By_Near
  | never => exact T.kit_Never_Near
def is_Row : Ask → Bool
  | .row x1 => true
  | _ => false
theorem kA_Row (T : Tx K mg) (a : Ask) : PySem.W.kitOne K (.ref (askC K a)) (.ref (He.ga K "Row")) = some (is_Row a) := by cases a with
  | word x1 => exact T.kit_Word_Row
  | begin x1 => exact T.kit_Begin_Row
  | row x1 => exact T.kit_Row_Row
  | near x1 x2 x3 => exact T.kit_Near_Row
  | in_ x1 x2 => exact T.kit_In_Row
  | all x1 => exact T.kit_All_Row
  | any x1 => exact T.kit_Any_Row
  | but x1 x2 => exact T.kit_But_Row
  | also x1 x2 => exact T.kit_Also_Row
  | by_ x1 x2 => exact T.kit_By_Row
  | never => exact T.kit_Never_Row
def is_Word : Ask → Bool
  | .word x1 => true
  | _ => false
theorem kA_Word (T : Tx K mg) (a : Ask) : PySem.W.kitOne K (.ref (askC K a)) (.ref (He.ga K "Word")) = some (is_Word a) := by cases a with
  | word x1 => exact T.kit_Word_Word
  | begin x1 => exact T.kit_Begin_Word
  | row x1 => exact T.kit_Row_Word
  | near x1 x2 x3 => exact T.kit_Near_Word
  | in_ x1 x2 => exact T.kit_In_Word
  | all x1 => exact T.kit_All_Word
  | any x1 => exact T.kit_Any_Word
  | but x1 x2 => exact T.kit_But_Word
  | also x1 x2 => exact T.kit_Also_Word
  | by_ x1 x2 => exact T.kit_By_Word
  | never => exact T.kit_Never_Word

noncomputable def mF_Word_told (r_A_told : Ask → Rs PyData) (self_1 : OWord) : Rs PyData :=
 Rs.ok (PyData.tuple [(PyData.str (mkS (tx "word"))), (PyData.str (mkS self_1.word))])
theorem meF_Word_told (T : Tx K mg) {k : Nat} (hk : 0 ≤ k) {r_A_told : Ask → Rs PyData} (ih_A_told : AM1 P w K mg base "told" k (rP K) r_A_told) : MethOk P w K mg base (He.ga K "Word") "told" (k + 1) (spG (M1 (rOWord K) (rP K) (mF_Word_told r_A_told))) := meth_Word_told T fun f fd F =>
  fn_d F sc_Word_told (by rintro ss R ⟨_, _, rfl, _, rfl⟩; rfl) (by
    rintro cdv A outer s H E G ss R hr ⟨self_1,  z, rfl, hm, rfl⟩
    have nd := sc_Word_told.nd
    unfold mF_Word_told at hm
    refine gm_run (D := fun z => retD G H (fun G v => ((rP K)).rd G v z)) ?_ hm
    exact gm_ret (r := (rP K)) (ev_p (f := PyData.tuple) tp_TP (ev_tupL (r := (rP K)) (xs := [(PyData.str (mkS (tx "word"))), (PyData.str (mkS self_1.word))]) (ea_cons (ev_p (f := fun (yy : Text) => (PyData.str (mkS yy))) tp_C (ev_txt)) (ea_cons (ev_p (f := fun (yy : Text) => (PyData.str (mkS yy))) tp_C (ev_fld T.c_Word T.n_Word_word (ev_v 0) rfl)) ea_nil)) (szl 2))))

noncomputable def mF_Begin_told (r_A_told : Ask → Rs PyData) (self_1 : OBegin) : Rs PyData :=
 Rs.ok (PyData.tuple [(PyData.str (mkS (tx "begin"))), (PyData.str (mkS self_1.start))])
theorem meF_Begin_told (T : Tx K mg) {k : Nat} (hk : 0 ≤ k) {r_A_told : Ask → Rs PyData} (ih_A_told : AM1 P w K mg base "told" k (rP K) r_A_told) : MethOk P w K mg base (He.ga K "Begin") "told" (k + 1) (spG (M1 (rOBegin K) (rP K) (mF_Begin_told r_A_told))) := meth_Begin_told T fun f fd F =>
  fn_d F sc_Begin_told (by rintro ss R ⟨_, _, rfl, _, rfl⟩; rfl) (by
    rintro cdv A outer s H E G ss R hr ⟨self_1,  z, rfl, hm, rfl⟩
    have nd := sc_Begin_told.nd
    unfold mF_Begin_told at hm
    refine gm_run (D := fun z => retD G H (fun G v => ((rP K)).rd G v z)) ?_ hm
    exact gm_ret (r := (rP K)) (ev_p (f := PyData.tuple) tp_TP (ev_tupL (r := (rP K)) (xs := [(PyData.str (mkS (tx "begin"))), (PyData.str (mkS self_1.start))]) (ea_cons (ev_p (f := fun (yy : Text) => (PyData.str (mkS yy))) tp_C (ev_txt)) (ea_cons (ev_p (f := fun (yy : Text) => (PyData.str (mkS yy))) tp_C (ev_fld T.c_Begin T.n_Begin_start (ev_v 0) rfl)) ea_nil)) (szl 2))))

noncomputable def mF_Row_told (r_A_told : Ask → Rs PyData) (self_1 : ORow) : Rs PyData :=
 Rs.ok (PyData.tuple [(PyData.str (mkS (tx "row"))), (PyData.tuple (self_1.row_words.map fun yy => (PyData.str (mkS yy))))])
theorem meF_Row_told (T : Tx K mg) {k : Nat} (hk : 0 ≤ k) {r_A_told : Ask → Rs PyData} (ih_A_told : AM1 P w K mg base "told" k (rP K) r_A_told) : MethOk P w K mg base (He.ga K "Row") "told" (k + 1) (spG (M1 (rORow K) (rP K) (mF_Row_told r_A_told))) := meth_Row_told T fun f fd F =>
  fn_d F sc_Row_told (by rintro ss R ⟨_, _, rfl, _, rfl⟩; rfl) (by
    rintro cdv A outer s H E G ss R hr ⟨self_1,  z, rfl, hm, rfl⟩
    have nd := sc_Row_told.nd
    unfold mF_Row_told at hm
    refine gm_run (D := fun z => retD G H (fun G v => ((rP K)).rd G v z)) ?_ hm
    exact gm_ret (r := (rP K)) (ev_p (f := PyData.tuple) tp_TP (ev_tupL (r := (rP K)) (xs := [(PyData.str (mkS (tx "row"))), (PyData.tuple (self_1.row_words.map fun yy => (PyData.str (mkS yy))))]) (ea_cons (ev_p (f := fun (yy : Text) => (PyData.str (mkS yy))) tp_C (ev_txt)) (ea_cons (ev_p (f := fun (yy : (List Text)) => (PyData.tuple (yy.map fun yy => (PyData.str (mkS yy))))) (tp_TL tp_C) (ev_fld T.c_Row T.n_Row_row_words (ev_v 0) rfl)) ea_nil)) (szl 2))))

noncomputable def mF_Near_told (r_A_told : Ask → Rs PyData) (self_1 : ONear) : Rs PyData :=
 ((asT (PyData.tuple [(PyData.str (mkS (tx "near"))), (PyData.int self_1.far)])).bd fun c_2 =>
 (asT (PyData.tuple [(PyData.str (mkS self_1.near_words.1)), (PyData.str (mkS self_1.near_words.2))])).bd fun c_3 =>
 (catR c_2 c_3).bd fun v_4 =>
 Rs.ok (PyData.tuple v_4)).bd fun z_5 => Rs.ok z_5
theorem meF_Near_told (T : Tx K mg) {k : Nat} (hk : 0 ≤ k) {r_A_told : Ask → Rs PyData} (ih_A_told : AM1 P w K mg base "told" k (rP K) r_A_told) : MethOk P w K mg base (He.ga K "Near") "told" (k + 1) (spG (M1 (rONear K) (rP K) (mF_Near_told r_A_told))) := meth_Near_told T fun f fd F =>
  fn_d F sc_Near_told (by rintro ss R ⟨_, _, rfl, _, rfl⟩; rfl) (by
    rintro cdv A outer s H E G ss R hr ⟨self_1,  z, rfl, hm, rfl⟩
    have nd := sc_Near_told.nd
    unfold mF_Near_told at hm
    refine gm_run (D := fun z => retD G H (fun G v => ((rP K)).rd G v z)) ?_ hm
    exact gm_retM (r := (rP K)) (em_bd (em_as cst_T (ev_p (f := PyData.tuple) tp_TP (ev_tupL (r := (rP K)) (xs := [(PyData.str (mkS (tx "near"))), (PyData.int self_1.far)]) (ea_cons (ev_p (f := fun (yy : Text) => (PyData.str (mkS yy))) tp_C (ev_txt)) (ea_cons (ev_p (f := fun (yy : Int) => (PyData.int yy)) tp_I (ev_fld T.c_Near T.n_Near_far (ev_v 0) rfl)) ea_nil)) (szl 2)))) fun c_2 h2 =>
       em_bd (em_as cst_T (ev_p (f := fun (yy : (Text × Text)) => (PyData.tuple [(PyData.str (mkS yy.1)), (PyData.str (mkS yy.2))])) (tp_T2 tp_C tp_C) (ev_fld T.c_Near T.n_Near_near_words (ev_v 0) rfl))) fun c_3 h3 =>
       em_bd (em_catT (r := (rP K)) (h2) (h3)) fun v_4 h4 =>
       em_ok (r := (rP K)) (ev_p (f := fun (yy : (List PyData)) => (PyData.tuple yy)) tp_TP (h4))))

noncomputable def mF_In_told (r_A_told : Ask → Rs PyData) (self_1 : OIn) : Rs PyData :=
 ((r_A_told self_1.inner).bd fun v_2 =>
 Rs.ok (PyData.tuple [(PyData.str (mkS (tx "in"))), (PyData.int self_1.part), v_2])).bd fun z_3 => Rs.ok z_3
theorem meF_In_told (T : Tx K mg) {k : Nat} (hk : 0 ≤ k) {r_A_told : Ask → Rs PyData} (ih_A_told : AM1 P w K mg base "told" k (rP K) r_A_told) : MethOk P w K mg base (He.ga K "In") "told" (k + 1) (spG (M1 (rOIn K) (rP K) (mF_In_told r_A_told))) := meth_In_told T fun f fd F =>
  fn_d F sc_In_told (by rintro ss R ⟨_, _, rfl, _, rfl⟩; rfl) (by
    rintro cdv A outer s H E G ss R hr ⟨self_1,  z, rfl, hm, rfl⟩
    have nd := sc_In_told.nd
    unfold mF_In_told at hm
    refine gm_run (D := fun z => retD G H (fun G v => ((rP K)).rd G v z)) ?_ hm
    exact gm_retM (r := (rP K)) (em_bd (em_mA1 ih_A_told hr (ev_fld T.c_In T.n_In_inner (ev_v 0) rfl)) fun v_2 h2 =>
       em_ok (r := (rP K)) (ev_p (f := PyData.tuple) tp_TP (ev_tupL (r := (rP K)) (xs := [(PyData.str (mkS (tx "in"))), (PyData.int self_1.part), v_2]) (ea_cons (ev_p (f := fun (yy : Text) => (PyData.str (mkS yy))) tp_C (ev_txt)) (ea_cons (ev_p (f := fun (yy : Int) => (PyData.int yy)) tp_I (ev_fld T.c_In T.n_In_part (ev_v 0) rfl)) (ea_cons (h2) ea_nil))) (szl 3)))))

noncomputable def mF_All_told (r_A_told : Ask → Rs PyData) (self_1 : OAll) : Rs PyData :=
 ((mapR (fun (x2 : Ask) => r_A_told x2) self_1.every).bd fun v_4 =>
 Rs.ok (PyData.tuple [(PyData.str (mkS (tx "all"))), (PyData.tuple v_4)])).bd fun z_5 => Rs.ok z_5
theorem meF_All_told (T : Tx K mg) {k : Nat} (hk : 0 ≤ k) {r_A_told : Ask → Rs PyData} (ih_A_told : AM1 P w K mg base "told" k (rP K) r_A_told) : MethOk P w K mg base (He.ga K "All") "told" (k + 1) (spG (M1 (rOAll K) (rP K) (mF_All_told r_A_told))) := meth_All_told T fun f fd F =>
  fn_d F sc_All_told (by rintro ss R ⟨_, _, rfl, _, rfl⟩; rfl) (by
    rintro cdv A outer s H E G ss R hr ⟨self_1,  z, rfl, hm, rfl⟩
    have nd := sc_All_told.nd
    unfold mF_All_told at hm
    refine gm_run (D := fun z => retD G H (fun G v => ((rP K)).rd G v z)) ?_ hm
    exact gm_retM (r := (rP K)) (em_bd (em_f (efm_lc (s := (rP K)) (own := [("one", 1)]) rfl nd (lcr_1 (r := (rAsk K)) (ei_list (ev_fld T.c_All T.n_All_every (ev_v 0) rfl)) fun B x2 => ⟨_, fun _ _ _ _ _ => egb_name 1 nd, fun _ _ _ _ _ => em_mA1 ih_A_told hr (ev_v 1)⟩))) fun v_4 h4 =>
       em_ok (r := (rP K)) (ev_p (f := PyData.tuple) tp_TP (ev_tupL (r := (rP K)) (xs := [(PyData.str (mkS (tx "all"))), (PyData.tuple v_4)]) (ea_cons (ev_p (f := fun (yy : Text) => (PyData.str (mkS yy))) tp_C (ev_txt)) (ea_cons (ev_p (f := fun (yy : (List PyData)) => (PyData.tuple yy)) tp_TP (ev_tupleL T.b_tuple (ea_cons (h4) ea_nil))) ea_nil)) (szl 2)))))

noncomputable def mF_Any_told (r_A_told : Ask → Rs PyData) (self_1 : OAny) : Rs PyData :=
 ((mapR (fun (x2 : Ask) => r_A_told x2) self_1.either).bd fun v_4 =>
 Rs.ok (PyData.tuple [(PyData.str (mkS (tx "any"))), (PyData.tuple v_4)])).bd fun z_5 => Rs.ok z_5
theorem meF_Any_told (T : Tx K mg) {k : Nat} (hk : 0 ≤ k) {r_A_told : Ask → Rs PyData} (ih_A_told : AM1 P w K mg base "told" k (rP K) r_A_told) : MethOk P w K mg base (He.ga K "Any") "told" (k + 1) (spG (M1 (rOAny K) (rP K) (mF_Any_told r_A_told))) := meth_Any_told T fun f fd F =>
  fn_d F sc_Any_told (by rintro ss R ⟨_, _, rfl, _, rfl⟩; rfl) (by
    rintro cdv A outer s H E G ss R hr ⟨self_1,  z, rfl, hm, rfl⟩
    have nd := sc_Any_told.nd
    unfold mF_Any_told at hm
    refine gm_run (D := fun z => retD G H (fun G v => ((rP K)).rd G v z)) ?_ hm
    exact gm_retM (r := (rP K)) (em_bd (em_f (efm_lc (s := (rP K)) (own := [("one", 1)]) rfl nd (lcr_1 (r := (rAsk K)) (ei_list (ev_fld T.c_Any T.n_Any_either (ev_v 0) rfl)) fun B x2 => ⟨_, fun _ _ _ _ _ => egb_name 1 nd, fun _ _ _ _ _ => em_mA1 ih_A_told hr (ev_v 1)⟩))) fun v_4 h4 =>
       em_ok (r := (rP K)) (ev_p (f := PyData.tuple) tp_TP (ev_tupL (r := (rP K)) (xs := [(PyData.str (mkS (tx "any"))), (PyData.tuple v_4)]) (ea_cons (ev_p (f := fun (yy : Text) => (PyData.str (mkS yy))) tp_C (ev_txt)) (ea_cons (ev_p (f := fun (yy : (List PyData)) => (PyData.tuple yy)) tp_TP (ev_tupleL T.b_tuple (ea_cons (h4) ea_nil))) ea_nil)) (szl 2)))))

noncomputable def mF_But_told (r_A_told : Ask → Rs PyData) (self_1 : OBut) : Rs PyData :=
 ((r_A_told self_1.wanted).bd fun v_2 =>
 (r_A_told self_1.unwanted).bd fun v_3 =>
 Rs.ok (PyData.tuple [(PyData.str (mkS (tx "but"))), v_2, v_3])).bd fun z_4 => Rs.ok z_4
theorem meF_But_told (T : Tx K mg) {k : Nat} (hk : 0 ≤ k) {r_A_told : Ask → Rs PyData} (ih_A_told : AM1 P w K mg base "told" k (rP K) r_A_told) : MethOk P w K mg base (He.ga K "But") "told" (k + 1) (spG (M1 (rOBut K) (rP K) (mF_But_told r_A_told))) := meth_But_told T fun f fd F =>
  fn_d F sc_But_told (by rintro ss R ⟨_, _, rfl, _, rfl⟩; rfl) (by
    rintro cdv A outer s H E G ss R hr ⟨self_1,  z, rfl, hm, rfl⟩
    have nd := sc_But_told.nd
    unfold mF_But_told at hm
    refine gm_run (D := fun z => retD G H (fun G v => ((rP K)).rd G v z)) ?_ hm
    exact gm_retM (r := (rP K)) (em_bd (em_mA1 ih_A_told hr (ev_fld T.c_But T.n_But_wanted (ev_v 0) rfl)) fun v_2 h2 =>
       em_bd (em_mA1 ih_A_told hr (ev_fld T.c_But T.n_But_unwanted (ev_v 0) rfl)) fun v_3 h3 =>
       em_ok (r := (rP K)) (ev_p (f := PyData.tuple) tp_TP (ev_tupL (r := (rP K)) (xs := [(PyData.str (mkS (tx "but"))), v_2, v_3]) (ea_cons (ev_p (f := fun (yy : Text) => (PyData.str (mkS yy))) tp_C (ev_txt)) (ea_cons (h2) (ea_cons (h3) ea_nil))) (szl 3)))))

noncomputable def mF_Also_told (r_A_told : Ask → Rs PyData) (self_1 : OAlso) : Rs PyData :=
 ((r_A_told self_1.needed).bd fun v_2 =>
 (r_A_told self_1.helping).bd fun v_3 =>
 Rs.ok (PyData.tuple [(PyData.str (mkS (tx "also"))), v_2, v_3])).bd fun z_4 => Rs.ok z_4
theorem meF_Also_told (T : Tx K mg) {k : Nat} (hk : 0 ≤ k) {r_A_told : Ask → Rs PyData} (ih_A_told : AM1 P w K mg base "told" k (rP K) r_A_told) : MethOk P w K mg base (He.ga K "Also") "told" (k + 1) (spG (M1 (rOAlso K) (rP K) (mF_Also_told r_A_told))) := meth_Also_told T fun f fd F =>
  fn_d F sc_Also_told (by rintro ss R ⟨_, _, rfl, _, rfl⟩; rfl) (by
    rintro cdv A outer s H E G ss R hr ⟨self_1,  z, rfl, hm, rfl⟩
    have nd := sc_Also_told.nd
    unfold mF_Also_told at hm
    refine gm_run (D := fun z => retD G H (fun G v => ((rP K)).rd G v z)) ?_ hm
    exact gm_retM (r := (rP K)) (em_bd (em_mA1 ih_A_told hr (ev_fld T.c_Also T.n_Also_needed (ev_v 0) rfl)) fun v_2 h2 =>
       em_bd (em_mA1 ih_A_told hr (ev_fld T.c_Also T.n_Also_helping (ev_v 0) rfl)) fun v_3 h3 =>
       em_ok (r := (rP K)) (ev_p (f := PyData.tuple) tp_TP (ev_tupL (r := (rP K)) (xs := [(PyData.str (mkS (tx "also"))), v_2, v_3]) (ea_cons (ev_p (f := fun (yy : Text) => (PyData.str (mkS yy))) tp_C (ev_txt)) (ea_cons (h2) (ea_cons (h3) ea_nil))) (szl 3)))))

noncomputable def mF_By_told (r_A_told : Ask → Rs PyData) (self_1 : OBy) : Rs PyData :=
 ((r_A_told self_1.heavier).bd fun v_2 =>
 Rs.ok (PyData.tuple [(PyData.str (mkS (tx "by"))), (PyData.int self_1.times), v_2])).bd fun z_3 => Rs.ok z_3
theorem meF_By_told (T : Tx K mg) {k : Nat} (hk : 0 ≤ k) {r_A_told : Ask → Rs PyData} (ih_A_told : AM1 P w K mg base "told" k (rP K) r_A_told) : MethOk P w K mg base (He.ga K "By") "told" (k + 1) (spG (M1 (rOBy K) (rP K) (mF_By_told r_A_told))) := meth_By_told T fun f fd F =>
  fn_d F sc_By_told (by rintro ss R ⟨_, _, rfl, _, rfl⟩; rfl) (by
    rintro cdv A outer s H E G ss R hr ⟨self_1,  z, rfl, hm, rfl⟩
    have nd := sc_By_told.nd
    unfold mF_By_told at hm
    refine gm_run (D := fun z => retD G H (fun G v => ((rP K)).rd G v z)) ?_ hm
    exact gm_retM (r := (rP K)) (em_bd (em_mA1 ih_A_told hr (ev_fld T.c_By T.n_By_heavier (ev_v 0) rfl)) fun v_2 h2 =>
       em_ok (r := (rP K)) (ev_p (f := PyData.tuple) tp_TP (ev_tupL (r := (rP K)) (xs := [(PyData.str (mkS (tx "by"))), (PyData.int self_1.times), v_2]) (ea_cons (ev_p (f := fun (yy : Text) => (PyData.str (mkS yy))) tp_C (ev_txt)) (ea_cons (ev_p (f := fun (yy : Int) => (PyData.int yy)) tp_I (ev_fld T.c_By T.n_By_times (ev_v 0) rfl)) (ea_cons (h2) ea_nil))) (szl 3)))))

noncomputable def mF_Never_told (r_A_told : Ask → Rs PyData) (self_1 : Unit) : Rs PyData :=
 Rs.ok (PyData.tuple [(PyData.str (mkS (tx "never")))])
theorem meF_Never_told (T : Tx K mg) {k : Nat} (hk : 0 ≤ k) {r_A_told : Ask → Rs PyData} (ih_A_told : AM1 P w K mg base "told" k (rP K) r_A_told) : MethOk P w K mg base (He.ga K "Never") "told" (k + 1) (spG (M1 (rNever K) (rP K) (mF_Never_told r_A_told))) := meth_Never_told T fun f fd F =>
  fn_d F sc_Never_told (by rintro ss R ⟨_, _, rfl, _, rfl⟩; rfl) (by
    rintro cdv A outer s H E G ss R hr ⟨self_1,  z, rfl, hm, rfl⟩
    have nd := sc_Never_told.nd
    unfold mF_Never_told at hm
    refine gm_run (D := fun z => retD G H (fun G v => ((rP K)).rd G v z)) ?_ hm
    exact gm_ret (r := (rP K)) (ev_p (f := PyData.tuple) tp_TP (ev_tupL (r := (rP K)) (xs := [(PyData.str (mkS (tx "never")))]) (ea_cons (ev_p (f := fun (yy : Text) => (PyData.str (mkS yy))) tp_C (ev_txt)) ea_nil) (szl 1))))

noncomputable def m_A_told : Nat → Ask → Rs PyData
  | 0 => fun _ => .no
  | n + 1 => (fun a => match a with
    | .word x1 => mF_Word_told (m_A_told n) (⟨x1⟩ : OWord)
    | .begin x1 => mF_Begin_told (m_A_told n) (⟨x1⟩ : OBegin)
    | .row x1 => mF_Row_told (m_A_told n) (⟨x1⟩ : ORow)
    | .near x1 x2 x3 => mF_Near_told (m_A_told n) (⟨x1, (x2, x3)⟩ : ONear)
    | .in_ x1 x2 => mF_In_told (m_A_told n) (⟨x1, x2⟩ : OIn)
    | .all x1 => mF_All_told (m_A_told n) (⟨x1⟩ : OAll)
    | .any x1 => mF_Any_told (m_A_told n) (⟨x1⟩ : OAny)
    | .but x1 x2 => mF_But_told (m_A_told n) (⟨x1, x2⟩ : OBut)
    | .also x1 x2 => mF_Also_told (m_A_told n) (⟨x1, x2⟩ : OAlso)
    | .by_ x1 x2 => mF_By_told (m_A_told n) (⟨x1, x2⟩ : OBy)
    | .never => mF_Never_told (m_A_told n) ())
theorem ok_A_told (T : Tx K mg) : ∀ n, AM1 P w K mg base "told" (0 + n) (rP K) (m_A_told n)
  | 0 => (fun a => by cases a with
    | word x1 => exact meth_Word_told T fun f fd F => fn_0 (spG_0 (by rintro ss R ⟨_, _, rfl, q, _⟩; cases q))
    | begin x1 => exact meth_Begin_told T fun f fd F => fn_0 (spG_0 (by rintro ss R ⟨_, _, rfl, q, _⟩; cases q))
    | row x1 => exact meth_Row_told T fun f fd F => fn_0 (spG_0 (by rintro ss R ⟨_, _, rfl, q, _⟩; cases q))
    | near x1 x2 x3 => exact meth_Near_told T fun f fd F => fn_0 (spG_0 (by rintro ss R ⟨_, _, rfl, q, _⟩; cases q))
    | in_ x1 x2 => exact meth_In_told T fun f fd F => fn_0 (spG_0 (by rintro ss R ⟨_, _, rfl, q, _⟩; cases q))
    | all x1 => exact meth_All_told T fun f fd F => fn_0 (spG_0 (by rintro ss R ⟨_, _, rfl, q, _⟩; cases q))
    | any x1 => exact meth_Any_told T fun f fd F => fn_0 (spG_0 (by rintro ss R ⟨_, _, rfl, q, _⟩; cases q))
    | but x1 x2 => exact meth_But_told T fun f fd F => fn_0 (spG_0 (by rintro ss R ⟨_, _, rfl, q, _⟩; cases q))
    | also x1 x2 => exact meth_Also_told T fun f fd F => fn_0 (spG_0 (by rintro ss R ⟨_, _, rfl, q, _⟩; cases q))
    | by_ x1 x2 => exact meth_By_told T fun f fd F => fn_0 (spG_0 (by rintro ss R ⟨_, _, rfl, q, _⟩; cases q))
    | never => exact meth_Never_told T fun f fd F => fn_0 (spG_0 (by rintro ss R ⟨_, _, rfl, q, _⟩; cases q)))
  | n + 1 => let h := ok_A_told T n; (fun a => by cases a with
    | word x1 => exact am1 (⟨x1⟩ : OWord) (meF_Word_told T (Nat.le_add_right _ _) (h))
    | begin x1 => exact am1 (⟨x1⟩ : OBegin) (meF_Begin_told T (Nat.le_add_right _ _) (h))
    | row x1 => exact am1 (⟨x1⟩ : ORow) (meF_Row_told T (Nat.le_add_right _ _) (h))
    | near x1 x2 x3 => exact am1 (⟨x1, (x2, x3)⟩ : ONear) (meF_Near_told T (Nat.le_add_right _ _) (h))
    | in_ x1 x2 => exact am1 (⟨x1, x2⟩ : OIn) (meF_In_told T (Nat.le_add_right _ _) (h))
    | all x1 => exact am1 (⟨x1⟩ : OAll) (meF_All_told T (Nat.le_add_right _ _) (h))
    | any x1 => exact am1 (⟨x1⟩ : OAny) (meF_Any_told T (Nat.le_add_right _ _) (h))
    | but x1 x2 => exact am1 (⟨x1, x2⟩ : OBut) (meF_But_told T (Nat.le_add_right _ _) (h))
    | also x1 x2 => exact am1 (⟨x1, x2⟩ : OAlso) (meF_Also_told T (Nat.le_add_right _ _) (h))
    | by_ x1 x2 => exact am1 (⟨x1, x2⟩ : OBy) (meF_By_told T (Nat.le_add_right _ _) (h))
    | never => exact am1 () (meF_Never_told T (Nat.le_add_right _ _) (h)))

noncomputable def m_Word_inner_ones (self_1 : OWord) : Rs (List Ask) :=
 Rs.ok []
theorem me_Word_inner_ones (T : Tx K mg) : MethOk P w K mg base (He.ga K "Word") "inner_ones" 1 (spF (rAsk K) (N1 (rOWord K) m_Word_inner_ones)) := meth_Word_inner_ones T fun f fd F =>
  fn_f F sc_Word_inner_ones (by rintro ss xs ⟨_, rfl, _⟩; rfl) (by
    rintro cdv A outer s H E G ss xs hr ⟨self_1, rfl, hm⟩
    have nd := sc_Word_inner_ones.nd
    unfold m_Word_inner_ones at hm
    refine gm_run (D := fun z => retF G H (rAsk K) z) ?_ hm
    exact gm_retF (ef_nil))

noncomputable def m_Begin_inner_ones (self_1 : OBegin) : Rs (List Ask) :=
 Rs.ok []
theorem me_Begin_inner_ones (T : Tx K mg) : MethOk P w K mg base (He.ga K "Begin") "inner_ones" 1 (spF (rAsk K) (N1 (rOBegin K) m_Begin_inner_ones)) := meth_Begin_inner_ones T fun f fd F =>
  fn_f F sc_Begin_inner_ones (by rintro ss xs ⟨_, rfl, _⟩; rfl) (by
    rintro cdv A outer s H E G ss xs hr ⟨self_1, rfl, hm⟩
    have nd := sc_Begin_inner_ones.nd
    unfold m_Begin_inner_ones at hm
    refine gm_run (D := fun z => retF G H (rAsk K) z) ?_ hm
    exact gm_retF (ef_nil))

noncomputable def m_Row_inner_ones (self_1 : ORow) : Rs (List Ask) :=
 Rs.ok []
theorem me_Row_inner_ones (T : Tx K mg) : MethOk P w K mg base (He.ga K "Row") "inner_ones" 1 (spF (rAsk K) (N1 (rORow K) m_Row_inner_ones)) := meth_Row_inner_ones T fun f fd F =>
  fn_f F sc_Row_inner_ones (by rintro ss xs ⟨_, rfl, _⟩; rfl) (by
    rintro cdv A outer s H E G ss xs hr ⟨self_1, rfl, hm⟩
    have nd := sc_Row_inner_ones.nd
    unfold m_Row_inner_ones at hm
    refine gm_run (D := fun z => retF G H (rAsk K) z) ?_ hm
    exact gm_retF (ef_nil))

noncomputable def m_Near_inner_ones (self_1 : ONear) : Rs (List Ask) :=
 Rs.ok []
theorem me_Near_inner_ones (T : Tx K mg) : MethOk P w K mg base (He.ga K "Near") "inner_ones" 1 (spF (rAsk K) (N1 (rONear K) m_Near_inner_ones)) := meth_Near_inner_ones T fun f fd F =>
  fn_f F sc_Near_inner_ones (by rintro ss xs ⟨_, rfl, _⟩; rfl) (by
    rintro cdv A outer s H E G ss xs hr ⟨self_1, rfl, hm⟩
    have nd := sc_Near_inner_ones.nd
    unfold m_Near_inner_ones at hm
    refine gm_run (D := fun z => retF G H (rAsk K) z) ?_ hm
    exact gm_retF (ef_nil))

noncomputable def m_In_inner_ones (self_1 : OIn) : Rs (List Ask) :=
 Rs.ok [self_1.inner]
theorem me_In_inner_ones (T : Tx K mg) : MethOk P w K mg base (He.ga K "In") "inner_ones" 1 (spF (rAsk K) (N1 (rOIn K) m_In_inner_ones)) := meth_In_inner_ones T fun f fd F =>
  fn_f F sc_In_inner_ones (by rintro ss xs ⟨_, rfl, _⟩; rfl) (by
    rintro cdv A outer s H E G ss xs hr ⟨self_1, rfl, hm⟩
    have nd := sc_In_inner_ones.nd
    unfold m_In_inner_ones at hm
    refine gm_run (D := fun z => retF G H (rAsk K) z) ?_ hm
    exact gm_retF (ef_lst (r := (rAsk K)) (xs := [self_1.inner]) (ea_cons (ev_fld T.c_In T.n_In_inner (ev_v 0) rfl) ea_nil) (szl 1)))

noncomputable def m_All_inner_ones (self_1 : OAll) : Rs (List Ask) :=
 Rs.ok self_1.every
theorem me_All_inner_ones (T : Tx K mg) : MethOk P w K mg base (He.ga K "All") "inner_ones" 1 (spF (rAsk K) (N1 (rOAll K) m_All_inner_ones)) := meth_All_inner_ones T fun f fd F =>
  fn_f F sc_All_inner_ones (by rintro ss xs ⟨_, rfl, _⟩; rfl) (by
    rintro cdv A outer s H E G ss xs hr ⟨self_1, rfl, hm⟩
    have nd := sc_All_inner_ones.nd
    unfold m_All_inner_ones at hm
    refine gm_run (D := fun z => retF G H (rAsk K) z) ?_ hm
    exact gm_retF (ef_list T.b_list (ea_cons (ev_fld T.c_All T.n_All_every (ev_v 0) rfl) ea_nil)))

noncomputable def m_Any_inner_ones (self_1 : OAny) : Rs (List Ask) :=
 Rs.ok self_1.either
theorem me_Any_inner_ones (T : Tx K mg) : MethOk P w K mg base (He.ga K "Any") "inner_ones" 1 (spF (rAsk K) (N1 (rOAny K) m_Any_inner_ones)) := meth_Any_inner_ones T fun f fd F =>
  fn_f F sc_Any_inner_ones (by rintro ss xs ⟨_, rfl, _⟩; rfl) (by
    rintro cdv A outer s H E G ss xs hr ⟨self_1, rfl, hm⟩
    have nd := sc_Any_inner_ones.nd
    unfold m_Any_inner_ones at hm
    refine gm_run (D := fun z => retF G H (rAsk K) z) ?_ hm
    exact gm_retF (ef_list T.b_list (ea_cons (ev_fld T.c_Any T.n_Any_either (ev_v 0) rfl) ea_nil)))

noncomputable def m_But_inner_ones (self_1 : OBut) : Rs (List Ask) :=
 Rs.ok [self_1.wanted, self_1.unwanted]
theorem me_But_inner_ones (T : Tx K mg) : MethOk P w K mg base (He.ga K "But") "inner_ones" 1 (spF (rAsk K) (N1 (rOBut K) m_But_inner_ones)) := meth_But_inner_ones T fun f fd F =>
  fn_f F sc_But_inner_ones (by rintro ss xs ⟨_, rfl, _⟩; rfl) (by
    rintro cdv A outer s H E G ss xs hr ⟨self_1, rfl, hm⟩
    have nd := sc_But_inner_ones.nd
    unfold m_But_inner_ones at hm
    refine gm_run (D := fun z => retF G H (rAsk K) z) ?_ hm
    exact gm_retF (ef_lst (r := (rAsk K)) (xs := [self_1.wanted, self_1.unwanted]) (ea_cons (ev_fld T.c_But T.n_But_wanted (ev_v 0) rfl) (ea_cons (ev_fld T.c_But T.n_But_unwanted (ev_v 0) rfl) ea_nil)) (szl 2)))

noncomputable def m_Also_inner_ones (self_1 : OAlso) : Rs (List Ask) :=
 Rs.ok [self_1.needed, self_1.helping]
theorem me_Also_inner_ones (T : Tx K mg) : MethOk P w K mg base (He.ga K "Also") "inner_ones" 1 (spF (rAsk K) (N1 (rOAlso K) m_Also_inner_ones)) := meth_Also_inner_ones T fun f fd F =>
  fn_f F sc_Also_inner_ones (by rintro ss xs ⟨_, rfl, _⟩; rfl) (by
    rintro cdv A outer s H E G ss xs hr ⟨self_1, rfl, hm⟩
    have nd := sc_Also_inner_ones.nd
    unfold m_Also_inner_ones at hm
    refine gm_run (D := fun z => retF G H (rAsk K) z) ?_ hm
    exact gm_retF (ef_lst (r := (rAsk K)) (xs := [self_1.needed, self_1.helping]) (ea_cons (ev_fld T.c_Also T.n_Also_needed (ev_v 0) rfl) (ea_cons (ev_fld T.c_Also T.n_Also_helping (ev_v 0) rfl) ea_nil)) (szl 2)))

noncomputable def m_By_inner_ones (self_1 : OBy) : Rs (List Ask) :=
 Rs.ok [self_1.heavier]
theorem me_By_inner_ones (T : Tx K mg) : MethOk P w K mg base (He.ga K "By") "inner_ones" 1 (spF (rAsk K) (N1 (rOBy K) m_By_inner_ones)) := meth_By_inner_ones T fun f fd F =>
  fn_f F sc_By_inner_ones (by rintro ss xs ⟨_, rfl, _⟩; rfl) (by
    rintro cdv A outer s H E G ss xs hr ⟨self_1, rfl, hm⟩
    have nd := sc_By_inner_ones.nd
    unfold m_By_inner_ones at hm
    refine gm_run (D := fun z => retF G H (rAsk K) z) ?_ hm
    exact gm_retF (ef_lst (r := (rAsk K)) (xs := [self_1.heavier]) (ea_cons (ev_fld T.c_By T.n_By_heavier (ev_v 0) rfl) ea_nil) (szl 1)))

noncomputable def m_Never_inner_ones (self_1 : Unit) : Rs (List Ask) :=
 Rs.ok []
theorem me_Never_inner_ones (T : Tx K mg) : MethOk P w K mg base (He.ga K "Never") "inner_ones" 1 (spF (rAsk K) (N1 (rNever K) m_Never_inner_ones)) := meth_Never_inner_ones T fun f fd F =>
  fn_f F sc_Never_inner_ones (by rintro ss xs ⟨_, rfl, _⟩; rfl) (by
    rintro cdv A outer s H E G ss xs hr ⟨self_1, rfl, hm⟩
    have nd := sc_Never_inner_ones.nd
    unfold m_Never_inner_ones at hm
    refine gm_run (D := fun z => retF G H (rAsk K) z) ?_ hm
    exact gm_retF (ef_nil))

noncomputable def m_A_inner_ones (a : Ask)  : Rs (List Ask) := match a with
  | .word x1 => m_Word_inner_ones (⟨x1⟩ : OWord)
  | .begin x1 => m_Begin_inner_ones (⟨x1⟩ : OBegin)
  | .row x1 => m_Row_inner_ones (⟨x1⟩ : ORow)
  | .near x1 x2 x3 => m_Near_inner_ones (⟨x1, (x2, x3)⟩ : ONear)
  | .in_ x1 x2 => m_In_inner_ones (⟨x1, x2⟩ : OIn)
  | .all x1 => m_All_inner_ones (⟨x1⟩ : OAll)
  | .any x1 => m_Any_inner_ones (⟨x1⟩ : OAny)
  | .but x1 x2 => m_But_inner_ones (⟨x1, x2⟩ : OBut)
  | .also x1 x2 => m_Also_inner_ones (⟨x1, x2⟩ : OAlso)
  | .by_ x1 x2 => m_By_inner_ones (⟨x1, x2⟩ : OBy)
  | .never => m_Never_inner_ones ()
theorem ok_A_inner_ones (T : Tx K mg) : AF1 P w K mg base "inner_ones" 1 (rAsk K) m_A_inner_ones := fun a => by cases a with
  | word x1 => exact af1 (⟨x1⟩ : OWord) ((me_Word_inner_ones T).up (by decide))
  | begin x1 => exact af1 (⟨x1⟩ : OBegin) ((me_Begin_inner_ones T).up (by decide))
  | row x1 => exact af1 (⟨x1⟩ : ORow) ((me_Row_inner_ones T).up (by decide))
  | near x1 x2 x3 => exact af1 (⟨x1, (x2, x3)⟩ : ONear) ((me_Near_inner_ones T).up (by decide))
  | in_ x1 x2 => exact af1 (⟨x1, x2⟩ : OIn) ((me_In_inner_ones T).up (by decide))
  | all x1 => exact af1 (⟨x1⟩ : OAll) ((me_All_inner_ones T).up (by decide))
  | any x1 => exact af1 (⟨x1⟩ : OAny) ((me_Any_inner_ones T).up (by decide))
  | but x1 x2 => exact af1 (⟨x1, x2⟩ : OBut) ((me_But_inner_ones T).up (by decide))
  | also x1 x2 => exact af1 (⟨x1, x2⟩ : OAlso) ((me_Also_inner_ones T).up (by decide))
  | by_ x1 x2 => exact af1 (⟨x1, x2⟩ : OBy) ((me_By_inner_ones T).up (by decide))
  | never => exact af1 () ((me_Never_inner_ones T).up (by decide))
end
end Lw

namespace Lw
open PySem PySem.Spec PyProof.Rows L2 PL Tp
section
variable {P : Program} {w : World} {K : PySem.W.Frag} {mg : Str → Option Value} {base : Heap}
noncomputable def mF_paths_of (r_paths_of : Ask → Rs (List (List Int))) (asking_1 : Ask) : Rs (List (List Int)) :=
 ((m_A_inner_ones asking_1).bd fun v_4 =>
 Rs.ok (numd v_4)).bd fun xs_5 =>
 (foldR (S := (List (List Int))) (fun (s6 : (List (List Int))) (x7 : (Int × Ask)) => ((r_paths_of x7.2).bd fun v_10 =>
 mapR (fun (x11 : (List Int)) => catR [x7.1] x11) v_10).bd fun v_9 => (catR s6 v_9).bd fun found_8 =>
 Rs.ok found_8) [([] : List Int)] xs_5).bd fun s6 =>
 Rs.ok s6
theorem okF_paths_of (T : Tx K mg) {k : Nat} (hk : 1 ≤ k) {r_paths_of : Ask → Rs (List (List Int))} (ih_paths_of : CallOk P w K mg base "paths_of" k (spF (rTL K PL.rI) (N1 (rAsk K) r_paths_of))) : CallOk P w K mg base "paths_of" (k + 1) (spF (rTL K PL.rI) (N1 (rAsk K) (mF_paths_of r_paths_of))) := call_paths_of T fun f fd F =>
  fn_f F sc_paths_of (by rintro ss xs ⟨_, rfl, _⟩; rfl) (by
    rintro cdv A outer s H E G ss xs hr ⟨asking_1, rfl, hm⟩
    have nd := sc_paths_of.nd
    unfold mF_paths_of at hm
    refine gm_run (D := fun z => retF G H (rTL K PL.rI) z) ?_ hm
    refine gm_setF (r := (rTL K PL.rI)) 1 nd (ef_lst (r := (rTL K PL.rI)) (xs := [([] : List Int)]) (ea_cons (ev_tupL (r := PL.rI) (xs := []) ea_nil (szl 0)) ea_nil) (szl 1)) fun o_2 => ?_
    refine gm_forM (S := (List (List Int))) (fun (s6 : (List (List Int))) => ⟨⟨G, H, []⟩, [.val (rAsk K) asking_1, .val rRef o_2, .any, .any, .any], [.lst o_2 (rTL K PL.rI) s6]⟩) [([] : List Int)] rfl PassesOwn.never (eim_bd (em_f (efm_mA1 (ok_A_inner_ones T) (hr.mono (Nat.le_trans (by decide) hk)) (ev_v 0))) fun v_4 h4 =>
       eim_ok (ei_enum T.b_enumerate (ea_cons (h4) ea_nil))) rfl (.same (.same (.any (.any (.any (.nil)))))) rfl (fun B7 x7 s6 => ⟨_, eg_tup2 rfl (eg_name 2 nd) (eg_name 3 nd), ?_⟩) (fun s6 => ?_)
    · refine gm_extendM 1 0 (r := (rTL K PL.rI)) (efm_lc (s := (rTL K PL.rI)) (own := [("path", 4)]) rfl nd (lcr_bd (em_f (efm_c1 ih_paths_of hr (ea_cons (ev_v 3) ea_nil))) fun v_10 h10 =>
         lcr_1 (r := (rTL K PL.rI)) (ei_list (h10)) fun B x11 => ⟨_, fun _ _ _ _ _ => egb_name 4 nd, fun _ _ _ _ _ => em_catT (r := PL.rI) (ev_tupL (r := PL.rI) (ea_cons (ev_v 2) ea_nil) (szl 1)) (ev_v 4)⟩)) rfl rfl fun found_8 => ?_
      exact gm_next found_8 rfl (.same (.same (.any (.any (.any (.nil)))))) rfl
    exact gm_retC 1 0 rfl rfl)

noncomputable def m_paths_of : Nat → Ask → Rs (List (List Int))
  | 0 => fun _ => .no
  | n + 1 => mF_paths_of (m_paths_of n)
theorem ok_paths_of (T : Tx K mg) : ∀ n, CallOk P w K mg base "paths_of" (1 + n) (spF (rTL K PL.rI) (N1 (rAsk K) (m_paths_of n)))
  | 0 => call_paths_of T fun f fd F => fn_0 (spF_0 (by rintro ss R ⟨_, rfl, q⟩; cases q))
  | n + 1 => let h := ok_paths_of T n; okF_paths_of T (Nat.le_add_right _ _) (h)

noncomputable def m_want_part (asking_1 : Ask) (k_2 : Int) : Rs Unit :=
 ((Rs.ok (decide (k_2 < (0 : Int)))).bd fun k3 => if k3 = true then Rs.ok true else (m_A_inner_ones asking_1).bd fun v_3 =>
 Rs.ok (decide ((v_3.length : Int) ≤ k_2))).bd fun k_5 =>
 if k_5 = true then
 .no
 else Rs.ok ()
theorem ok_want_part (T : Tx K mg) : CallOk P w K mg base "want_part" 2 (spG (M2 (rAsk K) PL.rI PL.rN m_want_part)) := call_want_part T fun f fd F =>
  fn_d F sc_want_part (by rintro ss R ⟨_, _, _, rfl, _, rfl⟩; rfl) (by
    rintro cdv A outer s H E G ss R hr ⟨asking_1, k_2,  z, rfl, hm, rfl⟩
    have nd := sc_want_part.nd
    unfold m_want_part at hm
    refine gm_run (D := fun z => retD G H (fun G v => (PL.rN).rd G v z)) ?_ hm
    refine gm_ifM (etm_w (ewm_or (etm_ok (et_c (cm_lt (ev_v 1) (ev_int)))) (ewm_or1 (etm_bd (em_f (efm_mA1 (ok_A_inner_ones T) (hr.mono (by decide)) (ev_v 0))) fun v_3 h3 =>
       etm_ok (et_c (cm_ge (ev_v 1) (ev_len (K' := K) T.b_len (ea_cons (h3) ea_nil)))))))) (fun k_5 => ?_) (fun k_5 => ?_)
    · exact gm_no
    · refine gm_on ?_
      exact gm_end)

noncomputable def m_node_at (asking_1 : Ask) (path_2 : (List Int)) : Rs Ask :=
 (foldR (S := Ask) (fun (s3 : Ask) (x4 : Int) => (m_want_part s3 x4).bd fun v_9 => ((m_A_inner_ones s3).bd fun v_6 =>
 ixR v_6 x4).bd fun asking_8 =>
 Rs.ok asking_8) asking_1 path_2).bd fun s3 =>
 Rs.ok s3
theorem ok_node_at (T : Tx K mg) : CallOk P w K mg base "node_at" 3 (spG (M2 (rAsk K) (rTL K PL.rI) (rAsk K) m_node_at)) := call_node_at T fun f fd F =>
  fn_d F sc_node_at (by rintro ss R ⟨_, _, _, rfl, _, rfl⟩; rfl) (by
    rintro cdv A outer s H E G ss R hr ⟨asking_1, path_2,  z, rfl, hm, rfl⟩
    have nd := sc_node_at.nd
    unfold m_node_at at hm
    refine gm_run (D := fun z => retD G H (fun G v => ((rAsk K)).rd G v z)) ?_ hm
    refine gm_for (S := Ask) (fun (s3 : Ask) => ⟨⟨G, H, []⟩, [.val (rAsk K) s3, .val (rTL K PL.rI) path_2, .any], []⟩) asking_1 rfl PassesOwn.never (ei_tup (ev_v 1)) rfl (.same (.same (.any (.nil)))) rfl (fun B4 x4 s3 => ⟨_, eg_name 2 nd, ?_⟩) (fun s3 => ?_)
    · refine gm_exprM (r := PL.rN) (em_c2 (ok_want_part T) (hr.mono (by decide)) (ea_cons (ev_v 0) (ea_cons (ev_v 2) ea_nil))) fun v_9 => ?_
      refine gm_setM (r := (rAsk K)) 0 nd (em_bd (em_f (efm_mA1 (ok_A_inner_ones T) (hr.mono (by decide)) (ev_v 0))) fun v_6 h6 =>
         em_ixL (h6) (ev_v 2)) fun asking_8 => ?_
      exact gm_next asking_8 rfl (.same (.same (.any (.nil)))) rfl
    exact gm_ret (r := (rAsk K)) (ev_v 0))

noncomputable def m_is_leaf (asking_1 : Ask) : Rs Bool :=
 Rs.ok (is_Word asking_1 || (is_Begin asking_1 || (is_Row asking_1 || (is_Near asking_1 || false))))
theorem ok_is_leaf (T : Tx K mg) : CallOk P w K mg base "is_leaf" 1 (spG (M1 (rAsk K) PL.rB m_is_leaf)) := call_is_leaf T fun f fd F =>
  fn_d F sc_is_leaf (by rintro ss R ⟨_, _, rfl, _, rfl⟩; rfl) (by
    rintro cdv A outer s H E G ss R hr ⟨asking_1,  z, rfl, hm, rfl⟩
    have nd := sc_is_leaf.nd
    unfold m_is_leaf at hm
    refine gm_run (D := fun z => retD G H (fun G v => (PL.rB).rd G v z)) ?_ hm
    exact gm_ret (r := PL.rB) (ev_isT (Ds := [He.ga K "Word", He.ga K "Begin", He.ga K "Row", He.ga K "Near"]) (clsA T asking_1) (isA T asking_1) (kitAny_or (kA_Word T asking_1) (kitAny_or (kA_Begin T asking_1) (kitAny_or (kA_Row T asking_1) (kitAny_or (kA_Near T asking_1) rfl)))) (show 4 ≤ 1000 by decide) T.b_isinstance (ev_one_ (ev_v 0)) (ea_ref T.g_Word (ea_ref T.g_Begin (ea_ref T.g_Row (ea_ref T.g_Near ea_nil))))))

noncomputable def m_parts_within (parts_1 : (List Int)) (asking_2 : Ask) : Rs (List Int) :=
 if (!(is_In asking_2)) = true then
 Rs.ok parts_1
 else ((lcR (fun (x3 : Int) => (m_A_told 70 asking_2).bd fun v_4 =>
 (ixP v_4 (1 : Int)).bd fun v_5 =>
 (asI v_5).bd fun c_6 =>
 Rs.ok (decide (x3 = c_6))) (fun (x3 : Int) => Rs.ok x3) parts_1).bd fun v_7 =>
 Rs.ok v_7).bd fun z_8 => Rs.ok z_8
theorem ok_parts_within (T : Tx K mg) : CallOk P w K mg base "parts_within" 71 (spG (M2 (rTL K PL.rI) (rAsk K) (rTL K PL.rI) m_parts_within)) := call_parts_within T fun f fd F =>
  fn_d F sc_parts_within (by rintro ss R ⟨_, _, _, rfl, _, rfl⟩; rfl) (by
    rintro cdv A outer s H E G ss R hr ⟨parts_1, asking_2,  z, rfl, hm, rfl⟩
    have nd := sc_parts_within.nd
    unfold m_parts_within at hm
    refine gm_run (D := fun z => retD G H (fun G v => ((rTL K PL.rI)).rd G v z)) ?_ hm
    refine gm_if (et_not (ev_t (ev_isA (clsA T) (isA T) (kA_In T) T.b_isinstance T.g_In (ev_v 1)))) ?_ ?_
    · exact gm_ret (r := (rTL K PL.rI)) (ev_v 0)
    · refine gm_on ?_
      exact gm_retM (r := (rTL K PL.rI)) (em_bd (em_f (efm_lc (s := PL.rI) (own := [("part", 2)]) rfl nd (lcr_2 (r := PL.rI) (ei_tup (ev_v 0)) fun B x3 => ⟨_, fun _ _ _ _ _ => egb_name 2 nd, fun _ _ _ _ _ => etm_bd (em_mA1 (ok_A_told T 70) (hr.mono (by decide)) (ev_v 1)) fun v_4 h4 =>
         etm_bd (em_ixP (h4) (ev_int)) fun v_5 h5 =>
         etm_bd (em_as cst_I (h5)) fun c_6 h6 =>
         etm_ok (et_c (cm_eqI (ev_v 2) (h6))), fun _ _ _ _ _ => em_ok (r := PL.rI) (ev_v 2)⟩))) fun v_7 h7 =>
         em_ok (r := (rTL K PL.rI)) (ev_tupleL T.b_tuple (ea_cons (h7) ea_nil))))

noncomputable def m_parts_at (asking_1 : Ask) (path_2 : (List Int)) : Rs (List Int) :=
 (Rs.ok [(0 : Int), (1 : Int), (2 : Int)]).bd fun parts_3 =>
 (rngR (path_2.length : Int)).bd fun xs_4 =>
 (foldR (S := (List Int)) (fun (s5 : (List Int)) (x6 : Int) => ((m_node_at asking_1 (cut path_2 (none) (some x6))).bd fun v_7 =>
 m_parts_within s5 v_7).bd fun parts_9 =>
 Rs.ok parts_9) parts_3 xs_4).bd fun s5 =>
 Rs.ok s5
theorem ok_parts_at (T : Tx K mg) : CallOk P w K mg base "parts_at" 72 (spG (M2 (rAsk K) (rTL K PL.rI) (rTL K PL.rI) m_parts_at)) := call_parts_at T fun f fd F =>
  fn_d F sc_parts_at (by rintro ss R ⟨_, _, _, rfl, _, rfl⟩; rfl) (by
    rintro cdv A outer s H E G ss R hr ⟨asking_1, path_2,  z, rfl, hm, rfl⟩
    have nd := sc_parts_at.nd
    unfold m_parts_at at hm
    refine gm_run (D := fun z => retD G H (fun G v => ((rTL K PL.rI)).rd G v z)) ?_ hm
    refine gm_setM (r := (rTL K PL.rI)) 2 nd (em_ok (r := (rTL K PL.rI)) (ev_gtupI T.g_EVERY_PART T.t_EVERY_PART)) fun parts_3 => ?_
    refine gm_forM (S := (List Int)) (fun (s5 : (List Int)) => ⟨⟨G, H, []⟩, [.val (rAsk K) asking_1, .val (rTL K PL.rI) path_2, .val (rTL K PL.rI) s5, .any], []⟩) parts_3 rfl PassesOwn.never (eim_range T.b_range (ea_cons (ev_lenT T.b_len (ea_cons (ev_v 1) ea_nil)) ea_nil)) rfl (.same (.same (.same (.any (.nil))))) rfl (fun B6 x6 s5 => ⟨_, eg_name 3 nd, ?_⟩) (fun s5 => ?_)
    · refine gm_setM (r := (rTL K PL.rI)) 2 nd (em_bd (em_c2 (ok_node_at T) (hr.mono (by decide)) (ea_cons (ev_v 0) (ea_cons (ev_cutT (i := none) (j := some x6) (ev_v 1) (eo_none) (eo_some (ev_v 3))) ea_nil))) fun v_7 h7 =>
         em_c2 (ok_parts_within T) (hr.mono (by decide)) (ea_cons (ev_v 2) (ea_cons (h7) ea_nil))) fun parts_9 => ?_
      exact gm_next parts_9 rfl (.same (.same (.same (.any (.nil))))) rfl
    exact gm_ret (r := (rTL K PL.rI)) (ev_v 2))

noncomputable def m_leaves_of (asking_1 : Ask) : Rs (List ((List Int) × (List Int))) :=
 ((m_paths_of 70 asking_1).bd fun v_2 =>
 lcR (fun (x3 : (List Int)) => (m_node_at asking_1 x3).bd fun v_4 =>
 (m_is_leaf v_4).bd fun v_5 =>
 Rs.ok v_5) (fun (x3 : (List Int)) => Rs.ok x3) v_2).bd fun paths_6 =>
 (mapR (fun (x8 : (List Int)) => (m_parts_at asking_1 x8).bd fun v_9 =>
 Rs.ok (x8, v_9)) paths_6).bd fun z_10 => Rs.ok z_10
theorem ok_leaves_of (T : Tx K mg) : CallOk P w K mg base "leaves_of" 73 (spF (rT2 K (rTL K PL.rI) (rTL K PL.rI)) (N1 (rAsk K) m_leaves_of)) := call_leaves_of T fun f fd F =>
  fn_f F sc_leaves_of (by rintro ss xs ⟨_, rfl, _⟩; rfl) (by
    rintro cdv A outer s H E G ss xs hr ⟨asking_1, rfl, hm⟩
    have nd := sc_leaves_of.nd
    unfold m_leaves_of at hm
    refine gm_run (D := fun z => retF G H (rT2 K (rTL K PL.rI) (rTL K PL.rI)) z) ?_ hm
    refine gm_lc 1 (s := (rTL K PL.rI)) (own := [("path", 2)]) rfl nd (lcr_bd (em_f (efm_c1 (ok_paths_of T 70) (hr.mono (by decide)) (ea_cons (ev_v 0) ea_nil))) fun v_2 h2 =>
       lcr_2 (r := (rTL K PL.rI)) (ei_list (h2)) fun B x3 => ⟨_, fun _ _ _ _ _ => egb_name 2 nd, fun _ _ _ _ _ => etm_bd (em_c2 (ok_node_at T) (hr.mono (by decide)) (ea_cons (ev_v 0) (ea_cons (ev_v 2) ea_nil))) fun v_4 h4 =>
       etm_bd (em_c1 (ok_is_leaf T) (hr.mono (by decide)) (ea_cons (h4) ea_nil)) fun v_5 h5 =>
       etm_ok (ev_t (h5)), fun _ _ _ _ _ => em_ok (r := (rTL K PL.rI)) (ev_v 2)⟩) fun paths_6 => ?_
    exact gm_retFM (efm_lc (s := (rT2 K (rTL K PL.rI) (rTL K PL.rI))) (own := [("path", 2)]) rfl nd (lcr_1 (r := (rTL K PL.rI)) (ei_list (ev_v 1)) fun B x8 => ⟨_, fun _ _ _ _ _ => egb_name 2 nd, fun _ _ _ _ _ => em_bd (em_c2 (ok_parts_at T) (hr.mono (by decide)) (ea_cons (ev_v 0) (ea_cons (ev_v 2) ea_nil))) fun v_9 h9 =>
       em_ok (r := (rT2 K (rTL K PL.rI) (rTL K PL.rI))) (ev_tup2 (ea_cons (ev_v 2) (ea_cons (h9) ea_nil)))⟩)))
end
end Lw

namespace Lw
open PySem PySem.Spec PyProof.Rows L2 PL Tp
section
variable {P : Program} {w : World} {K : PySem.W.Frag} {mg : Str → Option Value} {base : Heap}
noncomputable def m_law_at (script_1 : (List Int)) (k_2 : Int) : Rs Int :=
 (if decide (k_2 < (script_1.length : Int)) = true then (ixR script_1 k_2).bd fun v_3 =>
 Rs.ok v_3 else Rs.ok (0 : Int)).bd fun z_5 => Rs.ok z_5
theorem ok_law_at (T : Tx K mg) : CallOk P w K mg base "_law_at" 1 (spG (M2 (rL K PL.rI) PL.rI PL.rI m_law_at)) := call_law_at T fun f fd F =>
  fn_d F sc_law_at (by rintro ss R ⟨_, _, _, rfl, _, rfl⟩; rfl) (by
    rintro cdv A outer s H E G ss R hr ⟨script_1, k_2,  z, rfl, hm, rfl⟩
    have nd := sc_law_at.nd
    unfold m_law_at at hm
    refine gm_run (D := fun z => retD G H (fun G v => (PL.rI).rd G v z)) ?_ hm
    exact gm_retM (r := PL.rI) (em_if (et_c (cm_lt (ev_v 1) (ev_len (K' := K) T.b_len (ea_cons (ev_v 0) ea_nil)))) (em_bd (em_ixL (ev_v 0) (ev_v 1)) fun v_3 h3 =>
       em_ok (h3)) (em_ok (ev_int))))

noncomputable def m_law_mixed (cell_1 : Int) (k_2 : Int) : Rs Int :=
 ((mulR k_2 k_2).bd fun v_3 =>
 Rs.ok ((((((cell_1 % (2147483647 : Int)) * (48271 : Int)) + (v_3 * (39373 : Int))) + (k_2 * (6007 : Int))) + (104729 : Int)) % (2147483563 : Int))).bd fun number_4 =>
 ((mulR number_4 number_4).bd fun v_5 =>
 Rs.ok (v_5 % (2147483549 : Int))).bd fun z_6 => Rs.ok z_6
theorem ok_law_mixed (T : Tx K mg) : CallOk P w K mg base "_law_mixed" 1 (spG (M2 PL.rI PL.rI PL.rI m_law_mixed)) := call_law_mixed T fun f fd F =>
  fn_d F sc_law_mixed (by rintro ss R ⟨_, _, _, rfl, _, rfl⟩; rfl) (by
    rintro cdv A outer s H E G ss R hr ⟨cell_1, k_2,  z, rfl, hm, rfl⟩
    have nd := sc_law_mixed.nd
    unfold m_law_mixed at hm
    refine gm_run (D := fun z => retD G H (fun G v => (PL.rI).rd G v z)) ?_ hm
    refine gm_setM (r := PL.rI) 2 nd (em_bd (em_mul (ev_v 1) (ev_v 1)) fun v_3 h3 =>
       em_ok (r := PL.rI) (ev_mod (ev_add (ev_add (ev_add (ev_mulS (ev_mod (ev_v 0) (ev_int) (by decide)) (ev_int) (.inr ⟨by decide, by decide⟩)) (ev_mulS (h3) (ev_int) (.inr ⟨by decide, by decide⟩))) (ev_mulS (ev_v 1) (ev_int) (.inr ⟨by decide, by decide⟩))) (ev_int)) (ev_int) (by decide))) fun number_4 => ?_
    exact gm_retM (r := PL.rI) (em_bd (em_mul (ev_v 2) (ev_v 2)) fun v_5 h5 =>
       em_ok (r := PL.rI) (ev_mod (h5) (ev_int) (by decide))))

noncomputable def m_law_rich (cell_1 : Int) : Rs Int :=
 (Rs.ok (0 : Int)).bd fun rest_2 =>
 (rngR (4 : Int)).bd fun xs_3 =>
 (foldR (S := Int) (fun (s4 : Int) (x5 : Int) => ((m_law_mixed cell_1 ((300 : Int) + x5)).bd fun v_6 =>
 Rs.ok ((s4 * (2147483549 : Int)) + v_6)).bd fun rest_7 =>
 Rs.ok rest_7) rest_2 xs_3).bd fun s4 =>
 Rs.ok s4
theorem ok_law_rich (T : Tx K mg) : CallOk P w K mg base "_law_rich" 2 (spG (M1 PL.rI PL.rI m_law_rich)) := call_law_rich T fun f fd F =>
  fn_d F sc_law_rich (by rintro ss R ⟨_, _, rfl, _, rfl⟩; rfl) (by
    rintro cdv A outer s H E G ss R hr ⟨cell_1,  z, rfl, hm, rfl⟩
    have nd := sc_law_rich.nd
    unfold m_law_rich at hm
    refine gm_run (D := fun z => retD G H (fun G v => (PL.rI).rd G v z)) ?_ hm
    refine gm_setM (r := PL.rI) 1 nd (em_ok (r := PL.rI) (ev_int)) fun rest_2 => ?_
    refine gm_forM (S := Int) (fun (s4 : Int) => ⟨⟨G, H, []⟩, [.val PL.rI cell_1, .val PL.rI s4, .any], []⟩) rest_2 rfl PassesOwn.never (eim_range T.b_range (ea_cons (ev_int) ea_nil)) rfl (.same (.same (.any (.nil)))) rfl (fun B5 x5 s4 => ⟨_, eg_name 2 nd, ?_⟩) (fun s4 => ?_)
    · refine gm_setM (r := PL.rI) 1 nd (em_bd (em_c2 (ok_law_mixed T) (hr.mono (by decide)) (ea_cons (ev_v 0) (ea_cons (ev_add (ev_int) (ev_v 2)) ea_nil))) fun v_6 h6 =>
         em_ok (r := PL.rI) (ev_add (ev_mulS (ev_v 1) (ev_int) (.inr ⟨by decide, by decide⟩)) (h6))) fun rest_7 => ?_
      exact gm_next rest_7 rfl (.same (.same (.any (.nil)))) rfl
    exact gm_ret (r := PL.rI) (ev_v 1))

noncomputable def m_law_stream (cell_1 : Int) : Rs Int :=
 if (decide ((cell_1.natAbs : Int) < ((10 : Int) ^ 18))) = true then
 ((m_law_rich cell_1).bd fun v_2 =>
 Rs.ok ((cell_1 % ((10 : Int) ^ 18)) + (((10 : Int) ^ 18) * v_2))).bd fun z_3 => Rs.ok z_3
 else Rs.ok cell_1
theorem ok_law_stream (T : Tx K mg) : CallOk P w K mg base "_law_stream" 3 (spG (M1 PL.rI PL.rI m_law_stream)) := call_law_stream T fun f fd F =>
  fn_d F sc_law_stream (by rintro ss R ⟨_, _, rfl, _, rfl⟩; rfl) (by
    rintro cdv A outer s H E G ss R hr ⟨cell_1,  z, rfl, hm, rfl⟩
    have nd := sc_law_stream.nd
    unfold m_law_stream at hm
    refine gm_run (D := fun z => retD G H (fun G v => (PL.rI).rd G v z)) ?_ hm
    refine gm_if (et_c (cm_lt (ev_abs T.b_abs (ea_cons (ev_v 0) ea_nil)) (ev_powK 10 18))) ?_ ?_
    · exact gm_retM (r := PL.rI) (em_bd (em_c1 (ok_law_rich T) (hr.mono (by decide)) (ea_cons (ev_v 0) ea_nil)) fun v_2 h2 =>
         em_ok (r := PL.rI) (ev_add (ev_mod (ev_v 0) (ev_powK 10 18) (by decide)) (ev_mulS (ev_powK 10 18) (h2) (.inl ⟨by decide, by decide⟩))))
    · refine gm_on ?_
      exact gm_ret (r := PL.rI) (ev_v 0))

noncomputable def m_law_word (rest_1 : Int) (pool_2 : (List Text)) : Rs (Text × Int) :=
 (Rs.ok (rest_1 % (8 : Int))).bd fun way_3 =>
 (Rs.ok (rest_1 / (8 : Int))).bd fun rest_4 =>
 if ((!decide (pool_2 = [])) && decide ((0 : Int) < way_3)) = true then
 ((modR rest_4 (pool_2.length : Int)).bd fun v_5 =>
 (ixR pool_2 v_5).bd fun v_6 =>
 (divR rest_4 (pool_2.length : Int)).bd fun v_7 =>
 Rs.ok (v_6, v_7)).bd fun z_8 => Rs.ok z_8
 else (Rs.ok (tx "abcdefghijklmnopqrstuvwxyz0123456789")).bd fun signs_9 =>
 (Rs.ok (tx "")).bd fun found_10 =>
 (Rs.ok ((1 : Int) + (rest_4 % (20 : Int)))).bd fun size_11 =>
 (Rs.ok (rest_4 / (20 : Int))).bd fun rest_12 =>
 (rngR size_11).bd fun xs_13 =>
 (foldR (S := (Int × Text)) (fun (s14 : (Int × Text)) (x15 : Int) => ((sgnR signs_9 (s14.1 % (36 : Int))).bd fun v_16 =>
 catR s14.2 v_16).bd fun found_18 =>
 (Rs.ok (s14.1 / (36 : Int))).bd fun rest_19 =>
 Rs.ok (rest_19, found_18)) (rest_12, found_10) xs_13).bd fun s14 =>
 Rs.ok (s14.2, s14.1)
theorem ok_law_word (T : Tx K mg) : CallOk P w K mg base "_law_word" 1 (spG (M2 PL.rI (rL K PL.rC) (rT2 K PL.rC PL.rI) m_law_word)) := call_law_word T fun f fd F =>
  fn_d F sc_law_word (by rintro ss R ⟨_, _, _, rfl, _, rfl⟩; rfl) (by
    rintro cdv A outer s H E G ss R hr ⟨rest_1, pool_2,  z, rfl, hm, rfl⟩
    have nd := sc_law_word.nd
    unfold m_law_word at hm
    refine gm_run (D := fun z => retD G H (fun G v => ((rT2 K PL.rC PL.rI)).rd G v z)) ?_ hm
    refine gm_setM (r := PL.rI) 2 nd (em_ok (r := PL.rI) (ev_mod (ev_v 0) (ev_int) (by decide))) fun way_3 => ?_
    refine gm_setM (r := PL.rI) 0 nd (em_ok (r := PL.rI) (ev_fdiv (ev_v 0) (ev_int) ⟨by decide, by decide⟩)) fun rest_4 => ?_
    refine gm_if (ev_w (ew_and (et_c (cm_neD (dL dC) hr (ev_v 1) (ev_f (ef_nil)))) fun _ => ew_and1 (et_c (cm_gt (ev_v 2) (ev_int))))) ?_ ?_
    · exact gm_retM (r := (rT2 K PL.rC PL.rI)) (em_bd (em_mod (ev_v 0) (ev_len (K' := K) T.b_len (ea_cons (ev_v 1) ea_nil))) fun v_5 h5 =>
         em_bd (em_ixL (ev_v 1) (h5)) fun v_6 h6 =>
         em_bd (em_div (ev_v 0) (ev_len (K' := K) T.b_len (ea_cons (ev_v 1) ea_nil))) fun v_7 h7 =>
         em_ok (r := (rT2 K PL.rC PL.rI)) (ev_tup2 (ea_cons (h6) (ea_cons (h7) ea_nil))))
    · refine gm_on ?_
      refine gm_setM (r := PL.rC) 3 nd (em_ok (r := PL.rC) (ev_txt)) fun signs_9 => ?_
      refine gm_setM (r := PL.rC) 4 nd (em_ok (r := PL.rC) (ev_txt)) fun found_10 => ?_
      refine gm_setM (r := PL.rI) 5 nd (em_ok (r := PL.rI) (ev_add (ev_int) (ev_mod (ev_v 0) (ev_int) (by decide)))) fun size_11 => ?_
      refine gm_setM (r := PL.rI) 0 nd (em_ok (r := PL.rI) (ev_fdiv (ev_v 0) (ev_int) ⟨by decide, by decide⟩)) fun rest_12 => ?_
      refine gm_forM (S := (Int × Text)) (fun (s14 : (Int × Text)) => ⟨⟨G, H, []⟩, [.val PL.rI s14.1, .val (rL K PL.rC) pool_2, .val PL.rI way_3, .val PL.rC signs_9, .val PL.rC s14.2, .val PL.rI size_11, .any], []⟩) (rest_12, found_10) rfl PassesOwn.never (eim_range T.b_range (ea_cons (ev_v 5) ea_nil)) rfl (.same (.same (.same (.same (.same (.same (.any (.nil)))))))) rfl (fun B15 x15 s14 => ⟨_, eg_name 6 nd, ?_⟩) (fun s14 => ?_)
      · refine gm_setM (r := PL.rC) 4 nd (em_bd (em_ixC (ev_v 3) (ev_mod (ev_v 0) (ev_int) (by decide))) fun v_16 h16 =>
           em_cat (ev_v 4) (h16)) fun found_18 => ?_
        refine gm_setM (r := PL.rI) 0 nd (em_ok (r := PL.rI) (ev_fdiv (ev_v 0) (ev_int) ⟨by decide, by decide⟩)) fun rest_19 => ?_
        exact gm_next (rest_19, found_18) rfl (.same (.same (.same (.same (.same (.same (.any (.nil)))))))) rfl
      exact gm_ret (r := (rT2 K PL.rC PL.rI)) (ev_tup2 (ea_cons (ev_v 4) (ea_cons (ev_v 0) ea_nil))))

noncomputable def m_law_leaf (rest_1 : Int) (pool_2 : (List Text)) : Rs (PyData × Int) :=
 (Rs.ok (rest_1 % (4 : Int))).bd fun way_3 =>
 (m_law_word (rest_1 / (4 : Int)) pool_2).bd fun p_5 =>
 if (decide (way_3 = (0 : Int))) = true then
 Rs.ok ((PyData.tuple [(PyData.str (mkS (tx "word"))), (PyData.str (mkS p_5.1))]), p_5.2)
 else if (decide (way_3 = (1 : Int))) = true then
 ((modR p_5.2 (p_5.1.length : Int)).bd fun v_6 =>
 (divR p_5.2 (p_5.1.length : Int)).bd fun v_7 =>
 Rs.ok ((PyData.tuple [(PyData.str (mkS (tx "begin"))), (PyData.str (mkS (cut p_5.1 (none) (some ((1 : Int) + v_6)))))]), v_7)).bd fun z_8 => Rs.ok z_8
 else if (decide (way_3 = (2 : Int))) = true then
 (Rs.ok ((2 : Int) + (p_5.2 % (5 : Int)))).bd fun size_11 =>
 (Rs.ok (p_5.2 / (5 : Int))).bd fun rest_12 =>
 (whileR (S := (Int × (List Text))) (fun s13 => Rs.ok (decide ((s13.2.length : Int) < size_11))) (fun s13 => (m_law_word s13.1 pool_2).bd fun p_15 =>
 (appR s13.2 p_15.1).bd fun row_16 =>
 Rs.ok (p_15.2, row_16)) fuelW (rest_12, [p_5.1])).bd fun s13 =>
 Rs.ok ((PyData.tuple [(PyData.str (mkS (tx "row"))), (PyData.tuple (s13.2.map fun yy => (PyData.str (mkS yy))))]), s13.1)
 else (Rs.ok ((1 : Int) + (p_5.2 % (20 : Int)))).bd fun far_18 =>
 (m_law_word (p_5.2 / (20 : Int)) pool_2).bd fun p_20 =>
 Rs.ok ((PyData.tuple [(PyData.str (mkS (tx "near"))), (PyData.int far_18), (PyData.str (mkS p_5.1)), (PyData.str (mkS p_20.1))]), p_20.2)
theorem ok_law_leaf (T : Tx K mg) : CallOk P w K mg base "_law_leaf" 2 (spG (M2 PL.rI (rL K PL.rC) (rT2 K (rP K) PL.rI) m_law_leaf)) := call_law_leaf T fun f fd F =>
  fn_d F sc_law_leaf (by rintro ss R ⟨_, _, _, rfl, _, rfl⟩; rfl) (by
    rintro cdv A outer s H E G ss R hr ⟨rest_1, pool_2,  z, rfl, hm, rfl⟩
    have nd := sc_law_leaf.nd
    unfold m_law_leaf at hm
    refine gm_run (D := fun z => retD G H (fun G v => ((rT2 K (rP K) PL.rI)).rd G v z)) ?_ hm
    refine gm_setM (r := PL.rI) 2 nd (em_ok (r := PL.rI) (ev_mod (ev_v 0) (ev_int) (by decide))) fun way_3 => ?_
    refine gm_asgM (r := (rT2 K PL.rC PL.rI)) (em_c2 (ok_law_word T) (hr.mono (by decide)) (ea_cons (ev_fdiv (ev_v 0) (ev_int) ⟨by decide, by decide⟩) (ea_cons (ev_v 1) ea_nil))) fun p_5 => ⟨_, eg_tup2 rfl (eg_name 3 nd) (eg_name 0 nd), ?_⟩
    refine gm_if (et_c (cm_eqI (ev_v 2) (ev_int))) ?_ ?_
    · exact gm_ret (r := (rT2 K (rP K) PL.rI)) (ev_tup2 (ea_cons (ev_p (f := PyData.tuple) tp_TP (ev_tupL (r := (rP K)) (xs := [(PyData.str (mkS (tx "word"))), (PyData.str (mkS p_5.1))]) (ea_cons (ev_p (f := fun (yy : Text) => (PyData.str (mkS yy))) tp_C (ev_txt)) (ea_cons (ev_p (f := fun (yy : Text) => (PyData.str (mkS yy))) tp_C (ev_v 3)) ea_nil)) (szl 2))) (ea_cons (ev_v 0) ea_nil)))
    · refine gm_on ?_
      refine gm_if (et_c (cm_eqI (ev_v 2) (ev_int))) ?_ ?_
      · exact gm_retM (r := (rT2 K (rP K) PL.rI)) (em_bd (em_mod (ev_v 0) (ev_lenX T.b_len (ea_cons (ev_v 3) ea_nil))) fun v_6 h6 =>
           em_bd (em_div (ev_v 0) (ev_lenX T.b_len (ea_cons (ev_v 3) ea_nil))) fun v_7 h7 =>
           em_ok (r := (rT2 K (rP K) PL.rI)) (ev_tup2 (ea_cons (ev_p (f := PyData.tuple) tp_TP (ev_tupL (r := (rP K)) (xs := [(PyData.str (mkS (tx "begin"))), (PyData.str (mkS (cut p_5.1 (none) (some ((1 : Int) + v_6)))))]) (ea_cons (ev_p (f := fun (yy : Text) => (PyData.str (mkS yy))) tp_C (ev_txt)) (ea_cons (ev_p (f := fun (yy : Text) => (PyData.str (mkS yy))) tp_C (ev_cutC (i := none) (j := some ((1 : Int) + v_6)) (ev_v 3) (eo_none) (eo_some (ev_add (ev_int) (h6))))) ea_nil)) (szl 2))) (ea_cons (h7) ea_nil))))
      · refine gm_on ?_
        refine gm_if (et_c (cm_eqI (ev_v 2) (ev_int))) ?_ ?_
        · refine gm_setF (r := PL.rC) 4 nd (ef_lst (r := PL.rC) (xs := [p_5.1]) (ea_cons (ev_v 3) ea_nil) (szl 1)) fun o_9 => ?_
          refine gm_setM (r := PL.rI) 5 nd (em_ok (r := PL.rI) (ev_add (ev_int) (ev_mod (ev_v 0) (ev_int) (by decide)))) fun size_11 => ?_
          refine gm_setM (r := PL.rI) 0 nd (em_ok (r := PL.rI) (ev_fdiv (ev_v 0) (ev_int) ⟨by decide, by decide⟩)) fun rest_12 => ?_
          refine gm_while (S := (Int × (List Text))) (fun (s13 : (Int × (List Text))) => ⟨⟨G, H, []⟩, [.val PL.rI s13.1, .val (rL K PL.rC) pool_2, .val PL.rI way_3, .any, .val rRef o_9, .val PL.rI size_11, .any, .any], [.lst o_9 PL.rC s13.2]⟩) (rest_12, [p_5.1]) PassesOwn.never rfl (.same (.same (.same (.any (.same (.same (.any (.any (.nil))))))))) rfl (fun s13 => etm_lent 4 0 rfl rfl (etm_ok (et_c (cm_lt (ev_len (K' := K) T.b_len (ea_cons (ev_v 4) ea_nil)) (ev_v 5))))) (fun s13 => ?_) (fun s13 => ?_)
          · refine gm_asgM (r := (rT2 K PL.rC PL.rI)) (em_c2 (ok_law_word T) (hr.mono (by decide)) (ea_cons (ev_v 0) (ea_cons (ev_v 1) ea_nil))) fun p_15 => ⟨_, eg_tup2 rfl (eg_name 3 nd) (eg_name 0 nd), ?_⟩
            refine gm_append 4 0 (r := PL.rC) (ev_v 3) rfl rfl fun row_16 => ?_
            exact gm_again (p_15.2, row_16) rfl (.same (.same (.same (.any (.same (.same (.any (.any (.nil))))))))) rfl
          refine gm_frz 4 0 rfl rfl ?_
          exact gm_ret (r := (rT2 K (rP K) PL.rI)) (ev_tup2 (ea_cons (ev_p (f := PyData.tuple) tp_TP (ev_tupL (r := (rP K)) (xs := [(PyData.str (mkS (tx "row"))), (PyData.tuple (s13.2.map fun yy => (PyData.str (mkS yy))))]) (ea_cons (ev_p (f := fun (yy : Text) => (PyData.str (mkS yy))) tp_C (ev_txt)) (ea_cons (ev_p (f := fun (yy : (List Text)) => (PyData.tuple (yy.map fun yy => (PyData.str (mkS yy))))) (tp_TL tp_C) (ev_tupleL T.b_tuple (ea_cons (ev_v 4) ea_nil))) ea_nil)) (szl 2))) (ea_cons (ev_v 0) ea_nil)))
        · refine gm_on ?_
          refine gm_setM (r := PL.rI) 6 nd (em_ok (r := PL.rI) (ev_add (ev_int) (ev_mod (ev_v 0) (ev_int) (by decide)))) fun far_18 => ?_
          refine gm_asgM (r := (rT2 K PL.rC PL.rI)) (em_c2 (ok_law_word T) (hr.mono (by decide)) (ea_cons (ev_fdiv (ev_v 0) (ev_int) ⟨by decide, by decide⟩) (ea_cons (ev_v 1) ea_nil))) fun p_20 => ⟨_, eg_tup2 rfl (eg_name 7 nd) (eg_name 0 nd), ?_⟩
          exact gm_ret (r := (rT2 K (rP K) PL.rI)) (ev_tup2 (ea_cons (ev_p (f := PyData.tuple) tp_TP (ev_tupL (r := (rP K)) (xs := [(PyData.str (mkS (tx "near"))), (PyData.int far_18), (PyData.str (mkS p_5.1)), (PyData.str (mkS p_20.1))]) (ea_cons (ev_p (f := fun (yy : Text) => (PyData.str (mkS yy))) tp_C (ev_txt)) (ea_cons (ev_p (f := fun (yy : Int) => (PyData.int yy)) tp_I (ev_v 6)) (ea_cons (ev_p (f := fun (yy : Text) => (PyData.str (mkS yy))) tp_C (ev_v 3)) (ea_cons (ev_p (f := fun (yy : Text) => (PyData.str (mkS yy))) tp_C (ev_v 7)) ea_nil)))) (szl 4))) (ea_cons (ev_v 0) ea_nil))))

noncomputable def mF_law_leaf_tree (r_law_leaf_tree : Int → (List Text) → Int → Int → Rs (PyData × Int)) (r_law_tree : Int → (List Text) → Int → Rs (PyData × Int)) (rest_1 : Int) (pool_2 : (List Text)) (way_3 : Int) (deep_4 : Int) : Rs (PyData × Int) :=
 if (decide (way_3 = (4 : Int))) = true then
 (Rs.ok (rest_1 % (3 : Int))).bd fun part_5 =>
 (r_law_tree (rest_1 / (3 : Int)) pool_2 (deep_4 - (1 : Int))).bd fun p_7 =>
 Rs.ok ((PyData.tuple [(PyData.str (mkS (tx "in"))), (PyData.int part_5), p_7.1]), p_7.2)
 else if (decide (way_3 = (9 : Int))) = true then
 (Rs.ok (rest_1 % (1000 : Int))).bd fun times_8 =>
 (r_law_tree (rest_1 / (1000 : Int)) pool_2 (deep_4 - (1 : Int))).bd fun p_10 =>
 Rs.ok ((PyData.tuple [(PyData.str (mkS (tx "by"))), (PyData.int times_8), p_10.1]), p_10.2)
 else Rs.ok ((PyData.tuple [(PyData.str (mkS (tx "never")))]), rest_1)
theorem okF_law_leaf_tree (T : Tx K mg) {k : Nat} (hk : 2 ≤ k) {r_law_leaf_tree : Int → (List Text) → Int → Int → Rs (PyData × Int)} {r_law_tree : Int → (List Text) → Int → Rs (PyData × Int)} (ih_law_leaf_tree : CallOk P w K mg base "_law_leaf_tree" k (spG (M4 PL.rI (rL K PL.rC) PL.rI PL.rI (rT2 K (rP K) PL.rI) r_law_leaf_tree))) (ih_law_tree : CallOk P w K mg base "_law_tree" k (spG (M3 PL.rI (rL K PL.rC) PL.rI (rT2 K (rP K) PL.rI) r_law_tree))) : CallOk P w K mg base "_law_leaf_tree" (k + 1) (spG (M4 PL.rI (rL K PL.rC) PL.rI PL.rI (rT2 K (rP K) PL.rI) (mF_law_leaf_tree r_law_leaf_tree r_law_tree))) := call_law_leaf_tree T fun f fd F =>
  fn_d F sc_law_leaf_tree (by rintro ss R ⟨_, _, _, _, _, rfl, _, rfl⟩; rfl) (by
    rintro cdv A outer s H E G ss R hr ⟨rest_1, pool_2, way_3, deep_4,  z, rfl, hm, rfl⟩
    have nd := sc_law_leaf_tree.nd
    unfold mF_law_leaf_tree at hm
    refine gm_run (D := fun z => retD G H (fun G v => ((rT2 K (rP K) PL.rI)).rd G v z)) ?_ hm
    refine gm_if (et_c (cm_eqI (ev_v 2) (ev_int))) ?_ ?_
    · refine gm_setM (r := PL.rI) 4 nd (em_ok (r := PL.rI) (ev_mod (ev_v 0) (ev_int) (by decide))) fun part_5 => ?_
      refine gm_asgM (r := (rT2 K (rP K) PL.rI)) (em_c3 ih_law_tree hr (ea_cons (ev_fdiv (ev_v 0) (ev_int) ⟨by decide, by decide⟩) (ea_cons (ev_v 1) (ea_cons (ev_sub (ev_v 3) (ev_int)) ea_nil)))) fun p_7 => ⟨_, eg_tup2 rfl (eg_name 5 nd) (eg_name 0 nd), ?_⟩
      exact gm_ret (r := (rT2 K (rP K) PL.rI)) (ev_tup2 (ea_cons (ev_p (f := PyData.tuple) tp_TP (ev_tupL (r := (rP K)) (xs := [(PyData.str (mkS (tx "in"))), (PyData.int part_5), p_7.1]) (ea_cons (ev_p (f := fun (yy : Text) => (PyData.str (mkS yy))) tp_C (ev_txt)) (ea_cons (ev_p (f := fun (yy : Int) => (PyData.int yy)) tp_I (ev_v 4)) (ea_cons (ev_v 5) ea_nil))) (szl 3))) (ea_cons (ev_v 0) ea_nil)))
    · refine gm_on ?_
      refine gm_if (et_c (cm_eqI (ev_v 2) (ev_int))) ?_ ?_
      · refine gm_setM (r := PL.rI) 6 nd (em_ok (r := PL.rI) (ev_mod (ev_v 0) (ev_int) (by decide))) fun times_8 => ?_
        refine gm_asgM (r := (rT2 K (rP K) PL.rI)) (em_c3 ih_law_tree hr (ea_cons (ev_fdiv (ev_v 0) (ev_int) ⟨by decide, by decide⟩) (ea_cons (ev_v 1) (ea_cons (ev_sub (ev_v 3) (ev_int)) ea_nil)))) fun p_10 => ⟨_, eg_tup2 rfl (eg_name 5 nd) (eg_name 0 nd), ?_⟩
        exact gm_ret (r := (rT2 K (rP K) PL.rI)) (ev_tup2 (ea_cons (ev_p (f := PyData.tuple) tp_TP (ev_tupL (r := (rP K)) (xs := [(PyData.str (mkS (tx "by"))), (PyData.int times_8), p_10.1]) (ea_cons (ev_p (f := fun (yy : Text) => (PyData.str (mkS yy))) tp_C (ev_txt)) (ea_cons (ev_p (f := fun (yy : Int) => (PyData.int yy)) tp_I (ev_v 6)) (ea_cons (ev_v 5) ea_nil))) (szl 3))) (ea_cons (ev_v 0) ea_nil)))
      · refine gm_on ?_
        exact gm_ret (r := (rT2 K (rP K) PL.rI)) (ev_tup2 (ea_cons (ev_p (f := PyData.tuple) tp_TP (ev_tupL (r := (rP K)) (xs := [(PyData.str (mkS (tx "never")))]) (ea_cons (ev_p (f := fun (yy : Text) => (PyData.str (mkS yy))) tp_C (ev_txt)) ea_nil) (szl 1))) (ea_cons (ev_v 0) ea_nil))))

noncomputable def mF_law_tree (r_law_leaf_tree : Int → (List Text) → Int → Int → Rs (PyData × Int)) (r_law_tree : Int → (List Text) → Int → Rs (PyData × Int)) (rest_1 : Int) (pool_2 : (List Text)) (deep_3 : Int) : Rs (PyData × Int) :=
 (Rs.ok (rest_1 % (11 : Int))).bd fun way_4 =>
 (Rs.ok (rest_1 / (11 : Int))).bd fun rest_5 =>
 if (decide (deep_3 = (0 : Int)) || decide (way_4 < (4 : Int))) = true then
 (m_law_leaf rest_5 pool_2).bd fun z_7 => Rs.ok z_7
 else if (isin way_4 [(4 : Int), (9 : Int), (10 : Int)]) = true then
 (r_law_leaf_tree rest_5 pool_2 way_4 deep_3).bd fun z_9 => Rs.ok z_9
 else (Rs.ok (2 : Int)).bd fun size_10 =>
 (if (decide (way_4 < (7 : Int))) = true then ((Rs.ok ((1 : Int) + (rest_5 % (3 : Int)))).bd fun size_12 =>
 (Rs.ok (rest_5 / (3 : Int))).bd fun rest_13 =>
 Rs.ok (rest_13, size_12) : Rs (Int × Int))
 else Rs.ok (rest_5, size_10)).bd fun s11 =>
 (rngR s11.2).bd fun xs_16 =>
 (foldR (S := (Int × (List PyData))) (fun (s17 : (Int × (List PyData))) (x18 : Int) => (r_law_tree s17.1 pool_2 (deep_3 - (1 : Int))).bd fun p_20 =>
 (appR s17.2 p_20.1).bd fun parts_21 =>
 Rs.ok (p_20.2, parts_21)) (s11.1, []) xs_16).bd fun s17 =>
 if (decide (way_4 < (7 : Int))) = true then
 ((ixR [tx "all", tx "any"] (way_4 - (5 : Int))).bd fun v_23 =>
 Rs.ok ((PyData.tuple [(PyData.str (mkS v_23)), (PyData.tuple s17.2)]), s17.1)).bd fun z_24 => Rs.ok z_24
 else ((ixR [tx "but", tx "also"] (way_4 - (7 : Int))).bd fun v_25 =>
 (ixR s17.2 (0 : Int)).bd fun v_26 =>
 (ixR s17.2 (1 : Int)).bd fun v_27 =>
 Rs.ok ((PyData.tuple [(PyData.str (mkS v_25)), v_26, v_27]), s17.1)).bd fun z_28 => Rs.ok z_28
theorem okF_law_tree (T : Tx K mg) {k : Nat} (hk : 2 ≤ k) {r_law_leaf_tree : Int → (List Text) → Int → Int → Rs (PyData × Int)} {r_law_tree : Int → (List Text) → Int → Rs (PyData × Int)} (ih_law_leaf_tree : CallOk P w K mg base "_law_leaf_tree" k (spG (M4 PL.rI (rL K PL.rC) PL.rI PL.rI (rT2 K (rP K) PL.rI) r_law_leaf_tree))) (ih_law_tree : CallOk P w K mg base "_law_tree" k (spG (M3 PL.rI (rL K PL.rC) PL.rI (rT2 K (rP K) PL.rI) r_law_tree))) : CallOk P w K mg base "_law_tree" (k + 1) (spG (M3 PL.rI (rL K PL.rC) PL.rI (rT2 K (rP K) PL.rI) (mF_law_tree r_law_leaf_tree r_law_tree))) := call_law_tree T fun f fd F =>
  fn_d F sc_law_tree (by rintro ss R ⟨_, _, _, _, rfl, _, rfl⟩; rfl) (by
    rintro cdv A outer s H E G ss R hr ⟨rest_1, pool_2, deep_3,  z, rfl, hm, rfl⟩
    have nd := sc_law_tree.nd
    unfold mF_law_tree at hm
    refine gm_run (D := fun z => retD G H (fun G v => ((rT2 K (rP K) PL.rI)).rd G v z)) ?_ hm
    refine gm_setM (r := PL.rI) 3 nd (em_ok (r := PL.rI) (ev_mod (ev_v 0) (ev_int) (by decide))) fun way_4 => ?_
    refine gm_setM (r := PL.rI) 0 nd (em_ok (r := PL.rI) (ev_fdiv (ev_v 0) (ev_int) ⟨by decide, by decide⟩)) fun rest_5 => ?_
    refine gm_if (ev_w (ew_or (et_c (cm_eqI (ev_v 2) (ev_int))) fun _ => ew_or1 (et_c (cm_lt (ev_v 3) (ev_int))))) ?_ ?_
    · exact gm_retM (r := (rT2 K (rP K) PL.rI)) (em_c2 (ok_law_leaf T) (hr.mono (Nat.le_trans (by decide) hk)) (ea_cons (ev_v 0) (ea_cons (ev_v 1) ea_nil)))
    · refine gm_on ?_
      refine gm_if (et_c (cm_inTI (ev_v 3) (ev_tupL (r := PL.rI) (ea_cons (ev_int) (ea_cons (ev_int) (ea_cons (ev_int) ea_nil))) (szl 3)))) ?_ ?_
      · exact gm_retM (r := (rT2 K (rP K) PL.rI)) (em_c4 ih_law_leaf_tree hr (ea_cons (ev_v 0) (ea_cons (ev_v 1) (ea_cons (ev_v 3) (ea_cons (ev_v 2) ea_nil)))))
      · refine gm_on ?_
        refine gm_setM (r := PL.rI) 4 nd (em_ok (r := PL.rI) (ev_int)) fun size_10 => ?_
        refine gm_ifJ (S := (Int × Int)) (fun (s11 : (Int × Int)) => ⟨⟨G, H, []⟩, [.val PL.rI s11.1, .val (rL K PL.rC) pool_2, .val PL.rI deep_3, .val PL.rI way_4, .val PL.rI s11.2, .any, .any, .any], []⟩) (et_c (cm_lt (ev_v 3) (ev_int))) ?_ ?_ (fun s11 => ?_)
        · refine gm_setM (r := PL.rI) 4 nd (em_ok (r := PL.rI) (ev_add (ev_int) (ev_mod (ev_v 0) (ev_int) (by decide)))) fun size_12 => ?_
          refine gm_setM (r := PL.rI) 0 nd (em_ok (r := PL.rI) (ev_fdiv (ev_v 0) (ev_int) ⟨by decide, by decide⟩)) fun rest_13 => ?_
          exact gm_to (rest_13, size_12) rfl (.same (.same (.same (.same (.same (.any (.any (.any (.nil))))))))) rfl
        · exact gm_to (rest_5, size_10) rfl (.same (.same (.same (.same (.same (.any (.any (.any (.nil))))))))) rfl
        refine gm_setF (r := (rP K)) 5 nd (ef_nil) fun o_14 => ?_
        refine gm_forM (S := (Int × (List PyData))) (fun (s17 : (Int × (List PyData))) => ⟨⟨G, H, []⟩, [.val PL.rI s17.1, .val (rL K PL.rC) pool_2, .val PL.rI deep_3, .val PL.rI way_4, .val PL.rI s11.2, .val rRef o_14, .any, .any], [.lst o_14 (rP K) s17.2]⟩) (s11.1, []) rfl PassesOwn.never (eim_range T.b_range (ea_cons (ev_v 4) ea_nil)) rfl (.same (.same (.same (.same (.same (.same (.any (.any (.nil))))))))) rfl (fun B18 x18 s17 => ⟨_, eg_name 6 nd, ?_⟩) (fun s17 => ?_)
        · refine gm_asgM (r := (rT2 K (rP K) PL.rI)) (em_c3 ih_law_tree hr (ea_cons (ev_v 0) (ea_cons (ev_v 1) (ea_cons (ev_sub (ev_v 2) (ev_int)) ea_nil)))) fun p_20 => ⟨_, eg_tup2 rfl (eg_name 7 nd) (eg_name 0 nd), ?_⟩
          refine gm_append 5 0 (r := (rP K)) (ev_v 7) rfl rfl fun parts_21 => ?_
          exact gm_next (p_20.2, parts_21) rfl (.same (.same (.same (.same (.same (.same (.any (.any (.nil))))))))) rfl
        refine gm_frz 5 0 rfl rfl ?_
        refine gm_if (et_c (cm_lt (ev_v 3) (ev_int))) ?_ ?_
        · exact gm_retM (r := (rT2 K (rP K) PL.rI)) (em_bd (em_ixL (ev_f (ef_txts)) (ev_sub (ev_v 3) (ev_int))) fun v_23 h23 =>
             em_ok (r := (rT2 K (rP K) PL.rI)) (ev_tup2 (ea_cons (ev_p (f := PyData.tuple) tp_TP (ev_tupL (r := (rP K)) (xs := [(PyData.str (mkS v_23)), (PyData.tuple s17.2)]) (ea_cons (ev_p (f := fun (yy : Text) => (PyData.str (mkS yy))) tp_C (h23)) (ea_cons (ev_p (f := fun (yy : (List PyData)) => (PyData.tuple yy)) tp_TP (ev_tupleL T.b_tuple (ea_cons (ev_v 5) ea_nil))) ea_nil)) (szl 2))) (ea_cons (ev_v 0) ea_nil))))
        · refine gm_on ?_
          exact gm_retM (r := (rT2 K (rP K) PL.rI)) (em_bd (em_ixL (ev_f (ef_txts)) (ev_sub (ev_v 3) (ev_int))) fun v_25 h25 =>
             em_bd (em_ixL (ev_v 5) (ev_int)) fun v_26 h26 =>
             em_bd (em_ixL (ev_v 5) (ev_int)) fun v_27 h27 =>
             em_ok (r := (rT2 K (rP K) PL.rI)) (ev_tup2 (ea_cons (ev_p (f := PyData.tuple) tp_TP (ev_tupL (r := (rP K)) (xs := [(PyData.str (mkS v_25)), v_26, v_27]) (ea_cons (ev_p (f := fun (yy : Text) => (PyData.str (mkS yy))) tp_C (h25)) (ea_cons (h26) (ea_cons (h27) ea_nil))) (szl 3))) (ea_cons (ev_v 0) ea_nil)))))

noncomputable def m_grp_law_leaf_tree : Nat → (Int → (List Text) → Int → Int → Rs (PyData × Int)) × (Int → (List Text) → Int → Rs (PyData × Int))
  | 0 => (fun _ _ _ _ => .no, fun _ _ _ => .no)
  | n + 1 => (mF_law_leaf_tree ((m_grp_law_leaf_tree n).1) ((m_grp_law_leaf_tree n).2), mF_law_tree ((m_grp_law_leaf_tree n).1) ((m_grp_law_leaf_tree n).2))
noncomputable def m_law_leaf_tree (n : Nat) : Int → (List Text) → Int → Int → Rs (PyData × Int) := (m_grp_law_leaf_tree n).1
noncomputable def m_law_tree (n : Nat) : Int → (List Text) → Int → Rs (PyData × Int) := (m_grp_law_leaf_tree n).2
theorem ok_grp_law_leaf_tree (T : Tx K mg) : ∀ n, (CallOk P w K mg base "_law_leaf_tree" (2 + n) (spG (M4 PL.rI (rL K PL.rC) PL.rI PL.rI (rT2 K (rP K) PL.rI) (m_law_leaf_tree n)))) ∧ (CallOk P w K mg base "_law_tree" (2 + n) (spG (M3 PL.rI (rL K PL.rC) PL.rI (rT2 K (rP K) PL.rI) (m_law_tree n))))
  | 0 => ⟨call_law_leaf_tree T fun f fd F => fn_0 (spG_0 (by rintro ss R ⟨_, _, _, _, _, rfl, q, _⟩; cases q)), call_law_tree T fun f fd F => fn_0 (spG_0 (by rintro ss R ⟨_, _, _, _, rfl, q, _⟩; cases q))⟩
  | n + 1 => let h := ok_grp_law_leaf_tree T n; ⟨okF_law_leaf_tree T (Nat.le_add_right _ _) (h.1) (h.2), okF_law_tree T (Nat.le_add_right _ _) (h.1) (h.2)⟩
theorem ok_law_tree (T : Tx K mg) (n : Nat) : CallOk P w K mg base "_law_tree" (2 + n) (spG (M3 PL.rI (rL K PL.rC) PL.rI (rT2 K (rP K) PL.rI) (m_law_tree n))) := (ok_grp_law_leaf_tree T n).2

abbrev KP := List (Text × Ask)
noncomputable def mF_law_made (r_law_new : PyData → KP → Rs (Ask × KP)) (t : PyData) (kp : KP) : Rs (Ask × KP) :=
 ((reprR t).bd fun x => Rs.ok (!(dget kp x).isSome)).bd fun k =>
 (if k = true then (r_law_new t kp).bd fun q => (reprR t).bd fun x => (putR q.2 x q.1).bd fun us => Rs.ok us else Rs.ok kp).bd fun kp' =>
 ((reprR t).bd fun x => dgetR kp' x).bd fun a => Rs.ok (a, kp')
theorem okF_law_made (T : Tx K mg) {k : Nat} (hk : 6 ≤ k) {r : PyData → KP → Rs (Ask × KP)} (ih : CallG P w K mg base "_law_new" k (spVD (rAsk K) (D2 (rP K) (rAsk K) r))) : CallG P w K mg base "_law_made" (k + 1) (spVD (rAsk K) (D2 (rP K) (rAsk K) (mF_law_made r))) := let ⟨fd, F⟩ := T.f_law_made; ⟨_, fd, _,
  fn_gvd F sc_law_made (by rintro ss xs ys R ⟨_, _, rfl, _, rfl⟩; rfl) (by
    rintro cdv A outer s H E G o ss kp ys R hr hgd ⟨t, z, rfl, hm, rfl⟩
    have nd := sc_law_made.nd
    unfold mF_law_made at hm
    refine gm_run (D := fun z => retBD G H o (rAsk K) z.2 (fun G v => (rAsk K).rd G v z.1)) (o := (z, ys)) ?_ hm
    refine gm_ifJM (S := KP) (fun u => ⟨⟨G, hid H o, []⟩, [.val (rP K) t, .val rRef o], [.dic o (rAsk K) u]⟩) (etm_bd (em_repr hr hgd T.b_repr (ev_v 0)) fun x hx => etm_ok (et_c (cm_notInDC 0 hr hx (ev_v 1) rfl))) (fun _ => ?_) (fun _ => ?_) (fun kp2 => ?_)
    · refine gm_putDVS (S := KP) (Zs := fun u => ⟨⟨G, hid H o, []⟩, [.val (rP K) t, .val rRef o], [.dic o (rAsk K) u]⟩) (cont := fun u => u) 0 hr (es_gvd (Zl := fun u => ⟨⟨G, hid H o, []⟩, [.val (rP K) t, .val rRef o], [.dic o (rAsk K) u]⟩) 1 0 kp ih hr hgd (ev_v 0) rfl rfl) (fun q => ev_v 1) (fun q => em_repr hr hgd T.b_repr (ev_v 0)) (fun _ => rfl) fun q us => ?_
      exact gm_to us rfl (.same (.same .nil)) rfl
    · exact gm_to kp rfl (.same (.same .nil)) rfl
    exact gm_retBDM (r := rAsk K) 0 (em_getDO 0 hr (ev_v 1) (em_repr hr hgd T.b_repr (ev_v 0)) rfl) rfl), T.g_law_made, F.kp, b_law_made F⟩
theorem cvA {K : PySem.W.Frag} {α : Type} {fs : α → List (Str × Slot)} {C : Addr} {x : α} (a : Ask) {G : Hp} {v : V} (q : (rObj C fs).rd G v x) (hC : C = askC K a := by rfl) (hf : fs x = askF K (rAsk K) a := by rfl) : (rAsk K).rd G v a := ask_mk (by
  subst hC
  obtain ⟨o, dx, vfs, h1, h2, h3, h4⟩ := q
  exact ⟨o, dx, vfs, h1, h2, h3, hf ▸ h4⟩)
noncomputable def mF_law_new (r : PyData → KP → Rs (Ask × KP)) (t : PyData) (kp : KP) : Rs (Ask × KP) :=
 ((ixP t (0 : Int)).bd fun v => (asC v).bd fun c => Rs.ok (decide (c = tx "word"))).bd fun k => if k = true then
 (((ixP t (1 : Int)).bd fun v => asC v).bd fun x0 => (m_OWord x0).bd fun w => Rs.ok (Ask.word w.word)).bd fun a => Rs.ok (a, kp)
 else ((ixP t (0 : Int)).bd fun v => (asC v).bd fun c => Rs.ok (decide (c = tx "begin"))).bd fun k => if k = true then
 (((ixP t (1 : Int)).bd fun v => asC v).bd fun x0 => (m_OBegin x0).bd fun w => Rs.ok (Ask.begin w.start)).bd fun a => Rs.ok (a, kp)
 else ((ixP t (0 : Int)).bd fun v => (asC v).bd fun c => Rs.ok (decide (c = tx "row"))).bd fun k => if k = true then
 (((ixP t (1 : Int)).bd fun v => (asTL asC) v).bd fun x0 => (m_ORow x0).bd fun w => Rs.ok (Ask.row w.row_words)).bd fun a => Rs.ok (a, kp)
 else ((ixP t (0 : Int)).bd fun v => (asC v).bd fun c => Rs.ok (decide (c = tx "near"))).bd fun k => if k = true then
 (((ixP t (1 : Int)).bd fun v => asI v).bd fun x0 => ((ixP t (2 : Int)).bd fun v => asC v).bd fun x1 => ((ixP t (3 : Int)).bd fun v => asC v).bd fun x2 => (m_ONear x0 x1 x2).bd fun w => Rs.ok (Ask.near w.far w.near_words.1 w.near_words.2)).bd fun a => Rs.ok (a, kp)
 else ((ixP t (0 : Int)).bd fun v => (asC v).bd fun c => Rs.ok (decide (c = tx "in"))).bd fun k => if k = true then
 ((((((ixP t (1 : Int)).bd fun v => asI v).bd fun x => Rs.ok (x, kp)).bd fun q0 => (((ixP t (2 : Int)).bd fun d => r d q0.2).bd fun q1 => (Rs.ok ((), q1.2)).bd fun y => Rs.ok ((q1.1, y.1), y.2)).bd fun y => Rs.ok ((q0.1, y.1), y.2)).bd fun y => (m_OIn y.1.1 y.1.2.1).bd fun z => Rs.ok (z, y.2)).bd fun q => Rs.ok (Ask.in_ q.1.part q.1.inner, q.2)).bd fun q => Rs.ok (q.1, q.2)
 else ((ixP t (0 : Int)).bd fun v => (asC v).bd fun c => Rs.ok (decide (c = tx "by"))).bd fun k => if k = true then
 ((((((ixP t (1 : Int)).bd fun v => asI v).bd fun x => Rs.ok (x, kp)).bd fun q0 => (((ixP t (2 : Int)).bd fun d => r d q0.2).bd fun q1 => (Rs.ok ((), q1.2)).bd fun y => Rs.ok ((q1.1, y.1), y.2)).bd fun y => Rs.ok ((q0.1, y.1), y.2)).bd fun y => (m_OBy y.1.1 y.1.2.1).bd fun z => Rs.ok (z, y.2)).bd fun q => Rs.ok (Ask.by_ q.1.times q.1.heavier, q.2)).bd fun q => Rs.ok (q.1, q.2)
 else ((ixP t (0 : Int)).bd fun v => (asC v).bd fun c => Rs.ok (decide (c = tx "never"))).bd fun k => if k = true then
 Rs.ok (Ask.never, kp)
 else ((ixP t (0 : Int)).bd fun v => (asC v).bd fun c => Rs.ok (decide (c = tx "all"))).bd fun k => if k = true then
 ((((((ixP t (1 : Int)).bd fun v => (asT v).bd fun xs => Rs.ok xs).bd fun xs => Rs.ok (xs, kp)).bd fun y => mapS (fun (u : KP) (x : PyData) => r x u) y.2 y.1).bd fun y => (m_OAll y.1).bd fun z => Rs.ok (z, y.2)).bd fun q => Rs.ok (Ask.all q.1.every, q.2)).bd fun q => Rs.ok (q.1, q.2)
 else ((ixP t (0 : Int)).bd fun v => (asC v).bd fun c => Rs.ok (decide (c = tx "any"))).bd fun k => if k = true then
 ((((((ixP t (1 : Int)).bd fun v => (asT v).bd fun xs => Rs.ok xs).bd fun xs => Rs.ok (xs, kp)).bd fun y => mapS (fun (u : KP) (x : PyData) => r x u) y.2 y.1).bd fun y => (m_OAny y.1).bd fun z => Rs.ok (z, y.2)).bd fun q => Rs.ok (Ask.any q.1.either, q.2)).bd fun q => Rs.ok (q.1, q.2)
 else ((ixP t (0 : Int)).bd fun v => (asC v).bd fun c => Rs.ok (decide (c = tx "but"))).bd fun k => if k = true then
 (((((ixP t (1 : Int)).bd fun d => r d kp).bd fun q0 => (((ixP t (2 : Int)).bd fun d => r d q0.2).bd fun q1 => (Rs.ok ((), q1.2)).bd fun y => Rs.ok ((q1.1, y.1), y.2)).bd fun y => Rs.ok ((q0.1, y.1), y.2)).bd fun y => (m_OBut y.1.1 y.1.2.1).bd fun z => Rs.ok (z, y.2)).bd fun q => Rs.ok (Ask.but q.1.wanted q.1.unwanted, q.2)).bd fun q => Rs.ok (q.1, q.2)
 else (((((ixP t (1 : Int)).bd fun d => r d kp).bd fun q0 => (((ixP t (2 : Int)).bd fun d => r d q0.2).bd fun q1 => (Rs.ok ((), q1.2)).bd fun y => Rs.ok ((q1.1, y.1), y.2)).bd fun y => Rs.ok ((q0.1, y.1), y.2)).bd fun y => (m_OAlso y.1.1 y.1.2.1).bd fun z => Rs.ok (z, y.2)).bd fun q => Rs.ok (Ask.also q.1.needed q.1.helping, q.2)).bd fun q => Rs.ok (q.1, q.2)
theorem okF_law_new (T : Tx K mg) {k : Nat} (hk : 6 ≤ k) {r : PyData → KP → Rs (Ask × KP)} (ih : CallG P w K mg base "_law_made" k (spVD (rAsk K) (D2 (rP K) (rAsk K) r))) : CallG P w K mg base "_law_new" (k + 1) (spVD (rAsk K) (D2 (rP K) (rAsk K) (mF_law_new r))) := let ⟨fd, F⟩ := T.f_law_new; ⟨_, fd, _,
  fn_gvd F sc_law_new (by rintro ss xs ys R ⟨_, _, rfl, _, rfl⟩; rfl) (by
    rintro cdv A outer s H E G o ss kp ys R hr hgd ⟨t, z, rfl, hm, rfl⟩
    have nd := sc_law_new.nd
    unfold mF_law_new at hm
    refine gm_run (D := fun z => retBD G H o (rAsk K) z.2 (fun G v => (rAsk K).rd G v z.1)) (o := (z, ys)) ?_ hm
    refine gm_ifM (etm_bd (em_ixP (ev_v 0) (ev_int)) fun v hv => etm_bd (em_as cst_C hv) fun c hc => etm_ok (et_c (cm_eqC hc (ev_txt)))) (fun k => ?_) (fun k => ?_)
    · exact gm_retBDM (r := rAsk K) 0 (em_bd (em_bd (em_ixP (ev_v 0) (ev_int)) fun v hv => em_as cst_C hv) fun x0 h0 => em_bd (em_k1 (mk_OWord T) (hr.mono (Nat.le_trans (by decide) hk)) (ea_cons (h0) ea_nil)) fun w hw => em_ok (r := (rAsk K)) (ev_A (Ask.word w.word) hw)) rfl
    · refine gm_on ?_
      refine gm_ifM (etm_bd (em_ixP (ev_v 0) (ev_int)) fun v hv => etm_bd (em_as cst_C hv) fun c hc => etm_ok (et_c (cm_eqC hc (ev_txt)))) (fun k => ?_) (fun k => ?_)
      · exact gm_retBDM (r := rAsk K) 0 (em_bd (em_bd (em_ixP (ev_v 0) (ev_int)) fun v hv => em_as cst_C hv) fun x0 h0 => em_bd (em_k1 (mk_OBegin T) (hr.mono (Nat.le_trans (by decide) hk)) (ea_cons (h0) ea_nil)) fun w hw => em_ok (r := (rAsk K)) (ev_A (Ask.begin w.start) hw)) rfl
      · refine gm_on ?_
        refine gm_ifM (etm_bd (em_ixP (ev_v 0) (ev_int)) fun v hv => etm_bd (em_as cst_C hv) fun c hc => etm_ok (et_c (cm_eqC hc (ev_txt)))) (fun k => ?_) (fun k => ?_)
        · exact gm_retBDM (r := rAsk K) 0 (em_bd (em_bd (em_ixP (ev_v 0) (ev_int)) fun v hv => em_as (cst_TL cst_C) hv) fun x0 h0 => em_bd (em_k1 (mk_ORow T) (hr.mono (Nat.le_trans (by decide) hk)) (ea_cons (ev_f (ef_listT T.b_list (ea_cons h0 ea_nil))) ea_nil)) fun w hw => em_ok (r := (rAsk K)) (ev_A (Ask.row w.row_words) hw)) rfl
        · refine gm_on ?_
          refine gm_ifM (etm_bd (em_ixP (ev_v 0) (ev_int)) fun v hv => etm_bd (em_as cst_C hv) fun c hc => etm_ok (et_c (cm_eqC hc (ev_txt)))) (fun k => ?_) (fun k => ?_)
          · exact gm_retBDM (r := rAsk K) 0 (em_bd (em_bd (em_ixP (ev_v 0) (ev_int)) fun v hv => em_as cst_I hv) fun x0 h0 => em_bd (em_bd (em_ixP (ev_v 0) (ev_int)) fun v hv => em_as cst_C hv) fun x1 h1 => em_bd (em_bd (em_ixP (ev_v 0) (ev_int)) fun v hv => em_as cst_C hv) fun x2 h2 => em_bd (em_k3 (mk_ONear T) (hr.mono (Nat.le_trans (by decide) hk)) (ea_cons (h0) (ea_cons (h1) (ea_cons (h2) ea_nil)))) fun w hw => em_ok (r := (rAsk K)) (ev_A (Ask.near w.far w.near_words.1 w.near_words.2) hw)) rfl
          · refine gm_on ?_
            refine gm_ifM (etm_bd (em_ixP (ev_v 0) (ev_int)) fun v hv => etm_bd (em_as cst_C hv) fun c hc => etm_ok (et_c (cm_eqC hc (ev_txt)))) (fun k => ?_) (fun k => ?_)
            · exact gm_retBDS (Zs := (fun u : KP => ⟨⟨G, hid H o, []⟩, [.val (rP K) t, .val rRef o, .any], [.dic o (rAsk K) u]⟩)) (cont := fun u => u) 0 (es_cov (s := rAsk K) (f := fun w : OIn => Ask.in_ w.part w.inner) (es_mkS (g := fun y => m_OIn y.1 y.2.1) (mk_OIn T) (hr.mono (Nat.le_trans (by decide) hk)) (eas_cons (r := PL.rI) (es_m (Zs := (fun u : KP => ⟨⟨G, hid H o, []⟩, [.val (rP K) t, .val rRef o, .any], [.dic o (rAsk K) u]⟩)) kp (em_bd (em_ixP (ev_v 0) (ev_int)) fun v hv => em_as cst_I hv)) (fun q0 => eas_cons (r := rAsk K) (es_bd (em_ixP (ev_v 0) (ev_int)) fun d hd => es_gvd (Zl := (fun u : KP => ⟨⟨G, hid H o, []⟩, [.val (rP K) t, .val rRef o, .any], [.dic o (rAsk K) u]⟩)) 1 0 q0.2 ih hr hgd hd rfl rfl) (fun q1 => eas_nil (Zs := (fun u : KP => ⟨⟨G, hid H o, []⟩, [.val (rP K) t, .val rRef o, .any], [.dic o (rAsk K) u]⟩)) q1.2))) (fun y z gz => ⟨y.1, y.2.1, z, rfl, gz, rfl⟩)) fun G v w h => cvA (Ask.in_ w.part w.inner) h) (fun _ => rfl)
            · refine gm_on ?_
              refine gm_ifM (etm_bd (em_ixP (ev_v 0) (ev_int)) fun v hv => etm_bd (em_as cst_C hv) fun c hc => etm_ok (et_c (cm_eqC hc (ev_txt)))) (fun k => ?_) (fun k => ?_)
              · exact gm_retBDS (Zs := (fun u : KP => ⟨⟨G, hid H o, []⟩, [.val (rP K) t, .val rRef o, .any], [.dic o (rAsk K) u]⟩)) (cont := fun u => u) 0 (es_cov (s := rAsk K) (f := fun w : OBy => Ask.by_ w.times w.heavier) (es_mkS (g := fun y => m_OBy y.1 y.2.1) (mk_OBy T) (hr.mono (Nat.le_trans (by decide) hk)) (eas_cons (r := PL.rI) (es_m (Zs := (fun u : KP => ⟨⟨G, hid H o, []⟩, [.val (rP K) t, .val rRef o, .any], [.dic o (rAsk K) u]⟩)) kp (em_bd (em_ixP (ev_v 0) (ev_int)) fun v hv => em_as cst_I hv)) (fun q0 => eas_cons (r := rAsk K) (es_bd (em_ixP (ev_v 0) (ev_int)) fun d hd => es_gvd (Zl := (fun u : KP => ⟨⟨G, hid H o, []⟩, [.val (rP K) t, .val rRef o, .any], [.dic o (rAsk K) u]⟩)) 1 0 q0.2 ih hr hgd hd rfl rfl) (fun q1 => eas_nil (Zs := (fun u : KP => ⟨⟨G, hid H o, []⟩, [.val (rP K) t, .val rRef o, .any], [.dic o (rAsk K) u]⟩)) q1.2))) (fun y z gz => ⟨y.1, y.2.1, z, rfl, gz, rfl⟩)) fun G v w h => cvA (Ask.by_ w.times w.heavier) h) (fun _ => rfl)
              · refine gm_on ?_
                refine gm_ifM (etm_bd (em_ixP (ev_v 0) (ev_int)) fun v hv => etm_bd (em_as cst_C hv) fun c hc => etm_ok (et_c (cm_eqC hc (ev_txt)))) (fun k => ?_) (fun k => ?_)
                · exact gm_retBD (r := rAsk K) 0 (ev_A Ask.never (ev_mk0 (α := Unit) (fs := fun _ => []) (y := ()) T.z_Never T.g_Never rfl)) rfl
                · refine gm_on ?_
                  refine gm_ifM (etm_bd (em_ixP (ev_v 0) (ev_int)) fun v hv => etm_bd (em_as cst_C hv) fun c hc => etm_ok (et_c (cm_eqC hc (ev_txt)))) (fun k => ?_) (fun k => ?_)
                  · exact gm_retBDS (Zs := (fun u : KP => ⟨⟨G, hid H o, []⟩, [.val (rP K) t, .val rRef o, .any], [.dic o (rAsk K) u]⟩)) (cont := fun u => u) 0 (es_cov (s := rAsk K) (f := fun w : OAll => Ask.all w.every) (es_mk1S (mk_OAll T) (hr.mono (Nat.le_trans (by decide) hk)) (es_f (r := rAsk K) (fun _ => rfl) (efs_lc (s := rAsk K) (own := [("_law_part", 2)]) rfl nd (lcs_1 (Zs := (fun u : KP => ⟨⟨G, hid H o, []⟩, [.val (rP K) t, .val rRef o, .any], [.dic o (rAsk K) u]⟩)) (eis_m (Zs := (fun u : KP => ⟨⟨G, hid H o, []⟩, [.val (rP K) t, .val rRef o, .any], [.dic o (rAsk K) u]⟩)) kp (eim_bd (em_ixP (ev_v 0) (ev_int)) fun v hv => eim_bd (em_as cst_T hv) fun xs hxs => eim_ok (ei_tup hxs))) (fun _ => rfl) (fun _ _ => rfl) (fun B1 x1 t1 l1 ac1 => ⟨_, (fun u : KP => ⟨⟨G, hid H o, [B1]⟩, [.val (rP K) t, .val rRef o, .val (rP K) x1], [.dic o (rAsk K) u, .lst l1 (rAsk K) ac1]⟩), fun _ _ _ _ _ => egb_name 2 nd, fun _ _ _ _ _ => es_gvd (Zl := (fun u : KP => ⟨⟨G, hid H o, [B1]⟩, [.val (rP K) t, .val rRef o, .val (rP K) x1], [.dic o (rAsk K) u, .lst l1 (rAsk K) ac1]⟩)) 1 0 t1 ih hr hgd (ev_v 2) rfl rfl, fun _ => ⟨rfl, rfl⟩⟩))))) fun G v w h => cvA (Ask.all w.every) h) (fun _ => rfl)
                  · refine gm_on ?_
                    refine gm_ifM (etm_bd (em_ixP (ev_v 0) (ev_int)) fun v hv => etm_bd (em_as cst_C hv) fun c hc => etm_ok (et_c (cm_eqC hc (ev_txt)))) (fun k => ?_) (fun k => ?_)
                    · exact gm_retBDS (Zs := (fun u : KP => ⟨⟨G, hid H o, []⟩, [.val (rP K) t, .val rRef o, .any], [.dic o (rAsk K) u]⟩)) (cont := fun u => u) 0 (es_cov (s := rAsk K) (f := fun w : OAny => Ask.any w.either) (es_mk1S (mk_OAny T) (hr.mono (Nat.le_trans (by decide) hk)) (es_f (r := rAsk K) (fun _ => rfl) (efs_lc (s := rAsk K) (own := [("_law_part", 2)]) rfl nd (lcs_1 (Zs := (fun u : KP => ⟨⟨G, hid H o, []⟩, [.val (rP K) t, .val rRef o, .any], [.dic o (rAsk K) u]⟩)) (eis_m (Zs := (fun u : KP => ⟨⟨G, hid H o, []⟩, [.val (rP K) t, .val rRef o, .any], [.dic o (rAsk K) u]⟩)) kp (eim_bd (em_ixP (ev_v 0) (ev_int)) fun v hv => eim_bd (em_as cst_T hv) fun xs hxs => eim_ok (ei_tup hxs))) (fun _ => rfl) (fun _ _ => rfl) (fun B1 x1 t1 l1 ac1 => ⟨_, (fun u : KP => ⟨⟨G, hid H o, [B1]⟩, [.val (rP K) t, .val rRef o, .val (rP K) x1], [.dic o (rAsk K) u, .lst l1 (rAsk K) ac1]⟩), fun _ _ _ _ _ => egb_name 2 nd, fun _ _ _ _ _ => es_gvd (Zl := (fun u : KP => ⟨⟨G, hid H o, [B1]⟩, [.val (rP K) t, .val rRef o, .val (rP K) x1], [.dic o (rAsk K) u, .lst l1 (rAsk K) ac1]⟩)) 1 0 t1 ih hr hgd (ev_v 2) rfl rfl, fun _ => ⟨rfl, rfl⟩⟩))))) fun G v w h => cvA (Ask.any w.either) h) (fun _ => rfl)
                    · refine gm_on ?_
                      refine gm_ifM (etm_bd (em_ixP (ev_v 0) (ev_int)) fun v hv => etm_bd (em_as cst_C hv) fun c hc => etm_ok (et_c (cm_eqC hc (ev_txt)))) (fun k => ?_) (fun k => ?_)
                      · exact gm_retBDS (Zs := (fun u : KP => ⟨⟨G, hid H o, []⟩, [.val (rP K) t, .val rRef o, .any], [.dic o (rAsk K) u]⟩)) (cont := fun u => u) 0 (es_cov (s := rAsk K) (f := fun w : OBut => Ask.but w.wanted w.unwanted) (es_mkS (g := fun y => m_OBut y.1 y.2.1) (mk_OBut T) (hr.mono (Nat.le_trans (by decide) hk)) (eas_cons (r := rAsk K) (es_bd (em_ixP (ev_v 0) (ev_int)) fun d hd => es_gvd (Zl := (fun u : KP => ⟨⟨G, hid H o, []⟩, [.val (rP K) t, .val rRef o, .any], [.dic o (rAsk K) u]⟩)) 1 0 kp ih hr hgd hd rfl rfl) (fun q0 => eas_cons (r := rAsk K) (es_bd (em_ixP (ev_v 0) (ev_int)) fun d hd => es_gvd (Zl := (fun u : KP => ⟨⟨G, hid H o, []⟩, [.val (rP K) t, .val rRef o, .any], [.dic o (rAsk K) u]⟩)) 1 0 q0.2 ih hr hgd hd rfl rfl) (fun q1 => eas_nil (Zs := (fun u : KP => ⟨⟨G, hid H o, []⟩, [.val (rP K) t, .val rRef o, .any], [.dic o (rAsk K) u]⟩)) q1.2))) (fun y z gz => ⟨y.1, y.2.1, z, rfl, gz, rfl⟩)) fun G v w h => cvA (Ask.but w.wanted w.unwanted) h) (fun _ => rfl)
                      · refine gm_on ?_
                        exact gm_retBDS (Zs := (fun u : KP => ⟨⟨G, hid H o, []⟩, [.val (rP K) t, .val rRef o, .any], [.dic o (rAsk K) u]⟩)) (cont := fun u => u) 0 (es_cov (s := rAsk K) (f := fun w : OAlso => Ask.also w.needed w.helping) (es_mkS (g := fun y => m_OAlso y.1 y.2.1) (mk_OAlso T) (hr.mono (Nat.le_trans (by decide) hk)) (eas_cons (r := rAsk K) (es_bd (em_ixP (ev_v 0) (ev_int)) fun d hd => es_gvd (Zl := (fun u : KP => ⟨⟨G, hid H o, []⟩, [.val (rP K) t, .val rRef o, .any], [.dic o (rAsk K) u]⟩)) 1 0 kp ih hr hgd hd rfl rfl) (fun q0 => eas_cons (r := rAsk K) (es_bd (em_ixP (ev_v 0) (ev_int)) fun d hd => es_gvd (Zl := (fun u : KP => ⟨⟨G, hid H o, []⟩, [.val (rP K) t, .val rRef o, .any], [.dic o (rAsk K) u]⟩)) 1 0 q0.2 ih hr hgd hd rfl rfl) (fun q1 => eas_nil (Zs := (fun u : KP => ⟨⟨G, hid H o, []⟩, [.val (rP K) t, .val rRef o, .any], [.dic o (rAsk K) u]⟩)) q1.2))) (fun y z gz => ⟨y.1, y.2.1, z, rfl, gz, rfl⟩)) fun G v w h => cvA (Ask.also w.needed w.helping) h) (fun _ => rfl)), T.g_law_new, F.kp, b_law_new F⟩
noncomputable def mm_law : Nat → (PyData → KP → Rs (Ask × KP)) × (PyData → KP → Rs (Ask × KP))
  | 0 => (fun _ _ => .no, fun _ _ => .no)
  | n + 1 => (mF_law_made (mm_law n).2, mF_law_new (mm_law n).1)
noncomputable def m_law_made (n : Nat) : PyData → KP → Rs (Ask × KP) := (mm_law n).1
theorem ok_mm (T : Tx K mg) : ∀ n, CallG P w K mg base "_law_made" (6 + n) (spVD (rAsk K) (D2 (rP K) (rAsk K) (mm_law n).1)) ∧ CallG P w K mg base "_law_new" (6 + n) (spVD (rAsk K) (D2 (rP K) (rAsk K) (mm_law n).2))
  | 0 => ⟨let ⟨fd, F⟩ := T.f_law_made; ⟨_, fd, _, fn_g0 spVD_0, T.g_law_made, F.kp, b_law_made F⟩, let ⟨fd, F⟩ := T.f_law_new; ⟨_, fd, _, fn_g0 spVD_0, T.g_law_new, F.kp, b_law_new F⟩⟩
  | n + 1 => let h := ok_mm T n; ⟨okF_law_made T (Nat.le_add_right _ _) h.2, okF_law_new T (Nat.le_add_right _ _) h.1⟩
theorem ok_law_made (T : Tx K mg) (n : Nat) : CallG P w K mg base "_law_made" (6 + n) (spVD (rAsk K) (D2 (rP K) (rAsk K) (m_law_made n))) := (ok_mm T n).1

noncomputable def mF_law_leaves (r_law_leaves : PyData → (List Int) → (List Int) → Rs (List ((List Int) × (List Int)))) (tree_here_1 : PyData) (path_2 : (List Int)) (parts_3 : (List Int)) : Rs (List ((List Int) × (List Int))) :=
 ((ixP tree_here_1 (0 : Int)).bd fun v_4 =>
 (asC v_4).bd fun c_5 =>
 Rs.ok (isin c_5 [tx "word", tx "begin", tx "row", tx "near"])).bd fun k_6 =>
 if k_6 = true then
 Rs.ok [(path_2, parts_3)]
 else ((ixP tree_here_1 (0 : Int)).bd fun v_7 =>
 (asC v_7).bd fun c_8 =>
 Rs.ok (decide (c_8 = tx "never"))).bd fun k_9 =>
 if k_9 = true then
 Rs.ok []
 else ((ixP tree_here_1 (0 : Int)).bd fun v_10 =>
 (asC v_10).bd fun c_11 =>
 Rs.ok (decide (c_11 = tx "in"))).bd fun k_12 =>
 if k_12 = true then
 ((ixP tree_here_1 (2 : Int)).bd fun v_13 =>
 (catR path_2 [(0 : Int)]).bd fun v_14 =>
 (lcR (fun (x15 : Int) => (ixP tree_here_1 (1 : Int)).bd fun v_16 =>
 (asI v_16).bd fun c_17 =>
 Rs.ok (decide (x15 = c_17))) (fun (x15 : Int) => Rs.ok x15) parts_3).bd fun v_18 =>
 r_law_leaves v_13 v_14 v_18).bd fun z_20 => Rs.ok z_20
 else ((ixP tree_here_1 (0 : Int)).bd fun v_21 =>
 (asC v_21).bd fun c_22 =>
 Rs.ok (decide (c_22 = tx "by"))).bd fun k_23 =>
 if k_23 = true then
 ((ixP tree_here_1 (2 : Int)).bd fun v_24 =>
 (catR path_2 [(0 : Int)]).bd fun v_25 =>
 r_law_leaves v_24 v_25 parts_3).bd fun z_27 => Rs.ok z_27
 else ((asT tree_here_1).bd fun c_28 =>
 Rs.ok (cut c_28 (some (1 : Int)) (none))).bd fun inner_29 =>
 ((ixP tree_here_1 (0 : Int)).bd fun v_30 =>
 (asC v_30).bd fun c_31 =>
 Rs.ok (isin c_31 [tx "all", tx "any"])).bd fun k_32 =>
 (if k_32 = true then (((ixP tree_here_1 (1 : Int)).bd fun v_34 =>
 (asT v_34).bd fun c_35 =>
 Rs.ok c_35).bd fun inner_36 =>
 Rs.ok inner_36 : Rs (List PyData))
 else Rs.ok inner_29).bd fun s33 =>
 (Rs.ok []).bd fun found_37 =>
 (rngR (s33.length : Int)).bd fun xs_38 =>
 (foldR (S := (List ((List Int) × (List Int)))) (fun (s39 : (List ((List Int) × (List Int)))) (x40 : Int) => ((ixR s33 x40).bd fun v_41 =>
 (catR path_2 [x40]).bd fun v_42 =>
 (r_law_leaves v_41 v_42 parts_3).bd fun v_43 =>
 catR s39 v_43).bd fun found_45 =>
 Rs.ok found_45) found_37 xs_38).bd fun s39 =>
 Rs.ok s39
theorem okF_law_leaves (T : Tx K mg) {k : Nat} (hk : 0 ≤ k) {r_law_leaves : PyData → (List Int) → (List Int) → Rs (List ((List Int) × (List Int)))} (ih_law_leaves : CallOk P w K mg base "_law_leaves" k (spG (M3 (rP K) (rTL K PL.rI) (rTL K PL.rI) (rL K (rT2 K (rTL K PL.rI) (rTL K PL.rI))) r_law_leaves))) : CallOk P w K mg base "_law_leaves" (k + 1) (spG (M3 (rP K) (rTL K PL.rI) (rTL K PL.rI) (rL K (rT2 K (rTL K PL.rI) (rTL K PL.rI))) (mF_law_leaves r_law_leaves))) := call_law_leaves T fun f fd F =>
  fn_d F sc_law_leaves (by rintro ss R ⟨_, _, _, _, rfl, _, rfl⟩; rfl) (by
    rintro cdv A outer s H E G ss R hr ⟨tree_here_1, path_2, parts_3,  z, rfl, hm, rfl⟩
    have nd := sc_law_leaves.nd
    unfold mF_law_leaves at hm
    refine gm_run (D := fun z => retD G H (fun G v => ((rL K (rT2 K (rTL K PL.rI) (rTL K PL.rI)))).rd G v z)) ?_ hm
    refine gm_ifM (etm_bd (em_ixP (ev_v 0) (ev_int)) fun v_4 h4 =>
       etm_bd (em_as cst_C (h4)) fun c_5 h5 =>
       etm_ok (et_c (cm_inTC (h5) (ev_tupL (r := PL.rC) (ea_cons (ev_txt) (ea_cons (ev_txt) (ea_cons (ev_txt) (ea_cons (ev_txt) ea_nil)))) (szl 4))))) (fun k_6 => ?_) (fun k_6 => ?_)
    · exact gm_ret (r := (rL K (rT2 K (rTL K PL.rI) (rTL K PL.rI)))) (ev_f (ef_lst (r := (rT2 K (rTL K PL.rI) (rTL K PL.rI))) (xs := [(path_2, parts_3)]) (ea_cons (ev_tup2 (ea_cons (ev_v 1) (ea_cons (ev_v 2) ea_nil))) ea_nil) (szl 1)))
    · refine gm_on ?_
      refine gm_ifM (etm_bd (em_ixP (ev_v 0) (ev_int)) fun v_7 h7 =>
         etm_bd (em_as cst_C (h7)) fun c_8 h8 =>
         etm_ok (et_c (cm_eqC (h8) (ev_txt)))) (fun k_9 => ?_) (fun k_9 => ?_)
      · exact gm_ret (r := (rL K (rT2 K (rTL K PL.rI) (rTL K PL.rI)))) (ev_f (ef_nil))
      · refine gm_on ?_
        refine gm_ifM (etm_bd (em_ixP (ev_v 0) (ev_int)) fun v_10 h10 =>
           etm_bd (em_as cst_C (h10)) fun c_11 h11 =>
           etm_ok (et_c (cm_eqC (h11) (ev_txt)))) (fun k_12 => ?_) (fun k_12 => ?_)
        · exact gm_retM (r := (rL K (rT2 K (rTL K PL.rI) (rTL K PL.rI)))) (em_bd (em_ixP (ev_v 0) (ev_int)) fun v_13 h13 =>
             em_bd (em_catT (r := PL.rI) (ev_v 1) (ev_tupL (r := PL.rI) (ea_cons (ev_int) ea_nil) (szl 1))) fun v_14 h14 =>
             em_bd (em_f (efm_lc (s := PL.rI) (own := [("_law_part", 6)]) rfl nd (lcr_2 (r := PL.rI) (ei_tup (ev_v 2)) fun B x15 => ⟨_, fun _ _ _ _ _ => egb_name 6 nd, fun _ _ _ _ _ => etm_bd (em_ixP (ev_v 0) (ev_int)) fun v_16 h16 =>
             etm_bd (em_as cst_I (h16)) fun c_17 h17 =>
             etm_ok (et_c (cm_eqI (ev_v 6) (h17))), fun _ _ _ _ _ => em_ok (r := PL.rI) (ev_v 6)⟩))) fun v_18 h18 =>
             em_c3 ih_law_leaves hr (ea_cons (h13) (ea_cons (h14) (ea_cons (ev_tupleL T.b_tuple (ea_cons (h18) ea_nil)) ea_nil))))
        · refine gm_on ?_
          refine gm_ifM (etm_bd (em_ixP (ev_v 0) (ev_int)) fun v_21 h21 =>
             etm_bd (em_as cst_C (h21)) fun c_22 h22 =>
             etm_ok (et_c (cm_eqC (h22) (ev_txt)))) (fun k_23 => ?_) (fun k_23 => ?_)
          · exact gm_retM (r := (rL K (rT2 K (rTL K PL.rI) (rTL K PL.rI)))) (em_bd (em_ixP (ev_v 0) (ev_int)) fun v_24 h24 =>
               em_bd (em_catT (r := PL.rI) (ev_v 1) (ev_tupL (r := PL.rI) (ea_cons (ev_int) ea_nil) (szl 1))) fun v_25 h25 =>
               em_c3 ih_law_leaves hr (ea_cons (h24) (ea_cons (h25) (ea_cons (ev_v 2) ea_nil))))
          · refine gm_on ?_
            refine gm_setM (r := (rL K (rP K))) 3 nd (em_bd (em_as cst_T (ev_v 0)) fun c_28 h28 =>
               em_ok (r := (rL K (rP K))) (ev_f (ef_listT T.b_list (ea_cons (ev_cutT (i := some (1 : Int)) (j := none) (h28) (eo_some (ev_int)) (eo_none)) ea_nil)))) fun inner_29 => ?_
            refine gm_ifJM (S := (List PyData)) (fun (s33 : (List PyData)) => ⟨⟨G, H, []⟩, [.val (rP K) tree_here_1, .val (rTL K PL.rI) path_2, .val (rTL K PL.rI) parts_3, .val (rL K (rP K)) s33, .any, .any, .any], []⟩) (etm_bd (em_ixP (ev_v 0) (ev_int)) fun v_30 h30 =>
               etm_bd (em_as cst_C (h30)) fun c_31 h31 =>
               etm_ok (et_c (cm_inTC (h31) (ev_tupL (r := PL.rC) (ea_cons (ev_txt) (ea_cons (ev_txt) ea_nil)) (szl 2))))) (fun k_32 => ?_) (fun k_32 => ?_) (fun s33 => ?_)
            · refine gm_setM (r := (rL K (rP K))) 3 nd (em_bd (em_ixP (ev_v 0) (ev_int)) fun v_34 h34 =>
                 em_bd (em_as cst_T (h34)) fun c_35 h35 =>
                 em_ok (r := (rL K (rP K))) (ev_f (ef_listT T.b_list (ea_cons (h35) ea_nil)))) fun inner_36 => ?_
              exact gm_to inner_36 rfl (.same (.same (.same (.same (.any (.any (.any (.nil)))))))) rfl
            · exact gm_to inner_29 rfl (.same (.same (.same (.same (.any (.any (.any (.nil)))))))) rfl
            refine gm_setM (r := (rL K (rT2 K (rTL K PL.rI) (rTL K PL.rI)))) 4 nd (em_ok (r := (rL K (rT2 K (rTL K PL.rI) (rTL K PL.rI)))) (ev_f (ef_nil))) fun found_37 => ?_
            refine gm_forM (S := (List ((List Int) × (List Int)))) (fun (s39 : (List ((List Int) × (List Int)))) => ⟨⟨G, H, []⟩, [.val (rP K) tree_here_1, .val (rTL K PL.rI) path_2, .val (rTL K PL.rI) parts_3, .val (rL K (rP K)) s33, .val (rL K (rT2 K (rTL K PL.rI) (rTL K PL.rI))) s39, .any, .any], []⟩) found_37 rfl PassesOwn.never (eim_range T.b_range (ea_cons (ev_len (K' := K) T.b_len (ea_cons (ev_v 3) ea_nil)) ea_nil)) rfl (.same (.same (.same (.same (.same (.any (.any (.nil)))))))) rfl (fun B40 x40 s39 => ⟨_, eg_name 5 nd, ?_⟩) (fun s39 => ?_)
            · refine gm_setM (r := (rL K (rT2 K (rTL K PL.rI) (rTL K PL.rI)))) 4 nd (em_bd (em_ixL (ev_v 3) (ev_v 5)) fun v_41 h41 =>
                 em_bd (em_catT (r := PL.rI) (ev_v 1) (ev_tupL (r := PL.rI) (ea_cons (ev_v 5) ea_nil) (szl 1))) fun v_42 h42 =>
                 em_bd (em_c3 ih_law_leaves hr (ea_cons (h41) (ea_cons (h42) (ea_cons (ev_v 2) ea_nil)))) fun v_43 h43 =>
                 em_f (efm_cat (r := (rT2 K (rTL K PL.rI) (rTL K PL.rI))) (ev_v 4) (h43))) fun found_45 => ?_
              exact gm_next found_45 rfl (.same (.same (.same (.same (.same (.any (.any (.nil)))))))) rfl
            exact gm_ret (r := (rL K (rT2 K (rTL K PL.rI) (rTL K PL.rI)))) (ev_v 4))

noncomputable def m_law_leaves : Nat → PyData → (List Int) → (List Int) → Rs (List ((List Int) × (List Int)))
  | 0 => fun _ _ _ => .no
  | n + 1 => mF_law_leaves (m_law_leaves n)
theorem ok_law_leaves (T : Tx K mg) : ∀ n, CallOk P w K mg base "_law_leaves" (0 + n) (spG (M3 (rP K) (rTL K PL.rI) (rTL K PL.rI) (rL K (rT2 K (rTL K PL.rI) (rTL K PL.rI))) (m_law_leaves n)))
  | 0 => call_law_leaves T fun f fd F => fn_0 (spG_0 (by rintro ss R ⟨_, _, _, _, rfl, q, _⟩; cases q))
  | n + 1 => let h := ok_law_leaves T n; okF_law_leaves T (Nat.le_add_right _ _) (h)

noncomputable def m_law_right (tree_here_1 : PyData) : Rs Bool :=
 ((m_law_made 70 tree_here_1 []).bd fun q_2 => Rs.ok q_2.1).bd fun asking_4 =>
 (m_law_leaves 70 tree_here_1 [] [(0 : Int), (1 : Int), (2 : Int)]).bd fun due_6 =>
 (m_leaves_of asking_4).bd fun found_8 =>
 ((Rs.ok (!true)).bd fun k10 => if k10 = true then Rs.ok true else (Rs.ok (!decide (found_8 = due_6))).bd fun k9 => if k9 = true then Rs.ok true else (m_A_told 70 asking_4).bd fun v_9 =>
 (eqPR v_9 tree_here_1).bd fun k => Rs.ok (!k)).bd fun k_12 =>
 if k_12 = true then
 Rs.ok false
 else (forX (S := Unit) (ζ := Bool) (fun (s13 : Unit) (x14 : ((List Int) × (List Int))) => if ((!true) || (!true)) = true then
 Rs.ok (Stp.ret false)
 else Rs.ok (.nxt ())) () found_8).bd (Stp.fin (fun s13 =>
 ((m_leaves_of asking_4).bd fun v_17 =>
 Rs.ok (decide (v_17 = due_6))).bd fun z_18 => Rs.ok z_18) (fun z => z))
theorem ok_law_right (T : Tx K mg) : CallG P w K mg base "_law_right" 77 (spG (M1 (rP K) PL.rB m_law_right)) := let ⟨fd, F⟩ := T.f_law_right; ⟨_, fd, _,
  fn_gd F sc_law_right (by rintro ss R ⟨_, _, rfl, _, rfl⟩; rfl) (by
    rintro cdv A outer s H E G ss R hr hgd ⟨tree_here_1,  z, rfl, hm, rfl⟩
    have nd := sc_law_right.nd
    unfold m_law_right at hm
    refine gm_run (D := fun z => retD G H (fun G v => (PL.rB).rd G v z)) ?_ hm
    refine gm_setM (r := (rAsk K)) 1 nd (em_gvd0 (ok_law_made T 70) (hr.mono (by decide)) hgd (ev_v 0)) fun asking_4 => ?_
    refine gm_setM (r := (rL K (rT2 K (rTL K PL.rI) (rTL K PL.rI)))) 2 nd (em_c3 (ok_law_leaves T 70) (hr.mono (by decide)) (ea_cons (ev_v 0) (ea_cons (ev_tupL (r := PL.rI) ea_nil (szl 0)) (ea_cons (ev_tupL (r := PL.rI) (ea_cons (ev_int) (ea_cons (ev_int) (ea_cons (ev_int) ea_nil))) (szl 3)) ea_nil)))) fun due_6 => ?_
    refine gm_setFM (r := (rT2 K (rTL K PL.rI) (rTL K PL.rI))) 3 nd (efm_c1 (ok_leaves_of T) (hr.mono (by decide)) (ea_cons (ev_v 1) ea_nil)) fun found_8 o_7 => ?_
    refine gm_ifM (etm_lent 3 0 rfl rfl (etm_w (ewm_or (etm_ok (et_not (ev_t (ev_isi "list" true T.b_isinstance T.b_list (ev_v 3) ty_L)))) (ewm_or (etm_ok (et_c (cm_neD (dL (dT2 (dTL dI) (dTL dI))) hr (ev_v 3) (ev_v 2)))) (ewm_or1 (etm_bd (em_mA1 (ok_A_told T 70) (hr.mono (by decide)) (ev_v 1)) fun v_9 h9 =>
       etm_c (cmm_neP hr (h9) (ev_v 0)))))))) (fun k_12 => ?_) (fun k_12 => ?_)
    · refine gm_frz 3 0 rfl rfl ?_
      exact gm_ret (r := PL.rB) (ev_bl)
    · refine gm_on ?_
      refine gm_forXC (S := Unit) (ζ := Bool) 3 0 (fun z => z) (fun (s13 : Unit) => ⟨⟨G, H, []⟩, [.val (rP K) tree_here_1, .val (rAsk K) asking_4, .val (rL K (rT2 K (rTL K PL.rI) (rTL K PL.rI))) due_6, .val rRef o_7, .any, .any], [.lst o_7 (rT2 K (rTL K PL.rI) (rTL K PL.rI)) found_8]⟩) () rfl PassesOwn.never rfl rfl (fun _ => rfl) rfl (.same (.same (.same (.same (.any (.any (.nil))))))) rfl (fun B14 x14 s13 => ⟨_, eg_tup2 rfl (eg_name 4 nd) (eg_name 5 nd), ?_⟩) (fun s13 => ?_)
      · refine gm_if (ev_w (ew_or (et_not (ev_t (ev_isi "tuple" true T.b_isinstance T.b_tuple (ev_v 4) ty_TL))) fun _ => ew_or1 (et_not (ev_t (ev_isi "tuple" true T.b_isinstance T.b_tuple (ev_v 5) ty_TL))))) ?_ ?_
        · refine gm_frz 3 0 rfl rfl ?_
          exact gm_ret (r := PL.rB) (ev_bl)
        · refine gm_on ?_
          exact gm_nextX () rfl (.same (.same (.same (.same (.any (.any (.nil))))))) rfl
      refine gm_clear 3 0 rfl rfl ?_
      refine gm_frz 3 0 rfl rfl ?_
      exact gm_retM (r := PL.rB) (em_bd (em_f (efm_c1 (ok_leaves_of T) (hr.mono (by decide)) (ea_cons (ev_v 1) ea_nil))) fun v_17 h17 =>
         em_ok (r := PL.rB) (ev_c (cm_eqD (dL (dT2 (dTL dI) (dTL dI))) hr (h17) (ev_v 2))))), T.g_law_right, F.kp, b_law_right F⟩

noncomputable def m_law (script_1 : (List Int)) : Rs Bool :=
 (Rs.ok [tx "run", tx "try", tx "the", tx "x1", tx "sing"]).bd fun pool_2 =>
 ((m_law_at script_1 (1 : Int)).bd fun v_3 =>
 (catR (cut script_1 (some (1 : Int)) (some (41 : Int))) [v_3]).bd fun v_4 =>
 Rs.ok v_4).bd fun xs_5 =>
 (forX (S := Unit) (ζ := Bool) (fun (s6 : Unit) (x7 : Int) => (m_law_rich x7).bd fun rest_9 =>
 ((m_law_at script_1 (0 : Int)).bd fun v_10 =>
 Rs.ok (decide ((v_10 % (2 : Int)) = (1 : Int)))).bd fun k_11 =>
 (if k_11 = true then ((m_law_stream x7).bd fun rest_14 =>
 Rs.ok rest_14 : Rs Int)
 else Rs.ok rest_9).bd fun s12 =>
 ((m_law_tree 70 s12 pool_2 (2 : Int)).bd fun v_15 =>
 Rs.ok v_15.1).bd fun tree_here_16 =>
 (Rs.ok (tx "all", ((tx "in", (x7 % (3 : Int)), tree_here_16), (tx "in", ((x7 / (3 : Int)) % (3 : Int)), tree_here_16)))).bd fun twice_17 =>
 (Rs.ok (tx "any", ((tx "in", (x7 % (3 : Int)), tree_here_16), tree_here_16))).bd fun once_18 =>
 (((m_law_tree 70 s12 pool_2 (3 : Int)).bd fun v_19 =>
 (m_law_right v_19.1).bd fun v_20 =>
 Rs.ok (!v_20)).bd fun k23 => if k23 = true then Rs.ok true else ((m_law_right (PyData.tuple [(PyData.str (mkS twice_17.1)), (PyData.tuple [(PyData.tuple [(PyData.str (mkS twice_17.2.1.1)), (PyData.int twice_17.2.1.2.1), twice_17.2.1.2.2]), (PyData.tuple [(PyData.str (mkS twice_17.2.2.1)), (PyData.int twice_17.2.2.2.1), twice_17.2.2.2.2])])])).bd fun v_21 =>
 Rs.ok (!v_21)).bd fun k22 => if k22 = true then Rs.ok true else (m_law_right (PyData.tuple [(PyData.str (mkS once_18.1)), (PyData.tuple [(PyData.tuple [(PyData.str (mkS once_18.2.1.1)), (PyData.int once_18.2.1.2.1), once_18.2.1.2.2]), once_18.2.2])])).bd fun v_22 =>
 Rs.ok (!v_22)).bd fun k_25 =>
 if k_25 = true then
 Rs.ok (Stp.ret false)
 else Rs.ok (.nxt ())) () xs_5).bd (Stp.fin (fun s6 =>
 ((m_leaves_of Ask.never).bd fun v_26 =>
 Rs.ok (decide (v_26 = []))).bd fun z_27 => Rs.ok z_27) (fun z => z))
def lvl : Nat := 78
theorem fn_law (T : Tx K mg) {f : Addr} {fd : FuncData} (F : F_law K f fd) : FnG P w K mg base lvl f fd ["_law_script"] (spG (M1 (rL K PL.rI) PL.rB m_law)) :=
  fn_gd F sc_law (by rintro ss R ⟨_, _, rfl, _, rfl⟩; rfl) (by
    rintro cdv A outer s H E G ss R hr hgd ⟨script_1,  z, rfl, hm, rfl⟩
    have nd := sc_law.nd
    unfold m_law at hm
    refine gm_run (D := fun z => retD G H (fun G v => (PL.rB).rd G v z)) ?_ hm
    refine gm_setM (r := (rL K PL.rC)) 1 nd (em_ok (r := (rL K PL.rC)) (ev_f (ef_txts))) fun pool_2 => ?_
    refine gm_forXM (S := Unit) (ζ := Bool) (fun z => z) (fun (s6 : Unit) => ⟨⟨G, H, []⟩, [.val (rL K PL.rI) script_1, .val (rL K PL.rC) pool_2, .any, .any, .any, .any, .any], []⟩) () rfl PassesOwn.never (eim_bd (em_c2 (ok_law_at T) (hr.mono (by decide)) (ea_cons (ev_v 0) (ea_cons (ev_int) ea_nil))) fun v_3 h3 =>
       eim_bd (em_f (efm_cat (r := PL.rI) (ev_f (ef_cutL (i := some (1 : Int)) (j := some (41 : Int)) (ev_v 0) (eo_some (ev_int)) (eo_some (ev_int)))) (ev_f (ef_lst (r := PL.rI) (xs := [v_3]) (ea_cons (h3) ea_nil) (szl 1))))) fun v_4 h4 =>
       eim_ok (ei_list (h4))) rfl (.same (.same (.any (.any (.any (.any (.any (.nil)))))))) rfl (fun B7 x7 s6 => ⟨_, eg_name 2 nd, ?_⟩) (fun s6 => ?_)
    · refine gm_setM (r := PL.rI) 3 nd (em_c1 (ok_law_rich T) (hr.mono (by decide)) (ea_cons (ev_v 2) ea_nil)) fun rest_9 => ?_
      refine gm_ifJM (S := Int) (fun (s12 : Int) => ⟨⟨G, H, [B7]⟩, [.val (rL K PL.rI) script_1, .val (rL K PL.rC) pool_2, .val PL.rI x7, .val PL.rI s12, .any, .any, .any], []⟩) (etm_bd (em_c2 (ok_law_at T) (hr.mono (by decide)) (ea_cons (ev_v 0) (ea_cons (ev_int) ea_nil))) fun v_10 h10 =>
         etm_ok (et_c (cm_eqI (ev_mod (h10) (ev_int) (by decide)) (ev_int)))) (fun k_11 => ?_) (fun k_11 => ?_) (fun s12 => ?_)
      · refine gm_setM (r := PL.rI) 3 nd (em_c1 (ok_law_stream T) (hr.mono (by decide)) (ea_cons (ev_v 2) ea_nil)) fun rest_14 => ?_
        exact gm_to rest_14 rfl (.same (.same (.same (.same (.any (.any (.any (.nil)))))))) rfl
      · exact gm_to rest_9 rfl (.same (.same (.same (.same (.any (.any (.any (.nil)))))))) rfl
      refine gm_setM (r := (rP K)) 4 nd (em_bd (em_c3 (ok_law_tree T 70) (hr.mono (by decide)) (ea_cons (ev_v 3) (ea_cons (ev_v 1) (ea_cons (ev_int) ea_nil)))) fun v_15 h15 =>
         em_ok (r := (rP K)) (ev_ix20 (h15))) fun tree_here_16 => ?_
      refine gm_setM (r := (rT2 K PL.rC (rT2 K (rT3 K PL.rC PL.rI (rP K)) (rT3 K PL.rC PL.rI (rP K))))) 5 nd (em_ok (r := (rT2 K PL.rC (rT2 K (rT3 K PL.rC PL.rI (rP K)) (rT3 K PL.rC PL.rI (rP K))))) (ev_tup2 (ea_cons (ev_txt) (ea_cons (ev_tup2 (ea_cons (ev_tup3 (ea_cons (ev_txt) (ea_cons (ev_mod (ev_v 2) (ev_int) (by decide)) (ea_cons (ev_v 4) ea_nil)))) (ea_cons (ev_tup3 (ea_cons (ev_txt) (ea_cons (ev_mod (ev_fdiv (ev_v 2) (ev_int) ⟨by decide, by decide⟩) (ev_int) (by decide)) (ea_cons (ev_v 4) ea_nil)))) ea_nil))) ea_nil)))) fun twice_17 => ?_
      refine gm_setM (r := (rT2 K PL.rC (rT2 K (rT3 K PL.rC PL.rI (rP K)) (rP K)))) 6 nd (em_ok (r := (rT2 K PL.rC (rT2 K (rT3 K PL.rC PL.rI (rP K)) (rP K)))) (ev_tup2 (ea_cons (ev_txt) (ea_cons (ev_tup2 (ea_cons (ev_tup3 (ea_cons (ev_txt) (ea_cons (ev_mod (ev_v 2) (ev_int) (by decide)) (ea_cons (ev_v 4) ea_nil)))) (ea_cons (ev_v 4) ea_nil))) ea_nil)))) fun once_18 => ?_
      refine gm_ifM (etm_w (ewm_or (etm_bd (em_c3 (ok_law_tree T 70) (hr.mono (by decide)) (ea_cons (ev_v 3) (ea_cons (ev_v 1) (ea_cons (ev_int) ea_nil)))) fun v_19 h19 =>
         etm_bd (em_g1 (ok_law_right T) (hr.mono (by decide)) hgd (ea_cons (ev_ix20 (h19)) ea_nil)) fun v_20 h20 =>
         etm_ok (et_not (ev_t (h20)))) (ewm_or (etm_bd (em_g1 (ok_law_right T) (hr.mono (by decide)) hgd (ea_cons (ev_p (f := fun (yy : (Text × ((Text × Int × PyData) × (Text × Int × PyData)))) => (PyData.tuple [(PyData.str (mkS yy.1)), (PyData.tuple [(PyData.tuple [(PyData.str (mkS yy.2.1.1)), (PyData.int yy.2.1.2.1), yy.2.1.2.2]), (PyData.tuple [(PyData.str (mkS yy.2.2.1)), (PyData.int yy.2.2.2.1), yy.2.2.2.2])])])) (tp_T2 tp_C (tp_T2 (tp_T3 tp_C tp_I tp_P) (tp_T3 tp_C tp_I tp_P))) (ev_v 5)) ea_nil)) fun v_21 h21 =>
         etm_ok (et_not (ev_t (h21)))) (ewm_or1 (etm_bd (em_g1 (ok_law_right T) (hr.mono (by decide)) hgd (ea_cons (ev_p (f := fun (yy : (Text × ((Text × Int × PyData) × PyData))) => (PyData.tuple [(PyData.str (mkS yy.1)), (PyData.tuple [(PyData.tuple [(PyData.str (mkS yy.2.1.1)), (PyData.int yy.2.1.2.1), yy.2.1.2.2]), yy.2.2])])) (tp_T2 tp_C (tp_T2 (tp_T3 tp_C tp_I tp_P) tp_P)) (ev_v 6)) ea_nil)) fun v_22 h22 =>
         etm_ok (et_not (ev_t (h22)))))))) (fun k_25 => ?_) (fun k_25 => ?_)
      · exact gm_ret (r := PL.rB) (ev_bl)
      · refine gm_on ?_
        exact gm_nextX () rfl (.same (.same (.any (.any (.any (.any (.any (.nil)))))))) rfl
    exact gm_retM (r := PL.rB) (em_bd (em_f (efm_c1 (ok_leaves_of T) (hr.mono (by decide)) (ea_cons (ev_A Ask.never (ev_mk0 (α := Unit) (fs := fun _ => []) (y := ()) T.z_Never T.g_Never rfl)) ea_nil))) fun v_26 h26 =>
       em_ok (r := PL.rB) (ev_c (cm_eqD (dL (dT2 (dTL dI) (dTL dI))) hr (h26) (ev_f (ef_nil))))))
end
end Lw

namespace Lw
open PySem PySem.Spec PyProof.Rows L2 PL Tp
/-! ### for laws without rulebooks: of RB1 the signs -/
def isOf (w s : Text) (lo hi : Int) : Bool := (decide (lo ≤ (w.length : Int)) && decide ((w.length : Int) ≤ hi)) && w.all fun c => decide (c ∈ s)
def lsgn : Text := tx (Str.ofString "abcdefghijklmnopqrstuvwxyz0123456789")
end Lw

namespace Lw
open PySem PySem.Spec PyProof.Rows L2 PL Tp
/-! ### texts of told signs -/
theorem lsgn_len : lsgn.length = 36 := by decide +kernel
theorem lsgn_low : ∀ c ∈ lsgn, c < 128 := by decide +kernel
def Of (P : Nat → Prop) (lo hi : Int) (t : Text) : Prop := lo ≤ (t.length : Int) ∧ (t.length : Int) ≤ hi ∧ ∀ c ∈ t, P c
theorem cut_mem {α : Type} {xs : List α} {i j : Option Int} {x : α} (h : x ∈ cut xs i j) : x ∈ xs := (cut_sub xs i j).subset h
theorem of_isOf {t s : Text} {lo hi : Int} (h : isOf t s lo hi = true) : Of (· ∈ s) lo hi t := by
  unfold isOf at h
  simp only [Bool.and_eq_true, decide_eq_true_eq, List.all_eq_true] at h
  exact ⟨h.1.1, h.1.2, fun c hc => by simpa using h.2 c hc⟩
theorem cutN {α : Type} (xs : List α) (i j : Nat) : cut xs (some (i : Int)) (some (j : Int)) = (xs.drop i).take (j - i) := by
  unfold cut
  have e1 : HT.sIx xs.length 0 (some (i : Int)) = min i xs.length := by
    show (if ((i : Int)) < 0 then ((i : Int) + (xs.length : Int)).toNat else min ((i : Int)).toNat xs.length) = _
    rw [if_neg (by omega), Int.toNat_natCast]
  have e2 : HT.sIx xs.length xs.length (some (j : Int)) = min j xs.length := by
    show (if ((j : Int)) < 0 then ((j : Int) + (xs.length : Int)).toNat else min ((j : Int)).toNat xs.length) = _
    rw [if_neg (by omega), Int.toNat_natCast]
  rw [e1, e2]
  by_cases h : i ≤ xs.length
  · rw [Nat.min_eq_left h]
    by_cases h2 : j ≤ xs.length
    · rw [Nat.min_eq_left h2]
    · rw [Nat.min_eq_right (by omega), List.take_of_length_le (by rw [List.length_drop]; omega), List.take_of_length_le (by rw [List.length_drop]; omega)]
  · rw [List.drop_eq_nil_of_le (by omega), List.drop_eq_nil_of_le (by omega), List.take_nil, List.take_nil]
theorem cutN_len {α : Type} (xs : List α) (i j : Nat) : (cut xs (some (i : Int)) (some (j : Int))).length ≤ j - i := by
  rw [cutN, List.length_take]
  omega
theorem ixR_ok0 {α : Type} {xs : List α} {i : Int} (h0 : 0 ≤ i) (h : i < (xs.length : Int)) : ∃ x, x ∈ xs ∧ ixR xs i = .ok x := by
  have hl : i.toNat < xs.length := by omega
  exact ⟨xs[i.toNat], List.getElem_mem hl, ixR_at (by omega) (List.getElem?_eq_getElem hl)⟩
end Lw

namespace Lw
open PySem PySem.Spec PyProof.Rows L2 PL Tp
/-! ### plain words of askings -/
abbrev Pln (t : Text) : Prop := Of (· ∈ lsgn) 1 20 t
theorem plain_ok {t : Text} (h : Pln t) : m_is_plain t = .ok true := by
  unfold m_is_plain
  have hm : mapR (fun (x2 : Text) => sinR x2 (tx "abcdefghijklmnopqrstuvwxyz0123456789")) (t.map fun c => [c]) = .ok ((t.map fun c => [c]).map fun _ => true) := mapR_ok fun x hx => by
    obtain ⟨c, hc, rfl⟩ := List.mem_map.mp hx
    rw [sinR_one]
    exact congrArg Rs.ok (decide_eq_true (h.2.2 c hc))
  rw [decide_eq_true h.1, decide_eq_true h.2.1, Rs.bd_ok, Bool.and_self, if_pos rfl, hm]
  show Rs.ok (((t.map fun c => [c]).map fun _ => true).all id) = _
  rw [List.all_map]
  congr 1
  rw [List.all_eq_true]
  exact fun _ _ => rfl
theorem plains_ok {ws : List Text} (h : ∀ t ∈ ws, Pln t) : m_want_plain ws = .ok () := by
  unfold m_want_plain
  rw [mapR_ok (g := fun _ => true) fun x hx => plain_ok (h x hx), Rs.bd_ok, Rs.bd_ok]
  have : (ws.map fun _ => true).all id = true := by
    rw [List.all_map, List.all_eq_true]
    exact fun _ _ => rfl
  rw [this]
  rfl
theorem within_ok {n a b : Int} (h1 : a ≤ n) (h2 : n ≤ b) : m_want_within n a b = .ok () := by
  unfold m_want_within
  rw [decide_eq_false (by omega), decide_eq_false (by omega)]
  rfl
theorem asC_str (t : Text) : asC (.str (mkS t)) = .ok t := congrArg Rs.ok (tx_mk t)
theorem asTL_strs (ws : List Text) : asTL asC (.tuple (ws.map fun y => .str (mkS y))) = .ok ws := by
  show mapR asC (ws.map fun y => .str (mkS y)) = _
  induction ws with
  | nil => rfl
  | cons w ws ih =>
    rw [List.map_cons]
    unfold mapR
    rw [asC_str, ih]
    rfl
end Lw

namespace Lw
open PySem PySem.Spec PyProof.Rows L2 PL Tp
/-! ### the words of sorts -/
theorem nq_word_word : decide (tx "word" = tx "word") = true := by decide +kernel
theorem nq_word_begin : decide (tx "word" = tx "begin") = false := by decide +kernel
theorem nq_word_row : decide (tx "word" = tx "row") = false := by decide +kernel
theorem nq_word_near : decide (tx "word" = tx "near") = false := by decide +kernel
theorem nq_word_in : decide (tx "word" = tx "in") = false := by decide +kernel
theorem nq_word_all : decide (tx "word" = tx "all") = false := by decide +kernel
theorem nq_word_any : decide (tx "word" = tx "any") = false := by decide +kernel
theorem nq_word_but : decide (tx "word" = tx "but") = false := by decide +kernel
theorem nq_word_also : decide (tx "word" = tx "also") = false := by decide +kernel
theorem nq_word_by : decide (tx "word" = tx "by") = false := by decide +kernel
theorem nq_word_never : decide (tx "word" = tx "never") = false := by decide +kernel
theorem nq_begin_word : decide (tx "begin" = tx "word") = false := by decide +kernel
theorem nq_begin_begin : decide (tx "begin" = tx "begin") = true := by decide +kernel
theorem nq_begin_row : decide (tx "begin" = tx "row") = false := by decide +kernel
theorem nq_begin_near : decide (tx "begin" = tx "near") = false := by decide +kernel
theorem nq_begin_in : decide (tx "begin" = tx "in") = false := by decide +kernel
theorem nq_begin_all : decide (tx "begin" = tx "all") = false := by decide +kernel
theorem nq_begin_any : decide (tx "begin" = tx "any") = false := by decide +kernel
theorem nq_begin_but : decide (tx "begin" = tx "but") = false := by decide +kernel
theorem nq_begin_also : decide (tx "begin" = tx "also") = false := by decide +kernel
theorem nq_begin_by : decide (tx "begin" = tx "by") = false := by decide +kernel
theorem nq_begin_never : decide (tx "begin" = tx "never") = false := by decide +kernel
theorem nq_row_word : decide (tx "row" = tx "word") = false := by decide +kernel
theorem nq_row_begin : decide (tx "row" = tx "begin") = false := by decide +kernel
theorem nq_row_row : decide (tx "row" = tx "row") = true := by decide +kernel
theorem nq_row_near : decide (tx "row" = tx "near") = false := by decide +kernel
theorem nq_row_in : decide (tx "row" = tx "in") = false := by decide +kernel
theorem nq_row_all : decide (tx "row" = tx "all") = false := by decide +kernel
theorem nq_row_any : decide (tx "row" = tx "any") = false := by decide +kernel
theorem nq_row_but : decide (tx "row" = tx "but") = false := by decide +kernel
theorem nq_row_also : decide (tx "row" = tx "also") = false := by decide +kernel
theorem nq_row_by : decide (tx "row" = tx "by") = false := by decide +kernel
theorem nq_row_never : decide (tx "row" = tx "never") = false := by decide +kernel
theorem nq_near_word : decide (tx "near" = tx "word") = false := by decide +kernel
theorem nq_near_begin : decide (tx "near" = tx "begin") = false := by decide +kernel
theorem nq_near_row : decide (tx "near" = tx "row") = false := by decide +kernel
theorem nq_near_near : decide (tx "near" = tx "near") = true := by decide +kernel
theorem nq_near_in : decide (tx "near" = tx "in") = false := by decide +kernel
theorem nq_near_all : decide (tx "near" = tx "all") = false := by decide +kernel
theorem nq_near_any : decide (tx "near" = tx "any") = false := by decide +kernel
theorem nq_near_but : decide (tx "near" = tx "but") = false := by decide +kernel
theorem nq_near_also : decide (tx "near" = tx "also") = false := by decide +kernel
theorem nq_near_by : decide (tx "near" = tx "by") = false := by decide +kernel
theorem nq_near_never : decide (tx "near" = tx "never") = false := by decide +kernel
theorem nq_in_word : decide (tx "in" = tx "word") = false := by decide +kernel
theorem nq_in_begin : decide (tx "in" = tx "begin") = false := by decide +kernel
theorem nq_in_row : decide (tx "in" = tx "row") = false := by decide +kernel
theorem nq_in_near : decide (tx "in" = tx "near") = false := by decide +kernel
theorem nq_in_in : decide (tx "in" = tx "in") = true := by decide +kernel
theorem nq_in_all : decide (tx "in" = tx "all") = false := by decide +kernel
theorem nq_in_any : decide (tx "in" = tx "any") = false := by decide +kernel
theorem nq_in_but : decide (tx "in" = tx "but") = false := by decide +kernel
theorem nq_in_also : decide (tx "in" = tx "also") = false := by decide +kernel
theorem nq_in_by : decide (tx "in" = tx "by") = false := by decide +kernel
theorem nq_in_never : decide (tx "in" = tx "never") = false := by decide +kernel
theorem nq_all_word : decide (tx "all" = tx "word") = false := by decide +kernel
theorem nq_all_begin : decide (tx "all" = tx "begin") = false := by decide +kernel
theorem nq_all_row : decide (tx "all" = tx "row") = false := by decide +kernel
theorem nq_all_near : decide (tx "all" = tx "near") = false := by decide +kernel
theorem nq_all_in : decide (tx "all" = tx "in") = false := by decide +kernel
theorem nq_all_all : decide (tx "all" = tx "all") = true := by decide +kernel
theorem nq_all_any : decide (tx "all" = tx "any") = false := by decide +kernel
theorem nq_all_but : decide (tx "all" = tx "but") = false := by decide +kernel
theorem nq_all_also : decide (tx "all" = tx "also") = false := by decide +kernel
theorem nq_all_by : decide (tx "all" = tx "by") = false := by decide +kernel
theorem nq_all_never : decide (tx "all" = tx "never") = false := by decide +kernel
theorem nq_any_word : decide (tx "any" = tx "word") = false := by decide +kernel
theorem nq_any_begin : decide (tx "any" = tx "begin") = false := by decide +kernel
theorem nq_any_row : decide (tx "any" = tx "row") = false := by decide +kernel
theorem nq_any_near : decide (tx "any" = tx "near") = false := by decide +kernel
theorem nq_any_in : decide (tx "any" = tx "in") = false := by decide +kernel
theorem nq_any_all : decide (tx "any" = tx "all") = false := by decide +kernel
theorem nq_any_any : decide (tx "any" = tx "any") = true := by decide +kernel
theorem nq_any_but : decide (tx "any" = tx "but") = false := by decide +kernel
theorem nq_any_also : decide (tx "any" = tx "also") = false := by decide +kernel
theorem nq_any_by : decide (tx "any" = tx "by") = false := by decide +kernel
theorem nq_any_never : decide (tx "any" = tx "never") = false := by decide +kernel
theorem nq_but_word : decide (tx "but" = tx "word") = false := by decide +kernel
theorem nq_but_begin : decide (tx "but" = tx "begin") = false := by decide +kernel
theorem nq_but_row : decide (tx "but" = tx "row") = false := by decide +kernel
theorem nq_but_near : decide (tx "but" = tx "near") = false := by decide +kernel
theorem nq_but_in : decide (tx "but" = tx "in") = false := by decide +kernel
theorem nq_but_all : decide (tx "but" = tx "all") = false := by decide +kernel
theorem nq_but_any : decide (tx "but" = tx "any") = false := by decide +kernel
theorem nq_but_but : decide (tx "but" = tx "but") = true := by decide +kernel
theorem nq_but_also : decide (tx "but" = tx "also") = false := by decide +kernel
theorem nq_but_by : decide (tx "but" = tx "by") = false := by decide +kernel
theorem nq_but_never : decide (tx "but" = tx "never") = false := by decide +kernel
theorem nq_also_word : decide (tx "also" = tx "word") = false := by decide +kernel
theorem nq_also_begin : decide (tx "also" = tx "begin") = false := by decide +kernel
theorem nq_also_row : decide (tx "also" = tx "row") = false := by decide +kernel
theorem nq_also_near : decide (tx "also" = tx "near") = false := by decide +kernel
theorem nq_also_in : decide (tx "also" = tx "in") = false := by decide +kernel
theorem nq_also_all : decide (tx "also" = tx "all") = false := by decide +kernel
theorem nq_also_any : decide (tx "also" = tx "any") = false := by decide +kernel
theorem nq_also_but : decide (tx "also" = tx "but") = false := by decide +kernel
theorem nq_also_also : decide (tx "also" = tx "also") = true := by decide +kernel
theorem nq_also_by : decide (tx "also" = tx "by") = false := by decide +kernel
theorem nq_also_never : decide (tx "also" = tx "never") = false := by decide +kernel
theorem nq_by_word : decide (tx "by" = tx "word") = false := by decide +kernel
theorem nq_by_begin : decide (tx "by" = tx "begin") = false := by decide +kernel
theorem nq_by_row : decide (tx "by" = tx "row") = false := by decide +kernel
theorem nq_by_near : decide (tx "by" = tx "near") = false := by decide +kernel
theorem nq_by_in : decide (tx "by" = tx "in") = false := by decide +kernel
theorem nq_by_all : decide (tx "by" = tx "all") = false := by decide +kernel
theorem nq_by_any : decide (tx "by" = tx "any") = false := by decide +kernel
theorem nq_by_but : decide (tx "by" = tx "but") = false := by decide +kernel
theorem nq_by_also : decide (tx "by" = tx "also") = false := by decide +kernel
theorem nq_by_by : decide (tx "by" = tx "by") = true := by decide +kernel
theorem nq_by_never : decide (tx "by" = tx "never") = false := by decide +kernel
theorem nq_never_word : decide (tx "never" = tx "word") = false := by decide +kernel
theorem nq_never_begin : decide (tx "never" = tx "begin") = false := by decide +kernel
theorem nq_never_row : decide (tx "never" = tx "row") = false := by decide +kernel
theorem nq_never_near : decide (tx "never" = tx "near") = false := by decide +kernel
theorem nq_never_in : decide (tx "never" = tx "in") = false := by decide +kernel
theorem nq_never_all : decide (tx "never" = tx "all") = false := by decide +kernel
theorem nq_never_any : decide (tx "never" = tx "any") = false := by decide +kernel
theorem nq_never_but : decide (tx "never" = tx "but") = false := by decide +kernel
theorem nq_never_also : decide (tx "never" = tx "also") = false := by decide +kernel
theorem nq_never_by : decide (tx "never" = tx "by") = false := by decide +kernel
theorem nq_never_never : decide (tx "never" = tx "never") = true := by decide +kernel
theorem ni_all_any_word : isin (tx "word") [tx "all", tx "any"] = false := by decide +kernel
theorem ni_all_any_begin : isin (tx "begin") [tx "all", tx "any"] = false := by decide +kernel
theorem ni_all_any_row : isin (tx "row") [tx "all", tx "any"] = false := by decide +kernel
theorem ni_all_any_near : isin (tx "near") [tx "all", tx "any"] = false := by decide +kernel
theorem ni_all_any_in : isin (tx "in") [tx "all", tx "any"] = false := by decide +kernel
theorem ni_all_any_all : isin (tx "all") [tx "all", tx "any"] = true := by decide +kernel
theorem ni_all_any_any : isin (tx "any") [tx "all", tx "any"] = true := by decide +kernel
theorem ni_all_any_but : isin (tx "but") [tx "all", tx "any"] = false := by decide +kernel
theorem ni_all_any_also : isin (tx "also") [tx "all", tx "any"] = false := by decide +kernel
theorem ni_all_any_by : isin (tx "by") [tx "all", tx "any"] = false := by decide +kernel
theorem ni_all_any_never : isin (tx "never") [tx "all", tx "any"] = false := by decide +kernel
theorem ni_but_also_word : isin (tx "word") [tx "but", tx "also"] = false := by decide +kernel
theorem ni_but_also_begin : isin (tx "begin") [tx "but", tx "also"] = false := by decide +kernel
theorem ni_but_also_row : isin (tx "row") [tx "but", tx "also"] = false := by decide +kernel
theorem ni_but_also_near : isin (tx "near") [tx "but", tx "also"] = false := by decide +kernel
theorem ni_but_also_in : isin (tx "in") [tx "but", tx "also"] = false := by decide +kernel
theorem ni_but_also_all : isin (tx "all") [tx "but", tx "also"] = false := by decide +kernel
theorem ni_but_also_any : isin (tx "any") [tx "but", tx "also"] = false := by decide +kernel
theorem ni_but_also_but : isin (tx "but") [tx "but", tx "also"] = true := by decide +kernel
theorem ni_but_also_also : isin (tx "also") [tx "but", tx "also"] = true := by decide +kernel
theorem ni_but_also_by : isin (tx "by") [tx "but", tx "also"] = false := by decide +kernel
theorem ni_but_also_never : isin (tx "never") [tx "but", tx "also"] = false := by decide +kernel
theorem ni_by_in_word : isin (tx "word") [tx "by", tx "in"] = false := by decide +kernel
theorem ni_by_in_begin : isin (tx "begin") [tx "by", tx "in"] = false := by decide +kernel
theorem ni_by_in_row : isin (tx "row") [tx "by", tx "in"] = false := by decide +kernel
theorem ni_by_in_near : isin (tx "near") [tx "by", tx "in"] = false := by decide +kernel
theorem ni_by_in_in : isin (tx "in") [tx "by", tx "in"] = true := by decide +kernel
theorem ni_by_in_all : isin (tx "all") [tx "by", tx "in"] = false := by decide +kernel
theorem ni_by_in_any : isin (tx "any") [tx "by", tx "in"] = false := by decide +kernel
theorem ni_by_in_but : isin (tx "but") [tx "by", tx "in"] = false := by decide +kernel
theorem ni_by_in_also : isin (tx "also") [tx "by", tx "in"] = false := by decide +kernel
theorem ni_by_in_by : isin (tx "by") [tx "by", tx "in"] = true := by decide +kernel
theorem ni_by_in_never : isin (tx "never") [tx "by", tx "in"] = false := by decide +kernel
theorem ni_word_begin_row_near_word : isin (tx "word") [tx "word", tx "begin", tx "row", tx "near"] = true := by decide +kernel
theorem ni_word_begin_row_near_begin : isin (tx "begin") [tx "word", tx "begin", tx "row", tx "near"] = true := by decide +kernel
theorem ni_word_begin_row_near_row : isin (tx "row") [tx "word", tx "begin", tx "row", tx "near"] = true := by decide +kernel
theorem ni_word_begin_row_near_near : isin (tx "near") [tx "word", tx "begin", tx "row", tx "near"] = true := by decide +kernel
theorem ni_word_begin_row_near_in : isin (tx "in") [tx "word", tx "begin", tx "row", tx "near"] = false := by decide +kernel
theorem ni_word_begin_row_near_all : isin (tx "all") [tx "word", tx "begin", tx "row", tx "near"] = false := by decide +kernel
theorem ni_word_begin_row_near_any : isin (tx "any") [tx "word", tx "begin", tx "row", tx "near"] = false := by decide +kernel
theorem ni_word_begin_row_near_but : isin (tx "but") [tx "word", tx "begin", tx "row", tx "near"] = false := by decide +kernel
theorem ni_word_begin_row_near_also : isin (tx "also") [tx "word", tx "begin", tx "row", tx "near"] = false := by decide +kernel
theorem ni_word_begin_row_near_by : isin (tx "by") [tx "word", tx "begin", tx "row", tx "near"] = false := by decide +kernel
theorem ni_word_begin_row_near_never : isin (tx "never") [tx "word", tx "begin", tx "row", tx "near"] = false := by decide +kernel
theorem nqA : (decide (tx "word" = tx "word") = true) ∧ (decide (tx "word" = tx "begin") = false) ∧ (decide (tx "word" = tx "row") = false) ∧ (decide (tx "word" = tx "near") = false) ∧ (decide (tx "word" = tx "in") = false) ∧ (decide (tx "word" = tx "all") = false) ∧ (decide (tx "word" = tx "any") = false) ∧ (decide (tx "word" = tx "but") = false) ∧ (decide (tx "word" = tx "also") = false) ∧ (decide (tx "word" = tx "by") = false) ∧ (decide (tx "word" = tx "never") = false) ∧ (decide (tx "begin" = tx "word") = false) ∧ (decide (tx "begin" = tx "begin") = true) ∧ (decide (tx "begin" = tx "row") = false) ∧ (decide (tx "begin" = tx "near") = false) ∧ (decide (tx "begin" = tx "in") = false) ∧ (decide (tx "begin" = tx "all") = false) ∧ (decide (tx "begin" = tx "any") = false) ∧ (decide (tx "begin" = tx "but") = false) ∧ (decide (tx "begin" = tx "also") = false) ∧ (decide (tx "begin" = tx "by") = false) ∧ (decide (tx "begin" = tx "never") = false) ∧ (decide (tx "row" = tx "word") = false) ∧ (decide (tx "row" = tx "begin") = false) ∧ (decide (tx "row" = tx "row") = true) ∧ (decide (tx "row" = tx "near") = false) ∧ (decide (tx "row" = tx "in") = false) ∧ (decide (tx "row" = tx "all") = false) ∧ (decide (tx "row" = tx "any") = false) ∧ (decide (tx "row" = tx "but") = false) ∧ (decide (tx "row" = tx "also") = false) ∧ (decide (tx "row" = tx "by") = false) ∧ (decide (tx "row" = tx "never") = false) ∧ (decide (tx "near" = tx "word") = false) ∧ (decide (tx "near" = tx "begin") = false) ∧ (decide (tx "near" = tx "row") = false) ∧ (decide (tx "near" = tx "near") = true) ∧ (decide (tx "near" = tx "in") = false) ∧ (decide (tx "near" = tx "all") = false) ∧ (decide (tx "near" = tx "any") = false) ∧ (decide (tx "near" = tx "but") = false) ∧ (decide (tx "near" = tx "also") = false) ∧ (decide (tx "near" = tx "by") = false) ∧ (decide (tx "near" = tx "never") = false) ∧ (decide (tx "in" = tx "word") = false) ∧ (decide (tx "in" = tx "begin") = false) ∧ (decide (tx "in" = tx "row") = false) ∧ (decide (tx "in" = tx "near") = false) ∧ (decide (tx "in" = tx "in") = true) ∧ (decide (tx "in" = tx "all") = false) ∧ (decide (tx "in" = tx "any") = false) ∧ (decide (tx "in" = tx "but") = false) ∧ (decide (tx "in" = tx "also") = false) ∧ (decide (tx "in" = tx "by") = false) ∧ (decide (tx "in" = tx "never") = false) ∧ (decide (tx "all" = tx "word") = false) ∧ (decide (tx "all" = tx "begin") = false) ∧ (decide (tx "all" = tx "row") = false) ∧ (decide (tx "all" = tx "near") = false) ∧ (decide (tx "all" = tx "in") = false) ∧ (decide (tx "all" = tx "all") = true) ∧ (decide (tx "all" = tx "any") = false) ∧ (decide (tx "all" = tx "but") = false) ∧ (decide (tx "all" = tx "also") = false) ∧ (decide (tx "all" = tx "by") = false) ∧ (decide (tx "all" = tx "never") = false) ∧ (decide (tx "any" = tx "word") = false) ∧ (decide (tx "any" = tx "begin") = false) ∧ (decide (tx "any" = tx "row") = false) ∧ (decide (tx "any" = tx "near") = false) ∧ (decide (tx "any" = tx "in") = false) ∧ (decide (tx "any" = tx "all") = false) ∧ (decide (tx "any" = tx "any") = true) ∧ (decide (tx "any" = tx "but") = false) ∧ (decide (tx "any" = tx "also") = false) ∧ (decide (tx "any" = tx "by") = false) ∧ (decide (tx "any" = tx "never") = false) ∧ (decide (tx "but" = tx "word") = false) ∧ (decide (tx "but" = tx "begin") = false) ∧ (decide (tx "but" = tx "row") = false) ∧ (decide (tx "but" = tx "near") = false) ∧ (decide (tx "but" = tx "in") = false) ∧ (decide (tx "but" = tx "all") = false) ∧ (decide (tx "but" = tx "any") = false) ∧ (decide (tx "but" = tx "but") = true) ∧ (decide (tx "but" = tx "also") = false) ∧ (decide (tx "but" = tx "by") = false) ∧ (decide (tx "but" = tx "never") = false) ∧ (decide (tx "also" = tx "word") = false) ∧ (decide (tx "also" = tx "begin") = false) ∧ (decide (tx "also" = tx "row") = false) ∧ (decide (tx "also" = tx "near") = false) ∧ (decide (tx "also" = tx "in") = false) ∧ (decide (tx "also" = tx "all") = false) ∧ (decide (tx "also" = tx "any") = false) ∧ (decide (tx "also" = tx "but") = false) ∧ (decide (tx "also" = tx "also") = true) ∧ (decide (tx "also" = tx "by") = false) ∧ (decide (tx "also" = tx "never") = false) ∧ (decide (tx "by" = tx "word") = false) ∧ (decide (tx "by" = tx "begin") = false) ∧ (decide (tx "by" = tx "row") = false) ∧ (decide (tx "by" = tx "near") = false) ∧ (decide (tx "by" = tx "in") = false) ∧ (decide (tx "by" = tx "all") = false) ∧ (decide (tx "by" = tx "any") = false) ∧ (decide (tx "by" = tx "but") = false) ∧ (decide (tx "by" = tx "also") = false) ∧ (decide (tx "by" = tx "by") = true) ∧ (decide (tx "by" = tx "never") = false) ∧ (decide (tx "never" = tx "word") = false) ∧ (decide (tx "never" = tx "begin") = false) ∧ (decide (tx "never" = tx "row") = false) ∧ (decide (tx "never" = tx "near") = false) ∧ (decide (tx "never" = tx "in") = false) ∧ (decide (tx "never" = tx "all") = false) ∧ (decide (tx "never" = tx "any") = false) ∧ (decide (tx "never" = tx "but") = false) ∧ (decide (tx "never" = tx "also") = false) ∧ (decide (tx "never" = tx "by") = false) ∧ (decide (tx "never" = tx "never") = true) ∧ (isin (tx "word") [tx "all", tx "any"] = false) ∧ (isin (tx "begin") [tx "all", tx "any"] = false) ∧ (isin (tx "row") [tx "all", tx "any"] = false) ∧ (isin (tx "near") [tx "all", tx "any"] = false) ∧ (isin (tx "in") [tx "all", tx "any"] = false) ∧ (isin (tx "all") [tx "all", tx "any"] = true) ∧ (isin (tx "any") [tx "all", tx "any"] = true) ∧ (isin (tx "but") [tx "all", tx "any"] = false) ∧ (isin (tx "also") [tx "all", tx "any"] = false) ∧ (isin (tx "by") [tx "all", tx "any"] = false) ∧ (isin (tx "never") [tx "all", tx "any"] = false) ∧ (isin (tx "word") [tx "but", tx "also"] = false) ∧ (isin (tx "begin") [tx "but", tx "also"] = false) ∧ (isin (tx "row") [tx "but", tx "also"] = false) ∧ (isin (tx "near") [tx "but", tx "also"] = false) ∧ (isin (tx "in") [tx "but", tx "also"] = false) ∧ (isin (tx "all") [tx "but", tx "also"] = false) ∧ (isin (tx "any") [tx "but", tx "also"] = false) ∧ (isin (tx "but") [tx "but", tx "also"] = true) ∧ (isin (tx "also") [tx "but", tx "also"] = true) ∧ (isin (tx "by") [tx "but", tx "also"] = false) ∧ (isin (tx "never") [tx "but", tx "also"] = false) ∧ (isin (tx "word") [tx "by", tx "in"] = false) ∧ (isin (tx "begin") [tx "by", tx "in"] = false) ∧ (isin (tx "row") [tx "by", tx "in"] = false) ∧ (isin (tx "near") [tx "by", tx "in"] = false) ∧ (isin (tx "in") [tx "by", tx "in"] = true) ∧ (isin (tx "all") [tx "by", tx "in"] = false) ∧ (isin (tx "any") [tx "by", tx "in"] = false) ∧ (isin (tx "but") [tx "by", tx "in"] = false) ∧ (isin (tx "also") [tx "by", tx "in"] = false) ∧ (isin (tx "by") [tx "by", tx "in"] = true) ∧ (isin (tx "never") [tx "by", tx "in"] = false) ∧ (isin (tx "word") [tx "word", tx "begin", tx "row", tx "near"] = true) ∧ (isin (tx "begin") [tx "word", tx "begin", tx "row", tx "near"] = true) ∧ (isin (tx "row") [tx "word", tx "begin", tx "row", tx "near"] = true) ∧ (isin (tx "near") [tx "word", tx "begin", tx "row", tx "near"] = true) ∧ (isin (tx "in") [tx "word", tx "begin", tx "row", tx "near"] = false) ∧ (isin (tx "all") [tx "word", tx "begin", tx "row", tx "near"] = false) ∧ (isin (tx "any") [tx "word", tx "begin", tx "row", tx "near"] = false) ∧ (isin (tx "but") [tx "word", tx "begin", tx "row", tx "near"] = false) ∧ (isin (tx "also") [tx "word", tx "begin", tx "row", tx "near"] = false) ∧ (isin (tx "by") [tx "word", tx "begin", tx "row", tx "near"] = false) ∧ (isin (tx "never") [tx "word", tx "begin", tx "row", tx "near"] = false) := ⟨nq_word_word, nq_word_begin, nq_word_row, nq_word_near, nq_word_in, nq_word_all, nq_word_any, nq_word_but, nq_word_also, nq_word_by, nq_word_never, nq_begin_word, nq_begin_begin, nq_begin_row, nq_begin_near, nq_begin_in, nq_begin_all, nq_begin_any, nq_begin_but, nq_begin_also, nq_begin_by, nq_begin_never, nq_row_word, nq_row_begin, nq_row_row, nq_row_near, nq_row_in, nq_row_all, nq_row_any, nq_row_but, nq_row_also, nq_row_by, nq_row_never, nq_near_word, nq_near_begin, nq_near_row, nq_near_near, nq_near_in, nq_near_all, nq_near_any, nq_near_but, nq_near_also, nq_near_by, nq_near_never, nq_in_word, nq_in_begin, nq_in_row, nq_in_near, nq_in_in, nq_in_all, nq_in_any, nq_in_but, nq_in_also, nq_in_by, nq_in_never, nq_all_word, nq_all_begin, nq_all_row, nq_all_near, nq_all_in, nq_all_all, nq_all_any, nq_all_but, nq_all_also, nq_all_by, nq_all_never, nq_any_word, nq_any_begin, nq_any_row, nq_any_near, nq_any_in, nq_any_all, nq_any_any, nq_any_but, nq_any_also, nq_any_by, nq_any_never, nq_but_word, nq_but_begin, nq_but_row, nq_but_near, nq_but_in, nq_but_all, nq_but_any, nq_but_but, nq_but_also, nq_but_by, nq_but_never, nq_also_word, nq_also_begin, nq_also_row, nq_also_near, nq_also_in, nq_also_all, nq_also_any, nq_also_but, nq_also_also, nq_also_by, nq_also_never, nq_by_word, nq_by_begin, nq_by_row, nq_by_near, nq_by_in, nq_by_all, nq_by_any, nq_by_but, nq_by_also, nq_by_by, nq_by_never, nq_never_word, nq_never_begin, nq_never_row, nq_never_near, nq_never_in, nq_never_all, nq_never_any, nq_never_but, nq_never_also, nq_never_by, nq_never_never, ni_all_any_word, ni_all_any_begin, ni_all_any_row, ni_all_any_near, ni_all_any_in, ni_all_any_all, ni_all_any_any, ni_all_any_but, ni_all_any_also, ni_all_any_by, ni_all_any_never, ni_but_also_word, ni_but_also_begin, ni_but_also_row, ni_but_also_near, ni_but_also_in, ni_but_also_all, ni_but_also_any, ni_but_also_but, ni_but_also_also, ni_but_also_by, ni_but_also_never, ni_by_in_word, ni_by_in_begin, ni_by_in_row, ni_by_in_near, ni_by_in_in, ni_by_in_all, ni_by_in_any, ni_by_in_but, ni_by_in_also, ni_by_in_by, ni_by_in_never, ni_word_begin_row_near_word, ni_word_begin_row_near_begin, ni_word_begin_row_near_row, ni_word_begin_row_near_near, ni_word_begin_row_near_in, ni_word_begin_row_near_all, ni_word_begin_row_near_any, ni_word_begin_row_near_but, ni_word_begin_row_near_also, ni_word_begin_row_near_by, ni_word_begin_row_near_never⟩
end Lw

namespace Lw
open PySem PySem.Spec PyProof.Rows L2 PL Tp
/-! ### askings and the tuples that tell them (k43) -/
abbrev sd (t : Text) : PyData := .str (mkS t)
def okRow (r : List Text) : Prop := 2 ≤ r.length ∧ r.length ≤ 6 ∧ ∀ t ∈ r, Pln t
theorem row_made {r : List Text} (h : okRow r) : m_ORow r = .ok ⟨r⟩ := by
  unfold m_ORow
  rw [within_ok (by have := h.1; omega) (by have := h.2.1; omega), Rs.bd_ok, plains_ok h.2.2]
  rfl
def okNr (q : Int × Text × Text) : Prop := 1 ≤ q.1 ∧ q.1 ≤ 20 ∧ Pln q.2.1 ∧ Pln q.2.2
theorem near_made {n : Int} {a b : Text} (h : okNr (n, a, b)) : m_ONear n a b = .ok ⟨n, (a, b)⟩ := by
  unfold m_ONear
  rw [within_ok h.1 h.2.1, Rs.bd_ok, plains_ok (ws := [a, b]) fun t ht => by
    rcases List.mem_cons.mp ht with rfl | ht
    · exact h.2.2.1
    · rw [List.mem_singleton.mp ht]; exact h.2.2.2]
  rfl
theorem mk_word {w : Text} (h : Pln w) : m_OWord w = .ok ⟨w⟩ := by
  unfold m_OWord
  rw [plains_ok (ws := [w]) fun u hu => by rw [List.mem_singleton.mp hu]; exact h]
  rfl
theorem mk_begin {w : Text} (h : Pln w) : m_OBegin w = .ok ⟨w⟩ := by
  unfold m_OBegin
  rw [plains_ok (ws := [w]) fun u hu => by rw [List.mem_singleton.mp hu]; exact h]
  rfl
theorem mk_all {xs : List Ask} (h : 1 ≤ xs.length) : m_OAll xs = .ok ⟨xs⟩ := by
  unfold m_OAll
  rw [within_ok (by omega) (by omega)]
  rfl
theorem mk_any {xs : List Ask} (h : 1 ≤ xs.length) : m_OAny xs = .ok ⟨xs⟩ := by
  unfold m_OAny
  rw [within_ok (by omega) (by omega)]
  rfl
theorem mk_in {p : Int} {a : Ask} (h : 0 ≤ p) (h2 : p ≤ 2) : m_OIn p a = .ok ⟨p, a⟩ := by
  unfold m_OIn
  rw [within_ok h h2]
  rfl
theorem mk_by {p : Int} {a : Ask} (h : 0 ≤ p) (h2 : p ≤ 999) : m_OBy p a = .ok ⟨p, a⟩ := by
  unfold m_OBy
  rw [within_ok h h2]
  rfl
theorem mk_but (a b : Ask) : m_OBut a b = .ok ⟨a, b⟩ := rfl
theorem mk_also (a b : Ask) : m_OAlso a b = .ok ⟨a, b⟩ := rfl
def Dn (κ : Nat) : Nat → Ask → PyData → Prop
  | 0, _, _ => False
  | _ + 1, .word w, d => Pln w ∧ d = .tuple [sd (tx "word"), sd w]
  | _ + 1, .begin w, d => Pln w ∧ d = .tuple [sd (tx "begin"), sd w]
  | _ + 1, .row ws, d => okRow ws ∧ d = .tuple [sd (tx "row"), .tuple (ws.map fun y => .str (mkS y))]
  | _ + 1, .near n a b, d => okNr (n, a, b) ∧ d = .tuple [sd (tx "near"), .int n, sd a, sd b]
  | n + 1, .in_ p a, d => ∃ e, d = .tuple [sd (tx "in"), .int p, e] ∧ Dn κ n a e ∧ 0 ≤ p ∧ p ≤ 2
  | n + 1, .all xs, d => ∃ ds, d = .tuple [sd (tx "all"), .tuple ds] ∧ Paired (Dn κ n) xs ds ∧ 1 ≤ xs.length ∧ xs.length ≤ κ
  | n + 1, .any xs, d => ∃ ds, d = .tuple [sd (tx "any"), .tuple ds] ∧ Paired (Dn κ n) xs ds ∧ 1 ≤ xs.length ∧ xs.length ≤ κ
  | n + 1, .but a b, d => ∃ e f, d = .tuple [sd (tx "but"), e, f] ∧ Dn κ n a e ∧ Dn κ n b f
  | n + 1, .also a b, d => ∃ e f, d = .tuple [sd (tx "also"), e, f] ∧ Dn κ n a e ∧ Dn κ n b f
  | n + 1, .by_ c a, d => ∃ e, d = .tuple [sd (tx "by"), .int c, e] ∧ Dn κ n a e ∧ 0 ≤ c ∧ c ≤ 999
  | _ + 1, .never, d => d = .tuple [sd (tx "never")]
theorem Dn.up {κ : Nat} : ∀ {n : Nat} {a : Ask} {d : PyData} {m : Nat}, Dn κ n a d → n ≤ m → Dn κ m a d
  | 0, _, _, _, h, _ => h.elim
  | n + 1, a, d, 0, h, hm => absurd hm (by omega)
  | n + 1, a, d, m + 1, h, hm => by
    have hm : n ≤ m := by omega
    cases a with
    | word w => exact h
    | begin w => exact h
    | row w => exact h
    | near w => exact h
    | in_ p a => obtain ⟨e, h1, h2, h3⟩ := h; exact ⟨e, h1, Dn.up h2 hm, h3⟩
    | all xs => obtain ⟨ds, h1, h2, h3⟩ := h; exact ⟨ds, h1, pmono (fun _ _ q => Dn.up q hm) h2, h3⟩
    | any xs => obtain ⟨ds, h1, h2, h3⟩ := h; exact ⟨ds, h1, pmono (fun _ _ q => Dn.up q hm) h2, h3⟩
    | but a b => obtain ⟨e, f, h1, h2, h3⟩ := h; exact ⟨e, f, h1, Dn.up h2 hm, Dn.up h3 hm⟩
    | also a b => obtain ⟨e, f, h1, h2, h3⟩ := h; exact ⟨e, f, h1, Dn.up h2 hm, Dn.up h3 hm⟩
    | by_ c a => obtain ⟨e, h1, h2, h3⟩ := h; exact ⟨e, h1, Dn.up h2 hm, h3⟩
    | never => exact h
def nmA : Ask → Text
  | .word _ => tx "word"
  | .begin _ => tx "begin"
  | .row _ => tx "row"
  | .near .. => tx "near"
  | .in_ .. => tx "in"
  | .all _ => tx "all"
  | .any _ => tx "any"
  | .but .. => tx "but"
  | .also .. => tx "also"
  | .by_ .. => tx "by"
  | .never => tx "never"
theorem Dn.nm {κ n : Nat} {a : Ask} {d : PyData} (h : Dn κ n a d) : ∃ ds, d = .tuple (sd (nmA a) :: ds) := by
  cases n with
  | zero => exact h.elim
  | succ n =>
    cases a with
    | word w => exact ⟨_, h.2⟩
    | begin w => exact ⟨_, h.2⟩
    | row w => exact ⟨_, h.2⟩
    | near w => exact ⟨_, h.2⟩
    | in_ p a => obtain ⟨e, h1, h2, h3⟩ := h; exact ⟨_, h1⟩
    | all xs => obtain ⟨ds, h1, h2, h3⟩ := h; exact ⟨_, h1⟩
    | any xs => obtain ⟨ds, h1, h2, h3⟩ := h; exact ⟨_, h1⟩
    | but a b => obtain ⟨e, f, h1, h2, h3⟩ := h; exact ⟨_, h1⟩
    | also a b => obtain ⟨e, f, h1, h2⟩ := h; exact ⟨_, h1⟩
    | by_ c a => obtain ⟨e, h1, h2⟩ := h; exact ⟨_, h1⟩
    | never => exact ⟨[], h⟩
theorem ixP0 (x : PyData) (ds : List PyData) : ixP (.tuple (x :: ds)) (0 : Int) = .ok x := ixR_at (j := 0) rfl rfl
theorem ixP1 (x y : PyData) (ds : List PyData) : ixP (.tuple (x :: y :: ds)) (1 : Int) = .ok y := ixR_at (j := 1) rfl rfl
theorem ixP2 (x y z : PyData) (ds : List PyData) : ixP (.tuple (x :: y :: z :: ds)) (2 : Int) = .ok z := ixR_at (j := 2) rfl rfl
theorem ixP3 (x y z u : PyData) (ds : List PyData) : ixP (.tuple (x :: y :: z :: u :: ds)) (3 : Int) = .ok u := ixR_at (j := 3) rfl rfl
theorem nm_is {κ n : Nat} {a : Ask} {d : PyData} (h : Dn κ n a d) (x : Text) : ((ixP d (0 : Int)).bd fun v => (asC v).bd fun c => Rs.ok (decide (c = x))) = .ok (decide (nmA a = x)) := by
  obtain ⟨ds, rfl⟩ := h.nm
  rw [ixP0, Rs.bd_ok, asC_str]
  rfl
theorem nm_in {κ n : Nat} {a : Ask} {d : PyData} (h : Dn κ n a d) (xs : List Text) : ((ixP d (0 : Int)).bd fun v => (asC v).bd fun c => Rs.ok (isin c xs)) = .ok (isin (nmA a) xs) := by
  obtain ⟨ds, rfl⟩ := h.nm
  rw [ixP0, Rs.bd_ok, asC_str]
  rfl
theorem mapR_pr {α β : Type} {F : α → β → Prop} {f : α → Rs β} : ∀ {xs : List α} {ys : List β}, Paired F xs ys → (∀ x y, x ∈ xs → F x y → f x = .ok y) → mapR f xs = .ok ys
  | _, _, .nil, _ => rfl
  | _, _, .cons h t, hf => by
    unfold mapR
    rw [hf _ _ (List.mem_cons_self ..) h, mapR_pr t fun x y hx => hf x y (List.mem_cons_of_mem _ hx)]
    rfl
theorem told_ok {κ : Nat} : ∀ {n : Nat} {a : Ask} {d : PyData} {m : Nat}, Dn κ n a d → n ≤ m → m_A_told m a = .ok d
  | 0, _, _, _, h, _ => h.elim
  | n + 1, a, d, 0, h, hm => absurd hm (by omega)
  | n + 1, a, d, m + 1, h, hm => by
    have hm : n ≤ m := by omega
    cases a with
    | word w => obtain ⟨_, rfl⟩ := h; rfl
    | begin w => obtain ⟨_, rfl⟩ := h; rfl
    | row w => obtain ⟨_, rfl⟩ := h; rfl
    | near c x y =>
      obtain ⟨_, rfl⟩ := h
      show mF_Near_told (m_A_told m) ⟨c, (x, y)⟩ = _
      unfold mF_Near_told
      rw [show asT (PyData.tuple [(PyData.str (mkS (tx "near"))), (PyData.int c)]) = .ok [.str (mkS (tx "near")), .int c] from rfl, Rs.bd_ok]
      show (((asT (PyData.tuple [(PyData.str (mkS x)), (PyData.str (mkS y))])).bd fun c_3 => (catR [.str (mkS (tx "near")), .int c] c_3).bd fun v_4 => Rs.ok (PyData.tuple v_4)).bd fun z_5 => Rs.ok z_5) = _
      rw [show asT (PyData.tuple [(PyData.str (mkS x)), (PyData.str (mkS y))]) = .ok [.str (mkS x), .str (mkS y)] from rfl, Rs.bd_ok, catR_ok (by show 4 ≤ 16777216; decide)]
      rfl
    | in_ p a =>
      obtain ⟨e, rfl, h2, _⟩ := h
      show mF_In_told (m_A_told m) ⟨p, a⟩ = _
      unfold mF_In_told
      rw [told_ok h2 hm]
      rfl
    | all xs =>
      obtain ⟨ds, rfl, h2, _⟩ := h
      show mF_All_told (m_A_told m) ⟨xs⟩ = _
      unfold mF_All_told
      rw [show mapR (fun x => m_A_told m x) xs = .ok ds from mapR_pr h2 fun x y _ q => told_ok q hm]
      rfl
    | any xs =>
      obtain ⟨ds, rfl, h2, _⟩ := h
      show mF_Any_told (m_A_told m) ⟨xs⟩ = _
      unfold mF_Any_told
      rw [show mapR (fun x => m_A_told m x) xs = .ok ds from mapR_pr h2 fun x y _ q => told_ok q hm]
      rfl
    | but a b =>
      obtain ⟨e, f, rfl, h2, h3⟩ := h
      show mF_But_told (m_A_told m) ⟨a, b⟩ = _
      unfold mF_But_told
      rw [told_ok h2 hm, Rs.bd_ok, told_ok h3 hm]
      rfl
    | also a b =>
      obtain ⟨e, f, rfl, h2, h3⟩ := h
      show mF_Also_told (m_A_told m) ⟨a, b⟩ = _
      unfold mF_Also_told
      rw [told_ok h2 hm, Rs.bd_ok, told_ok h3 hm]
      rfl
    | by_ c a =>
      obtain ⟨e, rfl, h2, _⟩ := h
      show mF_By_told (m_A_told m) ⟨c, a⟩ = _
      unfold mF_By_told
      rw [told_ok h2 hm]
      rfl
    | never => cases h; rfl
def inA : Ask → List Ask
  | .in_ _ a => [a]
  | .all xs => xs
  | .any xs => xs
  | .but a b => [a, b]
  | .also a b => [a, b]
  | .by_ _ a => [a]
  | _ => []
theorem inner_A (a : Ask) : m_A_inner_ones a = .ok (inA a) := by cases a <;> rfl
end Lw

namespace Lw
open PySem PySem.Spec PyProof.Rows L2 PL Tp
theorem depthAll_le5 {n : Nat} : ∀ {xs : List PyData}, (∀ x ∈ xs, PyData.depth x ≤ n) → PyData.depthAll xs ≤ n
  | [], _ => by rw [PyData.depthAll]; exact Nat.zero_le _
  | x :: xs, h => by
    rw [PyData.depthAll]
    have h1 := h x (List.mem_cons_self ..)
    have h2 := depthAll_le5 fun y hy => h y (List.mem_cons_of_mem _ hy)
    omega
/-! ### when two askings are told alike -/
def StP : Nat → PyData → Prop
  | 0, d => (∃ i, d = .int i) ∨ ∃ t : Text, d = sd t
  | n + 1, d => ((∃ i, d = .int i) ∨ ∃ t : Text, d = sd t) ∨ ∃ xs, d = .tuple xs ∧ ∀ x ∈ xs, StP n x
theorem StP.s {n : Nat} {t : Text} : StP n (sd t) := by
  cases n with
  | zero => exact .inr ⟨t, rfl⟩
  | succ n => exact .inl (.inr ⟨t, rfl⟩)
theorem StP.i {n : Nat} {i : Int} : StP n (.int i) := by
  cases n with
  | zero => exact .inl ⟨i, rfl⟩
  | succ n => exact .inl (.inl ⟨i, rfl⟩)
theorem StP.t {n : Nat} {xs : List PyData} (h : ∀ x ∈ xs, StP n x) : StP (n + 1) (.tuple xs) := .inr ⟨xs, rfl, h⟩
theorem StP.dep : ∀ {n : Nat} {d : PyData}, StP n d → PyData.depth d ≤ n
  | 0, d, h => by
    rcases h with ⟨i, rfl⟩ | ⟨t, rfl⟩ <;> rw [PyData.depth] <;> exact Nat.le_refl _
  | n + 1, d, h => by
    rcases h with (⟨i, rfl⟩ | ⟨t, rfl⟩) | ⟨xs, rfl, h⟩
    · rw [PyData.depth]; exact Nat.zero_le _
    · rw [PyData.depth]; exact Nat.zero_le _
    · rw [PyData.depth]
      have := depthAll_le5 fun x hx => StP.dep (h x hx)
      omega
theorem eqvAll_eq : ∀ {xs ys : List PyData}, (∀ x ∈ xs, ∀ y ∈ ys, PyData.eqv x y = true ↔ x = y) → (PyData.eqvAll xs ys = true ↔ xs = ys)
  | [], [], _ => by rw [PyData.eqvAll]; exact ⟨fun _ => rfl, fun _ => rfl⟩
  | [], y :: ys, _ => by
    rw [PyData.eqvAll]
    exact ⟨(fun z => nomatch z), (fun z => nomatch z)⟩
  | x :: xs, [], _ => by
    rw [PyData.eqvAll]
    exact ⟨(fun z => nomatch z), (fun z => nomatch z)⟩
  | x :: xs, y :: ys, h => by
    rw [PyData.eqvAll, Bool.and_eq_true, h x (List.mem_cons_self ..) y (List.mem_cons_self ..), eqvAll_eq fun x hx y hy => h x (List.mem_cons_of_mem _ hx) y (List.mem_cons_of_mem _ hy)]
    constructor
    · rintro ⟨p, q⟩
      rw [p, q]
    · intro z
      cases z
      exact ⟨rfl, rfl⟩
theorem eqv_flat {d e : PyData} (hd : (∃ i, d = .int i) ∨ ∃ t : Text, d = sd t) (he : (∃ i, e = .int i) ∨ ∃ t : Text, e = sd t) : PyData.eqv d e = true ↔ d = e := by
  rcases hd with ⟨i, rfl⟩ | ⟨t, rfl⟩ <;> rcases he with ⟨j, rfl⟩ | ⟨u, rfl⟩
  · rw [PyData.eqv, beq_iff_eq]
    exact ⟨(fun z => by rw [z]), (fun z => PyData.int.inj z)⟩
  · rw [PyData.eqv]; exact ⟨(fun z => (Bool.false_ne_true z).elim), (fun z => nomatch z)⟩
  · rw [PyData.eqv]; exact ⟨(fun z => (Bool.false_ne_true z).elim), (fun z => nomatch z)⟩
  · exact ⟨(fun z => by rw [((dC (K := default)).eqv t u).mp z]), (fun z => by
      rw [z]; exact ((dC (K := default)).eqv u u).mpr rfl)⟩
theorem eqv_ft {d : PyData} (hd : (∃ i, d = .int i) ∨ ∃ t : Text, d = sd t) (xs : List PyData) : (PyData.eqv d (.tuple xs) = true ↔ d = .tuple xs) ∧ (PyData.eqv (.tuple xs) d = true ↔ .tuple xs = d) := by
  rcases hd with ⟨i, rfl⟩ | ⟨t, rfl⟩ <;> rw [PyData.eqv, PyData.eqv] <;> exact ⟨⟨(fun z => (Bool.false_ne_true z).elim), (fun z => nomatch z)⟩, ⟨(fun z => (Bool.false_ne_true z).elim), (fun z => nomatch z)⟩⟩
theorem StP.eqv : ∀ {n : Nat} {d e : PyData}, StP n d → StP n e → (PyData.eqv d e = true ↔ d = e)
  | 0, d, e, hd, he => eqv_flat hd he
  | n + 1, d, e, hd, he => by
    rcases hd with hd | ⟨xs, rfl, hx⟩ <;> rcases he with he | ⟨ys, rfl, hy⟩
    · exact eqv_flat hd he
    · exact (eqv_ft hd ys).1
    · exact (eqv_ft he xs).2
    · rw [PyData.eqv, eqvAll_eq fun x h1 y h2 => StP.eqv (hx x h1) (hy y h2)]
      exact ⟨(fun z => by rw [z]), (fun z => PyData.tuple.inj z)⟩
theorem StP.up : ∀ {n m : Nat} {d : PyData}, StP n d → n ≤ m → StP m d
  | 0, m, d, h, _ => by rcases h with ⟨i, rfl⟩ | ⟨t, rfl⟩ <;> first | exact StP.i | exact StP.s
  | n + 1, 0, d, h, hm => absurd hm (by omega)
  | n + 1, m + 1, d, h, hm => by
    rcases h with h | ⟨xs, rfl, h⟩
    · exact .inl h
    · exact .inr ⟨xs, rfl, fun x hx => StP.up (h x hx) (by omega)⟩
theorem m2 {n : Nat} {a b : PyData} (h1 : StP n a) (h2 : StP n b) : ∀ x ∈ [a, b], StP n x := fun x hx => by
  rcases List.mem_cons.mp hx with rfl | hx
  · exact h1
  · rw [List.mem_singleton.mp hx]; exact h2
theorem m3 {n : Nat} {a b c : PyData} (h1 : StP n a) (h2 : StP n b) (h3 : StP n c) : ∀ x ∈ [a, b, c], StP n x := fun x hx => by
  rcases List.mem_cons.mp hx with rfl | hx
  · exact h1
  · exact m2 h2 h3 x hx
theorem Dn.stp {κ : Nat} : ∀ {n : Nat} {a : Ask} {d : PyData}, Dn κ n a d → StP (2 * n) d
  | 0, _, _, h => h.elim
  | n + 1, a, d, h => by
    have many : ∀ {bs : List Ask} {ds : List PyData}, Paired (Dn κ n) bs ds → ∀ x ∈ ds, StP (2 * n) x := by
      intro bs ds h
      induction h with
      | nil => exact fun x hx => by cases hx
      | cons q _ ih =>
        intro x hx
        rcases List.mem_cons.mp hx with rfl | hx
        · exact Dn.stp q
        · exact ih x hx
    have up : ∀ {e : PyData}, StP (2 * n) e → StP (2 * n + 1) e := fun h => h.up (by omega)
    show StP (2 * n + 1 + 1) d
    cases a with
    | word w => rw [h.2]; exact .t (m2 .s .s)
    | begin w => rw [h.2]; exact .t (m2 .s .s)
    | row w => rw [h.2]; exact .t (m2 .s (.t fun x hx => by obtain ⟨y, _, rfl⟩ := List.mem_map.mp hx; exact .s))
    | near n a b =>
      rw [h.2]
      refine .t fun x hx => ?_
      rcases List.mem_cons.mp hx with rfl | hx
      · exact .s
      · exact m3 .i .s .s x hx
    | in_ p a => obtain ⟨e, rfl, h2, _⟩ := h; exact .t (m3 .s .i (up (Dn.stp h2)))
    | all xs => obtain ⟨ds, rfl, h2, _⟩ := h; exact .t (m2 .s (.t (many h2)))
    | any xs => obtain ⟨ds, rfl, h2, _⟩ := h; exact .t (m2 .s (.t (many h2)))
    | but a b => obtain ⟨e, f, rfl, h2, h3⟩ := h; exact .t (m3 .s (up (Dn.stp h2)) (up (Dn.stp h3)))
    | also a b => obtain ⟨e, f, rfl, h2, h3⟩ := h; exact .t (m3 .s (up (Dn.stp h2)) (up (Dn.stp h3)))
    | by_ c a => obtain ⟨e, rfl, h2, _⟩ := h; exact .t (m3 .s .i (up (Dn.stp h2)))
    | never => rw [show d = _ from h]; exact .t fun x hx => by rw [List.mem_singleton.mp hx]; exact .s
theorem eqP_dn {κ κ' n n' : Nat} {a a' : Ask} {d d' : PyData} {b : Bool} (h : Dn κ n a d) (h' : Dn κ' n' a' d') (hn : n ≤ 30) (hn' : n' ≤ 30) (hb : b = true ↔ d = d') : eqPR d d' = .ok b := by
  have h1 := (Dn.stp h).up (show 2 * n ≤ 60 by omega)
  have h2 := (Dn.stp h').up (show 2 * n' ≤ 60 by omega)
  unfold eqPR
  rw [Rs.gd_pos ⟨Nat.le_trans h1.dep (by decide), Nat.le_trans h2.dep (by decide)⟩]
  congr 1
  have e := StP.eqv h1 h2
  cases hx : PyData.eqv d d' with
  | true => exact (hb.mpr (e.mp hx)).symm
  | false =>
    cases b with
    | true => rw [e.mpr (hb.mp rfl)] at hx; cases hx
    | false => rfl
theorem self_dn {κ n : Nat} {a : Ask} {d : PyData} (h : Dn κ n a d) (hn : n ≤ 30) : eqPR d d = .ok true := eqP_dn h h hn hn (by simp)
end Lw

namespace Lw
open PySem PySem.Spec PyProof.Rows L2 PL Tp
/-! ### repr of nested tuples tells them apart -/
theorem tx_cat (a b : Str) : tx (a ++ b) = tx a ++ tx b := Array.toList_append
theorem rc_plain : ∀ c ∈ lsgn, PySem.Builtin.Str.reprChar 39 c = [c] := by decide +kernel
theorem nq_plain : (39 : Nat) ∉ lsgn := by decide +kernel
theorem rt_fold : ∀ {l : List Nat} {acc : Array Nat}, (∀ c ∈ l, c ∈ lsgn) → (l.foldl (fun out c => out ++ (PySem.Builtin.Str.reprChar 39 c).toArray) acc).toList = acc.toList ++ l
  | [], acc, _ => by rw [List.foldl_nil, List.append_nil]
  | c :: l, acc, h => by
    rw [List.foldl_cons, rt_fold fun x hx => h x (List.mem_cons_of_mem _ hx), rc_plain c (h c (List.mem_cons_self ..)), Array.toList_append]
    show (acc.toList ++ [c]) ++ l = _
    rw [List.append_assoc]
    rfl
theorem rq_plain {t : Text} (h : ∀ c ∈ t, c ∈ lsgn) : PySem.reprQuote (mkS t) = 39 := by
  unfold PySem.reprQuote
  have : (mkS t).cps.contains 39 = false := by
    rw [Bool.eq_false_iff]
    intro z
    rw [Array.contains_iff_mem] at z
    have z : 39 ∈ t := by
      have := Array.mem_toList_iff.mpr z
      simpa [mkS] using this
    exact nq_plain (h _ z)
  rw [this]
  rfl
abbrev shT (d : PyData) : Text := tx d.shown
theorem sh_str {t : Text} (h : ∀ c ∈ t, c ∈ lsgn) : shT (.str (mkS t)) = 39 :: (t ++ [39]) := by
  show tx (PyData.shown (.str (mkS t))) = _
  rw [PyData.shown]
  unfold PySem.reprText
  rw [rq_plain h]
  show (Array.push _ _).toList = _
  rw [Array.toList_push, ← Array.foldl_toList]
  rw [show (mkS t).cps.toList = t from tx_mk t, rt_fold h]
  rfl
def dgT (i : Int) : Text := shT (.int i)
def deT (t : Text) : Nat := t.foldl (fun n c => 10 * n + (c - 48)) 0
def dgB (n : Nat) : Bool := decide (dgT (n : Int) ≠ []) && (decide ((dgT (n : Int)).length ≤ 3) && ((dgT (n : Int)).all (fun c => decide (48 ≤ c) && decide (c ≤ 57)) && decide (deT (dgT (n : Int)) = n)))
theorem dgs : ∀ n : Fin 1000, dgB n.val = true := by decide +kernel
structure DgT (i : Int) : Prop where
  ne : dgT i ≠ []
  len : (dgT i).length ≤ 3
  dig : ∀ c ∈ dgT i, 48 ≤ c ∧ c ≤ 57
  de : ((deT (dgT i) : Nat) : Int) = i
theorem dg_ok {i : Int} (h0 : 0 ≤ i) (h1 : i < 1000) : DgT i := by
  have h := dgs ⟨i.toNat, by omega⟩
  have e : ((i.toNat : Nat) : Int) = i := by omega
  unfold dgB at h
  simp only [Bool.and_eq_true, decide_eq_true_eq, e, List.all_eq_true] at h
  obtain ⟨a, b, c, d⟩ := h
  exact ⟨a, b, c, by rw [d]; exact e⟩
def tlT : List PyData → Text
  | [] => [41]
  | x :: xs => 44 :: 32 :: (shT x ++ tlT xs)
theorem tx_sep : tx (", " : String) = [44, 32] := by decide +kernel
theorem tx_lp : tx ("(" : String) = [40] := by decide +kernel
theorem tx_rp : tx (")" : String) = [41] := by decide +kernel
theorem tx_crp : tx (",)" : String) = [44, 41] := by decide +kernel
theorem join_sh : ∀ (x : PyData) (xs : List PyData), tx (Str.join ", " (PyData.shownAll (x :: xs))) ++ [41] = shT x ++ tlT xs
  | x, [] => by
    rw [PyData.shownAll, PyData.shownAll]
    rfl
  | x, y :: ys => by
    have ih := join_sh y ys
    rw [PyData.shownAll, PyData.shownAll, Str.join, tx_cat, tx_cat, tx_sep, List.append_assoc, List.append_assoc, ← PyData.shownAll, ih]
    · rfl
    · intro z; cases z
theorem shA_len : ∀ xs : List PyData, (PyData.shownAll xs).length = xs.length
  | [] => by rw [PyData.shownAll]; rfl
  | x :: xs => by rw [PyData.shownAll, List.length_cons, List.length_cons, shA_len xs]
theorem sh_one (x : PyData) : shT (.tuple [x]) = 40 :: (shT x ++ [44, 41]) := by
  show tx (PyData.shown (.tuple [x])) = _
  rw [PyData.shown, PySem.tupleText, PyData.shownAll, PyData.shownAll, tx_cat, tx_cat, tx_lp]
  rw [show (if ([PyData.shown x].length == 1) = true then (",)" : String) else (")" : String)) = (",)" : String) from rfl, tx_crp]
  rfl
theorem sh_more (x y : PyData) (ys : List PyData) : shT (.tuple (x :: y :: ys)) = 40 :: (shT x ++ tlT (y :: ys)) := by
  show tx (PyData.shown (.tuple (x :: y :: ys))) = _
  rw [PyData.shown, PySem.tupleText, tx_cat, tx_cat, tx_lp]
  have e : ((PyData.shownAll (x :: y :: ys)).length == 1) = false := by
    rw [shA_len, List.length_cons, List.length_cons, beq_eq_false_iff_ne]
    omega
  rw [e, if_neg Bool.false_ne_true, tx_rp, List.append_assoc, join_sh]
  rfl
def Sh : Nat → PyData → Prop
  | 0, d => (∃ i : Int, d = .int i ∧ 0 ≤ i ∧ i < 1000) ∨ ∃ t : Text, d = .str (mkS t) ∧ ∀ c ∈ t, c ∈ lsgn
  | n + 1, d => ((∃ i : Int, d = .int i ∧ 0 ≤ i ∧ i < 1000) ∨ ∃ t : Text, d = .str (mkS t) ∧ ∀ c ∈ t, c ∈ lsgn) ∨ ∃ x xs, d = .tuple (x :: xs) ∧ ∀ y ∈ x :: xs, Sh n y
abbrev ShF (d : PyData) : Prop := (∃ i : Int, d = .int i ∧ 0 ≤ i ∧ i < 1000) ∨ ∃ t : Text, d = .str (mkS t) ∧ ∀ c ∈ t, c ∈ lsgn
theorem Sh.f {n : Nat} {d : PyData} (h : ShF d) : Sh n d := by
  cases n with
  | zero => exact h
  | succ n => exact .inl h
theorem Sh.s {n : Nat} {t : Text} (h : ∀ c ∈ t, c ∈ lsgn) : Sh n (.str (mkS t)) := .f (.inr ⟨t, rfl, h⟩)
theorem Sh.i {n : Nat} {i : Int} (h : 0 ≤ i) (h2 : i < 1000) : Sh n (.int i) := .f (.inl ⟨i, rfl, h, h2⟩)
theorem Sh.t {n : Nat} {x : PyData} {xs : List PyData} (h : ∀ y ∈ x :: xs, Sh n y) : Sh (n + 1) (.tuple (x :: xs)) := .inr ⟨x, xs, rfl, h⟩
theorem Sh.up : ∀ {n m : Nat} {d : PyData}, Sh n d → n ≤ m → Sh m d
  | 0, m, d, h, _ => .f h
  | n + 1, 0, d, h, hm => absurd hm (by omega)
  | n + 1, m + 1, d, h, hm => by
    rcases h with h | ⟨x, xs, rfl, h⟩
    · exact .inl h
    · exact .inr ⟨x, xs, rfl, fun x hx => Sh.up (h x hx) (by omega)⟩
def Sep (u : Text) : Prop := ∀ c, u.head? = some c → c = 41 ∨ c = 44
theorem run_inj {p : Nat → Prop} : ∀ {a b u v : Text}, (∀ c ∈ a, p c) → (∀ c ∈ b, p c) → (∀ c, u.head? = some c → ¬ p c) → (∀ c, v.head? = some c → ¬ p c) → a ++ u = b ++ v → a = b ∧ u = v
  | [], [], _, _, _, _, _, _, h => ⟨rfl, h⟩
  | [], y :: b, u, v, _, hb, hu, _, h => by
    rw [List.nil_append] at h
    exact absurd (hb y (List.mem_cons_self ..)) (hu y (by rw [h]; rfl))
  | x :: a, [], u, v, ha, _, _, hv, h => by
    rw [List.nil_append] at h
    exact absurd (ha x (List.mem_cons_self ..)) (hv x (by rw [← h]; rfl))
  | x :: a, y :: b, u, v, ha, hb, hu, hv, h => by
    rw [List.cons_append, List.cons_append] at h
    injection h with h1 h2
    obtain ⟨e1, e2⟩ := run_inj (fun c hc => ha c (List.mem_cons_of_mem _ hc)) (fun c hc => hb c (List.mem_cons_of_mem _ hc)) hu hv h2
    exact ⟨by rw [h1, e1], e2⟩
theorem int_hd {i : Int} (h : DgT i) (u : Text) : ∃ c r, shT (.int i) ++ u = c :: r ∧ 48 ≤ c ∧ c ≤ 57 := by
  have h1 := h.ne
  have h2 := h.dig
  unfold dgT at h1 h2
  cases e : shT (.int i) with
  | nil => exact absurd e h1
  | cons c r => exact ⟨c, r ++ u, rfl, h2 c (by rw [e]; exact List.mem_cons_self ..)⟩
theorem str_hd {t : Text} (h : ∀ c ∈ t, c ∈ lsgn) (u : Text) : shT (.str (mkS t)) ++ u = 39 :: (t ++ 39 :: u) := by
  rw [sh_str h, List.cons_append, List.append_assoc]
  rfl
theorem flat_inj {d e : PyData} {u v : Text} (hd : ShF d) (he : ShF e) (hu : Sep u) (hv : Sep v) (h : shT d ++ u = shT e ++ v) : d = e ∧ u = v := by
  rcases hd with ⟨i, rfl, i0, i1⟩ | ⟨t, rfl, ht⟩ <;> rcases he with ⟨j, rfl, j0, j1⟩ | ⟨s, rfl, hs⟩
  · have a := dg_ok i0 i1
    have b := dg_ok j0 j1
    have nd : ∀ {w : Text}, Sep w → ∀ c, w.head? = some c → ¬ (48 ≤ c ∧ c ≤ 57) := fun hw c hc z => by
      rcases hw c hc with e | e <;> subst e <;> omega
    obtain ⟨e1, e2⟩ := run_inj (p := fun c => 48 ≤ c ∧ c ≤ 57) a.dig b.dig (nd hu) (nd hv) h
    refine ⟨?_, e2⟩
    rw [← a.de, ← b.de, e1]
  · obtain ⟨c, r, e, c1, c2⟩ := int_hd (dg_ok i0 i1) u
    rw [e, str_hd hs] at h
    injection h with h1 _
    omega
  · obtain ⟨c, r, e, c1, c2⟩ := int_hd (dg_ok j0 j1) v
    rw [e, str_hd ht] at h
    injection h with h1 _
    omega
  · rw [str_hd ht, str_hd hs] at h
    injection h with _ h2
    obtain ⟨e1, e2⟩ := run_inj (p := (· ∈ lsgn)) ht hs (fun c hc => by cases hc; exact nq_plain) (fun c hc => by cases hc; exact nq_plain) h2
    injection e2 with _ e2
    exact ⟨by rw [e1], e2⟩
theorem flat_hd {d : PyData} (hd : ShF d) (u : Text) : ∃ c r, shT d ++ u = c :: r ∧ c ≠ 40 := by
  rcases hd with ⟨i, rfl, i0, i1⟩ | ⟨t, rfl, ht⟩
  · obtain ⟨c, r, e, c1, c2⟩ := int_hd (dg_ok i0 i1) u
    exact ⟨c, r, e, by omega⟩
  · exact ⟨39, _, str_hd ht u, by decide⟩
theorem tup_hd (x : PyData) (xs : List PyData) (u : Text) : ∃ w, (shT (.tuple (x :: xs)) ++ u = 40 :: (shT x ++ w)) ∧ ((xs = [] ∧ w = 44 :: 41 :: u) ∨ (∃ y ys, xs = y :: ys ∧ w = tlT xs ++ u)) := by
  cases xs with
  | nil => exact ⟨_, by rw [sh_one, List.cons_append, List.append_assoc]; rfl, .inl ⟨rfl, rfl⟩⟩
  | cons y ys => exact ⟨_, by rw [sh_more, List.cons_append, List.append_assoc], .inr ⟨y, ys, rfl, rfl⟩⟩
theorem sep_tl (xs : List PyData) (u : Text) : Sep (tlT xs ++ u) := by
  intro c hc
  cases xs with
  | nil => cases hc; exact .inl rfl
  | cons y ys => cases hc; exact .inr rfl
theorem tl_inj {P : PyData → Prop} (hP : ∀ d e u v, P d → P e → Sep u → Sep v → shT d ++ u = shT e ++ v → d = e ∧ u = v) : ∀ {xs ys : List PyData} {u v : Text}, (∀ x ∈ xs, P x) → (∀ y ∈ ys, P y) → tlT xs ++ u = tlT ys ++ v → xs = ys ∧ u = v
  | [], [], u, v, _, _, h => by
    injection h with _ h
    exact ⟨rfl, h⟩
  | [], y :: ys, u, v, _, _, h => by
    injection h with h _
    exact absurd h (by decide)
  | x :: xs, [], u, v, _, _, h => by
    injection h with h _
    exact absurd h (by decide)
  | x :: xs, y :: ys, u, v, hx, hy, h => by
    injection h with _ h
    injection h with _ h
    have h : (shT x ++ tlT xs) ++ u = (shT y ++ tlT ys) ++ v := h
    rw [List.append_assoc, List.append_assoc] at h
    obtain ⟨e1, e2⟩ := hP x y _ _ (hx x (List.mem_cons_self ..)) (hy y (List.mem_cons_self ..)) (sep_tl _ _) (sep_tl _ _) h
    obtain ⟨e3, e4⟩ := tl_inj hP (fun z hz => hx z (List.mem_cons_of_mem _ hz)) (fun z hz => hy z (List.mem_cons_of_mem _ hz)) e2
    exact ⟨by rw [e1, e3], e4⟩
theorem sh_inj : ∀ (n : Nat) (d e : PyData) (u v : Text), Sh n d → Sh n e → Sep u → Sep v → shT d ++ u = shT e ++ v → d = e ∧ u = v
  | 0, d, e, u, v, hd, he, hu, hv, h => flat_inj hd he hu hv h
  | n + 1, d, e, u, v, hd, he, hu, hv, h => by
    rcases hd with hd | ⟨x, xs, rfl, hx⟩ <;> rcases he with he | ⟨y, ys, rfl, hy⟩
    · exact flat_inj hd he hu hv h
    · obtain ⟨c, r, e1, e2⟩ := flat_hd hd u
      obtain ⟨w, e3, _⟩ := tup_hd y ys v
      rw [e1, e3] at h
      injection h with h _
      exact absurd h e2
    · obtain ⟨c, r, e1, e2⟩ := flat_hd he v
      obtain ⟨w, e3, _⟩ := tup_hd x xs u
      rw [e1, e3] at h
      injection h with h _
      exact absurd h.symm e2
    · obtain ⟨w, e1, q1⟩ := tup_hd x xs u
      obtain ⟨z, e2, q2⟩ := tup_hd y ys v
      rw [e1, e2] at h
      injection h with _ h
      have sp : ∀ {zs : List PyData} {w t : Text}, ((zs = [] ∧ w = 44 :: 41 :: t) ∨ (∃ y ys, zs = y :: ys ∧ w = tlT zs ++ t)) → Sep w := fun h => by
        rcases h with ⟨_, rfl⟩ | ⟨_, _, _, rfl⟩
        · intro c hc; cases hc; exact .inr rfl
        · exact sep_tl _ _
      obtain ⟨rfl, e4⟩ := sh_inj n x y w z (hx x (List.mem_cons_self ..)) (hy y (List.mem_cons_self ..)) (sp q1) (sp q2) h
      have hx' : ∀ z ∈ xs, Sh n z := fun z hz => hx z (List.mem_cons_of_mem _ hz)
      have hy' : ∀ z ∈ ys, Sh n z := fun z hz => hy z (List.mem_cons_of_mem _ hz)
      rcases q1 with ⟨rfl, rfl⟩ | ⟨a, as, rfl, rfl⟩ <;> rcases q2 with ⟨rfl, rfl⟩ | ⟨b, bs, rfl, rfl⟩
      · injection e4 with _ e4
        injection e4 with _ e4
        exact ⟨rfl, e4⟩
      · injection e4 with _ e4
        injection e4 with e4 _
        exact absurd e4 (by decide)
      · injection e4 with _ e4
        injection e4 with e4 _
        exact absurd e4 (by decide)
      · obtain ⟨e5, e6⟩ := tl_inj (sh_inj n) hx' hy' e4
        exact ⟨by rw [e5], e6⟩
theorem shT_inj {n m : Nat} {d e : PyData} (hd : Sh n d) (he : Sh m e) (h : shT d = shT e) : d = e := by
  have sep : Sep [] := fun c hc => by cases hc
  exact (sh_inj (max n m) d e [] [] (hd.up (by omega)) (he.up (by omega)) sep sep (by rw [h])).1
/-! ### what repr asks -/
theorem Sh.showable : ∀ {n : Nat} {d : PyData}, Sh n d → d.showable = true ∧ d.hasDict = false ∧ d.depth ≤ n ∧ ∀ c ∈ shT d, c < 128
  | n, d, h => by
    have flat : ShF d → d.showable = true ∧ d.hasDict = false ∧ d.depth ≤ n ∧ ∀ c ∈ shT d, c < 128 := fun h => by
      rcases h with ⟨i, rfl, i0, i1⟩ | ⟨t, rfl, ht⟩
      · refine ⟨?_, by rw [PyData.hasDict], by rw [PyData.depth]; exact Nat.zero_le _, fun c hc => ?_⟩
        · rw [PyData.showable]
          have := Nat.log2_le_self i.natAbs
          exact decide_eq_true (by omega)
        · have := (dg_ok i0 i1).dig c hc
          omega
      · refine ⟨by rw [PyData.showable], by rw [PyData.hasDict], by rw [PyData.depth]; exact Nat.zero_le _, fun c hc => ?_⟩
        rw [sh_str ht] at hc
        rcases List.mem_cons.mp hc with rfl | hc
        · decide
        · rcases List.mem_append.mp hc with hc | hc
          · exact lsgn_low c (ht c hc)
          · rw [List.mem_singleton.mp hc]; decide
    cases n with
    | zero => exact flat h
    | succ n =>
      rcases h with h | ⟨x, xs, rfl, h⟩
      · exact flat h
      · have all : ∀ ys : List PyData, (∀ y ∈ ys, Sh n y) → PyData.showableAll ys = true ∧ PyData.hasDictAll ys = false ∧ PyData.depthAll ys ≤ n ∧ ∀ c ∈ tlT ys, c < 128 := by
          intro ys hy
          induction ys with
          | nil => exact ⟨by rw [PyData.showableAll], by rw [PyData.hasDictAll], by rw [PyData.depthAll]; exact Nat.zero_le _, fun c hc => by rw [List.mem_singleton.mp hc]; decide⟩
          | cons y ys ih =>
            obtain ⟨a1, a2, a3, a4⟩ := Sh.showable (hy y (List.mem_cons_self ..))
            obtain ⟨b1, b2, b3, b4⟩ := ih fun z hz => hy z (List.mem_cons_of_mem _ hz)
            refine ⟨by rw [PyData.showableAll, a1, b1]; rfl, by rw [PyData.hasDictAll, a2, b2]; rfl, by rw [PyData.depthAll]; omega, fun c hc => ?_⟩
            rcases List.mem_cons.mp hc with rfl | hc
            · decide
            · rcases List.mem_cons.mp hc with rfl | hc
              · decide
              · rcases List.mem_append.mp hc with hc | hc
                · exact a4 c hc
                · exact b4 c hc
        obtain ⟨a1, a2, a3, a4⟩ := all (x :: xs) h
        have a4' : ∀ c ∈ shT x ++ tlT xs, c < 128 := fun c hc => a4 c (List.mem_cons_of_mem _ (List.mem_cons_of_mem _ hc))
        refine ⟨by rw [PyData.showable]; exact a1, by rw [PyData.hasDict]; exact a2, by rw [PyData.depth]; omega, fun c hc => ?_⟩
        cases xs with
        | nil =>
          rw [sh_one] at hc
          rcases List.mem_cons.mp hc with rfl | hc
          · decide
          · rcases List.mem_append.mp hc with hc | hc
            · exact a4' c (List.mem_append_left _ hc)
            · rcases List.mem_cons.mp hc with rfl | hc
              · decide
              · rw [List.mem_singleton.mp hc]; decide
        | cons y ys =>
          rw [sh_more] at hc
          rcases List.mem_cons.mp hc with rfl | hc
          · decide
          · exact a4' c hc
theorem repr_sh {n : Nat} {x : PyData} {xs : List PyData} (h : Sh n (.tuple (x :: xs))) (hn : n ≤ 100) (hl : (shT (.tuple (x :: xs))).length ≤ 16777216) : reprR (.tuple (x :: xs)) = .ok (shT (.tuple (x :: xs))) := by
  obtain ⟨h1, h2, h3, h4⟩ := h.showable
  unfold reprR
  have hl' : (PyData.shown (.tuple (x :: xs))).length ≤ sizeLine := by
    rw [sizeLine_eq]
    have e : (shT (.tuple (x :: xs))).length = (PyData.shown (.tuple (x :: xs))).length := Array.length_toList
    rw [← e]
    exact hl
  exact Rs.gd_pos ⟨⟨_, rfl⟩, h1, h2, Nat.le_trans h3 hn, hl', by rw [sizeLine_eq]; exact hl, fun c hc => Nat.lt_trans (h4 c hc) (by decide)⟩
end Lw

namespace Lw
open PySem PySem.Spec PyProof.Rows L2 PL Tp
/-! ### askings made with a memo by repr -/
def ixA : Ask → Nat
  | .word _ => 0
  | .begin _ => 1
  | .row _ => 2
  | .near .. => 3
  | .in_ .. => 4
  | .all _ => 5
  | .any _ => 6
  | .but .. => 7
  | .also .. => 8
  | .by_ .. => 9
  | .never => 10
def nms11 : List Text := [tx "word", tx "begin", tx "row", tx "near", tx "in", tx "all", tx "any", tx "but", tx "also", tx "by", tx "never"]
theorem nms_ls : ∀ t ∈ nms11, t.length ≤ 5 ∧ ∀ c ∈ t, c ∈ lsgn := by decide +kernel
theorem nms_ix : ∀ i : Fin 11, (nms11[i.val]?).map (fun t => nms11.idxOf t) = some i.val := by decide +kernel
theorem nm_at (a : Ask) : nms11[ixA a]? = some (nmA a) := by cases a <;> rfl
theorem nm_ls (a : Ask) : ∀ c ∈ nmA a, c ∈ lsgn := (nms_ls _ (List.mem_of_getElem? (nm_at a))).2
theorem nm_len (a : Ask) : (nmA a).length ≤ 5 := (nms_ls _ (List.mem_of_getElem? (nm_at a))).1
theorem ixA_lt (a : Ask) : ixA a < 11 := (List.getElem?_eq_some_iff.mp (nm_at a)).1
def ixT (t : Text) : Nat := nms11.idxOf t
theorem ix_nm (a : Ask) : ixT (nmA a) = ixA a := by
  have h := nms_ix ⟨ixA a, ixA_lt a⟩
  rw [nm_at] at h
  exact Option.some.inj h
theorem sm1 {n : Nat} {a : PyData} (h1 : Sh n a) : ∀ x ∈ [a], Sh n x := fun x hx => by rw [List.mem_singleton.mp hx]; exact h1
theorem sm2 {n : Nat} {a b : PyData} (h1 : Sh n a) (h2 : Sh n b) : ∀ x ∈ [a, b], Sh n x := fun x hx => by
  rcases List.mem_cons.mp hx with rfl | hx
  · exact h1
  · exact sm1 h2 x hx
theorem sm3 {n : Nat} {a b c : PyData} (h1 : Sh n a) (h2 : Sh n b) (h3 : Sh n c) : ∀ x ∈ [a, b, c], Sh n x := fun x hx => by
  rcases List.mem_cons.mp hx with rfl | hx
  · exact h1
  · exact sm2 h2 h3 x hx
theorem sm4 {n : Nat} {a b c d : PyData} (h1 : Sh n a) (h2 : Sh n b) (h3 : Sh n c) (h4 : Sh n d) : ∀ x ∈ [a, b, c, d], Sh n x := fun x hx => by
  rcases List.mem_cons.mp hx with rfl | hx
  · exact h1
  · exact sm3 h2 h3 h4 x hx
theorem Dn.sh {κ : Nat} : ∀ {n : Nat} {a : Ask} {d : PyData}, Dn κ n a d → Sh (2 * n) d
  | 0, _, _, h => h.elim
  | n + 1, a, d, h => by
    have many : ∀ {bs : List Ask} {ds : List PyData}, Paired (Dn κ n) bs ds → ∀ x ∈ ds, Sh (2 * n) x := by
      intro bs ds h
      induction h with
      | nil => exact fun x hx => by cases hx
      | cons q _ ih =>
        intro x hx
        rcases List.mem_cons.mp hx with rfl | hx
        · exact Dn.sh q
        · exact ih x hx
    have up : ∀ {e : PyData}, Sh (2 * n) e → Sh (2 * n + 1) e := fun h => h.up (by omega)
    have tup : ∀ {ds : List PyData}, 1 ≤ ds.length → (∀ x ∈ ds, Sh (2 * n) x) → Sh (2 * n + 1) (.tuple ds) := fun {ds} hl h => by
      cases ds with
      | nil => exact absurd hl (by decide)
      | cons x xs => exact .t h
    show Sh (2 * n + 1 + 1) d
    have hnm := nm_ls a
    cases a with
    | word w => rw [h.2]; exact .t (sm2 (.s hnm) (.s h.1.2.2))
    | begin w => rw [h.2]; exact .t (sm2 (.s hnm) (.s h.1.2.2))
    | row w =>
      obtain ⟨⟨h1, h2, h3⟩, rfl⟩ := h
      exact .t (sm2 (.s hnm) (tup (by rw [List.length_map]; omega) fun x hx => by obtain ⟨y, hy, rfl⟩ := List.mem_map.mp hx; exact .s (h3 y hy).2.2))
    | near c x y =>
      obtain ⟨⟨h1, h2, h3, h4⟩, rfl⟩ := h
      have h1 : 1 ≤ c := h1
      have h2 : c ≤ 20 := h2
      exact .t (sm4 (.s hnm) (.i (by omega) (by omega)) (.s h3.2.2) (.s h4.2.2))
    | in_ p a => obtain ⟨e, rfl, h2, h3, h4⟩ := h; exact .t (sm3 (.s hnm) (.i h3 (by omega)) (up (Dn.sh h2)))
    | all xs => obtain ⟨ds, rfl, h2, h3, _⟩ := h; exact .t (sm2 (.s hnm) (tup (by rw [← plen h2]; exact h3) (many h2)))
    | any xs => obtain ⟨ds, rfl, h2, h3, _⟩ := h; exact .t (sm2 (.s hnm) (tup (by rw [← plen h2]; exact h3) (many h2)))
    | but a b => obtain ⟨e, f, rfl, h2, h3⟩ := h; exact .t (sm3 (.s hnm) (up (Dn.sh h2)) (up (Dn.sh h3)))
    | also a b => obtain ⟨e, f, rfl, h2, h3⟩ := h; exact .t (sm3 (.s hnm) (up (Dn.sh h2)) (up (Dn.sh h3)))
    | by_ c a => obtain ⟨e, rfl, h2, h3, h4⟩ := h; exact .t (sm3 (.s hnm) (.i h3 (by omega)) (up (Dn.sh h2)))
    | never => rw [show d = _ from h]; exact .t (sm1 (.s hnm))
/-! the length of the text -/
theorem len_str {t : Text} (h : ∀ c ∈ t, c ∈ lsgn) : (shT (.str (mkS t))).length = t.length + 2 := by
  rw [sh_str h, List.length_cons, List.length_append]
  rfl
theorem len_int {i : Int} (h0 : 0 ≤ i) (h1 : i < 1000) : (shT (.int i)).length ≤ 3 := (dg_ok h0 h1).len
theorem len_tup (x : PyData) (xs : List PyData) : (shT (.tuple (x :: xs))).length ≤ (shT x).length + (tlT xs).length + 2 := by
  cases xs with
  | nil => rw [sh_one, List.length_cons, List.length_append]; exact Nat.le_refl _
  | cons y ys => rw [sh_more, List.length_cons, List.length_append]; omega
theorem len_tl1 (x : PyData) (xs : List PyData) : (tlT (x :: xs)).length = (shT x).length + (tlT xs).length + 2 := by
  rw [tlT, List.length_cons, List.length_cons, List.length_append]
theorem len_tl0 : (tlT []).length = 1 := rfl
theorem len_tl {L : Nat} : ∀ {xs : List PyData}, (∀ x ∈ xs, (shT x).length ≤ L) → (tlT xs).length ≤ xs.length * (L + 2) + 1
  | [], _ => by rw [len_tl0]; omega
  | x :: xs, h => by
    have h1 := h x (List.mem_cons_self ..)
    have h2 := len_tl fun y hy => h y (List.mem_cons_of_mem _ hy)
    rw [len_tl1, List.length_cons, Nat.add_mul, Nat.one_mul]
    omega
theorem len_many {L : Nat} {xs : List PyData} (h0 : 1 ≤ xs.length) (h : ∀ x ∈ xs, (shT x).length ≤ L) : (shT (.tuple xs)).length ≤ xs.length * (L + 2) + 1 := by
  cases xs with
  | nil => exact absurd h0 (by decide)
  | cons x xs =>
    have h1 := h x (List.mem_cons_self ..)
    have h2 := len_tl fun y hy => h y (List.mem_cons_of_mem _ hy)
    have h3 := len_tup x xs
    rw [List.length_cons, Nat.add_mul, Nat.one_mul]
    omega
theorem nm_tl (a : Ask) : (shT (sd (nmA a))).length ≤ 7 := by
  have h1 : (shT (sd (nmA a))).length = (nmA a).length + 2 := len_str (nm_ls a)
  have := nm_len a
  omega
theorem len_pln {t : Text} (h : Pln t) : (shT (sd t)).length ≤ 22 := by
  have h1 : (shT (sd t)).length = t.length + 2 := len_str h.2.2
  have := h.2.1
  omega
theorem Dn.tlen {κ : Nat} (hκ : 2 ≤ κ) : ∀ {n : Nat} {a : Ask} {d : PyData}, Dn κ n a d → (shT d).length ≤ 300 * (κ + 1) ^ n
  | 0, _, _, h => h.elim
  | n + 1, a, d, h => by
    have p1 : 1 ≤ (κ + 1) ^ n := Nat.pow_pos (by omega)
    have p2 : n = 0 ∨ κ + 1 ≤ (κ + 1) ^ n := by
      cases n with
      | zero => exact .inl rfl
      | succ n =>
        refine .inr ?_
        have := Nat.pow_le_pow_right (n := κ + 1) (by omega) (show 1 ≤ n + 1 by omega)
        rwa [Nat.pow_one] at this
    have pk : 2 * (κ + 1) ^ n ≤ κ * (κ + 1) ^ n := Nat.mul_le_mul_right _ hκ
    have many : ∀ {bs : List Ask} {ds : List PyData}, Paired (Dn κ n) bs ds → ∀ x ∈ ds, (shT x).length ≤ 300 * (κ + 1) ^ n := by
      intro bs ds h
      induction h with
      | nil => exact fun x hx => by cases hx
      | cons q _ ih =>
        intro x hx
        rcases List.mem_cons.mp hx with rfl | hx
        · exact Dn.tlen hκ q
        · exact ih x hx
    rw [Nat.pow_succ, Nat.mul_comm ((κ + 1) ^ n), Nat.add_mul, Nat.one_mul]
    generalize hp : (κ + 1) ^ n = p at *
    generalize hq : κ * p = q at *
    have hnt := nm_tl a
    have big : ∀ {bs : List Ask} {ds : List PyData}, Paired (Dn κ n) bs ds → 1 ≤ bs.length → bs.length ≤ κ → (shT (.tuple ds)).length ≤ 300 * q + 2 * p := fun {bs ds} hP h1 h2 => by
      have e := plen hP
      have := len_many (L := 300 * p) (by omega) (many hP)
      have k1 : ds.length * (300 * p + 2) ≤ κ * (300 * p + 2) := Nat.mul_le_mul_right _ (by omega)
      have k2 : κ * (300 * p + 2) = 300 * (κ * p) + 2 * κ := by rw [Nat.mul_add, Nat.mul_left_comm, Nat.mul_comm κ 2]
      rw [hq] at k2
      have hn : n ≠ 0 := by
        intro z
        subst z
        cases hP with
        | nil => exact absurd h1 (by decide)
        | cons q _ => exact q.elim
      omega
    cases a with
    | word w =>
      obtain ⟨h1, rfl⟩ := h
      have e1 : (shT (sd (tx "word"))).length ≤ 7 := hnt
      have e2 := len_pln h1
      have e := len_tup (sd (tx "word")) [sd w]
      rw [len_tl1, len_tl0] at e
      omega
    | begin w =>
      obtain ⟨h1, rfl⟩ := h
      have e1 : (shT (sd (tx "begin"))).length ≤ 7 := hnt
      have e2 := len_pln h1
      have e := len_tup (sd (tx "begin")) [sd w]
      rw [len_tl1, len_tl0] at e
      omega
    | row w =>
      obtain ⟨⟨h1, h2, h3⟩, rfl⟩ := h
      have e1 : (shT (sd (tx "row"))).length ≤ 7 := hnt
      have e2 := len_many (L := 22) (xs := w.map fun y => .str (mkS y)) (by rw [List.length_map]; omega) fun x hx => by
        obtain ⟨y, hy, rfl⟩ := List.mem_map.mp hx
        exact len_pln (h3 y hy)
      rw [List.length_map] at e2
      have e := len_tup (sd (tx "row")) [.tuple (w.map fun y => .str (mkS y))]
      rw [len_tl1, len_tl0] at e
      omega
    | near c x y =>
      obtain ⟨⟨h1, h2, h3, h4⟩, rfl⟩ := h
      have h1 : 1 ≤ c := h1
      have h2 : c ≤ 20 := h2
      have e1 : (shT (sd (tx "near"))).length ≤ 7 := hnt
      have e2 : (shT (sd x)).length ≤ 22 := len_pln h3
      have e3 : (shT (sd y)).length ≤ 22 := len_pln h4
      have e6 := len_int (i := c) (by omega) (by omega)
      have e := len_tup (sd (tx "near")) [.int c, sd x, sd y]
      rw [len_tl1, len_tl1, len_tl1, len_tl0] at e
      omega
    | in_ c a =>
      obtain ⟨x, rfl, h2, h3, h4⟩ := h
      have e1 : (shT (sd (tx "in"))).length ≤ 7 := hnt
      have e2 := Dn.tlen hκ h2
      have e6 := len_int (i := c) (by omega) (by omega)
      have e := len_tup (sd (tx "in")) [.int c, x]
      rw [len_tl1, len_tl1, len_tl0] at e
      rw [hp] at e2
      omega
    | by_ c a =>
      obtain ⟨x, rfl, h2, h3, h4⟩ := h
      have e1 : (shT (sd (tx "by"))).length ≤ 7 := hnt
      have e2 := Dn.tlen hκ h2
      have e6 := len_int (i := c) (by omega) (by omega)
      have e := len_tup (sd (tx "by")) [.int c, x]
      rw [len_tl1, len_tl1, len_tl0] at e
      rw [hp] at e2
      omega
    | but a b =>
      obtain ⟨x, y, rfl, h2, h3⟩ := h
      have e1 : (shT (sd (tx "but"))).length ≤ 7 := hnt
      have e2 := Dn.tlen hκ h2
      have e3 := Dn.tlen hκ h3
      have e := len_tup (sd (tx "but")) [x, y]
      rw [len_tl1, len_tl1, len_tl0] at e
      rw [hp] at e2 e3
      omega
    | also a b =>
      obtain ⟨x, y, rfl, h2, h3⟩ := h
      have e1 : (shT (sd (tx "also"))).length ≤ 7 := hnt
      have e2 := Dn.tlen hκ h2
      have e3 := Dn.tlen hκ h3
      have e := len_tup (sd (tx "also")) [x, y]
      rw [len_tl1, len_tl1, len_tl0] at e
      rw [hp] at e2 e3
      omega
    | all xs =>
      obtain ⟨ds, rfl, h2, h3, h4⟩ := h
      have e1 : (shT (sd (tx "all"))).length ≤ 7 := hnt
      have e2 := big h2 h3 h4
      have e := len_tup (sd (tx "all")) [.tuple ds]
      rw [len_tl1, len_tl0] at e
      omega
    | any xs =>
      obtain ⟨ds, rfl, h2, h3, h4⟩ := h
      have e1 : (shT (sd (tx "any"))).length ≤ 7 := hnt
      have e2 := big h2 h3 h4
      have e := len_tup (sd (tx "any")) [.tuple ds]
      rw [len_tl1, len_tl0] at e
      omega
    | never =>
      rw [show d = _ from h]
      have e1 : (shT (sd (tx "never"))).length ≤ 7 := hnt
      have e := len_tup (sd (tx "never")) []
      rw [len_tl0] at e
      omega
/-! a tuple tells one asking -/
theorem sd_inj {s t : Text} (h : sd s = sd t) : s = t := by
  have h : mkS s = mkS t := PyData.str.inj h
  rw [← tx_mk s, h, tx_mk]
theorem pr_fun {α β : Type} {F G : α → β → Prop} : ∀ {xs xs' : List α} {ys : List β}, (∀ x x' y, F x y → G x' y → x = x') → Paired F xs ys → Paired G xs' ys → xs = xs'
  | _, _, _, _, .nil, .nil => rfl
  | _, _, _, h, .cons a t, .cons b u => by rw [h _ _ _ a b, pr_fun h t u]
theorem strs_inj : ∀ {s t : List Text}, (s.map fun y => PyData.str (mkS y)) = (t.map fun y => PyData.str (mkS y)) → s = t
  | [], [], _ => rfl
  | [], y :: t, h => nomatch h
  | x :: s, [], h => nomatch h
  | x :: s, y :: t, h => by
    rw [List.map_cons, List.map_cons] at h
    injection h with h1 h2
    rw [sd_inj h1, strs_inj h2]
theorem dn_fun {κ κ' : Nat} : ∀ {n n' : Nat} {a a' : Ask} {d : PyData}, Dn κ n a d → Dn κ' n' a' d → a = a'
  | 0, _, _, _, _, h, _ => h.elim
  | n + 1, 0, _, _, _, _, h => h.elim
  | n + 1, n' + 1, a, a', d, h, h' => by
    have hix : ixA a = ixA a' := by
      obtain ⟨ds, e⟩ := h.nm
      obtain ⟨ds', e'⟩ := h'.nm
      rw [e] at e'
      have e' := PyData.tuple.inj e'
      injection e' with e1 _
      rw [← ix_nm, ← ix_nm, sd_inj e1]
    cases a <;> cases a' <;> first | (simp [ixA] at hix; done) | skip
    · obtain ⟨_, rfl⟩ := h
      obtain ⟨_, e⟩ := h'
      simp only [PyData.tuple.injEq, List.cons.injEq] at e
      rw [sd_inj e.2.1]
    · obtain ⟨_, rfl⟩ := h
      obtain ⟨_, e⟩ := h'
      simp only [PyData.tuple.injEq, List.cons.injEq] at e
      rw [sd_inj e.2.1]
    · obtain ⟨_, rfl⟩ := h
      obtain ⟨_, e⟩ := h'
      simp only [PyData.tuple.injEq, List.cons.injEq] at e
      rw [strs_inj e.2.1]
    · obtain ⟨_, rfl⟩ := h
      obtain ⟨_, e⟩ := h'
      simp only [PyData.tuple.injEq, List.cons.injEq] at e
      rw [PyData.int.inj e.2.1, sd_inj e.2.2.1, sd_inj e.2.2.2.1]
    · obtain ⟨x, rfl, h2, _⟩ := h
      obtain ⟨y, e, h2', _⟩ := h'
      simp only [PyData.tuple.injEq, List.cons.injEq] at e
      rw [e.2.2.1] at h2
      rw [PyData.int.inj e.2.1, dn_fun h2 h2']
    · obtain ⟨x, rfl, h2, _⟩ := h
      obtain ⟨y, e, h2', _⟩ := h'
      simp only [PyData.tuple.injEq, List.cons.injEq] at e
      rw [e.2.1] at h2
      rw [pr_fun (F := Dn κ n) (G := Dn κ' n') (fun _ _ _ p q => dn_fun p q) h2 h2']
    · obtain ⟨x, rfl, h2, _⟩ := h
      obtain ⟨y, e, h2', _⟩ := h'
      simp only [PyData.tuple.injEq, List.cons.injEq] at e
      rw [e.2.1] at h2
      rw [pr_fun (F := Dn κ n) (G := Dn κ' n') (fun _ _ _ p q => dn_fun p q) h2 h2']
    · obtain ⟨x, y, rfl, h2, h3⟩ := h
      obtain ⟨x', y', e, h2', h3'⟩ := h'
      simp only [PyData.tuple.injEq, List.cons.injEq] at e
      rw [e.2.1] at h2
      rw [e.2.2.1] at h3
      rw [dn_fun h2 h2', dn_fun h3 h3']
    · obtain ⟨x, y, rfl, h2, h3⟩ := h
      obtain ⟨x', y', e, h2', h3'⟩ := h'
      simp only [PyData.tuple.injEq, List.cons.injEq] at e
      rw [e.2.1] at h2
      rw [e.2.2.1] at h3
      rw [dn_fun h2 h2', dn_fun h3 h3']
    · obtain ⟨x, rfl, h2, _⟩ := h
      obtain ⟨y, e, h2', _⟩ := h'
      simp only [PyData.tuple.injEq, List.cons.injEq] at e
      rw [e.2.2.1] at h2
      rw [PyData.int.inj e.2.1, dn_fun h2 h2']
    · rfl
end Lw

namespace Lw
open PySem PySem.Spec PyProof.Rows L2 PL Tp
/-! ### the memo -/
def KI (kp : KP) : Prop := ∀ q ∈ kp, ∃ κ n d, Dn κ n q.2 d ∧ q.1 = shT d
theorem KI.nil : KI [] := fun q h => by cases h
def MkOk (r : PyData → KP → Rs (Ask × KP)) (N p : Nat) (b : Ask) (e : PyData) : Prop := ∀ kp, KI kp → kp.length + p ≤ N → ∃ kp', r e kp = .ok (b, kp') ∧ KI kp' ∧ kp'.length ≤ kp.length + p
theorem mapS_mk {r : PyData → KP → Rs (Ask × KP)} {N p : Nat} : ∀ {xs : List Ask} {ds : List PyData} {kp : KP}, Paired (MkOk r N p) xs ds → KI kp → kp.length + xs.length * p ≤ N → ∃ kp', mapS (fun (u : KP) (x : PyData) => r x u) kp ds = .ok (xs, kp') ∧ KI kp' ∧ kp'.length ≤ kp.length + xs.length * p
  | _, _, kp, .nil, hk, _ => ⟨kp, rfl, hk, Nat.le_add_right ..⟩
  | x :: xs, _, kp, .cons q t, hk, hN => by
    rw [List.length_cons, Nat.add_mul, Nat.one_mul] at hN ⊢
    obtain ⟨k1, e1, h1, l1⟩ := q kp hk (by omega)
    obtain ⟨k2, e2, h2, l2⟩ := mapS_mk t h1 (by omega)
    refine ⟨k2, ?_, h2, by omega⟩
    unfold mapS
    rw [e1]
    simp only [Rs.bd_ok]
    rw [e2]
    rfl
theorem new_ok {κ n N p : Nat} (hκ : 2 ≤ κ) {r : PyData → KP → Rs (Ask × KP)} (hr : ∀ b e, Dn κ n b e → MkOk r N p b e) {a : Ask} {d : PyData} (h : Dn κ (n + 1) a d) : MkOk (mF_law_new r) N (κ * p) a d := by
  intro kp hk hN
  have h2p : 2 * p ≤ κ * p := Nat.mul_le_mul_right _ hκ
  unfold mF_law_new
  rw [nm_is h, nm_is h, nm_is h, nm_is h, nm_is h, nm_is h, nm_is h, nm_is h, nm_is h, nm_is h]
  have h' := h
  have one : ∀ {b : Ask} {e : PyData}, Dn κ n b e → ∃ kp', r e kp = .ok (b, kp') ∧ KI kp' ∧ kp'.length ≤ kp.length + p := fun q => hr _ _ q kp hk (by omega)
  have two : ∀ {b c : Ask} {e f : PyData}, Dn κ n b e → Dn κ n c f → ∃ k1 k2, r e kp = .ok (b, k1) ∧ r f k1 = .ok (c, k2) ∧ KI k2 ∧ k2.length ≤ kp.length + 2 * p := fun q q' => by
    obtain ⟨k1, e1, h1, l1⟩ := one q
    obtain ⟨k2, e2, h2, l2⟩ := hr _ _ q' k1 h1 (by omega)
    exact ⟨k1, k2, e1, e2, h2, by omega⟩
  have many : ∀ {xs : List Ask} {ds : List PyData}, Paired (Dn κ n) xs ds → xs.length ≤ κ → ∃ kp', mapS (fun (u : KP) (x : PyData) => r x u) kp ds = .ok (xs, kp') ∧ KI kp' ∧ kp'.length ≤ kp.length + κ * p := fun {xs ds} q hl => by
    have hm : xs.length * p ≤ κ * p := Nat.mul_le_mul_right _ hl
    obtain ⟨k1, e1, h1, l1⟩ := mapS_mk (pmono hr q) hk (by omega)
    exact ⟨k1, e1, h1, by omega⟩
  cases a with
  | word w =>
    unfold nmA; simp only [nqA, decide_true, Rs.bd_ok, if_true, if_false, Bool.false_eq_true]
    obtain ⟨h1, rfl⟩ := h'
    rw [ixP1, Rs.bd_ok, asC_str, Rs.bd_ok, mk_word h1]
    exact ⟨kp, rfl, hk, by omega⟩
  | begin w =>
    unfold nmA; simp only [nqA, decide_true, Rs.bd_ok, if_true, if_false, Bool.false_eq_true]
    obtain ⟨h1, rfl⟩ := h'
    rw [ixP1, Rs.bd_ok, asC_str, Rs.bd_ok, mk_begin h1]
    exact ⟨kp, rfl, hk, by omega⟩
  | row w =>
    unfold nmA; simp only [nqA, decide_true, Rs.bd_ok, if_true, if_false, Bool.false_eq_true]
    obtain ⟨h1, rfl⟩ := h'
    rw [ixP1, Rs.bd_ok, asTL_strs, Rs.bd_ok, row_made h1]
    exact ⟨kp, rfl, hk, by omega⟩
  | near c x y =>
    unfold nmA; simp only [nqA, decide_true, Rs.bd_ok, if_true, if_false, Bool.false_eq_true]
    obtain ⟨h1, rfl⟩ := h'
    rw [ixP1, Rs.bd_ok, show asI (.int c) = .ok c from rfl, Rs.bd_ok, ixP2, Rs.bd_ok, asC_str, Rs.bd_ok, ixP3, Rs.bd_ok, asC_str, Rs.bd_ok, near_made h1]
    exact ⟨kp, rfl, hk, by omega⟩
  | never =>
    unfold nmA; simp only [nqA, decide_true, Rs.bd_ok, if_true, if_false, Bool.false_eq_true]
    exact ⟨kp, rfl, hk, by omega⟩
  | in_ q a =>
    unfold nmA; simp only [nqA, decide_true, Rs.bd_ok, if_true, if_false, Bool.false_eq_true]
    obtain ⟨e, rfl, h2, h3, h4⟩ := h'
    obtain ⟨k1, e1, g1, l1⟩ := one h2
    rw [ixP1, Rs.bd_ok, show asI (.int q) = .ok q from rfl, Rs.bd_ok, Rs.bd_ok, ixP2, Rs.bd_ok, e1]
    simp only [Rs.bd_ok]
    rw [mk_in h3 h4]
    exact ⟨k1, rfl, g1, by omega⟩
  | by_ q a =>
    unfold nmA; simp only [nqA, decide_true, Rs.bd_ok, if_true, if_false, Bool.false_eq_true]
    obtain ⟨e, rfl, h2, h3, h4⟩ := h'
    obtain ⟨k1, e1, g1, l1⟩ := one h2
    rw [ixP1, Rs.bd_ok, show asI (.int q) = .ok q from rfl, Rs.bd_ok, Rs.bd_ok, ixP2, Rs.bd_ok, e1]
    simp only [Rs.bd_ok]
    rw [mk_by h3 h4]
    exact ⟨k1, rfl, g1, by omega⟩
  | but a b =>
    unfold nmA; simp only [nqA, decide_true, Rs.bd_ok, if_true, if_false, Bool.false_eq_true]
    obtain ⟨e, f, rfl, h2, h3⟩ := h'
    obtain ⟨k1, k2, e1, e2, g1, l1⟩ := two h2 h3
    rw [ixP1, Rs.bd_ok, e1]
    simp only [Rs.bd_ok]
    rw [ixP2, Rs.bd_ok, e2]
    simp only [Rs.bd_ok]
    rw [mk_but]
    exact ⟨k2, rfl, g1, by omega⟩
  | also a b =>
    unfold nmA; simp only [nqA, decide_true, Rs.bd_ok, if_true, if_false, Bool.false_eq_true]
    obtain ⟨e, f, rfl, h2, h3⟩ := h'
    obtain ⟨k1, k2, e1, e2, g1, l1⟩ := two h2 h3
    rw [ixP1, Rs.bd_ok, e1]
    simp only [Rs.bd_ok]
    rw [ixP2, Rs.bd_ok, e2]
    simp only [Rs.bd_ok]
    rw [mk_also]
    exact ⟨k2, rfl, g1, by omega⟩
  | all xs =>
    unfold nmA; simp only [nqA, decide_true, Rs.bd_ok, if_true, if_false, Bool.false_eq_true]
    obtain ⟨ds, rfl, h2, h3, h4⟩ := h'
    obtain ⟨k1, e1, g1, l1⟩ := many h2 h4
    rw [ixP1, Rs.bd_ok, show asT (.tuple ds) = .ok ds from rfl, Rs.bd_ok, Rs.bd_ok, Rs.bd_ok]
    simp only [e1, Rs.bd_ok]
    rw [mk_all h3]
    exact ⟨k1, rfl, g1, l1⟩
  | any xs =>
    unfold nmA; simp only [nqA, decide_true, Rs.bd_ok, if_true, if_false, Bool.false_eq_true]
    obtain ⟨ds, rfl, h2, h3, h4⟩ := h'
    obtain ⟨k1, e1, g1, l1⟩ := many h2 h4
    rw [ixP1, Rs.bd_ok, show asT (.tuple ds) = .ok ds from rfl, Rs.bd_ok, Rs.bd_ok, Rs.bd_ok]
    simp only [e1, Rs.bd_ok]
    rw [mk_any h3]
    exact ⟨k1, rfl, g1, l1⟩
theorem repr_dn {κ n : Nat} (hκ : 2 ≤ κ) {a : Ask} {d : PyData} (h : Dn κ n a d) (hn : n ≤ 50) (hB : 300 * (κ + 1) ^ n ≤ 16777216) : reprR d = .ok (shT d) := by
  have h1 := h.sh
  have h2 := h.tlen hκ
  obtain ⟨ds, rfl⟩ := h.nm
  exact repr_sh h1 (by omega) (by omega)
theorem made_m {κ : Nat} (hκ : 2 ≤ κ) : ∀ {n m : Nat} {a : Ask} {d : PyData}, Dn κ n a d → 2 * n ≤ m → n ≤ 50 → 300 * (κ + 1) ^ n ≤ 16777216 → MkOk (m_law_made m) 16777216 ((κ + 1) ^ n) a d
  | 0, _, _, _, h, _, _, _ => h.elim
  | n + 1, 0, _, _, _, hm, _, _ => absurd hm (by omega)
  | n + 1, 1, _, _, _, hm, _, _ => absurd hm (by omega)
  | n + 1, m + 2, a, d, h, hm, hn, hB => by
    intro kp hk hN
    have hp : (κ + 1) ^ (n + 1) = κ * (κ + 1) ^ n + (κ + 1) ^ n := by rw [Nat.pow_succ, Nat.mul_comm, Nat.add_mul, Nat.one_mul]
    have p1 : 1 ≤ (κ + 1) ^ n := Nat.pow_pos (by omega)
    have e := repr_dn hκ h hn hB
    show ∃ kp', mF_law_made (mF_law_new (m_law_made m)) d kp = _ ∧ _
    unfold mF_law_made
    rw [e]
    simp only [Rs.bd_ok]
    cases hg : dget kp (shT d) with
    | some b =>
      obtain ⟨κ', n', d', q1, q2⟩ := hk _ (dget_mem_some hg)
      have ed : d = d' := shT_inj h.sh q1.sh q2
      subst ed
      have ea : a = b := dn_fun h q1
      subst ea
      refine ⟨kp, ?_, hk, by omega⟩
      rw [show (!(some a).isSome) = false from rfl, if_neg Bool.false_ne_true, Rs.bd_ok]
      unfold dgetR
      rw [hg]
      rfl
    | none =>
      obtain ⟨k1, e1, g1, l1⟩ := new_ok hκ (r := m_law_made m) (N := 16777216) (p := (κ + 1) ^ n) (fun b e q => made_m hκ q (by omega) (by omega) (by omega)) h kp hk (by omega)
      rw [show (!(none : Option Ask).isSome) = true from rfl, if_pos rfl, e1]
      simp only [Rs.bd_ok]
      rw [putR_ok (by omega)]
      simp only [Rs.bd_ok]
      have hd : dget (dput k1 (shT d) a) (shT d) = some a := by rw [dget_dput, if_pos rfl]
      refine ⟨dput k1 (shT d) a, ?_, fun q hq => ?_, ?_⟩
      · unfold dgetR
        rw [hd]
        rfl
      · rcases dput_mem hq with rfl | hq
        · exact ⟨κ, n + 1, d, h, rfl⟩
        · exact g1 q hq
      · have := dput_len (shT d) a k1
        omega
end Lw

namespace Lw
open PySem PySem.Spec PyProof.Rows L2 PL Tp
/-! ### nodes and their paths, of the program alone -/
theorem Dn.inn {κ n : Nat} {a : Ask} {d : PyData} (h : Dn κ (n + 1) a d) : ∃ ds, Paired (Dn κ n) (inA a) ds := by
  cases a with
  | in_ p a => obtain ⟨e, rfl, h2, h3⟩ := h; exact ⟨_, .cons h2 .nil⟩
  | by_ p a => obtain ⟨e, rfl, h2, h3⟩ := h; exact ⟨_, .cons h2 .nil⟩
  | all xs => obtain ⟨ds, rfl, h2, h3⟩ := h; exact ⟨_, h2⟩
  | any xs => obtain ⟨ds, rfl, h2, h3⟩ := h; exact ⟨_, h2⟩
  | but a b => obtain ⟨e, f, rfl, h2, h3⟩ := h; exact ⟨_, .cons h2 (.cons h3 .nil)⟩
  | also a b => obtain ⟨e, f, rfl, h2, h3⟩ := h; exact ⟨_, .cons h2 (.cons h3 .nil)⟩
  | _ => exact ⟨_, .nil⟩
theorem Dn.child {κ n : Nat} {a b : Ask} {d : PyData} (h : Dn κ n a d) {i : Nat} (hi : (inA a)[i]? = some b) : ∃ e, Dn κ (n - 1) b e := by
  cases n with
  | zero => exact h.elim
  | succ n =>
    obtain ⟨ds, e2⟩ := h.inn
    obtain ⟨e, _, he⟩ := pget e2 hi
    exact ⟨e, he⟩
def nodeA : Ask → List Int → Option Ask
  | a, [] => some a
  | a, k :: p => if 0 ≤ k ∧ k < ((inA a).length : Int) then (match (inA a)[k.toNat]? with
    | some b => nodeA b p
    | none => none) else none
theorem part_ok {a : Ask} {k : Int} (h : 0 ≤ k ∧ k < ((inA a).length : Int)) : m_want_part a k = .ok () := by
  unfold m_want_part
  rw [inner_A, decide_eq_false (show ¬ k < 0 by omega)]
  simp only [Rs.bd_ok, Bool.false_eq_true, if_false]
  rw [decide_eq_false (show ¬ ((inA a).length : Int) ≤ k by omega)]
  rfl
theorem at_in {α : Type} {xs : List α} {k : Int} (h : 0 ≤ k ∧ k < (xs.length : Int)) : ∃ x, xs[k.toNat]? = some x ∧ ixR xs k = .ok x ∧ k.toNat < xs.length := by
  have hl : k.toNat < xs.length := by omega
  exact ⟨xs[k.toNat], List.getElem?_eq_getElem hl, ixR_at (by omega) (List.getElem?_eq_getElem hl), hl⟩
theorem node_cons {a b : Ask} {k : Int} {p : List Int} (h : nodeA a (k :: p) = some b) : ∃ c, (0 ≤ k ∧ k < ((inA a).length : Int)) ∧ (inA a)[k.toNat]? = some c ∧ nodeA c p = some b := by
  unfold nodeA at h
  by_cases q : 0 ≤ k ∧ k < ((inA a).length : Int)
  · rw [if_pos q] at h
    obtain ⟨c, e, _⟩ := at_in q
    rw [e] at h
    exact ⟨c, q, e, h⟩
  · rw [if_neg q] at h; cases h
theorem node_ok : ∀ {p : List Int} {a b : Ask}, nodeA a p = some b → m_node_at a p = .ok b
  | [], a, b, h => by cases h; rfl
  | k :: p, a, b, h => by
    obtain ⟨c, q, e, hc⟩ := node_cons h
    have ih := node_ok hc
    unfold m_node_at at ih ⊢
    unfold foldR
    rw [part_ok q, inner_A]
    obtain ⟨c', e', e2, _⟩ := at_in q
    rw [e] at e'
    cases e'
    simp only [Rs.bd_ok]
    rw [e2]
    simp only [Rs.bd_ok]
    simp only [Rs.bd_ok] at ih
    exact ih
theorem node_dn {κ : Nat} : ∀ {p : List Int} {n : Nat} {a b : Ask} {d : PyData}, Dn κ n a d → nodeA a p = some b → ∃ e, Dn κ n b e
  | [], n, a, b, d, h, hn => by cases hn; exact ⟨d, h⟩
  | k :: p, n, a, b, d, h, hn => by
    obtain ⟨c, q, e, hc⟩ := node_cons hn
    obtain ⟨x, hx⟩ := h.child e
    obtain ⟨y, hy⟩ := node_dn hx hc
    exact ⟨y, hy.up (by omega)⟩
theorem node_pre : ∀ {p q : List Int} {a b : Ask}, nodeA a (p ++ q) = some b → ∃ c, nodeA a p = some c ∧ nodeA c q = some b
  | [], q, a, b, h => ⟨a, rfl, h⟩
  | k :: p, q, a, b, h => by
    obtain ⟨c, r, e, hc⟩ := node_cons (p := p ++ q) h
    obtain ⟨x, h1, h2⟩ := node_pre hc
    refine ⟨x, ?_, h2⟩
    show (if _ then _ else _) = _
    rw [if_pos r, e]
    exact h1
theorem node_at_i {a c : Ask} {i : Nat} (hi : (inA a)[i]? = some c) (p : List Int) : nodeA a ((i : Int) :: p) = nodeA c p := by
  have hlt := (List.getElem?_eq_some_iff.mp hi).1
  show (if _ then _ else _) = _
  rw [if_pos ⟨by omega, by omega⟩, Int.toNat_natCast, hi]
/-! ### all paths -/
def pathsA : Nat → Ask → List (List Int)
  | 0, _ => []
  | n + 1, a => [] :: (numd (inA a)).flatMap fun q => (pathsA n q.2).map (q.1 :: ·)
theorem pr_zip {α β : Type} {F : α → β → Prop} : ∀ {xs : List α} {ys : List β} (i : Nat), Paired F xs ys → Paired (fun (q : Int × α) (q' : Int × β) => q.1 = q'.1 ∧ F q.2 q'.2) ((xs.zipIdx i).map fun q => ((q.2 : Int), q.1)) ((ys.zipIdx i).map fun q => ((q.2 : Int), q.1))
  | _, _, _, .nil => .nil
  | _, _, i, .cons q t => .cons ⟨rfl, q⟩ (pr_zip (i + 1) t)
theorem pr_numd {α β : Type} {F : α → β → Prop} {xs : List α} {ys : List β} (h : Paired F xs ys) : Paired (fun (q : Int × α) (q' : Int × β) => q.1 = q'.1 ∧ F q.2 q'.2) (numd xs) (numd ys) := pr_zip 0 h
theorem numd_in {α : Type} {xs : List α} {q : Int × α} (h : q ∈ numd xs) : ∃ i : Nat, q.1 = (i : Int) ∧ xs[i]? = some q.2 := by
  obtain ⟨i, hi⟩ := List.getElem?_of_mem h
  have hl := (List.getElem?_eq_some_iff.mp hi).1
  rw [numd_len] at hl
  rw [numd_get (List.getElem?_eq_getElem hl)] at hi
  cases hi
  exact ⟨i, rfl, List.getElem?_eq_getElem hl⟩
theorem paths_len {κ : Nat} (hκ : 2 ≤ κ) : ∀ {n : Nat} {a : Ask} {d : PyData}, Dn κ n a d → (pathsA n a).length + 1 ≤ 2 * κ ^ n ∧ ∀ p ∈ pathsA n a, p.length + 1 ≤ n ∧ ∃ b, nodeA a p = some b
  | 0, _, _, h => h.elim
  | n + 1, a, d, h => by
    have hM : 2 * κ ^ (n + 1) = κ * (2 * κ ^ n) := by rw [Nat.pow_succ, Nat.mul_comm κ, Nat.mul_assoc]
    have p1 := Nat.pow_pos (n := n) (show 0 < κ by omega)
    have hM2 : 2 * (2 * κ ^ n) ≤ κ * (2 * κ ^ n) := Nat.mul_le_mul_right _ hκ
    obtain ⟨ds, e2⟩ := h.inn
    have hdl : (inA a).length ≤ κ := by
      cases a with
      | all xs => obtain ⟨_, _, _, _, h4⟩ := h; exact h4
      | any xs => obtain ⟨_, _, _, _, h4⟩ := h; exact h4
      | but a b => exact hκ
      | also a b => exact hκ
      | in_ p a => show 1 ≤ κ; omega
      | by_ p a => show 1 ≤ κ; omega
      | _ => exact Nat.zero_le _
    refine ⟨?_, fun p hp => ?_⟩
    · show ((numd (inA a)).flatMap fun q => (pathsA n q.2).map (q.1 :: ·)).length + 1 + 1 ≤ _
      rw [List.length_flatMap]
      have key : ∀ qs : List (Int × Ask), (∀ q ∈ qs, ∃ e, Dn κ n q.2 e) → (qs.map fun q => ((pathsA n q.2).map (q.1 :: ·)).length).sum ≤ qs.length * (2 * κ ^ n - 1) := by
        intro qs hq
        induction qs with
        | nil => exact Nat.zero_le _
        | cons q qs ih =>
          rw [List.map_cons, List.sum_cons, List.length_cons, Nat.add_mul, Nat.one_mul, List.length_map]
          obtain ⟨e, he⟩ := hq q (List.mem_cons_self ..)
          have := (paths_len hκ he).1
          have := ih fun x hx => hq x (List.mem_cons_of_mem _ hx)
          omega
      have k2 := key (numd (inA a)) fun q hq => by
        obtain ⟨i, _, hi⟩ := numd_in hq
        obtain ⟨e, _, he⟩ := pget e2 hi
        exact ⟨e, he⟩
      rw [numd_len] at k2
      have hk : (inA a).length * (2 * κ ^ n - 1) ≤ κ * (2 * κ ^ n - 1) := Nat.mul_le_mul_right _ hdl
      have hk2 : κ * (2 * κ ^ n - 1) = κ * (2 * κ ^ n) - κ * 1 := Nat.mul_sub ..
      have hk3 : κ * 1 ≤ κ * (2 * κ ^ n) := Nat.mul_le_mul_left _ (by omega)
      omega
    · rcases List.mem_cons.mp hp with rfl | hp
      · exact ⟨by simp, a, rfl⟩
      · obtain ⟨q, hq, hp⟩ := List.mem_flatMap.mp hp
        obtain ⟨p', hp', rfl⟩ := List.mem_map.mp hp
        obtain ⟨i, ei, hi⟩ := numd_in hq
        obtain ⟨e, _, he⟩ := pget e2 hi
        obtain ⟨_, hh⟩ := paths_len hκ he
        obtain ⟨l1, b, hb⟩ := hh p' hp'
        refine ⟨by rw [List.length_cons]; omega, b, ?_⟩
        have hlt := (List.getElem?_eq_some_iff.mp hi).1
        show (if _ then _ else _) = _
        rw [ei, if_pos ⟨by omega, by omega⟩, Int.toNat_natCast, hi]
        exact hb
theorem fold_paths {α β : Type} {R : Int × α → Int × β → Prop} {r : β → Rs (List (List Int))} {g : α → List (List Int)} : ∀ {qs : List (Int × α)} {qs' : List (Int × β)} (s : List (List Int)), Paired R qs qs' → (∀ q q', R q q' → q ∈ qs → q.1 = q'.1 ∧ r q'.2 = .ok (g q.2) ∧ ∀ p ∈ g q.2, p.length ≤ 1000) → s.length + (qs.map fun q => (g q.2).length).sum ≤ 8000000 →
    foldR (S := (List (List Int))) (fun (s5 : (List (List Int))) (x6 : (Int × β)) => (((r x6.2).bd fun v_7 => mapR (fun (x8 : (List Int)) => catR [x6.1] x8) v_7).bd fun v_10 => catR s5 v_10).bd fun found_12 => Rs.ok found_12) s qs' = .ok (s ++ qs.flatMap fun q => (g q.2).map (q.1 :: ·))
  | _, _, s, .nil, _, _ => by rw [List.flatMap_nil, List.append_nil]; rfl
  | q :: qs, q' :: qs', s, .cons hq t, hf, hl => by
    obtain ⟨h1, h2, h3⟩ := hf _ _ hq (List.mem_cons_self ..)
    rw [List.map_cons, List.sum_cons] at hl
    unfold foldR
    rw [h2, Rs.bd_ok, show mapR (fun (x8 : (List Int)) => catR [q'.1] x8) (g q.2) = .ok ((g q.2).map (q.1 :: ·)) from mapR_ok fun p hp => by
      have := h3 p hp
      rw [catR_ok (by show 1 + p.length ≤ _; omega), h1]
      rfl, Rs.bd_ok, catR_ok (by rw [List.length_map]; omega), Rs.bd_ok, Rs.bd_ok]
    have ih := fold_paths (s ++ (g q.2).map (q.1 :: ·)) t (fun x x' hx hm => hf x x' hx (List.mem_cons_of_mem _ hm)) (by rw [List.length_append, List.length_map]; omega)
    rw [ih, List.flatMap_cons, List.append_assoc]
theorem paths_ok {κ : Nat} (hκ : 2 ≤ κ) : ∀ {n : Nat} {a : Ask} {d : PyData} {m : Nat}, Dn κ n a d → n ≤ m → n ≤ 900 → 2 * κ ^ n ≤ 8000000 → m_paths_of m a = .ok (pathsA n a)
  | 0, _, _, _, h, _, _, _ => h.elim
  | n + 1, a, d, 0, h, hm, _, _ => absurd hm (by omega)
  | n + 1, a, d, m + 1, h, hm, h9, hB => by
    have hm : n ≤ m := by omega
    have hB' : 2 * κ ^ n ≤ 8000000 := Nat.le_trans (Nat.mul_le_mul_left _ (Nat.pow_le_pow_right (by omega) (Nat.le_succ n))) hB
    have hlen := (paths_len hκ h).1
    have hsum : (pathsA (n + 1) a).length = 1 + ((numd (inA a)).map fun q => (pathsA n q.2).length).sum := by
      show ((numd (inA a)).flatMap fun q => (pathsA n q.2).map (q.1 :: ·)).length + 1 = _
      rw [List.length_flatMap]
      simp only [List.length_map]
      omega
    show mF_paths_of (m_paths_of m) a = _
    unfold mF_paths_of
    rw [inner_A]
    simp only [Rs.bd_ok]
    have same : ∀ {xs : List Ask}, Paired (fun (q q' : Int × Ask) => q.1 = q'.1 ∧ q.2 = q'.2) (numd xs) (numd xs) := fun {xs} => pr_numd (F := fun a b => a = b) (by
      induction xs with
      | nil => exact .nil
      | cons x xs ih => exact .cons rfl ih)
    have f1 := fold_paths (r := m_paths_of m) (g := pathsA n) [([] : List Int)] (same (xs := inA a)) (fun q q' hq hmem => by
      obtain ⟨i, _, hi⟩ := numd_in hmem
      obtain ⟨e, he⟩ := h.child hi
      have he : Dn κ n q.2 e := he
      rw [← hq.2]
      exact ⟨hq.1, paths_ok hκ he hm (by omega) hB', fun p hp => by have := ((paths_len hκ he).2 p hp).1; omega⟩) (by rw [List.length_singleton]; omega)
    simp only [Rs.bd_as, Rs.bd_ok] at f1 ⊢
    rw [f1]
    rfl
end Lw

namespace Lw
open PySem PySem.Spec PyProof.Rows L2 PL Tp
/-! ### the leaves of an asking, the program's -/
def leafA : Ask → Bool
  | .word _ => true
  | .begin _ => true
  | .row _ => true
  | .near .. => true
  | _ => false
theorem leaf_is (a : Ask) : m_is_leaf a = .ok (leafA a) := by
  unfold m_is_leaf
  cases a <;> rfl
def inPs : Ask → List Int → List Int
  | .in_ k _, ps => ps.filter fun x => decide (x = k)
  | _, ps => ps
def partsA : Ask → List Int → List Int → List Int
  | _, [], ps => ps
  | a, k :: p, ps => match (inA a)[k.toNat]? with
    | some c => partsA c p (inPs a ps)
    | none => inPs a ps
theorem parts_snoc : ∀ {p : List Int} {a b : Ask} {k : Int} {ps : List Int}, nodeA a p = some b → partsA a (p ++ [k]) ps = inPs b (partsA a p ps)
  | [], a, b, k, ps, h => by
    cases h
    show (match (inA a)[k.toNat]? with
      | some c => partsA c [] (inPs a ps)
      | none => inPs a ps) = _
    cases (inA a)[k.toNat]? with
    | some c => rfl
    | none => rfl
  | j :: p, a, b, k, ps, h => by
    obtain ⟨c, r, e, hc⟩ := node_cons h
    show (match (inA a)[j.toNat]? with
      | some c => partsA c (p ++ [k]) (inPs a ps)
      | none => inPs a ps) = inPs b (match (inA a)[j.toNat]? with
      | some c => partsA c p (inPs a ps)
      | none => inPs a ps)
    rw [e]
    exact parts_snoc hc
theorem within_in {κ n : Nat} {a : Ask} {d : PyData} (h : Dn κ n a d) (hn : n ≤ 70) (ps : List Int) : m_parts_within ps a = .ok (inPs a ps) := by
  unfold m_parts_within
  have ht := told_ok h hn
  cases a with
  | in_ k b =>
    cases n with
    | zero => exact h.elim
    | succ n =>
      obtain ⟨e, rfl, h2, h3, h4⟩ := h
      rw [show is_In (.in_ k b) = true from rfl, ht, if_neg (by decide)]
      simp only [Rs.bd_ok]
      rw [ixP1]
      simp only [Rs.bd_ok]
      rw [show asI (.int k) = .ok k from rfl]
      simp only [Rs.bd_ok]
      rw [lcR_pure (fun x => decide (x = k)) (fun x => x), List.map_id']
      rfl
  | _ => rfl
theorem parts_ok {κ n : Nat} {a b : Ask} {d : PyData} {p : List Int} (h : Dn κ n a d) (hn : n ≤ 70) (hp : nodeA a p = some b) (hl : p.length ≤ 1000) : m_parts_at a p = .ok (partsA a p [(0 : Int), (1 : Int), (2 : Int)]) := by
  unfold m_parts_at
  rw [Rs.bd_ok, rngR_ok (by omega) (by omega), Rs.bd_ok, Int.toNat_natCast]
  have key : ∀ i, i ≤ p.length → foldR (S := (List Int)) (fun (s5 : (List Int)) (x6 : Int) => ((m_node_at a (cut p (none) (some x6))).bd fun v_7 => m_parts_within s5 v_7).bd fun parts_9 => Rs.ok parts_9) [(0 : Int), (1 : Int), (2 : Int)] ((rngL 0 p.length).take i) = .ok (partsA a (p.take i) [(0 : Int), (1 : Int), (2 : Int)]) := by
    intro i
    induction i with
    | zero => exact fun _ => rfl
    | succ i ih =>
      intro hi
      have hr : (rngL 0 p.length)[i]? = some (i : Int) := by rw [rngL_get (by omega)]; simp
      obtain ⟨k, hk⟩ : ∃ k, p[i]? = some k := ⟨_, List.getElem?_eq_getElem (by omega)⟩
      rw [List.take_add_one, hr, Option.toList_some, foldR_app, ih (by omega), Rs.bd_ok, List.take_add_one, hk, Option.toList_some]
      obtain ⟨c, hc, _⟩ := node_pre (p := p.take i) (q := p.drop i) (by rw [List.take_append_drop]; exact hp)
      obtain ⟨e, he⟩ := node_dn h hc
      have ec : cut p none (some (i : Int)) = p.take i := cut_to _ (by omega)
      unfold foldR
      rw [ec, node_ok hc, Rs.bd_ok, within_in he hn, Rs.bd_ok, Rs.bd_ok, parts_snoc hc]
      rfl
  have e := key p.length (Nat.le_refl _)
  rw [List.take_length, List.take_of_length_le (by rw [rngL_len]; omega)] at e
  rw [e]
  rfl
def lfAt (a : Ask) (p : List Int) : Bool := match nodeA a p with
  | some b => leafA b
  | none => false
def lvA : Nat → Ask → List Int → List Int → List (List Int × List Int)
  | 0, _, _, _ => []
  | n + 1, a, pre, ps => if leafA a = true then [(pre, ps)] else (numd (inA a)).flatMap fun q => lvA n q.2 (pre ++ [q.1]) (inPs a ps)
theorem leaf_in {a : Ask} (h : leafA a = true) : inA a = [] := by
  cases a <;> first | rfl | cases h
theorem flat_congr {α β : Type} {f g : α → List β} : ∀ {xs : List α}, (∀ x ∈ xs, f x = g x) → xs.flatMap f = xs.flatMap g
  | [], _ => rfl
  | x :: xs, h => by rw [List.flatMap_cons, List.flatMap_cons, h x (List.mem_cons_self ..), flat_congr fun y hy => h y (List.mem_cons_of_mem _ hy)]
theorem map_congr {α β : Type} {f g : α → β} {xs : List α} (h : ∀ x ∈ xs, f x = g x) : xs.map f = xs.map g := List.map_congr_left h
theorem lv_paths {κ : Nat} : ∀ {n : Nat} {a : Ask} {d : PyData} (pre ps : List Int), Dn κ n a d → ((pathsA n a).filter (lfAt a)).map (fun p => (pre ++ p, partsA a p ps)) = lvA n a pre ps
  | 0, _, _, _, _, h => h.elim
  | n + 1, a, d, pre, ps, h => by
    show ((([] : List Int) :: (numd (inA a)).flatMap fun q => (pathsA n q.2).map (q.1 :: ·)).filter (lfAt a)).map _ = if leafA a = true then [(pre, ps)] else _
    have e0 : lfAt a [] = leafA a := rfl
    cases hl : leafA a with
    | true =>
      rw [leaf_in hl, if_pos rfl]
      show ((([] : List Int) :: []).filter (lfAt a)).map _ = _
      rw [List.filter_cons_of_pos (by rw [e0]; exact hl)]
      show [(pre ++ [], ps)] = _
      rw [List.append_nil]
    | false =>
      rw [if_neg Bool.false_ne_true, List.filter_cons_of_neg (by rw [e0, hl]; decide), List.filter_flatMap, List.map_flatMap]
      refine flat_congr fun q hq => ?_
      obtain ⟨i, ei, hi⟩ := numd_in hq
      obtain ⟨e, he⟩ := h.child hi
      have he : Dn κ n q.2 e := he
      rw [← lv_paths (pre ++ [q.1]) (inPs a ps) he, List.filter_map, List.map_map]
      have ef : (pathsA n q.2).filter (lfAt a ∘ fun x => q.1 :: x) = (pathsA n q.2).filter (lfAt q.2) := by
        congr 1
        funext p
        show lfAt a (q.1 :: p) = _
        unfold lfAt
        rw [ei, node_at_i hi]
      rw [ef]
      refine map_congr fun p _ => ?_
      show (pre ++ q.1 :: p, partsA a (q.1 :: p) ps) = _
      have e2 : partsA a (q.1 :: p) ps = partsA q.2 p (inPs a ps) := by
        show (match (inA a)[q.1.toNat]? with
          | some c => partsA c p (inPs a ps)
          | none => inPs a ps) = _
        rw [ei, Int.toNat_natCast, hi]
      rw [e2, List.append_assoc]
      rfl
theorem leaves_ok {κ n : Nat} (hκ : 2 ≤ κ) {a : Ask} {d : PyData} (h : Dn κ n a d) (hn : n ≤ 70) (hB : 2 * κ ^ n ≤ 8000000) : m_leaves_of a = .ok (lvA n a [] [(0 : Int), (1 : Int), (2 : Int)]) := by
  unfold m_leaves_of
  rw [paths_ok hκ (m := 70) h hn (by omega) hB, Rs.bd_ok]
  have hv := (paths_len hκ h).2
  rw [lcR_ok (k' := lfAt a) (g := fun x => x) (fun p hp => by
    obtain ⟨l1, b, hb⟩ := hv p hp
    rw [node_ok hb, Rs.bd_ok, leaf_is]
    unfold lfAt
    rw [hb]
    rfl) fun _ _ _ => rfl]
  rw [List.map_id', Rs.bd_ok]
  rw [mapR_ok (g := fun p => (p, partsA a p [(0 : Int), (1 : Int), (2 : Int)])) fun p hp => by
    obtain ⟨l1, b, hb⟩ := hv p (List.mem_filter.mp hp).1
    rw [parts_ok h hn hb (by omega)]
    rfl]
  rw [Rs.bd_ok, ← lv_paths [] _ h]
  rfl
end Lw

namespace Lw
open PySem PySem.Spec PyProof.Rows L2 PL Tp
/-! ### the leaves that the law finds -/
theorem nmz_leaf : ∀ i : Fin 11, isin (nms11.getD i.val []) [tx "word", tx "begin", tx "row", tx "near"] = decide (i.val < 4) := by decide +kernel
theorem nmz_aa : ∀ i : Fin 11, isin (nms11.getD i.val []) [tx "all", tx "any"] = decide (i.val = 5 ∨ i.val = 6) := by decide +kernel
theorem nm_getD (a : Ask) : nms11.getD (ixA a) [] = nmA a := by cases a <;> rfl
theorem nm_leaf (a : Ask) : isin (nmA a) [tx "word", tx "begin", tx "row", tx "near"] = leafA a := by
  have h := nmz_leaf ⟨ixA a, ixA_lt a⟩
  rw [nm_getD] at h
  rw [h]
  cases a <;> rfl
def aaA : Ask → Bool
  | .all _ => true
  | .any _ => true
  | _ => false
theorem nm_aa (a : Ask) : isin (nmA a) [tx "all", tx "any"] = aaA a := by
  have h := nmz_aa ⟨ixA a, ixA_lt a⟩
  rw [nm_getD] at h
  rw [h]
  cases a <;> rfl
theorem lv_len {κ n : Nat} (hκ : 2 ≤ κ) {a : Ask} {d : PyData} (h : Dn κ n a d) (pre ps : List Int) : (lvA n a pre ps).length + 1 ≤ 2 * κ ^ n := by
  have h1 := (paths_len hκ h).1
  rw [← lv_paths pre ps h, List.length_map]
  have := List.length_filter_le (lfAt a) (pathsA n a)
  omega
theorem fold_lv {r : PyData → List Int → List Int → Rs (List (List Int × List Int))} {path ps : List Int} {F : Ask → PyData → Prop} {g : Ask → List Int → List (List Int × List Int)} {xs : List Ask} {ds : List PyData} (hp : Paired F xs ds) (hr : ∀ b e k, F b e → r e (path ++ [k]) ps = .ok (g b (path ++ [k]))) (hl : path.length ≤ 1000) (hB : ((numd xs).flatMap fun q => g q.2 (path ++ [q.1])).length ≤ 8000000) :
    foldR (S := (List ((List Int) × (List Int)))) (fun (s39 : (List ((List Int) × (List Int)))) (x40 : Int) => ((ixR ds x40).bd fun v_41 => (catR path [x40]).bd fun v_42 => (r v_41 v_42 ps).bd fun v_43 => catR s39 v_43).bd fun found_45 => Rs.ok found_45) [] (rngL 0 ds.length) = .ok ((numd xs).flatMap fun q => g q.2 (path ++ [q.1])) := by
  have hel := plen hp
  have key : ∀ i, i ≤ ds.length → foldR (S := (List ((List Int) × (List Int)))) (fun (s39 : (List ((List Int) × (List Int)))) (x40 : Int) => ((ixR ds x40).bd fun v_41 => (catR path [x40]).bd fun v_42 => (r v_41 v_42 ps).bd fun v_43 => catR s39 v_43).bd fun found_45 => Rs.ok found_45) [] ((rngL 0 ds.length).take i) = .ok (((numd xs).take i).flatMap fun q => g q.2 (path ++ [q.1])) := by
    intro i
    induction i with
    | zero => exact fun _ => rfl
    | succ i ih =>
      intro hi
      have hr0 : (rngL 0 ds.length)[i]? = some (i : Int) := by rw [rngL_get (by omega)]; simp
      obtain ⟨x, hx⟩ : ∃ x, xs[i]? = some x := ⟨_, List.getElem?_eq_getElem (by omega)⟩
      obtain ⟨e, he, hF⟩ := pget hp hx
      have hn : (numd xs)[i]? = some ((i : Int), x) := numd_get hx
      have hB2 : (((numd xs).take i).flatMap fun q => g q.2 (path ++ [q.1])).length + (g x (path ++ [(i : Int)])).length ≤ 8000000 := by
        have e1 : numd xs = (numd xs).take (i + 1) ++ (numd xs).drop (i + 1) := (List.take_append_drop _ _).symm
        rw [e1, List.flatMap_append, List.length_append, List.take_add_one, hn, Option.toList_some, List.flatMap_append, List.length_append, List.flatMap_cons, List.flatMap_nil, List.append_nil] at hB
        dsimp only at hB
        omega
      rw [List.take_add_one, hr0, Option.toList_some, foldR_app, ih (by omega), Rs.bd_ok, List.take_add_one, hn, Option.toList_some, List.flatMap_append, List.flatMap_cons, List.flatMap_nil, List.append_nil]
      unfold foldR
      rw [ixR_at (j := i) rfl he, Rs.bd_ok, catR_ok (by show _ + 1 ≤ _; omega), Rs.bd_ok, hr _ _ _ hF, Rs.bd_ok, catR_ok (by omega)]
      rfl
  have e := key ds.length (Nat.le_refl _)
  rw [List.take_of_length_le (by rw [rngL_len]; omega), List.take_of_length_le (by rw [numd_len]; omega)] at e
  exact e
theorem law_leaves_ok {κ : Nat} (hκ : 2 ≤ κ) : ∀ {n m : Nat} {a : Ask} {d : PyData} {path ps : List Int}, Dn κ n a d → n ≤ m → path.length + n ≤ 1000 → 2 * κ ^ n ≤ 8000000 → m_law_leaves m d path ps = .ok (lvA n a path ps)
  | 0, _, _, _, _, _, h, _, _, _ => h.elim
  | n + 1, 0, _, _, _, _, _, hm, _, _ => absurd hm (by omega)
  | n + 1, m + 1, a, d, path, ps, h, hm, hl, hB => by
    have hm : n ≤ m := by omega
    have hB' : 2 * κ ^ n ≤ 8000000 := Nat.le_trans (Nat.mul_le_mul_left _ (Nat.pow_le_pow_right (by omega) (Nat.le_succ n))) hB
    have hlen := lv_len hκ h path ps
    show mF_law_leaves (m_law_leaves m) d path ps = _
    unfold mF_law_leaves
    rw [nm_in h, nm_in h, nm_is h, nm_is h, nm_is h, nm_leaf, nm_aa]
    have h' := h
    have sub : ∀ {b : Ask} {e : PyData} (k : Int) (qs : List Int), Dn κ n b e → m_law_leaves m e (path ++ [k]) qs = .ok (lvA n b (path ++ [k]) qs) := fun k qs q => law_leaves_ok hκ q hm (by rw [List.length_append, List.length_singleton]; omega) hB'
    have ecat : ∀ k : Int, catR path [k] = .ok (path ++ [k]) := fun k => catR_ok (by show _ + 1 ≤ _; omega)
    cases a with
    | word w => unfold nmA; simp only [nqA, leafA, Rs.bd_ok, if_true]; rfl
    | begin w => unfold nmA; simp only [nqA, leafA, Rs.bd_ok, if_true]; rfl
    | row w => unfold nmA; simp only [nqA, leafA, Rs.bd_ok, if_true]; rfl
    | near c x y => unfold nmA; simp only [nqA, leafA, Rs.bd_ok, if_true]; rfl
    | never => unfold nmA; simp only [nqA, leafA, decide_true, Rs.bd_ok, if_true, if_false, Bool.false_eq_true]; rfl
    | in_ q a =>
      unfold nmA; simp only [nqA, leafA, decide_true, Rs.bd_ok, if_true, if_false, Bool.false_eq_true]
      obtain ⟨e, rfl, h2, h3, h4⟩ := h'
      rw [ixP2, Rs.bd_ok, ecat, Rs.bd_ok, ixP1]
      simp only [Rs.bd_ok]
      rw [show asI (.int q) = .ok q from rfl]
      simp only [Rs.bd_ok]
      rw [lcR_pure (fun x => decide (x = q)) (fun x => x), List.map_id', Rs.bd_ok, sub 0 _ h2, Rs.bd_ok]
      show _ = Rs.ok (if leafA (.in_ q a) = true then _ else (numd [a]).flatMap _)
      rw [if_neg (by show ¬ false = true; decide)]
      show _ = Rs.ok (lvA n a (path ++ [((0 : Nat) : Int)]) (inPs (.in_ q a) ps) ++ [])
      rw [List.append_nil]
      rfl
    | by_ q a =>
      unfold nmA; simp only [nqA, leafA, decide_true, Rs.bd_ok, if_true, if_false, Bool.false_eq_true]
      obtain ⟨e, rfl, h2, h3, h4⟩ := h'
      rw [ixP2, Rs.bd_ok, ecat, Rs.bd_ok, sub 0 _ h2, Rs.bd_ok]
      show _ = Rs.ok (if leafA (.by_ q a) = true then _ else (numd [a]).flatMap _)
      rw [if_neg (by show ¬ false = true; decide)]
      show _ = Rs.ok (lvA n a (path ++ [((0 : Nat) : Int)]) ps ++ [])
      rw [List.append_nil]
      rfl
    | but a b =>
      obtain ⟨e, f, rfl, h2, h3⟩ := h'
      have hf := fold_lv (r := m_law_leaves m) (path := path) (ps := ps) (g := fun b p => lvA n b p ps) (Paired.cons h2 (Paired.cons h3 .nil)) (fun b e k q => sub k ps q) (by omega) (by
        have hh : ((numd [a, b]).flatMap fun q => lvA n q.2 (path ++ [q.1]) ps).length + 1 ≤ 2 * κ ^ (n + 1) := hlen
        omega)
      unfold nmA; simp only [nqA, leafA, aaA, decide_true, Rs.bd_ok, if_true, if_false, Bool.false_eq_true]
      rw [show asT (.tuple [sd (tx "but"), e, f]) = .ok [sd (tx "but"), e, f] from rfl]
      simp only [Rs.bd_ok]
      rw [show cut [sd (tx "but"), e, f] (some (1 : Int)) none = [e, f] from cut_from (n := 1) _ (by show 1 ≤ 3; omega)]
      rw [rngR_ok (by omega) (by show (2 : Int) ≤ 16777216; decide), Rs.bd_ok]
      rw [show ((([e, f] : List PyData).length : Int)).toNat = ([e, f] : List PyData).length from rfl, hf]
      rfl
    | also a b =>
      obtain ⟨e, f, rfl, h2, h3⟩ := h'
      have hf := fold_lv (r := m_law_leaves m) (path := path) (ps := ps) (g := fun b p => lvA n b p ps) (Paired.cons h2 (Paired.cons h3 .nil)) (fun b e k q => sub k ps q) (by omega) (by
        have hh : ((numd [a, b]).flatMap fun q => lvA n q.2 (path ++ [q.1]) ps).length + 1 ≤ 2 * κ ^ (n + 1) := hlen
        omega)
      unfold nmA; simp only [nqA, leafA, aaA, decide_true, Rs.bd_ok, if_true, if_false, Bool.false_eq_true]
      rw [show asT (.tuple [sd (tx "also"), e, f]) = .ok [sd (tx "also"), e, f] from rfl]
      simp only [Rs.bd_ok]
      rw [show cut [sd (tx "also"), e, f] (some (1 : Int)) none = [e, f] from cut_from (n := 1) _ (by show 1 ≤ 3; omega)]
      rw [rngR_ok (by omega) (by show (2 : Int) ≤ 16777216; decide), Rs.bd_ok]
      rw [show ((([e, f] : List PyData).length : Int)).toNat = ([e, f] : List PyData).length from rfl, hf]
      rfl
    | all xs =>
      obtain ⟨ds, rfl, h2, h3, h4⟩ := h'
      have hel := plen h2
      have hκB : κ ≤ 8000000 := by
        have h1 := Nat.pow_le_pow_right (n := κ) (by omega) (show 1 ≤ n + 1 by omega)
        rw [Nat.pow_one] at h1
        omega
      have hf := fold_lv (r := m_law_leaves m) (path := path) (ps := ps) (g := fun b p => lvA n b p ps) h2 (fun b e k q => sub k ps q) (by omega) (by
        have hh : ((numd xs).flatMap fun q => lvA n q.2 (path ++ [q.1]) ps).length + 1 ≤ 2 * κ ^ (n + 1) := hlen
        omega)
      unfold nmA; simp only [nqA, leafA, aaA, decide_true, Rs.bd_ok, if_true, if_false, Bool.false_eq_true]
      rw [show asT (.tuple [sd (tx "all"), .tuple ds]) = .ok [sd (tx "all"), .tuple ds] from rfl]
      simp only [Rs.bd_ok]
      rw [ixP1, Rs.bd_ok, show asT (.tuple ds) = .ok ds from rfl, Rs.bd_ok, Rs.bd_ok, Rs.bd_ok, rngR_ok (by omega) (by omega), Rs.bd_ok, Int.toNat_natCast, hf]
      rfl
    | any xs =>
      obtain ⟨ds, rfl, h2, h3, h4⟩ := h'
      have hel := plen h2
      have hκB : κ ≤ 8000000 := by
        have h1 := Nat.pow_le_pow_right (n := κ) (by omega) (show 1 ≤ n + 1 by omega)
        rw [Nat.pow_one] at h1
        omega
      have hf := fold_lv (r := m_law_leaves m) (path := path) (ps := ps) (g := fun b p => lvA n b p ps) h2 (fun b e k q => sub k ps q) (by omega) (by
        have hh : ((numd xs).flatMap fun q => lvA n q.2 (path ++ [q.1]) ps).length + 1 ≤ 2 * κ ^ (n + 1) := hlen
        omega)
      unfold nmA; simp only [nqA, leafA, aaA, decide_true, Rs.bd_ok, if_true, if_false, Bool.false_eq_true]
      rw [show asT (.tuple [sd (tx "any"), .tuple ds]) = .ok [sd (tx "any"), .tuple ds] from rfl]
      simp only [Rs.bd_ok]
      rw [ixP1, Rs.bd_ok, show asT (.tuple ds) = .ok ds from rfl, Rs.bd_ok, Rs.bd_ok, Rs.bd_ok, rngR_ok (by omega) (by omega), Rs.bd_ok, Int.toNat_natCast, hf]
      rfl
end Lw

namespace Lw
open PySem PySem.Spec PyProof.Rows L2 PL Tp
/-! ### what the laws k52 .. k58 draw -/
theorem at_ok (ns : List Int) {k : Int} (h0 : 0 ≤ k) : Yes (m_law_at ns k) fun _ => True := by
  unfold m_law_at
  by_cases h : k < (ns.length : Int)
  · rw [decide_eq_true h]
    obtain ⟨x, _, e⟩ := ixR_ok0 h0 h
    simp only [if_true]
    rw [e]
    exact ⟨x, rfl, trivial⟩
  · rw [decide_eq_false h]
    exact ⟨0, rfl, trivial⟩
theorem mixed_ok (c : Int) {k : Int} (h : -1000000 ≤ k ∧ k ≤ 1000000) : Yes (m_law_mixed c k) fun r => 0 ≤ r ∧ r < 2147483549 := by
  unfold m_law_mixed
  rw [mulR_s ⟨by omega, by omega⟩]
  simp only [Rs.bd_ok]
  generalize hn : ((c % 2147483647 * 48271 + k * k * 39373 + k * 6007 + 104729) % 2147483563) = n
  have n0 : 0 ≤ n := by rw [← hn]; exact Int.emod_nonneg _ (by decide)
  have n1 : n < 2147483563 := by rw [← hn]; exact Int.emod_lt_of_pos _ (by decide)
  rw [mulR_s ⟨by omega, by omega⟩]
  exact ⟨_, rfl, Int.emod_nonneg _ (by decide), Int.emod_lt_of_pos _ (by decide)⟩
theorem rich_ok (c : Int) : Yes (m_law_rich c) fun _ => True := by
  unfold m_law_rich
  simp only [Rs.bd_ok]
  refine Yes.rng (by decide) (by decide) ?_
  refine Yes.fold (fun _ _ => True) trivial (fun i x s hx _ => ?_) fun s _ => ⟨_, rfl, trivial⟩
  obtain ⟨hx1, hi⟩ := rngL_at hx
  have hi : i < 4 := hi
  obtain ⟨r, e, _⟩ := mixed_ok c (k := 300 + x) (by omega)
  rw [e]
  exact ⟨_, rfl, trivial⟩
theorem stream_ok (c : Int) : Yes (m_law_stream c) fun _ => True := by
  unfold m_law_stream
  refine Yes.if (fun _ => ?_) fun _ => ⟨_, rfl, trivial⟩
  obtain ⟨r, e, _⟩ := rich_ok c
  rw [e]
  exact ⟨_, rfl, trivial⟩
def okP5 (ps : List Text) : Prop := ps.length ≤ 1000 ∧ ∀ t ∈ ps, Of (· ∈ lsgn) 1 20 t
theorem word_ok (r : Int) {ps : List Text} (h : okP5 ps) : Yes (m_law_word r ps) fun q => Of (· ∈ lsgn) 1 20 q.1 := by
  unfold m_law_word
  simp only [Rs.bd_ok]
  refine Yes.if (fun hk => ?_) fun _ => ?_
  · have hne : ps ≠ [] := by
      rintro rfl
      rw [show decide (([] : List Text) = []) = true from decide_eq_true rfl] at hk
      cases hk
    have hl : 0 < ps.length := List.length_pos_iff.mpr hne
    have hl2 := h.1
    rw [modR_ok (by omega)]
    simp only [Rs.bd_ok]
    obtain ⟨x, hx, e⟩ := ixR_in (xs := ps) (n := r / 8) (m := (ps.length : Int)) rfl (by omega)
    rw [e, divR_ok (by omega) (by omega)]
    exact ⟨_, rfl, h.2 x hx⟩
  · have h0 := Int.emod_nonneg (r / 8) (show (20 : Int) ≠ 0 by decide)
    have h1 := Int.emod_lt_of_pos (r / 8) (show (0 : Int) < 20 by decide)
    refine Yes.rng (by omega) (by omega) ?_
    obtain ⟨s, e, h2, h3⟩ := dig_loop (sg := lsgn) (m := 36) (xs := rngL 0 (1 + r / 8 % 20).toNat) (f := fun (s14 : (Int × Text)) (x15 : Int) => ((sgnR (tx "abcdefghijklmnopqrstuvwxyz0123456789") (s14.1 % (36 : Int))).bd fun v_16 => catR s14.2 v_16).bd fun found_18 => Rs.ok (s14.1 / (36 : Int), found_18)) (by rw [lsgn_len]; rfl) (by decide) (by rw [rngL_len]; omega) (r / 8 / 20) fun s x => rfl
    rw [show tx "" = [] from rfl, e]
    rw [rngL_len] at h2
    exact ⟨_, rfl, by show (1 : Int) ≤ (s.2.length : Int); omega, by show (s.2.length : Int) ≤ 20; omega, h3⟩
end Lw

namespace Lw
open PySem PySem.Spec PyProof.Rows L2 PL Tp
/-! ### the trees that the laws with a memo draw -/
theorem leaf_ok {κ : Nat} (r : Int) {ps : List Text} (h : okP5 ps) : Yes (m_law_leaf r ps) fun p => ∃ a, Dn κ 1 a p.1 := by
  unfold m_law_leaf
  obtain ⟨p, e, hp⟩ := word_ok (r / 4) h
  rw [Rs.bd_ok, e, Rs.bd_ok]
  have hp1 := hp.1
  have hp2 := hp.2.1
  by_cases w0 : r % 4 = 0
  · rw [decide_eq_true w0, if_pos rfl]
    exact ⟨_, rfl, .word p.1, hp, rfl⟩
  rw [decide_eq_false w0, if_neg Bool.false_ne_true]
  by_cases w1 : r % 4 = 1
  · have hdv : divR p.2 (p.1.length : Int) = .ok (p.2 / (p.1.length : Int)) := by
      rw [divR_ok (by omega)]
      have e64 : (2 : Nat) ^ 64 = 18446744073709551616 := by decide
      omega
    rw [decide_eq_true w1, if_pos rfl, modR_ok (by omega), Rs.bd_ok, hdv, Rs.bd_ok]
    have m0 := Int.emod_nonneg p.2 (show (p.1.length : Int) ≠ 0 by omega)
    have m1 := Int.emod_lt_of_pos p.2 (show (0 : Int) < (p.1.length : Int) by omega)
    refine ⟨_, rfl, .begin (cut p.1 none (some (1 + p.2 % (p.1.length : Int)))), ?_, rfl⟩
    have el : (cut p.1 none (some (1 + p.2 % (p.1.length : Int)))).length = (1 + p.2 % (p.1.length : Int)).toNat := by
      rw [show 1 + p.2 % (p.1.length : Int) = (((1 + p.2 % (p.1.length : Int)).toNat : Nat) : Int) by omega, cut_upto, List.length_take]
      omega
    exact ⟨by omega, by omega, fun c hc => hp.2.2 c (cut_mem hc)⟩
  rw [decide_eq_false w1, if_neg Bool.false_ne_true]
  by_cases w2 : r % 4 = 2
  · rw [decide_eq_true w2, if_pos rfl, Rs.bd_ok, Rs.bd_ok]
    have h0 := Int.emod_nonneg p.2 (show (5 : Int) ≠ 0 by decide)
    have h1 := Int.emod_lt_of_pos p.2 (show (0 : Int) < 5 by decide)
    obtain ⟨s, e, hI, hc⟩ := whileR_inv (c := fun s13 : Int × List Text => Rs.ok (decide ((s13.2.length : Int) < 2 + p.2 % 5))) (f := fun s13 => (m_law_word s13.1 ps).bd fun p_15 => (appR s13.2 p_15.1).bd fun row_16 => Rs.ok (p_15.2, row_16)) (fun s => (s.2.length : Int) ≤ 2 + p.2 % 5 ∧ ∀ t ∈ s.2, Pln t) (fun s => 10 - s.2.length) (fun s hI => ⟨_, rfl, fun hb => by
        have hb := of_decide_eq_true hb
        obtain ⟨w, ew, hw⟩ := word_ok s.1 h
        refine ⟨(w.2, s.2 ++ [w.1]), by rw [ew, Rs.bd_ok, appR_ok (by omega)]; rfl, ⟨by show ((s.2 ++ [w.1]).length : Int) ≤ _; rw [List.length_append]; show ((s.2.length + 1 : Nat) : Int) ≤ _; omega, fun t ht => ?_⟩, by show 10 - (s.2 ++ [w.1]).length < _; rw [List.length_append]; show 10 - (s.2.length + 1) < 10 - s.2.length; omega⟩
        rcases List.mem_append.mp ht with ht | ht
        · exact hI.2 t ht
        · rw [List.mem_singleton.mp ht]; exact hw⟩) fuelW (p.2 / 5, [p.1]) ⟨by show (1 : Int) ≤ _; omega, fun t ht => by rw [List.mem_singleton.mp ht]; exact hp⟩ (by show 10 - 1 < fuelW; unfold fuelW; decide)
    have hc : decide ((s.2.length : Int) < 2 + p.2 % 5) = false := Rs.ok.inj hc
    have hc := of_decide_eq_false hc
    refine ⟨_, (congrArg (fun m => Rs.bd m _) e).trans rfl, .row s.2, ⟨?_, ?_, hI.2⟩, rfl⟩
    · have := hI.1; omega
    · have := hI.1; omega
  rw [decide_eq_false w2, if_neg Bool.false_ne_true, Rs.bd_ok]
  have h0 := Int.emod_nonneg p.2 (show (20 : Int) ≠ 0 by decide)
  have h1 := Int.emod_lt_of_pos p.2 (show (0 : Int) < 20 by decide)
  obtain ⟨q, e2, hq⟩ := word_ok (p.2 / 20) h
  rw [e2, Rs.bd_ok]
  exact ⟨_, rfl, .near (1 + p.2 % 20) p.1 q.1, ⟨by show (1 : Int) ≤ 1 + p.2 % 20; omega, by show 1 + p.2 % 20 ≤ 20; omega, hp, hq⟩, rfl⟩
theorem pr_ex {α β : Type} {F : α → β → Prop} : ∀ {ys : List β}, (∀ y ∈ ys, ∃ x, F x y) → ∃ xs, Paired F xs ys
  | [], _ => ⟨[], .nil⟩
  | y :: ys, h => by
    obtain ⟨x, hx⟩ := h y (List.mem_cons_self ..)
    obtain ⟨xs, hxs⟩ := pr_ex fun z hz => h z (List.mem_cons_of_mem _ hz)
    exact ⟨x :: xs, .cons hx hxs⟩
theorem two_of {α : Type} {l : List α} (h : l.length = 2) : ∃ a b, l = [a, b] := by
  match l, h with
  | [a, b], _ => exact ⟨a, b, rfl⟩
theorem leaf_tree_ok {κ m k : Nat} {ps : List Text} (sub : ∀ r, Yes (m_law_tree m r ps (k : Int)) fun p => ∃ a, Dn κ (k + 1) a p.1) (r w : Int) : Yes (m_law_leaf_tree (m + 1) r ps w ((k : Int) + 1)) fun p => ∃ a, Dn κ (k + 2) a p.1 := by
  show Yes (mF_law_leaf_tree (m_law_leaf_tree m) (m_law_tree m) r ps w ((k : Int) + 1)) _
  unfold mF_law_leaf_tree
  rw [show (k : Int) + 1 - 1 = (k : Int) by omega]
  refine Yes.if (fun _ => ?_) fun _ => Yes.if (fun _ => ?_) fun _ => ⟨_, rfl, .never, rfl⟩
  · have h0 := Int.emod_nonneg r (show (3 : Int) ≠ 0 by decide)
    have h1 := Int.emod_lt_of_pos r (show (0 : Int) < 3 by decide)
    rw [Rs.bd_ok]
    refine Yes.bd (sub _) fun q hq => ?_
    obtain ⟨a, ha⟩ := hq
    exact ⟨_, rfl, .in_ (r % 3) a, _, rfl, ha, by omega, by omega⟩
  · have h0 := Int.emod_nonneg r (show (1000 : Int) ≠ 0 by decide)
    have h1 := Int.emod_lt_of_pos r (show (0 : Int) < 1000 by decide)
    rw [Rs.bd_ok]
    refine Yes.bd (sub _) fun q hq => ?_
    obtain ⟨a, ha⟩ := hq
    exact ⟨_, rfl, .by_ (r % 1000) a, _, rfl, ha, by omega, by omega⟩
theorem tree_ok {ps : List Text} (h : okP5 ps) : ∀ (m k : Nat) (r : Int), 2 * k < m → Yes (m_law_tree m r ps (k : Int)) fun p => ∃ a, Dn 3 (k + 1) a p.1
  | 0, k, r, hm => absurd hm (by omega)
  | 1, k, r, hm => by
    obtain rfl : k = 0 := by omega
    show Yes (mF_law_tree (m_law_leaf_tree 0) (m_law_tree 0) r ps (((0 : Nat)) : Int)) _
    unfold mF_law_tree
    rw [Rs.bd_ok, Rs.bd_ok, show (decide ((((0 : Nat)) : Int) = 0)) = true from rfl, Bool.true_or, if_pos rfl]
    exact Yes.bd (leaf_ok _ h) fun q hq => ⟨_, rfl, hq⟩
  | m + 2, k, r, hm => by
    show Yes (mF_law_tree (m_law_leaf_tree (m + 1)) (m_law_tree (m + 1)) r ps (k : Int)) _
    unfold mF_law_tree
    have w0 := Int.emod_nonneg r (show (11 : Int) ≠ 0 by decide)
    have w1 := Int.emod_lt_of_pos r (show (0 : Int) < 11 by decide)
    rw [Rs.bd_ok, Rs.bd_ok]
    generalize r % 11 = w at *
    generalize r / 11 = r
    refine Yes.if (fun _ => ?_) fun hk => ?_
    · refine Yes.bd (leaf_ok (κ := 3) r h) fun q hq => ⟨_, rfl, ?_⟩
      obtain ⟨a, ha⟩ := hq
      exact ⟨a, ha.up (by omega)⟩
    · rw [Bool.or_eq_false_iff, decide_eq_false_iff_not, decide_eq_false_iff_not] at hk
      obtain ⟨k0, w4⟩ := hk
      obtain ⟨k, rfl⟩ : ∃ j, k = j + 1 := ⟨k - 1, by omega⟩
      have sub := fun r => tree_ok h (m + 1) k r (by omega)
      have sub0 := fun r => tree_ok h m k r (by omega)
      rw [show ((k + 1 : Nat) : Int) = (k : Int) + 1 by omega]
      refine Yes.if (fun _ => ?_) fun hi => ?_
      · exact Yes.bd (leaf_tree_ok sub0 r w) fun q hq => ⟨_, rfl, hq⟩
      · have hw : w = 5 ∨ w = 6 ∨ w = 7 ∨ w = 8 := by
          have n9 : w ≠ 4 ∧ w ≠ 9 ∧ w ≠ 10 := by
            refine ⟨?_, ?_, ?_⟩ <;> (rintro rfl; revert hi; decide)
          omega
        rw [show (k : Int) + 1 - 1 = (k : Int) by omega, Rs.bd_ok]
        have ks : Yes ((if (decide (w < (7 : Int))) = true then ((Rs.ok ((1 : Int) + (r % (3 : Int)))).bd fun size_12 => (Rs.ok (r / (3 : Int))).bd fun rest_13 => Rs.ok (rest_13, size_12) : Rs (Int × Int)) else Rs.ok (r, (2 : Int)))) fun q => 1 ≤ q.2 ∧ q.2 ≤ 3 ∧ (7 ≤ w → q.2 = 2) := by
          refine Yes.if (fun hw => ?_) fun hw => ⟨_, rfl, by show (1 : Int) ≤ 2; decide, by show (2 : Int) ≤ 3; decide, fun _ => rfl⟩
          have h0 := Int.emod_nonneg r (show (3 : Int) ≠ 0 by decide)
          have h1 := Int.emod_lt_of_pos r (show (0 : Int) < 3 by decide)
          have hw := of_decide_eq_true hw
          exact ⟨_, rfl, by show 1 ≤ 1 + r % 3; omega, by show 1 + r % 3 ≤ 3; omega, fun z => absurd z (by omega)⟩
        refine Yes.bd ks fun q hq => ?_
        obtain ⟨q1, q2, q3⟩ := hq
        refine Yes.rng (by omega) (by omega) ?_
        refine Yes.fold (fun i (s : Int × List PyData) => s.2.length = i ∧ ∀ y ∈ s.2, ∃ a, Dn 3 (k + 1) a y) ⟨rfl, fun y hy => by cases hy⟩ (fun i x s hx hI => ?_) fun s hs => ?_
        · have hi := (List.getElem?_eq_some_iff.mp hx).1
          rw [rngL_len] at hi
          obtain ⟨p, e, hp⟩ := sub s.1
          rw [e, Rs.bd_ok, appR_ok (by rw [hI.1]; omega)]
          refine ⟨_, rfl, by show (s.2 ++ [p.1]).length = i + 1; rw [List.length_append, hI.1]; rfl, fun y hy => ?_⟩
          rcases List.mem_append.mp hy with hy | hy
          · exact hI.2 y hy
          · rw [List.mem_singleton.mp hy]; exact hp
        · rw [rngL_len] at hs
          obtain ⟨xs, hp⟩ := pr_ex hs.2
          have hl := plen hp
          have hs1 := hs.1
          rcases hw with rfl | rfl | rfl | rfl
          · rw [if_pos (by decide)]
            exact ⟨_, rfl, .all xs, _, rfl, hp, by omega, by omega⟩
          · rw [if_pos (by decide)]
            exact ⟨_, rfl, .any xs, _, rfl, hp, by omega, by omega⟩
          · rw [if_neg (by decide)]
            have q3 := q3 (by decide)
            obtain ⟨s1, s2⟩ := s
            obtain ⟨x, y, rfl⟩ := two_of (show s2.length = 2 by show (s1, s2).2.length = 2; omega)
            obtain ⟨a, ha⟩ := hs.2 x (List.mem_cons_self ..)
            obtain ⟨b, hb⟩ := hs.2 y (List.mem_cons_of_mem _ (List.mem_cons_self ..))
            exact ⟨_, rfl, .but a b, _, _, rfl, ha, hb⟩
          · rw [if_neg (by decide)]
            have q3 := q3 (by decide)
            obtain ⟨s1, s2⟩ := s
            obtain ⟨x, y, rfl⟩ := two_of (show s2.length = 2 by show (s1, s2).2.length = 2; omega)
            obtain ⟨a, ha⟩ := hs.2 x (List.mem_cons_self ..)
            obtain ⟨b, hb⟩ := hs.2 y (List.mem_cons_of_mem _ (List.mem_cons_self ..))
            exact ⟨_, rfl, .also a b, _, _, rfl, ha, hb⟩
end Lw

namespace Lw
open PySem PySem.Spec PyProof.Rows L2 PL Tp
/-! ### the law (k51) -/
theorem right_ok {n : Nat} {a : Ask} {d : PyData} (h : Dn 3 n a d) (hn : n ≤ 5) : m_law_right d = .ok true := by
  unfold m_law_right
  have p3 : 3 ^ n ≤ 3 ^ 5 := Nat.pow_le_pow_right (by decide) hn
  have p4 : 4 ^ n ≤ 4 ^ 5 := Nat.pow_le_pow_right (by decide) hn
  have e3 : 3 ^ 5 = 243 := by decide
  have e4 : 4 ^ 5 = 1024 := by decide
  obtain ⟨kp, e1, _, _⟩ := made_m (κ := 3) (by decide) (m := 70) h (by omega) (by omega) (by show 300 * 4 ^ n ≤ _; omega) [] KI.nil (by show 0 + 4 ^ n ≤ _; omega)
  have e2 := law_leaves_ok (κ := 3) (by decide) (m := 70) (path := []) (ps := [(0 : Int), (1 : Int), (2 : Int)]) h (by omega) (by show 0 + n ≤ _; omega) (by omega)
  have e5 := leaves_ok (κ := 3) (by decide) h (by omega) (by omega)
  rw [e1]
  simp only [Rs.bd_ok]
  rw [e2, e5, told_ok h (by omega)]
  simp only [Rs.bd_ok, decide_true, Bool.not_true, Bool.false_eq_true, if_false]
  rw [self_dn h (by omega)]
  simp only [Rs.bd_ok, Bool.not_true, Bool.false_eq_true, if_false]
  rw [forX_all fun x hx => by rfl]
  rfl
def pool51 : List Text := [tx "run", tx "try", tx "the", tx "x1", tx "sing"]
theorem pool51_of : ∀ t ∈ pool51, isOf t lsgn 1 20 = true := by decide +kernel
theorem pool51_ok : okP5 pool51 := ⟨by decide, fun t ht => of_isOf (pool51_of t ht)⟩
theorem law_holds (ns : List Int) (hl : ns.length ≤ 63) (_ : ∀ i ∈ ns, Bt 1048576 i) : m_law ns = .ok true := by
  unfold m_law
  obtain ⟨v, ev, _⟩ := at_ok ns (k := 1) (by decide)
  have hcl : (cut ns (some (1 : Int)) (some (41 : Int))).length ≤ 40 := cutN_len ns 1 41
  rw [Rs.bd_ok, ev, Rs.bd_ok, catR_ok (by show _ + 1 ≤ _; omega), Rs.bd_ok, Rs.bd_ok, forX_all fun x hx => ?_]
  · have e := leaves_ok (κ := 3) (n := 1) (by decide) (a := .never) (d := .tuple [sd (tx "never")]) rfl (by decide) (by decide)
    rw [Rs.bd_ok]
    show ((m_leaves_of Ask.never).bd fun v_26 => Rs.ok (decide (v_26 = []))).bd _ = _
    rw [e]
    rfl
  · obtain ⟨r, er, _⟩ := rich_ok x
    obtain ⟨v0, e0, _⟩ := at_ok ns (k := 0) (by decide)
    rw [er, Rs.bd_ok, e0, Rs.bd_ok, Rs.bd_ok]
    have ks : Yes ((if decide (v0 % 2 = 1) = true then ((m_law_stream x).bd fun rest_14 => Rs.ok rest_14 : Rs Int) else Rs.ok r)) fun _ => True := by
      refine Yes.if (fun _ => Yes.bd (stream_ok x) fun q _ => ⟨_, rfl, trivial⟩) fun _ => ⟨_, rfl, trivial⟩
    obtain ⟨s, es, _⟩ := ks
    obtain ⟨t2, et2, a2, h2⟩ := tree_ok pool51_ok 70 2 s (by decide)
    obtain ⟨t3, et3, a3, h3⟩ := tree_ok pool51_ok 70 3 s (by decide)
    have et2 : m_law_tree 70 s [tx "run", tx "try", tx "the", tx "x1", tx "sing"] (2 : Int) = .ok t2 := et2
    have et3 : m_law_tree 70 s [tx "run", tx "try", tx "the", tx "x1", tx "sing"] (3 : Int) = .ok t3 := et3
    rw [es, Rs.bd_ok, et2, Rs.bd_ok, Rs.bd_ok, Rs.bd_ok, Rs.bd_ok, et3, Rs.bd_ok, right_ok h3 (by decide)]
    have m0 := Int.emod_nonneg x (show (3 : Int) ≠ 0 by decide)
    have m1 := Int.emod_lt_of_pos x (show (0 : Int) < 3 by decide)
    have m2 := Int.emod_nonneg (x / 3) (show (3 : Int) ≠ 0 by decide)
    have m3 := Int.emod_lt_of_pos (x / 3) (show (0 : Int) < 3 by decide)
    have i1 : Dn 3 4 (.in_ (x % 3) a2) (.tuple [sd (tx "in"), .int (x % 3), t2.1]) := ⟨_, rfl, h2, by omega, by omega⟩
    have i2 : Dn 3 4 (.in_ (x / 3 % 3) a2) (.tuple [sd (tx "in"), .int (x / 3 % 3), t2.1]) := ⟨_, rfl, h2, by omega, by omega⟩
    have w1 : Dn 3 5 (.all [.in_ (x % 3) a2, .in_ (x / 3 % 3) a2]) (.tuple [sd (tx "all"), .tuple [.tuple [sd (tx "in"), .int (x % 3), t2.1], .tuple [sd (tx "in"), .int (x / 3 % 3), t2.1]]]) := ⟨_, rfl, .cons i1 (.cons i2 .nil), by show 1 ≤ 2; decide, by show 2 ≤ 3; decide⟩
    have w2 : Dn 3 5 (.any [.in_ (x % 3) a2, a2]) (.tuple [sd (tx "any"), .tuple [.tuple [sd (tx "in"), .int (x % 3), t2.1], t2.1]]) := ⟨_, rfl, .cons i1 (.cons (h2.up (by decide)) .nil), by show 1 ≤ 2; decide, by show 2 ≤ 3; decide⟩
    simp only [Rs.bd_ok, Bool.not_true, Bool.false_eq_true, if_false]
    rw [right_ok w1 (by decide)]
    simp only [Rs.bd_ok, Bool.not_true, Bool.false_eq_true, if_false]
    rw [right_ok w2 (by decide)]
    simp only [Rs.bd_ok, Bool.not_true, Bool.false_eq_true, if_false]
end Lw

open PySem PySem.W PySem.Calls PyProof.Rows
theorem PySem.Challenge.cw_shownranks_k51_leaves_and_parts_holds : PySem.Challenge.rw_shownranks_k51_leaves_and_parts.Holds := by
  w_on; o_law
  refine HandSHeadRun.head_any (r := OpenLaw.row PySem.Challenge.rw_shownranks_k51_leaves_and_parts) (q := view (OpenLaw.row PySem.Challenge.rw_shownranks_k51_leaves_and_parts).prog [49]) (H := Tp.hk) (ob := Tp.ob) (M := 13000) (loose := Tp.nms)
    (d := HandSHeadRun.topDef (OpenLaw.row PySem.Challenge.rw_shownranks_k51_leaves_and_parts).prog 49) (kwd := []) Tp.ob_eq (by kernel_rfl) (fun s => by kernel_rfl) Tp.run (by kernel_rfl) (by kernel_rfl)
    (by kernel_rfl) (by rfl) (by first | assumption | decide +kernel) (by decide +kernel) ⟨rfl, rfl, rfl, rfl, rfl, by decide +kernel⟩ ?hw ?hc
  case hw => w_witness2
  case hc =>
    refine PL.walk_EBG (l := PySem.Challenge.rw_shownranks_k51_leaves_and_parts) (n := 63) (k := Lw.lvl) (x := "_law_script") rfl (by decide) (by kernel_rfl) ⟨rfl, by decide, by decide⟩ ?F
    intro w mg fa h Y G hmg0
    obtain ⟨K, KX, c, cx⟩ := Y
    have hmg : mg ("law" : PySem.Str) = some (.ref fa) := by
      have e : (HandSHeadRun.topDef (OpenLaw.row PySem.Challenge.rw_shownranks_k51_leaves_and_parts).prog 49).name = ("law" : PySem.Str) := by kernel_rfl
      rw [← e]
      exact hmg0
    have T : Tp.Tx K mg := ⟨c, cx, h, KX, G⟩
    obtain ⟨fd, F⟩ := T.f_law
    have e := hmg.symm.trans T.g_law
    cases e
    have b := L2.FunD.bindsA (ps := ["_law_script"]) F fun _ _ _ _ _ _ us hl => match us, hl with | [_], _ => rfl
    exact ⟨K, fd, PL.spG (PL.M1 (PL.rL K PL.rI) PL.rB Lw.m_law), KX, fun s v => b s [v] rfl, fun H a ns hl hb hS => PL.law_spM hl hS (Lw.law_holds ns hl fun i hi => PL.bt_of (hb i hi)), fun base _ _ => Lw.fn_law T F⟩
