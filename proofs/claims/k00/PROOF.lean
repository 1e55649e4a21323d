import PyProof.Rows.All
import Wide.All
import OpenK.AllK
import Wide.FinOn
import HandS.ForMost
import HandS.ForExc
import HandS.CallSlots
import HandS.MakeKw
import HandS.Defaults
import HandS.ExcInit
import HandS.IsInst
import HandS.Wide
import KE.KExcSuper
import HandS.ExcValue
import HandS.ClsMeth
import HandS.Nested
import HandS.NestedK
import HandS.ExcField
import HandS.ExcIs
import HandS.TryMany
import KE.KEqSeq
import HandS.DictComp
import KE.KStateDown
import HandS.Head0
import HandS.Head1
import HandS.Head2
import HandS.HeadEnd
import HandS.HeadHook1
import HandS.HeadHook2
import PySem.Challenge.RW_allstreams_k00_errors_made_by_hand
import HandS.EndBits
import KE.IntBitsLaws
set_option Elab.async false
set_option linter.all false
set_option maxRecDepth 100000
set_option maxHeartbeats 4000000
/-! VL0: values as data (D), how they stand in a heap (Rep), the state of a body by values, the frame of a call. -/
namespace VL
open PySem PySem.Spec PyProof.Rows L2

inductive D where
  | non | bl (b : Bool) | int (i : Int) | str (x : Str) | lst (xs : List D) | tup (xs : List D)
  | ins (c : Str) (ks : List Str) (ds : List D) | adr (a : Addr) | ty (n : String) | cref (x : Str) | scr (xs : List D) | dct (ks : List Key) (ds : List D)
  | exn (c : Str) (ks : List Str) (ds : List D) | cau (a d : Addr) (c : Str) (ks : List Str) (ds : List D)

/-- what is known of the pen: how many more cells may be begun, or all that is in it -/
inductive PenS where
  | bud (r : Nat) | ex (cells : List Int) (b l : Int)
abbrev Pn := Option (Addr × PenS)
def PenB (r : PenS) (cells : List Int) (b l : Int) : Prop := match r with
  | .bud r => cells.length ≤ 63 ∧ (∀ x ∈ cells, x.natAbs < 2 ^ 1048577) ∧ 0 ≤ b ∧ b + r ≤ 2 ^ 50 ∧ 0 ≤ l ∧ l.natAbs < 2 ^ 1048577
  | .ex cs b' l' => cells = cs ∧ b = b' ∧ l = l'
structure ExD where
  c : Str
  ks : List Str
  ds : List D
inductive Sl where
  | un | val (d : D) | own (ds : List D) | obj (a : Addr) (c : Str) (ks : List Str) (ds : List D)
def Sl.isOwn : Sl → Bool
  | .own _ => true
  | .obj _ _ _ _ => true
  | _ => false
structure State where
  ρ : List Sl
  pn : Pn
structure Cv where
  G0 : Hp
  H0 : Hp
  pa : Option Addr
  top : Bool
  nb : Str
  nl : Str
  EV : ExD → State → Prop

mutual
inductive Rep (K : PySem.W.Frag) (mg : Str → Option Value) (G : Hp) : V → D → Prop
  | non : Rep K mg G .non .non
  | bl {b} : Rep K mg G (.bl b) (.bl b)
  | int {i} : Rep K mg G (.int i) (.int i)
  | str {x} : Rep K mg G (.str x) (.str x)
  | lst {a vs ds} : G a = some (.lst vs) → Reps K mg G vs ds → ds.length ≤ sizeLine → Rep K mg G (.ref a) (.lst ds)
  | tup {a vs ds} : G a = some (.tup vs) → Reps K mg G vs ds → ds.length ≤ sizeLine → Rep K mg G (.ref a) (.tup ds)
  | ins {a C dx fs c ks ds} : mg c = some (.ref C) → G a = some (.ins C dx fs) → fs.map (·.1) = ks → Reps K mg G (fs.map (·.2)) ds → Rep K mg G (.ref a) (.ins c ks ds)
  | adr {a} : Rep K mg G (.ref a) (.adr a)
  | ty {n} : Rep K mg G (.ty n) (.ty n)
  | cref {x a} : mg x = some (.ref a) → Rep K mg G (.ref a) (.cref x)
  | dct {a kvs ks ds} : G a = some (.dK kvs) → kvs.map (·.1) = ks → Reps K mg G (kvs.map (·.2)) ds → Rep K mg G (.ref a) (.dct ks ds)
  | scr {a vs ds} : SqL K G a vs → Reps K mg G vs ds → Rep K mg G (.ref a) (.scr ds)
  | exn0 {a C c} : mg c = some (.ref C) → G a = some (exo a C none) → Rep K mg G (.ref a) (.exn c [] [])
  | exn {a C dx fs c ks ds} : mg c = some (.ref C) → G a = some (exo a C (some dx)) → G dx = some (exd dx fs) → fs.map (·.1) = ks → Reps K mg G (fs.map (·.2)) ds → Rep K mg G (.ref a) (.exn c ks ds)
  | cau {a d fs c ks ds} : G d = some (.xd fs) → fs.map (·.1) = ks → Reps K mg G (fs.map (·.2)) ds → Rep K mg G (.ref a) (.cau a d c ks ds)
inductive Reps (K : PySem.W.Frag) (mg : Str → Option Value) (G : Hp) : List V → List D → Prop
  | nil : Reps K mg G [] []
  | cons {v d vs ds} : Rep K mg G v d → Reps K mg G vs ds → Reps K mg G (v :: vs) (d :: ds)
end

theorem rd_same {H H' : Hp} {a : Addr} {u : HO} (e : Same H H') (h : Rd H a u) : Rd H' a u := by
  rcases h with h | ⟨o, h⟩
  · exact .inl (e _ _ h)
  · exact .inr ⟨o, e _ _ h⟩
theorem sqT_same {K : PySem.W.Frag} {H H' : Hp} {a : Addr} {xs : List V} (e : Same H H') (h : SqT K H a xs) : SqT K H' a xs := by
  rcases h with (h | ⟨o, h⟩) | h
  · exact .inl (.inl (e _ _ h))
  · exact .inl (.inr ⟨o, e _ _ h⟩)
  · exact .inr h

section
variable {K : PySem.W.Frag} {mg : Str → Option Value} {G G' : Hp}
mutual
theorem Rep.mono (e : Same G G') : ∀ {v d}, Rep K mg G v d → Rep K mg G' v d
  | _, _, .non => .non
  | _, _, .bl => .bl
  | _, _, .int => .int
  | _, _, .str => .str
  | _, _, .lst h r z => .lst (e _ _ h) (Reps.mono e r) z
  | _, _, .tup h r z => .tup (e _ _ h) (Reps.mono e r) z
  | _, _, .ins h1 h2 h3 r => .ins h1 (e _ _ h2) h3 (Reps.mono e r)
  | _, _, .adr => .adr
  | _, _, .ty => .ty
  | _, _, .cref h => .cref h
  | _, _, .dct h1 h2 r => .dct (e _ _ h1) h2 (Reps.mono e r)
  | _, _, .scr h r => .scr (e.seq h) (Reps.mono e r)
  | _, _, .exn0 h1 h2 => .exn0 h1 (e _ _ h2)
  | _, _, .exn h1 h2 h3 h4 r => .exn h1 (e _ _ h2) (e _ _ h3) h4 (Reps.mono e r)
  | _, _, .cau h1 h2 r => .cau (e _ _ h1) h2 (Reps.mono e r)
theorem Reps.mono (e : Same G G') : ∀ {vs ds}, Reps K mg G vs ds → Reps K mg G' vs ds
  | _, _, .nil => .nil
  | _, _, .cons h r => .cons (Rep.mono e h) (Reps.mono e r)
end
theorem Reps.length : ∀ {vs ds}, Reps K mg G vs ds → vs.length = ds.length
  | _, _, .nil => rfl
  | _, _, .cons _ r => by rw [List.length_cons, List.length_cons, Reps.length r]
theorem Reps.append : ∀ {vs ds ws es}, Reps K mg G vs ds → Reps K mg G ws es → Reps K mg G (vs ++ ws) (ds ++ es)
  | _, _, _, _, .nil, s => s
  | _, _, _, _, .cons h r, s => .cons h (Reps.append r s)
theorem Reps.get : ∀ {vs ds} {i : Nat} {d : D}, Reps K mg G vs ds → ds[i]? = some d → ∃ v, vs[i]? = some v ∧ Rep K mg G v d
  | _, _, _, _, .nil, h => by simp at h
  | _, _, 0, d, .cons h r, e => by
    simp only [List.getElem?_cons_zero, Option.some.injEq] at e
    subst e
    exact ⟨_, rfl, h⟩
  | _, _, i + 1, d, .cons h r, e => by
    simp only [List.getElem?_cons_succ] at e
    obtain ⟨v, h1, h2⟩ := Reps.get r e
    exact ⟨v, by simpa using h1, h2⟩
theorem Reps.getV : ∀ {vs ds} {i : Nat} {v : V}, Reps K mg G vs ds → vs[i]? = some v → ∃ d, ds[i]? = some d ∧ Rep K mg G v d
  | _, _, _, _, .nil, h => by simp at h
  | _, _, 0, d, .cons h r, e => by
    simp only [List.getElem?_cons_zero, Option.some.injEq] at e
    subst e
    exact ⟨_, rfl, h⟩
  | _, _, i + 1, d, .cons h r, e => by
    simp only [List.getElem?_cons_succ] at e
    obtain ⟨v, h1, h2⟩ := Reps.getV r e
    exact ⟨v, by simpa using h1, h2⟩
theorem Reps.take : ∀ {vs ds} (n : Nat), Reps K mg G vs ds → Reps K mg G (vs.take n) (ds.take n)
  | _, _, 0, _ => by simpa using .nil
  | _, _, n + 1, .nil => by simpa using .nil
  | _, _, n + 1, .cons h r => by simpa using .cons h (Reps.take n r)
theorem Reps.drop : ∀ {vs ds} (n : Nat), Reps K mg G vs ds → Reps K mg G (vs.drop n) (ds.drop n)
  | _, _, 0, r => by simpa using r
  | _, _, n + 1, .nil => by simpa using .nil
  | _, _, n + 1, .cons h r => by simpa using Reps.drop n r
theorem Reps.set : ∀ {vs ds} (i : Nat) {v d}, Reps K mg G vs ds → Rep K mg G v d → Reps K mg G (vs.set i v) (ds.set i d)
  | _, _, _, _, _, .nil, _ => .nil
  | _, _, 0, _, _, .cons h r, q => .cons q r
  | _, _, i + 1, _, _, .cons h r, q => .cons h (Reps.set i r q)
theorem Reps.ints (ns : List Int) : Reps K mg G (ns.map V.int) (ns.map D.int) := by
  induction ns with
  | nil => exact .nil
  | cons n r ih => exact .cons .int ih
end

/-- the pen: a dict of a list of ints and two ints; r: how many more of its cells may be begun -/
def PenOk (nb nl : Str) (K : PySem.W.Frag) (G H : Hp) (p : Addr) (r : PenS) : Prop :=
  ∃ (c : Addr) (cells : List Int) (b l : Int), H p = some (.dK [(.inr "cells", .ref c), (.inr nb, .int b), (.inr nl, .int l)]) ∧ G p = none ∧ SqL K G c (cells.map V.int) ∧ PenB r cells b l

/-- behind a call, an allocation: all that stood stands (but the pen), the frozen part has grown by new objects alone -/
structure After (nb nl : Str) (K : PySem.W.Frag) (G H : Hp) (pn : Pn) (G' H' : Hp) (pn' : Pn) : Prop where
  sub : Same G' H'
  ext : Same G G'
  new : ∀ a o, G' a = some o → G a = some o ∨ H a = none
  keep : ∀ a o, H a = some o → (∀ r, pn ≠ some (a, r)) → H' a = some o
  pen : ∀ p r, pn' = some (p, r) → PenOk nb nl K G' H' p r
  adr : pn'.map (·.1) = pn.map (·.1)

def SlOk (K : PySem.W.Frag) (mg : Str → Option Value) (G H : Hp) (o : Option V) : Sl → Prop
  | .un => True
  | .val d => ∃ v, o = some v ∧ Rep K mg G v d
  | .own ds => ∃ l vs, o = some (.ref l) ∧ H l = some (.lst vs) ∧ G l = none ∧ Reps K mg G vs ds ∧ ds.length ≤ sizeLine
  | .obj a c ks ds => ∃ C dx fs, o = some (.ref a) ∧ mg c = some (.ref C) ∧ H a = some (.ins C dx fs) ∧ H dx = some (.own a) ∧ G a = none ∧ G dx = none ∧ fs.map (·.1) = ks ∧ Reps K mg G (fs.map (·.2)) ds

def ownAt (ρ : List Sl) (i : Nat) : Prop := ∃ sl, ρ[i]? = some sl ∧ sl.isOwn = true

structure Hd (K : PySem.W.Frag) (mg : Str → Option Value) (c : Cv) (S : State) (σ : L2.St) (G H : Hp) : Prop where
  sub : Same G H
  len : σ.length = S.ρ.length
  slots : ∀ (i : Nat) (sl : Sl), S.ρ[i]? = some sl → ∃ o, σ[i]? = some o ∧ SlOk K mg G H o sl
  dist : ∀ (i j : Nat) (l : Addr), i ≠ j → ownAt S.ρ i → ownAt S.ρ j → σ[i]? = some (some (.ref l)) → σ[j]? ≠ some (some (.ref l))
  pen : ∀ p r, S.pn = some (p, r) → PenOk c.nb c.nl K G H p r ∧ (c.pa = some p ∨ c.H0 p = none)
  padr : ∀ a, c.pa = some a → ∃ r, S.pn = some (a, r)
  ext0 : Same c.G0 G
  new0 : ∀ a o, G a = some o → c.G0 a = some o ∨ c.H0 a = none
  keep0 : ∀ a o, c.H0 a = some o → c.pa ≠ some a → H a = some o
  fresh : c.top = true → ∀ (i : Nat) (l : Addr), ownAt S.ρ i → σ[i]? = some (some (.ref l)) → c.H0 l = none

section
variable {K : PySem.W.Frag} {mg : Str → Option Value} {c : Cv} {S : State} {σ : L2.St} {G H G' H' : Hp} {pn' : Pn}
theorem PenOk.at {nb nl : Str} {p : Addr} {r : PenS} (h : PenOk nb nl K G H p r) : ∃ kvs, H p = some (.dK kvs) := by
  obtain ⟨c, cells, b, l, h, _⟩ := h
  exact ⟨_, h⟩
theorem PenOk.le {nb nl : Str} {p : Addr} {r r' : Nat} (h : PenOk nb nl K G H p (.bud r)) (hr : r' ≤ r) : PenOk nb nl K G H p (.bud r') := by
  obtain ⟨c, cells, b, l, h1, h2, h3, h4, h5, h6, h7, h8⟩ := h
  exact ⟨c, cells, b, l, h1, h2, h3, h4, h5, h6, by omega, h8⟩
theorem Hd.notPen (h : Hd K mg c S σ G H) {a : Addr} {o : HO} (ha : H a = some o) (hk : ∀ kvs, o ≠ .dK kvs) : ∀ r, S.pn ≠ some (a, r) := fun r e => by
  obtain ⟨kvs, q⟩ := (h.pen a r e).1.at
  rw [ha] at q
  exact hk _ (Option.some.inj q)
theorem Hd.after (h : Hd K mg c S σ G H) (A : After c.nb c.nl K G H S.pn G' H' pn') : Hd K mg c { S with pn := pn' } σ G' H' where
  sub := A.sub
  len := h.len
  slots := fun i sl e => by
    obtain ⟨o, h1, h2⟩ := h.slots i sl e
    refine ⟨o, h1, ?_⟩
    have gn : ∀ l u, H l = some u → G l = none → G' l = none := fun l u q n => by
      cases z : G' l with
      | none => rfl
      | some w =>
        rcases A.new l w z with y | y
        · rw [n] at y; cases y
        · rw [q] at y; cases y
    cases sl with
    | un => trivial
    | val d => exact ⟨_, h2.choose_spec.1, h2.choose_spec.2.mono A.ext⟩
    | own ds =>
      obtain ⟨l, vs, e1, e2, e3, e4, e5⟩ := h2
      exact ⟨l, vs, e1, A.keep _ _ e2 (h.notPen e2 fun _ z => by cases z), gn _ _ e2 e3, e4.mono A.ext, e5⟩
    | obj a c ks ds =>
      obtain ⟨C, dx, fs, e1, e2, e3, e4, e5, e6, e7, e8⟩ := h2
      exact ⟨C, dx, fs, e1, e2, A.keep _ _ e3 (h.notPen e3 fun _ z => by cases z), A.keep _ _ e4 (h.notPen e4 fun _ z => by cases z), gn _ _ e3 e5, gn _ _ e4 e6, e7, e8.mono A.ext⟩
  dist := h.dist
  pen := fun p r e => by
    refine ⟨A.pen p r e, ?_⟩
    have q := A.adr
    have e' : pn' = some (p, r) := e
    rw [e'] at q
    cases z : S.pn with
    | none => rw [z] at q; cases q
    | some w =>
      obtain ⟨p2, r2⟩ := w
      rw [z] at q
      have ep : p = p2 := by simpa using q
      subst ep
      exact (h.pen _ _ z).2
  padr := fun a e => by
    obtain ⟨r, q⟩ := h.padr a e
    have z := A.adr
    rw [q] at z
    cases y : pn' with
    | none => rw [y] at z; cases z
    | some w =>
      obtain ⟨p2, r2⟩ := w
      rw [y] at z
      have ep : p2 = a := by simpa using z
      subst ep
      exact ⟨r2, rfl⟩
  ext0 := h.ext0.trans A.ext
  new0 := fun a o e => by
    rcases A.new a o e with q | q
    · exact h.new0 a o q
    · right
      cases z : c.H0 a with
      | none => rfl
      | some w =>
        by_cases hp : c.pa = some a
        · obtain ⟨r, y⟩ := h.padr a hp
          obtain ⟨kvs, x⟩ := (h.pen _ _ y).1.at
          rw [q] at x; cases x
        · rw [h.keep0 a w z hp] at q; cases q
  keep0 := fun a o e hp => by
    refine A.keep a o (h.keep0 a o e hp) fun r y => ?_
    rcases (h.pen _ _ y).2 with x | x
    · exact hp x
    · rw [e] at x; cases x
  fresh := h.fresh
theorem After.refl {nb nl : Str} {pn : Pn} (hs : Same G H) (hp : ∀ p r, pn = some (p, r) → PenOk nb nl K G H p r) : After nb nl K G H pn G H pn :=
  ⟨hs, Same.refl _, fun _ _ h => .inl h, fun _ _ h _ => h, hp, rfl⟩
theorem Hd.afterRefl (h : Hd K mg c S σ G H) : After c.nb c.nl K G H S.pn G H S.pn := After.refl h.sub fun p r e => (h.pen p r e).1
theorem PenOk.new {nb nl : Str} {p a : Addr} {r : PenS} {o : HO} (h : PenOk nb nl K G H p r) (hn : H a = none) (hg : Same G H) : PenOk nb nl K (upd G a o) (upd H a o) p r := by
  obtain ⟨c, cells, b, l, h1, h2, h3, h4⟩ := h
  have hpa : p ≠ a := ne_of_none h1 hn
  have gn : G a = none := hg.free hn
  exact ⟨c, cells, b, l, by rw [upd_ne hpa]; exact h1, by rw [upd_ne hpa]; exact h2, Same.seq (fun x u q => by rw [upd_ne (ne_of_none q gn)]; exact q) h3, h4⟩
theorem PenOk.newH {nb nl : Str} {p a : Addr} {r : PenS} {o : HO} (h : PenOk nb nl K G H p r) (hn : H a = none) : PenOk nb nl K G (upd H a o) p r := by
  obtain ⟨c, cells, b, l, h1, h2, h3, h4⟩ := h
  have hpa : p ≠ a := ne_of_none h1 hn
  exact ⟨c, cells, b, l, by rw [upd_ne hpa]; exact h1, h2, h3, h4⟩
theorem same_upd {H : Hp} {p : Addr} {o : HO} (h : H p = none) : Same H (upd H p o) := fun b x e => by
  rw [upd_ne (ne_of_none e h)]
  exact e
theorem same_upd2 {G H : Hp} {p : Addr} {o : HO} (h : Same G H) : Same (upd G p o) (upd H p o) := fun b x e => by
  by_cases q : b = p
  · subst q
    rw [upd_same] at e ⊢
    exact e
  · rw [upd_ne q] at e ⊢
    exact h _ _ e
/-- a new frozen object -/
theorem Hd.alloc (h : Hd K mg c S σ G H) {a : Addr} {o : HO} (hn : H a = none) : After c.nb c.nl K G H S.pn (upd G a o) (upd H a o) S.pn where
  sub := same_upd2 h.sub
  ext := same_upd (h.sub.free hn)
  new := fun b u e => by
    by_cases q : b = a
    · subst q; exact .inr hn
    · rw [upd_ne q] at e; exact .inl e
  keep := fun b u e _ => by rw [upd_ne (ne_of_none e hn)]; exact e
  pen := fun p r e => (h.pen p r e).1.new hn h.sub
  adr := rfl
/-- a new object that is not frozen -/
theorem Hd.allocH (h : Hd K mg c S σ G H) {a : Addr} {o : HO} (hn : H a = none) : After c.nb c.nl K G H S.pn G (upd H a o) S.pn where
  sub := h.sub.trans (same_upd hn)
  ext := Same.refl _
  new := fun b u e => .inl e
  keep := fun b u e _ => by rw [upd_ne (ne_of_none e hn)]; exact e
  pen := fun p r e => (h.pen p r e).1.newH hn
  adr := rfl
end
end VL
set_option Elab.async false
set_option linter.all false
set_option maxRecDepth 100000
set_option maxHeartbeats 4000000
/-! VL1: the judgements by values (VE, VT, VA, VS, VSs) and their first rules. -/
namespace VL
open PySem PySem.Spec PyProof.Rows L2

/-! ### semantic readings -/
section
variable {X : Cx} {e : Expr} {es : List Expr} {st : Stmt} {sts : List Stmt} {σ : L2.St} {H : Hp}
def tE (X : Cx) (e : Expr) : TE := fun σ H Q => ∀ (pins : List (Addr × Obj)) (s : Shared), Inv X pins σ H s → wpAny (model X.prog X.w) X.A (eval e X.env) (EP X pins σ Q) X.xe s
def tT (X : Cx) (e : Expr) : TT := fun σ H Q => ∀ (pins : List (Addr × Obj)) (s : Shared), Inv X pins σ H s → wpAny (model X.prog X.w) X.A (isTrue e X.env (eval e X.env)) (TP X pins σ Q) X.xe s
def tW (X : Cx) (e : Expr) : TT := fun σ H Q => ∀ (wh : Sem Value) (pins : List (Addr × Obj)) (s : Shared), Inv X pins σ H s → wpAny (model X.prog X.w) X.A (isTrue e X.env wh) (TP X pins σ Q) X.xe s
def tA (X : Cx) (es : List Expr) : TA := fun σ H Q => ∀ (pos : Pos) (pins : List (Addr × Obj)) (s : Shared), Inv X pins σ H s → wpAny (model X.prog X.w) X.A (spliced (backTo pos (starEach es X.env))) (AP X pins σ Q) X.xe s
def tS (X : Cx) (st : Stmt) : TS := fun D σ H => ∀ (pins : List (Addr × Obj)) (s : Shared), Inv X pins σ H s → wpAny (model X.prog X.w) X.A (exec st X.env) (SP X pins D) X.xe s
def tSs (X : Cx) (sts : List Stmt) : TS := fun D σ H => ∀ (pins : List (Addr × Obj)) (s : Shared), Inv X pins σ H s → wpAny (model X.prog X.w) X.A (execs sts X.env) (SP X pins D) X.xe s
theorem pe_sem : PE X e (tE X e) := ⟨fun pins s _ _ _ I h => h pins s I⟩
theorem pt_sem : PT X e (tT X e) := ⟨fun pins s _ _ _ I h => h pins s I⟩
theorem pw_sem : PW X e (tW X e) := ⟨fun wh pins s _ _ _ I h => h wh pins s I⟩
theorem pa_sem : PA X es (tA X es) := ⟨fun pos pins s _ _ _ I h => h pos pins s I⟩
theorem ps_sem : PS X st (tS X st) := ⟨fun pins s _ _ _ I h => h pins s I⟩
theorem pss_sem : PSs X sts (tSs X sts) := ⟨fun pins s _ _ _ I h => h pins s I⟩
theorem tE_of {t : TE} {Q : VK} (h : PE X e t) (q : t σ H Q) : tE X e σ H Q := fun pins s I => h.run pins s σ H Q I q
theorem tT_of {t : TT} {Q : Bool → Hp → Prop} (h : PT X e t) (q : t σ H Q) : tT X e σ H Q := fun pins s I => h.run pins s σ H Q I q
theorem tW_of {t : TT} {Q : Bool → Hp → Prop} (h : PW X e t) (q : t σ H Q) : tW X e σ H Q := fun wh pins s I => h.run wh pins s σ H Q I q
theorem tA_of {t : TA} {Q : List V → Hp → Prop} (h : PA X es t) (q : t σ H Q) : tA X es σ H Q := fun pos pins s I => h.run pos pins s σ H Q I q
theorem tS_of {t : TS} {D : Ends} (h : PS X st t) (q : t D σ H) : tS X st D σ H := fun pins s I => h.run pins s σ H D I q
theorem tSs_of {t : TS} {D : Ends} (h : PSs X sts t) (q : t D σ H) : tSs X sts D σ H := fun pins s I => h.run pins s σ H D I q
theorem tE_mono {Q Q' : VK} (h : tE X e σ H Q) (hq : ∀ v H', Q v H' → Q' v H') : tE X e σ H Q' := fun pins s I => thn (h pins s I) fun _ _ ⟨v, H', I', r, q⟩ => ⟨v, H', I', r, hq v H' q⟩
theorem tT_mono {Q Q' : Bool → Hp → Prop} (h : tT X e σ H Q) (hq : ∀ v H', Q v H' → Q' v H') : tT X e σ H Q' := fun pins s I => thn (h pins s I) fun _ _ ⟨H', I', q⟩ => ⟨H', I', hq _ H' q⟩
theorem tW_mono {Q Q' : Bool → Hp → Prop} (h : tW X e σ H Q) (hq : ∀ v H', Q v H' → Q' v H') : tW X e σ H Q' := fun wh pins s I => thn (h wh pins s I) fun _ _ ⟨H', I', q⟩ => ⟨H', I', hq _ H' q⟩
theorem tA_mono {Q Q' : List V → Hp → Prop} (h : tA X es σ H Q) (hq : ∀ v H', Q v H' → Q' v H') : tA X es σ H Q' := fun pos pins s I => thn (h pos pins s I) fun _ _ ⟨v, H', I', r, q⟩ => ⟨v, H', I', r, hq v H' q⟩
theorem SP_mono {pins : List (Addr × Obj)} {D D' : Ends} (h1 : ∀ σ H, D.nx σ H → D'.nx σ H) (h2 : ∀ v H, D.rt v H → D'.rt v H) (h3 : ∀ σ H, D.bk σ H → D'.bk σ H) (h4 : ∀ σ H, D.ct σ H → D'.ct σ H) {f : Flow} {s' : Shared} (h : SP X pins D f s') : SP X pins D' f s' := by
  cases f with
  | next => obtain ⟨σ', H', I, q⟩ := h; exact ⟨σ', H', I, h1 _ _ q⟩
  | brk => obtain ⟨σ', H', I, q⟩ := h; exact ⟨σ', H', I, h3 _ _ q⟩
  | cont => obtain ⟨σ', H', I, q⟩ := h; exact ⟨σ', H', I, h4 _ _ q⟩
  | ret u => obtain ⟨v, σ', H', I, r, q⟩ := h; exact ⟨v, σ', H', I, r, h2 _ _ q⟩
theorem tS_mono {D D' : Ends} (h : tS X st D σ H) (h1 : ∀ σ H, D.nx σ H → D'.nx σ H) (h2 : ∀ v H, D.rt v H → D'.rt v H) (h3 : ∀ σ H, D.bk σ H → D'.bk σ H) (h4 : ∀ σ H, D.ct σ H → D'.ct σ H) : tS X st D' σ H := fun pins s I =>
  thn (h pins s I) fun _ _ q => SP_mono h1 h2 h3 h4 q
theorem tSs_mono {D D' : Ends} (h : tSs X sts D σ H) (h1 : ∀ σ H, D.nx σ H → D'.nx σ H) (h2 : ∀ v H, D.rt v H → D'.rt v H) (h3 : ∀ σ H, D.bk σ H → D'.bk σ H) (h4 : ∀ σ H, D.ct σ H → D'.ct σ H) : tSs X sts D' σ H := fun pins s I =>
  thn (h pins s I) fun _ _ q => SP_mono h1 h2 h3 h4 q
end

/-! ### the judgements -/
abbrev HdX (X : Cx) (c : Cv) (S : State) (σ : L2.St) (G H : Hp) : Prop := Hd X.K X.mg c S σ G H
abbrev RepX (X : Cx) (G : Hp) (v : V) (d : D) : Prop := Rep X.K X.mg G v d
def pE (X : Cx) (c : Cv) (σ : L2.St) (G : Hp) (Q : D → State → Prop) : VK := fun v H' => ∃ d S' G', HdX X c S' σ G' H' ∧ Same G G' ∧ RepX X G' v d ∧ Q d S'
def pT (X : Cx) (c : Cv) (σ : L2.St) (G : Hp) (Q : Bool → State → Prop) : Bool → Hp → Prop := fun b H' => ∃ S' G', HdX X c S' σ G' H' ∧ Same G G' ∧ Q b S'
def pA (X : Cx) (c : Cv) (σ : L2.St) (G : Hp) (Q : List D → State → Prop) : List V → Hp → Prop := fun vs H' => ∃ ds S' G', HdX X c S' σ G' H' ∧ Same G G' ∧ Reps X.K X.mg G' vs ds ∧ Q ds S'
def VE (X : Cx) (c : Cv) (S : State) (e : Expr) (Q : D → State → Prop) : Prop := ∀ σ G H, HdX X c S σ G H → tE X e σ H (pE X c σ G Q)
def VT (X : Cx) (c : Cv) (S : State) (e : Expr) (Q : Bool → State → Prop) : Prop := ∀ σ G H, HdX X c S σ G H → tT X e σ H (pT X c σ G Q)
def VW (X : Cx) (c : Cv) (S : State) (e : Expr) (Q : Bool → State → Prop) : Prop := ∀ σ G H, HdX X c S σ G H → tW X e σ H (pT X c σ G Q)
def VA (X : Cx) (c : Cv) (S : State) (es : List Expr) (Q : List D → State → Prop) : Prop := ∀ σ G H, HdX X c S σ G H → tA X es σ H (pA X c σ G Q)
structure VD where
  nx : State → Prop
  rt : D → State → Prop
  bk : State → Prop := fun _ => False
  ct : State → Prop := fun _ => False
def ends (X : Cx) (c : Cv) (G : Hp) (E : VD) : Ends where
  nx := fun σ' H' => ∃ S' G', HdX X c S' σ' G' H' ∧ Same G G' ∧ E.nx S'
  rt := fun v H' => ∃ d S' σ' G', HdX X c S' σ' G' H' ∧ Same G G' ∧ RepX X G' v d ∧ E.rt d S'
  bk := fun σ' H' => ∃ S' G', HdX X c S' σ' G' H' ∧ Same G G' ∧ E.bk S'
  ct := fun σ' H' => ∃ S' G', HdX X c S' σ' G' H' ∧ Same G G' ∧ E.ct S'
def VS (X : Cx) (c : Cv) (S : State) (st : Stmt) (E : VD) : Prop := ∀ σ G H, HdX X c S σ G H → tS X st (ends X c G E) σ H
def VSs (X : Cx) (c : Cv) (S : State) (sts : List Stmt) (E : VD) : Prop := ∀ σ G H, HdX X c S σ G H → tSs X sts (ends X c G E) σ H

section
variable {X : Cx} {c : Cv} {S : State} {e a b : Expr} {es : List Expr} {st : Stmt} {sts : List Stmt} {σ : L2.St} {G G' H : Hp} {pos : Pos} {Q : D → State → Prop} {E : VD}
theorem pE_back (s : Same G G') {v : V} {H' : Hp} (h : pE X c σ G' Q v H') : pE X c σ G Q v H' := by
  obtain ⟨d, S', G'', h1, h2, h3, h4⟩ := h
  exact ⟨d, S', G'', h1, s.trans h2, h3, h4⟩
theorem pT_back {Q : Bool → State → Prop} (s : Same G G') {v : Bool} {H' : Hp} (h : pT X c σ G' Q v H') : pT X c σ G Q v H' := by
  obtain ⟨S', G'', h1, h2, h4⟩ := h
  exact ⟨S', G'', h1, s.trans h2, h4⟩
theorem pE_imp {Q' : D → State → Prop} {v : V} {H' : Hp} (h : pE X c σ G Q v H') (q : ∀ d S', Q d S' → Q' d S') : pE X c σ G Q' v H' := by
  obtain ⟨d, S', G'', h1, h2, h3, h4⟩ := h
  exact ⟨d, S', G'', h1, h2, h3, q _ _ h4⟩
theorem VE.imp {Q' : D → State → Prop} (h : VE X c S e Q) (q : ∀ d S', Q d S' → Q' d S') : VE X c S e Q' := fun σ G H hd => tE_mono (h σ G H hd) fun v H' p => pE_imp p q
theorem pE_ret {v : V} {d : D} (h : HdX X c S σ G H) (r : RepX X G v d) (q : Q d S) : pE X c σ G Q v H := ⟨d, S, G, h, Same.refl _, r, q⟩
/-- a new frozen object -/
theorem pE_new {p : Addr} {o : HO} {d : D} (h : HdX X c S σ G H) (hn : H p = none) (r : RepX X (upd G p o) (.ref p) d) (q : Q d S) : pE X c σ G Q (.ref p) (upd H p o) :=
  ⟨d, _, _, h.after (h.alloc hn), same_upd (h.sub.free hn), r, q⟩
theorem upd_frz {G : Hp} {p : Addr} {o : HO} : upd G p o p = some o := upd_same

/-! ### names, constants -/
theorem ve_val (i : Nat) {x : Str} {d : D} (hρ : S.ρ[i]? = some (.val d)) (q : Q d S) (hN : X.N[i]? = some x := by rfl) (hv : Vis X.env.scope x := by first | exact Or.inl rfl | exact Or.inr (Or.inl rfl) | exact Or.inr (Or.inr rfl))
    (hd : (x == ("__debug__" : Str)) = false := by decide) (hcd : (x == ("__classdict__" : Str)) = false := by decide) : VE X c S (.Name x pos) Q := fun σ G H h => by
  obtain ⟨o, e1, v, e2, r⟩ := h.slots i _ hρ
  subst e2
  exact tE_of (pv i hN hv hd hcd) ⟨v, e1, pE_ret h r q⟩
theorem ve_int {i j} (q : Q (.int i) S) : VE X c S (.Constant (.int i) j pos) Q := fun σ G H h => tE_of pe_int (pE_ret h .int q)
theorem ve_bl {i j} (q : Q (.bl i) S) : VE X c S (.Constant (.bool i) j pos) Q := fun σ G H h => tE_of pe_bl (pE_ret h .bl q)
theorem ve_non {j} (q : Q .non S) : VE X c S (.Constant .none j pos) Q := fun σ G H h => tE_of pe_non (pE_ret h .non q)
theorem ve_str {i j} (q : Q (.str i) S) : VE X c S (.Constant (.str i) j pos) Q := fun σ G H h => tE_of pe_str (pE_ret h .str q)

/-! ### two-place operators -/
/-- what an operator's rule asks, by values -/
def RB (X : Cx) (c : Cv) (S : State) (r : R2) (x y : D) (Q : D → State → Prop) : Prop :=
  ∀ σ G H u v, HdX X c S σ G H → RepX X G u x → RepX X G v y → ∀ R : VK, (∀ z H', pE X c σ G Q z H' → R z H') → r u v H R
theorem ve_bin {op : Operator} {r : R2} (ho : OpR X (binaryOp op) r) (h : VE X c S a fun x S1 => VE X c S1 b fun y S2 => RB X c S2 r x y Q) : VE X c S (.BinOp a op b pos) Q := fun σ G H hd => by
  refine tE_of (pe_op ho pe_sem pe_sem) ?_
  refine tE_mono (h σ G H hd) fun u H1 ⟨x, S1, G1, h1, s1, r1, q1⟩ => tE_mono (q1 σ G1 H1 h1) fun v H2 ⟨y, S2, G2, h2, s2, r2, q2⟩ => ?_
  exact q2 σ G2 H2 u v h2 (r1.mono s2) r2 _ fun z H' p => pE_back (s1.trans s2) p
theorem ve_cmp {op : CmpOp} {r : R2} (ho : OpR X (compareOp op) r) (h : VE X c S a fun x S1 => VE X c S1 b fun y S2 => RB X c S2 r x y Q) (hm : behindInMarks op b = false) : VE X c S (.Compare a [op] [b] pos) Q := fun σ G H hd => by
  refine tE_of (pe_cmpR ho pe_sem pe_sem hm) ?_
  refine tE_mono (h σ G H hd) fun u H1 ⟨x, S1, G1, h1, s1, r1, q1⟩ => tE_mono (q1 σ G1 H1 h1) fun v H2 ⟨y, S2, G2, h2, s2, r2, q2⟩ => ?_
  exact q2 σ G2 H2 u v h2 (r1.mono s2) r2 _ fun z H' p => pE_back (s1.trans s2) p
/-- a value that is a bool -/
def blP (Q : Bool → State → Prop) : D → State → Prop := fun d S => ∃ k, d = .bl k ∧ Q k S
theorem rep_bl {v : V} {k : Bool} (h : RepX X G v (.bl k)) : v = .bl k := by cases h; rfl
theorem rep_int {v : V} {k : Int} (h : RepX X G v (.int k)) : v = .int k := by cases h; rfl
theorem rep_str {v : V} {k : Str} (h : RepX X G v (.str k)) : v = .str k := by cases h; rfl
theorem rep_non {v : V} (h : RepX X G v .non) : v = .non := by cases h; rfl
theorem rep_lst {v : V} {ds : List D} (h : RepX X G v (.lst ds)) : ∃ a vs, v = .ref a ∧ G a = some (.lst vs) ∧ Reps X.K X.mg G vs ds := by
  cases h with
  | lst h r _ => exact ⟨_, _, rfl, h, r⟩
theorem rep_tup {v : V} {ds : List D} (h : RepX X G v (.tup ds)) : ∃ a vs, v = .ref a ∧ G a = some (.tup vs) ∧ Reps X.K X.mg G vs ds := by
  cases h with
  | tup h r _ => exact ⟨_, _, rfl, h, r⟩
theorem lst_len {v : V} {ds : List D} (h : RepX X G v (.lst ds)) : ds.length ≤ sizeLine := by
  cases h with
  | lst _ _ z => exact z
theorem tup_len {v : V} {ds : List D} (h : RepX X G v (.tup ds)) : ds.length ≤ sizeLine := by
  cases h with
  | tup _ _ z => exact z
theorem vt_cmp {op : CmpOp} {r : R2} {Q : Bool → State → Prop} (ho : OpR X (compareOp op) r) (h : VE X c S a fun x S1 => VE X c S1 b fun y S2 => RB X c S2 r x y (blP Q)) (hm : behindInMarks op b = false) : VT X c S (.Compare a [op] [b] pos) Q := fun σ G H hd => by
  refine tT_of (pt_cmpR ho pe_sem pe_sem hm) ?_
  refine tE_mono (h σ G H hd) fun u H1 ⟨x, S1, G1, h1, s1, r1, q1⟩ => tE_mono (q1 σ G1 H1 h1) fun v H2 ⟨y, S2, G2, h2, s2, r2, q2⟩ => ?_
  refine q2 σ G2 H2 u v h2 (r1.mono s2) r2 _ fun z H' ⟨d, S', G', h3, s3, r3, k, e, q3⟩ => ?_
  subst e
  exact ⟨k, rep_bl r3, S', G', h3, s1.trans (s2.trans s3), q3⟩
/-! ### ints -/
section
variable {g : Int → Int → V} {gd : Int → Int → D} {C : Int → Int → Prop} {i j : Int}
theorem rb_I0 (hg : ∀ i j, RepX X G (g i j) (gd i j)) : True := trivial
theorem rb_int {f : Int → Int → Int} (q : Q (.int (f i j)) S) : RB X c S (rI0 fun i j => .int (f i j)) (.int i) (.int j) Q := fun σ G H u v hd ru rv R hR =>
  ⟨i, j, rep_int ru, rep_int rv, hR _ _ (pE_ret hd .int q)⟩
theorem rb_intC {f : Int → Int → Int} (hC : C i j) (q : Q (.int (f i j)) S) : RB X c S (rI C fun i j => .int (f i j)) (.int i) (.int j) Q := fun σ G H u v hd ru rv R hR =>
  ⟨i, j, rep_int ru, rep_int rv, hC, hR _ _ (pE_ret hd .int q)⟩
theorem rb_bl {f : Int → Int → Bool} (q : Q (.bl (f i j)) S) : RB X c S (rI0 fun i j => .bl (f i j)) (.int i) (.int j) Q := fun σ G H u v hd ru rv R hR =>
  ⟨i, j, rep_int ru, rep_int rv, hR _ _ (pE_ret hd .bl q)⟩
end
theorem RB.or1 {r r' : R2} {x y : D} (h : RB X c S r x y Q) : RB X c S (fun x y H Q => r x y H Q ∨ r' x y H Q) x y Q := fun σ G H u v hd ru rv R hR => .inl (h σ G H u v hd ru rv R hR)
theorem RB.or2 {r r' : R2} {x y : D} (h : RB X c S r' x y Q) : RB X c S (fun x y H Q => r x y H Q ∨ r' x y H Q) x y Q := fun σ G H u v hd ru rv R hR => .inr (h σ G H u v hd ru rv R hR)
end
end VL
set_option Elab.async false
set_option linter.all false
set_option maxRecDepth 100000
set_option maxHeartbeats 4000000
/-! VL2: statements, arguments, calls, bodies. -/
namespace VL
open PySem PySem.Spec PyProof.Rows L2

section
variable {X : Cx} {c : Cv} {S : State} {e a b : Expr} {es : List Expr} {st : Stmt} {sts : List Stmt} {σ : L2.St} {G G' H : Hp} {pos : Pos} {Q : D → State → Prop} {E : VD}

/-! ### states -/
def State.put (S : State) (i : Nat) (sl : Sl) : State := ⟨S.ρ.set i sl, S.pn⟩
theorem ownAt_set {ρ : List Sl} {i j : Nat} {sl : Sl} (h : ownAt (ρ.set i sl) j) : (j ≠ i ∧ ownAt ρ j) ∨ (j = i ∧ sl.isOwn = true) := by
  obtain ⟨s2, h1, h2⟩ := h
  by_cases q : i = j
  · subst q
    by_cases hl : i < ρ.length
    · rw [List.getElem?_set_self hl] at h1
      cases h1
      exact .inr ⟨rfl, h2⟩
    · rw [List.getElem?_eq_none (by simpa using hl)] at h1
      cases h1
  · rw [List.getElem?_set_ne q] at h1
    exact .inl ⟨fun z => q z.symm, s2, h1, h2⟩
/-- a slot is stored with a frozen value (or forgotten) -/
theorem Hd.set {K : PySem.W.Frag} {mg : Str → Option Value} {i : Nat} {o : Option V} {sl : Sl} (h : Hd K mg c S σ G H) (hs : SlOk K mg G H o sl) (hn : sl.isOwn = false) : Hd K mg c (S.put i sl) (σ.set i o) G H where
  sub := h.sub
  len := by
    show (σ.set i o).length = (S.ρ.set i sl).length
    rw [List.length_set, List.length_set, h.len]
  slots := fun j s2 e => by
    have e' : (S.ρ.set i sl)[j]? = some s2 := e
    by_cases q : i = j
    · subst q
      by_cases hl : i < S.ρ.length
      · rw [List.getElem?_set_self hl] at e'
        cases e'
        exact ⟨o, List.getElem?_set_self (by rw [h.len]; exact hl), hs⟩
      · rw [List.getElem?_eq_none (by simpa using hl)] at e'
        cases e'
    · rw [List.getElem?_set_ne q] at e'
      rw [List.getElem?_set_ne q]
      exact h.slots j s2 e'
  dist := fun j k l hjk oj ok => by
    rcases ownAt_set oj with ⟨n1, o1⟩ | ⟨_, z⟩
    · rcases ownAt_set ok with ⟨n2, o2⟩ | ⟨_, z⟩
      · rw [List.getElem?_set_ne (Ne.symm n1), List.getElem?_set_ne (Ne.symm n2)]
        exact h.dist j k l hjk o1 o2
      · rw [hn] at z; cases z
    · rw [hn] at z; cases z
  pen := h.pen
  padr := h.padr
  ext0 := h.ext0
  new0 := h.new0
  keep0 := h.keep0
  fresh := fun ht j l oj => by
    rcases ownAt_set oj with ⟨n1, o1⟩ | ⟨_, z⟩
    · rw [List.getElem?_set_ne (Ne.symm n1)]
      exact h.fresh ht j l o1
    · rw [hn] at z; cases z
theorem Hd.setVal {K : PySem.W.Frag} {mg : Str → Option Value} {i : Nat} {v : V} {d : D} (h : Hd K mg c S σ G H) (r : Rep K mg G v d) : Hd K mg c (S.put i (.val d)) (σ.set i (some v)) G H := h.set (sl := .val d) ⟨v, rfl, r⟩ rfl
/-- a slot is stored with a new list of one's own -/
theorem Hd.setOwn {K : PySem.W.Frag} {mg : Str → Option Value} {i : Nat} {l : Addr} {vs : List V} {ds : List D} (h : Hd K mg c S σ G H) (hl : H l = none) (r : Reps K mg G vs ds) (hz : ds.length ≤ sizeLine) : Hd K mg c (S.put i (.own ds)) (σ.set i (some (.ref l))) G (upd H l (.lst vs)) := by
  have h1 := h.after (h.allocH (o := .lst vs) hl)
  have e0 : ({ S with pn := S.pn } : State) = S := rfl
  rw [e0] at h1
  have hGl : G l = none := h.sub.free hl
  have other : ∀ (j : Nat) (l' : Addr), ownAt S.ρ j → σ[j]? = some (some (.ref l')) → l' ≠ l := fun j l' oj e z => by
    obtain ⟨sl, q1, q2⟩ := oj
    obtain ⟨o, q3, q4⟩ := h.slots j sl q1
    rw [q3] at e
    cases e
    cases sl with
    | un => cases q2
    | val d => cases q2
    | own ds =>
      obtain ⟨l2, vs2, e1, e2, _⟩ := q4
      cases e1
      rw [z, hl] at e2; cases e2
    | obj a c ks ds =>
      obtain ⟨C, dx, fs, e1, e2, e3, _⟩ := q4
      cases e1
      rw [z, hl] at e3; cases e3
  refine ⟨h1.sub, ?_, fun j s2 e => ?_, fun j k l' hjk oj ok => ?_, h1.pen, h1.padr, h1.ext0, h1.new0, h1.keep0, fun ht j l' oj => ?_⟩
  · show (σ.set i _).length = (S.ρ.set i _).length
    rw [List.length_set, List.length_set, h.len]
  · have e' : (S.ρ.set i (.own ds))[j]? = some s2 := e
    by_cases q : i = j
    · subst q
      by_cases hb : i < S.ρ.length
      · rw [List.getElem?_set_self hb] at e'
        cases e'
        exact ⟨_, List.getElem?_set_self (by rw [h.len]; exact hb), l, vs, rfl, upd_same, hGl, r, hz⟩
      · rw [List.getElem?_eq_none (by simpa using hb)] at e'
        cases e'
    · rw [List.getElem?_set_ne q] at e'
      rw [List.getElem?_set_ne q]
      exact h1.slots j s2 e'
  · intro e1 e2
    rcases ownAt_set oj with ⟨n1, o1⟩ | ⟨n1, _⟩
    · rw [List.getElem?_set_ne (Ne.symm n1)] at e1
      rcases ownAt_set ok with ⟨n2, o2⟩ | ⟨n2, _⟩
      · rw [List.getElem?_set_ne (Ne.symm n2)] at e2
        exact h.dist j k l' hjk o1 o2 e1 e2
      · subst n2
        have q := other j l' o1 e1
        by_cases hb : k < σ.length
        · rw [List.getElem?_set_self hb] at e2
          cases e2
          exact q rfl
        · rw [List.getElem?_eq_none (by simpa using hb)] at e2
          cases e2
    · subst n1
      have hjl : l' = l := by
        by_cases hb : j < σ.length
        · rw [List.getElem?_set_self hb] at e1
          cases e1
          rfl
        · rw [List.getElem?_eq_none (by simpa using hb)] at e1
          cases e1
      rcases ownAt_set ok with ⟨n2, o2⟩ | ⟨n2, _⟩
      · rw [List.getElem?_set_ne (Ne.symm n2)] at e2
        exact other k l' o2 e2 hjl
      · exact hjk n2.symm
  · intro e1
    rcases ownAt_set oj with ⟨n1, o1⟩ | ⟨n1, _⟩
    · rw [List.getElem?_set_ne (Ne.symm n1)] at e1
      exact h.fresh ht j l' o1 e1
    · subst n1
      by_cases hb : j < σ.length
      · rw [List.getElem?_set_self hb] at e1
        cases e1
        cases z : c.H0 l with
        | none => rfl
        | some u =>
          by_cases hp : c.pa = some l
          · obtain ⟨r, y⟩ := h.padr l hp
            obtain ⟨kvs, x⟩ := (h.pen _ _ y).1.at
            rw [hl] at x; cases x
          · rw [h.keep0 l u z hp] at hl; cases hl
      · rw [List.getElem?_eq_none (by simpa using hb)] at e1
        cases e1
/-- one's own list becomes a value -/
theorem Hd.freeze {K : PySem.W.Frag} {mg : Str → Option Value} {i : Nat} {ds : List D} (h : Hd K mg c S σ G H) (hρ : S.ρ[i]? = some (.own ds)) (ht : c.top = true) :
    ∃ l vs, σ[i]? = some (some (.ref l)) ∧ Hd K mg c (S.put i (.val (.lst ds))) σ (upd G l (.lst vs)) H ∧ Same G (upd G l (.lst vs)) ∧ Rep K mg (upd G l (.lst vs)) (.ref l) (.lst ds) := by
  obtain ⟨o, e1, l, vs, e2, hl, gl, r, hz⟩ := h.slots i _ hρ
  subst e2
  have sm : Same G (upd G l (.lst vs)) := same_upd gl
  have rep : Rep K mg (upd G l (.lst vs)) (.ref l) (.lst ds) := .lst upd_same (r.mono sm) hz
  refine ⟨l, vs, e1, ⟨fun b u q => ?_, ?_, fun j s2 e => ?_, fun j k l' hjk oj ok => ?_, fun p r q => ?_, h.padr, h.ext0.trans sm, fun b u q => ?_, h.keep0, fun ht j l' oj => ?_⟩, sm, rep⟩
  · by_cases z : b = l
    · subst z; rw [upd_same] at q; cases q; exact hl
    · rw [upd_ne z] at q; exact h.sub _ _ q
  · show σ.length = (S.ρ.set i _).length
    rw [List.length_set, h.len]
  · have e' : (S.ρ.set i (.val (.lst ds)))[j]? = some s2 := e
    by_cases q : i = j
    · subst q
      have hb : i < S.ρ.length := (List.getElem?_eq_some_iff.mp hρ).1
      rw [List.getElem?_set_self hb] at e'
      cases e'
      exact ⟨_, e1, _, rfl, rep⟩
    · rw [List.getElem?_set_ne q] at e'
      obtain ⟨o2, q1, q2⟩ := h.slots j s2 e'
      refine ⟨o2, q1, ?_⟩
      cases s2 with
      | un => trivial
      | val d => exact ⟨_, q2.choose_spec.1, q2.choose_spec.2.mono sm⟩
      | own ds2 =>
        obtain ⟨l2, vs2, z1, z2, z3, z4, z5⟩ := q2
        have hne : l2 ≠ l := fun y => by
          subst z1; subst y
          exact h.dist i j l2 q ⟨_, hρ, rfl⟩ ⟨_, e', rfl⟩ e1 q1
        exact ⟨l2, vs2, z1, z2, by rw [upd_ne hne]; exact z3, z4.mono sm, z5⟩
      | obj a cc ks ds2 =>
        obtain ⟨C, dx, fs, z1, z2, z3, z4, z5, z6, z7, z8⟩ := q2
        have ha : a ≠ l := ne_of z3 hl (fun y => nomatch y)
        have hd : dx ≠ l := ne_of z4 hl (fun y => nomatch y)
        exact ⟨C, dx, fs, z1, z2, z3, z4, by rw [upd_ne ha]; exact z5, by rw [upd_ne hd]; exact z6, z7, z8.mono sm⟩
  · rcases ownAt_set oj with ⟨_, o1⟩ | ⟨_, z⟩
    · rcases ownAt_set ok with ⟨_, o2⟩ | ⟨_, z⟩
      · exact h.dist j k l' hjk o1 o2
      · cases z
    · cases z
  · obtain ⟨⟨cc, cells, bb, ll, p1, p2, p3, p4⟩, pa⟩ := h.pen p r q
    have hne : p ≠ l := ne_of p1 hl (fun y => nomatch y)
    exact ⟨⟨cc, cells, bb, ll, p1, by rw [upd_ne hne]; exact p2, Same.seq sm p3, p4⟩, pa⟩
  · by_cases z : b = l
    · subst z
      exact .inr (h.fresh ht i b ⟨_, hρ, rfl⟩ e1)
    · rw [upd_ne z] at q; exact h.new0 _ _ q
  · rcases ownAt_set oj with ⟨_, o1⟩ | ⟨_, z⟩
    · exact h.fresh ht j l' o1
    · cases z
/-- one's own list is changed -/
theorem Hd.mut {K : PySem.W.Frag} {mg : Str → Option Value} {i : Nat} {ds ds' : List D} {vs' : List V} {l : Addr} (h : Hd K mg c S σ G H) (hρ : S.ρ[i]? = some (.own ds)) (ht : c.top = true) (e1 : σ[i]? = some (some (.ref l)))
    (r : Reps K mg G vs' ds') (hz : ds'.length ≤ sizeLine) : Hd K mg c (S.put i (.own ds')) σ G (upd H l (.lst vs')) := by
  obtain ⟨o, e1', l', vs, e2, hl, gl, _, _⟩ := h.slots i _ hρ
  rw [e1] at e1'
  cases e1'
  cases e2
  have hb : i < S.ρ.length := (List.getElem?_eq_some_iff.mp hρ).1
  have own' : ∀ {j : Nat}, ownAt (S.ρ.set i (.own ds')) j → ownAt S.ρ j := fun {j} oj => by
    rcases ownAt_set oj with ⟨_, o1⟩ | ⟨z, _⟩
    · exact o1
    · subst z; exact ⟨_, hρ, rfl⟩
  refine ⟨fun b u q => ?_, ?_, fun j s2 e => ?_, fun j k l' hjk oj ok => h.dist j k l' hjk (own' oj) (own' ok), fun p r q => ?_, h.padr, h.ext0, h.new0, fun b u q hp => ?_, fun ht j l' oj => h.fresh ht j l' (own' oj)⟩
  · rw [upd_ne (ne_of_none q gl)]; exact h.sub _ _ q
  · show σ.length = (S.ρ.set i _).length
    rw [List.length_set, h.len]
  · have e' : (S.ρ.set i (.own ds'))[j]? = some s2 := e
    by_cases q : i = j
    · subst q
      rw [List.getElem?_set_self hb] at e'
      cases e'
      exact ⟨_, e1, l, vs', rfl, upd_same, gl, r, hz⟩
    · rw [List.getElem?_set_ne q] at e'
      obtain ⟨o2, q1, q2⟩ := h.slots j s2 e'
      refine ⟨o2, q1, ?_⟩
      cases s2 with
      | un => trivial
      | val d => exact q2
      | own ds2 =>
        obtain ⟨l2, vs2, z1, z2, z3, z4⟩ := q2
        have hne : l2 ≠ l := fun y => by
          subst z1; subst y
          exact h.dist i j l2 q ⟨_, hρ, rfl⟩ ⟨_, e', rfl⟩ e1 q1
        exact ⟨l2, vs2, z1, by rw [upd_ne hne]; exact z2, z3, z4⟩
      | obj a cc ks ds2 =>
        obtain ⟨C, dx, fs, z1, z2, z3, z4, z5, z6, z7, z8⟩ := q2
        have ha : a ≠ l := ne_of z3 hl (fun y => nomatch y)
        have hd : dx ≠ l := ne_of z4 hl (fun y => nomatch y)
        exact ⟨C, dx, fs, z1, z2, by rw [upd_ne ha]; exact z3, by rw [upd_ne hd]; exact z4, z5, z6, z7, z8⟩
  · obtain ⟨⟨cc, cells, bb, ll, p1, p4⟩, pa⟩ := h.pen p r q
    have hne : p ≠ l := ne_of p1 hl (fun y => nomatch y)
    exact ⟨⟨cc, cells, bb, ll, by rw [upd_ne hne]; exact p1, p4⟩, pa⟩
  · have hne : b ≠ l := fun y => by
      subst y
      rw [h.fresh ht i b ⟨_, hρ, rfl⟩ e1] at q
      cases q
    rw [upd_ne hne]; exact h.keep0 _ _ q hp

/-! ### reading one's own list as a value -/
theorem ve_freeze (i : Nat) {x : Str} {ds : List D} (hρ : S.ρ[i]? = some (.own ds)) (ht : c.top = true) (q : Q (.lst ds) (S.put i (.val (.lst ds)))) (hN : X.N[i]? = some x := by rfl) (hv : Vis X.env.scope x := by first | exact Or.inl rfl | exact Or.inr (Or.inl rfl) | exact Or.inr (Or.inr rfl))
    (hd : (x == ("__debug__" : Str)) = false := by decide) (hcd : (x == ("__classdict__" : Str)) = false := by decide) : VE X c S (.Name x pos) Q := fun σ G H h => by
  obtain ⟨l, vs, e1, h1, s1, r1⟩ := h.freeze hρ ht
  exact tE_of (pv i hN hv hd hcd) ⟨.ref l, e1, _, _, _, h1, s1, r1, q⟩

/-! ### blocks -/
theorem ends_back {E : VD} (s : Same G G') (E' : VD := E) : True := trivial
theorem tSs_back (s : Same G G') (h : tSs X sts (ends X c G' E) σ H) : tSs X sts (ends X c G E) σ H :=
  tSs_mono h (fun _ _ ⟨S', G'', h1, h2, h3⟩ => ⟨S', G'', h1, s.trans h2, h3⟩) (fun _ _ ⟨d, S', σ', G'', h1, h2, h3, h4⟩ => ⟨d, S', σ', G'', h1, s.trans h2, h3, h4⟩)
    (fun _ _ ⟨S', G'', h1, h2, h3⟩ => ⟨S', G'', h1, s.trans h2, h3⟩) (fun _ _ ⟨S', G'', h1, h2, h3⟩ => ⟨S', G'', h1, s.trans h2, h3⟩)
theorem vss_nil (q : E.nx S) : VSs X c S [] E := fun σ G H h => tSs_of pss_nil ⟨S, G, h, Same.refl _, q⟩
theorem vss_cons (h : VS X c S st { E with nx := fun S1 => VSs X c S1 sts E }) : VSs X c S (st :: sts) E := fun σ G H hd => by
  refine tSs_of (pss_cons ps_sem pss_sem) ?_
  refine tS_mono (h σ G H hd) (fun σ' H' ⟨S', G', h1, s1, q⟩ => tSs_back s1 (q σ' G' H' h1)) (fun _ _ q => q) (fun _ _ q => q) (fun _ _ q => q)
theorem vss_one (h : VS X c S st E) : VSs X c S [st] E := fun σ G H hd => tSs_of (pss_one ps_sem) (h σ G H hd)
theorem vs_pass (q : E.nx S) : VS X c S (.Pass pos) E := fun σ G H h => tS_of ps_pass ⟨S, G, h, Same.refl _, q⟩
theorem vs_break (q : E.bk S) : VS X c S (.Break pos) E := fun σ G H h => tS_of ps_break ⟨S, G, h, Same.refl _, q⟩
theorem vs_continue (q : E.ct S) : VS X c S (.Continue pos) E := fun σ G H h => tS_of ps_continue ⟨S, G, h, Same.refl _, q⟩
theorem vs_ret (h : VE X c S e E.rt) : VS X c S (.Return (some e) pos) E := fun σ G H hd => by
  refine tS_of (ps_ret pe_sem) (tE_mono (h σ G H hd) fun v H' ⟨d, S', G', h1, s1, r, q⟩ => ⟨d, S', σ, G', h1, s1, r, q⟩)
theorem vs_retN (q : E.rt .non S) : VS X c S (.Return none pos) E := fun σ G H h => tS_of ps_retN ⟨.non, S, σ, G, h, Same.refl _, .non, q⟩
theorem vs_expr (h : VE X c S e fun _ S' => E.nx S') (hs : swapsWith e none pos.line X.env = pure false := by rfl) : VS X c S (.Expr e pos) E := fun σ G H hd => by
  exact tS_of (ps_expr pe_sem hs) (tE_mono (h σ G H hd) fun v H' ⟨d, S', G', h1, s1, r, q⟩ => ⟨S', G', h1, s1, q⟩)
theorem vs_if {t u : List Stmt} (h : VT X c S e fun k S' => (k = true → VSs X c S' t E) ∧ (k = false → VSs X c S' u E)) : VS X c S (.If e t u pos) E := fun σ G H hd => by
  refine tS_of (ps_if pt_sem pss_sem pss_sem) (tT_mono (h σ G H hd) fun k H' ⟨S', G', h1, s1, q⟩ => ?_)
  cases k with
  | true => exact tSs_back s1 (q.1 rfl σ G' H' h1)
  | false => exact tSs_back s1 (q.2 rfl σ G' H' h1)
/-- name = value -/
theorem vs_set (i : Nat) {x : Str} {pos' : Pos} (h : VE X c S e fun d S' => E.nx (S'.put i (.val d))) (hN : X.N.Nodup) (hi : X.N[i]? = some x := by rfl) (hx : Loc X.env.scope x := by first | exact Or.inl rfl | exact Or.inr rfl)
    (hs : swapsWith e (some (.Name x pos')) pos.line X.env = pure false := by rfl) (hf : X.fn x = true ∨ X.env.scope.names.lookup x = some .local := by first | exact .inl rfl | exact .inr rfl) : VS X c S (.Assign [.Name x pos'] e pos) E := fun σ G H hd => by
  refine tS_of (ps_set hN hi hx pe_sem hs hf) (tE_mono (h σ G H hd) fun v H' ⟨d, S', G', h1, s1, r, q⟩ => ⟨_, G', h1.setVal r, s1, q⟩)
/-- name = [..], one's own -/
theorem vs_setOwn (i : Nat) {x : Str} {pos' pos2 : Pos} (h : VA X c S es fun ds S' => ds.length ≤ sizeLine ∧ E.nx (S'.put i (.own ds))) (hN : X.N.Nodup) (hi : X.N[i]? = some x := by rfl) (hx : Loc X.env.scope x := by first | exact Or.inl rfl | exact Or.inr rfl)
    (hs : swapsWith (.List es pos2) (some (.Name x pos')) pos.line X.env = pure false := by rfl) (hf : X.fn x = true ∨ X.env.scope.names.lookup x = some .local := by first | exact .inl rfl | exact .inr rfl) : VS X c S (.Assign [.Name x pos'] (.List es pos2) pos) E := fun σ G H hd => by
  refine tS_of (ps_set hN hi hx (pe_lst pa_sem) hs hf) (tA_mono (h σ G H hd) fun vs H' ⟨ds, S', G', h1, s1, r, hl, q⟩ => ⟨by rw [r.length]; exact hl, fun p hp => ⟨_, G', h1.setOwn hp r hl, s1, q⟩⟩)
/-- name op= e of ints -/
theorem vs_aug (i : Nat) {x : Str} {op : Operator} {pos' : Pos} {ti : TIp} {d0 : D} (hρ : S.ρ[i]? = some (.val d0)) (ho : PIp X op ti)
    (h : VE X c S e fun y S' => ∀ σ G H u v, HdX X c S' σ G H → RepX X G u d0 → RepX X G v y → ti u v H (pE X c σ G fun z S2 => E.nx (S2.put i (.val z))))
    (hm : ∀ u v H (Q Q' : VK), (∀ z H', Q z H' → Q' z H') → ti u v H Q → ti u v H Q')
    (hN : X.N.Nodup) (hi : X.N[i]? = some x := by rfl) (hx : Loc X.env.scope x := by first | exact Or.inl rfl | exact Or.inr rfl)
    (hf : X.fn x = true ∨ X.env.scope.names.lookup x = some .local := by first | exact .inl rfl | exact .inr rfl) : VS X c S (.AugAssign (.Name x pos') op e pos) E := fun σ G H hd => by
  obtain ⟨o, e1, v0, e2, r0⟩ := hd.slots i _ hρ
  subst e2
  refine tS_of (ps_aug hN hi hx pe_sem ho hf) ⟨v0, e1, tE_mono (h σ G H hd) fun v H' ⟨d, S', G', h1, s1, r, q⟩ => ?_⟩
  refine hm _ _ _ _ _ (fun z H2 ⟨dz, S2, G2, h2, s2, r2, q2⟩ => ⟨_, G2, h2.setVal r2, s1.trans s2, q2⟩) (q σ G' H' v0 v h1 (r0.mono s1) r)
theorem vs_augI (i : Nat) {x : Str} {pos' : Pos} {f : Int → Int → Int} {op : Operator} {a : Int} (ho : PIp X op (ipI f)) (hρ : S.ρ[i]? = some (.val (.int a))) (h : VE X c S e fun y S' => ∃ b, y = .int b ∧ E.nx (S'.put i (.val (.int (f a b)))))
    (hN : X.N.Nodup) (hi : X.N[i]? = some x := by rfl) (hx : Loc X.env.scope x := by first | exact Or.inl rfl | exact Or.inr rfl)
    (hf : X.fn x = true ∨ X.env.scope.names.lookup x = some .local := by first | exact .inl rfl | exact .inr rfl) : VS X c S (.AugAssign (.Name x pos') op e pos) E := by
  refine vs_aug i hρ ho (h.imp fun y S' ⟨b, eb, q⟩ σ G H u v h1 ru rv => ?_) (fun u v H Q Q' hq ⟨i, j, e1, e2, q⟩ => ⟨i, j, e1, e2, hq _ _ q⟩) hN hi hx hf
  subst eb
  exact ⟨a, b, rep_int ru, rep_int rv, pE_ret h1 .int q⟩
theorem vs_par (i j : Nat) {x y : Str} {px py pt : Pos} {kt k2 pt2} (h : VA X c S [a, b] fun ds S' => ∃ d1 d2, ds = [d1, d2] ∧ E.nx ((S'.put i (.val d1)).put j (.val d2))) (hc : X.calm = true) (hN : X.N.Nodup) (hi : X.N[i]? = some x := by rfl) (hj : X.N[j]? = some y := by rfl) (hij : i ≠ j := by decide)
    (hx : X.env.scope.names.lookup x = some .local := by rfl) (hy : X.env.scope.names.lookup y = some .local := by rfl)
    (hw : swappedStores [.Tuple [.Name x px, .Name y py] kt pt] (.Tuple [a, b] k2 pt2) X.env = pure (some [x, y]) := by rfl)
    (hs : swapsWithSole [.Tuple [.Name x px, .Name y py] kt pt] (.Tuple [a, b] k2 pt2) pos.line X.env = pure false := by rfl) : VS X c S (.Assign [.Tuple [.Name x px, .Name y py] kt pt] (.Tuple [a, b] k2 pt2) pos) E := fun σ G H hd => by
  refine tS_of (ps_par hc hN hi hj hij hx hy pa_sem hw hs) (tA_mono (h σ G H hd) fun vs H' ⟨ds, S', G', h1, s1, r, d1, d2, e, q⟩ => ?_)
  subst e
  cases r with
  | cons r1 r2 =>
    cases r2 with
    | cons r2 r3 =>
      cases r3
      exact ⟨_, _, rfl, _, G', (h1.setVal r1).setVal r2, s1, q⟩

/-! ### arguments -/
theorem va_nil {Q : List D → State → Prop} (q : Q [] S) : VA X c S [] Q := fun σ G H h => tA_of pa_nil ⟨[], S, G, h, Same.refl _, .nil, q⟩
theorem va_cons {Q : List D → State → Prop} (h : VE X c S e fun d S1 => VA X c S1 es fun ds S2 => Q (d :: ds) S2) (hs : starEach (e :: es) X.env = (false, eval e X.env) :: starEach es X.env := by rfl) : VA X c S (e :: es) Q := fun σ G H hd => by
  refine tA_of (pa_cons pe_sem pa_sem hs) (tE_mono (h σ G H hd) fun v H1 ⟨d, S1, G1, h1, s1, r1, q1⟩ => tA_mono (q1 σ G1 H1 h1) fun vs H2 ⟨ds, S2, G2, h2, s2, r2, q2⟩ => ?_)
  exact ⟨d :: ds, S2, G2, h2, s1.trans s2, .cons (r1.mono s2) r2, q2⟩
theorem ve_tup {k} (h : VA X c S es fun ds S' => ds.length ≤ sizeLine ∧ Q (.tup ds) S') : VE X c S (.Tuple es k pos) Q := fun σ G H hd => by
  refine tE_of (pe_tup pa_sem) (tA_mono (h σ G H hd) fun vs H1 ⟨ds, S1, G1, h1, s1, r1, hl, q1⟩ => ⟨by rw [r1.length]; exact hl, fun p hp => pE_back s1 (pE_new h1 hp (.tup upd_same (r1.mono (same_upd (h1.sub.free hp))) hl) q1)⟩)
theorem ve_lst (h : VA X c S es fun ds S' => ds.length ≤ sizeLine ∧ Q (.lst ds) S') : VE X c S (.List es pos) Q := fun σ G H hd => by
  refine tE_of (pe_lst pa_sem) (tA_mono (h σ G H hd) fun vs H1 ⟨ds, S1, G1, h1, s1, r1, hl, q1⟩ => ⟨by rw [r1.length]; exact hl, fun p hp => pE_back s1 (pE_new h1 hp (.lst upd_same (r1.mono (same_upd (h1.sub.free hp))) hl) q1)⟩)
end
end VL
set_option Elab.async false
set_option linter.all false
set_option maxRecDepth 100000
set_option maxHeartbeats 4000000
/-! VL3: contracts, calls of defs, bodies of defs, exceptions that pass. -/
namespace VL
open PySem PySem.Spec PyProof.Rows L2

/-- an exception of an own class, by values -/
def ExRep (K : PySem.W.Frag) (mg : Str → Option Value) (G : Hp) (cls : Value) (d : Option Addr) (x : ExD) : Prop :=
  ∃ C, mg x.c = some (.ref C) ∧ cls = .ref C ∧ ((x.ks = [] ∧ x.ds = []) ∨ ∃ dd fs, d = some dd ∧ G dd = some (.xd fs) ∧ fs.map (·.1) = x.ks ∧ Reps K mg G (fs.map (·.2)) x.ds)
/-- the wish of an exception, by values -/
def WV (X : Cx) (c : Cv) : WX := fun cls d σ H => ∃ S G x, HdX X c S σ G H ∧ ExRep X.K X.mg G cls d x ∧ c.EV x S

structure Ct where
  run : List D → Pn → (D → Pn → Prop) → (ExD → Pn → Prop) → Prop
  mono : ∀ {ds pn k k' e e'}, run ds pn k e → (∀ d p, k d p → k' d p) → (∀ x p, e x p → e' x p) → run ds pn k' e'

def spV (nb nl : Str) (K : PySem.W.Frag) (mg : Str → Option Value) (ct : Ct) : Sp := fun vs H Q E => ∃ G ds pn, Same G H ∧ Reps K mg G vs ds ∧ (∀ p r, pn = some (p, r) → PenOk nb nl K G H p r) ∧
  ct.run ds pn (fun d pn' => ∀ v G' H', After nb nl K G H pn G' H' pn' → Rep K mg G' v d → Q v H') (fun x pn' => ∀ cls dd G' H', After nb nl K G H pn G' H' pn' → ExRep K mg G' cls dd x → E cls dd H')

/-- a def of the module by its contract; dd: the defaults that fill up -/
structure VFn (P : Program) (w : World) (K : PySem.W.Frag) (mg : Str → Option Value) (base : Heap) (nb nl : Str) (k : Nat) (x : Str) (dd : List D) (ct : Ct) : Prop where
  ex : ∃ f fd ps dvs ds, FnOk P w K mg base (L2.CX P w) k f fd ps (spV nb nl K mg ct) ∧ mg x = some (.ref f) ∧ PySem.W.keepIn K (.ref f) = true ∧ Binds K fd ps ds ∧ Vals dvs ds ∧ Reps K mg (fun _ => none) dvs dd

section
variable {X : Cx} {c : Cv} {S : State} {e a b : Expr} {es : List Expr} {st : Stmt} {sts : List Stmt} {σ : L2.St} {G G' H : Hp} {pos : Pos} {Q : D → State → Prop} {E : VD} {k : Nat} {x : Str} {dd : List D} {ct : Ct}
theorem same_none {G : Hp} : Same (fun _ => none) G := fun _ _ h => nomatch h
/-- what a call hands to its callee -/
theorem spV_call {vs : List V} {ds : List D} {H1 G1 : Hp} {S1 : State} {k : D → Pn → Prop} {e : ExD → Pn → Prop} {R : VK} {RX : XK} (h1 : HdX X c S1 σ G1 H1) (r : Reps X.K X.mg G1 vs ds) (q : ct.run ds S1.pn k e)
    (hk : ∀ d pn', k d pn' → ∀ v G' H', HdX X c { S1 with pn := pn' } σ G' H' → Same G1 G' → RepX X G' v d → R v H')
    (he : ∀ x pn', e x pn' → ∀ cls dd G' H', HdX X c { S1 with pn := pn' } σ G' H' → ExRep X.K X.mg G' cls dd x → RX cls dd H') : spV c.nb c.nl X.K X.mg ct vs H1 R RX :=
  ⟨G1, ds, S1.pn, h1.sub, r, fun p r e => (h1.pen p r e).1, ct.mono q (fun d pn' kd v G' H' A rv => hk d pn' kd v G' H' (h1.after A) A.ext rv) (fun x pn' ex cls dd G' H' A rx => he x pn' ex cls dd G' H' (h1.after A) rx)⟩
theorem ve_call {p : Pos} (F : VFn X.prog X.w X.K X.mg X.base c.nb c.nl k x dd ct) (hr : Room k X.A) (tk : Takes X (WV X c))
    (h : VA X c S (e :: es) fun ds S1 => ct.run (ds ++ dd) S1.pn (fun d pn' => Q d { S1 with pn := pn' }) (fun y pn' => c.EV y { S1 with pn := pn' })) (hg : Gl X x := by rfl)
    (hdb : (x == ("__debug__" : Str)) = false := by decide) (he : starEach (e :: es) X.env = (false, eval e X.env) :: starEach es X.env := by rfl) (hpl : (backTo pos (starEach es X.env)).any (·.1) = false := by rfl) :
    VE X c S (.Call (.Name x p) (e :: es) [] pos) Q := fun σ G H hd => by
  obtain ⟨f, fd, ps, dvs, ds, ok, hm, hk, hb, hv, hdd⟩ := F.ex
  refine tE_of (pe_callSD ok hr hg hm hk hb hv (fun σ => passAt tk σ) pa_sem hdb he hpl) ?_
  refine tA_mono (h σ G H hd) fun vs H1 ⟨ds1, S1, G1, h1, s1, r1, q1⟩ => ?_
  exact spV_call h1 (r1.append (hdd.mono same_none)) q1 (fun d pn' q v G' H' h2 s2 rv => ⟨d, _, G', h2, s1.trans s2, rv, q⟩) (fun y pn' q cls dd' G' H' h2 rx => ⟨_, G', y, h2, rx, q⟩)
theorem pe_call0S {E' : L2.St → XK} {sp : Sp} {f : Addr} {fd : FuncData} {ps : List Str} {ds : List Value} {dvs : List V} {p : Pos} (F : FnOk X.prog X.w X.K X.mg X.base (L2.CX X.prog X.w) k f fd ps sp) (hr : Room k X.A) (hg : Gl X x) (hm : X.mg x = some (.ref f)) (hk : PySem.W.keepIn X.K (.ref f) = true) (hb : Binds X.K fd ps ds) (hd : Vals dvs ds) (hx : ∀ σ, PassesAt (L2.CX X.prog X.w) X σ (E' σ))
    (hdb : (x == ("__debug__" : Str)) = false := by decide) :
    PE X (.Call (.Name x p) [] [] pos) (fun σ H Q => sp dvs H Q (E' σ)) := by
  refine ⟨fun pins s σ H Q I h => ?_⟩
  refine wpAny_Call_Name_kw (ld_glob I hg hm ?_ hdb)
  exact PySem.W.callWith_K0 I.kIn hk (run_fnSD (us := []) F hr hb hd (hx σ) I .nil h)
theorem ve_call0 {p : Pos} (F : VFn X.prog X.w X.K X.mg X.base c.nb c.nl k x dd ct) (hr : Room k X.A) (tk : Takes X (WV X c))
    (h : ct.run dd S.pn (fun d pn' => Q d { S with pn := pn' }) (fun y pn' => c.EV y { S with pn := pn' })) (hg : Gl X x := by rfl)
    (hdb : (x == ("__debug__" : Str)) = false := by decide) : VE X c S (.Call (.Name x p) [] [] pos) Q := fun σ G H hd => by
  obtain ⟨f, fd, ps, dvs, ds, ok, hm, hk, hb, hv, hdd⟩ := F.ex
  refine tE_of (pe_call0S (E' := WE (WV X c)) ok hr hg hm hk hb hv (fun σ => passAt tk σ) hdb) ?_
  exact spV_call hd (hdd.mono same_none) h (fun d pn' q v G' H' h2 s2 rv => ⟨d, _, G', h2, s2, rv, q⟩) (fun y pn' q cls dd' G' H' h2 rx => ⟨_, G', y, h2, rx, q⟩)
theorem VFn.mono {P : Program} {w : World} {K : PySem.W.Frag} {mg : Str → Option Value} {base : Heap} {nb nl : Str} {j : Nat} (F : VFn P w K mg base nb nl j x dd ct) (h : j ≤ k) : VFn P w K mg base nb nl k x dd ct := by
  obtain ⟨f, fd, ps, dvs, ds, ok, r⟩ := F.ex
  exact ⟨f, fd, ps, dvs, ds, ok.mono h, r⟩
end

/-! ### a def's body -/
/-- the pen behind a def: told of where the def was handed one -/
def outPn (pn0 pn : Pn) : Pn := match pn0 with
  | none => none
  | some _ => pn
def bodyCv (nb nl : Str) (G H : Hp) (pn : Pn) (Ev : ExD → Pn → Prop) : Cv := ⟨G, H, pn.map (·.1), true, nb, nl, fun x S => Ev x (outPn pn S.pn)⟩
def startρ (n : Nat) (ds : List D) : List Sl := ds.map Sl.val ++ List.replicate (n - ds.length) .un
theorem not_own_start {n i : Nat} {ds : List D} : ¬ ownAt (startρ n ds) i := fun ⟨sl, h1, h2⟩ => by
  unfold startρ at h1
  have hm := List.mem_of_getElem? h1
  rcases List.mem_append.mp hm with q | q
  · obtain ⟨d, _, e⟩ := List.mem_map.mp q
    subst e
    cases h2
  · rw [(List.mem_replicate.mp q).2] at h2
    cases h2
theorem Hd.start {K : PySem.W.Frag} {mg : Str → Option Value} {nb nl : Str} {G H : Hp} {pn : Pn} {Ev : ExD → Pn → Prop} {N : List Str} {vs : List V} {ds : List D} (hs : Same G H) (r : Reps K mg G vs ds) (hp : ∀ p r, pn = some (p, r) → PenOk nb nl K G H p r)
    (hN : ds.length ≤ N.length) : Hd K mg (bodyCv nb nl G H pn Ev) ⟨startρ N.length ds, pn⟩ (L2.start N vs) G H where
  sub := hs
  len := by
    show (L2.start N vs).length = (startρ N.length ds).length
    unfold L2.start startρ
    have := r.length
    simp only [List.length_append, List.length_map, List.length_replicate]
    omega
  slots := fun i sl e => by
    have e' : (startρ N.length ds)[i]? = some sl := e
    unfold startρ at e'
    unfold L2.start
    by_cases hi : i < ds.length
    · rw [List.getElem?_append_left (by simpa using hi), List.getElem?_map] at e'
      obtain ⟨d, h1, h2⟩ := Option.map_eq_some_iff.mp e'
      subst h2
      obtain ⟨v, q1, q2⟩ := r.get h1
      refine ⟨some v, ?_, v, rfl, q2⟩
      rw [List.getElem?_append_left (by rw [List.length_map, r.length]; exact hi), List.getElem?_map, q1]
      rfl
    · rw [List.getElem?_append_right (by simpa using hi), List.getElem?_replicate] at e'
      split at e'
      · rename_i hlt
        cases e'
        refine ⟨none, ?_, trivial⟩
        rw [List.getElem?_append_right (by rw [List.length_map, r.length]; omega), List.getElem?_replicate, if_pos]
        rw [List.length_map] at hlt ⊢
        have := r.length
        omega
      · cases e'
  dist := fun i j l _ h => (not_own_start h).elim
  pen := fun p r e => ⟨hp p r e, .inl (by show pn.map (·.1) = some p; have e' : pn = some (p, r) := e; rw [e']; rfl)⟩
  padr := fun a e => by
    have e' : pn.map (·.1) = some a := e
    obtain ⟨⟨p, r⟩, h1, h2⟩ := Option.map_eq_some_iff.mp e'
    have h2' : p = a := h2
    subst h2'
    exact ⟨r, h1⟩
  ext0 := Same.refl _
  new0 := fun _ _ h => .inl h
  keep0 := fun _ _ h _ => h
  fresh := fun _ i l h => (not_own_start h).elim
theorem Hd.done {K : PySem.W.Frag} {mg : Str → Option Value} {nb nl : Str} {G H G' H' : Hp} {pn : Pn} {Ev : ExD → Pn → Prop} {S : State} {σ : L2.St} (h : Hd K mg (bodyCv nb nl G H pn Ev) S σ G' H') : After nb nl K G H pn G' H' (outPn pn S.pn) where
  sub := h.sub
  ext := h.ext0
  new := h.new0
  keep := fun a o e hne => h.keep0 a o e fun z => by
    have e' : pn.map (·.1) = some a := z
    obtain ⟨⟨p, r⟩, h1, h2⟩ := Option.map_eq_some_iff.mp e'
    have h2' : p = a := h2
    subst h2'
    exact hne r h1
  pen := fun p r e => by
    cases pn with
    | none => cases e
    | some w => exact (h.pen p r e).1
  adr := by
    cases pn with
    | none => rfl
    | some w =>
      obtain ⟨p, r⟩ := w
      obtain ⟨r', q⟩ := h.padr p rfl
      show S.pn.map (·.1) = some p
      rw [q]
      rfl
/-- the context of the body of the def st -/
abbrev bX (P : Program) (w : World) (K : PySem.W.Frag) (mg : Str → Option Value) (base : Heap) (N : List Str) (qual : Str) (st : Stmt) (f : Addr) (cdv : Value) (A : Around) (outer : List Env) (s : Shared) (H : Hp) (E : XK) : Cx :=
  cxOf (L2.CX P w) P w K mg base N qual (defScope st) f cdv A outer s H E
section
variable {P : Program} {w : World} {K : PySem.W.Frag} {mg : Str → Option Value} {base : Heap} {nb nl : Str} {k : Nat} {ct : Ct} {x qual : Str} {st : Stmt} {dvs : List V} {kws : List (Str × V)} {f : Addr} {fd : FuncData} {N ps : List Str}
theorem fn_body (F : FunD K x qual (defArgs st) (defBody st) (defScope st) dvs kws f fd) (Sc : FnScope N ps (defScope st)) (hps : ps.length ≤ N.length) (np : ∀ ds pn k e, ct.run ds pn k e → ds.length = ps.length)
    (body : ∀ (cdv : Value) (A : Around) (outer : List Env) (s : Shared) (H : Hp) (E : XK) (G : Hp) (ds : List D) (pn : Pn) (Qv : D → Pn → Prop) (Ev : ExD → Pn → Prop),
      Room k (bX P w K mg base N qual st f cdv A outer s H E).A → Takes (bX P w K mg base N qual st f cdv A outer s H E) (WV (bX P w K mg base N qual st f cdv A outer s H E) (bodyCv nb nl G H pn Ev)) → ct.run ds pn Qv Ev →
      VSs (bX P w K mg base N qual st f cdv A outer s H E) (bodyCv nb nl G H pn Ev) ⟨startρ N.length ds, pn⟩ (defBody st) { nx := fun S => Qv .non (outPn pn S.pn), rt := fun d S => Qv d (outPn pn S.pn) }) :
    FnOk P w K mg base (L2.CX P w) (k + 1) f fd ps (spV nb nl K mg ct) := by
  refine F.ok Sc (fun vs H Q E ⟨G, ds, pn, _, r, _, h⟩ => by rw [r.length]; exact np _ _ _ _ h) fun cdv A outer s H vs Q E hr ⟨G, ds, pn, hs, r, hp, h⟩ => ?_
  refine ⟨tSs _ (defBody st), pss_sem, ?_⟩
  have tk0 : Takes (bX P w K mg base N qual st f cdv A outer s H E) (fun cls d _ H => E cls d H) := takes_of rfl rfl rfl rfl
  have b := body cdv A outer s H E G ds pn _ _ hr (tk0.imp fun cls d σ H' ⟨S', G', y, h1, rx, q⟩ => q cls d G' H' h1.done rx) h
  have h0 := Hd.start (nb := nb) (nl := nl) (N := N) (Ev := fun x pn' => ∀ cls dd G' H', After nb nl K G H pn G' H' pn' → ExRep K mg G' cls dd x → E cls dd H') hs r hp (by rw [np _ _ _ _ h]; exact hps)
  refine tSs_mono (b (L2.start N vs) G H h0) (fun σ' H' ⟨S', G', h1, s1, q⟩ => q .non G' H' h1.done .non) (fun v H' ⟨d, S', σ', G', h1, s1, rv, q⟩ => q v G' H' h1.done rv) (fun _ _ ⟨_, _, _, _, z⟩ => z) (fun _ _ ⟨_, _, _, _, z⟩ => z)
end
end VL
set_option Elab.async false
set_option linter.all false
set_option maxRecDepth 100000
set_option maxHeartbeats 4000000
/-! VL4: tests, and/or/not, comparisons, loops, built-in calls, fields, subscripts. -/
namespace VL
open PySem PySem.Spec PyProof.Rows L2

def D.toPy : D → Option PyData
  | .non => some .none
  | .bl b => some (.bool b)
  | .int i => some (.int i)
  | .str x => some (.str x)
  | .lst xs => (go xs).map .list
  | .tup xs => (go xs).map .tuple
  | .scr xs => (go xs).map .list
  | _ => none
where go : List D → Option (List PyData)
  | [] => some []
  | d :: r => (D.toPy d).bind fun p => (go r).map (p :: ·)

mutual
theorem rep_dp {K : PySem.W.Frag} {mg : Str → Option Value} {G H : Hp} (hs : Same G H) : ∀ {v : V} {d : D} {p : PyData}, Rep K mg G v d → d.toPy = some p → Dp K H v p
  | _, .non, _, .non, e => by cases e; exact .non
  | _, .bl b, _, .bl, e => by cases e; exact .bl b
  | _, .int i, _, .int, e => by cases e; exact .int i
  | _, .str x, _, .str, e => by cases e; exact .str x
  | _, .lst xs, p, .lst h r _, e => by
    have e' : (D.toPy.go xs).map PyData.list = some p := e
    obtain ⟨ps, h1, h2⟩ := Option.map_eq_some_iff.mp e'
    subst h2
    exact .lst (.inl (.inl (hs _ _ h))) (reps_dp hs r h1)
  | _, .tup xs, p, .tup h r _, e => by
    have e' : (D.toPy.go xs).map PyData.tuple = some p := e
    obtain ⟨ps, h1, h2⟩ := Option.map_eq_some_iff.mp e'
    subst h2
    exact .tup (.inl (.inl (hs _ _ h))) (reps_dp hs r h1)
  | _, .ins _ _ _, _, _, e => by cases e
  | _, .adr _, _, _, e => by cases e
  | _, .ty _, _, _, e => by cases e
  | _, .cref _, _, _, e => by cases e
  | _, .scr xs, p, .scr h r, e => by
    have e' : (D.toPy.go xs).map PyData.list = some p := e
    obtain ⟨ps, h1, h2⟩ := Option.map_eq_some_iff.mp e'
    subst h2
    exact .lst (hs.seq h) (reps_dp hs r h1)
  | _, .dct _ _, _, _, e => by cases e
  | _, .exn _ _ _, _, _, e => by cases e
  | _, .cau _ _ _ _ _, _, _, e => by cases e
theorem reps_dp {K : PySem.W.Frag} {mg : Str → Option Value} {G H : Hp} (hs : Same G H) : ∀ {vs : List V} {ds : List D} {ps : List PyData}, Reps K mg G vs ds → D.toPy.go ds = some ps → DpAll K H vs ps
  | _, [], _, .nil, e => by cases e; exact .nil
  | _, d :: ds, ps, .cons h r, e => by
    have e' : (D.toPy d).bind (fun p => (D.toPy.go ds).map (p :: ·)) = some ps := e
    obtain ⟨p, h1, h2⟩ := Option.bind_eq_some_iff.mp e'
    obtain ⟨qs, h3, h4⟩ := Option.map_eq_some_iff.mp h2
    subst h4
    exact .cons (rep_dp hs h h1) (reps_dp hs r h3)
end

section
variable {X : Cx} {c : Cv} {S : State} {e a b : Expr} {es : List Expr} {st : Stmt} {sts : List Stmt} {σ : L2.St} {G G' H : Hp} {pos : Pos} {Q : D → State → Prop} {QT : Bool → State → Prop} {E : VD}
/-! ### truth -/
def truP (d : D) (k : Bool → Prop) : Prop := match d with
  | .non => k false
  | .bl b => k b
  | .int i => k (i != 0)
  | .str z => z.length ≤ sizeLine ∧ k ((z.length : Int) != 0)
  | .lst ds => k (!ds.isEmpty)
  | .tup ds => k (!ds.isEmpty)
  | _ => False
theorem reps_empty {vs : List V} {ds : List D} (r : Reps X.K X.mg G vs ds) : vs.isEmpty = ds.isEmpty := by cases r <;> rfl
theorem vt_truth (h : VE X c S e fun d S' => truP d fun k => QT k S') (he : ∀ whole, isTrue e X.env whole = (do let v ← whole; standAt e.pos; holding [v] (truthy v)) := by intro _; rfl) : VT X c S e QT := fun σ G H hd => by
  refine tT_of (pt_truth pe_sem he) (tE_mono (h σ G H hd) fun v H' ⟨d, S', G', h1, s1, r, q⟩ => ?_)
  cases d with
  | non => exact ⟨false, by rw [rep_non r]; rfl, S', G', h1, s1, q⟩
  | bl b => exact ⟨b, by rw [rep_bl r]; rfl, S', G', h1, s1, q⟩
  | int i => exact ⟨i != 0, by rw [rep_int r]; rfl, S', G', h1, s1, q⟩
  | str z => exact ⟨_, by rw [rep_str r]; exact ⟨q.1, rfl⟩, S', G', h1, s1, q.2⟩
  | lst ds =>
    obtain ⟨a, vs, e1, h2, r2⟩ := rep_lst r
    exact ⟨!ds.isEmpty, by rw [e1]; exact .inl ⟨vs, .inl (.inl (h1.sub _ _ h2)), by rw [reps_empty r2]⟩, S', G', h1, s1, q⟩
  | tup ds =>
    obtain ⟨a, vs, e1, h2, r2⟩ := rep_tup r
    exact ⟨!ds.isEmpty, by rw [e1]; exact .inr (.inl ⟨vs, .inl (.inl (h1.sub _ _ h2)), by rw [reps_empty r2]⟩), S', G', h1, s1, q⟩
  | ins _ _ _ => exact q.elim
  | adr _ => exact q.elim
  | ty _ => exact q.elim
  | cref _ => exact q.elim
  | scr _ => exact q.elim
  | dct _ _ => exact q.elim
  | exn _ _ _ => exact q.elim
  | cau _ _ _ _ _ => exact q.elim
theorem vt_not (h : VT X c S a fun k S' => QT (!k) S') : VT X c S (.UnaryOp .Not a pos) QT := fun σ G H hd => tT_of (pt_not pt_sem) (h σ G H hd)
theorem vt_w (h : VW X c S e QT) : VT X c S e QT := fun σ G H hd => tT_of (pw_sem.pt) (h σ G H hd)
theorem vw_and1 (h : VT X c S a QT) : VW X c S (.BoolOp .And [a] pos) QT := fun σ G H hd => tW_of (pw_and1 pt_sem) (h σ G H hd)
theorem vw_or1 (h : VT X c S a QT) : VW X c S (.BoolOp .Or [a] pos) QT := fun σ G H hd => tW_of (pw_or1 pt_sem) (h σ G H hd)
theorem vw_and {rest : List Expr} (h : VT X c S a fun k S1 => (k = true → VW X c S1 (.BoolOp .And (b :: rest) pos) QT) ∧ (k = false → QT false S1)) : VW X c S (.BoolOp .And (a :: b :: rest) pos) QT := fun σ G H hd => by
  refine tW_of (pw_and pt_sem pw_sem) (tT_mono (h σ G H hd) fun k H' ⟨S', G', h1, s1, q⟩ => ?_)
  cases k with
  | true => exact tW_mono (q.1 rfl σ G' H' h1) fun _ _ p => pT_back s1 p
  | false => exact ⟨S', G', h1, s1, q.2 rfl⟩
theorem vw_or {rest : List Expr} (h : VT X c S a fun k S1 => (k = true → QT true S1) ∧ (k = false → VW X c S1 (.BoolOp .Or (b :: rest) pos) QT)) : VW X c S (.BoolOp .Or (a :: b :: rest) pos) QT := fun σ G H hd => by
  refine tW_of (pw_or pt_sem pw_sem) (tT_mono (h σ G H hd) fun k H' ⟨S', G', h1, s1, q⟩ => ?_)
  cases k with
  | false => exact tW_mono (q.2 rfl σ G' H' h1) fun _ _ p => pT_back s1 p
  | true => exact ⟨S', G', h1, s1, q.1 rfl⟩
/-- values of and, or, not: all but the last are bools -/
theorem ve_one {op} (h : VE X c S a Q) : VE X c S (.BoolOp op [a] pos) Q := fun σ G H hd => tE_of (pe_one pe_sem) (h σ G H hd)
theorem ve_and {rest : List Expr} (h : VE X c S a fun x S1 => ∃ k, x = .bl k ∧ (k = true → VE X c S1 (.BoolOp .And (b :: rest) pos) Q) ∧ (k = false → Q (.bl false) S1)) : VE X c S (.BoolOp .And (a :: b :: rest) pos) Q := fun σ G H hd => by
  refine tE_of (pe_and pe_sem pe_sem) (tE_mono (h σ G H hd) fun v H' ⟨d, S', G', h1, s1, r, k, e, q⟩ => ?_)
  subst e
  refine ⟨k, rep_bl r, ?_⟩
  cases k with
  | true => exact tE_mono (q.1 rfl σ G' H' h1) fun _ _ p => pE_back s1 p
  | false => exact pE_back s1 (pE_ret h1 .bl (q.2 rfl))
theorem ve_or {rest : List Expr} (h : VE X c S a fun x S1 => ∃ k, x = .bl k ∧ (k = true → Q (.bl true) S1) ∧ (k = false → VE X c S1 (.BoolOp .Or (b :: rest) pos) Q)) : VE X c S (.BoolOp .Or (a :: b :: rest) pos) Q := fun σ G H hd => by
  refine tE_of (pe_or pe_sem pe_sem) (tE_mono (h σ G H hd) fun v H' ⟨d, S', G', h1, s1, r, k, e, q⟩ => ?_)
  subst e
  refine ⟨k, rep_bl r, ?_⟩
  cases k with
  | false => exact tE_mono (q.2 rfl σ G' H' h1) fun _ _ p => pE_back s1 p
  | true => exact pE_back s1 (pE_ret h1 .bl (q.1 rfl))
theorem ve_not (h : VE X c S a fun x S1 => ∃ k, x = .bl k ∧ Q (.bl (!k)) S1) : VE X c S (.UnaryOp .Not a pos) Q := fun σ G H hd => by
  refine tE_of (pe_not pe_sem) (tE_mono (h σ G H hd) fun v H' ⟨d, S', G', h1, s1, r, k, e, q⟩ => ?_)
  subst e
  exact ⟨k, rep_bl r, pE_back s1 (pE_ret h1 .bl q)⟩
theorem ve_ifexp {t : Expr} (h : VT X c S t fun k S1 => (k = true → VE X c S1 a Q) ∧ (k = false → VE X c S1 b Q)) : VE X c S (.IfExp t a b pos) Q := fun σ G H hd => by
  refine tE_of (pe_ifExp pt_sem pe_sem pe_sem) (tT_mono (h σ G H hd) fun k H' ⟨S', G', h1, s1, q⟩ => ?_)
  cases k with
  | true => exact tE_mono (q.1 rfl σ G' H' h1) fun _ _ p => pE_back s1 p
  | false => exact tE_mono (q.2 rfl σ G' H' h1) fun _ _ p => pE_back s1 p
theorem ve_neg (h : VE X c S a fun x S1 => ∃ i, x = .int i ∧ Q (.int (-i)) S1) : VE X c S (.UnaryOp .USub a pos) Q := fun σ G H hd => by
  refine tE_of (pe_un un_neg pe_sem) (tE_mono (h σ G H hd) fun v H' ⟨d, S', G', h1, s1, r, i, e, q⟩ => ?_)
  subst e
  exact ⟨i, rep_int r, pE_back s1 (pE_ret h1 .int q)⟩

/-! ### == of plain data -/
theorem rb_eqD {x y : D} {p q : PyData} (hx : x.toPy = some p) (hy : y.toPy = some q) (sx : SeqAt.shaped p = true) (sy : SeqAt.shaped q = true) (k : Q (.bl (PyData.eqv p q)) S) : RB X c S (rEqD X.K) x y Q := fun σ G H u v hd ru rv R hR =>
  ⟨p, q, rep_dp hd.sub ru hx, rep_dp hd.sub rv hy, sx, sy, hR _ _ (pE_ret hd .bl k)⟩
theorem rb_neD {x y : D} {p q : PyData} (hx : x.toPy = some p) (hy : y.toPy = some q) (sx : SeqAt.shaped p = true) (sy : SeqAt.shaped q = true) (k : Q (.bl (!PyData.eqv p q)) S) : RB X c S (rNeD X.K) x y Q := fun σ G H u v hd ru rv R hR =>
  ⟨p, q, rep_dp hd.sub ru hx, rep_dp hd.sub rv hy, sx, sy, hR _ _ (pE_ret hd .bl k)⟩
theorem rb_eqI {i j : Int} (k : Q (.bl (decide (i = j))) S) : RB X c S rEq (.int i) (.int j) Q := fun σ G H u v hd ru rv R hR => by
  rw [rep_int ru, rep_int rv]
  refine ⟨rfl, hR _ _ ?_⟩
  have e : decide (V.int i = V.int j) = decide (i = j) := by
    rw [Bool.eq_iff_iff]; simp
  rw [e]
  exact pE_ret hd .bl k
theorem rb_neI {i j : Int} (k : Q (.bl (!decide (i = j))) S) : RB X c S rNe (.int i) (.int j) Q := fun σ G H u v hd ru rv R hR => by
  rw [rep_int ru, rep_int rv]
  refine ⟨rfl, hR _ _ ?_⟩
  have e : decide (V.int i = V.int j) = decide (i = j) := by
    rw [Bool.eq_iff_iff]; simp
  rw [e]
  exact pE_ret hd .bl k
def isNon : D → Bool
  | .non => true
  | _ => false
theorem rb_isN {x : D} (k : Q (.bl (isNon x)) S) : RB X c S (fun x y H Q => y = .non ∧ Q (.bl (decide (x = .non))) H) x .non Q := fun σ G H u v hd ru rv R hR => by
  refine ⟨rep_non rv, hR _ _ ?_⟩
  have e : decide (u = V.non) = isNon x := by
    cases ru <;> rfl
  rw [e]
  exact pE_ret hd .bl k
/-! ### chains -/
theorem ve_chain {op op' : CmpOp} {r r' : R2} {d3 : Expr} (ho : OpR X (compareOp op) r) (ho' : OpR X (compareOp op') r')
    (h : VE X c S a fun x S1 => VE X c S1 b fun y S2 => RB X c S2 r x y fun z S3 => ∃ k, z = .bl k ∧ (k = true → VE X c S3 d3 fun w S4 => RB X c S4 r' y w Q) ∧ (k = false → Q (.bl false) S3))
    (hm : lastMarks [op, op'] [b, d3] = false := by with_unfolding_all rfl) : VE X c S (.Compare a [op, op'] [b, d3] pos) Q := fun σ G H hd => by
  refine tE_of (pe_chain ho ho' pe_sem pe_sem pe_sem hm) ?_
  refine tE_mono (h σ G H hd) fun u H1 ⟨x, S1, G1, h1, s1, r1, q1⟩ => tE_mono (q1 σ G1 H1 h1) fun v H2 ⟨y, S2, G2, h2, s2, r2, q2⟩ => ?_
  refine q2 σ G2 H2 u v h2 (r1.mono s2) r2 _ fun z H3 ⟨d, S3, G3, h3, s3, r3, k, e, q3⟩ => ?_
  subst e
  refine ⟨k, rep_bl r3, ?_⟩
  cases k with
  | false => exact pE_back (s1.trans (s2.trans s3)) (pE_ret h3 .bl (q3.2 rfl))
  | true =>
    refine tE_mono (q3.1 rfl σ G3 H3 h3) fun w H4 ⟨dw, S4, G4, h4, s4, r4, q4⟩ => ?_
    exact q4 σ G4 H4 v w h4 (r2.mono (s3.trans s4)) r4 _ fun z H' p => pE_back (s1.trans (s2.trans (s3.trans s4))) p
theorem vt_chain {op op' : CmpOp} {r r' : R2} {d3 : Expr} (ho : OpR X (compareOp op) r) (ho' : OpR X (compareOp op') r')
    (h : VE X c S a fun x S1 => VE X c S1 b fun y S2 => RB X c S2 r x y fun z S3 => ∃ k, z = .bl k ∧ (k = true → VE X c S3 d3 fun w S4 => RB X c S4 r' y w (blP QT)) ∧ (k = false → QT false S3))
    (hm : lastMarks [op, op'] [b, d3] = false := by with_unfolding_all rfl) : VT X c S (.Compare a [op, op'] [b, d3] pos) QT := fun σ G H hd => by
  refine tT_of (pt_chain ho ho' pe_sem pe_sem pe_sem hm) ?_
  refine tE_mono (h σ G H hd) fun u H1 ⟨x, S1, G1, h1, s1, r1, q1⟩ => tE_mono (q1 σ G1 H1 h1) fun v H2 ⟨y, S2, G2, h2, s2, r2, q2⟩ => ?_
  refine q2 σ G2 H2 u v h2 (r1.mono s2) r2 _ fun z H3 ⟨d, S3, G3, h3, s3, r3, k, e, q3⟩ => ?_
  subst e
  refine ⟨k, rep_bl r3, ?_⟩
  cases k with
  | false => exact ⟨false, rfl, S3, G3, h3, s1.trans (s2.trans s3), q3.2 rfl⟩
  | true =>
    refine tE_mono (q3.1 rfl σ G3 H3 h3) fun w H4 ⟨dw, S4, G4, h4, s4, r4, q4⟩ => ?_
    refine q4 σ G4 H4 v w h4 (r2.mono (s3.trans s4)) r4 _ fun z H' ⟨d', S', G', h5, s5, r5, k2, e2, q5⟩ => ?_
    subst e2
    exact ⟨k2, rep_bl r5, S', G', h5, s1.trans (s2.trans (s3.trans (s4.trans s5))), q5⟩

/-! ### targets -/
def tG (X : Cx) (tg : Expr) : TG := fun v σ H Q => ∀ (pins : List (Addr × Obj)) (s : Shared) (u : Value), Inv X pins σ H s → RelV v u → wpAny (model X.prog X.w) X.A (assign tg X.env u) (fun _ s' => ∃ σ' H', Inv X pins σ' H' s' ∧ Q σ' H') X.xe s
theorem pg_sem {tg : Expr} : PG X tg (tG X tg) := ⟨fun pins s σ H v u Q I r h => h pins s u I r⟩
theorem tG_of {tg : Expr} {t : TG} {v : V} {Q : L2.St → Hp → Prop} (h : PG X tg t) (q : t v σ H Q) : tG X tg v σ H Q := fun pins s u I r => h.run pins s σ H v u Q I r q
theorem tG_mono {tg : Expr} {v : V} {Q Q' : L2.St → Hp → Prop} (h : tG X tg v σ H Q) (hq : ∀ σ H, Q σ H → Q' σ H) : tG X tg v σ H Q' := fun pins s u I r => thn (h pins s u I r) fun _ _ ⟨σ', H', I', q⟩ => ⟨σ', H', I', hq _ _ q⟩
def pS (X : Cx) (c : Cv) (G : Hp) (Q : State → Prop) : L2.St → Hp → Prop := fun σ' H' => ∃ S' G', HdX X c S' σ' G' H' ∧ Same G G' ∧ Q S'
def VG (X : Cx) (c : Cv) (S : State) (tg : Expr) (d : D) (Q : State → Prop) : Prop := ∀ σ G H v, HdX X c S σ G H → RepX X G v d → tG X tg v σ H (pS X c G Q)
theorem pS_back {Q : State → Prop} (s : Same G G') {σ' : L2.St} {H' : Hp} (h : pS X c G' Q σ' H') : pS X c G Q σ' H' := by
  obtain ⟨S', G'', h1, h2, h3⟩ := h
  exact ⟨S', G'', h1, s.trans h2, h3⟩
theorem vg_name (i : Nat) {x : Str} {d : D} {Q : State → Prop} (q : Q (S.put i (.val d))) (hN : X.N.Nodup) (hi : X.N[i]? = some x := by rfl) (hx : Loc X.env.scope x := by first | exact Or.inl rfl | exact Or.inr rfl)
    (hf : X.fn x = true ∨ X.env.scope.names.lookup x = some .local := by first | exact .inl rfl | exact .inr rfl) : VG X c S (.Name x pos) d Q := fun σ G H v hd r => tG_of (pg_name hN hi hx hf) ⟨_, G, hd.setVal r, Same.refl _, q⟩
def tGs (X : Cx) (ts : List Expr) : TGs := fun vs σ H Q => ∀ (pins : List (Addr × Obj)) (s : Shared) (us : List Value), Inv X pins σ H s → Vals vs us → wpAny (model X.prog X.w) X.A (assignInOrder ((assignEach ts X.env).map (·.2)) us) (fun _ s' => ∃ σ' H', Inv X pins σ' H' s' ∧ Q σ' H') X.xe s
theorem pgs_sem {ts : List Expr} : PGs X ts (tGs X ts) := ⟨fun pins s σ H v u Q I r h => h pins s u I r⟩
theorem tGs_of {ts : List Expr} {t : TGs} {vs : List V} {Q : L2.St → Hp → Prop} (h : PGs X ts t) (q : t vs σ H Q) : tGs X ts vs σ H Q := fun pins s u I r => h.run pins s σ H vs u Q I r q
theorem tGs_mono {ts : List Expr} {vs : List V} {Q Q' : L2.St → Hp → Prop} (h : tGs X ts vs σ H Q) (hq : ∀ σ H, Q σ H → Q' σ H) : tGs X ts vs σ H Q' := fun pins s u I r => thn (h pins s u I r) fun _ _ ⟨σ', H', I', q⟩ => ⟨σ', H', I', hq _ _ q⟩
def VGs (X : Cx) (c : Cv) (S : State) (ts : List Expr) (ds : List D) (Q : State → Prop) : Prop := ∀ σ G H vs, HdX X c S σ G H → Reps X.K X.mg G vs ds → tGs X ts vs σ H (pS X c G Q)
theorem vgs_nil {Q : State → Prop} (q : Q S) : VGs X c S [] [] Q := fun σ G H vs hd r => by
  cases r
  exact tGs_of pgs_nil ⟨rfl, S, G, hd, Same.refl _, q⟩
theorem vgs_cons {t : Expr} {ts : List Expr} {d : D} {ds : List D} {Q : State → Prop} (h : VG X c S t d fun S1 => VGs X c S1 ts ds Q) (hs : (assignEach (t :: ts) X.env).map (·.2) = assign t X.env :: (assignEach ts X.env).map (·.2) := by rfl) : VGs X c S (t :: ts) (d :: ds) Q := fun σ G H vs hd r => by
  cases r with
  | cons r1 r2 =>
    refine tGs_of (pgs_cons pg_sem pgs_sem hs) ⟨_, _, rfl, tG_mono (h σ G H _ hd r1) fun σ' H' ⟨S', G', h1, s1, q⟩ => tGs_mono (q σ' G' H' _ h1 (r2.mono s1)) fun _ _ p => pS_back s1 p⟩
theorem vg_tup {ts : List Expr} {k : Nat} {ds : List D} {Q : State → Prop} (h : VGs X c S ts ds Q) (hc : X.calm = true) (hl : (assignEach ts X.env).length = ds.length := by rfl) (hst : (assignEach ts X.env).findIdx? (·.1) = none := by rfl) : VG X c S (.Tuple ts k pos) (.tup ds) Q := fun σ G H v hd r => by
  obtain ⟨p, vs, e1, h1, r1⟩ := rep_tup r
  refine tG_of (pg_tup hc pgs_sem (n := ds.length) hl hst) ⟨p, vs, e1, .inl (.inl (hd.sub _ _ h1)), r1.length, h σ G H vs hd r1⟩
/-- target = value -/
theorem vs_asg {tg : Expr} (h : VE X c S e fun d S' => VG X c S' tg d E.nx) (hs : swapsWithSole [tg] e pos.line X.env = pure false := by rfl) (hw : swappedStores [tg] e X.env = pure none := by rfl)
    (h1 : (assignEach [tg] X.env).map (·.2) = [assign tg X.env] := by rfl) : VS X c S (.Assign [tg] e pos) E := fun σ G H hd => by
  refine tS_of (ps_asg pe_sem pg_sem hs hw h1) (tE_mono (h σ G H hd) fun v H' ⟨d, S', G', h2, s2, r, q⟩ => tG_mono (q σ G' H' v h2 r) fun _ _ p => pS_back s2 p)

/-! ### while -/
theorem vs_while {t : Expr} {body : List Stmt} (hp : PassesOwn (model X.prog X.w) X.A X.env X.xe) (W : Nat → State → Prop) (m0 : Nat) (h0 : W m0 S)
    (turn : ∀ m S, W m S → VT X c S t fun k S1 => (k = true → VSs X c S1 body { nx := fun S2 => ∃ m', m' < m ∧ W m' S2, ct := fun S2 => ∃ m', m' < m ∧ W m' S2, bk := E.nx, rt := E.rt }) ∧ (k = false → E.nx S1)) :
    VS X c S (.While t body [] pos) E := fun σ G H hd => by
  refine tS_of (ps_while hp pt_sem pss_sem) ⟨fun m σ H => ∃ S' G', HdX X c S' σ G' H ∧ Same G G' ∧ W m S', ⟨m0, S, G, hd, Same.refl _, h0⟩, fun m σ1 H1 ⟨S1, G1, h1, s1, w1⟩ => ?_⟩
  refine tT_mono (turn m S1 w1 σ1 G1 H1 h1) fun k H2 ⟨S2, G2, h2, s2, q⟩ => ?_
  cases k with
  | false => exact ⟨S2, G2, h2, s1.trans s2, q.2 rfl⟩
  | true =>
    refine ⟨fun σ' H' => ∃ m', m' < m ∧ ∃ S' G', HdX X c S' σ' G' H' ∧ Same G G' ∧ W m' S', fun σ' H' p => p, ?_⟩
    refine tSs_mono (q.1 rfl σ1 G2 H2 h2) (fun _ _ ⟨S3, G3, h3, s3, m', hm, w⟩ => ⟨m', hm, S3, G3, h3, s1.trans (s2.trans s3), w⟩) (fun _ _ ⟨d, S3, σ3, G3, h3, s3, p⟩ => ⟨d, S3, σ3, G3, h3, s1.trans (s2.trans s3), p⟩)
      (fun _ _ ⟨S3, G3, h3, s3, p⟩ => ⟨S3, G3, h3, s1.trans (s2.trans s3), p⟩) (fun _ _ ⟨S3, G3, h3, s3, m', hm, w⟩ => ⟨m', hm, S3, G3, h3, s1.trans (s2.trans s3), w⟩)
/-! ### for -/
theorem vs_forL {tg iter : Expr} {body : List Stmt} (hp : PassesOwn (model X.prog X.w) X.A X.env X.xe) (hc : X.calm = true)
    (h : VE X c S iter fun d S1 => ∃ ds, d = .lst ds ∧ ∃ W : Nat → State → Prop, W 0 S1 ∧ (∀ i d S, ds[i]? = some d → W i S → VG X c S tg d fun S2 => VSs X c S2 body { nx := W (i + 1), ct := W (i + 1), bk := E.nx, rt := E.rt }) ∧ ∀ S, W ds.length S → E.nx S)
    (hs : ∀ x, foldedSetIterable iter X.env x = pure x := by intro _; rfl) : VS X c S (.For tg iter body [] pos) E := fun σ G H hd => by
  refine tS_of (ps_for hp hc (pi_list pe_sem) pg_sem pss_sem hs) (tE_mono (h σ G H hd) fun v H1 ⟨d, S1, G1, h1, s1, r1, ds, e, W, w0, turn, fin⟩ => ?_)
  subst e
  obtain ⟨a, vs, e1, hv, rv⟩ := rep_lst r1
  subst e1
  refine ⟨a, rfl, ⟨vs, .inl (.inl (h1.sub _ _ hv))⟩, for_list (K := X.K) (a := a) (xs := vs) (fun i σ H => ∃ S' G', HdX X c S' σ G' H ∧ Same G1 G' ∧ W i S') ⟨S1, G1, h1, Same.refl _, w0⟩
    (fun i σ H _ ⟨S', G', h2, s2, _⟩ => .inl (.inl (h2.sub _ _ (s2 _ _ hv)))) ?_ ?_⟩
  · intro i x σ' H' hi ⟨S', G', h2, s2, w⟩
    obtain ⟨d, hd', rd⟩ := rv.getV hi
    refine tG_mono (turn i d S' hd' w σ' G' H' x h2 (rd.mono s2)) fun σ2 H2 ⟨S2, G2, h3, s3, q⟩ => ?_
    refine tSs_mono (q σ2 G2 H2 h3) (fun _ _ ⟨S3, G3, h4, s4, w⟩ => ⟨S3, G3, h4, s2.trans (s3.trans s4), w⟩) (fun _ _ ⟨d, S3, σ3, G3, h4, s4, p⟩ => ⟨d, S3, σ3, G3, h4, s1.trans (s2.trans (s3.trans s4)), p⟩)
      (fun _ _ ⟨S3, G3, h4, s4, p⟩ => ⟨S3, G3, h4, s1.trans (s2.trans (s3.trans s4)), p⟩) (fun _ _ ⟨S3, G3, h4, s4, w⟩ => ⟨S3, G3, h4, s2.trans (s3.trans s4), w⟩)
  · intro σ' H' ⟨S', G', h2, s2, w⟩
    rw [rv.length] at w
    exact ⟨S', G', h2, s1.trans s2, fin S' w⟩
theorem vs_forT {tg iter : Expr} {body : List Stmt} (hp : PassesOwn (model X.prog X.w) X.A X.env X.xe) (hc : X.calm = true)
    (h : VE X c S iter fun d S1 => ∃ ds, d = .tup ds ∧ ∃ W : Nat → State → Prop, W 0 S1 ∧ (∀ i d S, ds[i]? = some d → W i S → VG X c S tg d fun S2 => VSs X c S2 body { nx := W (i + 1), ct := W (i + 1), bk := E.nx, rt := E.rt }) ∧ ∀ S, W ds.length S → E.nx S)
    (hs : ∀ x, foldedSetIterable iter X.env x = pure x := by intro _; rfl) : VS X c S (.For tg iter body [] pos) E := fun σ G H hd => by
  refine tS_of (ps_for hp hc (pi_tup pe_sem) pg_sem pss_sem hs) (tE_mono (h σ G H hd) fun v H1 ⟨d, S1, G1, h1, s1, r1, ds, e, W, w0, turn, fin⟩ => ?_)
  subst e
  obtain ⟨a, vs, e1, hv, rv⟩ := rep_tup r1
  subst e1
  refine ⟨a, rfl, ⟨vs, .inl (.inl (h1.sub _ _ hv))⟩, for_tup (K := X.K) (a := a) (xs := vs) (fun i σ H => ∃ S' G', HdX X c S' σ G' H ∧ Same G1 G' ∧ W i S') ⟨S1, G1, h1, Same.refl _, w0⟩
    (fun i σ H _ ⟨S', G', h2, s2, _⟩ => .inl (.inl (h2.sub _ _ (s2 _ _ hv)))) ?_ ?_⟩
  · intro i x σ' H' hi ⟨S', G', h2, s2, w⟩
    obtain ⟨d, hd', rd⟩ := rv.getV hi
    refine tG_mono (turn i d S' hd' w σ' G' H' x h2 (rd.mono s2)) fun σ2 H2 ⟨S2, G2, h3, s3, q⟩ => ?_
    refine tSs_mono (q σ2 G2 H2 h3) (fun _ _ ⟨S3, G3, h4, s4, w⟩ => ⟨S3, G3, h4, s2.trans (s3.trans s4), w⟩) (fun _ _ ⟨d, S3, σ3, G3, h4, s4, p⟩ => ⟨d, S3, σ3, G3, h4, s1.trans (s2.trans (s3.trans s4)), p⟩)
      (fun _ _ ⟨S3, G3, h4, s4, p⟩ => ⟨S3, G3, h4, s1.trans (s2.trans (s3.trans s4)), p⟩) (fun _ _ ⟨S3, G3, h4, s4, w⟩ => ⟨S3, G3, h4, s2.trans (s3.trans s4), w⟩)
  · intro σ' H' ⟨S', G', h2, s2, w⟩
    rw [rv.length] at w
    exact ⟨S', G', h2, s1.trans s2, fin S' w⟩
theorem vs_forR1 {tg a : Expr} {body : List Stmt} {p pos2 : Pos} (hp : PassesOwn (model X.prog X.w) X.A X.env X.xe) (hc : X.calm = true) (hm : X.mg "range" = none)
    (h : VE X c S a fun d S1 => ∃ n : Int, d = .int n ∧ -(2 ^ 62) ≤ n ∧ n < 2 ^ 62 ∧ ∃ W : Nat → State → Prop, W 0 S1 ∧ (∀ (i : Nat) S, (i : Int) < n → W i S → VG X c S tg (.int i) fun S2 => VSs X c S2 body { nx := W (i + 1), ct := W (i + 1), bk := E.nx, rt := E.rt }) ∧ ∀ S, W n.toNat S → E.nx S)
    (hg : Gl X "range" := by rfl) (hs : ∀ x, foldedSetIterable (.Call (.Name "range" p) [a] [] pos2) X.env x = pure x := by intro _; rfl) (hst : starEach [a] X.env = [(false, eval a X.env)] := by rfl) : VS X c S (.For tg (.Call (.Name "range" p) [a] [] pos2) body [] pos) E := fun σ G H hd => by
  refine tS_of (ps_for hp hc (pi_range1 hg hm (pa_cons pe_sem pa_nil hst) hst) pg_sem pss_sem hs) (tE_mono (h σ G H hd) fun v H1 ⟨d, S1, G1, h1, s1, r1, n, e, l1, l2, W, w0, turn, fin⟩ => ?_)
  subst e
  rw [rep_int r1]
  refine ⟨n, rfl, l1, l2, for_range (lo := 0) (n := n.toNat) (fun i σ H => ∃ S' G', HdX X c S' σ G' H ∧ Same G1 G' ∧ W i S') ⟨S1, G1, h1, Same.refl _, w0⟩ ?_ ?_⟩
  · intro i σ' H' hi ⟨S', G', h2, s2, w⟩
    rw [Int.zero_add]
    refine tG_mono (turn i S' (by omega) w σ' G' H' _ h2 .int) fun σ2 H2 ⟨S2, G2, h3, s3, q⟩ => ?_
    refine tSs_mono (q σ2 G2 H2 h3) (fun _ _ ⟨S3, G3, h4, s4, w⟩ => ⟨S3, G3, h4, s2.trans (s3.trans s4), w⟩) (fun _ _ ⟨d, S3, σ3, G3, h4, s4, p⟩ => ⟨d, S3, σ3, G3, h4, s1.trans (s2.trans (s3.trans s4)), p⟩)
      (fun _ _ ⟨S3, G3, h4, s4, p⟩ => ⟨S3, G3, h4, s1.trans (s2.trans (s3.trans s4)), p⟩) (fun _ _ ⟨S3, G3, h4, s4, w⟩ => ⟨S3, G3, h4, s2.trans (s3.trans s4), w⟩)
  · intro σ' H' ⟨S', G', h2, s2, w⟩
    exact ⟨S', G', h2, s1.trans s2, fin S' w⟩
end
end VL
set_option Elab.async false
set_option linter.all false
set_option maxRecDepth 100000
set_option maxHeartbeats 4000000
/-! VL5: built-in calls, fields, subscripts, one's own lists, new instances, methods. -/
namespace VL
open PySem PySem.Spec PyProof.Rows L2

section
variable {X : Cx} {c : Cv} {S : State} {e a b : Expr} {es : List Expr} {st : Stmt} {sts : List Stmt} {σ : L2.St} {G G' H : Hp} {pos : Pos} {Q : D → State → Prop} {QT : Bool → State → Prop} {E : VD}
/-! ### calls of built-ins by their rules -/
def RC (X : Cx) (c : Cv) (S : State) (r : List V → Hp → VK → Prop) (ds : List D) (Q : D → State → Prop) : Prop :=
  ∀ σ G H vs, HdX X c S σ G H → Reps X.K X.mg G vs ds → ∀ R : VK, (∀ z H', pE X c σ G Q z H' → R z H') → r vs H R
theorem ve_callB {x : Str} {id : String} {r : List V → Hp → VK → Prop} {p : Pos} (hc : CallR X (.builtin id) r) (hm : X.mg x = none) (hv : bootBuiltins x = some (.builtin id)) (h : VA X c S (e :: es) fun ds S1 => RC X c S1 r ds Q) (hg : Gl X x := by rfl)
    (hn : x ≠ "__name__" := by decide) (hdb : (x == ("__debug__" : Str)) = false := by decide) (he : starEach (e :: es) X.env = (false, eval e X.env) :: starEach es X.env := by rfl) (hpl : (backTo pos (starEach es X.env)).any (·.1) = false := by rfl) :
    VE X c S (.Call (.Name x p) (e :: es) [] pos) Q := fun σ G H hd => by
  refine tE_of (pe_callB hc hg hm hv pa_sem hn hdb he hpl) (tA_mono (h σ G H hd) fun vs H1 ⟨ds, S1, G1, h1, s1, r1, q1⟩ => ?_)
  exact q1 σ G1 H1 vs h1 r1 _ fun z H' p => pE_back s1 p
theorem ve_callTy {x : Str} {T : String} {r : List V → Hp → VK → Prop} {p : Pos} (hc : CallR X (.type T) r) (hm : X.mg x = none) (hv : bootBuiltins x = some (.type T)) (h : VA X c S (e :: es) fun ds S1 => RC X c S1 r ds Q) (hg : Gl X x := by rfl)
    (hn : x ≠ "__name__" := by decide) (hdb : (x == ("__debug__" : Str)) = false := by decide) (he : starEach (e :: es) X.env = (false, eval e X.env) :: starEach es X.env := by rfl) (hpl : (backTo pos (starEach es X.env)).any (·.1) = false := by rfl) :
    VE X c S (.Call (.Name x p) (e :: es) [] pos) Q := fun σ G H hd => by
  refine tE_of (pe_callTy hc hg hm hv pa_sem hn hdb he hpl) (tA_mono (h σ G H hd) fun vs H1 ⟨ds, S1, G1, h1, s1, r1, q1⟩ => ?_)
  exact q1 σ G1 H1 vs h1 r1 _ fun z H' p => pE_back s1 p
theorem reps1 {K : PySem.W.Frag} {mg : Str → Option Value} {vs : List V} {d : D} (r : Reps K mg G vs [d]) : ∃ v, vs = [v] ∧ Rep K mg G v d := by
  cases r with
  | cons r t => cases t; exact ⟨_, rfl, r⟩
theorem reps2 {K : PySem.W.Frag} {mg : Str → Option Value} {vs : List V} {d1 d2 : D} (r : Reps K mg G vs [d1, d2]) : ∃ v1 v2, vs = [v1, v2] ∧ Rep K mg G v1 d1 ∧ Rep K mg G v2 d2 := by
  cases r with
  | cons r t =>
    obtain ⟨v2, rfl, r2⟩ := reps1 t
    exact ⟨_, _, rfl, r, r2⟩
theorem rc_abs {i : Int} (q : Q (.int (i.natAbs : Int)) S) : RC X c S (fun xs H Q => ∃ i, xs = [.int i] ∧ Q (.int (if i < 0 then -i else i)) H) [.int i] Q := fun σ G H vs hd r R hR => by
  obtain ⟨v, rfl, rv⟩ := reps1 r
  refine ⟨i, by rw [rep_int rv], hR _ _ ?_⟩
  have e : (if i < 0 then -i else i) = (i.natAbs : Int) := by omega
  rw [e]
  exact pE_ret hd .int q
theorem ve_abs {p : Pos} (hm : X.mg "abs" = none) (h : VE X c S a fun d S1 => ∃ i, d = .int i ∧ Q (.int (i.natAbs : Int)) S1) (hg : Gl X "abs" := by rfl) (he : starEach [a] X.env = [(false, eval a X.env)] := by rfl) : VE X c S (.Call (.Name "abs" p) [a] [] pos) Q :=
  ve_callB call_abs hm (by decide +kernel) (va_cons (h.imp fun d S1 ⟨i, ei, q⟩ => va_nil (by subst ei; exact rc_abs q)) he) hg (by decide) (by decide) he rfl
/-- int(n), int(flag) -/
theorem ve_intOf {p : Pos} (hm : X.mg "int" = none) (h : VE X c S a fun d S1 => (∃ i, d = .int i ∧ Q (.int i) S1) ∨ ∃ k : Bool, d = .bl k ∧ Q (.int (if k then 1 else 0)) S1) (hg : Gl X "int" := by rfl) (he : starEach [a] X.env = [(false, eval a X.env)] := by rfl) : VE X c S (.Call (.Name "int" p) [a] [] pos) Q :=
  ve_callTy call_int1 hm (by decide +kernel) (va_cons (h.imp fun d S1 q => va_nil fun σ G H vs hd r R hR => by
    obtain ⟨v, rfl, rv⟩ := reps1 r
    rcases q with ⟨i, ei, q⟩ | ⟨k, ek, q⟩
    · subst ei; exact .inl ⟨i, by rw [rep_int rv], hR _ _ (pE_ret hd .int q)⟩
    · subst ek; exact .inr ⟨k, by rw [rep_bl rv], hR _ _ (pE_ret hd .int q)⟩) he) hg (by decide) (by decide) he rfl
/-- len -/
def lenP : D → (Nat → Prop) → Prop
  | .lst ds, k => k ds.length
  | .tup ds, k => k ds.length
  | .str z, k => z.length ≤ sizeLine ∧ k z.length
  | .scr ds, k => k ds.length
  | _, _ => False
theorem ve_len {p : Pos} (hm : X.mg "len" = none) (h : VE X c S a fun d S1 => lenP d fun n => Q (.int (n : Int)) S1) (hg : Gl X "len" := by rfl) (he : starEach [a] X.env = [(false, eval a X.env)] := by rfl) : VE X c S (.Call (.Name "len" p) [a] [] pos) Q :=
  ve_callB call_len hm boot_len (va_cons (h.imp fun d S1 q => va_nil fun σ G H vs hd r R hR => by
    obtain ⟨v, rfl, rv⟩ := reps1 r
    cases d with
    | lst ds =>
      obtain ⟨p, xs, e1, h1, r1⟩ := rep_lst rv
      subst e1
      exact ⟨_, ds.length, rfl, .inl ⟨xs, .inl (.inl (hd.sub _ _ h1)), by rw [r1.length]⟩, hR _ _ (pE_ret hd .int q)⟩
    | tup ds =>
      obtain ⟨p, xs, e1, h1, r1⟩ := rep_tup rv
      subst e1
      exact ⟨_, ds.length, rfl, .inr ⟨xs, .inl (.inl (hd.sub _ _ h1)), by rw [r1.length]⟩, hR _ _ (pE_ret hd .int q)⟩
    | scr ds =>
      cases rv with
      | scr h1 r1 => exact ⟨_, ds.length, rfl, .inl ⟨_, hd.sub.seq h1, by rw [r1.length]⟩, hR _ _ (pE_ret hd .int q)⟩
    | str z => exact ⟨.str z, z.length, by rw [rep_str rv], ⟨q.1, rfl⟩, hR _ _ (pE_ret hd .int q.2)⟩
    | _ => exact q.elim) he) hg (by decide) (by decide) he rfl
/-- len of one's own list -/
theorem ve_lenOwn (i : Nat) {x : Str} {p pos2 : Pos} {ds : List D} (hm : X.mg "len" = none) (hρ : S.ρ[i]? = some (.own ds)) (q : Q (.int (ds.length : Int)) S) (hN : X.N[i]? = some x := by rfl) (hv : Vis X.env.scope x := by first | exact Or.inl rfl | exact Or.inr (Or.inl rfl) | exact Or.inr (Or.inr rfl))
    (hd : (x == ("__debug__" : Str)) = false := by decide) (hcd : (x == ("__classdict__" : Str)) = false := by decide) (hg : Gl X "len" := by rfl) (he : starEach [.Name x pos2] X.env = [(false, eval (.Name x pos2) X.env)] := by rfl) : VE X c S (.Call (.Name "len" p) [.Name x pos2] [] pos) Q := fun σ G H h => by
  obtain ⟨o, e1, l, vs, e2, hl, gl, r, _⟩ := h.slots i _ hρ
  subst e2
  refine tE_of (pe_callB call_len hg hm boot_len (pa_cons (pv i hN hv hd hcd) pa_nil he) (by decide) (by decide) he rfl) ⟨_, e1, _, ds.length, rfl, .inl ⟨vs, .inl (.inl hl), by rw [r.length]⟩, pE_ret h .int q⟩
theorem ve_min2 {p : Pos} (hm : X.mg "min" = none) (hc : X.calm = true) (h : VA X c S [a, b] fun ds S1 => ∃ i j : Int, ds = [.int i, .int j] ∧ Q (.int (if j < i then j else i)) S1) (hg : Gl X "min" := by rfl) (he : starEach [a, b] X.env = (false, eval a X.env) :: starEach [b] X.env := by rfl) (hpl : (backTo pos (starEach [b] X.env)).any (·.1) = false := by rfl) : VE X c S (.Call (.Name "min" p) [a, b] [] pos) Q :=
  ve_callB (call_min2 hc) hm (by decide +kernel) (fun σ G H hd => tA_mono (h σ G H hd) fun vs H1 ⟨ds, S1, G1, h1, s1, r1, i, j, e, q⟩ => ⟨ds, S1, G1, h1, s1, r1, by
    subst e
    intro σ G H vs hd r R hR
    obtain ⟨v1, v2, rfl, rv1, rv2⟩ := reps2 r
    exact ⟨i, j, by rw [rep_int rv1, rep_int rv2], hR _ _ (pE_ret hd .int q)⟩⟩) hg (by decide) (by decide) he hpl
theorem ve_max2 {p : Pos} (hm : X.mg "max" = none) (hc : X.calm = true) (h : VA X c S [a, b] fun ds S1 => ∃ i j : Int, ds = [.int i, .int j] ∧ Q (.int (if j > i then j else i)) S1) (hg : Gl X "max" := by rfl) (he : starEach [a, b] X.env = (false, eval a X.env) :: starEach [b] X.env := by rfl) (hpl : (backTo pos (starEach [b] X.env)).any (·.1) = false := by rfl) : VE X c S (.Call (.Name "max" p) [a, b] [] pos) Q :=
  ve_callB (call_max2 hc) hm (by decide +kernel) (fun σ G H hd => tA_mono (h σ G H hd) fun vs H1 ⟨ds, S1, G1, h1, s1, r1, i, j, e, q⟩ => ⟨ds, S1, G1, h1, s1, r1, by
    subst e
    intro σ G H vs hd r R hR
    obtain ⟨v1, v2, rfl, rv1, rv2⟩ := reps2 r
    exact ⟨i, j, by rw [rep_int rv1, rep_int rv2], hR _ _ (pE_ret hd .int q)⟩⟩) hg (by decide) (by decide) he hpl
/-- all(list of bools) -/
theorem reps_bls {K : PySem.W.Frag} {mg : Str → Option Value} : ∀ {vs : List V} {bs : List Bool}, Reps K mg G vs (bs.map D.bl) → vs = bs.map V.bl
  | _, [], .nil => rfl
  | _, b :: bs, .cons h r => by
    cases h
    rw [reps_bls r]
    rfl
theorem ve_all {p : Pos} (hm : X.mg "all" = none) (hc : X.calm = true) (h : VE X c S a fun d S1 => ∃ bs : List Bool, d = .lst (bs.map D.bl) ∧ Q (.bl (bs.all id)) S1) (hg : Gl X "all" := by rfl) (he : starEach [a] X.env = [(false, eval a X.env)] := by rfl) : VE X c S (.Call (.Name "all" p) [a] [] pos) Q :=
  ve_callB (cr_all hc) hm (by decide +kernel) (va_cons (h.imp fun d S1 ⟨bs, e, q⟩ => va_nil fun σ G H vs hd r R hR => by
    subst e
    obtain ⟨v, rfl, rv⟩ := reps1 r
    obtain ⟨p, xs, e1, h1, r1⟩ := rep_lst rv
    subst e1
    exact ⟨p, bs, rfl, by rw [← reps_bls r1]; exact .inl (.inl (hd.sub _ _ h1)), hR _ _ (pE_ret hd .bl q)⟩) he) hg (by decide) (by decide) he rfl
theorem ve_any {p : Pos} (hm : X.mg "any" = none) (hc : X.calm = true) (h : VE X c S a fun d S1 => ∃ bs : List Bool, d = .lst (bs.map D.bl) ∧ Q (.bl (bs.any id)) S1) (hg : Gl X "any" := by rfl) (he : starEach [a] X.env = [(false, eval a X.env)] := by rfl) : VE X c S (.Call (.Name "any" p) [a] [] pos) Q :=
  ve_callB (cr_any hc) hm (by decide +kernel) (va_cons (h.imp fun d S1 ⟨bs, e, q⟩ => va_nil fun σ G H vs hd r R hR => by
    subst e
    obtain ⟨v, rfl, rv⟩ := reps1 r
    obtain ⟨p, xs, e1, h1, r1⟩ := rep_lst rv
    subst e1
    exact ⟨p, bs, rfl, by rw [← reps_bls r1]; exact .inl (.inl (hd.sub _ _ h1)), hR _ _ (pE_ret hd .bl q)⟩) he) hg (by decide) (by decide) he rfl
/-- list(x), tuple(x) -/
def seqP : D → (List D → Prop) → Prop
  | .lst ds, k => k ds
  | .tup ds, k => k ds
  | _, _ => False
theorem ve_listOf {p : Pos} (hm : X.mg "list" = none) (h : VE X c S a fun d S1 => seqP d fun ds => Q (.lst ds) S1) (hg : Gl X "list" := by rfl) (he : starEach [a] X.env = [(false, eval a X.env)] := by rfl) : VE X c S (.Call (.Name "list" p) [a] [] pos) Q :=
  ve_callTy call_list_of hm (by decide +kernel) (va_cons (h.imp fun d S1 q => va_nil fun σ G H vs hd r R hR => by
    obtain ⟨v, rfl, rv⟩ := reps1 r
    cases d with
    | lst ds =>
      obtain ⟨p, xs, e1, h1, r1⟩ := rep_lst rv
      subst e1
      exact ⟨p, xs, rfl, .inl (.inl (.inl (hd.sub _ _ h1))), fun l hl => hR _ _ (pE_new hd hl (.lst upd_same (r1.mono (same_upd (hd.sub.free hl))) (lst_len rv)) q)⟩
    | tup ds =>
      obtain ⟨p, xs, e1, h1, r1⟩ := rep_tup rv
      subst e1
      exact ⟨p, xs, rfl, .inr (.inl (.inl (hd.sub _ _ h1))), fun l hl => hR _ _ (pE_new hd hl (.lst upd_same (r1.mono (same_upd (hd.sub.free hl))) (tup_len rv)) q)⟩
    | _ => exact q.elim) he) hg (by decide) (by decide) he rfl
theorem ve_tupleOf {p : Pos} (hm : X.mg "tuple" = none) (h : VE X c S a fun d S1 => seqP d fun ds => Q (.tup ds) S1) (hg : Gl X "tuple" := by rfl) (he : starEach [a] X.env = [(false, eval a X.env)] := by rfl) : VE X c S (.Call (.Name "tuple" p) [a] [] pos) Q :=
  ve_callTy call_tuple_of hm (by decide +kernel) (va_cons (h.imp fun d S1 q => va_nil fun σ G H vs hd r R hR => by
    obtain ⟨v, rfl, rv⟩ := reps1 r
    cases d with
    | lst ds =>
      obtain ⟨p, xs, e1, h1, r1⟩ := rep_lst rv
      subst e1
      exact ⟨p, xs, rfl, .inl ⟨.inl (.inl (hd.sub _ _ h1)), fun l hl => hR _ _ (pE_new hd hl (.tup upd_same (r1.mono (same_upd (hd.sub.free hl))) (lst_len rv)) q)⟩⟩
    | tup ds =>
      obtain ⟨p, xs, e1, h1, r1⟩ := rep_tup rv
      subst e1
      exact ⟨p, xs, rfl, .inr ⟨.inl (.inl (hd.sub _ _ h1)), hR _ _ (pE_ret hd rv q)⟩⟩
    | _ => exact q.elim) he) hg (by decide) (by decide) he rfl

/-! ### fields of instances -/
def fget : List Str → List D → Str → Option D
  | k :: ks, d :: ds, f => if f = k then some d else fget ks ds f
  | _, _, _ => none
theorem fget_rep {K : PySem.W.Frag} {mg : Str → Option Value} : ∀ {fs : List (Str × V)} {ks : List Str} {ds : List D} {f : Str} {d : D}, fs.map (·.1) = ks → Reps K mg G (fs.map (·.2)) ds → fget ks ds f = some d → ∃ v, fs.lookup f = some v ∧ Rep K mg G v d
  | [], _, _, _, _, e, r, h => by
    subst e
    cases r
    cases h
  | (k, v) :: fs, _, _, f, d, e, r, h => by
    subst e
    cases r with
    | @cons _ d0 _ ds0 r1 r2 =>
      have h' : (if f = k then some d0 else fget (fs.map (·.1)) ds0 f) = some d := h
      by_cases q : f = k
      · rw [if_pos q] at h'
        cases h'
        exact ⟨v, by rw [q]; simp [List.lookup], r1⟩
      · rw [if_neg q] at h'
        obtain ⟨v', h1, h2⟩ := fget_rep rfl r2 h'
        have qb : (f == k) = false := by simpa using q
        exact ⟨v', by simp [List.lookup, qb, h1], h2⟩
theorem flook_none : ∀ {fs : List (Str × V)} {m : Str}, m ∉ fs.map (·.1) → fs.lookup m = none
  | [], _, _ => rfl
  | (k, v) :: fs, m, h => by
    have h1 : ¬ m = k := fun z => h (by rw [z]; exact List.mem_cons_self)
    have qb : (m == k) = false := by simpa using h1
    show (match m == k with | true => some v | false => fs.lookup m) = none
    rw [qb]
    exact flook_none fun z => h (List.mem_cons_of_mem _ z)
/-- the class called so is plain, and has no attribute f of its own -/
def ClsF (K : PySem.W.Frag) (mg : Str → Option Value) (cn f : Str) : Prop := ∀ C, mg cn = some (.ref C) → Cls K C ∧ NoAttr K C f
theorem ve_fld {f : Str} (h : VE X c S a fun d S1 => ∃ cn ks ds v, d = .ins cn ks ds ∧ ClsF X.K X.mg cn f ∧ fget ks ds f = some v ∧ Q v S1) (hb : attributeBase a f X.env (eval a X.env) = eval a X.env := by rfl) : VE X c S (.Attribute a f pos) Q := fun σ G H hd => by
  refine tE_of (pe_fld pe_sem hb) (tE_mono (h σ G H hd) fun v H1 ⟨d, S1, G1, h1, s1, r, cn, ks, ds, w, e, cl, fg, q⟩ => ?_)
  subst e
  cases r with
  | @ins a C dx fs _ _ _ m1 m2 m3 m4 =>
    obtain ⟨u, l1, l2⟩ := fget_rep m3 m4 fg
    exact ⟨a, C, dx, fs, u, rfl, h1.sub _ _ m2, (cl C m1).1, (cl C m1).2, l1, pE_back s1 (pE_ret h1 l2 q)⟩
/-! ### subscripts -/
def ixP : D → D → (D → Prop) → Prop
  | .lst ds, .int i, k => ∃ d, atI ds i = some d ∧ k d
  | .tup ds, .int i, k => ∃ d, atI ds i = some d ∧ k d
  | .scr ds, .int i, k => ∃ d, atI ds i = some d ∧ k d
  | .str z, .int i, k => z.length ≤ sizeLine ∧ ∃ ch, atI z.cps.toList i = some ch ∧ k (.str ⟨#[ch]⟩)
  | _, _, _ => False
theorem reps_atI {K : PySem.W.Frag} {mg : Str → Option Value} {vs : List V} {ds : List D} {i : Int} {d : D} (r : Reps K mg G vs ds) (h : atI ds i = some d) : ∃ v, atI vs i = some v ∧ Rep K mg G v d := by
  unfold atI at h ⊢
  rw [r.length]
  obtain ⟨j, h1, h2⟩ := Option.bind_eq_some_iff.mp h
  obtain ⟨v, h3, h4⟩ := r.get h2
  exact ⟨v, by rw [h1]; exact h3, h4⟩
theorem ve_ix (h : VE X c S a fun x S1 => VE X c S1 b fun y S2 => ixP x y fun d => Q d S2) (hs : PlainIx b := by exact fun _ _ => rfl) : VE X c S (.Subscript a b pos) Q := fun σ G H hd => by
  refine tE_of (pe_ix (ix_list.or (ix_tup.or ix_str)) pe_sem pe_sem hs) (tE_mono (h σ G H hd) fun u H1 ⟨x, S1, G1, h1, s1, r1, q1⟩ => tE_mono (q1 σ G1 H1 h1) fun v H2 ⟨y, S2, G2, h2, s2, r2, q2⟩ => ?_)
  cases x with
  | lst ds =>
    cases y with
    | int i =>
      obtain ⟨d, e, q⟩ := q2
      obtain ⟨p, xs, e1, h3, r3⟩ := rep_lst r1
      obtain ⟨w, e4, r4⟩ := reps_atI r3 e
      exact .inl ⟨p, xs, i, w, e1, rep_int r2, .inl (.inl (h2.sub _ _ (s2 _ _ h3))), e4, pE_back (s1.trans s2) (pE_ret h2 (r4.mono s2) q)⟩
    | _ => exact q2.elim
  | tup ds =>
    cases y with
    | int i =>
      obtain ⟨d, e, q⟩ := q2
      obtain ⟨p, xs, e1, h3, r3⟩ := rep_tup r1
      obtain ⟨w, e4, r4⟩ := reps_atI r3 e
      exact .inr (.inl ⟨p, xs, i, w, e1, rep_int r2, .inl (.inl (h2.sub _ _ (s2 _ _ h3))), e4, pE_back (s1.trans s2) (pE_ret h2 (r4.mono s2) q)⟩)
    | _ => exact q2.elim
  | scr ds =>
    cases y with
    | int i =>
      obtain ⟨d, e, q⟩ := q2
      cases r1 with
      | @scr p xs _ h3 r3 =>
        obtain ⟨w, e4, r4⟩ := reps_atI r3 e
        exact .inl ⟨p, xs, i, w, rfl, rep_int r2, h2.sub.seq (s2.seq h3), e4, pE_back (s1.trans s2) (pE_ret h2 (r4.mono s2) q)⟩
    | _ => exact q2.elim
  | str z =>
    cases y with
    | int i =>
      obtain ⟨l, ch, e, q⟩ := q2
      exact .inr (.inr ⟨z, i, ch, rep_str r1, rep_int r2, l, e, pE_back (s1.trans s2) (pE_ret h2 .str q)⟩)
    | _ => exact q2.elim
  | _ => cases y <;> exact q2.elim
/-- an item of one's own list -/
theorem ve_ixOwn (i : Nat) {x : Str} {pos2 : Pos} {ds : List D} (hρ : S.ρ[i]? = some (.own ds)) (h : VE X c S b fun y S2 => S2.ρ[i]? = some (.own ds) ∧ ∃ j d, y = .int j ∧ atI ds j = some d ∧ Q d S2) (hs : PlainIx b := by exact fun _ _ => rfl)
    (hN : X.N[i]? = some x := by rfl) (hv : Vis X.env.scope x := by first | exact Or.inl rfl | exact Or.inr (Or.inl rfl) | exact Or.inr (Or.inr rfl)) (hd : (x == ("__debug__" : Str)) = false := by decide) (hcd : (x == ("__classdict__" : Str)) = false := by decide) : VE X c S (.Subscript (.Name x pos2) b pos) Q := fun σ G H hh => by
  obtain ⟨o, e1, l, vs, e2, hl, gl, r, _⟩ := hh.slots i _ hρ
  subst e2
  refine tE_of (pe_ix ix_list (pv i hN hv hd hcd) pe_sem hs) ⟨_, e1, tE_mono (h σ G H hh) fun v H2 ⟨y, S2, G2, h2, s2, r2, hρ2, j, d, ey, e, q⟩ => ?_⟩
  subst ey
  obtain ⟨o', e1', l', vs', e2', hl', gl', r', _⟩ := h2.slots i _ hρ2
  rw [e1] at e1'
  cases e1'
  cases e2'
  obtain ⟨w, e4, r4⟩ := reps_atI r' e
  exact ⟨l, vs', j, w, rfl, rep_int r2, .inl (.inl hl'), e4, pE_back s2 (pE_ret h2 r4 q)⟩
/-! ### append to one's own list -/
theorem vs_append (i : Nat) {x : Str} {pos2 apos cpos : Pos} {ds : List D} (hρ : S.ρ[i]? = some (.own ds)) (ht : c.top = true) (h : VE X c S a fun d S2 => S2.ρ[i]? = some (.own ds) ∧ ds.length < sizeLine ∧ E.nx (S2.put i (.own (ds ++ [d]))))
    (hN : X.N[i]? = some x := by rfl) (hv : Vis X.env.scope x := by first | exact Or.inl rfl | exact Or.inr (Or.inl rfl) | exact Or.inr (Or.inr rfl)) (hd : (x == ("__debug__" : Str)) = false := by decide) (hcd : (x == ("__classdict__" : Str)) = false := by decide)
    (hstar : starEach [a] X.env = [(false, eval a X.env)] := by rfl) (hs : swapsWith (.Call (.Attribute (.Name x pos2) "append" apos) [a] [] cpos) none pos.line X.env = pure false := by rfl)
    (hbase : attributeBase (.Name x pos2) "append" X.env (eval (.Name x pos2) X.env) = eval (.Name x pos2) X.env := by rfl)
    (hfew : ((backTo cpos (starEach [a] X.env)).all (fun x => !x.1) && (backToKw cpos (keywordEach [] X.env)).all (fun x => x.1.isSome) && decide ([a].length + ([] : List Keyword).length + (if ([] : List Keyword).isEmpty then 0 else 1) < 30)) = true := by rfl)
    (hline : (apos.endLine == cpos.line) = true := by rfl) :
    VS X c S (.Expr (.Call (.Attribute (.Name x pos2) "append" apos) [a] [] cpos) pos) E := fun σ G H hh => by
  obtain ⟨o, e1, l, vs, e2, hl, gl, r, _⟩ := hh.slots i _ hρ
  subst e2
  refine tS_of (ps_expr (pe_bm PySem.F.plainAttrs_list PySem.F.slot_list_append PySem.F.type_list_append mt_append (pv i hN hv hd hcd) (pa_cons pe_sem pa_nil hstar) hbase hfew hline hstar rfl) hs) ?_
  refine ⟨_, e1, .inl ⟨rfl, vs, .inl (.inl hl)⟩, tE_mono (h σ G H hh) fun v H2 ⟨d, S2, G2, h2, s2, r2, hρ2, hz, q⟩ => ?_⟩
  obtain ⟨o', e1', l', vs', e2', hl', gl', r', _⟩ := h2.slots i _ hρ2
  rw [e1] at e1'
  cases e1'
  cases e2'
  exact ⟨l, vs', v, rfl, rfl, hl', by rw [r'.length]; exact hz, _, G2, h2.mut hρ2 ht e1 (r'.append (.cons r2 .nil)) (by rw [List.length_append]; exact hz), s2, q⟩
end
end VL
set_option Elab.async false
set_option linter.all false
set_option maxRecDepth 100000
set_option maxHeartbeats 4000000
/-! VL6: the operators together, by the shapes of their operands. -/
namespace VL
open PySem PySem.Spec PyProof.Rows L2

section
variable {X : Cx} {c : Cv} {S : State} {e a b : Expr} {es : List Expr} {σ : L2.St} {G G' H : Hp} {pos : Pos} {Q : D → State → Prop} {QT : Bool → State → Prop}
/-! ### + -/
abbrev rAddI : R2 := rI0 fun i j => .int (i + j)
abbrev rAddS : R2 := fun x y H Q => ∃ i j, x = .str i ∧ y = .str j ∧ i.length + j.length ≤ sizeLine ∧ Q (.str (i ++ j)) H
def rAddAll (K : PySem.W.Frag) : R2 := fun x y H Q => rAddI x y H Q ∨ rAddS x y H Q ∨ rCat x y H Q ∨ rCatT K x y H Q
theorem op_addAll : OpR X (binaryOp .Add) (rAddAll X.K) := op_add.or (op_add_str.or (op_cat.or op_catT))
theorem rb_addI {i j : Int} (q : Q (.int (i + j)) S) : RB X c S (rAddAll X.K) (.int i) (.int j) Q := fun σ G H u v hd ru rv R hR => .inl ⟨i, j, rep_int ru, rep_int rv, hR _ _ (pE_ret hd .int q)⟩
theorem rb_addS {i j : Str} (hz : i.length + j.length ≤ sizeLine) (q : Q (.str (i ++ j)) S) : RB X c S (rAddAll X.K) (.str i) (.str j) Q := fun σ G H u v hd ru rv R hR => .inr (.inl ⟨i, j, rep_str ru, rep_str rv, hz, hR _ _ (pE_ret hd .str q)⟩)
/-- lists that a body made: tracked as lists, not the script -/
def NotFrz (G : Hp) (a : Addr) : Prop := ∀ o u, G a ≠ some (.frz o u)
theorem rb_addT {xs ys : List D} (hx : xs ≠ []) (hz : xs.length + ys.length ≤ sizeLine) (q : Q (.tup (xs ++ ys)) S) : RB X c S (rAddAll X.K) (.tup xs) (.tup ys) Q := fun σ G H u v hd ru rv R hR => by
  obtain ⟨p, us, e1, h1, r1⟩ := rep_tup ru
  obtain ⟨p', vs, e2, h2, r2⟩ := rep_tup rv
  subst e1; subst e2
  refine .inr (.inr (.inr ⟨p, p', us, vs, rfl, rfl, .inl (.inl (hd.sub _ _ h1)), .inl (.inl (hd.sub _ _ h2)), fun z => ?_, by rw [r1.length, r2.length]; exact hz, fun z => ?_, fun _ l hl => ?_⟩))
  · subst z
    have := r1.length
    exact hx (List.eq_nil_of_length_eq_zero this.symm)
  · subst z
    have e : ys = [] := List.eq_nil_of_length_eq_zero r2.length.symm
    subst e
    rw [List.append_nil] at q
    exact hR _ _ (pE_ret hd ru q)
  · exact hR _ _ (pE_new hd hl (.tup upd_same ((r1.append r2).mono (same_upd (hd.sub.free hl))) (by rw [List.length_append]; exact hz)) q)
theorem rb_addL {xs ys : List D} (hz : xs.length + ys.length ≤ sizeLine) (q : Q (.lst (xs ++ ys)) S) : RB X c S (rAddAll X.K) (.lst xs) (.lst ys) Q := fun σ G H u v hd ru rv R hR => by
  obtain ⟨p, us, e1, h1, r1⟩ := rep_lst ru
  obtain ⟨p', vs, e2, h2, r2⟩ := rep_lst rv
  subst e1; subst e2
  exact .inr (.inr (.inl ⟨p, p', us, vs, rfl, rfl, hd.sub _ _ h1, hd.sub _ _ h2, by rw [r1.length, r2.length]; exact hz, fun l hl => hR _ _ (pE_new hd hl (.lst upd_same ((r1.append r2).mono (same_upd (hd.sub.free hl))) (by rw [List.length_append]; exact hz)) q)⟩))
/-! ### - * // % -/
abbrev rMulI : R2 := rI (fun i j => IntMulOk i j) fun i j => .int (i * j)
theorem op_mulB : OpR X (binaryOp .Mult) rMulI := opI fun _ _ _ _ _ _ _ hc q => mul_int q hc
def rMulAll : R2 := fun x y H Q => rMulI x y H Q ∨ rRep x y H Q
theorem op_mulAll : OpR X (binaryOp .Mult) rMulAll := op_mulB.or op_rep
theorem rb_mulI {i j : Int} (hC : IntMulOk i j) (q : Q (.int (i * j)) S) : RB X c S rMulAll (.int i) (.int j) Q := fun σ G H u v hd ru rv R hR => .inl ⟨i, j, rep_int ru, rep_int rv, hC, hR _ _ (pE_ret hd .int q)⟩
theorem reps_rep {K : PySem.W.Frag} {mg : Str → Option Value} {G : Hp} {vs : List V} {ds : List D} (r : Reps K mg G vs ds) : ∀ k : Nat, Reps K mg G (List.replicate k vs).flatten (List.replicate k ds).flatten
  | 0 => .nil
  | k + 1 => by
    rw [List.replicate_succ, List.replicate_succ, List.flatten_cons, List.flatten_cons]
    exact r.append (reps_rep r k)
theorem rep_len {α : Type} (xs : List α) : ∀ k : Nat, (List.replicate k xs).flatten.length = k * xs.length
  | 0 => by simp
  | k + 1 => by
    rw [List.replicate_succ, List.flatten_cons, List.length_append, rep_len xs k, Nat.succ_mul, Nat.add_comm]
theorem rb_mulL {xs : List D} {k : Int} (h1 : -(2 ^ 63) ≤ k ∧ k < 2 ^ 63) (hz : xs.length * k.toNat ≤ sizeLine) (q : Q (.lst (List.replicate k.toNat xs).flatten) S) : RB X c S rMulAll (.lst xs) (.int k) Q := fun σ G H u v hd ru rv R hR => by
  obtain ⟨p, us, e1, h2, r1⟩ := rep_lst ru
  subst e1
  exact .inr ⟨p, k, us, rfl, rep_int rv, hd.sub _ _ h2, h1.1, h1.2, by rw [r1.length]; exact hz, fun l hl => hR _ _ (pE_new hd hl (.lst upd_same ((reps_rep r1 _).mono (same_upd (hd.sub.free hl))) (by rw [rep_len, Nat.mul_comm]; exact hz)) q)⟩
theorem rb_subI {i j : Int} (q : Q (.int (i - j)) S) : RB X c S (rI0 fun i j => .int (i - j)) (.int i) (.int j) Q := rb_int (f := fun i j => i - j) q
/-- a divisor that is no reason for _pylong: small, or not far below the dividend -/
def DivOk (i j : Int) : Prop := 0 < j ∧ Builtin.divisionGoesByPylong i j = false
abbrev rDiv : R2 := rI DivOk fun i j => .int (i / j)
theorem op_divB : OpR X (binaryOp .FloorDiv) rDiv := opI fun i j _ _ _ _ _ hc q => by
  have h1 : (0 : Int) < j := hc.1
  exact floordiv_int (by omega) (by rw [Int.fdiv_eq_ediv_of_nonneg i (by omega)]; exact q) (.inl hc.2)
def DivOkN (i j : Int) : Prop := j ≠ 0 ∧ Builtin.divisionGoesByPylong i j = false
abbrev rDivN : R2 := rI DivOkN fun i j => .int (i.fdiv j)
theorem op_divN : OpR X (binaryOp .FloorDiv) rDivN := opI fun i j _ _ _ _ _ hc q => floordiv_int hc.1 q (.inl hc.2)
theorem rb_div {i j : Int} (hC : DivOk i j) (q : Q (.int (i / j)) S) : RB X c S rDiv (.int i) (.int j) Q := rb_intC (f := fun i j => i / j) hC q
theorem rb_divN {i j : Int} (hC : DivOkN i j) (q : Q (.int (i.fdiv j)) S) : RB X c S rDivN (.int i) (.int j) Q := rb_intC (f := fun i j => i.fdiv j) hC q
theorem rb_mod {i j : Int} (hC : 0 < j) (q : Q (.int (i % j)) S) : RB X c S (rI (fun _ j => 0 < j) fun i j => .int (i % j)) (.int i) (.int j) Q := rb_intC (f := fun i j => i % j) hC q
/-! ### comparisons -/
theorem rb_lt {i j : Int} (q : Q (.bl (decide (i < j))) S) : RB X c S (rI0 fun i j => .bl (decide (i < j))) (.int i) (.int j) Q := rb_bl (f := fun i j => decide (i < j)) q
theorem rb_le {i j : Int} (q : Q (.bl (decide (i ≤ j))) S) : RB X c S (rI0 fun i j => .bl (decide (i ≤ j))) (.int i) (.int j) Q := rb_bl (f := fun i j => decide (i ≤ j)) q
theorem rb_gt {i j : Int} (q : Q (.bl (decide (j < i))) S) : RB X c S (rI0 fun i j => .bl (decide (j < i))) (.int i) (.int j) Q := rb_bl (f := fun i j => decide (j < i)) q
theorem rb_ge {i j : Int} (q : Q (.bl (decide (j ≤ i))) S) : RB X c S (rI0 fun i j => .bl (decide (j ≤ i))) (.int i) (.int j) Q := rb_bl (f := fun i j => decide (j ≤ i)) q
def rEqAll (K : PySem.W.Frag) : R2 := fun x y H Q => rEq x y H Q ∨ rEqD K x y H Q
theorem op_eqAll {k : Nat} (hr : Room k X.A) : OpR X (compareOp .Eq) (rEqAll X.K) := op_eq.or (op_eqD hr.units)
def rNeAll (K : PySem.W.Frag) : R2 := fun x y H Q => rNe x y H Q ∨ rNeD K x y H Q
theorem op_neAll {k : Nat} (hr : Room k X.A) : OpR X (compareOp .NotEq) (rNeAll X.K) := op_ne.or (op_neD hr.units)
theorem rb_eqAI {i j : Int} (k : Q (.bl (decide (i = j))) S) : RB X c S (rEqAll X.K) (.int i) (.int j) Q := (rb_eqI k).or1
theorem rb_neAI {i j : Int} (k : Q (.bl (!decide (i = j))) S) : RB X c S (rNeAll X.K) (.int i) (.int j) Q := (rb_neI k).or1
theorem rb_eqAB {i j : Bool} (k : Q (.bl (i == j)) S) : RB X c S (rEqAll X.K) (.bl i) (.bl j) Q := fun σ G H u v hd ru rv R hR => .inl (by
  rw [rep_bl ru, rep_bl rv]
  refine ⟨rfl, hR _ _ ?_⟩
  rw [dec_bl]
  exact pE_ret hd .bl k)
theorem rb_neAB {i j : Bool} (k : Q (.bl (!(i == j))) S) : RB X c S (rNeAll X.K) (.bl i) (.bl j) Q := fun σ G H u v hd ru rv R hR => .inl (by
  rw [rep_bl ru, rep_bl rv]
  refine ⟨rfl, hR _ _ ?_⟩
  rw [dec_bl]
  exact pE_ret hd .bl k)
theorem rb_eqAS {i j : Str} (k : Q (.bl (i == j)) S) : RB X c S (rEqAll X.K) (.str i) (.str j) Q := fun σ G H u v hd ru rv R hR => .inl (by
  rw [rep_str ru, rep_str rv]
  refine ⟨rfl, hR _ _ ?_⟩
  rw [dec_str]
  exact pE_ret hd .bl k)
theorem rb_eqAD {x y : D} {p q : PyData} (hx : x.toPy = some p) (hy : y.toPy = some q) (sx : SeqAt.shaped p = true) (sy : SeqAt.shaped q = true) (k : Q (.bl (PyData.eqv p q)) S) : RB X c S (rEqAll X.K) x y Q := (rb_eqD hx hy sx sy k).or2
theorem rb_neAD {x y : D} {p q : PyData} (hx : x.toPy = some p) (hy : y.toPy = some q) (sx : SeqAt.shaped p = true) (sy : SeqAt.shaped q = true) (k : Q (.bl (!PyData.eqv p q)) S) : RB X c S (rNeAll X.K) x y Q := (rb_neD hx hy sx sy k).or2
end
end VL
set_option Elab.async false
set_option linter.all false
set_option maxRecDepth 100000
set_option maxHeartbeats 4000000
/-! VL7: comprehensions, slices. -/
namespace VL
open PySem PySem.Spec PyProof.Rows L2

section
variable {K : PySem.W.Frag} {mg : Str → Option Value} {c : Cv} {S : State} {σ : L2.St} {G G' H H' : Hp}
/-- an object that is no slot's, no pen's, not frozen, may change -/
theorem Hd.aside (h : Hd K mg c S σ G H) {D : Addr} {xs ys : List V} (hD : H D = some (.lst xs)) (gD : G D = none) (h0 : c.H0 D = none) (hs : ∀ i : Nat, ownAt S.ρ i → σ[i]? ≠ some (some (.ref D))) : Hd K mg c S σ G (upd H D (.lst ys)) where
  sub := fun b u q => by rw [upd_ne (ne_of_none q gD)]; exact h.sub _ _ q
  len := h.len
  slots := fun i sl e => by
    obtain ⟨o, h1, h2⟩ := h.slots i sl e
    refine ⟨o, h1, ?_⟩
    cases sl with
    | un => trivial
    | val d => exact h2
    | own ds =>
      obtain ⟨l, vs, e1, e2, e3⟩ := h2
      have hne : l ≠ D := fun y => hs i ⟨_, e, rfl⟩ (by rw [h1, e1, y])
      exact ⟨l, vs, e1, by rw [upd_ne hne]; exact e2, e3⟩
    | obj a cc ks ds =>
      obtain ⟨C, dx, fs, e1, e2, e3, e4, e5⟩ := h2
      have ha : a ≠ D := ne_of e3 hD (fun y => nomatch y)
      have hd : dx ≠ D := ne_of e4 hD (fun y => nomatch y)
      exact ⟨C, dx, fs, e1, e2, by rw [upd_ne ha]; exact e3, by rw [upd_ne hd]; exact e4, e5⟩
  dist := h.dist
  pen := fun p r q => by
    obtain ⟨⟨cc, cells, bb, ll, p1, p4⟩, pa⟩ := h.pen p r q
    have hne : p ≠ D := ne_of p1 hD (fun y => nomatch y)
    exact ⟨⟨cc, cells, bb, ll, by rw [upd_ne hne]; exact p1, p4⟩, pa⟩
  padr := h.padr
  ext0 := h.ext0
  new0 := h.new0
  keep0 := fun b u q hp => by rw [upd_ne (ne_of_none q h0)]; exact h.keep0 _ _ q hp
  fresh := h.fresh
/-- such an object is frozen -/
theorem Hd.adopt (h : Hd K mg c S σ G H) {D : Addr} {xs : List V} (hD : H D = some (.lst xs)) (gD : G D = none) (h0 : c.H0 D = none) (hs : ∀ i : Nat, ownAt S.ρ i → σ[i]? ≠ some (some (.ref D))) : Hd K mg c S σ (upd G D (.lst xs)) H where
  sub := fun b u q => by
    by_cases z : b = D
    · subst z; rw [upd_same] at q; cases q; exact hD
    · rw [upd_ne z] at q; exact h.sub _ _ q
  len := h.len
  slots := fun i sl e => by
    obtain ⟨o, h1, h2⟩ := h.slots i sl e
    refine ⟨o, h1, ?_⟩
    have sm : Same G (upd G D (.lst xs)) := same_upd gD
    cases sl with
    | un => trivial
    | val d => exact ⟨_, h2.choose_spec.1, h2.choose_spec.2.mono sm⟩
    | own ds =>
      obtain ⟨l, vs, e1, e2, e3, e4, e5⟩ := h2
      have hne : l ≠ D := fun y => hs i ⟨_, e, rfl⟩ (by rw [h1, e1, y])
      exact ⟨l, vs, e1, e2, by rw [upd_ne hne]; exact e3, e4.mono sm, e5⟩
    | obj a cc ks ds =>
      obtain ⟨C, dx, fs, e1, e2, e3, e4, e5, e6, e7, e8⟩ := h2
      have ha : a ≠ D := ne_of e3 hD (fun y => nomatch y)
      have hd : dx ≠ D := ne_of e4 hD (fun y => nomatch y)
      exact ⟨C, dx, fs, e1, e2, e3, e4, by rw [upd_ne ha]; exact e5, by rw [upd_ne hd]; exact e6, e7, e8.mono sm⟩
  dist := h.dist
  pen := fun p r q => by
    obtain ⟨⟨cc, cells, bb, ll, p1, p2, p3, p4⟩, pa⟩ := h.pen p r q
    have hne : p ≠ D := ne_of p1 hD (fun y => nomatch y)
    exact ⟨⟨cc, cells, bb, ll, p1, by rw [upd_ne hne]; exact p2, Same.seq (same_upd gD) p3, p4⟩, pa⟩
  padr := h.padr
  ext0 := h.ext0.trans (same_upd gD)
  new0 := fun b u q => by
    by_cases z : b = D
    · subst z; exact .inr h0
    · rw [upd_ne z] at q; exact h.new0 _ _ q
  keep0 := h.keep0
  fresh := h.fresh
def blkCv (c : Cv) (G H : Hp) (pn : Pn) : Cv := ⟨G, H, pn.map (·.1), false, c.nb, c.nl, fun _ _ => False⟩
theorem Hd.rebase (h : Hd K mg c S σ G H) : Hd K mg (blkCv c G H S.pn) S σ G H :=
  ⟨h.sub, h.len, h.slots, h.dist, fun p r e => ⟨(h.pen p r e).1, .inl (by show S.pn.map (·.1) = some p; rw [e]; rfl)⟩, fun a e => by
    obtain ⟨⟨p, r⟩, h1, h2⟩ := Option.map_eq_some_iff.mp (show S.pn.map (·.1) = some a from e)
    have h2' : p = a := h2
    subst h2'
    exact ⟨r, h1⟩, Same.refl _, fun _ _ q => .inl q, fun _ _ q _ => q, fun z => nomatch z⟩
theorem Hd.blkDone {pn : Pn} (h : Hd K mg (blkCv c G H pn) S σ G' H') : After c.nb c.nl K G H pn G' H' (outPn pn S.pn) where
  sub := h.sub
  ext := h.ext0
  new := h.new0
  keep := fun a o e hne => h.keep0 a o e fun z => by
    obtain ⟨⟨p, r⟩, h1, h2⟩ := Option.map_eq_some_iff.mp (show pn.map (·.1) = some a from z)
    have h2' : p = a := h2
    subst h2'
    exact hne r h1
  pen := fun p r e => by
    cases pn with
    | none => cases e
    | some w => exact (h.pen p r e).1
  adr := by
    cases pn with
    | none => rfl
    | some w =>
      obtain ⟨p, r⟩ := w
      obtain ⟨r', q⟩ := h.padr p rfl
      show S.pn.map (·.1) = some p
      rw [q]
      rfl
/-- the slots of a block's own names forgotten -/
def wipeρ (ρ : List Sl) : List Nat → List Sl
  | [] => ρ
  | v :: vs => (wipeρ ρ vs).set v .un
theorem Hd.wiped (h : Hd K mg c S σ G H) : ∀ vs : List Nat, Hd K mg c ⟨wipeρ S.ρ vs, S.pn⟩ (wipe σ vs) G H
  | [] => h
  | v :: vs => (Hd.wiped h vs).set (i := v) (o := none) (sl := .un) trivial rfl
theorem wipe_set1 {σ : L2.St} {o : Option V} {i : Nat} : ∀ {vs : List Nat}, i ∈ vs → wipe (σ.set i o) vs = wipe σ vs
  | [], h => nomatch h
  | v :: vs, h => by
    show (wipe (σ.set i o) vs).set v none = (wipe σ vs).set v none
    by_cases q : i ∈ vs
    · rw [wipe_set1 q]
    · have hv : i = v := (List.mem_cons.mp h).resolve_right q
      subst hv
      have comm : ∀ {ws : List Nat} {σ : L2.St}, i ∉ ws → wipe (σ.set i o) ws = (wipe σ ws).set i o := by
        intro ws
        induction ws with
        | nil => intro σ _; rfl
        | cons w ws ih =>
          intro σ hw
          have h1 : i ≠ w := fun z => hw (z ▸ List.mem_cons_self)
          have h2 : i ∉ ws := fun z => hw (List.mem_cons_of_mem _ z)
          show (wipe (σ.set i o) ws).set w none = ((wipe σ ws).set w none).set i o
          rw [ih h2, List.set_comm _ _ h1]
      rw [comm q, List.set_set]
theorem wipe_none {σ : L2.St} {v : Nat} : ∀ {vs : List Nat}, v ∈ vs → (wipe σ vs).set v none = wipe σ vs
  | [], h => nomatch h
  | w :: vs, h => by
    show ((wipe σ vs).set w none).set v none = (wipe σ vs).set w none
    by_cases q : v = w
    · subst q; rw [List.set_set]
    · have hv : v ∈ vs := (List.mem_cons.mp h).resolve_left q
      rw [List.set_comm _ _ (Ne.symm q), wipe_none hv]
theorem wipe_wipe {σ : L2.St} {vs : List Nat} : wipe (wipe σ vs) vs = wipe σ vs := by
  have : ∀ ws : List Nat, (∀ w ∈ ws, w ∈ vs) → wipe (wipe σ vs) ws = wipe σ vs := by
    intro ws
    induction ws with
    | nil => intro _; rfl
    | cons w ws ih =>
      intro hw
      show (wipe (wipe σ vs) ws).set w none = wipe σ vs
      rw [ih fun x hx => hw x (List.mem_cons_of_mem _ hx)]
      exact wipe_none (hw w List.mem_cons_self)
  exact this vs fun w h => h
end

section
variable {X : Cx} {c : Cv} {S : State} {e a b elt tg iter : Expr} {ifs : List Expr} {es : List Expr} {st : Stmt} {sts : List Stmt} {σ : L2.St} {G G' H : Hp} {pos : Pos} {Q : D → State → Prop} {QT : Bool → State → Prop} {E : VD}
/-- the context of a comprehension's block -/
abbrev bkX (X : Cx) (scope : Scope) (s0 : Shared) (H0 : Hp) (C : Addr) (cl : List (Str × Addr)) (fp : List Addr) : Cx := X.blk s0 H0 scope (compEnvC scope cl C X.env) fp
theorem takes_blk {scope : Scope} {s0 : Shared} {H0 : Hp} {C : Addr} {cl : List (Str × Addr)} {fp : List Addr} {Gb Hb : Hp} {pn : Pn} : Takes (bkX X scope s0 H0 C cl fp) (WV (bkX X scope s0 H0 C cl fp) (blkCv c Gb Hb pn)) :=
  Takes.imp (takes0 (X := bkX X scope s0 H0 C cl fp)) fun _ _ _ _ ⟨_, _, _, _, _, q⟩ => q
def tEb (X : Cx) (scope : Scope) (e : Expr) : TE := fun σ H Q => ∀ s0 H0 C cl fp, tE (bkX X scope s0 H0 C cl fp) e σ H Q
def tTb (X : Cx) (scope : Scope) (e : Expr) : TT := fun σ H Q => ∀ s0 H0 C cl fp, tT (bkX X scope s0 H0 C cl fp) e σ H Q
/-- what a comprehension's target does, by values -/
def TgOk (X : Cx) (g : TG) (vs : List Nat) (asg : D → List Sl → Option (List Sl)) : Prop :=
  ∀ (c : Cv) (S : State) (σ : L2.St) (G H : Hp) (v : V) (d : D) (ρ : List Sl), HdX X c S σ G H → RepX X G v d → asg d S.ρ = some ρ → ∀ Q : L2.St → Hp → Prop, (∀ σ2, HdX X c ⟨ρ, S.pn⟩ σ2 G H → wipe σ2 vs = wipe σ vs → Q σ2 H) → g v σ H Q
theorem tg_name {i : Nat} {vs : List Nat} (hi : i ∈ vs) : TgOk X (gName i) vs (fun d ρ => some (ρ.set i (.val d))) := fun c S σ G H v d ρ h r e Q k => by
  cases e
  exact k _ (h.setVal r) (wipe_set1 hi)
theorem tg_two {i j : Nat} {vs : List Nat} (hi : i ∈ vs) (hj : j ∈ vs) : TgOk X (gTup X.K 2 (gCons (gName i) (gCons (gName j) gNil))) vs (fun d ρ => match d with | .tup [x, y] => some ((ρ.set i (.val x)).set j (.val y)) | _ => none) := fun c S σ G H v d ρ h r e Q k => by
  match d, e with
  | .tup [x, y], e =>
    cases e
    obtain ⟨a, us, e1, h1, r1⟩ := rep_tup r
    subst e1
    obtain ⟨u1, u2, rfl, r2, r3⟩ := reps2 r1
    refine ⟨a, _, rfl, .inl (.inl (h.sub _ _ h1)), rfl, u1, [u2], rfl, u2, [], rfl, rfl, ?_⟩
    exact k _ ((h.setVal r2).setVal r3) (by rw [wipe_set1 hj, wipe_set1 hi])
theorem tg_three {i j l : Nat} {vs : List Nat} (hi : i ∈ vs) (hj : j ∈ vs) (hl : l ∈ vs) : TgOk X (gTup X.K 3 (gCons (gName i) (gCons (gName j) (gCons (gName l) gNil)))) vs (fun d ρ => match d with | .tup [x, y, z] => some (((ρ.set i (.val x)).set j (.val y)).set l (.val z)) | _ => none) := fun c S σ G H v d ρ h r e Q k => by
  match d, e with
  | .tup [x, y, z], e =>
    cases e
    obtain ⟨a, us, e1, h1, r1⟩ := rep_tup r
    subst e1
    cases r1 with
    | cons r2 r1 =>
      obtain ⟨u1, u2, rfl, r3, r4⟩ := reps2 r1
      refine ⟨a, _, rfl, .inl (.inl (h.sub _ _ h1)), rfl, _, [u1, u2], rfl, u1, [u2], rfl, u2, [], rfl, rfl, ?_⟩
      exact k _ (((h.setVal r2).setVal r3).setVal r4) (by rw [wipe_set1 hl, wipe_set1 hj, wipe_set1 hi])
def PvL (X : Cx) (c : Cv) (S1 : State) (σ : L2.St) (G1 : Hp) (Dl : Addr) (I : Nat → List D → Pn → Prop) (i : Nat) (H : Hp) : Prop :=
  ∃ acc pn accV G', HdX X c ⟨S1.ρ, pn⟩ σ G' H ∧ Same G1 G' ∧ H Dl = some (.lst accV) ∧ G' Dl = none ∧ Reps X.K X.mg G' accV acc ∧ acc.length ≤ i ∧ I i acc pn
/-- one turn's wish, by values -/
def LcTurn (X : Cx) (c : Cv) (scope : Scope) (elt : Expr) (ifs : List Expr) (ρ : List Sl) (I : Nat → List D → Pn → Prop) (i : Nat) (acc : List D) (pn : Pn) : Prop :=
  ∀ s0 H0 C cl fp Gb Hb, match ifs with
  | [] => VE (bkX X scope s0 H0 C cl fp) (blkCv c Gb Hb pn) ⟨ρ, pn⟩ elt fun y S4 => I (i + 1) (acc ++ [y]) (outPn pn S4.pn)
  | [t] => VT (bkX X scope s0 H0 C cl fp) (blkCv c Gb Hb pn) ⟨ρ, pn⟩ t fun k S3 => (k = true → ∀ s0 H0 C cl fp, VE (bkX X scope s0 H0 C cl fp) (blkCv c Gb Hb pn) S3 elt fun y S4 => I (i + 1) (acc ++ [y]) (outPn pn S4.pn)) ∧ (k = false → I (i + 1) acc (outPn pn S3.pn))
  | _ => False
def tTsb (X : Cx) (scope : Scope) : List Expr → TT
  | [] => tYes
  | [t] => tTb X scope t
  | _ => fun _ _ _ => False
theorem lc_turn {scope : Scope} {S1 : State} {G1 : Hp} {Dl : Addr} {I : Nat → List D → Pn → Prop} {i : Nat} {g : TG} {vs : List Nat} {asg : D → List Sl → Option (List Sl)} {x : V} {d : D} (hD0 : c.H0 Dl = none) (hsD : ∀ i : Nat, ownAt S1.ρ i → σ[i]? ≠ some (some (.ref Dl))) (hz : i < sizeLine)
    (tg : TgOk X g vs asg) (hx : ∀ G', Same G1 G' → RepX X G' x d) (turn : ∀ acc pn, I i acc pn → ∃ ρ, asg d (wipeρ S1.ρ vs) = some ρ ∧ LcTurn X c scope elt ifs ρ I i acc pn) (p : PvL X c S1 σ G1 Dl I i H) :
    g x (wipe σ vs) H fun σ2 H2 => wipe σ2 vs = wipe σ vs ∧ tTsb X scope ifs σ2 H2 fun b H3 =>
      if b = true then tEb X scope elt σ2 H3 fun y H4 => ∃ acc, H4 Dl = some (.lst acc) ∧ acc.length < sizeLine ∧ PvL X c S1 σ G1 Dl I (i + 1) (upd H4 Dl (.lst (acc ++ [y]))) else PvL X c S1 σ G1 Dl I (i + 1) H3 := by
  obtain ⟨acc, pn, accV, G', h1, s1, hD, gD, rA, hl, hI⟩ := p
  obtain ⟨ρ, eρ, tn⟩ := turn acc pn hI
  have hb : Hd X.K X.mg (blkCv c G' H pn) ⟨wipeρ S1.ρ vs, pn⟩ (wipe σ vs) G' H := (h1.rebase (S := ⟨S1.ρ, pn⟩)).wiped vs
  refine tg (blkCv c G' H pn) ⟨wipeρ S1.ρ vs, pn⟩ (wipe σ vs) G' H x d ρ hb (hx G' s1) eρ _ fun σ2 h2 hw => ?_
  refine ⟨by rw [hw, wipe_wipe], ?_⟩
  have hpnD : ∀ r, pn ≠ some (Dl, r) := fun r e => by
    obtain ⟨kvs, q⟩ := (h1.pen Dl r e).1.at
    rw [hD] at q; cases q
  have fin : ∀ (S4 : State) (G4 H4 : Hp) (y : V) (dy : D), Hd X.K X.mg (blkCv c G' H pn) S4 σ2 G4 H4 → RepX X G4 y dy → I (i + 1) (acc ++ [dy]) (outPn pn S4.pn) →
      ∃ acc, H4 Dl = some (.lst acc) ∧ acc.length < sizeLine ∧ PvL X c S1 σ G1 Dl I (i + 1) (upd H4 Dl (.lst (acc ++ [y]))) := fun S4 G4 H4 y dy h4 ry hI' => by
    have A := h4.blkDone
    have h5 : HdX X c ⟨S1.ρ, outPn pn S4.pn⟩ σ G4 H4 := h1.after A
    have hD4 : H4 Dl = some (.lst accV) := A.keep _ _ hD hpnD
    have gD4 : G4 Dl = none := by
      cases z : G4 Dl with
      | none => rfl
      | some u =>
        rcases A.new _ _ z with q | q
        · rw [gD] at q; cases q
        · rw [hD] at q; cases q
    refine ⟨accV, hD4, by rw [rA.length]; omega, acc ++ [dy], _, accV ++ [y], G4, h5.aside hD4 gD4 hD0 hsD, s1.trans A.ext, upd_same, gD4, (rA.mono A.ext).append (.cons ry .nil), by simp; omega, hI'⟩
  have finN : ∀ (S4 : State) (G4 H4 : Hp), Hd X.K X.mg (blkCv c G' H pn) S4 σ2 G4 H4 → I (i + 1) acc (outPn pn S4.pn) → PvL X c S1 σ G1 Dl I (i + 1) H4 := fun S4 G4 H4 h4 hI' => by
    have A := h4.blkDone
    have h5 : HdX X c ⟨S1.ρ, outPn pn S4.pn⟩ σ G4 H4 := h1.after A
    have hD4 : H4 Dl = some (.lst accV) := A.keep _ _ hD hpnD
    have gD4 : G4 Dl = none := by
      cases z : G4 Dl with
      | none => rfl
      | some u =>
        rcases A.new _ _ z with q | q
        · rw [gD] at q; cases q
        · rw [hD] at q; cases q
    exact ⟨acc, _, accV, G4, h5, s1.trans A.ext, hD4, gD4, rA.mono A.ext, by omega, hI'⟩
  match ifs, tn with
  | [], tn =>
    show tEb X scope elt σ2 H (fun y H4 => ∃ acc, H4 Dl = some (.lst acc) ∧ acc.length < sizeLine ∧ PvL X c S1 σ G1 Dl I (i + 1) (upd H4 Dl (.lst (acc ++ [y]))))
    intro s0 H0 C cl fp
    refine tE_mono (tn s0 H0 C cl fp G' H σ2 G' H h2) fun y H4 ⟨dy, S4, G4, h4, s4, r4, q4⟩ => fin S4 G4 H4 y dy h4 r4 q4
  | [t], tn =>
    intro s0 H0 C cl fp
    refine tT_mono (tn s0 H0 C cl fp G' H σ2 G' H h2) fun k H3 ⟨S3, G3, h3, s3, q3⟩ => ?_
    cases k with
    | false =>
      rw [if_neg Bool.false_ne_true]
      exact finN S3 G3 H3 h3 (q3.2 rfl)
    | true =>
      rw [if_pos rfl]
      intro s0' H0' C' cl' fp'
      exact tE_mono (q3.1 rfl s0' H0' C' cl' fp' σ2 G3 H3 h3) fun y H4 ⟨dy, S4, G4, h4, s4, r4, q4⟩ => fin S4 G4 H4 y dy h4 r4 q4
  | _ :: _ :: _, tn =>
    exact (tn X.s_0 H 0 [] [] G' H).elim

theorem hsD_of {S1 : State} {G1 H1 : Hp} (h : HdX X c S1 σ G1 H1) {Dl : Addr} (hD : H1 Dl = none) : ∀ i : Nat, ownAt S1.ρ i → σ[i]? ≠ some (some (.ref Dl)) := fun i ⟨sl, q1, q2⟩ e => by
  obtain ⟨o, q3, q4⟩ := h.slots i sl q1
  rw [q3] at e
  cases e
  cases sl with
  | un => cases q2
  | val d => cases q2
  | own ds =>
    obtain ⟨l2, vs2, e1, e2, _⟩ := q4
    cases e1
    rw [hD] at e2; cases e2
  | obj a c ks ds =>
    obtain ⟨C, dx, fs, e1, e2, e3, _⟩ := q4
    cases e1
    rw [hD] at e3; cases e3
theorem h0_of {S1 : State} {G1 H1 : Hp} (h : HdX X c S1 σ G1 H1) {Dl : Addr} (hD : H1 Dl = none) : c.H0 Dl = none := by
  cases z : c.H0 Dl with
  | none => rfl
  | some u =>
    by_cases hp : c.pa = some Dl
    · obtain ⟨r, y⟩ := h.padr Dl hp
      obtain ⟨kvs, x⟩ := (h.pen _ _ y).1.at
      rw [hD] at x; cases x
    · rw [h.keep0 Dl u z hp] at hD; cases hD
theorem pvL_start {S1 : State} {G1 H1 : Hp} {Dl : Addr} {I : Nat → List D → Pn → Prop} (h : HdX X c S1 σ G1 H1) (hD : H1 Dl = none) (h0 : I 0 [] S1.pn) : PvL X c S1 σ G1 Dl I 0 (upd H1 Dl (.lst [])) :=
  ⟨[], S1.pn, [], G1, h.after (h.allocH hD), Same.refl _, upd_same, h.sub.free hD, .nil, Nat.le_refl _, h0⟩
theorem pvL_end {S1 : State} {G1 H : Hp} {Dl : Addr} {I : Nat → List D → Pn → Prop} {n : Nat} (hD0 : c.H0 Dl = none) (hsD : ∀ i : Nat, ownAt S1.ρ i → σ[i]? ≠ some (some (.ref Dl))) (hz : n ≤ sizeLine) (fin : ∀ acc pn, I n acc pn → Q (.lst acc) ⟨S1.ρ, pn⟩)
    (p : PvL X c S1 σ G1 Dl I n H) : pE X c σ G1 Q (.ref Dl) H := by
  obtain ⟨acc, pn, accV, G', h1, s1, hD, gD, rA, hl, hI⟩ := p
  have sm : Same G' (upd G' Dl (.lst accV)) := same_upd gD
  exact ⟨.lst acc, _, _, h1.adopt hD gD hD0 hsD, s1.trans sm, .lst upd_same (rA.mono sm) (by omega), fin acc pn hI⟩
theorem pe_tEb {scope : Scope} : ∀ (s : Shared) (H : Hp) (C : Addr) (cl : List (Str × Addr)) (fp : List Addr), PE (X.blk s H scope (compEnvC scope cl C X.env) fp) elt (tEb X scope elt) := fun s H C cl fp => ⟨fun pins s' σ' H' Q I h => h s H C cl fp pins s' I⟩
theorem pts_tTsb {scope : Scope} : ∀ {ifs : List Expr}, ifs.length ≤ 1 → ∀ (s : Shared) (H : Hp) (C : Addr) (cl : List (Str × Addr)) (fp : List Addr), PTs (X.blk s H scope (compEnvC scope cl C X.env) fp) ifs (tTsb X scope ifs)
  | [], _ => fun _ _ _ _ _ => pts_nil
  | [t], _ => fun s H C cl fp => pts_one ⟨fun pins s' σ' H' Q I h => h s H C cl fp pins s' I⟩
  | _ :: _ :: _, h => absurd h (by simp)
/-- [elt for tg in iter if ..] over a list, a tuple, a range -/
theorem ve_lcL {scope : Scope} {own : List (Str × Nat)} {g : TG} {asg : D → List Sl → Option (List Sl)} (hc : X.calm = true) (hN : X.N.Nodup) (ok : BlkOk X.N X.env.scope scope own) (hifs : ifs.length ≤ 1) (tgo : TgOk X g (own.map (·.2)) asg)
    (hg : ∀ (s : Shared) (H : Hp) (C : Addr) (cl : List (Str × Addr)) (fp : List Addr), PG (X.blk s H scope (compEnvC scope cl C X.env) fp) tg g)
    (h : VE X c S iter fun d S1 => ∃ ds, d = .lst ds ∧ ∃ I : Nat → List D → Pn → Prop, I 0 [] S1.pn ∧ (∀ i d acc pn, ds[i]? = some d → I i acc pn → ∃ ρ, asg d (wipeρ S1.ρ (own.map (·.2))) = some ρ ∧ LcTurn X c scope elt ifs ρ I i acc pn) ∧ ∀ acc pn, I ds.length acc pn → Q (.lst acc) ⟨S1.ρ, pn⟩)
    (hs : ∀ x, foldedSetIterable iter X.env x = pure x := by intro _; rfl) : VE X c S (.ListComp elt [⟨tg, iter, ifs, 0⟩] scope pos) Q := fun σ G H hd => by
  refine tE_of (pe_lc hc hN (pi_list pe_sem) ok hg (pts_tTsb hifs) pe_tEb hs) (tE_mono (h σ G H hd) fun v H1 ⟨d, S1, G1, h1, s1, r1, ds, e, I, h0, turn, fin⟩ => ?_)
  subst e
  have hlen := lst_len r1
  obtain ⟨a, vs, e1, hv, rv⟩ := rep_lst r1
  subst e1
  refine ⟨a, rfl, ⟨vs, .inl (.inl (h1.sub _ _ hv))⟩, fun Dl hD => ?_⟩
  have hD0 := h0_of h1 hD
  have hsD := hsD_of h1 hD
  refine lc_list (K := X.K) (a := a) (xs := vs) (PvL X c S1 σ G1 Dl I) (pvL_start h1 hD h0) (fun i H _ ⟨_, _, _, G', h2, s2, _⟩ => .inl (.inl (h2.sub _ _ (s2 _ _ hv)))) (fun i x H hi p => ?_) (fun H p => ?_)
  · obtain ⟨dx, e2, r2⟩ := rv.getV hi
    have hi' : i < ds.length := (List.getElem?_eq_some_iff.mp e2).1
    exact lc_turn hD0 hsD (by omega) tgo (fun G' s => r2.mono s) (fun acc pn hI => turn i dx acc pn e2 hI) p
  · rw [rv.length] at p
    exact pE_back s1 (pvL_end hD0 hsD hlen fin p)
theorem ve_lcT {scope : Scope} {own : List (Str × Nat)} {g : TG} {asg : D → List Sl → Option (List Sl)} (hc : X.calm = true) (hN : X.N.Nodup) (ok : BlkOk X.N X.env.scope scope own) (hifs : ifs.length ≤ 1) (tgo : TgOk X g (own.map (·.2)) asg)
    (hg : ∀ (s : Shared) (H : Hp) (C : Addr) (cl : List (Str × Addr)) (fp : List Addr), PG (X.blk s H scope (compEnvC scope cl C X.env) fp) tg g)
    (h : VE X c S iter fun d S1 => ∃ ds, d = .tup ds ∧ ∃ I : Nat → List D → Pn → Prop, I 0 [] S1.pn ∧ (∀ i d acc pn, ds[i]? = some d → I i acc pn → ∃ ρ, asg d (wipeρ S1.ρ (own.map (·.2))) = some ρ ∧ LcTurn X c scope elt ifs ρ I i acc pn) ∧ ∀ acc pn, I ds.length acc pn → Q (.lst acc) ⟨S1.ρ, pn⟩)
    (hs : ∀ x, foldedSetIterable iter X.env x = pure x := by intro _; rfl) : VE X c S (.ListComp elt [⟨tg, iter, ifs, 0⟩] scope pos) Q := fun σ G H hd => by
  refine tE_of (pe_lc hc hN (pi_tup pe_sem) ok hg (pts_tTsb hifs) pe_tEb hs) (tE_mono (h σ G H hd) fun v H1 ⟨d, S1, G1, h1, s1, r1, ds, e, I, h0, turn, fin⟩ => ?_)
  subst e
  have hlen := tup_len r1
  obtain ⟨a, vs, e1, hv, rv⟩ := rep_tup r1
  subst e1
  refine ⟨a, rfl, ⟨vs, .inl (.inl (h1.sub _ _ hv))⟩, fun Dl hD => ?_⟩
  have hD0 := h0_of h1 hD
  have hsD := hsD_of h1 hD
  refine lc_tup (K := X.K) (a := a) (xs := vs) (PvL X c S1 σ G1 Dl I) (pvL_start h1 hD h0) (fun i H _ ⟨_, _, _, G', h2, s2, _⟩ => .inl (.inl (h2.sub _ _ (s2 _ _ hv)))) (fun i x H hi p => ?_) (fun H p => ?_)
  · obtain ⟨dx, e2, r2⟩ := rv.getV hi
    have hi' : i < ds.length := (List.getElem?_eq_some_iff.mp e2).1
    exact lc_turn hD0 hsD (by omega) tgo (fun G' s => r2.mono s) (fun acc pn hI => turn i dx acc pn e2 hI) p
  · rw [rv.length] at p
    exact pE_back s1 (pvL_end hD0 hsD hlen fin p)
theorem ve_lcR {scope : Scope} {own : List (Str × Nat)} {g : TG} {asg : D → List Sl → Option (List Sl)} {p pos2 : Pos} (hc : X.calm = true) (hN : X.N.Nodup) (ok : BlkOk X.N X.env.scope scope own) (hifs : ifs.length ≤ 1) (hm : X.mg "range" = none) (tgo : TgOk X g (own.map (·.2)) asg)
    (hg : ∀ (s : Shared) (H : Hp) (C : Addr) (cl : List (Str × Addr)) (fp : List Addr), PG (X.blk s H scope (compEnvC scope cl C X.env) fp) tg g)
    (h : VE X c S a fun d S1 => ∃ n : Int, d = .int n ∧ n ≤ sizeLine ∧ -(2 ^ 62) ≤ n ∧ ∃ I : Nat → List D → Pn → Prop, I 0 [] S1.pn ∧ (∀ (i : Nat) acc pn, (i : Int) < n → I i acc pn → ∃ ρ, asg (.int i) (wipeρ S1.ρ (own.map (·.2))) = some ρ ∧ LcTurn X c scope elt ifs ρ I i acc pn) ∧ ∀ acc pn, I n.toNat acc pn → Q (.lst acc) ⟨S1.ρ, pn⟩)
    (hgl : Gl X "range" := by rfl) (hs : ∀ x, foldedSetIterable (.Call (.Name "range" p) [a] [] pos2) X.env x = pure x := by intro _; rfl) (hst : starEach [a] X.env = [(false, eval a X.env)] := by rfl) : VE X c S (.ListComp elt [⟨tg, .Call (.Name "range" p) [a] [] pos2, ifs, 0⟩] scope pos) Q := fun σ G H hd => by
  refine tE_of (pe_lc hc hN (pi_range1 hgl hm (pa_cons pe_sem pa_nil hst) hst) ok hg (pts_tTsb hifs) pe_tEb hs) (tE_mono (h σ G H hd) fun v H1 ⟨d, S1, G1, h1, s1, r1, n, e, hz, hz2, I, h0, turn, fin⟩ => ?_)
  subst e
  rw [rep_int r1]
  have hsz : (sizeLine : Int) < 2 ^ 62 := by rw [sizeLine_eq]; decide
  refine ⟨n, rfl, by omega, by omega, fun Dl hD => ?_⟩
  have hD0 := h0_of h1 hD
  have hsD := hsD_of h1 hD
  refine lc_range (lo := 0) (n := n.toNat) (PvL X c S1 σ G1 Dl I) (pvL_start h1 hD h0) (fun i H hi p => ?_) (fun H p => ?_)
  · rw [Int.zero_add]
    exact lc_turn hD0 hsD (by omega) tgo (fun G' s => .int) (fun acc pn hI => turn i acc pn (by omega) hI) p
  · exact pE_back s1 (pvL_end hD0 hsD (by omega) fin p)
end
end VL
set_option Elab.async false
set_option linter.all false
set_option maxRecDepth 100000
set_option maxHeartbeats 4000000
/-! VL8: instances: made, filled, their methods and operators; isinstance. -/
namespace VL
open PySem PySem.Spec PyProof.Rows L2

section
variable {K : PySem.W.Frag} {mg : Str → Option Value} {c : Cv} {S : State} {σ : L2.St} {G G' H H' : Hp}
theorem putF_new {f : Str} {v : V} : ∀ {fs : List (Str × V)}, f ∉ fs.map (·.1) → putF f v fs = fs ++ [(f, v)]
  | [], _ => rfl
  | (g, u) :: fs, h => by
    have h1 : ¬ g = f := fun z => h (by rw [← z]; exact List.mem_cons_self)
    have h2 := putF_new (fs := fs) (v := v) fun z => h (List.mem_cons_of_mem _ z)
    show (if g = f then (g, v) :: fs else (g, u) :: putF f v fs) = _
    rw [if_neg h1, h2]
    rfl
/-- a field of an instance under way is stored -/
theorem Hd.put (h : Hd K mg c S σ G H) {i : Nat} {a : Addr} {cn : Str} {ks : List Str} {ds : List D} {f : Str} {v : V} {d : D} (hρ : S.ρ[i]? = some (.obj a cn ks ds)) (ht : c.top = true) (r : Rep K mg G v d) (hf : f ∉ ks) :
    ∃ C dx fs, σ[i]? = some (some (.ref a)) ∧ mg cn = some (.ref C) ∧ H a = some (.ins C dx fs) ∧ fs.length = ks.length ∧ Hd K mg c (S.put i (.obj a cn (ks ++ [f]) (ds ++ [d]))) σ G (upd H a (.ins C dx (putF f v fs))) := by
  obtain ⟨o, e1, C, dx, fs, e2, hC, ha, hdx, ga, gdx, hk, hr⟩ := h.slots i _ hρ
  subst e2
  have hb : i < S.ρ.length := (List.getElem?_eq_some_iff.mp hρ).1
  have e3 : putF f v fs = fs ++ [(f, v)] := putF_new (by rw [hk]; exact hf)
  have own' : ∀ {j : Nat}, ownAt (S.ρ.set i (.obj a cn (ks ++ [f]) (ds ++ [d]))) j → ownAt S.ρ j := fun {j} oj => by
    rcases ownAt_set oj with ⟨_, o1⟩ | ⟨z, _⟩
    · exact o1
    · subst z; exact ⟨_, hρ, rfl⟩
  refine ⟨C, dx, fs, e1, hC, ha, by rw [← hk, List.length_map], ⟨fun b u q => ?_, ?_, fun j s2 e => ?_, fun j k l' hjk oj ok => h.dist j k l' hjk (own' oj) (own' ok), fun p r q => ?_, h.padr, h.ext0, h.new0, fun b u q hp => ?_, fun ht j l' oj => h.fresh ht j l' (own' oj)⟩⟩
  · rw [upd_ne (ne_of_none q ga)]; exact h.sub _ _ q
  · show σ.length = (S.ρ.set i _).length
    rw [List.length_set, h.len]
  · have e' : (S.ρ.set i (.obj a cn (ks ++ [f]) (ds ++ [d])))[j]? = some s2 := e
    by_cases q : i = j
    · subst q
      rw [List.getElem?_set_self hb] at e'
      cases e'
      refine ⟨_, e1, C, dx, putF f v fs, rfl, hC, upd_same, by rw [upd_ne (ne_of hdx ha (fun y => nomatch y))]; exact hdx, ga, gdx, ?_, ?_⟩
      · rw [e3, List.map_append, hk]; rfl
      · rw [e3, List.map_append]; exact hr.append (.cons r .nil)
    · rw [List.getElem?_set_ne q] at e'
      obtain ⟨o2, q1, q2⟩ := h.slots j s2 e'
      refine ⟨o2, q1, ?_⟩
      cases s2 with
      | un => trivial
      | val d => exact q2
      | own ds2 =>
        obtain ⟨l2, vs2, z1, z2, z3⟩ := q2
        have hne : l2 ≠ a := ne_of z2 ha (fun y => nomatch y)
        exact ⟨l2, vs2, z1, by rw [upd_ne hne]; exact z2, z3⟩
      | obj a2 cc ks ds2 =>
        obtain ⟨C2, dx2, fs2, z1, z2, z3, z4, z5⟩ := q2
        have hne : a2 ≠ a := fun y => by
          subst z1; subst y
          exact h.dist i j a2 q ⟨_, hρ, rfl⟩ ⟨_, e', rfl⟩ e1 q1
        have hd : dx2 ≠ a := ne_of z4 ha (fun y => nomatch y)
        exact ⟨C2, dx2, fs2, z1, z2, by rw [upd_ne hne]; exact z3, by rw [upd_ne hd]; exact z4, z5⟩
  · obtain ⟨⟨cc, cells, bb, ll, p1, p4⟩, pa⟩ := h.pen p r q
    have hne : p ≠ a := ne_of p1 ha (fun y => nomatch y)
    exact ⟨⟨cc, cells, bb, ll, by rw [upd_ne hne]; exact p1, p4⟩, pa⟩
  · have hne : b ≠ a := fun y => by
      subst y
      rw [h.fresh ht i b ⟨_, hρ, rfl⟩ e1] at q
      cases q
    rw [upd_ne hne]; exact h.keep0 _ _ q hp
end

section
variable {X : Cx} {c : Cv} {S : State} {e a b o : Expr} {es : List Expr} {st : Stmt} {sts : List Stmt} {σ : L2.St} {G G' H : Hp} {pos : Pos} {Q : D → State → Prop} {QT : Bool → State → Prop} {E : VD} {k : Nat} {dd : List D} {ct : Ct}
/-- o.f as a target -/
theorem pg_attr {f : Str} {to : TE} (ho : PE X o to) (ha : ∀ v, assign (.Attribute o f pos) X.env v = (do
      let ov ← holding [v] (eval o X.env)
      standAt pos.atName
      holding [v, ov] (setAttr ov f v)
      release [v, ov] []) := by intro _; rfl) :
    PG X (.Attribute o f pos) (fun y σ H Q => to σ H fun x H1 => ∃ a C dx fs, x = .ref a ∧ H1 a = some (.ins C dx fs) ∧ Cls X.K C ∧ NoAttr X.K C f ∧ fs.length < 1000 ∧ Q σ (upd H1 a (.ins C dx (putF f y fs)))) := by
  refine ⟨fun pins s σ H v u Q I r h => ?_⟩
  rw [ha]
  refine wpAny_bind (wpAny_holding (thn (ho.run pins s σ H _ I h) fun ov s1 ⟨x, H1, I1, r1, a, C, dx, fs, e1, e2, cl, na, hl, q1⟩ => ?_))
  subst e1
  obtain rfl : ov = Value.ref a := r1
  refine wpAny_bind (wpAny_standAt (wpAny_bind (wpAny_holding (setattr_ok I1 e2 cl na hl r fun s2 I2 => ?_))))
  exact wpAny_release ⟨σ, _, I2, q1⟩
/-- self.f as a target, self under way in slot i -/
theorem vg_self (i : Nat) {x f : Str} {pos2 : Pos} {a : Addr} {cn : Str} {ks : List Str} {ds : List D} {d : D} {QS : State → Prop} (hρ : S.ρ[i]? = some (.obj a cn ks ds)) (ht : c.top = true) (hf : f ∉ ks) (hl : ks.length < 1000) (cl : ClsF X.K X.mg cn f)
    (q : QS (S.put i (.obj a cn (ks ++ [f]) (ds ++ [d])))) (hN : X.N[i]? = some x := by rfl) (hv : Vis X.env.scope x := by first | exact Or.inl rfl | exact Or.inr (Or.inl rfl) | exact Or.inr (Or.inr rfl))
    (hd : (x == ("__debug__" : Str)) = false := by decide) (hcd : (x == ("__classdict__" : Str)) = false := by decide)
    (ha : ∀ v, assign (.Attribute (.Name x pos2) f pos) X.env v = (do
      let ov ← holding [v] (eval (.Name x pos2) X.env)
      standAt pos.atName
      holding [v, ov] (setAttr ov f v)
      release [v, ov] []) := by intro _; rfl) : VG X c S (.Attribute (.Name x pos2) f pos) d QS := fun σ G H v hh r => by
  obtain ⟨C, dx, fs, e1, hC, hH, hlen, h2⟩ := hh.put hρ ht r hf
  exact tG_of (pg_attr (pv i hN hv hd hcd) ha) ⟨_, e1, a, C, dx, fs, rfl, hH, (cl C hC).1, (cl C hC).2, by omega, _, G, h2, Same.refl _, q⟩
/-- self.f = e -/
theorem vs_self (i : Nat) {x f : Str} {pos2 pos3 : Pos} (h : VE X c S e fun d S' => ∃ a cn ks ds, S'.ρ[i]? = some (.obj a cn ks ds) ∧ f ∉ ks ∧ ks.length < 1000 ∧ ClsF X.K X.mg cn f ∧ E.nx (S'.put i (.obj a cn (ks ++ [f]) (ds ++ [d])))) (ht : c.top = true)
    (hs : swapsWith e (some (.Attribute (.Name x pos2) f pos3)) pos.line X.env = pure false := by rfl) (hN : X.N[i]? = some x := by rfl) (hv : Vis X.env.scope x := by first | exact Or.inl rfl | exact Or.inr (Or.inl rfl) | exact Or.inr (Or.inr rfl))
    (hd : (x == ("__debug__" : Str)) = false := by decide) (hcd : (x == ("__classdict__" : Str)) = false := by decide) : VS X c S (.Assign [.Attribute (.Name x pos2) f pos3] e pos) E := fun σ G H hh => by
  refine tS_of (ps_fld (pv i hN hv hd hcd) pe_sem hs) (tE_mono (h σ G H hh) fun v H1 ⟨d, S1, G1, h1, s1, r1, p, cn, ks, ds, hρ, hf, hl, cl, q⟩ => ?_)
  obtain ⟨C, dx, fs, e1, hC, hH, hlen, h2⟩ := h1.put hρ ht r1 hf
  exact ⟨_, e1, p, C, dx, fs, rfl, hH, (cl C hC).1, (cl C hC).2, by omega, _, G1, h2, s1, q⟩

/-! ### new instances -/
/-- all but a new instance and its dict -/
def less (H : Hp) (x dx : Addr) : Hp := fun b => if b = x ∨ b = dx then none else H b
theorem less_ne {H : Hp} {x dx b : Addr} (h1 : b ≠ x) (h2 : b ≠ dx) : less H x dx b = H b := if_neg fun z => z.elim h1 h2
theorem less_x {H : Hp} {x dx : Addr} : less H x dx x = none := if_pos (.inl rfl)
theorem less_dx {H : Hp} {x dx : Addr} : less H x dx dx = none := if_pos (.inr rfl)
theorem less_some {H : Hp} {x dx b : Addr} {o : HO} (h : less H x dx b = some o) : b ≠ x ∧ b ≠ dx ∧ H b = some o := by
  unfold less at h
  split at h
  · cases h
  · rename_i q
    exact ⟨fun z => q (.inl z), fun z => q (.inr z), h⟩
/-- an __init__'s promise: its contract tells the instance that is made -/
def spI (nb nl : Str) (K : PySem.W.Frag) (mg : Str → Option Value) (cn : Str) (ct : Ct) : Sp := fun vs H Q E => ∃ x dx C args G ds pn, vs = .ref x :: args ∧ mg cn = some (.ref C) ∧ H x = some (.ins C dx []) ∧ H dx = some (.own x) ∧ G x = none ∧ G dx = none ∧
  Same G H ∧ Reps K mg G args ds ∧ (∀ p r, pn = some (p, r) → PenOk nb nl K G H p r) ∧
  ct.run ds pn (fun d pn' => ∀ fs dx' G' H', After nb nl K G (less H x dx) pn G' H' pn' → G' x = none → H' x = some (.ins C dx' fs) → d = .ins cn (fs.map (·.1)) (match d with | .ins _ _ es => es | _ => []) →
      Reps K mg G' (fs.map (·.2)) (match d with | .ins _ _ es => es | _ => []) → Q .non H')
    (fun y pn' => ∀ cls dd G' H', After nb nl K G (less H x dx) pn G' H' pn' → ExRep K mg G' cls dd y → E cls dd H')
structure VMk (P : Program) (w : World) (K : PySem.W.Frag) (mg : Str → Option Value) (base : Heap) (nb nl : Str) (k : Nat) (cn : Str) (dd : List D) (ct : Ct) : Prop where
  ex : ∃ C f fd ps dvs ds, mg cn = some (.ref C) ∧ Mk K C f ∧ FnOk P w K mg base (L2.CX P w) k f fd ps (spI nb nl K mg cn ct) ∧ Binds K fd ps ds ∧ Vals dvs ds ∧ Reps K mg (fun _ => none) dvs dd
theorem run_makeS {CX : CXT} {f C : Addr} {fd : FuncData} {ps : List Str} {sp : Sp} {dvs : List V} {ds : List Value} {EX : XK} {pins : List (Addr × Obj)} {s : Shared} {Q : VK} {us : List Value} {vs : List V} (M : Mk X.K C f) (F : FnOk X.prog X.w X.K X.mg X.base CX k f fd ps sp) (hr : Room (k + 1) X.A) (hb : Binds X.K fd ps ds) (hd : Vals dvs ds)
    (hx : PassesAt CX X σ EX) (I : Inv X pins σ H s) (r : Vals vs us)
    (h : ∀ x dx, H x = none → H dx = none → dx ≠ x → sp (.ref x :: (vs ++ dvs)) (upd (upd H dx (.own x)) x (.ins C dx [])) (fun v H2 => v = .non ∧ Q (.ref x) H2) EX) :
    wpAny (model X.prog X.w) X.A (call (.ref C) us) (EP X pins σ Q) X.xe s := by
  have hq := h (s.heap.objs.size + 1) s.heap.objs.size (I.hok.fresh (Nat.le_succ _)) (I.hok.fresh (Nat.le_refl _)) (Nat.ne_of_lt (Nat.lt_succ_self _))
  have I2 := Inv.made (C := C) I
  have r2 : Vals (V.ref (s.heap.objs.size + 1) :: (vs ++ dvs)) (Value.ref (s.heap.objs.size + 1) :: (us ++ ds)) := .cons rfl (r.append hd)
  have hl : (Value.ref (s.heap.objs.size + 1) :: us ++ ds).length = ps.length := by
    have e := r2.length
    rw [F.len _ _ _ _ hq] at e
    exact e.symm
  refine wpAny_call (make_map (f := f) I.kIn M.makes M.init (beq_iff_eq.mp M.fn) (codeAny_mono (F.run _ X.stack _ _ ⟨Value.ref (s.heap.objs.size + 1) :: us, []⟩ (Value.ref (s.heap.objs.size + 1) :: (us ++ ds)) _ _ EX (hr.make C us [])
    (I2.env0.make C us []) (hb _ (Value.ref (s.heap.objs.size + 1) :: us) I2.kIn hl) r2 hq) fun r s' hq' => ?_))
  cases r with
  | error e => exact hx pins _ _ e s' I2 hq'
  | ok fl =>
    cases fl with
    | ret u =>
      obtain ⟨v, H', I3, rv, ev, q3⟩ := I2.after hq'
      subst ev
      exact ⟨rv, ⟨V.ref (s.heap.objs.size + 1), H', I3, rfl, q3⟩⟩
    | next => exact False.elim hq'
    | brk => exact False.elim hq'
    | cont => exact False.elim hq'
/-- what a new instance hands to its __init__ -/
theorem spI_call {cn : Str} {C : Addr} {vs : List V} {ds : List D} {H1 G1 : Hp} {S1 : State} {kk : D → Pn → Prop} {ee : ExD → Pn → Prop} {R : VK} {RX : XK} (h1 : HdX X c S1 σ G1 H1) (hC : X.mg cn = some (.ref C)) (r : Reps X.K X.mg G1 vs ds) (q : ct.run ds S1.pn kk ee)
    (hk : ∀ d pn', kk d pn' → ∀ v G' H', HdX X c { S1 with pn := pn' } σ G' H' → Same G1 G' → RepX X G' v d → R v H')
    (he : ∀ x pn', ee x pn' → ∀ cls dd G' H', HdX X c { S1 with pn := pn' } σ G' H' → ExRep X.K X.mg G' cls dd x → RX cls dd H')
    (x dx : Addr) (hx : H1 x = none) (hdx : H1 dx = none) (hne : dx ≠ x) :
    spI c.nb c.nl X.K X.mg cn ct (.ref x :: vs) (upd (upd H1 dx (.own x)) x (.ins C dx [])) (fun v H2 => v = .non ∧ R (.ref x) H2) RX := by
  have gx := h1.sub.free hx
  have gdx := h1.sub.free hdx
  have sub2 : Same H1 (upd (upd H1 dx (.own x)) x (.ins C dx [])) := fun b u e => by rw [upd_ne (ne_of_none e hx), upd_ne (ne_of_none e hdx)]; exact e
  have sub3 : Same H1 (less (upd (upd H1 dx (.own x)) x (.ins C dx [])) x dx) := fun b u e => by rw [less_ne (ne_of_none e hx) (ne_of_none e hdx)]; exact sub2 _ _ e
  have back : ∀ {G' H' : Hp} {pn' : Pn}, After c.nb c.nl X.K G1 (less (upd (upd H1 dx (.own x)) x (.ins C dx [])) x dx) S1.pn G' H' pn' → After c.nb c.nl X.K G1 H1 S1.pn G' H' pn' := fun {G' H' pn'} A =>
    ⟨A.sub, A.ext, fun b u e => (A.new b u e).imp id fun z => sub3.free z, fun b u e hn => A.keep _ _ (sub3 _ _ e) hn, A.pen, A.adr⟩
  refine ⟨x, dx, C, vs, G1, ds, S1.pn, rfl, hC, upd_same, by rw [upd_ne hne, upd_same], gx, gdx, h1.sub.trans sub2, r, fun p r' e => ?_, ct.mono q (fun d pn' kd fs dx' G' H' A g1 hx' ed rd => ⟨rfl, ?_⟩) (fun y pn' ey cls dd G' H' A rx => he y pn' ey cls dd G' H' (h1.after (back A)) rx)⟩
  · obtain ⟨cc, cells, bb, ll, p1, p4⟩ := (h1.pen p r' e).1
    exact ⟨cc, cells, bb, ll, sub2 _ _ p1, p4⟩
  · have A1 := back A
    have h2 := h1.after A1
    -- the instance is frozen
    have A2 : After c.nb c.nl X.K G1 H1 S1.pn (upd G' x (.ins C dx' fs)) H' pn' := ⟨fun b u e => by
        by_cases z : b = x
        · subst z; rw [upd_same] at e; cases e; exact hx'
        · rw [upd_ne z] at e; exact A1.sub _ _ e, A1.ext.trans (same_upd g1), fun b u e => by
        by_cases z : b = x
        · subst z; exact .inr hx
        · rw [upd_ne z] at e; exact A1.new _ _ e, A1.keep, fun p r' e => by
        obtain ⟨cc, cells, bb, ll, p1, p2, p3, p4⟩ := A1.pen p r' e
        have hne : p ≠ x := fun z => by rw [z, hx'] at p1; cases p1
        exact ⟨cc, cells, bb, ll, p1, by rw [upd_ne hne]; exact p2, Same.seq (same_upd g1) p3, p4⟩, A1.adr⟩
    refine hk d pn' kd (.ref x) _ H' (h1.after A2) (A1.ext.trans (same_upd g1)) ?_
    rw [ed]
    exact .ins hC upd_same rfl (rd.mono (same_upd g1))
theorem ve_make {cn : Str} {p : Pos} (F : VMk X.prog X.w X.K X.mg X.base c.nb c.nl k cn dd ct) (hr : Room (k + 1) X.A) (tk : Takes X (WV X c))
    (h : VA X c S (e :: es) fun ds S1 => ct.run (ds ++ dd) S1.pn (fun d pn' => Q d { S1 with pn := pn' }) (fun y pn' => c.EV y { S1 with pn := pn' })) (hg : Gl X cn := by rfl)
    (hdb : (cn == ("__debug__" : Str)) = false := by decide) (he : starEach (e :: es) X.env = (false, eval e X.env) :: starEach es X.env := by rfl) (hpl : (backTo pos (starEach es X.env)).any (·.1) = false := by rfl) :
    VE X c S (.Call (.Name cn p) (e :: es) [] pos) Q := fun σ G H hd => by
  obtain ⟨C, f, fd, ps, dvs, ds, hC, M, ok, hb, hv, hdd⟩ := F.ex
  intro pins s I
  refine wpAny_Call_Name_kw (ld_glob I hg hC ?_ hdb)
  refine PySem.W.callWith_K (h₀ := X.base) I.ok.mod.kin M.kp (thn (h σ G H hd pos pins s I) fun us s1 ⟨vs, H1, I1, r, ds1, S1, G1, h1, s2, r1, q1⟩ => ⟨I1.kIn, ?_⟩) he hpl
  refine run_makeS M ok hr hb hv (passAt tk σ) I1 r fun x dx hx hdx hne => ?_
  exact spI_call h1 hC (r1.append (hdd.mono same_none)) q1 (fun d pn' q v G' H' h2 s3 rv => ⟨d, _, G', h2, s2.trans s3, rv, q⟩) (fun y pn' q cls dd' G' H' h2 rx => ⟨_, G', y, h2, rx, q⟩) x dx hx hdx hne

/-! ### the body of an __init__ -/
theorem Hd.startI {K : PySem.W.Frag} {mg : Str → Option Value} {nb nl cn : Str} {G H : Hp} {pn : Pn} {Ev : ExD → Pn → Prop} {N : List Str} {vs : List V} {ds : List D} {x dx C : Addr} (hs : Same G H) (r : Reps K mg G vs ds) (hp : ∀ p r, pn = some (p, r) → PenOk nb nl K G H p r)
    (hN : ds.length + 1 ≤ N.length) (hC : mg cn = some (.ref C)) (hx : H x = some (.ins C dx [])) (hdx : H dx = some (.own x)) (gx : G x = none) (gdx : G dx = none) :
    Hd K mg (bodyCv nb nl G (less H x dx) pn Ev) ⟨.obj x cn [] [] :: startρ (N.length - 1) ds, pn⟩ (L2.start N (.ref x :: vs)) G H := by
  have own0 : ∀ {i : Nat}, ownAt (.obj x cn [] [] :: startρ (N.length - 1) ds) i → i = 0 := fun {i} h => by
    cases i with
    | zero => rfl
    | succ i =>
      obtain ⟨sl, h1, h2⟩ := h
      exact (not_own_start ⟨sl, by simpa using h1, h2⟩).elim
  obtain ⟨n, eN⟩ : ∃ n, N.length = n + 1 := ⟨N.length - 1, by omega⟩
  have es : L2.start N (.ref x :: vs) = some (V.ref x) :: (vs.map some ++ List.replicate (n - vs.length) none) := by
    show (some (V.ref x) :: vs.map some) ++ List.replicate (N.length - (vs.length + 1)) none = _
    rw [eN, Nat.add_sub_add_right]
    rfl
  refine ⟨hs, ?_, fun i sl e => ?_, fun i j l hij oi oj => absurd ((own0 oi).trans (own0 oj).symm) hij, fun p r e => ⟨hp p r e, .inl (by show pn.map (·.1) = some p; have e' : pn = some (p, r) := e; rw [e']; rfl)⟩, fun a e => ?_, Same.refl _, fun _ _ h => .inl h, fun b u h _ => (less_some h).2.2, fun _ i l oi e => ?_⟩
  · rw [es]
    show _ = (startρ (N.length - 1) ds).length + 1
    unfold startρ
    have := r.length
    simp only [List.length_cons, List.length_append, List.length_map, List.length_replicate]
    omega
  · rw [es]
    cases i with
    | zero =>
      have e' : some (Sl.obj x cn [] []) = some sl := by simpa using e
      cases e'
      exact ⟨some (.ref x), rfl, C, dx, [], rfl, hC, hx, hdx, gx, gdx, rfl, .nil⟩
    | succ i =>
      have e' : (startρ (N.length - 1) ds)[i]? = some sl := by simpa using e
      unfold startρ at e'
      show ∃ o, (some (V.ref x) :: (vs.map some ++ List.replicate (n - vs.length) none))[i + 1]? = some o ∧ _
      rw [List.getElem?_cons_succ]
      by_cases hi : i < ds.length
      · rw [List.getElem?_append_left (by simpa using hi), List.getElem?_map] at e'
        obtain ⟨d, h1, h2⟩ := Option.map_eq_some_iff.mp e'
        subst h2
        obtain ⟨v, q1, q2⟩ := r.get h1
        refine ⟨some v, ?_, v, rfl, q2⟩
        rw [List.getElem?_append_left (by rw [List.length_map, r.length]; exact hi), List.getElem?_map, q1]
        rfl
      · rw [List.getElem?_append_right (by simpa using hi), List.getElem?_replicate] at e'
        split at e'
        · rename_i hlt
          cases e'
          refine ⟨none, ?_, trivial⟩
          rw [List.getElem?_append_right (by rw [List.length_map, r.length]; omega), List.getElem?_replicate, if_pos]
          rw [List.length_map] at hlt ⊢
          have := r.length
          omega
        · cases e'
  · have e' : pn.map (·.1) = some a := e
    obtain ⟨⟨p, r⟩, h1, h2⟩ := Option.map_eq_some_iff.mp e'
    have h2' : p = a := h2
    subst h2'
    exact ⟨r, h1⟩
  · have e0 := own0 oi
    subst e0
    rw [es] at e
    have e' : some (V.ref x) = some (.ref l) := by simpa using e
    cases e'
    exact less_x
end
section
variable {P : Program} {w : World} {K : PySem.W.Frag} {mg : Str → Option Value} {base : Heap} {nb nl : Str} {k : Nat} {ct : Ct} {x qual cn : Str} {st : Stmt} {dvs : List V} {kws : List (Str × V)} {f : Addr} {fd : FuncData} {N ps : List Str}
theorem fn_init (F : FunD K x qual (defArgs st) (defBody st) (defScope st) dvs kws f fd) (Sc : FnScope N ps (defScope st)) (hps : ps.length ≤ N.length) (np : ∀ ds pn k e, ct.run ds pn k e → ds.length + 1 = ps.length)
    (body : ∀ (cdv : Value) (A : Around) (outer : List Env) (s : Shared) (H : Hp) (E : XK) (G H0 : Hp) (x : Addr) (ds : List D) (pn : Pn) (Qv : D → Pn → Prop) (Ev : ExD → Pn → Prop),
      Room k (bX P w K mg base N qual st f cdv A outer s H E).A → Takes (bX P w K mg base N qual st f cdv A outer s H E) (WV (bX P w K mg base N qual st f cdv A outer s H E) (bodyCv nb nl G H0 pn Ev)) → ct.run ds pn Qv Ev →
      VSs (bX P w K mg base N qual st f cdv A outer s H E) (bodyCv nb nl G H0 pn Ev) ⟨.obj x cn [] [] :: startρ (N.length - 1) ds, pn⟩ (defBody st) { nx := fun S => ∃ ks es, S.ρ[0]? = some (.obj x cn ks es) ∧ Qv (.ins cn ks es) (outPn pn S.pn), rt := fun _ _ => False }) :
    FnOk P w K mg base (L2.CX P w) (k + 1) f fd ps (spI nb nl K mg cn ct) := by
  refine F.ok Sc (fun vs H Q E ⟨x, dx, C, args, G, ds, pn, e, _, _, _, _, _, _, r, _, h⟩ => by subst e; rw [List.length_cons, r.length]; exact np _ _ _ _ h) fun cdv A outer s H vs Q E hr ⟨x, dx, C, args, G, ds, pn, e, hC, hx, hdx, gx, gdx, hs, r, hp, h⟩ => ?_
  subst e
  refine ⟨tSs _ (defBody st), pss_sem, ?_⟩
  have tk0 : Takes (bX P w K mg base N qual st f cdv A outer s H E) (fun cls d _ H => E cls d H) := takes_of rfl rfl rfl rfl
  have b := body cdv A outer s H E G (less H x dx) x ds pn _ _ hr (tk0.imp fun cls d σ H' ⟨S', G', y, h1, rx, q⟩ => q cls d G' H' h1.done rx) h
  have hlen : ds.length + 1 ≤ N.length := by rw [np _ _ _ _ h]; exact hps
  refine tSs_mono (b (L2.start N (.ref x :: args)) G H (Hd.startI hs r hp hlen hC hx hdx gx gdx)) (fun σ' H' ⟨S', G', h1, s1, ks, es, e1, q⟩ => ?_) (fun v H' ⟨_, _, _, _, _, _, _, z⟩ => z.elim) (fun _ _ ⟨_, _, _, _, z⟩ => z) (fun _ _ ⟨_, _, _, _, z⟩ => z)
  obtain ⟨o, e2, C', dx', fs, e3, hC', hx', hdx', gx', gdx', hk, hr'⟩ := h1.slots 0 _ e1
  have eC : C' = C := by
    have hC2 : mg cn = some (.ref C') := hC'
    rw [hC] at hC2
    cases hC2
    rfl
  subst eC
  exact q fs dx' G' H' h1.done gx' hx' (by rw [hk]) hr'
end
end VL
set_option Elab.async false
set_option linter.all false
set_option maxRecDepth 100000
set_option maxHeartbeats 4000000
/-! VL9: methods, operators of own classes, == by an own __eq__, isinstance. -/
namespace VL
open PySem PySem.Spec PyProof.Rows L2

structure VMeth (P : Program) (w : World) (K : PySem.W.Frag) (mg : Str → Option Value) (base : Heap) (nb nl : Str) (k : Nat) (cn m : Str) (dd : List D) (ct : Ct) : Prop where
  ex : ∃ C f fd ps dvs ds, mg cn = some (.ref C) ∧ Cls K C ∧ Meth K C m f ∧ FnOk P w K mg base (L2.CX P w) k f fd ps (spV nb nl K mg ct) ∧ Binds K fd ps ds ∧ Vals dvs ds ∧ Reps K mg (fun _ => none) dvs dd

section
variable {X : Cx} {c : Cv} {S : State} {e a b o : Expr} {es : List Expr} {st : Stmt} {sts : List Stmt} {σ : L2.St} {G G' H : Hp} {pos apos : Pos} {Q : D → State → Prop} {QT : Bool → State → Prop} {E : VD} {k : Nat} {dd : List D} {ct : Ct} {cn m : Str}
theorem ve_meth {pl : Sem Bool} {ks : List Str} (F : VMeth X.prog X.w X.K X.mg X.base c.nb c.nl k cn m dd ct) (hr : Room k X.A) (tk : Takes X (WV X c))
    (h : VE X c S o fun d S1 => ∃ fs, d = .ins cn ks fs ∧ m ∉ ks ∧ VA X c S1 (e :: es) fun ds S2 => ct.run (.ins cn ks fs :: (ds ++ dd)) S2.pn (fun d pn' => Q d { S2 with pn := pn' }) (fun y pn' => c.EV y { S2 with pn := pn' }))
    (hst : starEach (e :: es) X.env = (false, eval e X.env) :: starEach es X.env := by rfl) (hpl : (backTo pos (starEach es X.env)).any (·.1) = false := by rfl)
    (ht : eval (.Call (.Attribute o m apos) (e :: es) [] pos) X.env = (do
      let ov ← eval o X.env
      standAt apos.atName
      let (f, first) ← holding [ov] (getMethod ov m pl)
      callWith pos f first (backTo pos (starEach (e :: es) X.env)) (backToKw pos (keywordEach [] X.env))) := by rfl) : VE X c S (.Call (.Attribute o m apos) (e :: es) [] pos) Q := fun σ G H hd => by
  obtain ⟨C, f, fd, ps, dvs, ds0, hC, cl, hm, ok, hb, hv, hdd⟩ := F.ex
  intro pins s I
  refine PySem.W.methodCall_KW (pl := pl) (thn (h σ G H hd pins s I) fun u s1 ⟨x, H1, I1, rx, d, S1, G1, h1, s2, r1, fs, ed, hks, q1⟩ => ?_) ht
  subst ed
  cases r1 with
  | @ins a C' dx fsv _ _ _ m1 m2 m3 m4 =>
    have eC : C' = C := by rw [hC] at m1; cases m1; rfl
    subst eC
    obtain rfl : u = Value.ref a := rx
    have rself : RepX X G1 (.ref a) (.ins cn ks fs) := .ins m1 m2 m3 m4
    refine getmeth_ok I1 (h1.sub _ _ m2) cl hm (flook_none (by rw [m3]; exact hks)) ?_
    refine PySem.W.callWith_K (first := [.ref a]) (h₀ := X.base) I1.ok.mod.kin hm.kp (thn (q1 σ G1 H1 h1 pos pins s1 I1) fun us s3 ⟨vs, H2, I2, r, ds, S2, G2, h2, s4, r2, q2⟩ => ⟨I2.kIn, ?_⟩) hst hpl
    refine run_fnSD (us := .ref a :: us) (vs := .ref a :: vs) (E := WE (WV X c)) ok hr hb hv (passAt tk σ) I2 (.cons rfl r) ?_
    exact spV_call h2 (.cons (rself.mono s4) (r2.append (hdd.mono same_none))) q2 (fun d pn' q v G' H' h3 s5 rv => ⟨d, _, G', h3, s2.trans (s4.trans s5), rv, q⟩) (fun y pn' q cls dd' G' H' h3 rx => ⟨_, G', y, h3, rx, q⟩)
theorem ve_meth0 {pl : Sem Bool} {ks : List Str} (F : VMeth X.prog X.w X.K X.mg X.base c.nb c.nl k cn m dd ct) (hr : Room k X.A) (tk : Takes X (WV X c))
    (h : VE X c S o fun d S1 => ∃ fs, d = .ins cn ks fs ∧ m ∉ ks ∧ ct.run (.ins cn ks fs :: dd) S1.pn (fun d pn' => Q d { S1 with pn := pn' }) (fun y pn' => c.EV y { S1 with pn := pn' }))
    (ht : eval (.Call (.Attribute o m apos) [] [] pos) X.env = (do
      let ov ← eval o X.env
      standAt apos.atName
      let (f, first) ← holding [ov] (getMethod ov m pl)
      callWith pos f first (backTo pos (starEach [] X.env)) (backToKw pos (keywordEach [] X.env))) := by rfl) : VE X c S (.Call (.Attribute o m apos) [] [] pos) Q := fun σ G H hd => by
  obtain ⟨C, f, fd, ps, dvs, ds0, hC, cl, hm, ok, hb, hv, hdd⟩ := F.ex
  intro pins s I
  refine PySem.W.methodCall_KW (pl := pl) (thn (h σ G H hd pins s I) fun u s1 ⟨x, H1, I1, rx, d, S1, G1, h1, s2, r1, fs, ed, hks, q1⟩ => ?_) ht
  subst ed
  cases r1 with
  | @ins a C' dx fsv _ _ _ m1 m2 m3 m4 =>
    have eC : C' = C := by rw [hC] at m1; cases m1; rfl
    subst eC
    obtain rfl : u = Value.ref a := rx
    have rself : RepX X G1 (.ref a) (.ins cn ks fs) := .ins m1 m2 m3 m4
    refine getmeth_ok I1 (h1.sub _ _ m2) cl hm (flook_none (by rw [m3]; exact hks)) ?_
    refine PySem.W.callWith_K0 (first := [.ref a]) I1.kIn hm.kp (run_fnSD (us := [.ref a]) (vs := [.ref a]) (E := WE (WV X c)) ok hr hb hv (passAt tk σ) I1 (.cons rfl .nil) ?_)
    exact spV_call h1 (.cons rself (hdd.mono same_none)) q1 (fun d pn' q v G' H' h3 s5 rv => ⟨d, _, G', h3, s2.trans s5, rv, q⟩) (fun y pn' q cls dd' G' H' h3 rx => ⟨_, G', y, h3, rx, q⟩)

/-! ### operators of own classes -/
theorem cmpBack_of {pins : List (Addr × Obj)} {QK : VK} {v : Value} {s' : Shared} (h : EP X pins σ QK v s') : PySem.W.CmpBack (EP X pins σ QK) v s' := by
  obtain ⟨x, H', I, r, q⟩ := id h
  cases x with
  | non => cases r; exact h
  | bl _ => cases r; exact h
  | int _ => obtain ⟨t, rfl⟩ := r; exact h
  | str _ => obtain ⟨t, rfl⟩ := r; exact h
  | byt _ => obtain ⟨t, rfl⟩ := r; exact h
  | flt _ => obtain ⟨t, rfl⟩ := r; exact h
  | ref _ => cases r; exact h
  | ty _ => cases r; exact h
/-- a built-in type T on the right of the operator, a class called cn on the left -/
structure OpT (K : PySem.W.Frag) (mg : Str → Option Value) (cn : Str) (op : Operator) (T : String) : Prop where
  ok : ∀ C, mg cn = some (.ref C) → PySem.W.selfFirst K C = true ∧ (∃ rc, PySem.W.findIn K (.ref C) (dunderR op.info.2) = some rc ∧ (rc = none ∨ ∃ g : Addr, rc = some (.ref g))) ∧
    (∃ fo, PySem.W.findIn K (.type T) (PySem.dunder op.info.2) = some fo) ∧ (∃ ro, PySem.W.findIn K (.type T) (dunderR op.info.2) = some ro) ∧ PySem.W.subIn K (.type T) (.ref C) = some false
def SelfF (K : PySem.W.Frag) (mg : Str → Option Value) (cn : Str) : Prop := ∀ C, mg cn = some (.ref C) → PySem.W.selfFirst K C = true
theorem inst_at {pins : List (Addr × Obj)} {s : Shared} {a C dx : Addr} {fs : List (Str × V)} (I : Inv X pins σ H s) (e : H a = some (.ins C dx fs)) : ∃ od, PySem.W.InstAt s.heap a (PySem.W.instObj C dx) C (some od) := by
  obtain ⟨mA, O, _⟩ := ins_get I.hok e
  obtain ⟨od, J, _⟩ := O.look
  exact ⟨od, J⟩
/-- x op y, both of the class cn -/
theorem ve_opS {op : Operator} {ks ks2 : List Str} (F : VMeth X.prog X.w X.K X.mg X.base c.nb c.nl k cn (PySem.dunder op.info.2) [] ct) (hr : Room k X.A) (tk : Takes X (WV X c)) (sf : SelfF X.K X.mg cn)
    (h : VE X c S a fun x S1 => VE X c S1 b fun y S2 => ∃ fs gs, x = .ins cn ks fs ∧ y = .ins cn ks2 gs ∧ ct.run [.ins cn ks fs, .ins cn ks2 gs] S2.pn (fun d pn' => Q d { S2 with pn := pn' }) (fun y pn' => c.EV y { S2 with pn := pn' })) :
    VE X c S (.BinOp a op b pos) Q := fun σ G H hd => by
  obtain ⟨C, f, fd, ps, dvs, ds0, hC, cl, hm, ok, hb, hv, hdd⟩ := F.ex
  intro pins s I
  refine wpAny_BinOp (thn (h σ G H hd pins s I) fun v s1 ⟨x, H1, I1, rx, d, S1, G1, h1, s2, r1, q1⟩ => thn (q1 σ G1 H1 h1 pins s1 I1) fun u s3 ⟨y, H2, I2, ry, d2, S2, G2, h2, s4, r2, fs, gs, ed, ed2, q2⟩ => ?_)
  subst ed; subst ed2
  have r1' := r1.mono s4
  cases r1' with
  | @ins a1 C1 dx fsv _ _ _ m1 m2 m3 m4 =>
    cases r2 with
    | @ins a2 C2 dx2 fsv2 _ _ _ n1 n2 n3 n4 =>
      have eC : C1 = C := by rw [hC] at m1; cases m1; rfl
      have eC2 : C2 = C := by rw [hC] at n1; cases n1; rfl
      subst eC; subst eC2
      obtain rfl : v = Value.ref a1 := rx
      obtain rfl : u = Value.ref a2 := ry
      obtain ⟨od, J⟩ := inst_at I2 (h2.sub _ _ m2)
      obtain ⟨od2, J2⟩ := inst_at I2 (h2.sub _ _ n2)
      obtain ⟨mf, Fr⟩ := I2.fr
      refine PySem.W.binop_K Fr I2.ok.mod.kin J J2.type (sf _ hC) hm.at_ hm.fn ?_
      refine thn (run_fnSD (us := [.ref a1, .ref a2]) (vs := [.ref a1, .ref a2]) (E := WE (WV X c)) ok hr hb hv (passAt tk σ) I2 (.cons rfl (.cons rfl .nil)) ?_) fun _ _ z => cmpBack_of z
      exact spV_call h2 (.cons (.ins m1 m2 m3 m4) (.cons (.ins n1 n2 n3 n4) (hdd.mono same_none))) q2 (fun d pn' q v G' H' h3 s5 rv => ⟨d, _, G', h3, s2.trans (s4.trans s5), rv, q⟩) (fun y pn' q cls dd' G' H' h3 rx => ⟨_, G', y, h3, rx, q⟩)
/-- the built-in type of a value -/
def tyD : D → Option String
  | .non => some "NoneType"
  | .bl _ => some "bool"
  | .int _ => some "int"
  | .str _ => some "str"
  | .lst _ => some "list"
  | .tup _ => some "tuple"
  | .dct _ _ => some "dict"
  | _ => none
theorem looks_obj {M : Model} {h : Heap} {a : Addr} {o : Obj} {T : String} (ho : h.get? a = some o) (hc : o.cls = .type T) : PySem.W.Looks M h (typeOf (.ref a)) (.type T) := hc ▸ (PySem.W.Looks.ld ho).andThen .now
/-- the type of a value of a built-in type, as the library's rules see it -/
theorem looks_ty {M : Model} {pins : List (Addr × Obj)} {s : Shared} {v : V} {u : Value} {d : D} {T : String} (I : Inv X pins σ H s) (hs : Same G H) (r : RepX X G v d) (ru : RelV v u) (ht : tyD d = some T) : PySem.W.Looks M s.heap (typeOf u) (.type T) := by
  cases r with
  | non => cases ht; cases ru; exact PySem.W.Looks.of_pure (PySem.typeIs_none s)
  | bl => cases ht; cases ru; exact PySem.W.Looks.of_pure (PySem.typeIs_bool s _)
  | int => cases ht; obtain ⟨t, rfl⟩ := ru; exact PySem.W.Looks.of_pure (PySem.typeIs_int s _ _)
  | str => cases ht; obtain ⟨t, rfl⟩ := ru; exact PySem.W.Looks.of_pure (PySem.typeIs_str s _ _)
  | lst h1 _ _ =>
    cases ht
    cases ru
    obtain ⟨_, its, n, _, e⟩ := I.hok _ _ (hs _ _ h1)
    exact looks_obj e rfl
  | tup h1 _ _ =>
    cases ht
    cases ru
    obtain ⟨_, its, _, o, e, hc, _⟩ := I.hok _ _ (hs _ _ h1)
    exact looks_obj e hc
  | dct h1 _ _ =>
    cases ht
    cases ru
    obtain ⟨_, _, vs, _, o, es, ep, e, hx, _⟩ := I.hok _ _ (hs _ _ h1)
    exact looks_obj e hx.1
  | ins _ _ _ _ => cases ht
  | adr => cases ht
  | ty => cases ht
  | cref _ => cases ht
  | scr _ _ => cases ht
  | exn0 _ _ => cases ht
  | exn _ _ _ _ _ => cases ht
  | cau _ _ _ => cases ht
end
end VL
set_option Elab.async false
set_option linter.all false
set_option maxRecDepth 100000
set_option maxHeartbeats 4000000
/-! VX0: an own exception's __init__ that says super().__init__(..) and keeps its arguments. -/
namespace VL
open PySem PySem.Spec PyProof.Rows L2 NdefX ClX

/-- what the text's __init__ of an own exception class needs of the written part -/
structure SupF (P : Program) (K : PySem.W.Frag) (mg : Str → Option Value) (f cda cc D C : Addr) (fd : FuncData) (ar : Arg) : Prop where
  T : OexC K C
  hD : ∃ cd, PySem.W.clsIn K D = some cd
  hsub : PySem.W.mroIn K C (.ref D) = some true
  hsup : PySem.W.ks_superIn K C D "__init__" = some (some (.builtin "ValueError.__init__"))
  hB : PySem.W.subIn K (.ref C) (.type "ValueError") = some true
  hf : ∃ oc od osl, K.lookup f = some ⟨oc, od, .func fd, osl⟩
  hp : (fd.params.posonlyargs ++ fd.params.args).head? = some ar
  hcode : ∃ ccl cdd vs ccs file tf, K.lookup cda = some ⟨ccl, cdd, .fields vs, ccs⟩ ∧ vs[2]? = some (.str file tf) ∧ ((P.main.file : Str) == file) = true
  hcell : ∃ cl cld csl, K.lookup cc = some ⟨cl, cld, .cell (some (.ref D)), csl⟩
  hop : PySem.W.nsIn K cStatics "thirdparty.any" = some none
  hm : mg "super" = none
  htop : (P.main.scope.names.lookup ("super" : Str)).isSome = false

section
variable {X : Cx} {f cda cc D C a : Addr} {fd : FuncData} {ar : Arg} {pins : List (Addr × Obj)} {σ : L2.St} {H : Hp} {s : Shared} {body : List Stmt} {p0 p1 p2 pos pos2 : Pos} {e : Expr} {es : List Expr} {ta : TA} {R : Hp → Prop} {E : Value → Shared → Prop}
theorem sup_ok {pl : Sem Bool} (F : SupF X.prog X.K X.mg f cda cc D C fd ar) (hks : X.env.kindOf "super" = some .globalImplicit) (hkc : X.env.kindOf "__class__" = some .free) (hka : X.env.kindOf ar.arg = some .local) (hfu : X.env.func = some f) (hco : X.env.code = .ref cda) (hcl : X.env.cells.lookup ("__class__" : Str) = some cc)
    (h0 : X.N[0]? = some ar.arg) (σ0 : σ[0]? = some (some (.ref a))) (ea : H a = some (exo a C none)) (I : Inv X pins σ H s) (ha : PA X (e :: es) ta) (hq : ta σ H fun us H1 => us.length ≤ 1000 ∧ H1 a = some (exo a C none) ∧ R H1)
    (hE : ∀ x s', X.xe x s' → E x s')
    (hi : interactive X.env = false) (hs : swapsWith (.Call (.Attribute (.Call (.Name "super" p0) [] [] p1) "__init__" p2) (e :: es) [] pos) none pos2.line X.env = pure false)
    (hc : eval (.Call (.Attribute (.Call (.Name "super" p0) [] [] p1) "__init__" p2) (e :: es) [] pos) X.env = (do
      let ov ← attributeBase (.Call (.Name "super" p0) [] [] p1) "__init__" X.env (eval (.Call (.Name "super" p0) [] [] p1) X.env)
      standAt p2.atName
      let (f, first) ← holding [ov] (getMethod ov "__init__" pl)
      callWith pos f first (backTo pos (starEach (e :: es) X.env)) []))
    (he : starEach (e :: es) X.env = (false, eval e X.env) :: starEach es X.env) (hpl : (backTo pos (starEach es X.env)).any (·.1) = false) :
    PySem.wpAt (model X.prog X.w) X.A (.func body X.env) (exec (.Expr (.Call (.Attribute (.Call (.Name "super" p0) [] [] p1) "__init__" p2) (e :: es) [] pos) pos2) X.env)
      (fun fl s' => fl = .next ∧ ∃ H1, Inv X pins σ H1 s' ∧ R H1) E s := by
  obtain ⟨oc, od, osl, lf⟩ := F.hf
  obtain ⟨ccl, cdd, vs, ccs, file, tf, lc, hvs, hfile⟩ := F.hcode
  obtain ⟨cl, cld, csl, lcc⟩ := F.hcell
  obtain ⟨cdD, hD⟩ := F.hD
  obtain ⟨nm, q, N, bs, bm, sn, sub, ab, col, dd, k0, k1, k2, k3, k5, hC, hbm⟩ := F.T.cls
  have hcl' : PySem.W.clsIn X.K C = some { name := nm, bases := bs, mro := .ref C :: bm, ns := N, qualname := q, hasDict := true, slotNames := sn, subclasses := sub, abstract := ab, collection := col, hasDel := false } := by unfold PySem.W.clsIn; rw [hC] <;> rfl
  obtain ⟨t1, ho⟩ := exo_at I.hok ea
  obtain ⟨hh, g, d, t, os⟩ := s
  have hk : X.env.scope.kind = .function := I.ok.kind
  refine ks_wpAt_Expr_any ?_ hi hs
  refine ks_wpAt_MethodCall ?_ hc
  refine ks_wpAt_super_base hks hkc (by decide) hfu (I.kIn _ _ lf) rfl F.hp hco (I.kIn _ _ lc) rfl hvs hfile F.htop ?_
  obtain ⟨mb, hb1, hb2⟩ := I.mod.blt
  refine PySem.W.ks_loadName_global hk hks (Calls.loadGlobal_builtin (by rw [I.ok.glob]; exact I.mod.glob.keeps I.bk) F.hm (by rw [I.ok.blt]; exact hb1.keeps I.bk) ((hb2 "super" (by decide)).trans (show bootBuiltins "super" = some (.type "super") from by first | rfl | kernel_rfl)) ⟨rfl, ?_⟩)
  refine wpAny_loadName_free hk hkc hcl ⟨_, I.kIn _ _ lcc, rfl⟩ ?_
  obtain ⟨m, hns, hl⟩ := I.loc
  obtain ⟨u, ru, lk⟩ := hl 0 _ _ h0 σ0 (Or.inl hka)
  obtain rfl : u = Value.ref a := ru
  have hma : m ar.arg = some (.ref a) := by
    rcases lk with ⟨_, z⟩ | ⟨z | z, _⟩
    · exact z
    · rw [hka] at z; cases z
    · rw [hka] at z; cases z
  refine wpAny_loadName_local hk hka hns hma ?_
  obtain ⟨oD, hD1, hD2⟩ : ∃ oD, hh.get? D = some oD ∧ oD.data = .cls cdD := by
    unfold PySem.W.clsIn at hD
    split at hD
    · rename_i c d cd' sl ho
      cases hD
      exact ⟨_, I.kIn _ _ ho, rfl⟩
    · cases hD
  refine ks_wpAny_isType_cls hD1 hD2 ⟨rfl, ?_⟩
  refine ks_wpAny_call_super hD1 hD2 ho rfl (fun c e => nomatch e) (PySem.W.looks_mroIn I.kIn F.hsub) (fun h' eso kso => ?_)
  have I1 := pin_new (t' := t) I kso (Nat.le_refl _) eso (fun v z => nomatch z)
  have ho1 := kso _ _ ho
  have IA : PySem.W.InstAt h' a { cls := .ref C, dict := none, data := .fields #[.ref t1, .none, .none, .none, .bool false, .none] } C none := ⟨ho1, rfl, rfl, trivial⟩
  have hms := F.hsup
  unfold PySem.W.ks_superIn at hms
  rw [hcl', Option.bind_some] at hms
  refine PySem.W.kxs_getMethod PySem.W.kxs_ValueError (pin_at I1) (PySem.W.looks_opaque I1.kIn F.hop) (l₀ := .ref C :: bm) (fun A Q E s k q => wpAny_bind ((PySem.W.looks_clsIn I1.kIn hcl') A _ E s k (wpAny_pure q))) rfl I1.kIn hms (IA.type.andThen (PySem.W.looks_subIn I1.kIn F.hB)) (PySem.W.ks_ne I1.kIn IA hcl') (by decide) ?_
  have I2 := pin_new (t' := t + 1) I1 (fun b o e => Heap.get?_push_of_some _ e) (Nat.le_refl _) (Heap.get?_push_at (h := h') (o := PySem.W.kxs_mw "ValueError.__init__" a) rfl rfl) (fun v z => nomatch z)
  show wpAny _ _ (callWith pos (.ref h'.objs.size) [] (backTo pos (starEach (e :: es) X.env)) []) _ _ _
  rw [he]
  refine PySem.W.kxs_callWith (i := "ValueError.__init__") (x := a) (by show (false || (backTo pos (starEach es X.env)).any (·.1)) = false; rw [hpl]; rfl) ?_
  refine PySem.Calls.evalArgs_plain ?_
  have hrun := ha.run pos _ _ σ H _ I2 hq
  rw [he] at hrun
  refine wpAny_mono hrun (fun us s3 ⟨ws, H1, I3, r, hlen, ea1, hR⟩ => ⟨pin_at I3, ?_⟩) (fun x s' z => hE x s' z)
  obtain ⟨t3, ho3⟩ := exo_at I3.hok ea1
  have hu3 := pin_at I3
  have hus : us.length ≤ sizeLine := by
    rw [← r.length, sizeLine_eq]
    omega
  obtain ⟨hp, g3, d3, tk3, os3⟩ := s3
  refine wpAny_call (codeAny_of_tree ?_)
  show wpAny _ X.A.in1 (callAny (.ref h'.objs.size) ⟨[] ++ us, []⟩) _ _ _
  simp only [callAny]
  refine wpAny_bind (wpAny_load hu3 ?_)
  simp only [PySem.W.kxs_mw, show (Value.type "method-wrapper" == Value.type "method" || Value.type "method-wrapper" == Value.type "builtin_function_or_method" || Value.type "method-wrapper" == Value.type "method-wrapper") = true by decide, if_true]
  refine PySem.W.KFB.if_so (by decide) ?_
  refine wpAny_bind (PySem.W.check_bound_init PySem.F.excBase_ValueError.toExcCallFacts (I3.kIn _ _ hC) ho3 rfl ?_)
  refine wpAny_bind (wpAny_pure (wpAny_pure ?_))
  refine ⟨plainId_quiet PySem.F.excBase_ValueError.init.plain _, codeAny_builtin PySem.F.excBase_ValueError.initEntry ?_⟩
  refine PySem.W.exc_init_tree (cls := .ref C) (t0 := t3) (dv := none) (c2 := .none) (c3 := .none) (b4 := .bool false) ho3 hus fun hz k hx ht => ?_
  have J := I3.write (t' := tk3) (x := a) (e := a) (o := exo a C none) (by rw [ea1]; exact True.intro) (.inl rfl) k ⟨_, hx⟩ (exo_ok hx)
  have eu : upd H1 a (exo a C none) = H1 := by
    funext b
    by_cases hb : b = a
    · rw [hb, upd_same, ea1]
    · rw [upd_ne hb]
  rw [eu] at J
  exact ⟨by first | rfl | trivial, H1, unpin (unpin J), hR⟩
end

/-- an __init__ that keeps its arguments as fields -/
def spX (C : Addr) (fields : List Str) : Sp := fun vs H Q E => ∃ a args, vs = .ref a :: args ∧ args.length = fields.length ∧ H a = some (exo a C none) ∧
  ∀ dx, H dx = none → dx ≠ a → Q .non (upd (upd H dx (exd dx (fields.zip args).reverse)) a (exo a C (some dx)))
section
variable {CX : CXT} {P : Program} {w : World} {K : PySem.W.Frag} {mg : Str → Option Value} {base : Heap} {F : NF} {f cc D C : Addr} {k : Nat} {self p q fld fld2 : Str} {oc : Value} {od : Option Addr} {doc pm ctv : Value} {osl : Array (Option Value)} {ar : Arg} {p0 p1 p2 p3 p4 q1 q2 q3 q4 q5 r1 r2 r3 r4 r5 : Pos} {N ps : List Str}
theorem supCells {X : List (Str × Addr)} {s : Shared} {H : Hp} {A : Around} {outer : List Env} (hcl : F.cl = [(("__class__" : Str), cc)]) (SF : SupF P K mg f F.c cc D C (F.fd doc pm ctv) ar) (e0 : Env0 P w K mg base A outer s H) : CellsAt F.cl [("__class__" : Str)] [some (.ref D)] s.heap H := by
  have KX : K.In s.heap := e0.mod.kin.keeps fun b o e => (e0.bs b o e).1
  obtain ⟨cl, cld, csl, lcc⟩ := SF.hcell
  have one : ∀ y c, F.cl.lookup y = some c → y = "__class__" ∧ c = cc := fun y c h => by
    rw [hcl] at h
    by_cases hy : y = "__class__"
    · subst hy
      simp [List.lookup] at h
      exact ⟨rfl, h.symm⟩
    · have e : (y == ("__class__" : Str)) = false := by simpa using hy
      simp [List.lookup, e] at h
  refine ⟨rfl, fun y c h => ?_, fun x y c h1 h2 => by rw [(one x c h1).1, (one y c h2).1], fun i y h => ?_⟩
  · obtain ⟨_, rfl⟩ := one y c h
    exact ⟨(e0.bs _ _ (e0.mod.kin _ _ lcc)).2, _, _, KX _ _ lcc, rfl⟩
  · cases i with
    | zero =>
      simp only [List.getElem?_cons_zero, Option.some.injEq] at h
      subst h
      refine ⟨cc, by rw [hcl]; simp [List.lookup], fun v hv => ?_⟩
      simp only [List.getElem?_cons_zero, Option.some.injEq] at hv
      subst hv
      exact ⟨.ref D, rfl, _, KX _ _ lcc, rfl⟩
    | succ i => simp at h
/-- such an __init__, its first statement super's -/
theorem fnX_of {e : Expr} {es : List Expr} {rest : List Stmt} {sp : Sp} (lf : K.lookup f = some ⟨oc, od, .func (F.fd doc pm ctv), osl⟩) (hcd : PySem.W.codeIn K (.ref F.c) F.qual = true) (hcl : F.cl = [(("__class__" : Str), cc)]) (S : NScope N ps [("__class__" : Str)] F.scope)
    (hbd : F.body = .Expr (.Call (.Attribute (.Call (.Name "super" p0) [] [] p1) "__init__" p2) (e :: es) [] p3) p4 :: rest) (SF : SupF P K mg f F.c cc D C (F.fd doc pm ctv) ar) (hself : ps[0]? = some ar.arg) (hsup : F.scope.names.lookup ("super" : Str) = some .globalImplicit)
    (len : ∀ vs H Q E, sp vs H Q E → vs.length = ps.length)
    (h : ∀ (A : Around) (outer : List Env) (s : Shared) (H : Hp) (vs : List V) (Q : VK) (E : XK), sp vs H Q E → ∃ (a : Addr) (ta : TA) (t : TS), vs[0]? = some (.ref a) ∧ H a = some (exo a C none) ∧
      PA (ncx CX P w K mg base N F f A outer s H E) (e :: es) ta ∧ PSs (ncx CX P w K mg base N F f A outer s H E) rest t ∧
      ta (startF N vs [some (.ref D)]) H fun us H1 => us.length ≤ 1000 ∧ H1 a = some (exo a C none) ∧ t { nx := fun _ H' => Q .non H', rt := Q } (startF N vs [some (.ref D)]) H1)
    (hs : ∀ (A : Around) (outer : List Env) (s : Shared) (H : Hp) (E : XK), swapsWith (.Call (.Attribute (.Call (.Name "super" p0) [] [] p1) "__init__" p2) (e :: es) [] p3) none p4.line (ncx CX P w K mg base N F f A outer s H E).env = pure false := by intros; rfl)
    (hc : ∀ (A : Around) (outer : List Env) (s : Shared) (H : Hp) (E : XK), ∃ pl : Sem Bool, eval (.Call (.Attribute (.Call (.Name "super" p0) [] [] p1) "__init__" p2) (e :: es) [] p3) (ncx CX P w K mg base N F f A outer s H E).env = (do
      let ov ← attributeBase (.Call (.Name "super" p0) [] [] p1) "__init__" (ncx CX P w K mg base N F f A outer s H E).env (eval (.Call (.Name "super" p0) [] [] p1) (ncx CX P w K mg base N F f A outer s H E).env)
      standAt p2.atName
      let (fo, first) ← holding [ov] (getMethod ov "__init__" pl)
      callWith p3 fo first (backTo p3 (starEach (e :: es) (ncx CX P w K mg base N F f A outer s H E).env)) []) := by intros; exact ⟨_, rfl⟩)
    (he : ∀ (A : Around) (outer : List Env) (s : Shared) (H : Hp) (E : XK), starEach (e :: es) (ncx CX P w K mg base N F f A outer s H E).env = (false, eval e (ncx CX P w K mg base N F f A outer s H E).env) :: starEach es (ncx CX P w K mg base N F f A outer s H E).env := by intros; rfl)
    (hpl : ∀ (A : Around) (outer : List Env) (s : Shared) (H : Hp) (E : XK), (backTo p3 (starEach es (ncx CX P w K mg base N F f A outer s H E).env)).any (·.1) = false := by intros; rfl) :
    FnOk P w K mg base CX (k + 1) f (F.fd doc pm ctv) ps sp := by
  refine ⟨len, fun A outer s H args us vs Q E hr e0 hb r hsp => ?_⟩
  have KX : K.In s.heap := e0.mod.kin.keeps fun b o e => (e0.bs b o e).1
  have hl := len _ _ _ _ hsp
  have lim : s.heap.NoLimit := e0.mod.nolimit.keeps fun b o e => (e0.bs b o e).1
  obtain ⟨a, ta, t, h0, ea, hpa, hps, hw⟩ := h A outer s H vs Q E hsp
  refine codeAny_call_function hr.depth (KX _ _ lf) rfl S.co S.gen rfl (PySem.W.codeRec_of KX hcd) (hb _ _ _ _ ?_)
  refine wpAny_newFunctionEnv S.nocell (fun ⟨n, _⟩ hy => S.par n (List.of_mem_zip hy).1) (fun h₁ hns hsb => ⟨lim.fresh _ hsb, ?_⟩) S.kind
  show codeAny _ _ (.func F.body (envF F f s.heap.objs.size)) _ _
  refine ks_codeAny_funcAt ?_
  have kp : ∀ b o, s.heap.get? b = some o → h₁.get? b = some o := fun b o e => hsb.extBut b o (Nat.ne_of_lt (Heap.lt_size e)) (Heap.get?_push_of_some _ e)
  have I : Inv (ncx CX P w K mg base N F f A outer s H E) [] (startF N vs [some (.ref D)]) H { s with heap := h₁, toks := s.toks + (ps.zip us).length } := inv_startN S hr.hd e0 hl r (supCells (X := []) hcl SF e0) hns kp
  have hN0 : N[0]? = some ar.arg := by
    have hpos : 0 < ps.length := (List.getElem?_eq_some_iff.mp hself).1
    have q : (N.take (ps.length + [("__class__" : Str)].length))[0]? = (ps ++ [("__class__" : Str)])[0]? := by rw [S.pre]
    rw [List.getElem?_take_of_lt (by simp), List.getElem?_append_left hpos] at q
    rw [q]; exact hself
  have hs0 : (startF N vs [some (V.ref D)])[0]? = some (some (.ref a)) := by
    have hpos : 0 < vs.length := (List.getElem?_eq_some_iff.mp h0).1
    unfold startF
    rw [List.getElem?_append_left (by simpa using hpos), List.getElem?_map, h0]
    rfl
  have hka : F.scope.names.lookup ar.arg = some .local := S.par _ (List.mem_of_getElem? hself)
  have fin : ∀ {σ' : L2.St} {H' : Hp} {v : V} {u : Value} {s' : Shared}, Inv (ncx CX P w K mg base N F f A outer s H E) [] σ' H' s' → L2.RelV v u → Q v H' → CE outer P w H s Q u s' :=
    fun {σ' H' v u s'} J rv q => ⟨v, H', J.os, J.bare, J.base, J.hok, rv, q⟩
  obtain ⟨pl, hc'⟩ := hc A outer s H E
  rw [hbd]
  refine ks_wpAt_execs_cons ?_
  rw [← hbd]
  refine PySem.wpAt_mono (sup_ok (X := ncx CX P w K mg base N F f A outer s H E) (body := F.body) (R := fun H1 => t { nx := fun _ H' => Q .non H', rt := Q } (startF N vs [some (.ref D)]) H1) (E := (ncx CX P w K mg base N F f A outer s H E).xe)
    SF hsup (S.frk _ List.mem_cons_self) hka rfl rfl (by show F.cl.lookup _ = _; rw [hcl]; simp [List.lookup]) hN0 hs0 ea I hpa hw (fun _ _ z => z) I.quiet (hs A outer s H E) hc' (he A outer s H E) (hpl A outer s H E)) (fun fl s' hh => ?_) (fun _ _ z => z)
  obtain ⟨efl, H1, I1, hR⟩ := hh
  subst efl
  refine PySem.wpAt_of_wpAny ?_
  refine wpAny_mono (hps.run [] _ _ H1 _ I1 hR) (fun fl s2 hs2 => ?_) fun e s2 z => z
  cases fl with
  | ret u =>
    obtain ⟨v, σ', H', J, rv, q⟩ := hs2
    exact fin J rv q
  | next =>
    obtain ⟨σ', H', J, q⟩ := hs2
    exact fin (v := V.non) (u := Value.none) J rfl q
  | brk =>
    obtain ⟨_, _, _, q⟩ := hs2
    exact False.elim q
  | cont =>
    obtain ⟨_, _, _, q⟩ := hs2
    exact False.elim q
end
end VL
set_option Elab.async false
set_option linter.all false
set_option maxRecDepth 100000
set_option maxHeartbeats 4000000
/-! VX1: the __init__s of one and of two arguments. -/
namespace VL
open PySem PySem.Spec PyProof.Rows L2 NdefX ClX
section
variable {CX : CXT} {P : Program} {w : World} {K : PySem.W.Frag} {mg : Str → Option Value} {base : Heap} {F : NF} {f cc D C : Addr} {k : Nat} {self p q fld fld2 : Str} {oc : Value} {od : Option Addr} {doc pm ctv : Value} {osl : Array (Option Value)} {ar : Arg} {p0 p1 p2 p3 p4 q1 q2 q3 q4 q5 r1 r2 r3 r4 r5 s1 s2 : Pos}
theorem fnX1 (lf : K.lookup f = some ⟨oc, od, .func (F.fd doc pm ctv), osl⟩) (hcd : PySem.W.codeIn K (.ref F.c) F.qual = true) (hcl : F.cl = [(("__class__" : Str), cc)]) (S : NScope [self, p, "__class__"] [self, p] [("__class__" : Str)] F.scope)
    (hbd : F.body = [.Expr (.Call (.Attribute (.Call (.Name "super" p0) [] [] p1) "__init__" p2) [.Name p q1] [] p3) p4, .Assign [.Attribute (.Name self q2) fld q3] (.Name p q4) q5])
    (SF : SupF P K mg f F.c cc D C (F.fd doc pm ctv) ar) (hself : ar.arg = self) (hsup : F.scope.names.lookup ("super" : Str) = some .globalImplicit) (hno : PySem.W.findIn K (.ref C) fld = some none)
    (d1 : (self == ("__debug__" : Str)) = false) (d2 : (self == ("__classdict__" : Str)) = false) (d3 : (p == ("__debug__" : Str)) = false) (d4 : (p == ("__classdict__" : Str)) = false)
    (hc : ∀ (A : Around) (outer : List Env) (s : Shared) (H : Hp) (E : XK), ∃ pl : Sem Bool, eval (.Call (.Attribute (.Call (.Name "super" p0) [] [] p1) "__init__" p2) [.Name p q1] [] p3) (ncx CX P w K mg base [self, p, "__class__"] F f A outer s H E).env = (do
      let ov ← attributeBase (.Call (.Name "super" p0) [] [] p1) "__init__" (ncx CX P w K mg base [self, p, "__class__"] F f A outer s H E).env (eval (.Call (.Name "super" p0) [] [] p1) (ncx CX P w K mg base [self, p, "__class__"] F f A outer s H E).env)
      standAt p2.atName
      let (fo, first) ← holding [ov] (getMethod ov "__init__" pl)
      callWith p3 fo first (backTo p3 (starEach [.Name p q1] (ncx CX P w K mg base [self, p, "__class__"] F f A outer s H E).env)) [])) :
    FnOk P w K mg base CX (k + 1) f (F.fd doc pm ctv) [self, p] (spX C [fld]) := by
  have hk0 : F.scope.names.lookup self = some .local := S.par _ (List.mem_cons_self)
  have hk1 : F.scope.names.lookup p = some .local := S.par _ (List.mem_cons_of_mem _ List.mem_cons_self)
  refine fnX_of (hc := hc) lf hcd hcl S hbd SF (by rw [hself]; rfl) hsup (fun vs H Q E ⟨a, args, e, hl, _⟩ => by subst e; simpa using hl) fun A outer s H vs Q E ⟨a, args, e, hl, ea, hq⟩ => ?_
  subst e
  match args, hl with
  | [y], _ =>
    refine ⟨a, _, _, rfl, ea, pa_cons (pv 1 rfl (Or.inl hk1) d3 d4) pa_nil, pss_one (ps_ost (pv 0 rfl (Or.inl hk0) d1 d2) (pv 1 rfl (Or.inl hk1) d3 d4)), ?_⟩
    refine ⟨y, rfl, by simp, ea, ?_⟩
    refine ⟨y, rfl, .ref a, rfl, a, C, rfl, SF.T, hno, .inl ⟨ea, fun dx hdx hne => ?_⟩⟩
    exact hq dx hdx hne
theorem upd_swap {H : Hp} {a dx : Addr} {o1 o2 o3 : HO} (h : dx ≠ a) : upd (upd (upd H dx o1) a o2) dx o3 = upd (upd H dx o3) a o2 := by
  funext b
  by_cases h1 : b = dx
  · subst h1; rw [upd_same, upd_ne h, upd_same]
  · rw [upd_ne h1]
    by_cases h2 : b = a
    · subst h2; rw [upd_same, upd_same]
    · rw [upd_ne h2, upd_ne h2, upd_ne h1, upd_ne h1]
theorem fnX2 (lf : K.lookup f = some ⟨oc, od, .func (F.fd doc pm ctv), osl⟩) (hcd : PySem.W.codeIn K (.ref F.c) F.qual = true) (hcl : F.cl = [(("__class__" : Str), cc)]) (S : NScope [self, p, q, "__class__"] [self, p, q] [("__class__" : Str)] F.scope)
    (hbd : F.body = [.Expr (.Call (.Attribute (.Call (.Name "super" p0) [] [] p1) "__init__" p2) [.Name p q1, .Name q s1] [] p3) p4, .Assign [.Attribute (.Name self q2) fld q3] (.Name p q4) q5, .Assign [.Attribute (.Name self r2) fld2 r3] (.Name q r4) r5])
    (SF : SupF P K mg f F.c cc D C (F.fd doc pm ctv) ar) (hself : ar.arg = self) (hsup : F.scope.names.lookup ("super" : Str) = some .globalImplicit) (hno : PySem.W.findIn K (.ref C) fld = some none) (hno2 : PySem.W.findIn K (.ref C) fld2 = some none)
    (d1 : (self == ("__debug__" : Str)) = false) (d2 : (self == ("__classdict__" : Str)) = false) (d3 : (p == ("__debug__" : Str)) = false) (d4 : (p == ("__classdict__" : Str)) = false) (d5 : (q == ("__debug__" : Str)) = false) (d6 : (q == ("__classdict__" : Str)) = false)
    (hc : ∀ (A : Around) (outer : List Env) (s : Shared) (H : Hp) (E : XK), ∃ pl : Sem Bool, eval (.Call (.Attribute (.Call (.Name "super" p0) [] [] p1) "__init__" p2) [.Name p q1, .Name q s1] [] p3) (ncx CX P w K mg base [self, p, q, "__class__"] F f A outer s H E).env = (do
      let ov ← attributeBase (.Call (.Name "super" p0) [] [] p1) "__init__" (ncx CX P w K mg base [self, p, q, "__class__"] F f A outer s H E).env (eval (.Call (.Name "super" p0) [] [] p1) (ncx CX P w K mg base [self, p, q, "__class__"] F f A outer s H E).env)
      standAt p2.atName
      let (fo, first) ← holding [ov] (getMethod ov "__init__" pl)
      callWith p3 fo first (backTo p3 (starEach [.Name p q1, .Name q s1] (ncx CX P w K mg base [self, p, q, "__class__"] F f A outer s H E).env)) [])) :
    FnOk P w K mg base CX (k + 1) f (F.fd doc pm ctv) [self, p, q] (spX C [fld, fld2]) := by
  have hk0 : F.scope.names.lookup self = some .local := S.par _ (List.mem_cons_self)
  have hk1 : F.scope.names.lookup p = some .local := S.par _ (List.mem_cons_of_mem _ List.mem_cons_self)
  have hk2 : F.scope.names.lookup q = some .local := S.par _ (List.mem_cons_of_mem _ (List.mem_cons_of_mem _ List.mem_cons_self))
  refine fnX_of (hc := hc) lf hcd hcl S hbd SF (by rw [hself]; rfl) hsup (fun vs H Q E ⟨a, args, e, hl, _⟩ => by subst e; simpa using hl) fun A outer s H vs Q E ⟨a, args, e, hl, ea, hq⟩ => ?_
  subst e
  match args, hl with
  | [y, z], _ =>
    refine ⟨a, _, _, rfl, ea, pa_cons (pv 1 rfl (Or.inl hk1) d3 d4) (pa_cons (pv 2 rfl (Or.inl hk2) d5 d6) pa_nil), pss_cons (ps_ost (pv 0 rfl (Or.inl hk0) d1 d2) (pv 1 rfl (Or.inl hk1) d3 d4)) (pss_one (ps_ost (pv 0 rfl (Or.inl hk0) d1 d2) (pv 2 rfl (Or.inl hk2) d5 d6))), ?_⟩
    refine ⟨y, rfl, z, rfl, by simp, ea, ?_⟩
    refine ⟨y, rfl, .ref a, rfl, a, C, rfl, SF.T, hno, .inl ⟨ea, fun dx hdx hne => ?_⟩⟩
    refine ⟨z, rfl, .ref a, rfl, a, C, rfl, SF.T, hno2, .inr ⟨dx, _, upd_same, by rw [upd_ne hne, upd_same], by simp, ?_⟩⟩
    show Q .non _
    rw [upd_swap hne]
    exact hq dx hdx hne
end
end VL
set_option Elab.async false
set_option linter.all false
set_option maxRecDepth 100000
set_option maxHeartbeats 4000000
/-! VX2: own exceptions by values: made, raised, their fields, isinstance, caught. -/
namespace PySem.W
open PySem PySem.Spec PySem.Calls PyProof.Rows
section
variable {prog : Program} {w : World} {A : Around} {E : Value → Shared → Prop} {s : Shared} {K : Frag} {x D : Addr} {ox : Obj} {od : Option Obj}
theorem vx_findObj {C : Addr} {name : Str} {a g : Value} (hc : (clsIn K C).isSome = true) (ha : findIn K (.ref C) name = some (some a)) (hg : specialIn K a "__get__" = some (some g)) (ht : takesIn K a = some true) : findObj K C od name = some (.bind g a) := by
  obtain ⟨cd, hc⟩ := Option.isSome_iff_exists.mp hc
  unfold findObj
  rw [hc, Option.bind_some, ha, Option.bind_some]
  simp [hg, ht]
theorem vx_class {Q : Option Value → Shared → Prop} (hga : findIn K (.ref D) "__getattribute__" = some (some (.builtin "BaseException.__getattribute__"))) (hgt : findIn K (.ref D) "__getattr__" = some none) (hsub : subIn K (.ref D) (.type "BaseException") = some true)
    (hdct : hasDictIn K D = true) (ha : findIn K (.ref D) "__class__" = some (some (.builtin "object.__class__")))
    (hn : specialIn K (.builtin "object.__class__") "__get__" = some (some (.builtin "getset_descriptor.__get__"))) (htk : takesIn K (.builtin "object.__class__") = some true) (hm : mroIn K D (.type "object") = some true)
    (X : K.In s.heap) (I : InstAt s.heap x ox D od) (h : Q (some (.ref D)) { s with toks := s.toks + 1 }) : wpAny (model prog w) A (getAttr? (.ref x) "__class__") Q E s := by
  have hf : findObj K D od "__class__" = some (.bind (.builtin "getset_descriptor.__get__") (.builtin "object.__class__")) := vx_findObj (by obtain ⟨cd, hc, _⟩ := any_some hdct; rw [hc]; rfl) ha hn htk
  obtain ⟨hp, g, d, t, os⟩ := s
  have L0 := I.type (M := model prog w)
  have L1 := looks_findIn (M := model prog w) X hga
  have L2 := looks_findIn (M := model prog w) X hgt
  have L3 := looks_find (M := model prog w) X I hf
  have sub : Looks (model prog w) hp (isInstance (.ref x) (.type "BaseException")) true := L0.andThen (looks_subIn X hsub)
  have hx0 : (false && onTheHeap (Value.builtin "BaseException.__getattribute__")) = false := rfl
  have hx2 : (Value.builtin "BaseException.__getattribute__" == Value.builtin "object.__getattribute__") = false := by decide +kernel
  have hx1 : (onTheHeap (Value.ref D) && Value.builtin "BaseException.__getattribute__" == Value.builtin "object.__getattribute__") = false := by rw [hx2]; rfl
  unfold getAttr? getAttrBy? getAttrBy
  refine wpAny_bind (wpAny_mkText (wpAny_bind (wpAny_attempt (wpAny_holding (wpAny_bind (L0.at (wpAny_bind (L1.at ?_))))))))
  show wpAny _ _ (if (onTheHeap (Value.ref D) && Value.builtin "BaseException.__getattribute__" == Value.builtin "object.__getattribute__") = true then _ else _) _ _ _
  rw [hx1, if_neg Bool.false_ne_true]
  unfold getAttrByItsOwn hookBefore
  refine wpAny_bind ?_
  rw [if_pos (show onTheHeap (Value.ref D) = true from rfl)]
  refine L2.at ?_
  refine wpAny_bind (wpAny_attempt (wpAny_holding ?_))
  unfold callGetattribute
  rw [hx0, if_neg Bool.false_ne_true]
  unfold boundAndCalled
  rw [PySem.F.excAttr_ValueError.ga.bind (.ref x)]
  refine wpAny_bind (wpAny_pure ?_)
  show wpAny _ _ (call (.builtin "BaseException.__getattribute__") [.ref x, .str "__class__" t]) _ _ _
  refine wpAny_call (codeAny_call_builtin PySem.F.excAttr_ValueError.ga.plain PySem.F.entry_bexc_ga ?_)
  refine @check_slot (model prog w) _ _ ⟨hp, g, d, t + 1, os⟩ "BaseException.__getattribute__" "BaseException" "__getattribute__" (.ref x) [.str "__class__" t] [] _ (by decide +kernel) (by decide +kernel) sub (PySem.F.args_bexc_ga (.ref x) (.str "__class__" t)) ?_
  unfold Builtin.«object.__getattribute__»
  refine wpAny_bind (wpAny_of_eq (a := ((Value.ref x : Value), [Value.str "__class__" t])) (by first | rfl | (simp only [slotArgs]; rfl)) ?_)
  refine wpAny_bind (wpAny_pure (wpAny_bind (L0.at (wpAny_bind (L3.at ?_)))))
  show wpAny _ _ (holding [Value.builtin "object.__class__"] (call (.builtin "getset_descriptor.__get__") [.builtin "object.__class__", .ref x, .ref D]) >>= ret) _ _ _
  refine wpAny_bind (wpAny_holding (wpAny_call (class_get (s := ⟨hp, g, d, t + 1, os⟩) (ox := ox) (od := od) X I hm ?_)))
  refine wpAny_pure ?_
  show wpAny _ _ (handedOut (.ref D)) _ _ _
  rw [handedOut_of (v := .ref D) rfl]
  first
    | exact wpAny_pure (wpAny_pure h)
    | exact wpAny_pure h
    | exact wpAny_pure (wpAny_bind (wpAny_pure (wpAny_pure h)))
theorem vx_kit (hga : findIn K (.ref D) "__getattribute__" = some (some (.builtin "BaseException.__getattribute__"))) (hgt : findIn K (.ref D) "__getattr__" = some none) (hsub : subIn K (.ref D) (.type "BaseException") = some true) (hdct : hasDictIn K D = true) (ha : findIn K (.ref D) "__class__" = some (some (.builtin "object.__class__")))
    (hn : specialIn K (.builtin "object.__class__") "__get__" = some (some (.builtin "getset_descriptor.__get__"))) (htk : takesIn K (.builtin "object.__class__") = some true) (hm : mroIn K D (.type "object") = some true) :
    KitX K (.ref x) (.ref D) (fun h => InstAt h x ox D od) where
  ty := fun _ _ _ I => I.type
  it := fun _ _ X _ => by
    obtain ⟨cdD, hcD, _⟩ := any_some hdct
    unfold clsIn at hcD
    split at hcD
    · rename_i c' d' cd' sl' ho
      intro A' Q' E' s' k q
      unfold isType loadHead
      exact wpAny_bind (wpAny_loadPart (k _ _ (X _ _ ho)) (wpAny_pure q))
    · cases hcD
  ne := fun h tp dd its n sl X htp => by
    obtain ⟨cdD, hcD, _⟩ := any_some hdct
    refine Bool.eq_false_iff.mpr fun q => ?_
    have e : D = tp := Value.ref.inj (beq_iff_eq.mp q)
    subst e
    unfold clsIn at hcD
    split at hcD
    · rename_i c' d' cd' sl' ho
      have z := (X _ _ ho).symm.trans htp
      cases z
    · cases hcD
  ca := fun X I k => vx_class hga hgt hsub hdct ha hn htk hm X I k
end
end PySem.W
namespace VL
open PySem PySem.Spec PyProof.Rows L2 NdefX ClX

/-- an own exception class without own __init__ -/
abbrev veTail : List Value := [.type "ValueError", .type "Exception", .type "BaseException", .type "object"]
structure VEx0 (K : PySem.W.Frag) (mg : Str → Option Value) (cn : Str) : Prop where
  ex : ∃ C, mg cn = some (.ref C) ∧ PySem.W.excIn K C veTail "ValueError.__new__" = true ∧ PySem.W.keepIn K (.ref C) = true ∧ PySem.W.subIn K (.ref C) (.type "BaseException") = some true ∧ PySem.W.typeIn K (.ref C) = some (.type "type")
/-- the class has such instances that their field f may be read -/
def XfF (K : PySem.W.Frag) (mg : Str → Option Value) (cn f : Str) : Prop := ∀ C, mg cn = some (.ref C) → XfC K C ∧ PySem.W.findIn K (.ref C) f = some none

section
variable {X : Cx} {C fI : Addr} {k : Nat} {fd : FuncData} {ps : List Str} {sp : Sp} {e : Expr} {es : List Expr} {ta : TA} {x : Str} {p pos : Pos}
/-- C() without own __init__: as a value, raised -/
theorem run_ex0 {pins : List (Addr × Obj)} {σ : L2.St} {H : Hp} {s : Shared} {Q : Value → Shared → Prop} {E : Value → Shared → Prop} {A : Around} (q : PySem.W.excIn X.K C veTail "ValueError.__new__" = true) (I : Inv X pins σ H s)
    (h : ∀ h' a, Heap.MadeExcOf s.heap h' a (.ref C) [] → H a = none → Q (.ref a) { s with heap := h' }) : wpAny (model X.prog X.w) A (call (.ref C) []) Q E s := by
  obtain ⟨hp, g, dr, tk, os⟩ := s
  obtain ⟨bm, N, nm, qn, bs, hdct, sn, sub, ab, col, dd, k0, k1, k2, k3, k5, mN, hC, hN, hni, T⟩ := exc_obj I.kIn q
  exact wpAny_call_exc_subT PySem.F.excBase_ValueError T hC hN hni (fun h' a hm => h h' a hm (I.hok.gone hm.new)) (by simp)
theorem pe_ex0 (q : PySem.W.excIn X.K C veTail "ValueError.__new__" = true) (gC : X.mg x = some (.ref C)) (kC : PySem.W.keepIn X.K (.ref C) = true) (hg : Gl X x) (hdb : (x == ("__debug__" : Str)) = false := by decide) :
    PE X (.Call (.Name x p) [] [] pos) (fun σ H Q => ∀ a, H a = none → Q (.ref a) (upd H a (exo a C none))) := by
  refine ⟨fun pins s σ H Q I h => ?_⟩
  refine wpAny_Call_Name_kw (ld_glob I hg gC ?_ hdb)
  refine PySem.W.callWith_K0 I.kIn kC (run_ex0 q I fun h' a hm ha => ?_)
  obtain ⟨t, ht, _, _⟩ := hm.there
  exact ⟨.ref a, upd H a (exo a C none), I.laidN (t' := s.toks) hm.keeps hm.new ha (exo_ok ht), rfl, h a ha⟩
theorem pmk_ex0 (q : PySem.W.excIn X.K C veTail "ValueError.__new__" = true) (gC : X.mg x = some (.ref C)) (kC : PySem.W.keepIn X.K (.ref C) = true) (r : Raises X (.ref C)) (hg : Gl X x) (hdb : (x == ("__debug__" : Str)) = false := by decide) :
    PMk X (.Call (.Name x p) [] [] pos) (fun _ H Q => Q (.ref C) none H) := by
  intro pins s σ H Q I h
  refine wpAny_Call_Name_kw (ld_glob I hg gC ?_ hdb)
  refine PySem.W.callWith_K0 I.kIn kC (run_ex0 q I fun h' a hm ha => ?_)
  exact mk_of I hm r h ha
end
end VL
set_option Elab.async false
set_option linter.all false
set_option maxRecDepth 100000
set_option maxHeartbeats 4000000
/-! VX3: own exceptions made with keywords. -/
namespace PySem
namespace VXK
open PySem.W PySem.Calls PyProof.Rows PySem.HandSPX
section
variable {M : Model} {A : Around} {E : Value → Shared → Prop} {h : Heap} {g : Array GenState} {d : Drawn} {t : Nat} {os : OsState}
variable {nm q : Str} {C N : Addr} {bs bm bmB : List Value} {hdct : Bool} {sn : List Str} {sub : List Value} {ab : Bool} {col : Option Bool} {dd : Option Addr} {k0 k1 k2 k3 k5 : Option Value} {B newId initId : String} {kw : List (Str × Value)}
theorem check_new_ownK (F : ExcBaseFacts B newId initId bmB) (hT : ∀ X : String, bm.contains (.type X) = bmB.contains (.type X)) {rest : List Value} {Q : Unit → Shared → Prop}
    (hC : h.get? C = some (excClassObj nm q C N bs bm hdct sn sub ab col dd k0 k1 k2 k3 k5 newId)) (hq : Q () ⟨h, g, d, t, os⟩) : wpAny M A (checkBuiltinCall newId ⟨.ref C :: rest, kw⟩) Q E ⟨h, g, d, t, os⟩ := by
  have hcont : (Value.ref C :: bm).contains (.type B) = true := by rw [List.contains_cons, hT, F.hasB, Bool.or_true]
  have hstar := F.noStar
  simp only [checkBuiltinCall, F.newKind, F.newSplit, F.newRow]
  repeat (first | refine wpAny_loadPart_at hC ?_ | (refine wpAny_isSubtype_exc hC ?_; rw [hcont]) | refine wpAny_staticBase_exc hC ?_ | refine wpAny_madeBy_exc hC ?_ | simp only [bne_self_eq_false, Bool.false_eq_true, if_false] | wp_step)
  exact hq
end
section
variable {prog : Program} {w : World} {A : Around} {E : Value → Shared → Prop} {R : Result → Shared → Prop} {h : Heap} {g : Array GenState} {d : Drawn} {t : Nat} {os : OsState}
variable {nm q : Str} {C N : Addr} {bs bm bmB : List Value} {hdct : Bool} {sn : List Str} {sub : List Value} {ab : Bool} {col : Option Bool} {dd : Option Addr} {k0 k1 k2 k3 k5 : Option Value} {B newId initId : String} {kw : List (Str × Value)}
theorem new_ownK (F : ExcBaseFacts B newId initId bmB) (hT : ∀ X : String, bm.contains (.type X) = bmB.contains (.type X)) {rest : List Value}
    (hC : h.get? C = some (excClassObj nm q C N bs bm hdct sn sub ab col dd k0 k1 k2 k3 k5 newId))
    (hq : R (.ok (.ret (.ref (h.objs.size + 1)))) ⟨(h.push { cls := .type "tuple", data := .seq rest.toArray }).push
      { cls := .ref C, data := .fields #[.ref h.objs.size, .none, .none, .none, .bool false, .none] }, g, d, t, os⟩) (hrest : rest.length ≤ sizeLine) :
    codeAny (model prog w) A (.builtin newId ⟨.ref C :: rest, kw⟩) R ⟨h, g, d, t, os⟩ := by
  have hends := F.ends
  have hcB : (Value.ref C :: bm).contains (.type B) = true := by rw [List.contains_cons, hT, F.hasB, Bool.or_true]
  have hcA : (Value.ref C :: bm).contains (.type "AttributeError") = false := by rw [List.contains_cons, hT, F.noAttr]; rfl
  have hcN : (Value.ref C :: bm).contains (.type "NameError") = false := by rw [List.contains_cons, hT, F.noName]; rfl
  refine codeAny_builtinAt F.entry ?_
  unfold Builtin.«BaseException.__new__»
  refine wpAt_bind ?_
  show wpAt _ _ _ (stack >>= _) _ _ _
  refine wpAt_bind (wpAt_stack fun p below => wpAt_of_wpAny ?_)
  wp_walk
  refine wpAt_of_wpAny ?_
  rw [F.owner]
  repeat (first | with_reducible refine wpAny_madeHere_exc F.canon hC ?_ | with_reducible refine wpAny_loadPart_at hC ?_ | (with_reducible refine wpAny_isSubtype_exc hC ?_; first | rw [hcB] | rw [hcA] | rw [hcN]) | wp_step)
  show R _ _
  rw [Heap.size_push]
  exact hq
theorem type_call_ownK (F : ExcBaseFacts B newId initId bmB) (hT : ∀ X : String, bm.contains (.type X) = bmB.contains (.type X)) {rest : List Value} {fI : Addr} {Q : Fin → Shared → Prop}
    (hC : h.get? C = some (excClassObj nm q C N bs bm hdct sn sub ab col dd k0 k1 k2 k3 k5 newId))
    (hi : W.Looks (model prog w) h (typeLookup (.ref C) "__init__") (some (.ref fI))) (hb : ∀ self, W.Looks (model prog w) h (bindSpecial (.ref fI) self) (.ref fI, [self])) (hrest : rest.length ≤ sizeLine)
    (hq : codeAny (model prog w) A (.call (.ref fI) ⟨.ref (h.objs.size + 1) :: rest, kw⟩)
      (fun r s' => match r with | .ok (.ret v) => v = .none ∧ Q (.done (.ret (.ref (h.objs.size + 1)))) s' | .ok _ => False | .error e => E e s')
      ⟨(h.push (W.kdv_tup rest)).push (excO C h.objs.size), g, d, t, os⟩) :
    wpAny (model prog w) A (Builtin.«type.__call__» ⟨.ref C :: rest, kw⟩) Q E ⟨h, g, d, t, os⟩ := by
  repeat (first | with_reducible refine wpAny_loadPart_at hC ?_ | with_reducible refine wpAny_madeBy_exc hC ?_ | wp_step)
  refine codeAny_call_builtin_code (Code.quiet_builtin _ F.quiet) (check_new_ownK F hT hC ?_)
  refine new_ownK F hT hC ?_ hrest
  show wpAny _ _ _ _ _ _
  have k : ∀ b o, h.get? b = some o → ((h.push (W.kdv_tup rest)).push (excO C h.objs.size)).get? b = some o := fun b o e => Heap.get?_push_of_some _ (Heap.get?_push_of_some _ e)
  have hC₁ := k _ _ hC
  have hget : ((h.push (W.kdv_tup rest)).push (excO C h.objs.size)).get? (h.objs.size + 1) = some (excO C h.objs.size) := by heap_get
  have hcC : (Value.ref C :: bm).contains (.ref C) = true := by simp
  have i1 := hi.keeps k
  have b1 := (hb (.ref (h.objs.size + 1))).keeps k
  unfold isInstance
  repeat (first | with_reducible refine wpAny_loadPart_at hget ?_ | (with_reducible refine wpAny_isSubtype_exc hC₁ ?_; rw [hcC]) | wp_step)
  show wpAny _ _ (typeLookup (.ref C) _) _ _ _
  refine i1.at ?_
  refine wpAny_holding (wpAny_bind (b1.at ?_))
  refine wpAny_bind (wpAny_call (codeAny_mono hq fun r s' z => ?_))
  rcases r with e | (v | _ | _ | _) <;> first | exact z | exact z.elim | skip
  obtain ⟨rfl, z⟩ := z
  first
    | exact wpAny_pure (wpAny_pure z)
    | (wp_walk; exact z)
theorem call_ownK (F : ExcBaseFacts B newId initId bmB) (hT : ∀ X : String, bm.contains (.type X) = bmB.contains (.type X)) {rest : List Value} {fI : Addr}
    (hC : h.get? C = some (excClassObj nm q C N bs bm hdct sn sub ab col dd k0 k1 k2 k3 k5 newId))
    (hi : W.Looks (model prog w) h (typeLookup (.ref C) "__init__") (some (.ref fI))) (hb : ∀ self, W.Looks (model prog w) h (bindSpecial (.ref fI) self) (.ref fI, [self])) (hrest : rest.length ≤ sizeLine)
    (hq : codeAny (model prog w) (A.under (.builtin "type.__call__" ⟨.ref C :: rest, kw⟩)) (.call (.ref fI) ⟨.ref (h.objs.size + 1) :: rest, kw⟩) (W.InitBack (h.objs.size + 1) R)
      ⟨(h.push (W.kdv_tup rest)).push (excO C h.objs.size), g, d, t, os⟩) :
    codeAny (model prog w) A (.call (.ref C) ⟨rest, kw⟩) R ⟨h, g, d, t, os⟩ := by
  have f1 := tc_lookup
  have f2 := tc_bind (.ref C)
  have hTy : (⟨h, g, d, t, os⟩ : Shared).TypeIs (.ref C) "type" := ⟨_, hC, rfl⟩
  refine codeAny_of_tree ?_
  show wpAny _ _ (callAny (.ref C) _) _ _ _
  repeat (any_goals (first | assumption | with_reducible refine wpAny_loadPart_at hC ?_ | wp_step))
  refine ⟨rfl, ?_⟩
  refine codeAny_call_builtin_at (Code.quiet_builtin _ (by decide +kernel)) entry_typeCall (wpAny_check_type_call_sub hC (type_call_ownK F hT hC hi hb hrest ?_))
  refine codeAny_mono hq fun r s' z => ?_
  rcases r with e | (v | _ | _ | _) <;> exact z
end
end VXK
end PySem
set_option Elab.async false
set_option linter.all false
set_option maxRecDepth 100000
set_option maxHeartbeats 4000000
/-! VX4: own exceptions by values: made, raised. -/
namespace VL
open PySem PySem.Spec PyProof.Rows L2 NdefX ClX

/-! ### values in another order -/
def pick {α : Type} (p : List Nat) (l : List α) : List α := p.filterMap (l[·]?)
theorem Reps.pick {K : PySem.W.Frag} {mg : Str → Option Value} {G : Hp} {vs : List V} {ds : List D} (r : Reps K mg G vs ds) : ∀ p : List Nat, Reps K mg G (VL.pick p vs) (VL.pick p ds)
  | [] => .nil
  | i :: p => by
    have ih := Reps.pick r p
    unfold VL.pick at ih ⊢
    rw [List.filterMap_cons, List.filterMap_cons]
    cases e : ds[i]? with
    | none =>
      have e2 : vs[i]? = none := by
        rw [List.getElem?_eq_none_iff] at e ⊢
        rw [r.length]; exact e
      rw [e2]
      exact ih
    | some d =>
      obtain ⟨v, h1, h2⟩ := r.get e
      rw [h1]
      exact .cons h2 ih
theorem Vals.pick {vs : List V} {us : List Value} (r : Vals vs us) : ∀ p : List Nat, Vals (VL.pick p vs) (VL.pick p us)
  | [] => .nil
  | i :: p => by
    have ih := Vals.pick r p
    unfold VL.pick at ih ⊢
    rw [List.filterMap_cons, List.filterMap_cons]
    cases e : vs[i]? with
    | none =>
      have e2 : us[i]? = none := by
        rw [List.getElem?_eq_none_iff] at e ⊢
        rw [← r.length]; exact e
      rw [e2]
      exact ih
    | some d =>
      obtain ⟨u, h1, h2⟩ := r.get e
      rw [h1]
      exact .cons h2 ih
theorem Reps.rev {K : PySem.W.Frag} {mg : Str → Option Value} {G : Hp} : ∀ {vs : List V} {ds : List D}, Reps K mg G vs ds → Reps K mg G vs.reverse ds.reverse
  | _, _, .nil => .nil
  | _, _, .cons h r => by
    rw [List.reverse_cons, List.reverse_cons]
    exact (Reps.rev r).append (.cons h .nil)

/-! ### keywords -/
def tK (X : Cx) (kws : List Keyword) : TA := fun σ H Q => ∀ (pos : Pos) (pins : List (Addr × Obj)) (s : Shared), Inv X pins σ H s → wpAny (model X.prog X.w) X.A (evalAll ((backToKw pos (keywordEach kws X.env)).map (·.2))) (AP X pins σ Q) X.xe s
theorem pk_sem {X : Cx} {kws : List Keyword} : PK X kws (tK X kws) := ⟨fun pos pins s _ _ _ I h => h pos pins s I⟩
theorem tK_of {X : Cx} {kws : List Keyword} {t : TA} {σ : L2.St} {H : Hp} {Q : List V → Hp → Prop} (h : PK X kws t) (q : t σ H Q) : tK X kws σ H Q := fun pos pins s I => h.run pos pins s σ H Q I q
theorem tK_mono {X : Cx} {kws : List Keyword} {σ : L2.St} {H : Hp} {Q Q' : List V → Hp → Prop} (h : tK X kws σ H Q) (hq : ∀ v H', Q v H' → Q' v H') : tK X kws σ H Q' := fun pos pins s I => thn (h pos pins s I) fun _ _ ⟨v, H', I', r, q⟩ => ⟨v, H', I', r, hq v H' q⟩
def VKw (X : Cx) (c : Cv) (S : State) (kws : List Keyword) (Q : List D → State → Prop) : Prop := ∀ σ G H, HdX X c S σ G H → tK X kws σ H (pA X c σ G Q)
theorem vk_nil {X : Cx} {c : Cv} {S : State} {Q : List D → State → Prop} (q : Q [] S) : VKw X c S [] Q := fun σ G H h => tK_of pk_nil ⟨[], S, G, h, Same.refl _, .nil, q⟩
theorem vk_cons {X : Cx} {c : Cv} {S : State} {Q : List D → State → Prop} {nm : Option Str} {e : Expr} {kpos : Pos} {kws : List Keyword} (h : VE X c S e fun d S1 => VKw X c S1 kws fun ds S2 => Q (d :: ds) S2) : VKw X c S (⟨nm, e, kpos⟩ :: kws) Q := fun σ G H hd => by
  refine tK_of (pk_cons pe_sem pk_sem) (tE_mono (h σ G H hd) fun v H1 ⟨d, S1, G1, h1, s1, r1, q1⟩ => tK_mono (q1 σ G1 H1 h1) fun vs H2 ⟨ds, S2, G2, h2, s2, r2, q2⟩ => ?_)
  exact ⟨d :: ds, S2, G2, h2, s1.trans s2, .cons (r1.mono s2) r2, q2⟩

/-- an own exception class whose __init__ (the def st) keeps its arguments in the fields fl -/
structure VEx (P : Program) (w : World) (K : PySem.W.Frag) (mg : Str → Option Value) (base : Heap) (k : Nat) (cn : Str) (fl ps : List Str) (st : Stmt) : Prop where
  ex : ∃ (C fI : Addr) (F : NF) (doc pm ctv : Value), mg cn = some (.ref C) ∧ OexC K C ∧ PySem.W.findIn K (.ref C) "__init__" = some (some (.ref fI)) ∧ PySem.W.typeIn K (.ref fI) = some (.type "function") ∧
    F.params = defArgs st ∧ FnOk P w K mg base (L2.CX P w) k fI (F.fd doc pm ctv) ps (spX C fl)
/-- how its arguments bind: n positional ones, keywords named ks -/
def ExB (st : Stmt) (ps : List Str) (n : Nat) (ks : List Str) (p : List Nat) : Prop :=
  ∀ (F : NF) (doc pm ctv a : Value) (us ws : List Value), F.params = defArgs st → us.length = n → ws.length = ks.length → bindArgs (F.fd doc pm ctv) ⟨a :: us, ks.zip ws⟩ = pure (ps.zip (a :: pick p (us ++ ws)))

section
variable {X : Cx} {C fI : Addr} {k : Nat} {fd : FuncData} {ps : List Str} {sp : Sp} {e : Expr} {es : List Expr} {ta : TA} {x : Str} {p pos : Pos} {CX : CXT} {EX : XK} {pins : List (Addr × Obj)} {σ : L2.St} {H : Hp} {s : Shared} {us full : List Value} {kw : List (Str × Value)} {vs : List V}
theorem run_oex {Q : VK} (T : OexC X.K C) (iC : PySem.W.findIn X.K (.ref C) "__init__" = some (some (.ref fI))) (tI : PySem.W.typeIn X.K (.ref fI) = some (.type "function"))
    (F1 : FnOk X.prog X.w X.K X.mg X.base CX k fI fd ps sp) (hr : Room (k + 1) X.A) (hb : ∀ (a : Value) (s : Shared), BindsTo s fd ⟨a :: us, kw⟩ (ps.zip (a :: full))) (hx : PassesAt CX X σ EX) (I : Inv X pins σ H s) (r : Vals vs full) (hz : us.length ≤ 1000)
    (h : ∀ a, H a = none → sp (.ref a :: vs) (upd H a (exo a C none)) (fun v H2 => v = .non ∧ Q (.ref a) H2) EX) : wpAny (model X.prog X.w) X.A (call (.ref C) us kw) (EP X pins σ Q) X.xe s := by
  obtain ⟨nm, q, N, bs, bm, sn, sub, ab, col, dd, k0, k1, k2, k3, k5, hC, hbm⟩ := T.cls
  obtain ⟨hp, g, dr, tk, os⟩ := s
  have hsz : hp.objs.size ≤ hp.objs.size + 1 := Nat.le_succ _
  have hn : H (hp.objs.size + 1) = none := I.hok.fresh hsz
  have hq := h (hp.objs.size + 1) hn
  have kk : ∀ b o, hp.get? b = some o → ((hp.push (PySem.W.kdv_tup us)).push (PySem.HandSPX.excO C hp.objs.size)).get? b = some o := fun b o e => Heap.get?_push_of_some _ (Heap.get?_push_of_some _ e)
  have hget : ((hp.push (PySem.W.kdv_tup us)).push (PySem.HandSPX.excO C hp.objs.size)).get? (hp.objs.size + 1) = some (PySem.HandSPX.excO C hp.objs.size) := by heap_get
  have I2 : Inv X pins σ (upd H (hp.objs.size + 1) (exo (hp.objs.size + 1) C none)) ⟨(hp.push (PySem.W.kdv_tup us)).push (PySem.HandSPX.excO C hp.objs.size), g, dr, tk, os⟩ :=
    I.laid (t' := tk) (a := hp.objs.size + 1) (o := exo (hp.objs.size + 1) C none) (h' := (hp.push (PySem.W.kdv_tup us)).push (PySem.HandSPX.excO C hp.objs.size)) kk hsz (exo_ok hget)
  have r2 : Vals (V.ref (hp.objs.size + 1) :: vs) (Value.ref (hp.objs.size + 1) :: full) := .cons rfl r
  have hus : us.length ≤ sizeLine := by
    rw [sizeLine_eq]
    omega
  refine wpAny_call (PySem.VXK.call_ownK PySem.F.excBase_ValueError (fun Y => PySem.HandSPX.refsVE_contains Y bm hbm) (I.kIn _ _ hC) (PySem.W.looks_findIn I.kIn iC) (fun self => PySem.W.bind_fn I.kIn self tI) hus
    (codeAny_mono (F1.run _ X.stack _ _ ⟨Value.ref (hp.objs.size + 1) :: us, kw⟩ (Value.ref (hp.objs.size + 1) :: full) _ _ EX (hr.make C us kw) (I2.env0.make C us kw) (hb _ _) r2 hq) fun r s' hq' => ?_))
  cases r with
  | error er => exact hx pins _ _ er s' I2 hq'
  | ok fl =>
    cases fl with
    | ret u =>
      obtain ⟨v, H', I3, rv, ev, q3⟩ := I2.after hq'
      subst ev
      exact ⟨rv, ⟨V.ref (hp.objs.size + 1), H', I3, rfl, q3⟩⟩
    | next => exact False.elim hq'
    | brk => exact False.elim hq'
    | cont => exact False.elim hq'
theorem run_mkx {Q : XK} (T : OexC X.K C) (iC : PySem.W.findIn X.K (.ref C) "__init__" = some (some (.ref fI))) (tI : PySem.W.typeIn X.K (.ref fI) = some (.type "function"))
    (F1 : FnOk X.prog X.w X.K X.mg X.base CX k fI fd ps sp) (hr : Room (k + 1) X.A) (hb : ∀ (a : Value) (s : Shared), BindsTo s fd ⟨a :: us, kw⟩ (ps.zip (a :: full))) (hx : PassesAt CX X σ EX) (I : Inv X pins σ H s) (r : Vals vs full) (hz : us.length ≤ 1000)
    (h : ∀ a, H a = none → sp (.ref a :: vs) (upd H a (exo a C none)) (fun v H2 => v = .non ∧ ∃ (d : Addr) (fs : List (Str × V)), H2 a = some (exo a C (some d)) ∧ H2 d = some (exd d fs) ∧ H d = none ∧ Q (.ref C) (some d) (upd (del H2 a) d (.xd fs))) EX) :
    wpAny (model X.prog X.w) X.A (call (.ref C) us kw) (MkP X pins σ Q) X.xe s := by
  obtain ⟨nm, q, N, bs, bm, sn, sub, ab, col, dd, k0, k1, k2, k3, k5, hC, hbm⟩ := T.cls
  obtain ⟨hp, g, dr, tk, os⟩ := s
  have hsz : hp.objs.size ≤ hp.objs.size + 1 := Nat.le_succ _
  have hn : H (hp.objs.size + 1) = none := I.hok.fresh hsz
  have hq := h (hp.objs.size + 1) hn
  have kk : ∀ b o, hp.get? b = some o → ((hp.push (PySem.W.kdv_tup us)).push (PySem.HandSPX.excO C hp.objs.size)).get? b = some o := fun b o e => Heap.get?_push_of_some _ (Heap.get?_push_of_some _ e)
  have hget : ((hp.push (PySem.W.kdv_tup us)).push (PySem.HandSPX.excO C hp.objs.size)).get? (hp.objs.size + 1) = some (PySem.HandSPX.excO C hp.objs.size) := by heap_get
  have I2 : Inv X pins σ (upd H (hp.objs.size + 1) (exo (hp.objs.size + 1) C none)) ⟨(hp.push (PySem.W.kdv_tup us)).push (PySem.HandSPX.excO C hp.objs.size), g, dr, tk, os⟩ :=
    I.laid (t' := tk) (a := hp.objs.size + 1) (o := exo (hp.objs.size + 1) C none) (h' := (hp.push (PySem.W.kdv_tup us)).push (PySem.HandSPX.excO C hp.objs.size)) kk hsz (exo_ok hget)
  have r2 : Vals (V.ref (hp.objs.size + 1) :: vs) (Value.ref (hp.objs.size + 1) :: full) := .cons rfl r
  have hus : us.length ≤ sizeLine := by
    rw [sizeLine_eq]
    omega
  refine wpAny_call (PySem.VXK.call_ownK PySem.F.excBase_ValueError (fun Y => PySem.HandSPX.refsVE_contains Y bm hbm) (I.kIn _ _ hC) (PySem.W.looks_findIn I.kIn iC) (fun self => PySem.W.bind_fn I.kIn self tI) hus
    (codeAny_mono (F1.run _ X.stack _ _ ⟨Value.ref (hp.objs.size + 1) :: us, kw⟩ (Value.ref (hp.objs.size + 1) :: full) _ _ EX (hr.make C us kw) (I2.env0.make C us kw) (hb _ _) r2 hq) fun r s' hq' => ?_))
  cases r with
  | error er => exact hx pins _ _ er s' I2 hq'
  | ok fl =>
    cases fl with
    | ret u =>
      obtain ⟨v, H2, os2, bare2, un2, hok2, rv, ev, d, fs, ea, ed, hd1, q2⟩ := hq'
      subst ev
      obtain ⟨h2, g2, d2, t2, os'⟩ := s'
      exact ⟨rv, mk_end (raises_own T.exC T.tyC) I hsz kk un2 hok2 os2 bare2 ea ed hd1 q2⟩
    | next => exact False.elim hq'
    | brk => exact False.elim hq'
    | cont => exact False.elim hq'
end
theorem fst_zip_rev (fl : List Str) (vs : List V) (h : vs.length = fl.length) : ((fl.zip vs).reverse.map (·.1)) = fl.reverse := by
  rw [List.map_reverse, List.map_fst_zip (by omega)]
theorem snd_zip_rev (fl : List Str) (vs : List V) (h : vs.length = fl.length) : ((fl.zip vs).reverse.map (·.2)) = vs.reverse := by
  rw [List.map_reverse, List.map_snd_zip (by omega)]
theorem upd_over {H : Hp} {a dx : Addr} {o1 o2 o3 : HO} : upd (upd (upd H a o1) dx o2) a o3 = upd (upd H dx o2) a o3 := by
  funext b
  by_cases h1 : b = a
  · subst h1; rw [upd_same, upd_same]
  · rw [upd_ne h1, upd_ne h1]
    by_cases h2 : b = dx
    · subst h2; rw [upd_same, upd_same]
    · rw [upd_ne h2, upd_ne h2, upd_ne h1]
theorem del_over {H : Hp} {a dx : Addr} {o1 o2 o3 o4 : HO} (ha : H a = none) (hne : dx ≠ a) : upd (del (upd (upd (upd H a o1) dx o2) a o3) a) dx o4 = upd H dx o4 := by
  funext b
  by_cases h2 : b = dx
  · subst h2; rw [upd_same, upd_same]
  · rw [upd_ne h2, upd_ne h2]
    by_cases h1 : b = a
    · subst h1; rw [del_same, ha]
    · rw [del_ne h1, upd_ne h1, upd_ne h2, upd_ne h1]
section
variable {X : Cx} {c : Cv} {S : State} {σ : L2.St} {G H : Hp} {a dx C : Addr} {cn : Str} {fl : List Str} {vs : List V} {ds : List D} {Q : D → State → Prop}
theorem exn_new (h : HdX X c S σ G H) (hC : X.mg cn = some (.ref C)) (r : Reps X.K X.mg G vs ds) (hl : ds.length = fl.length) (ha : H a = none) (hdx : upd H a (exo a C none) dx = none) (hne : dx ≠ a) (q : Q (.exn cn fl.reverse ds.reverse) S) :
    pE X c σ G Q (.ref a) (upd (upd (upd H a (exo a C none)) dx (exd dx (fl.zip vs).reverse)) a (exo a C (some dx))) := by
  rw [upd_over]
  rw [upd_ne hne] at hdx
  have h1 := h.after (h.alloc (o := exd dx (fl.zip vs).reverse) hdx)
  have ha1 : upd H dx (exd dx (fl.zip vs).reverse) a = none := by rw [upd_ne (Ne.symm hne)]; exact ha
  have h2 := h1.after (h1.alloc (o := exo a C (some dx)) ha1)
  have s1 : Same G (upd G dx (exd dx (fl.zip vs).reverse)) := same_upd (h.sub.free hdx)
  have s2 : Same (upd G dx (exd dx (fl.zip vs).reverse)) (upd (upd G dx (exd dx (fl.zip vs).reverse)) a (exo a C (some dx))) := same_upd (h1.sub.free ha1)
  have hl' : vs.length = fl.length := by rw [r.length]; exact hl
  refine ⟨_, S, _, h2, s1.trans s2, .exn (fs := (fl.zip vs).reverse) hC upd_same (by rw [upd_ne hne, upd_same]) (fst_zip_rev fl vs hl') ?_, q⟩
  rw [snd_zip_rev fl vs hl']
  exact (r.rev).mono (s1.trans s2)
theorem exn_raise {x : ExD} (h : HdX X c S σ G H) (hC : X.mg cn = some (.ref C)) (r : Reps X.K X.mg G vs ds) (hl : ds.length = fl.length) (ha : H a = none) (hdx : upd H a (exo a C none) dx = none) (hne : dx ≠ a) (q : c.EV ⟨cn, fl.reverse, ds.reverse⟩ S) :
    WV X c (.ref C) (some dx) σ (upd (del (upd (upd (upd H a (exo a C none)) dx (exd dx (fl.zip vs).reverse)) a (exo a C (some dx))) a) dx (.xd (fl.zip vs).reverse)) := by
  rw [del_over ha hne]
  rw [upd_ne hne] at hdx
  have h1 := h.after (h.alloc (o := .xd (fl.zip vs).reverse) hdx)
  have s1 : Same G (upd G dx (.xd (fl.zip vs).reverse)) := same_upd (h.sub.free hdx)
  have hl' : vs.length = fl.length := by rw [r.length]; exact hl
  refine ⟨S, _, ⟨cn, fl.reverse, ds.reverse⟩, h1, ⟨C, hC, rfl, .inr ⟨dx, (fl.zip vs).reverse, rfl, upd_same, fst_zip_rev fl vs hl', ?_⟩⟩, q⟩
  rw [snd_zip_rev fl vs hl']
  exact (r.rev).mono s1
end
section
variable {X : Cx} {c : Cv} {S : State} {e a b : Expr} {es : List Expr} {kws : List Keyword} {pos pos2 p : Pos} {Q : D → State → Prop} {E : VD} {k : Nat} {cn : Str} {fl ps ks : List Str} {st : Stmt} {pk : List Nat}
theorem takesF (tk : Takes X (WV X c)) : Takes X (fun _ _ _ _ => False) := tk.imp fun _ _ _ _ z => z.elim
/-- C(e, .., k = v, ..) as a value -/
theorem ve_exnK (F : VEx X.prog X.w X.K X.mg X.base k cn fl ps st) (B : ExB st ps (es.length + 1) ks pk) (hr : Room (k + 1) X.A) (tk : Takes X (WV X c)) (hz : es.length < 1000)
    (h : VA X c S (e :: es) fun ds S1 => VKw X c S1 kws fun zs S2 => ds.length = es.length + 1 ∧ zs.length = ks.length ∧ (pick pk (ds ++ zs)).length = fl.length ∧ Q (.exn cn fl.reverse (pick pk (ds ++ zs)).reverse) S2) (hg : Gl X cn := by rfl)
    (hall : (backToKw pos (keywordEach kws X.env)).all (·.1.isSome) = true := by rfl) (hks : (backToKw pos (keywordEach kws X.env)).filterMap (·.1) = ks := by rfl)
    (hdb : (cn == ("__debug__" : Str)) = false := by decide) (he : starEach (e :: es) X.env = (false, eval e X.env) :: starEach es X.env := by rfl)
    (hpl : ((backTo pos (starEach (e :: es) X.env)).any (·.1) || (backToKw pos (keywordEach kws X.env)).any (·.1.isNone)) = false := by rfl) :
    VE X c S (.Call (.Name cn p) (e :: es) kws pos) Q := fun σ G H hd => by
  obtain ⟨C, fI, NFs, doc, pm, ctv, hC, T, iC, tI, hpar, ok⟩ := F.ex
  intro pins s I
  refine wpAny_Call_Name_kw (ld_glob I hg hC ?_ hdb)
  refine PySem.W.callWith_KW (h₀ := X.base) I.ok.mod.kin T.kC hall (thn (h σ G H hd pos pins s I) fun us s1 ⟨vs, H1, I1, r, ds, S1, G1, h1, s2, r1, q1⟩ => ?_) hpl he
  refine thn (q1 σ G1 H1 h1 pos pins s1 I1) fun ws s3 ⟨zs, H2, I2, rz, dz, S2, G2, h2, s4, r2, l1, l2, l3, q2⟩ => ⟨I2.kIn, ?_⟩
  rw [hks]
  have rr := (r1.mono s4).append r2
  have lu : us.length = es.length + 1 := by rw [← r.length, r1.length]; exact l1
  have lw : ws.length = ks.length := by rw [← rz.length, r2.length]; exact l2
  refine run_oex (full := pick pk (us ++ ws)) (vs := pick pk (vs ++ zs)) T iC tI ok hr (fun a s => .of_eq (B NFs doc pm ctv a us ws hpar lu lw)) (passAt (takesF tk) σ) I2 (Vals.pick (r.append rz) pk) (by show us.length ≤ 1000; omega) fun a ha => ?_
  refine ⟨a, _, rfl, by rw [(rr.pick pk).length]; exact l3, upd_same, fun dx hdx hne => ⟨rfl, ?_⟩⟩
  exact pE_back (s2.trans s4) (exn_new h2 hC (rr.pick pk) l3 ha hdx hne q2)
theorem ve_exnK0 (F : VEx X.prog X.w X.K X.mg X.base k cn fl ps st) (B : ExB st ps 0 ks pk) (hr : Room (k + 1) X.A) (tk : Takes X (WV X c))
    (h : VKw X c S kws fun zs S2 => zs.length = ks.length ∧ (pick pk zs).length = fl.length ∧ Q (.exn cn fl.reverse (pick pk zs).reverse) S2) (hg : Gl X cn := by rfl)
    (hall : (backToKw pos (keywordEach kws X.env)).all (·.1.isSome) = true := by rfl) (hks : (backToKw pos (keywordEach kws X.env)).filterMap (·.1) = ks := by rfl)
    (hdb : (cn == ("__debug__" : Str)) = false := by decide)
    (hpl : ((backTo pos (starEach [] X.env)).any (·.1) || (backToKw pos (keywordEach kws X.env)).any (·.1.isNone)) = false := by rfl) :
    VE X c S (.Call (.Name cn p) [] kws pos) Q := fun σ G H hd => by
  obtain ⟨C, fI, NFs, doc, pm, ctv, hC, T, iC, tI, hpar, ok⟩ := F.ex
  intro pins s I
  refine wpAny_Call_Name_kw (ld_glob I hg hC ?_ hdb)
  refine PySem.W.callWith_KW0 (h₀ := X.base) I.ok.mod.kin T.kC hall ?_ hpl
  refine thn (h σ G H hd pos pins s I) fun ws s3 ⟨zs, H2, I2, rz, dz, S2, G2, h2, s4, r2, l2, l3, q2⟩ => ⟨I2.kIn, ?_⟩
  rw [hks]
  have lw : ws.length = ks.length := by rw [← rz.length, r2.length]; exact l2
  refine run_oex (us := []) (full := pick pk ws) (vs := pick pk zs) T iC tI ok hr (fun a s => .of_eq (B NFs doc pm ctv a [] ws hpar rfl lw)) (passAt (takesF tk) σ) I2 (Vals.pick rz pk) (by simp) fun a ha => ?_
  refine ⟨a, _, rfl, by rw [(r2.pick pk).length]; exact l3, upd_same, fun dx hdx hne => ⟨rfl, ?_⟩⟩
  exact pE_back s4 (exn_new h2 hC (r2.pick pk) l3 ha hdx hne q2)
/-- raise C(e, ..) -/
theorem vs_raise (F : VEx X.prog X.w X.K X.mg X.base k cn fl ps st) (B : ExB st ps (es.length + 1) [] pk) (hr : Room (k + 1) X.A) (tk : Takes X (WV X c)) (hc : X.calm = true) (hz : es.length < 1000)
    (h : VA X c S (e :: es) fun ds S1 => ds.length = es.length + 1 ∧ (pick pk ds).length = fl.length ∧ c.EV ⟨cn, fl.reverse, (pick pk ds).reverse⟩ S1) (hg : Gl X cn := by rfl)
    (hdb : (cn == ("__debug__" : Str)) = false := by decide) (he : starEach (e :: es) X.env = (false, eval e X.env) :: starEach es X.env := by rfl) (hpl : (backTo pos (starEach es X.env)).any (·.1) = false := by rfl) :
    VS X c S (.Raise (some (.Call (.Name cn p) (e :: es) [] pos)) none pos2) E := fun σ G H hd => by
  obtain ⟨C, fI, NFs, doc, pm, ctv, hC, T, iC, tI, hpar, ok⟩ := F.ex
  refine tS_of (ps_raise (t := fun σ H Q => tA X (e :: es) σ H fun vs H1 => ∃ (ds : List D) (S1 : State) (G1 : Hp), HdX X c S1 σ G1 H1 ∧ Reps X.K X.mg G1 vs ds ∧ ds.length = es.length + 1 ∧ (pick pk ds).length = fl.length ∧ ∀ a dx, H1 a = none → upd H1 a (exo a C none) dx = none → dx ≠ a →
      Q (.ref C) (some dx) (upd (del (upd (upd (upd H1 a (exo a C none)) dx (exd dx (fl.zip (pick pk vs)).reverse)) a (exo a C (some dx))) a) dx (.xd (fl.zip (pick pk vs)).reverse))) hc tk ?_) ?_
  · intro pins s σ H Q I hh
    refine wpAny_Call_Name_kw (ld_glob I hg hC ?_ hdb)
    refine PySem.W.callWith_K (h₀ := X.base) I.ok.mod.kin T.kC (thn (hh pos pins s I) fun us s1 ⟨vs, H1, I1, r, ds, S1, G1, h1, r1, l1, l3, q1⟩ => ⟨I1.kIn, ?_⟩) he hpl
    have lu : us.length = es.length + 1 := by rw [← r.length, r1.length]; exact l1
    refine run_mkx (us := us) (kw := []) (full := pick pk us) (vs := pick pk vs) T iC tI ok hr (fun a s => ?_) (passAt (takesF tk) σ) I1 (Vals.pick r pk) (by omega) fun a ha => ?_
    · have q := B NFs doc pm ctv a us [] hpar lu rfl
      rw [List.append_nil] at q
      exact .of_eq q
    · refine ⟨a, _, rfl, by rw [(r1.pick pk).length]; exact l3, upd_same, fun dx hdx hne => ⟨rfl, dx, _, upd_same, ?_, ?_, q1 a dx ha hdx hne⟩⟩
      · rw [upd_ne hne, upd_same]
      · rw [upd_ne hne] at hdx; exact hdx
  · exact tA_mono (h σ G H hd) fun vs H1 ⟨ds, S1, G1, h1, s1, r1, l1, l3, q⟩ => ⟨ds, S1, G1, h1, r1, l1, l3, fun a dx ha hdx hne => exn_raise (x := ⟨cn, [], []⟩) h1 hC (r1.pick pk) l3 ha hdx hne q⟩
theorem vs_raiseK0 (F : VEx X.prog X.w X.K X.mg X.base k cn fl ps st) (B : ExB st ps 0 ks pk) (hr : Room (k + 1) X.A) (tk : Takes X (WV X c)) (hc : X.calm = true)
    (h : VKw X c S kws fun ds S1 => ds.length = ks.length ∧ (pick pk ds).length = fl.length ∧ c.EV ⟨cn, fl.reverse, (pick pk ds).reverse⟩ S1) (hg : Gl X cn := by rfl)
    (hall : (backToKw pos (keywordEach kws X.env)).all (·.1.isSome) = true := by rfl) (hks : (backToKw pos (keywordEach kws X.env)).filterMap (·.1) = ks := by rfl)
    (hdb : (cn == ("__debug__" : Str)) = false := by decide)
    (hpl : ((backTo pos (starEach [] X.env)).any (·.1) || (backToKw pos (keywordEach kws X.env)).any (·.1.isNone)) = false := by rfl) :
    VS X c S (.Raise (some (.Call (.Name cn p) [] kws pos)) none pos2) E := fun σ G H hd => by
  obtain ⟨C, fI, NFs, doc, pm, ctv, hC, T, iC, tI, hpar, ok⟩ := F.ex
  refine tS_of (ps_raise (t := fun σ H Q => tK X kws σ H fun vs H1 => ∃ (ds : List D) (S1 : State) (G1 : Hp), HdX X c S1 σ G1 H1 ∧ Reps X.K X.mg G1 vs ds ∧ ds.length = ks.length ∧ (pick pk ds).length = fl.length ∧ ∀ a dx, H1 a = none → upd H1 a (exo a C none) dx = none → dx ≠ a →
      Q (.ref C) (some dx) (upd (del (upd (upd (upd H1 a (exo a C none)) dx (exd dx (fl.zip (pick pk vs)).reverse)) a (exo a C (some dx))) a) dx (.xd (fl.zip (pick pk vs)).reverse))) hc tk ?_) ?_
  · intro pins s σ H Q I hh
    refine wpAny_Call_Name_kw (ld_glob I hg hC ?_ hdb)
    refine PySem.W.callWith_KW0 (h₀ := X.base) I.ok.mod.kin T.kC hall ?_ hpl
    refine thn (hh pos pins s I) fun us s1 ⟨vs, H1, I1, r, ds, S1, G1, h1, r1, l1, l3, q1⟩ => ⟨I1.kIn, ?_⟩
    rw [hks]
    have lu : us.length = ks.length := by rw [← r.length, r1.length]; exact l1
    refine run_mkx (us := []) (full := pick pk us) (vs := pick pk vs) T iC tI ok hr (fun a s => .of_eq (B NFs doc pm ctv a [] us hpar rfl lu)) (passAt (takesF tk) σ) I1 (Vals.pick r pk) (by simp) fun a ha => ?_
    · refine ⟨a, _, rfl, by rw [(r1.pick pk).length]; exact l3, upd_same, fun dx hdx hne => ⟨rfl, dx, _, upd_same, ?_, ?_, q1 a dx ha hdx hne⟩⟩
      · rw [upd_ne hne, upd_same]
      · rw [upd_ne hne] at hdx; exact hdx
  · exact tK_mono (h σ G H hd) fun vs H1 ⟨ds, S1, G1, h1, s1, r1, l1, l3, q⟩ => ⟨ds, S1, G1, h1, r1, l1, l3, fun a dx ha hdx hne => exn_raise (x := ⟨cn, [], []⟩) h1 hC (r1.pick pk) l3 ha hdx hne q⟩
/-- C(), C without own __init__ -/
theorem ve_ex0 (F : VEx0 X.K X.mg cn) (q : Q (.exn cn [] []) S) (hg : Gl X cn := by rfl) (hdb : (cn == ("__debug__" : Str)) = false := by decide) : VE X c S (.Call (.Name cn p) [] [] pos) Q := fun σ G H hd => by
  obtain ⟨C, hC, hin, kC, h1, h2⟩ := F.ex
  exact tE_of (pe_ex0 hin hC kC hg hdb) fun a ha => pE_new hd ha (.exn0 hC upd_same) q
theorem vs_raise0 (F : VEx0 X.K X.mg cn) (tk : Takes X (WV X c)) (hc : X.calm = true) (q : c.EV ⟨cn, [], []⟩ S) (hg : Gl X cn := by rfl) (hdb : (cn == ("__debug__" : Str)) = false := by decide) : VS X c S (.Raise (some (.Call (.Name cn p) [] [] pos)) none pos2) E := fun σ G H hd => by
  obtain ⟨C, hC, hin, kC, h1, h2⟩ := F.ex
  exact tS_of (ps_raise hc tk (pmk_ex0 hin hC kC (raises_own h1 h2) hg hdb)) ⟨S, G, ⟨cn, [], []⟩, hd, ⟨C, hC, rfl, .inl ⟨rfl, rfl⟩⟩, q⟩
end
end VL
set_option Elab.async false
set_option linter.all false
set_option maxRecDepth 100000
set_option maxHeartbeats 4000000
/-! VX5: an exception's fields, isinstance, try .. except .. as .. -/
namespace VL
open PySem PySem.Spec PyProof.Rows L2 NdefX ClX

section
variable {X : Cx} {e : Expr} {te : TE} {pos : Pos} {n : Str}
/-- e.n, e an exception object that is a value -/
theorem pe_xv (hb : attributeBase e n X.env (eval e X.env) = eval e X.env) (he : PE X e te) :
    PE X (.Attribute e n pos) (fun σ H Q => te σ H fun x H1 => ∃ (a C dx : Addr) (fs : List (Str × V)) (v : V), x = .ref a ∧ XfC X.K C ∧ PySem.W.findIn X.K (.ref C) n = some none ∧ H1 a = some (exo a C (some dx)) ∧ H1 dx = some (exd dx fs) ∧ fs.lookup n = some v ∧ Q v H1) := by
  refine ⟨fun pins s σ H Q I h => ?_⟩
  refine attr_of hb (thn (he.run pins s σ H _ I h) fun u s1 hh => ?_)
  obtain ⟨x, H1, I1, rx, a, C, dx, fs, v, ex, T, hno, ea, ed, l, q⟩ := hh
  subst ex
  obtain rfl : u = Value.ref a := rx
  obtain ⟨t1, ho⟩ := exo_at I1.hok ea
  obtain ⟨mA, hns, hr⟩ := exd_at I1.hok ed
  obtain ⟨od, hod, hl⟩ := lookIn_ns hns
  obtain ⟨u, hu, ru⟩ := RelO.some_of (v := v) (o := mA n) (by rw [← l]; exact hr n)
  have J : PySem.W.InstAt s1.heap a { cls := .ref C, dict := some dx, data := .fields #[.ref t1, .none, .none, .none, .bool false, .none] } C (some od) := ⟨ho, rfl, rfl, hod⟩
  exact HandSPX.exc_get I1.kIn J T.ga T.gg T.exC (PySem.W.findObj_own T.hdC hno rfl (by rw [hl, hu])) (handed_of ru) ⟨v, H1, I1.tok _, ru, q⟩
end
section
variable {X : Cx} {c : Cv} {S : State} {e a b : Expr} {es : List Expr} {pos pos2 p : Pos} {Q : D → State → Prop} {E : VD} {k : Nat} {cn f : Str}
theorem ve_xfld (h : VE X c S e fun d S1 => ∃ cn ks ds v, d = .exn cn ks ds ∧ ks ≠ [] ∧ XfF X.K X.mg cn f ∧ fget ks ds f = some v ∧ Q v S1) (hb : attributeBase e f X.env (eval e X.env) = eval e X.env := by rfl) : VE X c S (.Attribute e f pos) Q := fun σ G H hd => by
  refine tE_of (pe_xv hb pe_sem) (tE_mono (h σ G H hd) fun v H1 ⟨d, S1, G1, h1, s1, r, cn, ks, ds, w, ed, hk, xf, fg, q⟩ => ?_)
  subst ed
  cases r with
  | exn0 _ _ => exact absurd rfl hk
  | @exn a C dx fs _ _ _ m1 m2 m3 m4 m5 =>
    obtain ⟨u, l1, l2⟩ := fget_rep m4 m5 fg
    exact ⟨a, C, dx, fs, u, rfl, (xf C m1).1, (xf C m1).2, h1.sub _ _ m2, h1.sub _ _ m3, l1, pE_back s1 (pE_ret h1 l2 q)⟩
/-- e.f in an except suite, e the caught one -/
theorem ve_cau {ad dx C : Addr} {oe : Obj} {pn : List (Addr × Obj)} (xf : XfF X.K X.mg cn f) (hC : X.mg cn = some (.ref C)) (hz : Zc (.ref C) (some dx) oe) (hf : ∃ vs, oe.data = .fields vs)
    (h : VE (X.suite ad ((ad, oe) :: pn)) c S e fun d S1 => ∃ ks ds v, d = .cau ad dx cn ks ds ∧ fget ks ds f = some v ∧ Q v S1) (hb : attributeBase e f X.env (eval e X.env) = eval e X.env := by rfl) : VE (X.suite ad ((ad, oe) :: pn)) c S (.Attribute e f pos) Q := fun σ G H hd => by
  refine tE_of (pe_xf (C := C) (cls := .ref C) (d := some dx) (xf C hC).1 (xf C hC).2 hz hf pe_sem hb) (tE_mono (h σ G H hd) fun v H1 ⟨d, S1, G1, h1, s1, r, ks, ds, w, ed, fg, q⟩ => ?_)
  subst ed
  cases r with
  | @cau _ _ fs _ _ _ m1 m2 m3 =>
    obtain ⟨u, l1, l2⟩ := fget_rep m2 m3 fg
    exact ⟨rfl, rfl, dx, fs, u, rfl, h1.sub _ _ m1, l1, pE_back s1 (pE_ret h1 l2 q)⟩

/-! ### isinstance -/
/-- a class's name as a value -/
theorem ve_cref {x : Str} (q : Q (.cref x) S) (hm : ∃ C : Addr, X.mg x = some (.ref C)) (hg : Gl X x := by rfl) (hd : (x == ("__debug__" : Str)) = false := by decide) : VE X c S (.Name x pos) Q := fun σ G H h => by
  obtain ⟨C, hC⟩ := hm
  exact tE_of (pe_glob (v := .ref C) hg hC rfl hd) (pE_ret h (.cref hC) q)
theorem ve_ty {x : Str} {T : String} (q : Q (.ty T) S) (hm : X.mg x = none) (hv : bootBuiltins x = some (.type T)) (hg : Gl X x := by rfl) (hn : x ≠ "__name__" := by decide) (hd : (x == ("__debug__" : Str)) = false := by decide) : VE X c S (.Name x pos) Q := fun σ G H h =>
  tE_of (pe_bltn (v := .ty T) hg hm hv rfl hn hd) (pE_ret h .ty q)
/-- the class of a value -/
def TyV (mg : Str → Option Value) (d : D) (t : Value) : Prop := (∃ T, tyD d = some T ∧ t = .type T) ∨ (∃ cn ks ds, (d = .ins cn ks ds ∨ d = .exn cn ks ds) ∧ mg cn = some t)
def ClV (mg : Str → Option Value) (d : D) (t : Value) : Prop := (∃ T, d = .ty T ∧ t = .type T) ∨ ∃ x C, d = .cref x ∧ t = .ref C ∧ mg x = some (.ref C)
/-- an own class whose instances isinstance may be asked of -/
structure InsC (K : PySem.W.Frag) (C : Addr) : Prop where
  cl : Cls K C
  ha : PySem.W.findIn K (.ref C) "__class__" = some (some (.builtin "object.__class__"))
  hn : PySem.W.specialIn K (.builtin "object.__class__") "__get__" = some (some (.builtin "getset_descriptor.__get__"))
  htk : PySem.W.takesIn K (.builtin "object.__class__") = some true
  hm : PySem.W.mroIn K C (.type "object") = some true
def InsF (K : PySem.W.Frag) (mg : Str → Option Value) (d : D) : Prop := match d with
  | .ins cn _ _ => ∀ C, mg cn = some (.ref C) → InsC K C
  | .exn cn _ _ => ∀ C, mg cn = some (.ref C) → ExcC K C
  | _ => True
theorem kit_d {pins : List (Addr × Obj)} {s : Shared} {σ : L2.St} {G H : Hp} {v : V} {u t : Value} {d : D} (I : Inv X pins σ H s) (hs : Same G H) (r : RepX X G v d) (ru : RelV v u) (ht : TyV X.mg d t) (hi : InsF X.K X.mg d) : ∃ P : Heap → Prop, PySem.W.KitX X.K u t P ∧ P s.heap ∧ u ≠ .builtin "__main__.__loader__#opaque" := by
  rcases ht with ⟨T, h1, rfl⟩ | ⟨cn, ks, ds, hd, h1⟩
  · cases r with
    | non => cases h1; exact kit_of I ru (.base .non)
    | bl => cases h1; exact kit_of I ru (.base (.bl _))
    | int => cases h1; exact kit_of I ru (.base (.int _))
    | str => cases h1; exact kit_of I ru (.base (.str _))
    | lst e _ _ => cases h1; exact kit_of I ru (.base (.lst (hs _ _ e)))
    | tup e _ _ => cases h1; exact kit_of I ru (.base (.tup (hs _ _ e)))
    | dct e _ _ => cases h1; exact kit_of I ru (.base (.dK (hs _ _ e)))
    | ins _ _ _ _ => cases h1
    | adr => cases h1
    | ty => cases h1
    | cref _ => cases h1
    | scr _ _ => cases h1
    | exn0 _ _ => cases h1
    | exn _ _ _ _ _ => cases h1
    | cau _ _ _ => cases h1
  · rcases hd with rfl | rfl
    · cases r with
      | @ins a C dx fs _ _ _ m1 m2 m3 m4 =>
        rw [m1] at h1
        cases h1
        have q := hi C m1
        exact kit_of I ru (.base (.ins (hs _ _ m2) q.cl q.ha q.hn q.htk q.hm))
    · cases r with
      | @exn0 a C _ m1 m2 =>
        rw [m1] at h1
        cases h1
        cases ru
        obtain ⟨t1, ho⟩ := exo_at I.hok (hs _ _ m2)
        have q := hi C m1
        exact ⟨_, PySem.W.vx_kit q.hg q.hk q.hs q.hd q.ha q.hn q.ht q.hm (od := none), ⟨ho, rfl, rfl, trivial⟩, fun z => nomatch z⟩
      | @exn a C dx fs _ _ _ m1 m2 m3 m4 m5 =>
        rw [m1] at h1
        cases h1
        cases ru
        obtain ⟨t1, ho⟩ := exo_at I.hok (hs _ _ m2)
        obtain ⟨mA, hns, hr⟩ := exd_at I.hok (hs _ _ m3)
        obtain ⟨od, hod, hl⟩ := lookIn_ns hns
        have q := hi C m1
        exact ⟨_, PySem.W.vx_kit q.hg q.hk q.hs q.hd q.ha q.hn q.ht q.hm (od := some od), ⟨ho, rfl, rfl, hod⟩, fun z => nomatch z⟩
/-- isinstance(x, C) is r -/
def IsA (K : PySem.W.Frag) (mg : Str → Option Value) (x y : D) (r : Bool) : Prop := (∃ t, TyV mg x t) ∧ (∃ u, ClV mg y u) ∧ InsF K mg x ∧ ∀ t u, TyV mg x t → ClV mg y u → PySem.W.kitOne K t u = some r
def rIsD (K : PySem.W.Frag) (mg : Str → Option Value) : List V → Hp → VK → Prop := fun xs H Q => ∃ (G : Hp) (x y : V) (dx dy : D) (r : Bool), xs = [x, y] ∧ Same G H ∧ Rep K mg G x dx ∧ Rep K mg G y dy ∧ IsA K mg dx dy r ∧ Q (.bl r) H
theorem call_isD : CallR X (.builtin "isinstance") (rIsD X.K X.mg) := by
  intro pins s σ H xs us Q I r h
  obtain ⟨G, x, y, dx, dy, b, rfl, hs, rx, ry, ⟨⟨t, ht⟩, ⟨u, hu⟩, hi, hk⟩, q⟩ := h
  obtain ⟨u1, u2, rfl, r1, r2⟩ := vals2 r
  obtain ⟨P, Z, p, hx⟩ := kit_d I hs rx r1 ht hi
  have e2 : u2 = u := by
    rcases hu with ⟨T, rfl, rfl⟩ | ⟨n, C, rfl, rfl, hC⟩
    · cases ry; exact r2
    · cases ry with
      | cref h => rw [hC] at h; cases h; exact r2
  subst e2
  exact PySem.W.kia_one Z I.kIn p (hk _ _ ht hu) hx fun tk => ⟨.bl b, H, I.tok tk, rfl, q⟩
theorem ve_isinst {p2 : Pos} (hm : X.mg "isinstance" = none) (h : VA X c S [a, b] fun ds S1 => ∃ x y r, ds = [x, y] ∧ IsA X.K X.mg x y r ∧ Q (.bl r) S1) (hg : Gl X "isinstance" := by rfl) (he : starEach [a, b] X.env = (false, eval a X.env) :: starEach [b] X.env := by rfl) (hpl : (backTo pos (starEach [b] X.env)).any (·.1) = false := by rfl) : VE X c S (.Call (.Name "isinstance" p2) [a, b] [] pos) Q := fun σ G H hd => by
  refine tE_of (pe_callB call_isD hg hm (by decide +kernel) pa_sem (by decide) (by decide) he hpl) (tA_mono (h σ G H hd) fun vs H1 ⟨ds, S1, G1, h1, s1, r1, x, y, r, e, hk, q⟩ => ?_)
  subst e
  obtain ⟨v1, v2, rfl, rv1, rv2⟩ := reps2 r1
  exact ⟨G1, v1, v2, x, y, r, rfl, h1.sub, rv1, rv2, hk, pE_back s1 (pE_ret h1 .bl q)⟩

/-! ### try .. except C as n -/
/-- the same state told from a later frozen part -/
theorem Hd.reG0 {K : PySem.W.Frag} {mg : Str → Option Value} {σ : L2.St} {G H : Hp} (h : Hd K mg c S σ G H) (EV : ExD → State → Prop) : Hd K mg { c with G0 := G, EV := EV } S σ G H :=
  ⟨h.sub, h.len, h.slots, h.dist, h.pen, h.padr, Same.refl _, fun _ _ q => .inl q, h.keep0, h.fresh⟩
theorem Hd.unG0 {K : PySem.W.Frag} {mg : Str → Option Value} {σ σ' : L2.St} {G H G' H' : Hp} {S' : State} {EV : ExD → State → Prop} (h : Hd K mg c S σ G H) (h' : Hd K mg { c with G0 := G, EV := EV } S' σ' G' H') : Hd K mg c S' σ' G' H' :=
  ⟨h'.sub, h'.len, h'.slots, h'.dist, h'.pen, h'.padr, h.ext0.trans h'.ext0, fun a o q => (h'.new0 a o q).elim (fun z => h.new0 a o z) .inr, h'.keep0, h'.fresh⟩
/-- the caught exception as a value -/
def cauD (a : Addr) (d : Option Addr) (x : ExD) : D := match d with
  | some dd => if x.ks = [] then .adr a else .cau a dd x.c x.ks x.ds
  | none => .adr a
def VD.un (E : VD) (i : Nat) : VD := ⟨fun S => E.nx (S.put i .un), E.rt, fun S => E.bk (S.put i .un), fun S => E.ct (S.put i .un)⟩
theorem ends_un {i : Nat} {G : Hp} {σ' : L2.St} {H' : Hp} {P : State → Prop} (h : ∃ S' G', HdX X c S' σ' G' H' ∧ Same G G' ∧ P (S'.put i .un)) : ∃ S' G', HdX X c S' (σ'.set i none) G' H' ∧ Same G G' ∧ P S' := by
  obtain ⟨S', G', h1, s1, q⟩ := h
  exact ⟨_, G', h1.set (sl := .un) (o := none) trivial rfl, s1, q⟩
theorem vs_tryAs (i : Nat) {x n : Str} {cv : Value} {body suite : List Stmt} {b0 : Stmt} {np pos' : Pos} (hs : X.stack = X.env :: X.outer) (hf : X.env.frame = some X.env.locals) (hN : X.N.Nodup) (hc : Names X x cv) (tk : Takes X (WV X c)) (EVt : ExD → State → Prop)
    (hb : ∀ (pn : List (Addr × Obj)) (xe : Value → Shared → Prop) (G0 : Hp), Takes (X.tr pn xe) (WV (X.tr pn xe) { c with G0 := G0, EV := EVt }) → VSs (X.tr pn xe) { c with G0 := G0, EV := EVt } S body E)
    (hx : ∀ y S', EVt y S' → ∃ b, (∀ C, X.mg y.c = some (.ref C) → PySem.W.exmOne X.K (.ref C) cv = some b) ∧
      (b = true → ∀ (a C : Addr) (oe : Obj) (d : Option Addr) (pn : List (Addr × Obj)) (G0 : Hp), X.mg y.c = some (.ref C) → Zc (.ref C) d oe → (∃ vs, oe.data = .fields vs) → VSs (X.suite a ((a, oe) :: pn)) { c with G0 := G0, EV := fun _ _ => False } (S'.put i (.val (cauD a d y))) (b0 :: suite) (E.un i)) ∧ (b = false → c.EV y S'))
    (hi : X.N[i]? = some n := by rfl) (hln : X.env.kindOf n = some .local := by rfl) :
    VS X c S (.Try body [.ExceptHandler (some (.Name x np)) (some n) (b0 :: suite) pos'] [] [] pos) E := fun σ G H hd => by
  refine tS_of (ps_try_as (tb := fun W Dn σ H => ∀ (pn : List (Addr × Obj)) (xe : Value → Shared → Prop), Takes (X.tr pn xe) W → tSs (X.tr pn xe) body Dn σ H)
    (ts := fun a cls d Dn σ H => ∀ (oe : Obj) (pn : List (Addr × Obj)), Zc cls d oe → (∃ vs, oe.data = .fields vs) → tSs (X.suite a ((a, oe) :: pn)) (b0 :: suite) Dn σ H)
    hs hf hN hi hln hc tk (fun W pn xe t _ => ⟨fun pins s σ H D I h => h pn xe t pins s I⟩) (fun a oe cls d pn hz hfd => ⟨fun pins s σ H D I h => h oe pn hz hfd pins s I⟩)) ?_
  intro pn xe tkt
  refine tSs_mono (hb pn xe G (tkt.imp fun cls d σ' H' ⟨S', G', y, h1, rx, q⟩ => ?_) σ G H (hd.reG0 EVt)) (fun _ _ ⟨S', G', h1, s1, q⟩ => ⟨S', G', hd.unG0 h1, s1, q⟩) (fun _ _ ⟨d, S', σ', G', h1, s1, r, q⟩ => ⟨d, S', σ', G', hd.unG0 h1, s1, r, q⟩)
    (fun _ _ ⟨S', G', h1, s1, q⟩ => ⟨S', G', hd.unG0 h1, s1, q⟩) (fun _ _ ⟨S', G', h1, s1, q⟩ => ⟨S', G', hd.unG0 h1, s1, q⟩)
  obtain ⟨C, hC, ecls, hfld⟩ := rx
  subst ecls
  obtain ⟨b, hb1, hyes, hno⟩ := hx y S' q
  have h2 : HdX X c S' σ' G' H' := hd.unG0 h1
  have s1 : Same G G' := h1.ext0
  refine ⟨b, hb1 C hC, fun hbt a na oe pn2 hz hfd => ?_, fun hbf => ⟨S', G', y, h2, ⟨C, hC, rfl, hfld⟩, hno hbf⟩⟩
  have rc : RepX X G' (.ref a) (cauD a d y) := by
    unfold cauD
    rcases hfld with ⟨z1, z2⟩ | ⟨dd, fs, rfl, g1, g2, g3⟩
    · cases d with
      | none => exact .adr
      | some dd => simp only [z1, if_true]; exact .adr
    · by_cases hk : y.ks = []
      · simp only [hk, if_true]; exact .adr
      · simp only [hk, if_false]; exact .cau g1 g2 g3
  have q1 := hyes hbt a C oe d pn2 G' hC hz hfd (σ'.set i (some (.ref a))) G' H' ((h2.setVal (i := i) rc).reG0 _)
  refine tSs_mono q1 (fun σ2 H2 ⟨S2, G2, h3, s3, q3⟩ => ?_) (fun v H2 ⟨d2, S2, σ3, G2, h3, s3, r3, q3⟩ => ⟨d2, S2, σ3, G2, (h2.setVal (i := i) rc).unG0 h3, s1.trans s3, r3, q3⟩) (fun σ2 H2 ⟨S2, G2, h3, s3, q3⟩ => ?_) (fun σ2 H2 ⟨S2, G2, h3, s3, q3⟩ => ?_)
  · exact ends_un ⟨S2, G2, (h2.setVal (i := i) rc).unG0 h3, s1.trans s3, q3⟩
  · exact ends_un ⟨S2, G2, (h2.setVal (i := i) rc).unG0 h3, s1.trans s3, q3⟩
  · exact ends_un ⟨S2, G2, (h2.setVal (i := i) rc).unG0 h3, s1.trans s3, q3⟩
end
end VL
set_option Elab.async false
set_option linter.all false
set_option maxRecDepth 100000
set_option maxHeartbeats 4000000
/-! VX6: the pen. -/
namespace VL
open PySem PySem.Spec PyProof.Rows L2 NdefX ClX
section
variable {K : PySem.W.Frag} {mg : Str → Option Value} {c : Cv} {S : State} {σ : L2.St} {G H : Hp} {p : Addr} {r r' : PenS}
theorem Hd.repn (h : Hd K mg c S σ G H) (hp : S.pn = some (p, r)) (hn : PenOk c.nb c.nl K G H p r') : Hd K mg c ⟨S.ρ, some (p, r')⟩ σ G H :=
  ⟨h.sub, h.len, h.slots, h.dist, fun q s e => by
    cases e
    exact ⟨hn, (h.pen _ _ hp).2⟩, fun a e => by
    obtain ⟨s, q⟩ := h.padr a e
    rw [hp] at q
    cases q
    exact ⟨r', rfl⟩, h.ext0, h.new0, h.keep0, h.fresh⟩
/-- the pen's dict is written -/
theorem Hd.penPut (h : Hd K mg c S σ G H) (hp : S.pn = some (p, r)) {kvs : List (Key × V)} (hn : PenOk c.nb c.nl K G (upd H p (.dK kvs)) p r') : Hd K mg c ⟨S.ρ, some (p, r')⟩ σ G (upd H p (.dK kvs)) := by
  obtain ⟨⟨cc, cells, b, l, p1, p2, p3, p4⟩, pa⟩ := h.pen _ _ hp
  refine ⟨fun a o q => by rw [upd_ne (ne_of_none q p2)]; exact h.sub _ _ q, h.len, fun i sl e => ?_, h.dist, fun q s e => by cases e; exact ⟨hn, pa⟩, fun a e => ?_, h.ext0, h.new0, fun a o q hpa => ?_, h.fresh⟩
  · obtain ⟨o, h1, h2⟩ := h.slots i sl e
    refine ⟨o, h1, ?_⟩
    cases sl with
    | un => trivial
    | val d => exact h2
    | own ds =>
      obtain ⟨l, vs, e1, e2, e3⟩ := h2
      exact ⟨l, vs, e1, by rw [upd_ne (ne_of e2 p1 (fun y => nomatch y))]; exact e2, e3⟩
    | obj a cc ks ds =>
      obtain ⟨C, dx, fs, e1, e2, e3, e4, e5⟩ := h2
      exact ⟨C, dx, fs, e1, e2, by rw [upd_ne (ne_of e3 p1 (fun y => nomatch y))]; exact e3, by rw [upd_ne (ne_of e4 p1 (fun y => nomatch y))]; exact e4, e5⟩
  · obtain ⟨s, q⟩ := h.padr a e
    rw [hp] at q
    cases q
    exact ⟨r', rfl⟩
  · have hne : a ≠ p := fun z => by
      subst z
      rcases pa with z | z
      · exact hpa z
      · rw [z] at q; cases q
    rw [upd_ne hne]
    exact h.keep0 _ _ q hpa
end
/-- the keys of the pen's two numbers -/
structure PenN (c : Cv) : Prop where
  h1 : c.nb ≠ "cells"
  h2 : c.nl ≠ "cells"
  h3 : c.nl ≠ c.nb
section
variable {X : Cx} {c : Cv} {S : State} {e : Expr} {es : List Expr} {st : Stmt} {sts : List Stmt} {σ : L2.St} {G G' H : Hp} {pos pos2 pos3 pos4 : Pos} {Q : D → State → Prop} {E : VD} {p : Addr} {k : Nat}
theorem vss_open {r : Nat} (hp : S.pn = some (p, .bud r)) (h : ∀ cells b l, PenB (.bud r) cells b l → VSs X c ⟨S.ρ, some (p, .ex cells b l)⟩ sts E) : VSs X c S sts E := fun σ G H hd => by
  obtain ⟨cc, cells, b, l, p1, p2, p3, p4⟩ := (hd.pen _ _ hp).1
  exact h cells b l p4 σ G H (hd.repn hp ⟨cc, cells, b, l, p1, p2, p3, rfl, rfl, rfl⟩)
theorem vss_close {r : Nat} {cells : List Int} {b l : Int} (hp : S.pn = some (p, .ex cells b l)) (hb : PenB (.bud r) cells b l) (h : VSs X c ⟨S.ρ, some (p, .bud r)⟩ sts E) : VSs X c S sts E := fun σ G H hd => by
  obtain ⟨cc, cells', b', l', p1, p2, p3, rfl, rfl, rfl⟩ := (hd.pen _ _ hp).1
  exact h σ G H (hd.repn hp ⟨cc, cells', b', l', p1, p2, p3, hb⟩)
theorem ve_penC (i : Nat) {x : Str} {j} {cells : List Int} {b l : Int} (hu : Room k X.A) (hρ : S.ρ[i]? = some (.val (.adr p))) (hp : S.pn = some (p, .ex cells b l)) (q : Q (.scr (cells.map D.int)) S)
    (hs : NoSl (.Constant (.str "cells") j pos3) := by exact fun _ _ => rfl) (hN : X.N[i]? = some x := by rfl) (hv : Vis X.env.scope x := by first | exact Or.inl rfl | exact Or.inr (Or.inl rfl) | exact Or.inr (Or.inr rfl))
    (hd : (x == ("__debug__" : Str)) = false := by decide) (hcd : (x == ("__classdict__" : Str)) = false := by decide) : VE X c S (.Subscript (.Name x pos2) (.Constant (.str "cells") j pos3) pos) Q := fun σ G H h => by
  obtain ⟨o, e1, v, e2, r⟩ := h.slots i _ hρ
  subst e2
  cases r
  obtain ⟨cc, cells', b', l', p1, p2, p3, rfl, rfl, rfl⟩ := (h.pen _ _ hp).1
  refine tE_of (pe_dget (by have := hu.un; omega) (pv i hN hv hd hcd) pe_str hs) ⟨_, e1, p, .ref cc, rfl, ?_, pE_ret h (.scr p3 (Reps.ints _)) q⟩
  have g := DGet.k (k := .inr "cells") p1
  rw [valV_pos rfl] at g
  exact g
theorem ve_penB (i : Nat) {x y : Str} {j} {cells : List Int} {b l : Int} (hu : Room k X.A) (hn : PenN c) (hy : y = c.nb) (hρ : S.ρ[i]? = some (.val (.adr p))) (hp : S.pn = some (p, .ex cells b l)) (q : Q (.int b) S)
    (hs : NoSl (.Constant (.str y) j pos3) := by exact fun _ _ => rfl) (hN : X.N[i]? = some x := by rfl) (hv : Vis X.env.scope x := by first | exact Or.inl rfl | exact Or.inr (Or.inl rfl) | exact Or.inr (Or.inr rfl))
    (hd : (x == ("__debug__" : Str)) = false := by decide) (hcd : (x == ("__classdict__" : Str)) = false := by decide) : VE X c S (.Subscript (.Name x pos2) (.Constant (.str y) j pos3) pos) Q := fun σ G H h => by
  obtain ⟨o, e1, v, e2, r⟩ := h.slots i _ hρ
  subst e2
  cases r
  obtain ⟨cc, cells', b', l', p1, p2, p3, rfl, rfl, rfl⟩ := (h.pen _ _ hp).1
  refine tE_of (pe_dget (by have := hu.un; omega) (pv i hN hv hd hcd) pe_str hs) ⟨_, e1, p, .int b', rfl, ?_, pE_ret h .int q⟩
  have g := DGet.k (k := .inr c.nb) p1
  rw [valV_neg (by intro z; exact hn.h1 (Sum.inr.inj z).symm), valV_pos rfl] at g
  rw [hy]
  exact g
theorem ve_penL (i : Nat) {x y : Str} {j} {cells : List Int} {b l : Int} (hu : Room k X.A) (hn : PenN c) (hy : y = c.nl) (hρ : S.ρ[i]? = some (.val (.adr p))) (hp : S.pn = some (p, .ex cells b l)) (q : Q (.int l) S)
    (hs : NoSl (.Constant (.str y) j pos3) := by exact fun _ _ => rfl) (hN : X.N[i]? = some x := by rfl) (hv : Vis X.env.scope x := by first | exact Or.inl rfl | exact Or.inr (Or.inl rfl) | exact Or.inr (Or.inr rfl))
    (hd : (x == ("__debug__" : Str)) = false := by decide) (hcd : (x == ("__classdict__" : Str)) = false := by decide) : VE X c S (.Subscript (.Name x pos2) (.Constant (.str y) j pos3) pos) Q := fun σ G H h => by
  obtain ⟨o, e1, v, e2, r⟩ := h.slots i _ hρ
  subst e2
  cases r
  obtain ⟨cc, cells', b', l', p1, p2, p3, rfl, rfl, rfl⟩ := (h.pen _ _ hp).1
  refine tE_of (pe_dget (by have := hu.un; omega) (pv i hN hv hd hcd) pe_str hs) ⟨_, e1, p, .int l', rfl, ?_, pE_ret h .int q⟩
  have g := DGet.k (k := .inr c.nl) p1
  rw [valV_neg (by intro z; exact hn.h2 (Sum.inr.inj z).symm), valV_neg (by intro z; exact hn.h3 (Sum.inr.inj z).symm), valV_pos rfl] at g
  rw [hy]
  exact g
theorem key_ne {a b : Str} (h : a ≠ b) : ¬ ((Sum.inr a : Key) = Sum.inr b) := fun z => h (Sum.inr.inj z)
theorem put_b {nb nl : Str} {a d u v : V} (h1 : nb ≠ "cells") (h3 : nl ≠ nb) : putK [((.inr "cells" : Key), a), (.inr nb, d), (.inr nl, u)] (.inr nb) v = [(.inr "cells", a), (.inr nb, v), (.inr nl, u)] := by
  unfold putK
  simp [key_ne (Ne.symm h1), key_ne h3, Ne.symm h1, h3]
theorem put_l {nb nl : Str} {a d u v : V} (h2 : nl ≠ "cells") (h3 : nl ≠ nb) : putK [((.inr "cells" : Key), a), (.inr nb, d), (.inr nl, u)] (.inr nl) v = [(.inr "cells", a), (.inr nb, d), (.inr nl, v)] := by
  unfold putK
  simp [key_ne (Ne.symm h2), key_ne (Ne.symm h3), Ne.symm h2, Ne.symm h3]
/-- pen[begun] = e -/
theorem vs_penB (i : Nat) {x y : Str} {j} (hu : Room k X.A) (hn : PenN c) (hy : y = c.nb) (h : VE X c S e fun d S1 => ∃ n p cells b l, d = .int n ∧ S1.ρ[i]? = some (.val (.adr p)) ∧ S1.pn = some (p, .ex cells b l) ∧ E.nx ⟨S1.ρ, some (p, .ex cells n l)⟩)
    (hs : swapsWith e (some (.Subscript (.Name x pos2) (.Constant (.str y) j pos3) pos4)) pos.line X.env = pure false := by rfl) (hN : X.N[i]? = some x := by rfl) (hv : Vis X.env.scope x := by first | exact Or.inl rfl | exact Or.inr (Or.inl rfl) | exact Or.inr (Or.inr rfl))
    (hd : (x == ("__debug__" : Str)) = false := by decide) (hcd : (x == ("__classdict__" : Str)) = false := by decide) : VS X c S (.Assign [.Subscript (.Name x pos2) (.Constant (.str y) j pos3) pos4] e pos) E := fun σ G H hh => by
  refine tS_of (ps_dput (by have := hu.un; omega) (pv i hN hv hd hcd) pe_str pe_sem hs) (tE_mono (h σ G H hh) fun v H1 ⟨d, S1, G1, h1, s1, r, n, p, cells, b, l, ed, hρ, hp, q⟩ => ?_)
  subst ed
  rw [rep_int r]
  obtain ⟨o, e1, v, e2, rv⟩ := h1.slots i _ hρ
  subst e2
  cases rv
  obtain ⟨cc, cells', b', l', p1, p2, p3, rfl, rfl, rfl⟩ := (h1.pen _ _ hp).1
  refine ⟨_, e1, p, _, rfl, by rw [hy]; exact DPut.k (k := .inr c.nb) p1 (by rw [sizeLine_eq]; simp), ?_⟩
  rw [put_b hn.h1 hn.h3]
  exact ⟨_, G1, h1.penPut (r' := .ex cells' n l') hp ⟨cc, cells', n, l', upd_same, p2, p3, rfl, rfl, rfl⟩, s1, q⟩
theorem vs_penL (i : Nat) {x y : Str} {j} (hu : Room k X.A) (hn : PenN c) (hy : y = c.nl) (h : VE X c S e fun d S1 => ∃ n p cells b l, d = .int n ∧ S1.ρ[i]? = some (.val (.adr p)) ∧ S1.pn = some (p, .ex cells b l) ∧ E.nx ⟨S1.ρ, some (p, .ex cells b n)⟩)
    (hs : swapsWith e (some (.Subscript (.Name x pos2) (.Constant (.str y) j pos3) pos4)) pos.line X.env = pure false := by rfl) (hN : X.N[i]? = some x := by rfl) (hv : Vis X.env.scope x := by first | exact Or.inl rfl | exact Or.inr (Or.inl rfl) | exact Or.inr (Or.inr rfl))
    (hd : (x == ("__debug__" : Str)) = false := by decide) (hcd : (x == ("__classdict__" : Str)) = false := by decide) : VS X c S (.Assign [.Subscript (.Name x pos2) (.Constant (.str y) j pos3) pos4] e pos) E := fun σ G H hh => by
  refine tS_of (ps_dput (by have := hu.un; omega) (pv i hN hv hd hcd) pe_str pe_sem hs) (tE_mono (h σ G H hh) fun v H1 ⟨d, S1, G1, h1, s1, r, n, p, cells, b, l, ed, hρ, hp, q⟩ => ?_)
  subst ed
  rw [rep_int r]
  obtain ⟨o, e1, v, e2, rv⟩ := h1.slots i _ hρ
  subst e2
  cases rv
  obtain ⟨cc, cells', b', l', p1, p2, p3, rfl, rfl, rfl⟩ := (h1.pen _ _ hp).1
  refine ⟨_, e1, p, _, rfl, by rw [hy]; exact DPut.k (k := .inr c.nl) p1 (by rw [sizeLine_eq]; simp), ?_⟩
  rw [put_l hn.h2 hn.h3]
  exact ⟨_, G1, h1.penPut (r' := .ex cells' b' n) hp ⟨cc, cells', b', n, upd_same, p2, p3, rfl, rfl, rfl⟩, s1, q⟩
end
/-! ### a new pen -/
def penL (ns : List Int) : List V := (ns.take 63).map V.int
def spPen (nb nl : Str) (K : PySem.W.Frag) : Sp := fun vs H Q E => ∃ (a : Addr) (ns : List Int), vs = [.ref a] ∧ SqL K H a (ns.map V.int) ∧ ∀ p t c, H p = none → upd H p (.dK []) t = none → upd (upd H p (.dK [])) t (.lst (penL ns)) c = none →
  Q (.ref p) (upd (upd (upd (upd H p (.dK [])) t (.lst (penL ns))) c (.lst (penL ns))) p (.dK [(.inr "cells", .ref c), (.inr nb, .int 0), (.inr nl, .int 0)]))
theorem pen_cut (ns : List Int) : cutV (ns.map V.int) none (some 63) = penL ns := by
  unfold cutV penL
  have h0 : HT.sIx (ns.map V.int).length 0 none = 0 := rfl
  have h1 : HT.sIx (ns.map V.int).length (ns.map V.int).length (some 63) = min 63 (ns.map V.int).length := by
    first | rfl | (simp [HT.sIx]; try omega)
  rw [h0, h1, List.drop_zero, Nat.sub_zero, ← List.map_take]
  congr 1
  rw [List.length_map]
  by_cases h : ns.length ≤ 63
  · rw [Nat.min_eq_right h, List.take_of_length_le (Nat.le_refl _), List.take_of_length_le h]
  · rw [Nat.min_eq_left (by omega)]
theorem put_0 {nb nl : Str} {a d u : V} (h1 : nb ≠ "cells") (h2 : nl ≠ "cells") (h3 : nl ≠ nb) : mergeK [] [((.inr "cells" : Key), a), (.inr nb, d), (.inr nl, u)] = [((.inr "cells" : Key), a), (.inr nb, d), (.inr nl, u)] := by
  show putK (putK (putK [] (Sum.inr "cells" : Key) a) (.inr nb) d) (.inr nl) u = _
  have e1 : putK ([] : List (Key × V)) (.inr "cells") a = [(.inr "cells", a)] := putK_new _ rfl
  have e2 : putK [((Sum.inr "cells" : Key), a)] (.inr nb) d = [((Sum.inr "cells" : Key), a), (.inr nb, d)] := putK_new _ (by rw [valV_neg (key_ne (Ne.symm h1))]; rfl)
  rw [e1, e2]
  exact putK_new _ (by rw [valV_neg (key_ne (Ne.symm h2)), valV_neg (key_ne (Ne.symm h3))]; rfl)
section
variable {P : Program} {w : World} {K : PySem.W.Frag} {mg : Str → Option Value} {base : Heap} {nb nl : Str} {k : Nat} {x : Str} {st : Stmt} {dvs : List V} {kws : List (Str × V)} {f : Addr} {fd : FuncData} {p1 p2 p3 p4 p5 p6 p7 p8 p9 p10 p11 p12 p13 p14 : Pos} {k1 k2 k3 k4 k5 k6 : Nat}
theorem fn_pen (F : FunD K x x (defArgs st) (defBody st) (defScope st) dvs kws f fd) {s : Str} (Sc : FnScope [s] [s] (defScope st)) (h1 : nb ≠ "cells") (h2 : nl ≠ "cells") (h3 : nl ≠ nb) (hml : mg "list" = none)
    (hb : defBody st = [.Return (some (.Dict [some (.Constant (.str "cells") k1 p1), some (.Constant (.str nb) k2 p2), some (.Constant (.str nl) k3 p3)] [.Call (.Name "list" p4) [.Subscript (.Name s p5) (.Slice none (some (.Constant (.int 63) k4 p6)) none p7) p8] [] p9, .Constant (.int 0) k5 p10, .Constant (.int 0) k6 p11] p12)) p13])
    (hsl : (defScope st).names.lookup ("list" : Str) = some .globalImplicit) (hs0 : (defScope st).names.lookup s = some .local) (d1 : (s == ("__debug__" : Str)) = false := by decide) (d2 : (s == ("__classdict__" : Str)) = false := by decide) :
    FnOk P w K mg base (L2.CX P w) (k + 1) f fd [s] (spPen nb nl K) := by
  refine F.ok Sc (fun vs H Q E ⟨a, ns, e, _⟩ => by subst e; rfl) fun cdv A outer s0 H vs Q E hr ⟨a, ns, e, hsq, hq⟩ => ?_
  subst e
  rw [hb]
  refine ⟨_, pss_one (ps_ret (pe_disp (pps_cons pe_str (pe_callTy call_list_of hsl hml (show bootBuiltins "list" = some (.type "list") by decide +kernel) (pa_cons (pe_slice sl_list (pv 0 rfl (Or.inl hs0) d1 d2) po_none (po_some pe_int)) pa_nil)) (pps_cons pe_str pe_int (pps_cons pe_str pe_int pps_nil))) rfl rfl (by simp) (by simp))), ?_⟩
  intro p hp
  refine ⟨.ref a, rfl, 63, rfl, a, ns.map V.int, rfl, Same.seq (same_upd hp) hsq, fun t ht => ?_⟩
  rw [pen_cut]
  refine ⟨t, penL ns, rfl, .inl (.inl (.inl upd_same)), fun c hc => ?_⟩
  have ept : p ≠ t := fun z => by rw [← z, upd_same] at ht; cases ht
  have epc : p ≠ c := fun z => by rw [← z, upd_ne ept, upd_same] at hc; cases hc
  refine ⟨by rw [upd_ne epc, upd_ne ept, upd_same], [(.inr "cells", .ref c), (.inr nb, .int 0), (.inr nl, .int 0)], rfl, by simp, ?_⟩
  rw [put_0 h1 h2 h3]
  exact hq p t c hp ht hc
end

structure VPen (P : Program) (w : World) (K : PySem.W.Frag) (mg : Str → Option Value) (base : Heap) (nb nl : Str) (k : Nat) (x : Str) : Prop where
  ex : ∃ f fd ps, FnOk P w K mg base (L2.CX P w) k f fd ps (spPen nb nl K) ∧ mg x = some (.ref f) ∧ PySem.W.keepIn K (.ref f) = true ∧ Binds K fd ps []
def bigs (ns : List Int) : Prop := ∀ x ∈ ns, x.natAbs < 2 ^ 1048577
section
variable {X : Cx} {c : Cv} {S : State} {σ : L2.St} {G H : Hp} {E : VD} {p : Addr} {k : Nat} {ns : List Int}
theorem Hd.newPen (h : HdX X c S σ G H) (hp0 : S.pn = none) (hpa : c.pa = none) (hbig : bigs ns) {t l : Addr} (hp : H p = none) (ht : upd H p (.dK []) t = none) (hl : upd (upd H p (.dK [])) t (.lst (penL ns)) l = none) :
    ∃ G', Same G G' ∧ HdX X c ⟨S.ρ, some (p, .bud (2 ^ 50))⟩ σ G' (upd (upd (upd (upd H p (.dK [])) t (.lst (penL ns))) l (.lst (penL ns))) p (.dK [(.inr "cells", .ref l), (.inr c.nb, .int 0), (.inr c.nl, .int 0)])) := by
  have ept : t ≠ p := fun z => by rw [z, upd_same] at ht; cases ht
  have elt : l ≠ t := fun z => by rw [z, upd_same] at hl; cases hl
  rw [upd_ne elt] at hl
  have elp : l ≠ p := fun z => by rw [z, upd_same] at hl; cases hl
  rw [upd_ne ept] at ht
  rw [upd_ne elp] at hl
  have h1 := h.after (h.alloc (o := .lst (penL ns)) ht)
  have hl1 : upd H t (.lst (penL ns)) l = none := by rw [upd_ne elt]; exact hl
  have h2 := h1.after (h1.alloc (o := .lst (penL ns)) hl1)
  have s1 : Same G (upd G t (.lst (penL ns))) := same_upd (h.sub.free ht)
  have s2 : Same (upd G t (.lst (penL ns))) (upd (upd G t (.lst (penL ns))) l (.lst (penL ns))) := same_upd (h1.sub.free hl1)
  have hp2 : upd (upd H t (.lst (penL ns))) l (.lst (penL ns)) p = none := by rw [upd_ne (Ne.symm elp), upd_ne (Ne.symm ept)]; exact hp
  have e : upd (upd (upd (upd H p (.dK [])) t (.lst (penL ns))) l (.lst (penL ns))) p (.dK [(.inr "cells", .ref l), (.inr c.nb, .int 0), (.inr c.nl, .int 0)]) =
      upd (upd (upd H t (.lst (penL ns))) l (.lst (penL ns))) p (.dK [(.inr "cells", .ref l), (.inr c.nb, .int 0), (.inr c.nl, .int 0)]) := by
    funext b
    by_cases z1 : b = p
    · subst z1; rw [upd_same, upd_same]
    · rw [upd_ne z1, upd_ne z1]
      by_cases z2 : b = l
      · subst z2; rw [upd_same, upd_same]
      · rw [upd_ne z2, upd_ne z2]
        by_cases z3 : b = t
        · subst z3; rw [upd_same, upd_same]
        · rw [upd_ne z3, upd_ne z3, upd_ne z1]
  rw [e]
  have h0p := h0_of h2 hp2
  have h3 := h2.after (h2.allocH (o := .dK [(.inr "cells", .ref l), (.inr c.nb, .int 0), (.inr c.nl, .int 0)]) hp2)
  refine ⟨_, s1.trans s2, ⟨h3.sub, h3.len, h3.slots, h3.dist, fun q r z => ?_, fun a z => (by rw [hpa] at z; cases z), h3.ext0, h3.new0, h3.keep0, h3.fresh⟩⟩
  cases z
  refine ⟨⟨l, ns.take 63, 0, 0, upd_same, h2.sub.free hp2, .inl (.inl upd_same), by rw [List.length_take]; omega, fun x hx => hbig x (List.mem_of_mem_take hx), Int.le_refl _, (by show (0 : Int) + ((2 ^ 50 : Nat) : Int) ≤ 2 ^ 50; decide), Int.le_refl _, Nat.pow_pos (by decide)⟩, .inr h0p⟩
/-- x = _law_pen(script) -/
theorem vs_newpen (i j : Nat) {x fnm s : Str} {pos' p1 p2 p3 pos : Pos} (F : VPen X.prog X.w X.K X.mg X.base c.nb c.nl k fnm) (hr : Room k X.A) (tk : Takes X (WV X c)) (hρ : S.ρ[j]? = some (.val (.scr (ns.map D.int)))) (hp0 : S.pn = none) (hpa : c.pa = none) (hbig : bigs ns)
    (q : ∀ p, E.nx ⟨S.ρ.set i (.val (.adr p)), some (p, .bud (2 ^ 50))⟩) (hN : X.N.Nodup) (hi : X.N[i]? = some x := by rfl) (hj : X.N[j]? = some s := by rfl) (hx : Loc X.env.scope x := by first | exact Or.inl rfl | exact Or.inr rfl) (hg : Gl X fnm := by rfl)
    (hv : Vis X.env.scope s := by first | exact Or.inl rfl | exact Or.inr (Or.inl rfl) | exact Or.inr (Or.inr rfl)) (hd : (s == ("__debug__" : Str)) = false := by decide) (hcd : (s == ("__classdict__" : Str)) = false := by decide)
    (hdb : (fnm == ("__debug__" : Str)) = false := by decide) (he : starEach [.Name s p2] X.env = (false, eval (.Name s p2) X.env) :: starEach [] X.env := by rfl)
    (hs : swapsWith (.Call (.Name fnm p1) [.Name s p2] [] p3) (some (.Name x pos')) pos.line X.env = pure false := by rfl) (hf : X.fn x = true ∨ X.env.scope.names.lookup x = some .local := by first | exact .inl rfl | exact .inr rfl) :
    VS X c S (.Assign [.Name x pos'] (.Call (.Name fnm p1) [.Name s p2] [] p3) pos) E := fun σ G H hh => by
  obtain ⟨f, fd, ps, ok, hm, hk, hb⟩ := F.ex
  obtain ⟨o, e1, v, e2, r⟩ := hh.slots j _ hρ
  subst e2
  cases r with
  | @scr a vs _ hsq rr =>
    have ev : vs = ns.map V.int := by
      have : ∀ {vs : List V} {ns : List Int}, Reps X.K X.mg G vs (ns.map D.int) → vs = ns.map V.int := by
        intro vs ns
        induction ns generalizing vs with
        | nil => intro r; cases r; rfl
        | cons n ns ih => intro r; cases r with
          | cons r1 r2 => cases r1; rw [ih r2]; rfl
      exact this rr
    subst ev
    refine tS_of (ps_set hN hi hx (pe_callS (E := WE (WV X c)) ok hr hg hm hk hb (fun σ => passAt tk σ) (pa_cons (pv j hj hv hd hcd) pa_nil he) hdb he rfl) hs hf) ?_
    refine ⟨.ref a, e1, a, ns, rfl, hh.sub.seq hsq, fun p t l hp ht hl => ?_⟩
    obtain ⟨G', s1, h1⟩ := hh.newPen hp0 hpa hbig hp ht hl
    exact ⟨_, G', h1.setVal (i := i) .adr, s1, q p⟩
end
end VL
set_option Elab.async false
set_option linter.all false
set_option maxRecDepth 100000
set_option maxHeartbeats 4000000
/-! VX7: small things: != of plain values, {}, powers, small quotients, indices. -/
namespace VL
open PySem PySem.Spec PyProof.Rows L2 NdefX ClX
section
variable {X : Cx} {c : Cv} {S : State} {e a b : Expr} {es : List Expr} {σ : L2.St} {G G' H : Hp} {pos : Pos} {Q : D → State → Prop} {QT : Bool → State → Prop}
/-! ### != of plain values and of empty dicts -/
def rNeE (K : PySem.W.Frag) : R2 := fun x y H Q => rNeAll K x y H Q ∨ rNeDA x y H Q
theorem op_neE {k : Nat} (hr : Room k X.A) : OpR X (compareOp .NotEq) (rNeE X.K) := (op_neAll hr).or (op_ne_dictA (by have := hr.un; omega))
/-- a value that == itself by the rules at hand -/
def selfEq (d : D) : Prop := d = .dct [] [] ∨ ∃ p, d.toPy = some p ∧ SeqAt.shaped p = true ∧ PyData.eqv p p = true
theorem rb_neSelf {d : D} (h : selfEq d) (q : Q (.bl false) S) : RB X c S (rNeE X.K) d d Q := by
  rcases h with rfl | ⟨p, h1, h2, h3⟩
  · intro σ G H u v hd ru rv R hR
    cases ru with
    | @dct a kvs _ _ m1 m2 m3 =>
      cases rv with
      | @dct b kvs2 _ _ n1 n2 n3 =>
        have e1 : kvs = [] := by cases kvs with | nil => rfl | cons x r => cases m2
        have e2 : kvs2 = [] := by cases kvs2 with | nil => rfl | cons x r => cases n2
        subst e1; subst e2
        exact .inr ⟨a, b, [], [], rfl, rfl, hd.sub _ _ m1, hd.sub _ _ n1, rfl, fun p hp => (by cases hp), hR _ _ (pE_ret hd .bl q)⟩
  · refine (rb_neAD h1 h1 h2 h2 ?_).or1
    rw [h3]
    exact q
/-- {} -/
theorem ve_dict0 (q : Q (.dct [] []) S) : VE X c S (.Dict [] [] pos) Q := fun σ G H hd => tE_of pe_dnewK fun p hp => pE_new hd hp (.dct (kvs := []) upd_same rfl .nil) q
theorem rb_pow {i j : Int} (hC : CPow i j) (q : Q (.int (i ^ j.toNat)) S) : RB X c S (rI CPow fun i j => .int (i ^ j.toNat)) (.int i) (.int j) Q := rb_intC (f := fun i j => i ^ j.toNat) hC q
end
theorem divOk_small {x m : Int} (h1 : 1 ≤ m) (h2 : m ≤ 2 ^ 60) : DivOk x m := by
  refine ⟨by omega, ?_⟩
  have hl : m.natAbs.log2 < 61 := (Nat.log2_lt (by omega)).mpr (by omega)
  unfold PySem.Builtin.divisionGoesByPylong
  have : ¬ (m.natAbs.log2 / 30 + 1 > 300) := by omega
  have hm : (m == 0) = false := by simp; omega
  simp [hm, this]
theorem div_le {x m : Int} (h0 : 0 ≤ x) (h1 : 1 ≤ m) : 0 ≤ x / m ∧ x / m ≤ x := ⟨Int.ediv_nonneg h0 (by omega), Int.ediv_le_self _ h0⟩
theorem mulL {i j : Int} (h1 : -(2 ^ 64) < i) (h2 : i < 2 ^ 64) : IntMulOk i j := CMul.ok (.inl ⟨h1, h2⟩)
theorem mulR {i j : Int} (h1 : -(2 ^ 64) < j) (h2 : j < 2 ^ 64) : IntMulOk i j := CMul.ok (.inr ⟨h1, h2⟩)
theorem eqv_nil (cells : List Int) : PyData.eqv (.list (cells.map PyData.int)) (.list []) = cells.isEmpty := by cases cells <;> rfl
theorem go_ints (cells : List Int) : D.toPy.go (cells.map D.int) = some (cells.map PyData.int) := by
  induction cells with
  | nil => rfl
  | cons x r ih => show (D.toPy (.int x)).bind _ = _; rw [List.map_cons, ih]; rfl
theorem toPy_scr (cells : List Int) : (D.scr (cells.map D.int)).toPy = some (.list (cells.map PyData.int)) := by
  show (D.toPy.go _).map _ = _
  rw [go_ints]; rfl
theorem toPy_lst (cells : List Int) : (D.lst (cells.map D.int)).toPy = some (.list (cells.map PyData.int)) := by
  show (D.toPy.go _).map _ = _
  rw [go_ints]; rfl
theorem eqv_ints (xs ys : List Int) : PyData.eqv (.list (xs.map PyData.int)) (.list (ys.map PyData.int)) = decide (xs = ys) := by
  have : ∀ xs ys : List Int, PyData.eqvAll (xs.map PyData.int) (ys.map PyData.int) = decide (xs = ys) := by
    intro xs
    induction xs with
    | nil => intro ys; cases ys <;> simp [PyData.eqvAll]
    | cons x r ih =>
      intro ys
      cases ys with
      | nil => simp [PyData.eqvAll]
      | cons y t =>
        simp only [List.map_cons, PyData.eqvAll, PyData.eqv, ih t]
        by_cases h : x = y <;> by_cases h' : r = t <;> simp [h, h']
  simpa [PyData.eqv] using this xs ys
theorem shaped_ints (ns : List Int) : SeqAt.shaped (.list (ns.map PyData.int)) = true := PySem.W.ke_shaped_ints ns
theorem atI_nat {α : Type} {l : List α} {j : Int} (h0 : 0 ≤ j) (h1 : j < l.length) : ∃ x, atI l j = some x ∧ x ∈ l := by
  have hj : j.toNat < l.length := by omega
  refine ⟨l[j.toNat], ?_, List.getElem_mem _⟩
  unfold atI ixN
  rw [if_pos h0, if_pos h1]
  show l[j.toNat]? = _
  exact List.getElem?_eq_getElem hj
theorem atI_of {α : Type} {l : List α} {i : Nat} {x : α} (h : l[i]? = some x) : atI l (i : Int) = some x := by
  have hi : i < l.length := (List.getElem?_eq_some_iff.mp h).1
  unfold atI ixN
  rw [if_pos (by omega), if_pos (by omega)]
  show l[((i : Nat) : Int).toNat]? = _
  rw [Int.toNat_natCast]
  exact h
end VL
set_option Elab.async false
set_option linter.all false
set_option maxRecDepth 100000
set_option maxHeartbeats 4000000
/-! VX8: facts of a head: own exception classes, isinstance. -/
namespace VL
open PySem PySem.Spec PyProof.Rows L2 NdefX ClX
section
variable {K : PySem.W.Frag} {C : Addr}
def oexB (K : PySem.W.Frag) (C : Addr) : Bool := (match K.lookup C with
  | some ⟨.type "type", _, .cls cd, sl⟩ => (match cd.mro, sl.toList with
    | .ref C' :: bm, [_, _, _, _, some (.builtin n), _] => C' == C && n == "ValueError.__new__" && !cd.hasDel && cd.hasDict && PySem.HandSPX.refsVE bm
    | _, _ => false)
  | _ => false) && (decide (PySem.W.findIn K (.ref C) "__setattr__" = some (some (.builtin "object.__setattr__"))) && (decide (PySem.W.subIn K (.ref C) (.type "BaseException") = some true) && (decide (PySem.W.typeIn K (.ref C) = some (.type "type")) && PySem.W.keepIn K (.ref C))))
theorem oexB_ok (q : oexB K C = true) : OexC K C := by
  unfold oexB at q
  obtain ⟨q, q2⟩ := Bool.and_eq_true_iff.mp q
  obtain ⟨q3, q4⟩ := Bool.and_eq_true_iff.mp q2
  obtain ⟨q5, q6⟩ := Bool.and_eq_true_iff.mp q4
  obtain ⟨q7, q8⟩ := Bool.and_eq_true_iff.mp q6
  refine ⟨?_, of_decide_eq_true q3, of_decide_eq_true q5, of_decide_eq_true q7, q8⟩
  split at q
  · rename_i dd cd sl ho
    split at q
    · rename_i C' bm k0 k1 k2 k3 n k5 hm hs
      simp only [Bool.and_eq_true, beq_iff_eq, Bool.not_eq_true'] at q
      obtain ⟨⟨⟨⟨rfl, rfl⟩, hdel⟩, hd⟩, hv⟩ := q
      obtain ⟨nm, bs, mro, ns, qn, hdc, sn, sub, ab, col, del⟩ := cd
      dsimp only at hm hdel hd
      subst hm hdel hd
      have hsl : sl = #[k0, k1, k2, k3, some (.builtin "ValueError.__new__"), k5] := by
        obtain ⟨l⟩ := sl
        simp only at hs
        rw [hs]
      subst hsl
      exact ⟨nm, qn, ns, bs, bm, sn, sub, ab, col, dd, k0, k1, k2, k3, k5, ho, hv⟩
    · cases q
  · cases q
def excCB (K : PySem.W.Frag) (D : Addr) : Bool := decide (PySem.W.findIn K (.ref D) "__getattribute__" = some (some (.builtin "BaseException.__getattribute__"))) && (decide (PySem.W.findIn K (.ref D) "__getattr__" = some none) && (decide (PySem.W.subIn K (.ref D) (.type "BaseException") = some true) &&
  (PySem.W.hasDictIn K D && (decide (PySem.W.findIn K (.ref D) "__class__" = some (some (.builtin "object.__class__"))) && (decide (PySem.W.specialIn K (.builtin "object.__class__") "__get__" = some (some (.builtin "getset_descriptor.__get__"))) && (decide (PySem.W.takesIn K (.builtin "object.__class__") = some true) && decide (PySem.W.mroIn K D (.type "object") = some true)))))))
theorem excCB_ok (q : excCB K C = true) : ExcC K C := by
  unfold excCB at q
  obtain ⟨q1, q⟩ := Bool.and_eq_true_iff.mp q
  obtain ⟨q2, q⟩ := Bool.and_eq_true_iff.mp q
  obtain ⟨q3, q⟩ := Bool.and_eq_true_iff.mp q
  obtain ⟨q4, q⟩ := Bool.and_eq_true_iff.mp q
  obtain ⟨q5, q⟩ := Bool.and_eq_true_iff.mp q
  obtain ⟨q6, q⟩ := Bool.and_eq_true_iff.mp q
  obtain ⟨q7, q8⟩ := Bool.and_eq_true_iff.mp q
  exact ⟨of_decide_eq_true q1, of_decide_eq_true q2, of_decide_eq_true q3, q4, of_decide_eq_true q5, of_decide_eq_true q6, of_decide_eq_true q7, of_decide_eq_true q8⟩
end
/-! ### own __init__s of exceptions -/
structure XD where
  cn : Str
  qual : Str
  st : Stmt
  fl : List Str
abbrev FnXo : Type := Option (Str × Str × Arguments × FuncBody × Scope × Addr × List Str × Value × Value × Option Addr × Addr)
def XD.ad (K : PySem.W.Frag) (d : XD) : Addr := He.ma K (He.ga K d.cn) "__init__"
def XD.obs (K : PySem.W.Frag) (d : XD) : FnXo := match K.lookup (d.ad K) with
  | some ⟨_, _, .func fd, _⟩ => some (fd.name, fd.qualname, fd.params, fd.body, fd.scope, fd.globals, fd.closure.map (·.1), fd.defaults, fd.kwdefaults, fd.annotations, fd.builtins)
  | _ => none
def XD.val (d : XD) : FnXo := some ("__init__", d.qual, defArgs d.st, .stmts (defBody d.st), defScope d.st, mainGlobals, ["__class__"], .none, .none, none, builtinsNs)
def XD.codeB (K : PySem.W.Frag) (file : Str) (d : XD) : Bool := match K.lookup (d.ad K) with
  | some ⟨_, _, .func fd, _⟩ => (match fd.code with
    | .ref c => PySem.W.codeIn K (.ref c) d.qual && (match K.lookup c with
      | some ⟨_, _, .fields vs, _⟩ => (match (vs[2]? : Option Value) with
        | some (Value.str f _) => decide (file = f)
        | _ => false)
      | _ => false)
    | _ => false) && (match fd.closure with
    | [(_, cc)] => (match K.lookup cc with
      | some ⟨_, _, .cell (some (.ref D)), _⟩ => decide (D = He.ga K d.cn)
      | _ => false)
    | _ => false)
  | _ => false
def XD.clsB (K : PySem.W.Frag) (d : XD) : Bool := He.eqO (PySem.W.nsIn K mainGlobals d.cn) (some (some (.ref (He.ga K d.cn)))) && (oexB K (He.ga K d.cn) && (xfB K (He.ga K d.cn) && (decide (PySem.W.findIn K (.ref (He.ga K d.cn)) "__init__" = some (some (.ref (d.ad K)))) &&
  (decide (PySem.W.typeIn K (.ref (d.ad K)) = some (.type "function")) && (d.fl.all (fun f => decide (PySem.W.findIn K (.ref (He.ga K d.cn)) f = some none)) && (decide (PySem.W.mroIn K (He.ga K d.cn) (.ref (He.ga K d.cn)) = some true) &&
  (decide (PySem.W.ks_superIn K (He.ga K d.cn) (He.ga K d.cn) "__init__" = some (some (.builtin "ValueError.__init__"))) && decide (PySem.W.subIn K (.ref (He.ga K d.cn)) (.type "ValueError") = some true))))))))
def XD.nf (d : XD) (cc c : Addr) : NF := ⟨"__init__", d.qual, defArgs d.st, defBody d.st, defScope d.st, [(("__class__" : Str), cc)], c⟩
structure XOk (P : Program) (K : PySem.W.Frag) (mg : Str → Option Value) (d : XD) : Prop where
  ex : ∃ (C cc c : Addr) (doc pm ctv oc : Value) (od : Option Addr) (osl : Array (Option Value)), mg d.cn = some (.ref C) ∧ OexC K C ∧ XfC K C ∧ PySem.W.findIn K (.ref C) "__init__" = some (some (.ref (d.ad K))) ∧ PySem.W.typeIn K (.ref (d.ad K)) = some (.type "function") ∧
    (∀ f ∈ d.fl, PySem.W.findIn K (.ref C) f = some none) ∧ K.lookup (d.ad K) = some ⟨oc, od, .func ((d.nf cc c).fd doc pm ctv), osl⟩ ∧ PySem.W.codeIn K (.ref c) d.qual = true ∧
    ∀ ar, ((defArgs d.st).posonlyargs ++ (defArgs d.st).args).head? = some ar → SupF P K mg (d.ad K) c cc C C ((d.nf cc c).fd doc pm ctv) ar
theorem clsIn_of {K : PySem.W.Frag} {C : Addr} {b : Value} {r : Bool} (h : PySem.W.mroIn K C b = some r) : ∃ cd, PySem.W.clsIn K C = some cd := by
  unfold PySem.W.mroIn at h
  cases e : PySem.W.clsIn K C with
  | none => rw [e] at h; cases h
  | some cd => exact ⟨cd, rfl⟩
theorem XD.facts {P : Program} {K : PySem.W.Frag} {mg : Str → Option Value} {h : Heap} {d : XD} {file : Str} (X : K.In h) (G : h.Ns mainGlobals mg) (e : d.obs K = d.val) (c1 : d.codeB K file = true) (c2 : d.clsB K = true)
    (hfile : ((P.main.file : Str) == file) = true) (hop : PySem.W.nsIn K cStatics "thirdparty.any" = some none) (hsup : PySem.W.nsIn K mainGlobals "super" = some none) (htop : (P.main.scope.names.lookup ("super" : Str)).isSome = false) : XOk P K mg d := by
  unfold XD.clsB at c2
  obtain ⟨a1, c2⟩ := Bool.and_eq_true_iff.mp c2
  obtain ⟨a2, c2⟩ := Bool.and_eq_true_iff.mp c2
  obtain ⟨a3, c2⟩ := Bool.and_eq_true_iff.mp c2
  obtain ⟨a4, c2⟩ := Bool.and_eq_true_iff.mp c2
  obtain ⟨a5, c2⟩ := Bool.and_eq_true_iff.mp c2
  obtain ⟨a6, c2⟩ := Bool.and_eq_true_iff.mp c2
  obtain ⟨a7, c2⟩ := Bool.and_eq_true_iff.mp c2
  obtain ⟨a8, a9⟩ := Bool.and_eq_true_iff.mp c2
  unfold XD.codeB at c1
  unfold XD.obs at e
  cases q : K.lookup (d.ad K) with
  | none => rw [q] at c1; cases c1
  | some o =>
    obtain ⟨oc, od, dt, osl⟩ := o
    rw [q] at c1 e
    cases dt with
    | func fd =>
      obtain ⟨n1, n2, n3, n4, n5, n6, n7, n8, n9, n10, n11, n12, n13, n14, n15⟩ := fd
      have e2 : (some (n1, n2, n3, n4, n5, n6, n7.map (·.1), n8, n9, n12, n15) : FnXo) = (some ("__init__", d.qual, defArgs d.st, .stmts (defBody d.st), defScope d.st, mainGlobals, ["__class__"], .none, .none, none, builtinsNs) : FnXo) := e
      simp only [Option.some.injEq, Prod.mk.injEq] at e2
      obtain ⟨h1, h2, h3, h4, h5, h6, h7, h8, h9, h10, h11⟩ := e2
      subst h1 h2 h3 h4 h5 h6 h8 h9 h10 h11
      obtain ⟨b1, b2⟩ := Bool.and_eq_true_iff.mp c1
      match n7, h7, b2 with
      | [(x, cc)], h7, b2 =>
        have ex : x = "__class__" := by simpa using h7
        subst ex
        cases n13 with
        | ref c =>
          obtain ⟨b3, b4⟩ := Bool.and_eq_true_iff.mp (show (PySem.W.codeIn K (.ref c) d.qual && (match K.lookup c with
            | some ⟨_, _, .fields vs, _⟩ => (match (vs[2]? : Option Value) with
              | some (Value.str f _) => decide (file = f)
              | _ => false)
            | _ => false)) = true from b1)
          have hcode : ∃ ccl cdd vs ccs f tf, K.lookup c = some ⟨ccl, cdd, .fields vs, ccs⟩ ∧ vs[2]? = some (.str f tf) ∧ ((P.main.file : Str) == f) = true := by
            cases q2 : K.lookup c with
            | none => rw [q2] at b4; cases b4
            | some o2 =>
              obtain ⟨oc2, od2, dt2, osl2⟩ := o2
              rw [q2] at b4
              cases dt2 with
              | fields vs =>
                have b5 : (match (vs[2]? : Option Value) with
                  | some (Value.str f _) => decide (file = f)
                  | _ => false) = true := b4
                cases q3 : vs[2]? with
                | none => rw [q3] at b5; cases b5
                | some v3 =>
                  rw [q3] at b5
                  cases v3 with
                  | str f tf =>
                    have ef : file = f := of_decide_eq_true b5
                    subst ef
                    exact ⟨_, _, _, _, _, tf, rfl, q3, hfile⟩
                  | _ => cases b5
              | _ => cases b4
          have hcell : ∃ cl cld csl, K.lookup cc = some ⟨cl, cld, .cell (some (.ref (He.ga K d.cn))), csl⟩ := by
            have b6 : (match K.lookup cc with
              | some ⟨_, _, .cell (some (.ref D)), _⟩ => decide (D = He.ga K d.cn)
              | _ => false) = true := b2
            cases q2 : K.lookup cc with
            | none => rw [q2] at b6; cases b6
            | some o2 =>
              obtain ⟨oc2, od2, dt2, osl2⟩ := o2
              rw [q2] at b6
              cases dt2 with
              | cell v =>
                cases v with
                | none => cases b6
                | some v =>
                  cases v with
                  | ref D =>
                    have ed : D = He.ga K d.cn := of_decide_eq_true b6
                    subst ed
                    exact ⟨_, _, _, rfl⟩
                  | _ => cases b6
              | _ => cases b6
          have T := oexB_ok a2
          refine ⟨He.ga K d.cn, cc, c, n10, n11, n14, oc, od, osl, PySem.W.mg_of X G (He.eqO_ok a1), T, xfB_ok a3, of_decide_eq_true a4, of_decide_eq_true a5, fun f hf => of_decide_eq_true (List.all_eq_true.mp a6 f hf), q, b3, fun ar har => ?_⟩
          exact ⟨T, clsIn_of (of_decide_eq_true a7), of_decide_eq_true a7, of_decide_eq_true a8, of_decide_eq_true a9, ⟨_, _, _, q⟩, har, hcode, hcell, hop, PySem.W.mg_none_of X G hsup, htop⟩
        | _ => cases b1
      | [], h7, _ => cases h7
      | _ :: _ :: _, h7, _ => simp at h7
    | _ => cases c1
section
variable {P : Program} {w : World} {K : PySem.W.Frag} {mg : Str → Option Value} {base : Heap} {d : XD} {self p q fld fld2 : Str} {ar : Arg} {p0 p1 p2 p3 p4 q1 q2 q3 q4 q5 r1 r2 r3 r4 r5 s1 s2 : Pos}
/-- as fnX1 asks: the super call's tree -/
def HC1 (P : Program) (w : World) (K : PySem.W.Frag) (mg : Str → Option Value) (base : Heap) (d : XD) (N : List Str) (p0 p1 p2 p3 : Pos) (es : List Expr) : Prop := ∀ (cc c f : Addr) (A : Around) (outer : List Env) (s : Shared) (H : Hp) (E : XK), ∃ pl : Sem Bool, eval (.Call (.Attribute (.Call (.Name "super" p0) [] [] p1) "__init__" p2) es [] p3) (ncx (L2.CX P w) P w K mg base N (d.nf cc c) f A outer s H E).env = (do
      let ov ← attributeBase (.Call (.Name "super" p0) [] [] p1) "__init__" (ncx (L2.CX P w) P w K mg base N (d.nf cc c) f A outer s H E).env (eval (.Call (.Name "super" p0) [] [] p1) (ncx (L2.CX P w) P w K mg base N (d.nf cc c) f A outer s H E).env)
      standAt p2.atName
      let (fo, first) ← holding [ov] (getMethod ov "__init__" pl)
      callWith p3 fo first (backTo p3 (starEach es (ncx (L2.CX P w) P w K mg base N (d.nf cc c) f A outer s H E).env)) [])
theorem vex1 (X : XOk P K mg d) (hfl : d.fl = [fld]) (S : NScope [self, p, "__class__"] [self, p] [("__class__" : Str)] (defScope d.st)) (hbd : defBody d.st = [.Expr (.Call (.Attribute (.Call (.Name "super" p0) [] [] p1) "__init__" p2) [.Name p q1] [] p3) p4, .Assign [.Attribute (.Name self q2) fld q3] (.Name p q4) q5])
    (har : ((defArgs d.st).posonlyargs ++ (defArgs d.st).args).head? = some ar) (hself : ar.arg = self) (hsup : (defScope d.st).names.lookup ("super" : Str) = some .globalImplicit)
    (hc : HC1 P w K mg base d [self, p, "__class__"] p0 p1 p2 p3 [.Name p q1])
    (d1 : (self == ("__debug__" : Str)) = false := by decide) (d2 : (self == ("__classdict__" : Str)) = false := by decide) (d3 : (p == ("__debug__" : Str)) = false := by decide) (d4 : (p == ("__classdict__" : Str)) = false := by decide) : VEx P w K mg base 1 d.cn [fld] [self, p] d.st := by
  obtain ⟨C, cc, c, doc, pm, ctv, oc, od, osl, h1, h2, h3, h4, h5, h6, h7, h8, h9⟩ := X.ex
  refine ⟨C, d.ad K, d.nf cc c, doc, pm, ctv, h1, h2, h4, h5, rfl, ?_⟩
  exact fnX1 (F := d.nf cc c) h7 h8 rfl S hbd (h9 ar har) hself hsup (h6 fld (by rw [hfl]; simp)) d1 d2 d3 d4 (fun A outer s H E => hc cc c _ A outer s H E)
theorem vex2 (X : XOk P K mg d) (hfl : d.fl = [fld, fld2]) (S : NScope [self, p, q, "__class__"] [self, p, q] [("__class__" : Str)] (defScope d.st)) (hbd : defBody d.st = [.Expr (.Call (.Attribute (.Call (.Name "super" p0) [] [] p1) "__init__" p2) [.Name p q1, .Name q s1] [] p3) p4, .Assign [.Attribute (.Name self q2) fld q3] (.Name p q4) q5, .Assign [.Attribute (.Name self r2) fld2 r3] (.Name q r4) r5])
    (har : ((defArgs d.st).posonlyargs ++ (defArgs d.st).args).head? = some ar) (hself : ar.arg = self) (hsup : (defScope d.st).names.lookup ("super" : Str) = some .globalImplicit)
    (hc : HC1 P w K mg base d [self, p, q, "__class__"] p0 p1 p2 p3 [.Name p q1, .Name q s1])
    (d1 : (self == ("__debug__" : Str)) = false := by decide) (d2 : (self == ("__classdict__" : Str)) = false := by decide) (d3 : (p == ("__debug__" : Str)) = false := by decide) (d4 : (p == ("__classdict__" : Str)) = false := by decide) (d5 : (q == ("__debug__" : Str)) = false := by decide) (d6 : (q == ("__classdict__" : Str)) = false := by decide) : VEx P w K mg base 1 d.cn [fld, fld2] [self, p, q] d.st := by
  obtain ⟨C, cc, c, doc, pm, ctv, oc, od, osl, h1, h2, h3, h4, h5, h6, h7, h8, h9⟩ := X.ex
  refine ⟨C, d.ad K, d.nf cc c, doc, pm, ctv, h1, h2, h4, h5, rfl, ?_⟩
  exact fnX2 (F := d.nf cc c) h7 h8 rfl S hbd (h9 ar har) hself hsup (h6 fld (by rw [hfl]; simp)) (h6 fld2 (by rw [hfl]; simp)) d1 d2 d3 d4 d5 d6 (fun A outer s H E => hc cc c _ A outer s H E)
theorem XOk.xf (X : XOk P K mg d) {f : Str} (hf : f ∈ d.fl) : XfF K mg d.cn f := by
  obtain ⟨C, cc, c, doc, pm, ctv, oc, od, osl, h1, h2, h3, h4, h5, h6, h7, h8, h9⟩ := X.ex
  intro C' hC'
  rw [h1] at hC'
  cases hC'
  exact ⟨h3, h6 f hf⟩
end
/-! ### the Hook: defs, facts, exceptions, any test -/
abbrev AlV : Type := He.AlD × List FnXo × Bool
def frV (n : Nat) (g : Addr → Option Obj) : PySem.W.Frag := He.frG g (cStatics :: He.asD g n)
def obsV (fa : List He.Fa) (fn : List He.DefD) (xs : List XD) (t : PySem.W.Frag → Bool) (K : PySem.W.Frag) : AlV := (He.obsD fa fn K, xs.map (XD.obs K), t K)
def valV0 (fn : List He.DefD) (xs : List XD) : AlV := (He.valD fn, xs.map XD.val, true)
def hookV (n : Nat) (fa : List He.Fa) (fn : List He.DefD) (xs : List XD) (t : PySem.W.Frag → Bool) : PySem.W.Hook where
  α := AlV
  obs := fun s => obsV fa fn xs t (frV n s.heap.get?)
  val := fun _ => valV0 fn xs
  says := fun _ h => ∃ K : PySem.W.Frag, K.In h ∧ obsV fa fn xs t K = valV0 fn xs
  of := fun _ _ e => ⟨_, He.frG_in, e⟩
  keeps := fun _ _ _ ⟨K, hK, c⟩ k => ⟨K, PySem.W.Frag.In.keeps hK k, c⟩
theorem obsV_eq {n : Nat} {fa : List He.Fa} {fn : List He.DefD} {xs : List XD} {t : PySem.W.Frag → Bool} {g : Addr → Option Obj} {s : Shared} (h : ∀ a, g a = s.heap.get? a) : obsV fa fn xs t (frV n g) = (hookV n fa fn xs t).obs s := by
  have e : g = s.heap.get? := funext h
  rw [e] <;> rfl
end VL
set_option Elab.async false
set_option linter.all false
set_option maxRecDepth 100000
set_option maxHeartbeats 4000000
namespace My
open PySem PySem.Spec PyProof.Rows L2 VL
def top (i : Nat) : Stmt := PySem.Challenge.pw_allstreams_k00_errors_made_by_hand.main.body.getD i (.Pass ⟨0, 0, 0, 0⟩)
def clsBody : Stmt → List Stmt
  | .ClassDef _ _ _ body _ _ _ _ _ _ _ => body
  | _ => []
def nm : List Str := ["BadValue", "NoDivisor", "AtNought", "NotAText", "NoGiver", "TwoGivers", "Unknown", "Taken", "Apart", "Within", "Unpaced", "TooMany", "StandsStill", "CannotStep", "Unlike", "Singular", "NotSquare", "NotUndone", "HasLoops", "BadCode", "HasSource", "NotOfNet", "NotDriven", "NotAFile", "BadPromise", "Broken", "NotMade", "NothingToUndo", "NothingToRedo"]
def flds : List (List Str) := [["value"], [], [], ["at"], ["name"], ["name"], ["name"], ["name"], ["name"], ["name"], ["at"], ["most"], [], ["box"], [], [], [], [], [], ["at"], ["name"], [], [], ["line", "at"], ["promise"], ["promise", "paper"], ["promise"], [], []]
abbrev initSt (i : Nat) : Stmt := (clsBody (top (i + 2))).headD (.Pass ⟨0, 0, 0, 0⟩)

theorem len2 {α : Type} {l : List α} (h : l.length = 2) : ∃ a b, l = [a, b] := by
  match l, h with
  | [a, b], _ => exact ⟨a, b, rfl⟩
/-- what is known of the classes of errors -/
structure Fx (P : Program) (w : World) (K : PySem.W.Frag) (mg : Str → Option Value) (base : Heap) : Prop where
  cls : ∃ (cA : Nat → Addr) (sA : Addr), mg "StreamError" = some (.ref sA) ∧ ∀ (i : Nat) (n : Str), nm[i]? = some n → mg n = some (.ref (cA i)) ∧ ExcC K (cA i) ∧ (∀ j, j < 29 → PySem.W.kitOne K (.ref (cA i)) (.ref (cA j)) = some (decide (i = j))) ∧
    PySem.W.kitOne K (.ref (cA i)) (.ref sA) = some true ∧ PySem.W.kitOne K (.ref (cA i)) (.type "ValueError") = some true ∧ PySem.W.exmOne K (.ref (cA i)) (.ref sA) = some true
  own : ∀ (i : Nat) (n : Str) (fl : List Str), nm[i]? = some n → flds[i]? = some fl → fl ≠ [] → VEx P w K mg base 1 n fl ("self" :: fl) (initSt i)
  zero : ∀ (i : Nat) (n : Str), nm[i]? = some n → flds[i]? = some [] → VEx0 K mg n
  xf : ∀ (i : Nat) (n : Str) (fl : List Str) (f : Str), nm[i]? = some n → flds[i]? = some fl → f ∈ fl → XfF K mg n f
  mII : mg "isinstance" = none
  mVE : mg "ValueError" = none
  mInt : mg "int" = none
  mLen : mg "len" = none
  mAll : mg "all" = none
  mRange : mg "range" = none
  mMin : mg "min" = none
  mList : mg "list" = none

theorem exb1_BadValue : ExB (initSt 0) ["self", "value"] 1 [] [0] := fun F doc pm ctv a us ws hp hu hw => by
  obtain ⟨u, rfl⟩ := List.length_eq_one_iff.mp hu
  obtain rfl := List.length_eq_zero_iff.mp hw
  cases F
  dsimp only at hp
  subst hp
  rfl
theorem exk1_BadValue : ExB (initSt 0) ["self", "value"] 0 ["value"] [0] := fun F doc pm ctv a us ws hp hu hw => by
  obtain ⟨u, rfl⟩ := List.length_eq_one_iff.mp hw
  obtain rfl := List.length_eq_zero_iff.mp hu
  cases F
  dsimp only at hp
  subst hp
  rfl
theorem exb1_NotAText : ExB (initSt 3) ["self", "at"] 1 [] [0] := fun F doc pm ctv a us ws hp hu hw => by
  obtain ⟨u, rfl⟩ := List.length_eq_one_iff.mp hu
  obtain rfl := List.length_eq_zero_iff.mp hw
  cases F
  dsimp only at hp
  subst hp
  rfl
theorem exk1_NotAText : ExB (initSt 3) ["self", "at"] 0 ["at"] [0] := fun F doc pm ctv a us ws hp hu hw => by
  obtain ⟨u, rfl⟩ := List.length_eq_one_iff.mp hw
  obtain rfl := List.length_eq_zero_iff.mp hu
  cases F
  dsimp only at hp
  subst hp
  rfl
theorem exb1_NoGiver : ExB (initSt 4) ["self", "name"] 1 [] [0] := fun F doc pm ctv a us ws hp hu hw => by
  obtain ⟨u, rfl⟩ := List.length_eq_one_iff.mp hu
  obtain rfl := List.length_eq_zero_iff.mp hw
  cases F
  dsimp only at hp
  subst hp
  rfl
theorem exk1_NoGiver : ExB (initSt 4) ["self", "name"] 0 ["name"] [0] := fun F doc pm ctv a us ws hp hu hw => by
  obtain ⟨u, rfl⟩ := List.length_eq_one_iff.mp hw
  obtain rfl := List.length_eq_zero_iff.mp hu
  cases F
  dsimp only at hp
  subst hp
  rfl
theorem exb1_TwoGivers : ExB (initSt 5) ["self", "name"] 1 [] [0] := fun F doc pm ctv a us ws hp hu hw => by
  obtain ⟨u, rfl⟩ := List.length_eq_one_iff.mp hu
  obtain rfl := List.length_eq_zero_iff.mp hw
  cases F
  dsimp only at hp
  subst hp
  rfl
theorem exk1_TwoGivers : ExB (initSt 5) ["self", "name"] 0 ["name"] [0] := fun F doc pm ctv a us ws hp hu hw => by
  obtain ⟨u, rfl⟩ := List.length_eq_one_iff.mp hw
  obtain rfl := List.length_eq_zero_iff.mp hu
  cases F
  dsimp only at hp
  subst hp
  rfl
theorem exb1_Unknown : ExB (initSt 6) ["self", "name"] 1 [] [0] := fun F doc pm ctv a us ws hp hu hw => by
  obtain ⟨u, rfl⟩ := List.length_eq_one_iff.mp hu
  obtain rfl := List.length_eq_zero_iff.mp hw
  cases F
  dsimp only at hp
  subst hp
  rfl
theorem exk1_Unknown : ExB (initSt 6) ["self", "name"] 0 ["name"] [0] := fun F doc pm ctv a us ws hp hu hw => by
  obtain ⟨u, rfl⟩ := List.length_eq_one_iff.mp hw
  obtain rfl := List.length_eq_zero_iff.mp hu
  cases F
  dsimp only at hp
  subst hp
  rfl
theorem exb1_Taken : ExB (initSt 7) ["self", "name"] 1 [] [0] := fun F doc pm ctv a us ws hp hu hw => by
  obtain ⟨u, rfl⟩ := List.length_eq_one_iff.mp hu
  obtain rfl := List.length_eq_zero_iff.mp hw
  cases F
  dsimp only at hp
  subst hp
  rfl
theorem exk1_Taken : ExB (initSt 7) ["self", "name"] 0 ["name"] [0] := fun F doc pm ctv a us ws hp hu hw => by
  obtain ⟨u, rfl⟩ := List.length_eq_one_iff.mp hw
  obtain rfl := List.length_eq_zero_iff.mp hu
  cases F
  dsimp only at hp
  subst hp
  rfl
theorem exb1_Apart : ExB (initSt 8) ["self", "name"] 1 [] [0] := fun F doc pm ctv a us ws hp hu hw => by
  obtain ⟨u, rfl⟩ := List.length_eq_one_iff.mp hu
  obtain rfl := List.length_eq_zero_iff.mp hw
  cases F
  dsimp only at hp
  subst hp
  rfl
theorem exk1_Apart : ExB (initSt 8) ["self", "name"] 0 ["name"] [0] := fun F doc pm ctv a us ws hp hu hw => by
  obtain ⟨u, rfl⟩ := List.length_eq_one_iff.mp hw
  obtain rfl := List.length_eq_zero_iff.mp hu
  cases F
  dsimp only at hp
  subst hp
  rfl
theorem exb1_Within : ExB (initSt 9) ["self", "name"] 1 [] [0] := fun F doc pm ctv a us ws hp hu hw => by
  obtain ⟨u, rfl⟩ := List.length_eq_one_iff.mp hu
  obtain rfl := List.length_eq_zero_iff.mp hw
  cases F
  dsimp only at hp
  subst hp
  rfl
theorem exk1_Within : ExB (initSt 9) ["self", "name"] 0 ["name"] [0] := fun F doc pm ctv a us ws hp hu hw => by
  obtain ⟨u, rfl⟩ := List.length_eq_one_iff.mp hw
  obtain rfl := List.length_eq_zero_iff.mp hu
  cases F
  dsimp only at hp
  subst hp
  rfl
theorem exb1_Unpaced : ExB (initSt 10) ["self", "at"] 1 [] [0] := fun F doc pm ctv a us ws hp hu hw => by
  obtain ⟨u, rfl⟩ := List.length_eq_one_iff.mp hu
  obtain rfl := List.length_eq_zero_iff.mp hw
  cases F
  dsimp only at hp
  subst hp
  rfl
theorem exk1_Unpaced : ExB (initSt 10) ["self", "at"] 0 ["at"] [0] := fun F doc pm ctv a us ws hp hu hw => by
  obtain ⟨u, rfl⟩ := List.length_eq_one_iff.mp hw
  obtain rfl := List.length_eq_zero_iff.mp hu
  cases F
  dsimp only at hp
  subst hp
  rfl
theorem exb1_TooMany : ExB (initSt 11) ["self", "most"] 1 [] [0] := fun F doc pm ctv a us ws hp hu hw => by
  obtain ⟨u, rfl⟩ := List.length_eq_one_iff.mp hu
  obtain rfl := List.length_eq_zero_iff.mp hw
  cases F
  dsimp only at hp
  subst hp
  rfl
theorem exk1_TooMany : ExB (initSt 11) ["self", "most"] 0 ["most"] [0] := fun F doc pm ctv a us ws hp hu hw => by
  obtain ⟨u, rfl⟩ := List.length_eq_one_iff.mp hw
  obtain rfl := List.length_eq_zero_iff.mp hu
  cases F
  dsimp only at hp
  subst hp
  rfl
theorem exb1_CannotStep : ExB (initSt 13) ["self", "box"] 1 [] [0] := fun F doc pm ctv a us ws hp hu hw => by
  obtain ⟨u, rfl⟩ := List.length_eq_one_iff.mp hu
  obtain rfl := List.length_eq_zero_iff.mp hw
  cases F
  dsimp only at hp
  subst hp
  rfl
theorem exk1_CannotStep : ExB (initSt 13) ["self", "box"] 0 ["box"] [0] := fun F doc pm ctv a us ws hp hu hw => by
  obtain ⟨u, rfl⟩ := List.length_eq_one_iff.mp hw
  obtain rfl := List.length_eq_zero_iff.mp hu
  cases F
  dsimp only at hp
  subst hp
  rfl
theorem exb1_BadCode : ExB (initSt 19) ["self", "at"] 1 [] [0] := fun F doc pm ctv a us ws hp hu hw => by
  obtain ⟨u, rfl⟩ := List.length_eq_one_iff.mp hu
  obtain rfl := List.length_eq_zero_iff.mp hw
  cases F
  dsimp only at hp
  subst hp
  rfl
theorem exk1_BadCode : ExB (initSt 19) ["self", "at"] 0 ["at"] [0] := fun F doc pm ctv a us ws hp hu hw => by
  obtain ⟨u, rfl⟩ := List.length_eq_one_iff.mp hw
  obtain rfl := List.length_eq_zero_iff.mp hu
  cases F
  dsimp only at hp
  subst hp
  rfl
theorem exb1_HasSource : ExB (initSt 20) ["self", "name"] 1 [] [0] := fun F doc pm ctv a us ws hp hu hw => by
  obtain ⟨u, rfl⟩ := List.length_eq_one_iff.mp hu
  obtain rfl := List.length_eq_zero_iff.mp hw
  cases F
  dsimp only at hp
  subst hp
  rfl
theorem exk1_HasSource : ExB (initSt 20) ["self", "name"] 0 ["name"] [0] := fun F doc pm ctv a us ws hp hu hw => by
  obtain ⟨u, rfl⟩ := List.length_eq_one_iff.mp hw
  obtain rfl := List.length_eq_zero_iff.mp hu
  cases F
  dsimp only at hp
  subst hp
  rfl
theorem exb2_NotAFile : ExB (initSt 23) ["self", "line", "at"] 2 [] [0, 1] := fun F doc pm ctv a us ws hp hu hw => by
  obtain ⟨u, u2, rfl⟩ := len2 hu
  obtain rfl := List.length_eq_zero_iff.mp hw
  cases F
  dsimp only at hp
  subst hp
  rfl
theorem exm2_NotAFile : ExB (initSt 23) ["self", "line", "at"] 1 ["at"] [0, 1] := fun F doc pm ctv a us ws hp hu hw => by
  obtain ⟨u, rfl⟩ := List.length_eq_one_iff.mp hu
  obtain ⟨u2, rfl⟩ := List.length_eq_one_iff.mp hw
  cases F
  dsimp only at hp
  subst hp
  rfl
theorem exk2_NotAFile : ExB (initSt 23) ["self", "line", "at"] 0 ["at", "line"] [1, 0] := fun F doc pm ctv a us ws hp hu hw => by
  obtain ⟨u, u2, rfl⟩ := len2 hw
  obtain rfl := List.length_eq_zero_iff.mp hu
  cases F
  dsimp only at hp
  subst hp
  rfl
theorem exb1_BadPromise : ExB (initSt 24) ["self", "promise"] 1 [] [0] := fun F doc pm ctv a us ws hp hu hw => by
  obtain ⟨u, rfl⟩ := List.length_eq_one_iff.mp hu
  obtain rfl := List.length_eq_zero_iff.mp hw
  cases F
  dsimp only at hp
  subst hp
  rfl
theorem exk1_BadPromise : ExB (initSt 24) ["self", "promise"] 0 ["promise"] [0] := fun F doc pm ctv a us ws hp hu hw => by
  obtain ⟨u, rfl⟩ := List.length_eq_one_iff.mp hw
  obtain rfl := List.length_eq_zero_iff.mp hu
  cases F
  dsimp only at hp
  subst hp
  rfl
theorem exb2_Broken : ExB (initSt 25) ["self", "promise", "paper"] 2 [] [0, 1] := fun F doc pm ctv a us ws hp hu hw => by
  obtain ⟨u, u2, rfl⟩ := len2 hu
  obtain rfl := List.length_eq_zero_iff.mp hw
  cases F
  dsimp only at hp
  subst hp
  rfl
theorem exm2_Broken : ExB (initSt 25) ["self", "promise", "paper"] 1 ["paper"] [0, 1] := fun F doc pm ctv a us ws hp hu hw => by
  obtain ⟨u, rfl⟩ := List.length_eq_one_iff.mp hu
  obtain ⟨u2, rfl⟩ := List.length_eq_one_iff.mp hw
  cases F
  dsimp only at hp
  subst hp
  rfl
theorem exk2_Broken : ExB (initSt 25) ["self", "promise", "paper"] 0 ["paper", "promise"] [1, 0] := fun F doc pm ctv a us ws hp hu hw => by
  obtain ⟨u, u2, rfl⟩ := len2 hw
  obtain rfl := List.length_eq_zero_iff.mp hu
  cases F
  dsimp only at hp
  subst hp
  rfl
theorem exb1_NotMade : ExB (initSt 26) ["self", "promise"] 1 [] [0] := fun F doc pm ctv a us ws hp hu hw => by
  obtain ⟨u, rfl⟩ := List.length_eq_one_iff.mp hu
  obtain rfl := List.length_eq_zero_iff.mp hw
  cases F
  dsimp only at hp
  subst hp
  rfl
theorem exk1_NotMade : ExB (initSt 26) ["self", "promise"] 0 ["promise"] [0] := fun F doc pm ctv a us ws hp hu hw => by
  obtain ⟨u, rfl⟩ := List.length_eq_one_iff.mp hw
  obtain rfl := List.length_eq_zero_iff.mp hu
  cases F
  dsimp only at hp
  subst hp
  rfl
section
variable {P : Program} {w : World} {K : PySem.W.Frag} {mg : Str → Option Value} {base : Heap} {kws : List (Str × V)} {f : Addr} {fd : FuncData}

abbrev sAlone : Stmt := top 35
theorem scAlone : FnScope ["_law_mine"] ["_law_mine"] (defScope sAlone) := ⟨rfl, rfl, rfl, by decide +kernel, rfl, by decide +kernel, by decide +kernel⟩
def ctAlone : Ct where
  run ds pn k e := ∃ d, ds = [d] ∧ k (.lst (List.replicate 15 (.tup [d, d]))) pn
  mono := fun ⟨d, h, q⟩ hk he => ⟨d, h, hk _ _ q⟩
theorem fn_alone (F : FunD K "_law_alone" "_law_alone" (defArgs sAlone) (defBody sAlone) (defScope sAlone) [] kws f fd) (Z : Fx P w K mg base) : FnOk P w K mg base (L2.CX P w) 3 f fd ["_law_mine"] (spV "stop" "rest" K mg ctAlone) := by
  refine fn_body F scAlone (by decide) (fun ds pn k e ⟨d, h, _⟩ => by subst h; rfl) fun cdv A outer s H E G ds pn Qv Ev hr tk ⟨d, hds, q⟩ => ?_
  subst hds
  refine vss_one ?_
  refine vs_ret ?_
  refine ve_lst ?_
  refine va_cons ?_
  refine ve_tup ?_
  refine va_cons ?_
  refine ve_xfld ?_
  refine ve_exnK (Z.own 0 "BadValue" ["value"] rfl rfl (by simp)) exb1_BadValue hr tk (by decide) ?_
  refine va_cons ?_
  refine ve_val 0 rfl ?_
  refine va_nil ?_
  refine vk_nil ?_
  refine ⟨rfl, rfl, rfl, ?_⟩
  refine ⟨_, _, _, _, rfl, by simp, Z.xf 0 "BadValue" ["value"] "value" rfl rfl (by simp), rfl, ?_⟩
  refine va_cons ?_
  refine ve_xfld ?_
  refine ve_exnK0 (Z.own 0 "BadValue" ["value"] rfl rfl (by simp)) exk1_BadValue hr tk ?_
  refine vk_cons ?_
  refine ve_val 0 rfl ?_
  refine vk_nil ?_
  refine ⟨rfl, rfl, ?_⟩
  refine ⟨_, _, _, _, rfl, by simp, Z.xf 0 "BadValue" ["value"] "value" rfl rfl (by simp), rfl, ?_⟩
  refine va_nil ?_
  refine ⟨by rw [sizeLine_eq]; simp, ?_⟩
  refine va_cons ?_
  refine ve_tup ?_
  refine va_cons ?_
  refine ve_xfld ?_
  refine ve_exnK (Z.own 3 "NotAText" ["at"] rfl rfl (by simp)) exb1_NotAText hr tk (by decide) ?_
  refine va_cons ?_
  refine ve_val 0 rfl ?_
  refine va_nil ?_
  refine vk_nil ?_
  refine ⟨rfl, rfl, rfl, ?_⟩
  refine ⟨_, _, _, _, rfl, by simp, Z.xf 3 "NotAText" ["at"] "at" rfl rfl (by simp), rfl, ?_⟩
  refine va_cons ?_
  refine ve_xfld ?_
  refine ve_exnK0 (Z.own 3 "NotAText" ["at"] rfl rfl (by simp)) exk1_NotAText hr tk ?_
  refine vk_cons ?_
  refine ve_val 0 rfl ?_
  refine vk_nil ?_
  refine ⟨rfl, rfl, ?_⟩
  refine ⟨_, _, _, _, rfl, by simp, Z.xf 3 "NotAText" ["at"] "at" rfl rfl (by simp), rfl, ?_⟩
  refine va_nil ?_
  refine ⟨by rw [sizeLine_eq]; simp, ?_⟩
  refine va_cons ?_
  refine ve_tup ?_
  refine va_cons ?_
  refine ve_xfld ?_
  refine ve_exnK (Z.own 4 "NoGiver" ["name"] rfl rfl (by simp)) exb1_NoGiver hr tk (by decide) ?_
  refine va_cons ?_
  refine ve_val 0 rfl ?_
  refine va_nil ?_
  refine vk_nil ?_
  refine ⟨rfl, rfl, rfl, ?_⟩
  refine ⟨_, _, _, _, rfl, by simp, Z.xf 4 "NoGiver" ["name"] "name" rfl rfl (by simp), rfl, ?_⟩
  refine va_cons ?_
  refine ve_xfld ?_
  refine ve_exnK0 (Z.own 4 "NoGiver" ["name"] rfl rfl (by simp)) exk1_NoGiver hr tk ?_
  refine vk_cons ?_
  refine ve_val 0 rfl ?_
  refine vk_nil ?_
  refine ⟨rfl, rfl, ?_⟩
  refine ⟨_, _, _, _, rfl, by simp, Z.xf 4 "NoGiver" ["name"] "name" rfl rfl (by simp), rfl, ?_⟩
  refine va_nil ?_
  refine ⟨by rw [sizeLine_eq]; simp, ?_⟩
  refine va_cons ?_
  refine ve_tup ?_
  refine va_cons ?_
  refine ve_xfld ?_
  refine ve_exnK (Z.own 5 "TwoGivers" ["name"] rfl rfl (by simp)) exb1_TwoGivers hr tk (by decide) ?_
  refine va_cons ?_
  refine ve_val 0 rfl ?_
  refine va_nil ?_
  refine vk_nil ?_
  refine ⟨rfl, rfl, rfl, ?_⟩
  refine ⟨_, _, _, _, rfl, by simp, Z.xf 5 "TwoGivers" ["name"] "name" rfl rfl (by simp), rfl, ?_⟩
  refine va_cons ?_
  refine ve_xfld ?_
  refine ve_exnK0 (Z.own 5 "TwoGivers" ["name"] rfl rfl (by simp)) exk1_TwoGivers hr tk ?_
  refine vk_cons ?_
  refine ve_val 0 rfl ?_
  refine vk_nil ?_
  refine ⟨rfl, rfl, ?_⟩
  refine ⟨_, _, _, _, rfl, by simp, Z.xf 5 "TwoGivers" ["name"] "name" rfl rfl (by simp), rfl, ?_⟩
  refine va_nil ?_
  refine ⟨by rw [sizeLine_eq]; simp, ?_⟩
  refine va_cons ?_
  refine ve_tup ?_
  refine va_cons ?_
  refine ve_xfld ?_
  refine ve_exnK (Z.own 6 "Unknown" ["name"] rfl rfl (by simp)) exb1_Unknown hr tk (by decide) ?_
  refine va_cons ?_
  refine ve_val 0 rfl ?_
  refine va_nil ?_
  refine vk_nil ?_
  refine ⟨rfl, rfl, rfl, ?_⟩
  refine ⟨_, _, _, _, rfl, by simp, Z.xf 6 "Unknown" ["name"] "name" rfl rfl (by simp), rfl, ?_⟩
  refine va_cons ?_
  refine ve_xfld ?_
  refine ve_exnK0 (Z.own 6 "Unknown" ["name"] rfl rfl (by simp)) exk1_Unknown hr tk ?_
  refine vk_cons ?_
  refine ve_val 0 rfl ?_
  refine vk_nil ?_
  refine ⟨rfl, rfl, ?_⟩
  refine ⟨_, _, _, _, rfl, by simp, Z.xf 6 "Unknown" ["name"] "name" rfl rfl (by simp), rfl, ?_⟩
  refine va_nil ?_
  refine ⟨by rw [sizeLine_eq]; simp, ?_⟩
  refine va_cons ?_
  refine ve_tup ?_
  refine va_cons ?_
  refine ve_xfld ?_
  refine ve_exnK (Z.own 7 "Taken" ["name"] rfl rfl (by simp)) exb1_Taken hr tk (by decide) ?_
  refine va_cons ?_
  refine ve_val 0 rfl ?_
  refine va_nil ?_
  refine vk_nil ?_
  refine ⟨rfl, rfl, rfl, ?_⟩
  refine ⟨_, _, _, _, rfl, by simp, Z.xf 7 "Taken" ["name"] "name" rfl rfl (by simp), rfl, ?_⟩
  refine va_cons ?_
  refine ve_xfld ?_
  refine ve_exnK0 (Z.own 7 "Taken" ["name"] rfl rfl (by simp)) exk1_Taken hr tk ?_
  refine vk_cons ?_
  refine ve_val 0 rfl ?_
  refine vk_nil ?_
  refine ⟨rfl, rfl, ?_⟩
  refine ⟨_, _, _, _, rfl, by simp, Z.xf 7 "Taken" ["name"] "name" rfl rfl (by simp), rfl, ?_⟩
  refine va_nil ?_
  refine ⟨by rw [sizeLine_eq]; simp, ?_⟩
  refine va_cons ?_
  refine ve_tup ?_
  refine va_cons ?_
  refine ve_xfld ?_
  refine ve_exnK (Z.own 8 "Apart" ["name"] rfl rfl (by simp)) exb1_Apart hr tk (by decide) ?_
  refine va_cons ?_
  refine ve_val 0 rfl ?_
  refine va_nil ?_
  refine vk_nil ?_
  refine ⟨rfl, rfl, rfl, ?_⟩
  refine ⟨_, _, _, _, rfl, by simp, Z.xf 8 "Apart" ["name"] "name" rfl rfl (by simp), rfl, ?_⟩
  refine va_cons ?_
  refine ve_xfld ?_
  refine ve_exnK0 (Z.own 8 "Apart" ["name"] rfl rfl (by simp)) exk1_Apart hr tk ?_
  refine vk_cons ?_
  refine ve_val 0 rfl ?_
  refine vk_nil ?_
  refine ⟨rfl, rfl, ?_⟩
  refine ⟨_, _, _, _, rfl, by simp, Z.xf 8 "Apart" ["name"] "name" rfl rfl (by simp), rfl, ?_⟩
  refine va_nil ?_
  refine ⟨by rw [sizeLine_eq]; simp, ?_⟩
  refine va_cons ?_
  refine ve_tup ?_
  refine va_cons ?_
  refine ve_xfld ?_
  refine ve_exnK (Z.own 9 "Within" ["name"] rfl rfl (by simp)) exb1_Within hr tk (by decide) ?_
  refine va_cons ?_
  refine ve_val 0 rfl ?_
  refine va_nil ?_
  refine vk_nil ?_
  refine ⟨rfl, rfl, rfl, ?_⟩
  refine ⟨_, _, _, _, rfl, by simp, Z.xf 9 "Within" ["name"] "name" rfl rfl (by simp), rfl, ?_⟩
  refine va_cons ?_
  refine ve_xfld ?_
  refine ve_exnK0 (Z.own 9 "Within" ["name"] rfl rfl (by simp)) exk1_Within hr tk ?_
  refine vk_cons ?_
  refine ve_val 0 rfl ?_
  refine vk_nil ?_
  refine ⟨rfl, rfl, ?_⟩
  refine ⟨_, _, _, _, rfl, by simp, Z.xf 9 "Within" ["name"] "name" rfl rfl (by simp), rfl, ?_⟩
  refine va_nil ?_
  refine ⟨by rw [sizeLine_eq]; simp, ?_⟩
  refine va_cons ?_
  refine ve_tup ?_
  refine va_cons ?_
  refine ve_xfld ?_
  refine ve_exnK (Z.own 10 "Unpaced" ["at"] rfl rfl (by simp)) exb1_Unpaced hr tk (by decide) ?_
  refine va_cons ?_
  refine ve_val 0 rfl ?_
  refine va_nil ?_
  refine vk_nil ?_
  refine ⟨rfl, rfl, rfl, ?_⟩
  refine ⟨_, _, _, _, rfl, by simp, Z.xf 10 "Unpaced" ["at"] "at" rfl rfl (by simp), rfl, ?_⟩
  refine va_cons ?_
  refine ve_xfld ?_
  refine ve_exnK0 (Z.own 10 "Unpaced" ["at"] rfl rfl (by simp)) exk1_Unpaced hr tk ?_
  refine vk_cons ?_
  refine ve_val 0 rfl ?_
  refine vk_nil ?_
  refine ⟨rfl, rfl, ?_⟩
  refine ⟨_, _, _, _, rfl, by simp, Z.xf 10 "Unpaced" ["at"] "at" rfl rfl (by simp), rfl, ?_⟩
  refine va_nil ?_
  refine ⟨by rw [sizeLine_eq]; simp, ?_⟩
  refine va_cons ?_
  refine ve_tup ?_
  refine va_cons ?_
  refine ve_xfld ?_
  refine ve_exnK (Z.own 11 "TooMany" ["most"] rfl rfl (by simp)) exb1_TooMany hr tk (by decide) ?_
  refine va_cons ?_
  refine ve_val 0 rfl ?_
  refine va_nil ?_
  refine vk_nil ?_
  refine ⟨rfl, rfl, rfl, ?_⟩
  refine ⟨_, _, _, _, rfl, by simp, Z.xf 11 "TooMany" ["most"] "most" rfl rfl (by simp), rfl, ?_⟩
  refine va_cons ?_
  refine ve_xfld ?_
  refine ve_exnK0 (Z.own 11 "TooMany" ["most"] rfl rfl (by simp)) exk1_TooMany hr tk ?_
  refine vk_cons ?_
  refine ve_val 0 rfl ?_
  refine vk_nil ?_
  refine ⟨rfl, rfl, ?_⟩
  refine ⟨_, _, _, _, rfl, by simp, Z.xf 11 "TooMany" ["most"] "most" rfl rfl (by simp), rfl, ?_⟩
  refine va_nil ?_
  refine ⟨by rw [sizeLine_eq]; simp, ?_⟩
  refine va_cons ?_
  refine ve_tup ?_
  refine va_cons ?_
  refine ve_xfld ?_
  refine ve_exnK (Z.own 13 "CannotStep" ["box"] rfl rfl (by simp)) exb1_CannotStep hr tk (by decide) ?_
  refine va_cons ?_
  refine ve_val 0 rfl ?_
  refine va_nil ?_
  refine vk_nil ?_
  refine ⟨rfl, rfl, rfl, ?_⟩
  refine ⟨_, _, _, _, rfl, by simp, Z.xf 13 "CannotStep" ["box"] "box" rfl rfl (by simp), rfl, ?_⟩
  refine va_cons ?_
  refine ve_xfld ?_
  refine ve_exnK0 (Z.own 13 "CannotStep" ["box"] rfl rfl (by simp)) exk1_CannotStep hr tk ?_
  refine vk_cons ?_
  refine ve_val 0 rfl ?_
  refine vk_nil ?_
  refine ⟨rfl, rfl, ?_⟩
  refine ⟨_, _, _, _, rfl, by simp, Z.xf 13 "CannotStep" ["box"] "box" rfl rfl (by simp), rfl, ?_⟩
  refine va_nil ?_
  refine ⟨by rw [sizeLine_eq]; simp, ?_⟩
  refine va_cons ?_
  refine ve_tup ?_
  refine va_cons ?_
  refine ve_xfld ?_
  refine ve_exnK (Z.own 19 "BadCode" ["at"] rfl rfl (by simp)) exb1_BadCode hr tk (by decide) ?_
  refine va_cons ?_
  refine ve_val 0 rfl ?_
  refine va_nil ?_
  refine vk_nil ?_
  refine ⟨rfl, rfl, rfl, ?_⟩
  refine ⟨_, _, _, _, rfl, by simp, Z.xf 19 "BadCode" ["at"] "at" rfl rfl (by simp), rfl, ?_⟩
  refine va_cons ?_
  refine ve_xfld ?_
  refine ve_exnK0 (Z.own 19 "BadCode" ["at"] rfl rfl (by simp)) exk1_BadCode hr tk ?_
  refine vk_cons ?_
  refine ve_val 0 rfl ?_
  refine vk_nil ?_
  refine ⟨rfl, rfl, ?_⟩
  refine ⟨_, _, _, _, rfl, by simp, Z.xf 19 "BadCode" ["at"] "at" rfl rfl (by simp), rfl, ?_⟩
  refine va_nil ?_
  refine ⟨by rw [sizeLine_eq]; simp, ?_⟩
  refine va_cons ?_
  refine ve_tup ?_
  refine va_cons ?_
  refine ve_xfld ?_
  refine ve_exnK (Z.own 20 "HasSource" ["name"] rfl rfl (by simp)) exb1_HasSource hr tk (by decide) ?_
  refine va_cons ?_
  refine ve_val 0 rfl ?_
  refine va_nil ?_
  refine vk_nil ?_
  refine ⟨rfl, rfl, rfl, ?_⟩
  refine ⟨_, _, _, _, rfl, by simp, Z.xf 20 "HasSource" ["name"] "name" rfl rfl (by simp), rfl, ?_⟩
  refine va_cons ?_
  refine ve_xfld ?_
  refine ve_exnK0 (Z.own 20 "HasSource" ["name"] rfl rfl (by simp)) exk1_HasSource hr tk ?_
  refine vk_cons ?_
  refine ve_val 0 rfl ?_
  refine vk_nil ?_
  refine ⟨rfl, rfl, ?_⟩
  refine ⟨_, _, _, _, rfl, by simp, Z.xf 20 "HasSource" ["name"] "name" rfl rfl (by simp), rfl, ?_⟩
  refine va_nil ?_
  refine ⟨by rw [sizeLine_eq]; simp, ?_⟩
  refine va_cons ?_
  refine ve_tup ?_
  refine va_cons ?_
  refine ve_xfld ?_
  refine ve_exnK (Z.own 24 "BadPromise" ["promise"] rfl rfl (by simp)) exb1_BadPromise hr tk (by decide) ?_
  refine va_cons ?_
  refine ve_val 0 rfl ?_
  refine va_nil ?_
  refine vk_nil ?_
  refine ⟨rfl, rfl, rfl, ?_⟩
  refine ⟨_, _, _, _, rfl, by simp, Z.xf 24 "BadPromise" ["promise"] "promise" rfl rfl (by simp), rfl, ?_⟩
  refine va_cons ?_
  refine ve_xfld ?_
  refine ve_exnK0 (Z.own 24 "BadPromise" ["promise"] rfl rfl (by simp)) exk1_BadPromise hr tk ?_
  refine vk_cons ?_
  refine ve_val 0 rfl ?_
  refine vk_nil ?_
  refine ⟨rfl, rfl, ?_⟩
  refine ⟨_, _, _, _, rfl, by simp, Z.xf 24 "BadPromise" ["promise"] "promise" rfl rfl (by simp), rfl, ?_⟩
  refine va_nil ?_
  refine ⟨by rw [sizeLine_eq]; simp, ?_⟩
  refine va_cons ?_
  refine ve_tup ?_
  refine va_cons ?_
  refine ve_xfld ?_
  refine ve_exnK (Z.own 26 "NotMade" ["promise"] rfl rfl (by simp)) exb1_NotMade hr tk (by decide) ?_
  refine va_cons ?_
  refine ve_val 0 rfl ?_
  refine va_nil ?_
  refine vk_nil ?_
  refine ⟨rfl, rfl, rfl, ?_⟩
  refine ⟨_, _, _, _, rfl, by simp, Z.xf 26 "NotMade" ["promise"] "promise" rfl rfl (by simp), rfl, ?_⟩
  refine va_cons ?_
  refine ve_xfld ?_
  refine ve_exnK0 (Z.own 26 "NotMade" ["promise"] rfl rfl (by simp)) exk1_NotMade hr tk ?_
  refine vk_cons ?_
  refine ve_val 0 rfl ?_
  refine vk_nil ?_
  refine ⟨rfl, rfl, ?_⟩
  refine ⟨_, _, _, _, rfl, by simp, Z.xf 26 "NotMade" ["promise"] "promise" rfl rfl (by simp), rfl, ?_⟩
  refine va_nil ?_
  refine ⟨by rw [sizeLine_eq]; simp, ?_⟩
  refine va_nil ?_
  refine ⟨by rw [sizeLine_eq]; simp, ?_⟩
  cases pn <;> exact q
end
end My
set_option Elab.async false
set_option linter.all false
set_option maxRecDepth 100000
set_option maxHeartbeats 4000000
namespace My
open PySem PySem.Spec PyProof.Rows L2 VL
section
variable {P : Program} {w : World} {K : PySem.W.Frag} {mg : Str → Option Value} {base : Heap} {kws : List (Str × V)} {f : Addr} {fd : FuncData}
abbrev sMore : Stmt := top 36
theorem scMore : FnScope ["_law_mine", "_law_yours", "_law_pairs"] ["_law_mine", "_law_yours"] (defScope sMore) := ⟨rfl, rfl, rfl, by decide +kernel, rfl, by decide +kernel, by decide +kernel⟩
def ctMore : Ct where
  run ds pn k e := ∃ a b, ds = [a, b] ∧ k (.lst [.tup [a, a], .tup [b, b], .tup [a, a], .tup [b, b], .tup [a, a], .tup [b, b], .tup [a, a], .tup [b, b]]) pn
  mono := fun ⟨a, b, h, q⟩ hk he => ⟨a, b, h, hk _ _ q⟩
theorem fn_more (F : FunD K "_law_more" "_law_more" (defArgs sMore) (defBody sMore) (defScope sMore) [] kws f fd) (Z : Fx P w K mg base) : FnOk P w K mg base (L2.CX P w) 3 f fd ["_law_mine", "_law_yours"] (spV "stop" "rest" K mg ctMore) := by
  refine fn_body F scMore (by decide) (fun ds pn k e ⟨a, b, h, _⟩ => by subst h; rfl) fun cdv A outer s H E G ds pn Qv Ev hr tk ⟨a, b, hds, q⟩ => ?_
  subst hds
  refine vss_cons ?_
  refine vs_setOwn 2 ?_ scMore.nd
  refine va_nil ?_
  refine ⟨by rw [sizeLine_eq]; simp, ?_⟩
  refine vss_cons ?_
  refine vs_append 2 rfl rfl ?_
  refine ve_tup ?_
  refine va_cons ?_
  refine ve_xfld ?_
  refine ve_exnK (Z.own 23 "NotAFile" ["line", "at"] rfl rfl (by simp)) exb2_NotAFile hr tk (by decide) ?_
  refine va_cons ?_
  refine ve_val 0 rfl ?_
  refine va_cons ?_
  refine ve_val 1 rfl ?_
  refine va_nil ?_
  refine vk_nil ?_
  refine ⟨rfl, rfl, rfl, ?_⟩
  refine ⟨_, _, _, _, rfl, by simp, Z.xf 23 "NotAFile" ["line", "at"] "line" rfl rfl (by simp), rfl, ?_⟩
  refine va_cons ?_
  refine ve_val 0 rfl ?_
  refine va_nil ?_
  refine ⟨by rw [sizeLine_eq]; simp, ?_⟩
  refine ⟨rfl, by rw [sizeLine_eq]; simp, ?_⟩
  refine vss_cons ?_
  refine vs_append 2 rfl rfl ?_
  refine ve_tup ?_
  refine va_cons ?_
  refine ve_xfld ?_
  refine ve_exnK (Z.own 23 "NotAFile" ["line", "at"] rfl rfl (by simp)) exm2_NotAFile hr tk (by decide) ?_
  refine va_cons ?_
  refine ve_val 0 rfl ?_
  refine va_nil ?_
  refine vk_cons ?_
  refine ve_val 1 rfl ?_
  refine vk_nil ?_
  refine ⟨rfl, rfl, rfl, ?_⟩
  refine ⟨_, _, _, _, rfl, by simp, Z.xf 23 "NotAFile" ["line", "at"] "at" rfl rfl (by simp), rfl, ?_⟩
  refine va_cons ?_
  refine ve_val 1 rfl ?_
  refine va_nil ?_
  refine ⟨by rw [sizeLine_eq]; simp, ?_⟩
  refine ⟨rfl, by rw [sizeLine_eq]; simp, ?_⟩
  refine vss_cons ?_
  refine vs_append 2 rfl rfl ?_
  refine ve_tup ?_
  refine va_cons ?_
  refine ve_xfld ?_
  refine ve_exnK0 (Z.own 23 "NotAFile" ["line", "at"] rfl rfl (by simp)) exk2_NotAFile hr tk ?_
  refine vk_cons ?_
  refine ve_val 0 rfl ?_
  refine vk_cons ?_
  refine ve_val 1 rfl ?_
  refine vk_nil ?_
  refine ⟨rfl, rfl, ?_⟩
  refine ⟨_, _, _, _, rfl, by simp, Z.xf 23 "NotAFile" ["line", "at"] "at" rfl rfl (by simp), rfl, ?_⟩
  refine va_cons ?_
  refine ve_val 0 rfl ?_
  refine va_nil ?_
  refine ⟨by rw [sizeLine_eq]; simp, ?_⟩
  refine ⟨rfl, by rw [sizeLine_eq]; simp, ?_⟩
  refine vss_cons ?_
  refine vs_append 2 rfl rfl ?_
  refine ve_tup ?_
  refine va_cons ?_
  refine ve_xfld ?_
  refine ve_exnK0 (Z.own 23 "NotAFile" ["line", "at"] rfl rfl (by simp)) exk2_NotAFile hr tk ?_
  refine vk_cons ?_
  refine ve_val 0 rfl ?_
  refine vk_cons ?_
  refine ve_val 1 rfl ?_
  refine vk_nil ?_
  refine ⟨rfl, rfl, ?_⟩
  refine ⟨_, _, _, _, rfl, by simp, Z.xf 23 "NotAFile" ["line", "at"] "line" rfl rfl (by simp), rfl, ?_⟩
  refine va_cons ?_
  refine ve_val 1 rfl ?_
  refine va_nil ?_
  refine ⟨by rw [sizeLine_eq]; simp, ?_⟩
  refine ⟨rfl, by rw [sizeLine_eq]; simp, ?_⟩
  refine vss_cons ?_
  refine vs_append 2 rfl rfl ?_
  refine ve_tup ?_
  refine va_cons ?_
  refine ve_xfld ?_
  refine ve_exnK (Z.own 25 "Broken" ["promise", "paper"] rfl rfl (by simp)) exb2_Broken hr tk (by decide) ?_
  refine va_cons ?_
  refine ve_val 0 rfl ?_
  refine va_cons ?_
  refine ve_val 1 rfl ?_
  refine va_nil ?_
  refine vk_nil ?_
  refine ⟨rfl, rfl, rfl, ?_⟩
  refine ⟨_, _, _, _, rfl, by simp, Z.xf 25 "Broken" ["promise", "paper"] "promise" rfl rfl (by simp), rfl, ?_⟩
  refine va_cons ?_
  refine ve_val 0 rfl ?_
  refine va_nil ?_
  refine ⟨by rw [sizeLine_eq]; simp, ?_⟩
  refine ⟨rfl, by rw [sizeLine_eq]; simp, ?_⟩
  refine vss_cons ?_
  refine vs_append 2 rfl rfl ?_
  refine ve_tup ?_
  refine va_cons ?_
  refine ve_xfld ?_
  refine ve_exnK (Z.own 25 "Broken" ["promise", "paper"] rfl rfl (by simp)) exm2_Broken hr tk (by decide) ?_
  refine va_cons ?_
  refine ve_val 0 rfl ?_
  refine va_nil ?_
  refine vk_cons ?_
  refine ve_val 1 rfl ?_
  refine vk_nil ?_
  refine ⟨rfl, rfl, rfl, ?_⟩
  refine ⟨_, _, _, _, rfl, by simp, Z.xf 25 "Broken" ["promise", "paper"] "paper" rfl rfl (by simp), rfl, ?_⟩
  refine va_cons ?_
  refine ve_val 1 rfl ?_
  refine va_nil ?_
  refine ⟨by rw [sizeLine_eq]; simp, ?_⟩
  refine ⟨rfl, by rw [sizeLine_eq]; simp, ?_⟩
  refine vss_cons ?_
  refine vs_append 2 rfl rfl ?_
  refine ve_tup ?_
  refine va_cons ?_
  refine ve_xfld ?_
  refine ve_exnK0 (Z.own 25 "Broken" ["promise", "paper"] rfl rfl (by simp)) exk2_Broken hr tk ?_
  refine vk_cons ?_
  refine ve_val 0 rfl ?_
  refine vk_cons ?_
  refine ve_val 1 rfl ?_
  refine vk_nil ?_
  refine ⟨rfl, rfl, ?_⟩
  refine ⟨_, _, _, _, rfl, by simp, Z.xf 25 "Broken" ["promise", "paper"] "paper" rfl rfl (by simp), rfl, ?_⟩
  refine va_cons ?_
  refine ve_val 0 rfl ?_
  refine va_nil ?_
  refine ⟨by rw [sizeLine_eq]; simp, ?_⟩
  refine ⟨rfl, by rw [sizeLine_eq]; simp, ?_⟩
  refine vss_cons ?_
  refine vs_append 2 rfl rfl ?_
  refine ve_tup ?_
  refine va_cons ?_
  refine ve_xfld ?_
  refine ve_exnK0 (Z.own 25 "Broken" ["promise", "paper"] rfl rfl (by simp)) exk2_Broken hr tk ?_
  refine vk_cons ?_
  refine ve_val 0 rfl ?_
  refine vk_cons ?_
  refine ve_val 1 rfl ?_
  refine vk_nil ?_
  refine ⟨rfl, rfl, ?_⟩
  refine ⟨_, _, _, _, rfl, by simp, Z.xf 25 "Broken" ["promise", "paper"] "promise" rfl rfl (by simp), rfl, ?_⟩
  refine va_cons ?_
  refine ve_val 1 rfl ?_
  refine va_nil ?_
  refine ⟨by rw [sizeLine_eq]; simp, ?_⟩
  refine ⟨rfl, by rw [sizeLine_eq]; simp, ?_⟩
  refine vss_one ?_
  refine vs_ret ?_
  refine ve_freeze 2 rfl rfl ?_
  cases pn <;> exact q
theorem isa (Z : Fx P w K mg base) {i j : Nat} {n m : Str} (h : nm[i]? = some n) (hj : nm[j]? = some m) {ks : List Str} {ds : List D} : IsA K mg (.exn n ks ds) (.cref m) (decide (i = j)) := by
  obtain ⟨cA, sA, hs, hc⟩ := Z.cls
  obtain ⟨h1, h2, h3, _⟩ := hc i n h
  obtain ⟨g1, _⟩ := hc j m hj
  have hj29 : j < 29 := (List.getElem?_eq_some_iff.mp hj).1
  refine ⟨⟨_, .inr ⟨n, ks, ds, .inr rfl, h1⟩⟩, ⟨_, .inr ⟨m, _, rfl, rfl, g1⟩⟩, fun C hC => ?_, fun t u ht hu => ?_⟩
  · rw [h1] at hC; cases hC; exact h2
  · have et : t = .ref (cA i) := by
      rcases ht with ⟨T, z, _⟩ | ⟨n', k', d', z, w'⟩
      · cases z
      · rcases z with z | z
        · cases z
        · cases z; rw [h1] at w'; cases w'; rfl
    have eu : u = .ref (cA j) := by
      rcases hu with ⟨T, z, _⟩ | ⟨m', C, z, w', v'⟩
      · cases z
      · cases z; rw [g1] at v'; cases v'; exact w'
    rw [et, eu]
    exact h3 j hj29
theorem isaS (Z : Fx P w K mg base) {i : Nat} {n : Str} (h : nm[i]? = some n) {ks : List Str} {ds : List D} : IsA K mg (.exn n ks ds) (.cref "StreamError") true ∧ IsA K mg (.exn n ks ds) (.ty "ValueError") true := by
  obtain ⟨cA, sA, hs, hc⟩ := Z.cls
  obtain ⟨h1, h2, h3, h4, h5, _⟩ := hc i n h
  have et : ∀ t, TyV mg (.exn n ks ds) t → t = .ref (cA i) := fun t ht => by
    rcases ht with ⟨T, z, _⟩ | ⟨n', k', d', z, w'⟩
    · cases z
    · rcases z with z | z
      · cases z
      · cases z; rw [h1] at w'; cases w'; rfl
  refine ⟨⟨⟨_, .inr ⟨n, ks, ds, .inr rfl, h1⟩⟩, ⟨_, .inr ⟨_, _, rfl, rfl, hs⟩⟩, fun C hC => ?_, fun t u ht hu => ?_⟩, ⟨⟨_, .inr ⟨n, ks, ds, .inr rfl, h1⟩⟩, ⟨_, .inl ⟨_, rfl, rfl⟩⟩, fun C hC => ?_, fun t u ht hu => ?_⟩⟩
  · rw [h1] at hC; cases hC; exact h2
  · rw [et t ht]
    rcases hu with ⟨T, z, _⟩ | ⟨m', C, z, w', v'⟩
    · cases z
    · cases z; rw [hs] at v'; cases v'; rw [w']; exact h4
  · rw [h1] at hC; cases hC; exact h2
  · rw [et t ht]
    rcases hu with ⟨T, z, w'⟩ | ⟨m', C, z, w', v'⟩
    · cases z; rw [w']; exact h5
    · cases z
theorem mgc (Z : Fx P w K mg base) {i : Nat} {n : Str} (h : nm[i]? = some n) : ∃ C : Addr, mg n = some (.ref C) := by
  obtain ⟨cA, sA, hs, hc⟩ := Z.cls
  exact ⟨_, (hc i n h).1⟩
end
end My
set_option Elab.async false
set_option linter.all false
set_option maxRecDepth 100000
set_option maxHeartbeats 4000000
namespace My
open PySem PySem.Spec PyProof.Rows L2 VL
section
variable {P : Program} {w : World} {K : PySem.W.Frag} {mg : Str → Option Value} {base : Heap} {kws : List (Str × V)} {f : Addr} {fd : FuncData}
abbrev sKinds : Stmt := top 37
theorem scKinds : FnScope ["_law_error", "_law_told", "_law_once"] ["_law_error"] (defScope sKinds) := ⟨rfl, rfl, rfl, by decide +kernel, rfl, by decide +kernel, by decide +kernel⟩
def ctKinds : Ct where
  run ds pn k e := ∃ (i : Nat) (n : Str) (ks : List Str) (fs : List D), nm[i]? = some n ∧ ds = [.exn n ks fs] ∧ k (.lst ((List.range 29).map fun j => .int (if i = j then 1 else 0))) pn
  mono := fun ⟨i, n, ks, fs, h1, h2, q⟩ hk he => ⟨i, n, ks, fs, h1, h2, hk _ _ q⟩
theorem fn_kinds (F : FunD K "_law_kinds" "_law_kinds" (defArgs sKinds) (defBody sKinds) (defScope sKinds) [] kws f fd) (Z : Fx P w K mg base) : FnOk P w K mg base (L2.CX P w) 3 f fd ["_law_error"] (spV "stop" "rest" K mg ctKinds) := by
  refine fn_body F scKinds (by decide) (fun ds pn k e ⟨i, n, ks, fs, _, h, _⟩ => by subst h; rfl) fun cdv A outer s H E G ds pn Qv Ev hr tk ⟨i, n, ks, fs, hi, hds, q⟩ => ?_
  subst hds
  refine vss_cons ?_
  refine vs_set 1 ?_ scKinds.nd
  refine ve_lst ?_
  refine va_nil ?_
  refine ⟨by rw [sizeLine_eq]; simp, ?_⟩
  refine vss_cons ?_
  refine vs_set 1 ?_ scKinds.nd
  refine ve_bin op_addAll ?_
  refine ve_val 1 rfl ?_
  refine ve_lst ?_
  refine va_cons ?_
  refine ve_isinst Z.mII ?_
  refine va_cons ?_
  refine ve_val 0 rfl ?_
  refine va_cons ?_
  refine ve_cref ?_ (mgc Z (i := 0) rfl)
  refine va_nil ?_
  refine ⟨_, _, decide (i = 0), rfl, isa Z hi rfl, ?_⟩
  refine va_cons ?_
  refine ve_isinst Z.mII ?_
  refine va_cons ?_
  refine ve_val 0 rfl ?_
  refine va_cons ?_
  refine ve_cref ?_ (mgc Z (i := 1) rfl)
  refine va_nil ?_
  refine ⟨_, _, decide (i = 1), rfl, isa Z hi rfl, ?_⟩
  refine va_cons ?_
  refine ve_isinst Z.mII ?_
  refine va_cons ?_
  refine ve_val 0 rfl ?_
  refine va_cons ?_
  refine ve_cref ?_ (mgc Z (i := 2) rfl)
  refine va_nil ?_
  refine ⟨_, _, decide (i = 2), rfl, isa Z hi rfl, ?_⟩
  refine va_nil ?_
  refine ⟨by rw [sizeLine_eq]; simp, ?_⟩
  refine rb_addL (by rw [sizeLine_eq]; simp) ?_
  refine vss_cons ?_
  refine vs_set 1 ?_ scKinds.nd
  refine ve_bin op_addAll ?_
  refine ve_val 1 rfl ?_
  refine ve_lst ?_
  refine va_cons ?_
  refine ve_isinst Z.mII ?_
  refine va_cons ?_
  refine ve_val 0 rfl ?_
  refine va_cons ?_
  refine ve_cref ?_ (mgc Z (i := 3) rfl)
  refine va_nil ?_
  refine ⟨_, _, decide (i = 3), rfl, isa Z hi rfl, ?_⟩
  refine va_cons ?_
  refine ve_isinst Z.mII ?_
  refine va_cons ?_
  refine ve_val 0 rfl ?_
  refine va_cons ?_
  refine ve_cref ?_ (mgc Z (i := 4) rfl)
  refine va_nil ?_
  refine ⟨_, _, decide (i = 4), rfl, isa Z hi rfl, ?_⟩
  refine va_cons ?_
  refine ve_isinst Z.mII ?_
  refine va_cons ?_
  refine ve_val 0 rfl ?_
  refine va_cons ?_
  refine ve_cref ?_ (mgc Z (i := 5) rfl)
  refine va_nil ?_
  refine ⟨_, _, decide (i = 5), rfl, isa Z hi rfl, ?_⟩
  refine va_nil ?_
  refine ⟨by rw [sizeLine_eq]; simp, ?_⟩
  refine rb_addL (by rw [sizeLine_eq]; simp) ?_
  refine vss_cons ?_
  refine vs_set 1 ?_ scKinds.nd
  refine ve_bin op_addAll ?_
  refine ve_val 1 rfl ?_
  refine ve_lst ?_
  refine va_cons ?_
  refine ve_isinst Z.mII ?_
  refine va_cons ?_
  refine ve_val 0 rfl ?_
  refine va_cons ?_
  refine ve_cref ?_ (mgc Z (i := 6) rfl)
  refine va_nil ?_
  refine ⟨_, _, decide (i = 6), rfl, isa Z hi rfl, ?_⟩
  refine va_cons ?_
  refine ve_isinst Z.mII ?_
  refine va_cons ?_
  refine ve_val 0 rfl ?_
  refine va_cons ?_
  refine ve_cref ?_ (mgc Z (i := 7) rfl)
  refine va_nil ?_
  refine ⟨_, _, decide (i = 7), rfl, isa Z hi rfl, ?_⟩
  refine va_cons ?_
  refine ve_isinst Z.mII ?_
  refine va_cons ?_
  refine ve_val 0 rfl ?_
  refine va_cons ?_
  refine ve_cref ?_ (mgc Z (i := 8) rfl)
  refine va_nil ?_
  refine ⟨_, _, decide (i = 8), rfl, isa Z hi rfl, ?_⟩
  refine va_nil ?_
  refine ⟨by rw [sizeLine_eq]; simp, ?_⟩
  refine rb_addL (by rw [sizeLine_eq]; simp) ?_
  refine vss_cons ?_
  refine vs_set 1 ?_ scKinds.nd
  refine ve_bin op_addAll ?_
  refine ve_val 1 rfl ?_
  refine ve_lst ?_
  refine va_cons ?_
  refine ve_isinst Z.mII ?_
  refine va_cons ?_
  refine ve_val 0 rfl ?_
  refine va_cons ?_
  refine ve_cref ?_ (mgc Z (i := 9) rfl)
  refine va_nil ?_
  refine ⟨_, _, decide (i = 9), rfl, isa Z hi rfl, ?_⟩
  refine va_cons ?_
  refine ve_isinst Z.mII ?_
  refine va_cons ?_
  refine ve_val 0 rfl ?_
  refine va_cons ?_
  refine ve_cref ?_ (mgc Z (i := 10) rfl)
  refine va_nil ?_
  refine ⟨_, _, decide (i = 10), rfl, isa Z hi rfl, ?_⟩
  refine va_cons ?_
  refine ve_isinst Z.mII ?_
  refine va_cons ?_
  refine ve_val 0 rfl ?_
  refine va_cons ?_
  refine ve_cref ?_ (mgc Z (i := 11) rfl)
  refine va_nil ?_
  refine ⟨_, _, decide (i = 11), rfl, isa Z hi rfl, ?_⟩
  refine va_nil ?_
  refine ⟨by rw [sizeLine_eq]; simp, ?_⟩
  refine rb_addL (by rw [sizeLine_eq]; simp) ?_
  refine vss_cons ?_
  refine vs_set 1 ?_ scKinds.nd
  refine ve_bin op_addAll ?_
  refine ve_val 1 rfl ?_
  refine ve_lst ?_
  refine va_cons ?_
  refine ve_isinst Z.mII ?_
  refine va_cons ?_
  refine ve_val 0 rfl ?_
  refine va_cons ?_
  refine ve_cref ?_ (mgc Z (i := 12) rfl)
  refine va_nil ?_
  refine ⟨_, _, decide (i = 12), rfl, isa Z hi rfl, ?_⟩
  refine va_cons ?_
  refine ve_isinst Z.mII ?_
  refine va_cons ?_
  refine ve_val 0 rfl ?_
  refine va_cons ?_
  refine ve_cref ?_ (mgc Z (i := 13) rfl)
  refine va_nil ?_
  refine ⟨_, _, decide (i = 13), rfl, isa Z hi rfl, ?_⟩
  refine va_cons ?_
  refine ve_isinst Z.mII ?_
  refine va_cons ?_
  refine ve_val 0 rfl ?_
  refine va_cons ?_
  refine ve_cref ?_ (mgc Z (i := 14) rfl)
  refine va_nil ?_
  refine ⟨_, _, decide (i = 14), rfl, isa Z hi rfl, ?_⟩
  refine va_nil ?_
  refine ⟨by rw [sizeLine_eq]; simp, ?_⟩
  refine rb_addL (by rw [sizeLine_eq]; simp) ?_
  refine vss_cons ?_
  refine vs_set 1 ?_ scKinds.nd
  refine ve_bin op_addAll ?_
  refine ve_val 1 rfl ?_
  refine ve_lst ?_
  refine va_cons ?_
  refine ve_isinst Z.mII ?_
  refine va_cons ?_
  refine ve_val 0 rfl ?_
  refine va_cons ?_
  refine ve_cref ?_ (mgc Z (i := 15) rfl)
  refine va_nil ?_
  refine ⟨_, _, decide (i = 15), rfl, isa Z hi rfl, ?_⟩
  refine va_cons ?_
  refine ve_isinst Z.mII ?_
  refine va_cons ?_
  refine ve_val 0 rfl ?_
  refine va_cons ?_
  refine ve_cref ?_ (mgc Z (i := 16) rfl)
  refine va_nil ?_
  refine ⟨_, _, decide (i = 16), rfl, isa Z hi rfl, ?_⟩
  refine va_cons ?_
  refine ve_isinst Z.mII ?_
  refine va_cons ?_
  refine ve_val 0 rfl ?_
  refine va_cons ?_
  refine ve_cref ?_ (mgc Z (i := 17) rfl)
  refine va_nil ?_
  refine ⟨_, _, decide (i = 17), rfl, isa Z hi rfl, ?_⟩
  refine va_nil ?_
  refine ⟨by rw [sizeLine_eq]; simp, ?_⟩
  refine rb_addL (by rw [sizeLine_eq]; simp) ?_
  refine vss_cons ?_
  refine vs_set 1 ?_ scKinds.nd
  refine ve_bin op_addAll ?_
  refine ve_val 1 rfl ?_
  refine ve_lst ?_
  refine va_cons ?_
  refine ve_isinst Z.mII ?_
  refine va_cons ?_
  refine ve_val 0 rfl ?_
  refine va_cons ?_
  refine ve_cref ?_ (mgc Z (i := 18) rfl)
  refine va_nil ?_
  refine ⟨_, _, decide (i = 18), rfl, isa Z hi rfl, ?_⟩
  refine va_cons ?_
  refine ve_isinst Z.mII ?_
  refine va_cons ?_
  refine ve_val 0 rfl ?_
  refine va_cons ?_
  refine ve_cref ?_ (mgc Z (i := 19) rfl)
  refine va_nil ?_
  refine ⟨_, _, decide (i = 19), rfl, isa Z hi rfl, ?_⟩
  refine va_cons ?_
  refine ve_isinst Z.mII ?_
  refine va_cons ?_
  refine ve_val 0 rfl ?_
  refine va_cons ?_
  refine ve_cref ?_ (mgc Z (i := 20) rfl)
  refine va_nil ?_
  refine ⟨_, _, decide (i = 20), rfl, isa Z hi rfl, ?_⟩
  refine va_nil ?_
  refine ⟨by rw [sizeLine_eq]; simp, ?_⟩
  refine rb_addL (by rw [sizeLine_eq]; simp) ?_
  refine vss_cons ?_
  refine vs_set 1 ?_ scKinds.nd
  refine ve_bin op_addAll ?_
  refine ve_val 1 rfl ?_
  refine ve_lst ?_
  refine va_cons ?_
  refine ve_isinst Z.mII ?_
  refine va_cons ?_
  refine ve_val 0 rfl ?_
  refine va_cons ?_
  refine ve_cref ?_ (mgc Z (i := 21) rfl)
  refine va_nil ?_
  refine ⟨_, _, decide (i = 21), rfl, isa Z hi rfl, ?_⟩
  refine va_cons ?_
  refine ve_isinst Z.mII ?_
  refine va_cons ?_
  refine ve_val 0 rfl ?_
  refine va_cons ?_
  refine ve_cref ?_ (mgc Z (i := 22) rfl)
  refine va_nil ?_
  refine ⟨_, _, decide (i = 22), rfl, isa Z hi rfl, ?_⟩
  refine va_cons ?_
  refine ve_isinst Z.mII ?_
  refine va_cons ?_
  refine ve_val 0 rfl ?_
  refine va_cons ?_
  refine ve_cref ?_ (mgc Z (i := 23) rfl)
  refine va_nil ?_
  refine ⟨_, _, decide (i = 23), rfl, isa Z hi rfl, ?_⟩
  refine va_nil ?_
  refine ⟨by rw [sizeLine_eq]; simp, ?_⟩
  refine rb_addL (by rw [sizeLine_eq]; simp) ?_
  refine vss_cons ?_
  refine vs_set 1 ?_ scKinds.nd
  refine ve_bin op_addAll ?_
  refine ve_val 1 rfl ?_
  refine ve_lst ?_
  refine va_cons ?_
  refine ve_isinst Z.mII ?_
  refine va_cons ?_
  refine ve_val 0 rfl ?_
  refine va_cons ?_
  refine ve_cref ?_ (mgc Z (i := 24) rfl)
  refine va_nil ?_
  refine ⟨_, _, decide (i = 24), rfl, isa Z hi rfl, ?_⟩
  refine va_cons ?_
  refine ve_isinst Z.mII ?_
  refine va_cons ?_
  refine ve_val 0 rfl ?_
  refine va_cons ?_
  refine ve_cref ?_ (mgc Z (i := 25) rfl)
  refine va_nil ?_
  refine ⟨_, _, decide (i = 25), rfl, isa Z hi rfl, ?_⟩
  refine va_cons ?_
  refine ve_isinst Z.mII ?_
  refine va_cons ?_
  refine ve_val 0 rfl ?_
  refine va_cons ?_
  refine ve_cref ?_ (mgc Z (i := 26) rfl)
  refine va_nil ?_
  refine ⟨_, _, decide (i = 26), rfl, isa Z hi rfl, ?_⟩
  refine va_nil ?_
  refine ⟨by rw [sizeLine_eq]; simp, ?_⟩
  refine rb_addL (by rw [sizeLine_eq]; simp) ?_
  refine vss_cons ?_
  refine vs_set 1 ?_ scKinds.nd
  refine ve_bin op_addAll ?_
  refine ve_val 1 rfl ?_
  refine ve_lst ?_
  refine va_cons ?_
  refine ve_isinst Z.mII ?_
  refine va_cons ?_
  refine ve_val 0 rfl ?_
  refine va_cons ?_
  refine ve_cref ?_ (mgc Z (i := 27) rfl)
  refine va_nil ?_
  refine ⟨_, _, decide (i = 27), rfl, isa Z hi rfl, ?_⟩
  refine va_cons ?_
  refine ve_isinst Z.mII ?_
  refine va_cons ?_
  refine ve_val 0 rfl ?_
  refine va_cons ?_
  refine ve_cref ?_ (mgc Z (i := 28) rfl)
  refine va_nil ?_
  refine ⟨_, _, decide (i = 28), rfl, isa Z hi rfl, ?_⟩
  refine va_nil ?_
  refine ⟨by rw [sizeLine_eq]; simp, ?_⟩
  refine rb_addL (by rw [sizeLine_eq]; simp) ?_
  refine vss_one ?_
  refine vs_ret ?_
  refine ve_lcL (own := [("_law_once", 2)]) rfl scKinds.nd (blkOk_by rfl) (by simp) (tg_name (i := 2) (by simp)) (fun s H C cl fp => pg_name scKinds.nd rfl (by first | exact Or.inl rfl | exact Or.inr rfl) (by first | exact .inl rfl | exact .inr rfl)) ?_
  refine ve_val 1 rfl ?_
  refine ⟨(List.range 29).map fun j => D.bl (decide (i = j)), rfl, ?_⟩
  refine ⟨fun t acc pn' => pn' = pn ∧ acc = (List.range t).map fun j => D.int (if i = j then 1 else 0), ⟨rfl, rfl⟩, ?_, ?_⟩
  · rintro t d acc pn' hd ⟨rfl, rfl⟩
    rw [List.getElem?_map] at hd
    obtain ⟨j, hj, rfl⟩ := Option.map_eq_some_iff.mp hd
    have ht : t < 29 := by
      have := (List.getElem?_eq_some_iff.mp hj).1
      simpa using this
    have ej : j = t := by
      rw [List.getElem?_range ht] at hj
      exact (Option.some.inj hj).symm
    subst ej
    refine ⟨_, rfl, ?_⟩
    intro s0 H0 C cl fp Gb Hb
    refine ve_intOf Z.mInt ?_
    refine ve_val 2 rfl ?_
    refine .inr ⟨_, rfl, ?_⟩
    refine ⟨by cases pn' <;> rfl, ?_⟩
    rw [List.range_succ, List.map_append]
    by_cases h : i = j <;> simp [h]
  · rintro acc pn' ⟨rfl, rfl⟩
    have e : ((List.range 29).map fun j => D.bl (decide (i = j))).length = 29 := by simp
    rw [e]
    cases pn' <;> exact q
end
end My
set_option Elab.async false
set_option linter.all false
set_option maxRecDepth 100000
set_option maxHeartbeats 4000000
namespace My
open PySem PySem.Spec PyProof.Rows L2 VL
section
variable {P : Program} {w : World} {K : PySem.W.Frag} {mg : Str → Option Value} {base : Heap} {kws : List (Str × V)} {f : Addr} {fd : FuncData}
abbrev sApart : Stmt := top 38
def mk (a b : D) : List D := [.exn "BadValue" ["value"] [a], .exn "NoDivisor" [] [], .exn "AtNought" [] [], .exn "NotAText" ["at"] [a], .exn "NoGiver" ["name"] [a], .exn "TwoGivers" ["name"] [a], .exn "Unknown" ["name"] [a], .exn "Taken" ["name"] [a], .exn "Apart" ["name"] [a], .exn "Within" ["name"] [a], .exn "Unpaced" ["at"] [a], .exn "TooMany" ["most"] [a], .exn "StandsStill" [] [], .exn "CannotStep" ["box"] [a], .exn "Unlike" [] [], .exn "Singular" [] [], .exn "NotSquare" [] [], .exn "NotUndone" [] [], .exn "HasLoops" [] [], .exn "BadCode" ["at"] [a], .exn "HasSource" ["name"] [a], .exn "NotOfNet" [] [], .exn "NotDriven" [] [], .exn "NotAFile" ["at", "line"] [b, a], .exn "BadPromise" ["promise"] [a], .exn "Broken" ["paper", "promise"] [b, a], .exn "NotMade" ["promise"] [a], .exn "NothingToUndo" [] [], .exn "NothingToRedo" [] []]
theorem mk_at (a b : D) : ∀ (i : Nat) (d : D), (mk a b)[i]? = some d → ∃ n ks ds, nm[i]? = some n ∧ d = .exn n ks ds
  | 0, d, h => ⟨_, _, _, rfl, (Option.some.inj h).symm⟩
  | 1, d, h => ⟨_, _, _, rfl, (Option.some.inj h).symm⟩
  | 2, d, h => ⟨_, _, _, rfl, (Option.some.inj h).symm⟩
  | 3, d, h => ⟨_, _, _, rfl, (Option.some.inj h).symm⟩
  | 4, d, h => ⟨_, _, _, rfl, (Option.some.inj h).symm⟩
  | 5, d, h => ⟨_, _, _, rfl, (Option.some.inj h).symm⟩
  | 6, d, h => ⟨_, _, _, rfl, (Option.some.inj h).symm⟩
  | 7, d, h => ⟨_, _, _, rfl, (Option.some.inj h).symm⟩
  | 8, d, h => ⟨_, _, _, rfl, (Option.some.inj h).symm⟩
  | 9, d, h => ⟨_, _, _, rfl, (Option.some.inj h).symm⟩
  | 10, d, h => ⟨_, _, _, rfl, (Option.some.inj h).symm⟩
  | 11, d, h => ⟨_, _, _, rfl, (Option.some.inj h).symm⟩
  | 12, d, h => ⟨_, _, _, rfl, (Option.some.inj h).symm⟩
  | 13, d, h => ⟨_, _, _, rfl, (Option.some.inj h).symm⟩
  | 14, d, h => ⟨_, _, _, rfl, (Option.some.inj h).symm⟩
  | 15, d, h => ⟨_, _, _, rfl, (Option.some.inj h).symm⟩
  | 16, d, h => ⟨_, _, _, rfl, (Option.some.inj h).symm⟩
  | 17, d, h => ⟨_, _, _, rfl, (Option.some.inj h).symm⟩
  | 18, d, h => ⟨_, _, _, rfl, (Option.some.inj h).symm⟩
  | 19, d, h => ⟨_, _, _, rfl, (Option.some.inj h).symm⟩
  | 20, d, h => ⟨_, _, _, rfl, (Option.some.inj h).symm⟩
  | 21, d, h => ⟨_, _, _, rfl, (Option.some.inj h).symm⟩
  | 22, d, h => ⟨_, _, _, rfl, (Option.some.inj h).symm⟩
  | 23, d, h => ⟨_, _, _, rfl, (Option.some.inj h).symm⟩
  | 24, d, h => ⟨_, _, _, rfl, (Option.some.inj h).symm⟩
  | 25, d, h => ⟨_, _, _, rfl, (Option.some.inj h).symm⟩
  | 26, d, h => ⟨_, _, _, rfl, (Option.some.inj h).symm⟩
  | 27, d, h => ⟨_, _, _, rfl, (Option.some.inj h).symm⟩
  | 28, d, h => ⟨_, _, _, rfl, (Option.some.inj h).symm⟩
  | _ + 29, d, h => nomatch h
theorem scApart : FnScope ["_law_mine", "_law_yours", "_law_made", "_law_last", "_law_error", "_law_k"] ["_law_mine", "_law_yours"] (defScope sApart) := ⟨rfl, rfl, rfl, by decide +kernel, rfl, by decide +kernel, by decide +kernel⟩
def ctApart : Ct where
  run ds pn k e := ∃ a b, ds = [a, b] ∧ k (.bl true) pn
  mono := fun ⟨a, b, h, q⟩ hk he => ⟨a, b, h, hk _ _ q⟩
theorem all_true {n : Nat} {bs : List Bool} (h : bs = List.replicate n true) : bs.all id = true := by subst h; simp
theorem fn_apart (F : FunD K "_law_apart" "_law_apart" (defArgs sApart) (defBody sApart) (defScope sApart) [] kws f fd) (Z : Fx P w K mg base) (FK : VFn P w K mg base "stop" "rest" 3 "_law_kinds" [] ctKinds) : FnOk P w K mg base (L2.CX P w) 4 f fd ["_law_mine", "_law_yours"] (spV "stop" "rest" K mg ctApart) := by
  refine fn_body F scApart (by decide) (fun ds pn k e ⟨a, b, h, _⟩ => by subst h; rfl) fun cdv A outer s H E G ds pn Qv Ev hr tk ⟨a, b, hds, q⟩ => ?_
  subst hds
  have hr2 : Room 2 (bX P w K mg base ["_law_mine", "_law_yours", "_law_made", "_law_last", "_law_error", "_law_k"] "_law_apart" sApart f cdv A outer s H E).A := hr.mono (by decide)
  refine vss_cons ?_
  refine vs_set 2 ?_ scApart.nd
  refine ve_lst ?_
  refine va_nil ?_
  refine ⟨by rw [sizeLine_eq]; simp, ?_⟩
  refine vss_cons ?_
  refine vs_set 2 ?_ scApart.nd
  refine ve_bin op_addAll ?_
  refine ve_val 2 rfl ?_
  refine ve_lst ?_
  refine va_cons ?_
  refine ve_exnK (Z.own 0 "BadValue" ["value"] rfl rfl (by simp)) exb1_BadValue hr2 tk (by decide) ?_
  refine va_cons ?_
  refine ve_val 0 rfl ?_
  refine va_nil ?_
  refine vk_nil ?_
  refine ⟨rfl, rfl, rfl, ?_⟩
  refine va_cons ?_
  refine ve_ex0 (Z.zero 1 "NoDivisor" rfl rfl) ?_
  refine va_cons ?_
  refine ve_ex0 (Z.zero 2 "AtNought" rfl rfl) ?_
  refine va_cons ?_
  refine ve_exnK (Z.own 3 "NotAText" ["at"] rfl rfl (by simp)) exb1_NotAText hr2 tk (by decide) ?_
  refine va_cons ?_
  refine ve_val 0 rfl ?_
  refine va_nil ?_
  refine vk_nil ?_
  refine ⟨rfl, rfl, rfl, ?_⟩
  refine va_cons ?_
  refine ve_exnK (Z.own 4 "NoGiver" ["name"] rfl rfl (by simp)) exb1_NoGiver hr2 tk (by decide) ?_
  refine va_cons ?_
  refine ve_val 0 rfl ?_
  refine va_nil ?_
  refine vk_nil ?_
  refine ⟨rfl, rfl, rfl, ?_⟩
  refine va_cons ?_
  refine ve_exnK (Z.own 5 "TwoGivers" ["name"] rfl rfl (by simp)) exb1_TwoGivers hr2 tk (by decide) ?_
  refine va_cons ?_
  refine ve_val 0 rfl ?_
  refine va_nil ?_
  refine vk_nil ?_
  refine ⟨rfl, rfl, rfl, ?_⟩
  refine va_nil ?_
  refine ⟨by rw [sizeLine_eq]; simp, ?_⟩
  refine rb_addL (by rw [sizeLine_eq]; simp) ?_
  refine vss_cons ?_
  refine vs_set 2 ?_ scApart.nd
  refine ve_bin op_addAll ?_
  refine ve_val 2 rfl ?_
  refine ve_lst ?_
  refine va_cons ?_
  refine ve_exnK (Z.own 6 "Unknown" ["name"] rfl rfl (by simp)) exb1_Unknown hr2 tk (by decide) ?_
  refine va_cons ?_
  refine ve_val 0 rfl ?_
  refine va_nil ?_
  refine vk_nil ?_
  refine ⟨rfl, rfl, rfl, ?_⟩
  refine va_cons ?_
  refine ve_exnK (Z.own 7 "Taken" ["name"] rfl rfl (by simp)) exb1_Taken hr2 tk (by decide) ?_
  refine va_cons ?_
  refine ve_val 0 rfl ?_
  refine va_nil ?_
  refine vk_nil ?_
  refine ⟨rfl, rfl, rfl, ?_⟩
  refine va_cons ?_
  refine ve_exnK (Z.own 8 "Apart" ["name"] rfl rfl (by simp)) exb1_Apart hr2 tk (by decide) ?_
  refine va_cons ?_
  refine ve_val 0 rfl ?_
  refine va_nil ?_
  refine vk_nil ?_
  refine ⟨rfl, rfl, rfl, ?_⟩
  refine va_cons ?_
  refine ve_exnK (Z.own 9 "Within" ["name"] rfl rfl (by simp)) exb1_Within hr2 tk (by decide) ?_
  refine va_cons ?_
  refine ve_val 0 rfl ?_
  refine va_nil ?_
  refine vk_nil ?_
  refine ⟨rfl, rfl, rfl, ?_⟩
  refine va_cons ?_
  refine ve_exnK (Z.own 10 "Unpaced" ["at"] rfl rfl (by simp)) exb1_Unpaced hr2 tk (by decide) ?_
  refine va_cons ?_
  refine ve_val 0 rfl ?_
  refine va_nil ?_
  refine vk_nil ?_
  refine ⟨rfl, rfl, rfl, ?_⟩
  refine va_cons ?_
  refine ve_exnK (Z.own 11 "TooMany" ["most"] rfl rfl (by simp)) exb1_TooMany hr2 tk (by decide) ?_
  refine va_cons ?_
  refine ve_val 0 rfl ?_
  refine va_nil ?_
  refine vk_nil ?_
  refine ⟨rfl, rfl, rfl, ?_⟩
  refine va_nil ?_
  refine ⟨by rw [sizeLine_eq]; simp, ?_⟩
  refine rb_addL (by rw [sizeLine_eq]; simp) ?_
  refine vss_cons ?_
  refine vs_set 2 ?_ scApart.nd
  refine ve_bin op_addAll ?_
  refine ve_val 2 rfl ?_
  refine ve_lst ?_
  refine va_cons ?_
  refine ve_ex0 (Z.zero 12 "StandsStill" rfl rfl) ?_
  refine va_cons ?_
  refine ve_exnK (Z.own 13 "CannotStep" ["box"] rfl rfl (by simp)) exb1_CannotStep hr2 tk (by decide) ?_
  refine va_cons ?_
  refine ve_val 0 rfl ?_
  refine va_nil ?_
  refine vk_nil ?_
  refine ⟨rfl, rfl, rfl, ?_⟩
  refine va_cons ?_
  refine ve_ex0 (Z.zero 14 "Unlike" rfl rfl) ?_
  refine va_cons ?_
  refine ve_ex0 (Z.zero 15 "Singular" rfl rfl) ?_
  refine va_cons ?_
  refine ve_ex0 (Z.zero 16 "NotSquare" rfl rfl) ?_
  refine va_cons ?_
  refine ve_ex0 (Z.zero 17 "NotUndone" rfl rfl) ?_
  refine va_nil ?_
  refine ⟨by rw [sizeLine_eq]; simp, ?_⟩
  refine rb_addL (by rw [sizeLine_eq]; simp) ?_
  refine vss_cons ?_
  refine vs_set 2 ?_ scApart.nd
  refine ve_bin op_addAll ?_
  refine ve_val 2 rfl ?_
  refine ve_lst ?_
  refine va_cons ?_
  refine ve_ex0 (Z.zero 18 "HasLoops" rfl rfl) ?_
  refine va_cons ?_
  refine ve_exnK (Z.own 19 "BadCode" ["at"] rfl rfl (by simp)) exb1_BadCode hr2 tk (by decide) ?_
  refine va_cons ?_
  refine ve_val 0 rfl ?_
  refine va_nil ?_
  refine vk_nil ?_
  refine ⟨rfl, rfl, rfl, ?_⟩
  refine va_cons ?_
  refine ve_exnK (Z.own 20 "HasSource" ["name"] rfl rfl (by simp)) exb1_HasSource hr2 tk (by decide) ?_
  refine va_cons ?_
  refine ve_val 0 rfl ?_
  refine va_nil ?_
  refine vk_nil ?_
  refine ⟨rfl, rfl, rfl, ?_⟩
  refine va_cons ?_
  refine ve_ex0 (Z.zero 21 "NotOfNet" rfl rfl) ?_
  refine va_cons ?_
  refine ve_ex0 (Z.zero 22 "NotDriven" rfl rfl) ?_
  refine va_cons ?_
  refine ve_exnK (Z.own 23 "NotAFile" ["line", "at"] rfl rfl (by simp)) exb2_NotAFile hr2 tk (by decide) ?_
  refine va_cons ?_
  refine ve_val 0 rfl ?_
  refine va_cons ?_
  refine ve_val 1 rfl ?_
  refine va_nil ?_
  refine vk_nil ?_
  refine ⟨rfl, rfl, rfl, ?_⟩
  refine va_nil ?_
  refine ⟨by rw [sizeLine_eq]; simp, ?_⟩
  refine rb_addL (by rw [sizeLine_eq]; simp) ?_
  refine vss_cons ?_
  refine vs_set 2 ?_ scApart.nd
  refine ve_bin op_addAll ?_
  refine ve_val 2 rfl ?_
  refine ve_lst ?_
  refine va_cons ?_
  refine ve_exnK (Z.own 24 "BadPromise" ["promise"] rfl rfl (by simp)) exb1_BadPromise hr2 tk (by decide) ?_
  refine va_cons ?_
  refine ve_val 0 rfl ?_
  refine va_nil ?_
  refine vk_nil ?_
  refine ⟨rfl, rfl, rfl, ?_⟩
  refine va_cons ?_
  refine ve_exnK (Z.own 25 "Broken" ["promise", "paper"] rfl rfl (by simp)) exb2_Broken hr2 tk (by decide) ?_
  refine va_cons ?_
  refine ve_val 0 rfl ?_
  refine va_cons ?_
  refine ve_val 1 rfl ?_
  refine va_nil ?_
  refine vk_nil ?_
  refine ⟨rfl, rfl, rfl, ?_⟩
  refine va_cons ?_
  refine ve_exnK (Z.own 26 "NotMade" ["promise"] rfl rfl (by simp)) exb1_NotMade hr2 tk (by decide) ?_
  refine va_cons ?_
  refine ve_val 0 rfl ?_
  refine va_nil ?_
  refine vk_nil ?_
  refine ⟨rfl, rfl, rfl, ?_⟩
  refine va_cons ?_
  refine ve_ex0 (Z.zero 27 "NothingToUndo" rfl rfl) ?_
  refine va_cons ?_
  refine ve_ex0 (Z.zero 28 "NothingToRedo" rfl rfl) ?_
  refine va_nil ?_
  refine ⟨by rw [sizeLine_eq]; simp, ?_⟩
  refine rb_addL (by rw [sizeLine_eq]; simp) ?_
  refine (show VSs _ _ ⟨[.val a, .val b, .val (.lst (mk a b)), .un, .un, .un], pn⟩ _ _ from ?_)
  refine vss_cons ?_
  refine vs_if ?_
  refine vt_not ?_
  refine vt_truth ?_
  refine ve_all Z.mAll rfl ?_
  refine ve_lcL (own := [("_law_error", 4)]) rfl scApart.nd (blkOk_by rfl) (by simp) (tg_name (i := 4) (by simp)) (fun s H C cl fp => pg_name scApart.nd rfl (by first | exact Or.inl rfl | exact Or.inr rfl) (by first | exact .inl rfl | exact .inr rfl)) ?_
  refine ve_val 2 rfl ?_
  refine ⟨mk a b, rfl, ?_⟩
  refine ⟨fun t acc pn' => pn' = pn ∧ acc = List.replicate t (D.bl true), ⟨rfl, rfl⟩, ?_, ?_⟩
  · rintro t d acc pn' hd ⟨rfl, rfl⟩
    obtain ⟨n, ks, es, hn, rfl⟩ := mk_at a b t d hd
    refine ⟨_, rfl, ?_⟩
    intro s0 H0 C cl fp Gb Hb
    refine ve_and ?_
    refine ve_isinst Z.mII ?_
    refine va_cons ?_
    refine ve_val 4 rfl ?_
    refine va_cons ?_
    refine ve_cref ?_ (by obtain ⟨cA, sA, hs, _⟩ := Z.cls; exact ⟨sA, hs⟩)
    refine va_nil ?_
    refine ⟨_, _, true, rfl, (isaS Z hn).1, ?_⟩
    refine ⟨true, rfl, fun _ => ?_, nofun⟩
    refine ve_one ?_
    refine ve_isinst Z.mII ?_
    refine va_cons ?_
    refine ve_val 4 rfl ?_
    refine va_cons ?_
    refine ve_ty (T := "ValueError") ?_ Z.mVE (by decide +kernel)
    refine va_nil ?_
    refine ⟨_, _, true, rfl, (isaS Z hn).2, ?_⟩
    refine ⟨by cases pn' <;> rfl, ?_⟩
    rw [List.replicate_succ']
  rintro acc pn' ⟨rfl, rfl⟩
  refine ⟨List.replicate (mk a b).length true, by rw [List.map_replicate], ?_⟩
  rw [all_true rfl]
  refine ⟨nofun, fun _ => ?_⟩
  refine vss_nil ?_
  refine vss_cons ?_
  refine vs_set 3 ?_ scApart.nd
  refine ve_bin op_sub ?_
  refine ve_len Z.mLen ?_
  refine ve_val 2 rfl ?_
  refine ve_int ?_
  refine rb_subI ?_
  refine vss_one ?_
  refine vs_ret ?_
  refine ve_all Z.mAll rfl ?_
  refine ve_lcR (own := [("_law_k", 5)]) rfl scApart.nd (blkOk_by rfl) (by simp) Z.mRange (tg_name (i := 5) (by simp)) (fun s H C cl fp => pg_name scApart.nd rfl (by first | exact Or.inl rfl | exact Or.inr rfl) (by first | exact .inl rfl | exact .inr rfl)) ?_
  refine ve_len Z.mLen ?_
  refine ve_val 2 rfl ?_
  refine ⟨29, rfl, by rw [sizeLine_eq]; decide, by decide, ?_⟩
  refine ⟨fun t acc pn2 => pn2 = pn' ∧ acc = List.replicate t (D.bl true), ⟨rfl, rfl⟩, ?_, ?_⟩
  · rintro t acc pn2 ht ⟨rfl, rfl⟩
    have ht' : t < 29 := by omega
    have hlen : (mk a b).length = 29 := rfl
    obtain ⟨d, hd⟩ : ∃ d, (mk a b)[t]? = some d := ⟨_, List.getElem?_eq_getElem (by rw [hlen]; exact ht')⟩
    obtain ⟨n, ks, es, hn, rfl⟩ := mk_at a b t d hd
    refine ⟨_, rfl, ?_⟩
    intro s0 H0 C cl fp Gb Hb
    refine ve_cmp (op_eqAll hr) ?_ (nomark _)
    refine ve_call FK hr takes_blk ?_
    refine va_cons ?_
    refine ve_ix ?_
    refine ve_val 2 rfl ?_
    refine ve_val 5 rfl ?_
    refine ⟨_, atI_of hd, ?_⟩
    refine va_nil ?_
    refine ⟨t, n, ks, es, hn, rfl, ?_⟩
    refine ve_bin op_addAll ?_
    refine ve_bin op_addAll ?_
    refine ve_bin op_mulAll ?_
    refine ve_lst ?_
    refine va_cons ?_
    refine ve_int ?_
    refine va_nil ?_
    refine ⟨by rw [sizeLine_eq]; simp, ?_⟩
    refine ve_val 5 rfl ?_
    refine rb_mulL (by omega) (by rw [sizeLine_eq]; simp; omega) ?_
    refine ve_lst ?_
    refine va_cons ?_
    refine ve_int ?_
    refine va_nil ?_
    refine ⟨by rw [sizeLine_eq]; simp, ?_⟩
    refine rb_addL (by rw [sizeLine_eq, rep_len]; simp; omega) ?_
    refine ve_bin op_mulAll ?_
    refine ve_lst ?_
    refine va_cons ?_
    refine ve_int ?_
    refine va_nil ?_
    refine ⟨by rw [sizeLine_eq]; simp, ?_⟩
    refine ve_bin op_sub ?_
    refine ve_val 3 rfl ?_
    refine ve_val 5 rfl ?_
    refine rb_subI ?_
    have e28 : (((mk a b).length : Nat) : Int) - 1 - (t : Int) = ((28 - t : Nat) : Int) := by rw [hlen]; omega
    refine rb_mulL (by rw [hlen]; omega) (by rw [sizeLine_eq, hlen]; simp; omega) ?_
    have e29 : (((mk a b).length : Int) - 1 - (t : Int)).toNat = 28 - t := by rw [e28, Int.toNat_natCast]
    refine rb_addL (by rw [sizeLine_eq, e29]; simp [rep_len]; omega) ?_
    have el : ((List.replicate ((t : Nat) : Int).toNat [D.int 0]).flatten ++ [D.int 1] ++ (List.replicate (((mk a b).length : Int) - 1 - (t : Int)).toNat [D.int 0]).flatten) = ((List.range 29).map fun j => if t = j then (1 : Int) else 0).map D.int := by
      rw [e29, Int.toNat_natCast]
      have : ∀ t : Nat, t < 29 → (List.replicate t [(0 : Int)]).flatten ++ [1] ++ (List.replicate (28 - t) [0]).flatten = (List.range 29).map fun j => if t = j then (1 : Int) else 0 := by decide
      rw [← this t ht']
      simp [List.map_append, List.map_flatten, List.map_replicate]
    have er : ((List.range 29).map fun j => D.int (if t = j then 1 else 0)) = ((List.range 29).map fun j => if t = j then (1 : Int) else 0).map D.int := by rw [List.map_map]; rfl
    refine rb_eqAD (p := .list (((List.range 29).map fun j => if t = j then (1 : Int) else 0).map PyData.int)) (q := .list (((List.range 29).map fun j => if t = j then (1 : Int) else 0).map PyData.int)) ?_ ?_ (shaped_ints _) (shaped_ints _) ?_
    · rw [er]; exact toPy_lst _
    · rw [el]; exact toPy_lst _
    rw [eqv_ints]
    refine ⟨by cases pn2 <;> rfl, ?_⟩
    rw [List.replicate_succ']
    simp
  · rintro acc pn2 ⟨rfl, rfl⟩
    refine ⟨List.replicate 29 true, by rw [List.map_replicate]; rfl, ?_⟩
    rw [all_true rfl]
    cases pn2 <;> exact q
end
end My
set_option Elab.async false
set_option linter.all false
set_option maxRecDepth 100000
set_option maxHeartbeats 4000000
namespace My
open PySem PySem.Spec PyProof.Rows L2 VL
section
variable {P : Program} {w : World} {K : PySem.W.Frag} {mg : Str → Option Value} {base : Heap} {kws : List (Str × V)} {f : Addr} {fd : FuncData}
abbrev sDraw : Stmt := top 33
theorem scDraw : FnScope ["_law_pen_here", "_law_many", "_law_digit", "_law_stop", "_law_cell", "_law_blend"] ["_law_pen_here", "_law_many"] (defScope sDraw) := ⟨rfl, rfl, rfl, by decide +kernel, rfl, by decide +kernel, by decide +kernel⟩
def ctDraw : Ct where
  run ds pn k e := ∃ (p : Addr) (r : Nat) (m : Int), ds = [.adr p, .int m] ∧ pn = some (p, .bud (r + 1)) ∧ 1 ≤ m ∧ m ≤ 2 ^ 60 ∧ ∀ v : Int, 0 ≤ v → v < m → k (.int v) (some (p, .bud r))
  mono := fun ⟨p, r, m, h1, h2, h3, h4, q⟩ hk he => ⟨p, r, m, h1, h2, h3, h4, fun v h5 h6 => hk _ _ (q v h5 h6)⟩
theorem penN {G H : Hp} {pn : Pn} {Ev : ExD → Pn → Prop} : PenN (bodyCv "stop" "rest" G H pn Ev) := by
  have h1 : ("stop" : Str) ≠ "cells" := by decide
  have h2 : ("rest" : Str) ≠ "cells" := by decide
  have h3 : ("rest" : Str) ≠ "stop" := by decide
  exact ⟨h1, h2, h3⟩
theorem fn_draw (F : FunD K "_law_draw" "_law_draw" (defArgs sDraw) (defBody sDraw) (defScope sDraw) [] kws f fd) (mInt : mg "int" = none) (mLen : mg "len" = none) : FnOk P w K mg base (L2.CX P w) 2 f fd ["_law_pen_here", "_law_many"] (spV "stop" "rest" K mg ctDraw) := by
  refine fn_body F scDraw (by decide) (fun ds pn k e ⟨p, r, m, h, _⟩ => by subst h; rfl) fun cdv A outer s H E G ds pn Qv Ev hr tk ⟨p, r, m, hds, hpn, m1, m2, q⟩ => ?_
  subst hds; subst hpn
  refine vss_open rfl fun cells b l hb => ?_
  refine vss_cons ?_
  refine vs_if ?_
  refine vt_cmp op_ge ?_ (nomark _)
  refine ve_penL 0 hr penN rfl rfl rfl ?_
  refine ve_val 1 rfl ?_
  refine rb_ge ?_
  refine ⟨_, rfl, fun hk => ?_, fun hk => ?_⟩
  · refine vss_cons ?_
    refine vs_set 2 ?_ scDraw.nd
    refine ve_bin op_mod ?_
    refine ve_intOf mInt ?_
    refine ve_penL 0 hr penN rfl rfl rfl ?_
    refine .inl ⟨_, rfl, ?_⟩
    refine ve_val 1 rfl ?_
    refine rb_mod (by omega) ?_
    refine vss_cons ?_
    refine vs_penL 0 hr penN rfl ?_
    refine ve_bin op_divB ?_
    refine ve_penL 0 hr penN rfl rfl rfl ?_
    refine ve_val 1 rfl ?_
    refine rb_div (divOk_small m1 m2) ?_
    refine ⟨_, _, _, _, _, rfl, rfl, rfl, ?_⟩
    obtain ⟨b1, b2, b3, b4, b5, b6⟩ := hb
    have hd := div_le b5 m1
    refine vss_close (r := r) rfl ⟨b1, b2, b3, by omega, hd.1, Nat.lt_of_le_of_lt (by omega) b6⟩ ?_
    refine vss_one ?_
    refine vs_ret ?_
    refine ve_val 2 rfl ?_
    exact q _ (Int.emod_nonneg _ (by omega)) (Int.emod_lt_of_pos _ (by omega))
  · refine vss_nil ?_
    refine vss_cons ?_
    refine vs_set 3 ?_ scDraw.nd
    refine ve_penB 0 hr penN rfl rfl rfl ?_
    refine vss_cons ?_
    refine vs_penB 0 hr penN rfl ?_
    refine ve_bin op_addAll ?_
    refine ve_val 3 rfl ?_
    refine ve_int ?_
    refine rb_addI ?_
    refine ⟨_, _, _, _, _, rfl, rfl, rfl, ?_⟩
    obtain ⟨b1, b2, b3, b4, b5, b6⟩ := hb
    have tail : ∀ cell : Int, cell.natAbs < 2 ^ 1048577 → VSs (bX P w K mg base ["_law_pen_here", "_law_many", "_law_digit", "_law_stop", "_law_cell", "_law_blend"] "_law_draw" sDraw f cdv A outer s H E) (bodyCv "stop" "rest" G H (some (p, .bud (r + 1))) Ev)
        ⟨[.val (.adr p), .val (.int m), .un, .val (.int b), .val (.int cell), .un], some (p, .ex cells (b + 1) l)⟩ ((defBody sDraw).drop 5) { nx := fun S => Qv .non (outPn (some (p, .bud (r + 1))) S.pn), rt := fun d S => Qv d (outPn (some (p, .bud (r + 1))) S.pn) } := by
      intro cell hcell
      have done : ∀ ρ : List Sl, ∀ l' : Int, 0 ≤ l' → l'.natAbs < 2 ^ 1048577 → ∀ sts E', VSs (bX P w K mg base ["_law_pen_here", "_law_many", "_law_digit", "_law_stop", "_law_cell", "_law_blend"] "_law_draw" sDraw f cdv A outer s H E) (bodyCv "stop" "rest" G H (some (p, .bud (r + 1))) Ev) ⟨ρ, some (p, .bud r)⟩ sts E' →
          VSs (bX P w K mg base ["_law_pen_here", "_law_many", "_law_digit", "_law_stop", "_law_cell", "_law_blend"] "_law_draw" sDraw f cdv A outer s H E) (bodyCv "stop" "rest" G H (some (p, .bud (r + 1))) Ev) ⟨ρ, some (p, .ex cells (b + 1) l')⟩ sts E' := fun ρ l' h1 h2 sts E' h => vss_close (r := r) rfl ⟨b1, b2, by omega, by omega, h1, h2⟩ h
      have blend : VSs (bX P w K mg base ["_law_pen_here", "_law_many", "_law_digit", "_law_stop", "_law_cell", "_law_blend"] "_law_draw" sDraw f cdv A outer s H E) (bodyCv "stop" "rest" G H (some (p, .bud (r + 1))) Ev)
        ⟨[.val (.adr p), .val (.int m), .un, .val (.int b), .val (.int cell), .un], some (p, .bud r)⟩ ((defBody sDraw).drop 6) { nx := fun S => Qv .non (outPn (some (p, .bud (r + 1))) S.pn), rt := fun d S => Qv d (outPn (some (p, .bud (r + 1))) S.pn) } := by
        refine vss_cons ?_
        refine vs_set 5 ?_ scDraw.nd
        refine ve_bin op_mulAll ?_
        refine ve_bin op_mod ?_
        refine ve_intOf mInt ?_
        refine ve_val 4 rfl ?_
        refine .inl ⟨_, rfl, ?_⟩
        refine ve_int ?_
        refine rb_mod (by decide) ?_
        refine ve_int ?_
        refine rb_mulI (mulR (by decide) (by decide)) ?_
        generalize cell % 2147483269 * 40177 = t1
        refine vss_cons ?_
        refine vs_set 5 ?_ scDraw.nd
        refine ve_bin op_mod ?_
        refine ve_intOf mInt ?_
        refine ve_bin op_addAll ?_
        refine ve_bin op_addAll ?_
        refine ve_bin op_addAll ?_
        refine ve_val 5 rfl ?_
        refine ve_bin op_mulAll ?_
        refine ve_bin op_mulAll ?_
        refine ve_int ?_
        refine ve_val 3 rfl ?_
        refine rb_mulI (mulL (by decide) (by decide)) ?_
        refine ve_val 3 rfl ?_
        refine rb_mulI (mulR (by omega) (by omega)) ?_
        refine rb_addI ?_
        refine ve_bin op_mulAll ?_
        refine ve_int ?_
        refine ve_val 3 rfl ?_
        refine rb_mulI (mulL (by decide) (by decide)) ?_
        refine rb_addI ?_
        refine ve_int ?_
        refine rb_addI ?_
        refine .inl ⟨_, rfl, ?_⟩
        refine ve_int ?_
        refine rb_mod (by decide) ?_
        generalize ht2 : (t1 + 52489 * b * b + 103 * b + 37) % 2147483323 = t2
        have h2a : 0 ≤ t2 ∧ t2 < 2147483323 := by
          rw [← ht2]
          exact ⟨Int.emod_nonneg _ (by decide), Int.emod_lt_of_pos _ (by decide)⟩
        refine vss_cons ?_
        refine vs_set 5 ?_ scDraw.nd
        refine ve_bin op_mod ?_
        refine ve_intOf mInt ?_
        refine ve_bin op_mulAll ?_
        refine ve_val 5 rfl ?_
        refine ve_bin op_addAll ?_
        refine ve_val 5 rfl ?_
        refine ve_int ?_
        refine rb_addI ?_
        refine rb_mulI (mulL (by omega) (by omega)) ?_
        refine .inl ⟨_, rfl, ?_⟩
        refine ve_int ?_
        refine rb_mod (by decide) ?_
        generalize ht3 : t2 * (t2 + 70019) % 2147483353 = t3
        have h3a : 0 ≤ t3 ∧ t3 < 2147483353 := by
          rw [← ht3]
          exact ⟨Int.emod_nonneg _ (by decide), Int.emod_lt_of_pos _ (by decide)⟩
        refine vss_one ?_
        refine vs_ret ?_
        refine ve_bin op_mod ?_
        refine ve_intOf mInt ?_
        refine ve_bin op_divB ?_
        refine ve_bin op_mod ?_
        refine ve_intOf mInt ?_
        refine ve_bin op_addAll ?_
        refine ve_bin op_mulAll ?_
        refine ve_val 5 rfl ?_
        refine ve_val 5 rfl ?_
        refine rb_mulI (mulL (by omega) (by omega)) ?_
        refine ve_bin op_mulAll ?_
        refine ve_int ?_
        refine ve_val 5 rfl ?_
        refine rb_mulI (mulL (by decide) (by decide)) ?_
        refine rb_addI ?_
        refine .inl ⟨_, rfl, ?_⟩
        refine ve_int ?_
        refine rb_mod (by decide) ?_
        refine ve_int ?_
        refine rb_div (divOk_small (by decide) (by decide)) ?_
        refine .inl ⟨_, rfl, ?_⟩
        refine ve_val 1 rfl ?_
        refine rb_mod (by omega) ?_
        exact q _ (Int.emod_nonneg _ (by omega)) (Int.emod_lt_of_pos _ (by omega))
      refine vss_cons ?_
      refine vs_if ?_
      refine vt_w ?_
      refine vw_and ?_
      refine vt_cmp op_lt ?_ (nomark _)
      refine ve_val 3 rfl ?_
      refine ve_len mLen ?_
      refine ve_penC 0 hr rfl rfl ?_
      refine rb_lt ?_
      refine ⟨_, rfl, fun hk => ?_, fun hk => ⟨nofun, fun _ => ?_⟩⟩
      · refine vw_and1 ?_
        refine vt_cmp op_ge ?_ (nomark _)
        refine ve_val 4 rfl ?_
        refine ve_bin op_pow ?_
        refine ve_int ?_
        refine ve_int ?_
        refine rb_pow ⟨by decide, by decide, by decide⟩ ?_
        refine rb_ge ?_
        refine ⟨_, rfl, fun hk2 => ?_, fun hk2 => ?_⟩
        · have hc := of_decide_eq_true hk2
          refine vss_cons ?_
          refine vs_penL 0 hr penN rfl ?_
          refine ve_bin op_divB ?_
          refine ve_bin op_sub ?_
          refine ve_val 4 rfl ?_
          refine ve_bin op_pow ?_
          refine ve_int ?_
          refine ve_int ?_
          refine rb_pow ⟨by decide, by decide, by decide⟩ ?_
          refine rb_subI ?_
          refine ve_val 1 rfl ?_
          refine rb_div (divOk_small m1 m2) ?_
          refine ⟨_, _, _, _, _, rfl, rfl, rfl, ?_⟩
          have hd := div_le (x := cell - 10 ^ Int.toNat 18) (by omega) m1
          have hp : (0 : Int) < 10 ^ Int.toNat 18 := by decide
          refine done _ _ hd.1 (Nat.lt_of_le_of_lt (by omega) hcell) _ _ ?_
          refine vss_one ?_
          refine vs_ret ?_
          refine ve_bin op_mod ?_
          refine ve_intOf mInt ?_
          refine ve_bin op_sub ?_
          refine ve_val 4 rfl ?_
          refine ve_bin op_pow ?_
          refine ve_int ?_
          refine ve_int ?_
          refine rb_pow ⟨by decide, by decide, by decide⟩ ?_
          refine rb_subI ?_
          refine .inl ⟨_, rfl, ?_⟩
          refine ve_val 1 rfl ?_
          refine rb_mod (by omega) ?_
          exact q _ (Int.emod_nonneg _ (by omega)) (Int.emod_lt_of_pos _ (by omega))
        · refine vss_nil ?_
          exact done _ _ b5 b6 _ _ blend
      · refine vss_nil ?_
        exact done _ _ b5 b6 _ _ blend
    refine vss_cons ?_
    refine vs_set 4 ?_ scDraw.nd
    refine ve_bin op_addAll ?_
    refine ve_bin op_mulAll ?_
    refine ve_int ?_
    refine ve_val 3 rfl ?_
    refine rb_mulI (mulL (by decide) (by decide)) ?_
    refine ve_int ?_
    refine rb_addI ?_
    refine vss_cons ?_
    refine vs_if ?_
    refine vt_cmp (op_neAll hr) ?_ (nomark _)
    refine ve_penC 0 hr rfl rfl ?_
    refine ve_lst ?_
    refine va_nil ?_
    refine ⟨by simp, ?_⟩
    refine rb_neAD (toPy_scr cells) (show (D.lst []).toPy = some (.list []) from rfl) (shaped_ints cells) rfl ?_
    rw [eqv_nil]
    refine ⟨_, rfl, fun hk => ?_, fun hk => ?_⟩
    · refine vss_one ?_
      refine vs_set 4 ?_ scDraw.nd
      refine ve_ix ?_
      refine ve_penC 0 hr rfl rfl ?_
      refine ve_bin op_mod ?_
      refine ve_intOf mInt ?_
      refine ve_val 3 rfl ?_
      refine .inl ⟨_, rfl, ?_⟩
      refine ve_len mLen ?_
      refine ve_penC 0 hr rfl rfl ?_
      have hne : 0 < cells.length := by
        cases cells with
        | nil => cases hk
        | cons => simp
      refine rb_mod (by rw [List.length_map]; omega) ?_
      rw [List.length_map]
      obtain ⟨x, hx, hm⟩ := atI_nat (l := cells.map D.int) (j := b % (cells.length : Int)) (Int.emod_nonneg _ (by omega)) (by rw [List.length_map]; exact Int.emod_lt_of_pos _ (by omega))
      obtain ⟨cell, hc, rfl⟩ := List.mem_map.mp hm
      refine ⟨_, hx, ?_⟩
      exact tail cell (b2 cell hc)
    · refine vss_nil ?_
      exact tail _ (Nat.lt_of_lt_of_le (m := 2 ^ 100) (by omega) (Nat.pow_le_pow_right (by decide) (by decide)))
abbrev sPick : Stmt := top 34
theorem scPick : FnScope ["_law_pen_here", "_law_some"] ["_law_pen_here", "_law_some"] (defScope sPick) := ⟨rfl, rfl, rfl, by decide +kernel, rfl, by decide +kernel, by decide +kernel⟩
def ctPick : Ct where
  run ds pn k e := ∃ (p : Addr) (r : Nat) (xs : List D), ds = [.adr p, .lst xs] ∧ pn = some (p, .bud (r + 1)) ∧ xs ≠ [] ∧ xs.length ≤ 1000000 ∧ ∀ d ∈ xs, k d (some (p, .bud r))
  mono := fun ⟨p, r, xs, h1, h2, h3, h4, q⟩ hk he => ⟨p, r, xs, h1, h2, h3, h4, fun d hd => hk _ _ (q d hd)⟩
theorem fn_pick (F : FunD K "_law_pick" "_law_pick" (defArgs sPick) (defBody sPick) (defScope sPick) [] kws f fd) (mLen : mg "len" = none) (FD : VFn P w K mg base "stop" "rest" 2 "_law_draw" [] ctDraw) : FnOk P w K mg base (L2.CX P w) 3 f fd ["_law_pen_here", "_law_some"] (spV "stop" "rest" K mg ctPick) := by
  refine fn_body F scPick (by decide) (fun ds pn k e ⟨p, r, xs, h, _⟩ => by subst h; rfl) fun cdv A outer s H E G ds pn Qv Ev hr tk ⟨p, r, xs, hds, hpn, hne, hlen, q⟩ => ?_
  subst hds; subst hpn
  have hl : 0 < xs.length := List.length_pos_iff.mpr hne
  refine vss_one ?_
  refine vs_ret ?_
  refine ve_ix ?_
  refine ve_val 1 rfl ?_
  refine ve_call FD hr tk ?_
  refine va_cons ?_
  refine ve_val 0 rfl ?_
  refine va_cons ?_
  refine ve_len mLen ?_
  refine ve_val 1 rfl ?_
  refine va_nil ?_
  refine ⟨p, r, _, rfl, rfl, by omega, by omega, fun v h0 h1 => ?_⟩
  obtain ⟨d, hd, hm⟩ := atI_nat h0 h1
  exact ⟨d, hd, q d hm⟩
abbrev sRaise : Stmt := top 39
theorem scRaise : FnScope ["_law_which", "_law_mine"] ["_law_which", "_law_mine"] (defScope sRaise) := ⟨rfl, rfl, rfl, by decide +kernel, rfl, by decide +kernel, by decide +kernel⟩
def ctRaise : Ct where
  run ds pn k e := ∃ (w : Int) (d : D), ds = [.int w, d] ∧ ∀ x : ExD, (∃ i : Nat, nm[i]? = some x.c) → e x pn
  mono := fun ⟨w, d, h1, q⟩ hk he => ⟨w, d, h1, fun x hx => he _ _ (q x hx)⟩
theorem fn_raise (F : FunD K "_law_raise" "_law_raise" (defArgs sRaise) (defBody sRaise) (defScope sRaise) [] kws f fd) (Z : Fx P w K mg base) : FnOk P w K mg base (L2.CX P w) 3 f fd ["_law_which", "_law_mine"] (spV "stop" "rest" K mg ctRaise) := by
  refine fn_body F scRaise (by decide) (fun ds pn k e ⟨w, d, h, _⟩ => by subst h; rfl) fun cdv A outer s H E G ds pn Qv Ev hr tk ⟨w, d, hds, q⟩ => ?_
  subst hds
  have q' : ∀ x : ExD, (∃ i : Nat, nm[i]? = some x.c) → Ev x (outPn pn pn) := fun x hx => by cases pn <;> exact q x hx
  refine vss_cons ?_
  refine vs_if ?_
  refine vt_cmp (op_eqAll hr) ?_ (nomark _)
  refine ve_val 0 rfl ?_
  refine ve_int ?_
  refine rb_eqAI ?_
  refine ⟨_, rfl, fun hk => ?_, fun hk => vss_nil ?_⟩
  · refine vss_one ?_
    refine vs_raise0 (Z.zero 12 "StandsStill" rfl rfl) tk rfl ?_
    exact q' _ ⟨12, rfl⟩
  refine vss_cons ?_
  refine vs_if ?_
  refine vt_cmp (op_eqAll hr) ?_ (nomark _)
  refine ve_val 0 rfl ?_
  refine ve_int ?_
  refine rb_eqAI ?_
  refine ⟨_, rfl, fun hk => ?_, fun hk => vss_nil ?_⟩
  · refine vss_one ?_
    refine vs_raise (Z.own 11 "TooMany" ["most"] rfl rfl (by simp)) exb1_TooMany hr tk rfl (by decide) ?_
    refine va_cons ?_
    refine ve_int ?_
    refine va_nil ?_
    refine ⟨rfl, rfl, ?_⟩
    exact q' _ ⟨11, rfl⟩
  refine vss_cons ?_
  refine vs_if ?_
  refine vt_cmp (op_eqAll hr) ?_ (nomark _)
  refine ve_val 0 rfl ?_
  refine ve_int ?_
  refine rb_eqAI ?_
  refine ⟨_, rfl, fun hk => ?_, fun hk => vss_nil ?_⟩
  · refine vss_one ?_
    refine vs_raiseK0 (Z.own 23 "NotAFile" ["line", "at"] rfl rfl (by simp)) exk2_NotAFile hr tk rfl ?_
    refine vk_cons ?_
    refine ve_val 1 rfl ?_
    refine vk_cons ?_
    refine ve_int ?_
    refine vk_nil ?_
    refine ⟨rfl, rfl, ?_⟩
    exact q' _ ⟨23, rfl⟩
  refine vss_cons ?_
  refine vs_if ?_
  refine vt_cmp (op_eqAll hr) ?_ (nomark _)
  refine ve_val 0 rfl ?_
  refine ve_int ?_
  refine rb_eqAI ?_
  refine ⟨_, rfl, fun hk => ?_, fun hk => vss_nil ?_⟩
  · refine vss_one ?_
    refine vs_raise (Z.own 6 "Unknown" ["name"] rfl rfl (by simp)) exb1_Unknown hr tk rfl (by decide) ?_
    refine va_cons ?_
    refine ve_val 1 rfl ?_
    refine va_nil ?_
    refine ⟨rfl, rfl, ?_⟩
    exact q' _ ⟨6, rfl⟩
  refine vss_cons ?_
  refine vs_if ?_
  refine vt_cmp (op_eqAll hr) ?_ (nomark _)
  refine ve_val 0 rfl ?_
  refine ve_int ?_
  refine rb_eqAI ?_
  refine ⟨_, rfl, fun hk => ?_, fun hk => vss_nil ?_⟩
  · refine vss_one ?_
    refine vs_raise (Z.own 25 "Broken" ["promise", "paper"] rfl rfl (by simp)) exb2_Broken hr tk rfl (by decide) ?_
    refine va_cons ?_
    refine ve_val 1 rfl ?_
    refine va_cons ?_
    refine ve_non ?_
    refine va_nil ?_
    refine ⟨rfl, rfl, ?_⟩
    exact q' _ ⟨25, rfl⟩
  refine vss_one ?_
  refine vs_raise0 (Z.zero 27 "NothingToUndo" rfl rfl) tk rfl ?_
  exact q' _ ⟨27, rfl⟩
abbrev sCaught : Stmt := top 40
theorem scCaught : FnScope ["_law_which", "_law_mine", "e"] ["_law_which", "_law_mine"] (defScope sCaught) := ⟨rfl, rfl, rfl, by decide +kernel, rfl, by decide +kernel, by decide +kernel⟩
def ctCaught : Ct where
  run ds pn k e := ∃ (w : Int) (d : D), ds = [.int w, d] ∧ k (.bl true) pn
  mono := fun ⟨w, d, h1, q⟩ hk he => ⟨w, d, h1, hk _ _ q⟩
theorem fn_caught (F : FunD K "_law_caught" "_law_caught" (defArgs sCaught) (defBody sCaught) (defScope sCaught) [] kws f fd) (Z : Fx P w K mg base) (FR : VFn P w K mg base "stop" "rest" 3 "_law_raise" [] ctRaise) : FnOk P w K mg base (L2.CX P w) 4 f fd ["_law_which", "_law_mine"] (spV "stop" "rest" K mg ctCaught) := by
  refine fn_body F scCaught (by decide) (fun ds pn k e ⟨w, d, h, _⟩ => by subst h; rfl) fun cdv A outer s H E G ds pn Qv Ev hr tk ⟨w, d, hds, q⟩ => ?_
  subst hds
  obtain ⟨cA, sA, hs, hc⟩ := Z.cls
  refine vss_cons ?_
  refine vs_tryAs 2 (cv := .ref sA) rfl rfl scCaught.nd ⟨rfl, by decide, .inl hs⟩ tk (fun x S => (∃ i : Nat, nm[i]? = some x.c) ∧ S = ⟨[.val (.int w), .val d, .un], pn⟩) (fun pn2 xe G0 tk2 => ?_) (fun y S' ⟨⟨i, hi⟩, hS⟩ => ?_)
  · refine vss_one ?_
    refine vs_expr ?_
    refine ve_call FR hr tk2 ?_
    refine va_cons ?_
    refine ve_val 0 rfl ?_
    refine va_cons ?_
    refine ve_val 1 rfl ?_
    refine va_nil ?_
    exact ⟨w, d, rfl, fun x hx => ⟨hx, rfl⟩⟩
  · obtain ⟨h1, h2, h3, h4, h5, h6⟩ := hc i y.c hi
    refine ⟨true, fun C hC => ?_, fun _ a C oe dd pn2 G0 hC hz hf => ?_, nofun⟩
    · have hC' : mg y.c = some (.ref C) := hC
      rw [h1] at hC'; cases hC'; exact h6
    · subst hS
      refine vss_one ?_
      refine vs_ret ?_
      refine ve_bl ?_
      cases pn <;> exact q
end
end My
set_option Elab.async false
set_option linter.all false
set_option maxRecDepth 100000
set_option maxHeartbeats 4000000
namespace My
open PySem PySem.Spec PyProof.Rows L2 VL
section
variable {P : Program} {w : World} {K : PySem.W.Frag} {mg : Str → Option Value} {base : Heap} {kws : List (Str × V)} {f : Addr} {fd : FuncData}
abbrev sLaw : Stmt := top 41
theorem scLaw : FnScope ["_law_script", "_law_pen_here", "_law_values", "_law_lap", "_law_mine", "_law_yours", "_law_held", "_law_twice", "_law_due", "_law_which"] ["_law_script"] (defScope sLaw) := ⟨rfl, rfl, rfl, by decide +kernel, rfl, by decide +kernel, by decide +kernel⟩
def ctLaw : Ct where
  run ds pn k e := ∃ ns : List Int, ds = [.scr (ns.map D.int)] ∧ pn = none ∧ bigs ns ∧ ns.length ≤ 63 ∧ k (.bl true) none
  mono := fun ⟨ns, h1, h2, h3, h4, q⟩ hk he => ⟨ns, h1, h2, h3, h4, hk _ _ q⟩
def vals : List D := [.non, .bl true, .int 0, .int (-3), .str "", .str "x y", .tup [.int 1, .int 2], .lst [.str "x"], .dct [] [], .int (10 ^ 9), .str "a", .tup [.tup [.int 0, .int 1], .int 2]]
def isB : D → Bool
  | .bl _ => true
  | _ => false
theorem vals_eq : ∀ d ∈ vals, selfEq d := by
  intro d hd
  simp only [vals, List.mem_cons, List.not_mem_nil, or_false] at hd
  rcases hd with rfl | rfl | rfl | rfl | rfl | rfl | rfl | rfl | rfl | rfl | rfl | rfl
  all_goals first
    | exact .inl rfl
    | exact .inr ⟨_, rfl, by decide +kernel, by decide +kernel⟩
theorem vals_bool {K : PySem.W.Frag} {mg : Str → Option Value} : ∀ d ∈ vals, IsA K mg d (.ty "bool") (isB d) := by
  intro d hd
  have key : ∀ (d : D) (T : String), tyD d = some T → (match d with | .ins _ _ _ => False | .exn _ _ _ => False | _ => True) → kitB T "bool" = some (isB d) → IsA K mg d (.ty "bool") (isB d) := by
    intro d T h1 h2 h3
    refine ⟨⟨_, .inl ⟨T, h1, rfl⟩⟩, ⟨_, .inl ⟨_, rfl, rfl⟩⟩, ?_, fun t u ht hu => ?_⟩
    · cases d <;> first | trivial | exact h2.elim
    · rcases hu with ⟨U, z, rfl⟩ | ⟨x, C, z, _⟩
      · cases z
        rcases ht with ⟨T', z, rfl⟩ | ⟨cn, ks, ds, z, _⟩
        · rw [h1] at z; cases z; exact kit_ty h3
        · rcases z with rfl | rfl <;> exact h2.elim
      · cases z
  simp only [vals, List.mem_cons, List.not_mem_nil, or_false] at hd
  rcases hd with rfl | rfl | rfl | rfl | rfl | rfl | rfl | rfl | rfl | rfl | rfl | rfl
  all_goals exact key _ _ rfl trivial (by decide +kernel)
theorem fn_law (F : FunD K "law" "law" (defArgs sLaw) (defBody sLaw) (defScope sLaw) [] kws f fd) (Z : Fx P w K mg base) (mBool : mg "bool" = none) (FN : VPen P w K mg base "stop" "rest" 1 "_law_pen") (FP : VFn P w K mg base "stop" "rest" 3 "_law_pick" [] ctPick) (FA : VFn P w K mg base "stop" "rest" 3 "_law_alone" [] ctAlone)
    (FM : VFn P w K mg base "stop" "rest" 3 "_law_more" [] ctMore) (FAp : VFn P w K mg base "stop" "rest" 4 "_law_apart" [] ctApart) (FC : VFn P w K mg base "stop" "rest" 4 "_law_caught" [] ctCaught) : FnOk P w K mg base (L2.CX P w) 5 f fd ["_law_script"] (spV "stop" "rest" K mg ctLaw) := by
  refine fn_body F scLaw (by decide) (fun ds pn k e ⟨ns, h, _⟩ => by subst h; rfl) fun cdv A outer s H E G ds pn Qv Ev hr tk ⟨ns, hds, hpn, hbig, hlen, q⟩ => ?_
  subst hds; subst hpn
  have hr3 := hr.mono (show 3 ≤ 4 by decide)
  refine vss_cons ?_
  refine vs_newpen 1 0 FN (hr.mono (by decide)) tk rfl rfl rfl hbig (fun p => ?_) scLaw.nd
  refine vss_cons ?_
  refine vs_set 2 ?_ scLaw.nd
  refine ve_lst ?_
  refine va_cons (ve_non ?_)
  refine va_cons (ve_bl ?_)
  refine va_cons (ve_int ?_)
  refine va_cons (ve_neg (ve_int ⟨_, rfl, ?_⟩))
  refine va_cons (ve_str ?_)
  refine va_cons (ve_str ?_)
  refine va_cons (ve_tup ?_)
  refine va_cons (ve_int ?_)
  refine va_cons (ve_int ?_)
  refine va_nil ⟨by rw [sizeLine_eq]; simp, ?_⟩
  refine va_cons (ve_lst ?_)
  refine va_cons (ve_str ?_)
  refine va_nil ⟨by rw [sizeLine_eq]; simp, ?_⟩
  refine va_cons (ve_dict0 ?_)
  refine va_cons (ve_bin op_pow ?_)
  refine ve_int ?_
  refine ve_int ?_
  refine rb_pow ⟨by decide, by decide, by decide⟩ ?_
  refine va_cons (ve_str ?_)
  refine va_cons (ve_tup ?_)
  refine va_cons (ve_tup ?_)
  refine va_cons (ve_int ?_)
  refine va_cons (ve_int ?_)
  refine va_nil ⟨by rw [sizeLine_eq]; simp, ?_⟩
  refine va_cons (ve_int ?_)
  refine va_nil ⟨by rw [sizeLine_eq]; simp, ?_⟩
  refine va_nil ⟨by rw [sizeLine_eq]; simp, ?_⟩
  refine (show VSs _ _ ⟨[.val (.scr (ns.map D.int)), .val (.adr p), .val (.lst vals), .un, .un, .un, .un, .un, .un, .un], some (p, .bud (2 ^ 50))⟩ _ _ from ?_)
  generalize hN : (2 : Nat) ^ 50 = N
  have hN5 : 1000 ≤ N := by rw [← hN]; decide
  refine vss_cons ?_
  refine vs_forR1 (passes_of rfl) rfl Z.mRange ?_
  refine ve_bin op_addAll ?_
  refine ve_int ?_
  refine ve_min2 Z.mMin rfl ?_
  refine va_cons (ve_int ?_)
  refine va_cons (ve_len Z.mLen ?_)
  refine ve_val 0 rfl ?_
  refine va_nil ⟨_, _, rfl, ?_⟩
  refine rb_addI ?_
  refine ⟨_, rfl, by split <;> omega, by split <;> omega, ?_⟩
  refine ⟨fun t S => ∃ s3 s4 s5 s6 s7 s8 s9, S = ⟨[.val (.scr (ns.map D.int)), .val (.adr p), .val (.lst vals), s3, s4, s5, s6, s7, s8, s9], some (p, .bud (N - 2 * t))⟩, ⟨_, _, _, _, _, _, _, rfl⟩, ?_, ?_⟩
  · rintro t S ht ⟨s3, s4, s5, s6, s7, s8, s9, rfl⟩
    have ht5 : t < 5 := by
      have : (if ((ns.map D.int).length : Int) < 3 then ((ns.map D.int).length : Int) else 3) ≤ 3 := by split <;> omega
      omega
    obtain ⟨r, er⟩ : ∃ r, N - 2 * t = r + 1 + 1 := ⟨N - 2 * t - 2, by omega⟩
    have er2 : N - 2 * (t + 1) = r := by omega
    rw [er]
    refine vg_name 3 ?_ scLaw.nd
    refine vss_cons ?_
    refine vs_asg ?_
    refine ve_tup ?_
    refine va_cons ?_
    refine ve_call FP hr3 tk ?_
    refine va_cons (ve_val 1 rfl ?_)
    refine va_cons (ve_val 2 rfl ?_)
    refine va_nil ?_
    refine ⟨p, r + 1, vals, rfl, rfl, by decide, by decide, fun a ha => ?_⟩
    refine va_cons ?_
    refine ve_call FP hr3 tk ?_
    refine va_cons (ve_val 1 rfl ?_)
    refine va_cons (ve_val 2 rfl ?_)
    refine va_nil ?_
    refine ⟨p, r, vals, rfl, rfl, by decide, by decide, fun b hb => ?_⟩
    refine va_nil ⟨by rw [sizeLine_eq]; simp, ?_⟩
    refine vg_tup ?_ rfl
    refine vgs_cons (vg_name 4 ?_ scLaw.nd)
    refine vgs_cons (vg_name 5 ?_ scLaw.nd)
    refine vgs_nil ?_
    refine (show VSs _ _ ⟨[.val (.scr (ns.map D.int)), .val (.adr p), .val (.lst vals), .val (.int t), .val a, .val b, s6, s7, s8, s9], some (p, .bud r)⟩ _ _ from ?_)
    refine vss_cons ?_
    refine vs_forL (passes_of rfl) rfl ?_
    refine ve_call FA hr3 tk ?_
    refine va_cons (ve_val 4 rfl ?_)
    refine va_nil ?_
    refine ⟨a, rfl, ?_⟩
    refine ⟨_, rfl, fun _ S => ∃ s6 s7 s8 s9, S = ⟨[.val (.scr (ns.map D.int)), .val (.adr p), .val (.lst vals), .val (.int t), .val a, .val b, s6, s7, s8, s9], some (p, .bud r)⟩, ⟨_, _, _, _, rfl⟩, ?_, ?_⟩
    · rintro i d S hd ⟨s6, s7, s8, s9, rfl⟩
      have ed : d = .tup [a, a] := (List.mem_replicate.mp (List.mem_of_getElem? hd)).2
      subst ed
      refine vg_tup ?_ rfl
      refine vgs_cons (vg_name 6 ?_ scLaw.nd)
      refine vgs_cons (vg_name 7 ?_ scLaw.nd)
      refine vgs_nil ?_
      refine vss_one ?_
      refine vs_if ?_
      refine vt_w ?_
      refine vw_or ?_
      refine vt_cmp (op_neE hr) ?_ (nomark _)
      refine ve_val 6 rfl ?_
      refine ve_val 4 rfl ?_
      refine rb_neSelf (vals_eq a ha) ?_
      refine ⟨_, rfl, nofun, fun _ => ?_⟩
      refine vw_or ?_
      refine vt_cmp (op_neE hr) ?_ (nomark _)
      refine ve_val 7 rfl ?_
      refine ve_val 4 rfl ?_
      refine rb_neSelf (vals_eq a ha) ?_
      refine ⟨_, rfl, nofun, fun _ => ?_⟩
      refine vw_or1 ?_
      refine vt_cmp (op_neAll hr) ?_ (nomark _)
      refine ve_isinst Z.mII ?_
      refine va_cons (ve_val 6 rfl ?_)
      refine va_cons (ve_ty (T := "bool") ?_ mBool (by decide +kernel))
      refine va_nil ⟨_, _, isB a, rfl, vals_bool a ha, ?_⟩
      refine ve_isinst Z.mII ?_
      refine va_cons (ve_val 4 rfl ?_)
      refine va_cons (ve_ty (T := "bool") ?_ mBool (by decide +kernel))
      refine va_nil ⟨_, _, isB a, rfl, vals_bool a ha, ?_⟩
      refine rb_neAB ?_
      have e : (!(isB a == isB a)) = false := by simp
      rw [e]
      refine ⟨_, rfl, nofun, fun _ => vss_nil ?_⟩
      exact ⟨_, _, _, _, rfl⟩
    · rintro S ⟨s6, s7, s8, s9, rfl⟩
      refine vss_cons ?_
      refine vs_forL (passes_of rfl) rfl ?_
      refine ve_call FM hr3 tk ?_
      refine va_cons (ve_val 4 rfl ?_)
      refine va_cons (ve_val 5 rfl ?_)
      refine va_nil ?_
      refine ⟨a, b, rfl, ?_⟩
      refine ⟨_, rfl, fun _ S => ∃ s6 s7 s8 s9, S = ⟨[.val (.scr (ns.map D.int)), .val (.adr p), .val (.lst vals), .val (.int t), .val a, .val b, s6, s7, s8, s9], some (p, .bud r)⟩, ⟨_, _, _, _, rfl⟩, ?_, ?_⟩
      · rintro i d S hd ⟨s6, s7, s8, s9, rfl⟩
        obtain ⟨y, hy, rfl⟩ : ∃ y ∈ vals, d = .tup [y, y] := by
          have hm := List.mem_of_getElem? hd
          simp only [List.mem_cons, List.not_mem_nil, or_false] at hm
          rcases hm with rfl | rfl | rfl | rfl | rfl | rfl | rfl | rfl
          all_goals first
            | exact ⟨a, ha, rfl⟩
            | exact ⟨b, hb, rfl⟩
        refine vg_tup ?_ rfl
        refine vgs_cons (vg_name 6 ?_ scLaw.nd)
        refine vgs_cons (vg_name 8 ?_ scLaw.nd)
        refine vgs_nil ?_
        refine vss_one ?_
        refine vs_if ?_
        refine vt_w ?_
        refine vw_or ?_
        refine vt_cmp (op_neE hr) ?_ (nomark _)
        refine ve_val 6 rfl ?_
        refine ve_val 8 rfl ?_
        refine rb_neSelf (vals_eq y hy) ?_
        refine ⟨_, rfl, nofun, fun _ => ?_⟩
        refine vw_or1 ?_
        refine vt_cmp (op_neAll hr) ?_ (nomark _)
        refine ve_isinst Z.mII ?_
        refine va_cons (ve_val 6 rfl ?_)
        refine va_cons (ve_ty (T := "bool") ?_ mBool (by decide +kernel))
        refine va_nil ⟨_, _, isB y, rfl, vals_bool y hy, ?_⟩
        refine ve_isinst Z.mII ?_
        refine va_cons (ve_val 8 rfl ?_)
        refine va_cons (ve_ty (T := "bool") ?_ mBool (by decide +kernel))
        refine va_nil ⟨_, _, isB y, rfl, vals_bool y hy, ?_⟩
        refine rb_neAB ?_
        have e : (!(isB y == isB y)) = false := by simp
        rw [e]
        refine ⟨_, rfl, nofun, fun _ => vss_nil ?_⟩
        exact ⟨_, _, _, _, rfl⟩
      · rintro S ⟨s6, s7, s8, s9, rfl⟩
        refine vss_one ?_
        refine vs_if ?_
        refine vt_w ?_
        refine vw_or ?_
        refine vt_not ?_
        refine vt_truth ?_
        refine ve_call FAp hr tk ?_
        refine va_cons (ve_val 4 rfl ?_)
        refine va_cons (ve_val 5 rfl ?_)
        refine va_nil ?_
        refine ⟨a, b, rfl, ?_⟩
        refine ⟨nofun, fun _ => ?_⟩
        refine vw_or1 ?_
        refine vt_not ?_
        refine vt_truth ?_
        refine ve_all Z.mAll rfl ?_
        refine ve_lcR (own := [("_law_which", 9)]) rfl scLaw.nd (blkOk_by rfl) (by simp) Z.mRange (tg_name (i := 9) (by simp)) (fun s H C cl fp => pg_name scLaw.nd rfl (by first | exact Or.inl rfl | exact Or.inr rfl) (by first | exact .inl rfl | exact .inr rfl)) ?_
        refine ve_int ?_
        refine ⟨6, rfl, by rw [sizeLine_eq]; decide, by decide, ?_⟩
        refine ⟨fun t acc pn2 => pn2 = some (p, .bud r) ∧ acc = List.replicate t (D.bl true), ⟨rfl, rfl⟩, ?_, ?_⟩
        · rintro i acc pn2 hi ⟨rfl, rfl⟩
          refine ⟨_, rfl, ?_⟩
          intro s0 H0 C cl fp Gb Hb
          refine ve_call FC hr takes_blk ?_
          refine va_cons (ve_val 9 rfl ?_)
          refine va_cons (ve_val 4 rfl ?_)
          refine va_nil ?_
          refine ⟨_, _, rfl, ?_⟩
          refine ⟨rfl, ?_⟩
          rw [List.replicate_succ']
        · rintro acc pn2 ⟨rfl, rfl⟩
          refine ⟨List.replicate 6 true, by rw [List.map_replicate]; rfl, ?_⟩
          rw [all_true rfl]
          refine ⟨nofun, fun _ => vss_nil ?_⟩
          exact ⟨_, _, _, _, _, _, _, by rw [er2]⟩
  · rintro S ⟨s3, s4, s5, s6, s7, s8, s9, rfl⟩
    refine vss_one ?_
    refine vs_ret ?_
    refine ve_bl ?_
    exact q
end
end My
set_option Elab.async false
set_option linter.all false
set_option maxRecDepth 100000
set_option maxHeartbeats 0
namespace My
open PySem PySem.Spec PyProof.Rows L2 VL NdefX
theorem walk_ofEB {l : PySem.W.OpenLaw} {n k : Nat} {q : Program} {loose : List Str} {XP : (Str → Option Value) → Heap → Prop} {YP : World → Heap → Prop} {d : DefRec} {CX : World → CXT} {x : Str}
    (hn : l.most = some n) (hn2 : n ≤ sizeLine) (hdf : d.params.defaults = []) (hr : Room k callerA)
    (F : ∀ (w : World) (mg : Str → Option Value) (fa : Addr) (h : Heap), YP w h → h.Ns mainGlobals mg → mg d.name = some (.ref fa) →
      ∃ (K : PySem.W.Frag) (fd : FuncData) (sp : Sp), K.In h ∧ (∀ (s : Shared) (u : Value), BindsTo s fd ⟨[u], []⟩ [(x, u)]) ∧
        (∀ (H : Hp) (a : Addr) (ns : List Int), ns.length ≤ n → (∀ k ∈ ns, Builtin.Int.intBits k ≤ 1048576) → Only H → SqL K H a (ns.map V.int) → sp [.ref a] H (fun v _ => v = .bl true) fun _ _ _ => False) ∧
        ∀ base : Heap, K.In base → base.Ns mainGlobals mg → FnOk l.prog w K mg base (CX w) k fa fd [x] sp)
    (hCX : ∀ (w : World) (H : Hp) (s : Shared) (e : Value) (s' : Shared), CX w [] H s (fun _ _ _ => False) e s' → False) :
    PySem.W.WalkO q loose XP YP l.row.toRowW d [] (fun f vs => PySem.call f vs) := by
  refine Att.attach_callB hn hdf fun w s₀ s₁ mg mb fa o pm cd doc a vs ns G Y ho hd hcd hmg hobj hints hlen hbits hg => ?_
  obtain ⟨K, fd, sp, KX, hb, hsp, hF⟩ := F w mg fa _ Y G.T.g hmg
  exact law_call KX G.T.g G.T.b G.T.builtins G.T.nolimit hg hobj hints (Nat.le_trans hlen hn2) hr hF hb (fun H hO hS => hsp H a ns hlen hbits hO hS) fun H e s' => hCX w H s₁ e s'
theorem bits_abs {k : Int} (h : Builtin.Int.intBits k ≤ 1048576) : k.natAbs < 2 ^ 1048577 :=
  Nat.lt_of_lt_of_le (PySem.intBits_le_iff.mp h) (Nat.pow_le_pow_right (by decide) (by decide))
theorem vfn {P : Program} {w : World} {K : PySem.W.Frag} {mg : Str → Option Value} {base : Heap} {nb nl x qual : Str} {args : Arguments} {body : List Stmt} {sc : Scope} {kws : List (Str × V)} {k : Nat} {ct : Ct} {f : Addr} {fd : FuncData} {ps : List Str}
    (F : FunD K x qual args body sc [] kws f fd) (ok : FnOk P w K mg base (L2.CX P w) k f fd ps (spV nb nl K mg ct)) (g : mg x = some (.ref f)) (b : Binds K fd ps []) : VFn P w K mg base nb nl k x [] ct :=
  ⟨f, fd, ps, [], [], ok, g, F.kp, b, .nil, .nil⟩
abbrev prg : Program := PySem.Challenge.pw_allstreams_k00_errors_made_by_hand
def dF (x : Str) (i : Nat) : He.DefD := ⟨(x, none), x, x, defArgs (top i), defBody (top i), defScope (top i), [], []⟩
def fn : List He.DefD := [dF "_law_pen" 32, dF "_law_draw" 33, dF "_law_pick" 34, dF "_law_alone" 35, dF "_law_more" 36, dF "_law_kinds" 37, dF "_law_apart" 38, dF "_law_raise" 39, dF "_law_caught" 40, dF "law" 41]
def fa : List He.Fa := [.glo "_law_pen", .glo "_law_draw", .glo "_law_pick", .glo "_law_alone", .glo "_law_more", .glo "_law_kinds", .glo "_law_apart", .glo "_law_raise", .glo "_law_caught", .glo "law", .glo "BadValue", .glo "NoDivisor", .glo "AtNought", .glo "NotAText", .glo "NoGiver", .glo "TwoGivers", .glo "Unknown", .glo "Taken", .glo "Apart", .glo "Within", .glo "Unpaced", .glo "TooMany", .glo "StandsStill", .glo "CannotStep", .glo "Unlike", .glo "Singular", .glo "NotSquare", .glo "NotUndone", .glo "HasLoops", .glo "BadCode", .glo "HasSource", .glo "NotOfNet", .glo "NotDriven", .glo "NotAFile", .glo "BadPromise", .glo "Broken", .glo "NotMade", .glo "NothingToUndo", .glo "NothingToRedo", .glo "StreamError", .exc "NoDivisor", .exc "AtNought", .exc "StandsStill", .exc "Unlike", .exc "Singular", .exc "NotSquare", .exc "NotUndone", .exc "HasLoops", .exc "NotOfNet", .exc "NotDriven", .exc "NothingToUndo", .exc "NothingToRedo", .free "isinstance", .free "ValueError", .free "int", .free "len", .free "all", .free "range", .free "min", .free "list", .free "bool"]
def xs : List XD := [⟨"BadValue", "BadValue.__init__", initSt 0, ["value"]⟩, ⟨"NotAText", "NotAText.__init__", initSt 3, ["at"]⟩, ⟨"NoGiver", "NoGiver.__init__", initSt 4, ["name"]⟩, ⟨"TwoGivers", "TwoGivers.__init__", initSt 5, ["name"]⟩, ⟨"Unknown", "Unknown.__init__", initSt 6, ["name"]⟩, ⟨"Taken", "Taken.__init__", initSt 7, ["name"]⟩, ⟨"Apart", "Apart.__init__", initSt 8, ["name"]⟩, ⟨"Within", "Within.__init__", initSt 9, ["name"]⟩, ⟨"Unpaced", "Unpaced.__init__", initSt 10, ["at"]⟩, ⟨"TooMany", "TooMany.__init__", initSt 11, ["most"]⟩, ⟨"CannotStep", "CannotStep.__init__", initSt 13, ["box"]⟩, ⟨"BadCode", "BadCode.__init__", initSt 19, ["at"]⟩, ⟨"HasSource", "HasSource.__init__", initSt 20, ["name"]⟩, ⟨"NotAFile", "NotAFile.__init__", initSt 23, ["line", "at"]⟩, ⟨"BadPromise", "BadPromise.__init__", initSt 24, ["promise"]⟩, ⟨"Broken", "Broken.__init__", initSt 25, ["promise", "paper"]⟩, ⟨"NotMade", "NotMade.__init__", initSt 26, ["promise"]⟩]
def tst (K : PySem.W.Frag) : Bool := decide (PySem.W.nsIn K cStatics "thirdparty.any" = some none) && (decide (PySem.W.nsIn K mainGlobals "super" = some none) && ((xs.all fun d => d.codeB K prg.main.file && d.clsB K) &&
  ((nm.all fun n => excCB K (He.ga K n)) && (((List.range 29).all fun i => (List.range 29).all fun j => decide (PySem.W.kitOne K (.ref (He.ga K (nm.getD i ""))) (.ref (He.ga K (nm.getD j ""))) = some (decide (i = j)))) &&
  (nm.all fun n => decide (PySem.W.kitOne K (.ref (He.ga K n)) (.ref (He.ga K "StreamError")) = some true) && (decide (PySem.W.kitOne K (.ref (He.ga K n)) (.type "ValueError") = some true) && decide (PySem.W.exmOne K (.ref (He.ga K n)) (.ref (He.ga K "StreamError")) = some true)))))))
abbrev R : PySem.W.OpenRow := PySem.W.OpenLaw.row PySem.Challenge.rw_allstreams_k00_errors_made_by_hand
abbrev hk : PySem.W.Hook := hookV 5 fa fn xs tst
def ob (s : PySem.W.SharedT) : AlV := obsV fa fn xs tst (frV 5 (HandSHeadRun.getT s))
theorem ob_eq (s : PySem.W.SharedT) : ob s = hk.obs s.abs := obsV_eq (HandSHeadRun.getT_eq s)
def loose : List PySem.Str := (["StreamError", "BadValue", "NoDivisor", "AtNought", "NotAText", "NoGiver", "TwoGivers", "Unknown", "Taken", "Apart", "Within", "Unpaced", "TooMany", "StandsStill", "CannotStep", "Unlike", "Singular", "NotSquare", "NotUndone", "HasLoops"] : List PySem.Str) ++ (["BadCode", "HasSource", "NotOfNet", "NotDriven", "NotAFile", "BadPromise", "Broken", "NotMade", "NothingToUndo", "NothingToRedo", "_law_pen", "_law_draw", "_law_pick", "_law_alone", "_law_more", "_law_kinds", "_law_apart", "_law_raise", "_law_caught"] : List PySem.Str)
theorem run (w : World) : HandSHeadRun.RunEq R (PySem.W.view R.prog [41]) hk ob 8000 loose w := by
  intro os
  kernel_rfl
end My
set_option Elab.async false
set_option linter.all false
set_option maxRecDepth 100000
set_option maxHeartbeats 0
namespace My
open PySem PySem.Spec PyProof.Rows L2 VL NdefX
section
variable {P : Program} {w : World} {K : PySem.W.Frag} {h : Heap} {mg : Str → Option Value} {base : Heap}
theorem says_of (c : obsV fa fn xs tst K = valV0 fn xs) : He.SaysD fa fn K ∧ (∀ (i : Nat) (d : XD), xs[i]? = some d → d.obs K = d.val) ∧ tst K = true := by
  refine ⟨congrArg (fun z : AlV => z.1) c, fun i d hd => ?_, congrArg (fun z : AlV => z.2.2) c⟩
  have e : xs.map (XD.obs K) = xs.map XD.val := congrArg (fun z : AlV => z.2.1) c
  have e2 : (xs.map (XD.obs K))[i]? = (xs.map XD.val)[i]? := by rw [e]
  rw [List.getElem?_map, List.getElem?_map, hd] at e2
  exact Option.some.inj e2
theorem xok (X : K.In h) (G : h.Ns mainGlobals mg) (c : obsV fa fn xs tst K = valV0 fn xs) (hP : P = prg) {i : Nat} {d : XD} (hd : xs[i]? = some d) : XOk P K mg d := by
  subst hP
  obtain ⟨_, c2, c3⟩ := says_of c
  unfold tst at c3
  obtain ⟨t1, c3⟩ := Bool.and_eq_true_iff.mp c3
  obtain ⟨t2, c3⟩ := Bool.and_eq_true_iff.mp c3
  obtain ⟨t3, c3⟩ := Bool.and_eq_true_iff.mp c3
  obtain ⟨a, b⟩ := Bool.and_eq_true_iff.mp (List.all_eq_true.mp t3 d (List.mem_of_getElem? hd))
  exact XD.facts X G (c2 i d hd) a b (beq_self_eq_true _) (of_decide_eq_true t1) (of_decide_eq_true t2) (by decide +kernel)
theorem v_BadValue (X : K.In h) (G : h.Ns mainGlobals mg) (c : obsV fa fn xs tst K = valV0 fn xs) (hP : P = prg) : VEx P w K mg base 1 "BadValue" ["value"] ["self", "value"] (initSt 0) :=
  vex1 (d := ⟨"BadValue", "BadValue.__init__", initSt 0, ["value"]⟩) (xok X G c hP (i := 0) rfl) rfl (nscope_by (by decide +kernel)) rfl rfl rfl rfl (by intro cc c f A outer s H E; exact ⟨_, rfl⟩)
theorem v_NotAText (X : K.In h) (G : h.Ns mainGlobals mg) (c : obsV fa fn xs tst K = valV0 fn xs) (hP : P = prg) : VEx P w K mg base 1 "NotAText" ["at"] ["self", "at"] (initSt 3) :=
  vex1 (d := ⟨"NotAText", "NotAText.__init__", initSt 3, ["at"]⟩) (xok X G c hP (i := 1) rfl) rfl (nscope_by (by decide +kernel)) rfl rfl rfl rfl (by intro cc c f A outer s H E; exact ⟨_, rfl⟩)
theorem v_NoGiver (X : K.In h) (G : h.Ns mainGlobals mg) (c : obsV fa fn xs tst K = valV0 fn xs) (hP : P = prg) : VEx P w K mg base 1 "NoGiver" ["name"] ["self", "name"] (initSt 4) :=
  vex1 (d := ⟨"NoGiver", "NoGiver.__init__", initSt 4, ["name"]⟩) (xok X G c hP (i := 2) rfl) rfl (nscope_by (by decide +kernel)) rfl rfl rfl rfl (by intro cc c f A outer s H E; exact ⟨_, rfl⟩)
theorem v_TwoGivers (X : K.In h) (G : h.Ns mainGlobals mg) (c : obsV fa fn xs tst K = valV0 fn xs) (hP : P = prg) : VEx P w K mg base 1 "TwoGivers" ["name"] ["self", "name"] (initSt 5) :=
  vex1 (d := ⟨"TwoGivers", "TwoGivers.__init__", initSt 5, ["name"]⟩) (xok X G c hP (i := 3) rfl) rfl (nscope_by (by decide +kernel)) rfl rfl rfl rfl (by intro cc c f A outer s H E; exact ⟨_, rfl⟩)
theorem v_Unknown (X : K.In h) (G : h.Ns mainGlobals mg) (c : obsV fa fn xs tst K = valV0 fn xs) (hP : P = prg) : VEx P w K mg base 1 "Unknown" ["name"] ["self", "name"] (initSt 6) :=
  vex1 (d := ⟨"Unknown", "Unknown.__init__", initSt 6, ["name"]⟩) (xok X G c hP (i := 4) rfl) rfl (nscope_by (by decide +kernel)) rfl rfl rfl rfl (by intro cc c f A outer s H E; exact ⟨_, rfl⟩)
theorem v_Taken (X : K.In h) (G : h.Ns mainGlobals mg) (c : obsV fa fn xs tst K = valV0 fn xs) (hP : P = prg) : VEx P w K mg base 1 "Taken" ["name"] ["self", "name"] (initSt 7) :=
  vex1 (d := ⟨"Taken", "Taken.__init__", initSt 7, ["name"]⟩) (xok X G c hP (i := 5) rfl) rfl (nscope_by (by decide +kernel)) rfl rfl rfl rfl (by intro cc c f A outer s H E; exact ⟨_, rfl⟩)
theorem v_Apart (X : K.In h) (G : h.Ns mainGlobals mg) (c : obsV fa fn xs tst K = valV0 fn xs) (hP : P = prg) : VEx P w K mg base 1 "Apart" ["name"] ["self", "name"] (initSt 8) :=
  vex1 (d := ⟨"Apart", "Apart.__init__", initSt 8, ["name"]⟩) (xok X G c hP (i := 6) rfl) rfl (nscope_by (by decide +kernel)) rfl rfl rfl rfl (by intro cc c f A outer s H E; exact ⟨_, rfl⟩)
theorem v_Within (X : K.In h) (G : h.Ns mainGlobals mg) (c : obsV fa fn xs tst K = valV0 fn xs) (hP : P = prg) : VEx P w K mg base 1 "Within" ["name"] ["self", "name"] (initSt 9) :=
  vex1 (d := ⟨"Within", "Within.__init__", initSt 9, ["name"]⟩) (xok X G c hP (i := 7) rfl) rfl (nscope_by (by decide +kernel)) rfl rfl rfl rfl (by intro cc c f A outer s H E; exact ⟨_, rfl⟩)
theorem v_Unpaced (X : K.In h) (G : h.Ns mainGlobals mg) (c : obsV fa fn xs tst K = valV0 fn xs) (hP : P = prg) : VEx P w K mg base 1 "Unpaced" ["at"] ["self", "at"] (initSt 10) :=
  vex1 (d := ⟨"Unpaced", "Unpaced.__init__", initSt 10, ["at"]⟩) (xok X G c hP (i := 8) rfl) rfl (nscope_by (by decide +kernel)) rfl rfl rfl rfl (by intro cc c f A outer s H E; exact ⟨_, rfl⟩)
theorem v_TooMany (X : K.In h) (G : h.Ns mainGlobals mg) (c : obsV fa fn xs tst K = valV0 fn xs) (hP : P = prg) : VEx P w K mg base 1 "TooMany" ["most"] ["self", "most"] (initSt 11) :=
  vex1 (d := ⟨"TooMany", "TooMany.__init__", initSt 11, ["most"]⟩) (xok X G c hP (i := 9) rfl) rfl (nscope_by (by decide +kernel)) rfl rfl rfl rfl (by intro cc c f A outer s H E; exact ⟨_, rfl⟩)
theorem v_CannotStep (X : K.In h) (G : h.Ns mainGlobals mg) (c : obsV fa fn xs tst K = valV0 fn xs) (hP : P = prg) : VEx P w K mg base 1 "CannotStep" ["box"] ["self", "box"] (initSt 13) :=
  vex1 (d := ⟨"CannotStep", "CannotStep.__init__", initSt 13, ["box"]⟩) (xok X G c hP (i := 10) rfl) rfl (nscope_by (by decide +kernel)) rfl rfl rfl rfl (by intro cc c f A outer s H E; exact ⟨_, rfl⟩)
theorem v_BadCode (X : K.In h) (G : h.Ns mainGlobals mg) (c : obsV fa fn xs tst K = valV0 fn xs) (hP : P = prg) : VEx P w K mg base 1 "BadCode" ["at"] ["self", "at"] (initSt 19) :=
  vex1 (d := ⟨"BadCode", "BadCode.__init__", initSt 19, ["at"]⟩) (xok X G c hP (i := 11) rfl) rfl (nscope_by (by decide +kernel)) rfl rfl rfl rfl (by intro cc c f A outer s H E; exact ⟨_, rfl⟩)
theorem v_HasSource (X : K.In h) (G : h.Ns mainGlobals mg) (c : obsV fa fn xs tst K = valV0 fn xs) (hP : P = prg) : VEx P w K mg base 1 "HasSource" ["name"] ["self", "name"] (initSt 20) :=
  vex1 (d := ⟨"HasSource", "HasSource.__init__", initSt 20, ["name"]⟩) (xok X G c hP (i := 12) rfl) rfl (nscope_by (by decide +kernel)) rfl rfl rfl rfl (by intro cc c f A outer s H E; exact ⟨_, rfl⟩)
theorem v_NotAFile (X : K.In h) (G : h.Ns mainGlobals mg) (c : obsV fa fn xs tst K = valV0 fn xs) (hP : P = prg) : VEx P w K mg base 1 "NotAFile" ["line", "at"] ["self", "line", "at"] (initSt 23) :=
  vex2 (d := ⟨"NotAFile", "NotAFile.__init__", initSt 23, ["line", "at"]⟩) (xok X G c hP (i := 13) rfl) rfl (nscope_by (by decide +kernel)) rfl rfl rfl rfl (by intro cc c f A outer s H E; exact ⟨_, rfl⟩)
theorem v_BadPromise (X : K.In h) (G : h.Ns mainGlobals mg) (c : obsV fa fn xs tst K = valV0 fn xs) (hP : P = prg) : VEx P w K mg base 1 "BadPromise" ["promise"] ["self", "promise"] (initSt 24) :=
  vex1 (d := ⟨"BadPromise", "BadPromise.__init__", initSt 24, ["promise"]⟩) (xok X G c hP (i := 14) rfl) rfl (nscope_by (by decide +kernel)) rfl rfl rfl rfl (by intro cc c f A outer s H E; exact ⟨_, rfl⟩)
theorem v_Broken (X : K.In h) (G : h.Ns mainGlobals mg) (c : obsV fa fn xs tst K = valV0 fn xs) (hP : P = prg) : VEx P w K mg base 1 "Broken" ["promise", "paper"] ["self", "promise", "paper"] (initSt 25) :=
  vex2 (d := ⟨"Broken", "Broken.__init__", initSt 25, ["promise", "paper"]⟩) (xok X G c hP (i := 15) rfl) rfl (nscope_by (by decide +kernel)) rfl rfl rfl rfl (by intro cc c f A outer s H E; exact ⟨_, rfl⟩)
theorem v_NotMade (X : K.In h) (G : h.Ns mainGlobals mg) (c : obsV fa fn xs tst K = valV0 fn xs) (hP : P = prg) : VEx P w K mg base 1 "NotMade" ["promise"] ["self", "promise"] (initSt 26) :=
  vex1 (d := ⟨"NotMade", "NotMade.__init__", initSt 26, ["promise"]⟩) (xok X G c hP (i := 16) rfl) rfl (nscope_by (by decide +kernel)) rfl rfl rfl rfl (by intro cc c f A outer s H E; exact ⟨_, rfl⟩)
theorem fx (X : K.In h) (G : h.Ns mainGlobals mg) (c : obsV fa fn xs tst K = valV0 fn xs) (hP : P = prg) : Fx P w K mg base := by
  obtain ⟨c1, c2, c3⟩ := says_of c
  unfold tst at c3
  obtain ⟨t1, c3⟩ := Bool.and_eq_true_iff.mp c3
  obtain ⟨t2, c3⟩ := Bool.and_eq_true_iff.mp c3
  obtain ⟨t3, c3⟩ := Bool.and_eq_true_iff.mp c3
  obtain ⟨t4, c3⟩ := Bool.and_eq_true_iff.mp c3
  obtain ⟨t5, t6⟩ := Bool.and_eq_true_iff.mp c3
  refine ⟨⟨fun i => He.ga K (nm.getD i ""), He.ga K "StreamError", He.glo_ok X G (c1.fact 39 (f := .glo "StreamError") rfl), fun i n hi => ?_⟩, ?_, ?_, ?_, He.free_ok X G (c1.fact 52 (f := .free "isinstance") rfl), He.free_ok X G (c1.fact 53 (f := .free "ValueError") rfl), He.free_ok X G (c1.fact 54 (f := .free "int") rfl), He.free_ok X G (c1.fact 55 (f := .free "len") rfl), He.free_ok X G (c1.fact 56 (f := .free "all") rfl), He.free_ok X G (c1.fact 57 (f := .free "range") rfl), He.free_ok X G (c1.fact 58 (f := .free "min") rfl), He.free_ok X G (c1.fact 59 (f := .free "list") rfl)⟩
  · have hi29 : i < 29 := (List.getElem?_eq_some_iff.mp hi).1
    have en : nm.getD i "" = n := by rw [List.getD_eq_getElem?_getD, hi]; rfl
    have hm : n ∈ nm := List.mem_of_getElem? hi
    have hg : mg n = some (.ref (He.ga K n)) := by
      have hf : fa[10 + i]? = some (.glo n) := by
        match i, hi, hi29 with
        | 0, hi, _ => rw [← Option.some.inj (show some _ = some n from hi)]; rfl
        | 1, hi, _ => rw [← Option.some.inj (show some _ = some n from hi)]; rfl
        | 2, hi, _ => rw [← Option.some.inj (show some _ = some n from hi)]; rfl
        | 3, hi, _ => rw [← Option.some.inj (show some _ = some n from hi)]; rfl
        | 4, hi, _ => rw [← Option.some.inj (show some _ = some n from hi)]; rfl
        | 5, hi, _ => rw [← Option.some.inj (show some _ = some n from hi)]; rfl
        | 6, hi, _ => rw [← Option.some.inj (show some _ = some n from hi)]; rfl
        | 7, hi, _ => rw [← Option.some.inj (show some _ = some n from hi)]; rfl
        | 8, hi, _ => rw [← Option.some.inj (show some _ = some n from hi)]; rfl
        | 9, hi, _ => rw [← Option.some.inj (show some _ = some n from hi)]; rfl
        | 10, hi, _ => rw [← Option.some.inj (show some _ = some n from hi)]; rfl
        | 11, hi, _ => rw [← Option.some.inj (show some _ = some n from hi)]; rfl
        | 12, hi, _ => rw [← Option.some.inj (show some _ = some n from hi)]; rfl
        | 13, hi, _ => rw [← Option.some.inj (show some _ = some n from hi)]; rfl
        | 14, hi, _ => rw [← Option.some.inj (show some _ = some n from hi)]; rfl
        | 15, hi, _ => rw [← Option.some.inj (show some _ = some n from hi)]; rfl
        | 16, hi, _ => rw [← Option.some.inj (show some _ = some n from hi)]; rfl
        | 17, hi, _ => rw [← Option.some.inj (show some _ = some n from hi)]; rfl
        | 18, hi, _ => rw [← Option.some.inj (show some _ = some n from hi)]; rfl
        | 19, hi, _ => rw [← Option.some.inj (show some _ = some n from hi)]; rfl
        | 20, hi, _ => rw [← Option.some.inj (show some _ = some n from hi)]; rfl
        | 21, hi, _ => rw [← Option.some.inj (show some _ = some n from hi)]; rfl
        | 22, hi, _ => rw [← Option.some.inj (show some _ = some n from hi)]; rfl
        | 23, hi, _ => rw [← Option.some.inj (show some _ = some n from hi)]; rfl
        | 24, hi, _ => rw [← Option.some.inj (show some _ = some n from hi)]; rfl
        | 25, hi, _ => rw [← Option.some.inj (show some _ = some n from hi)]; rfl
        | 26, hi, _ => rw [← Option.some.inj (show some _ = some n from hi)]; rfl
        | 27, hi, _ => rw [← Option.some.inj (show some _ = some n from hi)]; rfl
        | 28, hi, _ => rw [← Option.some.inj (show some _ = some n from hi)]; rfl
      exact He.glo_ok X G (c1.fact _ hf)
    obtain ⟨u1, u2⟩ := Bool.and_eq_true_iff.mp (List.all_eq_true.mp t6 n hm)
    obtain ⟨u3, u4⟩ := Bool.and_eq_true_iff.mp u2
    simp only [en]
    refine ⟨hg, excCB_ok (List.all_eq_true.mp t4 n hm), fun j hj => ?_, of_decide_eq_true u1, of_decide_eq_true u3, of_decide_eq_true u4⟩
    have q := of_decide_eq_true (List.all_eq_true.mp (List.all_eq_true.mp t5 i (List.mem_range.mpr hi29)) j (List.mem_range.mpr hj))
    rw [en] at q
    exact q
  · intro i n fl h1 h2 h3
    have hi29 : i < 29 := (List.getElem?_eq_some_iff.mp h1).1
    match i, h1, h2, hi29 with
    | 0, h1, h2, _ => rw [← Option.some.inj (show some _ = some n from h1), ← Option.some.inj (show some _ = some fl from h2)]; exact v_BadValue X G c hP
    | 1, h1, h2, _ => exact absurd (Option.some.inj (show some [] = some fl from h2)).symm h3
    | 2, h1, h2, _ => exact absurd (Option.some.inj (show some [] = some fl from h2)).symm h3
    | 3, h1, h2, _ => rw [← Option.some.inj (show some _ = some n from h1), ← Option.some.inj (show some _ = some fl from h2)]; exact v_NotAText X G c hP
    | 4, h1, h2, _ => rw [← Option.some.inj (show some _ = some n from h1), ← Option.some.inj (show some _ = some fl from h2)]; exact v_NoGiver X G c hP
    | 5, h1, h2, _ => rw [← Option.some.inj (show some _ = some n from h1), ← Option.some.inj (show some _ = some fl from h2)]; exact v_TwoGivers X G c hP
    | 6, h1, h2, _ => rw [← Option.some.inj (show some _ = some n from h1), ← Option.some.inj (show some _ = some fl from h2)]; exact v_Unknown X G c hP
    | 7, h1, h2, _ => rw [← Option.some.inj (show some _ = some n from h1), ← Option.some.inj (show some _ = some fl from h2)]; exact v_Taken X G c hP
    | 8, h1, h2, _ => rw [← Option.some.inj (show some _ = some n from h1), ← Option.some.inj (show some _ = some fl from h2)]; exact v_Apart X G c hP
    | 9, h1, h2, _ => rw [← Option.some.inj (show some _ = some n from h1), ← Option.some.inj (show some _ = some fl from h2)]; exact v_Within X G c hP
    | 10, h1, h2, _ => rw [← Option.some.inj (show some _ = some n from h1), ← Option.some.inj (show some _ = some fl from h2)]; exact v_Unpaced X G c hP
    | 11, h1, h2, _ => rw [← Option.some.inj (show some _ = some n from h1), ← Option.some.inj (show some _ = some fl from h2)]; exact v_TooMany X G c hP
    | 12, h1, h2, _ => exact absurd (Option.some.inj (show some [] = some fl from h2)).symm h3
    | 13, h1, h2, _ => rw [← Option.some.inj (show some _ = some n from h1), ← Option.some.inj (show some _ = some fl from h2)]; exact v_CannotStep X G c hP
    | 14, h1, h2, _ => exact absurd (Option.some.inj (show some [] = some fl from h2)).symm h3
    | 15, h1, h2, _ => exact absurd (Option.some.inj (show some [] = some fl from h2)).symm h3
    | 16, h1, h2, _ => exact absurd (Option.some.inj (show some [] = some fl from h2)).symm h3
    | 17, h1, h2, _ => exact absurd (Option.some.inj (show some [] = some fl from h2)).symm h3
    | 18, h1, h2, _ => exact absurd (Option.some.inj (show some [] = some fl from h2)).symm h3
    | 19, h1, h2, _ => rw [← Option.some.inj (show some _ = some n from h1), ← Option.some.inj (show some _ = some fl from h2)]; exact v_BadCode X G c hP
    | 20, h1, h2, _ => rw [← Option.some.inj (show some _ = some n from h1), ← Option.some.inj (show some _ = some fl from h2)]; exact v_HasSource X G c hP
    | 21, h1, h2, _ => exact absurd (Option.some.inj (show some [] = some fl from h2)).symm h3
    | 22, h1, h2, _ => exact absurd (Option.some.inj (show some [] = some fl from h2)).symm h3
    | 23, h1, h2, _ => rw [← Option.some.inj (show some _ = some n from h1), ← Option.some.inj (show some _ = some fl from h2)]; exact v_NotAFile X G c hP
    | 24, h1, h2, _ => rw [← Option.some.inj (show some _ = some n from h1), ← Option.some.inj (show some _ = some fl from h2)]; exact v_BadPromise X G c hP
    | 25, h1, h2, _ => rw [← Option.some.inj (show some _ = some n from h1), ← Option.some.inj (show some _ = some fl from h2)]; exact v_Broken X G c hP
    | 26, h1, h2, _ => rw [← Option.some.inj (show some _ = some n from h1), ← Option.some.inj (show some _ = some fl from h2)]; exact v_NotMade X G c hP
    | 27, h1, h2, _ => exact absurd (Option.some.inj (show some [] = some fl from h2)).symm h3
    | 28, h1, h2, _ => exact absurd (Option.some.inj (show some [] = some fl from h2)).symm h3
  · intro i n h1 h2
    have hi29 : i < 29 := (List.getElem?_eq_some_iff.mp h1).1
    match i, h1, h2, hi29 with
    | 0, h1, h2, _ => exact absurd (Option.some.inj (show some (["value"] : List Str) = some [] from h2)) (by simp)
    | 1, h1, h2, _ =>
      rw [← Option.some.inj (show some _ = some n from h1)]
      obtain ⟨e1, e2, e3, e4⟩ := He.exc_ok (c1.fact 40 (f := .exc "NoDivisor") rfl)
      exact ⟨_, He.glo_ok X G (c1.fact 11 (f := .glo "NoDivisor") rfl), e1, e2, e3, e4⟩
    | 2, h1, h2, _ =>
      rw [← Option.some.inj (show some _ = some n from h1)]
      obtain ⟨e1, e2, e3, e4⟩ := He.exc_ok (c1.fact 41 (f := .exc "AtNought") rfl)
      exact ⟨_, He.glo_ok X G (c1.fact 12 (f := .glo "AtNought") rfl), e1, e2, e3, e4⟩
    | 3, h1, h2, _ => exact absurd (Option.some.inj (show some (["at"] : List Str) = some [] from h2)) (by simp)
    | 4, h1, h2, _ => exact absurd (Option.some.inj (show some (["name"] : List Str) = some [] from h2)) (by simp)
    | 5, h1, h2, _ => exact absurd (Option.some.inj (show some (["name"] : List Str) = some [] from h2)) (by simp)
    | 6, h1, h2, _ => exact absurd (Option.some.inj (show some (["name"] : List Str) = some [] from h2)) (by simp)
    | 7, h1, h2, _ => exact absurd (Option.some.inj (show some (["name"] : List Str) = some [] from h2)) (by simp)
    | 8, h1, h2, _ => exact absurd (Option.some.inj (show some (["name"] : List Str) = some [] from h2)) (by simp)
    | 9, h1, h2, _ => exact absurd (Option.some.inj (show some (["name"] : List Str) = some [] from h2)) (by simp)
    | 10, h1, h2, _ => exact absurd (Option.some.inj (show some (["at"] : List Str) = some [] from h2)) (by simp)
    | 11, h1, h2, _ => exact absurd (Option.some.inj (show some (["most"] : List Str) = some [] from h2)) (by simp)
    | 12, h1, h2, _ =>
      rw [← Option.some.inj (show some _ = some n from h1)]
      obtain ⟨e1, e2, e3, e4⟩ := He.exc_ok (c1.fact 42 (f := .exc "StandsStill") rfl)
      exact ⟨_, He.glo_ok X G (c1.fact 22 (f := .glo "StandsStill") rfl), e1, e2, e3, e4⟩
    | 13, h1, h2, _ => exact absurd (Option.some.inj (show some (["box"] : List Str) = some [] from h2)) (by simp)
    | 14, h1, h2, _ =>
      rw [← Option.some.inj (show some _ = some n from h1)]
      obtain ⟨e1, e2, e3, e4⟩ := He.exc_ok (c1.fact 43 (f := .exc "Unlike") rfl)
      exact ⟨_, He.glo_ok X G (c1.fact 24 (f := .glo "Unlike") rfl), e1, e2, e3, e4⟩
    | 15, h1, h2, _ =>
      rw [← Option.some.inj (show some _ = some n from h1)]
      obtain ⟨e1, e2, e3, e4⟩ := He.exc_ok (c1.fact 44 (f := .exc "Singular") rfl)
      exact ⟨_, He.glo_ok X G (c1.fact 25 (f := .glo "Singular") rfl), e1, e2, e3, e4⟩
    | 16, h1, h2, _ =>
      rw [← Option.some.inj (show some _ = some n from h1)]
      obtain ⟨e1, e2, e3, e4⟩ := He.exc_ok (c1.fact 45 (f := .exc "NotSquare") rfl)
      exact ⟨_, He.glo_ok X G (c1.fact 26 (f := .glo "NotSquare") rfl), e1, e2, e3, e4⟩
    | 17, h1, h2, _ =>
      rw [← Option.some.inj (show some _ = some n from h1)]
      obtain ⟨e1, e2, e3, e4⟩ := He.exc_ok (c1.fact 46 (f := .exc "NotUndone") rfl)
      exact ⟨_, He.glo_ok X G (c1.fact 27 (f := .glo "NotUndone") rfl), e1, e2, e3, e4⟩
    | 18, h1, h2, _ =>
      rw [← Option.some.inj (show some _ = some n from h1)]
      obtain ⟨e1, e2, e3, e4⟩ := He.exc_ok (c1.fact 47 (f := .exc "HasLoops") rfl)
      exact ⟨_, He.glo_ok X G (c1.fact 28 (f := .glo "HasLoops") rfl), e1, e2, e3, e4⟩
    | 19, h1, h2, _ => exact absurd (Option.some.inj (show some (["at"] : List Str) = some [] from h2)) (by simp)
    | 20, h1, h2, _ => exact absurd (Option.some.inj (show some (["name"] : List Str) = some [] from h2)) (by simp)
    | 21, h1, h2, _ =>
      rw [← Option.some.inj (show some _ = some n from h1)]
      obtain ⟨e1, e2, e3, e4⟩ := He.exc_ok (c1.fact 48 (f := .exc "NotOfNet") rfl)
      exact ⟨_, He.glo_ok X G (c1.fact 31 (f := .glo "NotOfNet") rfl), e1, e2, e3, e4⟩
    | 22, h1, h2, _ =>
      rw [← Option.some.inj (show some _ = some n from h1)]
      obtain ⟨e1, e2, e3, e4⟩ := He.exc_ok (c1.fact 49 (f := .exc "NotDriven") rfl)
      exact ⟨_, He.glo_ok X G (c1.fact 32 (f := .glo "NotDriven") rfl), e1, e2, e3, e4⟩
    | 23, h1, h2, _ => exact absurd (Option.some.inj (show some (["line", "at"] : List Str) = some [] from h2)) (by simp)
    | 24, h1, h2, _ => exact absurd (Option.some.inj (show some (["promise"] : List Str) = some [] from h2)) (by simp)
    | 25, h1, h2, _ => exact absurd (Option.some.inj (show some (["promise", "paper"] : List Str) = some [] from h2)) (by simp)
    | 26, h1, h2, _ => exact absurd (Option.some.inj (show some (["promise"] : List Str) = some [] from h2)) (by simp)
    | 27, h1, h2, _ =>
      rw [← Option.some.inj (show some _ = some n from h1)]
      obtain ⟨e1, e2, e3, e4⟩ := He.exc_ok (c1.fact 50 (f := .exc "NothingToUndo") rfl)
      exact ⟨_, He.glo_ok X G (c1.fact 37 (f := .glo "NothingToUndo") rfl), e1, e2, e3, e4⟩
    | 28, h1, h2, _ =>
      rw [← Option.some.inj (show some _ = some n from h1)]
      obtain ⟨e1, e2, e3, e4⟩ := He.exc_ok (c1.fact 51 (f := .exc "NothingToRedo") rfl)
      exact ⟨_, He.glo_ok X G (c1.fact 38 (f := .glo "NothingToRedo") rfl), e1, e2, e3, e4⟩
  · intro i n fl f h1 h2 h3
    have hi29 : i < 29 := (List.getElem?_eq_some_iff.mp h1).1
    match i, h1, h2, hi29 with
    | 0, h1, h2, _ => rw [← Option.some.inj (show some _ = some n from h1)]; rw [← Option.some.inj (show some _ = some fl from h2)] at h3; exact XOk.xf (d := ⟨"BadValue", "BadValue.__init__", initSt 0, ["value"]⟩) (xok X G c hP (i := 0) rfl) h3
    | 1, h1, h2, _ => rw [← Option.some.inj (show some [] = some fl from h2)] at h3; cases h3
    | 2, h1, h2, _ => rw [← Option.some.inj (show some [] = some fl from h2)] at h3; cases h3
    | 3, h1, h2, _ => rw [← Option.some.inj (show some _ = some n from h1)]; rw [← Option.some.inj (show some _ = some fl from h2)] at h3; exact XOk.xf (d := ⟨"NotAText", "NotAText.__init__", initSt 3, ["at"]⟩) (xok X G c hP (i := 1) rfl) h3
    | 4, h1, h2, _ => rw [← Option.some.inj (show some _ = some n from h1)]; rw [← Option.some.inj (show some _ = some fl from h2)] at h3; exact XOk.xf (d := ⟨"NoGiver", "NoGiver.__init__", initSt 4, ["name"]⟩) (xok X G c hP (i := 2) rfl) h3
    | 5, h1, h2, _ => rw [← Option.some.inj (show some _ = some n from h1)]; rw [← Option.some.inj (show some _ = some fl from h2)] at h3; exact XOk.xf (d := ⟨"TwoGivers", "TwoGivers.__init__", initSt 5, ["name"]⟩) (xok X G c hP (i := 3) rfl) h3
    | 6, h1, h2, _ => rw [← Option.some.inj (show some _ = some n from h1)]; rw [← Option.some.inj (show some _ = some fl from h2)] at h3; exact XOk.xf (d := ⟨"Unknown", "Unknown.__init__", initSt 6, ["name"]⟩) (xok X G c hP (i := 4) rfl) h3
    | 7, h1, h2, _ => rw [← Option.some.inj (show some _ = some n from h1)]; rw [← Option.some.inj (show some _ = some fl from h2)] at h3; exact XOk.xf (d := ⟨"Taken", "Taken.__init__", initSt 7, ["name"]⟩) (xok X G c hP (i := 5) rfl) h3
    | 8, h1, h2, _ => rw [← Option.some.inj (show some _ = some n from h1)]; rw [← Option.some.inj (show some _ = some fl from h2)] at h3; exact XOk.xf (d := ⟨"Apart", "Apart.__init__", initSt 8, ["name"]⟩) (xok X G c hP (i := 6) rfl) h3
    | 9, h1, h2, _ => rw [← Option.some.inj (show some _ = some n from h1)]; rw [← Option.some.inj (show some _ = some fl from h2)] at h3; exact XOk.xf (d := ⟨"Within", "Within.__init__", initSt 9, ["name"]⟩) (xok X G c hP (i := 7) rfl) h3
    | 10, h1, h2, _ => rw [← Option.some.inj (show some _ = some n from h1)]; rw [← Option.some.inj (show some _ = some fl from h2)] at h3; exact XOk.xf (d := ⟨"Unpaced", "Unpaced.__init__", initSt 10, ["at"]⟩) (xok X G c hP (i := 8) rfl) h3
    | 11, h1, h2, _ => rw [← Option.some.inj (show some _ = some n from h1)]; rw [← Option.some.inj (show some _ = some fl from h2)] at h3; exact XOk.xf (d := ⟨"TooMany", "TooMany.__init__", initSt 11, ["most"]⟩) (xok X G c hP (i := 9) rfl) h3
    | 12, h1, h2, _ => rw [← Option.some.inj (show some [] = some fl from h2)] at h3; cases h3
    | 13, h1, h2, _ => rw [← Option.some.inj (show some _ = some n from h1)]; rw [← Option.some.inj (show some _ = some fl from h2)] at h3; exact XOk.xf (d := ⟨"CannotStep", "CannotStep.__init__", initSt 13, ["box"]⟩) (xok X G c hP (i := 10) rfl) h3
    | 14, h1, h2, _ => rw [← Option.some.inj (show some [] = some fl from h2)] at h3; cases h3
    | 15, h1, h2, _ => rw [← Option.some.inj (show some [] = some fl from h2)] at h3; cases h3
    | 16, h1, h2, _ => rw [← Option.some.inj (show some [] = some fl from h2)] at h3; cases h3
    | 17, h1, h2, _ => rw [← Option.some.inj (show some [] = some fl from h2)] at h3; cases h3
    | 18, h1, h2, _ => rw [← Option.some.inj (show some [] = some fl from h2)] at h3; cases h3
    | 19, h1, h2, _ => rw [← Option.some.inj (show some _ = some n from h1)]; rw [← Option.some.inj (show some _ = some fl from h2)] at h3; exact XOk.xf (d := ⟨"BadCode", "BadCode.__init__", initSt 19, ["at"]⟩) (xok X G c hP (i := 11) rfl) h3
    | 20, h1, h2, _ => rw [← Option.some.inj (show some _ = some n from h1)]; rw [← Option.some.inj (show some _ = some fl from h2)] at h3; exact XOk.xf (d := ⟨"HasSource", "HasSource.__init__", initSt 20, ["name"]⟩) (xok X G c hP (i := 12) rfl) h3
    | 21, h1, h2, _ => rw [← Option.some.inj (show some [] = some fl from h2)] at h3; cases h3
    | 22, h1, h2, _ => rw [← Option.some.inj (show some [] = some fl from h2)] at h3; cases h3
    | 23, h1, h2, _ => rw [← Option.some.inj (show some _ = some n from h1)]; rw [← Option.some.inj (show some _ = some fl from h2)] at h3; exact XOk.xf (d := ⟨"NotAFile", "NotAFile.__init__", initSt 23, ["line", "at"]⟩) (xok X G c hP (i := 13) rfl) h3
    | 24, h1, h2, _ => rw [← Option.some.inj (show some _ = some n from h1)]; rw [← Option.some.inj (show some _ = some fl from h2)] at h3; exact XOk.xf (d := ⟨"BadPromise", "BadPromise.__init__", initSt 24, ["promise"]⟩) (xok X G c hP (i := 14) rfl) h3
    | 25, h1, h2, _ => rw [← Option.some.inj (show some _ = some n from h1)]; rw [← Option.some.inj (show some _ = some fl from h2)] at h3; exact XOk.xf (d := ⟨"Broken", "Broken.__init__", initSt 25, ["promise", "paper"]⟩) (xok X G c hP (i := 15) rfl) h3
    | 26, h1, h2, _ => rw [← Option.some.inj (show some _ = some n from h1)]; rw [← Option.some.inj (show some _ = some fl from h2)] at h3; exact XOk.xf (d := ⟨"NotMade", "NotMade.__init__", initSt 26, ["promise"]⟩) (xok X G c hP (i := 16) rfl) h3
    | 27, h1, h2, _ => rw [← Option.some.inj (show some [] = some fl from h2)] at h3; cases h3
    | 28, h1, h2, _ => rw [← Option.some.inj (show some [] = some fl from h2)] at h3; cases h3
theorem law_ok (X : K.In h) (G : h.Ns mainGlobals mg) (c : obsV fa fn xs tst K = valV0 fn xs) (hP : P = prg) : ∃ fd : FuncData, (∀ (s : Shared) (v : Value), BindsTo s fd ⟨[v], []⟩ [("_law_script", v)]) ∧ ∀ base : Heap, K.In base → base.Ns mainGlobals mg → FnOk P w K mg base (L2.CX P w) 5 (He.ga K "law") fd ["_law_script"] (spV "stop" "rest" K mg ctLaw) := by
  obtain ⟨c1, c2, c3⟩ := says_of c
  obtain ⟨fd0, F0⟩ := c1.def_ 0 (d := dF "_law_pen" 32) rfl
  have g0 : mg "_law_pen" = some (.ref (He.ga K "_law_pen")) := He.glo_ok X G (c1.fact 0 (f := .glo "_law_pen") rfl)
  obtain ⟨fd1, F1⟩ := c1.def_ 1 (d := dF "_law_draw" 33) rfl
  have g1 : mg "_law_draw" = some (.ref (He.ga K "_law_draw")) := He.glo_ok X G (c1.fact 1 (f := .glo "_law_draw") rfl)
  obtain ⟨fd2, F2⟩ := c1.def_ 2 (d := dF "_law_pick" 34) rfl
  have g2 : mg "_law_pick" = some (.ref (He.ga K "_law_pick")) := He.glo_ok X G (c1.fact 2 (f := .glo "_law_pick") rfl)
  obtain ⟨fd3, F3⟩ := c1.def_ 3 (d := dF "_law_alone" 35) rfl
  have g3 : mg "_law_alone" = some (.ref (He.ga K "_law_alone")) := He.glo_ok X G (c1.fact 3 (f := .glo "_law_alone") rfl)
  obtain ⟨fd4, F4⟩ := c1.def_ 4 (d := dF "_law_more" 36) rfl
  have g4 : mg "_law_more" = some (.ref (He.ga K "_law_more")) := He.glo_ok X G (c1.fact 4 (f := .glo "_law_more") rfl)
  obtain ⟨fd5, F5⟩ := c1.def_ 5 (d := dF "_law_kinds" 37) rfl
  have g5 : mg "_law_kinds" = some (.ref (He.ga K "_law_kinds")) := He.glo_ok X G (c1.fact 5 (f := .glo "_law_kinds") rfl)
  obtain ⟨fd6, F6⟩ := c1.def_ 6 (d := dF "_law_apart" 38) rfl
  have g6 : mg "_law_apart" = some (.ref (He.ga K "_law_apart")) := He.glo_ok X G (c1.fact 6 (f := .glo "_law_apart") rfl)
  obtain ⟨fd7, F7⟩ := c1.def_ 7 (d := dF "_law_raise" 39) rfl
  have g7 : mg "_law_raise" = some (.ref (He.ga K "_law_raise")) := He.glo_ok X G (c1.fact 7 (f := .glo "_law_raise") rfl)
  obtain ⟨fd8, F8⟩ := c1.def_ 8 (d := dF "_law_caught" 40) rfl
  have g8 : mg "_law_caught" = some (.ref (He.ga K "_law_caught")) := He.glo_ok X G (c1.fact 8 (f := .glo "_law_caught") rfl)
  obtain ⟨fd9, F9⟩ := c1.def_ 9 (d := dF "law" 41) rfl
  have g9 : mg "law" = some (.ref (He.ga K "law")) := He.glo_ok X G (c1.fact 9 (f := .glo "law") rfl)
  refine ⟨fd9, fun s v => FunD.bindsA (ps := ["_law_script"]) F9 (fun _ _ _ _ _ _ us hl => match us, hl with | [_], _ => rfl) s [v] rfl, fun base XB GB => ?_⟩
  have Z : Fx P w K mg base := fx X G c hP
  have V0 : VPen P w K mg base "stop" "rest" 1 "_law_pen" := ⟨_, _, ["_law_script"], fn_pen (nb := "stop") (nl := "rest") (st := top 32) F0 ⟨rfl, rfl, rfl, by decide +kernel, rfl, by decide +kernel, by decide +kernel⟩ (by decide) (by decide) (by decide) Z.mList rfl rfl rfl, g0, F0.kp, (F0.bindsN fun _ _ _ _ _ _ us hl => match us, hl with | [_], _ => rfl)⟩
  have V1 := vfn F1 (fn_draw (w := w) (P := P) (mg := mg) (base := base) F1 Z.mInt Z.mLen) g1 (F1.bindsN fun _ _ _ _ _ _ us hl => match us, hl with | [_, _], _ => rfl)
  have V2 := vfn F2 (fn_pick (w := w) (P := P) (mg := mg) (base := base) F2 Z.mLen V1) g2 (F2.bindsN fun _ _ _ _ _ _ us hl => match us, hl with | [_, _], _ => rfl)
  have V3 := vfn F3 (fn_alone F3 Z) g3 (F3.bindsN fun _ _ _ _ _ _ us hl => match us, hl with | [_], _ => rfl)
  have V4 := vfn F4 (fn_more F4 Z) g4 (F4.bindsN fun _ _ _ _ _ _ us hl => match us, hl with | [_, _], _ => rfl)
  have V5 := vfn F5 (fn_kinds F5 Z) g5 (F5.bindsN fun _ _ _ _ _ _ us hl => match us, hl with | [_], _ => rfl)
  have V6 := vfn F6 (fn_apart F6 Z V5) g6 (F6.bindsN fun _ _ _ _ _ _ us hl => match us, hl with | [_, _], _ => rfl)
  have V7 := vfn F7 (fn_raise F7 Z) g7 (F7.bindsN fun _ _ _ _ _ _ us hl => match us, hl with | [_, _], _ => rfl)
  have V8 := vfn F8 (fn_caught F8 Z V7) g8 (F8.bindsN fun _ _ _ _ _ _ us hl => match us, hl with | [_, _], _ => rfl)
  exact fn_law F9 Z (He.free_ok X G (c1.fact 60 (f := .free "bool") rfl)) V0 V2 V3 V4 V6 V8
end
end My
open PySem PySem.W PySem.Calls PyProof.Rows
theorem PySem.Challenge.cw_allstreams_k00_errors_made_by_hand_holds : PySem.Challenge.rw_allstreams_k00_errors_made_by_hand.Holds := by
  w_on; o_law
  refine HandSHeadRun.head_any (r := My.R) (q := view My.R.prog [41]) (H := My.hk) (ob := My.ob) (M := 8000) (loose := My.loose) (d := HandSHeadRun.topDef My.R.prog 41) (kwd := []) My.ob_eq
    (by kernel_rfl) (fun s => by kernel_rfl) My.run (by kernel_rfl) (by kernel_rfl) (by kernel_rfl) (by rfl) (by first | assumption | decide +kernel) (by decide +kernel) ⟨rfl, rfl, rfl, rfl, rfl, by decide +kernel⟩ ?hw ?hc
  case hw => w_witness2
  case hc =>
    refine My.walk_ofEB (l := PySem.Challenge.rw_allstreams_k00_errors_made_by_hand) (n := 63) (k := 5) (x := "_law_script") (CX := fun w => L2.CX PySem.Challenge.rw_allstreams_k00_errors_made_by_hand.prog w) rfl (by decide) (by kernel_rfl) ⟨rfl, by decide, by decide⟩ ?F (fun _ _ _ _ _ ⟨_, _, _, _, _, _, _, _, _, _, _, _, z⟩ => z)
    intro w mg fa h Y G hmg0
    obtain ⟨K, KX, c⟩ := Y
    have hmg : mg ("law" : PySem.Str) = some (.ref fa) := by
      have e : (HandSHeadRun.topDef My.R.prog 41).name = ("law" : PySem.Str) := by kernel_rfl
      rw [← e]
      exact hmg0
    have c1 := (My.says_of c).1
    have g9 : mg "law" = some (.ref (He.ga K "law")) := He.glo_ok KX G (c1.fact 9 (f := .glo "law") rfl)
    have ef : fa = He.ga K "law" := by rw [g9] at hmg; cases hmg; rfl
    subst ef
    obtain ⟨fd, hb, hF⟩ := My.law_ok (P := PySem.Challenge.rw_allstreams_k00_errors_made_by_hand.prog) (w := w) KX G c rfl
    refine ⟨K, fd, VL.spV "stop" "rest" K mg My.ctLaw, KX, hb, fun H a ns hl hbits hO hS => ?_, hF⟩
    refine ⟨H, [.scr (ns.map VL.D.int)], none, L2.Same.refl _, .cons (.scr hS (VL.Reps.ints _)) .nil, fun p r z => (by cases z), ns, rfl, rfl, fun x hx => My.bits_abs (hbits x hx), hl, fun v G' H' A r => ?_⟩
    cases r; rfl

