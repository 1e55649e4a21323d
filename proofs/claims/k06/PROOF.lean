import PyProof.Rows.All
import Wide.All
import OpenK.AllK
import Wide.FinOn
import HandS.ForMost
import HandS.ForExc
import HandS.CallSlots
import HandS.MakeKw
import HandS.Defaults
import HandS.ExcInit
import HandS.Lambda
import KE.KLam
import HandS.IsInst
import HandS.Wide
import KE.KExcSuper
import HandS.ExcValue
import HandS.ClsMeth
import HandS.Nested
import HandS.NestedK
import HandS.ExcField
import HandS.ExcIs
import HandS.TryMany
import KE.KEqSeq
import HandS.DictComp
import KE.KStateDown
import HandS.Head0
import HandS.Head1
import HandS.Head2
import HandS.HeadEnd
import HandS.HeadHook1
import HandS.HeadHook2
import HandS.DeepEq
import HandS.Style
import HandS.HeadHook4
import HandS.EndTab
import KE.KOpsOwn
import KE.KCallOwn
import HandS.FStr
import PySem.Challenge.RW_allstreams_k06_whole_divisions
import HandS.Rev
import HandS.TupAny
import KE.KEqNest
import PyProof.ListRange
set_option Elab.async false
set_option linter.all false
set_option maxRecDepth 100000
set_option maxHeartbeats 4000000
/-! VL0: values as data (D), how they stand in a heap (Rep), the state of a body by values, the frame of a call. -/
namespace VL
open PySem PySem.Spec PyProof.Rows L2

inductive D where
  | non | bl (b : Bool) | int (i : Int) | str (x : Str) | lst (xs : List D) | tup (xs : List D)
  | ins (c : Str) (ks : List Str) (ds : List D) | adr (a : Addr) | ty (n : String) | cref (x : Str) | scr (xs : List D) | dct (ks : List Key) (ds : List D)
  | exn (c : Str) (ks : List Str) (ds : List D) | cau (a d : Addr) (c : Str) (ks : List Str) (ds : List D)
  | lam (pr : Arguments) (b : Expr) (sc : Scope) (q : Str) (cl : List (Str × Addr)) | clo (pr : Arguments) (b : Expr) (sc : Scope) (q : Str) (cl : List (Str × Addr)) (ws : List D) | idn (a : Addr) (d : D)

/-- what is known of the pen: how many more cells may be begun, or all that is in it -/
inductive PenS where
  | bud (r : Nat) | ex (cells : List Int) (b l : Int)
abbrev Pn := Option (Addr × PenS)
def PenB (r : PenS) (cells : List Int) (b l : Int) : Prop := match r with
  | .bud r => cells.length ≤ 63 ∧ (∀ x ∈ cells, x.natAbs < 2 ^ 1048577) ∧ 0 ≤ b ∧ b + r ≤ 2 ^ 50 ∧ 0 ≤ l ∧ l.natAbs < 2 ^ 1048577
  | .ex cs b' l' => cells = cs ∧ b = b' ∧ l = l'
structure ExD where
  c : Str
  ks : List Str
  ds : List D
inductive Sl where
  | un | val (d : D) | own (ds : List D) | obj (a : Addr) (c : Str) (ks : List Str) (ds : List D)
def Sl.isOwn : Sl → Bool
  | .own _ => true
  | .obj _ _ _ _ => true
  | _ => false
structure State where
  ρ : List Sl
  pn : Pn
/-- the words of a law's pen, the tables of its lambdas' code objects -/
structure Cfg where
  nb : Str
  nl : Str
  tb : List (Addr × Str) := []
structure Cv where
  G0 : Hp
  H0 : Hp
  pa : Option Addr
  top : Bool
  cf : Cfg
  EV : ExD → State → Prop

/-- at f: a lambda, its code object at c' -/
def LamO (f : Addr) (pr : Arguments) (b : Expr) (sc : Scope) (q : Str) (cl : List (Str × Addr)) (c' : Addr) : HO := .ext fun h => ∃ pm ctv, h.get? f = some (PySem.W.kla_obj "<lambda>" q pr b sc cl pm c' ctv)
/-- at c: this very cell -/
def CellO (c : Addr) (ob : Obj) : HO := .ext fun h => h.get? c = some ob
def Inj (cl : List (Str × Addr)) : Prop := ∀ x y c, cl.lookup x = some c → cl.lookup y = some c → x = y
mutual
inductive Rep (K : PySem.W.Frag) (mg : Str → Option Value) (G : Hp) : V → D → Prop
  | non : Rep K mg G .non .non
  | bl {b} : Rep K mg G (.bl b) (.bl b)
  | int {i} : Rep K mg G (.int i) (.int i)
  | str {x} : Rep K mg G (.str x) (.str x)
  | lst {a vs ds} : G a = some (.lst vs) → Reps K mg G vs ds → ds.length ≤ sizeLine → Rep K mg G (.ref a) (.lst ds)
  | tup {a vs ds} : G a = some (.tup vs) → Reps K mg G vs ds → ds.length ≤ sizeLine → Rep K mg G (.ref a) (.tup ds)
  | ins {a C dx fs c ks ds} : mg c = some (.ref C) → G a = some (.ins C dx fs) → fs.map (·.1) = ks → Reps K mg G (fs.map (·.2)) ds → Rep K mg G (.ref a) (.ins c ks ds)
  | adr {a} : Rep K mg G (.ref a) (.adr a)
  | ty {n} : Rep K mg G (.ty n) (.ty n)
  | cref {x a} : mg x = some (.ref a) → Rep K mg G (.ref a) (.cref x)
  | dct {a kvs ks ds} : G a = some (.dK kvs) → kvs.map (·.1) = ks → Reps K mg G (kvs.map (·.2)) ds → Rep K mg G (.ref a) (.dct ks ds)
  | scr {a vs ds} : SqL K G a vs → Reps K mg G vs ds → Rep K mg G (.ref a) (.scr ds)
  | exn0 {a C c} : mg c = some (.ref C) → G a = some (exo a C none) → Rep K mg G (.ref a) (.exn c [] [])
  | exn {a C dx fs c ks ds} : mg c = some (.ref C) → G a = some (exo a C (some dx)) → G dx = some (exd dx fs) → fs.map (·.1) = ks → Reps K mg G (fs.map (·.2)) ds → Rep K mg G (.ref a) (.exn c ks ds)
  | cau {a d fs c ks ds} : G d = some (.xd fs) → fs.map (·.1) = ks → Reps K mg G (fs.map (·.2)) ds → Rep K mg G (.ref a) (.cau a d c ks ds)
  | lam {f c' pr b sc q cl} : Inj cl → G f = some (LamO f pr b sc q cl c') → G c' = some (LamX.CodeO c' q) → Rep K mg G (.ref f) (.lam pr b sc q cl)
  | clo {f c' pr b sc q cl vs ws} : Inj cl → G f = some (LamO f pr b sc q cl c') → G c' = some (LamX.CodeO c' q) → vs.length = cl.length → (∀ (i : Nat) (x : Str) (c : Addr) (v : V), cl[i]? = some (x, c) → vs[i]? = some v → ∃ ob u, G c = some (CellO c ob) ∧ ob.data = .cell (some u) ∧ RelV v u) → Reps K mg G vs ws → Rep K mg G (.ref f) (.clo pr b sc q cl ws)
  | idn {a d} : Rep K mg G (.ref a) d → Rep K mg G (.ref a) (.idn a d)
inductive Reps (K : PySem.W.Frag) (mg : Str → Option Value) (G : Hp) : List V → List D → Prop
  | nil : Reps K mg G [] []
  | cons {v d vs ds} : Rep K mg G v d → Reps K mg G vs ds → Reps K mg G (v :: vs) (d :: ds)
end

theorem rd_same {H H' : Hp} {a : Addr} {u : HO} (e : Same H H') (h : Rd H a u) : Rd H' a u := by
  rcases h with h | ⟨o, h⟩
  · exact .inl (e _ _ h)
  · exact .inr ⟨o, e _ _ h⟩
theorem sqT_same {K : PySem.W.Frag} {H H' : Hp} {a : Addr} {xs : List V} (e : Same H H') (h : SqT K H a xs) : SqT K H' a xs := by
  rcases h with (h | ⟨o, h⟩) | h
  · exact .inl (.inl (e _ _ h))
  · exact .inl (.inr ⟨o, e _ _ h⟩)
  · exact .inr h

section
variable {K : PySem.W.Frag} {mg : Str → Option Value} {G G' : Hp}
mutual
theorem Rep.mono (e : Same G G') : ∀ {v d}, Rep K mg G v d → Rep K mg G' v d
  | _, _, .non => .non
  | _, _, .bl => .bl
  | _, _, .int => .int
  | _, _, .str => .str
  | _, _, .lst h r z => .lst (e _ _ h) (Reps.mono e r) z
  | _, _, .tup h r z => .tup (e _ _ h) (Reps.mono e r) z
  | _, _, .ins h1 h2 h3 r => .ins h1 (e _ _ h2) h3 (Reps.mono e r)
  | _, _, .adr => .adr
  | _, _, .ty => .ty
  | _, _, .cref h => .cref h
  | _, _, .dct h1 h2 r => .dct (e _ _ h1) h2 (Reps.mono e r)
  | _, _, .scr h r => .scr (e.seq h) (Reps.mono e r)
  | _, _, .exn0 h1 h2 => .exn0 h1 (e _ _ h2)
  | _, _, .exn h1 h2 h3 h4 r => .exn h1 (e _ _ h2) (e _ _ h3) h4 (Reps.mono e r)
  | _, _, .cau h1 h2 r => .cau (e _ _ h1) h2 (Reps.mono e r)
  | _, _, .lam h0 h1 h2 => .lam h0 (e _ _ h1) (e _ _ h2)
  | _, _, .clo h0 h1 h2 h3 h4 r => .clo h0 (e _ _ h1) (e _ _ h2) h3 (fun i x c v a b => let ⟨ob, u, z, w⟩ := h4 i x c v a b; ⟨ob, u, e _ _ z, w⟩) (Reps.mono e r)
  | _, _, .idn h => .idn (Rep.mono e h)
theorem Reps.mono (e : Same G G') : ∀ {vs ds}, Reps K mg G vs ds → Reps K mg G' vs ds
  | _, _, .nil => .nil
  | _, _, .cons h r => .cons (Rep.mono e h) (Reps.mono e r)
end
theorem Reps.length : ∀ {vs ds}, Reps K mg G vs ds → vs.length = ds.length
  | _, _, .nil => rfl
  | _, _, .cons _ r => by rw [List.length_cons, List.length_cons, Reps.length r]
theorem Reps.append : ∀ {vs ds ws es}, Reps K mg G vs ds → Reps K mg G ws es → Reps K mg G (vs ++ ws) (ds ++ es)
  | _, _, _, _, .nil, s => s
  | _, _, _, _, .cons h r, s => .cons h (Reps.append r s)
theorem Reps.get : ∀ {vs ds} {i : Nat} {d : D}, Reps K mg G vs ds → ds[i]? = some d → ∃ v, vs[i]? = some v ∧ Rep K mg G v d
  | _, _, _, _, .nil, h => by simp at h
  | _, _, 0, d, .cons h r, e => by
    simp only [List.getElem?_cons_zero, Option.some.injEq] at e
    subst e
    exact ⟨_, rfl, h⟩
  | _, _, i + 1, d, .cons h r, e => by
    simp only [List.getElem?_cons_succ] at e
    obtain ⟨v, h1, h2⟩ := Reps.get r e
    exact ⟨v, by simpa using h1, h2⟩
theorem Reps.getV : ∀ {vs ds} {i : Nat} {v : V}, Reps K mg G vs ds → vs[i]? = some v → ∃ d, ds[i]? = some d ∧ Rep K mg G v d
  | _, _, _, _, .nil, h => by simp at h
  | _, _, 0, d, .cons h r, e => by
    simp only [List.getElem?_cons_zero, Option.some.injEq] at e
    subst e
    exact ⟨_, rfl, h⟩
  | _, _, i + 1, d, .cons h r, e => by
    simp only [List.getElem?_cons_succ] at e
    obtain ⟨v, h1, h2⟩ := Reps.getV r e
    exact ⟨v, by simpa using h1, h2⟩
theorem Reps.take : ∀ {vs ds} (n : Nat), Reps K mg G vs ds → Reps K mg G (vs.take n) (ds.take n)
  | _, _, 0, _ => by simpa using .nil
  | _, _, n + 1, .nil => by simpa using .nil
  | _, _, n + 1, .cons h r => by simpa using .cons h (Reps.take n r)
theorem Reps.drop : ∀ {vs ds} (n : Nat), Reps K mg G vs ds → Reps K mg G (vs.drop n) (ds.drop n)
  | _, _, 0, r => by simpa using r
  | _, _, n + 1, .nil => by simpa using .nil
  | _, _, n + 1, .cons h r => by simpa using Reps.drop n r
theorem Reps.set : ∀ {vs ds} (i : Nat) {v d}, Reps K mg G vs ds → Rep K mg G v d → Reps K mg G (vs.set i v) (ds.set i d)
  | _, _, _, _, _, .nil, _ => .nil
  | _, _, 0, _, _, .cons h r, q => .cons q r
  | _, _, i + 1, _, _, .cons h r, q => .cons h (Reps.set i r q)
theorem Reps.ints (ns : List Int) : Reps K mg G (ns.map V.int) (ns.map D.int) := by
  induction ns with
  | nil => exact .nil
  | cons n r ih => exact .cons .int ih
end

/-- the pen: a dict of a list of ints and two ints; r: how many more of its cells may be begun -/
def PenOk (cf : Cfg) (K : PySem.W.Frag) (G H : Hp) (p : Addr) (r : PenS) : Prop :=
  ∃ (c : Addr) (cells : List Int) (b l : Int), H p = some (.dK [(.inr "cells", .ref c), (.inr cf.nb, .int b), (.inr cf.nl, .int l)]) ∧ G p = none ∧ SqL K G c (cells.map V.int) ∧ PenB r cells b l

/-- no table of code objects -/
def Fix (o : HO) : Prop := ∀ ps, o ≠ .tbl ps
/-- the table at P: the code objects that it tells are frozen and bear the name q -/
def TabG (G H : Hp) (P : Addr) (q : Str) : Prop := ∃ ps : Array Value, H P = some (.tbl ps) ∧ G P = none ∧ TriplesOk ps.toList ∧ ∀ (pos : Pos) (cv : Value), codeAmong pos ps.toList = some cv → ∃ c, cv = .ref c ∧ G c = some (LamX.CodeO c q)
theorem TabG.mono {G H G' H' : Hp} {P : Addr} {q : Str} (t : TabG G H P q) (e : Same G G') (h : ∀ ps, H P = some (.tbl ps) → H' P = some (.tbl ps)) (g : G P = none → G' P = none) : TabG G' H' P q := by
  obtain ⟨ps, h1, h2, h3, h4⟩ := t
  exact ⟨ps, h _ h1, g h2, h3, fun pos cv hc => let ⟨c, a, b⟩ := h4 pos cv hc; ⟨c, a, e _ _ b⟩⟩
theorem tabG_upd {G H : Hp} {l P : Addr} {q : Str} {u o : HO} (t : TabG G H P q) (hl : H l = some u) (h1 : Fix u) : TabG G (upd H l o) P q := t.mono (Same.refl _) (fun ps e => by rw [upd_ne (fun z => by rw [z, hl] at e; exact h1 _ (Option.some.inj e))]; exact e) id
theorem tabG_new {G H : Hp} {l P : Addr} {q : Str} {o : HO} (t : TabG G H P q) (hl : H l = none) : TabG G (upd H l o) P q := t.mono (Same.refl _) (fun ps e => by rw [upd_ne (ne_of_none e hl)]; exact e) id
theorem lst_code {vs : List V} : ∀ c q, HO.lst vs ≠ LamX.CodeO c q := fun c q z => by
  have z' : HO.lst vs = HO.ext _ := z
  cases z'
theorem dK_code {kvs : List (Key × V)} : ∀ c q, HO.dK kvs ≠ LamX.CodeO c q := fun c q z => by
  have z' : HO.dK kvs = HO.ext _ := z
  cases z'
theorem ins_code {C dx : Addr} {fs : List (Str × V)} : ∀ c q, HO.ins C dx fs ≠ LamX.CodeO c q := fun c q z => by
  have z' : HO.ins C dx fs = HO.ext _ := z
  cases z'
theorem tbl_upd {H : Hp} {l a : Addr} {u o : HO} {ps : Array Value} (hl : H l = some u) (h1 : Fix u) (h : H a = some (.tbl ps)) : upd H l o a = some (.tbl ps) := by
  rw [upd_ne (fun z => by rw [z, hl] at h; exact h1 _ (Option.some.inj h))]; exact h
/-- behind a call, an allocation: all that stood stands (but the pen), the frozen part has grown by new objects alone -/
structure After (cf : Cfg) (K : PySem.W.Frag) (G H : Hp) (pn : Pn) (G' H' : Hp) (pn' : Pn) : Prop where
  sub : Same G' H'
  ext : Same G G'
  new : ∀ a o, G' a = some o → G a = some o ∨ H a = none
  keep : ∀ a o, H a = some o → (∀ r, pn ≠ some (a, r)) → Fix o → H' a = some o
  pen : ∀ p r, pn' = some (p, r) → PenOk cf K G' H' p r
  adr : pn'.map (·.1) = pn.map (·.1)
  tbl : ∀ a ps, H a = some (.tbl ps) → ∃ ps', H' a = some (.tbl ps')
  tabs : ∀ p ∈ cf.tb, TabG G' H' p.1 p.2

def SlOk (K : PySem.W.Frag) (mg : Str → Option Value) (G H : Hp) (o : Option V) : Sl → Prop
  | .un => True
  | .val d => ∃ v, o = some v ∧ Rep K mg G v d
  | .own ds => ∃ l vs, o = some (.ref l) ∧ H l = some (.lst vs) ∧ G l = none ∧ Reps K mg G vs ds ∧ ds.length ≤ sizeLine
  | .obj a c ks ds => ∃ C dx fs, o = some (.ref a) ∧ mg c = some (.ref C) ∧ H a = some (.ins C dx fs) ∧ H dx = some (.own a) ∧ G a = none ∧ G dx = none ∧ fs.map (·.1) = ks ∧ Reps K mg G (fs.map (·.2)) ds

def ownAt (ρ : List Sl) (i : Nat) : Prop := ∃ sl, ρ[i]? = some sl ∧ sl.isOwn = true

structure Hd (K : PySem.W.Frag) (mg : Str → Option Value) (c : Cv) (S : State) (σ : L2.St) (G H : Hp) : Prop where
  sub : Same G H
  len : σ.length = S.ρ.length
  slots : ∀ (i : Nat) (sl : Sl), S.ρ[i]? = some sl → ∃ o, σ[i]? = some o ∧ SlOk K mg G H o sl
  dist : ∀ (i j : Nat) (l : Addr), i ≠ j → ownAt S.ρ i → ownAt S.ρ j → σ[i]? = some (some (.ref l)) → σ[j]? ≠ some (some (.ref l))
  pen : ∀ p r, S.pn = some (p, r) → PenOk c.cf K G H p r ∧ (c.pa = some p ∨ c.H0 p = none)
  padr : ∀ a, c.pa = some a → ∃ r, S.pn = some (a, r)
  ext0 : Same c.G0 G
  new0 : ∀ a o, G a = some o → c.G0 a = some o ∨ c.H0 a = none
  keep0 : ∀ a o, c.H0 a = some o → c.pa ≠ some a → Fix o → H a = some o
  fresh : c.top = true → ∀ (i : Nat) (l : Addr), ownAt S.ρ i → σ[i]? = some (some (.ref l)) → c.H0 l = none
  tbl0 : ∀ a ps, c.H0 a = some (.tbl ps) → ∃ ps', H a = some (.tbl ps')
  tabs : ∀ p ∈ c.cf.tb, TabG G H p.1 p.2

section
variable {K : PySem.W.Frag} {mg : Str → Option Value} {c : Cv} {S : State} {σ : L2.St} {G H G' H' : Hp} {pn' : Pn}
theorem PenOk.at {cf : Cfg} {p : Addr} {r : PenS} (h : PenOk cf K G H p r) : ∃ kvs, H p = some (.dK kvs) := by
  obtain ⟨c, cells, b, l, h, _⟩ := h
  exact ⟨_, h⟩
theorem PenOk.le {cf : Cfg} {p : Addr} {r r' : Nat} (h : PenOk cf K G H p (.bud r)) (hr : r' ≤ r) : PenOk cf K G H p (.bud r') := by
  obtain ⟨c, cells, b, l, h1, h2, h3, h4, h5, h6, h7, h8⟩ := h
  exact ⟨c, cells, b, l, h1, h2, h3, h4, h5, h6, by omega, h8⟩
theorem Hd.notPen (h : Hd K mg c S σ G H) {a : Addr} {o : HO} (ha : H a = some o) (hk : ∀ kvs, o ≠ .dK kvs) : ∀ r, S.pn ≠ some (a, r) := fun r e => by
  obtain ⟨kvs, q⟩ := (h.pen a r e).1.at
  rw [ha] at q
  exact hk _ (Option.some.inj q)
theorem Hd.h0none (h : Hd K mg c S σ G H) {a : Addr} (hn : H a = none) : c.H0 a = none := by
  cases z : c.H0 a with
  | none => rfl
  | some w =>
    by_cases hp : c.pa = some a
    · obtain ⟨r, y⟩ := h.padr a hp
      obtain ⟨kvs, x⟩ := (h.pen _ _ y).1.at
      rw [hn] at x; cases x
    · by_cases ht : ∃ ps, w = .tbl ps
      · obtain ⟨ps, rfl⟩ := ht
        obtain ⟨ps', e⟩ := h.tbl0 a ps z
        rw [hn] at e; cases e
      · rw [h.keep0 a w z hp fun ps e => ht ⟨ps, e⟩] at hn; cases hn
theorem Hd.tbU (h : Hd K mg c S σ G H) {l : Addr} {u o : HO} (hl : H l = some u) (h1 : Fix u) : ∀ a ps, c.H0 a = some (.tbl ps) → ∃ ps', upd H l o a = some (.tbl ps') := fun a ps e => by
  obtain ⟨ps', q⟩ := h.tbl0 a ps e
  exact ⟨ps', tbl_upd hl h1 q⟩
theorem Hd.tsU (h : Hd K mg c S σ G H) {l : Addr} {u o : HO} (hl : H l = some u) (h1 : Fix u) : ∀ p ∈ c.cf.tb, TabG G (upd H l o) p.1 p.2 := fun p hp => tabG_upd (h.tabs p hp) hl h1
theorem Hd.after (h : Hd K mg c S σ G H) (A : After c.cf K G H S.pn G' H' pn') : Hd K mg c { S with pn := pn' } σ G' H' where
  sub := A.sub
  len := h.len
  slots := fun i sl e => by
    obtain ⟨o, h1, h2⟩ := h.slots i sl e
    refine ⟨o, h1, ?_⟩
    have gn : ∀ l u, H l = some u → G l = none → G' l = none := fun l u q n => by
      cases z : G' l with
      | none => rfl
      | some w =>
        rcases A.new l w z with y | y
        · rw [n] at y; cases y
        · rw [q] at y; cases y
    cases sl with
    | un => trivial
    | val d => exact ⟨_, h2.choose_spec.1, h2.choose_spec.2.mono A.ext⟩
    | own ds =>
      obtain ⟨l, vs, e1, e2, e3, e4, e5⟩ := h2
      exact ⟨l, vs, e1, A.keep _ _ e2 (h.notPen e2 fun _ z => by cases z) (fun _ z => nomatch z), gn _ _ e2 e3, e4.mono A.ext, e5⟩
    | obj a c ks ds =>
      obtain ⟨C, dx, fs, e1, e2, e3, e4, e5, e6, e7, e8⟩ := h2
      exact ⟨C, dx, fs, e1, e2, A.keep _ _ e3 (h.notPen e3 fun _ z => by cases z) (fun _ z => nomatch z), A.keep _ _ e4 (h.notPen e4 fun _ z => by cases z) (fun _ z => nomatch z), gn _ _ e3 e5, gn _ _ e4 e6, e7, e8.mono A.ext⟩
  dist := h.dist
  pen := fun p r e => by
    refine ⟨A.pen p r e, ?_⟩
    have q := A.adr
    have e' : pn' = some (p, r) := e
    rw [e'] at q
    cases z : S.pn with
    | none => rw [z] at q; cases q
    | some w =>
      obtain ⟨p2, r2⟩ := w
      rw [z] at q
      have ep : p = p2 := by simpa using q
      subst ep
      exact (h.pen _ _ z).2
  padr := fun a e => by
    obtain ⟨r, q⟩ := h.padr a e
    have z := A.adr
    rw [q] at z
    cases y : pn' with
    | none => rw [y] at z; cases z
    | some w =>
      obtain ⟨p2, r2⟩ := w
      rw [y] at z
      have ep : p2 = a := by simpa using z
      subst ep
      exact ⟨r2, rfl⟩
  ext0 := h.ext0.trans A.ext
  new0 := fun a o e => by
    rcases A.new a o e with q | q
    · exact h.new0 a o q
    · exact .inr (h.h0none q)
  keep0 := fun a o e hp hx => by
    refine A.keep a o (h.keep0 a o e hp hx) (fun r y => ?_) hx
    rcases (h.pen _ _ y).2 with x | x
    · exact hp x
    · rw [e] at x; cases x
  fresh := h.fresh
  tbl0 := fun a ps e => by
    obtain ⟨p1, q1⟩ := h.tbl0 a ps e
    exact A.tbl a p1 q1
  tabs := A.tabs
theorem After.refl {cf : Cfg} {pn : Pn} (hs : Same G H) (hp : ∀ p r, pn = some (p, r) → PenOk cf K G H p r) (ht : ∀ p ∈ cf.tb, TabG G H p.1 p.2) : After cf K G H pn G H pn :=
  ⟨hs, Same.refl _, fun _ _ h => .inl h, fun _ _ h _ _ => h, hp, rfl, fun _ ps h => ⟨ps, h⟩, ht⟩
theorem Hd.afterRefl (h : Hd K mg c S σ G H) : After c.cf K G H S.pn G H S.pn := After.refl h.sub (fun p r e => (h.pen p r e).1) h.tabs
theorem PenOk.new {cf : Cfg} {p a : Addr} {r : PenS} {o : HO} (h : PenOk cf K G H p r) (hn : H a = none) (hg : Same G H) : PenOk cf K (upd G a o) (upd H a o) p r := by
  obtain ⟨c, cells, b, l, h1, h2, h3, h4⟩ := h
  have hpa : p ≠ a := ne_of_none h1 hn
  have gn : G a = none := hg.free hn
  exact ⟨c, cells, b, l, by rw [upd_ne hpa]; exact h1, by rw [upd_ne hpa]; exact h2, Same.seq (fun x u q => by rw [upd_ne (ne_of_none q gn)]; exact q) h3, h4⟩
theorem PenOk.newH {cf : Cfg} {p a : Addr} {r : PenS} {o : HO} (h : PenOk cf K G H p r) (hn : H a = none) : PenOk cf K G (upd H a o) p r := by
  obtain ⟨c, cells, b, l, h1, h2, h3, h4⟩ := h
  have hpa : p ≠ a := ne_of_none h1 hn
  exact ⟨c, cells, b, l, by rw [upd_ne hpa]; exact h1, h2, h3, h4⟩
theorem same_upd {H : Hp} {p : Addr} {o : HO} (h : H p = none) : Same H (upd H p o) := fun b x e => by
  rw [upd_ne (ne_of_none e h)]
  exact e
theorem same_upd2 {G H : Hp} {p : Addr} {o : HO} (h : Same G H) : Same (upd G p o) (upd H p o) := fun b x e => by
  by_cases q : b = p
  · subst q
    rw [upd_same] at e ⊢
    exact e
  · rw [upd_ne q] at e ⊢
    exact h _ _ e
/-- a new frozen object -/
theorem Hd.alloc (h : Hd K mg c S σ G H) {a : Addr} {o : HO} (hn : H a = none) : After c.cf K G H S.pn (upd G a o) (upd H a o) S.pn where
  sub := same_upd2 h.sub
  ext := same_upd (h.sub.free hn)
  new := fun b u e => by
    by_cases q : b = a
    · subst q; exact .inr hn
    · rw [upd_ne q] at e; exact .inl e
  keep := fun b u e _ _ => by rw [upd_ne (ne_of_none e hn)]; exact e
  pen := fun p r e => (h.pen p r e).1.new hn h.sub
  adr := rfl
  tbl := fun b ps e => ⟨ps, by rw [upd_ne (ne_of_none e hn)]; exact e⟩
  tabs := fun p hp => (h.tabs p hp).mono (same_upd (h.sub.free hn)) (fun ps e => by rw [upd_ne (ne_of_none e hn)]; exact e) (fun g => by
    obtain ⟨ps, e, _⟩ := h.tabs p hp
    rw [upd_ne (ne_of_none e hn)]; exact g)
/-- a new object that is not frozen -/
theorem Hd.allocH (h : Hd K mg c S σ G H) {a : Addr} {o : HO} (hn : H a = none) : After c.cf K G H S.pn G (upd H a o) S.pn where
  sub := h.sub.trans (same_upd hn)
  ext := Same.refl _
  new := fun b u e => .inl e
  keep := fun b u e _ _ => by rw [upd_ne (ne_of_none e hn)]; exact e
  pen := fun p r e => (h.pen p r e).1.newH hn
  adr := rfl
  tbl := fun b ps e => ⟨ps, by rw [upd_ne (ne_of_none e hn)]; exact e⟩
  tabs := fun p hp => tabG_new (h.tabs p hp) hn
end
end VL
set_option Elab.async false
set_option linter.all false
set_option maxRecDepth 100000
set_option maxHeartbeats 4000000
/-! VL1: the judgements by values (VE, VT, VA, VS, VSs) and their first rules. -/
namespace VL
open PySem PySem.Spec PyProof.Rows L2

/-! ### semantic readings -/
section
variable {X : Cx} {e : Expr} {es : List Expr} {st : Stmt} {sts : List Stmt} {σ : L2.St} {H : Hp}
def tE (X : Cx) (e : Expr) : TE := fun σ H Q => ∀ (pins : List (Addr × Obj)) (s : Shared), Inv X pins σ H s → wpAny (model X.prog X.w) X.A (eval e X.env) (EP X pins σ Q) X.xe s
def tT (X : Cx) (e : Expr) : TT := fun σ H Q => ∀ (pins : List (Addr × Obj)) (s : Shared), Inv X pins σ H s → wpAny (model X.prog X.w) X.A (isTrue e X.env (eval e X.env)) (TP X pins σ Q) X.xe s
def tW (X : Cx) (e : Expr) : TT := fun σ H Q => ∀ (wh : Sem Value) (pins : List (Addr × Obj)) (s : Shared), Inv X pins σ H s → wpAny (model X.prog X.w) X.A (isTrue e X.env wh) (TP X pins σ Q) X.xe s
def tA (X : Cx) (es : List Expr) : TA := fun σ H Q => ∀ (pos : Pos) (pins : List (Addr × Obj)) (s : Shared), Inv X pins σ H s → wpAny (model X.prog X.w) X.A (spliced (backTo pos (starEach es X.env))) (AP X pins σ Q) X.xe s
def tS (X : Cx) (st : Stmt) : TS := fun D σ H => ∀ (pins : List (Addr × Obj)) (s : Shared), Inv X pins σ H s → wpAny (model X.prog X.w) X.A (exec st X.env) (SP X pins D) X.xe s
def tSs (X : Cx) (sts : List Stmt) : TS := fun D σ H => ∀ (pins : List (Addr × Obj)) (s : Shared), Inv X pins σ H s → wpAny (model X.prog X.w) X.A (execs sts X.env) (SP X pins D) X.xe s
theorem pe_sem : PE X e (tE X e) := ⟨fun pins s _ _ _ I h => h pins s I⟩
theorem pt_sem : PT X e (tT X e) := ⟨fun pins s _ _ _ I h => h pins s I⟩
theorem pw_sem : PW X e (tW X e) := ⟨fun wh pins s _ _ _ I h => h wh pins s I⟩
theorem pa_sem : PA X es (tA X es) := ⟨fun pos pins s _ _ _ I h => h pos pins s I⟩
theorem ps_sem : PS X st (tS X st) := ⟨fun pins s _ _ _ I h => h pins s I⟩
theorem pss_sem : PSs X sts (tSs X sts) := ⟨fun pins s _ _ _ I h => h pins s I⟩
theorem tE_of {t : TE} {Q : VK} (h : PE X e t) (q : t σ H Q) : tE X e σ H Q := fun pins s I => h.run pins s σ H Q I q
theorem tT_of {t : TT} {Q : Bool → Hp → Prop} (h : PT X e t) (q : t σ H Q) : tT X e σ H Q := fun pins s I => h.run pins s σ H Q I q
theorem tW_of {t : TT} {Q : Bool → Hp → Prop} (h : PW X e t) (q : t σ H Q) : tW X e σ H Q := fun wh pins s I => h.run wh pins s σ H Q I q
theorem tA_of {t : TA} {Q : List V → Hp → Prop} (h : PA X es t) (q : t σ H Q) : tA X es σ H Q := fun pos pins s I => h.run pos pins s σ H Q I q
theorem tS_of {t : TS} {D : Ends} (h : PS X st t) (q : t D σ H) : tS X st D σ H := fun pins s I => h.run pins s σ H D I q
theorem tSs_of {t : TS} {D : Ends} (h : PSs X sts t) (q : t D σ H) : tSs X sts D σ H := fun pins s I => h.run pins s σ H D I q
theorem tE_mono {Q Q' : VK} (h : tE X e σ H Q) (hq : ∀ v H', Q v H' → Q' v H') : tE X e σ H Q' := fun pins s I => thn (h pins s I) fun _ _ ⟨v, H', I', r, q⟩ => ⟨v, H', I', r, hq v H' q⟩
theorem tT_mono {Q Q' : Bool → Hp → Prop} (h : tT X e σ H Q) (hq : ∀ v H', Q v H' → Q' v H') : tT X e σ H Q' := fun pins s I => thn (h pins s I) fun _ _ ⟨H', I', q⟩ => ⟨H', I', hq _ H' q⟩
theorem tW_mono {Q Q' : Bool → Hp → Prop} (h : tW X e σ H Q) (hq : ∀ v H', Q v H' → Q' v H') : tW X e σ H Q' := fun wh pins s I => thn (h wh pins s I) fun _ _ ⟨H', I', q⟩ => ⟨H', I', hq _ H' q⟩
theorem tA_mono {Q Q' : List V → Hp → Prop} (h : tA X es σ H Q) (hq : ∀ v H', Q v H' → Q' v H') : tA X es σ H Q' := fun pos pins s I => thn (h pos pins s I) fun _ _ ⟨v, H', I', r, q⟩ => ⟨v, H', I', r, hq v H' q⟩
theorem SP_mono {pins : List (Addr × Obj)} {D D' : Ends} (h1 : ∀ σ H, D.nx σ H → D'.nx σ H) (h2 : ∀ v H, D.rt v H → D'.rt v H) (h3 : ∀ σ H, D.bk σ H → D'.bk σ H) (h4 : ∀ σ H, D.ct σ H → D'.ct σ H) {f : Flow} {s' : Shared} (h : SP X pins D f s') : SP X pins D' f s' := by
  cases f with
  | next => obtain ⟨σ', H', I, q⟩ := h; exact ⟨σ', H', I, h1 _ _ q⟩
  | brk => obtain ⟨σ', H', I, q⟩ := h; exact ⟨σ', H', I, h3 _ _ q⟩
  | cont => obtain ⟨σ', H', I, q⟩ := h; exact ⟨σ', H', I, h4 _ _ q⟩
  | ret u => obtain ⟨v, σ', H', I, r, q⟩ := h; exact ⟨v, σ', H', I, r, h2 _ _ q⟩
theorem tS_mono {D D' : Ends} (h : tS X st D σ H) (h1 : ∀ σ H, D.nx σ H → D'.nx σ H) (h2 : ∀ v H, D.rt v H → D'.rt v H) (h3 : ∀ σ H, D.bk σ H → D'.bk σ H) (h4 : ∀ σ H, D.ct σ H → D'.ct σ H) : tS X st D' σ H := fun pins s I =>
  thn (h pins s I) fun _ _ q => SP_mono h1 h2 h3 h4 q
theorem tSs_mono {D D' : Ends} (h : tSs X sts D σ H) (h1 : ∀ σ H, D.nx σ H → D'.nx σ H) (h2 : ∀ v H, D.rt v H → D'.rt v H) (h3 : ∀ σ H, D.bk σ H → D'.bk σ H) (h4 : ∀ σ H, D.ct σ H → D'.ct σ H) : tSs X sts D' σ H := fun pins s I =>
  thn (h pins s I) fun _ _ q => SP_mono h1 h2 h3 h4 q
end

/-! ### the judgements -/
abbrev HdX (X : Cx) (c : Cv) (S : State) (σ : L2.St) (G H : Hp) : Prop := Hd X.K X.mg c S σ G H
abbrev RepX (X : Cx) (G : Hp) (v : V) (d : D) : Prop := Rep X.K X.mg G v d
def pE (X : Cx) (c : Cv) (σ : L2.St) (G : Hp) (Q : D → State → Prop) : VK := fun v H' => ∃ d S' G', HdX X c S' σ G' H' ∧ Same G G' ∧ RepX X G' v d ∧ Q d S'
def pT (X : Cx) (c : Cv) (σ : L2.St) (G : Hp) (Q : Bool → State → Prop) : Bool → Hp → Prop := fun b H' => ∃ S' G', HdX X c S' σ G' H' ∧ Same G G' ∧ Q b S'
def pA (X : Cx) (c : Cv) (σ : L2.St) (G : Hp) (Q : List D → State → Prop) : List V → Hp → Prop := fun vs H' => ∃ ds S' G', HdX X c S' σ G' H' ∧ Same G G' ∧ Reps X.K X.mg G' vs ds ∧ Q ds S'
def VE (X : Cx) (c : Cv) (S : State) (e : Expr) (Q : D → State → Prop) : Prop := ∀ σ G H, HdX X c S σ G H → tE X e σ H (pE X c σ G Q)
def VT (X : Cx) (c : Cv) (S : State) (e : Expr) (Q : Bool → State → Prop) : Prop := ∀ σ G H, HdX X c S σ G H → tT X e σ H (pT X c σ G Q)
def VW (X : Cx) (c : Cv) (S : State) (e : Expr) (Q : Bool → State → Prop) : Prop := ∀ σ G H, HdX X c S σ G H → tW X e σ H (pT X c σ G Q)
def VA (X : Cx) (c : Cv) (S : State) (es : List Expr) (Q : List D → State → Prop) : Prop := ∀ σ G H, HdX X c S σ G H → tA X es σ H (pA X c σ G Q)
structure VD where
  nx : State → Prop
  rt : D → State → Prop
  bk : State → Prop := fun _ => False
  ct : State → Prop := fun _ => False
def ends (X : Cx) (c : Cv) (G : Hp) (E : VD) : Ends where
  nx := fun σ' H' => ∃ S' G', HdX X c S' σ' G' H' ∧ Same G G' ∧ E.nx S'
  rt := fun v H' => ∃ d S' σ' G', HdX X c S' σ' G' H' ∧ Same G G' ∧ RepX X G' v d ∧ E.rt d S'
  bk := fun σ' H' => ∃ S' G', HdX X c S' σ' G' H' ∧ Same G G' ∧ E.bk S'
  ct := fun σ' H' => ∃ S' G', HdX X c S' σ' G' H' ∧ Same G G' ∧ E.ct S'
def VS (X : Cx) (c : Cv) (S : State) (st : Stmt) (E : VD) : Prop := ∀ σ G H, HdX X c S σ G H → tS X st (ends X c G E) σ H
def VSs (X : Cx) (c : Cv) (S : State) (sts : List Stmt) (E : VD) : Prop := ∀ σ G H, HdX X c S σ G H → tSs X sts (ends X c G E) σ H

section
variable {X : Cx} {c : Cv} {S : State} {e a b : Expr} {es : List Expr} {st : Stmt} {sts : List Stmt} {σ : L2.St} {G G' H : Hp} {pos : Pos} {Q : D → State → Prop} {E : VD}
theorem pE_back (s : Same G G') {v : V} {H' : Hp} (h : pE X c σ G' Q v H') : pE X c σ G Q v H' := by
  obtain ⟨d, S', G'', h1, h2, h3, h4⟩ := h
  exact ⟨d, S', G'', h1, s.trans h2, h3, h4⟩
theorem pT_back {Q : Bool → State → Prop} (s : Same G G') {v : Bool} {H' : Hp} (h : pT X c σ G' Q v H') : pT X c σ G Q v H' := by
  obtain ⟨S', G'', h1, h2, h4⟩ := h
  exact ⟨S', G'', h1, s.trans h2, h4⟩
theorem pE_imp {Q' : D → State → Prop} {v : V} {H' : Hp} (h : pE X c σ G Q v H') (q : ∀ d S', Q d S' → Q' d S') : pE X c σ G Q' v H' := by
  obtain ⟨d, S', G'', h1, h2, h3, h4⟩ := h
  exact ⟨d, S', G'', h1, h2, h3, q _ _ h4⟩
theorem VE.imp {Q' : D → State → Prop} (h : VE X c S e Q) (q : ∀ d S', Q d S' → Q' d S') : VE X c S e Q' := fun σ G H hd => tE_mono (h σ G H hd) fun v H' p => pE_imp p q
theorem pE_ret {v : V} {d : D} (h : HdX X c S σ G H) (r : RepX X G v d) (q : Q d S) : pE X c σ G Q v H := ⟨d, S, G, h, Same.refl _, r, q⟩
/-- a new frozen object -/
theorem pE_new {p : Addr} {o : HO} {d : D} (h : HdX X c S σ G H) (hn : H p = none) (r : RepX X (upd G p o) (.ref p) d) (q : Q d S) : pE X c σ G Q (.ref p) (upd H p o) :=
  ⟨d, _, _, h.after (h.alloc hn), same_upd (h.sub.free hn), r, q⟩
theorem upd_frz {G : Hp} {p : Addr} {o : HO} : upd G p o p = some o := upd_same

/-! ### names, constants -/
theorem ve_val (i : Nat) {x : Str} {d : D} (hρ : S.ρ[i]? = some (.val d)) (q : Q d S) (hN : X.N[i]? = some x := by rfl) (hv : Vis X.env.scope x := by first | exact Or.inl rfl | exact Or.inr (Or.inl rfl) | exact Or.inr (Or.inr rfl))
    (hd : (x == ("__debug__" : Str)) = false := by decide) (hcd : (x == ("__classdict__" : Str)) = false := by decide) : VE X c S (.Name x pos) Q := fun σ G H h => by
  obtain ⟨o, e1, v, e2, r⟩ := h.slots i _ hρ
  subst e2
  exact tE_of (pv i hN hv hd hcd) ⟨v, e1, pE_ret h r q⟩
theorem ve_int {i j} (q : Q (.int i) S) : VE X c S (.Constant (.int i) j pos) Q := fun σ G H h => tE_of pe_int (pE_ret h .int q)
theorem ve_bl {i j} (q : Q (.bl i) S) : VE X c S (.Constant (.bool i) j pos) Q := fun σ G H h => tE_of pe_bl (pE_ret h .bl q)
theorem ve_non {j} (q : Q .non S) : VE X c S (.Constant .none j pos) Q := fun σ G H h => tE_of pe_non (pE_ret h .non q)
theorem ve_str {i j} (q : Q (.str i) S) : VE X c S (.Constant (.str i) j pos) Q := fun σ G H h => tE_of pe_str (pE_ret h .str q)

/-! ### two-place operators -/
/-- what an operator's rule asks, by values -/
def RB (X : Cx) (c : Cv) (S : State) (r : R2) (x y : D) (Q : D → State → Prop) : Prop :=
  ∀ σ G H u v, HdX X c S σ G H → RepX X G u x → RepX X G v y → ∀ R : VK, (∀ z H', pE X c σ G Q z H' → R z H') → r u v H R
theorem ve_bin {op : Operator} {r : R2} (ho : OpR X (binaryOp op) r) (h : VE X c S a fun x S1 => VE X c S1 b fun y S2 => RB X c S2 r x y Q) : VE X c S (.BinOp a op b pos) Q := fun σ G H hd => by
  refine tE_of (pe_op ho pe_sem pe_sem) ?_
  refine tE_mono (h σ G H hd) fun u H1 ⟨x, S1, G1, h1, s1, r1, q1⟩ => tE_mono (q1 σ G1 H1 h1) fun v H2 ⟨y, S2, G2, h2, s2, r2, q2⟩ => ?_
  exact q2 σ G2 H2 u v h2 (r1.mono s2) r2 _ fun z H' p => pE_back (s1.trans s2) p
theorem ve_cmp {op : CmpOp} {r : R2} (ho : OpR X (compareOp op) r) (h : VE X c S a fun x S1 => VE X c S1 b fun y S2 => RB X c S2 r x y Q) (hm : behindInMarks op b = false) : VE X c S (.Compare a [op] [b] pos) Q := fun σ G H hd => by
  refine tE_of (pe_cmpR ho pe_sem pe_sem hm) ?_
  refine tE_mono (h σ G H hd) fun u H1 ⟨x, S1, G1, h1, s1, r1, q1⟩ => tE_mono (q1 σ G1 H1 h1) fun v H2 ⟨y, S2, G2, h2, s2, r2, q2⟩ => ?_
  exact q2 σ G2 H2 u v h2 (r1.mono s2) r2 _ fun z H' p => pE_back (s1.trans s2) p
/-- a value that is a bool -/
def blP (Q : Bool → State → Prop) : D → State → Prop := fun d S => ∃ k, d = .bl k ∧ Q k S
theorem rep_bl {v : V} {k : Bool} (h : RepX X G v (.bl k)) : v = .bl k := by cases h; rfl
theorem rep_int {v : V} {k : Int} (h : RepX X G v (.int k)) : v = .int k := by cases h; rfl
theorem rep_str {v : V} {k : Str} (h : RepX X G v (.str k)) : v = .str k := by cases h; rfl
theorem rep_non {v : V} (h : RepX X G v .non) : v = .non := by cases h; rfl
theorem rep_lst {v : V} {ds : List D} (h : RepX X G v (.lst ds)) : ∃ a vs, v = .ref a ∧ G a = some (.lst vs) ∧ Reps X.K X.mg G vs ds := by
  cases h with
  | lst h r _ => exact ⟨_, _, rfl, h, r⟩
theorem rep_tup {v : V} {ds : List D} (h : RepX X G v (.tup ds)) : ∃ a vs, v = .ref a ∧ G a = some (.tup vs) ∧ Reps X.K X.mg G vs ds := by
  cases h with
  | tup h r _ => exact ⟨_, _, rfl, h, r⟩
theorem lst_len {v : V} {ds : List D} (h : RepX X G v (.lst ds)) : ds.length ≤ sizeLine := by
  cases h with
  | lst _ _ z => exact z
theorem tup_len {v : V} {ds : List D} (h : RepX X G v (.tup ds)) : ds.length ≤ sizeLine := by
  cases h with
  | tup _ _ z => exact z
theorem vt_cmp {op : CmpOp} {r : R2} {Q : Bool → State → Prop} (ho : OpR X (compareOp op) r) (h : VE X c S a fun x S1 => VE X c S1 b fun y S2 => RB X c S2 r x y (blP Q)) (hm : behindInMarks op b = false) : VT X c S (.Compare a [op] [b] pos) Q := fun σ G H hd => by
  refine tT_of (pt_cmpR ho pe_sem pe_sem hm) ?_
  refine tE_mono (h σ G H hd) fun u H1 ⟨x, S1, G1, h1, s1, r1, q1⟩ => tE_mono (q1 σ G1 H1 h1) fun v H2 ⟨y, S2, G2, h2, s2, r2, q2⟩ => ?_
  refine q2 σ G2 H2 u v h2 (r1.mono s2) r2 _ fun z H' ⟨d, S', G', h3, s3, r3, k, e, q3⟩ => ?_
  subst e
  exact ⟨k, rep_bl r3, S', G', h3, s1.trans (s2.trans s3), q3⟩
/-! ### ints -/
section
variable {g : Int → Int → V} {gd : Int → Int → D} {C : Int → Int → Prop} {i j : Int}
theorem rb_I0 (hg : ∀ i j, RepX X G (g i j) (gd i j)) : True := trivial
theorem rb_int {f : Int → Int → Int} (q : Q (.int (f i j)) S) : RB X c S (rI0 fun i j => .int (f i j)) (.int i) (.int j) Q := fun σ G H u v hd ru rv R hR =>
  ⟨i, j, rep_int ru, rep_int rv, hR _ _ (pE_ret hd .int q)⟩
theorem rb_intC {f : Int → Int → Int} (hC : C i j) (q : Q (.int (f i j)) S) : RB X c S (rI C fun i j => .int (f i j)) (.int i) (.int j) Q := fun σ G H u v hd ru rv R hR =>
  ⟨i, j, rep_int ru, rep_int rv, hC, hR _ _ (pE_ret hd .int q)⟩
theorem rb_bl {f : Int → Int → Bool} (q : Q (.bl (f i j)) S) : RB X c S (rI0 fun i j => .bl (f i j)) (.int i) (.int j) Q := fun σ G H u v hd ru rv R hR =>
  ⟨i, j, rep_int ru, rep_int rv, hR _ _ (pE_ret hd .bl q)⟩
end
theorem RB.or1 {r r' : R2} {x y : D} (h : RB X c S r x y Q) : RB X c S (fun x y H Q => r x y H Q ∨ r' x y H Q) x y Q := fun σ G H u v hd ru rv R hR => .inl (h σ G H u v hd ru rv R hR)
theorem RB.or2 {r r' : R2} {x y : D} (h : RB X c S r' x y Q) : RB X c S (fun x y H Q => r x y H Q ∨ r' x y H Q) x y Q := fun σ G H u v hd ru rv R hR => .inr (h σ G H u v hd ru rv R hR)
end
end VL
set_option Elab.async false
set_option linter.all false
set_option maxRecDepth 100000
set_option maxHeartbeats 4000000
/-! VL2: statements, arguments, calls, bodies. -/
namespace VL
open PySem PySem.Spec PyProof.Rows L2

section
variable {X : Cx} {c : Cv} {S : State} {e a b : Expr} {es : List Expr} {st : Stmt} {sts : List Stmt} {σ : L2.St} {G G' H : Hp} {pos : Pos} {Q : D → State → Prop} {E : VD}

/-! ### states -/
def State.put (S : State) (i : Nat) (sl : Sl) : State := ⟨S.ρ.set i sl, S.pn⟩
theorem ownAt_set {ρ : List Sl} {i j : Nat} {sl : Sl} (h : ownAt (ρ.set i sl) j) : (j ≠ i ∧ ownAt ρ j) ∨ (j = i ∧ sl.isOwn = true) := by
  obtain ⟨s2, h1, h2⟩ := h
  by_cases q : i = j
  · subst q
    by_cases hl : i < ρ.length
    · rw [List.getElem?_set_self hl] at h1
      cases h1
      exact .inr ⟨rfl, h2⟩
    · rw [List.getElem?_eq_none (by simpa using hl)] at h1
      cases h1
  · rw [List.getElem?_set_ne q] at h1
    exact .inl ⟨fun z => q z.symm, s2, h1, h2⟩
/-- a slot is stored with a frozen value (or forgotten) -/
theorem Hd.set {K : PySem.W.Frag} {mg : Str → Option Value} {i : Nat} {o : Option V} {sl : Sl} (h : Hd K mg c S σ G H) (hs : SlOk K mg G H o sl) (hn : sl.isOwn = false) : Hd K mg c (S.put i sl) (σ.set i o) G H where
  sub := h.sub
  len := by
    show (σ.set i o).length = (S.ρ.set i sl).length
    rw [List.length_set, List.length_set, h.len]
  slots := fun j s2 e => by
    have e' : (S.ρ.set i sl)[j]? = some s2 := e
    by_cases q : i = j
    · subst q
      by_cases hl : i < S.ρ.length
      · rw [List.getElem?_set_self hl] at e'
        cases e'
        exact ⟨o, List.getElem?_set_self (by rw [h.len]; exact hl), hs⟩
      · rw [List.getElem?_eq_none (by simpa using hl)] at e'
        cases e'
    · rw [List.getElem?_set_ne q] at e'
      rw [List.getElem?_set_ne q]
      exact h.slots j s2 e'
  dist := fun j k l hjk oj ok => by
    rcases ownAt_set oj with ⟨n1, o1⟩ | ⟨_, z⟩
    · rcases ownAt_set ok with ⟨n2, o2⟩ | ⟨_, z⟩
      · rw [List.getElem?_set_ne (Ne.symm n1), List.getElem?_set_ne (Ne.symm n2)]
        exact h.dist j k l hjk o1 o2
      · rw [hn] at z; cases z
    · rw [hn] at z; cases z
  pen := h.pen
  padr := h.padr
  ext0 := h.ext0
  new0 := h.new0
  keep0 := h.keep0
  tbl0 := h.tbl0
  tabs := h.tabs
  fresh := fun ht j l oj => by
    rcases ownAt_set oj with ⟨n1, o1⟩ | ⟨_, z⟩
    · rw [List.getElem?_set_ne (Ne.symm n1)]
      exact h.fresh ht j l o1
    · rw [hn] at z; cases z
theorem Hd.setVal {K : PySem.W.Frag} {mg : Str → Option Value} {i : Nat} {v : V} {d : D} (h : Hd K mg c S σ G H) (r : Rep K mg G v d) : Hd K mg c (S.put i (.val d)) (σ.set i (some v)) G H := h.set (sl := .val d) ⟨v, rfl, r⟩ rfl
/-- a slot is stored with a new list of one's own -/
theorem Hd.setOwn {K : PySem.W.Frag} {mg : Str → Option Value} {i : Nat} {l : Addr} {vs : List V} {ds : List D} (h : Hd K mg c S σ G H) (hl : H l = none) (r : Reps K mg G vs ds) (hz : ds.length ≤ sizeLine) : Hd K mg c (S.put i (.own ds)) (σ.set i (some (.ref l))) G (upd H l (.lst vs)) := by
  have h1 := h.after (h.allocH (o := .lst vs) hl)
  have e0 : ({ S with pn := S.pn } : State) = S := rfl
  rw [e0] at h1
  have hGl : G l = none := h.sub.free hl
  have other : ∀ (j : Nat) (l' : Addr), ownAt S.ρ j → σ[j]? = some (some (.ref l')) → l' ≠ l := fun j l' oj e z => by
    obtain ⟨sl, q1, q2⟩ := oj
    obtain ⟨o, q3, q4⟩ := h.slots j sl q1
    rw [q3] at e
    cases e
    cases sl with
    | un => cases q2
    | val d => cases q2
    | own ds =>
      obtain ⟨l2, vs2, e1, e2, _⟩ := q4
      cases e1
      rw [z, hl] at e2; cases e2
    | obj a c ks ds =>
      obtain ⟨C, dx, fs, e1, e2, e3, _⟩ := q4
      cases e1
      rw [z, hl] at e3; cases e3
  refine ⟨h1.sub, ?_, fun j s2 e => ?_, fun j k l' hjk oj ok => ?_, h1.pen, h1.padr, h1.ext0, h1.new0, h1.keep0, fun ht j l' oj => ?_, h1.tbl0, h1.tabs⟩
  · show (σ.set i _).length = (S.ρ.set i _).length
    rw [List.length_set, List.length_set, h.len]
  · have e' : (S.ρ.set i (.own ds))[j]? = some s2 := e
    by_cases q : i = j
    · subst q
      by_cases hb : i < S.ρ.length
      · rw [List.getElem?_set_self hb] at e'
        cases e'
        exact ⟨_, List.getElem?_set_self (by rw [h.len]; exact hb), l, vs, rfl, upd_same, hGl, r, hz⟩
      · rw [List.getElem?_eq_none (by simpa using hb)] at e'
        cases e'
    · rw [List.getElem?_set_ne q] at e'
      rw [List.getElem?_set_ne q]
      exact h1.slots j s2 e'
  · intro e1 e2
    rcases ownAt_set oj with ⟨n1, o1⟩ | ⟨n1, _⟩
    · rw [List.getElem?_set_ne (Ne.symm n1)] at e1
      rcases ownAt_set ok with ⟨n2, o2⟩ | ⟨n2, _⟩
      · rw [List.getElem?_set_ne (Ne.symm n2)] at e2
        exact h.dist j k l' hjk o1 o2 e1 e2
      · subst n2
        have q := other j l' o1 e1
        by_cases hb : k < σ.length
        · rw [List.getElem?_set_self hb] at e2
          cases e2
          exact q rfl
        · rw [List.getElem?_eq_none (by simpa using hb)] at e2
          cases e2
    · subst n1
      have hjl : l' = l := by
        by_cases hb : j < σ.length
        · rw [List.getElem?_set_self hb] at e1
          cases e1
          rfl
        · rw [List.getElem?_eq_none (by simpa using hb)] at e1
          cases e1
      rcases ownAt_set ok with ⟨n2, o2⟩ | ⟨n2, _⟩
      · rw [List.getElem?_set_ne (Ne.symm n2)] at e2
        exact other k l' o2 e2 hjl
      · exact hjk n2.symm
  · intro e1
    rcases ownAt_set oj with ⟨n1, o1⟩ | ⟨n1, _⟩
    · rw [List.getElem?_set_ne (Ne.symm n1)] at e1
      exact h.fresh ht j l' o1 e1
    · subst n1
      by_cases hb : j < σ.length
      · rw [List.getElem?_set_self hb] at e1
        cases e1
        exact h.h0none hl
      · rw [List.getElem?_eq_none (by simpa using hb)] at e1
        cases e1
/-- one's own list becomes a value -/
theorem Hd.freeze {K : PySem.W.Frag} {mg : Str → Option Value} {i : Nat} {ds : List D} (h : Hd K mg c S σ G H) (hρ : S.ρ[i]? = some (.own ds)) (ht : c.top = true) :
    ∃ l vs, σ[i]? = some (some (.ref l)) ∧ Hd K mg c (S.put i (.val (.lst ds))) σ (upd G l (.lst vs)) H ∧ Same G (upd G l (.lst vs)) ∧ Rep K mg (upd G l (.lst vs)) (.ref l) (.lst ds) := by
  obtain ⟨o, e1, l, vs, e2, hl, gl, r, hz⟩ := h.slots i _ hρ
  subst e2
  have sm : Same G (upd G l (.lst vs)) := same_upd gl
  have rep : Rep K mg (upd G l (.lst vs)) (.ref l) (.lst ds) := .lst upd_same (r.mono sm) hz
  refine ⟨l, vs, e1, ⟨fun b u q => ?_, ?_, fun j s2 e => ?_, fun j k l' hjk oj ok => ?_, fun p r q => ?_, h.padr, h.ext0.trans sm, fun b u q => ?_, h.keep0, fun ht j l' oj => ?_, h.tbl0, fun p hp => (h.tabs p hp).mono sm (fun _ e => e) (fun g => by
    obtain ⟨ps, e2, _⟩ := h.tabs p hp
    rw [upd_ne (fun z => by rw [z, hl] at e2; cases e2)]; exact g)⟩, sm, rep⟩
  · by_cases z : b = l
    · subst z; rw [upd_same] at q; cases q; exact hl
    · rw [upd_ne z] at q; exact h.sub _ _ q
  · show σ.length = (S.ρ.set i _).length
    rw [List.length_set, h.len]
  · have e' : (S.ρ.set i (.val (.lst ds)))[j]? = some s2 := e
    by_cases q : i = j
    · subst q
      have hb : i < S.ρ.length := (List.getElem?_eq_some_iff.mp hρ).1
      rw [List.getElem?_set_self hb] at e'
      cases e'
      exact ⟨_, e1, _, rfl, rep⟩
    · rw [List.getElem?_set_ne q] at e'
      obtain ⟨o2, q1, q2⟩ := h.slots j s2 e'
      refine ⟨o2, q1, ?_⟩
      cases s2 with
      | un => trivial
      | val d => exact ⟨_, q2.choose_spec.1, q2.choose_spec.2.mono sm⟩
      | own ds2 =>
        obtain ⟨l2, vs2, z1, z2, z3, z4, z5⟩ := q2
        have hne : l2 ≠ l := fun y => by
          subst z1; subst y
          exact h.dist i j l2 q ⟨_, hρ, rfl⟩ ⟨_, e', rfl⟩ e1 q1
        exact ⟨l2, vs2, z1, z2, by rw [upd_ne hne]; exact z3, z4.mono sm, z5⟩
      | obj a cc ks ds2 =>
        obtain ⟨C, dx, fs, z1, z2, z3, z4, z5, z6, z7, z8⟩ := q2
        have ha : a ≠ l := ne_of z3 hl (fun y => nomatch y)
        have hd : dx ≠ l := ne_of z4 hl (fun y => nomatch y)
        exact ⟨C, dx, fs, z1, z2, z3, z4, by rw [upd_ne ha]; exact z5, by rw [upd_ne hd]; exact z6, z7, z8.mono sm⟩
  · rcases ownAt_set oj with ⟨_, o1⟩ | ⟨_, z⟩
    · rcases ownAt_set ok with ⟨_, o2⟩ | ⟨_, z⟩
      · exact h.dist j k l' hjk o1 o2
      · cases z
    · cases z
  · obtain ⟨⟨cc, cells, bb, ll, p1, p2, p3, p4⟩, pa⟩ := h.pen p r q
    have hne : p ≠ l := ne_of p1 hl (fun y => nomatch y)
    exact ⟨⟨cc, cells, bb, ll, p1, by rw [upd_ne hne]; exact p2, Same.seq sm p3, p4⟩, pa⟩
  · by_cases z : b = l
    · subst z
      exact .inr (h.fresh ht i b ⟨_, hρ, rfl⟩ e1)
    · rw [upd_ne z] at q; exact h.new0 _ _ q
  · rcases ownAt_set oj with ⟨_, o1⟩ | ⟨_, z⟩
    · exact h.fresh ht j l' o1
    · cases z
/-- one's own list is changed -/
theorem Hd.mut {K : PySem.W.Frag} {mg : Str → Option Value} {i : Nat} {ds ds' : List D} {vs' : List V} {l : Addr} (h : Hd K mg c S σ G H) (hρ : S.ρ[i]? = some (.own ds)) (ht : c.top = true) (e1 : σ[i]? = some (some (.ref l)))
    (r : Reps K mg G vs' ds') (hz : ds'.length ≤ sizeLine) : Hd K mg c (S.put i (.own ds')) σ G (upd H l (.lst vs')) := by
  obtain ⟨o, e1', l', vs, e2, hl, gl, _, _⟩ := h.slots i _ hρ
  rw [e1] at e1'
  cases e1'
  cases e2
  have hb : i < S.ρ.length := (List.getElem?_eq_some_iff.mp hρ).1
  have own' : ∀ {j : Nat}, ownAt (S.ρ.set i (.own ds')) j → ownAt S.ρ j := fun {j} oj => by
    rcases ownAt_set oj with ⟨_, o1⟩ | ⟨z, _⟩
    · exact o1
    · subst z; exact ⟨_, hρ, rfl⟩
  refine ⟨fun b u q => ?_, ?_, fun j s2 e => ?_, fun j k l' hjk oj ok => h.dist j k l' hjk (own' oj) (own' ok), fun p r q => ?_, h.padr, h.ext0, h.new0, fun b u q hp hx => ?_, fun ht j l' oj => h.fresh ht j l' (own' oj), h.tbU hl (fun _ z => nomatch z), h.tsU hl (fun _ z => nomatch z)⟩
  · rw [upd_ne (ne_of_none q gl)]; exact h.sub _ _ q
  · show σ.length = (S.ρ.set i _).length
    rw [List.length_set, h.len]
  · have e' : (S.ρ.set i (.own ds'))[j]? = some s2 := e
    by_cases q : i = j
    · subst q
      rw [List.getElem?_set_self hb] at e'
      cases e'
      exact ⟨_, e1, l, vs', rfl, upd_same, gl, r, hz⟩
    · rw [List.getElem?_set_ne q] at e'
      obtain ⟨o2, q1, q2⟩ := h.slots j s2 e'
      refine ⟨o2, q1, ?_⟩
      cases s2 with
      | un => trivial
      | val d => exact q2
      | own ds2 =>
        obtain ⟨l2, vs2, z1, z2, z3, z4⟩ := q2
        have hne : l2 ≠ l := fun y => by
          subst z1; subst y
          exact h.dist i j l2 q ⟨_, hρ, rfl⟩ ⟨_, e', rfl⟩ e1 q1
        exact ⟨l2, vs2, z1, by rw [upd_ne hne]; exact z2, z3, z4⟩
      | obj a cc ks ds2 =>
        obtain ⟨C, dx, fs, z1, z2, z3, z4, z5, z6, z7, z8⟩ := q2
        have ha : a ≠ l := ne_of z3 hl (fun y => nomatch y)
        have hd : dx ≠ l := ne_of z4 hl (fun y => nomatch y)
        exact ⟨C, dx, fs, z1, z2, by rw [upd_ne ha]; exact z3, by rw [upd_ne hd]; exact z4, z5, z6, z7, z8⟩
  · obtain ⟨⟨cc, cells, bb, ll, p1, p4⟩, pa⟩ := h.pen p r q
    have hne : p ≠ l := ne_of p1 hl (fun y => nomatch y)
    exact ⟨⟨cc, cells, bb, ll, by rw [upd_ne hne]; exact p1, p4⟩, pa⟩
  · have hne : b ≠ l := fun y => by
      subst y
      rw [h.fresh ht i b ⟨_, hρ, rfl⟩ e1] at q
      cases q
    rw [upd_ne hne]; exact h.keep0 _ _ q hp hx

/-! ### reading one's own list as a value -/
theorem ve_freeze (i : Nat) {x : Str} {ds : List D} (hρ : S.ρ[i]? = some (.own ds)) (ht : c.top = true) (q : Q (.lst ds) (S.put i (.val (.lst ds)))) (hN : X.N[i]? = some x := by rfl) (hv : Vis X.env.scope x := by first | exact Or.inl rfl | exact Or.inr (Or.inl rfl) | exact Or.inr (Or.inr rfl))
    (hd : (x == ("__debug__" : Str)) = false := by decide) (hcd : (x == ("__classdict__" : Str)) = false := by decide) : VE X c S (.Name x pos) Q := fun σ G H h => by
  obtain ⟨l, vs, e1, h1, s1, r1⟩ := h.freeze hρ ht
  exact tE_of (pv i hN hv hd hcd) ⟨.ref l, e1, _, _, _, h1, s1, r1, q⟩

/-! ### blocks -/
theorem ends_back {E : VD} (s : Same G G') (E' : VD := E) : True := trivial
theorem tSs_back (s : Same G G') (h : tSs X sts (ends X c G' E) σ H) : tSs X sts (ends X c G E) σ H :=
  tSs_mono h (fun _ _ ⟨S', G'', h1, h2, h3⟩ => ⟨S', G'', h1, s.trans h2, h3⟩) (fun _ _ ⟨d, S', σ', G'', h1, h2, h3, h4⟩ => ⟨d, S', σ', G'', h1, s.trans h2, h3, h4⟩)
    (fun _ _ ⟨S', G'', h1, h2, h3⟩ => ⟨S', G'', h1, s.trans h2, h3⟩) (fun _ _ ⟨S', G'', h1, h2, h3⟩ => ⟨S', G'', h1, s.trans h2, h3⟩)
theorem vss_nil (q : E.nx S) : VSs X c S [] E := fun σ G H h => tSs_of pss_nil ⟨S, G, h, Same.refl _, q⟩
theorem vss_cons (h : VS X c S st { E with nx := fun S1 => VSs X c S1 sts E }) : VSs X c S (st :: sts) E := fun σ G H hd => by
  refine tSs_of (pss_cons ps_sem pss_sem) ?_
  refine tS_mono (h σ G H hd) (fun σ' H' ⟨S', G', h1, s1, q⟩ => tSs_back s1 (q σ' G' H' h1)) (fun _ _ q => q) (fun _ _ q => q) (fun _ _ q => q)
theorem vss_one (h : VS X c S st E) : VSs X c S [st] E := fun σ G H hd => tSs_of (pss_one ps_sem) (h σ G H hd)
theorem vs_pass (q : E.nx S) : VS X c S (.Pass pos) E := fun σ G H h => tS_of ps_pass ⟨S, G, h, Same.refl _, q⟩
theorem vs_break (q : E.bk S) : VS X c S (.Break pos) E := fun σ G H h => tS_of ps_break ⟨S, G, h, Same.refl _, q⟩
theorem vs_continue (q : E.ct S) : VS X c S (.Continue pos) E := fun σ G H h => tS_of ps_continue ⟨S, G, h, Same.refl _, q⟩
theorem vs_ret (h : VE X c S e E.rt) : VS X c S (.Return (some e) pos) E := fun σ G H hd => by
  refine tS_of (ps_ret pe_sem) (tE_mono (h σ G H hd) fun v H' ⟨d, S', G', h1, s1, r, q⟩ => ⟨d, S', σ, G', h1, s1, r, q⟩)
theorem vs_retN (q : E.rt .non S) : VS X c S (.Return none pos) E := fun σ G H h => tS_of ps_retN ⟨.non, S, σ, G, h, Same.refl _, .non, q⟩
theorem vs_expr (h : VE X c S e fun _ S' => E.nx S') (hs : swapsWith e none pos.line X.env = pure false := by rfl) : VS X c S (.Expr e pos) E := fun σ G H hd => by
  exact tS_of (ps_expr pe_sem hs) (tE_mono (h σ G H hd) fun v H' ⟨d, S', G', h1, s1, r, q⟩ => ⟨S', G', h1, s1, q⟩)
theorem vs_if {t u : List Stmt} (h : VT X c S e fun k S' => (k = true → VSs X c S' t E) ∧ (k = false → VSs X c S' u E)) : VS X c S (.If e t u pos) E := fun σ G H hd => by
  refine tS_of (ps_if pt_sem pss_sem pss_sem) (tT_mono (h σ G H hd) fun k H' ⟨S', G', h1, s1, q⟩ => ?_)
  cases k with
  | true => exact tSs_back s1 (q.1 rfl σ G' H' h1)
  | false => exact tSs_back s1 (q.2 rfl σ G' H' h1)
/-- name = value -/
theorem vs_set (i : Nat) {x : Str} {pos' : Pos} (h : VE X c S e fun d S' => E.nx (S'.put i (.val d))) (hN : X.N.Nodup) (hi : X.N[i]? = some x := by rfl) (hx : Loc X.env.scope x := by first | exact Or.inl rfl | exact Or.inr rfl)
    (hs : swapsWith e (some (.Name x pos')) pos.line X.env = pure false := by rfl) (hf : X.fn x = true ∨ X.env.scope.names.lookup x = some .local := by first | exact .inl rfl | exact .inr rfl) : VS X c S (.Assign [.Name x pos'] e pos) E := fun σ G H hd => by
  refine tS_of (ps_set hN hi hx pe_sem hs hf) (tE_mono (h σ G H hd) fun v H' ⟨d, S', G', h1, s1, r, q⟩ => ⟨_, G', h1.setVal r, s1, q⟩)
/-- name = [..], one's own -/
theorem vs_setOwn (i : Nat) {x : Str} {pos' pos2 : Pos} (h : VA X c S es fun ds S' => ds.length ≤ sizeLine ∧ E.nx (S'.put i (.own ds))) (hN : X.N.Nodup) (hi : X.N[i]? = some x := by rfl) (hx : Loc X.env.scope x := by first | exact Or.inl rfl | exact Or.inr rfl)
    (hs : swapsWith (.List es pos2) (some (.Name x pos')) pos.line X.env = pure false := by rfl) (hf : X.fn x = true ∨ X.env.scope.names.lookup x = some .local := by first | exact .inl rfl | exact .inr rfl) : VS X c S (.Assign [.Name x pos'] (.List es pos2) pos) E := fun σ G H hd => by
  refine tS_of (ps_set hN hi hx (pe_lst pa_sem) hs hf) (tA_mono (h σ G H hd) fun vs H' ⟨ds, S', G', h1, s1, r, hl, q⟩ => ⟨by rw [r.length]; exact hl, fun p hp => ⟨_, G', h1.setOwn hp r hl, s1, q⟩⟩)
/-- name op= e of ints -/
theorem vs_aug (i : Nat) {x : Str} {op : Operator} {pos' : Pos} {ti : TIp} {d0 : D} (hρ : S.ρ[i]? = some (.val d0)) (ho : PIp X op ti)
    (h : VE X c S e fun y S' => ∀ σ G H u v, HdX X c S' σ G H → RepX X G u d0 → RepX X G v y → ti u v H (pE X c σ G fun z S2 => E.nx (S2.put i (.val z))))
    (hm : ∀ u v H (Q Q' : VK), (∀ z H', Q z H' → Q' z H') → ti u v H Q → ti u v H Q')
    (hN : X.N.Nodup) (hi : X.N[i]? = some x := by rfl) (hx : Loc X.env.scope x := by first | exact Or.inl rfl | exact Or.inr rfl)
    (hf : X.fn x = true ∨ X.env.scope.names.lookup x = some .local := by first | exact .inl rfl | exact .inr rfl) : VS X c S (.AugAssign (.Name x pos') op e pos) E := fun σ G H hd => by
  obtain ⟨o, e1, v0, e2, r0⟩ := hd.slots i _ hρ
  subst e2
  refine tS_of (ps_aug hN hi hx pe_sem ho hf) ⟨v0, e1, tE_mono (h σ G H hd) fun v H' ⟨d, S', G', h1, s1, r, q⟩ => ?_⟩
  refine hm _ _ _ _ _ (fun z H2 ⟨dz, S2, G2, h2, s2, r2, q2⟩ => ⟨_, G2, h2.setVal r2, s1.trans s2, q2⟩) (q σ G' H' v0 v h1 (r0.mono s1) r)
theorem vs_augI (i : Nat) {x : Str} {pos' : Pos} {f : Int → Int → Int} {op : Operator} {a : Int} (ho : PIp X op (ipI f)) (hρ : S.ρ[i]? = some (.val (.int a))) (h : VE X c S e fun y S' => ∃ b, y = .int b ∧ E.nx (S'.put i (.val (.int (f a b)))))
    (hN : X.N.Nodup) (hi : X.N[i]? = some x := by rfl) (hx : Loc X.env.scope x := by first | exact Or.inl rfl | exact Or.inr rfl)
    (hf : X.fn x = true ∨ X.env.scope.names.lookup x = some .local := by first | exact .inl rfl | exact .inr rfl) : VS X c S (.AugAssign (.Name x pos') op e pos) E := by
  refine vs_aug i hρ ho (h.imp fun y S' ⟨b, eb, q⟩ σ G H u v h1 ru rv => ?_) (fun u v H Q Q' hq ⟨i, j, e1, e2, q⟩ => ⟨i, j, e1, e2, hq _ _ q⟩) hN hi hx hf
  subst eb
  exact ⟨a, b, rep_int ru, rep_int rv, pE_ret h1 .int q⟩
theorem vs_par (i j : Nat) {x y : Str} {px py pt : Pos} {kt k2 pt2} (h : VA X c S [a, b] fun ds S' => ∃ d1 d2, ds = [d1, d2] ∧ E.nx ((S'.put i (.val d1)).put j (.val d2))) (hc : X.calm = true) (hN : X.N.Nodup) (hi : X.N[i]? = some x := by rfl) (hj : X.N[j]? = some y := by rfl) (hij : i ≠ j := by decide)
    (hx : X.env.scope.names.lookup x = some .local := by rfl) (hy : X.env.scope.names.lookup y = some .local := by rfl)
    (hw : swappedStores [.Tuple [.Name x px, .Name y py] kt pt] (.Tuple [a, b] k2 pt2) X.env = pure (some [x, y]) := by rfl)
    (hs : swapsWithSole [.Tuple [.Name x px, .Name y py] kt pt] (.Tuple [a, b] k2 pt2) pos.line X.env = pure false := by rfl) : VS X c S (.Assign [.Tuple [.Name x px, .Name y py] kt pt] (.Tuple [a, b] k2 pt2) pos) E := fun σ G H hd => by
  refine tS_of (ps_par hc hN hi hj hij hx hy pa_sem hw hs) (tA_mono (h σ G H hd) fun vs H' ⟨ds, S', G', h1, s1, r, d1, d2, e, q⟩ => ?_)
  subst e
  cases r with
  | cons r1 r2 =>
    cases r2 with
    | cons r2 r3 =>
      cases r3
      exact ⟨_, _, rfl, _, G', (h1.setVal r1).setVal r2, s1, q⟩

/-! ### arguments -/
theorem va_nil {Q : List D → State → Prop} (q : Q [] S) : VA X c S [] Q := fun σ G H h => tA_of pa_nil ⟨[], S, G, h, Same.refl _, .nil, q⟩
theorem va_cons {Q : List D → State → Prop} (h : VE X c S e fun d S1 => VA X c S1 es fun ds S2 => Q (d :: ds) S2) (hs : starEach (e :: es) X.env = (false, eval e X.env) :: starEach es X.env := by rfl) : VA X c S (e :: es) Q := fun σ G H hd => by
  refine tA_of (pa_cons pe_sem pa_sem hs) (tE_mono (h σ G H hd) fun v H1 ⟨d, S1, G1, h1, s1, r1, q1⟩ => tA_mono (q1 σ G1 H1 h1) fun vs H2 ⟨ds, S2, G2, h2, s2, r2, q2⟩ => ?_)
  exact ⟨d :: ds, S2, G2, h2, s1.trans s2, .cons (r1.mono s2) r2, q2⟩
theorem ve_tup {k} (h : VA X c S es fun ds S' => ds.length ≤ sizeLine ∧ Q (.tup ds) S') : VE X c S (.Tuple es k pos) Q := fun σ G H hd => by
  refine tE_of (pe_tup pa_sem) (tA_mono (h σ G H hd) fun vs H1 ⟨ds, S1, G1, h1, s1, r1, hl, q1⟩ => ⟨by rw [r1.length]; exact hl, fun p hp => pE_back s1 (pE_new h1 hp (.tup upd_same (r1.mono (same_upd (h1.sub.free hp))) hl) q1)⟩)
theorem ve_lst (h : VA X c S es fun ds S' => ds.length ≤ sizeLine ∧ Q (.lst ds) S') : VE X c S (.List es pos) Q := fun σ G H hd => by
  refine tE_of (pe_lst pa_sem) (tA_mono (h σ G H hd) fun vs H1 ⟨ds, S1, G1, h1, s1, r1, hl, q1⟩ => ⟨by rw [r1.length]; exact hl, fun p hp => pE_back s1 (pE_new h1 hp (.lst upd_same (r1.mono (same_upd (h1.sub.free hp))) hl) q1)⟩)
end
end VL
set_option Elab.async false
set_option linter.all false
set_option maxRecDepth 100000
set_option maxHeartbeats 4000000
/-! VL3: contracts, calls of defs, bodies of defs, exceptions that pass. -/
namespace VL
open PySem PySem.Spec PyProof.Rows L2

/-- an exception of an own class, by values -/
def ExRep (K : PySem.W.Frag) (mg : Str → Option Value) (G : Hp) (cls : Value) (d : Option Addr) (x : ExD) : Prop :=
  ∃ C, mg x.c = some (.ref C) ∧ cls = .ref C ∧ ((x.ks = [] ∧ x.ds = []) ∨ ∃ dd fs, d = some dd ∧ G dd = some (.xd fs) ∧ fs.map (·.1) = x.ks ∧ Reps K mg G (fs.map (·.2)) x.ds)
/-- the wish of an exception, by values -/
def WV (X : Cx) (c : Cv) : WX := fun cls d σ H => ∃ S G x, HdX X c S σ G H ∧ ExRep X.K X.mg G cls d x ∧ c.EV x S

structure Ct where
  run : List D → Pn → (D → Pn → Prop) → (ExD → Pn → Prop) → Prop
  mono : ∀ {ds pn k k' e e'}, run ds pn k e → (∀ d p, k d p → k' d p) → (∀ x p, e x p → e' x p) → run ds pn k' e'

def spV (cf : Cfg) (K : PySem.W.Frag) (mg : Str → Option Value) (ct : Ct) : Sp := fun vs H Q E => ∃ G ds pn, Same G H ∧ Reps K mg G vs ds ∧ (∀ p r, pn = some (p, r) → PenOk cf K G H p r) ∧ (∀ p ∈ cf.tb, TabG G H p.1 p.2) ∧
  ct.run ds pn (fun d pn' => ∀ v G' H', After cf K G H pn G' H' pn' → Rep K mg G' v d → Q v H') (fun x pn' => ∀ cls dd G' H', After cf K G H pn G' H' pn' → ExRep K mg G' cls dd x → E cls dd H')

/-- a def of the module by its contract; dd: the defaults that fill up -/
structure VFn (P : Program) (w : World) (K : PySem.W.Frag) (mg : Str → Option Value) (base : Heap) (cf : Cfg) (k : Nat) (x : Str) (dd : List D) (ct : Ct) : Prop where
  ex : ∃ f fd ps dvs ds, FnOk P w K mg base (L2.CX P w) k f fd ps (spV cf K mg ct) ∧ mg x = some (.ref f) ∧ PySem.W.keepIn K (.ref f) = true ∧ Binds K fd ps ds ∧ Vals dvs ds ∧ Reps K mg (fun _ => none) dvs dd

section
variable {X : Cx} {c : Cv} {S : State} {e a b : Expr} {es : List Expr} {st : Stmt} {sts : List Stmt} {σ : L2.St} {G G' H : Hp} {pos : Pos} {Q : D → State → Prop} {E : VD} {k : Nat} {x : Str} {dd : List D} {ct : Ct}
theorem same_none {G : Hp} : Same (fun _ => none) G := fun _ _ h => nomatch h
/-- what a call hands to its callee -/
theorem spV_call {vs : List V} {ds : List D} {H1 G1 : Hp} {S1 : State} {k : D → Pn → Prop} {e : ExD → Pn → Prop} {R : VK} {RX : XK} (h1 : HdX X c S1 σ G1 H1) (r : Reps X.K X.mg G1 vs ds) (q : ct.run ds S1.pn k e)
    (hk : ∀ d pn', k d pn' → ∀ v G' H', HdX X c { S1 with pn := pn' } σ G' H' → Same G1 G' → RepX X G' v d → R v H')
    (he : ∀ x pn', e x pn' → ∀ cls dd G' H', HdX X c { S1 with pn := pn' } σ G' H' → ExRep X.K X.mg G' cls dd x → RX cls dd H') : spV c.cf X.K X.mg ct vs H1 R RX :=
  ⟨G1, ds, S1.pn, h1.sub, r, fun p r e => (h1.pen p r e).1, h1.tabs, ct.mono q (fun d pn' kd v G' H' A rv => hk d pn' kd v G' H' (h1.after A) A.ext rv) (fun x pn' ex cls dd G' H' A rx => he x pn' ex cls dd G' H' (h1.after A) rx)⟩
theorem ve_call {p : Pos} (F : VFn X.prog X.w X.K X.mg X.base c.cf k x dd ct) (hr : Room k X.A) (tk : Takes X (WV X c))
    (h : VA X c S (e :: es) fun ds S1 => ct.run (ds ++ dd) S1.pn (fun d pn' => Q d { S1 with pn := pn' }) (fun y pn' => c.EV y { S1 with pn := pn' })) (hg : Gl X x := by rfl)
    (hdb : (x == ("__debug__" : Str)) = false := by decide) (he : starEach (e :: es) X.env = (false, eval e X.env) :: starEach es X.env := by rfl) (hpl : (backTo pos (starEach es X.env)).any (·.1) = false := by rfl) :
    VE X c S (.Call (.Name x p) (e :: es) [] pos) Q := fun σ G H hd => by
  obtain ⟨f, fd, ps, dvs, ds, ok, hm, hk, hb, hv, hdd⟩ := F.ex
  refine tE_of (pe_callSD ok hr hg hm hk hb hv (fun σ => passAt tk σ) pa_sem hdb he hpl) ?_
  refine tA_mono (h σ G H hd) fun vs H1 ⟨ds1, S1, G1, h1, s1, r1, q1⟩ => ?_
  exact spV_call h1 (r1.append (hdd.mono same_none)) q1 (fun d pn' q v G' H' h2 s2 rv => ⟨d, _, G', h2, s1.trans s2, rv, q⟩) (fun y pn' q cls dd' G' H' h2 rx => ⟨_, G', y, h2, rx, q⟩)
theorem pe_call0S {E' : L2.St → XK} {sp : Sp} {f : Addr} {fd : FuncData} {ps : List Str} {ds : List Value} {dvs : List V} {p : Pos} (F : FnOk X.prog X.w X.K X.mg X.base (L2.CX X.prog X.w) k f fd ps sp) (hr : Room k X.A) (hg : Gl X x) (hm : X.mg x = some (.ref f)) (hk : PySem.W.keepIn X.K (.ref f) = true) (hb : Binds X.K fd ps ds) (hd : Vals dvs ds) (hx : ∀ σ, PassesAt (L2.CX X.prog X.w) X σ (E' σ))
    (hdb : (x == ("__debug__" : Str)) = false := by decide) :
    PE X (.Call (.Name x p) [] [] pos) (fun σ H Q => sp dvs H Q (E' σ)) := by
  refine ⟨fun pins s σ H Q I h => ?_⟩
  refine wpAny_Call_Name_kw (ld_glob I hg hm ?_ hdb)
  exact PySem.W.callWith_K0 I.kIn hk (run_fnSD (us := []) F hr hb hd (hx σ) I .nil h)
theorem ve_call0 {p : Pos} (F : VFn X.prog X.w X.K X.mg X.base c.cf k x dd ct) (hr : Room k X.A) (tk : Takes X (WV X c))
    (h : ct.run dd S.pn (fun d pn' => Q d { S with pn := pn' }) (fun y pn' => c.EV y { S with pn := pn' })) (hg : Gl X x := by rfl)
    (hdb : (x == ("__debug__" : Str)) = false := by decide) : VE X c S (.Call (.Name x p) [] [] pos) Q := fun σ G H hd => by
  obtain ⟨f, fd, ps, dvs, ds, ok, hm, hk, hb, hv, hdd⟩ := F.ex
  refine tE_of (pe_call0S (E' := WE (WV X c)) ok hr hg hm hk hb hv (fun σ => passAt tk σ) hdb) ?_
  exact spV_call hd (hdd.mono same_none) h (fun d pn' q v G' H' h2 s2 rv => ⟨d, _, G', h2, s2, rv, q⟩) (fun y pn' q cls dd' G' H' h2 rx => ⟨_, G', y, h2, rx, q⟩)
theorem VFn.mono {P : Program} {w : World} {K : PySem.W.Frag} {mg : Str → Option Value} {base : Heap} {cf : Cfg} {j : Nat} (F : VFn P w K mg base cf j x dd ct) (h : j ≤ k) : VFn P w K mg base cf k x dd ct := by
  obtain ⟨f, fd, ps, dvs, ds, ok, r⟩ := F.ex
  exact ⟨f, fd, ps, dvs, ds, ok.mono h, r⟩
end

/-! ### a def's body -/
/-- the pen behind a def: told of where the def was handed one -/
def outPn (pn0 pn : Pn) : Pn := match pn0 with
  | none => none
  | some _ => pn
def bodyCv (cf : Cfg) (G H : Hp) (pn : Pn) (Ev : ExD → Pn → Prop) : Cv := ⟨G, H, pn.map (·.1), true, cf, fun x S => Ev x (outPn pn S.pn)⟩
def startρ (n : Nat) (ds : List D) : List Sl := ds.map Sl.val ++ List.replicate (n - ds.length) .un
theorem not_own_start {n i : Nat} {ds : List D} : ¬ ownAt (startρ n ds) i := fun ⟨sl, h1, h2⟩ => by
  unfold startρ at h1
  have hm := List.mem_of_getElem? h1
  rcases List.mem_append.mp hm with q | q
  · obtain ⟨d, _, e⟩ := List.mem_map.mp q
    subst e
    cases h2
  · rw [(List.mem_replicate.mp q).2] at h2
    cases h2
theorem Hd.start {K : PySem.W.Frag} {mg : Str → Option Value} {cf : Cfg} {G H : Hp} {pn : Pn} {Ev : ExD → Pn → Prop} {N : List Str} {vs : List V} {ds : List D} (hs : Same G H) (r : Reps K mg G vs ds) (hp : ∀ p r, pn = some (p, r) → PenOk cf K G H p r)
    (hN : ds.length ≤ N.length) (ht : ∀ p ∈ cf.tb, TabG G H p.1 p.2) : Hd K mg (bodyCv cf G H pn Ev) ⟨startρ N.length ds, pn⟩ (L2.start N vs) G H where
  sub := hs
  len := by
    show (L2.start N vs).length = (startρ N.length ds).length
    unfold L2.start startρ
    have := r.length
    simp only [List.length_append, List.length_map, List.length_replicate]
    omega
  slots := fun i sl e => by
    have e' : (startρ N.length ds)[i]? = some sl := e
    unfold startρ at e'
    unfold L2.start
    by_cases hi : i < ds.length
    · rw [List.getElem?_append_left (by simpa using hi), List.getElem?_map] at e'
      obtain ⟨d, h1, h2⟩ := Option.map_eq_some_iff.mp e'
      subst h2
      obtain ⟨v, q1, q2⟩ := r.get h1
      refine ⟨some v, ?_, v, rfl, q2⟩
      rw [List.getElem?_append_left (by rw [List.length_map, r.length]; exact hi), List.getElem?_map, q1]
      rfl
    · rw [List.getElem?_append_right (by simpa using hi), List.getElem?_replicate] at e'
      split at e'
      · rename_i hlt
        cases e'
        refine ⟨none, ?_, trivial⟩
        rw [List.getElem?_append_right (by rw [List.length_map, r.length]; omega), List.getElem?_replicate, if_pos]
        rw [List.length_map] at hlt ⊢
        have := r.length
        omega
      · cases e'
  dist := fun i j l _ h => (not_own_start h).elim
  pen := fun p r e => ⟨hp p r e, .inl (by show pn.map (·.1) = some p; have e' : pn = some (p, r) := e; rw [e']; rfl)⟩
  padr := fun a e => by
    have e' : pn.map (·.1) = some a := e
    obtain ⟨⟨p, r⟩, h1, h2⟩ := Option.map_eq_some_iff.mp e'
    have h2' : p = a := h2
    subst h2'
    exact ⟨r, h1⟩
  ext0 := Same.refl _
  new0 := fun _ _ h => .inl h
  keep0 := fun _ _ h _ _ => h
  tbl0 := fun _ ps h => ⟨ps, h⟩
  tabs := ht
  fresh := fun _ i l h => (not_own_start h).elim
theorem Hd.done {K : PySem.W.Frag} {mg : Str → Option Value} {cf : Cfg} {G H G' H' : Hp} {pn : Pn} {Ev : ExD → Pn → Prop} {S : State} {σ : L2.St} (h : Hd K mg (bodyCv cf G H pn Ev) S σ G' H') : After cf K G H pn G' H' (outPn pn S.pn) where
  sub := h.sub
  ext := h.ext0
  new := h.new0
  keep := fun a o e hne hx => h.keep0 a o e (fun z => by
    have e' : pn.map (·.1) = some a := z
    obtain ⟨⟨p, r⟩, h1, h2⟩ := Option.map_eq_some_iff.mp e'
    have h2' : p = a := h2
    subst h2'
    exact hne r h1) hx
  tbl := h.tbl0
  tabs := h.tabs
  pen := fun p r e => by
    cases pn with
    | none => cases e
    | some w => exact (h.pen p r e).1
  adr := by
    cases pn with
    | none => rfl
    | some w =>
      obtain ⟨p, r⟩ := w
      obtain ⟨r', q⟩ := h.padr p rfl
      show S.pn.map (·.1) = some p
      rw [q]
      rfl
/-- the context of the body of the def st -/
abbrev bX (P : Program) (w : World) (K : PySem.W.Frag) (mg : Str → Option Value) (base : Heap) (N : List Str) (qual : Str) (st : Stmt) (f : Addr) (cdv : Value) (A : Around) (outer : List Env) (s : Shared) (H : Hp) (E : XK) : Cx :=
  cxOf (L2.CX P w) P w K mg base N qual (defScope st) f cdv A outer s H E
section
variable {P : Program} {w : World} {K : PySem.W.Frag} {mg : Str → Option Value} {base : Heap} {cf : Cfg} {k : Nat} {ct : Ct} {x qual : Str} {st : Stmt} {dvs : List V} {kws : List (Str × V)} {f : Addr} {fd : FuncData} {N ps : List Str}
theorem fn_body (F : FunD K x qual (defArgs st) (defBody st) (defScope st) dvs kws f fd) (Sc : FnScope N ps (defScope st)) (hps : ps.length ≤ N.length) (np : ∀ ds pn k e, ct.run ds pn k e → ds.length = ps.length)
    (body : ∀ (cdv : Value) (A : Around) (outer : List Env) (s : Shared) (H : Hp) (E : XK) (G : Hp) (ds : List D) (pn : Pn) (Qv : D → Pn → Prop) (Ev : ExD → Pn → Prop),
      Room k (bX P w K mg base N qual st f cdv A outer s H E).A → Takes (bX P w K mg base N qual st f cdv A outer s H E) (WV (bX P w K mg base N qual st f cdv A outer s H E) (bodyCv cf G H pn Ev)) → ct.run ds pn Qv Ev →
      VSs (bX P w K mg base N qual st f cdv A outer s H E) (bodyCv cf G H pn Ev) ⟨startρ N.length ds, pn⟩ (defBody st) { nx := fun S => Qv .non (outPn pn S.pn), rt := fun d S => Qv d (outPn pn S.pn) }) :
    FnOk P w K mg base (L2.CX P w) (k + 1) f fd ps (spV cf K mg ct) := by
  refine F.ok Sc (fun vs H Q E ⟨G, ds, pn, _, r, _, _, h⟩ => by rw [r.length]; exact np _ _ _ _ h) fun cdv A outer s H vs Q E hr ⟨G, ds, pn, hs, r, hp, ht, h⟩ => ?_
  refine ⟨tSs _ (defBody st), pss_sem, ?_⟩
  have tk0 : Takes (bX P w K mg base N qual st f cdv A outer s H E) (fun cls d _ H => E cls d H) := takes_of rfl rfl rfl rfl
  have b := body cdv A outer s H E G ds pn _ _ hr (tk0.imp fun cls d σ H' ⟨S', G', y, h1, rx, q⟩ => q cls d G' H' h1.done rx) h
  have h0 := Hd.start (cf := cf) (N := N) (Ev := fun x pn' => ∀ cls dd G' H', After cf K G H pn G' H' pn' → ExRep K mg G' cls dd x → E cls dd H') hs r hp (by rw [np _ _ _ _ h]; exact hps) ht
  refine tSs_mono (b (L2.start N vs) G H h0) (fun σ' H' ⟨S', G', h1, s1, q⟩ => q .non G' H' h1.done .non) (fun v H' ⟨d, S', σ', G', h1, s1, rv, q⟩ => q v G' H' h1.done rv) (fun _ _ ⟨_, _, _, _, z⟩ => z) (fun _ _ ⟨_, _, _, _, z⟩ => z)
end
end VL
set_option Elab.async false
set_option linter.all false
set_option maxRecDepth 100000
set_option maxHeartbeats 4000000
/-! VL4: tests, and/or/not, comparisons, loops, built-in calls, fields, subscripts. -/
namespace VL
open PySem PySem.Spec PyProof.Rows L2

def D.toPy : D → Option PyData
  | .non => some .none
  | .bl b => some (.bool b)
  | .int i => some (.int i)
  | .str x => some (.str x)
  | .lst xs => (go xs).map .list
  | .tup xs => (go xs).map .tuple
  | .scr xs => (go xs).map .list
  | _ => none
where go : List D → Option (List PyData)
  | [] => some []
  | d :: r => (D.toPy d).bind fun p => (go r).map (p :: ·)

mutual
theorem rep_dp {K : PySem.W.Frag} {mg : Str → Option Value} {G H : Hp} (hs : Same G H) : ∀ {v : V} {d : D} {p : PyData}, Rep K mg G v d → d.toPy = some p → Dp K H v p
  | _, .non, _, .non, e => by cases e; exact .non
  | _, .bl b, _, .bl, e => by cases e; exact .bl b
  | _, .int i, _, .int, e => by cases e; exact .int i
  | _, .str x, _, .str, e => by cases e; exact .str x
  | _, .lst xs, p, .lst h r _, e => by
    have e' : (D.toPy.go xs).map PyData.list = some p := e
    obtain ⟨ps, h1, h2⟩ := Option.map_eq_some_iff.mp e'
    subst h2
    exact .lst (.inl (.inl (hs _ _ h))) (reps_dp hs r h1)
  | _, .tup xs, p, .tup h r _, e => by
    have e' : (D.toPy.go xs).map PyData.tuple = some p := e
    obtain ⟨ps, h1, h2⟩ := Option.map_eq_some_iff.mp e'
    subst h2
    exact .tup (.inl (.inl (hs _ _ h))) (reps_dp hs r h1)
  | _, .ins _ _ _, _, _, e => by cases e
  | _, .adr _, _, _, e => by cases e
  | _, .ty _, _, _, e => by cases e
  | _, .cref _, _, _, e => by cases e
  | _, .scr xs, p, .scr h r, e => by
    have e' : (D.toPy.go xs).map PyData.list = some p := e
    obtain ⟨ps, h1, h2⟩ := Option.map_eq_some_iff.mp e'
    subst h2
    exact .lst (hs.seq h) (reps_dp hs r h1)
  | _, .dct _ _, _, _, e => by cases e
  | _, .exn _ _ _, _, _, e => by cases e
  | _, .cau _ _ _ _ _, _, _, e => by cases e
  | _, .lam _ _ _ _ _, _, _, e => by cases e
  | _, .clo _ _ _ _ _ _, _, _, e => by cases e
theorem reps_dp {K : PySem.W.Frag} {mg : Str → Option Value} {G H : Hp} (hs : Same G H) : ∀ {vs : List V} {ds : List D} {ps : List PyData}, Reps K mg G vs ds → D.toPy.go ds = some ps → DpAll K H vs ps
  | _, [], _, .nil, e => by cases e; exact .nil
  | _, d :: ds, ps, .cons h r, e => by
    have e' : (D.toPy d).bind (fun p => (D.toPy.go ds).map (p :: ·)) = some ps := e
    obtain ⟨p, h1, h2⟩ := Option.bind_eq_some_iff.mp e'
    obtain ⟨qs, h3, h4⟩ := Option.map_eq_some_iff.mp h2
    subst h4
    exact .cons (rep_dp hs h h1) (reps_dp hs r h3)
end

section
variable {X : Cx} {c : Cv} {S : State} {e a b : Expr} {es : List Expr} {st : Stmt} {sts : List Stmt} {σ : L2.St} {G G' H : Hp} {pos : Pos} {Q : D → State → Prop} {QT : Bool → State → Prop} {E : VD}
/-! ### truth -/
def truP (d : D) (k : Bool → Prop) : Prop := match d with
  | .non => k false
  | .bl b => k b
  | .int i => k (i != 0)
  | .str z => z.length ≤ sizeLine ∧ k ((z.length : Int) != 0)
  | .lst ds => k (!ds.isEmpty)
  | .tup ds => k (!ds.isEmpty)
  | _ => False
theorem reps_empty {vs : List V} {ds : List D} (r : Reps X.K X.mg G vs ds) : vs.isEmpty = ds.isEmpty := by cases r <;> rfl
theorem vt_truth (h : VE X c S e fun d S' => truP d fun k => QT k S') (he : ∀ whole, isTrue e X.env whole = (do let v ← whole; standAt e.pos; holding [v] (truthy v)) := by intro _; rfl) : VT X c S e QT := fun σ G H hd => by
  refine tT_of (pt_truth pe_sem he) (tE_mono (h σ G H hd) fun v H' ⟨d, S', G', h1, s1, r, q⟩ => ?_)
  cases d with
  | non => exact ⟨false, by rw [rep_non r]; rfl, S', G', h1, s1, q⟩
  | bl b => exact ⟨b, by rw [rep_bl r]; rfl, S', G', h1, s1, q⟩
  | int i => exact ⟨i != 0, by rw [rep_int r]; rfl, S', G', h1, s1, q⟩
  | str z => exact ⟨_, by rw [rep_str r]; exact ⟨q.1, rfl⟩, S', G', h1, s1, q.2⟩
  | lst ds =>
    obtain ⟨a, vs, e1, h2, r2⟩ := rep_lst r
    exact ⟨!ds.isEmpty, by rw [e1]; exact .inl ⟨vs, .inl (.inl (h1.sub _ _ h2)), by rw [reps_empty r2]⟩, S', G', h1, s1, q⟩
  | tup ds =>
    obtain ⟨a, vs, e1, h2, r2⟩ := rep_tup r
    exact ⟨!ds.isEmpty, by rw [e1]; exact .inr (.inl ⟨vs, .inl (.inl (h1.sub _ _ h2)), by rw [reps_empty r2]⟩), S', G', h1, s1, q⟩
  | ins _ _ _ => exact q.elim
  | adr _ => exact q.elim
  | ty _ => exact q.elim
  | cref _ => exact q.elim
  | scr _ => exact q.elim
  | dct _ _ => exact q.elim
  | exn _ _ _ => exact q.elim
  | cau _ _ _ _ _ => exact q.elim
  | lam _ _ _ _ _ => exact q.elim
  | clo _ _ _ _ _ _ => exact q.elim
  | idn _ _ => exact q.elim
theorem vt_not (h : VT X c S a fun k S' => QT (!k) S') : VT X c S (.UnaryOp .Not a pos) QT := fun σ G H hd => tT_of (pt_not pt_sem) (h σ G H hd)
theorem vt_w (h : VW X c S e QT) : VT X c S e QT := fun σ G H hd => tT_of (pw_sem.pt) (h σ G H hd)
theorem vw_and1 (h : VT X c S a QT) : VW X c S (.BoolOp .And [a] pos) QT := fun σ G H hd => tW_of (pw_and1 pt_sem) (h σ G H hd)
theorem vw_or1 (h : VT X c S a QT) : VW X c S (.BoolOp .Or [a] pos) QT := fun σ G H hd => tW_of (pw_or1 pt_sem) (h σ G H hd)
theorem vw_and {rest : List Expr} (h : VT X c S a fun k S1 => (k = true → VW X c S1 (.BoolOp .And (b :: rest) pos) QT) ∧ (k = false → QT false S1)) : VW X c S (.BoolOp .And (a :: b :: rest) pos) QT := fun σ G H hd => by
  refine tW_of (pw_and pt_sem pw_sem) (tT_mono (h σ G H hd) fun k H' ⟨S', G', h1, s1, q⟩ => ?_)
  cases k with
  | true => exact tW_mono (q.1 rfl σ G' H' h1) fun _ _ p => pT_back s1 p
  | false => exact ⟨S', G', h1, s1, q.2 rfl⟩
theorem vw_or {rest : List Expr} (h : VT X c S a fun k S1 => (k = true → QT true S1) ∧ (k = false → VW X c S1 (.BoolOp .Or (b :: rest) pos) QT)) : VW X c S (.BoolOp .Or (a :: b :: rest) pos) QT := fun σ G H hd => by
  refine tW_of (pw_or pt_sem pw_sem) (tT_mono (h σ G H hd) fun k H' ⟨S', G', h1, s1, q⟩ => ?_)
  cases k with
  | false => exact tW_mono (q.2 rfl σ G' H' h1) fun _ _ p => pT_back s1 p
  | true => exact ⟨S', G', h1, s1, q.1 rfl⟩
/-- values of and, or, not: all but the last are bools -/
theorem ve_one {op} (h : VE X c S a Q) : VE X c S (.BoolOp op [a] pos) Q := fun σ G H hd => tE_of (pe_one pe_sem) (h σ G H hd)
theorem ve_and {rest : List Expr} (h : VE X c S a fun x S1 => ∃ k, x = .bl k ∧ (k = true → VE X c S1 (.BoolOp .And (b :: rest) pos) Q) ∧ (k = false → Q (.bl false) S1)) : VE X c S (.BoolOp .And (a :: b :: rest) pos) Q := fun σ G H hd => by
  refine tE_of (pe_and pe_sem pe_sem) (tE_mono (h σ G H hd) fun v H' ⟨d, S', G', h1, s1, r, k, e, q⟩ => ?_)
  subst e
  refine ⟨k, rep_bl r, ?_⟩
  cases k with
  | true => exact tE_mono (q.1 rfl σ G' H' h1) fun _ _ p => pE_back s1 p
  | false => exact pE_back s1 (pE_ret h1 .bl (q.2 rfl))
theorem ve_or {rest : List Expr} (h : VE X c S a fun x S1 => ∃ k, x = .bl k ∧ (k = true → Q (.bl true) S1) ∧ (k = false → VE X c S1 (.BoolOp .Or (b :: rest) pos) Q)) : VE X c S (.BoolOp .Or (a :: b :: rest) pos) Q := fun σ G H hd => by
  refine tE_of (pe_or pe_sem pe_sem) (tE_mono (h σ G H hd) fun v H' ⟨d, S', G', h1, s1, r, k, e, q⟩ => ?_)
  subst e
  refine ⟨k, rep_bl r, ?_⟩
  cases k with
  | false => exact tE_mono (q.2 rfl σ G' H' h1) fun _ _ p => pE_back s1 p
  | true => exact pE_back s1 (pE_ret h1 .bl (q.1 rfl))
theorem ve_not (h : VE X c S a fun x S1 => ∃ k, x = .bl k ∧ Q (.bl (!k)) S1) : VE X c S (.UnaryOp .Not a pos) Q := fun σ G H hd => by
  refine tE_of (pe_not pe_sem) (tE_mono (h σ G H hd) fun v H' ⟨d, S', G', h1, s1, r, k, e, q⟩ => ?_)
  subst e
  exact ⟨k, rep_bl r, pE_back s1 (pE_ret h1 .bl q)⟩
theorem ve_ifexp {t : Expr} (h : VT X c S t fun k S1 => (k = true → VE X c S1 a Q) ∧ (k = false → VE X c S1 b Q)) : VE X c S (.IfExp t a b pos) Q := fun σ G H hd => by
  refine tE_of (pe_ifExp pt_sem pe_sem pe_sem) (tT_mono (h σ G H hd) fun k H' ⟨S', G', h1, s1, q⟩ => ?_)
  cases k with
  | true => exact tE_mono (q.1 rfl σ G' H' h1) fun _ _ p => pE_back s1 p
  | false => exact tE_mono (q.2 rfl σ G' H' h1) fun _ _ p => pE_back s1 p
theorem ve_neg (h : VE X c S a fun x S1 => ∃ i, x = .int i ∧ Q (.int (-i)) S1) : VE X c S (.UnaryOp .USub a pos) Q := fun σ G H hd => by
  refine tE_of (pe_un un_neg pe_sem) (tE_mono (h σ G H hd) fun v H' ⟨d, S', G', h1, s1, r, i, e, q⟩ => ?_)
  subst e
  exact ⟨i, rep_int r, pE_back s1 (pE_ret h1 .int q)⟩

/-! ### == of plain data -/
theorem rb_eqD {x y : D} {p q : PyData} (hx : x.toPy = some p) (hy : y.toPy = some q) (sx : SeqAt.shaped p = true) (sy : SeqAt.shaped q = true) (k : Q (.bl (PyData.eqv p q)) S) : RB X c S (rEqD X.K) x y Q := fun σ G H u v hd ru rv R hR =>
  ⟨p, q, rep_dp hd.sub ru hx, rep_dp hd.sub rv hy, sx, sy, hR _ _ (pE_ret hd .bl k)⟩
theorem rb_neD {x y : D} {p q : PyData} (hx : x.toPy = some p) (hy : y.toPy = some q) (sx : SeqAt.shaped p = true) (sy : SeqAt.shaped q = true) (k : Q (.bl (!PyData.eqv p q)) S) : RB X c S (rNeD X.K) x y Q := fun σ G H u v hd ru rv R hR =>
  ⟨p, q, rep_dp hd.sub ru hx, rep_dp hd.sub rv hy, sx, sy, hR _ _ (pE_ret hd .bl k)⟩
theorem rb_eqI {i j : Int} (k : Q (.bl (decide (i = j))) S) : RB X c S rEq (.int i) (.int j) Q := fun σ G H u v hd ru rv R hR => by
  rw [rep_int ru, rep_int rv]
  refine ⟨rfl, hR _ _ ?_⟩
  have e : decide (V.int i = V.int j) = decide (i = j) := by
    rw [Bool.eq_iff_iff]; simp
  rw [e]
  exact pE_ret hd .bl k
theorem rb_neI {i j : Int} (k : Q (.bl (!decide (i = j))) S) : RB X c S rNe (.int i) (.int j) Q := fun σ G H u v hd ru rv R hR => by
  rw [rep_int ru, rep_int rv]
  refine ⟨rfl, hR _ _ ?_⟩
  have e : decide (V.int i = V.int j) = decide (i = j) := by
    rw [Bool.eq_iff_iff]; simp
  rw [e]
  exact pE_ret hd .bl k
def isNon : D → Bool
  | .non => true
  | _ => false
theorem rb_isN {x : D} (k : Q (.bl (isNon x)) S) : RB X c S (fun x y H Q => y = .non ∧ Q (.bl (decide (x = .non))) H) x .non Q := fun σ G H u v hd ru rv R hR => by
  refine ⟨rep_non rv, hR _ _ ?_⟩
  have e : decide (u = V.non) = isNon x := by
    cases ru <;> rfl
  rw [e]
  exact pE_ret hd .bl k
/-! ### chains -/
theorem ve_chain {op op' : CmpOp} {r r' : R2} {d3 : Expr} (ho : OpR X (compareOp op) r) (ho' : OpR X (compareOp op') r')
    (h : VE X c S a fun x S1 => VE X c S1 b fun y S2 => RB X c S2 r x y fun z S3 => ∃ k, z = .bl k ∧ (k = true → VE X c S3 d3 fun w S4 => RB X c S4 r' y w Q) ∧ (k = false → Q (.bl false) S3))
    (hm : lastMarks [op, op'] [b, d3] = false := by with_unfolding_all rfl) : VE X c S (.Compare a [op, op'] [b, d3] pos) Q := fun σ G H hd => by
  refine tE_of (pe_chain ho ho' pe_sem pe_sem pe_sem hm) ?_
  refine tE_mono (h σ G H hd) fun u H1 ⟨x, S1, G1, h1, s1, r1, q1⟩ => tE_mono (q1 σ G1 H1 h1) fun v H2 ⟨y, S2, G2, h2, s2, r2, q2⟩ => ?_
  refine q2 σ G2 H2 u v h2 (r1.mono s2) r2 _ fun z H3 ⟨d, S3, G3, h3, s3, r3, k, e, q3⟩ => ?_
  subst e
  refine ⟨k, rep_bl r3, ?_⟩
  cases k with
  | false => exact pE_back (s1.trans (s2.trans s3)) (pE_ret h3 .bl (q3.2 rfl))
  | true =>
    refine tE_mono (q3.1 rfl σ G3 H3 h3) fun w H4 ⟨dw, S4, G4, h4, s4, r4, q4⟩ => ?_
    exact q4 σ G4 H4 v w h4 (r2.mono (s3.trans s4)) r4 _ fun z H' p => pE_back (s1.trans (s2.trans (s3.trans s4))) p
theorem vt_chain {op op' : CmpOp} {r r' : R2} {d3 : Expr} (ho : OpR X (compareOp op) r) (ho' : OpR X (compareOp op') r')
    (h : VE X c S a fun x S1 => VE X c S1 b fun y S2 => RB X c S2 r x y fun z S3 => ∃ k, z = .bl k ∧ (k = true → VE X c S3 d3 fun w S4 => RB X c S4 r' y w (blP QT)) ∧ (k = false → QT false S3))
    (hm : lastMarks [op, op'] [b, d3] = false := by with_unfolding_all rfl) : VT X c S (.Compare a [op, op'] [b, d3] pos) QT := fun σ G H hd => by
  refine tT_of (pt_chain ho ho' pe_sem pe_sem pe_sem hm) ?_
  refine tE_mono (h σ G H hd) fun u H1 ⟨x, S1, G1, h1, s1, r1, q1⟩ => tE_mono (q1 σ G1 H1 h1) fun v H2 ⟨y, S2, G2, h2, s2, r2, q2⟩ => ?_
  refine q2 σ G2 H2 u v h2 (r1.mono s2) r2 _ fun z H3 ⟨d, S3, G3, h3, s3, r3, k, e, q3⟩ => ?_
  subst e
  refine ⟨k, rep_bl r3, ?_⟩
  cases k with
  | false => exact ⟨false, rfl, S3, G3, h3, s1.trans (s2.trans s3), q3.2 rfl⟩
  | true =>
    refine tE_mono (q3.1 rfl σ G3 H3 h3) fun w H4 ⟨dw, S4, G4, h4, s4, r4, q4⟩ => ?_
    refine q4 σ G4 H4 v w h4 (r2.mono (s3.trans s4)) r4 _ fun z H' ⟨d', S', G', h5, s5, r5, k2, e2, q5⟩ => ?_
    subst e2
    exact ⟨k2, rep_bl r5, S', G', h5, s1.trans (s2.trans (s3.trans (s4.trans s5))), q5⟩

/-! ### targets -/
def tG (X : Cx) (tg : Expr) : TG := fun v σ H Q => ∀ (pins : List (Addr × Obj)) (s : Shared) (u : Value), Inv X pins σ H s → RelV v u → wpAny (model X.prog X.w) X.A (assign tg X.env u) (fun _ s' => ∃ σ' H', Inv X pins σ' H' s' ∧ Q σ' H') X.xe s
theorem pg_sem {tg : Expr} : PG X tg (tG X tg) := ⟨fun pins s σ H v u Q I r h => h pins s u I r⟩
theorem tG_of {tg : Expr} {t : TG} {v : V} {Q : L2.St → Hp → Prop} (h : PG X tg t) (q : t v σ H Q) : tG X tg v σ H Q := fun pins s u I r => h.run pins s σ H v u Q I r q
theorem tG_mono {tg : Expr} {v : V} {Q Q' : L2.St → Hp → Prop} (h : tG X tg v σ H Q) (hq : ∀ σ H, Q σ H → Q' σ H) : tG X tg v σ H Q' := fun pins s u I r => thn (h pins s u I r) fun _ _ ⟨σ', H', I', q⟩ => ⟨σ', H', I', hq _ _ q⟩
def pS (X : Cx) (c : Cv) (G : Hp) (Q : State → Prop) : L2.St → Hp → Prop := fun σ' H' => ∃ S' G', HdX X c S' σ' G' H' ∧ Same G G' ∧ Q S'
def VG (X : Cx) (c : Cv) (S : State) (tg : Expr) (d : D) (Q : State → Prop) : Prop := ∀ σ G H v, HdX X c S σ G H → RepX X G v d → tG X tg v σ H (pS X c G Q)
theorem pS_back {Q : State → Prop} (s : Same G G') {σ' : L2.St} {H' : Hp} (h : pS X c G' Q σ' H') : pS X c G Q σ' H' := by
  obtain ⟨S', G'', h1, h2, h3⟩ := h
  exact ⟨S', G'', h1, s.trans h2, h3⟩
theorem vg_name (i : Nat) {x : Str} {d : D} {Q : State → Prop} (q : Q (S.put i (.val d))) (hN : X.N.Nodup) (hi : X.N[i]? = some x := by rfl) (hx : Loc X.env.scope x := by first | exact Or.inl rfl | exact Or.inr rfl)
    (hf : X.fn x = true ∨ X.env.scope.names.lookup x = some .local := by first | exact .inl rfl | exact .inr rfl) : VG X c S (.Name x pos) d Q := fun σ G H v hd r => tG_of (pg_name hN hi hx hf) ⟨_, G, hd.setVal r, Same.refl _, q⟩
def tGs (X : Cx) (ts : List Expr) : TGs := fun vs σ H Q => ∀ (pins : List (Addr × Obj)) (s : Shared) (us : List Value), Inv X pins σ H s → Vals vs us → wpAny (model X.prog X.w) X.A (assignInOrder ((assignEach ts X.env).map (·.2)) us) (fun _ s' => ∃ σ' H', Inv X pins σ' H' s' ∧ Q σ' H') X.xe s
theorem pgs_sem {ts : List Expr} : PGs X ts (tGs X ts) := ⟨fun pins s σ H v u Q I r h => h pins s u I r⟩
theorem tGs_of {ts : List Expr} {t : TGs} {vs : List V} {Q : L2.St → Hp → Prop} (h : PGs X ts t) (q : t vs σ H Q) : tGs X ts vs σ H Q := fun pins s u I r => h.run pins s σ H vs u Q I r q
theorem tGs_mono {ts : List Expr} {vs : List V} {Q Q' : L2.St → Hp → Prop} (h : tGs X ts vs σ H Q) (hq : ∀ σ H, Q σ H → Q' σ H) : tGs X ts vs σ H Q' := fun pins s u I r => thn (h pins s u I r) fun _ _ ⟨σ', H', I', q⟩ => ⟨σ', H', I', hq _ _ q⟩
def VGs (X : Cx) (c : Cv) (S : State) (ts : List Expr) (ds : List D) (Q : State → Prop) : Prop := ∀ σ G H vs, HdX X c S σ G H → Reps X.K X.mg G vs ds → tGs X ts vs σ H (pS X c G Q)
theorem vgs_nil {Q : State → Prop} (q : Q S) : VGs X c S [] [] Q := fun σ G H vs hd r => by
  cases r
  exact tGs_of pgs_nil ⟨rfl, S, G, hd, Same.refl _, q⟩
theorem vgs_cons {t : Expr} {ts : List Expr} {d : D} {ds : List D} {Q : State → Prop} (h : VG X c S t d fun S1 => VGs X c S1 ts ds Q) (hs : (assignEach (t :: ts) X.env).map (·.2) = assign t X.env :: (assignEach ts X.env).map (·.2) := by rfl) : VGs X c S (t :: ts) (d :: ds) Q := fun σ G H vs hd r => by
  cases r with
  | cons r1 r2 =>
    refine tGs_of (pgs_cons pg_sem pgs_sem hs) ⟨_, _, rfl, tG_mono (h σ G H _ hd r1) fun σ' H' ⟨S', G', h1, s1, q⟩ => tGs_mono (q σ' G' H' _ h1 (r2.mono s1)) fun _ _ p => pS_back s1 p⟩
theorem vg_tup {ts : List Expr} {k : Nat} {ds : List D} {Q : State → Prop} (h : VGs X c S ts ds Q) (hc : X.calm = true) (hl : (assignEach ts X.env).length = ds.length := by rfl) (hst : (assignEach ts X.env).findIdx? (·.1) = none := by rfl) : VG X c S (.Tuple ts k pos) (.tup ds) Q := fun σ G H v hd r => by
  obtain ⟨p, vs, e1, h1, r1⟩ := rep_tup r
  refine tG_of (pg_tup hc pgs_sem (n := ds.length) hl hst) ⟨p, vs, e1, .inl (.inl (hd.sub _ _ h1)), r1.length, h σ G H vs hd r1⟩
/-- target = value -/
theorem vs_asg {tg : Expr} (h : VE X c S e fun d S' => VG X c S' tg d E.nx) (hs : swapsWithSole [tg] e pos.line X.env = pure false := by rfl) (hw : swappedStores [tg] e X.env = pure none := by rfl)
    (h1 : (assignEach [tg] X.env).map (·.2) = [assign tg X.env] := by rfl) : VS X c S (.Assign [tg] e pos) E := fun σ G H hd => by
  refine tS_of (ps_asg pe_sem pg_sem hs hw h1) (tE_mono (h σ G H hd) fun v H' ⟨d, S', G', h2, s2, r, q⟩ => tG_mono (q σ G' H' v h2 r) fun _ _ p => pS_back s2 p)

/-! ### while -/
theorem vs_while {t : Expr} {body : List Stmt} (hp : PassesOwn (model X.prog X.w) X.A X.env X.xe) (W : Nat → State → Prop) (m0 : Nat) (h0 : W m0 S)
    (turn : ∀ m S, W m S → VT X c S t fun k S1 => (k = true → VSs X c S1 body { nx := fun S2 => ∃ m', m' < m ∧ W m' S2, ct := fun S2 => ∃ m', m' < m ∧ W m' S2, bk := E.nx, rt := E.rt }) ∧ (k = false → E.nx S1)) :
    VS X c S (.While t body [] pos) E := fun σ G H hd => by
  refine tS_of (ps_while hp pt_sem pss_sem) ⟨fun m σ H => ∃ S' G', HdX X c S' σ G' H ∧ Same G G' ∧ W m S', ⟨m0, S, G, hd, Same.refl _, h0⟩, fun m σ1 H1 ⟨S1, G1, h1, s1, w1⟩ => ?_⟩
  refine tT_mono (turn m S1 w1 σ1 G1 H1 h1) fun k H2 ⟨S2, G2, h2, s2, q⟩ => ?_
  cases k with
  | false => exact ⟨S2, G2, h2, s1.trans s2, q.2 rfl⟩
  | true =>
    refine ⟨fun σ' H' => ∃ m', m' < m ∧ ∃ S' G', HdX X c S' σ' G' H' ∧ Same G G' ∧ W m' S', fun σ' H' p => p, ?_⟩
    refine tSs_mono (q.1 rfl σ1 G2 H2 h2) (fun _ _ ⟨S3, G3, h3, s3, m', hm, w⟩ => ⟨m', hm, S3, G3, h3, s1.trans (s2.trans s3), w⟩) (fun _ _ ⟨d, S3, σ3, G3, h3, s3, p⟩ => ⟨d, S3, σ3, G3, h3, s1.trans (s2.trans s3), p⟩)
      (fun _ _ ⟨S3, G3, h3, s3, p⟩ => ⟨S3, G3, h3, s1.trans (s2.trans s3), p⟩) (fun _ _ ⟨S3, G3, h3, s3, m', hm, w⟩ => ⟨m', hm, S3, G3, h3, s1.trans (s2.trans s3), w⟩)
/-! ### for -/
theorem vs_forL {tg iter : Expr} {body : List Stmt} (hp : PassesOwn (model X.prog X.w) X.A X.env X.xe) (hc : X.calm = true)
    (h : VE X c S iter fun d S1 => ∃ ds, d = .lst ds ∧ ∃ W : Nat → State → Prop, W 0 S1 ∧ (∀ i d S, ds[i]? = some d → W i S → VG X c S tg d fun S2 => VSs X c S2 body { nx := W (i + 1), ct := W (i + 1), bk := E.nx, rt := E.rt }) ∧ ∀ S, W ds.length S → E.nx S)
    (hs : ∀ x, foldedSetIterable iter X.env x = pure x := by intro _; rfl) : VS X c S (.For tg iter body [] pos) E := fun σ G H hd => by
  refine tS_of (ps_for hp hc (pi_list pe_sem) pg_sem pss_sem hs) (tE_mono (h σ G H hd) fun v H1 ⟨d, S1, G1, h1, s1, r1, ds, e, W, w0, turn, fin⟩ => ?_)
  subst e
  obtain ⟨a, vs, e1, hv, rv⟩ := rep_lst r1
  subst e1
  refine ⟨a, rfl, ⟨vs, .inl (.inl (h1.sub _ _ hv))⟩, for_list (K := X.K) (a := a) (xs := vs) (fun i σ H => ∃ S' G', HdX X c S' σ G' H ∧ Same G1 G' ∧ W i S') ⟨S1, G1, h1, Same.refl _, w0⟩
    (fun i σ H _ ⟨S', G', h2, s2, _⟩ => .inl (.inl (h2.sub _ _ (s2 _ _ hv)))) ?_ ?_⟩
  · intro i x σ' H' hi ⟨S', G', h2, s2, w⟩
    obtain ⟨d, hd', rd⟩ := rv.getV hi
    refine tG_mono (turn i d S' hd' w σ' G' H' x h2 (rd.mono s2)) fun σ2 H2 ⟨S2, G2, h3, s3, q⟩ => ?_
    refine tSs_mono (q σ2 G2 H2 h3) (fun _ _ ⟨S3, G3, h4, s4, w⟩ => ⟨S3, G3, h4, s2.trans (s3.trans s4), w⟩) (fun _ _ ⟨d, S3, σ3, G3, h4, s4, p⟩ => ⟨d, S3, σ3, G3, h4, s1.trans (s2.trans (s3.trans s4)), p⟩)
      (fun _ _ ⟨S3, G3, h4, s4, p⟩ => ⟨S3, G3, h4, s1.trans (s2.trans (s3.trans s4)), p⟩) (fun _ _ ⟨S3, G3, h4, s4, w⟩ => ⟨S3, G3, h4, s2.trans (s3.trans s4), w⟩)
  · intro σ' H' ⟨S', G', h2, s2, w⟩
    rw [rv.length] at w
    exact ⟨S', G', h2, s1.trans s2, fin S' w⟩
theorem vs_forT {tg iter : Expr} {body : List Stmt} (hp : PassesOwn (model X.prog X.w) X.A X.env X.xe) (hc : X.calm = true)
    (h : VE X c S iter fun d S1 => ∃ ds, d = .tup ds ∧ ∃ W : Nat → State → Prop, W 0 S1 ∧ (∀ i d S, ds[i]? = some d → W i S → VG X c S tg d fun S2 => VSs X c S2 body { nx := W (i + 1), ct := W (i + 1), bk := E.nx, rt := E.rt }) ∧ ∀ S, W ds.length S → E.nx S)
    (hs : ∀ x, foldedSetIterable iter X.env x = pure x := by intro _; rfl) : VS X c S (.For tg iter body [] pos) E := fun σ G H hd => by
  refine tS_of (ps_for hp hc (pi_tup pe_sem) pg_sem pss_sem hs) (tE_mono (h σ G H hd) fun v H1 ⟨d, S1, G1, h1, s1, r1, ds, e, W, w0, turn, fin⟩ => ?_)
  subst e
  obtain ⟨a, vs, e1, hv, rv⟩ := rep_tup r1
  subst e1
  refine ⟨a, rfl, ⟨vs, .inl (.inl (h1.sub _ _ hv))⟩, for_tup (K := X.K) (a := a) (xs := vs) (fun i σ H => ∃ S' G', HdX X c S' σ G' H ∧ Same G1 G' ∧ W i S') ⟨S1, G1, h1, Same.refl _, w0⟩
    (fun i σ H _ ⟨S', G', h2, s2, _⟩ => .inl (.inl (h2.sub _ _ (s2 _ _ hv)))) ?_ ?_⟩
  · intro i x σ' H' hi ⟨S', G', h2, s2, w⟩
    obtain ⟨d, hd', rd⟩ := rv.getV hi
    refine tG_mono (turn i d S' hd' w σ' G' H' x h2 (rd.mono s2)) fun σ2 H2 ⟨S2, G2, h3, s3, q⟩ => ?_
    refine tSs_mono (q σ2 G2 H2 h3) (fun _ _ ⟨S3, G3, h4, s4, w⟩ => ⟨S3, G3, h4, s2.trans (s3.trans s4), w⟩) (fun _ _ ⟨d, S3, σ3, G3, h4, s4, p⟩ => ⟨d, S3, σ3, G3, h4, s1.trans (s2.trans (s3.trans s4)), p⟩)
      (fun _ _ ⟨S3, G3, h4, s4, p⟩ => ⟨S3, G3, h4, s1.trans (s2.trans (s3.trans s4)), p⟩) (fun _ _ ⟨S3, G3, h4, s4, w⟩ => ⟨S3, G3, h4, s2.trans (s3.trans s4), w⟩)
  · intro σ' H' ⟨S', G', h2, s2, w⟩
    rw [rv.length] at w
    exact ⟨S', G', h2, s1.trans s2, fin S' w⟩
theorem vs_forR1 {tg a : Expr} {body : List Stmt} {p pos2 : Pos} (hp : PassesOwn (model X.prog X.w) X.A X.env X.xe) (hc : X.calm = true) (hm : X.mg "range" = none)
    (h : VE X c S a fun d S1 => ∃ n : Int, d = .int n ∧ -(2 ^ 62) ≤ n ∧ n < 2 ^ 62 ∧ ∃ W : Nat → State → Prop, W 0 S1 ∧ (∀ (i : Nat) S, (i : Int) < n → W i S → VG X c S tg (.int i) fun S2 => VSs X c S2 body { nx := W (i + 1), ct := W (i + 1), bk := E.nx, rt := E.rt }) ∧ ∀ S, W n.toNat S → E.nx S)
    (hg : Gl X "range" := by rfl) (hs : ∀ x, foldedSetIterable (.Call (.Name "range" p) [a] [] pos2) X.env x = pure x := by intro _; rfl) (hst : starEach [a] X.env = [(false, eval a X.env)] := by rfl) : VS X c S (.For tg (.Call (.Name "range" p) [a] [] pos2) body [] pos) E := fun σ G H hd => by
  refine tS_of (ps_for hp hc (pi_range1 hg hm (pa_cons pe_sem pa_nil hst) hst) pg_sem pss_sem hs) (tE_mono (h σ G H hd) fun v H1 ⟨d, S1, G1, h1, s1, r1, n, e, l1, l2, W, w0, turn, fin⟩ => ?_)
  subst e
  rw [rep_int r1]
  refine ⟨n, rfl, l1, l2, for_range (lo := 0) (n := n.toNat) (fun i σ H => ∃ S' G', HdX X c S' σ G' H ∧ Same G1 G' ∧ W i S') ⟨S1, G1, h1, Same.refl _, w0⟩ ?_ ?_⟩
  · intro i σ' H' hi ⟨S', G', h2, s2, w⟩
    rw [Int.zero_add]
    refine tG_mono (turn i S' (by omega) w σ' G' H' _ h2 .int) fun σ2 H2 ⟨S2, G2, h3, s3, q⟩ => ?_
    refine tSs_mono (q σ2 G2 H2 h3) (fun _ _ ⟨S3, G3, h4, s4, w⟩ => ⟨S3, G3, h4, s2.trans (s3.trans s4), w⟩) (fun _ _ ⟨d, S3, σ3, G3, h4, s4, p⟩ => ⟨d, S3, σ3, G3, h4, s1.trans (s2.trans (s3.trans s4)), p⟩)
      (fun _ _ ⟨S3, G3, h4, s4, p⟩ => ⟨S3, G3, h4, s1.trans (s2.trans (s3.trans s4)), p⟩) (fun _ _ ⟨S3, G3, h4, s4, w⟩ => ⟨S3, G3, h4, s2.trans (s3.trans s4), w⟩)
  · intro σ' H' ⟨S', G', h2, s2, w⟩
    exact ⟨S', G', h2, s1.trans s2, fin S' w⟩
end
end VL
set_option Elab.async false
set_option linter.all false
set_option maxRecDepth 100000
set_option maxHeartbeats 4000000
/-! VL5: built-in calls, fields, subscripts, one's own lists, new instances, methods. -/
namespace VL
open PySem PySem.Spec PyProof.Rows L2

section
variable {X : Cx} {c : Cv} {S : State} {e a b : Expr} {es : List Expr} {st : Stmt} {sts : List Stmt} {σ : L2.St} {G G' H : Hp} {pos : Pos} {Q : D → State → Prop} {QT : Bool → State → Prop} {E : VD}
/-! ### calls of built-ins by their rules -/
def RC (X : Cx) (c : Cv) (S : State) (r : List V → Hp → VK → Prop) (ds : List D) (Q : D → State → Prop) : Prop :=
  ∀ σ G H vs, HdX X c S σ G H → Reps X.K X.mg G vs ds → ∀ R : VK, (∀ z H', pE X c σ G Q z H' → R z H') → r vs H R
theorem ve_callB {x : Str} {id : String} {r : List V → Hp → VK → Prop} {p : Pos} (hc : CallR X (.builtin id) r) (hm : X.mg x = none) (hv : bootBuiltins x = some (.builtin id)) (h : VA X c S (e :: es) fun ds S1 => RC X c S1 r ds Q) (hg : Gl X x := by rfl)
    (hn : x ≠ "__name__" := by decide) (hdb : (x == ("__debug__" : Str)) = false := by decide) (he : starEach (e :: es) X.env = (false, eval e X.env) :: starEach es X.env := by rfl) (hpl : (backTo pos (starEach es X.env)).any (·.1) = false := by rfl) :
    VE X c S (.Call (.Name x p) (e :: es) [] pos) Q := fun σ G H hd => by
  refine tE_of (pe_callB hc hg hm hv pa_sem hn hdb he hpl) (tA_mono (h σ G H hd) fun vs H1 ⟨ds, S1, G1, h1, s1, r1, q1⟩ => ?_)
  exact q1 σ G1 H1 vs h1 r1 _ fun z H' p => pE_back s1 p
theorem ve_callTy {x : Str} {T : String} {r : List V → Hp → VK → Prop} {p : Pos} (hc : CallR X (.type T) r) (hm : X.mg x = none) (hv : bootBuiltins x = some (.type T)) (h : VA X c S (e :: es) fun ds S1 => RC X c S1 r ds Q) (hg : Gl X x := by rfl)
    (hn : x ≠ "__name__" := by decide) (hdb : (x == ("__debug__" : Str)) = false := by decide) (he : starEach (e :: es) X.env = (false, eval e X.env) :: starEach es X.env := by rfl) (hpl : (backTo pos (starEach es X.env)).any (·.1) = false := by rfl) :
    VE X c S (.Call (.Name x p) (e :: es) [] pos) Q := fun σ G H hd => by
  refine tE_of (pe_callTy hc hg hm hv pa_sem hn hdb he hpl) (tA_mono (h σ G H hd) fun vs H1 ⟨ds, S1, G1, h1, s1, r1, q1⟩ => ?_)
  exact q1 σ G1 H1 vs h1 r1 _ fun z H' p => pE_back s1 p
theorem reps1 {K : PySem.W.Frag} {mg : Str → Option Value} {vs : List V} {d : D} (r : Reps K mg G vs [d]) : ∃ v, vs = [v] ∧ Rep K mg G v d := by
  cases r with
  | cons r t => cases t; exact ⟨_, rfl, r⟩
theorem reps2 {K : PySem.W.Frag} {mg : Str → Option Value} {vs : List V} {d1 d2 : D} (r : Reps K mg G vs [d1, d2]) : ∃ v1 v2, vs = [v1, v2] ∧ Rep K mg G v1 d1 ∧ Rep K mg G v2 d2 := by
  cases r with
  | cons r t =>
    obtain ⟨v2, rfl, r2⟩ := reps1 t
    exact ⟨_, _, rfl, r, r2⟩
theorem rc_abs {i : Int} (q : Q (.int (i.natAbs : Int)) S) : RC X c S (fun xs H Q => ∃ i, xs = [.int i] ∧ Q (.int (if i < 0 then -i else i)) H) [.int i] Q := fun σ G H vs hd r R hR => by
  obtain ⟨v, rfl, rv⟩ := reps1 r
  refine ⟨i, by rw [rep_int rv], hR _ _ ?_⟩
  have e : (if i < 0 then -i else i) = (i.natAbs : Int) := by omega
  rw [e]
  exact pE_ret hd .int q
theorem ve_abs {p : Pos} (hm : X.mg "abs" = none) (h : VE X c S a fun d S1 => ∃ i, d = .int i ∧ Q (.int (i.natAbs : Int)) S1) (hg : Gl X "abs" := by rfl) (he : starEach [a] X.env = [(false, eval a X.env)] := by rfl) : VE X c S (.Call (.Name "abs" p) [a] [] pos) Q :=
  ve_callB call_abs hm (by decide +kernel) (va_cons (h.imp fun d S1 ⟨i, ei, q⟩ => va_nil (by subst ei; exact rc_abs q)) he) hg (by decide) (by decide) he rfl
/-- int(n), int(flag) -/
theorem ve_intOf {p : Pos} (hm : X.mg "int" = none) (h : VE X c S a fun d S1 => (∃ i, d = .int i ∧ Q (.int i) S1) ∨ ∃ k : Bool, d = .bl k ∧ Q (.int (if k then 1 else 0)) S1) (hg : Gl X "int" := by rfl) (he : starEach [a] X.env = [(false, eval a X.env)] := by rfl) : VE X c S (.Call (.Name "int" p) [a] [] pos) Q :=
  ve_callTy call_int1 hm (by decide +kernel) (va_cons (h.imp fun d S1 q => va_nil fun σ G H vs hd r R hR => by
    obtain ⟨v, rfl, rv⟩ := reps1 r
    rcases q with ⟨i, ei, q⟩ | ⟨k, ek, q⟩
    · subst ei; exact .inl ⟨i, by rw [rep_int rv], hR _ _ (pE_ret hd .int q)⟩
    · subst ek; exact .inr ⟨k, by rw [rep_bl rv], hR _ _ (pE_ret hd .int q)⟩) he) hg (by decide) (by decide) he rfl
/-- len -/
def lenP : D → (Nat → Prop) → Prop
  | .lst ds, k => k ds.length
  | .tup ds, k => k ds.length
  | .str z, k => z.length ≤ sizeLine ∧ k z.length
  | .scr ds, k => k ds.length
  | _, _ => False
theorem ve_len {p : Pos} (hm : X.mg "len" = none) (h : VE X c S a fun d S1 => lenP d fun n => Q (.int (n : Int)) S1) (hg : Gl X "len" := by rfl) (he : starEach [a] X.env = [(false, eval a X.env)] := by rfl) : VE X c S (.Call (.Name "len" p) [a] [] pos) Q :=
  ve_callB call_len hm boot_len (va_cons (h.imp fun d S1 q => va_nil fun σ G H vs hd r R hR => by
    obtain ⟨v, rfl, rv⟩ := reps1 r
    cases d with
    | lst ds =>
      obtain ⟨p, xs, e1, h1, r1⟩ := rep_lst rv
      subst e1
      exact ⟨_, ds.length, rfl, .inl ⟨xs, .inl (.inl (hd.sub _ _ h1)), by rw [r1.length]⟩, hR _ _ (pE_ret hd .int q)⟩
    | tup ds =>
      obtain ⟨p, xs, e1, h1, r1⟩ := rep_tup rv
      subst e1
      exact ⟨_, ds.length, rfl, .inr ⟨xs, .inl (.inl (hd.sub _ _ h1)), by rw [r1.length]⟩, hR _ _ (pE_ret hd .int q)⟩
    | scr ds =>
      cases rv with
      | scr h1 r1 => exact ⟨_, ds.length, rfl, .inl ⟨_, hd.sub.seq h1, by rw [r1.length]⟩, hR _ _ (pE_ret hd .int q)⟩
    | str z => exact ⟨.str z, z.length, by rw [rep_str rv], ⟨q.1, rfl⟩, hR _ _ (pE_ret hd .int q.2)⟩
    | _ => exact q.elim) he) hg (by decide) (by decide) he rfl
/-- len of one's own list -/
theorem ve_lenOwn (i : Nat) {x : Str} {p pos2 : Pos} {ds : List D} (hm : X.mg "len" = none) (hρ : S.ρ[i]? = some (.own ds)) (q : Q (.int (ds.length : Int)) S) (hN : X.N[i]? = some x := by rfl) (hv : Vis X.env.scope x := by first | exact Or.inl rfl | exact Or.inr (Or.inl rfl) | exact Or.inr (Or.inr rfl))
    (hd : (x == ("__debug__" : Str)) = false := by decide) (hcd : (x == ("__classdict__" : Str)) = false := by decide) (hg : Gl X "len" := by rfl) (he : starEach [.Name x pos2] X.env = [(false, eval (.Name x pos2) X.env)] := by rfl) : VE X c S (.Call (.Name "len" p) [.Name x pos2] [] pos) Q := fun σ G H h => by
  obtain ⟨o, e1, l, vs, e2, hl, gl, r, _⟩ := h.slots i _ hρ
  subst e2
  refine tE_of (pe_callB call_len hg hm boot_len (pa_cons (pv i hN hv hd hcd) pa_nil he) (by decide) (by decide) he rfl) ⟨_, e1, _, ds.length, rfl, .inl ⟨vs, .inl (.inl hl), by rw [r.length]⟩, pE_ret h .int q⟩
theorem ve_min2 {p : Pos} (hm : X.mg "min" = none) (hc : X.calm = true) (h : VA X c S [a, b] fun ds S1 => ∃ i j : Int, ds = [.int i, .int j] ∧ Q (.int (if j < i then j else i)) S1) (hg : Gl X "min" := by rfl) (he : starEach [a, b] X.env = (false, eval a X.env) :: starEach [b] X.env := by rfl) (hpl : (backTo pos (starEach [b] X.env)).any (·.1) = false := by rfl) : VE X c S (.Call (.Name "min" p) [a, b] [] pos) Q :=
  ve_callB (call_min2 hc) hm (by decide +kernel) (fun σ G H hd => tA_mono (h σ G H hd) fun vs H1 ⟨ds, S1, G1, h1, s1, r1, i, j, e, q⟩ => ⟨ds, S1, G1, h1, s1, r1, by
    subst e
    intro σ G H vs hd r R hR
    obtain ⟨v1, v2, rfl, rv1, rv2⟩ := reps2 r
    exact ⟨i, j, by rw [rep_int rv1, rep_int rv2], hR _ _ (pE_ret hd .int q)⟩⟩) hg (by decide) (by decide) he hpl
theorem ve_max2 {p : Pos} (hm : X.mg "max" = none) (hc : X.calm = true) (h : VA X c S [a, b] fun ds S1 => ∃ i j : Int, ds = [.int i, .int j] ∧ Q (.int (if j > i then j else i)) S1) (hg : Gl X "max" := by rfl) (he : starEach [a, b] X.env = (false, eval a X.env) :: starEach [b] X.env := by rfl) (hpl : (backTo pos (starEach [b] X.env)).any (·.1) = false := by rfl) : VE X c S (.Call (.Name "max" p) [a, b] [] pos) Q :=
  ve_callB (call_max2 hc) hm (by decide +kernel) (fun σ G H hd => tA_mono (h σ G H hd) fun vs H1 ⟨ds, S1, G1, h1, s1, r1, i, j, e, q⟩ => ⟨ds, S1, G1, h1, s1, r1, by
    subst e
    intro σ G H vs hd r R hR
    obtain ⟨v1, v2, rfl, rv1, rv2⟩ := reps2 r
    exact ⟨i, j, by rw [rep_int rv1, rep_int rv2], hR _ _ (pE_ret hd .int q)⟩⟩) hg (by decide) (by decide) he hpl
/-- all(list of bools) -/
theorem reps_bls {K : PySem.W.Frag} {mg : Str → Option Value} : ∀ {vs : List V} {bs : List Bool}, Reps K mg G vs (bs.map D.bl) → vs = bs.map V.bl
  | _, [], .nil => rfl
  | _, b :: bs, .cons h r => by
    cases h
    rw [reps_bls r]
    rfl
theorem ve_all {p : Pos} (hm : X.mg "all" = none) (hc : X.calm = true) (h : VE X c S a fun d S1 => ∃ bs : List Bool, d = .lst (bs.map D.bl) ∧ Q (.bl (bs.all id)) S1) (hg : Gl X "all" := by rfl) (he : starEach [a] X.env = [(false, eval a X.env)] := by rfl) : VE X c S (.Call (.Name "all" p) [a] [] pos) Q :=
  ve_callB (cr_all hc) hm (by decide +kernel) (va_cons (h.imp fun d S1 ⟨bs, e, q⟩ => va_nil fun σ G H vs hd r R hR => by
    subst e
    obtain ⟨v, rfl, rv⟩ := reps1 r
    obtain ⟨p, xs, e1, h1, r1⟩ := rep_lst rv
    subst e1
    exact ⟨p, bs, rfl, by rw [← reps_bls r1]; exact .inl (.inl (hd.sub _ _ h1)), hR _ _ (pE_ret hd .bl q)⟩) he) hg (by decide) (by decide) he rfl
theorem ve_any {p : Pos} (hm : X.mg "any" = none) (hc : X.calm = true) (h : VE X c S a fun d S1 => ∃ bs : List Bool, d = .lst (bs.map D.bl) ∧ Q (.bl (bs.any id)) S1) (hg : Gl X "any" := by rfl) (he : starEach [a] X.env = [(false, eval a X.env)] := by rfl) : VE X c S (.Call (.Name "any" p) [a] [] pos) Q :=
  ve_callB (cr_any hc) hm (by decide +kernel) (va_cons (h.imp fun d S1 ⟨bs, e, q⟩ => va_nil fun σ G H vs hd r R hR => by
    subst e
    obtain ⟨v, rfl, rv⟩ := reps1 r
    obtain ⟨p, xs, e1, h1, r1⟩ := rep_lst rv
    subst e1
    exact ⟨p, bs, rfl, by rw [← reps_bls r1]; exact .inl (.inl (hd.sub _ _ h1)), hR _ _ (pE_ret hd .bl q)⟩) he) hg (by decide) (by decide) he rfl
/-- list(x), tuple(x) -/
def seqP : D → (List D → Prop) → Prop
  | .lst ds, k => k ds
  | .tup ds, k => k ds
  | _, _ => False
theorem ve_listOf {p : Pos} (hm : X.mg "list" = none) (h : VE X c S a fun d S1 => seqP d fun ds => Q (.lst ds) S1) (hg : Gl X "list" := by rfl) (he : starEach [a] X.env = [(false, eval a X.env)] := by rfl) : VE X c S (.Call (.Name "list" p) [a] [] pos) Q :=
  ve_callTy call_list_of hm (by decide +kernel) (va_cons (h.imp fun d S1 q => va_nil fun σ G H vs hd r R hR => by
    obtain ⟨v, rfl, rv⟩ := reps1 r
    cases d with
    | lst ds =>
      obtain ⟨p, xs, e1, h1, r1⟩ := rep_lst rv
      subst e1
      exact ⟨p, xs, rfl, .inl (.inl (.inl (hd.sub _ _ h1))), fun l hl => hR _ _ (pE_new hd hl (.lst upd_same (r1.mono (same_upd (hd.sub.free hl))) (lst_len rv)) q)⟩
    | tup ds =>
      obtain ⟨p, xs, e1, h1, r1⟩ := rep_tup rv
      subst e1
      exact ⟨p, xs, rfl, .inr (.inl (.inl (hd.sub _ _ h1))), fun l hl => hR _ _ (pE_new hd hl (.lst upd_same (r1.mono (same_upd (hd.sub.free hl))) (tup_len rv)) q)⟩
    | _ => exact q.elim) he) hg (by decide) (by decide) he rfl
theorem ve_tupleOf {p : Pos} (hm : X.mg "tuple" = none) (h : VE X c S a fun d S1 => seqP d fun ds => Q (.tup ds) S1) (hg : Gl X "tuple" := by rfl) (he : starEach [a] X.env = [(false, eval a X.env)] := by rfl) : VE X c S (.Call (.Name "tuple" p) [a] [] pos) Q :=
  ve_callTy call_tuple_of hm (by decide +kernel) (va_cons (h.imp fun d S1 q => va_nil fun σ G H vs hd r R hR => by
    obtain ⟨v, rfl, rv⟩ := reps1 r
    cases d with
    | lst ds =>
      obtain ⟨p, xs, e1, h1, r1⟩ := rep_lst rv
      subst e1
      exact ⟨p, xs, rfl, .inl ⟨.inl (.inl (hd.sub _ _ h1)), fun l hl => hR _ _ (pE_new hd hl (.tup upd_same (r1.mono (same_upd (hd.sub.free hl))) (lst_len rv)) q)⟩⟩
    | tup ds =>
      obtain ⟨p, xs, e1, h1, r1⟩ := rep_tup rv
      subst e1
      exact ⟨p, xs, rfl, .inr ⟨.inl (.inl (hd.sub _ _ h1)), hR _ _ (pE_ret hd rv q)⟩⟩
    | _ => exact q.elim) he) hg (by decide) (by decide) he rfl

/-! ### fields of instances -/
def fget : List Str → List D → Str → Option D
  | k :: ks, d :: ds, f => if f = k then some d else fget ks ds f
  | _, _, _ => none
theorem fget_rep {K : PySem.W.Frag} {mg : Str → Option Value} : ∀ {fs : List (Str × V)} {ks : List Str} {ds : List D} {f : Str} {d : D}, fs.map (·.1) = ks → Reps K mg G (fs.map (·.2)) ds → fget ks ds f = some d → ∃ v, fs.lookup f = some v ∧ Rep K mg G v d
  | [], _, _, _, _, e, r, h => by
    subst e
    cases r
    cases h
  | (k, v) :: fs, _, _, f, d, e, r, h => by
    subst e
    cases r with
    | @cons _ d0 _ ds0 r1 r2 =>
      have h' : (if f = k then some d0 else fget (fs.map (·.1)) ds0 f) = some d := h
      by_cases q : f = k
      · rw [if_pos q] at h'
        cases h'
        exact ⟨v, by rw [q]; simp [List.lookup], r1⟩
      · rw [if_neg q] at h'
        obtain ⟨v', h1, h2⟩ := fget_rep rfl r2 h'
        have qb : (f == k) = false := by simpa using q
        exact ⟨v', by simp [List.lookup, qb, h1], h2⟩
theorem flook_none : ∀ {fs : List (Str × V)} {m : Str}, m ∉ fs.map (·.1) → fs.lookup m = none
  | [], _, _ => rfl
  | (k, v) :: fs, m, h => by
    have h1 : ¬ m = k := fun z => h (by rw [z]; exact List.mem_cons_self)
    have qb : (m == k) = false := by simpa using h1
    show (match m == k with | true => some v | false => fs.lookup m) = none
    rw [qb]
    exact flook_none fun z => h (List.mem_cons_of_mem _ z)
/-- the class called so is plain, and has no attribute f of its own -/
def ClsF (K : PySem.W.Frag) (mg : Str → Option Value) (cn f : Str) : Prop := ∀ C, mg cn = some (.ref C) → Cls K C ∧ NoAttr K C f
theorem ve_fld {f : Str} (h : VE X c S a fun d S1 => ∃ cn ks ds v, d = .ins cn ks ds ∧ ClsF X.K X.mg cn f ∧ fget ks ds f = some v ∧ Q v S1) (hb : attributeBase a f X.env (eval a X.env) = eval a X.env := by rfl) : VE X c S (.Attribute a f pos) Q := fun σ G H hd => by
  refine tE_of (pe_fld pe_sem hb) (tE_mono (h σ G H hd) fun v H1 ⟨d, S1, G1, h1, s1, r, cn, ks, ds, w, e, cl, fg, q⟩ => ?_)
  subst e
  cases r with
  | @ins a C dx fs _ _ _ m1 m2 m3 m4 =>
    obtain ⟨u, l1, l2⟩ := fget_rep m3 m4 fg
    exact ⟨a, C, dx, fs, u, rfl, h1.sub _ _ m2, (cl C m1).1, (cl C m1).2, l1, pE_back s1 (pE_ret h1 l2 q)⟩
/-! ### subscripts -/
def ixP : D → D → (D → Prop) → Prop
  | .lst ds, .int i, k => ∃ d, atI ds i = some d ∧ k d
  | .tup ds, .int i, k => ∃ d, atI ds i = some d ∧ k d
  | .scr ds, .int i, k => ∃ d, atI ds i = some d ∧ k d
  | .str z, .int i, k => z.length ≤ sizeLine ∧ ∃ ch, atI z.cps.toList i = some ch ∧ k (.str ⟨#[ch]⟩)
  | _, _, _ => False
theorem reps_atI {K : PySem.W.Frag} {mg : Str → Option Value} {vs : List V} {ds : List D} {i : Int} {d : D} (r : Reps K mg G vs ds) (h : atI ds i = some d) : ∃ v, atI vs i = some v ∧ Rep K mg G v d := by
  unfold atI at h ⊢
  rw [r.length]
  obtain ⟨j, h1, h2⟩ := Option.bind_eq_some_iff.mp h
  obtain ⟨v, h3, h4⟩ := r.get h2
  exact ⟨v, by rw [h1]; exact h3, h4⟩
theorem ve_ix (h : VE X c S a fun x S1 => VE X c S1 b fun y S2 => ixP x y fun d => Q d S2) (hs : PlainIx b := by exact fun _ _ => rfl) : VE X c S (.Subscript a b pos) Q := fun σ G H hd => by
  refine tE_of (pe_ix (ix_list.or (ix_tup.or ix_str)) pe_sem pe_sem hs) (tE_mono (h σ G H hd) fun u H1 ⟨x, S1, G1, h1, s1, r1, q1⟩ => tE_mono (q1 σ G1 H1 h1) fun v H2 ⟨y, S2, G2, h2, s2, r2, q2⟩ => ?_)
  cases x with
  | lst ds =>
    cases y with
    | int i =>
      obtain ⟨d, e, q⟩ := q2
      obtain ⟨p, xs, e1, h3, r3⟩ := rep_lst r1
      obtain ⟨w, e4, r4⟩ := reps_atI r3 e
      exact .inl ⟨p, xs, i, w, e1, rep_int r2, .inl (.inl (h2.sub _ _ (s2 _ _ h3))), e4, pE_back (s1.trans s2) (pE_ret h2 (r4.mono s2) q)⟩
    | _ => exact q2.elim
  | tup ds =>
    cases y with
    | int i =>
      obtain ⟨d, e, q⟩ := q2
      obtain ⟨p, xs, e1, h3, r3⟩ := rep_tup r1
      obtain ⟨w, e4, r4⟩ := reps_atI r3 e
      exact .inr (.inl ⟨p, xs, i, w, e1, rep_int r2, .inl (.inl (h2.sub _ _ (s2 _ _ h3))), e4, pE_back (s1.trans s2) (pE_ret h2 (r4.mono s2) q)⟩)
    | _ => exact q2.elim
  | scr ds =>
    cases y with
    | int i =>
      obtain ⟨d, e, q⟩ := q2
      cases r1 with
      | @scr p xs _ h3 r3 =>
        obtain ⟨w, e4, r4⟩ := reps_atI r3 e
        exact .inl ⟨p, xs, i, w, rfl, rep_int r2, h2.sub.seq (s2.seq h3), e4, pE_back (s1.trans s2) (pE_ret h2 (r4.mono s2) q)⟩
    | _ => exact q2.elim
  | str z =>
    cases y with
    | int i =>
      obtain ⟨l, ch, e, q⟩ := q2
      exact .inr (.inr ⟨z, i, ch, rep_str r1, rep_int r2, l, e, pE_back (s1.trans s2) (pE_ret h2 .str q)⟩)
    | _ => exact q2.elim
  | _ => cases y <;> exact q2.elim
/-- an item of one's own list -/
theorem ve_ixOwn (i : Nat) {x : Str} {pos2 : Pos} {ds : List D} (hρ : S.ρ[i]? = some (.own ds)) (h : VE X c S b fun y S2 => S2.ρ[i]? = some (.own ds) ∧ ∃ j d, y = .int j ∧ atI ds j = some d ∧ Q d S2) (hs : PlainIx b := by exact fun _ _ => rfl)
    (hN : X.N[i]? = some x := by rfl) (hv : Vis X.env.scope x := by first | exact Or.inl rfl | exact Or.inr (Or.inl rfl) | exact Or.inr (Or.inr rfl)) (hd : (x == ("__debug__" : Str)) = false := by decide) (hcd : (x == ("__classdict__" : Str)) = false := by decide) : VE X c S (.Subscript (.Name x pos2) b pos) Q := fun σ G H hh => by
  obtain ⟨o, e1, l, vs, e2, hl, gl, r, _⟩ := hh.slots i _ hρ
  subst e2
  refine tE_of (pe_ix ix_list (pv i hN hv hd hcd) pe_sem hs) ⟨_, e1, tE_mono (h σ G H hh) fun v H2 ⟨y, S2, G2, h2, s2, r2, hρ2, j, d, ey, e, q⟩ => ?_⟩
  subst ey
  obtain ⟨o', e1', l', vs', e2', hl', gl', r', _⟩ := h2.slots i _ hρ2
  rw [e1] at e1'
  cases e1'
  cases e2'
  obtain ⟨w, e4, r4⟩ := reps_atI r' e
  exact ⟨l, vs', j, w, rfl, rep_int r2, .inl (.inl hl'), e4, pE_back s2 (pE_ret h2 r4 q)⟩
/-! ### append to one's own list -/
theorem vs_append (i : Nat) {x : Str} {pos2 apos cpos : Pos} {ds : List D} (hρ : S.ρ[i]? = some (.own ds)) (ht : c.top = true) (h : VE X c S a fun d S2 => S2.ρ[i]? = some (.own ds) ∧ ds.length < sizeLine ∧ E.nx (S2.put i (.own (ds ++ [d]))))
    (hN : X.N[i]? = some x := by rfl) (hv : Vis X.env.scope x := by first | exact Or.inl rfl | exact Or.inr (Or.inl rfl) | exact Or.inr (Or.inr rfl)) (hd : (x == ("__debug__" : Str)) = false := by decide) (hcd : (x == ("__classdict__" : Str)) = false := by decide)
    (hstar : starEach [a] X.env = [(false, eval a X.env)] := by rfl) (hs : swapsWith (.Call (.Attribute (.Name x pos2) "append" apos) [a] [] cpos) none pos.line X.env = pure false := by rfl)
    (hbase : attributeBase (.Name x pos2) "append" X.env (eval (.Name x pos2) X.env) = eval (.Name x pos2) X.env := by rfl)
    (hfew : ((backTo cpos (starEach [a] X.env)).all (fun x => !x.1) && (backToKw cpos (keywordEach [] X.env)).all (fun x => x.1.isSome) && decide ([a].length + ([] : List Keyword).length + (if ([] : List Keyword).isEmpty then 0 else 1) < 30)) = true := by rfl)
    (hline : (apos.endLine == cpos.line) = true := by rfl) :
    VS X c S (.Expr (.Call (.Attribute (.Name x pos2) "append" apos) [a] [] cpos) pos) E := fun σ G H hh => by
  obtain ⟨o, e1, l, vs, e2, hl, gl, r, _⟩ := hh.slots i _ hρ
  subst e2
  refine tS_of (ps_expr (pe_bm PySem.F.plainAttrs_list PySem.F.slot_list_append PySem.F.type_list_append mt_append (pv i hN hv hd hcd) (pa_cons pe_sem pa_nil hstar) hbase hfew hline hstar rfl) hs) ?_
  refine ⟨_, e1, .inl ⟨rfl, vs, .inl (.inl hl)⟩, tE_mono (h σ G H hh) fun v H2 ⟨d, S2, G2, h2, s2, r2, hρ2, hz, q⟩ => ?_⟩
  obtain ⟨o', e1', l', vs', e2', hl', gl', r', _⟩ := h2.slots i _ hρ2
  rw [e1] at e1'
  cases e1'
  cases e2'
  exact ⟨l, vs', v, rfl, rfl, hl', by rw [r'.length]; exact hz, _, G2, h2.mut hρ2 ht e1 (r'.append (.cons r2 .nil)) (by rw [List.length_append]; exact hz), s2, q⟩
end
end VL
set_option Elab.async false
set_option linter.all false
set_option maxRecDepth 100000
set_option maxHeartbeats 4000000
/-! VL6: the operators together, by the shapes of their operands. -/
namespace VL
open PySem PySem.Spec PyProof.Rows L2

section
variable {X : Cx} {c : Cv} {S : State} {e a b : Expr} {es : List Expr} {σ : L2.St} {G G' H : Hp} {pos : Pos} {Q : D → State → Prop} {QT : Bool → State → Prop}
/-! ### + -/
abbrev rAddI : R2 := rI0 fun i j => .int (i + j)
abbrev rAddS : R2 := fun x y H Q => ∃ i j, x = .str i ∧ y = .str j ∧ i.length + j.length ≤ sizeLine ∧ Q (.str (i ++ j)) H
def rAddAll (K : PySem.W.Frag) : R2 := fun x y H Q => rAddI x y H Q ∨ rAddS x y H Q ∨ rCat x y H Q ∨ rCatT K x y H Q
theorem op_addAll : OpR X (binaryOp .Add) (rAddAll X.K) := op_add.or (op_add_str.or (op_cat.or op_catT))
theorem rb_addI {i j : Int} (q : Q (.int (i + j)) S) : RB X c S (rAddAll X.K) (.int i) (.int j) Q := fun σ G H u v hd ru rv R hR => .inl ⟨i, j, rep_int ru, rep_int rv, hR _ _ (pE_ret hd .int q)⟩
theorem rb_addS {i j : Str} (hz : i.length + j.length ≤ sizeLine) (q : Q (.str (i ++ j)) S) : RB X c S (rAddAll X.K) (.str i) (.str j) Q := fun σ G H u v hd ru rv R hR => .inr (.inl ⟨i, j, rep_str ru, rep_str rv, hz, hR _ _ (pE_ret hd .str q)⟩)
/-- lists that a body made: tracked as lists, not the script -/
def NotFrz (G : Hp) (a : Addr) : Prop := ∀ o u, G a ≠ some (.frz o u)
theorem rb_addT {xs ys : List D} (hx : xs ≠ []) (hz : xs.length + ys.length ≤ sizeLine) (q : Q (.tup (xs ++ ys)) S) : RB X c S (rAddAll X.K) (.tup xs) (.tup ys) Q := fun σ G H u v hd ru rv R hR => by
  obtain ⟨p, us, e1, h1, r1⟩ := rep_tup ru
  obtain ⟨p', vs, e2, h2, r2⟩ := rep_tup rv
  subst e1; subst e2
  refine .inr (.inr (.inr ⟨p, p', us, vs, rfl, rfl, .inl (.inl (hd.sub _ _ h1)), .inl (.inl (hd.sub _ _ h2)), fun z => ?_, by rw [r1.length, r2.length]; exact hz, fun z => ?_, fun _ l hl => ?_⟩))
  · subst z
    have := r1.length
    exact hx (List.eq_nil_of_length_eq_zero this.symm)
  · subst z
    have e : ys = [] := List.eq_nil_of_length_eq_zero r2.length.symm
    subst e
    rw [List.append_nil] at q
    exact hR _ _ (pE_ret hd ru q)
  · exact hR _ _ (pE_new hd hl (.tup upd_same ((r1.append r2).mono (same_upd (hd.sub.free hl))) (by rw [List.length_append]; exact hz)) q)
theorem rb_addL {xs ys : List D} (hz : xs.length + ys.length ≤ sizeLine) (q : Q (.lst (xs ++ ys)) S) : RB X c S (rAddAll X.K) (.lst xs) (.lst ys) Q := fun σ G H u v hd ru rv R hR => by
  obtain ⟨p, us, e1, h1, r1⟩ := rep_lst ru
  obtain ⟨p', vs, e2, h2, r2⟩ := rep_lst rv
  subst e1; subst e2
  exact .inr (.inr (.inl ⟨p, p', us, vs, rfl, rfl, hd.sub _ _ h1, hd.sub _ _ h2, by rw [r1.length, r2.length]; exact hz, fun l hl => hR _ _ (pE_new hd hl (.lst upd_same ((r1.append r2).mono (same_upd (hd.sub.free hl))) (by rw [List.length_append]; exact hz)) q)⟩))
/-! ### - * // % -/
abbrev rMulI : R2 := rI (fun i j => IntMulOk i j) fun i j => .int (i * j)
theorem op_mulB : OpR X (binaryOp .Mult) rMulI := opI fun _ _ _ _ _ _ _ hc q => mul_int q hc
def rMulAll : R2 := fun x y H Q => rMulI x y H Q ∨ rRep x y H Q
theorem op_mulAll : OpR X (binaryOp .Mult) rMulAll := op_mulB.or op_rep
theorem rb_mulI {i j : Int} (hC : IntMulOk i j) (q : Q (.int (i * j)) S) : RB X c S rMulAll (.int i) (.int j) Q := fun σ G H u v hd ru rv R hR => .inl ⟨i, j, rep_int ru, rep_int rv, hC, hR _ _ (pE_ret hd .int q)⟩
theorem reps_rep {K : PySem.W.Frag} {mg : Str → Option Value} {G : Hp} {vs : List V} {ds : List D} (r : Reps K mg G vs ds) : ∀ k : Nat, Reps K mg G (List.replicate k vs).flatten (List.replicate k ds).flatten
  | 0 => .nil
  | k + 1 => by
    rw [List.replicate_succ, List.replicate_succ, List.flatten_cons, List.flatten_cons]
    exact r.append (reps_rep r k)
theorem rep_len {α : Type} (xs : List α) : ∀ k : Nat, (List.replicate k xs).flatten.length = k * xs.length
  | 0 => by simp
  | k + 1 => by
    rw [List.replicate_succ, List.flatten_cons, List.length_append, rep_len xs k, Nat.succ_mul, Nat.add_comm]
theorem rb_mulL {xs : List D} {k : Int} (h1 : -(2 ^ 63) ≤ k ∧ k < 2 ^ 63) (hz : xs.length * k.toNat ≤ sizeLine) (q : Q (.lst (List.replicate k.toNat xs).flatten) S) : RB X c S rMulAll (.lst xs) (.int k) Q := fun σ G H u v hd ru rv R hR => by
  obtain ⟨p, us, e1, h2, r1⟩ := rep_lst ru
  subst e1
  exact .inr ⟨p, k, us, rfl, rep_int rv, hd.sub _ _ h2, h1.1, h1.2, by rw [r1.length]; exact hz, fun l hl => hR _ _ (pE_new hd hl (.lst upd_same ((reps_rep r1 _).mono (same_upd (hd.sub.free hl))) (by rw [rep_len, Nat.mul_comm]; exact hz)) q)⟩
theorem rb_subI {i j : Int} (q : Q (.int (i - j)) S) : RB X c S (rI0 fun i j => .int (i - j)) (.int i) (.int j) Q := rb_int (f := fun i j => i - j) q
/-- a divisor that is no reason for _pylong: small, or not far below the dividend -/
def DivOk (i j : Int) : Prop := 0 < j ∧ Builtin.divisionGoesByPylong i j = false
abbrev rDiv : R2 := rI DivOk fun i j => .int (i / j)
theorem op_divB : OpR X (binaryOp .FloorDiv) rDiv := opI fun i j _ _ _ _ _ hc q => by
  have h1 : (0 : Int) < j := hc.1
  exact floordiv_int (by omega) (by rw [Int.fdiv_eq_ediv_of_nonneg i (by omega)]; exact q) (.inl hc.2)
def DivOkN (i j : Int) : Prop := j ≠ 0 ∧ Builtin.divisionGoesByPylong i j = false
abbrev rDivN : R2 := rI DivOkN fun i j => .int (i.fdiv j)
theorem op_divN : OpR X (binaryOp .FloorDiv) rDivN := opI fun i j _ _ _ _ _ hc q => floordiv_int hc.1 q (.inl hc.2)
theorem rb_div {i j : Int} (hC : DivOk i j) (q : Q (.int (i / j)) S) : RB X c S rDiv (.int i) (.int j) Q := rb_intC (f := fun i j => i / j) hC q
theorem rb_divN {i j : Int} (hC : DivOkN i j) (q : Q (.int (i.fdiv j)) S) : RB X c S rDivN (.int i) (.int j) Q := rb_intC (f := fun i j => i.fdiv j) hC q
theorem rb_mod {i j : Int} (hC : 0 < j) (q : Q (.int (i % j)) S) : RB X c S (rI (fun _ j => 0 < j) fun i j => .int (i % j)) (.int i) (.int j) Q := rb_intC (f := fun i j => i % j) hC q
/-! ### comparisons -/
theorem rb_lt {i j : Int} (q : Q (.bl (decide (i < j))) S) : RB X c S (rI0 fun i j => .bl (decide (i < j))) (.int i) (.int j) Q := rb_bl (f := fun i j => decide (i < j)) q
theorem rb_le {i j : Int} (q : Q (.bl (decide (i ≤ j))) S) : RB X c S (rI0 fun i j => .bl (decide (i ≤ j))) (.int i) (.int j) Q := rb_bl (f := fun i j => decide (i ≤ j)) q
theorem rb_gt {i j : Int} (q : Q (.bl (decide (j < i))) S) : RB X c S (rI0 fun i j => .bl (decide (j < i))) (.int i) (.int j) Q := rb_bl (f := fun i j => decide (j < i)) q
theorem rb_ge {i j : Int} (q : Q (.bl (decide (j ≤ i))) S) : RB X c S (rI0 fun i j => .bl (decide (j ≤ i))) (.int i) (.int j) Q := rb_bl (f := fun i j => decide (j ≤ i)) q
def rEqAll (K : PySem.W.Frag) : R2 := fun x y H Q => rEq x y H Q ∨ rEqD K x y H Q
theorem op_eqAll {k : Nat} (hr : Room k X.A) : OpR X (compareOp .Eq) (rEqAll X.K) := op_eq.or (op_eqD hr.units)
def rNeAll (K : PySem.W.Frag) : R2 := fun x y H Q => rNe x y H Q ∨ rNeD K x y H Q
theorem op_neAll {k : Nat} (hr : Room k X.A) : OpR X (compareOp .NotEq) (rNeAll X.K) := op_ne.or (op_neD hr.units)
theorem rb_eqAI {i j : Int} (k : Q (.bl (decide (i = j))) S) : RB X c S (rEqAll X.K) (.int i) (.int j) Q := (rb_eqI k).or1
theorem rb_neAI {i j : Int} (k : Q (.bl (!decide (i = j))) S) : RB X c S (rNeAll X.K) (.int i) (.int j) Q := (rb_neI k).or1
theorem rb_eqAB {i j : Bool} (k : Q (.bl (i == j)) S) : RB X c S (rEqAll X.K) (.bl i) (.bl j) Q := fun σ G H u v hd ru rv R hR => .inl (by
  rw [rep_bl ru, rep_bl rv]
  refine ⟨rfl, hR _ _ ?_⟩
  rw [dec_bl]
  exact pE_ret hd .bl k)
theorem rb_neAB {i j : Bool} (k : Q (.bl (!(i == j))) S) : RB X c S (rNeAll X.K) (.bl i) (.bl j) Q := fun σ G H u v hd ru rv R hR => .inl (by
  rw [rep_bl ru, rep_bl rv]
  refine ⟨rfl, hR _ _ ?_⟩
  rw [dec_bl]
  exact pE_ret hd .bl k)
theorem rb_eqAS {i j : Str} (k : Q (.bl (i == j)) S) : RB X c S (rEqAll X.K) (.str i) (.str j) Q := fun σ G H u v hd ru rv R hR => .inl (by
  rw [rep_str ru, rep_str rv]
  refine ⟨rfl, hR _ _ ?_⟩
  rw [dec_str]
  exact pE_ret hd .bl k)
theorem rb_eqAD {x y : D} {p q : PyData} (hx : x.toPy = some p) (hy : y.toPy = some q) (sx : SeqAt.shaped p = true) (sy : SeqAt.shaped q = true) (k : Q (.bl (PyData.eqv p q)) S) : RB X c S (rEqAll X.K) x y Q := (rb_eqD hx hy sx sy k).or2
theorem rb_neAD {x y : D} {p q : PyData} (hx : x.toPy = some p) (hy : y.toPy = some q) (sx : SeqAt.shaped p = true) (sy : SeqAt.shaped q = true) (k : Q (.bl (!PyData.eqv p q)) S) : RB X c S (rNeAll X.K) x y Q := (rb_neD hx hy sx sy k).or2
end
end VL
set_option Elab.async false
set_option linter.all false
set_option maxRecDepth 100000
set_option maxHeartbeats 4000000
/-! VL7: comprehensions, slices. -/
namespace VL
open PySem PySem.Spec PyProof.Rows L2

section
variable {K : PySem.W.Frag} {mg : Str → Option Value} {c : Cv} {S : State} {σ : L2.St} {G G' H H' : Hp}
/-- an object that is no slot's, no pen's, not frozen, may change -/
theorem Hd.aside (h : Hd K mg c S σ G H) {D : Addr} {xs ys : List V} (hD : H D = some (.lst xs)) (gD : G D = none) (h0 : c.H0 D = none) (hs : ∀ i : Nat, ownAt S.ρ i → σ[i]? ≠ some (some (.ref D))) : Hd K mg c S σ G (upd H D (.lst ys)) where
  sub := fun b u q => by rw [upd_ne (ne_of_none q gD)]; exact h.sub _ _ q
  len := h.len
  slots := fun i sl e => by
    obtain ⟨o, h1, h2⟩ := h.slots i sl e
    refine ⟨o, h1, ?_⟩
    cases sl with
    | un => trivial
    | val d => exact h2
    | own ds =>
      obtain ⟨l, vs, e1, e2, e3⟩ := h2
      have hne : l ≠ D := fun y => hs i ⟨_, e, rfl⟩ (by rw [h1, e1, y])
      exact ⟨l, vs, e1, by rw [upd_ne hne]; exact e2, e3⟩
    | obj a cc ks ds =>
      obtain ⟨C, dx, fs, e1, e2, e3, e4, e5⟩ := h2
      have ha : a ≠ D := ne_of e3 hD (fun y => nomatch y)
      have hd : dx ≠ D := ne_of e4 hD (fun y => nomatch y)
      exact ⟨C, dx, fs, e1, e2, by rw [upd_ne ha]; exact e3, by rw [upd_ne hd]; exact e4, e5⟩
  dist := h.dist
  pen := fun p r q => by
    obtain ⟨⟨cc, cells, bb, ll, p1, p4⟩, pa⟩ := h.pen p r q
    have hne : p ≠ D := ne_of p1 hD (fun y => nomatch y)
    exact ⟨⟨cc, cells, bb, ll, by rw [upd_ne hne]; exact p1, p4⟩, pa⟩
  padr := h.padr
  ext0 := h.ext0
  new0 := h.new0
  keep0 := fun b u q hp hx => by rw [upd_ne (ne_of_none q h0)]; exact h.keep0 _ _ q hp hx
  fresh := h.fresh
  tbl0 := h.tbU hD (fun _ z => nomatch z)
  tabs := h.tsU hD (fun _ z => nomatch z)
/-- such an object is frozen -/
theorem Hd.adopt (h : Hd K mg c S σ G H) {D : Addr} {xs : List V} (hD : H D = some (.lst xs)) (gD : G D = none) (h0 : c.H0 D = none) (hs : ∀ i : Nat, ownAt S.ρ i → σ[i]? ≠ some (some (.ref D))) : Hd K mg c S σ (upd G D (.lst xs)) H where
  sub := fun b u q => by
    by_cases z : b = D
    · subst z; rw [upd_same] at q; cases q; exact hD
    · rw [upd_ne z] at q; exact h.sub _ _ q
  len := h.len
  slots := fun i sl e => by
    obtain ⟨o, h1, h2⟩ := h.slots i sl e
    refine ⟨o, h1, ?_⟩
    have sm : Same G (upd G D (.lst xs)) := same_upd gD
    cases sl with
    | un => trivial
    | val d => exact ⟨_, h2.choose_spec.1, h2.choose_spec.2.mono sm⟩
    | own ds =>
      obtain ⟨l, vs, e1, e2, e3, e4, e5⟩ := h2
      have hne : l ≠ D := fun y => hs i ⟨_, e, rfl⟩ (by rw [h1, e1, y])
      exact ⟨l, vs, e1, e2, by rw [upd_ne hne]; exact e3, e4.mono sm, e5⟩
    | obj a cc ks ds =>
      obtain ⟨C, dx, fs, e1, e2, e3, e4, e5, e6, e7, e8⟩ := h2
      have ha : a ≠ D := ne_of e3 hD (fun y => nomatch y)
      have hd : dx ≠ D := ne_of e4 hD (fun y => nomatch y)
      exact ⟨C, dx, fs, e1, e2, e3, e4, by rw [upd_ne ha]; exact e5, by rw [upd_ne hd]; exact e6, e7, e8.mono sm⟩
  dist := h.dist
  pen := fun p r q => by
    obtain ⟨⟨cc, cells, bb, ll, p1, p2, p3, p4⟩, pa⟩ := h.pen p r q
    have hne : p ≠ D := ne_of p1 hD (fun y => nomatch y)
    exact ⟨⟨cc, cells, bb, ll, p1, by rw [upd_ne hne]; exact p2, Same.seq (same_upd gD) p3, p4⟩, pa⟩
  padr := h.padr
  ext0 := h.ext0.trans (same_upd gD)
  new0 := fun b u q => by
    by_cases z : b = D
    · subst z; exact .inr h0
    · rw [upd_ne z] at q; exact h.new0 _ _ q
  keep0 := h.keep0
  fresh := h.fresh
  tbl0 := h.tbl0
  tabs := fun p hp => (h.tabs p hp).mono (same_upd gD) (fun _ e => e) (fun g => by
    obtain ⟨ps, e2, _⟩ := h.tabs p hp
    rw [upd_ne (fun z => by rw [z, hD] at e2; cases e2)]; exact g)
def blkCv (c : Cv) (G H : Hp) (pn : Pn) : Cv := ⟨G, H, pn.map (·.1), false, c.cf, fun _ _ => False⟩
theorem Hd.rebase (h : Hd K mg c S σ G H) : Hd K mg (blkCv c G H S.pn) S σ G H :=
  ⟨h.sub, h.len, h.slots, h.dist, fun p r e => ⟨(h.pen p r e).1, .inl (by show S.pn.map (·.1) = some p; rw [e]; rfl)⟩, fun a e => by
    obtain ⟨⟨p, r⟩, h1, h2⟩ := Option.map_eq_some_iff.mp (show S.pn.map (·.1) = some a from e)
    have h2' : p = a := h2
    subst h2'
    exact ⟨r, h1⟩, Same.refl _, fun _ _ q => .inl q, fun _ _ q _ _ => q, (fun z => nomatch z), fun _ ps e => ⟨ps, e⟩, h.tabs⟩
theorem Hd.blkDone {pn : Pn} (h : Hd K mg (blkCv c G H pn) S σ G' H') : After c.cf K G H pn G' H' (outPn pn S.pn) where
  sub := h.sub
  ext := h.ext0
  new := h.new0
  keep := fun a o e hne hx => h.keep0 a o e (fun z => by
    obtain ⟨⟨p, r⟩, h1, h2⟩ := Option.map_eq_some_iff.mp (show pn.map (·.1) = some a from z)
    have h2' : p = a := h2
    subst h2'
    exact hne r h1) hx
  tbl := h.tbl0
  tabs := h.tabs
  pen := fun p r e => by
    cases pn with
    | none => cases e
    | some w => exact (h.pen p r e).1
  adr := by
    cases pn with
    | none => rfl
    | some w =>
      obtain ⟨p, r⟩ := w
      obtain ⟨r', q⟩ := h.padr p rfl
      show S.pn.map (·.1) = some p
      rw [q]
      rfl
/-- the slots of a block's own names forgotten -/
def wipeρ (ρ : List Sl) : List Nat → List Sl
  | [] => ρ
  | v :: vs => (wipeρ ρ vs).set v .un
theorem Hd.wiped (h : Hd K mg c S σ G H) : ∀ vs : List Nat, Hd K mg c ⟨wipeρ S.ρ vs, S.pn⟩ (wipe σ vs) G H
  | [] => h
  | v :: vs => (Hd.wiped h vs).set (i := v) (o := none) (sl := .un) trivial rfl
theorem wipe_set1 {σ : L2.St} {o : Option V} {i : Nat} : ∀ {vs : List Nat}, i ∈ vs → wipe (σ.set i o) vs = wipe σ vs
  | [], h => nomatch h
  | v :: vs, h => by
    show (wipe (σ.set i o) vs).set v none = (wipe σ vs).set v none
    by_cases q : i ∈ vs
    · rw [wipe_set1 q]
    · have hv : i = v := (List.mem_cons.mp h).resolve_right q
      subst hv
      have comm : ∀ {ws : List Nat} {σ : L2.St}, i ∉ ws → wipe (σ.set i o) ws = (wipe σ ws).set i o := by
        intro ws
        induction ws with
        | nil => intro σ _; rfl
        | cons w ws ih =>
          intro σ hw
          have h1 : i ≠ w := fun z => hw (z ▸ List.mem_cons_self)
          have h2 : i ∉ ws := fun z => hw (List.mem_cons_of_mem _ z)
          show (wipe (σ.set i o) ws).set w none = ((wipe σ ws).set w none).set i o
          rw [ih h2, List.set_comm _ _ h1]
      rw [comm q, List.set_set]
theorem wipe_none {σ : L2.St} {v : Nat} : ∀ {vs : List Nat}, v ∈ vs → (wipe σ vs).set v none = wipe σ vs
  | [], h => nomatch h
  | w :: vs, h => by
    show ((wipe σ vs).set w none).set v none = (wipe σ vs).set w none
    by_cases q : v = w
    · subst q; rw [List.set_set]
    · have hv : v ∈ vs := (List.mem_cons.mp h).resolve_left q
      rw [List.set_comm _ _ (Ne.symm q), wipe_none hv]
theorem wipe_wipe {σ : L2.St} {vs : List Nat} : wipe (wipe σ vs) vs = wipe σ vs := by
  have : ∀ ws : List Nat, (∀ w ∈ ws, w ∈ vs) → wipe (wipe σ vs) ws = wipe σ vs := by
    intro ws
    induction ws with
    | nil => intro _; rfl
    | cons w ws ih =>
      intro hw
      show (wipe (wipe σ vs) ws).set w none = wipe σ vs
      rw [ih fun x hx => hw x (List.mem_cons_of_mem _ hx)]
      exact wipe_none (hw w List.mem_cons_self)
  exact this vs fun w h => h
end

section
variable {X : Cx} {c : Cv} {S : State} {e a b elt tg iter : Expr} {ifs : List Expr} {es : List Expr} {st : Stmt} {sts : List Stmt} {σ : L2.St} {G G' H : Hp} {pos : Pos} {Q : D → State → Prop} {QT : Bool → State → Prop} {E : VD}
/-- the context of a comprehension's block -/
abbrev bkX (X : Cx) (scope : Scope) (s0 : Shared) (H0 : Hp) (C : Addr) (cl : List (Str × Addr)) (fp : List Addr) : Cx := X.blk s0 H0 scope (compEnvC scope cl C X.env) fp
theorem takes_blk {scope : Scope} {s0 : Shared} {H0 : Hp} {C : Addr} {cl : List (Str × Addr)} {fp : List Addr} {Gb Hb : Hp} {pn : Pn} : Takes (bkX X scope s0 H0 C cl fp) (WV (bkX X scope s0 H0 C cl fp) (blkCv c Gb Hb pn)) :=
  Takes.imp (takes0 (X := bkX X scope s0 H0 C cl fp)) fun _ _ _ _ ⟨_, _, _, _, _, q⟩ => q
def tEb (X : Cx) (scope : Scope) (e : Expr) : TE := fun σ H Q => ∀ s0 H0 C cl fp, tE (bkX X scope s0 H0 C cl fp) e σ H Q
def tTb (X : Cx) (scope : Scope) (e : Expr) : TT := fun σ H Q => ∀ s0 H0 C cl fp, tT (bkX X scope s0 H0 C cl fp) e σ H Q
/-- what a comprehension's target does, by values -/
def TgOk (X : Cx) (g : TG) (vs : List Nat) (asg : D → List Sl → Option (List Sl)) : Prop :=
  ∀ (c : Cv) (S : State) (σ : L2.St) (G H : Hp) (v : V) (d : D) (ρ : List Sl), HdX X c S σ G H → RepX X G v d → asg d S.ρ = some ρ → ∀ Q : L2.St → Hp → Prop, (∀ σ2, HdX X c ⟨ρ, S.pn⟩ σ2 G H → wipe σ2 vs = wipe σ vs → Q σ2 H) → g v σ H Q
theorem tg_name {i : Nat} {vs : List Nat} (hi : i ∈ vs) : TgOk X (gName i) vs (fun d ρ => some (ρ.set i (.val d))) := fun c S σ G H v d ρ h r e Q k => by
  cases e
  exact k _ (h.setVal r) (wipe_set1 hi)
theorem tg_two {i j : Nat} {vs : List Nat} (hi : i ∈ vs) (hj : j ∈ vs) : TgOk X (gTup X.K 2 (gCons (gName i) (gCons (gName j) gNil))) vs (fun d ρ => match d with | .tup [x, y] => some ((ρ.set i (.val x)).set j (.val y)) | _ => none) := fun c S σ G H v d ρ h r e Q k => by
  match d, e with
  | .tup [x, y], e =>
    cases e
    obtain ⟨a, us, e1, h1, r1⟩ := rep_tup r
    subst e1
    obtain ⟨u1, u2, rfl, r2, r3⟩ := reps2 r1
    refine ⟨a, _, rfl, .inl (.inl (h.sub _ _ h1)), rfl, u1, [u2], rfl, u2, [], rfl, rfl, ?_⟩
    exact k _ ((h.setVal r2).setVal r3) (by rw [wipe_set1 hj, wipe_set1 hi])
theorem tg_three {i j l : Nat} {vs : List Nat} (hi : i ∈ vs) (hj : j ∈ vs) (hl : l ∈ vs) : TgOk X (gTup X.K 3 (gCons (gName i) (gCons (gName j) (gCons (gName l) gNil)))) vs (fun d ρ => match d with | .tup [x, y, z] => some (((ρ.set i (.val x)).set j (.val y)).set l (.val z)) | _ => none) := fun c S σ G H v d ρ h r e Q k => by
  match d, e with
  | .tup [x, y, z], e =>
    cases e
    obtain ⟨a, us, e1, h1, r1⟩ := rep_tup r
    subst e1
    cases r1 with
    | cons r2 r1 =>
      obtain ⟨u1, u2, rfl, r3, r4⟩ := reps2 r1
      refine ⟨a, _, rfl, .inl (.inl (h.sub _ _ h1)), rfl, _, [u1, u2], rfl, u1, [u2], rfl, u2, [], rfl, rfl, ?_⟩
      exact k _ (((h.setVal r2).setVal r3).setVal r4) (by rw [wipe_set1 hl, wipe_set1 hj, wipe_set1 hi])
def PvL (X : Cx) (c : Cv) (S1 : State) (σ : L2.St) (G1 : Hp) (Dl : Addr) (I : Nat → List D → Pn → Prop) (i : Nat) (H : Hp) : Prop :=
  ∃ acc pn accV G', HdX X c ⟨S1.ρ, pn⟩ σ G' H ∧ Same G1 G' ∧ H Dl = some (.lst accV) ∧ G' Dl = none ∧ Reps X.K X.mg G' accV acc ∧ acc.length ≤ i ∧ I i acc pn
/-- one turn's wish, by values -/
def LcTurn (X : Cx) (c : Cv) (scope : Scope) (elt : Expr) (ifs : List Expr) (ρ : List Sl) (I : Nat → List D → Pn → Prop) (i : Nat) (acc : List D) (pn : Pn) : Prop :=
  ∀ s0 H0 C cl fp Gb Hb, match ifs with
  | [] => VE (bkX X scope s0 H0 C cl fp) (blkCv c Gb Hb pn) ⟨ρ, pn⟩ elt fun y S4 => I (i + 1) (acc ++ [y]) (outPn pn S4.pn)
  | [t] => VT (bkX X scope s0 H0 C cl fp) (blkCv c Gb Hb pn) ⟨ρ, pn⟩ t fun k S3 => (k = true → ∀ s0 H0 C cl fp, VE (bkX X scope s0 H0 C cl fp) (blkCv c Gb Hb pn) S3 elt fun y S4 => I (i + 1) (acc ++ [y]) (outPn pn S4.pn)) ∧ (k = false → I (i + 1) acc (outPn pn S3.pn))
  | _ => False
def tTsb (X : Cx) (scope : Scope) : List Expr → TT
  | [] => tYes
  | [t] => tTb X scope t
  | _ => fun _ _ _ => False
theorem lc_turn {scope : Scope} {S1 : State} {G1 : Hp} {Dl : Addr} {I : Nat → List D → Pn → Prop} {i : Nat} {g : TG} {vs : List Nat} {asg : D → List Sl → Option (List Sl)} {x : V} {d : D} (hD0 : c.H0 Dl = none) (hsD : ∀ i : Nat, ownAt S1.ρ i → σ[i]? ≠ some (some (.ref Dl))) (hz : i < sizeLine)
    (tg : TgOk X g vs asg) (hx : ∀ G', Same G1 G' → RepX X G' x d) (turn : ∀ acc pn, I i acc pn → ∃ ρ, asg d (wipeρ S1.ρ vs) = some ρ ∧ LcTurn X c scope elt ifs ρ I i acc pn) (p : PvL X c S1 σ G1 Dl I i H) :
    g x (wipe σ vs) H fun σ2 H2 => wipe σ2 vs = wipe σ vs ∧ tTsb X scope ifs σ2 H2 fun b H3 =>
      if b = true then tEb X scope elt σ2 H3 fun y H4 => ∃ acc, H4 Dl = some (.lst acc) ∧ acc.length < sizeLine ∧ PvL X c S1 σ G1 Dl I (i + 1) (upd H4 Dl (.lst (acc ++ [y]))) else PvL X c S1 σ G1 Dl I (i + 1) H3 := by
  obtain ⟨acc, pn, accV, G', h1, s1, hD, gD, rA, hl, hI⟩ := p
  obtain ⟨ρ, eρ, tn⟩ := turn acc pn hI
  have hb : Hd X.K X.mg (blkCv c G' H pn) ⟨wipeρ S1.ρ vs, pn⟩ (wipe σ vs) G' H := (h1.rebase (S := ⟨S1.ρ, pn⟩)).wiped vs
  refine tg (blkCv c G' H pn) ⟨wipeρ S1.ρ vs, pn⟩ (wipe σ vs) G' H x d ρ hb (hx G' s1) eρ _ fun σ2 h2 hw => ?_
  refine ⟨by rw [hw, wipe_wipe], ?_⟩
  have hpnD : ∀ r, pn ≠ some (Dl, r) := fun r e => by
    obtain ⟨kvs, q⟩ := (h1.pen Dl r e).1.at
    rw [hD] at q; cases q
  have fin : ∀ (S4 : State) (G4 H4 : Hp) (y : V) (dy : D), Hd X.K X.mg (blkCv c G' H pn) S4 σ2 G4 H4 → RepX X G4 y dy → I (i + 1) (acc ++ [dy]) (outPn pn S4.pn) →
      ∃ acc, H4 Dl = some (.lst acc) ∧ acc.length < sizeLine ∧ PvL X c S1 σ G1 Dl I (i + 1) (upd H4 Dl (.lst (acc ++ [y]))) := fun S4 G4 H4 y dy h4 ry hI' => by
    have A := h4.blkDone
    have h5 : HdX X c ⟨S1.ρ, outPn pn S4.pn⟩ σ G4 H4 := h1.after A
    have hD4 : H4 Dl = some (.lst accV) := A.keep _ _ hD hpnD (fun _ z => nomatch z)
    have gD4 : G4 Dl = none := by
      cases z : G4 Dl with
      | none => rfl
      | some u =>
        rcases A.new _ _ z with q | q
        · rw [gD] at q; cases q
        · rw [hD] at q; cases q
    refine ⟨accV, hD4, by rw [rA.length]; omega, acc ++ [dy], _, accV ++ [y], G4, h5.aside hD4 gD4 hD0 hsD, s1.trans A.ext, upd_same, gD4, (rA.mono A.ext).append (.cons ry .nil), by simp; omega, hI'⟩
  have finN : ∀ (S4 : State) (G4 H4 : Hp), Hd X.K X.mg (blkCv c G' H pn) S4 σ2 G4 H4 → I (i + 1) acc (outPn pn S4.pn) → PvL X c S1 σ G1 Dl I (i + 1) H4 := fun S4 G4 H4 h4 hI' => by
    have A := h4.blkDone
    have h5 : HdX X c ⟨S1.ρ, outPn pn S4.pn⟩ σ G4 H4 := h1.after A
    have hD4 : H4 Dl = some (.lst accV) := A.keep _ _ hD hpnD (fun _ z => nomatch z)
    have gD4 : G4 Dl = none := by
      cases z : G4 Dl with
      | none => rfl
      | some u =>
        rcases A.new _ _ z with q | q
        · rw [gD] at q; cases q
        · rw [hD] at q; cases q
    exact ⟨acc, _, accV, G4, h5, s1.trans A.ext, hD4, gD4, rA.mono A.ext, by omega, hI'⟩
  match ifs, tn with
  | [], tn =>
    show tEb X scope elt σ2 H (fun y H4 => ∃ acc, H4 Dl = some (.lst acc) ∧ acc.length < sizeLine ∧ PvL X c S1 σ G1 Dl I (i + 1) (upd H4 Dl (.lst (acc ++ [y]))))
    intro s0 H0 C cl fp
    refine tE_mono (tn s0 H0 C cl fp G' H σ2 G' H h2) fun y H4 ⟨dy, S4, G4, h4, s4, r4, q4⟩ => fin S4 G4 H4 y dy h4 r4 q4
  | [t], tn =>
    intro s0 H0 C cl fp
    refine tT_mono (tn s0 H0 C cl fp G' H σ2 G' H h2) fun k H3 ⟨S3, G3, h3, s3, q3⟩ => ?_
    cases k with
    | false =>
      rw [if_neg Bool.false_ne_true]
      exact finN S3 G3 H3 h3 (q3.2 rfl)
    | true =>
      rw [if_pos rfl]
      intro s0' H0' C' cl' fp'
      exact tE_mono (q3.1 rfl s0' H0' C' cl' fp' σ2 G3 H3 h3) fun y H4 ⟨dy, S4, G4, h4, s4, r4, q4⟩ => fin S4 G4 H4 y dy h4 r4 q4
  | _ :: _ :: _, tn =>
    exact (tn X.s_0 H 0 [] [] G' H).elim

theorem hsD_of {S1 : State} {G1 H1 : Hp} (h : HdX X c S1 σ G1 H1) {Dl : Addr} (hD : H1 Dl = none) : ∀ i : Nat, ownAt S1.ρ i → σ[i]? ≠ some (some (.ref Dl)) := fun i ⟨sl, q1, q2⟩ e => by
  obtain ⟨o, q3, q4⟩ := h.slots i sl q1
  rw [q3] at e
  cases e
  cases sl with
  | un => cases q2
  | val d => cases q2
  | own ds =>
    obtain ⟨l2, vs2, e1, e2, _⟩ := q4
    cases e1
    rw [hD] at e2; cases e2
  | obj a c ks ds =>
    obtain ⟨C, dx, fs, e1, e2, e3, _⟩ := q4
    cases e1
    rw [hD] at e3; cases e3
theorem h0_of {S1 : State} {G1 H1 : Hp} (h : HdX X c S1 σ G1 H1) {Dl : Addr} (hD : H1 Dl = none) : c.H0 Dl = none := h.h0none hD
theorem pvL_start {S1 : State} {G1 H1 : Hp} {Dl : Addr} {I : Nat → List D → Pn → Prop} (h : HdX X c S1 σ G1 H1) (hD : H1 Dl = none) (h0 : I 0 [] S1.pn) : PvL X c S1 σ G1 Dl I 0 (upd H1 Dl (.lst [])) :=
  ⟨[], S1.pn, [], G1, h.after (h.allocH hD), Same.refl _, upd_same, h.sub.free hD, .nil, Nat.le_refl _, h0⟩
theorem pvL_end {S1 : State} {G1 H : Hp} {Dl : Addr} {I : Nat → List D → Pn → Prop} {n : Nat} (hD0 : c.H0 Dl = none) (hsD : ∀ i : Nat, ownAt S1.ρ i → σ[i]? ≠ some (some (.ref Dl))) (hz : n ≤ sizeLine) (fin : ∀ acc pn, I n acc pn → Q (.lst acc) ⟨S1.ρ, pn⟩)
    (p : PvL X c S1 σ G1 Dl I n H) : pE X c σ G1 Q (.ref Dl) H := by
  obtain ⟨acc, pn, accV, G', h1, s1, hD, gD, rA, hl, hI⟩ := p
  have sm : Same G' (upd G' Dl (.lst accV)) := same_upd gD
  exact ⟨.lst acc, _, _, h1.adopt hD gD hD0 hsD, s1.trans sm, .lst upd_same (rA.mono sm) (by omega), fin acc pn hI⟩
theorem pe_tEb {scope : Scope} : ∀ (s : Shared) (H : Hp) (C : Addr) (cl : List (Str × Addr)) (fp : List Addr), PE (X.blk s H scope (compEnvC scope cl C X.env) fp) elt (tEb X scope elt) := fun s H C cl fp => ⟨fun pins s' σ' H' Q I h => h s H C cl fp pins s' I⟩
theorem pts_tTsb {scope : Scope} : ∀ {ifs : List Expr}, ifs.length ≤ 1 → ∀ (s : Shared) (H : Hp) (C : Addr) (cl : List (Str × Addr)) (fp : List Addr), PTs (X.blk s H scope (compEnvC scope cl C X.env) fp) ifs (tTsb X scope ifs)
  | [], _ => fun _ _ _ _ _ => pts_nil
  | [t], _ => fun s H C cl fp => pts_one ⟨fun pins s' σ' H' Q I h => h s H C cl fp pins s' I⟩
  | _ :: _ :: _, h => absurd h (by simp)
/-- [elt for tg in iter if ..] over a list, a tuple, a range -/
theorem ve_lcL {scope : Scope} {own : List (Str × Nat)} {g : TG} {asg : D → List Sl → Option (List Sl)} (hc : X.calm = true) (hN : X.N.Nodup) (ok : BlkOk X.N X.env.scope scope own) (hifs : ifs.length ≤ 1) (tgo : TgOk X g (own.map (·.2)) asg)
    (hg : ∀ (s : Shared) (H : Hp) (C : Addr) (cl : List (Str × Addr)) (fp : List Addr), PG (X.blk s H scope (compEnvC scope cl C X.env) fp) tg g)
    (h : VE X c S iter fun d S1 => ∃ ds, d = .lst ds ∧ ∃ I : Nat → List D → Pn → Prop, I 0 [] S1.pn ∧ (∀ i d acc pn, ds[i]? = some d → I i acc pn → ∃ ρ, asg d (wipeρ S1.ρ (own.map (·.2))) = some ρ ∧ LcTurn X c scope elt ifs ρ I i acc pn) ∧ ∀ acc pn, I ds.length acc pn → Q (.lst acc) ⟨S1.ρ, pn⟩)
    (hs : ∀ x, foldedSetIterable iter X.env x = pure x := by intro _; rfl) : VE X c S (.ListComp elt [⟨tg, iter, ifs, 0⟩] scope pos) Q := fun σ G H hd => by
  refine tE_of (pe_lc hc hN (pi_list pe_sem) ok hg (pts_tTsb hifs) pe_tEb hs) (tE_mono (h σ G H hd) fun v H1 ⟨d, S1, G1, h1, s1, r1, ds, e, I, h0, turn, fin⟩ => ?_)
  subst e
  have hlen := lst_len r1
  obtain ⟨a, vs, e1, hv, rv⟩ := rep_lst r1
  subst e1
  refine ⟨a, rfl, ⟨vs, .inl (.inl (h1.sub _ _ hv))⟩, fun Dl hD => ?_⟩
  have hD0 := h0_of h1 hD
  have hsD := hsD_of h1 hD
  refine lc_list (K := X.K) (a := a) (xs := vs) (PvL X c S1 σ G1 Dl I) (pvL_start h1 hD h0) (fun i H _ ⟨_, _, _, G', h2, s2, _⟩ => .inl (.inl (h2.sub _ _ (s2 _ _ hv)))) (fun i x H hi p => ?_) (fun H p => ?_)
  · obtain ⟨dx, e2, r2⟩ := rv.getV hi
    have hi' : i < ds.length := (List.getElem?_eq_some_iff.mp e2).1
    exact lc_turn hD0 hsD (by omega) tgo (fun G' s => r2.mono s) (fun acc pn hI => turn i dx acc pn e2 hI) p
  · rw [rv.length] at p
    exact pE_back s1 (pvL_end hD0 hsD hlen fin p)
theorem ve_lcT {scope : Scope} {own : List (Str × Nat)} {g : TG} {asg : D → List Sl → Option (List Sl)} (hc : X.calm = true) (hN : X.N.Nodup) (ok : BlkOk X.N X.env.scope scope own) (hifs : ifs.length ≤ 1) (tgo : TgOk X g (own.map (·.2)) asg)
    (hg : ∀ (s : Shared) (H : Hp) (C : Addr) (cl : List (Str × Addr)) (fp : List Addr), PG (X.blk s H scope (compEnvC scope cl C X.env) fp) tg g)
    (h : VE X c S iter fun d S1 => ∃ ds, d = .tup ds ∧ ∃ I : Nat → List D → Pn → Prop, I 0 [] S1.pn ∧ (∀ i d acc pn, ds[i]? = some d → I i acc pn → ∃ ρ, asg d (wipeρ S1.ρ (own.map (·.2))) = some ρ ∧ LcTurn X c scope elt ifs ρ I i acc pn) ∧ ∀ acc pn, I ds.length acc pn → Q (.lst acc) ⟨S1.ρ, pn⟩)
    (hs : ∀ x, foldedSetIterable iter X.env x = pure x := by intro _; rfl) : VE X c S (.ListComp elt [⟨tg, iter, ifs, 0⟩] scope pos) Q := fun σ G H hd => by
  refine tE_of (pe_lc hc hN (pi_tup pe_sem) ok hg (pts_tTsb hifs) pe_tEb hs) (tE_mono (h σ G H hd) fun v H1 ⟨d, S1, G1, h1, s1, r1, ds, e, I, h0, turn, fin⟩ => ?_)
  subst e
  have hlen := tup_len r1
  obtain ⟨a, vs, e1, hv, rv⟩ := rep_tup r1
  subst e1
  refine ⟨a, rfl, ⟨vs, .inl (.inl (h1.sub _ _ hv))⟩, fun Dl hD => ?_⟩
  have hD0 := h0_of h1 hD
  have hsD := hsD_of h1 hD
  refine lc_tup (K := X.K) (a := a) (xs := vs) (PvL X c S1 σ G1 Dl I) (pvL_start h1 hD h0) (fun i H _ ⟨_, _, _, G', h2, s2, _⟩ => .inl (.inl (h2.sub _ _ (s2 _ _ hv)))) (fun i x H hi p => ?_) (fun H p => ?_)
  · obtain ⟨dx, e2, r2⟩ := rv.getV hi
    have hi' : i < ds.length := (List.getElem?_eq_some_iff.mp e2).1
    exact lc_turn hD0 hsD (by omega) tgo (fun G' s => r2.mono s) (fun acc pn hI => turn i dx acc pn e2 hI) p
  · rw [rv.length] at p
    exact pE_back s1 (pvL_end hD0 hsD hlen fin p)
theorem ve_lcR {scope : Scope} {own : List (Str × Nat)} {g : TG} {asg : D → List Sl → Option (List Sl)} {p pos2 : Pos} (hc : X.calm = true) (hN : X.N.Nodup) (ok : BlkOk X.N X.env.scope scope own) (hifs : ifs.length ≤ 1) (hm : X.mg "range" = none) (tgo : TgOk X g (own.map (·.2)) asg)
    (hg : ∀ (s : Shared) (H : Hp) (C : Addr) (cl : List (Str × Addr)) (fp : List Addr), PG (X.blk s H scope (compEnvC scope cl C X.env) fp) tg g)
    (h : VE X c S a fun d S1 => ∃ n : Int, d = .int n ∧ n ≤ sizeLine ∧ -(2 ^ 62) ≤ n ∧ ∃ I : Nat → List D → Pn → Prop, I 0 [] S1.pn ∧ (∀ (i : Nat) acc pn, (i : Int) < n → I i acc pn → ∃ ρ, asg (.int i) (wipeρ S1.ρ (own.map (·.2))) = some ρ ∧ LcTurn X c scope elt ifs ρ I i acc pn) ∧ ∀ acc pn, I n.toNat acc pn → Q (.lst acc) ⟨S1.ρ, pn⟩)
    (hgl : Gl X "range" := by rfl) (hs : ∀ x, foldedSetIterable (.Call (.Name "range" p) [a] [] pos2) X.env x = pure x := by intro _; rfl) (hst : starEach [a] X.env = [(false, eval a X.env)] := by rfl) : VE X c S (.ListComp elt [⟨tg, .Call (.Name "range" p) [a] [] pos2, ifs, 0⟩] scope pos) Q := fun σ G H hd => by
  refine tE_of (pe_lc hc hN (pi_range1 hgl hm (pa_cons pe_sem pa_nil hst) hst) ok hg (pts_tTsb hifs) pe_tEb hs) (tE_mono (h σ G H hd) fun v H1 ⟨d, S1, G1, h1, s1, r1, n, e, hz, hz2, I, h0, turn, fin⟩ => ?_)
  subst e
  rw [rep_int r1]
  have hsz : (sizeLine : Int) < 2 ^ 62 := by rw [sizeLine_eq]; decide
  refine ⟨n, rfl, by omega, by omega, fun Dl hD => ?_⟩
  have hD0 := h0_of h1 hD
  have hsD := hsD_of h1 hD
  refine lc_range (lo := 0) (n := n.toNat) (PvL X c S1 σ G1 Dl I) (pvL_start h1 hD h0) (fun i H hi p => ?_) (fun H p => ?_)
  · rw [Int.zero_add]
    exact lc_turn hD0 hsD (by omega) tgo (fun G' s => .int) (fun acc pn hI => turn i acc pn (by omega) hI) p
  · exact pE_back s1 (pvL_end hD0 hsD (by omega) fin p)
end
end VL
set_option Elab.async false
set_option linter.all false
set_option maxRecDepth 100000
set_option maxHeartbeats 4000000
/-! VL8: instances: made, filled, their methods and operators; isinstance. -/
namespace VL
open PySem PySem.Spec PyProof.Rows L2

section
variable {K : PySem.W.Frag} {mg : Str → Option Value} {c : Cv} {S : State} {σ : L2.St} {G G' H H' : Hp}
theorem putF_new {f : Str} {v : V} : ∀ {fs : List (Str × V)}, f ∉ fs.map (·.1) → putF f v fs = fs ++ [(f, v)]
  | [], _ => rfl
  | (g, u) :: fs, h => by
    have h1 : ¬ g = f := fun z => h (by rw [← z]; exact List.mem_cons_self)
    have h2 := putF_new (fs := fs) (v := v) fun z => h (List.mem_cons_of_mem _ z)
    show (if g = f then (g, v) :: fs else (g, u) :: putF f v fs) = _
    rw [if_neg h1, h2]
    rfl
/-- a field of an instance under way is stored -/
theorem Hd.put (h : Hd K mg c S σ G H) {i : Nat} {a : Addr} {cn : Str} {ks : List Str} {ds : List D} {f : Str} {v : V} {d : D} (hρ : S.ρ[i]? = some (.obj a cn ks ds)) (ht : c.top = true) (r : Rep K mg G v d) (hf : f ∉ ks) :
    ∃ C dx fs, σ[i]? = some (some (.ref a)) ∧ mg cn = some (.ref C) ∧ H a = some (.ins C dx fs) ∧ fs.length = ks.length ∧ Hd K mg c (S.put i (.obj a cn (ks ++ [f]) (ds ++ [d]))) σ G (upd H a (.ins C dx (putF f v fs))) := by
  obtain ⟨o, e1, C, dx, fs, e2, hC, ha, hdx, ga, gdx, hk, hr⟩ := h.slots i _ hρ
  subst e2
  have hb : i < S.ρ.length := (List.getElem?_eq_some_iff.mp hρ).1
  have e3 : putF f v fs = fs ++ [(f, v)] := putF_new (by rw [hk]; exact hf)
  have own' : ∀ {j : Nat}, ownAt (S.ρ.set i (.obj a cn (ks ++ [f]) (ds ++ [d]))) j → ownAt S.ρ j := fun {j} oj => by
    rcases ownAt_set oj with ⟨_, o1⟩ | ⟨z, _⟩
    · exact o1
    · subst z; exact ⟨_, hρ, rfl⟩
  refine ⟨C, dx, fs, e1, hC, ha, by rw [← hk, List.length_map], ⟨fun b u q => ?_, ?_, fun j s2 e => ?_, fun j k l' hjk oj ok => h.dist j k l' hjk (own' oj) (own' ok), fun p r q => ?_, h.padr, h.ext0, h.new0, fun b u q hp hx => ?_, fun ht j l' oj => h.fresh ht j l' (own' oj), h.tbU ha (fun _ z => nomatch z), h.tsU ha (fun _ z => nomatch z)⟩⟩
  · rw [upd_ne (ne_of_none q ga)]; exact h.sub _ _ q
  · show σ.length = (S.ρ.set i _).length
    rw [List.length_set, h.len]
  · have e' : (S.ρ.set i (.obj a cn (ks ++ [f]) (ds ++ [d])))[j]? = some s2 := e
    by_cases q : i = j
    · subst q
      rw [List.getElem?_set_self hb] at e'
      cases e'
      refine ⟨_, e1, C, dx, putF f v fs, rfl, hC, upd_same, by rw [upd_ne (ne_of hdx ha (fun y => nomatch y))]; exact hdx, ga, gdx, ?_, ?_⟩
      · rw [e3, List.map_append, hk]; rfl
      · rw [e3, List.map_append]; exact hr.append (.cons r .nil)
    · rw [List.getElem?_set_ne q] at e'
      obtain ⟨o2, q1, q2⟩ := h.slots j s2 e'
      refine ⟨o2, q1, ?_⟩
      cases s2 with
      | un => trivial
      | val d => exact q2
      | own ds2 =>
        obtain ⟨l2, vs2, z1, z2, z3⟩ := q2
        have hne : l2 ≠ a := ne_of z2 ha (fun y => nomatch y)
        exact ⟨l2, vs2, z1, by rw [upd_ne hne]; exact z2, z3⟩
      | obj a2 cc ks ds2 =>
        obtain ⟨C2, dx2, fs2, z1, z2, z3, z4, z5⟩ := q2
        have hne : a2 ≠ a := fun y => by
          subst z1; subst y
          exact h.dist i j a2 q ⟨_, hρ, rfl⟩ ⟨_, e', rfl⟩ e1 q1
        have hd : dx2 ≠ a := ne_of z4 ha (fun y => nomatch y)
        exact ⟨C2, dx2, fs2, z1, z2, by rw [upd_ne hne]; exact z3, by rw [upd_ne hd]; exact z4, z5⟩
  · obtain ⟨⟨cc, cells, bb, ll, p1, p4⟩, pa⟩ := h.pen p r q
    have hne : p ≠ a := ne_of p1 ha (fun y => nomatch y)
    exact ⟨⟨cc, cells, bb, ll, by rw [upd_ne hne]; exact p1, p4⟩, pa⟩
  · have hne : b ≠ a := fun y => by
      subst y
      rw [h.fresh ht i b ⟨_, hρ, rfl⟩ e1] at q
      cases q
    rw [upd_ne hne]; exact h.keep0 _ _ q hp hx
end

section
variable {X : Cx} {c : Cv} {S : State} {e a b o : Expr} {es : List Expr} {st : Stmt} {sts : List Stmt} {σ : L2.St} {G G' H : Hp} {pos : Pos} {Q : D → State → Prop} {QT : Bool → State → Prop} {E : VD} {k : Nat} {dd : List D} {ct : Ct}
/-- o.f as a target -/
theorem pg_attr {f : Str} {to : TE} (ho : PE X o to) (ha : ∀ v, assign (.Attribute o f pos) X.env v = (do
      let ov ← holding [v] (eval o X.env)
      standAt pos.atName
      holding [v, ov] (setAttr ov f v)
      release [v, ov] []) := by intro _; rfl) :
    PG X (.Attribute o f pos) (fun y σ H Q => to σ H fun x H1 => ∃ a C dx fs, x = .ref a ∧ H1 a = some (.ins C dx fs) ∧ Cls X.K C ∧ NoAttr X.K C f ∧ fs.length < 1000 ∧ Q σ (upd H1 a (.ins C dx (putF f y fs)))) := by
  refine ⟨fun pins s σ H v u Q I r h => ?_⟩
  rw [ha]
  refine wpAny_bind (wpAny_holding (thn (ho.run pins s σ H _ I h) fun ov s1 ⟨x, H1, I1, r1, a, C, dx, fs, e1, e2, cl, na, hl, q1⟩ => ?_))
  subst e1
  obtain rfl : ov = Value.ref a := r1
  refine wpAny_bind (wpAny_standAt (wpAny_bind (wpAny_holding (setattr_ok I1 e2 cl na hl r fun s2 I2 => ?_))))
  exact wpAny_release ⟨σ, _, I2, q1⟩
/-- self.f as a target, self under way in slot i -/
theorem vg_self (i : Nat) {x f : Str} {pos2 : Pos} {a : Addr} {cn : Str} {ks : List Str} {ds : List D} {d : D} {QS : State → Prop} (hρ : S.ρ[i]? = some (.obj a cn ks ds)) (ht : c.top = true) (hf : f ∉ ks) (hl : ks.length < 1000) (cl : ClsF X.K X.mg cn f)
    (q : QS (S.put i (.obj a cn (ks ++ [f]) (ds ++ [d])))) (hN : X.N[i]? = some x := by rfl) (hv : Vis X.env.scope x := by first | exact Or.inl rfl | exact Or.inr (Or.inl rfl) | exact Or.inr (Or.inr rfl))
    (hd : (x == ("__debug__" : Str)) = false := by decide) (hcd : (x == ("__classdict__" : Str)) = false := by decide)
    (ha : ∀ v, assign (.Attribute (.Name x pos2) f pos) X.env v = (do
      let ov ← holding [v] (eval (.Name x pos2) X.env)
      standAt pos.atName
      holding [v, ov] (setAttr ov f v)
      release [v, ov] []) := by intro _; rfl) : VG X c S (.Attribute (.Name x pos2) f pos) d QS := fun σ G H v hh r => by
  obtain ⟨C, dx, fs, e1, hC, hH, hlen, h2⟩ := hh.put hρ ht r hf
  exact tG_of (pg_attr (pv i hN hv hd hcd) ha) ⟨_, e1, a, C, dx, fs, rfl, hH, (cl C hC).1, (cl C hC).2, by omega, _, G, h2, Same.refl _, q⟩
/-- self.f = e -/
theorem vs_self (i : Nat) {x f : Str} {pos2 pos3 : Pos} (h : VE X c S e fun d S' => ∃ a cn ks ds, S'.ρ[i]? = some (.obj a cn ks ds) ∧ f ∉ ks ∧ ks.length < 1000 ∧ ClsF X.K X.mg cn f ∧ E.nx (S'.put i (.obj a cn (ks ++ [f]) (ds ++ [d])))) (ht : c.top = true)
    (hs : swapsWith e (some (.Attribute (.Name x pos2) f pos3)) pos.line X.env = pure false := by rfl) (hN : X.N[i]? = some x := by rfl) (hv : Vis X.env.scope x := by first | exact Or.inl rfl | exact Or.inr (Or.inl rfl) | exact Or.inr (Or.inr rfl))
    (hd : (x == ("__debug__" : Str)) = false := by decide) (hcd : (x == ("__classdict__" : Str)) = false := by decide) : VS X c S (.Assign [.Attribute (.Name x pos2) f pos3] e pos) E := fun σ G H hh => by
  refine tS_of (ps_fld (pv i hN hv hd hcd) pe_sem hs) (tE_mono (h σ G H hh) fun v H1 ⟨d, S1, G1, h1, s1, r1, p, cn, ks, ds, hρ, hf, hl, cl, q⟩ => ?_)
  obtain ⟨C, dx, fs, e1, hC, hH, hlen, h2⟩ := h1.put hρ ht r1 hf
  exact ⟨_, e1, p, C, dx, fs, rfl, hH, (cl C hC).1, (cl C hC).2, by omega, _, G1, h2, s1, q⟩

/-! ### new instances -/
/-- all but a new instance and its dict -/
def less (H : Hp) (x dx : Addr) : Hp := fun b => if b = x ∨ b = dx then none else H b
theorem less_ne {H : Hp} {x dx b : Addr} (h1 : b ≠ x) (h2 : b ≠ dx) : less H x dx b = H b := if_neg fun z => z.elim h1 h2
theorem less_x {H : Hp} {x dx : Addr} : less H x dx x = none := if_pos (.inl rfl)
theorem less_dx {H : Hp} {x dx : Addr} : less H x dx dx = none := if_pos (.inr rfl)
theorem less_some {H : Hp} {x dx b : Addr} {o : HO} (h : less H x dx b = some o) : b ≠ x ∧ b ≠ dx ∧ H b = some o := by
  unfold less at h
  split at h
  · cases h
  · rename_i q
    exact ⟨fun z => q (.inl z), fun z => q (.inr z), h⟩
/-- an __init__'s promise: its contract tells the instance that is made -/
def spI (cf : Cfg) (K : PySem.W.Frag) (mg : Str → Option Value) (cn : Str) (ct : Ct) : Sp := fun vs H Q E => ∃ x dx C args G ds pn, vs = .ref x :: args ∧ mg cn = some (.ref C) ∧ H x = some (.ins C dx []) ∧ H dx = some (.own x) ∧ G x = none ∧ G dx = none ∧
  Same G H ∧ Reps K mg G args ds ∧ (∀ p r, pn = some (p, r) → PenOk cf K G H p r) ∧ (∀ p ∈ cf.tb, TabG G H p.1 p.2) ∧
  ct.run ds pn (fun d pn' => ∀ fs dx' G' H', After cf K G (less H x dx) pn G' H' pn' → G' x = none → H' x = some (.ins C dx' fs) → d = .ins cn (fs.map (·.1)) (match d with | .ins _ _ es => es | _ => []) →
      Reps K mg G' (fs.map (·.2)) (match d with | .ins _ _ es => es | _ => []) → Q .non H')
    (fun y pn' => ∀ cls dd G' H', After cf K G (less H x dx) pn G' H' pn' → ExRep K mg G' cls dd y → E cls dd H')
structure VMk (P : Program) (w : World) (K : PySem.W.Frag) (mg : Str → Option Value) (base : Heap) (cf : Cfg) (k : Nat) (cn : Str) (dd : List D) (ct : Ct) : Prop where
  ex : ∃ C f fd ps dvs ds, mg cn = some (.ref C) ∧ Mk K C f ∧ FnOk P w K mg base (L2.CX P w) k f fd ps (spI cf K mg cn ct) ∧ Binds K fd ps ds ∧ Vals dvs ds ∧ Reps K mg (fun _ => none) dvs dd
theorem run_makeS {CX : CXT} {f C : Addr} {fd : FuncData} {ps : List Str} {sp : Sp} {dvs : List V} {ds : List Value} {EX : XK} {pins : List (Addr × Obj)} {s : Shared} {Q : VK} {us : List Value} {vs : List V} (M : Mk X.K C f) (F : FnOk X.prog X.w X.K X.mg X.base CX k f fd ps sp) (hr : Room (k + 1) X.A) (hb : Binds X.K fd ps ds) (hd : Vals dvs ds)
    (hx : PassesAt CX X σ EX) (I : Inv X pins σ H s) (r : Vals vs us)
    (h : ∀ x dx, H x = none → H dx = none → dx ≠ x → sp (.ref x :: (vs ++ dvs)) (upd (upd H dx (.own x)) x (.ins C dx [])) (fun v H2 => v = .non ∧ Q (.ref x) H2) EX) :
    wpAny (model X.prog X.w) X.A (call (.ref C) us) (EP X pins σ Q) X.xe s := by
  have hq := h (s.heap.objs.size + 1) s.heap.objs.size (I.hok.fresh (Nat.le_succ _)) (I.hok.fresh (Nat.le_refl _)) (Nat.ne_of_lt (Nat.lt_succ_self _))
  have I2 := Inv.made (C := C) I
  have r2 : Vals (V.ref (s.heap.objs.size + 1) :: (vs ++ dvs)) (Value.ref (s.heap.objs.size + 1) :: (us ++ ds)) := .cons rfl (r.append hd)
  have hl : (Value.ref (s.heap.objs.size + 1) :: us ++ ds).length = ps.length := by
    have e := r2.length
    rw [F.len _ _ _ _ hq] at e
    exact e.symm
  refine wpAny_call (make_map (f := f) I.kIn M.makes M.init (beq_iff_eq.mp M.fn) (codeAny_mono (F.run _ X.stack _ _ ⟨Value.ref (s.heap.objs.size + 1) :: us, []⟩ (Value.ref (s.heap.objs.size + 1) :: (us ++ ds)) _ _ EX (hr.make C us [])
    (I2.env0.make C us []) (hb _ (Value.ref (s.heap.objs.size + 1) :: us) I2.kIn hl) r2 hq) fun r s' hq' => ?_))
  cases r with
  | error e => exact hx pins _ _ e s' I2 hq'
  | ok fl =>
    cases fl with
    | ret u =>
      obtain ⟨v, H', I3, rv, ev, q3⟩ := I2.after hq'
      subst ev
      exact ⟨rv, ⟨V.ref (s.heap.objs.size + 1), H', I3, rfl, q3⟩⟩
    | next => exact False.elim hq'
    | brk => exact False.elim hq'
    | cont => exact False.elim hq'
/-- what a new instance hands to its __init__ -/
theorem spI_call {cn : Str} {C : Addr} {vs : List V} {ds : List D} {H1 G1 : Hp} {S1 : State} {kk : D → Pn → Prop} {ee : ExD → Pn → Prop} {R : VK} {RX : XK} (h1 : HdX X c S1 σ G1 H1) (hC : X.mg cn = some (.ref C)) (r : Reps X.K X.mg G1 vs ds) (q : ct.run ds S1.pn kk ee)
    (hk : ∀ d pn', kk d pn' → ∀ v G' H', HdX X c { S1 with pn := pn' } σ G' H' → Same G1 G' → RepX X G' v d → R v H')
    (he : ∀ x pn', ee x pn' → ∀ cls dd G' H', HdX X c { S1 with pn := pn' } σ G' H' → ExRep X.K X.mg G' cls dd x → RX cls dd H')
    (x dx : Addr) (hx : H1 x = none) (hdx : H1 dx = none) (hne : dx ≠ x) :
    spI c.cf X.K X.mg cn ct (.ref x :: vs) (upd (upd H1 dx (.own x)) x (.ins C dx [])) (fun v H2 => v = .non ∧ R (.ref x) H2) RX := by
  have gx := h1.sub.free hx
  have gdx := h1.sub.free hdx
  have sub2 : Same H1 (upd (upd H1 dx (.own x)) x (.ins C dx [])) := fun b u e => by rw [upd_ne (ne_of_none e hx), upd_ne (ne_of_none e hdx)]; exact e
  have sub3 : Same H1 (less (upd (upd H1 dx (.own x)) x (.ins C dx [])) x dx) := fun b u e => by rw [less_ne (ne_of_none e hx) (ne_of_none e hdx)]; exact sub2 _ _ e
  have back : ∀ {G' H' : Hp} {pn' : Pn}, After c.cf X.K G1 (less (upd (upd H1 dx (.own x)) x (.ins C dx [])) x dx) S1.pn G' H' pn' → After c.cf X.K G1 H1 S1.pn G' H' pn' := fun {G' H' pn'} A =>
    ⟨A.sub, A.ext, fun b u e => (A.new b u e).imp id fun z => sub3.free z, fun b u e hn hx => A.keep _ _ (sub3 _ _ e) hn hx, A.pen, A.adr, fun b ps e => A.tbl b ps (sub3 _ _ e), A.tabs⟩
  refine ⟨x, dx, C, vs, G1, ds, S1.pn, rfl, hC, upd_same, by rw [upd_ne hne, upd_same], gx, gdx, h1.sub.trans sub2, r, fun p r' e => ?_, fun p hp => (h1.tabs p hp).mono (Same.refl _) (fun ps e => sub2 _ _ e) id, ct.mono q (fun d pn' kd fs dx' G' H' A g1 hx' ed rd => ⟨rfl, ?_⟩) (fun y pn' ey cls dd G' H' A rx => he y pn' ey cls dd G' H' (h1.after (back A)) rx)⟩
  · obtain ⟨cc, cells, bb, ll, p1, p4⟩ := (h1.pen p r' e).1
    exact ⟨cc, cells, bb, ll, sub2 _ _ p1, p4⟩
  · have A1 := back A
    have h2 := h1.after A1
    -- the instance is frozen
    have A2 : After c.cf X.K G1 H1 S1.pn (upd G' x (.ins C dx' fs)) H' pn' := ⟨fun b u e => by
        by_cases z : b = x
        · subst z; rw [upd_same] at e; cases e; exact hx'
        · rw [upd_ne z] at e; exact A1.sub _ _ e, A1.ext.trans (same_upd g1), fun b u e => by
        by_cases z : b = x
        · subst z; exact .inr hx
        · rw [upd_ne z] at e; exact A1.new _ _ e, A1.keep, fun p r' e => by
        obtain ⟨cc, cells, bb, ll, p1, p2, p3, p4⟩ := A1.pen p r' e
        have hne : p ≠ x := fun z => by rw [z, hx'] at p1; cases p1
        exact ⟨cc, cells, bb, ll, p1, by rw [upd_ne hne]; exact p2, Same.seq (same_upd g1) p3, p4⟩, A1.adr, A1.tbl, fun p hp => (A1.tabs p hp).mono (same_upd g1) (fun _ e => e) (fun g => by
        obtain ⟨ps, e2, _⟩ := A1.tabs p hp
        rw [upd_ne (fun z => by rw [z, hx'] at e2; cases e2)]; exact g)⟩
    refine hk d pn' kd (.ref x) _ H' (h1.after A2) (A1.ext.trans (same_upd g1)) ?_
    rw [ed]
    exact .ins hC upd_same rfl (rd.mono (same_upd g1))
theorem ve_make {cn : Str} {p : Pos} (F : VMk X.prog X.w X.K X.mg X.base c.cf k cn dd ct) (hr : Room (k + 1) X.A) (tk : Takes X (WV X c))
    (h : VA X c S (e :: es) fun ds S1 => ct.run (ds ++ dd) S1.pn (fun d pn' => Q d { S1 with pn := pn' }) (fun y pn' => c.EV y { S1 with pn := pn' })) (hg : Gl X cn := by rfl)
    (hdb : (cn == ("__debug__" : Str)) = false := by decide) (he : starEach (e :: es) X.env = (false, eval e X.env) :: starEach es X.env := by rfl) (hpl : (backTo pos (starEach es X.env)).any (·.1) = false := by rfl) :
    VE X c S (.Call (.Name cn p) (e :: es) [] pos) Q := fun σ G H hd => by
  obtain ⟨C, f, fd, ps, dvs, ds, hC, M, ok, hb, hv, hdd⟩ := F.ex
  intro pins s I
  refine wpAny_Call_Name_kw (ld_glob I hg hC ?_ hdb)
  refine PySem.W.callWith_K (h₀ := X.base) I.ok.mod.kin M.kp (thn (h σ G H hd pos pins s I) fun us s1 ⟨vs, H1, I1, r, ds1, S1, G1, h1, s2, r1, q1⟩ => ⟨I1.kIn, ?_⟩) he hpl
  refine run_makeS M ok hr hb hv (passAt tk σ) I1 r fun x dx hx hdx hne => ?_
  exact spI_call h1 hC (r1.append (hdd.mono same_none)) q1 (fun d pn' q v G' H' h2 s3 rv => ⟨d, _, G', h2, s2.trans s3, rv, q⟩) (fun y pn' q cls dd' G' H' h2 rx => ⟨_, G', y, h2, rx, q⟩) x dx hx hdx hne

/-! ### the body of an __init__ -/
theorem Hd.startI {K : PySem.W.Frag} {mg : Str → Option Value} {cf : Cfg} {cn : Str} {G H : Hp} {pn : Pn} {Ev : ExD → Pn → Prop} {N : List Str} {vs : List V} {ds : List D} {x dx C : Addr} (hs : Same G H) (r : Reps K mg G vs ds) (hp : ∀ p r, pn = some (p, r) → PenOk cf K G H p r)
    (hN : ds.length + 1 ≤ N.length) (hC : mg cn = some (.ref C)) (hx : H x = some (.ins C dx [])) (hdx : H dx = some (.own x)) (gx : G x = none) (gdx : G dx = none) (ht : ∀ p ∈ cf.tb, TabG G H p.1 p.2) :
    Hd K mg (bodyCv cf G (less H x dx) pn Ev) ⟨.obj x cn [] [] :: startρ (N.length - 1) ds, pn⟩ (L2.start N (.ref x :: vs)) G H := by
  have own0 : ∀ {i : Nat}, ownAt (.obj x cn [] [] :: startρ (N.length - 1) ds) i → i = 0 := fun {i} h => by
    cases i with
    | zero => rfl
    | succ i =>
      obtain ⟨sl, h1, h2⟩ := h
      exact (not_own_start ⟨sl, by simpa using h1, h2⟩).elim
  obtain ⟨n, eN⟩ : ∃ n, N.length = n + 1 := ⟨N.length - 1, by omega⟩
  have es : L2.start N (.ref x :: vs) = some (V.ref x) :: (vs.map some ++ List.replicate (n - vs.length) none) := by
    show (some (V.ref x) :: vs.map some) ++ List.replicate (N.length - (vs.length + 1)) none = _
    rw [eN, Nat.add_sub_add_right]
    rfl
  refine ⟨hs, ?_, fun i sl e => ?_, fun i j l hij oi oj => absurd ((own0 oi).trans (own0 oj).symm) hij, fun p r e => ⟨hp p r e, .inl (by show pn.map (·.1) = some p; have e' : pn = some (p, r) := e; rw [e']; rfl)⟩, fun a e => ?_, Same.refl _, fun _ _ h => .inl h, fun b u h _ _ => (less_some h).2.2, fun _ i l oi e => ?_, fun a ps e => ⟨ps, (less_some e).2.2⟩, ht⟩
  · rw [es]
    show _ = (startρ (N.length - 1) ds).length + 1
    unfold startρ
    have := r.length
    simp only [List.length_cons, List.length_append, List.length_map, List.length_replicate]
    omega
  · rw [es]
    cases i with
    | zero =>
      have e' : some (Sl.obj x cn [] []) = some sl := by simpa using e
      cases e'
      exact ⟨some (.ref x), rfl, C, dx, [], rfl, hC, hx, hdx, gx, gdx, rfl, .nil⟩
    | succ i =>
      have e' : (startρ (N.length - 1) ds)[i]? = some sl := by simpa using e
      unfold startρ at e'
      show ∃ o, (some (V.ref x) :: (vs.map some ++ List.replicate (n - vs.length) none))[i + 1]? = some o ∧ _
      rw [List.getElem?_cons_succ]
      by_cases hi : i < ds.length
      · rw [List.getElem?_append_left (by simpa using hi), List.getElem?_map] at e'
        obtain ⟨d, h1, h2⟩ := Option.map_eq_some_iff.mp e'
        subst h2
        obtain ⟨v, q1, q2⟩ := r.get h1
        refine ⟨some v, ?_, v, rfl, q2⟩
        rw [List.getElem?_append_left (by rw [List.length_map, r.length]; exact hi), List.getElem?_map, q1]
        rfl
      · rw [List.getElem?_append_right (by simpa using hi), List.getElem?_replicate] at e'
        split at e'
        · rename_i hlt
          cases e'
          refine ⟨none, ?_, trivial⟩
          rw [List.getElem?_append_right (by rw [List.length_map, r.length]; omega), List.getElem?_replicate, if_pos]
          rw [List.length_map] at hlt ⊢
          have := r.length
          omega
        · cases e'
  · have e' : pn.map (·.1) = some a := e
    obtain ⟨⟨p, r⟩, h1, h2⟩ := Option.map_eq_some_iff.mp e'
    have h2' : p = a := h2
    subst h2'
    exact ⟨r, h1⟩
  · have e0 := own0 oi
    subst e0
    rw [es] at e
    have e' : some (V.ref x) = some (.ref l) := by simpa using e
    cases e'
    exact less_x
end
section
variable {P : Program} {w : World} {K : PySem.W.Frag} {mg : Str → Option Value} {base : Heap} {cf : Cfg} {k : Nat} {ct : Ct} {x qual cn : Str} {st : Stmt} {dvs : List V} {kws : List (Str × V)} {f : Addr} {fd : FuncData} {N ps : List Str}
theorem fn_init (F : FunD K x qual (defArgs st) (defBody st) (defScope st) dvs kws f fd) (Sc : FnScope N ps (defScope st)) (hps : ps.length ≤ N.length) (np : ∀ ds pn k e, ct.run ds pn k e → ds.length + 1 = ps.length)
    (body : ∀ (cdv : Value) (A : Around) (outer : List Env) (s : Shared) (H : Hp) (E : XK) (G H0 : Hp) (x : Addr) (ds : List D) (pn : Pn) (Qv : D → Pn → Prop) (Ev : ExD → Pn → Prop),
      Room k (bX P w K mg base N qual st f cdv A outer s H E).A → Takes (bX P w K mg base N qual st f cdv A outer s H E) (WV (bX P w K mg base N qual st f cdv A outer s H E) (bodyCv cf G H0 pn Ev)) → ct.run ds pn Qv Ev →
      VSs (bX P w K mg base N qual st f cdv A outer s H E) (bodyCv cf G H0 pn Ev) ⟨.obj x cn [] [] :: startρ (N.length - 1) ds, pn⟩ (defBody st) { nx := fun S => ∃ ks es, S.ρ[0]? = some (.obj x cn ks es) ∧ Qv (.ins cn ks es) (outPn pn S.pn), rt := fun _ _ => False }) :
    FnOk P w K mg base (L2.CX P w) (k + 1) f fd ps (spI cf K mg cn ct) := by
  refine F.ok Sc (fun vs H Q E ⟨x, dx, C, args, G, ds, pn, e, _, _, _, _, _, _, r, _, _, h⟩ => by subst e; rw [List.length_cons, r.length]; exact np _ _ _ _ h) fun cdv A outer s H vs Q E hr ⟨x, dx, C, args, G, ds, pn, e, hC, hx, hdx, gx, gdx, hs, r, hp, ht, h⟩ => ?_
  subst e
  refine ⟨tSs _ (defBody st), pss_sem, ?_⟩
  have tk0 : Takes (bX P w K mg base N qual st f cdv A outer s H E) (fun cls d _ H => E cls d H) := takes_of rfl rfl rfl rfl
  have b := body cdv A outer s H E G (less H x dx) x ds pn _ _ hr (tk0.imp fun cls d σ H' ⟨S', G', y, h1, rx, q⟩ => q cls d G' H' h1.done rx) h
  have hlen : ds.length + 1 ≤ N.length := by rw [np _ _ _ _ h]; exact hps
  refine tSs_mono (b (L2.start N (.ref x :: args)) G H (Hd.startI hs r hp hlen hC hx hdx gx gdx ht)) (fun σ' H' ⟨S', G', h1, s1, ks, es, e1, q⟩ => ?_) (fun v H' ⟨_, _, _, _, _, _, _, z⟩ => z.elim) (fun _ _ ⟨_, _, _, _, z⟩ => z) (fun _ _ ⟨_, _, _, _, z⟩ => z)
  obtain ⟨o, e2, C', dx', fs, e3, hC', hx', hdx', gx', gdx', hk, hr'⟩ := h1.slots 0 _ e1
  have eC : C' = C := by
    have hC2 : mg cn = some (.ref C') := hC'
    rw [hC] at hC2
    cases hC2
    rfl
  subst eC
  exact q fs dx' G' H' h1.done gx' hx' (by rw [hk]) hr'
end
end VL
set_option Elab.async false
set_option linter.all false
set_option maxRecDepth 100000
set_option maxHeartbeats 4000000
/-! VL9: methods, operators of own classes, == by an own __eq__, isinstance. -/
namespace VL
open PySem PySem.Spec PyProof.Rows L2

structure VMeth (P : Program) (w : World) (K : PySem.W.Frag) (mg : Str → Option Value) (base : Heap) (cf : Cfg) (k : Nat) (cn m : Str) (dd : List D) (ct : Ct) : Prop where
  ex : ∃ C f fd ps dvs ds, mg cn = some (.ref C) ∧ Cls K C ∧ Meth K C m f ∧ FnOk P w K mg base (L2.CX P w) k f fd ps (spV cf K mg ct) ∧ Binds K fd ps ds ∧ Vals dvs ds ∧ Reps K mg (fun _ => none) dvs dd

section
variable {X : Cx} {c : Cv} {S : State} {e a b o : Expr} {es : List Expr} {st : Stmt} {sts : List Stmt} {σ : L2.St} {G G' H : Hp} {pos apos : Pos} {Q : D → State → Prop} {QT : Bool → State → Prop} {E : VD} {k : Nat} {dd : List D} {ct : Ct} {cn m : Str}
theorem ve_meth {pl : Sem Bool} {ks : List Str} (F : VMeth X.prog X.w X.K X.mg X.base c.cf k cn m dd ct) (hr : Room k X.A) (tk : Takes X (WV X c))
    (h : VE X c S o fun d S1 => ∃ fs, d = .ins cn ks fs ∧ m ∉ ks ∧ VA X c S1 (e :: es) fun ds S2 => ct.run (.ins cn ks fs :: (ds ++ dd)) S2.pn (fun d pn' => Q d { S2 with pn := pn' }) (fun y pn' => c.EV y { S2 with pn := pn' }))
    (hst : starEach (e :: es) X.env = (false, eval e X.env) :: starEach es X.env := by rfl) (hpl : (backTo pos (starEach es X.env)).any (·.1) = false := by rfl)
    (ht : eval (.Call (.Attribute o m apos) (e :: es) [] pos) X.env = (do
      let ov ← eval o X.env
      standAt apos.atName
      let (f, first) ← holding [ov] (getMethod ov m pl)
      callWith pos f first (backTo pos (starEach (e :: es) X.env)) (backToKw pos (keywordEach [] X.env))) := by rfl) : VE X c S (.Call (.Attribute o m apos) (e :: es) [] pos) Q := fun σ G H hd => by
  obtain ⟨C, f, fd, ps, dvs, ds0, hC, cl, hm, ok, hb, hv, hdd⟩ := F.ex
  intro pins s I
  refine PySem.W.methodCall_KW (pl := pl) (thn (h σ G H hd pins s I) fun u s1 ⟨x, H1, I1, rx, d, S1, G1, h1, s2, r1, fs, ed, hks, q1⟩ => ?_) ht
  subst ed
  cases r1 with
  | @ins a C' dx fsv _ _ _ m1 m2 m3 m4 =>
    have eC : C' = C := by rw [hC] at m1; cases m1; rfl
    subst eC
    obtain rfl : u = Value.ref a := rx
    have rself : RepX X G1 (.ref a) (.ins cn ks fs) := .ins m1 m2 m3 m4
    refine getmeth_ok I1 (h1.sub _ _ m2) cl hm (flook_none (by rw [m3]; exact hks)) ?_
    refine PySem.W.callWith_K (first := [.ref a]) (h₀ := X.base) I1.ok.mod.kin hm.kp (thn (q1 σ G1 H1 h1 pos pins s1 I1) fun us s3 ⟨vs, H2, I2, r, ds, S2, G2, h2, s4, r2, q2⟩ => ⟨I2.kIn, ?_⟩) hst hpl
    refine run_fnSD (us := .ref a :: us) (vs := .ref a :: vs) (E := WE (WV X c)) ok hr hb hv (passAt tk σ) I2 (.cons rfl r) ?_
    exact spV_call h2 (.cons (rself.mono s4) (r2.append (hdd.mono same_none))) q2 (fun d pn' q v G' H' h3 s5 rv => ⟨d, _, G', h3, s2.trans (s4.trans s5), rv, q⟩) (fun y pn' q cls dd' G' H' h3 rx => ⟨_, G', y, h3, rx, q⟩)
theorem ve_meth0 {pl : Sem Bool} {ks : List Str} (F : VMeth X.prog X.w X.K X.mg X.base c.cf k cn m dd ct) (hr : Room k X.A) (tk : Takes X (WV X c))
    (h : VE X c S o fun d S1 => ∃ fs, d = .ins cn ks fs ∧ m ∉ ks ∧ ct.run (.ins cn ks fs :: dd) S1.pn (fun d pn' => Q d { S1 with pn := pn' }) (fun y pn' => c.EV y { S1 with pn := pn' }))
    (ht : eval (.Call (.Attribute o m apos) [] [] pos) X.env = (do
      let ov ← eval o X.env
      standAt apos.atName
      let (f, first) ← holding [ov] (getMethod ov m pl)
      callWith pos f first (backTo pos (starEach [] X.env)) (backToKw pos (keywordEach [] X.env))) := by rfl) : VE X c S (.Call (.Attribute o m apos) [] [] pos) Q := fun σ G H hd => by
  obtain ⟨C, f, fd, ps, dvs, ds0, hC, cl, hm, ok, hb, hv, hdd⟩ := F.ex
  intro pins s I
  refine PySem.W.methodCall_KW (pl := pl) (thn (h σ G H hd pins s I) fun u s1 ⟨x, H1, I1, rx, d, S1, G1, h1, s2, r1, fs, ed, hks, q1⟩ => ?_) ht
  subst ed
  cases r1 with
  | @ins a C' dx fsv _ _ _ m1 m2 m3 m4 =>
    have eC : C' = C := by rw [hC] at m1; cases m1; rfl
    subst eC
    obtain rfl : u = Value.ref a := rx
    have rself : RepX X G1 (.ref a) (.ins cn ks fs) := .ins m1 m2 m3 m4
    refine getmeth_ok I1 (h1.sub _ _ m2) cl hm (flook_none (by rw [m3]; exact hks)) ?_
    refine PySem.W.callWith_K0 (first := [.ref a]) I1.kIn hm.kp (run_fnSD (us := [.ref a]) (vs := [.ref a]) (E := WE (WV X c)) ok hr hb hv (passAt tk σ) I1 (.cons rfl .nil) ?_)
    exact spV_call h1 (.cons rself (hdd.mono same_none)) q1 (fun d pn' q v G' H' h3 s5 rv => ⟨d, _, G', h3, s2.trans s5, rv, q⟩) (fun y pn' q cls dd' G' H' h3 rx => ⟨_, G', y, h3, rx, q⟩)

/-! ### operators of own classes -/
theorem cmpBack_of {pins : List (Addr × Obj)} {QK : VK} {v : Value} {s' : Shared} (h : EP X pins σ QK v s') : PySem.W.CmpBack (EP X pins σ QK) v s' := by
  obtain ⟨x, H', I, r, q⟩ := id h
  cases x with
  | non => cases r; exact h
  | bl _ => cases r; exact h
  | int _ => obtain ⟨t, rfl⟩ := r; exact h
  | str _ => obtain ⟨t, rfl⟩ := r; exact h
  | byt _ => obtain ⟨t, rfl⟩ := r; exact h
  | flt _ => obtain ⟨t, rfl⟩ := r; exact h
  | ref _ => cases r; exact h
  | ty _ => cases r; exact h
/-- a built-in type T on the right of the operator, a class called cn on the left -/
structure OpT (K : PySem.W.Frag) (mg : Str → Option Value) (cn : Str) (op : Operator) (T : String) : Prop where
  ok : ∀ C, mg cn = some (.ref C) → PySem.W.selfFirst K C = true ∧ (∃ rc, PySem.W.findIn K (.ref C) (dunderR op.info.2) = some rc ∧ (rc = none ∨ ∃ g : Addr, rc = some (.ref g))) ∧
    (∃ fo, PySem.W.findIn K (.type T) (PySem.dunder op.info.2) = some fo) ∧ (∃ ro, PySem.W.findIn K (.type T) (dunderR op.info.2) = some ro) ∧ PySem.W.subIn K (.type T) (.ref C) = some false
def SelfF (K : PySem.W.Frag) (mg : Str → Option Value) (cn : Str) : Prop := ∀ C, mg cn = some (.ref C) → PySem.W.selfFirst K C = true
theorem inst_at {pins : List (Addr × Obj)} {s : Shared} {a C dx : Addr} {fs : List (Str × V)} (I : Inv X pins σ H s) (e : H a = some (.ins C dx fs)) : ∃ od, PySem.W.InstAt s.heap a (PySem.W.instObj C dx) C (some od) := by
  obtain ⟨mA, O, _⟩ := ins_get I.hok e
  obtain ⟨od, J, _⟩ := O.look
  exact ⟨od, J⟩
/-- x op y, both of the class cn -/
theorem ve_opS {op : Operator} {ks ks2 : List Str} (F : VMeth X.prog X.w X.K X.mg X.base c.cf k cn (PySem.dunder op.info.2) [] ct) (hr : Room k X.A) (tk : Takes X (WV X c)) (sf : SelfF X.K X.mg cn)
    (h : VE X c S a fun x S1 => VE X c S1 b fun y S2 => ∃ fs gs, x = .ins cn ks fs ∧ y = .ins cn ks2 gs ∧ ct.run [.ins cn ks fs, .ins cn ks2 gs] S2.pn (fun d pn' => Q d { S2 with pn := pn' }) (fun y pn' => c.EV y { S2 with pn := pn' })) :
    VE X c S (.BinOp a op b pos) Q := fun σ G H hd => by
  obtain ⟨C, f, fd, ps, dvs, ds0, hC, cl, hm, ok, hb, hv, hdd⟩ := F.ex
  intro pins s I
  refine wpAny_BinOp (thn (h σ G H hd pins s I) fun v s1 ⟨x, H1, I1, rx, d, S1, G1, h1, s2, r1, q1⟩ => thn (q1 σ G1 H1 h1 pins s1 I1) fun u s3 ⟨y, H2, I2, ry, d2, S2, G2, h2, s4, r2, fs, gs, ed, ed2, q2⟩ => ?_)
  subst ed; subst ed2
  have r1' := r1.mono s4
  cases r1' with
  | @ins a1 C1 dx fsv _ _ _ m1 m2 m3 m4 =>
    cases r2 with
    | @ins a2 C2 dx2 fsv2 _ _ _ n1 n2 n3 n4 =>
      have eC : C1 = C := by rw [hC] at m1; cases m1; rfl
      have eC2 : C2 = C := by rw [hC] at n1; cases n1; rfl
      subst eC; subst eC2
      obtain rfl : v = Value.ref a1 := rx
      obtain rfl : u = Value.ref a2 := ry
      obtain ⟨od, J⟩ := inst_at I2 (h2.sub _ _ m2)
      obtain ⟨od2, J2⟩ := inst_at I2 (h2.sub _ _ n2)
      obtain ⟨mf, Fr⟩ := I2.fr
      refine PySem.W.binop_K Fr I2.ok.mod.kin J J2.type (sf _ hC) hm.at_ hm.fn ?_
      refine thn (run_fnSD (us := [.ref a1, .ref a2]) (vs := [.ref a1, .ref a2]) (E := WE (WV X c)) ok hr hb hv (passAt tk σ) I2 (.cons rfl (.cons rfl .nil)) ?_) fun _ _ z => cmpBack_of z
      exact spV_call h2 (.cons (.ins m1 m2 m3 m4) (.cons (.ins n1 n2 n3 n4) (hdd.mono same_none))) q2 (fun d pn' q v G' H' h3 s5 rv => ⟨d, _, G', h3, s2.trans (s4.trans s5), rv, q⟩) (fun y pn' q cls dd' G' H' h3 rx => ⟨_, G', y, h3, rx, q⟩)
/-- the built-in type of a value -/
def tyD : D → Option String
  | .non => some "NoneType"
  | .bl _ => some "bool"
  | .int _ => some "int"
  | .str _ => some "str"
  | .lst _ => some "list"
  | .tup _ => some "tuple"
  | .dct _ _ => some "dict"
  | _ => none
theorem looks_obj {M : Model} {h : Heap} {a : Addr} {o : Obj} {T : String} (ho : h.get? a = some o) (hc : o.cls = .type T) : PySem.W.Looks M h (typeOf (.ref a)) (.type T) := hc ▸ (PySem.W.Looks.ld ho).andThen .now
/-- the type of a value of a built-in type, as the library's rules see it -/
theorem looks_ty {M : Model} {pins : List (Addr × Obj)} {s : Shared} {v : V} {u : Value} {d : D} {T : String} (I : Inv X pins σ H s) (hs : Same G H) (r : RepX X G v d) (ru : RelV v u) (ht : tyD d = some T) : PySem.W.Looks M s.heap (typeOf u) (.type T) := by
  cases r with
  | non => cases ht; cases ru; exact PySem.W.Looks.of_pure (PySem.typeIs_none s)
  | bl => cases ht; cases ru; exact PySem.W.Looks.of_pure (PySem.typeIs_bool s _)
  | int => cases ht; obtain ⟨t, rfl⟩ := ru; exact PySem.W.Looks.of_pure (PySem.typeIs_int s _ _)
  | str => cases ht; obtain ⟨t, rfl⟩ := ru; exact PySem.W.Looks.of_pure (PySem.typeIs_str s _ _)
  | lst h1 _ _ =>
    cases ht
    cases ru
    obtain ⟨_, its, n, _, e⟩ := I.hok _ _ (hs _ _ h1)
    exact looks_obj e rfl
  | tup h1 _ _ =>
    cases ht
    cases ru
    obtain ⟨_, its, _, o, e, hc, _⟩ := I.hok _ _ (hs _ _ h1)
    exact looks_obj e hc
  | dct h1 _ _ =>
    cases ht
    cases ru
    obtain ⟨_, _, vs, _, o, es, ep, e, hx, _⟩ := I.hok _ _ (hs _ _ h1)
    exact looks_obj e hx.1
  | ins _ _ _ _ => cases ht
  | adr => cases ht
  | ty => cases ht
  | cref _ => cases ht
  | scr _ _ => cases ht
  | exn0 _ _ => cases ht
  | exn _ _ _ _ _ => cases ht
  | cau _ _ _ => cases ht
  | lam _ _ _ => cases ht
  | clo _ _ _ _ _ _ => cases ht
  | idn _ => cases ht
end
end VL
set_option Elab.async false
set_option linter.all false
set_option maxRecDepth 100000
set_option maxHeartbeats 4000000
/-! VX0: an own exception's __init__ that says super().__init__(..) and keeps its arguments. -/
namespace VL
open PySem PySem.Spec PyProof.Rows L2 NdefX ClX

/-- what the text's __init__ of an own exception class needs of the written part -/
structure SupF (P : Program) (K : PySem.W.Frag) (mg : Str → Option Value) (f cda cc D C : Addr) (fd : FuncData) (ar : Arg) : Prop where
  T : OexC K C
  hD : ∃ cd, PySem.W.clsIn K D = some cd
  hsub : PySem.W.mroIn K C (.ref D) = some true
  hsup : PySem.W.ks_superIn K C D "__init__" = some (some (.builtin "ValueError.__init__"))
  hB : PySem.W.subIn K (.ref C) (.type "ValueError") = some true
  hf : ∃ oc od osl, K.lookup f = some ⟨oc, od, .func fd, osl⟩
  hp : (fd.params.posonlyargs ++ fd.params.args).head? = some ar
  hcode : ∃ ccl cdd vs ccs file tf, K.lookup cda = some ⟨ccl, cdd, .fields vs, ccs⟩ ∧ vs[2]? = some (.str file tf) ∧ ((P.main.file : Str) == file) = true
  hcell : ∃ cl cld csl, K.lookup cc = some ⟨cl, cld, .cell (some (.ref D)), csl⟩
  hop : PySem.W.nsIn K cStatics "thirdparty.any" = some none
  hm : mg "super" = none
  htop : (P.main.scope.names.lookup ("super" : Str)).isSome = false

section
variable {X : Cx} {f cda cc D C a : Addr} {fd : FuncData} {ar : Arg} {pins : List (Addr × Obj)} {σ : L2.St} {H : Hp} {s : Shared} {body : List Stmt} {p0 p1 p2 pos pos2 : Pos} {e : Expr} {es : List Expr} {ta : TA} {R : Hp → Prop} {E : Value → Shared → Prop}
theorem sup_ok {pl : Sem Bool} (F : SupF X.prog X.K X.mg f cda cc D C fd ar) (hks : X.env.kindOf "super" = some .globalImplicit) (hkc : X.env.kindOf "__class__" = some .free) (hka : X.env.kindOf ar.arg = some .local) (hfu : X.env.func = some f) (hco : X.env.code = .ref cda) (hcl : X.env.cells.lookup ("__class__" : Str) = some cc)
    (h0 : X.N[0]? = some ar.arg) (σ0 : σ[0]? = some (some (.ref a))) (ea : H a = some (exo a C none)) (I : Inv X pins σ H s) (ha : PA X (e :: es) ta) (hq : ta σ H fun us H1 => us.length ≤ 1000 ∧ H1 a = some (exo a C none) ∧ R H1)
    (hE : ∀ x s', X.xe x s' → E x s')
    (hi : interactive X.env = false) (hs : swapsWith (.Call (.Attribute (.Call (.Name "super" p0) [] [] p1) "__init__" p2) (e :: es) [] pos) none pos2.line X.env = pure false)
    (hc : eval (.Call (.Attribute (.Call (.Name "super" p0) [] [] p1) "__init__" p2) (e :: es) [] pos) X.env = (do
      let ov ← attributeBase (.Call (.Name "super" p0) [] [] p1) "__init__" X.env (eval (.Call (.Name "super" p0) [] [] p1) X.env)
      standAt p2.atName
      let (f, first) ← holding [ov] (getMethod ov "__init__" pl)
      callWith pos f first (backTo pos (starEach (e :: es) X.env)) []))
    (he : starEach (e :: es) X.env = (false, eval e X.env) :: starEach es X.env) (hpl : (backTo pos (starEach es X.env)).any (·.1) = false) :
    PySem.wpAt (model X.prog X.w) X.A (.func body X.env) (exec (.Expr (.Call (.Attribute (.Call (.Name "super" p0) [] [] p1) "__init__" p2) (e :: es) [] pos) pos2) X.env)
      (fun fl s' => fl = .next ∧ ∃ H1, Inv X pins σ H1 s' ∧ R H1) E s := by
  obtain ⟨oc, od, osl, lf⟩ := F.hf
  obtain ⟨ccl, cdd, vs, ccs, file, tf, lc, hvs, hfile⟩ := F.hcode
  obtain ⟨cl, cld, csl, lcc⟩ := F.hcell
  obtain ⟨cdD, hD⟩ := F.hD
  obtain ⟨nm, q, N, bs, bm, sn, sub, ab, col, dd, k0, k1, k2, k3, k5, hC, hbm⟩ := F.T.cls
  have hcl' : PySem.W.clsIn X.K C = some { name := nm, bases := bs, mro := .ref C :: bm, ns := N, qualname := q, hasDict := true, slotNames := sn, subclasses := sub, abstract := ab, collection := col, hasDel := false } := by unfold PySem.W.clsIn; rw [hC] <;> rfl
  obtain ⟨t1, ho⟩ := exo_at I.hok ea
  obtain ⟨hh, g, d, t, os⟩ := s
  have hk : X.env.scope.kind = .function := I.ok.kind
  refine ks_wpAt_Expr_any ?_ hi hs
  refine ks_wpAt_MethodCall ?_ hc
  refine ks_wpAt_super_base hks hkc (by decide) hfu (I.kIn _ _ lf) rfl F.hp hco (I.kIn _ _ lc) rfl hvs hfile F.htop ?_
  obtain ⟨mb, hb1, hb2⟩ := I.mod.blt
  refine PySem.W.ks_loadName_global hk hks (Calls.loadGlobal_builtin (by rw [I.ok.glob]; exact I.mod.glob.keeps I.bk) F.hm (by rw [I.ok.blt]; exact hb1.keeps I.bk) ((hb2 "super" (by decide)).trans (show bootBuiltins "super" = some (.type "super") from by first | rfl | kernel_rfl)) ⟨rfl, ?_⟩)
  refine wpAny_loadName_free hk hkc hcl ⟨_, I.kIn _ _ lcc, rfl⟩ ?_
  obtain ⟨m, hns, hl⟩ := I.loc
  obtain ⟨u, ru, lk⟩ := hl 0 _ _ h0 σ0 (Or.inl hka)
  obtain rfl : u = Value.ref a := ru
  have hma : m ar.arg = some (.ref a) := by
    rcases lk with ⟨_, z⟩ | ⟨z | z, _⟩
    · exact z
    · rw [hka] at z; cases z
    · rw [hka] at z; cases z
  refine wpAny_loadName_local hk hka hns hma ?_
  obtain ⟨oD, hD1, hD2⟩ : ∃ oD, hh.get? D = some oD ∧ oD.data = .cls cdD := by
    unfold PySem.W.clsIn at hD
    split at hD
    · rename_i c d cd' sl ho
      cases hD
      exact ⟨_, I.kIn _ _ ho, rfl⟩
    · cases hD
  refine ks_wpAny_isType_cls hD1 hD2 ⟨rfl, ?_⟩
  refine ks_wpAny_call_super hD1 hD2 ho rfl (fun c e => nomatch e) (PySem.W.looks_mroIn I.kIn F.hsub) (fun h' eso kso => ?_)
  have I1 := pin_new (t' := t) I kso (Nat.le_refl _) eso (fun v z => nomatch z)
  have ho1 := kso _ _ ho
  have IA : PySem.W.InstAt h' a { cls := .ref C, dict := none, data := .fields #[.ref t1, .none, .none, .none, .bool false, .none] } C none := ⟨ho1, rfl, rfl, trivial⟩
  have hms := F.hsup
  unfold PySem.W.ks_superIn at hms
  rw [hcl', Option.bind_some] at hms
  refine PySem.W.kxs_getMethod PySem.W.kxs_ValueError (pin_at I1) (PySem.W.looks_opaque I1.kIn F.hop) (l₀ := .ref C :: bm) (fun A Q E s k q => wpAny_bind ((PySem.W.looks_clsIn I1.kIn hcl') A _ E s k (wpAny_pure q))) rfl I1.kIn hms (IA.type.andThen (PySem.W.looks_subIn I1.kIn F.hB)) (PySem.W.ks_ne I1.kIn IA hcl') (by decide) ?_
  have I2 := pin_new (t' := t + 1) I1 (fun b o e => Heap.get?_push_of_some _ e) (Nat.le_refl _) (Heap.get?_push_at (h := h') (o := PySem.W.kxs_mw "ValueError.__init__" a) rfl rfl) (fun v z => nomatch z)
  show wpAny _ _ (callWith pos (.ref h'.objs.size) [] (backTo pos (starEach (e :: es) X.env)) []) _ _ _
  rw [he]
  refine PySem.W.kxs_callWith (i := "ValueError.__init__") (x := a) (by show (false || (backTo pos (starEach es X.env)).any (·.1)) = false; rw [hpl]; rfl) ?_
  refine PySem.Calls.evalArgs_plain ?_
  have hrun := ha.run pos _ _ σ H _ I2 hq
  rw [he] at hrun
  refine wpAny_mono hrun (fun us s3 ⟨ws, H1, I3, r, hlen, ea1, hR⟩ => ⟨pin_at I3, ?_⟩) (fun x s' z => hE x s' z)
  obtain ⟨t3, ho3⟩ := exo_at I3.hok ea1
  have hu3 := pin_at I3
  have hus : us.length ≤ sizeLine := by
    rw [← r.length, sizeLine_eq]
    omega
  obtain ⟨hp, g3, d3, tk3, os3⟩ := s3
  refine wpAny_call (codeAny_of_tree ?_)
  show wpAny _ X.A.in1 (callAny (.ref h'.objs.size) ⟨[] ++ us, []⟩) _ _ _
  simp only [callAny]
  refine wpAny_bind (wpAny_load hu3 ?_)
  simp only [PySem.W.kxs_mw, show (Value.type "method-wrapper" == Value.type "method" || Value.type "method-wrapper" == Value.type "builtin_function_or_method" || Value.type "method-wrapper" == Value.type "method-wrapper") = true by decide, if_true]
  refine PySem.W.KFB.if_so (by decide) ?_
  refine wpAny_bind (PySem.W.check_bound_init PySem.F.excBase_ValueError.toExcCallFacts (I3.kIn _ _ hC) ho3 rfl ?_)
  refine wpAny_bind (wpAny_pure (wpAny_pure ?_))
  refine ⟨plainId_quiet PySem.F.excBase_ValueError.init.plain _, codeAny_builtin PySem.F.excBase_ValueError.initEntry ?_⟩
  refine PySem.W.exc_init_tree (cls := .ref C) (t0 := t3) (dv := none) (c2 := .none) (c3 := .none) (b4 := .bool false) ho3 hus fun hz k hx ht => ?_
  have J := I3.write (t' := tk3) (x := a) (e := a) (o := exo a C none) (by rw [ea1]; exact True.intro) (.inl rfl) k ⟨_, hx⟩ (exo_ok hx)
  have eu : upd H1 a (exo a C none) = H1 := by
    funext b
    by_cases hb : b = a
    · rw [hb, upd_same, ea1]
    · rw [upd_ne hb]
  rw [eu] at J
  exact ⟨by first | rfl | trivial, H1, unpin (unpin J), hR⟩
end

/-- an __init__ that keeps its arguments as fields -/
def spX (C : Addr) (fields : List Str) : Sp := fun vs H Q E => ∃ a args, vs = .ref a :: args ∧ args.length = fields.length ∧ H a = some (exo a C none) ∧
  ∀ dx, H dx = none → dx ≠ a → Q .non (upd (upd H dx (exd dx (fields.zip args).reverse)) a (exo a C (some dx)))
section
variable {CX : CXT} {P : Program} {w : World} {K : PySem.W.Frag} {mg : Str → Option Value} {base : Heap} {F : NF} {f cc D C : Addr} {k : Nat} {self p q fld fld2 : Str} {oc : Value} {od : Option Addr} {doc pm ctv : Value} {osl : Array (Option Value)} {ar : Arg} {p0 p1 p2 p3 p4 q1 q2 q3 q4 q5 r1 r2 r3 r4 r5 : Pos} {N ps : List Str}
theorem supCells {X : List (Str × Addr)} {s : Shared} {H : Hp} {A : Around} {outer : List Env} (hcl : F.cl = [(("__class__" : Str), cc)]) (SF : SupF P K mg f F.c cc D C (F.fd doc pm ctv) ar) (e0 : Env0 P w K mg base A outer s H) : CellsAt F.cl [("__class__" : Str)] [some (.ref D)] s.heap H := by
  have KX : K.In s.heap := e0.mod.kin.keeps fun b o e => (e0.bs b o e).1
  obtain ⟨cl, cld, csl, lcc⟩ := SF.hcell
  have one : ∀ y c, F.cl.lookup y = some c → y = "__class__" ∧ c = cc := fun y c h => by
    rw [hcl] at h
    by_cases hy : y = "__class__"
    · subst hy
      simp [List.lookup] at h
      exact ⟨rfl, h.symm⟩
    · have e : (y == ("__class__" : Str)) = false := by simpa using hy
      simp [List.lookup, e] at h
  refine ⟨rfl, fun y c h => ?_, fun x y c h1 h2 => by rw [(one x c h1).1, (one y c h2).1], fun i y h => ?_⟩
  · obtain ⟨_, rfl⟩ := one y c h
    exact ⟨(e0.bs _ _ (e0.mod.kin _ _ lcc)).2, _, _, KX _ _ lcc, rfl⟩
  · cases i with
    | zero =>
      simp only [List.getElem?_cons_zero, Option.some.injEq] at h
      subst h
      refine ⟨cc, by rw [hcl]; simp [List.lookup], fun v hv => ?_⟩
      simp only [List.getElem?_cons_zero, Option.some.injEq] at hv
      subst hv
      exact ⟨.ref D, rfl, _, KX _ _ lcc, rfl⟩
    | succ i => simp at h
/-- such an __init__, its first statement super's -/
theorem fnX_of {e : Expr} {es : List Expr} {rest : List Stmt} {sp : Sp} (lf : K.lookup f = some ⟨oc, od, .func (F.fd doc pm ctv), osl⟩) (hcd : PySem.W.codeIn K (.ref F.c) F.qual = true) (hcl : F.cl = [(("__class__" : Str), cc)]) (S : NScope N ps [("__class__" : Str)] F.scope)
    (hbd : F.body = .Expr (.Call (.Attribute (.Call (.Name "super" p0) [] [] p1) "__init__" p2) (e :: es) [] p3) p4 :: rest) (SF : SupF P K mg f F.c cc D C (F.fd doc pm ctv) ar) (hself : ps[0]? = some ar.arg) (hsup : F.scope.names.lookup ("super" : Str) = some .globalImplicit)
    (len : ∀ vs H Q E, sp vs H Q E → vs.length = ps.length)
    (h : ∀ (A : Around) (outer : List Env) (s : Shared) (H : Hp) (vs : List V) (Q : VK) (E : XK), sp vs H Q E → ∃ (a : Addr) (ta : TA) (t : TS), vs[0]? = some (.ref a) ∧ H a = some (exo a C none) ∧
      PA (ncx CX P w K mg base N F f A outer s H E) (e :: es) ta ∧ PSs (ncx CX P w K mg base N F f A outer s H E) rest t ∧
      ta (startF N vs [some (.ref D)]) H fun us H1 => us.length ≤ 1000 ∧ H1 a = some (exo a C none) ∧ t { nx := fun _ H' => Q .non H', rt := Q } (startF N vs [some (.ref D)]) H1)
    (hs : ∀ (A : Around) (outer : List Env) (s : Shared) (H : Hp) (E : XK), swapsWith (.Call (.Attribute (.Call (.Name "super" p0) [] [] p1) "__init__" p2) (e :: es) [] p3) none p4.line (ncx CX P w K mg base N F f A outer s H E).env = pure false := by intros; rfl)
    (hc : ∀ (A : Around) (outer : List Env) (s : Shared) (H : Hp) (E : XK), ∃ pl : Sem Bool, eval (.Call (.Attribute (.Call (.Name "super" p0) [] [] p1) "__init__" p2) (e :: es) [] p3) (ncx CX P w K mg base N F f A outer s H E).env = (do
      let ov ← attributeBase (.Call (.Name "super" p0) [] [] p1) "__init__" (ncx CX P w K mg base N F f A outer s H E).env (eval (.Call (.Name "super" p0) [] [] p1) (ncx CX P w K mg base N F f A outer s H E).env)
      standAt p2.atName
      let (fo, first) ← holding [ov] (getMethod ov "__init__" pl)
      callWith p3 fo first (backTo p3 (starEach (e :: es) (ncx CX P w K mg base N F f A outer s H E).env)) []) := by intros; exact ⟨_, rfl⟩)
    (he : ∀ (A : Around) (outer : List Env) (s : Shared) (H : Hp) (E : XK), starEach (e :: es) (ncx CX P w K mg base N F f A outer s H E).env = (false, eval e (ncx CX P w K mg base N F f A outer s H E).env) :: starEach es (ncx CX P w K mg base N F f A outer s H E).env := by intros; rfl)
    (hpl : ∀ (A : Around) (outer : List Env) (s : Shared) (H : Hp) (E : XK), (backTo p3 (starEach es (ncx CX P w K mg base N F f A outer s H E).env)).any (·.1) = false := by intros; rfl) :
    FnOk P w K mg base CX (k + 1) f (F.fd doc pm ctv) ps sp := by
  refine ⟨len, fun A outer s H args us vs Q E hr e0 hb r hsp => ?_⟩
  have KX : K.In s.heap := e0.mod.kin.keeps fun b o e => (e0.bs b o e).1
  have hl := len _ _ _ _ hsp
  have lim : s.heap.NoLimit := e0.mod.nolimit.keeps fun b o e => (e0.bs b o e).1
  obtain ⟨a, ta, t, h0, ea, hpa, hps, hw⟩ := h A outer s H vs Q E hsp
  refine codeAny_call_function hr.depth (KX _ _ lf) rfl S.co S.gen rfl (PySem.W.codeRec_of KX hcd) (hb _ _ _ _ ?_)
  refine wpAny_newFunctionEnv S.nocell (fun ⟨n, _⟩ hy => S.par n (List.of_mem_zip hy).1) (fun h₁ hns hsb => ⟨lim.fresh _ hsb, ?_⟩) S.kind
  show codeAny _ _ (.func F.body (envF F f s.heap.objs.size)) _ _
  refine ks_codeAny_funcAt ?_
  have kp : ∀ b o, s.heap.get? b = some o → h₁.get? b = some o := fun b o e => hsb.extBut b o (Nat.ne_of_lt (Heap.lt_size e)) (Heap.get?_push_of_some _ e)
  have I : Inv (ncx CX P w K mg base N F f A outer s H E) [] (startF N vs [some (.ref D)]) H { s with heap := h₁, toks := s.toks + (ps.zip us).length } := inv_startN S hr.hd e0 hl r (supCells (X := []) hcl SF e0) hns kp
  have hN0 : N[0]? = some ar.arg := by
    have hpos : 0 < ps.length := (List.getElem?_eq_some_iff.mp hself).1
    have q : (N.take (ps.length + [("__class__" : Str)].length))[0]? = (ps ++ [("__class__" : Str)])[0]? := by rw [S.pre]
    rw [List.getElem?_take_of_lt (by simp), List.getElem?_append_left hpos] at q
    rw [q]; exact hself
  have hs0 : (startF N vs [some (V.ref D)])[0]? = some (some (.ref a)) := by
    have hpos : 0 < vs.length := (List.getElem?_eq_some_iff.mp h0).1
    unfold startF
    rw [List.getElem?_append_left (by simpa using hpos), List.getElem?_map, h0]
    rfl
  have hka : F.scope.names.lookup ar.arg = some .local := S.par _ (List.mem_of_getElem? hself)
  have fin : ∀ {σ' : L2.St} {H' : Hp} {v : V} {u : Value} {s' : Shared}, Inv (ncx CX P w K mg base N F f A outer s H E) [] σ' H' s' → L2.RelV v u → Q v H' → CE outer P w H s Q u s' :=
    fun {σ' H' v u s'} J rv q => ⟨v, H', J.os, J.bare, J.base, J.hok, rv, q⟩
  obtain ⟨pl, hc'⟩ := hc A outer s H E
  rw [hbd]
  refine ks_wpAt_execs_cons ?_
  rw [← hbd]
  refine PySem.wpAt_mono (sup_ok (X := ncx CX P w K mg base N F f A outer s H E) (body := F.body) (R := fun H1 => t { nx := fun _ H' => Q .non H', rt := Q } (startF N vs [some (.ref D)]) H1) (E := (ncx CX P w K mg base N F f A outer s H E).xe)
    SF hsup (S.frk _ List.mem_cons_self) hka rfl rfl (by show F.cl.lookup _ = _; rw [hcl]; simp [List.lookup]) hN0 hs0 ea I hpa hw (fun _ _ z => z) I.quiet (hs A outer s H E) hc' (he A outer s H E) (hpl A outer s H E)) (fun fl s' hh => ?_) (fun _ _ z => z)
  obtain ⟨efl, H1, I1, hR⟩ := hh
  subst efl
  refine PySem.wpAt_of_wpAny ?_
  refine wpAny_mono (hps.run [] _ _ H1 _ I1 hR) (fun fl s2 hs2 => ?_) fun e s2 z => z
  cases fl with
  | ret u =>
    obtain ⟨v, σ', H', J, rv, q⟩ := hs2
    exact fin J rv q
  | next =>
    obtain ⟨σ', H', J, q⟩ := hs2
    exact fin (v := V.non) (u := Value.none) J rfl q
  | brk =>
    obtain ⟨_, _, _, q⟩ := hs2
    exact False.elim q
  | cont =>
    obtain ⟨_, _, _, q⟩ := hs2
    exact False.elim q
end
end VL
set_option Elab.async false
set_option linter.all false
set_option maxRecDepth 100000
set_option maxHeartbeats 4000000
/-! VX1: the __init__s of one and of two arguments. -/
namespace VL
open PySem PySem.Spec PyProof.Rows L2 NdefX ClX
section
variable {CX : CXT} {P : Program} {w : World} {K : PySem.W.Frag} {mg : Str → Option Value} {base : Heap} {F : NF} {f cc D C : Addr} {k : Nat} {self p q fld fld2 : Str} {oc : Value} {od : Option Addr} {doc pm ctv : Value} {osl : Array (Option Value)} {ar : Arg} {p0 p1 p2 p3 p4 q1 q2 q3 q4 q5 r1 r2 r3 r4 r5 s1 s2 : Pos}
theorem fnX1 (lf : K.lookup f = some ⟨oc, od, .func (F.fd doc pm ctv), osl⟩) (hcd : PySem.W.codeIn K (.ref F.c) F.qual = true) (hcl : F.cl = [(("__class__" : Str), cc)]) (S : NScope [self, p, "__class__"] [self, p] [("__class__" : Str)] F.scope)
    (hbd : F.body = [.Expr (.Call (.Attribute (.Call (.Name "super" p0) [] [] p1) "__init__" p2) [.Name p q1] [] p3) p4, .Assign [.Attribute (.Name self q2) fld q3] (.Name p q4) q5])
    (SF : SupF P K mg f F.c cc D C (F.fd doc pm ctv) ar) (hself : ar.arg = self) (hsup : F.scope.names.lookup ("super" : Str) = some .globalImplicit) (hno : PySem.W.findIn K (.ref C) fld = some none)
    (d1 : (self == ("__debug__" : Str)) = false) (d2 : (self == ("__classdict__" : Str)) = false) (d3 : (p == ("__debug__" : Str)) = false) (d4 : (p == ("__classdict__" : Str)) = false)
    (hc : ∀ (A : Around) (outer : List Env) (s : Shared) (H : Hp) (E : XK), ∃ pl : Sem Bool, eval (.Call (.Attribute (.Call (.Name "super" p0) [] [] p1) "__init__" p2) [.Name p q1] [] p3) (ncx CX P w K mg base [self, p, "__class__"] F f A outer s H E).env = (do
      let ov ← attributeBase (.Call (.Name "super" p0) [] [] p1) "__init__" (ncx CX P w K mg base [self, p, "__class__"] F f A outer s H E).env (eval (.Call (.Name "super" p0) [] [] p1) (ncx CX P w K mg base [self, p, "__class__"] F f A outer s H E).env)
      standAt p2.atName
      let (fo, first) ← holding [ov] (getMethod ov "__init__" pl)
      callWith p3 fo first (backTo p3 (starEach [.Name p q1] (ncx CX P w K mg base [self, p, "__class__"] F f A outer s H E).env)) [])) :
    FnOk P w K mg base CX (k + 1) f (F.fd doc pm ctv) [self, p] (spX C [fld]) := by
  have hk0 : F.scope.names.lookup self = some .local := S.par _ (List.mem_cons_self)
  have hk1 : F.scope.names.lookup p = some .local := S.par _ (List.mem_cons_of_mem _ List.mem_cons_self)
  refine fnX_of (hc := hc) lf hcd hcl S hbd SF (by rw [hself]; rfl) hsup (fun vs H Q E ⟨a, args, e, hl, _⟩ => by subst e; simpa using hl) fun A outer s H vs Q E ⟨a, args, e, hl, ea, hq⟩ => ?_
  subst e
  match args, hl with
  | [y], _ =>
    refine ⟨a, _, _, rfl, ea, pa_cons (pv 1 rfl (Or.inl hk1) d3 d4) pa_nil, pss_one (ps_ost (pv 0 rfl (Or.inl hk0) d1 d2) (pv 1 rfl (Or.inl hk1) d3 d4)), ?_⟩
    refine ⟨y, rfl, by simp, ea, ?_⟩
    refine ⟨y, rfl, .ref a, rfl, a, C, rfl, SF.T, hno, .inl ⟨ea, fun dx hdx hne => ?_⟩⟩
    exact hq dx hdx hne
theorem upd_swap {H : Hp} {a dx : Addr} {o1 o2 o3 : HO} (h : dx ≠ a) : upd (upd (upd H dx o1) a o2) dx o3 = upd (upd H dx o3) a o2 := by
  funext b
  by_cases h1 : b = dx
  · subst h1; rw [upd_same, upd_ne h, upd_same]
  · rw [upd_ne h1]
    by_cases h2 : b = a
    · subst h2; rw [upd_same, upd_same]
    · rw [upd_ne h2, upd_ne h2, upd_ne h1, upd_ne h1]
theorem fnX2 (lf : K.lookup f = some ⟨oc, od, .func (F.fd doc pm ctv), osl⟩) (hcd : PySem.W.codeIn K (.ref F.c) F.qual = true) (hcl : F.cl = [(("__class__" : Str), cc)]) (S : NScope [self, p, q, "__class__"] [self, p, q] [("__class__" : Str)] F.scope)
    (hbd : F.body = [.Expr (.Call (.Attribute (.Call (.Name "super" p0) [] [] p1) "__init__" p2) [.Name p q1, .Name q s1] [] p3) p4, .Assign [.Attribute (.Name self q2) fld q3] (.Name p q4) q5, .Assign [.Attribute (.Name self r2) fld2 r3] (.Name q r4) r5])
    (SF : SupF P K mg f F.c cc D C (F.fd doc pm ctv) ar) (hself : ar.arg = self) (hsup : F.scope.names.lookup ("super" : Str) = some .globalImplicit) (hno : PySem.W.findIn K (.ref C) fld = some none) (hno2 : PySem.W.findIn K (.ref C) fld2 = some none)
    (d1 : (self == ("__debug__" : Str)) = false) (d2 : (self == ("__classdict__" : Str)) = false) (d3 : (p == ("__debug__" : Str)) = false) (d4 : (p == ("__classdict__" : Str)) = false) (d5 : (q == ("__debug__" : Str)) = false) (d6 : (q == ("__classdict__" : Str)) = false)
    (hc : ∀ (A : Around) (outer : List Env) (s : Shared) (H : Hp) (E : XK), ∃ pl : Sem Bool, eval (.Call (.Attribute (.Call (.Name "super" p0) [] [] p1) "__init__" p2) [.Name p q1, .Name q s1] [] p3) (ncx CX P w K mg base [self, p, q, "__class__"] F f A outer s H E).env = (do
      let ov ← attributeBase (.Call (.Name "super" p0) [] [] p1) "__init__" (ncx CX P w K mg base [self, p, q, "__class__"] F f A outer s H E).env (eval (.Call (.Name "super" p0) [] [] p1) (ncx CX P w K mg base [self, p, q, "__class__"] F f A outer s H E).env)
      standAt p2.atName
      let (fo, first) ← holding [ov] (getMethod ov "__init__" pl)
      callWith p3 fo first (backTo p3 (starEach [.Name p q1, .Name q s1] (ncx CX P w K mg base [self, p, q, "__class__"] F f A outer s H E).env)) [])) :
    FnOk P w K mg base CX (k + 1) f (F.fd doc pm ctv) [self, p, q] (spX C [fld, fld2]) := by
  have hk0 : F.scope.names.lookup self = some .local := S.par _ (List.mem_cons_self)
  have hk1 : F.scope.names.lookup p = some .local := S.par _ (List.mem_cons_of_mem _ List.mem_cons_self)
  have hk2 : F.scope.names.lookup q = some .local := S.par _ (List.mem_cons_of_mem _ (List.mem_cons_of_mem _ List.mem_cons_self))
  refine fnX_of (hc := hc) lf hcd hcl S hbd SF (by rw [hself]; rfl) hsup (fun vs H Q E ⟨a, args, e, hl, _⟩ => by subst e; simpa using hl) fun A outer s H vs Q E ⟨a, args, e, hl, ea, hq⟩ => ?_
  subst e
  match args, hl with
  | [y, z], _ =>
    refine ⟨a, _, _, rfl, ea, pa_cons (pv 1 rfl (Or.inl hk1) d3 d4) (pa_cons (pv 2 rfl (Or.inl hk2) d5 d6) pa_nil), pss_cons (ps_ost (pv 0 rfl (Or.inl hk0) d1 d2) (pv 1 rfl (Or.inl hk1) d3 d4)) (pss_one (ps_ost (pv 0 rfl (Or.inl hk0) d1 d2) (pv 2 rfl (Or.inl hk2) d5 d6))), ?_⟩
    refine ⟨y, rfl, z, rfl, by simp, ea, ?_⟩
    refine ⟨y, rfl, .ref a, rfl, a, C, rfl, SF.T, hno, .inl ⟨ea, fun dx hdx hne => ?_⟩⟩
    refine ⟨z, rfl, .ref a, rfl, a, C, rfl, SF.T, hno2, .inr ⟨dx, _, upd_same, by rw [upd_ne hne, upd_same], by simp, ?_⟩⟩
    show Q .non _
    rw [upd_swap hne]
    exact hq dx hdx hne
end
end VL
set_option Elab.async false
set_option linter.all false
set_option maxRecDepth 100000
set_option maxHeartbeats 4000000
/-! VX2: own exceptions by values: made, raised, their fields, isinstance, caught. -/
namespace PySem.W
open PySem PySem.Spec PySem.Calls PyProof.Rows
section
variable {prog : Program} {w : World} {A : Around} {E : Value → Shared → Prop} {s : Shared} {K : Frag} {x D : Addr} {ox : Obj} {od : Option Obj}
theorem vx_findObj {C : Addr} {name : Str} {a g : Value} (hc : (clsIn K C).isSome = true) (ha : findIn K (.ref C) name = some (some a)) (hg : specialIn K a "__get__" = some (some g)) (ht : takesIn K a = some true) : findObj K C od name = some (.bind g a) := by
  obtain ⟨cd, hc⟩ := Option.isSome_iff_exists.mp hc
  unfold findObj
  rw [hc, Option.bind_some, ha, Option.bind_some]
  simp [hg, ht]
theorem vx_class {Q : Option Value → Shared → Prop} (hga : findIn K (.ref D) "__getattribute__" = some (some (.builtin "BaseException.__getattribute__"))) (hgt : findIn K (.ref D) "__getattr__" = some none) (hsub : subIn K (.ref D) (.type "BaseException") = some true)
    (hdct : hasDictIn K D = true) (ha : findIn K (.ref D) "__class__" = some (some (.builtin "object.__class__")))
    (hn : specialIn K (.builtin "object.__class__") "__get__" = some (some (.builtin "getset_descriptor.__get__"))) (htk : takesIn K (.builtin "object.__class__") = some true) (hm : mroIn K D (.type "object") = some true)
    (X : K.In s.heap) (I : InstAt s.heap x ox D od) (h : Q (some (.ref D)) { s with toks := s.toks + 1 }) : wpAny (model prog w) A (getAttr? (.ref x) "__class__") Q E s := by
  have hf : findObj K D od "__class__" = some (.bind (.builtin "getset_descriptor.__get__") (.builtin "object.__class__")) := vx_findObj (by obtain ⟨cd, hc, _⟩ := any_some hdct; rw [hc]; rfl) ha hn htk
  obtain ⟨hp, g, d, t, os⟩ := s
  have L0 := I.type (M := model prog w)
  have L1 := looks_findIn (M := model prog w) X hga
  have L2 := looks_findIn (M := model prog w) X hgt
  have L3 := looks_find (M := model prog w) X I hf
  have sub : Looks (model prog w) hp (isInstance (.ref x) (.type "BaseException")) true := L0.andThen (looks_subIn X hsub)
  have hx0 : (false && onTheHeap (Value.builtin "BaseException.__getattribute__")) = false := rfl
  have hx2 : (Value.builtin "BaseException.__getattribute__" == Value.builtin "object.__getattribute__") = false := by decide +kernel
  have hx1 : (onTheHeap (Value.ref D) && Value.builtin "BaseException.__getattribute__" == Value.builtin "object.__getattribute__") = false := by rw [hx2]; rfl
  unfold getAttr? getAttrBy? getAttrBy
  refine wpAny_bind (wpAny_mkText (wpAny_bind (wpAny_attempt (wpAny_holding (wpAny_bind (L0.at (wpAny_bind (L1.at ?_))))))))
  show wpAny _ _ (if (onTheHeap (Value.ref D) && Value.builtin "BaseException.__getattribute__" == Value.builtin "object.__getattribute__") = true then _ else _) _ _ _
  rw [hx1, if_neg Bool.false_ne_true]
  unfold getAttrByItsOwn hookBefore
  refine wpAny_bind ?_
  rw [if_pos (show onTheHeap (Value.ref D) = true from rfl)]
  refine L2.at ?_
  refine wpAny_bind (wpAny_attempt (wpAny_holding ?_))
  unfold callGetattribute
  rw [hx0, if_neg Bool.false_ne_true]
  unfold boundAndCalled
  rw [PySem.F.excAttr_ValueError.ga.bind (.ref x)]
  refine wpAny_bind (wpAny_pure ?_)
  show wpAny _ _ (call (.builtin "BaseException.__getattribute__") [.ref x, .str "__class__" t]) _ _ _
  refine wpAny_call (codeAny_call_builtin PySem.F.excAttr_ValueError.ga.plain PySem.F.entry_bexc_ga ?_)
  refine @check_slot (model prog w) _ _ ⟨hp, g, d, t + 1, os⟩ "BaseException.__getattribute__" "BaseException" "__getattribute__" (.ref x) [.str "__class__" t] [] _ (by decide +kernel) (by decide +kernel) sub (PySem.F.args_bexc_ga (.ref x) (.str "__class__" t)) ?_
  unfold Builtin.«object.__getattribute__»
  refine wpAny_bind (wpAny_of_eq (a := ((Value.ref x : Value), [Value.str "__class__" t])) (by first | rfl | (simp only [slotArgs]; rfl)) ?_)
  refine wpAny_bind (wpAny_pure (wpAny_bind (L0.at (wpAny_bind (L3.at ?_)))))
  show wpAny _ _ (holding [Value.builtin "object.__class__"] (call (.builtin "getset_descriptor.__get__") [.builtin "object.__class__", .ref x, .ref D]) >>= ret) _ _ _
  refine wpAny_bind (wpAny_holding (wpAny_call (class_get (s := ⟨hp, g, d, t + 1, os⟩) (ox := ox) (od := od) X I hm ?_)))
  refine wpAny_pure ?_
  show wpAny _ _ (handedOut (.ref D)) _ _ _
  rw [handedOut_of (v := .ref D) rfl]
  first
    | exact wpAny_pure (wpAny_pure h)
    | exact wpAny_pure h
    | exact wpAny_pure (wpAny_bind (wpAny_pure (wpAny_pure h)))
theorem vx_kit (hga : findIn K (.ref D) "__getattribute__" = some (some (.builtin "BaseException.__getattribute__"))) (hgt : findIn K (.ref D) "__getattr__" = some none) (hsub : subIn K (.ref D) (.type "BaseException") = some true) (hdct : hasDictIn K D = true) (ha : findIn K (.ref D) "__class__" = some (some (.builtin "object.__class__")))
    (hn : specialIn K (.builtin "object.__class__") "__get__" = some (some (.builtin "getset_descriptor.__get__"))) (htk : takesIn K (.builtin "object.__class__") = some true) (hm : mroIn K D (.type "object") = some true) :
    KitX K (.ref x) (.ref D) (fun h => InstAt h x ox D od) where
  ty := fun _ _ _ I => I.type
  it := fun _ _ X _ => by
    obtain ⟨cdD, hcD, _⟩ := any_some hdct
    unfold clsIn at hcD
    split at hcD
    · rename_i c' d' cd' sl' ho
      intro A' Q' E' s' k q
      unfold isType loadHead
      exact wpAny_bind (wpAny_loadPart (k _ _ (X _ _ ho)) (wpAny_pure q))
    · cases hcD
  ne := fun h tp dd its n sl X htp => by
    obtain ⟨cdD, hcD, _⟩ := any_some hdct
    refine Bool.eq_false_iff.mpr fun q => ?_
    have e : D = tp := Value.ref.inj (beq_iff_eq.mp q)
    subst e
    unfold clsIn at hcD
    split at hcD
    · rename_i c' d' cd' sl' ho
      have z := (X _ _ ho).symm.trans htp
      cases z
    · cases hcD
  ca := fun X I k => vx_class hga hgt hsub hdct ha hn htk hm X I k
end
end PySem.W
namespace VL
open PySem PySem.Spec PyProof.Rows L2 NdefX ClX

/-- an own exception class without own __init__ -/
abbrev veTail : List Value := [.type "ValueError", .type "Exception", .type "BaseException", .type "object"]
structure VEx0 (K : PySem.W.Frag) (mg : Str → Option Value) (cn : Str) : Prop where
  ex : ∃ C, mg cn = some (.ref C) ∧ PySem.W.excIn K C veTail "ValueError.__new__" = true ∧ PySem.W.keepIn K (.ref C) = true ∧ PySem.W.subIn K (.ref C) (.type "BaseException") = some true ∧ PySem.W.typeIn K (.ref C) = some (.type "type")
/-- the class has such instances that their field f may be read -/
def XfF (K : PySem.W.Frag) (mg : Str → Option Value) (cn f : Str) : Prop := ∀ C, mg cn = some (.ref C) → XfC K C ∧ PySem.W.findIn K (.ref C) f = some none

section
variable {X : Cx} {C fI : Addr} {k : Nat} {fd : FuncData} {ps : List Str} {sp : Sp} {e : Expr} {es : List Expr} {ta : TA} {x : Str} {p pos : Pos}
/-- C() without own __init__: as a value, raised -/
theorem run_ex0 {pins : List (Addr × Obj)} {σ : L2.St} {H : Hp} {s : Shared} {Q : Value → Shared → Prop} {E : Value → Shared → Prop} {A : Around} (q : PySem.W.excIn X.K C veTail "ValueError.__new__" = true) (I : Inv X pins σ H s)
    (h : ∀ h' a, Heap.MadeExcOf s.heap h' a (.ref C) [] → H a = none → Q (.ref a) { s with heap := h' }) : wpAny (model X.prog X.w) A (call (.ref C) []) Q E s := by
  obtain ⟨hp, g, dr, tk, os⟩ := s
  obtain ⟨bm, N, nm, qn, bs, hdct, sn, sub, ab, col, dd, k0, k1, k2, k3, k5, mN, hC, hN, hni, T⟩ := exc_obj I.kIn q
  exact wpAny_call_exc_subT PySem.F.excBase_ValueError T hC hN hni (fun h' a hm => h h' a hm (I.hok.gone hm.new)) (by simp)
theorem pe_ex0 (q : PySem.W.excIn X.K C veTail "ValueError.__new__" = true) (gC : X.mg x = some (.ref C)) (kC : PySem.W.keepIn X.K (.ref C) = true) (hg : Gl X x) (hdb : (x == ("__debug__" : Str)) = false := by decide) :
    PE X (.Call (.Name x p) [] [] pos) (fun σ H Q => ∀ a, H a = none → Q (.ref a) (upd H a (exo a C none))) := by
  refine ⟨fun pins s σ H Q I h => ?_⟩
  refine wpAny_Call_Name_kw (ld_glob I hg gC ?_ hdb)
  refine PySem.W.callWith_K0 I.kIn kC (run_ex0 q I fun h' a hm ha => ?_)
  obtain ⟨t, ht, _, _⟩ := hm.there
  exact ⟨.ref a, upd H a (exo a C none), I.laidN (t' := s.toks) hm.keeps hm.new ha (exo_ok ht), rfl, h a ha⟩
theorem pmk_ex0 (q : PySem.W.excIn X.K C veTail "ValueError.__new__" = true) (gC : X.mg x = some (.ref C)) (kC : PySem.W.keepIn X.K (.ref C) = true) (r : Raises X (.ref C)) (hg : Gl X x) (hdb : (x == ("__debug__" : Str)) = false := by decide) :
    PMk X (.Call (.Name x p) [] [] pos) (fun _ H Q => Q (.ref C) none H) := by
  intro pins s σ H Q I h
  refine wpAny_Call_Name_kw (ld_glob I hg gC ?_ hdb)
  refine PySem.W.callWith_K0 I.kIn kC (run_ex0 q I fun h' a hm ha => ?_)
  exact mk_of I hm r h ha
end
end VL
set_option Elab.async false
set_option linter.all false
set_option maxRecDepth 100000
set_option maxHeartbeats 4000000
/-! VX3: own exceptions made with keywords. -/
namespace PySem
namespace VXK
open PySem.W PySem.Calls PyProof.Rows PySem.HandSPX
section
variable {M : Model} {A : Around} {E : Value → Shared → Prop} {h : Heap} {g : Array GenState} {d : Drawn} {t : Nat} {os : OsState}
variable {nm q : Str} {C N : Addr} {bs bm bmB : List Value} {hdct : Bool} {sn : List Str} {sub : List Value} {ab : Bool} {col : Option Bool} {dd : Option Addr} {k0 k1 k2 k3 k5 : Option Value} {B newId initId : String} {kw : List (Str × Value)}
theorem check_new_ownK (F : ExcBaseFacts B newId initId bmB) (hT : ∀ X : String, bm.contains (.type X) = bmB.contains (.type X)) {rest : List Value} {Q : Unit → Shared → Prop}
    (hC : h.get? C = some (excClassObj nm q C N bs bm hdct sn sub ab col dd k0 k1 k2 k3 k5 newId)) (hq : Q () ⟨h, g, d, t, os⟩) : wpAny M A (checkBuiltinCall newId ⟨.ref C :: rest, kw⟩) Q E ⟨h, g, d, t, os⟩ := by
  have hcont : (Value.ref C :: bm).contains (.type B) = true := by rw [List.contains_cons, hT, F.hasB, Bool.or_true]
  have hstar := F.noStar
  simp only [checkBuiltinCall, F.newKind, F.newSplit, F.newRow]
  repeat (first | refine wpAny_loadPart_at hC ?_ | (refine wpAny_isSubtype_exc hC ?_; rw [hcont]) | refine wpAny_staticBase_exc hC ?_ | refine wpAny_madeBy_exc hC ?_ | simp only [bne_self_eq_false, Bool.false_eq_true, if_false] | wp_step)
  exact hq
end
section
variable {prog : Program} {w : World} {A : Around} {E : Value → Shared → Prop} {R : Result → Shared → Prop} {h : Heap} {g : Array GenState} {d : Drawn} {t : Nat} {os : OsState}
variable {nm q : Str} {C N : Addr} {bs bm bmB : List Value} {hdct : Bool} {sn : List Str} {sub : List Value} {ab : Bool} {col : Option Bool} {dd : Option Addr} {k0 k1 k2 k3 k5 : Option Value} {B newId initId : String} {kw : List (Str × Value)}
theorem new_ownK (F : ExcBaseFacts B newId initId bmB) (hT : ∀ X : String, bm.contains (.type X) = bmB.contains (.type X)) {rest : List Value}
    (hC : h.get? C = some (excClassObj nm q C N bs bm hdct sn sub ab col dd k0 k1 k2 k3 k5 newId))
    (hq : R (.ok (.ret (.ref (h.objs.size + 1)))) ⟨(h.push { cls := .type "tuple", data := .seq rest.toArray }).push
      { cls := .ref C, data := .fields #[.ref h.objs.size, .none, .none, .none, .bool false, .none] }, g, d, t, os⟩) (hrest : rest.length ≤ sizeLine) :
    codeAny (model prog w) A (.builtin newId ⟨.ref C :: rest, kw⟩) R ⟨h, g, d, t, os⟩ := by
  have hends := F.ends
  have hcB : (Value.ref C :: bm).contains (.type B) = true := by rw [List.contains_cons, hT, F.hasB, Bool.or_true]
  have hcA : (Value.ref C :: bm).contains (.type "AttributeError") = false := by rw [List.contains_cons, hT, F.noAttr]; rfl
  have hcN : (Value.ref C :: bm).contains (.type "NameError") = false := by rw [List.contains_cons, hT, F.noName]; rfl
  refine codeAny_builtinAt F.entry ?_
  unfold Builtin.«BaseException.__new__»
  refine wpAt_bind ?_
  show wpAt _ _ _ (stack >>= _) _ _ _
  refine wpAt_bind (wpAt_stack fun p below => wpAt_of_wpAny ?_)
  wp_walk
  refine wpAt_of_wpAny ?_
  rw [F.owner]
  repeat (first | with_reducible refine wpAny_madeHere_exc F.canon hC ?_ | with_reducible refine wpAny_loadPart_at hC ?_ | (with_reducible refine wpAny_isSubtype_exc hC ?_; first | rw [hcB] | rw [hcA] | rw [hcN]) | wp_step)
  show R _ _
  rw [Heap.size_push]
  exact hq
theorem type_call_ownK (F : ExcBaseFacts B newId initId bmB) (hT : ∀ X : String, bm.contains (.type X) = bmB.contains (.type X)) {rest : List Value} {fI : Addr} {Q : Fin → Shared → Prop}
    (hC : h.get? C = some (excClassObj nm q C N bs bm hdct sn sub ab col dd k0 k1 k2 k3 k5 newId))
    (hi : W.Looks (model prog w) h (typeLookup (.ref C) "__init__") (some (.ref fI))) (hb : ∀ self, W.Looks (model prog w) h (bindSpecial (.ref fI) self) (.ref fI, [self])) (hrest : rest.length ≤ sizeLine)
    (hq : codeAny (model prog w) A (.call (.ref fI) ⟨.ref (h.objs.size + 1) :: rest, kw⟩)
      (fun r s' => match r with | .ok (.ret v) => v = .none ∧ Q (.done (.ret (.ref (h.objs.size + 1)))) s' | .ok _ => False | .error e => E e s')
      ⟨(h.push (W.kdv_tup rest)).push (excO C h.objs.size), g, d, t, os⟩) :
    wpAny (model prog w) A (Builtin.«type.__call__» ⟨.ref C :: rest, kw⟩) Q E ⟨h, g, d, t, os⟩ := by
  repeat (first | with_reducible refine wpAny_loadPart_at hC ?_ | with_reducible refine wpAny_madeBy_exc hC ?_ | wp_step)
  refine codeAny_call_builtin_code (Code.quiet_builtin _ F.quiet) (check_new_ownK F hT hC ?_)
  refine new_ownK F hT hC ?_ hrest
  show wpAny _ _ _ _ _ _
  have k : ∀ b o, h.get? b = some o → ((h.push (W.kdv_tup rest)).push (excO C h.objs.size)).get? b = some o := fun b o e => Heap.get?_push_of_some _ (Heap.get?_push_of_some _ e)
  have hC₁ := k _ _ hC
  have hget : ((h.push (W.kdv_tup rest)).push (excO C h.objs.size)).get? (h.objs.size + 1) = some (excO C h.objs.size) := by heap_get
  have hcC : (Value.ref C :: bm).contains (.ref C) = true := by simp
  have i1 := hi.keeps k
  have b1 := (hb (.ref (h.objs.size + 1))).keeps k
  unfold isInstance
  repeat (first | with_reducible refine wpAny_loadPart_at hget ?_ | (with_reducible refine wpAny_isSubtype_exc hC₁ ?_; rw [hcC]) | wp_step)
  show wpAny _ _ (typeLookup (.ref C) _) _ _ _
  refine i1.at ?_
  refine wpAny_holding (wpAny_bind (b1.at ?_))
  refine wpAny_bind (wpAny_call (codeAny_mono hq fun r s' z => ?_))
  rcases r with e | (v | _ | _ | _) <;> first | exact z | exact z.elim | skip
  obtain ⟨rfl, z⟩ := z
  first
    | exact wpAny_pure (wpAny_pure z)
    | (wp_walk; exact z)
theorem call_ownK (F : ExcBaseFacts B newId initId bmB) (hT : ∀ X : String, bm.contains (.type X) = bmB.contains (.type X)) {rest : List Value} {fI : Addr}
    (hC : h.get? C = some (excClassObj nm q C N bs bm hdct sn sub ab col dd k0 k1 k2 k3 k5 newId))
    (hi : W.Looks (model prog w) h (typeLookup (.ref C) "__init__") (some (.ref fI))) (hb : ∀ self, W.Looks (model prog w) h (bindSpecial (.ref fI) self) (.ref fI, [self])) (hrest : rest.length ≤ sizeLine)
    (hq : codeAny (model prog w) (A.under (.builtin "type.__call__" ⟨.ref C :: rest, kw⟩)) (.call (.ref fI) ⟨.ref (h.objs.size + 1) :: rest, kw⟩) (W.InitBack (h.objs.size + 1) R)
      ⟨(h.push (W.kdv_tup rest)).push (excO C h.objs.size), g, d, t, os⟩) :
    codeAny (model prog w) A (.call (.ref C) ⟨rest, kw⟩) R ⟨h, g, d, t, os⟩ := by
  have f1 := tc_lookup
  have f2 := tc_bind (.ref C)
  have hTy : (⟨h, g, d, t, os⟩ : Shared).TypeIs (.ref C) "type" := ⟨_, hC, rfl⟩
  refine codeAny_of_tree ?_
  show wpAny _ _ (callAny (.ref C) _) _ _ _
  repeat (any_goals (first | assumption | with_reducible refine wpAny_loadPart_at hC ?_ | wp_step))
  refine ⟨rfl, ?_⟩
  refine codeAny_call_builtin_at (Code.quiet_builtin _ (by decide +kernel)) entry_typeCall (wpAny_check_type_call_sub hC (type_call_ownK F hT hC hi hb hrest ?_))
  refine codeAny_mono hq fun r s' z => ?_
  rcases r with e | (v | _ | _ | _) <;> exact z
end
end VXK
end PySem
set_option Elab.async false
set_option linter.all false
set_option maxRecDepth 100000
set_option maxHeartbeats 4000000
/-! VX4: own exceptions by values: made, raised. -/
namespace VL
open PySem PySem.Spec PyProof.Rows L2 NdefX ClX

/-! ### values in another order -/
def pick {α : Type} (p : List Nat) (l : List α) : List α := p.filterMap (l[·]?)
theorem Reps.pick {K : PySem.W.Frag} {mg : Str → Option Value} {G : Hp} {vs : List V} {ds : List D} (r : Reps K mg G vs ds) : ∀ p : List Nat, Reps K mg G (VL.pick p vs) (VL.pick p ds)
  | [] => .nil
  | i :: p => by
    have ih := Reps.pick r p
    unfold VL.pick at ih ⊢
    rw [List.filterMap_cons, List.filterMap_cons]
    cases e : ds[i]? with
    | none =>
      have e2 : vs[i]? = none := by
        rw [List.getElem?_eq_none_iff] at e ⊢
        rw [r.length]; exact e
      rw [e2]
      exact ih
    | some d =>
      obtain ⟨v, h1, h2⟩ := r.get e
      rw [h1]
      exact .cons h2 ih
theorem Vals.pick {vs : List V} {us : List Value} (r : Vals vs us) : ∀ p : List Nat, Vals (VL.pick p vs) (VL.pick p us)
  | [] => .nil
  | i :: p => by
    have ih := Vals.pick r p
    unfold VL.pick at ih ⊢
    rw [List.filterMap_cons, List.filterMap_cons]
    cases e : vs[i]? with
    | none =>
      have e2 : us[i]? = none := by
        rw [List.getElem?_eq_none_iff] at e ⊢
        rw [← r.length]; exact e
      rw [e2]
      exact ih
    | some d =>
      obtain ⟨u, h1, h2⟩ := r.get e
      rw [h1]
      exact .cons h2 ih
theorem Reps.rev {K : PySem.W.Frag} {mg : Str → Option Value} {G : Hp} : ∀ {vs : List V} {ds : List D}, Reps K mg G vs ds → Reps K mg G vs.reverse ds.reverse
  | _, _, .nil => .nil
  | _, _, .cons h r => by
    rw [List.reverse_cons, List.reverse_cons]
    exact (Reps.rev r).append (.cons h .nil)

/-! ### keywords -/
def tK (X : Cx) (kws : List Keyword) : TA := fun σ H Q => ∀ (pos : Pos) (pins : List (Addr × Obj)) (s : Shared), Inv X pins σ H s → wpAny (model X.prog X.w) X.A (evalAll ((backToKw pos (keywordEach kws X.env)).map (·.2))) (AP X pins σ Q) X.xe s
theorem pk_sem {X : Cx} {kws : List Keyword} : PK X kws (tK X kws) := ⟨fun pos pins s _ _ _ I h => h pos pins s I⟩
theorem tK_of {X : Cx} {kws : List Keyword} {t : TA} {σ : L2.St} {H : Hp} {Q : List V → Hp → Prop} (h : PK X kws t) (q : t σ H Q) : tK X kws σ H Q := fun pos pins s I => h.run pos pins s σ H Q I q
theorem tK_mono {X : Cx} {kws : List Keyword} {σ : L2.St} {H : Hp} {Q Q' : List V → Hp → Prop} (h : tK X kws σ H Q) (hq : ∀ v H', Q v H' → Q' v H') : tK X kws σ H Q' := fun pos pins s I => thn (h pos pins s I) fun _ _ ⟨v, H', I', r, q⟩ => ⟨v, H', I', r, hq v H' q⟩
def VKw (X : Cx) (c : Cv) (S : State) (kws : List Keyword) (Q : List D → State → Prop) : Prop := ∀ σ G H, HdX X c S σ G H → tK X kws σ H (pA X c σ G Q)
theorem vk_nil {X : Cx} {c : Cv} {S : State} {Q : List D → State → Prop} (q : Q [] S) : VKw X c S [] Q := fun σ G H h => tK_of pk_nil ⟨[], S, G, h, Same.refl _, .nil, q⟩
theorem vk_cons {X : Cx} {c : Cv} {S : State} {Q : List D → State → Prop} {nm : Option Str} {e : Expr} {kpos : Pos} {kws : List Keyword} (h : VE X c S e fun d S1 => VKw X c S1 kws fun ds S2 => Q (d :: ds) S2) : VKw X c S (⟨nm, e, kpos⟩ :: kws) Q := fun σ G H hd => by
  refine tK_of (pk_cons pe_sem pk_sem) (tE_mono (h σ G H hd) fun v H1 ⟨d, S1, G1, h1, s1, r1, q1⟩ => tK_mono (q1 σ G1 H1 h1) fun vs H2 ⟨ds, S2, G2, h2, s2, r2, q2⟩ => ?_)
  exact ⟨d :: ds, S2, G2, h2, s1.trans s2, .cons (r1.mono s2) r2, q2⟩

/-- an own exception class whose __init__ (the def st) keeps its arguments in the fields fl -/
structure VEx (P : Program) (w : World) (K : PySem.W.Frag) (mg : Str → Option Value) (base : Heap) (k : Nat) (cn : Str) (fl ps : List Str) (st : Stmt) : Prop where
  ex : ∃ (C fI : Addr) (F : NF) (doc pm ctv : Value), mg cn = some (.ref C) ∧ OexC K C ∧ PySem.W.findIn K (.ref C) "__init__" = some (some (.ref fI)) ∧ PySem.W.typeIn K (.ref fI) = some (.type "function") ∧
    F.params = defArgs st ∧ FnOk P w K mg base (L2.CX P w) k fI (F.fd doc pm ctv) ps (spX C fl)
/-- how its arguments bind: n positional ones, keywords named ks -/
def ExB (st : Stmt) (ps : List Str) (n : Nat) (ks : List Str) (p : List Nat) : Prop :=
  ∀ (F : NF) (doc pm ctv a : Value) (us ws : List Value), F.params = defArgs st → us.length = n → ws.length = ks.length → bindArgs (F.fd doc pm ctv) ⟨a :: us, ks.zip ws⟩ = pure (ps.zip (a :: pick p (us ++ ws)))

section
variable {X : Cx} {C fI : Addr} {k : Nat} {fd : FuncData} {ps : List Str} {sp : Sp} {e : Expr} {es : List Expr} {ta : TA} {x : Str} {p pos : Pos} {CX : CXT} {EX : XK} {pins : List (Addr × Obj)} {σ : L2.St} {H : Hp} {s : Shared} {us full : List Value} {kw : List (Str × Value)} {vs : List V}
theorem run_oex {Q : VK} (T : OexC X.K C) (iC : PySem.W.findIn X.K (.ref C) "__init__" = some (some (.ref fI))) (tI : PySem.W.typeIn X.K (.ref fI) = some (.type "function"))
    (F1 : FnOk X.prog X.w X.K X.mg X.base CX k fI fd ps sp) (hr : Room (k + 1) X.A) (hb : ∀ (a : Value) (s : Shared), BindsTo s fd ⟨a :: us, kw⟩ (ps.zip (a :: full))) (hx : PassesAt CX X σ EX) (I : Inv X pins σ H s) (r : Vals vs full) (hz : us.length ≤ 1000)
    (h : ∀ a, H a = none → sp (.ref a :: vs) (upd H a (exo a C none)) (fun v H2 => v = .non ∧ Q (.ref a) H2) EX) : wpAny (model X.prog X.w) X.A (call (.ref C) us kw) (EP X pins σ Q) X.xe s := by
  obtain ⟨nm, q, N, bs, bm, sn, sub, ab, col, dd, k0, k1, k2, k3, k5, hC, hbm⟩ := T.cls
  obtain ⟨hp, g, dr, tk, os⟩ := s
  have hsz : hp.objs.size ≤ hp.objs.size + 1 := Nat.le_succ _
  have hn : H (hp.objs.size + 1) = none := I.hok.fresh hsz
  have hq := h (hp.objs.size + 1) hn
  have kk : ∀ b o, hp.get? b = some o → ((hp.push (PySem.W.kdv_tup us)).push (PySem.HandSPX.excO C hp.objs.size)).get? b = some o := fun b o e => Heap.get?_push_of_some _ (Heap.get?_push_of_some _ e)
  have hget : ((hp.push (PySem.W.kdv_tup us)).push (PySem.HandSPX.excO C hp.objs.size)).get? (hp.objs.size + 1) = some (PySem.HandSPX.excO C hp.objs.size) := by heap_get
  have I2 : Inv X pins σ (upd H (hp.objs.size + 1) (exo (hp.objs.size + 1) C none)) ⟨(hp.push (PySem.W.kdv_tup us)).push (PySem.HandSPX.excO C hp.objs.size), g, dr, tk, os⟩ :=
    I.laid (t' := tk) (a := hp.objs.size + 1) (o := exo (hp.objs.size + 1) C none) (h' := (hp.push (PySem.W.kdv_tup us)).push (PySem.HandSPX.excO C hp.objs.size)) kk hsz (exo_ok hget)
  have r2 : Vals (V.ref (hp.objs.size + 1) :: vs) (Value.ref (hp.objs.size + 1) :: full) := .cons rfl r
  have hus : us.length ≤ sizeLine := by
    rw [sizeLine_eq]
    omega
  refine wpAny_call (PySem.VXK.call_ownK PySem.F.excBase_ValueError (fun Y => PySem.HandSPX.refsVE_contains Y bm hbm) (I.kIn _ _ hC) (PySem.W.looks_findIn I.kIn iC) (fun self => PySem.W.bind_fn I.kIn self tI) hus
    (codeAny_mono (F1.run _ X.stack _ _ ⟨Value.ref (hp.objs.size + 1) :: us, kw⟩ (Value.ref (hp.objs.size + 1) :: full) _ _ EX (hr.make C us kw) (I2.env0.make C us kw) (hb _ _) r2 hq) fun r s' hq' => ?_))
  cases r with
  | error er => exact hx pins _ _ er s' I2 hq'
  | ok fl =>
    cases fl with
    | ret u =>
      obtain ⟨v, H', I3, rv, ev, q3⟩ := I2.after hq'
      subst ev
      exact ⟨rv, ⟨V.ref (hp.objs.size + 1), H', I3, rfl, q3⟩⟩
    | next => exact False.elim hq'
    | brk => exact False.elim hq'
    | cont => exact False.elim hq'
theorem run_mkx {Q : XK} (T : OexC X.K C) (iC : PySem.W.findIn X.K (.ref C) "__init__" = some (some (.ref fI))) (tI : PySem.W.typeIn X.K (.ref fI) = some (.type "function"))
    (F1 : FnOk X.prog X.w X.K X.mg X.base CX k fI fd ps sp) (hr : Room (k + 1) X.A) (hb : ∀ (a : Value) (s : Shared), BindsTo s fd ⟨a :: us, kw⟩ (ps.zip (a :: full))) (hx : PassesAt CX X σ EX) (I : Inv X pins σ H s) (r : Vals vs full) (hz : us.length ≤ 1000)
    (h : ∀ a, H a = none → sp (.ref a :: vs) (upd H a (exo a C none)) (fun v H2 => v = .non ∧ ∃ (d : Addr) (fs : List (Str × V)), H2 a = some (exo a C (some d)) ∧ H2 d = some (exd d fs) ∧ H d = none ∧ Q (.ref C) (some d) (upd (del H2 a) d (.xd fs))) EX) :
    wpAny (model X.prog X.w) X.A (call (.ref C) us kw) (MkP X pins σ Q) X.xe s := by
  obtain ⟨nm, q, N, bs, bm, sn, sub, ab, col, dd, k0, k1, k2, k3, k5, hC, hbm⟩ := T.cls
  obtain ⟨hp, g, dr, tk, os⟩ := s
  have hsz : hp.objs.size ≤ hp.objs.size + 1 := Nat.le_succ _
  have hn : H (hp.objs.size + 1) = none := I.hok.fresh hsz
  have hq := h (hp.objs.size + 1) hn
  have kk : ∀ b o, hp.get? b = some o → ((hp.push (PySem.W.kdv_tup us)).push (PySem.HandSPX.excO C hp.objs.size)).get? b = some o := fun b o e => Heap.get?_push_of_some _ (Heap.get?_push_of_some _ e)
  have hget : ((hp.push (PySem.W.kdv_tup us)).push (PySem.HandSPX.excO C hp.objs.size)).get? (hp.objs.size + 1) = some (PySem.HandSPX.excO C hp.objs.size) := by heap_get
  have I2 : Inv X pins σ (upd H (hp.objs.size + 1) (exo (hp.objs.size + 1) C none)) ⟨(hp.push (PySem.W.kdv_tup us)).push (PySem.HandSPX.excO C hp.objs.size), g, dr, tk, os⟩ :=
    I.laid (t' := tk) (a := hp.objs.size + 1) (o := exo (hp.objs.size + 1) C none) (h' := (hp.push (PySem.W.kdv_tup us)).push (PySem.HandSPX.excO C hp.objs.size)) kk hsz (exo_ok hget)
  have r2 : Vals (V.ref (hp.objs.size + 1) :: vs) (Value.ref (hp.objs.size + 1) :: full) := .cons rfl r
  have hus : us.length ≤ sizeLine := by
    rw [sizeLine_eq]
    omega
  refine wpAny_call (PySem.VXK.call_ownK PySem.F.excBase_ValueError (fun Y => PySem.HandSPX.refsVE_contains Y bm hbm) (I.kIn _ _ hC) (PySem.W.looks_findIn I.kIn iC) (fun self => PySem.W.bind_fn I.kIn self tI) hus
    (codeAny_mono (F1.run _ X.stack _ _ ⟨Value.ref (hp.objs.size + 1) :: us, kw⟩ (Value.ref (hp.objs.size + 1) :: full) _ _ EX (hr.make C us kw) (I2.env0.make C us kw) (hb _ _) r2 hq) fun r s' hq' => ?_))
  cases r with
  | error er => exact hx pins _ _ er s' I2 hq'
  | ok fl =>
    cases fl with
    | ret u =>
      obtain ⟨v, H2, os2, bare2, un2, hok2, rv, ev, d, fs, ea, ed, hd1, q2⟩ := hq'
      subst ev
      obtain ⟨h2, g2, d2, t2, os'⟩ := s'
      exact ⟨rv, mk_end (raises_own T.exC T.tyC) I hsz kk un2 hok2 os2 bare2 ea ed hd1 q2⟩
    | next => exact False.elim hq'
    | brk => exact False.elim hq'
    | cont => exact False.elim hq'
end
theorem fst_zip_rev (fl : List Str) (vs : List V) (h : vs.length = fl.length) : ((fl.zip vs).reverse.map (·.1)) = fl.reverse := by
  rw [List.map_reverse, List.map_fst_zip (by omega)]
theorem snd_zip_rev (fl : List Str) (vs : List V) (h : vs.length = fl.length) : ((fl.zip vs).reverse.map (·.2)) = vs.reverse := by
  rw [List.map_reverse, List.map_snd_zip (by omega)]
theorem upd_over {H : Hp} {a dx : Addr} {o1 o2 o3 : HO} : upd (upd (upd H a o1) dx o2) a o3 = upd (upd H dx o2) a o3 := by
  funext b
  by_cases h1 : b = a
  · subst h1; rw [upd_same, upd_same]
  · rw [upd_ne h1, upd_ne h1]
    by_cases h2 : b = dx
    · subst h2; rw [upd_same, upd_same]
    · rw [upd_ne h2, upd_ne h2, upd_ne h1]
theorem del_over {H : Hp} {a dx : Addr} {o1 o2 o3 o4 : HO} (ha : H a = none) (hne : dx ≠ a) : upd (del (upd (upd (upd H a o1) dx o2) a o3) a) dx o4 = upd H dx o4 := by
  funext b
  by_cases h2 : b = dx
  · subst h2; rw [upd_same, upd_same]
  · rw [upd_ne h2, upd_ne h2]
    by_cases h1 : b = a
    · subst h1; rw [del_same, ha]
    · rw [del_ne h1, upd_ne h1, upd_ne h2, upd_ne h1]
section
variable {X : Cx} {c : Cv} {S : State} {σ : L2.St} {G H : Hp} {a dx C : Addr} {cn : Str} {fl : List Str} {vs : List V} {ds : List D} {Q : D → State → Prop}
theorem exn_new (h : HdX X c S σ G H) (hC : X.mg cn = some (.ref C)) (r : Reps X.K X.mg G vs ds) (hl : ds.length = fl.length) (ha : H a = none) (hdx : upd H a (exo a C none) dx = none) (hne : dx ≠ a) (q : Q (.exn cn fl.reverse ds.reverse) S) :
    pE X c σ G Q (.ref a) (upd (upd (upd H a (exo a C none)) dx (exd dx (fl.zip vs).reverse)) a (exo a C (some dx))) := by
  rw [upd_over]
  rw [upd_ne hne] at hdx
  have h1 := h.after (h.alloc (o := exd dx (fl.zip vs).reverse) hdx)
  have ha1 : upd H dx (exd dx (fl.zip vs).reverse) a = none := by rw [upd_ne (Ne.symm hne)]; exact ha
  have h2 := h1.after (h1.alloc (o := exo a C (some dx)) ha1)
  have s1 : Same G (upd G dx (exd dx (fl.zip vs).reverse)) := same_upd (h.sub.free hdx)
  have s2 : Same (upd G dx (exd dx (fl.zip vs).reverse)) (upd (upd G dx (exd dx (fl.zip vs).reverse)) a (exo a C (some dx))) := same_upd (h1.sub.free ha1)
  have hl' : vs.length = fl.length := by rw [r.length]; exact hl
  refine ⟨_, S, _, h2, s1.trans s2, .exn (fs := (fl.zip vs).reverse) hC upd_same (by rw [upd_ne hne, upd_same]) (fst_zip_rev fl vs hl') ?_, q⟩
  rw [snd_zip_rev fl vs hl']
  exact (r.rev).mono (s1.trans s2)
theorem exn_raise {x : ExD} (h : HdX X c S σ G H) (hC : X.mg cn = some (.ref C)) (r : Reps X.K X.mg G vs ds) (hl : ds.length = fl.length) (ha : H a = none) (hdx : upd H a (exo a C none) dx = none) (hne : dx ≠ a) (q : c.EV ⟨cn, fl.reverse, ds.reverse⟩ S) :
    WV X c (.ref C) (some dx) σ (upd (del (upd (upd (upd H a (exo a C none)) dx (exd dx (fl.zip vs).reverse)) a (exo a C (some dx))) a) dx (.xd (fl.zip vs).reverse)) := by
  rw [del_over ha hne]
  rw [upd_ne hne] at hdx
  have h1 := h.after (h.alloc (o := .xd (fl.zip vs).reverse) hdx)
  have s1 : Same G (upd G dx (.xd (fl.zip vs).reverse)) := same_upd (h.sub.free hdx)
  have hl' : vs.length = fl.length := by rw [r.length]; exact hl
  refine ⟨S, _, ⟨cn, fl.reverse, ds.reverse⟩, h1, ⟨C, hC, rfl, .inr ⟨dx, (fl.zip vs).reverse, rfl, upd_same, fst_zip_rev fl vs hl', ?_⟩⟩, q⟩
  rw [snd_zip_rev fl vs hl']
  exact (r.rev).mono s1
end
section
variable {X : Cx} {c : Cv} {S : State} {e a b : Expr} {es : List Expr} {kws : List Keyword} {pos pos2 p : Pos} {Q : D → State → Prop} {E : VD} {k : Nat} {cn : Str} {fl ps ks : List Str} {st : Stmt} {pk : List Nat}
theorem takesF (tk : Takes X (WV X c)) : Takes X (fun _ _ _ _ => False) := tk.imp fun _ _ _ _ z => z.elim
/-- C(e, .., k = v, ..) as a value -/
theorem ve_exnK (F : VEx X.prog X.w X.K X.mg X.base k cn fl ps st) (B : ExB st ps (es.length + 1) ks pk) (hr : Room (k + 1) X.A) (tk : Takes X (WV X c)) (hz : es.length < 1000)
    (h : VA X c S (e :: es) fun ds S1 => VKw X c S1 kws fun zs S2 => ds.length = es.length + 1 ∧ zs.length = ks.length ∧ (pick pk (ds ++ zs)).length = fl.length ∧ Q (.exn cn fl.reverse (pick pk (ds ++ zs)).reverse) S2) (hg : Gl X cn := by rfl)
    (hall : (backToKw pos (keywordEach kws X.env)).all (·.1.isSome) = true := by rfl) (hks : (backToKw pos (keywordEach kws X.env)).filterMap (·.1) = ks := by rfl)
    (hdb : (cn == ("__debug__" : Str)) = false := by decide) (he : starEach (e :: es) X.env = (false, eval e X.env) :: starEach es X.env := by rfl)
    (hpl : ((backTo pos (starEach (e :: es) X.env)).any (·.1) || (backToKw pos (keywordEach kws X.env)).any (·.1.isNone)) = false := by rfl) :
    VE X c S (.Call (.Name cn p) (e :: es) kws pos) Q := fun σ G H hd => by
  obtain ⟨C, fI, NFs, doc, pm, ctv, hC, T, iC, tI, hpar, ok⟩ := F.ex
  intro pins s I
  refine wpAny_Call_Name_kw (ld_glob I hg hC ?_ hdb)
  refine PySem.W.callWith_KW (h₀ := X.base) I.ok.mod.kin T.kC hall (thn (h σ G H hd pos pins s I) fun us s1 ⟨vs, H1, I1, r, ds, S1, G1, h1, s2, r1, q1⟩ => ?_) hpl he
  refine thn (q1 σ G1 H1 h1 pos pins s1 I1) fun ws s3 ⟨zs, H2, I2, rz, dz, S2, G2, h2, s4, r2, l1, l2, l3, q2⟩ => ⟨I2.kIn, ?_⟩
  rw [hks]
  have rr := (r1.mono s4).append r2
  have lu : us.length = es.length + 1 := by rw [← r.length, r1.length]; exact l1
  have lw : ws.length = ks.length := by rw [← rz.length, r2.length]; exact l2
  refine run_oex (full := pick pk (us ++ ws)) (vs := pick pk (vs ++ zs)) T iC tI ok hr (fun a s => .of_eq (B NFs doc pm ctv a us ws hpar lu lw)) (passAt (takesF tk) σ) I2 (Vals.pick (r.append rz) pk) (by show us.length ≤ 1000; omega) fun a ha => ?_
  refine ⟨a, _, rfl, by rw [(rr.pick pk).length]; exact l3, upd_same, fun dx hdx hne => ⟨rfl, ?_⟩⟩
  exact pE_back (s2.trans s4) (exn_new h2 hC (rr.pick pk) l3 ha hdx hne q2)
theorem ve_exnK0 (F : VEx X.prog X.w X.K X.mg X.base k cn fl ps st) (B : ExB st ps 0 ks pk) (hr : Room (k + 1) X.A) (tk : Takes X (WV X c))
    (h : VKw X c S kws fun zs S2 => zs.length = ks.length ∧ (pick pk zs).length = fl.length ∧ Q (.exn cn fl.reverse (pick pk zs).reverse) S2) (hg : Gl X cn := by rfl)
    (hall : (backToKw pos (keywordEach kws X.env)).all (·.1.isSome) = true := by rfl) (hks : (backToKw pos (keywordEach kws X.env)).filterMap (·.1) = ks := by rfl)
    (hdb : (cn == ("__debug__" : Str)) = false := by decide)
    (hpl : ((backTo pos (starEach [] X.env)).any (·.1) || (backToKw pos (keywordEach kws X.env)).any (·.1.isNone)) = false := by rfl) :
    VE X c S (.Call (.Name cn p) [] kws pos) Q := fun σ G H hd => by
  obtain ⟨C, fI, NFs, doc, pm, ctv, hC, T, iC, tI, hpar, ok⟩ := F.ex
  intro pins s I
  refine wpAny_Call_Name_kw (ld_glob I hg hC ?_ hdb)
  refine PySem.W.callWith_KW0 (h₀ := X.base) I.ok.mod.kin T.kC hall ?_ hpl
  refine thn (h σ G H hd pos pins s I) fun ws s3 ⟨zs, H2, I2, rz, dz, S2, G2, h2, s4, r2, l2, l3, q2⟩ => ⟨I2.kIn, ?_⟩
  rw [hks]
  have lw : ws.length = ks.length := by rw [← rz.length, r2.length]; exact l2
  refine run_oex (us := []) (full := pick pk ws) (vs := pick pk zs) T iC tI ok hr (fun a s => .of_eq (B NFs doc pm ctv a [] ws hpar rfl lw)) (passAt (takesF tk) σ) I2 (Vals.pick rz pk) (by simp) fun a ha => ?_
  refine ⟨a, _, rfl, by rw [(r2.pick pk).length]; exact l3, upd_same, fun dx hdx hne => ⟨rfl, ?_⟩⟩
  exact pE_back s4 (exn_new h2 hC (r2.pick pk) l3 ha hdx hne q2)
/-- raise C(e, ..) -/
theorem vs_raise (F : VEx X.prog X.w X.K X.mg X.base k cn fl ps st) (B : ExB st ps (es.length + 1) [] pk) (hr : Room (k + 1) X.A) (tk : Takes X (WV X c)) (hc : X.calm = true) (hz : es.length < 1000)
    (h : VA X c S (e :: es) fun ds S1 => ds.length = es.length + 1 ∧ (pick pk ds).length = fl.length ∧ c.EV ⟨cn, fl.reverse, (pick pk ds).reverse⟩ S1) (hg : Gl X cn := by rfl)
    (hdb : (cn == ("__debug__" : Str)) = false := by decide) (he : starEach (e :: es) X.env = (false, eval e X.env) :: starEach es X.env := by rfl) (hpl : (backTo pos (starEach es X.env)).any (·.1) = false := by rfl) :
    VS X c S (.Raise (some (.Call (.Name cn p) (e :: es) [] pos)) none pos2) E := fun σ G H hd => by
  obtain ⟨C, fI, NFs, doc, pm, ctv, hC, T, iC, tI, hpar, ok⟩ := F.ex
  refine tS_of (ps_raise (t := fun σ H Q => tA X (e :: es) σ H fun vs H1 => ∃ (ds : List D) (S1 : State) (G1 : Hp), HdX X c S1 σ G1 H1 ∧ Reps X.K X.mg G1 vs ds ∧ ds.length = es.length + 1 ∧ (pick pk ds).length = fl.length ∧ ∀ a dx, H1 a = none → upd H1 a (exo a C none) dx = none → dx ≠ a →
      Q (.ref C) (some dx) (upd (del (upd (upd (upd H1 a (exo a C none)) dx (exd dx (fl.zip (pick pk vs)).reverse)) a (exo a C (some dx))) a) dx (.xd (fl.zip (pick pk vs)).reverse))) hc tk ?_) ?_
  · intro pins s σ H Q I hh
    refine wpAny_Call_Name_kw (ld_glob I hg hC ?_ hdb)
    refine PySem.W.callWith_K (h₀ := X.base) I.ok.mod.kin T.kC (thn (hh pos pins s I) fun us s1 ⟨vs, H1, I1, r, ds, S1, G1, h1, r1, l1, l3, q1⟩ => ⟨I1.kIn, ?_⟩) he hpl
    have lu : us.length = es.length + 1 := by rw [← r.length, r1.length]; exact l1
    refine run_mkx (us := us) (kw := []) (full := pick pk us) (vs := pick pk vs) T iC tI ok hr (fun a s => ?_) (passAt (takesF tk) σ) I1 (Vals.pick r pk) (by omega) fun a ha => ?_
    · have q := B NFs doc pm ctv a us [] hpar lu rfl
      rw [List.append_nil] at q
      exact .of_eq q
    · refine ⟨a, _, rfl, by rw [(r1.pick pk).length]; exact l3, upd_same, fun dx hdx hne => ⟨rfl, dx, _, upd_same, ?_, ?_, q1 a dx ha hdx hne⟩⟩
      · rw [upd_ne hne, upd_same]
      · rw [upd_ne hne] at hdx; exact hdx
  · exact tA_mono (h σ G H hd) fun vs H1 ⟨ds, S1, G1, h1, s1, r1, l1, l3, q⟩ => ⟨ds, S1, G1, h1, r1, l1, l3, fun a dx ha hdx hne => exn_raise (x := ⟨cn, [], []⟩) h1 hC (r1.pick pk) l3 ha hdx hne q⟩
theorem vs_raiseK0 (F : VEx X.prog X.w X.K X.mg X.base k cn fl ps st) (B : ExB st ps 0 ks pk) (hr : Room (k + 1) X.A) (tk : Takes X (WV X c)) (hc : X.calm = true)
    (h : VKw X c S kws fun ds S1 => ds.length = ks.length ∧ (pick pk ds).length = fl.length ∧ c.EV ⟨cn, fl.reverse, (pick pk ds).reverse⟩ S1) (hg : Gl X cn := by rfl)
    (hall : (backToKw pos (keywordEach kws X.env)).all (·.1.isSome) = true := by rfl) (hks : (backToKw pos (keywordEach kws X.env)).filterMap (·.1) = ks := by rfl)
    (hdb : (cn == ("__debug__" : Str)) = false := by decide)
    (hpl : ((backTo pos (starEach [] X.env)).any (·.1) || (backToKw pos (keywordEach kws X.env)).any (·.1.isNone)) = false := by rfl) :
    VS X c S (.Raise (some (.Call (.Name cn p) [] kws pos)) none pos2) E := fun σ G H hd => by
  obtain ⟨C, fI, NFs, doc, pm, ctv, hC, T, iC, tI, hpar, ok⟩ := F.ex
  refine tS_of (ps_raise (t := fun σ H Q => tK X kws σ H fun vs H1 => ∃ (ds : List D) (S1 : State) (G1 : Hp), HdX X c S1 σ G1 H1 ∧ Reps X.K X.mg G1 vs ds ∧ ds.length = ks.length ∧ (pick pk ds).length = fl.length ∧ ∀ a dx, H1 a = none → upd H1 a (exo a C none) dx = none → dx ≠ a →
      Q (.ref C) (some dx) (upd (del (upd (upd (upd H1 a (exo a C none)) dx (exd dx (fl.zip (pick pk vs)).reverse)) a (exo a C (some dx))) a) dx (.xd (fl.zip (pick pk vs)).reverse))) hc tk ?_) ?_
  · intro pins s σ H Q I hh
    refine wpAny_Call_Name_kw (ld_glob I hg hC ?_ hdb)
    refine PySem.W.callWith_KW0 (h₀ := X.base) I.ok.mod.kin T.kC hall ?_ hpl
    refine thn (hh pos pins s I) fun us s1 ⟨vs, H1, I1, r, ds, S1, G1, h1, r1, l1, l3, q1⟩ => ⟨I1.kIn, ?_⟩
    rw [hks]
    have lu : us.length = ks.length := by rw [← r.length, r1.length]; exact l1
    refine run_mkx (us := []) (full := pick pk us) (vs := pick pk vs) T iC tI ok hr (fun a s => .of_eq (B NFs doc pm ctv a [] us hpar rfl lu)) (passAt (takesF tk) σ) I1 (Vals.pick r pk) (by simp) fun a ha => ?_
    · refine ⟨a, _, rfl, by rw [(r1.pick pk).length]; exact l3, upd_same, fun dx hdx hne => ⟨rfl, dx, _, upd_same, ?_, ?_, q1 a dx ha hdx hne⟩⟩
      · rw [upd_ne hne, upd_same]
      · rw [upd_ne hne] at hdx; exact hdx
  · exact tK_mono (h σ G H hd) fun vs H1 ⟨ds, S1, G1, h1, s1, r1, l1, l3, q⟩ => ⟨ds, S1, G1, h1, r1, l1, l3, fun a dx ha hdx hne => exn_raise (x := ⟨cn, [], []⟩) h1 hC (r1.pick pk) l3 ha hdx hne q⟩
/-- C(), C without own __init__ -/
theorem ve_ex0 (F : VEx0 X.K X.mg cn) (q : Q (.exn cn [] []) S) (hg : Gl X cn := by rfl) (hdb : (cn == ("__debug__" : Str)) = false := by decide) : VE X c S (.Call (.Name cn p) [] [] pos) Q := fun σ G H hd => by
  obtain ⟨C, hC, hin, kC, h1, h2⟩ := F.ex
  exact tE_of (pe_ex0 hin hC kC hg hdb) fun a ha => pE_new hd ha (.exn0 hC upd_same) q
theorem vs_raise0 (F : VEx0 X.K X.mg cn) (tk : Takes X (WV X c)) (hc : X.calm = true) (q : c.EV ⟨cn, [], []⟩ S) (hg : Gl X cn := by rfl) (hdb : (cn == ("__debug__" : Str)) = false := by decide) : VS X c S (.Raise (some (.Call (.Name cn p) [] [] pos)) none pos2) E := fun σ G H hd => by
  obtain ⟨C, hC, hin, kC, h1, h2⟩ := F.ex
  exact tS_of (ps_raise hc tk (pmk_ex0 hin hC kC (raises_own h1 h2) hg hdb)) ⟨S, G, ⟨cn, [], []⟩, hd, ⟨C, hC, rfl, .inl ⟨rfl, rfl⟩⟩, q⟩
end
end VL
set_option Elab.async false
set_option linter.all false
set_option maxRecDepth 100000
set_option maxHeartbeats 4000000
/-! VX5: an exception's fields, isinstance, try .. except .. as .. -/
namespace VL
open PySem PySem.Spec PyProof.Rows L2 NdefX ClX

section
variable {X : Cx} {e : Expr} {te : TE} {pos : Pos} {n : Str}
/-- e.n, e an exception object that is a value -/
theorem pe_xv (hb : attributeBase e n X.env (eval e X.env) = eval e X.env) (he : PE X e te) :
    PE X (.Attribute e n pos) (fun σ H Q => te σ H fun x H1 => ∃ (a C dx : Addr) (fs : List (Str × V)) (v : V), x = .ref a ∧ XfC X.K C ∧ PySem.W.findIn X.K (.ref C) n = some none ∧ H1 a = some (exo a C (some dx)) ∧ H1 dx = some (exd dx fs) ∧ fs.lookup n = some v ∧ Q v H1) := by
  refine ⟨fun pins s σ H Q I h => ?_⟩
  refine attr_of hb (thn (he.run pins s σ H _ I h) fun u s1 hh => ?_)
  obtain ⟨x, H1, I1, rx, a, C, dx, fs, v, ex, T, hno, ea, ed, l, q⟩ := hh
  subst ex
  obtain rfl : u = Value.ref a := rx
  obtain ⟨t1, ho⟩ := exo_at I1.hok ea
  obtain ⟨mA, hns, hr⟩ := exd_at I1.hok ed
  obtain ⟨od, hod, hl⟩ := lookIn_ns hns
  obtain ⟨u, hu, ru⟩ := RelO.some_of (v := v) (o := mA n) (by rw [← l]; exact hr n)
  have J : PySem.W.InstAt s1.heap a { cls := .ref C, dict := some dx, data := .fields #[.ref t1, .none, .none, .none, .bool false, .none] } C (some od) := ⟨ho, rfl, rfl, hod⟩
  exact HandSPX.exc_get I1.kIn J T.ga T.gg T.exC (PySem.W.findObj_own T.hdC hno rfl (by rw [hl, hu])) (handed_of ru) ⟨v, H1, I1.tok _, ru, q⟩
end
section
variable {X : Cx} {c : Cv} {S : State} {e a b : Expr} {es : List Expr} {pos pos2 p : Pos} {Q : D → State → Prop} {E : VD} {k : Nat} {cn f : Str}
theorem ve_xfld (h : VE X c S e fun d S1 => ∃ cn ks ds v, d = .exn cn ks ds ∧ ks ≠ [] ∧ XfF X.K X.mg cn f ∧ fget ks ds f = some v ∧ Q v S1) (hb : attributeBase e f X.env (eval e X.env) = eval e X.env := by rfl) : VE X c S (.Attribute e f pos) Q := fun σ G H hd => by
  refine tE_of (pe_xv hb pe_sem) (tE_mono (h σ G H hd) fun v H1 ⟨d, S1, G1, h1, s1, r, cn, ks, ds, w, ed, hk, xf, fg, q⟩ => ?_)
  subst ed
  cases r with
  | exn0 _ _ => exact absurd rfl hk
  | @exn a C dx fs _ _ _ m1 m2 m3 m4 m5 =>
    obtain ⟨u, l1, l2⟩ := fget_rep m4 m5 fg
    exact ⟨a, C, dx, fs, u, rfl, (xf C m1).1, (xf C m1).2, h1.sub _ _ m2, h1.sub _ _ m3, l1, pE_back s1 (pE_ret h1 l2 q)⟩
/-- e.f in an except suite, e the caught one -/
theorem ve_cau {ad dx C : Addr} {oe : Obj} {pn : List (Addr × Obj)} (xf : XfF X.K X.mg cn f) (hC : X.mg cn = some (.ref C)) (hz : Zc (.ref C) (some dx) oe) (hf : ∃ vs, oe.data = .fields vs)
    (h : VE (X.suite ad ((ad, oe) :: pn)) c S e fun d S1 => ∃ ks ds v, d = .cau ad dx cn ks ds ∧ fget ks ds f = some v ∧ Q v S1) (hb : attributeBase e f X.env (eval e X.env) = eval e X.env := by rfl) : VE (X.suite ad ((ad, oe) :: pn)) c S (.Attribute e f pos) Q := fun σ G H hd => by
  refine tE_of (pe_xf (C := C) (cls := .ref C) (d := some dx) (xf C hC).1 (xf C hC).2 hz hf pe_sem hb) (tE_mono (h σ G H hd) fun v H1 ⟨d, S1, G1, h1, s1, r, ks, ds, w, ed, fg, q⟩ => ?_)
  subst ed
  cases r with
  | @cau _ _ fs _ _ _ m1 m2 m3 =>
    obtain ⟨u, l1, l2⟩ := fget_rep m2 m3 fg
    exact ⟨rfl, rfl, dx, fs, u, rfl, h1.sub _ _ m1, l1, pE_back s1 (pE_ret h1 l2 q)⟩

/-! ### isinstance -/
/-- a class's name as a value -/
theorem ve_cref {x : Str} (q : Q (.cref x) S) (hm : ∃ C : Addr, X.mg x = some (.ref C)) (hg : Gl X x := by rfl) (hd : (x == ("__debug__" : Str)) = false := by decide) : VE X c S (.Name x pos) Q := fun σ G H h => by
  obtain ⟨C, hC⟩ := hm
  exact tE_of (pe_glob (v := .ref C) hg hC rfl hd) (pE_ret h (.cref hC) q)
theorem ve_ty {x : Str} {T : String} (q : Q (.ty T) S) (hm : X.mg x = none) (hv : bootBuiltins x = some (.type T)) (hg : Gl X x := by rfl) (hn : x ≠ "__name__" := by decide) (hd : (x == ("__debug__" : Str)) = false := by decide) : VE X c S (.Name x pos) Q := fun σ G H h =>
  tE_of (pe_bltn (v := .ty T) hg hm hv rfl hn hd) (pE_ret h .ty q)
/-- the class of a value -/
def TyV (mg : Str → Option Value) (d : D) (t : Value) : Prop := (∃ T, tyD d = some T ∧ t = .type T) ∨ (∃ cn ks ds, (d = .ins cn ks ds ∨ d = .exn cn ks ds) ∧ mg cn = some t)
def ClV (mg : Str → Option Value) (d : D) (t : Value) : Prop := (∃ T, d = .ty T ∧ t = .type T) ∨ ∃ x C, d = .cref x ∧ t = .ref C ∧ mg x = some (.ref C)
/-- an own class whose instances isinstance may be asked of -/
structure InsC (K : PySem.W.Frag) (C : Addr) : Prop where
  cl : Cls K C
  ha : PySem.W.findIn K (.ref C) "__class__" = some (some (.builtin "object.__class__"))
  hn : PySem.W.specialIn K (.builtin "object.__class__") "__get__" = some (some (.builtin "getset_descriptor.__get__"))
  htk : PySem.W.takesIn K (.builtin "object.__class__") = some true
  hm : PySem.W.mroIn K C (.type "object") = some true
def InsF (K : PySem.W.Frag) (mg : Str → Option Value) (d : D) : Prop := match d with
  | .ins cn _ _ => ∀ C, mg cn = some (.ref C) → InsC K C
  | .exn cn _ _ => ∀ C, mg cn = some (.ref C) → ExcC K C
  | _ => True
theorem kit_d {pins : List (Addr × Obj)} {s : Shared} {σ : L2.St} {G H : Hp} {v : V} {u t : Value} {d : D} (I : Inv X pins σ H s) (hs : Same G H) (r : RepX X G v d) (ru : RelV v u) (ht : TyV X.mg d t) (hi : InsF X.K X.mg d) : ∃ P : Heap → Prop, PySem.W.KitX X.K u t P ∧ P s.heap ∧ u ≠ .builtin "__main__.__loader__#opaque" := by
  rcases ht with ⟨T, h1, rfl⟩ | ⟨cn, ks, ds, hd, h1⟩
  · cases r with
    | non => cases h1; exact kit_of I ru (.base .non)
    | bl => cases h1; exact kit_of I ru (.base (.bl _))
    | int => cases h1; exact kit_of I ru (.base (.int _))
    | str => cases h1; exact kit_of I ru (.base (.str _))
    | lst e _ _ => cases h1; exact kit_of I ru (.base (.lst (hs _ _ e)))
    | tup e _ _ => cases h1; exact kit_of I ru (.base (.tup (hs _ _ e)))
    | dct e _ _ => cases h1; exact kit_of I ru (.base (.dK (hs _ _ e)))
    | ins _ _ _ _ => cases h1
    | adr => cases h1
    | ty => cases h1
    | cref _ => cases h1
    | scr _ _ => cases h1
    | exn0 _ _ => cases h1
    | exn _ _ _ _ _ => cases h1
    | cau _ _ _ => cases h1
    | lam _ _ _ => cases h1
    | clo _ _ _ _ _ _ => cases h1
    | idn _ => cases h1
  · rcases hd with rfl | rfl
    · cases r with
      | @ins a C dx fs _ _ _ m1 m2 m3 m4 =>
        rw [m1] at h1
        cases h1
        have q := hi C m1
        exact kit_of I ru (.base (.ins (hs _ _ m2) q.cl q.ha q.hn q.htk q.hm))
    · cases r with
      | @exn0 a C _ m1 m2 =>
        rw [m1] at h1
        cases h1
        cases ru
        obtain ⟨t1, ho⟩ := exo_at I.hok (hs _ _ m2)
        have q := hi C m1
        exact ⟨_, PySem.W.vx_kit q.hg q.hk q.hs q.hd q.ha q.hn q.ht q.hm (od := none), ⟨ho, rfl, rfl, trivial⟩, fun z => nomatch z⟩
      | @exn a C dx fs _ _ _ m1 m2 m3 m4 m5 =>
        rw [m1] at h1
        cases h1
        cases ru
        obtain ⟨t1, ho⟩ := exo_at I.hok (hs _ _ m2)
        obtain ⟨mA, hns, hr⟩ := exd_at I.hok (hs _ _ m3)
        obtain ⟨od, hod, hl⟩ := lookIn_ns hns
        have q := hi C m1
        exact ⟨_, PySem.W.vx_kit q.hg q.hk q.hs q.hd q.ha q.hn q.ht q.hm (od := some od), ⟨ho, rfl, rfl, hod⟩, fun z => nomatch z⟩
/-- isinstance(x, C) is r -/
def IsA (K : PySem.W.Frag) (mg : Str → Option Value) (x y : D) (r : Bool) : Prop := (∃ t, TyV mg x t) ∧ (∃ u, ClV mg y u) ∧ InsF K mg x ∧ ∀ t u, TyV mg x t → ClV mg y u → PySem.W.kitOne K t u = some r
def rIsD (K : PySem.W.Frag) (mg : Str → Option Value) : List V → Hp → VK → Prop := fun xs H Q => ∃ (G : Hp) (x y : V) (dx dy : D) (r : Bool), xs = [x, y] ∧ Same G H ∧ Rep K mg G x dx ∧ Rep K mg G y dy ∧ IsA K mg dx dy r ∧ Q (.bl r) H
theorem call_isD : CallR X (.builtin "isinstance") (rIsD X.K X.mg) := by
  intro pins s σ H xs us Q I r h
  obtain ⟨G, x, y, dx, dy, b, rfl, hs, rx, ry, ⟨⟨t, ht⟩, ⟨u, hu⟩, hi, hk⟩, q⟩ := h
  obtain ⟨u1, u2, rfl, r1, r2⟩ := vals2 r
  obtain ⟨P, Z, p, hx⟩ := kit_d I hs rx r1 ht hi
  have e2 : u2 = u := by
    rcases hu with ⟨T, rfl, rfl⟩ | ⟨n, C, rfl, rfl, hC⟩
    · cases ry; exact r2
    · cases ry with
      | cref h => rw [hC] at h; cases h; exact r2
  subst e2
  exact PySem.W.kia_one Z I.kIn p (hk _ _ ht hu) hx fun tk => ⟨.bl b, H, I.tok tk, rfl, q⟩
theorem ve_isinst {p2 : Pos} (hm : X.mg "isinstance" = none) (h : VA X c S [a, b] fun ds S1 => ∃ x y r, ds = [x, y] ∧ IsA X.K X.mg x y r ∧ Q (.bl r) S1) (hg : Gl X "isinstance" := by rfl) (he : starEach [a, b] X.env = (false, eval a X.env) :: starEach [b] X.env := by rfl) (hpl : (backTo pos (starEach [b] X.env)).any (·.1) = false := by rfl) : VE X c S (.Call (.Name "isinstance" p2) [a, b] [] pos) Q := fun σ G H hd => by
  refine tE_of (pe_callB call_isD hg hm (by decide +kernel) pa_sem (by decide) (by decide) he hpl) (tA_mono (h σ G H hd) fun vs H1 ⟨ds, S1, G1, h1, s1, r1, x, y, r, e, hk, q⟩ => ?_)
  subst e
  obtain ⟨v1, v2, rfl, rv1, rv2⟩ := reps2 r1
  exact ⟨G1, v1, v2, x, y, r, rfl, h1.sub, rv1, rv2, hk, pE_back s1 (pE_ret h1 .bl q)⟩

/-! ### try .. except C as n -/
/-- the same state told from a later frozen part -/
theorem Hd.reG0 {K : PySem.W.Frag} {mg : Str → Option Value} {σ : L2.St} {G H : Hp} (h : Hd K mg c S σ G H) (EV : ExD → State → Prop) : Hd K mg { c with G0 := G, EV := EV } S σ G H :=
  ⟨h.sub, h.len, h.slots, h.dist, h.pen, h.padr, Same.refl _, fun _ _ q => .inl q, h.keep0, h.fresh, h.tbl0, h.tabs⟩
theorem Hd.unG0 {K : PySem.W.Frag} {mg : Str → Option Value} {σ σ' : L2.St} {G H G' H' : Hp} {S' : State} {EV : ExD → State → Prop} (h : Hd K mg c S σ G H) (h' : Hd K mg { c with G0 := G, EV := EV } S' σ' G' H') : Hd K mg c S' σ' G' H' :=
  ⟨h'.sub, h'.len, h'.slots, h'.dist, h'.pen, h'.padr, h.ext0.trans h'.ext0, fun a o q => (h'.new0 a o q).elim (fun z => h.new0 a o z) .inr, h'.keep0, h'.fresh, h'.tbl0, h'.tabs⟩
/-- the caught exception as a value -/
def cauD (a : Addr) (d : Option Addr) (x : ExD) : D := match d with
  | some dd => if x.ks = [] then .adr a else .cau a dd x.c x.ks x.ds
  | none => .adr a
def VD.un (E : VD) (i : Nat) : VD := ⟨fun S => E.nx (S.put i .un), E.rt, fun S => E.bk (S.put i .un), fun S => E.ct (S.put i .un)⟩
theorem ends_un {i : Nat} {G : Hp} {σ' : L2.St} {H' : Hp} {P : State → Prop} (h : ∃ S' G', HdX X c S' σ' G' H' ∧ Same G G' ∧ P (S'.put i .un)) : ∃ S' G', HdX X c S' (σ'.set i none) G' H' ∧ Same G G' ∧ P S' := by
  obtain ⟨S', G', h1, s1, q⟩ := h
  exact ⟨_, G', h1.set (sl := .un) (o := none) trivial rfl, s1, q⟩
theorem vs_tryAs (i : Nat) {x n : Str} {cv : Value} {body suite : List Stmt} {b0 : Stmt} {np pos' : Pos} (hs : X.stack = X.env :: X.outer) (hf : X.env.frame = some X.env.locals) (hN : X.N.Nodup) (hc : Names X x cv) (tk : Takes X (WV X c)) (EVt : ExD → State → Prop)
    (hb : ∀ (pn : List (Addr × Obj)) (xe : Value → Shared → Prop) (G0 : Hp), Takes (X.tr pn xe) (WV (X.tr pn xe) { c with G0 := G0, EV := EVt }) → VSs (X.tr pn xe) { c with G0 := G0, EV := EVt } S body E)
    (hx : ∀ y S', EVt y S' → ∃ b, (∀ C, X.mg y.c = some (.ref C) → PySem.W.exmOne X.K (.ref C) cv = some b) ∧
      (b = true → ∀ (a C : Addr) (oe : Obj) (d : Option Addr) (pn : List (Addr × Obj)) (G0 : Hp), X.mg y.c = some (.ref C) → Zc (.ref C) d oe → (∃ vs, oe.data = .fields vs) → VSs (X.suite a ((a, oe) :: pn)) { c with G0 := G0, EV := fun _ _ => False } (S'.put i (.val (cauD a d y))) (b0 :: suite) (E.un i)) ∧ (b = false → c.EV y S'))
    (hi : X.N[i]? = some n := by rfl) (hln : X.env.kindOf n = some .local := by rfl) :
    VS X c S (.Try body [.ExceptHandler (some (.Name x np)) (some n) (b0 :: suite) pos'] [] [] pos) E := fun σ G H hd => by
  refine tS_of (ps_try_as (tb := fun W Dn σ H => ∀ (pn : List (Addr × Obj)) (xe : Value → Shared → Prop), Takes (X.tr pn xe) W → tSs (X.tr pn xe) body Dn σ H)
    (ts := fun a cls d Dn σ H => ∀ (oe : Obj) (pn : List (Addr × Obj)), Zc cls d oe → (∃ vs, oe.data = .fields vs) → tSs (X.suite a ((a, oe) :: pn)) (b0 :: suite) Dn σ H)
    hs hf hN hi hln hc tk (fun W pn xe t _ => ⟨fun pins s σ H D I h => h pn xe t pins s I⟩) (fun a oe cls d pn hz hfd => ⟨fun pins s σ H D I h => h oe pn hz hfd pins s I⟩)) ?_
  intro pn xe tkt
  refine tSs_mono (hb pn xe G (tkt.imp fun cls d σ' H' ⟨S', G', y, h1, rx, q⟩ => ?_) σ G H (hd.reG0 EVt)) (fun _ _ ⟨S', G', h1, s1, q⟩ => ⟨S', G', hd.unG0 h1, s1, q⟩) (fun _ _ ⟨d, S', σ', G', h1, s1, r, q⟩ => ⟨d, S', σ', G', hd.unG0 h1, s1, r, q⟩)
    (fun _ _ ⟨S', G', h1, s1, q⟩ => ⟨S', G', hd.unG0 h1, s1, q⟩) (fun _ _ ⟨S', G', h1, s1, q⟩ => ⟨S', G', hd.unG0 h1, s1, q⟩)
  obtain ⟨C, hC, ecls, hfld⟩ := rx
  subst ecls
  obtain ⟨b, hb1, hyes, hno⟩ := hx y S' q
  have h2 : HdX X c S' σ' G' H' := hd.unG0 h1
  have s1 : Same G G' := h1.ext0
  refine ⟨b, hb1 C hC, fun hbt a na oe pn2 hz hfd => ?_, fun hbf => ⟨S', G', y, h2, ⟨C, hC, rfl, hfld⟩, hno hbf⟩⟩
  have rc : RepX X G' (.ref a) (cauD a d y) := by
    unfold cauD
    rcases hfld with ⟨z1, z2⟩ | ⟨dd, fs, rfl, g1, g2, g3⟩
    · cases d with
      | none => exact .adr
      | some dd => simp only [z1, if_true]; exact .adr
    · by_cases hk : y.ks = []
      · simp only [hk, if_true]; exact .adr
      · simp only [hk, if_false]; exact .cau g1 g2 g3
  have q1 := hyes hbt a C oe d pn2 G' hC hz hfd (σ'.set i (some (.ref a))) G' H' ((h2.setVal (i := i) rc).reG0 _)
  refine tSs_mono q1 (fun σ2 H2 ⟨S2, G2, h3, s3, q3⟩ => ?_) (fun v H2 ⟨d2, S2, σ3, G2, h3, s3, r3, q3⟩ => ⟨d2, S2, σ3, G2, (h2.setVal (i := i) rc).unG0 h3, s1.trans s3, r3, q3⟩) (fun σ2 H2 ⟨S2, G2, h3, s3, q3⟩ => ?_) (fun σ2 H2 ⟨S2, G2, h3, s3, q3⟩ => ?_)
  · exact ends_un ⟨S2, G2, (h2.setVal (i := i) rc).unG0 h3, s1.trans s3, q3⟩
  · exact ends_un ⟨S2, G2, (h2.setVal (i := i) rc).unG0 h3, s1.trans s3, q3⟩
  · exact ends_un ⟨S2, G2, (h2.setVal (i := i) rc).unG0 h3, s1.trans s3, q3⟩
end
end VL
set_option Elab.async false
set_option linter.all false
set_option maxRecDepth 100000
set_option maxHeartbeats 4000000
/-! VX6: the pen. -/
namespace VL
open PySem PySem.Spec PyProof.Rows L2 NdefX ClX
section
variable {K : PySem.W.Frag} {mg : Str → Option Value} {c : Cv} {S : State} {σ : L2.St} {G H : Hp} {p : Addr} {r r' : PenS}
theorem Hd.repn (h : Hd K mg c S σ G H) (hp : S.pn = some (p, r)) (hn : PenOk c.cf K G H p r') : Hd K mg c ⟨S.ρ, some (p, r')⟩ σ G H :=
  ⟨h.sub, h.len, h.slots, h.dist, fun q s e => by
    cases e
    exact ⟨hn, (h.pen _ _ hp).2⟩, fun a e => by
    obtain ⟨s, q⟩ := h.padr a e
    rw [hp] at q
    cases q
    exact ⟨r', rfl⟩, h.ext0, h.new0, h.keep0, h.fresh, h.tbl0, h.tabs⟩
/-- the pen's dict is written -/
theorem Hd.penPut (h : Hd K mg c S σ G H) (hp : S.pn = some (p, r)) {kvs : List (Key × V)} (hn : PenOk c.cf K G (upd H p (.dK kvs)) p r') : Hd K mg c ⟨S.ρ, some (p, r')⟩ σ G (upd H p (.dK kvs)) := by
  obtain ⟨⟨cc, cells, b, l, p1, p2, p3, p4⟩, pa⟩ := h.pen _ _ hp
  refine ⟨fun a o q => by rw [upd_ne (ne_of_none q p2)]; exact h.sub _ _ q, h.len, fun i sl e => ?_, h.dist, fun q s e => by cases e; exact ⟨hn, pa⟩, fun a e => ?_, h.ext0, h.new0, fun a o q hpa hx => ?_, h.fresh, h.tbU p1 (fun _ z => nomatch z), h.tsU p1 (fun _ z => nomatch z)⟩
  · obtain ⟨o, h1, h2⟩ := h.slots i sl e
    refine ⟨o, h1, ?_⟩
    cases sl with
    | un => trivial
    | val d => exact h2
    | own ds =>
      obtain ⟨l, vs, e1, e2, e3⟩ := h2
      exact ⟨l, vs, e1, by rw [upd_ne (ne_of e2 p1 (fun y => nomatch y))]; exact e2, e3⟩
    | obj a cc ks ds =>
      obtain ⟨C, dx, fs, e1, e2, e3, e4, e5⟩ := h2
      exact ⟨C, dx, fs, e1, e2, by rw [upd_ne (ne_of e3 p1 (fun y => nomatch y))]; exact e3, by rw [upd_ne (ne_of e4 p1 (fun y => nomatch y))]; exact e4, e5⟩
  · obtain ⟨s, q⟩ := h.padr a e
    rw [hp] at q
    cases q
    exact ⟨r', rfl⟩
  · have hne : a ≠ p := fun z => by
      subst z
      rcases pa with z | z
      · exact hpa z
      · rw [z] at q; cases q
    rw [upd_ne hne]
    exact h.keep0 _ _ q hpa hx
end
/-- the keys of the pen's two numbers -/
structure PenN (c : Cv) : Prop where
  h1 : c.cf.nb ≠ "cells"
  h2 : c.cf.nl ≠ "cells"
  h3 : c.cf.nl ≠ c.cf.nb
section
variable {X : Cx} {c : Cv} {S : State} {e : Expr} {es : List Expr} {st : Stmt} {sts : List Stmt} {σ : L2.St} {G G' H : Hp} {pos pos2 pos3 pos4 : Pos} {Q : D → State → Prop} {E : VD} {p : Addr} {k : Nat}
theorem vss_open {r : Nat} (hp : S.pn = some (p, .bud r)) (h : ∀ cells b l, PenB (.bud r) cells b l → VSs X c ⟨S.ρ, some (p, .ex cells b l)⟩ sts E) : VSs X c S sts E := fun σ G H hd => by
  obtain ⟨cc, cells, b, l, p1, p2, p3, p4⟩ := (hd.pen _ _ hp).1
  exact h cells b l p4 σ G H (hd.repn hp ⟨cc, cells, b, l, p1, p2, p3, rfl, rfl, rfl⟩)
theorem vss_close {r : Nat} {cells : List Int} {b l : Int} (hp : S.pn = some (p, .ex cells b l)) (hb : PenB (.bud r) cells b l) (h : VSs X c ⟨S.ρ, some (p, .bud r)⟩ sts E) : VSs X c S sts E := fun σ G H hd => by
  obtain ⟨cc, cells', b', l', p1, p2, p3, rfl, rfl, rfl⟩ := (hd.pen _ _ hp).1
  exact h σ G H (hd.repn hp ⟨cc, cells', b', l', p1, p2, p3, hb⟩)
theorem ve_penC (i : Nat) {x : Str} {j} {cells : List Int} {b l : Int} (hu : Room k X.A) (hρ : S.ρ[i]? = some (.val (.adr p))) (hp : S.pn = some (p, .ex cells b l)) (q : Q (.scr (cells.map D.int)) S)
    (hs : NoSl (.Constant (.str "cells") j pos3) := by exact fun _ _ => rfl) (hN : X.N[i]? = some x := by rfl) (hv : Vis X.env.scope x := by first | exact Or.inl rfl | exact Or.inr (Or.inl rfl) | exact Or.inr (Or.inr rfl))
    (hd : (x == ("__debug__" : Str)) = false := by decide) (hcd : (x == ("__classdict__" : Str)) = false := by decide) : VE X c S (.Subscript (.Name x pos2) (.Constant (.str "cells") j pos3) pos) Q := fun σ G H h => by
  obtain ⟨o, e1, v, e2, r⟩ := h.slots i _ hρ
  subst e2
  cases r
  obtain ⟨cc, cells', b', l', p1, p2, p3, rfl, rfl, rfl⟩ := (h.pen _ _ hp).1
  refine tE_of (pe_dget (by have := hu.un; omega) (pv i hN hv hd hcd) pe_str hs) ⟨_, e1, p, .ref cc, rfl, ?_, pE_ret h (.scr p3 (Reps.ints _)) q⟩
  have g := DGet.k (k := .inr "cells") p1
  rw [valV_pos rfl] at g
  exact g
theorem ve_penB (i : Nat) {x y : Str} {j} {cells : List Int} {b l : Int} (hu : Room k X.A) (hn : PenN c) (hy : y = c.cf.nb) (hρ : S.ρ[i]? = some (.val (.adr p))) (hp : S.pn = some (p, .ex cells b l)) (q : Q (.int b) S)
    (hs : NoSl (.Constant (.str y) j pos3) := by exact fun _ _ => rfl) (hN : X.N[i]? = some x := by rfl) (hv : Vis X.env.scope x := by first | exact Or.inl rfl | exact Or.inr (Or.inl rfl) | exact Or.inr (Or.inr rfl))
    (hd : (x == ("__debug__" : Str)) = false := by decide) (hcd : (x == ("__classdict__" : Str)) = false := by decide) : VE X c S (.Subscript (.Name x pos2) (.Constant (.str y) j pos3) pos) Q := fun σ G H h => by
  obtain ⟨o, e1, v, e2, r⟩ := h.slots i _ hρ
  subst e2
  cases r
  obtain ⟨cc, cells', b', l', p1, p2, p3, rfl, rfl, rfl⟩ := (h.pen _ _ hp).1
  refine tE_of (pe_dget (by have := hu.un; omega) (pv i hN hv hd hcd) pe_str hs) ⟨_, e1, p, .int b', rfl, ?_, pE_ret h .int q⟩
  have g := DGet.k (k := .inr c.cf.nb) p1
  rw [valV_neg (by intro z; exact hn.h1 (Sum.inr.inj z).symm), valV_pos rfl] at g
  rw [hy]
  exact g
theorem ve_penL (i : Nat) {x y : Str} {j} {cells : List Int} {b l : Int} (hu : Room k X.A) (hn : PenN c) (hy : y = c.cf.nl) (hρ : S.ρ[i]? = some (.val (.adr p))) (hp : S.pn = some (p, .ex cells b l)) (q : Q (.int l) S)
    (hs : NoSl (.Constant (.str y) j pos3) := by exact fun _ _ => rfl) (hN : X.N[i]? = some x := by rfl) (hv : Vis X.env.scope x := by first | exact Or.inl rfl | exact Or.inr (Or.inl rfl) | exact Or.inr (Or.inr rfl))
    (hd : (x == ("__debug__" : Str)) = false := by decide) (hcd : (x == ("__classdict__" : Str)) = false := by decide) : VE X c S (.Subscript (.Name x pos2) (.Constant (.str y) j pos3) pos) Q := fun σ G H h => by
  obtain ⟨o, e1, v, e2, r⟩ := h.slots i _ hρ
  subst e2
  cases r
  obtain ⟨cc, cells', b', l', p1, p2, p3, rfl, rfl, rfl⟩ := (h.pen _ _ hp).1
  refine tE_of (pe_dget (by have := hu.un; omega) (pv i hN hv hd hcd) pe_str hs) ⟨_, e1, p, .int l', rfl, ?_, pE_ret h .int q⟩
  have g := DGet.k (k := .inr c.cf.nl) p1
  rw [valV_neg (by intro z; exact hn.h2 (Sum.inr.inj z).symm), valV_neg (by intro z; exact hn.h3 (Sum.inr.inj z).symm), valV_pos rfl] at g
  rw [hy]
  exact g
theorem key_ne {a b : Str} (h : a ≠ b) : ¬ ((Sum.inr a : Key) = Sum.inr b) := fun z => h (Sum.inr.inj z)
theorem put_b {nb nl : Str} {a d u v : V} (h1 : nb ≠ "cells") (h3 : nl ≠ nb) : putK [((.inr "cells" : Key), a), (.inr nb, d), (.inr nl, u)] (.inr nb) v = [(.inr "cells", a), (.inr nb, v), (.inr nl, u)] := by
  unfold putK
  simp [key_ne (Ne.symm h1), key_ne h3, Ne.symm h1, h3]
theorem put_l {nb nl : Str} {a d u v : V} (h2 : nl ≠ "cells") (h3 : nl ≠ nb) : putK [((.inr "cells" : Key), a), (.inr nb, d), (.inr nl, u)] (.inr nl) v = [(.inr "cells", a), (.inr nb, d), (.inr nl, v)] := by
  unfold putK
  simp [key_ne (Ne.symm h2), key_ne (Ne.symm h3), Ne.symm h2, Ne.symm h3]
/-- pen[begun] = e -/
theorem vs_penB (i : Nat) {x y : Str} {j} (hu : Room k X.A) (hn : PenN c) (hy : y = c.cf.nb) (h : VE X c S e fun d S1 => ∃ n p cells b l, d = .int n ∧ S1.ρ[i]? = some (.val (.adr p)) ∧ S1.pn = some (p, .ex cells b l) ∧ E.nx ⟨S1.ρ, some (p, .ex cells n l)⟩)
    (hs : swapsWith e (some (.Subscript (.Name x pos2) (.Constant (.str y) j pos3) pos4)) pos.line X.env = pure false := by rfl) (hN : X.N[i]? = some x := by rfl) (hv : Vis X.env.scope x := by first | exact Or.inl rfl | exact Or.inr (Or.inl rfl) | exact Or.inr (Or.inr rfl))
    (hd : (x == ("__debug__" : Str)) = false := by decide) (hcd : (x == ("__classdict__" : Str)) = false := by decide) : VS X c S (.Assign [.Subscript (.Name x pos2) (.Constant (.str y) j pos3) pos4] e pos) E := fun σ G H hh => by
  refine tS_of (ps_dput (by have := hu.un; omega) (pv i hN hv hd hcd) pe_str pe_sem hs) (tE_mono (h σ G H hh) fun v H1 ⟨d, S1, G1, h1, s1, r, n, p, cells, b, l, ed, hρ, hp, q⟩ => ?_)
  subst ed
  rw [rep_int r]
  obtain ⟨o, e1, v, e2, rv⟩ := h1.slots i _ hρ
  subst e2
  cases rv
  obtain ⟨cc, cells', b', l', p1, p2, p3, rfl, rfl, rfl⟩ := (h1.pen _ _ hp).1
  refine ⟨_, e1, p, _, rfl, by rw [hy]; exact DPut.k (k := .inr c.cf.nb) p1 (by rw [sizeLine_eq]; simp), ?_⟩
  rw [put_b hn.h1 hn.h3]
  exact ⟨_, G1, h1.penPut (r' := .ex cells' n l') hp ⟨cc, cells', n, l', upd_same, p2, p3, rfl, rfl, rfl⟩, s1, q⟩
theorem vs_penL (i : Nat) {x y : Str} {j} (hu : Room k X.A) (hn : PenN c) (hy : y = c.cf.nl) (h : VE X c S e fun d S1 => ∃ n p cells b l, d = .int n ∧ S1.ρ[i]? = some (.val (.adr p)) ∧ S1.pn = some (p, .ex cells b l) ∧ E.nx ⟨S1.ρ, some (p, .ex cells b n)⟩)
    (hs : swapsWith e (some (.Subscript (.Name x pos2) (.Constant (.str y) j pos3) pos4)) pos.line X.env = pure false := by rfl) (hN : X.N[i]? = some x := by rfl) (hv : Vis X.env.scope x := by first | exact Or.inl rfl | exact Or.inr (Or.inl rfl) | exact Or.inr (Or.inr rfl))
    (hd : (x == ("__debug__" : Str)) = false := by decide) (hcd : (x == ("__classdict__" : Str)) = false := by decide) : VS X c S (.Assign [.Subscript (.Name x pos2) (.Constant (.str y) j pos3) pos4] e pos) E := fun σ G H hh => by
  refine tS_of (ps_dput (by have := hu.un; omega) (pv i hN hv hd hcd) pe_str pe_sem hs) (tE_mono (h σ G H hh) fun v H1 ⟨d, S1, G1, h1, s1, r, n, p, cells, b, l, ed, hρ, hp, q⟩ => ?_)
  subst ed
  rw [rep_int r]
  obtain ⟨o, e1, v, e2, rv⟩ := h1.slots i _ hρ
  subst e2
  cases rv
  obtain ⟨cc, cells', b', l', p1, p2, p3, rfl, rfl, rfl⟩ := (h1.pen _ _ hp).1
  refine ⟨_, e1, p, _, rfl, by rw [hy]; exact DPut.k (k := .inr c.cf.nl) p1 (by rw [sizeLine_eq]; simp), ?_⟩
  rw [put_l hn.h2 hn.h3]
  exact ⟨_, G1, h1.penPut (r' := .ex cells' b' n) hp ⟨cc, cells', b', n, upd_same, p2, p3, rfl, rfl, rfl⟩, s1, q⟩
end
/-! ### a new pen -/
def penL (ns : List Int) : List V := (ns.take 63).map V.int
def spPen (nb nl : Str) (K : PySem.W.Frag) : Sp := fun vs H Q E => ∃ (a : Addr) (ns : List Int), vs = [.ref a] ∧ SqL K H a (ns.map V.int) ∧ ∀ p t c, H p = none → upd H p (.dK []) t = none → upd (upd H p (.dK [])) t (.lst (penL ns)) c = none →
  Q (.ref p) (upd (upd (upd (upd H p (.dK [])) t (.lst (penL ns))) c (.lst (penL ns))) p (.dK [(.inr "cells", .ref c), (.inr nb, .int 0), (.inr nl, .int 0)]))
theorem pen_cut (ns : List Int) : cutV (ns.map V.int) none (some 63) = penL ns := by
  unfold cutV penL
  have h0 : HT.sIx (ns.map V.int).length 0 none = 0 := rfl
  have h1 : HT.sIx (ns.map V.int).length (ns.map V.int).length (some 63) = min 63 (ns.map V.int).length := by
    first | rfl | (simp [HT.sIx]; try omega)
  rw [h0, h1, List.drop_zero, Nat.sub_zero, ← List.map_take]
  congr 1
  rw [List.length_map]
  by_cases h : ns.length ≤ 63
  · rw [Nat.min_eq_right h, List.take_of_length_le (Nat.le_refl _), List.take_of_length_le h]
  · rw [Nat.min_eq_left (by omega)]
theorem put_0 {nb nl : Str} {a d u : V} (h1 : nb ≠ "cells") (h2 : nl ≠ "cells") (h3 : nl ≠ nb) : mergeK [] [((.inr "cells" : Key), a), (.inr nb, d), (.inr nl, u)] = [((.inr "cells" : Key), a), (.inr nb, d), (.inr nl, u)] := by
  show putK (putK (putK [] (Sum.inr "cells" : Key) a) (.inr nb) d) (.inr nl) u = _
  have e1 : putK ([] : List (Key × V)) (.inr "cells") a = [(.inr "cells", a)] := putK_new _ rfl
  have e2 : putK [((Sum.inr "cells" : Key), a)] (.inr nb) d = [((Sum.inr "cells" : Key), a), (.inr nb, d)] := putK_new _ (by rw [valV_neg (key_ne (Ne.symm h1))]; rfl)
  rw [e1, e2]
  exact putK_new _ (by rw [valV_neg (key_ne (Ne.symm h2)), valV_neg (key_ne (Ne.symm h3))]; rfl)
section
variable {P : Program} {w : World} {K : PySem.W.Frag} {mg : Str → Option Value} {base : Heap} {nb nl : Str} {k : Nat} {x : Str} {st : Stmt} {dvs : List V} {kws : List (Str × V)} {f : Addr} {fd : FuncData} {p1 p2 p3 p4 p5 p6 p7 p8 p9 p10 p11 p12 p13 p14 : Pos} {k1 k2 k3 k4 k5 k6 : Nat}
theorem fn_pen (F : FunD K x x (defArgs st) (defBody st) (defScope st) dvs kws f fd) {s : Str} (Sc : FnScope [s] [s] (defScope st)) (h1 : nb ≠ "cells") (h2 : nl ≠ "cells") (h3 : nl ≠ nb) (hml : mg "list" = none)
    (hb : defBody st = [.Return (some (.Dict [some (.Constant (.str "cells") k1 p1), some (.Constant (.str nb) k2 p2), some (.Constant (.str nl) k3 p3)] [.Call (.Name "list" p4) [.Subscript (.Name s p5) (.Slice none (some (.Constant (.int 63) k4 p6)) none p7) p8] [] p9, .Constant (.int 0) k5 p10, .Constant (.int 0) k6 p11] p12)) p13])
    (hsl : (defScope st).names.lookup ("list" : Str) = some .globalImplicit) (hs0 : (defScope st).names.lookup s = some .local) (d1 : (s == ("__debug__" : Str)) = false := by decide) (d2 : (s == ("__classdict__" : Str)) = false := by decide) :
    FnOk P w K mg base (L2.CX P w) (k + 1) f fd [s] (spPen nb nl K) := by
  refine F.ok Sc (fun vs H Q E ⟨a, ns, e, _⟩ => by subst e; rfl) fun cdv A outer s0 H vs Q E hr ⟨a, ns, e, hsq, hq⟩ => ?_
  subst e
  rw [hb]
  refine ⟨_, pss_one (ps_ret (pe_disp (pps_cons pe_str (pe_callTy call_list_of hsl hml (show bootBuiltins "list" = some (.type "list") by decide +kernel) (pa_cons (pe_slice sl_list (pv 0 rfl (Or.inl hs0) d1 d2) po_none (po_some pe_int)) pa_nil)) (pps_cons pe_str pe_int (pps_cons pe_str pe_int pps_nil))) rfl rfl (by simp) (by simp))), ?_⟩
  intro p hp
  refine ⟨.ref a, rfl, 63, rfl, a, ns.map V.int, rfl, Same.seq (same_upd hp) hsq, fun t ht => ?_⟩
  rw [pen_cut]
  refine ⟨t, penL ns, rfl, .inl (.inl (.inl upd_same)), fun c hc => ?_⟩
  have ept : p ≠ t := fun z => by rw [← z, upd_same] at ht; cases ht
  have epc : p ≠ c := fun z => by rw [← z, upd_ne ept, upd_same] at hc; cases hc
  refine ⟨by rw [upd_ne epc, upd_ne ept, upd_same], [(.inr "cells", .ref c), (.inr nb, .int 0), (.inr nl, .int 0)], rfl, by simp, ?_⟩
  rw [put_0 h1 h2 h3]
  exact hq p t c hp ht hc
end

structure VPen (P : Program) (w : World) (K : PySem.W.Frag) (mg : Str → Option Value) (base : Heap) (cf : Cfg) (k : Nat) (x : Str) : Prop where
  ex : ∃ f fd ps, FnOk P w K mg base (L2.CX P w) k f fd ps (spPen cf.nb cf.nl K) ∧ mg x = some (.ref f) ∧ PySem.W.keepIn K (.ref f) = true ∧ Binds K fd ps []
def bigs (ns : List Int) : Prop := ∀ x ∈ ns, x.natAbs < 2 ^ 1048577
section
variable {X : Cx} {c : Cv} {S : State} {σ : L2.St} {G H : Hp} {E : VD} {p : Addr} {k : Nat} {ns : List Int}
theorem Hd.newPen (h : HdX X c S σ G H) (hp0 : S.pn = none) (hpa : c.pa = none) (hbig : bigs ns) {t l : Addr} (hp : H p = none) (ht : upd H p (.dK []) t = none) (hl : upd (upd H p (.dK [])) t (.lst (penL ns)) l = none) :
    ∃ G', Same G G' ∧ HdX X c ⟨S.ρ, some (p, .bud (2 ^ 50))⟩ σ G' (upd (upd (upd (upd H p (.dK [])) t (.lst (penL ns))) l (.lst (penL ns))) p (.dK [(.inr "cells", .ref l), (.inr c.cf.nb, .int 0), (.inr c.cf.nl, .int 0)])) := by
  have ept : t ≠ p := fun z => by rw [z, upd_same] at ht; cases ht
  have elt : l ≠ t := fun z => by rw [z, upd_same] at hl; cases hl
  rw [upd_ne elt] at hl
  have elp : l ≠ p := fun z => by rw [z, upd_same] at hl; cases hl
  rw [upd_ne ept] at ht
  rw [upd_ne elp] at hl
  have h1 := h.after (h.alloc (o := .lst (penL ns)) ht)
  have hl1 : upd H t (.lst (penL ns)) l = none := by rw [upd_ne elt]; exact hl
  have h2 := h1.after (h1.alloc (o := .lst (penL ns)) hl1)
  have s1 : Same G (upd G t (.lst (penL ns))) := same_upd (h.sub.free ht)
  have s2 : Same (upd G t (.lst (penL ns))) (upd (upd G t (.lst (penL ns))) l (.lst (penL ns))) := same_upd (h1.sub.free hl1)
  have hp2 : upd (upd H t (.lst (penL ns))) l (.lst (penL ns)) p = none := by rw [upd_ne (Ne.symm elp), upd_ne (Ne.symm ept)]; exact hp
  have e : upd (upd (upd (upd H p (.dK [])) t (.lst (penL ns))) l (.lst (penL ns))) p (.dK [(.inr "cells", .ref l), (.inr c.cf.nb, .int 0), (.inr c.cf.nl, .int 0)]) =
      upd (upd (upd H t (.lst (penL ns))) l (.lst (penL ns))) p (.dK [(.inr "cells", .ref l), (.inr c.cf.nb, .int 0), (.inr c.cf.nl, .int 0)]) := by
    funext b
    by_cases z1 : b = p
    · subst z1; rw [upd_same, upd_same]
    · rw [upd_ne z1, upd_ne z1]
      by_cases z2 : b = l
      · subst z2; rw [upd_same, upd_same]
      · rw [upd_ne z2, upd_ne z2]
        by_cases z3 : b = t
        · subst z3; rw [upd_same, upd_same]
        · rw [upd_ne z3, upd_ne z3, upd_ne z1]
  rw [e]
  have h0p := h0_of h2 hp2
  have h3 := h2.after (h2.allocH (o := .dK [(.inr "cells", .ref l), (.inr c.cf.nb, .int 0), (.inr c.cf.nl, .int 0)]) hp2)
  refine ⟨_, s1.trans s2, ⟨h3.sub, h3.len, h3.slots, h3.dist, fun q r z => ?_, fun a z => (by rw [hpa] at z; cases z), h3.ext0, h3.new0, h3.keep0, h3.fresh, h3.tbl0, h3.tabs⟩⟩
  cases z
  refine ⟨⟨l, ns.take 63, 0, 0, upd_same, h2.sub.free hp2, .inl (.inl upd_same), by rw [List.length_take]; omega, fun x hx => hbig x (List.mem_of_mem_take hx), Int.le_refl _, (by show (0 : Int) + ((2 ^ 50 : Nat) : Int) ≤ 2 ^ 50; decide), Int.le_refl _, Nat.pow_pos (by decide)⟩, .inr h0p⟩
/-- x = _law_pen(script) -/
theorem vs_newpen (i j : Nat) {x fnm s : Str} {pos' p1 p2 p3 pos : Pos} (F : VPen X.prog X.w X.K X.mg X.base c.cf k fnm) (hr : Room k X.A) (tk : Takes X (WV X c)) (hρ : S.ρ[j]? = some (.val (.scr (ns.map D.int)))) (hp0 : S.pn = none) (hpa : c.pa = none) (hbig : bigs ns)
    (q : ∀ p, E.nx ⟨S.ρ.set i (.val (.adr p)), some (p, .bud (2 ^ 50))⟩) (hN : X.N.Nodup) (hi : X.N[i]? = some x := by rfl) (hj : X.N[j]? = some s := by rfl) (hx : Loc X.env.scope x := by first | exact Or.inl rfl | exact Or.inr rfl) (hg : Gl X fnm := by rfl)
    (hv : Vis X.env.scope s := by first | exact Or.inl rfl | exact Or.inr (Or.inl rfl) | exact Or.inr (Or.inr rfl)) (hd : (s == ("__debug__" : Str)) = false := by decide) (hcd : (s == ("__classdict__" : Str)) = false := by decide)
    (hdb : (fnm == ("__debug__" : Str)) = false := by decide) (he : starEach [.Name s p2] X.env = (false, eval (.Name s p2) X.env) :: starEach [] X.env := by rfl)
    (hs : swapsWith (.Call (.Name fnm p1) [.Name s p2] [] p3) (some (.Name x pos')) pos.line X.env = pure false := by rfl) (hf : X.fn x = true ∨ X.env.scope.names.lookup x = some .local := by first | exact .inl rfl | exact .inr rfl) :
    VS X c S (.Assign [.Name x pos'] (.Call (.Name fnm p1) [.Name s p2] [] p3) pos) E := fun σ G H hh => by
  obtain ⟨f, fd, ps, ok, hm, hk, hb⟩ := F.ex
  obtain ⟨o, e1, v, e2, r⟩ := hh.slots j _ hρ
  subst e2
  cases r with
  | @scr a vs _ hsq rr =>
    have ev : vs = ns.map V.int := by
      have : ∀ {vs : List V} {ns : List Int}, Reps X.K X.mg G vs (ns.map D.int) → vs = ns.map V.int := by
        intro vs ns
        induction ns generalizing vs with
        | nil => intro r; cases r; rfl
        | cons n ns ih => intro r; cases r with
          | cons r1 r2 => cases r1; rw [ih r2]; rfl
      exact this rr
    subst ev
    refine tS_of (ps_set hN hi hx (pe_callS (E := WE (WV X c)) ok hr hg hm hk hb (fun σ => passAt tk σ) (pa_cons (pv j hj hv hd hcd) pa_nil he) hdb he rfl) hs hf) ?_
    refine ⟨.ref a, e1, a, ns, rfl, hh.sub.seq hsq, fun p t l hp ht hl => ?_⟩
    obtain ⟨G', s1, h1⟩ := hh.newPen hp0 hpa hbig hp ht hl
    exact ⟨_, G', h1.setVal (i := i) .adr, s1, q p⟩
end
end VL
set_option Elab.async false
set_option linter.all false
set_option maxRecDepth 100000
set_option maxHeartbeats 4000000
/-! VX7: small things: != of plain values, {}, powers, small quotients, indices. -/
namespace VL
open PySem PySem.Spec PyProof.Rows L2 NdefX ClX
section
variable {X : Cx} {c : Cv} {S : State} {e a b : Expr} {es : List Expr} {σ : L2.St} {G G' H : Hp} {pos : Pos} {Q : D → State → Prop} {QT : Bool → State → Prop}
/-! ### != of plain values and of empty dicts -/
def rNeE (K : PySem.W.Frag) : R2 := fun x y H Q => rNeAll K x y H Q ∨ rNeDA x y H Q
theorem op_neE {k : Nat} (hr : Room k X.A) : OpR X (compareOp .NotEq) (rNeE X.K) := (op_neAll hr).or (op_ne_dictA (by have := hr.un; omega))
/-- a value that == itself by the rules at hand -/
def selfEq (d : D) : Prop := d = .dct [] [] ∨ ∃ p, d.toPy = some p ∧ SeqAt.shaped p = true ∧ PyData.eqv p p = true
theorem rb_neSelf {d : D} (h : selfEq d) (q : Q (.bl false) S) : RB X c S (rNeE X.K) d d Q := by
  rcases h with rfl | ⟨p, h1, h2, h3⟩
  · intro σ G H u v hd ru rv R hR
    cases ru with
    | @dct a kvs _ _ m1 m2 m3 =>
      cases rv with
      | @dct b kvs2 _ _ n1 n2 n3 =>
        have e1 : kvs = [] := by cases kvs with | nil => rfl | cons x r => cases m2
        have e2 : kvs2 = [] := by cases kvs2 with | nil => rfl | cons x r => cases n2
        subst e1; subst e2
        exact .inr ⟨a, b, [], [], rfl, rfl, hd.sub _ _ m1, hd.sub _ _ n1, rfl, fun p hp => (by cases hp), hR _ _ (pE_ret hd .bl q)⟩
  · refine (rb_neAD h1 h1 h2 h2 ?_).or1
    rw [h3]
    exact q
/-- {} -/
theorem ve_dict0 (q : Q (.dct [] []) S) : VE X c S (.Dict [] [] pos) Q := fun σ G H hd => tE_of pe_dnewK fun p hp => pE_new hd hp (.dct (kvs := []) upd_same rfl .nil) q
theorem rb_pow {i j : Int} (hC : CPow i j) (q : Q (.int (i ^ j.toNat)) S) : RB X c S (rI CPow fun i j => .int (i ^ j.toNat)) (.int i) (.int j) Q := rb_intC (f := fun i j => i ^ j.toNat) hC q
end
theorem divOk_small {x m : Int} (h1 : 1 ≤ m) (h2 : m ≤ 2 ^ 60) : DivOk x m := by
  refine ⟨by omega, ?_⟩
  have hl : m.natAbs.log2 < 61 := (Nat.log2_lt (by omega)).mpr (by omega)
  unfold PySem.Builtin.divisionGoesByPylong
  have : ¬ (m.natAbs.log2 / 30 + 1 > 300) := by omega
  have hm : (m == 0) = false := by simp; omega
  simp [hm, this]
theorem div_le {x m : Int} (h0 : 0 ≤ x) (h1 : 1 ≤ m) : 0 ≤ x / m ∧ x / m ≤ x := ⟨Int.ediv_nonneg h0 (by omega), Int.ediv_le_self _ h0⟩
theorem mulL {i j : Int} (h1 : -(2 ^ 64) < i) (h2 : i < 2 ^ 64) : IntMulOk i j := CMul.ok (.inl ⟨h1, h2⟩)
theorem mulR {i j : Int} (h1 : -(2 ^ 64) < j) (h2 : j < 2 ^ 64) : IntMulOk i j := CMul.ok (.inr ⟨h1, h2⟩)
theorem eqv_nil (cells : List Int) : PyData.eqv (.list (cells.map PyData.int)) (.list []) = cells.isEmpty := by cases cells <;> rfl
theorem go_ints (cells : List Int) : D.toPy.go (cells.map D.int) = some (cells.map PyData.int) := by
  induction cells with
  | nil => rfl
  | cons x r ih => show (D.toPy (.int x)).bind _ = _; rw [List.map_cons, ih]; rfl
theorem toPy_scr (cells : List Int) : (D.scr (cells.map D.int)).toPy = some (.list (cells.map PyData.int)) := by
  show (D.toPy.go _).map _ = _
  rw [go_ints]; rfl
theorem toPy_lst (cells : List Int) : (D.lst (cells.map D.int)).toPy = some (.list (cells.map PyData.int)) := by
  show (D.toPy.go _).map _ = _
  rw [go_ints]; rfl
theorem eqv_ints (xs ys : List Int) : PyData.eqv (.list (xs.map PyData.int)) (.list (ys.map PyData.int)) = decide (xs = ys) := by
  have : ∀ xs ys : List Int, PyData.eqvAll (xs.map PyData.int) (ys.map PyData.int) = decide (xs = ys) := by
    intro xs
    induction xs with
    | nil => intro ys; cases ys <;> simp [PyData.eqvAll]
    | cons x r ih =>
      intro ys
      cases ys with
      | nil => simp [PyData.eqvAll]
      | cons y t =>
        simp only [List.map_cons, PyData.eqvAll, PyData.eqv, ih t]
        by_cases h : x = y <;> by_cases h' : r = t <;> simp [h, h']
  simpa [PyData.eqv] using this xs ys
theorem shaped_ints (ns : List Int) : SeqAt.shaped (.list (ns.map PyData.int)) = true := PySem.W.ke_shaped_ints ns
theorem atI_nat {α : Type} {l : List α} {j : Int} (h0 : 0 ≤ j) (h1 : j < l.length) : ∃ x, atI l j = some x ∧ x ∈ l := by
  have hj : j.toNat < l.length := by omega
  refine ⟨l[j.toNat], ?_, List.getElem_mem _⟩
  unfold atI ixN
  rw [if_pos h0, if_pos h1]
  show l[j.toNat]? = _
  exact List.getElem?_eq_getElem hj
theorem atI_of {α : Type} {l : List α} {i : Nat} {x : α} (h : l[i]? = some x) : atI l (i : Int) = some x := by
  have hi : i < l.length := (List.getElem?_eq_some_iff.mp h).1
  unfold atI ixN
  rw [if_pos (by omega), if_pos (by omega)]
  show l[((i : Nat) : Int).toNat]? = _
  rw [Int.toNat_natCast]
  exact h
end VL
set_option Elab.async false
set_option linter.all false
set_option maxRecDepth 100000
set_option maxHeartbeats 4000000
/-! VX8: facts of a head: own exception classes, isinstance. -/
namespace VL
open PySem PySem.Spec PyProof.Rows L2 NdefX ClX
section
variable {K : PySem.W.Frag} {C : Addr}
def oexB (K : PySem.W.Frag) (C : Addr) : Bool := (match K.lookup C with
  | some ⟨.type "type", _, .cls cd, sl⟩ => (match cd.mro, sl.toList with
    | .ref C' :: bm, [_, _, _, _, some (.builtin n), _] => C' == C && n == "ValueError.__new__" && !cd.hasDel && cd.hasDict && PySem.HandSPX.refsVE bm
    | _, _ => false)
  | _ => false) && (decide (PySem.W.findIn K (.ref C) "__setattr__" = some (some (.builtin "object.__setattr__"))) && (decide (PySem.W.subIn K (.ref C) (.type "BaseException") = some true) && (decide (PySem.W.typeIn K (.ref C) = some (.type "type")) && PySem.W.keepIn K (.ref C))))
theorem oexB_ok (q : oexB K C = true) : OexC K C := by
  unfold oexB at q
  obtain ⟨q, q2⟩ := Bool.and_eq_true_iff.mp q
  obtain ⟨q3, q4⟩ := Bool.and_eq_true_iff.mp q2
  obtain ⟨q5, q6⟩ := Bool.and_eq_true_iff.mp q4
  obtain ⟨q7, q8⟩ := Bool.and_eq_true_iff.mp q6
  refine ⟨?_, of_decide_eq_true q3, of_decide_eq_true q5, of_decide_eq_true q7, q8⟩
  split at q
  · rename_i dd cd sl ho
    split at q
    · rename_i C' bm k0 k1 k2 k3 n k5 hm hs
      simp only [Bool.and_eq_true, beq_iff_eq, Bool.not_eq_true'] at q
      obtain ⟨⟨⟨⟨rfl, rfl⟩, hdel⟩, hd⟩, hv⟩ := q
      obtain ⟨nm, bs, mro, ns, qn, hdc, sn, sub, ab, col, del⟩ := cd
      dsimp only at hm hdel hd
      subst hm hdel hd
      have hsl : sl = #[k0, k1, k2, k3, some (.builtin "ValueError.__new__"), k5] := by
        obtain ⟨l⟩ := sl
        simp only at hs
        rw [hs]
      subst hsl
      exact ⟨nm, qn, ns, bs, bm, sn, sub, ab, col, dd, k0, k1, k2, k3, k5, ho, hv⟩
    · cases q
  · cases q
def excCB (K : PySem.W.Frag) (D : Addr) : Bool := decide (PySem.W.findIn K (.ref D) "__getattribute__" = some (some (.builtin "BaseException.__getattribute__"))) && (decide (PySem.W.findIn K (.ref D) "__getattr__" = some none) && (decide (PySem.W.subIn K (.ref D) (.type "BaseException") = some true) &&
  (PySem.W.hasDictIn K D && (decide (PySem.W.findIn K (.ref D) "__class__" = some (some (.builtin "object.__class__"))) && (decide (PySem.W.specialIn K (.builtin "object.__class__") "__get__" = some (some (.builtin "getset_descriptor.__get__"))) && (decide (PySem.W.takesIn K (.builtin "object.__class__") = some true) && decide (PySem.W.mroIn K D (.type "object") = some true)))))))
theorem excCB_ok (q : excCB K C = true) : ExcC K C := by
  unfold excCB at q
  obtain ⟨q1, q⟩ := Bool.and_eq_true_iff.mp q
  obtain ⟨q2, q⟩ := Bool.and_eq_true_iff.mp q
  obtain ⟨q3, q⟩ := Bool.and_eq_true_iff.mp q
  obtain ⟨q4, q⟩ := Bool.and_eq_true_iff.mp q
  obtain ⟨q5, q⟩ := Bool.and_eq_true_iff.mp q
  obtain ⟨q6, q⟩ := Bool.and_eq_true_iff.mp q
  obtain ⟨q7, q8⟩ := Bool.and_eq_true_iff.mp q
  exact ⟨of_decide_eq_true q1, of_decide_eq_true q2, of_decide_eq_true q3, q4, of_decide_eq_true q5, of_decide_eq_true q6, of_decide_eq_true q7, of_decide_eq_true q8⟩
end
/-! ### own __init__s of exceptions -/
structure XD where
  cn : Str
  qual : Str
  st : Stmt
  fl : List Str
abbrev FnXo : Type := Option (Str × Str × Arguments × FuncBody × Scope × Addr × List Str × Value × Value × Option Addr × Addr)
def XD.ad (K : PySem.W.Frag) (d : XD) : Addr := He.ma K (He.ga K d.cn) "__init__"
def XD.obs (K : PySem.W.Frag) (d : XD) : FnXo := match K.lookup (d.ad K) with
  | some ⟨_, _, .func fd, _⟩ => some (fd.name, fd.qualname, fd.params, fd.body, fd.scope, fd.globals, fd.closure.map (·.1), fd.defaults, fd.kwdefaults, fd.annotations, fd.builtins)
  | _ => none
def XD.val (d : XD) : FnXo := some ("__init__", d.qual, defArgs d.st, .stmts (defBody d.st), defScope d.st, mainGlobals, ["__class__"], .none, .none, none, builtinsNs)
def XD.codeB (K : PySem.W.Frag) (file : Str) (d : XD) : Bool := match K.lookup (d.ad K) with
  | some ⟨_, _, .func fd, _⟩ => (match fd.code with
    | .ref c => PySem.W.codeIn K (.ref c) d.qual && (match K.lookup c with
      | some ⟨_, _, .fields vs, _⟩ => (match (vs[2]? : Option Value) with
        | some (Value.str f _) => decide (file = f)
        | _ => false)
      | _ => false)
    | _ => false) && (match fd.closure with
    | [(_, cc)] => (match K.lookup cc with
      | some ⟨_, _, .cell (some (.ref D)), _⟩ => decide (D = He.ga K d.cn)
      | _ => false)
    | _ => false)
  | _ => false
def XD.clsB (K : PySem.W.Frag) (d : XD) : Bool := He.eqO (PySem.W.nsIn K mainGlobals d.cn) (some (some (.ref (He.ga K d.cn)))) && (oexB K (He.ga K d.cn) && (xfB K (He.ga K d.cn) && (decide (PySem.W.findIn K (.ref (He.ga K d.cn)) "__init__" = some (some (.ref (d.ad K)))) &&
  (decide (PySem.W.typeIn K (.ref (d.ad K)) = some (.type "function")) && (d.fl.all (fun f => decide (PySem.W.findIn K (.ref (He.ga K d.cn)) f = some none)) && (decide (PySem.W.mroIn K (He.ga K d.cn) (.ref (He.ga K d.cn)) = some true) &&
  (decide (PySem.W.ks_superIn K (He.ga K d.cn) (He.ga K d.cn) "__init__" = some (some (.builtin "ValueError.__init__"))) && decide (PySem.W.subIn K (.ref (He.ga K d.cn)) (.type "ValueError") = some true))))))))
def XD.nf (d : XD) (cc c : Addr) : NF := ⟨"__init__", d.qual, defArgs d.st, defBody d.st, defScope d.st, [(("__class__" : Str), cc)], c⟩
structure XOk (P : Program) (K : PySem.W.Frag) (mg : Str → Option Value) (d : XD) : Prop where
  ex : ∃ (C cc c : Addr) (doc pm ctv oc : Value) (od : Option Addr) (osl : Array (Option Value)), mg d.cn = some (.ref C) ∧ OexC K C ∧ XfC K C ∧ PySem.W.findIn K (.ref C) "__init__" = some (some (.ref (d.ad K))) ∧ PySem.W.typeIn K (.ref (d.ad K)) = some (.type "function") ∧
    (∀ f ∈ d.fl, PySem.W.findIn K (.ref C) f = some none) ∧ K.lookup (d.ad K) = some ⟨oc, od, .func ((d.nf cc c).fd doc pm ctv), osl⟩ ∧ PySem.W.codeIn K (.ref c) d.qual = true ∧
    ∀ ar, ((defArgs d.st).posonlyargs ++ (defArgs d.st).args).head? = some ar → SupF P K mg (d.ad K) c cc C C ((d.nf cc c).fd doc pm ctv) ar
theorem clsIn_of {K : PySem.W.Frag} {C : Addr} {b : Value} {r : Bool} (h : PySem.W.mroIn K C b = some r) : ∃ cd, PySem.W.clsIn K C = some cd := by
  unfold PySem.W.mroIn at h
  cases e : PySem.W.clsIn K C with
  | none => rw [e] at h; cases h
  | some cd => exact ⟨cd, rfl⟩
theorem XD.facts {P : Program} {K : PySem.W.Frag} {mg : Str → Option Value} {h : Heap} {d : XD} {file : Str} (X : K.In h) (G : h.Ns mainGlobals mg) (e : d.obs K = d.val) (c1 : d.codeB K file = true) (c2 : d.clsB K = true)
    (hfile : ((P.main.file : Str) == file) = true) (hop : PySem.W.nsIn K cStatics "thirdparty.any" = some none) (hsup : PySem.W.nsIn K mainGlobals "super" = some none) (htop : (P.main.scope.names.lookup ("super" : Str)).isSome = false) : XOk P K mg d := by
  unfold XD.clsB at c2
  obtain ⟨a1, c2⟩ := Bool.and_eq_true_iff.mp c2
  obtain ⟨a2, c2⟩ := Bool.and_eq_true_iff.mp c2
  obtain ⟨a3, c2⟩ := Bool.and_eq_true_iff.mp c2
  obtain ⟨a4, c2⟩ := Bool.and_eq_true_iff.mp c2
  obtain ⟨a5, c2⟩ := Bool.and_eq_true_iff.mp c2
  obtain ⟨a6, c2⟩ := Bool.and_eq_true_iff.mp c2
  obtain ⟨a7, c2⟩ := Bool.and_eq_true_iff.mp c2
  obtain ⟨a8, a9⟩ := Bool.and_eq_true_iff.mp c2
  unfold XD.codeB at c1
  unfold XD.obs at e
  cases q : K.lookup (d.ad K) with
  | none => rw [q] at c1; cases c1
  | some o =>
    obtain ⟨oc, od, dt, osl⟩ := o
    rw [q] at c1 e
    cases dt with
    | func fd =>
      obtain ⟨n1, n2, n3, n4, n5, n6, n7, n8, n9, n10, n11, n12, n13, n14, n15⟩ := fd
      have e2 : (some (n1, n2, n3, n4, n5, n6, n7.map (·.1), n8, n9, n12, n15) : FnXo) = (some ("__init__", d.qual, defArgs d.st, .stmts (defBody d.st), defScope d.st, mainGlobals, ["__class__"], .none, .none, none, builtinsNs) : FnXo) := e
      simp only [Option.some.injEq, Prod.mk.injEq] at e2
      obtain ⟨h1, h2, h3, h4, h5, h6, h7, h8, h9, h10, h11⟩ := e2
      subst h1 h2 h3 h4 h5 h6 h8 h9 h10 h11
      obtain ⟨b1, b2⟩ := Bool.and_eq_true_iff.mp c1
      match n7, h7, b2 with
      | [(x, cc)], h7, b2 =>
        have ex : x = "__class__" := by simpa using h7
        subst ex
        cases n13 with
        | ref c =>
          obtain ⟨b3, b4⟩ := Bool.and_eq_true_iff.mp (show (PySem.W.codeIn K (.ref c) d.qual && (match K.lookup c with
            | some ⟨_, _, .fields vs, _⟩ => (match (vs[2]? : Option Value) with
              | some (Value.str f _) => decide (file = f)
              | _ => false)
            | _ => false)) = true from b1)
          have hcode : ∃ ccl cdd vs ccs f tf, K.lookup c = some ⟨ccl, cdd, .fields vs, ccs⟩ ∧ vs[2]? = some (.str f tf) ∧ ((P.main.file : Str) == f) = true := by
            cases q2 : K.lookup c with
            | none => rw [q2] at b4; cases b4
            | some o2 =>
              obtain ⟨oc2, od2, dt2, osl2⟩ := o2
              rw [q2] at b4
              cases dt2 with
              | fields vs =>
                have b5 : (match (vs[2]? : Option Value) with
                  | some (Value.str f _) => decide (file = f)
                  | _ => false) = true := b4
                cases q3 : vs[2]? with
                | none => rw [q3] at b5; cases b5
                | some v3 =>
                  rw [q3] at b5
                  cases v3 with
                  | str f tf =>
                    have ef : file = f := of_decide_eq_true b5
                    subst ef
                    exact ⟨_, _, _, _, _, tf, rfl, q3, hfile⟩
                  | _ => cases b5
              | _ => cases b4
          have hcell : ∃ cl cld csl, K.lookup cc = some ⟨cl, cld, .cell (some (.ref (He.ga K d.cn))), csl⟩ := by
            have b6 : (match K.lookup cc with
              | some ⟨_, _, .cell (some (.ref D)), _⟩ => decide (D = He.ga K d.cn)
              | _ => false) = true := b2
            cases q2 : K.lookup cc with
            | none => rw [q2] at b6; cases b6
            | some o2 =>
              obtain ⟨oc2, od2, dt2, osl2⟩ := o2
              rw [q2] at b6
              cases dt2 with
              | cell v =>
                cases v with
                | none => cases b6
                | some v =>
                  cases v with
                  | ref D =>
                    have ed : D = He.ga K d.cn := of_decide_eq_true b6
                    subst ed
                    exact ⟨_, _, _, rfl⟩
                  | _ => cases b6
              | _ => cases b6
          have T := oexB_ok a2
          refine ⟨He.ga K d.cn, cc, c, n10, n11, n14, oc, od, osl, PySem.W.mg_of X G (He.eqO_ok a1), T, xfB_ok a3, of_decide_eq_true a4, of_decide_eq_true a5, fun f hf => of_decide_eq_true (List.all_eq_true.mp a6 f hf), q, b3, fun ar har => ?_⟩
          exact ⟨T, clsIn_of (of_decide_eq_true a7), of_decide_eq_true a7, of_decide_eq_true a8, of_decide_eq_true a9, ⟨_, _, _, q⟩, har, hcode, hcell, hop, PySem.W.mg_none_of X G hsup, htop⟩
        | _ => cases b1
      | [], h7, _ => cases h7
      | _ :: _ :: _, h7, _ => simp at h7
    | _ => cases c1
section
variable {P : Program} {w : World} {K : PySem.W.Frag} {mg : Str → Option Value} {base : Heap} {d : XD} {self p q fld fld2 : Str} {ar : Arg} {p0 p1 p2 p3 p4 q1 q2 q3 q4 q5 r1 r2 r3 r4 r5 s1 s2 : Pos}
/-- as fnX1 asks: the super call's tree -/
def HC1 (P : Program) (w : World) (K : PySem.W.Frag) (mg : Str → Option Value) (base : Heap) (d : XD) (N : List Str) (p0 p1 p2 p3 : Pos) (es : List Expr) : Prop := ∀ (cc c f : Addr) (A : Around) (outer : List Env) (s : Shared) (H : Hp) (E : XK), ∃ pl : Sem Bool, eval (.Call (.Attribute (.Call (.Name "super" p0) [] [] p1) "__init__" p2) es [] p3) (ncx (L2.CX P w) P w K mg base N (d.nf cc c) f A outer s H E).env = (do
      let ov ← attributeBase (.Call (.Name "super" p0) [] [] p1) "__init__" (ncx (L2.CX P w) P w K mg base N (d.nf cc c) f A outer s H E).env (eval (.Call (.Name "super" p0) [] [] p1) (ncx (L2.CX P w) P w K mg base N (d.nf cc c) f A outer s H E).env)
      standAt p2.atName
      let (fo, first) ← holding [ov] (getMethod ov "__init__" pl)
      callWith p3 fo first (backTo p3 (starEach es (ncx (L2.CX P w) P w K mg base N (d.nf cc c) f A outer s H E).env)) [])
theorem vex1 (X : XOk P K mg d) (hfl : d.fl = [fld]) (S : NScope [self, p, "__class__"] [self, p] [("__class__" : Str)] (defScope d.st)) (hbd : defBody d.st = [.Expr (.Call (.Attribute (.Call (.Name "super" p0) [] [] p1) "__init__" p2) [.Name p q1] [] p3) p4, .Assign [.Attribute (.Name self q2) fld q3] (.Name p q4) q5])
    (har : ((defArgs d.st).posonlyargs ++ (defArgs d.st).args).head? = some ar) (hself : ar.arg = self) (hsup : (defScope d.st).names.lookup ("super" : Str) = some .globalImplicit)
    (hc : HC1 P w K mg base d [self, p, "__class__"] p0 p1 p2 p3 [.Name p q1])
    (d1 : (self == ("__debug__" : Str)) = false := by decide) (d2 : (self == ("__classdict__" : Str)) = false := by decide) (d3 : (p == ("__debug__" : Str)) = false := by decide) (d4 : (p == ("__classdict__" : Str)) = false := by decide) : VEx P w K mg base 1 d.cn [fld] [self, p] d.st := by
  obtain ⟨C, cc, c, doc, pm, ctv, oc, od, osl, h1, h2, h3, h4, h5, h6, h7, h8, h9⟩ := X.ex
  refine ⟨C, d.ad K, d.nf cc c, doc, pm, ctv, h1, h2, h4, h5, rfl, ?_⟩
  exact fnX1 (F := d.nf cc c) h7 h8 rfl S hbd (h9 ar har) hself hsup (h6 fld (by rw [hfl]; simp)) d1 d2 d3 d4 (fun A outer s H E => hc cc c _ A outer s H E)
theorem vex2 (X : XOk P K mg d) (hfl : d.fl = [fld, fld2]) (S : NScope [self, p, q, "__class__"] [self, p, q] [("__class__" : Str)] (defScope d.st)) (hbd : defBody d.st = [.Expr (.Call (.Attribute (.Call (.Name "super" p0) [] [] p1) "__init__" p2) [.Name p q1, .Name q s1] [] p3) p4, .Assign [.Attribute (.Name self q2) fld q3] (.Name p q4) q5, .Assign [.Attribute (.Name self r2) fld2 r3] (.Name q r4) r5])
    (har : ((defArgs d.st).posonlyargs ++ (defArgs d.st).args).head? = some ar) (hself : ar.arg = self) (hsup : (defScope d.st).names.lookup ("super" : Str) = some .globalImplicit)
    (hc : HC1 P w K mg base d [self, p, q, "__class__"] p0 p1 p2 p3 [.Name p q1, .Name q s1])
    (d1 : (self == ("__debug__" : Str)) = false := by decide) (d2 : (self == ("__classdict__" : Str)) = false := by decide) (d3 : (p == ("__debug__" : Str)) = false := by decide) (d4 : (p == ("__classdict__" : Str)) = false := by decide) (d5 : (q == ("__debug__" : Str)) = false := by decide) (d6 : (q == ("__classdict__" : Str)) = false := by decide) : VEx P w K mg base 1 d.cn [fld, fld2] [self, p, q] d.st := by
  obtain ⟨C, cc, c, doc, pm, ctv, oc, od, osl, h1, h2, h3, h4, h5, h6, h7, h8, h9⟩ := X.ex
  refine ⟨C, d.ad K, d.nf cc c, doc, pm, ctv, h1, h2, h4, h5, rfl, ?_⟩
  exact fnX2 (F := d.nf cc c) h7 h8 rfl S hbd (h9 ar har) hself hsup (h6 fld (by rw [hfl]; simp)) (h6 fld2 (by rw [hfl]; simp)) d1 d2 d3 d4 d5 d6 (fun A outer s H E => hc cc c _ A outer s H E)
theorem XOk.xf (X : XOk P K mg d) {f : Str} (hf : f ∈ d.fl) : XfF K mg d.cn f := by
  obtain ⟨C, cc, c, doc, pm, ctv, oc, od, osl, h1, h2, h3, h4, h5, h6, h7, h8, h9⟩ := X.ex
  intro C' hC'
  rw [h1] at hC'
  cases hC'
  exact ⟨h3, h6 f hf⟩
end
/-! ### the Hook: defs, facts, exceptions, any test -/
abbrev AlV : Type := He.AlD × List FnXo × Bool
def frV (n : Nat) (g : Addr → Option Obj) : PySem.W.Frag := He.frG g (cStatics :: He.asD g n)
def obsV (fa : List He.Fa) (fn : List He.DefD) (xs : List XD) (t : PySem.W.Frag → Bool) (K : PySem.W.Frag) : AlV := (He.obsD fa fn K, xs.map (XD.obs K), t K)
def valV0 (fn : List He.DefD) (xs : List XD) : AlV := (He.valD fn, xs.map XD.val, true)
def hookV (n : Nat) (fa : List He.Fa) (fn : List He.DefD) (xs : List XD) (t : PySem.W.Frag → Bool) : PySem.W.Hook where
  α := AlV
  obs := fun s => obsV fa fn xs t (frV n s.heap.get?)
  val := fun _ => valV0 fn xs
  says := fun _ h => ∃ K : PySem.W.Frag, K.In h ∧ obsV fa fn xs t K = valV0 fn xs
  of := fun _ _ e => ⟨_, He.frG_in, e⟩
  keeps := fun _ _ _ ⟨K, hK, c⟩ k => ⟨K, PySem.W.Frag.In.keeps hK k, c⟩
theorem obsV_eq {n : Nat} {fa : List He.Fa} {fn : List He.DefD} {xs : List XD} {t : PySem.W.Frag → Bool} {g : Addr → Option Obj} {s : Shared} (h : ∀ a, g a = s.heap.get? a) : obsV fa fn xs t (frV n g) = (hookV n fa fn xs t).obs s := by
  have e : g = s.heap.get? := funext h
  rw [e] <;> rfl
end VL
set_option Elab.async false
set_option linter.all false
set_option maxRecDepth 100000
set_option maxHeartbeats 4000000
/-! VX9: lambdas: made. -/
namespace VL
open PySem PySem.Spec PyProof.Rows L2 NdefX ClX LamX
theorem lamO_ok {P : Program} {w : World} {H : Hp} {h : Heap} {f : Addr} {pr : Arguments} {b : Expr} {sc : Scope} {q : Str} {cl : List (Str × Addr)} {pm ctv : Value} {c' : Addr} (e : h.get? f = some (PySem.W.kla_obj "<lambda>" q pr b sc cl pm c' ctv)) : ObjOk P w H h f (LamO f pr b sc q cl c') :=
  ⟨⟨pm, ctv, e⟩, ⟨_, e⟩, fun h1 h2 ⟨pm, ctv, z⟩ k => ⟨pm, ctv, k _ z⟩⟩
/-- what the making of a lambda changes -/
structure Made (G H G' H' : Hp) (P : Addr) (q : Str) (f c' : Addr) (o : HO) : Prop where
  sub : Same G' H'
  ext : Same G G'
  new : ∀ a u, G' a = some u → G a = some u ∨ H a = none
  keep : ∀ a u, H a = some u → Fix u → H' a = some u
  tbl : ∀ a ps, a ≠ P → H a = some (.tbl ps) → H' a = some (.tbl ps)
  tab : TabG G' H' P q
  lam : G' f = some o
  code : G' c' = some (CodeO c' q)
section
variable {X : Cx} {pins : List (Addr × Obj)} {σ : L2.St} {G H : Hp} {s : Shared}
theorem lam_makeG {c P : Addr} {params : Arguments} {body : Expr} {scope : Scope} {pos : Pos} {E : Value → Shared → Prop} {Q : Value → Shared → Prop} (I : Inv X pins σ H s) (TB : TabB X.base X.mg c P) (hcode : X.env.code = .ref c)
    (hT : TabG G H P (X.env.qual ++ "<lambda>")) (hs : Same G H) (hdef : defaultsOf params X.env = ([], [])) (hfree : ∀ y ∈ scope.names, y.2 = .free → ∃ c, X.env.cells.lookup y.1 = some c)
    (h : ∀ (f c' : Addr) (G' H' : Hp) (s' : Shared), Inv X pins σ H' s' → Made G H G' H' P (X.env.qual ++ "<lambda>") f c' (LamO f params body scope (X.env.qual ++ "<lambda>") (cloFrom X.env.cells scope.names []) c') → Q (.ref f) s') :
    wpAny (model X.prog X.w) X.A (eval (.Lambda params body scope pos) X.env) Q E s := by
  obtain ⟨ps, hP, gP, ht, ha⟩ := hT
  refine PySem.W.kla_eval hdef ?_
  have bP : s.heap.BuiltinsAt X.mg P := TB.bm.keeps I.bk
  have hP' : s.heap.get? P = some { cls := .none, data := .fields ps } := I.hok P _ hP
  cases hc : codeAmong pos ps.toList with
  | none =>
    refine PySem.W.kla_makeFunction (mg := X.mg) (c := c) (P := P) (ps := ps) (closure_ok hfree) I.ok.glob (I.mod.glob.keeps I.bk) hcode (TB.code.keeps I.bk) hP' ht hc TB.gP bP fun c' ctv h' tk hx hge hlt hrec htb => ?_
    obtain ⟨c2, oc, vs, t, e2, hoc, hd, hv⟩ := hrec
    cases e2
    have hsz : s.heap.objs.size ≤ h'.objs.size := Nat.le_trans hge (Nat.le_of_lt hlt)
    have nC : H c' = none := I.hok.fresh hge
    have nF : H h'.objs.size = none := I.hok.fresh hsz
    have nFc : h'.objs.size ≠ c' := Nat.ne_of_gt hlt
    have nPc : P ≠ c' := ne_of_none hP nC
    have nPf : P ≠ h'.objs.size := ne_of_none hP nF
    have I0 := inv_table (q := X.env.qual ++ "<lambda>") (t' := tk) (more := #[rawInt pos.line, rawInt pos.col, .ref c']) (h' := h') I hP hx htb hge ⟨oc, vs, t, hoc, hd, hv⟩
    have I1 := I0.laid (t' := tk) (a := h'.objs.size) (o := LamO h'.objs.size params body scope (X.env.qual ++ "<lambda>") (cloFrom X.env.cells scope.names []) c') (h' := h'.push (PySem.W.kla_obj "<lambda>" (X.env.qual ++ "<lambda>") params body scope (cloFrom X.env.cells scope.names []) ((X.mg "__name__").getD .none) c' ctv))
      (fun b o e => Heap.get?_push_of_some _ e) (Nat.le_refl _) (lamO_ok (Heap.get?_push_size _ rfl))
    have eL : (ps ++ #[rawInt pos.line, rawInt pos.col, .ref c']).toList = ps.toList ++ [rawInt pos.line, rawInt pos.col, .ref c'] := by simp
    refine h h'.objs.size c' (upd (upd G c' (CodeO c' (X.env.qual ++ "<lambda>"))) h'.objs.size (LamO h'.objs.size params body scope (X.env.qual ++ "<lambda>") (cloFrom X.env.cells scope.names []) c')) _ _ I1 ⟨fun b u e => ?_, fun b u e => ?_, fun b u e => ?_, fun b u e hx => ?_, fun b qs hb e => ?_, ?_, upd_same, ?_⟩
    · by_cases z1 : b = h'.objs.size
      · subst z1; rw [upd_same] at e ⊢; exact e
      · rw [upd_ne z1] at e ⊢
        by_cases z2 : b = c'
        · subst z2; rw [upd_same] at e ⊢; exact e
        · rw [upd_ne z2] at e ⊢
          rw [upd_ne (fun z => by rw [z, gP] at e; cases e)]
          exact hs _ _ e
    · have hb := hs _ _ e
      rw [upd_ne (ne_of_none hb nF), upd_ne (ne_of_none hb nC)]; exact e
    · by_cases z1 : b = h'.objs.size
      · rw [z1]; exact .inr nF
      · rw [upd_ne z1] at e
        by_cases z2 : b = c'
        · rw [z2]; exact .inr nC
        · rw [upd_ne z2] at e; exact .inl e
    · rw [upd_ne (ne_of_none e nF), upd_ne (ne_of_none e nC), upd_ne (fun z => by rw [z, hP] at e; exact hx ps (Option.some.inj e).symm)]
      exact e
    · rw [upd_ne (ne_of_none e nF), upd_ne (ne_of_none e nC), upd_ne hb]; exact e
    · refine ⟨ps ++ #[rawInt pos.line, rawInt pos.col, .ref c'], by rw [upd_ne nPf, upd_ne nPc, upd_same], by rw [upd_ne nPf, upd_ne nPc]; exact gP, by rw [eL]; exact PySem.TriplesOk_snoc _ _ _ _ ht, fun p' cv hcv => ?_⟩
      rw [eL] at hcv
      rcases among_app _ ht hcv with z | z
      · obtain ⟨c0, e1, e2⟩ := ha p' cv z
        have hb := hs _ _ e2
        exact ⟨c0, e1, by rw [upd_ne (ne_of_none hb nF), upd_ne (ne_of_none hb nC)]; exact e2⟩
      · exact ⟨c', z, by rw [upd_ne (Ne.symm nFc), upd_same]⟩
    · rw [upd_ne (Ne.symm nFc), upd_same]
  | some cv =>
    obtain ⟨c', e, hco⟩ := ha pos cv hc
    subst e
    refine PySem.W.kla_makeFunctionHit (mg := X.mg) (c := c) (P := P) (ps := ps) (closure_ok hfree) I.ok.glob (I.mod.glob.keeps I.bk) hcode (TB.code.keeps I.bk) hP' ht hc bP fun ctv h' tk hx hsz => ?_
    have nF : H h'.objs.size = none := I.hok.fresh hsz
    have I0 : Inv X pins σ H { s with heap := h', toks := tk } := I.kept hx
    have I1 := I0.laid (t' := tk) (a := h'.objs.size) (o := LamO h'.objs.size params body scope (X.env.qual ++ "<lambda>") (cloFrom X.env.cells scope.names []) c') (h' := h'.push (PySem.W.kla_obj "<lambda>" (X.env.qual ++ "<lambda>") params body scope (cloFrom X.env.cells scope.names []) ((X.mg "__name__").getD .none) c' ctv))
      (fun b o e => Heap.get?_push_of_some _ e) (Nat.le_refl _) (lamO_ok (Heap.get?_push_size _ rfl))
    have hb' := hs _ _ hco
    refine h h'.objs.size c' (upd G h'.objs.size (LamO h'.objs.size params body scope (X.env.qual ++ "<lambda>") (cloFrom X.env.cells scope.names []) c')) _ _ I1 ⟨same_upd2 hs, same_upd (hs.free nF), fun b u e => ?_, fun b u e hx => ?_, fun b qs hb e => ?_, ?_, upd_same, ?_⟩
    · by_cases z1 : b = h'.objs.size
      · rw [z1]; exact .inr nF
      · rw [upd_ne z1] at e; exact .inl e
    · rw [upd_ne (ne_of_none e nF)]; exact e
    · rw [upd_ne (ne_of_none e nF)]; exact e
    · exact ⟨ps, by rw [upd_ne (ne_of_none hP nF)]; exact hP, by rw [upd_ne (ne_of_none hP nF)]; exact gP, ht, fun p' cv hcv => let ⟨c0, a, b⟩ := ha p' cv hcv; ⟨c0, a, same_upd (hs.free nF) _ _ b⟩⟩
    · rw [upd_ne (ne_of_none hb' nF)]; exact hco
end
section
variable {X : Cx} {c : Cv} {S : State} {σ : L2.St} {G H : Hp} {Q : D → State → Prop}
theorem Made.after {G' H' : Hp} {P f c' : Addr} {q : Str} {o : HO} (h : HdX X c S σ G H) (M : Made G H G' H' P q f c' o) (hu : ∀ p ∈ c.cf.tb, p.1 = P → p.2 = q) : After c.cf X.K G H S.pn G' H' S.pn where
  sub := M.sub
  ext := M.ext
  new := M.new
  keep := fun a u e _ hx => M.keep a u e hx
  pen := fun p r e => by
    obtain ⟨cc, cells, b, l, p1, p2, p3, p4⟩ := (h.pen p r e).1
    refine ⟨cc, cells, b, l, M.keep _ _ p1 (fun _ z => nomatch z), ?_, Same.seq M.ext p3, p4⟩
    cases z : G' p with
    | none => rfl
    | some u =>
      rcases M.new _ _ z with y | y
      · rw [p2] at y; cases y
      · rw [y] at p1; cases p1
  adr := rfl
  tbl := fun a ps e => by
    by_cases hb : a = P
    · obtain ⟨ps', e', _⟩ := M.tab
      exact ⟨ps', by rw [hb]; exact e'⟩
    · exact ⟨ps, M.tbl a ps hb e⟩
  tabs := fun p hp => by
    by_cases hb : p.1 = P
    · rw [hb, hu p hp hb]; exact M.tab
    · refine (h.tabs p hp).mono M.ext (fun ps e => M.tbl _ _ hb e) fun g => ?_
      cases z : G' p.1 with
      | none => rfl
      | some u =>
        rcases M.new _ _ z with y | y
        · rw [g] at y; cases y
        · obtain ⟨ps, e, _⟩ := h.tabs p hp
          rw [y] at e; cases e
theorem clo_inj {X : Cx} {scope : Scope} (ok : X.Ok) (L : LamS X.env.scope scope) : Inj (cloFrom X.env.cells scope.names []) := fun x y c h1 h2 => by
  have cm : ∀ {y c}, (cloFrom X.env.cells scope.names []).lookup y = some c → X.env.cells.lookup y = some c := fun {y c} e => by
    rcases cloFrom_mem (PySem.mem_of_lookup e) with hm | ⟨h1, h2⟩
    · cases hm
    · obtain ⟨c1, hc⟩ := L.has ok _ h1 rfl
      have hc : X.env.cells.lookup y = some c1 := hc
      have e2 : c = c1 := by
        rw [h2, hc] <;> rfl
      rw [e2]
      exact hc
  exact ok.inj x y c (cm h1) (cm h2)
/-- lambda: body -/
theorem ve_lambda {cd P : Addr} {params : Arguments} {body : Expr} {scope : Scope} {pos : Pos} {q : Str} (TB : TabB X.base X.mg cd P) (hcode : X.env.code = .ref cd) (hq : X.env.qual ++ "<lambda>" = q) (hm : (P, q) ∈ c.cf.tb) (hu : ∀ p ∈ c.cf.tb, p.1 = P → p.2 = q) (hdef : defaultsOf params X.env = ([], [])) (L : LamS X.env.scope scope)
    (k : Q (.lam params body scope q (cloFrom X.env.cells scope.names [])) S) : VE X c S (.Lambda params body scope pos) Q := fun σ G H hd => by
  subst hq
  intro pins s I
  refine lam_makeG (G := G) I TB hcode (hd.tabs _ hm) hd.sub hdef (L.has I.ok) fun f c' G' H' s' I' M => ?_
  exact ⟨.ref f, H', I', rfl, _, _, _, hd.after (M.after hd hu), M.ext, .lam (clo_inj I.ok L) M.lam M.code, k⟩
end
end VL
set_option Elab.async false
set_option linter.all false
set_option maxRecDepth 100000
set_option maxHeartbeats 4000000
/-! VX10: cells tracked for a while: the heap without them, with them. -/
namespace VL
open PySem PySem.Spec PyProof.Rows L2 NdefX ClX LamX
/-- without these cells; with them -/
def dip (H : Hp) (ks : List (Addr × Obj)) : Hp := fun b => if b ∈ ks.map (·.1) then none else H b
def lift (H : Hp) (ks : List (Addr × Obj)) : Hp := fun b => match ks.lookup b with
  | some ob => some (CellO b ob)
  | none => H b
theorem lookup_none {ks : List (Addr × Obj)} {b : Addr} (h : b ∉ ks.map (·.1)) : ks.lookup b = none := by
  induction ks with
  | nil => rfl
  | cons p r ih =>
    obtain ⟨a, o⟩ := p
    have h1 : b ≠ a := fun z => h (by rw [z]; exact List.mem_cons_self)
    have e : (b == a) = false := by simpa using h1
    simp only [List.lookup, e]
    exact ih fun z => h (List.mem_cons_of_mem _ z)
theorem lookup_mem {ks : List (Addr × Obj)} {b : Addr} (h : b ∈ ks.map (·.1)) : ∃ ob, ks.lookup b = some ob ∧ (b, ob) ∈ ks := by
  induction ks with
  | nil => cases h
  | cons p r ih =>
    obtain ⟨a, o⟩ := p
    by_cases h1 : b = a
    · subst h1
      exact ⟨o, by simp [List.lookup], List.mem_cons_self⟩
    · have e : (b == a) = false := by simpa using h1
      obtain ⟨ob, e1, e2⟩ := ih ((List.mem_cons.mp h).resolve_left h1)
      exact ⟨ob, by simp only [List.lookup, e]; exact e1, List.mem_cons_of_mem _ e2⟩
theorem dip_in {H : Hp} {ks : List (Addr × Obj)} {b : Addr} (h : b ∈ ks.map (·.1)) : dip H ks b = none := if_pos h
theorem dip_out {H : Hp} {ks : List (Addr × Obj)} {b : Addr} (h : b ∉ ks.map (·.1)) : dip H ks b = H b := if_neg h
theorem lift_out {H : Hp} {ks : List (Addr × Obj)} {b : Addr} (h : b ∉ ks.map (·.1)) : lift H ks b = H b := by
  unfold lift
  rw [lookup_none h]
theorem dip_some {H : Hp} {ks : List (Addr × Obj)} {b : Addr} {o : HO} (h : dip H ks b = some o) : b ∉ ks.map (·.1) ∧ H b = some o := by
  by_cases q : b ∈ ks.map (·.1)
  · rw [dip_in q] at h; cases h
  · rw [dip_out q] at h; exact ⟨q, h⟩
theorem cell_own {c x : Addr} {ob : Obj} : CellO c ob ≠ .own x := fun z => by
  have z' : HO.ext _ = HO.own x := z
  cases z'
theorem cell_tup {c : Addr} {ob : Obj} {xs : List V} : CellO c ob ≠ .tup xs := fun z => by
  have z' : HO.ext _ = HO.tup xs := z
  cases z'
theorem cell_ok {P : Program} {w : World} {H : Hp} {h : Heap} {c : Addr} {ob : Obj} (e : h.get? c = some ob) : ObjOk P w H h c (CellO c ob) := ⟨e, ⟨ob, e⟩, fun h1 h2 z k => k _ z⟩
/-- the cells ks stand in H, as they are in the heap -/
def Cells (H : Hp) (ks : List (Addr × Obj)) : Prop := ∀ p ∈ ks, H p.1 = some (CellO p.1 p.2)
section
variable {P : Program} {w : World} {H : Hp} {h : Heap} {ks : List (Addr × Obj)}
theorem cells_at (c : Cells H ks) (x : HOk P w H h) {p : Addr × Obj} (hp : p ∈ ks) : h.get? p.1 = some p.2 := by
  have q := x p.1 _ (c p hp)
  exact q.1
theorem hok_dip (c : Cells H ks) (x : HOk P w H h) : HOk P w (dip H ks) h := fun b o e => by
  obtain ⟨hb, e'⟩ := dip_some e
  have out : ∀ {a : Addr} {u : HO}, H a = some u → (∀ c ob, u ≠ CellO c ob) → dip H ks a = some u := fun {a u} ea hu => by
    have ha : a ∉ ks.map (·.1) := fun z => by
      obtain ⟨p, hp, ep⟩ := List.mem_map.mp z
      have q := c p hp
      rw [ep, ea] at q
      exact hu _ _ (Option.some.inj q)
    rw [dip_out ha]; exact ea
  exact (x b o e').stay (fun a u _ z => z) (fun a z => out z fun c ob y => cell_own y.symm) (fun a xs z => out z fun c ob y => cell_tup y.symm)
theorem cell_notfix {H : Hp} {ks : List (Addr × Obj)} {b : Addr} {u : HO} (c : Cells H ks) (e : H b = some u) (hu : ∀ c ob, u ≠ CellO c ob) : b ∉ ks.map (·.1) := fun z => by
  obtain ⟨p, hp, ep⟩ := List.mem_map.mp z
  have q := c p hp
  rw [ep, e] at q
  exact hu _ _ (Option.some.inj q)
theorem cell_nonone {H : Hp} {ks : List (Addr × Obj)} {b : Addr} (c : Cells H ks) (e : H b = none) : b ∉ ks.map (·.1) := fun z => by
  obtain ⟨p, hp, ep⟩ := List.mem_map.mp z
  have q := c p hp
  rw [ep, e] at q
  cases q
theorem cell_frz {c : Addr} {ob o : Obj} {u : HO} : CellO c ob ≠ .frz o u := fun z => by
  have z' : HO.ext _ = HO.frz o u := z
  cases z'
theorem cell_tbl {c : Addr} {ob : Obj} {ps : Array Value} : CellO c ob ≠ .tbl ps := fun z => by
  have z' : HO.ext _ = HO.tbl ps := z
  cases z'
theorem hok_lift {H2 : Hp} {h2 : Heap} (x : HOk P w H2 h2) (hn : ∀ p ∈ ks, H2 p.1 = none) (hg : ∀ p ∈ ks, h2.get? p.1 = some p.2) : HOk P w (lift H2 ks) h2 := fun b o e => by
  have out : ∀ {a : Addr} {u : HO}, H2 a = some u → lift H2 ks a = some u := fun {a u} ea => by
    rw [lift_out fun z => ?_]; exact ea
    obtain ⟨p, hp, ep⟩ := List.mem_map.mp z
    have q := hn p hp
    rw [ep, ea] at q
    cases q
  by_cases hb : b ∈ ks.map (·.1)
  · obtain ⟨ob, e1, e2⟩ := lookup_mem hb
    have e' : (match ks.lookup b with | some ob => some (CellO b ob) | none => H2 b) = some o := e
    rw [e1] at e'
    cases e'
    exact cell_ok (hg _ e2)
  · rw [lift_out hb] at e
    exact (x b o e).stay (fun a u _ z => z) (fun a z => out z) (fun a xs z => out z)
variable {K : PySem.W.Frag} {mg : Str → Option Value} {base : Heap} {A : Around} {outer : List Env} {s s' : Shared} {Q Q' : VK} {u : Value}
theorem env0_dip (e0 : Env0 P w K mg base A outer s H) (c : Cells H ks) : Env0 P w K mg base A outer s (dip H ks) := by
  have nn : ∀ b, H b = none → dip H ks b = none := fun b e => by rw [dip_out (cell_nonone c e)]; exact e
  exact ⟨e0.frames, e0.mod, fun b o e => ⟨(e0.bs b o e).1, nn _ (e0.bs b o e).2⟩, e0.bsz, e0.funs, fun b hb => nn _ (e0.frf b hb), hok_dip c e0.hok, e0.bare⟩
theorem un_lift {H2 : Hp} {h h2 : Heap} {fs : List Addr} (c : Cells H ks) (x : HOk P w H h) (un : Un fs [] (dip H ks) H2 h h2) : Un fs [] H (lift H2 ks) h h2 ∧ ∀ p ∈ ks, H2 p.1 = none := by
  have gone : ∀ p ∈ ks, H2 p.1 = none := fun p hp => un.free p.1 p.2 (cells_at c x hp) (dip_in (List.mem_map_of_mem hp)) (by simp)
  have o2 : ∀ {b : Addr}, b ∉ ks.map (·.1) → lift H2 ks b = H2 b := fun hb => lift_out hb
  exact ⟨{
    keep := fun b o e n hb hx => un.keep b o e (by rw [dip_out (cell_nonone c n)]; exact n) hb hx
    slot := fun b o e n hb hx => un.slot b o e (by rw [dip_out (cell_nonone c n)]; exact n) hb hx
    free := fun b o e n hx => by rw [o2 (cell_nonone c n)]; exact un.free b o e (by rw [dip_out (cell_nonone c n)]; exact n) hx
    there := un.there
    tups := fun b xs e => by
      have hb := cell_notfix c e fun c ob z => cell_tup z.symm
      rw [o2 hb]; exact un.tups b xs (by rw [dip_out hb]; exact e)
    frzs := fun b o u e => by
      have hb := cell_notfix c e fun c ob z => cell_frz z.symm
      rw [o2 hb]; exact un.frzs b o u (by rw [dip_out hb]; exact e)
    tbls := fun b ps e => by
      have hb := cell_notfix c e fun c ob z => cell_tbl z.symm
      obtain ⟨more, q⟩ := un.tbls b ps (by rw [dip_out hb]; exact e)
      exact ⟨more, by rw [o2 hb]; exact q⟩ }, gone⟩
/-- behind a call under the cells -/
theorem ce_lift (c : Cells H ks) (x : HOk P w H s.heap) (nf : ∀ p ∈ ks, p.1 ∉ frs outer) (h : CE outer P w (dip H ks) s Q u s') (hq : ∀ v H2, Q v H2 → (∀ p ∈ ks, H2 p.1 = none) → Q' v (lift H2 ks)) : CE outer P w H s Q' u s' := by
  obtain ⟨v, H2, os, bare, un, hok, r, q⟩ := h
  obtain ⟨un', gone⟩ := un_lift c x un
  have get : ∀ p ∈ ks, s'.heap.get? p.1 = some p.2 := fun p hp => un.keep p.1 p.2 (cells_at c x hp) (dip_in (List.mem_map_of_mem hp)) (nf p hp) (by simp)
  exact ⟨v, lift H2 ks, os, bare, un', hok_lift hok gone get, r, hq v H2 q gone⟩
theorem ub_lift {H2 : Hp} {h B h2 : Heap} {fs : List Addr} (c : Cells H ks) (x : HOk P w H h) (un : UB fs (dip H ks) H2 h B h2) : UB fs H (lift H2 ks) h B h2 ∧ ∀ p ∈ ks, H2 p.1 = none := by
  have gone : ∀ p ∈ ks, H2 p.1 = none := fun p hp => un.free p.1 p.2 (cells_at c x hp) (dip_in (List.mem_map_of_mem hp))
  have o2 : ∀ {b : Addr}, b ∉ ks.map (·.1) → lift H2 ks b = H2 b := fun hb => lift_out hb
  exact ⟨{
    keep := fun b o e n hb => un.keep b o e (by rw [dip_out (cell_nonone c n)]; exact n) hb
    slot := un.slot
    free := fun b o e n => by rw [o2 (cell_nonone c n)]; exact un.free b o e (by rw [dip_out (cell_nonone c n)]; exact n)
    there := un.there
    tups := fun b xs e => by
      have hb := cell_notfix c e fun c ob z => cell_tup z.symm
      rw [o2 hb]; exact un.tups b xs (by rw [dip_out hb]; exact e)
    frzs := fun b o u e => by
      have hb := cell_notfix c e fun c ob z => cell_frz z.symm
      rw [o2 hb]; exact un.frzs b o u (by rw [dip_out hb]; exact e)
    tbls := fun b ps e => by
      have hb := cell_notfix c e fun c ob z => cell_tbl z.symm
      obtain ⟨more, q⟩ := un.tbls b ps (by rw [dip_out hb]; exact e)
      exact ⟨more, by rw [o2 hb]; exact q⟩ }, gone⟩
theorem cx_lift {E E' : XK} (c : Cells H ks) (x : HOk P w H s.heap) (nf : ∀ p ∈ ks, p.1 ∉ frs outer) (h : L2.CX P w outer (dip H ks) s E u s') (hq : ∀ cls d H2, E cls d H2 → (∀ p ∈ ks, H2 p.1 = none) → E' cls d (lift H2 ks)) : L2.CX P w outer H s E' u s' := by
  obtain ⟨a, B, H2, cls, d, eu, fly, hok, ub, na, os, bare, q⟩ := h
  obtain ⟨ub', gone⟩ := ub_lift c x ub
  have get : ∀ p ∈ ks, B.get? p.1 = some p.2 := fun p hp => ub.keep p.1 p.2 (cells_at c x hp) (dip_in (List.mem_map_of_mem hp)) (nf p hp)
  have ha : a ∉ ks.map (·.1) := fun z => by
    obtain ⟨p, hp, ep⟩ := List.mem_map.mp z
    have g := get p hp
    rw [ep, fly.2.1] at g
    cases g
  exact ⟨a, B, lift H2 ks, cls, d, eu, fly, hok_lift hok gone get, ub', by rw [lift_out ha]; exact na, os, bare, hq cls d H2 q gone⟩
/-- a call under the cells, at its end -/
theorem cr_lift {E E' : XK} {r : Result} (c : Cells H ks) (x : HOk P w H s.heap) (nf : ∀ p ∈ ks, p.1 ∉ frs outer) (h : CR (L2.CX P w) outer P w (dip H ks) s Q E r s') (hq : ∀ v H2, Q v H2 → (∀ p ∈ ks, H2 p.1 = none) → Q' v (lift H2 ks)) (he : ∀ cls d H2, E cls d H2 → (∀ p ∈ ks, H2 p.1 = none) → E' cls d (lift H2 ks)) : CR (L2.CX P w) outer P w H s Q' E' r s' := by
  cases r with
  | error e => exact cx_lift c x nf h he
  | ok fl =>
    cases fl with
    | ret u => exact ce_lift c x nf h hq
    | next => exact h
    | brk => exact h
    | cont => exact h
end
end VL
set_option Elab.async false
set_option linter.all false
set_option maxRecDepth 100000
set_option maxHeartbeats 4000000
/-! VX11: a lambda called elsewhere. -/
namespace VL
open PySem PySem.Spec PyProof.Rows L2 NdefX ClX LamX
def lamNF (q : Str) (pr : Arguments) (sc : Scope) (cl : List (Str × Addr)) (c' : Addr) : NF := ⟨"<lambda>", q, pr, [], sc, cl, c'⟩
section
variable {X : Cx} {pins : List (Addr × Obj)} {σ : L2.St} {H : Hp} {s : Shared} {ks : List (Addr × Obj)} {f c' : Addr} {pr : Arguments} {b : Expr} {sc : Scope} {q : Str} {cl : List (Str × Addr)} {fr : List Str} {vs : List V} {k : Nat}
theorem run_clo {Q Q' : VK} {E E' : XK} {t : TE} (I : Inv X pins σ H s) (c : Cells H ks) (ef : H f = some (LamO f pr b sc q cl c')) (ec : H c' = some (CodeO c' q)) (S : NScope fr [] fr sc) (C : CellsAt cl fr (vs.map some) s.heap (dip H ks)) (hr : Room (k + 1) X.A)
    (hbind : ∀ (pm cv ctv : Value), bindArgs (PySem.W.kla_fn "<lambda>" q pr b sc cl pm cv ctv) ⟨[], []⟩ = pure [])
    (body : ∀ (A : Around) (outer : List Env) (s : Shared) (H : Hp), Room k (A.deeper (envF (lamNF q pr sc cl c') f s.heap.objs.size)) → PE (ncx (L2.CX X.prog X.w) X.prog X.w X.K X.mg X.base fr (lamNF q pr sc cl c') f A outer s H E) b t)
    (hw : t (startF fr [] (vs.map some)) (dip H ks) Q) (hq : ∀ v H2, Q v H2 → (∀ p ∈ ks, H2 p.1 = none) → Q' v (lift H2 ks)) (he : ∀ cls d H2, E cls d H2 → (∀ p ∈ ks, H2 p.1 = none) → E' cls d (lift H2 ks))
    (hx : PassesAt (L2.CX X.prog X.w) X σ E') : wpAny (model X.prog X.w) X.A (call (.ref f) []) (EP X pins σ Q') X.xe s := by
  obtain ⟨⟨pm, ctv, hof⟩, _, _⟩ := I.hok f _ ef
  obtain ⟨⟨oc, vs', tk, hoc, hdc, hvc⟩, _, _⟩ := I.hok c' _ ec
  have nf : ∀ p ∈ ks, p.1 ∉ frs X.stack := fun p hp z => by
    have n := I.stkFree _ z
    rw [c p hp] at n
    cases n
  have rc : codeAny (model X.prog X.w) X.A (.call (.ref f) ⟨[], []⟩) (CR (L2.CX X.prog X.w) X.stack X.prog X.w (dip H ks) s Q E) s := by
    refine PySem.W.kla_callFunE hr.depth hof rfl S.co S.gen rfl ⟨c', oc, vs', tk, rfl, hoc, hdc, hvc⟩ ?_
    rw [hbind]
    refine wpAny_pure (wpAny_newFunctionEnv S.nocell (fun y hy => absurd hy (by simp)) (fun h₁ hns hsb => ⟨I.nolimit.fresh _ hsb, ?_⟩) S.kind)
    show codeAny _ _ (.expr b (envF (lamNF q pr sc cl c') f s.heap.objs.size)) _ _
    have kp : ∀ b o, s.heap.get? b = some o → h₁.get? b = some o := fun b o e => hsb.extBut b o (Nat.ne_of_lt (Heap.lt_size e)) (Heap.get?_push_of_some _ e)
    have J : Inv (ncx (L2.CX X.prog X.w) X.prog X.w X.K X.mg X.base fr (lamNF q pr sc cl c') f X.A X.stack s (dip H ks) E) [] (startF fr [] (vs.map some)) (dip H ks) { s with heap := h₁, toks := s.toks + ([] : List (Str × Value)).length } :=
      inv_startN (F := lamNF q pr sc cl c') S hr.hd (env0_dip I.env0 c) rfl .nil C hns kp
    refine PySem.W.kla_codeExpr (wpAny_mono ((body _ _ s _ (hr.deeper _)).run [] _ _ _ Q J hw) (fun v s' hq => ?_) fun e s' hq => hq)
    obtain ⟨w', H', J', rv, q⟩ := hq
    exact ⟨w', H', J'.os, J'.bare, J'.base, J'.hok, rv, q⟩
  refine wpAny_call (codeAny_mono rc fun r s' h => ?_)
  have h2 := cr_lift (E' := E') c I.hok nf h hq he
  cases r with
  | error e => exact hx pins H s e s' I h2
  | ok fl =>
    cases fl with
    | ret u => exact I.after h2
    | next => exact False.elim h2
    | brk => exact False.elim h2
    | cont => exact False.elim h2
end
end VL
set_option Elab.async false
set_option linter.all false
set_option maxRecDepth 100000
set_option maxHeartbeats 4000000
/-! VX12: a lambda called elsewhere, by values. -/
namespace VL
open PySem PySem.Spec PyProof.Rows L2 NdefX ClX LamX
mutual
/-- no lambda, no exception within -/
def plainD : D → Bool
  | .non => true
  | .bl _ => true
  | .int _ => true
  | .str _ => true
  | .lst xs => plainDs xs
  | .tup xs => plainDs xs
  | .ins _ _ ds => plainDs ds
  | .adr _ => true
  | .ty _ => true
  | .cref _ => true
  | .dct _ ds => plainDs ds
  | .idn _ d => plainD d
  | _ => false
def plainDs : List D → Bool
  | [] => true
  | d :: ds => plainD d && plainDs ds
end
theorem plainDs_iff {ds : List D} : plainDs ds = true ↔ ∀ d ∈ ds, plainD d = true := by
  induction ds with
  | nil => exact ⟨(fun _ _ h => nomatch h), (fun _ => by rw [plainDs])⟩
  | cons d r ih =>
    have e : plainDs (d :: r) = (plainD d && plainDs r) := by rw [plainDs]
    rw [e, Bool.and_eq_true, ih]
    exact ⟨fun ⟨a, b⟩ x hx => by
      rcases List.mem_cons.mp hx with rfl | h
      · exact a
      · exact b x h, fun h => ⟨h d List.mem_cons_self, fun x hx => h x (List.mem_cons_of_mem _ hx)⟩⟩
theorem cell_lst {c : Addr} {ob : Obj} {xs : List V} : HO.lst xs ≠ CellO c ob := fun z => by
  have z' : HO.lst xs = HO.ext _ := z
  cases z'
theorem cell_tup' {c : Addr} {ob : Obj} {xs : List V} : HO.tup xs ≠ CellO c ob := fun z => by
  have z' : HO.tup xs = HO.ext _ := z
  cases z'
theorem cell_ins {c : Addr} {ob : Obj} {C dx : Addr} {fs : List (Str × V)} : HO.ins C dx fs ≠ CellO c ob := fun z => by
  have z' : HO.ins C dx fs = HO.ext _ := z
  cases z'
theorem cell_dK {c : Addr} {ob : Obj} {kvs : List (Key × V)} : HO.dK kvs ≠ CellO c ob := fun z => by
  have z' : HO.dK kvs = HO.ext _ := z
  cases z'
theorem cell_tbl' {c : Addr} {ob : Obj} {ps : Array Value} : HO.tbl ps ≠ CellO c ob := fun z => by
  have z' : HO.tbl ps = HO.ext _ := z
  cases z'
section
variable {K : PySem.W.Frag} {mg : Str → Option Value} {G : Hp} {ks : List (Addr × Obj)}
theorem dip_keep {b : Addr} {u : HO} (c : Cells G ks) (e : G b = some u) (hu : ∀ c ob, u ≠ CellO c ob) : dip G ks b = some u := by
  rw [dip_out (cell_notfix c e hu)]; exact e
mutual
theorem Rep.dip (c : Cells G ks) : ∀ {v d}, Rep K mg G v d → plainD d = true → Rep K mg (dip G ks) v d
  | _, _, .non, _ => .non
  | _, _, .bl, _ => .bl
  | _, _, .int, _ => .int
  | _, _, .str, _ => .str
  | _, _, .lst h r z, p => .lst (dip_keep c h fun _ _ => cell_lst) (Reps.dip c r (by rw [plainD] at p; exact p)) z
  | _, _, .tup h r z, p => .tup (dip_keep c h fun _ _ => cell_tup') (Reps.dip c r (by rw [plainD] at p; exact p)) z
  | _, _, .ins h1 h2 h3 r, p => .ins h1 (dip_keep c h2 fun _ _ => cell_ins) h3 (Reps.dip c r (by rw [plainD] at p; exact p))
  | _, _, .adr, _ => .adr
  | _, _, .ty, _ => .ty
  | _, _, .cref h, _ => .cref h
  | _, _, .dct h1 h2 r, p => .dct (dip_keep c h1 fun _ _ => cell_dK) h2 (Reps.dip c r (by rw [plainD] at p; exact p))
  | _, _, .scr h r, p => by simp [plainD] at p
  | _, _, .exn0 h1 h2, p => by simp [plainD] at p
  | _, _, .exn h1 h2 h3 h4 r, p => by simp [plainD] at p
  | _, _, .cau h1 h2 r, p => by simp [plainD] at p
  | _, _, .lam h0 h1 h2, p => by simp [plainD] at p
  | _, _, .clo h0 h1 h2 h3 h4 r, p => by simp [plainD] at p
  | _, _, .idn h, p => .idn (Rep.dip c h (by rw [plainD] at p; exact p))
theorem Reps.dip (c : Cells G ks) : ∀ {vs ds}, Reps K mg G vs ds → plainDs ds = true → Reps K mg (dip G ks) vs ds
  | _, _, .nil, _ => .nil
  | _, _, .cons h r, p => by
    rw [plainDs, Bool.and_eq_true] at p
    exact .cons (Rep.dip c h p.1) (Reps.dip c r p.2)
end
theorem dip_same (G : Hp) (ks : List (Addr × Obj)) : Same (dip G ks) G := fun b o e => (dip_some e).2
theorem dip_dip {G H : Hp} (h : Same G H) : Same (dip G ks) (dip H ks) := fun b o e => by
  obtain ⟨hb, e'⟩ := dip_some e
  rw [dip_out hb]
  exact h _ _ e'
theorem lift_same {G2 : Hp} (hn : ∀ p ∈ ks, G2 p.1 = none) : Same G2 (lift G2 ks) := fun b o e => by
  rw [lift_out fun z => ?_]
  · exact e
  · obtain ⟨p, hp, ep⟩ := List.mem_map.mp z
    have := hn p hp
    rw [ep, e] at this; cases this
theorem lift_lift {G2 H2 : Hp} (h : Same G2 H2) : Same (lift G2 ks) (lift H2 ks) := fun b o e => by
  by_cases hb : b ∈ ks.map (·.1)
  · obtain ⟨ob, e1, e2⟩ := lookup_mem hb
    unfold lift at e ⊢
    rw [e1] at e ⊢
    exact e
  · rw [lift_out hb] at e ⊢
    exact h _ _ e
theorem lift_at {G2 : Hp} {b : Addr} (hb : b ∈ ks.map (·.1)) : ∃ ob, (b, ob) ∈ ks ∧ lift G2 ks b = some (CellO b ob) := by
  obtain ⟨ob, e1, e2⟩ := lookup_mem hb
  exact ⟨ob, e2, by unfold lift; rw [e1]⟩
theorem sql_dip (c : Cells G ks) {a : Addr} {vs : List V} (h : SqL K G a vs) : SqL K (dip G ks) a vs := by
  rcases h with (h | ⟨o, h⟩) | h
  · exact .inl (.inl (dip_keep c h fun _ _ => cell_lst))
  · exact .inl (.inr ⟨o, dip_keep c h fun _ _ z => cell_frz z.symm⟩)
  · exact .inr h
theorem penOk_dip {cf : Cfg} {H : Hp} {p : Addr} {r : PenS} (c : Cells G ks) (cH : Cells H ks) (h : PenOk cf K G H p r) : PenOk cf K (dip G ks) (dip H ks) p r := by
  obtain ⟨cc, cells, b, l, h1, h2, h3, h4⟩ := h
  refine ⟨cc, cells, b, l, dip_keep cH h1 fun _ _ => cell_dK, ?_, sql_dip c h3, h4⟩
  rw [dip_out (cell_notfix cH h1 fun _ _ => cell_dK)]
  exact h2
theorem penOk_lift {cf : Cfg} {H : Hp} {p : Addr} {r : PenS} (hn : ∀ p ∈ ks, G p.1 = none) (hH : ∀ p ∈ ks, H p.1 = none) (h : PenOk cf K G H p r) : PenOk cf K (lift G ks) (lift H ks) p r := by
  obtain ⟨cc, cells, b, l, h1, h2, h3, h4⟩ := h
  have hp : p ∉ ks.map (·.1) := fun z => by
    obtain ⟨q, hq, eq⟩ := List.mem_map.mp z
    have := hH q hq
    rw [eq, h1] at this; cases this
  exact ⟨cc, cells, b, l, by rw [lift_out hp]; exact h1, by rw [lift_out hp]; exact h2, Same.seq (lift_same hn) h3, h4⟩
/-- After, under the cells, seen from above -/
theorem After.lifted {cf : Cfg} {H G2 H2 : Hp} {pn pn' : Pn} (c : Cells G ks) (cH : Cells H ks) (A : After cf K (dip G ks) (dip H ks) pn G2 H2 pn') (hH : ∀ p ∈ ks, H2 p.1 = none) : After cf K G H pn (lift G2 ks) (lift H2 ks) pn' := by
  have hG : ∀ p ∈ ks, G2 p.1 = none := fun p hp => A.sub.free (hH p hp)
  exact {
  sub := lift_lift A.sub
  ext := fun b o e => by
    by_cases hb : b ∈ ks.map (·.1)
    · obtain ⟨ob, e1, e2⟩ := lift_at (G2 := G2) hb
      have := c _ e1
      rw [e] at this
      rw [e2, this]
    · rw [lift_out hb]
      exact A.ext _ _ (by rw [dip_out hb]; exact e)
  new := fun b o e => by
    by_cases hb : b ∈ ks.map (·.1)
    · obtain ⟨ob, e1, e2⟩ := lift_at (G2 := G2) hb
      rw [e2] at e
      cases e
      exact .inl (c _ e1)
    · rw [lift_out hb] at e
      rcases A.new _ _ e with q | q
      · exact .inl (dip_some q).2
      · rw [dip_out hb] at q; exact .inr q
  keep := fun b o e hp hx => by
    by_cases hb : b ∈ ks.map (·.1)
    · obtain ⟨ob, e1, e2⟩ := lift_at (G2 := H2) hb
      have := cH _ e1
      rw [e] at this
      rw [e2, this]
    · rw [lift_out hb]
      exact A.keep _ _ (by rw [dip_out hb]; exact e) hp hx
  pen := fun p r e => penOk_lift hG hH (A.pen p r e)
  adr := A.adr
  tbl := fun b ps e => by
    have hb := cell_notfix cH e fun _ _ => cell_tbl'
    obtain ⟨ps', q⟩ := A.tbl b ps (by rw [dip_out hb]; exact e)
    exact ⟨ps', by rw [lift_out hb]; exact q⟩
  tabs := fun p hp => by
    obtain ⟨ps, q, g, _⟩ := A.tabs p hp
    have hb : p.1 ∉ ks.map (·.1) := fun z => by
      obtain ⟨w, hw, ew⟩ := List.mem_map.mp z
      have := hH w hw
      rw [ew, q] at this; cases this
    exact (A.tabs p hp).mono (lift_same hG) (fun ps e => by rw [lift_out hb]; exact e) (fun e => by rw [lift_out hb]; exact e) }
theorem tabG_dip {H : Hp} {P : Addr} {q : Str} (c : Cells G ks) (cH : Cells H ks) (hc : ∀ b ∈ ks.map (·.1), ∀ q, G b ≠ some (CodeO b q)) (t : TabG G H P q) : TabG (dip G ks) (dip H ks) P q := by
  obtain ⟨ps, h1, h2, h3, h4⟩ := t
  refine ⟨ps, dip_keep cH h1 fun _ _ => cell_tbl', ?_, h3, fun pos cv hcv => ?_⟩
  · rw [dip_out (cell_notfix cH h1 fun _ _ => cell_tbl')]; exact h2
  · obtain ⟨c', e1, e2⟩ := h4 pos cv hcv
    refine ⟨c', e1, ?_⟩
    rw [dip_out fun z => hc _ z _ e2]; exact e2
theorem ExRep.mono {G G' : Hp} (s : Same G G') {cls : Value} {d : Option Addr} {x : ExD} (h : ExRep K mg G cls d x) : ExRep K mg G' cls d x := by
  obtain ⟨C, h1, h2, h3⟩ := h
  refine ⟨C, h1, h2, h3.imp id fun ⟨dd, fs, a, b, c, d⟩ => ⟨dd, fs, a, s _ _ b, c, d.mono s⟩⟩
/-- the cells of a closure, each with its object -/
theorem mk_ks : ∀ {cl : List (Str × Addr)} {vs : List V}, vs.length = cl.length → (∀ (i : Nat) (x : Str) (c : Addr) (v : V), cl[i]? = some (x, c) → vs[i]? = some v → ∃ ob u, G c = some (CellO c ob) ∧ ob.data = .cell (some u) ∧ RelV v u) →
    ∃ ks : List (Addr × Obj), ks.map (·.1) = cl.map (·.2) ∧ Cells G ks ∧ ∀ p ∈ ks, ∃ u, p.2.data = .cell (some u)
  | [], _, _, _ => ⟨[], rfl, (fun _ h => nomatch h), (fun _ h => nomatch h)⟩
  | (x, c) :: cl, [], h, _ => nomatch h
  | (x, c) :: cl, v :: vs, h, hall => by
    obtain ⟨ks, e1, e2, e3⟩ := mk_ks (cl := cl) (vs := vs) (by simpa using h) fun i y c v a b => hall (i + 1) y c v (by simpa using a) (by simpa using b)
    obtain ⟨ob, u, g, hd, r⟩ := hall 0 x c v rfl rfl
    refine ⟨(c, ob) :: ks, by rw [List.map_cons, List.map_cons, e1], fun p hp => ?_, fun p hp => ?_⟩
    · rcases List.mem_cons.mp hp with rfl | hp
      · exact g
      · exact e2 p hp
    · rcases List.mem_cons.mp hp with rfl | hp
      · exact ⟨u, hd⟩
      · exact e3 p hp
end
theorem lookup_nodup : ∀ {cl : List (Str × Addr)} {i : Nat} {y : Str} {c : Addr}, (cl.map (·.1)).Nodup → cl[i]? = some (y, c) → cl.lookup y = some c
  | [], _, _, _, _, h => by simp at h
  | (x, a) :: cl, 0, y, c, nd, h => by
    simp at h
    obtain ⟨rfl, rfl⟩ := h
    simp [List.lookup]
  | (x, a) :: cl, i + 1, y, c, nd, h => by
    have h' : cl[i]? = some (y, c) := by simpa using h
    have nd' := List.nodup_cons.mp (by simpa using nd : (x :: cl.map (·.1)).Nodup)
    have hx : y ≠ x := fun z => nd'.1 (by rw [← z]; exact List.mem_map.mpr ⟨(y, c), List.mem_of_getElem? h', rfl⟩)
    have e : (y == x) = false := by simpa using hx
    simp only [List.lookup, e]
    exact lookup_nodup nd'.2 h'
/-- a lambda's deed: run on what its cells hold it ends in Qv or Ev -/
def deedRun (P : Program) (w : World) (K : PySem.W.Frag) (mg : Str → Option Value) (base : Heap) (cf : Cfg) (k : Nat) (pr : Arguments) (b : Expr) (sc : Scope) (q : Str) (cl : List (Str × Addr)) (ws : List D) (pn : Pn) (Qv : D → Pn → Prop) (Ev : ExD → Pn → Prop) : Prop :=
  plainDs ws = true ∧ ∃ fr : List Str, cl.map (·.1) = fr ∧ NScope fr [] fr sc ∧ (∀ (cl : List (Str × Addr)) (pm cv ctv : Value), bindArgs (PySem.W.kla_fn "<lambda>" q pr b sc cl pm cv ctv) ⟨[], []⟩ = pure []) ∧
  ∀ (Qv' : D → Pn → Prop) (Ev' : ExD → Pn → Prop), (∀ d p, Qv d p → Qv' d p) → (∀ x p, Ev x p → Ev' x p) → ∀ (c' f : Addr) (A : Around) (outer : List Env) (s : Shared) (H : Hp) (E : XK) (G0 H0 : Hp),
    Room k (ncx (L2.CX P w) P w K mg base fr (lamNF q pr sc cl c') f A outer s H E).A → Takes (ncx (L2.CX P w) P w K mg base fr (lamNF q pr sc cl c') f A outer s H E) (WV (ncx (L2.CX P w) P w K mg base fr (lamNF q pr sc cl c') f A outer s H E) (bodyCv cf G0 H0 pn Ev')) →
    VE (ncx (L2.CX P w) P w K mg base fr (lamNF q pr sc cl c') f A outer s H E) (bodyCv cf G0 H0 pn Ev') ⟨startρ fr.length ws, pn⟩ b fun d S => Qv' d (outPn pn S.pn)
theorem deedRun.imp {P : Program} {w : World} {K : PySem.W.Frag} {mg : Str → Option Value} {base : Heap} {cf : Cfg} {k : Nat} {pr : Arguments} {b : Expr} {sc : Scope} {q : Str} {cl : List (Str × Addr)} {ws : List D} {pn : Pn} {Qv Qv' : D → Pn → Prop} {Ev Ev' : ExD → Pn → Prop}
    (h : deedRun P w K mg base cf k pr b sc q cl ws pn Qv Ev) (h1 : ∀ d p, Qv d p → Qv' d p) (h2 : ∀ x p, Ev x p → Ev' x p) : deedRun P w K mg base cf k pr b sc q cl ws pn Qv' Ev' := by
  obtain ⟨a, fr, b, c, d, e⟩ := h
  exact ⟨a, fr, b, c, d, fun Q2 E2 g1 g2 => e Q2 E2 (fun d p z => g1 d p (h1 d p z)) (fun x p z => g2 x p (h2 x p z))⟩
section
variable {X : Cx} {c : Cv} {S : State} {Q : D → State → Prop} {k : Nat} {pr : Arguments} {b : Expr} {sc : Scope} {q : Str} {cl : List (Str × Addr)} {ws : List D} {x : Str} {p pos : Pos}
theorem code_notcell {P : Program} {w : World} {G H : Hp} {h : Heap} {ks : List (Addr × Obj)} (s : Same G H) (hok : HOk P w H h) (cG : Cells G ks) (hd : ∀ p ∈ ks, ∃ u, p.2.data = .cell (some u)) : ∀ a ∈ ks.map (·.1), ∀ q, G a ≠ some (CodeO a q) := fun a ha q e => by
  obtain ⟨pq, hp, rfl⟩ := List.mem_map.mp ha
  obtain ⟨u, hu⟩ := hd pq hp
  have e1 : h.get? pq.1 = some pq.2 := (hok _ _ (s _ _ (cG pq hp))).1
  obtain ⟨oc, vs, t, h1, h2, h3⟩ := (hok _ _ (s _ _ e)).1
  rw [e1] at h1
  cases h1
  rw [hu] at h2; cases h2
theorem start_eq {fr : List Str} {vs : List V} : startF fr [] (vs.map some) = L2.start fr vs := by
  unfold startF L2.start
  simp
/-- f(), f a name that holds a lambda -/
theorem ve_act (i : Nat) (hρ : S.ρ[i]? = some (.val (.clo pr b sc q cl ws))) (hr : Room (k + 1) X.A) (tk : Takes X (WV X c))
    (h : deedRun X.prog X.w X.K X.mg X.base c.cf k pr b sc q cl ws S.pn (fun d pn' => Q d { S with pn := pn' }) (fun y pn' => c.EV y { S with pn := pn' })) (hN : X.N[i]? = some x := by rfl) (hv : Vis X.env.scope x := by first | exact Or.inl rfl | exact Or.inr (Or.inl rfl) | exact Or.inr (Or.inr rfl))
    (hdb : (x == ("__debug__" : Str)) = false := by decide) (hcd : (x == ("__classdict__" : Str)) = false := by decide) : VE X c S (.Call (.Name x p) [] [] pos) Q := fun σ G H hd pins s I => by
  obtain ⟨o, e1, v, e2, r⟩ := hd.slots i _ hρ
  subst e2
  cases r with
  | @clo f c' _ _ _ _ _ vs _ inj hf hc hl hcell hrep =>
  obtain ⟨hpl, fr, hfr, hS, hbind, hbody⟩ := h
  refine wpAny_Call_Name_kw (thn ((pe_var (pos := p) hN hv hdb hcd).run pins s σ H (fun v H1 => v = .ref f ∧ H1 = H) I ⟨.ref f, e1, rfl, rfl⟩) fun u s1 ⟨v, H1, I1, r1, q1⟩ => ?_)
  obtain ⟨ev, eH⟩ := q1
  subst ev
  rw [eH] at I1
  obtain rfl : u = Value.ref f := r1
  have hfH := hd.sub _ _ hf
  have hcH := hd.sub _ _ hc
  obtain ⟨⟨pm, ctv, hof⟩, _, _⟩ := I1.hok f _ hfH
  refine PySem.W.callWith_F0 (first := []) ⟨_, _, _, _, hof⟩ ?_
  show wpAny _ _ (call (.ref f) []) _ _ _
  obtain ⟨ks, k1, k2, k3⟩ := mk_ks (G := G) hl hcell
  have kH : Cells H ks := fun p hp => hd.sub _ _ (k2 p hp)
  have lens : ws.length = fr.length := by rw [← hrep.length, hl, ← hfr, List.length_map]
  have C : CellsAt cl fr (vs.map some) s1.heap (dip H ks) := by
    refine ⟨by rw [List.length_map, hl, ← hfr, List.length_map], fun y a e => ?_, inj, fun j y e => ?_⟩
    · have hm : a ∈ ks.map (·.1) := by rw [k1]; exact List.mem_map.mpr ⟨(y, a), PySem.mem_of_lookup e, rfl⟩
      obtain ⟨pq, hp, rfl⟩ := List.mem_map.mp hm
      obtain ⟨u, hu⟩ := k3 pq hp
      exact ⟨dip_in hm, some u, pq.2, cells_at kH I1.hok hp, hu⟩
    · rw [← hfr, List.getElem?_map] at e
      obtain ⟨⟨y', a⟩, h1, h2⟩ := Option.map_eq_some_iff.mp e
      have h2' : y' = y := h2
      subst h2'
      refine ⟨a, lookup_nodup (by rw [hfr]; exact hS.nd) h1, fun v e2 => ?_⟩
      rw [List.getElem?_map] at e2
      obtain ⟨v', g1, g2⟩ := Option.map_eq_some_iff.mp e2
      cases g2
      obtain ⟨ob, u, g3, g4, g5⟩ := hcell j _ _ _ h1 g1
      exact ⟨u, g5, ob, (I1.hok _ _ (hd.sub _ _ g3)).1, g4⟩
  have ht : ∀ p ∈ c.cf.tb, TabG (dip G ks) (dip H ks) p.1 p.2 := fun p hp => tabG_dip k2 kH (code_notcell hd.sub I1.hok k2 k3) (hd.tabs p hp)
  refine run_clo (k := k) (Q := fun v H2 => ∃ d pn' G2, After c.cf X.K (dip G ks) (dip H ks) S.pn G2 H2 pn' ∧ Rep X.K X.mg G2 v d ∧ Q d { S with pn := pn' }) (Q' := pE X c σ G Q)
    (E := fun cls dd H2 => ∃ y pn' G2, After c.cf X.K (dip G ks) (dip H ks) S.pn G2 H2 pn' ∧ ExRep X.K X.mg G2 cls dd y ∧ c.EV y { S with pn := pn' }) (E' := WE (WV X c) σ)
    (t := fun σ H2 Q => ∀ A outer s H', Room k (A.deeper (envF (lamNF q pr sc cl c') f s.heap.objs.size)) → tE (ncx (L2.CX X.prog X.w) X.prog X.w X.K X.mg X.base fr (lamNF q pr sc cl c') f A outer s H' (fun cls dd H2 => ∃ y pn' G2, After c.cf X.K (dip G ks) (dip H ks) S.pn G2 H2 pn' ∧ ExRep X.K X.mg G2 cls dd y ∧ c.EV y { S with pn := pn' })) b σ H2 Q)
    I1 kH hfH hcH hS C hr (fun pm cv ctv => hbind cl pm cv ctv) (fun A outer s H' hr' => ⟨fun pins s' σ' H2 Q I' h' => h' A outer s H' hr' pins s' I'⟩) ?_ ?_ ?_ (passAt tk σ)
  · intro A outer s' H' hr'
    have tk0 : Takes (ncx (L2.CX X.prog X.w) X.prog X.w X.K X.mg X.base fr (lamNF q pr sc cl c') f A outer s' H' (fun cls dd H2 => ∃ y pn' G2, After c.cf X.K (dip G ks) (dip H ks) S.pn G2 H2 pn' ∧ ExRep X.K X.mg G2 cls dd y ∧ c.EV y { S with pn := pn' })) (fun cls dd _ H2 => ∃ y pn' G2, After c.cf X.K (dip G ks) (dip H ks) S.pn G2 H2 pn' ∧ ExRep X.K X.mg G2 cls dd y ∧ c.EV y { S with pn := pn' }) := takes_of rfl rfl rfl rfl
    have b := hbody _ _ (fun d p z => z) (fun x p z => z) c' f A outer s' H' _ (dip G ks) (dip H ks) hr' (tk0.imp fun cls dd σ' H2 ⟨S', G', y, h1, rx, qq⟩ => ⟨y, _, G', h1.done, rx, qq⟩)
    have h0 := Hd.start (cf := c.cf) (pn := S.pn) (N := fr) (Ev := fun y pn' => c.EV y { S with pn := pn' }) (dip_dip (ks := ks) hd.sub) (hrep.dip k2 hpl) (fun p r e => penOk_dip k2 kH (hd.pen p r e).1) (by rw [lens]; exact Nat.le_refl _) ht
    rw [start_eq]
    exact tE_mono (b _ _ _ h0) fun v H2 ⟨d, S', G', h1, s1, rv, qq⟩ => ⟨d, _, G', h1.done, rv, qq⟩
  · intro v H2 ⟨d, pn', G2, A, rv, qq⟩ gone
    have hG : ∀ p ∈ ks, G2 p.1 = none := fun p hp => A.sub.free (gone p hp)
    have A' := A.lifted k2 kH gone
    exact ⟨d, _, _, hd.after A', A'.ext, rv.mono (lift_same hG), qq⟩
  · intro cls dd H2 ⟨y, pn', G2, A, rx, qq⟩ gone
    have hG : ∀ p ∈ ks, G2 p.1 = none := fun p hp => A.sub.free (gone p hp)
    have A' := A.lifted k2 kH gone
    exact ⟨_, _, y, hd.after A', rx.mono (lift_same hG), qq⟩
end
end VL
set_option Elab.async false
set_option linter.all false
set_option maxRecDepth 100000
set_option maxHeartbeats 4000000
/-! VX13: a def called with lambdas of one's own; comprehensions whose elements do so. -/
namespace VL
open PySem PySem.Spec PyProof.Rows L2 NdefX ClX LamX
/-- at any state that keeps S: the closure's cells hold ws -/
def CapG (Pa : Addr → Prop) (X : Cx) (c : Cv) (S : State) (cl : List (Str × Addr)) (ws : List D) : Prop := ∀ σ G H pins s, HdX X c S σ G H → Inv X pins σ H s → ∃ vs, Reps X.K X.mg G vs ws ∧ vs.length = cl.length ∧
  ∀ (i : Nat) (x : Str) (a : Addr) (v : V), cl[i]? = some (x, a) → vs[i]? = some v → H a = none ∧ X.base.get? a = none ∧ a ∉ frs X.stack ∧ Pa a ∧ ∃ ob u, s.heap.get? a = some ob ∧ ob.data = .cell (some u) ∧ RelV v u
abbrev CapV (X : Cx) (c : Cv) (S : State) (cl : List (Str × Addr)) (ws : List D) : Prop := CapG (fun _ => True) X c S cl ws
/-- .. they are the owner's -/
abbrev CapO (X : Cx) (c : Cv) (S : State) (cl : List (Str × Addr)) (ws : List D) : Prop := CapG (fun a => ∃ y, X.env.cells.lookup y = some a) X c S cl ws
theorem CapG.any {Pa : Addr → Prop} {X : Cx} {c : Cv} {S : State} {cl : List (Str × Addr)} {ws : List D} (h : CapG Pa X c S cl ws) : CapV X c S cl ws := fun σ G H pins s hd I => by
  obtain ⟨vs, c1, c2, c3⟩ := h σ G H pins s hd I
  refine ⟨vs, c1, c2, fun i x a v e1 e2 => ?_⟩
  obtain ⟨n1, n2, n3, _, n4⟩ := c3 i x a v e1 e2
  exact ⟨n1, n2, n3, trivial, n4⟩
/-- where the captured names' values stand -/
inductive CapL (X : Cx) (S : State) : List Str → List D → Prop
  | nil : CapL X S [] []
  | cons {y w fr ws} (j : Nat) : S.ρ[j]? = some (.val w) → X.N[j]? = some y → X.env.scope.names.lookup y = some .cell → X.fn y = true → CapL X S fr ws → CapL X S (y :: fr) (w :: ws)
theorem capL_vs {X : Cx} {c : Cv} {S : State} {σ : L2.St} {G H : Hp} (hd : HdX X c S σ G H) : ∀ {fr : List Str} {ws : List D}, CapL X S fr ws → ∃ vs : List V, Reps X.K X.mg G vs ws ∧ vs.length = fr.length ∧ ∀ (i : Nat) (y : Str) (v : V), fr[i]? = some y → vs[i]? = some v → ∃ j : Nat, X.N[j]? = some y ∧ σ[j]? = some (some v) ∧ X.env.scope.names.lookup y = some .cell ∧ X.fn y = true
  | _, _, .nil => ⟨[], .nil, rfl, fun i y v h => by simp at h⟩
  | _, _, .cons j h1 h2 h3 h4 r => by
    obtain ⟨vs, q1, q2, q3⟩ := capL_vs hd r
    obtain ⟨o, e1, v, e2, rv⟩ := hd.slots j _ h1
    subst e2
    refine ⟨v :: vs, .cons rv q1, by rw [List.length_cons, List.length_cons, q2], fun i y v' a b => ?_⟩
    cases i with
    | zero =>
      simp at a b
      subst a; subst b
      exact ⟨j, h2, e1, h3, h4⟩
    | succ i => exact q3 i y v' (by simpa using a) (by simpa using b)
theorem cap_own {X : Cx} {c : Cv} {S : State} {sc : Scope} {fr : List Str} {ws : List D} (L : LamS X.env.scope sc) (hfr : (cloFrom X.env.cells sc.names []).map (·.1) = fr) (nd : fr.Nodup) (h : CapL X S fr ws) : CapO X c S (cloFrom X.env.cells sc.names []) ws := fun σ G H pins s hd I => by
  obtain ⟨vs, q1, q2, q3⟩ := capL_vs hd h
  have hl : vs.length = (cloFrom X.env.cells sc.names []).length := by rw [q2, ← hfr, List.length_map]
  refine ⟨vs, q1, hl, fun i x a v e1 e2 => ?_⟩
  have hx : fr[i]? = some x := by rw [← hfr, List.getElem?_map, e1]; rfl
  obtain ⟨j, g1, g2, g3, g4⟩ := q3 i x v hx e2
  have hla := lookup_nodup (by rw [hfr]; exact nd) e1
  have hca : X.env.cells.lookup x = some a := clo_cm (L.has I.ok) hla
  have ab := I.ok.cab x a g4 hca
  refine ⟨I.freeC x a hca, Heap.get?_none_of_le (Nat.le_trans I.ok.bsz ab), fun z => ?_, ⟨x, hca⟩, ?_⟩
  · rcases List.mem_cons.mp (I.stkSub a z) with z | z
    · exact I.cne x a hca z
    · obtain ⟨_, o, ho, _⟩ := I.ok.funs.mem z
      exact absurd (Nat.lt_of_lt_of_le (Heap.lt_size ho) ab) (Nat.lt_irrefl _)
  · obtain ⟨m, hn, hloc⟩ := I.loc
    obtain ⟨u, ru, lk⟩ := hloc j x v g1 g2 (.inr (.inl g3))
    rcases lk with ⟨z, _⟩ | ⟨_, a', ha', o, ho, hdta⟩
    · have z' : X.env.scope.names.lookup x = some .local := z
      rw [g3] at z'; cases z'
    · rw [hca] at ha'
      cases ha'
      exact ⟨o, u, ho, hdta, ru⟩
section
variable {X : Cx} {c : Cv} {S : State} {e a b elt tg iter : Expr} {ifs : List Expr} {es : List Expr} {σ : L2.St} {G G' H : Hp} {pos : Pos} {Q : D → State → Prop} {k : Nat} {x : Str} {dd : List D} {ct : Ct}
theorem lift_in {ks : List (Addr × Obj)} (hf : ∀ p ∈ ks, ∀ q ∈ ks, p.1 = q.1 → p.2 = q.2) {p : Addr × Obj} (hp : p ∈ ks) : lift G ks p.1 = some (CellO p.1 p.2) := by
  obtain ⟨ob, e1, e2⟩ := lift_at (G2 := G) (List.mem_map_of_mem (f := (·.1)) hp)
  rw [e2, hf p hp (p.1, ob) e1 rfl]
/-- After, above the cells, seen from below -/
theorem After.dipped {K : PySem.W.Frag} {cf : Cfg} {P : Program} {w : World} {h2 : Heap} {ks : List (Addr × Obj)} {pn pn' : Pn} (hf : ∀ p ∈ ks, ∀ q ∈ ks, p.1 = q.1 → p.2 = q.2) (hn : ∀ p ∈ ks, H p.1 = none) (hs : Same G H) (hd : ∀ p ∈ ks, ∃ u, p.2.data = .cell (some u)) {G2 H2 : Hp}
    (A : After cf K (lift G ks) (lift H ks) pn G2 H2 pn') (hok : HOk P w H2 h2) : Cells G2 ks ∧ Cells H2 ks ∧ After cf K G H pn (dip G2 ks) (dip H2 ks) pn' := by
  have hG : ∀ p ∈ ks, G p.1 = none := fun p hp => hs.free (hn p hp)
  have cG : Cells G2 ks := fun p hp => A.ext _ _ (lift_in hf hp)
  have cH : Cells H2 ks := fun p hp => A.sub _ _ (cG p hp)
  have nG : ∀ {b o}, G b = some o → b ∉ ks.map (·.1) := fun {b o} e z => by
    obtain ⟨q, hq, rfl⟩ := List.mem_map.mp z
    rw [hG q hq] at e; cases e
  have nH : ∀ {b o}, H b = some o → b ∉ ks.map (·.1) := fun {b o} e z => by
    obtain ⟨q, hq, rfl⟩ := List.mem_map.mp z
    rw [hn q hq] at e; cases e
  exact ⟨cG, cH, {
    sub := dip_dip A.sub
    ext := fun b o e => by
      rw [dip_out (nG e)]
      exact A.ext _ _ (by rw [lift_out (nG e)]; exact e)
    new := fun b o e => by
      obtain ⟨hb, e'⟩ := dip_some e
      have q := A.new _ _ e'
      rw [lift_out hb, lift_out hb] at q
      exact q
    keep := fun b o e hp hx => by
      rw [dip_out (nH e)]
      exact A.keep _ _ (by rw [lift_out (nH e)]; exact e) hp hx
    pen := fun p r e => penOk_dip cG cH (A.pen p r e)
    adr := A.adr
    tbl := fun b ps e => by
      obtain ⟨ps', q⟩ := A.tbl b ps (by rw [lift_out (nH e)]; exact e)
      exact ⟨ps', by rw [dip_out (nH e)]; exact q⟩
    tabs := fun p hp => tabG_dip cG cH (code_notcell A.sub hok cG hd) (A.tabs p hp) }⟩
theorem mk_ks2 {Pd : Addr → Obj → Prop} : ∀ {cl : List (Str × Addr)} {vs : List V}, vs.length = cl.length → (∀ (i : Nat) (x : Str) (c : Addr) (v : V), cl[i]? = some (x, c) → vs[i]? = some v → ∃ ob, Pd c ob) →
    ∃ ks : List (Addr × Obj), ks.map (·.1) = cl.map (·.2) ∧ ∀ p ∈ ks, Pd p.1 p.2
  | [], _, _, _ => ⟨[], rfl, (fun _ h => nomatch h)⟩
  | (x, c) :: cl, [], h, _ => nomatch h
  | (x, c) :: cl, v :: vs, h, hall => by
    obtain ⟨ks, e1, e2⟩ := mk_ks2 (cl := cl) (vs := vs) (by simpa using h) fun i y c v a b => hall (i + 1) y c v (by simpa using a) (by simpa using b)
    obtain ⟨ob, g⟩ := hall 0 x c v rfl rfl
    refine ⟨(c, ob) :: ks, by rw [List.map_cons, List.map_cons, e1], fun p hp => ?_⟩
    rcases List.mem_cons.mp hp with rfl | hp
    · exact g
    · exact e2 p hp
/-- x(lambda, ..), x a def -/
theorem ve_callL {p : Pos} (F : VFn X.prog X.w X.K X.mg X.base c.cf k x dd ct) (hr : Room k X.A)
    (h : VA X c S (e :: es) fun ds S1 => ∃ pr b sc q cl ws rest, ds = .lam pr b sc q cl :: rest ∧ CapV X c S1 cl ws ∧ ct.run (.clo pr b sc q cl ws :: rest ++ dd) S1.pn (fun d pn' => plainD d = true ∧ Q d { S1 with pn := pn' }) (fun _ _ => False)) (hg : Gl X x := by rfl)
    (hdb : (x == ("__debug__" : Str)) = false := by decide) (he : starEach (e :: es) X.env = (false, eval e X.env) :: starEach es X.env := by rfl) (hpl : (backTo pos (starEach es X.env)).any (·.1) = false := by rfl) :
    VE X c S (.Call (.Name x p) (e :: es) [] pos) Q := fun σ G H hd pins s I => by
  obtain ⟨f, fd, ps, dvs, ds, ok, hm, hk, hb, hv, hdd⟩ := F.ex
  refine wpAny_Call_Name_kw (ld_glob I hg hm ?_ hdb)
  refine PySem.W.callWith_K (h₀ := X.base) I.ok.mod.kin hk (thn (h σ G H hd pos pins s I) fun us s1 ⟨vs, H1, I1, r, q⟩ => ⟨I1.kIn, ?_⟩) he hpl
  show wpAny _ _ (call (.ref f) us) _ _ _
  obtain ⟨ds1, S1, G1, h1, sg, r1, pr, b, sc, qn, cl, ws, rest, rfl, cap, run⟩ := q
  obtain ⟨vsC, c1, c2, c3⟩ := cap σ G1 H1 pins s1 h1 I1
  obtain ⟨ks, k1, k2⟩ := mk_ks2 (Pd := fun a ob => H1 a = none ∧ X.base.get? a = none ∧ a ∉ frs X.stack ∧ s1.heap.get? a = some ob ∧ ∃ u, ob.data = .cell (some u)) c2 (fun i x a v g1 g2 => by
    obtain ⟨n1, n2, n3, _, ob, u, n4, n5, _⟩ := c3 i x a v g1 g2
    exact ⟨ob, n1, n2, n3, n4, u, n5⟩)
  have hn : ∀ p ∈ ks, H1 p.1 = none := fun p hp => (k2 p hp).1
  have hG : ∀ p ∈ ks, G1 p.1 = none := fun p hp => h1.sub.free (hn p hp)
  have hget : ∀ p ∈ ks, s1.heap.get? p.1 = some p.2 := fun p hp => (k2 p hp).2.2.2.1
  have hdt : ∀ p ∈ ks, ∃ u, p.2.data = .cell (some u) := fun p hp => (k2 p hp).2.2.2.2
  have hf : ∀ p ∈ ks, ∀ q ∈ ks, p.1 = q.1 → p.2 = q.2 := fun p hp q hq e => by
    have e1 := hget p hp
    rw [e, hget q hq] at e1
    exact (Option.some.inj e1).symm
  have nbase : ∀ {b}, b ∈ ks.map (·.1) → X.base.get? b = none := fun {b} z => by
    obtain ⟨q, hq, rfl⟩ := List.mem_map.mp z
    exact (k2 q hq).2.1
  have nfr : ∀ {b}, b ∈ ks.map (·.1) → b ∉ frs X.stack := fun {b} z => by
    obtain ⟨q, hq, rfl⟩ := List.mem_map.mp z
    exact (k2 q hq).2.2.1
  have nH : ∀ {b o}, H1 b = some o → b ∉ ks.map (·.1) := fun {b o} e z => by
    obtain ⟨q, hq, rfl⟩ := List.mem_map.mp z
    rw [hn q hq] at e; cases e
  have E0 := I1.env0
  have E1 : Env0 X.prog X.w X.K X.mg X.base X.A X.stack s1 (lift H1 ks) := ⟨E0.frames, E0.mod, fun b o e => ⟨(E0.bs b o e).1, by
      rw [lift_out fun z => by rw [nbase z] at e; cases e]; exact (E0.bs b o e).2⟩, E0.bsz, E0.funs, fun b hb => by
      rw [lift_out fun z => nfr z hb]; exact E0.frf b hb, hok_lift I1.hok hn hget, E0.bare⟩
  cases r1 with
  | @cons v0 _ vs0 _ rv0 rvs =>
  have sm : Same G1 (lift G1 ks) := lift_same hG
  have rclo : Rep X.K X.mg (lift G1 ks) v0 (.clo pr b sc qn cl ws) := by
    cases rv0 with
    | @lam f' c' _ _ _ _ _ g0 g1 g2 =>
      refine .clo g0 (sm _ _ g1) (sm _ _ g2) c2 (fun i x a v e1 e2 => ?_) (c1.mono sm)
      obtain ⟨_, _, _, _, ob, u, n4, n5, n6⟩ := c3 i x a v e1 e2
      have hm' : a ∈ ks.map (·.1) := by rw [k1]; exact List.mem_map.mpr ⟨(x, a), List.mem_of_getElem? e1, rfl⟩
      obtain ⟨ob', e3, e4⟩ := lift_at (G2 := G1) hm'
      have e5 := hget _ e3
      rw [n4] at e5
      cases e5
      exact ⟨ob', u, e4, n5, n6⟩
  have r2 := r.append hv
  have hsp : spV c.cf X.K X.mg ct (v0 :: vs0 ++ dvs) (lift H1 ks) (fun v H' => ∃ d pn' G', After c.cf X.K (lift G1 ks) (lift H1 ks) S1.pn G' H' pn' ∧ Rep X.K X.mg G' v d ∧ plainD d = true ∧ Q d { S1 with pn := pn' }) (fun _ _ _ => False) := by
    refine ⟨lift G1 ks, _, S1.pn, lift_lift h1.sub, ((Reps.cons rclo (rvs.mono sm)).append (hdd.mono same_none)), fun p r e => penOk_lift hG hn (h1.pen p r e).1, fun p hp => ?_, ct.mono run (fun d pn' z v G' H' A rv => ⟨d, pn', G', A, rv, z.1, z.2⟩) (fun x pn' z => z.elim)⟩
    obtain ⟨ps', t1, t2, _⟩ := h1.tabs p hp
    exact (h1.tabs p hp).mono sm (fun ps e => by rw [lift_out (nH e)]; exact e) (fun e => by rw [lift_out (nH t1)]; exact e)
  have hl : (us ++ ds).length = ps.length := by rw [← r2.length]; exact ok.len _ _ _ _ hsp
  refine wpAny_call (codeAny_mono (ok.run X.A X.stack s1 _ ⟨us, []⟩ (us ++ ds) _ _ _ hr E1 (hb s1 us I1.kIn hl) r2 hsp) fun rs s' hq => ?_)
  cases rs with
  | error e =>
    obtain ⟨_, _, _, _, _, _, _, _, _, _, _, _, z⟩ := hq
    exact z.elim
  | ok fl =>
    cases fl with
    | next => exact False.elim hq
    | brk => exact False.elim hq
    | cont => exact False.elim hq
    | ret u =>
      obtain ⟨v, H2, os, bare, un, hok2, rv, d, pn', G', A, rd, pl, qq⟩ := hq
      obtain ⟨cG, cH, A'⟩ := A.dipped hf hn h1.sub hdt hok2
      refine I1.after ⟨v, dip H2 ks, os, bare, ?_, hok_dip cH hok2, rv, d, _, dip G' ks, h1.after A', sg.trans A'.ext, rd.dip cG pl, qq⟩
      have lo : ∀ {b}, b ∉ ks.map (·.1) → H1 b = none → lift H1 ks b = none := fun hb e => by rw [lift_out hb]; exact e
      exact {
        keep := fun b o e n hb hx => by
          by_cases z : b ∈ ks.map (·.1)
          · obtain ⟨q, hq, rfl⟩ := List.mem_map.mp z
            rw [hget q hq] at e
            cases e
            exact cells_at cH hok2 hq
          · exact un.keep b o e (lo z n) hb hx
        slot := fun b o e n hb hx => un.slot b o e (lo (fun z => nfr z hb) n) hb hx
        free := fun b o e n hx => by
          by_cases z : b ∈ ks.map (·.1)
          · exact dip_in z
          · rw [dip_out z]; exact un.free b o e (lo z n) hx
        there := un.there
        tups := fun b xs e => by
          have z := nH e
          rw [dip_out z]; exact un.tups b xs (by rw [lift_out z]; exact e)
        frzs := fun b o u e => by
          have z := nH e
          rw [dip_out z]; exact un.frzs b o u (by rw [lift_out z]; exact e)
        tbls := fun b ps e => by
          have z := nH e
          obtain ⟨more, q⟩ := un.tbls b ps (by rw [lift_out z]; exact e)
          exact ⟨more, by rw [dip_out z]; exact q⟩ }
end
end VL
set_option Elab.async false
set_option linter.all false
set_option maxRecDepth 100000
set_option maxHeartbeats 4000000
/-! VX14: comprehensions over lists whose elements call defs with the owner's lambdas (the loop's rule turned from the library's lc_core: the element's premise knows the owner's state at the block's entry). -/
namespace VL
open PySem PySem.Spec PyProof.Rows L2 NdefX ClX LamX
section
variable {X : Cx}
/-- HandS.Comp's wish, the element's rule told of the heap at the block's entry -/
def tLcI (wi : TI) (g : TG) (tt : TT) (te : Hp → TE) (vs : List Nat) : TE := fun σ H Q => wi σ H fun J H1 => ∀ D, H1 D = none → ∃ W : Nat → Nat → Hp → Prop, (∃ m, W 0 m (upd H1 D (.lst []))) ∧ ∀ i m H, W i m H →
  (J.stop i H ∧ Q (.ref D) H) ∨ (J.go i H ∧ ∃ Nx : Hp → Prop, (∀ H', Nx H' → ∃ m', m' < m ∧ W (i + 1) m' H') ∧ ∀ x H', J.yld i H x H' → g x (wipe σ vs) H' fun σ2 H2 => wipe σ2 vs = wipe σ vs ∧ tt σ2 H2 fun b H3 =>
    if b = true then te (upd H1 D (.lst [])) σ2 H3 fun y H4 => ∃ acc, H4 D = some (.lst acc) ∧ acc.length < sizeLine ∧ Nx (upd H4 D (.lst (acc ++ [y]))) else Nx H3)
theorem lc_coreI {pins : List (Addr × Obj)} {s : Shared} {σ : L2.St} {H : Hp} {Q : VK} {elt tg iter : Expr} {ifs : List Expr} {scope : Scope} {own : List (Str × Nat)} {pos pos' : Pos} {wi : TI} {g : TG} {tt : TT} {te : Hp → TE} {use : Option (Value → Sem Unit)} {Qf : Value → Shared → Prop}
    (hc : X.calm = true) (hN : X.N.Nodup) (I : Inv X pins σ H s) (hi : PI X tg iter wi) (ok : BlkOk X.N X.env.scope scope own)
    (hg : ∀ (s : Shared) (H : Hp) (C : Addr) (cl : List (Str × Addr)) (fp : List Addr), PG (X.blk s H scope (compEnvC scope cl C X.env) fp) tg g) (ht : ∀ (s : Shared) (H : Hp) (C : Addr) (cl : List (Str × Addr)) (fp : List Addr), PTs (X.blk s H scope (compEnvC scope cl C X.env) fp) ifs tt)
    (he : ∀ (s : Shared) (H : Hp) (C : Addr) (cl : List (Str × Addr)) (fp : List Addr), Inv X pins σ H s → (∀ b ∈ fp, FpOk X pins H b) → PE (X.blk s H scope (compEnvC scope cl C X.env) fp) elt (te H)) (hs : ∀ x, foldedSetIterable iter X.env x = pure x)
    (h : tLcI wi g tt te (own.map (·.2)) σ H Q)
    (hRR : ∀ D C s' m H', Inv X pins σ H' s' → Q (.ref D) H' → s'.heap.Ns C m → FpOk X pins H' C → compPost (model X.prog X.w) X.A X.xe use Qf (.ref D) C (.ok .next) s') :
    wpAny (model X.prog X.w) X.A (comprehension (.ListComp elt [⟨tg, iter, ifs, 0⟩] scope pos) scope X.env pos' (newList []) false (eval iter X.env) use) Qf X.xe s := by
  have hfree : ∀ y ∈ scope.names, y.2 = .free → ∃ c, X.env.cells.lookup y.1 = some c := fun y hy e => by
    rcases ok.free y hy e with k | k
    · exact I.ok.has _ (.inl k)
    · exact I.ok.has _ (.inr k)
  refine wpAny_comprehension_free (use := use) rfl hs (closure_ok hfree) ok.kind (fun y hy e => by rw [ok.uniq y hy, e])
    (thn (hi.run pins s σ H _ I h) fun xv s1 hx => thn hx fun itv s2 h2 => ?_)
  obtain ⟨it, fp, tn, J, H2, e, I2, T, st2, f2, q⟩ := h2
  subst e
  refine wpAny_newObj_type (newEnv_comp ?_) (by show 0 ≤ sizeLine; decide)
  generalize hD : s2.heap.objs.size = D
  have hDn : H2 D = none := I2.hok.fresh (Nat.le_of_eq hD)
  obtain ⟨W, ⟨m0, w0⟩, turn⟩ := q D hDn
  -- the new list
  generalize hs3 : ({ s2 with heap := s2.heap.push { cls := .type "list", data := .seq ([] : List Value).toArray } } : Shared) = s3
  have I3 : Inv X pins σ (upd H2 D (.lst [])) s3 := by
    rw [← hs3]
    refine I2.laid (t' := s2.toks) (fun b o e => Heap.get?_push_of_some _ e) (Nat.le_of_eq hD) ⟨Nat.zero_le _, [], 0, .nil, ?_⟩
    rw [← hD]
    exact Heap.get?_push_size _ rfl
  have h3 : s3.heap = s2.heap.push { cls := .type "list", data := .seq ([] : List Value).toArray } := by rw [← hs3]
  have sz : ∀ b ∈ fp, b < s2.heap.objs.size := fun b hb => by
    obtain ⟨o, e, _⟩ := T.obj _ _ st2 b hb
    exact Heap.lt_size e
  have f3 : ∀ b ∈ fp, FpOk X pins (upd H2 D (.lst [])) b ∧ b < s3.heap.objs.size := fun b hb => by
    have hlt := sz b hb
    refine ⟨⟨?_, (f2 b hb).2⟩, by rw [h3, Heap.size_push]; exact Nat.lt_succ_of_lt hlt⟩
    rw [upd_ne (by rw [← hD]; exact Nat.ne_of_lt hlt)]
    exact (f2 b hb).1
  have st3 : tn 0 s3.heap := T.keep _ _ _ st2 fun b _ o e => by rw [h3]; exact Heap.get?_push_of_some _ e
  have I4 := block_start I3 ok hN f3
  have pg := hg s3 (upd H2 D (.lst [])) s3.heap.objs.size (cellsFrom (s3.heap.objs.size + 1) scope.names (cloFrom X.env.cells scope.names [])) fp
  have pt := ht s3 (upd H2 D (.lst [])) s3.heap.objs.size (cellsFrom (s3.heap.objs.size + 1) scope.names (cloFrom X.env.cells scope.names [])) fp
  have pe := he s3 (upd H2 D (.lst [])) s3.heap.objs.size (cellsFrom (s3.heap.objs.size + 1) scope.names (cloFrom X.env.cells scope.names [])) fp I3 (fun b hb => (f3 b hb).1)
  show codeAny _ _ (.compStart (.ListComp elt [⟨tg, iter, ifs, 0⟩] scope pos) 0 (.ref it) (.ref D) (compEnvC scope (cellsFrom (s3.heap.objs.size + 1) scope.names (cloFrom X.env.cells scope.names [])) s3.heap.objs.size X.env)) (compPost (model X.prog X.w) X.A X.xe use Qf (.ref D) s3.heap.objs.size) { s3 with heap := pushCells (s3.heap.push { cls := .type "dict", data := .dict #[] }) scope.names }
  have nfp : ∀ b ∈ fp, (upd H2 D (.lst [])) b = none := fun b hb => (f3 b hb).1.1
  generalize hce : compEnvC scope (cellsFrom (s3.heap.objs.size + 1) scope.names (cloFrom X.env.cells scope.names [])) s3.heap.objs.size X.env = ce at I4 pg pt pe ⊢
  have cL : ce.locals = s3.heap.objs.size := by subst hce; rfl
  generalize hH3 : upd H2 D (.lst []) = H3 at I3 I4 pg pt pe w0 nfp f3 turn
  generalize hs4 : ({ s3 with heap := pushCells (s3.heap.push { cls := .type "dict", data := .dict #[] }) scope.names } : Shared) = s4 at I4 ⊢
  have st4 : tn 0 s4.heap := T.keep _ _ _ st3 fun b _ o e => by rw [← hs4]; exact pushCells_keeps _ _ _ _ (Heap.get?_push_of_some _ e)
  have stat : ∀ {σ' : L2.St} {H' : Hp} {s' : Shared}, Inv (X.blk s3 H3 scope ce fp) [] σ' H' s' → (∀ b ∈ fp, H' b = none) → ∀ b ∈ fp, FpOk (X.blk s3 H3 scope ce fp) [] H' b := fun {σ' H' s'} I' hn b hb =>
    ⟨hn b hb, (I'.ok.exf b hb).1, I'.ok.exfs b hb, .inl hb, fun x c e => (I'.ok.exf b hb).2 x c e, fun p hp => absurd (show p ∈ ([] : List (Addr × Obj)) ++ [] from hp) (by simp)⟩
  have loop : codeAny (model X.prog X.w) X.A (.compLoop (.ListComp elt [⟨tg, iter, ifs, 0⟩] scope pos) 0 (.ref it) (.ref D) ce) (compPost (model X.prog X.w) X.A X.xe use Qf (.ref D) s3.heap.objs.size) s4 := by
    refine compLoop_any (fun n s' => ∃ i H', Inv (X.blk s3 H3 scope ce fp) [] (wipe σ (own.map (·.2))) H' s' ∧ tn i s'.heap ∧ (∀ b ∈ fp, H' b = none) ∧ W i n H') ?_ m0 ⟨0, H3, I4, st4, nfp, w0⟩
    rintro n s5 ⟨i, H5, I5, st5, n5, w5⟩
    rcases turn i n H5 w5 with ⟨stop, qq⟩ | ⟨go, Nx, hNx, step⟩
    · have td := T.done (X.blk s3 H3 scope ce fp) rfl rfl rfl hc i [] s5 _ H5 (fun _ _ => False) I5 (stat I5 n5) st5 stop
      refine thnF td fun r s6 ⟨hr, I6⟩ => ?_
      subst hr
      -- back in the def's context
      have I7 : Inv X pins σ H5 s6 := I3.call' (ch := fp) I6.os I6.base I6.hok I6.bare fun b hb => ⟨(f3 b hb).1.2.2.2.1, (f3 b hb).1.2.1, (f3 b hb).1.2.2.2.2.1, (f3 b hb).1.2.2.2.2.2⟩
      have nC : H5 s3.heap.objs.size = none := by
        have z : H5 ce.locals = none := I6.free
        rw [cL] at z
        exact z
      obtain ⟨m, hn, _⟩ := I6.loc
      have hn : s6.heap.Ns ce.locals m := hn
      rw [cL] at hn
      exact hRR D s3.heap.objs.size s6 m H5 I7 qq hn (I3.fpOk (Nat.le_refl _) nC)
    · have ti := T.item (X.blk s3 H3 scope ce fp) rfl rfl rfl hc i [] s5 _ H5 (fun _ _ => False) I5 (stat I5 n5) st5 go
      refine thnF ti fun r s6 ⟨u, hr, h6⟩ => ?_
      subst hr
      refine thnF h6 fun _ s7 ⟨x, H7, I7, r7, y7, st7, n7⟩ => ?_
      have I7' := I7.pinned (stat I7 n7) (T.obj _ _ st7)
      refine thnF (pg.run _ s7 _ H7 x u _ I7' r7 (step x H7 y7)) fun _ s8 ⟨σ8, H8, I8, hw8, q8⟩ => ?_
      refine thnF (pt.run _ s8 σ8 H8 _ I8 q8) fun b s9 ⟨H9, I9, q9⟩ => ?_
      -- the turn's end
      have fin : ∀ {s' : Shared} {H' : Hp}, Inv (X.blk s3 H3 scope ce fp) ([] ++ pinsAt fp s7.heap) σ8 H' s' → Nx H' → ∃ m, m < n ∧ ∃ i H', Inv (X.blk s3 H3 scope ce fp) [] (wipe σ (own.map (·.2))) H' s' ∧ tn i s'.heap ∧ (∀ b ∈ fp, H' b = none) ∧ W i m H' := fun {s' H'} I' nx => by
        obtain ⟨m', hm, w'⟩ := hNx H' nx
        have pin' : ∀ b ∈ fp, ∀ o, s7.heap.get? b = some o → s'.heap.get? b = some o ∧ H' b = none := fun b hb o e =>
          let z := I'.pin (b, o) (List.mem_append_right _ (List.mem_append_right _ (mem_pinsAt hb e)))
          ⟨z.1, z.2.1⟩
        have hl : (wipe σ (own.map (·.2))).length = σ8.length := by rw [← hw8, wipe_length]
        refine ⟨m', hm, i + 1, H', (I'.unpinned (pins := [])).weak hl (fun j v e => ?_), T.keep _ _ _ st7 fun b hb o e => (pin' b hb o e).1, fun b hb => ?_, w'⟩
        · rw [← hw8] at e
          exact (wipe_some e).1
        · obtain ⟨o, e, _⟩ := T.obj _ _ st7 b hb
          exact (pin' b hb o e).2
      cases b with
      | false =>
        simp only [Bool.false_eq_true, if_false] at q9 ⊢
        exact fin I9 q9
      | true =>
        simp only [if_true] at q9 ⊢
        refine thnF (pe.run _ s9 σ8 H9 _ I9 q9) fun z s10 ⟨yv, H10, I10, r10, acc, hD10, hz10, nx⟩ => ?_
        exact app_ok (X := X.blk s3 H3 scope ce fp) I10 hD10 hz10 r10 fun s11 I11 => fin I11 nx
  exact codeAny_compStart_list loop (T.self X.A 0 _ _ _ st4 loop)
end
/-- the block begins at s0: the owner's state is known there -/
def BlkAt (X : Cx) (c : Cv) (S1 : State) (s0 : Shared) (H0 : Hp) (fp : List Addr) (Gb : Hp) : Prop := ∃ σ0 G0 pins pn, HdX X c ⟨S1.ρ, pn⟩ σ0 G0 H0 ∧ Inv X pins σ0 H0 s0 ∧ (∀ b ∈ fp, FpOk X pins H0 b) ∧ Same G0 Gb
theorem cap_blk {X : Cx} {c : Cv} {S1 : State} {s0 : Shared} {H0 : Hp} {fp : List Addr} {Gb Hb : Hp} {pn : Pn} {S : State} {scope : Scope} {C : Addr} {cl cl' : List (Str × Addr)} {ws : List D} (cap : ∀ pn, CapO X c ⟨S1.ρ, pn⟩ cl ws) (B : BlkAt X c S1 s0 H0 fp Gb) :
    CapV (bkX X scope s0 H0 C cl' fp) (blkCv c Gb Hb pn) S cl ws := fun σ G H pins s hd I => by
  obtain ⟨σ0, G0, pins0, pn0, h0, I0, hfp, sg⟩ := B
  obtain ⟨vs, c1, c2, c3⟩ := cap pn0 σ0 G0 H0 pins0 s0 h0 I0
  have sG : Same Gb G := hd.ext0
  refine ⟨vs, c1.mono (sg.trans sG), c2, fun i x a v e1 e2 => ?_⟩
  obtain ⟨n1, n2, n3, ⟨y, n4⟩, ob, u, n5, n6, n7⟩ := c3 i x a v e1 e2
  have nfp : a ∉ fp := fun z => (hfp a z).2.2.2.2.1 y a n4 rfl
  have un : Un (frs X.stack) fp H0 H s0.heap s.heap := I.base
  exact ⟨un.free a ob n5 n1 nfp, n2, n3, trivial, ob, u, un.keep a ob n5 n1 n3 nfp, n6, n7⟩
section
variable {X : Cx} {c : Cv} {S : State} {e a b elt tg iter : Expr} {es : List Expr} {st : Stmt} {σ : L2.St} {G G' H : Hp} {pos : Pos} {Q : D → State → Prop}
/-- one turn, the owner's state at the block's entry known -/
def LcTurnI (X : Cx) (c : Cv) (S1 : State) (scope : Scope) (elt : Expr) (ρ : List Sl) (I : Nat → List D → Pn → Prop) (i : Nat) (acc : List D) (pn : Pn) : Prop :=
  ∀ s0 H0 C cl fp Gb Hb, BlkAt X c S1 s0 H0 fp Gb → VE (bkX X scope s0 H0 C cl fp) (blkCv c Gb Hb pn) ⟨ρ, pn⟩ elt fun y S4 => I (i + 1) (acc ++ [y]) (outPn pn S4.pn)
theorem ve_lcLI {scope : Scope} {own : List (Str × Nat)} {g : TG} {asg : D → List Sl → Option (List Sl)} (hc : X.calm = true) (hN : X.N.Nodup) (ok : BlkOk X.N X.env.scope scope own) (tgo : TgOk X g (own.map (·.2)) asg)
    (hg : ∀ (s : Shared) (H : Hp) (C : Addr) (cl : List (Str × Addr)) (fp : List Addr), PG (X.blk s H scope (compEnvC scope cl C X.env) fp) tg g)
    (h : VE X c S iter fun d S1 => ∃ ds, d = .lst ds ∧ ∃ I : Nat → List D → Pn → Prop, I 0 [] S1.pn ∧ (∀ i d acc pn, ds[i]? = some d → I i acc pn → ∃ ρ, asg d (wipeρ S1.ρ (own.map (·.2))) = some ρ ∧ LcTurnI X c S1 scope elt ρ I i acc pn) ∧ ∀ acc pn, I ds.length acc pn → Q (.lst acc) ⟨S1.ρ, pn⟩)
    (hs : ∀ x, foldedSetIterable iter X.env x = pure x := by intro _; rfl) : VE X c S (.ListComp elt [⟨tg, iter, [], 0⟩] scope pos) Q := fun σ G H hd pins0 s I0 => by
  rw [eval_ListComp]
  refine lc_coreI (te := fun Hs σ' H' Q => ∀ s0 C cl fp, Inv X pins0 σ Hs s0 → (∀ b ∈ fp, FpOk X pins0 Hs b) → tE (bkX X scope s0 Hs C cl fp) elt σ' H' Q) (Q := pE X c σ G Q) hc hN I0 (pi_list (pe_sem (e := iter))) ok hg (fun _ _ _ _ _ => pts_nil) (fun s0 Hs C cl fp I1 f1 => ⟨fun pins s' σ' H' Q I h => h s0 C cl fp I1 f1 pins s' I⟩) hs ?_ fun D C s' m H' I' q hn f => ⟨m, hn, fun h'' sb => ?_⟩
  · refine tE_mono (h σ G H hd) fun v H1 ⟨d, S1, G1, h1, s1, r1, ds, e, I, h0, turn, fin⟩ => ?_
    subst e
    have hlen := lst_len r1
    obtain ⟨a, vs, e1, hv, rv⟩ := rep_lst r1
    subst e1
    refine ⟨a, rfl, ⟨vs, .inl (.inl (h1.sub _ _ hv))⟩, fun Dl hD => ?_⟩
    have hD0 := h0_of h1 hD
    have hsD := hsD_of h1 hD
    refine lc_list (K := X.K) (a := a) (xs := vs) (te := fun σ' H' Q => ∀ s0 C cl fp, Inv X pins0 σ (upd H1 Dl (.lst [])) s0 → (∀ b ∈ fp, FpOk X pins0 (upd H1 Dl (.lst [])) b) → tE (bkX X scope s0 (upd H1 Dl (.lst [])) C cl fp) elt σ' H' Q) (PvL X c S1 σ G1 Dl I) (pvL_start h1 hD h0) (fun i H _ ⟨_, _, _, G', h2, s2, _⟩ => .inl (.inl (h2.sub _ _ (s2 _ _ hv)))) (fun i x H hi p => ?_) (fun H p => ?_)
    · obtain ⟨dx, e2, r2⟩ := rv.getV hi
      have hi' : i < ds.length := (List.getElem?_eq_some_iff.mp e2).1
      obtain ⟨acc, pn, accV, G', h2, s2, hDl, gD, rA, hl, hI⟩ := p
      obtain ⟨ρ, eρ, tn⟩ := turn i dx acc pn e2 hI
      have hb : Hd X.K X.mg (blkCv c G' H pn) ⟨wipeρ S1.ρ (own.map (·.2)), pn⟩ (wipe σ (own.map (·.2))) G' H := (h2.rebase (S := ⟨S1.ρ, pn⟩)).wiped _
      refine tgo (blkCv c G' H pn) ⟨wipeρ S1.ρ (own.map (·.2)), pn⟩ (wipe σ (own.map (·.2))) G' H x dx ρ hb (r2.mono s2) eρ _ fun σ2 h3 hw => ?_
      refine ⟨by rw [hw, wipe_wipe], ?_⟩
      have hpnD : ∀ r, pn ≠ some (Dl, r) := fun r e => by
        obtain ⟨kvs, q⟩ := (h2.pen Dl r e).1.at
        rw [hDl] at q; cases q
      simp only [tYes, if_true]
      intro s0 C cl fp I3 f3
      refine tE_mono (tn s0 _ C cl fp G' H ⟨σ, G1, pins0, S1.pn, h1.after (h1.allocH hD), I3, f3, s2⟩ σ2 G' H h3) fun y H4 ⟨dy, S4, G4, h4, s4, ry, hI'⟩ => ?_
      have A := h4.blkDone
      have h5 : HdX X c ⟨S1.ρ, outPn pn S4.pn⟩ σ G4 H4 := h2.after A
      have hD4 : H4 Dl = some (.lst accV) := A.keep _ _ hDl hpnD (fun _ z => nomatch z)
      have gD4 : G4 Dl = none := by
        cases z : G4 Dl with
        | none => rfl
        | some u =>
          rcases A.new _ _ z with q | q
          · rw [gD] at q; cases q
          · rw [hDl] at q; cases q
      exact ⟨accV, hD4, by rw [rA.length]; omega, acc ++ [dy], _, accV ++ [y], G4, h5.aside hD4 gD4 hD0 hsD, s2.trans A.ext, upd_same, gD4, (rA.mono A.ext).append (.cons ry .nil), by simp; omega, hI'⟩
    · rw [rv.length] at p
      exact pE_back s1 (pvL_end hD0 hsD hlen fin p)
  · obtain ⟨f0, f1, f2, f3, f4, f5⟩ := f
    exact ⟨.ref D, H', I'.turned (t' := s'.toks) (fun b o hb e => (sb.2 b hb).trans e) f0 f1 f3 f4 f5, rfl, q⟩
end
end VL
set_option Elab.async false
set_option linter.all false
set_option maxRecDepth 100000
set_option maxHeartbeats 4000000
/-! VX15: identities, slices, min of a list, isinstance with several classes, calls with keywords. -/
namespace VL
open PySem PySem.Spec PyProof.Rows L2 NdefX ClX LamX
/-- what a value is, its identity forgotten -/
def core : D → D
  | .idn _ d => d
  | d => d
section
variable {X : Cx} {c : Cv} {S : State} {e a b : Expr} {es : List Expr} {st : Stmt} {sts : List Stmt} {σ : L2.St} {G G' H : Hp} {pos : Pos} {Q : D → State → Prop} {QT : Bool → State → Prop} {E : VD}
theorem rep_core {v : V} {d : D} (r : RepX X G v d) : RepX X G v (core d) := by
  cases r with
  | idn r => exact r
  | _ => first
    | exact .non | exact .bl | exact .int | exact .str | exact .adr | exact .ty
    | exact .lst (by assumption) (by assumption) (by assumption)
    | exact .tup (by assumption) (by assumption) (by assumption)
    | exact .ins (by assumption) (by assumption) (by assumption) (by assumption)
    | exact .cref (by assumption)
    | exact .dct (by assumption) (by assumption) (by assumption)
    | exact .scr (by assumption) (by assumption)
    | exact .exn0 (by assumption) (by assumption)
    | exact .exn (by assumption) (by assumption) (by assumption) (by assumption) (by assumption)
    | exact .cau (by assumption) (by assumption) (by assumption)
    | exact .lam (by assumption) (by assumption) (by assumption)
    | exact .clo (by assumption) (by assumption) (by assumption) (by assumption) (by assumption) (by assumption)
theorem VE.core (h : VE X c S e fun d S1 => Q (core d) S1) : VE X c S e Q := fun σ G H hd => tE_mono (h σ G H hd) fun v H' ⟨d, S', G', h1, s1, r, q⟩ => ⟨_, S', G', h1, s1, rep_core r, q⟩
/-- a name's value, its identity forgotten -/
theorem ve_valC (i : Nat) {x : Str} {d : D} (hρ : S.ρ[i]? = some (.val d)) (q : Q (core d) S) (hN : X.N[i]? = some x := by rfl) (hv : Vis X.env.scope x := by first | exact Or.inl rfl | exact Or.inr (Or.inl rfl) | exact Or.inr (Or.inr rfl))
    (hd : (x == ("__debug__" : Str)) = false := by decide) (hcd : (x == ("__classdict__" : Str)) = false := by decide) : VE X c S (.Name x pos) Q := VE.core (ve_val i hρ q hN hv hd hcd)
/-- a slot's object gets its identity -/
def isRef : D → Bool
  | .lst _ => true
  | .tup _ => true
  | .ins _ _ _ => true
  | .dct _ _ => true
  | _ => false
theorem vss_idn (i : Nat) {d : D} (hρ : S.ρ[i]? = some (.val d)) (hr : isRef d = true) (h : ∀ a, VSs X c (S.put i (.val (.idn a d))) sts E) : VSs X c S sts E := fun σ G H hd => by
  obtain ⟨o, e1, v, e2, r⟩ := hd.slots i _ hρ
  subst e2
  have hv : ∃ a, v = .ref a := by
    cases r <;> first | exact ⟨_, rfl⟩ | cases hr
  obtain ⟨a, rfl⟩ := hv
  refine h a σ G H ?_
  have h2 := hd.setVal (i := i) (Rep.idn r)
  have e3 : σ.set i (some (.ref a)) = σ := by
    apply List.ext_getElem?
    intro j
    by_cases q : i = j
    · subst q
      have hl : i < σ.length := (List.getElem?_eq_some_iff.mp e1).1
      rw [List.getElem?_set_self hl, e1]
    · rw [List.getElem?_set_ne q]
  rw [e3] at h2
  exact h2
/-! ### == of two lists of one item that is the same object -/
def rEqX (K : PySem.W.Frag) : R2 := fun x y H Q => rEqAll K x y H Q ∨ rEqV K x y H Q
theorem op_eqX {k : Nat} (hr : Room k X.A) (hu : X.A.units + 64 < cLine) : OpR X (compareOp .Eq) (rEqX X.K) := (op_eqAll hr).or (op_eqV hu)
/-- a value that == itself within a list -/
def selfEq2 (d : D) : Prop := (∃ a d', d = .idn a d') ∨ ∃ p, d.toPy = some p ∧ SeqAt.shaped (.list [p]) = true ∧ PyData.eqv (.list [p]) (.list [p]) = true
theorem rb_eqOne {d : D} (h : selfEq2 d) (q : Q (.bl true) S) : RB X c S (rEqX X.K) (.lst [d]) (.lst [d]) Q := by
  rcases h with ⟨a, d', rfl⟩ | ⟨p, h1, h2, h3⟩
  · intro σ G H u v hd ru rv R hR
    obtain ⟨p1, xs, rfl, g1, r1⟩ := rep_lst ru
    obtain ⟨p2, ys, rfl, g2, r2⟩ := rep_lst rv
    obtain ⟨x1, rfl, k1⟩ := reps1 r1
    obtain ⟨x2, rfl, k2⟩ := reps1 r2
    cases k1 with
    | idn k1 =>
      cases k2 with
      | idn k2 =>
        exact .inr ⟨1, by decide, .inl ⟨p1, p2, _, _, rfl, rfl, .inl (.inl (hd.sub _ _ g1)), .inl (.inl (hd.sub _ _ g2)), .cons (.inr (.inl ⟨_, rfl, rfl⟩)) .nil⟩, hR _ _ (pE_ret hd .bl q)⟩
  · have hp : (D.lst [d]).toPy = some (.list [p]) := by
      show (D.toPy.go [d]).map _ = _
      show ((D.toPy d).bind fun p => (D.toPy.go []).map (p :: ·)).map _ = _
      rw [h1]; rfl
    refine (rb_eqAD hp hp h2 h2 ?_).or1
    rw [h3]
    exact q
/-! ### slices of lists -/
def cutD (xs : List D) (lo hi : Option Int) : List D := (xs.drop (HT.sIx xs.length 0 lo)).take (HT.sIx xs.length xs.length hi - HT.sIx xs.length 0 lo)
theorem reps_cut {K : PySem.W.Frag} {mg : Str → Option Value} {vs : List V} {ds : List D} (lo hi : Option Int) (r : Reps K mg G vs ds) : Reps K mg G (cutV vs lo hi) (cutD ds lo hi) := by
  unfold cutV cutD
  rw [r.length]
  exact (r.drop _).take _
theorem cutD_le (xs : List D) (lo hi : Option Int) : (cutD xs lo hi).length ≤ xs.length := by
  unfold cutD
  rw [List.length_take, List.length_drop]
  omega
theorem ve_slU {p2 : Pos} (h : VE X c S a fun d S1 => ∃ ds, d = .lst ds ∧ VE X c S1 b fun u S2 => ∃ i, u = .int i ∧ Q (.lst (cutD ds none (some i))) S2) : VE X c S (.Subscript a (.Slice none (some b) none p2) pos) Q := fun σ G H hd => by
  refine tE_of (pe_slice sl_list pe_sem po_none (po_some pe_sem)) (tE_mono (h σ G H hd) fun v H1 ⟨d, S1, G1, h1, s1, r1, ds, e, q1⟩ => ?_)
  subst e
  have hlen := lst_len r1
  obtain ⟨p, xs, rfl, g1, r1⟩ := rep_lst r1
  refine tE_mono (q1 σ G1 H1 h1) fun w H2 ⟨u, S2, G2, h2, s2, r2, i, e2, q2⟩ => ?_
  subst e2
  refine ⟨i, rep_int r2, p, xs, rfl, .inl (.inl (h2.sub _ _ (s2 _ _ g1))), fun l hl => ?_⟩
  exact pE_back (s1.trans s2) (pE_new h2 hl (.lst upd_same ((reps_cut none (some i) (r1.mono s2)).mono (same_upd (h2.sub.free hl))) (Nat.le_trans (cutD_le _ _ _) hlen)) q2)
theorem ve_slL {p2 : Pos} (h : VE X c S a fun d S1 => ∃ ds, d = .lst ds ∧ VE X c S1 b fun u S2 => ∃ i, u = .int i ∧ Q (.lst (cutD ds (some i) none)) S2) : VE X c S (.Subscript a (.Slice (some b) none none p2) pos) Q := fun σ G H hd => by
  refine tE_of (pe_slice sl_list pe_sem (po_some pe_sem) po_none) (tE_mono (h σ G H hd) fun v H1 ⟨d, S1, G1, h1, s1, r1, ds, e, q1⟩ => ?_)
  subst e
  have hlen := lst_len r1
  obtain ⟨p, xs, rfl, g1, r1⟩ := rep_lst r1
  refine tE_mono (q1 σ G1 H1 h1) fun w H2 ⟨u, S2, G2, h2, s2, r2, i, e2, q2⟩ => ?_
  subst e2
  refine ⟨i, rep_int r2, p, xs, rfl, .inl (.inl (h2.sub _ _ (s2 _ _ g1))), fun l hl => ?_⟩
  exact pE_back (s1.trans s2) (pE_new h2 hl (.lst upd_same ((reps_cut (some i) none (r1.mono s2)).mono (same_upd (h2.sub.free hl))) (Nat.le_trans (cutD_le _ _ _) hlen)) q2)
/-- xs[lo::st] -/
def stepD {α : Type} (xs : List α) (lo st : Int) : List α := (sliceRange (max 0 (min lo xs.length)) xs.length st).filterMap (xs[·]?)
theorem reps_pick {K : PySem.W.Frag} {mg : Str → Option Value} {vs : List V} {ds : List D} (r : Reps K mg G vs ds) : ∀ ns : List Nat, Reps K mg G (ns.filterMap (vs[·]?)) (ns.filterMap (ds[·]?))
  | [] => .nil
  | n :: ns => by
    cases hv : vs[n]? with
    | none =>
      have hd : ds[n]? = none := by
        rw [List.getElem?_eq_none_iff] at hv ⊢
        rw [← r.length]; exact hv
      rw [List.filterMap_cons_none hv, List.filterMap_cons_none hd]
      exact reps_pick r ns
    | some v =>
      obtain ⟨d, h1, h2⟩ := r.getV hv
      rw [List.filterMap_cons_some hv, List.filterMap_cons_some h1]
      exact .cons h2 (reps_pick r ns)
theorem vals_pick {vs : List V} {us : List Value} (r : Vals vs us) : ∀ ns : List Nat, Vals (ns.filterMap (vs[·]?)) (ns.filterMap (us[·]?))
  | [] => .nil
  | n :: ns => by
    cases hv : vs[n]? with
    | none =>
      have hd : us[n]? = none := by
        rw [List.getElem?_eq_none_iff] at hv ⊢
        rw [← r.length]; exact hv
      rw [List.filterMap_cons_none hv, List.filterMap_cons_none hd]
      exact vals_pick r ns
    | some v =>
      obtain ⟨d, h1, h2⟩ := r.get hv
      rw [List.filterMap_cons_some hv, List.filterMap_cons_some h1]
      exact .cons h2 (vals_pick r ns)
theorem stepD_le {α : Type} (xs : List α) {lo st : Int} (h : 1 ≤ st) : (stepD xs lo st).length ≤ xs.length := by
  unfold stepD
  refine Nat.le_trans (List.length_filterMap_le _ _) (sliceRange_length_le _ _ _ _ (fun _ => ⟨by omega, by omega⟩) fun z => by omega)
theorem ve_slStep {b2 : Expr} {p2 : Pos} (h : VE X c S a fun d S1 => ∃ ds, d = .lst ds ∧ VE X c S1 b fun u S2 => ∃ i, u = .int i ∧ 0 ≤ i ∧ VE X c S2 b2 fun w S3 => ∃ k, w = .int k ∧ 1 ≤ k ∧ Q (.lst (stepD ds i k)) S3) :
    VE X c S (.Subscript a (.Slice (some b) none (some b2) p2) pos) Q := fun σ G H hd pins s I => by
  refine Subscript_ (thn (h σ G H hd pins s I) fun v s1 ⟨x, H1, I1, rv, d, S1, G1, h1, sg1, r1, ds, e, q1⟩ => ?_)
  subst e
  have hlen := lst_len r1
  obtain ⟨p, xs, rfl, g1, r1⟩ := rep_lst r1
  cases rv
  refine wpAny_Slice ?_
  rw [evalPart_some]
  refine thn (q1 σ G1 H1 h1 pins s1 I1) fun vl s2 ⟨x2, H2, I2, rv2, u, S2, G2, h2, sg2, r2, i, e2, hi0, q2⟩ => ?_
  subst e2
  rw [rep_int r2] at rv2
  obtain ⟨t2, rfl⟩ := rv2
  rw [evalPart_none]
  refine wpAny_pure ?_
  rw [evalPart_some]
  refine thn (q2 σ G2 H2 h2 pins s2 I2) fun vk s3 ⟨x3, H3, I3, rv3, w, S3, G3, h3, sg3, r3, k, e3, hk, q3⟩ => ?_
  subst e3
  rw [rep_int r3] at rv3
  obtain ⟨t3, rfl⟩ := rv3
  have I4 : Inv X pins σ H3 { s3 with heap := s3.heap.push { cls := .type "slice", data := .fields #[.int i t2, .none, .int k t3] } } := I3.kept (t' := s3.toks) fun b ob q => Heap.get?_push_of_some _ q
  have gx : H3 p = some (.lst xs) := h3.sub _ _ (sg3 _ _ (sg2 _ _ g1))
  obtain ⟨its, rs, ht, hz⟩ := I4.list (xs := xs) (.inl (.inl gx) : SqL X.K H3 p xs)
  have hl2 := rs.length
  refine tail_any (ops := [.ref p, .ref s3.heap.objs.size]) ht.isList.typeIs slot_list_getitem.lookup ?_ (by with_unfolding_all rfl)
  refine wpAny_getItem_list_slice ht.isList (Heap.IsSliceOf.new ..) (.int i t2) .none (.int k t3) (by simp; omega) ?_ (by rw [List.size_toArray]; omega)
  have hp : slicePick its.toArray (some i) none (some k) = ((sliceRange (max 0 (min i its.length)) its.length k).filterMap (its[·]?)).toArray := by
    unfold slicePick sliceBounds
    have hk0 : k > 0 := by omega
    have hi1 : ¬ i < 0 := by omega
    simp only [Option.getD_some, hk0, if_true, hi1, if_false, List.size_toArray]
    have ef : (fun n : Nat => its.toArray[n]?) = fun n : Nat => its[n]? := by funext n; simp
    rw [ef]
  have r4 := vals_pick rs (sliceRange (max 0 (min i its.length)) its.length k)
  have len3 : (sliceRange (max 0 (min i xs.length)) xs.length k).length ≤ xs.length := sliceRange_length_le _ _ _ _ (fun _ => ⟨by omega, by omega⟩) fun z => by omega
  rw [hp, ← hl2]
  rw [← hl2] at r4
  refine ⟨.ref (s3.heap.push { cls := .type "slice", data := .fields #[.int i t2, .none, .int k t3] }).objs.size, _, I4.laid (t' := s3.toks) (o := .lst ((sliceRange (max 0 (min i xs.length)) xs.length k).filterMap (xs[·]?))) (fun b ob q => Heap.get?_push_of_some _ q) (Nat.le_refl _) ?_, rfl, ?_⟩
  · exact ⟨Nat.le_trans (Nat.le_trans (List.length_filterMap_le _ _) len3) hz, _, 0, r4, Heap.get?_push_size _ rfl⟩
  · have hl := I4.hok.fresh (Nat.le_refl (s3.heap.push { cls := .type "slice", data := .fields #[.int i t2, .none, .int k t3] }).objs.size)
    refine pE_back ((sg1.trans sg2).trans sg3) (pE_new h3 hl (.lst upd_same ?_ (Nat.le_trans (stepD_le ds hk) hlen)) q3)
    have rr := reps_pick (r1.mono (sg2.trans sg3)) (sliceRange (max 0 (min i xs.length)) xs.length k)
    unfold stepD
    rw [← r1.length]
    exact rr.mono (same_upd (h3.sub.free hl))
/-! ### min of a list -/
theorem reps_intV {K : PySem.W.Frag} {mg : Str → Option Value} : ∀ {vs : List V} {ns : List Int}, Reps K mg G vs (ns.map D.int) → vs = ns.map V.int
  | _, [], .nil => rfl
  | _, n :: ns, .cons h r => by
    cases h
    rw [reps_intV r]
    rfl
theorem ve_minL {p : Pos} (hm : X.mg "min" = none) (hc : X.calm = true) (h : VE X c S a fun d S1 => ∃ ns : List Int, d = .lst (ns.map D.int) ∧ 0 < ns.length ∧ ∀ m, m ∈ ns → (∀ y, y ∈ ns → m ≤ y) → Q (.int m) S1) (hg : Gl X "min" := by rfl) (he : starEach [a] X.env = [(false, eval a X.env)] := by rfl) : VE X c S (.Call (.Name "min" p) [a] [] pos) Q :=
  ve_callB (cr_min hc) hm (by decide +kernel) (va_cons (h.imp fun d S1 ⟨ns, e, hn, q⟩ => va_nil fun σ G H vs hd r R hR => by
    subst e
    obtain ⟨v, rfl, rv⟩ := reps1 r
    obtain ⟨p, xs, e1, h1, r1⟩ := rep_lst rv
    subst e1
    exact ⟨p, ns, rfl, by rw [← reps_intV r1]; exact .inl (.inl (hd.sub _ _ h1)), hn, fun m h1 h2 => hR _ _ (pE_ret hd .int (q m h1 h2))⟩) he) hg (by decide) (by decide) he rfl
/-! ### isinstance with a tuple of built-in types -/
def rIsDT (K : PySem.W.Frag) (mg : Str → Option Value) : List V → Hp → VK → Prop := fun xs H Q => ∃ (G : Hp) (x : V) (tp : Addr) (dx : D) (ts : List String) (t : Value) (r : Bool), xs = [x, .ref tp] ∧ Same G H ∧ Rep K mg G x dx ∧ H tp = some (.tup (ts.map V.ty)) ∧ TyV mg dx t ∧ InsF K mg dx ∧ PySem.W.kitAny K t (ts.map Value.type) = some r ∧ Q (.bl r) H
theorem tys_vals : ∀ {ts : List String} {us : List Value}, Vals (ts.map V.ty) us → us = ts.map Value.type
  | [], _, .nil => rfl
  | t :: ts, _, .cons h r => by
    have h' : _ = Value.type t := h
    rw [tys_vals r, h'] <;> rfl
theorem call_isDT : CallR X (.builtin "isinstance") (rIsDT X.K X.mg) := by
  intro pins s σ H xs us Q I r h
  obtain ⟨G, x, tp, dx, ts, t, b, rfl, hs, rx, hT, ht, hi, hk, q⟩ := h
  obtain ⟨u1, u2, rfl, r1, r2⟩ := vals2 r
  obtain ⟨P, Z, p, hx⟩ := kit_d I hs rx r1 ht hi
  cases (show u2 = Value.ref tp from r2)
  obtain ⟨_, its, rv, o, h1, h2, n, h3⟩ := (show ObjOk X.prog X.w H s.heap tp (.tup (ts.map V.ty)) from I.hok tp _ hT)
  have e3 := tys_vals rv
  subst e3
  obtain ⟨oc, od, dt, sl⟩ := o
  simp only at h2 h3
  subst h2 h3
  exact PySem.W.kia_tup Z I.kIn p h1 hk hx fun tk => ⟨.bl b, H, I.tok tk, rfl, q⟩
theorem reps_tys {K : PySem.W.Frag} {mg : Str → Option Value} : ∀ {vs : List V} {ts : List String}, Reps K mg G vs (ts.map D.ty) → vs = ts.map V.ty
  | _, [], .nil => rfl
  | _, n :: ns, .cons h r => by
    cases h
    rw [reps_tys r]
    rfl
theorem ve_isinstT {p2 : Pos} (hm : X.mg "isinstance" = none) (h : VA X c S [a, b] fun ds S1 => ∃ (x : D) (ts : List String) (t : Value) (r : Bool), ds = [x, .tup (ts.map D.ty)] ∧ TyV X.mg x t ∧ InsF X.K X.mg x ∧ PySem.W.kitAny X.K t (ts.map Value.type) = some r ∧ Q (.bl r) S1) (hg : Gl X "isinstance" := by rfl) (he : starEach [a, b] X.env = (false, eval a X.env) :: starEach [b] X.env := by rfl) (hpl : (backTo pos (starEach [b] X.env)).any (·.1) = false := by rfl) : VE X c S (.Call (.Name "isinstance" p2) [a, b] [] pos) Q := fun σ G H hd => by
  refine tE_of (pe_callB call_isDT hg hm (by decide +kernel) pa_sem (by decide) (by decide) he hpl) (tA_mono (h σ G H hd) fun vs H1 ⟨ds, S1, G1, h1, s1, r1, x, ts, t, r, e, ht, hi, hk, q⟩ => ?_)
  subst e
  obtain ⟨v1, v2, rfl, rv1, rv2⟩ := reps2 r1
  obtain ⟨tp, xs, rfl, g1, r2⟩ := rep_tup rv2
  have e2 := reps_tys r2
  subst e2
  exact ⟨G1, v1, tp, x, ts, t, r, rfl, h1.sub, rv1, h1.sub _ _ g1, ht, hi, hk, pE_back s1 (pE_ret h1 .bl q)⟩
end
end VL
set_option Elab.async false
set_option linter.all false
set_option maxRecDepth 100000
set_option maxHeartbeats 4000000
/-! VX16: comprehensions with two fors; calls of defs with keywords. -/
namespace VL
open PySem PySem.Spec PyProof.Rows L2 NdefX ClX LamX
section
variable {X : Cx} {c : Cv} {S : State} {e a b elt tg iter tg1 : Expr} {es : List Expr} {st : Stmt} {σ : L2.St} {G G' H : Hp} {pos : Pos} {Q : D → State → Prop} {k : Nat} {x : Str}
def PvL2 (X : Cx) (c : Cv) (S1 : State) (σ : L2.St) (G1 : Hp) (Dl : Addr) (B : Nat) (I : List D → Pn → Prop) (H : Hp) : Prop :=
  ∃ acc pn accV G', HdX X c ⟨S1.ρ, pn⟩ σ G' H ∧ Same G1 G' ∧ H Dl = some (.lst accV) ∧ G' Dl = none ∧ Reps X.K X.mg G' accV acc ∧ acc.length ≤ B ∧ I acc pn
/-- [elt for x in list for y in range(n)] -/
theorem ve_lc2LR {scope : Scope} {own : List (Str × Nat)} {i0 i1 : Nat} {vs1 : List Nat} {p pos2 : Pos} (hc : X.calm = true) (hN : X.N.Nodup) (ok : BlkOk X.N X.env.scope scope own) (h0 : i0 ∈ own.map (·.2)) (hv : ∀ i ∈ vs1, i ∈ own.map (·.2)) (h1 : i1 ∈ vs1) (hm : X.mg "range" = none)
    (hg : ∀ (s : Shared) (H : Hp) (C : Addr) (cl : List (Str × Addr)) (fp : List Addr), PG (X.blk s H scope (compEnvC scope cl C X.env) fp) tg (gName i0))
    (hg1 : ∀ (s : Shared) (H : Hp) (C : Addr) (cl : List (Str × Addr)) (fp : List Addr), PG (X.blk s H scope (compEnvC scope cl C X.env) fp) tg1 (gName i1))
    (h : VE X c S iter fun d S1 => ∃ (ds : List D) (n : Int), d = .lst ds ∧ ds.length * n.toNat ≤ sizeLine ∧ n ≤ sizeLine ∧ -(2 ^ 62) ≤ n ∧
      (∀ (i : Nat) d, ds[i]? = some d → ∀ pn s0 H0 C cl fp Gb Hb, VE (bkX X scope s0 H0 C cl fp) (blkCv c Gb Hb pn) ⟨(wipeρ S1.ρ (own.map (·.2))).set i0 (.val d), pn⟩ a fun y S3 => y = .int n ∧ S3.pn = pn) ∧
      ∃ I : Nat → Nat → List D → Pn → Prop, I 0 0 [] S1.pn ∧ (∀ i acc pn, I i n.toNat acc pn → I (i + 1) 0 acc pn) ∧
        (∀ (i : Nat) d (j : Nat) acc pn, ds[i]? = some d → (j : Int) < n → I i j acc pn → ∀ s0 H0 C cl fp Gb Hb, VE (bkX X scope s0 H0 C cl fp) (blkCv c Gb Hb pn) ⟨(wipeρ ((wipeρ S1.ρ (own.map (·.2))).set i0 (.val d)) vs1).set i1 (.val (.int j)), pn⟩ elt fun y S4 => I i (j + 1) (acc ++ [y]) (outPn pn S4.pn)) ∧
        ∀ acc pn, I ds.length 0 acc pn → Q (.lst acc) ⟨S1.ρ, pn⟩)
    (hgl : ∀ (s : Shared) (H : Hp) (C : Addr) (cl : List (Str × Addr)) (fp : List Addr), Gl (X.blk s H scope (compEnvC scope cl C X.env) fp) "range") (hs : ∀ x, foldedSetIterable iter X.env x = pure x := by intro _; rfl) (hs1 : ∀ env x, foldedSetIterable (.Call (.Name "range" p) [a] [] pos2) env x = pure x := by intro _ _; rfl)
    (hst : ∀ env, starEach [a] env = [(false, eval a env)] := by intro _; rfl) : VE X c S (.ListComp elt [⟨tg, iter, [], 0⟩, ⟨tg1, .Call (.Name "range" p) [a] [] pos2, [], 0⟩] scope pos) Q := fun σ G H hd => by
  refine tE_of (pe_lc2 (wi1 := iRng1 (tCons (tEb X scope a) tNil)) hc hN (pi_list (pe_sem (e := iter))) ok hv hg (fun _ _ _ _ _ => pts_nil) (fun s0 Hs C cl fp => pi_range1 (hgl s0 Hs C cl fp) hm (pa_cons (pe_tEb s0 Hs C cl fp) pa_nil (hst _)) (hst _)) hg1 (fun _ _ _ _ _ => pts_nil) (pe_tEb (elt := elt)) hs hs1) ?_
  refine tE_mono (h σ G H hd) fun v H1 ⟨d, S1, G1, h1', s1, r1, ds, n, e, hz, hn1, hn2, harg, I, I0, Iup, turn, fin⟩ => ?_
  subst e
  have hlen := lst_len r1
  obtain ⟨al, vs, e1, hvl, rv⟩ := rep_lst r1
  subst e1
  refine ⟨al, rfl, ⟨vs, .inl (.inl (h1'.sub _ _ hvl))⟩, fun Dl hD => ?_⟩
  have hD0 := h0_of h1' hD
  have hsD := hsD_of h1' hD
  have hsz : (sizeLine : Int) < 2 ^ 62 := by rw [sizeLine_eq]; decide
  have lst : ∀ {B I' H'}, PvL2 X c S1 σ G1 Dl B I' H' → SqL X.K H' al vs := fun ⟨_, _, _, G', h2, s2, _⟩ => .inl (.inl (h2.sub _ _ (s2 _ _ hvl)))
  refine ⟨fun i m H => m = vs.length - i ∧ i ≤ vs.length ∧ PvL2 X c S1 σ G1 Dl (i * n.toNat) (fun acc pn => I i 0 acc pn) H, ⟨vs.length, by simp, Nat.zero_le _, [], S1.pn, [], G1, h1'.after (h1'.allocH hD), Same.refl _, upd_same, h1'.sub.free hD, .nil, Nat.zero_le _, I0⟩, ?_⟩
  rintro i m H2 ⟨rfl, hi, p⟩
  have q := lst p
  by_cases hlt : i < vs.length
  · refine .inr ⟨⟨vs, vs[i], q, by simp [hlt]⟩, fun H' => PvL2 X c S1 σ G1 Dl ((i + 1) * n.toNat) (fun acc pn => I (i + 1) 0 acc pn) H', fun H' p' => ⟨vs.length - (i + 1), by omega, rfl, hlt, p'⟩, fun xv H' y => ?_⟩
    obtain ⟨e, y⟩ := y
    subst e
    have hxv := y vs q
    obtain ⟨dx, e2, r2⟩ := rv.getV hxv
    have hi' : i < ds.length := (List.getElem?_eq_some_iff.mp e2).1
    obtain ⟨acc, pn, accV, G', h2, s2, hDl, gD, rA, hl, hI⟩ := p
    show gName i0 xv (wipe σ (own.map (·.2))) H' _
    refine ⟨wipe_set1 h0 |>.trans wipe_wipe, ?_⟩
    simp only [tYes, if_true]
    have hb : Hd X.K X.mg (blkCv c G' H' pn) ⟨wipeρ S1.ρ (own.map (·.2)), pn⟩ (wipe σ (own.map (·.2))) G' H' := (h2.rebase (S := ⟨S1.ρ, pn⟩)).wiped _
    have hb2 := hb.setVal (i := i0) (r2.mono s2)
    intro s0 H0 C cl fp
    refine tE_mono (harg i dx e2 pn s0 H0 C cl fp G' H' _ G' H' hb2) fun yv H3 ⟨dy, S3, G3, h3, s3, r3, ey, ep⟩ => ?_
    subst ey
    refine ⟨n, by rw [rep_int r3], by omega, by omega, ?_⟩
    have A3 := h3.blkDone
    rw [ep] at A3
    have epn : outPn pn pn = pn := by cases pn <;> rfl
    rw [epn] at A3
    have h4 : HdX X c ⟨S1.ρ, pn⟩ σ G3 H3 := h2.after A3
    have hpnD : ∀ {pn : Pn} {G' H' : Hp} {aV : List V}, HdX X c ⟨S1.ρ, pn⟩ σ G' H' → H' Dl = some (.lst aV) → ∀ r, pn ≠ some (Dl, r) := fun {pn G' H' aV} hh hDl r e => by
      obtain ⟨kvs, q⟩ := (hh.pen Dl r e).1.at
      rw [hDl] at q; cases q
    have gnone : ∀ {pn pn' : Pn} {G' H' G4 H4 : Hp} {aV : List V}, After c.cf X.K G' H' pn G4 H4 pn' → H' Dl = some (.lst aV) → G' Dl = none → G4 Dl = none := fun {pn pn' G' H' G4 H4 aV} A hDl gD => by
      cases z : G4 Dl with
      | none => rfl
      | some u =>
        rcases A.new _ _ z with q | q
        · rw [gD] at q; cases q
        · rw [hDl] at q; cases q
    refine ⟨fun j k H => k = n.toNat - j ∧ j ≤ n.toNat ∧ PvL2 X c S1 σ G1 Dl (i * n.toNat + j) (fun acc pn => I i j acc pn) H, ⟨n.toNat, by simp, Nat.zero_le _, acc, pn, accV, G3, h4, s2.trans A3.ext, A3.keep _ _ hDl (hpnD h2 hDl) (fun _ z => nomatch z), gnone A3 hDl gD, rA.mono A3.ext, by simpa using hl, hI⟩, ?_⟩
    rintro j k H5 ⟨rfl, hj, p5⟩
    by_cases hjl : j < n.toNat
    · refine .inr ⟨hjl, fun H' => PvL2 X c S1 σ G1 Dl (i * n.toNat + (j + 1)) (fun acc pn => I i (j + 1) acc pn) H', fun H' p' => ⟨n.toNat - (j + 1), by omega, rfl, hjl, p'⟩, fun zv H' y => ?_⟩
      obtain ⟨e, y⟩ := y
      subst e y
      obtain ⟨acc5, pn5, accV5, G5, h5, s5, hDl5, gD5, rA5, hl5, hI5⟩ := p5
      show gName i1 _ _ _ _
      refine ⟨wipe_set1 h1 |>.trans wipe_wipe, ?_⟩
      simp only [tYes, if_true]
      have hb5 : Hd X.K X.mg (blkCv c G5 H' pn5) ⟨wipeρ S1.ρ (own.map (·.2)), pn5⟩ (wipe σ (own.map (·.2))) G5 H' := (h5.rebase (S := ⟨S1.ρ, pn5⟩)).wiped _
      have hb6 := ((hb5.setVal (i := i0) (r2.mono s5)).wiped vs1).setVal (i := i1) (v := .int (0 + (j : Int))) (d := .int j) (by rw [Int.zero_add]; exact .int)
      intro s0 H0 C cl fp
      refine tE_mono (turn i dx j acc5 pn5 e2 (by omega) hI5 s0 H0 C cl fp G5 H' _ G5 H' hb6) fun yv H6 ⟨dy, S6, G6, h6, s6, ry, hI'⟩ => ?_
      have A := h6.blkDone
      have h7 : HdX X c ⟨S1.ρ, outPn pn5 S6.pn⟩ σ G6 H6 := h5.after A
      have hD6 : H6 Dl = some (.lst accV5) := A.keep _ _ hDl5 (hpnD h5 hDl5) (fun _ z => nomatch z)
      have gD6 := gnone A hDl5 gD5
      have hz2 : i * n.toNat + (j + 1) ≤ ds.length * n.toNat := by
        have : (i + 1) * n.toNat ≤ ds.length * n.toNat := Nat.mul_le_mul_right _ hi'
        rw [Nat.succ_mul] at this
        omega
      exact ⟨accV5, hD6, by rw [rA5.length]; omega, acc5 ++ [dy], _, accV5 ++ [yv], G6, h7.aside hD6 gD6 hD0 hsD, s5.trans A.ext, upd_same, gD6, (rA5.mono A.ext).append (.cons ry .nil), by simp; omega, hI'⟩
    · have e : j = n.toNat := by omega
      subst e
      obtain ⟨acc5, pn5, accV5, G5, h5, s5, hDl5, gD5, rA5, hl5, hI5⟩ := p5
      exact .inl ⟨Nat.le_refl _, acc5, pn5, accV5, G5, h5, s5, hDl5, gD5, rA5, by rw [Nat.succ_mul]; exact hl5, Iup i acc5 pn5 hI5⟩
  · have e : i = vs.length := by omega
    subst e
    obtain ⟨acc, pn, accV, G', h2, s2, hDl, gD, rA, hl, hI⟩ := p
    refine .inl ⟨⟨vs, q, Nat.le_refl _⟩, pE_back s1 ?_⟩
    have sm : Same G' (upd G' Dl (.lst accV)) := same_upd gD
    rw [rv.length] at hI hl
    exact ⟨.lst acc, _, _, h2.adopt hDl gD hD0 hsD, s2.trans sm, .lst upd_same (rA.mono sm) (by omega), fin acc pn hI⟩
/-! ### defs called with keywords -/
structure VFnK (P : Program) (w : World) (K : PySem.W.Frag) (mg : Str → Option Value) (base : Heap) (cf : Cfg) (k : Nat) (x : Str) (n : Nat) (ks : List Str) (ct : Ct) : Prop where
  ex : ∃ f fd ps, FnOk P w K mg base (L2.CX P w) k f fd ps (spV cf K mg ct) ∧ mg x = some (.ref f) ∧ PySem.W.keepIn K (.ref f) = true ∧ ∀ (s : Shared) (us ws : List Value), us.length = n → ws.length = ks.length → BindsTo s fd ⟨us, ks.zip ws⟩ (ps.zip (us ++ ws))
theorem run_kw {n : Nat} {ks : List Str} {ct : Ct} {pins : List (Addr × Obj)} {s : Shared} {f : Addr} {fd : FuncData} {ps : List Str} (ok : FnOk X.prog X.w X.K X.mg X.base (L2.CX X.prog X.w) k f fd ps (spV c.cf X.K X.mg ct)) (hr : Room k X.A) (tk : Takes X (WV X c))
    (hb : ∀ (s : Shared) (us ws : List Value), us.length = n → ws.length = ks.length → BindsTo s fd ⟨us, ks.zip ws⟩ (ps.zip (us ++ ws))) {us ws : List Value} {vs zs : List V} {ds1 ds2 : List D} {S1 : State} (I : Inv X pins σ H s) (hd : HdX X c S1 σ G' H) (sg : Same G G') (r : Vals vs us) (rz : Vals zs ws) (rd : Reps X.K X.mg G' vs ds1) (rd2 : Reps X.K X.mg G' zs ds2)
    (l1 : ds1.length = n) (l2 : ds2.length = ks.length) (run : ct.run (ds1 ++ ds2) S1.pn (fun d pn' => Q d { S1 with pn := pn' }) (fun y pn' => c.EV y { S1 with pn := pn' })) : wpAny (model X.prog X.w) X.A (call (.ref f) us (ks.zip ws)) (EP X pins σ (pE X c σ G Q)) X.xe s := by
  have r2 := r.append rz
  have hsp := spV_call (X := X) (c := c) (R := pE X c σ G Q) (RX := WE (WV X c) σ) hd (rd.append rd2) run (fun d pn' q v G2 H' h2 s2 rv => ⟨d, _, G2, h2, sg.trans s2, rv, q⟩) (fun y pn' q cls dd' G2 H' h2 rx => ⟨_, G2, y, h2, rx, q⟩)
  refine wpAny_call (codeAny_mono (ok.run X.A X.stack s H ⟨us, ks.zip ws⟩ (us ++ ws) (vs ++ zs) _ _ hr I.env0 (hb s us ws (by rw [← r.length, rd.length, l1]) (by rw [← rz.length, rd2.length, l2])) r2 hsp) fun rs s' hq => ?_)
  cases rs with
  | error e => exact passAt tk σ pins H s e s' I hq
  | ok fl =>
    cases fl with
    | ret u => exact I.after hq
    | next => exact False.elim hq
    | brk => exact False.elim hq
    | cont => exact False.elim hq
theorem ve_callKw {p : Pos} {n : Nat} {ks : List Str} {ct : Ct} {kws : List Keyword} (F : VFnK X.prog X.w X.K X.mg X.base c.cf k x n ks ct) (hr : Room k X.A) (tk : Takes X (WV X c))
    (h : VA X c S (e :: es) fun ds1 S1 => ds1.length = n ∧ VKw X c S1 kws fun ds2 S2 => ds2.length = ks.length ∧ ct.run (ds1 ++ ds2) S2.pn (fun d pn' => Q d { S2 with pn := pn' }) (fun y pn' => c.EV y { S2 with pn := pn' })) (hg : Gl X x := by rfl)
    (hall : (backToKw pos (keywordEach kws X.env)).all (·.1.isSome) = true := by rfl) (hks : (backToKw pos (keywordEach kws X.env)).filterMap (·.1) = ks := by rfl)
    (hdb : (x == ("__debug__" : Str)) = false := by decide) (he : starEach (e :: es) X.env = (false, eval e X.env) :: starEach es X.env := by rfl)
    (hpl : ((backTo pos (starEach (e :: es) X.env)).any (·.1) || (backToKw pos (keywordEach kws X.env)).any (·.1.isNone)) = false := by rfl) :
    VE X c S (.Call (.Name x p) (e :: es) kws pos) Q := fun σ G H hd pins s I => by
  obtain ⟨f, fd, ps, ok, hm, hk, hb⟩ := F.ex
  refine wpAny_Call_Name_kw (ld_glob I hg hm ?_ hdb)
  refine PySem.W.callWith_KW (h₀ := X.base) I.ok.mod.kin hk hall (thn (h σ G H hd pos pins s I) fun us s1 ⟨vs, H1, I1, r, ds1, S1, G1, h1, sg1, rd, l1, q⟩ => ?_) hpl he
  refine thn (q σ G1 H1 h1 pos pins s1 I1) fun ws s2 ⟨zs, H2, I2, rz, ds2, S2, G2, h2, sg2, rd2, l2, q2⟩ => ⟨I2.kIn, ?_⟩
  rw [hks]
  exact run_kw ok hr tk hb I2 h2 (sg1.trans sg2) r rz (rd.mono sg2) rd2 l1 l2 q2
theorem ve_callKw0 {p : Pos} {ks : List Str} {ct : Ct} {kws : List Keyword} (F : VFnK X.prog X.w X.K X.mg X.base c.cf k x 0 ks ct) (hr : Room k X.A) (tk : Takes X (WV X c))
    (h : VKw X c S kws fun ds2 S2 => ds2.length = ks.length ∧ ct.run ds2 S2.pn (fun d pn' => Q d { S2 with pn := pn' }) (fun y pn' => c.EV y { S2 with pn := pn' })) (hg : Gl X x := by rfl)
    (hall : (backToKw pos (keywordEach kws X.env)).all (·.1.isSome) = true := by rfl) (hks : (backToKw pos (keywordEach kws X.env)).filterMap (·.1) = ks := by rfl)
    (hdb : (x == ("__debug__" : Str)) = false := by decide)
    (hpl : ((backTo pos (starEach [] X.env)).any (·.1) || (backToKw pos (keywordEach kws X.env)).any (·.1.isNone)) = false := by rfl) :
    VE X c S (.Call (.Name x p) [] kws pos) Q := fun σ G H hd pins s I => by
  obtain ⟨f, fd, ps, ok, hm, hk, hb⟩ := F.ex
  refine wpAny_Call_Name_kw (ld_glob I hg hm ?_ hdb)
  refine PySem.W.callWith_KW0 (h₀ := X.base) I.ok.mod.kin hk hall ?_ hpl
  refine thn (h σ G H hd pos pins s I) fun ws s2 ⟨zs, H2, I2, rz, ds2, S2, G2, h2, sg2, rd2, l2, q2⟩ => ⟨I2.kIn, ?_⟩
  rw [hks]
  exact run_kw (us := []) ok hr tk hb I2 h2 sg2 .nil rz .nil rd2 rfl l2 q2
end
end VL
set_option Elab.async false
set_option linter.all false
set_option maxRecDepth 100000
set_option maxHeartbeats 4000000
/-! VX17: global ints, the pen's budget lowered, assignments in parallel with a list of one's own, of three. -/
namespace VL
open PySem PySem.Spec PyProof.Rows L2 NdefX ClX LamX
section
variable {X : Cx} {c : Cv} {S : State} {e a b c3 : Expr} {es : List Expr} {st : Stmt} {sts : List Stmt} {σ : L2.St} {G G' H : Hp} {pos : Pos} {Q : D → State → Prop} {E : VD} {x : Str}
theorem ve_gint {i : Int} (q : Q (.int i) S) (hm : ∃ t, X.mg x = some (.int i t)) (hg : Gl X x := by rfl) (hd : (x == ("__debug__" : Str)) = false := by decide) : VE X c S (.Name x pos) Q := fun σ G H h => by
  obtain ⟨t, ht⟩ := hm
  exact tE_of (pe_glob (v := .int i) hg ht ⟨t, rfl⟩ hd) (pE_ret h .int q)
theorem vss_le {p : Addr} {r r' : Nat} (hp : S.pn = some (p, .bud r)) (hr : r' ≤ r) (h : VSs X c ⟨S.ρ, some (p, .bud r')⟩ sts E) : VSs X c S sts E := by
  refine vss_open hp fun cells b l hb => ?_
  obtain ⟨b1, b2, b3, b4, b5, b6⟩ := hb
  exact vss_close (S := ⟨S.ρ, some (p, .ex cells b l)⟩) (r := r') rfl ⟨b1, b2, b3, by omega, b5, b6⟩ h
theorem VE.le {p : Addr} {r r' : Nat} (hp : S.pn = some (p, .bud r)) (hr : r' ≤ r) (h : VE X c ⟨S.ρ, some (p, .bud r')⟩ e Q) : VE X c S e Q := fun σ G H hd => by
  obtain ⟨cc, cells, b, l, p1, p2, p3, p4⟩ := (hd.pen _ _ hp).1
  obtain ⟨b1, b2, b3, b4, b5, b6⟩ := p4
  exact h σ G H (hd.repn hp ⟨cc, cells, b, l, p1, p2, p3, b1, b2, b3, by omega, b5, b6⟩)
/-- the frame's own exceptions exchanged -/
theorem Hd.evs {K : PySem.W.Frag} {mg : Str → Option Value} {E1 E2 : ExD → State → Prop} (h : Hd K mg { c with EV := E1 } S σ G H) : Hd K mg { c with EV := E2 } S σ G H :=
  ⟨h.sub, h.len, h.slots, h.dist, h.pen, h.padr, h.ext0, h.new0, h.keep0, h.fresh, h.tbl0, h.tabs⟩
/-- a list that stands aside is a slot's own from now on -/
theorem Hd.claim {K : PySem.W.Frag} {mg : Str → Option Value} {i : Nat} {l : Addr} {vs : List V} {ds : List D} (h : Hd K mg c S σ G H) (hno : ∀ j, ¬ ownAt S.ρ j) (hl : H l = some (.lst vs)) (gl : G l = none) (h0 : c.H0 l = none) (r : Reps K mg G vs ds) (hz : ds.length ≤ sizeLine) : Hd K mg c (S.put i (.own ds)) (σ.set i (some (.ref l))) G H := by
  have only : ∀ j, ownAt (S.put i (.own ds)).ρ j → j = i := fun j ⟨sl, q1, q2⟩ => by
    by_cases q : i = j
    · exact q.symm
    · have e : (S.ρ.set i (.own ds))[j]? = some sl := q1
      rw [List.getElem?_set_ne q] at e
      exact (hno j ⟨sl, e, q2⟩).elim
  refine ⟨h.sub, ?_, fun j s2 e => ?_, fun j k a ne oj ok => ?_, h.pen, h.padr, h.ext0, h.new0, h.keep0, fun ht j a oj e => ?_, h.tbl0, h.tabs⟩
  · show (σ.set i _).length = (S.ρ.set i _).length
    rw [List.length_set, List.length_set, h.len]
  · have e' : (S.ρ.set i (.own ds))[j]? = some s2 := e
    by_cases q : i = j
    · subst q
      by_cases hi : i < S.ρ.length
      · rw [List.getElem?_set_self hi] at e'
        cases e'
        exact ⟨_, List.getElem?_set_self (by rw [h.len]; exact hi), l, vs, rfl, hl, gl, r, hz⟩
      · rw [List.getElem?_eq_none (by rw [List.length_set]; omega)] at e'
        cases e'
    · rw [List.getElem?_set_ne q] at e'
      obtain ⟨o, q1, q2⟩ := h.slots j s2 e'
      exact ⟨o, by rw [List.getElem?_set_ne q]; exact q1, q2⟩
  · exact absurd ((only j oj).trans (only k ok).symm) ne
  · have ej := only j oj
    subst ej
    obtain ⟨sl, q1, q2⟩ := oj
    have hi : j < S.ρ.length := by
      have := (List.getElem?_eq_some_iff.mp q1).1
      simpa [State.put] using this
    rw [List.getElem?_set_self (by rw [h.len]; exact hi)] at e
    cases e
    exact h0
/-- the frame seen from the heap H1 on -/
def subCv (c : Cv) (G H : Hp) (pn : Pn) : Cv := ⟨G, H, pn.map (·.1), c.top, c.cf, c.EV⟩
theorem Hd.toSub {K : PySem.W.Frag} {mg : Str → Option Value} (h : Hd K mg c S σ G H) (hno : ∀ j, ¬ ownAt S.ρ j) : Hd K mg (subCv c G H S.pn) S σ G H :=
  ⟨h.sub, h.len, h.slots, h.dist, fun p r e => ⟨(h.pen p r e).1, .inl (by show S.pn.map (·.1) = some p; rw [e]; rfl)⟩, fun a e => by
    obtain ⟨⟨p, r⟩, h1, h2⟩ := Option.map_eq_some_iff.mp (show S.pn.map (·.1) = some a from e)
    have h2' : p = a := h2
    subst h2'
    exact ⟨r, h1⟩, Same.refl _, fun _ _ q => .inl q, fun _ _ q _ _ => q, (fun _ j _ oj _ => (hno j oj).elim), fun _ ps e => ⟨ps, e⟩, h.tabs⟩
theorem Hd.ofSub {K : PySem.W.Frag} {mg : Str → Option Value} {S' : State} {σ' : L2.St} {H' : Hp} (h : Hd K mg c S σ G H) (h' : Hd K mg (subCv c G H S.pn) S' σ' G' H') : Hd K mg c S' σ' G' H' where
  sub := h'.sub
  len := h'.len
  slots := h'.slots
  dist := h'.dist
  pen := fun p r e => by
    obtain ⟨q1, q2⟩ := h'.pen p r e
    refine ⟨q1, ?_⟩
    rcases q2 with q2 | q2
    · obtain ⟨⟨p2, r2⟩, h1, h2⟩ := Option.map_eq_some_iff.mp (show S.pn.map (·.1) = some p from q2)
      have h2' : p2 = p := h2
      subst h2'
      exact (h.pen _ _ h1).2
    · exact .inr (h.h0none q2)
  padr := fun a e => by
    obtain ⟨r, q⟩ := h.padr a e
    exact h'.padr a (by show S.pn.map (·.1) = some a; rw [q]; rfl)
  ext0 := h.ext0.trans h'.ext0
  new0 := fun a o q => (h'.new0 a o q).elim (fun z => h.new0 a o z) fun z => .inr (h.h0none z)
  keep0 := fun a o q hp hx => h'.keep0 a o (h.keep0 a o q hp hx) (fun z => by
    obtain ⟨⟨p2, r2⟩, h1, h2⟩ := Option.map_eq_some_iff.mp (show S.pn.map (·.1) = some a from z)
    have h2' : p2 = a := h2
    subst h2'
    rcases (h.pen _ _ h1).2 with y | y
    · exact hp y
    · rw [q] at y; cases y) hx
  fresh := fun ht j a oj e => h.h0none (h'.fresh ht j a oj e)
  tbl0 := fun a ps q => by
    obtain ⟨ps', q'⟩ := h.tbl0 a ps q
    exact h'.tbl0 a ps' q'
  tabs := h'.tabs
theorem Hd.subDone {K : PySem.W.Frag} {mg : Str → Option Value} {pn : Pn} {H' : Hp} (h : Hd K mg (subCv c G H pn) S σ G' H') : After c.cf K G H pn G' H' (outPn pn S.pn) where
  sub := h.sub
  ext := h.ext0
  new := h.new0
  keep := fun a o e hne hx => h.keep0 a o e (fun z => by
    obtain ⟨⟨p, r⟩, h1, h2⟩ := Option.map_eq_some_iff.mp (show pn.map (·.1) = some a from z)
    have h2' : p = a := h2
    subst h2'
    exact hne r h1) hx
  tbl := h.tbl0
  tabs := h.tabs
  pen := fun p r e => by
    cases pn with
    | none => cases e
    | some w => exact (h.pen p r e).1
  adr := by
    cases pn with
    | none => rfl
    | some w =>
      obtain ⟨p, r⟩ := w
      obtain ⟨r', q⟩ := h.padr p rfl
      show S.pn.map (·.1) = some p
      rw [q]
      rfl
/-- x, y = [], b; x one's own list -/
theorem vs_parOwn (i j : Nat) {x y : Str} {px py pt p2 : Pos} {kt k2 pt2} (hno : ∀ j, ¬ ownAt S.ρ j) (h : ∀ c', c'.cf = c.cf → c'.top = c.top → (Takes X (WV X c) → Takes X (WV X c')) → VE X c' S b fun d S2 => E.nx (((⟨S.ρ, outPn S.pn S2.pn⟩ : State).put i (.own [])).put j (.val d)))
    (hc : X.calm = true) (hN : X.N.Nodup) (hi : X.N[i]? = some x := by rfl) (hj : X.N[j]? = some y := by rfl) (hij : i ≠ j := by decide)
    (hx : X.env.scope.names.lookup x = some .local := by rfl) (hy : X.env.scope.names.lookup y = some .local := by rfl)
    (hw : swappedStores [.Tuple [.Name x px, .Name y py] kt pt] (.Tuple [.List [] p2, b] k2 pt2) X.env = pure (some [x, y]) := by rfl)
    (hs : swapsWithSole [.Tuple [.Name x px, .Name y py] kt pt] (.Tuple [.List [] p2, b] k2 pt2) pos.line X.env = pure false := by rfl) (hst : starEach [.List [] p2, b] X.env = (false, eval (.List [] p2) X.env) :: starEach [b] X.env := by rfl) (hst2 : starEach [b] X.env = (false, eval b X.env) :: starEach [] X.env := by rfl) : VS X c S (.Assign [.Tuple [.Name x px, .Name y py] kt pt] (.Tuple [.List [] p2, b] k2 pt2) pos) E := fun σ G H hd => by
  refine tS_of (ps_par hc hN hi hj hij hx hy (pa_cons (pe_lst pa_nil) (pa_cons pe_sem pa_nil hst2) hst) hw hs) ⟨by simp, fun l hl => ?_⟩
  have hd1 := hd.after (hd.allocH (o := .lst []) hl)
  have gl : G l = none := hd.sub.free hl
  have hd1' : HdX X c S σ G (upd H l (.lst [])) := hd1
  have tkc : Takes X (WV X c) → Takes X (WV X (subCv c G (upd H l (.lst [])) S.pn)) := fun tk => tk.imp fun cls dd σ' H' ⟨S', G', y, h1, rx, q⟩ => ⟨S', G', y, hd1'.ofSub h1, rx, q⟩
  refine tE_mono (h (subCv c G (upd H l (.lst [])) S.pn) rfl rfl tkc σ G _ (hd1'.toSub hno)) fun v H2 ⟨d, S2, G2, h2, s2, r2, q⟩ => ?_
  have A := h2.subDone
  have h3 : HdX X c ⟨S.ρ, outPn S.pn S2.pn⟩ σ G2 H2 := hd1'.after A
  have hlp : ∀ r, S.pn ≠ some (l, r) := fun r e => by
    obtain ⟨kvs, z⟩ := (hd1'.pen _ _ e).1.at
    rw [upd_same] at z; cases z
  have hl2 : H2 l = some (.lst []) := A.keep _ _ upd_same hlp (fun _ z => nomatch z)
  have gl2 : G2 l = none := by
    cases z : G2 l with
    | none => rfl
    | some u =>
      rcases A.new _ _ z with y | y
      · rw [gl] at y; cases y
      · rw [upd_same] at y; cases y
  exact ⟨_, _, rfl, _, G2, ((h3.claim (i := i) hno hl2 gl2 (hd.h0none hl) .nil (by simp)).setVal (i := j) r2), s2, q⟩
theorem vs_par3 (i j l : Nat) {x y z : Str} {px py pz pt : Pos} {kt k2 pt2} (h : VA X c S [a, b, c3] fun ds S' => ∃ d1 d2 d3, ds = [d1, d2, d3] ∧ E.nx (((S'.put i (.val d1)).put j (.val d2)).put l (.val d3))) (hc : X.calm = true) (hN : X.N.Nodup) (hi : X.N[i]? = some x := by rfl) (hj : X.N[j]? = some y := by rfl) (hl : X.N[l]? = some z := by rfl) (hij : i ≠ j := by decide) (hil : i ≠ l := by decide) (hjl : j ≠ l := by decide)
    (hx : X.env.scope.names.lookup x = some .local := by rfl) (hy : X.env.scope.names.lookup y = some .local := by rfl) (hz : X.env.scope.names.lookup z = some .local := by rfl)
    (hw : swappedStores [.Tuple [.Name x px, .Name y py, .Name z pz] kt pt] (.Tuple [a, b, c3] k2 pt2) X.env = pure (some [x, y, z]) := by rfl)
    (hs : swapsWithSole [.Tuple [.Name x px, .Name y py, .Name z pz] kt pt] (.Tuple [a, b, c3] k2 pt2) pos.line X.env = pure false := by rfl) : VS X c S (.Assign [.Tuple [.Name x px, .Name y py, .Name z pz] kt pt] (.Tuple [a, b, c3] k2 pt2) pos) E := fun σ G H hd => by
  refine tS_of (ps_par3 hc hN hi hj hl hij hil hjl hx hy hz pa_sem hw hs) (tA_mono (h σ G H hd) fun vs H' ⟨ds, S', G', h1, s1, r, d1, d2, d3, e, q⟩ => ?_)
  subst e
  cases r with
  | cons r1 r2 =>
    cases r2 with
    | cons r2 r3 =>
      cases r3 with
      | cons r3 r4 =>
        cases r4
        exact ⟨_, _, _, rfl, _, G', ((h1.setVal r1).setVal r2).setVal r3, s1, q⟩
end
end VL
namespace VL
open PySem PySem.Spec PyProof.Rows L2
/-- a name's value, its identity forgotten, told -/
theorem ve_valE {X : Cx} {c : Cv} {S : State} {Q : D → State → Prop} {pos : Pos} (i : Nat) {x : Str} {d d' : D} (hρ : S.ρ[i]? = some (.val d)) (he : core d = d') (q : Q d' S) (hN : X.N[i]? = some x := by rfl) (hv : Vis X.env.scope x := by first | exact Or.inl rfl | exact Or.inr (Or.inl rfl) | exact Or.inr (Or.inr rfl))
    (hd : (x == ("__debug__" : Str)) = false := by decide) (hcd : (x == ("__classdict__" : Str)) = false := by decide) : VE X c S (.Name x pos) Q := by
  subst he
  exact ve_valC i hρ q hN hv hd hcd
end VL
set_option Elab.async false
set_option linter.all false
set_option maxRecDepth 100000
set_option maxHeartbeats 4000000
/-! VX18: name = [comprehension] on one line; a def's body with its code object known. -/
namespace VL
open PySem PySem.Spec PyProof.Rows L2
section
variable {X : Cx} {c : Cv} {S : State} {e a b elt tg iter : Expr} {ifs : List Expr} {σ : L2.St} {G G' H : Hp} {pos spos : Pos} {E : VD}
theorem vs_setLcL (i : Nat) {y : Str} {py : Pos} {scope : Scope} {own : List (Str × Nat)} {g : TG} {asg : D → List Sl → Option (List Sl)} (hc : X.calm = true) (hN : X.N.Nodup) (ok : BlkOk X.N X.env.scope scope own) (hifs : ifs.length ≤ 1) (tgo : TgOk X g (own.map (·.2)) asg)
    (hg : ∀ (s : Shared) (H : Hp) (C : Addr) (cl : List (Str × Addr)) (fp : List Addr), PG (X.blk s H scope (compEnvC scope cl C X.env) fp) tg g)
    (h : VE X c S iter fun d S1 => ∃ ds, d = .lst ds ∧ ∃ I : Nat → List D → Pn → Prop, I 0 [] S1.pn ∧ (∀ i d acc pn, ds[i]? = some d → I i acc pn → ∃ ρ, asg d (wipeρ S1.ρ (own.map (·.2))) = some ρ ∧ LcTurn X c scope elt ifs ρ I i acc pn) ∧ ∀ acc pn, I ds.length acc pn → E.nx ((⟨S1.ρ, pn⟩ : State).put i (.val (.lst acc))))
    (hy : X.N[i]? = some y := by rfl) (hyl : X.env.scope.names.lookup y = some .local := by rfl)
    (hsw : swapsWith (.ListComp elt [⟨tg, iter, ifs, 0⟩] scope pos) (some (.Name y py)) spos.line X.env = pure true := by first | rfl | exact sw_true rfl rfl rfl rfl)
    (hs : ∀ x, foldedSetIterable iter X.env x = pure x := by intro _; rfl) : VS X c S (.Assign [.Name y py] (.ListComp elt [⟨tg, iter, ifs, 0⟩] scope pos) spos) E := fun σ G H hd => by
  refine tS_of (ps_setLc hc hN hy hyl hsw (pi_list (pe_sem (e := iter))) ok hg (pts_tTsb hifs) (pe_tEb (elt := elt)) hs) ?_
  refine tE_mono (h σ G H hd) fun v H1 ⟨d, S1, G1, h1, s1, r1, ds, e, I, h0, turn, fin⟩ => ?_
  subst e
  have hlen := lst_len r1
  obtain ⟨al, vs, e1, hv, rv⟩ := rep_lst r1
  subst e1
  refine ⟨al, rfl, ⟨vs, .inl (.inl (h1.sub _ _ hv))⟩, fun Dl hD => ?_⟩
  have hD0 := h0_of h1 hD
  have hsD := hsD_of h1 hD
  refine lc_list (K := X.K) (a := al) (xs := vs) (PvL X c S1 σ G1 Dl I) (pvL_start h1 hD h0) (fun i H _ ⟨_, _, _, G', h2, s2, _⟩ => .inl (.inl (h2.sub _ _ (s2 _ _ hv)))) (fun i x H hi p => ?_) (fun H p => ?_)
  · obtain ⟨dx, e2, r2⟩ := rv.getV hi
    have hi' : i < ds.length := (List.getElem?_eq_some_iff.mp e2).1
    exact lc_turn hD0 hsD (by omega) tgo (fun G' s => r2.mono s) (fun acc pn hI => turn i dx acc pn e2 hI) p
  · rw [rv.length] at p
    obtain ⟨d, S2, G2, h2, s2, r2, q2⟩ := pE_back s1 (pvL_end (Q := fun d S2 => E.nx (S2.put i (.val d))) hD0 hsD hlen fin p)
    exact ⟨S2.put i (.val d), G2, h2.setVal r2, s2, q2⟩
end
section
variable {P : Program} {w : World} {K : PySem.W.Frag} {mg : Str → Option Value} {base : Heap} {cf : Cfg} {k : Nat} {ct : Ct} {x qual : Str} {st : Stmt} {dvs : List V} {kws : List (Str × V)} {f cd : Addr} {fd : FuncData} {N ps : List Str}
/-- fn_body, the def's code object known -/
theorem fn_bodyC (F : FunD K x qual (defArgs st) (defBody st) (defScope st) dvs kws f fd) (hcd : fd.code = .ref cd) (Sc : FnScope N ps (defScope st)) (hps : ps.length ≤ N.length) (np : ∀ ds pn k e, ct.run ds pn k e → ds.length = ps.length)
    (body : ∀ (A : Around) (outer : List Env) (s : Shared) (H : Hp) (E : XK) (G : Hp) (ds : List D) (pn : Pn) (Qv : D → Pn → Prop) (Ev : ExD → Pn → Prop),
      Room k (bX P w K mg base N qual st f (.ref cd) A outer s H E).A → Takes (bX P w K mg base N qual st f (.ref cd) A outer s H E) (WV (bX P w K mg base N qual st f (.ref cd) A outer s H E) (bodyCv cf G H pn Ev)) → ct.run ds pn Qv Ev →
      VSs (bX P w K mg base N qual st f (.ref cd) A outer s H E) (bodyCv cf G H pn Ev) ⟨startρ N.length ds, pn⟩ (defBody st) { nx := fun S => Qv .non (outPn pn S.pn), rt := fun d S => Qv d (outPn pn S.pn) }) :
    FnOk P w K mg base (L2.CX P w) (k + 1) f fd ps (spV cf K mg ct) := by
  obtain ⟨oc, od, dV, kV, doc, pm, an, cdv, ctv, osl, rfl, lk, hci, _, _⟩ := F.ex
  have ec : cdv = .ref cd := hcd
  subst ec
  refine fn_of lk hci Sc (fun vs H Q E ⟨G, ds, pn, _, r, _, _, h⟩ => by rw [r.length]; exact np _ _ _ _ h) fun A outer s H vs Q E hr ⟨G, ds, pn, hs, r, hp, ht, h⟩ => ?_
  refine ⟨tSs _ (defBody st), pss_sem, ?_⟩
  have tk0 : Takes (bX P w K mg base N qual st f (.ref cd) A outer s H E) (fun cls d _ H => E cls d H) := takes_of rfl rfl rfl rfl
  have b := body A outer s H E G ds pn _ _ hr (tk0.imp fun cls d σ H' ⟨S', G', y, h1, rx, q⟩ => q cls d G' H' h1.done rx) h
  have h0 := Hd.start (cf := cf) (N := N) (Ev := fun x pn' => ∀ cls dd G' H', After cf K G H pn G' H' pn' → ExRep K mg G' cls dd x → E cls dd H') hs r hp (by rw [np _ _ _ _ h]; exact hps) ht
  refine tSs_mono (b (L2.start N vs) G H h0) (fun σ' H' ⟨S', G', h1, s1, q⟩ => q .non G' H' h1.done .non) (fun v H' ⟨d, S', σ', G', h1, s1, rv, q⟩ => q v G' H' h1.done rv) (fun _ _ ⟨_, _, _, _, z⟩ => z) (fun _ _ ⟨_, _, _, _, z⟩ => z)
end
end VL
set_option Elab.async false
set_option linter.all false
set_option maxRecDepth 100000
set_option maxHeartbeats 4000000
/-! VX19: try .. except C as n, the caught one's dict known. -/
namespace VL
open PySem PySem.Spec PyProof.Rows L2
section
variable {X : Cx} {c : Cv} {S : State} {e a b : Expr} {es : List Expr} {pos pos2 p : Pos} {Q : D → State → Prop} {E : VD} {k : Nat} {cn f : Str}
theorem vs_tryAs2 (i : Nat) {x n : Str} {cv : Value} {body suite : List Stmt} {b0 : Stmt} {np pos' : Pos} (hs : X.stack = X.env :: X.outer) (hf : X.env.frame = some X.env.locals) (hN : X.N.Nodup) (hc : Names X x cv) (tk : Takes X (WV X c)) (EVt : ExD → State → Prop)
    (hb : ∀ (pn : List (Addr × Obj)) (xe : Value → Shared → Prop) (G0 : Hp), Takes (X.tr pn xe) (WV (X.tr pn xe) { c with G0 := G0, EV := EVt }) → VSs (X.tr pn xe) { c with G0 := G0, EV := EVt } S body E)
    (hx : ∀ y S', EVt y S' → ∃ b, (∀ C, X.mg y.c = some (.ref C) → PySem.W.exmOne X.K (.ref C) cv = some b) ∧
      (b = true → ∀ (a C : Addr) (oe : Obj) (d : Option Addr) (pn : List (Addr × Obj)) (G0 : Hp), X.mg y.c = some (.ref C) → Zc (.ref C) d oe → (∃ vs, oe.data = .fields vs) → (y.ks ≠ [] → ∃ dd, d = some dd) → VSs (X.suite a ((a, oe) :: pn)) { c with G0 := G0, EV := fun _ _ => False } (S'.put i (.val (cauD a d y))) (b0 :: suite) (E.un i)) ∧ (b = false → c.EV y S'))
    (hi : X.N[i]? = some n := by rfl) (hln : X.env.kindOf n = some .local := by rfl) :
    VS X c S (.Try body [.ExceptHandler (some (.Name x np)) (some n) (b0 :: suite) pos'] [] [] pos) E := fun σ G H hd => by
  refine tS_of (ps_try_as (tb := fun W Dn σ H => ∀ (pn : List (Addr × Obj)) (xe : Value → Shared → Prop), Takes (X.tr pn xe) W → tSs (X.tr pn xe) body Dn σ H)
    (ts := fun a cls d Dn σ H => ∀ (oe : Obj) (pn : List (Addr × Obj)), Zc cls d oe → (∃ vs, oe.data = .fields vs) → tSs (X.suite a ((a, oe) :: pn)) (b0 :: suite) Dn σ H)
    hs hf hN hi hln hc tk (fun W pn xe t _ => ⟨fun pins s σ H D I h => h pn xe t pins s I⟩) (fun a oe cls d pn hz hfd => ⟨fun pins s σ H D I h => h oe pn hz hfd pins s I⟩)) ?_
  intro pn xe tkt
  refine tSs_mono (hb pn xe G (tkt.imp fun cls d σ' H' ⟨S', G', y, h1, rx, q⟩ => ?_) σ G H (hd.reG0 EVt)) (fun _ _ ⟨S', G', h1, s1, q⟩ => ⟨S', G', hd.unG0 h1, s1, q⟩) (fun _ _ ⟨d, S', σ', G', h1, s1, r, q⟩ => ⟨d, S', σ', G', hd.unG0 h1, s1, r, q⟩)
    (fun _ _ ⟨S', G', h1, s1, q⟩ => ⟨S', G', hd.unG0 h1, s1, q⟩) (fun _ _ ⟨S', G', h1, s1, q⟩ => ⟨S', G', hd.unG0 h1, s1, q⟩)
  obtain ⟨C, hC, ecls, hfld⟩ := rx
  subst ecls
  obtain ⟨b, hb1, hyes, hno⟩ := hx y S' q
  have h2 : HdX X c S' σ' G' H' := hd.unG0 h1
  have s1 : Same G G' := h1.ext0
  refine ⟨b, hb1 C hC, fun hbt a na oe pn2 hz hfd => ?_, fun hbf => ⟨S', G', y, h2, ⟨C, hC, rfl, hfld⟩, hno hbf⟩⟩
  have rc : RepX X G' (.ref a) (cauD a d y) := by
    unfold cauD
    rcases hfld with ⟨z1, z2⟩ | ⟨dd, fs, rfl, g1, g2, g3⟩
    · cases d with
      | none => exact .adr
      | some dd => simp only [z1, if_true]; exact .adr
    · by_cases hk : y.ks = []
      · simp only [hk, if_true]; exact .adr
      · simp only [hk, if_false]; exact .cau g1 g2 g3
  have hsome : y.ks ≠ [] → ∃ dd, d = some dd := fun hk => by
    rcases hfld with ⟨z1, _⟩ | ⟨dd, fs, e, _⟩
    · exact absurd z1 hk
    · exact ⟨dd, e⟩
  have q1 := hyes hbt a C oe d pn2 G' hC hz hfd hsome (σ'.set i (some (.ref a))) G' H' ((h2.setVal (i := i) rc).reG0 _)
  refine tSs_mono q1 (fun σ2 H2 ⟨S2, G2, h3, s3, q3⟩ => ?_) (fun v H2 ⟨d2, S2, σ3, G2, h3, s3, r3, q3⟩ => ⟨d2, S2, σ3, G2, (h2.setVal (i := i) rc).unG0 h3, s1.trans s3, r3, q3⟩) (fun σ2 H2 ⟨S2, G2, h3, s3, q3⟩ => ?_) (fun σ2 H2 ⟨S2, G2, h3, s3, q3⟩ => ?_)
  · exact ends_un ⟨S2, G2, (h2.setVal (i := i) rc).unG0 h3, s1.trans s3, q3⟩
  · exact ends_un ⟨S2, G2, (h2.setVal (i := i) rc).unG0 h3, s1.trans s3, q3⟩
  · exact ends_un ⟨S2, G2, (h2.setVal (i := i) rc).unG0 h3, s1.trans s3, q3⟩
end
end VL
set_option Elab.async false
set_option linter.all false
set_option maxRecDepth 100000
set_option maxHeartbeats 4000000
/-! VX20: the hook of a head with own exceptions, any test of the written part and the tables of lambdas' code objects; the end of such a law. -/
namespace VL
open PySem PySem.Spec PyProof.Rows L2 NdefX LamX
abbrev AlW : Type := He.AlD × List FnXo × Bool
/-- the addresses that n steps reach from the module's names; a number's bits tell which were met -/
def strictN {α : Type} (n : Nat) (k : Nat → α) : α := match n with
  | 0 => k 0
  | m + 1 => k (m + 1)
def metB (m : Nat) (a : Addr) : Bool := Nat.beq (Nat.land (Nat.shiftRight m a) 1) 1
def pushAll {α : Type} : List Addr → Nat → List Addr → (Nat → List Addr → α) → α
  | [], m, fr, k => k m fr
  | a :: r, m, fr, k => match metB m a with
    | true => pushAll r m fr k
    | false => strictN a fun a => strictN (Nat.lor m (Nat.shiftLeft 1 a)) fun m => pushAll r m (a :: fr) k
def levR {α : Type} (g : Addr → Option Obj) : List Addr → Nat → List Addr → (Nat → List Addr → α) → α
  | [], m, fr, k => k m fr
  | a :: r, m, fr, k => match g a with
    | some o => pushAll (He.refsD o) m fr fun m fr => levR g r m fr k
    | none => levR g r m fr k
def asM (g : Addr → Option Obj) : Nat → List Addr → Nat → List Addr → List Addr
  | 0, fr, _, acc => fr ++ acc
  | n + 1, fr, m, acc => levR g fr m [] fun m fr2 => asM g n fr2 m (fr ++ acc)
def frW (n : Nat) (g : Addr → Option Obj) : PySem.W.Frag := He.frT g (cStatics :: asM g n [mainGlobals] (Nat.shiftLeft 1 mainGlobals) [])
def obsW (n : Nat) (fa : List He.Fa) (fn : List He.DefD) (xs : List XD) (tf : List He.Defn) (t : PySem.W.Frag → Bool) (g : Addr → Option Obj) : AlW := (He.obsD fa fn (frW n g), xs.map (XD.obs (frW n g)), t (frW n g) && He.tabsB g tf (frW n g))
def valW0 (fn : List He.DefD) (xs : List XD) : AlW := (He.valD fn, xs.map XD.val, true)
structure SaysW (fa : List He.Fa) (fn : List He.DefD) (xs : List XD) (tf : List He.Defn) (t : PySem.W.Frag → Bool) (h : Heap) (K : PySem.W.Frag) : Prop where
  d : He.SaysD fa fn K
  x : xs.map (XD.obs K) = xs.map XD.val
  more : t K = true
  hd : ∀ p ∈ tf, PySem.W.codeHdIn K (He.cT K p).1 (He.cT K p).2 = true
  out : ∀ p ∈ tf, K.lookup (He.cT K p).2 = none
  empty : ∀ p ∈ tf, h.get? (He.cT K p).2 = some { cls := .none, data := .fields #[] }
theorem saysW_of {n : Nat} {fa : List He.Fa} {fn : List He.DefD} {xs : List XD} {tf : List He.Defn} {t : PySem.W.Frag → Bool} {h : Heap} (e : obsW n fa fn xs tf t h.get? = valW0 fn xs) : SaysW fa fn xs tf t h (frW n h.get?) := by
  have e1 : He.obsD fa fn (frW n h.get?) = He.valD fn := congrArg (fun z : AlW => z.1) e
  have e2 : xs.map (XD.obs (frW n h.get?)) = xs.map XD.val := congrArg (fun z : AlW => z.2.1) e
  have e3 : (t (frW n h.get?) && He.tabsB h.get? tf (frW n h.get?)) = true := congrArg (fun z : AlW => z.2.2) e
  obtain ⟨h1, h2⟩ := Bool.and_eq_true_iff.mp e3
  have key : ∀ p ∈ tf, PySem.W.codeHdIn (frW n h.get?) (He.cT (frW n h.get?) p).1 (He.cT (frW n h.get?) p).2 = true ∧ ∃ o, h.get? (He.cT (frW n h.get?) p).2 = some o ∧ He.emptyTab o = true := fun p hp => by
    obtain ⟨a, b⟩ := Bool.and_eq_true_iff.mp (List.all_eq_true.mp h2 p hp)
    refine ⟨a, ?_⟩
    cases q : h.get? (He.cT (frW n h.get?) p).2 with
    | none => rw [q] at b; cases b
    | some o => rw [q] at b; exact ⟨o, rfl, b⟩
  refine ⟨e1, e2, h1, fun p hp => (key p hp).1, fun p hp => ?_, fun p hp => ?_⟩
  · obtain ⟨_, o, q, z⟩ := key p hp
    exact He.frT_none q z
  · obtain ⟨_, o, q, z⟩ := key p hp
    rw [q, He.emptyTab_eq z]
def hookW (n : Nat) (fa : List He.Fa) (fn : List He.DefD) (xs : List XD) (tf : List He.Defn) (t : PySem.W.Frag → Bool) : PySem.W.Hook where
  α := AlW
  obs := fun s => obsW n fa fn xs tf t s.heap.get?
  val := fun _ => valW0 fn xs
  says := fun _ h => ∃ K : PySem.W.Frag, K.In h ∧ SaysW fa fn xs tf t h K
  of := fun _ _ e => ⟨_, He.frT_in, saysW_of e⟩
  keeps := fun _ _ _ ⟨K, hK, c⟩ k => ⟨K, PySem.W.Frag.In.keeps hK k, ⟨c.d, c.x, c.more, c.hd, c.out, fun p hp => k _ _ (c.empty p hp)⟩⟩
theorem obsW_eq {n : Nat} {fa : List He.Fa} {fn : List He.DefD} {xs : List XD} {tf : List He.Defn} {t : PySem.W.Frag → Bool} {g : Addr → Option Obj} {s : Shared} (h : ∀ a, g a = s.heap.get? a) : obsW n fa fn xs tf t g = (hookW n fa fn xs tf t).obs s := by
  have e : g = s.heap.get? := funext h
  rw [e] <;> rfl
theorem SaysW.fact {fa : List He.Fa} {fn : List He.DefD} {xs : List XD} {tf : List He.Defn} {t : PySem.W.Frag → Bool} {h : Heap} {K : PySem.W.Frag} (c : SaysW fa fn xs tf t h K) {f : He.Fa} (hf : f ∈ fa) : f.ok K = true := He.SaysD.facts c.d hf
theorem SaysW.defs {fa : List He.Fa} {fn : List He.DefD} {xs : List XD} {tf : List He.Defn} {t : PySem.W.Frag → Bool} {h : Heap} {K : PySem.W.Frag} (c : SaysW fa fn xs tf t h K) {d : He.DefD} (hd : d ∈ fn) : ∃ fd, FunD K d.name d.qual d.params d.body d.scope (d.dvs K) (d.kws K) (He.fAd K d.at_) fd := He.SaysD.defs c.d hd
theorem SaysW.xd {fa : List He.Fa} {fn : List He.DefD} {xs : List XD} {tf : List He.Defn} {t : PySem.W.Frag → Bool} {h : Heap} {K : PySem.W.Frag} (c : SaysW fa fn xs tf t h K) {i : Nat} {d : XD} (hd : xs[i]? = some d) : d.obs K = d.val := by
  have e2 : (xs.map (XD.obs K))[i]? = (xs.map XD.val)[i]? := by rw [c.x]
  rw [List.getElem?_map, List.getElem?_map, hd] at e2
  exact Option.some.inj e2
/-- the code object of a def -/
theorem code_of {K : PySem.W.Frag} {x qual : Str} {params : Arguments} {body : List Stmt} {scope : Scope} {dvs : List V} {kws : List (Str × V)} {fd : FuncData} {p : Str × Option Str} (F : FunD K x qual params body scope dvs kws (He.fAd K p) fd) : fd.code = .ref (He.codeOf K p) := by
  obtain ⟨oc, od, dV, kV, doc, pm, an, cdv, ct, osl, rfl, lk, hcd, _, _⟩ := F.ex
  obtain ⟨c, rfl⟩ := He.codeIn_ref hcd
  rw [He.codeOf_eq lk rfl]
/-- the end of a law: a hook's heap, the script's bits, the tables -/
theorem walk_ofW {l : PySem.W.OpenLaw} {n k : Nat} {q : Program} {loose : List Str} {XP : (Str → Option Value) → Heap → Prop} {YP : World → Heap → Prop} {d : DefRec} {CX : World → CXT} {x : Str}
    (hn : l.most = some n) (hn2 : n ≤ sizeLine) (hdf : d.params.defaults = []) (hr : Room k callerA)
    (F : ∀ (w : World) (mg : Str → Option Value) (fa : Addr) (h : Heap), YP w h → h.Ns mainGlobals mg → mg d.name = some (.ref fa) →
      ∃ (K : PySem.W.Frag) (fd : FuncData) (cs : List (Addr × Addr)) (sp : Sp), K.In h ∧ (∀ p ∈ cs, h.get? p.2 = some { cls := .none, data := .fields #[] }) ∧ (∀ p ∈ cs, K.lookup p.2 = none) ∧ (∀ p ∈ cs, PySem.W.codeHdIn K p.1 p.2 = true) ∧ (∀ (s : Shared) (u : Value), BindsTo s fd ⟨[u], []⟩ [(x, u)]) ∧
        (∀ (H : Hp) (a : Addr) (ns : List Int), ns.length ≤ n → (∀ k ∈ ns, Builtin.Int.intBits k ≤ 1048576) → (∀ p ∈ cs, H p.2 = some (.tbl #[])) → SqL K H a (ns.map V.int) → sp [.ref a] H (fun v _ => v = .bl true) fun _ _ _ => False) ∧
        ∀ base : Heap, K.In base → base.Ns mainGlobals mg → (∀ p ∈ cs, TabB base mg p.1 p.2) → FnOk l.prog w K mg base (CX w) k fa fd [x] sp)
    (hCX : ∀ (w : World) (H : Hp) (s : Shared) (e : Value) (s' : Shared), CX w [] H s (fun _ _ _ => False) e s' → False) :
    PySem.W.WalkO q loose XP YP l.row.toRowW d [] (fun f vs => PySem.call f vs) := by
  refine Att.attach_callB hn hdf fun w s₀ s₁ mg mb fa o pm cd doc a vs ns G Y ho hd hcd hmg hobj hints hlen hbits hg => ?_
  obtain ⟨K, fd, cs, sp, KX, hT, nT, C, hb, hsp, hF⟩ := F w mg fa _ Y G.T.g hmg
  exact law_callTs KX G.T.g G.T.b G.T.builtins G.T.nolimit hg hT nT (fun p hp => PySem.W.codeHd_of_K KX (C p hp)) G.T.bmain hobj hints (Nat.le_trans hlen hn2) hr hF hb (fun H hH hS => hsp H a ns hlen hbits hH hS) fun H e s' => hCX w H s₁ e s'
theorem abs_bits {k : Int} (h : Builtin.Int.intBits k ≤ 1048576) : k.natAbs < 2 ^ 1048577 :=
  Nat.lt_of_lt_of_le (PySem.intBits_le_iff.mp h) (Nat.pow_le_pow_right (by decide) (by decide))
/-- a law's contract at its entry: the script, no pen, the tables empty -/
theorem entryW {K : PySem.W.Frag} {mg : Str → Option Value} {cf : Cfg} {ct : Ct} {H : Hp} {a : Addr} {ns : List Int} (hT : ∀ p ∈ cf.tb, H p.1 = some (.tbl #[])) (hS : SqL K H a (ns.map V.int)) (h : ct.run [.scr (ns.map D.int)] none (fun d _ => d = .bl true) fun _ _ => False) : spV cf K mg ct [.ref a] H (fun v _ => v = .bl true) fun _ _ _ => False := by
  have out : ∀ {b : Addr} {u : HO}, H b = some u → (∀ ps, u ≠ .tbl ps) → (∀ p ∈ cf.tb, p.1 ≠ b) := fun {b u} e hu p hp z => by
    rw [← z, hT p hp] at e
    exact hu _ (Option.some.inj e).symm
  classical
  refine ⟨fun b => if ∃ p ∈ cf.tb, p.1 = b then none else H b, [.scr (ns.map D.int)], none, fun b u e => ?_, .cons (.scr ?_ (Reps.ints _)) .nil, fun p r z => (by cases z), fun p hp => ?_, ct.mono h (fun d pn' e v G' H' A r => ?_) (fun x pn' z => z.elim)⟩
  · by_cases z : ∃ p ∈ cf.tb, p.1 = b
    · have e' : (if ∃ p ∈ cf.tb, p.1 = b then none else H b) = some u := e
      rw [if_pos z] at e'; cases e'
    · have e' : (if ∃ p ∈ cf.tb, p.1 = b then none else H b) = some u := e
      rw [if_neg z] at e'; exact e'
  · rcases hS with (hS | ⟨o, hS⟩) | hS
    · refine .inl (.inl ?_)
      show (if _ then _ else _) = _
      rw [if_neg fun ⟨p, hp, z⟩ => out hS (fun _ y => nomatch y) p hp z]; exact hS
    · refine .inl (.inr ⟨o, ?_⟩)
      show (if _ then _ else _) = _
      rw [if_neg fun ⟨p, hp, z⟩ => out hS (fun _ y => nomatch y) p hp z]; exact hS
    · exact .inr hS
  · refine ⟨#[], hT p hp, ?_, trivial, fun pos cv hc => ?_⟩
    · show (if _ then _ else _) = _
      exact if_pos ⟨p, hp, rfl⟩
    · have z : codeAmong pos [] = some cv := hc
      simp [codeAmong] at z
  · subst e
    cases r; rfl
end VL
set_option Elab.async false
set_option linter.all false
set_option maxRecDepth 100000
set_option maxHeartbeats 1000000
/-! VX21: operators of own classes with a built-in operand, on either side; the negative; == by an own __eq__. -/
namespace VL
open PySem PySem.Spec PyProof.Rows L2 NdefX
/-! ### an int's own slots decline an instance -/
section
variable {M : Model} {A : Around} {E : Value → Shared → Prop} {s : Shared} {a : Value} {x C dx : Addr}
theorem asInt_inst {Q : Option Int → Shared → Prop} (ho : s.heap.get? x = some (PySem.W.instObj C dx)) (q : Q none s) : wpAny M A (asInt? (.ref x)) Q E s := by
  unfold asInt?
  exact wpAny_bind (wpAny_load ho (wpAny_pure q))
theorem int_declines {nm : String} {f : Int → Int → Sem Fin} {i : Int} {Q : Fin → Shared → Prop} (hs : Builtin.Int.intOfSelf a = pure i) (ho : s.heap.get? x = some (PySem.W.instObj C dx))
    (q : Q (.done (.ret .notImplemented)) s) : wpAny M A (Builtin.Int.intBinary nm f false ⟨[a, .ref x], []⟩) Q E s := by
  unfold Builtin.Int.intBinary
  refine wpAny_bind (m := slotArgs nm 1 _) (wpAny_pure ?_)
  show wpAny M A (Builtin.Int.intOfSelf a >>= _) _ _ _
  rw [hs]
  refine wpAny_bind (wpAny_pure ?_)
  refine wpAny_bind (asInt_inst ho ?_)
  exact wpAny_bind (wpAny_rule (wpAny_pure q))
end
section
variable {prog : Program} {w : World} {A : Around} {E : Value → Shared → Prop} {s : Shared} {a : Value} {x C dx : Addr}
/-- what an int's slot says of an instance: NotImplemented -/
abbrev Declines (x C dx : Addr) (t : Sem Fin) : Prop := Meets t (fun _ R s => s.heap.get? x = some (PySem.W.instObj C dx) ∧ R (.ok (.ret Value.notImplemented)) s)
theorem declines_of {nm : String} {f : Int → Int → Sem Fin} {i : Int} (hs : Builtin.Int.intOfSelf a = pure i) : Declines x C dx (Builtin.Int.intBinary nm f false ⟨[a, .ref x], []⟩) := .of_wp fun prog w A R s h => int_declines hs h.1 ⟨_, rfl, h.2⟩
theorem self_int (i : Int) (t : Tok) : Builtin.Int.intOfSelf (.int i t) = pure i := rfl
theorem self_bool (b : Bool) : Builtin.Int.intOfSelf (.bool b) = pure (if b then 1 else 0) := rfl
/-- an int or a bool -/
def IntB (a : Value) (T : String) : Prop := (T = "int" ∧ ∃ i t, a = .int i t) ∨ (T = "bool" ∧ ∃ b, a = .bool b)
abbrev ThreeOp (op : Operator) : Prop := op = .Add ∨ op = .Sub ∨ op = .Mult
theorem try_dec {T id : String} {name : Str} {B : Builtin} {Q : Option Value → Shared → Prop} (slot : Slot T name id) (hT : s.TypeIs a T) (entry : entryFor table id = some B) (args : argsOk id ⟨[a, .ref x], []⟩)
    (g : Declines x C dx (B ⟨[a, .ref x], []⟩)) (ho : s.heap.get? x = some (PySem.W.instObj C dx)) (q : Q none s) : wpAny (model prog w) A (tryMethod a name (.ref x)) Q E s :=
  wpAny_tryMethod_declines hT slot (call_meets slot hT entry args g ⟨ho, rfl, q⟩)
theorem dec_add {i : Int} (hs : Builtin.Int.intOfSelf a = pure i) : Declines x C dx (Builtin.«int.__add__» ⟨[a, .ref x], []⟩) := by unfold Builtin.«int.__add__»; exact declines_of hs
theorem dec_sub {i : Int} (hs : Builtin.Int.intOfSelf a = pure i) : Declines x C dx (Builtin.«int.__sub__» ⟨[a, .ref x], []⟩) := by unfold Builtin.«int.__sub__»; exact declines_of hs
theorem dec_mul {i : Int} (hs : Builtin.Int.intOfSelf a = pure i) : Declines x C dx (Builtin.«int.__mul__» ⟨[a, .ref x], []⟩) := by unfold Builtin.«int.__mul__»; exact declines_of hs
theorem dec_eq {i : Int} (hs : Builtin.Int.intOfSelf a = pure i) : Declines x C dx (Builtin.«int.__eq__» ⟨[a, .ref x], []⟩) := by unfold Builtin.«int.__eq__»; exact declines_of (nm := "__eq__") (f := fun x y => ret (.bool (x == y))) hs
theorem try_int {op : Operator} (h3 : ThreeOp op) {T : String} (hi : IntB a T) {Q : Option Value → Shared → Prop} (ho : s.heap.get? x = some (PySem.W.instObj C dx)) (q : Q none s) : wpAny (model prog w) A (tryMethod a (PySem.dunder op.info.2) (.ref x)) Q E s := by
  obtain ⟨i, hs⟩ : ∃ i, Builtin.Int.intOfSelf a = pure i := by
    rcases hi with ⟨rfl, i, t, rfl⟩ | ⟨rfl, b, rfl⟩ <;> exact ⟨_, rfl⟩
  have hT : s.TypeIs a T := by
    rcases hi with ⟨rfl, i, t, rfl⟩ | ⟨rfl, b, rfl⟩
    · exact PySem.typeIs_int s i t
    · exact PySem.typeIs_bool s b
  have hTT : T = "int" ∨ T = "bool" := hi.imp (fun z => z.1) fun z => z.1
  rcases h3 with rfl | rfl | rfl
  · have sl : Slot T (PySem.dunder "add") "int.__add__" := by rcases hTT with rfl | rfl <;> first | exact PySem.F.slot_int_add | exact PySem.F.slot_bool_add
    exact try_dec (B := Builtin.«int.__add__») sl hT PySem.F.entry_int_add (PySem.F.args_int_add_2 _ _) (dec_add hs) ho q
  · have sl : Slot T (PySem.dunder "sub") "int.__sub__" := by rcases hTT with rfl | rfl <;> first | exact PySem.F.slot_int_sub | exact PySem.F.slot_bool_sub
    exact try_dec (B := Builtin.«int.__sub__») sl hT PySem.F.entry_int_sub (PySem.F.args_int_sub_2 _ _) (dec_sub hs) ho q
  · have sl : Slot T (PySem.dunder "mul") "int.__mul__" := by rcases hTT with rfl | rfl <;> first | exact PySem.F.slot_int_mul | exact PySem.F.slot_bool_mul
    exact try_dec (B := Builtin.«int.__mul__») sl hT PySem.F.entry_int_mul (PySem.F.args_int_mul_2 _ _) (dec_mul hs) ho q
theorem try_eq {i : Int} {t : Tok} {Q : Option Value → Shared → Prop} (ho : s.heap.get? x = some (PySem.W.instObj C dx)) (q : Q none s) : wpAny (model prog w) A (tryCompare (.int i t) "__eq__" (.ref x)) Q E s :=
  wpAny_tryCompare_declines (PySem.typeIs_int s i t) PySem.F.slot_int_eq (call_meets (B := Builtin.«int.__eq__») PySem.F.slot_int_eq (PySem.typeIs_int s i t) PySem.F.entry_int_eq (PySem.F.args_int_eq_2 _ _) (dec_eq (self_int i t)) ⟨ho, rfl, q⟩)
end
/-! ### the operators -/
section
variable {prog : Program} {w : World} {A : Around} {E : Value → Shared → Prop} {s : Shared} {K : PySem.W.Frag} {x C L f f0 : Addr} {h₀ : Heap} {m : Str → Option Value} {ox : Obj} {od : Option Obj} {T : String} {op : Operator} {b : Value} {Q : Value → Shared → Prop}
open PySem.W in
/-- x op b: an instance, and a value of a built-in type -/
theorem bin_left {fo ro rc : Option Value} (F : Fr h₀ L s.heap m) (X₀ : K.In h₀) (I : InstAt s.heap x ox C od) (hb : Looks (model prog w) s.heap (typeOf b) (.type T)) (hc : selfFirst K C = true)
    (hs : findIn K (.ref C) (PySem.dunder op.info.2) = some (some (.ref f))) (hf : isFn K (.ref f) = true) (hr : findIn K (.ref C) (dunderR op.info.2) = some rc) (hp : rc = none ∨ ∃ g : Addr, rc = some (.ref g))
    (h1 : findIn K (.type T) (PySem.dunder op.info.2) = some fo) (h2 : findIn K (.type T) (dunderR op.info.2) = some ro) (hsub : subIn K (.type T) (.ref C) = some false)
    (h : wpAny (model prog w) A (call (.ref f) [.ref x, b]) (PySem.W.CmpBack Q) E s) : wpAny (model prog w) A (binaryOp op (.ref x) b) Q E s := by
  have X := X₀.keeps F.keep
  obtain ⟨cd, rest, hcd, hm⟩ := ksp_first hc
  have go := ksp_try X I hs hf h
  obtain ⟨sym, nm, hi⟩ : ∃ sym nm, op.info = (sym, nm) := ⟨_, _, rfl⟩
  rw [hi] at hs hr h1 h2 go
  simp only at hs hr h1 h2 go
  obtain ⟨hh, g, d, tt, os⟩ := s
  have k1 := I.type (M := model prog w)
  have k2 := fills_K (M := model prog w) X hcd hm hs
  have k3 := ksp_fillsT (M := model prog w) X h1 h2
  have k4 := looks_subIn (M := model prog w) X hsub
  have k5 := ksp_inPy (M := model prog w) X hs hr hp
  have k6 : Looks (model prog w) hh (numberSlotInPython (.type T) nm) false := .of_pure rfl
  have k7 := looks_findIn (M := model prog w) X h2
  have ne : (Value.ref C == Value.type T) = false := by rw [beq_eq_false_iff_ne]; exact nofun
  generalize ((fo.isSome && !isSeqSlot fo) || (ro.isSome && !isSeqSlot ro)) = right at k3
  unfold binaryOp
  simp only [hi]
  refine wpAny_holding (wpAny_bind ?_)
  unfold binaryOp1
  refine wpAny_bind (k1.at (wpAny_bind (hb.at (wpAny_bind (k2.at ?_)))))
  simp only [ne, Bool.false_eq_true, if_false]
  cases right <;>
  · ksp_lk
    refine wpAny_mono go (fun r s' z => ?_) fun _ _ z => z
    obtain ⟨v, rfl, q⟩ := z
    ksp_lk
    exact q
open PySem.W in
/-- a op x: a value of a built-in type whose own slot, if it has one, declines, and an instance -/
theorem bin_right {fo ro : Option Value} {a : Value} (F : Fr h₀ L s.heap m) (X₀ : K.In h₀) (I : InstAt s.heap x ox C od) (ha : Looks (model prog w) s.heap (typeOf a) (.type T)) (hc : selfFirst K C = true)
    (h0 : findIn K (.ref C) (PySem.dunder op.info.2) = some (some (.ref f0))) (hs : findIn K (.ref C) (dunderR op.info.2) = some (some (.ref f))) (hf : isFn K (.ref f) = true)
    (h1 : findIn K (.type T) (PySem.dunder op.info.2) = some fo) (h2 : findIn K (.type T) (dunderR op.info.2) = some ro) (hsub : subIn K (.ref C) (.type T) = some false)
    (hd : ((fo.isSome && !isSeqSlot fo) || (ro.isSome && !isSeqSlot ro)) = true → ∀ Q' : Option Value → Shared → Prop, Q' none s → wpAny (model prog w) A (tryMethod a (PySem.dunder op.info.2) (.ref x)) Q' E s)
    (h : wpAny (model prog w) A (call (.ref f) [.ref x, a]) (PySem.W.CmpBack Q) E s) : wpAny (model prog w) A (binaryOp op a (.ref x)) Q E s := by
  have X := X₀.keeps F.keep
  obtain ⟨cd, rest, hcd, hm⟩ := ksp_first hc
  have go := ksp_try X I hs hf h
  obtain ⟨sym, nm, hi⟩ : ∃ sym nm, op.info = (sym, nm) := ⟨_, _, rfl⟩
  rw [hi] at h0 hs h1 h2 go hd
  simp only at h0 hs h1 h2 go hd
  obtain ⟨hh, g, d, tt, os⟩ := s
  have k1 := I.type (M := model prog w)
  have k2 := fills_K (M := model prog w) X hcd hm h0
  have k3 := ksp_fillsT (M := model prog w) X h1 h2
  have k4 := looks_subIn (M := model prog w) X hsub
  have k6 : Looks (model prog w) hh (numberSlotInPython (.type T) nm) false := .of_pure rfl
  have ne : (Value.type T == Value.ref C) = false := by rw [beq_eq_false_iff_ne]; exact nofun
  generalize ((fo.isSome && !isSeqSlot fo) || (ro.isSome && !isSeqSlot ro)) = left at k3 hd
  unfold binaryOp
  simp only [hi]
  refine wpAny_holding (wpAny_bind ?_)
  unfold binaryOp1
  refine wpAny_bind (ha.at (wpAny_bind (k1.at (wpAny_bind (k3.at ?_)))))
  simp only [ne, Bool.false_eq_true, if_false]
  cases left with
  | false =>
    ksp_lk
    refine wpAny_mono go (fun r s' z => ?_) fun _ _ z => z
    obtain ⟨v, rfl, q⟩ := z
    ksp_lk
    exact q
  | true =>
    ksp_lk
    refine hd rfl _ ?_
    ksp_lk
    refine wpAny_mono go (fun r s' z => ?_) fun _ _ z => z
    obtain ⟨v, rfl, q⟩ := z
    ksp_lk
    exact q
end

open PySem.W in
/-- an int == an instance: by the instance's own __eq__ -/
theorem cmp_intl {prog : Program} {w : World} {A : Around} {E : Value → Shared → Prop} {s : Shared} {K : PySem.W.Frag} {x C dx L f : Addr} {h₀ : Heap} {m : Str → Option Value} {od : Option Obj} {i : Int} {t : Tok} {Q : Value → Shared → Prop} (hu : A.units < cLine)
    (F : Fr h₀ L s.heap m) (X₀ : K.In h₀) (I : InstAt s.heap x (instObj C dx) C od) (hsub : subIn K (.ref C) (.type "int") = some false) (hs : findIn K (.ref C) "__eq__" = some (some (.ref f))) (hf : isFn K (.ref f) = true)
    (h : wpAny (model prog w) A (call (.ref f) [.ref x, .int i t]) (PySem.W.CmpBack Q) E s) : wpAny (model prog w) A (richCompare .Eq (.int i t) (.ref x)) Q E s := by
  have X := X₀.keeps F.keep
  have go : wpAny (model prog w) A (tryCompare (.ref x) "__eq__" (.int i t)) (fun r s' => ∃ v, r = some v ∧ Q v s') E s := by
    unfold tryCompare
    refine wpAny_bind (ifBound_K X I hs hf (wpAny_mono h (fun v s' hv => ?_) fun _ _ e => e))
    cases v <;> first | exact hv.elim | exact wpAny_pure ⟨_, rfl, hv⟩
  have ne : (Value.type "int" != Value.ref C) = true := by rw [bne_iff_ne]; exact nofun
  have one := (PySem.typeIs_int s i t).oneThing_none .Eq (.ref x)
  simp only [richCompare, cmpInfo_Eq, one]
  refine wpAny_holding (wpAny_bind (wpAny_cRoomFor hu ?_))
  refine wpAny_bind (wpAny_typeOf (PySem.typeIs_int s i t) (wpAny_bind (I.type.here ?_)))
  rw [if_pos ne]
  refine wpAny_bind ((looks_subIn X hsub).here ?_)
  simp only [Bool.false_eq_true, if_false, Bool.not_false, if_true]
  refine wpAny_bind (m := tryCompare (.int i t) _ (.ref x)) (try_eq I.at_ ?_)
  refine wpAny_bind (m := tryCompare (.ref x) _ (.int i t)) (wpAny_mono go (fun r s' z => ?_) fun _ _ z => z)
  obtain ⟨v, rfl, q⟩ := z
  exact wpAny_pure q
/-! ### by values -/
theorem VMeth.mono {P : Program} {w : World} {K : PySem.W.Frag} {mg : Str → Option Value} {base : Heap} {cf : Cfg} {j k : Nat} {cn m : Str} {dd : List D} {ct : Ct} (F : VMeth P w K mg base cf j cn m dd ct) (h : j ≤ k) : VMeth P w K mg base cf k cn m dd ct := by
  obtain ⟨C, f, fd, ps, dvs, ds, a, b, c, ok, r⟩ := F.ex
  exact ⟨C, f, fd, ps, dvs, ds, a, b, c, ok.mono h, r⟩
theorem tyD_int {d : D} (h : tyD d = some "int") : ∃ i, d = .int i := by cases d <;> simp [tyD] at h <;> exact ⟨_, rfl⟩
theorem tyD_bool {d : D} (h : tyD d = some "bool") : ∃ i, d = .bl i := by cases d <;> simp [tyD] at h <;> exact ⟨_, rfl⟩
/-- a built-in type on the left of the operator, a class called cn on the right -/
structure OpTR (K : PySem.W.Frag) (mg : Str → Option Value) (cn : Str) (op : Operator) (T : String) : Prop where
  ok : ∀ C, mg cn = some (.ref C) → PySem.W.selfFirst K C = true ∧ (∃ g : Addr, PySem.W.findIn K (.ref C) (PySem.dunder op.info.2) = some (some (.ref g))) ∧
    (∃ fo ro, PySem.W.findIn K (.type T) (PySem.dunder op.info.2) = some fo ∧ PySem.W.findIn K (.type T) (dunderR op.info.2) = some ro ∧ (((fo.isSome && !isSeqSlot fo) || (ro.isSome && !isSeqSlot ro)) = true → T = "int" ∨ T = "bool")) ∧ PySem.W.subIn K (.ref C) (.type T) = some false
section
variable {X : Cx} {c : Cv} {S : State} {e a b : Expr} {σ : L2.St} {G G' H : Hp} {pos : Pos} {Q : D → State → Prop} {k : Nat} {ct : Ct} {cn : Str} {op : Operator} {ks : List Str}
/-- an instance's own function run on itself and one more -/
theorem run_self {W : WX} {f : Addr} {fd : FuncData} {ps : List Str} {dvs us : List V} {ds ws : List Value} {pins : List (Addr × Obj)} {s : Shared} {S2 : State} {a1 : Addr} {fs es : List D} (hr : Room k X.A) (tk : Takes X W)
    (ok : FnOk X.prog X.w X.K X.mg X.base (L2.CX X.prog X.w) k f fd ps (spV c.cf X.K X.mg ct)) (hb : Binds X.K fd ps ds) (hv : Vals dvs ds) (hdd : Reps X.K X.mg (fun _ => none) dvs []) (I : Inv X pins σ H s) (hd : HdX X c S2 σ G H)
    (rs : RepX X G (.ref a1) (.ins cn ks fs)) (ry : Reps X.K X.mg G us es) (ru : Vals us ws)
    (q : ct.run (.ins cn ks fs :: es) S2.pn (fun d pn' => Q d { S2 with pn := pn' }) (fun y pn' => ∀ cls dd G' H', HdX X c { S2 with pn := pn' } σ G' H' → ExRep X.K X.mg G' cls dd y → W cls dd σ H')) :
    wpAny (model X.prog X.w) X.A (call (.ref f) (.ref a1 :: ws)) (PySem.W.CmpBack (EP X pins σ (pE X c σ G Q))) X.xe s := by
  refine thn (run_fnSD (us := .ref a1 :: ws) (vs := .ref a1 :: us) (E := WE W) ok hr hb hv (passAt tk σ) I (.cons rfl ru) ?_) fun _ _ z => cmpBack_of z
  have e0 : dvs = [] := by cases hdd; rfl
  subst e0
  have r2 : Reps X.K X.mg G (.ref a1 :: us ++ []) (.ins cn ks fs :: es) := by rw [List.append_nil]; exact .cons rs ry
  exact spV_call hd r2 q (fun d pn' q v G' H' h3 s5 rv => ⟨d, _, G', h3, s5, rv, q⟩) (fun y pn' q cls dd' G' H' h3 rx => q cls dd' G' H' h3 rx)
theorem toWV {S2 : State} {y : ExD} {pn' : Pn} (h : c.EV y { S2 with pn := pn' }) : ∀ cls dd G' H', HdX X c { S2 with pn := pn' } σ G' H' → ExRep X.K X.mg G' cls dd y → WV X c cls dd σ H' := fun cls dd G' H' h3 rx => ⟨_, G', y, h3, rx, h⟩
/-- x op b: an instance, and a value of a built-in type -/
theorem ve_opL (F : VMeth X.prog X.w X.K X.mg X.base c.cf k cn (PySem.dunder op.info.2) [] ct) (hr : Room k X.A) (tk : Takes X (WV X c))
    (h : VE X c S a fun x S1 => VE X c S1 b fun y S2 => ∃ fs T, x = .ins cn ks fs ∧ tyD (core y) = some T ∧ OpT X.K X.mg cn op T ∧ ct.run [.ins cn ks fs, y] S2.pn (fun d pn' => Q d { S2 with pn := pn' }) (fun y pn' => c.EV y { S2 with pn := pn' })) :
    VE X c S (.BinOp a op b pos) Q := fun σ G H hd => by
  obtain ⟨C, f, fd, ps, dvs, ds0, hC, cl, hm, ok, hb, hv, hdd⟩ := F.ex
  intro pins s I
  refine wpAny_BinOp (thn (h σ G H hd pins s I) fun v s1 ⟨x, H1, I1, rx, d, S1, G1, h1, s2, r1, q1⟩ => thn (q1 σ G1 H1 h1 pins s1 I1) fun u s3 ⟨y, H2, I2, ry, d2, S2, G2, h2, s4, r2, fs, T, ed, hT, O, q2⟩ => ?_)
  subst ed
  have r1' := r1.mono s4
  have r1c := r1'
  cases r1c with
  | @ins a1 C1 dx fsv _ _ _ m1 m2 m3 m4 =>
    have eC : C1 = C := by rw [hC] at m1; cases m1; rfl
    subst eC
    obtain rfl : v = Value.ref a1 := rx
    obtain ⟨od, J⟩ := inst_at I2 (h2.sub _ _ m2)
    obtain ⟨mf, Fr⟩ := I2.fr
    obtain ⟨o1, ⟨rc, o2, o3⟩, ⟨fo, o4⟩, ⟨ro, o5⟩, o6⟩ := O.ok _ hC
    refine bin_left Fr I2.ok.mod.kin J (looks_ty I2 h2.sub (rep_core r2) ry hT) o1 hm.at_ hm.fn o2 o3 o4 o5 o6 ?_
    refine thn (run_self (Q := Q) hr tk ok hb hv hdd I2 h2 r1' (.cons r2 .nil) (.cons ry .nil) (ct.mono q2 (fun _ _ z => z) fun y pn' z => toWV z)) fun v4 s5 z => ?_
    cases v4 <;> first | exact z.elim | (obtain ⟨x5, H5, I5, r5, q5⟩ := id z; exact ⟨x5, H5, I5, r5, pE_back (s2.trans s4) q5⟩)
/-- a op x: a value of a built-in type, and an instance -/
theorem ve_opR (h3 : ThreeOp op) (F : VMeth X.prog X.w X.K X.mg X.base c.cf k cn (dunderR op.info.2) [] ct) (hr : Room k X.A) (tk : Takes X (WV X c))
    (h : VE X c S a fun x S1 => VE X c S1 b fun y S2 => ∃ fs T, y = .ins cn ks fs ∧ tyD (core x) = some T ∧ OpTR X.K X.mg cn op T ∧ ct.run [.ins cn ks fs, x] S2.pn (fun d pn' => Q d { S2 with pn := pn' }) (fun y pn' => c.EV y { S2 with pn := pn' })) :
    VE X c S (.BinOp a op b pos) Q := fun σ G H hd => by
  obtain ⟨C, f, fd, ps, dvs, ds0, hC, cl, hm, ok, hb, hv, hdd⟩ := F.ex
  intro pins s I
  refine wpAny_BinOp (thn (h σ G H hd pins s I) fun v s1 ⟨x, H1, I1, rx, d, S1, G1, h1, s2, r1, q1⟩ => thn (q1 σ G1 H1 h1 pins s1 I1) fun u s3 ⟨y, H2, I2, ry, d2, S2, G2, h2, s4, r2, fs, T, ed, hT, O, q2⟩ => ?_)
  subst ed
  have r1' := r1.mono s4
  have r2c := r2
  cases r2c with
  | @ins a1 C1 dx fsv _ _ _ m1 m2 m3 m4 =>
    have eC : C1 = C := by rw [hC] at m1; cases m1; rfl
    subst eC
    obtain rfl : u = Value.ref a1 := ry
    obtain ⟨od, J⟩ := inst_at I2 (h2.sub _ _ m2)
    obtain ⟨mf, Fr⟩ := I2.fr
    obtain ⟨o1, ⟨g, o2⟩, ⟨fo, ro, o3, o4, o5⟩, o6⟩ := O.ok _ hC
    refine bin_right Fr I2.ok.mod.kin J (looks_ty I2 h2.sub (rep_core r1') rx hT) o1 o2 hm.at_ hm.fn o3 o4 o6 (fun hl Q' q' => ?_) ?_
    · refine try_int h3 (T := T) ?_ J.at_ q'
      have rc1 := rep_core r1'
      rcases o5 hl with rfl | rfl
      · obtain ⟨i, e⟩ := tyD_int hT
        rw [e] at rc1
        cases rc1
        obtain ⟨t, rfl⟩ := rx
        exact .inl ⟨rfl, _, t, rfl⟩
      · obtain ⟨i, e⟩ := tyD_bool hT
        rw [e] at rc1
        cases rc1
        cases rx
        exact .inr ⟨rfl, _, rfl⟩
    · refine thn (run_self (Q := Q) hr tk ok hb hv hdd I2 h2 r2 (.cons r1' .nil) (.cons rx .nil) (ct.mono q2 (fun _ _ z => z) fun y pn' z => toWV z)) fun v4 s5 z => ?_
      cases v4 <;> first | exact z.elim | (obtain ⟨x5, H5, I5, r5, q5⟩ := id z; exact ⟨x5, H5, I5, r5, pE_back (s2.trans s4) q5⟩)
/-- -x by an own __neg__ -/
theorem ve_negS (F : VMeth X.prog X.w X.K X.mg X.base c.cf k cn "__neg__" [] ct) (hr : Room k X.A) (tk : Takes X (WV X c))
    (h : VE X c S a fun x S1 => ∃ fs, x = .ins cn ks fs ∧ ct.run [.ins cn ks fs] S1.pn (fun d pn' => Q d { S1 with pn := pn' }) (fun y pn' => c.EV y { S1 with pn := pn' })) :
    VE X c S (.UnaryOp .USub a pos) Q := fun σ G H hd => by
  obtain ⟨C, f, fd, ps, dvs, ds0, hC, cl, hm, ok, hb, hv, hdd⟩ := F.ex
  intro pins s I
  refine wpAny_UnaryOp (thn (h σ G H hd pins s I) fun v s1 ⟨x, H1, I1, rx, d, S1, G1, h1, s2, r1, fs, ed, q1⟩ => ?_)
  subst ed
  have r1c := r1
  cases r1c with
  | @ins a1 C1 dx fsv _ _ _ m1 m2 m3 m4 =>
    have eC : C1 = C := by rw [hC] at m1; cases m1; rfl
    subst eC
    obtain rfl : v = Value.ref a1 := rx
    obtain ⟨od, J⟩ := inst_at I1 (h1.sub _ _ m2)
    obtain ⟨mf, Fr⟩ := I1.fr
    refine PySem.W.ksp_neg Fr I1.ok.mod.kin J hm.at_ hm.fn ?_
    refine thn (run_self (Q := Q) hr tk ok hb hv hdd I1 h1 r1 .nil .nil (ct.mono q1 (fun _ _ z => z) fun y pn' z => toWV z)) fun v4 s5 z => ?_
    cases v4 <;> first | exact z.elim | (obtain ⟨x5, H5, I5, r5, q5⟩ := id z; exact ⟨x5, H5, I5, r5, pE_back s2 q5⟩)
/-- a comparison by what it does -/
def rSem (X : Cx) (op : CmpOp) : R2 := fun x y H Q => ∀ (pins : List (Addr × Obj)) (s : Shared) (σ : L2.St) (v u : Value), Inv X pins σ H s → RelV x v → RelV y u → wpAny (model X.prog X.w) X.A (compareOp op v u) (EP X pins σ Q) X.xe s
theorem op_sem {op : CmpOp} : OpR X (compareOp op) (rSem X op) := fun pins s σ H x y v u Q I rx ry h => h pins s σ v u I rx ry
/-- what stands on the right of an instance's own __eq__ -/
def EqTo (K : PySem.W.Frag) (mg : Str → Option Value) (cn : Str) (y : D) : Prop := (∃ ks fs, y = .ins cn ks fs) ∨ ∃ T, tyD (core y) = some T ∧ ∀ C, mg cn = some (.ref C) → PySem.W.subIn K (.type T) (.ref C) = some false
/-- x == y by x's own __eq__, which raises nothing -/
theorem rb_eqOwn {fs : List D} {y : D} (F : VMeth X.prog X.w X.K X.mg X.base c.cf k cn "__eq__" [] ct) (hr : Room k X.A) (hu : X.A.units < cLine) (E : EqTo X.K X.mg cn y)
    (h : ct.run [.ins cn ks fs, y] S.pn (fun d pn' => Q d { S with pn := pn' }) (fun _ _ => False)) : RB X c S (rSem X .Eq) (.ins cn ks fs) y Q := fun σ0 G H u v hd ru rv R hR pins s σ v1 v2 I rx ry => by
  obtain ⟨C, f, fd, ps, dvs, ds0, hC, cl, hm, ok, hb, hv, hdd⟩ := F.ex
  have r1c := ru
  cases r1c with
  | @ins a1 C1 dx fsv _ _ _ m1 m2 m3 m4 =>
    have eC : C1 = C := by rw [hC] at m1; cases m1; rfl
    subst eC
    obtain rfl : v1 = Value.ref a1 := rx
    obtain ⟨od, J⟩ := inst_at I (hd.sub _ _ m2)
    obtain ⟨mf, Fr⟩ := I.fr
    have go : wpAny (model X.prog X.w) X.A (call (.ref f) [.ref a1, v2]) (PySem.W.CmpBack (EP X pins σ R)) X.xe s := by
      refine thn (run_fnSD (us := [.ref a1, v2]) (vs := [.ref a1, v]) (E := WE (fun _ _ _ _ => False)) (Q := R) ok hr hb hv (passAt takes_none5 σ) I (.cons rfl (.cons ry .nil)) ?_) fun _ _ z => cmpBack_of z
      have e0 : dvs = [] := by cases hdd; rfl
      subst e0
      exact spV_call hd (.cons ru (.cons rv .nil)) h (fun d pn' q w2 G' H' h3 s5 rv2 => hR _ _ ⟨d, _, G', h3, s5, rv2, q⟩) (fun y pn' q cls dd' G' H' h3 rx => q.elim)
    rcases E with ⟨ks2, gs, rfl⟩ | ⟨T, hT, hN⟩
    · cases rv with
      | @ins a2 C2 dx2 fsv2 _ _ _ n1 n2 n3 n4 =>
        have eC2 : C2 = C1 := by rw [hC] at n1; cases n1; rfl
        subst eC2
        obtain rfl : v2 = Value.ref a2 := ry
        obtain ⟨od2, J2⟩ := inst_at I (hd.sub _ _ n2)
        exact PySem.W.cmp_K (op := .Eq) hu Fr I.ok.mod.kin J J2.type (by simp [PySem.W.notFirst]) hm.at_ hm.fn go
    · refine PySem.W.cmp_K (op := .Eq) hu Fr I.ok.mod.kin J (looks_ty I hd.sub (rep_core rv) ry hT) ?_ hm.at_ hm.fn go
      unfold PySem.W.notFirst
      rw [hN _ hC]
      simp
/-- n == y, n an int: by y's own __eq__ -/
theorem rb_eqIntl {fs : List D} {n : Int} (F : VMeth X.prog X.w X.K X.mg X.base c.cf k cn "__eq__" [] ct) (hr : Room k X.A) (hu : X.A.units < cLine) (E : ∀ C, X.mg cn = some (.ref C) → PySem.W.subIn X.K (.ref C) (.type "int") = some false)
    (h : ct.run [.ins cn ks fs, .int n] S.pn (fun d pn' => Q d { S with pn := pn' }) (fun _ _ => False)) : RB X c S (rSem X .Eq) (.int n) (.ins cn ks fs) Q := fun σ0 G H u v hd ru rv R hR pins s σ v1 v2 I rx ry => by
  obtain ⟨C, f, fd, ps, dvs, ds0, hC, cl, hm, ok, hb, hv, hdd⟩ := F.ex
  have r1c := rv
  cases r1c with
  | @ins a1 C1 dx fsv _ _ _ m1 m2 m3 m4 =>
    have eC : C1 = C := by rw [hC] at m1; cases m1; rfl
    subst eC
    obtain rfl : v2 = Value.ref a1 := ry
    rw [rep_int ru] at rx
    obtain ⟨t, rfl⟩ := id rx
    obtain ⟨mf, Fr⟩ := I.fr
    obtain ⟨mA, O, _⟩ := ins_get I.hok (hd.sub _ _ m2)
    obtain ⟨od, J, _⟩ := O.look
    refine cmp_intl hu Fr I.ok.mod.kin J (E _ hC) hm.at_ hm.fn ?_
    refine thn (run_fnSD (us := [.ref a1, .int n t]) (vs := [.ref a1, .int n]) (E := WE (fun _ _ _ _ => False)) (Q := R) ok hr hb hv (passAt takes_none5 σ) I (.cons rfl (.cons rx .nil)) ?_) fun _ _ z => cmpBack_of z
    have e0 : dvs = [] := by cases hdd; rfl
    subst e0
    exact spV_call hd (.cons rv (.cons .int .nil)) h (fun d pn' q w2 G' H' h3 s5 rv2 => hR _ _ ⟨d, _, G', h3, s5, rv2, q⟩) (fun y pn' q cls dd' G' H' h3 rx => q.elim)
end
end VL
set_option Elab.async false
set_option linter.all false
set_option maxRecDepth 100000
set_option maxHeartbeats 4000000
/-! VX22: try with several except clauses, some with a name (the way is the library's own for one clause with a name and for several without). -/
namespace VL
open PySem PySem.Spec PyProof.Rows L2
/-- a clause: the class it names, its name's slot if it has one, what its suite is asked -/
abbrev Clause := Value × Option Nat × (Addr → Value → Option Addr → TS)
def inO (σ : L2.St) (o : Option Nat) (a : Addr) : L2.St := match o with
  | none => σ
  | some i => σ.set i (some (.ref a))
def outO (D : Ends) (o : Option Nat) : Ends := match o with
  | none => D
  | some i => ⟨fun σ H => D.nx (σ.set i none) H, D.rt, fun σ H => D.bk (σ.set i none) H, fun σ H => D.ct (σ.set i none) H⟩
def wCl (K : PySem.W.Frag) (Wo : WX) (D : Ends) : List Clause → WX
  | [] => Wo
  | (c, o, ts) :: l => fun cls d σ H => ∃ b, PySem.W.exmOne K cls c = some b ∧ (b = true → ∀ a, H a = none → ts a cls d (outO D o) (inO σ o a) H) ∧ (b = false → wCl K Wo D l cls d σ H)
abbrev SuiteOk (X : Cx) (sts : List Stmt) (ts : Addr → Value → Option Addr → TS) : Prop :=
  ∀ (a : Addr) (oe : Obj) (cls : Value) (d : Option Addr) (pn : List (Addr × Obj)), Zc cls d oe → (∃ vs, oe.data = .fields vs) → PSs (X.suite a ((a, oe) :: pn)) sts (ts a cls d)
inductive ClOk (X : Cx) : List ExceptHandler → List Clause → Prop
  | nil : ClOk X [] []
  | plain {x : Str} {c : Value} {ts : Addr → Value → Option Addr → TS} {b : Stmt} {bs : List Stmt} {p q : Pos} {hds : List ExceptHandler} {l : List Clause} (hc : Names X x c) (su : SuiteOk X (b :: bs) ts) (r : ClOk X hds l) :
      ClOk X (.ExceptHandler (some (.Name x p)) none (b :: bs) q :: hds) ((c, none, ts) :: l)
  | named {x n : Str} {i : Nat} {c : Value} {ts : Addr → Value → Option Addr → TS} {b : Stmt} {bs : List Stmt} {p q : Pos} {hds : List ExceptHandler} {l : List Clause} (hc : Names X x c) (hi : X.N[i]? = some n) (hn : X.env.kindOf n = some .local) (su : SuiteOk X (b :: bs) ts)
      (r : ClOk X hds l) : ClOk X (.ExceptHandler (some (.Name x p)) (some n) (b :: bs) q :: hds) ((c, some i, ts) :: l)
section
variable {X : Cx} {body : List Stmt} {hd : ExceptHandler} {hds : List ExceptHandler} {l : List Clause} {pos : Pos} {tb : WX → TS} {Wo : WX}
/-- the end of a suite, by what its ends promise -/
theorem suite_end {S : Cx} {D : Ends} {f : Flow} {s : Shared} {R : Flow → Shared → Prop} (h : SP S [] D f s) (h1 : ∀ σ H, Inv S [] σ H s → D.nx σ H → R .next s) (h2 : ∀ σ H, Inv S [] σ H s → D.bk σ H → R .brk s) (h3 : ∀ σ H, Inv S [] σ H s → D.ct σ H → R .cont s)
    (h4 : ∀ u v σ H, Inv S [] σ H s → RelV v u → D.rt v H → R (.ret u) s) : R f s := by
  cases f with
  | next => exact (let ⟨σ, H, I, q⟩ := h; h1 σ H I q)
  | brk => exact (let ⟨σ, H, I, q⟩ := h; h2 σ H I q)
  | cont => exact (let ⟨σ, H, I, q⟩ := h; h3 σ H I q)
  | ret u => exact (let ⟨v, σ, H, I, r, q⟩ := h; h4 u v σ H I r q)
theorem ps_tryC (hs : X.stack = X.env :: X.outer) (hf : X.env.frame = some X.env.locals) (hN : X.N.Nodup) (tk : Takes X Wo) (hb : ∀ (W : WX) (pn : List (Addr × Obj)) (xe : Value → Shared → Prop), Takes (X.tr pn xe) W → PassesOwn (model X.prog X.w) X.A X.env xe → PSs (X.tr pn xe) body (tb W))
    (hh : ClOk X (hd :: hds) l) : PS X (.Try body (hd :: hds) [] [] pos) (fun D σ H => tb (wCl X.K Wo D l) D σ H) := ⟨fun pins s σ H D I h => by
  have ok := I.ok
  have hfr : X.A.frames = some (X.env :: X.outer) := ok.frames.trans (by rw [hs])
  let catch_ : Value → Shared → Prop := fun e s1 => wpAny (model X.prog X.w) X.A (noteFrame e X.env) (fun _ s2 => wpAny (model X.prog X.w) X.A (setFlight e none) (fun _ s3 => wpAny (model X.prog X.w) X.A (handleBy e X.env (hd :: hds)) (SP X pins D) X.xe s3) X.xe s2) X.xe s1
  have tkc : Takes (X.tr (X.pn ++ pins) catch_) (wCl X.K Wo D l) := fun u s' xx => by
    obtain ⟨a, B, sI, pins', σ', H', cls, d, rfl, J', nb, up, sky, na, os, ag, w⟩ := xx
    have J : Inv X pins σ' H' sI := J'.ofTry ok
    rw [show (X.tr (X.pn ++ pins) catch_).stack = X.stack from rfl, hs] at sky
    show wpAny (model X.prog X.w) X.A (noteFrame (.ref a) X.env) _ _ _
    refine Sky.land Zc.steady hfr hf sky fun h3 fl3 up3 => ?_
    have J3 : Inv X pins σ' H' { s' with heap := h3 } := J.landed nb fl3.1 (up.trans up3) os ag
    obtain ⟨oe3, vs3, he3, hz3, hd3⟩ := fl3.there
    have nfr : a ∉ frs (X.env :: X.outer) := fun hm => by
      obtain ⟨_, o', e', hnf⟩ := fl3.2.2.1.mem hm
      rw [he3] at e'; cases e'
      exact hnf _ hd3
    have nL : a ≠ X.env.locals := fun z => nfr (List.mem_filterMap.mpr ⟨X.env, List.mem_cons_self, by rw [hf, z]⟩)
    have nF : a ∉ X.fs := fun hm => by
      obtain ⟨e, he, q⟩ := List.mem_filterMap.mp hm
      exact nfr (List.mem_filterMap.mpr ⟨e, List.mem_cons_of_mem _ he, q⟩)
    have S3 := J3.suite he3 hd3 na nL nF
    have LT : PySem.W.Looks (model X.prog X.w) h3 (typeOf (.ref a)) cls := fun A Q E s k q => wpAny_typeOf_ref (k _ _ he3) (by rw [hz3.1]; exact q)
    have test : ∀ {x : Str} {c : Value} {p : Pos} {Q E : Value → Shared → Prop}, Names X x c → Q c { s' with heap := h3 } → wpAny (model X.prog X.w) (X.A.mark (some (.ref a))) (eval (.Name x p) X.env) Q E { s' with heap := h3 } := fun {x c p Q E} hc q => by
      obtain ⟨hg, hdb, hm | ⟨hm, hv, hnn⟩⟩ := hc
      · exact ld_glob (X := X.suite a ((a, oe3) :: (X.pn ++ pins))) S3 hg hm q hdb
      · exact ld_blt (X := X.suite a ((a, oe3) :: (X.pn ++ pins))) S3 hg hm hv q hnn hdb
    have go : ∀ {hs2 : List ExceptHandler} {l2 : List Clause}, ClOk X hs2 l2 → wCl X.K Wo D l2 cls d σ' H' → wpAny (model X.prog X.w) X.A (handleBy (.ref a) X.env hs2) (SP X pins D) X.xe { s' with heap := h3 } := fun {hs2 l2} hk => by
      induction hk with
      | nil =>
        intro w
        refine wpAny_handleBy_nil ?_
        obtain ⟨k1, k2, k3, oe, vs, T, oT, ts', he, hz, hd', h1, hr⟩ := id fl3
        unfold PySem.passOn
        refine wpAny_bind (wpAny_field he hd' h1 ?_)
        rw [if_neg (show ¬ ((Value.ref T == Value.none) = true) from by simp)]
        have fin : wpAny (model X.prog X.w) X.A (setFlight (.ref a) X.env.frame) (fun _ s4 => wpAny (model X.prog X.w) X.A (throw (.ref a) : Sem Flow) (SP X pins D) X.xe s4) X.xe { s' with heap := h3 } := by
          rw [hf]
          exact HandSPX.setFlight_upZ fl3 fun h4 hh4 up4 => wpAny_throw (tk _ _ ⟨a, B, sI, pins, σ', H', cls, d, rfl, J, nb, (up.trans up3).trans up4, .inr (.inr (by rw [hs]; exact hh4)), na, os, ag, w⟩)
        first | exact wpAny_bind (wpAny_pure (wpAny_bind fin)) | exact wpAny_bind fin
      | plain hc su r ih =>
        intro ⟨b, hb1, hyes, hno⟩
        refine wpAny_handleBy_cons (codeAny_handlers_test (test hc ((PySem.W.exm_one (M := model X.prog X.w) (J3.kIn) LT hb1).here ?_))) nofun
        cases b with
        | false => exact ih (hno rfl)
        | true =>
          refine codeAny_handlers_suite (HandSPX.lands_againZ fl3 fun h4 fl4 up4 => ?_)
          have J4 : Inv X pins σ' H' { s' with heap := h4 } := J.landed nb fl4.1 ((up.trans up3).trans up4) os ag
          obtain ⟨oe4, vs4, he4, hz4, hd4⟩ := fl4.there
          exact wpAny_mono ((su a oe4 cls d (X.pn ++ pins) hz4 ⟨_, hd4⟩).run [] _ _ H' _ (J4.suite he4 hd4 na nL nF) (hyes rfl a na)) (fun f s6 z => suite_end (R := SP X pins D) z (fun _ _ S6 q6 => ⟨_, _, S6.unsuite ok, q6⟩) (fun _ _ S6 q6 => ⟨_, _, S6.unsuite ok, q6⟩)
            (fun _ _ S6 q6 => ⟨_, _, S6.unsuite ok, q6⟩) fun _ _ _ _ S6 r6 q6 => ⟨_, _, _, S6.unsuite ok, r6, q6⟩) (fun _ _ z => z.elim)
      | @named x n i c ts b0 bs p q hds3 l3 hc hi hn su r ih =>
        intro ⟨b, hb1, hyes, hno⟩
        refine wpAny_handleBy_cons (codeAny_handlers_test (test hc ((PySem.W.exm_one (M := model X.prog X.w) (J3.kIn) LT hb1).here ?_))) nofun
        cases b with
        | false => exact ih (hno rfl)
        | true =>
          refine codeAny_handlers_suite_as (HandSPX.lands_againZ fl3 fun h4 fl4 up4 => ?_)
          have J4 : Inv X pins σ' H' { s' with heap := h4 } := J.landed nb fl4.1 ((up.trans up3).trans up4) os ag
          obtain ⟨oe4, vs4, he4, hz4, hd4⟩ := fl4.there
          refine store_ok (X := X.suite a ((a, oe4) :: (X.pn ++ pins))) (v := .ref a) (J4.suite he4 hd4 na nL nF) hN hi (.inl hn) rfl (fun s5 S5 => ?_) (.inr hn)
          have gone : ∀ {σ6 : L2.St} {H6 : Hp} {R : Shared → Prop} {s6 : Shared}, Inv (X.suite a ((a, oe4) :: (X.pn ++ pins))) [] σ6 H6 s6 → (∀ s7, Inv X pins (σ6.set i none) H6 s7 → R s7) →
            wpAny (model X.prog X.w) X.A (do bindName X.env n .none; unbindBehindTheSuite X.env n q) (fun _ s7 => R s7) X.xe s6 := fun S6 hq => gone_ok (S6.unsuite ok) hN hi hn hq
          exact wpAny_mono ((su a oe4 cls d (X.pn ++ pins) hz4 ⟨_, hd4⟩).run [] s5 _ H' _ S5 (hyes rfl a na)) (fun f s6 z => suite_end (R := fun f s6 => wpAny (model X.prog X.w) X.A (do bindName X.env n .none; unbindBehindTheSuite X.env n q) (fun _ s7 => SP X pins D f s7) X.xe s6) z (fun _ _ S6 q6 => gone S6 fun s7 J7 => ⟨_, _, J7, q6⟩) (fun _ _ S6 q6 => gone S6 fun s7 J7 => ⟨_, _, J7, q6⟩)
            (fun _ _ S6 q6 => gone S6 fun s7 J7 => ⟨_, _, J7, q6⟩) fun _ _ _ _ S6 r6 q6 => gone S6 fun s7 J7 => ⟨_, _, _, J7, r6, q6⟩) (fun _ _ z => z.elim)
    exact go hh w
  refine wpAny_Try_except (wpAny_mono ((hb (wCl X.K Wo D l) (X.pn ++ pins) catch_ tkc PassesOwn.looking).run [] s σ H D (I.toTry _) h) (fun f s1 z => ?_) (fun e s1 he => he))
  cases f with
  | next => exact (let ⟨_, _, J, q⟩ := z; wpAny_execs_nil ⟨_, _, J.ofTry ok, q⟩)
  | brk => exact (let ⟨_, _, J, q⟩ := z; ⟨_, _, J.ofTry ok, q⟩)
  | cont => exact (let ⟨_, _, J, q⟩ := z; ⟨_, _, J.ofTry ok, q⟩)
  | ret u => exact (let ⟨_, _, _, J, r, q⟩ := z; ⟨_, _, _, J.ofTry ok, r, q⟩)⟩
end
section
variable {X : Cx} {c : Cv} {S : State} {E : VD} {pos : Pos}
/-- try .. except C as n: .. except D: .. -/
theorem vs_try2 (i : Nat) {x n x2 : Str} {cv cv2 : Value} {body suite suite2 : List Stmt} {b0 b1 : Stmt} {np np2 pos' pos2 : Pos} (hs : X.stack = X.env :: X.outer) (hf : X.env.frame = some X.env.locals) (hN : X.N.Nodup) (hc : Names X x cv) (hc2 : Names X x2 cv2) (tk : Takes X (WV X c)) (EVt : ExD → State → Prop)
    (hb : ∀ (pn : List (Addr × Obj)) (xe : Value → Shared → Prop) (G0 : Hp), Takes (X.tr pn xe) (WV (X.tr pn xe) { c with G0 := G0, EV := EVt }) → VSs (X.tr pn xe) { c with G0 := G0, EV := EVt } S body E)
    (hx : ∀ y S', EVt y S' → ∃ b, (∀ C, X.mg y.c = some (.ref C) → PySem.W.exmOne X.K (.ref C) cv = some b) ∧
      (b = true → ∀ (a C : Addr) (oe : Obj) (d : Option Addr) (pn : List (Addr × Obj)) (G0 : Hp), X.mg y.c = some (.ref C) → Zc (.ref C) d oe → (∃ vs, oe.data = .fields vs) → (y.ks ≠ [] → ∃ dd, d = some dd) → VSs (X.suite a ((a, oe) :: pn)) { c with G0 := G0, EV := fun _ _ => False } (S'.put i (.val (cauD a d y))) (b0 :: suite) (E.un i)) ∧
      (b = false → ∃ b2, (∀ C, X.mg y.c = some (.ref C) → PySem.W.exmOne X.K (.ref C) cv2 = some b2) ∧
        (b2 = true → ∀ (a : Addr) (oe : Obj) (pn : List (Addr × Obj)) (G0 : Hp), VSs (X.suite a ((a, oe) :: pn)) { c with G0 := G0, EV := fun _ _ => False } S' (b1 :: suite2) E) ∧ (b2 = false → c.EV y S')))
    (hi : X.N[i]? = some n := by rfl) (hln : X.env.kindOf n = some .local := by rfl) :
    VS X c S (.Try body [.ExceptHandler (some (.Name x np)) (some n) (b0 :: suite) pos', .ExceptHandler (some (.Name x2 np2)) none (b1 :: suite2) pos2] [] [] pos) E := fun σ G H hd => by
  refine tS_of (ps_tryC (l := [(cv, some i, fun a cls d Dn σ H => ∀ (oe : Obj) (pn : List (Addr × Obj)), Zc cls d oe → (∃ vs, oe.data = .fields vs) → tSs (X.suite a ((a, oe) :: pn)) (b0 :: suite) Dn σ H), (cv2, none, fun a cls d Dn σ H => ∀ (oe : Obj) (pn : List (Addr × Obj)), tSs (X.suite a ((a, oe) :: pn)) (b1 :: suite2) Dn σ H)])
    (tb := fun W Dn σ H => ∀ (pn : List (Addr × Obj)) (xe : Value → Shared → Prop), Takes (X.tr pn xe) W → tSs (X.tr pn xe) body Dn σ H) hs hf hN tk (fun W pn xe t _ => ⟨fun pins s σ H D I h => h pn xe t pins s I⟩)
    (.named hc hi hln (fun a oe cls d pn hz hfd => ⟨fun pins s σ H D I h => h oe pn hz hfd pins s I⟩) (.plain hc2 (fun a oe cls d pn hz hfd => ⟨fun pins s σ H D I h => h oe pn pins s I⟩) .nil))) ?_
  intro pn xe tkt
  refine tSs_mono (hb pn xe G (tkt.imp fun cls d σ' H' ⟨S', G', y, h1, rx, q⟩ => ?_) σ G H (hd.reG0 EVt)) (fun _ _ ⟨S', G', h1, s1, q⟩ => ⟨S', G', hd.unG0 h1, s1, q⟩) (fun _ _ ⟨d, S', σ', G', h1, s1, r, q⟩ => ⟨d, S', σ', G', hd.unG0 h1, s1, r, q⟩)
    (fun _ _ ⟨S', G', h1, s1, q⟩ => ⟨S', G', hd.unG0 h1, s1, q⟩) (fun _ _ ⟨S', G', h1, s1, q⟩ => ⟨S', G', hd.unG0 h1, s1, q⟩)
  obtain ⟨C, hC, ecls, hfld⟩ := rx
  subst ecls
  obtain ⟨b, hb1, hyes, hno⟩ := hx y S' q
  have h2 : HdX X c S' σ' G' H' := hd.unG0 h1
  have s1 : Same G G' := h1.ext0
  refine ⟨b, hb1 C hC, fun hbt a na oe pn2 hz hfd => ?_, fun hbf => ?_⟩
  · have rc : RepX X G' (.ref a) (cauD a d y) := by
      unfold cauD
      rcases hfld with ⟨z1, z2⟩ | ⟨dd, fs, rfl, g1, g2, g3⟩
      · cases d with
        | none => exact .adr
        | some dd => simp only [z1, if_true]; exact .adr
      · by_cases hk : y.ks = []
        · simp only [hk, if_true]; exact .adr
        · simp only [hk, if_false]; exact .cau g1 g2 g3
    have hsome : y.ks ≠ [] → ∃ dd, d = some dd := fun hk => by
      rcases hfld with ⟨z1, _⟩ | ⟨dd, fs, e, _⟩
      · exact absurd z1 hk
      · exact ⟨dd, e⟩
    have q1 := hyes hbt a C oe d pn2 G' hC hz hfd hsome (σ'.set i (some (.ref a))) G' H' ((h2.setVal (i := i) rc).reG0 _)
    refine tSs_mono q1 (fun σ2 H2 ⟨S2, G2, h3, s3, q3⟩ => ?_) (fun v H2 ⟨d2, S2, σ3, G2, h3, s3, r3, q3⟩ => ⟨d2, S2, σ3, G2, (h2.setVal (i := i) rc).unG0 h3, s1.trans s3, r3, q3⟩) (fun σ2 H2 ⟨S2, G2, h3, s3, q3⟩ => ?_) (fun σ2 H2 ⟨S2, G2, h3, s3, q3⟩ => ?_)
    · exact ends_un ⟨S2, G2, (h2.setVal (i := i) rc).unG0 h3, s1.trans s3, q3⟩
    · exact ends_un ⟨S2, G2, (h2.setVal (i := i) rc).unG0 h3, s1.trans s3, q3⟩
    · exact ends_un ⟨S2, G2, (h2.setVal (i := i) rc).unG0 h3, s1.trans s3, q3⟩
  · obtain ⟨b2, hb2, hy2, hn2⟩ := hno hbf
    refine ⟨b2, hb2 C hC, fun hbt a na oe pn2 => ?_, fun hbf2 => ⟨S', G', y, h2, ⟨C, hC, rfl, hfld⟩, hn2 hbf2⟩⟩
    have q1 := hy2 hbt a oe pn2 G' σ' G' H' (h2.reG0 _)
    exact tSs_mono q1 (fun σ2 H2 ⟨S2, G2, h3, s3, q3⟩ => ⟨S2, G2, h2.unG0 h3, s1.trans s3, q3⟩) (fun v H2 ⟨d2, S2, σ3, G2, h3, s3, r3, q3⟩ => ⟨d2, S2, σ3, G2, h2.unG0 h3, s1.trans s3, r3, q3⟩) (fun σ2 H2 ⟨S2, G2, h3, s3, q3⟩ => ⟨S2, G2, h2.unG0 h3, s1.trans s3, q3⟩)
      (fun σ2 H2 ⟨S2, G2, h3, s3, q3⟩ => ⟨S2, G2, h2.unG0 h3, s1.trans s3, q3⟩)
end
end VL
set_option Elab.async false
set_option linter.all false
set_option maxRecDepth 100000
set_option maxHeartbeats 4000000
/-! VX23: f-strings of ints, str(x) by an own __str__, `is None`, great factors and divisors. -/
namespace VL
open PySem PySem.Spec PyProof.Rows L2 NdefX
section
variable {X : Cx} {c : Cv} {S : State} {e a b : Expr} {σ : L2.St} {G G' H : Hp} {pos p p1 p2 p3 : Pos} {Q : D → State → Prop} {k : Nat} {ct : Ct} {cn : Str} {ks : List Str}
/-! ### f-strings -/
/-- an int's digits -/
def digs (i : Int) : Str := Str.ofString (toString i)
theorem digs_len {i : Int} (h : i.natAbs.log2 < 1920) : (digs i).length ≤ 1921 := by
  unfold digs
  rw [PySem.ofString_length]
  exact int_text_length_le (k := 1920) (by decide) h
theorem ve_fs1 (h : VE X c S a fun d S1 => ∃ i, d = .int i ∧ i.natAbs.log2 < 1920 ∧ Q (.str (digs i)) S1) : VE X c S (.JoinedStr [.FormattedValue a (-1) none p] pos) Q := fun σ G H hd =>
  tE_of (pe_joined1 (pe_fmt pe_sem)) (tE_mono (h σ G H hd) fun v H1 ⟨d, S1, G1, h1, s1, r1, i, e, hz, q⟩ => .inr ⟨i, by subst e; exact rep_int r1, hz, pE_back s1 (pE_ret h1 .str q)⟩)
/-- f"{a}..{b}" -/
theorem ve_fs3 {z : Str} {j : Nat} (hz : z.length ≤ 100) (h : VE X c S a fun d S1 => ∃ i, d = .int i ∧ i.natAbs.log2 < 1920 ∧ VE X c S1 b fun d2 S2 => ∃ i2, d2 = .int i2 ∧ i2.natAbs.log2 < 1920 ∧ Q (.str (Str.empty ++ digs i ++ z ++ digs i2)) S2) :
    VE X c S (.JoinedStr [.FormattedValue a (-1) none p1, .Constant (.str z) j p2, .FormattedValue b (-1) none p3] pos) Q := fun σ G H hd => by
  refine tE_of (pe_joined (ts := [tFmt (tE X a), tC (.str z), tFmt (tE X b)]) (.cons (pe_fmt pe_sem) (.cons pe_str (.cons (pe_fmt pe_sem) .nil)))) ?_
  have e0 : (Str.empty : Str).length = 0 := rfl
  refine tE_mono (h σ G H hd) fun v H1 ⟨d, S1, G1, h1, s1, r1, i, e, hz1, q⟩ => .inr ⟨i, by subst e; exact rep_int r1, hz1, digs i, rfl, ?_, ?_⟩
  · have := digs_len hz1
    rw [Str.length_append, e0, sizeLine_eq]; omega
  · refine ⟨z, rfl, ?_, ?_⟩
    · have := digs_len hz1
      rw [Str.length_append, Str.length_append, e0, sizeLine_eq]; omega
    · refine tE_mono (q σ G1 H1 h1) fun v2 H2 ⟨d2, S2, G2, h2, s2, r2, i2, e2, hz2, q2⟩ => .inr ⟨i2, by subst e2; exact rep_int r2, hz2, digs i2, rfl, ?_, ?_⟩
      · have := digs_len hz1
        have := digs_len hz2
        rw [Str.length_append, Str.length_append, Str.length_append, e0, sizeLine_eq]; omega
      · exact pE_back (s1.trans s2) (pE_ret h2 .str q2)
/-! ### str of an instance -/
def rCallSem (X : Cx) (f : Value) : List V → Hp → VK → Prop := fun xs H Q => ∀ (pins : List (Addr × Obj)) (s : Shared) (σ : L2.St) (us : List Value), Inv X pins σ H s → Vals xs us → wpAny (model X.prog X.w) X.A (call f us) (EP X pins σ Q) X.xe s
theorem cr_sem {f : Value} : CallR X f (rCallSem X f) := fun pins s σ H xs us Q I r h => h pins s σ us I r
/-- str(x), x an instance with an own __str__ that raises nothing -/
theorem ve_strOwn (hm : X.mg "str" = none) (F : VMeth X.prog X.w X.K X.mg X.base c.cf k cn "__str__" [] ct) (hr : Room (k + 2) X.A)
    (h : VE X c S a fun x S1 => ∃ fs, x = .ins cn ks fs ∧ ct.run [.ins cn ks fs] S1.pn (fun d pn' => ∃ z, d = .str z ∧ Q (.str z) { S1 with pn := pn' }) (fun _ _ => False)) (hg : Gl X "str" := by rfl) (he : starEach [a] X.env = [(false, eval a X.env)] := by rfl) :
    VE X c S (.Call (.Name "str" p) [a] [] pos) Q :=
  ve_callTy (T := "str") cr_sem hm (by decide +kernel) (va_cons (h.imp fun d S1 q => va_nil fun σ0 G H vs hd r R hR pins s σ us I rus => by
    obtain ⟨fs, rfl, q1⟩ := q
    obtain ⟨v, rfl, rv⟩ := reps1 r
    obtain ⟨u, rfl, ru⟩ : ∃ u, us = [u] ∧ RelV v u := by
      cases rus with
      | cons a b => cases b; exact ⟨_, rfl, a⟩
    obtain ⟨C, f, fd, ps, dvs, ds0, hC, cl, hm, ok, hb, hv, hdd⟩ := F.ex
    have rvc := rv
    cases rvc with
    | @ins a1 C1 dx fsv _ _ _ m1 m2 m3 m4 =>
      have eC : C1 = C := by rw [hC] at m1; cases m1; rfl
      subst eC
      obtain rfl : u = Value.ref a1 := ru
      obtain ⟨od, J⟩ := inst_at I (hd.sub _ _ m2)
      refine PySem.W.kso_call hr.in1.in1.units0 I.kIn J hm.at_ hm.fn ?_
      have e0 : dvs = [] := by cases hdd; rfl
      subst e0
      have hsp : spV c.cf X.K X.mg ct [.ref a1] H (fun v H' => ∃ z, v = .str z ∧ R (.str z) H') (fun _ _ _ => False) :=
        spV_call hd (.cons rv .nil) q1 (fun d pn' ⟨z, e, q⟩ w2 G' H' h3 s5 rv2 => ⟨z, by subst e; exact rep_str rv2, hR _ _ ⟨.str z, _, G', h3, s5, .str, q⟩⟩) (fun y pn' q cls dd' G' H' h3 rx => q.elim)
      have env : Env0 X.prog X.w X.K X.mg X.base X.A.in1.in1 X.stack s H := by
        have e := I.env0
        exact ⟨e.frames, e.mod, e.bs, e.bsz, e.funs, e.frf, e.hok, e.bare⟩
      have ed : ds0 = [] := by cases hv; rfl
      subst ed
      have hl := ok.len _ _ _ _ hsp
      refine wpAny_call (codeAny_mono (ok.run X.A.in1.in1 X.stack s H ⟨[.ref a1], []⟩ [.ref a1] [.ref a1] _ _ hr.in1.in1 env (by
        have := hb s [.ref a1] I.kIn (by simpa using hl)
        simpa using this) (.cons rfl .nil) hsp) fun r s' hq => ?_)
      cases r with
      | error e => exact passAt takes_none5 σ pins H s e s' I hq
      | ok fl =>
        cases fl with
        | ret w =>
          obtain ⟨z, H', I', rz, y, ez, ex⟩ := I.after hq
          subst ez
          obtain ⟨t, rfl⟩ := rz
          exact ⟨.str y, H', I', ⟨t, rfl⟩, ex⟩
        | next => exact False.elim hq
        | brk => exact False.elim hq
        | cont => exact False.elim hq) he) hg (by decide) (by decide) he rfl
/-! ### is None -/
abbrev rIsN : R2 := fun x y H Q => y = .non ∧ Q (.bl (decide (x = .non))) H
theorem op_isNone : OpR X (compareOp .Is) rIsN := op_isN
theorem rb_isNone {d : D} {r : Bool} (h : (d = .non ∧ r = true) ∨ (d ≠ .non ∧ r = false)) (q : Q (.bl r) S) : RB X c S rIsN d .non Q := fun σ G H u v hd ru rv R hR => by
  refine ⟨rep_non rv, hR _ _ ?_⟩
  rcases h with ⟨rfl, rfl⟩ | ⟨h, rfl⟩
  · rw [rep_non ru]; exact pE_ret hd .bl q
  · have : u ≠ .non := by
      intro e
      subst e
      cases ru
      exact h rfl
    rw [decide_eq_false this]
    exact pE_ret hd .bl q
end
/-! ### great factors and divisors -/
theorem log_lt {x : Int} {n : Nat} (h : x.natAbs < 2 ^ n) (hn : 0 < n) : x.natAbs.log2 < n := by
  by_cases h0 : x.natAbs = 0
  · rw [h0]; exact hn
  · exact (Nat.log2_lt h0).mpr h
theorem mulB {i j : Int} (h1 : i.natAbs < 2 ^ 9000) (h2 : j.natAbs < 2 ^ 9000) : IntMulOk i j := CMulW.ok (by
  have a := log_lt h1 (by decide)
  have b := log_lt h2 (by decide)
  show i.natAbs.log2 + j.natAbs.log2 < 1000000
  omega)
theorem divB {i j : Int} (h0 : j ≠ 0) (h : j.natAbs < 2 ^ 9000) : DivOkN i j := by
  refine ⟨h0, ?_⟩
  have a := log_lt h (by decide)
  unfold PySem.Builtin.divisionGoesByPylong
  have h2 : ¬ (j.natAbs.log2 / 30 + 1 > 300) := by omega
  have hm : (j == 0) = false := by simpa using h0
  simp [hm, h2]
end VL
set_option Elab.async false
set_option linter.all false
set_option maxRecDepth 100000
set_option maxHeartbeats 1000000
/-! VX24: tests of the written part for heads: classes, operators, built-in types. -/
namespace VL
open PySem PySem.Spec PyProof.Rows L2 NdefX
/-- a class whose instances may be asked by isinstance -/
def insB (K : PySem.W.Frag) (C : Addr) : Bool := decide (PySem.W.findIn K (.ref C) "__class__" = some (some (.builtin "object.__class__"))) && (decide (PySem.W.specialIn K (.builtin "object.__class__") "__get__" = some (some (.builtin "getset_descriptor.__get__"))) && (decide (PySem.W.takesIn K (.builtin "object.__class__") = some true) && decide (PySem.W.mroIn K C (.type "object") = some true)))
theorem insB_ok {K : PySem.W.Frag} {C : Addr} (hc : Cls K C) (h : insB K C = true) : InsC K C := by
  unfold insB at h
  obtain ⟨i1, i0⟩ := Bool.and_eq_true_iff.mp h
  obtain ⟨i2, i0⟩ := Bool.and_eq_true_iff.mp i0
  obtain ⟨i3, i4⟩ := Bool.and_eq_true_iff.mp i0
  exact ⟨hc, of_decide_eq_true i1, of_decide_eq_true i2, of_decide_eq_true i3, of_decide_eq_true i4⟩
def refAt : Option (Option Value) → Bool
  | some (some (.ref _)) => true
  | _ => false
theorem refAt_ok {o : Option (Option Value)} (h : refAt o = true) : ∃ g : Addr, o = some (some (.ref g)) := by
  unfold refAt at h
  split at h
  · exact ⟨_, rfl⟩
  · cases h
def opTB (K : PySem.W.Frag) (C : Addr) (op : Operator) (T : String) : Bool := PySem.W.selfFirst K C && ((refAt (PySem.W.findIn K (.ref C) (dunderR op.info.2)) || decide (PySem.W.findIn K (.ref C) (dunderR op.info.2) = some none)) &&
  ((PySem.W.findIn K (.type T) (PySem.dunder op.info.2)).isSome && ((PySem.W.findIn K (.type T) (dunderR op.info.2)).isSome && decide (PySem.W.subIn K (.type T) (.ref C) = some false))))
theorem opTB_ok {K : PySem.W.Frag} {mg : Str → Option Value} {cn : Str} {C : Addr} {op : Operator} {T : String} (hC : mg cn = some (.ref C)) (h : opTB K C op T = true) : OpT K mg cn op T := ⟨fun C' hC' => by
  rw [hC] at hC'
  cases hC'
  unfold opTB at h
  obtain ⟨h1, h⟩ := Bool.and_eq_true_iff.mp h
  obtain ⟨h2, h⟩ := Bool.and_eq_true_iff.mp h
  obtain ⟨h3, h⟩ := Bool.and_eq_true_iff.mp h
  obtain ⟨h4, h5⟩ := Bool.and_eq_true_iff.mp h
  refine ⟨h1, ?_, Option.isSome_iff_exists.mp h3, Option.isSome_iff_exists.mp h4, of_decide_eq_true h5⟩
  rcases Bool.or_eq_true_iff.mp h2 with h2 | h2
  · obtain ⟨g, e⟩ := refAt_ok h2
    exact ⟨_, e, .inr ⟨g, rfl⟩⟩
  · exact ⟨_, of_decide_eq_true h2, .inl rfl⟩⟩
def opTRB (K : PySem.W.Frag) (C : Addr) (op : Operator) (T : String) : Bool := PySem.W.selfFirst K C && (refAt (PySem.W.findIn K (.ref C) (PySem.dunder op.info.2)) &&
  ((match PySem.W.findIn K (.type T) (PySem.dunder op.info.2), PySem.W.findIn K (.type T) (dunderR op.info.2) with
    | some fo, some ro => !((fo.isSome && !isSeqSlot fo) || (ro.isSome && !isSeqSlot ro)) || (decide (T = "int") || decide (T = "bool"))
    | _, _ => false) && decide (PySem.W.subIn K (.ref C) (.type T) = some false)))
theorem opTRB_ok {K : PySem.W.Frag} {mg : Str → Option Value} {cn : Str} {C : Addr} {op : Operator} {T : String} (hC : mg cn = some (.ref C)) (h : opTRB K C op T = true) : OpTR K mg cn op T := ⟨fun C' hC' => by
  rw [hC] at hC'
  cases hC'
  unfold opTRB at h
  obtain ⟨h1, h⟩ := Bool.and_eq_true_iff.mp h
  obtain ⟨h2, h⟩ := Bool.and_eq_true_iff.mp h
  obtain ⟨h3, h5⟩ := Bool.and_eq_true_iff.mp h
  refine ⟨h1, refAt_ok h2, ?_, of_decide_eq_true h5⟩
  split at h3
  · rename_i fo ro e1 e2
    refine ⟨fo, ro, e1, e2, fun z => ?_⟩
    rw [z] at h3
    simp only [Bool.not_true, Bool.false_or, Bool.or_eq_true, decide_eq_true_eq] at h3
    exact h3
  · cases h3⟩
end VL
set_option Elab.async false
set_option linter.all false
set_option maxRecDepth 100000
set_option maxHeartbeats 4000000
namespace My
open PySem PySem.Spec PyProof.Rows L2 VL NdefX
def top (i : Nat) : Stmt := PySem.Challenge.pw_allstreams_k06_whole_divisions.main.body.getD i (.Pass ⟨0, 0, 0, 0⟩)
def clsBody : Stmt → List Stmt
  | .ClassDef _ _ _ body _ _ _ _ _ _ _ => body
  | _ => []
def tys : List String := ["NoneType", "bool", "int", "str", "list", "tuple", "dict"]
def us : List String := ["int", "bool", "list", "tuple"]
def tups : List (List String) := [["list", "tuple"], ["bool", "str", "list", "tuple", "dict"]]
def cs : List Str := ["Ratio", "Poly"]
def ops : List Operator := [.Add, .Sub, .Mult]
def initBV : Stmt := (clsBody (top 3)).headD (.Pass ⟨0, 0, 0, 0⟩)
def metRatio (i : Nat) : Stmt := (clsBody (top 14)).getD i (.Pass ⟨0, 0, 0, 0⟩)
def metPoly (i : Nat) : Stmt := (clsBody (top 30)).getD i (.Pass ⟨0, 0, 0, 0⟩)
end My
set_option Elab.async false
set_option linter.all false
set_option maxRecDepth 100000
set_option maxHeartbeats 0
namespace My
open PySem PySem.Spec PyProof.Rows L2 VL NdefX

abbrev prg : Program := PySem.Challenge.pw_allstreams_k06_whole_divisions
def dF (a : Str × Option Str) (x q : Str) (st : Stmt) (dv : List He.Dv) : He.DefD := ⟨a, x, q, defArgs st, defBody st, defScope st, dv, []⟩
def fn : List He.DefD := [dF ("is_integer", none) "is_integer" "is_integer" (top 6) [],
  dF ("need_integer", none) "need_integer" "need_integer" (top 8) [],
  dF ("need_items", none) "need_items" "need_items" (top 10) [],
  dF ("common_whole", none) "common_whole" "common_whole" (top 12) [],
  dF ("Ratio", some "__init__") "__init__" "Ratio.__init__" (metRatio 0) [.int 1],
  dF ("is_ratio", none) "is_ratio" "is_ratio" (top 16) [],
  dF ("ratio_of", none) "ratio_of" "ratio_of" (top 17) [],
  dF ("ratio_beside", none) "ratio_beside" "ratio_beside" (top 18) [],
  dF ("ratio_sum", none) "ratio_sum" "ratio_sum" (top 19) [],
  dF ("turned_over", none) "turned_over" "turned_over" (top 20) [],
  dF ("Ratio", some "__add__") "__add__" "Ratio.__add__" (metRatio 2) [],
  dF ("Ratio", some "__sub__") "__sub__" "Ratio.__sub__" (metRatio 4) [],
  dF ("Ratio", some "__mul__") "__mul__" "Ratio.__mul__" (metRatio 6) [],
  dF ("Ratio", some "__eq__") "__eq__" "Ratio.__eq__" (metRatio 1) [],
  dF ("Poly", some "__init__") "__init__" "Poly.__init__" (metPoly 0) [],
  dF ("part_at", none) "part_at" "part_at" (top 33) [],
  dF ("poly_beside", none) "poly_beside" "poly_beside" (top 32) [],
  dF ("poly_total", none) "poly_total" "poly_total" (top 35) [],
  dF ("Poly", some "__sub__") "__sub__" "Poly.__sub__" (metPoly 4) [],
  dF ("poly_divided", none) "poly_divided" "poly_divided" (top 37) [],
  dF ("Poly", some "divided") "divided" "Poly.divided" (metPoly 18) [],
  dF ("_law_gcd", none) "_law_gcd" "_law_gcd" (top 44) [],
  dF ("_law_draw", none) "_law_draw" "_law_draw" (top 41) [],
  dF ("_law_pick", none) "_law_pick" "_law_pick" (top 42) [],
  dF ("_law_wide", none) "_law_wide" "_law_wide" (top 43) [],
  dF ("_law_lowest", none) "_law_lowest" "_law_lowest" (top 45) [],
  dF ("_law_plus", none) "_law_plus" "_law_plus" (top 46) [],
  dF ("_law_times", none) "_law_times" "_law_times" (top 48) [],
  dF ("_law_int", none) "_law_int" "_law_int" (top 50) [],
  dF ("_law_is", none) "_law_is" "_law_is" (top 51) [],
  dF ("_law_alike", none) "_law_alike" "_law_alike" (top 52) [],
  dF ("_law_few", none) "_law_few" "_law_few" (top 55) [],
  dF ("_law_real", none) "_law_real" "_law_real" (top 56) [],
  dF ("_law_trim", none) "_law_trim" "_law_trim" (top 59) [],
  dF ("_law_some", none) "_law_some" "_law_some" (top 57) [],
  dF ("_law_told", none) "_law_told" "_law_told" (top 58) [],
  dF ("_law_at", none) "_law_at" "_law_at" (top 60) [],
  dF ("_law_add", none) "_law_add" "_law_add" (top 61) [],
  dF ("_law_scaled", none) "_law_scaled" "_law_scaled" (top 62) [],
  dF ("_law_mul", none) "_law_mul" "_law_mul" (top 64) [],
  dF ("_law_poly_is", none) "_law_poly_is" "_law_poly_is" (top 65) [],
  dF ("_law_poly", none) "_law_poly" "_law_poly" (top 66) [],
  dF ("_law_divisor", none) "_law_divisor" "_law_divisor" (top 67) [],
  dF ("_law_pair_is", none) "_law_pair_is" "_law_pair_is" (top 68) [],
  dF ("_law_one_right", none) "_law_one_right" "_law_one_right" (top 69) [],
  dF ("_law_digits_right", none) "_law_digits_right" "_law_digits_right" (top 70) [],
  dF ("_law_fault", none) "_law_fault" "_law_fault" (top 53) [],
  dF ("_law_refused", none) "_law_refused" "_law_refused" (top 54) [],
  dF ("_law_refusals_right", none) "_law_refusals_right" "_law_refusals_right" (top 71) [],
  dF ("law", none) "law" "law" (top 72) [],
  dF ("_law_pen", none) "_law_pen" "_law_pen" (top 40) []]
def fa : List He.Fa := [.glo "is_integer", .glo "need_integer", .glo "need_items", .glo "common_whole", .glo "is_ratio", .glo "ratio_of", .glo "ratio_beside", .glo "ratio_sum", .glo "turned_over", .glo "part_at", .glo "poly_beside", .glo "poly_total", .glo "poly_divided", .glo "_law_gcd", .glo "_law_draw", .glo "_law_pick", .glo "_law_wide", .glo "_law_lowest", .glo "_law_plus", .glo "_law_times", .glo "_law_int", .glo "_law_is", .glo "_law_alike", .glo "_law_few", .glo "_law_real", .glo "_law_trim", .glo "_law_some", .glo "_law_told", .glo "_law_at", .glo "_law_add", .glo "_law_scaled", .glo "_law_mul", .glo "_law_poly_is", .glo "_law_poly", .glo "_law_divisor", .glo "_law_pair_is", .glo "_law_one_right", .glo "_law_digits_right", .glo "_law_fault", .glo "_law_refused", .glo "_law_refusals_right", .glo "law", .glo "_law_pen", .glo "BadValue", .glo "NoDivisor", .glo "Ratio", .glo "Poly", .free "isinstance", .free "int", .free "bool", .free "str", .free "list", .free "tuple", .free "dict", .free "len", .free "abs", .free "min", .free "max", .free "range", .free "all", .free "any", .free "sum", .free "zip", .free "enumerate", .free "reversed", .free "sorted", .free "set", .cls "Ratio", .noat "Ratio" "top", .noat "Ratio" "bottom", .mkr "Ratio", .meth "Ratio" "__add__", .meth "Ratio" "__sub__", .meth "Ratio" "__mul__", .meth "Ratio" "__eq__", .cls "Poly", .noat "Poly" "parts", .mkr "Poly", .meth "Poly" "__sub__", .meth "Poly" "divided", .exc "NoDivisor"]
def xs : List XD := [⟨"BadValue", "BadValue.__init__", initBV, ["value"]⟩]
def tf : List He.Defn := [("_law_refusals_right", none)]
def tstR (K : PySem.W.Frag) (C : Addr) : Bool := insB K C && ((tys.all fun T => decide (PySem.W.kitOne K (.type T) (.ref C) = some false)) && ((us.all fun U => decide (PySem.W.kitOne K (.ref C) (.type U) = some false)) && (tups.all fun tp => decide (PySem.W.kitAny K (.ref C) (tp.map Value.type) = some false))))
def tstC (K : PySem.W.Frag) : Bool := cs.all fun c => cs.all fun c' => decide (PySem.W.kitOne K (.ref (He.ga K c)) (.ref (He.ga K c')) = some (decide (c = c')))
def tstT (K : PySem.W.Frag) : Bool := (tys.all fun T => us.all fun U => decide (PySem.W.kitOne K (.type T) (.type U) = some (decide (T = U) || (decide (T = "bool") && decide (U = "int"))))) && (tys.all fun T => tups.all fun tp => decide (PySem.W.kitAny K (.type T) (tp.map Value.type) = some (decide (T ∈ tp))))
def tstO (K : PySem.W.Frag) (C : Addr) : Bool := (ops.all fun op => tys.all fun T => opTB K C op T && opTRB K C op T) && (PySem.W.selfFirst K C && ((tys.all fun T => decide (PySem.W.subIn K (.type T) (.ref C) = some false)) && decide (PySem.W.subIn K (.ref C) (.type "int") = some false)))
def tstX (K : PySem.W.Frag) (B N : Addr) : Bool := decide (PySem.W.exmOne K (.ref B) (.ref B) = some true) && (decide (PySem.W.exmOne K (.ref N) (.ref B) = some false) && decide (PySem.W.exmOne K (.ref N) (.ref N) = some true))
def tstTT (K : PySem.W.Frag) : Bool := true
def tst (K : PySem.W.Frag) : Bool := decide (PySem.W.nsIn K cStatics "thirdparty.any" = some none) && (decide (PySem.W.nsIn K mainGlobals "super" = some none) && ((xs.all fun d => d.codeB K prg.main.file && d.clsB K) &&
  ((cs.all fun c => tstR K (He.ga K c)) && (tstC K && (tstT K && ((cs.all fun c => tstO K (He.ga K c)) && (tstX K (He.ga K "BadValue") (He.ga K "NoDivisor") && tstTT K)))))))
abbrev R : PySem.W.OpenRow := PySem.W.OpenLaw.row PySem.Challenge.rw_allstreams_k06_whole_divisions
abbrev hk : PySem.W.Hook := hookW 5 fa fn xs tf tst
def ob (s : PySem.W.SharedT) : AlW := obsW 5 fa fn xs tf tst (HandSHeadRun.getT s)
theorem ob_eq (s : PySem.W.SharedT) : ob s = hk.obs s.abs := obsW_eq (HandSHeadRun.getT_eq s)
def loose : List PySem.Str := (["_wall", "StreamError", "BadValue", "NoDivisor", "is_integer", "is_whole", "need_integer", "need_whole", "need_items", "common_whole", "whole_power", "Ratio", "sign_of_whole", "is_ratio", "ratio_of", "ratio_beside", "ratio_sum", "turned_over", "without_noughts", "multiplied", "lessened", "times_power", "content", "primitive", "whole_parts", "Poly", "poly_of", "poly_beside", "part_at", "common_of"] : List PySem.Str) ++ (["poly_total", "poly_product", "poly_divided", "whole_rest", "_law_pen", "_law_draw", "_law_pick", "_law_wide", "_law_gcd", "_law_lowest", "_law_plus", "_law_minus", "_law_times", "_law_turn", "_law_int", "_law_is", "_law_alike", "_law_fault", "_law_refused", "_law_few", "_law_real", "_law_some", "_law_told", "_law_trim", "_law_at", "_law_add", "_law_scaled", "_law_less", "_law_mul", "_law_poly_is"] : List PySem.Str) ++ (["_law_poly", "_law_divisor", "_law_pair_is", "_law_one_right", "_law_digits_right", "_law_refusals_right"] : List PySem.Str)
abbrev hkA : PySem.W.Hook := hookW 5 fa fn xs tf (fun _ => true)
abbrev obA (s : PySem.W.SharedT) : AlW := obsW 5 fa fn xs tf (fun _ => true) (HandSHeadRun.getT s)
abbrev hkB : PySem.W.Hook := hookW 5 [] [] [] [] tst
abbrev obB (s : PySem.W.SharedT) : AlW := obsW 5 [] [] [] [] tst (HandSHeadRun.getT s)
noncomputable abbrev EN (w : World) (os : OsState) : Option PySem.W.SharedT := HandSHeadRun.endF (HandSHeadRun.stepQ (HandSHeadRun.denQ HandSHeadRun.tabQ) R.prog w) 20000 R.prog w os
noncomputable abbrev lkE (w : World) (s : PySem.W.SharedT) : Bool := HandSHeadRun.looksF R.prog (PySem.W.boot_heap w.params) s.abs
noncomputable abbrev seE (s : PySem.W.SharedT) := HandSHeadRun.seenQ (PySem.W.view R.prog [72]) loose (PySem.importedModules R.prog.main.body) (fun s => PySem.W.xlAt (PySem.W.view R.prog [72]) [] s && PySem.W.recOk R.toRowW.records s) s.abs
end My
set_option Elab.async false
set_option linter.all false
set_option maxRecDepth 100000
set_option maxHeartbeats 0
namespace My
open PySem PySem.Spec PyProof.Rows L2 VL NdefX
theorem rL (w : World) (os : OsState) : (EN w os).map (fun s => lkE w s) = some true := by kernel_rfl
end My
set_option Elab.async false
set_option linter.all false
set_option maxRecDepth 100000
set_option maxHeartbeats 0
namespace My
open PySem PySem.Spec PyProof.Rows L2 VL NdefX
theorem rS (w : World) (os : OsState) : (EN w os).map (fun s => seE s) = some (PySem.W.openGood (PySem.W.view R.prog [72]) loose) := by kernel_rfl
end My
set_option Elab.async false
set_option linter.all false
set_option maxRecDepth 100000
set_option maxHeartbeats 0
namespace My
open PySem PySem.Spec PyProof.Rows L2 VL NdefX
theorem rA (w : World) (os : OsState) : (EN w os).map obA = some (hkA.val w) := by kernel_rfl
end My
set_option Elab.async false
set_option linter.all false
set_option maxRecDepth 100000
set_option maxHeartbeats 0
namespace My
open PySem PySem.Spec PyProof.Rows L2 VL NdefX
theorem rB (w : World) (os : OsState) : (EN w os).map obB = some (hkB.val w) := by kernel_rfl
end My
set_option Elab.async false
set_option linter.all false
set_option maxRecDepth 100000
set_option maxHeartbeats 0
namespace My
open PySem PySem.Spec PyProof.Rows L2 VL NdefX
theorem join4 {σ α β γ₁ γ₂ γ : Type} {o : Option σ} {l : σ → α} {se : σ → β} {oa : σ → γ₁} {ob : σ → γ₂} {oc : σ → γ} {vl : α} {vs : β} {va : γ₁} {vb : γ₂} {vc : γ} (hl : o.map l = some vl) (hs : o.map se = some vs) (ha : o.map oa = some va) (hb : o.map ob = some vb) (h : ∀ s, oa s = va → ob s = vb → oc s = vc) : o.map (fun s => (l s, se s, oc s)) = some (vl, vs, vc) := by
  cases o with
  | none => cases hl
  | some s =>
    show some (l s, se s, oc s) = _
    rw [show l s = vl from Option.some.inj hl, show se s = vs from Option.some.inj hs, h s (Option.some.inj ha) (Option.some.inj hb)]
theorem both (g : Addr → Option Obj) (ha : obsW 5 fa fn xs tf (fun _ => true) g = valW0 fn xs) (hb : obsW 5 [] [] [] [] tst g = valW0 [] []) : obsW 5 fa fn xs tf tst g = valW0 fn xs := by
  have a1 := (Prod.mk.inj ha).1
  have a2 := (Prod.mk.inj (Prod.mk.inj ha).2).1
  have a3 := (Prod.mk.inj (Prod.mk.inj ha).2).2
  have b3 := (Prod.mk.inj (Prod.mk.inj hb).2).2
  show (_, _, _) = (_, _, _)
  rw [a1, a2]
  have t1 : tst (frW 5 g) = true := (Bool.and_eq_true_iff.mp b3).1
  have t2 : He.tabsB g tf (frW 5 g) = true := (Bool.and_eq_true_iff.mp a3).2
  rw [t1, t2]
  rfl
theorem run (w : World) : HandSHeadRun.RunEq R (PySem.W.view R.prog [72]) hk ob 20000 loose w := fun os => join4 (rL w os) (rS w os) (rA w os) (rB w os) (fun s h1 h2 => both (HandSHeadRun.getT s) h1 h2)
end My
set_option Elab.async false
set_option linter.all false
set_option maxRecDepth 100000
set_option maxHeartbeats 4000000
/-! VX25: list(reversed(x)), x[::-1], slices of tuples, [..] * n as one's own list, an item of one's own list written, a tuple == itself. -/
namespace VL
open PySem PySem.Spec PyProof.Rows L2 NdefX RT
open AutoSeq1 (wpAny_loadPart')
/-! ### list(reversed(a list)), at the library's level -/
section
variable {prog : Program} {w : World} {A : Around} {E : Value → Shared → Prop} {s : Shared}
theorem list_init_rev {R : Result → Shared → Prop} {it l : Addr} {items : Array Value} (hh : A.handled = none) (hit : s.heap.IsRevIter it l ((items.size : Int) - 1)) (hl : s.heap.IsList l items) (hne : l ≠ it) (hn : items.size ≤ sizeLine) (S : Addr) (hS : s.heap.get? S = some { cls := .type "list", data := .seq #[] }) (hSi : S ≠ it) (hSl : S ≠ l)
    (hR : ∀ h' tk acc' c', (∀ b o, b ≠ S → b ≠ it → s.heap.get? b = some o → h'.get? b = some o) → h'.get? S = some { cls := .type "list", dict := none, data := .seq acc' c', slots := #[] } →
      ItemsOf (fun i v => items[items.size - 1 - i]? = some v) acc' items.size → R (.ok (.ret .none)) { s with heap := h', toks := tk }) :
    wpAny (model prog w) A.in1 (Builtin.«list.__init__» ⟨[.ref S, .ref it], []⟩)
      (fun fin s' => match fin with | .done f => R (.ok f) s' | .again c' => c'.quiet = true ∧ codeAny (model prog w) A c' R s') (fun e s' => R (.error e) s') s := by
  show wpAny _ _ (do let old ← Builtin.List.listItems (.ref S); Builtin.List.listUpdate (.ref S) (fun _ => #[]); letGo old.toList.reverse; Builtin.List.listExtendWith (.ref S) (.ref it) .none) _ _ s
  refine wpAny_bind ?_
  unfold Builtin.List.listItems
  refine wpAny_bind (wpAny_seqItems hS rfl (wpAny_pure ?_))
  show wpAny _ _ (updateSeq S (fun _ => #[]) >>= fun _ => letGo (#[] : Array Value).toList.reverse >>= fun _ => Builtin.List.listExtendWith (.ref S) (.ref it) .none) _ _ s
  refine wpAny_bind (wpAny_updateSeq hS rfl ?_)
  have hS₂ := Heap.get?_update_self (Obj.mapSeq (fun _ => (#[] : Array Value))) hS rfl
  have oth : ∀ b o, b ≠ S → s.heap.get? b = some o → (s.heap.update S (Obj.mapSeq (fun _ => (#[] : Array Value)))).get? b = some o :=
    fun b o hb e => (Heap.get?_update_other _ _ (Ne.symm hb)).trans e
  refine wpAny_bind (wpAny_letGo ?_)
  have W := (Walks.listRev (prog := prog) (w := w) (A := A.in1) hh it l hne items).toS
  have hSf : S ∉ [it, l] := by simp only [List.mem_cons, List.not_mem_nil, or_false, not_or]; exact ⟨hSi, hSl⟩
  have hit1 : (s.heap.update S (Obj.mapSeq (fun _ => (#[] : Array Value)))).IsRevIter it l ((items.size : Int) - 1) := hit.at fun o e => oth it o (Ne.symm hSi) e
  have hl1 : (s.heap.update S (Obj.mapSeq (fun _ => (#[] : Array Value)))).IsList l items := hl.at fun o e => oth l o (Ne.symm hSl) e
  have hT : ({ s with heap := s.heap.update S (Obj.mapSeq (fun _ => (#[] : Array Value))) } : Shared).TypeIs (.ref it) "list_reverseiterator" := Heap.IsRevIter.typeIs (s := { s with heap := s.heap.update S (Obj.mapSeq (fun _ => (#[] : Array Value))) }) hit1
  have h1 : Builtin.List.listSameRef (.ref S) (.ref it) = false := by simp [Builtin.List.listSameRef, hSi]
  unfold Builtin.List.listExtendWith
  refine wpAny_bind (wpAny_typeOf hT ?_)
  rw [if_neg (by rw [h1]; decide)]
  refine wpAny_bind (wpAny_pyIter_revIter (s := { s with heap := s.heap.update S (Obj.mapSeq (fun _ => (#[] : Array Value))) }) hit1 ?_)
  refine wpAny_bind (wpAny_holding ?_)
  unfold Builtin.List.listLengthHint
  refine wpAny_bind (wpAny_specialOf hT nolen_lri ?_)
  show wpAny _ A.in1 (specialOf (Value.ref it) (Str.ofString "__length_hint__") >>= _) _ _ _
  refine wpAny_bind (wpAny_specialOf hT hint_lri ?_)
  generalize hid : ("list_reverseiterator.__length_hint__" : String) = id0
  wp_delta
  rw [show splitId id0 = some ("list_reverseiterator", "__length_hint__") from by subst hid; decide +kernel]
  subst hid
  refine wpAny_bind (wpAny_isInstance (b := true) hT (by rw [isSubtype_type]; kernel_rfl) ?_)
  refine wpAny_pure ?_
  rw [if_neg (by decide)]
  have e0 : ((items.size : Nat) : Int) - 1 - ((0 : Nat) : Int) = (items.size : Int) - 1 := by omega
  refine wpAny_pure ⟨plainId_quiet F.plain_extend_loop _, codeAny_extend_loopS W hn _ hSf _ items.size 0 _ _ _ rfl (Nat.zero_le _) ⟨Nat.zero_le _, by rw [e0]; exact hit1, hl1⟩ hS₂ (ItemsOf.nil _) fun s' acc' c' hm hS' hacc => ?_⟩
  rw [Moved.eq_with hm]
  refine hR s'.heap s'.toks acc' c' (fun b o hb hb2 e => hm.heap b o (fun hmem => ?_) (oth b o hb e)) hS' hacc
  rcases List.mem_cons.mp hmem with e' | hmem
  · exact hb e'
  · exact hb2 (List.mem_singleton.mp hmem)
theorem call_list_rev {it l : Addr} {items : Array Value} {Q : Value → Shared → Prop} (hh : A.handled = none) (hit : s.heap.IsRevIter it l ((items.size : Int) - 1)) (hl : s.heap.IsList l items) (hne : l ≠ it) (hn : items.size ≤ sizeLine)
    (hQ : ∀ h' tk acc' c', (∀ b o, b ≠ it → s.heap.get? b = some o → h'.get? b = some o) →
      h'.get? s.heap.objs.size = some { cls := .type "list", dict := none, data := .seq acc' c', slots := #[] } → ItemsOf (fun i v => items[items.size - 1 - i]? = some v) acc' items.size → Q (.ref s.heap.objs.size) { s with heap := h', toks := tk }) :
    wpAny (model prog w) A (call (.type "list") [.ref it]) Q E s := by
  refine callType_codes (Q₁ := fun obj s₁ => obj = .ref s.heap.objs.size ∧ s₁ = { s with heap := s.heap.push { cls := .type "list", data := .seq #[] } }) F.called_list (F.typeCall_list_1 _) F.entry_list_init
    (code_list_new _ ⟨rfl, rfl⟩) fun obj s₁ h₁ => ?_
  obtain ⟨rfl, rfl⟩ := h₁
  obtain ⟨oi, hoi, _⟩ := id hit
  obtain ⟨ol, hol, _⟩ := id hl
  have hSi : s.heap.objs.size ≠ it := Nat.ne_of_gt (Heap.lt_size hoi)
  have hSl : s.heap.objs.size ≠ l := Nat.ne_of_gt (Heap.lt_size hol)
  have hS : (s.heap.push { cls := .type "list", data := .seq #[] }).get? s.heap.objs.size = some { cls := .type "list", data := .seq #[] } := Heap.get?_push_size _ rfl
  refine ⟨⟨_, hS, rfl⟩, F.args_list_init_2 _ _, list_init_rev (A := A.in1) hh (hit.at fun o e => Heap.get?_push_of_some _ e) (hl.push _) hne hn _ hS hSi hSl fun h' tk acc' c' hk hS' hacc => ?_⟩
  exact ⟨rfl, hQ h' tk acc' c' (fun b o hb e => hk b o (Nat.ne_of_lt (Heap.lt_size e)) hb (Heap.get?_push_of_some _ e)) hS' hacc⟩
end
section
variable {X : Cx}
def tLstRev (K : PySem.W.Frag) (te : TE) : TE := fun σ H Q => te σ H fun v H1 => ∃ (a : Addr) (xs : List V), v = .ref a ∧ SqL K H1 a xs ∧ ∀ q, H1 q = none → Q (.ref q) (upd H1 q (.lst xs.reverse))
theorem pe_listRev {e : Expr} {te : TE} {p p2 pos pos2 : Pos} (hc : X.calm = true) (hg : Gl X "list") (hm : X.mg "list" = none) (hg2 : Gl X "reversed") (hm2 : X.mg "reversed" = none) (he : PE X e te)
    (hs : starEach [e] X.env = (false, eval e X.env) :: starEach [] X.env := by rfl)
    (hs2 : starEach [.Call (.Name "reversed" p2) [e] [] pos2] X.env = (false, eval (.Call (.Name "reversed" p2) [e] [] pos2) X.env) :: starEach [] X.env := by rfl) :
    PE X (.Call (.Name "list" p) [.Call (.Name "reversed" p2) [e] [] pos2] [] pos) (tLstRev X.K te) := by
  refine ⟨fun pins s σ H Q I h => ?_⟩
  refine Call_ (ld_blt I hg hm boot_list (PyProof.Rows.callWith_type1 (args_cons (Call_ (ld_blt I hg2 hm2 PyProof.Rows.boot_reversed (PyProof.Rows.callWith_type1 (args_cons (thn (he.run pins s σ H _ I h) fun u s1 ⟨v, H1, I1, r1, q1⟩ => args_nil ?_) hs) hs rfl))) hs2) hs2 rfl))
  obtain ⟨a, xs, ev, hq, q⟩ := q1
  subst ev
  obtain rfl : u = Value.ref a := r1
  obtain ⟨its, rv, p', hz⟩ := I1.list hq
  refine call_reversed_list p'.isList (args_nil ?_)
  have hl := p'.isList
  obtain ⟨ol, hol, _⟩ := id hl
  have hne : a ≠ s1.heap.objs.size := Nat.ne_of_lt (Heap.lt_size hol)
  have hn : its.toArray.size ≤ sizeLine := by rw [List.size_toArray, ← rv.length]; exact hz
  refine call_list_rev (s := { s1 with heap := s1.heap.push (revObj a ((its.toArray.size : Int) - 1)) }) (I1.ok.hd hc) ⟨_, Heap.get?_push_size _ rfl, rfl, rfl⟩ (hl.push _) hne hn fun h' tk acc c' hk hS' hi => ?_
  have hsz : s1.heap.objs.size ≤ (s1.heap.push (revObj a ((its.toArray.size : Int) - 1))).objs.size := by
    show s1.heap.objs.size ≤ (s1.heap.objs.push _).size
    rw [Array.size_push]; exact Nat.le_succ _
  refine ⟨.ref _, upd H1 _ (.lst xs.reverse), I1.laid (t' := tk) (fun c o e => hk c o (Nat.ne_of_lt (Heap.lt_size e)) (Heap.get?_push_of_some _ e)) hsz (show ObjOk X.prog X.w _ _ _ (.lst xs.reverse) from ⟨by rw [List.length_reverse]; exact hz, acc.toList, c', vals_rev rv hi, ?_⟩), rfl, q _ (I1.hok.fresh hsz)⟩
  rw [Array.toArray_toList]
  exact hS'
end
section
variable {X : Cx} {c : Cv} {S : State} {e a b : Expr} {es : List Expr} {st : Stmt} {sts : List Stmt} {σ : L2.St} {G G' H : Hp} {pos : Pos} {Q : D → State → Prop} {QT : Bool → State → Prop} {E : VD}
/-- list(reversed(x)), x a list -/
theorem ve_listRev {p p2 pos2 : Pos} (hm : X.mg "list" = none) (hm2 : X.mg "reversed" = none) (hc : X.calm = true) (h : VE X c S a fun d S1 => ∃ ds, d = .lst ds ∧ Q (.lst ds.reverse) S1) (hg : Gl X "list" := by rfl) (hg2 : Gl X "reversed" := by rfl)
    (hs : starEach [a] X.env = (false, eval a X.env) :: starEach [] X.env := by rfl)
    (hs2 : starEach [.Call (.Name "reversed" p2) [a] [] pos2] X.env = (false, eval (.Call (.Name "reversed" p2) [a] [] pos2) X.env) :: starEach [] X.env := by rfl) :
    VE X c S (.Call (.Name "list" p) [.Call (.Name "reversed" p2) [a] [] pos2] [] pos) Q := fun σ G H hd => by
  refine tE_of (pe_listRev hc hg hm hg2 hm2 pe_sem hs hs2) (tE_mono (h σ G H hd) fun v H1 ⟨d, S1, G1, h1, s1, r1, ds, e, q1⟩ => ?_)
  subst e
  have hlen := lst_len r1
  obtain ⟨p, xs, rfl, g1, r1⟩ := rep_lst r1
  refine ⟨p, xs, rfl, .inl (.inl (h1.sub _ _ g1)), fun l hl => ?_⟩
  exact pE_back s1 (pE_new h1 hl (.lst upd_same (r1.rev.mono (same_upd (h1.sub.free hl))) (by rw [List.length_reverse]; exact hlen)) q1)
/-- x[::-1], x a list -/
theorem ve_rev {k : Nat} {p1 p2 p3 : Pos} (h : VE X c S a fun d S1 => ∃ ds, d = .lst ds ∧ Q (.lst ds.reverse) S1) : VE X c S (.Subscript a (.Slice none none (some (.UnaryOp .USub (.Constant (.int 1) k p1) p2)) p3) pos) Q := fun σ G H hd => by
  refine tE_of (pe_revL pe_sem) (tE_mono (h σ G H hd) fun v H1 ⟨d, S1, G1, h1, s1, r1, ds, e, q1⟩ => ?_)
  subst e
  have hlen := lst_len r1
  obtain ⟨p, xs, rfl, g1, r1⟩ := rep_lst r1
  refine ⟨p, xs, rfl, .inl (.inl (h1.sub _ _ g1)), fun l hl => ?_⟩
  exact pE_back s1 (pE_new h1 hl (.lst upd_same (r1.rev.mono (same_upd (h1.sub.free hl))) (by rw [List.length_reverse]; exact hlen)) q1)
theorem cut_whole {xs : List D} {lo hi : Option Int} (hw : HT.sIx xs.length 0 lo = 0 ∧ HT.sIx xs.length xs.length hi = xs.length) : cutD xs lo hi = xs := by
  unfold cutD
  rw [hw.1, hw.2, List.drop_zero, Nat.sub_zero, List.take_length]
/-- x[:n], x a tuple -/
theorem ve_slUT {p2 : Pos} (h : VE X c S a fun d S1 => ∃ ds, d = .tup ds ∧ VE X c S1 b fun u S2 => ∃ i, u = .int i ∧ Q (.tup (cutD ds none (some i))) S2) : VE X c S (.Subscript a (.Slice none (some b) none p2) pos) Q := fun σ G H hd => by
  refine tE_of (pe_slice sl_tupA pe_sem po_none (po_some pe_sem)) (tE_mono (h σ G H hd) fun v H1 ⟨d, S1, G1, h1, s1, r1, ds, e, q1⟩ => ?_)
  subst e
  have hlen := tup_len r1
  have r0 := r1
  obtain ⟨p, xs, rfl, g1, r1⟩ := rep_tup r1
  refine tE_mono (q1 σ G1 H1 h1) fun w H2 ⟨u, S2, G2, h2, s2, r2, i, e2, q2⟩ => ?_
  subst e2
  have hl : xs.length = ds.length := r1.length
  refine ⟨i, rep_int r2, p, xs, rfl, .inl (.inl (h2.sub _ _ (s2 _ _ g1))), fun hw => ?_, fun hw l hl => ?_⟩
  · rw [hl] at hw
    rw [cut_whole hw] at q2
    exact ⟨_, S2, G2, h2, s1.trans s2, r0.mono s2, q2⟩
  · exact pE_back (s1.trans s2) (pE_new h2 hl (.tup upd_same ((reps_cut none (some i) (r1.mono s2)).mono (same_upd (h2.sub.free hl))) (Nat.le_trans (cutD_le _ _ _) hlen)) q2)
/-- name = [..] * n, one's own list -/
theorem vs_setOwnMul (i : Nat) {x : Str} {pos' p2 : Pos} (h : VE X c S a fun d S1 => VE X c S1 b fun y S2 => ∃ ds k, d = .lst ds ∧ y = .int k ∧ -(2 ^ 63) ≤ k ∧ k < 2 ^ 63 ∧ ds.length * k.toNat ≤ sizeLine ∧ E.nx (S2.put i (.own (List.replicate k.toNat ds).flatten))) (hN : X.N.Nodup)
    (hi : X.N[i]? = some x := by rfl) (hx : Loc X.env.scope x := by first | exact Or.inl rfl | exact Or.inr rfl)
    (hs : swapsWith (.BinOp a .Mult b p2) (some (.Name x pos')) pos.line X.env = pure false := by rfl) (hf : X.fn x = true ∨ X.env.scope.names.lookup x = some .local := by first | exact .inl rfl | exact .inr rfl) : VS X c S (.Assign [.Name x pos'] (.BinOp a .Mult b p2) pos) E := fun σ G H hd => by
  refine tS_of (ps_set hN hi hx (pe_op op_rep pe_sem pe_sem) hs hf) ?_
  refine tE_mono (h σ G H hd) fun u H1 ⟨d, S1, G1, h1, s1, r1, q1⟩ => tE_mono (q1 σ G1 H1 h1) fun v H2 ⟨y, S2, G2, h2, s2, r2, ds, k, e1, e2, k1, k2, hz, q2⟩ => ?_
  subst e1
  subst e2
  obtain ⟨p, us, rfl, g1, r1⟩ := rep_lst r1
  exact ⟨p, k, us, rfl, rep_int r2, h2.sub _ _ (s2 _ _ g1), k1, k2, by rw [r1.length]; exact hz, fun l hl => ⟨_, G2, h2.setOwn hl (reps_rep (r1.mono s2) _) (by rw [rep_len, Nat.mul_comm]; exact hz), s1.trans s2, q2⟩⟩
theorem ixN_nat {n j : Nat} (h : j < n) : ixN n (j : Int) = some j := by
  unfold ixN
  simp [h]
/-- x[j] = e, x one's own list -/
theorem vs_putOwn (i : Nat) {x : Str} {p2 p3 : Pos} (ht : c.top = true) (h : VE X c S e fun d S1 => (∃ ds0, S1.ρ[i]? = some (.own ds0)) ∧ VE X c S1 b fun y S2 => ∃ (ds : List D) (j : Nat), S2.ρ[i]? = some (.own ds) ∧ y = .int (j : Int) ∧ j < ds.length ∧ E.nx (S2.put i (.own (ds.set j d))))
    (hN : X.N[i]? = some x := by rfl) (hv : Vis X.env.scope x := by first | exact Or.inl rfl | exact Or.inr (Or.inl rfl) | exact Or.inr (Or.inr rfl))
    (hd : (x == ("__debug__" : Str)) = false := by decide) (hcd : (x == ("__classdict__" : Str)) = false := by decide)
    (ha : ∀ v, assign (.Subscript (.Name x p2) b p3) X.env v = (do
      let ov ← holding [v] (eval (.Name x p2) X.env)
      let iv ← holding [v, ov] (eval b X.env)
      standAt p3
      holding [v, ov, iv] (setItem ov iv v)
      release [v, ov, iv] []) := by intro _; rfl)
    (hs : swapsWithSole [.Subscript (.Name x p2) b p3] e pos.line X.env = pure false := by rfl) (hw : swappedStores [.Subscript (.Name x p2) b p3] e X.env = pure none := by rfl)
    (h1 : (assignEach [.Subscript (.Name x p2) b p3] X.env).map (·.2) = [assign (.Subscript (.Name x p2) b p3) X.env] := by rfl) :
    VS X c S (.Assign [.Subscript (.Name x p2) b p3] e pos) E := fun σ G H hh => by
  refine tS_of (ps_asg pe_sem (pg_sub (pv i hN hv hd hcd) pe_sem set_list ha) hs hw h1) (tE_mono (h σ G H hh) fun v H1 ⟨d, S1, G1, h1, s1, r1, ⟨ds0, ho⟩, q1⟩ => ?_)
  obtain ⟨o, e1, l, vs, e2, hl, gl, r, _⟩ := h1.slots i _ ho
  subst e2
  refine ⟨_, e1, tE_mono (q1 σ G1 H1 h1) fun w H2 ⟨y, S2, G2, h2, s2, r2, ds, j, hρ2, ey, hj, q⟩ => ?_⟩
  subst ey
  obtain ⟨o', e1', l', vs', e2', hl', gl', r', hz⟩ := h2.slots i _ hρ2
  rw [e1] at e1'
  cases e1'
  cases e2'
  have hlen : vs'.length = ds.length := r'.length
  refine ⟨l, vs', (j : Int), j, rfl, rep_int r2, hl', ?_, _, G2, h2.mut hρ2 ht e1 (r'.set j (r1.mono s2)) (by rw [List.length_set]; exact hz), s1.trans s2, q⟩
  exact ixN_nat (by omega)
/-- a tuple == itself -/
theorem rb_eqIdT {a : Addr} {ds : List D} (hu : X.A.units < cLine) (q : Q (.bl true) S) : RB X c S (rSem X .Eq) (.idn a (.tup ds)) (.idn a (.tup ds)) Q := fun σ0 G H u v hd ru rv R hR pins s σ v1 v2 I rx ry => by
  cases ru with
  | idn ru =>
    cases rv with
    | idn rv =>
      obtain rfl : v1 = Value.ref a := rx
      obtain rfl : v2 = Value.ref a := ry
      obtain ⟨p, us, ep, g1, r1⟩ := rep_tup ru
      cases ep
      obtain ⟨its, r3, p3⟩ := I.tuple (.inl (.inl (hd.sub _ _ g1)))
      refine SeqAt.rcIn_tuples (e := fun _ => true) p3.1 p3.1 hu (fun j h1 h2 => (SeqAt.EqAt.same _).inModel _ _) ?_
      refine ⟨.bl true, H, I, ?_, hR _ _ (pE_ret hd .bl q)⟩
      show _ = _
      simp
end
end VL
set_option Elab.async false
set_option linter.all false
set_option maxRecDepth 100000
set_option maxHeartbeats 4000000
/-! VX26: the pen's budget lowered within arguments. -/
namespace VL
open PySem PySem.Spec PyProof.Rows L2 NdefX
section
variable {X : Cx} {c : Cv} {S : State} {es : List Expr} {e : Expr}
theorem VA.le {p : Addr} {r r' : Nat} {Q : List D → State → Prop} (hp : S.pn = some (p, .bud r)) (hr : r' ≤ r) (h : VA X c ⟨S.ρ, some (p, .bud r')⟩ es Q) : VA X c S es Q := fun σ G H hd => by
  obtain ⟨cc, cells, b, l, p1, p2, p3, p4⟩ := (hd.pen _ _ hp).1
  obtain ⟨b1, b2, b3, b4, b5, b6⟩ := p4
  exact h σ G H (hd.repn hp ⟨cc, cells, b, l, p1, p2, p3, b1, b2, b3, by omega, b5, b6⟩)
/-- the budget lowered behind an expression -/
theorem VE.behind {Q : D → State → Prop} (h : VE X c S e fun d S1 => ∃ p r r', S1.pn = some (p, .bud r) ∧ r' ≤ r ∧ Q d ⟨S1.ρ, some (p, .bud r')⟩) : VE X c S e Q := fun σ G H hd => by
  refine tE_mono (h σ G H hd) fun v H1 ⟨d, S1, G1, h1, s1, r1, p, r, r', hp, hr, q⟩ => ?_
  obtain ⟨cc, cells, b, l, p1, p2, p3, p4⟩ := (h1.pen _ _ hp).1
  obtain ⟨b1, b2, b3, b4, b5, b6⟩ := p4
  exact ⟨d, ⟨S1.ρ, some (p, .bud r')⟩, G1, h1.repn hp (r' := .bud r') ⟨cc, cells, b, l, p1, p2, p3, b1, b2, b3, by omega, b5, b6⟩, s1, r1, q⟩
end
end VL
set_option Elab.async false
set_option linter.all false
set_option maxRecDepth 100000
set_option maxHeartbeats 4000000
/-! VX27: name = [comprehension over a range] on one line. -/
namespace VL
open PySem PySem.Spec PyProof.Rows L2
section
variable {X : Cx} {c : Cv} {S : State} {e a b elt tg iter : Expr} {ifs : List Expr} {σ : L2.St} {G G' H : Hp} {pos spos : Pos} {E : VD}
theorem vs_setLcR (i : Nat) {y : Str} {py : Pos} {scope : Scope} {own : List (Str × Nat)} {g : TG} {asg : D → List Sl → Option (List Sl)} {p pos2 : Pos} (hc : X.calm = true) (hN : X.N.Nodup) (ok : BlkOk X.N X.env.scope scope own) (hifs : ifs.length ≤ 1) (hm : X.mg "range" = none) (tgo : TgOk X g (own.map (·.2)) asg)
    (hg : ∀ (s : Shared) (H : Hp) (C : Addr) (cl : List (Str × Addr)) (fp : List Addr), PG (X.blk s H scope (compEnvC scope cl C X.env) fp) tg g)
    (h : VE X c S a fun d S1 => ∃ n : Int, d = .int n ∧ n ≤ sizeLine ∧ -(2 ^ 62) ≤ n ∧ ∃ I : Nat → List D → Pn → Prop, I 0 [] S1.pn ∧ (∀ (i : Nat) acc pn, (i : Int) < n → I i acc pn → ∃ ρ, asg (.int i) (wipeρ S1.ρ (own.map (·.2))) = some ρ ∧ LcTurn X c scope elt ifs ρ I i acc pn) ∧ ∀ acc pn, I n.toNat acc pn → E.nx ((⟨S1.ρ, pn⟩ : State).put i (.val (.lst acc))))
    (hy : X.N[i]? = some y := by rfl) (hyl : X.env.scope.names.lookup y = some .local := by rfl)
    (hsw : swapsWith (.ListComp elt [⟨tg, .Call (.Name "range" p) [a] [] pos2, ifs, 0⟩] scope pos) (some (.Name y py)) spos.line X.env = pure true := by first | rfl | exact sw_true rfl rfl rfl rfl)
    (hgl : Gl X "range" := by rfl) (hs : ∀ x, foldedSetIterable (.Call (.Name "range" p) [a] [] pos2) X.env x = pure x := by intro _; rfl) (hst : starEach [a] X.env = [(false, eval a X.env)] := by rfl) : VS X c S (.Assign [.Name y py] (.ListComp elt [⟨tg, .Call (.Name "range" p) [a] [] pos2, ifs, 0⟩] scope pos) spos) E := fun σ G H hd => by
  refine tS_of (ps_setLc hc hN hy hyl hsw (pi_range1 hgl hm (pa_cons pe_sem pa_nil hst) hst) ok hg (pts_tTsb hifs) (pe_tEb (elt := elt)) hs) ?_
  refine tE_mono (h σ G H hd) fun v H1 ⟨d, S1, G1, h1, s1, r1, n, e, hz, hz2, I, h0, turn, fin⟩ => ?_
  subst e
  rw [rep_int r1]
  have hsz : (sizeLine : Int) < 2 ^ 62 := by rw [sizeLine_eq]; decide
  refine ⟨n, rfl, by omega, by omega, fun Dl hD => ?_⟩
  have hD0 := h0_of h1 hD
  have hsD := hsD_of h1 hD
  refine lc_range (lo := 0) (n := n.toNat) (PvL X c S1 σ G1 Dl I) (pvL_start h1 hD h0) (fun i H hi p => ?_) (fun H p => ?_)
  · rw [Int.zero_add]
    exact lc_turn hD0 hsD (by omega) tgo (fun G' s => .int) (fun acc pn hI => turn i acc pn (by omega) hI) p
  · obtain ⟨d, S2, G2, h2, s2, r2, q2⟩ := pE_back s1 (pvL_end (Q := fun d S2 => E.nx (S2.put i (.val d))) hD0 hsD (by omega) fin p)
    exact ⟨S2.put i (.val d), G2, h2.setVal r2, s2, q2⟩
end
end VL
set_option Elab.async false
set_option linter.all false
set_option maxRecDepth 100000
set_option maxHeartbeats 1000000
/-! fractions in lowest terms: the plain law of k03 -/
namespace My
/-- the signed common factor; a fraction in lowest terms -/
def sg (a b : Int) : Int := if b < 0 then -(Int.gcd a b : Int) else (Int.gcd a b : Int)
def low (p : Int × Int) : Int × Int := (p.1.fdiv (sg p.1 p.2), p.2.fdiv (sg p.1 p.2))
def Cop (p : Int × Int) : Prop := 0 < p.2 ∧ Int.gcd p.1 p.2 = 1
def Sz (n : Nat) (p : Int × Int) : Prop := p.1.natAbs < 2 ^ n ∧ p.2.natAbs < 2 ^ n
theorem gcd_pos {a b : Int} (h : b ≠ 0) : 0 < Int.gcd a b := Int.gcd_pos_of_ne_zero_right _ h
theorem sg_abs (a b : Int) : (sg a b).natAbs = Int.gcd a b := by
  unfold sg
  split <;> simp
theorem sg_ne {a b : Int} (h : b ≠ 0) : sg a b ≠ 0 := fun z => by
  have h1 := sg_abs a b
  have h2 := gcd_pos (a := a) h
  rw [z] at h1
  rw [← h1] at h2
  exact absurd h2 (by decide)
theorem sg_dvd {a b : Int} : sg a b ∣ a ∧ sg a b ∣ b := by
  rw [← Int.natAbs_dvd, ← Int.natAbs_dvd (b := b), sg_abs]
  exact ⟨Int.gcd_dvd_left a b, Int.gcd_dvd_right a b⟩
theorem sg_le {a b : Int} (h : b ≠ 0) : (sg a b).natAbs ≤ b.natAbs := by
  rw [sg_abs]
  exact Nat.le_of_dvd (by omega) (Int.natAbs_dvd_natAbs.mpr (Int.gcd_dvd_right a b))
theorem low_eq (p : Int × Int) : p.1 = (low p).1 * sg p.1 p.2 ∧ p.2 = (low p).2 * sg p.1 p.2 := by
  have h := sg_dvd (a := p.1) (b := p.2)
  unfold low
  rw [Int.fdiv_eq_ediv_of_dvd h.1, Int.fdiv_eq_ediv_of_dvd h.2, Int.ediv_mul_cancel h.1, Int.ediv_mul_cancel h.2]
  exact ⟨rfl, rfl⟩
theorem low_cop {p : Int × Int} (h : p.2 ≠ 0) : Cop (low p) := by
  obtain ⟨e1, e2⟩ := low_eq p
  have hs := sg_ne (a := p.1) h
  refine ⟨?_, ?_⟩
  · rcases Int.lt_or_le 0 (low p).2 with z | z
    · exact z
    · exfalso
      by_cases hb : p.2 < 0
      · have hn : sg p.1 p.2 ≤ 0 := by
          unfold sg
          rw [if_pos hb]
          omega
        have := Int.mul_nonneg_of_nonpos_of_nonpos z hn
        omega
      · have hn : 0 ≤ sg p.1 p.2 := by
          unfold sg
          rw [if_neg hb]
          omega
        have := Int.mul_nonpos_of_nonpos_of_nonneg z hn
        omega
  · have g : Int.gcd p.1 p.2 = Int.gcd (low p).1 (low p).2 * (sg p.1 p.2).natAbs := by
      rw [← Int.gcd_mul_right, ← e1, ← e2]
    rw [sg_abs] at g
    have hp := gcd_pos (a := p.1) h
    exact (Nat.eq_of_mul_eq_mul_right hp (by rw [Nat.one_mul]; exact g)).symm
theorem dvd_of {a b c : Int} (h : Int.gcd a b = 1) (d : a ∣ b * c) : a ∣ c := by
  rw [← Int.natAbs_dvd_natAbs] at d ⊢
  rw [Int.natAbs_mul] at d
  exact Nat.Coprime.dvd_of_dvd_mul_left h d
theorem low_uniq {a b c d : Int} (h : Cop (c, d)) (hb : b ≠ 0) (e : a * d = c * b) : low (a, b) = (c, d) := by
  obtain ⟨e1, e2⟩ := low_eq (a, b)
  obtain ⟨q0, q1⟩ := low_cop (p := (a, b)) hb
  obtain ⟨h0, h1⟩ := h
  have hs := sg_ne (a := a) hb
  revert e1 e2 q0 q1
  generalize low (a, b) = q
  obtain ⟨x, y⟩ := q
  dsimp only at *
  intro e1 e2 q0 q1
  generalize sg a b = s at *
  have k : x * d = c * y := by
    refine Int.eq_of_mul_eq_mul_right hs ?_
    calc x * d * s = x * s * d := by rw [Int.mul_assoc, Int.mul_comm d s, Int.mul_assoc]
      _ = a * d := by rw [← e1]
      _ = c * b := e
      _ = c * (y * s) := by rw [← e2]
      _ = c * y * s := by rw [Int.mul_assoc]
  have d1 : d ∣ y := dvd_of (a := d) (b := c) (by rw [Int.gcd_comm]; exact h1) ⟨x, by rw [← k, Int.mul_comm]⟩
  have d2 : y ∣ d := dvd_of (a := y) (b := x) (by rw [Int.gcd_comm]; exact q1) ⟨c, by rw [k, Int.mul_comm]⟩
  have ed : y = d := Int.dvd_antisymm (by omega) (by omega) d2 d1
  subst ed
  have ex : x = c := Int.eq_of_mul_eq_mul_right (by omega) k
  rw [ex]
theorem low_self {p : Int × Int} (h : Cop p) : low p = p := low_uniq (c := p.1) (d := p.2) h (by have := h.1; omega) rfl
theorem low_mul {a b f : Int} (hb : b ≠ 0) (hf : f ≠ 0) : low (a * f, b * f) = low (a, b) := by
  obtain ⟨e1, e2⟩ := low_eq (a, b)
  have hc := low_cop (p := (a, b)) hb
  refine low_uniq (c := (low (a, b)).1) (d := (low (a, b)).2) hc (fun z => (Int.mul_eq_zero.mp z).elim hb hf) ?_
  generalize low (a, b) = q at *
  dsimp only at *
  generalize sg a b = s at *
  rw [e1, e2]
  simp only [Int.mul_assoc, Int.mul_left_comm, Int.mul_comm]
theorem cop_pow {p : Int × Int} (h : Cop p) (k : Nat) : Cop (p.1 ^ k, p.2 ^ k) := by
  refine ⟨Int.pow_pos h.1, ?_⟩
  show Nat.gcd (p.1 ^ k).natAbs (p.2 ^ k).natAbs = 1
  rw [Int.natAbs_pow, Int.natAbs_pow, Nat.pow_gcd_pow]
  have : Nat.gcd p.1.natAbs p.2.natAbs = 1 := h.2
  rw [this, Nat.one_pow]
theorem low_pow {a b : Int} (hb : b ≠ 0) (k : Nat) : low (a ^ k, b ^ k) = ((low (a, b)).1 ^ k, (low (a, b)).2 ^ k) := by
  obtain ⟨e1, e2⟩ := low_eq (a, b)
  have hc := low_cop (p := (a, b)) hb
  have hs := sg_ne (a := a) hb
  generalize hq : low (a, b) = q at *
  dsimp only at e1 e2
  generalize sg a b = s at *
  have h1 : a ^ k = q.1 ^ k * s ^ k := by rw [← Int.mul_pow, ← e1]
  have h2 : b ^ k = q.2 ^ k * s ^ k := by rw [← Int.mul_pow, ← e2]
  have hq2 : q.2 ≠ 0 := by have := hc.1; omega
  rw [h1, h2, low_mul (by exact Int.pow_ne_zero hq2) (Int.pow_ne_zero hs)]
  exact low_self (cop_pow hc k)
theorem cop_neg {p : Int × Int} (h : Cop p) : Cop (-p.1, p.2) := ⟨h.1, by show Int.gcd (-p.1) p.2 = 1; rw [Int.neg_gcd]; exact h.2⟩
theorem cop_abs {p : Int × Int} (h : Cop p) : Cop ((p.1.natAbs : Int), p.2) := ⟨h.1, by show Nat.gcd (p.1.natAbs : Int).natAbs p.2.natAbs = 1; rw [Int.natAbs_natCast]; exact h.2⟩
theorem cop_int (w : Int) : Cop (w, 1) := ⟨Int.one_pos, by show Int.gcd w 1 = 1; simp⟩
theorem le_mul {x q s : Int} (h : x = q * s) (hs : s ≠ 0) : q.natAbs ≤ x.natAbs := by
  rw [h, Int.natAbs_mul]
  exact Nat.le_mul_of_pos_right _ (by omega)
theorem low_sz {n : Nat} {p : Int × Int} (h : p.2 ≠ 0) (z : Sz n p) : Sz n (low p) := by
  obtain ⟨e1, e2⟩ := low_eq p
  have hs := sg_ne (a := p.1) h
  exact ⟨Nat.lt_of_le_of_lt (le_mul e1 hs) z.1, Nat.lt_of_le_of_lt (le_mul e2 hs) z.2⟩
theorem sz_mul {a b : Int} {m n : Nat} (h1 : a.natAbs < 2 ^ m) (h2 : b.natAbs < 2 ^ n) : (a * b).natAbs < 2 ^ (m + n) := by
  rw [Int.natAbs_mul, Nat.pow_add]
  exact Nat.mul_lt_mul'' h1 h2
theorem sz_add {a b : Int} {n : Nat} (h1 : a.natAbs < 2 ^ n) (h2 : b.natAbs < 2 ^ n) : (a + b).natAbs < 2 ^ (n + 1) := by
  have := Int.natAbs_add_le a b
  rw [Nat.pow_succ]
  omega
theorem sz_pow {a : Int} {n : Nat} (h : a.natAbs < 2 ^ n) (k : Nat) (hk : 0 < k) : (a ^ k).natAbs < 2 ^ (n * k) := by
  rw [Int.natAbs_pow, Nat.pow_mul]
  exact Nat.pow_lt_pow_left h (by omega)
theorem sz_le {x m n : Nat} (h : x < 2 ^ m) (hmn : m ≤ n) : x < 2 ^ n := Nat.lt_of_lt_of_le h (Nat.pow_le_pow_right (by decide) hmn)
theorem Sz.mono {m n : Nat} {p : Int × Int} (h : Sz m p) (hmn : m ≤ n) : Sz n p := ⟨sz_le h.1 hmn, sz_le h.2 hmn⟩
/-- the sign of a whole number -/
def sgn (n : Int) : Int := (if decide (0 < n) then 1 else 0) - (if decide (n < 0) then 1 else 0)
theorem sgn_neg (n : Int) : sgn (-n) = -sgn n := by
  unfold sgn
  rcases Int.lt_trichotomy n 0 with h | h | h
  · have h1 : 0 < -n := by omega
    have h2 : ¬ 0 < n := by omega
    have h3 : ¬ -n < 0 := by omega
    simp [h, h1, h2, h3]
  · subst h; simp
  · have h1 : -n < 0 := by omega
    have h2 : ¬ n < 0 := by omega
    have h3 : ¬ 0 < -n := by omega
    simp [h, h1, h2, h3]
end My
set_option Elab.async false
set_option linter.all false
set_option maxRecDepth 100000
set_option maxHeartbeats 1000000
/-! Q1: fractions in lowest terms are rational numbers; common denominators; polynomials as lists of rational numbers. -/
namespace My
/-- a rational number as the program and the law hold it -/
def fr (r : Rat) : Int × Int := (r.num, (r.den : Int))
theorem den_ne (r : Rat) : (r.den : Int) ≠ 0 := by have := r.den_pos; omega
theorem fr_cop (r : Rat) : Cop (fr r) := ⟨by show (0 : Int) < r.den; have := r.den_pos; omega, by show Nat.gcd r.num.natAbs (r.den : Int).natAbs = 1; exact r.reduced⟩
theorem low_fr {a b : Int} (hb : b ≠ 0) : low (a, b) = fr (Rat.divInt a b) := by
  refine low_uniq (fr_cop _) hb ?_
  have h : Rat.divInt a b = Rat.divInt (Rat.divInt a b).num (Rat.divInt a b).den := (Rat.num_divInt_den _).symm
  exact (Rat.divInt_eq_divInt_iff hb (den_ne _)).mp h
theorem den_mul_ne (x y : Rat) : (x.den : Int) * (y.den : Int) ≠ 0 := Int.mul_ne_zero (den_ne x) (den_ne y)
theorem low_add (x y : Rat) : low (x.num * y.den + y.num * x.den, (x.den : Int) * y.den) = fr (x + y) := by
  rw [low_fr (den_mul_ne x y), Rat.add_def', ← Rat.divInt_ofNat, Int.natCast_mul]
theorem low_mulR (x y : Rat) : low (x.num * y.num, (x.den : Int) * y.den) = fr (x * y) := by
  rw [low_fr (den_mul_ne x y), Rat.mul_def', ← Rat.divInt_ofNat, Int.natCast_mul]
theorem low_negR (x : Rat) : low (-x.num, (x.den : Int)) = fr (-x) := low_self (fr_cop (-x))
theorem fr_neg (x : Rat) : fr (-x) = (-x.num, (x.den : Int)) := rfl
theorem low_fr1 (x : Rat) : low (x.num, (x.den : Int)) = fr x := low_self (fr_cop x)
theorem low_int (i : Int) : low (i, 1) = fr (i : Rat) := low_self (cop_int i)
theorem fr_int (i : Int) : fr (i : Rat) = (i, 1) := rfl
theorem low_inv {x : Rat} (h : x.num ≠ 0) : low ((x.den : Int), x.num) = fr x⁻¹ := by rw [low_fr h, Rat.inv_def]
theorem low_divR {a b : Int} (hb : b ≠ 0) : low (a, b) = fr ((a : Rat) / (b : Rat)) := by rw [low_fr hb, Rat.divInt_eq_div]
theorem num_zero {r : Rat} : r.num = 0 ↔ r = 0 := Rat.num_eq_zero
theorem fr_inj {x y : Rat} (h : fr x = fr y) : x = y := by
  obtain ⟨h1, h2⟩ := Prod.mk.inj h
  exact Rat.ext h1 (by omega)
/-! ### common denominators -/
/-- D is a denominator of r, of a top of at most N -/
def Fit (D N : Nat) (r : Rat) : Prop := 0 < D ∧ ∃ a : Int, r * (D : Rat) = (a : Rat) ∧ a.natAbs ≤ N
theorem Fit.pos {D N : Nat} {r : Rat} (h : Fit D N r) : 0 < D := h.1
theorem cast_ne {D : Nat} (h : 0 < D) : (D : Rat) ≠ 0 := fun z => by
  have : D = 0 := Rat.natCast_eq_zero_iff.mp z
  omega
theorem Fit.core {D N : Nat} {r : Rat} (h : Fit D N r) : ∃ k : Nat, 0 < k ∧ D = r.den * k ∧ (r.num * k).natAbs ≤ N := by
  obtain ⟨hD, a, e, hN⟩ := h
  have e2 : r.num * (D : Int) = a * (r.den : Int) := by
    have e3 : r = Rat.divInt a (D : Int) := by
      rw [Rat.divInt_eq_div, Rat.intCast_natCast, ← e, Rat.mul_div_cancel (cast_ne hD)]
    have e4 : Rat.divInt r.num r.den = Rat.divInt a (D : Int) := (Rat.num_divInt_den r).trans e3
    exact (Rat.divInt_eq_divInt_iff (den_ne r) (by omega)).mp e4
  have hd : r.den ∣ D := by
    have h1 : (r.den : Int) ∣ r.num * (D : Int) := ⟨a, by rw [e2, Int.mul_comm]⟩
    have h2 : (r.den : Int) ∣ (D : Int) := dvd_of (a := (r.den : Int)) (b := r.num) (by show Nat.gcd (r.den : Int).natAbs r.num.natAbs = 1; rw [Nat.gcd_comm]; exact r.reduced) h1
    exact Int.natCast_dvd_natCast.mp h2
  obtain ⟨k, rfl⟩ := hd
  have hk : 0 < k := Nat.pos_of_ne_zero fun z => by subst z; simp at hD
  refine ⟨k, hk, rfl, ?_⟩
  have e5 : r.num * (k : Int) = a := by
    refine Int.eq_of_mul_eq_mul_right (den_ne r) ?_
    rw [← e2, Int.natCast_mul, Int.mul_assoc, Int.mul_comm (k : Int)]
  rw [e5]; exact hN
theorem Fit.den {D N : Nat} {r : Rat} (h : Fit D N r) : r.den ≤ D := by
  obtain ⟨k, hk, e, _⟩ := h.core
  rw [e]
  exact Nat.le_mul_of_pos_right _ hk
theorem Fit.num {D N : Nat} {r : Rat} (h : Fit D N r) : r.num.natAbs ≤ N := by
  obtain ⟨k, hk, _, e⟩ := h.core
  rw [Int.natAbs_mul] at e
  exact Nat.le_trans (Nat.le_mul_of_pos_right _ (by omega)) e
theorem Fit.mono {D N M : Nat} {r : Rat} (h : Fit D N r) (hN : N ≤ M) : Fit D M r := ⟨h.1, h.2.elim fun a z => ⟨a, z.1, Nat.le_trans z.2 hN⟩⟩
theorem Fit.add {D N M : Nat} {r s : Rat} (h : Fit D N r) (g : Fit D M s) : Fit D (N + M) (r + s) := by
  obtain ⟨hD, a, e, hN⟩ := h
  obtain ⟨_, b, f, hM⟩ := g
  refine ⟨hD, a + b, ?_, Nat.le_trans (Int.natAbs_add_le a b) (by omega)⟩
  rw [Rat.add_mul, e, f, Rat.intCast_add]
theorem Fit.neg {D N : Nat} {r : Rat} (h : Fit D N r) : Fit D N (-r) := by
  obtain ⟨hD, a, e, hN⟩ := h
  refine ⟨hD, -a, ?_, by rw [Int.natAbs_neg]; exact hN⟩
  rw [Rat.neg_mul, e, Rat.intCast_neg]
theorem Fit.sub {D N M : Nat} {r s : Rat} (h : Fit D N r) (g : Fit D M s) : Fit D (N + M) (r - s) := by
  rw [Rat.sub_eq_add_neg]
  exact h.add g.neg
theorem Fit.mul {D N E M : Nat} {r s : Rat} (h : Fit D N r) (g : Fit E M s) : Fit (D * E) (N * M) (r * s) := by
  obtain ⟨hD, a, e, hN⟩ := h
  obtain ⟨hE, b, f, hM⟩ := g
  refine ⟨Nat.mul_pos hD hE, a * b, ?_, by rw [Int.natAbs_mul]; exact Nat.mul_le_mul hN hM⟩
  rw [Rat.intCast_mul, ← e, ← f, Rat.natCast_mul]
  grind
theorem Fit.zero {D N : Nat} (h : 0 < D) : Fit D N 0 := ⟨h, 0, by rw [Rat.zero_mul]; rfl, Nat.zero_le _⟩
theorem Fit.int {N : Nat} {i : Int} (h : i.natAbs ≤ N) : Fit 1 N (i : Rat) := ⟨by decide, i, by rw [show ((1 : Nat) : Rat) = 1 from rfl, Rat.mul_one], h⟩
theorem Fit.up {D N : Nat} {r : Rat} (h : Fit D N r) {E : Nat} (hE : 0 < E) : Fit (D * E) (N * E) r := by
  obtain ⟨hD, a, e, hN⟩ := h
  refine ⟨Nat.mul_pos hD hE, a * E, ?_, by rw [Int.natAbs_mul]; exact Nat.mul_le_mul hN (by simp)⟩
  rw [Rat.intCast_mul, ← e, Rat.natCast_mul, Rat.intCast_natCast]
  grind
theorem Fit.ups {D N E M : Nat} {r : Rat} (h : Fit D N r) (hD : D ∣ E) (h0 : 0 < E) (hN : N * (E / D) ≤ M) : Fit E M r := by
  obtain ⟨k, rfl⟩ := hD
  have hk : 0 < k := Nat.pos_of_ne_zero fun z => by subst z; simp at h0
  have := h.up hk
  rw [Nat.mul_div_cancel_left k h.1] at hN
  exact this.mono hN
theorem Fit.self (r : Rat) : Fit r.den r.num.natAbs r := ⟨r.den_pos, r.num, by
  have h := Rat.mkRat_self r
  rw [Rat.mkRat_eq_div] at h
  have := Rat.div_mul_cancel (a := (r.num : Rat)) (b := (r.den : Rat)) (cast_ne r.den_pos)
  rw [h] at this; exact this, Nat.le_refl _⟩
/-- not too long for the program's own numbers -/
def Okr (r : Rat) : Prop := r.num.natAbs < 2 ^ 4400 ∧ r.den < 2 ^ 4400
theorem Fit.ok {D N : Nat} {r : Rat} (h : Fit D N r) (hD : D < 2 ^ 4400) (hN : N < 2 ^ 4400) : Okr r := ⟨Nat.lt_of_le_of_lt h.num hN, Nat.lt_of_le_of_lt h.den hD⟩
theorem Okr.neg {r : Rat} (h : Okr r) : Okr (-r) := ⟨by show (-r.num).natAbs < _; rw [Int.natAbs_neg]; exact h.1, h.2⟩
theorem okr_int {i : Int} (h : i.natAbs < 2 ^ 4400) : Okr (i : Rat) := ⟨h, Nat.one_lt_two_pow (by decide)⟩
theorem okr_zero : Okr 0 := ⟨Nat.two_pow_pos _, Nat.one_lt_two_pow (by decide)⟩
/-! ### polynomials -/
def cf (p : List Rat) (n : Nat) : Rat := p.getD n 0
theorem cf_ge {p : List Rat} {n : Nat} (h : p.length ≤ n) : cf p n = 0 := by
  unfold cf
  rw [List.getD_eq_getElem?_getD, List.getElem?_eq_none h]; rfl
theorem cf_lt {p : List Rat} {n : Nat} (h : n < p.length) : p[n]? = some (cf p n) := by
  unfold cf
  rw [List.getD_eq_getElem?_getD, List.getElem?_eq_getElem h]; rfl
theorem cf_nil (n : Nat) : cf [] n = 0 := cf_ge (Nat.zero_le _)
theorem cf_append {p q : List Rat} {n : Nat} : cf (p ++ q) n = if n < p.length then cf p n else cf q (n - p.length) := by
  unfold cf
  rw [List.getD_eq_getElem?_getD, List.getElem?_append]
  split <;> simp [List.getD_eq_getElem?_getD]
theorem cf_map {f : Nat → Rat} {m n : Nat} : cf ((List.range m).map f) n = if n < m then f n else 0 := by
  unfold cf
  rw [List.getD_eq_getElem?_getD, List.getElem?_map]
  by_cases h : n < m
  · rw [List.getElem?_range h, if_pos h]; rfl
  · rw [List.getElem?_eq_none (by simpa using h), if_neg h]; rfl
theorem cf_take {p : List Rat} {m n : Nat} : cf (p.take m) n = if n < m then cf p n else 0 := by
  unfold cf
  rw [List.getD_eq_getElem?_getD, List.getElem?_take]
  split <;> simp [List.getD_eq_getElem?_getD]
theorem list_ext {p q : List Rat} (hl : p.length = q.length) (h : ∀ n, n < p.length → cf p n = cf q n) : p = q := by
  refine List.ext_getElem? fun n => ?_
  by_cases hn : n < p.length
  · rw [cf_lt hn, cf_lt (by omega), h n hn]
  · rw [List.getElem?_eq_none (by omega), List.getElem?_eq_none (by omega)]
def Trimmed (p : List Rat) : Prop := p = [] ∨ cf p (p.length - 1) ≠ 0
def trimTo (p : List Rat) : Nat → Nat
  | 0 => 0
  | m + 1 => if cf p m = 0 then trimTo p m else m + 1
/-- without the 0s behind -/
def trim (p : List Rat) : List Rat := p.take (trimTo p p.length)
theorem trimTo_le (p : List Rat) : ∀ m, trimTo p m ≤ m
  | 0 => Nat.le_refl _
  | m + 1 => by
    unfold trimTo
    split
    · exact Nat.le_succ_of_le (trimTo_le p m)
    · exact Nat.le_refl _
theorem trimTo_zero (p : List Rat) : ∀ m n, trimTo p m ≤ n → n < m → cf p n = 0
  | 0, n, _, h => by omega
  | m + 1, n, h1, h2 => by
    unfold trimTo at h1
    by_cases q : cf p m = 0
    · rw [if_pos q] at h1
      by_cases e : n = m
      · rw [e]; exact q
      · exact trimTo_zero p m n h1 (by omega)
    · rw [if_neg q] at h1
      omega
theorem trimTo_ne (p : List Rat) : ∀ m, trimTo p m = 0 ∨ cf p (trimTo p m - 1) ≠ 0
  | 0 => .inl rfl
  | m + 1 => by
    unfold trimTo
    by_cases q : cf p m = 0
    · rw [if_pos q]; exact trimTo_ne p m
    · rw [if_neg q]; exact .inr q
theorem trim_len (p : List Rat) : (trim p).length = trimTo p p.length := by
  unfold trim
  rw [List.length_take, Nat.min_eq_left (trimTo_le p _)]
theorem cf_trim (p : List Rat) (n : Nat) : cf (trim p) n = cf p n := by
  unfold trim
  rw [cf_take]
  by_cases h : n < trimTo p p.length
  · rw [if_pos h]
  · rw [if_neg h]
    by_cases h2 : n < p.length
    · exact (trimTo_zero p _ n (by omega) h2).symm
    · exact (cf_ge (by omega)).symm
theorem trimmed_trim (p : List Rat) : Trimmed (trim p) := by
  rcases trimTo_ne p p.length with h | h
  · left
    unfold trim
    rw [h]; rfl
  · right
    rw [trim_len, cf_trim]; exact h
theorem Trimmed.len_le {p q : List Rat} (hp : Trimmed p) (h : ∀ n, cf p n = cf q n) : p.length ≤ q.length := by
  rcases Nat.lt_or_ge q.length p.length with hl | hl
  · exfalso
    rcases hp with hp | hp
    · subst hp; simp at hl
    · rw [h, cf_ge (by omega)] at hp
      exact hp rfl
  · exact hl
theorem Trimmed.eq {p q : List Rat} (hp : Trimmed p) (hq : Trimmed q) (h : ∀ n, cf p n = cf q n) : p = q :=
  list_ext (Nat.le_antisymm (hp.len_le h) (hq.len_le fun n => (h n).symm)) fun n _ => h n
theorem trim_eq {p q : List Rat} (hq : Trimmed q) (h : ∀ n, cf p n = cf q n) : trim p = q := (trimmed_trim p).eq hq fun n => (cf_trim p n).trans (h n)
theorem trim_self {p : List Rat} (hp : Trimmed p) : trim p = p := trim_eq hp fun _ => rfl
theorem trim_le (p : List Rat) : (trim p).length ≤ p.length := by rw [trim_len]; exact trimTo_le p _
theorem trimmed_nil : Trimmed [] := .inl rfl
/-- one turn of the loop that drops the 0s behind -/
theorem trim_take {p : List Rat} {m : Nat} (hm : m < p.length) (h : cf p m = 0) : trim (p.take (m + 1)) = trim (p.take m) :=
  trim_eq (trimmed_trim _) fun n => by
    rw [cf_trim, cf_take, cf_take]
    by_cases e : n < m
    · rw [if_pos e, if_pos (by omega)]
    · rw [if_neg e]
      split
      · rw [show n = m by omega]; exact h
      · rfl
theorem take_trimmed {p : List Rat} {m : Nat} (hm : m < p.length) (h : cf p m ≠ 0) : trim (p.take (m + 1)) = p.take (m + 1) :=
  trim_self (.inr (by
    rw [List.length_take, Nat.min_eq_left (by omega), cf_take, if_pos (by omega)]; exact h))
/-- the part n of the product of f, told up to m, by g -/
def S (f g : Nat → Rat) : Nat → Nat → Rat
  | 0, _ => 0
  | m + 1, n => S f g m n + (if m ≤ n then f m * g (n - m) else 0)
theorem S_stable {f g : Nat → Rat} {m n : Nat} (h : ∀ i, m ≤ i → f i = 0) : ∀ k, S f g (m + k) n = S f g m n
  | 0 => rfl
  | k + 1 => by
    show S f g (m + k) n + (if m + k ≤ n then f (m + k) * g (n - (m + k)) else 0) = _
    rw [S_stable h k, h (m + k) (by omega), Rat.zero_mul]
    simp [Rat.add_zero]
theorem S_far {f g : Nat → Rat} {k n : Nat} (hg : ∀ j, k ≤ j → g j = 0) : ∀ m, m + k ≤ n + 1 → S f g m n = 0
  | 0, _ => rfl
  | m + 1, h => by
    show S f g m n + _ = 0
    rw [S_far hg m (by omega), hg (n - m) (by omega), Rat.mul_zero]
    simp [Rat.add_zero]
theorem S_fit {f g : Nat → Rat} {D N E M n : Nat} (hf : ∀ i, Fit D N (f i)) (hg : ∀ j, Fit E M (g j)) : ∀ m, Fit (D * E) (m * (N * M)) (S f g m n)
  | 0 => by
    rw [Nat.zero_mul]
    exact Fit.zero (Nat.mul_pos (hf 0).1 (hg 0).1)
  | m + 1 => by
    rw [Nat.succ_mul]
    refine (S_fit hf hg m).add ?_
    split
    · exact (hf m).mul (hg _)
    · exact Fit.zero (Nat.mul_pos (hf 0).1 (hg 0).1)
theorem S_congr {f f' g g' : Nat → Rat} (hf : ∀ i, f i = f' i) (hg : ∀ i, g i = g' i) : ∀ m n, S f g m n = S f' g' m n
  | 0, _ => rfl
  | m + 1, n => by
    show S f g m n + _ = S f' g' m n + _
    rw [S_congr hf hg m n, hf, hg]
end My
set_option Elab.async false
set_option linter.all false
set_option maxRecDepth 100000
set_option maxHeartbeats 4000000
namespace My
open PySem PySem.Spec PyProof.Rows L2 VL NdefX
def cfL (T : Addr) : Cfg := ⟨"begun", "left", [(T, "_law_refusals_right.<locals>.<lambda>")]⟩
theorem penN {G H : Hp} {pn : Pn} {Ev : ExD → Pn → Prop} {T : Addr} : PenN (bodyCv (cfL T) G H pn Ev) := by
  have h1 : ("begun" : Str) ≠ "cells" := by decide
  have h2 : ("left" : Str) ≠ "cells" := by decide
  have h3 : ("left" : Str) ≠ "begun" := by decide
  exact ⟨h1, h2, h3⟩
theorem penNb {G H : Hp} {pn : Pn} {Ev : ExD → Pn → Prop} {T : Addr} {pn' : Pn} {G' H' : Hp} : PenN (blkCv (bodyCv (cfL T) G H pn Ev) G' H' pn') := by
  have h1 : ("begun" : Str) ≠ "cells" := by decide
  have h2 : ("left" : Str) ≠ "cells" := by decide
  have h3 : ("left" : Str) ≠ "begun" := by decide
  exact ⟨h1, h2, h3⟩
theorem tb_mem0 {T : Addr} : (T, ("_law_refusals_right.<locals>.<lambda>" : Str)) ∈ (cfL T).tb := List.mem_of_getElem? (i := 0) rfl
/-- which tables are apart -/
def TT (T : Addr) : Prop := True
theorem tb_one0 {T : Addr} (h : TT T) : ∀ p ∈ (cfL T).tb, p.1 = T → p.2 = ("_law_refusals_right.<locals>.<lambda>" : Str) := fun p hp e => by
  simp only [cfL, List.mem_cons, List.not_mem_nil, or_false] at hp
  unfold TT at h
  rcases hp with rfl
  all_goals first | rfl | (exfalso; revert e; simp_all) | (exfalso; have := h; simp_all)
/-! ### values -/
def rat (p : Int × Int) : D := .ins "Ratio" ["top", "bottom"] [.int p.1, .int p.2]
def tp (p : Int × Int) : D := .tup [.int p.1, .int p.2]
/-- a rational number, as the program, as the law holds it; a polynomial -/
abbrev rq (r : Rat) : D := rat (fr r)
abbrev tq (r : Rat) : D := tp (fr r)
def polyD (ps : List D) : D := .ins "Poly" ["parts"] [.tup ps]
abbrev poly (ps : List Rat) : D := polyD (ps.map rq)
abbrev tqs (ps : List Rat) : D := .lst (ps.map tq)
abbrev ksRatio : List Str := ["top", "bottom"]
abbrev ksPoly : List Str := ["parts"]
def isI : D → Bool
  | .int _ => true
  | _ => false
def isC (c : Str) : D → Bool
  | .ins c' _ _ => decide (c' = c)
  | _ => false
def isRI (d : D) : Bool := isC "Ratio" d || isI d
def flds : List (Str × Str) := [("Ratio", "top"), ("Ratio", "bottom"), ("Poly", "parts")]
/-- the values that are asked of their classes -/
def Kd (d : D) : Prop := (∃ T, T ∈ tys ∧ tyD (core d) = some T) ∨ ∃ c, c ∈ cs ∧ ∃ ks ds, core d = .ins c ks ds
/-- what is known of the module -/
structure Fx (P : Program) (w : World) (K : PySem.W.Frag) (mg : Str → Option Value) (base : Heap) (T : Addr) : Prop where
  m_isinstance : mg "isinstance" = none
  m_int : mg "int" = none
  m_bool : mg "bool" = none
  m_str : mg "str" = none
  m_list : mg "list" = none
  m_tuple : mg "tuple" = none
  m_dict : mg "dict" = none
  m_len : mg "len" = none
  m_abs : mg "abs" = none
  m_min : mg "min" = none
  m_max : mg "max" = none
  m_range : mg "range" = none
  m_all : mg "all" = none
  m_any : mg "any" = none
  m_sum : mg "sum" = none
  m_zip : mg "zip" = none
  m_enumerate : mg "enumerate" = none
  m_reversed : mg "reversed" = none
  m_sorted : mg "sorted" = none
  m_set : mg "set" = none
  cf : ∀ c f, (c, f) ∈ flds → ClsF K mg c f
  cls : ∀ c, c ∈ cs → ∃ C, mg c = some (.ref C) ∧ InsC K C ∧ (∀ T, T ∈ tys → PySem.W.kitOne K (.type T) (.ref C) = some false) ∧ (∀ U, U ∈ us → PySem.W.kitOne K (.ref C) (.type U) = some false) ∧ ∀ tp, tp ∈ tups → PySem.W.kitAny K (.ref C) (tp.map Value.type) = some false
  cc : ∀ c, c ∈ cs → ∀ c', c' ∈ cs → ∀ C C', mg c = some (.ref C) → mg c' = some (.ref C') → PySem.W.kitOne K (.ref C) (.ref C') = some (decide (c = c'))
  kit : ∀ T, T ∈ tys → ∀ U, U ∈ us → PySem.W.kitOne K (.type T) (.type U) = some (decide (T = U) || (decide (T = "bool") && decide (U = "int")))
  kitA : ∀ T, T ∈ tys → ∀ tp, tp ∈ tups → PySem.W.kitAny K (.type T) (tp.map Value.type) = some (decide (T ∈ tp))
  opl : ∀ c, c ∈ cs → ∀ op, op ∈ ops → ∀ T, T ∈ tys → OpT K mg c op T
  opr : ∀ c, c ∈ cs → ∀ op, op ∈ ops → ∀ T, T ∈ tys → OpTR K mg c op T
  self : ∀ c, c ∈ cs → SelfF K mg c
  eqt : ∀ c, c ∈ cs → ∀ T, T ∈ tys → ∀ C, mg c = some (.ref C) → PySem.W.subIn K (.type T) (.ref C) = some false
  eqi : ∀ c, c ∈ cs → ∀ C, mg c = some (.ref C) → PySem.W.subIn K (.ref C) (.type "int") = some false
  bv : VEx P w K mg base 1 "BadValue" ["value"] ["self", "value"] initBV
  xf : XfF K mg "BadValue" "value"
  nd : VEx0 K mg "NoDivisor"
  exm : ∃ B N, mg "BadValue" = some (.ref B) ∧ mg "NoDivisor" = some (.ref N) ∧ PySem.W.exmOne K (.ref B) (.ref B) = some true ∧ PySem.W.exmOne K (.ref N) (.ref B) = some false ∧ PySem.W.exmOne K (.ref N) (.ref N) = some true
  tt : TT T
section
variable {P : Program} {w : World} {K : PySem.W.Frag} {mg : Str → Option Value} {base : Heap} {T : Addr}
theorem Fx.has (Z : Fx P w K mg base T) {c : Str} (h : c ∈ cs) : ∃ C, mg c = some (.ref C) := let ⟨C, h, _⟩ := Z.cls c h; ⟨C, h⟩
theorem insF_kd (Z : Fx P w K mg base T) {d : D} (h : Kd d) : InsF K mg (core d) := by
  rcases h with ⟨U, _, h⟩ | ⟨c, hc, ks, ds, h⟩
  · cases e : core d <;> first | trivial | (rw [e] at h; cases h)
  · rw [h]
    intro C hC
    obtain ⟨C', hC', q, _⟩ := Z.cls c hc
    rw [hC] at hC'
    cases hC'
    exact q
theorem tyV_kd (Z : Fx P w K mg base T) {d : D} (h : Kd d) : ∃ t, TyV mg (core d) t := by
  rcases h with ⟨U, _, h⟩ | ⟨c, hc, ks, ds, h⟩
  · exact ⟨_, .inl ⟨U, h, rfl⟩⟩
  · obtain ⟨C, hC, _⟩ := Z.cls c hc
    rw [h]
    exact ⟨_, .inr ⟨c, _, _, .inl rfl, hC⟩⟩
theorem tyV_t {d : D} {U : String} {t : Value} (h : tyD (core d) = some U) (ht : TyV mg (core d) t) : t = .type U := by
  rcases ht with ⟨T, h1, rfl⟩ | ⟨cn, ks, ds, h1, h2⟩
  · rw [h] at h1; cases h1; rfl
  · rcases h1 with h1 | h1 <;> (rw [h1] at h; cases h)
theorem tyV_r {d : D} {c : Str} {ks : List Str} {ds : List D} {C : Addr} {t : Value} (hC : mg c = some (.ref C)) (h : core d = .ins c ks ds) (ht : TyV mg (core d) t) : t = .ref C := by
  rw [h] at ht
  rcases ht with ⟨T, h1, rfl⟩ | ⟨cn, ks, ds, h1, h2⟩
  · cases h1
  · rcases h1 with h1 | h1
    · cases h1
      rw [hC] at h2
      cases h2; rfl
    · cases h1
/-- isinstance of a built-in type, by the value's kind -/
def isU (U : String) (d : D) : Bool := match tyD d with
  | some T => decide (T = U) || (decide (T = "bool") && decide (U = "int"))
  | none => false
theorem isA_ty (Z : Fx P w K mg base T) {d : D} (h : Kd d) {U : String} (hU : U ∈ us) : IsA K mg (core d) (.ty U) (isU U (core d)) := by
  refine ⟨tyV_kd Z h, ⟨_, .inl ⟨U, rfl, rfl⟩⟩, insF_kd Z h, fun t u ht hu => ?_⟩
  have eu : u = .type U := by
    rcases hu with ⟨T, h1, rfl⟩ | ⟨x, C, h1, _⟩
    · cases h1; rfl
    · cases h1
  subst eu
  rcases h with ⟨V, hV, h⟩ | ⟨c, hc, ks, ds, h⟩
  · rw [tyV_t h ht, Z.kit V hV U hU]
    unfold isU
    rw [h]
  · obtain ⟨C, hC, _, _, q, _⟩ := Z.cls c hc
    rw [tyV_r hC h ht, q U hU]
    unfold isU
    rw [h]; rfl
theorem isA_C (Z : Fx P w K mg base T) {d : D} (h : Kd d) {c : Str} (hc : c ∈ cs) : IsA K mg (core d) (.cref c) (isC c (core d)) := by
  obtain ⟨C, hC, _, q2, _⟩ := Z.cls c hc
  refine ⟨tyV_kd Z h, ⟨_, .inr ⟨c, C, rfl, rfl, hC⟩⟩, insF_kd Z h, fun t u ht hu => ?_⟩
  have eu : u = .ref C := by
    rcases hu with ⟨T, h1, rfl⟩ | ⟨x, C', h1, rfl, h2⟩
    · cases h1
    · cases h1; rw [hC] at h2; cases h2; rfl
  subst eu
  rcases h with ⟨V, hV, h⟩ | ⟨c', hc', ks, ds, h⟩
  · rw [tyV_t h ht, q2 V hV]
    cases e : core d <;> first | rfl | (rw [e] at h; cases h)
  · obtain ⟨C', hC', _⟩ := Z.cls c' hc'
    rw [tyV_r hC' h ht, Z.cc c' hc' c hc C' C hC' hC, h]; rfl
def inT (tp : List String) (d : D) : Bool := match tyD d with
  | some T => decide (T ∈ tp)
  | none => false
theorem kitA_kd (Z : Fx P w K mg base T) {d : D} (h : Kd d) {tp : List String} (htp : tp ∈ tups) : ∃ t, TyV mg (core d) t ∧ PySem.W.kitAny K t (tp.map Value.type) = some (inT tp (core d)) := by
  obtain ⟨t, ht⟩ := tyV_kd Z h
  refine ⟨t, ht, ?_⟩
  unfold inT
  rcases h with ⟨V, hV, h⟩ | ⟨c, hc, ks, ds, h⟩
  · rw [tyV_t h ht, h]
    exact Z.kitA V hV tp htp
  · obtain ⟨C, hC, _, _, _, q⟩ := Z.cls c hc
    rw [tyV_r hC h ht, h]
    exact q tp htp
end
theorem kd_int (i : Int) : Kd (.int i) := .inl ⟨"int", by decide, rfl⟩
theorem kd_ins {c : Str} {ks : List Str} {ds : List D} (h : c ∈ cs) : Kd (.ins c ks ds) := .inr ⟨c, h, ks, ds, rfl⟩
theorem kd_rat (p : Int × Int) : Kd (rat p) := kd_ins (by decide)
theorem kd_tup (ds : List D) : Kd (.tup ds) := .inl ⟨"tuple", by decide, rfl⟩
theorem kd_lst (ds : List D) : Kd (.lst ds) := .inl ⟨"list", by decide, rfl⟩
end My
set_option Elab.async false
set_option linter.all false
set_option maxRecDepth 100000
set_option maxHeartbeats 4000000
namespace My
open PySem PySem.Spec PyProof.Rows L2 VL NdefX
/-- the error that keeps d; the one of no divisor -/
def bv (d : D) : ExD := ⟨"BadValue", ["value"], [d]⟩
abbrev nd : ExD := ⟨"NoDivisor", [], []⟩
theorem exbBV : ExB initBV ["self", "value"] 1 [] [0] := fun F doc pm ctv a us ws hp hu hw => by
  obtain ⟨u, rfl⟩ := List.length_eq_one_iff.mp hu
  obtain rfl := List.length_eq_zero_iff.mp hw
  cases F
  dsimp only at hp
  subst hp
  rfl
theorem isI_eq (d : D) : isI d = (isU "int" d && !isU "bool" d) := by cases d <;> rfl
theorem isI_int {d : D} (h : isI d = true) : ∃ i, d = .int i := by cases d <;> first | exact ⟨_, rfl⟩ | cases h
theorem nf {b : Bool} (h : (!b) = false) : b = true := by cases b <;> simp_all
theorem nt {b : Bool} (h : (!b) = true) : b = false := by cases b <;> simp_all
theorem ri_no {d : D} (h : isRI d = false) : isC "Ratio" d = false ∧ isI d = false := by
  unfold isRI at h
  cases e : isC "Ratio" d <;> simp_all
def isIns : D → Bool
  | .ins _ _ _ => true
  | _ => false
abbrev tup5 : List String := ["bool", "str", "list", "tuple", "dict"]
theorem odd_five {d : D} (hd : Kd d) (h : isRI (core d) = false) (hi : isIns (core d) = false) (hn : core d ≠ .non) : inT tup5 (core d) = true := by
  obtain ⟨h1, h2⟩ := ri_no h
  rcases hd with ⟨T, hT, e⟩ | ⟨c, hc, ks, ds, e⟩
  · cases q : core d <;> rw [q] at h1 h2 e hn hi <;> first | (cases h1; done) | (cases h2; done) | (cases e; done) | exact absurd rfl hn | rfl
  · rw [e] at hi; cases hi
/-- the value as a rational number: a Ratio or an integer -/
def Rv (d : D) (y : Rat) : Prop := d = rq y ∨ ∃ i : Int, d = .int i ∧ y = (i : Rat)
theorem rv_rq (y : Rat) : Rv (core (rq y)) y := .inl rfl
theorem rv_int (i : Int) : Rv (core (.int i)) (i : Rat) := .inr ⟨i, rfl, rfl⟩
theorem rv_ri {d : D} {y : Rat} (h : Rv d y) : isRI d = true := by
  rcases h with rfl | ⟨i, rfl, _⟩ <;> rfl
theorem kd_rq (y : Rat) : Kd (rq y) := kd_rat _
def Rop (d : D) (k : Rat → Prop) (e : Prop) : Prop := Kd d ∧ ((∃ y, Rv (core d) y ∧ k y) ∨ (isRI (core d) = false ∧ isIns (core d) = false ∧ e))
theorem Rop.mono {d : D} {k k' : Rat → Prop} {e e' : Prop} (h : Rop d k e) (hk : ∀ y, k y → k' y) (he : e → e') : Rop d k' e' := ⟨h.1, h.2.imp (fun ⟨y, a, b⟩ => ⟨y, a, hk y b⟩) fun z => ⟨z.1, z.2.1, he z.2.2⟩⟩
theorem rop_rq {y : Rat} {k : Rat → Prop} {e : Prop} (q : k y) : Rop (rq y) k e := ⟨kd_rq y, .inl ⟨y, rv_rq y, q⟩⟩
theorem rop_int {i : Int} {k : Rat → Prop} {e : Prop} (q : k (i : Rat)) : Rop (.int i) k e := ⟨kd_int i, .inl ⟨_, rv_int i, q⟩⟩
def ctIsI : Ct where
  run ds pn k e := ∃ d, ds = [d] ∧ Kd d ∧ k (.bl (isI (core d))) pn
  mono := fun ⟨d, h1, h2, q⟩ hk he => ⟨d, h1, h2, hk _ _ q⟩
def ctIsR : Ct where
  run ds pn k e := ∃ d, ds = [d] ∧ Kd d ∧ k (.bl (isRI (core d))) pn
  mono := fun ⟨d, h1, h2, q⟩ hk he => ⟨d, h1, h2, hk _ _ q⟩
/-- a look at a value: fine, or the error that keeps it -/
def ctNeed (ok : D → Bool) : Ct where
  run ds pn k e := ∃ d, ds = [d] ∧ Kd d ∧ ((ok (core d) = true ∧ k .non pn) ∨ (ok (core d) = false ∧ e (bv d) pn))
  mono := fun ⟨d, h1, h2, q⟩ hk he => ⟨d, h1, h2, q.imp (fun z => ⟨z.1, hk _ _ z.2⟩) fun z => ⟨z.1, he _ _ z.2⟩⟩
def ctGcd : Ct where
  run ds pn k e := ∃ a b : Int, ds = [.int a, .int b] ∧ k (.int (Int.gcd a b)) pn
  mono := fun ⟨a, b, h, q⟩ hk he => ⟨a, b, h, hk _ _ q⟩
def ctInit : Ct where
  run ds pn k e := ∃ x y, ds = [x, y] ∧ Kd x ∧ Kd y ∧ ((isI (core x) = false ∧ e (bv x) pn) ∨ ∃ a, core x = .int a ∧ ((isI (core y) = false ∧ e (bv y) pn) ∨ ∃ b, core y = .int b ∧ ((b = 0 ∧ e nd pn) ∨ (b ≠ 0 ∧ b.natAbs < 2 ^ 9000 ∧ k (rq (Rat.divInt a b)) pn))))
  mono := fun ⟨x, y, h1, h2, h3, q⟩ hk he => ⟨x, y, h1, h2, h3, q.imp (fun z => ⟨z.1, he _ _ z.2⟩) fun ⟨a, h4, z⟩ => ⟨a, h4, z.imp (fun z => ⟨z.1, he _ _ z.2⟩) fun ⟨b, h5, z⟩ => ⟨b, h5, z.imp (fun z => ⟨z.1, he _ _ z.2⟩) fun z => ⟨z.1, z.2.1, hk _ _ z.2.2⟩⟩⟩⟩
theorem mk_int {a b : Int} {r : Rat} {pn : Pn} {k : D → Pn → Prop} {e : ExD → Pn → Prop} (h1 : b ≠ 0) (h2 : b.natAbs < 2 ^ 9000) (h3 : Rat.divInt a b = r) (q : k (rq r) pn) : ctInit.run [.int a, .int b] pn k e :=
  ⟨_, _, rfl, kd_int _, kd_int _, .inr ⟨a, rfl, .inr ⟨b, rfl, .inr ⟨h1, h2, by rw [h3]; exact q⟩⟩⟩⟩
theorem div_self (x : Rat) : Rat.divInt x.num x.den = x := Rat.num_divInt_den x
theorem div_one (i : Int) : Rat.divInt i 1 = (i : Rat) := div_self (i : Rat)
theorem div_neg (x : Rat) : Rat.divInt (-x.num) x.den = -x := by rw [← Rat.neg_divInt, div_self]
theorem div_add (x y : Rat) : Rat.divInt (x.num * y.den + y.num * x.den) ((x.den : Int) * y.den) = x + y := by rw [Rat.add_def', ← Rat.divInt_ofNat, Int.natCast_mul]
theorem div_mul (x y : Rat) : Rat.divInt (x.num * y.num) ((x.den : Int) * y.den) = x * y := by rw [Rat.mul_def', ← Rat.divInt_ofNat, Int.natCast_mul]
theorem div_inv (x : Rat) : Rat.divInt x.den x.num = x⁻¹ := (Rat.inv_def x).symm
def ctRop : Ct where
  run ds pn k e := ∃ d, ds = [d] ∧ Rop d (fun y => k (rq y) pn) (e (bv d) pn)
  mono := fun ⟨d, h1, h2⟩ hk he => ⟨d, h1, h2.mono (fun y => hk _ _) (he _ _)⟩
def ctSum : Ct where
  run ds pn k e := ∃ x y, ds = [rq x, rq y] ∧ Okr x ∧ Okr y ∧ k (rq (x + y)) pn
  mono := fun ⟨x, y, h1, h2, h3, q⟩ hk he => ⟨x, y, h1, h2, h3, hk _ _ q⟩
def ctBin (f : Rat → Rat → Rat) : Ct where
  run ds pn k e := ∃ x d, ds = [rq x, d] ∧ Okr x ∧ Rop d (fun y => Okr y ∧ k (rq (f x y)) pn) (e (bv d) pn)
  mono := fun ⟨x, d, h1, h2, h3⟩ hk he => ⟨x, d, h1, h2, h3.mono (fun y z => ⟨z.1, hk _ _ z.2⟩) (he _ _)⟩
def ctUn (g : Rat → D) : Ct where
  run ds pn k e := ∃ x, ds = [rq x] ∧ Okr x ∧ k (g x) pn
  mono := fun ⟨x, h1, h2, q⟩ hk he => ⟨x, h1, h2, hk _ _ q⟩
def ctTurn : Ct where
  run ds pn k e := ∃ x, ds = [rq x] ∧ Okr x ∧ x ≠ 0 ∧ k (rq x⁻¹) pn
  mono := fun ⟨x, h1, h2, h3, q⟩ hk he => ⟨x, h1, h2, h3, hk _ _ q⟩
def isEq (x : Rat) : D → Bool
  | .ins _ _ [.int a, .int b] => decide (x.num = a) && decide ((x.den : Int) = b)
  | _ => false
def ctEq : Ct where
  run ds pn k e := ∃ x d, ds = [rq x, d] ∧ Kd d ∧ (isC "Ratio" (core d) = true → ∃ y : Int × Int, core d = rat y) ∧ k (.bl (isC "Ratio" (core d) && isEq x (core d))) pn
  mono := fun ⟨x, d, h1, h2, h3, q⟩ hk he => ⟨x, d, h1, h2, h3, hk _ _ q⟩
theorem on1 {x : Rat} (h : Okr x) : x.num.natAbs < 2 ^ 9000 := sz_le h.1 (by decide)
theorem on2 {x : Rat} (h : Okr x) : ((x.den : Int)).natAbs < 2 ^ 9000 := by rw [Int.natAbs_natCast]; exact sz_le h.2 (by decide)
theorem bot_lt {x y : Rat} (hx : Okr x) (hy : Okr y) : ((x.den : Int) * (y.den : Int)).natAbs < 2 ^ 9000 := by
  refine sz_le (sz_mul (m := 4400) (n := 4400) ?_ ?_) (by decide) <;> rw [Int.natAbs_natCast]
  · exact hx.2
  · exact hy.2
theorem sgn_sg {a b : Int} : True := trivial
section
variable {P : Program} {w : World} {K : PySem.W.Frag} {mg : Str → Option Value} {base : Heap} {kws : List (Str × V)} {f : Addr} {fd : FuncData} {T : Addr}
abbrev s_is_integer : Stmt := top 6
theorem sc_is_integer : FnScope ["value"] ["value"] (defScope s_is_integer) := ⟨rfl, rfl, rfl, by decide +kernel, rfl, by decide +kernel, by decide +kernel⟩
theorem fn_is_integer (F : FunD K "is_integer" "is_integer" (defArgs s_is_integer) (defBody s_is_integer) (defScope s_is_integer) [] kws f fd) (Z : Fx P w K mg base T)  : FnOk P w K mg base (L2.CX P w) 1 f fd ["value"] (spV (cfL T) K mg ctIsI) := by
  refine fn_body F sc_is_integer (by decide) (fun ds pn k e ⟨d, h, _⟩ => by subst h; rfl) fun cdv A outer s H E G ds pn Qv Ev hr tk ⟨d, h, hd, q⟩ => ?_
  subst h
  rw [isI_eq] at q
  refine vss_one ?_
  refine vs_ret ?_
  refine ve_and ?_
  refine ve_isinst Z.m_isinstance ?_
  refine va_cons ?_
  refine ve_valC 0 rfl ?_
  refine va_cons ?_
  refine ve_ty (T := "int") ?_ Z.m_int (by decide +kernel)
  refine va_nil ?_
  refine ⟨_, _, _, rfl, isA_ty Z hd (by decide), ?_⟩
  refine ⟨_, rfl, fun hk => ?_, fun hk => ?_⟩
  · rw [hk, Bool.true_and] at q
    refine ve_one ?_
    refine ve_not ?_
    refine ve_isinst Z.m_isinstance ?_
    refine va_cons ?_
    refine ve_valC 0 rfl ?_
    refine va_cons ?_
    refine ve_ty (T := "bool") ?_ Z.m_bool (by decide +kernel)
    refine va_nil ?_
    refine ⟨_, _, _, rfl, isA_ty Z hd (by decide), ?_⟩
    refine ⟨_, rfl, ?_⟩
    cases pn <;> exact q
  · rw [hk, Bool.false_and] at q
    cases pn <;> exact q
abbrev s_need_integer : Stmt := top 8
theorem sc_need_integer : FnScope ["value"] ["value"] (defScope s_need_integer) := ⟨rfl, rfl, rfl, by decide +kernel, rfl, by decide +kernel, by decide +kernel⟩
theorem fn_need_integer (F : FunD K "need_integer" "need_integer" (defArgs s_need_integer) (defBody s_need_integer) (defScope s_need_integer) [] kws f fd) (Z : Fx P w K mg base T) (V_is_integer : VFn P w K mg base (cfL T) 1 "is_integer" [] ctIsI) : FnOk P w K mg base (L2.CX P w) 3 f fd ["value"] (spV (cfL T) K mg (ctNeed isI)) := by
  refine fn_body F sc_need_integer (by decide) (fun ds pn k e ⟨d, h, _⟩ => by subst h; rfl) fun cdv A outer s H E G ds pn Qv Ev hr tk ⟨d, h, hd, q⟩ => ?_
  subst h
  refine vss_one ?_
  refine vs_if ?_
  refine vt_not ?_
  refine vt_truth ?_
  refine ve_call (V_is_integer.mono (by decide)) hr tk ?_
  refine va_cons ?_
  refine ve_val 0 rfl ?_
  refine va_nil ?_
  refine ⟨d, rfl, hd, ?_⟩
  refine ⟨fun hk => ?_, fun hk => ?_⟩
  · have hk2 : isI (core d) = false := nt hk
    rcases q with q | q
    · rw [hk2] at q; cases q.1
    refine vss_one ?_
    refine vs_raise Z.bv exbBV (hr.mono (by decide)) tk rfl (by decide) ?_
    refine va_cons ?_
    refine ve_val 0 rfl ?_
    refine va_nil ⟨rfl, rfl, ?_⟩
    cases pn <;> exact q.2
  · have hk2 : isI (core d) = true := nf hk
    rcases q with q | q
    · refine vss_nil ?_
      cases pn <;> exact q.2
    · rw [hk2] at q; cases q.1
abbrev s_need_items : Stmt := top 10
theorem sc_need_items : FnScope ["value"] ["value"] (defScope s_need_items) := ⟨rfl, rfl, rfl, by decide +kernel, rfl, by decide +kernel, by decide +kernel⟩
theorem fn_need_items (F : FunD K "need_items" "need_items" (defArgs s_need_items) (defBody s_need_items) (defScope s_need_items) [] kws f fd) (Z : Fx P w K mg base T)  : FnOk P w K mg base (L2.CX P w) 3 f fd ["value"] (spV (cfL T) K mg (ctNeed (inT ["list", "tuple"]))) := by
  refine fn_body F sc_need_items (by decide) (fun ds pn k e ⟨d, h, _⟩ => by subst h; rfl) fun cdv A outer s H E G ds pn Qv Ev hr tk ⟨d, h, hd, q⟩ => ?_
  subst h
  obtain ⟨t, ht, hkt⟩ := kitA_kd Z hd (tp := ["list", "tuple"]) (by decide)
  refine vss_one ?_
  refine vs_if ?_
  refine vt_not ?_
  refine vt_truth ?_
  refine ve_isinstT Z.m_isinstance ?_
  refine va_cons ?_
  refine ve_valC 0 rfl ?_
  refine va_cons ?_
  refine ve_tup ?_
  refine va_cons ?_
  refine ve_ty (T := "list") ?_ Z.m_list (by decide +kernel)
  refine va_cons ?_
  refine ve_ty (T := "tuple") ?_ Z.m_tuple (by decide +kernel)
  refine va_nil ⟨by rw [sizeLine_eq]; simp, ?_⟩
  refine va_nil ?_
  refine ⟨_, ["list", "tuple"], t, _, rfl, ht, insF_kd Z hd, hkt, ?_⟩
  refine ⟨fun hk => ?_, fun hk => ?_⟩
  · have hk2 := nt hk
    rcases q with q | q
    · rw [hk2] at q; cases q.1
    refine vss_one ?_
    refine vs_raise Z.bv exbBV (hr.mono (by decide)) tk rfl (by decide) ?_
    refine va_cons ?_
    refine ve_val 0 rfl ?_
    refine va_nil ⟨rfl, rfl, ?_⟩
    cases pn <;> exact q.2
  · have hk2 := nf hk
    rcases q with q | q
    · refine vss_nil ?_
      cases pn <;> exact q.2
    · rw [hk2] at q; cases q.1
abbrev s_common_whole : Stmt := top 12
theorem sc_common_whole : FnScope ["one", "other"] ["one", "other"] (defScope s_common_whole) := ⟨rfl, rfl, rfl, by decide +kernel, rfl, by decide +kernel, by decide +kernel⟩
theorem fn_common_whole (F : FunD K "common_whole" "common_whole" (defArgs s_common_whole) (defBody s_common_whole) (defScope s_common_whole) [] kws f fd) (Z : Fx P w K mg base T)  : FnOk P w K mg base (L2.CX P w) 1 f fd ["one", "other"] (spV (cfL T) K mg ctGcd) := by
  refine fn_body F sc_common_whole (by decide) (fun ds pn k e ⟨a, b, h, _⟩ => by subst h; rfl) fun cdv A outer s H E G ds pn Qv Ev hr tk ⟨a, b, h, q⟩ => ?_
  subst h
  refine vss_cons ?_
  refine vs_par 0 1 ?_ rfl sc_common_whole.nd
  refine va_cons ?_
  refine ve_abs Z.m_abs ?_
  refine ve_val 0 rfl ?_
  refine ⟨_, rfl, ?_⟩
  refine va_cons ?_
  refine ve_abs Z.m_abs ?_
  refine ve_val 1 rfl ?_
  refine ⟨_, rfl, ?_⟩
  refine va_nil ⟨_, _, rfl, ?_⟩
  refine vss_cons ?_
  refine vs_while (passes_of rfl) (fun m S => ∃ x : Nat, S = ⟨[.val (.int x), .val (.int (m : Nat))], pn⟩ ∧ Int.gcd a b = Nat.gcd x m) b.natAbs ⟨a.natAbs, rfl, rfl⟩ ?_
  rintro y S ⟨x, rfl, hg⟩
  refine vt_cmp op_gt ?_ (nomark _)
  refine ve_val 1 rfl ?_
  refine ve_int ?_
  refine rb_gt ?_
  refine ⟨_, rfl, fun hk => ?_, fun hk => ?_⟩
  · have hy : 0 < y := by have := of_decide_eq_true hk; omega
    refine vss_one ?_
    refine vs_par 0 1 ?_ rfl sc_common_whole.nd
    refine va_cons ?_
    refine ve_val 1 rfl ?_
    refine va_cons ?_
    refine ve_bin op_mod ?_
    refine ve_val 0 rfl ?_
    refine ve_val 1 rfl ?_
    refine rb_mod (by show (0 : Int) < (y : Int); omega) ?_
    refine va_nil ⟨_, _, rfl, ?_⟩
    refine ⟨x % y, Nat.mod_lt _ hy, y, rfl, ?_⟩
    rw [hg, Nat.gcd_comm x y, Nat.gcd_rec y x, Nat.gcd_comm]
  · have hy : y = 0 := by have := of_decide_eq_false hk; omega
    subst hy
    refine vss_one ?_
    refine vs_ret ?_
    refine ve_val 0 rfl ?_
    have e : ((x : Nat) : Int) = ((Int.gcd a b : Nat) : Int) := by rw [hg, Nat.gcd_zero_right]
    show Qv (.int (x : Int)) (outPn pn pn)
    rw [e]
    cases pn <;> exact q
abbrev s_init_ratio : Stmt := metRatio 0
theorem sc_init_ratio : FnScope ["self", "top", "bottom", "factor"] ["self", "top", "bottom"] (defScope s_init_ratio) := ⟨rfl, rfl, rfl, by decide +kernel, rfl, by decide +kernel, by decide +kernel⟩
theorem fn_init_ratio {dvs : List V} (F : FunD K "__init__" "Ratio.__init__" (defArgs s_init_ratio) (defBody s_init_ratio) (defScope s_init_ratio) dvs kws f fd) (Z : Fx P w K mg base T) (V_need_integer : VFn P w K mg base (cfL T) 3 "need_integer" [] (ctNeed isI)) (V_common_whole : VFn P w K mg base (cfL T) 1 "common_whole" [] ctGcd) : FnOk P w K mg base (L2.CX P w) 4 f fd ["self", "top", "bottom"] (spI (cfL T) K mg "Ratio" ctInit) := by
  refine fn_init F sc_init_ratio (by decide) (fun ds pn k e ⟨x, y, h, _⟩ => by subst h; rfl) fun cdv A outer s H E G H0 o ds pn Qv Ev hr tk ⟨x, y, h, hx, hy, q⟩ => ?_
  subst h
  rcases q with ⟨h1, q⟩ | ⟨a, ea, ⟨h1, q⟩ | ⟨b, eb, q⟩⟩
  · refine vss_cons ?_
    refine vs_expr ?_
    refine ve_call (V_need_integer.mono (by decide)) hr tk ?_
    refine va_cons ?_
    refine ve_val 1 rfl ?_
    refine va_nil ?_
    refine ⟨_, rfl, hx, .inr ⟨h1, ?_⟩⟩
    cases pn <;> exact q
  · refine vss_cons ?_
    refine vs_expr ?_
    refine ve_call (V_need_integer.mono (by decide)) hr tk ?_
    refine va_cons ?_
    refine ve_val 1 rfl ?_
    refine va_nil ?_
    refine ⟨_, rfl, hx, .inl ⟨by rw [ea]; rfl, ?_⟩⟩
    refine vss_cons ?_
    refine vs_expr ?_
    refine ve_call (V_need_integer.mono (by decide)) hr tk ?_
    refine va_cons ?_
    refine ve_val 2 rfl ?_
    refine va_nil ?_
    refine ⟨_, rfl, hy, .inr ⟨h1, ?_⟩⟩
    cases pn <;> exact q
  · refine vss_cons ?_
    refine vs_expr ?_
    refine ve_call (V_need_integer.mono (by decide)) hr tk ?_
    refine va_cons ?_
    refine ve_val 1 rfl ?_
    refine va_nil ?_
    refine ⟨_, rfl, hx, .inl ⟨by rw [ea]; rfl, ?_⟩⟩
    refine vss_cons ?_
    refine vs_expr ?_
    refine ve_call (V_need_integer.mono (by decide)) hr tk ?_
    refine va_cons ?_
    refine ve_val 2 rfl ?_
    refine va_nil ?_
    refine ⟨_, rfl, hy, .inl ⟨by rw [eb]; rfl, ?_⟩⟩
    refine vss_cons ?_
    refine vs_if ?_
    refine vt_cmp (op_eqAll hr) ?_ (nomark _)
    refine ve_valE 2 rfl eb ?_
    refine ve_int ?_
    refine rb_eqAI ?_
    refine ⟨_, rfl, fun hk => ?_, fun hk => ?_⟩
    · have h0 := of_decide_eq_true hk
      rcases q with ⟨_, q⟩ | ⟨h2, _⟩
      rotate_left
      · exact absurd h0 h2
      refine vss_one ?_
      refine vs_raise0 Z.nd tk rfl ?_
      cases pn <;> exact q
    · refine vss_nil ?_
      have h0 : b ≠ 0 := of_decide_eq_false hk
      rcases q with ⟨h2, _⟩ | ⟨_, hz, q⟩
      · exact absurd h2 h0
      have ef : rat (low (a, b)) = rq (Rat.divInt a b) := by rw [low_fr h0]
      refine vss_cons ?_
      refine vs_set 3 ?_ ?nd
      case nd => exact sc_init_ratio.nd
      refine ve_call (V_common_whole.mono (by decide)) hr tk ?_
      refine va_cons ?_
      refine ve_valE 1 rfl ea ?_
      refine va_cons ?_
      refine ve_valE 2 rfl eb ?_
      refine va_nil ?_
      refine ⟨_, _, rfl, ?_⟩
      have done : VSs (bX P w K mg base ["self", "top", "bottom", "factor"] "Ratio.__init__" s_init_ratio f cdv A outer s H E) (bodyCv (cfL T) G H0 pn Ev) ⟨[.obj o "Ratio" [] [], .val x, .val y, .val (.int (sg a b))], pn⟩ ((defBody s_init_ratio).drop 5) { nx := fun S => ∃ ks es, S.ρ[0]? = some (.obj o "Ratio" ks es) ∧ Qv (.ins "Ratio" ks es) (outPn pn S.pn), rt := fun _ _ => False } := by
        refine vss_one ?_
        refine vs_asg ?_
        refine ve_tup ?_
        refine va_cons ?_
        refine ve_bin op_divN ?_
        refine ve_valE 1 rfl ea ?_
        refine ve_val 3 rfl ?_
        refine rb_divN (divB (sg_ne h0) (Nat.lt_of_le_of_lt (sg_le h0) hz)) ?_
        refine va_cons ?_
        refine ve_bin op_divN ?_
        refine ve_valE 2 rfl eb ?_
        refine ve_val 3 rfl ?_
        refine rb_divN (divB (sg_ne h0) (Nat.lt_of_le_of_lt (sg_le h0) hz)) ?_
        refine va_nil ⟨by rw [sizeLine_eq]; simp, ?_⟩
        refine vg_tup ?_ rfl
        refine vgs_cons (vg_self 0 rfl rfl (by simp) (by simp) (Z.cf _ _ (by decide)) ?_)
        refine vgs_cons (vg_self 0 rfl rfl (by decide) (by simp) (Z.cf _ _ (by decide)) ?_)
        refine vgs_nil ?_
        refine ⟨_, _, rfl, ?_⟩
        show Qv (rat (low (a, b))) _
        rw [ef]
        cases pn <;> exact q
      refine vss_cons ?_
      refine vs_if ?_
      refine vt_cmp op_lt ?_ (nomark _)
      refine ve_valE 2 rfl eb ?_
      refine ve_int ?_
      refine rb_lt ?_
      refine ⟨_, rfl, fun hk => ?_, fun hk => ?_⟩
      · have e : sg a b = -(Int.gcd a b : Int) := if_pos (of_decide_eq_true hk)
        rw [e] at done
        refine vss_one ?_
        refine vs_set 3 ?_ ?nd
        case nd => exact sc_init_ratio.nd
        refine ve_neg ?_
        refine ve_val 3 rfl ?_
        refine ⟨_, rfl, ?_⟩
        exact done
      · refine vss_nil ?_
        have e : sg a b = (Int.gcd a b : Int) := if_neg (of_decide_eq_false hk)
        rw [e] at done
        exact done
abbrev s_is_ratio : Stmt := top 16
theorem sc_is_ratio : FnScope ["value"] ["value"] (defScope s_is_ratio) := ⟨rfl, rfl, rfl, by decide +kernel, rfl, by decide +kernel, by decide +kernel⟩
theorem fn_is_ratio (F : FunD K "is_ratio" "is_ratio" (defArgs s_is_ratio) (defBody s_is_ratio) (defScope s_is_ratio) [] kws f fd) (Z : Fx P w K mg base T) (V_is_integer : VFn P w K mg base (cfL T) 1 "is_integer" [] ctIsI) : FnOk P w K mg base (L2.CX P w) 2 f fd ["value"] (spV (cfL T) K mg ctIsR) := by
  refine fn_body F sc_is_ratio (by decide) (fun ds pn k e ⟨d, h, _⟩ => by subst h; rfl) fun cdv A outer s H E G ds pn Qv Ev hr tk ⟨d, h, hd, q⟩ => ?_
  subst h
  unfold isRI at q
  refine vss_one ?_
  refine vs_ret ?_
  refine ve_or ?_
  refine ve_isinst Z.m_isinstance ?_
  refine va_cons ?_
  refine ve_valC 0 rfl ?_
  refine va_cons ?_
  refine ve_cref ?_ (Z.has (by decide))
  refine va_nil ?_
  refine ⟨_, _, _, rfl, isA_C Z hd (by decide), ?_⟩
  refine ⟨_, rfl, fun hk => ?_, fun hk => ?_⟩
  · rw [hk, Bool.true_or] at q
    cases pn <;> exact q
  · rw [hk, Bool.false_or] at q
    refine ve_one ?_
    refine ve_call (V_is_integer.mono (by decide)) hr tk ?_
    refine va_cons ?_
    refine ve_val 0 rfl ?_
    refine va_nil ?_
    refine ⟨d, rfl, hd, ?_⟩
    cases pn <;> exact q
abbrev s_ratio_of : Stmt := top 17
theorem sc_ratio_of : FnScope ["value"] ["value"] (defScope s_ratio_of) := ⟨rfl, rfl, rfl, by decide +kernel, rfl, by decide +kernel, by decide +kernel⟩
theorem fn_ratio_of (F : FunD K "ratio_of" "ratio_of" (defArgs s_ratio_of) (defBody s_ratio_of) (defScope s_ratio_of) [] kws f fd) (Z : Fx P w K mg base T) (V_is_integer : VFn P w K mg base (cfL T) 1 "is_integer" [] ctIsI) (K_Ratio_1 : VMk P w K mg base (cfL T) 4 "Ratio" [.int 1] ctInit) : FnOk P w K mg base (L2.CX P w) 6 f fd ["value"] (spV (cfL T) K mg ctRop) := by
  refine fn_body F sc_ratio_of (by decide) (fun ds pn k e ⟨d, h, _⟩ => by subst h; rfl) fun cdv A outer s H E G ds pn Qv Ev hr tk ⟨d, h, hd, q⟩ => ?_
  subst h
  rcases q with ⟨y, ev | ⟨i, ev, ey⟩, q⟩ | ⟨hn, hi, q⟩
  · refine vss_cons ?_
    refine vs_if ?_
    refine vt_truth ?_
    refine ve_isinst Z.m_isinstance ?_
    refine va_cons ?_
    refine ve_valC 0 rfl ?_
    refine va_cons ?_
    refine ve_cref ?_ (Z.has (by decide))
    refine va_nil ?_
    refine ⟨_, _, _, rfl, isA_C Z hd (by decide), ?_⟩
    rw [ev]
    refine ⟨fun _ => ?_, nofun⟩
    refine vss_one ?_
    refine vs_ret ?_
    refine ve_valE 0 rfl ev ?_
    cases pn <;> exact q
  · refine vss_cons ?_
    refine vs_if ?_
    refine vt_truth ?_
    refine ve_isinst Z.m_isinstance ?_
    refine va_cons ?_
    refine ve_valC 0 rfl ?_
    refine va_cons ?_
    refine ve_cref ?_ (Z.has (by decide))
    refine va_nil ?_
    refine ⟨_, _, _, rfl, isA_C Z hd (by decide), ?_⟩
    rw [ev]
    refine ⟨nofun, fun _ => ?_⟩
    refine vss_nil ?_
    refine vss_cons ?_
    refine vs_if ?_
    refine vt_truth ?_
    refine ve_call (V_is_integer.mono (by decide)) hr tk ?_
    refine va_cons ?_
    refine ve_val 0 rfl ?_
    refine va_nil ?_
    refine ⟨d, rfl, hd, ?_⟩
    rw [ev]
    refine ⟨fun _ => ?_, nofun⟩
    refine vss_one ?_
    refine vs_ret ?_
    refine ve_make K_Ratio_1 (hr.mono (by decide)) tk ?_
    refine va_cons ?_
    refine ve_val 0 rfl ?_
    refine va_nil ?_
    refine ⟨d, .int 1, rfl, hd, kd_int _, .inr ⟨_, ev, .inr ⟨1, rfl, .inr ⟨by decide, Nat.one_lt_two_pow (by decide), ?_⟩⟩⟩⟩
    rw [div_one, ← ey]
    cases pn <;> exact q
  · obtain ⟨n1, n2⟩ := ri_no hn
    refine vss_cons ?_
    refine vs_if ?_
    refine vt_truth ?_
    refine ve_isinst Z.m_isinstance ?_
    refine va_cons ?_
    refine ve_valC 0 rfl ?_
    refine va_cons ?_
    refine ve_cref ?_ (Z.has (by decide))
    refine va_nil ?_
    refine ⟨_, _, _, rfl, isA_C Z hd (by decide), ?_⟩
    rw [n1]
    refine ⟨nofun, fun _ => ?_⟩
    refine vss_nil ?_
    refine vss_cons ?_
    refine vs_if ?_
    refine vt_truth ?_
    refine ve_call (V_is_integer.mono (by decide)) hr tk ?_
    refine va_cons ?_
    refine ve_val 0 rfl ?_
    refine va_nil ?_
    refine ⟨d, rfl, hd, ?_⟩
    rw [n2]
    refine ⟨nofun, fun _ => ?_⟩
    refine vss_nil ?_
    refine vss_one ?_
    refine vs_raise Z.bv exbBV (hr.mono (by decide)) tk rfl (by decide) ?_
    refine va_cons ?_
    refine ve_val 0 rfl ?_
    refine va_nil ⟨rfl, rfl, ?_⟩
    cases pn <;> exact q
abbrev s_ratio_beside : Stmt := top 18
theorem sc_ratio_beside : FnScope ["value"] ["value"] (defScope s_ratio_beside) := ⟨rfl, rfl, rfl, by decide +kernel, rfl, by decide +kernel, by decide +kernel⟩
theorem fn_ratio_beside (F : FunD K "ratio_beside" "ratio_beside" (defArgs s_ratio_beside) (defBody s_ratio_beside) (defScope s_ratio_beside) [] kws f fd) (Z : Fx P w K mg base T) (V_is_integer : VFn P w K mg base (cfL T) 1 "is_integer" [] ctIsI) (K_Ratio_1 : VMk P w K mg base (cfL T) 4 "Ratio" [.int 1] ctInit) : FnOk P w K mg base (L2.CX P w) 6 f fd ["value"] (spV (cfL T) K mg ctRop) := by
  refine fn_body F sc_ratio_beside (by decide) (fun ds pn k e ⟨d, h, _⟩ => by subst h; rfl) fun cdv A outer s H E G ds pn Qv Ev hr tk ⟨d, h, hd, q⟩ => ?_
  subst h
  rcases q with ⟨y, ev | ⟨i, ev, ey⟩, q⟩ | ⟨hn, hi, q⟩
  · refine vss_cons ?_
    refine vs_if ?_
    refine vt_truth ?_
    refine ve_isinst Z.m_isinstance ?_
    refine va_cons ?_
    refine ve_valC 0 rfl ?_
    refine va_cons ?_
    refine ve_cref ?_ (Z.has (by decide))
    refine va_nil ?_
    refine ⟨_, _, _, rfl, isA_C Z hd (by decide), ?_⟩
    rw [ev]
    refine ⟨fun _ => ?_, nofun⟩
    refine vss_one ?_
    refine vs_ret ?_
    refine ve_valE 0 rfl ev ?_
    cases pn <;> exact q
  · refine vss_cons ?_
    refine vs_if ?_
    refine vt_truth ?_
    refine ve_isinst Z.m_isinstance ?_
    refine va_cons ?_
    refine ve_valC 0 rfl ?_
    refine va_cons ?_
    refine ve_cref ?_ (Z.has (by decide))
    refine va_nil ?_
    refine ⟨_, _, _, rfl, isA_C Z hd (by decide), ?_⟩
    rw [ev]
    refine ⟨nofun, fun _ => ?_⟩
    refine vss_nil ?_
    refine vss_cons ?_
    refine vs_if ?_
    refine vt_truth ?_
    refine ve_call (V_is_integer.mono (by decide)) hr tk ?_
    refine va_cons ?_
    refine ve_val 0 rfl ?_
    refine va_nil ?_
    refine ⟨d, rfl, hd, ?_⟩
    rw [ev]
    refine ⟨fun _ => ?_, nofun⟩
    refine vss_one ?_
    refine vs_ret ?_
    refine ve_make K_Ratio_1 (hr.mono (by decide)) tk ?_
    refine va_cons ?_
    refine ve_val 0 rfl ?_
    refine va_nil ?_
    refine ⟨d, .int 1, rfl, hd, kd_int _, .inr ⟨_, ev, .inr ⟨1, rfl, .inr ⟨by decide, Nat.one_lt_two_pow (by decide), ?_⟩⟩⟩⟩
    rw [div_one, ← ey]
    cases pn <;> exact q
  · obtain ⟨n1, n2⟩ := ri_no hn
    refine vss_cons ?_
    refine vs_if ?_
    refine vt_truth ?_
    refine ve_isinst Z.m_isinstance ?_
    refine va_cons ?_
    refine ve_valC 0 rfl ?_
    refine va_cons ?_
    refine ve_cref ?_ (Z.has (by decide))
    refine va_nil ?_
    refine ⟨_, _, _, rfl, isA_C Z hd (by decide), ?_⟩
    rw [n1]
    refine ⟨nofun, fun _ => ?_⟩
    refine vss_nil ?_
    refine vss_cons ?_
    refine vs_if ?_
    refine vt_truth ?_
    refine ve_call (V_is_integer.mono (by decide)) hr tk ?_
    refine va_cons ?_
    refine ve_val 0 rfl ?_
    refine va_nil ?_
    refine ⟨d, rfl, hd, ?_⟩
    rw [n2]
    refine ⟨nofun, fun _ => ?_⟩
    refine vss_nil ?_
    refine vss_cons ?_
    refine vs_if ?_
    refine vt_w (vw_or ?_)
    by_cases hN : core d = .non
    · refine vt_cmp op_isNone ?_ (nomark _)
      refine ve_valC 0 rfl ?_
      refine ve_non ?_
      refine rb_isNone (.inl ⟨hN, rfl⟩) ?_
      refine ⟨_, rfl, ?_⟩
      refine ⟨fun _ => ⟨fun _ => ?_, nofun⟩, nofun⟩
      refine vss_one ?_
      refine vs_raise Z.bv exbBV (hr.mono (by decide)) tk rfl (by decide) ?_
      refine va_cons ?_
      refine ve_val 0 rfl ?_
      refine va_nil ⟨rfl, rfl, ?_⟩
      cases pn <;> exact q
    · refine vt_cmp op_isNone ?_ (nomark _)
      refine ve_valC 0 rfl ?_
      refine ve_non ?_
      refine rb_isNone (.inr ⟨hN, rfl⟩) ?_
      refine ⟨_, rfl, ?_⟩
      refine ⟨nofun, fun _ => ?_⟩
      refine vw_or1 ?_
      refine vt_truth ?_
      refine ve_isinstT Z.m_isinstance ?_
      refine va_cons ?_
      refine ve_valC 0 rfl ?_
      refine va_cons ?_
      refine ve_tup ?_
      refine va_cons ?_
      refine ve_ty (T := "bool") ?_ Z.m_bool (by decide +kernel)
      refine va_cons ?_
      refine ve_ty (T := "str") ?_ Z.m_str (by decide +kernel)
      refine va_cons ?_
      refine ve_ty (T := "list") ?_ Z.m_list (by decide +kernel)
      refine va_cons ?_
      refine ve_ty (T := "tuple") ?_ Z.m_tuple (by decide +kernel)
      refine va_cons ?_
      refine ve_ty (T := "dict") ?_ Z.m_dict (by decide +kernel)
      refine va_nil ⟨by rw [sizeLine_eq]; simp, ?_⟩
      refine va_nil ?_
      obtain ⟨t, ht, hkt⟩ := kitA_kd Z hd (tp := tup5) (by decide)
      refine ⟨_, tup5, t, _, rfl, ht, insF_kd Z hd, hkt, ?_⟩
      rw [odd_five hd hn hi hN]
      refine ⟨fun _ => ?_, nofun⟩
      refine vss_one ?_
      refine vs_raise Z.bv exbBV (hr.mono (by decide)) tk rfl (by decide) ?_
      refine va_cons ?_
      refine ve_val 0 rfl ?_
      refine va_nil ⟨rfl, rfl, ?_⟩
      cases pn <;> exact q
abbrev s_ratio_sum : Stmt := top 19
theorem sc_ratio_sum : FnScope ["one", "other"] ["one", "other"] (defScope s_ratio_sum) := ⟨rfl, rfl, rfl, by decide +kernel, rfl, by decide +kernel, by decide +kernel⟩
theorem fn_ratio_sum (F : FunD K "ratio_sum" "ratio_sum" (defArgs s_ratio_sum) (defBody s_ratio_sum) (defScope s_ratio_sum) [] kws f fd) (Z : Fx P w K mg base T) (K_Ratio_0 : VMk P w K mg base (cfL T) 4 "Ratio" [] ctInit) : FnOk P w K mg base (L2.CX P w) 6 f fd ["one", "other"] (spV (cfL T) K mg ctSum) := by
  refine fn_body F sc_ratio_sum (by decide) (fun ds pn k e ⟨x, y, h, _⟩ => by subst h; rfl) fun cdv A outer s H E G ds pn Qv Ev hr tk ⟨x, y, h, hx, hy, q⟩ => ?_
  subst h
  refine vss_one ?_
  refine vs_ret ?_
  refine ve_make K_Ratio_0 (hr.mono (by decide)) tk ?_
  refine va_cons ?_
  refine ve_bin op_addAll ?_
  refine ve_bin op_mulAll ?_
  refine ve_fld ?_
  refine ve_val 0 rfl ?_
  refine ⟨_, _, _, _, rfl, Z.cf _ _ (by decide), rfl, ?_⟩
  refine ve_fld ?_
  refine ve_val 1 rfl ?_
  refine ⟨_, _, _, _, rfl, Z.cf _ _ (by decide), rfl, ?_⟩
  refine rb_mulI (mulB (on1 hx) (on2 hy)) ?_
  refine ve_bin op_mulAll ?_
  refine ve_fld ?_
  refine ve_val 1 rfl ?_
  refine ⟨_, _, _, _, rfl, Z.cf _ _ (by decide), rfl, ?_⟩
  refine ve_fld ?_
  refine ve_val 0 rfl ?_
  refine ⟨_, _, _, _, rfl, Z.cf _ _ (by decide), rfl, ?_⟩
  refine rb_mulI (mulB (on1 hy) (on2 hx)) ?_
  refine rb_addI ?_
  refine va_cons ?_
  refine ve_bin op_mulAll ?_
  refine ve_fld ?_
  refine ve_val 0 rfl ?_
  refine ⟨_, _, _, _, rfl, Z.cf _ _ (by decide), rfl, ?_⟩
  refine ve_fld ?_
  refine ve_val 1 rfl ?_
  refine ⟨_, _, _, _, rfl, Z.cf _ _ (by decide), rfl, ?_⟩
  refine rb_mulI (mulB (on2 hx) (on2 hy)) ?_
  refine va_nil ?_
  refine mk_int (den_mul_ne x y) (bot_lt hx hy) (div_add x y) ?_
  cases pn <;> exact q
abbrev s_turned_over : Stmt := top 20
theorem sc_turned_over : FnScope ["ratio"] ["ratio"] (defScope s_turned_over) := ⟨rfl, rfl, rfl, by decide +kernel, rfl, by decide +kernel, by decide +kernel⟩
theorem fn_turned_over (F : FunD K "turned_over" "turned_over" (defArgs s_turned_over) (defBody s_turned_over) (defScope s_turned_over) [] kws f fd) (Z : Fx P w K mg base T) (K_Ratio_0 : VMk P w K mg base (cfL T) 4 "Ratio" [] ctInit) : FnOk P w K mg base (L2.CX P w) 6 f fd ["ratio"] (spV (cfL T) K mg ctTurn) := by
  refine fn_body F sc_turned_over (by decide) (fun ds pn k e ⟨x, h, _⟩ => by subst h; rfl) fun cdv A outer s H E G ds pn Qv Ev hr tk ⟨x, h, hx, h0, q⟩ => ?_
  subst h
  refine vss_one ?_
  refine vs_ret ?_
  refine ve_make K_Ratio_0 (hr.mono (by decide)) tk ?_
  refine va_cons ?_
  refine ve_fld ?_
  refine ve_val 0 rfl ?_
  refine ⟨_, _, _, _, rfl, Z.cf _ _ (by decide), rfl, ?_⟩
  refine va_cons ?_
  refine ve_fld ?_
  refine ve_val 0 rfl ?_
  refine ⟨_, _, _, _, rfl, Z.cf _ _ (by decide), rfl, ?_⟩
  refine va_nil ?_
  refine mk_int (fun z => h0 (num_zero.mp z)) (on1 hx) (div_inv x) ?_
  cases pn <;> exact q
abbrev s_Ratio_add : Stmt := metRatio 2
theorem sc_Ratio_add : FnScope ["self", "other"] ["self", "other"] (defScope s_Ratio_add) := ⟨rfl, rfl, rfl, by decide +kernel, rfl, by decide +kernel, by decide +kernel⟩
theorem fn_Ratio_add (F : FunD K "__add__" "Ratio.__add__" (defArgs s_Ratio_add) (defBody s_Ratio_add) (defScope s_Ratio_add) [] kws f fd) (Z : Fx P w K mg base T) (V_ratio_beside : VFn P w K mg base (cfL T) 6 "ratio_beside" [] ctRop) (V_ratio_sum : VFn P w K mg base (cfL T) 6 "ratio_sum" [] ctSum) : FnOk P w K mg base (L2.CX P w) 7 f fd ["self", "other"] (spV (cfL T) K mg (ctBin fun x y => x + y)) := by
  refine fn_body F sc_Ratio_add (by decide) (fun ds pn k e ⟨x, d, h, _⟩ => by subst h; rfl) fun cdv A outer s H E G ds pn Qv Ev hr tk ⟨x, d, h, hx, hd, hq⟩ => ?_
  subst h
  refine vss_cons ?_
  refine vs_set 1 ?_ ?nd
  case nd => exact sc_Ratio_add.nd
  refine ve_call (V_ratio_beside.mono (by decide)) hr tk ?_
  refine va_cons ?_
  refine ve_val 1 rfl ?_
  refine va_nil ?_
  refine ⟨d, rfl, hd, ?_⟩
  rcases hq with ⟨y, hv, hy, q⟩ | ⟨hn, hi, q⟩
  rotate_left
  · exact .inr ⟨hn, hi, by cases pn <;> exact q⟩
  refine .inl ⟨y, hv, ?_⟩
  refine vss_cons ?_
  refine vs_if ?_
  refine vt_cmp op_isNone ?_ (nomark _)
  refine ve_val 1 rfl ?_
  refine ve_non ?_
  refine rb_isNone (.inr ⟨(fun z => nomatch z), rfl⟩) ?_
  refine ⟨_, rfl, nofun, fun _ => ?_⟩
  refine vss_nil ?_
  refine vss_one ?_
  refine vs_ret ?_
  refine ve_call (V_ratio_sum.mono (by decide)) hr tk ?_
  refine va_cons ?_
  refine ve_val 0 rfl ?_
  refine va_cons ?_
  refine ve_val 1 rfl ?_
  refine va_nil ?_
  refine ⟨x, y, rfl, hx, hy, ?_⟩
  cases pn <;> exact q
abbrev s_Ratio_sub : Stmt := metRatio 4
theorem sc_Ratio_sub : FnScope ["self", "other"] ["self", "other"] (defScope s_Ratio_sub) := ⟨rfl, rfl, rfl, by decide +kernel, rfl, by decide +kernel, by decide +kernel⟩
theorem fn_Ratio_sub (F : FunD K "__sub__" "Ratio.__sub__" (defArgs s_Ratio_sub) (defBody s_Ratio_sub) (defScope s_Ratio_sub) [] kws f fd) (Z : Fx P w K mg base T) (V_ratio_beside : VFn P w K mg base (cfL T) 6 "ratio_beside" [] ctRop) (V_ratio_sum : VFn P w K mg base (cfL T) 6 "ratio_sum" [] ctSum) (K_Ratio_0 : VMk P w K mg base (cfL T) 4 "Ratio" [] ctInit) : FnOk P w K mg base (L2.CX P w) 7 f fd ["self", "other"] (spV (cfL T) K mg (ctBin fun x y => x - y)) := by
  refine fn_body F sc_Ratio_sub (by decide) (fun ds pn k e ⟨x, d, h, _⟩ => by subst h; rfl) fun cdv A outer s H E G ds pn Qv Ev hr tk ⟨x, d, h, hx, hd, hq⟩ => ?_
  subst h
  refine vss_cons ?_
  refine vs_set 1 ?_ ?nd
  case nd => exact sc_Ratio_sub.nd
  refine ve_call (V_ratio_beside.mono (by decide)) hr tk ?_
  refine va_cons ?_
  refine ve_val 1 rfl ?_
  refine va_nil ?_
  refine ⟨d, rfl, hd, ?_⟩
  rcases hq with ⟨y, hv, hy, q⟩ | ⟨hn, hi, q⟩
  rotate_left
  · exact .inr ⟨hn, hi, by cases pn <;> exact q⟩
  refine .inl ⟨y, hv, ?_⟩
  refine vss_cons ?_
  refine vs_if ?_
  refine vt_cmp op_isNone ?_ (nomark _)
  refine ve_val 1 rfl ?_
  refine ve_non ?_
  refine rb_isNone (.inr ⟨(fun z => nomatch z), rfl⟩) ?_
  refine ⟨_, rfl, nofun, fun _ => ?_⟩
  refine vss_nil ?_
  refine vss_one ?_
  refine vs_ret ?_
  refine ve_call (V_ratio_sum.mono (by decide)) hr tk ?_
  refine va_cons ?_
  refine ve_val 0 rfl ?_
  refine va_cons ?_
  refine ve_make K_Ratio_0 (hr.mono (by decide)) tk ?_
  refine va_cons ?_
  refine ve_neg ?_
  refine ve_fld ?_
  refine ve_val 1 rfl ?_
  refine ⟨_, _, _, _, rfl, Z.cf _ _ (by decide), rfl, ?_⟩
  refine ⟨_, rfl, ?_⟩
  refine va_cons ?_
  refine ve_fld ?_
  refine ve_val 1 rfl ?_
  refine ⟨_, _, _, _, rfl, Z.cf _ _ (by decide), rfl, ?_⟩
  refine va_nil ?_
  refine mk_int (den_ne y) (on2 hy) (div_neg y) ?_
  refine va_nil ?_
  refine ⟨x, -y, rfl, hx, hy.neg, ?_⟩
  rw [← Rat.sub_eq_add_neg]
  cases pn <;> exact q
abbrev s_Ratio_mul : Stmt := metRatio 6
theorem sc_Ratio_mul : FnScope ["self", "other"] ["self", "other"] (defScope s_Ratio_mul) := ⟨rfl, rfl, rfl, by decide +kernel, rfl, by decide +kernel, by decide +kernel⟩
theorem fn_Ratio_mul (F : FunD K "__mul__" "Ratio.__mul__" (defArgs s_Ratio_mul) (defBody s_Ratio_mul) (defScope s_Ratio_mul) [] kws f fd) (Z : Fx P w K mg base T) (V_ratio_beside : VFn P w K mg base (cfL T) 6 "ratio_beside" [] ctRop) (K_Ratio_0 : VMk P w K mg base (cfL T) 4 "Ratio" [] ctInit) : FnOk P w K mg base (L2.CX P w) 7 f fd ["self", "other"] (spV (cfL T) K mg (ctBin fun x y => x * y)) := by
  refine fn_body F sc_Ratio_mul (by decide) (fun ds pn k e ⟨x, d, h, _⟩ => by subst h; rfl) fun cdv A outer s H E G ds pn Qv Ev hr tk ⟨x, d, h, hx, hd, hq⟩ => ?_
  subst h
  refine vss_cons ?_
  refine vs_set 1 ?_ ?nd
  case nd => exact sc_Ratio_mul.nd
  refine ve_call (V_ratio_beside.mono (by decide)) hr tk ?_
  refine va_cons ?_
  refine ve_val 1 rfl ?_
  refine va_nil ?_
  refine ⟨d, rfl, hd, ?_⟩
  rcases hq with ⟨y, hv, hy, q⟩ | ⟨hn, hi, q⟩
  rotate_left
  · exact .inr ⟨hn, hi, by cases pn <;> exact q⟩
  refine .inl ⟨y, hv, ?_⟩
  refine vss_cons ?_
  refine vs_if ?_
  refine vt_cmp op_isNone ?_ (nomark _)
  refine ve_val 1 rfl ?_
  refine ve_non ?_
  refine rb_isNone (.inr ⟨(fun z => nomatch z), rfl⟩) ?_
  refine ⟨_, rfl, nofun, fun _ => ?_⟩
  refine vss_nil ?_
  refine vss_one ?_
  refine vs_ret ?_
  refine ve_make K_Ratio_0 (hr.mono (by decide)) tk ?_
  refine va_cons ?_
  refine ve_bin op_mulAll ?_
  refine ve_fld ?_
  refine ve_val 0 rfl ?_
  refine ⟨_, _, _, _, rfl, Z.cf _ _ (by decide), rfl, ?_⟩
  refine ve_fld ?_
  refine ve_val 1 rfl ?_
  refine ⟨_, _, _, _, rfl, Z.cf _ _ (by decide), rfl, ?_⟩
  refine rb_mulI (mulB (on1 hx) (on1 hy)) ?_
  refine va_cons ?_
  refine ve_bin op_mulAll ?_
  refine ve_fld ?_
  refine ve_val 0 rfl ?_
  refine ⟨_, _, _, _, rfl, Z.cf _ _ (by decide), rfl, ?_⟩
  refine ve_fld ?_
  refine ve_val 1 rfl ?_
  refine ⟨_, _, _, _, rfl, Z.cf _ _ (by decide), rfl, ?_⟩
  refine rb_mulI (mulB (on2 hx) (on2 hy)) ?_
  refine va_nil ?_
  refine mk_int (den_mul_ne x y) (bot_lt hx hy) (div_mul x y) ?_
  cases pn <;> exact q
abbrev s_Ratio_eq : Stmt := metRatio 1
theorem sc_Ratio_eq : FnScope ["self", "other"] ["self", "other"] (defScope s_Ratio_eq) := ⟨rfl, rfl, rfl, by decide +kernel, rfl, by decide +kernel, by decide +kernel⟩
theorem fn_Ratio_eq (F : FunD K "__eq__" "Ratio.__eq__" (defArgs s_Ratio_eq) (defBody s_Ratio_eq) (defScope s_Ratio_eq) [] kws f fd) (Z : Fx P w K mg base T)  : FnOk P w K mg base (L2.CX P w) 1 f fd ["self", "other"] (spV (cfL T) K mg ctEq) := by
  refine fn_body F sc_Ratio_eq (by decide) (fun ds pn k e ⟨x, d, h, _⟩ => by subst h; rfl) fun cdv A outer s H E G ds pn Qv Ev hr tk ⟨x, d, h, hd, hR, q⟩ => ?_
  subst h
  refine vss_one ?_
  refine vs_ret ?_
  refine ve_and ?_
  refine ve_isinst Z.m_isinstance ?_
  refine va_cons ?_
  refine ve_valC 1 rfl ?_
  refine va_cons ?_
  refine ve_cref ?_ (Z.has (by decide))
  refine va_nil ?_
  refine ⟨_, _, _, rfl, isA_C Z hd (by decide), ?_⟩
  refine ⟨_, rfl, fun hk => ?_, fun hk => ?_⟩
  · obtain ⟨y, ey⟩ := hR hk
    rw [hk, Bool.true_and, ey] at q
    have eq : isEq x (rat y) = (decide (x.num = y.1) && decide ((x.den : Int) = y.2)) := rfl
    rw [eq] at q
    refine ve_and ?_
    refine ve_cmp (op_eqAll hr) ?_ (nomark _)
    refine ve_fld ?_
    refine ve_val 0 rfl ?_
    refine ⟨_, _, _, _, rfl, Z.cf _ _ (by decide), rfl, ?_⟩
    refine ve_fld ?_
    refine ve_valE 1 rfl ey ?_
    refine ⟨_, _, _, _, rfl, Z.cf _ _ (by decide), rfl, ?_⟩
    refine rb_eqAI ?_
    refine ⟨_, rfl, fun h2 => ?_, fun h2 => ?_⟩
    · rw [show decide (x.num = y.1) = true from h2, Bool.true_and] at q
      refine ve_one ?_
      refine ve_cmp (op_eqAll hr) ?_ (nomark _)
      refine ve_fld ?_
      refine ve_val 0 rfl ?_
      refine ⟨_, _, _, _, rfl, Z.cf _ _ (by decide), rfl, ?_⟩
      refine ve_fld ?_
      refine ve_valE 1 rfl ey ?_
      refine ⟨_, _, _, _, rfl, Z.cf _ _ (by decide), rfl, ?_⟩
      refine rb_eqAI ?_
      cases pn <;> exact q
    · rw [show decide (x.num = y.1) = false from h2, Bool.false_and] at q
      cases pn <;> exact q
  · rw [hk, Bool.false_and] at q
    cases pn <;> exact q
end
end My
set_option Elab.async false
set_option linter.all false
set_option maxRecDepth 100000
set_option maxHeartbeats 4000000
namespace My
open PySem PySem.Spec PyProof.Rows L2 VL NdefX
/-- items that are told as rational numbers -/
def Its (xs : List D) (ps : List Rat) : Prop := xs.length = ps.length ∧ ∀ (i : Nat) (d : D), xs[i]? = some d → Kd d ∧ Rv (core d) (cf ps i)
theorem its_rq (ps : List Rat) : Its (ps.map rq) ps := ⟨List.length_map _, fun i d h => by
  rw [List.getElem?_map] at h
  by_cases hi : i < ps.length
  · rw [cf_lt hi] at h
    cases h
    exact ⟨kd_rq _, rv_rq _⟩
  · rw [List.getElem?_eq_none (by omega)] at h
    cases h⟩
theorem its_one {d : D} {y : Rat} (h1 : Kd d) (h2 : Rv (core d) y) : Its [d] [y] := ⟨rfl, fun i x h => by
  cases i with
  | zero => cases h; exact ⟨h1, h2⟩
  | succ i => simp at h⟩
/-- the first item that is none -/
def Bad (xs : List D) (b : D) : Prop := ∃ i : Nat, xs[i]? = some b ∧ isRI (core b) = false ∧ Kd b ∧ ∀ (j : Nat) (d : D), j < i → xs[j]? = some d → Kd d ∧ isRI (core d) = true
def ctPInit : Ct where
  run ds pn k e := ∃ d, ds = [d] ∧ Kd d ∧ ((∃ xs ps, (core d = .lst xs ∨ core d = .tup xs) ∧ Its xs ps ∧ k (poly (trim ps)) pn) ∨ (inT ["list", "tuple"] (core d) = false ∧ e (bv d) pn) ∨ ∃ xs b, (core d = .lst xs ∨ core d = .tup xs) ∧ Bad xs b ∧ e (bv b) pn)
  mono := fun ⟨d, h1, h2, q⟩ hk he => ⟨d, h1, h2, q.imp (fun ⟨xs, ps, a, b, z⟩ => ⟨xs, ps, a, b, hk _ _ z⟩) fun z => z.imp (fun z => ⟨z.1, he _ _ z.2⟩) fun ⟨xs, b, a, c, z⟩ => ⟨xs, b, a, c, he _ _ z⟩⟩
theorem mk_poly {xs : List D} {ps : List Rat} {pn : Pn} {k : D → Pn → Prop} {e : ExD → Pn → Prop} (h : Its xs ps) (q : k (poly (trim ps)) pn) : ctPInit.run [.lst xs] pn k e :=
  ⟨_, rfl, kd_lst _, .inl ⟨xs, ps, .inl rfl, h, q⟩⟩
theorem mk_polyT {xs : List D} {ps : List Rat} {pn : Pn} {k : D → Pn → Prop} {e : ExD → Pn → Prop} (h : Its xs ps) (q : k (poly (trim ps)) pn) : ctPInit.run [.tup xs] pn k e :=
  ⟨_, rfl, kd_tup _, .inl ⟨xs, ps, .inr rfl, h, q⟩⟩
theorem cutD_take {xs : List D} {m : Nat} (h : m ≤ xs.length) : VL.cutD xs none (some (m : Int)) = xs.take m := by
  unfold VL.cutD
  have e1 : HT.sIx xs.length 0 none = 0 := rfl
  have e2 : HT.sIx xs.length xs.length (some (m : Int)) = m := by
    unfold HT.sIx
    simp
    rw [if_neg (by omega)]
    omega
  rw [e1, e2, List.drop_zero, Nat.sub_zero]
theorem cutD_drop {xs : List D} {m : Nat} (h : m ≤ xs.length) : VL.cutD xs (some (m : Int)) none = xs.drop m := by
  unfold VL.cutD
  have e1 : HT.sIx xs.length 0 (some (m : Int)) = m := by
    unfold HT.sIx
    simp
    rw [if_neg (by omega)]
    omega
  have e2 : HT.sIx xs.length xs.length none = xs.length := rfl
  rw [e1, e2, List.take_of_length_le (by rw [List.length_drop]; omega)]
theorem at_last {xs : List D} {d : D} (h : xs[xs.length - 1]? = some d) : atI xs (-1) = some d := by
  have h0 : 0 < xs.length := by
    cases xs with
    | nil => simp at h
    | cons => simp
  unfold atI ixN
  rw [if_neg (by omega), if_pos (by omega)]
  show xs[((xs.length : Int) + -1).toNat]? = _ <;> rw [← h] <;> congr 1 <;> omega
theorem rq_last {b : List Rat} (h : 0 < b.length) : atI (b.map rq) (-1) = some (rq (cf b (b.length - 1))) := at_last (by
  rw [List.length_map, List.getElem?_map, cf_lt (by omega)]; rfl)
theorem its_range {F : Nat → Rat} {m : Nat} : Its ((List.range m).map fun n => rq (F n)) ((List.range m).map F) := by
  have h := its_rq ((List.range m).map F)
  rw [List.map_map] at h
  exact h
theorem isC_rP (p : Int × Int) : isC "Poly" (rat p) = false := by
  show decide (("Ratio" : Str) = "Poly") = false
  decide
theorem du_A : PySem.dunder (Operator.info .Add).2 = ("__add__" : Str) := by decide +kernel
theorem du_S : PySem.dunder (Operator.info .Sub).2 = ("__sub__" : Str) := by decide +kernel
theorem du_M : PySem.dunder (Operator.info .Mult).2 = ("__mul__" : Str) := by decide +kernel
theorem du_RA : dunderR (Operator.info .Add).2 = ("__radd__" : Str) := by decide +kernel
theorem du_RS : dunderR (Operator.info .Sub).2 = ("__rsub__" : Str) := by decide +kernel
theorem du_RM : dunderR (Operator.info .Mult).2 = ("__rmul__" : Str) := by decide +kernel
theorem atI_sub {xs : List D} {m : Nat} {d : D} (h0 : 0 < m) (h : xs[m - 1]? = some d) : atI xs ((m : Int) - 1) = some d := by
  rw [show ((m : Int) - 1) = ((m - 1 : Nat) : Int) by omega]
  exact atI_of h
theorem range_map {f : Nat → D} {t : Nat} : (List.range (t + 1)).map f = (List.range t).map f ++ [f t] := by rw [List.range_succ, List.map_append]; rfl
theorem map_take {ps : List Rat} {m : Nat} {g : Rat → D} (h : m ≤ ps.length) : (List.range m).map (fun i => g (cf ps i)) = (ps.take m).map g := by
  refine List.ext_getElem? fun n => ?_
  rw [List.getElem?_map, List.getElem?_map, List.getElem?_take]
  by_cases hn : n < m
  · rw [List.getElem?_range hn, if_pos hn, cf_lt (by omega)]; rfl
  · rw [List.getElem?_eq_none (by simpa using hn), if_neg hn]; rfl
theorem map_all {ps : List Rat} {g : Rat → D} : (List.range ps.length).map (fun i => g (cf ps i)) = ps.map g := by rw [map_take (Nat.le_refl _), List.take_length]
theorem rqs_get {ps : List Rat} {i : Nat} (h : i < ps.length) : (ps.map rq)[i]? = some (rq (cf ps i)) := by rw [List.getElem?_map, cf_lt h]; rfl
theorem tqs_get {ps : List Rat} {i : Nat} (h : i < ps.length) : (ps.map tq)[i]? = some (tq (cf ps i)) := by rw [List.getElem?_map, cf_lt h]; rfl
theorem rat_num0 {r : Rat} : decide (r.num = 0) = decide (r = 0) := by
  rw [decide_eq_decide]
  exact num_zero
theorem take_zero {ps : List Rat} {m : Nat} (h : m = 0) : trim (ps.take m) = ps.take m := by subst h; rfl
def ctPAt : Ct where
  run ds pn k e := ∃ (ps : List Rat) (n : Nat), ds = [poly ps, .int n] ∧ k (rq (cf ps n)) pn
  mono := fun ⟨ps, n, h1, q⟩ hk he => ⟨ps, n, h1, hk _ _ q⟩
/-- a sum of polynomials, as lists -/
def addP (p q : List Rat) : List Rat := trim ((List.range (max p.length q.length)).map fun n => cf p n + cf q n)
theorem cf_addP (p q : List Rat) (n : Nat) : cf (addP p q) n = cf p n + cf q n := by
  unfold addP
  rw [cf_trim, cf_map]
  split
  · rfl
  · rw [cf_ge (by omega), cf_ge (p := q) (by omega), Rat.add_zero]
theorem trimmed_addP (p q : List Rat) : Trimmed (addP p q) := trimmed_trim _
def Okp (p : List Rat) : Prop := ∀ n, Okr (cf p n)
def totP (p q : List Rat) (s : Rat) : List Rat := trim ((List.range (max p.length q.length)).map fun n => cf p n + cf q n * s)
theorem cf_totP (p q : List Rat) (s : Rat) (n : Nat) : cf (totP p q s) n = cf p n + cf q n * s := by
  unfold totP
  rw [cf_trim, cf_map]
  split
  · rfl
  · rw [cf_ge (by omega), cf_ge (p := q) (by omega), Rat.zero_mul, Rat.add_zero]
theorem max_nat (a b : Nat) : (if (b : Int) > (a : Int) then (b : Int) else (a : Int)) = ((max a b : Nat) : Int) := by
  split <;> omega
def ctPTot : Ct where
  run ds pn k e := ∃ (p q : List Rat) (s : Int), ds = [poly p, poly q, .int s] ∧ p.length ≤ 1000000 ∧ q.length ≤ 1000000 ∧ Okp p ∧ Okp q ∧ Okr (s : Rat) ∧ (∀ n, Okr (cf q n * (s : Rat))) ∧ k (poly (totP p q s)) pn
  mono := fun ⟨p, q, s, h1, h2, h3, h4, h5, h6, h7, z⟩ hk he => ⟨p, q, s, h1, h2, h3, h4, h5, h6, h7, hk _ _ z⟩
/-- the quotient and the rest that are planted -/
structure DivD (p b q r : List Rat) : Prop where
  tb : Trimmed b
  nb : b ≠ []
  tq : Trimmed q
  tr : Trimmed r
  lr : r.length < b.length
  tp : Trimmed p
  cfp : ∀ n, cf p n = S (cf q) (cf b) q.length n + cf r n
  okb : Okp b
  okq : Okp q
  okm : ∀ i j, Okr (cf q i * cf b j)
  oks : ∀ m n, m ≤ q.length → Okr (S (cf q) (cf b) m n + cf r n)
  oki : Okr (cf b (b.length - 1))⁻¹
  small : p.length ≤ 1000
theorem DivD.lead {p b q r : List Rat} (h : DivD p b q r) : cf b (b.length - 1) ≠ 0 := h.tb.elim (fun z => absurd z h.nb) id
theorem DivD.pos {p b q r : List Rat} (h : DivD p b q r) : 0 < b.length := List.length_pos_iff.mpr h.nb
theorem DivD.far {p b q r : List Rat} (h : DivD p b q r) {m n : Nat} (hn : m + b.length ≤ n + 1) : S (cf q) (cf b) m n = 0 := S_far (k := b.length) (fun j hj => cf_ge hj) m hn
/-- the part at the top of what is left -/
theorem DivD.top {p b q r : List Rat} (h : DivD p b q r) (m : Nat) : S (cf q) (cf b) (m + 1) (m + (b.length - 1)) + cf r (m + (b.length - 1)) = cf q m * cf b (b.length - 1) := by
  have h1 := h.pos
  have h2 := h.lr
  show S (cf q) (cf b) m (m + (b.length - 1)) + (if m ≤ m + (b.length - 1) then cf q m * cf b (m + (b.length - 1) - m) else 0) + _ = _
  rw [h.far (by omega), if_pos (by omega), cf_ge (p := r) (by omega), Nat.add_sub_cancel_left, Rat.add_zero, Rat.zero_add]
theorem DivD.len {p b q r : List Rat} (h : DivD p b q r) : p.length = if q = [] then r.length else q.length + (b.length - 1) := by
  have h1 := h.pos
  have h2 := h.lr
  split
  · rename_i hq
    subst hq
    have e : p = r := h.tp.eq h.tr fun n => by rw [h.cfp n]; exact Rat.zero_add _
    rw [e]
  · rename_i hq
    have hq0 : 0 < q.length := List.length_pos_iff.mpr hq
    have lq : cf q (q.length - 1) ≠ 0 := h.tq.elim (fun z => absurd z hq) id
    have top := h.top (q.length - 1)
    rw [Nat.sub_add_cancel hq0, ← h.cfp] at top
    have ne : cf p (q.length - 1 + (b.length - 1)) ≠ 0 := by
      rw [top]
      intro z
      exact (Rat.mul_eq_zero.mp z).elim lq h.lead
    have lo : q.length - 1 + (b.length - 1) < p.length := by
      rcases Nat.lt_or_ge (q.length - 1 + (b.length - 1)) p.length with z | z
      · exact z
      · exact absurd (cf_ge z) ne
    have hi : p.length ≤ q.length + (b.length - 1) := by
      rcases h.tp with z | z
      · rw [z]; exact Nat.zero_le _
      · rcases Nat.lt_or_ge (q.length + (b.length - 1)) p.length with y | y
        · exfalso
          refine z ?_
          rw [h.cfp, h.far (by omega), cf_ge (p := r) (by omega)]
          exact Rat.add_zero 0
        · exact y
    omega
/-- what is left when m parts of the quotient are to come -/
def leftD (b q r : List Rat) (m : Nat) : List Rat := (List.range (m + (b.length - 1))).map fun n => S (cf q) (cf b) m n + cf r n
theorem leftD_len {b q r : List Rat} {m : Nat} : (leftD b q r m).length = m + (b.length - 1) := by unfold leftD; simp
theorem cf_leftD {b q r : List Rat} {m n : Nat} (hn : n < m + (b.length - 1)) : cf (leftD b q r m) n = S (cf q) (cf b) m n + cf r n := by
  unfold leftD
  rw [cf_map, if_pos hn]
theorem DivD.start {p b q r : List Rat} (h : DivD p b q r) (hq : q ≠ []) : p = leftD b q r q.length := by
  have e := h.len
  rw [if_neg hq] at e
  refine list_ext (by rw [leftD_len]; exact e) fun n hn => ?_
  rw [cf_leftD (by omega), h.cfp]
theorem DivD.nil {p b q r : List Rat} (h : DivD p b q r) (hq : q = []) : p = r := by
  subst hq
  exact h.tp.eq h.tr fun n => by rw [h.cfp n]; exact Rat.zero_add _
theorem DivD.stop {p b q r : List Rat} (h : DivD p b q r) : trim (leftD b q r 0) = r := trim_eq h.tr fun n => by
  by_cases hn : n < 0 + (b.length - 1)
  · rw [cf_leftD hn]; exact Rat.zero_add _
  · rw [cf_ge (by rw [leftD_len]; omega), cf_ge (p := r) (by have := h.lr; omega)]
/-- one turn -/
theorem leftD_step {b q r : List Rat} {m : Nat} (hb : 0 < b.length) : leftD b q r m = (leftD b q r (m + 1)).take m ++ (List.range (b.length - 1)).map fun k => cf (leftD b q r (m + 1)) (m + k) - cf q m * cf b k := by
  refine list_ext (by simp [leftD_len]; omega) fun n hn => ?_
  rw [leftD_len] at hn
  rw [cf_leftD hn, cf_append, List.length_take, leftD_len, Nat.min_eq_left (by omega)]
  split
  · rename_i h
    rw [cf_take, if_pos h, cf_leftD (by omega)]
    show _ = S (cf q) (cf b) m n + (if m ≤ n then cf q m * cf b (n - m) else 0) + _
    rw [if_neg (by omega), Rat.add_zero]
  · rename_i h
    rw [cf_map, if_pos (by omega), show m + (n - m) = n by omega, cf_leftD (by omega)]
    show _ = S (cf q) (cf b) m n + (if m ≤ n then cf q m * cf b (n - m) else 0) + _ - _
    rw [if_pos (by omega)]
    grind
def ctPDiv : Ct where
  run ds pn k e := ∃ p b q r, ds = [poly p, poly b] ∧ DivD p b q r ∧ k (.tup [poly q, poly r]) pn
  mono := fun ⟨p, b, q, r, h1, h2, z⟩ hk he => ⟨p, b, q, r, h1, h2, hk _ _ z⟩
def ctPDivd : Ct where
  run ds pn k e := ∃ (p : List Rat) (d : D), ds = [poly p, d] ∧ Kd d ∧ ((∃ b q r, core d = poly b ∧ DivD p b q r ∧ k (.tup [poly q, poly r]) pn) ∨ (isC "Poly" (core d) = false ∧ e (bv d) pn) ∨ (core d = poly [] ∧ e nd pn))
  mono := fun ⟨p, d, h1, h2, z⟩ hk he => ⟨p, d, h1, h2, z.imp (fun ⟨b, q, r, a, c, z⟩ => ⟨b, q, r, a, c, hk _ _ z⟩) fun z => z.imp (fun z => ⟨z.1, he _ _ z.2⟩) fun z => ⟨z.1, he _ _ z.2⟩⟩
def ctPBes : Ct where
  run ds pn k e := ∃ d, ds = [d] ∧ Kd d ∧ ((∃ ps, core d = poly ps ∧ k (poly ps) pn) ∨ (∃ y, Rv (core d) y ∧ k (poly (trim [y])) pn) ∨ (isC "Poly" (core d) = false ∧ isRI (core d) = false ∧ isIns (core d) = false ∧ e (bv d) pn))
  mono := fun ⟨d, h1, h2, z⟩ hk he => ⟨d, h1, h2, z.imp (fun ⟨ps, a, z⟩ => ⟨ps, a, hk _ _ z⟩) fun z => z.imp (fun ⟨y, a, z⟩ => ⟨y, a, hk _ _ z⟩) fun z => ⟨z.1, z.2.1, z.2.2.1, he _ _ z.2.2.2⟩⟩
def ctPSubS : Ct where
  run ds pn k e := ∃ (p q : List Rat), ds = [poly p, poly q] ∧ p.length ≤ 1000000 ∧ q.length ≤ 1000000 ∧ Okp p ∧ Okp q ∧ k (poly (totP p q (-1))) pn
  mono := fun ⟨p, q, h1, h2, h3, h4, h5, z⟩ hk he => ⟨p, q, h1, h2, h3, h4, h5, hk _ _ z⟩
theorem mul_m1 (r : Rat) : r * ((-1 : Int) : Rat) = -r := by
  rw [show ((-1 : Int) : Rat) = -1 from rfl]
  grind
section
variable {P : Program} {w : World} {K : PySem.W.Frag} {mg : Str → Option Value} {base : Heap} {kws : List (Str × V)} {f : Addr} {fd : FuncData} {T : Addr}
abbrev s_init_poly : Stmt := metPoly 0
theorem sc_init_poly : FnScope ["self", "parts", "part", "many"] ["self", "parts"] (defScope s_init_poly) := ⟨rfl, rfl, rfl, by decide +kernel, rfl, by decide +kernel, by decide +kernel⟩
theorem fn_init_poly {dvs : List V} (F : FunD K "__init__" "Poly.__init__" (defArgs s_init_poly) (defBody s_init_poly) (defScope s_init_poly) dvs kws f fd) (Z : Fx P w K mg base T) (V_need_items : VFn P w K mg base (cfL T) 3 "need_items" [] (ctNeed (inT ["list", "tuple"]))) (V_is_ratio : VFn P w K mg base (cfL T) 2 "is_ratio" [] ctIsR) (V_ratio_of : VFn P w K mg base (cfL T) 6 "ratio_of" [] ctRop) : FnOk P w K mg base (L2.CX P w) 7 f fd ["self", "parts"] (spI (cfL T) K mg "Poly" ctPInit) := by
  refine fn_init F sc_init_poly (by decide) (fun ds pn k e ⟨d, h, _⟩ => by subst h; rfl) fun cdv A outer s H E G H0 o ds pn Qv Ev hr tk ⟨d, h, hd, q⟩ => ?_
  subst h
  rcases q with ⟨xs, ps, hxs, hits, q⟩ | ⟨hno, q⟩ | ⟨xs, b, hxs, hbad, q⟩
  · rcases hxs with hc | hc
    · refine vss_cons ?_
      refine vs_expr ?_
      refine ve_call (V_need_items.mono (by decide)) hr tk ?_
      refine va_cons ?_
      refine ve_val 1 rfl ?_
      refine va_nil ?_
      refine ⟨d, rfl, hd, .inl ⟨by rw [hc]; rfl, ?_⟩⟩
      refine vss_cons ?_
      refine vs_forL (passes_of rfl) rfl ?_
      refine ve_valE 1 rfl hc ?_
      refine ⟨xs, rfl, fun t S => ∃ s2, S = ⟨[.obj o "Poly" [] [], .val d, s2, .un], pn⟩, ⟨_, by cases pn <;> rfl⟩, ?_, ?_⟩
      · rintro t x S hx ⟨s2, rfl⟩
        obtain ⟨hxk, hxr⟩ := hits.2 t x hx
        refine vg_name 2 ?_ sc_init_poly.nd
        refine vss_one ?_
        refine vs_if ?_
        refine vt_not ?_
        refine vt_truth ?_
        refine ve_call (V_is_ratio.mono (by decide)) hr tk ?_
        refine va_cons ?_
        refine ve_val 2 rfl ?_
        refine va_nil ?_
        refine ⟨x, rfl, hxk, ?_⟩
        rw [rv_ri hxr]
        refine ⟨nofun, fun _ => ?_⟩
        refine vss_nil ?_
        exact ⟨_, by cases pn <;> rfl⟩
      rintro S ⟨s2, rfl⟩
      refine vss_cons ?_
      refine vs_set 3 ?_ ?nd
      case nd => exact sc_init_poly.nd
      refine ve_len Z.m_len ?_
      refine ve_valE 1 rfl hc ?_
      refine vss_cons ?_
      refine vs_while (passes_of rfl) (fun m S => ∃ s2, m ≤ xs.length ∧ trim (ps.take m) = trim ps ∧ S = ⟨[.obj o "Poly" [] [], .val d, s2, .val (.int (m : Nat))], pn⟩) xs.length ⟨s2, Nat.le_refl _, by rw [hits.1, List.take_length], rfl⟩ ?_
      rintro m S ⟨s2, hm, htr, rfl⟩
      have done : trim ps = ps.take m → VSs (bX P w K mg base ["self", "parts", "part", "many"] "Poly.__init__" s_init_poly f cdv A outer s H E) (bodyCv (cfL T) G H0 pn Ev) ⟨[.obj o "Poly" [] [], .val d, s2, .val (.int (m : Nat))], pn⟩ ((defBody s_init_poly).drop 4) { nx := fun S => ∃ ks es, S.ρ[0]? = some (.obj o "Poly" ks es) ∧ Qv (.ins "Poly" ks es) (outPn pn S.pn), rt := fun _ _ => False } := fun hdone => by
        refine vss_one ?_
        refine vs_self 0 ?_ rfl
        refine ve_tupleOf Z.m_tuple ?_
        refine ve_lcL (own := [("part", 2)]) rfl sc_init_poly.nd (blkOk_by rfl) (by simp) (tg_name (i := 2) (by simp)) (fun s H C cl fp => pg_name sc_init_poly.nd rfl (by first | exact Or.inl rfl | exact Or.inr rfl) (by first | exact .inl rfl | exact .inr rfl)) ?_
        refine ve_slU ?_
        refine ve_valE 1 rfl hc ?_
        refine ⟨_, rfl, ?_⟩
        refine ve_val 3 rfl ?_
        refine ⟨_, rfl, ?_⟩
        rw [cutD_take hm]
        refine ⟨_, rfl, fun t acc pn2 => pn2 = pn ∧ acc = (List.range t).map (fun i => rq (cf ps i)), ⟨rfl, rfl⟩, ?_, ?_⟩
        · rintro t x acc pn2 hx ⟨rfl, rfl⟩
          have hx2 : xs[t]? = some x := by rw [List.getElem?_take] at hx; split at hx; exact hx; cases hx
          obtain ⟨hxk, hxr⟩ := hits.2 t x hx2
          refine ⟨_, rfl, ?_⟩
          intro s0 H0 C cl fp Gb Hb
          refine ve_call (V_ratio_of.mono (by decide)) hr takes_blk ?_
          refine va_cons ?_
          refine ve_val 2 rfl ?_
          refine va_nil ?_
          refine ⟨x, rfl, hxk, .inl ⟨_, hxr, ?_⟩⟩
          refine ⟨by cases pn2 <;> rfl, ?_⟩
          exact range_map.symm
        rintro acc pn2 ⟨rfl, rfl⟩
        rw [List.length_take, Nat.min_eq_left hm, map_take (by rw [← hits.1]; exact hm), ← hdone]
        refine ⟨_, _, _, _, rfl, by decide, by decide, Z.cf _ _ (by decide), ?_⟩
        refine ⟨_, _, rfl, ?_⟩
        cases pn2 <;> exact q
      refine vt_w (vw_and ?_)
      refine vt_cmp op_gt ?_ (nomark _)
      refine ve_val 3 rfl ?_
      refine ve_int ?_
      refine rb_gt ?_
      refine ⟨_, rfl, fun hk => ?_, fun hk => ⟨nofun, fun _ => ?_⟩⟩
      · have hm0 : 0 < m := by have := of_decide_eq_true hk; omega
        refine vw_and1 ?_
        have hml : m - 1 < xs.length := by omega
        obtain ⟨x, hx⟩ : ∃ x, xs[m - 1]? = some x := ⟨_, List.getElem?_eq_getElem hml⟩
        obtain ⟨hxk, hxr⟩ := hits.2 _ x hx
        refine vt_cmp (op_eqAll hr) ?_ (nomark _)
        refine ve_fld ?_
        refine ve_call (V_ratio_of.mono (by decide)) hr tk ?_
        refine va_cons ?_
        refine ve_ix ?_
        refine ve_valE 1 rfl hc ?_
        refine ve_bin op_sub ?_
        refine ve_val 3 rfl ?_
        refine ve_int ?_
        refine rb_subI ?_
        refine ⟨_, atI_sub hm0 hx, ?_⟩
        refine va_nil ?_
        refine ⟨x, rfl, hxk, .inl ⟨_, hxr, ?_⟩⟩
        refine ⟨_, _, _, _, rfl, Z.cf _ _ (by decide), rfl, ?_⟩
        refine ve_int ?_
        refine rb_eqAI ?_
        refine ⟨_, rfl, fun hk2 => ?_, fun hk2 => ?_⟩
        · refine vss_one ?_
          refine vs_augI 3 ip_sub rfl ?_ sc_init_poly.nd
          refine ve_int ?_
          refine ⟨_, rfl, ?_⟩
          refine ⟨m - 1, by omega, s2, by omega, ?_, ?_⟩
          · have h5 := trim_take (p := ps) (m := m - 1) (by rw [← hits.1]; omega) (num_zero.mp (of_decide_eq_true hk2))
            rw [Nat.sub_add_cancel hm0, htr] at h5
            exact h5.symm
          · rw [show ((m : Int) - 1) = ((m - 1 : Nat) : Int) by omega]
            cases pn <;> rfl
        · have h6 := take_trimmed (p := ps) (m := m - 1) (by rw [← hits.1]; omega) (fun z => of_decide_eq_false hk2 (num_zero.mpr z))
          rw [Nat.sub_add_cancel hm0, htr] at h6
          cases pn <;> exact done h6
      · have hm0 : m = 0 := by have := of_decide_eq_false hk; omega
        refine done ?_
        rw [← htr]
        exact take_zero hm0
    · refine vss_cons ?_
      refine vs_expr ?_
      refine ve_call (V_need_items.mono (by decide)) hr tk ?_
      refine va_cons ?_
      refine ve_val 1 rfl ?_
      refine va_nil ?_
      refine ⟨d, rfl, hd, .inl ⟨by rw [hc]; rfl, ?_⟩⟩
      refine vss_cons ?_
      refine vs_forT (passes_of rfl) rfl ?_
      refine ve_valE 1 rfl hc ?_
      refine ⟨xs, rfl, fun t S => ∃ s2, S = ⟨[.obj o "Poly" [] [], .val d, s2, .un], pn⟩, ⟨_, by cases pn <;> rfl⟩, ?_, ?_⟩
      · rintro t x S hx ⟨s2, rfl⟩
        obtain ⟨hxk, hxr⟩ := hits.2 t x hx
        refine vg_name 2 ?_ sc_init_poly.nd
        refine vss_one ?_
        refine vs_if ?_
        refine vt_not ?_
        refine vt_truth ?_
        refine ve_call (V_is_ratio.mono (by decide)) hr tk ?_
        refine va_cons ?_
        refine ve_val 2 rfl ?_
        refine va_nil ?_
        refine ⟨x, rfl, hxk, ?_⟩
        rw [rv_ri hxr]
        refine ⟨nofun, fun _ => ?_⟩
        refine vss_nil ?_
        exact ⟨_, by cases pn <;> rfl⟩
      rintro S ⟨s2, rfl⟩
      refine vss_cons ?_
      refine vs_set 3 ?_ ?nd
      case nd => exact sc_init_poly.nd
      refine ve_len Z.m_len ?_
      refine ve_valE 1 rfl hc ?_
      refine vss_cons ?_
      refine vs_while (passes_of rfl) (fun m S => ∃ s2, m ≤ xs.length ∧ trim (ps.take m) = trim ps ∧ S = ⟨[.obj o "Poly" [] [], .val d, s2, .val (.int (m : Nat))], pn⟩) xs.length ⟨s2, Nat.le_refl _, by rw [hits.1, List.take_length], rfl⟩ ?_
      rintro m S ⟨s2, hm, htr, rfl⟩
      have done : trim ps = ps.take m → VSs (bX P w K mg base ["self", "parts", "part", "many"] "Poly.__init__" s_init_poly f cdv A outer s H E) (bodyCv (cfL T) G H0 pn Ev) ⟨[.obj o "Poly" [] [], .val d, s2, .val (.int (m : Nat))], pn⟩ ((defBody s_init_poly).drop 4) { nx := fun S => ∃ ks es, S.ρ[0]? = some (.obj o "Poly" ks es) ∧ Qv (.ins "Poly" ks es) (outPn pn S.pn), rt := fun _ _ => False } := fun hdone => by
        refine vss_one ?_
        refine vs_self 0 ?_ rfl
        refine ve_tupleOf Z.m_tuple ?_
        refine ve_lcT (own := [("part", 2)]) rfl sc_init_poly.nd (blkOk_by rfl) (by simp) (tg_name (i := 2) (by simp)) (fun s H C cl fp => pg_name sc_init_poly.nd rfl (by first | exact Or.inl rfl | exact Or.inr rfl) (by first | exact .inl rfl | exact .inr rfl)) ?_
        refine ve_slUT ?_
        refine ve_valE 1 rfl hc ?_
        refine ⟨_, rfl, ?_⟩
        refine ve_val 3 rfl ?_
        refine ⟨_, rfl, ?_⟩
        rw [cutD_take hm]
        refine ⟨_, rfl, fun t acc pn2 => pn2 = pn ∧ acc = (List.range t).map (fun i => rq (cf ps i)), ⟨rfl, rfl⟩, ?_, ?_⟩
        · rintro t x acc pn2 hx ⟨rfl, rfl⟩
          have hx2 : xs[t]? = some x := by rw [List.getElem?_take] at hx; split at hx; exact hx; cases hx
          obtain ⟨hxk, hxr⟩ := hits.2 t x hx2
          refine ⟨_, rfl, ?_⟩
          intro s0 H0 C cl fp Gb Hb
          refine ve_call (V_ratio_of.mono (by decide)) hr takes_blk ?_
          refine va_cons ?_
          refine ve_val 2 rfl ?_
          refine va_nil ?_
          refine ⟨x, rfl, hxk, .inl ⟨_, hxr, ?_⟩⟩
          refine ⟨by cases pn2 <;> rfl, ?_⟩
          exact range_map.symm
        rintro acc pn2 ⟨rfl, rfl⟩
        rw [List.length_take, Nat.min_eq_left hm, map_take (by rw [← hits.1]; exact hm), ← hdone]
        refine ⟨_, _, _, _, rfl, by decide, by decide, Z.cf _ _ (by decide), ?_⟩
        refine ⟨_, _, rfl, ?_⟩
        cases pn2 <;> exact q
      refine vt_w (vw_and ?_)
      refine vt_cmp op_gt ?_ (nomark _)
      refine ve_val 3 rfl ?_
      refine ve_int ?_
      refine rb_gt ?_
      refine ⟨_, rfl, fun hk => ?_, fun hk => ⟨nofun, fun _ => ?_⟩⟩
      · have hm0 : 0 < m := by have := of_decide_eq_true hk; omega
        refine vw_and1 ?_
        have hml : m - 1 < xs.length := by omega
        obtain ⟨x, hx⟩ : ∃ x, xs[m - 1]? = some x := ⟨_, List.getElem?_eq_getElem hml⟩
        obtain ⟨hxk, hxr⟩ := hits.2 _ x hx
        refine vt_cmp (op_eqAll hr) ?_ (nomark _)
        refine ve_fld ?_
        refine ve_call (V_ratio_of.mono (by decide)) hr tk ?_
        refine va_cons ?_
        refine ve_ix ?_
        refine ve_valE 1 rfl hc ?_
        refine ve_bin op_sub ?_
        refine ve_val 3 rfl ?_
        refine ve_int ?_
        refine rb_subI ?_
        refine ⟨_, atI_sub hm0 hx, ?_⟩
        refine va_nil ?_
        refine ⟨x, rfl, hxk, .inl ⟨_, hxr, ?_⟩⟩
        refine ⟨_, _, _, _, rfl, Z.cf _ _ (by decide), rfl, ?_⟩
        refine ve_int ?_
        refine rb_eqAI ?_
        refine ⟨_, rfl, fun hk2 => ?_, fun hk2 => ?_⟩
        · refine vss_one ?_
          refine vs_augI 3 ip_sub rfl ?_ sc_init_poly.nd
          refine ve_int ?_
          refine ⟨_, rfl, ?_⟩
          refine ⟨m - 1, by omega, s2, by omega, ?_, ?_⟩
          · have h5 := trim_take (p := ps) (m := m - 1) (by rw [← hits.1]; omega) (num_zero.mp (of_decide_eq_true hk2))
            rw [Nat.sub_add_cancel hm0, htr] at h5
            exact h5.symm
          · rw [show ((m : Int) - 1) = ((m - 1 : Nat) : Int) by omega]
            cases pn <;> rfl
        · have h6 := take_trimmed (p := ps) (m := m - 1) (by rw [← hits.1]; omega) (fun z => of_decide_eq_false hk2 (num_zero.mpr z))
          rw [Nat.sub_add_cancel hm0, htr] at h6
          cases pn <;> exact done h6
      · have hm0 : m = 0 := by have := of_decide_eq_false hk; omega
        refine done ?_
        rw [← htr]
        exact take_zero hm0
  · refine vss_cons ?_
    refine vs_expr ?_
    refine ve_call (V_need_items.mono (by decide)) hr tk ?_
    refine va_cons ?_
    refine ve_val 1 rfl ?_
    refine va_nil ?_
    refine ⟨d, rfl, hd, .inr ⟨hno, ?_⟩⟩
    cases pn <;> exact q
  · obtain ⟨i, hib, hbr, hbk, hall⟩ := hbad
    rcases hxs with hc | hc
    · refine vss_cons ?_
      refine vs_expr ?_
      refine ve_call (V_need_items.mono (by decide)) hr tk ?_
      refine va_cons ?_
      refine ve_val 1 rfl ?_
      refine va_nil ?_
      refine ⟨d, rfl, hd, .inl ⟨by rw [hc]; rfl, ?_⟩⟩
      refine vss_cons ?_
      refine vs_forL (passes_of rfl) rfl ?_
      refine ve_valE 1 rfl hc ?_
      refine ⟨xs, rfl, fun t S => t ≤ i ∧ ∃ s2, S = ⟨[.obj o "Poly" [] [], .val d, s2, .un], pn⟩, ⟨Nat.zero_le _, _, by cases pn <;> rfl⟩, ?_, ?_⟩
      · rintro t x S hx ⟨hti, s2, rfl⟩
        refine vg_name 2 ?_ sc_init_poly.nd
        rcases Nat.lt_or_ge t i with hlt | hge
        · obtain ⟨hxk, hxr⟩ := hall t x hlt hx
          refine vss_one ?_
          refine vs_if ?_
          refine vt_not ?_
          refine vt_truth ?_
          refine ve_call (V_is_ratio.mono (by decide)) hr tk ?_
          refine va_cons ?_
          refine ve_val 2 rfl ?_
          refine va_nil ?_
          refine ⟨x, rfl, hxk, ?_⟩
          rw [hxr]
          refine ⟨nofun, fun _ => ?_⟩
          refine vss_nil ?_
          exact ⟨hlt, _, by cases pn <;> rfl⟩
        · have et : t = i := by omega
          subst et
          rw [hib] at hx
          cases hx
          refine vss_one ?_
          refine vs_if ?_
          refine vt_not ?_
          refine vt_truth ?_
          refine ve_call (V_is_ratio.mono (by decide)) hr tk ?_
          refine va_cons ?_
          refine ve_val 2 rfl ?_
          refine va_nil ?_
          refine ⟨b, rfl, hbk, ?_⟩
          rw [hbr]
          refine ⟨fun _ => ?_, nofun⟩
          refine vss_one ?_
          refine vs_raise Z.bv exbBV (hr.mono (by decide)) tk rfl (by decide) ?_
          refine va_cons ?_
          refine ve_val 2 rfl ?_
          refine va_nil ⟨rfl, rfl, ?_⟩
          cases pn <;> exact q
      rintro S ⟨hti, _⟩
      exfalso
      rw [List.getElem?_eq_none (by omega)] at hib
      cases hib
    · refine vss_cons ?_
      refine vs_expr ?_
      refine ve_call (V_need_items.mono (by decide)) hr tk ?_
      refine va_cons ?_
      refine ve_val 1 rfl ?_
      refine va_nil ?_
      refine ⟨d, rfl, hd, .inl ⟨by rw [hc]; rfl, ?_⟩⟩
      refine vss_cons ?_
      refine vs_forT (passes_of rfl) rfl ?_
      refine ve_valE 1 rfl hc ?_
      refine ⟨xs, rfl, fun t S => t ≤ i ∧ ∃ s2, S = ⟨[.obj o "Poly" [] [], .val d, s2, .un], pn⟩, ⟨Nat.zero_le _, _, by cases pn <;> rfl⟩, ?_, ?_⟩
      · rintro t x S hx ⟨hti, s2, rfl⟩
        refine vg_name 2 ?_ sc_init_poly.nd
        rcases Nat.lt_or_ge t i with hlt | hge
        · obtain ⟨hxk, hxr⟩ := hall t x hlt hx
          refine vss_one ?_
          refine vs_if ?_
          refine vt_not ?_
          refine vt_truth ?_
          refine ve_call (V_is_ratio.mono (by decide)) hr tk ?_
          refine va_cons ?_
          refine ve_val 2 rfl ?_
          refine va_nil ?_
          refine ⟨x, rfl, hxk, ?_⟩
          rw [hxr]
          refine ⟨nofun, fun _ => ?_⟩
          refine vss_nil ?_
          exact ⟨hlt, _, by cases pn <;> rfl⟩
        · have et : t = i := by omega
          subst et
          rw [hib] at hx
          cases hx
          refine vss_one ?_
          refine vs_if ?_
          refine vt_not ?_
          refine vt_truth ?_
          refine ve_call (V_is_ratio.mono (by decide)) hr tk ?_
          refine va_cons ?_
          refine ve_val 2 rfl ?_
          refine va_nil ?_
          refine ⟨b, rfl, hbk, ?_⟩
          rw [hbr]
          refine ⟨fun _ => ?_, nofun⟩
          refine vss_one ?_
          refine vs_raise Z.bv exbBV (hr.mono (by decide)) tk rfl (by decide) ?_
          refine va_cons ?_
          refine ve_val 2 rfl ?_
          refine va_nil ⟨rfl, rfl, ?_⟩
          cases pn <;> exact q
      rintro S ⟨hti, _⟩
      exfalso
      rw [List.getElem?_eq_none (by omega)] at hib
      cases hib
abbrev s_part_at : Stmt := top 33
theorem sc_part_at : FnScope ["poly", "number"] ["poly", "number"] (defScope s_part_at) := ⟨rfl, rfl, rfl, by decide +kernel, rfl, by decide +kernel, by decide +kernel⟩
theorem fn_part_at (F : FunD K "part_at" "part_at" (defArgs s_part_at) (defBody s_part_at) (defScope s_part_at) [] kws f fd) (Z : Fx P w K mg base T) (K_Ratio_1 : VMk P w K mg base (cfL T) 4 "Ratio" [.int 1] ctInit) : FnOk P w K mg base (L2.CX P w) 6 f fd ["poly", "number"] (spV (cfL T) K mg ctPAt) := by
  refine fn_body F sc_part_at (by decide) (fun ds pn k e ⟨ps, n, h, _⟩ => by subst h; rfl) fun cdv A outer s H E G ds pn Qv Ev hr tk ⟨ps, n, h, q⟩ => ?_
  subst h
  refine vss_one ?_
  refine vs_ret ?_
  refine ve_ifexp ?_
  refine vt_cmp op_lt ?_ (nomark _)
  refine ve_val 1 rfl ?_
  refine ve_len Z.m_len ?_
  refine ve_fld ?_
  refine ve_val 0 rfl ?_
  refine ⟨_, _, _, _, rfl, Z.cf _ _ (by decide), rfl, ?_⟩
  refine rb_lt ?_
  refine ⟨_, rfl, fun hk => ?_, fun hk => ?_⟩
  · rw [List.length_map] at hk
    have hn : n < ps.length := by have := of_decide_eq_true hk; omega
    refine ve_ix ?_
    refine ve_fld ?_
    refine ve_val 0 rfl ?_
    refine ⟨_, _, _, _, rfl, Z.cf _ _ (by decide), rfl, ?_⟩
    refine ve_val 1 rfl ?_
    refine ⟨_, atI_of (rqs_get hn), ?_⟩
    cases pn <;> exact q
  · rw [List.length_map] at hk
    have hn : ps.length ≤ n := by have := of_decide_eq_false hk; omega
    refine ve_make K_Ratio_1 (hr.mono (by decide)) tk ?_
    refine va_cons ?_
    refine ve_int ?_
    refine va_nil ?_
    refine mk_int (by decide) (Nat.one_lt_two_pow (by decide)) (div_one 0) ?_
    rw [show ((0 : Int) : Rat) = cf ps n from (cf_ge hn).symm]
    cases pn <;> exact q
abbrev s_poly_beside : Stmt := top 32
theorem sc_poly_beside : FnScope ["value"] ["value"] (defScope s_poly_beside) := ⟨rfl, rfl, rfl, by decide +kernel, rfl, by decide +kernel, by decide +kernel⟩
theorem fn_poly_beside (F : FunD K "poly_beside" "poly_beside" (defArgs s_poly_beside) (defBody s_poly_beside) (defScope s_poly_beside) [] kws f fd) (Z : Fx P w K mg base T) (V_is_ratio : VFn P w K mg base (cfL T) 2 "is_ratio" [] ctIsR) (K_Poly_0 : VMk P w K mg base (cfL T) 7 "Poly" [] ctPInit) : FnOk P w K mg base (L2.CX P w) 9 f fd ["value"] (spV (cfL T) K mg ctPBes) := by
  refine fn_body F sc_poly_beside (by decide) (fun ds pn k e ⟨d, h, _⟩ => by subst h; rfl) fun cdv A outer s H E G ds pn Qv Ev hr tk ⟨d, h, hd, q⟩ => ?_
  subst h
  rcases q with ⟨ps, ev, q⟩ | ⟨y, ev, q⟩ | ⟨n1, n2, n3, q⟩
  · refine vss_cons ?_
    refine vs_if ?_
    refine vt_truth ?_
    refine ve_isinst Z.m_isinstance ?_
    refine va_cons ?_
    refine ve_valC 0 rfl ?_
    refine va_cons ?_
    refine ve_cref ?_ (Z.has (by decide))
    refine va_nil ?_
    refine ⟨_, _, _, rfl, isA_C Z hd (by decide), ?_⟩
    rw [ev]
    refine ⟨fun _ => ?_, nofun⟩
    refine vss_one ?_
    refine vs_ret ?_
    refine ve_valE 0 rfl ev ?_
    cases pn <;> exact q
  · have nP : isC "Poly" (core d) = false := by
      rcases ev with ev | ⟨i, ev, _⟩ <;> rw [ev]
      · exact isC_rP _
      · rfl
    refine vss_cons ?_
    refine vs_if ?_
    refine vt_truth ?_
    refine ve_isinst Z.m_isinstance ?_
    refine va_cons ?_
    refine ve_valC 0 rfl ?_
    refine va_cons ?_
    refine ve_cref ?_ (Z.has (by decide))
    refine va_nil ?_
    refine ⟨_, _, _, rfl, isA_C Z hd (by decide), ?_⟩
    rw [nP]
    refine ⟨nofun, fun _ => ?_⟩
    refine vss_nil ?_
    refine vss_cons ?_
    refine vs_if ?_
    refine vt_truth ?_
    refine ve_call (V_is_ratio.mono (by decide)) hr tk ?_
    refine va_cons ?_
    refine ve_val 0 rfl ?_
    refine va_nil ?_
    refine ⟨d, rfl, hd, ?_⟩
    rw [rv_ri ev]
    refine ⟨fun _ => ?_, nofun⟩
    refine vss_one ?_
    refine vs_ret ?_
    refine ve_make K_Poly_0 (hr.mono (by decide)) tk ?_
    refine va_cons ?_
    refine ve_lst ?_
    refine va_cons ?_
    refine ve_val 0 rfl ?_
    refine va_nil ⟨by rw [sizeLine_eq]; simp, ?_⟩
    refine va_nil ?_
    refine mk_poly (its_one hd ev) ?_
    cases pn <;> exact q
  · refine vss_cons ?_
    refine vs_if ?_
    refine vt_truth ?_
    refine ve_isinst Z.m_isinstance ?_
    refine va_cons ?_
    refine ve_valC 0 rfl ?_
    refine va_cons ?_
    refine ve_cref ?_ (Z.has (by decide))
    refine va_nil ?_
    refine ⟨_, _, _, rfl, isA_C Z hd (by decide), ?_⟩
    rw [n1]
    refine ⟨nofun, fun _ => ?_⟩
    refine vss_nil ?_
    refine vss_cons ?_
    refine vs_if ?_
    refine vt_truth ?_
    refine ve_call (V_is_ratio.mono (by decide)) hr tk ?_
    refine va_cons ?_
    refine ve_val 0 rfl ?_
    refine va_nil ?_
    refine ⟨d, rfl, hd, ?_⟩
    rw [n2]
    refine ⟨nofun, fun _ => ?_⟩
    refine vss_nil ?_
    refine vss_cons ?_
    refine vs_if ?_
    refine vt_w (vw_or ?_)
    by_cases hN : core d = .non
    · refine vt_cmp op_isNone ?_ (nomark _)
      refine ve_valC 0 rfl ?_
      refine ve_non ?_
      refine rb_isNone (.inl ⟨hN, rfl⟩) ?_
      refine ⟨_, rfl, ?_⟩
      refine ⟨fun _ => ⟨fun _ => ?_, nofun⟩, nofun⟩
      refine vss_one ?_
      refine vs_raise Z.bv exbBV (hr.mono (by decide)) tk rfl (by decide) ?_
      refine va_cons ?_
      refine ve_val 0 rfl ?_
      refine va_nil ⟨rfl, rfl, ?_⟩
      cases pn <;> exact q
    · refine vt_cmp op_isNone ?_ (nomark _)
      refine ve_valC 0 rfl ?_
      refine ve_non ?_
      refine rb_isNone (.inr ⟨hN, rfl⟩) ?_
      refine ⟨_, rfl, ?_⟩
      refine ⟨nofun, fun _ => ?_⟩
      refine vw_or1 ?_
      refine vt_truth ?_
      refine ve_isinstT Z.m_isinstance ?_
      refine va_cons ?_
      refine ve_valC 0 rfl ?_
      refine va_cons ?_
      refine ve_tup ?_
      refine va_cons ?_
      refine ve_ty (T := "bool") ?_ Z.m_bool (by decide +kernel)
      refine va_cons ?_
      refine ve_ty (T := "str") ?_ Z.m_str (by decide +kernel)
      refine va_cons ?_
      refine ve_ty (T := "list") ?_ Z.m_list (by decide +kernel)
      refine va_cons ?_
      refine ve_ty (T := "tuple") ?_ Z.m_tuple (by decide +kernel)
      refine va_cons ?_
      refine ve_ty (T := "dict") ?_ Z.m_dict (by decide +kernel)
      refine va_nil ⟨by rw [sizeLine_eq]; simp, ?_⟩
      refine va_nil ?_
      obtain ⟨t, ht, hkt⟩ := kitA_kd Z hd (tp := tup5) (by decide)
      refine ⟨_, tup5, t, _, rfl, ht, insF_kd Z hd, hkt, ?_⟩
      rw [odd_five hd n2 n3 hN]
      refine ⟨fun _ => ?_, nofun⟩
      refine vss_one ?_
      refine vs_raise Z.bv exbBV (hr.mono (by decide)) tk rfl (by decide) ?_
      refine va_cons ?_
      refine ve_val 0 rfl ?_
      refine va_nil ⟨rfl, rfl, ?_⟩
      cases pn <;> exact q
abbrev s_poly_total : Stmt := top 35
theorem sc_poly_total : FnScope ["one", "other", "sign", "many", "at"] ["one", "other", "sign"] (defScope s_poly_total) := ⟨rfl, rfl, rfl, by decide +kernel, rfl, by decide +kernel, by decide +kernel⟩
theorem fn_poly_total (F : FunD K "poly_total" "poly_total" (defArgs s_poly_total) (defBody s_poly_total) (defScope s_poly_total) [] kws f fd) (Z : Fx P w K mg base T) (V_part_at : VFn P w K mg base (cfL T) 6 "part_at" [] ctPAt) (K_Poly_0 : VMk P w K mg base (cfL T) 7 "Poly" [] ctPInit) (M_Ratio_add : VMeth P w K mg base (cfL T) 7 "Ratio" "__add__" [] (ctBin fun x y => x + y)) (M_Ratio_mul : VMeth P w K mg base (cfL T) 7 "Ratio" "__mul__" [] (ctBin fun x y => x * y)) : FnOk P w K mg base (L2.CX P w) 9 f fd ["one", "other", "sign"] (spV (cfL T) K mg ctPTot) := by
  refine fn_body F sc_poly_total (by decide) (fun ds pn k e ⟨p, q, s, h, _⟩ => by subst h; rfl) fun cdv A outer s H E G ds pn Qv Ev hr tk ⟨p, q, s, h, lp, lq, okp, okq, oks, okm, hq⟩ => ?_
  subst h
  rw [← du_A] at M_Ratio_add
  rw [← du_M] at M_Ratio_mul
  refine vss_cons ?_
  refine vs_set 3 ?_ ?nd
  case nd => exact sc_poly_total.nd
  refine ve_max2 Z.m_max rfl ?_
  refine va_cons ?_
  refine ve_len Z.m_len ?_
  refine ve_fld ?_
  refine ve_val 0 rfl ?_
  refine ⟨_, _, _, _, rfl, Z.cf _ _ (by decide), rfl, ?_⟩
  refine va_cons ?_
  refine ve_len Z.m_len ?_
  refine ve_fld ?_
  refine ve_val 1 rfl ?_
  refine ⟨_, _, _, _, rfl, Z.cf _ _ (by decide), rfl, ?_⟩
  refine va_nil ?_
  refine ⟨_, _, rfl, ?_⟩
  rw [List.length_map, List.length_map, max_nat]
  refine vss_one ?_
  refine vs_ret ?_
  refine ve_make K_Poly_0 (hr.mono (by decide)) tk ?_
  refine va_cons ?_
  refine ve_lcR (own := [("at", 4)]) rfl sc_poly_total.nd (blkOk_by rfl) (by simp) Z.m_range (tg_name (i := 4) (by simp)) (fun s H C cl fp => pg_name sc_poly_total.nd rfl (by first | exact Or.inl rfl | exact Or.inr rfl) (by first | exact .inl rfl | exact .inr rfl)) ?_
  refine ve_val 3 rfl ?_
  refine ⟨_, rfl, by rw [sizeLine_eq]; omega, by omega, fun t acc pn2 => pn2 = pn ∧ acc = (List.range t).map (fun n => rq (cf p n + cf q n * (s : Rat))), ⟨by cases pn <;> rfl, rfl⟩, ?_, ?_⟩
  · rintro t acc pn2 ht ⟨rfl, rfl⟩
    refine ⟨_, rfl, ?_⟩
    intro s0 H0 C cl fp Gb Hb
    refine ve_opS (op := .Add) (ks := ksRatio) (ks2 := ksRatio) (M_Ratio_add.mono (by decide)) hr takes_blk (Z.self _ (by decide)) ?_
    refine ve_call (V_part_at.mono (by decide)) hr takes_blk ?_
    refine va_cons ?_
    refine ve_val 0 rfl ?_
    refine va_cons ?_
    refine ve_val 4 rfl ?_
    refine va_nil ?_
    refine ⟨p, t, rfl, ?_⟩
    refine ve_opL (op := .Mult) (ks := ksRatio) (M_Ratio_mul.mono (by decide)) hr takes_blk ?_
    refine ve_call (V_part_at.mono (by decide)) hr takes_blk ?_
    refine va_cons ?_
    refine ve_val 1 rfl ?_
    refine va_cons ?_
    refine ve_val 4 rfl ?_
    refine va_nil ?_
    refine ⟨q, t, rfl, ?_⟩
    refine ve_val 2 rfl ?_
    refine ⟨_, "int", rfl, rfl, Z.opl _ (by decide) .Mult (by decide) "int" (by decide), ⟨_, _, rfl, okq t, rop_int ⟨oks, ?_⟩⟩⟩
    refine ⟨_, _, rfl, rfl, ⟨_, _, rfl, okp t, rop_rq ⟨okm t, ?_⟩⟩⟩
    refine ⟨by cases pn2 <;> rfl, ?_⟩
    exact range_map.symm
  rintro acc pn2 ⟨rfl, rfl⟩
  rw [Int.toNat_natCast]
  refine va_nil ?_
  refine mk_poly its_range ?_
  cases pn2 <;> exact hq
abbrev s_Poly_sub : Stmt := metPoly 4
theorem sc_Poly_sub : FnScope ["self", "other"] ["self", "other"] (defScope s_Poly_sub) := ⟨rfl, rfl, rfl, by decide +kernel, rfl, by decide +kernel, by decide +kernel⟩
theorem fn_Poly_sub (F : FunD K "__sub__" "Poly.__sub__" (defArgs s_Poly_sub) (defBody s_Poly_sub) (defScope s_Poly_sub) [] kws f fd) (Z : Fx P w K mg base T) (V_poly_beside : VFn P w K mg base (cfL T) 9 "poly_beside" [] ctPBes) (V_poly_total : VFn P w K mg base (cfL T) 9 "poly_total" [] ctPTot) : FnOk P w K mg base (L2.CX P w) 10 f fd ["self", "other"] (spV (cfL T) K mg ctPSubS) := by
  refine fn_body F sc_Poly_sub (by decide) (fun ds pn k e ⟨p, q, h, _⟩ => by subst h; rfl) fun cdv A outer s H E G ds pn Qv Ev hr tk ⟨p, q, h, lp, lq, okp, okq, hq⟩ => ?_
  subst h
  refine vss_cons ?_
  refine vs_set 1 ?_ ?nd
  case nd => exact sc_Poly_sub.nd
  refine ve_call (V_poly_beside.mono (by decide)) hr tk ?_
  refine va_cons ?_
  refine ve_val 1 rfl ?_
  refine va_nil ?_
  refine ⟨_, rfl, kd_ins (by decide), .inl ⟨q, rfl, ?_⟩⟩
  refine vss_cons ?_
  refine vs_if ?_
  refine vt_cmp op_isNone ?_ (nomark _)
  refine ve_val 1 rfl ?_
  refine ve_non ?_
  refine rb_isNone (.inr ⟨(fun z => nomatch z), rfl⟩) ?_
  refine ⟨_, rfl, nofun, fun _ => ?_⟩
  refine vss_nil ?_
  refine vss_one ?_
  refine vs_ret ?_
  refine ve_call (V_poly_total.mono (by decide)) hr tk ?_
  refine va_cons ?_
  refine ve_val 0 rfl ?_
  refine va_cons ?_
  refine ve_val 1 rfl ?_
  refine va_cons ?_
  refine ve_neg ?_
  refine ve_int ?_
  refine ⟨_, rfl, ?_⟩
  refine va_nil ?_
  refine ⟨p, q, -1, rfl, lp, lq, okp, okq, okr_int (Nat.one_lt_two_pow (by decide)), fun n => by rw [mul_m1]; exact (okq n).neg, ?_⟩
  cases pn <;> exact hq
abbrev s_poly_divided : Stmt := top 37
theorem sc_poly_divided : FnScope ["one", "other", "rest", "many", "lead", "out", "at", "factor", "place"] ["one", "other"] (defScope s_poly_divided) := ⟨rfl, rfl, rfl, by decide +kernel, rfl, by decide +kernel, by decide +kernel⟩
theorem fn_poly_divided (F : FunD K "poly_divided" "poly_divided" (defArgs s_poly_divided) (defBody s_poly_divided) (defScope s_poly_divided) [] kws f fd) (Z : Fx P w K mg base T) (V_turned_over : VFn P w K mg base (cfL T) 6 "turned_over" [] ctTurn) (K_Poly_0 : VMk P w K mg base (cfL T) 7 "Poly" [] ctPInit) (M_Ratio_sub : VMeth P w K mg base (cfL T) 7 "Ratio" "__sub__" [] (ctBin fun x y => x - y)) (M_Ratio_mul : VMeth P w K mg base (cfL T) 7 "Ratio" "__mul__" [] (ctBin fun x y => x * y)) : FnOk P w K mg base (L2.CX P w) 9 f fd ["one", "other"] (spV (cfL T) K mg ctPDiv) := by
  refine fn_body F sc_poly_divided (by decide) (fun ds pn k e ⟨p, b, q, r, h, _⟩ => by subst h; rfl) fun cdv A outer s H E G ds pn Qv Ev hr tk ⟨p, b, q, r, h, hD, hq⟩ => ?_
  subst h
  rw [← du_S] at M_Ratio_sub
  rw [← du_M] at M_Ratio_mul
  have hb := hD.pos
  have bl : (b.map rq).length = b.length := List.length_map _
  refine vss_cons ?_
  refine vs_asg ?_
  refine ve_tup ?_
  refine va_cons ?_
  refine ve_listOf Z.m_list ?_
  refine ve_fld ?_
  refine ve_val 0 rfl ?_
  refine ⟨_, _, _, _, rfl, Z.cf _ _ (by decide), rfl, ?_⟩
  refine va_cons ?_
  refine ve_len Z.m_len ?_
  refine ve_fld ?_
  refine ve_val 1 rfl ?_
  refine ⟨_, _, _, _, rfl, Z.cf _ _ (by decide), rfl, ?_⟩
  refine va_nil ⟨by rw [sizeLine_eq]; simp, ?_⟩
  refine vg_tup ?_ rfl
  refine vgs_cons (vg_name 2 ?_ sc_poly_divided.nd)
  refine vgs_cons (vg_name 3 ?_ sc_poly_divided.nd)
  refine vgs_nil ?_
  rw [bl]
  refine vss_cons ?_
  refine vs_set 4 ?_ ?nd
  case nd => exact sc_poly_divided.nd
  refine ve_call (V_turned_over.mono (by decide)) hr tk ?_
  refine va_cons ?_
  refine ve_ix ?_
  refine ve_fld ?_
  refine ve_val 1 rfl ?_
  refine ⟨_, _, _, _, rfl, Z.cf _ _ (by decide), rfl, ?_⟩
  refine ve_neg ?_
  refine ve_int ?_
  refine ⟨_, rfl, ?_⟩
  refine ⟨_, rq_last hb, ?_⟩
  refine va_nil ?_
  refine ⟨_, rfl, hD.okb _, hD.lead, ?_⟩
  refine vss_cons ?_
  refine vs_setOwn 5 ?_ sc_poly_divided.nd
  refine va_nil ⟨by rw [sizeLine_eq]; simp, ?_⟩
  refine vss_cons ?_
  refine vs_while (passes_of rfl) (fun m S => ∃ (R os : List Rat) (s6 s7 s8 : Sl), S = ⟨[.val (poly p), .val (poly b), .val (.lst (R.map rq)), .val (.int b.length), .val (rq (cf b (b.length - 1))⁻¹), .own (os.map rq), s6, s7, s8], pn⟩ ∧ os.length + m = q.length ∧ os.reverse = q.drop m ∧ ((m = q.length ∧ R = p) ∨ R = leftD b q r m)) q.length ⟨p, [], _, _, _, rfl, Nat.zero_add _, by rw [List.drop_length]; rfl, .inl ⟨rfl, rfl⟩⟩ ?_
  rintro m S ⟨R, os, s6, s7, s8, rfl, hos, hrev, hR⟩
  have hR2 : (m = 0 ∧ trim R = r ∧ R.length < b.length) ∨ ∃ j, m = j + 1 ∧ R = leftD b q r (j + 1) := by
    rcases hR with ⟨hm, hp⟩ | hp
    · by_cases hqn : q = []
      · left
        have e := hD.nil hqn
        subst hqn
        subst hp
        exact ⟨hm, by rw [e]; exact trim_self hD.tr, by rw [e]; exact hD.lr⟩
      · right
        have h0 : 0 < q.length := List.length_pos_iff.mpr hqn
        refine ⟨q.length - 1, by omega, ?_⟩
        rw [Nat.sub_add_cancel h0, hp]
        exact hD.start hqn
    · rcases m with _ | j
      · left
        exact ⟨rfl, by rw [hp]; exact hD.stop, by rw [hp, leftD_len]; omega⟩
      · exact .inr ⟨j, rfl, hp⟩
  refine vt_cmp op_ge ?_ (nomark _)
  refine ve_len Z.m_len ?_
  refine ve_val 2 rfl ?_
  refine ve_val 3 rfl ?_
  refine rb_ge ?_
  refine ⟨_, rfl, fun hk => ?_, fun hk => ?_⟩
  · rw [List.length_map] at hk
    rcases hR2 with ⟨_, _, hl⟩ | ⟨j, rfl, hR2⟩
    · exfalso
      have := of_decide_eq_true hk
      omega
    have hRl : R.length = j + b.length := by rw [hR2, leftD_len]; omega
    have hjq : j < q.length := by omega
    have hqn : q ≠ [] := fun z => by subst z; simp at hjq
    have hpl := hD.len
    rw [if_neg hqn] at hpl
    have hsm := hD.small
    have hcR : ∀ n, n < j + b.length → cf R n = S (cf q) (cf b) (j + 1) n + cf r n := fun n hn => by rw [hR2, cf_leftD (by omega)]
    have okR : ∀ n, Okr (cf R n) := fun n => by
      by_cases hn : n < j + b.length
      · rw [hcR n hn]; exact hD.oks _ _ (by omega)
      · rw [cf_ge (by omega)]; exact okr_zero
    have hfac : cf R (R.length - 1) * (cf b (b.length - 1))⁻¹ = cf q j := by
      have e5 := hD.top j
      rw [show j + (b.length - 1) = R.length - 1 by omega] at e5
      rw [hcR _ (by omega), e5, Rat.mul_assoc, Rat.mul_inv_cancel _ hD.lead, Rat.mul_one]
    refine vss_cons ?_
    refine vs_asg ?_
    refine ve_tup ?_
    refine va_cons ?_
    refine ve_bin op_sub ?_
    refine ve_len Z.m_len ?_
    refine ve_val 2 rfl ?_
    refine ve_val 3 rfl ?_
    refine rb_subI ?_
    refine va_cons ?_
    refine ve_opS (op := .Mult) (ks := ksRatio) (ks2 := ksRatio) (M_Ratio_mul.mono (by decide)) hr tk (Z.self _ (by decide)) ?_
    refine ve_ix ?_
    refine ve_val 2 rfl ?_
    refine ve_neg ?_
    refine ve_int ?_
    refine ⟨_, rfl, ?_⟩
    refine ⟨_, rq_last (by omega), ?_⟩
    refine ve_val 4 rfl ?_
    refine ⟨_, _, rfl, rfl, ⟨_, _, rfl, okR _, rop_rq ⟨hD.oki, ?_⟩⟩⟩
    dsimp only
    rw [hfac]
    refine va_nil ⟨by rw [sizeLine_eq]; simp, ?_⟩
    refine vg_tup ?_ rfl
    refine vgs_cons (vg_name 6 ?_ sc_poly_divided.nd)
    refine vgs_cons (vg_name 7 ?_ sc_poly_divided.nd)
    refine vgs_nil ?_
    rw [List.length_map, show ((R.length : Int) - (b.length : Int)) = ((j : Nat) : Int) by omega]
    refine vss_cons ?_
    refine vs_append 5 rfl rfl ?_
    refine ve_val 7 rfl ?_
    refine ⟨rfl, by rw [List.length_map, sizeLine_eq]; omega, ?_⟩
    refine vss_one ?_
    refine vs_set 2 ?_ ?nd
    case nd => exact sc_poly_divided.nd
    refine ve_bin op_addAll ?_
    refine ve_slU ?_
    refine ve_val 2 rfl ?_
    refine ⟨_, rfl, ?_⟩
    refine ve_val 6 rfl ?_
    refine ⟨_, rfl, ?_⟩
    rw [cutD_take (by rw [List.length_map]; omega), ← List.map_take]
    refine ve_lcR (own := [("place", 8)]) rfl sc_poly_divided.nd (blkOk_by rfl) (by simp) Z.m_range (tg_name (i := 8) (by simp)) (fun s H C cl fp => pg_name sc_poly_divided.nd rfl (by first | exact Or.inl rfl | exact Or.inr rfl) (by first | exact .inl rfl | exact .inr rfl)) ?_
    refine ve_bin op_sub ?_
    refine ve_val 3 rfl ?_
    refine ve_int ?_
    refine rb_subI ?_
    rw [show ((b.length : Int) - 1) = ((b.length - 1 : Nat) : Int) by omega]
    refine ⟨_, rfl, by rw [sizeLine_eq]; omega, by omega, fun t acc pn2 => pn2 = pn ∧ acc = (List.range t).map (fun i => rq (cf R (j + i) - cf q j * cf b i)), ⟨by cases pn <;> rfl, rfl⟩, ?_, ?_⟩
    · rintro t acc pn2 ht ⟨rfl, rfl⟩
      refine ⟨_, rfl, ?_⟩
      intro s0 H0 C cl fp Gb Hb
      refine ve_opS (op := .Sub) (ks := ksRatio) (ks2 := ksRatio) (M_Ratio_sub.mono (by decide)) hr takes_blk (Z.self _ (by decide)) ?_
      refine ve_ix ?_
      refine ve_val 2 rfl ?_
      refine ve_bin op_addAll ?_
      refine ve_val 6 rfl ?_
      refine ve_val 8 rfl ?_
      refine rb_addI ?_
      refine ⟨rq (cf R (j + t)), ?ix1, ?_⟩
      case ix1 => rw [show ((j : Int) + (t : Int)) = ((j + t : Nat) : Int) by omega]; exact atI_of (rqs_get (by omega))
      refine ve_opS (op := .Mult) (ks := ksRatio) (ks2 := ksRatio) (M_Ratio_mul.mono (by decide)) hr takes_blk (Z.self _ (by decide)) ?_
      refine ve_val 7 rfl ?_
      refine ve_ix ?_
      refine ve_fld ?_
      refine ve_val 1 rfl ?_
      refine ⟨_, _, _, _, rfl, Z.cf _ _ (by decide), rfl, ?_⟩
      refine ve_val 8 rfl ?_
      refine ⟨rq (cf b t), atI_of (rqs_get (by omega)), ?_⟩
      refine ⟨_, _, rfl, rfl, ⟨_, _, rfl, hD.okq j, rop_rq ⟨hD.okb t, ?_⟩⟩⟩
      refine ⟨_, _, rfl, rfl, ⟨_, _, rfl, okR _, rop_rq ⟨hD.okm j t, ?_⟩⟩⟩
      refine ⟨by cases pn2 <;> rfl, ?_⟩
      exact range_map.symm
    rintro acc pn2 ⟨rfl, rfl⟩
    rw [Int.toNat_natCast]
    refine rb_addL (by rw [List.length_map, List.length_take, List.length_map, List.length_range, sizeLine_eq]; omega) ?_
    have eL : (R.take j).map rq ++ (List.range (b.length - 1)).map (fun i => rq (cf R (j + i) - cf q j * cf b i)) = (leftD b q r j).map rq := by
      rw [leftD_step hb, List.map_append, ← hR2, List.map_map]; rfl
    rw [eL]
    refine ⟨j, Nat.lt_succ_self j, leftD b q r j, os ++ [cf q j], _, _, _, by rw [List.map_append]; cases pn2 <;> rfl, by rw [List.length_append]; simp; omega, ?_, .inr rfl⟩
    rw [List.reverse_append, hrev, List.drop_eq_getElem_cons hjq]
    have e7 := cf_lt hjq
    rw [List.getElem?_eq_getElem hjq] at e7
    rw [Option.some.inj e7]; rfl
  · rw [List.length_map] at hk
    rcases hR2 with ⟨rfl, hR2, _⟩ | ⟨j, rfl, hR2⟩
    rotate_left
    · exfalso
      have e6 : R.length = j + 1 + (b.length - 1) := by rw [hR2, leftD_len]
      have := of_decide_eq_false hk
      omega
    refine vss_one ?_
    refine vs_ret ?_
    refine ve_tup ?_
    refine va_cons ?_
    refine ve_make K_Poly_0 (hr.mono (by decide)) tk ?_
    refine va_cons ?_
    refine ve_listRev Z.m_list Z.m_reversed rfl ?_
    refine ve_freeze 5 rfl rfl ?_
    refine ⟨_, rfl, ?_⟩
    refine va_nil ?_
    refine mk_poly (ps := os.reverse) ?_ ?_
    · rw [← List.map_reverse]; exact its_rq _
    rw [hrev, List.drop_zero, trim_self hD.tq]
    refine va_cons ?_
    refine ve_make K_Poly_0 (hr.mono (by decide)) tk ?_
    refine va_cons ?_
    refine ve_val 2 rfl ?_
    refine va_nil ?_
    refine mk_poly (its_rq R) ?_
    rw [hR2]
    refine va_nil ⟨by rw [sizeLine_eq]; simp, ?_⟩
    cases pn <;> exact hq
abbrev s_Poly_divided : Stmt := metPoly 18
theorem sc_Poly_divided : FnScope ["self", "other"] ["self", "other"] (defScope s_Poly_divided) := ⟨rfl, rfl, rfl, by decide +kernel, rfl, by decide +kernel, by decide +kernel⟩
theorem fn_Poly_divided (F : FunD K "divided" "Poly.divided" (defArgs s_Poly_divided) (defBody s_Poly_divided) (defScope s_Poly_divided) [] kws f fd) (Z : Fx P w K mg base T) (V_poly_divided : VFn P w K mg base (cfL T) 9 "poly_divided" [] ctPDiv) : FnOk P w K mg base (L2.CX P w) 10 f fd ["self", "other"] (spV (cfL T) K mg ctPDivd) := by
  refine fn_body F sc_Poly_divided (by decide) (fun ds pn k e ⟨p, d, h, _⟩ => by subst h; rfl) fun cdv A outer s H E G ds pn Qv Ev hr tk ⟨p, d, h, hd, q⟩ => ?_
  subst h
  rcases q with ⟨b, q2, r, ev, hD, q⟩ | ⟨n1, q⟩ | ⟨ev, q⟩
  · refine vss_cons ?_
    refine vs_if ?_
    refine vt_not ?_
    refine vt_truth ?_
    refine ve_isinst Z.m_isinstance ?_
    refine va_cons ?_
    refine ve_valC 1 rfl ?_
    refine va_cons ?_
    refine ve_cref ?_ (Z.has (by decide))
    refine va_nil ?_
    refine ⟨_, _, _, rfl, isA_C Z hd (by decide), ?_⟩
    rw [ev]
    refine ⟨nofun, fun _ => ?_⟩
    refine vss_nil ?_
    refine vss_cons ?_
    refine vs_if ?_
    refine vt_not ?_
    refine vt_truth ?_
    refine ve_fld ?_
    refine ve_valE 1 rfl ev ?_
    refine ⟨_, _, _, _, rfl, Z.cf _ _ (by decide), rfl, ?_⟩
    have hne : (b.map rq).isEmpty = false := by cases b with | nil => exact absurd rfl hD.nb | cons => rfl
    unfold truP
    dsimp only
    rw [hne]
    refine ⟨nofun, fun _ => ?_⟩
    refine vss_nil ?_
    refine vss_one ?_
    refine vs_ret ?_
    refine ve_call (V_poly_divided.mono (by decide)) hr tk ?_
    refine va_cons ?_
    refine ve_val 0 rfl ?_
    refine va_cons ?_
    refine ve_valE 1 rfl ev ?_
    refine va_nil ?_
    refine ⟨p, b, q2, r, rfl, hD, ?_⟩
    cases pn <;> exact q
  · refine vss_cons ?_
    refine vs_if ?_
    refine vt_not ?_
    refine vt_truth ?_
    refine ve_isinst Z.m_isinstance ?_
    refine va_cons ?_
    refine ve_valC 1 rfl ?_
    refine va_cons ?_
    refine ve_cref ?_ (Z.has (by decide))
    refine va_nil ?_
    refine ⟨_, _, _, rfl, isA_C Z hd (by decide), ?_⟩
    rw [n1]
    refine ⟨fun _ => ?_, nofun⟩
    refine vss_one ?_
    refine vs_raise Z.bv exbBV (hr.mono (by decide)) tk rfl (by decide) ?_
    refine va_cons ?_
    refine ve_val 1 rfl ?_
    refine va_nil ⟨rfl, rfl, ?_⟩
    cases pn <;> exact q
  · refine vss_cons ?_
    refine vs_if ?_
    refine vt_not ?_
    refine vt_truth ?_
    refine ve_isinst Z.m_isinstance ?_
    refine va_cons ?_
    refine ve_valC 1 rfl ?_
    refine va_cons ?_
    refine ve_cref ?_ (Z.has (by decide))
    refine va_nil ?_
    refine ⟨_, _, _, rfl, isA_C Z hd (by decide), ?_⟩
    rw [ev]
    refine ⟨nofun, fun _ => ?_⟩
    refine vss_nil ?_
    refine vss_cons ?_
    refine vs_if ?_
    refine vt_not ?_
    refine vt_truth ?_
    refine ve_fld ?_
    refine ve_valE 1 rfl ev ?_
    refine ⟨_, _, _, _, rfl, Z.cf _ _ (by decide), rfl, ?_⟩
    refine ⟨fun _ => ?_, nofun⟩
    refine vss_one ?_
    refine vs_raise0 Z.nd tk rfl ?_
    cases pn <;> exact q
end
end My
set_option Elab.async false
set_option linter.all false
set_option maxRecDepth 100000
set_option maxHeartbeats 4000000
namespace My
open PySem PySem.Spec PyProof.Rows L2 VL NdefX
def ctDraw : Ct where
  run ds pn k e := ∃ (p : Addr) (r : Nat) (m : Int), ds = [.adr p, .int m] ∧ pn = some (p, .bud (r + 1)) ∧ 1 ≤ m ∧ m ≤ 2 ^ 60 ∧ ∀ v : Int, 0 ≤ v → v < m → k (.int v) (some (p, .bud r))
  mono := fun ⟨p, r, m, h1, h2, h3, h4, q⟩ hk he => ⟨p, r, m, h1, h2, h3, h4, fun v h5 h6 => hk _ _ (q v h5 h6)⟩
def ctPick : Ct where
  run ds pn k e := ∃ (p : Addr) (r : Nat) (xs : List D), ds = [.adr p, .lst xs] ∧ pn = some (p, .bud (r + 1)) ∧ xs ≠ [] ∧ xs.length ≤ 1000000 ∧ ∀ d ∈ xs, k d (some (p, .bud r))
  mono := fun ⟨p, r, xs, h1, h2, h3, h4, q⟩ hk he => ⟨p, r, xs, h1, h2, h3, h4, fun d hd => hk _ _ (q d hd)⟩
def ctWide : Ct where
  run ds pn k e := ∃ (p : Addr) (r n : Nat), ds = [.adr p, .int n] ∧ n ≤ 13 ∧ pn = some (p, .bud (r + 13)) ∧ ∀ v : Int, 0 ≤ v → v < 10 ^ (7 * n) → k (.int v) (some (p, .bud r))
  mono := fun ⟨p, r, n, h1, h2, h3, q⟩ hk he => ⟨p, r, n, h1, h2, h3, fun v h5 h6 => hk _ _ (q v h5 h6)⟩
theorem wide_step {v u : Int} {t : Nat} (h1 : v < 10 ^ (7 * t)) (h2 : u < 10 ^ Int.toNat 7) (h3 : 0 ≤ v) : v * 10 ^ Int.toNat 7 + u < 10 ^ (7 * (t + 1)) := by
  have e : (10 : Int) ^ (7 * (t + 1)) = 10 ^ (7 * t) * 10000000 := by rw [Nat.mul_add, Int.pow_add]; rfl
  have e7 : (10 : Int) ^ Int.toNat 7 = 10000000 := by decide
  rw [e]
  rw [e7] at h2 ⊢
  have : v + 1 ≤ 10 ^ (7 * t) := h1
  have h := Int.mul_le_mul_of_nonneg_right this (show (0 : Int) ≤ 10000000 by decide)
  rw [Int.add_mul] at h
  omega
def ctLow : Ct where
  run ds pn k e := ∃ a b : Int, ds = [.int a, .int b] ∧ b ≠ 0 ∧ b.natAbs < 2 ^ 9000 ∧ k (tq (Rat.divInt a b)) pn
  mono := fun ⟨a, b, h1, h2, h3, q⟩ hk he => ⟨a, b, h1, h2, h3, hk _ _ q⟩
def ctLBin (f : Rat → Rat → Rat) : Ct where
  run ds pn k e := ∃ x y, ds = [tq x, tq y] ∧ Okr x ∧ Okr y ∧ k (tq (f x y)) pn
  mono := fun ⟨x, y, h1, h2, h3, q⟩ hk he => ⟨x, y, h1, h2, h3, hk _ _ q⟩
def ctLMinus : Ct where
  run ds pn k e := ∃ x, ds = [tq x] ∧ k (tq (-x)) pn
  mono := fun ⟨x, h1, q⟩ hk he => ⟨x, h1, hk _ _ q⟩
def ctLTurn : Ct where
  run ds pn k e := ∃ x, ds = [tq x] ∧ Okr x ∧ x ≠ 0 ∧ k (tq x⁻¹) pn
  mono := fun ⟨x, h1, h2, h3, q⟩ hk he => ⟨x, h1, h2, h3, hk _ _ q⟩
def ctLInt : Ct where
  run ds pn k e := ∃ a : Int, ds = [.int a, .int a] ∧ k (.bl true) pn
  mono := fun ⟨a, h1, q⟩ hk he => ⟨a, h1, hk _ _ q⟩
def ctLIs : Ct where
  run ds pn k e := ∃ x, ds = [rq x, tq x] ∧ k (.bl true) pn
  mono := fun ⟨x, h1, q⟩ hk he => ⟨x, h1, hk _ _ q⟩
/-- a value that == itself -/
def Alk (d : D) : Prop := d = .dct [] [] ∨ (∃ p, d.toPy = some p ∧ SeqAt.shaped p = true ∧ PyData.eqv p p = true) ∨ (∃ x, d = rq x) ∨ ∃ a ds, d = .idn a (.tup ds)
def ctAlike : Ct where
  run ds pn k e := ∃ d, ds = [d, d] ∧ Kd d ∧ Alk d ∧ k (.bl true) pn
  mono := fun ⟨d, h1, h2, h3, q⟩ hk he => ⟨d, h1, h2, h3, hk _ _ q⟩
theorem rb_eqDct {X : Cx} {c : Cv} {S : State} {Q : D → State → Prop} (q : Q (.bl true) S) : RB X c S rEqDA (.dct [] []) (.dct [] []) Q := fun σ G H u v hd ru rv R hR => by
  cases ru with
  | @dct a kvs _ _ m1 m2 m3 =>
    cases rv with
    | @dct b kvs2 _ _ n1 n2 n3 =>
      have e1 : kvs = [] := by cases kvs with | nil => rfl | cons x r => cases m2
      have e2 : kvs2 = [] := by cases kvs2 with | nil => rfl | cons x r => cases n2
      subst e1; subst e2
      exact ⟨a, b, [], [], rfl, rfl, hd.sub _ _ m1, hd.sub _ _ n1, rfl, fun p hp => (by cases hp), hR _ _ (pE_ret hd .bl q)⟩
theorem isEq_self (x : Rat) : (isC "Ratio" (rq x) && isEq x (rq x)) = true := by
  have h : isC "Ratio" (rq x) = true := by show decide (("Ratio" : Str) = "Ratio") = true; decide
  rw [h]
  show (true && (decide (x.num = x.num) && decide ((x.den : Int) = (x.den : Int)))) = true
  simp
abbrev Deed (P : Program) (w : World) (K : PySem.W.Frag) (mg : Str → Option Value) (base : Heap) (T : Addr) (n : Nat) := deedRun P w K mg base (cfL T) n
def ctFault (n : Nat) (P : Program) (w : World) (K : PySem.W.Frag) (mg : Str → Option Value) (base : Heap) (T : Addr) : Ct where
  run ds pn k e := ∃ pr b sc q cl ws, ds = [.clo pr b sc q cl ws] ∧ Deed P w K mg base T n pr b sc q cl ws pn (fun _ _ => False) (fun x pn' => (∃ v, x = bv v ∧ k (.tup [.str "value", v]) (outPn pn pn')) ∨ (x = nd ∧ k (.tup [.str "divisor", .non]) (outPn pn pn')))
  mono := fun ⟨pr, b, sc, q, cl, ws, h1, h2⟩ hk he => ⟨pr, b, sc, q, cl, ws, h1, h2.imp (fun _ _ z => z) fun x p z => z.imp (fun ⟨v, e, z⟩ => ⟨v, e, hk _ _ z⟩) fun z => ⟨z.1, hk _ _ z.2⟩⟩
def ctRefused (n : Nat) (P : Program) (w : World) (K : PySem.W.Frag) (mg : Str → Option Value) (base : Heap) (T : Addr) : Ct where
  run ds pn k e := ∃ pr b sc q cl ws v, ds = [.clo pr b sc q cl ws, v] ∧ Kd v ∧ Alk v ∧ Deed P w K mg base T n pr b sc q cl ws pn (fun _ _ => False) (fun x pn' => x = bv v ∧ k (.bl true) (outPn pn pn'))
  mono := fun ⟨pr, b, sc, q, cl, ws, v, h1, h2, h4, h5⟩ hk he => ⟨pr, b, sc, q, cl, ws, v, h1, h2, h4, h5.imp (fun _ _ z => z) fun x p ⟨e, z⟩ => ⟨e, hk _ _ z⟩⟩
theorem shaped_nd : SeqAt.shaped (.tuple [.str "divisor", .none]) = true := by decide +kernel
theorem eqv_nd : PyData.eqv (.tuple [.str "divisor", .none]) (.tuple [.str "divisor", .none]) = true := by decide +kernel
/-- a deed of one's own that has no divisor; that is refused with v -/
def RowNd (n : Nat) (P : Program) (w : World) (K : PySem.W.Frag) (mg : Str → Option Value) (base : Heap) (T : Addr) (X : Cx) (c : Cv) (ρ : Sl → List Sl) (d : D) : Prop :=
  ∃ pr b sc q cl ws, d = .lam pr b sc q cl ∧ (∀ s pn, CapO X c ⟨ρ s, pn⟩ cl ws) ∧ ∀ pn, Deed P w K mg base T n pr b sc q cl ws pn (fun _ _ => False) (fun x pn' => x = nd ∧ pn' = pn)
def RowBv (n : Nat) (P : Program) (w : World) (K : PySem.W.Frag) (mg : Str → Option Value) (base : Heap) (T : Addr) (X : Cx) (c : Cv) (ρ : Sl → List Sl) (v d : D) : Prop :=
  ∃ pr b sc q cl ws, d = .lam pr b sc q cl ∧ (∀ s pn, CapO X c ⟨ρ s, pn⟩ cl ws) ∧ ∀ pn, Deed P w K mg base T n pr b sc q cl ws pn (fun _ _ => False) (fun x pn' => x = bv v ∧ pn' = pn)
theorem plain_rq (x : Rat) : plainD (rq x) = true := by
  show plainD (.ins "Ratio" ["top", "bottom"] [.int x.num, .int x.den]) = true
  simp [plainD, plainDs]
theorem plain_poly (ps : List Rat) : plainD (poly ps) = true := by
  show plainD (.ins "Poly" ["parts"] [.tup (ps.map rq)]) = true
  rw [plainD, plainDs, plainDs, plainD, Bool.and_true]
  exact plainDs_iff.mpr fun d hd => by
    obtain ⟨x, _, rfl⟩ := List.mem_map.mp hd
    exact plain_rq x
section
variable {P : Program} {w : World} {K : PySem.W.Frag} {mg : Str → Option Value} {base : Heap} {kws : List (Str × V)} {f : Addr} {fd : FuncData} {T : Addr}
abbrev s_law_gcd : Stmt := top 44
theorem sc_law_gcd : FnScope ["_law_one", "_law_other"] ["_law_one", "_law_other"] (defScope s_law_gcd) := ⟨rfl, rfl, rfl, by decide +kernel, rfl, by decide +kernel, by decide +kernel⟩
theorem fn_law_gcd (F : FunD K "_law_gcd" "_law_gcd" (defArgs s_law_gcd) (defBody s_law_gcd) (defScope s_law_gcd) [] kws f fd) (Z : Fx P w K mg base T)  : FnOk P w K mg base (L2.CX P w) 1 f fd ["_law_one", "_law_other"] (spV (cfL T) K mg ctGcd) := by
  refine fn_body F sc_law_gcd (by decide) (fun ds pn k e ⟨a, b, h, _⟩ => by subst h; rfl) fun cdv A outer s H E G ds pn Qv Ev hr tk ⟨a, b, h, q⟩ => ?_
  subst h
  refine vss_cons ?_
  refine vs_par 0 1 ?_ rfl sc_law_gcd.nd
  refine va_cons ?_
  refine ve_abs Z.m_abs ?_
  refine ve_val 0 rfl ?_
  refine ⟨_, rfl, ?_⟩
  refine va_cons ?_
  refine ve_abs Z.m_abs ?_
  refine ve_val 1 rfl ?_
  refine ⟨_, rfl, ?_⟩
  refine va_nil ⟨_, _, rfl, ?_⟩
  refine vss_cons ?_
  refine vs_while (passes_of rfl) (fun m S => ∃ x : Nat, S = ⟨[.val (.int x), .val (.int (m : Nat))], pn⟩ ∧ Int.gcd a b = Nat.gcd x m) b.natAbs ⟨a.natAbs, rfl, rfl⟩ ?_
  rintro y S ⟨x, rfl, hg⟩
  refine vt_cmp op_gt ?_ (nomark _)
  refine ve_val 1 rfl ?_
  refine ve_int ?_
  refine rb_gt ?_
  refine ⟨_, rfl, fun hk => ?_, fun hk => ?_⟩
  · have hy : 0 < y := by have := of_decide_eq_true hk; omega
    refine vss_one ?_
    refine vs_par 0 1 ?_ rfl sc_law_gcd.nd
    refine va_cons ?_
    refine ve_val 1 rfl ?_
    refine va_cons ?_
    refine ve_bin op_mod ?_
    refine ve_intOf Z.m_int ?_
    refine ve_val 0 rfl ?_
    refine .inl ⟨_, rfl, ?_⟩
    refine ve_val 1 rfl ?_
    refine rb_mod (by show (0 : Int) < (y : Int); omega) ?_
    refine va_nil ⟨_, _, rfl, ?_⟩
    refine ⟨x % y, Nat.mod_lt _ hy, y, rfl, ?_⟩
    rw [hg, Nat.gcd_comm x y, Nat.gcd_rec y x, Nat.gcd_comm]
  · have hy : y = 0 := by have := of_decide_eq_false hk; omega
    subst hy
    refine vss_one ?_
    refine vs_ret ?_
    refine ve_val 0 rfl ?_
    have e : ((x : Nat) : Int) = ((Int.gcd a b : Nat) : Int) := by rw [hg, Nat.gcd_zero_right]
    show Qv (.int (x : Int)) (outPn pn pn)
    rw [e]
    cases pn <;> exact q
abbrev s_law_draw : Stmt := top 41
theorem sc_law_draw : FnScope ["_law_pen_here", "_law_many", "_law_digit", "_law_begun", "_law_cell", "_law_blend"] ["_law_pen_here", "_law_many"] (defScope s_law_draw) := ⟨rfl, rfl, rfl, by decide +kernel, rfl, by decide +kernel, by decide +kernel⟩
theorem fn_law_draw (F : FunD K "_law_draw" "_law_draw" (defArgs s_law_draw) (defBody s_law_draw) (defScope s_law_draw) [] kws f fd) (Z : Fx P w K mg base T)  : FnOk P w K mg base (L2.CX P w) 2 f fd ["_law_pen_here", "_law_many"] (spV (cfL T) K mg ctDraw) := by
  refine fn_body F sc_law_draw (by decide) (fun ds pn k e ⟨p, r, m, h, _⟩ => by subst h; rfl) fun cdv A outer s H E G ds pn Qv Ev hr tk ⟨p, r, m, h, hpn, m1, m2, q⟩ => ?_
  subst h
  subst hpn
  refine vss_open rfl fun cells b l hb => ?_
  refine vss_cons ?_
  refine vs_if ?_
  refine vt_cmp op_ge ?_ (nomark _)
  refine ve_penL 0 hr penN rfl rfl rfl ?_
  refine ve_val 1 rfl ?_
  refine rb_ge ?_
  refine ⟨_, rfl, fun hk => ?_, fun hk => ?_⟩
  · refine vss_cons ?_
    refine vs_set 2 ?_ ?nd
    case nd => exact sc_law_draw.nd
    refine ve_bin op_mod ?_
    refine ve_intOf Z.m_int ?_
    refine ve_penL 0 hr penN rfl rfl rfl ?_
    refine .inl ⟨_, rfl, ?_⟩
    refine ve_val 1 rfl ?_
    refine rb_mod (by omega) ?_
    refine vss_cons ?_
    refine vs_penL 0 hr penN rfl ?_
    refine ve_bin op_divB ?_
    refine ve_penL 0 hr penN rfl rfl rfl ?_
    refine ve_val 1 rfl ?_
    refine rb_div (divOk_small m1 m2) ?_
    refine ⟨_, _, _, _, _, rfl, rfl, rfl, ?_⟩
    obtain ⟨b1, b2, b3, b4, b5, b6⟩ := hb
    have hd := div_le b5 m1
    refine vss_close (r := r) rfl ⟨b1, b2, b3, by omega, hd.1, Nat.lt_of_le_of_lt (by omega) b6⟩ ?_
    refine vss_one ?_
    refine vs_ret ?_
    refine ve_val 2 rfl ?_
    exact q _ (Int.emod_nonneg _ (by omega)) (Int.emod_lt_of_pos _ (by omega))
  · refine vss_nil ?_
    refine vss_cons ?_
    refine vs_set 3 ?_ ?nd
    case nd => exact sc_law_draw.nd
    refine ve_penB 0 hr penN rfl rfl rfl ?_
    refine vss_cons ?_
    refine vs_penB 0 hr penN rfl ?_
    refine ve_bin op_addAll ?_
    refine ve_val 3 rfl ?_
    refine ve_int ?_
    refine rb_addI ?_
    refine ⟨_, _, _, _, _, rfl, rfl, rfl, ?_⟩
    obtain ⟨b1, b2, b3, b4, b5, b6⟩ := hb
    have tail : ∀ cell : Int, cell.natAbs < 2 ^ 1048577 → VSs (bX P w K mg base ["_law_pen_here", "_law_many", "_law_digit", "_law_begun", "_law_cell", "_law_blend"] "_law_draw" s_law_draw f cdv A outer s H E) (bodyCv (cfL T) G H (some (p, .bud (r + 1))) Ev)
        ⟨[.val (.adr p), .val (.int m), .un, .val (.int b), .val (.int cell), .un], some (p, .ex cells (b + 1) l)⟩ ((defBody s_law_draw).drop 5) { nx := fun S => Qv .non (outPn (some (p, .bud (r + 1))) S.pn), rt := fun d S => Qv d (outPn (some (p, .bud (r + 1))) S.pn) } := by
      intro cell hcell
      have done : ∀ ρ : List Sl, ∀ l' : Int, 0 ≤ l' → l'.natAbs < 2 ^ 1048577 → ∀ sts E', VSs (bX P w K mg base ["_law_pen_here", "_law_many", "_law_digit", "_law_begun", "_law_cell", "_law_blend"] "_law_draw" s_law_draw f cdv A outer s H E) (bodyCv (cfL T) G H (some (p, .bud (r + 1))) Ev) ⟨ρ, some (p, .bud r)⟩ sts E' →
          VSs (bX P w K mg base ["_law_pen_here", "_law_many", "_law_digit", "_law_begun", "_law_cell", "_law_blend"] "_law_draw" s_law_draw f cdv A outer s H E) (bodyCv (cfL T) G H (some (p, .bud (r + 1))) Ev) ⟨ρ, some (p, .ex cells (b + 1) l')⟩ sts E' := fun ρ l' h1 h2 sts E' h => vss_close (r := r) rfl ⟨b1, b2, by omega, by omega, h1, h2⟩ h
      have blend : VSs (bX P w K mg base ["_law_pen_here", "_law_many", "_law_digit", "_law_begun", "_law_cell", "_law_blend"] "_law_draw" s_law_draw f cdv A outer s H E) (bodyCv (cfL T) G H (some (p, .bud (r + 1))) Ev)
          ⟨[.val (.adr p), .val (.int m), .un, .val (.int b), .val (.int cell), .un], some (p, .bud r)⟩ ((defBody s_law_draw).drop 6) { nx := fun S => Qv .non (outPn (some (p, .bud (r + 1))) S.pn), rt := fun d S => Qv d (outPn (some (p, .bud (r + 1))) S.pn) } := by
        refine vss_cons ?_
        refine vs_set 5 ?_ ?nd
        case nd => exact sc_law_draw.nd
        refine ve_bin op_addAll ?_
        refine ve_bin op_mulAll ?_
        refine ve_bin op_mod ?_
        refine ve_intOf Z.m_int ?_
        refine ve_val 4 rfl ?_
        refine .inl ⟨_, rfl, ?_⟩
        refine ve_int ?_
        refine rb_mod (by decide) ?_
        refine ve_int ?_
        refine rb_mulI (mulR (by decide) (by decide)) ?_
        refine ve_bin op_mulAll ?_
        refine ve_bin op_mulAll ?_
        refine ve_int ?_
        refine ve_val 3 rfl ?_
        refine rb_mulI (mulL (by decide) (by decide)) ?_
        refine ve_val 3 rfl ?_
        refine rb_mulI (mulR (by omega) (by omega)) ?_
        refine rb_addI ?_
        generalize cell % 2147481209 * 30293 + 70423 * b * b = t1
        refine vss_cons ?_
        refine vs_set 5 ?_ ?nd
        case nd => exact sc_law_draw.nd
        refine ve_bin op_mod ?_
        refine ve_intOf Z.m_int ?_
        refine ve_bin op_addAll ?_
        refine ve_bin op_addAll ?_
        refine ve_val 5 rfl ?_
        refine ve_bin op_mulAll ?_
        refine ve_int ?_
        refine ve_val 3 rfl ?_
        refine rb_mulI (mulL (by decide) (by decide)) ?_
        refine rb_addI ?_
        refine ve_int ?_
        refine rb_addI ?_
        refine .inl ⟨_, rfl, ?_⟩
        refine ve_int ?_
        refine rb_mod (by decide) ?_
        generalize ht_t2 : (t1 + 211 * b + 53) % 2147481247 = t2
        have h_t2 : 0 ≤ t2 ∧ t2 < 2147481247 := by
          rw [← ht_t2]
          exact ⟨Int.emod_nonneg _ (by decide), Int.emod_lt_of_pos _ (by decide)⟩
        refine vss_cons ?_
        refine vs_set 5 ?_ ?nd
        case nd => exact sc_law_draw.nd
        refine ve_bin op_mod ?_
        refine ve_intOf Z.m_int ?_
        refine ve_bin op_mulAll ?_
        refine ve_val 5 rfl ?_
        refine ve_bin op_addAll ?_
        refine ve_val 5 rfl ?_
        refine ve_int ?_
        refine rb_addI ?_
        refine rb_mulI (mulR (by omega) (by omega)) ?_
        refine .inl ⟨_, rfl, ?_⟩
        refine ve_int ?_
        refine rb_mod (by decide) ?_
        generalize ht_t3 : (t2 * (t2 + 61027)) % 2147481263 = t3
        have h_t3 : 0 ≤ t3 ∧ t3 < 2147481263 := by
          rw [← ht_t3]
          exact ⟨Int.emod_nonneg _ (by decide), Int.emod_lt_of_pos _ (by decide)⟩
        refine vss_one ?_
        refine vs_ret ?_
        refine ve_bin op_mod ?_
        refine ve_intOf Z.m_int ?_
        refine ve_bin op_divB ?_
        refine ve_bin op_mod ?_
        refine ve_intOf Z.m_int ?_
        refine ve_bin op_addAll ?_
        refine ve_bin op_mulAll ?_
        refine ve_val 5 rfl ?_
        refine ve_val 5 rfl ?_
        refine rb_mulI (mulR (by omega) (by omega)) ?_
        refine ve_bin op_mulAll ?_
        refine ve_int ?_
        refine ve_val 5 rfl ?_
        refine rb_mulI (mulL (by decide) (by decide)) ?_
        refine rb_addI ?_
        refine .inl ⟨_, rfl, ?_⟩
        refine ve_int ?_
        refine rb_mod (by decide) ?_
        refine ve_int ?_
        refine rb_div (divOk_small (by decide) (by decide)) ?_
        refine .inl ⟨_, rfl, ?_⟩
        refine ve_val 1 rfl ?_
        refine rb_mod (by omega) ?_
        exact q _ (Int.emod_nonneg _ (by omega)) (Int.emod_lt_of_pos _ (by omega))
      refine vss_cons ?_
      refine vs_if ?_
      refine vt_w (vw_and ?_)
      refine vt_cmp op_lt ?_ (nomark _)
      refine ve_val 3 rfl ?_
      refine ve_len Z.m_len ?_
      refine ve_penC 0 hr rfl rfl ?_
      refine rb_lt ?_
      refine ⟨_, rfl, fun hk => ?_, fun hk => ⟨nofun, fun _ => ?_⟩⟩
      · refine vw_and1 ?_
        refine vt_cmp op_ge ?_ (nomark _)
        refine ve_val 4 rfl ?_
        refine ve_bin op_pow ?_
        refine ve_int ?_
        refine ve_int ?_
        refine rb_pow ⟨by decide, by decide, by decide⟩ ?_
        refine rb_ge ?_
        refine ⟨_, rfl, fun hk2 => ?_, fun hk2 => ?_⟩
        · have hc := of_decide_eq_true hk2
          have hp : (0 : Int) < 10 ^ Int.toNat 18 := by decide
          refine vss_cons ?_
          refine vs_penL 0 hr penN rfl ?_
          refine ve_bin op_divB ?_
          refine ve_bin op_sub ?_
          refine ve_val 4 rfl ?_
          refine ve_bin op_pow ?_
          refine ve_int ?_
          refine ve_int ?_
          refine rb_pow ⟨by decide, by decide, by decide⟩ ?_
          refine rb_subI ?_
          refine ve_val 1 rfl ?_
          refine rb_div (divOk_small m1 m2) ?_
          refine ⟨_, _, _, _, _, rfl, rfl, rfl, ?_⟩
          have hd := div_le (x := cell - 10 ^ Int.toNat 18) (by omega) m1
          refine done _ _ hd.1 (Nat.lt_of_le_of_lt (by omega) hcell) _ _ ?_
          refine vss_one ?_
          refine vs_ret ?_
          refine ve_bin op_mod ?_
          refine ve_intOf Z.m_int ?_
          refine ve_bin op_sub ?_
          refine ve_val 4 rfl ?_
          refine ve_bin op_pow ?_
          refine ve_int ?_
          refine ve_int ?_
          refine rb_pow ⟨by decide, by decide, by decide⟩ ?_
          refine rb_subI ?_
          refine .inl ⟨_, rfl, ?_⟩
          refine ve_val 1 rfl ?_
          refine rb_mod (by omega) ?_
          exact q _ (Int.emod_nonneg _ (by omega)) (Int.emod_lt_of_pos _ (by omega))
        · refine vss_nil ?_
          exact done _ _ b5 b6 _ _ blend
      · refine vss_nil ?_
        exact done _ _ b5 b6 _ _ blend
    refine vss_cons ?_
    refine vs_set 4 ?_ ?nd
    case nd => exact sc_law_draw.nd
    refine ve_bin op_addAll ?_
    refine ve_bin op_mulAll ?_
    refine ve_int ?_
    refine ve_val 3 rfl ?_
    refine rb_mulI (mulL (by decide) (by decide)) ?_
    refine ve_int ?_
    refine rb_addI ?_
    refine vss_cons ?_
    refine vs_if ?_
    refine vt_cmp (op_neAll hr) ?_ (nomark _)
    refine ve_penC 0 hr rfl rfl ?_
    refine ve_lst ?_
    refine va_nil ⟨by rw [sizeLine_eq]; simp, ?_⟩
    refine rb_neAD (toPy_scr cells) (show (D.lst []).toPy = some (.list []) from rfl) (shaped_ints cells) rfl ?_
    rw [eqv_nil]
    refine ⟨_, rfl, fun hk => ?_, fun hk => ?_⟩
    · have hne : 0 < cells.length := by
        cases cells with
        | nil => cases hk
        | cons => simp
      refine vss_one ?_
      refine vs_set 4 ?_ ?nd
      case nd => exact sc_law_draw.nd
      refine ve_ix ?_
      refine ve_penC 0 hr rfl rfl ?_
      refine ve_bin op_mod ?_
      refine ve_intOf Z.m_int ?_
      refine ve_val 3 rfl ?_
      refine .inl ⟨_, rfl, ?_⟩
      refine ve_len Z.m_len ?_
      refine ve_penC 0 hr rfl rfl ?_
      refine rb_mod (by rw [List.length_map]; omega) ?_
      rw [List.length_map]
      obtain ⟨x, hx, hm⟩ := atI_nat (l := cells.map D.int) (j := b % (cells.length : Int)) (Int.emod_nonneg _ (by omega)) (by rw [List.length_map]; exact Int.emod_lt_of_pos _ (by omega))
      obtain ⟨cell, hc, rfl⟩ := List.mem_map.mp hm
      refine ⟨_, hx, ?_⟩
      exact tail cell (b2 cell hc)
    · refine vss_nil ?_
      exact tail _ (Nat.lt_of_lt_of_le (m := 2 ^ 100) (by omega) (Nat.pow_le_pow_right (by decide) (by decide)))
abbrev s_law_pick : Stmt := top 42
theorem sc_law_pick : FnScope ["_law_pen_here", "_law_some_here"] ["_law_pen_here", "_law_some_here"] (defScope s_law_pick) := ⟨rfl, rfl, rfl, by decide +kernel, rfl, by decide +kernel, by decide +kernel⟩
theorem fn_law_pick (F : FunD K "_law_pick" "_law_pick" (defArgs s_law_pick) (defBody s_law_pick) (defScope s_law_pick) [] kws f fd) (Z : Fx P w K mg base T) (V_law_draw : VFn P w K mg base (cfL T) 2 "_law_draw" [] ctDraw) : FnOk P w K mg base (L2.CX P w) 3 f fd ["_law_pen_here", "_law_some_here"] (spV (cfL T) K mg ctPick) := by
  refine fn_body F sc_law_pick (by decide) (fun ds pn k e ⟨p, r, xs, h, _⟩ => by subst h; rfl) fun cdv A outer s H E G ds pn Qv Ev hr tk ⟨p, r, xs, h, hpn, hne, hlen, q⟩ => ?_
  subst h
  subst hpn
  have hl : 0 < xs.length := List.length_pos_iff.mpr hne
  refine vss_one ?_
  refine vs_ret ?_
  refine ve_ix ?_
  refine ve_val 1 rfl ?_
  refine ve_call (V_law_draw.mono (by decide)) hr tk ?_
  refine va_cons ?_
  refine ve_val 0 rfl ?_
  refine va_cons ?_
  refine ve_len Z.m_len ?_
  refine ve_val 1 rfl ?_
  refine va_nil ?_
  refine ⟨p, r, _, rfl, rfl, by omega, by omega, fun v h1 h2 => ?_⟩
  obtain ⟨x, hx, hm⟩ := atI_nat (l := xs) (j := v) h1 h2
  refine ⟨_, hx, ?_⟩
  exact q x hm
abbrev s_law_wide : Stmt := top 43
theorem sc_law_wide : FnScope ["_law_pen_here", "_law_pieces", "_law_out", "_law_k"] ["_law_pen_here", "_law_pieces"] (defScope s_law_wide) := ⟨rfl, rfl, rfl, by decide +kernel, rfl, by decide +kernel, by decide +kernel⟩
theorem fn_law_wide (F : FunD K "_law_wide" "_law_wide" (defArgs s_law_wide) (defBody s_law_wide) (defScope s_law_wide) [] kws f fd) (Z : Fx P w K mg base T) (V_law_draw : VFn P w K mg base (cfL T) 2 "_law_draw" [] ctDraw) : FnOk P w K mg base (L2.CX P w) 3 f fd ["_law_pen_here", "_law_pieces"] (spV (cfL T) K mg ctWide) := by
  refine fn_body F sc_law_wide (by decide) (fun ds pn k e ⟨p, r, n, h, _⟩ => by subst h; rfl) fun cdv A outer s H E G ds pn Qv Ev hr tk ⟨p, r, n, h, hn, hpn, q⟩ => ?_
  subst h
  subst hpn
  refine vss_cons ?_
  refine vs_set 2 ?_ ?nd
  case nd => exact sc_law_wide.nd
  refine ve_int ?_
  refine vss_cons ?_
  refine vs_forR1 (passes_of rfl) rfl Z.m_range ?_
  refine ve_val 1 rfl ?_
  refine ⟨n, rfl, by omega, by omega, fun t S => ∃ (v : Int) (s3 : Sl), 0 ≤ v ∧ v < 10 ^ (7 * t) ∧ S = ⟨[.val (.adr p), .val (.int n), .val (.int v), s3], some (p, .bud (r + (13 - t)))⟩, ⟨0, _, by decide, by decide, rfl⟩, ?_, ?_⟩
  · rintro t S ht ⟨v, s3, hv1, hv2, rfl⟩
    obtain ⟨j, en⟩ : ∃ j, r + (13 - t) = j + 1 := ⟨r + (13 - t) - 1, by omega⟩
    have en2 : r + (13 - (t + 1)) = j := by omega
    rw [en]
    refine vg_name 3 ?_ sc_law_wide.nd
    refine vss_one ?_
    refine vs_set 2 ?_ ?nd
    case nd => exact sc_law_wide.nd
    refine ve_bin op_addAll ?_
    refine ve_bin op_mulAll ?_
    refine ve_val 2 rfl ?_
    refine ve_bin op_pow ?_
    refine ve_int ?_
    refine ve_int ?_
    refine rb_pow ⟨by decide, by decide, by decide⟩ ?_
    refine rb_mulI (mulR (by decide) (by decide)) ?_
    refine ve_call (V_law_draw.mono (by decide)) hr tk ?_
    refine va_cons ?_
    refine ve_val 0 rfl ?_
    refine va_cons ?_
    refine ve_bin op_pow ?_
    refine ve_int ?_
    refine ve_int ?_
    refine rb_pow ⟨by decide, by decide, by decide⟩ ?_
    refine va_nil ?_
    refine ⟨p, j, _, rfl, rfl, by decide, by decide, fun u hu1 hu2 => ?_⟩
    refine rb_addI ?_
    refine ⟨_, _, ?_, wide_step hv2 hu2 hv1, by rw [en2]; rfl⟩
    have := Int.mul_nonneg hv1 (show (0 : Int) ≤ 10 ^ Int.toNat 7 by decide)
    omega
  rintro S ⟨v, s3, hv1, hv2, rfl⟩
  rw [Int.toNat_natCast] at hv2 ⊢
  refine vss_le (r' := r) rfl (by omega) ?_
  refine vss_one ?_
  refine vs_ret ?_
  refine ve_val 2 rfl ?_
  exact q v hv1 hv2
abbrev s_law_lowest : Stmt := top 45
theorem sc_law_lowest : FnScope ["_law_above", "_law_below", "_law_factor"] ["_law_above", "_law_below"] (defScope s_law_lowest) := ⟨rfl, rfl, rfl, by decide +kernel, rfl, by decide +kernel, by decide +kernel⟩
theorem fn_law_lowest (F : FunD K "_law_lowest" "_law_lowest" (defArgs s_law_lowest) (defBody s_law_lowest) (defScope s_law_lowest) [] kws f fd) (Z : Fx P w K mg base T) (V_law_gcd : VFn P w K mg base (cfL T) 1 "_law_gcd" [] ctGcd) : FnOk P w K mg base (L2.CX P w) 2 f fd ["_law_above", "_law_below"] (spV (cfL T) K mg ctLow) := by
  refine fn_body F sc_law_lowest (by decide) (fun ds pn k e ⟨a, b, h, _⟩ => by subst h; rfl) fun cdv A outer s H E G ds pn Qv Ev hr tk ⟨a, b, h, h0, hz, q⟩ => ?_
  subst h
  refine vss_cons ?_
  refine vs_set 2 ?_ ?nd
  case nd => exact sc_law_lowest.nd
  refine ve_call (V_law_gcd.mono (by decide)) hr tk ?_
  refine va_cons ?_
  refine ve_val 0 rfl ?_
  refine va_cons ?_
  refine ve_val 1 rfl ?_
  refine va_nil ?_
  refine ⟨_, _, rfl, ?_⟩
  have ef : tp (low (a, b)) = tq (Rat.divInt a b) := by rw [low_fr h0]
  have done : VSs (bX P w K mg base ["_law_above", "_law_below", "_law_factor"] "_law_lowest" s_law_lowest f cdv A outer s H E) (bodyCv (cfL T) G H pn Ev) ⟨[.val (.int a), .val (.int b), .val (.int (sg a b))], pn⟩ ((defBody s_law_lowest).drop 2) { nx := fun S => Qv .non (outPn pn S.pn), rt := fun d S => Qv d (outPn pn S.pn) } := by
    refine vss_one ?_
    refine vs_ret ?_
    refine ve_tup ?_
    refine va_cons ?_
    refine ve_bin op_divN ?_
    refine ve_val 0 rfl ?_
    refine ve_val 2 rfl ?_
    refine rb_divN (divB (sg_ne h0) (Nat.lt_of_le_of_lt (sg_le h0) hz)) ?_
    refine va_cons ?_
    refine ve_bin op_divN ?_
    refine ve_val 1 rfl ?_
    refine ve_val 2 rfl ?_
    refine rb_divN (divB (sg_ne h0) (Nat.lt_of_le_of_lt (sg_le h0) hz)) ?_
    refine va_nil ⟨by rw [sizeLine_eq]; simp, ?_⟩
    show Qv (tp (low (a, b))) _
    rw [ef]
    cases pn <;> exact q
  refine vss_cons ?_
  refine vs_if ?_
  refine vt_cmp op_lt ?_ (nomark _)
  refine ve_val 1 rfl ?_
  refine ve_int ?_
  refine rb_lt ?_
  refine ⟨_, rfl, fun hk => ?_, fun hk => ?_⟩
  · have e : sg a b = -(Int.gcd a b : Int) := if_pos (of_decide_eq_true hk)
    rw [e] at done
    refine vss_one ?_
    refine vs_set 2 ?_ ?nd
    case nd => exact sc_law_lowest.nd
    refine ve_neg ?_
    refine ve_val 2 rfl ?_
    refine ⟨_, rfl, ?_⟩
    exact done
  · refine vss_nil ?_
    have e : sg a b = (Int.gcd a b : Int) := if_neg (of_decide_eq_false hk)
    rw [e] at done
    exact done
abbrev s_law_plus : Stmt := top 46
theorem sc_law_plus : FnScope ["_law_one", "_law_other"] ["_law_one", "_law_other"] (defScope s_law_plus) := ⟨rfl, rfl, rfl, by decide +kernel, rfl, by decide +kernel, by decide +kernel⟩
theorem fn_law_plus (F : FunD K "_law_plus" "_law_plus" (defArgs s_law_plus) (defBody s_law_plus) (defScope s_law_plus) [] kws f fd) (Z : Fx P w K mg base T) (V_law_lowest : VFn P w K mg base (cfL T) 2 "_law_lowest" [] ctLow) : FnOk P w K mg base (L2.CX P w) 3 f fd ["_law_one", "_law_other"] (spV (cfL T) K mg (ctLBin fun x y => x + y)) := by
  refine fn_body F sc_law_plus (by decide) (fun ds pn k e ⟨x, y, h, _⟩ => by subst h; rfl) fun cdv A outer s H E G ds pn Qv Ev hr tk ⟨x, y, h, hx, hy, q⟩ => ?_
  subst h
  refine vss_one ?_
  refine vs_ret ?_
  refine ve_call (V_law_lowest.mono (by decide)) hr tk ?_
  refine va_cons ?_
  refine ve_bin op_addAll ?_
  refine ve_bin op_mulAll ?_
  refine ve_ix ?_
  refine ve_val 0 rfl ?_
  refine ve_int ?_
  refine ⟨_, rfl, ?_⟩
  refine ve_ix ?_
  refine ve_val 1 rfl ?_
  refine ve_int ?_
  refine ⟨_, rfl, ?_⟩
  refine rb_mulI (mulB (on1 hx) (on2 hy)) ?_
  refine ve_bin op_mulAll ?_
  refine ve_ix ?_
  refine ve_val 1 rfl ?_
  refine ve_int ?_
  refine ⟨_, rfl, ?_⟩
  refine ve_ix ?_
  refine ve_val 0 rfl ?_
  refine ve_int ?_
  refine ⟨_, rfl, ?_⟩
  refine rb_mulI (mulB (on1 hy) (on2 hx)) ?_
  refine rb_addI ?_
  refine va_cons ?_
  refine ve_bin op_mulAll ?_
  refine ve_ix ?_
  refine ve_val 0 rfl ?_
  refine ve_int ?_
  refine ⟨_, rfl, ?_⟩
  refine ve_ix ?_
  refine ve_val 1 rfl ?_
  refine ve_int ?_
  refine ⟨_, rfl, ?_⟩
  refine rb_mulI (mulB (on2 hx) (on2 hy)) ?_
  refine va_nil ?_
  refine ⟨_, _, rfl, den_mul_ne x y, bot_lt hx hy, ?_⟩
  rw [show Rat.divInt ((fr x).1 * (fr y).2 + (fr y).1 * (fr x).2) ((fr x).2 * (fr y).2) = x + y from div_add x y]
  cases pn <;> exact q
abbrev s_law_times : Stmt := top 48
theorem sc_law_times : FnScope ["_law_one", "_law_other"] ["_law_one", "_law_other"] (defScope s_law_times) := ⟨rfl, rfl, rfl, by decide +kernel, rfl, by decide +kernel, by decide +kernel⟩
theorem fn_law_times (F : FunD K "_law_times" "_law_times" (defArgs s_law_times) (defBody s_law_times) (defScope s_law_times) [] kws f fd) (Z : Fx P w K mg base T) (V_law_lowest : VFn P w K mg base (cfL T) 2 "_law_lowest" [] ctLow) : FnOk P w K mg base (L2.CX P w) 3 f fd ["_law_one", "_law_other"] (spV (cfL T) K mg (ctLBin fun x y => x * y)) := by
  refine fn_body F sc_law_times (by decide) (fun ds pn k e ⟨x, y, h, _⟩ => by subst h; rfl) fun cdv A outer s H E G ds pn Qv Ev hr tk ⟨x, y, h, hx, hy, q⟩ => ?_
  subst h
  refine vss_one ?_
  refine vs_ret ?_
  refine ve_call (V_law_lowest.mono (by decide)) hr tk ?_
  refine va_cons ?_
  refine ve_bin op_mulAll ?_
  refine ve_ix ?_
  refine ve_val 0 rfl ?_
  refine ve_int ?_
  refine ⟨_, rfl, ?_⟩
  refine ve_ix ?_
  refine ve_val 1 rfl ?_
  refine ve_int ?_
  refine ⟨_, rfl, ?_⟩
  refine rb_mulI (mulB (on1 hx) (on1 hy)) ?_
  refine va_cons ?_
  refine ve_bin op_mulAll ?_
  refine ve_ix ?_
  refine ve_val 0 rfl ?_
  refine ve_int ?_
  refine ⟨_, rfl, ?_⟩
  refine ve_ix ?_
  refine ve_val 1 rfl ?_
  refine ve_int ?_
  refine ⟨_, rfl, ?_⟩
  refine rb_mulI (mulB (on2 hx) (on2 hy)) ?_
  refine va_nil ?_
  refine ⟨_, _, rfl, den_mul_ne x y, bot_lt hx hy, ?_⟩
  rw [show Rat.divInt ((fr x).1 * (fr y).1) ((fr x).2 * (fr y).2) = x * y from div_mul x y]
  cases pn <;> exact q
abbrev s_law_int : Stmt := top 50
theorem sc_law_int : FnScope ["_law_told_here", "_law_due"] ["_law_told_here", "_law_due"] (defScope s_law_int) := ⟨rfl, rfl, rfl, by decide +kernel, rfl, by decide +kernel, by decide +kernel⟩
theorem fn_law_int (F : FunD K "_law_int" "_law_int" (defArgs s_law_int) (defBody s_law_int) (defScope s_law_int) [] kws f fd) (Z : Fx P w K mg base T)  : FnOk P w K mg base (L2.CX P w) 1 f fd ["_law_told_here", "_law_due"] (spV (cfL T) K mg ctLInt) := by
  refine fn_body F sc_law_int (by decide) (fun ds pn k e ⟨a, h, _⟩ => by subst h; rfl) fun cdv A outer s H E G ds pn Qv Ev hr tk ⟨a, h, q⟩ => ?_
  subst h
  refine vss_one ?_
  refine vs_ret ?_
  refine ve_and ?_
  refine ve_isinst Z.m_isinstance ?_
  refine va_cons ?_
  refine ve_val 0 rfl ?_
  refine va_cons ?_
  refine ve_ty (T := "int") ?_ Z.m_int (by decide +kernel)
  refine va_nil ?_
  refine ⟨_, _, _, rfl, isA_ty Z (kd_int _) (by decide), ?_⟩
  refine ⟨_, rfl, fun _ => ?_, nofun⟩
  refine ve_and ?_
  refine ve_not ?_
  refine ve_isinst Z.m_isinstance ?_
  refine va_cons ?_
  refine ve_val 0 rfl ?_
  refine va_cons ?_
  refine ve_ty (T := "bool") ?_ Z.m_bool (by decide +kernel)
  refine va_nil ?_
  refine ⟨_, _, _, rfl, isA_ty Z (kd_int _) (by decide), ?_⟩
  refine ⟨_, rfl, ?_⟩
  refine ⟨_, rfl, fun _ => ?_, nofun⟩
  refine ve_one ?_
  refine ve_cmp (op_eqAll hr) ?_ (nomark _)
  refine ve_val 0 rfl ?_
  refine ve_val 1 rfl ?_
  refine rb_eqAI ?_
  rw [show decide (a = a) = true from decide_eq_true rfl]
  cases pn <;> exact q
abbrev s_law_is : Stmt := top 51
theorem sc_law_is : FnScope ["_law_told_here", "_law_due"] ["_law_told_here", "_law_due"] (defScope s_law_is) := ⟨rfl, rfl, rfl, by decide +kernel, rfl, by decide +kernel, by decide +kernel⟩
theorem fn_law_is (F : FunD K "_law_is" "_law_is" (defArgs s_law_is) (defBody s_law_is) (defScope s_law_is) [] kws f fd) (Z : Fx P w K mg base T) (V_law_int : VFn P w K mg base (cfL T) 1 "_law_int" [] ctLInt) : FnOk P w K mg base (L2.CX P w) 2 f fd ["_law_told_here", "_law_due"] (spV (cfL T) K mg ctLIs) := by
  refine fn_body F sc_law_is (by decide) (fun ds pn k e ⟨x, h, _⟩ => by subst h; rfl) fun cdv A outer s H E G ds pn Qv Ev hr tk ⟨x, h, q⟩ => ?_
  subst h
  refine vss_one ?_
  refine vs_ret ?_
  refine ve_and ?_
  refine ve_isinst Z.m_isinstance ?_
  refine va_cons ?_
  refine ve_val 0 rfl ?_
  refine va_cons ?_
  refine ve_cref ?_ (Z.has (by decide))
  refine va_nil ?_
  refine ⟨_, _, _, rfl, isA_C Z (kd_rq x) (by decide), ?_⟩
  refine ⟨_, rfl, fun _ => ?_, nofun⟩
  refine ve_and ?_
  refine ve_call (V_law_int.mono (by decide)) hr tk ?_
  refine va_cons ?_
  refine ve_fld ?_
  refine ve_val 0 rfl ?_
  refine ⟨_, _, _, _, rfl, Z.cf _ _ (by decide), rfl, ?_⟩
  refine va_cons ?_
  refine ve_ix ?_
  refine ve_val 1 rfl ?_
  refine ve_int ?_
  refine ⟨_, rfl, ?_⟩
  refine va_nil ?_
  refine ⟨x.num, rfl, ?_⟩
  refine ⟨_, rfl, fun _ => ?_, nofun⟩
  refine ve_one ?_
  refine ve_call (V_law_int.mono (by decide)) hr tk ?_
  refine va_cons ?_
  refine ve_fld ?_
  refine ve_val 0 rfl ?_
  refine ⟨_, _, _, _, rfl, Z.cf _ _ (by decide), rfl, ?_⟩
  refine va_cons ?_
  refine ve_ix ?_
  refine ve_val 1 rfl ?_
  refine ve_int ?_
  refine ⟨_, rfl, ?_⟩
  refine va_nil ?_
  refine ⟨(x.den : Int), rfl, ?_⟩
  cases pn <;> exact q
abbrev s_law_alike : Stmt := top 52
theorem sc_law_alike : FnScope ["_law_told_here", "_law_due"] ["_law_told_here", "_law_due"] (defScope s_law_alike) := ⟨rfl, rfl, rfl, by decide +kernel, rfl, by decide +kernel, by decide +kernel⟩
theorem fn_law_alike (F : FunD K "_law_alike" "_law_alike" (defArgs s_law_alike) (defBody s_law_alike) (defScope s_law_alike) [] kws f fd) (Z : Fx P w K mg base T) (M_Ratio_eq : VMeth P w K mg base (cfL T) 1 "Ratio" "__eq__" [] ctEq) : FnOk P w K mg base (L2.CX P w) 5 f fd ["_law_told_here", "_law_due"] (spV (cfL T) K mg ctAlike) := by
  refine fn_body F sc_law_alike (by decide) (fun ds pn k e ⟨d, h, _⟩ => by subst h; rfl) fun cdv A outer s H E G ds pn Qv Ev hr tk ⟨d, h, hd, ha, q⟩ => ?_
  subst h
  refine vss_cons ?_
  refine vs_if ?_
  refine vt_w (vw_or ?_)
  refine vt_cmp (op_neAll hr) ?_ (nomark _)
  refine ve_isinst Z.m_isinstance ?_
  refine va_cons ?_
  refine ve_valC 0 rfl ?_
  refine va_cons ?_
  refine ve_ty (T := "bool") ?_ Z.m_bool (by decide +kernel)
  refine va_nil ?_
  refine ⟨_, _, _, rfl, isA_ty Z hd (by decide), ?_⟩
  refine ve_isinst Z.m_isinstance ?_
  refine va_cons ?_
  refine ve_valC 1 rfl ?_
  refine va_cons ?_
  refine ve_ty (T := "bool") ?_ Z.m_bool (by decide +kernel)
  refine va_nil ?_
  refine ⟨_, _, _, rfl, isA_ty Z hd (by decide), ?_⟩
  refine rb_neAB ?_
  rw [beq_self_eq_true]
  refine ⟨_, rfl, nofun, fun _ => ?_⟩
  refine vw_or1 ?_
  refine vt_cmp (op_neAll hr) ?_ (nomark _)
  refine ve_isinst Z.m_isinstance ?_
  refine va_cons ?_
  refine ve_valC 0 rfl ?_
  refine va_cons ?_
  refine ve_ty (T := "list") ?_ Z.m_list (by decide +kernel)
  refine va_nil ?_
  refine ⟨_, _, _, rfl, isA_ty Z hd (by decide), ?_⟩
  refine ve_isinst Z.m_isinstance ?_
  refine va_cons ?_
  refine ve_valC 1 rfl ?_
  refine va_cons ?_
  refine ve_ty (T := "list") ?_ Z.m_list (by decide +kernel)
  refine va_nil ?_
  refine ⟨_, _, _, rfl, isA_ty Z hd (by decide), ?_⟩
  refine rb_neAB ?_
  rw [beq_self_eq_true]
  refine ⟨_, rfl, nofun, fun _ => ?_⟩
  refine vss_nil ?_
  rcases ha with rfl | ⟨py, h1, h2, h3⟩ | ⟨x, rfl⟩ | ⟨ad, ds, rfl⟩
  · refine vss_one ?_
    refine vs_ret ?_
    refine ve_cmp (op_eq_dictA hr.units0) ?_ (nomark _)
    refine ve_val 0 rfl ?_
    refine ve_val 1 rfl ?_
    refine rb_eqDct ?_
    cases pn <;> exact q
  · refine vss_one ?_
    refine vs_ret ?_
    refine ve_cmp (op_eqAll hr) ?_ (nomark _)
    refine ve_val 0 rfl ?_
    refine ve_val 1 rfl ?_
    refine rb_eqAD h1 h1 h2 h2 ?_
    rw [h3]
    cases pn <;> exact q
  · refine vss_one ?_
    refine vs_ret ?_
    refine ve_cmp op_sem ?_ (nomark _)
    refine ve_val 0 rfl ?_
    refine ve_val 1 rfl ?_
    refine rb_eqOwn (M_Ratio_eq.mono (by decide)) hr hr.units0 (.inl ⟨_, _, rfl⟩) ⟨x, rq x, rfl, kd_rq x, fun _ => ⟨_, rfl⟩, ?_⟩
    rw [show (isC "Ratio" (core (rq x)) && isEq x (core (rq x))) = true from isEq_self x]
    cases pn <;> exact q
  · refine vss_one ?_
    refine vs_ret ?_
    refine ve_cmp op_sem ?_ (nomark _)
    refine ve_val 0 rfl ?_
    refine ve_val 1 rfl ?_
    refine rb_eqIdT hr.units0 ?_
    cases pn <;> exact q
end
end My
set_option Elab.async false
set_option linter.all false
set_option maxRecDepth 100000
set_option maxHeartbeats 4000000
namespace My
open PySem PySem.Spec PyProof.Rows L2 VL NdefX
/-- what the law draws -/
abbrev FN : Nat := 252000000000000000
abbrev few (x : Rat) : Prop := Fit 2520 FN x
def FitP (D N : Nat) (p : List Rat) : Prop := ∀ n, Fit D N (cf p n)
abbrev fews (p : List Rat) : Prop := FitP 2520 FN p
theorem fit_div {a b : Int} (hb : 0 < b) : Fit b.toNat a.natAbs (Rat.divInt a b) := by
  refine ⟨by omega, a, ?_, Nat.le_refl _⟩
  have e : ((b.toNat : Nat) : Rat) = (b : Rat) := by rw [← Rat.intCast_natCast, Int.toNat_of_nonneg (by omega)]
  rw [e, Rat.divInt_eq_div]
  exact Rat.div_mul_cancel (fun z => by have := Rat.intCast_eq_zero_iff.mp z; omega)
theorem dvd_2520 (d : Nat) (h1 : 1 ≤ d) (h9 : d ≤ 9) : d ∣ 2520 ∧ 2520 / d ≤ 2520 := by
  rcases (by omega : d = 1 ∨ d = 2 ∨ d = 3 ∨ d = 4 ∨ d = 5 ∨ d = 6 ∨ d = 7 ∨ d = 8 ∨ d = 9) with rfl | rfl | rfl | rfl | rfl | rfl | rfl | rfl | rfl <;> decide
theorem len_tqs {ps : List Rat} {k : Nat → Prop} (h : k ps.length) : lenP (tqs ps) k := by
  show k (ps.map tq).length
  rw [List.length_map]; exact h
theorem few_int {i : Int} (h : i.natAbs ≤ 100000000000000) : few (i : Rat) := ((Fit.int h).ups (E := 2520) (by decide) (by decide) (Nat.le_refl _)).mono (by decide)
theorem few_div {a b : Int} (ha : a.natAbs ≤ 9) (h1 : 1 ≤ b) (h9 : b ≤ 9) : few (Rat.divInt a b) := by
  obtain ⟨d1, d2⟩ := dvd_2520 b.toNat (by omega) (by omega)
  exact (fit_div (a := a) (by omega : 0 < b)).ups d1 (by decide) (Nat.le_trans (Nat.mul_le_mul ha d2) (by decide))
theorem few_ok {x : Rat} (h : few x) : Okr x := h.ok (Nat.lt_of_lt_of_le (m := 2 ^ 100) (by decide) (Nat.pow_le_pow_right (by decide) (by decide))) (Nat.lt_of_lt_of_le (m := 2 ^ 100) (by decide) (Nat.pow_le_pow_right (by decide) (by decide)))
theorem few_zero : few 0 := Fit.zero (by decide)
theorem fews_ok {p : List Rat} (h : fews p) : Okp p := fun n => few_ok (h n)
theorem sign_abs {u v : Int} (h1 : 0 ≤ u) (h2 : u < 2) : ((1 - 2 * u) * v).natAbs = v.natAbs ∧ -(2 ^ 64) < 1 - 2 * u ∧ 1 - 2 * u < 2 ^ 64 := by
  refine ⟨?_, by omega, by omega⟩
  rcases (by omega : u = 0 ∨ u = 1) with rfl | rfl
  · rw [show (1 - 2 * 0 : Int) = 1 by decide, Int.one_mul]
  · rw [show (1 - 2 * 1 : Int) = -1 by decide, Int.neg_one_mul, Int.natAbs_neg]
def ctFew : Ct where
  run ds pn k e := ∃ (p : Addr) (r : Nat), ds = [.adr p] ∧ pn = some (p, .bud (r + 16)) ∧ ∀ x, few x → k (tq x) (some (p, .bud r))
  mono := fun ⟨p, r, h1, h2, q⟩ hk he => ⟨p, r, h1, h2, fun x h => hk _ _ (q x h)⟩
def ctReal : Ct where
  run ds pn k e := ∃ (p : Addr) (r : Nat), ds = [.adr p] ∧ pn = some (p, .bud (r + 17)) ∧ ∀ x, few x → x ≠ 0 → k (tq x) (some (p, .bud r))
  mono := fun ⟨p, r, h1, h2, q⟩ hk he => ⟨p, r, h1, h2, fun x h h' => hk _ _ (q x h h')⟩
def ctTrim : Ct where
  run ds pn k e := ∃ ps : List Rat, ds = [tqs ps] ∧ k (tqs (trim ps)) pn
  mono := fun ⟨ps, h1, q⟩ hk he => ⟨ps, h1, hk _ _ q⟩
def ctSome : Ct where
  run ds pn k e := ∃ (p : Addr) (r m : Nat), ds = [.adr p, .int m] ∧ m ≤ 1000 ∧ pn = some (p, .bud (r + 16 * m + 1)) ∧ ∀ ps : List Rat, Trimmed ps → ps.length ≤ m → fews ps → k (tqs ps) (some (p, .bud r))
  mono := fun ⟨p, r, m, h1, h2, h3, q⟩ hk he => ⟨p, r, m, h1, h2, h3, fun ps a b c => hk _ _ (q ps a b c)⟩
def ctTold : Ct where
  run ds pn k e := ∃ (p : Addr) (r : Nat) (x : Rat), ds = [.adr p, tq x] ∧ Okr x ∧ pn = some (p, .bud (r + 1)) ∧ ∀ d, Rv d x → k d (some (p, .bud r))
  mono := fun ⟨p, r, x, h1, h2, h3, q⟩ hk he => ⟨p, r, x, h1, h2, h3, fun d a => hk _ _ (q d a)⟩
def ctAt : Ct where
  run ds pn k e := ∃ (ps : List Rat) (n : Nat), ds = [tqs ps, .int n] ∧ k (tq (cf ps n)) pn
  mono := fun ⟨ps, n, h1, q⟩ hk he => ⟨ps, n, h1, hk _ _ q⟩
def ctLAdd : Ct where
  run ds pn k e := ∃ (p q : List Rat), ds = [tqs p, tqs q] ∧ p.length ≤ 1000000 ∧ q.length ≤ 1000000 ∧ Okp p ∧ Okp q ∧ k (tqs (addP p q)) pn
  mono := fun ⟨p, q, h1, h2, h3, h4, h5, z⟩ hk he => ⟨p, q, h1, h2, h3, h4, h5, hk _ _ z⟩
def sclP (p : List Rat) (x : Rat) : List Rat := trim ((List.range p.length).map fun n => cf p n * x)
theorem cf_sclP (p : List Rat) (x : Rat) (n : Nat) : cf (sclP p x) n = cf p n * x := by
  unfold sclP
  rw [cf_trim, cf_map]
  split
  · rfl
  · rw [cf_ge (by omega), Rat.zero_mul]
def ctScl : Ct where
  run ds pn k e := ∃ (p : List Rat) (x : Rat), ds = [tqs p, tq x] ∧ Okp p ∧ Okr x ∧ k (tqs (sclP p x)) pn
  mono := fun ⟨p, x, h1, h2, h3, z⟩ hk he => ⟨p, x, h1, h2, h3, hk _ _ z⟩
/-- a product of polynomials, as lists -/
def mulP (p q : List Rat) : List Rat := trim ((List.range (p.length + q.length - 1)).map fun n => S (cf p) (cf q) p.length n)
theorem S_end {p q : List Rat} {n : Nat} (h : p.length + q.length - 1 ≤ n) : S (cf p) (cf q) p.length n = 0 := by
  by_cases h0 : p.length = 0
  · rw [h0]; rfl
  · exact S_far (k := q.length) (fun j hj => cf_ge hj) _ (by omega)
theorem cf_mulP (p q : List Rat) (n : Nat) : cf (mulP p q) n = S (cf p) (cf q) p.length n := by
  unfold mulP
  rw [cf_trim, cf_map]
  split
  · rfl
  · exact (S_end (by omega)).symm
theorem trimmed_mulP (p q : List Rat) : Trimmed (mulP p q) := trimmed_trim _
theorem mulP_len (p q : List Rat) : (mulP p q).length ≤ p.length + q.length := by
  unfold mulP
  refine Nat.le_trans (trim_le _) ?_
  rw [List.length_map, List.length_range]
  omega
theorem addP_len (p q : List Rat) : (addP p q).length ≤ max p.length q.length := by
  unfold addP
  refine Nat.le_trans (trim_le _) ?_
  simp
theorem sclP_len (p : List Rat) (x : Rat) : (sclP p x).length ≤ p.length := by
  unfold sclP
  refine Nat.le_trans (trim_le _) ?_
  simp
def ctLMul : Ct where
  run ds pn k e := ∃ (p q : List Rat), ds = [tqs p, tqs q] ∧ p.length ≤ 1000 ∧ q.length ≤ 1000 ∧ (∀ i j, Okr (cf p i * cf q j)) ∧ Okp p ∧ Okp q ∧ (∀ m n, m ≤ p.length → Okr (S (cf p) (cf q) m n)) ∧ k (tqs (mulP p q)) pn
  mono := fun ⟨p, q, h1, h2, h3, h4, h5, h6, h7, z⟩ hk he => ⟨p, q, h1, h2, h3, h4, h5, h6, h7, hk _ _ z⟩
def ctPIs : Ct where
  run ds pn k e := ∃ p : List Rat, ds = [poly p, tqs p] ∧ p.length ≤ 1000000 ∧ k (.bl true) pn
  mono := fun ⟨p, h1, h2, z⟩ hk he => ⟨p, h1, h2, hk _ _ z⟩
def ctMkP : Ct where
  run ds pn k e := ∃ (p : Addr) (r : Nat) (ps : List Rat), ds = [.adr p, tqs ps] ∧ ps.length ≤ 1000 ∧ Okp ps ∧ pn = some (p, .bud (r + ps.length + 2)) ∧ k (poly (trim ps)) (some (p, .bud r))
  mono := fun ⟨p, r, ps, h1, h2, h3, h4, z⟩ hk he => ⟨p, r, ps, h1, h2, h3, h4, hk _ _ z⟩
def ctDivr : Ct where
  run ds pn k e := ∃ (p : Addr) (r n : Nat), ds = [.adr p, .int n] ∧ n ≤ 1000 ∧ pn = some (p, .bud (r + 16 * n + 17)) ∧ ∀ ps : List Rat, ps.length = n + 1 → Trimmed ps → fews ps → k (tqs ps) (some (p, .bud r))
  mono := fun ⟨p, r, n, h1, h2, h3, q⟩ hk he => ⟨p, r, n, h1, h2, h3, fun ps a b c => hk _ _ (q ps a b c)⟩
def ctPair : Ct where
  run ds pn k e := ∃ (q r : List Rat), ds = [.tup [poly q, poly r], tqs q, tqs r] ∧ q.length ≤ 1000000 ∧ r.length ≤ 1000000 ∧ k (.bl true) pn
  mono := fun ⟨q, r, h1, h2, h3, z⟩ hk he => ⟨q, r, h1, h2, h3, hk _ _ z⟩
theorem tqs_len (ps : List Rat) : (ps.map tq).length = ps.length := List.length_map _
theorem trim_zeros {ps zs : List Rat} (h : ∀ n, cf zs n = 0) : trim (ps ++ zs) = trim ps := trim_eq (trimmed_trim _) fun n => by
  rw [cf_append, cf_trim]
  split
  · rfl
  · rw [h, cf_ge (by omega)]
theorem cf_zeros (m n : Nat) : cf (List.replicate m 0) n = 0 := by
  unfold cf
  rw [List.getD_eq_getElem?_getD, List.getElem?_replicate]
  split <;> rfl
/-- drawn items, one by one -/
def Drawn (Pr : Rat → Prop) (acc : List D) (t : Nat) : Prop := ∃ xs : List Rat, xs.length = t ∧ (∀ x ∈ xs, Pr x) ∧ acc = xs.map tq
theorem drawn_nil {Pr : Rat → Prop} : Drawn Pr [] 0 := ⟨[], rfl, (fun _ h => nomatch h), rfl⟩
theorem Drawn.snoc {Pr : Rat → Prop} {acc : List D} {t : Nat} {x : Rat} (h : Drawn Pr acc t) (hx : Pr x) : Drawn Pr (acc ++ [tq x]) (t + 1) := by
  obtain ⟨xs, h1, h2, rfl⟩ := h
  refine ⟨xs ++ [x], by rw [List.length_append, h1]; rfl, fun y hy => ?_, by rw [List.map_append]; rfl⟩
  rcases List.mem_append.mp hy with hy | hy
  · exact h2 y hy
  · rw [List.mem_singleton.mp hy]; exact hx
theorem fews_of {xs : List Rat} (h : ∀ x ∈ xs, few x) : fews xs := fun n => by
  by_cases hn : n < xs.length
  · exact h _ (List.mem_of_getElem? (cf_lt hn))
  · rw [cf_ge (by omega)]; exact few_zero
theorem fews_trim {xs : List Rat} (h : fews xs) : fews (trim xs) := fun n => by rw [cf_trim]; exact h n
/-- told items, one by one -/
def ToldD (ps : List Rat) (acc : List D) (t : Nat) : Prop := acc.length = t ∧ ∀ (i : Nat) (d : D), acc[i]? = some d → Rv d (cf ps i)
theorem ToldD.snoc {ps : List Rat} {acc : List D} {t : Nat} {d : D} (h : ToldD ps acc t) (hd : Rv d (cf ps t)) : ToldD ps (acc ++ [d]) (t + 1) := by
  refine ⟨by rw [List.length_append, h.1]; rfl, fun i x hx => ?_⟩
  rw [List.getElem?_append] at hx
  split at hx
  · exact h.2 i x hx
  · rename_i hi
    have e : i = t := by
      rcases Nat.lt_or_ge t i with z | z
      · rw [List.getElem?_eq_none (by rw [h.1]; simp; omega)] at hx; cases hx
      · have := h.1; omega
    subst e
    rw [h.1, Nat.sub_self] at hx
    cases hx
    exact hd
theorem rv_kd {d : D} {x : Rat} (h : Rv d x) : Kd d ∧ Rv (core d) x := by
  rcases h with rfl | ⟨i, rfl, e⟩
  · exact ⟨kd_rq x, .inl rfl⟩
  · exact ⟨kd_int i, .inr ⟨i, rfl, e⟩⟩
theorem its_told {ps : List Rat} {acc : List D} {m : Nat} (h : ToldD ps acc ps.length) : Its (acc ++ (List.replicate m [D.int 0]).flatten) (ps ++ List.replicate m 0) := by
  have hl : (List.replicate m [D.int 0]).flatten = List.replicate m (D.int 0) := by
    induction m with
    | zero => rfl
    | succ k ih => rw [List.replicate_succ, List.flatten_cons, ih, List.replicate_succ]; rfl
  rw [hl]
  refine ⟨by rw [List.length_append, List.length_append, h.1, List.length_replicate, List.length_replicate], fun i d hd => ?_⟩
  rw [List.getElem?_append] at hd
  rw [cf_append]
  split at hd
  · rename_i hi
    rw [if_pos (by rw [← h.1]; exact hi)]
    exact rv_kd (h.2 i d hd)
  · rename_i hi
    rw [if_neg (by rw [← h.1]; exact hi), cf_zeros]
    rw [List.getElem?_replicate] at hd
    split at hd
    · cases hd
      exact ⟨kd_int 0, .inr ⟨0, rfl, rfl⟩⟩
    · cases hd
theorem FitP.fit_mul {D N E M : Nat} {p q : List Rat} (hp : FitP D N p) (hq : FitP E M q) : FitP (D * E) (p.length * (N * M)) (mulP p q) := fun n => by
  rw [cf_mulP]
  exact S_fit hp hq _
theorem FitP.fit_add {D N M : Nat} {p q : List Rat} (hp : FitP D N p) (hq : FitP D M q) : FitP D (N + M) (addP p q) := fun n => by
  rw [cf_addP]
  exact (hp n).add (hq n)
theorem FitP.fit_scl {D N E M : Nat} {p : List Rat} {x : Rat} (hp : FitP D N p) (hx : Fit E M x) : FitP (D * E) (N * M) (sclP p x) := fun n => by
  rw [cf_sclP]
  exact (hp n).mul hx
theorem FitP.up {D N : Nat} {p : List Rat} (hp : FitP D N p) {E : Nat} (hE : 0 < E) : FitP (D * E) (N * E) p := fun n => (hp n).up hE
theorem FitP.mono {D N M : Nat} {p : List Rat} (hp : FitP D N p) (h : N ≤ M) : FitP D M p := fun n => (hp n).mono h
theorem FitP.ok {D N : Nat} {p : List Rat} (hp : FitP D N p) (hD : D < 2 ^ 4400) (hN : N < 2 ^ 4400) : Okp p := fun n => (hp n).ok hD hN
theorem mul_run {D N E M : Nat} {p q : List Rat} {pn : Pn} {k : VL.D → Pn → Prop} {e : ExD → Pn → Prop} (hp : FitP D N p) (hq : FitP E M q) (lp : p.length ≤ 1000) (lq : q.length ≤ 1000) (b1 : D * E < 2 ^ 4400) (b2 : p.length * (N * M) < 2 ^ 4400) (b3 : N * M < 2 ^ 4400) (b4 : N < 2 ^ 4400) (b5 : M < 2 ^ 4400) (q0 : k (tqs (mulP p q)) pn) : ctLMul.run [tqs p, tqs q] pn k e :=
  have d1 : D < 2 ^ 4400 := Nat.lt_of_le_of_lt (Nat.le_mul_of_pos_right D (hq 0).1) b1
  have d2 : E < 2 ^ 4400 := Nat.lt_of_le_of_lt (Nat.le_mul_of_pos_left E (hp 0).1) b1
  ⟨p, q, rfl, lp, lq, fun i j => ((hp i).mul (hq j)).ok b1 b3, fun n => (hp n).ok d1 b4, fun n => (hq n).ok d2 b5, fun m n hm => (S_fit hp hq m).ok b1 (Nat.lt_of_le_of_lt (Nat.mul_le_mul hm (Nat.le_refl _)) b2), q0⟩
theorem all_true (n : Nat) : (List.replicate n true).all id = true := by simp
theorem max_nat0 (a b : Nat) : (if ((a : Int) + (b : Int) - 1) > (0 : Int) then ((a : Int) + (b : Int) - 1) else 0).toNat = a + b - 1 := by
  split <;> omega
theorem flat_one {α : Type} (x : α) : ∀ n : Nat, (List.replicate n [x]).flatten = List.replicate n x
  | 0 => rfl
  | n + 1 => by rw [List.replicate_succ, List.flatten_cons, flat_one x n, List.replicate_succ]; rfl
theorem own_zero {p q : List Rat} {N : Nat} : ((List.range N).map fun n => tq (My.S (cf p) (cf q) 0 n)) = List.replicate N (tp (0, 1)) := by
  refine List.ext_getElem? fun n => ?_
  rw [List.getElem?_map, List.getElem?_replicate]
  by_cases h : n < N
  · rw [List.getElem?_range h, if_pos h]; rfl
  · rw [List.getElem?_eq_none (by simpa using h), if_neg h]; rfl
/-- the part n when t parts of p have been told by all of q, and the part t by j of them -/
def mid (p q : List Rat) (t j n : Nat) : Rat := My.S (cf p) (cf q) t n + (if t ≤ n ∧ n - t < j then cf p t * cf q (n - t) else 0)
theorem mid_zero {p q : List Rat} {t N : Nat} : ((List.range N).map fun n => tq (mid p q t 0 n)) = (List.range N).map fun n => tq (My.S (cf p) (cf q) t n) := by
  refine List.map_congr_left fun n _ => ?_
  unfold mid
  rw [if_neg (by omega), Rat.add_zero]
theorem mid_all {p q : List Rat} {t N : Nat} : ((List.range N).map fun n => tq (mid p q t q.length n)) = (List.range N).map fun n => tq (My.S (cf p) (cf q) (t + 1) n) := by
  refine List.map_congr_left fun n _ => ?_
  show tq (My.S (cf p) (cf q) t n + _) = tq (My.S (cf p) (cf q) t n + (if t ≤ n then cf p t * cf q (n - t) else 0))
  by_cases h : t ≤ n
  · by_cases h2 : n - t < q.length
    · rw [if_pos ⟨h, h2⟩, if_pos h]
    · rw [if_neg (by omega), if_pos h, cf_ge (p := q) (by omega), Rat.mul_zero]
  · rw [if_neg (by omega), if_neg h]
theorem mid_ok {p q : List Rat} {t j n : Nat} (h1 : Okr (My.S (cf p) (cf q) t n)) (h2 : Okr (My.S (cf p) (cf q) (t + 1) n)) : Okr (mid p q t j n) := by
  unfold mid
  by_cases h : t ≤ n ∧ n - t < j
  · rw [if_pos h]
    have e : My.S (cf p) (cf q) (t + 1) n = My.S (cf p) (cf q) t n + (if t ≤ n then cf p t * cf q (n - t) else 0) := rfl
    rw [e, if_pos h.1] at h2
    exact h2
  · rw [if_neg h, Rat.add_zero]; exact h1
theorem own_get {p q : List Rat} {t j N n : Nat} (h : n < N) : ((List.range N).map fun n => tq (mid p q t j n))[n]? = some (tq (mid p q t j n)) := by
  rw [List.getElem?_map, List.getElem?_range h]; rfl
theorem mid_step {p q : List Rat} {t j n : Nat} : mid p q t (j + 1) n = mid p q t j n + (if n = t + j then cf p t * cf q j else 0) := by
  unfold mid
  by_cases h : n = t + j
  · subst h
    rw [if_pos (by omega), if_neg (by omega), if_pos rfl, Nat.add_sub_cancel_left, Rat.add_zero]
  · rw [if_neg h, Rat.add_zero]
    by_cases h2 : t ≤ n ∧ n - t < j
    · rw [if_pos h2, if_pos (by omega)]
    · rw [if_neg h2, if_neg (by omega)]
theorem own_set {p q : List Rat} {t j N : Nat} (h : t + j < N) : ((List.range N).map fun n => tq (mid p q t j n)).set (t + j) (tq (mid p q t j (t + j) + cf p t * cf q j)) = (List.range N).map fun n => tq (mid p q t (j + 1) n) := by
  refine List.ext_getElem? fun n => ?_
  rw [List.getElem?_set]
  by_cases e : t + j = n
  · subst e
    rw [if_pos rfl, if_pos (by simpa using h), own_get h, mid_step, if_pos rfl]
  · rw [if_neg e]
    by_cases hn : n < N
    · rw [own_get hn, own_get hn, mid_step, if_neg (fun z => e z.symm), Rat.add_zero]
    · rw [List.getElem?_eq_none (by simpa using hn), List.getElem?_eq_none (by simpa using hn)]
theorem own_skip {p q : List Rat} {t j N : Nat} (h : cf p t * cf q j = 0) : ((List.range N).map fun n => tq (mid p q t j n)) = (List.range N).map fun n => tq (mid p q t (j + 1) n) := by
  refine List.map_congr_left fun n _ => ?_
  rw [mid_step, h]
  split <;> rw [Rat.add_zero]
theorem mul_m1r {x : Rat} (h : Okr x) : Okr (x * -1) := by
  rw [show x * -1 = -x by grind]
  exact h.neg
def ctLAdd2 : Ct where
  run ds pn k e := ∃ (p q : List Rat), ds = [tqs p, tqs q] ∧ p.length ≤ 1000000 ∧ q.length ≤ 1000000 ∧ Okp p ∧ Okp q ∧ k (tqs (addP p (sclP q (-1)))) pn
  mono := fun ⟨p, q, h1, h2, h3, h4, h5, z⟩ hk he => ⟨p, q, h1, h2, h3, h4, h5, hk _ _ z⟩
section
variable {P : Program} {w : World} {K : PySem.W.Frag} {mg : Str → Option Value} {base : Heap} {kws : List (Str × V)} {f : Addr} {fd : FuncData} {T : Addr}
abbrev s_law_few : Stmt := top 55
theorem sc_law_few : FnScope ["_law_pen_here", "_law_sort", "_law_sign"] ["_law_pen_here"] (defScope s_law_few) := ⟨rfl, rfl, rfl, by decide +kernel, rfl, by decide +kernel, by decide +kernel⟩
theorem fn_law_few (F : FunD K "_law_few" "_law_few" (defArgs s_law_few) (defBody s_law_few) (defScope s_law_few) [] kws f fd) (Z : Fx P w K mg base T) (V_law_draw : VFn P w K mg base (cfL T) 2 "_law_draw" [] ctDraw) (V_law_lowest : VFn P w K mg base (cfL T) 2 "_law_lowest" [] ctLow) (V_law_wide : VFn P w K mg base (cfL T) 3 "_law_wide" [] ctWide) : FnOk P w K mg base (L2.CX P w) 4 f fd ["_law_pen_here"] (spV (cfL T) K mg ctFew) := by
  refine fn_body F sc_law_few (by decide) (fun ds pn k e ⟨p, r, h, _⟩ => by subst h; rfl) fun cdv A outer s H E G ds pn Qv Ev hr tk ⟨p, r, h, hpn, q⟩ => ?_
  subst h
  subst hpn
  refine vss_cons ?_
  refine vs_set 1 ?_ ?nd
  case nd => exact sc_law_few.nd
  refine ve_call (V_law_draw.mono (by decide)) hr tk ?_
  refine va_cons ?_
  refine ve_val 0 rfl ?_
  refine va_cons ?_
  refine ve_int ?_
  refine va_nil ?_
  refine ⟨p, r + 15, 10, rfl, rfl, by decide, by decide, fun v hv1 hv2 => ?_⟩
  refine vss_cons ?_
  refine vs_if ?_
  refine vt_cmp op_lt ?_ (nomark _)
  refine ve_val 1 rfl ?_
  refine ve_int ?_
  refine rb_lt ?_
  refine ⟨_, rfl, fun hk => ?_, fun hk => ?_⟩
  · refine vss_le (r' := r) rfl (by omega) ?_
    refine vss_one ?_
    refine vs_ret ?_
    refine ve_tup ?_
    refine va_cons ?_
    refine ve_int ?_
    refine va_cons ?_
    refine ve_int ?_
    refine va_nil ⟨by rw [sizeLine_eq]; simp, ?_⟩
    exact q 0 few_zero
  · refine vss_nil ?_
    refine vss_cons ?_
    refine vs_if ?_
    refine vt_cmp op_lt ?_ (nomark _)
    refine ve_val 1 rfl ?_
    refine ve_int ?_
    refine rb_lt ?_
    refine ⟨_, rfl, fun hk => ?_, fun hk => ?_⟩
    · refine vss_le (r' := r + 1) rfl (by omega) ?_
      refine vss_one ?_
      refine vs_ret ?_
      refine ve_tup ?_
      refine va_cons ?_
      refine ve_bin op_sub ?_
      refine ve_call (V_law_draw.mono (by decide)) hr tk ?_
      refine va_cons ?_
      refine ve_val 0 rfl ?_
      refine va_cons ?_
      refine ve_int ?_
      refine va_nil ?_
      refine ⟨p, r, 9, rfl, rfl, by decide, by decide, fun u hu1 hu2 => ?_⟩
      refine ve_int ?_
      refine rb_subI ?_
      refine va_cons ?_
      refine ve_int ?_
      refine va_nil ⟨by rw [sizeLine_eq]; simp, ?_⟩
      exact q ((u - 4 : Int) : Rat) (few_int (by omega))
    · refine vss_nil ?_
      refine vss_cons ?_
      refine vs_set 2 ?_ ?nd
      case nd => exact sc_law_few.nd
      refine ve_bin op_sub ?_
      refine ve_int ?_
      refine ve_bin op_mulAll ?_
      refine ve_int ?_
      refine ve_call (V_law_draw.mono (by decide)) hr tk ?_
      refine va_cons ?_
      refine ve_val 0 rfl ?_
      refine va_cons ?_
      refine ve_int ?_
      refine va_nil ?_
      refine ⟨p, r + 14, 2, rfl, rfl, by decide, by decide, fun u hu1 hu2 => ?_⟩
      refine rb_mulI (mulL (by decide) (by decide)) ?_
      refine rb_subI ?_
      refine vss_cons ?_
      refine vs_if ?_
      refine vt_cmp op_lt ?_ (nomark _)
      refine ve_val 1 rfl ?_
      refine ve_int ?_
      refine rb_lt ?_
      refine ⟨_, rfl, fun hk => ?_, fun hk => ?_⟩
      · refine vss_le (r' := r + 2) rfl (by omega) ?_
        refine vss_one ?_
        refine vs_ret ?_
        refine ve_call (V_law_lowest.mono (by decide)) hr tk ?_
        refine va_cons ?_
        refine ve_bin op_mulAll ?_
        refine ve_val 2 rfl ?_
        refine ve_bin op_addAll ?_
        refine ve_int ?_
        refine ve_call (V_law_draw.mono (by decide)) hr tk ?_
        refine va_cons ?_
        refine ve_val 0 rfl ?_
        refine va_cons ?_
        refine ve_int ?_
        refine va_nil ?_
        refine ⟨p, r + 1, 9, rfl, rfl, by decide, by decide, fun a ha1 ha2 => ?_⟩
        refine rb_addI ?_
        refine rb_mulI (mulL (sign_abs (v := 0) hu1 hu2).2.1 (sign_abs (v := 0) hu1 hu2).2.2) ?_
        refine va_cons ?_
        refine ve_bin op_addAll ?_
        refine ve_int ?_
        refine ve_call (V_law_draw.mono (by decide)) hr tk ?_
        refine va_cons ?_
        refine ve_val 0 rfl ?_
        refine va_cons ?_
        refine ve_int ?_
        refine va_nil ?_
        refine ⟨p, r, 9, rfl, rfl, by decide, by decide, fun b hb1 hb2 => ?_⟩
        refine rb_addI ?_
        refine va_nil ?_
        have hn := (sign_abs (v := 1 + a) hu1 hu2).1
        refine ⟨_, _, rfl, by omega, Nat.lt_of_lt_of_le (m := 2 ^ 64) (by omega) (Nat.pow_le_pow_right (by decide) (by decide)), ?_⟩
        exact q _ (few_div (by omega) (by omega) (by omega))
      · refine vss_nil ?_
        refine vss_one ?_
        refine vs_ret ?_
        refine ve_tup ?_
        refine va_cons ?_
        refine ve_bin op_mulAll ?_
        refine ve_val 2 rfl ?_
        refine ve_call (V_law_wide.mono (by decide)) hr tk ?_
        refine va_cons ?_
        refine ve_val 0 rfl ?_
        refine va_cons ?_
        refine ve_bin op_addAll ?_
        refine ve_int ?_
        refine ve_call (V_law_draw.mono (by decide)) hr tk ?_
        refine va_cons ?_
        refine ve_val 0 rfl ?_
        refine va_cons ?_
        refine ve_int ?_
        refine va_nil ?_
        refine ⟨p, r + 13, 2, rfl, rfl, by decide, by decide, fun n hn1 hn2 => ?_⟩
        refine rb_addI ?_
        refine va_nil ?_
        obtain ⟨j, hj⟩ : ∃ j : Nat, 1 + n = (j : Int) := ⟨(1 + n).toNat, by omega⟩
        rw [hj]
        refine ⟨p, r, j, rfl, by omega, rfl, fun t ht1 ht2 => ?_⟩
        refine rb_mulI (mulL (sign_abs (v := 0) hu1 hu2).2.1 (sign_abs (v := 0) hu1 hu2).2.2) ?_
        refine va_cons ?_
        refine ve_int ?_
        refine va_nil ⟨by rw [sizeLine_eq]; simp, ?_⟩
        have hle : (10 : Int) ^ (7 * j) ≤ 100000000000000 := by
          rcases (by omega : j = 1 ∨ j = 2) with rfl | rfl
          · decide
          · decide
        have hs := (sign_abs (v := t) hu1 hu2).1
        exact q (((1 - 2 * u) * t : Int) : Rat) (few_int (by omega))
abbrev s_law_real : Stmt := top 56
theorem sc_law_real : FnScope ["_law_pen_here", "_law_found"] ["_law_pen_here"] (defScope s_law_real) := ⟨rfl, rfl, rfl, by decide +kernel, rfl, by decide +kernel, by decide +kernel⟩
theorem fn_law_real (F : FunD K "_law_real" "_law_real" (defArgs s_law_real) (defBody s_law_real) (defScope s_law_real) [] kws f fd) (Z : Fx P w K mg base T) (V_law_few : VFn P w K mg base (cfL T) 4 "_law_few" [] ctFew) (V_law_pick : VFn P w K mg base (cfL T) 3 "_law_pick" [] ctPick) : FnOk P w K mg base (L2.CX P w) 5 f fd ["_law_pen_here"] (spV (cfL T) K mg ctReal) := by
  refine fn_body F sc_law_real (by decide) (fun ds pn k e ⟨p, r, h, _⟩ => by subst h; rfl) fun cdv A outer s H E G ds pn Qv Ev hr tk ⟨p, r, h, hpn, q⟩ => ?_
  subst h
  subst hpn
  refine vss_cons ?_
  refine vs_set 1 ?_ ?nd
  case nd => exact sc_law_real.nd
  refine ve_call (V_law_few.mono (by decide)) hr tk ?_
  refine va_cons ?_
  refine ve_val 0 rfl ?_
  refine va_nil ?_
  refine ⟨p, r + 1, rfl, rfl, fun x hx => ?_⟩
  refine vss_one ?_
  refine vs_ret ?_
  refine ve_ifexp ?_
  refine vt_cmp (op_neAll hr) ?_ (nomark _)
  refine ve_ix ?_
  refine ve_val 1 rfl ?_
  refine ve_int ?_
  refine ⟨_, rfl, ?_⟩
  refine ve_int ?_
  refine rb_neAI ?_
  refine ⟨_, rfl, fun hk => ?_, fun hk => ?_⟩
  · have h0 : x ≠ 0 := fun z => by subst z; revert hk; decide
    refine VE.le (r' := r) rfl (by omega) ?_
    refine ve_val 1 rfl ?_
    exact q x hx h0
  · refine ve_call (V_law_pick.mono (by decide)) hr tk ?_
    refine va_cons ?_
    refine ve_val 0 rfl ?_
    refine va_cons ?_
    refine ve_lst ?_
    refine va_cons ?_
    refine ve_tup ?_
    refine va_cons ?_
    refine ve_int ?_
    refine va_cons ?_
    refine ve_int ?_
    refine va_nil ⟨by rw [sizeLine_eq]; simp, ?_⟩
    refine va_cons ?_
    refine ve_tup ?_
    refine va_cons ?_
    refine ve_neg ?_
    refine ve_int ?_
    refine ⟨_, rfl, ?_⟩
    refine va_cons ?_
    refine ve_int ?_
    refine va_nil ⟨by rw [sizeLine_eq]; simp, ?_⟩
    refine va_cons ?_
    refine ve_tup ?_
    refine va_cons ?_
    refine ve_int ?_
    refine va_cons ?_
    refine ve_int ?_
    refine va_nil ⟨by rw [sizeLine_eq]; simp, ?_⟩
    refine va_cons ?_
    refine ve_tup ?_
    refine va_cons ?_
    refine ve_neg ?_
    refine ve_int ?_
    refine ⟨_, rfl, ?_⟩
    refine va_cons ?_
    refine ve_int ?_
    refine va_nil ⟨by rw [sizeLine_eq]; simp, ?_⟩
    refine va_nil ⟨by rw [sizeLine_eq]; simp, ?_⟩
    refine va_nil ?_
    refine ⟨p, r, _, rfl, rfl, by simp, by simp, fun d hd => ?_⟩
    simp only [List.mem_cons, List.not_mem_nil, or_false] at hd
    rcases hd with rfl | rfl | rfl | rfl
    · exact q 1 (few_int (i := 1) (by decide)) (by decide)
    · exact q (-1) (few_int (i := -1) (by decide)) (by decide)
    · exact q (Rat.divInt 2 3) (few_div (by decide) (by decide) (by decide)) (by decide +kernel)
    · exact q (Rat.divInt (-5) 2) (few_div (by decide) (by decide) (by decide)) (by decide +kernel)
abbrev s_law_trim : Stmt := top 59
theorem sc_law_trim : FnScope ["_law_parts", "_law_many"] ["_law_parts"] (defScope s_law_trim) := ⟨rfl, rfl, rfl, by decide +kernel, rfl, by decide +kernel, by decide +kernel⟩
theorem fn_law_trim (F : FunD K "_law_trim" "_law_trim" (defArgs s_law_trim) (defBody s_law_trim) (defScope s_law_trim) [] kws f fd) (Z : Fx P w K mg base T)  : FnOk P w K mg base (L2.CX P w) 1 f fd ["_law_parts"] (spV (cfL T) K mg ctTrim) := by
  refine fn_body F sc_law_trim (by decide) (fun ds pn k e ⟨ps, h, _⟩ => by subst h; rfl) fun cdv A outer s H E G ds pn Qv Ev hr tk ⟨ps, h, q⟩ => ?_
  subst h
  refine vss_cons ?_
  refine vs_set 1 ?_ ?nd
  case nd => exact sc_law_trim.nd
  refine ve_len Z.m_len ?_
  refine ve_val 0 rfl ?_
  refine len_tqs ?_
  refine vss_cons ?_
  refine vs_while (passes_of rfl) (fun m S => m ≤ ps.length ∧ trim (ps.take m) = trim ps ∧ S = ⟨[.val (tqs ps), .val (.int (m : Nat))], pn⟩) ps.length ⟨Nat.le_refl _, by rw [List.take_length], rfl⟩ ?_
  rintro m S ⟨hm, htr, rfl⟩
  have done : trim ps = ps.take m → VSs (bX P w K mg base ["_law_parts", "_law_many"] "_law_trim" s_law_trim f cdv A outer s H E) (bodyCv (cfL T) G H pn Ev) ⟨[.val (tqs ps), .val (.int (m : Nat))], pn⟩ ((defBody s_law_trim).drop 2) { nx := fun S => Qv .non (outPn pn S.pn), rt := fun d S => Qv d (outPn pn S.pn) } := fun hdone => by
    refine vss_one ?_
    refine vs_ret ?_
    refine ve_slU ?_
    refine ve_val 0 rfl ?_
    refine ⟨_, rfl, ?_⟩
    refine ve_val 1 rfl ?_
    refine ⟨_, rfl, ?_⟩
    rw [cutD_take (by rw [tqs_len]; exact hm), ← List.map_take, ← hdone]
    cases pn <;> exact q
  refine vt_w (vw_and ?_)
  refine vt_cmp op_gt ?_ (nomark _)
  refine ve_val 1 rfl ?_
  refine ve_int ?_
  refine rb_gt ?_
  refine ⟨_, rfl, fun hk => ?_, fun hk => ⟨nofun, fun _ => ?_⟩⟩
  · have hm0 : 0 < m := by have := of_decide_eq_true hk; omega
    refine vw_and1 ?_
    refine vt_cmp (op_eqAll hr) ?_ (nomark _)
    refine ve_ix ?_
    refine ve_ix ?_
    refine ve_val 0 rfl ?_
    refine ve_bin op_sub ?_
    refine ve_val 1 rfl ?_
    refine ve_int ?_
    refine rb_subI ?_
    refine ⟨_, atI_sub hm0 (tqs_get (by omega)), ?_⟩
    refine ve_int ?_
    refine ⟨_, rfl, ?_⟩
    refine ve_int ?_
    refine rb_eqAI ?_
    refine ⟨_, rfl, fun hk2 => ?_, fun hk2 => ?_⟩
    · refine vss_one ?_
      refine vs_set 1 ?_ ?nd
      case nd => exact sc_law_trim.nd
      refine ve_bin op_sub ?_
      refine ve_val 1 rfl ?_
      refine ve_int ?_
      refine rb_subI ?_
      refine ⟨m - 1, by omega, by omega, ?_, ?_⟩
      · have h5 := trim_take (p := ps) (m := m - 1) (by omega) (num_zero.mp (of_decide_eq_true hk2))
        rw [Nat.sub_add_cancel hm0, htr] at h5
        exact h5.symm
      · rw [show ((m - 1 : Nat) : Int) = (m : Int) - 1 by omega]
        cases pn <;> rfl
    · have h6 := take_trimmed (p := ps) (m := m - 1) (by omega) (fun z => of_decide_eq_false hk2 (num_zero.mpr z))
      rw [Nat.sub_add_cancel hm0, htr] at h6
      exact done h6
  · have hm0 : m = 0 := by have := of_decide_eq_false hk; omega
    refine done ?_
    rw [← htr]
    exact take_zero hm0
abbrev s_law_some : Stmt := top 57
theorem sc_law_some : FnScope ["_law_pen_here", "_law_most", "_law_k"] ["_law_pen_here", "_law_most"] (defScope s_law_some) := ⟨rfl, rfl, rfl, by decide +kernel, rfl, by decide +kernel, by decide +kernel⟩
theorem fn_law_some (F : FunD K "_law_some" "_law_some" (defArgs s_law_some) (defBody s_law_some) (defScope s_law_some) [] kws f fd) (Z : Fx P w K mg base T) (V_law_draw : VFn P w K mg base (cfL T) 2 "_law_draw" [] ctDraw) (V_law_few : VFn P w K mg base (cfL T) 4 "_law_few" [] ctFew) (V_law_trim : VFn P w K mg base (cfL T) 1 "_law_trim" [] ctTrim) : FnOk P w K mg base (L2.CX P w) 5 f fd ["_law_pen_here", "_law_most"] (spV (cfL T) K mg ctSome) := by
  refine fn_body F sc_law_some (by decide) (fun ds pn k e ⟨p, r, m, h, _⟩ => by subst h; rfl) fun cdv A outer s H E G ds pn Qv Ev hr tk ⟨p, r, m, h, hm, hpn, q⟩ => ?_
  subst h
  subst hpn
  refine vss_one ?_
  refine vs_ret ?_
  refine ve_call (V_law_trim.mono (by decide)) hr tk ?_
  refine va_cons ?_
  refine ve_lcR (own := [("_law_k", 2)]) rfl sc_law_some.nd (blkOk_by rfl) (by simp) Z.m_range (tg_name (i := 2) (by simp)) (fun s H C cl fp => pg_name sc_law_some.nd rfl (by first | exact Or.inl rfl | exact Or.inr rfl) (by first | exact .inl rfl | exact .inr rfl)) ?_
  refine ve_call (V_law_draw.mono (by decide)) hr tk ?_
  refine va_cons ?_
  refine ve_val 0 rfl ?_
  refine va_cons ?_
  refine ve_bin op_addAll ?_
  refine ve_val 1 rfl ?_
  refine ve_int ?_
  refine rb_addI ?_
  refine va_nil ?_
  refine ⟨p, r + 16 * m, _, rfl, rfl, by omega, by omega, fun n hn1 hn2 => ?_⟩
  obtain ⟨j, rfl⟩ : ∃ j : Nat, n = (j : Int) := ⟨n.toNat, by omega⟩
  refine ⟨_, rfl, by rw [sizeLine_eq]; omega, by omega, fun t acc pn2 => pn2 = some (p, .bud (r + 16 * (m - t))) ∧ Drawn few acc t, ⟨rfl, drawn_nil⟩, ?_, ?_⟩
  · rintro t acc pn2 ht ⟨rfl, hacc⟩
    obtain ⟨i, en⟩ : ∃ i, r + 16 * (m - t) = i + 16 := ⟨r + 16 * (m - t) - 16, by omega⟩
    rw [en]
    refine ⟨_, rfl, ?_⟩
    intro s0 H0 C cl fp Gb Hb
    refine ve_call (V_law_few.mono (by decide)) hr takes_blk ?_
    refine va_cons ?_
    refine ve_val 0 rfl ?_
    refine va_nil ?_
    refine ⟨p, i, rfl, rfl, fun x hx => ?_⟩
    refine ⟨by rw [show r + 16 * (m - (t + 1)) = i by omega]; rfl, hacc.snoc hx⟩
  rintro acc pn2 ⟨rfl, xs, hx1, hx2, rfl⟩
  rw [Int.toNat_natCast] at *
  refine VA.le (r' := r) rfl (by omega) ?_
  refine va_nil ?_
  refine ⟨xs, rfl, ?_⟩
  exact q (trim xs) (trimmed_trim xs) (Nat.le_trans (trim_le xs) (by omega)) (fews_trim (fews_of hx2))
abbrev s_law_told : Stmt := top 58
theorem sc_law_told : FnScope ["_law_pen_here", "_law_one"] ["_law_pen_here", "_law_one"] (defScope s_law_told) := ⟨rfl, rfl, rfl, by decide +kernel, rfl, by decide +kernel, by decide +kernel⟩
theorem fn_law_told (F : FunD K "_law_told" "_law_told" (defArgs s_law_told) (defBody s_law_told) (defScope s_law_told) [] kws f fd) (Z : Fx P w K mg base T) (V_law_draw : VFn P w K mg base (cfL T) 2 "_law_draw" [] ctDraw) (K_Ratio_0 : VMk P w K mg base (cfL T) 4 "Ratio" [] ctInit) : FnOk P w K mg base (L2.CX P w) 6 f fd ["_law_pen_here", "_law_one"] (spV (cfL T) K mg ctTold) := by
  refine fn_body F sc_law_told (by decide) (fun ds pn k e ⟨p, r, x, h, _⟩ => by subst h; rfl) fun cdv A outer s H E G ds pn Qv Ev hr tk ⟨p, r, x, h, hx, hpn, q⟩ => ?_
  subst h
  subst hpn
  refine vss_cons ?_
  refine vs_if ?_
  refine vt_w (vw_and ?_)
  refine vt_cmp (op_eqAll hr) ?_ (nomark _)
  refine ve_ix ?_
  refine ve_val 1 rfl ?_
  refine ve_int ?_
  refine ⟨_, rfl, ?_⟩
  refine ve_int ?_
  refine rb_eqAI ?_
  refine ⟨_, rfl, fun hk => ?_, fun hk => ⟨nofun, fun _ => ?_⟩⟩
  · have hd1 : (x.den : Int) = 1 := of_decide_eq_true hk
    refine vw_and1 ?_
    refine vt_cmp (op_eqAll hr) ?_ (nomark _)
    refine ve_call (V_law_draw.mono (by decide)) hr tk ?_
    refine va_cons ?_
    refine ve_val 0 rfl ?_
    refine va_cons ?_
    refine ve_int ?_
    refine va_nil ?_
    refine ⟨p, r, 2, rfl, rfl, by decide, by decide, fun v hv1 hv2 => ?_⟩
    refine ve_int ?_
    refine rb_eqAI ?_
    refine ⟨_, rfl, fun hk2 => ?_, fun hk2 => ?_⟩
    · refine vss_one ?_
      refine vs_ret ?_
      refine ve_ix ?_
      refine ve_val 1 rfl ?_
      refine ve_int ?_
      refine ⟨_, rfl, ?_⟩
      refine q _ (.inr ⟨x.num, rfl, ?_⟩)
      exact Rat.ext rfl (by show x.den = 1; omega)
    · refine vss_nil ?_
      refine vss_one ?_
      refine vs_ret ?_
      refine ve_make K_Ratio_0 (hr.mono (by decide)) tk ?_
      refine va_cons ?_
      refine ve_ix ?_
      refine ve_val 1 rfl ?_
      refine ve_int ?_
      refine ⟨_, rfl, ?_⟩
      refine va_cons ?_
      refine ve_ix ?_
      refine ve_val 1 rfl ?_
      refine ve_int ?_
      refine ⟨_, rfl, ?_⟩
      refine va_nil ?_
      refine mk_int (den_ne x) (on2 hx) (div_self x) ?_
      exact q _ (.inl rfl)
  · refine vss_nil ?_
    refine vss_le (r' := r) rfl (by omega) ?_
    refine vss_one ?_
    refine vs_ret ?_
    refine ve_make K_Ratio_0 (hr.mono (by decide)) tk ?_
    refine va_cons ?_
    refine ve_ix ?_
    refine ve_val 1 rfl ?_
    refine ve_int ?_
    refine ⟨_, rfl, ?_⟩
    refine va_cons ?_
    refine ve_ix ?_
    refine ve_val 1 rfl ?_
    refine ve_int ?_
    refine ⟨_, rfl, ?_⟩
    refine va_nil ?_
    refine mk_int (den_ne x) (on2 hx) (div_self x) ?_
    exact q _ (.inl rfl)
abbrev s_law_at : Stmt := top 60
theorem sc_law_at : FnScope ["_law_parts", "_law_number"] ["_law_parts", "_law_number"] (defScope s_law_at) := ⟨rfl, rfl, rfl, by decide +kernel, rfl, by decide +kernel, by decide +kernel⟩
theorem fn_law_at (F : FunD K "_law_at" "_law_at" (defArgs s_law_at) (defBody s_law_at) (defScope s_law_at) [] kws f fd) (Z : Fx P w K mg base T)  : FnOk P w K mg base (L2.CX P w) 1 f fd ["_law_parts", "_law_number"] (spV (cfL T) K mg ctAt) := by
  refine fn_body F sc_law_at (by decide) (fun ds pn k e ⟨ps, n, h, _⟩ => by subst h; rfl) fun cdv A outer s H E G ds pn Qv Ev hr tk ⟨ps, n, h, q⟩ => ?_
  subst h
  refine vss_one ?_
  refine vs_ret ?_
  refine ve_ifexp ?_
  refine vt_cmp op_lt ?_ (nomark _)
  refine ve_val 1 rfl ?_
  refine ve_len Z.m_len ?_
  refine ve_val 0 rfl ?_
  refine len_tqs ?_
  refine rb_lt ?_
  refine ⟨_, rfl, fun hk => ?_, fun hk => ?_⟩
  · have hn : n < ps.length := by have := of_decide_eq_true hk; omega
    refine ve_ix ?_
    refine ve_val 0 rfl ?_
    refine ve_val 1 rfl ?_
    refine ⟨_, atI_of (tqs_get hn), ?_⟩
    cases pn <;> exact q
  · have hn : ps.length ≤ n := by have := of_decide_eq_false hk; omega
    refine ve_tup ?_
    refine va_cons ?_
    refine ve_int ?_
    refine va_cons ?_
    refine ve_int ?_
    refine va_nil ⟨by rw [sizeLine_eq]; simp, ?_⟩
    have e0 : tp (0, 1) = tq (cf ps n) := by rw [cf_ge hn]; rfl
    show Qv (tp (0, 1)) _
    rw [e0]
    cases pn <;> exact q
abbrev s_law_add : Stmt := top 61
theorem sc_law_add : FnScope ["_law_one", "_law_other", "_law_many", "_law_k"] ["_law_one", "_law_other"] (defScope s_law_add) := ⟨rfl, rfl, rfl, by decide +kernel, rfl, by decide +kernel, by decide +kernel⟩
theorem fn_law_add (F : FunD K "_law_add" "_law_add" (defArgs s_law_add) (defBody s_law_add) (defScope s_law_add) [] kws f fd) (Z : Fx P w K mg base T) (V_law_at : VFn P w K mg base (cfL T) 1 "_law_at" [] ctAt) (V_law_plus : VFn P w K mg base (cfL T) 3 "_law_plus" [] (ctLBin fun x y => x + y)) (V_law_trim : VFn P w K mg base (cfL T) 1 "_law_trim" [] ctTrim) : FnOk P w K mg base (L2.CX P w) 4 f fd ["_law_one", "_law_other"] (spV (cfL T) K mg ctLAdd) := by
  refine fn_body F sc_law_add (by decide) (fun ds pn k e ⟨p, q, h, _⟩ => by subst h; rfl) fun cdv A outer s H E G ds pn Qv Ev hr tk ⟨p, q, h, lp, lq, okp, okq, hq⟩ => ?_
  subst h
  refine vss_cons ?_
  refine vs_set 2 ?_ ?nd
  case nd => exact sc_law_add.nd
  refine ve_max2 Z.m_max rfl ?_
  refine va_cons ?_
  refine ve_len Z.m_len ?_
  refine ve_val 0 rfl ?_
  refine len_tqs ?_
  refine va_cons ?_
  refine ve_len Z.m_len ?_
  refine ve_val 1 rfl ?_
  refine len_tqs ?_
  refine va_nil ?_
  refine ⟨_, _, rfl, ?_⟩
  rw [max_nat]
  refine vss_one ?_
  refine vs_ret ?_
  refine ve_call (V_law_trim.mono (by decide)) hr tk ?_
  refine va_cons ?_
  refine ve_lcR (own := [("_law_k", 3)]) rfl sc_law_add.nd (blkOk_by rfl) (by simp) Z.m_range (tg_name (i := 3) (by simp)) (fun s H C cl fp => pg_name sc_law_add.nd rfl (by first | exact Or.inl rfl | exact Or.inr rfl) (by first | exact .inl rfl | exact .inr rfl)) ?_
  refine ve_val 2 rfl ?_
  refine ⟨_, rfl, by rw [sizeLine_eq]; omega, by omega, fun t acc pn2 => pn2 = pn ∧ acc = (List.range t).map (fun n => tq (cf p n + cf q n)), ⟨by cases pn <;> rfl, rfl⟩, ?_, ?_⟩
  · rintro t acc pn2 ht ⟨rfl, rfl⟩
    refine ⟨_, rfl, ?_⟩
    intro s0 H0 C cl fp Gb Hb
    refine ve_call (V_law_plus.mono (by decide)) hr takes_blk ?_
    refine va_cons ?_
    refine ve_call (V_law_at.mono (by decide)) hr takes_blk ?_
    refine va_cons ?_
    refine ve_val 0 rfl ?_
    refine va_cons ?_
    refine ve_val 3 rfl ?_
    refine va_nil ?_
    refine ⟨p, t, rfl, ?_⟩
    refine va_cons ?_
    refine ve_call (V_law_at.mono (by decide)) hr takes_blk ?_
    refine va_cons ?_
    refine ve_val 1 rfl ?_
    refine va_cons ?_
    refine ve_val 3 rfl ?_
    refine va_nil ?_
    refine ⟨q, t, rfl, ?_⟩
    refine va_nil ?_
    refine ⟨_, _, rfl, okp t, okq t, ?_⟩
    refine ⟨by cases pn2 <;> rfl, ?_⟩
    exact range_map.symm
  rintro acc pn2 ⟨rfl, rfl⟩
  rw [Int.toNat_natCast]
  refine va_nil ?_
  refine ⟨(List.range (max p.length q.length)).map fun n => cf p n + cf q n, by rw [tqs, List.map_map]; rfl, ?_⟩
  cases pn2 <;> exact hq
abbrev s_law_scaled : Stmt := top 62
theorem sc_law_scaled : FnScope ["_law_parts", "_law_factor", "_law_part"] ["_law_parts", "_law_factor"] (defScope s_law_scaled) := ⟨rfl, rfl, rfl, by decide +kernel, rfl, by decide +kernel, by decide +kernel⟩
theorem fn_law_scaled (F : FunD K "_law_scaled" "_law_scaled" (defArgs s_law_scaled) (defBody s_law_scaled) (defScope s_law_scaled) [] kws f fd) (Z : Fx P w K mg base T) (V_law_times : VFn P w K mg base (cfL T) 3 "_law_times" [] (ctLBin fun x y => x * y)) (V_law_trim : VFn P w K mg base (cfL T) 1 "_law_trim" [] ctTrim) : FnOk P w K mg base (L2.CX P w) 4 f fd ["_law_parts", "_law_factor"] (spV (cfL T) K mg ctScl) := by
  refine fn_body F sc_law_scaled (by decide) (fun ds pn k e ⟨p, x, h, _⟩ => by subst h; rfl) fun cdv A outer s H E G ds pn Qv Ev hr tk ⟨p, x, h, okp, okx, hq⟩ => ?_
  subst h
  refine vss_one ?_
  refine vs_ret ?_
  refine ve_call (V_law_trim.mono (by decide)) hr tk ?_
  refine va_cons ?_
  refine ve_lcL (own := [("_law_part", 2)]) rfl sc_law_scaled.nd (blkOk_by rfl) (by simp) (tg_name (i := 2) (by simp)) (fun s H C cl fp => pg_name sc_law_scaled.nd rfl (by first | exact Or.inl rfl | exact Or.inr rfl) (by first | exact .inl rfl | exact .inr rfl)) ?_
  refine ve_val 0 rfl ?_
  refine ⟨_, rfl, fun t acc pn2 => pn2 = pn ∧ acc = (List.range t).map (fun n => tq (cf p n * x)), ⟨by cases pn <;> rfl, rfl⟩, ?_, ?_⟩
  · rintro t y acc pn2 hy ⟨rfl, rfl⟩
    have ht : t < p.length := by
      rcases Nat.lt_or_ge t p.length with z | z
      · exact z
      · rw [List.getElem?_eq_none (by rw [tqs_len]; exact z)] at hy; cases hy
    rw [tqs_get ht] at hy
    cases hy
    refine ⟨_, rfl, ?_⟩
    intro s0 H0 C cl fp Gb Hb
    refine ve_call (V_law_times.mono (by decide)) hr takes_blk ?_
    refine va_cons ?_
    refine ve_val 2 rfl ?_
    refine va_cons ?_
    refine ve_val 1 rfl ?_
    refine va_nil ?_
    refine ⟨_, _, rfl, okp t, okx, ?_⟩
    refine ⟨by cases pn2 <;> rfl, ?_⟩
    exact range_map.symm
  rintro acc pn2 ⟨rfl, rfl⟩
  rw [tqs_len]
  refine va_nil ?_
  refine ⟨(List.range p.length).map fun n => cf p n * x, by rw [tqs, List.map_map]; rfl, ?_⟩
  cases pn2 <;> exact hq
abbrev s_law_mul : Stmt := top 64
theorem sc_law_mul : FnScope ["_law_one", "_law_other", "_law_found", "_law_k", "_law_j"] ["_law_one", "_law_other"] (defScope s_law_mul) := ⟨rfl, rfl, rfl, by decide +kernel, rfl, by decide +kernel, by decide +kernel⟩
theorem fn_law_mul (F : FunD K "_law_mul" "_law_mul" (defArgs s_law_mul) (defBody s_law_mul) (defScope s_law_mul) [] kws f fd) (Z : Fx P w K mg base T) (V_law_plus : VFn P w K mg base (cfL T) 3 "_law_plus" [] (ctLBin fun x y => x + y)) (V_law_times : VFn P w K mg base (cfL T) 3 "_law_times" [] (ctLBin fun x y => x * y)) (V_law_trim : VFn P w K mg base (cfL T) 1 "_law_trim" [] ctTrim) : FnOk P w K mg base (L2.CX P w) 4 f fd ["_law_one", "_law_other"] (spV (cfL T) K mg ctLMul) := by
  refine fn_body F sc_law_mul (by decide) (fun ds pn k e ⟨p, q, h, _⟩ => by subst h; rfl) fun cdv A outer s H E G ds pn Qv Ev hr tk ⟨p, q, h, lp, lq, okm, okp, okq, oks, hq⟩ => ?_
  subst h
  refine vss_cons ?_
  refine vs_setOwnMul 2 ?_ sc_law_mul.nd
  refine ve_lst ?_
  refine va_cons ?_
  refine ve_tup ?_
  refine va_cons ?_
  refine ve_int ?_
  refine va_cons ?_
  refine ve_int ?_
  refine va_nil ⟨by rw [sizeLine_eq]; simp, ?_⟩
  refine va_nil ⟨by rw [sizeLine_eq]; simp, ?_⟩
  refine ve_max2 Z.m_max rfl ?_
  refine va_cons ?_
  refine ve_int ?_
  refine va_cons ?_
  refine ve_bin op_sub ?_
  refine ve_bin op_addAll ?_
  refine ve_len Z.m_len ?_
  refine ve_val 0 rfl ?_
  refine len_tqs ?_
  refine ve_len Z.m_len ?_
  refine ve_val 1 rfl ?_
  refine len_tqs ?_
  refine rb_addI ?_
  refine ve_int ?_
  refine rb_subI ?_
  refine va_nil ?_
  refine ⟨_, _, rfl, ?_⟩
  refine ⟨_, _, rfl, rfl, by omega, by omega, ?_, ?_⟩
  · rw [max_nat0]; simp [sizeLine_eq]; omega
  rw [max_nat0, flat_one]
  obtain ⟨N, hN⟩ : ∃ N, N = p.length + q.length - 1 := ⟨_, rfl⟩
  rw [← hN]
  refine vss_cons ?_
  refine vs_forR1 (passes_of rfl) rfl Z.m_range ?_
  refine ve_len Z.m_len ?_
  refine ve_val 0 rfl ?_
  refine len_tqs ?_
  refine ⟨_, rfl, by omega, by omega, fun t S => ∃ (s3 s4 : Sl), S = ⟨[.val (tqs p), .val (tqs q), .own ((List.range N).map fun n => tq (My.S (cf p) (cf q) t n)), s3, s4], pn⟩, ⟨_, _, by rw [own_zero]; rfl⟩, ?_, ?_⟩
  · rintro t S ht ⟨s3, s4, rfl⟩
    have htp : t < p.length := by omega
    refine vg_name 3 ?_ sc_law_mul.nd
    refine vss_one ?_
    refine vs_forR1 (passes_of rfl) rfl Z.m_range ?_
    refine ve_len Z.m_len ?_
    refine ve_val 1 rfl ?_
    refine len_tqs ?_
    refine ⟨_, rfl, by omega, by omega, fun j S => ∃ (s4 : Sl), S = ⟨[.val (tqs p), .val (tqs q), .own ((List.range N).map fun n => tq (mid p q t j n)), .val (.int t), s4], pn⟩, ⟨_, by rw [mid_zero]; cases pn <;> rfl⟩, ?_, ?_⟩
    · rintro j S hj ⟨s4, rfl⟩
      have hjq : j < q.length := by omega
      have hNj : t + j < N := by omega
      refine vg_name 4 ?_ sc_law_mul.nd
      refine vss_one ?_
      refine vs_if ?_
      refine vt_w (vw_and ?_)
      refine vt_cmp (op_neAll hr) ?_ (nomark _)
      refine ve_ix ?_
      refine ve_ix ?_
      refine ve_val 0 rfl ?_
      refine ve_val 3 rfl ?_
      refine ⟨_, atI_of (tqs_get htp), ?_⟩
      refine ve_int ?_
      refine ⟨_, rfl, ?_⟩
      refine ve_int ?_
      refine rb_neAI ?_
      refine ⟨_, rfl, fun hk => ?_, fun hk => ⟨nofun, fun _ => ?_⟩⟩
      · refine vw_and1 ?_
        refine vt_cmp (op_neAll hr) ?_ (nomark _)
        refine ve_ix ?_
        refine ve_ix ?_
        refine ve_val 1 rfl ?_
        refine ve_val 4 rfl ?_
        refine ⟨_, atI_of (tqs_get hjq), ?_⟩
        refine ve_int ?_
        refine ⟨_, rfl, ?_⟩
        refine ve_int ?_
        refine rb_neAI ?_
        refine ⟨_, rfl, fun hk2 => ?_, fun hk2 => ?_⟩
        · refine vss_one ?_
          refine vs_putOwn 2 rfl ?_
          refine ve_call (V_law_plus.mono (by decide)) hr tk ?_
          refine va_cons ?_
          refine ve_ixOwn 2 rfl ?_
          refine ve_bin op_addAll ?_
          refine ve_val 3 rfl ?_
          refine ve_val 4 rfl ?_
          refine rb_addI ?_
          refine ⟨rfl, ((t + j : Nat) : Int), tq (mid p q t j (t + j)), by rw [Int.natCast_add], ?_, ?_⟩
          · exact atI_of (own_get hNj)
          refine va_cons ?_
          refine ve_call (V_law_times.mono (by decide)) hr tk ?_
          refine va_cons ?_
          refine ve_ix ?_
          refine ve_val 0 rfl ?_
          refine ve_val 3 rfl ?_
          refine ⟨_, atI_of (tqs_get htp), ?_⟩
          refine va_cons ?_
          refine ve_ix ?_
          refine ve_val 1 rfl ?_
          refine ve_val 4 rfl ?_
          refine ⟨_, atI_of (tqs_get hjq), ?_⟩
          refine va_nil ?_
          refine ⟨_, _, rfl, okp t, okq j, ?_⟩
          refine va_nil ?_
          refine ⟨_, _, rfl, mid_ok (oks t (t + j) (by omega)) (oks (t + 1) (t + j) (by omega)), okm t j, ?_⟩
          refine ⟨⟨_, rfl⟩, ?_⟩
          refine ve_bin op_addAll ?_
          refine ve_val 3 rfl ?_
          refine ve_val 4 rfl ?_
          refine rb_addI ?_
          refine ⟨_, t + j, rfl, by rw [Int.natCast_add], by simp; omega, ?_⟩
          rw [own_set hNj]
          exact ⟨_, by cases pn <;> rfl⟩
        · refine vss_nil ?_
          have hz : cf p t * cf q j = 0 := by
            have h0 : (fr (cf q j)).1 = 0 := by simpa using hk2
            rw [num_zero.mp h0, Rat.mul_zero]
          rw [own_skip (p := p) (q := q) (N := N) hz]
          exact ⟨_, by cases pn <;> rfl⟩
      · refine vss_nil ?_
        have hz : cf p t * cf q j = 0 := by
          have h0 : (fr (cf p t)).1 = 0 := by simpa using hk
          rw [num_zero.mp h0, Rat.zero_mul]
        rw [own_skip (p := p) (q := q) (N := N) hz]
        exact ⟨_, by cases pn <;> rfl⟩
    rintro S ⟨s4, rfl⟩
    rw [Int.toNat_natCast, mid_all]
    exact ⟨_, _, by cases pn <;> rfl⟩
  rintro S ⟨s3, s4, rfl⟩
  rw [Int.toNat_natCast]
  refine vss_one ?_
  refine vs_ret ?_
  refine ve_call (V_law_trim.mono (by decide)) hr tk ?_
  refine va_cons ?_
  refine ve_freeze 2 rfl rfl ?_
  refine va_nil ?_
  refine ⟨(List.range N).map fun n => My.S (cf p) (cf q) p.length n, by rw [tqs, List.map_map]; rfl, ?_⟩
  rw [hN]
  cases pn <;> exact hq
abbrev s_law_poly_is : Stmt := top 65
theorem sc_law_poly_is : FnScope ["_law_told_here", "_law_due", "_law_k"] ["_law_told_here", "_law_due"] (defScope s_law_poly_is) := ⟨rfl, rfl, rfl, by decide +kernel, rfl, by decide +kernel, by decide +kernel⟩
theorem fn_law_poly_is (F : FunD K "_law_poly_is" "_law_poly_is" (defArgs s_law_poly_is) (defBody s_law_poly_is) (defScope s_law_poly_is) [] kws f fd) (Z : Fx P w K mg base T) (V_law_is : VFn P w K mg base (cfL T) 2 "_law_is" [] ctLIs) : FnOk P w K mg base (L2.CX P w) 3 f fd ["_law_told_here", "_law_due"] (spV (cfL T) K mg ctPIs) := by
  refine fn_body F sc_law_poly_is (by decide) (fun ds pn k e ⟨p, h, _⟩ => by subst h; rfl) fun cdv A outer s H E G ds pn Qv Ev hr tk ⟨p, h, lp, q⟩ => ?_
  subst h
  refine vss_cons ?_
  refine vs_if ?_
  refine vt_w (vw_or ?_)
  refine vt_not ?_
  refine vt_truth ?_
  refine ve_isinst Z.m_isinstance ?_
  refine va_cons ?_
  refine ve_val 0 rfl ?_
  refine va_cons ?_
  refine ve_cref ?_ (Z.has (by decide))
  refine va_nil ?_
  refine ⟨_, _, _, rfl, isA_C Z (kd_ins (c := "Poly") (by decide)) (by decide), ?_⟩
  refine ⟨nofun, fun _ => ?_⟩
  refine vw_or ?_
  refine vt_not ?_
  refine vt_truth ?_
  refine ve_isinst Z.m_isinstance ?_
  refine va_cons ?_
  refine ve_fld ?_
  refine ve_val 0 rfl ?_
  refine ⟨_, _, _, _, rfl, Z.cf _ _ (by decide), rfl, ?_⟩
  refine va_cons ?_
  refine ve_ty (T := "tuple") ?_ Z.m_tuple (by decide +kernel)
  refine va_nil ?_
  refine ⟨_, _, _, rfl, isA_ty Z (kd_tup _) (by decide), ?_⟩
  refine ⟨nofun, fun _ => ?_⟩
  refine vw_or1 ?_
  refine vt_cmp (op_neAll hr) ?_ (nomark _)
  refine ve_len Z.m_len ?_
  refine ve_fld ?_
  refine ve_val 0 rfl ?_
  refine ⟨_, _, _, _, rfl, Z.cf _ _ (by decide), rfl, ?_⟩
  refine ve_len Z.m_len ?_
  refine ve_val 1 rfl ?_
  refine rb_neAI ?_
  refine ⟨_, rfl, fun hk => ?_, fun _ => ?_⟩
  · exfalso
    revert hk
    simp
  refine vss_nil ?_
  refine vss_one ?_
  refine vs_ret ?_
  refine ve_all Z.m_all rfl ?_
  refine ve_lcR (own := [("_law_k", 2)]) rfl sc_law_poly_is.nd (blkOk_by rfl) (by simp) Z.m_range (tg_name (i := 2) (by simp)) (fun s H C cl fp => pg_name sc_law_poly_is.nd rfl (by first | exact Or.inl rfl | exact Or.inr rfl) (by first | exact .inl rfl | exact .inr rfl)) ?_
  refine ve_len Z.m_len ?_
  refine ve_val 1 rfl ?_
  refine len_tqs ?_
  refine ⟨_, rfl, by rw [sizeLine_eq]; omega, by omega, fun t acc pn2 => pn2 = pn ∧ acc = (List.replicate t true).map D.bl, ⟨by cases pn <;> rfl, rfl⟩, ?_, ?_⟩
  · rintro t acc pn2 ht ⟨rfl, rfl⟩
    have htp : t < p.length := by omega
    refine ⟨_, rfl, ?_⟩
    intro s0 H0 C cl fp Gb Hb
    refine ve_call (V_law_is.mono (by decide)) hr takes_blk ?_
    refine va_cons ?_
    refine ve_ix ?_
    refine ve_fld ?_
    refine ve_val 0 rfl ?_
    refine ⟨_, _, _, _, rfl, Z.cf _ _ (by decide), rfl, ?_⟩
    refine ve_val 2 rfl ?_
    refine ⟨_, atI_of (rqs_get htp), ?_⟩
    refine va_cons ?_
    refine ve_ix ?_
    refine ve_val 1 rfl ?_
    refine ve_val 2 rfl ?_
    refine ⟨_, atI_of (tqs_get htp), ?_⟩
    refine va_nil ?_
    refine ⟨_, rfl, ?_⟩
    refine ⟨by cases pn2 <;> rfl, ?_⟩
    rw [List.replicate_succ', List.map_append]; rfl
  rintro acc pn2 ⟨rfl, rfl⟩
  refine ⟨_, rfl, ?_⟩
  rw [all_true]
  cases pn2 <;> exact q
abbrev s_law_poly : Stmt := top 66
theorem sc_law_poly : FnScope ["_law_pen_here", "_law_parts", "_law_given", "_law_part"] ["_law_pen_here", "_law_parts"] (defScope s_law_poly) := ⟨rfl, rfl, rfl, by decide +kernel, rfl, by decide +kernel, by decide +kernel⟩
theorem fn_law_poly (F : FunD K "_law_poly" "_law_poly" (defArgs s_law_poly) (defBody s_law_poly) (defScope s_law_poly) [] kws f fd) (Z : Fx P w K mg base T) (V_law_draw : VFn P w K mg base (cfL T) 2 "_law_draw" [] ctDraw) (V_law_told : VFn P w K mg base (cfL T) 6 "_law_told" [] ctTold) (K_Poly_0 : VMk P w K mg base (cfL T) 7 "Poly" [] ctPInit) : FnOk P w K mg base (L2.CX P w) 9 f fd ["_law_pen_here", "_law_parts"] (spV (cfL T) K mg ctMkP) := by
  refine fn_body F sc_law_poly (by decide) (fun ds pn k e ⟨p, r, ps, h, _⟩ => by subst h; rfl) fun cdv A outer s H E G ds pn Qv Ev hr tk ⟨p, r, ps, h, lp, okp, hpn, q⟩ => ?_
  subst h
  subst hpn
  refine vss_cons ?_
  refine vs_set 2 ?_ ?nd
  case nd => exact sc_law_poly.nd
  refine ve_bin op_addAll ?_
  refine ve_lcL (own := [("_law_part", 3)]) rfl sc_law_poly.nd (blkOk_by rfl) (by simp) (tg_name (i := 3) (by simp)) (fun s H C cl fp => pg_name sc_law_poly.nd rfl (by first | exact Or.inl rfl | exact Or.inr rfl) (by first | exact .inl rfl | exact .inr rfl)) ?_
  refine ve_val 1 rfl ?_
  refine ⟨_, rfl, fun t acc pn2 => pn2 = some (p, .bud (r + (ps.length - t) + 2)) ∧ ToldD ps acc t, ⟨rfl, rfl, (fun i d h => by simp at h)⟩, ?_, ?_⟩
  · rintro t y acc pn2 hy ⟨rfl, hacc⟩
    have ht : t < ps.length := by
      rcases Nat.lt_or_ge t ps.length with z | z
      · exact z
      · rw [List.getElem?_eq_none (by rw [tqs_len]; exact z)] at hy; cases hy
    rw [tqs_get ht] at hy
    cases hy
    obtain ⟨i, en⟩ : ∃ i, r + (ps.length - t) + 2 = i + 1 := ⟨r + (ps.length - t) + 1, by omega⟩
    rw [en]
    refine ⟨_, rfl, ?_⟩
    intro s0 H0 C cl fp Gb Hb
    refine ve_call (V_law_told.mono (by decide)) hr takes_blk ?_
    refine va_cons ?_
    refine ve_val 0 rfl ?_
    refine va_cons ?_
    refine ve_val 3 rfl ?_
    refine va_nil ?_
    refine ⟨p, i, _, rfl, okp t, rfl, fun d hd => ?_⟩
    refine ⟨by rw [show r + (ps.length - (t + 1)) + 2 = i by omega]; rfl, hacc.snoc hd⟩
  rintro acc pn2 ⟨rfl, hacc⟩
  rw [tqs_len] at hacc ⊢
  rw [Nat.sub_self, Nat.add_zero]
  refine ve_bin op_mulAll ?_
  refine ve_lst ?_
  refine va_cons ?_
  refine ve_int ?_
  refine va_nil ⟨by rw [sizeLine_eq]; simp, ?_⟩
  refine ve_call (V_law_draw.mono (by decide)) hr tk ?_
  refine va_cons ?_
  refine ve_val 0 rfl ?_
  refine va_cons ?_
  refine ve_int ?_
  refine va_nil ?_
  refine ⟨p, r + 1, 3, rfl, rfl, by decide, by decide, fun v hv1 hv2 => ?_⟩
  refine rb_mulL ⟨by omega, by omega⟩ (by simp [sizeLine_eq]; omega) ?_
  refine rb_addL (by simp [hacc.1, sizeLine_eq]; omega) ?_
  have hit := its_told (m := v.toNat) hacc
  generalize hL : acc ++ (List.replicate v.toNat [D.int 0]).flatten = L at hit ⊢
  have htr : trim (ps ++ List.replicate v.toNat 0) = trim ps := trim_zeros (cf_zeros _)
  refine vss_one ?_
  refine vs_ret ?_
  refine ve_ifexp ?_
  refine vt_cmp (op_eqAll hr) ?_ (nomark _)
  refine ve_call (V_law_draw.mono (by decide)) hr tk ?_
  refine va_cons ?_
  refine ve_val 0 rfl ?_
  refine va_cons ?_
  refine ve_int ?_
  refine va_nil ?_
  refine ⟨p, r, 3, rfl, rfl, by decide, by decide, fun u hu1 hu2 => ?_⟩
  refine ve_int ?_
  refine rb_eqAI ?_
  refine ⟨_, rfl, fun hk => ?_, fun hk => ?_⟩
  · refine ve_make K_Poly_0 (hr.mono (by decide)) tk ?_
    refine va_cons ?_
    refine ve_tupleOf Z.m_tuple ?_
    refine ve_val 2 rfl ?_
    refine va_nil ?_
    refine mk_polyT hit ?_
    rw [htr]
    exact q
  · refine ve_make K_Poly_0 (hr.mono (by decide)) tk ?_
    refine va_cons ?_
    refine ve_val 2 rfl ?_
    refine va_nil ?_
    refine mk_poly hit ?_
    rw [htr]
    exact q
abbrev s_law_divisor : Stmt := top 67
theorem sc_law_divisor : FnScope ["_law_pen_here", "_law_degree", "_law_k"] ["_law_pen_here", "_law_degree"] (defScope s_law_divisor) := ⟨rfl, rfl, rfl, by decide +kernel, rfl, by decide +kernel, by decide +kernel⟩
theorem fn_law_divisor (F : FunD K "_law_divisor" "_law_divisor" (defArgs s_law_divisor) (defBody s_law_divisor) (defScope s_law_divisor) [] kws f fd) (Z : Fx P w K mg base T) (V_law_few : VFn P w K mg base (cfL T) 4 "_law_few" [] ctFew) (V_law_real : VFn P w K mg base (cfL T) 5 "_law_real" [] ctReal) : FnOk P w K mg base (L2.CX P w) 6 f fd ["_law_pen_here", "_law_degree"] (spV (cfL T) K mg ctDivr) := by
  refine fn_body F sc_law_divisor (by decide) (fun ds pn k e ⟨p, r, n, h, _⟩ => by subst h; rfl) fun cdv A outer s H E G ds pn Qv Ev hr tk ⟨p, r, n, h, hn, hpn, q⟩ => ?_
  subst h
  subst hpn
  refine vss_one ?_
  refine vs_ret ?_
  refine ve_bin op_addAll ?_
  refine ve_lcR (own := [("_law_k", 2)]) rfl sc_law_divisor.nd (blkOk_by rfl) (by simp) Z.m_range (tg_name (i := 2) (by simp)) (fun s H C cl fp => pg_name sc_law_divisor.nd rfl (by first | exact Or.inl rfl | exact Or.inr rfl) (by first | exact .inl rfl | exact .inr rfl)) ?_
  refine ve_val 1 rfl ?_
  refine ⟨_, rfl, by rw [sizeLine_eq]; omega, by omega, fun t acc pn2 => pn2 = some (p, .bud (r + 16 * (n - t) + 17)) ∧ Drawn few acc t, ⟨rfl, drawn_nil⟩, ?_, ?_⟩
  · rintro t acc pn2 ht ⟨rfl, hacc⟩
    obtain ⟨i, en⟩ : ∃ i, r + 16 * (n - t) + 17 = i + 16 := ⟨r + 16 * (n - t) + 1, by omega⟩
    rw [en]
    refine ⟨_, rfl, ?_⟩
    intro s0 H0 C cl fp Gb Hb
    refine ve_call (V_law_few.mono (by decide)) hr takes_blk ?_
    refine va_cons ?_
    refine ve_val 0 rfl ?_
    refine va_nil ?_
    refine ⟨p, i, rfl, rfl, fun x hx => ?_⟩
    refine ⟨by rw [show r + 16 * (n - (t + 1)) + 17 = i by omega]; rfl, hacc.snoc hx⟩
  rintro acc pn2 ⟨rfl, xs, hx1, hx2, rfl⟩
  rw [Int.toNat_natCast] at *
  rw [Nat.sub_self, Nat.mul_zero, Nat.add_zero]
  refine ve_lst ?_
  refine va_cons ?_
  refine ve_call (V_law_real.mono (by decide)) hr tk ?_
  refine va_cons ?_
  refine ve_val 0 rfl ?_
  refine va_nil ?_
  refine ⟨p, r, rfl, rfl, fun x hx hx0 => ?_⟩
  refine va_nil ⟨by rw [sizeLine_eq]; simp, ?_⟩
  refine rb_addL (by simp [hx1, sizeLine_eq]; omega) ?_
  have e1 : xs.map tq ++ [tq x] = (xs ++ [x]).map tq := by rw [List.map_append]; rfl
  rw [e1]
  refine q (xs ++ [x]) (by rw [List.length_append, hx1]; rfl) (.inr ?_) (fews_of fun y hy => ?_)
  · rw [cf_append]; simp; exact hx0
  · rcases List.mem_append.mp hy with hy | hy
    · exact hx2 y hy
    · rw [List.mem_singleton.mp hy]; exact hx
abbrev s_law_pair_is : Stmt := top 68
theorem sc_law_pair_is : FnScope ["_law_told_here", "_law_quotient", "_law_rest"] ["_law_told_here", "_law_quotient", "_law_rest"] (defScope s_law_pair_is) := ⟨rfl, rfl, rfl, by decide +kernel, rfl, by decide +kernel, by decide +kernel⟩
theorem fn_law_pair_is (F : FunD K "_law_pair_is" "_law_pair_is" (defArgs s_law_pair_is) (defBody s_law_pair_is) (defScope s_law_pair_is) [] kws f fd) (Z : Fx P w K mg base T) (V_law_poly_is : VFn P w K mg base (cfL T) 3 "_law_poly_is" [] ctPIs) : FnOk P w K mg base (L2.CX P w) 4 f fd ["_law_told_here", "_law_quotient", "_law_rest"] (spV (cfL T) K mg ctPair) := by
  refine fn_body F sc_law_pair_is (by decide) (fun ds pn k e ⟨q, r, h, _⟩ => by subst h; rfl) fun cdv A outer s H E G ds pn Qv Ev hr tk ⟨q, r, h, lq, lr, hq⟩ => ?_
  subst h
  refine vss_cons ?_
  refine vs_if ?_
  refine vt_w (vw_or ?_)
  refine vt_not ?_
  refine vt_truth ?_
  refine ve_isinst Z.m_isinstance ?_
  refine va_cons ?_
  refine ve_val 0 rfl ?_
  refine va_cons ?_
  refine ve_ty (T := "tuple") ?_ Z.m_tuple (by decide +kernel)
  refine va_nil ?_
  refine ⟨_, _, _, rfl, isA_ty Z (kd_tup _) (by decide), ?_⟩
  refine ⟨nofun, fun _ => ?_⟩
  refine vw_or1 ?_
  refine vt_cmp (op_neAll hr) ?_ (nomark _)
  refine ve_len Z.m_len ?_
  refine ve_val 0 rfl ?_
  refine ve_int ?_
  refine rb_neAI ?_
  refine ⟨_, rfl, nofun, fun _ => ?_⟩
  refine vss_nil ?_
  refine vss_one ?_
  refine vs_ret ?_
  refine ve_and ?_
  refine ve_call (V_law_poly_is.mono (by decide)) hr tk ?_
  refine va_cons ?_
  refine ve_ix ?_
  refine ve_val 0 rfl ?_
  refine ve_int ?_
  refine ⟨_, rfl, ?_⟩
  refine va_cons ?_
  refine ve_val 1 rfl ?_
  refine va_nil ?_
  refine ⟨q, rfl, lq, ?_⟩
  refine ⟨_, rfl, fun _ => ?_, nofun⟩
  refine ve_one ?_
  refine ve_call (V_law_poly_is.mono (by decide)) hr tk ?_
  refine va_cons ?_
  refine ve_ix ?_
  refine ve_val 0 rfl ?_
  refine ve_int ?_
  refine ⟨_, rfl, ?_⟩
  refine va_cons ?_
  refine ve_val 2 rfl ?_
  refine va_nil ?_
  refine ⟨r, rfl, lr, ?_⟩
  cases pn <;> exact hq
end
end My
set_option Elab.async false
set_option linter.all false
set_option maxRecDepth 100000
set_option maxHeartbeats 4000000
namespace My
open PySem PySem.Spec PyProof.Rows L2 VL NdefX
theorem len_map {α : Type} {f : α → D} {xs : List α} {k : Nat → Prop} (h : k xs.length) : lenP (.lst (xs.map f)) k := by
  show k (xs.map f).length
  rw [List.length_map]; exact h
theorem lt44 {x : Nat} (h : x < 2 ^ 1000) : x < 2 ^ 4400 := Nat.lt_of_lt_of_le h (Nat.pow_le_pow_right (by decide) (by decide))
theorem S_len {p : List Rat} {g : Nat → Rat} {n : Nat} {K : Nat} (h : p.length ≤ K) : My.S (cf p) g K n = My.S (cf p) g p.length n := by
  obtain ⟨k, rfl⟩ : ∃ k, K = p.length + k := ⟨K - p.length, by omega⟩
  exact S_stable (fun i hi => cf_ge hi) k
theorem S_add {f f' g : Nat → Rat} {n : Nat} : ∀ m, My.S (fun i => f i + f' i) g m n = My.S f g m n + My.S f' g m n
  | 0 => (Rat.add_zero 0).symm
  | m + 1 => by
    show My.S (fun i => f i + f' i) g m n + (if m ≤ n then (f m + f' m) * g (n - m) else 0) = (My.S f g m n + (if m ≤ n then f m * g (n - m) else 0)) + (My.S f' g m n + (if m ≤ n then f' m * g (n - m) else 0))
    rw [S_add m]
    split <;> grind
theorem S_one {x : Rat} {g : Nat → Rat} {n : Nat} : My.S (cf [x]) g 1 n = x * g n := by
  show 0 + (if 0 ≤ n then x * g (n - 0) else 0) = _
  rw [if_pos (Nat.zero_le _), Nat.sub_zero, Rat.zero_add]
theorem okr_inv {E M : Nat} {x : Rat} (h : Fit E M x) (hE : E < 2 ^ 4400) (hM : M < 2 ^ 4400) : Okr x⁻¹ := by
  have h1 := h.num
  have h2 := h.den
  refine ⟨?_, ?_⟩
  · rw [Rat.num_inv, Int.natAbs_mul, Int.natAbs_natCast]
    have hs : x.num.sign.natAbs ≤ 1 := by
      rcases Int.lt_trichotomy x.num 0 with z | z | z
      · rw [Int.sign_eq_neg_one_of_neg z]; decide
      · rw [z]; decide
      · rw [Int.sign_eq_one_of_pos z]; decide
    have h3 := Nat.mul_le_mul hs (Nat.le_refl x.den)
    rw [Nat.one_mul] at h3
    exact Nat.lt_of_le_of_lt (Nat.le_trans h3 h2) hE
  · rw [Rat.den_inv]
    split
    · exact Nat.one_lt_two_pow (by decide)
    · exact Nat.lt_of_le_of_lt h1 hM
theorem divD_of {p b q r : List Rat} {D N E M R : Nat} (tb : Trimmed b) (nb : b ≠ []) (tq : Trimmed q) (tr : Trimmed r) (lr : r.length < b.length) (tp : Trimmed p) (cfp : ∀ n, cf p n = My.S (cf q) (cf b) q.length n + cf r n)
    (fq : FitP D N q) (fb : FitP E M b) (fr : FitP (D * E) R r) (b1 : D * E < 2 ^ 4400) (b2 : q.length * (N * M) + R < 2 ^ 4400) (b3 : N * M < 2 ^ 4400) (b4 : N < 2 ^ 4400) (b5 : M < 2 ^ 4400) (small : p.length ≤ 1000) : DivD p b q r :=
  have d1 : D < 2 ^ 4400 := Nat.lt_of_le_of_lt (Nat.le_mul_of_pos_right D (fb 0).1) b1
  have d2 : E < 2 ^ 4400 := Nat.lt_of_le_of_lt (Nat.le_mul_of_pos_left E (fq 0).1) b1
  ⟨tb, nb, tq, tr, lr, tp, cfp, fb.ok d2 b5, fq.ok d1 b4, fun i j => ((fq i).mul (fb j)).ok b1 b3, fun m n hm => ((S_fit fq fb m).add (fr n)).ok b1 (Nat.lt_of_le_of_lt (Nat.add_le_add_right (Nat.mul_le_mul hm (Nat.le_refl _)) R) b2), okr_inv (fb _) d2 b5, small⟩
theorem FitP.cast {D D2 N : Nat} {p : List Rat} (h : FitP D N p) (e : D = D2) : FitP D2 N p := by subst e; exact h
theorem fits_nil {D N : Nat} (h : 0 < D) : FitP D N [] := fun n => by rw [cf_nil]; exact Fit.zero h
theorem fits_one {D N : Nat} {x : Rat} (h : Fit D N x) : FitP D N [x] := fun n => by
  cases n with
  | zero => exact h
  | succ n => rw [cf_ge (by simp)]; exact Fit.zero h.1
/-- -7/3 -/
abbrev X73 : Rat := Rat.divInt (-7) 3
theorem x73_fit : Fit 3 7 X73 := fit_div (a := -7) (b := 3) (by decide)
theorem x73_ne : X73 ≠ 0 := by decide +kernel
def ctPenB (n : Nat) : Ct where
  run ds pn k e := ∃ (p : Addr) (r : Nat), ds = [.adr p] ∧ pn = some (p, .bud (r + n)) ∧ k (.bl true) (some (p, .bud r))
  mono := fun ⟨p, r, h1, h2, q⟩ hk he => ⟨p, r, h1, h2, hk _ _ q⟩
theorem cf_two {qs bs rs : List Rat} (n : Nat) : cf (addP (mulP qs bs) rs) n = My.S (cf qs) (cf bs) qs.length n + cf rs n := by rw [cf_addP, cf_mulP]
/-- the dividend and the divisor's multiple more -/
theorem cf_more {W qs bs rs : List Rat} {x : Rat} (h : ∀ n, cf W n = My.S (cf qs) (cf bs) qs.length n + cf rs n) (n : Nat) :
    cf (addP W (sclP bs x)) n = My.S (cf (addP qs [x])) (cf bs) (addP qs [x]).length n + cf rs n := by
  rw [cf_addP, cf_sclP, h]
  have e1 : My.S (cf (addP qs [x])) (cf bs) (addP qs [x]).length n = My.S (cf (addP qs [x])) (cf bs) (qs.length + 1) n :=
    (S_len (Nat.le_trans (addP_len _ _) (by simp; omega))).symm
  have e2 : My.S (cf (addP qs [x])) (cf bs) (qs.length + 1) n = My.S (fun i => cf qs i + cf [x] i) (cf bs) (qs.length + 1) n := S_congr (fun i => cf_addP qs [x] i) (fun _ => rfl) _ _
  have e3 : My.S (cf [x]) (cf bs) (qs.length + 1) n = x * cf bs n := (S_len (by simp)).trans S_one
  rw [e1, e2, S_add, S_len (p := qs) (K := qs.length + 1) (by omega), e3, Rat.mul_comm (cf bs n) x, Rat.add_assoc, Rat.add_comm (cf rs n), ← Rat.add_assoc]
theorem fit1 {qs bs rs : List Rat} (hq : fews qs) (hb : fews bs) (hr : fews rs) (hl : qs.length ≤ 10) : FitP (2520 * 2520) (10 * (FN * FN) + FN * 2520) (addP (mulP qs bs) rs) :=
  ((hq.fit_mul hb).mono (Nat.mul_le_mul hl (Nat.le_refl _))).fit_add (hr.up (by decide))
/-- the first and the second division -/
theorem div1 {qs bs rs : List Rat} (hq : fews qs) (hb : fews bs) (hr : fews rs) (ql : qs.length ≤ 10) (tq : Trimmed qs) (tb : Trimmed bs) (nb : bs ≠ []) (bl : bs.length ≤ 10) (tr : Trimmed rs) (rl : rs.length < bs.length) : DivD (addP (mulP qs bs) rs) bs qs rs :=
  divD_of tb nb tq tr rl (trimmed_addP _ _) cf_two hq hb (hr.up (by decide)) (lt44 (by decide)) (Nat.lt_of_le_of_lt (Nat.add_le_add_right (Nat.mul_le_mul ql (Nat.le_refl _)) _) (lt44 (by decide))) (lt44 (by decide)) (lt44 (by decide)) (lt44 (by decide))
    (Nat.le_trans (addP_len _ _) (by have := mulP_len qs bs; omega))
theorem fit2 {qs : List Rat} (hq : fews qs) : FitP (2520 * 3) (FN * 3 + 7 * 2520) (addP qs [X73]) :=
  (hq.up (by decide)).fit_add (fits_one ((x73_fit.up (E := 2520) (by decide))))
theorem l2_le {qs : List Rat} (ql : qs.length ≤ 10) : (addP qs [X73]).length ≤ 11 := Nat.le_trans (addP_len _ _) (by simp; omega)
theorem div2 {qs bs rs : List Rat} (hq : fews qs) (hb : fews bs) (hr : fews rs) (ql : qs.length ≤ 10) (tb : Trimmed bs) (nb : bs ≠ []) (bl : bs.length ≤ 10) (tr : Trimmed rs) (rl : rs.length < bs.length) : DivD (addP (addP (mulP qs bs) rs) (sclP bs X73)) bs (addP qs [X73]) rs := by
  have f2 : FitP 7560 (2 ^ 64) (addP qs [X73]) := ((fit2 hq).cast (by decide)).mono (by decide)
  have f3 : FitP (7560 * 2520) (2 ^ 100) rs := ((hr.up (E := 7560) (by decide)).cast (by decide)).mono (by decide)
  have f4 : FitP 2520 (2 ^ 64) bs := hb.mono (by decide)
  have b2 : (addP qs [X73]).length * (2 ^ 64 * 2 ^ 64) + 2 ^ 100 < 2 ^ 4400 := Nat.lt_of_le_of_lt (Nat.add_le_add_right (Nat.mul_le_mul_right _ (l2_le ql)) _) (lt44 (by decide))
  have b1 : 7560 * 2520 < 2 ^ 4400 := lt44 (by decide)
  have b3 : 2 ^ 64 * 2 ^ 64 < 2 ^ 4400 := lt44 (by decide)
  have b4 : 2 ^ 64 < 2 ^ 4400 := lt44 (by decide)
  have sm : (addP (addP (mulP qs bs) rs) (sclP bs X73)).length ≤ 1000 := Nat.le_trans (addP_len _ _) (by have := addP_len (mulP qs bs) rs; have := mulP_len qs bs; have := sclP_len bs X73; omega)
  exact divD_of tb nb (trimmed_addP _ _) tr rl (trimmed_addP _ _) (cf_more cf_two) f2 f4 f3 b1 b2 b3 b4 b4 sm
section
variable {P : Program} {w : World} {K : PySem.W.Frag} {mg : Str → Option Value} {base : Heap} {kws : List (Str × V)} {f : Addr} {fd : FuncData} {T : Addr}
abbrev s_law_one_right : Stmt := top 69
theorem sc_law_one_right : FnScope ["_law_pen_here", "_law_below", "_law_quotient", "_law_rest", "_law_k", "_law_whole", "_law_first", "_law_second", "_law_more"] ["_law_pen_here"] (defScope s_law_one_right) := ⟨rfl, rfl, rfl, by decide +kernel, rfl, by decide +kernel, by decide +kernel⟩
theorem fn_law_one_right (F : FunD K "_law_one_right" "_law_one_right" (defArgs s_law_one_right) (defBody s_law_one_right) (defScope s_law_one_right) [] kws f fd) (Z : Fx P w K mg base T) (V_law_draw : VFn P w K mg base (cfL T) 2 "_law_draw" [] ctDraw) (V_law_divisor : VFn P w K mg base (cfL T) 6 "_law_divisor" [] ctDivr) (V_law_some : VFn P w K mg base (cfL T) 5 "_law_some" [] ctSome) (V_law_few : VFn P w K mg base (cfL T) 4 "_law_few" [] ctFew) (V_law_trim : VFn P w K mg base (cfL T) 1 "_law_trim" [] ctTrim) (V_law_mul : VFn P w K mg base (cfL T) 4 "_law_mul" [] ctLMul) (V_law_add : VFn P w K mg base (cfL T) 4 "_law_add" [] ctLAdd) (V_law_poly : VFn P w K mg base (cfL T) 9 "_law_poly" [] ctMkP) (M_Poly_divided : VMeth P w K mg base (cfL T) 10 "Poly" "divided" [] ctPDivd) (V_law_pair_is : VFn P w K mg base (cfL T) 4 "_law_pair_is" [] ctPair) (V_law_scaled : VFn P w K mg base (cfL T) 4 "_law_scaled" [] ctScl) (V_law_poly_is : VFn P w K mg base (cfL T) 3 "_law_poly_is" [] ctPIs) : FnOk P w K mg base (L2.CX P w) 11 f fd ["_law_pen_here"] (spV (cfL T) K mg (ctPenB 1000)) := by
  refine fn_body F sc_law_one_right (by decide) (fun ds pn k e ⟨p, r, h, _⟩ => by subst h; rfl) fun cdv A outer s H E G ds pn Qv Ev hr tk ⟨p, r, h, hpn, q⟩ => ?_
  subst h
  subst hpn
  refine vss_cons ?_
  refine vs_set 1 ?_ ?nd
  case nd => exact sc_law_one_right.nd
  refine ve_call (V_law_divisor.mono (by decide)) hr tk ?_
  refine va_cons ?_
  refine ve_val 0 rfl ?_
  refine va_cons ?_
  refine ve_call (V_law_draw.mono (by decide)) hr tk ?_
  refine va_cons ?_
  refine ve_val 0 rfl ?_
  refine va_cons ?_
  refine ve_int ?_
  refine va_nil ?_
  refine ⟨p, r + 999, 10, rfl, rfl, by decide, by decide, fun n hn1 hn2 => ?_⟩
  obtain ⟨j, rfl⟩ : ∃ j : Nat, n = (j : Int) := ⟨n.toNat, by omega⟩
  refine VA.le (r' := r + 800 + 16 * j + 17) rfl (by omega) ?_
  refine va_nil ?_
  refine ⟨p, r + 800, j, rfl, by omega, rfl, fun bs hbl tb fb => ?_⟩
  have nb : bs ≠ [] := fun z => by rw [z] at hbl; cases hbl
  have bl : bs.length ≤ 10 := by omega
  refine vss_le (r' := r + 600 + 16 * 10 + 1) rfl (by omega) ?_
  refine vss_cons ?_
  refine vs_set 2 ?_ ?nd
  case nd => exact sc_law_one_right.nd
  refine ve_call (V_law_some.mono (by decide)) hr tk ?_
  refine va_cons ?_
  refine ve_val 0 rfl ?_
  refine va_cons ?_
  refine ve_int ?_
  refine va_nil ?_
  refine ⟨p, r + 600, 10, rfl, by decide, rfl, fun qs tq ql fq => ?_⟩
  refine vss_le (r' := r + 400 + 16 * 10 + 1) rfl (by omega) ?_
  refine vss_cons ?_
  refine vs_set 3 ?_ ?nd
  case nd => exact sc_law_one_right.nd
  refine ve_call (V_law_trim.mono (by decide)) hr tk ?_
  refine va_cons ?_
  refine ve_lcR (own := [("_law_k", 4)]) rfl sc_law_one_right.nd (blkOk_by rfl) (by simp) Z.m_range (tg_name (i := 4) (by simp)) (fun s H C cl fp => pg_name sc_law_one_right.nd rfl (by first | exact Or.inl rfl | exact Or.inr rfl) (by first | exact .inl rfl | exact .inr rfl)) ?_
  refine ve_call (V_law_draw.mono (by decide)) hr tk ?_
  refine va_cons ?_
  refine ve_val 0 rfl ?_
  refine va_cons ?_
  refine ve_len Z.m_len ?_
  refine ve_val 1 rfl ?_
  refine len_tqs ?_
  refine va_nil ?_
  refine ⟨p, r + 400 + 16 * 10, _, rfl, rfl, by omega, by omega, fun n hn1 hn2 => ?_⟩
  obtain ⟨i, rfl⟩ : ∃ i : Nat, n = (i : Int) := ⟨n.toNat, by omega⟩
  refine ⟨_, rfl, by rw [sizeLine_eq]; omega, by omega, fun t acc pn2 => pn2 = some (p, .bud (r + 400 + 16 * (10 - t))) ∧ Drawn few acc t, ⟨rfl, drawn_nil⟩, ?_, ?_⟩
  · rintro t acc pn2 ht ⟨rfl, hacc⟩
    obtain ⟨l, en⟩ : ∃ l, r + 400 + 16 * (10 - t) = l + 16 := ⟨r + 400 + 16 * (10 - t) - 16, by omega⟩
    rw [en]
    refine ⟨_, rfl, ?_⟩
    intro s0 H0 C cl fp Gb Hb
    refine ve_call (V_law_few.mono (by decide)) hr takes_blk ?_
    refine va_cons ?_
    refine ve_val 0 rfl ?_
    refine va_nil ?_
    refine ⟨p, l, rfl, rfl, fun x hx => ?_⟩
    refine ⟨by rw [show r + 400 + 16 * (10 - (t + 1)) = l by omega]; rfl, hacc.snoc hx⟩
  rintro acc pn2 ⟨rfl, xs, hx1, hx2, rfl⟩
  rw [Int.toNat_natCast] at *
  refine VA.le (r' := r + 400) rfl (by omega) ?_
  refine va_nil ?_
  refine ⟨xs, rfl, ?_⟩
  have tr := trimmed_trim xs
  have rl := trim_le xs
  have frs := fews_trim (fews_of hx2)
  generalize trim xs = rs at tr rl frs ⊢
  have rl2 : rs.length < bs.length := by omega
  have hD1 := div1 fq fb frs ql tq tb nb bl tr rl2
  have hD2 := div2 fq fb frs ql tb nb bl tr rl2
  refine vss_cons ?_
  refine vs_set 5 ?_ ?nd
  case nd => exact sc_law_one_right.nd
  refine ve_call (V_law_add.mono (by decide)) hr tk ?_
  refine va_cons ?_
  refine ve_call (V_law_mul.mono (by decide)) hr tk ?_
  refine va_cons ?_
  refine ve_val 2 rfl ?_
  refine va_cons ?_
  refine ve_val 1 rfl ?_
  refine va_nil ?_
  refine mul_run fq fb (by omega) (by omega) (lt44 (by decide)) (Nat.lt_of_le_of_lt (Nat.mul_le_mul ql (Nat.le_refl _)) (lt44 (by decide))) (lt44 (by decide)) (lt44 (by decide)) (lt44 (by decide)) ?_
  refine va_cons ?_
  refine ve_val 3 rfl ?_
  refine va_nil ?_
  refine ⟨mulP qs bs, rs, rfl, by have := mulP_len qs bs; omega, by omega, (fq.fit_mul fb).ok (lt44 (by decide)) (Nat.lt_of_le_of_lt (Nat.mul_le_mul ql (Nat.le_refl _)) (lt44 (by decide))), fews_ok frs, ?_⟩
  have fW := fit1 fq fb frs ql
  have tW : Trimmed (addP (mulP qs bs) rs) := trimmed_addP _ _
  have lW : (addP (mulP qs bs) rs).length ≤ 20 := Nat.le_trans (addP_len _ _) (by have := mulP_len qs bs; omega)
  generalize addP (mulP qs bs) rs = W at *
  refine vss_le (r' := r + 200 + bs.length + 2 + W.length + 2) rfl (by omega) ?_
  refine vss_cons ?_
  refine vs_par 6 7 ?_ rfl sc_law_one_right.nd
  refine va_cons ?_
  refine ve_call (V_law_poly.mono (by decide)) hr tk ?_
  refine va_cons ?_
  refine ve_val 0 rfl ?_
  refine va_cons ?_
  refine ve_val 5 rfl ?_
  refine va_nil ?_
  refine ⟨p, r + 200 + bs.length + 2, W, rfl, by omega, fW.ok (lt44 (by decide)) (lt44 (by decide)), rfl, ?_⟩
  rw [trim_self tW]
  refine va_cons ?_
  refine ve_call (V_law_poly.mono (by decide)) hr tk ?_
  refine va_cons ?_
  refine ve_val 0 rfl ?_
  refine va_cons ?_
  refine ve_val 1 rfl ?_
  refine va_nil ?_
  refine ⟨p, r + 200, bs, rfl, by omega, fews_ok fb, rfl, ?_⟩
  rw [trim_self tb]
  refine va_nil ⟨_, _, rfl, ?_⟩
  refine vss_cons ?_
  refine vs_if ?_
  refine vt_not ?_
  refine vt_truth ?_
  refine ve_call (V_law_pair_is.mono (by decide)) hr tk ?_
  refine va_cons ?_
  refine ve_meth (ks := ksPoly) (M_Poly_divided.mono (by decide)) hr tk ?_
  refine ve_val 6 rfl ?_
  refine ⟨_, rfl, by decide, ?_⟩
  refine va_cons ?_
  refine ve_val 7 rfl ?_
  refine va_nil ?_
  refine ⟨W, poly bs, rfl, kd_ins (by decide), .inl ⟨bs, qs, rs, rfl, hD1, ?_⟩⟩
  refine va_cons ?_
  refine ve_val 2 rfl ?_
  refine va_cons ?_
  refine ve_val 3 rfl ?_
  refine va_nil ?_
  refine ⟨qs, rs, rfl, by omega, by omega, ?_⟩
  refine ⟨nofun, fun _ => ?_⟩
  refine vss_nil ?_
  refine vss_cons ?_
  refine vs_set 8 ?_ ?nd
  case nd => exact sc_law_one_right.nd
  refine ve_call (V_law_add.mono (by decide)) hr tk ?_
  refine va_cons ?_
  refine ve_val 5 rfl ?_
  refine va_cons ?_
  refine ve_call (V_law_scaled.mono (by decide)) hr tk ?_
  refine va_cons ?_
  refine ve_val 1 rfl ?_
  refine va_cons ?_
  refine ve_tup ?_
  refine va_cons ?_
  refine ve_neg ?_
  refine ve_int ?_
  refine ⟨_, rfl, ?_⟩
  refine va_cons ?_
  refine ve_int ?_
  refine va_nil ⟨by rw [sizeLine_eq]; simp, ?_⟩
  refine va_nil ?_
  refine ⟨bs, X73, rfl, fews_ok fb, x73_fit.ok (lt44 (by decide)) (lt44 (by decide)), ?_⟩
  refine va_nil ?_
  refine ⟨W, sclP bs X73, rfl, by omega, Nat.le_trans (sclP_len _ _) (by omega), fW.ok (lt44 (by decide)) (lt44 (by decide)), (fb.fit_scl x73_fit).ok (lt44 (by decide)) (lt44 (by decide)), ?_⟩
  have fM : FitP (2520 * 2520 * 3) ((10 * (FN * FN) + FN * 2520) * 3 + FN * 7 * 2520) (addP W (sclP bs X73)) := (fW.up (E := 3) (by decide)).fit_add (((fb.fit_scl x73_fit).up (E := 2520) (by decide)).cast (by decide))
  have tM : Trimmed (addP W (sclP bs X73)) := trimmed_addP _ _
  have lM : (addP W (sclP bs X73)).length ≤ 20 := Nat.le_trans (addP_len _ _) (by have := sclP_len bs X73; omega)
  have l2 : (addP qs [X73]).length ≤ 11 := Nat.le_trans (addP_len _ _) (by simp; omega)
  generalize addP W (sclP bs X73) = M at *
  refine vss_le (r' := r + M.length + 2) rfl (by omega) ?_
  refine vss_cons ?_
  refine vs_if ?_
  refine vt_not ?_
  refine vt_truth ?_
  refine ve_call (V_law_pair_is.mono (by decide)) hr tk ?_
  refine va_cons ?_
  refine ve_meth (ks := ksPoly) (M_Poly_divided.mono (by decide)) hr tk ?_
  refine ve_call (V_law_poly.mono (by decide)) hr tk ?_
  refine va_cons ?_
  refine ve_val 0 rfl ?_
  refine va_cons ?_
  refine ve_val 8 rfl ?_
  refine va_nil ?_
  refine ⟨p, r, M, rfl, by omega, fM.ok (lt44 (by decide)) (lt44 (by decide)), rfl, ?_⟩
  rw [trim_self tM]
  refine ⟨_, rfl, by decide, ?_⟩
  refine va_cons ?_
  refine ve_val 7 rfl ?_
  refine va_nil ?_
  refine ⟨M, poly bs, rfl, kd_ins (by decide), .inl ⟨bs, _, rs, rfl, hD2, ?_⟩⟩
  refine va_cons ?_
  refine ve_call (V_law_add.mono (by decide)) hr tk ?_
  refine va_cons ?_
  refine ve_val 2 rfl ?_
  refine va_cons ?_
  refine ve_lst ?_
  refine va_cons ?_
  refine ve_tup ?_
  refine va_cons ?_
  refine ve_neg ?_
  refine ve_int ?_
  refine ⟨_, rfl, ?_⟩
  refine va_cons ?_
  refine ve_int ?_
  refine va_nil ⟨by rw [sizeLine_eq]; simp, ?_⟩
  refine va_nil ⟨by rw [sizeLine_eq]; simp, ?_⟩
  refine va_nil ?_
  refine ⟨qs, [X73], rfl, by omega, by simp, fews_ok fq, (fits_one x73_fit).ok (lt44 (by decide)) (lt44 (by decide)), ?_⟩
  refine va_cons ?_
  refine ve_val 3 rfl ?_
  refine va_nil ?_
  refine ⟨_, rs, rfl, by omega, by omega, ?_⟩
  refine ⟨nofun, fun _ => ?_⟩
  refine vss_nil ?_
  refine vss_one ?_
  refine vs_ret ?_
  refine ve_and ?_
  refine ve_call (V_law_poly_is.mono (by decide)) hr tk ?_
  refine va_cons ?_
  refine ve_val 6 rfl ?_
  refine va_cons ?_
  refine ve_val 5 rfl ?_
  refine va_nil ?_
  refine ⟨W, rfl, by omega, ?_⟩
  refine ⟨_, rfl, fun _ => ?_, nofun⟩
  refine ve_one ?_
  refine ve_call (V_law_poly_is.mono (by decide)) hr tk ?_
  refine va_cons ?_
  refine ve_val 7 rfl ?_
  refine va_cons ?_
  refine ve_val 1 rfl ?_
  refine va_nil ?_
  refine ⟨bs, rfl, by omega, ?_⟩
  exact q
end
end My
set_option Elab.async false
set_option linter.all false
set_option maxRecDepth 100000
set_option maxHeartbeats 4000000
namespace My
open PySem PySem.Spec PyProof.Rows L2 VL NdefX
/-- what is left of the digits es behind the divisor b -/
def lf (b : List Rat) (es : List (List Rat)) : Nat → List Rat
  | 0 => []
  | t + 1 => addP (mulP (lf b es t) b) (es.getD t [])
abbrev KK : Nat := 33 * FN
structure DigOk (b : List Rat) (es : List (List Rat)) : Prop where
  fb : fews b
  tb : Trimmed b
  nb : b ≠ []
  lb : b.length ≤ 5
  le : es.length ≤ 6
  fe : ∀ t, fews (es.getD t [])
  te : ∀ t, Trimmed (es.getD t [])
  ll : ∀ t, (es.getD t []).length < b.length
theorem lf_len {b : List Rat} {es : List (List Rat)} (h : DigOk b es) : ∀ t, (lf b es t).length ≤ 5 * t
  | 0 => Nat.zero_le _
  | t + 1 => by
    refine Nat.le_trans (addP_len _ _) ?_
    have h1 := mulP_len (lf b es t) b
    have h2 := lf_len h t
    have h3 := h.ll t
    have h4 := h.lb
    omega
theorem lf_trim (b : List Rat) (es : List (List Rat)) : ∀ t, Trimmed (lf b es t)
  | 0 => trimmed_nil
  | _ + 1 => trimmed_addP _ _
theorem pow_le (t : Nat) : 2520 ^ t ≤ KK ^ t := Nat.pow_le_pow_left (by decide) t
theorem dig_fit {b : List Rat} {es : List (List Rat)} (h : DigOk b es) (t : Nat) : FitP (2520 ^ t * 2520) (FN * KK ^ t) (es.getD t []) := fun n => by
  have e := ((h.fe t n).up (E := 2520 ^ t) (Nat.pow_pos (by decide))).mono (Nat.mul_le_mul (Nat.le_refl FN) (pow_le t))
  rw [Nat.mul_comm 2520] at e
  exact e
theorem lf_mul {b : List Rat} {es : List (List Rat)} (h : DigOk b es) {t : Nat} (ht : t ≤ 6) (ih : FitP (2520 ^ t) (KK ^ t) (lf b es t)) : FitP (2520 ^ t * 2520) (32 * (KK ^ t * FN)) (mulP (lf b es t) b) :=
  (ih.fit_mul h.fb).mono (Nat.mul_le_mul (Nat.le_trans (lf_len h t) (by omega)) (Nat.le_refl _))
theorem lf_fit {b : List Rat} {es : List (List Rat)} (h : DigOk b es) : ∀ t, t ≤ 6 → FitP (2520 ^ t) (KK ^ t) (lf b es t)
  | 0, _ => fits_nil (by decide)
  | t + 1, ht => by
    have e := (lf_mul h (by omega) (lf_fit h t (by omega))).fit_add (dig_fit h t)
    rw [Nat.pow_succ, Nat.pow_succ]
    refine e.mono ?_
    show 32 * (KK ^ t * FN) + FN * KK ^ t ≤ KK ^ t * (33 * FN)
    generalize KK ^ t = z
    generalize FN = y
    rw [Nat.mul_comm y z, Nat.mul_left_comm z 33 y]
    omega
theorem kk_pow {t : Nat} (ht : t ≤ 6) : KK ^ t ≤ 2 ^ 384 ∧ 2520 ^ t ≤ 2 ^ 384 := by
  have h1 : KK ^ t ≤ KK ^ 6 := Nat.pow_le_pow_right (by decide) ht
  have h2 : 2520 ^ t ≤ KK ^ 6 := Nat.le_trans (pow_le t) h1
  have h3 : KK ^ 6 ≤ 2 ^ 384 := by decide
  exact ⟨Nat.le_trans h1 h3, Nat.le_trans h2 h3⟩
theorem b44a {t : Nat} (ht : t ≤ 6) : 2520 ^ t * 2520 < 2 ^ 4400 := lt44 (Nat.lt_of_le_of_lt (Nat.mul_le_mul (kk_pow ht).2 (Nat.le_refl _)) (by decide))
theorem b44b {t k : Nat} (ht : t ≤ 6) (hk : k ≤ 1000) : k * (KK ^ t * FN) + FN * KK ^ t < 2 ^ 4400 := lt44 (Nat.lt_of_le_of_lt (Nat.add_le_add (Nat.mul_le_mul hk (Nat.mul_le_mul (kk_pow ht).1 (Nat.le_refl _))) (Nat.mul_le_mul (Nat.le_refl FN) (kk_pow ht).1)) (by decide))
theorem b44c {t k : Nat} (ht : t ≤ 6) (hk : k ≤ 1000) : k * (KK ^ t * FN) < 2 ^ 4400 := Nat.lt_of_le_of_lt (Nat.le_add_right _ _) (b44b ht hk)
theorem b44d {t : Nat} (ht : t ≤ 6) : KK ^ t * FN < 2 ^ 4400 := by have := b44c (k := 1) ht (by decide); rwa [Nat.one_mul] at this
theorem b44e {t : Nat} (ht : t ≤ 6) : KK ^ t < 2 ^ 4400 := lt44 (Nat.lt_of_le_of_lt (kk_pow ht).1 (by decide))
theorem lf_ok {b : List Rat} {es : List (List Rat)} (h : DigOk b es) {t : Nat} (ht : t ≤ 6) : Okp (lf b es t) := (lf_fit h t ht).ok (lt44 (Nat.lt_of_le_of_lt (kk_pow ht).2 (by decide))) (b44e ht)
theorem lf_div {b : List Rat} {es : List (List Rat)} (h : DigOk b es) {t : Nat} (ht : t ≤ 6) : DivD (lf b es (t + 1)) b (lf b es t) (es.getD t []) :=
  divD_of h.tb h.nb (lf_trim b es t) (h.te t) (h.ll t) (trimmed_addP _ _) cf_two (lf_fit h t ht) h.fb (dig_fit h t) (b44a ht) (b44b ht (Nat.le_trans (lf_len h t) (by omega))) (b44d ht) (b44e ht) (lt44 (by decide)) (Nat.le_trans (lf_len h _) (by omega))
theorem nil_div {b : List Rat} {es : List (List Rat)} (h : DigOk b es) : DivD [] b [] [] :=
  divD_of h.tb h.nb trimmed_nil trimmed_nil (List.length_pos_iff.mpr h.nb) trimmed_nil (fun n => (Rat.add_zero 0).symm) (fits_nil (D := 1) (N := 1) (by decide)) h.fb (fits_nil (D := 1 * 2520) (N := 1) (by decide)) (lt44 (by decide)) (lt44 (by decide)) (lt44 (by decide)) (lt44 (by decide)) (lt44 (by decide)) (Nat.zero_le _)
theorem rev_at {ds : List (List Rat)} {k : Nat} (h : k < ds.length) : ds.reverse.getD (ds.length - 1 - k) [] = ds.getD k [] := by
  rw [List.getD_eq_getElem?_getD, List.getD_eq_getElem?_getD, List.getElem?_reverse (by omega)]
  congr 2
  omega
theorem getD_mem {ds : List (List Rat)} {Pr : List Rat → Prop} (h0 : Pr []) (h : ∀ d ∈ ds, Pr d) (t : Nat) : Pr (ds.getD t []) := by
  rw [List.getD_eq_getElem?_getD]
  cases e : ds[t]? with
  | none => exact h0
  | some d => exact h d (List.mem_of_getElem? e)
/-- drawn polynomials, one by one -/
def DrawnP (Pr : List Rat → Prop) (acc : List D) (t : Nat) : Prop := ∃ xs : List (List Rat), xs.length = t ∧ (∀ x ∈ xs, Pr x) ∧ acc = xs.map tqs
theorem drawnP_nil {Pr : List Rat → Prop} : DrawnP Pr [] 0 := ⟨[], rfl, (fun _ h => nomatch h), rfl⟩
theorem DrawnP.snoc {Pr : List Rat → Prop} {acc : List D} {t : Nat} {x : List Rat} (h : DrawnP Pr acc t) (hx : Pr x) : DrawnP Pr (acc ++ [tqs x]) (t + 1) := by
  obtain ⟨xs, h1, h2, rfl⟩ := h
  refine ⟨xs ++ [x], by rw [List.length_append, h1]; rfl, fun y hy => ?_, by rw [List.map_append]; rfl⟩
  rcases List.mem_append.mp hy with hy | hy
  · exact h2 y hy
  · rw [List.mem_singleton.mp hy]; exact hx
def lfs (b : List Rat) (es : List (List Rat)) (t : Nat) : List D := (List.range (t + 1)).map fun i => tqs (lf b es i)
theorem lfs_last {b : List Rat} {es : List (List Rat)} {t : Nat} : atI (lfs b es t) (-1) = some (tqs (lf b es t)) := at_last (by
  unfold lfs
  rw [List.length_map, List.length_range, Nat.add_sub_cancel, List.getElem?_map, List.getElem?_range (by omega)]; rfl)
theorem lfs_get {b : List Rat} {es : List (List Rat)} {t i : Nat} (h : i ≤ t) : (lfs b es t)[i]? = some (tqs (lf b es i)) := by
  unfold lfs
  rw [List.getElem?_map, List.getElem?_range (by omega)]; rfl
theorem lfs_snoc {b : List Rat} {es : List (List Rat)} {t : Nat} : lfs b es t ++ [tqs (lf b es (t + 1))] = lfs b es (t + 1) := by
  unfold lfs
  rw [List.range_succ (n := t + 1), List.map_append]; rfl
section
variable {P : Program} {w : World} {K : PySem.W.Frag} {mg : Str → Option Value} {base : Heap} {kws : List (Str × V)} {f : Addr} {fd : FuncData} {T : Addr}
abbrev s_law_digits_right : Stmt := top 70
theorem sc_law_digits_right : FnScope ["_law_pen_here", "_law_degree", "_law_below", "_law_digits", "_law_k", "_law_lefts", "_law_digit", "_law_second", "_law_left", "_law_pair"] ["_law_pen_here"] (defScope s_law_digits_right) := ⟨rfl, rfl, rfl, by decide +kernel, rfl, by decide +kernel, by decide +kernel⟩
theorem fn_law_digits_right (F : FunD K "_law_digits_right" "_law_digits_right" (defArgs s_law_digits_right) (defBody s_law_digits_right) (defScope s_law_digits_right) [] kws f fd) (Z : Fx P w K mg base T) (V_law_draw : VFn P w K mg base (cfL T) 2 "_law_draw" [] ctDraw) (V_law_divisor : VFn P w K mg base (cfL T) 6 "_law_divisor" [] ctDivr) (V_law_some : VFn P w K mg base (cfL T) 5 "_law_some" [] ctSome) (V_law_mul : VFn P w K mg base (cfL T) 4 "_law_mul" [] ctLMul) (V_law_add : VFn P w K mg base (cfL T) 4 "_law_add" [] ctLAdd) (V_law_poly : VFn P w K mg base (cfL T) 9 "_law_poly" [] ctMkP) (M_Poly_divided : VMeth P w K mg base (cfL T) 10 "Poly" "divided" [] ctPDivd) (V_law_pair_is : VFn P w K mg base (cfL T) 4 "_law_pair_is" [] ctPair) : FnOk P w K mg base (L2.CX P w) 11 f fd ["_law_pen_here"] (spV (cfL T) K mg (ctPenB 1000)) := by
  refine fn_body F sc_law_digits_right (by decide) (fun ds pn k e ⟨p, r, h, _⟩ => by subst h; rfl) fun cdv A outer s H E G ds pn Qv Ev hr tk ⟨p, r, h, hpn, q⟩ => ?_
  subst h
  subst hpn
  refine vss_cons ?_
  refine vs_set 1 ?_ ?nd
  case nd => exact sc_law_digits_right.nd
  refine ve_bin op_addAll ?_
  refine ve_int ?_
  refine ve_call (V_law_draw.mono (by decide)) hr tk ?_
  refine va_cons ?_
  refine ve_val 0 rfl ?_
  refine va_cons ?_
  refine ve_int ?_
  refine va_nil ?_
  refine ⟨p, r + 999, 4, rfl, rfl, by decide, by decide, fun n hn1 hn2 => ?_⟩
  refine rb_addI ?_
  obtain ⟨j, hj⟩ : ∃ j : Nat, 1 + n = (j : Int) := ⟨(1 + n).toNat, by omega⟩
  rw [hj]
  refine vss_le (r' := r + 800 + 16 * j + 17) rfl (by omega) ?_
  refine vss_cons ?_
  refine vs_set 2 ?_ ?nd
  case nd => exact sc_law_digits_right.nd
  refine ve_call (V_law_divisor.mono (by decide)) hr tk ?_
  refine va_cons ?_
  refine ve_val 0 rfl ?_
  refine va_cons ?_
  refine ve_val 1 rfl ?_
  refine va_nil ?_
  refine ⟨p, r + 800, j, rfl, by omega, rfl, fun b hbl tb fb => ?_⟩
  have nb : b ≠ [] := fun z => by rw [z] at hbl; cases hbl
  refine vss_cons ?_
  refine vs_setLcR 3 (own := [("_law_k", 4)]) rfl sc_law_digits_right.nd (blkOk_by rfl) (by simp) Z.m_range (tg_name (i := 4) (by simp)) (fun s H C cl fp => pg_name sc_law_digits_right.nd rfl (by first | exact Or.inl rfl | exact Or.inr rfl) (by first | exact .inl rfl | exact .inr rfl)) ?_
  refine ve_bin op_addAll ?_
  refine ve_int ?_
  refine ve_call (V_law_draw.mono (by decide)) hr tk ?_
  refine va_cons ?_
  refine ve_val 0 rfl ?_
  refine va_cons ?_
  refine ve_int ?_
  refine va_nil ?_
  refine ⟨p, r + 799, 6, rfl, rfl, by decide, by decide, fun m hm1 hm2 => ?_⟩
  obtain ⟨i, hi⟩ : ∃ i : Nat, 1 + m = (i : Int) := ⟨(1 + m).toNat, by omega⟩
  refine rb_addI ?_
  rw [hi]
  refine ⟨_, rfl, by rw [sizeLine_eq]; omega, by omega, fun t acc pn2 => (∃ l, pn2 = some (p, .bud l) ∧ r + 100 + 100 * (6 - t) ≤ l) ∧ DrawnP (fun d => Trimmed d ∧ d.length < b.length ∧ fews d) acc t, ⟨⟨_, rfl, by omega⟩, drawnP_nil⟩, ?_, ?_⟩
  · rintro t acc pn2 ht ⟨⟨l, rfl, hl⟩, hacc⟩
    obtain ⟨l2, rfl⟩ : ∃ l2, l = l2 + 16 * j + 1 := ⟨l - (16 * j + 1), by omega⟩
    refine ⟨_, rfl, ?_⟩
    intro s0 H0 C cl fp Gb Hb
    refine ve_call (V_law_some.mono (by decide)) hr takes_blk ?_
    refine va_cons ?_
    refine ve_val 0 rfl ?_
    refine va_cons ?_
    refine ve_val 1 rfl ?_
    refine va_nil ?_
    refine ⟨p, l2, j, rfl, by omega, rfl, fun d td ld fd => ?_⟩
    refine ⟨⟨l2, rfl, by omega⟩, hacc.snoc ⟨td, by omega, fd⟩⟩
  rintro acc pn2 ⟨⟨l, rfl, hl⟩, ds, hds, hd, rfl⟩
  rw [Int.toNat_natCast] at *
  have hE : DigOk b ds.reverse := ⟨fb, tb, nb, by omega, by rw [List.length_reverse]; omega, getD_mem (fits_nil (by decide)) fun d h => (hd d (List.mem_reverse.mp h)).2.2, getD_mem trimmed_nil fun d h => (hd d (List.mem_reverse.mp h)).1, getD_mem (Pr := fun d => d.length < b.length) (List.length_pos_iff.mpr nb) fun d h => (hd d (List.mem_reverse.mp h)).2.1⟩
  have dl : ds.reverse.length = ds.length := List.length_reverse
  refine vss_le (r' := r + 100) rfl (by omega) ?_
  refine vss_cons ?_
  refine vs_setOwn 5 ?_ sc_law_digits_right.nd
  refine va_cons ?_
  refine ve_lst ?_
  refine va_nil ⟨by rw [sizeLine_eq]; simp, ?_⟩
  refine va_nil ⟨by rw [sizeLine_eq]; simp, ?_⟩
  refine vss_cons ?_
  refine vs_forL (passes_of rfl) rfl ?_
  refine ve_rev ?_
  refine ve_val 3 rfl ?_
  refine ⟨_, rfl, ?_⟩
  rw [← List.map_reverse]
  refine ⟨_, rfl, fun t S => ∃ s6, S = ⟨[.val (.adr p), .val (.int j), .val (tqs b), .val (.lst (ds.map tqs)), .un, .own (lfs b ds.reverse t), s6, .un, .un, .un], some (p, .bud (r + 100))⟩, ⟨_, rfl⟩, ?_, ?_⟩
  · rintro t x S hx ⟨s6, rfl⟩
    have ht : t < ds.length := by
      rcases Nat.lt_or_ge t ds.length with z | z
      · exact z
      · rw [List.getElem?_eq_none (by rw [List.length_map, dl]; exact z)] at hx; cases hx
    have hx2 : x = tqs (ds.reverse.getD t []) := by
      rw [List.getElem?_map, List.getElem?_eq_getElem (by rw [dl]; exact ht)] at hx
      rw [List.getD_eq_getElem?_getD, List.getElem?_eq_getElem (by rw [dl]; exact ht)]
      cases hx; rfl
    subst hx2
    refine vg_name 6 ?_ sc_law_digits_right.nd
    refine vss_one ?_
    refine vs_append 5 rfl rfl ?_
    refine ve_call (V_law_add.mono (by decide)) hr tk ?_
    refine va_cons ?_
    refine ve_call (V_law_mul.mono (by decide)) hr tk ?_
    refine va_cons ?_
    refine ve_ixOwn 5 rfl ?_
    refine ve_neg ?_
    refine ve_int ?_
    refine ⟨_, rfl, ?_⟩
    refine ⟨rfl, _, _, rfl, lfs_last, ?_⟩
    refine va_cons ?_
    refine ve_val 2 rfl ?_
    refine va_nil ?_
    refine mul_run (lf_fit hE t (by omega)) fb (by have := lf_len hE t; omega) (by omega) (b44a (by omega)) (b44c (by omega) (by have := lf_len hE t; omega)) (b44d (by omega)) (b44e (by omega)) (lt44 (by decide)) ?_
    refine va_cons ?_
    refine ve_val 6 rfl ?_
    refine va_nil ?_
    refine ⟨_, _, rfl, by have := mulP_len (lf b ds.reverse t) b; have := lf_len hE t; omega, by have := hE.ll t; omega, (lf_mul hE (by omega) (lf_fit hE t (by omega))).ok (b44a (by omega)) (b44c (by omega) (by omega)), fews_ok (hE.fe t), ?_⟩
    refine ⟨rfl, by unfold lfs; rw [List.length_map, List.length_range, sizeLine_eq]; omega, ?_⟩
    exact ⟨_, by rw [← lfs_snoc]; rfl⟩
  rintro S ⟨s6, rfl⟩
  rw [List.length_map, dl]
  refine vss_le (r' := r + 50 + b.length + 2) rfl (by omega) ?_
  refine vss_cons ?_
  refine vs_set 7 ?_ ?nd
  case nd => exact sc_law_digits_right.nd
  refine ve_call (V_law_poly.mono (by decide)) hr tk ?_
  refine va_cons ?_
  refine ve_val 0 rfl ?_
  refine va_cons ?_
  refine ve_val 2 rfl ?_
  refine va_nil ?_
  refine ⟨p, r + 50, b, rfl, by omega, fews_ok fb, rfl, ?_⟩
  rw [trim_self tb]
  have ll := lf_len hE ds.length
  have tl := lf_trim b ds.reverse ds.length
  refine vss_le (r' := r + (lf b ds.reverse ds.length).length + 2) rfl (by omega) ?_
  refine vss_cons ?_
  refine vs_set 8 ?_ ?nd
  case nd => exact sc_law_digits_right.nd
  refine ve_call (V_law_poly.mono (by decide)) hr tk ?_
  refine va_cons ?_
  refine ve_val 0 rfl ?_
  refine va_cons ?_
  refine ve_ixOwn 5 rfl ?_
  refine ve_neg ?_
  refine ve_int ?_
  refine ⟨_, rfl, ?_⟩
  refine ⟨rfl, _, _, rfl, lfs_last, ?_⟩
  refine va_nil ?_
  refine ⟨p, r, _, rfl, by omega, lf_ok hE (by omega), rfl, ?_⟩
  rw [trim_self tl]
  refine vss_cons ?_
  refine vs_forR1 (passes_of rfl) rfl Z.m_range ?_
  refine ve_len Z.m_len ?_
  refine ve_val 3 rfl ?_
  refine len_map ?_
  refine ⟨_, rfl, by omega, by omega, fun t S => ∃ s4 s9, S = ⟨[.val (.adr p), .val (.int j), .val (tqs b), .val (.lst (ds.map tqs)), s4, .own (lfs b ds.reverse ds.length), s6, .val (poly b), .val (poly (lf b ds.reverse (ds.length - t))), s9], some (p, .bud r)⟩, ⟨_, _, rfl⟩, ?_, ?_⟩
  · rintro t S ht ⟨s4, s9, rfl⟩
    have ht2 : t < ds.length := by omega
    obtain ⟨i2, hi2⟩ : ∃ i2, ds.length - t = i2 + 1 := ⟨ds.length - 1 - t, by omega⟩
    rw [hi2]
    have e8 : ds.reverse.getD i2 [] = ds.getD t [] := by
      have := rev_at ht2
      rw [show ds.length - 1 - t = i2 by omega] at this
      exact this
    refine vg_name 4 ?_ sc_law_digits_right.nd
    refine vss_cons ?_
    refine vs_set 9 ?_ ?nd
    case nd => exact sc_law_digits_right.nd
    refine ve_meth (ks := ksPoly) (M_Poly_divided.mono (by decide)) hr tk ?_
    refine ve_val 8 rfl ?_
    refine ⟨_, rfl, by decide, ?_⟩
    refine va_cons ?_
    refine ve_val 7 rfl ?_
    refine va_nil ?_
    refine ⟨_, poly b, rfl, kd_ins (by decide), .inl ⟨b, _, _, rfl, lf_div hE (t := i2) (by omega), ?_⟩⟩
    refine vss_cons ?_
    refine vs_if ?_
    refine vt_not ?_
    refine vt_truth ?_
    refine ve_call (V_law_pair_is.mono (by decide)) hr tk ?_
    refine va_cons ?_
    refine ve_val 9 rfl ?_
    refine va_cons ?_
    refine ve_ixOwn 5 rfl ?_
    refine ve_bin op_sub ?_
    refine ve_bin op_sub ?_
    refine ve_len Z.m_len ?_
    refine ve_val 3 rfl ?_
    refine len_map ?_
    refine ve_int ?_
    refine rb_subI ?_
    refine ve_val 4 rfl ?_
    refine rb_subI ?_
    refine ⟨rfl, (i2 : Int), tqs (lf b ds.reverse i2), by congr 1; omega, atI_of (lfs_get (by omega)), ?_⟩
    refine va_cons ?_
    refine ve_ix ?_
    refine ve_val 3 rfl ?_
    refine ve_val 4 rfl ?_
    refine ⟨tqs (ds.getD t []), ?gd, ?_⟩
    case gd =>
      refine atI_of ?_
      rw [List.getElem?_map, List.getElem?_eq_getElem ht2, List.getD_eq_getElem?_getD, List.getElem?_eq_getElem ht2]; rfl
    refine va_nil ?_
    refine ⟨lf b ds.reverse i2, ds.getD t [], by rw [e8]; rfl, by have := lf_len hE i2; omega, by have := hE.ll i2; rw [e8] at this; omega, ?_⟩
    refine ⟨nofun, fun _ => ?_⟩
    refine vss_nil ?_
    refine vss_one ?_
    refine vs_set 8 ?_ ?nd
    case nd => exact sc_law_digits_right.nd
    refine ve_ix ?_
    refine ve_val 9 rfl ?_
    refine ve_int ?_
    refine ⟨_, rfl, ?_⟩
    exact ⟨_, _, by rw [show ds.length - (t + 1) = i2 by omega]; rfl⟩
  rintro S ⟨s4, s9, rfl⟩
  rw [Int.toNat_natCast, Nat.sub_self]
  refine vss_one ?_
  refine vs_ret ?_
  refine ve_call (V_law_pair_is.mono (by decide)) hr tk ?_
  refine va_cons ?_
  refine ve_meth (ks := ksPoly) (M_Poly_divided.mono (by decide)) hr tk ?_
  refine ve_val 8 rfl ?_
  refine ⟨_, rfl, by decide, ?_⟩
  refine va_cons ?_
  refine ve_val 7 rfl ?_
  refine va_nil ?_
  refine ⟨_, poly b, rfl, kd_ins (by decide), .inl ⟨b, [], [], rfl, nil_div hE, ?_⟩⟩
  refine va_cons ?_
  refine ve_lst ?_
  refine va_nil ⟨by rw [sizeLine_eq]; simp, ?_⟩
  refine va_cons ?_
  refine ve_lst ?_
  refine va_nil ⟨by rw [sizeLine_eq]; simp, ?_⟩
  refine va_nil ?_
  refine ⟨[], [], rfl, Nat.zero_le _, Nat.zero_le _, ?_⟩
  exact q
end
end My
set_option Elab.async false
set_option linter.all false
set_option maxRecDepth 100000
set_option maxHeartbeats 4000000
namespace My
open PySem PySem.Spec PyProof.Rows L2 VL NdefX
def someL (ps : List Rat) (a : Addr) : List D := [.non, .bl true, .bl false, .str "1", .str "", .lst [.int 1], .tup [.int 1, .int 2], .dct [] [], .int 3, .int 0, rq (Rat.divInt 1 2), .idn a (.tup (ps.map rq))]
structure OddOk (d : D) : Prop where
  kd : Kd d
  al : Alk d
  pl : plainD d = true
  nP : isC "Poly" (core d) = false
theorem odd_ok (ps : List Rat) (a : Addr) : ∀ d ∈ someL ps a, OddOk d := by
  intro d hd
  simp only [someL, List.mem_cons, List.not_mem_nil, or_false] at hd
  rcases hd with rfl | rfl | rfl | rfl | rfl | rfl | rfl | rfl | rfl | rfl | rfl | rfl
  · exact ⟨.inl ⟨"NoneType", by decide, rfl⟩, .inr (.inl ⟨_, rfl, rfl, rfl⟩), rfl, rfl⟩
  · exact ⟨.inl ⟨"bool", by decide, rfl⟩, .inr (.inl ⟨_, rfl, rfl, rfl⟩), rfl, rfl⟩
  · exact ⟨.inl ⟨"bool", by decide, rfl⟩, .inr (.inl ⟨_, rfl, rfl, rfl⟩), rfl, rfl⟩
  · exact ⟨.inl ⟨"str", by decide, rfl⟩, .inr (.inl ⟨_, rfl, by decide +kernel, by decide +kernel⟩), rfl, rfl⟩
  · exact ⟨.inl ⟨"str", by decide, rfl⟩, .inr (.inl ⟨_, rfl, by decide +kernel, by decide +kernel⟩), rfl, rfl⟩
  · exact ⟨.inl ⟨"list", by decide, rfl⟩, .inr (.inl ⟨_, rfl, by decide +kernel, by decide +kernel⟩), by decide +kernel, rfl⟩
  · exact ⟨.inl ⟨"tuple", by decide, rfl⟩, .inr (.inl ⟨_, rfl, by decide +kernel, by decide +kernel⟩), by decide +kernel, rfl⟩
  · exact ⟨.inl ⟨"dict", by decide, rfl⟩, .inl rfl, by decide +kernel, rfl⟩
  · exact ⟨.inl ⟨"int", by decide, rfl⟩, .inr (.inl ⟨_, rfl, by decide +kernel, by decide +kernel⟩), rfl, rfl⟩
  · exact ⟨.inl ⟨"int", by decide, rfl⟩, .inr (.inl ⟨_, rfl, by decide +kernel, by decide +kernel⟩), rfl, rfl⟩
  · exact ⟨kd_rq _, .inr (.inr (.inl ⟨_, rfl⟩)), plain_rq _, isC_rP _⟩
  · refine ⟨.inl ⟨"tuple", by decide, rfl⟩, .inr (.inr (.inr ⟨_, _, rfl⟩)), ?_, rfl⟩
    rw [plainD, plainD]
    exact plainDs_iff.mpr fun d hd => by
      obtain ⟨x, _, rfl⟩ := List.mem_map.mp hd
      exact plain_rq x
theorem its_00 : Its [.int 0, .int 0] [0, 0] := ⟨rfl, fun i d h => by
  match i, h with
  | 0, h => cases h; exact ⟨kd_int 0, .inr ⟨0, rfl, rfl⟩⟩
  | 1, h => cases h; exact ⟨kd_int 0, .inr ⟨0, rfl, rfl⟩⟩⟩
theorem tot_self (ps : List Rat) : totP ps ps (-1) = [] := trim_eq trimmed_nil fun n => by
  rw [cf_nil, cf_map]
  split
  · grind
  · rfl
section
variable {P : Program} {w : World} {K : PySem.W.Frag} {mg : Str → Option Value} {base : Heap} {kws : List (Str × V)} {f : Addr} {fd : FuncData} {T : Addr}
abbrev s_law_fault : Stmt := top 53
theorem sc_law_fault : FnScope ["_law_deed", "_law_told_here", "e"] ["_law_deed"] (defScope s_law_fault) := ⟨rfl, rfl, rfl, by decide +kernel, rfl, by decide +kernel, by decide +kernel⟩
theorem fn_law_fault (F : FunD K "_law_fault" "_law_fault" (defArgs s_law_fault) (defBody s_law_fault) (defScope s_law_fault) [] kws f fd) (Z : Fx P w K mg base T)  : FnOk P w K mg base (L2.CX P w) 12 f fd ["_law_deed"] (spV (cfL T) K mg (ctFault 10 P w K mg base T)) := by
  refine fn_body F sc_law_fault (by decide) (fun ds pn k e ⟨pr, b, sc, q, cl, ws, h, _⟩ => by subst h; rfl) fun cdv A outer s H E G ds pn Qv Ev hr tk ⟨pr, b, sc, q, cl, ws, h, hq⟩ => ?_
  subst h
  refine vss_cons ?_
  refine vs_set 1 ?_ ?nd
  case nd => exact sc_law_fault.nd
  refine ve_tup ?_
  refine va_cons ?_
  refine ve_str ?_
  refine va_cons ?_
  refine ve_non ?_
  refine va_nil ⟨by rw [sizeLine_eq]; simp, ?_⟩
  obtain ⟨CB, CN, hCB, hCN, x1, x2, x3⟩ := Z.exm
  refine vss_cons ?_
  refine vs_try2 2 (cv := .ref CB) (cv2 := .ref CN) rfl rfl sc_law_fault.nd ⟨rfl, by decide, .inl hCB⟩ ⟨rfl, by decide, .inl hCN⟩ tk (fun x S => ∃ pn2, S = ⟨[.val (.clo pr b sc q cl ws), .val (.tup [.str "none", .non]), .un], pn2⟩ ∧ ((∃ v, x = bv v ∧ Qv (.tup [.str "value", v]) (outPn pn pn2)) ∨ (x = nd ∧ Qv (.tup [.str "divisor", .non]) (outPn pn pn2)))) (fun pn2 xe G0 tk2 => ?_) (fun y S2 ⟨pn2, hS, hq2⟩ => ?_)
  · refine vss_one ?_
    refine vs_expr ?_
    refine ve_act 0 rfl hr tk2 ?_
    exact hq.imp (fun _ _ z => z.elim) fun x pn2 z => ⟨pn2, rfl, z⟩
  · subst hS
    rcases hq2 with ⟨v, rfl, hv⟩ | ⟨rfl, hv⟩
    · refine ⟨true, fun C hC => ?_, fun _ a C oe dd pn3 G0 hC hz hf hs => ?_, nofun⟩
      · have hC2 : mg "BadValue" = some (.ref C) := hC
        rw [hCB] at hC2; cases hC2; exact x1
      obtain ⟨dx, rfl⟩ := hs (by simp [bv])
      refine vss_one ?_
      refine vs_set 1 ?_ sc_law_fault.nd
      refine ve_tup ?_
      refine va_cons ?_
      refine ve_str ?_
      refine va_cons ?_
      refine ve_cau Z.xf hC hz hf ?_
      refine ve_val 2 rfl ?_
      refine ⟨["value"], [v], v, rfl, rfl, ?_⟩
      refine va_nil ⟨by rw [sizeLine_eq]; simp, ?_⟩
      refine vss_one ?_
      refine vs_ret ?_
      refine ve_val 1 rfl ?_
      exact hv
    · refine ⟨false, fun C hC => ?_, nofun, fun _ => ⟨true, fun C hC => ?_, fun _ a oe pn3 G0 => ?_, nofun⟩⟩
      · have hC2 : mg "NoDivisor" = some (.ref C) := hC
        rw [hCN] at hC2; cases hC2; exact x2
      · have hC2 : mg "NoDivisor" = some (.ref C) := hC
        rw [hCN] at hC2; cases hC2; exact x3
      refine vss_one ?_
      refine vs_set 1 ?_ ?nd
      case nd => exact sc_law_fault.nd
      refine ve_tup ?_
      refine va_cons ?_
      refine ve_str ?_
      refine va_cons ?_
      refine ve_non ?_
      refine va_nil ⟨by rw [sizeLine_eq]; simp, ?_⟩
      refine vss_one ?_
      refine vs_ret ?_
      refine ve_val 1 rfl ?_
      exact hv
abbrev s_law_refused : Stmt := top 54
theorem sc_law_refused : FnScope ["_law_deed", "_law_value", "_law_kind", "_law_told_here"] ["_law_deed", "_law_value"] (defScope s_law_refused) := ⟨rfl, rfl, rfl, by decide +kernel, rfl, by decide +kernel, by decide +kernel⟩
theorem fn_law_refused (F : FunD K "_law_refused" "_law_refused" (defArgs s_law_refused) (defBody s_law_refused) (defScope s_law_refused) [] kws f fd) (Z : Fx P w K mg base T) (V_law_fault : VFn P w K mg base (cfL T) 12 "_law_fault" [] (ctFault 10 P w K mg base T)) (V_law_alike : VFn P w K mg base (cfL T) 5 "_law_alike" [] ctAlike) : FnOk P w K mg base (L2.CX P w) 13 f fd ["_law_deed", "_law_value"] (spV (cfL T) K mg (ctRefused 10 P w K mg base T)) := by
  refine fn_body F sc_law_refused (by decide) (fun ds pn k e ⟨pr, b, sc, q, cl, ws, v, h, _⟩ => by subst h; rfl) fun cdv A outer s H E G ds pn Qv Ev hr tk ⟨pr, b, sc, q, cl, ws, v, h, hkd, ha, hq⟩ => ?_
  subst h
  refine vss_cons ?_
  refine vs_asg ?_
  refine ve_call (V_law_fault.mono (by decide)) hr tk ?_
  refine va_cons ?_
  refine ve_val 0 rfl ?_
  refine va_nil ?_
  refine ⟨pr, b, sc, q, cl, ws, rfl, hq.imp (fun _ _ z => z) fun x pn2 ⟨e, z⟩ => .inl ⟨v, e, ?_⟩⟩
  refine vg_tup ?_ rfl
  refine vgs_cons (vg_name 2 ?_ sc_law_refused.nd)
  refine vgs_cons (vg_name 3 ?_ sc_law_refused.nd)
  refine vgs_nil ?_
  refine vss_one ?_
  refine vs_ret ?_
  refine ve_and ?_
  refine ve_cmp (op_eqAll hr) ?_ (nomark _)
  refine ve_val 2 rfl ?_
  refine ve_str ?_
  refine rb_eqAS ?_
  rw [beq_self_eq_true]
  refine ⟨_, rfl, fun _ => ?_, nofun⟩
  refine ve_one ?_
  refine ve_call (V_law_alike.mono (by decide)) hr tk ?_
  refine va_cons ?_
  refine ve_val 3 rfl ?_
  refine va_cons ?_
  refine ve_val 1 rfl ?_
  refine va_nil ?_
  refine ⟨v, rfl, hkd, ha, ?_⟩
  cases pn <;> exact z
abbrev s_law_refusals_right : Stmt := top 71
theorem sc_law_refusals_right : FnScope ["_law_pen_here", "_law_made", "_law_odd", "_law_deeds", "_law_deed"] ["_law_pen_here"] (defScope s_law_refusals_right) := ⟨rfl, rfl, rfl, by decide +kernel, rfl, by decide +kernel, by decide +kernel⟩
theorem fn_law_refusals_right {cd : Addr} (F : FunD K "_law_refusals_right" "_law_refusals_right" (defArgs s_law_refusals_right) (defBody s_law_refusals_right) (defScope s_law_refusals_right) [] kws f fd) (Z : Fx P w K mg base T) (TB : LamX.TabB base mg cd T) (hcd : fd.code = .ref cd) (V_law_some : VFn P w K mg base (cfL T) 5 "_law_some" [] ctSome) (V_law_poly : VFn P w K mg base (cfL T) 9 "_law_poly" [] ctMkP) (V_law_pick : VFn P w K mg base (cfL T) 3 "_law_pick" [] ctPick) (K_Ratio_0 : VMk P w K mg base (cfL T) 4 "Ratio" [] ctInit) (K_Poly_0 : VMk P w K mg base (cfL T) 7 "Poly" [] ctPInit) (M_Poly_divided : VMeth P w K mg base (cfL T) 10 "Poly" "divided" [] ctPDivd) (M_Poly_sub : VMeth P w K mg base (cfL T) 10 "Poly" "__sub__" [] ctPSubS) (V_law_fault : VFn P w K mg base (cfL T) 12 "_law_fault" [] (ctFault 10 P w K mg base T)) (V_law_refused : VFn P w K mg base (cfL T) 13 "_law_refused" [] (ctRefused 10 P w K mg base T)) : FnOk P w K mg base (L2.CX P w) 14 f fd ["_law_pen_here"] (spV (cfL T) K mg (ctPenB 100)) := by
  refine fn_bodyC F hcd sc_law_refusals_right (by decide) (fun ds pn k e ⟨p, r, h, _⟩ => by subst h; rfl) fun A outer s H E G ds pn Qv Ev hr tk ⟨p, r, h, hpn, q⟩ => ?_
  subst h
  subst hpn
  refine vss_le (r' := r + 20 + 16 * 4 + 1) rfl (by omega) ?_
  refine vss_cons ?_
  refine vs_set 1 ?_ ?nd
  case nd => exact sc_law_refusals_right.nd
  refine ve_call (V_law_poly.mono (by decide)) hr tk ?_
  refine va_cons ?_
  refine ve_val 0 rfl ?_
  refine va_cons ?_
  refine ve_call (V_law_some.mono (by decide)) hr tk ?_
  refine va_cons ?_
  refine ve_val 0 rfl ?_
  refine va_cons ?_
  refine ve_int ?_
  refine va_nil ?_
  refine ⟨p, r + 20, 4, rfl, by decide, rfl, fun ps tps lps fps => ?_⟩
  refine VA.le (r' := r + 1 + ps.length + 2) rfl (by omega) ?_
  refine va_nil ?_
  refine ⟨p, r + 1, ps, rfl, by omega, fews_ok fps, rfl, ?_⟩
  rw [trim_self tps]
  have main : ∀ odd : D, OddOk odd → VSs (bX P w K mg base ["_law_pen_here", "_law_made", "_law_odd", "_law_deeds", "_law_deed"] "_law_refusals_right" s_law_refusals_right f (.ref cd) A outer s H E) (bodyCv (cfL T) G H (some (p, .bud (r + 100))) Ev) ⟨[.val (.adr p), .val (poly ps), .val odd, .un, .un], some (p, .bud r)⟩ ((defBody s_law_refusals_right).drop 2) { nx := fun S => Qv .non (outPn (some (p, .bud (r + 100))) S.pn), rt := fun d S => Qv d (outPn (some (p, .bud (r + 100))) S.pn) } := by
    intro odd ho
    have fin : ∀ R : List D, (∀ d ∈ R, RowNd 10 P w K mg base T (bX P w K mg base ["_law_pen_here", "_law_made", "_law_odd", "_law_deeds", "_law_deed"] "_law_refusals_right" s_law_refusals_right f (.ref cd) A outer s H E) (bodyCv (cfL T) G H (some (p, .bud (r + 100))) Ev) (fun s => [.val (.adr p), .val (poly ps), .val odd, s, .un]) d) → VSs (bX P w K mg base ["_law_pen_here", "_law_made", "_law_odd", "_law_deeds", "_law_deed"] "_law_refusals_right" s_law_refusals_right f (.ref cd) A outer s H E) (bodyCv (cfL T) G H (some (p, .bud (r + 100))) Ev) ⟨[.val (.adr p), .val (poly ps), .val odd, .own R, .un], some (p, .bud r)⟩ ((defBody s_law_refusals_right).drop 3) { nx := fun S => Qv .non (outPn (some (p, .bud (r + 100))) S.pn), rt := fun d S => Qv d (outPn (some (p, .bud (r + 100))) S.pn) } := by
      intro R hR
      refine vss_cons ?_
      refine vs_if ?_
      refine vt_not ?_
      refine vt_truth ?_
      refine ve_all Z.m_all rfl ?_
      refine ve_lcLI (own := [("_law_deed", 4)]) rfl sc_law_refusals_right.nd (blkOk_by rfl) (tg_name (i := 4) (by simp)) (fun s H C cl fp => pg_name sc_law_refusals_right.nd rfl (by first | exact Or.inl rfl | exact Or.inr rfl) (by first | exact .inl rfl | exact .inr rfl)) ?_
      refine ve_freeze 3 rfl rfl ?_
      refine ⟨R, rfl, fun t acc pn2 => pn2 = some (p, .bud r) ∧ acc = (List.replicate t true).map D.bl, ⟨rfl, rfl⟩, ?_, ?_⟩
      · rintro t d acc pn2 hd ⟨rfl, rfl⟩
        obtain ⟨pr, b, sc, qn, cl, ws, rfl, cap, deed⟩ := hR d (List.mem_of_getElem? hd)
        refine ⟨_, rfl, ?_⟩
        intro s0 H0 C cl2 fp Gb Hb B
        refine ve_cmp (op_eqAll hr) ?_ (nomark _)
        refine ve_callL V_law_fault (hr.mono (by decide)) ?_
        refine va_cons ?_
        refine ve_val 4 rfl ?_
        refine va_nil ⟨pr, b, sc, qn, cl, ws, [], rfl, cap_blk (fun pn => cap _ pn) B, ?_⟩
        refine ⟨pr, b, sc, qn, cl, ws, rfl, (deed _).imp (fun _ _ z => z) fun x pn3 ⟨e1, e2⟩ => .inr ⟨e1, rfl, ?_⟩⟩
        subst e2
        refine ve_tup ?_
        refine va_cons ?_
        refine ve_str ?_
        refine va_cons ?_
        refine ve_non ?_
        refine va_nil ⟨by rw [sizeLine_eq]; simp, ?_⟩
        refine rb_eqAD (p := .tuple [.str "divisor", .none]) (q := .tuple [.str "divisor", .none]) rfl rfl shaped_nd shaped_nd ?_
        rw [eqv_nd]
        refine ⟨rfl, ?_⟩
        rw [List.replicate_succ', List.map_append]; rfl
      rintro acc pn2 ⟨rfl, rfl⟩
      refine ⟨_, rfl, ?_⟩
      rw [all_true]
      refine ⟨nofun, fun _ => ?_⟩
      refine vss_nil ?_
      refine vss_one ?_
      refine vs_ret ?_
      refine ve_callL V_law_refused (hr.mono (by decide)) ?_
      refine va_cons ?_
      refine ve_lambda TB rfl rfl tb_mem0 (tb_one0 Z.tt) rfl (LamX.lamS_by rfl) ?_
      refine va_cons ?_
      refine ve_val 2 rfl ?_
      refine va_nil ⟨_, _, _, _, _, [odd, poly ps], [_], rfl, (cap_own (fr := ["_law_odd", "_law_made"]) (LamX.lamS_by rfl) rfl (by decide +kernel) (.cons 2 rfl rfl rfl rfl (.cons 1 rfl rfl rfl rfl (.nil)))).any, ?_⟩
      refine ⟨_, _, _, _, _, _, odd, rfl, ho.kd, ho.al, ?_⟩
      refine ⟨?_, ["_law_odd", "_law_made"], rfl, nscope_by (by decide +kernel), fun _ _ _ _ => rfl, fun Q2 E2 hQ hE c2 f2 A2 o2 s2 H2 EE G2 H3 hr2 tk2 => ?_⟩
      · simp only [plainDs, Bool.and_true, Bool.and_eq_true]
        exact ⟨ho.pl, plain_poly ps⟩
      refine ve_meth (ks := ksPoly) (M_Poly_divided.mono (by decide)) hr2 tk2 ?_
      refine ve_val 1 rfl ?_
      refine ⟨_, rfl, by decide, ?_⟩
      refine va_cons ?_
      refine ve_val 0 rfl ?_
      refine va_nil ?_
      refine ⟨ps, odd, rfl, ho.kd, .inr (.inl ⟨ho.nP, hE _ _ ⟨rfl, rfl, q⟩⟩)⟩
    refine vss_cons ?_
    refine vs_setOwn 3 ?_ sc_law_refusals_right.nd
    refine va_cons ?_
    refine ve_lambda TB rfl rfl tb_mem0 (tb_one0 Z.tt) rfl (LamX.lamS_by rfl) ?_
    refine va_cons ?_
    refine ve_lambda TB rfl rfl tb_mem0 (tb_one0 Z.tt) rfl (LamX.lamS_by rfl) ?_
    refine va_cons ?_
    refine ve_lambda TB rfl rfl tb_mem0 (tb_one0 Z.tt) rfl (LamX.lamS_by rfl) ?_
    refine va_nil ⟨by rw [sizeLine_eq]; simp, ?_⟩
    refine fin _ ?_
    refine List.forall_mem_cons.mpr ⟨?_, ?_⟩
    · refine ⟨_, _, _, _, _, [poly ps], rfl, fun s pn => cap_own (fr := ["_law_made"]) (LamX.lamS_by rfl) rfl (by decide +kernel) (.cons 1 rfl rfl rfl rfl (.nil)), fun pn2 => ?_⟩
      refine ⟨?_, ["_law_made"], rfl, nscope_by (by decide +kernel), fun _ _ _ _ => rfl, fun Q2 E2 hQ hE c2 f2 A2 o2 s2 H2 EE G2 H3 hr2 tk2 => ?_⟩
      · simp only [plainDs, Bool.and_true, Bool.and_eq_true]
        exact plain_poly ps
      refine ve_meth (ks := ksPoly) (M_Poly_divided.mono (by decide)) hr2 tk2 ?_
      refine ve_val 0 rfl ?_
      refine ⟨_, rfl, by decide, ?_⟩
      refine va_cons ?_
      refine ve_make K_Poly_0 (hr2.mono (by decide)) tk2 ?_
      refine va_cons ?_
      refine ve_lst ?_
      refine va_nil ⟨by rw [sizeLine_eq]; simp, ?_⟩
      refine va_nil ?_
      refine mk_poly (its_rq []) ?_
      rw [show trim [] = [] from rfl]
      refine va_nil ?_
      refine ⟨ps, poly [], rfl, kd_ins (by decide), .inr (.inr ⟨rfl, hE _ _ ⟨rfl, by cases pn2 <;> rfl⟩⟩)⟩
    refine List.forall_mem_cons.mpr ⟨?_, ?_⟩
    · refine ⟨_, _, _, _, _, [poly ps], rfl, fun s pn => cap_own (fr := ["_law_made"]) (LamX.lamS_by rfl) rfl (by decide +kernel) (.cons 1 rfl rfl rfl rfl (.nil)), fun pn2 => ?_⟩
      refine ⟨?_, ["_law_made"], rfl, nscope_by (by decide +kernel), fun _ _ _ _ => rfl, fun Q2 E2 hQ hE c2 f2 A2 o2 s2 H2 EE G2 H3 hr2 tk2 => ?_⟩
      · simp only [plainDs, Bool.and_true, Bool.and_eq_true]
        exact plain_poly ps
      refine ve_meth (ks := ksPoly) (M_Poly_divided.mono (by decide)) hr2 tk2 ?_
      refine ve_val 0 rfl ?_
      refine ⟨_, rfl, by decide, ?_⟩
      refine va_cons ?_
      refine ve_make K_Poly_0 (hr2.mono (by decide)) tk2 ?_
      refine va_cons ?_
      refine ve_lst ?_
      refine va_cons ?_
      refine ve_int ?_
      refine va_cons ?_
      refine ve_int ?_
      refine va_nil ⟨by rw [sizeLine_eq]; simp, ?_⟩
      refine va_nil ?_
      refine mk_poly (ps := [0, 0]) its_00 ?_
      rw [show trim [(0 : Rat), 0] = [] from trim_eq trimmed_nil fun n => by match n with | 0 => rfl | 1 => rfl | n + 2 => rfl]
      refine va_nil ?_
      refine ⟨ps, poly [], rfl, kd_ins (by decide), .inr (.inr ⟨rfl, hE _ _ ⟨rfl, by cases pn2 <;> rfl⟩⟩)⟩
    refine List.forall_mem_cons.mpr ⟨?_, ?_⟩
    · refine ⟨_, _, _, _, _, [poly ps], rfl, fun s pn => cap_own (fr := ["_law_made"]) (LamX.lamS_by rfl) rfl (by decide +kernel) (.cons 1 rfl rfl rfl rfl (.nil)), fun pn2 => ?_⟩
      refine ⟨?_, ["_law_made"], rfl, nscope_by (by decide +kernel), fun _ _ _ _ => rfl, fun Q2 E2 hQ hE c2 f2 A2 o2 s2 H2 EE G2 H3 hr2 tk2 => ?_⟩
      · simp only [plainDs, Bool.and_true, Bool.and_eq_true]
        exact plain_poly ps
      refine ve_meth (ks := ksPoly) (M_Poly_divided.mono (by decide)) hr2 tk2 ?_
      refine ve_make K_Poly_0 (hr2.mono (by decide)) tk2 ?_
      refine va_cons ?_
      refine ve_lst ?_
      refine va_nil ⟨by rw [sizeLine_eq]; simp, ?_⟩
      refine va_nil ?_
      refine mk_poly (its_rq []) ?_
      rw [show trim [] = [] from rfl]
      refine ⟨_, rfl, by decide, ?_⟩
      refine va_cons ?_
      refine ve_opS (op := .Sub) (ks := ksPoly) (ks2 := ksPoly) ((du_S ▸ M_Poly_sub).mono (by decide)) hr2 tk2 (Z.self _ (by decide)) ?_
      refine ve_val 0 rfl ?_
      refine ve_val 0 rfl ?_
      refine ⟨_, _, rfl, rfl, ⟨ps, ps, rfl, by omega, by omega, fews_ok fps, fews_ok fps, ?_⟩⟩
      rw [tot_self]
      refine va_nil ?_
      refine ⟨[], poly [], rfl, kd_ins (by decide), .inr (.inr ⟨rfl, hE _ _ ⟨rfl, by cases pn2 <;> rfl⟩⟩)⟩
    exact fun _ h => nomatch h
  refine vss_cons ?_
  refine vs_set 2 ?_ ?nd
  case nd => exact sc_law_refusals_right.nd
  refine ve_call (V_law_pick.mono (by decide)) hr tk ?_
  refine va_cons ?_
  refine ve_val 0 rfl ?_
  refine va_cons ?_
  refine ve_lst ?_
  refine va_cons ?_
  refine ve_non ?_
  refine va_cons ?_
  refine ve_bl ?_
  refine va_cons ?_
  refine ve_bl ?_
  refine va_cons ?_
  refine ve_str ?_
  refine va_cons ?_
  refine ve_str ?_
  refine va_cons ?_
  refine ve_lst ?_
  refine va_cons ?_
  refine ve_int ?_
  refine va_nil ⟨by rw [sizeLine_eq]; simp, ?_⟩
  refine va_cons ?_
  refine ve_tup ?_
  refine va_cons ?_
  refine ve_int ?_
  refine va_cons ?_
  refine ve_int ?_
  refine va_nil ⟨by rw [sizeLine_eq]; simp, ?_⟩
  refine va_cons ?_
  refine ve_dict0 ?_
  refine va_cons ?_
  refine ve_int ?_
  refine va_cons ?_
  refine ve_int ?_
  refine va_cons ?_
  refine ve_make K_Ratio_0 (hr.mono (by decide)) tk ?_
  refine va_cons ?_
  refine ve_int ?_
  refine va_cons ?_
  refine ve_int ?_
  refine va_nil ?_
  refine mk_int (by decide) (Nat.lt_of_lt_of_le (m := 2 ^ 64) (by decide) (Nat.pow_le_pow_right (by decide) (by decide))) rfl ?_
  refine va_cons ?_
  refine ve_fld ?_
  refine ve_val 1 rfl ?_
  refine ⟨_, _, _, _, rfl, Z.cf _ _ (by decide), rfl, ?_⟩
  refine va_nil ⟨by rw [sizeLine_eq]; simp, ?_⟩
  refine va_nil ?_
  refine ⟨p, r, _, rfl, rfl, by simp, by simp, fun d hd => ?_⟩
  have key : d = .tup (ps.map rq) ∨ ∃ a, d ∈ someL ps a ∧ d ∈ someL ps a := by
    simp only [List.mem_cons, List.not_mem_nil, or_false] at hd
    rcases hd with rfl | rfl | rfl | rfl | rfl | rfl | rfl | rfl | rfl | rfl | rfl | rfl
    all_goals first | exact .inl rfl | (refine .inr ⟨0, ?_, ?_⟩ <;> simp [someL] <;> rfl) | exact .inr ⟨0, by simp [someL], by simp [someL]⟩
  clear hd
  rcases key with rfl | ⟨a, hd, _⟩
  · refine vss_idn 2 rfl rfl fun a => ?_
    exact main _ (odd_ok ps a _ (by simp [someL]))
  · exact main _ (odd_ok ps a _ hd)
end
end My
set_option Elab.async false
set_option linter.all false
set_option maxRecDepth 100000
set_option maxHeartbeats 4000000
namespace My
open PySem PySem.Spec PyProof.Rows L2 VL NdefX
def ctLaw : Ct where
  run ds pn k e := ∃ ns : List Int, ds = [.scr (ns.map D.int)] ∧ pn = none ∧ bigs ns ∧ ns.length ≤ 63 ∧ k (.bl true) none
  mono := fun ⟨ns, h1, h2, h3, h4, q⟩ hk he => ⟨ns, h1, h2, h3, h4, hk _ _ q⟩
section
variable {P : Program} {w : World} {K : PySem.W.Frag} {mg : Str → Option Value} {base : Heap} {kws : List (Str × V)} {f : Addr} {fd : FuncData} {T : Addr}
abbrev s_law : Stmt := top 72
theorem sc_law : FnScope ["_law_script", "_law_pen_here", "_law_lap"] ["_law_script"] (defScope s_law) := ⟨rfl, rfl, rfl, by decide +kernel, rfl, by decide +kernel, by decide +kernel⟩
theorem fn_law (F : FunD K "law" "law" (defArgs s_law) (defBody s_law) (defScope s_law) [] kws f fd) (Z : Fx P w K mg base T) (VB : VPen P w K mg base (cfL T) 1 "_law_pen") (V_law_one_right : VFn P w K mg base (cfL T) 11 "_law_one_right" [] (ctPenB 1000)) (V_law_digits_right : VFn P w K mg base (cfL T) 11 "_law_digits_right" [] (ctPenB 1000)) (V_law_refusals_right : VFn P w K mg base (cfL T) 14 "_law_refusals_right" [] (ctPenB 100)) : FnOk P w K mg base (L2.CX P w) 15 f fd ["_law_script"] (spV (cfL T) K mg ctLaw) := by
  refine fn_body F sc_law (by decide) (fun ds pn k e ⟨ns, h, _⟩ => by subst h; rfl) fun cdv A outer s H E G ds pn Qv Ev hr tk ⟨ns, h, hpn, hbig, hlen, q⟩ => ?_
  subst h
  subst hpn
  refine vss_cons ?_
  refine vs_newpen 1 0 VB (hr.mono (by decide)) tk rfl rfl rfl hbig (fun p => ?_) sc_law.nd
  obtain ⟨r, hr0⟩ : ∃ r : Nat, 2 ^ 50 = r + 10000 := ⟨2 ^ 50 - 10000, by decide⟩
  rw [hr0]
  refine vss_le (r' := r + 2100 * 4) rfl (by omega) ?_
  refine vss_cons ?_
  refine vs_forR1 (passes_of rfl) rfl Z.m_range ?_
  refine ve_bin op_addAll ?_
  refine ve_int ?_
  refine ve_min2 Z.m_min rfl ?_
  refine va_cons ?_
  refine ve_int ?_
  refine va_cons ?_
  refine ve_len Z.m_len ?_
  refine ve_val 0 rfl ?_
  refine va_nil ?_
  refine ⟨_, _, rfl, ?_⟩
  refine rb_addI ?_
  refine ⟨_, rfl, by split <;> omega, by split <;> omega, fun t S => ∃ s2 : Sl, S = ⟨[.val (.scr (ns.map D.int)), .val (.adr p), s2], some (p, .bud (r + 2100 * (4 - t)))⟩, ⟨_, rfl⟩, ?_, ?_⟩
  · rintro t S ht ⟨s2, rfl⟩
    have ht5 : t < 4 := by revert ht; split <;> omega
    obtain ⟨j, en⟩ : ∃ j, r + 2100 * (4 - t) = j + 100 + 1000 + 1000 := ⟨r + 2100 * (4 - t) - 2100, by omega⟩
    have en2 : r + 2100 * (4 - (t + 1)) = j := by omega
    rw [en]
    clear ht en
    refine vg_name 2 ?_ sc_law.nd
    refine vss_one ?_
    refine vs_if ?_
    refine vt_w (vw_or ?_)
    refine vt_not ?_
    refine vt_truth ?_
    refine ve_call (V_law_one_right.mono (by decide)) hr tk ?_
    refine va_cons ?_
    refine ve_val 1 rfl ?_
    refine va_nil ?_
    refine ⟨p, j + 100 + 1000, rfl, rfl, ?_⟩
    refine ⟨nofun, fun _ => ?_⟩
    refine vw_or ?_
    refine vt_not ?_
    refine vt_truth ?_
    refine ve_call (V_law_digits_right.mono (by decide)) hr tk ?_
    refine va_cons ?_
    refine ve_val 1 rfl ?_
    refine va_nil ?_
    refine ⟨p, j + 100, rfl, rfl, ?_⟩
    refine ⟨nofun, fun _ => ?_⟩
    refine vw_or1 ?_
    refine vt_not ?_
    refine vt_truth ?_
    refine ve_call (V_law_refusals_right.mono (by decide)) hr tk ?_
    refine va_cons ?_
    refine ve_val 1 rfl ?_
    refine va_nil ?_
    refine ⟨p, j, rfl, rfl, ?_⟩
    refine ⟨nofun, fun _ => ?_⟩
    refine vss_nil ?_
    exact ⟨_, by rw [en2]; rfl⟩
  rintro S ⟨s2, rfl⟩
  refine vss_one ?_
  refine vs_ret ?_
  refine ve_bl ?_
  exact q
end
end My
set_option Elab.async false
set_option linter.all false
set_option maxRecDepth 100000
set_option maxHeartbeats 0
namespace My
open PySem PySem.Spec PyProof.Rows L2 VL NdefX

theorem vfn {P : Program} {w : World} {K : PySem.W.Frag} {mg : Str → Option Value} {base : Heap} {cf : Cfg} {x qual : Str} {args : Arguments} {body : List Stmt} {sc : Scope} {kws : List (Str × V)} {k : Nat} {ct : Ct} {f : Addr} {fd : FuncData} {ps : List Str}
    (F : FunD K x qual args body sc [] kws f fd) (ok : FnOk P w K mg base (L2.CX P w) k f fd ps (spV cf K mg ct)) (g : mg x = some (.ref f)) (b : Binds K fd ps []) : VFn P w K mg base cf k x [] ct :=
  ⟨f, fd, ps, [], [], ok, g, F.kp, b, .nil, .nil⟩
theorem vmeth {P : Program} {w : World} {K : PySem.W.Frag} {mg : Str → Option Value} {base : Heap} {cf : Cfg} {k : Nat} {ct : Ct} {f C : Addr} {fd : FuncData} {ps : List Str} {cn m : Str}
    (ok : FnOk P w K mg base (L2.CX P w) k f fd ps (spV cf K mg ct)) (g : mg cn = some (.ref C)) (cl : Cls K C) (hm : Meth K C m f) (b : Binds K fd ps []) : VMeth P w K mg base cf k cn m [] ct :=
  ⟨C, f, fd, ps, [], [], g, cl, hm, ok, b, .nil, .nil⟩
section
variable {P : Program} {w : World} {K : PySem.W.Frag} {h : Heap} {mg : Str → Option Value} {base : Heap} {T : Addr}
theorem tst_split (c : SaysW fa fn xs tf tst h K) : (PySem.W.nsIn K cStatics "thirdparty.any" = some none ∧ PySem.W.nsIn K mainGlobals "super" = some none ∧ (xs.all fun d => d.codeB K prg.main.file && d.clsB K) = true) ∧ (∀ c, c ∈ cs → tstR K (He.ga K c) = true) ∧ tstC K = true ∧ tstT K = true ∧ (∀ c, c ∈ cs → tstO K (He.ga K c) = true) ∧ tstX K (He.ga K "BadValue") (He.ga K "NoDivisor") = true ∧ tstTT K = true := by
  have c3 := c.more
  unfold tst at c3
  obtain ⟨t1, c3⟩ := Bool.and_eq_true_iff.mp c3
  obtain ⟨t2, c3⟩ := Bool.and_eq_true_iff.mp c3
  obtain ⟨t3, c3⟩ := Bool.and_eq_true_iff.mp c3
  obtain ⟨t4, c3⟩ := Bool.and_eq_true_iff.mp c3
  obtain ⟨t5, c3⟩ := Bool.and_eq_true_iff.mp c3
  obtain ⟨t6, c3⟩ := Bool.and_eq_true_iff.mp c3
  obtain ⟨t7, c3⟩ := Bool.and_eq_true_iff.mp c3
  obtain ⟨t8, t9⟩ := Bool.and_eq_true_iff.mp c3
  exact ⟨⟨of_decide_eq_true t1, of_decide_eq_true t2, t3⟩, fun c hc => List.all_eq_true.mp t4 c hc, t5, t6, fun c hc => List.all_eq_true.mp t7 c hc, t8, t9⟩
theorem xok (X : K.In h) (G : h.Ns mainGlobals mg) (c : SaysW fa fn xs tf tst h K) (hP : P = prg) : XOk P K mg ⟨"BadValue", "BadValue.__init__", initBV, ["value"]⟩ := by
  subst hP
  obtain ⟨⟨t1, t2, t3⟩, _⟩ := tst_split c
  obtain ⟨a, b⟩ := Bool.and_eq_true_iff.mp (List.all_eq_true.mp t3 ⟨"BadValue", "BadValue.__init__", initBV, ["value"]⟩ List.mem_cons_self)
  exact XD.facts X G (c.xd (i := 0) rfl) a b (beq_self_eq_true _) t1 t2 (by decide +kernel)
theorem v_bv (X : K.In h) (G : h.Ns mainGlobals mg) (c : SaysW fa fn xs tf tst h K) (hP : P = prg) : VEx P w K mg base 1 "BadValue" ["value"] ["self", "value"] initBV :=
  vex1 (d := ⟨"BadValue", "BadValue.__init__", initBV, ["value"]⟩) (xok X G c hP) rfl (nscope_by (by decide +kernel)) rfl rfl rfl rfl (by intro cc c f A outer s H E; exact ⟨_, rfl⟩)
theorem fx (X : K.In h) (G : h.Ns mainGlobals mg) (c : SaysW fa fn xs tf tst h K) (hP : P = prg) (hT : T = (He.cT K ("_law_refusals_right", none)).2) : Fx P w K mg base T := by
  obtain ⟨_, t4, tC, t5, t6, t7, t9⟩ := tst_split c
  have gc : ∀ c, c ∈ cs → mg c = some (.ref (He.ga K c)) := fun c hc => by
    simp only [cs, List.mem_cons, List.not_mem_nil, or_false] at hc
    rcases hc with rfl | rfl
    · exact He.glo_ok X G (c.fact (f := .glo "Ratio") (List.mem_of_getElem? (i := 45) rfl))
    · exact He.glo_ok X G (c.fact (f := .glo "Poly") (List.mem_of_getElem? (i := 46) rfl))
  have kc : ∀ c, c ∈ cs → Cls K (He.ga K c) := fun c hc => by
    simp only [cs, List.mem_cons, List.not_mem_nil, or_false] at hc
    rcases hc with rfl | rfl
    · exact He.cls_ok (c.fact (f := .cls "Ratio") (List.mem_of_getElem? (i := 67) rfl))
    · exact He.cls_ok (c.fact (f := .cls "Poly") (List.mem_of_getElem? (i := 75) rfl))
  have nf : ∀ c f, (c, f) ∈ flds → NoAttr K (He.ga K c) f := fun c f hc => by
    simp only [flds, List.mem_cons, List.not_mem_nil, or_false, Prod.mk.injEq] at hc
    rcases hc with ⟨rfl, rfl⟩ | ⟨rfl, rfl⟩ | ⟨rfl, rfl⟩
    · exact He.noat_ok (c.fact (f := .noat "Ratio" "top") (List.mem_of_getElem? (i := 68) rfl))
    · exact He.noat_ok (c.fact (f := .noat "Ratio" "bottom") (List.mem_of_getElem? (i := 69) rfl))
    · exact He.noat_ok (c.fact (f := .noat "Poly" "parts") (List.mem_of_getElem? (i := 76) rfl))
  have fc : ∀ c f, (c, f) ∈ flds → c ∈ cs := fun c f hf => of_decide_eq_true (List.all_eq_true.mp (show (flds.all fun p => decide (p.1 ∈ cs)) = true by decide) (c, f) hf)
  have eR : ∀ {c : Str} {C : Addr}, c ∈ cs → mg c = some (.ref C) → C = He.ga K c := fun hc h => by rw [gc _ hc] at h; cases h; rfl
  have gB : mg "BadValue" = some (.ref (He.ga K "BadValue")) := He.glo_ok X G (c.fact (f := .glo "BadValue") (List.mem_of_getElem? (i := 43) rfl))
  have gN : mg "NoDivisor" = some (.ref (He.ga K "NoDivisor")) := He.glo_ok X G (c.fact (f := .glo "NoDivisor") (List.mem_of_getElem? (i := 44) rfl))
  have sR : ∀ c, c ∈ cs → insB K (He.ga K c) = true ∧ (∀ T, T ∈ tys → PySem.W.kitOne K (.type T) (.ref (He.ga K c)) = some false) ∧ (∀ U, U ∈ us → PySem.W.kitOne K (.ref (He.ga K c)) (.type U) = some false) ∧ ∀ tp, tp ∈ tups → PySem.W.kitAny K (.ref (He.ga K c)) (tp.map Value.type) = some false := fun c hc => by
    have q := t4 c hc
    unfold tstR at q
    obtain ⟨q1, q⟩ := Bool.and_eq_true_iff.mp q
    obtain ⟨q2, q⟩ := Bool.and_eq_true_iff.mp q
    obtain ⟨q3, q4⟩ := Bool.and_eq_true_iff.mp q
    exact ⟨q1, fun T hT => of_decide_eq_true (List.all_eq_true.mp q2 T hT), fun U hU => of_decide_eq_true (List.all_eq_true.mp q3 U hU), fun tp ht => of_decide_eq_true (List.all_eq_true.mp q4 tp ht)⟩
  have sO : ∀ c, c ∈ cs → (∀ op, op ∈ ops → ∀ U, U ∈ tys → opTB K (He.ga K c) op U = true ∧ opTRB K (He.ga K c) op U = true) ∧ PySem.W.selfFirst K (He.ga K c) = true ∧ (∀ U, U ∈ tys → PySem.W.subIn K (.type U) (.ref (He.ga K c)) = some false) ∧ PySem.W.subIn K (.ref (He.ga K c)) (.type "int") = some false := fun c hc => by
    have q := t6 c hc
    unfold tstO at q
    obtain ⟨q1, q⟩ := Bool.and_eq_true_iff.mp q
    obtain ⟨q2, q⟩ := Bool.and_eq_true_iff.mp q
    obtain ⟨q3, q4⟩ := Bool.and_eq_true_iff.mp q
    exact ⟨fun op ho U hU => Bool.and_eq_true_iff.mp (List.all_eq_true.mp (List.all_eq_true.mp q1 op ho) U hU), q2, fun U hU => of_decide_eq_true (List.all_eq_true.mp q3 U hU), of_decide_eq_true q4⟩
  unfold tstT at t5
  obtain ⟨k1, k2⟩ := Bool.and_eq_true_iff.mp t5
  unfold tstX at t7
  obtain ⟨x1, t7⟩ := Bool.and_eq_true_iff.mp t7
  obtain ⟨x2, x3⟩ := Bool.and_eq_true_iff.mp t7
  obtain ⟨e1, e2, e3, e4⟩ := He.exc_ok (c.fact (f := .exc "NoDivisor") (List.mem_of_getElem? (i := 80) rfl))
  unfold tstC at tC
  unfold tstTT at t9
  exact {
    m_isinstance := He.free_ok X G (c.fact (f := .free "isinstance") (List.mem_of_getElem? (i := 47) rfl))
    m_int := He.free_ok X G (c.fact (f := .free "int") (List.mem_of_getElem? (i := 48) rfl))
    m_bool := He.free_ok X G (c.fact (f := .free "bool") (List.mem_of_getElem? (i := 49) rfl))
    m_str := He.free_ok X G (c.fact (f := .free "str") (List.mem_of_getElem? (i := 50) rfl))
    m_list := He.free_ok X G (c.fact (f := .free "list") (List.mem_of_getElem? (i := 51) rfl))
    m_tuple := He.free_ok X G (c.fact (f := .free "tuple") (List.mem_of_getElem? (i := 52) rfl))
    m_dict := He.free_ok X G (c.fact (f := .free "dict") (List.mem_of_getElem? (i := 53) rfl))
    m_len := He.free_ok X G (c.fact (f := .free "len") (List.mem_of_getElem? (i := 54) rfl))
    m_abs := He.free_ok X G (c.fact (f := .free "abs") (List.mem_of_getElem? (i := 55) rfl))
    m_min := He.free_ok X G (c.fact (f := .free "min") (List.mem_of_getElem? (i := 56) rfl))
    m_max := He.free_ok X G (c.fact (f := .free "max") (List.mem_of_getElem? (i := 57) rfl))
    m_range := He.free_ok X G (c.fact (f := .free "range") (List.mem_of_getElem? (i := 58) rfl))
    m_all := He.free_ok X G (c.fact (f := .free "all") (List.mem_of_getElem? (i := 59) rfl))
    m_any := He.free_ok X G (c.fact (f := .free "any") (List.mem_of_getElem? (i := 60) rfl))
    m_sum := He.free_ok X G (c.fact (f := .free "sum") (List.mem_of_getElem? (i := 61) rfl))
    m_zip := He.free_ok X G (c.fact (f := .free "zip") (List.mem_of_getElem? (i := 62) rfl))
    m_enumerate := He.free_ok X G (c.fact (f := .free "enumerate") (List.mem_of_getElem? (i := 63) rfl))
    m_reversed := He.free_ok X G (c.fact (f := .free "reversed") (List.mem_of_getElem? (i := 64) rfl))
    m_sorted := He.free_ok X G (c.fact (f := .free "sorted") (List.mem_of_getElem? (i := 65) rfl))
    m_set := He.free_ok X G (c.fact (f := .free "set") (List.mem_of_getElem? (i := 66) rfl))
    cf := fun c f hf C hC => by rw [eR (fc c f hf) hC]; exact ⟨kc c (fc c f hf), nf c f hf⟩
    cls := fun c hc => ⟨_, gc c hc, insB_ok (kc c hc) (sR c hc).1, (sR c hc).2⟩
    cc := fun c hc c' hc' C C' hC hC' => by rw [eR hc hC, eR hc' hC']; exact of_decide_eq_true (List.all_eq_true.mp (List.all_eq_true.mp tC c hc) c' hc')
    kit := fun T hT U hU => of_decide_eq_true (List.all_eq_true.mp (List.all_eq_true.mp k1 T hT) U hU)
    kitA := fun T hT tp ht => of_decide_eq_true (List.all_eq_true.mp (List.all_eq_true.mp k2 T hT) tp ht)
    opl := fun c hc op ho U hU => opTB_ok (gc c hc) ((sO c hc).1 op ho U hU).1
    opr := fun c hc op ho U hU => opTRB_ok (gc c hc) ((sO c hc).1 op ho U hU).2
    self := fun c hc C hC => by rw [eR hc hC]; exact (sO c hc).2.1
    eqt := fun c hc U hU C hC => by rw [eR hc hC]; exact (sO c hc).2.2.1 U hU
    eqi := fun c hc C hC => by rw [eR hc hC]; exact (sO c hc).2.2.2
    bv := v_bv X G c hP
    xf := XOk.xf (d := ⟨"BadValue", "BadValue.__init__", initBV, ["value"]⟩) (xok X G c hP) (by simp)
    nd := ⟨_, gN, e1, e2, e3, e4⟩
    exm := ⟨_, _, gB, gN, of_decide_eq_true x1, of_decide_eq_true x2, of_decide_eq_true x3⟩
    tt := trivial }
theorem law_ok (X : K.In h) (G : h.Ns mainGlobals mg) (c : SaysW fa fn xs tf tst h K) (hP : P = prg) (hT : T = (He.cT K ("_law_refusals_right", none)).2) : ∃ fd : FuncData, (∀ (s : Shared) (v : Value), BindsTo s fd ⟨[v], []⟩ [("_law_script", v)]) ∧ ∀ base : Heap, K.In base → base.Ns mainGlobals mg → LamX.TabB base mg (He.cT K ("_law_refusals_right", none)).1 T → FnOk P w K mg base (L2.CX P w) 15 (He.ga K "law") fd ["_law_script"] (spV (cfL T) K mg ctLaw) := by
  obtain ⟨fd_is_integer, F_is_integer⟩ := (c.defs (d := dF ("is_integer", none) "is_integer" "is_integer" (top 6) []) (List.mem_of_getElem? (i := 0) rfl))
  have g_is_integer : mg "is_integer" = some (.ref (He.ga K "is_integer")) := He.glo_ok X G (c.fact (f := .glo "is_integer") (List.mem_of_getElem? (i := 0) rfl))
  obtain ⟨fd_need_integer, F_need_integer⟩ := (c.defs (d := dF ("need_integer", none) "need_integer" "need_integer" (top 8) []) (List.mem_of_getElem? (i := 1) rfl))
  have g_need_integer : mg "need_integer" = some (.ref (He.ga K "need_integer")) := He.glo_ok X G (c.fact (f := .glo "need_integer") (List.mem_of_getElem? (i := 1) rfl))
  obtain ⟨fd_need_items, F_need_items⟩ := (c.defs (d := dF ("need_items", none) "need_items" "need_items" (top 10) []) (List.mem_of_getElem? (i := 2) rfl))
  have g_need_items : mg "need_items" = some (.ref (He.ga K "need_items")) := He.glo_ok X G (c.fact (f := .glo "need_items") (List.mem_of_getElem? (i := 2) rfl))
  obtain ⟨fd_common_whole, F_common_whole⟩ := (c.defs (d := dF ("common_whole", none) "common_whole" "common_whole" (top 12) []) (List.mem_of_getElem? (i := 3) rfl))
  have g_common_whole : mg "common_whole" = some (.ref (He.ga K "common_whole")) := He.glo_ok X G (c.fact (f := .glo "common_whole") (List.mem_of_getElem? (i := 3) rfl))
  obtain ⟨fd_init_ratio, F_init_ratio⟩ := (c.defs (d := dF ("Ratio", some "__init__") "__init__" "Ratio.__init__" (metRatio 0) [.int 1]) (List.mem_of_getElem? (i := 4) rfl))
  obtain ⟨fd_is_ratio, F_is_ratio⟩ := (c.defs (d := dF ("is_ratio", none) "is_ratio" "is_ratio" (top 16) []) (List.mem_of_getElem? (i := 5) rfl))
  have g_is_ratio : mg "is_ratio" = some (.ref (He.ga K "is_ratio")) := He.glo_ok X G (c.fact (f := .glo "is_ratio") (List.mem_of_getElem? (i := 4) rfl))
  obtain ⟨fd_ratio_of, F_ratio_of⟩ := (c.defs (d := dF ("ratio_of", none) "ratio_of" "ratio_of" (top 17) []) (List.mem_of_getElem? (i := 6) rfl))
  have g_ratio_of : mg "ratio_of" = some (.ref (He.ga K "ratio_of")) := He.glo_ok X G (c.fact (f := .glo "ratio_of") (List.mem_of_getElem? (i := 5) rfl))
  obtain ⟨fd_ratio_beside, F_ratio_beside⟩ := (c.defs (d := dF ("ratio_beside", none) "ratio_beside" "ratio_beside" (top 18) []) (List.mem_of_getElem? (i := 7) rfl))
  have g_ratio_beside : mg "ratio_beside" = some (.ref (He.ga K "ratio_beside")) := He.glo_ok X G (c.fact (f := .glo "ratio_beside") (List.mem_of_getElem? (i := 6) rfl))
  obtain ⟨fd_ratio_sum, F_ratio_sum⟩ := (c.defs (d := dF ("ratio_sum", none) "ratio_sum" "ratio_sum" (top 19) []) (List.mem_of_getElem? (i := 8) rfl))
  have g_ratio_sum : mg "ratio_sum" = some (.ref (He.ga K "ratio_sum")) := He.glo_ok X G (c.fact (f := .glo "ratio_sum") (List.mem_of_getElem? (i := 7) rfl))
  obtain ⟨fd_turned_over, F_turned_over⟩ := (c.defs (d := dF ("turned_over", none) "turned_over" "turned_over" (top 20) []) (List.mem_of_getElem? (i := 9) rfl))
  have g_turned_over : mg "turned_over" = some (.ref (He.ga K "turned_over")) := He.glo_ok X G (c.fact (f := .glo "turned_over") (List.mem_of_getElem? (i := 8) rfl))
  obtain ⟨fd_Ratio_add, F_Ratio_add⟩ := (c.defs (d := dF ("Ratio", some "__add__") "__add__" "Ratio.__add__" (metRatio 2) []) (List.mem_of_getElem? (i := 10) rfl))
  obtain ⟨fd_Ratio_sub, F_Ratio_sub⟩ := (c.defs (d := dF ("Ratio", some "__sub__") "__sub__" "Ratio.__sub__" (metRatio 4) []) (List.mem_of_getElem? (i := 11) rfl))
  obtain ⟨fd_Ratio_mul, F_Ratio_mul⟩ := (c.defs (d := dF ("Ratio", some "__mul__") "__mul__" "Ratio.__mul__" (metRatio 6) []) (List.mem_of_getElem? (i := 12) rfl))
  obtain ⟨fd_Ratio_eq, F_Ratio_eq⟩ := (c.defs (d := dF ("Ratio", some "__eq__") "__eq__" "Ratio.__eq__" (metRatio 1) []) (List.mem_of_getElem? (i := 13) rfl))
  obtain ⟨fd_init_poly, F_init_poly⟩ := (c.defs (d := dF ("Poly", some "__init__") "__init__" "Poly.__init__" (metPoly 0) []) (List.mem_of_getElem? (i := 14) rfl))
  obtain ⟨fd_part_at, F_part_at⟩ := (c.defs (d := dF ("part_at", none) "part_at" "part_at" (top 33) []) (List.mem_of_getElem? (i := 15) rfl))
  have g_part_at : mg "part_at" = some (.ref (He.ga K "part_at")) := He.glo_ok X G (c.fact (f := .glo "part_at") (List.mem_of_getElem? (i := 9) rfl))
  obtain ⟨fd_poly_beside, F_poly_beside⟩ := (c.defs (d := dF ("poly_beside", none) "poly_beside" "poly_beside" (top 32) []) (List.mem_of_getElem? (i := 16) rfl))
  have g_poly_beside : mg "poly_beside" = some (.ref (He.ga K "poly_beside")) := He.glo_ok X G (c.fact (f := .glo "poly_beside") (List.mem_of_getElem? (i := 10) rfl))
  obtain ⟨fd_poly_total, F_poly_total⟩ := (c.defs (d := dF ("poly_total", none) "poly_total" "poly_total" (top 35) []) (List.mem_of_getElem? (i := 17) rfl))
  have g_poly_total : mg "poly_total" = some (.ref (He.ga K "poly_total")) := He.glo_ok X G (c.fact (f := .glo "poly_total") (List.mem_of_getElem? (i := 11) rfl))
  obtain ⟨fd_Poly_sub, F_Poly_sub⟩ := (c.defs (d := dF ("Poly", some "__sub__") "__sub__" "Poly.__sub__" (metPoly 4) []) (List.mem_of_getElem? (i := 18) rfl))
  obtain ⟨fd_poly_divided, F_poly_divided⟩ := (c.defs (d := dF ("poly_divided", none) "poly_divided" "poly_divided" (top 37) []) (List.mem_of_getElem? (i := 19) rfl))
  have g_poly_divided : mg "poly_divided" = some (.ref (He.ga K "poly_divided")) := He.glo_ok X G (c.fact (f := .glo "poly_divided") (List.mem_of_getElem? (i := 12) rfl))
  obtain ⟨fd_Poly_divided, F_Poly_divided⟩ := (c.defs (d := dF ("Poly", some "divided") "divided" "Poly.divided" (metPoly 18) []) (List.mem_of_getElem? (i := 20) rfl))
  obtain ⟨fd_law_gcd, F_law_gcd⟩ := (c.defs (d := dF ("_law_gcd", none) "_law_gcd" "_law_gcd" (top 44) []) (List.mem_of_getElem? (i := 21) rfl))
  have g_law_gcd : mg "_law_gcd" = some (.ref (He.ga K "_law_gcd")) := He.glo_ok X G (c.fact (f := .glo "_law_gcd") (List.mem_of_getElem? (i := 13) rfl))
  obtain ⟨fd_law_draw, F_law_draw⟩ := (c.defs (d := dF ("_law_draw", none) "_law_draw" "_law_draw" (top 41) []) (List.mem_of_getElem? (i := 22) rfl))
  have g_law_draw : mg "_law_draw" = some (.ref (He.ga K "_law_draw")) := He.glo_ok X G (c.fact (f := .glo "_law_draw") (List.mem_of_getElem? (i := 14) rfl))
  obtain ⟨fd_law_pick, F_law_pick⟩ := (c.defs (d := dF ("_law_pick", none) "_law_pick" "_law_pick" (top 42) []) (List.mem_of_getElem? (i := 23) rfl))
  have g_law_pick : mg "_law_pick" = some (.ref (He.ga K "_law_pick")) := He.glo_ok X G (c.fact (f := .glo "_law_pick") (List.mem_of_getElem? (i := 15) rfl))
  obtain ⟨fd_law_wide, F_law_wide⟩ := (c.defs (d := dF ("_law_wide", none) "_law_wide" "_law_wide" (top 43) []) (List.mem_of_getElem? (i := 24) rfl))
  have g_law_wide : mg "_law_wide" = some (.ref (He.ga K "_law_wide")) := He.glo_ok X G (c.fact (f := .glo "_law_wide") (List.mem_of_getElem? (i := 16) rfl))
  obtain ⟨fd_law_lowest, F_law_lowest⟩ := (c.defs (d := dF ("_law_lowest", none) "_law_lowest" "_law_lowest" (top 45) []) (List.mem_of_getElem? (i := 25) rfl))
  have g_law_lowest : mg "_law_lowest" = some (.ref (He.ga K "_law_lowest")) := He.glo_ok X G (c.fact (f := .glo "_law_lowest") (List.mem_of_getElem? (i := 17) rfl))
  obtain ⟨fd_law_plus, F_law_plus⟩ := (c.defs (d := dF ("_law_plus", none) "_law_plus" "_law_plus" (top 46) []) (List.mem_of_getElem? (i := 26) rfl))
  have g_law_plus : mg "_law_plus" = some (.ref (He.ga K "_law_plus")) := He.glo_ok X G (c.fact (f := .glo "_law_plus") (List.mem_of_getElem? (i := 18) rfl))
  obtain ⟨fd_law_times, F_law_times⟩ := (c.defs (d := dF ("_law_times", none) "_law_times" "_law_times" (top 48) []) (List.mem_of_getElem? (i := 27) rfl))
  have g_law_times : mg "_law_times" = some (.ref (He.ga K "_law_times")) := He.glo_ok X G (c.fact (f := .glo "_law_times") (List.mem_of_getElem? (i := 19) rfl))
  obtain ⟨fd_law_int, F_law_int⟩ := (c.defs (d := dF ("_law_int", none) "_law_int" "_law_int" (top 50) []) (List.mem_of_getElem? (i := 28) rfl))
  have g_law_int : mg "_law_int" = some (.ref (He.ga K "_law_int")) := He.glo_ok X G (c.fact (f := .glo "_law_int") (List.mem_of_getElem? (i := 20) rfl))
  obtain ⟨fd_law_is, F_law_is⟩ := (c.defs (d := dF ("_law_is", none) "_law_is" "_law_is" (top 51) []) (List.mem_of_getElem? (i := 29) rfl))
  have g_law_is : mg "_law_is" = some (.ref (He.ga K "_law_is")) := He.glo_ok X G (c.fact (f := .glo "_law_is") (List.mem_of_getElem? (i := 21) rfl))
  obtain ⟨fd_law_alike, F_law_alike⟩ := (c.defs (d := dF ("_law_alike", none) "_law_alike" "_law_alike" (top 52) []) (List.mem_of_getElem? (i := 30) rfl))
  have g_law_alike : mg "_law_alike" = some (.ref (He.ga K "_law_alike")) := He.glo_ok X G (c.fact (f := .glo "_law_alike") (List.mem_of_getElem? (i := 22) rfl))
  obtain ⟨fd_law_few, F_law_few⟩ := (c.defs (d := dF ("_law_few", none) "_law_few" "_law_few" (top 55) []) (List.mem_of_getElem? (i := 31) rfl))
  have g_law_few : mg "_law_few" = some (.ref (He.ga K "_law_few")) := He.glo_ok X G (c.fact (f := .glo "_law_few") (List.mem_of_getElem? (i := 23) rfl))
  obtain ⟨fd_law_real, F_law_real⟩ := (c.defs (d := dF ("_law_real", none) "_law_real" "_law_real" (top 56) []) (List.mem_of_getElem? (i := 32) rfl))
  have g_law_real : mg "_law_real" = some (.ref (He.ga K "_law_real")) := He.glo_ok X G (c.fact (f := .glo "_law_real") (List.mem_of_getElem? (i := 24) rfl))
  obtain ⟨fd_law_trim, F_law_trim⟩ := (c.defs (d := dF ("_law_trim", none) "_law_trim" "_law_trim" (top 59) []) (List.mem_of_getElem? (i := 33) rfl))
  have g_law_trim : mg "_law_trim" = some (.ref (He.ga K "_law_trim")) := He.glo_ok X G (c.fact (f := .glo "_law_trim") (List.mem_of_getElem? (i := 25) rfl))
  obtain ⟨fd_law_some, F_law_some⟩ := (c.defs (d := dF ("_law_some", none) "_law_some" "_law_some" (top 57) []) (List.mem_of_getElem? (i := 34) rfl))
  have g_law_some : mg "_law_some" = some (.ref (He.ga K "_law_some")) := He.glo_ok X G (c.fact (f := .glo "_law_some") (List.mem_of_getElem? (i := 26) rfl))
  obtain ⟨fd_law_told, F_law_told⟩ := (c.defs (d := dF ("_law_told", none) "_law_told" "_law_told" (top 58) []) (List.mem_of_getElem? (i := 35) rfl))
  have g_law_told : mg "_law_told" = some (.ref (He.ga K "_law_told")) := He.glo_ok X G (c.fact (f := .glo "_law_told") (List.mem_of_getElem? (i := 27) rfl))
  obtain ⟨fd_law_at, F_law_at⟩ := (c.defs (d := dF ("_law_at", none) "_law_at" "_law_at" (top 60) []) (List.mem_of_getElem? (i := 36) rfl))
  have g_law_at : mg "_law_at" = some (.ref (He.ga K "_law_at")) := He.glo_ok X G (c.fact (f := .glo "_law_at") (List.mem_of_getElem? (i := 28) rfl))
  obtain ⟨fd_law_add, F_law_add⟩ := (c.defs (d := dF ("_law_add", none) "_law_add" "_law_add" (top 61) []) (List.mem_of_getElem? (i := 37) rfl))
  have g_law_add : mg "_law_add" = some (.ref (He.ga K "_law_add")) := He.glo_ok X G (c.fact (f := .glo "_law_add") (List.mem_of_getElem? (i := 29) rfl))
  obtain ⟨fd_law_scaled, F_law_scaled⟩ := (c.defs (d := dF ("_law_scaled", none) "_law_scaled" "_law_scaled" (top 62) []) (List.mem_of_getElem? (i := 38) rfl))
  have g_law_scaled : mg "_law_scaled" = some (.ref (He.ga K "_law_scaled")) := He.glo_ok X G (c.fact (f := .glo "_law_scaled") (List.mem_of_getElem? (i := 30) rfl))
  obtain ⟨fd_law_mul, F_law_mul⟩ := (c.defs (d := dF ("_law_mul", none) "_law_mul" "_law_mul" (top 64) []) (List.mem_of_getElem? (i := 39) rfl))
  have g_law_mul : mg "_law_mul" = some (.ref (He.ga K "_law_mul")) := He.glo_ok X G (c.fact (f := .glo "_law_mul") (List.mem_of_getElem? (i := 31) rfl))
  obtain ⟨fd_law_poly_is, F_law_poly_is⟩ := (c.defs (d := dF ("_law_poly_is", none) "_law_poly_is" "_law_poly_is" (top 65) []) (List.mem_of_getElem? (i := 40) rfl))
  have g_law_poly_is : mg "_law_poly_is" = some (.ref (He.ga K "_law_poly_is")) := He.glo_ok X G (c.fact (f := .glo "_law_poly_is") (List.mem_of_getElem? (i := 32) rfl))
  obtain ⟨fd_law_poly, F_law_poly⟩ := (c.defs (d := dF ("_law_poly", none) "_law_poly" "_law_poly" (top 66) []) (List.mem_of_getElem? (i := 41) rfl))
  have g_law_poly : mg "_law_poly" = some (.ref (He.ga K "_law_poly")) := He.glo_ok X G (c.fact (f := .glo "_law_poly") (List.mem_of_getElem? (i := 33) rfl))
  obtain ⟨fd_law_divisor, F_law_divisor⟩ := (c.defs (d := dF ("_law_divisor", none) "_law_divisor" "_law_divisor" (top 67) []) (List.mem_of_getElem? (i := 42) rfl))
  have g_law_divisor : mg "_law_divisor" = some (.ref (He.ga K "_law_divisor")) := He.glo_ok X G (c.fact (f := .glo "_law_divisor") (List.mem_of_getElem? (i := 34) rfl))
  obtain ⟨fd_law_pair_is, F_law_pair_is⟩ := (c.defs (d := dF ("_law_pair_is", none) "_law_pair_is" "_law_pair_is" (top 68) []) (List.mem_of_getElem? (i := 43) rfl))
  have g_law_pair_is : mg "_law_pair_is" = some (.ref (He.ga K "_law_pair_is")) := He.glo_ok X G (c.fact (f := .glo "_law_pair_is") (List.mem_of_getElem? (i := 35) rfl))
  obtain ⟨fd_law_one_right, F_law_one_right⟩ := (c.defs (d := dF ("_law_one_right", none) "_law_one_right" "_law_one_right" (top 69) []) (List.mem_of_getElem? (i := 44) rfl))
  have g_law_one_right : mg "_law_one_right" = some (.ref (He.ga K "_law_one_right")) := He.glo_ok X G (c.fact (f := .glo "_law_one_right") (List.mem_of_getElem? (i := 36) rfl))
  obtain ⟨fd_law_digits_right, F_law_digits_right⟩ := (c.defs (d := dF ("_law_digits_right", none) "_law_digits_right" "_law_digits_right" (top 70) []) (List.mem_of_getElem? (i := 45) rfl))
  have g_law_digits_right : mg "_law_digits_right" = some (.ref (He.ga K "_law_digits_right")) := He.glo_ok X G (c.fact (f := .glo "_law_digits_right") (List.mem_of_getElem? (i := 37) rfl))
  obtain ⟨fd_law_fault, F_law_fault⟩ := (c.defs (d := dF ("_law_fault", none) "_law_fault" "_law_fault" (top 53) []) (List.mem_of_getElem? (i := 46) rfl))
  have g_law_fault : mg "_law_fault" = some (.ref (He.ga K "_law_fault")) := He.glo_ok X G (c.fact (f := .glo "_law_fault") (List.mem_of_getElem? (i := 38) rfl))
  obtain ⟨fd_law_refused, F_law_refused⟩ := (c.defs (d := dF ("_law_refused", none) "_law_refused" "_law_refused" (top 54) []) (List.mem_of_getElem? (i := 47) rfl))
  have g_law_refused : mg "_law_refused" = some (.ref (He.ga K "_law_refused")) := He.glo_ok X G (c.fact (f := .glo "_law_refused") (List.mem_of_getElem? (i := 39) rfl))
  obtain ⟨fd_law_refusals_right, F_law_refusals_right⟩ := (c.defs (d := dF ("_law_refusals_right", none) "_law_refusals_right" "_law_refusals_right" (top 71) []) (List.mem_of_getElem? (i := 48) rfl))
  have g_law_refusals_right : mg "_law_refusals_right" = some (.ref (He.ga K "_law_refusals_right")) := He.glo_ok X G (c.fact (f := .glo "_law_refusals_right") (List.mem_of_getElem? (i := 40) rfl))
  obtain ⟨fd_law, F_law⟩ := (c.defs (d := dF ("law", none) "law" "law" (top 72) []) (List.mem_of_getElem? (i := 49) rfl))
  have g_law : mg "law" = some (.ref (He.ga K "law")) := He.glo_ok X G (c.fact (f := .glo "law") (List.mem_of_getElem? (i := 41) rfl))
  obtain ⟨fd_pen0, F_pen0⟩ := (c.defs (d := dF ("_law_pen", none) "_law_pen" "_law_pen" (top 40) []) (List.mem_of_getElem? (i := 50) rfl))
  have g_pen0 : mg "_law_pen" = some (.ref (He.ga K "_law_pen")) := He.glo_ok X G (c.fact (f := .glo "_law_pen") (List.mem_of_getElem? (i := 42) rfl))
  refine ⟨fd_law, fun s v => FunD.bindsA (ps := ["_law_script"]) F_law (fun _ _ _ _ _ _ us hl => match us, hl with | [_], _ => rfl) s [v] rfl, fun base XB GB TB0 => ?_⟩
  have Z : Fx P w K mg base T := fx X G c hP hT
  have g_cRatio : mg "Ratio" = some (.ref (He.ga K "Ratio")) := He.glo_ok X G (c.fact (f := .glo "Ratio") (List.mem_of_getElem? (i := 45) rfl))
  have cl_Ratio : Cls K (He.ga K "Ratio") := He.cls_ok (c.fact (f := .cls "Ratio") (List.mem_of_getElem? (i := 67) rfl))
  have g_cPoly : mg "Poly" = some (.ref (He.ga K "Poly")) := He.glo_ok X G (c.fact (f := .glo "Poly") (List.mem_of_getElem? (i := 46) rfl))
  have cl_Poly : Cls K (He.ga K "Poly") := He.cls_ok (c.fact (f := .cls "Poly") (List.mem_of_getElem? (i := 75) rfl))
  have B0 : VPen P w K mg base (cfL T) 1 "_law_pen" := ⟨_, _, ["_law_script"], fn_pen (nb := "begun") (nl := "left") (st := top 40) F_pen0 ⟨rfl, rfl, rfl, by decide +kernel, rfl, by decide +kernel, by decide +kernel⟩ (by decide) (by decide) (by decide) Z.m_list rfl rfl rfl, g_pen0, F_pen0.kp, (F_pen0.bindsN fun _ _ _ _ _ _ us hl => match us, hl with | [_], _ => rfl)⟩
  have V_is_integer := vfn F_is_integer (fn_is_integer (w := w) (P := P) (mg := mg) (base := base) (T := T) F_is_integer Z) g_is_integer (F_is_integer.bindsN fun _ _ _ _ _ _ us hl => match us, hl with | [_], _ => rfl)
  have V_need_integer := vfn F_need_integer (fn_need_integer (w := w) (P := P) (mg := mg) (base := base) (T := T) F_need_integer Z V_is_integer) g_need_integer (F_need_integer.bindsN fun _ _ _ _ _ _ us hl => match us, hl with | [_], _ => rfl)
  have V_need_items := vfn F_need_items (fn_need_items (w := w) (P := P) (mg := mg) (base := base) (T := T) F_need_items Z) g_need_items (F_need_items.bindsN fun _ _ _ _ _ _ us hl => match us, hl with | [_], _ => rfl)
  have V_common_whole := vfn F_common_whole (fn_common_whole (w := w) (P := P) (mg := mg) (base := base) (T := T) F_common_whole Z) g_common_whole (F_common_whole.bindsN fun _ _ _ _ _ _ us hl => match us, hl with | [_, _], _ => rfl)
  have O_Ratio := fn_init_ratio (w := w) (P := P) (mg := mg) (base := base) (T := T) F_init_ratio Z V_need_integer V_common_whole
  have MK_Ratio : Mk K (He.ga K "Ratio") (He.ma K (He.ga K "Ratio") "__init__") := He.mkr_ok (c.fact (f := .mkr "Ratio") (List.mem_of_getElem? (i := 70) rfl))
  obtain ⟨ds0, hv0, hb0⟩ := FunD.binds1 (ps := ["self", "top", "bottom"]) F_init_ratio 3 1 (by simp [He.DefD.dvs, dF]) rfl (fun T kV doc pm an cdv ct us its hu hi => match us, hu, its, hi with | [_, _, _], _, [_], _ => ⟨_, rfl, rfl⟩)
  have K_Ratio_0 : VMk P w K mg base (cfL T) 4 "Ratio" [] (ctInit) := ⟨_, _, _, _, [], ds0, g_cRatio, MK_Ratio, O_Ratio, hb0, hv0, .nil⟩
  obtain ⟨ds1, hv1, hb1⟩ := FunD.binds1 (ps := ["self", "top", "bottom"]) F_init_ratio 2 0 (by simp [He.DefD.dvs, dF]) rfl (fun T kV doc pm an cdv ct us its hu hi => match us, hu, its, hi with | [_, _], _, [_], _ => ⟨_, rfl, rfl⟩)
  have K_Ratio_1 : VMk P w K mg base (cfL T) 4 "Ratio" [.int 1] (ctInit) := ⟨_, _, _, _, [.int 1], ds1, g_cRatio, MK_Ratio, O_Ratio, hb1, hv1, .cons .int (.nil)⟩
  have V_is_ratio := vfn F_is_ratio (fn_is_ratio (w := w) (P := P) (mg := mg) (base := base) (T := T) F_is_ratio Z V_is_integer) g_is_ratio (F_is_ratio.bindsN fun _ _ _ _ _ _ us hl => match us, hl with | [_], _ => rfl)
  have V_ratio_of := vfn F_ratio_of (fn_ratio_of (w := w) (P := P) (mg := mg) (base := base) (T := T) F_ratio_of Z V_is_integer K_Ratio_1) g_ratio_of (F_ratio_of.bindsN fun _ _ _ _ _ _ us hl => match us, hl with | [_], _ => rfl)
  have V_ratio_beside := vfn F_ratio_beside (fn_ratio_beside (w := w) (P := P) (mg := mg) (base := base) (T := T) F_ratio_beside Z V_is_integer K_Ratio_1) g_ratio_beside (F_ratio_beside.bindsN fun _ _ _ _ _ _ us hl => match us, hl with | [_], _ => rfl)
  have V_ratio_sum := vfn F_ratio_sum (fn_ratio_sum (w := w) (P := P) (mg := mg) (base := base) (T := T) F_ratio_sum Z K_Ratio_0) g_ratio_sum (F_ratio_sum.bindsN fun _ _ _ _ _ _ us hl => match us, hl with | [_, _], _ => rfl)
  have V_turned_over := vfn F_turned_over (fn_turned_over (w := w) (P := P) (mg := mg) (base := base) (T := T) F_turned_over Z K_Ratio_0) g_turned_over (F_turned_over.bindsN fun _ _ _ _ _ _ us hl => match us, hl with | [_], _ => rfl)
  have M_Ratio_add := vmeth (fn_Ratio_add (w := w) (P := P) (mg := mg) (base := base) (T := T) F_Ratio_add Z V_ratio_beside V_ratio_sum) g_cRatio cl_Ratio (He.meth_ok (c.fact (f := .meth "Ratio" "__add__") (List.mem_of_getElem? (i := 71) rfl))) (F_Ratio_add.bindsN fun _ _ _ _ _ _ us hl => match us, hl with | [_, _], _ => rfl)
  have M_Ratio_sub := vmeth (fn_Ratio_sub (w := w) (P := P) (mg := mg) (base := base) (T := T) F_Ratio_sub Z V_ratio_beside V_ratio_sum K_Ratio_0) g_cRatio cl_Ratio (He.meth_ok (c.fact (f := .meth "Ratio" "__sub__") (List.mem_of_getElem? (i := 72) rfl))) (F_Ratio_sub.bindsN fun _ _ _ _ _ _ us hl => match us, hl with | [_, _], _ => rfl)
  have M_Ratio_mul := vmeth (fn_Ratio_mul (w := w) (P := P) (mg := mg) (base := base) (T := T) F_Ratio_mul Z V_ratio_beside K_Ratio_0) g_cRatio cl_Ratio (He.meth_ok (c.fact (f := .meth "Ratio" "__mul__") (List.mem_of_getElem? (i := 73) rfl))) (F_Ratio_mul.bindsN fun _ _ _ _ _ _ us hl => match us, hl with | [_, _], _ => rfl)
  have M_Ratio_eq := vmeth (fn_Ratio_eq (w := w) (P := P) (mg := mg) (base := base) (T := T) F_Ratio_eq Z) g_cRatio cl_Ratio (He.meth_ok (c.fact (f := .meth "Ratio" "__eq__") (List.mem_of_getElem? (i := 74) rfl))) (F_Ratio_eq.bindsN fun _ _ _ _ _ _ us hl => match us, hl with | [_, _], _ => rfl)
  have O_Poly := fn_init_poly (w := w) (P := P) (mg := mg) (base := base) (T := T) F_init_poly Z V_need_items V_is_ratio V_ratio_of
  have MK_Poly : Mk K (He.ga K "Poly") (He.ma K (He.ga K "Poly") "__init__") := He.mkr_ok (c.fact (f := .mkr "Poly") (List.mem_of_getElem? (i := 77) rfl))
  have K_Poly_0 : VMk P w K mg base (cfL T) 7 "Poly" [] (ctPInit) := ⟨_, _, _, _, [], [], g_cPoly, MK_Poly, O_Poly, (F_init_poly.bindsN fun _ _ _ _ _ _ us hl => match us, hl with | [_, _], _ => rfl), .nil, .nil⟩
  have V_part_at := vfn F_part_at (fn_part_at (w := w) (P := P) (mg := mg) (base := base) (T := T) F_part_at Z K_Ratio_1) g_part_at (F_part_at.bindsN fun _ _ _ _ _ _ us hl => match us, hl with | [_, _], _ => rfl)
  have V_poly_beside := vfn F_poly_beside (fn_poly_beside (w := w) (P := P) (mg := mg) (base := base) (T := T) F_poly_beside Z V_is_ratio K_Poly_0) g_poly_beside (F_poly_beside.bindsN fun _ _ _ _ _ _ us hl => match us, hl with | [_], _ => rfl)
  have V_poly_total := vfn F_poly_total (fn_poly_total (w := w) (P := P) (mg := mg) (base := base) (T := T) F_poly_total Z V_part_at K_Poly_0 M_Ratio_add M_Ratio_mul) g_poly_total (F_poly_total.bindsN fun _ _ _ _ _ _ us hl => match us, hl with | [_, _, _], _ => rfl)
  have M_Poly_sub := vmeth (fn_Poly_sub (w := w) (P := P) (mg := mg) (base := base) (T := T) F_Poly_sub Z V_poly_beside V_poly_total) g_cPoly cl_Poly (He.meth_ok (c.fact (f := .meth "Poly" "__sub__") (List.mem_of_getElem? (i := 78) rfl))) (F_Poly_sub.bindsN fun _ _ _ _ _ _ us hl => match us, hl with | [_, _], _ => rfl)
  have V_poly_divided := vfn F_poly_divided (fn_poly_divided (w := w) (P := P) (mg := mg) (base := base) (T := T) F_poly_divided Z V_turned_over K_Poly_0 M_Ratio_sub M_Ratio_mul) g_poly_divided (F_poly_divided.bindsN fun _ _ _ _ _ _ us hl => match us, hl with | [_, _], _ => rfl)
  have M_Poly_divided := vmeth (fn_Poly_divided (w := w) (P := P) (mg := mg) (base := base) (T := T) F_Poly_divided Z V_poly_divided) g_cPoly cl_Poly (He.meth_ok (c.fact (f := .meth "Poly" "divided") (List.mem_of_getElem? (i := 79) rfl))) (F_Poly_divided.bindsN fun _ _ _ _ _ _ us hl => match us, hl with | [_, _], _ => rfl)
  have V_law_gcd := vfn F_law_gcd (fn_law_gcd (w := w) (P := P) (mg := mg) (base := base) (T := T) F_law_gcd Z) g_law_gcd (F_law_gcd.bindsN fun _ _ _ _ _ _ us hl => match us, hl with | [_, _], _ => rfl)
  have V_law_draw := vfn F_law_draw (fn_law_draw (w := w) (P := P) (mg := mg) (base := base) (T := T) F_law_draw Z) g_law_draw (F_law_draw.bindsN fun _ _ _ _ _ _ us hl => match us, hl with | [_, _], _ => rfl)
  have V_law_pick := vfn F_law_pick (fn_law_pick (w := w) (P := P) (mg := mg) (base := base) (T := T) F_law_pick Z V_law_draw) g_law_pick (F_law_pick.bindsN fun _ _ _ _ _ _ us hl => match us, hl with | [_, _], _ => rfl)
  have V_law_wide := vfn F_law_wide (fn_law_wide (w := w) (P := P) (mg := mg) (base := base) (T := T) F_law_wide Z V_law_draw) g_law_wide (F_law_wide.bindsN fun _ _ _ _ _ _ us hl => match us, hl with | [_, _], _ => rfl)
  have V_law_lowest := vfn F_law_lowest (fn_law_lowest (w := w) (P := P) (mg := mg) (base := base) (T := T) F_law_lowest Z V_law_gcd) g_law_lowest (F_law_lowest.bindsN fun _ _ _ _ _ _ us hl => match us, hl with | [_, _], _ => rfl)
  have V_law_plus := vfn F_law_plus (fn_law_plus (w := w) (P := P) (mg := mg) (base := base) (T := T) F_law_plus Z V_law_lowest) g_law_plus (F_law_plus.bindsN fun _ _ _ _ _ _ us hl => match us, hl with | [_, _], _ => rfl)
  have V_law_times := vfn F_law_times (fn_law_times (w := w) (P := P) (mg := mg) (base := base) (T := T) F_law_times Z V_law_lowest) g_law_times (F_law_times.bindsN fun _ _ _ _ _ _ us hl => match us, hl with | [_, _], _ => rfl)
  have V_law_int := vfn F_law_int (fn_law_int (w := w) (P := P) (mg := mg) (base := base) (T := T) F_law_int Z) g_law_int (F_law_int.bindsN fun _ _ _ _ _ _ us hl => match us, hl with | [_, _], _ => rfl)
  have V_law_is := vfn F_law_is (fn_law_is (w := w) (P := P) (mg := mg) (base := base) (T := T) F_law_is Z V_law_int) g_law_is (F_law_is.bindsN fun _ _ _ _ _ _ us hl => match us, hl with | [_, _], _ => rfl)
  have V_law_alike := vfn F_law_alike (fn_law_alike (w := w) (P := P) (mg := mg) (base := base) (T := T) F_law_alike Z M_Ratio_eq) g_law_alike (F_law_alike.bindsN fun _ _ _ _ _ _ us hl => match us, hl with | [_, _], _ => rfl)
  have V_law_few := vfn F_law_few (fn_law_few (w := w) (P := P) (mg := mg) (base := base) (T := T) F_law_few Z V_law_draw V_law_lowest V_law_wide) g_law_few (F_law_few.bindsN fun _ _ _ _ _ _ us hl => match us, hl with | [_], _ => rfl)
  have V_law_real := vfn F_law_real (fn_law_real (w := w) (P := P) (mg := mg) (base := base) (T := T) F_law_real Z V_law_few V_law_pick) g_law_real (F_law_real.bindsN fun _ _ _ _ _ _ us hl => match us, hl with | [_], _ => rfl)
  have V_law_trim := vfn F_law_trim (fn_law_trim (w := w) (P := P) (mg := mg) (base := base) (T := T) F_law_trim Z) g_law_trim (F_law_trim.bindsN fun _ _ _ _ _ _ us hl => match us, hl with | [_], _ => rfl)
  have V_law_some := vfn F_law_some (fn_law_some (w := w) (P := P) (mg := mg) (base := base) (T := T) F_law_some Z V_law_draw V_law_few V_law_trim) g_law_some (F_law_some.bindsN fun _ _ _ _ _ _ us hl => match us, hl with | [_, _], _ => rfl)
  have V_law_told := vfn F_law_told (fn_law_told (w := w) (P := P) (mg := mg) (base := base) (T := T) F_law_told Z V_law_draw K_Ratio_0) g_law_told (F_law_told.bindsN fun _ _ _ _ _ _ us hl => match us, hl with | [_, _], _ => rfl)
  have V_law_at := vfn F_law_at (fn_law_at (w := w) (P := P) (mg := mg) (base := base) (T := T) F_law_at Z) g_law_at (F_law_at.bindsN fun _ _ _ _ _ _ us hl => match us, hl with | [_, _], _ => rfl)
  have V_law_add := vfn F_law_add (fn_law_add (w := w) (P := P) (mg := mg) (base := base) (T := T) F_law_add Z V_law_at V_law_plus V_law_trim) g_law_add (F_law_add.bindsN fun _ _ _ _ _ _ us hl => match us, hl with | [_, _], _ => rfl)
  have V_law_scaled := vfn F_law_scaled (fn_law_scaled (w := w) (P := P) (mg := mg) (base := base) (T := T) F_law_scaled Z V_law_times V_law_trim) g_law_scaled (F_law_scaled.bindsN fun _ _ _ _ _ _ us hl => match us, hl with | [_, _], _ => rfl)
  have V_law_mul := vfn F_law_mul (fn_law_mul (w := w) (P := P) (mg := mg) (base := base) (T := T) F_law_mul Z V_law_plus V_law_times V_law_trim) g_law_mul (F_law_mul.bindsN fun _ _ _ _ _ _ us hl => match us, hl with | [_, _], _ => rfl)
  have V_law_poly_is := vfn F_law_poly_is (fn_law_poly_is (w := w) (P := P) (mg := mg) (base := base) (T := T) F_law_poly_is Z V_law_is) g_law_poly_is (F_law_poly_is.bindsN fun _ _ _ _ _ _ us hl => match us, hl with | [_, _], _ => rfl)
  have V_law_poly := vfn F_law_poly (fn_law_poly (w := w) (P := P) (mg := mg) (base := base) (T := T) F_law_poly Z V_law_draw V_law_told K_Poly_0) g_law_poly (F_law_poly.bindsN fun _ _ _ _ _ _ us hl => match us, hl with | [_, _], _ => rfl)
  have V_law_divisor := vfn F_law_divisor (fn_law_divisor (w := w) (P := P) (mg := mg) (base := base) (T := T) F_law_divisor Z V_law_few V_law_real) g_law_divisor (F_law_divisor.bindsN fun _ _ _ _ _ _ us hl => match us, hl with | [_, _], _ => rfl)
  have V_law_pair_is := vfn F_law_pair_is (fn_law_pair_is (w := w) (P := P) (mg := mg) (base := base) (T := T) F_law_pair_is Z V_law_poly_is) g_law_pair_is (F_law_pair_is.bindsN fun _ _ _ _ _ _ us hl => match us, hl with | [_, _, _], _ => rfl)
  have V_law_one_right := vfn F_law_one_right (fn_law_one_right (w := w) (P := P) (mg := mg) (base := base) (T := T) F_law_one_right Z V_law_draw V_law_divisor V_law_some V_law_few V_law_trim V_law_mul V_law_add V_law_poly M_Poly_divided V_law_pair_is V_law_scaled V_law_poly_is) g_law_one_right (F_law_one_right.bindsN fun _ _ _ _ _ _ us hl => match us, hl with | [_], _ => rfl)
  have V_law_digits_right := vfn F_law_digits_right (fn_law_digits_right (w := w) (P := P) (mg := mg) (base := base) (T := T) F_law_digits_right Z V_law_draw V_law_divisor V_law_some V_law_mul V_law_add V_law_poly M_Poly_divided V_law_pair_is) g_law_digits_right (F_law_digits_right.bindsN fun _ _ _ _ _ _ us hl => match us, hl with | [_], _ => rfl)
  have V_law_fault := vfn F_law_fault (fn_law_fault (w := w) (P := P) (mg := mg) (base := base) (T := T) F_law_fault Z) g_law_fault (F_law_fault.bindsN fun _ _ _ _ _ _ us hl => match us, hl with | [_], _ => rfl)
  have V_law_refused := vfn F_law_refused (fn_law_refused (w := w) (P := P) (mg := mg) (base := base) (T := T) F_law_refused Z V_law_fault V_law_alike) g_law_refused (F_law_refused.bindsN fun _ _ _ _ _ _ us hl => match us, hl with | [_, _], _ => rfl)
  have V_law_refusals_right := vfn F_law_refusals_right (fn_law_refusals_right (w := w) (P := P) (mg := mg) (base := base) (T := T) F_law_refusals_right Z TB0 (code_of F_law_refusals_right) V_law_some V_law_poly V_law_pick K_Ratio_0 K_Poly_0 M_Poly_divided M_Poly_sub V_law_fault V_law_refused) g_law_refusals_right (F_law_refusals_right.bindsN fun _ _ _ _ _ _ us hl => match us, hl with | [_], _ => rfl)
  exact fn_law (w := w) (P := P) (mg := mg) (base := base) (T := T) F_law Z B0 V_law_one_right V_law_digits_right V_law_refusals_right

end
end My
open PySem PySem.W PySem.Calls PyProof.Rows
theorem PySem.Challenge.cw_allstreams_k06_whole_divisions_holds : PySem.Challenge.rw_allstreams_k06_whole_divisions.Holds := by
  w_on; o_law
  refine HandSHeadRun.head_any (r := My.R) (q := view My.R.prog [72]) (H := My.hk) (ob := My.ob) (M := 20000) (loose := My.loose) (d := HandSHeadRun.topDef My.R.prog 72) (kwd := []) My.ob_eq
    (by kernel_rfl) (fun s => by kernel_rfl) My.run (by kernel_rfl) (by kernel_rfl) (by kernel_rfl) (by rfl) (by first | assumption | decide +kernel) (by decide +kernel) ⟨rfl, rfl, rfl, rfl, rfl, by decide +kernel⟩ ?hw ?hc
  case hw => w_witness2
  case hc =>
    refine VL.walk_ofW (l := PySem.Challenge.rw_allstreams_k06_whole_divisions) (n := 63) (k := 15) (x := "_law_script") (CX := fun w => L2.CX PySem.Challenge.rw_allstreams_k06_whole_divisions.prog w) rfl (by decide) (by kernel_rfl) ⟨rfl, by decide, by decide⟩ ?F (fun _ _ _ _ _ ⟨_, _, _, _, _, _, _, _, _, _, _, _, z⟩ => z)
    intro w mg fa h Y G hmg0
    obtain ⟨K, KX, c⟩ := Y
    have hmg : mg ("law" : PySem.Str) = some (.ref fa) := by
      have e : (HandSHeadRun.topDef My.R.prog 72).name = ("law" : PySem.Str) := by kernel_rfl
      rw [← e]
      exact hmg0
    have g9 : mg "law" = some (.ref (He.ga K "law")) := He.glo_ok KX G (c.fact (f := .glo "law") (List.mem_of_getElem? (i := 41) rfl))
    have ef : fa = He.ga K "law" := by rw [g9] at hmg; cases hmg; rfl
    subst ef
    obtain ⟨fd, hb, hF⟩ := My.law_ok (P := PySem.Challenge.rw_allstreams_k06_whole_divisions.prog) (w := w) (T := (He.cT K ("_law_refusals_right", none)).2) KX G c rfl rfl
    refine ⟨K, fd, [He.cT K ("_law_refusals_right", none)], VL.spV (My.cfL (He.cT K ("_law_refusals_right", none)).2) K mg My.ctLaw, KX, ?t1, ?t2, ?t3, hb, fun H a ns hl hbits hT hS => ?_, fun base h1 h2 h3 => hF base h1 h2 (h3 _ (List.mem_of_getElem? (i := 0) rfl))⟩
    case t1 => exact fun p hp => (List.mem_cons.mp hp).elim (fun e => by rw [e]; exact c.empty _ (List.mem_of_getElem? (i := 0) rfl)) fun hp => nomatch hp
    case t2 => exact fun p hp => (List.mem_cons.mp hp).elim (fun e => by rw [e]; exact c.out _ (List.mem_of_getElem? (i := 0) rfl)) fun hp => nomatch hp
    case t3 => exact fun p hp => (List.mem_cons.mp hp).elim (fun e => by rw [e]; exact c.hd _ (List.mem_of_getElem? (i := 0) rfl)) fun hp => nomatch hp
    · refine VL.entryW ?t4 hS ⟨ns, rfl, rfl, fun x hx => VL.abs_bits (hbits x hx), hl, rfl⟩
      case t4 => exact fun p hp => (List.mem_cons.mp hp).elim (fun e => by rw [e]; exact hT _ (List.mem_of_getElem? (i := 0) rfl)) fun hp => nomatch hp
