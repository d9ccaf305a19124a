import PyProof.Rows.All
import HandS.ForMost
import HandS.Exc
import HandS.TryOnly
import HandS.TryMany
import HandS.ExcOwn
import HandS.WordsExc
import HandS.Flow
import HandS.Wide
import HandS.TupAny
import HandS.RaiseMore
import HandS.IsInst
import HandS.EndBits
import HandS.Codes
import PySem.Challenge.RW_noneorsome_k35_rows_that_fall
set_option Elab.async false
set_option linter.all false
set_option maxRecDepth 100000
set_option maxHeartbeats 4000000
/-! Z1: data, cells, the relation of a second layer over HandS -/
namespace Z
open PySem PySem.Spec PyProof.Rows L2

/-- plain data -/
inductive D where
  | none | bool (b : Bool) | int (i : Int) | str (s : Str)
  | lst (xs : List D) | tup (xs : List D) | dic (kvs : List (Key × D)) | dit (kvs : List (List Key × D)) | obj (c : Nat) (fs : List (Str × D))

structure Tab where
  K : PySem.W.Frag
  cls : Nat → Addr

/-- a dict that is locked while a loop walks it, unlocked -/
def unl : HO → HO
  | .frz _ (.dK kvs) => .dK kvs
  | .frz _ (.dT kvs) => .dT kvs
  | o => o
/-- the view has grown; dicts may have been locked or unlocked -/
def Mo (G G' : Hp) : Prop := ∀ a u, G a = some u → ∃ u', G' a = some u' ∧ unl u' = unl u
theorem Mo.refl (G : Hp) : Mo G G := fun _ u h => ⟨u, h, rfl⟩
theorem Mo.trans {G G1 G2 : Hp} (a : Mo G G1) (b : Mo G1 G2) : Mo G G2 := fun x u h => by
  obtain ⟨u1, h1, e1⟩ := a x u h
  obtain ⟨u2, h2, e2⟩ := b x u1 h1
  exact ⟨u2, h2, e2.trans e1⟩
theorem Mo.of {G G' : Hp} (h : Same G G') : Mo G G' := fun a u e => ⟨u, h a u e, rfl⟩
theorem unl_plain {u u' : HO} (hu : ∀ o k, u' ≠ .frz o (.dK k)) (ht : ∀ o k, u' ≠ .frz o (.dT k)) (e : unl u' = unl u) : u' = unl u := by
  rw [← e]
  cases u' with
  | frz o x => cases x with
    | dK k => exact absurd rfl (hu o k)
    | dT k => exact absurd rfl (ht o k)
    | _ => rfl
  | _ => rfl
theorem unl_lst {u' : HO} {vs : List V} (e : unl u' = .lst vs) : u' = .lst vs := by
  cases u' with
  | frz o x => cases x <;> first | exact e | cases e
  | _ => exact e
theorem unl_tup {u' : HO} {vs : List V} (e : unl u' = .tup vs) : u' = .tup vs := by
  cases u' with
  | frz o x => cases x <;> first | exact e | cases e
  | _ => exact e
theorem unl_ins {u' : HO} {C dx : Addr} {vs : List (Str × V)} (e : unl u' = .ins C dx vs) : u' = .ins C dx vs := by
  cases u' with
  | frz o x => cases x <;> first | exact e | cases e
  | _ => exact e
theorem unl_xd {u' : HO} {vs : List (Str × V)} (e : unl u' = .xd vs) : u' = .xd vs := by
  cases u' with
  | frz o x => cases x <;> first | exact e | cases e
  | _ => exact e
theorem unl_frzL {u' : HO} {o : Obj} {vs : List V} (e : unl u' = .frz o (.lst vs)) : u' = .frz o (.lst vs) := by
  cases u' with
  | frz o x => cases x <;> first | exact e | cases e
  | _ => exact e
theorem unl_frzT {u' : HO} {o : Obj} {vs : List V} (e : unl u' = .frz o (.tup vs)) : u' = .frz o (.tup vs) := by
  cases u' with
  | frz o x => cases x <;> first | exact e | cases e
  | _ => exact e
theorem Mo.lst {G G' : Hp} (m : Mo G G') {a : Addr} {vs : List V} (h : G a = some (.lst vs)) : G' a = some (.lst vs) := by
  obtain ⟨u, h1, e⟩ := m _ _ h
  rw [h1, unl_lst e]
theorem Mo.ins {G G' : Hp} (m : Mo G G') {a C dx : Addr} {vs : List (Str × V)} (h : G a = some (.ins C dx vs)) : G' a = some (.ins C dx vs) := by
  obtain ⟨u, h1, e⟩ := m _ _ h
  rw [h1, unl_ins e]
theorem Mo.xd {G G' : Hp} (m : Mo G G') {a : Addr} {vs : List (Str × V)} (h : G a = some (.xd vs)) : G' a = some (.xd vs) := by
  obtain ⟨u, h1, e⟩ := m _ _ h
  rw [h1, unl_xd e]
theorem Mo.seqL {K : PySem.W.Frag} {G G' : Hp} (m : Mo G G') {a : Addr} {vs : List V} (h : SqL K G a vs) : SqL K G' a vs := by
  rcases h with (h | ⟨o, h⟩) | h
  · exact .inl (.inl (m.lst h))
  · obtain ⟨u, h1, e⟩ := m _ _ h
    exact .inl (.inr ⟨o, by rw [h1, unl_frzL e]⟩)
  · exact .inr h
theorem Mo.seqT {K : PySem.W.Frag} {G G' : Hp} (m : Mo G G') {a : Addr} {vs : List V} (h : SqT K G a vs) : SqT K G' a vs := by
  rcases h with (h | ⟨o, h⟩) | h
  · obtain ⟨u, h1, e⟩ := m _ _ h
    exact .inl (.inl (by rw [h1, unl_tup e]))
  · obtain ⟨u, h1, e⟩ := m _ _ h
    exact .inl (.inr ⟨o, by rw [h1, unl_frzT e]⟩)
  · exact .inr h

mutual
def Rp (T : Tab) (G : Hp) : D → V → Prop
  | .none, v => v = .non
  | .bool b, v => v = .bl b
  | .int i, v => v = .int i
  | .str s, v => v = .str s ∧ s.length ≤ sizeLine
  | .lst xs, v => ∃ a vs, v = .ref a ∧ G a = some (.lst vs) ∧ RpL T G xs vs
  | .tup xs, v => ∃ a vs, v = .ref a ∧ SqT T.K G a vs ∧ RpL T G xs vs
  | .dic kvs, v => ∃ a o vs, v = .ref a ∧ G a = some o ∧ unl o = .dK vs ∧ RpK T G kvs vs
  | .dit kvs, v => ∃ a o vs, v = .ref a ∧ G a = some o ∧ unl o = .dT vs ∧ RpT T G kvs vs
  | .obj c fs, v => ∃ a dx vs, v = .ref a ∧ G a = some (.ins (T.cls c) dx vs) ∧ RpF T G fs vs
def RpL (T : Tab) (G : Hp) : List D → List V → Prop
  | [], vs => vs = []
  | d :: ds, vs => ∃ v r, vs = v :: r ∧ Rp T G d v ∧ RpL T G ds r
def RpK (T : Tab) (G : Hp) : List (Key × D) → List (Key × V) → Prop
  | [], vs => vs = []
  | (k, d) :: ds, vs => ∃ v r, vs = (k, v) :: r ∧ Rp T G d v ∧ RpK T G ds r
def RpT (T : Tab) (G : Hp) : List (List Key × D) → List (List Key × V) → Prop
  | [], vs => vs = []
  | (k, d) :: ds, vs => ∃ v r, vs = (k, v) :: r ∧ Rp T G d v ∧ RpT T G ds r
def RpF (T : Tab) (G : Hp) : List (Str × D) → List (Str × V) → Prop
  | [], vs => vs = []
  | (k, d) :: ds, vs => ∃ v r, vs = (k, v) :: r ∧ Rp T G d v ∧ RpF T G ds r
end

section
variable {T : Tab} {G G' : Hp}
mutual
theorem Rp.mono (e : Mo G G') : ∀ (d : D) (v : V), Rp T G d v → Rp T G' d v
  | .none, _, h => h
  | .bool _, _, h => h
  | .int _, _, h => h
  | .str _, _, h => h
  | .lst xs, _, ⟨a, vs, e1, e2, h⟩ => ⟨a, vs, e1, e.lst e2, RpL.mono e xs vs h⟩
  | .tup xs, _, ⟨a, vs, e1, e2, h⟩ => ⟨a, vs, e1, e.seqT e2, RpL.mono e xs vs h⟩
  | .dic xs, _, ⟨a, o, vs, e1, e2, e3, h⟩ => by
    obtain ⟨u, h1, h2⟩ := e _ _ e2
    exact ⟨a, u, vs, e1, h1, h2.trans e3, RpK.mono e xs vs h⟩
  | .dit xs, _, ⟨a, o, vs, e1, e2, e3, h⟩ => by
    obtain ⟨u, h1, h2⟩ := e _ _ e2
    exact ⟨a, u, vs, e1, h1, h2.trans e3, RpT.mono e xs vs h⟩
  | .obj c xs, _, ⟨a, dx, vs, e1, e2, h⟩ => ⟨a, dx, vs, e1, e.ins e2, RpF.mono e xs vs h⟩
theorem RpL.mono (e : Mo G G') : ∀ (d : List D) (v : List V), RpL T G d v → RpL T G' d v
  | [], _, h => h
  | d :: ds, _, ⟨v, r, e1, h, t⟩ => ⟨v, r, e1, Rp.mono e d v h, RpL.mono e ds r t⟩
theorem RpK.mono (e : Mo G G') : ∀ (d : List (Key × D)) (v : List (Key × V)), RpK T G d v → RpK T G' d v
  | [], _, h => h
  | (_, d) :: ds, _, ⟨v, r, e1, h, t⟩ => ⟨v, r, e1, Rp.mono e d v h, RpK.mono e ds r t⟩
theorem RpT.mono (e : Mo G G') : ∀ (d : List (List Key × D)) (v : List (List Key × V)), RpT T G d v → RpT T G' d v
  | [], _, h => h
  | (_, d) :: ds, _, ⟨v, r, e1, h, t⟩ => ⟨v, r, e1, Rp.mono e d v h, RpT.mono e ds r t⟩
theorem RpF.mono (e : Mo G G') : ∀ (d : List (Str × D)) (v : List (Str × V)), RpF T G d v → RpF T G' d v
  | [], _, h => h
  | (_, d) :: ds, _, ⟨v, r, e1, h, t⟩ => ⟨v, r, e1, Rp.mono e d v h, RpF.mono e ds r t⟩
end
end

/-- a value of the second layer: data, a cell that may change, a list that is only read -/
inductive W where
  | d (x : D) | c (a : Addr) | r (xs : List D)
def RW (T : Tab) (G : Hp) : W → V → Prop
  | .d x, v => Rp T G x v
  | .c a, v => v = .ref a
  | .r xs, v => ∃ a vs, v = .ref a ∧ SqL T.K G a vs ∧ RpL T G xs vs
theorem RW.mono {T : Tab} {G G' : Hp} (e : Mo G G') : ∀ {w : W} {v : V}, RW T G w v → RW T G' w v
  | .d x, v, h => Rp.mono e x v h
  | .c _, _, h => h
  | .r xs, _, ⟨a, vs, h1, h2, h3⟩ => ⟨a, vs, h1, e.seqL h2, RpL.mono e xs vs h3⟩
abbrev RWs (T : Tab) (G : Hp) : List W → List V → Prop := Paired (RW T G)
def RWo (T : Tab) (G : Hp) : Option W → Option V → Prop
  | none, _ => True
  | some w, some v => RW T G w v
  | some _, none => False
abbrev St2 := List (Option W)
abbrev RS (T : Tab) (G : Hp) : St2 → L2.St → Prop := Paired (RWo T G)
theorem RWs.mono {T : Tab} {G G' : Hp} (e : Mo G G') {ws : List W} {vs : List V} (h : RWs T G ws vs) : RWs T G' ws vs := Paired.mapP h fun _ _ x => RW.mono e x
theorem RS.mono {T : Tab} {G G' : Hp} (e : Mo G G') {ws : St2} {vs : L2.St} (h : RS T G ws vs) : RS T G' ws vs := Paired.mapP h fun a b x => by
  cases a with
  | none => trivial
  | some w => cases b with
    | none => exact x
    | some v => exact RW.mono (w := w) e x
abbrev RKs {κ : Type} (T : Tab) (G : Hp) : List (κ × W) → List (κ × V) → Prop := Paired fun p q => p.1 = q.1 ∧ RW T G p.2 q.2
theorem RKs.mono {κ : Type} {T : Tab} {G G' : Hp} (e : Mo G G') {ws : List (κ × W)} {vs : List (κ × V)} (h : RKs T G ws vs) : RKs T G' ws vs := Paired.mapP h fun _ _ x => ⟨x.1, RW.mono e x.2⟩
/-- what stands in a cell -/
inductive Cl where
  | lst (ws : List W) | dic (lk : Bool) (kvs : List (Key × W)) | dit (lk : Bool) (kvs : List (List Key × W)) | ins (c : Nat) (dx : Addr) (fs : List (Str × W))
def RC (T : Tab) (G : Hp) : Cl → HO → Prop
  | .lst ws, o => ∃ vs, o = .lst vs ∧ RWs T G ws vs
  | .dic lk ws, o => ∃ vs, (if lk then ∃ ob, o = .frz ob (.dK vs) else o = .dK vs) ∧ RKs T G ws vs
  | .dit lk ws, o => ∃ vs, (if lk then ∃ ob, o = .frz ob (.dT vs) else o = .dT vs) ∧ RKs T G ws vs
  | .ins c dx ws, o => ∃ vs, o = .ins (T.cls c) dx vs ∧ RKs T G ws vs
theorem RC.mono {T : Tab} {G G' : Hp} (e : Mo G G') : ∀ {c : Cl} {o : HO}, RC T G c o → RC T G' c o
  | .lst _, _, ⟨vs, h1, h2⟩ => ⟨vs, h1, h2.mono e⟩
  | .dic _ _, _, ⟨vs, h1, h2⟩ => ⟨vs, h1, h2.mono e⟩
  | .dit _ _, _, ⟨vs, h1, h2⟩ => ⟨vs, h1, h2.mono e⟩
  | .ins _ _ _, _, ⟨vs, h1, h2⟩ => ⟨vs, h1, h2.mono e⟩
abbrev Mp := Addr → Option Cl
def put (M : Mp) (a : Addr) (c : Cl) : Mp := fun b => if b = a then some c else M b
def del (M : Mp) (a : Addr) : Mp := fun b => if b = a then none else M b
theorem put_same {M : Mp} {a : Addr} {c : Cl} : put M a c a = some c := if_pos rfl
theorem put_ne {M : Mp} {a b : Addr} {c : Cl} (h : b ≠ a) : put M a c b = M b := if_neg h
theorem del_same {M : Mp} {a : Addr} : del M a a = none := if_pos rfl
theorem del_ne {M : Mp} {a b : Addr} (h : b ≠ a) : del M a b = M b := if_neg h

structure SR (T : Tab) (G H : Hp) (M : Mp) : Prop where
  le : Same G H
  ce : ∀ a c, M a = some c → G a = none ∧ ∃ o, H a = some o ∧ RC T G c o
section
variable {T : Tab} {G G' H H' : Hp} {M : Mp} {p a : Addr} {o : HO} {c : Cl}
theorem same_new (h : H p = none) : Same H (upd H p o) := fun b x e => by
  rw [upd_ne (ne_of_none e h)]; exact e
theorem SR.free (s : SR T G H M) (h : H p = none) : G p = none := s.le.free h
theorem SR.freeM (s : SR T G H M) (h : H p = none) : M p = none := by
  cases e : M p with
  | none => rfl
  | some c => obtain ⟨_, o, q, _⟩ := s.ce p c e; rw [h] at q; cases q
/-- a new object that never changes -/
theorem SR.laid (s : SR T G H M) (h : H p = none) : SR T (upd G p o) (upd H p o) M := by
  have g : G p = none := s.free h
  refine ⟨fun b x e => ?_, fun b x e => ?_⟩
  · by_cases hb : b = p
    · subst hb; rw [upd_same] at e ⊢; exact e
    · rw [upd_ne hb] at e ⊢; exact s.le _ _ e
  · obtain ⟨g1, o1, h1, r1⟩ := s.ce b x e
    have hb : b ≠ p := ne_of_none h1 h
    exact ⟨by rw [upd_ne hb]; exact g1, o1, by rw [upd_ne hb]; exact h1, r1.mono (Mo.of (same_new g))⟩
/-- a new cell -/
theorem SR.cell (s : SR T G H M) (h : H p = none) (r : RC T G c o) : SR T G (upd H p o) (put M p c) := by
  have g : G p = none := s.free h
  refine ⟨s.le.trans (same_new h), fun b x e => ?_⟩
  by_cases hb : b = p
  · subst hb; rw [put_same] at e; cases e; exact ⟨g, o, upd_same, r⟩
  · rw [put_ne hb] at e
    obtain ⟨g1, o1, h1, r1⟩ := s.ce b x e
    exact ⟨g1, o1, by rw [upd_ne hb]; exact h1, r1⟩
/-- a cell is written -/
theorem SR.write (s : SR T G H M) {c0 : Cl} (h : M a = some c0) (r : RC T G c o) : SR T G (upd H a o) (put M a c) := by
  obtain ⟨g, _⟩ := s.ce a c0 h
  refine ⟨fun b x e => ?_, fun b x e => ?_⟩
  · rw [upd_ne (ne_of_none e g)]; exact s.le _ _ e
  · by_cases hb : b = a
    · subst hb; rw [put_same] at e; cases e; exact ⟨g, o, upd_same, r⟩
    · rw [put_ne hb] at e
      obtain ⟨g1, o1, h1, r1⟩ := s.ce b x e
      exact ⟨g1, o1, by rw [upd_ne hb]; exact h1, r1⟩
theorem SR.drop (s : SR T G H M) : SR T G H (del M a) := ⟨s.le, fun b x e => by
  by_cases hb : b = a
  · subst hb; rw [del_same] at e; cases e
  · rw [del_ne hb] at e; exact s.ce b x e⟩
/-- a cell is frozen -/
theorem SR.freeze (s : SR T G H M) {c0 : Cl} (h : M a = some c0) (ho : H a = some o) : SR T (upd G a o) H (del M a) := by
  obtain ⟨g, _⟩ := s.ce a c0 h
  refine ⟨fun b x e => ?_, fun b x e => ?_⟩
  · by_cases hb : b = a
    · subst hb; rw [upd_same] at e; cases e; exact ho
    · rw [upd_ne hb] at e; exact s.le _ _ e
  · by_cases hb : b = a
    · subst hb; rw [del_same] at e; cases e
    · rw [del_ne hb] at e
      obtain ⟨g1, o1, h1, r1⟩ := s.ce b x e
      exact ⟨by rw [upd_ne hb]; exact g1, o1, h1, r1.mono (Mo.of (same_new g))⟩
end

/-- an exception: its class, its fields -/
structure XV where
  c : Value
  fs : List (Str × W)
def RX (T : Tab) (G : Hp) (x : XV) (cls : Value) (d : Option Addr) : Prop := cls = x.c ∧ ∃ vs, RKs T G x.fs vs ∧ (x.fs = [] ∨ ∃ dd, d = some dd ∧ G dd = some (.xd vs))
theorem RX.mono {T : Tab} {G G' : Hp} (e : Mo G G') {x : XV} {cls : Value} {d : Option Addr} (h : RX T G x cls d) : RX T G' x cls d := by
  obtain ⟨h1, vs, h2, h3⟩ := h
  refine ⟨h1, vs, h2.mono e, ?_⟩
  rcases h3 with h3 | ⟨dd, e1, e2⟩
  · exact .inl h3
  · exact .inr ⟨dd, e1, e.xd e2⟩

abbrev VK2 := W → Mp → Prop
abbrev XK2 := XV → Mp → Prop
abbrev TE2 := St2 → Mp → VK2 → XK2 → Prop
abbrev TT2 := St2 → Mp → (Bool → Mp → Prop) → XK2 → Prop
abbrev TA2 := St2 → Mp → (List W → Mp → Prop) → XK2 → Prop
abbrev R22 := W → W → Mp → VK2 → XK2 → Prop
abbrev RA2 := List W → Mp → VK2 → XK2 → Prop
structure Ends2 where
  nx : St2 → Mp → Prop
  rt : W → Mp → Prop
  bk : St2 → Mp → Prop
  ct : St2 → Mp → Prop
  ex : XV → St2 → Mp → Prop
abbrev TS2 := Ends2 → St2 → Mp → Prop

section
variable (T : Tab) (Wx : WX)
/-- what follows, told below -/
def PQ (G : Hp) (Q2 : VK2) (Q1 : VK) : Prop := ∀ w M' G' H' v, Mo G G' → SR T G' H' M' → RW T G' w v → Q2 w M' → Q1 v H'
def PB (G : Hp) (Q2 : Bool → Mp → Prop) (Q1 : Bool → Hp → Prop) : Prop := ∀ b M' G' H', Mo G G' → SR T G' H' M' → Q2 b M' → Q1 b H'
def PL (G : Hp) (Q2 : List W → Mp → Prop) (Q1 : List V → Hp → Prop) : Prop := ∀ ws M' G' H' vs, Mo G G' → SR T G' H' M' → RWs T G' ws vs → Q2 ws M' → Q1 vs H'
def PX (G : Hp) (σ1 : L2.St) (E2 : XK2) : Prop := ∀ x M' G' H' cls d, Mo G G' → SR T G' H' M' → RX T G' x cls d → E2 x M' → Wx cls d σ1 H'
def lowE (t : TE2) : TE := fun σ1 H Q1 => ∃ G σ2 M Q2 E2, SR T G H M ∧ RS T G σ2 σ1 ∧ t σ2 M Q2 E2 ∧ PQ T G Q2 Q1 ∧ PX T Wx G σ1 E2
def lowT (t : TT2) : TT := fun σ1 H Q1 => ∃ G σ2 M Q2 E2, SR T G H M ∧ RS T G σ2 σ1 ∧ t σ2 M Q2 E2 ∧ PB T G Q2 Q1 ∧ PX T Wx G σ1 E2
def lowA (t : TA2) : TA := fun σ1 H Q1 => ∃ G σ2 M Q2 E2, SR T G H M ∧ RS T G σ2 σ1 ∧ t σ2 M Q2 E2 ∧ PL T G Q2 Q1 ∧ PX T Wx G σ1 E2
structure PD (G : Hp) (D2 : Ends2) (D1 : Ends) : Prop where
  nx : ∀ σ2 M' G' H' σ1, Mo G G' → SR T G' H' M' → RS T G' σ2 σ1 → D2.nx σ2 M' → D1.nx σ1 H'
  rt : PQ T G D2.rt D1.rt
  bk : ∀ σ2 M' G' H' σ1, Mo G G' → SR T G' H' M' → RS T G' σ2 σ1 → D2.bk σ2 M' → D1.bk σ1 H'
  ct : ∀ σ2 M' G' H' σ1, Mo G G' → SR T G' H' M' → RS T G' σ2 σ1 → D2.ct σ2 M' → D1.ct σ1 H'
  ex : ∀ x σ2 M' G' H' σ1 cls d, Mo G G' → SR T G' H' M' → RS T G' σ2 σ1 → RX T G' x cls d → D2.ex x σ2 M' → Wx cls d σ1 H'
def lowS (t : TS2) : TS := fun D1 σ1 H => ∃ G σ2 M D2, SR T G H M ∧ RS T G σ2 σ1 ∧ t D2 σ2 M ∧ PD T Wx G D2 D1
end
section
variable {T : Tab} {Wx : WX} {G G' : Hp}
theorem PQ.mono {Q2 : VK2} {Q1 : VK} (e : Mo G G') (h : PQ T G Q2 Q1) : PQ T G' Q2 Q1 := fun w M' G'' H' v a b c d => h w M' G'' H' v (e.trans a) b c d
theorem PX.mono {σ1 : L2.St} {E2 : XK2} (e : Mo G G') (h : PX T Wx G σ1 E2) : PX T Wx G' σ1 E2 := fun w M' G'' H' v u a b c d => h w M' G'' H' v u (e.trans a) b c d
theorem PB.mono {Q2 : Bool → Mp → Prop} {Q1 : Bool → Hp → Prop} (e : Mo G G') (h : PB T G Q2 Q1) : PB T G' Q2 Q1 := fun w M' G'' H' a b c => h w M' G'' H' (e.trans a) b c
theorem PL.mono {Q2 : List W → Mp → Prop} {Q1 : List V → Hp → Prop} (e : Mo G G') (h : PL T G Q2 Q1) : PL T G' Q2 Q1 := fun w M' G'' H' v a b c d => h w M' G'' H' v (e.trans a) b c d
theorem PD.mono {D2 : Ends2} {D1 : Ends} (e : Mo G G') (h : PD T Wx G D2 D1) : PD T Wx G' D2 D1 :=
  ⟨fun a b c d f g => h.nx a b c d f (e.trans g), h.rt.mono e, fun a b c d f g => h.bk a b c d f (e.trans g), fun a b c d f g => h.ct a b c d f (e.trans g), fun x a b c d f cl dd g => h.ex x a b c d f cl dd (e.trans g)⟩
end

section
variable {X : Cx} {T : Tab} {Wx : WX}
theorem _root_.L2.PE.imp {e : Expr} {t t' : TE} (h : PE X e t) (i : ∀ σ H Q, t' σ H Q → t σ H Q) : PE X e t' := ⟨fun pins s σ H Q I q => h.run pins s σ H Q I (i _ _ _ q)⟩
theorem _root_.L2.PT.imp {e : Expr} {t t' : TT} (h : PT X e t) (i : ∀ σ H Q, t' σ H Q → t σ H Q) : PT X e t' := ⟨fun pins s σ H Q I q => h.run pins s σ H Q I (i _ _ _ q)⟩
theorem _root_.L2.PW.imp {e : Expr} {t t' : TT} (h : PW X e t) (i : ∀ σ H Q, t' σ H Q → t σ H Q) : PW X e t' := ⟨fun wh pins s σ H Q I q => h.run wh pins s σ H Q I (i _ _ _ q)⟩
theorem _root_.L2.PA.imp {e : List Expr} {t t' : TA} (h : PA X e t) (i : ∀ σ H Q, t' σ H Q → t σ H Q) : PA X e t' := ⟨fun pos pins s σ H Q I q => h.run pos pins s σ H Q I (i _ _ _ q)⟩
theorem _root_.L2.PS.imp {e : Stmt} {t t' : TS} (h : PS X e t) (i : ∀ D σ H, t' D σ H → t D σ H) : PS X e t' := ⟨fun pins s σ H D I q => h.run pins s σ H D I (i _ _ _ q)⟩
theorem _root_.L2.PSs.imp {e : List Stmt} {t t' : TS} (h : PSs X e t) (i : ∀ D σ H, t' D σ H → t D σ H) : PSs X e t' := ⟨fun pins s σ H D I q => h.run pins s σ H D I (i _ _ _ q)⟩
theorem _root_.L2.OpR.imp {f : Value → Value → Sem Value} {r r' : R2} (h : OpR X f r) (i : ∀ x y H Q, r' x y H Q → r x y H Q) : OpR X f r' :=
  fun pins s σ H x y u v Q I rx ry q => h pins s σ H x y u v Q I rx ry (i _ _ _ _ q)
theorem _root_.L2.CallR.imp {f : Value} {r r' : List V → Hp → VK → Prop} (h : CallR X f r) (i : ∀ x H Q, r' x H Q → r x H Q) : CallR X f r' :=
  fun pins s σ H x u Q I rx q => h pins s σ H x u Q I rx (i _ _ _ q)
end
end Z
set_option maxHeartbeats 4000000
/-! Z2: rules of expressions -/
namespace Z
open PySem PySem.Spec PyProof.Rows L2

/-- where code stands: what every rule wants of the context -/
structure Ctx (T : Tab) (k : Nat) (N : List Str) (mg : Str → Option Value) (X : Cx) (Wx : WX) (sc : Scope) : Prop where
  eK : X.K = T.K
  eM : X.mg = mg
  room : Room k X.A
  gd : X.A.guards = some []
  calm : X.calm = true
  tk : Takes X Wx
  eN : X.N = N
  nd : N.Nodup
  eS : X.env.scope = sc

section
variable {X : Cx} {T : Tab} {Wx : WX} {k : Nat} {N : List Str} {mg : Str → Option Value} {sc : Scope}

/-! ### names, constants -/
def wVar (i : Nat) : TE2 := fun σ M Q _ => ∃ w, σ[i]? = some (some w) ∧ Q w M
def wC (x : D) : TE2 := fun _ M Q _ => Q (.d x) M
theorem RS.get {G : Hp} {σ2 : St2} {σ1 : L2.St} (r : RS T G σ2 σ1) {i : Nat} {w : W} (h : σ2[i]? = some (some w)) : ∃ v, σ1[i]? = some (some v) ∧ RW T G w v := by
  induction r generalizing i with
  | nil => simp at h
  | cons a t ih =>
    rename_i x y _ _
    cases i with
    | zero =>
      simp at h
      subst h
      cases y with
      | none => exact (show False from a).elim
      | some v => exact ⟨v, by simp, a⟩
    | succ i =>
      simp at h
      obtain ⟨v, h1, h2⟩ := ih h
      exact ⟨v, by simpa using h1, h2⟩
theorem e_var {i : Nat} {x : Str} {pos : Pos} (h : PE X (.Name x pos) (tVar i)) : PE X (.Name x pos) (lowE T Wx (wVar i)) := h.imp fun σ H Q q => by
  obtain ⟨G, σ2, M, Q2, E2, sr, rs, ⟨w, hw, q2⟩, pq, px⟩ := q
  obtain ⟨v, h1, h2⟩ := RS.get rs hw
  exact ⟨v, h1, pq w M G H v (Mo.refl _) sr h2 q2⟩
theorem e_c {e : Expr} {x : D} {v : V} (h : PE X e (tC v)) (r : ∀ G, Rp T G x v) : PE X e (lowE T Wx (wC x)) := h.imp fun σ H Q q => by
  obtain ⟨G, σ2, M, Q2, E2, sr, rs, q2, pq, px⟩ := q
  exact pq (.d x) M G H v (Mo.refl _) sr (r G) q2

/-! ### two operands -/
/-- the reading of an operator, below; σ: the slots, for what is raised -/
def lowR (T : Tab) (Wx : WX) (r : R22) (σ1 : L2.St) : R2 := fun x y H Q1 => ∃ G wx wy M Q2 E2, SR T G H M ∧ RW T G wx x ∧ RW T G wy y ∧ r wx wy M Q2 E2 ∧ PQ T G Q2 Q1 ∧ PX T Wx G σ1 E2
def Op2 (X : Cx) (T : Tab) (Wx : WX) (f : Value → Value → Sem Value) (r : R22) : Prop :=
  ∀ (pins : List (Addr × Obj)) (s : Shared) (σ : L2.St) (H : Hp) (x y : V) (v u : Value) (Q : VK), Inv X pins σ H s → RelV x v → RelV y u → lowR T Wx r σ x y H Q →
    wpAny (model X.prog X.w) X.A (f v u) (EP X pins σ Q) X.xe s
theorem Op2.of {f : Value → Value → Sem Value} {r : R22} {r1 : R2} (h : OpR X f r1) (i : ∀ σ x y H Q, lowR T Wx r σ x y H Q → r1 x y H Q) : Op2 X T Wx f r :=
  fun pins s σ H x y v u Q I rx ry q => h pins s σ H x y v u Q I rx ry (i _ _ _ _ _ q)
def wBin (r : R22) (ta tb : TE2) : TE2 := fun σ M Q E => ta σ M (fun x M1 => tb σ M1 (fun y M2 => r x y M2 Q E) E) E
/-- both operands, below -/
theorem low_bin {r : R22} {ta tb : TE2} {σ : L2.St} {H : Hp} {Q : VK} (h : lowE T Wx (wBin r ta tb) σ H Q) : lowE T Wx ta σ H fun x H1 => lowE T Wx tb σ H1 fun y H2 => lowR T Wx r σ x y H2 Q := by
  obtain ⟨G, σ2, M, Q2, E2, sr, rs, q2, pq, px⟩ := h
  refine ⟨G, σ2, M, _, E2, sr, rs, q2, fun wx M1 G1 H1 x m1 sr1 rx q3 => ?_, px⟩
  refine ⟨G1, σ2, M1, _, E2, sr1, rs.mono m1, q3, fun wy M2 G2 H2 y m2 sr2 ry q4 => ?_, px.mono m1⟩
  exact ⟨G2, wx, wy, M2, Q2, E2, sr2, rx.mono m2, ry, q4, pq.mono (m1.trans m2), px.mono (m1.trans m2)⟩
variable {a b : Expr} {ta tb tc : TE2} {pos : Pos}
theorem e_bin {op : Operator} {r : R22} (ho : Op2 X T Wx (binaryOp op) r) (ha : PE X a (lowE T Wx ta)) (hb : PE X b (lowE T Wx tb)) : PE X (.BinOp a op b pos) (lowE T Wx (wBin r ta tb)) := by
  refine ⟨fun pins s σ H Q I h => ?_⟩
  exact wpAny_BinOp (bin ha hb I (low_bin h) fun v u s2 x y H2 I2 rx ry q => ho pins s2 σ H2 x y v u Q I2 rx ry q)
theorem e_cmp {op : CmpOp} {r : R22} (ho : Op2 X T Wx (compareOp op) r) (ha : PE X a (lowE T Wx ta)) (hb : PE X b (lowE T Wx tb)) (hm : behindInMarks op b = false) : PE X (.Compare a [op] [b] pos) (lowE T Wx (wBin r ta tb)) := by
  refine ⟨fun pins s σ H Q I h => ?_⟩
  exact wpAny_Compare1 (bin ha hb I (low_bin h) fun v u s2 x y H2 I2 rx ry q => ho pins s2 σ H2 x y v u Q I2 rx ry q) hm
/-- a test by a comparison -/
def wT (t : TE2) : TT2 := fun σ M Q E => t σ M (fun x M1 => ∃ b, x = .d (.bool b) ∧ Q b M1) E
theorem low_T {t : TE2} {σ : L2.St} {H : Hp} {Q : Bool → Hp → Prop} (h : lowT T Wx (wT t) σ H Q) : lowE T Wx t σ H fun x H1 => ∃ b, x = .bl b ∧ Q b H1 := by
  obtain ⟨G, σ2, M, Q2, E2, sr, rs, q2, pq, px⟩ := h
  refine ⟨G, σ2, M, _, E2, sr, rs, q2, fun wx M1 G1 H1 x m1 sr1 rx q3 => ?_, px⟩
  obtain ⟨b, rfl, q3⟩ := q3
  exact ⟨b, rx, pq b M1 G1 H1 m1 sr1 q3⟩
theorem t_cmp {op : CmpOp} {r : R22} (ho : Op2 X T Wx (compareOp op) r) (ha : PE X a (lowE T Wx ta)) (hb : PE X b (lowE T Wx tb)) (hm : behindInMarks op b = false) : PT X (.Compare a [op] [b] pos) (lowT T Wx (wT (wBin r ta tb))) := by
  refine ⟨fun pins s σ H Q I h => ?_⟩
  refine wpAny_isTrue_Compare1 (bin ha hb I (low_bin (low_T h)) fun v u s2 x y H2 I2 rx ry q => ?_) hm
  refine thn (ho pins s2 σ H2 x y v u _ I2 rx ry q) fun c s3 ⟨z, H3, I3, r3, d, e, q3⟩ => ?_
  subst e
  cases r3
  exact wpAny_truthy_bool ⟨H3, I3, q3⟩
/-- a op b op' c -/
def wChain (r r' : R22) (ta tb tc : TE2) : TE2 := fun σ M Q E => ta σ M (fun x M1 => tb σ M1 (fun y M2 => r x y M2 (fun z M3 => ∃ b, z = .d (.bool b) ∧ if b = true then tc σ M3 (fun w M4 => r' y w M4 Q E) E else Q (.d (.bool false)) M3) E) E) E
theorem low_chain {r r' : R22} {σ : L2.St} {H : Hp} {Q : VK} (h : lowE T Wx (wChain r r' ta tb tc) σ H Q) :
    lowE T Wx ta σ H fun x H1 => lowE T Wx tb σ H1 fun y H2 => lowR T Wx r σ x y H2 fun z H3 => ∃ b, z = .bl b ∧ if b = true then lowE T Wx tc σ H3 fun w H4 => lowR T Wx r' σ y w H4 Q else Q (.bl false) H3 := by
  obtain ⟨G, σ2, M, Q2, E2, sr, rs, q2, pq, px⟩ := h
  refine ⟨G, σ2, M, _, E2, sr, rs, q2, fun wx M1 G1 H1 x m1 sr1 rx q3 => ?_, px⟩
  refine ⟨G1, σ2, M1, _, E2, sr1, rs.mono m1, q3, fun wy M2 G2 H2 y m2 sr2 ry q4 => ?_, px.mono m1⟩
  refine ⟨G2, wx, wy, M2, _, E2, sr2, rx.mono m2, ry, q4, fun wz M3 G3 H3 z m3 sr3 rz q5 => ?_, px.mono (m1.trans m2)⟩
  obtain ⟨b, rfl, q5⟩ := q5
  refine ⟨b, rz, ?_⟩
  cases b with
  | false =>
    rw [if_neg Bool.false_ne_true] at q5 ⊢
    exact pq _ M3 G3 H3 _ ((m1.trans m2).trans m3) sr3 (show RW T G3 (.d (.bool false)) (.bl false) from rfl) q5
  | true =>
    rw [if_pos rfl] at q5 ⊢
    refine ⟨G3, σ2, M3, _, E2, sr3, rs.mono ((m1.trans m2).trans m3), q5, fun ww M4 G4 H4 w m4 sr4 rw4 q6 => ?_, px.mono ((m1.trans m2).trans m3)⟩
    exact ⟨G4, wy, ww, M4, Q2, E2, sr4, ry.mono (m3.trans m4), rw4, q6, pq.mono (((m1.trans m2).trans m3).trans m4), px.mono (((m1.trans m2).trans m3).trans m4)⟩
theorem e_chain {c : Expr} {op op' : CmpOp} {r r' : R22} (ho : Op2 X T Wx (compareOp op) r) (ho' : Op2 X T Wx (compareOp op') r') (ha : PE X a (lowE T Wx ta)) (hb : PE X b (lowE T Wx tb)) (hc : PE X c (lowE T Wx tc))
    (hm : lastMarks [op, op'] [b, c] = false) : PE X (.Compare a [op, op'] [b, c] pos) (lowE T Wx (wChain r r' ta tb tc)) := by
  refine ⟨fun pins s σ H Q I h => ?_⟩
  refine Compare_chain (thn (ha.run pins s σ H _ I (low_chain h)) fun v s1 ⟨x, H1, I1, r1, q1⟩ => chain_link (thn (hb.run pins s1 σ H1 _ I1 q1) fun u s2 ⟨y, H2, I2, r2, q2⟩ =>
    thn (ho pins s2 σ H2 x y v u _ I2 r1 r2 q2) fun d s3 ⟨z, H3, I3, r3, kk, e, q3⟩ => ?_)) hm
  subst e
  cases r3
  refine wpAny_truthy_bool ?_
  cases kk with
  | false => exact ite_ff ⟨.bl false, H3, I3, rfl, q3⟩
  | true => exact ite_tt (chain_last (thn (hc.run pins s3 σ H3 _ I3 q3) fun w' s4 ⟨z', H4, I4, r4, q4⟩ => ho' pins s4 σ H4 y z' u w' Q I4 r2 r4 q4))
theorem t_chain {c : Expr} {op op' : CmpOp} {r r' : R22} (ho : Op2 X T Wx (compareOp op) r) (ho' : Op2 X T Wx (compareOp op') r') (ha : PE X a (lowE T Wx ta)) (hb : PE X b (lowE T Wx tb)) (hc : PE X c (lowE T Wx tc))
    (hm : lastMarks [op, op'] [b, c] = false) : PT X (.Compare a [op, op'] [b, c] pos) (lowT T Wx (wT (wChain r r' ta tb tc))) := by
  refine ⟨fun pins s σ H Q I h => ?_⟩
  refine isTrue_chain (thn (ha.run pins s σ H _ I (low_chain (low_T h))) fun v s1 ⟨x, H1, I1, r1, q1⟩ => test_link (thn (hb.run pins s1 σ H1 _ I1 q1) fun u s2 ⟨y, H2, I2, r2, q2⟩ =>
    thn (ho pins s2 σ H2 x y v u _ I2 r1 r2 q2) fun d s3 ⟨z, H3, I3, r3, kk, e, q3⟩ => ?_)) hm
  subst e
  cases r3
  refine wpAny_truthy_bool ?_
  cases kk with
  | false =>
    obtain ⟨k', e', q'⟩ := q3
    cases e'
    exact ite_ff ⟨H3, I3, q'⟩
  | true =>
    refine ite_tt (test_last (thn (hc.run pins s3 σ H3 _ I3 q3) fun w' s4 ⟨z', H4, I4, r4, q4⟩ => thn (ho' pins s4 σ H4 y z' u w' _ I4 r2 r4 q4) fun d' s5 ⟨z2, H5, I5, r5, k2, e2, q5⟩ => ?_))
    subst e2
    cases r5
    exact wpAny_truthy_bool ⟨H5, I5, q5⟩

/-! ### truth, and, or, not, if -/
/-- a value's truth (an object without __len__ and __bool__ is not asked here) -/
def truD : D → Option Bool
  | .none => some false
  | .bool b => some b
  | .int i => some (i != 0)
  | .str s => some ((s.length : Int) != 0)
  | .lst xs => some (!xs.isEmpty)
  | .tup xs => some (!xs.isEmpty)
  | _ => none
def truC : Option Cl → Option Bool
  | some (.lst ws) => some (!ws.isEmpty)
  | some (.dic false kvs) => some (!kvs.isEmpty)
  | _ => none
def tru (M : Mp) : W → Option Bool
  | .d x => truD x
  | .c a => truC (M a)
  | .r _ => none
theorem RpL.len {G : Hp} : ∀ {ds : List D} {vs : List V}, RpL T G ds vs → ds.length = vs.length
  | [], _, h => by rw [RpL] at h; rw [h]; rfl
  | _ :: ds, _, ⟨v, r, e, _, t⟩ => by rw [e, List.length_cons, List.length_cons, RpL.len t]
theorem isEmpty_len {α β : Type} {xs : List α} {ys : List β} (h : xs.length = ys.length) : xs.isEmpty = ys.isEmpty := by
  cases xs <;> cases ys <;> first | rfl | cases h
theorem tru_low {G H : Hp} {M : Mp} {w : W} {v : V} {b : Bool} (sr : SR T G H M) (r : RW T G w v) (h : tru M w = some b) (hk : X.K = T.K) : TruV X.K v H b := by
  rw [hk]
  match w, r, h with
  | .d .none, r, h => cases (show v = .non from r); cases h; rfl
  | .d (.bool _), r, h => cases (show v = .bl _ from r); cases h; rfl
  | .d (.int _), r, h => cases (show v = .int _ from r); cases h; rfl
  | .d (.str _), r, h => obtain ⟨e, z⟩ := r; cases e; cases h; exact ⟨z, rfl⟩
  | .d (.lst xs), r, h =>
    obtain ⟨a, vs, e, e2, rr⟩ := r
    have z := rr.len
    cases e; cases h
    exact .inl ⟨vs, SqL.of (sr.le _ _ e2), by rw [isEmpty_len z]⟩
  | .d (.tup xs), r, h =>
    obtain ⟨a, vs, e, e2, rr⟩ := r
    have z := rr.len
    cases e; cases h
    exact .inr (.inl ⟨vs, (Mo.of sr.le).seqT e2, by rw [isEmpty_len z]⟩)
  | .d (.dic _), r, h => cases h
  | .d (.dit _), r, h => cases h
  | .d (.obj _ _), r, h => cases h
  | .r _, r, h => cases h
  | .c a, r, h =>
    cases (show v = .ref a from r)
    have h : truC (M a) = some b := h
    cases e : M a with
    | none => rw [e] at h; cases h
    | some c =>
      rw [e] at h
      obtain ⟨_, o, ho, rc⟩ := sr.ce _ _ e
      match c, h, rc with
      | .lst ws, h, ⟨vs, e2, rr⟩ =>
        cases h
        have z := Paired.length rr
        subst e2
        exact .inl ⟨vs, SqL.of ho, by rw [isEmpty_len z]⟩
      | .dic false kvs, h, ⟨vs, e2, rr⟩ =>
        cases h
        have z := Paired.length rr
        rw [if_neg Bool.false_ne_true] at e2
        subst e2
        exact .inr (.inr ⟨vs, ho, by rw [isEmpty_len z]⟩)
      | .dic true kvs, h, _ => cases h
      | .dit _ kvs, h, _ => cases h
      | .ins _ _ kvs, h, _ => cases h
/-- an expression by its truth -/
def wTru (t : TE2) : TT2 := fun σ M Q E => t σ M (fun x M1 => ∃ b, tru M1 x = some b ∧ Q b M1) E
theorem t_tru (C : Ctx T k N mg X Wx sc) (ha : PE X a (lowE T Wx ta)) (he : ∀ whole, isTrue a X.env whole = (do let v ← whole; standAt a.pos; holding [v] (truthy v))) : PT X a (lowT T Wx (wTru ta)) := (pt_truth ha he).imp fun σ H Q q => by
  obtain ⟨G, σ2, M, Q2, E2, sr, rs, q2, pq, px⟩ := q
  refine ⟨G, σ2, M, _, E2, sr, rs, q2, fun wx M1 G1 H1 x m1 sr1 rx q3 => ?_, px⟩
  obtain ⟨b, e, q3⟩ := q3
  exact ⟨b, tru_low sr1 rx e C.eK, pq b M1 G1 H1 m1 sr1 q3⟩
def wAndT (t u : TT2) : TT2 := fun σ M Q E => t σ M (fun b M1 => if b = true then u σ M1 Q E else Q false M1) E
def wOrT (t u : TT2) : TT2 := fun σ M Q E => t σ M (fun b M1 => if b = true then Q true M1 else u σ M1 Q E) E
def wNotT (t : TT2) : TT2 := fun σ M Q E => t σ M (fun b M1 => Q (!b) M1) E
variable {tt tu : TT2} {rest : List Expr}
theorem low_andT {σ : L2.St} {H : Hp} {Q : Bool → Hp → Prop} (h : lowT T Wx (wAndT tt tu) σ H Q) : tAnd (lowT T Wx tt) (lowT T Wx tu) σ H Q := by
  obtain ⟨G, σ2, M, Q2, E2, sr, rs, q2, pq, px⟩ := h
  refine ⟨G, σ2, M, _, E2, sr, rs, q2, fun b M1 G1 H1 m1 sr1 q3 => ?_, px⟩
  cases b with
  | false =>
    rw [if_neg Bool.false_ne_true] at q3 ⊢
    exact pq _ M1 G1 H1 m1 sr1 q3
  | true =>
    rw [if_pos rfl] at q3 ⊢
    exact ⟨G1, σ2, M1, Q2, E2, sr1, rs.mono m1, q3, pq.mono m1, px.mono m1⟩
theorem low_orT {σ : L2.St} {H : Hp} {Q : Bool → Hp → Prop} (h : lowT T Wx (wOrT tt tu) σ H Q) : tOr (lowT T Wx tt) (lowT T Wx tu) σ H Q := by
  obtain ⟨G, σ2, M, Q2, E2, sr, rs, q2, pq, px⟩ := h
  refine ⟨G, σ2, M, _, E2, sr, rs, q2, fun b M1 G1 H1 m1 sr1 q3 => ?_, px⟩
  cases b with
  | true =>
    rw [if_pos rfl] at q3 ⊢
    exact pq _ M1 G1 H1 m1 sr1 q3
  | false =>
    rw [if_neg Bool.false_ne_true] at q3 ⊢
    exact ⟨G1, σ2, M1, Q2, E2, sr1, rs.mono m1, q3, pq.mono m1, px.mono m1⟩
theorem tw_and1 (ha : PT X a (lowT T Wx tt)) : PW X (.BoolOp .And [a] pos) (lowT T Wx tt) := pw_and1 ha
theorem tw_or1 (ha : PT X a (lowT T Wx tt)) : PW X (.BoolOp .Or [a] pos) (lowT T Wx tt) := pw_or1 ha
theorem tw_and (ha : PT X a (lowT T Wx tt)) (hb : PW X (.BoolOp .And (b :: rest) pos) (lowT T Wx tu)) : PW X (.BoolOp .And (a :: b :: rest) pos) (lowT T Wx (wAndT tt tu)) := (pw_and ha hb).imp fun _ _ _ q => low_andT q
theorem tw_or (ha : PT X a (lowT T Wx tt)) (hb : PW X (.BoolOp .Or (b :: rest) pos) (lowT T Wx tu)) : PW X (.BoolOp .Or (a :: b :: rest) pos) (lowT T Wx (wOrT tt tu)) := (pw_or ha hb).imp fun _ _ _ q => low_orT q
theorem t_not (ha : PT X a (lowT T Wx tt)) : PT X (.UnaryOp .Not a pos) (lowT T Wx (wNotT tt)) := (pt_not ha).imp fun σ H Q h => by
  obtain ⟨G, σ2, M, Q2, E2, sr, rs, q2, pq, px⟩ := h
  exact ⟨G, σ2, M, _, E2, sr, rs, q2, fun b M1 G1 H1 m1 sr1 q3 => pq _ M1 G1 H1 m1 sr1 q3, px⟩
/-- as values -/
def wAndV (ta tb : TE2) : TE2 := fun σ M Q E => ta σ M (fun x M1 => ∃ b, tru M1 x = some b ∧ if b = true then tb σ M1 Q E else Q x M1) E
def wOrV (ta tb : TE2) : TE2 := fun σ M Q E => ta σ M (fun x M1 => ∃ b, tru M1 x = some b ∧ if b = true then Q x M1 else tb σ M1 Q E) E
def wNotV (ta : TE2) : TE2 := fun σ M Q E => ta σ M (fun x M1 => ∃ b, tru M1 x = some b ∧ Q (.d (.bool (!b))) M1) E
theorem e_and1 {op} (h : PE X a (lowE T Wx ta)) : PE X (.BoolOp op [a] pos) (lowE T Wx ta) := pe_one h
theorem e_and (C : Ctx T k N mg X Wx sc) (ha : PE X a (lowE T Wx ta)) (hb : PE X (.BoolOp .And (b :: rest) pos) (lowE T Wx tb)) : PE X (.BoolOp .And (a :: b :: rest) pos) (lowE T Wx (wAndV ta tb)) := (pe_andT ha hb).imp fun σ H Q h => by
  obtain ⟨G, σ2, M, Q2, E2, sr, rs, q2, pq, px⟩ := h
  refine ⟨G, σ2, M, _, E2, sr, rs, q2, fun w M1 G1 H1 v m1 sr1 rw1 q3 => ?_, px⟩
  obtain ⟨b, e, q3⟩ := q3
  refine ⟨b, tru_low sr1 rw1 e C.eK, ?_⟩
  cases b with
  | false =>
    rw [if_neg Bool.false_ne_true] at q3 ⊢
    exact pq _ M1 G1 H1 v m1 sr1 rw1 q3
  | true =>
    rw [if_pos rfl] at q3 ⊢
    exact ⟨G1, σ2, M1, Q2, E2, sr1, rs.mono m1, q3, pq.mono m1, px.mono m1⟩
theorem e_or (C : Ctx T k N mg X Wx sc) (ha : PE X a (lowE T Wx ta)) (hb : PE X (.BoolOp .Or (b :: rest) pos) (lowE T Wx tb)) : PE X (.BoolOp .Or (a :: b :: rest) pos) (lowE T Wx (wOrV ta tb)) := (pe_orT ha hb).imp fun σ H Q h => by
  obtain ⟨G, σ2, M, Q2, E2, sr, rs, q2, pq, px⟩ := h
  refine ⟨G, σ2, M, _, E2, sr, rs, q2, fun w M1 G1 H1 v m1 sr1 rw1 q3 => ?_, px⟩
  obtain ⟨b, e, q3⟩ := q3
  refine ⟨b, tru_low sr1 rw1 e C.eK, ?_⟩
  cases b with
  | true =>
    rw [if_pos rfl] at q3 ⊢
    exact pq _ M1 G1 H1 v m1 sr1 rw1 q3
  | false =>
    rw [if_neg Bool.false_ne_true] at q3 ⊢
    exact ⟨G1, σ2, M1, Q2, E2, sr1, rs.mono m1, q3, pq.mono m1, px.mono m1⟩
theorem e_not (C : Ctx T k N mg X Wx sc) (ha : PE X a (lowE T Wx ta)) : PE X (.UnaryOp .Not a pos) (lowE T Wx (wNotV ta)) := (pe_notT ha).imp fun σ H Q h => by
  obtain ⟨G, σ2, M, Q2, E2, sr, rs, q2, pq, px⟩ := h
  refine ⟨G, σ2, M, _, E2, sr, rs, q2, fun w M1 G1 H1 v m1 sr1 rw1 q3 => ?_, px⟩
  obtain ⟨b, e, q3⟩ := q3
  exact ⟨b, tru_low sr1 rw1 e C.eK, pq _ M1 G1 H1 _ m1 sr1 (show RW T G1 (.d (.bool (!b))) (.bl (!b)) from rfl) q3⟩
def wIf (t : TT2) (ta tb : TE2) : TE2 := fun σ M Q E => t σ M (fun b M1 => if b = true then ta σ M1 Q E else tb σ M1 Q E) E
theorem e_if {c : Expr} (hc : PT X c (lowT T Wx tt)) (ha : PE X a (lowE T Wx ta)) (hb : PE X b (lowE T Wx tb)) : PE X (.IfExp c a b pos) (lowE T Wx (wIf tt ta tb)) := (pe_ifExp hc ha hb).imp fun σ H Q h => by
  obtain ⟨G, σ2, M, Q2, E2, sr, rs, q2, pq, px⟩ := h
  refine ⟨G, σ2, M, _, E2, sr, rs, q2, fun b M1 G1 H1 m1 sr1 q3 => ?_, px⟩
  cases b with
  | true =>
    rw [if_pos rfl] at q3 ⊢
    exact ⟨G1, σ2, M1, Q2, E2, sr1, rs.mono m1, q3, pq.mono m1, px.mono m1⟩
  | false =>
    rw [if_neg Bool.false_ne_true] at q3 ⊢
    exact ⟨G1, σ2, M1, Q2, E2, sr1, rs.mono m1, q3, pq.mono m1, px.mono m1⟩

/-! ### argument lists, displays -/
def wNil : TA2 := fun _ M Q _ => Q [] M
def wCons (t : TE2) (u : TA2) : TA2 := fun σ M Q E => t σ M (fun x M1 => u σ M1 (fun xs M2 => Q (x :: xs) M2) E) E
variable {es : List Expr} {tl : TA2} {e : Expr} {te : TE2}
theorem a_nil : PA X [] (lowA T Wx wNil) := pa_nil.imp fun σ H Q h => by
  obtain ⟨G, σ2, M, Q2, E2, sr, rs, q2, pq, px⟩ := h
  exact pq [] M G H [] (Mo.refl _) sr .nil q2
theorem a_cons (ha : PE X e (lowE T Wx te)) (hr : PA X es (lowA T Wx tl)) (hs : starEach (e :: es) X.env = (false, eval e X.env) :: starEach es X.env) : PA X (e :: es) (lowA T Wx (wCons te tl)) := (pa_cons ha hr hs).imp fun σ H Q h => by
  obtain ⟨G, σ2, M, Q2, E2, sr, rs, q2, pq, px⟩ := h
  refine ⟨G, σ2, M, _, E2, sr, rs, q2, fun w M1 G1 H1 v m1 sr1 rw1 q3 => ?_, px⟩
  refine ⟨G1, σ2, M1, _, E2, sr1, rs.mono m1, q3, fun ws M2 G2 H2 vs m2 sr2 rw2 q4 => ?_, px.mono m1⟩
  exact pq (w :: ws) M2 G2 H2 (v :: vs) (m1.trans m2) sr2 (.cons (rw1.mono m2) rw2) q4
/-- all data -/
def unD : List W → Option (List D)
  | [] => some []
  | .d x :: r => (unD r).map (x :: ·)
  | _ :: _ => none
@[simp] theorem unD_map (ds : List D) : unD (ds.map W.d) = some ds := by
  induction ds with
  | nil => rfl
  | cons x r ih => show (unD (r.map W.d)).map (x :: ·) = _; rw [ih]; rfl
theorem unD_eq : ∀ {ws : List W} {ds : List D}, unD ws = some ds → ws = ds.map W.d
  | [], ds, h => by cases h; rfl
  | .d x :: r, ds, h => by
    cases q : unD r with
    | none => unfold unD at h; rw [q] at h; cases h
    | some l => unfold unD at h; rw [q] at h; cases h; rw [unD_eq q]; rfl
  | .c _ :: _, ds, h => by cases h
  | .r _ :: _, ds, h => by cases h
theorem RpL.of {G : Hp} : ∀ {ds : List D} {vs : List V}, RWs T G (ds.map W.d) vs → RpL T G ds vs
  | [], _, .nil => rfl
  | d :: ds, _, .cons h t => ⟨_, _, rfl, h, RpL.of t⟩
theorem RpL.to {G : Hp} : ∀ {ds : List D} {vs : List V}, RpL T G ds vs → RWs T G (ds.map W.d) vs
  | [], _, h => by rw [RpL] at h; rw [h]; exact .nil
  | d :: ds, _, ⟨v, r, e, h, t⟩ => by rw [e]; exact .cons h (RpL.to t)
theorem RWs.len {G : Hp} {ws : List W} {vs : List V} (r : RWs T G ws vs) : ws.length = vs.length := Paired.length r
def wTup (t : TA2) : TE2 := fun σ M Q E => t σ M (fun ws M1 => ∃ ds, unD ws = some ds ∧ ds.length ≤ 1000 ∧ Q (.d (.tup ds)) M1) E
theorem small {n : Nat} (h : n ≤ 1000) : n ≤ sizeLine := Nat.le_trans h (by rw [sizeLine_eq]; decide)
theorem e_tup {x1} (h : PA X es (lowA T Wx tl)) : PE X (.Tuple es x1 pos) (lowE T Wx (wTup tl)) := (pe_tup h).imp fun σ H Q h => by
  obtain ⟨G, σ2, M, Q2, E2, sr, rs, q2, pq, px⟩ := h
  refine ⟨G, σ2, M, _, E2, sr, rs, q2, fun ws M1 G1 H1 vs m1 sr1 rw1 q3 => ?_, px⟩
  obtain ⟨ds, e, hl, q3⟩ := q3
  cases unD_eq e
  have hz : vs.length ≤ 1000 := by rw [← rw1.len, List.length_map]; exact hl
  refine ⟨small hz, fun p hp => ?_⟩
  have mo := Mo.of (same_new (o := HO.tup vs) (sr1.free hp))
  exact pq (.d (.tup ds)) M1 _ _ (.ref p) (m1.trans mo) (sr1.laid hp) ⟨p, vs, rfl, SqT.of upd_same, (RpL.of rw1).mono mo⟩ q3
/-- a new list: data (b = false), or a cell -/
def wLst (b : Bool) (t : TA2) : TE2 := fun σ M Q E => t σ M (fun ws M1 => ws.length ≤ 1000 ∧ if b = true then ∀ p, M1 p = none → Q (.c p) (put M1 p (.lst ws)) else ∃ ds, unD ws = some ds ∧ Q (.d (.lst ds)) M1) E
/-- how a new list is told -/
def newL (b : Bool) (ws : List W) (M : Mp) (Q : VK2) : Prop := if b = true then ∀ p, M p = none → Q (.c p) (put M p (.lst ws)) else ∃ ds, unD ws = some ds ∧ Q (.d (.lst ds)) M
theorem newL_low {b : Bool} {ws : List W} {M : Mp} {Q2 : VK2} {Q : VK} {G H : Hp} {vs : List V} (sr : SR T G H M) (r : RWs T G ws vs) (q : newL b ws M Q2) (pq : PQ T G Q2 Q) {p : Addr} (hp : H p = none) : Q (.ref p) (upd H p (.lst vs)) := by
  unfold newL at q
  cases b with
  | true =>
    rw [if_pos rfl] at q
    exact pq (.c p) _ G _ (.ref p) (Mo.refl _) (sr.cell hp (show RC T G (.lst ws) (.lst vs) from ⟨vs, rfl, r⟩)) rfl (q p (sr.freeM hp))
  | false =>
    rw [if_neg Bool.false_ne_true] at q
    obtain ⟨ds, e, q3⟩ := q
    cases unD_eq e
    have mo := Mo.of (same_new (o := HO.lst vs) (sr.free hp))
    exact pq (.d (.lst ds)) M _ _ (.ref p) mo (sr.laid hp) ⟨p, vs, rfl, upd_same, (RpL.of r).mono mo⟩ q3
theorem e_lst {m : Bool} (h : PA X es (lowA T Wx tl)) : PE X (.List es pos) (lowE T Wx (wLst m tl)) := (pe_lst h).imp fun σ H Q h => by
  obtain ⟨G, σ2, M, Q2, E2, sr, rs, q2, pq, px⟩ := h
  refine ⟨G, σ2, M, _, E2, sr, rs, q2, fun ws M1 G1 H1 vs m1 sr1 rw1 q3 => ?_, px⟩
  obtain ⟨hl, q3⟩ := q3
  have hz : vs.length ≤ 1000 := by rw [← rw1.len]; exact hl
  exact ⟨small hz, fun p hp => newL_low sr1 rw1 (show newL m ws M1 Q2 from q3) (pq.mono m1) hp⟩
end
end Z
set_option maxHeartbeats 4000000
/-! Z3: operators, subscripts, built-in functions -/
namespace Z
open PySem PySem.Spec PyProof.Rows L2

/-! ### data as the kit's data -/
mutual
def toPy : D → Option PyData
  | .none => some .none
  | .bool b => some (.bool b)
  | .int i => some (.int i)
  | .str s => some (.str s)
  | .lst xs => (toPyL xs).map .list
  | .tup xs => (toPyL xs).map .tuple
  | _ => none
def toPyL : List D → Option (List PyData)
  | [] => some []
  | d :: ds => (toPy d).bind fun p => (toPyL ds).map (p :: ·)
end
section
variable {T : Tab} {G H : Hp}
mutual
theorem Rp.dp (e : Mo G H) (d : D) (v : V) (p : PyData) (h0 : Rp T G d v) (q0 : toPy d = some p) : Dp T.K H v p := match d, v, p, h0, q0 with
  | .none, _, _, h, q => by cases (show _ = V.non from h); cases q; exact .non
  | .bool b, _, _, h, q => by cases (show _ = V.bl b from h); cases q; exact .bl b
  | .int b, _, _, h, q => by cases (show _ = V.int b from h); cases q; exact .int b
  | .str b, _, _, h, q => by obtain ⟨h, _⟩ := h; cases h; cases q; exact .str b
  | .lst xs, _, _, ⟨a, vs, e1, e2, h⟩, q => by
    cases e1
    unfold toPy at q
    cases z : toPyL xs with
    | none => rw [z] at q; cases q
    | some l => rw [z] at q; cases q; exact .lst (SqL.of (e.lst e2)) (RpL.dp e xs vs l h z)
  | .tup xs, _, _, ⟨a, vs, e1, e2, h⟩, q => by
    cases e1
    unfold toPy at q
    cases z : toPyL xs with
    | none => rw [z] at q; cases q
    | some l => rw [z] at q; cases q; exact .tup (e.seqT e2) (RpL.dp e xs vs l h z)
  | .dic _, _, _, _, q => by cases q
  | .dit _, _, _, _, q => by cases q
  | .obj _ _, _, _, _, q => by cases q
termination_by structural d
theorem RpL.dp (e : Mo G H) (d : List D) (v : List V) (p : List PyData) (h0 : RpL T G d v) (q0 : toPyL d = some p) : DpAll T.K H v p := match d, v, p, h0, q0 with
  | [], _, _, h, q => by cases q; rw [RpL] at h; rw [h]; exact .nil
  | d :: ds, _, _, ⟨v, r, e1, h, t⟩, q => by
    rw [e1]
    unfold toPyL at q
    cases z : toPy d with
    | none => rw [z] at q; cases q
    | some p =>
      rw [z] at q
      cases z2 : toPyL ds with
      | none => rw [z2] at q; cases q
      | some l => rw [z2] at q; cases q; exact .cons (Rp.dp e d v p h z) (RpL.dp e ds r l t z2)
termination_by structural d
end
end
/-- a list's items, in a cell or as data -/
def itemsC : Option Cl → Option (List W)
  | some (.lst ws) => some ws
  | _ => none
def itemsD : D → Option (List D)
  | .lst xs => some xs
  | _ => none
def listW (M : Mp) : W → Option (List W)
  | .d x => (itemsD x).map (·.map W.d)
  | .c a => itemsC (M a)
  | .r xs => some (xs.map W.d)
def dataL (M : Mp) (w : W) : Option (List D) := (listW M w).bind unD
def toPyW (M : Mp) : W → Option PyData
  | .d x => toPy x
  | .c a => ((itemsC (M a)).bind unD).bind fun ds => (toPyL ds).map .list
  | .r _ => none
section
variable {T : Tab} {G H : Hp} {M : Mp}
theorem listW_low (sr : SR T G H M) {w : W} {v : V} {ws : List W} (r : RW T G w v) (h : listW M w = some ws) : ∃ a vs, v = .ref a ∧ SqL T.K H a vs ∧ RWs T G ws vs := by
  cases w with
  | d x =>
    cases x with
    | lst xs =>
      obtain ⟨a, vs, e, e2, rr⟩ := (show ∃ a vs, v = .ref a ∧ G a = some (.lst vs) ∧ RpL T G xs vs from r)
      cases (show some (xs.map W.d) = some ws from h)
      exact ⟨a, vs, e, SqL.of (sr.le _ _ e2), rr.to⟩
    | _ => exact nomatch (show (none : Option (List W)) = some ws from h)
  | r xs =>
    obtain ⟨a, vs, e, e2, rr⟩ := (show ∃ a vs, v = .ref a ∧ SqL T.K G a vs ∧ RpL T G xs vs from r)
    cases (show some (xs.map W.d) = some ws from h)
    exact ⟨a, vs, e, (Mo.of sr.le).seqL e2, rr.to⟩
  | c a =>
    have h : itemsC (M a) = some ws := h
    cases e : M a with
    | none => rw [e] at h; cases h
    | some c =>
      rw [e] at h
      obtain ⟨_, o, ho, rc⟩ := sr.ce _ _ e
      cases c with
      | lst us =>
        cases (show some us = some ws from h)
        obtain ⟨vs, e2, rr⟩ := (show ∃ vs, o = .lst vs ∧ RWs T G ws vs from rc)
        subst e2
        exact ⟨a, vs, r, SqL.of ho, rr⟩
      | _ => exact nomatch (show (none : Option (List W)) = some ws from h)
/-- the same where the object itself is wanted -/
theorem listW_at (sr : SR T G H M) {w : W} {v : V} {ws : List W} (r : RW T G w v) (h : listW M w = some ws) (nr : ∀ xs, w ≠ .r xs) : ∃ a vs, v = .ref a ∧ H a = some (.lst vs) ∧ RWs T G ws vs := by
  cases w with
  | d x =>
    cases x with
    | lst xs =>
      obtain ⟨a, vs, e, e2, rr⟩ := (show ∃ a vs, v = .ref a ∧ G a = some (.lst vs) ∧ RpL T G xs vs from r)
      cases (show some (xs.map W.d) = some ws from h)
      exact ⟨a, vs, e, sr.le _ _ e2, rr.to⟩
    | _ => exact nomatch (show (none : Option (List W)) = some ws from h)
  | r xs => exact absurd rfl (nr xs)
  | c a =>
    have h : itemsC (M a) = some ws := h
    cases e : M a with
    | none => rw [e] at h; cases h
    | some c =>
      rw [e] at h
      obtain ⟨_, o, ho, rc⟩ := sr.ce _ _ e
      cases c with
      | lst us =>
        cases (show some us = some ws from h)
        obtain ⟨vs, e2, rr⟩ := (show ∃ vs, o = .lst vs ∧ RWs T G ws vs from rc)
        subst e2
        exact ⟨a, vs, r, ho, rr⟩
      | _ => exact nomatch (show (none : Option (List W)) = some ws from h)
theorem toPyW_low (sr : SR T G H M) {w : W} {v : V} {p : PyData} (r : RW T G w v) (h : toPyW M w = some p) : Dp T.K H v p := by
  cases w with
  | d x => exact Rp.dp (Mo.of sr.le) x v p r h
  | r xs => exact nomatch (show (none : Option PyData) = some p from h)
  | c a =>
    have h : ((itemsC (M a)).bind unD).bind (fun ds => (toPyL ds).map PyData.list) = some p := h
    cases e : itemsC (M a) with
    | none => rw [e] at h; cases h
    | some ws =>
      rw [e] at h
      cases e2 : unD ws with
      | none => rw [Option.bind_some, e2] at h; cases h
      | some ds =>
        rw [Option.bind_some, e2] at h
        cases e3 : toPyL ds with
        | none => rw [Option.bind_some, e3] at h; cases h
        | some l =>
          rw [Option.bind_some, e3] at h
          cases h
          obtain ⟨a', vs, e4, h4, rr⟩ := listW_low sr (w := .c a) r e
          rw [e4]
          cases unD_eq e2
          exact .lst h4 (RpL.dp (Mo.of sr.le) ds vs l (RpL.of rr) e3)
end

section
variable {X : Cx} {T : Tab} {Wx : WX} {k : Nat} {N : List Str} {mg : Str → Option Value} {sc : Scope}
/-! ### arithmetic -/
def oInt (f : Int → Int → Int) (P : Int → Int → Prop) : R22 := fun x y M Q _ => ∃ i j, x = .d (.int i) ∧ y = .d (.int j) ∧ P i j ∧ Q (.d (.int (f i j))) M
theorem op_int {g : Value → Value → Sem Value} {f : Int → Int → Int} {P P' : Int → Int → Prop} (h : OpR X g (rI P' fun i j => .int (f i j))) (hp : ∀ i j, P i j → P' i j) : Op2 X T Wx g (oInt f P) := Op2.of h fun σ x y H Q q => by
  obtain ⟨G, wx, wy, M, Q2, E2, sr, rx, ry, ⟨i, j, rfl, rfl, p, q2⟩, pq, px⟩ := q
  exact ⟨i, j, rx, ry, hp i j p, pq (.d (.int (f i j))) M G H _ (Mo.refl _) sr (show RW T G (.d (.int (f i j))) (.int (f i j)) from rfl) q2⟩
def oSub : R22 := oInt (fun i j => i - j) fun _ _ => True
def oMul0 (i j : Int) : Prop := i.natAbs.log2 + j.natAbs.log2 < 1000000
def oFdiv : R22 := oInt (fun i j => i / j) fun _ j => 0 < j ∧ j.natAbs.log2 < 9000
def oMod : R22 := oInt (fun i j => i % j) fun _ j => 0 < j
def oPow : R22 := oInt (fun i j => i ^ j.toNat) fun i j => 0 ≤ j ∧ j ≤ 1000000 ∧ i.natAbs < 2 ^ 64
theorem rI_of {g : Value → Value → Sem Value} {r : Int → Int → V} (h : OpR X g (rI0 r)) : OpR X g (rI (fun _ _ => True) r) := h.imp fun x y H Q ⟨i, j, e1, e2, _, q⟩ => ⟨i, j, e1, e2, q⟩
theorem op2_sub : Op2 X T Wx (binaryOp .Sub) oSub := op_int (rI_of op_sub) fun _ _ h => h
theorem op2_fdiv : Op2 X T Wx (binaryOp .FloorDiv) oFdiv := op_int op_fdivW fun _ _ h => h
theorem op2_mod : Op2 X T Wx (binaryOp .Mod) oMod := op_int op_mod fun _ _ h => h
theorem op2_pow : Op2 X T Wx (binaryOp .Pow) oPow := op_int op_pow fun _ _ h => h
/-- new data, a list or a tuple -/
theorem q_lst {G H : Hp} {M : Mp} {Q2 : VK2} {Q : VK} {ds : List D} {vs : List V} (sr : SR T G H M) (r : RpL T G ds vs) (q : Q2 (.d (.lst ds)) M) (pq : PQ T G Q2 Q) {p : Addr} (hp : H p = none) : Q (.ref p) (upd H p (.lst vs)) := by
  have mo := Mo.of (same_new (o := HO.lst vs) (sr.free hp))
  exact pq (.d (.lst ds)) M _ _ (.ref p) mo (sr.laid hp) ⟨p, vs, rfl, upd_same, r.mono mo⟩ q
theorem q_tup {G H : Hp} {M : Mp} {Q2 : VK2} {Q : VK} {ds : List D} {vs : List V} (sr : SR T G H M) (r : RpL T G ds vs) (q : Q2 (.d (.tup ds)) M) (pq : PQ T G Q2 Q) {p : Addr} (hp : H p = none) : Q (.ref p) (upd H p (.tup vs)) := by
  have mo := Mo.of (same_new (o := HO.tup vs) (sr.free hp))
  exact pq (.d (.tup ds)) M _ _ (.ref p) mo (sr.laid hp) ⟨p, vs, rfl, SqT.of upd_same, r.mono mo⟩ q
theorem RpL.append {G : Hp} : ∀ {a b : List D} {vs ws : List V}, RpL T G a vs → RpL T G b ws → RpL T G (a ++ b) (vs ++ ws)
  | [], _, _, _, h, h2 => by rw [RpL] at h; rw [h]; exact h2
  | d :: ds, _, _, _, ⟨v, r, e1, h, t⟩, h2 => by rw [e1]; exact ⟨v, _, rfl, h, RpL.append t h2⟩
theorem RpL.nil_iff {G : Hp} {a : List D} {vs : List V} (h : RpL T G a vs) : vs = [] ↔ a = [] := by
  have := h.len
  cases a <;> cases vs <;> simp_all
/-- + of ints, texts, lists, tuples -/
def addD : D → D → Option (D × Nat)
  | .int i, .int j => some (.int (i + j), 0)
  | .str a, .str b => some (.str (a ++ b), a.length + b.length)
  | .tup a, .tup b => some (.tup (a ++ b), a.length + b.length)
  | _, _ => none
def isL : W → Bool
  | .d (.lst _) => true
  | .c _ => true
  | _ => false
def oAddD (x y : D) (M : Mp) (Q : VK2) : Prop := ∃ z n, addD x y = some (z, n) ∧ n ≤ sizeLine ∧ Q (.d z) M
def oAddL (m : Bool) (x y : W) (M : Mp) (Q : VK2) : Prop := ∃ a b, listW M x = some a ∧ listW M y = some b ∧ a.length + b.length ≤ sizeLine ∧ newL m (a ++ b) M Q
/-- m: a list that is made is a cell -/
def oAdd (m : Bool) : R22 := fun x y M Q _ => if isL x = true then isL y = true ∧ oAddL m x y M Q else match x, y with
  | .d x, .d y => oAddD x y M Q
  | _, _ => False
theorem isL_nr {w : W} (h : isL w = true) : ∀ xs, w ≠ .r xs := fun xs e => by subst e; cases h
theorem op2_addD {G H : Hp} {M : Mp} {Q2 : VK2} {x1 y1 : D} {pins : List (Addr × Obj)} {s : Shared} {σ : L2.St} {x y : V} {v u : Value} {Q : VK} (I : Inv X pins σ H s) (rx : RelV x v) (ry : RelV y u)
    (sr : SR T G H M) (r1 : RW T G (.d x1) x) (r2 : RW T G (.d y1) y) (q2 : oAddD x1 y1 M Q2) (pq : PQ T G Q2 Q) (hK : X.K = T.K) : wpAny (model X.prog X.w) X.A (binaryOp .Add v u) (EP X pins σ Q) X.xe s := by
  obtain ⟨z, n, e, hz, q2⟩ := q2
  cases x1 with
  | int i =>
    cases y1 with
    | int j =>
      cases (show some (D.int (i + j), 0) = some (z, n) from e)
      exact op_add pins s σ H _ _ v u Q I rx ry ⟨i, j, r1, r2, pq _ M G H _ (Mo.refl _) sr (show RW T G (.d (.int (i + j))) (.int (i + j)) from rfl) q2⟩
    | _ => exact nomatch (show (none : Option (D × Nat)) = some (z, n) from e)
  | str a =>
    cases y1 with
    | str b =>
      cases (show some (D.str (a ++ b), a.length + b.length) = some (z, n) from e)
      exact op_add_str pins s σ H _ _ v u Q I rx ry ⟨a, b, r1.1, r2.1, hz, pq _ M G H _ (Mo.refl _) sr (show RW T G (.d (.str (a ++ b))) (.str (a ++ b)) from ⟨rfl, by rw [Str.length_append]; exact hz⟩) q2⟩
    | _ => exact nomatch (show (none : Option (D × Nat)) = some (z, n) from e)
  | tup a =>
    cases y1 with
    | tup b =>
      cases (show some (D.tup (a ++ b), a.length + b.length) = some (z, n) from e)
      obtain ⟨a1, vs, e1, h1, t1⟩ := (show ∃ a1 vs, x = .ref a1 ∧ SqT T.K G a1 vs ∧ RpL T G a vs from r1)
      obtain ⟨b1, ws, e2, h2, t2⟩ := (show ∃ a1 vs, y = .ref a1 ∧ SqT T.K G a1 vs ∧ RpL T G b vs from r2)
      refine op_catA pins s σ H _ _ v u Q I rx ry ⟨a1, b1, vs, ws, e1, e2, by rw [hK]; exact (Mo.of sr.le).seqT h1, by rw [hK]; exact (Mo.of sr.le).seqT h2, by rw [← t1.len, ← t2.len]; exact hz, fun z => ?_, fun z z2 => ?_, fun _ _ p hp => q_tup sr (t1.append t2) q2 pq hp⟩
      · rw [t1.nil_iff] at z
        subst z
        exact pq _ M G H _ (Mo.refl _) sr (show RW T G (.d (.tup ([] ++ b))) (.ref b1) from ⟨b1, ws, rfl, h2, t2⟩) q2
      · rw [t2.nil_iff] at z2
        subst z2
        rw [List.append_nil] at q2
        exact pq _ M G H _ (Mo.refl _) sr (show RW T G (.d (.tup a)) (.ref a1) from ⟨a1, vs, rfl, h1, t1⟩) q2
    | _ => exact nomatch (show (none : Option (D × Nat)) = some (z, n) from e)
  | _ => exact nomatch (show (none : Option (D × Nat)) = some (z, n) from e)
theorem Paired.app {α β : Type} {F : α → β → Prop} : ∀ {a b : List α} {c d : List β}, Paired F a c → Paired F b d → Paired F (a ++ b) (c ++ d)
  | _, _, _, _, .nil, h => h
  | _, _, _, _, .cons r t, h => .cons r (Paired.app t h)
theorem op2_add (C : Ctx T k N mg X Wx sc) (m : Bool) : Op2 X T Wx (binaryOp .Add) (oAdd m) := by
  intro pins s σ H x y v u Q I rx ry q
  obtain ⟨G, wx, wy, M, Q2, E2, sr, r1, r2, q2, pq, px⟩ := q
  unfold oAdd at q2
  by_cases hx : isL wx = true
  · rw [if_pos hx] at q2
    obtain ⟨hy, a, b, ha, hb, hz, q2⟩ := q2
    obtain ⟨a1, vs, e1, h1, t1⟩ := listW_at sr r1 ha (isL_nr hx)
    obtain ⟨b1, ws, e2, h2, t2⟩ := listW_at sr r2 hb (isL_nr hy)
    refine op_cat pins s σ H _ _ v u Q I rx ry ⟨a1, b1, vs, ws, e1, e2, h1, h2, by rw [← t1.len, ← t2.len]; exact hz, fun p hp => ?_⟩
    exact newL_low sr (Paired.app t1 t2) q2 pq hp
  · rw [if_neg hx] at q2
    cases wx with
    | d x1 =>
      cases wy with
      | d y1 => exact op2_addD I rx ry sr r1 r2 q2 pq C.eK
      | _ => exact q2.elim
    | _ => exact q2.elim
end
end Z
set_option maxHeartbeats 4000000
/-! Z4: comparisons, subscripts, built-in functions and methods -/
namespace Z
open PySem PySem.Spec PyProof.Rows L2
section
variable {X : Cx} {T : Tab} {Wx : WX} {k : Nat} {N : List Str} {mg : Str → Option Value} {sc : Scope}
theorem q_bool {G H : Hp} {M : Mp} {Q2 : VK2} {Q : VK} {b : Bool} (sr : SR T G H M) (q : Q2 (.d (.bool b)) M) (pq : PQ T G Q2 Q) : Q (.bl b) H := pq _ M G H _ (Mo.refl _) sr (show RW T G (.d (.bool b)) (.bl b) from rfl) q
theorem q_int {G H : Hp} {M : Mp} {Q2 : VK2} {Q : VK} {b : Int} (sr : SR T G H M) (q : Q2 (.d (.int b)) M) (pq : PQ T G Q2 Q) : Q (.int b) H := pq _ M G H _ (Mo.refl _) sr (show RW T G (.d (.int b)) (.int b) from rfl) q
theorem q_str {G H : Hp} {M : Mp} {Q2 : VK2} {Q : VK} {b : Str} (sr : SR T G H M) (hz : b.length ≤ sizeLine) (q : Q2 (.d (.str b)) M) (pq : PQ T G Q2 Q) : Q (.str b) H := pq _ M G H _ (Mo.refl _) sr (show RW T G (.d (.str b)) (.str b) from ⟨rfl, hz⟩) q
theorem q_non {G H : Hp} {M : Mp} {Q2 : VK2} {Q : VK} (sr : SR T G H M) (q : Q2 (.d .none) M) (pq : PQ T G Q2 Q) : Q .non H := pq _ M G H _ (Mo.refl _) sr (show RW T G (.d .none) .non from rfl) q

/-! ### order -/
def ordD (p : Int → Int → Bool) (ps : Str → Str → Bool) : D → D → Option Bool
  | .int i, .int j => some (p i j)
  | .str a, .str b => some (ps a b)
  | _, _ => none
def ordW (p : Int → Int → Bool) (ps : Str → Str → Bool) : W → W → Option Bool
  | .d x, .d y => ordD p ps x y
  | _, _ => none
def oOrd (p : Int → Int → Bool) (ps : Str → Str → Bool) : R22 := fun x y M Q _ => ∃ b, ordW p ps x y = some b ∧ Q (.d (.bool b)) M
theorem op_ord {f : Value → Value → Sem Value} {p : Int → Int → Bool} {ps : Str → Str → Bool} (hi : OpR X f (rI0 fun i j => .bl (p i j))) (hs : OpR X f (fun x y H Q => ∃ i j, x = .str i ∧ y = .str j ∧ Q (.bl (ps i j)) H)) : Op2 X T Wx f (oOrd p ps) := by
  intro pins s σ H x y v u Q I rx ry q
  obtain ⟨G, wx, wy, M, Q2, E2, sr, r1, r2, ⟨b, e, q2⟩, pq, px⟩ := q
  cases wx with
  | d x1 =>
    cases wy with
    | d y1 =>
      have e : ordD p ps x1 y1 = some b := e
      cases x1 with
      | int i =>
        cases y1 with
        | int j =>
          cases (show some (p i j) = some b from e)
          exact hi pins s σ H _ _ v u Q I rx ry ⟨i, j, r1, r2, q_bool sr q2 pq⟩
        | _ => exact nomatch (show (none : Option Bool) = some b from e)
      | str i =>
        cases y1 with
        | str j =>
          cases (show some (ps i j) = some b from e)
          exact hs pins s σ H _ _ v u Q I rx ry ⟨i, j, r1.1, r2.1, q_bool sr q2 pq⟩
        | _ => exact nomatch (show (none : Option Bool) = some b from e)
      | _ => exact nomatch (show (none : Option Bool) = some b from e)
    | _ => exact nomatch (show (none : Option Bool) = some b from e)
  | _ => exact nomatch (show (none : Option Bool) = some b from e)
def oLt : R22 := oOrd (fun i j => decide (i < j)) fun a b => decide (a.cps.toList < b.cps.toList)
def oLe : R22 := oOrd (fun i j => decide (i ≤ j)) fun a b => !decide (b.cps.toList < a.cps.toList)
def oGt : R22 := oOrd (fun i j => decide (j < i)) fun a b => decide (b.cps.toList < a.cps.toList)
def oGe : R22 := oOrd (fun i j => decide (j ≤ i)) fun a b => !decide (a.cps.toList < b.cps.toList)
theorem op2_lt : Op2 X T Wx (compareOp .Lt) oLt := op_ord op_lt op_lt_str
theorem op2_gt : Op2 X T Wx (compareOp .Gt) oGt := op_ord op_gt op_gt_str
theorem op2_le : Op2 X T Wx (compareOp .LtE) oLe := op_ord op_le op_le_str
theorem op2_ge : Op2 X T Wx (compareOp .GtE) oGe := op_ord op_ge op_ge_str

/-! ### ==, != of data -/
def oEq (neg : Bool) : R22 := fun x y M Q _ => (∃ p q, toPyW M x = some p ∧ toPyW M y = some q ∧ SeqAt.shaped p = true ∧ SeqAt.shaped q = true ∧ Q (.d (.bool (if neg = true then !PyData.eqv p q else PyData.eqv p q))) M) ∨ ∃ a b : Str, x = .d (.str a) ∧ y = .d (.str b) ∧ Q (.d (.bool (if neg = true then !(a == b) else a == b))) M
theorem op2_eq (C : Ctx T k N mg X Wx sc) : Op2 X T Wx (compareOp .Eq) (oEq false) := by
  intro pins s σ H x y v u Q I rx ry q
  obtain ⟨G, wx, wy, M, Q2, E2, sr, r1, r2, ⟨p, q, e1, e2, s1, s2, q2⟩ | ⟨a, b, rfl, rfl, q2⟩, pq, px⟩ := q
  · exact op_eqD C.room.units pins s σ H x y v u Q I rx ry ⟨p, q, by rw [C.eK]; exact toPyW_low sr r1 e1, by rw [C.eK]; exact toPyW_low sr r2 e2, s1, s2, q_bool sr q2 pq⟩
  · refine op_eq pins s σ H x y v u Q I rx ry ?_
    obtain ⟨rfl, _⟩ := (show x = .str a ∧ _ from r1)
    obtain ⟨rfl, _⟩ := (show y = .str b ∧ _ from r2)
    refine ⟨rfl, ?_⟩
    rw [dec_str]
    exact q_bool sr q2 pq
theorem op2_ne (C : Ctx T k N mg X Wx sc) : Op2 X T Wx (compareOp .NotEq) (oEq true) := by
  intro pins s σ H x y v u Q I rx ry q
  obtain ⟨G, wx, wy, M, Q2, E2, sr, r1, r2, ⟨p, q, e1, e2, s1, s2, q2⟩ | ⟨a, b, rfl, rfl, q2⟩, pq, px⟩ := q
  · exact op_neD C.room.units pins s σ H x y v u Q I rx ry ⟨p, q, by rw [C.eK]; exact toPyW_low sr r1 e1, by rw [C.eK]; exact toPyW_low sr r2 e2, s1, s2, q_bool sr q2 pq⟩
  · refine op_ne pins s σ H x y v u Q I rx ry ?_
    obtain ⟨rfl, _⟩ := (show x = .str a ∧ _ from r1)
    obtain ⟨rfl, _⟩ := (show y = .str b ∧ _ from r2)
    refine ⟨rfl, ?_⟩
    rw [dec_str]
    exact q_bool sr q2 pq
/-- is None, is not None; is True, is False -/
def isNon : W → Bool
  | .d .none => true
  | _ => false
def oIsN (neg : Bool) : R22 := fun x y M Q _ => y = .d .none ∧ Q (.d (.bool (if neg = true then !isNon x else isNon x))) M
theorem isNon_low {G : Hp} {w : W} {v : V} (r : RW T G w v) : isNon w = decide (v = .non) := by
  cases w with
  | d x =>
    cases x with
    | none => cases (show v = .non from r); rfl
    | bool b => cases (show v = .bl b from r); rfl
    | int b => cases (show v = .int b from r); rfl
    | str b => cases (show v = .str b from r.1); rfl
    | lst b => obtain ⟨a, vs, e, _⟩ := (show ∃ a vs, v = .ref a ∧ G a = some (.lst vs) ∧ RpL T G b vs from r); subst e; rfl
    | tup b => obtain ⟨a, vs, e, _⟩ := (show ∃ a vs, v = .ref a ∧ SqT T.K G a vs ∧ RpL T G b vs from r); subst e; rfl
    | dic b => obtain ⟨a, o, vs, e, _⟩ := (show ∃ a o vs, v = .ref a ∧ G a = some o ∧ unl o = .dK vs ∧ RpK T G b vs from r); subst e; rfl
    | dit b => obtain ⟨a, o, vs, e, _⟩ := (show ∃ a o vs, v = .ref a ∧ G a = some o ∧ unl o = .dT vs ∧ RpT T G b vs from r); subst e; rfl
    | obj c b => obtain ⟨a, dx, vs, e, _⟩ := (show ∃ a dx vs, v = .ref a ∧ G a = some (.ins (T.cls c) dx vs) ∧ RpF T G b vs from r); subst e; rfl
  | c a => cases (show v = .ref a from r); rfl
  | r xs => obtain ⟨a, vs, e, _⟩ := (show ∃ a vs, v = .ref a ∧ SqL T.K G a vs ∧ RpL T G xs vs from r); subst e; rfl
theorem op2_is : Op2 X T Wx (compareOp .Is) (oIsN false) := by
  intro pins s σ H x y v u Q I rx ry q
  obtain ⟨G, wx, wy, M, Q2, E2, sr, r1, r2, ⟨e, q2⟩, pq, px⟩ := q
  subst e
  refine op_isN pins s σ H x y v u Q I rx ry ⟨r2, ?_⟩
  rw [← isNon_low r1]
  exact q_bool sr q2 pq
theorem op2_isnot : Op2 X T Wx (compareOp .IsNot) (oIsN true) := by
  intro pins s σ H x y v u Q I rx ry q
  obtain ⟨G, wx, wy, M, Q2, E2, sr, r1, r2, ⟨e, q2⟩, pq, px⟩ := q
  subst e
  refine op_notN pins s σ H x y v u Q I rx ry ⟨r2, ?_⟩
  rw [← isNon_low r1]
  exact q_bool sr q2 pq

/-! ### in, of lists and tuples of flat items, of texts -/
def flD : D → Option V
  | .none => some .non
  | .bool b => some (.bl b)
  | .int i => some (.int i)
  | .str s => some (.str s)
  | _ => none
def flL : List W → Option (List V)
  | [] => some []
  | .d x :: r => (flD x).bind fun v => (flL r).map (v :: ·)
  | _ :: _ => none
theorem flD_low {G : Hp} {x : D} {v v' : V} (r : Rp T G x v) (h : flD x = some v') : v = v' ∧ flatV v' = true := by
  cases x with
  | none => cases (show v = .non from r); cases (show some V.non = some v' from h); exact ⟨rfl, rfl⟩
  | bool b => cases (show v = .bl b from r); cases (show some (V.bl b) = some v' from h); exact ⟨rfl, rfl⟩
  | int b => cases (show v = .int b from r); cases (show some (V.int b) = some v' from h); exact ⟨rfl, rfl⟩
  | str b => cases (show v = .str b from r.1); cases (show some (V.str b) = some v' from h); exact ⟨rfl, rfl⟩
  | _ => exact nomatch (show (none : Option V) = some v' from h)
theorem flL_low {G : Hp} : ∀ {ws : List W} {vs us : List V}, RWs T G ws vs → flL ws = some us → vs = us ∧ us.all flatV = true
  | [], _, _, .nil, h => by cases (show some [] = some _ from h); exact ⟨rfl, rfl⟩
  | .d x :: r, v :: vs, us, .cons a t, h => by
    have h : ((flD x).bind fun v => (flL r).map (v :: ·)) = some us := h
    cases e : flD x with
    | none => rw [e] at h; cases h
    | some v' =>
      cases e2 : flL r with
      | none => rw [e, Option.bind_some, e2] at h; cases h
      | some us' =>
        rw [e, Option.bind_some, e2] at h
        cases h
        obtain ⟨h1, h2⟩ := flD_low (show Rp T G x v from a) e
        obtain ⟨h3, h4⟩ := flL_low t e2
        exact ⟨by rw [h1, h3], by rw [List.all_cons, h2, h4]; rfl⟩
  | .c _ :: _, _, _, _, h => nomatch (show (none : Option (List V)) = some _ from h)
  | .r _ :: _, _, _, _, h => nomatch (show (none : Option (List V)) = some _ from h)
def itemsT : D → Option (List D)
  | .lst xs => some xs
  | .tup xs => some xs
  | _ => none
/-- the items of a list or a tuple -/
def seqW (M : Mp) : W → Option (List W)
  | .d x => (itemsT x).map (·.map W.d)
  | .c a => itemsC (M a)
  | .r xs => some (xs.map W.d)
theorem seqW_low {G H : Hp} {M : Mp} (sr : SR T G H M) {w : W} {v : V} {ws : List W} (r : RW T G w v) (h : seqW M w = some ws) : ∃ a vs, v = .ref a ∧ (SqL T.K H a vs ∨ SqT T.K H a vs) ∧ RWs T G ws vs := by
  cases w with
  | d x =>
    cases x with
    | lst xs =>
      obtain ⟨a, vs, e, e2, rr⟩ := (show ∃ a vs, v = .ref a ∧ G a = some (.lst vs) ∧ RpL T G xs vs from r)
      cases (show some (xs.map W.d) = some ws from h)
      exact ⟨a, vs, e, .inl (SqL.of (sr.le _ _ e2)), rr.to⟩
    | tup xs =>
      obtain ⟨a, vs, e, e2, rr⟩ := (show ∃ a vs, v = .ref a ∧ SqT T.K G a vs ∧ RpL T G xs vs from r)
      cases (show some (xs.map W.d) = some ws from h)
      exact ⟨a, vs, e, .inr ((Mo.of sr.le).seqT e2), rr.to⟩
    | _ => exact nomatch (show (none : Option (List W)) = some ws from h)
  | r xs => obtain ⟨a, vs, e, h1, h2⟩ := listW_low sr r h; exact ⟨a, vs, e, .inl h1, h2⟩
  | c a => obtain ⟨a, vs, e, h1, h2⟩ := listW_low sr r h; exact ⟨a, vs, e, .inl h1, h2⟩
def strD : W → Option Str
  | .d (.str s) => some s
  | _ => none
theorem strD_eq {w : W} {s : Str} (h : strD w = some s) : w = .d (.str s) := by
  cases w with
  | d x =>
    cases x with
    | str z => cases (show some z = some s from h); rfl
    | _ => exact nomatch (show (none : Option Str) = some s from h)
  | _ => exact nomatch (show (none : Option Str) = some s from h)
/-- x in y: y a list or a tuple of flat items, or a text of which x is one sign -/
def oIn (neg : Bool) : R22 := fun x y M Q _ => (∃ ws vs x' v, seqW M y = some ws ∧ flL ws = some vs ∧ x = .d x' ∧ flD x' = some v ∧ Q (.d (.bool (if neg = true then !inV v vs else inV v vs))) M) ∨
  ∃ z s c, strD y = some z ∧ strD x = some s ∧ s = ⟨#[c]⟩ ∧ Q (.d (.bool (if neg = true then !decide (c ∈ z.cps.toList) else decide (c ∈ z.cps.toList)))) M
theorem op_inW {neg : Bool} {f : Value → Value → Sem Value} (h1 : OpR X f (rIn X.K neg)) (h2 : OpR X f (fun x y H Q => ∃ (c : Nat) (z : Str), x = .str ⟨#[c]⟩ ∧ y = .str z ∧ Q (.bl (if neg = true then !decide (c ∈ z.cps.toList) else decide (c ∈ z.cps.toList))) H)) (hK : X.K = T.K) : Op2 X T Wx f (oIn neg) := by
  intro pins s σ H x y v u Q I rx ry q
  obtain ⟨G, wx, wy, M, Q2, E2, sr, r1, r2, q2, pq, px⟩ := q
  rcases q2 with ⟨ws, vs, x', v', e1, e2, rfl, e3, q2⟩ | ⟨z, t, c, e1, e2, rfl, q2⟩
  · obtain ⟨a, us, e, hs, rr⟩ := seqW_low sr r2 e1
    obtain ⟨h3, h4⟩ := flL_low rr e2
    obtain ⟨h5, h6⟩ := flD_low (show Rp T G x' x from r1) e3
    subst h3
    subst h5
    exact h1 pins s σ H _ _ v u Q I rx ry ⟨a, _, e, by rw [hK]; exact hs, h6, h4, q_bool sr q2 pq⟩
  · cases strD_eq e1
    cases strD_eq e2
    exact h2 pins s σ H _ _ v u Q I rx ry ⟨c, z, r1.1, r2.1, q_bool sr q2 pq⟩
theorem op2_in (hK : X.K = T.K) : Op2 X T Wx (compareOp .In) (oIn false) := op_inW op_in_seq op_in_sign hK
theorem op2_notin (hK : X.K = T.K) : Op2 X T Wx (compareOp .NotIn) (oIn true) := op_inW op_notIn_seq op_notIn_sign hK

/-! ### subscripts -/
def ixStr (z : Str) (i : Int) : Option Str := (atI z.cps.toList i).map fun c => ⟨#[c]⟩
def oIx : R22 := fun x y M Q _ => ∃ i, y = .d (.int i) ∧ ((∃ ws w, seqW M x = some ws ∧ atI ws i = some w ∧ Q w M) ∨ ∃ z t, strD x = some z ∧ ixStr z i = some t ∧ Q (.d (.str t)) M)
theorem RWs.get {G : Hp} {ws : List W} {vs : List V} (r : RWs T G ws vs) {i : Nat} {w : W} (h : ws[i]? = some w) : ∃ v, vs[i]? = some v ∧ RW T G w v := by
  induction r generalizing i with
  | nil => simp at h
  | cons a t ih =>
    cases i with
    | zero => simp at h; subst h; exact ⟨_, by simp, a⟩
    | succ i => simp at h; obtain ⟨v, h1, h2⟩ := ih h; exact ⟨v, by simpa using h1, h2⟩
theorem atI_low {G : Hp} {ws : List W} {vs : List V} (r : RWs T G ws vs) {i : Int} {w : W} (h : atI ws i = some w) : ∃ v, atI vs i = some v ∧ RW T G w v := by
  unfold atI at h ⊢
  rw [r.len] at h
  cases e : ixN vs.length i with
  | none => rw [e] at h; cases h
  | some j => rw [e] at h; exact r.get h
theorem ixR2 (hK : X.K = T.K) {a b : Expr} {ta tb : TE2} {pos : Pos} (ha : PE X a (lowE T Wx ta)) (hb : PE X b (lowE T Wx tb)) (hs : PlainIx b) :
    PE X (.Subscript a b pos) (lowE T Wx (wBin oIx ta tb)) := (pe_ix ix_seq ha hb hs).imp fun σ H Q h => by
  obtain ⟨G, σ2, M, Q2, E2, sr, rs, q2, pq, px⟩ := h
  refine ⟨G, σ2, M, _, E2, sr, rs, q2, fun wx M1 G1 H1 x m1 sr1 rx q3 => ?_, px⟩
  refine ⟨G1, σ2, M1, _, E2, sr1, rs.mono m1, q3, fun wy M2 G2 H2 y m2 sr2 ry q4 => ?_, px.mono m1⟩
  obtain ⟨i, rfl, q4⟩ := q4
  rcases q4 with ⟨ws, w, e1, e2, q4⟩ | ⟨z, t, e1, e2, q4⟩
  · obtain ⟨p, vs, e, hs, rr⟩ := seqW_low sr2 (rx.mono m2) e1
    obtain ⟨v, e3, r3⟩ := atI_low rr e2
    have q : Q v H2 := pq w M2 G2 H2 v (m1.trans m2) sr2 r3 q4
    rcases hs with hs | hs
    · exact .inl ⟨p, vs, i, v, e, ry, by rw [hK]; exact hs, e3, q⟩
    · exact .inr (.inl ⟨p, vs, i, v, e, ry, by rw [hK]; exact hs, e3, q⟩)
  · cases strD_eq e1
    have hz := (show x = .str z ∧ z.length ≤ sizeLine from rx)
    cases e3 : atI z.cps.toList i with
    | none => unfold ixStr at e2; rw [e3] at e2; cases e2
    | some c =>
      unfold ixStr at e2
      rw [e3] at e2
      cases e2
      exact .inr (.inr ⟨z, i, c, hz.1, ry, hz.2, e3, pq _ M2 G2 H2 _ (m1.trans m2) sr2 (show RW T G2 (.d (.str ⟨#[c]⟩)) (.str ⟨#[c]⟩) from ⟨rfl, by rw [sizeLine_eq]; show 1 ≤ 16777216; decide⟩) q4⟩)
end
end Z
set_option maxHeartbeats 4000000
/-! Z5: slices, built-in functions and methods -/
namespace Z
open PySem PySem.Spec PyProof.Rows L2
section
variable {X : Cx} {T : Tab} {Wx : WX} {k : Nat} {N : List Str} {mg : Str → Option Value} {sc : Scope}
/-! ### slices -/
abbrev TO2 := St2 → Mp → (Option Int → Mp → Prop) → XK2 → Prop
def PI2 (T : Tab) (G : Hp) (Q2 : Option Int → Mp → Prop) (Q1 : Option Int → Hp → Prop) : Prop := ∀ o M' G' H', Mo G G' → SR T G' H' M' → Q2 o M' → Q1 o H'
theorem PI2.mono {G G' : Hp} {Q2 : Option Int → Mp → Prop} {Q1 : Option Int → Hp → Prop} (e : Mo G G') (h : PI2 T G Q2 Q1) : PI2 T G' Q2 Q1 := fun w M' G'' H' a b c => h w M' G'' H' (e.trans a) b c
def lowO (T : Tab) (Wx : WX) (t : TO2) : TO := fun σ1 H Q1 => ∃ G σ2 M Q2 E2, SR T G H M ∧ RS T G σ2 σ1 ∧ t σ2 M Q2 E2 ∧ PI2 T G Q2 Q1 ∧ PX T Wx G σ1 E2
theorem _root_.L2.PO.imp {e : Option Expr} {t t' : TO} (h : PO X e t) (i : ∀ σ H Q, t' σ H Q → t σ H Q) : PO X e t' := ⟨fun pins s σ H Q I q => h.run pins s σ H Q I (i _ _ _ q)⟩
def wNoP : TO2 := fun _ M Q _ => Q none M
def wPart (t : TE2) : TO2 := fun σ M Q E => t σ M (fun x M1 => ∃ i, x = .d (.int i) ∧ Q (some i) M1) E
theorem o_none : PO X none (lowO T Wx wNoP) := po_none.imp fun σ H Q h => by
  obtain ⟨G, σ2, M, Q2, E2, sr, rs, q2, pq, px⟩ := h
  exact pq _ M G H (Mo.refl _) sr q2
theorem o_some {e : Expr} {te : TE2} (h : PE X e (lowE T Wx te)) : PO X (some e) (lowO T Wx (wPart te)) := (po_some h).imp fun σ H Q h => by
  obtain ⟨G, σ2, M, Q2, E2, sr, rs, q2, pq, px⟩ := h
  refine ⟨G, σ2, M, _, E2, sr, rs, q2, fun w M1 G1 H1 v m1 sr1 rw1 q3 => ?_, px⟩
  obtain ⟨i, rfl, q3⟩ := q3
  exact ⟨i, rw1, pq _ M1 G1 H1 m1 sr1 q3⟩
def cutW {α : Type} (xs : List α) (lo hi : Option Int) : List α := (xs.drop (HT.sIx xs.length 0 lo)).take (HT.sIx xs.length xs.length hi - HT.sIx xs.length 0 lo)
theorem Paired.drop {α β : Type} {F : α → β → Prop} : ∀ (n : Nat) {a : List α} {c : List β}, Paired F a c → Paired F (a.drop n) (c.drop n)
  | 0, _, _, h => h
  | _ + 1, _, _, .nil => .nil
  | n + 1, _, _, .cons _ t => Paired.drop n t
theorem Paired.take {α β : Type} {F : α → β → Prop} : ∀ (n : Nat) {a : List α} {c : List β}, Paired F a c → Paired F (a.take n) (c.take n)
  | 0, _, _, _ => .nil
  | _ + 1, _, _, .nil => .nil
  | n + 1, _, _, .cons r t => .cons r (Paired.take n t)
theorem cut_low {G : Hp} {ws : List W} {vs : List V} (r : RWs T G ws vs) (lo hi : Option Int) : RWs T G (cutW ws lo hi) (cutV vs lo hi) := by
  unfold cutW cutV
  rw [r.len]
  exact Paired.take _ (Paired.drop _ r)
def tupD : W → Option (List D)
  | .d (.tup xs) => some xs
  | _ => none
theorem tupD_eq {w : W} {s : List D} (h : tupD w = some s) : w = .d (.tup s) := by
  cases w with
  | d x =>
    cases x with
    | tup z => cases (show some z = some s from h); rfl
    | _ => exact nomatch (show (none : Option (List D)) = some s from h)
  | _ => exact nomatch (show (none : Option (List D)) = some s from h)
/-- x[lo:hi]; m: a new list is a cell -/
def oSl (m : Bool) (x : W) (lo hi : Option Int) (M : Mp) (Q : VK2) : Prop := (∃ ws, listW M x = some ws ∧ newL m (cutW ws lo hi) M Q) ∨ (∃ xs, tupD x = some xs ∧ Q (.d (.tup (cutW xs lo hi))) M) ∨ ∃ z, strD x = some z ∧ Q (.d (.str (cutS z lo hi))) M
def wSl (m : Bool) (te : TE2) (tl th : TO2) : TE2 := fun σ M Q E => te σ M (fun x M1 => tl σ M1 (fun l M2 => th σ M2 (fun u M3 => oSl m x l u M3 Q) E) E) E
theorem cutW_map {α β : Type} (f : α → β) (xs : List α) (lo hi : Option Int) : cutW (xs.map f) lo hi = (cutW xs lo hi).map f := by
  unfold cutW
  rw [List.length_map, List.map_take, List.map_drop]
theorem cutW_all {α : Type} (xs : List α) (lo hi : Option Int) (h : HT.sIx xs.length 0 lo = 0 ∧ HT.sIx xs.length xs.length hi = xs.length) : cutW xs lo hi = xs := by
  unfold cutW
  rw [h.1, h.2, List.drop_zero, Nat.sub_zero, List.take_length]
theorem cutS_len (z : Str) (lo hi : Option Int) : (cutS z lo hi).length ≤ z.length := by
  show ((z.cps.toList.drop _).take _).toArray.size ≤ z.cps.size
  rw [List.size_toArray, List.length_take, List.length_drop, Array.length_toList]
  omega
variable {e : Expr} {te : TE2} {lo hi : Option Expr} {tl th : TO2} {pos p2 : Pos}
theorem e_slice (hK : X.K = T.K) {m : Bool} (he : PE X e (lowE T Wx te)) (hl : PO X lo (lowO T Wx tl)) (hu : PO X hi (lowO T Wx th)) : PE X (.Subscript e (.Slice lo hi none p2) pos) (lowE T Wx (wSl m te tl th)) :=
  (pe_slice (sl_list.or (sl_tupA.or sl_str)) he hl hu).imp fun σ H Q h => by
    obtain ⟨G, σ2, M, Q2, E2, sr, rs, q2, pq, px⟩ := h
    refine ⟨G, σ2, M, _, E2, sr, rs, q2, fun w M1 G1 H1 v m1 sr1 rw1 q3 => ?_, px⟩
    refine ⟨G1, σ2, M1, _, E2, sr1, rs.mono m1, q3, fun l M2 G2 H2 m2 sr2 q4 => ?_, px.mono m1⟩
    refine ⟨G2, σ2, M2, _, E2, sr2, rs.mono (m1.trans m2), q4, fun u M3 G3 H3 m3 sr3 q5 => ?_, px.mono (m1.trans m2)⟩
    have mo := (m1.trans m2).trans m3
    have r3 := RW.mono (m2.trans m3) rw1
    rcases q5 with ⟨ws, e1, q5⟩ | ⟨xs, e1, q5⟩ | ⟨z, e1, q5⟩
    · obtain ⟨a, vs, rfl, hs, rr⟩ := listW_low sr3 r3 e1
      exact .inl ⟨a, vs, rfl, by rw [hK]; exact hs, fun p hp => newL_low sr3 (cut_low rr l u) q5 (pq.mono mo) hp⟩
    · cases tupD_eq e1
      obtain ⟨a, vs, rfl, hs, rr⟩ := (show ∃ a vs, v = .ref a ∧ SqT T.K G3 a vs ∧ RpL T G3 xs vs from r3)
      refine .inr (.inl ⟨a, vs, rfl, by rw [hK]; exact (Mo.of sr3.le).seqT hs, fun w => ?_, fun _ p hp => ?_⟩)
      · rw [← rr.len] at w
        rw [cutW_all xs l u w] at q5
        exact pq _ M3 G3 H3 _ mo sr3 (show RW T G3 (.d (.tup xs)) (.ref a) from ⟨a, vs, rfl, hs, rr⟩) q5
      · have c := cut_low rr.to l u
        rw [cutW_map] at c
        exact q_tup sr3 (RpL.of c) q5 (pq.mono mo) hp
    · cases strD_eq e1
      obtain ⟨h1, h2⟩ := (show v = .str z ∧ z.length ≤ sizeLine from r3)
      exact .inr (.inr ⟨z, h1, h2, q_str sr3 (Nat.le_trans (cutS_len z l u) h2) q5 (pq.mono mo)⟩)

/-! ### built-in functions by their names -/
abbrev RC2 := List W → Mp → VK2 → Prop
def lowB (T : Tab) (r : RC2) : List V → Hp → VK → Prop := fun vs H Q1 => ∃ G ws M Q2, SR T G H M ∧ RWs T G ws vs ∧ r ws M Q2 ∧ PQ T G Q2 Q1
def wCB (r : RC2) (t : TA2) : TE2 := fun σ M Q E => t σ M (fun ws M1 => r ws M1 Q) E
theorem low_cb {r : RC2} {t : TA2} {σ : L2.St} {H : Hp} {Q : VK} (h : lowE T Wx (wCB r t) σ H Q) : tCB (lowB T r) (lowA T Wx t) σ H Q := by
  obtain ⟨G, σ2, M, Q2, E2, sr, rs, q2, pq, px⟩ := h
  exact ⟨G, σ2, M, _, E2, sr, rs, q2, fun ws M1 G1 H1 vs m1 sr1 rw1 q3 => ⟨G1, ws, M1, Q2, sr1, rw1, q3, pq.mono m1⟩, px⟩
theorem RWs.one {G : Hp} {w : W} {vs : List V} (h : RWs T G [w] vs) : ∃ v, vs = [v] ∧ RW T G w v := by
  cases h with
  | cons a t => cases t; exact ⟨_, rfl, a⟩
theorem RWs.two {G : Hp} {w w' : W} {vs : List V} (h : RWs T G [w, w'] vs) : ∃ v v', vs = [v, v'] ∧ RW T G w v ∧ RW T G w' v' := by
  cases h with
  | cons a t =>
    obtain ⟨v, e, r⟩ := RWs.one t
    rw [e]
    exact ⟨_, v, rfl, a, r⟩
/-- len -/
def rLen : RC2 := fun ws M Q => ∃ w, ws = [w] ∧ ((∃ us, seqW M w = some us ∧ Q (.d (.int us.length)) M) ∨ ∃ z, strD w = some z ∧ Q (.d (.int z.length)) M)
theorem b_len (hK : X.K = T.K) : CallR X (.builtin "len") (lowB T rLen) := (call_len_seq.or call_len_str).imp fun vs H Q h => by
  obtain ⟨G, ws, M, Q2, sr, rz, ⟨w, rfl, q⟩, pq⟩ := h
  obtain ⟨v, rfl, r⟩ := rz.one
  rcases q with ⟨us, e, q⟩ | ⟨z, e, q⟩
  · obtain ⟨a, xs, rfl, hs, rr⟩ := seqW_low sr r e
    exact .inl ⟨a, xs, rfl, by rw [hK]; exact hs, by rw [← rr.len]; exact q_int sr q pq⟩
  · cases strD_eq e
    obtain ⟨h1, h2⟩ := (show v = .str z ∧ z.length ≤ sizeLine from r)
    subst h1
    exact .inr ⟨z, rfl, h2, q_int sr q pq⟩
/-- list(x) -/
def rList (m : Bool) : RC2 := fun ws M Q => ∃ w us, ws = [w] ∧ seqW M w = some us ∧ newL m us M Q
theorem b_list (hK : X.K = T.K) (m : Bool) : CallR X (.type "list") (lowB T (rList m)) := call_list_of.imp fun vs H Q h => by
  obtain ⟨G, ws, M, Q2, sr, rz, ⟨w, us, rfl, e, q⟩, pq⟩ := h
  obtain ⟨v, rfl, r⟩ := rz.one
  obtain ⟨a, xs, rfl, hs, rr⟩ := seqW_low sr r e
  exact ⟨a, xs, rfl, by rw [hK]; exact hs, fun p hp => newL_low sr rr q pq hp⟩
/-- tuple(x) -/
def rTuple : RC2 := fun ws M Q => ∃ w us ds, ws = [w] ∧ seqW M w = some us ∧ unD us = some ds ∧ Q (.d (.tup ds)) M
theorem b_tuple (hK : X.K = T.K) : CallR X (.type "tuple") (lowB T rTuple) := call_tuple_of.imp fun vs H Q h => by
  obtain ⟨G, ws, M, Q2, sr, rz, ⟨w, us, ds, rfl, e, e2, q⟩, pq⟩ := h
  obtain ⟨v, rfl, r⟩ := rz.one
  cases unD_eq e2
  have lst : listW M w = some (ds.map W.d) → ∃ p ys, [v] = [V.ref p] ∧ ((SqL X.K H p ys ∧ ∀ l, H l = none → Q (.ref l) (upd H l (.tup ys))) ∨ (SqT X.K H p ys ∧ Q (.ref p) H)) := fun e => by
    obtain ⟨a, xs, rfl, h2, rr2⟩ := listW_low sr r e
    exact ⟨a, xs, rfl, .inl ⟨by rw [hK]; exact h2, fun p hp => q_tup sr (RpL.of rr2) q pq hp⟩⟩
  cases w with
  | d x =>
    cases x with
    | tup ys =>
      have ey : ys = ds := by
        have := congrArg (fun o => o.bind unD) e
        simpa [seqW, itemsT] using this
      subst ey
      obtain ⟨a, xs, rfl, hs, rr⟩ := (show ∃ a' vs, v = .ref a' ∧ SqT T.K G a' vs ∧ RpL T G ys vs from r)
      exact ⟨a, xs, rfl, .inr ⟨by rw [hK]; exact (Mo.of sr.le).seqT hs, pq _ M G H _ (Mo.refl _) sr (show RW T G (.d (.tup ys)) (.ref a) from ⟨a, xs, rfl, hs, rr⟩) q⟩⟩
    | lst ys => exact lst e
    | _ => exact nomatch (show (none : Option (List W)) = some _ from e)
  | c b => exact lst e
  | r b => exact lst e
/-- int(i) -/
def rInt : RC2 := fun ws M Q => ∃ i, ws = [.d (.int i)] ∧ Q (.d (.int i)) M
theorem b_int : CallR X (.type "int") (lowB T rInt) := call_int1.imp fun vs H Q h => by
  obtain ⟨G, ws, M, Q2, sr, rz, ⟨i, rfl, q⟩, pq⟩ := h
  obtain ⟨v, rfl, r⟩ := rz.one
  exact .inl ⟨i, by rw [show v = .int i from r], q_int sr q pq⟩
/-- str(s) -/
def rStr : RC2 := fun ws M Q => ∃ i, ws = [.d (.str i)] ∧ Q (.d (.str i)) M
theorem b_str : CallR X (.type "str") (lowB T rStr) := SkE.call_str_str.imp fun vs H Q h => by
  obtain ⟨G, ws, M, Q2, sr, rz, ⟨i, rfl, q⟩, pq⟩ := h
  obtain ⟨v, rfl, r⟩ := rz.one
  obtain ⟨h1, h2⟩ := (show v = .str i ∧ i.length ≤ sizeLine from r)
  exact ⟨i, by rw [h1], q_str sr h2 q pq⟩
/-- repr(x) -/
def rRepr : RC2 := fun ws M Q => ∃ w p, ws = [w] ∧ toPyW M w = some p ∧ PyData.showable p = true ∧ p.depth ≤ 100 ∧ (PyData.shown p).length ≤ sizeLine ∧ Q (.d (.str (PyData.shown p))) M
mutual
theorem nodict {K : PySem.W.Frag} {H : Hp} : ∀ (p : PyData) (v : V), Dp K H v p → PyData.hasDict p = false
  | .none, _, _ => rfl
  | .bool _, _, _ => rfl
  | .int _, _, _ => rfl
  | .str _, _, _ => rfl
  | .list xs, _, h => by
    cases h with
    | lst _ a => exact nodictL xs _ a
  | .tuple xs, _, h => by
    cases h with
    | tup _ a => exact nodictL xs _ a
  | .dict _, _, h => by cases h
theorem nodictL {K : PySem.W.Frag} {H : Hp} : ∀ (p : List PyData) (v : List V), DpAll K H v p → PyData.hasDictAll p = false
  | [], _, _ => rfl
  | p :: ps, _, h => by
    cases h with
    | cons a t =>
      show (PyData.hasDict p || PyData.hasDictAll ps) = false
      rw [nodict p _ a, nodictL ps _ t]
      rfl
end
theorem b_repr (C : Ctx T k N mg X Wx sc) : CallR X (.builtin "repr") (lowB T rRepr) := by
  intro pins s σ H xs us Q I r h
  obtain ⟨G, ws, M, Q2, sr, rw1, ⟨w, p, rfl, e, hs, hd, hz, q⟩, pq⟩ := h
  obtain ⟨v, rfl, rv⟩ := rw1.one
  have dp := toPyW_low sr rv e
  obtain ⟨u, rfl, ru⟩ := vals1 r
  have q1 : Q (.str (PyData.shown p)) H := q_str sr hz q pq
  have nd := nodict p v dp
  obtain ⟨as, rd⟩ := Dp.reads I p v u (by rw [C.eK]; exact dp) ru
  have hun := C.room.un
  cases rd with
  | none => exact P.repr_of_none ⟨V.str (PyData.shown .none), H, I.tok _, ⟨_, rfl⟩, q1⟩
  | bool b => exact P.repr_of_bool ⟨V.str (PyData.shown (.bool b)), H, I.tok _, ⟨_, rfl⟩, q1⟩
  | int i t => exact P.repr_of_int (by simpa [PyData.showable] using hs) ⟨V.str (PyData.shown (.int i)), H, I.tok _, ⟨_, rfl⟩, q1⟩
  | str x t => exact P.repr_of_str ⟨V.str (PyData.shown (.str x)), H, I.tok _, ⟨_, rfl⟩, q1⟩ hz
  | list a b c d =>
    exact repr_of_reads' (.list a b c d) hs (PyData.noDict_hsm nd) C.gd (by omega) (fun _ _ z => z) (fun h' u tk hk => ⟨V.str (PyData.shown _), H, I.kept hk, ⟨_, rfl⟩, q1⟩) hz
  | tuple a b c d =>
    exact repr_of_reads' (.tuple a b c d) hs (PyData.noDict_hsm nd) C.gd (by omega) (fun _ _ z => z) (fun h' u tk hk => ⟨V.str (PyData.shown _), H, I.kept hk, ⟨_, rfl⟩, q1⟩) hz
  | dict a b c d d2 => exact nomatch nd
end
end Z
set_option maxHeartbeats 4000000
/-! Z6: methods of built-in types, defs and their promises -/
namespace Z
open PySem PySem.Spec PyProof.Rows L2
section
variable {X : Cx} {T : Tab} {Wx : WX} {k : Nat} {N : List Str} {mg : Str → Option Value} {sc : Scope}
abbrev RM2 := W → List W → Mp → VK2 → Prop
def lowM (T : Tab) (r : RM2) : V → List V → Hp → VK → Prop := fun x vs H Q1 => ∃ G w ws M Q2, SR T G H M ∧ RW T G w x ∧ RWs T G ws vs ∧ r w ws M Q2 ∧ PQ T G Q2 Q1
theorem _root_.L2.MtR.imp {id : String} {r r' : V → List V → Hp → VK → Prop} (h : MtR X id r) (i : ∀ x vs H Q, r' x vs H Q → r x vs H Q) : MtR X id r' :=
  fun pins s σ H x xs v us Q I rx rs q => h pins s σ H x xs v us Q I rx rs (i _ _ _ _ q)
def okL (x : W) (M : Mp) : Prop := ∃ us, listW M x = some us
def okS (x : W) (_ : Mp) : Prop := ∃ z, strD x = some z
def wBM (ok : W → Mp → Prop) (r : RM2) (to : TE2) (ta : TA2) : TE2 := fun σ M Q E => to σ M (fun x M1 => ok x M1 ∧ ta σ M1 (fun ws M2 => r x ws M2 Q) E) E
def wBM0 (ok : W → Mp → Prop) (r : RM2) (to : TE2) : TE2 := fun σ M Q E => to σ M (fun x M1 => ok x M1 ∧ r x [] M1 Q) E
structure OkTy (T : Tab) (K : PySem.W.Frag) (Ty : String) (ok : W → Mp → Prop) : Prop where
  ty : ∀ {G H : Hp} {M : Mp} {w : W} {v : V}, SR T G H M → RW T G w v → ok w M → tyV K Ty v H
theorem okL_ty (hK : X.K = T.K) : OkTy T X.K "list" okL := ⟨fun {G H M w v} sr r ⟨us, e⟩ => by
  obtain ⟨a, vs, rfl, h, _⟩ := listW_low sr r e
  exact .inl ⟨rfl, vs, by rw [hK]; exact h⟩⟩
theorem okS_ty {K : PySem.W.Frag} : OkTy T K "str" okS := ⟨fun {G H M w v} sr r ⟨us, e⟩ => by
  cases strD_eq e
  rw [show v = .str us from r.1]
  rfl⟩
theorem low_bm {K : PySem.W.Frag} {Ty : String} {ok : W → Mp → Prop} (hk : OkTy T K Ty ok) {r : RM2} {to : TE2} {ta : TA2} {σ : L2.St} {H : Hp} {Q : VK} (h : lowE T Wx (wBM ok r to ta) σ H Q) : tBM K Ty (lowM T r) (lowE T Wx to) (lowA T Wx ta) σ H Q := by
  obtain ⟨G, σ2, M, Q2, E2, sr, rs, q2, pq, px⟩ := h
  refine ⟨G, σ2, M, _, E2, sr, rs, q2, fun w M1 G1 H1 v m1 sr1 rw1 q3 => ?_, px⟩
  obtain ⟨o, q3⟩ := q3
  refine ⟨hk.ty sr1 rw1 o, G1, σ2, M1, _, E2, sr1, rs.mono m1, q3, fun ws M2 G2 H2 vs m2 sr2 rw2 q4 => ?_, px.mono m1⟩
  exact ⟨G2, w, ws, M2, Q2, sr2, rw1.mono m2, rw2, q4, pq.mono (m1.trans m2)⟩
theorem low_bm0 {K : PySem.W.Frag} {Ty : String} {ok : W → Mp → Prop} (hk : OkTy T K Ty ok) {r : RM2} {to : TE2} {σ : L2.St} {H : Hp} {Q : VK} (h : lowE T Wx (wBM0 ok r to) σ H Q) : tBM0 K Ty (lowM T r) (lowE T Wx to) σ H Q := by
  obtain ⟨G, σ2, M, Q2, E2, sr, rs, q2, pq, px⟩ := h
  refine ⟨G, σ2, M, _, E2, sr, rs, q2, fun w M1 G1 H1 v m1 sr1 rw1 q3 => ?_, px⟩
  obtain ⟨o, q3⟩ := q3
  exact ⟨hk.ty sr1 rw1 o, G1, w, [], M1, Q2, sr1, rw1, .nil, q3, pq.mono m1⟩
/-- xs.append(w) -/
def mAppend : RM2 := fun x ws M Q => ∃ a us w, x = .c a ∧ ws = [w] ∧ M a = some (.lst us) ∧ us.length < sizeLine ∧ Q (.d .none) (put M a (.lst (us ++ [w])))
theorem SR.lst {G H : Hp} {M : Mp} {a : Addr} {us : List W} (sr : SR T G H M) (h : M a = some (.lst us)) : ∃ vs, H a = some (.lst vs) ∧ RWs T G us vs := by
  obtain ⟨_, o, ho, vs, e, r⟩ := sr.ce _ _ h
  subst e
  exact ⟨vs, ho, r⟩
theorem q_put {G H : Hp} {M : Mp} {Q2 : VK2} {Q : VK} {a : Addr} {c0 : Cl} {ws : List W} {vs : List V} {w : W} {v : V} (sr : SR T G H M) (h : M a = some c0) (r : RWs T G ws vs) (rv : RW T G w v) (q : Q2 w (put M a (.lst ws))) (pq : PQ T G Q2 Q) : Q v (upd H a (.lst vs)) :=
  pq w _ G _ v (Mo.refl _) (sr.write h (show RC T G (.lst ws) (.lst vs) from ⟨vs, rfl, r⟩)) rv q
theorem m_append : MtR X "list.append" (lowM T mAppend) := MtR.imp (show MtR X "list.append" rAppend from mt_append) fun x vs H Q h => by
  obtain ⟨G, w, ws, M, Q2, sr, rx, rs, ⟨a, us, y, rfl, rfl, e, hz, q⟩, pq⟩ := h
  obtain ⟨v, rfl, rv⟩ := rs.one
  obtain ⟨vs, ho, rr⟩ := sr.lst e
  exact ⟨a, vs, v, rx, rfl, ho, by rw [← rr.len]; exact hz, q_put sr e (Paired.app rr (.cons rv .nil)) (show RW T G (.d .none) .non from rfl) q pq⟩
/-- xs.pop(i) -/
def mPopAt : RM2 := fun x ws M Q => ∃ a us i j w, x = .c a ∧ ws = [.d (.int i)] ∧ M a = some (.lst us) ∧ -(2 ^ 63) ≤ i ∧ i < 2 ^ 63 ∧ seqIndex? i us.length = some j ∧ us[j]? = some w ∧ Q w (put M a (.lst (us.eraseIdx j)))
theorem Paired.erase {α β : Type} {F : α → β → Prop} : ∀ (n : Nat) {a : List α} {c : List β}, Paired F a c → Paired F (a.eraseIdx n) (c.eraseIdx n)
  | _, _, _, .nil => .nil
  | 0, _, _, .cons _ t => t
  | n + 1, _, _, .cons r t => .cons r (Paired.erase n t)
theorem m_popAt : MtR X "list.pop" (lowM T mPopAt) := MtR.imp (show MtR X "list.pop" rPopAt from mt_popAt) fun x vs H Q h => by
  obtain ⟨G, w, ws, M, Q2, sr, rx, rs, ⟨a, us, i, j, y, rfl, rfl, e, h1, h2, h3, h4, q⟩, pq⟩ := h
  obtain ⟨v, rfl, rv⟩ := rs.one
  obtain ⟨vs, ho, rr⟩ := sr.lst e
  obtain ⟨u, hu, ru⟩ := rr.get h4
  exact ⟨a, vs, i, j, u, rx, by rw [show v = .int i from rv], ho, h1, h2, by rw [← rr.len]; exact h3, hu, q_put sr e (Paired.erase j rr) ru q pq⟩
/-- xs.extend(ys) -/
def mExtend : RM2 := fun x ws M Q => ∃ a us w zs, x = .c a ∧ ws = [w] ∧ isL w = true ∧ M a = some (.lst us) ∧ listW M w = some zs ∧ us.length + zs.length ≤ sizeLine ∧ Q (.d .none) (put M a (.lst (us ++ zs)))
theorem m_extend : MtR X "list.extend" (lowM T mExtend) := MtR.imp (show MtR X "list.extend" rExtend from mt_extend) fun x vs H Q h => by
  obtain ⟨G, w, ws, M, Q2, sr, rx, rs, ⟨a, us, y, zs, rfl, rfl, hl, e, e2, hz, q⟩, pq⟩ := h
  obtain ⟨v, rfl, rv⟩ := rs.one
  obtain ⟨vs, ho, rr⟩ := sr.lst e
  obtain ⟨b, ys, rfl, hb, r2⟩ := listW_at sr rv e2 (isL_nr hl)
  exact ⟨a, b, vs, ys, rx, rfl, ho, hb, by rw [← rr.len, ← r2.len]; exact hz, q_put sr e (Paired.app rr r2) (show RW T G (.d .none) .non from rfl) q pq⟩
/-- sep.join(texts) -/
def strsL : List W → Option (List Str)
  | [] => some []
  | .d (.str s) :: r => (strsL r).map (s :: ·)
  | _ :: _ => none
@[simp] theorem strsL_map (ss : List Str) : strsL (ss.map fun s => W.d (.str s)) = some ss := by
  induction ss with
  | nil => rfl
  | cons x r ih => show (strsL (r.map _)).map (x :: ·) = _; rw [ih]; rfl
theorem strsL_low {G : Hp} : ∀ {ws : List W} {vs : List V} {ss : List Str}, RWs T G ws vs → strsL ws = some ss → vs = ss.map V.str
  | [], _, _, .nil, h => by cases (show some [] = some _ from h); rfl
  | w :: ws, v :: vs, ss, .cons a t, h => by
    cases w with
    | d x =>
      cases x with
      | str z =>
        have h : (strsL ws).map (z :: ·) = some ss := h
        cases e : strsL ws with
        | none => rw [e] at h; cases h
        | some l =>
          rw [e] at h
          cases h
          rw [strsL_low t e, show v = .str z from a.1]
          rfl
      | _ => exact nomatch (show (none : Option (List Str)) = some _ from h)
    | _ => exact nomatch (show (none : Option (List Str)) = some _ from h)
def mJoin : RM2 := fun x ws M Q => ∃ z w us ss, strD x = some z ∧ ws = [w] ∧ seqW M w = some us ∧ strsL us = some ss ∧ (ss.map (·.length)).sum + ss.length * z.length ≤ 16777216 ∧ (Txt.join z ss).length ≤ sizeLine ∧ Q (.d (.str (Txt.join z ss))) M
theorem m_join (hK : X.K = T.K) : MtR X "str.join" (lowM T mJoin) := MtR.imp mt_join fun x vs H Q h => by
  obtain ⟨G, w, ws, M, Q2, sr, rx, rs, ⟨z, y, us, ss, e0, rfl, e1, e2, hz, hy, q⟩, pq⟩ := h
  cases strD_eq e0
  obtain ⟨v, rfl, rv⟩ := rs.one
  obtain ⟨a, xs, rfl, hs, rr⟩ := seqW_low sr rv e1
  have e3 := strsL_low rr e2
  subst e3
  exact ⟨z, a, ss, rx.1, rfl, by rw [hK]; exact hs, hz, q_str sr hy q pq⟩

/-! ### what a def promises -/
abbrev Sp2 := List W → Mp → VK2 → XK2 → Prop
def PE1 (T : Tab) (G : Hp) (E2 : XK2) (E1 : XK) : Prop := ∀ x M' G' H' cls d, Mo G G' → SR T G' H' M' → RX T G' x cls d → E2 x M' → E1 cls d H'
def lowSp (T : Tab) (sp : Sp2) : Sp := fun vs H Q1 E1 => ∃ G ws M Q2 E2, SR T G H M ∧ RWs T G ws vs ∧ sp ws M Q2 E2 ∧ PQ T G Q2 Q1 ∧ PE1 T G E2 E1
structure Fn (P : Program) (w : World) (T : Tab) (mg : Str → Option Value) (base : Heap) (k : Nat) (f : Addr) (fd : FuncData) (ps : List Str) (sp : Sp2) : Prop where
  len : ∀ ws M Q E, sp ws M Q E → ws.length = ps.length
  run : ∀ (A : Around) (outer : List Env) (s : Shared) (H : Hp) (args : Args) (us : List Value) (vs : List V) (Q : VK) (E : XK), Room k A → A.guards = some [] → Env0 P w T.K mg base A outer s H → BindsTo s fd args (ps.zip us) → Vals vs us →
    lowSp T sp vs H Q E → codeAny (model P w) A (.call (.ref f) args) (CR (L2.CX P w) outer P w H s Q E) s
theorem Fn.mono {P : Program} {w : World} {base : Heap} {j k : Nat} {f : Addr} {fd : FuncData} {ps : List Str} {sp : Sp2} (F : Fn P w T mg base j f fd ps sp) (h : j ≤ k) : Fn P w T mg base k f fd ps sp :=
  ⟨F.len, fun A outer s H args us vs Q E hr => F.run A outer s H args us vs Q E (hr.mono h)⟩
/-- the def with the promise sp is known under its global name; its parameters, the defaults from the right -/
structure KnP (P : Program) (w : World) (K : PySem.W.Frag) (mg : Str → Option Value) (base : Heap) (T : Tab) (k : Nat) (x : Str) (sp : Sp2) (dws : List W) : Prop where
  ex : ∃ f fd ps ds dvs, mg x = some (.ref f) ∧ PySem.W.keepIn K (.ref f) = true ∧ Binds K fd ps ds ∧ Vals dvs ds ∧ (∀ G, RWs T G dws dvs) ∧ Fn P w T mg base k f fd ps sp
abbrev Kn (X : Cx) (T : Tab) (k : Nat) (x : Str) (sp : Sp2) (dws : List W) : Prop := KnP X.prog X.w X.K X.mg X.base T k x sp dws
theorem run_f {pins : List (Addr × Obj)} {σ : L2.St} {H : Hp} {s : Shared} {Q : VK} {us ds : List Value} {vs dvs : List V} {f : Addr} {fd : FuncData} {ps : List Str} {sp : Sp2}
    (C : Ctx T k N mg X Wx sc) (F : Fn X.prog X.w T X.mg X.base k f fd ps sp) (hb : Binds X.K fd ps ds) (hd : Vals dvs ds)
    (I : Inv X pins σ H s) (r : Vals vs us) (h : lowSp T sp (vs ++ dvs) H Q (WE Wx σ)) : wpAny (model X.prog X.w) X.A (call (.ref f) us) (EP X pins σ Q) X.xe s := by
  have r2 := r.append hd
  have hl : (us ++ ds).length = ps.length := by
    rw [← r2.length]
    obtain ⟨G, ws, M, Q2, E2, sr, rr, q, _⟩ := h
    rw [← rr.len]
    exact F.len _ _ _ _ q
  have b := hb s us I.kIn hl
  have e0 : Env0 X.prog X.w T.K X.mg X.base X.A X.stack s H := by rw [← C.eK]; exact I.env0
  refine wpAny_call (codeAny_mono (F.run X.A X.stack s H ⟨us, []⟩ (us ++ ds) (vs ++ dvs) Q (WE Wx σ) C.room C.gd e0 b r2 h) fun r s' hq => ?_)
  cases r with
  | error e => exact passAt C.tk σ pins H s e s' I hq
  | ok fl =>
    cases fl with
    | ret u => exact I.after hq
    | _ => exact False.elim hq
def wCall (sp : Sp2) (dws : List W) (ta : TA2) : TE2 := fun σ M Q E => ta σ M (fun ws M1 => sp (ws ++ dws) M1 Q E) E
theorem low_call {sp : Sp2} {dws : List W} {dvs : List V} {ta : TA2} {σ : L2.St} {H : Hp} {Q : VK} (hd : ∀ G, RWs T G dws dvs) (h : lowE T Wx (wCall sp dws ta) σ H Q) : lowA T Wx ta σ H fun vs H1 => lowSp T sp (vs ++ dvs) H1 Q (WE Wx σ) := by
  obtain ⟨G, σ2, M, Q2, E2, sr, rs, q2, pq, px⟩ := h
  refine ⟨G, σ2, M, _, E2, sr, rs, q2, fun ws M1 G1 H1 vs m1 sr1 rw1 q3 => ?_, px⟩
  exact ⟨G1, ws ++ dws, M1, Q2, E2, sr1, Paired.app rw1 (hd G1), q3, pq.mono m1, fun x M' G' H' cls d m2 sr2 rx q => px x M' G' H' cls d (m1.trans m2) sr2 rx q⟩
theorem e_call {x : Str} {sp : Sp2} {dws : List W} {e : Expr} {es : List Expr} {ta : TA2} {p pos : Pos} (C : Ctx T k N mg X Wx sc) (F : Kn X T k x sp dws) (hg : Gl X x) (ha : PA X (e :: es) (lowA T Wx ta)) (hdb : (x == ("__debug__" : Str)) = false)
    (he : starEach (e :: es) X.env = (false, eval e X.env) :: starEach es X.env) (hpl : (backTo pos (starEach es X.env)).any (·.1) = false) : PE X (.Call (.Name x p) (e :: es) [] pos) (lowE T Wx (wCall sp dws ta)) := by
  obtain ⟨f, fd, ps, ds, dvs, hm, hk, hb, hv, hd, Fo⟩ := F.ex
  refine ⟨fun pins s σ H Q I h => ?_⟩
  refine wpAny_Call_Name_kw (ld_glob I hg hm ?_ hdb)
  refine PySem.W.callWith_K (h₀ := X.base) I.ok.mod.kin hk (thn (ha.run pos pins s σ H _ I (low_call hd h)) fun us s1 ⟨vs, H1, I1, r, q⟩ => ⟨I1.kIn, ?_⟩) he hpl
  exact run_f C Fo hb hv I1 r q
end
end Z
set_option maxHeartbeats 4000000
/-! Z7: statements -/
namespace Z
open PySem PySem.Spec PyProof.Rows L2
section
variable {X : Cx} {T : Tab} {Wx : WX} {k : Nat} {N : List Str} {mg : Str → Option Value} {sc : Scope}
theorem RS.set {G : Hp} {w : W} {v : V} (rv : RW T G w v) : ∀ {σ2 : St2} {σ1 : L2.St} (i : Nat), RS T G σ2 σ1 → RS T G (σ2.set i (some w)) (σ1.set i (some v))
  | _, _, _, .nil => .nil
  | _, _, 0, .cons _ t => .cons rv t
  | _, _, i + 1, .cons r t => .cons r (RS.set rv i t)
/-! ### targets -/
abbrev TG2 := W → St2 → Mp → (St2 → Mp → Prop) → XK2 → Prop
abbrev TGs2 := List W → St2 → Mp → (St2 → Mp → Prop) → XK2 → Prop
def PN (T : Tab) (G : Hp) (Q2 : St2 → Mp → Prop) (Q1 : L2.St → Hp → Prop) : Prop := ∀ σ2 M' G' H' σ1, Mo G G' → SR T G' H' M' → RS T G' σ2 σ1 → Q2 σ2 M' → Q1 σ1 H'
theorem PN.mono {G G' : Hp} {Q2 : St2 → Mp → Prop} {Q1 : L2.St → Hp → Prop} (e : Mo G G') (h : PN T G Q2 Q1) : PN T G' Q2 Q1 := fun a b c d f g => h a b c d f (e.trans g)
def lowG (T : Tab) (Wx : WX) (t : TG2) : TG := fun v σ1 H Q1 => ∃ G σ2 M w Q2 E2, SR T G H M ∧ RS T G σ2 σ1 ∧ RW T G w v ∧ t w σ2 M Q2 E2 ∧ PN T G Q2 Q1 ∧ PX T Wx G σ1 E2
def lowGs (T : Tab) (Wx : WX) (t : TGs2) : TGs := fun vs σ1 H Q1 => ∃ G σ2 M ws Q2 E2, SR T G H M ∧ RS T G σ2 σ1 ∧ RWs T G ws vs ∧ t ws σ2 M Q2 E2 ∧ PN T G Q2 Q1 ∧ PX T Wx G σ1 E2
theorem _root_.L2.PG.imp {e : Expr} {t t' : TG} (h : PG X e t) (i : ∀ v σ H Q, t' v σ H Q → t v σ H Q) : PG X e t' := ⟨fun pins s σ H v u Q I r q => h.run pins s σ H v u Q I r (i _ _ _ _ q)⟩
theorem _root_.L2.PGs.imp {e : List Expr} {t t' : TGs} (h : PGs X e t) (i : ∀ v σ H Q, t' v σ H Q → t v σ H Q) : PGs X e t' := ⟨fun pins s σ H v u Q I r q => h.run pins s σ H v u Q I r (i _ _ _ _ q)⟩
def wgName (i : Nat) : TG2 := fun w σ M Q _ => Q (σ.set i (some w)) M
theorem g_name {i : Nat} {tg : Expr} (h : PG X tg (gName i)) : PG X tg (lowG T Wx (wgName i)) := h.imp fun v σ H Q q => by
  obtain ⟨G, σ2, M, w, Q2, E2, sr, rs, rw1, q2, pn, px⟩ := q
  exact pn _ M G H _ (Mo.refl _) sr (rs.set rw1 i) q2
def wgNil : TGs2 := fun ws σ M Q _ => ws = [] ∧ Q σ M
/-- targets that are names (the slots stay as the other targets need them) -/
def wgCons (i : Nat) (u : TGs2) : TGs2 := fun ws σ M Q E => ∃ w r, ws = w :: r ∧ u r (σ.set i (some w)) M Q E
theorem gs_nil : PGs X [] (lowGs T Wx wgNil) := pgs_nil.imp fun v σ H Q q => by
  obtain ⟨G, σ2, M, ws, Q2, E2, sr, rs, rw1, ⟨rfl, q2⟩, pn, px⟩ := q
  cases rw1
  exact ⟨rfl, pn _ M G H _ (Mo.refl _) sr rs q2⟩
/-- what a raise wants holds whatever the slots are (names stored in between) -/
theorem gs_cons {i : Nat} {e : Expr} {es : List Expr} {u : TGs2} (h1 : PG X e (gName i)) (h2 : PGs X es (lowGs T Wx u)) (hs : (assignEach (e :: es) X.env).map (·.2) = assign e X.env :: (assignEach es X.env).map (·.2)) (hu : ∀ ws σ M Q E, u ws σ M Q E → u ws σ M Q fun _ _ => False) : PGs X (e :: es) (lowGs T Wx (wgCons i u)) := (pgs_cons h1 h2 hs).imp fun v σ H Q q => by
  obtain ⟨G, σ2, M, ws, Q2, E2, sr, rs, rw1, ⟨w, r, rfl, q2⟩, pn, px⟩ := q
  cases rw1 with
  | cons a t => exact ⟨_, _, rfl, G, σ2.set i (some w), M, r, Q2, _, sr, rs.set a i, t, hu _ _ _ _ _ q2, pn, fun _ _ _ _ _ _ _ _ _ f => f.elim⟩
theorem wgNil_no : ∀ ws σ M Q E, wgNil ws σ M Q E → wgNil ws σ M Q fun _ _ => False := fun _ _ _ _ _ h => h
theorem wgCons_no {i : Nat} {u : TGs2} (hu : ∀ ws σ M Q E, u ws σ M Q E → u ws σ M Q fun _ _ => False) : ∀ ws σ M Q E, wgCons i u ws σ M Q E → wgCons i u ws σ M Q fun _ _ => False := fun _ _ _ _ _ ⟨w, r, e, h⟩ => ⟨w, r, e, hu _ _ _ _ _ h⟩
/-- a, b, .. = a tuple; b: a list -/
def wgTup (n : Nat) (u : TGs2) : TG2 := fun w σ M Q E => ∃ ds, tupD w = some ds ∧ ds.length = n ∧ u (ds.map W.d) σ M Q E
def wgLst (n : Nat) (u : TGs2) : TG2 := fun w σ M Q E => ∃ ws, listW M w = some ws ∧ ws.length = n ∧ u ws σ M Q E
variable {pos : Pos}
theorem g_tup {es : List Expr} {kk : Nat} {u : TGs2} {n : Nat} (C : Ctx T k N mg X Wx sc) (h : PGs X es (lowGs T Wx u)) (hn : (assignEach es X.env).length = n) (hst : (assignEach es X.env).findIdx? (·.1) = none) : PG X (.Tuple es kk pos) (lowG T Wx (wgTup n u)) := (pg_tup C.calm h hn hst).imp fun v σ H Q q => by
  obtain ⟨G, σ2, M, w, Q2, E2, sr, rs, rw1, ⟨ds, e, hl, q2⟩, pn, px⟩ := q
  cases tupD_eq e
  obtain ⟨a, vs, rfl, h1, rr⟩ := (show ∃ a vs, v = .ref a ∧ SqT T.K G a vs ∧ RpL T G ds vs from rw1)
  exact ⟨a, vs, rfl, by rw [C.eK]; exact (Mo.of sr.le).seqT h1, by rw [← rr.len]; exact hl, G, σ2, M, _, Q2, E2, sr, rs, rr.to, q2, pn, px⟩
theorem g_lst {es : List Expr} {kk : Nat} {u : TGs2} {n : Nat} (C : Ctx T k N mg X Wx sc) (h : PGs X es (lowGs T Wx u)) (hn : (assignEach es X.env).length = n) (hst : (assignEach es X.env).findIdx? (·.1) = none) : PG X (.Tuple es kk pos) (lowG T Wx (wgLst n u)) := (pg_lst C.calm h hn hst).imp fun v σ H Q q => by
  obtain ⟨G, σ2, M, w, Q2, E2, sr, rs, rw1, ⟨ws, e, hl, q2⟩, pn, px⟩ := q
  obtain ⟨a, vs, rfl, h1, rr⟩ := listW_low sr rw1 e
  exact ⟨a, vs, rfl, by rw [C.eK]; exact h1, by rw [← rr.len]; exact hl, G, σ2, M, ws, Q2, E2, sr, rs, rr, q2, pn, px⟩
/-- o[i] = w, o a list in a cell -/
def oSet (x y w : W) (M : Mp) (Q : Mp → Prop) : Prop := ∃ a us i j, x = .c a ∧ y = .d (.int i) ∧ M a = some (.lst us) ∧ ixN us.length i = some j ∧ Q (put M a (.lst (us.set j w)))
def wgSub (to ti : TE2) : TG2 := fun w σ M Q E => to σ M (fun x M1 => ti σ M1 (fun y M2 => oSet x y w M2 fun M3 => Q σ M3) E) E
theorem Paired.set {α β : Type} {F : α → β → Prop} {x : α} {y : β} (r : F x y) : ∀ (n : Nat) {a : List α} {c : List β}, Paired F a c → Paired F (a.set n x) (c.set n y)
  | _, _, _, .nil => .nil
  | 0, _, _, .cons _ t => .cons r t
  | n + 1, _, _, .cons q t => .cons q (Paired.set r n t)
theorem g_sub {o i : Expr} {to ti : TE2} (ho : PE X o (lowE T Wx to)) (hi : PE X i (lowE T Wx ti))
    (ha : ∀ v, assign (.Subscript o i pos) X.env v = (do
      let ov ← holding [v] (eval o X.env)
      let iv ← holding [v, ov] (eval i X.env)
      standAt pos
      holding [v, ov, iv] (setItem ov iv v)
      release [v, ov, iv] [])) : PG X (.Subscript o i pos) (lowG T Wx (wgSub to ti)) := (pg_sub ho hi set_list ha).imp fun v σ H Q q => by
  obtain ⟨G, σ2, M, w, Q2, E2, sr, rs, rw1, q2, pn, px⟩ := q
  refine ⟨G, σ2, M, _, E2, sr, rs, q2, fun wx M1 G1 H1 x m1 sr1 rx q3 => ?_, px⟩
  refine ⟨G1, σ2, M1, _, E2, sr1, rs.mono m1, q3, fun wy M2 G2 H2 y m2 sr2 ry q4 => ?_, px.mono m1⟩
  obtain ⟨a, us, j, n, rfl, rfl, e, h1, q4⟩ := q4
  obtain ⟨vs, hv, rr⟩ := sr2.lst e
  refine ⟨a, vs, j, n, rx, ry, hv, by rw [← rr.len]; exact h1, ?_⟩
  exact pn σ2 _ G2 _ σ (m1.trans m2) (sr2.write e (show RC T G2 (.lst (us.set n w)) (.lst (vs.set n v)) from ⟨_, rfl, Paired.set (RW.mono (m1.trans m2) rw1) n rr⟩)) (rs.mono (m1.trans m2)) q4

/-! ### simple statements -/
variable {e : Expr} {te : TE2} {st : Stmt} {rest : List Stmt} {t u : TS2}
def wNext : TS2 := fun D σ M => D.nx σ M
def wSeq (t u : TS2) : TS2 := fun D σ M => t { D with nx := u D } σ M
def wRet (te : TE2) : TS2 := fun D σ M => te σ M D.rt fun x M1 => D.ex x σ M1
def wRetN : TS2 := fun D σ M => D.rt (.d .none) M
def wExpr (te : TE2) : TS2 := fun D σ M => te σ M (fun _ M1 => D.nx σ M1) fun x M1 => D.ex x σ M1
def wAsg (te : TE2) (g : TG2) : TS2 := fun D σ M => te σ M (fun w M1 => g w σ M1 D.nx fun x M2 => D.ex x σ M2) fun x M1 => D.ex x σ M1
def wIfS (c : TT2) (t u : TS2) : TS2 := fun D σ M => c σ M (fun b M1 => if b = true then t D σ M1 else u D σ M1) fun x M1 => D.ex x σ M1
def wBreak : TS2 := fun D σ M => D.bk σ M
def wCont : TS2 := fun D σ M => D.ct σ M
theorem PD.px {G : Hp} {D2 : Ends2} {D1 : Ends} {σ2 : St2} {σ1 : L2.St} (h : PD T Wx G D2 D1) (rs : RS T G σ2 σ1) : PX T Wx G σ1 (fun x M => D2.ex x σ2 M) := fun x M' G' H' cls d m sr rx q => h.ex x σ2 M' G' H' σ1 cls d m sr (rs.mono m) rx q
theorem PD.pn {G : Hp} {D2 : Ends2} {D1 : Ends} (h : PD T Wx G D2 D1) : PN T G D2.nx D1.nx := h.nx
theorem s_nil : PSs X [] (lowS T Wx wNext) := pss_nil.imp fun D σ H h => by
  obtain ⟨G, σ2, M, D2, sr, rs, q, pd⟩ := h
  exact pd.nx _ M G H _ (Mo.refl _) sr rs q
theorem s_pass : PS X (.Pass pos) (lowS T Wx wNext) := ps_pass.imp fun D σ H h => by
  obtain ⟨G, σ2, M, D2, sr, rs, q, pd⟩ := h
  exact pd.nx _ M G H _ (Mo.refl _) sr rs q
theorem s_break : PS X (.Break pos) (lowS T Wx wBreak) := ps_break.imp fun D σ H h => by
  obtain ⟨G, σ2, M, D2, sr, rs, q, pd⟩ := h
  exact pd.bk _ M G H _ (Mo.refl _) sr rs q
theorem s_cont : PS X (.Continue pos) (lowS T Wx wCont) := ps_continue.imp fun D σ H h => by
  obtain ⟨G, σ2, M, D2, sr, rs, q, pd⟩ := h
  exact pd.ct _ M G H _ (Mo.refl _) sr rs q
theorem s_cons (h1 : PS X st (lowS T Wx t)) (h2 : PSs X rest (lowS T Wx u)) : PSs X (st :: rest) (lowS T Wx (wSeq t u)) := (pss_cons h1 h2).imp fun D σ H h => by
  obtain ⟨G, σ2, M, D2, sr, rs, q, pd⟩ := h
  exact ⟨G, σ2, M, _, sr, rs, q, ⟨fun σ2' M' G' H' σ1' m sr' rs' q' => ⟨G', σ2', M', D2, sr', rs', q', pd.mono m⟩, pd.rt, pd.bk, pd.ct, pd.ex⟩⟩
theorem s_ret (he : PE X e (lowE T Wx te)) : PS X (.Return (some e) pos) (lowS T Wx (wRet te)) := (ps_ret he).imp fun D σ H h => by
  obtain ⟨G, σ2, M, D2, sr, rs, q, pd⟩ := h
  exact ⟨G, σ2, M, D2.rt, _, sr, rs, q, pd.rt, pd.px rs⟩
theorem s_retN : PS X (.Return none pos) (lowS T Wx wRetN) := ps_retN.imp fun D σ H h => by
  obtain ⟨G, σ2, M, D2, sr, rs, q, pd⟩ := h
  exact pd.rt _ M G H _ (Mo.refl _) sr (show RW T G (.d .none) .non from rfl) q
theorem s_expr (he : PE X e (lowE T Wx te)) (hs : swapsWith e none pos.line X.env = pure false) : PS X (.Expr e pos) (lowS T Wx (wExpr te)) := (ps_expr he hs).imp fun D σ H h => by
  obtain ⟨G, σ2, M, D2, sr, rs, q, pd⟩ := h
  exact ⟨G, σ2, M, _, _, sr, rs, q, fun w M1 G1 H1 v m sr1 _ q1 => pd.nx _ M1 G1 H1 _ m sr1 (rs.mono m) q1, pd.px rs⟩
theorem s_asg {tg : Expr} {g : TG2} (he : PE X e (lowE T Wx te)) (hg : PG X tg (lowG T Wx g)) (hs : swapsWithSole [tg] e pos.line X.env = pure false) (hw : swappedStores [tg] e X.env = pure none) (h1 : (assignEach [tg] X.env).map (·.2) = [assign tg X.env]) :
    PS X (.Assign [tg] e pos) (lowS T Wx (wAsg te g)) := (ps_asg he hg hs hw h1).imp fun D σ H h => by
  obtain ⟨G, σ2, M, D2, sr, rs, q, pd⟩ := h
  exact ⟨G, σ2, M, _, _, sr, rs, q, fun w M1 G1 H1 v m sr1 rw1 q1 => ⟨G1, σ2, M1, w, D2.nx, _, sr1, rs.mono m, rw1, q1, pd.pn.mono m, (pd.px rs).mono m⟩, pd.px rs⟩
theorem s_if {c : Expr} {a b : List Stmt} {tc : TT2} (hc : PT X c (lowT T Wx tc)) (ha : PSs X a (lowS T Wx t)) (hb : PSs X b (lowS T Wx u)) : PS X (.If c a b pos) (lowS T Wx (wIfS tc t u)) := (ps_if hc ha hb).imp fun D σ H h => by
  obtain ⟨G, σ2, M, D2, sr, rs, q, pd⟩ := h
  refine ⟨G, σ2, M, _, _, sr, rs, q, fun bb M1 G1 H1 m sr1 q1 => ?_, pd.px rs⟩
  cases bb with
  | true =>
    rw [if_pos rfl] at q1 ⊢
    exact ⟨G1, σ2, M1, D2, sr1, rs.mono m, q1, pd.mono m⟩
  | false =>
    rw [if_neg Bool.false_ne_true] at q1 ⊢
    exact ⟨G1, σ2, M1, D2, sr1, rs.mono m, q1, pd.mono m⟩
/-- x += e of ints -/
def wAugI (f : Int → Int → Int) (i : Nat) (te : TE2) : TS2 := fun D σ M => ∃ a, σ[i]? = some (some (.d (.int a))) ∧ te σ M (fun w M1 => ∃ b, w = .d (.int b) ∧ D.nx (σ.set i (some (.d (.int (f a b))))) M1) fun x M1 => D.ex x σ M1
theorem s_augI {st : Stmt} {f : Int → Int → Int} {i : Nat} (h : PS X st (tAug i (lowE T Wx te) (ipI f))) : PS X st (lowS T Wx (wAugI f i te)) := h.imp fun D σ H h => by
  obtain ⟨G, σ2, M, D2, sr, rs, ⟨a, hi, q⟩, pd⟩ := h
  obtain ⟨v, h1, h2⟩ := rs.get hi
  refine ⟨v, h1, G, σ2, M, _, _, sr, rs, q, fun w M1 G1 H1 v' m sr1 rw1 q1 => ?_, pd.px rs⟩
  obtain ⟨b, rfl, q1⟩ := q1
  exact ⟨a, b, h2, rw1, pd.nx _ M1 G1 H1 _ m sr1 (RS.set (show RW T G1 (.d (.int (f a b))) (.int (f a b)) from rfl) i (rs.mono m)) q1⟩

/-! ### while -/
def whl (c : TT2) (tb : TS2) (D : Ends2) : Nat → St2 → Mp → Prop
  | 0, _, _ => False
  | n + 1, σ, M => c σ M (fun b M1 => if b = true then tb { D with nx := whl c tb D n, ct := whl c tb D n, bk := D.nx } σ M1 else D.nx σ M1) fun x M1 => D.ex x σ M1
def wWhile (c : TT2) (tb : TS2) : TS2 := fun D σ M => ∃ n, whl c tb D n σ M
theorem s_while {c : Expr} {body : List Stmt} {tc : TT2} {tb : TS2} (hp : PassesOwn (model X.prog X.w) X.A X.env X.xe) (hc : PT X c (lowT T Wx tc)) (hb : PSs X body (lowS T Wx tb)) : PS X (.While c body [] pos) (lowS T Wx (wWhile tc tb)) := (ps_while hp hc hb).imp fun D σ H h => by
  obtain ⟨G, σ2, M, D2, sr, rs, ⟨n, q⟩, pd⟩ := h
  refine ⟨fun m σ1 H1 => ∃ G1 σ2 M1, Mo G G1 ∧ SR T G1 H1 M1 ∧ RS T G1 σ2 σ1 ∧ whl tc tb D2 m σ2 M1, ⟨n, G, σ2, M, Mo.refl _, sr, rs, q⟩, fun m σ1 H1 w => ?_⟩
  obtain ⟨G1, σ3, M1, mo, sr1, rs1, q1⟩ := w
  cases m with
  | zero => exact q1.elim
  | succ m =>
    refine ⟨G1, σ3, M1, _, _, sr1, rs1, q1, fun b M2 G2 H2 m2 sr2 q2 => ?_, (pd.mono mo).px rs1⟩
    cases b with
    | true =>
      rw [if_pos rfl] at q2 ⊢
      refine ⟨fun σ' H' => ∃ G3 σ4 M3, Mo G G3 ∧ SR T G3 H' M3 ∧ RS T G3 σ4 σ' ∧ whl tc tb D2 m σ4 M3, fun σ' H' h3 => ⟨m, Nat.lt_succ_self m, h3⟩, G2, σ3, M2, _, sr2, rs1.mono m2, q2, ?_⟩
      have pd2 := pd.mono (mo.trans m2)
      exact ⟨fun σ4 M3 G3 H3 σ' m3 sr3 rs3 q3 => ⟨G3, σ4, M3, (mo.trans m2).trans m3, sr3, rs3, q3⟩, pd2.rt, pd2.nx, fun σ4 M3 G3 H3 σ' m3 sr3 rs3 q3 => ⟨G3, σ4, M3, (mo.trans m2).trans m3, sr3, rs3, q3⟩, pd2.ex⟩
    | false =>
      rw [if_neg Bool.false_ne_true] at q2 ⊢
      exact pd.nx _ M2 G2 H2 _ (mo.trans m2) sr2 (rs1.mono m2) q2

/-! ### what is walked -/
/-- items yields what J yields, as long as ok holds -/
def ItOk (T : Tab) (G0 : Hp) (J : It) (items : List W) (ok : Mp → Prop) : Prop := ∀ G H M, Mo G0 G → SR T G H M → ok M →
  (∀ i, items.length ≤ i → J.stop i H) ∧ ∀ i w, items[i]? = some w → J.go i H ∧ ∀ x H', J.yld i H x H' → ∃ G', Mo G G' ∧ SR T G' H' M ∧ RW T G' w x
theorem ItOk.mono {G G' : Hp} {J : It} {items : List W} {ok : Mp → Prop} (m : Mo G G') (h : ItOk T G J items ok) : ItOk T G' J items ok := fun G1 H M m1 => h G1 H M (m.trans m1)
abbrev TI2 := St2 → Mp → (List W → (Mp → Prop) → Mp → Prop) → XK2 → Prop
def lowI (T : Tab) (Wx : WX) (t : TI2) : TI := fun σ1 H R => ∃ G σ2 M R2 E2, SR T G H M ∧ RS T G σ2 σ1 ∧ t σ2 M R2 E2 ∧
  (∀ items ok J M' G' H', Mo G G' → SR T G' H' M' → ItOk T G' J items ok → R2 items ok M' → R J H') ∧ PX T Wx G σ1 E2
theorem _root_.L2.PI.imp {tg iter : Expr} {t t' : TI} (h : PI X tg iter t) (i : ∀ σ H R, t' σ H R → t σ H R) : PI X tg iter t' := ⟨fun pins s σ H R I q => h.run pins s σ H R I (i _ _ _ q)⟩
/-- a list, a tuple -/
def wiSeq (te : TE2) : TI2 := fun σ M R E => te σ M (fun w M1 => ∃ ws, seqW M1 w = some ws ∧ R ws (fun M2 => seqW M2 w = some ws) M1) E
/-- .. told by the kind of the value -/
def iSeqL (K : PySem.W.Frag) (tl : TE) : TI := fun σ H R => tl σ H fun x H1 => ∃ a, x = .ref a ∧ (((∃ xs, SqL K H1 a xs) ∧ R (Itl K a) H1) ∨ ((∃ xs, SqT K H1 a xs) ∧ R (Itt K a) H1))
theorem pi_seq {tg l : Expr} {tl : TE} (hl : PE X l tl) : PI X tg l (iSeqL X.K tl) := by
  refine ⟨fun pins s σ H R I h => ?_⟩
  refine thn (hl.run pins s σ H _ I h) fun v s1 ⟨x, H1, I1, r1, q1⟩ => ?_
  obtain ⟨a, e, q⟩ := q1
  subst e
  cases r1
  have fresh : ∀ b ∈ [s1.heap.objs.size], FpOk X pins H1 b := fun b hb => by
    cases List.mem_singleton.mp hb
    exact I1.fpOk (Nat.le_refl _) (I1.hok.fresh (Nat.le_refl _))
  rcases q with ⟨⟨xs, hq⟩, q⟩ | ⟨⟨xs, hq⟩, q⟩
  · obtain ⟨its, rv, p, hz⟩ := I1.list hq
    refine wpAny_pyIter_list p.isList ?_
    exact ⟨s1.heap.objs.size, [s1.heap.objs.size], _, _, H1, rfl, I1.kept (t' := s1.toks) fun b o e => Heap.get?_push_of_some _ e, turn_list a _, ⟨_, Heap.get?_push_size _ rfl, rfl, rfl⟩, fresh, q⟩
  · obtain ⟨its, rv, p, hz⟩ := I1.tuple hq
    refine wpAny_pyIter_tuple (show s1.heap.IsTuple a its.toArray from p) ?_
    exact ⟨s1.heap.objs.size, [s1.heap.objs.size], _, _, H1, rfl, I1.kept (t' := s1.toks) fun b o e => Heap.get?_push_of_some _ e, turn_tuple a _, ⟨_, Heap.get?_push_size _ rfl, rfl, rfl⟩, fresh, q⟩
theorem itok_L {G : Hp} {a : Addr} {w : W} {ws : List W} (h : ∀ G' H M, Mo G G' → SR T G' H M → seqW M w = some ws → ∃ vs, SqL T.K H a vs ∧ RWs T G' ws vs) : ItOk T G (Itl T.K a) ws (fun M => seqW M w = some ws) := fun G1 H M m sr ok => by
  obtain ⟨vs, hs, rr⟩ := h G1 H M m sr ok
  refine ⟨fun i hi => ⟨vs, hs, by rw [← rr.len]; exact hi⟩, fun i w' hw => ?_⟩
  obtain ⟨v, hv, rv⟩ := rr.get hw
  refine ⟨⟨vs, v, hs, hv⟩, fun x H' y => ?_⟩
  obtain ⟨rfl, y⟩ := y
  have hx := y vs hs
  rw [hv] at hx
  cases hx
  exact ⟨G1, Mo.refl _, sr, rv⟩
theorem itok_T {G : Hp} {a : Addr} {w : W} {ws : List W} (h : ∀ G' H M, Mo G G' → SR T G' H M → seqW M w = some ws → ∃ vs, SqT T.K H a vs ∧ RWs T G' ws vs) : ItOk T G (Itt T.K a) ws (fun M => seqW M w = some ws) := fun G1 H M m sr ok => by
  obtain ⟨vs, hs, rr⟩ := h G1 H M m sr ok
  refine ⟨fun i hi => ⟨vs, hs, by rw [← rr.len]; exact hi⟩, fun i w' hw => ?_⟩
  obtain ⟨v, hv, rv⟩ := rr.get hw
  refine ⟨⟨vs, v, hs, hv⟩, fun x H' y => ?_⟩
  obtain ⟨rfl, y⟩ := y
  have hx := y vs hs
  rw [hv] at hx
  cases hx
  exact ⟨G1, Mo.refl _, sr, rv⟩
theorem i_seq {tg l : Expr} (hK : X.K = T.K) (hl : PE X l (lowE T Wx te)) : PI X tg l (lowI T Wx (wiSeq te)) := (pi_seq hl).imp fun σ H R q => by
  obtain ⟨G, σ2, M, R2, E2, sr, rs, q2, pr, px⟩ := q
  refine ⟨G, σ2, M, _, E2, sr, rs, q2, fun w M1 G1 H1 v m1 sr1 rw1 q3 => ?_, px⟩
  obtain ⟨ws, e, q3⟩ := q3
  rw [hK]
  have lst : (∃ a vs, v = .ref a ∧ SqL T.K H1 a vs) → (∀ M', seqW M' w = some ws → listW M' w = some ws) → ∃ a, v = .ref a ∧ (((∃ xs, SqL T.K H1 a xs) ∧ R (Itl T.K a) H1) ∨ ((∃ xs, SqT T.K H1 a xs) ∧ R (Itt T.K a) H1)) := fun ⟨a, vs, e1, hs⟩ hl => by
    subst e1
    refine ⟨a, rfl, .inl ⟨⟨vs, hs⟩, pr ws _ (Itl T.K a) M1 G1 H1 m1 sr1 (itok_L fun G' H' M' m' sr' e' => ?_) q3⟩⟩
    obtain ⟨a', vs', ea, h1, h2⟩ := listW_low sr' (RW.mono m' rw1) (hl M' e')
    cases ea
    exact ⟨vs', h1, h2⟩
  cases w with
  | d x =>
    cases x with
    | lst xs => exact lst (let ⟨a, vs, e1, h, _⟩ := listW_low sr1 rw1 (show listW M1 (.d (.lst xs)) = some ws from e); ⟨a, vs, e1, h⟩) fun _ h => h
    | tup xs =>
      obtain ⟨a, vs, rfl, h1, rr⟩ := (show ∃ a vs, v = .ref a ∧ SqT T.K G1 a vs ∧ RpL T G1 xs vs from rw1)
      refine ⟨a, rfl, .inr ⟨⟨vs, (Mo.of sr1.le).seqT h1⟩, pr ws _ (Itt T.K a) M1 G1 H1 m1 sr1 (itok_T fun G' H' M' m' sr' e' => ?_) q3⟩⟩
      cases (show some (xs.map W.d) = some ws from e')
      exact ⟨vs, (Mo.of sr'.le).seqT (m'.seqT h1), (rr.mono m').to⟩
    | _ => exact nomatch (show (none : Option (List W)) = some ws from e)
  | c b => exact lst (let ⟨a, vs, e1, h, _⟩ := listW_low sr1 rw1 (show listW M1 (.c b) = some ws from e); ⟨a, vs, e1, h⟩) fun _ h => h
  | r b => exact lst (let ⟨a, vs, e1, h, _⟩ := listW_low sr1 rw1 (show listW M1 (.r b) = some ws from e); ⟨a, vs, e1, h⟩) fun _ h => h
/-- range(n), range(a, b) -/
def rngW (lo : Int) (n : Nat) : List W := (List.range n).map fun (i : Nat) => W.d (.int (lo + (i : Int)))
theorem itok_R {G : Hp} {lo : Int} {n : Nat} : ItOk T G (Itr lo n) (rngW lo n) (fun _ => True) := fun G1 H M m sr _ => by
  refine ⟨fun i hi => (show n ≤ i by simpa [rngW] using hi), fun i w hw => ?_⟩
  have hi : i < n := by
    have := (List.getElem?_eq_some_iff.mp hw).1
    simpa [rngW] using this
  have ew : w = .d (.int (lo + (i : Int))) := by
    unfold rngW at hw
    rw [List.getElem?_map, List.getElem?_range hi] at hw
    exact (Option.some.inj hw).symm
  subst ew
  refine ⟨hi, fun x H' y => ?_⟩
  obtain ⟨rfl, rfl⟩ := y
  exact ⟨G1, Mo.refl _, sr, rfl⟩
def wiRng1 (ta : TA2) : TI2 := fun σ M R E => ta σ M (fun ws M1 => ∃ j : Int, ws = [.d (.int j)] ∧ -(2 ^ 62) ≤ j ∧ j < 2 ^ 62 ∧ R (rngW 0 j.toNat) (fun _ => True) M1) E
def wiRng2 (ta : TA2) : TI2 := fun σ M R E => ta σ M (fun ws M1 => ∃ i j : Int, ws = [.d (.int i), .d (.int j)] ∧ (-(2 ^ 62) ≤ i ∧ i < 2 ^ 62 ∧ -(2 ^ 62) ≤ j ∧ j < 2 ^ 62) ∧ R (rngW i (j - i).toNat) (fun _ => True) M1) E
theorem i_rng1 {tg a : Expr} {ta : TA2} {p : Pos} (hg : Gl X "range") (hm : X.mg "range" = none) (ha : PA X [a] (lowA T Wx ta)) (hs : starEach [a] X.env = [(false, eval a X.env)]) : PI X tg (.Call (.Name "range" p) [a] [] pos) (lowI T Wx (wiRng1 ta)) := (pi_range1 hg hm ha hs).imp fun σ H R q => by
  obtain ⟨G, σ2, M, R2, E2, sr, rs, q2, pr, px⟩ := q
  refine ⟨G, σ2, M, _, E2, sr, rs, q2, fun ws M1 G1 H1 vs m1 sr1 rw1 q3 => ?_, px⟩
  obtain ⟨j, rfl, h1, h2, q3⟩ := q3
  obtain ⟨v, rfl, rv⟩ := rw1.one
  exact ⟨j, by rw [show v = .int j from rv], h1, h2, pr _ _ _ M1 G1 H1 m1 sr1 itok_R q3⟩
theorem i_rng2 {tg a b : Expr} {ta : TA2} {p : Pos} (hg : Gl X "range") (hm : X.mg "range" = none) (ha : PA X [a, b] (lowA T Wx ta)) (hs : starEach [a, b] X.env = [(false, eval a X.env), (false, eval b X.env)]) (hs2 : starEach [b] X.env = [(false, eval b X.env)]) : PI X tg (.Call (.Name "range" p) [a, b] [] pos) (lowI T Wx (wiRng2 ta)) := (pi_range2 hg hm ha hs hs2).imp fun σ H R q => by
  obtain ⟨G, σ2, M, R2, E2, sr, rs, q2, pr, px⟩ := q
  refine ⟨G, σ2, M, _, E2, sr, rs, q2, fun ws M1 G1 H1 vs m1 sr1 rw1 q3 => ?_, px⟩
  obtain ⟨i, j, rfl, h1, q3⟩ := q3
  obtain ⟨v, v', rfl, rv, rv'⟩ := rw1.two
  exact ⟨i, j, by rw [show v = .int i from rv, show v' = .int j from rv'], h1, pr _ _ _ M1 G1 H1 m1 sr1 itok_R q3⟩
/-- the signs of a text -/
def signsW (z : Str) : List W := z.cps.toList.map fun c => W.d (.str ⟨#[c]⟩)
theorem itok_S {G : Hp} {z : Str} : ItOk T G (Its z) (signsW z) (fun _ => True) := fun G1 H M m sr _ => by
  refine ⟨fun i hi => (show z.cps.size ≤ i by simpa [signsW] using hi), fun i w hw => ?_⟩
  have hi : i < z.cps.size := by
    have := (List.getElem?_eq_some_iff.mp hw).1
    simpa [signsW] using this
  refine ⟨hi, fun x H' y => ?_⟩
  obtain ⟨rfl, c, hc, rfl⟩ := y
  have ew : w = .d (.str ⟨#[c]⟩) := by
    unfold signsW at hw
    rw [List.getElem?_map, Array.getElem?_toList, hc] at hw
    exact (Option.some.inj hw).symm
  subst ew
  exact ⟨G1, Mo.refl _, sr, rfl, by rw [sizeLine_eq]; show 1 ≤ 16777216; decide⟩
def wiStr (te : TE2) : TI2 := fun σ M R E => te σ M (fun w M1 => ∃ z, strD w = some z ∧ R (signsW z) (fun _ => True) M1) E
theorem i_str {tg l : Expr} (hl : PE X l (lowE T Wx te)) : PI X tg l (lowI T Wx (wiStr te)) := (pi_str hl).imp fun σ H R q => by
  obtain ⟨G, σ2, M, R2, E2, sr, rs, q2, pr, px⟩ := q
  refine ⟨G, σ2, M, _, E2, sr, rs, q2, fun w M1 G1 H1 v m1 sr1 rw1 q3 => ?_, px⟩
  obtain ⟨z, e, q3⟩ := q3
  cases strD_eq e
  exact ⟨z, rw1.1, pr _ _ _ M1 G1 H1 m1 sr1 itok_S q3⟩
end
end Z
set_option maxHeartbeats 4000000
/-! Z8: for, comprehensions, the body of a def -/
namespace Z
open PySem PySem.Spec PyProof.Rows L2
section
variable {X : Cx} {T : Tab} {Wx : WX} {k : Nat} {N : List Str} {mg : Str → Option Value} {sc : Scope}
/-! ### for -/
def forL (ok : Mp → Prop) (g : TG2) (tb : TS2) (D : Ends2) : List W → St2 → Mp → Prop
  | [], σ, M => ok M ∧ D.nx σ M
  | w :: r, σ, M => ok M ∧ g w σ M (fun σ1 M1 => tb { D with nx := forL ok g tb D r, ct := forL ok g tb D r, bk := D.nx } σ1 M1) fun x M1 => D.ex x σ M1
def wFor (ti : TI2) (g : TG2) (tb : TS2) : TS2 := fun D σ M => ti σ M (fun items ok M1 => forL ok g tb D items σ M1) fun x M1 => D.ex x σ M1
theorem s_for {tg iter : Expr} {body : List Stmt} {ti : TI2} {g : TG2} {tb : TS2} {pos : Pos} (C : Ctx T k N mg X Wx sc) (hp : PassesOwn (model X.prog X.w) X.A X.env X.xe) (hi : PI X tg iter (lowI T Wx ti)) (hg : PG X tg (lowG T Wx g)) (hb : PSs X body (lowS T Wx tb)) (hf : ∀ x, foldedSetIterable iter X.env x = pure x) :
    PS X (.For tg iter body [] pos) (lowS T Wx (wFor ti g tb)) := (ps_for hp C.calm hi hg hb hf).imp fun D σ H h => by
  obtain ⟨G, σ2, M, D2, sr, rs, q, pd⟩ := h
  refine ⟨G, σ2, M, _, _, sr, rs, q, fun items ok J M1 G1 H1 m1 sr1 it q1 => ?_, pd.px rs⟩
  refine ⟨fun i m σ' H' => m = items.length - i ∧ i ≤ items.length ∧ ∃ G2 σ3 M2, Mo G1 G2 ∧ SR T G2 H' M2 ∧ RS T G2 σ3 σ' ∧ forL ok g tb D2 (items.drop i) σ3 M2, ⟨items.length, by simp, Nat.zero_le _, G1, σ2, M1, Mo.refl _, sr1, rs.mono m1, q1⟩, fun i m σ' H' w => ?_⟩
  obtain ⟨rfl, hi, G2, σ3, M2, m2, sr2, rs2, q2⟩ := w
  by_cases hl : i < items.length
  · rw [List.drop_eq_getElem_cons hl] at q2
    obtain ⟨o, q2⟩ := q2
    obtain ⟨_, it2⟩ := it G2 H' M2 m2 sr2 o
    obtain ⟨hgo, hy⟩ := it2 i items[i] (by simp [hl])
    refine .inr ⟨hgo, fun σ5 H5 => ∃ G4 σ4 M4, Mo G1 G4 ∧ SR T G4 H5 M4 ∧ RS T G4 σ4 σ5 ∧ forL ok g tb D2 (items.drop (i + 1)) σ4 M4, fun σ5 H5 h5 => ⟨items.length - (i + 1), by omega, rfl, hl, h5⟩, fun x H3 y => ?_⟩
    obtain ⟨G3, m3, sr3, rx⟩ := hy x H3 y
    have mo := m2.trans m3
    refine ⟨G3, σ3, M2, _, _, _, sr3, rs2.mono m3, rx, q2, fun σ4 M4 G4 H4 σ5 m4 sr4 rs4 q4 => ?_, (pd.mono (m1.trans mo)).px (rs2.mono m3)⟩
    refine ⟨G4, σ4, M4, _, sr4, rs4, q4, ?_⟩
    have pd2 := pd.mono ((m1.trans mo).trans m4)
    exact ⟨fun σ6 M6 G6 H6 σ7 m6 sr6 rs6 q6 => ⟨G6, σ6, M6, (mo.trans m4).trans m6, sr6, rs6, q6⟩, pd2.rt, pd2.nx, fun σ6 M6 G6 H6 σ7 m6 sr6 rs6 q6 => ⟨G6, σ6, M6, (mo.trans m4).trans m6, sr6, rs6, q6⟩, pd2.ex⟩
  · have e : i = items.length := by omega
    subst e
    rw [List.drop_length] at q2
    obtain ⟨o, q2⟩ := q2
    exact .inl ⟨(it G2 H' M2 m2 sr2 o).1 _ (Nat.le_refl _), pd.nx _ M2 G2 H' _ (m1.trans m2) sr2 rs2 q2⟩

/-! ### list comprehensions -/
def wipe2 (σ : St2) : List Nat → St2
  | [] => σ
  | v :: vs => (wipe2 σ vs).set v none
theorem RS.setN {G : Hp} : ∀ {σ2 : St2} {σ1 : L2.St} (i : Nat), RS T G σ2 σ1 → RS T G (σ2.set i none) (σ1.set i none)
  | _, _, _, .nil => .nil
  | _, _, 0, .cons _ t => .cons trivial t
  | _, _, i + 1, .cons r t => .cons r (RS.setN i t)
theorem RS.wipe {G : Hp} {σ2 : St2} {σ1 : L2.St} (r : RS T G σ2 σ1) : ∀ vs : List Nat, RS T G (wipe2 σ2 vs) (wipe σ1 vs)
  | [] => r
  | v :: vs => RS.setN v (RS.wipe r vs)
/-- the tests of a clause -/
def wYes : TT2 := fun _ M Q _ => Q true M
theorem _root_.L2.PTs.imp {ifs : List Expr} {t t' : TT} (h : PTs X ifs t) (i : ∀ σ H Q, t' σ H Q → t σ H Q) : PTs X ifs t' := ⟨fun pins s σ H Q I q => h.run pins s σ H Q I (i _ _ _ q)⟩
theorem ts_nil : PTs X [] (lowT T Wx wYes) := pts_nil.imp fun σ H Q h => by
  obtain ⟨G, σ2, M, Q2, E2, sr, rs, q2, pb, px⟩ := h
  exact pb true M G H (Mo.refl _) sr q2
theorem ts_one {c : Expr} {t : TT2} (h : PT X c (lowT T Wx t)) : PTs X [c] (lowT T Wx t) := pts_one h
/-- no wish: nothing may be raised -/
abbrev W0 : WX := fun _ _ _ _ => False
/-- the list that was made at p, as it is handed on -/
def lcEnd (m : Bool) (p : Addr) (M : Mp) (Q : VK2) : Prop := ∃ acc, M p = some (.lst acc) ∧ if m = true then Q (.c p) M else ∃ ds, unD acc = some ds ∧ Q (.d (.lst ds)) (del M p)
/-- the turns; p: the new list -/
def lcL (m : Bool) (p : Addr) (ok : Mp → Prop) (g : TG2) (tt : TT2) (te : TE2) (σ : St2) (Q : VK2) : List W → Mp → Prop
  | [], M => ok M ∧ lcEnd m p M Q
  | w :: r, M => ok M ∧ g w σ M (fun σ1 M1 => tt σ1 M1 (fun b M2 => if b = true then te σ1 M2 (fun y M3 => ∃ acc, M3 p = some (.lst acc) ∧ acc.length < sizeLine ∧ lcL m p ok g tt te σ Q r (put M3 p (.lst (acc ++ [y])))) (fun _ _ => False) else lcL m p ok g tt te σ Q r M2) (fun _ _ => False)) (fun _ _ => False)
/-- [elt for .. in .. if ..]; m: the list is a cell -/
def wLc (m : Bool) (ti : TI2) (g : TG2) (tt : TT2) (te : TE2) (vs : List Nat) : TE2 := fun σ M Q E => ti σ M (fun items ok M1 => ∀ p, M1 p = none → lcL m p ok g tt te (wipe2 σ vs) Q items (put M1 p (.lst []))) E
theorem lcEnd_low {m : Bool} {p : Addr} {G H : Hp} {M : Mp} {Q2 : VK2} {Q : VK} (sr : SR T G H M) (q : lcEnd m p M Q2) (pq : PQ T G Q2 Q) : Q (.ref p) H := by
  obtain ⟨acc, e, q⟩ := q
  cases m with
  | true =>
    rw [if_pos rfl] at q
    exact pq (.c p) M G H _ (Mo.refl _) sr rfl q
  | false =>
    rw [if_neg Bool.false_ne_true] at q
    obtain ⟨ds, e2, q⟩ := q
    cases unD_eq e2
    obtain ⟨vs, hv, rr⟩ := sr.lst e
    have g0 := (sr.ce _ _ e).1
    have mo := Mo.of (same_new (o := HO.lst vs) g0)
    exact pq _ _ _ H _ mo (sr.freeze e hv) (show RW T _ (.d (.lst ds)) (.ref p) from ⟨p, vs, rfl, upd_same, (RpL.of rr).mono mo⟩) q
theorem low_lc {m : Bool} {ti : TI2} {g : TG2} {tt : TT2} {te : TE2} {gl : TG} {vs : List Nat} {σ : L2.St} {H : Hp} {Q : VK}
    (hgl : ∀ v σ H Q, lowG T W0 g v (wipe σ vs) H Q → gl v (wipe σ vs) H fun σ1 H1 => wipe σ1 vs = wipe σ vs ∧ Q σ1 H1)
    (h : lowE T Wx (wLc m ti g tt te vs) σ H Q) : tLc (lowI T Wx ti) gl (lowT T W0 tt) (lowE T W0 te) vs σ H Q := by
  obtain ⟨G, σ2, M, Q2, E2, sr, rs, q2, pq, px⟩ := h
  refine ⟨G, σ2, M, _, E2, sr, rs, q2, fun items ok J M1 G1 H1 m1 sr1 it q3 => ?_, px⟩
  intro Dl hD
  have q3 := q3 Dl (sr1.freeM hD)
  refine ⟨fun i n H' => n = items.length - i ∧ i ≤ items.length ∧ ∃ G2 M2, Mo G1 G2 ∧ SR T G2 H' M2 ∧ lcL m Dl ok g tt te (wipe2 σ2 vs) Q2 (items.drop i) M2,
    ⟨items.length, by simp, Nat.zero_le _, G1, _, Mo.refl _, sr1.cell hD (show RC T G1 (.lst []) (.lst []) from ⟨[], rfl, .nil⟩), q3⟩, fun i n H' w => ?_⟩
  obtain ⟨rfl, hi, G2, M2, m2, sr2, q4⟩ := w
  by_cases hl : i < items.length
  · rw [List.drop_eq_getElem_cons hl] at q4
    obtain ⟨o, q4⟩ := q4
    obtain ⟨_, it2⟩ := it G2 H' M2 m2 sr2 o
    obtain ⟨hgo, hy⟩ := it2 i items[i] (by simp [hl])
    refine .inr ⟨hgo, fun H5 => ∃ G4 M4, Mo G1 G4 ∧ SR T G4 H5 M4 ∧ lcL m Dl ok g tt te (wipe2 σ2 vs) Q2 (items.drop (i + 1)) M4, fun H5 h5 => ⟨items.length - (i + 1), by omega, rfl, hl, h5⟩, fun x H3 y => ?_⟩
    obtain ⟨G3, m3, sr3, rx⟩ := hy x H3 y
    have mo := (m1.trans m2).trans m3
    refine hgl x σ H3 _ ⟨G3, wipe2 σ2 vs, M2, items[i], _, _, sr3, (rs.mono mo).wipe vs, rx, q4, fun σ4 M4 G4 H4 σ5 m4 sr4 rs4 q5 => ?_, fun _ _ _ _ _ _ _ _ _ f => f.elim⟩
    refine ⟨G4, σ4, M4, _, _, sr4, rs4, q5, fun b M5 G5 H5 m5 sr5 q6 => ?_, fun _ _ _ _ _ _ _ _ _ f => f.elim⟩
    have mo5 := ((m2.trans m3).trans m4).trans m5
    cases b with
    | false =>
      dsimp only
      rw [if_neg Bool.false_ne_true] at q6 ⊢
      exact ⟨G5, M5, mo5, sr5, q6⟩
    | true =>
      dsimp only
      rw [if_pos rfl] at q6 ⊢
      refine ⟨G5, σ4, M5, _, _, sr5, rs4.mono m5, q6, fun y M6 G6 H6 v m6 sr6 rv q7 => ?_, fun _ _ _ _ _ _ _ _ _ f => f.elim⟩
      obtain ⟨acc, e, hz, q7⟩ := q7
      obtain ⟨us, hu, rr⟩ := sr6.lst e
      exact ⟨us, hu, by rw [← rr.len]; exact hz, G6, _, mo5.trans m6, sr6.write e (show RC T G6 (.lst (acc ++ [y])) (.lst (us ++ [v])) from ⟨_, rfl, Paired.app rr (.cons rv .nil)⟩), q7⟩
  · have e : i = items.length := by omega
    subst e
    rw [List.drop_length] at q4
    obtain ⟨o, q4⟩ := q4
    exact .inl ⟨(it G2 H' M2 m2 sr2 o).1 _ (Nat.le_refl _), lcEnd_low sr2 q4 (pq.mono (m1.trans m2))⟩
/-- targets of a comprehension: a name; a tuple of names -/
theorem wipe_set (σ : L2.St) (i : Nat) (v : Option V) : wipe ((wipe σ [i]).set i v) [i] = wipe σ [i] := by
  show ((σ.set i none).set i v).set i none = σ.set i none
  rw [List.set_set, List.set_set]
theorem gl_name {i : Nat} : ∀ v σ H Q, lowG T W0 (wgName i) v (wipe σ [i]) H Q → gName i v (wipe σ [i]) H fun σ1 H1 => wipe σ1 [i] = wipe σ [i] ∧ Q σ1 H1 := fun v σ H Q q => by
  obtain ⟨G, σ2, M, w, Q2, E2, sr, rs, rw1, q2, pn, px⟩ := q
  exact ⟨wipe_set σ i (some v), pn _ M G H _ (Mo.refl _) sr (rs.set rw1 i) q2⟩
end
end Z
set_option maxHeartbeats 4000000
/-! Z9: programs as terms of one's own; what they mean; that a def's text is such a term -/
namespace Z
open PySem PySem.Spec PyProof.Rows L2
inductive BO where | add (m : Bool) | sub | mul | fdiv | mod | pow
  deriving DecidableEq
inductive CO where | lt | le | gt | ge | eq | ne | in_ | nin | is_ | isn
  deriving DecidableEq
inductive BI where | len | list (m : Bool) | tuple | int | str | repr
inductive BM where | append | popAt | extend | join
inductive Cn where | non | bool (b : Bool) | int (i : Int) | str (s : Str)
mutual
inductive E where
  | var (i : Nat) | cst (c : Cn) | glob (i : Nat) | bin (o : BO) (a b : E) | cmp (o : CO) (a b : E) | chain (o o' : CO) (a b c : E)
  | and (a : E) (es : Es) | or (a : E) (es : Es) | not (a : E) | ife (c a b : E) | tup (es : Es) | lst (m : Bool) (es : Es) | ix (a b : E) | sl (m : Bool) (a : E) (lo hi : Es) | neg (a : E)
  | call (i : Nat) (es : Es) | blt (b : BI) (es : Es) | bm (b : BM) (o : E) (es : Es)
  | lc (m : Bool) (it : It2) (v : Nat) (c : Es) (elt : E)
inductive Es where
  | nil | cons (e : E) (es : Es)
inductive It2 where
  | seq (e : E) | rng1 (e : E) | rng2 (a b : E) | sgn (e : E)
end
structure Cal where
  x : Str
  sp : Sp2
  dws : List W
structure Env2 where
  f : List Cal
  g : List (Str × D)
def BO.op : BO → Operator
  | .add _ => .Add | .sub => .Sub | .mul => .Mult | .fdiv => .FloorDiv | .mod => .Mod | .pow => .Pow
def BO.r : BO → R22
  | .add m => oAdd m | .sub => oSub | .mul => oInt (fun i j => i * j) oMul0 | .fdiv => oFdiv | .mod => oMod | .pow => oPow
def CO.op : CO → CmpOp
  | .lt => .Lt | .le => .LtE | .gt => .Gt | .ge => .GtE | .eq => .Eq | .ne => .NotEq | .in_ => .In | .nin => .NotIn | .is_ => .Is | .isn => .IsNot
def CO.r : CO → R22
  | .lt => oLt | .le => oLe | .gt => oGt | .ge => oGe | .eq => oEq false | .ne => oEq true | .in_ => oIn false | .nin => oIn true | .is_ => oIsN false | .isn => oIsN true
def BI.x : BI → Str
  | .len => "len" | .list _ => "list" | .tuple => "tuple" | .int => "int" | .str => "str" | .repr => "repr"
def BI.r : BI → RC2
  | .len => rLen | .list m => rList m | .tuple => rTuple | .int => rInt | .str => rStr | .repr => rRepr
def BM.x : BM → Str
  | .append => "append" | .popAt => "pop" | .extend => "extend" | .join => "join"
def BM.ok : BM → W → Mp → Prop
  | .join => okS
  | _ => okL
def BM.r : BM → RM2
  | .append => mAppend | .popAt => mPopAt | .extend => mExtend | .join => mJoin
def Cn.d : Cn → D
  | .non => .none | .bool b => .bool b | .int i => .int i | .str s => .str s
def wFalse : TE2 := fun _ _ _ _ => False
/-! ### what it means -/
mutual
def wE (Γ : Env2) : E → TE2
  | .var i => wVar i
  | .cst c => wC c.d
  | .glob i => match Γ.g[i]? with
    | some (_, d) => wC d
    | none => wFalse
  | .bin o a b => wBin o.r (wE Γ a) (wE Γ b)
  | .cmp o a b => wBin o.r (wE Γ a) (wE Γ b)
  | .chain o o' a b c => wChain o.r o'.r (wE Γ a) (wE Γ b) (wE Γ c)
  | .and a es => wAnds Γ (wE Γ a) es
  | .or a es => wOrs Γ (wE Γ a) es
  | .not a => wNotV (wE Γ a)
  | .ife c a b => wIf (wT2 Γ c) (wE Γ a) (wE Γ b)
  | .tup es => wTup (wA Γ es)
  | .lst m es => wLst m (wA Γ es)
  | .ix a b => wBin oIx (wE Γ a) (wE Γ b)
  | .sl m a lo hi => wSl m (wE Γ a) (wO Γ lo) (wO Γ hi)
  | .neg a => fun σ M Q E => wE Γ a σ M (fun x M1 => ∃ i, x = .d (.int i) ∧ Q (.d (.int (-i))) M1) E
  | .call i es => match Γ.f[i]? with
    | some c => wCall c.sp c.dws (wA Γ es)
    | none => wFalse
  | .blt b es => wCB b.r (wA Γ es)
  | .bm b o es => wBM b.ok b.r (wE Γ o) (wA Γ es)
  | .lc m it v c elt => wLc m (wI Γ it) (wgName v) (wC1 Γ c) (wE Γ elt) [v]
/-- as a test -/
def wT2 (Γ : Env2) : E → TT2
  | .cmp o a b => wT (wBin o.r (wE Γ a) (wE Γ b))
  | .chain o o' a b c => wT (wChain o.r o'.r (wE Γ a) (wE Γ b) (wE Γ c))
  | .and a es => wAndsT Γ (wT2 Γ a) es
  | .or a es => wOrsT Γ (wT2 Γ a) es
  | .not a => wNotT (wT2 Γ a)
  | .var i => wTru (wVar i)
  | .call i es => wTru (match Γ.f[i]? with
    | some c => wCall c.sp c.dws (wA Γ es)
    | none => wFalse)
  | .ix a b => wTru (wBin oIx (wE Γ a) (wE Γ b))
  | .blt b es => wTru (wCB b.r (wA Γ es))
  | _ => fun _ _ _ _ => False
def wA (Γ : Env2) : Es → TA2
  | .nil => wNil
  | .cons e es => wCons (wE Γ e) (wA Γ es)
def wAnds (Γ : Env2) (t : TE2) : Es → TE2
  | .nil => t
  | .cons e es => wAndV t (wAnds Γ (wE Γ e) es)
def wOrs (Γ : Env2) (t : TE2) : Es → TE2
  | .nil => t
  | .cons e es => wOrV t (wOrs Γ (wE Γ e) es)
def wAndsT (Γ : Env2) (t : TT2) : Es → TT2
  | .nil => t
  | .cons e es => wAndT t (wAndsT Γ (wT2 Γ e) es)
def wOrsT (Γ : Env2) (t : TT2) : Es → TT2
  | .nil => t
  | .cons e es => wOrT t (wOrsT Γ (wT2 Γ e) es)
/-- a slice's part -/
def wO (Γ : Env2) : Es → TO2
  | .nil => wNoP
  | .cons e _ => wPart (wE Γ e)
/-- a clause's test, if there is one -/
def wC1 (Γ : Env2) : Es → TT2
  | .nil => wYes
  | .cons e _ => wT2 Γ e
def wI (Γ : Env2) : It2 → TI2
  | .seq e => wiSeq (wE Γ e)
  | .rng1 e => wiRng1 (wCons (wE Γ e) wNil)
  | .rng2 a b => wiRng2 (wCons (wE Γ a) (wCons (wE Γ b) wNil))
  | .sgn e => wiStr (wE Γ e)
end
end Z
set_option maxHeartbeats 4000000
/-! Z10: that an expression of the text is such a term; the rules joined -/
namespace Z
open PySem PySem.Spec PyProof.Rows L2
structure Par where
  N : List Str
  fx : List Str
  gx : List Str
  bx : List Str
def visB (sc : Scope) (x : Str) : Bool := match sc.names.lookup x with
  | some .local => true
  | some .cell => true
  | some .free => true
  | _ => false
def locB (sc : Scope) (x : Str) : Bool := match sc.names.lookup x with
  | some .local => true
  | some .cell => true
  | _ => false
def glB (sc : Scope) (x : Str) : Bool := match sc.names.lookup x with
  | some .globalImplicit => true
  | _ => false
def okN (x : Str) : Bool := !(x == ("__debug__" : Str)) && !(x == ("__classdict__" : Str))
def kC : Cn → Const → Bool
  | .non, .none => true
  | .bool a, .bool b => a == b
  | .int a, .int b => decide (a = b)
  | .str a, .str b => decide (a = b) && decide (a.length ≤ 16777216)
  | _, _ => false
mutual
def kE (p : Par) (sc : Scope) : E → Expr → Bool
  | .var i, x => match x with
    | .Name n _ => decide (p.N[i]? = some n) && visB sc n && okN n
    | _ => false
  | .cst c, x => match x with
    | .Constant v _ _ => kC c v
    | _ => false
  | .glob i, x => match x with
    | .Name n _ => decide (p.gx[i]? = some n) && glB sc n && okN n
    | _ => false
  | .bin o a b, x => match x with
    | .BinOp l op r _ => decide (op = o.op) && kE p sc a l && kE p sc b r
    | _ => false
  | .cmp o a b, x => match x with
    | .Compare l [op] [r] _ => decide (op = o.op) && kE p sc a l && kE p sc b r && !behindInMarks op r
    | _ => false
  | .chain o o' a b c, x => match x with
    | .Compare l [op, op'] [r, r'] _ => decide (op = o.op) && decide (op' = o'.op) && kE p sc a l && kE p sc b r && kE p sc c r' && !lastMarks [op, op'] [r, r']
    | _ => false
  | .and a es, x => match x with
    | .BoolOp .And (v :: vs) _ => kE p sc a v && kA p sc es vs
    | _ => false
  | .or a es, x => match x with
    | .BoolOp .Or (v :: vs) _ => kE p sc a v && kA p sc es vs
    | _ => false
  | .not a, x => match x with
    | .UnaryOp .Not v _ => kE p sc a v
    | _ => false
  | .ife c a b, x => match x with
    | .IfExp v u w _ => kE p sc c v && kE p sc a u && kE p sc b w
    | _ => false
  | .tup es, x => match x with
    | .Tuple vs _ _ => kA p sc es vs
    | _ => false
  | .lst _ es, x => match x with
    | .List vs _ => kA p sc es vs
    | _ => false
  | .ix a b, x => match x with
    | .Subscript l r _ => kE p sc a l && kE p sc b r
    | _ => false
  | .sl _ a lo hi, x => match x with
    | .Subscript l (.Slice lo' hi' none _) _ => kE p sc a l && kO p sc lo lo' && kO p sc hi hi'
    | _ => false
  | .neg a, x => match x with
    | .UnaryOp .USub v _ => kE p sc a v
    | _ => false
  | .call i es, x => match x with
    | .Call (.Name n _) (v :: vs) [] _ => decide (p.fx[i]? = some n) && glB sc n && okN n && kA p sc es (v :: vs)
    | _ => false
  | .blt b es, x => match x with
    | .Call (.Name n _) (v :: vs) [] _ => decide (n = b.x) && decide (n ∈ p.bx) && glB sc n && okN n && kA p sc es (v :: vs)
    | _ => false
  | .bm b o es, x => match x with
    | .Call (.Attribute r n ap) (v :: vs) [] cp => decide (n = b.x) && (ap.endLine == cp.line) && decide (vs.length < 20) && kE p sc o r && kA p sc es (v :: vs)
    | _ => false
  | .lc _ it i c elt, x => match x with
    | .ListComp el [⟨.Name n _, iter, ifs, 0⟩] scope _ => decide (p.N[i]? = some n) && locB scope n && blkC p.N sc scope [(n, i)] && kI p sc it iter && kF p (relS scope sc) c ifs && kE p (relS scope sc) elt el
    | _ => false
def kA (p : Par) (sc : Scope) : Es → List Expr → Bool
  | .nil, xs => match xs with
    | [] => true
    | _ => false
  | .cons e es, xs => match xs with
    | x :: r => kE p sc e x && kA p sc es r
    | _ => false
def kO (p : Par) (sc : Scope) : Es → Option Expr → Bool
  | .nil, x => match x with
    | none => true
    | _ => false
  | .cons e _, x => match x with
    | some y => kE p sc e y
    | _ => false
def kF (p : Par) (sc : Scope) : Es → List Expr → Bool
  | .nil, xs => match xs with
    | [] => true
    | _ => false
  | .cons e _, xs => match xs with
    | [x] => kE p sc e x
    | _ => false
def kI (p : Par) (sc : Scope) : It2 → Expr → Bool
  | .seq e, x => kE p sc e x
  | .sgn e, x => kE p sc e x
  | .rng1 e, x => match x with
    | .Call (.Name n _) [v] [] _ => decide (n = ("range" : Str)) && decide (n ∈ p.bx) && glB sc n && kE p sc e v
    | _ => false
  | .rng2 a b, x => match x with
    | .Call (.Name n _) [v, u] [] _ => decide (n = ("range" : Str)) && decide (n ∈ p.bx) && glB sc n && kE p sc a v && kE p sc b u
    | _ => false
end
/-! ### what a checked expression is not -/
theorem kE_star {p : Par} {sc : Scope} {e : E} {x : Expr} {pos : Pos} : kE p sc e (.Starred x pos) = false := by cases e <;> rfl
theorem kE_slice {p : Par} {sc : Scope} {e : E} {a b c : Option Expr} {pos : Pos} : kE p sc e (.Slice a b c pos) = false := by cases e <;> rfl
theorem kE_set {p : Par} {sc : Scope} {e : E} {a : List Expr} {k : Nat} {pos : Pos} : kE p sc e (.Set a k pos) = false := by cases e <;> rfl
theorem kE_dc {p : Par} {sc : Scope} {e : E} {a b : Expr} {g : List Comprehension} {s : Scope} {pos : Pos} : kE p sc e (.DictComp a b g s pos) = false := by cases e <;> rfl
theorem kE_sc {p : Par} {sc : Scope} {e : E} {a : Expr} {g : List Comprehension} {s : Scope} {pos : Pos} : kE p sc e (.SetComp a g s pos) = false := by cases e <;> rfl
theorem starEach_of {p : Par} {sc : Scope} {e : E} {x : Expr} {xs : List Expr} {env : Env} (h : kE p sc e x = true) : starEach (x :: xs) env = (false, eval x env) :: starEach xs env := by
  cases x with
  | Starred y pos => rw [kE_star] at h; cases h
  | _ => rfl
theorem starEach_all {p : Par} {sc : Scope} {env : Env} : ∀ {es : Es} {xs : List Expr}, kA p sc es xs = true → (starEach xs env).all (fun x => !x.1) = true
  | .nil, [], _ => rfl
  | .nil, _ :: _, h => nomatch h
  | .cons _ _, [], h => nomatch h
  | .cons e es, x :: xs, h => by
    have h : (kE p sc e x && kA p sc es xs) = true := h
    rw [Bool.and_eq_true] at h
    rw [starEach_of h.1, List.all_cons, starEach_all h.2]
    rfl
theorem backTo_any {pos : Pos} {l : List (Bool × Sem Value)} (h : l.all (fun x => !x.1) = true) : (backTo pos l).any (·.1) = false := by
  induction l with
  | nil => rfl
  | cons a r ih =>
    rw [List.all_cons, Bool.and_eq_true] at h
    show (a.1 || (backTo pos r).any (·.1)) = false
    rw [ih h.2, Bool.or_false]
    simpa using h.1
theorem backTo_all {pos : Pos} {l : List (Bool × Sem Value)} (h : l.all (fun x => !x.1) = true) : (backTo pos l).all (fun x => !x.1) = true := by
  induction l with
  | nil => rfl
  | cons a r ih =>
    rw [List.all_cons, Bool.and_eq_true] at h
    show (!a.1 && (backTo pos r).all (fun x => !x.1)) = true
    rw [ih h.2, Bool.and_true]
    exact h.1
theorem plainIx_of {p : Par} {sc : Scope} {e : E} {x : Expr} (h : kE p sc e x = true) : PlainIx x := fun o i => by
  cases x with
  | Slice a b c pos => rw [kE_slice] at h; cases h
  | _ => rfl
theorem noset_of {p : Par} {sc : Scope} {e : E} {x : Expr} {env : Env} (h : kE p sc e x = true) : ∀ v, foldedSetIterable x env v = pure v := fun v => by
  cases x with
  | Set a k pos => rw [kE_set] at h; cases h
  | _ => rfl
theorem base_of {p : Par} {sc : Scope} {e : E} {x : Expr} {env : Env} {n : Str} {w : Sem Value} (h : kE p sc e x = true) : attributeBase x n env w = w := by
  cases x with
  | Call f args kws pos =>
    cases args with
    | cons a r => cases f <;> rfl
    | nil =>
      exfalso
      cases e <;> cases f <;> cases kws <;> exact nomatch h
  | _ => rfl
section
variable {X : Cx} {T : Tab} {Wx : WX} {k : Nat} {mg : Str → Option Value} {sc : Scope} {p : Par} {Γ : Env2}
structure GOkP (P : Program) (w : World) (K : PySem.W.Frag) (mg : Str → Option Value) (base : Heap) (T : Tab) (k : Nat) (p : Par) (Γ : Env2) : Prop where
  f : ∀ c ∈ Γ.f, KnP P w K mg base T k c.x c.sp c.dws
  fx : Γ.f.map (·.x) = p.fx
  g : ∀ c ∈ Γ.g, ∃ u v, mg c.1 = some u ∧ RelV v u ∧ ∀ G, Rp T G c.2 v
  gx : Γ.g.map (·.1) = p.gx
  b : ∀ x ∈ p.bx, mg x = none
abbrev GOk (X : Cx) (T : Tab) (k : Nat) (p : Par) (Γ : Env2) : Prop := GOkP X.prog X.w X.K X.mg X.base T k p Γ
theorem vis_of (C : Ctx T k p.N mg X Wx sc) {x : Str} (h : visB sc x = true) : Vis X.env.scope x := by
  rw [C.eS]
  unfold visB at h
  split at h
  · exact .inl (by assumption)
  · exact .inr (.inl (by assumption))
  · exact .inr (.inr (by assumption))
  · cases h
theorem gl_of (C : Ctx T k p.N mg X Wx sc) {x : Str} (h : glB sc x = true) : Gl X x := by
  show X.env.scope.names.lookup x = some .globalImplicit
  rw [C.eS]
  unfold glB at h
  split at h
  · assumption
  · cases h
theorem okN_1 {x : Str} (h : okN x = true) : (x == ("__debug__" : Str)) = false ∧ (x == ("__classdict__" : Str)) = false := by
  unfold okN at h
  rw [Bool.and_eq_true, Bool.not_eq_true', Bool.not_eq_true'] at h
  exact h
theorem cal_of (O : GOk X T k p Γ) {i : Nat} {n : Str} (h : p.fx[i]? = some n) : ∃ c, Γ.f[i]? = some c ∧ c.x = n ∧ Kn X T k n c.sp c.dws := by
  rw [← O.fx, List.getElem?_map] at h
  cases e : Γ.f[i]? with
  | none => rw [e] at h; cases h
  | some c =>
    rw [e] at h
    cases h
    exact ⟨c, rfl, rfl, O.f c (List.mem_of_getElem? e)⟩
theorem glo_of (O : GOk X T k p Γ) {i : Nat} {n : Str} (h : p.gx[i]? = some n) : ∃ d u v, Γ.g[i]? = some (n, d) ∧ X.mg n = some u ∧ RelV v u ∧ ∀ G, Rp T G d v := by
  rw [← O.gx, List.getElem?_map] at h
  cases e : Γ.g[i]? with
  | none => rw [e] at h; cases h
  | some c =>
    rw [e] at h
    cases h
    obtain ⟨u, v, h1, h2, h3⟩ := O.g c (List.mem_of_getElem? e)
    exact ⟨c.2, u, v, rfl, h1, h2, h3⟩
theorem bo_ok (C : Ctx T k p.N mg X Wx sc) : ∀ o : BO, Op2 X T Wx (binaryOp o.op) o.r
  | .add m => op2_add C m
  | .sub => op2_sub
  | .mul => op_int op_mulW fun _ _ h => h
  | .fdiv => op2_fdiv
  | .mod => op2_mod
  | .pow => op2_pow
theorem co_ok (C : Ctx T k p.N mg X Wx sc) : ∀ o : CO, Op2 X T Wx (compareOp o.op) o.r
  | .lt => op2_lt
  | .le => op2_le
  | .gt => op2_gt
  | .ge => op2_ge
  | .eq => op2_eq C
  | .ne => op2_ne C
  | .in_ => op2_in C.eK
  | .nin => op2_notin C.eK
  | .is_ => op2_is
  | .isn => op2_isnot
theorem cn_ok {c : Cn} {v : Const} {j : Nat} {pos : Pos} (h : kC c v = true) : PE X (.Constant v j pos) (lowE T Wx (wC c.d)) := by
  cases c with
  | non =>
    cases v with
    | none => exact e_c pe_non fun _ => rfl
    | _ => exact nomatch h
  | bool a =>
    cases v with
    | bool b =>
      have e : a = b := by simpa [kC] using h
      subst e
      exact e_c pe_bl fun _ => rfl
    | _ => exact nomatch h
  | int a =>
    cases v with
    | int b =>
      have e : a = b := by simpa [kC] using h
      subst e
      exact e_c pe_int fun _ => rfl
    | _ => exact nomatch h
  | str a =>
    cases v with
    | str b =>
      have e : a = b ∧ a.length ≤ 16777216 := by simpa [kC] using h
      obtain ⟨e, hz⟩ := e
      subst e
      exact e_c pe_str fun _ => ⟨rfl, by rw [sizeLine_eq]; exact hz⟩
    | _ => exact nomatch h
/-- f(..), f a built-in -/
theorem bi_ok (C : Ctx T k p.N mg X Wx sc) (b : BI) {n : Str} {p1 pos : Pos} {v : Expr} {vs : List Expr} {ta : TA2} (hn : n = b.x) (hg : Gl X n) (hm : X.mg n = none) (ha : PA X (v :: vs) (lowA T Wx ta))
    (he : starEach (v :: vs) X.env = (false, eval v X.env) :: starEach vs X.env) (hpl : (backTo pos (starEach vs X.env)).any (·.1) = false) : PE X (.Call (.Name n p1) (v :: vs) [] pos) (lowE T Wx (wCB b.r ta)) := by
  subst hn
  cases b with
  | len => exact (pe_callB (b_len C.eK) hg hm (by decide +kernel) ha (by decide +kernel) (by decide +kernel) he hpl).imp fun _ _ _ q => low_cb q
  | list m =>
    have hg : Gl X ("list" : Str) := hg
    have hm : X.mg ("list" : Str) = none := hm
    exact (pe_callTy (b_list C.eK m) hg hm (by decide +kernel) ha (by decide +kernel) (by decide +kernel) he hpl).imp fun _ _ _ q => low_cb q
  | tuple => exact (pe_callTy (b_tuple C.eK) hg hm (by decide +kernel) ha (by decide +kernel) (by decide +kernel) he hpl).imp fun _ _ _ q => low_cb q
  | int => exact (pe_callTy b_int hg hm (by decide +kernel) ha (by decide +kernel) (by decide +kernel) he hpl).imp fun _ _ _ q => low_cb q
  | str => exact (pe_callTy b_str hg hm (by decide +kernel) ha (by decide +kernel) (by decide +kernel) he hpl).imp fun _ _ _ q => low_cb q
  | repr => exact (pe_callB (b_repr C) hg hm (by decide +kernel) ha (by decide +kernel) (by decide +kernel) he hpl).imp fun _ _ _ q => low_cb q
end
end Z
set_option maxHeartbeats 8000000
/-! Z11: every checked expression runs as its meaning says -/
namespace Z
open PySem PySem.Spec PyProof.Rows L2
section
variable {T : Tab} {k : Nat} {p : Par} {Γ : Env2}
theorem Kn_blk {X : Cx} {s : Shared} {H : Hp} {scope : Scope} {ce : Env} {fp : List Addr} {x : Str} {sp : Sp2} {dws : List W} (h : Kn X T k x sp dws) : Kn (X.blk s H scope ce fp) T k x sp dws := h
theorem GOk_blk {X : Cx} {s : Shared} {H : Hp} {scope : Scope} {ce : Env} {fp : List Addr} (h : GOk X T k p Γ) : GOk (X.blk s H scope ce fp) T k p Γ := h
theorem Ctx.blk {X : Cx} {mg : Str → Option Value} {Wx : WX} {sc : Scope} {s : Shared} {H : Hp} {scope : Scope} {C : Addr} {cl : List (Str × Addr)} {fp : List Addr} (h : Ctx T k p.N mg X Wx sc) : Ctx T k p.N mg (X.blk s H scope (compEnvC scope cl C X.env) fp) W0 (relS scope sc) :=
  ⟨h.eK, h.eM, h.room, h.gd, h.calm, takes0, h.eN, h.nd, by rw [← h.eS]; rfl⟩
theorem loc_blk {X : Cx} {mg : Str → Option Value} {Wx : WX} {sc : Scope} {s : Shared} {H : Hp} {scope : Scope} {C : Addr} {cl : List (Str × Addr)} {fp : List Addr} (h : Ctx T k p.N mg X Wx sc) {n : Str} {i : Nat} {pos : Pos} (hi : p.N[i]? = some n) (hl : locB scope n = true) :
    PG (X.blk s H scope (compEnvC scope cl C X.env) fp) (.Name n pos) (lowG T W0 (wgName i)) := by
  have e : (compEnvC scope cl C X.env).scope = relS scope X.env.scope := rfl
  unfold locB at hl
  split at hl
  · rename_i q
    have q' : (relS scope X.env.scope).names.lookup n = some .local := lookup_relS_keep (by decide) q
    exact g_name (pg_name (by rw [h.eN]; exact h.nd) (by rw [h.eN]; exact hi) (.inl q') (.inr q'))
  · rename_i q
    have q' : (relS scope X.env.scope).names.lookup n = some .cell := lookup_relS_keep (by decide) q
    exact g_name (pg_name (by rw [h.eN]; exact h.nd) (by rw [h.eN]; exact hi) (.inr q') (.inl (by show (scope.names.lookup n == some .cell) = true; rw [q]; rfl)))
  · cases hl
/-- a comprehension -/
theorem e_lc {X : Cx} {mg : Str → Option Value} {Wx : WX} {sc : Scope} {m : Bool} {ti : TI2} {tt : TT2} {te : TE2} {n : Str} {i : Nat} {np pos : Pos} {el iter : Expr} {ifs : List Expr} {scope : Scope} (C : Ctx T k p.N mg X Wx sc)
    (hi : p.N[i]? = some n) (hl : locB scope n = true) (hb : blkC p.N sc scope [(n, i)] = true) (h1 : PI X (.Name n np) iter (lowI T Wx ti))
    (h2 : ∀ (s : Shared) (H : Hp) (D : Addr) (cl : List (Str × Addr)) (fp : List Addr), PTs (X.blk s H scope (compEnvC scope cl D X.env) fp) ifs (lowT T W0 tt))
    (h3 : ∀ (s : Shared) (H : Hp) (D : Addr) (cl : List (Str × Addr)) (fp : List Addr), PE (X.blk s H scope (compEnvC scope cl D X.env) fp) el (lowE T W0 te)) (hs : ∀ v, foldedSetIterable iter X.env v = pure v) :
    PE X (.ListComp el [⟨.Name n np, iter, ifs, 0⟩] scope pos) (lowE T Wx (wLc m ti (wgName i) tt te [i])) := by
  have bk : BlkOk X.N X.env.scope scope [(n, i)] := by rw [C.eN, C.eS]; exact blkOk_by hb
  have hg : ∀ (s : Shared) (H : Hp) (D : Addr) (cl : List (Str × Addr)) (fp : List Addr), PG (X.blk s H scope (compEnvC scope cl D X.env) fp) (.Name n np) (gName i) := fun s H D cl fp => by
    unfold locB at hl
    split at hl
    · rename_i q
      have q' : (relS scope X.env.scope).names.lookup n = some .local := lookup_relS_keep (by decide) q
      exact pg_name (by rw [C.eN]; exact C.nd) (by rw [C.eN]; exact hi) (.inl q') (.inr q')
    · rename_i q
      have q' : (relS scope X.env.scope).names.lookup n = some .cell := lookup_relS_keep (by decide) q
      exact pg_name (by rw [C.eN]; exact C.nd) (by rw [C.eN]; exact hi) (.inr q') (.inl (by show (scope.names.lookup n == some .cell) = true; rw [q]; rfl))
    · cases hl
  exact (pe_lc C.calm (by rw [C.eN]; exact C.nd) h1 bk hg h2 h3 hs).imp fun σ H Q q => low_lc gl_name q
theorem e_neg {X : Cx} {Wx : WX} {te : TE2} {a : Expr} {pos : Pos} (ha : PE X a (lowE T Wx te)) : PE X (.UnaryOp .USub a pos) (lowE T Wx fun σ M Q E => te σ M (fun x M1 => ∃ i, x = .d (.int i) ∧ Q (.d (.int (-i))) M1) E) := (pe_un un_neg ha).imp fun σ H Q h => by
  obtain ⟨G, σ2, M, Q2, E2, sr, rs, q2, pq, px⟩ := h
  refine ⟨G, σ2, M, _, E2, sr, rs, q2, fun w M1 G1 H1 v m1 sr1 rw1 q3 => ?_, px⟩
  obtain ⟨i, rfl, q3⟩ := q3
  exact ⟨i, rw1, pq _ M1 G1 H1 _ m1 sr1 (show RW T G1 (.d (.int (-i))) (.int (-i)) from rfl) q3⟩
theorem e_meth {X : Cx} {mg : Str → Option Value} {Wx : WX} {sc : Scope} (C : Ctx T k p.N mg X Wx sc) (b : BM) {o : E} {es : Es} {r : Expr} {n : Str} {ap cp : Pos} {v : Expr} {vs : List Expr} {to : TE2} {ta : TA2} (hn : n = b.x) (hline : (ap.endLine == cp.line) = true) (hfew : vs.length < 20)
    (ko : kE p sc o r = true) (ka : kA p sc es (v :: vs) = true) (ho : PE X r (lowE T Wx to)) (ha : PA X (v :: vs) (lowA T Wx ta)) : PE X (.Call (.Attribute r n ap) (v :: vs) [] cp) (lowE T Wx (wBM b.ok b.r to ta)) := by
  subst hn
  have hst : starEach (v :: vs) X.env = (false, eval v X.env) :: starEach vs X.env := by
    cases es with
    | nil => exact nomatch ka
    | cons e r' =>
      have ka : (kE p sc e v && kA p sc r' vs) = true := ka
      rw [Bool.and_eq_true] at ka
      exact starEach_of ka.1
  have hall := starEach_all (env := X.env) ka
  have hpl : (backTo cp (starEach vs X.env)).any (·.1) = false := by
    rw [hst, List.all_cons, Bool.and_eq_true] at hall
    exact backTo_any hall.2
  have hf : ((backTo cp (starEach (v :: vs) X.env)).all (fun x => !x.1) && (backToKw cp (keywordEach [] X.env)).all (fun x => x.1.isSome)
      && decide ((v :: vs).length + ([] : List Keyword).length + (if ([] : List Keyword).isEmpty then 0 else 1) < 30)) = true := by
    rw [backTo_all hall, Bool.true_and]
    show (true && decide (vs.length + 1 + 0 + 0 < 30)) = true
    rw [Bool.true_and, decide_eq_true_eq]
    omega
  have hb : ∀ w, attributeBase r b.x X.env w = w := fun w => base_of ko
  cases b with
  | append => exact (pe_bm PySem.F.plainAttrs_list PySem.F.slot_list_append PySem.F.type_list_append m_append ho ha (hb _) hf hline hst hpl).imp fun _ _ _ q => low_bm (okL_ty C.eK) q
  | popAt => exact (pe_bm PySem.F.plainAttrs_list PySem.F.slot_list_pop PySem.F.type_list_pop m_popAt ho ha (hb _) hf hline hst hpl).imp fun _ _ _ q => low_bm (okL_ty C.eK) q
  | extend => exact (pe_bm PySem.F.plainAttrs_list PySem.F.slot_list_extend PySem.F.type_list_extend m_extend ho ha (hb _) hf hline hst hpl).imp fun _ _ _ q => low_bm (okL_ty C.eK) q
  | join => exact (pe_bm PySem.F.plainAttrs_str PySem.F.slot_str_join PySem.F.type_str_join (m_join C.eK) ho ha (hb _) hf hline hst hpl).imp fun _ _ _ q => low_bm okS_ty q
/-- what a call of a def or of a built-in wants of its arguments -/
theorem args_of {sc : Scope} {es : Es} {v : Expr} {vs : List Expr} {env : Env} {pos : Pos} (ka : kA p sc es (v :: vs) = true) : starEach (v :: vs) env = (false, eval v env) :: starEach vs env ∧ (backTo pos (starEach vs env)).any (·.1) = false := by
  have hst : starEach (v :: vs) env = (false, eval v env) :: starEach vs env := by
    cases es with
    | nil => exact nomatch ka
    | cons e r' =>
      have ka : (kE p sc e v && kA p sc r' vs) = true := ka
      rw [Bool.and_eq_true] at ka
      exact starEach_of ka.1
  have hall := starEach_all (env := env) ka
  rw [hst, List.all_cons, Bool.and_eq_true] at hall
  exact ⟨hst, backTo_any hall.2⟩
theorem tru_of {X : Cx} {mg : Str → Option Value} {Wx : WX} {sc : Scope} {a : Expr} {ta : TE2} (C : Ctx T k p.N mg X Wx sc) (h : PE X a (lowE T Wx ta)) (hn : match a with | .Name .. => True | .Call .. => True | .Subscript .. => True | _ => False) : PT X a (lowT T Wx (wTru ta)) := by
  refine t_tru C h fun whole => ?_
  cases a <;> first | exact hn.elim | rfl

mutual
theorem sE (e : E) {X : Cx} {mg : Str → Option Value} {Wx : WX} {sc : Scope} (C : Ctx T k p.N mg X Wx sc) (O : GOk X T k p Γ) (x : Expr) (h : kE p sc e x = true) : PE X x (lowE T Wx (wE Γ e)) := match e, h with
  | .var i, h => by
    cases x with
    | Name n pos =>
      have h : (decide (p.N[i]? = some n) && visB sc n && okN n) = true := h
      simp only [Bool.and_eq_true, decide_eq_true_eq] at h
      obtain ⟨⟨h1, h2⟩, h3⟩ := h
      exact e_var (pe_var (by rw [C.eN]; exact h1) (vis_of C h2) (okN_1 h3).1 (okN_1 h3).2)
    | _ => exact nomatch h
  | .cst c, h => by
    cases x with
    | Constant v j pos => exact cn_ok h
    | _ => exact nomatch h
  | .glob i, h => by
    cases x with
    | Name n pos =>
      have h : (decide (p.gx[i]? = some n) && glB sc n && okN n) = true := h
      simp only [Bool.and_eq_true, decide_eq_true_eq] at h
      obtain ⟨⟨h1, h2⟩, h3⟩ := h
      obtain ⟨d, u, v, e1, e2, e3, e4⟩ := glo_of O h1
      show PE X _ (lowE T Wx (match Γ.g[i]? with | some (_, d) => wC d | none => wFalse))
      rw [e1]
      exact e_c (pe_glob (gl_of C h2) e2 e3 (okN_1 h3).1) e4
    | _ => exact nomatch h
  | .bin o a b, h => by
    cases x with
    | BinOp l op r pos =>
      have h : (decide (op = o.op) && kE p sc a l && kE p sc b r) = true := h
      simp only [Bool.and_eq_true, decide_eq_true_eq] at h
      obtain ⟨⟨rfl, h1⟩, h2⟩ := h
      exact e_bin (bo_ok C o) (sE a C O l h1) (sE b C O r h2)
    | _ => exact nomatch h
  | .cmp o a b, h => by
    cases x with
    | Compare l ops rs pos =>
      match ops, rs, h with
      | [op], [r], h =>
        have h : (decide (op = o.op) && kE p sc a l && kE p sc b r && !behindInMarks op r) = true := h
        simp only [Bool.and_eq_true, decide_eq_true_eq, Bool.not_eq_true'] at h
        obtain ⟨⟨⟨rfl, h1⟩, h2⟩, h3⟩ := h
        exact e_cmp (co_ok C o) (sE a C O l h1) (sE b C O r h2) h3
    | _ => exact nomatch h
  | .chain o o' a b c, h => by
    cases x with
    | Compare l ops rs pos =>
      match ops, rs, h with
      | [op, op'], [r, r'], h =>
        have h : (decide (op = o.op) && decide (op' = o'.op) && kE p sc a l && kE p sc b r && kE p sc c r' && !lastMarks [op, op'] [r, r']) = true := h
        simp only [Bool.and_eq_true, decide_eq_true_eq, Bool.not_eq_true'] at h
        obtain ⟨⟨⟨⟨⟨rfl, rfl⟩, h1⟩, h2⟩, h3⟩, h4⟩ := h
        exact e_chain (co_ok C o) (co_ok C o') (sE a C O l h1) (sE b C O r h2) (sE c C O r' h3) h4
    | _ => exact nomatch h
  | .and a es, h => by
    cases x with
    | BoolOp op vs pos =>
      match op, vs, h with
      | .And, v :: vs, h =>
        have h : (kE p sc a v && kA p sc es vs) = true := h
        rw [Bool.and_eq_true] at h
        exact sAnds es C O v vs pos h.2 (sE a C O v h.1)
    | _ => exact nomatch h
  | .or a es, h => by
    cases x with
    | BoolOp op vs pos =>
      match op, vs, h with
      | .Or, v :: vs, h =>
        have h : (kE p sc a v && kA p sc es vs) = true := h
        rw [Bool.and_eq_true] at h
        exact sOrs es C O v vs pos h.2 (sE a C O v h.1)
    | _ => exact nomatch h
  | .not a, h => by
    cases x with
    | UnaryOp op v pos =>
      match op, h with
      | .Not, h => exact e_not C (sE a C O v h)
    | _ => exact nomatch h
  | .ife c a b, h => by
    cases x with
    | IfExp v u w pos =>
      have h : (kE p sc c v && kE p sc a u && kE p sc b w) = true := h
      simp only [Bool.and_eq_true] at h
      exact e_if (sT c C O v h.1.1) (sE a C O u h.1.2) (sE b C O w h.2)
    | _ => exact nomatch h
  | .tup es, h => by
    cases x with
    | Tuple vs j pos => exact e_tup (sA es C O vs h)
    | _ => exact nomatch h
  | .lst m es, h => by
    cases x with
    | List vs pos => exact e_lst (sA es C O vs h)
    | _ => exact nomatch h
  | .ix a b, h => by
    cases x with
    | Subscript l r pos =>
      have h : (kE p sc a l && kE p sc b r) = true := h
      rw [Bool.and_eq_true] at h
      exact ixR2 C.eK (sE a C O l h.1) (sE b C O r h.2) (plainIx_of h.2)
    | _ => exact nomatch h
  | .sl m a lo hi, h => by
    cases x with
    | Subscript l r pos =>
      cases r with
      | Slice lo' hi' st pos' =>
        cases st with
        | some _ => exact nomatch h
        | none =>
          have h : (kE p sc a l && kO p sc lo lo' && kO p sc hi hi') = true := h
          simp only [Bool.and_eq_true] at h
          exact e_slice C.eK (sE a C O l h.1.1) (sO lo C O lo' h.1.2) (sO hi C O hi' h.2)
      | _ => exact nomatch h
    | _ => exact nomatch h
  | .neg a, h => by
    cases x with
    | UnaryOp op v pos =>
      match op, h with
      | .USub, h => exact e_neg (sE a C O v h)
    | _ => exact nomatch h
  | .call i es, h => by
    cases x with
    | Call f as kws pos =>
      cases f with
      | Name n np =>
        match as, kws, h with
        | v :: vs, [], h =>
          have h : (decide (p.fx[i]? = some n) && glB sc n && okN n && kA p sc es (v :: vs)) = true := h
          simp only [Bool.and_eq_true, decide_eq_true_eq] at h
          obtain ⟨⟨⟨h1, h2⟩, h3⟩, h4⟩ := h
          obtain ⟨c, e1, e2, e3⟩ := cal_of O h1
          show PE X _ (lowE T Wx (match Γ.f[i]? with | some c => wCall c.sp c.dws (wA Γ es) | none => wFalse))
          rw [e1]
          obtain ⟨a1, a2⟩ := args_of (env := X.env) (pos := pos) h4
          exact e_call C e3 (gl_of C h2) (sA es C O (v :: vs) h4) (okN_1 h3).1 a1 a2
      | _ => exact nomatch h
    | _ => exact nomatch h
  | .blt b es, h => by
    cases x with
    | Call f as kws pos =>
      cases f with
      | Name n np =>
        match as, kws, h with
        | v :: vs, [], h =>
          have h : (decide (n = b.x) && decide (n ∈ p.bx) && glB sc n && okN n && kA p sc es (v :: vs)) = true := h
          simp only [Bool.and_eq_true, decide_eq_true_eq] at h
          obtain ⟨⟨⟨⟨h1, h2⟩, h3⟩, h4⟩, h5⟩ := h
          obtain ⟨a1, a2⟩ := args_of (env := X.env) (pos := pos) h5
          exact bi_ok C b h1 (gl_of C h3) (O.b n h2) (sA es C O (v :: vs) h5) a1 a2
      | _ => exact nomatch h
    | _ => exact nomatch h
  | .bm b o es, h => by
    cases x with
    | Call f as kws pos =>
      cases f with
      | Attribute r n ap =>
        match as, kws, h with
        | v :: vs, [], h =>
          have h : (decide (n = b.x) && (ap.endLine == pos.line) && decide (vs.length < 20) && kE p sc o r && kA p sc es (v :: vs)) = true := h
          simp only [Bool.and_eq_true, decide_eq_true_eq] at h
          obtain ⟨⟨⟨⟨h1, h2⟩, h3⟩, h4⟩, h5⟩ := h
          exact e_meth C b h1 h2 h3 h4 h5 (sE o C O r h4) (sA es C O (v :: vs) h5)
      | _ => exact nomatch h
    | _ => exact nomatch h
  | .lc m it i c elt, h => by
    cases x with
    | ListComp el gens scope pos =>
      match gens, h with
      | [], h => simp [kE] at h
      | _ :: _ :: _, h => simp [kE] at h
      | [⟨tg, iter, ifs, as⟩], h =>
        cases tg with
        | Name n np =>
            have ha : as = 0 := by
              refine Classical.byContradiction fun q => ?_
              simp [kE, q] at h
            subst ha
            have h : (decide (p.N[i]? = some n) && locB scope n && blkC p.N sc scope [(n, i)] && kI p sc it iter && kF p (relS scope sc) c ifs && kE p (relS scope sc) elt el) = true := h
            simp only [Bool.and_eq_true, decide_eq_true_eq] at h
            obtain ⟨⟨⟨⟨⟨h1, h2⟩, h3⟩, h4⟩, h5⟩, h6⟩ := h
            exact e_lc C h1 h2 h3 (sI it C O _ iter h4).1 (fun s H D cl fp => sF c (C.blk (cl := cl) (fp := fp)) (GOk_blk O) ifs h5) (fun s H D cl fp => sE elt (C.blk (cl := cl) (fp := fp)) (GOk_blk O) el h6) (sI it C O (.Name n np) iter h4).2
        | _ => exact nomatch h
    | _ => exact nomatch h
termination_by structural e
theorem sT (e : E) {X : Cx} {mg : Str → Option Value} {Wx : WX} {sc : Scope} (C : Ctx T k p.N mg X Wx sc) (O : GOk X T k p Γ) (x : Expr) (h : kE p sc e x = true) : PT X x (lowT T Wx (wT2 Γ e)) := match e, h with
  | .var i, h => by
    cases x with
    | Name n pos =>
      have h : (decide (p.N[i]? = some n) && visB sc n && okN n) = true := h
      simp only [Bool.and_eq_true, decide_eq_true_eq] at h
      obtain ⟨⟨h1, h2⟩, h3⟩ := h
      exact tru_of C (e_var (pe_var (by rw [C.eN]; exact h1) (vis_of C h2) (okN_1 h3).1 (okN_1 h3).2)) trivial
    | _ => exact nomatch h
  | .cmp o a b, h => by
    cases x with
    | Compare l ops rs pos =>
      match ops, rs, h with
      | [op], [r], h =>
        have h : (decide (op = o.op) && kE p sc a l && kE p sc b r && !behindInMarks op r) = true := h
        simp only [Bool.and_eq_true, decide_eq_true_eq, Bool.not_eq_true'] at h
        obtain ⟨⟨⟨rfl, h1⟩, h2⟩, h3⟩ := h
        exact t_cmp (co_ok C o) (sE a C O l h1) (sE b C O r h2) h3
    | _ => exact nomatch h
  | .chain o o' a b c, h => by
    cases x with
    | Compare l ops rs pos =>
      match ops, rs, h with
      | [op, op'], [r, r'], h =>
        have h : (decide (op = o.op) && decide (op' = o'.op) && kE p sc a l && kE p sc b r && kE p sc c r' && !lastMarks [op, op'] [r, r']) = true := h
        simp only [Bool.and_eq_true, decide_eq_true_eq, Bool.not_eq_true'] at h
        obtain ⟨⟨⟨⟨⟨rfl, rfl⟩, h1⟩, h2⟩, h3⟩, h4⟩ := h
        exact t_chain (co_ok C o) (co_ok C o') (sE a C O l h1) (sE b C O r h2) (sE c C O r' h3) h4
    | _ => exact nomatch h
  | .and a es, h => by
    cases x with
    | BoolOp op vs pos =>
      match op, vs, h with
      | .And, v :: vs, h =>
        have h : (kE p sc a v && kA p sc es vs) = true := h
        rw [Bool.and_eq_true] at h
        exact (sAndsT es C O v vs pos h.2 (sT a C O v h.1)).pt
    | _ => exact nomatch h
  | .or a es, h => by
    cases x with
    | BoolOp op vs pos =>
      match op, vs, h with
      | .Or, v :: vs, h =>
        have h : (kE p sc a v && kA p sc es vs) = true := h
        rw [Bool.and_eq_true] at h
        exact (sOrsT es C O v vs pos h.2 (sT a C O v h.1)).pt
    | _ => exact nomatch h
  | .not a, h => by
    cases x with
    | UnaryOp op v pos =>
      match op, h with
      | .Not, h => exact t_not (sT a C O v h)
    | _ => exact nomatch h
  | .ix a b, h => by
    cases x with
    | Subscript l r pos =>
      have h : (kE p sc a l && kE p sc b r) = true := h
      rw [Bool.and_eq_true] at h
      exact tru_of C (ixR2 C.eK (sE a C O l h.1) (sE b C O r h.2) (plainIx_of h.2)) trivial
    | _ => exact nomatch h
  | .call i es, h => by
    cases x with
    | Call f as kws pos =>
      cases f with
      | Name n np =>
        match as, kws, h with
        | v :: vs, [], h =>
          have h : (decide (p.fx[i]? = some n) && glB sc n && okN n && kA p sc es (v :: vs)) = true := h
          simp only [Bool.and_eq_true, decide_eq_true_eq] at h
          obtain ⟨⟨⟨h1, h2⟩, h3⟩, h4⟩ := h
          obtain ⟨c, e1, e2, e3⟩ := cal_of O h1
          show PT X _ (lowT T Wx (wTru (match Γ.f[i]? with | some c => wCall c.sp c.dws (wA Γ es) | none => wFalse)))
          rw [e1]
          obtain ⟨a1, a2⟩ := args_of (env := X.env) (pos := pos) h4
          exact tru_of C (e_call C e3 (gl_of C h2) (sA es C O (v :: vs) h4) (okN_1 h3).1 a1 a2) trivial
      | _ => exact nomatch h
    | _ => exact nomatch h
  | .blt b es, h => by
    cases x with
    | Call f as kws pos =>
      cases f with
      | Name n np =>
        match as, kws, h with
        | v :: vs, [], h =>
          have h : (decide (n = b.x) && decide (n ∈ p.bx) && glB sc n && okN n && kA p sc es (v :: vs)) = true := h
          simp only [Bool.and_eq_true, decide_eq_true_eq] at h
          obtain ⟨⟨⟨⟨h1, h2⟩, h3⟩, h4⟩, h5⟩ := h
          obtain ⟨a1, a2⟩ := args_of (env := X.env) (pos := pos) h5
          exact tru_of C (bi_ok C b h1 (gl_of C h3) (O.b n h2) (sA es C O (v :: vs) h5) a1 a2) trivial
      | _ => exact nomatch h
    | _ => exact nomatch h
  | .cst _, _ => ⟨fun _ _ _ _ _ _ ⟨_, _, _, _, _, _, _, f, _⟩ => f.elim⟩
  | .glob _, _ => ⟨fun _ _ _ _ _ _ ⟨_, _, _, _, _, _, _, f, _⟩ => f.elim⟩
  | .bin _ _ _, _ => ⟨fun _ _ _ _ _ _ ⟨_, _, _, _, _, _, _, f, _⟩ => f.elim⟩
  | .ife _ _ _, _ => ⟨fun _ _ _ _ _ _ ⟨_, _, _, _, _, _, _, f, _⟩ => f.elim⟩
  | .tup _, _ => ⟨fun _ _ _ _ _ _ ⟨_, _, _, _, _, _, _, f, _⟩ => f.elim⟩
  | .lst _ _, _ => ⟨fun _ _ _ _ _ _ ⟨_, _, _, _, _, _, _, f, _⟩ => f.elim⟩
  | .sl _ _ _ _, _ => ⟨fun _ _ _ _ _ _ ⟨_, _, _, _, _, _, _, f, _⟩ => f.elim⟩
  | .neg _, _ => ⟨fun _ _ _ _ _ _ ⟨_, _, _, _, _, _, _, f, _⟩ => f.elim⟩
  | .bm _ _ _, _ => ⟨fun _ _ _ _ _ _ ⟨_, _, _, _, _, _, _, f, _⟩ => f.elim⟩
  | .lc _ _ _ _ _, _ => ⟨fun _ _ _ _ _ _ ⟨_, _, _, _, _, _, _, f, _⟩ => f.elim⟩
termination_by structural e
theorem sA (es : Es) {X : Cx} {mg : Str → Option Value} {Wx : WX} {sc : Scope} (C : Ctx T k p.N mg X Wx sc) (O : GOk X T k p Γ) (xs : List Expr) (h : kA p sc es xs = true) : PA X xs (lowA T Wx (wA Γ es)) := match es, h with
  | .nil, h => by
    cases xs with
    | nil => exact a_nil
    | cons _ _ => exact nomatch h
  | .cons e es, h => by
    cases xs with
    | nil => exact nomatch h
    | cons x xs =>
      have h : (kE p sc e x && kA p sc es xs) = true := h
      rw [Bool.and_eq_true] at h
      exact a_cons (sE e C O x h.1) (sA es C O xs h.2) (starEach_of h.1)
termination_by structural es
theorem sAnds (es : Es) {X : Cx} {mg : Str → Option Value} {Wx : WX} {sc : Scope} (C : Ctx T k p.N mg X Wx sc) (O : GOk X T k p Γ) (v : Expr) (vs : List Expr) (pos : Pos) {t : TE2} (h : kA p sc es vs = true) (hv : PE X v (lowE T Wx t)) : PE X (.BoolOp .And (v :: vs) pos) (lowE T Wx (wAnds Γ t es)) := match es, h with
  | .nil, h => by
    cases vs with
    | nil => exact e_and1 hv
    | cons _ _ => exact nomatch h
  | .cons e es, h => by
    cases vs with
    | nil => exact nomatch h
    | cons x xs =>
      have h : (kE p sc e x && kA p sc es xs) = true := h
      rw [Bool.and_eq_true] at h
      exact e_and C hv (sAnds es C O x xs pos h.2 (sE e C O x h.1))
termination_by structural es
theorem sOrs (es : Es) {X : Cx} {mg : Str → Option Value} {Wx : WX} {sc : Scope} (C : Ctx T k p.N mg X Wx sc) (O : GOk X T k p Γ) (v : Expr) (vs : List Expr) (pos : Pos) {t : TE2} (h : kA p sc es vs = true) (hv : PE X v (lowE T Wx t)) : PE X (.BoolOp .Or (v :: vs) pos) (lowE T Wx (wOrs Γ t es)) := match es, h with
  | .nil, h => by
    cases vs with
    | nil => exact e_and1 hv
    | cons _ _ => exact nomatch h
  | .cons e es, h => by
    cases vs with
    | nil => exact nomatch h
    | cons x xs =>
      have h : (kE p sc e x && kA p sc es xs) = true := h
      rw [Bool.and_eq_true] at h
      exact e_or C hv (sOrs es C O x xs pos h.2 (sE e C O x h.1))
termination_by structural es
theorem sAndsT (es : Es) {X : Cx} {mg : Str → Option Value} {Wx : WX} {sc : Scope} (C : Ctx T k p.N mg X Wx sc) (O : GOk X T k p Γ) (v : Expr) (vs : List Expr) (pos : Pos) {t : TT2} (h : kA p sc es vs = true) (hv : PT X v (lowT T Wx t)) : PW X (.BoolOp .And (v :: vs) pos) (lowT T Wx (wAndsT Γ t es)) := match es, h with
  | .nil, h => by
    cases vs with
    | nil => exact tw_and1 hv
    | cons _ _ => exact nomatch h
  | .cons e es, h => by
    cases vs with
    | nil => exact nomatch h
    | cons x xs =>
      have h : (kE p sc e x && kA p sc es xs) = true := h
      rw [Bool.and_eq_true] at h
      exact tw_and hv (sAndsT es C O x xs pos h.2 (sT e C O x h.1))
termination_by structural es
theorem sOrsT (es : Es) {X : Cx} {mg : Str → Option Value} {Wx : WX} {sc : Scope} (C : Ctx T k p.N mg X Wx sc) (O : GOk X T k p Γ) (v : Expr) (vs : List Expr) (pos : Pos) {t : TT2} (h : kA p sc es vs = true) (hv : PT X v (lowT T Wx t)) : PW X (.BoolOp .Or (v :: vs) pos) (lowT T Wx (wOrsT Γ t es)) := match es, h with
  | .nil, h => by
    cases vs with
    | nil => exact tw_or1 hv
    | cons _ _ => exact nomatch h
  | .cons e es, h => by
    cases vs with
    | nil => exact nomatch h
    | cons x xs =>
      have h : (kE p sc e x && kA p sc es xs) = true := h
      rw [Bool.and_eq_true] at h
      exact tw_or hv (sOrsT es C O x xs pos h.2 (sT e C O x h.1))
termination_by structural es
theorem sO (es : Es) {X : Cx} {mg : Str → Option Value} {Wx : WX} {sc : Scope} (C : Ctx T k p.N mg X Wx sc) (O : GOk X T k p Γ) (x : Option Expr) (h : kO p sc es x = true) : PO X x (lowO T Wx (wO Γ es)) := match es, h with
  | .nil, h => by
    cases x with
    | none => exact o_none
    | some _ => exact nomatch h
  | .cons e es, h => by
    cases x with
    | none => exact nomatch h
    | some x => exact o_some (sE e C O x h)
termination_by structural es
theorem sF (es : Es) {X : Cx} {mg : Str → Option Value} {Wx : WX} {sc : Scope} (C : Ctx T k p.N mg X Wx sc) (O : GOk X T k p Γ) (xs : List Expr) (h : kF p sc es xs = true) : PTs X xs (lowT T Wx (wC1 Γ es)) := match es, h with
  | .nil, h => by
    cases xs with
    | nil => exact ts_nil
    | cons _ _ => exact nomatch h
  | .cons e es, h => by
    match xs, h with
    | [x], h => exact ts_one (sT e C O x h)
termination_by structural es
theorem sI (it : It2) {X : Cx} {mg : Str → Option Value} {Wx : WX} {sc : Scope} (C : Ctx T k p.N mg X Wx sc) (O : GOk X T k p Γ) (tg x : Expr) (h : kI p sc it x = true) : PI X tg x (lowI T Wx (wI Γ it)) ∧ ∀ v, foldedSetIterable x X.env v = pure v := match it, h with
  | .seq e, h => ⟨i_seq C.eK (sE e C O x h), noset_of h⟩
  | .sgn e, h => ⟨i_str (sE e C O x h), noset_of h⟩
  | .rng1 e, h => by
    cases x with
    | Call f as kws pos =>
      cases f with
      | Name n np =>
        match as, kws, h with
        | [v], [], h =>
          have h : (decide (n = ("range" : Str)) && decide (n ∈ p.bx) && glB sc n && kE p sc e v) = true := h
          simp only [Bool.and_eq_true, decide_eq_true_eq] at h
          obtain ⟨⟨⟨rfl, h2⟩, h3⟩, h4⟩ := h
          exact ⟨i_rng1 (gl_of C h3) (O.b _ h2) (a_cons (sE e C O v h4) a_nil (starEach_of h4)) (starEach_of h4), fun _ => rfl⟩
      | _ => exact nomatch h
    | _ => exact nomatch h
  | .rng2 a b, h => by
    cases x with
    | Call f as kws pos =>
      cases f with
      | Name n np =>
        match as, kws, h with
        | [v, u], [], h =>
          have h : (decide (n = ("range" : Str)) && decide (n ∈ p.bx) && glB sc n && kE p sc a v && kE p sc b u) = true := h
          simp only [Bool.and_eq_true, decide_eq_true_eq] at h
          obtain ⟨⟨⟨⟨rfl, h2⟩, h3⟩, h4⟩, h5⟩ := h
          exact ⟨i_rng2 (gl_of C h3) (O.b _ h2) (a_cons (sE a C O v h4) (a_cons (sE b C O u h5) a_nil (starEach_of h5)) (starEach_of h4)) (by rw [starEach_of h4, starEach_of h5]; rfl) (starEach_of h5), fun _ => rfl⟩
      | _ => exact nomatch h
    | _ => exact nomatch h
termination_by structural it
end
end
end Z
set_option maxHeartbeats 8000000
/-! Z12: statements as terms; defs -/
namespace Z
open PySem PySem.Spec PyProof.Rows L2
inductive Tg where
  | name (i : Nat) | tup (is : List Nat) | lst (is : List Nat) | sub (o i : E)
mutual
inductive S where
  | pass | brk | cont | ret (e : E) | retN | ex (e : E) | asg (t : Tg) (e : E) | par (i j : Nat) (a b : E) | iff (c : E) (a b : Ss) | aug (add : Bool) (i : Nat) (e : E) | whl (c : E) (b : Ss) | for (t : Tg) (it : It2) (b : Ss)
inductive Ss where
  | nil | cons (s : S) (r : Ss) | frz (i : Nat) (r : Ss)
end
def wTs : List Nat → TGs2
  | [] => wgNil
  | i :: r => wgCons i (wTs r)
def wTg (Γ : Env2) : Tg → TG2
  | .name i => wgName i
  | .tup is => wgTup is.length (wTs is)
  | .lst is => wgLst is.length (wTs is)
  | .sub o i => wgSub (wE Γ o) (wE Γ i)
/-- a list in a cell becomes data -/
def wFrz (i : Nat) (t : TS2) : TS2 := fun D σ M => ∃ a us ds, σ[i]? = some (some (.c a)) ∧ M a = some (.lst us) ∧ unD us = some ds ∧ t D (σ.set i (some (.d (.lst ds)))) (del M a)
def wPar (i j : Nat) (ta : TA2) : TS2 := fun D σ M => ta σ M (fun ws M1 => ∃ v w, ws = [v, w] ∧ D.nx ((σ.set i (some v)).set j (some w)) M1) fun x M1 => D.ex x σ M1
def augF (add : Bool) (i j : Int) : Int := if add = true then i + j else i - j
mutual
def wS (Γ : Env2) : S → TS2
  | .pass => wNext
  | .brk => wBreak
  | .cont => wCont
  | .ret e => wRet (wE Γ e)
  | .retN => wRetN
  | .ex e => wExpr (wE Γ e)
  | .asg t e => wAsg (wE Γ e) (wTg Γ t)
  | .par i j a b => wPar i j (wCons (wE Γ a) (wCons (wE Γ b) wNil))
  | .iff c a b => wIfS (wT2 Γ c) (wSs Γ a) (wSs Γ b)
  | .aug add i e => wAugI (augF add) i (wE Γ e)
  | .whl c b => wWhile (wT2 Γ c) (wSs Γ b)
  | .for t it b => wFor (wI Γ it) (wTg Γ t) (wSs Γ b)
def wSs (Γ : Env2) : Ss → TS2
  | .nil => wNext
  | .cons s r => wSeq (wS Γ s) (wSs Γ r)
  | .frz i r => wFrz i (wSs Γ r)
end
/-! ### that a statement of the text is such a term -/
def nameB (p : Par) (sc : Scope) (i : Nat) : Expr → Bool
  | .Name n _ => decide (p.N[i]? = some n) && locB sc n
  | _ => false
def namesB (p : Par) (sc : Scope) : List Nat → List Expr → Bool
  | [], [] => true
  | i :: is, x :: xs => nameB p sc i x && namesB p sc is xs
  | _, _ => false
def kTg (p : Par) (sc : Scope) : Tg → Expr → Bool
  | .name i, x => nameB p sc i x
  | .tup is, .Tuple xs _ _ => namesB p sc is xs
  | .lst is, .Tuple xs _ _ => namesB p sc is xs
  | .sub o i, .Subscript a b _ => kE p sc o a && kE p sc i b
  | _, _ => false
def isTup : Expr → Bool
  | .Tuple .. => true
  | .List .. => true
  | _ => false
def isLc : Expr → Bool
  | .ListComp .. => true
  | _ => false
/-- y = [..]: the list's making swaps with the store -/
def swB (sc : Scope) : Expr → Expr → Bool
  | .Name n np, .ListComp el gs scope lp => (match sc.names.lookup n with | some .local => true | _ => false) && (np.line == lp.line) && !(scope.names.any fun (m, k) => m == n && (k == .local || k == .cell))
  | _, _ => false
mutual
def kS (p : Par) (sc : Scope) : S → Stmt → Bool
  | .pass, x => match x with
    | .Pass _ => true
    | .Expr (.Constant (.str _) _ _) _ => true
    | _ => false
  | .brk, x => match x with
    | .Break _ => true
    | _ => false
  | .cont, x => match x with
    | .Continue _ => true
    | _ => false
  | .ret e, x => match x with
    | .Return (some v) _ => kE p sc e v
    | _ => false
  | .retN, x => match x with
    | .Return none _ => true
    | _ => false
  | .ex e, x => match x with
    | .Expr v _ => kE p sc e v && !isLc v
    | _ => false
  | .asg t e, x => match x with
    | .Assign [tg] v _ => kTg p sc t tg && kE p sc e v && !(isTup tg && isTup v) && (!isLc v || swB sc tg v)
    | _ => false
  | .par i j a b, x => match x with
    | .Assign [.Tuple [.Name n np, .Name m mp] _ _] (.Tuple [v, u] _ _) _ => decide (p.N[i]? = some n) && decide (p.N[j]? = some m) && decide (i ≠ j) && decide (sc.names.lookup n = some .local) && decide (sc.names.lookup m = some .local) && (np.line == mp.line) && kE p sc a v && kE p sc b u && !([v, u].all (foldedForSure 8)) && !([v, u].all (constantsAlone 8))
    | _ => false
  | .iff c a b, x => match x with
    | .If t u v _ => kE p sc c t && kSs p sc a u && kSs p sc b v
    | _ => false
  | .aug add i e, x => match x with
    | .AugAssign (.Name n _) op v _ => decide (op = if add = true then .Add else .Sub) && decide (p.N[i]? = some n) && locB sc n && kE p sc e v
    | _ => false
  | .whl c b, x => match x with
    | .While t u [] _ => kE p sc c t && kSs p sc b u
    | _ => false
  | .for t it b, x => match x with
    | .For tg iter u [] _ => kTg p sc t tg && kI p sc it iter && kSs p sc b u
    | _ => false
def kSs (p : Par) (sc : Scope) : Ss → List Stmt → Bool
  | .nil, xs => match xs with
    | [] => true
    | _ => false
  | .cons s r, xs => match xs with
    | x :: xs => kS p sc s x && kSs p sc r xs
    | _ => false
  | .frz _ r, xs => kSs p sc r xs
end
structure CtxS (T : Tab) (k : Nat) (N : List Str) (mg : Str → Option Value) (X : Cx) (Wx : WX) (sc : Scope) : Prop where
  c : Ctx T k N mg X Wx sc
  fn : ∀ x, X.fn x = true
  po : PassesOwn (model X.prog X.w) X.A X.env X.xe
  kd : sc.kind = .function
section
variable {T : Tab} {k : Nat} {p : Par} {Γ : Env2} {X : Cx} {mg : Str → Option Value} {Wx : WX} {sc : Scope}
theorem loc_of (C : CtxS T k p.N mg X Wx sc) {x : Str} (h : locB sc x = true) : Loc X.env.scope x := by
  rw [C.c.eS]
  unfold locB at h
  split at h
  · exact .inl (by assumption)
  · exact .inr (by assumption)
  · cases h
theorem name_of (C : CtxS T k p.N mg X Wx sc) {i : Nat} {n : Str} {pos : Pos} (h1 : p.N[i]? = some n) (h2 : locB sc n = true) : PG X (.Name n pos) (gName i) :=
  pg_name (by rw [C.c.eN]; exact C.c.nd) (by rw [C.c.eN]; exact h1) (loc_of C h2) (.inl (C.fn n))
theorem wTs_no : ∀ is ws σ M Q E, wTs is ws σ M Q E → wTs is ws σ M Q fun _ _ => False
  | [] => wgNil_no
  | i :: r => wgCons_no (wTs_no r)
theorem names_of (C : CtxS T k p.N mg X Wx sc) : ∀ {is : List Nat} {xs : List Expr}, namesB p sc is xs = true → PGs X xs (lowGs T Wx (wTs is)) ∧ (assignEach xs X.env).length = is.length ∧ (assignEach xs X.env).findIdx? (·.1) = none
  | [], [], _ => ⟨gs_nil, rfl, rfl⟩
  | i :: is, x :: xs, h => by
    have h : (nameB p sc i x && namesB p sc is xs) = true := h
    rw [Bool.and_eq_true] at h
    obtain ⟨q1, q2, q3⟩ := names_of C h.2
    cases x with
    | Name n pos =>
      have h1 : (decide (p.N[i]? = some n) && locB sc n) = true := h.1
      rw [Bool.and_eq_true, decide_eq_true_eq] at h1
      refine ⟨gs_cons (name_of C h1.1 h1.2) q1 rfl (wTs_no is), ?_, ?_⟩
      · show (assignEach xs X.env).length + 1 = is.length + 1
        rw [q2]
      · show ((false, assign (.Name n pos) X.env) :: assignEach xs X.env).findIdx? (·.1) = none
        rw [List.findIdx?_cons, q3]
        rfl
    | _ => exact nomatch h.1
  | [], _ :: _, h => nomatch h
  | _ :: _, [], h => nomatch h
theorem tg_of (C : CtxS T k p.N mg X Wx sc) (O : GOk X T k p Γ) {t : Tg} {x : Expr} (h : kTg p sc t x = true) : PG X x (lowG T Wx (wTg Γ t)) ∧ (assignEach [x] X.env).map (·.2) = [assign x X.env] := by
  cases t with
  | name i =>
    cases x with
    | Name n pos =>
      have h : (decide (p.N[i]? = some n) && locB sc n) = true := h
      rw [Bool.and_eq_true, decide_eq_true_eq] at h
      exact ⟨g_name (name_of C h.1 h.2), rfl⟩
    | _ => exact nomatch h
  | tup is =>
    cases x with
    | Tuple xs j pos =>
      obtain ⟨h1, h2, h3⟩ := names_of C (show namesB p sc is xs = true from h)
      exact ⟨g_tup C.c h1 h2 h3, rfl⟩
    | _ => exact nomatch h
  | lst is =>
    cases x with
    | Tuple xs j pos =>
      obtain ⟨h1, h2, h3⟩ := names_of C (show namesB p sc is xs = true from h)
      exact ⟨g_lst C.c h1 h2 h3, rfl⟩
    | _ => exact nomatch h
  | sub o i =>
    cases x with
    | Subscript a b pos =>
      have h : (kE p sc o a && kE p sc i b) = true := h
      rw [Bool.and_eq_true] at h
      refine ⟨g_sub (sE o C.c O a h.1) (sE i C.c O b h.2) fun v => ?_, rfl⟩
      cases b with
      | Slice lo hi st pos => rw [kE_slice] at h; exact nomatch h.2
      | _ => rfl
    | _ => exact nomatch h
theorem sw_false {v : Expr} {t : Option Expr} {l : Nat} {env : Env} {e : E} (h : kE p sc e v = true) (hl : isLc v = false) : swapsWith v t l env = pure false := by
  cases v with
  | ListComp _ _ _ _ => exact nomatch hl
  | DictComp _ _ _ _ _ => rw [kE_dc] at h; exact nomatch h
  | SetComp _ _ _ _ => rw [kE_sc] at h; exact nomatch h
  | _ => rfl
theorem sws_none {tg v : Expr} {env : Env} (h : (isTup tg && isTup v) = false) : swappedStores [tg] v env = pure none := by
  cases tg with
  | Tuple ts j pos =>
    cases v with
    | Tuple _ _ _ => exact nomatch h
    | List _ _ => exact nomatch h
    | _ => rfl
  | List ts pos =>
    cases v with
    | Tuple _ _ _ => exact nomatch h
    | List _ _ => exact nomatch h
    | _ => rfl
  | _ => rfl
theorem s_frz {xs : List Stmt} {i : Nat} {t : TS2} (h : PSs X xs (lowS T Wx t)) : PSs X xs (lowS T Wx (wFrz i t)) := h.imp fun D σ H q => by
  obtain ⟨G, σ2, M, D2, sr, rs, ⟨a, us, ds, h1, h2, h3, q⟩, pd⟩ := q
  cases unD_eq h3
  obtain ⟨v, hv, rv⟩ := rs.get h1
  obtain ⟨vs, ho, rr⟩ := sr.lst h2
  have g0 := (sr.ce _ _ h2).1
  have mo := Mo.of (same_new (o := HO.lst vs) g0)
  cases (show v = .ref a from rv)
  refine ⟨upd G a (.lst vs), σ2.set i (some (.d (.lst ds))), del M a, D2, sr.freeze h2 ho, ?_, q, pd.mono mo⟩
  have z := RS.set (w := .d (.lst ds)) (v := .ref a) (show RW T (upd G a (.lst vs)) (.d (.lst ds)) (.ref a) from ⟨a, vs, rfl, upd_same, (RpL.of rr).mono mo⟩) i (rs.mono mo)
  have e : σ.set i (some (.ref a)) = σ := by
    apply List.ext_getElem?
    intro j
    by_cases hj : i = j
    · subst hj
      rw [List.getElem?_set_self (List.getElem?_eq_some_iff.mp hv).1, hv]
    · rw [List.getElem?_set_ne hj]
  rw [e] at z
  exact z
theorem s_par {i j : Nat} {n m : Str} {a b : Expr} {ta : TA2} {np mp tp pos : Pos} {kt k2 : Nat} {pt2 : Pos} (C : CtxS T k p.N mg X Wx sc) (hi : p.N[i]? = some n) (hj : p.N[j]? = some m) (hij : i ≠ j) (hn : sc.names.lookup n = some .local) (hm : sc.names.lookup m = some .local)
    (ha : PA X [a, b] (lowA T Wx ta)) (h1 : PS X (.Assign [.Tuple [.Name n np, .Name m mp] kt tp] (.Tuple [a, b] k2 pt2) pos) (tPar i j (lowA T Wx ta))) : PS X (.Assign [.Tuple [.Name n np, .Name m mp] kt tp] (.Tuple [a, b] k2 pt2) pos) (lowS T Wx (wPar i j ta)) := h1.imp fun D σ H q => by
  obtain ⟨G, σ2, M, D2, sr, rs, q, pd⟩ := q
  refine ⟨G, σ2, M, _, _, sr, rs, q, fun ws M1 G1 H1 vs m1 sr1 rw1 q3 => ?_, pd.px rs⟩
  obtain ⟨v, w, rfl, q3⟩ := q3
  obtain ⟨v1, w1, rfl, r1, r2⟩ := rw1.two
  exact ⟨v1, w1, rfl, pd.nx _ M1 G1 H1 _ m1 sr1 (RS.set r2 j (RS.set r1 i (rs.mono m1))) q3⟩
end
end Z
set_option maxHeartbeats 8000000
/-! Z13: every checked statement runs as its meaning says; a def keeps its promise -/
namespace Z
open PySem PySem.Spec PyProof.Rows L2
section
variable {T : Tab} {k : Nat} {p : Par} {Γ : Env2} {X : Cx} {mg : Str → Option Value} {Wx : WX} {sc : Scope}
theorem sws_par {n m : Str} {a b : Expr} {np mp tp pt2 : Pos} {kt k2 : Nat} {env : Env} (hk : env.scope.kind = .function) (h1 : env.scope.names.lookup n = some .local) (h2 : env.scope.names.lookup m = some .local) (hl : (np.line == mp.line) = true) (hnm : n ≠ m)
    (hs : starEach [a, b] env = [(false, eval a env), (false, eval b env)]) (h3 : ([a, b].all (foldedForSure 8)) = false) (h4 : ([a, b].all (constantsAlone 8)) = false) : swappedStores [.Tuple [.Name n np, .Name m mp] kt tp] (.Tuple [a, b] k2 pt2) env = pure (some [n, m]) := by
  have hb : env.blockKind = .function := by unfold Env.blockKind; rw [hk]; rfl
  have ka : env.kindOf n = some .local := h1
  have kb : env.kindOf m = some .local := h2
  have hst : ([a, b].any fun | .Starred .. => true | _ => false) = false := by
    cases a <;> cases b <;> first | rfl | (simp [starEach] at hs)
  have hl' : mp.line = np.line := (beq_iff_eq.mp hl).symm
  have hnm' : (m == n) = false := by simpa using hnm.symm
  unfold swappedStores
  simp [hb, ka, kb, hst, h3, h4, Expr.pos, hl', List.eraseDups_cons, hnm']
  intro h
  rcases h with h | h
  · cases a with
    | Starred _ _ => simp [starEach] at hs
    | _ => exact nomatch h
  · cases b with
    | Starred _ _ => cases a <;> simp [starEach] at hs
    | _ => exact nomatch h
theorem s_doc {z : Str} {j : Nat} {pos pos' : Pos} : PS X (.Expr (.Constant (.str z) j pos) pos') (lowS T Wx wNext) := ps_doc.imp fun D σ H h => by
  obtain ⟨G, σ2, M, D2, sr, rs, q, pd⟩ := h
  exact pd.nx _ M G H _ (Mo.refl _) sr rs q
/-- y = [..], the store within -/
theorem sLc (t : Tg) (e : E) (C : CtxS T k p.N mg X Wx sc) (O : GOk X T k p Γ) (tg v : Expr) (pos : Pos) (h1 : kTg p sc t tg = true) (h2 : kE p sc e v = true) (h4 : swB sc tg v = true) : PS X (.Assign [tg] v pos) (lowS T Wx (wAsg (wE Γ e) (wTg Γ t))) := by
  cases tg with
  | Name n np =>
    cases v with
    | ListComp el gens scope lp =>
      have h4 : ((match sc.names.lookup n with | some .local => true | _ => false) && (np.line == lp.line) && !(scope.names.any fun (m, k) => m == n && (k == .local || k == .cell))) = true := h4
      simp only [Bool.and_eq_true, Bool.not_eq_true'] at h4
      obtain ⟨⟨s1, s2⟩, s3⟩ := h4
      have s1 : sc.names.lookup n = some .local := by
        split at s1
        · assumption
        · exact nomatch s1
      cases t with
      | name i =>
        have h1 : (decide (p.N[i]? = some n) && locB sc n) = true := h1
        rw [Bool.and_eq_true, decide_eq_true_eq] at h1
        cases e with
        | lc m it j c elt =>
          match gens, h2 with
          | [], h => simp [kE] at h
          | _ :: _ :: _, h => simp [kE] at h
          | [⟨tg, iter, ifs, as⟩], h =>
            cases tg with
            | Name y yp =>
              have ha : as = 0 := by
                refine Classical.byContradiction fun q => ?_
                simp [kE, q] at h
              subst ha
              have h : (decide (p.N[j]? = some y) && locB scope y && blkC p.N sc scope [(y, j)] && kI p sc it iter && kF p (relS scope sc) c ifs && kE p (relS scope sc) elt el) = true := h
              simp only [Bool.and_eq_true, decide_eq_true_eq] at h
              obtain ⟨⟨⟨⟨⟨q1, q2⟩, q3⟩, q4⟩, q5⟩, q6⟩ := h
              have bk : BlkOk X.N X.env.scope scope [(y, j)] := by rw [C.c.eN, C.c.eS]; exact blkOk_by q3
              have hg : ∀ (s : Shared) (H : Hp) (D : Addr) (cl : List (Str × Addr)) (fp : List Addr), PG (X.blk s H scope (compEnvC scope cl D X.env) fp) (.Name y yp) (gName j) := fun s H D cl fp => by
                unfold locB at q2
                split at q2
                · rename_i q
                  have q' : (relS scope X.env.scope).names.lookup y = some .local := lookup_relS_keep (by decide) q
                  exact pg_name (by rw [C.c.eN]; exact C.c.nd) (by rw [C.c.eN]; exact q1) (.inl q') (.inr q')
                · rename_i q
                  have q' : (relS scope X.env.scope).names.lookup y = some .cell := lookup_relS_keep (by decide) q
                  exact pg_name (by rw [C.c.eN]; exact C.c.nd) (by rw [C.c.eN]; exact q1) (.inr q') (.inl (by show (scope.names.lookup y == some .cell) = true; rw [q]; rfl))
                · cases q2
              obtain ⟨i1, i2⟩ := sI it C.c O (.Name y yp) iter q4
              have main := ps_setLc (spos := pos) (py := np) (pos := lp) (y := n) (i := i) C.c.calm (by rw [C.c.eN]; exact C.c.nd) (by rw [C.c.eN]; exact h1.1) (by rw [C.c.eS]; exact s1) (sw_true (by rw [C.c.eS]; exact C.kd) (by rw [C.c.eS]; exact s1) s2 s3) i1 bk hg (fun s H D cl fp => sF c (C.c.blk (cl := cl) (fp := fp)) (GOk_blk O) ifs q5) (fun s H D cl fp => sE elt (C.c.blk (cl := cl) (fp := fp)) (GOk_blk O) el q6) i2
              refine main.imp fun D σ H q => ?_
              obtain ⟨G, σ2, M, D2, sr, rs, q, pd⟩ := q
              refine low_lc (m := m) (Wx := Wx) gl_name ?_
              exact ⟨G, σ2, M, _, _, sr, rs, q, fun w M1 G1 H1 v m1 sr1 rw1 q3 => pd.nx _ M1 G1 H1 _ m1 sr1 (RS.set rw1 i (rs.mono m1)) q3, pd.px rs⟩
            | _ => exact nomatch h
        | _ => exact nomatch h2
      | _ => exact nomatch h1
    | _ => exact nomatch h4
  | _ => exact nomatch h4
mutual
theorem sS (s : S) (C : CtxS T k p.N mg X Wx sc) (O : GOk X T k p Γ) (x : Stmt) (h : kS p sc s x = true) : PS X x (lowS T Wx (wS Γ s)) := match s, h with
  | .pass, h => by
    cases x with
    | Pass pos => exact s_pass
    | Expr v pos =>
      cases v with
      | Constant c j pos' =>
        cases c with
        | str z => exact s_doc
        | _ => exact nomatch h
      | _ => exact nomatch h
    | _ => exact nomatch h
  | .brk, h => by
    cases x with
    | Break pos => exact s_break
    | _ => exact nomatch h
  | .cont, h => by
    cases x with
    | Continue pos => exact s_cont
    | _ => exact nomatch h
  | .ret e, h => by
    cases x with
    | Return v pos =>
      cases v with
      | none => exact nomatch h
      | some v => exact s_ret (sE e C.c O v h)
    | _ => exact nomatch h
  | .retN, h => by
    cases x with
    | Return v pos =>
      cases v with
      | none => exact s_retN
      | some v => exact nomatch h
    | _ => exact nomatch h
  | .ex e, h => by
    cases x with
    | Expr v pos =>
      have h : (kE p sc e v && !isLc v) = true := h
      rw [Bool.and_eq_true, Bool.not_eq_true'] at h
      exact s_expr (sE e C.c O v h.1) (sw_false h.1 h.2)
    | _ => exact nomatch h
  | .asg t e, h => by
    cases x with
    | Assign tgs v pos =>
      match tgs, h with
      | [tg], h =>
        have h : (kTg p sc t tg && kE p sc e v && !(isTup tg && isTup v) && (!isLc v || swB sc tg v)) = true := h
        simp only [Bool.and_eq_true, Bool.not_eq_true', Bool.or_eq_true] at h
        obtain ⟨⟨⟨h1, h2⟩, h3⟩, h4⟩ := h
        obtain ⟨g1, g2⟩ := tg_of C O h1
        by_cases hlc : isLc v = false
        · exact s_asg (sE e C.c O v h2) g1 (sw_false h2 hlc) (sws_none (by simpa [Bool.and_eq_false_iff] using h3)) g2
        · have h4 : swB sc tg v = true := by
            rcases h4 with h4 | h4
            · exact absurd h4 hlc
            · exact h4
          exact sLc t e C O tg v pos h1 h2 h4
      | [], h => exact nomatch h
      | _ :: _ :: _, h => exact nomatch h
    | _ => exact nomatch h
  | .par i j a b, h => by
    cases x with
    | Assign tgs v pos =>
      match tgs, v, h with
      | [.Tuple [.Name n np, .Name m mp] kt tp], .Tuple [v, u] k2 pt2, h =>
        have h : (decide (p.N[i]? = some n) && decide (p.N[j]? = some m) && decide (i ≠ j) && decide (sc.names.lookup n = some .local) && decide (sc.names.lookup m = some .local) && (np.line == mp.line) && kE p sc a v && kE p sc b u && !([v, u].all (foldedForSure 8)) && !([v, u].all (constantsAlone 8))) = true := h
        simp only [Bool.and_eq_true, decide_eq_true_eq, Bool.not_eq_true'] at h
        obtain ⟨⟨⟨⟨⟨⟨⟨⟨⟨h1, h2⟩, h3⟩, h4⟩, h5⟩, h6⟩, h7⟩, h8⟩, h9⟩, h10⟩ := h
        have ha := a_cons (sE a C.c O v h7) (a_cons (sE b C.c O u h8) (a_nil (T := T) (Wx := Wx)) (starEach_of h8)) (starEach_of h7)
        have hnm : n ≠ m := fun e => by
          subst e
          exact h3 (nodup_ix C.c.nd h1 h2)
        refine s_par C h1 h2 h3 h4 h5 ha (ps_par C.c.calm (by rw [C.c.eN]; exact C.c.nd) (by rw [C.c.eN]; exact h1) (by rw [C.c.eN]; exact h2) h3 (by rw [C.c.eS]; exact h4) (by rw [C.c.eS]; exact h5) ha ?_)
        exact sws_par (by rw [C.c.eS]; exact C.kd) (by rw [C.c.eS]; exact h4) (by rw [C.c.eS]; exact h5) h6 hnm (by rw [starEach_of h7, starEach_of h8]; rfl) h9 h10
    | _ => exact nomatch h
  | .iff c a b, h => by
    cases x with
    | If t u v pos =>
      have h : (kE p sc c t && kSs p sc a u && kSs p sc b v) = true := h
      simp only [Bool.and_eq_true] at h
      exact s_if (sT c C.c O t h.1.1) (sSs a C O u h.1.2) (sSs b C O v h.2)
    | _ => exact nomatch h
  | .aug add i e, h => by
    cases x with
    | AugAssign tg op v pos =>
      cases tg with
      | Name n np =>
        have h : (decide (op = if add = true then .Add else .Sub) && decide (p.N[i]? = some n) && locB sc n && kE p sc e v) = true := h
        simp only [Bool.and_eq_true, decide_eq_true_eq] at h
        obtain ⟨⟨⟨h1, h2⟩, h3⟩, h4⟩ := h
        cases add with
        | true =>
          rw [if_pos rfl] at h1
          subst h1
          exact s_augI (ps_aug (by rw [C.c.eN]; exact C.c.nd) (by rw [C.c.eN]; exact h2) (loc_of C h3) (sE e C.c O v h4) ip_add (.inl (C.fn n)))
        | false =>
          rw [if_neg Bool.false_ne_true] at h1
          subst h1
          exact s_augI (ps_aug (by rw [C.c.eN]; exact C.c.nd) (by rw [C.c.eN]; exact h2) (loc_of C h3) (sE e C.c O v h4) ip_sub (.inl (C.fn n)))
      | _ => exact nomatch h
    | _ => exact nomatch h
  | .whl c b, h => by
    cases x with
    | While t u els pos =>
      cases els with
      | cons _ _ => exact nomatch h
      | nil =>
        have h : (kE p sc c t && kSs p sc b u) = true := h
        rw [Bool.and_eq_true] at h
        exact s_while C.po (sT c C.c O t h.1) (sSs b C O u h.2)
    | _ => exact nomatch h
  | .for t it b, h => by
    cases x with
    | For tg iter u els pos =>
      cases els with
      | cons _ _ => exact nomatch h
      | nil =>
        have h : (kTg p sc t tg && kI p sc it iter && kSs p sc b u) = true := h
        simp only [Bool.and_eq_true] at h
        obtain ⟨⟨h1, h2⟩, h3⟩ := h
        obtain ⟨i1, i2⟩ := sI it C.c O tg iter h2
        exact s_for C.c C.po i1 (tg_of C O h1).1 (sSs b C O u h3) i2
    | _ => exact nomatch h
termination_by structural s
theorem sSs (r : Ss) (C : CtxS T k p.N mg X Wx sc) (O : GOk X T k p Γ) (xs : List Stmt) (h : kSs p sc r xs = true) : PSs X xs (lowS T Wx (wSs Γ r)) := match r, h with
  | .nil, h => by
    cases xs with
    | nil => exact s_nil
    | cons _ _ => exact nomatch h
  | .cons s r, h => by
    cases xs with
    | nil => exact nomatch h
    | cons x xs =>
      have h : (kS p sc s x && kSs p sc r xs) = true := h
      rw [Bool.and_eq_true] at h
      exact s_cons (sS s C O x h.1) (sSs r C O xs h.2)
  | .frz i r, h => s_frz (sSs r C O xs h)
termination_by structural r
end
end
end Z
set_option maxHeartbeats 8000000
/-! Z14: a checked def keeps its promise; the law's call -/
namespace Z
open PySem PySem.Spec PyProof.Rows L2
def start2 (N : List Str) (ws : List W) : St2 := ws.map some ++ List.replicate (N.length - ws.length) none
theorem RS.nones {T : Tab} {G : Hp} : ∀ n : Nat, RS T G (List.replicate n none) (List.replicate n none)
  | 0 => .nil
  | n + 1 => .cons (show True from trivial) (RS.nones n)
theorem RS.apps {T : Tab} {G : Hp} {ws : List W} {vs : List V} {a : St2} {b : L2.St} (r : RWs T G ws vs) (t : RS T G a b) : RS T G (ws.map some ++ a) (vs.map some ++ b) := by
  induction r with
  | nil => exact t
  | cons h _ ih => exact .cons h ih
theorem start_rs {T : Tab} {G : Hp} {ws : List W} {vs : List V} {N : List Str} (r : RWs T G ws vs) : RS T G (start2 N ws) (L2.start N vs) := by
  unfold start2 L2.start
  rw [r.len]
  exact RS.apps r (RS.nones _)
abbrev endOf (Q : VK2) (E : XK2) : Ends2 := ⟨fun _ M => Q (.d .none) M, Q, fun _ _ => False, fun _ _ => False, fun x _ M => E x M⟩
section
variable {P : Program} {w : World} {mg : Str → Option Value} {base : Heap} {T : Tab} {k : Nat} {p : Par} {Γ : Env2} {body : Ss} {sp : Sp2}
theorem fn_ok {x qual : Str} {st : Stmt} {f : Addr} {fd : FuncData} {ps : List Str} (F : L2.Fun T.K x qual st f fd) (S : FnScope p.N ps (defScope st)) (hk : kSs p (defScope st) body (defBody st) = true)
    (O : GOkP P w T.K mg base T k p Γ) (len : ∀ ws M Q E, sp ws M Q E → ws.length = ps.length)
    (hb : ∀ ws M Q E, sp ws M Q E → wSs Γ body (endOf Q E) (start2 p.N ws) M) : Fn P w T mg base (k + 1) f fd ps sp := by
  obtain ⟨oc, od, kV, doc, pm, an, cdv, ct, osl, rfl, lk, hcd⟩ := F.ex
  refine ⟨len, fun A outer s H args us vs Q E room gds env0 bnd rv low => ?_⟩
  obtain ⟨G, ws, M, Q2, E2, sr, rr, hsp, pq, px⟩ := low
  have sizes : vs.length = ps.length := rr.len.symm.trans (len _ _ _ _ hsp)
  have inK : T.K.In s.heap := env0.mod.kin.keeps fun b o e => (env0.bs b o e).1
  have calmH : s.heap.NoLimit := env0.mod.nolimit.keeps fun b o e => (env0.bs b o e).1
  have kinds : ∀ y ∈ ps.zip us, (defScope st).names.lookup y.1 = some .local ∨ ((defScope st).names.lookup y.1 = some .cell ∧ ((cellsFrom (s.heap.objs.size + 1) (defScope st).names []).lookup y.1).isSome = true) := fun ⟨n, v⟩ hy =>
    (S.par n (List.of_mem_zip hy).1).elim .inl fun q => .inr ⟨q, PySem.W.cellsFrom_some _ _ _ (.inl q)⟩
  have code := PySem.W.codeRec_of inK hcd
  refine codeAny_call_function room.depth (inK _ _ lk) rfl S.co S.gen rfl code (bnd _ _ _ _ ?_)
  refine wpAny_newFunctionEnv_cells S.kind kinds fun env he t1 ic => ?_
  cases he
  refine ⟨calmH.keeps ic.toInCall.keep, codeAny_func ?_⟩
  let X : Cx := cxOf (L2.CX P w) P w T.K mg base p.N qual (defScope st) f cdv A outer s H E
  have tk : Takes X (fun cls d _ H => E cls d H) := L2.takes_of (X := X) (E := E) rfl rfl rfl rfl
  have po : PassesOwn (model P w) X.A X.env X.xe := PassesOwn.leaving
  have C : CtxS T k p.N mg X (fun cls d _ H => E cls d H) (defScope st) :=
    ⟨⟨rfl, rfl, room.deeper _, gds, rfl, tk, rfl, S.nd, rfl⟩, fun _ => rfl, po, S.kind⟩
  have I : Inv X [] (L2.start p.N vs) H t1 := inv_start S room.hd env0 sizes rv ic
  have run := sSs (X := X) body C (show GOk X T k p Γ from O) (defBody st) hk
  have goal : lowS T (fun cls d _ H => E cls d H) (wSs Γ body) { nx := fun _ H' => Q .non H', rt := Q } (L2.start p.N vs) H := by
    refine ⟨G, _, M, _, sr, start_rs rr, hb _ _ _ _ hsp, fun σ2 M1 G1 H1 σ1 m1 sr1 _ q => pq _ M1 G1 H1 _ m1 sr1 (show RW T G1 (.d .none) .non from rfl) q, pq, fun _ _ _ _ _ _ _ _ q => q.elim, fun _ _ _ _ _ _ _ _ q => q.elim, fun x σ2 M1 G1 H1 σ1 cls d m1 sr1 _ rx q => px x M1 G1 H1 cls d m1 sr1 rx q⟩
  refine wpAny_mono (run.run [] t1 (L2.start p.N vs) H _ I goal) (fun fl t2 hs => ?_) fun e t2 hs => hs
  cases fl with
  | ret u =>
    obtain ⟨v, _, H1, J, r1, q⟩ := hs
    exact ⟨v, H1, J.os, J.bare, J.base, J.hok, r1, q⟩
  | next =>
    obtain ⟨_, H1, J, q⟩ := hs
    exact ⟨V.non, H1, J.os, J.bare, J.base, J.hok, (show RelV V.non Value.none from rfl), q⟩
  | brk =>
    obtain ⟨_, _, _, q⟩ := hs
    exact q.elim
  | cont =>
    obtain ⟨_, _, _, q⟩ := hs
    exact q.elim
end
end Z
set_option maxHeartbeats 8000000
/-! Z15: the law's own call -/
namespace Z
open PySem PySem.Spec PyProof.Rows L2
theorem ints_rp {T : Tab} {G : Hp} : ∀ ns : List Int, RpL T G (ns.map D.int) (ns.map V.int)
  | [] => rfl
  | n :: r => ⟨.int n, r.map V.int, rfl, rfl, ints_rp r⟩
section
variable {P : Program} {w : World} {T : Tab} {mg mb : Str → Option Value} {k : Nat} {fa a : Addr} {fd : FuncData} {x : Str} {sp : Sp2} {s : Shared} {vs : List Value} {ns : List Int}
/-- what is tracked at the law's call: the script at most -/
def seen (T : Tab) (a : Addr) (o : Obj) (xs : List V) : Hp := fun b => if b = a ∧ T.K.lookup a = none then some (.frz o (.lst xs)) else none
theorem seen_or (T : Tab) (a : Addr) (o : Obj) (xs : List V) (b : Addr) : seen T a o xs b = none ∨ (b = a ∧ T.K.lookup a = none ∧ seen T a o xs b = some (.frz o (.lst xs))) := by
  unfold seen
  by_cases h : b = a ∧ T.K.lookup a = none
  · exact .inr ⟨h.1, h.2, if_pos h⟩
  · exact .inl (if_neg h)
theorem zcall (KX : T.K.In s.heap) (hns : s.heap.Ns mainGlobals mg) (hb : s.heap.Ns builtinsNs mb) (hbb : ∀ y : Str, y ≠ "__name__" → mb y = bootBuiltins y) (hlim : s.heap.NoLimit) (hg : s.gens = #[])
    (ha : s.heap.get? a = some { cls := .type "list", data := .seq vs.toArray }) (hi : IntsAre vs ns) (hl : ns.length ≤ sizeLine) (room : Room k callerA)
    (F : ∀ base : Heap, T.K.In base → base.Ns mainGlobals mg → Fn P w T mg base k fa fd [x] sp) (hbind : ∀ (t : Shared) (u : Value), BindsTo t fd ⟨[u], []⟩ [(x, u)])
    (hsp : sp [.r (ns.map D.int)] (fun _ => none) (fun y _ => y = .d (.bool true)) fun _ _ => False) :
    codeAny (model P w) callerA (.call (.ref fa) ⟨[.ref a], []⟩) (fun r t => r = .ok (.ret (.bool true)) ∧ OldK s.heap t.heap ∧ t.os = s.os ∧ AllBare t.gens) s := by
  have rv := vals_ints hi
  let o : Obj := { cls := .type "list", data := .seq vs.toArray }
  let H : Hp := seen T a o (ns.map V.int)
  have two : ∀ b, H b = none ∨ (b = a ∧ T.K.lookup a = none ∧ H b = some (.frz o (.lst (ns.map V.int)))) := seen_or T a o _
  have hok : HOk P w H s.heap := fun b u e => by
    rcases two b with z | ⟨rfl, _, z⟩
    · rw [z] at e; cases e
    · rw [z] at e; cases e
      exact ⟨ha, by rw [List.length_map]; exact hl, vs, _, rv, ha⟩
  have dictNo : ∀ {b : Addr} {q : Obj} {es : Array DictEntry} {ep : Nat}, s.heap.get? b = some q → q.data = .dict es ep → H b = none := fun {b q es ep} e d => by
    rcases two b with z | ⟨rfl, _, _⟩
    · exact z
    · rw [ha] at e; cases e
      exact nomatch (show Data.seq vs.toArray _ = Data.dict es ep from d)
  have nsH : ∀ {b : Addr} {m : Str → Option Value}, s.heap.Ns b m → (hidT s.heap H).Ns b m := fun {b m} ⟨q, es, ep, e, d, r⟩ => ⟨q, es, ep, hidT_get e (dictNo e d), d, r⟩
  have inH : T.K.In (hidT s.heap H) := fun b q e => hidT_get (KX b q e) (by
    rcases two b with z | ⟨rfl, z, _⟩
    · exact z
    · rw [z] at e; cases e)
  have md : Mod T.K mg (hidT s.heap H) := by
    obtain ⟨mc, h1, h2⟩ := hlim
    exact ⟨inH, nsH hns, ⟨mb, nsH hb, hbb⟩, ⟨mc, nsH h1, h2⟩⟩
  have e0 : Env0 P w T.K mg (hidT s.heap H) callerA [] s H := ⟨rfl, md, fun b q e => of_hidT e, Nat.le_of_eq (hidT_size _ _), trivial, fun b z => absurd (show b ∈ ([] : List Addr) from z) (by simp), hok, .of_eq hg⟩
  have sq : SqL T.K H a (ns.map V.int) := by
    cases hk : T.K.lookup a with
    | none =>
      refine .inl (.inr ⟨o, ?_⟩)
      exact if_pos ⟨rfl, hk⟩
    | some q =>
      have e := KX a q hk
      rw [ha] at e
      cases e
      exact .inr ⟨_, vs.toArray, _, hk, rfl, rfl, rfl, by rw [List.size_toArray, hi.length]; exact hl, by simpa using rv⟩
  have low : lowSp T sp [.ref a] H (fun v _ => v = .bl true) fun _ _ _ => False :=
    ⟨H, [.r (ns.map D.int)], (fun _ => none), (fun y _ => y = .d (.bool true)), (fun _ _ => False), ⟨fun _ _ e => e, fun b c e => by cases (show (none : Option Cl) = some c from e)⟩, .cons (show RW T H (.r (ns.map D.int)) (.ref a) from ⟨a, _, rfl, sq, ints_rp ns⟩) .nil, hsp, fun y M1 G1 H1 v _ _ r e => by cases e; exact r, fun _ _ _ _ _ _ _ _ _ e => e⟩
  refine codeAny_mono ((F _ inH (nsH hns)).run callerA [] s H ⟨[.ref a], []⟩ [.ref a] [.ref a] _ _ room rfl e0 (hbind s (.ref a)) (.cons rfl .nil) low) fun r t h => ?_
  cases r with
  | error e =>
    obtain ⟨_, _, _, _, _, _, _, _, _, _, _, _, z⟩ := h
    exact z.elim
  | ok fl =>
    cases fl with
    | next => exact h.elim
    | brk => exact h.elim
    | cont => exact h.elim
    | ret u =>
      obtain ⟨v, H1, os, bare, un, hok1, r1, q⟩ := h
      cases (show v = .bl true from q)
      cases (show u = Value.bool true from r1)
      refine ⟨rfl, OldK.of_keep fun b q e => ?_, os, bare⟩
      rcases two b with z | ⟨rfl, _, z⟩
      · exact un.keep b q e z (by intro y; exact nomatch (show b ∈ ([] : List Addr) from y)) (by simp)
      · have z2 := un.frzs b o _ z
        obtain ⟨e2, _⟩ := hok1 b _ z2
        rw [ha] at e
        cases e
        exact e2
end
section
/-- the law's end -/
theorem zwalk {l : PySem.W.OpenLaw} {n k : Nat} {q : Program} {loose : List Str} {XP : (Str → Option Value) → Heap → Prop} {YP : World → Heap → Prop} {d : DefRec} {K : Params → PySem.W.Frag} {cls : World → Nat → Addr} {sp : World → Sp2} {x : Str}
    (hn : l.most = some n) (hn2 : n ≤ sizeLine) (hdf : d.params.defaults = []) (hr : Room k callerA)
    (hY : ∀ (w : World) (h : Heap), YP w h → (K w.params).In h)
    (F : ∀ (w : World) (mg : Str → Option Value) (fa : Addr) (h : Heap), (K w.params).In h → h.Ns mainGlobals mg → mg d.name = some (.ref fa) →
      ∃ fd : FuncData, (∀ (t : Shared) (u : Value), BindsTo t fd ⟨[u], []⟩ [(x, u)]) ∧
        ∀ base : Heap, (K w.params).In base → base.Ns mainGlobals mg → Fn l.prog w ⟨K w.params, cls w⟩ mg base k fa fd [x] (sp w))
    (hsp : ∀ (w : World) (ns : List Int), ns.length ≤ n → (∀ z ∈ ns, Builtin.Int.intBits z ≤ 1048576) → sp w [.r (ns.map D.int)] (fun _ => none) (fun y _ => y = .d (.bool true)) fun _ _ => False) :
    PySem.W.WalkO q loose XP YP l.row.toRowW d [] (fun f vs => PySem.call f vs) := by
  refine Att.attach_callB hn hdf fun w t₀ t₁ mg mb fa o pm cd doc a vs ns G Y e1 e2 e3 hmg e4 hints len bits e5 => ?_
  obtain ⟨fd, hb, hF⟩ := F w mg fa _ (hY w _ Y) G.T.g hmg
  exact zcall (T := ⟨K w.params, cls w⟩) (hY w _ Y) G.T.g G.T.b G.T.builtins G.T.nolimit e5 e4 hints (Nat.le_trans len hn2) hr hF hb (hsp w ns len bits)
end
end Z
set_option maxHeartbeats 8000000
/-! Z16: the meanings, step by step -/
namespace Z
open PySem PySem.Spec PyProof.Rows L2
section
variable {Γ : Env2} {σ : St2} {M : Mp} {Q : VK2} {Ex : XK2} {De : Ends2}
theorem wE_var {i : Nat} : wE Γ (.var i) = wVar i := rfl
theorem wE_cst {c : Cn} : wE Γ (.cst c) = wC c.d := rfl
theorem wE_bin {o : BO} {a b : E} : wE Γ (.bin o a b) = wBin o.r (wE Γ a) (wE Γ b) := rfl
theorem wE_cmp {o : CO} {a b : E} : wE Γ (.cmp o a b) = wBin o.r (wE Γ a) (wE Γ b) := rfl
theorem wE_chain {o o2 : CO} {a b c : E} : wE Γ (.chain o o2 a b c) = wChain o.r o2.r (wE Γ a) (wE Γ b) (wE Γ c) := rfl
theorem wE_and {a : E} {es : Es} : wE Γ (.and a es) = wAnds Γ (wE Γ a) es := rfl
theorem wE_or {a : E} {es : Es} : wE Γ (.or a es) = wOrs Γ (wE Γ a) es := rfl
theorem wE_not {a : E} : wE Γ (.not a) = wNotV (wE Γ a) := rfl
theorem wE_ife {c a b : E} : wE Γ (.ife c a b) = wIf (wT2 Γ c) (wE Γ a) (wE Γ b) := rfl
theorem wE_tup {es : Es} : wE Γ (.tup es) = wTup (wA Γ es) := rfl
theorem wE_lst {m : Bool} {es : Es} : wE Γ (.lst m es) = wLst m (wA Γ es) := rfl
theorem wE_ix {a b : E} : wE Γ (.ix a b) = wBin oIx (wE Γ a) (wE Γ b) := rfl
theorem wE_sl {m : Bool} {a : E} {l h : Es} : wE Γ (.sl m a l h) = wSl m (wE Γ a) (wO Γ l) (wO Γ h) := rfl
theorem wE_neg {a : E} : wE Γ (.neg a) = fun σ M Q E => wE Γ a σ M (fun x M1 => ∃ i, x = .d (.int i) ∧ Q (.d (.int (-i))) M1) E := rfl
theorem wE_blt {b : BI} {es : Es} : wE Γ (.blt b es) = wCB b.r (wA Γ es) := rfl
theorem wE_bm {b : BM} {o : E} {es : Es} : wE Γ (.bm b o es) = wBM b.ok b.r (wE Γ o) (wA Γ es) := rfl
theorem wE_lc {m : Bool} {it : It2} {v : Nat} {c : Es} {e : E} : wE Γ (.lc m it v c e) = wLc m (wI Γ it) (wgName v) (wC1 Γ c) (wE Γ e) [v] := rfl
theorem wT_cmp {o : CO} {a b : E} : wT2 Γ (.cmp o a b) = wT (wBin o.r (wE Γ a) (wE Γ b)) := rfl
theorem wT_chain {o o2 : CO} {a b c : E} : wT2 Γ (.chain o o2 a b c) = wT (wChain o.r o2.r (wE Γ a) (wE Γ b) (wE Γ c)) := rfl
theorem wT_and {a : E} {es : Es} : wT2 Γ (.and a es) = wAndsT Γ (wT2 Γ a) es := rfl
theorem wT_or {a : E} {es : Es} : wT2 Γ (.or a es) = wOrsT Γ (wT2 Γ a) es := rfl
theorem wT_not {a : E} : wT2 Γ (.not a) = wNotT (wT2 Γ a) := rfl
theorem wT_var {i : Nat} : wT2 Γ (.var i) = wTru (wVar i) := rfl
theorem wT_ix {a b : E} : wT2 Γ (.ix a b) = wTru (wBin oIx (wE Γ a) (wE Γ b)) := rfl
theorem wT_blt {b : BI} {es : Es} : wT2 Γ (.blt b es) = wTru (wCB b.r (wA Γ es)) := rfl
theorem wT_call {i : Nat} {es : Es} : wT2 Γ (.call i es) = wTru (wE Γ (.call i es)) := rfl
theorem wA_nil : wA Γ .nil = wNil := rfl
theorem wA_cons {e : E} {es : Es} : wA Γ (.cons e es) = wCons (wE Γ e) (wA Γ es) := rfl
theorem wAnds_nil {t : TE2} : wAnds Γ t .nil = t := rfl
theorem wAnds_cons {t : TE2} {e : E} {es : Es} : wAnds Γ t (.cons e es) = wAndV t (wAnds Γ (wE Γ e) es) := rfl
theorem wOrs_nil {t : TE2} : wOrs Γ t .nil = t := rfl
theorem wOrs_cons {t : TE2} {e : E} {es : Es} : wOrs Γ t (.cons e es) = wOrV t (wOrs Γ (wE Γ e) es) := rfl
theorem wAndsT_nil {t : TT2} : wAndsT Γ t .nil = t := rfl
theorem wAndsT_cons {t : TT2} {e : E} {es : Es} : wAndsT Γ t (.cons e es) = wAndT t (wAndsT Γ (wT2 Γ e) es) := rfl
theorem wOrsT_nil {t : TT2} : wOrsT Γ t .nil = t := rfl
theorem wOrsT_cons {t : TT2} {e : E} {es : Es} : wOrsT Γ t (.cons e es) = wOrT t (wOrsT Γ (wT2 Γ e) es) := rfl
theorem wO_nil : wO Γ .nil = wNoP := rfl
theorem wO_cons {e : E} {es : Es} : wO Γ (.cons e es) = wPart (wE Γ e) := rfl
theorem wC1_nil : wC1 Γ .nil = wYes := rfl
theorem wC1_cons {e : E} {es : Es} : wC1 Γ (.cons e es) = wT2 Γ e := rfl
theorem wI_seq {e : E} : wI Γ (.seq e) = wiSeq (wE Γ e) := rfl
theorem wI_sgn {e : E} : wI Γ (.sgn e) = wiStr (wE Γ e) := rfl
theorem wI_rng1 {e : E} : wI Γ (.rng1 e) = wiRng1 (wCons (wE Γ e) wNil) := rfl
theorem wI_rng2 {a b : E} : wI Γ (.rng2 a b) = wiRng2 (wCons (wE Γ a) (wCons (wE Γ b) wNil)) := rfl
theorem r_BO_add {m : Bool} : (BO.add m).r = oAdd m := rfl
theorem r_BO_sub : BO.sub.r = oSub := rfl
theorem r_BO_mul : BO.mul.r = oInt (fun i j => i * j) oMul0 := rfl
theorem r_BO_fdiv : BO.fdiv.r = oFdiv := rfl
theorem r_BO_mod : BO.mod.r = oMod := rfl
theorem r_BO_pow : BO.pow.r = oPow := rfl
theorem r_CO_lt : CO.lt.r = oLt := rfl
theorem r_CO_le : CO.le.r = oLe := rfl
theorem r_CO_gt : CO.gt.r = oGt := rfl
theorem r_CO_ge : CO.ge.r = oGe := rfl
theorem r_CO_eq : CO.eq.r = oEq false := rfl
theorem r_CO_ne : CO.ne.r = oEq true := rfl
theorem r_CO_in_ : CO.in_.r = oIn false := rfl
theorem r_CO_nin : CO.nin.r = oIn true := rfl
theorem r_CO_is_ : CO.is_.r = oIsN false := rfl
theorem r_CO_isn : CO.isn.r = oIsN true := rfl
theorem r_BI_len : BI.len.r = rLen := rfl
theorem r_BI_list {m : Bool} : (BI.list m).r = rList m := rfl
theorem r_BI_tuple : BI.tuple.r = rTuple := rfl
theorem r_BI_int : BI.int.r = rInt := rfl
theorem r_BI_str : BI.str.r = rStr := rfl
theorem r_BI_repr : BI.repr.r = rRepr := rfl
theorem r_BM_append : BM.append.r = mAppend := rfl
theorem r_BM_popAt : BM.popAt.r = mPopAt := rfl
theorem r_BM_extend : BM.extend.r = mExtend := rfl
theorem r_BM_join : BM.join.r = mJoin := rfl
theorem ok_append : BM.append.ok = okL := rfl
theorem ok_popAt : BM.popAt.ok = okL := rfl
theorem ok_extend : BM.extend.ok = okL := rfl
theorem ok_join : BM.join.ok = okS := rfl
theorem cn_non : Cn.d .non = .none := rfl
theorem cn_bool_b {b : Bool} : Cn.d (.bool b) = .bool b := rfl
theorem cn_int_i {i : Int} : Cn.d (.int i) = .int i := rfl
theorem cn_str_s {s : Str} : Cn.d (.str s) = .str s := rfl
theorem wS_pass  : wS Γ .pass = wNext := rfl
theorem wS_brk  : wS Γ .brk = wBreak := rfl
theorem wS_cont  : wS Γ .cont = wCont := rfl
theorem wS_ret {e : E} : wS Γ (.ret e) = wRet (wE Γ e) := rfl
theorem wS_retN  : wS Γ .retN = wRetN := rfl
theorem wS_ex {e : E} : wS Γ (.ex e) = wExpr (wE Γ e) := rfl
theorem wS_asg {t : Tg} {e : E} : wS Γ (.asg t e) = wAsg (wE Γ e) (wTg Γ t) := rfl
theorem wS_par {i j : Nat} {a b : E} : wS Γ (.par i j a b) = wPar i j (wCons (wE Γ a) (wCons (wE Γ b) wNil)) := rfl
theorem wS_iff {c : E} {a b : Ss} : wS Γ (.iff c a b) = wIfS (wT2 Γ c) (wSs Γ a) (wSs Γ b) := rfl
theorem wS_aug {p : Bool} {i : Nat} {e : E} : wS Γ (.aug p i e) = wAugI (augF p) i (wE Γ e) := rfl
theorem wS_whl {c : E} {b : Ss} : wS Γ (.whl c b) = wWhile (wT2 Γ c) (wSs Γ b) := rfl
theorem wS_for {t : Tg} {it : It2} {b : Ss} : wS Γ (.for t it b) = wFor (wI Γ it) (wTg Γ t) (wSs Γ b) := rfl
theorem wSs_nil : wSs Γ .nil = wNext := rfl
theorem wTg_name {i : Nat} : wTg Γ (.name i) = wgName i := rfl
theorem wTg_tup {is : List Nat} : wTg Γ (.tup is) = wgTup is.length (wTs is) := rfl
theorem wTg_lst {is : List Nat} : wTg Γ (.lst is) = wgLst is.length (wTs is) := rfl
theorem wTg_sub {o i : E} : wTg Γ (.sub o i) = wgSub (wE Γ o) (wE Γ i) := rfl
theorem wTs_nil : wTs [] = wgNil := rfl
theorem wTs_cons {i : Nat} {r : List Nat} : wTs (i :: r) = wgCons i (wTs r) := rfl
theorem wSs_cons {s : S} {r : Ss} : wSs Γ (.cons s r) De σ M = wS Γ s { De with nx := wSs Γ r De } σ M := rfl
theorem wSs_frz {i : Nat} {r : Ss} : wSs Γ (.frz i r) = wFrz i (wSs Γ r) := rfl
def cF : Option Cal → TA2 → TE2
  | some c, t => wCall c.sp c.dws t
  | none, _ => wFalse
def gF : Option (Str × D) → TE2
  | some (_, d) => wC d
  | none => wFalse
theorem wE_call {i : Nat} {es : Es} : wE Γ (.call i es) = cF Γ.f[i]? (wA Γ es) := by
  show (match Γ.f[i]? with | some c => wCall c.sp c.dws (wA Γ es) | none => wFalse) = _
  cases Γ.f[i]? <;> rfl
theorem wE_glob {i : Nat} : wE Γ (.glob i) = gF Γ.g[i]? := by
  show (match Γ.g[i]? with | some (_, d) => wC d | none => wFalse) = _
  cases Γ.g[i]? with
  | none => rfl
  | some c => cases c; rfl
theorem cF_some {c : Cal} {t : TA2} : cF (some c) t = wCall c.sp c.dws t := rfl
theorem gF_some {x : Str} {d : D} : gF (some (x, d)) = wC d := rfl
theorem wVar_0 {w : W} : wVar 0 (some w :: σ) M Q Ex = Q w M := by
  unfold wVar
  simp
theorem wVar_s {i : Nat} {x : Option W} : wVar (i + 1) (x :: σ) M Q Ex = wVar i σ M Q Ex := by
  unfold wVar
  simp
theorem ite_ff_l {A B : Prop} : (if false = true then A else B) = B := if_neg Bool.false_ne_true
theorem if_true_l {A B : Prop} : (if true = true then A else B) = A := if_pos rfl

end
end Z
set_option maxHeartbeats 8000000
/-! Z17: primitive steps; the drawing of numbers -/
namespace Z
open PySem PySem.Spec PyProof.Rows L2
local macro_rules
  | `(tactic| trivial) => `(tactic| simp only [wE_var, wE_cst, wE_bin, wE_cmp, wE_chain, wE_and, wE_or, wE_not, wE_ife, wE_tup, wE_lst, wE_ix, wE_sl, wE_neg, wE_blt, wE_bm, wE_lc, wT_cmp, wT_chain, wT_and, wT_or, wT_not, wT_var, wT_ix, wT_blt, wT_call, wA_nil, wA_cons, wAnds_nil, wAnds_cons, wOrs_nil, wOrs_cons, wAndsT_nil, wAndsT_cons, wOrsT_nil, wOrsT_cons, wO_nil, wO_cons, wC1_nil, wC1_cons, wI_seq, wI_sgn, wI_rng1, wI_rng2, r_BO_add, r_BO_sub, r_BO_mul, r_BO_fdiv, r_BO_mod, r_BO_pow, r_CO_lt, r_CO_le, r_CO_gt, r_CO_ge, r_CO_eq, r_CO_ne, r_CO_in_, r_CO_nin, r_CO_is_, r_CO_isn, r_BI_len, r_BI_list, r_BI_tuple, r_BI_int, r_BI_str, r_BI_repr, r_BM_append, r_BM_popAt, r_BM_extend, r_BM_join, ok_append, ok_popAt, ok_extend, ok_join, cn_non, cn_bool_b, cn_int_i, cn_str_s, wS_pass, wS_brk, wS_cont, wS_ret, wS_retN, wS_ex, wS_asg, wS_par, wS_iff, wS_aug, wS_whl, wS_for, wSs_nil, wTg_name, wTg_tup, wTg_lst, wTg_sub, wTs_nil, wTs_cons, wSs_cons, wSs_frz, wVar_0, wVar_s, wE_call, wE_glob, cF_some, gF_some, wCall, List.getElem?_cons_zero, List.getElem?_cons_succ, exists_eq_left, ite_ff_l, wBin, wC, wT, wAndT, wOrT, wNotT, wTru, wIf, wAndV, wOrV, wNotV, wNil, wCons, wTup, wLst, wSl, wCB, wBM, wNoP, wPart, wYes, wgName, wgTup, wgLst, wgSub, wgNil, wgCons, wNext, wRet, wRetN, wExpr, wAsg, wIfS, wBreak, wCont, wPar, wAugI, wFrz, List.set_cons_zero, List.set_cons_succ, List.length_cons, List.length_nil, List.append_nil, if_true_l])
section
variable {M : Mp} {Q : VK2} {E : XK2}
theorem addI {m : Bool} {a b : Int} (q : Q (.d (.int (a + b))) M) : oAdd m (.d (.int a)) (.d (.int b)) M Q E := ⟨_, _, rfl, Nat.zero_le _, q⟩
theorem mulI {a b : Int} (h : a.natAbs.log2 + b.natAbs.log2 < 1000000) (q : Q (.d (.int (a * b))) M) : oInt (fun i j => i * j) oMul0 (.d (.int a)) (.d (.int b)) M Q E := ⟨a, b, rfl, rfl, h, q⟩
theorem modI {a b : Int} (h : 0 < b) (q : Q (.d (.int (a % b))) M) : oMod (.d (.int a)) (.d (.int b)) M Q E := ⟨a, b, rfl, rfl, h, q⟩
theorem fdivI {a b : Int} (h : 0 < b) (h2 : b.natAbs.log2 < 9000) (q : Q (.d (.int (a / b))) M) : oFdiv (.d (.int a)) (.d (.int b)) M Q E := ⟨a, b, rfl, rfl, ⟨h, h2⟩, q⟩
theorem powI {a b : Int} (h : 0 ≤ b) (h2 : b ≤ 1000000) (h3 : a.natAbs < 2 ^ 64) (q : Q (.d (.int (a ^ b.toNat))) M) : oPow (.d (.int a)) (.d (.int b)) M Q E := ⟨a, b, rfl, rfl, ⟨h, h2, h3⟩, q⟩
theorem ixC {a : Addr} {us : List W} {i : Int} {w : W} (h : M a = some (.lst us)) (h2 : atI us i = some w) (q : Q w M) : oIx (.c a) (.d (.int i)) M Q E :=
  ⟨i, rfl, .inl ⟨us, w, by show itemsC (M a) = _; rw [h]; rfl, h2, q⟩⟩
theorem ixS {x : W} {us : List W} {i : Int} {w : W} (h : seqW M x = some us) (h2 : atI us i = some w) (q : Q w M) : oIx x (.d (.int i)) M Q E := ⟨i, rfl, .inl ⟨us, w, h, h2, q⟩⟩
theorem eqI {a b : Int} (q : Q (.d (.bool (a == b))) M) : oEq false (.d (.int a)) (.d (.int b)) M Q E := .inl ⟨_, _, rfl, rfl, rfl, rfl, q⟩
theorem eqS {a b : Str} (q : Q (.d (.bool (a == b))) M) : oEq false (.d (.str a)) (.d (.str b)) M Q E := .inr ⟨_, _, rfl, rfl, q⟩
theorem neS {a b : Str} (q : Q (.d (.bool (!(a == b)))) M) : oEq true (.d (.str a)) (.d (.str b)) M Q E := .inr ⟨_, _, rfl, rfl, q⟩
theorem neI {a b : Int} (q : Q (.d (.bool (!(a == b)))) M) : oEq true (.d (.int a)) (.d (.int b)) M Q E := .inl ⟨_, _, rfl, rfl, rfl, rfl, q⟩
theorem ltI {a b : Int} (q : Q (.d (.bool (decide (a < b)))) M) : oLt (.d (.int a)) (.d (.int b)) M Q E := ⟨_, rfl, q⟩
theorem gtI {a b : Int} (q : Q (.d (.bool (decide (b < a)))) M) : oGt (.d (.int a)) (.d (.int b)) M Q E := ⟨_, rfl, q⟩
theorem setC {a : Addr} {us : List W} {i : Int} {j : Nat} {w : W} {Q : Mp → Prop} (h : M a = some (.lst us)) (h2 : ixN us.length i = some j) (q : Q (put M a (.lst (us.set j w)))) : oSet (.c a) (.d (.int i)) w M Q := ⟨a, us, i, j, rfl, rfl, h, h2, q⟩
theorem popC {a : Addr} {us : List W} {i : Int} {j : Nat} {w : W} (h : M a = some (.lst us)) (h1 : -(2 ^ 63) ≤ i) (h2 : i < 2 ^ 63) (h3 : seqIndex? i us.length = some j) (h4 : us[j]? = some w) (q : Q w (put M a (.lst (us.eraseIdx j)))) : mPopAt (.c a) [.d (.int i)] M Q :=
  ⟨a, us, i, j, w, rfl, rfl, h, h1, h2, h3, h4, q⟩
theorem appC {a : Addr} {us : List W} {w : W} (h : M a = some (.lst us)) (h1 : us.length < sizeLine) (q : Q (.d .none) (put M a (.lst (us ++ [w])))) : mAppend (.c a) [w] M Q := ⟨a, us, w, rfl, rfl, h, h1, q⟩
theorem lenS {x : W} {us : List W} (h : seqW M x = some us) (q : Q (.d (.int us.length)) M) : rLen [x] M Q := ⟨x, rfl, .inl ⟨us, h, q⟩⟩
theorem seqC {a : Addr} {us : List W} (h : M a = some (.lst us)) : seqW M (.c a) = some us := by show itemsC (M a) = _; rw [h]; rfl
theorem listC {a : Addr} {us : List W} (h : M a = some (.lst us)) : listW M (.c a) = some us := by show itemsC (M a) = _; rw [h]; rfl
end
theorem ite_b {b : Bool} {A B : Prop} (h1 : b = true → A) (h2 : b = false → B) : if b = true then A else B := by
  cases b with
  | true => exact (if_pos rfl).mpr (h1 rfl)
  | false => exact (if_neg Bool.false_ne_true).mpr (h2 rfl)
theorem ite_p {b : Bool} {A B : Prop} (h : b = true) (h1 : A) : if b = true then A else B := by rw [if_pos h]; exact h1
theorem ite_n {b : Bool} {A B : Prop} (h : b = false) (h1 : B) : if b = true then A else B := by rw [h, if_neg Bool.false_ne_true]; exact h1
/-! ### ints in a list -/
def iW (ns : List Int) : List W := ns.map fun n => W.d (.int n)
theorem toPyL_ints : ∀ ns : List Int, toPyL (ns.map D.int) = some (ns.map PyData.int)
  | [] => rfl
  | n :: r => by
    show (toPy (.int n)).bind (fun p => (toPyL (r.map D.int)).map (p :: ·)) = _
    rw [toPyL_ints r]; rfl
theorem unD_ints (ns : List Int) : unD (iW ns) = some (ns.map D.int) := by
  unfold iW
  rw [show (ns.map fun n => W.d (.int n)) = (ns.map D.int).map W.d by rw [List.map_map]; rfl]
  exact unD_map _
theorem canInts : ∀ ns : List Int, PyData.canLayAll0 (ns.map PyData.int) = true
  | [] => by simp [PyData.canLayAll0]
  | n :: r => by simp [PyData.canLayAll0, PyData.canLay0, canInts r]
theorem deepAll : ∀ ns : List Int, PyData.depthAll (ns.map PyData.int) ≤ 1
  | [] => by simp [PyData.depthAll]
  | n :: r => by
    have := deepAll r
    simp [PyData.depthAll, PyData.depth]
    omega
theorem deepInts (ns : List Int) : PyData.depth (.list (ns.map PyData.int)) ≤ 2 := by
  have := deepAll ns
  simp only [PyData.depth]
  omega
theorem shapedInts (ns : List Int) : SeqAt.shaped (.list (ns.map PyData.int)) = true := by
  unfold SeqAt.shaped
  have h := deepInts ns
  rw [show PyData.canLay0 (.list (ns.map PyData.int)) = true by simp [PyData.canLay0, canInts], Bool.true_and, decide_eq_true_eq]
  omega
theorem toPyC {M : Mp} {a : Addr} {ns : List Int} (h : M a = some (.lst (iW ns))) : toPyW M (.c a) = some (.list (ns.map PyData.int)) := by
  show (dataL M (.c a)).bind (fun xs => (toPyL xs).map PyData.list) = _ 
  unfold dataL
  rw [listC h, Option.bind_some, unD_ints, Option.bind_some, toPyL_ints]
  rfl
/-! ### the stream -/
structure Strm (st sc : Addr) (c : Nat) (M : Mp) : Prop where
  ne : st ≠ sc
  at_ : ∃ (ns : List Int) (cur : Int) (cnt : Nat) (mix : Int), M st = some (.lst [.c sc, .d (.int cur), .d (.int (cnt : Int)), .d (.int mix)]) ∧ M sc = some (.lst (iW ns)) ∧ 0 ≤ cur ∧ 0 ≤ mix ∧ mix < 2147483647 ∧ cnt + c ≤ 16777216
/-- all else stands -/
def Fr (st sc : Addr) (M M' : Mp) : Prop := ∀ b, b ≠ st → b ≠ sc → ∀ c, M b = some c → M' b = some c
theorem Fr.refl {st sc : Addr} {M : Mp} : Fr st sc M M := fun _ _ _ _ h => h
theorem Fr.trans {st sc : Addr} {M M1 M2 : Mp} (a : Fr st sc M M1) (b : Fr st sc M1 M2) : Fr st sc M M2 := fun x h1 h2 c h => b x h1 h2 c (a x h1 h2 c h)
theorem Strm.less {st sc : Addr} {c d : Nat} {M : Mp} (s : Strm st sc c M) (h : d ≤ c) : Strm st sc d M := by
  obtain ⟨ne, ns, cur, cnt, mix, h1, h2, h3, h4, h5, h6⟩ := s
  exact ⟨ne, ns, cur, cnt, mix, h1, h2, h3, h4, h5, by omega⟩
def spDraw : Sp2 := fun ws M Q _ => ∃ (st sc : Addr) (c m : Nat), ws = [.c st, .d (.int (m : Int))] ∧ 1 ≤ m ∧ m ≤ 1000000 ∧ Strm st sc (c + 1) M ∧ ∀ (r : Nat) M', r < m → Strm st sc c M' → Fr st sc M M' → Q (.d (.int (r : Int))) M'
def p_Ldraw : Par := ⟨["_law_stream", "_law_many", "_law_mixed_here", "_law_digit"], [], [], ["int"]⟩
def b_Ldraw_0 : Ss := .cons (.asg (.sub (.var 0) (.cst (.int 1))) (.cst (.int 0))) .nil
def b_Ldraw_1 : Ss := .cons (.asg (.sub (.var 0) (.cst (.int 3))) (.bin .mod (.blt .int (.cons (.bin (.add false) (.bin (.add false) (.bin .mul (.ix (.var 0) (.cst (.int 3))) (.cst (.int 31))) (.ix (.var 0) (.cst (.int 1)))) (.cst (.int 7))) .nil)) (.cst (.int 2147483647)))) b_Ldraw_0
def b_Ldraw_2 : Ss := .cons (.iff (.cmp .lt (.ix (.var 0) (.cst (.int 1))) (.bin .pow (.cst (.int 10)) (.cst (.int 18)))) b_Ldraw_1 .nil) .nil
def b_Ldraw_3 : Ss := .cons (.asg (.sub (.var 0) (.cst (.int 1))) (.bm .popAt (.ix (.var 0) (.cst (.int 0))) (.cons (.cst (.int 0)) .nil))) b_Ldraw_2
def b_Ldraw_4 : Ss := .cons (.ret (.var 3)) .nil
def b_Ldraw_5 : Ss := .cons (.asg (.sub (.var 0) (.cst (.int 1))) (.bin .fdiv (.ix (.var 0) (.cst (.int 1))) (.var 1))) b_Ldraw_4
def b_Ldraw_6 : Ss := .cons (.asg (.name 3) (.bin .mod (.blt .int (.cons (.ix (.var 0) (.cst (.int 1))) .nil)) (.var 1))) b_Ldraw_5
def b_Ldraw_7 : Ss := .cons (.ret (.bin .mod (.bin .mod (.bin .pow (.bin (.add false) (.bin (.add false) (.bin .mul (.var 2) (.cst (.int 48271))) (.bin .mul (.bin .mul (.cst (.int 40503)) (.ix (.var 0) (.cst (.int 2)))) (.ix (.var 0) (.cst (.int 2))))) (.cst (.int 13))) (.cst (.int 3))) (.cst (.int 1000000007))) (.var 1))) .nil
def b_Ldraw_8 : Ss := .cons (.asg (.name 2) (.bin .mod (.bin .pow (.bin (.add false) (.bin (.add false) (.ix (.var 0) (.cst (.int 3))) (.bin .mul (.cst (.int 104729)) (.ix (.var 0) (.cst (.int 2))))) (.cst (.int 17))) (.cst (.int 5))) (.cst (.int 2147483629)))) b_Ldraw_7
def b_Ldraw_9 : Ss := .cons (.iff (.cmp .gt (.ix (.var 0) (.cst (.int 1))) (.cst (.int 0))) b_Ldraw_6 .nil) b_Ldraw_8
def b_Ldraw_10 : Ss := .cons (.iff (.and (.cmp .eq (.ix (.var 0) (.cst (.int 1))) (.cst (.int 0))) (.cons (.cmp .ne (.ix (.var 0) (.cst (.int 0))) (.lst false .nil)) .nil)) b_Ldraw_3 .nil) b_Ldraw_9
def b_Ldraw_11 : Ss := .cons (.asg (.sub (.var 0) (.cst (.int 2))) (.bin (.add false) (.ix (.var 0) (.cst (.int 2))) (.cst (.int 1)))) b_Ldraw_10
def b_Ldraw : Ss := b_Ldraw_11


theorem lg {n k : Nat} (h : n < 2 ^ k) (hk : 0 < k) : n.log2 < k := by
  by_cases h0 : n = 0
  · subst h0; simpa using hk
  · exact (Nat.log2_lt h0).mpr h
theorem putput {M : Mp} {a : Addr} {c d : Cl} : put (put M a c) a d = put M a d := by
  funext b
  by_cases h : b = a
  · subst h; rw [put_same, put_same]
  · rw [put_ne h, put_ne h, put_ne h]
section
variable {Γ : Env2} {Q : VK2} {E : XK2} {M : Mp}
/-- behind the refill: a number off the stream, or a made one -/
theorem draw_tail {st sc : Addr} {c m cnt : Nat} {ns : List Int} {cur mix : Int} {M0 M : Mp} {a3 a4 : Option W} (hm : 1 ≤ m) (hm2 : m ≤ 1000000) (ne : st ≠ sc)
    (h1 : M st = some (.lst [.c sc, .d (.int cur), .d (.int (cnt : Int)), .d (.int mix)])) (h2 : M sc = some (.lst (iW ns))) (h3 : 0 ≤ cur) (h4 : 0 ≤ mix) (h5 : mix < 2147483647) (h6 : cnt + c ≤ 16777216)
    (fr : Fr st sc M0 M) (q : ∀ (r : Nat) M', r < m → Strm st sc c M' → Fr st sc M0 M' → Q (.d (.int (r : Int))) M') :
    wSs Γ b_Ldraw_9 (endOf Q E) [some (.c st), some (.d (.int (m : Int))), a3, a4] M := by
  have hmp : (0 : Int) < m := by omega
  have nat : ∀ x : Int, ∃ r : Nat, x % (m : Int) = (r : Int) ∧ r < m := fun x => ⟨(x % (m : Int)).toNat, by have := Int.emod_nonneg x (show (m : Int) ≠ 0 by omega); omega, by have := Int.emod_lt_of_pos x hmp; have := Int.emod_nonneg x (show (m : Int) ≠ 0 by omega); omega⟩
  unfold b_Ldraw_9
  trivial
  refine ixC h1 rfl (gtI ⟨_, rfl, ite_b (fun e => ?_) fun e => ?_⟩)
  · have e : 0 < cur := of_decide_eq_true e
    unfold b_Ldraw_6
    trivial
    refine ixC h1 rfl ⟨cur, rfl, modI hmp ?_⟩
    unfold b_Ldraw_5
    trivial
    refine ixC h1 rfl (fdivI hmp ?_ (setC h1 rfl ?_))
    · have := lg (n := (m : Int).natAbs) (k := 20) (by rw [Int.natAbs_natCast]; omega) (by decide)
      omega
    obtain ⟨r, er, hr⟩ := nat cur
    unfold b_Ldraw_4
    trivial
    rw [er]
    refine q r _ hr ⟨ne, ns, cur / m, cnt, mix, put_same, ?_, ?_, h4, h5, h6⟩ (fr.trans fun b n1 n2 c h => by rw [put_ne n1]; exact h)
    · rw [put_ne ne.symm]; exact h2
    · exact Int.ediv_nonneg h3 (by omega)
  · have hb : (mix + 104729 * (cnt : Int) + 17).natAbs < 2 ^ 64 := by omega
    have b2 := Int.emod_nonneg ((mix + 104729 * (cnt : Int) + 17) ^ (5 : Int).toNat) (show (2147483629 : Int) ≠ 0 by decide)
    have b3 := Int.emod_lt_of_pos ((mix + 104729 * (cnt : Int) + 17) ^ (5 : Int).toNat) (show (0 : Int) < 2147483629 by decide)
    unfold b_Ldraw_8
    trivial
    refine ixC h1 rfl (ixC h1 rfl (mulI ?_ (addI (addI (powI (by decide) (by decide) hb (modI (by decide) ?_))))))
    · have z1 : (104729 : Int).natAbs.log2 < 20 := by decide
      have z2 : (cnt : Int).natAbs.log2 < 30 := lg (by omega) (by decide)
      omega
    generalize (mix + 104729 * (cnt : Int) + 17) ^ (5 : Int).toNat % 2147483629 = y at b2 b3
    have hc : (cnt : Int) * (cnt : Int) ≤ 16777216 * 16777216 := by
      have : (cnt : Int) ≤ 16777216 := by omega
      exact Int.mul_le_mul this this (by omega) (by decide)
    have hc0 : (0 : Int) ≤ (cnt : Int) * (cnt : Int) := Int.mul_nonneg (by omega) (by omega)
    have e40 : (40503 * (cnt : Int)) * (cnt : Int) = 40503 * ((cnt : Int) * (cnt : Int)) := Int.mul_assoc _ _ _
    have hb2 : (y * 48271 + 40503 * (cnt : Int) * (cnt : Int) + 13).natAbs < 2 ^ 64 := by
      rw [e40]
      generalize (cnt : Int) * (cnt : Int) = z at hc hc0 ⊢
      omega
    unfold b_Ldraw_7
    trivial
    refine mulI ?_ (ixC h1 rfl (mulI ?_ (ixC h1 rfl (mulI ?_ (addI (addI (powI (by decide) (by decide) hb2 (modI (by decide) (modI hmp ?_)))))))))
    · have z1 : (48271 : Int).natAbs.log2 < 20 := by decide
      have z2 : y.natAbs.log2 < 40 := lg (by omega) (by decide)
      omega
    · have z1 : (40503 : Int).natAbs.log2 < 20 := by decide
      have z2 : (cnt : Int).natAbs.log2 < 30 := lg (by omega) (by decide)
      omega
    · have z1 : (40503 * (cnt : Int)).natAbs.log2 < 50 := lg (by omega) (by decide)
      have z2 : (cnt : Int).natAbs.log2 < 30 := lg (by omega) (by decide)
      omega
    obtain ⟨r, er, hr⟩ := nat ((y * 48271 + 40503 * (cnt : Int) * (cnt : Int) + 13) ^ (3 : Int).toNat % 1000000007)
    rw [er]
    exact q r _ hr ⟨ne, ns, cur, cnt, mix, h1, h2, h3, h4, h5, h6⟩ fr
theorem draw_ok : ∀ ws M Q E, spDraw ws M Q E → wSs Γ b_Ldraw (endOf Q E) (start2 p_Ldraw.N ws) M := by
  intro ws M Q E h
  obtain ⟨st, sc, c, m, rfl, hm, hm2, ⟨ne, ns, cur, cnt, mix, h1, h2, h3, h4, h5, h6⟩, q⟩ := h
  show wSs Γ b_Ldraw_11 (endOf Q E) [some (.c st), some (.d (.int (m : Int))), none, none] M
  unfold b_Ldraw_11
  trivial
  refine ixC h1 rfl (addI (setC h1 rfl ?_))
  have g1 : (put M st (.lst [.c sc, .d (.int cur), .d (.int ((cnt + 1 : Nat) : Int)), .d (.int mix)])) st = some (.lst [.c sc, .d (.int cur), .d (.int ((cnt + 1 : Nat) : Int)), .d (.int mix)]) := put_same
  have g2 : (put M st (.lst [.c sc, .d (.int cur), .d (.int ((cnt + 1 : Nat) : Int)), .d (.int mix)])) sc = some (.lst (iW ns)) := by rw [put_ne ne.symm]; exact h2
  have fr1 : Fr st sc M (put M st (.lst [.c sc, .d (.int cur), .d (.int ((cnt + 1 : Nat) : Int)), .d (.int mix)])) := fun b n1 n2 c h => by rw [put_ne n1]; exact h
  show wSs Γ b_Ldraw_10 (endOf Q E) [some (.c st), some (.d (.int (m : Int))), none, none] (put M st (.lst [.c sc, .d (.int cur), .d (.int ((cnt + 1 : Nat) : Int)), .d (.int mix)]))
  generalize put M st (.lst [.c sc, .d (.int cur), .d (.int ((cnt + 1 : Nat) : Int)), .d (.int mix)]) = M1 at g1 g2 fr1
  unfold b_Ldraw_10
  trivial
  refine ixC g1 rfl (eqI ⟨_, rfl, ite_b (fun e => ?_) fun e => ?_⟩)
  · -- the stream's number is used up
    have e0 : cur = 0 := by simpa using e
    subst e0
    refine ixC g1 rfl ⟨by decide, [], rfl, ?_⟩
    refine .inl ⟨_, _, toPyC g2, rfl, shapedInts ns, rfl, _, rfl, ?_⟩
    cases ns with
    | nil =>
      refine ite_n rfl ?_
      exact draw_tail hm hm2 ne g1 g2 h3 h4 h5 (by omega) fr1 q
    | cons n ns =>
      refine ite_p rfl ?_
      have g3 : (put M1 sc (.lst (iW ns))) st = some (.lst [.c sc, .d (.int 0), .d (.int ((cnt + 1 : Nat) : Int)), .d (.int mix)]) := by rw [put_ne ne]; exact g1
      unfold b_Ldraw_3
      trivial
      refine ixC g1 rfl ⟨⟨_, listC g2⟩, popC (w := .d (.int n)) (j := 0) g2 (by decide) (by decide) (by simp [seqIndex?, iW]) rfl ?_⟩
      refine setC g3 rfl ?_
      have g4 : (put (put M1 sc (.lst (iW ns))) st (.lst [.c sc, .d (.int n), .d (.int ((cnt + 1 : Nat) : Int)), .d (.int mix)])) st = some (.lst [.c sc, .d (.int n), .d (.int ((cnt + 1 : Nat) : Int)), .d (.int mix)]) := put_same
      have g5 : (put (put M1 sc (.lst (iW ns))) st (.lst [.c sc, .d (.int n), .d (.int ((cnt + 1 : Nat) : Int)), .d (.int mix)])) sc = some (.lst (iW ns)) := by rw [put_ne ne.symm, put_same]
      have fr2 : Fr st sc M (put (put M1 sc (.lst (iW ns))) st (.lst [.c sc, .d (.int n), .d (.int ((cnt + 1 : Nat) : Int)), .d (.int mix)])) := fr1.trans fun b n1 n2 c h => by rw [put_ne n1, put_ne n2]; exact h
      show wSs Γ b_Ldraw_2 _ [some (.c st), some (.d (.int (m : Int))), none, none] (put (put M1 sc (.lst (iW ns))) st (.lst [.c sc, .d (.int n), .d (.int ((cnt + 1 : Nat) : Int)), .d (.int mix)]))
      generalize put (put M1 sc (.lst (iW ns))) st (.lst [.c sc, .d (.int n), .d (.int ((cnt + 1 : Nat) : Int)), .d (.int mix)]) = M2 at g4 g5 fr2
      unfold b_Ldraw_2
      trivial
      refine ixC g4 rfl (powI (by decide) (by decide) (by decide) (ltI ⟨_, rfl, ite_b (fun e => ?_) fun e => ?_⟩))
      · unfold b_Ldraw_1
        trivial
        refine ixC g4 rfl (mulI ?_ (ixC g4 rfl (addI (addI ⟨_, rfl, modI (by decide) (setC g4 rfl ?_)⟩))))
        · have z1 : (31 : Int).natAbs.log2 < 20 := by decide
          have z2 : mix.natAbs.log2 < 40 := lg (by omega) (by decide)
          omega
        have b2 := Int.emod_nonneg (mix * 31 + n + 7) (show (2147483647 : Int) ≠ 0 by decide)
        have b3 := Int.emod_lt_of_pos (mix * 31 + n + 7) (show (0 : Int) < 2147483647 by decide)
        generalize hy : (mix * 31 + n + 7) % 2147483647 = y at b2 b3
        unfold b_Ldraw_0
        trivial
        refine setC put_same rfl ?_
        refine draw_tail (cur := 0) (cnt := cnt + 1) (mix := y) (ns := ns) hm hm2 ne ?_ ?_ (by decide) b2 b3 (by omega) (fr2.trans fun b n1 n2 c h => by rw [put_ne n1, put_ne n1]; exact h) q
        · rw [put_same, ← hy]; rfl
        · rw [put_ne ne.symm, put_ne ne.symm]; exact g5
      · refine draw_tail hm hm2 ne g4 g5 ?_ h4 h5 (by omega) fr2 q
        have e : ¬ n < 10 ^ (18 : Int).toNat := of_decide_eq_false e
        have : (10 : Int) ^ (18 : Int).toNat = 1000000000000000000 := by decide
        omega
  · refine draw_tail hm hm2 ne g1 g2 h3 h4 h5 (by omega) fr1 q
end
end Z
set_option maxHeartbeats 8000000
/-! Z18: loops by an invariant; what is drawn -/
namespace Z
open PySem PySem.Spec PyProof.Rows L2
local macro_rules
  | `(tactic| trivial) => `(tactic| simp only [wE_var, wE_cst, wE_bin, wE_cmp, wE_chain, wE_and, wE_or, wE_not, wE_ife, wE_tup, wE_lst, wE_ix, wE_sl, wE_neg, wE_blt, wE_bm, wE_lc, wT_cmp, wT_chain, wT_and, wT_or, wT_not, wT_var, wT_ix, wT_blt, wT_call, wA_nil, wA_cons, wAnds_nil, wAnds_cons, wOrs_nil, wOrs_cons, wAndsT_nil, wAndsT_cons, wOrsT_nil, wOrsT_cons, wO_nil, wO_cons, wC1_nil, wC1_cons, wI_seq, wI_sgn, wI_rng1, wI_rng2, r_BO_add, r_BO_sub, r_BO_mul, r_BO_fdiv, r_BO_mod, r_BO_pow, r_CO_lt, r_CO_le, r_CO_gt, r_CO_ge, r_CO_eq, r_CO_ne, r_CO_in_, r_CO_nin, r_CO_is_, r_CO_isn, r_BI_len, r_BI_list, r_BI_tuple, r_BI_int, r_BI_str, r_BI_repr, r_BM_append, r_BM_popAt, r_BM_extend, r_BM_join, ok_append, ok_popAt, ok_extend, ok_join, cn_non, cn_bool_b, cn_int_i, cn_str_s, wS_pass, wS_brk, wS_cont, wS_ret, wS_retN, wS_ex, wS_asg, wS_par, wS_iff, wS_aug, wS_whl, wS_for, wSs_nil, wTg_name, wTg_tup, wTg_lst, wTg_sub, wTs_nil, wTs_cons, wSs_cons, wSs_frz, wVar_0, wVar_s, wE_call, wE_glob, cF_some, gF_some, wCall, List.getElem?_cons_zero, List.getElem?_cons_succ, exists_eq_left, ite_ff_l, wBin, wC, wT, wAndT, wOrT, wNotT, wTru, wIf, wAndV, wOrV, wNotV, wNil, wCons, wTup, wLst, wSl, wCB, wBM, wNoP, wPart, wYes, wgName, wgTup, wgLst, wgSub, wgNil, wgCons, wNext, wRet, wRetN, wExpr, wAsg, wIfS, wBreak, wCont, wPar, wAugI, wFrz, List.set_cons_zero, List.set_cons_succ, List.length_cons, List.length_nil, List.append_nil, if_true_l, wLc, wiSeq, wiRng1, wiRng2, wiStr, wipe2])
def p_Lpick : Par := ⟨["_law_stream", "_law_some_here"], ["_law_draw"], [], ["len"]⟩
def b_Lpick_0 : Ss := .cons (.ret (.ix (.var 1) (.call 0 (.cons (.var 0) (.cons (.blt .len (.cons (.var 1) .nil)) .nil))))) .nil
def b_Lpick : Ss := b_Lpick_0

def p_Lmixed : Par := ⟨["_law_stream", "_law_some_here", "_law_left", "_law_k"], ["_law_draw"], [], ["list", "range", "len"]⟩
def b_Lmixed_0 : Ss := .cons (.ret (.lc false (.rng1 (.blt .len (.cons (.var 2) .nil))) 3 .nil (.bm .popAt (.var 2) (.cons (.call 0 (.cons (.var 0) (.cons (.blt .len (.cons (.var 2) .nil)) .nil))) .nil)))) .nil
def b_Lmixed_1 : Ss := .cons (.asg (.name 2) (.blt (.list true) (.cons (.var 1) .nil))) b_Lmixed_0
def b_Lmixed : Ss := b_Lmixed_1

def p_Lsome : Par := ⟨["_law_stream", "_law_things", "_law_one_in", "_law_thing"], ["_law_draw"], [], []⟩
def b_Lsome_0 : Ss := .cons (.ret (.lc false (.seq (.var 1)) 3 (.cons (.cmp .eq (.call 0 (.cons (.var 0) (.cons (.var 2) .nil))) (.cst (.int 0))) .nil) (.var 3))) .nil
def b_Lsome : Ss := b_Lsome_0

def p_Lsame : Par := ⟨["_law_found", "_law_due"], [], [], ["repr"]⟩
def b_Lsame_0 : Ss := .cons (.ret (.cmp .eq (.blt .repr (.cons (.var 0) .nil)) (.blt .repr (.cons (.var 1) .nil)))) .nil
def b_Lsame : Ss := b_Lsame_0

def p_Lname : Par := ⟨["_law_stream", "_law_taken", "_law_size", "_law_name_here", "_law_k", "_law_one", "_law_letter"], ["_law_draw"], [], ["range"]⟩
def b_Lname_0 : Ss := .cons (.ret (.ix (.lc false (.seq (.lc false (.sgn (.cst (.str "abcdefghijklmnopqrst"))) 6 .nil (.bin (.add false) (.cst (.str "q")) (.var 6)))) 5 (.cons (.cmp .nin (.var 5) (.var 1)) .nil) (.var 5)) (.cst (.int 0)))) .nil
def b_Lname_1 : Ss := .cons (.ret (.var 3)) .nil
def b_Lname_2 : Ss := .cons (.iff (.or (.cmp .in_ (.var 3) (.var 1)) (.cons (.cmp .in_ (.var 3) (.lst false (.cons (.cst (.str "and")) (.cons (.cst (.str "or")) (.cons (.cst (.str "not")) (.cons (.cst (.str "always")) (.cons (.cst (.str "never")) .nil))))))) .nil)) b_Lname_0 .nil) b_Lname_1
def b_Lname_3 : Ss := .cons (.asg (.name 3) (.bm .join (.cst (.str "")) (.cons (.lc false (.rng1 (.var 2)) 4 .nil (.ix (.cst (.str "abcdefghijklmnopqrstuvwxyz")) (.call 0 (.cons (.var 0) (.cons (.cst (.int 26)) .nil))))) .nil))) b_Lname_2
def b_Lname_4 : Ss := .cons (.asg (.name 2) (.ix (.lst false (.cons (.cst (.int 1)) (.cons (.cst (.int 1)) (.cons (.cst (.int 2)) (.cons (.cst (.int 3)) (.cons (.cst (.int 5)) (.cons (.cst (.int 8)) .nil))))))) (.call 0 (.cons (.var 0) (.cons (.cst (.int 6)) .nil))))) b_Lname_3
def b_Lname : Ss := b_Lname_4

def p_Lnames : Par := ⟨["_law_stream", "_law_many", "_law_taken", "_law_found", "_law_k"], ["_law_name"], [], ["range"]⟩
def b_Lnames_0 : Ss := .cons (.ex (.bm .append (.var 3) (.cons (.call 0 (.cons (.var 0) (.cons (.bin (.add false) (.var 2) (.var 3)) .nil))) .nil))) .nil
def b_Lnames_1 : Ss := .cons (.ret (.var 3)) .nil
def b_Lnames_2 : Ss := .frz 3 b_Lnames_1
def b_Lnames_3 : Ss := .cons (.for (.name 4) (.rng1 (.var 1)) b_Lnames_0) b_Lnames_2
def b_Lnames_4 : Ss := .cons (.asg (.name 3) (.lst true .nil)) b_Lnames_3
def b_Lnames : Ss := b_Lnames_4


/-! ### loops -/
theorem lc_run {m : Bool} {p : Addr} {ok : Mp → Prop} {g : TG2} {tt : TT2} {te : TE2} {σ : St2} {Q : VK2} (Inv : List W → Mp → Prop)
    (step : ∀ (w : W) (r : List W) (M : Mp) (K : Mp → Prop), Inv (w :: r) M → (∀ M', Inv r M' → K M') → ok M ∧ g w σ M (fun σ1 M1 => tt σ1 M1 (fun b M2 => if b = true then te σ1 M2 (fun y M3 => ∃ acc, M3 p = some (.lst acc) ∧ acc.length < sizeLine ∧ K (put M3 p (.lst (acc ++ [y])))) (fun _ _ => False) else K M2) (fun _ _ => False)) (fun _ _ => False))
    (fin : ∀ M, Inv [] M → ok M ∧ lcEnd m p M Q) : ∀ (items : List W) (M : Mp), Inv items M → lcL m p ok g tt te σ Q items M
  | [], M, h => fin M h
  | w :: r, M, h => step w r M _ h fun M' h' => lc_run Inv step fin r M' h'
theorem for_run {ok : Mp → Prop} {g : TG2} {tb : TS2} {De : Ends2} (Inv : List W → St2 → Mp → Prop)
    (step : ∀ (w : W) (r : List W) (σ : St2) (M : Mp) (K : St2 → Mp → Prop), Inv (w :: r) σ M → (∀ σ' M', Inv r σ' M' → K σ' M') → ok M ∧ g w σ M (fun σ1 M1 => tb { De with nx := K, ct := K, bk := De.nx } σ1 M1) fun x M1 => De.ex x σ M1)
    (fin : ∀ σ M, Inv [] σ M → ok M ∧ De.nx σ M) : ∀ (items : List W) (σ : St2) (M : Mp), Inv items σ M → forL ok g tb De items σ M
  | [], σ, M, h => fin σ M h
  | w :: r, σ, M, h => step w r σ M _ h fun σ' M' h' => for_run Inv step fin r σ' M' h'
theorem whl_run {c : TT2} {tb : TS2} {De : Ends2} (Inv : Nat → St2 → Mp → Prop)
    (step : ∀ (n : Nat) (σ : St2) (M : Mp) (K : St2 → Mp → Prop), Inv n σ M → (∀ m σ' M', m < n → Inv m σ' M' → K σ' M') → c σ M (fun b M1 => if b = true then tb { De with nx := K, ct := K, bk := De.nx } σ M1 else De.nx σ M1) fun x M1 => De.ex x σ M1) :
    ∀ (f n : Nat) (σ : St2) (M : Mp), n < f → Inv n σ M → whl c tb De f σ M
  | 0, n, _, _, h, _ => absurd h (Nat.not_lt_zero n)
  | f + 1, n, σ, M, h, i => step n σ M _ i fun m σ' M' hm i' => whl_run Inv step f m σ' M' (by omega) i'
theorem while_run {c : TT2} {tb : TS2} {De : Ends2} (Inv : Nat → St2 → Mp → Prop)
    (step : ∀ (n : Nat) (σ : St2) (M : Mp) (K : St2 → Mp → Prop), Inv n σ M → (∀ m σ' M', m < n → Inv m σ' M' → K σ' M') → c σ M (fun b M1 => if b = true then tb { De with nx := K, ct := K, bk := De.nx } σ M1 else De.nx σ M1) fun x M1 => De.ex x σ M1)
    (n : Nat) (σ : St2) (M : Mp) (h : Inv n σ M) : wWhile c tb De σ M := ⟨n + 1, whl_run Inv step (n + 1) n σ M (Nat.lt_succ_self n) h⟩
theorem rng_cons (lo : Int) (n : Nat) : rngW lo (n + 1) = W.d (.int lo) :: rngW (lo + 1) n := by
  unfold rngW
  rw [List.range_succ_eq_map, List.map_cons, List.map_map]
  congr 1
  · simp
  · apply List.map_congr_left
    intro i _
    show W.d (D.int (lo + ((i + 1 : Nat) : Int))) = W.d (D.int (lo + 1 + (i : Int)))
    congr 2
    omega
theorem rng_len (lo : Int) (n : Nat) : (rngW lo n).length = n := by simp [rngW]
/-! ### what stays readable while numbers are drawn -/
def SeqF (st sc : Addr) (M : Mp) (x : W) (us : List W) : Prop := ∀ M', Fr st sc M M' → seqW M' x = some us
theorem SeqF.now {st sc : Addr} {M : Mp} {x : W} {us : List W} (h : SeqF st sc M x us) : seqW M x = some us := h M Fr.refl
theorem SeqF.mono {st sc : Addr} {M M1 : Mp} {x : W} {us : List W} (h : SeqF st sc M x us) (f : Fr st sc M M1) : SeqF st sc M1 x us := fun M' f' => h M' (f.trans f')
theorem seqF_lst {st sc : Addr} {M : Mp} {xs : List D} : SeqF st sc M (.d (.lst xs)) (xs.map W.d) := fun _ _ => rfl
theorem seqF_tup {st sc : Addr} {M : Mp} {xs : List D} : SeqF st sc M (.d (.tup xs)) (xs.map W.d) := fun _ _ => rfl
theorem seqF_c {st sc a : Addr} {M : Mp} {us : List W} (h : M a = some (.lst us)) (h1 : a ≠ st) (h2 : a ≠ sc) : SeqF st sc M (.c a) us := fun M' f => seqC (f a h1 h2 _ h)
theorem Strm.st {st sc : Addr} {c : Nat} {M : Mp} (s : Strm st sc c M) : ∃ x, M st = some x := by
  obtain ⟨_, _, _, _, _, h, _⟩ := s
  exact ⟨_, h⟩
theorem Strm.sc {st sc : Addr} {c : Nat} {M : Mp} (s : Strm st sc c M) : ∃ x, M sc = some x := by
  obtain ⟨_, _, _, _, _, _, h, _⟩ := s
  exact ⟨_, h⟩
theorem Strm.new {st sc p : Addr} {c : Nat} {M : Mp} (s : Strm st sc c M) (h : M p = none) : p ≠ st ∧ p ≠ sc := by
  obtain ⟨x, h1⟩ := s.st
  obtain ⟨y, h2⟩ := s.sc
  exact ⟨fun e => (by rw [e, h1] at h; cases h), fun e => (by rw [e, h2] at h; cases h)⟩
theorem Strm.put {st sc p : Addr} {c : Nat} {M : Mp} {x : Cl} (s : Strm st sc c M) (h1 : p ≠ st) (h2 : p ≠ sc) : Strm st sc c (Z.put M p x) := by
  obtain ⟨ne, ns, cur, cnt, mix, e1, e2, r⟩ := s
  exact ⟨ne, ns, cur, cnt, mix, by rw [put_ne h1.symm]; exact e1, by rw [put_ne h2.symm]; exact e2, r⟩
theorem Strm.del {st sc p : Addr} {c : Nat} {M : Mp} (s : Strm st sc c M) (h1 : p ≠ st) (h2 : p ≠ sc) : Strm st sc c (Z.del M p) := by
  obtain ⟨ne, ns, cur, cnt, mix, e1, e2, r⟩ := s
  exact ⟨ne, ns, cur, cnt, mix, by rw [del_ne h1.symm]; exact e1, by rw [del_ne h2.symm]; exact e2, r⟩
theorem Fr.put {st sc p : Addr} {M M1 : Mp} {x : Cl} (f : Fr st sc M M1) (h : M p = none) : Fr st sc M (Z.put M1 p x) := fun b n1 n2 c e => by
  have : b ≠ p := fun z => by rw [z, h] at e; cases e
  rw [put_ne this]
  exact f b n1 n2 c e
theorem Fr.del {st sc p : Addr} {M M1 : Mp} (f : Fr st sc M M1) (h : M p = none) : Fr st sc M (Z.del M1 p) := fun b n1 n2 c e => by
  have : b ≠ p := fun z => by rw [z, h] at e; cases e
  rw [del_ne this]
  exact f b n1 n2 c e
/-! ### contracts -/
def spPick : Sp2 := fun ws M Q _ => ∃ (st sc : Addr) (c : Nat) (x : W) (us : List W), ws = [.c st, x] ∧ SeqF st sc M x us ∧ us ≠ [] ∧ us.length ≤ 1000 ∧ Strm st sc (c + 1) M ∧ ∀ (w : W) M', w ∈ us → Strm st sc c M' → Fr st sc M M' → Q w M'
def spMixed : Sp2 := fun ws M Q _ => ∃ (st sc : Addr) (c : Nat) (x : W) (ds : List D), ws = [.c st, x] ∧ SeqF st sc M x (ds.map W.d) ∧ ds.length ≤ 1000 ∧ Strm st sc (c + ds.length) M ∧ ∀ (es : List D) M', es.Perm ds → Strm st sc c M' → Fr st sc M M' → Q (.d (.lst es)) M'
def spSome : Sp2 := fun ws M Q _ => ∃ (st sc : Addr) (c m : Nat) (x : W) (ds : List D), ws = [.c st, x, .d (.int (m : Int))] ∧ 1 ≤ m ∧ m ≤ 1000 ∧ SeqF st sc M x (ds.map W.d) ∧ ds.length ≤ 1000 ∧ Strm st sc (c + ds.length) M ∧ ∀ (es : List D) M', es.Sublist ds → Strm st sc c M' → Fr st sc M M' → Q (.d (.lst es)) M'
def spSame : Sp2 := fun ws M Q _ => ∃ x y p q, ws = [x, y] ∧ toPyW M x = some p ∧ toPyW M y = some q ∧ (PyData.showable p = true ∧ p.depth ≤ 100 ∧ (PyData.shown p).length ≤ sizeLine) ∧ (PyData.showable q = true ∧ q.depth ≤ 100 ∧ (PyData.shown q).length ≤ sizeLine) ∧ Q (.d (.bool (PyData.shown p == PyData.shown q))) M
abbrev cDraw : Cal := ⟨"_law_draw", spDraw, []⟩
abbrev cPick : Cal := ⟨"_law_pick", spPick, []⟩
abbrev cMixed : Cal := ⟨"_law_mixed", spMixed, []⟩
abbrev cSome : Cal := ⟨"_law_some", spSome, []⟩
abbrev cSame : Cal := ⟨"_law_same", spSame, []⟩
section
theorem atI_n {α : Type} {xs : List α} {j : Nat} {x : α} (h : xs[j]? = some x) : atI xs (j : Int) = some x := atI_nat h
theorem pick_ok : ∀ ws M Q E, spPick ws M Q E → wSs ⟨[cDraw], []⟩ b_Lpick (endOf Q E) (start2 p_Lpick.N ws) M := by
  intro ws M Q E h
  obtain ⟨st, sc, c, x, us, rfl, hx, h0, hl, s, q⟩ := h
  show wSs _ b_Lpick_0 (endOf Q E) [some (.c st), some x] M
  unfold b_Lpick_0
  trivial
  refine lenS hx.now ⟨st, sc, c, us.length, rfl, ?_, by omega, s, fun r M1 hr s1 f1 => ?_⟩
  · have := List.length_pos_iff.mpr h0; omega
  refine ixS (hx _ f1) (atI_n (List.getElem?_eq_getElem hr)) ?_
  exact q _ _ (List.getElem_mem _) s1 f1
theorem same_ok : ∀ ws M Q E, spSame ws M Q E → wSs ⟨[], []⟩ b_Lsame (endOf Q E) (start2 p_Lsame.N ws) M := by
  intro ws M Q E h
  obtain ⟨x, y, p, q, rfl, h1, h2, ⟨a1, a2, a3⟩, ⟨b1, b2, b3⟩, qq⟩ := h
  show wSs _ b_Lsame_0 (endOf Q E) [some x, some y] M
  unfold b_Lsame_0
  trivial
  exact ⟨x, p, rfl, h1, a1, a2, a3, y, q, rfl, h2, b1, b2, b3, eqS qq⟩
theorem eraseMap {α β : Type} (f : α → β) : ∀ (xs : List α) (j : Nat), (xs.map f).eraseIdx j = (xs.eraseIdx j).map f
  | [], _ => rfl
  | _ :: _, 0 => rfl
  | x :: r, j + 1 => congrArg (f x :: ·) (eraseMap f r j)
theorem erasePerm {α : Type} : ∀ (xs : List α) (j : Nat) (h : j < xs.length), (xs[j] :: xs.eraseIdx j).Perm xs
  | [], _, h => absurd h (Nat.not_lt_zero _)
  | _ :: _, 0, _ => List.Perm.refl _
  | x :: r, j + 1, h => (List.Perm.swap _ _ _).trans ((erasePerm r j (Nat.lt_of_succ_lt_succ h)).cons x)
theorem unD_cat {acc : List W} {es : List D} {w : D} (h : acc = es.map W.d) : acc ++ [W.d w] = (es ++ [w]).map W.d := by rw [h, List.map_append]; rfl
theorem mixed_ok : ∀ ws M Q E, spMixed ws M Q E → wSs ⟨[cDraw], []⟩ b_Lmixed (endOf Q E) (start2 p_Lmixed.N ws) M := by
  intro ws M Q E h
  obtain ⟨st, sc, c, x, ds, rfl, hx, hl, s, q⟩ := h
  show wSs _ b_Lmixed_1 (endOf Q E) [some (.c st), some x, none, none] M
  unfold b_Lmixed_1
  trivial
  refine ⟨x, _, rfl, hx.now, fun p hp => ?_⟩
  obtain ⟨p1, p2⟩ := s.new hp
  unfold b_Lmixed_0
  trivial
  refine lenS (seqC put_same) ⟨_, rfl, by omega, by have : (ds.map W.d).length ≤ 1000 := by simpa using hl
                                                    omega, fun t ht => ?_⟩
  have tp : t ≠ p := fun z => by rw [z, put_same] at ht; cases ht
  rw [put_ne tp] at ht
  obtain ⟨t1, t2⟩ := s.new ht
  rw [Int.toNat_natCast, List.length_map]
  refine lc_run (fun r M' => ∃ (es ls : List D), M' t = some (.lst (es.map W.d)) ∧ M' p = some (.lst (ls.map W.d)) ∧ r.length = ls.length ∧ es.length + ls.length = ds.length ∧ (es ++ ls).Perm ds ∧ Strm st sc (c + ls.length) M' ∧ Fr st sc M M') (fun w r M1 K i k => ?_) (fun M1 i => ?_) _ _ ?_
  · obtain ⟨es, ls, e1, e2, e3, e4, e5, s1, f1⟩ := i
    rw [List.length_cons] at e3
    refine ⟨trivial, ?_⟩
    trivial
    refine ⟨⟨_, listC e2⟩, lenS (seqC e2) ⟨st, sc, c + (ls.length - 1), ls.length, by rw [List.length_map], by omega, by omega, s1.less (by omega), fun j M2 hj s2 f2 => ?_⟩⟩
    have g2 : M2 p = some (.lst (ls.map W.d)) := f2 p p1 p2 _ e2
    have g1 : M2 t = some (.lst (es.map W.d)) := f2 t t1 t2 _ e1
    refine popC (w := .d ls[j]) (j := j) g2 (by omega) (by omega) (by
      rw [List.length_map]
      unfold seqIndex?
      simp
      omega) (by rw [List.getElem?_map, List.getElem?_eq_getElem hj]; rfl) ?_
    refine ⟨_, by rw [put_ne tp]; exact g1, ?_, k _ ⟨es ++ [ls[j]], ls.eraseIdx j, ?_, ?_, ?_, ?_, ?_, ?_, ?_⟩⟩
    · rw [List.length_map]
      exact Nat.lt_of_lt_of_le (by omega : es.length < 1000) (small (Nat.le_refl _))
    · rw [put_same, List.map_append]; rfl
    · rw [put_ne tp.symm, put_same, eraseMap]
    · rw [List.length_eraseIdx_of_lt hj]; omega
    · rw [List.length_append, List.length_eraseIdx_of_lt hj, List.length_singleton]; omega
    · refine List.Perm.trans ?_ e5
      rw [List.append_assoc]
      refine List.Perm.append_left _ ?_
      exact erasePerm _ _ hj
    · rw [List.length_eraseIdx_of_lt hj]
      exact ((s2.less (by omega)).put p1 p2).put t1 t2
    · exact ((f1.trans f2).put hp).put ht
  · obtain ⟨es, ls, e1, e2, e3, e4, e5, s1, f1⟩ := i
    have : ls = [] := List.length_eq_zero_iff.mp e3.symm
    subst this
    rw [List.append_nil] at e5
    refine ⟨trivial, _, e1, ?_⟩
    rw [if_neg Bool.false_ne_true]
    exact ⟨es, unD_map _, q es _ e5 ((s1.less (by omega)).del t1 t2) (f1.del ht)⟩
  · refine ⟨[], ds, put_same, ?_, by rw [rng_len], by simp, List.Perm.refl _, (s.put p1 p2).put t1 t2, (Fr.refl.put hp).put ht⟩
    rw [put_ne tp.symm, put_same]
theorem some_ok : ∀ ws M Q E, spSome ws M Q E → wSs ⟨[cDraw], []⟩ b_Lsome (endOf Q E) (start2 p_Lsome.N ws) M := by
  intro ws M Q E h
  obtain ⟨st, sc, c, m, x, ds, rfl, hm, hm2, hx, hl, s, q⟩ := h
  show wSs _ b_Lsome_0 (endOf Q E) [some (.c st), some x, some (.d (.int (m : Int))), none] M
  unfold b_Lsome_0
  trivial
  refine ⟨_, hx.now, fun t ht => ?_⟩
  obtain ⟨t1, t2⟩ := s.new ht
  refine lc_run (fun r M' => ∃ (rs es : List D), r = rs.map W.d ∧ M' t = some (.lst (es.map W.d)) ∧ es.length + rs.length ≤ ds.length ∧ (es ++ rs).Sublist ds ∧ Strm st sc (c + rs.length) M' ∧ Fr st sc M M') (fun w r M1 K i k => ?_) (fun M1 i => ?_) _ _ ?_
  · obtain ⟨rs, es, e0, e1, e2, e3, s1, f1⟩ := i
    cases rs with
    | nil => cases e0
    | cons d rs =>
      cases e0
      refine ⟨hx _ f1, ?_⟩
      trivial
      refine ⟨st, sc, c + rs.length, m, rfl, hm, by omega, s1, fun j M2 hj s2 f2 => ?_⟩
      refine eqI ⟨_, rfl, ite_b (fun e => ?_) fun e => ?_⟩
      · refine ⟨_, f2 t t1 t2 _ e1, ?_, k _ ⟨rs, es ++ [d], rfl, ?_, ?_, ?_, s2.put t1 t2, (f1.trans f2).put ht⟩⟩
        · rw [List.length_map]
          rw [List.length_cons] at e2
          exact Nat.lt_of_lt_of_le (by omega : es.length < 1000) (small (Nat.le_refl _))
        · rw [put_same, List.map_append]; rfl
        · rw [List.length_append, List.length_singleton]; rw [List.length_cons] at e2; omega
        · rw [List.append_assoc]; exact e3
      · refine k _ ⟨rs, es, rfl, f2 t t1 t2 _ e1, by rw [List.length_cons] at e2; omega, ?_, s2, f1.trans f2⟩
        refine List.Sublist.trans ?_ e3
        exact List.Sublist.append_left (List.sublist_cons_self d rs) es
  · obtain ⟨rs, es, e0, e1, e2, e3, s1, f1⟩ := i
    have : rs = [] := by
      cases rs with
      | nil => rfl
      | cons d rs => cases e0
    subst this
    rw [List.append_nil] at e3
    refine ⟨hx _ f1, _, e1, ?_⟩
    rw [if_neg Bool.false_ne_true]
    exact ⟨es, unD_map _, q es _ e3 ((s1.less (by omega)).del t1 t2) (f1.del ht)⟩
  · exact ⟨ds, [], rfl, put_same, by simp, List.Sublist.refl _, s.put t1 t2, Fr.refl.put ht⟩
end
end Z
set_option maxHeartbeats 8000000
/-! Z19: names that are drawn -/
namespace Z
open PySem PySem.Spec PyProof.Rows L2
local macro_rules
  | `(tactic| trivial) => `(tactic| simp only [wE_var, wE_cst, wE_bin, wE_cmp, wE_chain, wE_and, wE_or, wE_not, wE_ife, wE_tup, wE_lst, wE_ix, wE_sl, wE_neg, wE_blt, wE_bm, wE_lc, wT_cmp, wT_chain, wT_and, wT_or, wT_not, wT_var, wT_ix, wT_blt, wT_call, wA_nil, wA_cons, wAnds_nil, wAnds_cons, wOrs_nil, wOrs_cons, wAndsT_nil, wAndsT_cons, wOrsT_nil, wOrsT_cons, wO_nil, wO_cons, wC1_nil, wC1_cons, wI_seq, wI_sgn, wI_rng1, wI_rng2, r_BO_add, r_BO_sub, r_BO_mul, r_BO_fdiv, r_BO_mod, r_BO_pow, r_CO_lt, r_CO_le, r_CO_gt, r_CO_ge, r_CO_eq, r_CO_ne, r_CO_in_, r_CO_nin, r_CO_is_, r_CO_isn, r_BI_len, r_BI_list, r_BI_tuple, r_BI_int, r_BI_str, r_BI_repr, r_BM_append, r_BM_popAt, r_BM_extend, r_BM_join, ok_append, ok_popAt, ok_extend, ok_join, cn_non, cn_bool_b, cn_int_i, cn_str_s, wS_pass, wS_brk, wS_cont, wS_ret, wS_retN, wS_ex, wS_asg, wS_par, wS_iff, wS_aug, wS_whl, wS_for, wSs_nil, wTg_name, wTg_tup, wTg_lst, wTg_sub, wTs_nil, wTs_cons, wSs_cons, wSs_frz, wVar_0, wVar_s, wE_call, wE_glob, cF_some, gF_some, wCall, List.getElem?_cons_zero, List.getElem?_cons_succ, exists_eq_left, ite_ff_l, wBin, wC, wT, wAndT, wOrT, wNotT, wTru, wIf, wAndV, wOrV, wNotV, wNil, wCons, wTup, wLst, wSl, wCB, wBM, wNoP, wPart, wYes, wgName, wgTup, wgLst, wgSub, wgNil, wgCons, wNext, wRet, wRetN, wExpr, wAsg, wIfS, wBreak, wCont, wPar, wAugI, wFrz, List.set_cons_zero, List.set_cons_succ, List.length_cons, List.length_nil, List.append_nil, if_true_l, wLc, wiSeq, wiRng1, wiRng2, wiStr, wipe2, wFor])

/-- a drawn name: one to eight small letters -/
def Nm (s : Str) : Prop := 1 ≤ s.length ∧ s.length ≤ 8 ∧ ∀ c ∈ s.cps.toList, 97 ≤ c ∧ c ≤ 122
def resv : List Str := ["and", "or", "not", "always", "never"]
def sD (ss : List Str) : List D := ss.map D.str
def sW (ss : List Str) : List W := ss.map fun s => W.d (.str s)
theorem sD_W (ss : List Str) : (sD ss).map W.d = sW ss := by unfold sD sW; rw [List.map_map]; rfl
theorem flL_s : ∀ ss : List Str, flL (sW ss) = some (ss.map V.str)
  | [] => rfl
  | s :: r => by
    show (flD (.str s)).bind (fun v => (flL (sW r)).map (v :: ·)) = _
    rw [flL_s r]; rfl
theorem inV_s (s : Str) (ss : List Str) : inV (.str s) (ss.map V.str) = decide (s ∈ ss) := by
  unfold inV
  induction ss with
  | nil => rfl
  | cons x r ih =>
    rw [List.map_cons, List.any_cons, ih]
    show ((x == s) || decide (s ∈ r)) = decide (s ∈ x :: r)
    by_cases h : x = s
    · subst h; simp
    · have h2 : ¬ s = x := fun e => h e.symm
      simp [h, h2]
theorem inS {M : Mp} {Q : VK2} {E : XK2} {x : W} {s : Str} {ss : List Str} (h : seqW M x = some (sW ss)) (q : Q (.d (.bool (decide (s ∈ ss)))) M) : oIn false (.d (.str s)) x M Q E :=
  .inl ⟨_, _, .str s, .str s, h, flL_s ss, rfl, rfl, by rw [inV_s]; exact q⟩
theorem ninS {M : Mp} {Q : VK2} {E : XK2} {x : W} {s : Str} {ss : List Str} (h : seqW M x = some (sW ss)) (q : Q (.d (.bool (!decide (s ∈ ss)))) M) : oIn true (.d (.str s)) x M Q E :=
  .inl ⟨_, _, .str s, .str s, h, flL_s ss, rfl, rfl, by rw [inV_s]; exact q⟩
theorem joinE (cs : List Nat) : Txt.join ("" : Str) (cs.map fun c => (⟨#[c]⟩ : Str)) = ⟨cs.toArray⟩ := by
  have e := SX.join_S [] (cs.map fun c => [c])
  rw [List.map_map] at e
  have e2 : TL.joinL [] (cs.map fun c => [c]) = cs := by
    clear e
    induction cs with
    | nil => rfl
    | cons c r ih =>
      cases r with
      | nil => rfl
      | cons d r =>
        show [c] ++ ([] ++ TL.joinL [] ((d :: r).map fun c => [c])) = _
        rw [ih]; rfl
  rw [e2] at e
  exact e
theorem nodup_sub {α : Type} [BEq α] [LawfulBEq α] : ∀ (l ts : List α), l.Nodup → (∀ x ∈ l, x ∈ ts) → l.length ≤ ts.length
  | [], _, _, _ => Nat.zero_le _
  | x :: r, ts, nd, h => by
    obtain ⟨h1, h2⟩ := List.nodup_cons.mp nd
    have hx := h x List.mem_cons_self
    have ih := nodup_sub r (ts.erase x) h2 fun y hy => (List.mem_erase_of_ne (fun e => h1 (by rw [← e]; exact hy))).mpr (h y (List.mem_cons_of_mem _ hy))
    rw [List.length_erase_of_mem hx] at ih
    have := List.length_pos_of_mem hx
    rw [List.length_cons]
    omega
def q20 : List Str := (List.range 20).map fun i => ⟨#[113, 97 + i]⟩
theorem q20_nm : ∀ s ∈ q20, Nm s ∧ s ∉ resv := by
  have h : ∀ i ∈ List.range 20, (⟨#[113, 97 + i]⟩ : Str) ∉ resv := by decide
  intro s hs
  obtain ⟨i, hi, rfl⟩ := List.mem_map.mp hs
  refine ⟨⟨(show 1 ≤ 2 by decide), (show 2 ≤ 8 by decide), fun c hc => ?_⟩, h i hi⟩
  have hi := List.mem_range.mp hi
  have hc : c = 113 ∨ c = 97 + i := by simpa using hc
  omega
theorem q20_free {ts : List Str} (h : ts.length < 20) : q20.filter (fun s => !decide (s ∈ ts)) ≠ [] := fun e => by
  have nd : q20.Nodup := by decide
  have := nodup_sub q20 ts nd fun s hs => by
    refine Classical.byContradiction fun hn => ?_
    have : s ∈ q20.filter (fun s => !decide (s ∈ ts)) := List.mem_filter.mpr ⟨hs, by simp [hn]⟩
    rw [e] at this
    cases this
  have e20 : q20.length = 20 := by decide
  omega
def spName : Sp2 := fun ws M Q _ => ∃ (st sc : Addr) (c : Nat) (x : W) (ts : List Str), ws = [.c st, x] ∧ SeqF st sc M x (sW ts) ∧ ts.length < 20 ∧ Strm st sc (c + 9) M ∧ ∀ (s : Str) M', Nm s → s ∉ ts → s ∉ resv → Strm st sc c M' → Fr st sc M M' → Q (.d (.str s)) M'
def spNames : Sp2 := fun ws M Q _ => ∃ (st sc : Addr) (c n : Nat) (ts : List Str), ws = [.c st, .d (.int (n : Int)), .d (.lst (sD ts))] ∧ ts.length + n ≤ 20 ∧ Strm st sc (c + 9 * n) M ∧ ∀ (ns : List Str) M', ns.length = n → (∀ s ∈ ns, Nm s ∧ s ∉ ts ∧ s ∉ resv) → ns.Nodup → Strm st sc c M' → Fr st sc M M' → Q (.d (.lst (sD ns))) M'
abbrev cName : Cal := ⟨"_law_name", spName, []⟩
abbrev cNames : Cal := ⟨"_law_names", spNames, []⟩
section
theorem sizes (r : Nat) (h : r < 6) : ∃ k : Nat, atI [W.d (.int 1), .d (.int 1), .d (.int 2), .d (.int 3), .d (.int 5), .d (.int 8)] (r : Int) = some (.d (.int (k : Int))) ∧ 1 ≤ k ∧ k ≤ 8 := by
  match r, h with
  | 0, _ => exact ⟨1, rfl, by decide, by decide⟩
  | 1, _ => exact ⟨1, rfl, by decide, by decide⟩
  | 2, _ => exact ⟨2, rfl, by decide, by decide⟩
  | 3, _ => exact ⟨3, rfl, by decide, by decide⟩
  | 4, _ => exact ⟨5, rfl, by decide, by decide⟩
  | 5, _ => exact ⟨8, rfl, by decide, by decide⟩
theorem letters {r : Nat} (h : r < 26) : ixStr "abcdefghijklmnopqrstuvwxyz" (r : Int) = some ⟨#[97 + r]⟩ := by
  unfold ixStr
  have e : ("abcdefghijklmnopqrstuvwxyz" : Str).cps.toList = (List.range 26).map (97 + ·) := by decide
  rw [e, atI_n (j := r) (x := 97 + r) (by rw [List.getElem?_map, List.getElem?_range h]; rfl)]
  rfl
theorem name_ok : ∀ ws M Q E, spName ws M Q E → wSs ⟨[cDraw], []⟩ b_Lname (endOf Q E) (start2 p_Lname.N ws) M := by
  intro ws M Q E h
  obtain ⟨st, sc, c, x, ts, rfl, hx, hl, s, q⟩ := h
  show wSs _ b_Lname_4 (endOf Q E) [some (.c st), some x, none, none, none, none, none] M
  unfold b_Lname_4
  trivial
  refine ⟨by decide, _, rfl, st, sc, c + 8, 6, rfl, by decide, by decide, s, fun r M1 hr s1 f1 => ?_⟩
  obtain ⟨k, e, k1, k2⟩ := sizes r hr
  refine ixS rfl e ?_
  unfold b_Lname_3
  trivial
  refine ⟨⟨_, rfl⟩, _, rfl, by omega, by omega, fun t ht => ?_⟩
  obtain ⟨t1, t2⟩ := s1.new ht
  rw [Int.toNat_natCast]
  refine lc_run (fun r M' => ∃ cs : List Nat, M' t = some (.lst (cs.map fun c => W.d (.str ⟨#[c]⟩))) ∧ cs.length + r.length = k ∧ (∀ c ∈ cs, 97 ≤ c ∧ c ≤ 122) ∧ Strm st sc (c + r.length) M' ∧ Fr st sc M1 M') (fun w r M2 K i kk => ?_) (fun M2 i => ?_) _ _ ?_
  · obtain ⟨cs, e1, e2, e3, s2, f2⟩ := i
    rw [List.length_cons] at e2
    refine ⟨trivial, ?_⟩
    trivial
    refine ⟨st, sc, c + r.length, 26, rfl, by decide, by decide, s2, fun j M3 hj s3 f3 => ?_⟩
    refine ⟨_, rfl, .inr ⟨_, _, rfl, letters hj, ?_⟩⟩
    refine ⟨_, f3 t t1 t2 _ e1, ?_, kk _ ⟨cs ++ [97 + j], ?_, ?_, ?_, s3.put t1 t2, (f2.trans f3).put ht⟩⟩
    · rw [List.length_map]
      exact Nat.lt_of_lt_of_le (by omega : cs.length < 1000) (small (Nat.le_refl _))
    · rw [put_same, List.map_append]; rfl
    · rw [List.length_append, List.length_singleton]; omega
    · intro d hd
      rcases List.mem_append.mp hd with hd | hd
      · exact e3 d hd
      · have : d = 97 + j := by simpa using hd
        omega
  · obtain ⟨cs, e1, e2, e3, s2, f2⟩ := i
    rw [List.length_nil] at e2
    refine ⟨trivial, _, e1, ?_⟩
    rw [if_neg Bool.false_ne_true]
    refine ⟨cs.map fun c => D.str ⟨#[c]⟩, ?_, ?_⟩
    · rw [show (cs.map fun c => W.d (.str ⟨#[c]⟩)) = (cs.map fun c => D.str ⟨#[c]⟩).map W.d by rw [List.map_map]; rfl]
      exact unD_map _
    have s3 : Strm st sc c (del M2 t) := (s2.less (by omega)).del t1 t2
    have f3 : Fr st sc M (del M2 t) := f1.trans (f2.del ht)
    generalize del M2 t = M3 at s3 f3
    refine ⟨_, _, _, cs.map fun c => (⟨#[c]⟩ : Str), rfl, rfl, rfl, ?_, ?_, ?_, ?_⟩
    · show strsL ((cs.map fun c => D.str ⟨#[c]⟩).map W.d) = _
      rw [show ((cs.map fun c => D.str ⟨#[c]⟩).map W.d) = (cs.map fun c => (⟨#[c]⟩ : Str)).map fun s => W.d (.str s) by rw [List.map_map, List.map_map]; rfl]
      exact strsL_map _
    · have h1 : ∀ cs : List Nat, ((cs.map fun c => (⟨#[c]⟩ : Str)).map (·.length)).sum = cs.length := by
        intro cs
        induction cs with
        | nil => rfl
        | cons c r ih => rw [List.map_cons, List.map_cons, List.sum_cons, ih, List.length_cons, show (⟨#[c]⟩ : Str).length = 1 from rfl]; omega
      rw [h1, List.length_map, show ("" : Str).length = 0 by decide]
      omega
    · rw [joinE]
      have : (⟨cs.toArray⟩ : Str).length = cs.length := SX.S_len cs
      rw [this]
      exact small (by omega)
    rw [joinE]
    have nm : Nm ⟨cs.toArray⟩ := ⟨by rw [SX.S_len]; omega, by rw [SX.S_len]; omega, fun d hd => e3 d (by simpa using hd)⟩
    generalize (⟨cs.toArray⟩ : Str) = z at nm
    show wSs _ b_Lname_2 _ _ _
    have fall : wSs ⟨[cDraw], []⟩ b_Lname_0 (endOf Q E) [some (.c st), some x, some (.d (.int (k : Int))), some (.d (.str z)), none, none, none] M3 := by
      unfold b_Lname_0
      trivial
      refine ⟨_, rfl, fun u hu => ?_⟩
      obtain ⟨u1, u2⟩ := s3.new hu
      have sg : signsW "abcdefghijklmnopqrst" = (List.range 20).map fun i => W.d (.str ⟨#[97 + i]⟩) := by
        have e : ("abcdefghijklmnopqrst" : Str).cps.toList = (List.range 20).map (97 + ·) := by decide
        unfold signsW
        rw [e, List.map_map]
        rfl
      rw [sg]
      refine lc_run (fun r M' => ∃ i n, r = (List.range' i n).map (fun i => W.d (.str ⟨#[97 + i]⟩)) ∧ i + n = 20 ∧ M' u = some (.lst ((List.range i).map fun i => W.d (.str ⟨#[113, 97 + i]⟩))) ∧ Strm st sc c M' ∧ Fr st sc M M') (fun w r M2 K i kk => ?_) (fun M2 i => ?_) _ _ ?_
      · obtain ⟨i, n, e0, ei, e1, s4, f4⟩ := i
        cases n with
        | zero => cases e0
        | succ n =>
          cases e0
          refine ⟨trivial, ?_⟩
          trivial
          refine ⟨_, _, rfl, ?_, ?_⟩
          · have h1 : ("q" : Str).length = 1 := by decide
            have h2 : (⟨#[97 + i]⟩ : Str).length = 1 := rfl
            exact small (by omega)
          refine ⟨_, e1, ?_, kk _ ⟨i + 1, n, rfl, by omega, ?_, s4.put u1 u2, f4.put (by
            cases hm : M u with
            | none => rfl
            | some y => rw [f3 u u1 u2 _ hm] at hu; cases hu)⟩⟩
          · rw [List.length_map, List.length_range]
            exact Nat.lt_of_lt_of_le (by omega : i < 1000) (small (Nat.le_refl _))
          · rw [put_same, List.range_succ, List.map_append]; rfl
      · obtain ⟨i, n, e0, ei, e1, s4, f4⟩ := i
        have : n = 0 := by
          cases n with
          | zero => rfl
          | succ n => cases e0
        subst this
        have : i = 20 := by omega
        subst this
        refine ⟨trivial, _, e1, ?_⟩
        rw [if_neg Bool.false_ne_true]
        have hMu : M u = none := by
          cases hm : M u with
          | none => rfl
          | some y => rw [f3 u u1 u2 _ hm] at hu; cases hu
        refine ⟨sD q20, ?_, ?_⟩
        · rw [show ((List.range 20).map fun i => W.d (.str ⟨#[113, 97 + i]⟩)) = (sD q20).map W.d by unfold sD q20; rw [List.map_map, List.map_map]; rfl]
          exact unD_map _
        have s5 : Strm st sc c (del M2 u) := s4.del u1 u2
        have f5 : Fr st sc M (del M2 u) := f4.del hMu
        generalize del M2 u = M5 at s5 f5
        trivial
        refine ⟨_, rfl, fun v hv => ?_⟩
        obtain ⟨v1, v2⟩ := s5.new hv
        have hMv : M v = none := by
          cases hm : M v with
          | none => rfl
          | some y => rw [f5 v v1 v2 _ hm] at hv; cases hv
        refine lc_run (fun r M' => ∃ a b : List Str, r = sW b ∧ a ++ b = q20 ∧ M' v = some (.lst (sW (a.filter fun s => !decide (s ∈ ts)))) ∧ Strm st sc c M' ∧ Fr st sc M M') (fun w r M6 K i kk => ?_) (fun M6 i => ?_) _ _ ?_
        · obtain ⟨a, b, e0, ei, e1, s6, f6⟩ := i
          cases b with
          | nil => cases e0
          | cons y b =>
            cases e0
            refine ⟨rfl, ?_⟩
            trivial
            have la : (a.filter fun s => !decide (s ∈ ts)).length ≤ 20 := by
              have h1 := List.length_filter_le (fun s => !decide (s ∈ ts)) a
              have h2 := congrArg List.length ei
              rw [List.length_append, List.length_cons, show q20.length = 20 by decide] at h2
              omega
            refine ninS (hx _ f6) ⟨_, rfl, ite_b (fun e => ?_) fun e => ?_⟩
            · refine ⟨_, e1, ?_, kk _ ⟨a ++ [y], b, rfl, ?_, ?_, s6.put v1 v2, f6.put hMv⟩⟩
              · rw [sW, List.length_map]
                exact Nat.lt_of_lt_of_le (by omega : _ < 1000) (small (Nat.le_refl _))
              · rw [List.append_assoc]; exact ei
              · rw [put_same, List.filter_append, List.filter_cons, if_pos e]
                unfold sW
                rw [List.map_append]; rfl
            · refine kk _ ⟨a ++ [y], b, rfl, by rw [List.append_assoc]; exact ei, ?_, s6, f6⟩
              rw [List.filter_append, List.filter_cons, if_neg (by rw [e]; exact Bool.false_ne_true)]
              rw [List.filter_nil, List.append_nil]
              exact e1
        · obtain ⟨a, b, e0, ei, e1, s6, f6⟩ := i
          have : b = [] := by
            cases b with
            | nil => rfl
            | cons _ _ => cases e0
          subst this
          rw [List.append_nil] at ei
          subst ei
          refine ⟨rfl, _, e1, ?_⟩
          rw [if_neg Bool.false_ne_true]
          refine ⟨sD (q20.filter fun s => !decide (s ∈ ts)), by rw [← sD_W]; exact unD_map _, ?_⟩
          have hf := q20_free hl
          cases hq : q20.filter (fun s => !decide (s ∈ ts)) with
          | nil => exact absurd hq hf
          | cons y r =>
            have my : y ∈ q20.filter (fun s => !decide (s ∈ ts)) := by rw [hq]; exact List.mem_cons_self
            obtain ⟨m1, m2⟩ := List.mem_filter.mp my
            trivial
            refine ixS rfl (atI_n (j := 0) rfl) ?_
            exact q y _ (q20_nm y m1).1 (by simpa using m2) (q20_nm y m1).2 (s6.del v1 v2) (f6.del hMv)
        · refine ⟨[], q20, (show (sD q20).map W.d = sW q20 from sD_W q20), rfl, put_same, s5.put v1 v2, f5.put hMv⟩
      · refine ⟨0, 20, ?_, rfl, put_same, s3.put u1 u2, f3.put (by
          cases hm : M u with
          | none => rfl
          | some y => rw [f3 u u1 u2 _ hm] at hu; cases hu)⟩
        rw [List.range_eq_range']
    unfold b_Lname_2
    trivial
    refine inS (hx _ f3) ⟨_, rfl, ite_b (fun e => fall) fun e => ?_⟩
    refine ⟨by decide, _, rfl, inS (ss := resv) rfl ⟨_, rfl, ite_b (fun e2 => fall) fun e2 => ?_⟩⟩
    unfold b_Lname_1
    trivial
    exact q z M3 nm (of_decide_eq_false e) (of_decide_eq_false e2) s3 f3
  · refine ⟨[], put_same, by simp [rng_len], by simp, ?_, Fr.refl.put ht⟩
    rw [rng_len]
    exact (s1.less (by omega)).put t1 t2
theorem names_ok : ∀ ws M Q E, spNames ws M Q E → wSs ⟨[cName], []⟩ b_Lnames (endOf Q E) (start2 p_Lnames.N ws) M := by
  intro ws M Q E h
  obtain ⟨st, sc, c, n, ts, rfl, hl, s, q⟩ := h
  show wSs _ b_Lnames_4 (endOf Q E) [some (.c st), some (.d (.int (n : Int))), some (.d (.lst (sD ts))), none, none] M
  unfold b_Lnames_4
  trivial
  refine ⟨by decide, fun p hp => ?_⟩
  obtain ⟨p1, p2⟩ := s.new hp
  unfold b_Lnames_3
  trivial
  refine ⟨_, rfl, by omega, by omega, ?_⟩
  rw [Int.toNat_natCast]
  refine for_run (fun r σ M' => ∃ (ns : List Str) (o : Option W), σ = [some (.c st), some (.d (.int (n : Int))), some (.d (.lst (sD ts))), some (.c p), o] ∧ M' p = some (.lst (sW ns)) ∧ ns.length + r.length = n ∧ (∀ s ∈ ns, Nm s ∧ s ∉ ts ∧ s ∉ resv) ∧ ns.Nodup ∧ Strm st sc (c + 9 * r.length) M' ∧ Fr st sc M M') (fun w r σ M1 K i k => ?_) (fun σ M1 i => ?_) _ _ _ ?_
  · obtain ⟨ns, o, rfl, e1, e2, e3, e4, s1, f1⟩ := i
    rw [List.length_cons] at e2
    refine ⟨trivial, ?_⟩
    unfold b_Lnames_0
    trivial
    refine ⟨⟨_, listC e1⟩, rfl, _, _, rfl, listC e1, ?_, sD (ts ++ ns), ?_, ?_⟩
    · rw [List.length_map]
      unfold sD sW
      rw [List.length_map, List.length_map]
      exact small (by omega)
    · show unD ((sD ts).map W.d ++ sW ns) = _
      rw [sD_W, show sW ts ++ sW ns = (sD (ts ++ ns)).map W.d by rw [sD_W]; unfold sW; rw [List.map_append]]
      exact unD_map _
    refine ⟨st, sc, c + 9 * r.length, _, ts ++ ns, rfl, fun M' _ => by rw [← sD_W]; rfl, by rw [List.length_append]; omega, s1.less (by rw [List.length_cons]; omega), fun y M2 y1 y2 y3 s2 f2 => ?_⟩
    refine appC (f2 p p1 p2 _ e1) ?_ ?_
    · unfold sW
      rw [List.length_map]
      exact Nat.lt_of_lt_of_le (by omega : ns.length < 1000) (small (Nat.le_refl _))
    · skip
      have yn : y ∉ ts ∧ y ∉ ns := by simpa using y2
      refine k _ _ ⟨ns ++ [y], _, rfl, ?_, ?_, ?_, ?_, s2.put p1 p2, (f1.trans f2).put hp⟩
      · rw [put_same]; unfold sW; rw [List.map_append]; rfl
      · rw [List.length_append, List.length_singleton]; omega
      · intro z hz
        rcases List.mem_append.mp hz with hz | hz
        · exact e3 z hz
        · have : z = y := by simpa using hz
          subst this
          exact ⟨y1, yn.1, y3⟩
      · rw [List.nodup_append]
        refine ⟨e4, by simp, fun a ha b hb => ?_⟩
        have : b = y := by simpa using hb
        subst this
        exact fun e => yn.2 (by rw [← e]; exact ha)
  · obtain ⟨ns, o, rfl, e1, e2, e3, e4, s1, f1⟩ := i
    refine ⟨trivial, ?_⟩
    unfold b_Lnames_2
    trivial
    refine ⟨p, _, sD ns, rfl, e1, by rw [← sD_W]; exact unD_map _, ?_⟩
    unfold b_Lnames_1
    trivial
    exact q ns _ (by rw [List.length_nil] at e2; omega) e3 e4 ((s1.less (by omega)).del p1 p2) (f1.del hp)
  · refine ⟨[], none, rfl, put_same, by rw [rng_len]; simp, by simp, List.nodup_nil, ?_, Fr.refl.put hp⟩
    rw [rng_len]
    exact s.put p1 p2
end
end Z
set_option maxHeartbeats 8000000
/-! C35: rows that fall -/
namespace Z
open PySem PySem.Spec PyProof.Rows L2
local macro_rules
  | `(tactic| trivial) => `(tactic| simp only [wE_var, wE_cst, wE_bin, wE_cmp, wE_chain, wE_and, wE_or, wE_not, wE_ife, wE_tup, wE_lst, wE_ix, wE_sl, wE_neg, wE_blt, wE_bm, wE_lc, wT_cmp, wT_chain, wT_and, wT_or, wT_not, wT_var, wT_ix, wT_blt, wT_call, wA_nil, wA_cons, wAnds_nil, wAnds_cons, wOrs_nil, wOrs_cons, wAndsT_nil, wAndsT_cons, wOrsT_nil, wOrsT_cons, wO_nil, wO_cons, wC1_nil, wC1_cons, wI_seq, wI_sgn, wI_rng1, wI_rng2, r_BO_add, r_BO_sub, r_BO_mul, r_BO_fdiv, r_BO_mod, r_BO_pow, r_CO_lt, r_CO_le, r_CO_gt, r_CO_ge, r_CO_eq, r_CO_ne, r_CO_in_, r_CO_nin, r_CO_is_, r_CO_isn, r_BI_len, r_BI_list, r_BI_tuple, r_BI_int, r_BI_str, r_BI_repr, r_BM_append, r_BM_popAt, r_BM_extend, r_BM_join, ok_append, ok_popAt, ok_extend, ok_join, cn_non, cn_bool_b, cn_int_i, cn_str_s, wS_pass, wS_brk, wS_cont, wS_ret, wS_retN, wS_ex, wS_asg, wS_par, wS_iff, wS_aug, wS_whl, wS_for, wSs_nil, wTg_name, wTg_tup, wTg_lst, wTg_sub, wTs_nil, wTs_cons, wSs_cons, wSs_frz, wVar_0, wVar_s, wE_call, wE_glob, cF_some, gF_some, wCall, List.getElem?_cons_zero, List.getElem?_cons_succ, exists_eq_left, ite_ff_l, wBin, wC, wT, wAndT, wOrT, wNotT, wTru, wIf, wAndV, wOrV, wNotV, wNil, wCons, wTup, wLst, wSl, wCB, wBM, wNoP, wPart, wYes, wgName, wgTup, wgLst, wgSub, wgNil, wgCons, wNext, wRet, wRetN, wExpr, wAsg, wIfS, wBreak, wCont, wPar, wAugI, wFrz, List.set_cons_zero, List.set_cons_succ, List.length_cons, List.length_nil, List.append_nil, if_true_l, wLc, wiSeq, wiRng1, wiRng2, wiStr, wipe2, wFor])
def p_falls : Par := ⟨["one", "other", "taken", "added", "at"], [], [], ["len"]⟩
def b_falls_0 : Ss := .cons (.ret (.cmp .lt (.ix (.var 1) (.var 4)) (.ix (.var 0) (.var 4)))) .nil
def b_falls_1 : Ss := .cons (.iff (.cmp .ne (.ix (.var 0) (.var 4)) (.ix (.var 1) (.var 4))) b_falls_0 .nil) .nil
def b_falls_2 : Ss := .cons (.ret (.cst (.bool false))) .nil
def b_falls_3 : Ss := .cons (.ret (.cst (.bool true))) .nil
def b_falls_4 : Ss := .cons (.iff (.cmp .in_ (.ix (.var 0) (.var 4)) (.var 2)) b_falls_3 .nil) .nil
def b_falls_5 : Ss := .cons (.iff (.or (.cmp .ne (.ix (.var 0) (.var 4)) (.ix (.var 1) (.var 4))) (.cons (.cmp .in_ (.ix (.var 0) (.var 4)) (.var 3)) .nil)) b_falls_2 .nil) b_falls_4
def b_falls_6 : Ss := .cons (.aug true 4 (.cst (.int 1))) .nil
def b_falls_7 : Ss := .cons (.iff (.cmp .eq (.bin .mod (.var 4) (.cst (.int 2))) (.cst (.int 0))) b_falls_1 b_falls_5) b_falls_6
def b_falls_8 : Ss := .cons (.ret (.cst (.bool false))) .nil
def b_falls_9 : Ss := .cons (.whl (.and (.cmp .lt (.var 4) (.blt .len (.cons (.var 0) .nil))) (.cons (.cmp .lt (.var 4) (.blt .len (.cons (.var 1) .nil))) .nil)) b_falls_7) b_falls_8
def b_falls_10 : Ss := .cons (.asg (.name 4) (.cst (.int 0))) b_falls_9
def b_falls : Ss := b_falls_10

def p_Lfalls : Par := ⟨["_law_one", "_law_other", "_law_taken", "_law_added", "_law_k"], [], [], ["len"]⟩
def b_Lfalls_0 : Ss := .cons (.ret (.cst (.bool false))) .nil
def b_Lfalls_1 : Ss := .cons (.ret (.cst (.bool true))) .nil
def b_Lfalls_2 : Ss := .cons (.iff (.cmp .in_ (.ix (.var 0) (.var 4)) (.var 2)) b_Lfalls_1 .nil) .nil
def b_Lfalls_3 : Ss := .cons (.iff (.or (.cmp .ne (.ix (.var 0) (.var 4)) (.ix (.var 1) (.var 4))) (.cons (.cmp .in_ (.ix (.var 0) (.var 4)) (.var 3)) .nil)) b_Lfalls_0 .nil) b_Lfalls_2
def b_Lfalls_4 : Ss := .cons (.ret (.cmp .lt (.ix (.var 1) (.var 4)) (.ix (.var 0) (.var 4)))) .nil
def b_Lfalls_5 : Ss := .cons (.iff (.cmp .ne (.ix (.var 0) (.var 4)) (.ix (.var 1) (.var 4))) b_Lfalls_4 .nil) .nil
def b_Lfalls_6 : Ss := .cons (.asg (.name 4) (.bin (.add false) (.var 4) (.cst (.int 1)))) .nil
def b_Lfalls_7 : Ss := .cons (.iff (.cmp .eq (.bin .mod (.var 4) (.cst (.int 2))) (.cst (.int 1))) b_Lfalls_3 b_Lfalls_5) b_Lfalls_6
def b_Lfalls_8 : Ss := .cons (.ret (.cst (.bool false))) .nil
def b_Lfalls_9 : Ss := .cons (.whl (.and (.cmp .lt (.var 4) (.blt .len (.cons (.var 0) .nil))) (.cons (.cmp .lt (.var 4) (.blt .len (.cons (.var 1) .nil))) .nil)) b_Lfalls_7) b_Lfalls_8
def b_Lfalls_10 : Ss := .cons (.asg (.name 4) (.cst (.int 0))) b_Lfalls_9
def b_Lfalls : Ss := b_Lfalls_10

def p_Lrow : Par := ⟨["_law_stream", "_law_names_here", "_law_row_here", "_law_k"], ["_law_draw", "_law_pick"], [], ["range"]⟩
def b_Lrow_0 : Ss := .cons (.asg (.name 2) (.bin (.add false) (.var 2) (.lst false (.cons (.call 1 (.cons (.var 0) (.cons (.var 1) .nil))) (.cons (.call 0 (.cons (.var 0) (.cons (.cst (.int 3)) .nil))) .nil))))) .nil
def b_Lrow_1 : Ss := .cons (.ret (.var 2)) .nil
def b_Lrow_2 : Ss := .cons (.for (.name 3) (.rng1 (.call 0 (.cons (.var 0) (.cons (.cst (.int 4)) .nil)))) b_Lrow_0) b_Lrow_1
def b_Lrow_3 : Ss := .cons (.asg (.name 2) (.lst false (.cons (.call 0 (.cons (.var 0) (.cons (.cst (.int 3)) .nil))) .nil))) b_Lrow_2
def b_Lrow : Ss := b_Lrow_3

def p_Lvaried : Par := ⟨["_law_stream", "_law_row_here", "_law_names_here", "_law_at", "_law_other", "_law_way"], ["_law_draw", "_law_row", "_law_pick"], [], ["list", "len"]⟩
def b_Lvaried_0 : Ss := .cons (.ret (.call 1 (.cons (.var 0) (.cons (.var 2) .nil)))) .nil
def b_Lvaried_1 : Ss := .cons (.ret (.bin (.add false) (.var 4) (.lst false (.cons (.call 2 (.cons (.var 0) (.cons (.var 2) .nil))) (.cons (.call 0 (.cons (.var 0) (.cons (.cst (.int 3)) .nil))) .nil))))) .nil
def b_Lvaried_2 : Ss := .cons (.ret (.sl false (.var 4) .nil (.cons (.neg (.cst (.int 2))) .nil))) .nil
def b_Lvaried_3 : Ss := .cons (.ret (.var 4)) .nil
def b_Lvaried_4 : Ss := .frz 4 b_Lvaried_3
def b_Lvaried_5 : Ss := .cons (.asg (.sub (.var 4) (.var 3)) (.ife (.cmp .eq (.bin .mod (.var 3) (.cst (.int 2))) (.cst (.int 1))) (.call 2 (.cons (.var 0) (.cons (.var 2) .nil))) (.call 0 (.cons (.var 0) (.cons (.cst (.int 4)) .nil))))) b_Lvaried_4
def b_Lvaried_6 : Ss := .cons (.asg (.name 3) (.call 0 (.cons (.var 0) (.cons (.blt .len (.cons (.var 1) .nil)) .nil)))) b_Lvaried_5
def b_Lvaried_7 : Ss := .cons (.iff (.and (.cmp .eq (.var 5) (.cst (.int 2))) (.cons (.cmp .gt (.blt .len (.cons (.var 1) .nil)) (.cst (.int 2))) .nil)) b_Lvaried_2 .nil) b_Lvaried_6
def b_Lvaried_8 : Ss := .cons (.iff (.cmp .eq (.var 5) (.cst (.int 1))) b_Lvaried_1 .nil) b_Lvaried_7
def b_Lvaried_9 : Ss := .cons (.iff (.cmp .eq (.var 5) (.cst (.int 0))) b_Lvaried_0 .nil) b_Lvaried_8
def b_Lvaried_10 : Ss := .cons (.par 4 5 (.blt (.list true) (.cons (.var 1) .nil)) (.call 0 (.cons (.var 0) (.cons (.cst (.int 6)) .nil)))) b_Lvaried_9
def b_Lvaried : Ss := b_Lvaried_10

def p_law : Par := ⟨["_law_script", "_law_stream", "_law_turn", "_law_names_here", "_law_one", "_law_other", "_law_others", "_law_taken", "_law_added", "_law_rows", "_law_first", "_law_second", "_law_due"], ["_law_names", "_law_draw", "_law_row", "_law_varied", "_law_mixed", "_law_some", "_law_falls", "_law_same", "falls"], [], ["list", "range", "tuple"]⟩
def b_law_0 : Ss := .cons (.asg (.name 9) (.lst false (.cons (.blt .tuple (.cons (.var 4) .nil)) (.cons (.blt .tuple (.cons (.var 5) .nil)) .nil)))) .nil
def b_law_1 : Ss := .cons (.ret (.cst (.bool false))) .nil
def b_law_2 : Ss := .cons (.iff (.not (.call 7 (.cons (.call 8 (.cons (.ix (.var 9) (.var 10)) (.cons (.ix (.var 9) (.var 11)) (.cons (.var 7) (.cons (.var 8) .nil))))) (.cons (.var 12) .nil)))) b_law_1 .nil) .nil
def b_law_3 : Ss := .cons (.asg (.name 12) (.call 6 (.cons (.ix (.lst false (.cons (.var 4) (.cons (.var 5) .nil))) (.var 10)) (.cons (.ix (.lst false (.cons (.var 4) (.cons (.var 5) .nil))) (.var 11)) (.cons (.var 7) (.cons (.var 8) .nil)))))) b_law_2
def b_law_4 : Ss := .cons (.ret (.cst (.bool false))) .nil
def b_law_5 : Ss := .cons (.iff (.not (.call 7 (.cons (.lst false (.cons (.blt (.list false) (.cons (.ix (.var 9) (.cst (.int 0))) .nil)) (.cons (.blt (.list false) (.cons (.ix (.var 9) (.cst (.int 1))) .nil)) .nil))) (.cons (.lst false (.cons (.var 4) (.cons (.var 5) .nil))) .nil)))) b_law_4 .nil) .nil
def b_law_6 : Ss := .cons (.for (.tup [10, 11]) (.seq (.lst false (.cons (.tup (.cons (.cst (.int 0)) (.cons (.cst (.int 1)) .nil))) (.cons (.tup (.cons (.cst (.int 1)) (.cons (.cst (.int 0)) .nil))) (.cons (.tup (.cons (.cst (.int 0)) (.cons (.cst (.int 0)) .nil))) .nil))))) b_law_3) b_law_5
def b_law_7 : Ss := .cons (.iff (.cmp .eq (.call 1 (.cons (.var 1) (.cons (.cst (.int 2)) .nil))) (.cst (.int 0))) b_law_0 .nil) b_law_6
def b_law_8 : Ss := .cons (.asg (.name 9) (.lst false (.cons (.blt (.list false) (.cons (.var 4) .nil)) (.cons (.blt (.list false) (.cons (.var 5) .nil)) .nil)))) b_law_7
def b_law_9 : Ss := .cons (.asg (.name 8) (.ife (.cmp .eq (.call 1 (.cons (.var 1) (.cons (.cst (.int 2)) .nil))) (.cst (.int 0))) (.blt .tuple (.cons (.var 8) .nil)) (.var 8))) b_law_8
def b_law_10 : Ss := .cons (.asg (.name 7) (.ife (.cmp .eq (.call 1 (.cons (.var 1) (.cons (.cst (.int 2)) .nil))) (.cst (.int 0))) (.blt .tuple (.cons (.var 7) .nil)) (.var 7))) b_law_9
def b_law_11 : Ss := .cons (.asg (.name 8) (.call 4 (.cons (.var 1) (.cons (.call 5 (.cons (.var 1) (.cons (.var 6) (.cons (.cst (.int 3)) .nil)))) .nil)))) b_law_10
def b_law_12 : Ss := .cons (.asg (.name 7) (.call 4 (.cons (.var 1) (.cons (.call 5 (.cons (.var 1) (.cons (.var 6) (.cons (.cst (.int 2)) .nil)))) .nil)))) b_law_11
def b_law_13 : Ss := .cons (.asg (.name 6) (.bin (.add false) (.var 3) (.call 0 (.cons (.var 1) (.cons (.cst (.int 1)) (.cons (.var 3) .nil)))))) b_law_12
def b_law_14 : Ss := .cons (.asg (.name 5) (.call 3 (.cons (.var 1) (.cons (.var 4) (.cons (.var 3) .nil))))) b_law_13
def b_law_15 : Ss := .cons (.asg (.name 4) (.call 2 (.cons (.var 1) (.cons (.var 3) .nil)))) b_law_14
def b_law_16 : Ss := .cons (.asg (.name 3) (.call 0 (.cons (.var 1) (.cons (.bin (.add false) (.cst (.int 1)) (.call 1 (.cons (.var 1) (.cons (.cst (.int 3)) .nil)))) (.cons (.lst false .nil) .nil))))) b_law_15
def b_law_17 : Ss := .cons (.ret (.cst (.bool false))) .nil
def b_law_18 : Ss := .cons (.ret (.and (.call 8 (.cons (.tup (.cons (.cst (.int 1)) .nil)) (.cons (.tup (.cons (.cst (.int 0)) .nil)) (.cons (.tup .nil) (.cons (.tup .nil) .nil))))) (.cons (.call 8 (.cons (.tup (.cons (.cst (.int 0)) (.cons (.cst (.str "x")) (.cons (.cst (.int 0)) .nil)))) (.cons (.tup (.cons (.cst (.int 0)) (.cons (.cst (.str "x")) (.cons (.cst (.int 9)) .nil)))) (.cons (.lst false (.cons (.cst (.str "x")) .nil)) (.cons (.lst false .nil) .nil))))) .nil))) .nil
def b_law_19 : Ss := .cons (.iff (.or (.call 8 (.cons (.tup (.cons (.cst (.int 0)) .nil)) (.cons (.tup (.cons (.cst (.int 0)) .nil)) (.cons (.tup .nil) (.cons (.tup .nil) .nil))))) (.cons (.call 8 (.cons (.tup (.cons (.cst (.int 0)) (.cons (.cst (.str "x")) (.cons (.cst (.int 0)) .nil)))) (.cons (.tup (.cons (.cst (.int 0)) .nil)) (.cons (.lst false (.cons (.cst (.str "x")) .nil)) (.cons (.lst false .nil) .nil))))) .nil)) b_law_17 .nil) b_law_18
def b_law_20 : Ss := .cons (.for (.name 2) (.rng1 (.cst (.int 6))) b_law_16) b_law_19
def b_law_21 : Ss := .cons (.asg (.name 1) (.lst true (.cons (.blt (.list true) (.cons (.var 0) .nil)) (.cons (.cst (.int 0)) (.cons (.cst (.int 0)) (.cons (.cst (.int 0)) .nil)))))) b_law_20
def b_law : Ss := b_law_21


/-! ### rows -/
def RowOk (r : List D) : Prop := ∀ (i : Nat) (d : D), r[i]? = some d → if i % 2 = 0 then ∃ n : Int, d = .int n ∧ 0 ≤ n ∧ n < 10 else ∃ s : Str, d = .str s ∧ Nm s
theorem RowOk.int {r : List D} (h : RowOk r) {i : Nat} (hi : i < r.length) (e : i % 2 = 0) : ∃ n : Int, r[i] = .int n ∧ 0 ≤ n ∧ n < 10 := by
  have := h i _ (List.getElem?_eq_getElem hi)
  rwa [if_pos e] at this
theorem RowOk.str {r : List D} (h : RowOk r) {i : Nat} (hi : i < r.length) (e : ¬ i % 2 = 0) : ∃ s : Str, r[i] = .str s ∧ Nm s := by
  have := h i _ (List.getElem?_eq_getElem hi)
  rwa [if_neg e] at this
theorem RowOk.take {r : List D} (h : RowOk r) (k : Nat) : RowOk (r.take k) := fun i d e => by
  rw [List.getElem?_take] at e
  split at e
  · exact h i d e
  · cases e
theorem RowOk.more {r : List D} (h : RowOk r) (hl : r.length % 2 = 1) {s : Str} {n : Int} (hs : Nm s) (h0 : 0 ≤ n) (h1 : n < 10) : RowOk (r ++ [.str s, .int n]) := fun i d e => by
  rw [List.getElem?_append] at e
  split at e
  · exact h i d e
  · rename_i hi
    have hi : i = r.length ∨ i = r.length + 1 ∨ r.length + 2 ≤ i := by omega
    rcases hi with rfl | rfl | hi
    · rw [Nat.sub_self] at e
      cases e
      rw [if_neg (by omega)]
      exact ⟨s, rfl, hs⟩
    · rw [Nat.add_sub_cancel_left] at e
      cases e
      rw [if_pos (by omega)]
      exact ⟨n, rfl, h0, h1⟩
    · rw [List.getElem?_eq_none (by simp; omega)] at e
      cases e
theorem RowOk.set {r : List D} (h : RowOk r) {k : Nat} {x : D} (hx : if k % 2 = 0 then ∃ n : Int, x = .int n ∧ 0 ≤ n ∧ n < 10 else ∃ s : Str, x = .str s ∧ Nm s) : RowOk (r.set k x) := fun i d e => by
  rw [List.getElem?_set] at e
  split at e
  · rename_i hk
    subst hk
    split at e
    · cases e; exact hx
    · cases e
  · exact h i d e
/-- the answer -/
def fal (tk ad : List Str) : Bool → List D → List D → Bool
  | true, .int a :: r, .int b :: q => if a == b then fal tk ad false r q else decide (b < a)
  | false, .str a :: r, .str b :: q => if !(a == b) then false else if decide (a ∈ ad) then false else if decide (a ∈ tk) then true else fal tk ad true r q
  | _, _, _ => false
theorem fal_nil1 {tk ad : List Str} {p : Bool} {q : List D} : fal tk ad p [] q = false := by
  cases p <;> rfl
theorem fal_nil2 {tk ad : List Str} {p : Bool} {r : List D} : fal tk ad p r [] = false := by
  cases p <;> cases r with
  | nil => rfl
  | cons d r => cases d <;> rfl
def spFalls : Sp2 := fun ws M Q _ => ∃ (x y t a : W) (r q : List D) (tk ad : List Str), ws = [x, y, t, a] ∧ seqW M x = some (r.map W.d) ∧ seqW M y = some (q.map W.d) ∧ seqW M t = some (sW tk) ∧ seqW M a = some (sW ad) ∧ RowOk r ∧ RowOk q ∧ Q (.d (.bool (fal tk ad true r q))) M
def spRow : Sp2 := fun ws M Q _ => ∃ (st sc : Addr) (c : Nat) (ns : List Str), ws = [.c st, .d (.lst (sD ns))] ∧ ns ≠ [] ∧ ns.length ≤ 20 ∧ (∀ s ∈ ns, Nm s) ∧ Strm st sc (c + 8) M ∧ ∀ (r : List D) M', RowOk r → r.length % 2 = 1 → r.length ≤ 7 → Strm st sc c M' → Fr st sc M M' → Q (.d (.lst r)) M'
def spVaried : Sp2 := fun ws M Q _ => ∃ (st sc : Addr) (c : Nat) (r : List D) (ns : List Str), ws = [.c st, .d (.lst r), .d (.lst (sD ns))] ∧ ns ≠ [] ∧ ns.length ≤ 20 ∧ (∀ s ∈ ns, Nm s) ∧ RowOk r ∧ r.length % 2 = 1 ∧ r.length ≤ 7 ∧ Strm st sc (c + 9) M ∧ ∀ (q : List D) M', RowOk q → q.length ≤ 9 → Strm st sc c M' → Fr st sc M M' → Q (.d (.lst q)) M'
abbrev cFalls : Cal := ⟨"falls", spFalls, []⟩
abbrev cLFalls : Cal := ⟨"_law_falls", spFalls, []⟩
abbrev cRow : Cal := ⟨"_law_row", spRow, []⟩
abbrev cVaried : Cal := ⟨"_law_varied", spVaried, []⟩
section
theorem at_map {r : List D} {k : Nat} (h : k < r.length) : atI (r.map W.d) (k : Int) = some (.d r[k]) := atI_n (by rw [List.getElem?_map, List.getElem?_eq_getElem h]; rfl)
theorem ev_even {k : Nat} (h : k % 2 = 0) : ((k : Int) % 2 == 0) = true := by
  have : (k : Int) % 2 = 0 := by omega
  rw [this]; rfl
theorem ev_odd {k : Nat} (h : ¬ k % 2 = 0) : ((k : Int) % 2 == 0) = false := by
  have : (k : Int) % 2 = 1 := by omega
  rw [this]; rfl
theorem od_even {k : Nat} (h : k % 2 = 0) : ((k : Int) % 2 == 1) = false := by
  have : (k : Int) % 2 = 0 := by omega
  rw [this]; rfl
theorem od_odd {k : Nat} (h : ¬ k % 2 = 0) : ((k : Int) % 2 == 1) = true := by
  have : (k : Int) % 2 = 1 := by omega
  rw [this]; rfl
/-- what holds ahead of the k-th turn -/
def fInv (tk ad : List Str) (r q : List D) (k : Nat) : Prop := k ≤ r.length ∧ fal tk ad (decide (k % 2 = 0)) (r.drop k) (q.drop k) = fal tk ad true r q
theorem fInv.even {tk ad : List Str} {r q : List D} {k : Nat} (h : fInv tk ad r q k) (h1 : k < r.length) (h2 : k < q.length) (e : k % 2 = 0) {a b : Int} (ea : r[k] = .int a) (eb : q[k] = .int b) :
    (if a == b then fal tk ad false (r.drop (k + 1)) (q.drop (k + 1)) else decide (b < a)) = fal tk ad true r q := by
  rw [← h.2, List.drop_eq_getElem_cons h1, List.drop_eq_getElem_cons h2, ea, eb, decide_eq_true e]
  rfl
theorem fInv.odd {tk ad : List Str} {r q : List D} {k : Nat} (h : fInv tk ad r q k) (h1 : k < r.length) (h2 : k < q.length) (e : ¬ k % 2 = 0) {a b : Str} (ea : r[k] = .str a) (eb : q[k] = .str b) :
    (if !(a == b) then false else if decide (a ∈ ad) then false else if decide (a ∈ tk) then true else fal tk ad true (r.drop (k + 1)) (q.drop (k + 1))) = fal tk ad true r q := by
  rw [← h.2, List.drop_eq_getElem_cons h1, List.drop_eq_getElem_cons h2, ea, eb, decide_eq_false e]
  rfl
theorem fInv.end1 {tk ad : List Str} {r q : List D} {k : Nat} (h : fInv tk ad r q k) (h1 : ¬ k < r.length) : fal tk ad true r q = false := by
  rw [← h.2, List.drop_eq_nil_of_le (by omega)]; exact fal_nil1
theorem fInv.end2 {tk ad : List Str} {r q : List D} {k : Nat} (h : fInv tk ad r q k) (h1 : ¬ k < q.length) : fal tk ad true r q = false := by
  rw [← h.2, List.drop_eq_nil_of_le (as := q) (by omega)]; exact fal_nil2
theorem falls_ok : ∀ ws M Q E, spFalls ws M Q E → wSs ⟨[], []⟩ b_falls (endOf Q E) (start2 p_falls.N ws) M := by
  intro ws M Q E h
  obtain ⟨x, y, t, a, r, q, tk, ad, rfl, hx, hy, ht, ha, okr, okq, hq⟩ := h
  show wSs _ b_falls_10 (endOf Q E) [some x, some y, some t, some a, none] M
  unfold b_falls_10
  trivial
  unfold b_falls_9
  trivial
  refine while_run (fun n σ M' => M' = M ∧ ∃ k : Nat, n = r.length - k ∧ σ = [some x, some y, some t, some a, some (.d (.int (k : Int)))] ∧ fInv tk ad r q k) (fun n σ M' K i kk => ?_) (r.length - 0) _ _ ⟨rfl, 0, rfl, rfl, Nat.zero_le _, rfl⟩
  obtain ⟨rfl, k, rfl, rfl, iv⟩ := i
  trivial
  refine lenS hx (ltI ⟨_, rfl, ite_b (fun e1 => ?_) fun e1 => ?_⟩)
  rotate_left
  · have e1 : ¬ k < r.length := by have := of_decide_eq_false e1; simpa using this
    unfold b_falls_8
    trivial
    rw [iv.end1 e1] at hq
    exact hq
  have e1 : k < r.length := by have := of_decide_eq_true e1; simpa using this
  refine lenS hy (ltI ⟨_, rfl, ite_b (fun e2 => ?_) fun e2 => ?_⟩)
  rotate_left
  · have e2 : ¬ k < q.length := by have := of_decide_eq_false e2; simpa using this
    unfold b_falls_8
    trivial
    rw [iv.end2 e2] at hq
    exact hq
  have e2 : k < q.length := by have := of_decide_eq_true e2; simpa using this
  unfold b_falls_7
  trivial
  refine modI (by decide) (eqI ⟨_, rfl, ite_b (fun e3 => ?_) fun e3 => ?_⟩)
  · have e3 : k % 2 = 0 := Classical.byContradiction fun z => by rw [ev_odd z] at e3; cases e3
    obtain ⟨a1, ea, _⟩ := okr.int e1 e3
    obtain ⟨b1, eb, _⟩ := okq.int e2 e3
    have nx := iv.even e1 e2 e3 ea eb
    unfold b_falls_1
    trivial
    have ga := at_map e1
    have gb := at_map e2
    rw [ea] at ga
    rw [eb] at gb
    refine ixS hx ga (ixS hy gb (neI ⟨_, rfl, ite_b (fun e4 => ?_) fun e4 => ?_⟩))
    · unfold b_falls_0
      trivial
      refine ixS hy gb (ixS hx ga (ltI ?_))
      have e5 : (a1 == b1) = false := by simpa using e4
      rw [if_neg (by rw [e5]; exact Bool.false_ne_true)] at nx
      rw [← nx] at hq
      exact hq
    · have e5 : (a1 == b1) = true := by simpa using e4
      rw [if_pos e5] at nx
      unfold b_falls_6
      trivial
      refine ⟨_, rfl, _, rfl, ?_⟩
      refine kk (r.length - (k + 1)) _ _ (by omega) ⟨rfl, k + 1, rfl, rfl, by omega, ?_⟩
      rw [decide_eq_false (show ¬ (k + 1) % 2 = 0 by omega)]
      exact nx
  · have e3 : ¬ k % 2 = 0 := fun z => by rw [ev_even z] at e3; cases e3
    obtain ⟨a1, ea, _⟩ := okr.str e1 e3
    obtain ⟨b1, eb, _⟩ := okq.str e2 e3
    have nx := iv.odd e1 e2 e3 ea eb
    unfold b_falls_5
    trivial
    have ga := at_map e1
    have gb := at_map e2
    rw [ea] at ga
    rw [eb] at gb
    refine ixS hx ga (ixS hy gb (neS ⟨_, rfl, ite_b (fun e4 => ?_) fun e4 => ?_⟩))
    · unfold b_falls_2
      trivial
      rw [if_pos e4] at nx
      rw [← nx] at hq
      exact hq
    rw [if_neg (by rw [e4]; exact Bool.false_ne_true)] at nx
    refine ixS hx ga (inS ha ⟨_, rfl, ite_b (fun e5 => ?_) fun e5 => ?_⟩)
    · unfold b_falls_2
      trivial
      rw [if_pos e5] at nx
      rw [← nx] at hq
      exact hq
    rw [if_neg (by rw [e5]; exact Bool.false_ne_true)] at nx
    unfold b_falls_4
    trivial
    refine ixS hx ga (inS ht ⟨_, rfl, ite_b (fun e6 => ?_) fun e6 => ?_⟩)
    · unfold b_falls_3
      trivial
      rw [if_pos e6] at nx
      rw [← nx] at hq
      exact hq
    rw [if_neg (by rw [e6]; exact Bool.false_ne_true)] at nx
    unfold b_falls_6
    trivial
    refine ⟨_, rfl, _, rfl, ?_⟩
    refine kk (r.length - (k + 1)) _ _ (by omega) ⟨rfl, k + 1, rfl, rfl, by omega, ?_⟩
    rw [decide_eq_true (show (k + 1) % 2 = 0 by omega)]
    exact nx
theorem lfalls_ok : ∀ ws M Q E, spFalls ws M Q E → wSs ⟨[], []⟩ b_Lfalls (endOf Q E) (start2 p_Lfalls.N ws) M := by
  intro ws M Q E h
  obtain ⟨x, y, t, a, r, q, tk, ad, rfl, hx, hy, ht, ha, okr, okq, hq⟩ := h
  show wSs _ b_Lfalls_10 (endOf Q E) [some x, some y, some t, some a, none] M
  unfold b_Lfalls_10
  trivial
  unfold b_Lfalls_9
  trivial
  refine while_run (fun n σ M' => M' = M ∧ ∃ k : Nat, n = r.length - k ∧ σ = [some x, some y, some t, some a, some (.d (.int (k : Int)))] ∧ fInv tk ad r q k) (fun n σ M' K i kk => ?_) (r.length - 0) _ _ ⟨rfl, 0, rfl, rfl, Nat.zero_le _, rfl⟩
  obtain ⟨rfl, k, rfl, rfl, iv⟩ := i
  trivial
  refine lenS hx (ltI ⟨_, rfl, ite_b (fun e1 => ?_) fun e1 => ?_⟩)
  rotate_left
  · have e1 : ¬ k < r.length := by have := of_decide_eq_false e1; simpa using this
    unfold b_Lfalls_8
    trivial
    rw [iv.end1 e1] at hq
    exact hq
  have e1 : k < r.length := by have := of_decide_eq_true e1; simpa using this
  refine lenS hy (ltI ⟨_, rfl, ite_b (fun e2 => ?_) fun e2 => ?_⟩)
  rotate_left
  · have e2 : ¬ k < q.length := by have := of_decide_eq_false e2; simpa using this
    unfold b_Lfalls_8
    trivial
    rw [iv.end2 e2] at hq
    exact hq
  have e2 : k < q.length := by have := of_decide_eq_true e2; simpa using this
  unfold b_Lfalls_7
  trivial
  refine modI (by decide) (eqI ⟨_, rfl, ite_b (fun e3 => ?_) fun e3 => ?_⟩)
  rotate_left
  · have e3 : k % 2 = 0 := Classical.byContradiction fun z => by rw [od_odd z] at e3; cases e3
    obtain ⟨a1, ea, _⟩ := okr.int e1 e3
    obtain ⟨b1, eb, _⟩ := okq.int e2 e3
    have nx := iv.even e1 e2 e3 ea eb
    unfold b_Lfalls_5
    trivial
    have ga := at_map e1
    have gb := at_map e2
    rw [ea] at ga
    rw [eb] at gb
    refine ixS hx ga (ixS hy gb (neI ⟨_, rfl, ite_b (fun e4 => ?_) fun e4 => ?_⟩))
    · unfold b_Lfalls_4
      trivial
      refine ixS hy gb (ixS hx ga (ltI ?_))
      have e5 : (a1 == b1) = false := by simpa using e4
      rw [if_neg (by rw [e5]; exact Bool.false_ne_true)] at nx
      rw [← nx] at hq
      exact hq
    · have e5 : (a1 == b1) = true := by simpa using e4
      rw [if_pos e5] at nx
      unfold b_Lfalls_6
      trivial
      refine addI ?_
      refine kk (r.length - (k + 1)) _ _ (by omega) ⟨rfl, k + 1, rfl, rfl, by omega, ?_⟩
      rw [decide_eq_false (show ¬ (k + 1) % 2 = 0 by omega)]
      exact nx
  · have e3 : ¬ k % 2 = 0 := fun z => by rw [od_even z] at e3; cases e3
    obtain ⟨a1, ea, _⟩ := okr.str e1 e3
    obtain ⟨b1, eb, _⟩ := okq.str e2 e3
    have nx := iv.odd e1 e2 e3 ea eb
    unfold b_Lfalls_3
    trivial
    have ga := at_map e1
    have gb := at_map e2
    rw [ea] at ga
    rw [eb] at gb
    refine ixS hx ga (ixS hy gb (neS ⟨_, rfl, ite_b (fun e4 => ?_) fun e4 => ?_⟩))
    · unfold b_Lfalls_0
      trivial
      rw [if_pos e4] at nx
      rw [← nx] at hq
      exact hq
    rw [if_neg (by rw [e4]; exact Bool.false_ne_true)] at nx
    refine ixS hx ga (inS ha ⟨_, rfl, ite_b (fun e5 => ?_) fun e5 => ?_⟩)
    · unfold b_Lfalls_0
      trivial
      rw [if_pos e5] at nx
      rw [← nx] at hq
      exact hq
    rw [if_neg (by rw [e5]; exact Bool.false_ne_true)] at nx
    unfold b_Lfalls_2
    trivial
    refine ixS hx ga (inS ht ⟨_, rfl, ite_b (fun e6 => ?_) fun e6 => ?_⟩)
    · unfold b_Lfalls_1
      trivial
      rw [if_pos e6] at nx
      rw [← nx] at hq
      exact hq
    rw [if_neg (by rw [e6]; exact Bool.false_ne_true)] at nx
    unfold b_Lfalls_6
    trivial
    refine addI ?_
    refine kk (r.length - (k + 1)) _ _ (by omega) ⟨rfl, k + 1, rfl, rfl, by omega, ?_⟩
    rw [decide_eq_true (show (k + 1) % 2 = 0 by omega)]
    exact nx
theorem sW_mem {w : W} {ns : List Str} (h : w ∈ sW ns) : ∃ s, w = .d (.str s) ∧ s ∈ ns := by
  obtain ⟨s, hs, rfl⟩ := List.mem_map.mp h
  exact ⟨s, rfl, hs⟩
theorem seqF_s {st sc : Addr} {M : Mp} {ns : List Str} : SeqF st sc M (.d (.lst (sD ns))) (sW ns) := fun M' _ => by rw [← sD_W]; rfl
theorem sW_ne {ns : List Str} (h : ns ≠ []) : sW ns ≠ [] := by
  cases ns with
  | nil => exact absurd rfl h
  | cons _ _ => exact fun z => by cases z
theorem sW_len {ns : List Str} : (sW ns).length = ns.length := by simp [sW]
theorem ixN_n {n j : Nat} (h : j < n) : ixN n (j : Int) = some j := by
  unfold ixN
  rw [if_pos (by omega), if_pos (by omega), Int.toNat_natCast]
theorem row_ok : ∀ ws M Q E, spRow ws M Q E → wSs ⟨[cDraw, cPick], []⟩ b_Lrow (endOf Q E) (start2 p_Lrow.N ws) M := by
  intro ws M Q E h
  obtain ⟨st, sc, c, ns, rfl, hn, hl, nm, s, q⟩ := h
  show wSs _ b_Lrow_3 (endOf Q E) [some (.c st), some (.d (.lst (sD ns))), none, none] M
  unfold b_Lrow_3
  trivial
  refine ⟨st, sc, c + 7, 3, rfl, by decide, by decide, s, fun a M1 ha s1 f1 => ⟨by decide, _, rfl, ?_⟩⟩
  unfold b_Lrow_2
  trivial
  refine ⟨st, sc, c + 6, 4, rfl, by decide, by decide, s1, fun b M2 hb s2 f2 => ⟨_, rfl, by omega, by omega, ?_⟩⟩
  rw [Int.toNat_natCast]
  refine for_run (fun rest σ M' => ∃ (r : List D) (o : Option W), σ = [some (.c st), some (.d (.lst (sD ns))), some (.d (.lst r)), o] ∧ RowOk r ∧ r.length % 2 = 1 ∧ r.length + 2 * rest.length ≤ 7 ∧ Strm st sc (c + 2 * rest.length) M' ∧ Fr st sc M M') (fun w rest σ M3 K i k => ?_) (fun σ M3 i => ?_) _ _ _ ?_
  · obtain ⟨r, o, rfl, i1, i2, i3, s3, f3⟩ := i
    rw [List.length_cons] at i3
    refine ⟨trivial, ?_⟩
    unfold b_Lrow_0
    trivial
    refine ⟨st, sc, c + 2 * rest.length + 1, _, sW ns, rfl, seqF_s, sW_ne hn, by rw [sW_len]; omega, s3.less (by rw [List.length_cons]; omega), fun y M4 hy s4 f4 => ?_⟩
    obtain ⟨z, rfl, hz⟩ := sW_mem hy
    refine ⟨st, sc, c + 2 * rest.length, 3, rfl, by decide, by decide, s4, fun d M5 hd s5 f5 => ⟨by decide, _, rfl, ?_⟩⟩
    refine ⟨rfl, _, _, rfl, rfl, ?_, r ++ [.str z, .int (d : Int)], ?_, ?_⟩
    · rw [List.length_map, List.length_map]
      exact small (by show r.length + 2 ≤ 1000; omega)
    · rw [← List.map_append]; exact unD_map _
    refine k _ _ ⟨_, _, rfl, i1.more i2 (nm z hz) (by omega) (by omega), ?_, ?_, s5, (f3.trans f4).trans f5⟩
    · rw [List.length_append]; show (r.length + 2) % 2 = 1; omega
    · rw [List.length_append]; show r.length + 2 + _ ≤ 7; omega
  · obtain ⟨r, o, rfl, i1, i2, i3, s3, f3⟩ := i
    refine ⟨trivial, ?_⟩
    unfold b_Lrow_1
    trivial
    exact q r M3 i1 i2 (by omega) (s3.less (by omega)) f3
  · refine ⟨_, none, rfl, ?_, rfl, by rw [rng_len]; show 1 + 2 * b ≤ 7; omega, s2.less (by rw [rng_len]; omega), f1.trans f2⟩
    intro i d e
    match i, e with
    | 0, e => cases e; exact ⟨_, rfl, by omega, by omega⟩
    | i + 1, e => cases e
theorem cut_map {xs : List D} {lo hi : Option Int} : cutW (xs.map W.d) lo hi = (cutW xs lo hi).map W.d := by
  unfold cutW
  rw [List.length_map, List.map_take, List.map_drop]
theorem varied_ok : ∀ ws M Q E, spVaried ws M Q E → wSs ⟨[cDraw, cRow, cPick], []⟩ b_Lvaried (endOf Q E) (start2 p_Lvaried.N ws) M := by
  intro ws M Q E h
  obtain ⟨st, sc, c, r, ns, rfl, hn, hl, nm, okr, h2, h7, s, q⟩ := h
  show wSs _ b_Lvaried_10 (endOf Q E) [some (.c st), some (.d (.lst r)), some (.d (.lst (sD ns))), none, none, none] M
  unfold b_Lvaried_10
  trivial
  refine ⟨_, _, rfl, rfl, fun p hp => ⟨st, sc, c + 8, 6, rfl, by decide, by decide, s.put (s.new hp).1 (s.new hp).2, fun w M1 hw s1 f1 => ⟨_, _, rfl, ?_⟩⟩⟩
  obtain ⟨p1, p2⟩ := s.new hp
  have e1 : M1 p = some (.lst (r.map W.d)) := f1 p p1 p2 _ put_same
  have f0 : Fr st sc M M1 := (Fr.refl.put hp).trans f1
  unfold b_Lvaried_9
  trivial
  refine eqI ⟨_, rfl, ite_b (fun e => ?_) fun e => ?_⟩
  · unfold b_Lvaried_0
    trivial
    exact ⟨st, sc, c, ns, rfl, hn, hl, nm, s1, fun r' M2 a1 a2 a3 s2 f2 => q r' M2 a1 (by omega) s2 (f0.trans f2)⟩
  unfold b_Lvaried_8
  trivial
  refine eqI ⟨_, rfl, ite_b (fun e => ?_) fun e => ?_⟩
  · unfold b_Lvaried_1
    trivial
    refine ⟨st, sc, c + 1, _, sW ns, rfl, seqF_s, sW_ne hn, by rw [sW_len]; omega, s1.less (by omega), fun y M4 hy s4 f4 => ?_⟩
    obtain ⟨z, rfl, hz⟩ := sW_mem hy
    refine ⟨st, sc, c, 3, rfl, by decide, by decide, s4, fun d M5 hd s5 f5 => ⟨by decide, _, rfl, ?_⟩⟩
    refine ⟨rfl, _, _, listC ((f4.trans f5) p p1 p2 _ e1), rfl, ?_, r ++ [.str z, .int (d : Int)], ?_, ?_⟩
    · rw [List.length_map, List.length_map]
      exact small (by show r.length + 2 ≤ 1000; omega)
    · rw [← List.map_append]; exact unD_map _
    exact q _ M5 (okr.more h2 (nm z hz) (by omega) (by omega)) (by rw [List.length_append]; show r.length + 2 ≤ 9; omega) s5 ((f0.trans f4).trans f5)
  unfold b_Lvaried_7
  trivial
  have last : wSs ⟨[cDraw, cRow, cPick], []⟩ b_Lvaried_6 (endOf Q E) [some (.c st), some (.d (.lst r)), some (.d (.lst (sD ns))), none, some (.c p), some (.d (.int (w : Int)))] M1 := by
    unfold b_Lvaried_6
    trivial
    refine lenS rfl ⟨st, sc, c + 1, r.length, by rw [List.length_map], by omega, by omega, s1.less (by omega), fun j M2 hj s2 f2 => ?_⟩
    unfold b_Lvaried_5
    trivial
    have fin : ∀ (x : D) (M3 : Mp), (if j % 2 = 0 then ∃ n : Int, x = .int n ∧ 0 ≤ n ∧ n < 10 else ∃ s : Str, x = .str s ∧ Nm s) → Strm st sc c M3 → Fr st sc M1 M3 →
        oSet (.c p) (.d (.int (j : Int))) (.d x) M3 fun M4 => wSs ⟨[cDraw, cRow, cPick], []⟩ b_Lvaried_4 (endOf Q E) [some (.c st), some (.d (.lst r)), some (.d (.lst (sD ns))), some (.d (.int (j : Int))), some (.c p), some (.d (.int (w : Int)))] M4 := fun x M3 hx s3 f3 => by
      refine setC (f3 p p1 p2 _ e1) (ixN_n (by rw [List.length_map]; exact hj)) ?_
      unfold b_Lvaried_4
      trivial
      refine ⟨p, _, r.set j x, rfl, put_same, ?_, ?_⟩
      · rw [← List.map_set]; exact unD_map _
      unfold b_Lvaried_3
      trivial
      exact q _ _ (okr.set hx) (by rw [List.length_set]; omega) ((s3.put p1 p2).del p1 p2) (((f0.trans f3).put hp).del hp)
    refine modI (by decide) (eqI ⟨_, rfl, ite_b (fun e => ?_) fun e => ?_⟩)
    · have e3 : ¬ j % 2 = 0 := fun z => by rw [od_even z] at e; cases e
      refine ⟨st, sc, c, _, sW ns, rfl, seqF_s, sW_ne hn, by rw [sW_len]; omega, s2, fun y M4 hy s4 f4 => ?_⟩
      obtain ⟨z, rfl, hz⟩ := sW_mem hy
      exact fin (.str z) M4 (by rw [if_neg e3]; exact ⟨z, rfl, nm z hz⟩) s4 (f2.trans f4)
    · have e3 : j % 2 = 0 := Classical.byContradiction fun z => by rw [od_odd z] at e; cases e
      refine ⟨st, sc, c, 4, rfl, by decide, by decide, s2, fun d M4 hd s4 f4 => ?_⟩
      exact fin (.int (d : Int)) M4 (by rw [if_pos e3]; exact ⟨_, rfl, by omega, by omega⟩) s4 (f2.trans f4)
  refine eqI ⟨_, rfl, ite_b (fun e => ?_) fun e => last⟩
  refine lenS rfl (gtI ⟨_, rfl, ite_b (fun e => ?_) fun e => last⟩)
  unfold b_Lvaried_2
  trivial
  refine ⟨_, rfl, _, rfl, .inl ⟨_, listC e1, cutW r none (some (-2)), ?_, ?_⟩⟩
  · rw [cut_map]; exact unD_map _
  · unfold cutW
    rw [HT.sIx_none]
    refine q _ M1 (RowOk.take okr _) ?_ (s1.less (by omega)) f0
    rw [List.length_take]
    exact Nat.le_trans (Nat.min_le_right _ _) (by rw [List.length_drop]; omega)
/-! ### what is shown -/
def Sm (d : D) : Prop := (∃ n : Int, d = .int n ∧ 0 ≤ n ∧ n < 10) ∨ ∃ s : Str, d = .str s ∧ Nm s
theorem RowOk.sm {r : List D} (h : RowOk r) : ∀ d ∈ r, Sm d := fun d hd => by
  obtain ⟨i, hi, rfl⟩ := List.mem_iff_getElem.mp hd
  by_cases e : i % 2 = 0
  · exact .inl (h.int hi e)
  · exact .inr (h.str hi e)
theorem sm_py : ∀ r : List D, (∀ d ∈ r, Sm d) → ∃ ps, toPyL r = some ps ∧ PyData.canLayAll0 ps = true ∧ PyData.showableAll ps = true ∧ PyData.intsShortAll 13 ps = true ∧ PyData.depthAll ps ≤ 1 ∧ PyData.weightAll ps ≤ 9 * r.length
  | [], _ => ⟨[], rfl, by simp [PyData.canLayAll0], by simp [PyData.showableAll], by simp [PyData.intsShortAll], by simp [PyData.depthAll], by simp [PyData.weightAll]⟩
  | d :: r, h => by
    obtain ⟨ps, e1, e2, e3, e4, e5, e6⟩ := sm_py r fun x hx => h x (List.mem_cons_of_mem _ hx)
    rcases h d List.mem_cons_self with ⟨n, rfl, h0, h1⟩ | ⟨z, rfl, z1, z2, z3⟩
    · refine ⟨.int n :: ps, ?_, ?_, ?_, ?_, ?_, ?_⟩
      · show (toPy (.int n)).bind (fun p => (toPyL r).map (p :: ·)) = _
        rw [e1]; rfl
      · simp [PyData.canLayAll0, PyData.canLay0, e2]
      · have : n.natAbs.log2 < 1920 := Nat.lt_of_lt_of_le (lg (k := 4) (by omega) (by decide)) (by decide)
        simp [PyData.showableAll, PyData.showable, e3, this]
      · have := PyData.intsShortAll_ints [n] fun m hm => by
          have : m = n := by simpa using hm
          subst this
          exact Nat.lt_of_lt_of_le (by omega : m.natAbs < 10) (by decide)
        have t : PyData.intsShort 13 (.int n) = true := by simpa [PyData.intsShortAll] using this
        simp [PyData.intsShortAll, t, e4]
      · simp [PyData.depthAll, PyData.depth]; omega
      · have : n.natAbs.log2 < 4 := lg (by omega) (by decide)
        simp only [PyData.weightAll, PyData.weight, List.length_cons]
        split <;> omega
    · refine ⟨.str z :: ps, ?_, ?_, ?_, ?_, ?_, ?_⟩
      · show (toPy (.str z)).bind (fun p => (toPyL r).map (p :: ·)) = _
        rw [e1]; rfl
      · have : PyData.strOk z = true := by
          unfold PyData.strOk
          rw [← Array.all_toList, List.all_eq_true]
          intro c hc
          have := z3 c hc
          simp; omega
        simp [PyData.canLayAll0, PyData.canLay0, e2, this]
      · simp [PyData.showableAll, PyData.showable, e3]
      · simp [PyData.intsShortAll, PyData.intsShort, e4]
      · simp [PyData.depthAll, PyData.depth]; omega
      · have : z.cps.size ≤ 8 := z2
        simp only [PyData.weightAll, PyData.weight, List.length_cons]
        omega
theorem two_py {r q : List D} (h1 : RowOk r) (h2 : RowOk q) (l1 : r.length ≤ 20) (l2 : q.length ≤ 20) : ∃ p, toPy (.lst [.lst r, .lst q]) = some p ∧ PyData.showable p = true ∧ p.depth ≤ 100 ∧ (PyData.shown p).length ≤ sizeLine := by
  obtain ⟨ps, a1, a2, a3, a4, a5, a6⟩ := sm_py r h1.sm
  obtain ⟨qs, b1, b2, b3, b4, b5, b6⟩ := sm_py q h2.sm
  refine ⟨.list [.list ps, .list qs], ?_, ?_, ?_, ?_⟩
  · show (toPyL [.lst r, .lst q]).map PyData.list = _
    show ((toPy (.lst r)).bind fun p => (toPyL [.lst q]).map (p :: ·)).map PyData.list = _
    rw [show toPy (.lst r) = some (.list ps) by show (toPyL r).map _ = _; rw [a1]; rfl]
    show (((toPy (.lst q)).bind fun p => (some []).map (p :: ·)).map (PyData.list ps :: ·)).map PyData.list = _
    rw [show toPy (.lst q) = some (.list qs) by show (toPyL q).map _ = _; rw [b1]; rfl]
    rfl
  · simp [PyData.showable, PyData.showableAll, a3, b3]
  · simp [PyData.depth, PyData.depthAll]; omega
  · have hd : PyData.depth (.list [.list ps, .list qs]) ≤ 64 := by simp [PyData.depth, PyData.depthAll]; omega
    have hw : PyData.weight (.list [.list ps, .list qs]) ≤ 2 ^ 20 := by simp [PyData.weight, PyData.weightAll]; omega
    have hc : PyData.canLay0 (.list [.list ps, .list qs]) = true := by simp [PyData.canLay0, PyData.canLayAll0, a2, b2]
    have := shown_le13 (d := .list [.list ps, .list qs]) (by unfold PyData.layable0; rw [hc, decide_eq_true hd, decide_eq_true hw]; rfl) (by simp [PyData.intsShort, PyData.intsShortAll, a4, b4])
    rw [sizeLine_eq]
    omega
theorem bool_py (b : Bool) : PyData.showable (.bool b) = true ∧ (PyData.bool b).depth ≤ 100 ∧ (PyData.shown (.bool b)).length ≤ sizeLine := by
  refine ⟨by simp [PyData.showable], by simp [PyData.depth], ?_⟩
  cases b <;> exact small (by decide)
theorem sel2 {x y : D} {i : Nat} (h : i < 2) : atI [W.d x, W.d y] (i : Int) = some (.d (if i = 0 then x else y)) := by
  match i, h with
  | 0, _ => rfl
  | 1, _ => rfl
theorem allS : ∀ es : List D, (∀ d ∈ es, ∃ s, d = .str s) → ∃ tk, es = sD tk
  | [], _ => ⟨[], rfl⟩
  | d :: r, h => by
    obtain ⟨s, rfl⟩ := h d List.mem_cons_self
    obtain ⟨tk, rfl⟩ := allS r fun x hx => h x (List.mem_cons_of_mem _ hx)
    exact ⟨s :: tk, rfl⟩
theorem pickS {es fs : List D} {os : List Str} (h1 : es.Sublist (sD os)) (h2 : fs.Perm es) : ∃ tk, fs = sD tk := allS fs fun d hd => by
  have := h1.subset (h2.subset hd)
  obtain ⟨s, _, rfl⟩ := List.mem_map.mp this
  exact ⟨s, rfl⟩
abbrev gLaw : Env2 := ⟨[cNames, cDraw, cRow, cVaried, cMixed, cSome, cLFalls, cSame, cFalls], []⟩
def Reads (x : W) (us : List W) : Prop := ∀ M, seqW M x = some us
theorem tail6 {De : Ends2} {x0 o2 o3 o6 o10 o11 o12 : Option W} {st : Addr} {M : Mp} {r q : List D} {A B : D} {t a : W} {tk ad : List Str} (okr : RowOk r) (okq : RowOk q) (l1 : r.length ≤ 20) (l2 : q.length ≤ 20) (hA : Reads (.d A) (r.map W.d)) (hB : Reads (.d B) (q.map W.d)) (ht : Reads t (sW tk)) (ha : Reads a (sW ad))
    (k : ∀ o10 o11 o12, De.nx [x0, some (.c st), o2, o3, some (.d (.lst r)), some (.d (.lst q)), o6, some t, some a, some (.d (.lst [A, B])), o10, o11, o12] M) :
    wSs ⟨[cNames, cDraw, cRow, cVaried, cMixed, cSome, cLFalls, cSame, cFalls], []⟩ b_law_6 De [x0, some (.c st), o2, o3, some (.d (.lst r)), some (.d (.lst q)), o6, some t, some a, some (.d (.lst [A, B])), o10, o11, o12] M := by
  unfold b_law_6
  trivial
  refine ⟨_, rfl, by decide, _, rfl, by decide, _, rfl, by decide, by decide, _, rfl, _, rfl, ?_⟩
  refine for_run (fun rest σ M' => (∀ w ∈ rest, ∃ i j : Nat, i < 2 ∧ j < 2 ∧ w = .d (.tup [.int (i : Int), .int (j : Int)])) ∧ (∃ o10 o11 o12, σ = [x0, some (.c st), o2, o3, some (.d (.lst r)), some (.d (.lst q)), o6, some t, some a, some (.d (.lst [A, B])), o10, o11, o12]) ∧ M' = M) (fun w rest σ M' K i kk => ?_) (fun σ M' i => ?_) _ _ _ ?_
  · obtain ⟨i1, ⟨p10, p11, p12, rfl⟩, rfl⟩ := i
    obtain ⟨i, j, hi, hj, rfl⟩ := i1 w List.mem_cons_self
    refine ⟨rfl, ?_⟩
    trivial
    refine ⟨_, rfl, rfl, _, _, rfl, _, _, rfl, rfl, ?_⟩
    unfold b_law_3
    trivial
    refine ⟨by decide, _, rfl, ixS rfl (sel2 hi) ⟨by decide, _, rfl, ixS rfl (sel2 hj) ?_⟩⟩
    have okP : ∀ n : Nat, RowOk (if n = 0 then r else q) := fun n => by split <;> assumption
    have sP : ∀ (n : Nat), seqW M' (.d (if n = 0 then .lst r else .lst q)) = some ((if n = 0 then r else q).map W.d) := fun n => by split <;> rfl
    have sQ : ∀ (n : Nat), seqW M' (.d (if n = 0 then A else B)) = some ((if n = 0 then r else q).map W.d) := fun n => by
      split
      · exact hA M'
      · exact hB M'
    refine ⟨_, _, _, _, _, _, tk, ad, rfl, sP i, sP j, ht M', ha M', okP i, okP j, ?_⟩
    unfold b_law_2
    trivial
    refine ixS rfl (sel2 hi) (ixS rfl (sel2 hj) ⟨_, _, _, _, _, _, tk, ad, rfl, sQ i, sQ j, ht M', ha M', okP i, okP j, ?_⟩)
    refine ⟨_, _, _, _, rfl, rfl, rfl, bool_py _, bool_py _, _, rfl, ?_⟩
    rw [beq_self_eq_true]
    refine ite_n rfl ?_
    exact kk _ _ ⟨fun w hw => i1 w (List.mem_cons_of_mem _ hw), ⟨_, _, _, rfl⟩, rfl⟩
  · obtain ⟨_, ⟨p10, p11, p12, rfl⟩, rfl⟩ := i
    refine ⟨rfl, ?_⟩
    unfold b_law_5
    trivial
    obtain ⟨p, e1, e2, e3, e4⟩ := two_py okr okq l1 l2
    refine ixS rfl (atI_n (j := 0) rfl) ⟨_, _, rfl, hA M', r, unD_map _, ixS rfl (atI_n (j := 1) rfl) ⟨_, _, rfl, hB M', q, unD_map _, by decide, _, rfl, by decide, _, rfl, ?_⟩⟩
    refine ⟨_, _, p, p, rfl, e1, e1, ⟨e2, e3, e4⟩, ⟨e2, e3, e4⟩, _, rfl, ?_⟩
    rw [beq_self_eq_true]
    refine ite_n rfl ?_
    exact k _ _ _
  · refine ⟨fun w hw => ?_, ⟨_, _, _, rfl⟩, rfl⟩
    have hw : w = .d (.tup [.int 0, .int 1]) ∨ w = .d (.tup [.int 1, .int 0]) ∨ w = .d (.tup [.int 0, .int 0]) := by simpa using hw
    rcases hw with rfl | rfl | rfl
    · exact ⟨0, 1, by decide, by decide, rfl⟩
    · exact ⟨1, 0, by decide, by decide, rfl⟩
    · exact ⟨0, 0, by decide, by decide, rfl⟩
theorem tail8 {De : Ends2} {x0 o2 o3 o6 o9 o10 o11 o12 : Option W} {st sc : Addr} {c : Nat} {M : Mp} {r q : List D} {t a : W} {tk ad : List Str} (s : Strm st sc (c + 1) M) (okr : RowOk r) (okq : RowOk q) (l1 : r.length ≤ 20) (l2 : q.length ≤ 20) (ht : Reads t (sW tk)) (ha : Reads a (sW ad))
    (k : ∀ o9 o10 o11 o12 M', Strm st sc c M' → De.nx [x0, some (.c st), o2, o3, some (.d (.lst r)), some (.d (.lst q)), o6, some t, some a, o9, o10, o11, o12] M') :
    wSs ⟨[cNames, cDraw, cRow, cVaried, cMixed, cSome, cLFalls, cSame, cFalls], []⟩ b_law_8 De [x0, some (.c st), o2, o3, some (.d (.lst r)), some (.d (.lst q)), o6, some t, some a, o9, o10, o11, o12] M := by
  unfold b_law_8
  trivial
  refine ⟨_, _, rfl, rfl, r, unD_map _, _, _, rfl, rfl, q, unD_map _, by decide, _, rfl, ?_⟩
  unfold b_law_7
  trivial
  refine ⟨st, sc, c, 2, rfl, by decide, by decide, s, fun j M1 hj s1 f1 => eqI ⟨_, rfl, ite_b (fun e => ?_) fun e => ?_⟩⟩
  · unfold b_law_0
    trivial
    refine ⟨_, _, _, rfl, rfl, unD_map r, _, _, _, rfl, rfl, unD_map q, by decide, _, rfl, ?_⟩
    exact tail6 okr okq l1 l2 (fun _ => rfl) (fun _ => rfl) ht ha fun _ _ _ => k _ _ _ _ M1 s1
  · exact tail6 okr okq l1 l2 (fun _ => rfl) (fun _ => rfl) ht ha fun _ _ _ => k _ _ _ _ M1 s1
theorem seqL_s (ss : List Str) : Reads (.d (.lst (sD ss))) (sW ss) := fun M => by rw [← sD_W]; rfl
theorem seqT_s (ss : List Str) : Reads (.d (.tup (sD ss))) (sW ss) := fun M => by rw [← sD_W]; rfl
theorem law_turn {De : Ends2} {x0 o2 o3 o4 o5 o6 o7 o8 o9 o10 o11 o12 : Option W} {st sc : Addr} {c : Nat} {M : Mp} (s : Strm st sc (c + 100) M)
    (k : ∀ o3 o4 o5 o6 o7 o8 o9 o10 o11 o12 M', Strm st sc c M' → De.nx [x0, some (.c st), o2, o3, o4, o5, o6, o7, o8, o9, o10, o11, o12] M') :
    wSs ⟨[cNames, cDraw, cRow, cVaried, cMixed, cSome, cLFalls, cSame, cFalls], []⟩ b_law_16 De [x0, some (.c st), o2, o3, o4, o5, o6, o7, o8, o9, o10, o11, o12] M := by
  unfold b_law_16
  trivial
  refine ⟨st, sc, c + 99, 3, rfl, by decide, by decide, s, fun n0 M1 hn0 s1 f1 => addI ⟨by decide, [], rfl, ?_⟩⟩
  refine ⟨st, sc, c + 72, 1 + n0, [], by rw [show ((1 : Int) + (n0 : Int)) = ((1 + n0 : Nat) : Int) by omega]; rfl, by simp; omega, s1.less (by omega), fun ns M2 hl hall nd s2 f2 => ?_⟩
  have nm : ∀ z ∈ ns, Nm z := fun z hz => (hall z hz).1
  have ne : ns ≠ [] := fun e => by rw [e] at hl; simp at hl; omega
  unfold b_law_15
  trivial
  refine ⟨st, sc, c + 64, ns, rfl, ne, by omega, nm, s2.less (by omega), fun r M3 okr r1 r2 s3 f3 => ?_⟩
  unfold b_law_14
  trivial
  refine ⟨st, sc, c + 55, r, ns, rfl, ne, by omega, nm, okr, r1, r2, s3.less (by omega), fun q M4 okq q1 s4 f4 => ?_⟩
  unfold b_law_13
  trivial
  refine ⟨st, sc, c + 46, 1, ns, rfl, by omega, s4.less (by omega), fun ms M5 ml mall md s5 f5 => ?_⟩
  refine ⟨rfl, _, _, rfl, rfl, ?_, sD (ns ++ ms), ?_, ?_⟩
  · rw [List.length_map, List.length_map]
    unfold sD
    rw [List.length_map, List.length_map]
    exact small (by omega)
  · rw [← List.map_append]
    unfold sD
    rw [← List.map_append]
    exact unD_map _
  generalize ho : ns ++ ms = os
  have lo : os.length ≤ 4 := by rw [← ho, List.length_append]; omega
  have lsd : (sD os).length ≤ 4 := by unfold sD; rw [List.length_map]; exact lo
  unfold b_law_12
  trivial
  refine ⟨st, sc, c + 42, 2, _, sD os, rfl, by decide, by decide, seqF_lst, by omega, s5.less (by omega), fun es M6 h6 s6 f6 => ?_⟩
  have l6 := h6.length_le
  refine ⟨st, sc, c + 38, _, es, rfl, seqF_lst, by omega, s6.less (by omega), fun fs M7 h7 s7 f7 => ?_⟩
  obtain ⟨tk, rfl⟩ := pickS h6 h7
  unfold b_law_11
  trivial
  refine ⟨st, sc, c + 34, 3, _, sD os, rfl, by decide, by decide, seqF_lst, by omega, s7.less (by omega), fun es2 M8 h8 s8 f8 => ?_⟩
  have l8 := h8.length_le
  refine ⟨st, sc, c + 30, _, es2, rfl, seqF_lst, by omega, s8.less (by omega), fun fs2 M9 h9 s9 f9 => ?_⟩
  obtain ⟨ad, rfl⟩ := pickS h8 h9
  have r9 : ∀ (t : W) (M : Mp), Reads t (sW tk) → Strm st sc (c + 20) M → wSs ⟨[cNames, cDraw, cRow, cVaried, cMixed, cSome, cLFalls, cSame, cFalls], []⟩ b_law_9 De [x0, some (.c st), o2, some (.d (.lst (sD ns))), some (.d (.lst r)), some (.d (.lst q)), some (.d (.lst (sD os))), some t, some (.d (.lst (sD ad))), o9, o10, o11, o12] M := fun t M ht sM => by
    unfold b_law_9
    trivial
    refine ⟨st, sc, c + 19, 2, rfl, by decide, by decide, sM, fun j MA hj sA fA => eqI ⟨_, rfl, ite_b (fun e => ?_) fun e => ?_⟩⟩
    · refine ⟨_, _, _, rfl, rfl, unD_map _, ?_⟩
      exact tail8 (c := c) (sA.less (by omega)) okr okq (by omega) (by omega) ht (seqT_s ad) fun _ _ _ _ M' s' => k _ _ _ _ _ _ _ _ _ _ M' s'
    · exact tail8 (c := c) (sA.less (by omega)) okr okq (by omega) (by omega) ht (seqL_s ad) fun _ _ _ _ M' s' => k _ _ _ _ _ _ _ _ _ _ M' s'
  unfold b_law_10
  trivial
  refine ⟨st, sc, c + 29, 2, rfl, by decide, by decide, s9, fun j MA hj sA fA => eqI ⟨_, rfl, ite_b (fun e => ?_) fun e => ?_⟩⟩
  · exact ⟨_, _, _, rfl, rfl, unD_map _, r9 _ _ (seqT_s tk) (sA.less (by omega))⟩
  · exact r9 _ _ (seqL_s tk) (sA.less (by omega))
def spLaw : Sp2 := fun ws M Q _ => ∃ ns : List Int, ws = [.r (ns.map D.int)] ∧ ns.length ≤ 63 ∧ ∀ M', Q (.d (.bool true)) M'
theorem spLaw_in (ns : List Int) (h : ns.length ≤ 63) : spLaw [.r (ns.map D.int)] (fun _ => none) (fun y _ => y = .d (.bool true)) fun _ _ => False := ⟨ns, rfl, h, fun _ => rfl⟩
theorem row1 {n : Int} (h0 : 0 ≤ n) (h1 : n < 10) : RowOk [.int n] := fun i d e => by
  match i, e with
  | 0, e => cases e; exact ⟨n, rfl, h0, h1⟩
  | i + 1, e => cases e
theorem nmX : Nm "x" := ⟨by decide, by decide, by decide⟩
theorem row3 {n m : Int} (h0 : 0 ≤ n) (h1 : n < 10) (g0 : 0 ≤ m) (g1 : m < 10) : RowOk [.int n, .str "x", .int m] := (row1 h0 h1).more rfl nmX g0 g1
theorem law_ok : ∀ ws M Q E, spLaw ws M Q E → wSs ⟨[cNames, cDraw, cRow, cVaried, cMixed, cSome, cLFalls, cSame, cFalls], []⟩ b_law (endOf Q E) (start2 p_law.N ws) M := by
  intro ws M Q E h
  obtain ⟨ns, rfl, hl, q⟩ := h
  show wSs _ b_law_21 (endOf Q E) [some (.r (ns.map D.int)), none, none, none, none, none, none, none, none, none, none, none, none] M
  unfold b_law_21
  trivial
  refine ⟨_, _, rfl, rfl, fun sc hsc => ⟨(by decide : 4 ≤ 1000), fun st hst => ?_⟩⟩
  have ne : st ≠ sc := fun z => by rw [z, put_same] at hst; cases hst
  have s0 : Strm st sc 600 (put (put M sc (.lst ((ns.map D.int).map W.d))) st (.lst [.c sc, .d (.int 0), .d (.int 0), .d (.int 0)])) := by
    refine ⟨ne, ns, 0, 0, 0, put_same, ?_, by decide, by decide, by decide, by decide⟩
    rw [put_ne ne.symm, put_same, List.map_map]
    rfl
  unfold b_law_20
  trivial
  refine ⟨_, rfl, by decide, by decide, ?_⟩
  refine for_run (fun rest σ M' => Strm st sc (100 * rest.length) M' ∧ ∃ o2 o3 o4 o5 o6 o7 o8 o9 o10 o11 o12, σ = [some (.r (ns.map D.int)), some (.c st), o2, o3, o4, o5, o6, o7, o8, o9, o10, o11, o12]) (fun w rest σ M' K i kk => ?_) (fun σ M' i => ?_) _ _ _ ⟨s0, _, _, _, _, _, _, _, _, _, _, _, rfl⟩
  · obtain ⟨s1, o2, o3, o4, o5, o6, o7, o8, o9, o10, o11, o12, rfl⟩ := i
    refine ⟨trivial, ?_⟩
    trivial
    refine law_turn (st := st) (sc := sc) (c := 100 * rest.length) (s1.less (by rw [List.length_cons]; omega)) fun o3 o4 o5 o6 o7 o8 o9 o10 o11 o12 M' s' => ?_
    exact kk _ _ ⟨s', _, _, _, _, _, _, _, _, _, _, _, rfl⟩
  · obtain ⟨s1, o2, o3, o4, o5, o6, o7, o8, o9, o10, o11, o12, rfl⟩ := i
    refine ⟨trivial, ?_⟩
    have f1 : fal [] [] true [.int 0] [.int 0] = false := by simp [fal]
    have f2 : fal ["x"] [] true [.int 0, .str "x", .int 0] [.int 0] = false := by simp [fal]
    have f3 : fal [] [] true [.int 1] [.int 0] = true := by simp [fal]
    have f4 : fal ["x"] [] true [.int 0, .str "x", .int 0] [.int 0, .str "x", .int 9] = true := by simp [fal]
    unfold b_law_19
    trivial
    refine ⟨_, rfl, by decide, _, rfl, by decide, _, rfl, by decide, _, rfl, by decide, _, _, _, _, [.int 0], [.int 0], [], [], rfl, rfl, rfl, rfl, rfl, row1 (by decide) (by decide), row1 (by decide) (by decide), _, rfl, ?_⟩
    rw [f1]
    refine ite_n rfl ?_
    refine ⟨_, rfl, by decide, _, rfl, by decide, by decide, _, rfl, by decide, _, rfl, _, _, _, _, [.int 0, .str "x", .int 0], [.int 0], ["x"], [], rfl, rfl, rfl, rfl, rfl, row3 (by decide) (by decide) (by decide) (by decide), row1 (by decide) (by decide), _, rfl, ?_⟩
    rw [f2]
    refine ite_n rfl ?_
    unfold b_law_18
    trivial
    refine ⟨_, rfl, by decide, _, rfl, by decide, _, rfl, by decide, _, rfl, by decide, _, _, _, _, [.int 1], [.int 0], [], [], rfl, rfl, rfl, rfl, rfl, row1 (by decide) (by decide), row1 (by decide) (by decide), _, rfl, ?_⟩
    rw [f3]
    refine ite_p rfl ?_
    refine ⟨_, rfl, by decide, _, rfl, by decide, by decide, _, rfl, by decide, _, rfl, _, _, _, _, [.int 0, .str "x", .int 0], [.int 0, .str "x", .int 9], ["x"], [], rfl, rfl, rfl, rfl, rfl, row3 (by decide) (by decide) (by decide) (by decide), row3 (by decide) (by decide) (by decide) (by decide), ?_⟩
    rw [f4]
    exact q _
theorem spDraw_len {ws : List W} {M : Mp} {Q : VK2} {E : XK2} (h : spDraw ws M Q E) : ws.length = 2 := by obtain ⟨_, _, _, _, rfl, _⟩ := h; rfl
theorem spPick_len {ws : List W} {M : Mp} {Q : VK2} {E : XK2} (h : spPick ws M Q E) : ws.length = 2 := by obtain ⟨_, _, _, _, _, rfl, _⟩ := h; rfl
theorem spMixed_len {ws : List W} {M : Mp} {Q : VK2} {E : XK2} (h : spMixed ws M Q E) : ws.length = 2 := by obtain ⟨_, _, _, _, _, rfl, _⟩ := h; rfl
theorem spSome_len {ws : List W} {M : Mp} {Q : VK2} {E : XK2} (h : spSome ws M Q E) : ws.length = 3 := by obtain ⟨_, _, _, _, _, _, rfl, _⟩ := h; rfl
theorem spSame_len {ws : List W} {M : Mp} {Q : VK2} {E : XK2} (h : spSame ws M Q E) : ws.length = 2 := by obtain ⟨_, _, _, _, rfl, _⟩ := h; rfl
theorem spName_len {ws : List W} {M : Mp} {Q : VK2} {E : XK2} (h : spName ws M Q E) : ws.length = 2 := by obtain ⟨_, _, _, _, _, rfl, _⟩ := h; rfl
theorem spNames_len {ws : List W} {M : Mp} {Q : VK2} {E : XK2} (h : spNames ws M Q E) : ws.length = 3 := by obtain ⟨_, _, _, _, _, rfl, _⟩ := h; rfl
theorem spFalls_len {ws : List W} {M : Mp} {Q : VK2} {E : XK2} (h : spFalls ws M Q E) : ws.length = 4 := by obtain ⟨_, _, _, _, _, _, _, _, rfl, _⟩ := h; rfl
theorem spRow_len {ws : List W} {M : Mp} {Q : VK2} {E : XK2} (h : spRow ws M Q E) : ws.length = 2 := by obtain ⟨_, _, _, _, rfl, _⟩ := h; rfl
theorem spVaried_len {ws : List W} {M : Mp} {Q : VK2} {E : XK2} (h : spVaried ws M Q E) : ws.length = 3 := by obtain ⟨_, _, _, _, _, rfl, _⟩ := h; rfl
theorem spLaw_len {ws : List W} {M : Mp} {Q : VK2} {E : XK2} (h : spLaw ws M Q E) : ws.length = 1 := by obtain ⟨_, rfl, _⟩ := h; rfl
end
end Z
set_option maxHeartbeats 8000000
namespace Z
open PySem PySem.Spec PyProof.Rows L2
def topS (i : Nat) : Stmt := PySem.Challenge.pw_noneorsome_k35_rows_that_fall.main.body.getD i (.Pass ⟨0, 0, 0, 0⟩)
theorem sc_Ldraw : FnScope p_Ldraw.N ["_law_stream", "_law_many"] (defScope (topS 3)) := ⟨rfl, rfl, rfl, by decide +kernel, rfl, by decide +kernel, by decide +kernel⟩
theorem ck_Ldraw : kSs p_Ldraw (defScope (topS 3)) b_Ldraw (defBody (topS 3)) = true := by decide +kernel
theorem sc_Lpick : FnScope p_Lpick.N ["_law_stream", "_law_some_here"] (defScope (topS 4)) := ⟨rfl, rfl, rfl, by decide +kernel, rfl, by decide +kernel, by decide +kernel⟩
theorem ck_Lpick : kSs p_Lpick (defScope (topS 4)) b_Lpick (defBody (topS 4)) = true := by decide +kernel
theorem sc_Lmixed : FnScope p_Lmixed.N ["_law_stream", "_law_some_here"] (defScope (topS 5)) := ⟨rfl, rfl, rfl, by decide +kernel, rfl, by decide +kernel, by decide +kernel⟩
theorem ck_Lmixed : kSs p_Lmixed (defScope (topS 5)) b_Lmixed (defBody (topS 5)) = true := by decide +kernel
theorem sc_Lsome : FnScope p_Lsome.N ["_law_stream", "_law_things", "_law_one_in"] (defScope (topS 6)) := ⟨rfl, rfl, rfl, by decide +kernel, rfl, by decide +kernel, by decide +kernel⟩
theorem ck_Lsome : kSs p_Lsome (defScope (topS 6)) b_Lsome (defBody (topS 6)) = true := by decide +kernel
theorem sc_Lsame : FnScope p_Lsame.N ["_law_found", "_law_due"] (defScope (topS 7)) := ⟨rfl, rfl, rfl, by decide +kernel, rfl, by decide +kernel, by decide +kernel⟩
theorem ck_Lsame : kSs p_Lsame (defScope (topS 7)) b_Lsame (defBody (topS 7)) = true := by decide +kernel
theorem sc_Lname : FnScope p_Lname.N ["_law_stream", "_law_taken"] (defScope (topS 8)) := ⟨rfl, rfl, rfl, by decide +kernel, rfl, by decide +kernel, by decide +kernel⟩
theorem ck_Lname : kSs p_Lname (defScope (topS 8)) b_Lname (defBody (topS 8)) = true := by decide +kernel
theorem sc_Lnames : FnScope p_Lnames.N ["_law_stream", "_law_many", "_law_taken"] (defScope (topS 9)) := ⟨rfl, rfl, rfl, by decide +kernel, rfl, by decide +kernel, by decide +kernel⟩
theorem ck_Lnames : kSs p_Lnames (defScope (topS 9)) b_Lnames (defBody (topS 9)) = true := by decide +kernel
theorem sc_falls : FnScope p_falls.N ["one", "other", "taken", "added"] (defScope (topS 1)) := ⟨rfl, rfl, rfl, by decide +kernel, rfl, by decide +kernel, by decide +kernel⟩
theorem ck_falls : kSs p_falls (defScope (topS 1)) b_falls (defBody (topS 1)) = true := by decide +kernel
theorem sc_Lfalls : FnScope p_Lfalls.N ["_law_one", "_law_other", "_law_taken", "_law_added"] (defScope (topS 10)) := ⟨rfl, rfl, rfl, by decide +kernel, rfl, by decide +kernel, by decide +kernel⟩
theorem ck_Lfalls : kSs p_Lfalls (defScope (topS 10)) b_Lfalls (defBody (topS 10)) = true := by decide +kernel
theorem sc_Lrow : FnScope p_Lrow.N ["_law_stream", "_law_names_here"] (defScope (topS 11)) := ⟨rfl, rfl, rfl, by decide +kernel, rfl, by decide +kernel, by decide +kernel⟩
theorem ck_Lrow : kSs p_Lrow (defScope (topS 11)) b_Lrow (defBody (topS 11)) = true := by decide +kernel
theorem sc_Lvaried : FnScope p_Lvaried.N ["_law_stream", "_law_row_here", "_law_names_here"] (defScope (topS 12)) := ⟨rfl, rfl, rfl, by decide +kernel, rfl, by decide +kernel, by decide +kernel⟩
theorem ck_Lvaried : kSs p_Lvaried (defScope (topS 12)) b_Lvaried (defBody (topS 12)) = true := by decide +kernel
theorem sc_law : FnScope p_law.N ["_law_script"] (defScope (topS 13)) := ⟨rfl, rfl, rfl, by decide +kernel, rfl, by decide +kernel, by decide +kernel⟩
theorem ck_law : kSs p_law (defScope (topS 13)) b_law (defBody (topS 13)) = true := by decide +kernel
theorem allN {α : Type} {p : α → Prop} : ∀ c ∈ ([] : List α), p c := fun c h => nomatch h
theorem allC {α : Type} {p : α → Prop} {a : α} {l : List α} (h : p a) (t : ∀ c ∈ l, p c) : ∀ c ∈ a :: l, p c := fun c hc => by
  rcases List.mem_cons.mp hc with e | e
  · rw [e]; exact h
  · exact t c e
theorem kn_of {P : Program} {w : World} {T : Tab} {mg : Str → Option Value} {base : Heap} {k : Nat} {x : Str} {st : Stmt} {f : Addr} {fd : FuncData} {ps : List Str} {sp : Sp2} (F : L2.Fun T.K x x st f fd) (hb : Binds T.K fd ps []) (hm : mg x = some (.ref f)) (Fo : Fn P w T mg base k f fd ps sp) : KnP P w T.K mg base T k x sp [] :=
  ⟨f, fd, ps, [], [], hm, F.kp, hb, .nil, fun _ => .nil, Fo⟩
theorem all_mk {P : Program} {w : World} {K : PySem.W.Frag} {cl : Nat → Addr} {h : Heap} {mg : Str → Option Value} {fa : Addr} (X : K.In h) (G : h.Ns mainGlobals mg) (hfa : mg "law" = some (.ref fa))
    {od0 an0 : Option Addr} {sl0 : Array (Option Value)} {oc0 kV0 dc0 pm0 cd0 ct0 : Value} {f0 : Addr}
    {od1 an1 : Option Addr} {sl1 : Array (Option Value)} {oc1 kV1 dc1 pm1 cd1 ct1 : Value} {f1 : Addr}
    {od2 an2 : Option Addr} {sl2 : Array (Option Value)} {oc2 kV2 dc2 pm2 cd2 ct2 : Value} {f2 : Addr}
    {od3 an3 : Option Addr} {sl3 : Array (Option Value)} {oc3 kV3 dc3 pm3 cd3 ct3 : Value} {f3 : Addr}
    {od4 an4 : Option Addr} {sl4 : Array (Option Value)} {oc4 kV4 dc4 pm4 cd4 ct4 : Value} {f4 : Addr}
    {od5 an5 : Option Addr} {sl5 : Array (Option Value)} {oc5 kV5 dc5 pm5 cd5 ct5 : Value} {f5 : Addr}
    {od6 an6 : Option Addr} {sl6 : Array (Option Value)} {oc6 kV6 dc6 pm6 cd6 ct6 : Value} {f6 : Addr}
    {od7 an7 : Option Addr} {sl7 : Array (Option Value)} {oc7 kV7 dc7 pm7 cd7 ct7 : Value} {f7 : Addr}
    {od8 an8 : Option Addr} {sl8 : Array (Option Value)} {oc8 kV8 dc8 pm8 cd8 ct8 : Value} {f8 : Addr}
    {od9 an9 : Option Addr} {sl9 : Array (Option Value)} {oc9 kV9 dc9 pm9 cd9 ct9 : Value} {f9 : Addr}
    {od10 an10 : Option Addr} {sl10 : Array (Option Value)} {oc10 kV10 dc10 pm10 cd10 ct10 : Value} {f10 : Addr}
    {od11 an11 : Option Addr} {sl11 : Array (Option Value)} {oc11 kV11 dc11 pm11 cd11 ct11 : Value} {f11 : Addr}
    (a0 : PySem.W.nsIn K mainGlobals "_law_draw" = some (some (.ref f0))) (l0 : K.lookup f0 = some ⟨oc0, od0, .func (PySem.W.fnOf "_law_draw" "_law_draw" (defArgs (topS 3)) (defBody (topS 3)) (defScope (topS 3)) .none kV0 dc0 pm0 an0 cd0 ct0), sl0⟩) (c0 : PySem.W.codeIn K cd0 "_law_draw" = true) (k0 : PySem.W.keepIn K (.ref f0) = true)
    (a1 : PySem.W.nsIn K mainGlobals "_law_pick" = some (some (.ref f1))) (l1 : K.lookup f1 = some ⟨oc1, od1, .func (PySem.W.fnOf "_law_pick" "_law_pick" (defArgs (topS 4)) (defBody (topS 4)) (defScope (topS 4)) .none kV1 dc1 pm1 an1 cd1 ct1), sl1⟩) (c1 : PySem.W.codeIn K cd1 "_law_pick" = true) (k1 : PySem.W.keepIn K (.ref f1) = true)
    (a2 : PySem.W.nsIn K mainGlobals "_law_mixed" = some (some (.ref f2))) (l2 : K.lookup f2 = some ⟨oc2, od2, .func (PySem.W.fnOf "_law_mixed" "_law_mixed" (defArgs (topS 5)) (defBody (topS 5)) (defScope (topS 5)) .none kV2 dc2 pm2 an2 cd2 ct2), sl2⟩) (c2 : PySem.W.codeIn K cd2 "_law_mixed" = true) (k2 : PySem.W.keepIn K (.ref f2) = true)
    (a3 : PySem.W.nsIn K mainGlobals "_law_some" = some (some (.ref f3))) (l3 : K.lookup f3 = some ⟨oc3, od3, .func (PySem.W.fnOf "_law_some" "_law_some" (defArgs (topS 6)) (defBody (topS 6)) (defScope (topS 6)) .none kV3 dc3 pm3 an3 cd3 ct3), sl3⟩) (c3 : PySem.W.codeIn K cd3 "_law_some" = true) (k3 : PySem.W.keepIn K (.ref f3) = true)
    (a4 : PySem.W.nsIn K mainGlobals "_law_same" = some (some (.ref f4))) (l4 : K.lookup f4 = some ⟨oc4, od4, .func (PySem.W.fnOf "_law_same" "_law_same" (defArgs (topS 7)) (defBody (topS 7)) (defScope (topS 7)) .none kV4 dc4 pm4 an4 cd4 ct4), sl4⟩) (c4 : PySem.W.codeIn K cd4 "_law_same" = true) (k4 : PySem.W.keepIn K (.ref f4) = true)
    (a5 : PySem.W.nsIn K mainGlobals "_law_name" = some (some (.ref f5))) (l5 : K.lookup f5 = some ⟨oc5, od5, .func (PySem.W.fnOf "_law_name" "_law_name" (defArgs (topS 8)) (defBody (topS 8)) (defScope (topS 8)) .none kV5 dc5 pm5 an5 cd5 ct5), sl5⟩) (c5 : PySem.W.codeIn K cd5 "_law_name" = true) (k5 : PySem.W.keepIn K (.ref f5) = true)
    (a6 : PySem.W.nsIn K mainGlobals "_law_names" = some (some (.ref f6))) (l6 : K.lookup f6 = some ⟨oc6, od6, .func (PySem.W.fnOf "_law_names" "_law_names" (defArgs (topS 9)) (defBody (topS 9)) (defScope (topS 9)) .none kV6 dc6 pm6 an6 cd6 ct6), sl6⟩) (c6 : PySem.W.codeIn K cd6 "_law_names" = true) (k6 : PySem.W.keepIn K (.ref f6) = true)
    (a7 : PySem.W.nsIn K mainGlobals "falls" = some (some (.ref f7))) (l7 : K.lookup f7 = some ⟨oc7, od7, .func (PySem.W.fnOf "falls" "falls" (defArgs (topS 1)) (defBody (topS 1)) (defScope (topS 1)) .none kV7 dc7 pm7 an7 cd7 ct7), sl7⟩) (c7 : PySem.W.codeIn K cd7 "falls" = true) (k7 : PySem.W.keepIn K (.ref f7) = true)
    (a8 : PySem.W.nsIn K mainGlobals "_law_falls" = some (some (.ref f8))) (l8 : K.lookup f8 = some ⟨oc8, od8, .func (PySem.W.fnOf "_law_falls" "_law_falls" (defArgs (topS 10)) (defBody (topS 10)) (defScope (topS 10)) .none kV8 dc8 pm8 an8 cd8 ct8), sl8⟩) (c8 : PySem.W.codeIn K cd8 "_law_falls" = true) (k8 : PySem.W.keepIn K (.ref f8) = true)
    (a9 : PySem.W.nsIn K mainGlobals "_law_row" = some (some (.ref f9))) (l9 : K.lookup f9 = some ⟨oc9, od9, .func (PySem.W.fnOf "_law_row" "_law_row" (defArgs (topS 11)) (defBody (topS 11)) (defScope (topS 11)) .none kV9 dc9 pm9 an9 cd9 ct9), sl9⟩) (c9 : PySem.W.codeIn K cd9 "_law_row" = true) (k9 : PySem.W.keepIn K (.ref f9) = true)
    (a10 : PySem.W.nsIn K mainGlobals "_law_varied" = some (some (.ref f10))) (l10 : K.lookup f10 = some ⟨oc10, od10, .func (PySem.W.fnOf "_law_varied" "_law_varied" (defArgs (topS 12)) (defBody (topS 12)) (defScope (topS 12)) .none kV10 dc10 pm10 an10 cd10 ct10), sl10⟩) (c10 : PySem.W.codeIn K cd10 "_law_varied" = true) (k10 : PySem.W.keepIn K (.ref f10) = true)
    (a11 : PySem.W.nsIn K mainGlobals "law" = some (some (.ref f11))) (l11 : K.lookup f11 = some ⟨oc11, od11, .func (PySem.W.fnOf "law" "law" (defArgs (topS 13)) (defBody (topS 13)) (defScope (topS 13)) .none kV11 dc11 pm11 an11 cd11 ct11), sl11⟩) (c11 : PySem.W.codeIn K cd11 "law" = true) (k11 : PySem.W.keepIn K (.ref f11) = true)
    (z0 : PySem.W.nsIn K mainGlobals "int" = some none)
    (z1 : PySem.W.nsIn K mainGlobals "len" = some none)
    (z2 : PySem.W.nsIn K mainGlobals "list" = some none)
    (z3 : PySem.W.nsIn K mainGlobals "range" = some none)
    (z4 : PySem.W.nsIn K mainGlobals "repr" = some none)
    (z5 : PySem.W.nsIn K mainGlobals "tuple" = some none) :
    ∃ fd : FuncData, (∀ (s : Shared) (v : Value), BindsTo s fd ⟨[v], []⟩ [("_law_script", v)]) ∧ ∀ base : Heap, K.In base → base.Ns mainGlobals mg → Fn P w ⟨K, cl⟩ mg base 5 fa fd ["_law_script"] spLaw := by
  have e := hfa.symm.trans (PySem.W.mg_of X G a11)
  cases e
  have F0 := fun_mk (st := topS 3) l0 c0 k0
  have b0 := F0.binds (ps := ["_law_stream", "_law_many"]) fun _ _ _ _ _ _ us hl => match us, hl with | [_, _], _ => rfl
  have m0 := PySem.W.mg_of X G a0
  have F1 := fun_mk (st := topS 4) l1 c1 k1
  have b1 := F1.binds (ps := ["_law_stream", "_law_some_here"]) fun _ _ _ _ _ _ us hl => match us, hl with | [_, _], _ => rfl
  have m1 := PySem.W.mg_of X G a1
  have F2 := fun_mk (st := topS 5) l2 c2 k2
  have b2 := F2.binds (ps := ["_law_stream", "_law_some_here"]) fun _ _ _ _ _ _ us hl => match us, hl with | [_, _], _ => rfl
  have m2 := PySem.W.mg_of X G a2
  have F3 := fun_mk (st := topS 6) l3 c3 k3
  have b3 := F3.binds (ps := ["_law_stream", "_law_things", "_law_one_in"]) fun _ _ _ _ _ _ us hl => match us, hl with | [_, _, _], _ => rfl
  have m3 := PySem.W.mg_of X G a3
  have F4 := fun_mk (st := topS 7) l4 c4 k4
  have b4 := F4.binds (ps := ["_law_found", "_law_due"]) fun _ _ _ _ _ _ us hl => match us, hl with | [_, _], _ => rfl
  have m4 := PySem.W.mg_of X G a4
  have F5 := fun_mk (st := topS 8) l5 c5 k5
  have b5 := F5.binds (ps := ["_law_stream", "_law_taken"]) fun _ _ _ _ _ _ us hl => match us, hl with | [_, _], _ => rfl
  have m5 := PySem.W.mg_of X G a5
  have F6 := fun_mk (st := topS 9) l6 c6 k6
  have b6 := F6.binds (ps := ["_law_stream", "_law_many", "_law_taken"]) fun _ _ _ _ _ _ us hl => match us, hl with | [_, _, _], _ => rfl
  have m6 := PySem.W.mg_of X G a6
  have F7 := fun_mk (st := topS 1) l7 c7 k7
  have b7 := F7.binds (ps := ["one", "other", "taken", "added"]) fun _ _ _ _ _ _ us hl => match us, hl with | [_, _, _, _], _ => rfl
  have m7 := PySem.W.mg_of X G a7
  have F8 := fun_mk (st := topS 10) l8 c8 k8
  have b8 := F8.binds (ps := ["_law_one", "_law_other", "_law_taken", "_law_added"]) fun _ _ _ _ _ _ us hl => match us, hl with | [_, _, _, _], _ => rfl
  have m8 := PySem.W.mg_of X G a8
  have F9 := fun_mk (st := topS 11) l9 c9 k9
  have b9 := F9.binds (ps := ["_law_stream", "_law_names_here"]) fun _ _ _ _ _ _ us hl => match us, hl with | [_, _], _ => rfl
  have m9 := PySem.W.mg_of X G a9
  have F10 := fun_mk (st := topS 12) l10 c10 k10
  have b10 := F10.binds (ps := ["_law_stream", "_law_row_here", "_law_names_here"]) fun _ _ _ _ _ _ us hl => match us, hl with | [_, _, _], _ => rfl
  have m10 := PySem.W.mg_of X G a10
  have F11 := fun_mk (st := topS 13) l11 c11 k11
  have m11 := PySem.W.mg_of X G a11
  have y0 := PySem.W.mg_none_of X G z0
  have y1 := PySem.W.mg_none_of X G z1
  have y2 := PySem.W.mg_none_of X G z2
  have y3 := PySem.W.mg_none_of X G z3
  have y4 := PySem.W.mg_none_of X G z4
  have y5 := PySem.W.mg_none_of X G z5
  refine ⟨PySem.W.fnOf "law" "law" (defArgs (topS 13)) (defBody (topS 13)) (defScope (topS 13)) .none kV11 dc11 pm11 an11 cd11 ct11, fun s v => .of_eq rfl, fun base _ _ => ?_⟩
  have H0 : Fn P w ⟨K, cl⟩ mg base 1 f0 _ ["_law_stream", "_law_many"] spDraw := fn_ok (T := ⟨K, cl⟩) (Γ := ⟨[], []⟩) (p := p_Ldraw) (k := 0) F0 sc_Ldraw ck_Ldraw ⟨allN, rfl, (fun c hc => nomatch hc), rfl, (allC y0 allN)⟩ (fun ws M Q E hh => spDraw_len hh) draw_ok
  have H1 : Fn P w ⟨K, cl⟩ mg base 2 f1 _ ["_law_stream", "_law_some_here"] spPick := fn_ok (T := ⟨K, cl⟩) (Γ := ⟨[⟨"_law_draw", spDraw, []⟩], []⟩) (p := p_Lpick) (k := 1) F1 sc_Lpick ck_Lpick ⟨(allC (kn_of (T := ⟨K, cl⟩) F0 b0 m0 (H0.mono (by decide))) allN), rfl, (fun c hc => nomatch hc), rfl, (allC y1 allN)⟩ (fun ws M Q E hh => spPick_len hh) pick_ok
  have H2 : Fn P w ⟨K, cl⟩ mg base 2 f2 _ ["_law_stream", "_law_some_here"] spMixed := fn_ok (T := ⟨K, cl⟩) (Γ := ⟨[⟨"_law_draw", spDraw, []⟩], []⟩) (p := p_Lmixed) (k := 1) F2 sc_Lmixed ck_Lmixed ⟨(allC (kn_of (T := ⟨K, cl⟩) F0 b0 m0 (H0.mono (by decide))) allN), rfl, (fun c hc => nomatch hc), rfl, (allC y2 (allC y3 (allC y1 allN)))⟩ (fun ws M Q E hh => spMixed_len hh) mixed_ok
  have H3 : Fn P w ⟨K, cl⟩ mg base 2 f3 _ ["_law_stream", "_law_things", "_law_one_in"] spSome := fn_ok (T := ⟨K, cl⟩) (Γ := ⟨[⟨"_law_draw", spDraw, []⟩], []⟩) (p := p_Lsome) (k := 1) F3 sc_Lsome ck_Lsome ⟨(allC (kn_of (T := ⟨K, cl⟩) F0 b0 m0 (H0.mono (by decide))) allN), rfl, (fun c hc => nomatch hc), rfl, allN⟩ (fun ws M Q E hh => spSome_len hh) some_ok
  have H4 : Fn P w ⟨K, cl⟩ mg base 1 f4 _ ["_law_found", "_law_due"] spSame := fn_ok (T := ⟨K, cl⟩) (Γ := ⟨[], []⟩) (p := p_Lsame) (k := 0) F4 sc_Lsame ck_Lsame ⟨allN, rfl, (fun c hc => nomatch hc), rfl, (allC y4 allN)⟩ (fun ws M Q E hh => spSame_len hh) same_ok
  have H5 : Fn P w ⟨K, cl⟩ mg base 2 f5 _ ["_law_stream", "_law_taken"] spName := fn_ok (T := ⟨K, cl⟩) (Γ := ⟨[⟨"_law_draw", spDraw, []⟩], []⟩) (p := p_Lname) (k := 1) F5 sc_Lname ck_Lname ⟨(allC (kn_of (T := ⟨K, cl⟩) F0 b0 m0 (H0.mono (by decide))) allN), rfl, (fun c hc => nomatch hc), rfl, (allC y3 allN)⟩ (fun ws M Q E hh => spName_len hh) name_ok
  have H6 : Fn P w ⟨K, cl⟩ mg base 3 f6 _ ["_law_stream", "_law_many", "_law_taken"] spNames := fn_ok (T := ⟨K, cl⟩) (Γ := ⟨[⟨"_law_name", spName, []⟩], []⟩) (p := p_Lnames) (k := 2) F6 sc_Lnames ck_Lnames ⟨(allC (kn_of (T := ⟨K, cl⟩) F5 b5 m5 (H5.mono (by decide))) allN), rfl, (fun c hc => nomatch hc), rfl, (allC y3 allN)⟩ (fun ws M Q E hh => spNames_len hh) names_ok
  have H7 : Fn P w ⟨K, cl⟩ mg base 1 f7 _ ["one", "other", "taken", "added"] spFalls := fn_ok (T := ⟨K, cl⟩) (Γ := ⟨[], []⟩) (p := p_falls) (k := 0) F7 sc_falls ck_falls ⟨allN, rfl, (fun c hc => nomatch hc), rfl, (allC y1 allN)⟩ (fun ws M Q E hh => spFalls_len hh) falls_ok
  have H8 : Fn P w ⟨K, cl⟩ mg base 1 f8 _ ["_law_one", "_law_other", "_law_taken", "_law_added"] spFalls := fn_ok (T := ⟨K, cl⟩) (Γ := ⟨[], []⟩) (p := p_Lfalls) (k := 0) F8 sc_Lfalls ck_Lfalls ⟨allN, rfl, (fun c hc => nomatch hc), rfl, (allC y1 allN)⟩ (fun ws M Q E hh => spFalls_len hh) lfalls_ok
  have H9 : Fn P w ⟨K, cl⟩ mg base 3 f9 _ ["_law_stream", "_law_names_here"] spRow := fn_ok (T := ⟨K, cl⟩) (Γ := ⟨[⟨"_law_draw", spDraw, []⟩, ⟨"_law_pick", spPick, []⟩], []⟩) (p := p_Lrow) (k := 2) F9 sc_Lrow ck_Lrow ⟨(allC (kn_of (T := ⟨K, cl⟩) F0 b0 m0 (H0.mono (by decide))) (allC (kn_of (T := ⟨K, cl⟩) F1 b1 m1 (H1.mono (by decide))) allN)), rfl, (fun c hc => nomatch hc), rfl, (allC y3 allN)⟩ (fun ws M Q E hh => spRow_len hh) row_ok
  have H10 : Fn P w ⟨K, cl⟩ mg base 4 f10 _ ["_law_stream", "_law_row_here", "_law_names_here"] spVaried := fn_ok (T := ⟨K, cl⟩) (Γ := ⟨[⟨"_law_draw", spDraw, []⟩, ⟨"_law_row", spRow, []⟩, ⟨"_law_pick", spPick, []⟩], []⟩) (p := p_Lvaried) (k := 3) F10 sc_Lvaried ck_Lvaried ⟨(allC (kn_of (T := ⟨K, cl⟩) F0 b0 m0 (H0.mono (by decide))) (allC (kn_of (T := ⟨K, cl⟩) F9 b9 m9 (H9.mono (by decide))) (allC (kn_of (T := ⟨K, cl⟩) F1 b1 m1 (H1.mono (by decide))) allN))), rfl, (fun c hc => nomatch hc), rfl, (allC y2 (allC y1 allN))⟩ (fun ws M Q E hh => spVaried_len hh) varied_ok
  exact fn_ok (T := ⟨K, cl⟩) (Γ := ⟨[⟨"_law_names", spNames, []⟩, ⟨"_law_draw", spDraw, []⟩, ⟨"_law_row", spRow, []⟩, ⟨"_law_varied", spVaried, []⟩, ⟨"_law_mixed", spMixed, []⟩, ⟨"_law_some", spSome, []⟩, ⟨"_law_falls", spFalls, []⟩, ⟨"_law_same", spSame, []⟩, ⟨"falls", spFalls, []⟩], []⟩) (p := p_law) (k := 4) F11 sc_law ck_law ⟨(allC (kn_of (T := ⟨K, cl⟩) F6 b6 m6 (H6.mono (by decide))) (allC (kn_of (T := ⟨K, cl⟩) F0 b0 m0 (H0.mono (by decide))) (allC (kn_of (T := ⟨K, cl⟩) F9 b9 m9 (H9.mono (by decide))) (allC (kn_of (T := ⟨K, cl⟩) F10 b10 m10 (H10.mono (by decide))) (allC (kn_of (T := ⟨K, cl⟩) F2 b2 m2 (H2.mono (by decide))) (allC (kn_of (T := ⟨K, cl⟩) F3 b3 m3 (H3.mono (by decide))) (allC (kn_of (T := ⟨K, cl⟩) F8 b8 m8 (H8.mono (by decide))) (allC (kn_of (T := ⟨K, cl⟩) F4 b4 m4 (H4.mono (by decide))) (allC (kn_of (T := ⟨K, cl⟩) F7 b7 m7 (H7.mono (by decide))) allN))))))))), rfl, (fun c hc => nomatch hc), rfl, (allC y2 (allC y3 (allC y5 allN)))⟩ (fun ws M Q E hh => spLaw_len hh) law_ok
end Z
open PySem PySem.W PyProof.Rows
set_option maxHeartbeats 0 in
theorem PySem.Challenge.cw_noneorsome_k35_rows_that_fall_holds : PySem.Challenge.rw_noneorsome_k35_rows_that_fall.Holds := by
  w_on; o_law; k_head; (case hw => w_witness2)
  k_fill
  refine Z.zwalk (l := PySem.Challenge.rw_noneorsome_k35_rows_that_fall) (n := 63) (k := 5) (x := "_law_script") (cls := fun _ _ => 0) (sp := fun _ => Z.spLaw) rfl (by decide) rfl ⟨rfl, by decide, by decide⟩ (fun w h Y => PySem.W.kIn_of Y) ?F (fun _ ns hl _ => Z.spLaw_in ns hl)
  case F =>
    intro w mg fa h KX G hmg
    refine' Z.all_mk (cl := fun _ => 0) KX G hmg ?a0 ?l0 ?c0 ?k0 ?a1 ?l1 ?c1 ?k1 ?a2 ?l2 ?c2 ?k2 ?a3 ?l3 ?c3 ?k3 ?a4 ?l4 ?c4 ?k4 ?a5 ?l5 ?c5 ?k5 ?a6 ?l6 ?c6 ?k6 ?a7 ?l7 ?c7 ?k7 ?a8 ?l8 ?c8 ?k8 ?a9 ?l9 ?c9 ?k9 ?a10 ?l10 ?c10 ?k10 ?a11 ?l11 ?c11 ?k11 ?z0 ?z1 ?z2 ?z3 ?z4 ?z5
    (case a0 => k_is); (case l0 => k_is); (case c0 => k_is); (case k0 => k_is); (case a1 => k_is); (case l1 => k_is); (case c1 => k_is); (case k1 => k_is); (case a2 => k_is); (case l2 => k_is); (case c2 => k_is); (case k2 => k_is); (case a3 => k_is); (case l3 => k_is); (case c3 => k_is); (case k3 => k_is); (case a4 => k_is); (case l4 => k_is); (case c4 => k_is); (case k4 => k_is); (case a5 => k_is); (case l5 => k_is); (case c5 => k_is); (case k5 => k_is); (case a6 => k_is); (case l6 => k_is); (case c6 => k_is); (case k6 => k_is); (case a7 => k_is); (case l7 => k_is); (case c7 => k_is); (case k7 => k_is); (case a8 => k_is); (case l8 => k_is); (case c8 => k_is); (case k8 => k_is); (case a9 => k_is); (case l9 => k_is); (case c9 => k_is); (case k9 => k_is); (case a10 => k_is); (case l10 => k_is); (case c10 => k_is); (case k10 => k_is); (case a11 => k_is); (case l11 => k_is); (case c11 => k_is); (case k11 => k_is); (case z0 => k_is); (case z1 => k_is); (case z2 => k_is); (case z3 => k_is); (case z4 => k_is); (case z5 => k_is)
