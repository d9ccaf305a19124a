import PyProof.Rows.All
import HandS.ForMost
import HandS.Exc
import HandS.TryOnly
import HandS.TryMany
import HandS.ExcOwn
import HandS.WordsExc
import HandS.Flow
import HandS.Wide
import HandS.TupAny
import HandS.RaiseMore
import HandS.IsInst
import HandS.CallRecv
import HandS.HeadWalk
import HandS.Star
import HandS.ClsMeth
import KE.KCallOwn
import KE.KFmtOwn
import KE.KOpsOwn
import HandS.SlotsOwn
import HandS.FStr
import HandS.TupSets
import HandS.Strs
import PyProof.Rows.SortShellAny
import HandS.Deep
import PyProof.InstEq
import HandS.ExcSuper
import HandS.ExcInit
import KE.KExcSuper
import HandS.ExcField
import PyProof.StrBlock2
import HandS.Dict
import HandS.DictComp
import HandS.Iter
import HandS.Conv
import HandS.More
import HandS.WordsDict
import HandS.ListItems
import KE.GoesMore
import KE.LtSeq
import PyProof.TwoTypesSub
import PyProof.Rows.IntBool
import HandS.Style
import HandS.EndBits
import PySem.Challenge.RW_noneorsome_k36_whole_falls_by_numbers
set_option Elab.async false
set_option linter.all false
set_option maxRecDepth 100000
set_option maxHeartbeats 4000000
/-! Z1: data, cells, the relation of a second layer over HandS -/
namespace Z
open PySem PySem.Spec PyProof.Rows L2

/-- plain data -/
inductive D where
  | none | bool (b : Bool) | int (i : Int) | str (s : Str)
  | lst (xs : List D) | tup (xs : List D) | dic (kvs : List (Key × D)) | dit (kvs : List (List Key × D)) | obj (c : Nat) (fs : List (Str × D)) | ref (a : Addr)

structure Tab where
  K : PySem.W.Frag
  cls : Nat → Addr

/-- a dict that is locked while a loop walks it, unlocked -/
def unl : HO → HO
  | .frz _ (.dK kvs) => .dK kvs
  | .frz _ (.dT kvs) => .dT kvs
  | o => o
/-- the view has grown; dicts may have been locked or unlocked -/
def Mo (G G' : Hp) : Prop := ∀ a u, G a = some u → ∃ u', G' a = some u' ∧ unl u' = unl u
theorem Mo.refl (G : Hp) : Mo G G := fun _ u h => ⟨u, h, rfl⟩
theorem Mo.trans {G G1 G2 : Hp} (a : Mo G G1) (b : Mo G1 G2) : Mo G G2 := fun x u h => by
  obtain ⟨u1, h1, e1⟩ := a x u h
  obtain ⟨u2, h2, e2⟩ := b x u1 h1
  exact ⟨u2, h2, e2.trans e1⟩
theorem Mo.of {G G' : Hp} (h : Same G G') : Mo G G' := fun a u e => ⟨u, h a u e, rfl⟩
theorem unl_plain {u u' : HO} (hu : ∀ o k, u' ≠ .frz o (.dK k)) (ht : ∀ o k, u' ≠ .frz o (.dT k)) (e : unl u' = unl u) : u' = unl u := by
  rw [← e]
  cases u' with
  | frz o x => cases x with
    | dK k => exact absurd rfl (hu o k)
    | dT k => exact absurd rfl (ht o k)
    | _ => rfl
  | _ => rfl
theorem unl_lst {u' : HO} {vs : List V} (e : unl u' = .lst vs) : u' = .lst vs := by
  cases u' with
  | frz o x => cases x <;> first | exact e | cases e
  | _ => exact e
theorem unl_tup {u' : HO} {vs : List V} (e : unl u' = .tup vs) : u' = .tup vs := by
  cases u' with
  | frz o x => cases x <;> first | exact e | cases e
  | _ => exact e
theorem unl_ins {u' : HO} {C dx : Addr} {vs : List (Str × V)} (e : unl u' = .ins C dx vs) : u' = .ins C dx vs := by
  cases u' with
  | frz o x => cases x <;> first | exact e | cases e
  | _ => exact e
theorem unl_xd {u' : HO} {vs : List (Str × V)} (e : unl u' = .xd vs) : u' = .xd vs := by
  cases u' with
  | frz o x => cases x <;> first | exact e | cases e
  | _ => exact e
theorem unl_frzL {u' : HO} {o : Obj} {vs : List V} (e : unl u' = .frz o (.lst vs)) : u' = .frz o (.lst vs) := by
  cases u' with
  | frz o x => cases x <;> first | exact e | cases e
  | _ => exact e
theorem unl_frzT {u' : HO} {o : Obj} {vs : List V} (e : unl u' = .frz o (.tup vs)) : u' = .frz o (.tup vs) := by
  cases u' with
  | frz o x => cases x <;> first | exact e | cases e
  | _ => exact e
theorem Mo.lst {G G' : Hp} (m : Mo G G') {a : Addr} {vs : List V} (h : G a = some (.lst vs)) : G' a = some (.lst vs) := by
  obtain ⟨u, h1, e⟩ := m _ _ h
  rw [h1, unl_lst e]
theorem Mo.ins {G G' : Hp} (m : Mo G G') {a C dx : Addr} {vs : List (Str × V)} (h : G a = some (.ins C dx vs)) : G' a = some (.ins C dx vs) := by
  obtain ⟨u, h1, e⟩ := m _ _ h
  rw [h1, unl_ins e]
theorem Mo.xd {G G' : Hp} (m : Mo G G') {a : Addr} {vs : List (Str × V)} (h : G a = some (.xd vs)) : G' a = some (.xd vs) := by
  obtain ⟨u, h1, e⟩ := m _ _ h
  rw [h1, unl_xd e]
theorem Mo.seqL {K : PySem.W.Frag} {G G' : Hp} (m : Mo G G') {a : Addr} {vs : List V} (h : SqL K G a vs) : SqL K G' a vs := by
  rcases h with (h | ⟨o, h⟩) | h
  · exact .inl (.inl (m.lst h))
  · obtain ⟨u, h1, e⟩ := m _ _ h
    exact .inl (.inr ⟨o, by rw [h1, unl_frzL e]⟩)
  · exact .inr h
theorem Mo.seqT {K : PySem.W.Frag} {G G' : Hp} (m : Mo G G') {a : Addr} {vs : List V} (h : SqT K G a vs) : SqT K G' a vs := by
  rcases h with (h | ⟨o, h⟩) | h
  · obtain ⟨u, h1, e⟩ := m _ _ h
    exact .inl (.inl (by rw [h1, unl_tup e]))
  · obtain ⟨u, h1, e⟩ := m _ _ h
    exact .inl (.inr ⟨o, by rw [h1, unl_frzT e]⟩)
  · exact .inr h

mutual
def Rp (T : Tab) (G : Hp) : D → V → Prop
  | .none, v => v = .non
  | .bool b, v => v = .bl b
  | .int i, v => v = .int i
  | .str s, v => v = .str s ∧ s.length ≤ sizeLine
  | .lst xs, v => ∃ a vs, v = .ref a ∧ G a = some (.lst vs) ∧ RpL T G xs vs
  | .tup xs, v => ∃ a vs, v = .ref a ∧ SqT T.K G a vs ∧ RpL T G xs vs
  | .dic kvs, v => ∃ a o vs, v = .ref a ∧ G a = some o ∧ unl o = .dK vs ∧ RpK T G kvs vs
  | .dit kvs, v => ∃ a o vs, v = .ref a ∧ G a = some o ∧ unl o = .dT vs ∧ RpT T G kvs vs
  | .obj c fs, v => ∃ a dx vs, v = .ref a ∧ G a = some (.ins (T.cls c) dx vs) ∧ RpF T G fs vs
  | .ref a, v => v = .ref a
def RpL (T : Tab) (G : Hp) : List D → List V → Prop
  | [], vs => vs = []
  | d :: ds, vs => ∃ v r, vs = v :: r ∧ Rp T G d v ∧ RpL T G ds r
def RpK (T : Tab) (G : Hp) : List (Key × D) → List (Key × V) → Prop
  | [], vs => vs = []
  | (k, d) :: ds, vs => ∃ v r, vs = (k, v) :: r ∧ Rp T G d v ∧ RpK T G ds r
def RpT (T : Tab) (G : Hp) : List (List Key × D) → List (List Key × V) → Prop
  | [], vs => vs = []
  | (k, d) :: ds, vs => ∃ v r, vs = (k, v) :: r ∧ Rp T G d v ∧ RpT T G ds r
def RpF (T : Tab) (G : Hp) : List (Str × D) → List (Str × V) → Prop
  | [], vs => vs = []
  | (k, d) :: ds, vs => ∃ v r, vs = (k, v) :: r ∧ Rp T G d v ∧ RpF T G ds r
end

section
variable {T : Tab} {G G' : Hp}
mutual
theorem Rp.mono (e : Mo G G') : ∀ (d : D) (v : V), Rp T G d v → Rp T G' d v
  | .none, _, h => h
  | .bool _, _, h => h
  | .int _, _, h => h
  | .str _, _, h => h
  | .lst xs, _, ⟨a, vs, e1, e2, h⟩ => ⟨a, vs, e1, e.lst e2, RpL.mono e xs vs h⟩
  | .tup xs, _, ⟨a, vs, e1, e2, h⟩ => ⟨a, vs, e1, e.seqT e2, RpL.mono e xs vs h⟩
  | .dic xs, _, ⟨a, o, vs, e1, e2, e3, h⟩ => by
    obtain ⟨u, h1, h2⟩ := e _ _ e2
    exact ⟨a, u, vs, e1, h1, h2.trans e3, RpK.mono e xs vs h⟩
  | .dit xs, _, ⟨a, o, vs, e1, e2, e3, h⟩ => by
    obtain ⟨u, h1, h2⟩ := e _ _ e2
    exact ⟨a, u, vs, e1, h1, h2.trans e3, RpT.mono e xs vs h⟩
  | .obj c xs, _, ⟨a, dx, vs, e1, e2, h⟩ => ⟨a, dx, vs, e1, e.ins e2, RpF.mono e xs vs h⟩
  | .ref _, _, h => h
theorem RpL.mono (e : Mo G G') : ∀ (d : List D) (v : List V), RpL T G d v → RpL T G' d v
  | [], _, h => h
  | d :: ds, _, ⟨v, r, e1, h, t⟩ => ⟨v, r, e1, Rp.mono e d v h, RpL.mono e ds r t⟩
theorem RpK.mono (e : Mo G G') : ∀ (d : List (Key × D)) (v : List (Key × V)), RpK T G d v → RpK T G' d v
  | [], _, h => h
  | (_, d) :: ds, _, ⟨v, r, e1, h, t⟩ => ⟨v, r, e1, Rp.mono e d v h, RpK.mono e ds r t⟩
theorem RpT.mono (e : Mo G G') : ∀ (d : List (List Key × D)) (v : List (List Key × V)), RpT T G d v → RpT T G' d v
  | [], _, h => h
  | (_, d) :: ds, _, ⟨v, r, e1, h, t⟩ => ⟨v, r, e1, Rp.mono e d v h, RpT.mono e ds r t⟩
theorem RpF.mono (e : Mo G G') : ∀ (d : List (Str × D)) (v : List (Str × V)), RpF T G d v → RpF T G' d v
  | [], _, h => h
  | (_, d) :: ds, _, ⟨v, r, e1, h, t⟩ => ⟨v, r, e1, Rp.mono e d v h, RpF.mono e ds r t⟩
end
end

/-- a value of the second layer: data, a cell that may change, a list that is only read -/
inductive W where
  | d (x : D) | c (a : Addr) | r (xs : List D)
def RW (T : Tab) (G : Hp) : W → V → Prop
  | .d x, v => Rp T G x v
  | .c a, v => v = .ref a
  | .r xs, v => ∃ a vs, v = .ref a ∧ SqL T.K G a vs ∧ RpL T G xs vs
theorem RW.mono {T : Tab} {G G' : Hp} (e : Mo G G') : ∀ {w : W} {v : V}, RW T G w v → RW T G' w v
  | .d x, v, h => Rp.mono e x v h
  | .c _, _, h => h
  | .r xs, _, ⟨a, vs, h1, h2, h3⟩ => ⟨a, vs, h1, e.seqL h2, RpL.mono e xs vs h3⟩
abbrev RWs (T : Tab) (G : Hp) : List W → List V → Prop := Paired (RW T G)
def RWo (T : Tab) (G : Hp) : Option W → Option V → Prop
  | none, _ => True
  | some w, some v => RW T G w v
  | some _, none => False
abbrev St2 := List (Option W)
abbrev RS (T : Tab) (G : Hp) : St2 → L2.St → Prop := Paired (RWo T G)
theorem RWs.mono {T : Tab} {G G' : Hp} (e : Mo G G') {ws : List W} {vs : List V} (h : RWs T G ws vs) : RWs T G' ws vs := Paired.mapP h fun _ _ x => RW.mono e x
theorem RS.mono {T : Tab} {G G' : Hp} (e : Mo G G') {ws : St2} {vs : L2.St} (h : RS T G ws vs) : RS T G' ws vs := Paired.mapP h fun a b x => by
  cases a with
  | none => trivial
  | some w => cases b with
    | none => exact x
    | some v => exact RW.mono (w := w) e x
abbrev RKs {κ : Type} (T : Tab) (G : Hp) : List (κ × W) → List (κ × V) → Prop := Paired fun p q => p.1 = q.1 ∧ RW T G p.2 q.2
theorem RKs.mono {κ : Type} {T : Tab} {G G' : Hp} (e : Mo G G') {ws : List (κ × W)} {vs : List (κ × V)} (h : RKs T G ws vs) : RKs T G' ws vs := Paired.mapP h fun _ _ x => ⟨x.1, RW.mono e x.2⟩
/-- what stands in a cell; a dict that a loop walks is locked -/
inductive Cl where
  | lst (ws : List W) | dic (lk : Option (Obj × List (Key × V))) (kvs : List (Key × W)) | dit (lk : Option (Obj × List (List Key × V))) (kvs : List (List Key × W)) | ins (c : Nat) (dx : Addr) (fs : List (Str × W))
def RC (T : Tab) (G : Hp) : Cl → HO → Prop
  | .lst ws, o => ∃ vs, o = .lst vs ∧ RWs T G ws vs
  | .dic lk ws, o => ∃ vs, (match lk with | some l => o = .frz l.1 (.dK vs) ∧ vs = l.2 | none => o = .dK vs) ∧ RKs T G ws vs
  | .dit lk ws, o => ∃ vs, (match lk with | some l => o = .frz l.1 (.dT vs) ∧ vs = l.2 | none => o = .dT vs) ∧ RKs T G ws vs
  | .ins c dx ws, o => ∃ vs, o = .ins (T.cls c) dx vs ∧ RKs T G ws vs
theorem RC.mono {T : Tab} {G G' : Hp} (e : Mo G G') : ∀ {c : Cl} {o : HO}, RC T G c o → RC T G' c o
  | .lst _, _, ⟨vs, h1, h2⟩ => ⟨vs, h1, h2.mono e⟩
  | .dic _ _, _, ⟨vs, h1, h2⟩ => ⟨vs, h1, h2.mono e⟩
  | .dit _ _, _, ⟨vs, h1, h2⟩ => ⟨vs, h1, h2.mono e⟩
  | .ins _ _ _, _, ⟨vs, h1, h2⟩ => ⟨vs, h1, h2.mono e⟩
abbrev Mp := Addr → Option Cl
def put (M : Mp) (a : Addr) (c : Cl) : Mp := fun b => if b = a then some c else M b
def del (M : Mp) (a : Addr) : Mp := fun b => if b = a then none else M b
theorem put_same {M : Mp} {a : Addr} {c : Cl} : put M a c a = some c := if_pos rfl
theorem put_ne {M : Mp} {a b : Addr} {c : Cl} (h : b ≠ a) : put M a c b = M b := if_neg h
theorem del_same {M : Mp} {a : Addr} : del M a a = none := if_pos rfl
theorem del_ne {M : Mp} {a b : Addr} (h : b ≠ a) : del M a b = M b := if_neg h

structure SR (T : Tab) (G H : Hp) (M : Mp) : Prop where
  le : Same G H
  ce : ∀ a c, M a = some c → G a = none ∧ ∃ o, H a = some o ∧ RC T G c o
section
variable {T : Tab} {G G' H H' : Hp} {M : Mp} {p a : Addr} {o : HO} {c : Cl}
theorem same_new (h : H p = none) : Same H (upd H p o) := fun b x e => by
  rw [upd_ne (ne_of_none e h)]; exact e
theorem SR.free (s : SR T G H M) (h : H p = none) : G p = none := s.le.free h
theorem SR.freeM (s : SR T G H M) (h : H p = none) : M p = none := by
  cases e : M p with
  | none => rfl
  | some c => obtain ⟨_, o, q, _⟩ := s.ce p c e; rw [h] at q; cases q
/-- a new object that never changes -/
theorem SR.laid (s : SR T G H M) (h : H p = none) : SR T (upd G p o) (upd H p o) M := by
  have g : G p = none := s.free h
  refine ⟨fun b x e => ?_, fun b x e => ?_⟩
  · by_cases hb : b = p
    · subst hb; rw [upd_same] at e ⊢; exact e
    · rw [upd_ne hb] at e ⊢; exact s.le _ _ e
  · obtain ⟨g1, o1, h1, r1⟩ := s.ce b x e
    have hb : b ≠ p := ne_of_none h1 h
    exact ⟨by rw [upd_ne hb]; exact g1, o1, by rw [upd_ne hb]; exact h1, r1.mono (Mo.of (same_new g))⟩
/-- a new cell -/
theorem SR.cell (s : SR T G H M) (h : H p = none) (r : RC T G c o) : SR T G (upd H p o) (put M p c) := by
  have g : G p = none := s.free h
  refine ⟨s.le.trans (same_new h), fun b x e => ?_⟩
  by_cases hb : b = p
  · subst hb; rw [put_same] at e; cases e; exact ⟨g, o, upd_same, r⟩
  · rw [put_ne hb] at e
    obtain ⟨g1, o1, h1, r1⟩ := s.ce b x e
    exact ⟨g1, o1, by rw [upd_ne hb]; exact h1, r1⟩
/-- a cell is written -/
theorem SR.write (s : SR T G H M) {c0 : Cl} (h : M a = some c0) (r : RC T G c o) : SR T G (upd H a o) (put M a c) := by
  obtain ⟨g, _⟩ := s.ce a c0 h
  refine ⟨fun b x e => ?_, fun b x e => ?_⟩
  · rw [upd_ne (ne_of_none e g)]; exact s.le _ _ e
  · by_cases hb : b = a
    · subst hb; rw [put_same] at e; cases e; exact ⟨g, o, upd_same, r⟩
    · rw [put_ne hb] at e
      obtain ⟨g1, o1, h1, r1⟩ := s.ce b x e
      exact ⟨g1, o1, by rw [upd_ne hb]; exact h1, r1⟩
theorem SR.drop (s : SR T G H M) : SR T G H (del M a) := ⟨s.le, fun b x e => by
  by_cases hb : b = a
  · subst hb; rw [del_same] at e; cases e
  · rw [del_ne hb] at e; exact s.ce b x e⟩
/-- a cell is frozen -/
theorem SR.freeze (s : SR T G H M) {c0 : Cl} (h : M a = some c0) (ho : H a = some o) : SR T (upd G a o) H (del M a) := by
  obtain ⟨g, _⟩ := s.ce a c0 h
  refine ⟨fun b x e => ?_, fun b x e => ?_⟩
  · by_cases hb : b = a
    · subst hb; rw [upd_same] at e; cases e; exact ho
    · rw [upd_ne hb] at e; exact s.le _ _ e
  · by_cases hb : b = a
    · subst hb; rw [del_same] at e; cases e
    · rw [del_ne hb] at e
      obtain ⟨g1, o1, h1, r1⟩ := s.ce b x e
      exact ⟨by rw [upd_ne hb]; exact g1, o1, h1, r1.mono (Mo.of (same_new g))⟩
end

/-- an exception: its class, its fields -/
structure XV where
  c : Nat
  fs : List (Str × W)
def RX (T : Tab) (G : Hp) (x : XV) (cls : Value) (d : Option Addr) : Prop := cls = .ref (T.cls x.c) ∧ ∃ vs, RKs T G x.fs vs ∧ (x.fs = [] ∨ ∃ dd, d = some dd ∧ G dd = some (.xd vs))
theorem RX.mono {T : Tab} {G G' : Hp} (e : Mo G G') {x : XV} {cls : Value} {d : Option Addr} (h : RX T G x cls d) : RX T G' x cls d := by
  obtain ⟨h1, vs, h2, h3⟩ := h
  refine ⟨h1, vs, h2.mono e, ?_⟩
  rcases h3 with h3 | ⟨dd, e1, e2⟩
  · exact .inl h3
  · exact .inr ⟨dd, e1, e.xd e2⟩

abbrev VK2 := W → Mp → Prop
abbrev XK2 := XV → Mp → Prop
abbrev TE2 := St2 → Mp → VK2 → XK2 → Prop
abbrev TT2 := St2 → Mp → (Bool → Mp → Prop) → XK2 → Prop
abbrev TA2 := St2 → Mp → (List W → Mp → Prop) → XK2 → Prop
abbrev R22 := W → W → Mp → VK2 → XK2 → Prop
abbrev RA2 := List W → Mp → VK2 → XK2 → Prop
structure Ends2 where
  nx : St2 → Mp → Prop
  rt : W → Mp → Prop
  bk : St2 → Mp → Prop
  ct : St2 → Mp → Prop
  ex : XV → St2 → Mp → Prop
abbrev TS2 := Ends2 → St2 → Mp → Prop

section
variable (T : Tab) (Wx : WX)
/-- what follows, told below -/
def PQ (G : Hp) (Q2 : VK2) (Q1 : VK) : Prop := ∀ w M' G' H' v, Mo G G' → SR T G' H' M' → RW T G' w v → Q2 w M' → Q1 v H'
def PB (G : Hp) (Q2 : Bool → Mp → Prop) (Q1 : Bool → Hp → Prop) : Prop := ∀ b M' G' H', Mo G G' → SR T G' H' M' → Q2 b M' → Q1 b H'
def PL (G : Hp) (Q2 : List W → Mp → Prop) (Q1 : List V → Hp → Prop) : Prop := ∀ ws M' G' H' vs, Mo G G' → SR T G' H' M' → RWs T G' ws vs → Q2 ws M' → Q1 vs H'
def PX (G : Hp) (σ1 : L2.St) (E2 : XK2) : Prop := ∀ x M' G' H' cls d, Mo G G' → SR T G' H' M' → RX T G' x cls d → E2 x M' → Wx cls d σ1 H'
def lowE (t : TE2) : TE := fun σ1 H Q1 => ∃ G σ2 M Q2 E2, SR T G H M ∧ RS T G σ2 σ1 ∧ t σ2 M Q2 E2 ∧ PQ T G Q2 Q1 ∧ PX T Wx G σ1 E2
def lowT (t : TT2) : TT := fun σ1 H Q1 => ∃ G σ2 M Q2 E2, SR T G H M ∧ RS T G σ2 σ1 ∧ t σ2 M Q2 E2 ∧ PB T G Q2 Q1 ∧ PX T Wx G σ1 E2
def lowA (t : TA2) : TA := fun σ1 H Q1 => ∃ G σ2 M Q2 E2, SR T G H M ∧ RS T G σ2 σ1 ∧ t σ2 M Q2 E2 ∧ PL T G Q2 Q1 ∧ PX T Wx G σ1 E2
structure PD (G : Hp) (D2 : Ends2) (D1 : Ends) : Prop where
  nx : ∀ σ2 M' G' H' σ1, Mo G G' → SR T G' H' M' → RS T G' σ2 σ1 → D2.nx σ2 M' → D1.nx σ1 H'
  rt : PQ T G D2.rt D1.rt
  bk : ∀ σ2 M' G' H' σ1, Mo G G' → SR T G' H' M' → RS T G' σ2 σ1 → D2.bk σ2 M' → D1.bk σ1 H'
  ct : ∀ σ2 M' G' H' σ1, Mo G G' → SR T G' H' M' → RS T G' σ2 σ1 → D2.ct σ2 M' → D1.ct σ1 H'
  ex : ∀ x σ2 M' G' H' σ1 cls d, Mo G G' → SR T G' H' M' → RS T G' σ2 σ1 → RX T G' x cls d → D2.ex x σ2 M' → Wx cls d σ1 H'
def lowS (t : TS2) : TS := fun D1 σ1 H => ∃ G σ2 M D2, SR T G H M ∧ RS T G σ2 σ1 ∧ t D2 σ2 M ∧ PD T Wx G D2 D1
end
section
variable {T : Tab} {Wx : WX} {G G' : Hp}
theorem PQ.mono {Q2 : VK2} {Q1 : VK} (e : Mo G G') (h : PQ T G Q2 Q1) : PQ T G' Q2 Q1 := fun w M' G'' H' v a b c d => h w M' G'' H' v (e.trans a) b c d
theorem PX.mono {σ1 : L2.St} {E2 : XK2} (e : Mo G G') (h : PX T Wx G σ1 E2) : PX T Wx G' σ1 E2 := fun w M' G'' H' v u a b c d => h w M' G'' H' v u (e.trans a) b c d
theorem PB.mono {Q2 : Bool → Mp → Prop} {Q1 : Bool → Hp → Prop} (e : Mo G G') (h : PB T G Q2 Q1) : PB T G' Q2 Q1 := fun w M' G'' H' a b c => h w M' G'' H' (e.trans a) b c
theorem PL.mono {Q2 : List W → Mp → Prop} {Q1 : List V → Hp → Prop} (e : Mo G G') (h : PL T G Q2 Q1) : PL T G' Q2 Q1 := fun w M' G'' H' v a b c d => h w M' G'' H' v (e.trans a) b c d
theorem PD.mono {D2 : Ends2} {D1 : Ends} (e : Mo G G') (h : PD T Wx G D2 D1) : PD T Wx G' D2 D1 :=
  ⟨fun a b c d f g => h.nx a b c d f (e.trans g), h.rt.mono e, fun a b c d f g => h.bk a b c d f (e.trans g), fun a b c d f g => h.ct a b c d f (e.trans g), fun x a b c d f cl dd g => h.ex x a b c d f cl dd (e.trans g)⟩
end

section
variable {X : Cx} {T : Tab} {Wx : WX}
theorem _root_.L2.PE.imp {e : Expr} {t t' : TE} (h : PE X e t) (i : ∀ σ H Q, t' σ H Q → t σ H Q) : PE X e t' := ⟨fun pins s σ H Q I q => h.run pins s σ H Q I (i _ _ _ q)⟩
theorem _root_.L2.PT.imp {e : Expr} {t t' : TT} (h : PT X e t) (i : ∀ σ H Q, t' σ H Q → t σ H Q) : PT X e t' := ⟨fun pins s σ H Q I q => h.run pins s σ H Q I (i _ _ _ q)⟩
theorem _root_.L2.PW.imp {e : Expr} {t t' : TT} (h : PW X e t) (i : ∀ σ H Q, t' σ H Q → t σ H Q) : PW X e t' := ⟨fun wh pins s σ H Q I q => h.run wh pins s σ H Q I (i _ _ _ q)⟩
theorem _root_.L2.PA.imp {e : List Expr} {t t' : TA} (h : PA X e t) (i : ∀ σ H Q, t' σ H Q → t σ H Q) : PA X e t' := ⟨fun pos pins s σ H Q I q => h.run pos pins s σ H Q I (i _ _ _ q)⟩
theorem _root_.L2.PS.imp {e : Stmt} {t t' : TS} (h : PS X e t) (i : ∀ D σ H, t' D σ H → t D σ H) : PS X e t' := ⟨fun pins s σ H D I q => h.run pins s σ H D I (i _ _ _ q)⟩
theorem _root_.L2.PSs.imp {e : List Stmt} {t t' : TS} (h : PSs X e t) (i : ∀ D σ H, t' D σ H → t D σ H) : PSs X e t' := ⟨fun pins s σ H D I q => h.run pins s σ H D I (i _ _ _ q)⟩
theorem _root_.L2.OpR.imp {f : Value → Value → Sem Value} {r r' : R2} (h : OpR X f r) (i : ∀ x y H Q, r' x y H Q → r x y H Q) : OpR X f r' :=
  fun pins s σ H x y u v Q I rx ry q => h pins s σ H x y u v Q I rx ry (i _ _ _ _ q)
theorem _root_.L2.CallR.imp {f : Value} {r r' : List V → Hp → VK → Prop} (h : CallR X f r) (i : ∀ x H Q, r' x H Q → r x H Q) : CallR X f r' :=
  fun pins s σ H x u Q I rx q => h pins s σ H x u Q I rx (i _ _ _ q)
end
end Z
set_option maxHeartbeats 4000000
/-! Z2: rules of expressions -/
namespace Z
open PySem PySem.Spec PyProof.Rows L2

/-- where code stands: what every rule wants of the context -/
structure Ctx (T : Tab) (k : Nat) (N : List Str) (mg : Str → Option Value) (X : Cx) (Wx : WX) (sc : Scope) : Prop where
  eK : X.K = T.K
  eM : X.mg = mg
  room : Room k X.A
  gd : X.A.guards = some []
  calm : X.calm = true
  tk : Takes X Wx
  eN : X.N = N
  nd : N.Nodup
  eS : X.env.scope = sc

section
variable {X : Cx} {T : Tab} {Wx : WX} {k : Nat} {N : List Str} {mg : Str → Option Value} {sc : Scope}

/-! ### names, constants -/
def wVar (i : Nat) : TE2 := fun σ M Q _ => ∃ w, σ[i]? = some (some w) ∧ Q w M
def wC (x : D) : TE2 := fun _ M Q _ => Q (.d x) M
theorem RS.get {G : Hp} {σ2 : St2} {σ1 : L2.St} (r : RS T G σ2 σ1) {i : Nat} {w : W} (h : σ2[i]? = some (some w)) : ∃ v, σ1[i]? = some (some v) ∧ RW T G w v := by
  induction r generalizing i with
  | nil => simp at h
  | cons a t ih =>
    rename_i x y _ _
    cases i with
    | zero =>
      simp at h
      subst h
      cases y with
      | none => exact (show False from a).elim
      | some v => exact ⟨v, by simp, a⟩
    | succ i =>
      simp at h
      obtain ⟨v, h1, h2⟩ := ih h
      exact ⟨v, by simpa using h1, h2⟩
theorem e_var {i : Nat} {x : Str} {pos : Pos} (h : PE X (.Name x pos) (tVar i)) : PE X (.Name x pos) (lowE T Wx (wVar i)) := h.imp fun σ H Q q => by
  obtain ⟨G, σ2, M, Q2, E2, sr, rs, ⟨w, hw, q2⟩, pq, px⟩ := q
  obtain ⟨v, h1, h2⟩ := RS.get rs hw
  exact ⟨v, h1, pq w M G H v (Mo.refl _) sr h2 q2⟩
theorem e_c {e : Expr} {x : D} {v : V} (h : PE X e (tC v)) (r : ∀ G, Rp T G x v) : PE X e (lowE T Wx (wC x)) := h.imp fun σ H Q q => by
  obtain ⟨G, σ2, M, Q2, E2, sr, rs, q2, pq, px⟩ := q
  exact pq (.d x) M G H v (Mo.refl _) sr (r G) q2

/-! ### two operands -/
/-- the reading of an operator, below; σ: the slots, for what is raised -/
def lowR (T : Tab) (Wx : WX) (r : R22) (σ1 : L2.St) : R2 := fun x y H Q1 => ∃ G wx wy M Q2 E2, SR T G H M ∧ RW T G wx x ∧ RW T G wy y ∧ r wx wy M Q2 E2 ∧ PQ T G Q2 Q1 ∧ PX T Wx G σ1 E2
def Op2 (X : Cx) (T : Tab) (Wx : WX) (f : Value → Value → Sem Value) (r : R22) : Prop :=
  ∀ (pins : List (Addr × Obj)) (s : Shared) (σ : L2.St) (H : Hp) (x y : V) (v u : Value) (Q : VK), Inv X pins σ H s → RelV x v → RelV y u → lowR T Wx r σ x y H Q →
    wpAny (model X.prog X.w) X.A (f v u) (EP X pins σ Q) X.xe s
theorem Op2.of {f : Value → Value → Sem Value} {r : R22} {r1 : R2} (h : OpR X f r1) (i : ∀ σ x y H Q, lowR T Wx r σ x y H Q → r1 x y H Q) : Op2 X T Wx f r :=
  fun pins s σ H x y v u Q I rx ry q => h pins s σ H x y v u Q I rx ry (i _ _ _ _ _ q)
def wBin (r : R22) (ta tb : TE2) : TE2 := fun σ M Q E => ta σ M (fun x M1 => tb σ M1 (fun y M2 => r x y M2 Q E) E) E
/-- both operands, below -/
theorem low_bin {r : R22} {ta tb : TE2} {σ : L2.St} {H : Hp} {Q : VK} (h : lowE T Wx (wBin r ta tb) σ H Q) : lowE T Wx ta σ H fun x H1 => lowE T Wx tb σ H1 fun y H2 => lowR T Wx r σ x y H2 Q := by
  obtain ⟨G, σ2, M, Q2, E2, sr, rs, q2, pq, px⟩ := h
  refine ⟨G, σ2, M, _, E2, sr, rs, q2, fun wx M1 G1 H1 x m1 sr1 rx q3 => ?_, px⟩
  refine ⟨G1, σ2, M1, _, E2, sr1, rs.mono m1, q3, fun wy M2 G2 H2 y m2 sr2 ry q4 => ?_, px.mono m1⟩
  exact ⟨G2, wx, wy, M2, Q2, E2, sr2, rx.mono m2, ry, q4, pq.mono (m1.trans m2), px.mono (m1.trans m2)⟩
variable {a b : Expr} {ta tb tc : TE2} {pos : Pos}
theorem e_bin {op : Operator} {r : R22} (ho : Op2 X T Wx (binaryOp op) r) (ha : PE X a (lowE T Wx ta)) (hb : PE X b (lowE T Wx tb)) : PE X (.BinOp a op b pos) (lowE T Wx (wBin r ta tb)) := by
  refine ⟨fun pins s σ H Q I h => ?_⟩
  exact wpAny_BinOp (bin ha hb I (low_bin h) fun v u s2 x y H2 I2 rx ry q => ho pins s2 σ H2 x y v u Q I2 rx ry q)
theorem e_cmp {op : CmpOp} {r : R22} (ho : Op2 X T Wx (compareOp op) r) (ha : PE X a (lowE T Wx ta)) (hb : PE X b (lowE T Wx tb)) (hm : behindInMarks op b = false) : PE X (.Compare a [op] [b] pos) (lowE T Wx (wBin r ta tb)) := by
  refine ⟨fun pins s σ H Q I h => ?_⟩
  exact wpAny_Compare1 (bin ha hb I (low_bin h) fun v u s2 x y H2 I2 rx ry q => ho pins s2 σ H2 x y v u Q I2 rx ry q) hm
/-- a test by a comparison -/
def wT (t : TE2) : TT2 := fun σ M Q E => t σ M (fun x M1 => ∃ b, x = .d (.bool b) ∧ Q b M1) E
theorem low_T {t : TE2} {σ : L2.St} {H : Hp} {Q : Bool → Hp → Prop} (h : lowT T Wx (wT t) σ H Q) : lowE T Wx t σ H fun x H1 => ∃ b, x = .bl b ∧ Q b H1 := by
  obtain ⟨G, σ2, M, Q2, E2, sr, rs, q2, pq, px⟩ := h
  refine ⟨G, σ2, M, _, E2, sr, rs, q2, fun wx M1 G1 H1 x m1 sr1 rx q3 => ?_, px⟩
  obtain ⟨b, rfl, q3⟩ := q3
  exact ⟨b, rx, pq b M1 G1 H1 m1 sr1 q3⟩
theorem t_cmp {op : CmpOp} {r : R22} (ho : Op2 X T Wx (compareOp op) r) (ha : PE X a (lowE T Wx ta)) (hb : PE X b (lowE T Wx tb)) (hm : behindInMarks op b = false) : PT X (.Compare a [op] [b] pos) (lowT T Wx (wT (wBin r ta tb))) := by
  refine ⟨fun pins s σ H Q I h => ?_⟩
  refine wpAny_isTrue_Compare1 (bin ha hb I (low_bin (low_T h)) fun v u s2 x y H2 I2 rx ry q => ?_) hm
  refine thn (ho pins s2 σ H2 x y v u _ I2 rx ry q) fun c s3 ⟨z, H3, I3, r3, d, e, q3⟩ => ?_
  subst e
  cases r3
  exact wpAny_truthy_bool ⟨H3, I3, q3⟩
/-- a op b op' c -/
def wChain (r r' : R22) (ta tb tc : TE2) : TE2 := fun σ M Q E => ta σ M (fun x M1 => tb σ M1 (fun y M2 => r x y M2 (fun z M3 => ∃ b, z = .d (.bool b) ∧ if b = true then tc σ M3 (fun w M4 => r' y w M4 Q E) E else Q (.d (.bool false)) M3) E) E) E
theorem low_chain {r r' : R22} {σ : L2.St} {H : Hp} {Q : VK} (h : lowE T Wx (wChain r r' ta tb tc) σ H Q) :
    lowE T Wx ta σ H fun x H1 => lowE T Wx tb σ H1 fun y H2 => lowR T Wx r σ x y H2 fun z H3 => ∃ b, z = .bl b ∧ if b = true then lowE T Wx tc σ H3 fun w H4 => lowR T Wx r' σ y w H4 Q else Q (.bl false) H3 := by
  obtain ⟨G, σ2, M, Q2, E2, sr, rs, q2, pq, px⟩ := h
  refine ⟨G, σ2, M, _, E2, sr, rs, q2, fun wx M1 G1 H1 x m1 sr1 rx q3 => ?_, px⟩
  refine ⟨G1, σ2, M1, _, E2, sr1, rs.mono m1, q3, fun wy M2 G2 H2 y m2 sr2 ry q4 => ?_, px.mono m1⟩
  refine ⟨G2, wx, wy, M2, _, E2, sr2, rx.mono m2, ry, q4, fun wz M3 G3 H3 z m3 sr3 rz q5 => ?_, px.mono (m1.trans m2)⟩
  obtain ⟨b, rfl, q5⟩ := q5
  refine ⟨b, rz, ?_⟩
  cases b with
  | false =>
    rw [if_neg Bool.false_ne_true] at q5 ⊢
    exact pq _ M3 G3 H3 _ ((m1.trans m2).trans m3) sr3 (show RW T G3 (.d (.bool false)) (.bl false) from rfl) q5
  | true =>
    rw [if_pos rfl] at q5 ⊢
    refine ⟨G3, σ2, M3, _, E2, sr3, rs.mono ((m1.trans m2).trans m3), q5, fun ww M4 G4 H4 w m4 sr4 rw4 q6 => ?_, px.mono ((m1.trans m2).trans m3)⟩
    exact ⟨G4, wy, ww, M4, Q2, E2, sr4, ry.mono (m3.trans m4), rw4, q6, pq.mono (((m1.trans m2).trans m3).trans m4), px.mono (((m1.trans m2).trans m3).trans m4)⟩
theorem e_chain {c : Expr} {op op' : CmpOp} {r r' : R22} (ho : Op2 X T Wx (compareOp op) r) (ho' : Op2 X T Wx (compareOp op') r') (ha : PE X a (lowE T Wx ta)) (hb : PE X b (lowE T Wx tb)) (hc : PE X c (lowE T Wx tc))
    (hm : lastMarks [op, op'] [b, c] = false) : PE X (.Compare a [op, op'] [b, c] pos) (lowE T Wx (wChain r r' ta tb tc)) := by
  refine ⟨fun pins s σ H Q I h => ?_⟩
  refine Compare_chain (thn (ha.run pins s σ H _ I (low_chain h)) fun v s1 ⟨x, H1, I1, r1, q1⟩ => chain_link (thn (hb.run pins s1 σ H1 _ I1 q1) fun u s2 ⟨y, H2, I2, r2, q2⟩ =>
    thn (ho pins s2 σ H2 x y v u _ I2 r1 r2 q2) fun d s3 ⟨z, H3, I3, r3, kk, e, q3⟩ => ?_)) hm
  subst e
  cases r3
  refine wpAny_truthy_bool ?_
  cases kk with
  | false => exact ite_ff ⟨.bl false, H3, I3, rfl, q3⟩
  | true => exact ite_tt (chain_last (thn (hc.run pins s3 σ H3 _ I3 q3) fun w' s4 ⟨z', H4, I4, r4, q4⟩ => ho' pins s4 σ H4 y z' u w' Q I4 r2 r4 q4))
theorem t_chain {c : Expr} {op op' : CmpOp} {r r' : R22} (ho : Op2 X T Wx (compareOp op) r) (ho' : Op2 X T Wx (compareOp op') r') (ha : PE X a (lowE T Wx ta)) (hb : PE X b (lowE T Wx tb)) (hc : PE X c (lowE T Wx tc))
    (hm : lastMarks [op, op'] [b, c] = false) : PT X (.Compare a [op, op'] [b, c] pos) (lowT T Wx (wT (wChain r r' ta tb tc))) := by
  refine ⟨fun pins s σ H Q I h => ?_⟩
  refine isTrue_chain (thn (ha.run pins s σ H _ I (low_chain (low_T h))) fun v s1 ⟨x, H1, I1, r1, q1⟩ => test_link (thn (hb.run pins s1 σ H1 _ I1 q1) fun u s2 ⟨y, H2, I2, r2, q2⟩ =>
    thn (ho pins s2 σ H2 x y v u _ I2 r1 r2 q2) fun d s3 ⟨z, H3, I3, r3, kk, e, q3⟩ => ?_)) hm
  subst e
  cases r3
  refine wpAny_truthy_bool ?_
  cases kk with
  | false =>
    obtain ⟨k', e', q'⟩ := q3
    cases e'
    exact ite_ff ⟨H3, I3, q'⟩
  | true =>
    refine ite_tt (test_last (thn (hc.run pins s3 σ H3 _ I3 q3) fun w' s4 ⟨z', H4, I4, r4, q4⟩ => thn (ho' pins s4 σ H4 y z' u w' _ I4 r2 r4 q4) fun d' s5 ⟨z2, H5, I5, r5, k2, e2, q5⟩ => ?_))
    subst e2
    cases r5
    exact wpAny_truthy_bool ⟨H5, I5, q5⟩

/-! ### truth, and, or, not, if -/
/-- a value's truth (an object without __len__ and __bool__ is not asked here) -/
def truD : D → Option Bool
  | .none => some false
  | .bool b => some b
  | .int i => some (i != 0)
  | .str s => some ((s.length : Int) != 0)
  | .lst xs => some (!xs.isEmpty)
  | .tup xs => some (!xs.isEmpty)
  | _ => none
def truC : Option Cl → Option Bool
  | some (.lst ws) => some (!ws.isEmpty)
  | some (.dic none kvs) => some (!kvs.isEmpty)
  | _ => none
def tru (M : Mp) : W → Option Bool
  | .d x => truD x
  | .c a => truC (M a)
  | .r _ => none
theorem RpL.len {G : Hp} : ∀ {ds : List D} {vs : List V}, RpL T G ds vs → ds.length = vs.length
  | [], _, h => by rw [RpL] at h; rw [h]; rfl
  | _ :: ds, _, ⟨v, r, e, _, t⟩ => by rw [e, List.length_cons, List.length_cons, RpL.len t]
theorem isEmpty_len {α β : Type} {xs : List α} {ys : List β} (h : xs.length = ys.length) : xs.isEmpty = ys.isEmpty := by
  cases xs <;> cases ys <;> first | rfl | cases h
theorem tru_low {G H : Hp} {M : Mp} {w : W} {v : V} {b : Bool} (sr : SR T G H M) (r : RW T G w v) (h : tru M w = some b) (hk : X.K = T.K) : TruV X.K v H b := by
  rw [hk]
  match w, r, h with
  | .d .none, r, h => cases (show v = .non from r); cases h; rfl
  | .d (.bool _), r, h => cases (show v = .bl _ from r); cases h; rfl
  | .d (.int _), r, h => cases (show v = .int _ from r); cases h; rfl
  | .d (.str _), r, h => obtain ⟨e, z⟩ := r; cases e; cases h; exact ⟨z, rfl⟩
  | .d (.lst xs), r, h =>
    obtain ⟨a, vs, e, e2, rr⟩ := r
    have z := rr.len
    cases e; cases h
    exact .inl ⟨vs, SqL.of (sr.le _ _ e2), by rw [isEmpty_len z]⟩
  | .d (.tup xs), r, h =>
    obtain ⟨a, vs, e, e2, rr⟩ := r
    have z := rr.len
    cases e; cases h
    exact .inr (.inl ⟨vs, (Mo.of sr.le).seqT e2, by rw [isEmpty_len z]⟩)
  | .d (.dic _), r, h => cases h
  | .d (.dit _), r, h => cases h
  | .d (.obj _ _), r, h => cases h
  | .d (.ref _), r, h => cases h
  | .r _, r, h => cases h
  | .c a, r, h =>
    cases (show v = .ref a from r)
    have h : truC (M a) = some b := h
    cases e : M a with
    | none => rw [e] at h; cases h
    | some c =>
      rw [e] at h
      obtain ⟨_, o, ho, rc⟩ := sr.ce _ _ e
      match c, h, rc with
      | .lst ws, h, ⟨vs, e2, rr⟩ =>
        cases h
        have z := Paired.length rr
        subst e2
        exact .inl ⟨vs, SqL.of ho, by rw [isEmpty_len z]⟩
      | .dic none kvs, h, ⟨vs, e2, rr⟩ =>
        cases h
        have z := Paired.length rr
        have e2 : o = .dK vs := e2
        subst e2
        exact .inr (.inr ⟨vs, ho, by rw [isEmpty_len z]⟩)
      | .dic (some _) kvs, h, _ => cases h
      | .dit _ kvs, h, _ => cases h
      | .ins _ _ kvs, h, _ => cases h
/-- an expression by its truth -/
def wTru (t : TE2) : TT2 := fun σ M Q E => t σ M (fun x M1 => ∃ b, tru M1 x = some b ∧ Q b M1) E
theorem t_tru (C : Ctx T k N mg X Wx sc) (ha : PE X a (lowE T Wx ta)) (he : ∀ whole, isTrue a X.env whole = (do let v ← whole; standAt a.pos; holding [v] (truthy v))) : PT X a (lowT T Wx (wTru ta)) := (pt_truth ha he).imp fun σ H Q q => by
  obtain ⟨G, σ2, M, Q2, E2, sr, rs, q2, pq, px⟩ := q
  refine ⟨G, σ2, M, _, E2, sr, rs, q2, fun wx M1 G1 H1 x m1 sr1 rx q3 => ?_, px⟩
  obtain ⟨b, e, q3⟩ := q3
  exact ⟨b, tru_low sr1 rx e C.eK, pq b M1 G1 H1 m1 sr1 q3⟩
def wAndT (t u : TT2) : TT2 := fun σ M Q E => t σ M (fun b M1 => if b = true then u σ M1 Q E else Q false M1) E
def wOrT (t u : TT2) : TT2 := fun σ M Q E => t σ M (fun b M1 => if b = true then Q true M1 else u σ M1 Q E) E
def wNotT (t : TT2) : TT2 := fun σ M Q E => t σ M (fun b M1 => Q (!b) M1) E
variable {tt tu : TT2} {rest : List Expr}
theorem low_andT {σ : L2.St} {H : Hp} {Q : Bool → Hp → Prop} (h : lowT T Wx (wAndT tt tu) σ H Q) : tAnd (lowT T Wx tt) (lowT T Wx tu) σ H Q := by
  obtain ⟨G, σ2, M, Q2, E2, sr, rs, q2, pq, px⟩ := h
  refine ⟨G, σ2, M, _, E2, sr, rs, q2, fun b M1 G1 H1 m1 sr1 q3 => ?_, px⟩
  cases b with
  | false =>
    rw [if_neg Bool.false_ne_true] at q3 ⊢
    exact pq _ M1 G1 H1 m1 sr1 q3
  | true =>
    rw [if_pos rfl] at q3 ⊢
    exact ⟨G1, σ2, M1, Q2, E2, sr1, rs.mono m1, q3, pq.mono m1, px.mono m1⟩
theorem low_orT {σ : L2.St} {H : Hp} {Q : Bool → Hp → Prop} (h : lowT T Wx (wOrT tt tu) σ H Q) : tOr (lowT T Wx tt) (lowT T Wx tu) σ H Q := by
  obtain ⟨G, σ2, M, Q2, E2, sr, rs, q2, pq, px⟩ := h
  refine ⟨G, σ2, M, _, E2, sr, rs, q2, fun b M1 G1 H1 m1 sr1 q3 => ?_, px⟩
  cases b with
  | true =>
    rw [if_pos rfl] at q3 ⊢
    exact pq _ M1 G1 H1 m1 sr1 q3
  | false =>
    rw [if_neg Bool.false_ne_true] at q3 ⊢
    exact ⟨G1, σ2, M1, Q2, E2, sr1, rs.mono m1, q3, pq.mono m1, px.mono m1⟩
theorem tw_and1 (ha : PT X a (lowT T Wx tt)) : PW X (.BoolOp .And [a] pos) (lowT T Wx tt) := pw_and1 ha
theorem tw_or1 (ha : PT X a (lowT T Wx tt)) : PW X (.BoolOp .Or [a] pos) (lowT T Wx tt) := pw_or1 ha
theorem tw_and (ha : PT X a (lowT T Wx tt)) (hb : PW X (.BoolOp .And (b :: rest) pos) (lowT T Wx tu)) : PW X (.BoolOp .And (a :: b :: rest) pos) (lowT T Wx (wAndT tt tu)) := (pw_and ha hb).imp fun _ _ _ q => low_andT q
theorem tw_or (ha : PT X a (lowT T Wx tt)) (hb : PW X (.BoolOp .Or (b :: rest) pos) (lowT T Wx tu)) : PW X (.BoolOp .Or (a :: b :: rest) pos) (lowT T Wx (wOrT tt tu)) := (pw_or ha hb).imp fun _ _ _ q => low_orT q
theorem t_not (ha : PT X a (lowT T Wx tt)) : PT X (.UnaryOp .Not a pos) (lowT T Wx (wNotT tt)) := (pt_not ha).imp fun σ H Q h => by
  obtain ⟨G, σ2, M, Q2, E2, sr, rs, q2, pq, px⟩ := h
  exact ⟨G, σ2, M, _, E2, sr, rs, q2, fun b M1 G1 H1 m1 sr1 q3 => pq _ M1 G1 H1 m1 sr1 q3, px⟩
/-- as values -/
def wAndV (ta tb : TE2) : TE2 := fun σ M Q E => ta σ M (fun x M1 => ∃ b, tru M1 x = some b ∧ if b = true then tb σ M1 Q E else Q x M1) E
def wOrV (ta tb : TE2) : TE2 := fun σ M Q E => ta σ M (fun x M1 => ∃ b, tru M1 x = some b ∧ if b = true then Q x M1 else tb σ M1 Q E) E
def wNotV (ta : TE2) : TE2 := fun σ M Q E => ta σ M (fun x M1 => ∃ b, tru M1 x = some b ∧ Q (.d (.bool (!b))) M1) E
theorem e_and1 {op} (h : PE X a (lowE T Wx ta)) : PE X (.BoolOp op [a] pos) (lowE T Wx ta) := pe_one h
theorem e_and (C : Ctx T k N mg X Wx sc) (ha : PE X a (lowE T Wx ta)) (hb : PE X (.BoolOp .And (b :: rest) pos) (lowE T Wx tb)) : PE X (.BoolOp .And (a :: b :: rest) pos) (lowE T Wx (wAndV ta tb)) := (pe_andT ha hb).imp fun σ H Q h => by
  obtain ⟨G, σ2, M, Q2, E2, sr, rs, q2, pq, px⟩ := h
  refine ⟨G, σ2, M, _, E2, sr, rs, q2, fun w M1 G1 H1 v m1 sr1 rw1 q3 => ?_, px⟩
  obtain ⟨b, e, q3⟩ := q3
  refine ⟨b, tru_low sr1 rw1 e C.eK, ?_⟩
  cases b with
  | false =>
    rw [if_neg Bool.false_ne_true] at q3 ⊢
    exact pq _ M1 G1 H1 v m1 sr1 rw1 q3
  | true =>
    rw [if_pos rfl] at q3 ⊢
    exact ⟨G1, σ2, M1, Q2, E2, sr1, rs.mono m1, q3, pq.mono m1, px.mono m1⟩
theorem e_or (C : Ctx T k N mg X Wx sc) (ha : PE X a (lowE T Wx ta)) (hb : PE X (.BoolOp .Or (b :: rest) pos) (lowE T Wx tb)) : PE X (.BoolOp .Or (a :: b :: rest) pos) (lowE T Wx (wOrV ta tb)) := (pe_orT ha hb).imp fun σ H Q h => by
  obtain ⟨G, σ2, M, Q2, E2, sr, rs, q2, pq, px⟩ := h
  refine ⟨G, σ2, M, _, E2, sr, rs, q2, fun w M1 G1 H1 v m1 sr1 rw1 q3 => ?_, px⟩
  obtain ⟨b, e, q3⟩ := q3
  refine ⟨b, tru_low sr1 rw1 e C.eK, ?_⟩
  cases b with
  | true =>
    rw [if_pos rfl] at q3 ⊢
    exact pq _ M1 G1 H1 v m1 sr1 rw1 q3
  | false =>
    rw [if_neg Bool.false_ne_true] at q3 ⊢
    exact ⟨G1, σ2, M1, Q2, E2, sr1, rs.mono m1, q3, pq.mono m1, px.mono m1⟩
theorem e_not (C : Ctx T k N mg X Wx sc) (ha : PE X a (lowE T Wx ta)) : PE X (.UnaryOp .Not a pos) (lowE T Wx (wNotV ta)) := (pe_notT ha).imp fun σ H Q h => by
  obtain ⟨G, σ2, M, Q2, E2, sr, rs, q2, pq, px⟩ := h
  refine ⟨G, σ2, M, _, E2, sr, rs, q2, fun w M1 G1 H1 v m1 sr1 rw1 q3 => ?_, px⟩
  obtain ⟨b, e, q3⟩ := q3
  exact ⟨b, tru_low sr1 rw1 e C.eK, pq _ M1 G1 H1 _ m1 sr1 (show RW T G1 (.d (.bool (!b))) (.bl (!b)) from rfl) q3⟩
def wIf (t : TT2) (ta tb : TE2) : TE2 := fun σ M Q E => t σ M (fun b M1 => if b = true then ta σ M1 Q E else tb σ M1 Q E) E
theorem e_if {c : Expr} (hc : PT X c (lowT T Wx tt)) (ha : PE X a (lowE T Wx ta)) (hb : PE X b (lowE T Wx tb)) : PE X (.IfExp c a b pos) (lowE T Wx (wIf tt ta tb)) := (pe_ifExp hc ha hb).imp fun σ H Q h => by
  obtain ⟨G, σ2, M, Q2, E2, sr, rs, q2, pq, px⟩ := h
  refine ⟨G, σ2, M, _, E2, sr, rs, q2, fun b M1 G1 H1 m1 sr1 q3 => ?_, px⟩
  cases b with
  | true =>
    rw [if_pos rfl] at q3 ⊢
    exact ⟨G1, σ2, M1, Q2, E2, sr1, rs.mono m1, q3, pq.mono m1, px.mono m1⟩
  | false =>
    rw [if_neg Bool.false_ne_true] at q3 ⊢
    exact ⟨G1, σ2, M1, Q2, E2, sr1, rs.mono m1, q3, pq.mono m1, px.mono m1⟩

/-! ### argument lists, displays -/
def wNil : TA2 := fun _ M Q _ => Q [] M
def wCons (t : TE2) (u : TA2) : TA2 := fun σ M Q E => t σ M (fun x M1 => u σ M1 (fun xs M2 => Q (x :: xs) M2) E) E
variable {es : List Expr} {tl : TA2} {e : Expr} {te : TE2}
theorem a_nil : PA X [] (lowA T Wx wNil) := pa_nil.imp fun σ H Q h => by
  obtain ⟨G, σ2, M, Q2, E2, sr, rs, q2, pq, px⟩ := h
  exact pq [] M G H [] (Mo.refl _) sr .nil q2
theorem a_cons (ha : PE X e (lowE T Wx te)) (hr : PA X es (lowA T Wx tl)) (hs : starEach (e :: es) X.env = (false, eval e X.env) :: starEach es X.env) : PA X (e :: es) (lowA T Wx (wCons te tl)) := (pa_cons ha hr hs).imp fun σ H Q h => by
  obtain ⟨G, σ2, M, Q2, E2, sr, rs, q2, pq, px⟩ := h
  refine ⟨G, σ2, M, _, E2, sr, rs, q2, fun w M1 G1 H1 v m1 sr1 rw1 q3 => ?_, px⟩
  refine ⟨G1, σ2, M1, _, E2, sr1, rs.mono m1, q3, fun ws M2 G2 H2 vs m2 sr2 rw2 q4 => ?_, px.mono m1⟩
  exact pq (w :: ws) M2 G2 H2 (v :: vs) (m1.trans m2) sr2 (.cons (rw1.mono m2) rw2) q4
/-- all data -/
def unD : List W → Option (List D)
  | [] => some []
  | .d x :: r => (unD r).map (x :: ·)
  | _ :: _ => none
@[simp] theorem unD_map (ds : List D) : unD (ds.map W.d) = some ds := by
  induction ds with
  | nil => rfl
  | cons x r ih => show (unD (r.map W.d)).map (x :: ·) = _; rw [ih]; rfl
theorem unD_eq : ∀ {ws : List W} {ds : List D}, unD ws = some ds → ws = ds.map W.d
  | [], ds, h => by cases h; rfl
  | .d x :: r, ds, h => by
    cases q : unD r with
    | none => unfold unD at h; rw [q] at h; cases h
    | some l => unfold unD at h; rw [q] at h; cases h; rw [unD_eq q]; rfl
  | .c _ :: _, ds, h => by cases h
  | .r _ :: _, ds, h => by cases h
theorem RpL.of {G : Hp} : ∀ {ds : List D} {vs : List V}, RWs T G (ds.map W.d) vs → RpL T G ds vs
  | [], _, .nil => rfl
  | d :: ds, _, .cons h t => ⟨_, _, rfl, h, RpL.of t⟩
theorem RpL.to {G : Hp} : ∀ {ds : List D} {vs : List V}, RpL T G ds vs → RWs T G (ds.map W.d) vs
  | [], _, h => by rw [RpL] at h; rw [h]; exact .nil
  | d :: ds, _, ⟨v, r, e, h, t⟩ => by rw [e]; exact .cons h (RpL.to t)
theorem RWs.len {G : Hp} {ws : List W} {vs : List V} (r : RWs T G ws vs) : ws.length = vs.length := Paired.length r
def wTup (t : TA2) : TE2 := fun σ M Q E => t σ M (fun ws M1 => ∃ ds, unD ws = some ds ∧ ds.length ≤ 1000 ∧ Q (.d (.tup ds)) M1) E
theorem small {n : Nat} (h : n ≤ 1000) : n ≤ sizeLine := Nat.le_trans h (by rw [sizeLine_eq]; decide)
theorem e_tup {x1} (h : PA X es (lowA T Wx tl)) : PE X (.Tuple es x1 pos) (lowE T Wx (wTup tl)) := (pe_tup h).imp fun σ H Q h => by
  obtain ⟨G, σ2, M, Q2, E2, sr, rs, q2, pq, px⟩ := h
  refine ⟨G, σ2, M, _, E2, sr, rs, q2, fun ws M1 G1 H1 vs m1 sr1 rw1 q3 => ?_, px⟩
  obtain ⟨ds, e, hl, q3⟩ := q3
  cases unD_eq e
  have hz : vs.length ≤ 1000 := by rw [← rw1.len, List.length_map]; exact hl
  refine ⟨small hz, fun p hp => ?_⟩
  have mo := Mo.of (same_new (o := HO.tup vs) (sr1.free hp))
  exact pq (.d (.tup ds)) M1 _ _ (.ref p) (m1.trans mo) (sr1.laid hp) ⟨p, vs, rfl, SqT.of upd_same, (RpL.of rw1).mono mo⟩ q3
/-- a new list: data (b = false), or a cell -/
def wLst (b : Bool) (t : TA2) : TE2 := fun σ M Q E => t σ M (fun ws M1 => ws.length ≤ 1000 ∧ if b = true then ∀ p, M1 p = none → Q (.c p) (put M1 p (.lst ws)) else ∃ ds, unD ws = some ds ∧ Q (.d (.lst ds)) M1) E
/-- how a new list is told -/
def newL (b : Bool) (ws : List W) (M : Mp) (Q : VK2) : Prop := if b = true then ∀ p, M p = none → Q (.c p) (put M p (.lst ws)) else ∃ ds, unD ws = some ds ∧ Q (.d (.lst ds)) M
theorem newL_low {b : Bool} {ws : List W} {M : Mp} {Q2 : VK2} {Q : VK} {G H : Hp} {vs : List V} (sr : SR T G H M) (r : RWs T G ws vs) (q : newL b ws M Q2) (pq : PQ T G Q2 Q) {p : Addr} (hp : H p = none) : Q (.ref p) (upd H p (.lst vs)) := by
  unfold newL at q
  cases b with
  | true =>
    rw [if_pos rfl] at q
    exact pq (.c p) _ G _ (.ref p) (Mo.refl _) (sr.cell hp (show RC T G (.lst ws) (.lst vs) from ⟨vs, rfl, r⟩)) rfl (q p (sr.freeM hp))
  | false =>
    rw [if_neg Bool.false_ne_true] at q
    obtain ⟨ds, e, q3⟩ := q
    cases unD_eq e
    have mo := Mo.of (same_new (o := HO.lst vs) (sr.free hp))
    exact pq (.d (.lst ds)) M _ _ (.ref p) mo (sr.laid hp) ⟨p, vs, rfl, upd_same, (RpL.of r).mono mo⟩ q3
theorem e_lst {m : Bool} (h : PA X es (lowA T Wx tl)) : PE X (.List es pos) (lowE T Wx (wLst m tl)) := (pe_lst h).imp fun σ H Q h => by
  obtain ⟨G, σ2, M, Q2, E2, sr, rs, q2, pq, px⟩ := h
  refine ⟨G, σ2, M, _, E2, sr, rs, q2, fun ws M1 G1 H1 vs m1 sr1 rw1 q3 => ?_, px⟩
  obtain ⟨hl, q3⟩ := q3
  have hz : vs.length ≤ 1000 := by rw [← rw1.len]; exact hl
  exact ⟨small hz, fun p hp => newL_low sr1 rw1 (show newL m ws M1 Q2 from q3) (pq.mono m1) hp⟩
end
end Z
set_option maxHeartbeats 4000000
/-! Z3: operators, subscripts, built-in functions -/
namespace Z
open PySem PySem.Spec PyProof.Rows L2

/-! ### data as the kit's data -/
mutual
def toPy : D → Option PyData
  | .none => some .none
  | .bool b => some (.bool b)
  | .int i => some (.int i)
  | .str s => some (.str s)
  | .lst xs => (toPyL xs).map .list
  | .tup xs => (toPyL xs).map .tuple
  | _ => none
def toPyL : List D → Option (List PyData)
  | [] => some []
  | d :: ds => (toPy d).bind fun p => (toPyL ds).map (p :: ·)
end
section
variable {T : Tab} {G H : Hp}
mutual
theorem Rp.dp (e : Mo G H) (d : D) (v : V) (p : PyData) (h0 : Rp T G d v) (q0 : toPy d = some p) : Dp T.K H v p := match d, v, p, h0, q0 with
  | .none, _, _, h, q => by cases (show _ = V.non from h); cases q; exact .non
  | .bool b, _, _, h, q => by cases (show _ = V.bl b from h); cases q; exact .bl b
  | .int b, _, _, h, q => by cases (show _ = V.int b from h); cases q; exact .int b
  | .str b, _, _, h, q => by obtain ⟨h, _⟩ := h; cases h; cases q; exact .str b
  | .lst xs, _, _, ⟨a, vs, e1, e2, h⟩, q => by
    cases e1
    unfold toPy at q
    cases z : toPyL xs with
    | none => rw [z] at q; cases q
    | some l => rw [z] at q; cases q; exact .lst (SqL.of (e.lst e2)) (RpL.dp e xs vs l h z)
  | .tup xs, _, _, ⟨a, vs, e1, e2, h⟩, q => by
    cases e1
    unfold toPy at q
    cases z : toPyL xs with
    | none => rw [z] at q; cases q
    | some l => rw [z] at q; cases q; exact .tup (e.seqT e2) (RpL.dp e xs vs l h z)
  | .dic _, _, _, _, q => by cases q
  | .dit _, _, _, _, q => by cases q
  | .obj _ _, _, _, _, q => by cases q
  | .ref _, _, _, _, q => by cases q
termination_by structural d
theorem RpL.dp (e : Mo G H) (d : List D) (v : List V) (p : List PyData) (h0 : RpL T G d v) (q0 : toPyL d = some p) : DpAll T.K H v p := match d, v, p, h0, q0 with
  | [], _, _, h, q => by cases q; rw [RpL] at h; rw [h]; exact .nil
  | d :: ds, _, _, ⟨v, r, e1, h, t⟩, q => by
    rw [e1]
    unfold toPyL at q
    cases z : toPy d with
    | none => rw [z] at q; cases q
    | some p =>
      rw [z] at q
      cases z2 : toPyL ds with
      | none => rw [z2] at q; cases q
      | some l => rw [z2] at q; cases q; exact .cons (Rp.dp e d v p h z) (RpL.dp e ds r l t z2)
termination_by structural d
end
end
/-- a list's items, in a cell or as data -/
def itemsC : Option Cl → Option (List W)
  | some (.lst ws) => some ws
  | _ => none
def itemsD : D → Option (List D)
  | .lst xs => some xs
  | _ => none
def listW (M : Mp) : W → Option (List W)
  | .d x => (itemsD x).map (·.map W.d)
  | .c a => itemsC (M a)
  | .r xs => some (xs.map W.d)
def dataL (M : Mp) (w : W) : Option (List D) := (listW M w).bind unD
def toPyW (M : Mp) : W → Option PyData
  | .d x => toPy x
  | .c a => ((itemsC (M a)).bind unD).bind fun ds => (toPyL ds).map .list
  | .r _ => none
section
variable {T : Tab} {G H : Hp} {M : Mp}
theorem listW_low (sr : SR T G H M) {w : W} {v : V} {ws : List W} (r : RW T G w v) (h : listW M w = some ws) : ∃ a vs, v = .ref a ∧ SqL T.K H a vs ∧ RWs T G ws vs := by
  cases w with
  | d x =>
    cases x with
    | lst xs =>
      obtain ⟨a, vs, e, e2, rr⟩ := (show ∃ a vs, v = .ref a ∧ G a = some (.lst vs) ∧ RpL T G xs vs from r)
      cases (show some (xs.map W.d) = some ws from h)
      exact ⟨a, vs, e, SqL.of (sr.le _ _ e2), rr.to⟩
    | _ => exact nomatch (show (none : Option (List W)) = some ws from h)
  | r xs =>
    obtain ⟨a, vs, e, e2, rr⟩ := (show ∃ a vs, v = .ref a ∧ SqL T.K G a vs ∧ RpL T G xs vs from r)
    cases (show some (xs.map W.d) = some ws from h)
    exact ⟨a, vs, e, (Mo.of sr.le).seqL e2, rr.to⟩
  | c a =>
    have h : itemsC (M a) = some ws := h
    cases e : M a with
    | none => rw [e] at h; cases h
    | some c =>
      rw [e] at h
      obtain ⟨_, o, ho, rc⟩ := sr.ce _ _ e
      cases c with
      | lst us =>
        cases (show some us = some ws from h)
        obtain ⟨vs, e2, rr⟩ := (show ∃ vs, o = .lst vs ∧ RWs T G ws vs from rc)
        subst e2
        exact ⟨a, vs, r, SqL.of ho, rr⟩
      | _ => exact nomatch (show (none : Option (List W)) = some ws from h)
/-- the same where the object itself is wanted -/
theorem listW_at (sr : SR T G H M) {w : W} {v : V} {ws : List W} (r : RW T G w v) (h : listW M w = some ws) (nr : ∀ xs, w ≠ .r xs) : ∃ a vs, v = .ref a ∧ H a = some (.lst vs) ∧ RWs T G ws vs := by
  cases w with
  | d x =>
    cases x with
    | lst xs =>
      obtain ⟨a, vs, e, e2, rr⟩ := (show ∃ a vs, v = .ref a ∧ G a = some (.lst vs) ∧ RpL T G xs vs from r)
      cases (show some (xs.map W.d) = some ws from h)
      exact ⟨a, vs, e, sr.le _ _ e2, rr.to⟩
    | _ => exact nomatch (show (none : Option (List W)) = some ws from h)
  | r xs => exact absurd rfl (nr xs)
  | c a =>
    have h : itemsC (M a) = some ws := h
    cases e : M a with
    | none => rw [e] at h; cases h
    | some c =>
      rw [e] at h
      obtain ⟨_, o, ho, rc⟩ := sr.ce _ _ e
      cases c with
      | lst us =>
        cases (show some us = some ws from h)
        obtain ⟨vs, e2, rr⟩ := (show ∃ vs, o = .lst vs ∧ RWs T G ws vs from rc)
        subst e2
        exact ⟨a, vs, r, ho, rr⟩
      | _ => exact nomatch (show (none : Option (List W)) = some ws from h)
theorem toPyW_low (sr : SR T G H M) {w : W} {v : V} {p : PyData} (r : RW T G w v) (h : toPyW M w = some p) : Dp T.K H v p := by
  cases w with
  | d x => exact Rp.dp (Mo.of sr.le) x v p r h
  | r xs => exact nomatch (show (none : Option PyData) = some p from h)
  | c a =>
    have h : ((itemsC (M a)).bind unD).bind (fun ds => (toPyL ds).map PyData.list) = some p := h
    cases e : itemsC (M a) with
    | none => rw [e] at h; cases h
    | some ws =>
      rw [e] at h
      cases e2 : unD ws with
      | none => rw [Option.bind_some, e2] at h; cases h
      | some ds =>
        rw [Option.bind_some, e2] at h
        cases e3 : toPyL ds with
        | none => rw [Option.bind_some, e3] at h; cases h
        | some l =>
          rw [Option.bind_some, e3] at h
          cases h
          obtain ⟨a', vs, e4, h4, rr⟩ := listW_low sr (w := .c a) r e
          rw [e4]
          cases unD_eq e2
          exact .lst h4 (RpL.dp (Mo.of sr.le) ds vs l (RpL.of rr) e3)
end

section
variable {X : Cx} {T : Tab} {Wx : WX} {k : Nat} {N : List Str} {mg : Str → Option Value} {sc : Scope}
/-! ### arithmetic -/
def oInt (f : Int → Int → Int) (P : Int → Int → Prop) : R22 := fun x y M Q _ => ∃ i j, x = .d (.int i) ∧ y = .d (.int j) ∧ P i j ∧ Q (.d (.int (f i j))) M
theorem op_int {g : Value → Value → Sem Value} {f : Int → Int → Int} {P P' : Int → Int → Prop} (h : OpR X g (rI P' fun i j => .int (f i j))) (hp : ∀ i j, P i j → P' i j) : Op2 X T Wx g (oInt f P) := Op2.of h fun σ x y H Q q => by
  obtain ⟨G, wx, wy, M, Q2, E2, sr, rx, ry, ⟨i, j, rfl, rfl, p, q2⟩, pq, px⟩ := q
  exact ⟨i, j, rx, ry, hp i j p, pq (.d (.int (f i j))) M G H _ (Mo.refl _) sr (show RW T G (.d (.int (f i j))) (.int (f i j)) from rfl) q2⟩
def oSub : R22 := oInt (fun i j => i - j) fun _ _ => True
def oMul0 (i j : Int) : Prop := i.natAbs.log2 + j.natAbs.log2 < 1000000
def oFdiv : R22 := oInt (fun i j => i / j) fun _ j => 0 < j ∧ j.natAbs.log2 < 9000
def oMod : R22 := oInt (fun i j => i % j) fun _ j => 0 < j
def oPow : R22 := oInt (fun i j => i ^ j.toNat) fun i j => 0 ≤ j ∧ j ≤ 1000000 ∧ i.natAbs < 2 ^ 64
theorem rI_of {g : Value → Value → Sem Value} {r : Int → Int → V} (h : OpR X g (rI0 r)) : OpR X g (rI (fun _ _ => True) r) := h.imp fun x y H Q ⟨i, j, e1, e2, _, q⟩ => ⟨i, j, e1, e2, q⟩
theorem op2_sub : Op2 X T Wx (binaryOp .Sub) oSub := op_int (rI_of op_sub) fun _ _ h => h
theorem op2_fdiv : Op2 X T Wx (binaryOp .FloorDiv) oFdiv := op_int op_fdivW fun _ _ h => h
theorem op2_mod : Op2 X T Wx (binaryOp .Mod) oMod := op_int op_mod fun _ _ h => h
theorem op2_pow : Op2 X T Wx (binaryOp .Pow) oPow := op_int op_pow fun _ _ h => h
/-- new data, a list or a tuple -/
theorem q_lst {G H : Hp} {M : Mp} {Q2 : VK2} {Q : VK} {ds : List D} {vs : List V} (sr : SR T G H M) (r : RpL T G ds vs) (q : Q2 (.d (.lst ds)) M) (pq : PQ T G Q2 Q) {p : Addr} (hp : H p = none) : Q (.ref p) (upd H p (.lst vs)) := by
  have mo := Mo.of (same_new (o := HO.lst vs) (sr.free hp))
  exact pq (.d (.lst ds)) M _ _ (.ref p) mo (sr.laid hp) ⟨p, vs, rfl, upd_same, r.mono mo⟩ q
theorem q_tup {G H : Hp} {M : Mp} {Q2 : VK2} {Q : VK} {ds : List D} {vs : List V} (sr : SR T G H M) (r : RpL T G ds vs) (q : Q2 (.d (.tup ds)) M) (pq : PQ T G Q2 Q) {p : Addr} (hp : H p = none) : Q (.ref p) (upd H p (.tup vs)) := by
  have mo := Mo.of (same_new (o := HO.tup vs) (sr.free hp))
  exact pq (.d (.tup ds)) M _ _ (.ref p) mo (sr.laid hp) ⟨p, vs, rfl, SqT.of upd_same, r.mono mo⟩ q
theorem RpL.append {G : Hp} : ∀ {a b : List D} {vs ws : List V}, RpL T G a vs → RpL T G b ws → RpL T G (a ++ b) (vs ++ ws)
  | [], _, _, _, h, h2 => by rw [RpL] at h; rw [h]; exact h2
  | d :: ds, _, _, _, ⟨v, r, e1, h, t⟩, h2 => by rw [e1]; exact ⟨v, _, rfl, h, RpL.append t h2⟩
theorem RpL.nil_iff {G : Hp} {a : List D} {vs : List V} (h : RpL T G a vs) : vs = [] ↔ a = [] := by
  have := h.len
  cases a <;> cases vs <;> simp_all
/-- + of ints, texts, lists, tuples -/
def addD : D → D → Option (D × Nat)
  | .int i, .int j => some (.int (i + j), 0)
  | .str a, .str b => some (.str (a ++ b), a.length + b.length)
  | .tup a, .tup b => some (.tup (a ++ b), a.length + b.length)
  | _, _ => none
def isL : W → Bool
  | .d (.lst _) => true
  | .c _ => true
  | _ => false
def oAddD (x y : D) (M : Mp) (Q : VK2) : Prop := ∃ z n, addD x y = some (z, n) ∧ n ≤ sizeLine ∧ Q (.d z) M
def oAddL (m : Bool) (x y : W) (M : Mp) (Q : VK2) : Prop := ∃ a b, listW M x = some a ∧ listW M y = some b ∧ a.length + b.length ≤ sizeLine ∧ newL m (a ++ b) M Q
/-- m: a list that is made is a cell -/
def oAdd (m : Bool) : R22 := fun x y M Q _ => if isL x = true then isL y = true ∧ oAddL m x y M Q else match x, y with
  | .d x, .d y => oAddD x y M Q
  | _, _ => False
theorem isL_nr {w : W} (h : isL w = true) : ∀ xs, w ≠ .r xs := fun xs e => by subst e; cases h
theorem op2_addD {G H : Hp} {M : Mp} {Q2 : VK2} {x1 y1 : D} {pins : List (Addr × Obj)} {s : Shared} {σ : L2.St} {x y : V} {v u : Value} {Q : VK} (I : Inv X pins σ H s) (rx : RelV x v) (ry : RelV y u)
    (sr : SR T G H M) (r1 : RW T G (.d x1) x) (r2 : RW T G (.d y1) y) (q2 : oAddD x1 y1 M Q2) (pq : PQ T G Q2 Q) (hK : X.K = T.K) : wpAny (model X.prog X.w) X.A (binaryOp .Add v u) (EP X pins σ Q) X.xe s := by
  obtain ⟨z, n, e, hz, q2⟩ := q2
  cases x1 with
  | int i =>
    cases y1 with
    | int j =>
      cases (show some (D.int (i + j), 0) = some (z, n) from e)
      exact op_add pins s σ H _ _ v u Q I rx ry ⟨i, j, r1, r2, pq _ M G H _ (Mo.refl _) sr (show RW T G (.d (.int (i + j))) (.int (i + j)) from rfl) q2⟩
    | _ => exact nomatch (show (none : Option (D × Nat)) = some (z, n) from e)
  | str a =>
    cases y1 with
    | str b =>
      cases (show some (D.str (a ++ b), a.length + b.length) = some (z, n) from e)
      exact op_add_str pins s σ H _ _ v u Q I rx ry ⟨a, b, r1.1, r2.1, hz, pq _ M G H _ (Mo.refl _) sr (show RW T G (.d (.str (a ++ b))) (.str (a ++ b)) from ⟨rfl, by rw [Str.length_append]; exact hz⟩) q2⟩
    | _ => exact nomatch (show (none : Option (D × Nat)) = some (z, n) from e)
  | tup a =>
    cases y1 with
    | tup b =>
      cases (show some (D.tup (a ++ b), a.length + b.length) = some (z, n) from e)
      obtain ⟨a1, vs, e1, h1, t1⟩ := (show ∃ a1 vs, x = .ref a1 ∧ SqT T.K G a1 vs ∧ RpL T G a vs from r1)
      obtain ⟨b1, ws, e2, h2, t2⟩ := (show ∃ a1 vs, y = .ref a1 ∧ SqT T.K G a1 vs ∧ RpL T G b vs from r2)
      refine op_catA pins s σ H _ _ v u Q I rx ry ⟨a1, b1, vs, ws, e1, e2, by rw [hK]; exact (Mo.of sr.le).seqT h1, by rw [hK]; exact (Mo.of sr.le).seqT h2, by rw [← t1.len, ← t2.len]; exact hz, fun z => ?_, fun z z2 => ?_, fun _ _ p hp => q_tup sr (t1.append t2) q2 pq hp⟩
      · rw [t1.nil_iff] at z
        subst z
        exact pq _ M G H _ (Mo.refl _) sr (show RW T G (.d (.tup ([] ++ b))) (.ref b1) from ⟨b1, ws, rfl, h2, t2⟩) q2
      · rw [t2.nil_iff] at z2
        subst z2
        rw [List.append_nil] at q2
        exact pq _ M G H _ (Mo.refl _) sr (show RW T G (.d (.tup a)) (.ref a1) from ⟨a1, vs, rfl, h1, t1⟩) q2
    | _ => exact nomatch (show (none : Option (D × Nat)) = some (z, n) from e)
  | _ => exact nomatch (show (none : Option (D × Nat)) = some (z, n) from e)
theorem Paired.app {α β : Type} {F : α → β → Prop} : ∀ {a b : List α} {c d : List β}, Paired F a c → Paired F b d → Paired F (a ++ b) (c ++ d)
  | _, _, _, _, .nil, h => h
  | _, _, _, _, .cons r t, h => .cons r (Paired.app t h)
theorem op2_add (C : Ctx T k N mg X Wx sc) (m : Bool) : Op2 X T Wx (binaryOp .Add) (oAdd m) := by
  intro pins s σ H x y v u Q I rx ry q
  obtain ⟨G, wx, wy, M, Q2, E2, sr, r1, r2, q2, pq, px⟩ := q
  unfold oAdd at q2
  by_cases hx : isL wx = true
  · rw [if_pos hx] at q2
    obtain ⟨hy, a, b, ha, hb, hz, q2⟩ := q2
    obtain ⟨a1, vs, e1, h1, t1⟩ := listW_at sr r1 ha (isL_nr hx)
    obtain ⟨b1, ws, e2, h2, t2⟩ := listW_at sr r2 hb (isL_nr hy)
    refine op_cat pins s σ H _ _ v u Q I rx ry ⟨a1, b1, vs, ws, e1, e2, h1, h2, by rw [← t1.len, ← t2.len]; exact hz, fun p hp => ?_⟩
    exact newL_low sr (Paired.app t1 t2) q2 pq hp
  · rw [if_neg hx] at q2
    cases wx with
    | d x1 =>
      cases wy with
      | d y1 => exact op2_addD I rx ry sr r1 r2 q2 pq C.eK
      | _ => exact q2.elim
    | _ => exact q2.elim
end
end Z
set_option maxHeartbeats 4000000
/-! Z4: comparisons, subscripts, built-in functions and methods -/
namespace Z
open PySem PySem.Spec PyProof.Rows L2
section
variable {X : Cx} {T : Tab} {Wx : WX} {k : Nat} {N : List Str} {mg : Str → Option Value} {sc : Scope}
theorem q_bool {G H : Hp} {M : Mp} {Q2 : VK2} {Q : VK} {b : Bool} (sr : SR T G H M) (q : Q2 (.d (.bool b)) M) (pq : PQ T G Q2 Q) : Q (.bl b) H := pq _ M G H _ (Mo.refl _) sr (show RW T G (.d (.bool b)) (.bl b) from rfl) q
theorem q_int {G H : Hp} {M : Mp} {Q2 : VK2} {Q : VK} {b : Int} (sr : SR T G H M) (q : Q2 (.d (.int b)) M) (pq : PQ T G Q2 Q) : Q (.int b) H := pq _ M G H _ (Mo.refl _) sr (show RW T G (.d (.int b)) (.int b) from rfl) q
theorem q_str {G H : Hp} {M : Mp} {Q2 : VK2} {Q : VK} {b : Str} (sr : SR T G H M) (hz : b.length ≤ sizeLine) (q : Q2 (.d (.str b)) M) (pq : PQ T G Q2 Q) : Q (.str b) H := pq _ M G H _ (Mo.refl _) sr (show RW T G (.d (.str b)) (.str b) from ⟨rfl, hz⟩) q
theorem q_non {G H : Hp} {M : Mp} {Q2 : VK2} {Q : VK} (sr : SR T G H M) (q : Q2 (.d .none) M) (pq : PQ T G Q2 Q) : Q .non H := pq _ M G H _ (Mo.refl _) sr (show RW T G (.d .none) .non from rfl) q

/-! ### order -/
def ordD (p : Int → Int → Bool) (ps : Str → Str → Bool) : D → D → Option Bool
  | .int i, .int j => some (p i j)
  | .str a, .str b => some (ps a b)
  | _, _ => none
def ordW (p : Int → Int → Bool) (ps : Str → Str → Bool) : W → W → Option Bool
  | .d x, .d y => ordD p ps x y
  | _, _ => none
def oOrd (p : Int → Int → Bool) (ps : Str → Str → Bool) : R22 := fun x y M Q _ => ∃ b, ordW p ps x y = some b ∧ Q (.d (.bool b)) M
theorem op_ord {f : Value → Value → Sem Value} {p : Int → Int → Bool} {ps : Str → Str → Bool} (hi : OpR X f (rI0 fun i j => .bl (p i j))) (hs : OpR X f (fun x y H Q => ∃ i j, x = .str i ∧ y = .str j ∧ Q (.bl (ps i j)) H)) : Op2 X T Wx f (oOrd p ps) := by
  intro pins s σ H x y v u Q I rx ry q
  obtain ⟨G, wx, wy, M, Q2, E2, sr, r1, r2, ⟨b, e, q2⟩, pq, px⟩ := q
  cases wx with
  | d x1 =>
    cases wy with
    | d y1 =>
      have e : ordD p ps x1 y1 = some b := e
      cases x1 with
      | int i =>
        cases y1 with
        | int j =>
          cases (show some (p i j) = some b from e)
          exact hi pins s σ H _ _ v u Q I rx ry ⟨i, j, r1, r2, q_bool sr q2 pq⟩
        | _ => exact nomatch (show (none : Option Bool) = some b from e)
      | str i =>
        cases y1 with
        | str j =>
          cases (show some (ps i j) = some b from e)
          exact hs pins s σ H _ _ v u Q I rx ry ⟨i, j, r1.1, r2.1, q_bool sr q2 pq⟩
        | _ => exact nomatch (show (none : Option Bool) = some b from e)
      | _ => exact nomatch (show (none : Option Bool) = some b from e)
    | _ => exact nomatch (show (none : Option Bool) = some b from e)
  | _ => exact nomatch (show (none : Option Bool) = some b from e)
def oLt : R22 := oOrd (fun i j => decide (i < j)) fun a b => decide (a.cps.toList < b.cps.toList)
def oLe : R22 := oOrd (fun i j => decide (i ≤ j)) fun a b => !decide (b.cps.toList < a.cps.toList)
def oGt : R22 := oOrd (fun i j => decide (j < i)) fun a b => decide (b.cps.toList < a.cps.toList)
def oGe : R22 := oOrd (fun i j => decide (j ≤ i)) fun a b => !decide (a.cps.toList < b.cps.toList)
theorem op2_lt : Op2 X T Wx (compareOp .Lt) oLt := op_ord op_lt op_lt_str
theorem op2_gt : Op2 X T Wx (compareOp .Gt) oGt := op_ord op_gt op_gt_str
theorem op2_le : Op2 X T Wx (compareOp .LtE) oLe := op_ord op_le op_le_str
theorem op2_ge : Op2 X T Wx (compareOp .GtE) oGe := op_ord op_ge op_ge_str

/-! ### ==, != of data -/
def oEq (neg : Bool) : R22 := fun x y M Q _ => (∃ p q, toPyW M x = some p ∧ toPyW M y = some q ∧ SeqAt.shaped p = true ∧ SeqAt.shaped q = true ∧ Q (.d (.bool (if neg = true then !PyData.eqv p q else PyData.eqv p q))) M) ∨ ∃ a b : Str, x = .d (.str a) ∧ y = .d (.str b) ∧ Q (.d (.bool (if neg = true then !(a == b) else a == b))) M
theorem op2_eq (C : Ctx T k N mg X Wx sc) : Op2 X T Wx (compareOp .Eq) (oEq false) := by
  intro pins s σ H x y v u Q I rx ry q
  obtain ⟨G, wx, wy, M, Q2, E2, sr, r1, r2, ⟨p, q, e1, e2, s1, s2, q2⟩ | ⟨a, b, rfl, rfl, q2⟩, pq, px⟩ := q
  · exact op_eqD C.room.units pins s σ H x y v u Q I rx ry ⟨p, q, by rw [C.eK]; exact toPyW_low sr r1 e1, by rw [C.eK]; exact toPyW_low sr r2 e2, s1, s2, q_bool sr q2 pq⟩
  · refine op_eq pins s σ H x y v u Q I rx ry ?_
    obtain ⟨rfl, _⟩ := (show x = .str a ∧ _ from r1)
    obtain ⟨rfl, _⟩ := (show y = .str b ∧ _ from r2)
    refine ⟨rfl, ?_⟩
    rw [dec_str]
    exact q_bool sr q2 pq
theorem op2_ne (C : Ctx T k N mg X Wx sc) : Op2 X T Wx (compareOp .NotEq) (oEq true) := by
  intro pins s σ H x y v u Q I rx ry q
  obtain ⟨G, wx, wy, M, Q2, E2, sr, r1, r2, ⟨p, q, e1, e2, s1, s2, q2⟩ | ⟨a, b, rfl, rfl, q2⟩, pq, px⟩ := q
  · exact op_neD C.room.units pins s σ H x y v u Q I rx ry ⟨p, q, by rw [C.eK]; exact toPyW_low sr r1 e1, by rw [C.eK]; exact toPyW_low sr r2 e2, s1, s2, q_bool sr q2 pq⟩
  · refine op_ne pins s σ H x y v u Q I rx ry ?_
    obtain ⟨rfl, _⟩ := (show x = .str a ∧ _ from r1)
    obtain ⟨rfl, _⟩ := (show y = .str b ∧ _ from r2)
    refine ⟨rfl, ?_⟩
    rw [dec_str]
    exact q_bool sr q2 pq
/-- is None, is not None; is True, is False -/
def isNon : W → Bool
  | .d .none => true
  | _ => false
def oIsN (neg : Bool) : R22 := fun x y M Q _ => y = .d .none ∧ Q (.d (.bool (if neg = true then !isNon x else isNon x))) M
theorem isNon_low {G : Hp} {w : W} {v : V} (r : RW T G w v) : isNon w = decide (v = .non) := by
  cases w with
  | d x =>
    cases x with
    | none => cases (show v = .non from r); rfl
    | bool b => cases (show v = .bl b from r); rfl
    | int b => cases (show v = .int b from r); rfl
    | str b => cases (show v = .str b from r.1); rfl
    | lst b => obtain ⟨a, vs, e, _⟩ := (show ∃ a vs, v = .ref a ∧ G a = some (.lst vs) ∧ RpL T G b vs from r); subst e; rfl
    | tup b => obtain ⟨a, vs, e, _⟩ := (show ∃ a vs, v = .ref a ∧ SqT T.K G a vs ∧ RpL T G b vs from r); subst e; rfl
    | dic b => obtain ⟨a, o, vs, e, _⟩ := (show ∃ a o vs, v = .ref a ∧ G a = some o ∧ unl o = .dK vs ∧ RpK T G b vs from r); subst e; rfl
    | dit b => obtain ⟨a, o, vs, e, _⟩ := (show ∃ a o vs, v = .ref a ∧ G a = some o ∧ unl o = .dT vs ∧ RpT T G b vs from r); subst e; rfl
    | obj c b => obtain ⟨a, dx, vs, e, _⟩ := (show ∃ a dx vs, v = .ref a ∧ G a = some (.ins (T.cls c) dx vs) ∧ RpF T G b vs from r); subst e; rfl
    | ref b => cases (show v = .ref b from r); rfl
  | c a => cases (show v = .ref a from r); rfl
  | r xs => obtain ⟨a, vs, e, _⟩ := (show ∃ a vs, v = .ref a ∧ SqL T.K G a vs ∧ RpL T G xs vs from r); subst e; rfl
theorem op2_is : Op2 X T Wx (compareOp .Is) (oIsN false) := by
  intro pins s σ H x y v u Q I rx ry q
  obtain ⟨G, wx, wy, M, Q2, E2, sr, r1, r2, ⟨e, q2⟩, pq, px⟩ := q
  subst e
  refine op_isN pins s σ H x y v u Q I rx ry ⟨r2, ?_⟩
  rw [← isNon_low r1]
  exact q_bool sr q2 pq
theorem op2_isnot : Op2 X T Wx (compareOp .IsNot) (oIsN true) := by
  intro pins s σ H x y v u Q I rx ry q
  obtain ⟨G, wx, wy, M, Q2, E2, sr, r1, r2, ⟨e, q2⟩, pq, px⟩ := q
  subst e
  refine op_notN pins s σ H x y v u Q I rx ry ⟨r2, ?_⟩
  rw [← isNon_low r1]
  exact q_bool sr q2 pq

/-! ### in, of lists and tuples of flat items, of texts -/
def flD : D → Option V
  | .none => some .non
  | .bool b => some (.bl b)
  | .int i => some (.int i)
  | .str s => some (.str s)
  | _ => none
def flL : List W → Option (List V)
  | [] => some []
  | .d x :: r => (flD x).bind fun v => (flL r).map (v :: ·)
  | _ :: _ => none
theorem flD_low {G : Hp} {x : D} {v v' : V} (r : Rp T G x v) (h : flD x = some v') : v = v' ∧ flatV v' = true := by
  cases x with
  | none => cases (show v = .non from r); cases (show some V.non = some v' from h); exact ⟨rfl, rfl⟩
  | bool b => cases (show v = .bl b from r); cases (show some (V.bl b) = some v' from h); exact ⟨rfl, rfl⟩
  | int b => cases (show v = .int b from r); cases (show some (V.int b) = some v' from h); exact ⟨rfl, rfl⟩
  | str b => cases (show v = .str b from r.1); cases (show some (V.str b) = some v' from h); exact ⟨rfl, rfl⟩
  | _ => exact nomatch (show (none : Option V) = some v' from h)
theorem flL_low {G : Hp} : ∀ {ws : List W} {vs us : List V}, RWs T G ws vs → flL ws = some us → vs = us ∧ us.all flatV = true
  | [], _, _, .nil, h => by cases (show some [] = some _ from h); exact ⟨rfl, rfl⟩
  | .d x :: r, v :: vs, us, .cons a t, h => by
    have h : ((flD x).bind fun v => (flL r).map (v :: ·)) = some us := h
    cases e : flD x with
    | none => rw [e] at h; cases h
    | some v' =>
      cases e2 : flL r with
      | none => rw [e, Option.bind_some, e2] at h; cases h
      | some us' =>
        rw [e, Option.bind_some, e2] at h
        cases h
        obtain ⟨h1, h2⟩ := flD_low (show Rp T G x v from a) e
        obtain ⟨h3, h4⟩ := flL_low t e2
        exact ⟨by rw [h1, h3], by rw [List.all_cons, h2, h4]; rfl⟩
  | .c _ :: _, _, _, _, h => nomatch (show (none : Option (List V)) = some _ from h)
  | .r _ :: _, _, _, _, h => nomatch (show (none : Option (List V)) = some _ from h)
def itemsT : D → Option (List D)
  | .lst xs => some xs
  | .tup xs => some xs
  | _ => none
/-- the items of a list or a tuple -/
def seqW (M : Mp) : W → Option (List W)
  | .d x => (itemsT x).map (·.map W.d)
  | .c a => itemsC (M a)
  | .r xs => some (xs.map W.d)
theorem seqW_low {G H : Hp} {M : Mp} (sr : SR T G H M) {w : W} {v : V} {ws : List W} (r : RW T G w v) (h : seqW M w = some ws) : ∃ a vs, v = .ref a ∧ (SqL T.K H a vs ∨ SqT T.K H a vs) ∧ RWs T G ws vs := by
  cases w with
  | d x =>
    cases x with
    | lst xs =>
      obtain ⟨a, vs, e, e2, rr⟩ := (show ∃ a vs, v = .ref a ∧ G a = some (.lst vs) ∧ RpL T G xs vs from r)
      cases (show some (xs.map W.d) = some ws from h)
      exact ⟨a, vs, e, .inl (SqL.of (sr.le _ _ e2)), rr.to⟩
    | tup xs =>
      obtain ⟨a, vs, e, e2, rr⟩ := (show ∃ a vs, v = .ref a ∧ SqT T.K G a vs ∧ RpL T G xs vs from r)
      cases (show some (xs.map W.d) = some ws from h)
      exact ⟨a, vs, e, .inr ((Mo.of sr.le).seqT e2), rr.to⟩
    | _ => exact nomatch (show (none : Option (List W)) = some ws from h)
  | r xs => obtain ⟨a, vs, e, h1, h2⟩ := listW_low sr r h; exact ⟨a, vs, e, .inl h1, h2⟩
  | c a => obtain ⟨a, vs, e, h1, h2⟩ := listW_low sr r h; exact ⟨a, vs, e, .inl h1, h2⟩
def strD : W → Option Str
  | .d (.str s) => some s
  | _ => none
theorem strD_eq {w : W} {s : Str} (h : strD w = some s) : w = .d (.str s) := by
  cases w with
  | d x =>
    cases x with
    | str z => cases (show some z = some s from h); rfl
    | _ => exact nomatch (show (none : Option Str) = some s from h)
  | _ => exact nomatch (show (none : Option Str) = some s from h)
/-- x in y: y a list or a tuple of flat items, or a text of which x is one sign -/
def oIn (neg : Bool) : R22 := fun x y M Q _ => (∃ ws vs x' v, seqW M y = some ws ∧ flL ws = some vs ∧ x = .d x' ∧ flD x' = some v ∧ Q (.d (.bool (if neg = true then !inV v vs else inV v vs))) M) ∨
  ∃ z s c, strD y = some z ∧ strD x = some s ∧ s = ⟨#[c]⟩ ∧ Q (.d (.bool (if neg = true then !decide (c ∈ z.cps.toList) else decide (c ∈ z.cps.toList)))) M
theorem op_inW {neg : Bool} {f : Value → Value → Sem Value} (h1 : OpR X f (rIn X.K neg)) (h2 : OpR X f (fun x y H Q => ∃ (c : Nat) (z : Str), x = .str ⟨#[c]⟩ ∧ y = .str z ∧ Q (.bl (if neg = true then !decide (c ∈ z.cps.toList) else decide (c ∈ z.cps.toList))) H)) (hK : X.K = T.K) : Op2 X T Wx f (oIn neg) := by
  intro pins s σ H x y v u Q I rx ry q
  obtain ⟨G, wx, wy, M, Q2, E2, sr, r1, r2, q2, pq, px⟩ := q
  rcases q2 with ⟨ws, vs, x', v', e1, e2, rfl, e3, q2⟩ | ⟨z, t, c, e1, e2, rfl, q2⟩
  · obtain ⟨a, us, e, hs, rr⟩ := seqW_low sr r2 e1
    obtain ⟨h3, h4⟩ := flL_low rr e2
    obtain ⟨h5, h6⟩ := flD_low (show Rp T G x' x from r1) e3
    subst h3
    subst h5
    exact h1 pins s σ H _ _ v u Q I rx ry ⟨a, _, e, by rw [hK]; exact hs, h6, h4, q_bool sr q2 pq⟩
  · cases strD_eq e1
    cases strD_eq e2
    exact h2 pins s σ H _ _ v u Q I rx ry ⟨c, z, r1.1, r2.1, q_bool sr q2 pq⟩
theorem op2_in (hK : X.K = T.K) : Op2 X T Wx (compareOp .In) (oIn false) := op_inW op_in_seq op_in_sign hK
theorem op2_notin (hK : X.K = T.K) : Op2 X T Wx (compareOp .NotIn) (oIn true) := op_inW op_notIn_seq op_notIn_sign hK

/-! ### subscripts -/
def ixStr (z : Str) (i : Int) : Option Str := (atI z.cps.toList i).map fun c => ⟨#[c]⟩
def oIx : R22 := fun x y M Q _ => ∃ i, y = .d (.int i) ∧ ((∃ ws w, seqW M x = some ws ∧ atI ws i = some w ∧ Q w M) ∨ ∃ z t, strD x = some z ∧ ixStr z i = some t ∧ Q (.d (.str t)) M)
theorem RWs.get {G : Hp} {ws : List W} {vs : List V} (r : RWs T G ws vs) {i : Nat} {w : W} (h : ws[i]? = some w) : ∃ v, vs[i]? = some v ∧ RW T G w v := by
  induction r generalizing i with
  | nil => simp at h
  | cons a t ih =>
    cases i with
    | zero => simp at h; subst h; exact ⟨_, by simp, a⟩
    | succ i => simp at h; obtain ⟨v, h1, h2⟩ := ih h; exact ⟨v, by simpa using h1, h2⟩
theorem atI_low {G : Hp} {ws : List W} {vs : List V} (r : RWs T G ws vs) {i : Int} {w : W} (h : atI ws i = some w) : ∃ v, atI vs i = some v ∧ RW T G w v := by
  unfold atI at h ⊢
  rw [r.len] at h
  cases e : ixN vs.length i with
  | none => rw [e] at h; cases h
  | some j => rw [e] at h; exact r.get h
theorem ixR2 (hK : X.K = T.K) {a b : Expr} {ta tb : TE2} {pos : Pos} (ha : PE X a (lowE T Wx ta)) (hb : PE X b (lowE T Wx tb)) (hs : PlainIx b) :
    PE X (.Subscript a b pos) (lowE T Wx (wBin oIx ta tb)) := (pe_ix ix_seq ha hb hs).imp fun σ H Q h => by
  obtain ⟨G, σ2, M, Q2, E2, sr, rs, q2, pq, px⟩ := h
  refine ⟨G, σ2, M, _, E2, sr, rs, q2, fun wx M1 G1 H1 x m1 sr1 rx q3 => ?_, px⟩
  refine ⟨G1, σ2, M1, _, E2, sr1, rs.mono m1, q3, fun wy M2 G2 H2 y m2 sr2 ry q4 => ?_, px.mono m1⟩
  obtain ⟨i, rfl, q4⟩ := q4
  rcases q4 with ⟨ws, w, e1, e2, q4⟩ | ⟨z, t, e1, e2, q4⟩
  · obtain ⟨p, vs, e, hs, rr⟩ := seqW_low sr2 (rx.mono m2) e1
    obtain ⟨v, e3, r3⟩ := atI_low rr e2
    have q : Q v H2 := pq w M2 G2 H2 v (m1.trans m2) sr2 r3 q4
    rcases hs with hs | hs
    · exact .inl ⟨p, vs, i, v, e, ry, by rw [hK]; exact hs, e3, q⟩
    · exact .inr (.inl ⟨p, vs, i, v, e, ry, by rw [hK]; exact hs, e3, q⟩)
  · cases strD_eq e1
    have hz := (show x = .str z ∧ z.length ≤ sizeLine from rx)
    cases e3 : atI z.cps.toList i with
    | none => unfold ixStr at e2; rw [e3] at e2; cases e2
    | some c =>
      unfold ixStr at e2
      rw [e3] at e2
      cases e2
      exact .inr (.inr ⟨z, i, c, hz.1, ry, hz.2, e3, pq _ M2 G2 H2 _ (m1.trans m2) sr2 (show RW T G2 (.d (.str ⟨#[c]⟩)) (.str ⟨#[c]⟩) from ⟨rfl, by rw [sizeLine_eq]; show 1 ≤ 16777216; decide⟩) q4⟩)
end
end Z
set_option maxHeartbeats 4000000
/-! Z5: slices, built-in functions and methods -/
namespace Z
open PySem PySem.Spec PyProof.Rows L2
section
variable {X : Cx} {T : Tab} {Wx : WX} {k : Nat} {N : List Str} {mg : Str → Option Value} {sc : Scope}
/-! ### slices -/
abbrev TO2 := St2 → Mp → (Option Int → Mp → Prop) → XK2 → Prop
def PI2 (T : Tab) (G : Hp) (Q2 : Option Int → Mp → Prop) (Q1 : Option Int → Hp → Prop) : Prop := ∀ o M' G' H', Mo G G' → SR T G' H' M' → Q2 o M' → Q1 o H'
theorem PI2.mono {G G' : Hp} {Q2 : Option Int → Mp → Prop} {Q1 : Option Int → Hp → Prop} (e : Mo G G') (h : PI2 T G Q2 Q1) : PI2 T G' Q2 Q1 := fun w M' G'' H' a b c => h w M' G'' H' (e.trans a) b c
def lowO (T : Tab) (Wx : WX) (t : TO2) : TO := fun σ1 H Q1 => ∃ G σ2 M Q2 E2, SR T G H M ∧ RS T G σ2 σ1 ∧ t σ2 M Q2 E2 ∧ PI2 T G Q2 Q1 ∧ PX T Wx G σ1 E2
theorem _root_.L2.PO.imp {e : Option Expr} {t t' : TO} (h : PO X e t) (i : ∀ σ H Q, t' σ H Q → t σ H Q) : PO X e t' := ⟨fun pins s σ H Q I q => h.run pins s σ H Q I (i _ _ _ q)⟩
def wNoP : TO2 := fun _ M Q _ => Q none M
def wPart (t : TE2) : TO2 := fun σ M Q E => t σ M (fun x M1 => ∃ i, x = .d (.int i) ∧ Q (some i) M1) E
theorem o_none : PO X none (lowO T Wx wNoP) := po_none.imp fun σ H Q h => by
  obtain ⟨G, σ2, M, Q2, E2, sr, rs, q2, pq, px⟩ := h
  exact pq _ M G H (Mo.refl _) sr q2
theorem o_some {e : Expr} {te : TE2} (h : PE X e (lowE T Wx te)) : PO X (some e) (lowO T Wx (wPart te)) := (po_some h).imp fun σ H Q h => by
  obtain ⟨G, σ2, M, Q2, E2, sr, rs, q2, pq, px⟩ := h
  refine ⟨G, σ2, M, _, E2, sr, rs, q2, fun w M1 G1 H1 v m1 sr1 rw1 q3 => ?_, px⟩
  obtain ⟨i, rfl, q3⟩ := q3
  exact ⟨i, rw1, pq _ M1 G1 H1 m1 sr1 q3⟩
def cutW {α : Type} (xs : List α) (lo hi : Option Int) : List α := (xs.drop (HT.sIx xs.length 0 lo)).take (HT.sIx xs.length xs.length hi - HT.sIx xs.length 0 lo)
theorem Paired.drop {α β : Type} {F : α → β → Prop} : ∀ (n : Nat) {a : List α} {c : List β}, Paired F a c → Paired F (a.drop n) (c.drop n)
  | 0, _, _, h => h
  | _ + 1, _, _, .nil => .nil
  | n + 1, _, _, .cons _ t => Paired.drop n t
theorem Paired.take {α β : Type} {F : α → β → Prop} : ∀ (n : Nat) {a : List α} {c : List β}, Paired F a c → Paired F (a.take n) (c.take n)
  | 0, _, _, _ => .nil
  | _ + 1, _, _, .nil => .nil
  | n + 1, _, _, .cons r t => .cons r (Paired.take n t)
theorem cut_low {G : Hp} {ws : List W} {vs : List V} (r : RWs T G ws vs) (lo hi : Option Int) : RWs T G (cutW ws lo hi) (cutV vs lo hi) := by
  unfold cutW cutV
  rw [r.len]
  exact Paired.take _ (Paired.drop _ r)
def tupD : W → Option (List D)
  | .d (.tup xs) => some xs
  | _ => none
theorem tupD_eq {w : W} {s : List D} (h : tupD w = some s) : w = .d (.tup s) := by
  cases w with
  | d x =>
    cases x with
    | tup z => cases (show some z = some s from h); rfl
    | _ => exact nomatch (show (none : Option (List D)) = some s from h)
  | _ => exact nomatch (show (none : Option (List D)) = some s from h)
/-- x[lo:hi]; m: a new list is a cell -/
def oSl (m : Bool) (x : W) (lo hi : Option Int) (M : Mp) (Q : VK2) : Prop := (∃ ws, listW M x = some ws ∧ newL m (cutW ws lo hi) M Q) ∨ (∃ xs, tupD x = some xs ∧ Q (.d (.tup (cutW xs lo hi))) M) ∨ ∃ z, strD x = some z ∧ Q (.d (.str (cutS z lo hi))) M
/-- x[lo:hi], as a function -/
def oSlF (m : Bool) (x : W) (lo hi : Option Int) (M : Mp) (Q : VK2) : Prop := match listW M x with
  | some ws => newL m (cutW ws lo hi) M Q
  | none => match tupD x with
    | some xs => Q (.d (.tup (cutW xs lo hi))) M
    | none => match strD x with
      | some z => Q (.d (.str (cutS z lo hi))) M
      | none => False
theorem slF_old {m : Bool} {x : W} {lo hi : Option Int} {M : Mp} {Q : VK2} (h : oSlF m x lo hi M Q) : oSl m x lo hi M Q := by
  unfold oSlF at h
  split at h
  · rename_i ws e; exact .inl ⟨ws, e, h⟩
  · split at h
    · rename_i xs e; exact .inr (.inl ⟨xs, e, h⟩)
    · split at h
      · rename_i z e; exact .inr (.inr ⟨z, e, h⟩)
      · exact h.elim
def wSl (m : Bool) (te : TE2) (tl th : TO2) : TE2 := fun σ M Q E => te σ M (fun x M1 => tl σ M1 (fun l M2 => th σ M2 (fun u M3 => oSlF m x l u M3 Q) E) E) E
theorem cutW_map {α β : Type} (f : α → β) (xs : List α) (lo hi : Option Int) : cutW (xs.map f) lo hi = (cutW xs lo hi).map f := by
  unfold cutW
  rw [List.length_map, List.map_take, List.map_drop]
theorem cutW_all {α : Type} (xs : List α) (lo hi : Option Int) (h : HT.sIx xs.length 0 lo = 0 ∧ HT.sIx xs.length xs.length hi = xs.length) : cutW xs lo hi = xs := by
  unfold cutW
  rw [h.1, h.2, List.drop_zero, Nat.sub_zero, List.take_length]
theorem cutS_len (z : Str) (lo hi : Option Int) : (cutS z lo hi).length ≤ z.length := by
  show ((z.cps.toList.drop _).take _).toArray.size ≤ z.cps.size
  rw [List.size_toArray, List.length_take, List.length_drop, Array.length_toList]
  omega
variable {e : Expr} {te : TE2} {lo hi : Option Expr} {tl th : TO2} {pos p2 : Pos}
theorem e_slice (hK : X.K = T.K) {m : Bool} (he : PE X e (lowE T Wx te)) (hl : PO X lo (lowO T Wx tl)) (hu : PO X hi (lowO T Wx th)) : PE X (.Subscript e (.Slice lo hi none p2) pos) (lowE T Wx (wSl m te tl th)) :=
  (pe_slice (sl_list.or (sl_tupA.or sl_str)) he hl hu).imp fun σ H Q h => by
    obtain ⟨G, σ2, M, Q2, E2, sr, rs, q2, pq, px⟩ := h
    refine ⟨G, σ2, M, _, E2, sr, rs, q2, fun w M1 G1 H1 v m1 sr1 rw1 q3 => ?_, px⟩
    refine ⟨G1, σ2, M1, _, E2, sr1, rs.mono m1, q3, fun l M2 G2 H2 m2 sr2 q4 => ?_, px.mono m1⟩
    refine ⟨G2, σ2, M2, _, E2, sr2, rs.mono (m1.trans m2), q4, fun u M3 G3 H3 m3 sr3 q5 => ?_, px.mono (m1.trans m2)⟩
    have mo := (m1.trans m2).trans m3
    have r3 := RW.mono (m2.trans m3) rw1
    replace q5 : oSl m _ _ _ _ _ := slF_old q5
    rcases q5 with ⟨ws, e1, q5⟩ | ⟨xs, e1, q5⟩ | ⟨z, e1, q5⟩
    · obtain ⟨a, vs, rfl, hs, rr⟩ := listW_low sr3 r3 e1
      exact .inl ⟨a, vs, rfl, by rw [hK]; exact hs, fun p hp => newL_low sr3 (cut_low rr l u) q5 (pq.mono mo) hp⟩
    · cases tupD_eq e1
      obtain ⟨a, vs, rfl, hs, rr⟩ := (show ∃ a vs, v = .ref a ∧ SqT T.K G3 a vs ∧ RpL T G3 xs vs from r3)
      refine .inr (.inl ⟨a, vs, rfl, by rw [hK]; exact (Mo.of sr3.le).seqT hs, fun w => ?_, fun _ p hp => ?_⟩)
      · rw [← rr.len] at w
        rw [cutW_all xs l u w] at q5
        exact pq _ M3 G3 H3 _ mo sr3 (show RW T G3 (.d (.tup xs)) (.ref a) from ⟨a, vs, rfl, hs, rr⟩) q5
      · have c := cut_low rr.to l u
        rw [cutW_map] at c
        exact q_tup sr3 (RpL.of c) q5 (pq.mono mo) hp
    · cases strD_eq e1
      obtain ⟨h1, h2⟩ := (show v = .str z ∧ z.length ≤ sizeLine from r3)
      exact .inr (.inr ⟨z, h1, h2, q_str sr3 (Nat.le_trans (cutS_len z l u) h2) q5 (pq.mono mo)⟩)

/-! ### built-in functions by their names -/
abbrev RC2 := List W → Mp → VK2 → Prop
def lowB (T : Tab) (r : RC2) : List V → Hp → VK → Prop := fun vs H Q1 => ∃ G ws M Q2, SR T G H M ∧ RWs T G ws vs ∧ r ws M Q2 ∧ PQ T G Q2 Q1
def wCB (r : RC2) (t : TA2) : TE2 := fun σ M Q E => t σ M (fun ws M1 => r ws M1 Q) E
theorem low_cb {r : RC2} {t : TA2} {σ : L2.St} {H : Hp} {Q : VK} (h : lowE T Wx (wCB r t) σ H Q) : tCB (lowB T r) (lowA T Wx t) σ H Q := by
  obtain ⟨G, σ2, M, Q2, E2, sr, rs, q2, pq, px⟩ := h
  exact ⟨G, σ2, M, _, E2, sr, rs, q2, fun ws M1 G1 H1 vs m1 sr1 rw1 q3 => ⟨G1, ws, M1, Q2, sr1, rw1, q3, pq.mono m1⟩, px⟩
theorem RWs.one {G : Hp} {w : W} {vs : List V} (h : RWs T G [w] vs) : ∃ v, vs = [v] ∧ RW T G w v := by
  cases h with
  | cons a t => cases t; exact ⟨_, rfl, a⟩
theorem RWs.two {G : Hp} {w w' : W} {vs : List V} (h : RWs T G [w, w'] vs) : ∃ v v', vs = [v, v'] ∧ RW T G w v ∧ RW T G w' v' := by
  cases h with
  | cons a t =>
    obtain ⟨v, e, r⟩ := RWs.one t
    rw [e]
    exact ⟨_, v, rfl, a, r⟩
/-- len -/
def rLen : RC2 := fun ws M Q => ∃ w, ws = [w] ∧ ((∃ us, seqW M w = some us ∧ Q (.d (.int us.length)) M) ∨ ∃ z, strD w = some z ∧ Q (.d (.int z.length)) M)
theorem b_len (hK : X.K = T.K) : CallR X (.builtin "len") (lowB T rLen) := (call_len_seq.or call_len_str).imp fun vs H Q h => by
  obtain ⟨G, ws, M, Q2, sr, rz, ⟨w, rfl, q⟩, pq⟩ := h
  obtain ⟨v, rfl, r⟩ := rz.one
  rcases q with ⟨us, e, q⟩ | ⟨z, e, q⟩
  · obtain ⟨a, xs, rfl, hs, rr⟩ := seqW_low sr r e
    exact .inl ⟨a, xs, rfl, by rw [hK]; exact hs, by rw [← rr.len]; exact q_int sr q pq⟩
  · cases strD_eq e
    obtain ⟨h1, h2⟩ := (show v = .str z ∧ z.length ≤ sizeLine from r)
    subst h1
    exact .inr ⟨z, rfl, h2, q_int sr q pq⟩
/-- list(x) -/
def rList (m : Bool) : RC2 := fun ws M Q => ∃ w us, ws = [w] ∧ seqW M w = some us ∧ newL m us M Q
theorem b_list (hK : X.K = T.K) (m : Bool) : CallR X (.type "list") (lowB T (rList m)) := call_list_of.imp fun vs H Q h => by
  obtain ⟨G, ws, M, Q2, sr, rz, ⟨w, us, rfl, e, q⟩, pq⟩ := h
  obtain ⟨v, rfl, r⟩ := rz.one
  obtain ⟨a, xs, rfl, hs, rr⟩ := seqW_low sr r e
  exact ⟨a, xs, rfl, by rw [hK]; exact hs, fun p hp => newL_low sr rr q pq hp⟩
/-- tuple(x) -/
def rTuple : RC2 := fun ws M Q => ∃ w us ds, ws = [w] ∧ seqW M w = some us ∧ unD us = some ds ∧ Q (.d (.tup ds)) M
theorem b_tuple (hK : X.K = T.K) : CallR X (.type "tuple") (lowB T rTuple) := call_tuple_of.imp fun vs H Q h => by
  obtain ⟨G, ws, M, Q2, sr, rz, ⟨w, us, ds, rfl, e, e2, q⟩, pq⟩ := h
  obtain ⟨v, rfl, r⟩ := rz.one
  cases unD_eq e2
  have lst : listW M w = some (ds.map W.d) → ∃ p ys, [v] = [V.ref p] ∧ ((SqL X.K H p ys ∧ ∀ l, H l = none → Q (.ref l) (upd H l (.tup ys))) ∨ (SqT X.K H p ys ∧ Q (.ref p) H)) := fun e => by
    obtain ⟨a, xs, rfl, h2, rr2⟩ := listW_low sr r e
    exact ⟨a, xs, rfl, .inl ⟨by rw [hK]; exact h2, fun p hp => q_tup sr (RpL.of rr2) q pq hp⟩⟩
  cases w with
  | d x =>
    cases x with
    | tup ys =>
      have ey : ys = ds := by
        have := congrArg (fun o => o.bind unD) e
        simpa [seqW, itemsT] using this
      subst ey
      obtain ⟨a, xs, rfl, hs, rr⟩ := (show ∃ a' vs, v = .ref a' ∧ SqT T.K G a' vs ∧ RpL T G ys vs from r)
      exact ⟨a, xs, rfl, .inr ⟨by rw [hK]; exact (Mo.of sr.le).seqT hs, pq _ M G H _ (Mo.refl _) sr (show RW T G (.d (.tup ys)) (.ref a) from ⟨a, xs, rfl, hs, rr⟩) q⟩⟩
    | lst ys => exact lst e
    | _ => exact nomatch (show (none : Option (List W)) = some _ from e)
  | c b => exact lst e
  | r b => exact lst e
/-- int(i) -/
def rInt : RC2 := fun ws M Q => (∃ i, ws = [.d (.int i)] ∧ Q (.d (.int i)) M) ∨ ∃ b : Bool, ws = [.d (.bool b)] ∧ Q (.d (.int (if b = true then 1 else 0))) M
theorem b_int : CallR X (.type "int") (lowB T rInt) := call_int1.imp fun vs H Q h => by
  obtain ⟨G, ws, M, Q2, sr, rz, ⟨i, rfl, q⟩ | ⟨b, rfl, q⟩, pq⟩ := h
  · obtain ⟨v, rfl, r⟩ := rz.one
    exact .inl ⟨i, by rw [show v = .int i from r], q_int sr q pq⟩
  · obtain ⟨v, rfl, r⟩ := rz.one
    exact .inr ⟨b, by rw [show v = .bl b from r], q_int sr q pq⟩
/-- str(s) -/
def rStr : RC2 := fun ws M Q => ∃ i, ws = [.d (.str i)] ∧ Q (.d (.str i)) M
theorem b_str : CallR X (.type "str") (lowB T rStr) := SkE.call_str_str.imp fun vs H Q h => by
  obtain ⟨G, ws, M, Q2, sr, rz, ⟨i, rfl, q⟩, pq⟩ := h
  obtain ⟨v, rfl, r⟩ := rz.one
  obtain ⟨h1, h2⟩ := (show v = .str i ∧ i.length ≤ sizeLine from r)
  exact ⟨i, by rw [h1], q_str sr h2 q pq⟩
/-- all, any of a list of truth values -/
def bW (bs : List Bool) : List W := bs.map fun b => W.d (.bool b)
theorem bW_low {G : Hp} : ∀ {bs : List Bool} {vs : List V}, RWs T G (bW bs) vs → vs = bs.map V.bl
  | [], _, .nil => rfl
  | b :: bs, v :: vs, .cons a t => by
    rw [bW_low (bs := bs) t, show v = .bl b from a]
    rfl
def rAllB : RC2 := fun ws M Q => ∃ w bs, ws = [w] ∧ listW M w = some (bW bs) ∧ Q (.d (.bool (bs.all id))) M
def rAnyB : RC2 := fun ws M Q => ∃ w bs, ws = [w] ∧ listW M w = some (bW bs) ∧ Q (.d (.bool (bs.any id))) M
theorem b_all (hK : X.K = T.K) (hc : X.calm = true) : CallR X (.builtin "all") (lowB T rAllB) := (cr_all hc).imp fun vs H Q h => by
  obtain ⟨G, ws, M, Q2, sr, rz, ⟨w, bs, rfl, e, q⟩, pq⟩ := h
  obtain ⟨v, rfl, r⟩ := rz.one
  obtain ⟨a, xs, rfl, hs, rr⟩ := listW_low sr r e
  exact ⟨a, bs, rfl, by rw [hK, ← bW_low rr]; exact hs, q_bool sr q pq⟩
theorem b_any (hK : X.K = T.K) (hc : X.calm = true) : CallR X (.builtin "any") (lowB T rAnyB) := (cr_any hc).imp fun vs H Q h => by
  obtain ⟨G, ws, M, Q2, sr, rz, ⟨w, bs, rfl, e, q⟩, pq⟩ := h
  obtain ⟨v, rfl, r⟩ := rz.one
  obtain ⟨a, xs, rfl, hs, rr⟩ := listW_low sr r e
  exact ⟨a, bs, rfl, by rw [hK, ← bW_low rr]; exact hs, q_bool sr q pq⟩
/-- isinstance(x, T), T a built-in type by its name -/
inductive Ty where | int | str | bool | list | tuple
  deriving DecidableEq
def Ty.n : Ty → String
  | .int => "int" | .str => "str" | .bool => "bool" | .list => "list" | .tuple => "tuple"
def Ty.x : Ty → Str
  | .int => "int" | .str => "str" | .bool => "bool" | .list => "list" | .tuple => "tuple"
def tyD : D → Option String
  | .none => some "NoneType" | .bool _ => some "bool" | .int _ => some "int" | .str _ => some "str" | .lst _ => some "list" | .tup _ => some "tuple" | _ => none
def tyW (M : Mp) : W → Option String
  | .d x => tyD x
  | .c a => match M a with
    | some (.dic _ _) => some "dict"
    | m => (itemsC m).map fun _ => "list"
  | .r _ => some "list"
theorem tyL {K : PySem.W.Frag} {H : Hp} {a : Addr} {xs : List V} (h : SqL K H a xs) : TyX K H (.ref a) (.type "list") := by
  rcases h with (h | ⟨o, h⟩) | ⟨o, its, n, e, c, _⟩
  · exact .base (.lst h)
  · exact .base (.frz h)
  · exact .kList e c
theorem tyT {K : PySem.W.Frag} {H : Hp} {a : Addr} {xs : List V} (h : SqT K H a xs) : TyX K H (.ref a) (.type "tuple") := by
  rcases h with (h | ⟨o, h⟩) | ⟨o, its, n, e, c, _⟩
  · exact .base (.tup h)
  · exact .fTuple h
  · exact .kTuple e c
theorem tyW_low {G H : Hp} {M : Mp} (sr : SR T G H M) {w : W} {v : V} {a : String} (r : RW T G w v) (h : tyW M w = some a) : TyX T.K H v (.type a) := by
  cases w with
  | d x =>
    cases x with
    | none => cases (show some "NoneType" = some a from h); cases (show v = .non from r); exact .base .non
    | bool b => cases (show some "bool" = some a from h); cases (show v = .bl b from r); exact .base (.bl b)
    | int b => cases (show some "int" = some a from h); cases (show v = .int b from r); exact .base (.int b)
    | str b => cases (show some "str" = some a from h); cases (show v = .str b from r.1); exact .base (.str b)
    | lst xs =>
      cases (show some "list" = some a from h)
      obtain ⟨p, vs, rfl, e, _⟩ := (show ∃ p vs, v = .ref p ∧ G p = some (.lst vs) ∧ RpL T G xs vs from r)
      exact .base (.lst (sr.le _ _ e))
    | tup xs =>
      cases (show some "tuple" = some a from h)
      obtain ⟨p, vs, rfl, e, _⟩ := (show ∃ p vs, v = .ref p ∧ SqT T.K G p vs ∧ RpL T G xs vs from r)
      exact tyT ((Mo.of sr.le).seqT e)
    | _ => exact nomatch (show (none : Option String) = some a from h)
  | c b =>
    have h : (match M b with | some (.dic _ _) => some "dict" | m => (itemsC m).map fun _ => "list") = some a := h
    split at h
    · rename_i lk kvs eb
      cases h
      obtain ⟨_, o, ho, vs, h1, rr⟩ := sr.ce b _ eb
      cases (show v = .ref b from r)
      cases lk with
      | none => cases (show o = .dK vs from h1); exact .base (.dK ho)
      | some l => cases h1.1; exact .fDict ho
    · cases e : itemsC (M b) with
      | none => rw [e] at h; cases h
      | some us =>
        rw [e] at h
        cases h
        obtain ⟨p, vs, rfl, hs, _⟩ := listW_low sr r (show listW M (.c b) = some us from e)
        exact tyL hs
  | r xs =>
    cases (show some "list" = some a from h)
    obtain ⟨p, vs, rfl, hs, _⟩ := listW_low sr r (show listW M (.r xs) = some (xs.map W.d) from rfl)
    exact tyL hs
def oIsi (t : Ty) (w : W) (M : Mp) (Q : VK2) : Prop := ∃ a r, tyW M w = some a ∧ kitB a t.n = some r ∧ Q (.d (.bool r)) M
def wIsi (t : Ty) (te : TE2) : TE2 := fun σ M Q E => te σ M (fun w M1 => oIsi t w M1 Q) E
theorem ty_boot : ∀ t : Ty, bootBuiltins t.x = some (.type t.n)
  | .int => by decide +kernel
  | .str => by decide +kernel
  | .bool => by decide +kernel
  | .list => by decide +kernel
  | .tuple => by decide +kernel
theorem ty_no : ∀ t : Ty, t.x ≠ "__name__" ∧ (t.x == ("__debug__" : Str)) = false := fun t => by cases t <;> decide +kernel
theorem e_isi {t : Ty} {te : TE2} {a : Expr} {p p2 pos : Pos} (hK : X.K = T.K) (hg : Gl X "isinstance") (hm : X.mg "isinstance" = none) (hg2 : Gl X t.x) (hm2 : X.mg t.x = none) (ha : PE X a (lowE T Wx te))
    (hs : starEach [a, .Name t.x p2] X.env = (false, eval a X.env) :: starEach [.Name t.x p2] X.env) : PE X (.Call (.Name "isinstance" p) [a, .Name t.x p2] [] pos) (lowE T Wx (wIsi t te)) := by
  refine (pe_callB (call_isi (X := X)) hg hm PyProof.Rows.boot_isinstance (pa_cons ha (pa_cons (pe_bltn (v := .ty t.n) hg2 hm2 (ty_boot t) rfl (ty_no t).1 (ty_no t).2) pa_nil) hs) (by decide) (by decide) hs rfl).imp fun σ H Q h => ?_
  obtain ⟨G, σ2, M, Q2, E2, sr, rs, q2, pq, px⟩ := h
  refine ⟨G, σ2, M, _, E2, sr, rs, q2, fun w M1 G1 H1 v m1 sr1 rw1 q3 => ?_, px⟩
  obtain ⟨b, r, e1, e2, q3⟩ := q3
  exact ⟨v, .ty t.n, .type b, .type t.n, r, rfl, .ty _, by rw [hK]; exact tyW_low sr1 rw1 e1, kit_ty e2, q_bool sr1 q3 (pq.mono m1)⟩
/-- repr(x) -/
def rRepr : RC2 := fun ws M Q => ∃ w p, ws = [w] ∧ toPyW M w = some p ∧ PyData.showable p = true ∧ p.depth ≤ 100 ∧ (PyData.shown p).length ≤ sizeLine ∧ Q (.d (.str (PyData.shown p))) M
mutual
theorem nodict {K : PySem.W.Frag} {H : Hp} : ∀ (p : PyData) (v : V), Dp K H v p → PyData.hasDict p = false
  | .none, _, _ => rfl
  | .bool _, _, _ => rfl
  | .int _, _, _ => rfl
  | .str _, _, _ => rfl
  | .list xs, _, h => by
    cases h with
    | lst _ a => exact nodictL xs _ a
  | .tuple xs, _, h => by
    cases h with
    | tup _ a => exact nodictL xs _ a
  | .dict _, _, h => by cases h
theorem nodictL {K : PySem.W.Frag} {H : Hp} : ∀ (p : List PyData) (v : List V), DpAll K H v p → PyData.hasDictAll p = false
  | [], _, _ => rfl
  | p :: ps, _, h => by
    cases h with
    | cons a t =>
      show (PyData.hasDict p || PyData.hasDictAll ps) = false
      rw [nodict p _ a, nodictL ps _ t]
      rfl
end
theorem b_repr (C : Ctx T k N mg X Wx sc) : CallR X (.builtin "repr") (lowB T rRepr) := by
  intro pins s σ H xs us Q I r h
  obtain ⟨G, ws, M, Q2, sr, rw1, ⟨w, p, rfl, e, hs, hd, hz, q⟩, pq⟩ := h
  obtain ⟨v, rfl, rv⟩ := rw1.one
  have dp := toPyW_low sr rv e
  obtain ⟨u, rfl, ru⟩ := vals1 r
  have q1 : Q (.str (PyData.shown p)) H := q_str sr hz q pq
  have nd := nodict p v dp
  obtain ⟨as, rd⟩ := Dp.reads I p v u (by rw [C.eK]; exact dp) ru
  have hun := C.room.un
  cases rd with
  | none => exact P.repr_of_none ⟨V.str (PyData.shown .none), H, I.tok _, ⟨_, rfl⟩, q1⟩
  | bool b => exact P.repr_of_bool ⟨V.str (PyData.shown (.bool b)), H, I.tok _, ⟨_, rfl⟩, q1⟩
  | int i t => exact P.repr_of_int (by simpa [PyData.showable] using hs) ⟨V.str (PyData.shown (.int i)), H, I.tok _, ⟨_, rfl⟩, q1⟩
  | str x t => exact P.repr_of_str ⟨V.str (PyData.shown (.str x)), H, I.tok _, ⟨_, rfl⟩, q1⟩ hz
  | list a b c d =>
    exact repr_of_reads' (.list a b c d) hs (PyData.noDict_hsm nd) C.gd (by omega) (fun _ _ z => z) (fun h' u tk hk => ⟨V.str (PyData.shown _), H, I.kept hk, ⟨_, rfl⟩, q1⟩) hz
  | tuple a b c d =>
    exact repr_of_reads' (.tuple a b c d) hs (PyData.noDict_hsm nd) C.gd (by omega) (fun _ _ z => z) (fun h' u tk hk => ⟨V.str (PyData.shown _), H, I.kept hk, ⟨_, rfl⟩, q1⟩) hz
  | dict a b c d d2 => exact nomatch nd
end
end Z
set_option maxHeartbeats 4000000
/-! Z6: methods of built-in types, defs and their promises -/
namespace Z
open PySem PySem.Spec PyProof.Rows L2
section
variable {X : Cx} {T : Tab} {Wx : WX} {k : Nat} {N : List Str} {mg : Str → Option Value} {sc : Scope}
abbrev RM2 := W → List W → Mp → VK2 → Prop
def lowM (T : Tab) (r : RM2) : V → List V → Hp → VK → Prop := fun x vs H Q1 => ∃ G w ws M Q2, SR T G H M ∧ RW T G w x ∧ RWs T G ws vs ∧ r w ws M Q2 ∧ PQ T G Q2 Q1
theorem _root_.L2.MtR.imp {id : String} {r r' : V → List V → Hp → VK → Prop} (h : MtR X id r) (i : ∀ x vs H Q, r' x vs H Q → r x vs H Q) : MtR X id r' :=
  fun pins s σ H x xs v us Q I rx rs q => h pins s σ H x xs v us Q I rx rs (i _ _ _ _ q)
def okL (x : W) (M : Mp) : Prop := ∃ us, listW M x = some us
def okS (x : W) (_ : Mp) : Prop := ∃ z, strD x = some z
def wBM (ok : W → Mp → Prop) (r : RM2) (to : TE2) (ta : TA2) : TE2 := fun σ M Q E => to σ M (fun x M1 => ok x M1 ∧ ta σ M1 (fun ws M2 => r x ws M2 Q) E) E
def wBM0 (ok : W → Mp → Prop) (r : RM2) (to : TE2) : TE2 := fun σ M Q E => to σ M (fun x M1 => ok x M1 ∧ r x [] M1 Q) E
structure OkTy (T : Tab) (K : PySem.W.Frag) (Ty : String) (ok : W → Mp → Prop) : Prop where
  ty : ∀ {G H : Hp} {M : Mp} {w : W} {v : V}, SR T G H M → RW T G w v → ok w M → tyV K Ty v H
theorem okL_ty (hK : X.K = T.K) : OkTy T X.K "list" okL := ⟨fun {G H M w v} sr r ⟨us, e⟩ => by
  obtain ⟨a, vs, rfl, h, _⟩ := listW_low sr r e
  exact .inl ⟨rfl, vs, by rw [hK]; exact h⟩⟩
theorem okS_ty {K : PySem.W.Frag} : OkTy T K "str" okS := ⟨fun {G H M w v} sr r ⟨us, e⟩ => by
  cases strD_eq e
  rw [show v = .str us from r.1]
  rfl⟩
theorem low_bm {K : PySem.W.Frag} {Ty : String} {ok : W → Mp → Prop} (hk : OkTy T K Ty ok) {r : RM2} {to : TE2} {ta : TA2} {σ : L2.St} {H : Hp} {Q : VK} (h : lowE T Wx (wBM ok r to ta) σ H Q) : tBM K Ty (lowM T r) (lowE T Wx to) (lowA T Wx ta) σ H Q := by
  obtain ⟨G, σ2, M, Q2, E2, sr, rs, q2, pq, px⟩ := h
  refine ⟨G, σ2, M, _, E2, sr, rs, q2, fun w M1 G1 H1 v m1 sr1 rw1 q3 => ?_, px⟩
  obtain ⟨o, q3⟩ := q3
  refine ⟨hk.ty sr1 rw1 o, G1, σ2, M1, _, E2, sr1, rs.mono m1, q3, fun ws M2 G2 H2 vs m2 sr2 rw2 q4 => ?_, px.mono m1⟩
  exact ⟨G2, w, ws, M2, Q2, sr2, rw1.mono m2, rw2, q4, pq.mono (m1.trans m2)⟩
theorem low_bm0 {K : PySem.W.Frag} {Ty : String} {ok : W → Mp → Prop} (hk : OkTy T K Ty ok) {r : RM2} {to : TE2} {σ : L2.St} {H : Hp} {Q : VK} (h : lowE T Wx (wBM0 ok r to) σ H Q) : tBM0 K Ty (lowM T r) (lowE T Wx to) σ H Q := by
  obtain ⟨G, σ2, M, Q2, E2, sr, rs, q2, pq, px⟩ := h
  refine ⟨G, σ2, M, _, E2, sr, rs, q2, fun w M1 G1 H1 v m1 sr1 rw1 q3 => ?_, px⟩
  obtain ⟨o, q3⟩ := q3
  exact ⟨hk.ty sr1 rw1 o, G1, w, [], M1, Q2, sr1, rw1, .nil, q3, pq.mono m1⟩
/-- xs.append(w) -/
def mAppend : RM2 := fun x ws M Q => ∃ a us w, x = .c a ∧ ws = [w] ∧ M a = some (.lst us) ∧ us.length < sizeLine ∧ Q (.d .none) (put M a (.lst (us ++ [w])))
theorem SR.lst {G H : Hp} {M : Mp} {a : Addr} {us : List W} (sr : SR T G H M) (h : M a = some (.lst us)) : ∃ vs, H a = some (.lst vs) ∧ RWs T G us vs := by
  obtain ⟨_, o, ho, vs, e, r⟩ := sr.ce _ _ h
  subst e
  exact ⟨vs, ho, r⟩
theorem q_put {G H : Hp} {M : Mp} {Q2 : VK2} {Q : VK} {a : Addr} {c0 : Cl} {ws : List W} {vs : List V} {w : W} {v : V} (sr : SR T G H M) (h : M a = some c0) (r : RWs T G ws vs) (rv : RW T G w v) (q : Q2 w (put M a (.lst ws))) (pq : PQ T G Q2 Q) : Q v (upd H a (.lst vs)) :=
  pq w _ G _ v (Mo.refl _) (sr.write h (show RC T G (.lst ws) (.lst vs) from ⟨vs, rfl, r⟩)) rv q
theorem m_append : MtR X "list.append" (lowM T mAppend) := MtR.imp (show MtR X "list.append" rAppend from mt_append) fun x vs H Q h => by
  obtain ⟨G, w, ws, M, Q2, sr, rx, rs, ⟨a, us, y, rfl, rfl, e, hz, q⟩, pq⟩ := h
  obtain ⟨v, rfl, rv⟩ := rs.one
  obtain ⟨vs, ho, rr⟩ := sr.lst e
  exact ⟨a, vs, v, rx, rfl, ho, by rw [← rr.len]; exact hz, q_put sr e (Paired.app rr (.cons rv .nil)) (show RW T G (.d .none) .non from rfl) q pq⟩
/-- xs.pop(i) -/
def mPopAt : RM2 := fun x ws M Q => ∃ a us i j w, x = .c a ∧ ws = [.d (.int i)] ∧ M a = some (.lst us) ∧ -(2 ^ 63) ≤ i ∧ i < 2 ^ 63 ∧ seqIndex? i us.length = some j ∧ us[j]? = some w ∧ Q w (put M a (.lst (us.eraseIdx j)))
theorem Paired.erase {α β : Type} {F : α → β → Prop} : ∀ (n : Nat) {a : List α} {c : List β}, Paired F a c → Paired F (a.eraseIdx n) (c.eraseIdx n)
  | _, _, _, .nil => .nil
  | 0, _, _, .cons _ t => t
  | n + 1, _, _, .cons r t => .cons r (Paired.erase n t)
theorem m_popAt : MtR X "list.pop" (lowM T mPopAt) := MtR.imp (show MtR X "list.pop" rPopAt from mt_popAt) fun x vs H Q h => by
  obtain ⟨G, w, ws, M, Q2, sr, rx, rs, ⟨a, us, i, j, y, rfl, rfl, e, h1, h2, h3, h4, q⟩, pq⟩ := h
  obtain ⟨v, rfl, rv⟩ := rs.one
  obtain ⟨vs, ho, rr⟩ := sr.lst e
  obtain ⟨u, hu, ru⟩ := rr.get h4
  exact ⟨a, vs, i, j, u, rx, by rw [show v = .int i from rv], ho, h1, h2, by rw [← rr.len]; exact h3, hu, q_put sr e (Paired.erase j rr) ru q pq⟩
/-- xs.extend(ys) -/
def mExtend : RM2 := fun x ws M Q => ∃ a us w zs, x = .c a ∧ ws = [w] ∧ isL w = true ∧ M a = some (.lst us) ∧ listW M w = some zs ∧ us.length + zs.length ≤ sizeLine ∧ Q (.d .none) (put M a (.lst (us ++ zs)))
theorem m_extend : MtR X "list.extend" (lowM T mExtend) := MtR.imp (show MtR X "list.extend" rExtend from mt_extend) fun x vs H Q h => by
  obtain ⟨G, w, ws, M, Q2, sr, rx, rs, ⟨a, us, y, zs, rfl, rfl, hl, e, e2, hz, q⟩, pq⟩ := h
  obtain ⟨v, rfl, rv⟩ := rs.one
  obtain ⟨vs, ho, rr⟩ := sr.lst e
  obtain ⟨b, ys, rfl, hb, r2⟩ := listW_at sr rv e2 (isL_nr hl)
  exact ⟨a, b, vs, ys, rx, rfl, ho, hb, by rw [← rr.len, ← r2.len]; exact hz, q_put sr e (Paired.app rr r2) (show RW T G (.d .none) .non from rfl) q pq⟩
/-- sep.join(texts) -/
def strsL : List W → Option (List Str)
  | [] => some []
  | .d (.str s) :: r => (strsL r).map (s :: ·)
  | _ :: _ => none
@[simp] theorem strsL_map (ss : List Str) : strsL (ss.map fun s => W.d (.str s)) = some ss := by
  induction ss with
  | nil => rfl
  | cons x r ih => show (strsL (r.map _)).map (x :: ·) = _; rw [ih]; rfl
theorem strsL_low {G : Hp} : ∀ {ws : List W} {vs : List V} {ss : List Str}, RWs T G ws vs → strsL ws = some ss → vs = ss.map V.str
  | [], _, _, .nil, h => by cases (show some [] = some _ from h); rfl
  | w :: ws, v :: vs, ss, .cons a t, h => by
    cases w with
    | d x =>
      cases x with
      | str z =>
        have h : (strsL ws).map (z :: ·) = some ss := h
        cases e : strsL ws with
        | none => rw [e] at h; cases h
        | some l =>
          rw [e] at h
          cases h
          rw [strsL_low t e, show v = .str z from a.1]
          rfl
      | _ => exact nomatch (show (none : Option (List Str)) = some _ from h)
    | _ => exact nomatch (show (none : Option (List Str)) = some _ from h)
def mJoin : RM2 := fun x ws M Q => ∃ z w us ss, strD x = some z ∧ ws = [w] ∧ seqW M w = some us ∧ strsL us = some ss ∧ (ss.map (·.length)).sum + ss.length * z.length ≤ 16777216 ∧ (Txt.join z ss).length ≤ sizeLine ∧ Q (.d (.str (Txt.join z ss))) M
theorem m_join (hK : X.K = T.K) : MtR X "str.join" (lowM T mJoin) := MtR.imp mt_join fun x vs H Q h => by
  obtain ⟨G, w, ws, M, Q2, sr, rx, rs, ⟨z, y, us, ss, e0, rfl, e1, e2, hz, hy, q⟩, pq⟩ := h
  cases strD_eq e0
  obtain ⟨v, rfl, rv⟩ := rs.one
  obtain ⟨a, xs, rfl, hs, rr⟩ := seqW_low sr rv e1
  have e3 := strsL_low rr e2
  subst e3
  exact ⟨z, a, ss, rx.1, rfl, by rw [hK]; exact hs, hz, q_str sr hy q pq⟩

/-! ### what a def promises -/
abbrev Sp2 := List W → Mp → VK2 → XK2 → Prop
def PE1 (T : Tab) (G : Hp) (E2 : XK2) (E1 : XK) : Prop := ∀ x M' G' H' cls d, Mo G G' → SR T G' H' M' → RX T G' x cls d → E2 x M' → E1 cls d H'
def lowSp (T : Tab) (sp : Sp2) : Sp := fun vs H Q1 E1 => ∃ G ws M Q2 E2, SR T G H M ∧ RWs T G ws vs ∧ sp ws M Q2 E2 ∧ PQ T G Q2 Q1 ∧ PE1 T G E2 E1
structure Fn (P : Program) (w : World) (T : Tab) (mg : Str → Option Value) (base : Heap) (k : Nat) (f : Addr) (fd : FuncData) (ps : List Str) (sp : Sp2) : Prop where
  len : ∀ ws M Q E, sp ws M Q E → ws.length = ps.length
  run : ∀ (A : Around) (outer : List Env) (s : Shared) (H : Hp) (args : Args) (us : List Value) (vs : List V) (Q : VK) (E : XK), Room k A → A.guards = some [] → Env0 P w T.K mg base A outer s H → BindsTo s fd args (ps.zip us) → Vals vs us →
    lowSp T sp vs H Q E → codeAny (model P w) A (.call (.ref f) args) (CR (L2.CX P w) outer P w H s Q E) s
theorem Fn.mono {P : Program} {w : World} {base : Heap} {j k : Nat} {f : Addr} {fd : FuncData} {ps : List Str} {sp : Sp2} (F : Fn P w T mg base j f fd ps sp) (h : j ≤ k) : Fn P w T mg base k f fd ps sp :=
  ⟨F.len, fun A outer s H args us vs Q E hr => F.run A outer s H args us vs Q E (hr.mono h)⟩
/-- the def with the promise sp is known under its global name; its parameters, the defaults from the right -/
structure KnP (P : Program) (w : World) (K : PySem.W.Frag) (mg : Str → Option Value) (base : Heap) (T : Tab) (k : Nat) (x : Str) (sp : Sp2) (dws : List W) : Prop where
  ex : ∃ f fd ps ds dvs, mg x = some (.ref f) ∧ PySem.W.keepIn K (.ref f) = true ∧ Binds K fd ps ds ∧ Vals dvs ds ∧ (∀ G, RWs T G dws dvs) ∧ Fn P w T mg base k f fd ps sp
abbrev Kn (X : Cx) (T : Tab) (k : Nat) (x : Str) (sp : Sp2) (dws : List W) : Prop := KnP X.prog X.w X.K X.mg X.base T k x sp dws
theorem run_f {pins : List (Addr × Obj)} {σ : L2.St} {H : Hp} {s : Shared} {Q : VK} {us ds : List Value} {vs dvs : List V} {f : Addr} {fd : FuncData} {ps : List Str} {sp : Sp2}
    (C : Ctx T k N mg X Wx sc) (F : Fn X.prog X.w T X.mg X.base k f fd ps sp) (hb : Binds X.K fd ps ds) (hd : Vals dvs ds)
    (I : Inv X pins σ H s) (r : Vals vs us) (h : lowSp T sp (vs ++ dvs) H Q (WE Wx σ)) : wpAny (model X.prog X.w) X.A (call (.ref f) us) (EP X pins σ Q) X.xe s := by
  have r2 := r.append hd
  have hl : (us ++ ds).length = ps.length := by
    rw [← r2.length]
    obtain ⟨G, ws, M, Q2, E2, sr, rr, q, _⟩ := h
    rw [← rr.len]
    exact F.len _ _ _ _ q
  have b := hb s us I.kIn hl
  have e0 : Env0 X.prog X.w T.K X.mg X.base X.A X.stack s H := by rw [← C.eK]; exact I.env0
  refine wpAny_call (codeAny_mono (F.run X.A X.stack s H ⟨us, []⟩ (us ++ ds) (vs ++ dvs) Q (WE Wx σ) C.room C.gd e0 b r2 h) fun r s' hq => ?_)
  cases r with
  | error e => exact passAt C.tk σ pins H s e s' I hq
  | ok fl =>
    cases fl with
    | ret u => exact I.after hq
    | _ => exact False.elim hq
def wCall (sp : Sp2) (dws : List W) (ta : TA2) : TE2 := fun σ M Q E => ta σ M (fun ws M1 => sp (ws ++ dws) M1 Q E) E
theorem low_call {sp : Sp2} {dws : List W} {dvs : List V} {ta : TA2} {σ : L2.St} {H : Hp} {Q : VK} (hd : ∀ G, RWs T G dws dvs) (h : lowE T Wx (wCall sp dws ta) σ H Q) : lowA T Wx ta σ H fun vs H1 => lowSp T sp (vs ++ dvs) H1 Q (WE Wx σ) := by
  obtain ⟨G, σ2, M, Q2, E2, sr, rs, q2, pq, px⟩ := h
  refine ⟨G, σ2, M, _, E2, sr, rs, q2, fun ws M1 G1 H1 vs m1 sr1 rw1 q3 => ?_, px⟩
  exact ⟨G1, ws ++ dws, M1, Q2, E2, sr1, Paired.app rw1 (hd G1), q3, pq.mono m1, fun x M' G' H' cls d m2 sr2 rx q => px x M' G' H' cls d (m1.trans m2) sr2 rx q⟩
theorem e_call {x : Str} {sp : Sp2} {dws : List W} {e : Expr} {es : List Expr} {ta : TA2} {p pos : Pos} (C : Ctx T k N mg X Wx sc) (F : Kn X T k x sp dws) (hg : Gl X x) (ha : PA X (e :: es) (lowA T Wx ta)) (hdb : (x == ("__debug__" : Str)) = false)
    (he : starEach (e :: es) X.env = (false, eval e X.env) :: starEach es X.env) (hpl : (backTo pos (starEach es X.env)).any (·.1) = false) : PE X (.Call (.Name x p) (e :: es) [] pos) (lowE T Wx (wCall sp dws ta)) := by
  obtain ⟨f, fd, ps, ds, dvs, hm, hk, hb, hv, hd, Fo⟩ := F.ex
  refine ⟨fun pins s σ H Q I h => ?_⟩
  refine wpAny_Call_Name_kw (ld_glob I hg hm ?_ hdb)
  refine PySem.W.callWith_K (h₀ := X.base) I.ok.mod.kin hk (thn (ha.run pos pins s σ H _ I (low_call hd h)) fun us s1 ⟨vs, H1, I1, r, q⟩ => ⟨I1.kIn, ?_⟩) he hpl
  exact run_f C Fo hb hv I1 r q
end
end Z
set_option maxHeartbeats 4000000
/-! Z7: statements -/
namespace Z
open PySem PySem.Spec PyProof.Rows L2
section
variable {X : Cx} {T : Tab} {Wx : WX} {k : Nat} {N : List Str} {mg : Str → Option Value} {sc : Scope}
theorem RS.set {G : Hp} {w : W} {v : V} (rv : RW T G w v) : ∀ {σ2 : St2} {σ1 : L2.St} (i : Nat), RS T G σ2 σ1 → RS T G (σ2.set i (some w)) (σ1.set i (some v))
  | _, _, _, .nil => .nil
  | _, _, 0, .cons _ t => .cons rv t
  | _, _, i + 1, .cons r t => .cons r (RS.set rv i t)
/-! ### targets -/
abbrev TG2 := W → St2 → Mp → (St2 → Mp → Prop) → XK2 → Prop
abbrev TGs2 := List W → St2 → Mp → (St2 → Mp → Prop) → XK2 → Prop
def PN (T : Tab) (G : Hp) (Q2 : St2 → Mp → Prop) (Q1 : L2.St → Hp → Prop) : Prop := ∀ σ2 M' G' H' σ1, Mo G G' → SR T G' H' M' → RS T G' σ2 σ1 → Q2 σ2 M' → Q1 σ1 H'
theorem PN.mono {G G' : Hp} {Q2 : St2 → Mp → Prop} {Q1 : L2.St → Hp → Prop} (e : Mo G G') (h : PN T G Q2 Q1) : PN T G' Q2 Q1 := fun a b c d f g => h a b c d f (e.trans g)
def lowG (T : Tab) (Wx : WX) (t : TG2) : TG := fun v σ1 H Q1 => ∃ G σ2 M w Q2 E2, SR T G H M ∧ RS T G σ2 σ1 ∧ RW T G w v ∧ t w σ2 M Q2 E2 ∧ PN T G Q2 Q1 ∧ PX T Wx G σ1 E2
def lowGs (T : Tab) (Wx : WX) (t : TGs2) : TGs := fun vs σ1 H Q1 => ∃ G σ2 M ws Q2 E2, SR T G H M ∧ RS T G σ2 σ1 ∧ RWs T G ws vs ∧ t ws σ2 M Q2 E2 ∧ PN T G Q2 Q1 ∧ PX T Wx G σ1 E2
theorem _root_.L2.PG.imp {e : Expr} {t t' : TG} (h : PG X e t) (i : ∀ v σ H Q, t' v σ H Q → t v σ H Q) : PG X e t' := ⟨fun pins s σ H v u Q I r q => h.run pins s σ H v u Q I r (i _ _ _ _ q)⟩
theorem _root_.L2.PGs.imp {e : List Expr} {t t' : TGs} (h : PGs X e t) (i : ∀ v σ H Q, t' v σ H Q → t v σ H Q) : PGs X e t' := ⟨fun pins s σ H v u Q I r q => h.run pins s σ H v u Q I r (i _ _ _ _ q)⟩
def wgName (i : Nat) : TG2 := fun w σ M Q _ => Q (σ.set i (some w)) M
theorem g_name {i : Nat} {tg : Expr} (h : PG X tg (gName i)) : PG X tg (lowG T Wx (wgName i)) := h.imp fun v σ H Q q => by
  obtain ⟨G, σ2, M, w, Q2, E2, sr, rs, rw1, q2, pn, px⟩ := q
  exact pn _ M G H _ (Mo.refl _) sr (rs.set rw1 i) q2
def wgNil : TGs2 := fun ws σ M Q _ => ws = [] ∧ Q σ M
/-- targets that are names (the slots stay as the other targets need them) -/
def wgCons (i : Nat) (u : TGs2) : TGs2 := fun ws σ M Q E => ∃ w r, ws = w :: r ∧ u r (σ.set i (some w)) M Q E
theorem gs_nil : PGs X [] (lowGs T Wx wgNil) := pgs_nil.imp fun v σ H Q q => by
  obtain ⟨G, σ2, M, ws, Q2, E2, sr, rs, rw1, ⟨rfl, q2⟩, pn, px⟩ := q
  cases rw1
  exact ⟨rfl, pn _ M G H _ (Mo.refl _) sr rs q2⟩
/-- what a raise wants holds whatever the slots are (names stored in between) -/
theorem gs_cons {i : Nat} {e : Expr} {es : List Expr} {u : TGs2} (h1 : PG X e (gName i)) (h2 : PGs X es (lowGs T Wx u)) (hs : (assignEach (e :: es) X.env).map (·.2) = assign e X.env :: (assignEach es X.env).map (·.2)) (hu : ∀ ws σ M Q E, u ws σ M Q E → u ws σ M Q fun _ _ => False) : PGs X (e :: es) (lowGs T Wx (wgCons i u)) := (pgs_cons h1 h2 hs).imp fun v σ H Q q => by
  obtain ⟨G, σ2, M, ws, Q2, E2, sr, rs, rw1, ⟨w, r, rfl, q2⟩, pn, px⟩ := q
  cases rw1 with
  | cons a t => exact ⟨_, _, rfl, G, σ2.set i (some w), M, r, Q2, _, sr, rs.set a i, t, hu _ _ _ _ _ q2, pn, fun _ _ _ _ _ _ _ _ _ f => f.elim⟩
theorem wgNil_no : ∀ ws σ M Q E, wgNil ws σ M Q E → wgNil ws σ M Q fun _ _ => False := fun _ _ _ _ _ h => h
theorem wgCons_no {i : Nat} {u : TGs2} (hu : ∀ ws σ M Q E, u ws σ M Q E → u ws σ M Q fun _ _ => False) : ∀ ws σ M Q E, wgCons i u ws σ M Q E → wgCons i u ws σ M Q fun _ _ => False := fun _ _ _ _ _ ⟨w, r, e, h⟩ => ⟨w, r, e, hu _ _ _ _ _ h⟩
/-- a, b, .. = a tuple; b: a list -/
def wgTup (n : Nat) (u : TGs2) : TG2 := fun w σ M Q E => ∃ ds, tupD w = some ds ∧ ds.length = n ∧ u (ds.map W.d) σ M Q E
def wgLst (n : Nat) (u : TGs2) : TG2 := fun w σ M Q E => ∃ ws, listW M w = some ws ∧ ws.length = n ∧ u ws σ M Q E
variable {pos : Pos}
theorem g_tup {es : List Expr} {kk : Nat} {u : TGs2} {n : Nat} (C : Ctx T k N mg X Wx sc) (h : PGs X es (lowGs T Wx u)) (hn : (assignEach es X.env).length = n) (hst : (assignEach es X.env).findIdx? (·.1) = none) : PG X (.Tuple es kk pos) (lowG T Wx (wgTup n u)) := (pg_tup C.calm h hn hst).imp fun v σ H Q q => by
  obtain ⟨G, σ2, M, w, Q2, E2, sr, rs, rw1, ⟨ds, e, hl, q2⟩, pn, px⟩ := q
  cases tupD_eq e
  obtain ⟨a, vs, rfl, h1, rr⟩ := (show ∃ a vs, v = .ref a ∧ SqT T.K G a vs ∧ RpL T G ds vs from rw1)
  exact ⟨a, vs, rfl, by rw [C.eK]; exact (Mo.of sr.le).seqT h1, by rw [← rr.len]; exact hl, G, σ2, M, _, Q2, E2, sr, rs, rr.to, q2, pn, px⟩
theorem g_lst {es : List Expr} {kk : Nat} {u : TGs2} {n : Nat} (C : Ctx T k N mg X Wx sc) (h : PGs X es (lowGs T Wx u)) (hn : (assignEach es X.env).length = n) (hst : (assignEach es X.env).findIdx? (·.1) = none) : PG X (.Tuple es kk pos) (lowG T Wx (wgLst n u)) := (pg_lst C.calm h hn hst).imp fun v σ H Q q => by
  obtain ⟨G, σ2, M, w, Q2, E2, sr, rs, rw1, ⟨ws, e, hl, q2⟩, pn, px⟩ := q
  obtain ⟨a, vs, rfl, h1, rr⟩ := listW_low sr rw1 e
  exact ⟨a, vs, rfl, by rw [C.eK]; exact h1, by rw [← rr.len]; exact hl, G, σ2, M, ws, Q2, E2, sr, rs, rr, q2, pn, px⟩
/-- o[i] = w, o a list in a cell -/
def oSet (x y w : W) (M : Mp) (Q : Mp → Prop) : Prop := ∃ a us i j, x = .c a ∧ y = .d (.int i) ∧ M a = some (.lst us) ∧ ixN us.length i = some j ∧ Q (put M a (.lst (us.set j w)))
def wgSub (to ti : TE2) : TG2 := fun w σ M Q E => to σ M (fun x M1 => ti σ M1 (fun y M2 => oSet x y w M2 fun M3 => Q σ M3) E) E
theorem Paired.set {α β : Type} {F : α → β → Prop} {x : α} {y : β} (r : F x y) : ∀ (n : Nat) {a : List α} {c : List β}, Paired F a c → Paired F (a.set n x) (c.set n y)
  | _, _, _, .nil => .nil
  | 0, _, _, .cons _ t => .cons r t
  | n + 1, _, _, .cons q t => .cons q (Paired.set r n t)
theorem g_sub {o i : Expr} {to ti : TE2} (ho : PE X o (lowE T Wx to)) (hi : PE X i (lowE T Wx ti))
    (ha : ∀ v, assign (.Subscript o i pos) X.env v = (do
      let ov ← holding [v] (eval o X.env)
      let iv ← holding [v, ov] (eval i X.env)
      standAt pos
      holding [v, ov, iv] (setItem ov iv v)
      release [v, ov, iv] [])) : PG X (.Subscript o i pos) (lowG T Wx (wgSub to ti)) := (pg_sub ho hi set_list ha).imp fun v σ H Q q => by
  obtain ⟨G, σ2, M, w, Q2, E2, sr, rs, rw1, q2, pn, px⟩ := q
  refine ⟨G, σ2, M, _, E2, sr, rs, q2, fun wx M1 G1 H1 x m1 sr1 rx q3 => ?_, px⟩
  refine ⟨G1, σ2, M1, _, E2, sr1, rs.mono m1, q3, fun wy M2 G2 H2 y m2 sr2 ry q4 => ?_, px.mono m1⟩
  obtain ⟨a, us, j, n, rfl, rfl, e, h1, q4⟩ := q4
  obtain ⟨vs, hv, rr⟩ := sr2.lst e
  refine ⟨a, vs, j, n, rx, ry, hv, by rw [← rr.len]; exact h1, ?_⟩
  exact pn σ2 _ G2 _ σ (m1.trans m2) (sr2.write e (show RC T G2 (.lst (us.set n w)) (.lst (vs.set n v)) from ⟨_, rfl, Paired.set (RW.mono (m1.trans m2) rw1) n rr⟩)) (rs.mono (m1.trans m2)) q4

/-! ### simple statements -/
variable {e : Expr} {te : TE2} {st : Stmt} {rest : List Stmt} {t u : TS2}
def wNext : TS2 := fun D σ M => D.nx σ M
def wSeq (t u : TS2) : TS2 := fun D σ M => t { D with nx := u D } σ M
def wRet (te : TE2) : TS2 := fun D σ M => te σ M D.rt fun x M1 => D.ex x σ M1
def wRetN : TS2 := fun D σ M => D.rt (.d .none) M
def wExpr (te : TE2) : TS2 := fun D σ M => te σ M (fun _ M1 => D.nx σ M1) fun x M1 => D.ex x σ M1
def wAsg (te : TE2) (g : TG2) : TS2 := fun D σ M => te σ M (fun w M1 => g w σ M1 D.nx fun x M2 => D.ex x σ M2) fun x M1 => D.ex x σ M1
def wIfS (c : TT2) (t u : TS2) : TS2 := fun D σ M => c σ M (fun b M1 => if b = true then t D σ M1 else u D σ M1) fun x M1 => D.ex x σ M1
def wBreak : TS2 := fun D σ M => D.bk σ M
def wCont : TS2 := fun D σ M => D.ct σ M
theorem PD.px {G : Hp} {D2 : Ends2} {D1 : Ends} {σ2 : St2} {σ1 : L2.St} (h : PD T Wx G D2 D1) (rs : RS T G σ2 σ1) : PX T Wx G σ1 (fun x M => D2.ex x σ2 M) := fun x M' G' H' cls d m sr rx q => h.ex x σ2 M' G' H' σ1 cls d m sr (rs.mono m) rx q
theorem PD.pn {G : Hp} {D2 : Ends2} {D1 : Ends} (h : PD T Wx G D2 D1) : PN T G D2.nx D1.nx := h.nx
theorem s_nil : PSs X [] (lowS T Wx wNext) := pss_nil.imp fun D σ H h => by
  obtain ⟨G, σ2, M, D2, sr, rs, q, pd⟩ := h
  exact pd.nx _ M G H _ (Mo.refl _) sr rs q
theorem s_pass : PS X (.Pass pos) (lowS T Wx wNext) := ps_pass.imp fun D σ H h => by
  obtain ⟨G, σ2, M, D2, sr, rs, q, pd⟩ := h
  exact pd.nx _ M G H _ (Mo.refl _) sr rs q
theorem s_break : PS X (.Break pos) (lowS T Wx wBreak) := ps_break.imp fun D σ H h => by
  obtain ⟨G, σ2, M, D2, sr, rs, q, pd⟩ := h
  exact pd.bk _ M G H _ (Mo.refl _) sr rs q
theorem s_cont : PS X (.Continue pos) (lowS T Wx wCont) := ps_continue.imp fun D σ H h => by
  obtain ⟨G, σ2, M, D2, sr, rs, q, pd⟩ := h
  exact pd.ct _ M G H _ (Mo.refl _) sr rs q
theorem s_cons (h1 : PS X st (lowS T Wx t)) (h2 : PSs X rest (lowS T Wx u)) : PSs X (st :: rest) (lowS T Wx (wSeq t u)) := (pss_cons h1 h2).imp fun D σ H h => by
  obtain ⟨G, σ2, M, D2, sr, rs, q, pd⟩ := h
  exact ⟨G, σ2, M, _, sr, rs, q, ⟨fun σ2' M' G' H' σ1' m sr' rs' q' => ⟨G', σ2', M', D2, sr', rs', q', pd.mono m⟩, pd.rt, pd.bk, pd.ct, pd.ex⟩⟩
theorem s_ret (he : PE X e (lowE T Wx te)) : PS X (.Return (some e) pos) (lowS T Wx (wRet te)) := (ps_ret he).imp fun D σ H h => by
  obtain ⟨G, σ2, M, D2, sr, rs, q, pd⟩ := h
  exact ⟨G, σ2, M, D2.rt, _, sr, rs, q, pd.rt, pd.px rs⟩
theorem s_retN : PS X (.Return none pos) (lowS T Wx wRetN) := ps_retN.imp fun D σ H h => by
  obtain ⟨G, σ2, M, D2, sr, rs, q, pd⟩ := h
  exact pd.rt _ M G H _ (Mo.refl _) sr (show RW T G (.d .none) .non from rfl) q
theorem s_expr (he : PE X e (lowE T Wx te)) (hs : swapsWith e none pos.line X.env = pure false) : PS X (.Expr e pos) (lowS T Wx (wExpr te)) := (ps_expr he hs).imp fun D σ H h => by
  obtain ⟨G, σ2, M, D2, sr, rs, q, pd⟩ := h
  exact ⟨G, σ2, M, _, _, sr, rs, q, fun w M1 G1 H1 v m sr1 _ q1 => pd.nx _ M1 G1 H1 _ m sr1 (rs.mono m) q1, pd.px rs⟩
theorem s_asg {tg : Expr} {g : TG2} (he : PE X e (lowE T Wx te)) (hg : PG X tg (lowG T Wx g)) (hs : swapsWithSole [tg] e pos.line X.env = pure false) (hw : swappedStores [tg] e X.env = pure none) (h1 : (assignEach [tg] X.env).map (·.2) = [assign tg X.env]) :
    PS X (.Assign [tg] e pos) (lowS T Wx (wAsg te g)) := (ps_asg he hg hs hw h1).imp fun D σ H h => by
  obtain ⟨G, σ2, M, D2, sr, rs, q, pd⟩ := h
  exact ⟨G, σ2, M, _, _, sr, rs, q, fun w M1 G1 H1 v m sr1 rw1 q1 => ⟨G1, σ2, M1, w, D2.nx, _, sr1, rs.mono m, rw1, q1, pd.pn.mono m, (pd.px rs).mono m⟩, pd.px rs⟩
theorem s_if {c : Expr} {a b : List Stmt} {tc : TT2} (hc : PT X c (lowT T Wx tc)) (ha : PSs X a (lowS T Wx t)) (hb : PSs X b (lowS T Wx u)) : PS X (.If c a b pos) (lowS T Wx (wIfS tc t u)) := (ps_if hc ha hb).imp fun D σ H h => by
  obtain ⟨G, σ2, M, D2, sr, rs, q, pd⟩ := h
  refine ⟨G, σ2, M, _, _, sr, rs, q, fun bb M1 G1 H1 m sr1 q1 => ?_, pd.px rs⟩
  cases bb with
  | true =>
    rw [if_pos rfl] at q1 ⊢
    exact ⟨G1, σ2, M1, D2, sr1, rs.mono m, q1, pd.mono m⟩
  | false =>
    rw [if_neg Bool.false_ne_true] at q1 ⊢
    exact ⟨G1, σ2, M1, D2, sr1, rs.mono m, q1, pd.mono m⟩
/-- x += e of ints -/
def wAugI (f : Int → Int → Int) (i : Nat) (te : TE2) : TS2 := fun D σ M => ∃ a, σ[i]? = some (some (.d (.int a))) ∧ te σ M (fun w M1 => ∃ b, w = .d (.int b) ∧ D.nx (σ.set i (some (.d (.int (f a b))))) M1) fun x M1 => D.ex x σ M1
theorem s_augI {st : Stmt} {f : Int → Int → Int} {i : Nat} (h : PS X st (tAug i (lowE T Wx te) (ipI f))) : PS X st (lowS T Wx (wAugI f i te)) := h.imp fun D σ H h => by
  obtain ⟨G, σ2, M, D2, sr, rs, ⟨a, hi, q⟩, pd⟩ := h
  obtain ⟨v, h1, h2⟩ := rs.get hi
  refine ⟨v, h1, G, σ2, M, _, _, sr, rs, q, fun w M1 G1 H1 v' m sr1 rw1 q1 => ?_, pd.px rs⟩
  obtain ⟨b, rfl, q1⟩ := q1
  exact ⟨a, b, h2, rw1, pd.nx _ M1 G1 H1 _ m sr1 (RS.set (show RW T G1 (.d (.int (f a b))) (.int (f a b)) from rfl) i (rs.mono m)) q1⟩

/-! ### while -/
def whl (c : TT2) (tb : TS2) (D : Ends2) : Nat → St2 → Mp → Prop
  | 0, _, _ => False
  | n + 1, σ, M => c σ M (fun b M1 => if b = true then tb { D with nx := whl c tb D n, ct := whl c tb D n, bk := D.nx } σ M1 else D.nx σ M1) fun x M1 => D.ex x σ M1
def wWhile (c : TT2) (tb : TS2) : TS2 := fun D σ M => ∃ n, whl c tb D n σ M
theorem s_while {c : Expr} {body : List Stmt} {tc : TT2} {tb : TS2} (hp : PassesOwn (model X.prog X.w) X.A X.env X.xe) (hc : PT X c (lowT T Wx tc)) (hb : PSs X body (lowS T Wx tb)) : PS X (.While c body [] pos) (lowS T Wx (wWhile tc tb)) := (ps_while hp hc hb).imp fun D σ H h => by
  obtain ⟨G, σ2, M, D2, sr, rs, ⟨n, q⟩, pd⟩ := h
  refine ⟨fun m σ1 H1 => ∃ G1 σ2 M1, Mo G G1 ∧ SR T G1 H1 M1 ∧ RS T G1 σ2 σ1 ∧ whl tc tb D2 m σ2 M1, ⟨n, G, σ2, M, Mo.refl _, sr, rs, q⟩, fun m σ1 H1 w => ?_⟩
  obtain ⟨G1, σ3, M1, mo, sr1, rs1, q1⟩ := w
  cases m with
  | zero => exact q1.elim
  | succ m =>
    refine ⟨G1, σ3, M1, _, _, sr1, rs1, q1, fun b M2 G2 H2 m2 sr2 q2 => ?_, (pd.mono mo).px rs1⟩
    cases b with
    | true =>
      rw [if_pos rfl] at q2 ⊢
      refine ⟨fun σ' H' => ∃ G3 σ4 M3, Mo G G3 ∧ SR T G3 H' M3 ∧ RS T G3 σ4 σ' ∧ whl tc tb D2 m σ4 M3, fun σ' H' h3 => ⟨m, Nat.lt_succ_self m, h3⟩, G2, σ3, M2, _, sr2, rs1.mono m2, q2, ?_⟩
      have pd2 := pd.mono (mo.trans m2)
      exact ⟨fun σ4 M3 G3 H3 σ' m3 sr3 rs3 q3 => ⟨G3, σ4, M3, (mo.trans m2).trans m3, sr3, rs3, q3⟩, pd2.rt, pd2.nx, fun σ4 M3 G3 H3 σ' m3 sr3 rs3 q3 => ⟨G3, σ4, M3, (mo.trans m2).trans m3, sr3, rs3, q3⟩, pd2.ex⟩
    | false =>
      rw [if_neg Bool.false_ne_true] at q2 ⊢
      exact pd.nx _ M2 G2 H2 _ (mo.trans m2) sr2 (rs1.mono m2) q2

/-! ### what is walked -/
/-- items yields what J yields, as long as ok holds -/
def ItOk (T : Tab) (G0 : Hp) (J : It) (items : List W) (ok : Mp → Prop) : Prop := ∀ G H M, Mo G0 G → SR T G H M → ok M →
  (∀ i, items.length ≤ i → J.stop i H) ∧ ∀ i w, items[i]? = some w → J.go i H ∧ ∀ x H', J.yld i H x H' → ∃ G', Mo G G' ∧ SR T G' H' M ∧ RW T G' w x
theorem ItOk.mono {G G' : Hp} {J : It} {items : List W} {ok : Mp → Prop} (m : Mo G G') (h : ItOk T G J items ok) : ItOk T G' J items ok := fun G1 H M m1 => h G1 H M (m.trans m1)
abbrev TI2 := St2 → Mp → (List W → (Mp → Prop) → Mp → Prop) → XK2 → Prop
def lowI (T : Tab) (Wx : WX) (t : TI2) : TI := fun σ1 H R => ∃ G σ2 M R2 E2, SR T G H M ∧ RS T G σ2 σ1 ∧ t σ2 M R2 E2 ∧
  (∀ items ok J M' G' H', Mo G G' → SR T G' H' M' → ItOk T G' J items ok → R2 items ok M' → R J H') ∧ PX T Wx G σ1 E2
theorem _root_.L2.PI.imp {tg iter : Expr} {t t' : TI} (h : PI X tg iter t) (i : ∀ σ H R, t' σ H R → t σ H R) : PI X tg iter t' := ⟨fun pins s σ H R I q => h.run pins s σ H R I (i _ _ _ q)⟩
/-- a list, a tuple -/
def wiSeq (te : TE2) : TI2 := fun σ M R E => te σ M (fun w M1 => ∃ ws, seqW M1 w = some ws ∧ R ws (fun M2 => seqW M2 w = some ws) M1) E
/-- .. told by the kind of the value -/
def iSeqL (K : PySem.W.Frag) (tl : TE) : TI := fun σ H R => tl σ H fun x H1 => ∃ a, x = .ref a ∧ (((∃ xs, SqL K H1 a xs) ∧ R (Itl K a) H1) ∨ ((∃ xs, SqT K H1 a xs) ∧ R (Itt K a) H1))
theorem pi_seq {tg l : Expr} {tl : TE} (hl : PE X l tl) : PI X tg l (iSeqL X.K tl) := by
  refine ⟨fun pins s σ H R I h => ?_⟩
  refine thn (hl.run pins s σ H _ I h) fun v s1 ⟨x, H1, I1, r1, q1⟩ => ?_
  obtain ⟨a, e, q⟩ := q1
  subst e
  cases r1
  have fresh : ∀ b ∈ [s1.heap.objs.size], FpOk X pins H1 b := fun b hb => by
    cases List.mem_singleton.mp hb
    exact I1.fpOk (Nat.le_refl _) (I1.hok.fresh (Nat.le_refl _))
  rcases q with ⟨⟨xs, hq⟩, q⟩ | ⟨⟨xs, hq⟩, q⟩
  · obtain ⟨its, rv, p, hz⟩ := I1.list hq
    refine wpAny_pyIter_list p.isList ?_
    exact ⟨s1.heap.objs.size, [s1.heap.objs.size], _, _, H1, rfl, I1.kept (t' := s1.toks) fun b o e => Heap.get?_push_of_some _ e, turn_list a _, ⟨_, Heap.get?_push_size _ rfl, rfl, rfl⟩, fresh, q⟩
  · obtain ⟨its, rv, p, hz⟩ := I1.tuple hq
    refine wpAny_pyIter_tuple (show s1.heap.IsTuple a its.toArray from p) ?_
    exact ⟨s1.heap.objs.size, [s1.heap.objs.size], _, _, H1, rfl, I1.kept (t' := s1.toks) fun b o e => Heap.get?_push_of_some _ e, turn_tuple a _, ⟨_, Heap.get?_push_size _ rfl, rfl, rfl⟩, fresh, q⟩
theorem itok_L {G : Hp} {a : Addr} {w : W} {ws : List W} (h : ∀ G' H M, Mo G G' → SR T G' H M → seqW M w = some ws → ∃ vs, SqL T.K H a vs ∧ RWs T G' ws vs) : ItOk T G (Itl T.K a) ws (fun M => seqW M w = some ws) := fun G1 H M m sr ok => by
  obtain ⟨vs, hs, rr⟩ := h G1 H M m sr ok
  refine ⟨fun i hi => ⟨vs, hs, by rw [← rr.len]; exact hi⟩, fun i w' hw => ?_⟩
  obtain ⟨v, hv, rv⟩ := rr.get hw
  refine ⟨⟨vs, v, hs, hv⟩, fun x H' y => ?_⟩
  obtain ⟨rfl, y⟩ := y
  have hx := y vs hs
  rw [hv] at hx
  cases hx
  exact ⟨G1, Mo.refl _, sr, rv⟩
theorem itok_T {G : Hp} {a : Addr} {w : W} {ws : List W} (h : ∀ G' H M, Mo G G' → SR T G' H M → seqW M w = some ws → ∃ vs, SqT T.K H a vs ∧ RWs T G' ws vs) : ItOk T G (Itt T.K a) ws (fun M => seqW M w = some ws) := fun G1 H M m sr ok => by
  obtain ⟨vs, hs, rr⟩ := h G1 H M m sr ok
  refine ⟨fun i hi => ⟨vs, hs, by rw [← rr.len]; exact hi⟩, fun i w' hw => ?_⟩
  obtain ⟨v, hv, rv⟩ := rr.get hw
  refine ⟨⟨vs, v, hs, hv⟩, fun x H' y => ?_⟩
  obtain ⟨rfl, y⟩ := y
  have hx := y vs hs
  rw [hv] at hx
  cases hx
  exact ⟨G1, Mo.refl _, sr, rv⟩
theorem i_seq {tg l : Expr} (hK : X.K = T.K) (hl : PE X l (lowE T Wx te)) : PI X tg l (lowI T Wx (wiSeq te)) := (pi_seq hl).imp fun σ H R q => by
  obtain ⟨G, σ2, M, R2, E2, sr, rs, q2, pr, px⟩ := q
  refine ⟨G, σ2, M, _, E2, sr, rs, q2, fun w M1 G1 H1 v m1 sr1 rw1 q3 => ?_, px⟩
  obtain ⟨ws, e, q3⟩ := q3
  rw [hK]
  have lst : (∃ a vs, v = .ref a ∧ SqL T.K H1 a vs) → (∀ M', seqW M' w = some ws → listW M' w = some ws) → ∃ a, v = .ref a ∧ (((∃ xs, SqL T.K H1 a xs) ∧ R (Itl T.K a) H1) ∨ ((∃ xs, SqT T.K H1 a xs) ∧ R (Itt T.K a) H1)) := fun ⟨a, vs, e1, hs⟩ hl => by
    subst e1
    refine ⟨a, rfl, .inl ⟨⟨vs, hs⟩, pr ws _ (Itl T.K a) M1 G1 H1 m1 sr1 (itok_L fun G' H' M' m' sr' e' => ?_) q3⟩⟩
    obtain ⟨a', vs', ea, h1, h2⟩ := listW_low sr' (RW.mono m' rw1) (hl M' e')
    cases ea
    exact ⟨vs', h1, h2⟩
  cases w with
  | d x =>
    cases x with
    | lst xs => exact lst (let ⟨a, vs, e1, h, _⟩ := listW_low sr1 rw1 (show listW M1 (.d (.lst xs)) = some ws from e); ⟨a, vs, e1, h⟩) fun _ h => h
    | tup xs =>
      obtain ⟨a, vs, rfl, h1, rr⟩ := (show ∃ a vs, v = .ref a ∧ SqT T.K G1 a vs ∧ RpL T G1 xs vs from rw1)
      refine ⟨a, rfl, .inr ⟨⟨vs, (Mo.of sr1.le).seqT h1⟩, pr ws _ (Itt T.K a) M1 G1 H1 m1 sr1 (itok_T fun G' H' M' m' sr' e' => ?_) q3⟩⟩
      cases (show some (xs.map W.d) = some ws from e')
      exact ⟨vs, (Mo.of sr'.le).seqT (m'.seqT h1), (rr.mono m').to⟩
    | _ => exact nomatch (show (none : Option (List W)) = some ws from e)
  | c b => exact lst (let ⟨a, vs, e1, h, _⟩ := listW_low sr1 rw1 (show listW M1 (.c b) = some ws from e); ⟨a, vs, e1, h⟩) fun _ h => h
  | r b => exact lst (let ⟨a, vs, e1, h, _⟩ := listW_low sr1 rw1 (show listW M1 (.r b) = some ws from e); ⟨a, vs, e1, h⟩) fun _ h => h
/-- range(n), range(a, b) -/
def rngW (lo : Int) (n : Nat) : List W := (List.range n).map fun (i : Nat) => W.d (.int (lo + (i : Int)))
theorem itok_R {G : Hp} {lo : Int} {n : Nat} : ItOk T G (Itr lo n) (rngW lo n) (fun _ => True) := fun G1 H M m sr _ => by
  refine ⟨fun i hi => (show n ≤ i by simpa [rngW] using hi), fun i w hw => ?_⟩
  have hi : i < n := by
    have := (List.getElem?_eq_some_iff.mp hw).1
    simpa [rngW] using this
  have ew : w = .d (.int (lo + (i : Int))) := by
    unfold rngW at hw
    rw [List.getElem?_map, List.getElem?_range hi] at hw
    exact (Option.some.inj hw).symm
  subst ew
  refine ⟨hi, fun x H' y => ?_⟩
  obtain ⟨rfl, rfl⟩ := y
  exact ⟨G1, Mo.refl _, sr, rfl⟩
def wiRng1 (ta : TA2) : TI2 := fun σ M R E => ta σ M (fun ws M1 => ∃ j : Int, ws = [.d (.int j)] ∧ -(2 ^ 62) ≤ j ∧ j < 2 ^ 62 ∧ R (rngW 0 j.toNat) (fun _ => True) M1) E
def wiRng2 (ta : TA2) : TI2 := fun σ M R E => ta σ M (fun ws M1 => ∃ i j : Int, ws = [.d (.int i), .d (.int j)] ∧ (-(2 ^ 62) ≤ i ∧ i < 2 ^ 62 ∧ -(2 ^ 62) ≤ j ∧ j < 2 ^ 62) ∧ R (rngW i (j - i).toNat) (fun _ => True) M1) E
theorem i_rng1 {tg a : Expr} {ta : TA2} {p : Pos} (hg : Gl X "range") (hm : X.mg "range" = none) (ha : PA X [a] (lowA T Wx ta)) (hs : starEach [a] X.env = [(false, eval a X.env)]) : PI X tg (.Call (.Name "range" p) [a] [] pos) (lowI T Wx (wiRng1 ta)) := (pi_range1 hg hm ha hs).imp fun σ H R q => by
  obtain ⟨G, σ2, M, R2, E2, sr, rs, q2, pr, px⟩ := q
  refine ⟨G, σ2, M, _, E2, sr, rs, q2, fun ws M1 G1 H1 vs m1 sr1 rw1 q3 => ?_, px⟩
  obtain ⟨j, rfl, h1, h2, q3⟩ := q3
  obtain ⟨v, rfl, rv⟩ := rw1.one
  exact ⟨j, by rw [show v = .int j from rv], h1, h2, pr _ _ _ M1 G1 H1 m1 sr1 itok_R q3⟩
theorem i_rng2 {tg a b : Expr} {ta : TA2} {p : Pos} (hg : Gl X "range") (hm : X.mg "range" = none) (ha : PA X [a, b] (lowA T Wx ta)) (hs : starEach [a, b] X.env = [(false, eval a X.env), (false, eval b X.env)]) (hs2 : starEach [b] X.env = [(false, eval b X.env)]) : PI X tg (.Call (.Name "range" p) [a, b] [] pos) (lowI T Wx (wiRng2 ta)) := (pi_range2 hg hm ha hs hs2).imp fun σ H R q => by
  obtain ⟨G, σ2, M, R2, E2, sr, rs, q2, pr, px⟩ := q
  refine ⟨G, σ2, M, _, E2, sr, rs, q2, fun ws M1 G1 H1 vs m1 sr1 rw1 q3 => ?_, px⟩
  obtain ⟨i, j, rfl, h1, q3⟩ := q3
  obtain ⟨v, v', rfl, rv, rv'⟩ := rw1.two
  exact ⟨i, j, by rw [show v = .int i from rv, show v' = .int j from rv'], h1, pr _ _ _ M1 G1 H1 m1 sr1 itok_R q3⟩
/-- the signs of a text -/
def signsW (z : Str) : List W := z.cps.toList.map fun c => W.d (.str ⟨#[c]⟩)
theorem itok_S {G : Hp} {z : Str} : ItOk T G (Its z) (signsW z) (fun _ => True) := fun G1 H M m sr _ => by
  refine ⟨fun i hi => (show z.cps.size ≤ i by simpa [signsW] using hi), fun i w hw => ?_⟩
  have hi : i < z.cps.size := by
    have := (List.getElem?_eq_some_iff.mp hw).1
    simpa [signsW] using this
  refine ⟨hi, fun x H' y => ?_⟩
  obtain ⟨rfl, c, hc, rfl⟩ := y
  have ew : w = .d (.str ⟨#[c]⟩) := by
    unfold signsW at hw
    rw [List.getElem?_map, Array.getElem?_toList, hc] at hw
    exact (Option.some.inj hw).symm
  subst ew
  exact ⟨G1, Mo.refl _, sr, rfl, by rw [sizeLine_eq]; show 1 ≤ 16777216; decide⟩
def wiStr (te : TE2) : TI2 := fun σ M R E => te σ M (fun w M1 => ∃ z, strD w = some z ∧ R (signsW z) (fun _ => True) M1) E
theorem i_str {tg l : Expr} (hl : PE X l (lowE T Wx te)) : PI X tg l (lowI T Wx (wiStr te)) := (pi_str hl).imp fun σ H R q => by
  obtain ⟨G, σ2, M, R2, E2, sr, rs, q2, pr, px⟩ := q
  refine ⟨G, σ2, M, _, E2, sr, rs, q2, fun w M1 G1 H1 v m1 sr1 rw1 q3 => ?_, px⟩
  obtain ⟨z, e, q3⟩ := q3
  cases strD_eq e
  exact ⟨z, rw1.1, pr _ _ _ M1 G1 H1 m1 sr1 itok_S q3⟩
end
end Z
set_option maxHeartbeats 4000000
/-! Z8: for, comprehensions, the body of a def -/
namespace Z
open PySem PySem.Spec PyProof.Rows L2
section
variable {X : Cx} {T : Tab} {Wx : WX} {k : Nat} {N : List Str} {mg : Str → Option Value} {sc : Scope}
/-! ### for -/
def forL (ok : Mp → Prop) (g : TG2) (tb : TS2) (D : Ends2) : List W → St2 → Mp → Prop
  | [], σ, M => ok M ∧ D.nx σ M
  | w :: r, σ, M => ok M ∧ g w σ M (fun σ1 M1 => tb { D with nx := forL ok g tb D r, ct := forL ok g tb D r, bk := D.nx } σ1 M1) fun x M1 => D.ex x σ M1
def wFor (ti : TI2) (g : TG2) (tb : TS2) : TS2 := fun D σ M => ti σ M (fun items ok M1 => forL ok g tb D items σ M1) fun x M1 => D.ex x σ M1
theorem s_for {tg iter : Expr} {body : List Stmt} {ti : TI2} {g : TG2} {tb : TS2} {pos : Pos} (C : Ctx T k N mg X Wx sc) (hp : PassesOwn (model X.prog X.w) X.A X.env X.xe) (hi : PI X tg iter (lowI T Wx ti)) (hg : PG X tg (lowG T Wx g)) (hb : PSs X body (lowS T Wx tb)) (hf : ∀ x, foldedSetIterable iter X.env x = pure x) :
    PS X (.For tg iter body [] pos) (lowS T Wx (wFor ti g tb)) := (ps_for hp C.calm hi hg hb hf).imp fun D σ H h => by
  obtain ⟨G, σ2, M, D2, sr, rs, q, pd⟩ := h
  refine ⟨G, σ2, M, _, _, sr, rs, q, fun items ok J M1 G1 H1 m1 sr1 it q1 => ?_, pd.px rs⟩
  refine ⟨fun i m σ' H' => m = items.length - i ∧ i ≤ items.length ∧ ∃ G2 σ3 M2, Mo G1 G2 ∧ SR T G2 H' M2 ∧ RS T G2 σ3 σ' ∧ forL ok g tb D2 (items.drop i) σ3 M2, ⟨items.length, by simp, Nat.zero_le _, G1, σ2, M1, Mo.refl _, sr1, rs.mono m1, q1⟩, fun i m σ' H' w => ?_⟩
  obtain ⟨rfl, hi, G2, σ3, M2, m2, sr2, rs2, q2⟩ := w
  by_cases hl : i < items.length
  · rw [List.drop_eq_getElem_cons hl] at q2
    obtain ⟨o, q2⟩ := q2
    obtain ⟨_, it2⟩ := it G2 H' M2 m2 sr2 o
    obtain ⟨hgo, hy⟩ := it2 i items[i] (by simp [hl])
    refine .inr ⟨hgo, fun σ5 H5 => ∃ G4 σ4 M4, Mo G1 G4 ∧ SR T G4 H5 M4 ∧ RS T G4 σ4 σ5 ∧ forL ok g tb D2 (items.drop (i + 1)) σ4 M4, fun σ5 H5 h5 => ⟨items.length - (i + 1), by omega, rfl, hl, h5⟩, fun x H3 y => ?_⟩
    obtain ⟨G3, m3, sr3, rx⟩ := hy x H3 y
    have mo := m2.trans m3
    refine ⟨G3, σ3, M2, _, _, _, sr3, rs2.mono m3, rx, q2, fun σ4 M4 G4 H4 σ5 m4 sr4 rs4 q4 => ?_, (pd.mono (m1.trans mo)).px (rs2.mono m3)⟩
    refine ⟨G4, σ4, M4, _, sr4, rs4, q4, ?_⟩
    have pd2 := pd.mono ((m1.trans mo).trans m4)
    exact ⟨fun σ6 M6 G6 H6 σ7 m6 sr6 rs6 q6 => ⟨G6, σ6, M6, (mo.trans m4).trans m6, sr6, rs6, q6⟩, pd2.rt, pd2.nx, fun σ6 M6 G6 H6 σ7 m6 sr6 rs6 q6 => ⟨G6, σ6, M6, (mo.trans m4).trans m6, sr6, rs6, q6⟩, pd2.ex⟩
  · have e : i = items.length := by omega
    subst e
    rw [List.drop_length] at q2
    obtain ⟨o, q2⟩ := q2
    exact .inl ⟨(it G2 H' M2 m2 sr2 o).1 _ (Nat.le_refl _), pd.nx _ M2 G2 H' _ (m1.trans m2) sr2 rs2 q2⟩

/-! ### list comprehensions -/
def wipe2 (σ : St2) : List Nat → St2
  | [] => σ
  | v :: vs => (wipe2 σ vs).set v none
theorem RS.setN {G : Hp} : ∀ {σ2 : St2} {σ1 : L2.St} (i : Nat), RS T G σ2 σ1 → RS T G (σ2.set i none) (σ1.set i none)
  | _, _, _, .nil => .nil
  | _, _, 0, .cons _ t => .cons trivial t
  | _, _, i + 1, .cons r t => .cons r (RS.setN i t)
theorem RS.wipe {G : Hp} {σ2 : St2} {σ1 : L2.St} (r : RS T G σ2 σ1) : ∀ vs : List Nat, RS T G (wipe2 σ2 vs) (wipe σ1 vs)
  | [] => r
  | v :: vs => RS.setN v (RS.wipe r vs)
/-- the tests of a clause -/
def wYes : TT2 := fun _ M Q _ => Q true M
theorem _root_.L2.PTs.imp {ifs : List Expr} {t t' : TT} (h : PTs X ifs t) (i : ∀ σ H Q, t' σ H Q → t σ H Q) : PTs X ifs t' := ⟨fun pins s σ H Q I q => h.run pins s σ H Q I (i _ _ _ q)⟩
theorem ts_nil : PTs X [] (lowT T Wx wYes) := pts_nil.imp fun σ H Q h => by
  obtain ⟨G, σ2, M, Q2, E2, sr, rs, q2, pb, px⟩ := h
  exact pb true M G H (Mo.refl _) sr q2
theorem ts_one {c : Expr} {t : TT2} (h : PT X c (lowT T Wx t)) : PTs X [c] (lowT T Wx t) := pts_one h
/-- no wish: nothing may be raised -/
abbrev W0 : WX := fun _ _ _ _ => False
/-- the list that was made at p, as it is handed on -/
def lcEnd (m : Bool) (p : Addr) (M : Mp) (Q : VK2) : Prop := ∃ acc, M p = some (.lst acc) ∧ if m = true then Q (.c p) M else ∃ ds, unD acc = some ds ∧ Q (.d (.lst ds)) (del M p)
/-- the turns; p: the new list -/
def lcL (m : Bool) (p : Addr) (ok : Mp → Prop) (g : TG2) (tt : TT2) (te : TE2) (σ : St2) (Q : VK2) : List W → Mp → Prop
  | [], M => ok M ∧ lcEnd m p M Q
  | w :: r, M => ok M ∧ g w σ M (fun σ1 M1 => tt σ1 M1 (fun b M2 => if b = true then te σ1 M2 (fun y M3 => ∃ acc, M3 p = some (.lst acc) ∧ acc.length < sizeLine ∧ lcL m p ok g tt te σ Q r (put M3 p (.lst (acc ++ [y])))) (fun _ _ => False) else lcL m p ok g tt te σ Q r M2) (fun _ _ => False)) (fun _ _ => False)
/-- [elt for .. in .. if ..]; m: the list is a cell -/
def wLc (m : Bool) (ti : TI2) (g : TG2) (tt : TT2) (te : TE2) (vs : List Nat) : TE2 := fun σ M Q E => ti σ M (fun items ok M1 => ∀ p, M1 p = none → lcL m p ok g tt te (wipe2 σ vs) Q items (put M1 p (.lst []))) E
theorem lcEnd_low {m : Bool} {p : Addr} {G H : Hp} {M : Mp} {Q2 : VK2} {Q : VK} (sr : SR T G H M) (q : lcEnd m p M Q2) (pq : PQ T G Q2 Q) : Q (.ref p) H := by
  obtain ⟨acc, e, q⟩ := q
  cases m with
  | true =>
    rw [if_pos rfl] at q
    exact pq (.c p) M G H _ (Mo.refl _) sr rfl q
  | false =>
    rw [if_neg Bool.false_ne_true] at q
    obtain ⟨ds, e2, q⟩ := q
    cases unD_eq e2
    obtain ⟨vs, hv, rr⟩ := sr.lst e
    have g0 := (sr.ce _ _ e).1
    have mo := Mo.of (same_new (o := HO.lst vs) g0)
    exact pq _ _ _ H _ mo (sr.freeze e hv) (show RW T _ (.d (.lst ds)) (.ref p) from ⟨p, vs, rfl, upd_same, (RpL.of rr).mono mo⟩) q
theorem low_lc {m : Bool} {ti : TI2} {g : TG2} {tt : TT2} {te : TE2} {gl : TG} {vs : List Nat} {σ : L2.St} {H : Hp} {Q : VK}
    (hgl : ∀ v σ H Q, lowG T W0 g v (wipe σ vs) H Q → gl v (wipe σ vs) H fun σ1 H1 => wipe σ1 vs = wipe σ vs ∧ Q σ1 H1)
    (h : lowE T Wx (wLc m ti g tt te vs) σ H Q) : tLc (lowI T Wx ti) gl (lowT T W0 tt) (lowE T W0 te) vs σ H Q := by
  obtain ⟨G, σ2, M, Q2, E2, sr, rs, q2, pq, px⟩ := h
  refine ⟨G, σ2, M, _, E2, sr, rs, q2, fun items ok J M1 G1 H1 m1 sr1 it q3 => ?_, px⟩
  intro Dl hD
  have q3 := q3 Dl (sr1.freeM hD)
  refine ⟨fun i n H' => n = items.length - i ∧ i ≤ items.length ∧ ∃ G2 M2, Mo G1 G2 ∧ SR T G2 H' M2 ∧ lcL m Dl ok g tt te (wipe2 σ2 vs) Q2 (items.drop i) M2,
    ⟨items.length, by simp, Nat.zero_le _, G1, _, Mo.refl _, sr1.cell hD (show RC T G1 (.lst []) (.lst []) from ⟨[], rfl, .nil⟩), q3⟩, fun i n H' w => ?_⟩
  obtain ⟨rfl, hi, G2, M2, m2, sr2, q4⟩ := w
  by_cases hl : i < items.length
  · rw [List.drop_eq_getElem_cons hl] at q4
    obtain ⟨o, q4⟩ := q4
    obtain ⟨_, it2⟩ := it G2 H' M2 m2 sr2 o
    obtain ⟨hgo, hy⟩ := it2 i items[i] (by simp [hl])
    refine .inr ⟨hgo, fun H5 => ∃ G4 M4, Mo G1 G4 ∧ SR T G4 H5 M4 ∧ lcL m Dl ok g tt te (wipe2 σ2 vs) Q2 (items.drop (i + 1)) M4, fun H5 h5 => ⟨items.length - (i + 1), by omega, rfl, hl, h5⟩, fun x H3 y => ?_⟩
    obtain ⟨G3, m3, sr3, rx⟩ := hy x H3 y
    have mo := (m1.trans m2).trans m3
    refine hgl x σ H3 _ ⟨G3, wipe2 σ2 vs, M2, items[i], _, _, sr3, (rs.mono mo).wipe vs, rx, q4, fun σ4 M4 G4 H4 σ5 m4 sr4 rs4 q5 => ?_, fun _ _ _ _ _ _ _ _ _ f => f.elim⟩
    refine ⟨G4, σ4, M4, _, _, sr4, rs4, q5, fun b M5 G5 H5 m5 sr5 q6 => ?_, fun _ _ _ _ _ _ _ _ _ f => f.elim⟩
    have mo5 := ((m2.trans m3).trans m4).trans m5
    cases b with
    | false =>
      dsimp only
      rw [if_neg Bool.false_ne_true] at q6 ⊢
      exact ⟨G5, M5, mo5, sr5, q6⟩
    | true =>
      dsimp only
      rw [if_pos rfl] at q6 ⊢
      refine ⟨G5, σ4, M5, _, _, sr5, rs4.mono m5, q6, fun y M6 G6 H6 v m6 sr6 rv q7 => ?_, fun _ _ _ _ _ _ _ _ _ f => f.elim⟩
      obtain ⟨acc, e, hz, q7⟩ := q7
      obtain ⟨us, hu, rr⟩ := sr6.lst e
      exact ⟨us, hu, by rw [← rr.len]; exact hz, G6, _, mo5.trans m6, sr6.write e (show RC T G6 (.lst (acc ++ [y])) (.lst (us ++ [v])) from ⟨_, rfl, Paired.app rr (.cons rv .nil)⟩), q7⟩
  · have e : i = items.length := by omega
    subst e
    rw [List.drop_length] at q4
    obtain ⟨o, q4⟩ := q4
    exact .inl ⟨(it G2 H' M2 m2 sr2 o).1 _ (Nat.le_refl _), lcEnd_low sr2 q4 (pq.mono (m1.trans m2))⟩
/-- targets of a comprehension: a name; a tuple of names -/
theorem wipe_set (σ : L2.St) (i : Nat) (v : Option V) : wipe ((wipe σ [i]).set i v) [i] = wipe σ [i] := by
  show ((σ.set i none).set i v).set i none = σ.set i none
  rw [List.set_set, List.set_set]
theorem gl_name {i : Nat} : ∀ v σ H Q, lowG T W0 (wgName i) v (wipe σ [i]) H Q → gName i v (wipe σ [i]) H fun σ1 H1 => wipe σ1 [i] = wipe σ [i] ∧ Q σ1 H1 := fun v σ H Q q => by
  obtain ⟨G, σ2, M, w, Q2, E2, sr, rs, rw1, q2, pn, px⟩ := q
  exact ⟨wipe_set σ i (some v), pn _ M G H _ (Mo.refl _) sr (rs.set rw1 i) q2⟩
end
end Z
set_option maxHeartbeats 4000000
/-! Y1: own classes: fields, methods, new instances (rules; not yet in the terms of Z9) -/
namespace Z
open PySem PySem.Spec PyProof.Rows L2
section
variable {X : Cx} {T : Tab} {Wx : WX} {k : Nat} {N : List Str} {mg : Str → Option Value} {sc : Scope}
/-! ### fields -/
theorem RKs.get {κ : Type} [BEq κ] {G : Hp} {ws : List (κ × W)} {vs : List (κ × V)} (h : RKs T G ws vs) {f : κ} {w : W} (e : ws.lookup f = some w) : ∃ v, vs.lookup f = some v ∧ RW T G w v := by
  induction h with
  | nil => cases e
  | cons a t ih =>
    rename_i p q _ _
    obtain ⟨g, w'⟩ := p
    obtain ⟨g', v'⟩ := q
    obtain ⟨e1, r1⟩ := a
    cases (show g = g' from e1)
    rw [List.lookup_cons] at e ⊢
    cases hb : f == g with
    | true =>
      rw [hb] at e
      cases e
      exact ⟨v', rfl, r1⟩
    | false =>
      rw [hb] at e
      exact ih e
theorem RpF.get {G : Hp} : ∀ {fs : List (Str × D)} {vs : List (Str × V)} (h : RpF T G fs vs) {f : Str} {d : D} (e : fs.lookup f = some d), ∃ v, vs.lookup f = some v ∧ Rp T G d v
  | [], _, _, _, _, e => by cases e
  | (g, d') :: r, _, h, f, d, e => by
    obtain ⟨v, vr, rfl, h1, h2⟩ := (show ∃ v vr, _ = (g, v) :: vr ∧ Rp T G d' v ∧ RpF T G r vr from h)
    rw [List.lookup_cons] at e ⊢
    cases hb : f == g with
    | true =>
      rw [hb] at e
      cases e
      exact ⟨v, rfl, h1⟩
    | false =>
      rw [hb] at e
      exact RpF.get h2 e
theorem RKs.none {κ : Type} [BEq κ] {G : Hp} {ws : List (κ × W)} {vs : List (κ × V)} (h : RKs T G ws vs) {f : κ} (e : ws.lookup f = none) : vs.lookup f = none := by
  induction h with
  | nil => rfl
  | cons a t ih =>
    rename_i p q _ _
    obtain ⟨g, w'⟩ := p
    obtain ⟨g', v'⟩ := q
    obtain ⟨e1, r1⟩ := a
    cases (show g = g' from e1)
    rw [List.lookup_cons] at e ⊢
    cases hb : f == g with
    | true => rw [hb] at e; cases e
    | false => rw [hb] at e; exact ih e
theorem RpF.none {G : Hp} : ∀ {fs : List (Str × D)} {vs : List (Str × V)} (h : RpF T G fs vs) {f : Str} (e : fs.lookup f = none), vs.lookup f = none
  | [], vs, h, f, e => by
    cases (show vs = [] from h)
    rfl
  | (g, d') :: r, _, h, f, e => by
    obtain ⟨v, vr, rfl, h1, h2⟩ := (show ∃ v vr, _ = (g, v) :: vr ∧ Rp T G d' v ∧ RpF T G r vr from h)
    rw [List.lookup_cons] at e ⊢
    cases hb : f == g with
    | true => rw [hb] at e; cases e
    | false => rw [hb] at e; exact RpF.none h2 e
theorem RKs.size {κ : Type} {G : Hp} {ws : List (κ × W)} {vs : List (κ × V)} (h : RKs T G ws vs) : ws.length = vs.length := by
  induction h with
  | nil => rfl
  | cons _ _ ih => rw [List.length_cons, List.length_cons, ih]
def putW (f : Str) (v : W) : List (Str × W) → List (Str × W)
  | [] => [(f, v)]
  | (g, x) :: r => if g = f then (g, v) :: r else (g, x) :: putW f v r
theorem RKs.putF {G : Hp} {f : Str} {w : W} {v : V} (r : RW T G w v) : ∀ {ws : List (Str × W)} {vs : List (Str × V)}, RKs T G ws vs → RKs T G (putW f w ws) (L2.putF f v vs)
  | [], _, .nil => .cons ⟨rfl, r⟩ .nil
  | (g, x) :: ws, (g', y) :: vs, .cons a t => by
    obtain ⟨e1, r1⟩ := a
    cases (show g = g' from e1)
    show RKs T G (if g = f then (g, w) :: ws else (g, x) :: putW f w ws) (if g = f then (g, v) :: vs else (g, y) :: L2.putF f v vs)
    by_cases h : g = f
    · rw [if_pos h, if_pos h]; exact .cons ⟨rfl, r⟩ t
    · rw [if_neg h, if_neg h]; exact .cons ⟨rfl, r1⟩ (RKs.putF r t)
/-- the class and the attributes of an instance, in a cell or as data -/
def insW (M : Mp) : W → Option (Nat × List (Str × W))
  | .c a => match M a with
    | some (.ins c _ fs) => some (c, fs)
    | _ => none
  | .d (.obj c fs) => some (c, fs.map fun p => (p.1, W.d p.2))
  | _ => none
theorem lookup_mapD {f : Str} : ∀ fs : List (Str × D), (fs.map fun p => (p.1, W.d p.2)).lookup f = (fs.lookup f).map W.d
  | [] => rfl
  | (g, d) :: r => by
    rw [List.map_cons, List.lookup_cons, List.lookup_cons]
    cases f == g with
    | true => rfl
    | false => exact lookup_mapD r
theorem insW_low {G H : Hp} {M : Mp} (sr : SR T G H M) {w : W} {v : V} {c : Nat} {fs : List (Str × W)} (r : RW T G w v) (h : insW M w = some (c, fs)) :
    ∃ a dx vs, v = .ref a ∧ H a = some (.ins (T.cls c) dx vs) ∧ (∀ f w', fs.lookup f = some w' → ∃ v', vs.lookup f = some v' ∧ RW T G w' v') ∧ (∀ f, fs.lookup f = none → vs.lookup f = none) ∧ ∀ b, w = .c b → b = a := by
  cases w with
  | c b =>
    cases (show v = .ref b from r)
    have h : (match M b with | some (.ins c _ fs) => some (c, fs) | _ => none) = some (c, fs) := h
    cases e : M b with
    | none => rw [e] at h; cases h
    | some cl =>
      cases cl with
      | ins c' dx fs' =>
        rw [e] at h
        cases h
        obtain ⟨_, o, h1, vs, rfl, rr⟩ := sr.ce _ _ e
        exact ⟨b, dx, vs, rfl, h1, fun f w' e' => rr.get e', fun f e' => rr.none e', fun _ z => by cases z; rfl⟩
      | _ => rw [e] at h; cases h
  | d x =>
    cases x with
    | obj c' fs' =>
      cases (show some (c', fs'.map fun p => (p.1, W.d p.2)) = some (c, fs) from h)
      obtain ⟨a, dx, vs, rfl, e, rr⟩ := (show ∃ a dx vs, v = .ref a ∧ G a = some (.ins (T.cls _) dx vs) ∧ RpF T G fs' vs from r)
      refine ⟨a, dx, vs, rfl, sr.le _ _ e, fun f w' e' => ?_, fun f e' => ?_, fun _ z => nomatch z⟩
      · rw [lookup_mapD] at e'
        cases e2 : fs'.lookup f with
        | none => rw [e2] at e'; cases e'
        | some d =>
          rw [e2] at e'
          cases e'
          obtain ⟨v', h1, h2⟩ := RpF.get rr e2
          exact ⟨v', h1, h2⟩
      · rw [lookup_mapD] at e'
        cases e2 : fs'.lookup f with
        | none => exact RpF.none rr e2
        | some d => rw [e2] at e'; cases e'
    | _ => exact nomatch (show (none : Option (Nat × List (Str × W))) = some (c, fs) from h)
  | r xs => exact nomatch (show (none : Option (Nat × List (Str × W))) = some (c, fs) from h)
/-- e.f -/
def wFld (ok : Nat → Prop) (f : Str) (te : TE2) : TE2 := fun σ M Q E => te σ M (fun w M1 => ∃ c fs v, insW M1 w = some (c, fs) ∧ ok c ∧ fs.lookup f = some v ∧ Q v M1) E
theorem e_fld {ok : Nat → Prop} {f : Str} {te : TE2} {e : Expr} {pos : Pos} (hK : X.K = T.K) (hc : ∀ c, ok c → Cls T.K (T.cls c) ∧ NoAttr T.K (T.cls c) f) (he : PE X e (lowE T Wx te)) (hb : attributeBase e f X.env (eval e X.env) = eval e X.env) :
    PE X (.Attribute e f pos) (lowE T Wx (wFld ok f te)) := (pe_fld he hb).imp fun σ H Q h => by
  obtain ⟨G, σ2, M, Q2, E2, sr, rs, q2, pq, px⟩ := h
  refine ⟨G, σ2, M, _, E2, sr, rs, q2, fun w M1 G1 H1 v m1 sr1 rw1 q3 => ?_, px⟩
  obtain ⟨c, fs, u, e1, e2, e3, q3⟩ := q3
  obtain ⟨a, dx, vs, rfl, h1, h2, _, _⟩ := insW_low sr1 rw1 e1
  obtain ⟨v', h3, h4⟩ := h2 f u e3
  obtain ⟨c1, c2⟩ := hc c e2
  rw [hK]
  exact ⟨a, _, dx, vs, v', rfl, h1, c1, c2, h3, pq u M1 G1 H1 v' m1 sr1 h4 q3⟩
/-- e.f = value -/
def wSetF (ok : Nat → Prop) (f : Str) (te tv : TE2) : TS2 := fun D σ M => tv σ M (fun y M1 => te σ M1 (fun x M2 => ∃ a c dx fs, x = .c a ∧ M2 a = some (.ins c dx fs) ∧ ok c ∧ fs.length < 1000 ∧ D.nx σ (put M2 a (.ins c dx (putW f y fs)))) fun x M2 => D.ex x σ M2) fun x M1 => D.ex x σ M1
theorem s_setF {ok : Nat → Prop} {f : Str} {te tv : TE2} {o value : Expr} {pos pos' : Pos} (hK : X.K = T.K) (hc : ∀ c, ok c → Cls T.K (T.cls c) ∧ NoAttr T.K (T.cls c) f) (ho : PE X o (lowE T Wx te)) (hv : PE X value (lowE T Wx tv)) (hs : swapsWith value (some (.Attribute o f pos')) pos.line X.env = pure false) :
    PS X (.Assign [.Attribute o f pos'] value pos) (lowS T Wx (wSetF ok f te tv)) := (ps_fld ho hv hs).imp fun D σ H h => by
  obtain ⟨G, σ2, M, D2, sr, rs, q, pd⟩ := h
  refine ⟨G, σ2, M, _, _, sr, rs, q, fun y M1 G1 H1 v m1 sr1 rw1 q1 => ?_, pd.px rs⟩
  refine ⟨G1, σ2, M1, _, _, sr1, rs.mono m1, q1, fun x M2 G2 H2 u m2 sr2 rw2 q2 => ?_, (pd.mono m1).px (rs.mono m1)⟩
  obtain ⟨a, c, dx, fs, rfl, e, e2, e3, q2⟩ := q2
  cases (show u = .ref a from rw2)
  obtain ⟨_, o', h1, vs, rfl, rr⟩ := sr2.ce _ _ e
  obtain ⟨c1, c2⟩ := hc c e2
  rw [hK]
  refine ⟨a, _, dx, vs, rfl, h1, c1, c2, by rw [← RKs.size rr]; exact e3, ?_⟩
  exact pd.nx _ _ G2 _ _ (m1.trans m2) (sr2.write e (show RC T G2 (.ins c dx (putW f y fs)) (.ins (T.cls c) dx (L2.putF f v vs)) from ⟨_, rfl, RKs.putF (rw1.mono m2) rr⟩)) (rs.mono (m1.trans m2)) q2
/-! ### methods -/
/-- the class c has the method m with the promise sp -/
structure KmP (P : Program) (w : World) (K : PySem.W.Frag) (mg : Str → Option Value) (base : Heap) (T : Tab) (k : Nat) (c : Nat) (m : Str) (sp : Sp2) (dws : List W) : Prop where
  cl : Cls K (T.cls c)
  ex : ∃ f fd ps ds dvs, Meth K (T.cls c) m f ∧ Binds K fd ps ds ∧ Vals dvs ds ∧ (∀ G, RWs T G dws dvs) ∧ Fn P w T mg base k f fd ps sp
def wMeth (c : Nat) (m : Str) (sp : Sp2) (dws : List W) (te : TE2) (ta : TA2) : TE2 := fun σ M Q E => te σ M (fun x M1 => ∃ fs, insW M1 x = some (c, fs) ∧ fs.lookup m = none ∧ ta σ M1 (fun ws M2 => sp (x :: (ws ++ dws)) M2 Q E) E) E
theorem e_omth {c : Nat} {m : Str} {sp : Sp2} {dws : List W} {te : TE2} {ta : TA2} {o e : Expr} {es : List Expr} {apos pos : Pos} {pl : Sem Bool} (C : Ctx T k N mg X Wx sc) (F : KmP X.prog X.w X.K X.mg X.base T k c m sp dws) (ho : PE X o (lowE T Wx te)) (ha : PA X (e :: es) (lowA T Wx ta))
    (hst : starEach (e :: es) X.env = (false, eval e X.env) :: starEach es X.env) (hpl : (backTo pos (starEach es X.env)).any (·.1) = false)
    (ht : eval (.Call (.Attribute o m apos) (e :: es) [] pos) X.env = (do
      let ov ← eval o X.env
      standAt apos.atName
      let (g, self) ← holding [ov] (getMethod ov m pl)
      callWith pos g self (backTo pos (starEach (e :: es) X.env)) (backToKw pos (keywordEach [] X.env)))) : PE X (.Call (.Attribute o m apos) (e :: es) [] pos) (lowE T Wx (wMeth c m sp dws te ta)) := by
  obtain ⟨f, fd, ps, ds, dvs, hm, hb, hv, hd, Fo⟩ := F.ex
  refine ⟨fun pins s σ H Q I h => ?_⟩
  obtain ⟨G, σ2, M, Q2, E2, sr, rs, q2, pq, px⟩ := h
  have low : lowE T Wx te σ H fun x H1 => ∃ a dx vs, x = .ref a ∧ H1 a = some (.ins (T.cls c) dx vs) ∧ vs.lookup m = none ∧ lowA T Wx ta σ H1 fun us H2 => lowSp T sp ((.ref a :: us) ++ dvs) H2 Q (WE Wx σ) := by
    refine ⟨G, σ2, M, _, E2, sr, rs, q2, fun x M1 G1 H1 v m1 sr1 rw1 q3 => ?_, px⟩
    obtain ⟨fs, e1, e2, q3⟩ := q3
    obtain ⟨a, dx, vs, rfl, h1, _, h3, _⟩ := insW_low sr1 rw1 e1
    refine ⟨a, dx, vs, rfl, h1, h3 m e2, G1, σ2, M1, _, E2, sr1, rs.mono m1, q3, fun ws M2 G2 H2 us m2 sr2 rw2 q4 => ?_, px.mono m1⟩
    exact ⟨G2, x :: (ws ++ dws), M2, Q2, E2, sr2, .cons (rw1.mono m2) (Paired.app rw2 (hd G2)), q4, pq.mono (m1.trans m2), fun y M' G' H' cls d m3 sr3 rx q => px y M' G' H' cls d ((m1.trans m2).trans m3) sr3 rx q⟩
  refine PySem.W.methodCall_KW (pl := pl) (thn (ho.run pins s σ H _ I low) fun u s1 ⟨x, H1, I1, rx, a, dx, vs, ex, ea, l, q⟩ => ?_) ht
  subst ex
  cases (show u = Value.ref a from rx)
  refine getmeth_ok I1 ea F.cl hm l ?_
  refine PySem.W.callWith_K (first := [.ref a]) (h₀ := X.base) I.ok.mod.kin hm.kp (thn (ha.run pos pins s1 σ H1 _ I1 q) fun us s2 ⟨ys, H2, I2, r, q4⟩ => ⟨I2.kIn, ?_⟩) hst hpl
  exact run_f (us := .ref a :: us) (vs := .ref a :: ys) C Fo hb hv I2 (.cons rfl r) q4
theorem e_omth0 {c : Nat} {m : Str} {sp : Sp2} {dws : List W} {te : TE2} {o : Expr} {apos pos : Pos} {pl : Sem Bool} (C : Ctx T k N mg X Wx sc) (F : KmP X.prog X.w X.K X.mg X.base T k c m sp dws) (ho : PE X o (lowE T Wx te))
    (ht : eval (.Call (.Attribute o m apos) [] [] pos) X.env = (do
      let ov ← eval o X.env
      standAt apos.atName
      let (g, self) ← holding [ov] (getMethod ov m pl)
      callWith pos g self (backTo pos (starEach [] X.env)) (backToKw pos (keywordEach [] X.env)))) : PE X (.Call (.Attribute o m apos) [] [] pos) (lowE T Wx (wMeth c m sp dws te wNil)) := by
  obtain ⟨f, fd, ps, ds, dvs, hm, hb, hv, hd, Fo⟩ := F.ex
  refine ⟨fun pins s σ H Q I h => ?_⟩
  obtain ⟨G, σ2, M, Q2, E2, sr, rs, q2, pq, px⟩ := h
  have low : lowE T Wx te σ H fun x H1 => ∃ a dx vs, x = .ref a ∧ H1 a = some (.ins (T.cls c) dx vs) ∧ vs.lookup m = none ∧ lowSp T sp ([.ref a] ++ dvs) H1 Q (WE Wx σ) := by
    refine ⟨G, σ2, M, _, E2, sr, rs, q2, fun x M1 G1 H1 v m1 sr1 rw1 q3 => ?_, px⟩
    obtain ⟨fs, e1, e2, q3⟩ := q3
    obtain ⟨a, dx, vs, rfl, h1, _, h3, _⟩ := insW_low sr1 rw1 e1
    exact ⟨a, dx, vs, rfl, h1, h3 m e2, G1, x :: ([] ++ dws), M1, Q2, E2, sr1, .cons rw1 (hd G1), q3, pq.mono m1, fun y M' G' H' cls d m3 sr3 rx q => px y M' G' H' cls d (m1.trans m3) sr3 rx q⟩
  refine PySem.W.methodCall_KW (pl := pl) (thn (ho.run pins s σ H _ I low) fun u s1 ⟨x, H1, I1, rx, a, dx, vs, ex, ea, l, q⟩ => ?_) ht
  subst ex
  cases (show u = Value.ref a from rx)
  refine getmeth_ok I1 ea F.cl hm l ?_
  exact PySem.W.callWith_K0 (first := [.ref a]) I1.kIn hm.kp (run_f (us := [.ref a]) (vs := [.ref a]) C Fo hb hv I1 (.cons rfl .nil) q)
/-! ### new instances -/
/-- the class of index c can be made by its name; its __init__ keeps sp -/
structure KcP (P : Program) (w : World) (K : PySem.W.Frag) (mg : Str → Option Value) (base : Heap) (T : Tab) (k : Nat) (x : Str) (c : Nat) (sp : Sp2) (dws : List W) : Prop where
  ex : ∃ f fd ps ds dvs, mg x = some (.ref (T.cls c)) ∧ Mk K (T.cls c) f ∧ Binds K fd ps ds ∧ Vals dvs ds ∧ (∀ G, RWs T G dws dvs) ∧ Fn P w T mg base k f fd ps sp
theorem make_gd {A : Around} {C : Addr} {us : List Value} {kw : List (Str × Value)} : (A.under (.builtin "type.__call__" ⟨.ref C :: us, kw⟩)).guards = A.guards := by
  first | rfl | simp [Around.under, Code.isGuard, guardIds, Code.frames, Code.isFrame]
def wMake (c : Nat) (sp : Sp2) (dws : List W) (ta : TA2) : TE2 := fun σ M Q E => ta σ M (fun ws M1 => ∀ x dx, M1 x = none → M1 dx = none → dx ≠ x → sp (.c x :: (ws ++ dws)) (put M1 x (.ins c dx [])) (fun v M2 => v = .d .none ∧ Q (.c x) M2) E) E
theorem run_mk {pins : List (Addr × Obj)} {σ : L2.St} {H : Hp} {s : Shared} {Q : VK} {us ds : List Value} {vs dvs : List V} {f Ca : Addr} {fd : FuncData} {ps : List Str} {sp : Sp2}
    (C : Ctx T (k + 1) N mg X Wx sc) (MK : Mk X.K Ca f) (F : Fn X.prog X.w T X.mg X.base k f fd ps sp) (hb : Binds X.K fd ps ds) (hd : Vals dvs ds) (I : Inv X pins σ H s) (r : Vals vs us)
    (h : ∀ x dx, H x = none → H dx = none → dx ≠ x → lowSp T sp (.ref x :: (vs ++ dvs)) (upd (upd H dx (.own x)) x (.ins Ca dx [])) (fun v H2 => v = .non ∧ Q (.ref x) H2) (WE Wx σ)) :
    wpAny (model X.prog X.w) X.A (call (.ref Ca) us) (EP X pins σ Q) X.xe s := by
  have low := h (s.heap.objs.size + 1) s.heap.objs.size (I.hok.fresh (Nat.le_succ _)) (I.hok.fresh (Nat.le_refl _)) (Nat.ne_of_lt (Nat.lt_succ_self _))
  have I2 := Inv.made (C := Ca) I
  have rall : Vals (V.ref (s.heap.objs.size + 1) :: (vs ++ dvs)) (Value.ref (s.heap.objs.size + 1) :: (us ++ ds)) := .cons rfl (r.append hd)
  have count : (Value.ref (s.heap.objs.size + 1) :: us ++ ds).length = ps.length := by
    obtain ⟨G, ws, M, Q2, E2, sr, rr, q, _⟩ := low
    have e := rall.length
    rw [← rr.len, F.len _ _ _ _ q] at e
    exact e.symm
  have env := I2.env0.make Ca us []
  rw [C.eK] at env
  refine wpAny_call (make_map (f := f) I.kIn MK.makes MK.init (beq_iff_eq.mp MK.fn) (codeAny_mono (F.run _ X.stack _ _ ⟨Value.ref (s.heap.objs.size + 1) :: us, []⟩ (Value.ref (s.heap.objs.size + 1) :: (us ++ ds)) _ _ (WE Wx σ) (C.room.make Ca us []) (make_gd.trans C.gd) env (hb _ (Value.ref (s.heap.objs.size + 1) :: us) I2.kIn count) rall low) fun r t hq => ?_))
  cases r with
  | error e => exact passAt C.tk σ pins _ _ e t I2 hq
  | ok fl =>
    cases fl with
    | ret u =>
      obtain ⟨v, H1, I3, rv, ev, q3⟩ := I2.after hq
      subst ev
      exact ⟨rv, ⟨V.ref (s.heap.objs.size + 1), H1, I3, rfl, q3⟩⟩
    | _ => exact False.elim hq
theorem low_make {c : Nat} {sp : Sp2} {dws : List W} {dvs : List V} {ta : TA2} {σ : L2.St} {H : Hp} {Q : VK} (hd : ∀ G, RWs T G dws dvs) (h : lowE T Wx (wMake c sp dws ta) σ H Q) :
    lowA T Wx ta σ H fun vs H1 => ∀ x dx, H1 x = none → H1 dx = none → dx ≠ x → lowSp T sp (.ref x :: (vs ++ dvs)) (upd (upd H1 dx (.own x)) x (.ins (T.cls c) dx [])) (fun v H2 => v = .non ∧ Q (.ref x) H2) (WE Wx σ) := by
  obtain ⟨G, σ2, M, Q2, E2, sr, rs, q2, pq, px⟩ := h
  refine ⟨G, σ2, M, _, E2, sr, rs, q2, fun ws M1 G1 H1 vs m1 sr1 rw1 q3 x dx hx hdx hne => ?_, px⟩
  have q4 := q3 x dx (sr1.freeM hx) (sr1.freeM hdx) hne
  have g1 : G1 dx = none := sr1.free hdx
  have m2 : Mo G1 (upd G1 dx (.own x)) := Mo.of (same_new g1)
  have sr2 := sr1.laid (o := HO.own x) hdx
  have hx2 : (upd H1 dx (.own x)) x = none := by rw [upd_ne hne.symm]; exact hx
  have sr3 := sr2.cell hx2 (show RC T (upd G1 dx (.own x)) (.ins c dx []) (.ins (T.cls c) dx []) from ⟨[], rfl, .nil⟩)
  refine ⟨_, .c x :: (ws ++ dws), _, _, E2, sr3, .cons (show RW T _ (.c x) (.ref x) from rfl) (Paired.app (Paired.mapP rw1 fun _ _ z => RW.mono m2 z) (hd _)), q4, fun y M3 G3 H3 v m3 sr4 ry hq => ?_, fun y M' G' H' cls d m3 sr4 rx q => px y M' G' H' cls d ((m1.trans m2).trans m3) sr4 rx q⟩
  obtain ⟨rfl, hq⟩ := hq
  exact ⟨ry, pq _ M3 G3 H3 _ ((m1.trans m2).trans m3) sr4 (show RW T G3 (.c x) (.ref x) from rfl) hq⟩
theorem e_make {x : Str} {c : Nat} {sp : Sp2} {dws : List W} {e : Expr} {es : List Expr} {ta : TA2} {p pos : Pos} (C : Ctx T (k + 1) N mg X Wx sc) (F : KcP X.prog X.w X.K X.mg X.base T k x c sp dws) (hg : Gl X x) (ha : PA X (e :: es) (lowA T Wx ta)) (hdb : (x == ("__debug__" : Str)) = false)
    (he : starEach (e :: es) X.env = (false, eval e X.env) :: starEach es X.env) (hpl : (backTo pos (starEach es X.env)).any (·.1) = false) : PE X (.Call (.Name x p) (e :: es) [] pos) (lowE T Wx (wMake c sp dws ta)) := by
  obtain ⟨f, fd, ps, ds, dvs, hm, hk, hb, hv, hd, Fo⟩ := F.ex
  refine ⟨fun pins s σ H Q I h => ?_⟩
  refine wpAny_Call_Name_kw (ld_glob I hg hm ?_ hdb)
  refine PySem.W.callWith_K (h₀ := X.base) I.ok.mod.kin hk.kp (thn (ha.run pos pins s σ H _ I (low_make hd h)) fun us s1 ⟨vs, H1, I1, r, q⟩ => ⟨I1.kIn, ?_⟩) he hpl
  exact run_mk C hk Fo hb hv I1 r q
theorem e_make0 {x : Str} {c : Nat} {sp : Sp2} {dws : List W} {p pos : Pos} (C : Ctx T (k + 1) N mg X Wx sc) (F : KcP X.prog X.w X.K X.mg X.base T k x c sp dws) (hg : Gl X x) (hdb : (x == ("__debug__" : Str)) = false) : PE X (.Call (.Name x p) [] [] pos) (lowE T Wx (wMake c sp dws wNil)) := by
  obtain ⟨f, fd, ps, ds, dvs, hm, hk, hb, hv, hd, Fo⟩ := F.ex
  refine ⟨fun pins s σ H Q I h => ?_⟩
  refine wpAny_Call_Name_kw (ld_glob I hg hm ?_ hdb)
  obtain ⟨G, σ2, M, Q2, E2, sr, rs, q2, pq, px⟩ := low_make (H := H) hd h
  exact PySem.W.callWith_K0 I.kIn hk.kp (run_mk (us := []) (vs := []) C hk Fo hb hv I .nil (pq [] M G H [] (Mo.refl _) sr .nil q2))
theorem form_of {es : List Expr} {env : Env} {pos : Pos} (h : (backTo pos (starEach es env)).all (fun x => !x.1) = true) (hl : es.length < 29) : methodCallForm (es.length + ([] : List Keyword).length) (backTo pos (starEach es env)) (backToKw pos (keywordEach [] env)) = true := by
  show ((backTo pos (starEach es env)).all (fun x => !x.1) && (backToKw pos (keywordEach [] env)).all (fun x => x.1.isSome) && decide (es.length + ([] : List Keyword).length + (if ([] : List Keyword).isEmpty then 0 else 1) < 30)) = true
  rw [h, Bool.true_and]
  show (true && decide (es.length + 0 + 0 < 30)) = true
  rw [Bool.true_and, decide_eq_true_eq]
  omega
theorem ht_of {o : Expr} {m : Str} {es : List Expr} {env : Env} {apos pos : Pos} (hb : attributeBase o m env (eval o env) = eval o env) (h : (backTo pos (starEach es env)).all (fun x => !x.1) = true) (hl : es.length < 29) (hline : (apos.endLine == pos.line) = true) :
    eval (.Call (.Attribute o m apos) es [] pos) env = (do
      let ov ← eval o env
      standAt apos.atName
      let (g, self) ← holding [ov] (getMethod ov m (L2.plainOf o env))
      callWith pos g self (backTo pos (starEach es env)) (backToKw pos (keywordEach [] env))) := L2.mcall_of hb fun ov => L2.mcall_line (form_of h hl) hline
def wIfP (P : Prop) (t : TE2) : TE2 := fun σ M Q E => P ∧ t σ M Q E
theorem e_ifP {P : Prop} {t : TE2} {e : Expr} (h : P → PE X e (lowE T Wx t)) : PE X e (lowE T Wx (wIfP P t)) := ⟨fun pins s σ H Q I q => by
  obtain ⟨G, σ2, M, Q2, E2, sr, rs, ⟨hp, q2⟩, pq, px⟩ := q
  exact (h hp).run pins s σ H Q I ⟨G, σ2, M, Q2, E2, sr, rs, q2, pq, px⟩⟩
end
end Z
set_option maxHeartbeats 4000000
/-! Y2: own classes: operators by own methods, str, f-strings, staticmethods, calls of instances -/
namespace Z
open PySem PySem.Spec PyProof.Rows L2
/-- if instances may be called, then by a def -/
def callOk (K : PySem.W.Frag) (C : Addr) : Bool := match PySem.W.findIn K (.ref C) "__call__" with
  | some (some (.ref f)) => PySem.W.fnIn K f
  | _ => true
/-- if instances may be subscripted, then by a def -/
def getOk (K : PySem.W.Frag) (C : Addr) : Bool := match PySem.W.findIn K (.ref C) "__getitem__" with
  | some (some (.ref f)) => PySem.W.fnIn K f
  | _ => true
/-- what the class at C must have besides Cls -/
structure ClG (K : PySem.W.Frag) (C : Addr) : Prop where
  sf : PySem.W.selfFirst K C = true
  ns : PySem.W.noSeq K C = true
  mo : PySem.W.mroIn K C (.type "object") = some true
  fm : PySem.W.findIn K (.ref C) "__format__" = some (some (.builtin "object.__format__"))
  co : callOk K C = true
  ne : PySem.W.findIn K (.ref C) "__ne__" = some (some (.builtin "object.__ne__"))
  gt : PySem.W.findIn K (.ref C) "__gt__" = some (some (.builtin "object.__gt__"))
  ge : PySem.W.findIn K (.ref C) "__ge__" = some (some (.builtin "object.__ge__"))
  gi : getOk K C = true
theorem ClG.gf {K : PySem.W.Frag} {C : Addr} (h : ClG K C) (f : Addr) (e : PySem.W.findIn K (.ref C) "__getitem__" = some (some (.ref f))) : PySem.W.fnIn K f = true := by
  have := h.gi
  unfold getOk at this
  rw [e] at this
  exact this
theorem ClG.fi {K : PySem.W.Frag} {C : Addr} (h : ClG K C) (f : Addr) (e : PySem.W.findIn K (.ref C) "__call__" = some (some (.ref f))) : PySem.W.fnIn K f = true := by
  have := h.co
  unfold callOk at this
  rw [e] at this
  exact this
/-- attributes that are all data -/
def unK : List (Str × W) → Option (List (Str × D))
  | [] => some []
  | (f, .d x) :: r => (unK r).map ((f, x) :: ·)
  | _ :: _ => none
section
variable {X : Cx} {T : Tab} {Wx : WX} {k : Nat} {N : List Str} {mg : Str → Option Value} {sc : Scope}
theorem run_fC {A : Around} {pins : List (Addr × Obj)} {σ : L2.St} {H : Hp} {s : Shared} {Q : VK} {us ds : List Value} {vs dvs : List V} {f : Addr} {fd : FuncData} {ps : List Str} {sp : Sp2}
    (C : Ctx T k N mg X Wx sc) {j : Nat} (hr : Room j A) (hg : A.guards = some []) (F : Fn X.prog X.w T X.mg X.base j f fd ps sp) (hb : Binds X.K fd ps ds) (hd : Vals dvs ds)
    (I : Inv X pins σ H s) (e0 : Env0 X.prog X.w X.K X.mg X.base A X.stack s H) (r : Vals vs us) (h : lowSp T sp (vs ++ dvs) H Q (WE Wx σ)) :
    codeAny (model X.prog X.w) A (.call (.ref f) ⟨us, []⟩) (fun r s' => match r with | .ok (.ret v) => EP X pins σ Q v s' | .ok _ => False | .error e => X.xe e s') s := by
  have r2 := r.append hd
  have hl : (us ++ ds).length = ps.length := by
    rw [← r2.length]
    obtain ⟨G, ws, M, Q2, E2, sr, rr, q, _⟩ := h
    rw [← rr.len]
    exact F.len _ _ _ _ q
  have b := hb s us I.kIn hl
  have e1 : Env0 X.prog X.w T.K X.mg X.base A X.stack s H := by rw [← C.eK]; exact e0
  refine codeAny_mono (F.run A X.stack s H ⟨us, []⟩ (us ++ ds) (vs ++ dvs) Q (WE Wx σ) hr hg e1 b r2 h) fun r s' hq => ?_
  cases r with
  | error e => exact passAt C.tk σ pins H s e s' I hq
  | ok fl =>
    cases fl with
    | ret u => exact I.after hq
    | next => exact False.elim hq
    | brk => exact False.elim hq
    | cont => exact False.elim hq
theorem run_fA {A : Around} {pins : List (Addr × Obj)} {σ : L2.St} {H : Hp} {s : Shared} {Q : VK} {us ds : List Value} {vs dvs : List V} {f : Addr} {fd : FuncData} {ps : List Str} {sp : Sp2}
    (C : Ctx T k N mg X Wx sc) {j : Nat} (hr : Room j A) (hg : A.guards = some []) (F : Fn X.prog X.w T X.mg X.base j f fd ps sp) (hb : Binds X.K fd ps ds) (hd : Vals dvs ds)
    (I : Inv X pins σ H s) (e0 : Env0 X.prog X.w X.K X.mg X.base A X.stack s H) (r : Vals vs us) (h : lowSp T sp (vs ++ dvs) H Q (WE Wx σ)) : wpAny (model X.prog X.w) A (call (.ref f) us) (EP X pins σ Q) X.xe s :=
  wpAny_call (run_fC C hr hg F hb hd I e0 r h)
theorem inst_at {pins : List (Addr × Obj)} {σ : L2.St} {G H : Hp} {s : Shared} {M : Mp} {w : W} {v : V} {c : Nat} {fs : List (Str × W)} (I : Inv X pins σ H s) (sr : SR T G H M) (r : RW T G w v) (h : insW M w = some (c, fs)) :
    ∃ a ox od, v = .ref a ∧ PySem.W.InstAt s.heap a ox (T.cls c) od ∧ ox.data = .plain := by
  obtain ⟨a, dx, vs, rfl, h1, _⟩ := insW_low sr r h
  obtain ⟨ox, od, J, hd⟩ := StX.insC_at I (.inr ⟨dx, vs, h1⟩)
  exact ⟨a, ox, od, rfl, J, hd⟩
/-- both operands are instances of the class c -/
def oOwn (c : Nat) (sp : Sp2) (dws : List W) : R22 := fun x y M Q E => (∃ fs, insW M x = some (c, fs)) ∧ (∃ fs, insW M y = some (c, fs)) ∧ sp (x :: y :: dws) M Q E
theorem low_own {sp : Sp2} {dws : List W} {dvs : List V} {G H : Hp} {M : Mp} {Q2 : VK2} {E2 : XK2} {Q : VK} {σ : L2.St} {ws : List W} {vs : List V} (sr : SR T G H M) (rw : RWs T G ws vs) (hd : ∀ G, RWs T G dws dvs) (q : sp (ws ++ dws) M Q2 E2) (pq : PQ T G Q2 Q) (px : PX T Wx G σ E2) : lowSp T sp (vs ++ dvs) H Q (WE Wx σ) :=
  ⟨G, ws ++ dws, M, Q2, E2, sr, Paired.app rw (hd G), q, pq, fun y M' G' H' cls d m3 sr3 rx q => px y M' G' H' cls d m3 sr3 rx q⟩
theorem back_ep {pins : List (Addr × Obj)} {σ : L2.St} {Q : VK} {v : Value} {s' : Shared} (h : EP X pins σ Q v s') : PySem.W.CmpBack (EP X pins σ Q) v s' := by
  obtain ⟨z, H', I', rz, qz⟩ := h
  exact SlX.cmpback rz ⟨z, H', I', rz, qz⟩
/-- x op y -/
theorem op2_own {op : Operator} {c : Nat} {m : Str} {sp : Sp2} {dws : List W} (C : Ctx T k N mg X Wx sc) (F : KmP X.prog X.w X.K X.mg X.base T k c m sp dws) (hc : ClG X.K (T.cls c)) (hm : m = PySem.dunder op.info.2) : Op2 X T Wx (binaryOp op) (oOwn c sp dws) := by
  subst hm
  obtain ⟨f, fd, ps, ds, dvs, hm, hb, hv, hd, Fo⟩ := F.ex
  intro pins s σ H x y v u Q I rx ry ⟨G, wx, wy, M, Q2, E2, sr, rwx, rwy, ⟨⟨fs, e1⟩, ⟨fs', e2⟩, q⟩, pq, px⟩
  obtain ⟨a, ox, od, rfl, J, _⟩ := inst_at I sr rwx e1
  obtain ⟨b, ox', od', rfl, J', _⟩ := inst_at I sr rwy e2
  cases (show v = Value.ref a from rx)
  cases (show u = Value.ref b from ry)
  obtain ⟨mF, hF⟩ := I.fr
  refine PySem.W.binop_K hF I.ok.mod.kin J J'.type hc.sf hm.at_ hm.fn ?_
  exact wpAny_mono (run_f (us := [.ref a, .ref b]) (vs := [.ref a, .ref b]) C Fo hb hv I (.cons rfl (.cons rfl .nil)) (low_own (ws := [wx, wy]) sr (.cons rwx (.cons rwy .nil)) hd q pq px)) (fun w s' z => back_ep z) fun _ _ x => x
/-- x op y, a comparison -/
theorem op2_ownC {op : CmpOp} {c : Nat} {m : Str} {sp : Sp2} {dws : List W} (C : Ctx T k N mg X Wx sc) (F : KmP X.prog X.w X.K X.mg X.base T k c m sp dws) (hm : m = (cmpInfo op).2.1) (hop : ∀ a b, compareOp op a b = richCompare op a b) : Op2 X T Wx (compareOp op) (oOwn c sp dws) := by
  subst hm
  obtain ⟨f, fd, ps, ds, dvs, hm, hb, hv, hd, Fo⟩ := F.ex
  intro pins s σ H x y v u Q I rx ry ⟨G, wx, wy, M, Q2, E2, sr, rwx, rwy, ⟨⟨fs, e1⟩, ⟨fs', e2⟩, q⟩, pq, px⟩
  obtain ⟨a, ox, od, rfl, J, _⟩ := inst_at I sr rwx e1
  obtain ⟨b, ox', od', rfl, J', _⟩ := inst_at I sr rwy e2
  cases (show v = Value.ref a from rx)
  cases (show u = Value.ref b from ry)
  obtain ⟨mF, hF⟩ := I.fr
  rw [hop]
  refine PySem.W.cmp_K (op := op) (tb := .ref (T.cls c)) C.room.units0 hF I.ok.mod.kin J J'.type (by unfold PySem.W.notFirst; simp) hm.at_ hm.fn ?_
  exact wpAny_mono (run_f (us := [.ref a, .ref b]) (vs := [.ref a, .ref b]) C Fo hb hv I (.cons rfl (.cons rfl .nil)) (low_own (ws := [wx, wy]) sr (.cons rwx (.cons rwy .nil)) hd q pq px)) (fun w s' z => back_ep z) fun _ _ x => x
/-- y in x, y not in x -/
def oOwnIn (neg : Bool) (c : Nat) (sp : Sp2) (dws : List W) : R22 := fun y x M Q E => (∃ fs, insW M x = some (c, fs)) ∧ sp (x :: y :: dws) M (fun z M1 => ∃ b, z = .d (.bool b) ∧ Q (.d (.bool (if neg = true then !b else b))) M1) E
theorem op2_ownIn {neg : Bool} {op : CmpOp} {c : Nat} {sp : Sp2} {dws : List W} (C : Ctx T k N mg X Wx sc) (F : KmP X.prog X.w X.K X.mg X.base T k c "__contains__" sp dws) (hop : op = if neg = true then .NotIn else .In) : Op2 X T Wx (compareOp op) (oOwnIn neg c sp dws) := by
  subst hop
  obtain ⟨f, fd, ps, ds, dvs, hm, hb, hv, hd, Fo⟩ := F.ex
  intro pins s σ H y x u v Q I ry rx ⟨G, wy, wx, M, Q2, E2, sr, rwy, rwx, ⟨⟨fs, e1⟩, q⟩, pq, px⟩
  obtain ⟨a, ox, od, rfl, J, _⟩ := inst_at I sr rwx e1
  cases (show v = Value.ref a from rx)
  obtain ⟨mF, hF⟩ := I.fr
  have run := run_f (us := [.ref a, u]) (vs := [.ref a, y]) (Q := fun z H1 => ∃ b, z = .bl b ∧ Q (.bl (if neg = true then !b else b)) H1) C Fo hb hv I (.cons rfl (.cons ry .nil)) (low_own (ws := [wx, wy]) sr (.cons rwx (.cons rwy .nil)) hd q (fun w M1 G1 H1 v1 m1 sr1 rw1 ⟨b, e, q1⟩ => by
    subst e
    exact ⟨b, rw1, pq _ M1 G1 H1 _ m1 sr1 (show RW T G1 (.d (.bool _)) (.bl _) from rfl) q1⟩) px)
  cases neg with
  | false =>
    refine PySem.W.in_K hF I.ok.mod.kin J hm.at_ hm.fn (wpAny_mono run (fun w s' z => ?_) fun _ _ x => x)
    obtain ⟨z, H', I', rz, b, rfl, qz⟩ := z
    cases (show w = Value.bool b from rz)
    exact wpAny_truthy_bool ⟨.bl b, H', I', rfl, qz⟩
  | true =>
    refine PySem.W.notIn_K hF I.ok.mod.kin J hm.at_ hm.fn (wpAny_mono run (fun w s' z => ?_) fun _ _ x => x)
    obtain ⟨z, H', I', rz, b, rfl, qz⟩ := z
    cases (show w = Value.bool b from rz)
    exact wpAny_truthy_bool ⟨.bl (!b), H', I', rfl, qz⟩
/-- one operand -/
def wOwn1 (c : Nat) (sp : Sp2) (dws : List W) (te : TE2) : TE2 := fun σ M Q E => te σ M (fun x M1 => (∃ fs, insW M1 x = some (c, fs)) ∧ sp (x :: dws) M1 Q E) E
theorem e_inv {c : Nat} {sp : Sp2} {dws : List W} {te : TE2} {e : Expr} {pos : Pos} (C : Ctx T k N mg X Wx sc) (F : KmP X.prog X.w X.K X.mg X.base T k c "__invert__" sp dws) (he : PE X e (lowE T Wx te)) : PE X (.UnaryOp .Invert e pos) (lowE T Wx (wOwn1 c sp dws te)) := by
  obtain ⟨f, fd, ps, ds, dvs, hm, hb, hv, hd, Fo⟩ := F.ex
  refine ⟨fun pins s σ H Q I ⟨G, σ2, M, Q2, E2, sr, rs, q2, pq, px⟩ => ?_⟩
  have low : lowE T Wx te σ H fun x H1 => ∃ a, x = .ref a ∧ (∃ dx vs, H1 a = some (.ins (T.cls c) dx vs)) ∧ lowSp T sp ([.ref a] ++ dvs) H1 Q (WE Wx σ) := by
    refine ⟨G, σ2, M, _, E2, sr, rs, q2, fun x M1 G1 H1 v m1 sr1 rw1 ⟨⟨fs, e1⟩, q3⟩ => ?_, px⟩
    obtain ⟨a, dx, vs, rfl, h1, _⟩ := insW_low sr1 rw1 e1
    exact ⟨a, rfl, ⟨dx, vs, h1⟩, low_own (ws := [x]) sr1 (.cons rw1 .nil) hd q3 (pq.mono m1) (px.mono m1)⟩
  refine UnaryOp_ (thn (he.run pins s σ H _ I low) fun v s1 ⟨x, H1, I1, r1, a, e, ⟨dx, vs, h1⟩, q⟩ => ?_)
  subst e
  cases (show v = Value.ref a from r1)
  obtain ⟨ox, od, J, _⟩ := StX.insC_at I1 (.inr ⟨dx, vs, h1⟩)
  obtain ⟨mF, hF⟩ := I1.fr
  exact PySem.W.ksp_inv hF I1.ok.mod.kin J hm.at_ hm.fn (run_f (us := [.ref a]) (vs := [.ref a]) C Fo hb hv I1 (.cons rfl .nil) q)
/-- str(x), x an instance -/
def wOwnS (c : Nat) (sp : Sp2) (dws : List W) (te : TE2) : TE2 := fun σ M Q E => te σ M (fun x M1 => (∃ fs, insW M1 x = some (c, fs)) ∧ sp (x :: dws) M1 (fun z M2 => ∃ t, z = .d (.str t) ∧ Q z M2) E) E
theorem low_S {c : Nat} {sp : Sp2} {dws : List W} {dvs : List V} {te : TE2} {σ : L2.St} {H : Hp} {Q : VK} (hd : ∀ G, RWs T G dws dvs) (h : lowE T Wx (wOwnS c sp dws te) σ H Q) :
    lowE T Wx te σ H fun x H1 => ∃ a, x = .ref a ∧ (∃ dx vs, H1 a = some (.ins (T.cls c) dx vs)) ∧ lowSp T sp ([.ref a] ++ dvs) H1 (fun z H2 => ∃ t, z = .str t ∧ Q z H2) (WE Wx σ) := by
  obtain ⟨G, σ2, M, Q2, E2, sr, rs, q2, pq, px⟩ := h
  refine ⟨G, σ2, M, _, E2, sr, rs, q2, fun x M1 G1 H1 v m1 sr1 rw1 ⟨⟨fs, e1⟩, q3⟩ => ?_, px⟩
  obtain ⟨a, dx, vs, rfl, h1, _⟩ := insW_low sr1 rw1 e1
  refine ⟨a, rfl, ⟨dx, vs, h1⟩, low_own (ws := [x]) sr1 (.cons rw1 .nil) hd q3 (fun w M2 G2 H2 v2 m2 sr2 rw2 ⟨t, e, q4⟩ => ?_) (px.mono m1)⟩
  subst e
  obtain ⟨rfl, hz⟩ := rw2
  exact ⟨t, rfl, pq _ M2 G2 H2 _ (m1.trans m2) sr2 (show RW T G2 (.d (.str t)) (.str t) from ⟨rfl, hz⟩) q4⟩
theorem str_back {pins : List (Addr × Obj)} {σ : L2.St} {Q : VK} {v : Value} {s' : Shared} (h : EP X pins σ (fun z H2 => ∃ t, z = .str t ∧ Q z H2) v s') : PySem.W.StrBack (EP X pins σ Q) v s' := by
  obtain ⟨z, H', I', rz, t, e, qz⟩ := h
  subst e
  obtain ⟨tk, e⟩ := (show ∃ tk, v = Value.str t tk from rz)
  subst e
  exact ⟨.str t, H', I', ⟨tk, rfl⟩, qz⟩
theorem e_strO {c : Nat} {sp : Sp2} {dws : List W} {te : TE2} {e : Expr} {p pos : Pos} (C : Ctx T (k + 2) N mg X Wx sc) (F : KmP X.prog X.w X.K X.mg X.base T k c "__str__" sp dws) (hg : Gl X "str") (hm0 : X.mg "str" = none) (he : PE X e (lowE T Wx te))
    (hst : starEach [e] X.env = [(false, eval e X.env)]) : PE X (.Call (.Name "str" p) [e] [] pos) (lowE T Wx (wOwnS c sp dws te)) := by
  obtain ⟨f, fd, ps, ds, dvs, hm, hb, hv, hd, Fo⟩ := F.ex
  refine ⟨fun pins s σ H Q I h => ?_⟩
  have low := low_S hd h
  refine wpAny_Call_Name_kw (ld_blt I hg hm0 (show bootBuiltins ("str" : Str) = some (.type "str") by decide +kernel) ?_ (by decide +kernel) (by decide +kernel))
  refine PyProof.Rows.callWith_type1 (thn ((pa_cons he pa_nil hst).run pos pins s σ H (fun vs H1 => ∃ a, vs = [.ref a] ∧ (∃ dx us, H1 a = some (.ins (T.cls c) dx us)) ∧ lowSp T sp ([.ref a] ++ dvs) H1 (fun z H2 => ∃ t, z = .str t ∧ Q z H2) (WE Wx σ)) I ?_) fun us s1 ⟨vs, H1, I1, r1, a, e1, ⟨dx, fs, h1⟩, q⟩ => ?_) hst rfl
  · obtain ⟨G, σ2, M, Q2, E2, sr, rs, q2, pq, px⟩ := low
    refine ⟨G, σ2, M, Q2, E2, sr, rs, q2, fun w M1 G1 H1 v m1 sr1 rw1 q3 => ?_, px⟩
    obtain ⟨a, rfl, q4, q5⟩ := pq w M1 G1 H1 v m1 sr1 rw1 q3
    exact ⟨a, rfl, q4, q5⟩
  · subst e1
    obtain ⟨u, rfl, ru⟩ := r1.one
    cases (show u = Value.ref a from ru)
    obtain ⟨ox, od, J, _⟩ := StX.insC_at I1 (.inr ⟨dx, fs, h1⟩)
    have hr2 : Room k X.A.in1.in1 := (show Room (k + 1) X.A.in1 from Room.in1 C.room).in1
    exact PySem.W.kso_call hr2.units0 I1.kIn J hm.at_ hm.fn (wpAny_mono (run_fA (us := [.ref a]) (vs := [.ref a]) C hr2 C.gd Fo hb hv I1 I1.env0.in1.in1 (.cons rfl .nil) q) (fun w s' z => str_back z) fun _ _ x => x)
/-- f'{x}', x an instance -/
theorem e_fmtO {c : Nat} {sp : Sp2} {dws : List W} {te : TE2} {e : Expr} {pos pos' : Pos} (C : Ctx T (k + 1) N mg X Wx sc) (F : KmP X.prog X.w X.K X.mg X.base T k c "__str__" sp dws) (hc : ClG X.K (T.cls c)) (hfm : PySem.W.findIn X.K (.ref (T.cls c)) "__format__" = some (some (.builtin "object.__format__"))) (he : PE X e (lowE T Wx te)) :
    PE X (.JoinedStr [.FormattedValue e (-1) none pos'] pos) (lowE T Wx (wOwnS c sp dws te)) := by
  obtain ⟨f, fd, ps, ds, dvs, hm, hb, hv, hd, Fo⟩ := F.ex
  refine pe_joined1 ⟨fun pins s σ H Q I h => ?_⟩
  refine wpAny_FormattedValue_plain (thn (he.run pins s σ H _ I (low_S hd h)) fun v s1 ⟨x, H1, I1, r1, a, e1, ⟨dx, fs, h1⟩, q⟩ => ?_)
  subst e1
  cases (show v = Value.ref a from r1)
  obtain ⟨ox, od, J, _⟩ := StX.insC_at I1 (.inr ⟨dx, fs, h1⟩)
  have hr2 : Room k X.A.in1 := Room.in1 C.room
  have I2 := I1.tok (s1.toks + 1)
  exact PySem.W.kfo_fieldS hr2.units0 I1.kIn J hfm hc.mo hm.at_ hm.fn (wpAny_mono (run_fA (us := [.ref a]) (vs := [.ref a]) C hr2 C.gd Fo hb hv I2 I2.env0.in1 (.cons rfl .nil) q) (fun w s' z => str_back z) fun _ _ x => x)
/-- f(e, ..), f an instance -/
def wOwnCall (c : Nat) (sp : Sp2) (dws : List W) (tf : TE2) (ta : TA2) : TE2 := fun σ M Q E => tf σ M (fun x M1 => (∃ fs, insW M1 x = some (c, fs)) ∧ ta σ M1 (fun ws M2 => (∃ fs, insW M2 x = some (c, fs)) ∧ sp (x :: (ws ++ dws)) M2 Q E) E) E
theorem e_callO {c : Nat} {sp : Sp2} {dws : List W} {tf : TE2} {ta : TA2} {fe e : Expr} {es : List Expr} {pos : Pos} (C : Ctx T k N mg X Wx sc) (F : KmP X.prog X.w X.K X.mg X.base T k c "__call__" sp dws) (hfi : ∀ f, PySem.W.findIn X.K (.ref (T.cls c)) "__call__" = some (some (.ref f)) → PySem.W.fnIn X.K f = true)
    (hf : PE X fe (lowE T Wx tf)) (ha : PA X (e :: es) (lowA T Wx ta))
    (ht : eval (.Call fe (e :: es) [] pos) X.env = (do callWith pos (← eval fe X.env) [] (backTo pos (starEach (e :: es) X.env)) (backToKw pos (keywordEach [] X.env))))
    (he : starEach (e :: es) X.env = (false, eval e X.env) :: starEach es X.env) (hpl : (backTo pos (starEach es X.env)).any (·.1) = false) : PE X (.Call fe (e :: es) [] pos) (lowE T Wx (wOwnCall c sp dws tf ta)) := by
  obtain ⟨f, fd, ps, ds, dvs, hm, hb, hv, hd, Fo⟩ := F.ex
  refine ⟨fun pins s σ H Q I ⟨G, σ2, M, Q2, E2, sr, rs, q2, pq, px⟩ => ?_⟩
  have low : lowE T Wx tf σ H fun x H1 => ∃ a, x = .ref a ∧ lowA T Wx ta σ H1 fun us H2 => (∃ dx vs, H2 a = some (.ins (T.cls c) dx vs)) ∧ lowSp T sp ((.ref a :: us) ++ dvs) H2 Q (WE Wx σ) := by
    refine ⟨G, σ2, M, _, E2, sr, rs, q2, fun x M1 G1 H1 v m1 sr1 rw1 ⟨⟨fs0, e0⟩, q3⟩ => ?_, px⟩
    obtain ⟨a, dx0, vs0, rfl, h0, _⟩ := insW_low sr1 rw1 e0
    refine ⟨a, rfl, G1, σ2, M1, _, E2, sr1, rs.mono m1, q3, fun ws M2 G2 H2 us m2 sr2 rw2 ⟨⟨fs, e1⟩, q4⟩ => ?_, px.mono m1⟩
    obtain ⟨a', dx, vs, e2, h1, _⟩ := insW_low sr2 (rw1.mono m2) e1
    cases e2
    exact ⟨⟨dx, vs, h1⟩, low_own (ws := x :: ws) sr2 (.cons (rw1.mono m2) rw2) hd q4 (pq.mono (m1.trans m2)) (px.mono (m1.trans m2))⟩
  refine Call_ (thn (hf.run pins s σ H _ I low) fun u s1 ⟨x, H1, I1, ry, a, ex, q⟩ => ?_) ht
  subst ex
  obtain rfl : u = Value.ref a := ry
  refine StX.callO_with (thn (ha.run pos pins s1 σ H1 _ I1 q) fun us s2 ⟨vs, H2, I2, r, ⟨dx, fs, h1⟩, q2⟩ => ?_) he hpl
  obtain ⟨ox, od, J, hdp⟩ := StX.insC_at I2 (.inr ⟨dx, fs, h1⟩)
  refine ⟨⟨T.cls c, ox, od, J, hdp⟩, wpAny_call (PySem.W.kco_code I2.kIn J hdp hm.at_ hm.fn (hfi _ hm.at_) ?_)⟩
  exact run_fC (us := .ref a :: us) (vs := .ref a :: vs) C C.room C.gd Fo hb hv I2 I2.env0 (.cons rfl r) q2
/-! ### staticmethods -/
/-- the class of the name x has the staticmethod m -/
structure KsP (P : Program) (w : World) (K : PySem.W.Frag) (mg : Str → Option Value) (base : Heap) (T : Tab) (k : Nat) (x : Str) (m : Str) (sp : Sp2) (dws : List W) : Prop where
  ex : ∃ Ca mc p rest f fd ps ds dvs, mg x = some (.ref Ca) ∧ ClX.CRead K Ca mc ∧ PySem.W.findCls K (.ref Ca) mc m = some (.get (.builtin "staticmethod.__get__") (.ref p) .none (.ref Ca)) ∧ PySem.W.recIn K p "staticmethod" = some (.ref f :: rest) ∧
    PySem.W.keepIn K (.ref f) = true ∧ Binds K fd ps ds ∧ Vals dvs ds ∧ (∀ G, RWs T G dws dvs) ∧ Fn P w T mg base k f fd ps sp
theorem e_stat {x m : Str} {sp : Sp2} {dws : List W} {e : Expr} {es : List Expr} {ta : TA2} {p pos apos : Pos} {pl : Sem Bool} (C : Ctx T k N mg X Wx sc) (F : KsP X.prog X.w X.K X.mg X.base T k x m sp dws) (hg : Gl X x) (hdb : (x == ("__debug__" : Str)) = false) (ha : PA X (e :: es) (lowA T Wx ta))
    (hst : starEach (e :: es) X.env = (false, eval e X.env) :: starEach es X.env) (hpl : (backTo pos (starEach es X.env)).any (·.1) = false)
    (ht : eval (.Call (.Attribute (.Name x p) m apos) (e :: es) [] pos) X.env = (do
      let ov ← eval (.Name x p) X.env
      standAt apos.atName
      let (g, self) ← holding [ov] (getMethod ov m pl)
      callWith pos g self (backTo pos (starEach (e :: es) X.env)) (backToKw pos (keywordEach [] X.env)))) : PE X (.Call (.Attribute (.Name x p) m apos) (e :: es) [] pos) (lowE T Wx (wCall sp dws ta)) := by
  obtain ⟨Ca, mc, pa, rest, f, fd, ps, ds, dvs, hm, cr, fc, rc, kp, hb, hv, hd, Fo⟩ := F.ex
  refine ⟨fun pins s σ H Q I h => ?_⟩
  refine PySem.W.methodCall_KW (pl := pl) (ld_glob I hg hm ?_ hdb) ht
  obtain ⟨mF, hF⟩ := I.fr
  refine PySem.W.method_cls I.kIn cr.ga (PySem.W.cls_bind I.kIn cr.rd fc (wpAny_call (PySem.W.sm_get (s := { s with toks := s.toks + 1 }) I.kIn rc (PySem.W.handed_on rfl ?_))))
  have I1 := I.tok (s.toks + 1)
  exact PySem.W.callWith_K (first := []) (h₀ := X.base) I1.ok.mod.kin kp (thn (ha.run pos pins _ σ H _ I1 (low_call hd h)) fun us s1 ⟨vs, H1, I2, r, q⟩ => ⟨I2.kIn, run_f C Fo hb hv I2 r q⟩) hst hpl
theorem e_stat0 {x m : Str} {sp : Sp2} {dws : List W} {p pos apos : Pos} {pl : Sem Bool} (C : Ctx T k N mg X Wx sc) (F : KsP X.prog X.w X.K X.mg X.base T k x m sp dws) (hg : Gl X x) (hdb : (x == ("__debug__" : Str)) = false)
    (ht : eval (.Call (.Attribute (.Name x p) m apos) [] [] pos) X.env = (do
      let ov ← eval (.Name x p) X.env
      standAt apos.atName
      let (g, self) ← holding [ov] (getMethod ov m pl)
      callWith pos g self (backTo pos (starEach [] X.env)) (backToKw pos (keywordEach [] X.env)))) : PE X (.Call (.Attribute (.Name x p) m apos) [] [] pos) (lowE T Wx (wCall sp dws wNil)) := by
  obtain ⟨Ca, mc, pa, rest, f, fd, ps, ds, dvs, hm, cr, fc, rc, kp, hb, hv, hd, Fo⟩ := F.ex
  refine ⟨fun pins s σ H Q I h => ?_⟩
  refine PySem.W.methodCall_KW (pl := pl) (ld_glob I hg hm ?_ hdb) ht
  obtain ⟨mF, hF⟩ := I.fr
  refine PySem.W.method_cls I.kIn cr.ga (PySem.W.cls_bind I.kIn cr.rd fc (wpAny_call (PySem.W.sm_get (s := { s with toks := s.toks + 1 }) I.kIn rc (PySem.W.handed_on rfl ?_))))
  have I1 := I.tok (s.toks + 1)
  obtain ⟨G, σ2, M, Q2, E2, sr, rs, q2, pq, px⟩ := h
  exact PySem.W.callWith_K0 (first := []) I1.kIn kp (run_f (us := []) (vs := []) C Fo hb hv I1 .nil (low_own (ws := []) sr .nil hd q2 pq px))
/-! ### isinstance(x, C), C an own class -/
/-- what isinstance asks of an instance's class -/
structure ClI (K : PySem.W.Frag) (C : Addr) : Prop where
  cl : Cls K C
  ha : PySem.W.findIn K (.ref C) "__class__" = some (some (.builtin "object.__class__"))
  hn : PySem.W.specialIn K (.builtin "object.__class__") "__get__" = some (some (.builtin "getset_descriptor.__get__"))
  tk : PySem.W.takesIn K (.builtin "object.__class__") = some true
  mo : PySem.W.mroIn K C (.type "object") = some true
inductive Kd where | ty (n : String) | cl (c : Nat)
  deriving DecidableEq
def Kd.v (T : Tab) : Kd → Value
  | .ty n => .type n
  | .cl c => .ref (T.cls c)
def kdW (M : Mp) (w : W) : Option Kd := match insW M w with
  | some (c, _) => some (.cl c)
  | none => (tyW M w).map .ty
/-- the class of the name x; the kinds that are asked of, with the answers -/
structure Isc where
  x : Str
  c : Nat
  ks : List (Kd × Bool)
structure KiP (K : PySem.W.Frag) (mg : Str → Option Value) (T : Tab) (q : Isc) : Prop where
  mg : mg q.x = some (.ref (T.cls q.c))
  ks : ∀ p ∈ q.ks, PySem.W.kitOne K (p.1.v T) (.ref (T.cls q.c)) = some p.2
  cl : ∀ p ∈ q.ks, ∀ c, p.1 = .cl c → ClI K (T.cls c)
def wIsc (q : Isc) (te : TE2) : TE2 := fun σ M Q E => te σ M (fun w M1 => ∃ kd b, kdW M1 w = some kd ∧ q.ks.lookup kd = some b ∧ Q (.d (.bool b)) M1) E
theorem lookup_mem {α β : Type} [BEq α] [LawfulBEq α] {a : α} {b : β} : ∀ {l : List (α × β)}, l.lookup a = some b → (a, b) ∈ l
  | [], h => by cases h
  | (c, d) :: r, h => by
    rw [List.lookup_cons] at h
    cases e : a == c with
    | true => rw [e] at h; cases h; cases (beq_iff_eq.mp e); exact List.mem_cons_self
    | false => rw [e] at h; exact List.mem_cons_of_mem _ (lookup_mem h)
theorem e_isc {q : Isc} {te : TE2} {a : Expr} {p p2 pos : Pos} (hK : X.K = T.K) (F : KiP X.K X.mg T q) (hg : Gl X "isinstance") (hm : X.mg "isinstance" = none) (hg2 : Gl X q.x) (hd : (q.x == ("__debug__" : Str)) = false) (ha : PE X a (lowE T Wx te))
    (hs : starEach [a, .Name q.x p2] X.env = (false, eval a X.env) :: starEach [.Name q.x p2] X.env) : PE X (.Call (.Name "isinstance" p) [a, .Name q.x p2] [] pos) (lowE T Wx (wIsc q te)) := by
  refine (pe_callB (call_isi (X := X)) hg hm PyProof.Rows.boot_isinstance (pa_cons ha (pa_cons (pe_glob (v := .ref (T.cls q.c)) hg2 F.mg rfl hd) pa_nil) hs) (by decide) (by decide) hs rfl).imp fun σ H Q h => ?_
  obtain ⟨G, σ2, M, Q2, E2, sr, rs, q2, pq, px⟩ := h
  refine ⟨G, σ2, M, _, E2, sr, rs, q2, fun w M1 G1 H1 v m1 sr1 rw1 q3 => ?_, px⟩
  obtain ⟨kd, b, e1, e2, q3⟩ := q3
  have mem := lookup_mem e2
  have ans := F.ks _ mem
  refine ⟨v, .ref (T.cls q.c), kd.v T, .ref (T.cls q.c), b, rfl, .own _, ?_, ans, q_bool sr1 q3 (pq.mono m1)⟩
  unfold kdW at e1
  split at e1
  · rename_i c fs e
    cases e1
    obtain ⟨x, dx, vs, rfl, h1, _⟩ := insW_low sr1 rw1 e
    have g := F.cl _ mem c rfl
    exact .base (.ins h1 g.cl g.ha g.hn g.tk g.mo)
  · cases e : tyW M1 w with
    | none => rw [e] at e1; cases e1
    | some n =>
      rw [e] at e1
      cases e1
      rw [hK]
      exact tyW_low sr1 rw1 e
/-! ### a new instance becomes data -/
def wFrzO (te : TE2) : TE2 := fun σ M Q E => te σ M (fun w M1 => ∃ a c dx fs ds, w = .c a ∧ M1 a = some (.ins c dx fs) ∧ unK fs = some ds ∧ Q (.d (.obj c ds)) (del M1 a)) E
theorem RpF.of {G : Hp} : ∀ {fs : List (Str × W)} {ds : List (Str × D)} {vs : List (Str × V)}, unK fs = some ds → RKs T G fs vs → RpF T G ds vs
  | [], _, _, e, .nil => by cases e; rfl
  | (f, .d x) :: r, ds, _, e, .cons (b := b) h t => by
    cases q : unK r with
    | none => unfold unK at e; rw [q] at e; cases e
    | some l =>
      unfold unK at e; rw [q] at e; cases e
      obtain ⟨g, v⟩ := b
      obtain ⟨e1, r1⟩ := h
      cases (show f = g from e1)
      exact ⟨v, _, rfl, r1, RpF.of q t⟩
  | (_, .c _) :: _, _, _, e, _ => by cases e
  | (_, .r _) :: _, _, _, e, _ => by cases e
theorem e_frzO {te : TE2} {e : Expr} (h : PE X e (lowE T Wx te)) : PE X e (lowE T Wx (wFrzO te)) := h.imp fun σ H Q h => by
  obtain ⟨G, σ2, M, Q2, E2, sr, rs, q2, pq, px⟩ := h
  refine ⟨G, σ2, M, _, E2, sr, rs, q2, fun w M1 G1 H1 v m1 sr1 rw1 q3 => ?_, px⟩
  obtain ⟨a, c, dx, fs, ds, rfl, e1, e2, q3⟩ := q3
  cases (show v = .ref a from rw1)
  obtain ⟨g0, o, h1, vs, rfl, rr⟩ := sr1.ce _ _ e1
  have mo := Mo.of (same_new (o := HO.ins (T.cls c) dx vs) g0)
  exact pq (.d (.obj c ds)) _ _ H1 (.ref a) (m1.trans mo) (sr1.freeze e1 h1) ⟨a, dx, vs, rfl, upd_same, (RpF.of e2 rr).mono mo⟩ q3
end
end Z
set_option maxHeartbeats 4000000
/-! F1: comparisons, in, subscripts, slices, len as functions -/
namespace Z
open PySem PySem.Spec PyProof.Rows L2
section
variable {X : Cx} {T : Tab} {Wx : WX} {k : Nat} {N : List Str} {mg : Str → Option Value} {sc : Scope}
/-- an operator's reading by a function -/
theorem _root_.Z.Op2.imp {f : Value → Value → Sem Value} {r r' : R22} (h : Op2 X T Wx f r) (i : ∀ x y M Q E, r' x y M Q E → r x y M Q E) : Op2 X T Wx f r' :=
  fun pins s σ H x y v u Q I rx ry ⟨G, wx, wy, M, Q2, E2, sr, r1, r2, q, pq, px⟩ => h pins s σ H x y v u Q I rx ry ⟨G, wx, wy, M, Q2, E2, sr, r1, r2, i _ _ _ _ _ q, pq, px⟩
/-! ### == -/
def fEq (M : Mp) (x y : W) : Option Bool := match x, y with
  | .d (.str a), .d (.str b) => some (decide (a = b))
  | .d (.int a), .d (.int b) => some (decide (a = b))
  | x, y => (toPyW M x).bind fun p => (toPyW M y).bind fun q => if (SeqAt.shaped p && SeqAt.shaped q) = true then some (PyData.eqv p q) else none
def oEqF (neg : Bool) : R22 := fun x y M Q _ => ∃ b, fEq M x y = some b ∧ Q (.d (.bool (neg ^^ b))) M
theorem xor_ite (neg b : Bool) : (neg ^^ b) = if neg = true then !b else b := by cases neg <;> cases b <;> rfl
theorem eqF_old {neg : Bool} {x y : W} {M : Mp} {Q : VK2} {E : XK2} (h : oEqF neg x y M Q E) : oEq neg x y M Q E := by
  obtain ⟨b, e, q⟩ := h
  rw [xor_ite] at q
  unfold fEq at e
  split at e
  · rename_i a c
    cases e
    refine .inr ⟨a, c, rfl, rfl, ?_⟩
    have : (a == c) = decide (a = c) := by
      by_cases h : a = c
      · subst h; simp
      · simp [h]
    rw [this]; exact q
  · rename_i a c
    cases e
    refine .inl ⟨_, _, rfl, rfl, rfl, rfl, ?_⟩
    have : PyData.eqv (.int a) (.int c) = decide (a = c) := by
      show (a == c) = _
      by_cases h : a = c
      · subst h; simp
      · simp [h]
    rw [this]; exact q
  · cases e1 : toPyW M x with
    | none => rw [e1] at e; cases e
    | some p =>
      cases e2 : toPyW M y with
      | none => rw [e1, e2] at e; cases e
      | some p' =>
        rw [e1, e2] at e
        simp only [Option.bind_some] at e
        split at e
        · rename_i hs
          rw [Bool.and_eq_true] at hs
          cases e
          exact .inl ⟨p, p', e1, e2, hs.1, hs.2, q⟩
        · cases e
theorem op2_eqF (C : Ctx T k N mg X Wx sc) : Op2 X T Wx (compareOp .Eq) (oEqF false) := (op2_eq C).imp fun _ _ _ _ _ h => eqF_old h
theorem op2_neF (C : Ctx T k N mg X Wx sc) : Op2 X T Wx (compareOp .NotEq) (oEqF true) := (op2_ne C).imp fun _ _ _ _ _ h => eqF_old h
/-! ### in -/
def chr1 (s : Str) : Option Nat := match s.cps.toList with
  | [c] => some c
  | _ => none
theorem chr1_eq {s : Str} {c : Nat} (h : chr1 s = some c) : s = ⟨#[c]⟩ := by
  obtain ⟨⟨l⟩⟩ := s
  unfold chr1 at h
  match l, h with
  | [a], h => cases h; rfl
def seqS (M : Mp) (w : W) : Option (List Str) := (seqW M w).bind strsL
def fIn (M : Mp) (x y : W) : Option Bool := match x with
  | .d (.str s) => (match seqS M y with
    | some ss => some (decide (s ∈ ss))
    | none => (strD y).bind fun z => (chr1 s).map fun c => decide (c ∈ z.cps.toList))
  | .d x' => (seqW M y).bind fun ws => (flL ws).bind fun vs => (flD x').map fun v => inV v vs
  | _ => none
def oInF (neg : Bool) : R22 := fun x y M Q _ => ∃ b, fIn M x y = some b ∧ Q (.d (.bool (neg ^^ b))) M
theorem strsL_eq : ∀ {ws : List W} {ss : List Str}, strsL ws = some ss → ws = ss.map fun s => W.d (.str s)
  | [], ss, h => by cases h; rfl
  | .d (.str s) :: r, ss, h => by
    cases e : strsL r with
    | none => unfold strsL at h; rw [e] at h; cases h
    | some l => unfold strsL at h; rw [e] at h; cases h; rw [strsL_eq e]; rfl
  | .d .none :: _, ss, h => by cases h
  | .d (.bool _) :: _, ss, h => by cases h
  | .d (.int _) :: _, ss, h => by cases h
  | .d (.lst _) :: _, ss, h => by cases h
  | .d (.tup _) :: _, ss, h => by cases h
  | .d (.dic _) :: _, ss, h => by cases h
  | .d (.dit _) :: _, ss, h => by cases h
  | .d (.obj _ _) :: _, ss, h => by cases h
  | .d (.ref _) :: _, ss, h => by cases h
  | .c _ :: _, ss, h => by cases h
  | .r _ :: _, ss, h => by cases h
theorem flL_strs (ss : List Str) : flL (ss.map fun s => W.d (.str s)) = some (ss.map V.str) := by
  induction ss with
  | nil => rfl
  | cons a r ih => show (flD (.str a)).bind _ = _; rw [show flD (.str a) = some (.str a) from rfl, Option.bind_some]; show (flL (r.map fun s => W.d (.str s))).map _ = _; rw [ih]; rfl
theorem inV_strs (s : Str) (ss : List Str) : inV (.str s) (ss.map V.str) = decide (s ∈ ss) := by
  induction ss with
  | nil => simp [inV]
  | cons a r ih =>
    unfold inV at ih ⊢
    simp only [List.map_cons, List.any_cons, ih]
    by_cases h : s = a
    · subst h; simp [eqV]
    · have h' : ¬ a = s := fun e => h e.symm
      simp [eqV, List.mem_cons, h, h']
theorem inF_old {neg : Bool} {x y : W} {M : Mp} {Q : VK2} {E : XK2} (h : oInF neg x y M Q E) : oIn neg x y M Q E := by
  obtain ⟨b, e, q⟩ := h
  rw [xor_ite] at q
  unfold fIn at e
  split at e
  · rename_i s
    split at e
    · rename_i ss hs
      cases e
      unfold seqS at hs
      cases e1 : seqW M y with
      | none => rw [e1] at hs; cases hs
      | some ws =>
        rw [e1, Option.bind_some] at hs
        have e2 := strsL_eq hs
        subst e2
        refine .inl ⟨_, _, .str s, .str s, e1, flL_strs ss, rfl, rfl, ?_⟩
        rw [inV_strs]; exact q
    · cases e1 : strD y with
      | none => rw [e1] at e; cases e
      | some z =>
        cases e2 : chr1 s with
        | none => rw [e1, e2] at e; cases e
        | some c =>
          rw [e1, e2] at e
          cases e
          exact .inr ⟨z, s, c, e1, rfl, chr1_eq e2, q⟩
  · rename_i x' _
    cases e1 : seqW M y with
    | none => rw [e1] at e; cases e
    | some ws =>
      rw [e1, Option.bind_some] at e
      cases e2 : flL ws with
      | none => rw [e2] at e; cases e
      | some vs =>
        rw [e2, Option.bind_some] at e
        cases e3 : flD x' with
        | none => rw [e3] at e; cases e
        | some v =>
          rw [e3] at e
          cases e
          exact .inl ⟨ws, vs, x', v, e1, e2, rfl, e3, q⟩
  · cases e
theorem op2_inF (hK : X.K = T.K) : Op2 X T Wx (compareOp .In) (oInF false) := (op2_in hK).imp fun _ _ _ _ _ h => inF_old h
theorem op2_notinF (hK : X.K = T.K) : Op2 X T Wx (compareOp .NotIn) (oInF true) := (op2_notin hK).imp fun _ _ _ _ _ h => inF_old h
/-! ### subscripts, slices, len -/
def fIx (M : Mp) (x y : W) : Option W := match y with
  | .d (.int i) => (match seqW M x with
    | some ws => atI ws i
    | none => (strD x).bind fun z => (ixStr z i).map fun t => .d (.str t))
  | _ => none
def oIxF : R22 := fun x y M Q _ => ∃ w, fIx M x y = some w ∧ Q w M
theorem ixF_old {x y : W} {M : Mp} {Q : VK2} {E : XK2} (h : oIxF x y M Q E) : oIx x y M Q E := by
  obtain ⟨w, e, q⟩ := h
  unfold fIx at e
  split at e
  · rename_i i
    refine ⟨i, rfl, ?_⟩
    split at e
    · rename_i ws e1
      exact .inl ⟨ws, w, e1, e, q⟩
    · cases e1 : strD x with
      | none => rw [e1] at e; cases e
      | some z =>
        cases e2 : ixStr z i with
        | none => rw [e1, Option.bind_some, e2] at e; cases e
        | some t => rw [e1, Option.bind_some, e2] at e; cases e; exact .inr ⟨z, t, rfl, e2, q⟩
  · cases e
theorem ixR2F (hK : X.K = T.K) {a b : Expr} {ta tb : TE2} {pos : Pos} (ha : PE X a (lowE T Wx ta)) (hb : PE X b (lowE T Wx tb)) (hs : PlainIx b) :
    PE X (.Subscript a b pos) (lowE T Wx (wBin oIxF ta tb)) := (pe_ix ix_seq ha hb hs).imp fun σ H Q h => by
  obtain ⟨G, σ2, M, Q2, E2, sr, rs, q2, pq, px⟩ := h
  refine ⟨G, σ2, M, _, E2, sr, rs, q2, fun wx M1 G1 H1 x m1 sr1 rx q3 => ?_, px⟩
  refine ⟨G1, σ2, M1, _, E2, sr1, rs.mono m1, q3, fun wy M2 G2 H2 y m2 sr2 ry q4 => ?_, px.mono m1⟩
  replace q4 : oIx wx wy M2 Q2 E2 := ixF_old q4
  obtain ⟨i, rfl, q4⟩ := q4
  rcases q4 with ⟨ws, w, e1, e2, q4⟩ | ⟨z, t, e1, e2, q4⟩
  · obtain ⟨p, vs, e, hs, rr⟩ := seqW_low sr2 (rx.mono m2) e1
    obtain ⟨v, e3, r3⟩ := atI_low rr e2
    have q : Q v H2 := pq w M2 G2 H2 v (m1.trans m2) sr2 r3 q4
    rcases hs with hs | hs
    · exact .inl ⟨p, vs, i, v, e, ry, by rw [hK]; exact hs, e3, q⟩
    · exact .inr (.inl ⟨p, vs, i, v, e, ry, by rw [hK]; exact hs, e3, q⟩)
  · cases strD_eq e1
    have hz := (show x = .str z ∧ z.length ≤ sizeLine from rx)
    cases e3 : atI z.cps.toList i with
    | none => unfold ixStr at e2; rw [e3] at e2; cases e2
    | some c =>
      unfold ixStr at e2
      rw [e3] at e2
      cases e2
      exact .inr (.inr ⟨z, i, c, hz.1, ry, hz.2, e3, pq _ M2 G2 H2 _ (m1.trans m2) sr2 (show RW T G2 (.d (.str ⟨#[c]⟩)) (.str ⟨#[c]⟩) from ⟨rfl, by rw [sizeLine_eq]; show 1 ≤ 16777216; decide⟩) q4⟩)
def fLen (M : Mp) (w : W) : Option Int := match seqW M w with
  | some us => some us.length
  | none => (strD w).map fun z => (z.length : Int)
def rLenF : RC2 := fun ws M Q => ∃ w n, ws = [w] ∧ fLen M w = some n ∧ Q (.d (.int n)) M
theorem lenF_old {ws : List W} {M : Mp} {Q : VK2} (h : rLenF ws M Q) : rLen ws M Q := by
  obtain ⟨w, n, rfl, e, q⟩ := h
  refine ⟨w, rfl, ?_⟩
  unfold fLen at e
  split at e
  · rename_i us e1; cases e; exact .inl ⟨us, e1, q⟩
  · cases e1 : strD w with
    | none => rw [e1] at e; cases e
    | some z => rw [e1] at e; cases e; exact .inr ⟨z, rfl, q⟩
theorem lowB_imp {r r' : RC2} (i : ∀ ws M Q, r' ws M Q → r ws M Q) {f : Value} (h : CallR X f (lowB T r)) : CallR X f (lowB T r') := h.imp fun vs H Q ⟨G, ws, M, Q2, sr, rw, q, pq⟩ => ⟨G, ws, M, Q2, sr, rw, i _ _ _ q, pq⟩
theorem b_lenF (hK : X.K = T.K) : CallR X (.builtin "len") (lowB T rLenF) := lowB_imp (fun _ _ _ h => lenF_old h) (b_len hK)
end
end Z
set_option maxHeartbeats 4000000
/-! X1: sets of texts made of a list, sorted -/
namespace Z
open PySem PySem.Spec PyProof.Rows L2
abbrev emptySet (w : World) : Obj := { cls := .type "set", dict := none, data := .set #[] 0 (.fresh 0 0 (!w.params.followText "set-order")) }
/-- the text of an entry -/
def txt (e : Int × Value) : Str := match e.2 with
  | .str x _ => x
  | _ => Str.empty
def TE (P : Program) (w : World) (e : Int × Value) : Prop := ∃ x tk, e.2 = Value.str x tk ∧ e.1 = (PySem.strKind P w).hash x
/-- the set at a has the texts of L -/
def TSet (P : Program) (w : World) (h : Heap) (a : Addr) (L : List Str) : Prop :=
  L.Nodup ∧ ∃ o es ep t, h.get? a = some o ∧ o.ExactSet ∧ o.data = .set es ep t ∧ (∀ e ∈ es.toList, TE P w e) ∧ (es.toList.map txt).Perm L ∧
    (es.size < scanBound ∧ t.fits es.size = true) ∧ Ris t.place.toList ∧ (w.params.followText "set-order" = true ∨ t.led = true)
section
variable {P : Program} {w : World} {A : Around} {E : Value → Shared → Prop} {s : Shared} {a : Addr} {L : List Str}
theorem TSet.keep {h h' : Heap} (R : TSet P w h a L) (k : ∀ o, h.get? a = some o → h'.get? a = some o) : TSet P w h' a L := by
  obtain ⟨nd, o, es, ep, t, ho, r⟩ := R
  exact ⟨nd, o, es, ep, t, k o ho, r⟩
theorem te_elems {l : List (Int × Value)} (g : ∀ e ∈ l, TE P w e) : ElemsOf (PySem.strKind P w) l := fun e he => by
  obtain ⟨x, tk, e1, e2⟩ := g e he
  refine ⟨⟨x, ?_, e2⟩, ?_⟩
  · rw [e1]; exact strKind_is _ _ _ _
  · rw [e1]; rfl
theorem te_is {e : Int × Value} (g : TE P w e) (x : Str) : (PySem.strKind P w).is x e.2 = true ↔ txt e = x := by
  obtain ⟨y, tk, e1, _⟩ := g
  unfold txt
  rw [e1]
  constructor
  · intro q
    have z : (PySem.strKind P w).is y (.str y tk) = true := strKind_is _ _ _ _
    exact (PySem.strKind P w).inj _ _ _ z q
  · intro q
    subst q
    exact strKind_is _ _ _ _
theorem te_mem {l : List (Int × Value)} (g : ∀ e ∈ l, TE P w e) (x : Str) : x ∈ l.map txt ↔ ∃ e ∈ l, (PySem.strKind P w).is x e.2 = true := by
  constructor
  · intro h
    obtain ⟨e, he, q⟩ := List.mem_map.mp h
    exact ⟨e, he, (te_is (g e he) x).mpr q⟩
  · rintro ⟨e, he, q⟩
    exact List.mem_map.mpr ⟨e, he, (te_is (g e he) x).mp q⟩
/-- how the table is stored, behind a new entry -/
theorem text_store {tell : Bool → Sem Unit} (htell : ∀ (b : Bool) (u : Shared) (Z : Unit → Shared → Prop), Z () u → wpAny (model P w) A (tell b) Z E u)
    {o : Obj} {es0 es : Array (Int × Value)} {ep : Nat} {t0 t : SetTable} (ho : s.heap.get? a = some o) (hx : o.ExactSet) (hd : o.data = .set es0 ep t0)
    (good : ∀ e ∈ es.toList, TE P w e) (pm : (es.toList.map txt).Perm L) (nd : L.Nodup) (room : es.size < scanBound) (fit : t.fits es.size = true) (ris : Ris t.place.toList) (led : w.params.followText "set-order" = true ∨ t.led = true) {dum : Bool} {R : Option Bool → Shared → Prop}
    (fin : ∀ h', Heap.SameBut a s.heap h' → TSet P w h' a L → R (some true) { s with heap := h' }) :
    wpAny (model P w) A (do
        storeSet a es t
        if (!dum && t.tooFull) = true then do
            tell (relayAll t es (SetTable.grown es.size)).2.2
            storeSet a (relayAll t es (SetTable.grown es.size)).1 (relayAll t es (SetTable.grown es.size)).2.1
            pure (some true)
          else pure (some true)) R E s := by
  have same1 : Heap.SameBut a s.heap (s.heap.update a (Obj.putSet es t)) := Heap.SameBut.update _ _ _
  have at1 := L2.store_at (es' := es) (t' := t) ho hd
  refine wpAny_bind (wpAny_storeSet_of ho hd ?_ (fits_of_scanBound room))
  by_cases full : (!dum && t.tooFull) = true
  · rw [if_pos full]
    have p2 := relayAll_perm t es (SetTable.grown es.size)
    have f2 := relayAll_fits t es (SetTable.grown es.size)
    have r2 := relayAll_ris t es (SetTable.grown es.size)
    have l2 := relayAll_led t es (SetTable.grown es.size)
    generalize relayAll t es (SetTable.grown es.size) = z at p2 f2 r2 l2 ⊢
    obtain ⟨es2, t2, gv⟩ := z
    simp only at p2 f2 r2 l2 ⊢
    have size2 : es2.size = es.size := by
      have := p2.length_eq
      simpa using this
    have room2 : es2.size < scanBound := by omega
    refine wpAny_bind (htell _ _ _ (wpAny_bind (wpAny_storeSet_of at1 rfl ?_ (fits_of_scanBound room2))))
    have at2 := L2.store_at (es' := es2) (t' := t2) at1 rfl
    refine wpAny_pure (fin _ (same1.trans (Heap.SameBut.update _ _ _)) ⟨nd, _, es2, _, t2, at2, hx, rfl, fun e he => good e (p2.mem_iff.mp he), (p2.map txt).trans pm, ⟨room2, f2⟩, r2, ?_⟩)
    rcases led with q | q
    · exact .inl q
    · exact .inr (l2.trans q)
  · rw [if_neg full]
    exact wpAny_pure (fin _ same1 ⟨nd, _, es, _, t, at1, hx, rfl, good, pm, ⟨room, fit⟩, ris, led⟩)
theorem text_add {k : Str} {tk : Tok} {Q : Bool → Shared → Prop} (R : TSet P w s.heap a L) (room : L.length + 1 < scanBound)
    (fin : ∀ h' L' b, Heap.SameBut a s.heap h' → TSet P w h' a L' → (∀ x, x ∈ L' ↔ x = k ∨ x ∈ L) → L'.length ≤ L.length + 1 → Q b { s with heap := h' }) :
    wpAny (model P w) A (setAddHashed a (.str k tk) ((PySem.strKind P w).hash k)) Q E s := by
  obtain ⟨nd, o, es, ep, t, ho, hx, hd, good, pm, ⟨bnd, fit⟩, ris, led⟩ := R
  have size : es.size = L.length := by
    have := pm.length_eq
    simpa using this
  have isk : (PySem.strKind P w).is k (.str k tk) = true := strKind_is _ _ _ _
  have elems := te_elems good
  have scan : (Value.str k tk).scannable = true := rfl
  unfold setAddHashed setAddHashedIn
  refine wpAny_holding (wpAny_bind (wpAny_setState_of ho hd fit ?_))
  dsimp only
  rw [byScan_of scan bnd elems]
  simp only [↓reduceIte]
  unfold setAddByScan
  refine wpAny_bind (wpAny_bind (wpAny_rule (wpAny_bind (wpAny_setScan_of isk ho hd fit elems ?_))))
  cases hf : List.findIdx? (fun e => (PySem.strKind P w).is k e.2) es.toList with
  | some j =>
    obtain ⟨hj, pj, _⟩ := List.findIdx?_eq_some_iff_getElem.mp hf
    have inL : k ∈ L := pm.mem_iff.mp ((te_mem good k).mpr ⟨_, List.getElem_mem hj, pj⟩)
    refine wpAny_pure (wpAny_pure ?_)
    refine fin s.heap L _ (Heap.SameBut.refl a s.heap) ⟨nd, o, es, ep, t, ho, hx, hd, good, pm, ⟨bnd, fit⟩, ris, led⟩ (fun x => ⟨.inr, ?_⟩) (Nat.le_succ _)
    rintro (rfl | q)
    · exact inL
    · exact q
  | none =>
    have notIn : k ∉ L := fun q => by
      obtain ⟨e, he, z⟩ := (te_mem good k).mp (pm.mem_iff.mpr q)
      have := List.findIdx?_eq_none_iff.mp hf e he
      rw [z] at this
      cases this
    have rules : ∀ (b : Bool) (u : Shared) (Z : Unit → Shared → Prop), Z () u → wpAny (model P w) A (match b with | true => rule "set.scan.the-table-gave-way" | false => pure ()) Z E u := fun b u Z q => by
      cases b
      · exact wpAny_pure q
      · exact wpAny_rule q
    have p1 := layNew_perm t es ((PySem.strKind P w).hash k) (.str k tk)
    have f1 := layNew_fits t es ((PySem.strKind P w).hash k) (.str k tk)
    have r1 := layNew_ris t es ((PySem.strKind P w).hash k) (.str k tk) ris
    have l1 := layNew_led t es ((PySem.strKind P w).hash k) (.str k tk)
    dsimp only
    generalize layNew t es ((PySem.strKind P w).hash k) (.str k tk) = z at p1 f1 r1 l1 ⊢
    obtain ⟨es1, t1, dum, gv⟩ := z
    dsimp only at p1 f1 r1 l1 ⊢
    rw [Array.toList_push] at p1
    have pc := p1.trans (List.perm_append_singleton _ _)
    have good1 : ∀ e ∈ es1.toList, TE P w e := fun e he => by
      rcases List.mem_cons.mp (pc.mem_iff.mp he) with rfl | q
      · exact ⟨k, tk, rfl, rfl⟩
      · exact good e q
    have pm1 : (es1.toList.map txt).Perm (k :: L) := (pc.map txt).trans (pm.cons k)
    have nd1 : (k :: L).Nodup := List.nodup_cons.mpr ⟨notIn, nd⟩
    have bnd1 : es1.size < scanBound := by
      have := pm1.length_eq
      simp at this
      omega
    have led1 : w.params.followText "set-order" = true ∨ t1.led = true := led.imp id fun q => l1.trans q
    have done : ∀ h', Heap.SameBut a s.heap h' → TSet P w h' a (k :: L) → Q true { s with heap := h' } := fun h' sb r => fin h' _ _ sb r (fun x => List.mem_cons) (by simp)
    refine wpAny_bind (rules _ _ _ ?_)
    split
    · refine wpAny_bind ?_
      rw [hashByValue_scannable 8 scan]
      refine wpAny_pure (text_store rules ho hx hd good1 pm1 nd1 bnd1 ?_ ?_ ?_ fun h' sb r => wpAny_pure (done h' sb r))
      · first | exact f1 | (split <;> first | exact f1 | exact SetTable.fits_plain_off f1)
      · first | exact r1 | (split <;> exact r1)
      · first | exact led1 | (split <;> exact led1)
    · refine wpAny_bind (wpAny_pure ?_)
      simp only [↓reduceIte]
      exact text_store rules ho hx hd good1 pm1 nd1 bnd1 f1 r1 led1 fun h' sb r => wpAny_pure (done h' sb r)
end
/-- the first i texts are in the set -/
def TGot (P : Program) (w : World) (h : Heap) (a : Addr) (xs : List Str) (i : Nat) : Prop :=
  ∃ L, TSet P w h a L ∧ (∀ x, x ∈ L ↔ x ∈ xs.take i) ∧ L.length ≤ i
section
variable {P : Program} {w : World} {A : Around} {E : Value → Shared → Prop} {s : Shared}
theorem ne1 {a b : Nat} (h : a < b) : a ≠ b + 1 := by omega
theorem ne2 {a b c : Nat} (h : b < a) (e : c = a + 1) : a ∉ [c, b] := by
  simp only [List.mem_cons, List.not_mem_nil, or_false, not_or]
  omega
theorem ne3 {a b c : Nat} (h : b < a) (e : c = a + 1) : b ∉ [a, c] := by
  simp only [List.mem_cons, List.not_mem_nil, or_false, not_or]
  omega
theorem strs_get : ∀ {l : List Value} {xs : List Str}, StrsAre l xs → ∀ (i : Nat) (v : Value), l[i]? = some v → ∃ x t, xs[i]? = some x ∧ v = .str x t
  | _, _, .nil, i, v, h => by simp at h
  | _, _, .cons x t r, 0, v, h => ⟨x, t, rfl, (Option.some.inj h).symm⟩
  | _, _, .cons x t r, i + 1, v, h => strs_get r i v h
theorem tset_fresh {h : Heap} {a : Addr} (e : h.get? a = some (emptySet w)) : TSet P w h a [] := by
  refine ⟨List.nodup_nil, emptySet w, #[], 0, _, e, ⟨rfl, rfl, rfl⟩, rfl, fun e he => ?_, List.Perm.nil, ⟨?_, ?_⟩, ?_, ?_⟩
  · cases he
  · show 0 < 4096
    decide
  · cases hq : w.params.followText "set-order" <;> rfl
  · cases hq : w.params.followText "set-order" <;> exact List.Pairwise.nil
  · cases hq : w.params.followText "set-order"
    · exact .inr rfl
    · exact .inl rfl
theorem text_loop {R : Result → Shared → Prop} {it : Addr} {fp wr : List Addr} {G : Array GenState → Array GenState → Prop} {n : Nat} {Pv : Nat → Value → Prop} {St : Nat → Shared → Prop}
    (W : WalksS P w A.in1 it fp wr G n Pv St) (S : Addr) (out : S ∉ fp) (xs : List Str) (hn : n = xs.length) (room : n + 1 < scanBound)
    (val : ∀ i v, Pv i v → ∃ x t, xs[i]? = some x ∧ v = .str x t) :
    ∀ (k i : Nat) (s : Shared), n - i = k → i ≤ n → St i s → TGot P w s.heap S xs i →
      (∀ s', Moved (S :: wr) G s s' → TGot P w s'.heap S xs n → R (.ok (.ret .none)) s') →
      codeAny (model P w) A (.builtin "set.update.loop" ⟨[.ref S, .ref it], []⟩) R s := by
  have outW : S ∉ wr := fun z => out (W.sub _ z)
  have more : ∀ b ∈ wr, b ∈ S :: wr := fun b hb => .tail _ hb
  intro k
  induction k with
  | zero =>
    intro i s dist le st ⟨L, c1, c2, c3⟩ fin
    obtain rfl : i = n := by omega
    refine codeAny_builtin F.entry_set_update_loop ?_
    rw [Around.under_plainId F.plain_set_update_loop _]
    refine wpAny_bind (W.done s _ _ st fun s' mv => wpAny_pure (fin s' (mv.mono more) ⟨L, c1.keep fun o e => mv.heap S o outW e, c2, c3⟩))
  | succ k ih =>
    intro i s dist le st ⟨L, c1, c2, c3⟩ fin
    have lt : i < n := by omega
    refine codeAny_builtin F.entry_set_update_loop ?_
    rw [Around.under_plainId F.plain_set_update_loop _]
    refine wpAny_bind (W.item i s _ _ lt st fun v s' pv st' mv => ?_)
    obtain ⟨x, t, hx, rfl⟩ := val i v pv
    show wpAny _ A.in1 (holding [Value.str x t] (setAdd S (.str x t)) >>= _) _ _ s'
    refine wpAny_bind (wpAny_holding ?_)
    unfold setAdd
    refine wpAny_holding ?_
    refine wpAny_bind ((PySem.strKind P w).pyHash (k := x) (strKind_is _ _ _ _) ?_)
    refine text_add (s := { s' with toks := s'.toks + 1 }) (c1.keep fun o e => mv.heap S o outW e) (by omega) fun h' L' b sb d1 d2 d3 => ?_
    have nx : xs.take (i + 1) = xs.take i ++ [x] := by
      rw [List.take_add_one, hx]
      rfl
    refine wpAny_pure ⟨plainId_quiet F.plain_set_update_loop _, ih (i + 1) _ (by omega) lt
      (W.frame _ s' _ _ st' (Nat.le_add_right _ _) fun b hb o e => ?_) ⟨L', d1, fun y => ?_, by omega⟩ fun s2 mv2 g => fin s2 (Moved.trans W.gtrans ((mv.mono more).then_heap (Nat.le_add_right _ _) fun b o hb e => ?_) mv2) g⟩
    · exact (sb.2 b fun z => out (z ▸ hb)).trans e
    · rw [d2, c2, nx, List.mem_append, List.mem_singleton]
      exact Or.comm
    · exact (sb.2 b fun z => hb (z ▸ .head _)).trans e
/-- set(xs), xs a list of texts -/
theorem text_set {l : Addr} {items : Array Value} (xs : List Str) {Q : Value → Shared → Prop} (hh : A.handled = none) (hl : s.heap.IsList l items) (hit : StrsAre items.toList xs) (room : xs.length + 1 < scanBound)
    (fin : ∀ (h' : Heap) (tk : Nat) L, TSet P w h' s.heap.objs.size L → (∀ x, x ∈ L ↔ x ∈ xs) → L.length ≤ xs.length → (∀ b o, s.heap.get? b = some o → h'.get? b = some o) → Q (.ref s.heap.objs.size) { s with heap := h', toks := tk }) :
    wpAny (model P w) A (call (.type "set") [.ref l]) Q E s := by
  have sz : items.size = xs.length := by
    have q := hit.length
    rw [Array.length_toList] at q
    exact q
  obtain ⟨c, tl, mro⟩ := F.called_set.mro
  have made := F.called_set.made
  have sub := F.called_set.sub
  refine wpAny_call (codeAny_of_tree ?_)
  show wpAny _ _ (callAny (.type "set") _) _ _ _
  refine wpAny_pure ⟨Code.quiet_builtin _ (by decide +kernel), codeAny_builtin F.entry_type_call ?_⟩
  rw [Around.under_plain (weight_type_call_type "set" [.ref l] []) rfl]
  have n1 := F.called_set.notType
  have n2 := F.called_set.canCreate
  have n3 := F.typeCall_set_1 (.ref l)
  repeat (any_goals (first | assumption | wp_step))
  refine codeAny_mono (code_set_led1 (.ref l) (E := E) (Q₁ := fun obj s₁ => obj = .ref s.heap.objs.size ∧ s₁ = { s with heap := s.heap.push (emptySet w) }) ⟨rfl, rfl⟩) fun r s₁ hr => ?_
  cases r with
  | error e => exact hr
  | ok fl =>
    cases fl with
    | ret obj =>
      obtain ⟨rfl, rfl⟩ := hr
      have atS : (s.heap.push (emptySet w)).get? s.heap.objs.size = some (emptySet w) := Heap.get?_push_size _ rfl
      have tyS : Shared.TypeIs { s with heap := s.heap.push (emptySet w) } (.ref s.heap.objs.size) "set" := ⟨_, atS, rfl⟩
      have lk := F.called_set.init.lookup
      have bd := F.called_set.init.bind (.ref s.heap.objs.size)
      repeat (any_goals (first | assumption | wp_step))
      refine codeAny_mono (codeAny_call_builtin (R := wants (fun r s₂ => r = .none ∧ ∃ h' tk, s₂ = { s with heap := h', toks := tk } ∧ TGot P w h' s.heap.objs.size xs xs.length ∧
          (∀ b o, s.heap.get? b = some o → h'.get? b = some o)) E) F.called_set.init.plain F.entry_set_init (check_set_init_1 tyS ?_)) fun r₂ s₂ hr₂ => ?_
      · obtain ⟨ol, hol, hcl, nl, hdl⟩ := hl
        obtain ⟨oc, od, oda, osl⟩ := ol
        simp only at hcl hdl
        subst hcl; subst hdl
        have hol2 : (s.heap.push (emptySet w)).get? l = some { cls := .type "list", dict := od, data := .seq items nl, slots := osl } := Heap.get?_push_of_some _ hol
        have z1 := F.sub_list_set
        have z2 := F.sub_list_frozenset
        have z3 : (Value.type "list" == Value.type "dict") = false := by decide
        have il : (s.heap.push (emptySet w)).IsList l items := ⟨_, hol2, rfl, nl, rfl⟩
        unfold Builtin.«set.__init__» noKeywords Builtin.Frozenset.updateFrom
        generalize keepIt : pyIter = PI
        wp_walk
        subst keepIt
        refine wpAny_pyIter_list il (wpAny_bind (wpAny_runValue ?_))
        have ltS : l < s.heap.objs.size := Heap.lt_size hol
        have hd3 : A.in1.in1.in1.handled = none := by simp [hh]
        have szp : (s.heap.push (emptySet w)).objs.size = s.heap.objs.size + 1 := Heap.size_push ..
        have far : l ≠ (s.heap.push (emptySet w)).objs.size := by
          rw [szp]
          exact ne1 ltS
        have outS : s.heap.objs.size ∉ [(s.heap.push (emptySet w)).objs.size, l] := ne2 ltS szp
        refine text_loop ((Walks.list hd3 _ l far items).toS) s.heap.objs.size outS xs sz (by omega) (fun i v hv => ?_) (items.size - 0) 0 _ (by omega) (Nat.zero_le _)
          ⟨⟨_, Heap.get?_push_size _ rfl, rfl, rfl⟩, il.push _⟩ ⟨[], tset_fresh (Heap.get?_push_of_some _ atS), by simp, Nat.le_refl _⟩ fun s' mv g => ?_
        · have q : items.toList[i]? = some v := by rw [Array.getElem?_toList]; exact hv
          exact strs_get hit i v q
        · obtain ⟨h', g2, d', tk', os'⟩ := s'
          obtain rfl : g2 = s.gens := mv.gens
          obtain rfl : d' = s.drawn := mv.drawn
          obtain rfl : os' = s.os := mv.os
          rw [sz] at g
          refine wpAny_pure (wpAny_pure ⟨rfl, h', tk', rfl, g, fun b o e => ?_⟩)
          have lb := Heap.lt_size e
          refine mv.heap b o (fun z => ?_) (Heap.get?_push_of_some _ (Heap.get?_push_of_some _ e))
          exact ne3 lb szp z
      · cases r₂ with
        | error e => exact hr₂
        | ok fl2 =>
          cases fl2 with
          | ret x =>
            obtain ⟨rfl, h', tk, rfl, ⟨L, g1, g2, g3⟩, kp⟩ := hr₂
            have q := fin h' tk L g1 (fun x => by rw [g2, List.take_length]) g3 kp
            repeat (any_goals (first | assumption | wp_step))
          | _ => exact hr₂.elim
    | _ => exact hr.elim
end
section
variable {P : Program} {w : World} {A : Around} {E : Value → Shared → Prop} {s : Shared} {a : Addr} {L : List Str}
theorem strs_te : ∀ {l : List (Int × Value)}, (∀ e ∈ l, TE P w e) → StrsAre (l.map (·.2)) (l.map txt)
  | [], _ => .nil
  | e :: l, h => by
    obtain ⟨x, t, q, _⟩ := h e (.head _)
    have z : txt e = x := by
      unfold txt
      rw [q]
    show StrsAre (e.2 :: l.map (·.2)) (txt e :: l.map txt)
    rw [q, z]
    exact .cons x t (strs_te fun u hu => h u (.tail _ hu))
theorem strs_perm {l m : List Value} (p : m.Perm l) : ∀ {xs : List Str}, StrsAre l xs → ∃ ys, StrsAre m ys ∧ ys.Perm xs := by
  induction p with
  | nil =>
    intro xs h
    exact ⟨xs, h, .refl _⟩
  | cons v _ ih =>
    intro xs h
    cases h with
    | cons x t r =>
      obtain ⟨ys, h1, h2⟩ := ih r
      exact ⟨x :: ys, .cons x t h1, h2.cons x⟩
  | swap v u l =>
    intro xs h
    cases h with
    | cons x t r =>
      cases r with
      | cons y k r => exact ⟨_, .cons y k (.cons x t r), .swap _ _ _⟩
  | trans _ _ ih1 ih2 =>
    intro xs h
    obtain ⟨ys, h1, h2⟩ := ih2 h
    obtain ⟨zs, h3, h4⟩ := ih1 h1
    exact ⟨zs, h3, h4.trans h2⟩
/-- sorted(s), s a set of texts -/
theorem text_sorted {Q : Value → Shared → Prop} (R : TSet P w s.heap a L) (hh : A.handled = none)
    (fin : ∀ s' p (out : Array Value) (c : Nat) (ys : List Str), (∀ b o, s.heap.get? b = some o → s'.heap.get? b = some o) → s'.gens = s.gens → s'.os = s.os → s.heap.objs.size ≤ p →
      s'.heap.get? p = some (seqObj "list" out c) → StrsAre out.toList ys → sortedS ys = true → ys.Perm L → Q (.ref p) s') :
    wpAny (model P w) A (call (.builtin "sorted") [.ref a]) Q E s := by
  obtain ⟨nd, o, es, ep, t, ho, hx, hd, good, pm, ⟨bnd, fit⟩, ris, led⟩ := R
  refine Calls.call_function_entry kind_sorted plain_sorted entry_sorted (args_sorted1 _) ?_
  unfold Builtin.«sorted»
  refine wpAny_bind (m := checkCount "sorted" 1 1 _) (wpAny_pure (wpAny_bind ?_))
  refine collect_set (A := A.in1) hh ⟨o, ho, hx.1, hd⟩ fit bnd ris led fun s1 vs k1 k2 k3 k4 pv => ?_
  obtain ⟨xs, st, px⟩ := strs_perm pv (strs_te good)
  have few : vs.length ≤ sizeLine := by
    have := pv.length_eq
    simp only [List.length_map, Array.length_toList] at this
    rw [this]
    exact fits_of_scanBound bnd
  refine wpAny_bind (wpAny_newList ?_ few)
  have atL : (s1.heap.push (seqObj "list" vs.toArray 0)).get? s1.heap.objs.size = some (seqObj "list" vs.toArray 0) := Heap.get?_push_size _ rfl
  refine wpAny_bind (wpAny_holding (wpAny_call_entry slot_list_sort ⟨_, atL, rfl⟩ entry_list_sort (list_sort_treeKAny strKind_oneLt atL st.keysOf
    (fun v₁ v₂ rest e => keyKind_strs (by rw [← e]; exact st)) few fun z zp zs => ⟨_, rfl, ?_⟩) (args_list_sort _)))
  obtain ⟨ys, y1, y2, y3⟩ := sorted_out_str st zp zs
  obtain ⟨c, hc⟩ := sortedHeap_at (vs := vs) (out := (arrOf z).map (·.2)) atL
  refine wpAny_pure ⟨_, rfl, fin _ s1.heap.objs.size _ c ys (fun b u e => ?_) k3 k4 k2 hc y1 y3 ((y2.trans px).trans pm)⟩
  have q := k1 b u e
  have lt := Heap.lt_size q
  refine (sortedHeap_old (Nat.ne_of_lt lt) ?_).trans (Heap.get?_push_of_some _ q)
  rw [size_push']
  exact Nat.lt_succ_of_lt lt
end
/-! ### the order of texts -/
def leT (a b : Str) : Bool := !ltCps b.cps.toList a.cps.toList
theorem leT_iff {a b : Str} : leT a b = true ↔ a.cps.toList ≤ b.cps.toList := by
  unfold leT
  rw [ltCps_eq, Bool.not_eq_true', decide_eq_false_iff_not]
  exact List.not_lt
theorem leT_trans (a b c : Str) (h1 : leT a b = true) (h2 : leT b c = true) : leT a c = true := leT_iff.mpr (List.le_trans (leT_iff.mp h1) (leT_iff.mp h2))
theorem leT_total (a b : Str) : (leT a b || leT b a) = true := by
  rw [Bool.or_eq_true, leT_iff, leT_iff]
  exact List.le_total _ _
theorem leT_anti {a b : Str} (h1 : leT a b = true) (h2 : leT b a = true) : a = b := by
  have q := List.le_antisymm (leT_iff.mp h1) (leT_iff.mp h2)
  cases a
  cases b
  simp only [Array.toList_inj] at q
  exact congrArg _ q
theorem rising_pw : ∀ (l : List Str) (p : Str), risingS p l = true → (p :: l).Pairwise (fun a b => leT a b = true)
  | [], p, _ => by simp
  | x :: r, p, h => by
    have h : (!ltCps x.cps.toList p.cps.toList && risingS x r) = true := h
    rw [Bool.and_eq_true] at h
    have ih := rising_pw r x h.2
    refine List.pairwise_cons.mpr ⟨fun y hy => ?_, ih⟩
    rcases List.mem_cons.mp hy with rfl | q
    · exact h.1
    · exact leT_trans _ _ _ h.1 ((List.pairwise_cons.mp ih).1 y q)
theorem sorted_pw {l : List Str} (h : sortedS l = true) : l.Pairwise (fun a b => leT a b = true) := by
  cases l with
  | nil => exact .nil
  | cons x r => exact rising_pw r x h
/-- sorted -/
def srt (xs : List Str) : List Str := xs.mergeSort leT
theorem srt_is {xs ys : List Str} (h : sortedS ys = true) (p : ys.Perm xs) : ys = srt xs :=
  List.Perm.eq_of_pairwise (fun _ _ _ _ => leT_anti) (sorted_pw h) (List.pairwise_mergeSort leT_trans leT_total xs) (p.trans (List.mergeSort_perm xs leT).symm)
/-- each once -/
def uniq : List Str → List Str
  | [] => []
  | x :: r => if x ∈ r then uniq r else x :: uniq r
theorem uniq_mem {x : Str} : ∀ {l : List Str}, x ∈ uniq l ↔ x ∈ l
  | [] => Iff.rfl
  | y :: r => by
    unfold uniq
    split
    · rename_i h
      rw [uniq_mem, List.mem_cons]
      exact ⟨.inr, fun z => z.elim (fun e => e ▸ h) id⟩
    · rw [List.mem_cons, List.mem_cons, uniq_mem]
theorem uniq_nd : ∀ (l : List Str), (uniq l).Nodup
  | [] => .nil
  | y :: r => by
    unfold uniq
    split
    · exact uniq_nd r
    · rename_i h
      exact List.nodup_cons.mpr ⟨fun z => h (uniq_mem.mp z), uniq_nd r⟩
/-- sorted, each once -/
def asc (xs : List Str) : List Str := srt (uniq xs)
theorem asc_is {xs ys L : List Str} (h : sortedS ys = true) (p : ys.Perm L) (nd : L.Nodup) (m : ∀ x, x ∈ L ↔ x ∈ xs) : ys = asc xs :=
  srt_is h (p.trans ((List.perm_ext_iff_of_nodup nd (uniq_nd xs)).mpr fun x => by rw [m, uniq_mem]))
theorem uniq_len : ∀ l : List Str, (uniq l).length ≤ l.length
  | [] => Nat.le_refl _
  | y :: r => by
    have := uniq_len r
    unfold uniq
    split
    · exact Nat.le_succ_of_le this
    · exact Nat.succ_le_succ this
theorem asc_len (xs : List Str) : (asc xs).length ≤ xs.length := by
  unfold asc srt
  rw [(List.mergeSort_perm _ _).length_eq]
  exact uniq_len xs
theorem asc_mem {xs : List Str} {x : Str} : x ∈ asc xs ↔ x ∈ xs := by
  unfold asc srt
  rw [(List.mergeSort_perm _ _).mem_iff, uniq_mem]
theorem asc_nd (xs : List Str) : (asc xs).Nodup := ((List.mergeSort_perm _ _).nodup_iff).mpr (uniq_nd xs)
/-! ### the rules -/
section
variable {X : Cx} {T : Tab} {Wx : WX} {k : Nat} {N : List Str} {mg : Str → Option Value} {sc : Scope}
def dstr (z : Str) : W := .d (.str z)
/-- sorted(set(xs)), sorted(xs); u: each once -/
def wSrt (u m : Bool) (t : TE2) : TE2 := fun σ M Q E => t σ M (fun x M1 => ∃ ws xs, listW M1 x = some ws ∧ strsL ws = some xs ∧ xs.length < 1000 ∧ (u = false → xs.length < 64) ∧ newL m ((if u = true then asc xs else srt xs).map dstr) M1 Q) E
theorem dstr_low {G : Hp} : ∀ {xs : List Str}, (∀ x ∈ xs, x.length ≤ sizeLine) → RWs T G (xs.map dstr) (xs.map V.str)
  | [], _ => .nil
  | x :: r, h => .cons ⟨rfl, h x (.head _)⟩ (dstr_low fun y hy => h y (.tail _ hy))
theorem strs_small {G : Hp} : ∀ {ws : List W} {vs : List V} {xs : List Str}, RWs T G ws vs → strsL ws = some xs → ∀ x ∈ xs, x.length ≤ sizeLine
  | [], _, _, _, h, x, hx => by
    cases (show some [] = some _ from h)
    cases hx
  | w :: ws, _, xs, .cons a t, h, x, hx => by
    cases w with
    | d y =>
      cases y with
      | str z =>
        have h : (strsL ws).map (z :: ·) = some xs := h
        cases e : strsL ws with
        | none => rw [e] at h; cases h
        | some l =>
          rw [e] at h
          cases h
          rcases List.mem_cons.mp hx with rfl | q
          · exact a.2
          · exact strs_small t e x q
      | _ => exact nomatch (show (none : Option (List Str)) = some _ from h)
    | _ => exact nomatch (show (none : Option (List Str)) = some _ from h)
theorem e_srl {te : TE2} {a : Expr} {m : Bool} {p pos : Pos} (C : Ctx T k N mg X Wx sc) (hg : Gl X "sorted") (hm : X.mg "sorted" = none) (ha : PE X a (lowE T Wx te))
    (hs : starEach [a] X.env = (false, eval a X.env) :: starEach [] X.env) : PE X (.Call (.Name "sorted" p) [a] [] pos) (lowE T Wx (wSrt false m te)) := by
  refine (pe_callB (cr_sortedS (X := X)) hg hm PyProof.Rows.boot_sorted (pa_cons ha pa_nil hs) (by decide) (by decide) hs rfl).imp fun σ H Q h => ?_
  obtain ⟨G, σ2, M, Q2, E2, sr, rs, q2, pq, px⟩ := h
  refine ⟨G, σ2, M, _, E2, sr, rs, q2, fun w M1 G1 H1 v m1 sr1 rw1 q3 => ?_, px⟩
  obtain ⟨ws, xs, e1, e2, h1, h2, q3⟩ := q3
  obtain ⟨l, vs, rfl, hl, rr⟩ := listW_low sr1 rw1 e1
  cases strsL_low rr e2
  refine ⟨l, xs, rfl, by rw [C.eK]; exact hl, h2 rfl, fun ys b p1 p2 hb => ?_⟩
  cases srt_is p2 p1
  refine newL_low sr1 (dstr_low fun x hx => strs_small rr e2 x ?_) q3 (pq.mono m1) hb
  exact (List.mergeSort_perm xs leT).mem_iff.mp hx
theorem e_srt {te : TE2} {a : Expr} {m : Bool} {p p2 q pos : Pos} (C : Ctx T k N mg X Wx sc) (hg : Gl X "sorted") (hm : X.mg "sorted" = none) (hg2 : Gl X "set") (hm2 : X.mg "set" = none) (ha : PE X a (lowE T Wx te))
    (hs : starEach [a] X.env = (false, eval a X.env) :: starEach [] X.env) : PE X (.Call (.Name "sorted" p) [.Call (.Name "set" p2) [a] [] q] [] pos) (lowE T Wx (wSrt true m te)) := by
  refine ⟨fun pins s σ H Q I h => ?_⟩
  obtain ⟨G, σ2, M, Q2, E2, sr, rs, q2, pq, px⟩ := h
  refine Call_ (ld_blt I hg hm PyProof.Rows.boot_sorted ?_)
  refine PyProof.Rows.callWith_builtin1 (PyProof.Rows.args_cons ?_ rfl) rfl rfl
  refine Call_ (ld_blt I hg2 hm2 boot_set ?_)
  refine PyProof.Rows.callWith_type1 (PyProof.Rows.args_cons (thn (ha.run pins s σ H (fun v H1 => ∃ l xs, v = .ref l ∧ SqL X.K H1 l (xs.map V.str) ∧ xs.length < 1000 ∧ ∀ b, H1 b = none → Q (.ref b) (upd H1 b (.lst ((asc xs).map V.str)))) I ?_) fun v s1 ⟨x, H1, I1, r1, q1⟩ => PyProof.Rows.args_nil ?_) hs) hs rfl
  · refine ⟨G, σ2, M, _, E2, sr, rs, q2, fun w M1 G1 H1 v m1 sr1 rw1 q3 => ?_, px⟩
    obtain ⟨ws, xs, e1, e2, h1, _, q3⟩ := q3
    obtain ⟨l, vs, rfl, hl, rr⟩ := listW_low sr1 rw1 e1
    cases strsL_low rr e2
    refine ⟨l, xs, rfl, by rw [C.eK]; exact hl, h1, fun b hb => ?_⟩
    exact newL_low sr1 (dstr_low fun x hx => strs_small rr e2 x (asc_mem.mp hx)) q3 (pq.mono m1) hb
  · obtain ⟨l, xs, rfl, hl, h1, q1⟩ := q1
    cases r1
    obtain ⟨its, rv, pl, _⟩ := I1.list hl
    refine text_set xs (I1.ok.hd C.calm) pl.isList (by simpa using strsAre_of rv) (by unfold scanBound; omega) fun h' tk L t1 t2 t3 kp => ?_
    refine PyProof.Rows.args_nil ?_
    have big : s1.heap.objs.size < h'.objs.size := by
      obtain ⟨_, o, _, _, _, ho, _⟩ := t1
      exact Heap.lt_size ho
    refine text_sorted (s := { s1 with heap := h', toks := tk }) t1 (I1.ok.hd C.calm) fun s' b out c ys k1 k2 k3 k4 k5 k6 k7 k8 => ?_
    cases asc_is k7 k8 t1.1 t2
    have small : ((asc xs).map V.str).length ≤ sizeLine := by
      have := asc_len xs
      rw [List.length_map, sizeLine_eq]
      omega
    have le : s1.heap.objs.size ≤ b := Nat.le_trans (Nat.le_of_lt big) k4
    have nb : H1 b = none := I1.hok.fresh le
    have kk : ∀ b u, s1.heap.get? b = some u → s'.heap.get? b = some u := fun b u e => k1 b u (kp b u e)
    have J : Inv X pins σ (upd H1 b (.lst ((asc xs).map V.str))) s' :=
      I1.call' (ch := []) k3 (Un.laid kk le nb) (I1.hok.laid kk le ⟨small, out.toList, c, vals_of_strs k6, k5⟩) (by rw [k2]; exact I1.bare) (fun _ z => nomatch z)
    exact ⟨.ref b, _, J, rfl, q1 b nb⟩
/-- either reading, as the caller likes -/
def wAlt (t u : TE2) : TE2 := fun σ M Q E => t σ M Q E ∨ u σ M Q E
theorem e_alt {t u : TE2} {e : Expr} (h1 : PE X e (lowE T Wx t)) (h2 : PE X e (lowE T Wx u)) : PE X e (lowE T Wx (wAlt t u)) := by
  refine ⟨fun pins s σ H Q I z => ?_⟩
  obtain ⟨G, σ2, M, Q2, E2, sr, rs, q | q, pq, px⟩ := z
  · exact h1.run pins s σ H Q I ⟨G, σ2, M, Q2, E2, sr, rs, q, pq, px⟩
  · exact h2.run pins s σ H Q I ⟨G, σ2, M, Q2, E2, sr, rs, q, pq, px⟩
end
end Z
set_option maxHeartbeats 4000000
/-! X2: !=, >, >= of own instances; == and != against other things -/
namespace Z
open PySem PySem.Spec PyProof.Rows L2 PySem.W
section
variable {prog : Program} {w : World} {M : Model} {A : Around} {E : Value → Shared → Prop} {s : Shared} {K : Frag} {x C f L : Addr} {ox : Obj} {od : Option Obj} {h₀ : Heap} {m : Str → Option Value} {tb b : Value}
/-- a slot of object's, looked up on an instance -/
theorem slotB {name : Str} {id : String} {args : List Value} {Q : Option Value → Shared → Prop} (Y : K.In s.heap) (I : InstAt s.heap x ox C od) (hs : findIn K (.ref C) name = some (some (.builtin id)))
    (hb : ∀ self, bindSpecial (.builtin id) self = pure (.builtin id, [self])) (h : wpAny M A (call (.builtin id) (.ref x :: args)) (fun v => Q (some v)) E s) : wpAny M A (callSpecialIfBound? (.ref x) name args) Q E s := by
  simp only [callSpecialIfBound?, bindSpecialIfBound?]
  refine wpAny_holding (wpAny_bind (wpAny_bind (wpAny_bind (I.type.here ((looks_findIn Y hs).here ?_)))))
  simp only [hb]
  refine wpAny_bind (wpAny_askSetting (wpAny_ite ?_))
  have fin : wpAny M A (call (.builtin id) ([.ref x] ++ args) >>= fun v => pure (some v)) Q E s := wpAny_bind (wpAny_mono h (fun _ _ z => wpAny_pure z) fun _ _ z => z)
  split
  · exact wpAny_bind (wpAny_pure (wpAny_pure fin))
  · exact wpAny_tryCatch (wpAny_bind (wpAny_pure (wpAny_pure fin)))
def NeBack (Q : Value → Shared → Prop) (v : Value) (s' : Shared) : Prop := ∃ c, v = .bool c ∧ Q (.bool (!c)) s'
open Builtin in
theorem objNe {Q : Value → Shared → Prop} (hu : A.in1.units < cLine) (Y : K.In s.heap) (I : InstAt s.heap x ox C od) (hm : mroIn K C (.type "object") = some true) (hr : findIn K (.ref C) "__eq__" = some (some (.ref f))) (hf : isFn K (.ref f) = true)
    (h : wpAny (model prog w) A.in1 (call (.ref f) [.ref x, b]) (NeBack Q) E s) : wpAny (model prog w) A (call (.builtin "object.__ne__") [.ref x, b]) Q E s := by
  refine wpAny_call (codeAny_call_builtin PySem.F.cmp_object.ne.plain PySem.F.cmpEntry_ne (check_slot (i := "object.__ne__") (owner := "object") (n := "__ne__") (by decide +kernel) (by decide +kernel) (I.type.andThen (looks_mroIn Y hm)) (PySem.F.cmpArgs_ne _ _) ?_))
  unfold Builtin.«object.__ne__»
  refine wpAny_bind (m := slotArgs "__ne__" 1 _) (wpAny_pure ?_)
  refine wpAny_bind (m := cRoomFor _ _) (wpAny_cRoomFor hu ?_)
  refine wpAny_bind (m := callSpecialIfBound? (.ref x) (Str.ofString "__eq__") _) (ifBound_K Y I hr hf (wpAny_mono h (fun r s' hq => ?_) fun _ _ y => y))
  obtain ⟨c, rfl, q⟩ := hq
  exact wpAny_bind (m := truthy (.bool c)) (wpAny_truthy_bool (wpAny_pure q))
/-- the first try of a comparison that answers -/
theorem cmp_first {op : CmpOp} {Q : Value → Shared → Prop} (hu : A.units < cLine) (Y : K.In s.heap) (I : InstAt s.heap x ox C od) (hb : Looks (model prog w) s.heap (typeOf b) tb) (hn : notFirst K C tb = true)
    (one : wpAny (model prog w) A (tryCompare (.ref x) (cmpInfo op).2.1 b) (fun r s' => ∃ v, r = some v ∧ Q v s') E s) : wpAny (model prog w) A (richCompare op (.ref x) b) Q E s := by
  unfold richCompare
  simp only [oneThing_ref]
  refine wpAny_holding (wpAny_bind (wpAny_cRoomFor hu ?_))
  refine wpAny_bind (I.type.here (wpAny_bind (hb.here ?_)))
  have go : ∀ (r : Option Value) (s' : Shared), (∃ v, r = some v ∧ Q v s') → ∃ v, r = some v ∧ Q v s' := fun _ _ z => z
  split
  · rename_i q
    have e : subIn K tb (.ref C) = some false := by
      rcases Bool.or_eq_true_iff.mp hn with e | e
      · rw [beq_iff_eq.mp e] at q; simp at q
      · exact beq_iff_eq.mp e
    refine wpAny_bind ((looks_subIn Y e).here ?_)
    simp only [Bool.false_eq_true, if_false]
    refine wpAny_bind (wpAny_mono one (fun r s' z => ?_) fun _ _ e => e)
    obtain ⟨v, rfl, hq⟩ := z
    exact wpAny_pure hq
  · refine wpAny_bind (wpAny_pure ?_)
    simp only [Bool.false_eq_true, if_false]
    refine wpAny_bind (wpAny_mono one (fun r s' z => ?_) fun _ _ e => e)
    obtain ⟨v, rfl, hq⟩ := z
    exact wpAny_pure hq
/-- x != b -/
theorem ne_own {Q : Value → Shared → Prop} (hu : A.units < cLine) (hu1 : A.in1.units < cLine) (Y : K.In s.heap) (I : InstAt s.heap x ox C od) (hb : Looks (model prog w) s.heap (typeOf b) tb) (hn : notFirst K C tb = true)
    (hne : findIn K (.ref C) "__ne__" = some (some (.builtin "object.__ne__"))) (hm : mroIn K C (.type "object") = some true) (hr : findIn K (.ref C) "__eq__" = some (some (.ref f))) (hf : isFn K (.ref f) = true)
    (h : wpAny (model prog w) A.in1 (call (.ref f) [.ref x, b]) (NeBack Q) E s) : wpAny (model prog w) A (richCompare .NotEq (.ref x) b) Q E s := by
  refine cmp_first hu Y I hb hn ?_
  show wpAny (model prog w) A (tryCompare (.ref x) "__ne__" b) _ E s
  unfold tryCompare
  refine wpAny_bind (slotB Y I hne PySem.F.cmp_object.ne.bind (objNe hu1 Y I hm hr hf (wpAny_mono h (fun v s' z => ?_) fun _ _ e => e)))
  obtain ⟨c, rfl, q⟩ := z
  exact ⟨c, rfl, wpAny_pure ⟨_, rfl, q⟩⟩
end
section
theorem entry_gt : entryFor table "object.__gt__" = some Builtin.«object.__gt__» := entryFor_of_tree (by kernel_rfl)
theorem entry_ge : entryFor table "object.__ge__" = some Builtin.«object.__ge__» := entryFor_of_tree (by kernel_rfl)
theorem slot_gt : Slot "object" "__gt__" "object.__gt__" := .of (owner := "object") (n := "__gt__") (by rw [typeLookup_type, builtinLookup_eq_fast]; kernel_rfl) (by decide +kernel) (by decide +kernel) (by decide +kernel)
  (by first | exact .inl (by decide +kernel) | exact .inr (by decide +kernel)) (by rw [isSubtype_type]; kernel_rfl)
theorem slot_ge : Slot "object" "__ge__" "object.__ge__" := .of (owner := "object") (n := "__ge__") (by rw [typeLookup_type, builtinLookup_eq_fast]; kernel_rfl) (by decide +kernel) (by decide +kernel) (by decide +kernel)
  (by first | exact .inl (by decide +kernel) | exact .inr (by decide +kernel)) (by rw [isSubtype_type]; kernel_rfl)
variable {prog : Program} {w : World} {M : Model} {A : Around} {E : Value → Shared → Prop} {s : Shared} {K : Frag} {x y C f L : Addr} {ox oy : Obj} {od od' : Option Obj} {b : Value}
/-- object's > and >= decline -/
theorem objGt {Q : Value → Shared → Prop} (Y : K.In s.heap) (I : InstAt s.heap x ox C od) (hm : mroIn K C (.type "object") = some true) (q : Q .notImplemented s) : wpAny (model prog w) A (call (.builtin "object.__gt__") [.ref x, b]) Q E s := by
  refine wpAny_call (codeAny_call_builtin slot_gt.plain entry_gt (check_slot (i := "object.__gt__") (owner := "object") (n := "__gt__") (by decide +kernel) (by decide +kernel) (I.type.andThen (looks_mroIn Y hm)) (by unfold argsOk; kernel_rfl) ?_))
  exact wpAny_bind (m := slotArgs "__gt__" 1 _) (wpAny_pure (wpAny_pure q))
theorem objGe {Q : Value → Shared → Prop} (Y : K.In s.heap) (I : InstAt s.heap x ox C od) (hm : mroIn K C (.type "object") = some true) (q : Q .notImplemented s) : wpAny (model prog w) A (call (.builtin "object.__ge__") [.ref x, b]) Q E s := by
  refine wpAny_call (codeAny_call_builtin slot_ge.plain entry_ge (check_slot (i := "object.__ge__") (owner := "object") (n := "__ge__") (by decide +kernel) (by decide +kernel) (I.type.andThen (looks_mroIn Y hm)) (by unfold argsOk; kernel_rfl) ?_))
  exact wpAny_bind (m := slotArgs "__ge__" 1 _) (wpAny_pure (wpAny_pure q))
/-- x > y, x >= y of one class, by y's own < and <= -/
theorem refl_own {op : CmpOp} {id : String} {Q : Value → Shared → Prop} (hu : A.units < cLine) (Y : K.In s.heap) (I : InstAt s.heap x ox C od) (J : InstAt s.heap y oy C od')
    (hb : ∀ self, bindSpecial (.builtin id) self = pure (.builtin id, [self])) (hd : ∀ {R : Value → Shared → Prop}, R .notImplemented s → wpAny (model prog w) A (call (.builtin id) [.ref x, .ref y]) R E s)
    (h1 : findIn K (.ref C) (cmpInfo op).2.1 = some (some (.builtin id))) (h2 : findIn K (.ref C) (cmpInfo op).2.2 = some (some (.ref f))) (hf : isFn K (.ref f) = true)
    (h : wpAny (model prog w) A (call (.ref f) [.ref y, .ref x]) (PySem.W.CmpBack Q) E s) : wpAny (model prog w) A (richCompare op (.ref x) (.ref y)) Q E s := by
  have two : wpAny (model prog w) A (tryCompare (.ref y) (cmpInfo op).2.2 (.ref x)) (fun r s' => ∃ v, r = some v ∧ Q v s') E s := by
    unfold tryCompare
    refine wpAny_bind (ifBound_K Y J h2 hf (wpAny_mono h (fun v s' hv => ?_) fun _ _ e => e))
    cases v <;> first | exact hv.elim | exact wpAny_pure ⟨_, rfl, hv⟩
  have one : wpAny (model prog w) A (tryCompare (.ref x) (cmpInfo op).2.1 (.ref y)) (fun r s' => r = none ∧ s' = s) E s := by
    unfold tryCompare
    refine wpAny_bind (slotB Y I h1 hb (hd ?_))
    exact wpAny_pure ⟨rfl, rfl⟩
  unfold richCompare
  simp only [oneThing_ref]
  refine wpAny_holding (wpAny_bind (wpAny_cRoomFor hu ?_))
  refine wpAny_bind (I.type.here (wpAny_bind (J.type.here ?_)))
  rw [show (Value.ref C != Value.ref C) = false from by simp]
  simp only [Bool.false_eq_true, if_false]
  refine wpAny_bind (wpAny_pure ?_)
  simp only [Bool.false_eq_true, if_false]
  refine wpAny_bind (wpAny_mono one (fun r s' z => ?_) fun _ _ e => e)
  obtain ⟨rfl, rfl⟩ := z
  simp only [Bool.not_false, if_true]
  refine wpAny_bind (wpAny_mono two (fun r s' z => ?_) fun _ _ e => e)
  obtain ⟨v, rfl, q⟩ := z
  exact wpAny_pure q
end
section
variable {X : Cx} {T : Tab} {Wx : WX} {k : Nat} {N : List Str} {mg : Str → Option Value} {sc : Scope}
/-- x != y, both of the class c -/
def oNeo (c : Nat) (sp : Sp2) (dws : List W) : R22 := fun x y M Q E => (∃ fs, insW M x = some (c, fs)) ∧ (∃ fs, insW M y = some (c, fs)) ∧ sp (x :: y :: dws) M (fun z M1 => ∃ b, z = .d (.bool b) ∧ Q (.d (.bool (!b))) M1) E
theorem low_neo {sp : Sp2} {dws : List W} {dvs : List V} {G H : Hp} {M : Mp} {Q2 : VK2} {E2 : XK2} {Q : VK} {σ : L2.St} {ws : List W} {vs : List V} (sr : SR T G H M) (rw : RWs T G ws vs) (hd : ∀ G, RWs T G dws dvs)
    (q : sp (ws ++ dws) M (fun z M1 => ∃ b, z = .d (.bool b) ∧ Q2 (.d (.bool (!b))) M1) E2) (pq : PQ T G Q2 Q) (px : PX T Wx G σ E2) : lowSp T sp (vs ++ dvs) H (fun z H1 => ∃ b, z = .bl b ∧ Q (.bl (!b)) H1) (WE Wx σ) :=
  low_own sr rw hd q (fun w M1 G1 H1 v1 m1 sr1 rw1 ⟨b, e, q1⟩ => by
    subst e
    exact ⟨b, rw1, pq _ M1 G1 H1 _ m1 sr1 (show RW T G1 (.d (.bool _)) (.bl _) from rfl) q1⟩) px
theorem back_ne {pins : List (Addr × Obj)} {σ : L2.St} {Q : VK} {v : Value} {s' : Shared} (h : EP X pins σ (fun z H1 => ∃ b, z = .bl b ∧ Q (.bl (!b)) H1) v s') : NeBack (EP X pins σ Q) v s' := by
  obtain ⟨z, H', I', rz, b, rfl, qz⟩ := h
  cases (show v = Value.bool b from rz)
  exact ⟨b, rfl, .bl (!b), H', I', rfl, qz⟩
theorem op2_neo {c : Nat} {sp : Sp2} {dws : List W} (C : Ctx T (k + 1) N mg X Wx sc) (F : KmP X.prog X.w X.K X.mg X.base T k c "__eq__" sp dws) (hc : ClG X.K (T.cls c)) : Op2 X T Wx (compareOp .NotEq) (oNeo c sp dws) := by
  obtain ⟨f, fd, ps, ds, dvs, hm, hb, hv, hd, Fo⟩ := F.ex
  intro pins s σ H x y v u Q I rx ry ⟨G, wx, wy, M, Q2, E2, sr, rwx, rwy, ⟨⟨fs, e1⟩, ⟨fs', e2⟩, q⟩, pq, px⟩
  obtain ⟨a, ox, od, rfl, J, _⟩ := inst_at I sr rwx e1
  obtain ⟨b, ox', od', rfl, J', _⟩ := inst_at I sr rwy e2
  cases (show v = Value.ref a from rx)
  cases (show u = Value.ref b from ry)
  have r1 : Room k X.A.in1 := Room.in1 C.room
  show wpAny _ X.A (richCompare .NotEq (.ref a) (.ref b)) _ _ s
  refine ne_own (tb := .ref (T.cls c)) C.room.units0 r1.units0 I.kIn J J'.type (by unfold PySem.W.notFirst; simp) hc.ne hc.mo hm.at_ hm.fn ?_
  exact wpAny_mono (run_fA (us := [.ref a, .ref b]) (vs := [.ref a, .ref b]) C r1 C.gd Fo hb hv I I.env0.in1 (.cons rfl (.cons rfl .nil)) (low_neo (ws := [wx, wy]) sr (.cons rwx (.cons rwy .nil)) hd q pq px)) (fun w s' z => back_ne z) fun _ _ x => x
/-- x > y, x >= y by y's own < and <= -/
def oRef (c : Nat) (sp : Sp2) (dws : List W) : R22 := fun x y M Q E => (∃ fs, insW M x = some (c, fs)) ∧ (∃ fs, insW M y = some (c, fs)) ∧ sp (y :: x :: dws) M Q E
theorem op2_ref {ge : Bool} {c : Nat} {m : Str} {sp : Sp2} {dws : List W} (C : Ctx T k N mg X Wx sc) (F : KmP X.prog X.w X.K X.mg X.base T k c m sp dws) (hc : ClG X.K (T.cls c)) (hm : m = if ge = true then "__le__" else "__lt__") :
    Op2 X T Wx (compareOp (if ge = true then .GtE else .Gt)) (oRef c sp dws) := by
  subst hm
  obtain ⟨f, fd, ps, ds, dvs, hm, hb, hv, hd, Fo⟩ := F.ex
  intro pins s σ H x y v u Q I rx ry ⟨G, wx, wy, M, Q2, E2, sr, rwx, rwy, ⟨⟨fs, e1⟩, ⟨fs', e2⟩, q⟩, pq, px⟩
  obtain ⟨a, ox, od, rfl, J, _⟩ := inst_at I sr rwx e1
  obtain ⟨b, ox', od', rfl, J', _⟩ := inst_at I sr rwy e2
  cases (show v = Value.ref a from rx)
  cases (show u = Value.ref b from ry)
  have run := wpAny_mono (run_f (us := [.ref b, .ref a]) (vs := [.ref b, .ref a]) C Fo hb hv I (.cons rfl (.cons rfl .nil)) (low_own (ws := [wy, wx]) sr (.cons rwy (.cons rwx .nil)) hd q pq px)) (fun w s' z => back_ep z) fun _ _ x => x
  cases ge with
  | false =>
    show wpAny _ X.A (richCompare .Gt (.ref a) (.ref b)) _ _ s
    exact refl_own C.room.units0 I.kIn J J' slot_gt.bind (fun q => objGt I.kIn J hc.mo q) hc.gt hm.at_ hm.fn run
  | true =>
    show wpAny _ X.A (richCompare .GtE (.ref a) (.ref b)) _ _ s
    exact refl_own C.room.units0 I.kIn J J' slot_ge.bind (fun q => objGe I.kIn J hc.mo q) hc.ge hm.at_ hm.fn run
theorem ty_look {pins : List (Addr × Obj)} {σ : L2.St} {H : Hp} {st : Shared} {G : Hp} {M : Mp} {y : W} {v : V} {u : Value} {n : String} (hK : X.K = T.K) (I : Inv X pins σ H st) (sr : SR T G H M) (e : tyW M y = some n) (r : RW T G y v) (ru : RelV v u) : Looks (model X.prog X.w) st.heap (typeOf u) (.type n) := by
  have t := tyW_low sr r e
  rw [← hK] at t
  obtain ⟨P, kx, hp, _⟩ := kit_of I ru t
  exact kx.ty _ _ I.kIn hp
theorem lit_first {K : PySem.W.Frag} {mg : Str → Option Value} {q : Isc} {n : String} (F : KiP K mg T q) (e : q.ks.lookup (.ty n) = some false) : PySem.W.notFirst K (T.cls q.c) (.type n) = true := by
  have z := F.ks _ (lookup_mem e)
  have z : PySem.W.kitOne K (.type n) (.ref (T.cls q.c)) = some false := z
  unfold PySem.W.kitOne PySem.W.kitCls at z
  rw [if_neg (by simp)] at z
  simp only at z
  split at z
  · unfold PySem.W.notFirst
    rw [z]
    simp
  · cases z
/-- x == y, x != y, x of the class c, y of a built-in type -/
def oEql (i : Isc) (c : Nat) (sp : Sp2) (dws : List W) : R22 := fun x y M Q E => (∃ fs, insW M x = some (c, fs)) ∧ i.c = c ∧ (∃ n, tyW M y = some n ∧ i.ks.lookup (.ty n) = some false) ∧ sp (x :: y :: dws) M Q E
def oNel (i : Isc) (c : Nat) (sp : Sp2) (dws : List W) : R22 := fun x y M Q E => (∃ fs, insW M x = some (c, fs)) ∧ i.c = c ∧ (∃ n, tyW M y = some n ∧ i.ks.lookup (.ty n) = some false) ∧ sp (x :: y :: dws) M (fun z M1 => ∃ b, z = .d (.bool b) ∧ Q (.d (.bool (!b))) M1) E
theorem op2_eql {i : Isc} {c : Nat} {sp : Sp2} {dws : List W} (C : Ctx T k N mg X Wx sc) (F : KmP X.prog X.w X.K X.mg X.base T k c "__eq__" sp dws) (Fi : KiP X.K X.mg T i) : Op2 X T Wx (compareOp .Eq) (oEql i c sp dws) := by
  obtain ⟨f, fd, ps, ds, dvs, hm, hb, hv, hd, Fo⟩ := F.ex
  intro pins s σ H x y v u Q I rx ry ⟨G, wx, wy, M, Q2, E2, sr, rwx, rwy, ⟨⟨fs, e1⟩, e0, ⟨n, e2, e3⟩, q⟩, pq, px⟩
  subst e0
  obtain ⟨a, ox, od, rfl, J, _⟩ := inst_at I sr rwx e1
  cases (show v = Value.ref a from rx)
  obtain ⟨mF, hF⟩ := I.fr
  show wpAny _ X.A (richCompare .Eq (.ref a) u) _ _ s
  refine PySem.W.cmp_K (op := .Eq) (tb := .type n) C.room.units0 hF I.ok.mod.kin J (ty_look C.eK I sr e2 rwy ry) (lit_first Fi e3) hm.at_ hm.fn ?_
  exact wpAny_mono (run_f (us := [.ref a, u]) (vs := [.ref a, y]) C Fo hb hv I (.cons rfl (.cons ry .nil)) (low_own (ws := [wx, wy]) sr (.cons rwx (.cons rwy .nil)) hd q pq px)) (fun w s' z => back_ep z) fun _ _ x => x
theorem op2_nel {i : Isc} {c : Nat} {sp : Sp2} {dws : List W} (C : Ctx T (k + 1) N mg X Wx sc) (F : KmP X.prog X.w X.K X.mg X.base T k c "__eq__" sp dws) (hc : ClG X.K (T.cls c)) (Fi : KiP X.K X.mg T i) : Op2 X T Wx (compareOp .NotEq) (oNel i c sp dws) := by
  obtain ⟨f, fd, ps, ds, dvs, hm, hb, hv, hd, Fo⟩ := F.ex
  intro pins s σ H x y v u Q I rx ry ⟨G, wx, wy, M, Q2, E2, sr, rwx, rwy, ⟨⟨fs, e1⟩, e0, ⟨n, e2, e3⟩, q⟩, pq, px⟩
  subst e0
  obtain ⟨a, ox, od, rfl, J, _⟩ := inst_at I sr rwx e1
  cases (show v = Value.ref a from rx)
  have r1 : Room k X.A.in1 := Room.in1 C.room
  show wpAny _ X.A (richCompare .NotEq (.ref a) u) _ _ s
  refine ne_own (tb := .type n) C.room.units0 r1.units0 I.kIn J (ty_look C.eK I sr e2 rwy ry) (lit_first Fi e3) hc.ne hc.mo hm.at_ hm.fn ?_
  exact wpAny_mono (run_fA (us := [.ref a, u]) (vs := [.ref a, y]) C r1 C.gd Fo hb hv I I.env0.in1 (.cons rfl (.cons ry .nil)) (low_neo (ws := [wx, wy]) sr (.cons rwx (.cons rwy .nil)) hd q pq px)) (fun w s' z => back_ne z) fun _ _ x => x
/-- x in y, data of any depth -/
def fInD (M : Mp) (x y : W) : Option Bool := (toPyW M x).bind fun d => (toPyW M y).bind fun e => match e with
  | .list ds => if (SeqAt.shaped d && SeqAt.shaped (.list ds)) = true then some (ds.any fun z => PyData.eqv z d) else none
  | _ => none
def oInD (neg : Bool) : R22 := fun x y M Q _ => ∃ b, fInD M x y = some b ∧ Q (.d (.bool (neg ^^ b))) M
theorem op2_inD {neg : Bool} (C : Ctx T k N mg X Wx sc) : Op2 X T Wx (compareOp (if neg = true then .NotIn else .In)) (oInD neg) := by
  intro pins s σ H x y v u Q I rx ry ⟨G, wx, wy, M, Q2, E2, sr, rwx, rwy, ⟨b, e, q⟩, pq, px⟩
  have hu : X.A.units + 65 < cLine := by
    have := C.room.un
    omega
  unfold fInD at e
  cases e1 : toPyW M wx with
  | none => rw [e1] at e; cases e
  | some d =>
    cases e2 : toPyW M wy with
    | none => rw [e1, e2] at e; cases e
    | some p =>
      rw [e1, e2, Option.bind_some, Option.bind_some] at e
      split at e
      · rename_i ds
        split at e
        · rename_i hs
          cases e
          rw [Bool.and_eq_true] at hs
          have l1 : Dp X.K H x d := by rw [C.eK]; exact toPyW_low sr rwx e1
          have l2 : Dp X.K H y (.list ds) := by rw [C.eK]; exact toPyW_low sr rwy e2
          cases neg with
          | false => exact op_inD hu pins s σ H x y v u Q I rx ry ⟨d, ds, l1, l2, hs.1, hs.2, q_bool sr (by simpa using q) pq⟩
          | true => exact op_notInD hu pins s σ H x y v u Q I rx ry ⟨d, ds, l1, l2, hs.1, hs.2, q_bool sr (by simpa using q) pq⟩
        · cases e
      · cases e
end
end Z
set_option maxHeartbeats 4000000
/-! X3: super().__init__(..) in an own exception over ValueError -/
namespace Z
open PySem PySem.Spec PyProof.Rows L2
/-- ValueError.__init__ bound to the instance at x -/
abbrev boundV (x : Addr) : Obj := { cls := .type "method-wrapper", dict := none, data := .fields #[.builtin "ValueError.__init__", .ref x], slots := #[] }
theorem typ_vi : typeOf (.builtin "ValueError.__init__") = pure (.type "wrapper_descriptor") := by
  show builtinType _ = _
  rw [builtinType_eq_fast]
  kernel_rfl
theorem name_vi : (kfb_private% "nameAndClass") (Value.builtin "ValueError.__init__") = (pure (("__init__" : Str), Value.type "ValueError") : Sem (Str × Value)) := by kernel_rfl
section
open PySem.W
variable {prog : Program} {w : World} {M : Model} {A : Around} {E : Value → Shared → Prop} {s : Shared} {x C : Addr}
theorem getV {P : Fin → Shared → Prop} (isV : W.Looks M s.heap (isInstance (.ref x) (.type "ValueError")) true) (q : P (.done (.ret (.ref s.heap.objs.size))) { s with heap := s.heap.push (boundV x) }) :
    wpAny M A (Builtin.«wrapper_descriptor.__get__» ⟨[.builtin "ValueError.__init__", .ref x, .ref C], []⟩) P E s := by
  unfold Builtin.«wrapper_descriptor.__get__»
  refine wpAny_bind (wpAny_of_eq (a := (.builtin "ValueError.__init__", some (.ref x), some (.ref C))) (by first | rfl | kernel_rfl) ?_)
  show wpAny M A ((kfb_private% "checkInstance") (.builtin "ValueError.__init__") (.ref x) >>= fun _ => newFields "method-wrapper" [.builtin "ValueError.__init__", .ref x] >>= fun r => ret r) P E s
  refine wpAny_bind (wpAny_bind (wpAny_of_eq name_vi (wpAny_bind (isV.here (KFB.if_not rfl (wpAny_pure ?_))))))
  exact wpAny_bind (wpAny_newObj_type (wpAny_pure q))
end
section
open PySem.W
variable {prog : Program} {w : World} {A : Around} {E : Value → Shared → Prop} {s : Shared} {so D x C : Addr} {l₀ l : List Value} {K : Frag} {name : Str} {tk : Tok}
/-- what is to be known of super() and the classes behind it -/
structure SupV (prog : Program) (w : World) (h : Heap) (K : Frag) (so D x C : Addr) (name : Str) (l₀ l : List Value) : Prop where
  ob : h.get? so = some { cls := .type "super", dict := none, data := .fields #[.ref D, .ref x, .ref C], slots := #[] }
  op : W.Looks (model prog w) h (opaqueClassAbove (.ref C)) none
  mr : W.Looks (model prog w) h (mroOf (.ref C)) l₀
  cut : (l₀.dropWhile (· != .ref D)).drop 1 = l
  kin : K.In h
  al : alongIn K name l = some (some (.builtin "ValueError.__init__"))
  ne : x ≠ C
  nc : (name == ("__class__" : Str)) = false
  isV : W.Looks (model prog w) h (isInstance (.ref x) (.type "ValueError")) true
theorem superV {Q : Fin → Shared → Prop} (S : SupV prog w s.heap K so D x C name l₀ l) (q : Q (.done (.ret (.ref s.heap.objs.size))) { s with heap := s.heap.push (boundV x) }) :
    wpAny (model prog w) A (Builtin.«super.__getattribute__» ⟨[.ref so, .str name tk], []⟩) Q E s := by
  have lk := ESX.slot_wd.lookup
  have n1 : (Value.ref x == Value.ref C) = false := by simp [S.ne]
  have n2 := S.nc
  have t1 := typ_vi
  have t2 : Shared.TypeIs s (.builtin "ValueError.__init__") "wrapper_descriptor" := typ_vi
  have dat : ({ cls := .type "super", dict := none, data := .fields #[.ref D, .ref x, .ref C], slots := #[] } : Obj).data = .fields #[.ref D, .ref x, .ref C] := rfl
  have f0 : (#[.ref D, .ref x, .ref C] : Array Value)[0]? = some (.ref D) := rfl
  have f1 : (#[.ref D, .ref x, .ref C] : Array Value)[1]? = some (.ref x) := rfl
  have f2 : (#[.ref D, .ref x, .ref C] : Array Value)[2]? = some (.ref C) := rfl
  have ob := S.ob
  have cut := S.cut
  unfold Builtin.«super.__getattribute__»
  repeat (first
    | (with_reducible refine wpAny_field ob dat f0 ?_)
    | (with_reducible refine wpAny_field ob dat f1 ?_)
    | (with_reducible refine wpAny_field ob dat f2 ?_)
    | (with_reducible refine ks_wpAny_notOpaque S.op ?_)
    | (with_reducible refine Looks.here S.mr ?_; rw [cut])
    | (refine ks_forIn_along S.kin (fun _ _ => rfl) rfl ?_ S.al)
    | (with_reducible refine wpAny_call_entry ESX.slot_wd t2 ESX.entry_wd ?_ (ESX.args_wd _ _ _))
    | (with_reducible refine getV S.isV ?_)
    | (with_reducible refine ⟨_, rfl, ?_⟩)
    | (simp only [n2, n1, Bool.or_false, Bool.false_eq_true, if_false])
    | wp_step
    | dsimp only)
  all_goals exact q
end
section
open PySem.W PySem.Calls
variable {prog : Program} {w : World} {M : Model} {A : Around} {E : Value → Shared → Prop} {s : Shared} {so D x C : Addr} {l₀ l : List Value} {K : Frag} {name : Str}
/-- super().name as a method -/
theorem methodV {pl : Sem Bool} {Q : Value × List Value → Shared → Prop} (S : SupV prog w s.heap K so D x C name l₀ l) (q : Q (.ref s.heap.objs.size, []) { s with heap := s.heap.push (boundV x), toks := s.toks + 1 }) :
    wpAny (model prog w) A (getMethod (.ref so) name pl) Q E s := by
  have lk := F.ks_slot_super_ga.lookup
  have ty : ∀ t', Shared.TypeIs { s with toks := t' } (.ref so) "super" := fun _ => ⟨_, S.ob, rfl⟩
  unfold getMethod
  refine wpAny_bind (wpAny_specialOf (ty s.toks) lk ?_)
  show wpAny _ _ (if (Manifest.canonical "super.__getattribute__" != "object.__getattribute__") = true then _ else _) _ _ _
  rw [if_pos F.ks_canon_super_ga]
  unfold getAttr getAttrBy
  refine wpAny_bind (wpAny_bind (wpAny_mkText (wpAny_holding (wpAny_bind (wpAny_typeOf (ty _) (wpAny_bind (wpAny_of_eq lk ?_)))))))
  show wpAny _ _ (getAttrByItsOwn (.ref so) (.str name s.toks) (.type "super") (.builtin "super.__getattribute__") true false) _ _ _
  unfold getAttrByItsOwn hookBefore callGetattribute boundAndCalled
  refine wpAny_bind (wpAny_of_eq (show (if onTheHeap (.type "super") then typeLookup (.type "super") "__getattr__" else pure none) = pure none from rfl) ?_)
  refine wpAny_bind (wpAny_attempt (wpAny_holding (wpAny_bind (wpAny_of_eq (F.ks_slot_super_ga.bind _) ?_))))
  have S1 : SupV prog w ({ s with toks := s.toks + 1 } : Shared).heap K so D x C name l₀ l := S
  refine wpAny_mono (Q := fun v s' => v = .ref s.heap.objs.size ∧ s' = { s with heap := s.heap.push (boundV x), toks := s.toks + 1 }) (E := fun _ _ => False)
    (wpAny_call_entry F.ks_slot_super_ga (ty _) F.ks_entry_super_ga (superV S1 ⟨_, rfl, rfl, rfl⟩) (F.ks_gaArgs_super _ _)) (fun v s' z => ?_) fun _ _ z => z.elim
  obtain ⟨rfl, rfl⟩ := z
  exact wpAny_pure (wpAny_pure q)
/-- calling the wrapper -/
theorem withV {pos : Pos} {u : Addr} {args : List (Bool × Sem Value)} {Q : Value → Shared → Prop} (plain : args.any (·.1) = false)
    (h : wpAny M A (evalArgs (.ref u) true args []) (fun a s₁ => s₁.heap.get? u = some (boundV x) ∧ wpAny M A (call (.ref u) a.pos a.kw) Q E s₁) E s) : wpAny M A (callWith pos (.ref u) [] args []) Q E s := by
  unfold callWith
  refine wpAny_bind (wpAny_holding (wpAny_mono h (fun a s₁ z => wpAny_bind (wpAny_standAt ?_)) fun _ _ z => z))
  obtain ⟨ho, hcall⟩ := z
  simp only [plain, List.any_nil, Bool.or_false]
  refine wpAny_bind (m := keeperOf (.ref u)) ?_
  unfold keeperOf
  refine wpAny_bind (wpAny_load ho ?_)
  have k1 : (Value.type "method-wrapper" != Value.type "method") = true := by decide
  have k2 : (Value.type "method-wrapper" == Value.type "builtin_function_or_method" || Value.type "method-wrapper" == Value.type "method-wrapper") = true := by decide
  simp only [boundV, k1, k2, if_true]
  exact wpAny_pure (wpAny_bind (wpAny_mono hcall (fun r s₂ z => wpAny_bind (wpAny_holding (wpAny_point (wpAny_pure z)))) fun _ _ z => z))
end
section
variable {prog : Program} {w : World} {A : Around} {E : Value → Shared → Prop} {s : Shared}
variable {nm q : Str} {C N : Addr} {bs bm : List Value} {hdct : Bool} {sn : List Str} {sub : List Value} {ab : Bool} {col : Option Bool} {dd : Option Addr} {k0 k1 k2 k3 k5 : Option Value}
theorem callV {u e t0 : Addr} {rest : List Value} {Q : Value → Shared → Prop}
    (cls : s.heap.get? C = some (excClassObj nm q C N bs bm hdct sn sub ab col dd k0 k1 k2 k3 k5 "ValueError.__new__")) (ex : s.heap.get? e = some (PySem.HandSPX.excO C t0)) (wr : s.heap.get? u = some (boundV e)) (few : rest.length ≤ sizeLine)
    (fin : ∀ h' t1, (∀ b o, b ≠ e → s.heap.get? b = some o → h'.get? b = some o) → h'.get? e = some (PySem.HandSPX.excO C t1) → Q .none { s with heap := h' }) :
    wpAny (model prog w) A (call (.ref u) rest) Q E s := by
  refine wpAny_call (codeAny_of_tree ?_)
  show wpAny _ A.in1 (callAny (.ref u) ⟨rest, []⟩) _ _ _
  simp only [callAny]
  refine wpAny_bind (wpAny_load wr ?_)
  have k1 : (Value.type "method-wrapper" == Value.type "method" || Value.type "method-wrapper" == Value.type "builtin_function_or_method" || Value.type "method-wrapper" == Value.type "method-wrapper") = true := by decide
  simp only [boundV, k1, if_true]
  refine W.KFB.if_so (by decide) ?_
  refine wpAny_bind (ESX.check_bound PySem.F.excBase_ValueError cls ex rfl ?_)
  refine wpAny_pure ⟨Code.quiet_builtin _ (by decide +kernel), codeAny_builtin PySem.F.excBase_ValueError.initEntry ?_⟩
  rw [Around.under_plainId PySem.F.excBase_ValueError.init.plain _]
  wp_walk
  refine fin _ s.heap.objs.size (fun b o hb ho => ?_) ?_
  · exact (Heap.get?_update_other _ _ (Ne.symm hb)).trans (Heap.get?_push_of_some _ ho)
  · rw [Heap.get?_update_self _ (Heap.get?_push_of_some _ ex) rfl]
    rfl
end
end Z
set_option maxHeartbeats 4000000
/-! X4: e.f += i -/
namespace Z
open PySem PySem.Spec PyProof.Rows L2
section
variable {X : Cx} {T : Tab} {Wx : WX} {k : Nat} {N : List Str} {mg : Str → Option Value} {sc : Scope}
/-- e.f += i, e.f -= i, numbers -/
def wAugF (ok : Nat → Prop) (add : Bool) (f : Str) (te tv : TE2) : TS2 := fun D σ M => te σ M (fun x M1 => ∃ a c dx fs i, x = .c a ∧ M1 a = some (.ins c dx fs) ∧ ok c ∧ fs.lookup f = some (.d (.int i)) ∧
  tv σ M1 (fun y M2 => ∃ j dx' fs', y = .d (.int j) ∧ M2 a = some (.ins c dx' fs') ∧ fs'.length < 1000 ∧ D.nx σ (put M2 a (.ins c dx' (putW f (.d (.int (if add = true then i + j else i - j))) fs')))) fun x M2 => D.ex x σ M2) fun x M1 => D.ex x σ M1
theorem s_augF {ok : Nat → Prop} {add : Bool} {f : Str} {te tv : TE2} {o value : Expr} {pos tpos : Pos} (hK : X.K = T.K) (hc : ∀ c, ok c → Cls T.K (T.cls c) ∧ NoAttr T.K (T.cls c) f) (ho : PE X o (lowE T Wx te)) (hv : PE X value (lowE T Wx tv)) :
    PS X (.AugAssign (.Attribute o f tpos) (if add = true then .Add else .Sub) value pos) (lowS T Wx (wAugF ok add f te tv)) := by
  have op : InOp X (if add = true then .Add else .Sub) (if add = true then rAdd else rSub) := by
    cases add with
    | true => exact in_add
    | false => exact in_sub
  refine (ps_fldaug ho hv op).imp fun D σ H h => ?_
  obtain ⟨G, σ2, M, D2, sr, rs, q, pd⟩ := h
  refine ⟨G, σ2, M, _, _, sr, rs, q, fun x M1 G1 H1 u m1 sr1 rw1 q1 => ?_, pd.px rs⟩
  obtain ⟨a, c, dx, fs, i, rfl, e, e2, e3, q1⟩ := q1
  cases (show u = .ref a from rw1)
  obtain ⟨_, o', h1, vs, rfl, rr⟩ := sr1.ce _ _ e
  obtain ⟨c1, c2⟩ := hc c e2
  obtain ⟨v, hv', rv⟩ := RKs.get rr e3
  cases (show v = .int i from rv)
  rw [hK]
  refine ⟨a, _, dx, vs, .int i, rfl, h1, c1, c2, hv', G1, σ2, M1, _, _, sr1, rs.mono m1, q1, fun y M2 G2 H2 w m2 sr2 rw2 q2 => ?_, (pd.mono m1).px (rs.mono m1)⟩
  obtain ⟨j, dx', fs', rfl, e4, e5, q2⟩ := q2
  cases (show w = .int j from rw2)
  obtain ⟨_, o2, h2, vs', rfl, rr2⟩ := sr2.ce _ _ e4
  have fin : ∀ z : Int, z = (if add = true then i + j else i - j) → ∃ dx' fs', H2 a = some (.ins (T.cls c) dx' fs') ∧ fs'.length < 1000 ∧ D.nx σ (upd H2 a (.ins (T.cls c) dx' (L2.putF f (.int z) fs'))) := by
    rintro z rfl
    exact ⟨dx', vs', h2, by rw [← RKs.size rr2]; exact e5, pd.nx _ _ G2 _ _ (m1.trans m2) (sr2.write e4 (show RC T G2 (.ins c dx' (putW f (.d (.int _)) fs')) (.ins (T.cls c) dx' (L2.putF f (.int _) vs')) from ⟨_, rfl, RKs.putF (show RW T G2 (.d (.int _)) (.int _) from rfl) rr2⟩)) (rs.mono (m1.trans m2)) q2⟩
  cases add with
  | true => exact ⟨i, j, rfl, rfl, fin _ rfl⟩
  | false => exact ⟨i, j, rfl, rfl, fin _ rfl⟩
end
end Z
set_option maxHeartbeats 4000000
/-! X5: the __init__ of an own exception over ValueError: super().__init__(text), then fields -/
namespace Z
open PySem PySem.Spec PyProof.Rows L2
/-- what is known of the class C, whose __init__ is at f -/
structure ExC (P : Program) (K : PySem.W.Frag) (mg : Str → Option Value) (C : Addr) : Prop where
  T : OexC K C
  sup : mg "super" = none
  opq : PySem.W.nsIn K cStatics "thirdparty.any" = some none
  al : PySem.W.ks_superIn K C C "__init__" = some (some (.builtin "ValueError.__init__"))
  sv : PySem.W.subIn K (.ref C) (.type "ValueError") = some true
  mr : PySem.W.mroIn K C (.ref C) = some true
  top : (P.main.scope.names.lookup ("super" : Str)).isSome = false
/-- .. of the def -/
structure ExF (P : Program) (K : PySem.W.Frag) (C : Addr) (x qual : Str) (st : Stmt) (f : Addr) (fd : FuncData) : Prop where
  ex : ∃ (oc : Value) (od : Option Addr) (kV doc pm : Value) (an : Option Addr) (cda : Addr) (ct : Value) (osl : Array (Option Value)) (cc : Addr),
    fd = PySem.W.ksFn x qual (defArgs st) (defBody st) (defScope st) .none kV doc pm an (.ref cda) ct cc ∧ K.lookup f = some ⟨oc, od, .func fd, osl⟩ ∧ PySem.W.codeIn K (.ref cda) qual = true ∧
    (∃ cl cld csl, K.lookup cc = some ⟨cl, cld, .cell (some (.ref C)), csl⟩) ∧
    (∃ ccl cdd vs ccs file tf, K.lookup cda = some ⟨ccl, cdd, .fields vs, ccs⟩ ∧ vs[2]? = some (.str file tf) ∧ ((P.main.file : Str) == file) = true)
section
variable {X : Cx} {pins : List (Addr × Obj)} {σ : L2.St} {H : Hp} {s : Shared} {body : List Stmt} {C a f cc cda : Addr} {fd : FuncData} {ar : Arg}
theorem super_run {p0 p1 p2 apos pos : Pos} {z : Str} {j : Nat} {oc cl ccl : Value} {od cld cdd : Option Addr} {osl csl ccs : Array (Option Value)} {vs : Array Value} {file : Str} {tf : Tok}
    (T : ExC X.prog X.K X.mg C) (I : Inv X pins σ H s)
    (hk : X.env.scope.names.lookup ("super" : Str) = some .globalImplicit) (hkc : X.env.scope.names.lookup ("__class__" : Str) = some .free)
    (hcc : X.env.cells.lookup ("__class__" : Str) = some cc) (hccK : X.K.lookup cc = some ⟨cl, cld, .cell (some (.ref C)), csl⟩)
    (hfu : X.env.func = some f) (hf : X.K.lookup f = some ⟨oc, od, .func fd, osl⟩) (hp : (fd.params.posonlyargs ++ fd.params.args).head? = some ar)
    (hco : X.env.code = .ref cda) (hcd : X.K.lookup cda = some ⟨ccl, cdd, .fields vs, ccs⟩) (hvs : vs[2]? = some (.str file tf)) (hfile : ((X.prog.main.file : Str) == file) = true)
    (h0 : X.N[0]? = some ar.arg) (hl : X.env.scope.names.lookup ar.arg = some .local) (h1 : σ[0]? = some (some (.ref a))) (ha : H a = some (exo a C none)) (line : (apos.endLine == pos.line) = true) :
    _root_.PySem.wpAt (model X.prog X.w) X.A (.func body X.env) (eval (.Call (.Attribute (.Call (.Name "super" p0) [] [] p1) "__init__" apos) [.Constant (.str z) j p2] [] pos) X.env) (fun _ s' => Inv X pins σ H s') X.xe s := by
  have tree : eval (.Call (.Attribute (.Call (.Name "super" p0) [] [] p1) "__init__" apos) [.Constant (.str z) j p2] [] pos) X.env = (do
      let ov ← attributeBase (.Call (.Name "super" p0) [] [] p1) "__init__" X.env (eval (.Call (.Name "super" p0) [] [] p1) X.env)
      standAt apos.atName
      let (g, first) ← holding [ov] (getMethod ov "__init__" (L2.plainOf (.Call (.Name "super" p0) [] [] p1) X.env))
      callWith pos g first (backTo pos (starEach [.Constant (.str z) j p2] X.env)) []) := by
    rw [arm_eval_Call]
    have e : (fun ov => methodCall (.Call (.Name "super" p0) [] [] p1) "__init__" apos pos X.env ov ([Expr.Constant (.str z) j p2].length + ([] : List Keyword).length) (backTo pos (starEach [.Constant (.str z) j p2] X.env)) (backToKw pos (keywordEach [] X.env))) = fun ov => (do
      let (g, first) ← holding [ov] (getMethod ov "__init__" (L2.plainOf (.Call (.Name "super" p0) [] [] p1) X.env))
      callWith pos g first (backTo pos (starEach [.Constant (.str z) j p2] X.env)) (backToKw pos (keywordEach [] X.env))) := funext fun ov => L2.mcall_line (form_of rfl (by show 1 < 29; omega)) line
    exact congrArg (fun t : Value → Sem Value => (do
      let ov ← attributeBase (.Call (.Name "super" p0) [] [] p1) "__init__" X.env (eval (.Call (.Name "super" p0) [] [] p1) X.env)
      standAt apos.atName
      t ov)) e
  obtain ⟨nm, q, Nn, bs, bm, sn, sub, ab, col, dd, k0, k1, k2, k3, k5, hC, hbm⟩ := T.T.cls
  have hcl : PySem.W.clsIn X.K C = some { name := nm, bases := bs, mro := .ref C :: bm, ns := Nn, qualname := q, hasDict := true, slotNames := sn, subclasses := sub, abstract := ab, collection := col, hasDel := false } := by unfold PySem.W.clsIn; rw [hC] <;> rfl
  have al := T.al
  unfold PySem.W.ks_superIn at al
  rw [hcl] at al
  refine PySem.ks_wpAt_MethodCall (pl := L2.plainOf (.Call (.Name "super" p0) [] [] p1) X.env) ?_ tree
  have kin := I.kIn
  obtain ⟨mb, hb1, hb2⟩ := I.mod.blt
  obtain ⟨ml, hml, hlk⟩ := I.loc
  obtain ⟨u, ru, lk⟩ := hlk 0 ar.arg (.ref a) h0 h1 (.inl hl)
  cases ru
  have hself : ml ar.arg = some (.ref a) := by
    rcases lk with ⟨_, e⟩ | ⟨k, _⟩
    · exact e
    · rcases k with k | k
      · rw [show X.env.kindOf ar.arg = some .local from hl] at k; cases k
      · rw [show X.env.kindOf ar.arg = some .local from hl] at k; cases k
  have hka : X.env.kindOf ar.arg = some .local := hl
  obtain ⟨t0, hoe⟩ := exo_at I.hok ha
  have mr := T.mr
  refine PySem.ks_wpAt_super_base (of := ⟨oc, od, .func fd, osl⟩) (oc := ⟨ccl, cdd, .fields vs, ccs⟩) hk hkc rfl hfu (kin _ _ hf) rfl hp hco (kin _ _ hcd) rfl hvs hfile T.top ?_
  refine PySem.W.ks_loadName_global I.ok.kind hk (Calls.loadGlobal_builtin (by rw [I.ok.glob]; exact I.mod.glob.keeps I.bk) T.sup (by rw [I.ok.blt]; exact hb1.keeps I.bk) ((hb2 "super" (by decide)).trans (by first | boot_by_name | rfl | kernel_rfl)) ⟨rfl, ?_⟩)
  refine wpAny_loadName_free I.ok.kind hkc hcc ⟨_, kin _ _ hccK, rfl⟩ ?_
  refine wpAny_loadName_local I.ok.kind hka hml hself ?_
  have objC := kin _ _ hC
  refine PySem.ks_wpAny_isType_cls objC rfl ⟨rfl, ?_⟩
  refine PySem.ks_wpAny_call_super objC rfl hoe rfl (fun c e => nomatch e) (PySem.W.looks_mroIn kin mr) fun h' e k => ?_
  have I1 : Inv X pins σ H { s with heap := h' } := I.kept (t' := s.toks) k
  have neC : a ≠ C := fun y => by
    subst y
    have w := objC
    rw [hoe] at w
    cases w
  have S : SupV X.prog X.w h' X.K s.heap.objs.size C a C "__init__" (.ref C :: bm) (((Value.ref C :: bm).dropWhile (· != .ref C)).drop 1) :=
    { ob := e, op := PySem.W.looks_opaque I1.kIn T.opq, mr := fun A Q E s k' q => wpAny_bind ((PySem.W.looks_clsIn I1.kIn hcl) A _ E s k' (wpAny_pure q)), cut := rfl, kin := I1.kIn, al := al, ne := neC, nc := rfl,
      isV := (PySem.W.InstAt.type (od := none) (⟨k _ _ hoe, rfl, rfl, trivial⟩ : PySem.W.InstAt h' a _ C none)).andThen (PySem.W.looks_subIn I1.kIn T.sv) }
  refine methodV (s := { s with heap := h' }) S ?_
  have I2 : Inv X pins σ H { s with heap := h'.push (boundV a), toks := s.toks + 1 } := I1.kept (t' := s.toks + 1) fun b o y => Heap.get?_push_of_some _ y
  have wr : (h'.push (boundV a)).get? h'.objs.size = some (boundV a) := Heap.get?_push_size h' rfl
  show wpAny _ _ (callWith pos (.ref h'.objs.size) [] (backTo pos (starEach [.Constant (.str z) j p2] X.env)) []) _ _ _
  refine withV (x := a) rfl ?_
  have pa : PA X [.Constant (.str z) j p2] (tCons (tC (.str z)) tNil) := pa_cons pe_str pa_nil
  have pinW : Inv X ((h'.objs.size, boundV a) :: pins) σ H { s with heap := h'.push (boundV a), toks := s.toks + 1 } := by
    refine ⟨I2.ok, I2.os, I2.bare, I2.base, I2.loc, I2.cell, I2.free, I2.freeC, fun p hp => ?_, I2.hok, I2.len⟩
    rcases List.mem_append.mp hp with hp | hp
    · exact I2.pin p (List.mem_append_left _ hp)
    · rcases List.mem_cons.mp hp with rfl | hp
      · refine ⟨wr, I1.hok.fresh (Nat.le_refl _), fun y => ?_, fun hm => ?_, fun v y => nomatch y⟩
        · obtain ⟨m', ⟨oL, es, ep, hL, r'⟩, _⟩ := I1.loc
          have w := Heap.lt_size hL
          rw [← y] at w
          exact absurd w (Nat.lt_irrefl _)
        · obtain ⟨_, o0, e0, _⟩ := I1.ok.funs.mem hm
          obtain ⟨o', e'⟩ := I1.base.there _ o0 e0 fun y => I1.ok.exfs _ y hm
          exact absurd (Heap.lt_size e') (Nat.lt_irrefl _)
      · exact I2.pin p (List.mem_append_right _ hp)
  refine PySem.Calls.evalArgs_plain (thn (pa.run pos _ _ σ H (fun vs1 H1 => vs1 = [V.str z] ∧ H = H1) pinW ⟨rfl, rfl⟩) fun us s1 hh => ?_)
  obtain ⟨vs1, H1, I3, r1, ev, eH⟩ := hh
  subst ev
  subst eH
  obtain ⟨hw1, _⟩ := I3.pin (h'.objs.size, boundV a) (List.mem_append_right _ List.mem_cons_self)
  have I4 : Inv X pins σ H s1 := ⟨I3.ok, I3.os, I3.bare, I3.base, I3.loc, I3.cell, I3.free, I3.freeC, fun p hp => I3.pin p (by
    rcases List.mem_append.mp hp with hp | hp
    · exact List.mem_append_left _ hp
    · exact List.mem_append_right _ (List.mem_cons_of_mem _ hp)), I3.hok, I3.len⟩
  refine ⟨hw1, ?_⟩
  obtain ⟨t1, hoe1⟩ := exo_at I4.hok ha
  obtain ⟨hp1, g1, d1, tk1, os1⟩ := s1
  refine callV (I4.kIn _ _ hC) hoe1 hw1 (by rw [← r1.length]; show 1 ≤ sizeLine; rw [sizeLine_eq]; omega) fun h2 t2 k2 hx => ?_
  have J := I4.write (t' := tk1) (x := a) (e := a) (o := exo a C none) (by rw [ha]; exact True.intro) (.inl rfl) k2 ⟨_, hx⟩ (exo_ok hx)
  have eu : upd H a (exo a C none) = H := by
    funext b
    by_cases hb : b = a
    · rw [hb, upd_same, ha]
    · rw [upd_ne hb]
  rw [eu] at J
  exact J
end
/-! ### the context of such a def's body -/
def cxE (P : Program) (w : World) (K : PySem.W.Frag) (mg : Str → Option Value) (base : Heap) (N : List Str) (qual : Str) (scope : Scope) (f cc : Addr) (cd : Value) (A : Around) (outer : List Env) (s : Shared) (H : Hp) (E : XK) : Cx where
  prog := P
  w := w
  K := K
  mg := mg
  base := base
  A := A.deeper (PySem.W.ksEnv qual scope s.heap.objs.size f cd cc)
  N := N
  s_0 := s
  H_0 := H
  env := PySem.W.ksEnv qual scope s.heap.objs.size f cd cc
  outer := outer
  stack := PySem.W.ksEnv qual scope s.heap.objs.size f cd cc :: outer
  ex := []
  calm := true
  fn := fun x => !(x == ("__class__" : Str))
  pn := []
  xe := fun e s' => wpAny (model P w) (A.deeper (PySem.W.ksEnv qual scope s.heap.objs.size f cd cc)) (leaving (PySem.W.ksEnv qual scope s.heap.objs.size f cd cc) e) (fun _ s'' => L2.CX P w outer H s E e s'') (fun e' s'' => L2.CX P w outer H s E e' s'') s'
/-- the names of such a def -/
structure ExScope (N ps : List Str) (sc : Scope) : Prop where
  kind : sc.kind = .function
  co : sc.isCoroutine = false
  gen : sc.isGenerator = false
  nd : N.Nodup
  pre : N.take ps.length = ps
  par : ∀ x ∈ ps, sc.names.lookup x = some .local
  nocell : ∀ y ∈ sc.names, y.2 ≠ .cell
  free : ∀ y ∈ sc.names, y.2 = .free → y.1 = "__class__"
  cls : sc.names.lookup ("__class__" : Str) = some .free
  sup : sc.names.lookup ("super" : Str) = some .globalImplicit
theorem lookup_memE {α : Type} {x : Str} {v : α} : ∀ {l : List (Str × α)}, l.lookup x = some v → (x, v) ∈ l
  | [], h => nomatch h
  | (y, w) :: r, h => by
    rw [List.lookup] at h
    split at h
    · rename_i e
      cases h
      rw [beq_iff_eq.mp e]
      exact List.mem_cons_self
    · exact List.mem_cons_of_mem _ (lookup_memE h)
theorem lookup_not {x : Str} : ∀ {ps : List Str} {us : List Value}, x ∉ ps → (ps.zip us).lookup x = none
  | [], _, _ => rfl
  | _ :: _, [], _ => rfl
  | p :: ps, u :: us, h => by
    have e : (x == p) = false := beq_false_of_ne fun (e : x = p) => h (by rw [e]; exact List.mem_cons_self)
    show List.lookup x ((p, u) :: ps.zip us) = none
    rw [List.lookup, e]
    exact lookup_not fun m => h (List.mem_cons_of_mem _ m)
theorem lookup_app {α : Type} {x : Str} : ∀ {a b : List (Str × α)}, a.lookup x = none → (a ++ b).lookup x = b.lookup x
  | [], _, _ => rfl
  | (y, w) :: r, b, h => by
    rw [List.lookup] at h
    show List.lookup x ((y, w) :: (r ++ b)) = _
    rw [List.lookup]
    split at h
    · cases h
    · exact lookup_app h
theorem lookup_app1 {α : Type} {x : Str} {v : α} : ∀ {a b : List (Str × α)}, a.lookup x = some v → (a ++ b).lookup x = some v
  | [], _, h => nomatch h
  | (y, w) :: r, b, h => by
    rw [List.lookup] at h
    show List.lookup x ((y, w) :: (r ++ b)) = _
    rw [List.lookup]
    split at h
    · exact h
    · exact lookup_app1 h
theorem lookup_rev {x : Str} : ∀ {l : List (Str × Value)}, l.lookup x = none → l.reverse.lookup x = none
  | [], _ => rfl
  | (y, w) :: r, h => by
    rw [List.lookup] at h
    split at h
    · cases h
    · rename_i e
      rw [List.reverse_cons, lookup_app (lookup_rev h), List.lookup, e]
      rfl
theorem zip_get : ∀ {ps : List Str} {us : List Value} {i : Nat} {x : Str} {u : Value}, ps.Nodup → ps[i]? = some x → us[i]? = some u → (ps.zip us).reverse.lookup x = some u
  | [], _, _, _, _, _, h, _ => nomatch h
  | _ :: _, [], _, _, _, _, _, h => by simp at h
  | p :: ps, w :: us, 0, x, u, nd, h1, h2 => by
    cases h1
    cases h2
    show ((p, w) :: ps.zip us).reverse.lookup p = some w
    rw [List.reverse_cons, lookup_app (lookup_rev (lookup_not (List.nodup_cons.mp nd).1))]
    rw [List.lookup, beq_self_eq_true]
  | p :: ps, w :: us, i + 1, x, u, nd, h1, h2 => by
    show ((p, w) :: ps.zip us).reverse.lookup x = some u
    rw [List.reverse_cons]
    exact lookup_app1 (zip_get (List.nodup_cons.mp nd).2 (by simpa using h1) (by simpa using h2))
section
variable {P : Program} {w : World} {K : PySem.W.Frag} {mg : Str → Option Value} {base : Heap}
theorem invE_start {N ps : List Str} {qual : Str} {scope : Scope} {f cc C : Addr} {cd : Value} {A : Around} {outer : List Env} {s : Shared} {H : Hp} {E : XK} {us : List Value} {vs : List V} {h1 : Heap} {t1 : Nat} {cl : Value} {cld : Option Addr} {csl : Array (Option Value)}
    (S : ExScope N ps scope) (hd : A.handled = none) (e0 : Env0 P w K mg base A outer s H) (hl : vs.length = ps.length) (r : Vals vs us) (hns : h1.Ns s.heap.objs.size fun x => (ps.zip us).reverse.lookup x) (hk : ∀ b o, s.heap.get? b = some o → h1.get? b = some o)
    (hcK : K.lookup cc = some ⟨cl, cld, .cell (some (.ref C)), csl⟩) :
    Inv (cxE P w K mg base N qual scope f cc cd A outer s H E) [] (L2.start N vs) H { s with heap := h1, toks := t1 } := by
  have hpl : ps.length ≤ N.length := by have := congrArg List.length S.pre; rw [List.length_take] at this; omega
  have noA : ∀ b : Addr, b ∉ (cxE P w K mg base N qual scope f cc cd A outer s H E).ex := fun b z => absurd (show b ∈ ([] : List Addr) from z) (by simp)
  have cell1 : ∀ {y : Str} {c : Addr}, (PySem.W.ksEnv qual scope s.heap.objs.size f cd cc).cells.lookup y = some c → y = "__class__" ∧ c = cc := fun {y c} h => by
    have m := lookup_memE (show List.lookup y [(("__class__" : Str), cc)] = some c from h)
    rcases List.mem_cons.mp m with e | e
    · cases e; exact ⟨rfl, rfl⟩
    · exact absurd e (by simp)
  have bc := e0.bs cc _ (e0.mod.kin _ _ hcK)
  refine ⟨⟨e0.mod, S.kind, rfl, rfl, Nat.le_refl _, fun y z c q1 q2 => ?_, fun y hy => ?_, fun y c hf h => ?_, fun _ => hd, Around.frames_deeper e0.frames, .inr ⟨rfl, rfl⟩, fun b z => absurd z (noA b), e0.bs, e0.bsz, fun b _ _ => noA b, fun b z => absurd z (noA b), e0.funs, e0.frf⟩,
    rfl, e0.bare, Un.kept hk, ⟨_, hns, fun i y v q1 q2 q3 => ?_⟩, fun y c h => ?_, e0.hok.fresh (Nat.le_refl _), fun y c h => ?_, fun p hp => absurd (show p ∈ ([] : List (Addr × Obj)) from hp) (by simp), e0.hok.kept hk, ?_⟩
  · exact (cell1 q1).1.trans (cell1 q2).1.symm
  · rcases hy with hy | hy
    · exact absurd rfl (S.nocell _ (lookup_memE (show scope.names.lookup y = some .cell from hy)))
    · have e := S.free _ (lookup_memE (show scope.names.lookup y = some .free from hy)) rfl
      refine ⟨cc, ?_⟩
      show List.lookup y [(("__class__" : Str), cc)] = some cc
      rw [show y = ("__class__" : Str) from e]
      rfl
  · rw [(cell1 h).1] at hf
    cases (show (!(("__class__" : Str) == ("__class__" : Str))) = true from hf)
  · have hi : i < vs.length := by
      unfold L2.start at q2
      by_cases hi : i < vs.length
      · exact hi
      · rw [List.getElem?_append_right (by simpa using hi), List.getElem?_replicate] at q2
        split at q2 <;> cases q2
    have ha : vs[i]? = some v := by
      unfold L2.start at q2
      rw [List.getElem?_append_left (by simpa using hi), List.getElem?_map] at q2
      cases e : vs[i]? with
      | none => rw [e] at q2; cases q2
      | some x => rw [e] at q2; cases q2; rfl
    obtain ⟨u, hu, rv⟩ := r.get ha
    have hp : ps[i]? = some y := by
      rw [← S.pre, List.getElem?_take_of_lt (by omega)]; exact q1
    have ndP : ps.Nodup := by rw [← S.pre]; exact S.nd.sublist (List.take_sublist _ _)
    exact ⟨u, rv, .inl ⟨S.par y (List.mem_of_getElem? hp), zip_get ndP hp hu⟩⟩
  · rw [(cell1 h).2]
    exact ⟨_, _, hk _ _ bc.1, rfl⟩
  · rw [(cell1 h).2]
    exact bc.2
  · show (L2.start N vs).length = N.length
    unfold L2.start
    simp
    omega
end
/-! ### the stores -/
/-- what stands in the exception in the end -/
def exFin (H : Hp) (a C dx : Addr) : List (Str × V) → Hp
  | [] => H
  | p :: r => upd (upd H dx (exd dx (p :: r))) a (exo a C (some dx))
def kStores (N : List Str) (sc : Scope) : List (Str × Nat) → List Stmt → Bool
  | [], xs => match xs with
    | [] => true
    | _ => false
  | (g, i) :: r, xs => match xs with
    | .Assign [.Attribute (.Name n _) h _] (.Name m _) _ :: xs => decide (h = g) && decide (N[0]? = some n) && decide (N[i]? = some m) && decide (sc.names.lookup n = some .local) && decide (sc.names.lookup m = some .local) &&
      !(n == ("__debug__" : Str)) && !(n == ("__classdict__" : Str)) && !(m == ("__debug__" : Str)) && !(m == ("__classdict__" : Str)) && kStores N sc r xs
    | _ => false
def tStores (K : PySem.W.Frag) : List (Str × Nat) → TS
  | [] => tNext
  | (g, i) :: r => tSeq (tOst K g (tVar 0) (tVar i)) (tStores K r)
theorem pss_stores {X : Cx} : ∀ (fl : List (Str × Nat)) (xs : List Stmt), kStores X.N X.env.scope fl xs = true → PSs X xs (tStores X.K fl)
  | [], [], _ => pss_nil
  | [], _ :: _, h => nomatch h
  | (g, i) :: r, xs, h => by
    unfold kStores at h
    split at h
    · simp only [Bool.and_eq_true, decide_eq_true_eq, Bool.not_eq_true'] at h
      obtain ⟨⟨⟨⟨⟨⟨⟨⟨⟨rfl, h2⟩, h3⟩, h4⟩, h5⟩, h6⟩, h7⟩, h8⟩, h9⟩, h10⟩ := h
      exact pss_cons (ps_ost (pe_var h2 (.inl h4) h6 h7) (pe_var h3 (.inl h5) h8 h9)) (pss_stores r _ h10)
    · cases h
theorem stores_old {K : PySem.W.Frag} {a C dx : Addr} {D : Ends} {σ : L2.St} (T : OexC K C) (na : a ≠ dx) (h0 : σ[0]? = some (some (.ref a))) : ∀ (fl : List (Str × Nat)) (acc : List (Str × V)) (ys : List V) (H : Hp),
    H a = some (exo a C (some dx)) → H dx = some (exd dx acc) → acc.length + fl.length ≤ 900 → (∀ g ∈ fl, PySem.W.findIn K (.ref C) g.1 = some none) → fl.map (fun g => σ[g.2]?) = ys.map (fun y => some (some y)) →
    D.nx σ (upd H dx (exd dx (((fl.map (·.1)).zip ys).reverse ++ acc))) → tStores K fl D σ H
  | [], acc, ys, H, ha, hd, _, _, _, q => by
    have e : upd H dx (exd dx acc) = H := by
      funext b
      by_cases hb : b = dx
      · rw [hb, upd_same, hd]
      · rw [upd_ne hb]
    have q : D.nx σ (upd H dx (exd dx acc)) := q
    rw [e] at q
    exact q
  | (g, i) :: r, acc, [], H, _, _, _, _, hy, _ => nomatch hy
  | (g, i) :: r, acc, y :: ys, H, ha, hd, hl, hf, hy, q => by
    have hy' : σ[i]? :: r.map (fun g => σ[g.2]?) = some (some y) :: ys.map (fun y => some (some y)) := hy
    injection hy' with hy1 hy2
    refine ⟨y, hy1, .ref a, h0, a, C, rfl, T, hf _ List.mem_cons_self, .inr ⟨dx, acc, ha, hd, by simp at hl; omega, ?_⟩⟩
    refine stores_old T na h0 r ((g, y) :: acc) ys _ (by rw [upd_ne na]; exact ha) upd_same (by simp at hl ⊢; omega) (fun z hz => hf z (List.mem_cons_of_mem _ hz)) hy2 ?_
    rw [upd_upd]
    have e : ((((g, i) :: r).map (·.1)).zip (y :: ys)).reverse ++ acc = ((r.map (·.1)).zip ys).reverse ++ (g, y) :: acc := by simp
    rw [← e]
    exact q
theorem stores_new {K : PySem.W.Frag} {a C : Addr} {D : Ends} {σ : L2.St} (T : OexC K C) (h0 : σ[0]? = some (some (.ref a))) (fl : List (Str × Nat)) (ys : List V) (H : Hp)
    (ha : H a = some (exo a C none)) (hl : fl.length ≤ 900) (hf : ∀ g ∈ fl, PySem.W.findIn K (.ref C) g.1 = some none) (hy : fl.map (fun g => σ[g.2]?) = ys.map (fun y => some (some y)))
    (q : ∀ dx, H dx = none → dx ≠ a → D.nx σ (exFin H a C dx ((fl.map (·.1)).zip ys).reverse)) (q0 : fl = [] → D.nx σ H) : tStores K fl D σ H := by
  match fl, ys, hy with
  | [], ys, hy => exact q0 rfl
  | (g, i) :: r, y :: ys, hy =>
    have hy' : σ[i]? :: r.map (fun g => σ[g.2]?) = some (some y) :: ys.map (fun y => some (some y)) := hy
    injection hy' with hy1 hy2
    refine ⟨y, hy1, .ref a, h0, a, C, rfl, T, hf _ List.mem_cons_self, .inl ⟨ha, fun dx n ne => ?_⟩⟩
    refine stores_old T ne.symm h0 r [(g, y)] ys _ upd_same (by rw [upd_ne ne]; exact upd_same) (by simp at hl ⊢; omega) (fun z hz => hf z (List.mem_cons_of_mem _ hz)) hy2 ?_
    have qq := q dx n ne
    have e : ((((g, i) :: r).map (·.1)).zip (y :: ys)).reverse = ((r.map (·.1)).zip ys).reverse ++ [(g, y)] := by simp
    rw [e] at qq
    have ex : ∀ l : List (Str × V), exFin H a C dx (l ++ [(g, y)]) = upd (upd (upd H dx (exd dx [(g, y)])) a (exo a C (some dx))) dx (exd dx (l ++ [(g, y)])) := fun l => by
      have e1 : exFin H a C dx (l ++ [(g, y)]) = upd (upd H dx (exd dx (l ++ [(g, y)]))) a (exo a C (some dx)) := by cases l <;> rfl
      rw [e1]
      funext b
      by_cases hb : b = a
      · subst hb
        rw [upd_same, upd_ne ne.symm, upd_same]
      · by_cases hd : b = dx
        · subst hd
          rw [upd_ne hb, upd_same, upd_same]
        · rw [upd_ne hb, upd_ne hd, upd_ne hd, upd_ne hb, upd_ne hd]
    rw [ex] at qq
    exact qq
/-! ### the def -/
def kExB (N : List Str) (sc : Scope) (fl : List (Str × Nat)) : List Stmt → Bool
  | .Expr (.Call (.Attribute (.Call (.Name n _) [] [] _) m apos) [.Constant (.str _) _ _] [] pos) _ :: xs => decide (n = ("super" : Str)) && decide (m = ("__init__" : Str)) && (apos.endLine == pos.line) && kStores N sc fl xs
  | _ => false
theorem kExB_form {N : List Str} {sc : Scope} {fl : List (Str × Nat)} {b : List Stmt} (h : kExB N sc fl b = true) : ∃ p0 p1 p2 apos pos pos' z j xs, b = .Expr (.Call (.Attribute (.Call (.Name "super" p0) [] [] p1) "__init__" apos) [.Constant (.str z) j p2] [] pos) pos' :: xs ∧
    (apos.endLine == pos.line) = true ∧ kStores N sc fl xs = true := by
  unfold kExB at h
  split at h
  · simp only [Bool.and_eq_true, decide_eq_true_eq] at h
    obtain ⟨⟨⟨rfl, rfl⟩, h3⟩, h4⟩ := h
    exact ⟨_, _, _, _, _, _, _, _, _, rfl, h3, h4⟩
  · cases h
def kHead (N : List Str) (ar : Arguments) : Bool := match (ar.posonlyargs ++ ar.args).head? with
  | some a => decide (N[0]? = some a.arg)
  | none => false
def spI (C : Addr) (fl : List (Str × Nat)) (n : Nat) : Sp := fun vs H Q _ => ∃ (a : Addr) (us ys : List V), vs = .ref a :: us ∧ vs.length = n ∧ H a = some (exo a C none) ∧ fl.map (fun g => vs[g.2]?) = ys.map some ∧
  (∀ dx, H dx = none → dx ≠ a → Q .non (exFin H a C dx ((fl.map (·.1)).zip ys).reverse)) ∧ (fl = [] → Q .non H)
theorem maps_up {vs : List V} {S : List (Option V)} (h : ∀ (i : Nat) (v : V), vs[i]? = some v → S[i]? = some (some v)) : ∀ (fl : List (Str × Nat)) (ys : List V), fl.map (fun g => vs[g.2]?) = ys.map some → fl.map (fun g => S[g.2]?) = ys.map fun y => some (some y)
  | [], [], _ => rfl
  | [], _ :: _, e => nomatch e
  | _ :: _, [], e => nomatch e
  | g :: r, y :: ys, e => by
    have e' : vs[g.2]? :: r.map (fun g => vs[g.2]?) = some y :: ys.map some := e
    injection e' with e1 e2
    show S[g.2]? :: r.map (fun g => S[g.2]?) = some (some y) :: ys.map fun y => some (some y)
    rw [h _ _ e1, maps_up h r ys e2]
section
variable {P : Program} {w : World} {K : PySem.W.Frag} {mg : Str → Option Value} {base : Heap} {C : Addr} {k : Nat}
theorem exf_ok {x qual : Str} {st : Stmt} {f : Addr} {fd : FuncData} {N ps : List Str} {fl : List (Str × Nat)} (T : ExC P K mg C) (F : ExF P K C x qual st f fd) (S : ExScope N ps (defScope st)) (hk : kExB N (defScope st) fl (defBody st) = true)
    (hh : kHead N (defArgs st) = true) (h0 : ps ≠ []) (hl : fl.length ≤ 900) (hf : ∀ g ∈ fl, PySem.W.findIn K (.ref C) g.1 = some none) : FnOk P w K mg base (L2.CX P w) (k + 1) f fd ps (spI C fl ps.length) := by
  obtain ⟨oc, od, kV, doc, pm, an, cda, ct, osl, cc, rfl, lk, hcd, ⟨cl, cld, csl, hcc⟩, ccl, cdd, vs', ccs, file, tf, hcda, hvs, hfile⟩ := F.ex
  refine ⟨fun vs H Q E h => by obtain ⟨_, _, _, _, e, _⟩ := h; exact e, fun A outer s H args us vs Q E room env0 bnd rv hsp => ?_⟩
  obtain ⟨a, us0, ys, e1, e2, ha, hy, q, q0⟩ := hsp
  have inK : K.In s.heap := env0.mod.kin.keeps fun b o e => (env0.bs b o e).1
  have calmH : s.heap.NoLimit := env0.mod.nolimit.keeps fun b o e => (env0.bs b o e).1
  have code := PySem.W.codeRec_of inK hcd
  refine PySem.ks_codeAny_call_defAt (fd := PySem.W.ksFn x qual (defArgs st) (defBody st) (defScope st) .none kV doc pm an (.ref cda) ct cc) (body := defBody st) (binds := ps.zip us) room.depth (inK _ _ lk) rfl calmH code rfl bnd S.nocell (fun y hy => S.par _ (List.of_mem_zip hy).1) (fun h1 hns hkp => ?_) S.co S.gen S.kind
  let X : Cx := cxE P w K mg base N qual (defScope st) f cc (.ref cda) A outer s H E
  have I : Inv X [] (L2.start N vs) H { s with heap := h1, toks := s.toks + (ps.zip us).length } := invE_start S room.hd env0 e2 rv hns hkp hcc
  have start0 : (L2.start N vs)[0]? = some (some (.ref a)) := by rw [e1]; rfl
  have startI : ∀ i v, vs[i]? = some v → (L2.start N vs)[i]? = some (some v) := fun i v e => by
    unfold L2.start
    have hi := (List.getElem?_eq_some_iff.mp e).1
    rw [List.getElem?_append_left (by simpa using hi), List.getElem?_map, e]
    rfl
  obtain ⟨p0, p1, p2, apos, pos, pos', z, j, xs, hb, hline, hst⟩ := kExB_form hk
  have hh' := hh
  unfold kHead at hh'
  split at hh'
  · rename_i ar har
    have hN0 : N[0]? = some ar.arg := of_decide_eq_true hh'
    have hp0 : ps[0]? = some ar.arg := by
      have hlen : 0 < ps.length := List.length_pos_iff.mpr h0
      rw [← S.pre, List.getElem?_take_of_lt hlen]; exact hN0
    have hloc := S.par ar.arg (List.mem_of_getElem? hp0)
    show _root_.PySem.wpAt (model P w) X.A (.func (defBody st) X.env) (execs (defBody st) X.env) _ _ _
    rw [show execs (defBody st) X.env = execs _ X.env from congrArg (fun b => execs b X.env) hb]
    refine PySem.ks_wpAt_execs_cons ?_
    refine PySem.ks_wpAt_Expr_any ?_ I.quiet rfl
    refine _root_.PySem.wpAt_mono (super_run (X := X) (C := C) (a := a) (f := f) (cc := cc) (cda := cda) (ar := ar) T I S.sup S.cls rfl hcc rfl lk har rfl hcda hvs hfile hN0 hloc start0 ha hline) (fun _ s1 I1 => ?_) fun e s2 h => h
    refine _root_.PySem.wpAt_of_wpAny ?_
    have rest := pss_stores (X := X) fl xs hst
    have hyS := maps_up startI fl ys hy
    have goal : tStores K fl { nx := fun _ H' => Q .non H', rt := Q } (L2.start N vs) H := stores_new T.T start0 fl ys H ha hl hf hyS (fun dx n ne => q dx n ne) q0
    refine wpAny_mono (rest.run [] s1 (L2.start N vs) H _ I1 goal) (fun fl t2 hs => ?_) fun e t2 hs => hs
    cases fl with
    | ret u =>
      obtain ⟨v, _, H1, J, r1, q⟩ := hs
      exact ⟨v, H1, J.os, J.bare, J.base, J.hok, r1, q⟩
    | next =>
      obtain ⟨_, H1, J, q⟩ := hs
      exact ⟨V.non, H1, J.os, J.bare, J.base, J.hok, (show RelV V.non Value.none from rfl), q⟩
    | brk =>
      obtain ⟨_, _, _, q⟩ := hs
      exact q.elim
    | cont =>
      obtain ⟨_, _, _, q⟩ := hs
      exact q.elim
  · exact nomatch hh'
end
end Z
set_option maxHeartbeats 4000000
/-! Y4: raise X(..), try .. except X as e, suites of few kinds, in the second layer -/
namespace Z
open PySem PySem.Spec PyProof.Rows L2
/-- an own exception: its name, its class, which argument becomes which field, how many arguments -/
structure Exr where
  x : Str
  c : Nat
  fl : List (Str × Nat)
  n : Nat
/-- a clause: the name of its class; of which classes it takes instances; which fields may be read -/
structure Hdl where
  x : Str
  m : List (Nat × Bool)
  r : List (Nat × Str)
def upFl (fl : List (Str × Nat)) : List (Str × Nat) := fl.map fun g => (g.1, g.2 + 1)
structure KxP (P : Program) (w : World) (K : PySem.W.Frag) (mg : Str → Option Value) (base : Heap) (T : Tab) (k : Nat) (q : Exr) : Prop where
  ex : ∃ (fI : Addr) (fd : FuncData) (ps : List Str), mg q.x = some (.ref (T.cls q.c)) ∧ OexC K (T.cls q.c) ∧ PySem.W.findIn K (.ref (T.cls q.c)) "__init__" = some (some (.ref fI)) ∧ PySem.W.typeIn K (.ref fI) = some (.type "function") ∧
    Binds K fd ps [] ∧ ps.length = q.n + 1 ∧ q.fl ≠ [] ∧ q.n ≤ 900 ∧ FnOk P w K mg base (L2.CX P w) k fI fd ps (spI (T.cls q.c) (upFl q.fl) ps.length)
structure KhP (K : PySem.W.Frag) (mg : Str → Option Value) (T : Tab) (q : Hdl) : Prop where
  ex : ∃ c, mg q.x = some c ∧ ∀ p ∈ q.m, PySem.W.exmOne K (.ref (T.cls p.1)) c = some p.2
  rd : ∀ p ∈ q.r, XfC K (T.cls p.1) ∧ PySem.W.findIn K (.ref (T.cls p.1)) p.2 = some none
/-- what the exception carries -/
def exFs (fl : List (Str × Nat)) (ws : List W) : Option (List (Str × W)) := match fl with
  | [] => some []
  | (g, i) :: r => (ws[i]?).bind fun w => (exFs r ws).map fun l => (g, w) :: l
def wRaise (q : Exr) (ta : TA2) : TS2 := fun D σ M => ta σ M (fun ws M1 => ws.length = q.n ∧ ∃ l, exFs q.fl ws = some l ∧ D.ex ⟨q.c, l.reverse⟩ σ M1) fun x M1 => D.ex x σ M1
theorem Paired.getE {α β : Type} {R : α → β → Prop} : ∀ {a : List α} {b : List β}, Paired R a b → ∀ {i : Nat} {x : α}, a[i]? = some x → ∃ y, b[i]? = some y ∧ R x y
  | _, _, .nil, i, x, h => by simp at h
  | _, _, .cons r _, 0, x, h => by
    cases h
    exact ⟨_, rfl, r⟩
  | _, _, .cons _ t, i + 1, x, h => Paired.getE t (by simpa using h)
theorem exFs_low {T : Tab} {G : Hp} {ws : List W} {vs : List V} (r : RWs T G ws vs) (a : V) : ∀ {fl : List (Str × Nat)} {l : List (Str × W)}, exFs fl ws = some l → ∃ ys : List V, (upFl fl).map (fun g => ((a :: vs)[g.2]?)) = ys.map some ∧ RKs T G l (((upFl fl).map (·.1)).zip ys)
  | [], l, h => by
    cases h
    exact ⟨[], rfl, .nil⟩
  | (g, i) :: fl, l, h => by
    have h : ((ws[i]?).bind fun w => (exFs fl ws).map fun l => (g, w) :: l) = some l := h
    cases e : ws[i]? with
    | none => rw [e] at h; cases h
    | some w =>
      rw [e, Option.bind_some] at h
      cases e2 : exFs fl ws with
      | none => rw [e2] at h; cases h
      | some l2 =>
        rw [e2] at h
        cases h
        obtain ⟨ys, h1, h2⟩ := exFs_low r a e2
        obtain ⟨v, hv, rv⟩ := Paired.getE r e
        refine ⟨v :: ys, ?_, .cons ⟨rfl, rv⟩ h2⟩
        show (a :: vs)[i + 1]? :: (upFl fl).map (fun g => (a :: vs)[g.2]?) = some v :: ys.map some
        rw [h1, List.getElem?_cons_succ, hv]
theorem Paired.rev {α β : Type} {R : α → β → Prop} {a : List α} {b : List β} (h : Paired R a b) : Paired R a.reverse b.reverse := by
  induction h with
  | nil => exact .nil
  | cons x t ih =>
    rw [List.reverse_cons, List.reverse_cons]
    exact Paired.app ih (.cons x .nil)
section
variable {X : Cx} {T : Tab} {Wx : WX} {k : Nat} {N : List Str} {mg : Str → Option Value} {sc : Scope}
theorem s_raise {q : Exr} {e : Expr} {es : List Expr} {ta : TA2} {p pos pos' : Pos} (C : Ctx T (k + 1) N mg X Wx sc) (F : KxP X.prog X.w X.K X.mg X.base T k q) (hg : Gl X q.x) (ha : PA X (e :: es) (lowA T Wx ta)) (hdb : (q.x == ("__debug__" : Str)) = false)
    (he : starEach (e :: es) X.env = (false, eval e X.env) :: starEach es X.env) (hpl : (backTo pos (starEach es X.env)).any (·.1) = false) :
    PS X (.Raise (some (.Call (.Name q.x p) (e :: es) [] pos)) none pos') (lowS T Wx (wRaise q ta)) := by
  obtain ⟨fI, fd, ps, hm, oc, hi, ht, hb, hn, hne, hz, Fo⟩ := F.ex
  refine (ps_raise C.calm C.tk (pmk_oex oc hi ht Fo C.room hb .nil passL hg hm ha hdb he hpl)).imp fun D σ H h => ?_
  obtain ⟨G, σ2, M, D2, sr, rs, q1, pd⟩ := h
  refine ⟨G, σ2, M, _, _, sr, rs, q1, fun ws M1 G1 H1 vs m1 sr1 rw1 q3 => ?_, pd.px rs⟩
  obtain ⟨hl, l, hy, q3⟩ := q3
  have hlv : vs.length = q.n := by rw [← rw1.len]; exact hl
  refine ⟨by omega, fun a na => ?_⟩
  obtain ⟨ys, hy1, hy2⟩ := exFs_low rw1 (.ref a) hy
  rw [List.append_nil]
  refine ⟨a, vs, ys, rfl, by show vs.length + 1 = _; omega, upd_same, hy1, fun dx hdx ne => ⟨rfl, ?_⟩, fun e0 => ?_⟩
  · have hd1 : H1 dx = none := by rw [upd_ne ne] at hdx; exact hdx
    have hne2 : (((upFl q.fl).map (·.1)).zip ys).reverse ≠ [] := fun z => by
      have z2 := List.reverse_eq_nil_iff.mp z
      have z3 := hy2.length
      rw [z2] at z3
      cases hfl : q.fl with
      | nil => exact hne hfl
      | cons g r =>
        rw [hfl] at hy
        obtain ⟨g1, g2⟩ := g
        have hy : ((ws[g2]?).bind fun w => (exFs r ws).map fun l => (g1, w) :: l) = some l := hy
        cases e : ws[g2]? with
        | none => rw [e] at hy; cases hy
        | some w =>
          rw [e, Option.bind_some] at hy
          cases e2 : exFs r ws with
          | none => rw [e2] at hy; cases hy
          | some l2 => rw [e2] at hy; cases hy; cases z3
    obtain ⟨p0, r0, hrev⟩ : ∃ p0 r0, (((upFl q.fl).map (·.1)).zip ys).reverse = p0 :: r0 := by
      cases hh : (((upFl q.fl).map (·.1)).zip ys).reverse with
      | nil => exact absurd hh hne2
      | cons p0 r0 => exact ⟨p0, r0, rfl⟩
    rw [hrev]
    refine ⟨dx, p0 :: r0, upd_same, ?_, hd1, ?_⟩
    · show (upd (upd (upd H1 a (exo a (T.cls q.c) none)) dx (exd dx (p0 :: r0))) a (exo a (T.cls q.c) (some dx))) dx = some (exd dx (p0 :: r0))
      rw [upd_ne ne, upd_same]
    · have eq : upd (L2.del (exFin (upd H1 a (exo a (T.cls q.c) none)) a (T.cls q.c) dx (p0 :: r0)) a) dx (.xd (p0 :: r0)) = upd H1 dx (.xd (p0 :: r0)) := by
        funext b
        by_cases hb : b = dx
        · subst hb
          rw [upd_same, upd_same]
        · rw [upd_ne hb, upd_ne hb]
          by_cases hba : b = a
          · subst hba
            rw [L2.del_same, na]
          · show L2.del (upd (upd (upd H1 a (exo a (T.cls q.c) none)) dx (exd dx (p0 :: r0))) a (exo a (T.cls q.c) (some dx))) a b = H1 b
            rw [L2.del_ne hba, upd_ne hba, upd_ne hb, upd_ne hba]
      rw [eq]
      have mo := Mo.of (same_new (o := HO.xd (p0 :: r0)) (sr1.free hd1))
      refine pd.ex _ σ2 M1 _ _ σ _ (some dx) (m1.trans mo) (sr1.laid hd1) (rs.mono (m1.trans mo)) ⟨rfl, p0 :: r0, ?_, .inr ⟨dx, rfl, upd_same⟩⟩ q3
      have z := RKs.mono mo (Paired.rev hy2)
      rw [hrev] at z
      exact z
  · have : (upFl q.fl) = [] := e0
    exact absurd (by cases h : q.fl with | nil => rfl | cons g r => rw [h] at this; cases this) hne
/-! ### suites -/
inductive At where
  | cst (x : D) | var (i : Nat) | xf (f : Str)
inductive Su where
  | ret (a : At) | retT (as : List At) | asg (i : Nat) (a : At) | asgT (i : Nat) (as : List At) | pass
def At.ev (x : XV) (σ : St2) : At → Option W
  | .cst d => some (.d d)
  | .var i => σ[i]?.join
  | .xf f => x.fs.lookup f
def ats (x : XV) (σ : St2) : List At → Option (List W)
  | [] => some []
  | a :: r => (a.ev x σ).bind fun w => (ats x σ r).map fun l => w :: l
def ofO {α : Type} (o : Option α) (Q : α → Prop) : Prop := ∃ w, o = some w ∧ Q w
/-- what a suite does -/
def Su.w (x : XV) : Su → TS2
  | .ret a => fun D σ M => ofO (a.ev x σ) fun w => D.rt w M
  | .retT as => fun D σ M => ofO (ats x σ as) fun ws => ofO (unD ws) fun ds => ds.length ≤ 1000 ∧ D.rt (.d (.tup ds)) M
  | .asg i a => fun D σ M => ofO (a.ev x σ) fun w => D.nx (σ.set i (some w)) M
  | .asgT i as => fun D σ M => ofO (ats x σ as) fun ws => ofO (unD ws) fun ds => ds.length ≤ 1000 ∧ D.nx (σ.set i (some (.d (.tup ds)))) M
  | .pass => fun D σ M => D.nx σ M
/-- below -/
def lowAt (T : Tab) (ok : List (Nat × Str)) (cls : Value) (d : Option Addr) (a : At) (i : Nat) (ex : Addr) : L2.TE := fun σ1 H Q1 => ∃ x G σ2 M, RX T G x cls d ∧ SR T G H M ∧ RS T G σ2 σ1 ∧
  (∀ f, a = .xf f → σ1[i]? = some (some (.ref ex)) ∧ (x.c, f) ∈ ok) ∧ ∃ w, a.ev x σ2 = some w ∧ ∀ v, RW T G w v → Q1 v H
def lowAts (T : Tab) (ok : List (Nat × Str)) (cls : Value) (d : Option Addr) (as : List At) (i : Nat) (ex : Addr) : L2.TA := fun σ1 H Q1 => ∃ x G σ2 M, RX T G x cls d ∧ SR T G H M ∧ RS T G σ2 σ1 ∧
  (∀ a ∈ as, ∀ f, a = .xf f → σ1[i]? = some (some (.ref ex)) ∧ (x.c, f) ∈ ok) ∧ ∃ ws, ats x σ2 as = some ws ∧ ∀ vs, RWs T G ws vs → Q1 vs H
section
variable {ok : List (Nat × Str)} {cls : Value} {d : Option Addr} {i : Nat} {a : Addr} {oe : Obj} {pn : List (Addr × Obj)}
theorem at_cst {x : D} {v : V} {e : Expr} (h : PE (X.suite a ((a, oe) :: pn)) e (tC v)) (r : ∀ G, Rp T G x v) : PE (X.suite a ((a, oe) :: pn)) e (lowAt T ok cls d (.cst x) i a) := h.imp fun σ H Q q => by
  obtain ⟨y, G, σ2, M, rx, sr, rs, _, w, e, q⟩ := q
  cases e
  exact q v (r G)
theorem at_var {j : Nat} {e : Expr} (h : PE (X.suite a ((a, oe) :: pn)) e (tVar j)) : PE (X.suite a ((a, oe) :: pn)) e (lowAt T ok cls d (.var j) i a) := h.imp fun σ H Q q => by
  obtain ⟨y, G, σ2, M, rx, sr, rs, _, w, e, q⟩ := q
  have e : σ2[j]?.join = some w := e
  cases e2 : σ2[j]? with
  | none => rw [e2] at e; cases e
  | some o =>
    rw [e2] at e
    obtain ⟨v, h1, h2⟩ := rs.get (show σ2[j]? = some (some w) by rw [e2, show o = some w from e])
    exact ⟨v, h1, q v h2⟩
theorem at_xf {f : Str} {e : Expr} {pos : Pos} (hK : X.K = T.K) (hok : ∀ p ∈ ok, XfC X.K (T.cls p.1) ∧ PySem.W.findIn X.K (.ref (T.cls p.1)) p.2 = some none) (hz : Zc cls d oe) (hf : ∃ vs, oe.data = .fields vs) (he : PE (X.suite a ((a, oe) :: pn)) e (tVar i))
    (hb : attributeBase e f X.env (eval e X.env) = eval e X.env) : PE (X.suite a ((a, oe) :: pn)) (.Attribute e f pos) (lowAt T ok cls d (.xf f) i a) := ⟨fun pins s σ H Q I q => by
  obtain ⟨y, G, σ2, M, ⟨rx1, vs, rx2, rx3⟩, sr, rs, ho, w, e, q⟩ := q
  obtain ⟨o1, o2⟩ := ho f rfl
  obtain ⟨o3, o4⟩ := hok _ o2
  refine (pe_xf (X := X) (cls := cls) (d := d) (C := T.cls y.c) o3 o4 hz hf he hb).run pins s σ H Q I ⟨_, o1, rfl, rx1, ?_⟩
  obtain ⟨v, h1, h2⟩ := RKs.get rx2 (show y.fs.lookup f = some w from e)
  rcases rx3 with rx3 | ⟨dd, e1, e2⟩
  · have e' : y.fs.lookup f = some w := e
    rw [rx3] at e'
    cases e'
  · exact ⟨dd, vs, v, e1, sr.le _ _ e2, h1, q v h2⟩⟩
theorem ats_nil : PA (X.suite a ((a, oe) :: pn)) [] (lowAts T ok cls d [] i a) := pa_nil.imp fun σ H Q q => by
  obtain ⟨y, G, σ2, M, rx, sr, rs, _, w, e, q⟩ := q
  cases e
  exact q [] .nil
theorem ats_cons {at' : At} {as : List At} {e : Expr} {es : List Expr} (h1 : PE (X.suite a ((a, oe) :: pn)) e (lowAt T ok cls d at' i a)) (h2 : PA (X.suite a ((a, oe) :: pn)) es (lowAts T ok cls d as i a)) (hs : starEach (e :: es) X.env = (false, eval e X.env) :: starEach es X.env) :
    PA (X.suite a ((a, oe) :: pn)) (e :: es) (lowAts T ok cls d (at' :: as) i a) := (pa_cons h1 h2 hs).imp fun σ H Q q => by
  obtain ⟨y, G, σ2, M, rx, sr, rs, ho, ws, e, q⟩ := q
  have e : ((at'.ev y σ2).bind fun w => (ats y σ2 as).map fun l => w :: l) = some ws := e
  cases e1 : at'.ev y σ2 with
  | none => rw [e1] at e; cases e
  | some w =>
    rw [e1, Option.bind_some] at e
    cases e2 : ats y σ2 as with
    | none => rw [e2] at e; cases e
    | some l =>
      rw [e2] at e
      cases e
      exact ⟨y, G, σ2, M, rx, sr, rs, ho _ List.mem_cons_self, w, e1, fun v rv => ⟨y, G, σ2, M, rx, sr, rs, fun b hb => ho b (List.mem_cons_of_mem _ hb), l, e2, fun vs rvs => q (v :: vs) (.cons rv rvs)⟩⟩
/-- the suite, below -/
def Su.ats : Su → List At
  | .ret a => [a]
  | .retT as => as
  | .asg _ a => [a]
  | .asgT _ as => as
  | .pass => []
def lowSX (T : Tab) (Wx : WX) (ok : List (Nat × Str)) (cls : Value) (d : Option Addr) (su : Su) (i : Nat) (ex : Addr) : L2.TS := fun D1 σ1 H => ∃ x G σ2 M D2, RX T G x cls d ∧ SR T G H M ∧ RS T G σ2 σ1 ∧
  (∀ a ∈ su.ats, ∀ f, a = .xf f → σ1[i]? = some (some (.ref ex)) ∧ (x.c, f) ∈ ok) ∧ su.w x D2 σ2 M ∧ PD T Wx G D2 D1
theorem x_ret {at' : At} {e : Expr} {pos : Pos} (h : PE (X.suite a ((a, oe) :: pn)) e (lowAt T ok cls d at' i a)) : PS (X.suite a ((a, oe) :: pn)) (.Return (some e) pos) (lowSX T Wx ok cls d (.ret at') i a) := (ps_ret h).imp fun D σ H q => by
  obtain ⟨y, G, σ2, M, D2, rx, sr, rs, ho, ⟨w, e, q⟩, pd⟩ := q
  exact ⟨y, G, σ2, M, rx, sr, rs, ho _ List.mem_cons_self, w, e, fun v rv => pd.rt w M G H v (Mo.refl _) sr rv q⟩
theorem x_tup {as : List At} {es : List Expr} {n : Nat} {pos : Pos} (h : PA (X.suite a ((a, oe) :: pn)) es (lowAts T ok cls d as i a)) : PE (X.suite a ((a, oe) :: pn)) (.Tuple es n pos) (fun σ1 H Q1 => ∃ x G σ2 M, RX T G x cls d ∧ SR T G H M ∧ RS T G σ2 σ1 ∧
    (∀ a' ∈ as, ∀ f, a' = .xf f → σ1[i]? = some (some (.ref a)) ∧ (x.c, f) ∈ ok) ∧ ∃ ws ds, ats x σ2 as = some ws ∧ unD ws = some ds ∧ ds.length ≤ 1000 ∧ ∀ G' H' v, Mo G G' → SR T G' H' M → RW T G' (.d (.tup ds)) v → Q1 v H') := (pe_tup h).imp fun σ H Q q => by
  obtain ⟨y, G, σ2, M, rx, sr, rs, ho, ws, ds, e, e2, hl, q⟩ := q
  cases unD_eq e2
  refine ⟨y, G, σ2, M, rx, sr, rs, ho, _, e, fun vs rvs => ?_⟩
  have hz : vs.length ≤ 1000 := by rw [← rvs.len, List.length_map]; exact hl
  refine ⟨small hz, fun p hp => ?_⟩
  have mo := Mo.of (same_new (o := HO.tup vs) (sr.free hp))
  exact q _ _ (.ref p) mo (sr.laid hp) ⟨p, vs, rfl, SqT.of upd_same, (RpL.of rvs).mono mo⟩
theorem x_retT {as : List At} {es : List Expr} {n : Nat} {pos pos' : Pos} (h : PA (X.suite a ((a, oe) :: pn)) es (lowAts T ok cls d as i a)) : PS (X.suite a ((a, oe) :: pn)) (.Return (some (.Tuple es n pos)) pos') (lowSX T Wx ok cls d (.retT as) i a) := (ps_ret (x_tup h)).imp fun D σ H q => by
  obtain ⟨y, G, σ2, M, D2, rx, sr, rs, ho, ⟨ws, e, ds, e2, hl, q⟩, pd⟩ := q
  exact ⟨y, G, σ2, M, rx, sr, rs, ho, ws, ds, e, e2, hl, fun G' H' v mo sr' rv => pd.rt _ M G' H' v mo sr' rv q⟩
theorem x_pass {pos : Pos} : PS (X.suite a ((a, oe) :: pn)) (.Pass pos) (lowSX T Wx ok cls d .pass i a) := ps_pass.imp fun D σ H q => by
  obtain ⟨y, G, σ2, M, D2, rx, sr, rs, ho, q, pd⟩ := q
  exact pd.nx _ M G H _ (Mo.refl _) sr rs q
theorem x_asg {at' : At} {e tg : Expr} {j : Nat} {pos : Pos} (h : PE (X.suite a ((a, oe) :: pn)) e (lowAt T ok cls d at' i a)) (hg : PG (X.suite a ((a, oe) :: pn)) tg (gName j))
    (hs : swapsWithSole [tg] e pos.line X.env = pure false) (hw : swappedStores [tg] e X.env = pure none) (h1 : (assignEach [tg] X.env).map (·.2) = [assign tg X.env]) : PS (X.suite a ((a, oe) :: pn)) (.Assign [tg] e pos) (lowSX T Wx ok cls d (.asg j at') i a) := (ps_asg h hg hs hw h1).imp fun D σ H q => by
  obtain ⟨y, G, σ2, M, D2, rx, sr, rs, ho, ⟨w, e, q⟩, pd⟩ := q
  exact ⟨y, G, σ2, M, rx, sr, rs, ho _ List.mem_cons_self, w, e, fun v rv => pd.nx _ M G H _ (Mo.refl _) sr (RS.set rv j rs) q⟩
theorem x_asgT {as : List At} {es : List Expr} {tg : Expr} {j n : Nat} {pos pos' : Pos} (h : PA (X.suite a ((a, oe) :: pn)) es (lowAts T ok cls d as i a)) (hg : PG (X.suite a ((a, oe) :: pn)) tg (gName j))
    (hs : swapsWithSole [tg] (.Tuple es n pos) pos'.line X.env = pure false) (hw : swappedStores [tg] (.Tuple es n pos) X.env = pure none) (h1 : (assignEach [tg] X.env).map (·.2) = [assign tg X.env]) : PS (X.suite a ((a, oe) :: pn)) (.Assign [tg] (.Tuple es n pos) pos') (lowSX T Wx ok cls d (.asgT j as) i a) := (ps_asg (x_tup h) hg hs hw h1).imp fun D σ H q => by
  obtain ⟨y, G, σ2, M, D2, rx, sr, rs, ho, ⟨ws, e, ds, e2, hl, q⟩, pd⟩ := q
  exact ⟨y, G, σ2, M, rx, sr, rs, ho, ws, ds, e, e2, hl, fun G' H' v mo sr' rv => pd.nx _ M G' H' _ mo sr' (RS.set rv j (rs.mono mo)) q⟩
end
/-! ### try -/
theorem RS.clear {G : Hp} : ∀ {σ2 : St2} {σ1 : L2.St} (i : Nat), RS T G σ2 σ1 → RS T G (σ2.set i none) (σ1.set i none)
  | _, _, _, .nil => .nil
  | _, _, 0, .cons _ t => .cons (show True from trivial) t
  | _, _, i + 1, .cons r t => .cons r (RS.clear i t)
/-- try: tb, except q.x as the i-th name: su -/
def wTryA (q : Hdl) (i : Nat) (su : Su) (tb : TS2) : TS2 := fun D σ M => tb { D with ex := fun x σ' M' => ofO (q.m.lookup x.c) fun b => if b = true then (i < σ'.length ∧ (∀ a ∈ su.ats, ∀ f, a = .xf f → (x.c, f) ∈ q.r) ∧
  ∀ p, M' p = none → su.w x { nx := fun σ2 M2 => D.nx (σ2.set i none) M2, rt := D.rt, bk := fun σ2 M2 => D.bk (σ2.set i none) M2, ct := fun σ2 M2 => D.ct (σ2.set i none) M2, ex := fun _ _ _ => False } (σ'.set i (some (.c p))) M') else D.ex x σ' M' } σ M
/-- .. without a name -/
def wTryO (q : Hdl) (su : Su) (tb : TS2) : TS2 := fun D σ M => tb { D with ex := fun x σ' M' => ofO (q.m.lookup x.c) fun b => if b = true then (∀ a ∈ su.ats, ∀ f, a ≠ .xf f) ∧ su.w x { D with ex := fun _ _ _ => False } σ' M' else D.ex x σ' M' } σ M
section
variable {q : Hdl} {n : Str} {i : Nat} {body suite : List Stmt} {b₀ : Stmt} {np pos pos' : Pos} {tb : TS2} {su : Su}
theorem s_tryA (C : Ctx T k N mg X Wx sc) (hs : X.stack = X.env :: X.outer) (hf : X.env.frame = some X.env.locals) (hi : X.N[i]? = some n) (hln : X.env.kindOf n = some .local) (F : KhP X.K X.mg T q) (hg : Gl X q.x) (hdb : (q.x == ("__debug__" : Str)) = false)
    (hb : ∀ (W : WX) (pn : List (Addr × Obj)) (xe : Value → Shared → Prop), Takes (X.tr pn xe) W → PassesOwn (model X.prog X.w) X.A X.env xe → PSs (X.tr pn xe) body (lowS T W tb))
    (hsu : ∀ (a : Addr) (oe : Obj) (cls : Value) (d : Option Addr) (pn : List (Addr × Obj)), Zc cls d oe → (∃ vs, oe.data = .fields vs) → PSs (X.suite a ((a, oe) :: pn)) (b₀ :: suite) (lowSX T Wx q.r cls d su i a)) :
    PS X (.Try body [.ExceptHandler (some (.Name q.x np)) (some n) (b₀ :: suite) pos'] [] [] pos) (lowS T Wx (wTryA q i su tb)) := by
  obtain ⟨c, hm, hx⟩ := F.ex
  refine (ps_try_as (ts := fun a cls d => lowSX T Wx q.r cls d su i a) hs hf (by rw [C.eN]; exact C.nd) hi hln ⟨hg, hdb, .inl hm⟩ C.tk hb hsu).imp fun D σ H h => ?_
  obtain ⟨G, σ2, M, D2, sr, rs, q1, pd⟩ := h
  refine ⟨G, σ2, M, _, sr, rs, q1, ⟨pd.nx, pd.rt, pd.bk, pd.ct, fun x σ' M1 G1 H1 σ1 cls d m1 sr1 rs1 rx q2 => ?_⟩⟩
  obtain ⟨b, hb1, q2⟩ := q2
  refine ⟨b, ?_, fun e a na => ?_, fun e => ?_⟩
  · rw [rx.1]; exact hx _ (lookup_mem hb1)
  · subst e
    rw [if_pos rfl] at q2
    obtain ⟨hlen, q3, q4⟩ := q2
    refine ⟨x, G1, σ'.set i (some (.c a)), M1, _, rx, sr1, RS.set (show RW T G1 (.c a) (.ref a) from rfl) i rs1, fun b hb f e => ⟨?_, q3 b hb f e⟩, q4 a (sr1.freeM na), ?_⟩
    · rw [List.getElem?_set_self (by rw [← Paired.length rs1]; exact hlen)]
    · exact ⟨fun σ4 M4 G4 H4 σ5 m4 sr4 rs4 q => pd.nx _ M4 G4 H4 _ (m1.trans m4) sr4 (RS.clear i rs4) q, fun w M4 G4 H4 v m4 => pd.rt w M4 G4 H4 v (m1.trans m4), fun σ4 M4 G4 H4 σ5 m4 sr4 rs4 q => pd.bk _ M4 G4 H4 _ (m1.trans m4) sr4 (RS.clear i rs4) q,
        fun σ4 M4 G4 H4 σ5 m4 sr4 rs4 q => pd.ct _ M4 G4 H4 _ (m1.trans m4) sr4 (RS.clear i rs4) q, fun _ _ _ _ _ _ _ _ _ _ _ _ f => f.elim⟩
  · subst e
    rw [if_neg Bool.false_ne_true] at q2
    exact pd.ex x σ' M1 G1 H1 σ1 cls d m1 sr1 rs1 rx q2
theorem s_tryO (C : Ctx T k N mg X Wx sc) (hs : X.stack = X.env :: X.outer) (hf : X.env.frame = some X.env.locals) (F : KhP X.K X.mg T q) (hg : Gl X q.x) (hdb : (q.x == ("__debug__" : Str)) = false)
    (hb : ∀ (W : WX) (pn : List (Addr × Obj)) (xe : Value → Shared → Prop), Takes (X.tr pn xe) W → PassesOwn (model X.prog X.w) X.A X.env xe → PSs (X.tr pn xe) body (lowS T W tb))
    (hsu : ∀ (a : Addr) (oe : Obj) (cls : Value) (d : Option Addr) (pn : List (Addr × Obj)), Zc cls d oe → (∃ vs, oe.data = .fields vs) → PSs (X.suite a ((a, oe) :: pn)) (b₀ :: suite) (lowSX T Wx q.r cls d su 0 a)) :
    PS X (.Try body [.ExceptHandler (some (.Name q.x np)) none (b₀ :: suite) pos'] [] [] pos) (lowS T Wx (wTryO q su tb)) := by
  obtain ⟨c, hm, hx⟩ := F.ex
  refine (ps_try_only (ts := fun a cls d => lowSX T Wx q.r cls d su 0 a) hs hf ⟨hg, hdb, .inl hm⟩ C.tk hb hsu).imp fun D σ H h => ?_
  obtain ⟨G, σ2, M, D2, sr, rs, q1, pd⟩ := h
  refine ⟨G, σ2, M, _, sr, rs, q1, ⟨pd.nx, pd.rt, pd.bk, pd.ct, fun x σ' M1 G1 H1 σ1 cls d m1 sr1 rs1 rx q2 => ?_⟩⟩
  obtain ⟨b, hb1, q2⟩ := q2
  refine ⟨b, ?_, fun e a na => ?_, fun e => ?_⟩
  · rw [rx.1]; exact hx _ (lookup_mem hb1)
  · subst e
    rw [if_pos rfl] at q2
    obtain ⟨q3, q4⟩ := q2
    have pd1 := pd.mono m1
    exact ⟨x, G1, σ', M1, _, rx, sr1, rs1, fun b hb f e => absurd e (q3 b hb f), q4, ⟨pd1.nx, pd1.rt, pd1.bk, pd1.ct, fun _ _ _ _ _ _ _ _ _ _ _ _ f => f.elim⟩⟩
  · subst e
    rw [if_neg Bool.false_ne_true] at q2
    exact pd.ex x σ' M1 G1 H1 σ1 cls d m1 sr1 rs1 rx q2
end
end
end Z
set_option maxHeartbeats 4000000
/-! X6: a text times a number, a list (data) times a number -/
namespace Z
open PySem PySem.Spec PyProof.Rows L2
section
variable {X : Cx} {T : Tab} {Wx : WX} {k : Nat} {N : List Str} {mg : Str → Option Value} {sc : Scope}
def oRep : R22 := fun x y M Q _ => ∃ n : Int, y = .d (.int n) ∧ -(2 ^ 62) ≤ n ∧ n < 2 ^ 62 ∧
  ((∃ s : Str, x = .d (.str s) ∧ s.length * n.toNat ≤ sizeLine ∧ Q (.d (.str (Txt.mul s n))) M) ∨
   ∃ ds : List D, x = .d (.lst ds) ∧ ds.length * n.toNat ≤ sizeLine ∧ Q (.d (.lst (List.replicate n.toNat ds).flatten)) M)
theorem mulOk_of {s : Str} {n : Int} (h1 : -(2 ^ 62) ≤ n) (h2 : n < 2 ^ 62) (h3 : s.length * n.toNat ≤ sizeLine) : MulOk s n := by
  have hs : (sizeLine : Nat) < 2 ^ 62 := by rw [sizeLine_eq]; decide
  refine ⟨by simp; omega, fun hn _ => ?_, fun hn _ => ?_⟩
  · intro hc
    have hn1 : 1 ≤ n := by omega
    have e : (n.toNat : Int) = n := Int.toNat_of_nonneg (by omega)
    have h4 : (s.length : Int) * n ≤ sizeLine := by rw [← e]; exact_mod_cast h3
    have h5 : (2 ^ 63 - 1 : Int) / n < s.length := hc
    have h6 := Int.lt_mul_of_ediv_lt (show (0 : Int) < n by omega) h5
    omega
  · exact decide_eq_false (Nat.not_lt.mpr h3)
theorem mul_len {s : Str} {n : Int} (h3 : s.length * n.toNat ≤ sizeLine) (h1 : -(2 ^ 62) ≤ n) (h2 : n < 2 ^ 62) : (Txt.mul s n).length ≤ sizeLine := by
  unfold Txt.mul
  split
  · exact Nat.zero_le _
  · split
    · rename_i hn hc
      have : 1 ≤ n.toNat := by omega
      exact Nat.le_trans (Nat.le_mul_of_pos_right _ this) h3
    · rename_i hn hc
      exact fits_reps ((mulOk_of h1 h2 h3).2.2 hn (by simpa using hc))
theorem flat_rep {G : Hp} {a : List W} {b : List V} (r : RWs T G a b) : ∀ n : Nat, RWs T G (List.replicate n a).flatten (List.replicate n b).flatten
  | 0 => .nil
  | n + 1 => by
    rw [List.replicate_succ, List.replicate_succ, List.flatten_cons, List.flatten_cons]
    exact Paired.app r (flat_rep r n)
theorem unD_rep (ds : List D) (n : Nat) : (List.replicate n (ds.map W.d)).flatten = ((List.replicate n ds).flatten).map W.d := by
  induction n with
  | zero => rfl
  | succ n ih => rw [List.replicate_succ, List.replicate_succ, List.flatten_cons, List.flatten_cons, ih, List.map_append]
theorem op2_rep : Op2 X T Wx (binaryOp .Mult) oRep := by
  intro pins s σ H x y v u Q I rx ry q
  obtain ⟨G, wx, wy, M, Q2, E2, sr, r1, r2, ⟨n, rfl, h1, h2, q2⟩, pq, px⟩ := q
  rcases q2 with ⟨z, rfl, h3, q2⟩ | ⟨ds, rfl, h3, q2⟩
  · obtain ⟨rfl, hz⟩ := (show x = .str z ∧ z.length ≤ sizeLine from r1)
    cases (show y = .int n from r2)
    obtain ⟨t, rfl⟩ := rx
    obtain ⟨t', rfl⟩ := ry
    refine SB.mul (mulOk_of h1 h2 h3) fun t1 k1 => ?_
    exact ⟨.str (Txt.mul z n), H, I.tok _, ⟨t1, rfl⟩, pq _ M G H _ (Mo.refl _) sr (show RW T G (.d (.str (Txt.mul z n))) (.str (Txt.mul z n)) from ⟨rfl, mul_len h3 h1 h2⟩) q2⟩
  · obtain ⟨a, vs, rfl, ha, rr⟩ := (show ∃ a vs, x = .ref a ∧ G a = some (.lst vs) ∧ RpL T G ds vs from r1)
    cases (show y = .int n from r2)
    have hl : vs.length = ds.length := by rw [← (RpL.to rr).len, List.length_map]
    refine op_rep pins s σ H _ _ v u Q I rx ry ⟨a, n, vs, rfl, rfl, sr.le _ _ ha, by omega, by omega, by rw [hl]; exact h3, fun p hp => ?_⟩
    exact newL_low (b := false) sr (flat_rep (RpL.to rr) n.toNat) (show newL false _ M Q2 from ⟨_, by rw [unD_rep]; exact unD_map _, q2⟩) pq hp
end
end Z
set_option maxHeartbeats 4000000
/-! X7: dicts with texts or numbers as keys, in the second layer -/
namespace Z
open PySem PySem.Spec PyProof.Rows L2
def dctW (M : Mp) : W → Option (List (Key × W))
  | .c a => match M a with
    | some (.dic _ kvs) => some kvs
    | _ => none
  | .d (.dic kvs) => some (kvs.map fun p => (p.1, W.d p.2))
  | _ => none
def keyW : W → Option Key
  | .d (.str s) => some (.inr s)
  | .d (.int i) => some (.inl i)
  | _ => none
def keyD : Key → D
  | .inl i => .int i
  | .inr s => .str s
def getK (kvs : List (Key × W)) (k : Key) : Option W := (kvs.find? fun kv => decide (kv.1 = k)).map (·.2)
def putD (kvs : List (Key × W)) (k : Key) (v : W) : List (Key × W) := if (kvs.any fun kv => decide (kv.1 = k)) = true then kvs.map (fun kv => if kv.1 = k then (kv.1, v) else kv) else kvs ++ [(k, v)]
def dropD (kvs : List (Key × W)) (k : Key) : List (Key × W) := kvs.filter fun kv => decide (kv.1 ≠ k)
section
variable {T : Tab} {G G' H : Hp} {M : Mp}
theorem key_low {w : W} {v : V} {k : Key} (r : RW T G w v) (h : keyW w = some k) : v = kV k := by
  cases w with
  | d x => cases x with
    | str s => cases h; exact (show v = .str s ∧ _ from r).1
    | int i => cases h; exact r
    | _ => exact nomatch h
  | _ => exact nomatch h
theorem rks_val {ws : List (Key × W)} {vs : List (Key × V)} (h : RKs T G ws vs) (k : Key) : (getK ws k = none ∧ valV vs k = none) ∨ ∃ w v, getK ws k = some w ∧ valV vs k = some v ∧ RW T G w v := by
  induction h with
  | nil => exact .inl ⟨rfl, rfl⟩
  | @cons p q ps qs r t ih =>
    by_cases e : p.1 = k
    · refine .inr ⟨p.2, q.2, ?_, valV_pos (r.1 ▸ e), r.2⟩
      simp [getK, List.find?_cons, e]
    · have e2 : ¬ q.1 = k := by rw [← r.1]; exact e
      have e3 : getK (p :: ps) k = getK ps k := by simp [getK, List.find?_cons, e]
      rw [e3, valV_neg e2]
      exact ih
theorem RKs.any {ws : List (Key × W)} {vs : List (Key × V)} (h : RKs T G ws vs) (k : Key) : (ws.any fun kv => decide (kv.1 = k)) = (vs.any fun kv => decide (kv.1 = k)) := by
  induction h with
  | nil => rfl
  | cons r t ih => rw [List.any_cons, List.any_cons, ih, r.1]
theorem RKs.put {ws : List (Key × W)} {vs : List (Key × V)} (h : RKs T G ws vs) (k : Key) {w : W} {v : V} (r : RW T G w v) : RKs T G (putD ws k w) (putK vs k v) := by
  have an := h.any k
  have mp : RKs T G (ws.map fun kv => if kv.1 = k then (kv.1, w) else kv) (vs.map fun kv => if kv.1 = k then (kv.1, v) else kv) := by
    clear an
    induction h with
    | nil => exact .nil
    | @cons p q ps qs a t ih =>
      refine .cons ?_ ih
      by_cases e : p.1 = k
      · have e2 : q.1 = k := by rw [← a.1]; exact e
        dsimp only
        rw [if_pos e, if_pos e2]
        exact ⟨a.1, r⟩
      · have e2 : ¬ q.1 = k := by rw [← a.1]; exact e
        dsimp only
        rw [if_neg e, if_neg e2]
        exact a
  unfold putD putK
  rw [an]
  split
  · exact mp
  · exact Paired.app h (.cons ⟨rfl, r⟩ .nil)
theorem RKs.dropD {ws : List (Key × W)} {vs : List (Key × V)} (h : RKs T G ws vs) (k : Key) : RKs T G (dropD ws k) (dropK vs k) := by
  induction h with
  | nil => exact .nil
  | @cons p q ps qs a t ih =>
    unfold Z.dropD dropK
    by_cases e : p.1 = k
    · have e2 : q.1 = k := by rw [← a.1]; exact e
      rw [List.filter_cons_of_neg (by simpa using e), List.filter_cons_of_neg (by simpa using e2)]
      exact ih
    · have e2 : ¬ q.1 = k := by rw [← a.1]; exact e
      rw [List.filter_cons_of_pos (by simpa using e), List.filter_cons_of_pos (by simpa using e2)]
      exact .cons a ih
theorem RpK.to : ∀ {kvs : List (Key × D)} {vs : List (Key × V)}, RpK T G kvs vs → RKs T G (kvs.map fun p => (p.1, W.d p.2)) vs
  | [], vs, h => by rw [RpK] at h; rw [h]; exact .nil
  | (k, d) :: r, vs, h => by
    obtain ⟨v, r', rfl, h1, h2⟩ := (show ∃ v r', vs = (k, v) :: r' ∧ Rp T G d v ∧ RpK T G r r' from h)
    exact .cons ⟨rfl, h1⟩ (RpK.to h2)
theorem unl_dK {o : HO} {vs : List (Key × V)} (h : unl o = .dK vs) : o = .dK vs ∨ ∃ ob, o = .frz ob (.dK vs) := by
  cases o with
  | frz ob u => cases u with
    | dK kvs => exact .inr ⟨ob, by cases (show HO.dK kvs = .dK vs from h); rfl⟩
    | _ => exact nomatch h
  | dK kvs => exact .inl h
  | _ => exact nomatch h
theorem dct_low (sr : SR T G H M) {w : W} {v : V} {kvs : List (Key × W)} (r : RW T G w v) (h : dctW M w = some kvs) : ∃ a vs, v = .ref a ∧ Rd H a (.dK vs) ∧ RKs T G kvs vs := by
  cases w with
  | c a =>
    have h : (match M a with | some (.dic _ kvs) => some kvs | _ => none) = some kvs := h
    split at h
    · rename_i lk kvs' e
      cases h
      obtain ⟨_, o, ho, vs, h1, rr⟩ := sr.ce a _ e
      refine ⟨a, vs, r, ?_, rr⟩
      cases lk with
      | none => exact .inl (ho.trans (congrArg some (show o = .dK vs from h1)))
      | some l => exact .inr ⟨l.1, ho.trans (congrArg some (show o = .frz l.1 (.dK vs) ∧ vs = l.2 from h1).1)⟩
    · cases h
  | d x => cases x with
    | dic ks =>
      cases h
      obtain ⟨a, o, vs, e1, e2, e3, rr⟩ := (show ∃ a o vs, v = .ref a ∧ G a = some o ∧ unl o = .dK vs ∧ RpK T G ks vs from r)
      refine ⟨a, vs, e1, ?_, RpK.to rr⟩
      have hH := sr.le _ _ e2
      rcases unl_dK e3 with e | ⟨ob, e⟩
      · exact .inl (by rw [hH, e])
      · exact .inr ⟨ob, by rw [hH, e]⟩
    | _ => exact nomatch h
  | r xs => exact nomatch h
theorem keyD_low (k : Key) : (∀ s, k = .inr s → s.length ≤ sizeLine) → RW T G (.d (keyD k)) (kV k) := fun h => by
  cases k with
  | inl i => rfl
  | inr s => exact ⟨rfl, h s rfl⟩
end
section
variable {X : Cx} {T : Tab} {Wx : WX} {k : Nat} {N : List Str} {mg : Str → Option Value} {sc : Scope}
/-- d[k] -/
def wDget (td ty : TE2) : TE2 := fun σ M Q E => td σ M (fun x M1 => ty σ M1 (fun y M2 => ofO (dctW M2 x) fun kvs => ofO (keyW y) fun k => ofO (getK kvs k) fun v => Q v M2) E) E
theorem e_dget {o i : Expr} {td ty : TE2} {pos : Pos} (C : Ctx T k N mg X Wx sc) (ho : PE X o (lowE T Wx td)) (hi : PE X i (lowE T Wx ty)) (hs : NoSl i) : PE X (.Subscript o i pos) (lowE T Wx (wDget td ty)) := (pe_dget (hu_of C.room) ho hi hs).imp fun σ H Q h => by
  obtain ⟨G, σ2, M, Q2, E2, sr, rs, q2, pq, px⟩ := h
  refine ⟨G, σ2, M, _, E2, sr, rs, q2, fun wx M1 G1 H1 x m1 sr1 rx q3 => ?_, px⟩
  refine ⟨G1, σ2, M1, _, E2, sr1, rs.mono m1, q3, fun wy M2 G2 H2 y m2 sr2 ry q4 => ?_, px.mono m1⟩
  obtain ⟨kvs, e1, kk, e2, w, e3, q4⟩ := q4
  obtain ⟨a, vs, rfl, rd, rr⟩ := dct_low sr2 (rx.mono m2) e1
  cases key_low ry e2
  rcases rks_val rr kk with ⟨h1, _⟩ | ⟨w', v, h1, h2, rv⟩
  · rw [h1] at e3; cases e3
  · rw [h1] at e3; cases e3
    exact ⟨a, v, rfl, .inl ⟨vs, kk, rd, rfl, h2.symm⟩, pq w M2 G2 H2 v (m1.trans m2) sr2 rv q4⟩
/-- d.get(k, v) -/
def wDget2 (td ty tx : TE2) : TE2 := fun σ M Q E => td σ M (fun x M1 => (dctW M1 x).isSome = true ∧ ty σ M1 (fun y M2 => tx σ M2 (fun z M3 => ofO (dctW M3 x) fun kvs => ofO (keyW y) fun k => Q ((getK kvs k).getD z) M3) E) E) E
theorem e_dget2 {o e f : Expr} {td ty tx : TE2} {apos pos : Pos} (C : Ctx T k N mg X Wx sc) (ho : PE X o (lowE T Wx td)) (he : PE X e (lowE T Wx ty)) (hf : PE X f (lowE T Wx tx)) (m : M2 X o "get" apos e f pos) : PE X (.Call (.Attribute o "get" apos) [e, f] [] pos) (lowE T Wx (wDget2 td ty tx)) := (pe_dget2 (hu_of C.room) ho he hf m).imp fun σ H Q h => by
  obtain ⟨G, σ2, M, Q2, E2, sr, rs, q2, pq, px⟩ := h
  refine ⟨G, σ2, M, _, E2, sr, rs, q2, fun wx M1 G1 H1 x m1 sr1 rx q3 => ?_, px⟩
  obtain ⟨hd, q3⟩ := q3
  cases hd' : dctW M1 wx with
  | none => rw [hd'] at hd; cases hd
  | some k0 =>
    obtain ⟨a0, vs0, rfl, rd0, _⟩ := dct_low sr1 rx hd'
    refine ⟨a0, rfl, .inl ⟨vs0, rd0⟩, G1, σ2, M1, _, E2, sr1, rs.mono m1, q3, fun wy M2 G2 H2 y m2 sr2 ry q4 => ?_, px.mono m1⟩
    refine ⟨G2, σ2, M2, _, E2, sr2, rs.mono (m1.trans m2), q4, fun wz M3 G3 H3 z m3 sr3 rz q5 => ?_, px.mono (m1.trans m2)⟩
    obtain ⟨kvs, e1, kk, e2, q5⟩ := q5
    obtain ⟨a, vs, ea, rd, rr⟩ := dct_low sr3 (rx.mono (m2.trans m3)) e1
    cases ea
    cases key_low (ry.mono m3) e2
    refine ⟨valV vs kk, .inl ⟨vs, kk, rd, rfl, rfl⟩, ?_⟩
    rcases rks_val rr kk with ⟨h1, h2⟩ | ⟨w', v, h1, h2, rv⟩
    · rw [h1] at q5; rw [h2]
      exact pq wz M3 G3 H3 z ((m1.trans m2).trans m3) sr3 rz q5
    · rw [h1] at q5; rw [h2]
      exact pq w' M3 G3 H3 v ((m1.trans m2).trans m3) sr3 rv q5
/-- k in d, k not in d -/
def wDin (neg : Bool) (ty td : TE2) : TE2 := fun σ M Q E => ty σ M (fun y M1 => td σ M1 (fun x M2 => ofO (dctW M2 x) fun kvs => ofO (keyW y) fun k => Q (.d (.bool (neg ^^ (getK kvs k).isSome))) M2) E) E
theorem low_din {neg : Bool} {td ty : TE2} {σ : L2.St} {H : Hp} {Q : VK} (h : lowE T Wx (wDin neg ty td) σ H Q) : lowE T Wx ty σ H fun y H1 => lowE T Wx td σ H1 fun x H2 => ∃ a o, x = .ref a ∧ DGet H2 a y o ∧ Q (.bl (neg ^^ o.isSome)) H2 := by
  obtain ⟨G, σ2, M, Q2, E2, sr, rs, q2, pq, px⟩ := h
  refine ⟨G, σ2, M, _, E2, sr, rs, q2, fun wy M1 G1 H1 y m1 sr1 ry q3 => ?_, px⟩
  refine ⟨G1, σ2, M1, _, E2, sr1, rs.mono m1, q3, fun wx M2 G2 H2 x m2 sr2 rx q4 => ?_, px.mono m1⟩
  obtain ⟨kvs, e1, kk, e2, q4⟩ := q4
  obtain ⟨a, vs, rfl, rd, rr⟩ := dct_low sr2 rx e1
  cases key_low (ry.mono m2) e2
  refine ⟨a, valV vs kk, rfl, .inl ⟨vs, kk, rd, rfl, rfl⟩, ?_⟩
  have e : (getK kvs kk).isSome = (valV vs kk).isSome := by rcases rks_val rr kk with ⟨h1, h2⟩ | ⟨w', v, h1, h2, rv⟩ <;> rw [h1, h2] <;> rfl
  rw [e] at q4
  exact pq _ M2 G2 H2 _ (m1.trans m2) sr2 (show RW T G2 (.d (.bool (neg ^^ (valV vs kk).isSome))) (.bl (neg ^^ (valV vs kk).isSome)) from rfl) q4
/-- {} -/
def wDnew : TE2 := fun _ M Q _ => ∀ p, M p = none → Q (.c p) (put M p (.dic none []))
theorem e_dnew {pos : Pos} : PE X (.Dict [] [] pos) (lowE T Wx wDnew) := pe_dnewK.imp fun σ H Q h => by
  obtain ⟨G, σ2, M, Q2, E2, sr, rs, q2, pq, px⟩ := h
  intro p hp
  exact pq (.c p) _ G _ (.ref p) (Mo.refl _) (sr.cell hp (show RC T G (.dic none []) (.dK []) from ⟨[], rfl, .nil⟩)) rfl (q2 p (sr.freeM hp))
/-- d[k] = v -/
def wDput (td ty tv : TE2) : TS2 := fun D σ M => tv σ M (fun v M1 => td σ M1 (fun x M2 => ty σ M2 (fun y M3 => ∃ a kvs, x = .c a ∧ M3 a = some (.dic none kvs) ∧ kvs.length < sizeLine ∧ ofO (keyW y) fun k => D.nx σ (put M3 a (.dic none (putD kvs k v)))) fun z M3 => D.ex z σ M3) fun z M2 => D.ex z σ M2) fun z M1 => D.ex z σ M1
theorem s_dput {o i value : Expr} {td ty tv : TE2} {pos pos' : Pos} (C : Ctx T k N mg X Wx sc) (ho : PE X o (lowE T Wx td)) (hi : PE X i (lowE T Wx ty)) (hv : PE X value (lowE T Wx tv)) (hs : swapsWith value (some (.Subscript o i pos')) pos.line X.env = pure false) :
    PS X (.Assign [.Subscript o i pos'] value pos) (lowS T Wx (wDput td ty tv)) := (ps_dput (hu_of C.room) ho hi hv hs).imp fun D σ H h => by
  obtain ⟨G, σ2, M, D2, sr, rs, q, pd⟩ := h
  refine ⟨G, σ2, M, _, _, sr, rs, q, fun wv M1 G1 H1 v m1 sr1 rv q1 => ?_, pd.px rs⟩
  refine ⟨G1, σ2, M1, _, _, sr1, rs.mono m1, q1, fun wx M2 G2 H2 x m2 sr2 rx q2 => ?_, (pd.mono m1).px (rs.mono m1)⟩
  refine ⟨G2, σ2, M2, _, _, sr2, rs.mono (m1.trans m2), q2, fun wy M3 G3 H3 y m3 sr3 ry q3 => ?_, (pd.mono (m1.trans m2)).px (rs.mono (m1.trans m2))⟩
  obtain ⟨a, kvs, rfl, e, hl, kk, e2, q3⟩ := q3
  cases key_low ry e2
  obtain ⟨_, o', ho', vs, h1, rr⟩ := sr3.ce a _ e
  cases (show o' = .dK vs from h1)
  have mo := (m1.trans m2).trans m3
  refine ⟨a, _, rx, DPut.k ho' (by rw [← RKs.size rr]; exact hl), ?_⟩
  exact pd.nx _ _ G3 _ _ mo (sr3.write e (show RC T G3 (.dic none (putD kvs kk wv)) (.dK (putK vs kk v)) from ⟨_, rfl, rr.put kk (rv.mono (m2.trans m3))⟩)) (rs.mono mo) q3
/-- del d[k] -/
def wDdel (td ty : TE2) : TS2 := fun D σ M => td σ M (fun x M1 => ty σ M1 (fun y M2 => ∃ a kvs, x = .c a ∧ M2 a = some (.dic none kvs) ∧ ofO (keyW y) fun k => (getK kvs k).isSome = true ∧ D.nx σ (put M2 a (.dic none (dropD kvs k)))) fun z M2 => D.ex z σ M2) fun z M1 => D.ex z σ M1
theorem s_ddel {o i : Expr} {td ty : TE2} {pos tpos : Pos} (ho : PE X o (lowE T Wx td)) (hi : PE X i (lowE T Wx ty)) : PS X (.Delete [.Subscript o i tpos] pos) (lowS T Wx (wDdel td ty)) := (ps_ddel ho hi).imp fun D σ H h => by
  obtain ⟨G, σ2, M, D2, sr, rs, q, pd⟩ := h
  refine ⟨G, σ2, M, _, _, sr, rs, q, fun wx M1 G1 H1 x m1 sr1 rx q1 => ?_, pd.px rs⟩
  refine ⟨G1, σ2, M1, _, _, sr1, rs.mono m1, q1, fun wy M2 G2 H2 y m2 sr2 ry q2 => ?_, (pd.mono m1).px (rs.mono m1)⟩
  obtain ⟨a, kvs, rfl, e, kk, e2, e3, q3⟩ := q2
  cases key_low ry e2
  obtain ⟨_, o', ho', vs, h1, rr⟩ := sr2.ce a _ e
  cases (show o' = .dK vs from h1)
  have mo := m1.trans m2
  refine ⟨a, vs, kk, rx, ho', rfl, ?_, ?_⟩
  · rcases rks_val rr kk with ⟨h1, h2⟩ | ⟨w', v, h1, h2, rv⟩
    · rw [h1] at e3; cases e3
    · rw [h2]; rfl
  · exact pd.nx _ _ G2 _ _ mo (sr2.write e (show RC T G2 (.dic none (dropD kvs kk)) (.dK (dropK vs kk)) from ⟨_, rfl, rr.dropD kk⟩)) (rs.mono mo) q3
end
end Z
set_option maxHeartbeats 4000000
/-! X8: dicts: the lock of a loop, keys, comprehensions, list(d), dict(d), len(d) -/
namespace Z
open PySem PySem.Spec PyProof.Rows L2
def keyOk : Key → Prop
  | .inl _ => True
  | .inr s => s.length ≤ sizeLine
section
variable {T : Tab} {G G' H : Hp} {M : Mp}
theorem keyD_ok {k : Key} (h : keyOk k) : RW T G (.d (keyD k)) (kV k) := keyD_low k fun s e => by subst e; exact h
/-- an unlocked dict in a cell, below -/
theorem SR.dic (sr : SR T G H M) {a : Addr} {kvs : List (Key × W)} (e : M a = some (.dic none kvs)) : ∃ vs, H a = some (.dK vs) ∧ RKs T G kvs vs := by
  obtain ⟨_, o, ho, vs, h1, rr⟩ := sr.ce a _ e
  cases (show o = .dK vs from h1)
  exact ⟨vs, ho, rr⟩
/-- .. a locked one -/
theorem SR.dicL (sr : SR T G H M) {a : Addr} {kvs : List (Key × W)} {l : Obj × List (Key × V)} (e : M a = some (.dic (some l) kvs)) : H a = some (.frz l.1 (.dK l.2)) ∧ RKs T G kvs l.2 := by
  obtain ⟨_, o, ho, vs, h1, rr⟩ := sr.ce a _ e
  obtain ⟨h2, h3⟩ := (show o = .frz l.1 (.dK vs) ∧ vs = l.2 from h1)
  subst h3
  subst h2
  exact ⟨ho, rr⟩
theorem RKs.keys {ws : List (Key × W)} {vs : List (Key × V)} (h : RKs T G ws vs) (ok : ∀ p ∈ ws, keyOk p.1) : RWs T G (ws.map fun p => .d (keyD p.1)) (vs.map fun q => kV q.1) := by
  induction h with
  | nil => exact .nil
  | @cons p q ps qs r t ih =>
    refine .cons ?_ (ih fun x hx => ok x (List.mem_cons_of_mem _ hx))
    dsimp only
    rw [← r.1]
    exact keyD_ok (ok p List.mem_cons_self)
end
section
variable {X : Cx} {T : Tab} {Wx : WX} {k : Nat} {N : List Str} {mg : Str → Option Value} {sc : Scope}
/-- where the dict stands: the i-th name, or a field of it -/
def rdA (i : Nat) (f : Option Str) (σ : St2) (M : Mp) : Option Addr := match σ[i]?.join with
  | some (.c a) => match f with
    | none => some a
    | some g => match M a with
      | some (.ins _ _ fs) => match fs.lookup g with
        | some (.c b) => some b
        | _ => none
      | _ => none
  | _ => none
/-- a statement that walks a dict -/
def wLock (i : Nat) (f : Option Str) (t : TS2) : TS2 := fun D σ M => ofO (rdA i f σ M) fun a => ∃ kvs, M a = some (.dic none kvs) ∧ ∀ l : Obj × List (Key × V), t
  { nx := fun σ' M' => M' a = some (.dic (some l) kvs) ∧ D.nx σ' (put M' a (.dic none kvs)), rt := fun w M' => M' a = some (.dic (some l) kvs) ∧ D.rt w (put M' a (.dic none kvs)),
    bk := fun σ' M' => M' a = some (.dic (some l) kvs) ∧ D.bk σ' (put M' a (.dic none kvs)), ct := fun σ' M' => M' a = some (.dic (some l) kvs) ∧ D.ct σ' (put M' a (.dic none kvs)), ex := fun x σ' M' => M' a = some (.dic (some l) kvs) ∧ D.ex x σ' (put M' a (.dic none kvs)) } σ (put M a (.dic (some l) kvs))
theorem s_lock {i : Nat} {f : Option Str} {st : Stmt} {t : TS2} (tk : Takes X Wx) (h : ∀ W' : WX, Takes X W' → PS X st (lowS T W' t)) : PS X st (lowS T Wx (wLock i f t)) := ⟨fun pins s σ H D I hw => by
  obtain ⟨G, σ2, M, D2, sr, rs, ⟨a, _, kvs, e, q⟩, pd⟩ := hw
  obtain ⟨vs, ho, rr⟩ := sr.dic e
  obtain ⟨od, I1⟩ := I.lock ho (show Mut (some (.dK vs)) from trivial)
  have nf := I.nofrz ho (show Mut (some (.dK vs)) from trivial)
  have tk' : Takes X (fun cls dd σ1 H1 => H1 a = some (.frz od (.dK vs)) ∧ Wx cls dd σ1 (upd H1 a (.dK vs))) := fun u s' ⟨b, B, sI, pins, σ1, H1, cls, d, e, J, nb, up, sky, na, os, ag, w⟩ => by
    have hb : b ≠ a := fun z => by subst z; rw [w.1] at na; cases na
    exact tk u s' ⟨b, B, sI, pins, σ1, _, cls, d, e, J.unlock w.1 nf, nb, up, sky, by rw [upd_ne hb]; exact na, os, ag, w.2⟩
  have back : ∀ {M' : Mp} {G' H' : Hp}, SR T G' H' M' → M' a = some (.dic (some (od, vs)) kvs) → H' a = some (.frz od (.dK vs)) ∧ SR T G' (upd H' a (.dK vs)) (put M' a (.dic none kvs)) := fun {M' G' H'} sr' e' => by
    obtain ⟨h1, h2⟩ := sr'.dicL e'
    exact ⟨h1, sr'.write e' (show RC T G' (.dic none kvs) (.dK vs) from ⟨vs, rfl, h2⟩)⟩
  refine thn ((h _ tk').run pins s σ _ ⟨fun σ' H' => H' a = some (.frz od (.dK vs)) ∧ D.nx σ' (upd H' a (.dK vs)), fun v H' => H' a = some (.frz od (.dK vs)) ∧ D.rt v (upd H' a (.dK vs)), fun σ' H' => H' a = some (.frz od (.dK vs)) ∧ D.bk σ' (upd H' a (.dK vs)), fun σ' H' => H' a = some (.frz od (.dK vs)) ∧ D.ct σ' (upd H' a (.dK vs))⟩ I1
    ⟨G, σ2, _, _, sr.write e (show RC T G (.dic (some (od, vs)) kvs) (.frz od (.dK vs)) from ⟨vs, ⟨rfl, rfl⟩, rr⟩), rs, q (od, vs), ?_⟩) fun f s1 q => ?_
  · refine ⟨fun σ3 M' G' H' σ1 m sr' rs' q' => ?_, fun w M' G' H' v m sr' rw' q' => ?_, fun σ3 M' G' H' σ1 m sr' rs' q' => ?_, fun σ3 M' G' H' σ1 m sr' rs' q' => ?_, fun x σ3 M' G' H' σ1 cls d m sr' rs' rx q' => ?_⟩
    · obtain ⟨b1, b2⟩ := back sr' q'.1
      exact ⟨b1, pd.nx _ _ G' _ _ m b2 rs' q'.2⟩
    · obtain ⟨b1, b2⟩ := back sr' q'.1
      exact ⟨b1, pd.rt _ _ G' _ _ m b2 rw' q'.2⟩
    · obtain ⟨b1, b2⟩ := back sr' q'.1
      exact ⟨b1, pd.bk _ _ G' _ _ m b2 rs' q'.2⟩
    · obtain ⟨b1, b2⟩ := back sr' q'.1
      exact ⟨b1, pd.ct _ _ G' _ _ m b2 rs' q'.2⟩
    · obtain ⟨b1, b2⟩ := back sr' q'.1
      exact ⟨b1, pd.ex x _ _ G' _ _ cls d m b2 rs' rx q'.2⟩
  · cases f with
    | next => obtain ⟨σ', H', I2, e, q⟩ := q; exact ⟨σ', _, I2.unlock e nf, q⟩
    | brk => obtain ⟨σ', H', I2, e, q⟩ := q; exact ⟨σ', _, I2.unlock e nf, q⟩
    | cont => obtain ⟨σ', H', I2, e, q⟩ := q; exact ⟨σ', _, I2.unlock e nf, q⟩
    | ret v => obtain ⟨x, σ', H', I2, r, e, q⟩ := q; exact ⟨x, σ', _, I2.unlock e nf, r, q⟩⟩
/-- an expression that walks a dict -/
def wLockE (i : Nat) (f : Option Str) (t : TE2) : TE2 := fun σ M Q E => ofO (rdA i f σ M) fun a => ∃ kvs, M a = some (.dic none kvs) ∧ ∀ l : Obj × List (Key × V), t σ (put M a (.dic (some l) kvs)) (fun w M' => M' a = some (.dic (some l) kvs) ∧ Q w (put M' a (.dic none kvs))) E
theorem e_lock {i : Nat} {f : Option Str} {e : Expr} {t : TE2} (h : PE X e (lowE T Wx t)) : PE X e (lowE T Wx (wLockE i f t)) := (pe_lock h).imp fun σ H Q q => by
  obtain ⟨G, σ2, M, Q2, E2, sr, rs, ⟨a, _, kvs, e, q⟩, pq, px⟩ := q
  obtain ⟨vs, ho, rr⟩ := sr.dic e
  refine ⟨a, _, ho, trivial, fun od => ⟨G, σ2, _, _, E2, sr.write e (show RC T G (.dic (some (od, vs)) kvs) (.frz od (.dK vs)) from ⟨vs, ⟨rfl, rfl⟩, rr⟩), rs, q (od, vs), fun w M' G' H' v m sr' rw' q' => ?_, px⟩⟩
  obtain ⟨h1, h2⟩ := sr'.dicL q'.1
  exact ⟨h1, pq _ _ G' _ _ m (sr'.write q'.1 (show RC T G' (.dic none kvs) (.dK vs) from ⟨vs, rfl, h2⟩)) rw' q'.2⟩
/-- k in d -/
def oDin (neg : Bool) : R22 := fun y x M Q _ => ofO (dctW M x) fun kvs => ofO (keyW y) fun k => Q (.d (.bool (neg ^^ (getK kvs k).isSome))) M
theorem op2_din (C : Ctx T k N mg X Wx sc) (neg : Bool) : Op2 X T Wx (compareOp (if neg = true then .NotIn else .In)) (oDin neg) := by
  intro pins s σ H y x v u Q I ry rx q
  obtain ⟨G, wy, wx, M, Q2, E2, sr, r1, r2, ⟨kvs, e1, kk, e2, q2⟩, pq, px⟩ := q
  obtain ⟨a, vs, rfl, rd, rr⟩ := dct_low sr r2 e1
  cases key_low r1 e2
  cases (show u = .ref a from rx)
  have e : (getK kvs kk).isSome = (valV vs kk).isSome := by rcases rks_val rr kk with ⟨h1, h2⟩ | ⟨w', v, h1, h2, rv⟩ <;> rw [h1, h2] <;> rfl
  rw [e] at q2
  have fin := pq _ M G H _ (Mo.refl _) sr (show RW T G (.d (.bool (neg ^^ (valV vs kk).isSome))) (.bl (neg ^^ (valV vs kk).isSome)) from rfl) q2
  cases neg with
  | true =>
    rw [if_pos rfl]
    exact d_notIn (hu_of C.room) I (.inl ⟨vs, kk, rd, rfl, rfl⟩) ry fun s3 I3 => ⟨.bl (!(valV vs kk).isSome), H, I3, rfl, by simpa using fin⟩
  | false =>
    rw [if_neg Bool.false_ne_true]
    exact d_in (hu_of C.room) I (.inl ⟨vs, kk, rd, rfl, rfl⟩) ry fun s3 I3 => ⟨.bl (valV vs kk).isSome, H, I3, rfl, by simpa using fin⟩
/-- for k in d -/
def wiKeys (te : TE2) : TI2 := fun σ M R E => te σ M (fun x M1 => ∃ a l kvs, x = .c a ∧ M1 a = some (.dic (some l) kvs) ∧ (∀ p ∈ kvs, keyOk p.1) ∧ R (kvs.map fun p => .d (keyD p.1)) (fun M2 => M2 a = some (.dic (some l) kvs)) M1) E
theorem i_keys {tg e : Expr} {te : TE2} (he : PE X e (lowE T Wx te)) : PI X tg e (lowI T Wx (wiKeys te)) := (pi_keys he).imp fun σ H R q => by
  obtain ⟨G, σ2, M, R2, E2, sr, rs, q2, pr, px⟩ := q
  refine ⟨G, σ2, M, _, E2, sr, rs, q2, fun w M1 G1 H1 v m1 sr1 rw1 q3 => ?_, px⟩
  obtain ⟨a, l, kvs, rfl, e, ok, q3⟩ := q3
  obtain ⟨ho, rr⟩ := sr1.dicL e
  refine ⟨a, l.1, rw1, .inl ⟨l.2, ho, pr _ _ _ M1 G1 H1 m1 sr1 ?_ q3⟩⟩
  intro G2 H2 M2 m2 sr2 e2
  obtain ⟨ho2, rr2⟩ := sr2.dicL e2
  have hl : (kvs.map fun p => W.d (keyD p.1)).length = l.2.length := by rw [List.length_map]; exact RKs.size rr2
  refine ⟨fun i hi => ⟨ho2, by rw [← hl]; exact hi⟩, fun i w hw => ⟨⟨ho2, ?_⟩, fun x H' y => ?_⟩⟩
  · rw [← hl]; exact (List.getElem?_eq_some_iff.mp hw).1
  · obtain ⟨rfl, kk, v, h1, rfl⟩ := y
    obtain ⟨v', h2, h3⟩ := Paired.getE (rr2.keys ok) hw
    rw [List.getElem?_map, h1] at h2
    cases h2
    exact ⟨G2, Mo.refl _, sr2, h3⟩
/-- list(d) -/
def rListK (m : Bool) : RC2 := fun ws M Q => ∃ a kvs, ws = [.c a] ∧ M a = some (.dic none kvs) ∧ (∀ p ∈ kvs, keyOk p.1) ∧ newL m (kvs.map fun p => .d (keyD p.1)) M Q
theorem b_listK (hc : X.calm = true) (m : Bool) : CallR X (.type "list") (lowB T (rListK m)) := (call_list_dK hc).imp fun vs H Q h => by
  obtain ⟨G, ws, M, Q2, sr, rr, ⟨a, kvs, rfl, e, ok, q⟩, pq⟩ := h
  obtain ⟨v, rfl, rv⟩ := rr.one
  obtain ⟨us, ho, r2⟩ := sr.dic e
  cases (show v = .ref a from rv)
  exact ⟨a, us, rfl, ho, fun p hp => newL_low sr (r2.keys ok) q pq hp⟩
/-- dict(d) -/
def rDictK : RC2 := fun ws M Q => ∃ w kvs, ws = [w] ∧ dctW M w = some kvs ∧ ∀ p, M p = none → Q (.c p) (put M p (.dic none kvs))
theorem b_dictK : CallR X (.type "dict") (lowB T rDictK) := call_dictD.imp fun vs H Q h => by
  obtain ⟨G, ws, M, Q2, sr, rr, ⟨w, kvs, rfl, e, q⟩, pq⟩ := h
  obtain ⟨v, rfl, rv⟩ := rr.one
  obtain ⟨a, us, rfl, rd, r2⟩ := dct_low sr rv e
  refine ⟨a, us, rfl, rd, fun p hp => ?_⟩
  exact pq (.c p) _ G _ (.ref p) (Mo.refl _) (sr.cell hp (show RC T G (.dic none kvs) (.dK us) from ⟨us, rfl, r2⟩)) rfl (q p (sr.freeM hp))
/-- len(d) -/
def rLenK : RC2 := fun ws M Q => ∃ a kvs, ws = [.c a] ∧ M a = some (.dic none kvs) ∧ Q (.d (.int kvs.length)) M
theorem b_lenK : CallR X (.builtin "len") (lowB T rLenK) := call_lenD.imp fun vs H Q h => by
  obtain ⟨G, ws, M, Q2, sr, rr, ⟨a, kvs, rfl, e, q⟩, pq⟩ := h
  obtain ⟨v, rfl, rv⟩ := rr.one
  obtain ⟨us, ho, r2⟩ := sr.dic e
  cases (show v = .ref a from rv)
  refine ⟨a, us, rfl, ho, ?_⟩
  rw [← RKs.size r2]
  exact pq (.d (.int kvs.length)) M G H _ (Mo.refl _) sr (show RW T G (.d (.int kvs.length)) (.int kvs.length) from rfl) q
/-! ### {k: v for .. in .. if ..} -/
def dcL (p : Addr) (ok : Mp → Prop) (g : TG2) (tt : TT2) (tk tv : TE2) (σ : St2) (Q : VK2) : List W → Mp → Prop
  | [], M => ok M ∧ Q (.c p) M
  | w :: r, M => ok M ∧ g w σ M (fun σ1 M1 => tt σ1 M1 (fun b M2 => if b = true then tk σ1 M2 (fun y M3 => tv σ1 M3 (fun z M4 => ∃ kvs, M4 p = some (.dic none kvs) ∧ kvs.length < sizeLine ∧ ofO (keyW y) fun kk => dcL p ok g tt tk tv σ Q r (put M4 p (.dic none (putD kvs kk z)))) (fun _ _ => False)) (fun _ _ => False) else dcL p ok g tt tk tv σ Q r M2) (fun _ _ => False)) (fun _ _ => False)
def wDc (ti : TI2) (g : TG2) (tt : TT2) (tk tv : TE2) (vs : List Nat) : TE2 := fun σ M Q E => ti σ M (fun items ok M1 => ∀ p, M1 p = none → dcL p ok g tt tk tv (wipe2 σ vs) Q items (put M1 p (.dic none []))) E
theorem low_dc {ti : TI2} {g : TG2} {tt : TT2} {tk tv : TE2} {gl : TG} {vs : List Nat} {σ : L2.St} {H : Hp} {Q : VK}
    (hgl : ∀ v σ H Q, lowG T W0 g v (wipe σ vs) H Q → gl v (wipe σ vs) H fun σ1 H1 => wipe σ1 vs = wipe σ vs ∧ Q σ1 H1)
    (h : lowE T Wx (wDc ti g tt tk tv vs) σ H Q) : tDc (lowI T Wx ti) gl (lowT T W0 tt) (lowE T W0 tk) (lowE T W0 tv) vs σ H Q := by
  obtain ⟨G, σ2, M, Q2, E2, sr, rs, q2, pq, px⟩ := h
  refine ⟨G, σ2, M, _, E2, sr, rs, q2, fun items ok J M1 G1 H1 m1 sr1 it q3 => ?_, px⟩
  intro Dl hD
  have q3 := q3 Dl (sr1.freeM hD)
  refine ⟨fun i n H' => n = items.length - i ∧ i ≤ items.length ∧ ∃ G2 M2, Mo G1 G2 ∧ SR T G2 H' M2 ∧ dcL Dl ok g tt tk tv (wipe2 σ2 vs) Q2 (items.drop i) M2,
    ⟨items.length, by simp, Nat.zero_le _, G1, _, Mo.refl _, sr1.cell hD (show RC T G1 (.dic none []) (.dK []) from ⟨[], rfl, .nil⟩), q3⟩, fun i n H' w => ?_⟩
  obtain ⟨rfl, hi, G2, M2, m2, sr2, q4⟩ := w
  by_cases hl : i < items.length
  · rw [List.drop_eq_getElem_cons hl] at q4
    obtain ⟨o, q4⟩ := q4
    obtain ⟨_, it2⟩ := it G2 H' M2 m2 sr2 o
    obtain ⟨hgo, hy⟩ := it2 i items[i] (by simp [hl])
    refine .inr ⟨hgo, fun H5 => ∃ G4 M4, Mo G1 G4 ∧ SR T G4 H5 M4 ∧ dcL Dl ok g tt tk tv (wipe2 σ2 vs) Q2 (items.drop (i + 1)) M4, fun H5 h5 => ⟨items.length - (i + 1), by omega, rfl, hl, h5⟩, fun x H3 y => ?_⟩
    obtain ⟨G3, m3, sr3, rx⟩ := hy x H3 y
    have mo := (m1.trans m2).trans m3
    refine hgl x σ H3 _ ⟨G3, wipe2 σ2 vs, M2, items[i], _, _, sr3, (rs.mono mo).wipe vs, rx, q4, fun σ4 M4 G4 H4 σ5 m4 sr4 rs4 q5 => ?_, fun _ _ _ _ _ _ _ _ _ f => f.elim⟩
    refine ⟨G4, σ4, M4, _, _, sr4, rs4, q5, fun b M5 G5 H5 m5 sr5 q6 => ?_, fun _ _ _ _ _ _ _ _ _ f => f.elim⟩
    have mo5 := ((m2.trans m3).trans m4).trans m5
    cases b with
    | false =>
      dsimp only
      rw [if_neg Bool.false_ne_true] at q6 ⊢
      exact ⟨G5, M5, mo5, sr5, q6⟩
    | true =>
      dsimp only
      rw [if_pos rfl] at q6 ⊢
      refine ⟨G5, σ4, M5, _, _, sr5, rs4.mono m5, q6, fun y M6 G6 H6 v m6 sr6 ry q7 => ?_, fun _ _ _ _ _ _ _ _ _ f => f.elim⟩
      refine ⟨G6, σ4, M6, _, _, sr6, rs4.mono (m5.trans m6), q7, fun z M7 G7 H7 u m7 sr7 rz q8 => ?_, fun _ _ _ _ _ _ _ _ _ f => f.elim⟩
      obtain ⟨kvs, e, hz, kk, e2, q8⟩ := q8
      obtain ⟨us, hu, rr⟩ := sr7.dic e
      cases key_low (ry.mono m7) e2
      exact ⟨us, kk, rfl, hu, by rw [← RKs.size rr]; exact hz, G7, _, (mo5.trans m6).trans m7, sr7.write e (show RC T G7 (.dic none (putD kvs kk z)) (.dK (putK us kk u)) from ⟨_, rfl, rr.put kk rz⟩), q8⟩
  · have e : i = items.length := by omega
    subst e
    rw [List.drop_length] at q4
    obtain ⟨o, q4⟩ := q4
    exact .inl ⟨(it G2 H' M2 m2 sr2 o).1 _ (Nat.le_refl _), pq (.c Dl) M2 G2 H' _ (m1.trans m2) sr2 rfl q4⟩
end
end Z
set_option maxHeartbeats 4000000
/-! X9: enumerate, d.items(), list(d.items()), dict(pairs), min of two -/
namespace Z
open PySem PySem.Spec PyProof.Rows L2
/-- a dict whose values are data -/
def pairsD : List (Key × W) → Option (List (Key × D))
  | [] => some []
  | (k, .d x) :: r => (pairsD r).map fun l => (k, x) :: l
  | _ :: _ => none
theorem pairsD_eq : ∀ {kvs : List (Key × W)} {ps : List (Key × D)}, pairsD kvs = some ps → kvs = ps.map fun p => (p.1, W.d p.2)
  | [], ps, h => by cases h; rfl
  | (k, .d x) :: r, ps, h => by
    have h : ((pairsD r).map fun l => (k, x) :: l) = some ps := h
    cases e : pairsD r with
    | none => rw [e] at h; cases h
    | some l =>
      rw [e] at h
      cases h
      rw [pairsD_eq e]
      rfl
  | (_, .c _) :: _, _, h => nomatch h
  | (_, .r _) :: _, _, h => nomatch h
def tupKD (p : Key × D) : D := .tup [keyD p.1, p.2]
/-- the pairs of an enumeration -/
def enumD : Nat → List D → List D
  | _, [] => []
  | i, d :: r => .tup [.int (i : Nat), d] :: enumD (i + 1) r
theorem enumD_get : ∀ (ds : List D) (i j : Nat), (enumD i ds)[j]? = (ds[j]?).map fun d => .tup [.int ((i + j : Nat) : Int), d]
  | [], _, _ => by simp [enumD]
  | d :: r, i, 0 => by simp [enumD]
  | d :: r, i, j + 1 => by
    show (enumD (i + 1) r)[j]? = (r[j]?).map _
    rw [enumD_get r (i + 1) j]
    congr 2
    funext d
    rw [show i + 1 + j = i + (j + 1) by omega]
theorem enumD_len : ∀ (ds : List D) (i : Nat), (enumD i ds).length = ds.length
  | [], _ => rfl
  | _ :: r, i => by show (enumD (i + 1) r).length + 1 = r.length + 1; rw [enumD_len r]
/-- pairs as a dict -/
def mergeD : List (Key × W) → List (Key × W) → List (Key × W)
  | a, [] => a
  | a, (k, v) :: r => mergeD (putD a k v) r
section
variable {T : Tab} {G G' H : Hp} {M : Mp}
theorem new_tup (sr : SR T G H M) {p : Addr} (hp : H p = none) {d1 d2 : D} {v1 v2 : V} (r1 : Rp T G d1 v1) (r2 : Rp T G d2 v2) : ∃ G', Mo G G' ∧ SR T G' (upd H p (.tup [v1, v2])) M ∧ RW T G' (.d (.tup [d1, d2])) (.ref p) := by
  have mo := Mo.of (same_new (o := HO.tup [v1, v2]) (sr.free hp))
  exact ⟨_, mo, sr.laid hp, p, [v1, v2], rfl, SqT.of upd_same, v1, [v2], rfl, Rp.mono mo _ _ r1, v2, [], rfl, Rp.mono mo _ _ r2, rfl⟩
theorem merge_low {kvs : List (Key × W)} {vs : List (Key × V)} (h : RKs T G kvs vs) : ∀ {a : List (Key × W)} {b : List (Key × V)}, RKs T G a b → RKs T G (mergeD a kvs) (mergeK b vs) := by
  induction h with
  | nil => intro a b r; exact r
  | @cons p q ps qs r t ih =>
    intro a b h0
    obtain ⟨k1, w⟩ := p
    obtain ⟨k2, v⟩ := q
    obtain ⟨e, rv⟩ := r
    cases (show k1 = k2 from e)
    exact ih (h0.put k1 rv)
end
section
variable {X : Cx} {T : Tab} {Wx : WX} {k : Nat} {N : List Str} {mg : Str → Option Value} {sc : Scope}
/-- for i, x in enumerate(xs), xs a list of data -/
def wiEnum (te : TE2) : TI2 := fun σ M R E => te σ M (fun w M1 => ∃ ws ds, listW M1 w = some ws ∧ unD ws = some ds ∧ R ((enumD 0 ds).map W.d) (fun M2 => listW M2 w = some ws) M1) E
theorem i_enum {e : Expr} {te : TE2} {p pos tpos : Pos} {elts : List Expr} {kk : Nat} (hK : X.K = T.K) (hg : Gl X "enumerate") (hm : X.mg "enumerate" = none) (ha : PE X e (lowE T Wx te)) (hs : starEach [e] X.env = [(false, eval e X.env)]) :
    PI X (.Tuple elts kk tpos) (.Call (.Name "enumerate" p) [e] [] pos) (lowI T Wx (wiEnum te)) := (pi_enum hg hm (a_cons ha a_nil hs) hs).imp fun σ H R q => by
  obtain ⟨G, σ2, M, R2, E2, sr, rs, q2, pr, px⟩ := q
  refine ⟨G, σ2, M, fun ws' M1 => ∃ w, ws' = [w] ∧ ∃ ws ds, listW M1 w = some ws ∧ unD ws = some ds ∧ R2 ((enumD 0 ds).map W.d) (fun M2 => listW M2 w = some ws) M1, E2, sr, rs, ?_, fun ws' M1 G1 H1 vs' m1 sr1 rws q3 => ?_, px⟩
  · have e : (fun (w : W) (M1 : Mp) => ∃ ws ds, listW M1 w = some ws ∧ unD ws = some ds ∧ R2 ((enumD 0 ds).map W.d) (fun M2 => listW M2 w = some ws) M1) = fun w M1 => wNil σ2 M1 (fun r M2 => ∃ w', w :: r = [w'] ∧ ∃ ws ds, listW M2 w' = some ws ∧ unD ws = some ds ∧ R2 ((enumD 0 ds).map W.d) (fun M3 => listW M3 w' = some ws) M2) E2 := by
      funext w M1
      apply propext
      constructor
      · intro q; exact ⟨w, rfl, q⟩
      · rintro ⟨w', e, q⟩; cases e; exact q
    show te σ2 M _ E2
    rw [← e]
    exact q2
  · obtain ⟨w, rfl, ws, ds, e1, e2, q3⟩ := q3
    obtain ⟨v, rfl, rv⟩ := rws.one
    obtain ⟨a, vs, rfl, h1, rr⟩ := listW_low sr1 rv e1
    cases unD_eq e2
    refine ⟨a, vs, rfl, by rw [hK]; exact h1, pr _ _ _ M1 G1 H1 m1 sr1 ?_ q3⟩
    intro G2 H2 M2 m2 sr2 e3
    obtain ⟨a2, vs2, ea, h2, rr2⟩ := listW_low sr2 (rv.mono m2) e3
    cases ea
    have hl : ((enumD 0 ds).map W.d).length = vs2.length := by rw [List.length_map, enumD_len, ← rr2.len, List.length_map]
    refine ⟨fun i hi => ⟨vs2, by rw [hK]; exact h2, by rw [← hl]; exact hi⟩, fun i w' hw => ?_⟩
    rw [List.getElem?_map, enumD_get] at hw
    cases hd : ds[i]? with
    | none => rw [hd] at hw; cases hw
    | some d =>
      rw [hd] at hw
      cases hw
      have hwi : (ds.map W.d)[i]? = some (.d d) := by rw [List.getElem?_map, hd]; rfl
      obtain ⟨x, hx, rx⟩ := Paired.getE rr2 hwi
      refine ⟨⟨vs2, x, by rw [hK]; exact h2, hx⟩, fun y H' hy => ?_⟩
      obtain ⟨Tn, x', rfl, hT, rfl, hx'⟩ := hy
      have := hx' vs2 (by rw [hK]; exact h2)
      rw [hx] at this
      cases this
      rw [Nat.zero_add]
      exact new_tup sr2 hT (show Rp T G2 (.int ((i : Nat) : Int)) (.int ((i : Nat) : Int)) from rfl) rx
/-- for k, v in d.items(), the values data -/
def wiItems (te : TE2) : TI2 := fun σ M R E => te σ M (fun x M1 => ∃ a l kvs ps, x = .c a ∧ M1 a = some (.dic (some l) kvs) ∧ pairsD kvs = some ps ∧ (∀ p ∈ ps, keyOk p.1) ∧ R (ps.map fun p => .d (tupKD p)) (fun M2 => M2 a = some (.dic (some l) kvs)) M1) E
theorem i_items {e : Expr} {te : TE2} {apos cpos tpos : Pos} {elts : List Expr} {kk : Nat} (he : PE X e (lowE T Wx te)) (hbase : attributeBase e "items" X.env (eval e X.env) = eval e X.env) (hline : (apos.endLine == cpos.line) = true) :
    PI X (.Tuple elts kk tpos) (.Call (.Attribute e "items" apos) [] [] cpos) (lowI T Wx (wiItems te)) := (pi_items he hbase hline).imp fun σ H R q => by
  obtain ⟨G, σ2, M, R2, E2, sr, rs, q2, pr, px⟩ := q
  refine ⟨G, σ2, M, _, E2, sr, rs, q2, fun w M1 G1 H1 v m1 sr1 rw1 q3 => ?_, px⟩
  obtain ⟨a, l, kvs, ps, rfl, e, ep, ok, q3⟩ := q3
  obtain ⟨ho, rr⟩ := sr1.dicL e
  refine ⟨a, l.1, l.2, rw1, ho, pr _ _ _ M1 G1 H1 m1 sr1 ?_ q3⟩
  intro G2 H2 M2 m2 sr2 e2
  obtain ⟨ho2, rr2⟩ := sr2.dicL e2
  have hkv := pairsD_eq ep
  have hl : (ps.map fun p => W.d (tupKD p)).length = l.2.length := by rw [List.length_map, ← RKs.size rr2, hkv, List.length_map]
  refine ⟨fun i hi => ⟨ho2, by rw [← hl]; exact hi⟩, fun i w hw => ⟨⟨ho2, by rw [← hl]; exact (List.getElem?_eq_some_iff.mp hw).1⟩, fun x H' y => ?_⟩⟩
  obtain ⟨Tn, kk2, v, h1, rfl, hT, rfl⟩ := y
  rw [List.getElem?_map] at hw
  cases hp : ps[i]? with
  | none => rw [hp] at hw; cases hw
  | some pp =>
    rw [hp] at hw
    cases hw
    have hk : kvs[i]? = some (pp.1, W.d pp.2) := by rw [hkv, List.getElem?_map, hp]; rfl
    obtain ⟨q', h2, h3, h4⟩ := Paired.getE rr2 hk
    rw [h1] at h2
    cases h2
    cases (show pp.1 = kk2 from h3)
    exact new_tup sr2 hT (keyD_ok (ok pp (List.mem_of_getElem? hp))) h4
/-- list(d.items()), the values data -/
def wListItems (te : TE2) : TE2 := fun σ M Q E => te σ M (fun x M1 => ∃ a kvs ps, x = .c a ∧ M1 a = some (.dic none kvs) ∧ pairsD kvs = some ps ∧ (∀ p ∈ ps, keyOk p.1) ∧ Q (.d (.lst (ps.map tupKD))) M1) E
/-- dict(pairs) -/
def keysOf : List D → Option (List (Key × D))
  | [] => some []
  | .tup [.str s, d] :: r => (keysOf r).map fun l => (.inr s, d) :: l
  | .tup [.int i, d] :: r => (keysOf r).map fun l => (.inl i, d) :: l
  | _ :: _ => none
theorem rows_low {T : Tab} {G G' : Hp} (mo : Mo G G') : ∀ {ps : List (Key × D)} {vs : List (Key × V)} {ts : List Addr}, RKs T G (ps.map fun p => (p.1, W.d p.2)) vs → (∀ p ∈ ps, keyOk p.1) → Paired (fun (t : Addr) (q : Key × V) => G' t = some (.tup [kV q.1, q.2])) ts vs → RpL T G' (ps.map tupKD) (ts.map V.ref)
  | [], _, _, .nil, _, .nil => rfl
  | (k, d) :: ps, q :: vs, t :: ts, .cons r rr, ok, .cons h hh => by
    obtain ⟨e, rv⟩ := r
    cases (show k = q.1 from e)
    refine ⟨.ref t, ts.map V.ref, rfl, ⟨t, [kV q.1, q.2], rfl, SqT.of h, kV q.1, [q.2], rfl, ?_, q.2, [], rfl, Rp.mono mo _ _ rv, rfl⟩, rows_low mo rr (fun p hp => ok p (List.mem_cons_of_mem _ hp)) hh⟩
    exact keyD_ok (T := T) (G := G') (ok _ List.mem_cons_self)
theorem e_listItems {e : Expr} {te : TE2} {p apos cpos pos : Pos} (C : Ctx T k N mg X Wx sc) (he : PE X e (lowE T Wx te)) (hg : Gl X "list") (hm : X.mg "list" = none) (hbase : attributeBase e "items" X.env (eval e X.env) = eval e X.env) (hline : (apos.endLine == cpos.line) = true) :
    PE X (.Call (.Name "list" p) [.Call (.Attribute e "items" apos) [] [] cpos] [] pos) (lowE T Wx (wListItems te)) := (LiI.pe_listItems C.calm he hg hm (by first | boot_by_name | rfl | kernel_rfl) hbase hline rfl).imp fun σ H Q q => by
  obtain ⟨G, σ2, M, Q2, E2, sr, rs, q2, pq, px⟩ := q
  refine ⟨G, σ2, M, _, E2, sr, rs, q2, fun w M1 G1 H1 v m1 sr1 rw1 q3 => ?_, px⟩
  obtain ⟨a, kvs, ps, rfl, e, ep, ok, q3⟩ := q3
  obtain ⟨vs, ho, rr⟩ := sr1.dic e
  rw [pairsD_eq ep] at rr
  refine ⟨a, vs, rw1, ho, fun H' q ts hext hq hts hnq hH hP => ?_⟩
  let G' : Hp := fun b => if b = q ∨ b ∈ ts then H' b else G1 b
  have gin : ∀ b, b = q ∨ b ∈ ts → G' b = H' b := fun b hb => if_pos hb
  have gout : ∀ b, ¬ (b = q ∨ b ∈ ts) → G' b = G1 b := fun b hb => if_neg hb
  have no : ∀ b u, H1 b = some u → ¬ (b = q ∨ b ∈ ts) := fun b u hb hh => by
    rcases hh with rfl | hh
    · rw [hq] at hb; cases hb
    · rw [hts b hh] at hb; cases hb
  have mo : Mo G1 G' := Mo.of fun b u hb => by rw [gout b (no b u (sr1.le _ _ hb))]; exact hb
  have sr2 : SR T G' H' M1 := by
    refine ⟨fun b u hb => ?_, fun b c hb => ?_⟩
    · by_cases hh : b = q ∨ b ∈ ts
      · rw [gin b hh] at hb; exact hb
      · rw [gout b hh] at hb; exact hext _ _ (sr1.le _ _ hb)
    · obtain ⟨g, o, h1, r1⟩ := sr1.ce b c hb
      exact ⟨by rw [gout b (no b o h1)]; exact g, o, hext _ _ h1, r1.mono mo⟩
  have hG : G' q = some (.lst (ts.map V.ref)) := by rw [gin q (.inl rfl)]; exact hH
  have hP' : Paired (fun (t : Addr) (z : Key × V) => G' t = some (.tup [kV z.1, z.2])) ts vs := by
    have key : ∀ {l : List Addr} {us : List (Key × V)}, (∀ t ∈ l, t ∈ ts) → Paired (fun (t : Addr) (z : Key × V) => H' t = some (.tup [kV z.1, z.2])) l us → Paired (fun (t : Addr) (z : Key × V) => G' t = some (.tup [kV z.1, z.2])) l us := by
      intro l us hl hh
      induction hh with
      | nil => exact .nil
      | @cons t z l2 us2 h t2 ih => exact .cons (by rw [gin t (.inr (hl t List.mem_cons_self))]; exact h) (ih fun x hx => hl x (List.mem_cons_of_mem _ hx))
    exact key (fun _ h => h) hP
  exact pq (.d (.lst (ps.map tupKD))) M1 G' H' (.ref q) (m1.trans mo) sr2 ⟨q, ts.map V.ref, rfl, hG, rows_low mo rr ok hP'⟩ q3
def rDictP : RC2 := fun ws M Q => ∃ xs ps, ws = [.d (.lst xs)] ∧ keysOf xs = some ps ∧ ∀ p, M p = none → Q (.c p) (put M p (.dic none (mergeD [] (ps.map fun p => (p.1, W.d p.2)))))
theorem keysOf_low {T : Tab} {G H : Hp} {M : Mp} (sr : SR T G H M) : ∀ {xs : List D} {ps : List (Key × D)} {vs : List V}, keysOf xs = some ps → RpL T G xs vs → ∃ (as : List Addr) (kvs : List (Key × V)), vs = as.map V.ref ∧ Paired (fun p kv => SqT T.K H p [kV kv.1, kv.2]) as kvs ∧ RKs T G (ps.map fun p => (p.1, W.d p.2)) kvs
  | [], ps, vs, h, r => by
    cases h
    cases (show vs = [] from r)
    exact ⟨[], [], rfl, .nil, .nil⟩
  | x :: xs, ps, vs, h, r => by
    obtain ⟨v, r', rfl, r1, r2⟩ := (show ∃ v r', vs = v :: r' ∧ Rp T G x v ∧ RpL T G xs r' from r)
    have main : ∀ (kk : Key) (d : D), x = .tup [keyD kk, d] → (keysOf xs).map (fun l => (kk, d) :: l) = some ps → ∃ (as : List Addr) (kvs : List (Key × V)), v :: r' = as.map V.ref ∧ Paired (fun p kv => SqT T.K H p [kV kv.1, kv.2]) as kvs ∧ RKs T G (ps.map fun p => (p.1, W.d p.2)) kvs := by
      rintro kk d rfl h
      cases e : keysOf xs with
      | none => rw [e] at h; cases h
      | some l =>
        rw [e] at h
        cases h
        obtain ⟨as, kvs, rfl, h1, h2⟩ := keysOf_low sr e r2
        obtain ⟨a, us, rfl, ha, v1, u1, rfl, q1, v2, u2, rfl, q2, q3⟩ := (show ∃ a us, v = .ref a ∧ SqT T.K G a us ∧ ∃ v1 u1, us = v1 :: u1 ∧ Rp T G (keyD kk) v1 ∧ ∃ v2 u2, u1 = v2 :: u2 ∧ Rp T G d v2 ∧ RpL T G [] u2 from r1)
        cases (show u2 = [] from q3)
        have hv : v1 = kV kk := by
          cases kk with
          | inl i => exact q1
          | inr s => exact (show v1 = .str s ∧ _ from q1).1
        subst hv
        exact ⟨a :: as, (kk, v2) :: kvs, rfl, .cons ((Mo.of sr.le).seqT ha) h1, .cons ⟨rfl, q2⟩ h2⟩
    unfold keysOf at h
    split at h
    · cases ‹_ :: _ = []›
    · rename_i s d r0 he
      cases he
      exact main (.inr s) d rfl h
    · rename_i i d r0 he
      cases he
      exact main (.inl i) d rfl h
    · cases h
theorem b_dictP (hK : X.K = T.K) (hc : X.calm = true) : CallR X (.type "dict") (lowB T rDictP) := (call_dictP hc).imp fun vs H Q h => by
  obtain ⟨G, ws, M, Q2, sr, rr, ⟨xs, ps, rfl, e, q⟩, pq⟩ := h
  obtain ⟨v, rfl, rv⟩ := rr.one
  obtain ⟨a, us, rfl, ha, rl⟩ := (show ∃ a us, v = .ref a ∧ G a = some (.lst us) ∧ RpL T G xs us from rv)
  obtain ⟨as, kvs, rfl, h1, h2⟩ := keysOf_low sr e rl
  refine ⟨a, as, kvs, rfl, SqL.of (sr.le _ _ ha), by rw [hK]; exact h1, fun p hp => ?_⟩
  have m := merge_low h2 (a := []) (b := []) .nil
  exact pq (.c p) _ G _ (.ref p) (Mo.refl _) (sr.cell hp (show RC T G (.dic none _) (.dK (mergeK [] kvs)) from ⟨_, rfl, m⟩)) rfl (q p (sr.freeM hp))
/-- min(i, j) -/
def rMin2 : RC2 := fun ws M Q => ∃ i j : Int, ws = [.d (.int i), .d (.int j)] ∧ Q (.d (.int (if j < i then j else i))) M
theorem b_min2 (hc : X.calm = true) : CallR X (.builtin "min") (lowB T rMin2) := (call_min2 hc).imp fun vs H Q h => by
  obtain ⟨G, ws, M, Q2, sr, rr, ⟨i, j, rfl, q⟩, pq⟩ := h
  obtain ⟨v, v', rfl, rv, rv'⟩ := rr.two
  cases (show v = .int i from rv)
  cases (show v' = .int j from rv')
  exact ⟨i, j, rfl, pq (.d (.int _)) M G H _ (Mo.refl _) sr (show RW T G (.d (.int _)) (.int _) from rfl) q⟩
end
end Z
set_option maxHeartbeats 4000000
/-! X10: == of dicts whose values are numbers -/
namespace Z
open PySem PySem.Spec PyProof.Rows L2
def hitsI (b : List (Key × W)) : List (Key × W) → Option Bool
  | [] => some true
  | (k, w) :: r => match getK b k with
    | none => some false
    | some w' => match w, w' with
      | .d (.int i), .d (.int j) => (hitsI b r).map fun c => decide (i = j) && c
      | .d x, .d y => (toPy x).bind fun p => (toPy y).bind fun q => if (SeqAt.shaped p && SeqAt.shaped q) = true then (hitsI b r).map fun c => PyData.eqv p q && c else none
      | _, _ => none
section
variable {X : Cx} {T : Tab} {Wx : WX} {k : Nat} {N : List Str} {mg : Str → Option Value} {sc : Scope}
theorem hits_low {G H : Hp} {M : Mp} {pins : List (Addr × Obj)} {σ : L2.St} {s : Shared} {b : List (Key × W)} {vb : List (Key × V)} {ub : List (Key × Value)} (hK : X.K = T.K) (I : Inv X pins σ H s) (sr : SR T G H M) (hu : X.A.in1.units + 64 < cLine) (rb : RKs T G b vb) (kb : KV vb ub) : ∀ {a : List (Key × W)} {va : List (Key × V)} {ua : List (Key × Value)} {c : Bool}, RKs T G a va → KV va ua → hitsI b a = some c → PySem.W.KeqHits X.A.in1 s ub ua c
  | [], va, ua, c, r, h, e => by
    cases r
    cases h
    cases e
    exact .nil
  | (k, w) :: a, va, ua, c, r, h, e => by
    cases r with
    | @cons p q ps qs r0 rr =>
      cases h with
      | @cons p2 q2 ps2 qs2 h0 hh =>
        obtain ⟨k1, v1⟩ := q
        obtain ⟨k2, u1⟩ := q2
        obtain ⟨e1, rv⟩ := r0
        obtain ⟨e2, ru⟩ := h0
        cases (show k = k1 from e1)
        cases (show k = k2 from e2)
        have val := kb.val k
        rcases rks_val rb k with ⟨g1, g2⟩ | ⟨w', v', g1, g2, rw'⟩
        · simp only [hitsI, g1] at e
          cases e
          rw [g2] at val
          cases hv : valueAt ub k with
          | none => exact .miss hv
          | some z => rw [hv] at val; exact val.elim
        · simp only [hitsI, g1] at e
          rw [g2] at val
          obtain ⟨y, hy, ry⟩ := val.some_of
          split at e
          · rename_i i j
            cases (show v1 = .int i from rv)
            cases (show v' = .int j from rw')
            cases e3 : hitsI b a with
            | none => rw [e3] at e; cases e
            | some c' =>
              rw [e3] at e
              cases e
              obtain ⟨t1, rfl⟩ := (show RelV (.int i) u1 from ru)
              obtain ⟨t2, rfl⟩ := (show RelV (.int j) y from ry)
              have z := SeqAt.EqAt.int_int (A := X.A.in1) (s := s) i t1 j t2
              rw [Bool.beq_eq_decide_eq] at z
              exact .hit hy z (hits_low hK I sr hu rb kb rr hh e3)
          · rename_i dx dy _
            cases ep : toPy dx with
            | none => rw [ep] at e; cases e
            | some p =>
              cases eq : toPy dy with
              | none => rw [ep, eq] at e; cases e
              | some q =>
                rw [ep, eq] at e
                simp only [Option.bind_some] at e
                split at e
                · rename_i hs
                  rw [Bool.and_eq_true] at hs
                  cases e3 : hitsI b a with
                  | none => rw [e3] at e; cases e
                  | some c' =>
                    rw [e3] at e
                    cases e
                    obtain ⟨as, r1⟩ := Dp.reads I p v1 u1 (by rw [hK]; exact toPyW_low (w := .d dx) sr rv ep) ru
                    obtain ⟨bs, r2⟩ := Dp.reads I q v' y (by rw [hK]; exact toPyW_low (w := .d dy) sr rw' eq) ry
                    exact .hit hy (PySem.W.keq_at r1 r2 hs.1 hs.2 hu) (hits_low hK I sr hu rb kb rr hh e3)
                · cases e
          · cases e
def oDeq (neg : Bool) : R22 := fun x y M Q _ => ofO (dctW M x) fun a => ofO (dctW M y) fun b => ofO (hitsI b a) fun c => Q (.d (.bool (neg ^^ (decide (a.length = b.length) && c)))) M
theorem op2_deq (C : Ctx T k N mg X Wx sc) (neg : Bool) : Op2 X T Wx (compareOp (if neg = true then .NotEq else .Eq)) (oDeq neg) := by
  intro pins s σ H x y v u Q I rx ry q
  obtain ⟨G, wx, wy, M, Q2, E2, sr, r1, r2, ⟨a, ea, b, eb, c, ec, q2⟩, pq, px⟩ := q
  obtain ⟨pa, va, rfl, da, ra⟩ := dct_low sr r1 ea
  obtain ⟨pb, vb, rfl, db, rb⟩ := dct_low sr r2 eb
  cases (show v = .ref pa from rx)
  cases (show u = .ref pb from ry)
  obtain ⟨_, ya, ua, ka, dda⟩ := dk_rd I.hok da
  obtain ⟨_, yb, ub, kb, ddb⟩ := dk_rd I.hok db
  have la : a.length = ua.length := by rw [RKs.size ra, ka.length]
  have lb : b.length = ub.length := by rw [RKs.size rb, kb.length]
  have hu : X.A.units < cLine := Nat.lt_of_succ_lt (hu_of C.room)
  have hits : ua.length = ub.length → PySem.W.KeqHits X.A.in1 s ub ua c := fun _ => hits_low C.eK I sr (by have := C.room.un; show X.A.units + 1 + 64 < cLine; omega) rb kb ra ka ec
  have fin := pq _ M G H _ (Mo.refl _) sr (show RW T G (.d (.bool (neg ^^ (decide (a.length = b.length) && c)))) (.bl (neg ^^ (decide (a.length = b.length) && c))) from rfl) q2
  rw [la, lb] at fin
  cases neg with
  | true =>
    rw [if_pos rfl]
    exact PySem.W.keq_ne (knd := mixKind X.prog X.w) (r := c) ya yb dda ddb hu hits (fin_bl I fin (by rw [Bool.beq_eq_decide_eq]; simp))
  | false =>
    rw [if_neg Bool.false_ne_true]
    exact PySem.W.keq_eq (knd := mixKind X.prog X.w) (r := c) ya yb dda ddb hu hits (fin_bl I fin (by rw [Bool.beq_eq_decide_eq]; simp))
end
end Z
set_option maxHeartbeats 4000000
/-! X11: x[i] = v of own classes -/
namespace Z
open PySem PySem.Spec PyProof.Rows L2
section
variable {X : Cx} {T : Tab} {Wx : WX} {k : Nat} {N : List Str} {mg : Str → Option Value} {sc : Scope}
/-- x[y] = v -/
def wOput (c : Nat) (sp : Sp2) (dws : List W) (td ty tv : TE2) : TS2 := fun D σ M => tv σ M (fun v M1 => td σ M1 (fun x M2 => ty σ M2 (fun y M3 => (∃ fs, insW M3 x = some (c, fs)) ∧ sp (x :: y :: v :: dws) M3 (fun _ M4 => D.nx σ M4) fun z M4 => D.ex z σ M4) fun z M3 => D.ex z σ M3) fun z M2 => D.ex z σ M2) fun z M1 => D.ex z σ M1
theorem s_oput {c : Nat} {sp : Sp2} {dws : List W} {o i value : Expr} {td ty tv : TE2} {pos pos' : Pos} (C : Ctx T k N mg X Wx sc) (F : KmP X.prog X.w X.K X.mg X.base T k c "__setitem__" sp dws) (hc : ClG X.K (T.cls c)) (ho : PE X o (lowE T Wx td)) (hi : PE X i (lowE T Wx ty)) (hv : PE X value (lowE T Wx tv)) (hs : swapsWith value (some (.Subscript o i pos')) pos.line X.env = pure false) :
    PS X (.Assign [.Subscript o i pos'] value pos) (lowS T Wx (wOput c sp dws td ty tv)) := by
  obtain ⟨f, fd, ps, ds, dvs, hm, hb, hvv, hd, Fo⟩ := F.ex
  refine ⟨fun pins s σ H D I h => ?_⟩
  have low : lowE T Wx tv σ H fun v H1 => lowE T Wx td σ H1 fun x H2 => lowE T Wx ty σ H2 fun y H3 => ∃ a, x = .ref a ∧ (∃ dx vs, H3 a = some (.ins (T.cls c) dx vs)) ∧ lowSp T sp ([.ref a, y, v] ++ dvs) H3 (fun _ H4 => D.nx σ H4) (WE Wx σ) := by
    obtain ⟨G, σ2, M, D2, sr, rs, q, pd⟩ := h
    refine ⟨G, σ2, M, _, _, sr, rs, q, fun wv M1 G1 H1 v m1 sr1 rv q1 => ?_, pd.px rs⟩
    refine ⟨G1, σ2, M1, _, _, sr1, rs.mono m1, q1, fun wx M2 G2 H2 x m2 sr2 rx q2 => ?_, (pd.mono m1).px (rs.mono m1)⟩
    refine ⟨G2, σ2, M2, _, _, sr2, rs.mono (m1.trans m2), q2, fun wy M3 G3 H3 y m3 sr3 ry q3 => ?_, (pd.mono (m1.trans m2)).px (rs.mono (m1.trans m2))⟩
    obtain ⟨⟨fs, e1⟩, q3⟩ := q3
    obtain ⟨a, dx, vs, rfl, h1, _⟩ := insW_low sr3 (rx.mono m3) e1
    have mo := (m1.trans m2).trans m3
    refine ⟨a, rfl, ⟨dx, vs, h1⟩, low_own (ws := [wx, wy, wv]) sr3 (.cons (rx.mono m3) (.cons ry (.cons (rv.mono (m2.trans m3)) .nil))) hd q3 (fun w M4 G4 H4 z m4 sr4 rw4 q4 => ?_) ((pd.mono mo).px (rs.mono mo))⟩
    exact pd.nx _ M4 G4 H4 _ (mo.trans m4) sr4 (rs.mono (mo.trans m4)) q4
  refine wpAny_Assign_Subscript (thn (hv.run pins s σ H _ I low) fun r s1 ⟨v, H1, I1, rv, q1⟩ => thn (ho.run pins s1 σ H1 _ I1 q1) fun u s2 ⟨x, H2, I2, rx, q2⟩ => thn (hi.run pins s2 σ H2 _ I2 q2) fun iv s3 ⟨y, H3, I3, ry, a, ex, ⟨dx, vs, h1⟩, q3⟩ => ?_) hs
  subst ex
  obtain rfl : u = Value.ref a := rx
  obtain ⟨ox, od, J, _⟩ := StX.insC_at I3 (.inr ⟨dx, vs, h1⟩)
  obtain ⟨mF, hF⟩ := I3.fr
  exact PySem.W.ksp_setItem hF I3.ok.mod.kin J hc.ns hm.at_ hm.fn (wpAny_mono (run_f (us := [.ref a, iv, r]) (vs := [.ref a, y, v]) C Fo hb hvv I3 (.cons rfl (.cons ry (.cons rv .nil))) q3) (fun w s4 ⟨z, H4, I4, _, q4⟩ => ⟨σ, H4, I4, q4⟩) fun _ _ z => z)
end
end Z
set_option maxHeartbeats 4000000
/-! X12: a cell read as data that holds its address, and back -/
namespace Z
open PySem PySem.Spec PyProof.Rows L2
section
variable {X : Cx} {T : Tab} {Wx : WX}
def wAsd (te : TE2) : TE2 := fun σ M Q E => te σ M (fun w M1 => ∃ a, w = .c a ∧ Q (.d (.ref a)) M1) E
def wAsc (te : TE2) : TE2 := fun σ M Q E => te σ M (fun w M1 => ∃ a, w = .d (.ref a) ∧ Q (.c a) M1) E
theorem e_asd {te : TE2} {e : Expr} (he : PE X e (lowE T Wx te)) : PE X e (lowE T Wx (wAsd te)) := he.imp fun σ H Q h => by
  obtain ⟨G, σ2, M, Q2, E2, sr, rs, q2, pq, px⟩ := h
  refine ⟨G, σ2, M, _, E2, sr, rs, q2, fun w M1 G1 H1 v m1 sr1 rw1 q3 => ?_, px⟩
  obtain ⟨a, rfl, q3⟩ := q3
  exact pq (.d (.ref a)) M1 G1 H1 v m1 sr1 (show v = .ref a from rw1) q3
theorem e_asc {te : TE2} {e : Expr} (he : PE X e (lowE T Wx te)) : PE X e (lowE T Wx (wAsc te)) := he.imp fun σ H Q h => by
  obtain ⟨G, σ2, M, Q2, E2, sr, rs, q2, pq, px⟩ := h
  refine ⟨G, σ2, M, _, E2, sr, rs, q2, fun w M1 G1 H1 v m1 sr1 rw1 q3 => ?_, px⟩
  obtain ⟨a, rfl, q3⟩ := q3
  exact pq (.c a) M1 G1 H1 v m1 sr1 (show v = .ref a from rw1) q3
end
end Z
set_option maxHeartbeats 4000000
/-! X13: x[i] of own classes -/
namespace Z
open PySem PySem.Spec PyProof.Rows L2
/-- an index that is no slice, for a __getitem__ that is a def -/
def PlainIxT (b : Expr) : Prop := ∀ o i, subscripted b true o i = runValue (.builtin "lifetime.subscript" ⟨[o, i], []⟩)
section
variable {X : Cx} {T : Tab} {Wx : WX} {k : Nat} {N : List Str} {mg : Str → Option Value} {sc : Scope}
/-- x[y] -/
def oOwnGet (c : Nat) (sp : Sp2) (dws : List W) : R22 := fun x y M Q E => (∃ fs, insW M x = some (c, fs)) ∧ sp (x :: y :: dws) M Q E
theorem e_ixO {c : Nat} {sp : Sp2} {dws : List W} {a b : Expr} {ta tb : TE2} {pos : Pos} (C : Ctx T (k + 1) N mg X Wx sc) (F : KmP X.prog X.w X.K X.mg X.base T k c "__getitem__" sp dws) (hfi : ∀ f, PySem.W.findIn X.K (.ref (T.cls c)) "__getitem__" = some (some (.ref f)) → PySem.W.fnIn X.K f = true)
    (ha : PE X a (lowE T Wx ta)) (hb : PE X b (lowE T Wx tb)) (hs : PlainIxT b) : PE X (.Subscript a b pos) (lowE T Wx (wBin (oOwnGet c sp dws) ta tb)) := by
  obtain ⟨f, fd, ps, ds, dvs, hm, hbi, hv, hd, Fo⟩ := F.ex
  refine ⟨fun pins s σ H Q I h => ?_⟩
  refine Subscript_ (bin ha hb I (low_bin h) fun v u s2 x y H2 I2 rx ry q => ?_)
  obtain ⟨G, wx, wy, M, Q2, E2, sr, rwx, rwy, ⟨⟨fs, e1⟩, q⟩, pq, px⟩ := q
  obtain ⟨a', ox, od, rfl, J, _⟩ := inst_at I2 sr rwx e1
  cases (show v = Value.ref a' from rx)
  obtain ⟨mF, hF⟩ := I2.fr
  have r1 : Room k X.A.in1 := Room.in1 C.room
  exact PySem.W.sub_K hF I2.ok.mod.kin J hm.at_ (hfi f hm.at_) hm.fn (run_fA (us := [.ref a', u]) (vs := [.ref a', y]) C r1 C.gd Fo hbi hv I2 I2.env0.in1 (.cons rfl (.cons ry .nil)) (low_own (ws := [wx, wy]) sr (.cons rwx (.cons rwy .nil)) hd q pq px)) (hs _ _)
end
end Z
set_option maxHeartbeats 4000000
/-! X14: several clauses, each with the same name: except A as e, except B as e -/
namespace Z
open PySem PySem.Spec PyProof.Rows L2
abbrev Ts := Addr → Value → Option Addr → TS
/-- what such clauses wish of an exception of the body, one behind the other -/
def wChainA (K : PySem.W.Frag) (i : Nat) (Wout : WX) (D : Ends) : List (Value × Ts) → WX
  | [] => Wout
  | (c, ts) :: r => wAs K c i ts (wChainA K i Wout D r) D
inductive HdsA (X : Cx) (n : Str) : List ExceptHandler → List (Value × Ts) → Prop
  | nil : HdsA X n [] []
  | cons {x : Str} {c : Value} {ts : Ts} {b₀ : Stmt} {suite : List Stmt} {np pos' : Pos} {hds : List ExceptHandler} {l : List (Value × Ts)} (hc : Names X x c)
      (hsu : ∀ (a : Addr) (oe : Obj) (cls : Value) (d : Option Addr) (pn : List (Addr × Obj)), Zc cls d oe → (∃ vs, oe.data = .fields vs) → PSs (X.suite a ((a, oe) :: pn)) (b₀ :: suite) (ts a cls d)) (r : HdsA X n hds l) :
      HdsA X n (.ExceptHandler (some (.Name x np)) (some n) (b₀ :: suite) pos' :: hds) ((c, ts) :: l)
section
variable {X : Cx} {n : Str} {i : Nat} {body : List Stmt} {h₀ : ExceptHandler} {hds : List ExceptHandler} {l : List (Value × Ts)} {pos : Pos} {tb : WX → TS} {Wout : WX}
theorem ps_chainA (hs : X.stack = X.env :: X.outer) (hf : X.env.frame = some X.env.locals) (hN : X.N.Nodup) (hi : X.N[i]? = some n) (hln : X.env.kindOf n = some .local) (tk : Takes X Wout)
    (hb : ∀ (W : WX) (pn : List (Addr × Obj)) (xe : Value → Shared → Prop), Takes (X.tr pn xe) W → PassesOwn (model X.prog X.w) X.A X.env xe → PSs (X.tr pn xe) body (tb W))
    (hh : HdsA X n (h₀ :: hds) l) : PS X (.Try body (h₀ :: hds) [] [] pos) (fun D σ H => tb (wChainA X.K i Wout D l) D σ H) := by
  refine ⟨fun pins s σ H D I h => ?_⟩
  have ok := I.ok
  have hfr : X.A.frames = some (X.env :: X.outer) := by rw [ok.frames, hs]
  have hloc : Loc X.env.scope n := .inl hln
  refine wpAny_Try_except (wpAny_mono ((hb (wChainA X.K i Wout D l) (X.pn ++ pins) (fun e s₁ => wpAny (model X.prog X.w) X.A (noteFrame e X.env) (fun _ s₂ => wpAny (model X.prog X.w) X.A (setFlight e none) (fun _ s₃ =>
    wpAny (model X.prog X.w) X.A (handleBy e X.env (h₀ :: hds)) (SP X pins D) X.xe s₃) X.xe s₂) X.xe s₁) (fun u s' xx => ?_) PassesOwn.looking).run [] s σ H D (I.toTry _) h) (fun f s1 hsp => ?_) (fun e s1 he => he))
  · obtain ⟨a, B, sI, pins', σ', H', cls, d, rfl, J', nb, up, sky, na, os, ag, w⟩ := xx
    have J : Inv X pins σ' H' sI := J'.ofTry ok
    have sky' : Sky B (X.env :: X.outer) a (Zc cls d) X.env.locals s'.heap := by rw [← hs]; exact sky
    show wpAny (model X.prog X.w) X.A (noteFrame (.ref a) X.env) _ _ _
    refine Sky.land Zc.steady hfr hf sky' fun h3 fl3 up3 => ?_
    have J3 : Inv X pins σ' H' { s' with heap := h3 } := J.landed nb fl3.1 (up.trans up3) os ag
    obtain ⟨oe3, vs3, he3, hz3, hd3⟩ := fl3.there
    have nfr : a ∉ frs (X.env :: X.outer) := fun hm => by
      obtain ⟨_, o', e', hnf⟩ := fl3.2.2.1.mem hm
      rw [he3] at e'; cases e'
      exact hnf _ hd3
    have nL : a ≠ X.env.locals := fun z => nfr (List.mem_filterMap.mpr ⟨X.env, List.mem_cons_self, by rw [hf, z]⟩)
    have nF : a ∉ X.fs := fun hm => by
      obtain ⟨e, he, q⟩ := List.mem_filterMap.mp hm
      exact nfr (List.mem_filterMap.mpr ⟨e, List.mem_cons_of_mem _ he, q⟩)
    have S3 := J3.suite he3 hd3 na nL nF
    have LT : PySem.W.Looks (model X.prog X.w) h3 (typeOf (.ref a)) cls := fun A Q E s k q => wpAny_typeOf_ref (k _ _ he3) (by rw [hz3.1]; exact q)
    have go : ∀ {hds' : List ExceptHandler} {l' : List (Value × Ts)}, HdsA X n hds' l' → wChainA X.K i Wout D l' cls d σ' H' → wpAny (model X.prog X.w) X.A (handleBy (.ref a) X.env hds') (SP X pins D) X.xe { s' with heap := h3 } := by
      intro hds' l' hk
      induction hk with
      | nil =>
        intro w
        refine wpAny_handleBy_nil ?_
        obtain ⟨k1, k2, k3, oe, vs, T, oT, ts', he, hz, hd, h1, hr⟩ := id fl3
        unfold PySem.passOn
        refine wpAny_bind (wpAny_field he hd h1 ?_)
        rw [if_neg (show ¬ ((Value.ref T == Value.none) = true) from by simp)]
        have fin : wpAny (model X.prog X.w) X.A (setFlight (.ref a) X.env.frame) (fun _ s4 => wpAny (model X.prog X.w) X.A (throw (.ref a) : Sem Flow) (SP X pins D) X.xe s4) X.xe { s' with heap := h3 } := by
          rw [hf]
          exact HandSPX.setFlight_upZ fl3 fun h4 hh4 up4 => wpAny_throw (tk _ _ ⟨a, B, sI, pins, σ', H', cls, d, rfl, J, nb, (up.trans up3).trans up4, .inr (.inr (by rw [hs]; exact hh4)), na, os, ag, w⟩)
        first
          | exact wpAny_bind (wpAny_pure (wpAny_bind fin))
          | exact wpAny_bind fin
      | @cons x c ts b₀ suite np pos' hds2 l2 hc hsu r ih =>
        intro w
        obtain ⟨b, hb1, hyes, hno⟩ := w
        refine wpAny_handleBy_cons (codeAny_handlers_test ?_) (by intro q; cases q)
        have LM := PySem.W.exm_one (M := model X.prog X.w) (J3.kIn) LT hb1
        have test : ∀ {Q : Value → Shared → Prop} {E : Value → Shared → Prop}, Q c { s' with heap := h3 } → wpAny (model X.prog X.w) (X.A.mark (some (.ref a))) (eval (.Name x np) X.env) Q E { s' with heap := h3 } := fun {Q E} q => by
          obtain ⟨hg, hdbg, hm | ⟨hm, hv, hnn⟩⟩ := hc
          · exact ld_glob (X := X.suite a ((a, oe3) :: (X.pn ++ pins))) S3 hg hm q hdbg
          · exact ld_blt (X := X.suite a ((a, oe3) :: (X.pn ++ pins))) S3 hg hm hv q hnn hdbg
        refine test (LM.here ?_)
        cases b with
        | false =>
          show wpAny _ X.A (handleBy (.ref a) X.env hds2) _ _ _
          exact ih (hno rfl)
        | true =>
          refine codeAny_handlers_suite_as (HandSPX.lands_againZ fl3 fun h4 fl4 up4 => ?_)
          have J4 : Inv X pins σ' H' { s' with heap := h4 } := J.landed nb fl4.1 ((up.trans up3).trans up4) os ag
          obtain ⟨oe4, vs4, he4, hz4, hd4⟩ := fl4.there
          have S4 := J4.suite he4 hd4 na nL nF
          refine store_ok (X := X.suite a ((a, oe4) :: (X.pn ++ pins))) (v := .ref a) S4 hN hi hloc rfl (fun s5 S5 => ?_) (.inr hln)
          refine wpAny_mono ((hsu a oe4 cls d (X.pn ++ pins) hz4 ⟨_, hd4⟩).run [] s5 _ H' _ S5 (hyes rfl a na)) (fun f s6 hsp => ?_) (fun _ _ z => False.elim z)
          have end_ : ∀ {σ6 : L2.St} {H6 : Hp} {Q : Shared → Prop}, Inv (X.suite a ((a, oe4) :: (X.pn ++ pins))) [] σ6 H6 s6 → (∀ s7, Inv X pins (σ6.set i none) H6 s7 → Q s7) →
              wpAny (model X.prog X.w) X.A (do bindName X.env n .none; unbindBehindTheSuite X.env n pos') (fun _ s7 => Q s7) X.xe s6 := fun {σ6 H6 Q} S6 hq => gone_ok (S6.unsuite ok) hN hi hln hq
          cases f with
          | ret u =>
            obtain ⟨v6, σ6, H6, S6, r6, q6⟩ := hsp
            exact end_ S6 fun s7 J7 => ⟨_, _, _, J7, r6, q6⟩
          | next => obtain ⟨σ6, H6, S6, q6⟩ := hsp; exact end_ S6 fun s7 J7 => ⟨_, _, J7, q6⟩
          | brk => obtain ⟨σ6, H6, S6, q6⟩ := hsp; exact end_ S6 fun s7 J7 => ⟨_, _, J7, q6⟩
          | cont => obtain ⟨σ6, H6, S6, q6⟩ := hsp; exact end_ S6 fun s7 J7 => ⟨_, _, J7, q6⟩
    exact go hh w
  · cases f with
    | next => obtain ⟨σ', H', J', q⟩ := hsp; exact wpAny_execs_nil ⟨σ', H', J'.ofTry ok, q⟩
    | brk => obtain ⟨σ', H', J', q⟩ := hsp; exact ⟨σ', H', J'.ofTry ok, q⟩
    | cont => obtain ⟨σ', H', J', q⟩ := hsp; exact ⟨σ', H', J'.ofTry ok, q⟩
    | ret u => obtain ⟨v, σ', H', J', r, q⟩ := hsp; exact ⟨v, σ', H', J'.ofTry ok, r, q⟩
end
end Z
set_option maxHeartbeats 4000000
/-! X15: enumerate over a list or a tuple -/
namespace Z
open PySem PySem.Spec PyProof.Rows L2
set_option maxHeartbeats 4000000 in
theorem meets_enumT {v : Value} {o : Obj} {H : Heap → Prop} (B : Begins v o H) :
    Meets (Builtin.«enumerate.__new__» ⟨[.type "enumerate", v], []⟩) (fun _ R s => H s.heap ∧
      R (.ok (.ret (.ref (s.heap.push o).objs.size))) { s with heap := (s.heap.push o).push { cls := .type "enumerate", data := .fields #[.none, .bool false, .ref s.heap.objs.size, rawInt 0, .none, .none] } }) :=
  .of_wp fun prog w A R s h => by
    obtain ⟨hp, g, d, tk, os⟩ := s; obtain ⟨h1, h⟩ := h
    have hsub := sub_enumerate
    have q1 : ∀ {A' : Around} {E : Value → Shared → Prop} {Q : Value → Shared → Prop}, Q (.ref hp.objs.size) ⟨hp.push o, g, d, tk, os⟩ → wpAny (model prog w) A' (pyIter v) Q E ⟨hp, g, d, tk, os⟩ :=
      fun q => B.iter prog w _ _ ⟨hp, g, d, tk, os⟩ _ h1 q
    wp_walk using q1
    refine wpAny_stack_any fun st => wpAny_pure ?_
    split
    · rename_i c _ _ _ _ _
      cases (c == Value.type "enumerate")
      · wp_walk using q1
        exact ⟨_, rfl, h⟩
      · wp_walk using q1
        exact ⟨_, rfl, h⟩
    · wp_walk using q1
      exact ⟨_, rfl, h⟩
theorem enumT_begins {prog : Program} {w : World} {A : Around} {E : Value → Shared → Prop} {s : Shared} {v : Value} {o : Obj} {H : Heap → Prop} {Q : Value → Shared → Prop} (B : Begins v o H) (h1 : H s.heap)
    (h : ∀ h', IsEnum h' (s.heap.objs.size + 1) s.heap.objs.size 0 .none → h'.get? s.heap.objs.size = some o → h'.objs.size = s.heap.objs.size + 2 →
      (∀ b o, s.heap.get? b = some o → h'.get? b = some o) → Q (.ref (s.heap.objs.size + 1)) { s with heap := h' }) :
    wpAny (model prog w) A (call (.type "enumerate") [v]) Q E s := by
  refine callType_new F.called_enumerate (by decide) (F.typeCall_enumerate_1 _) (F.newCall_enumerate_1 _) (fun obj => F.args_object_init_2 obj _) F.entry_enumerate_new
    (meets_enumT B) ⟨h1, ?_⟩
  have hz : (s.heap.push o).objs.size = s.heap.objs.size + 1 := Heap.size_push ..
  show _ ∧ _
  rw [hz]
  have he : IsEnum ((s.heap.push o).push { cls := .type "enumerate", data := .fields #[.none, .bool false, .ref s.heap.objs.size, rawInt 0, .none, .none] }) (s.heap.objs.size + 1) s.heap.objs.size 0 .none := by
    have := Heap.get?_push_size (s.heap.push o) (o := { cls := .type "enumerate", data := .fields #[.none, .bool false, .ref s.heap.objs.size, rawInt 0, .none, .none] }) rfl
    rw [hz] at this; exact this
  refine ⟨⟨_, he, rfl⟩, h _ he (Heap.get?_push_of_some _ (Heap.get?_push_size _ B.free)) (by rw [Heap.size_push, hz]) fun b o x => Heap.get?_push_of_some _ (Heap.get?_push_of_some _ x)⟩
/-- the tuple at a, each item in a new pair -/
def IteT (K : PySem.W.Frag) (a : Addr) : L2.It :=
  ⟨fun i H => ∃ (xs : List V) (x : V), SqT K H a xs ∧ xs[i]? = some x, fun i H v H' => ∃ T x, v = .ref T ∧ H T = none ∧ H' = upd H T (.tup [.int (i : Nat), x]) ∧ ∀ xs, SqT K H a xs → xs[i]? = some x, fun i H => ∃ xs : List V, SqT K H a xs ∧ xs.length ≤ i⟩
theorem turn_enumT {P : Program} {w : World} {K : PySem.W.Frag} {elts : List Expr} {kk : Nat} {tpos : Pos} (a e it : Addr) :
    Turn P w K (.Tuple elts kk tpos) (IteT K a) [e, it] e (fun i h => (∃ old, IsEnum h e it ((i : Nat) : Int) old) ∧ h.IsTupleIter it a i ∧ e ≠ it) where
  mem := by simp
  obj := fun i h st b hb => by
    obtain ⟨⟨old, he⟩, ⟨o, ho, hc, hd⟩, _⟩ := st
    have e' : b = e ∨ b = it := by simpa using hb
    rcases e' with z | z
    · rw [z]; exact ⟨_, he, fun v q => nomatch q⟩
    · rw [z]; exact ⟨o, ho, fun v q => by rw [hd] at q; cases q⟩
  keep := fun i h h' st k => let ⟨⟨old, he⟩, hi, hne⟩ := st; ⟨⟨old, k e (by simp) _ he⟩, hi.at fun o q => k it (by simp) o q, hne⟩
  item := by
    intro X hP hw hK hc i pins s σ H E I hf st hg
    subst hP hw hK
    obtain ⟨⟨old, he⟩, hit, hne⟩ := st
    obtain ⟨xs, x, hq, hx⟩ := hg
    obtain ⟨its, rv, p, hz⟩ := I.tuple hq
    obtain ⟨u, hu, ru⟩ := rv.get hx
    have p' : s.heap.IsTuple a its.toArray := p
    have hai : a ≠ it := fun z => by
      subst z
      obtain ⟨o1, e1, c1, _⟩ := p'
      obtain ⟨o2, e2, c2, _⟩ := id hit
      rw [e1] at e2
      cases e2
      have c3 := c1.symm.trans c2
      injection c3 with h
      exact absurd h (by decide)
    have hae : e ≠ a := fun z => by
      subst z
      obtain ⟨o1, e1, c1, _⟩ := p'
      rw [he] at e1
      cases e1
      have c3 : Value.type "enumerate" = Value.type "tuple" := c1
      injection c3 with h
      exact absurd h (by decide)
    have D := Draws.tuple (prog := X.prog) (w := X.w) (A := X.A.in1) (I.ok.hd hc) it a hai its.toArray
    have hel : e < s.heap.objs.size := Heap.lt_size he
    have hil : it < s.heap.objs.size := by obtain ⟨_, q, _⟩ := hit; exact Heap.lt_size q
    have hlt : i < its.toArray.size := by
      have := (List.getElem?_eq_some_iff.mp hu).1
      simpa using this
    refine wpAny_pyNext_enum_itemD D he ⟨hit, p'⟩ hlt hne (by simp [hne, hae]) fun u' h' tk hu' ho hit' hT hsz hk => ?_
    have eu : u' = u := by
      have h2 : its.toArray[i]? = some u := by simpa using hu
      rw [h2] at hu'
      cases hu'
      rfl
    subst eu
    refine ⟨_, rfl, wpAny_letOwnedTupleGo_enum (s := { s with heap := h', toks := tk + 1 }) ho fun h'' he' sb => ?_⟩
    have hT2 : h''.get? s.heap.objs.size = some { cls := .type "tuple", data := .seq #[.int i tk, u'] } := (sb.2 _ (Nat.ne_of_gt hel)).trans hT
    have new : ObjOk X.prog X.w (upd H s.heap.objs.size (.tup [.int (i : Nat), x])) h'' s.heap.objs.size (.tup [.int (i : Nat), x]) :=
      ⟨by show 2 ≤ sizeLine; decide, [.int i tk, u'], .cons ⟨_, rfl⟩ (.cons ru .nil), ⟨_, hT2, rfl, _, rfl⟩⟩
    have I1 : Inv X pins σ (upd H s.heap.objs.size (.tup [.int (i : Nat), x])) { s with heap := h'', toks := tk + 1 } :=
      I.turnedNew (ch := [e, it]) (fun b ob hb q => (sb.2 b (fun z => hb (by simp [z]))).trans (hk b ob (fun z => hb (by simp [z])) (fun z => hb (by simp [z])) q)) hf (Nat.le_refl _) new
    refine ⟨.ref s.heap.objs.size, _, I1, rfl, ⟨_, x, rfl, I.hok.fresh (Nat.le_refl _), rfl, fun ys hy => by rw [I.tuple_inj hy hq]; exact hx⟩, ⟨⟨u', ?_⟩, hit'.1.at fun o q => (sb.2 it (Ne.symm hne)).trans q, hne⟩, fun b hb => ?_⟩
    · have e1 : ((i + 1 : Nat) : Int) = (i : Int) + 1 := by omega
      rw [e1]; exact he'
    · have hb' : b < s.heap.objs.size := by
        have e' : b = e ∨ b = it := by simpa using hb
        rcases e' with z | z
        · rw [z]; exact hel
        · rw [z]; exact hil
      rw [upd_ne (Nat.ne_of_lt hb')]
      exact (hf b hb).1
  done := by
    intro X hP hw hK hc i pins s σ H E I hf st hg
    subst hP hw hK
    obtain ⟨⟨old, he⟩, hit, hne⟩ := st
    obtain ⟨xs, hq, hx⟩ := hg
    obtain ⟨its, rv, p, hz⟩ := I.tuple hq
    obtain ⟨f0, f1, f2, f3, f4, f5⟩ := hf it (by simp)
    have p' : s.heap.IsTuple a its.toArray := p
    have hai : a ≠ it := fun z => by
      subst z
      obtain ⟨o1, e1, c1, _⟩ := p'
      obtain ⟨o2, e2, c2, _⟩ := id hit
      rw [e1] at e2
      cases e2
      have c3 := c1.symm.trans c2
      injection c3 with h
      exact absurd h (by decide)
    have hl := rv.length
    have nx : wpAny (model X.prog X.w) X.A (pyNext (.ref e)) (fun r s' => r = none ∧ ∃ h', s' = { s with heap := h' } ∧ Heap.ExtBut it s.heap h') E s := by
      have hT : s.TypeIs (.ref e) "enumerate" := ⟨_, he, rfl⟩
      unfold pyNext
      refine wpAny_bind (wpAny_attempt (wpAny_callSpecial?_slot (name := Str.ofString "__next__") hT F.slot_enumerate_next
        (wpAny_call_entry F.slot_enumerate_next hT F.entry_enumerate_next ?_ (F.args_enumerate_next_1 _))))
      show wpAny _ _ (field (.ref e) 2 >>= _) _ _ _
      refine wpAny_bind (wpAny_field he rfl (x := .ref it) rfl ?_)
      refine wpAny_bind (wpAny_nextOf_tuple_end (A := X.A.in1) (I.ok.hd hc) hit p' (by simp; omega) fun h' x he' hx' => ?_)
      obtain ⟨o, ho, hc⟩ := hx'
      refine wpAny_bind (wpAny_isInstance (T := "StopIteration") (b := true) ⟨o, ho, hc⟩ isSubtype_stop ?_)
      exact wpAny_pure ⟨rfl, h', rfl, he'⟩
    refine wpAny_mono nx (fun r s' q => ?_) fun _ _ x => x
    obtain ⟨rfl, h', rfl, eb⟩ := q
    exact ⟨rfl, I.turned (t' := s.toks) (fun b o hb q => eb b o hb q) f0 f1 f3 f4 f5⟩
  self := fun A i s Q E st h => let ⟨⟨_, he⟩, _⟩ := st; wpAny_pyIter_enum he h
def iEnumS (K : PySem.W.Frag) (ta : TA) : TI := fun σ H R => ta σ H fun vs H1 => ∃ a xs, vs = [.ref a] ∧ ((SqL K H1 a xs ∧ R (Ite K a) H1) ∨ (SqT K H1 a xs ∧ R (IteT K a) H1))
theorem pi_enumS {X : Cx} {e : Expr} {ta : TA} {p pos tpos : Pos} {elts : List Expr} {kk : Nat} (hg : Gl X "enumerate") (hm : X.mg "enumerate" = none) (ha : PA X [e] ta) (hs : starEach [e] X.env = [(false, eval e X.env)] := by rfl) :
    PI X (.Tuple elts kk tpos) (.Call (.Name "enumerate" p) [e] [] pos) (iEnumS X.K ta) := by
  refine ⟨fun pins s σ H R I h => ?_⟩
  refine Call_ (ld_blt I hg hm boot_enumerate (PyProof.Rows.callWith_type1 (thn (ha.run pos pins s σ H _ I h) fun us s1 ⟨vs, H1, I1, r1, q1⟩ => ?_) hs rfl))
  obtain ⟨a, xs, ex, q⟩ := q1
  subst ex
  cases r1 with
  | cons r rr =>
    cases rr
    cases r
    have fin : ∀ b, b = s1.heap.objs.size + 1 ∨ b = s1.heap.objs.size → FpOk X pins H1 b := fun b e' => by
      have hle : s1.heap.objs.size ≤ b := by
        rcases e' with z | z
        · rw [z]; exact Nat.le_add_right _ _
        · rw [z]; exact Nat.le_refl _
      exact I1.fpOk hle (I1.hok.fresh hle)
    rcases q with ⟨hq, q⟩ | ⟨hq, q⟩
    · obtain ⟨its, rv, p', hz⟩ := I1.list hq
      refine call_enumerate_list p'.isList fun h' he hit hsz hk => wpAny_pyIter_enum he ?_
      have I2 : Inv X pins σ H1 { s1 with heap := h' } := I1.kept (t' := s1.toks) hk
      exact ⟨s1.heap.objs.size + 1, [s1.heap.objs.size + 1, s1.heap.objs.size], _, _, H1, rfl, I2, turn_enum a (s1.heap.objs.size + 1) s1.heap.objs.size, ⟨⟨.none, he⟩, hit, Nat.succ_ne_self _⟩, fun b hb => fin b (by simpa using hb), q⟩
    · obtain ⟨its, rv, p', hz⟩ := I1.tuple hq
      refine enumT_begins (begins_tuple a its.toArray) (show s1.heap.IsTuple a its.toArray from p') fun h' he hit hsz hk => wpAny_pyIter_enum he ?_
      have I2 : Inv X pins σ H1 { s1 with heap := h' } := I1.kept (t' := s1.toks) hk
      exact ⟨s1.heap.objs.size + 1, [s1.heap.objs.size + 1, s1.heap.objs.size], _, _, H1, rfl, I2, turn_enumT a (s1.heap.objs.size + 1) s1.heap.objs.size, ⟨⟨.none, he⟩, ⟨_, hit, rfl, rfl⟩, Nat.succ_ne_self _⟩, fun b hb => fin b (by simpa using hb), q⟩
section
variable {X : Cx} {T : Tab} {Wx : WX} {k : Nat} {N : List Str} {mg : Str → Option Value} {sc : Scope}
/-- for i, x in enumerate(xs), xs a list or a tuple of data -/
def wiEnumS (te : TE2) : TI2 := fun σ M R E => te σ M (fun w M1 => ∃ ws ds, seqW M1 w = some ws ∧ unD ws = some ds ∧ R ((enumD 0 ds).map W.d) (fun M2 => seqW M2 w = some ws) M1) E
theorem i_enumS {e : Expr} {te : TE2} {p pos tpos : Pos} {elts : List Expr} {kk : Nat} (hK : X.K = T.K) (hg : Gl X "enumerate") (hm : X.mg "enumerate" = none) (ha : PE X e (lowE T Wx te)) (hs : starEach [e] X.env = [(false, eval e X.env)]) :
    PI X (.Tuple elts kk tpos) (.Call (.Name "enumerate" p) [e] [] pos) (lowI T Wx (wiEnumS te)) := (pi_enumS hg hm (a_cons ha a_nil hs) hs).imp fun σ H R q => by
  obtain ⟨G, σ2, M, R2, E2, sr, rs, q2, pr, px⟩ := q
  refine ⟨G, σ2, M, fun ws' M1 => ∃ w, ws' = [w] ∧ ∃ ws ds, seqW M1 w = some ws ∧ unD ws = some ds ∧ R2 ((enumD 0 ds).map W.d) (fun M2 => seqW M2 w = some ws) M1, E2, sr, rs, ?_, fun ws' M1 G1 H1 vs' m1 sr1 rws q3 => ?_, px⟩
  · have e : (fun (w : W) (M1 : Mp) => ∃ ws ds, seqW M1 w = some ws ∧ unD ws = some ds ∧ R2 ((enumD 0 ds).map W.d) (fun M2 => seqW M2 w = some ws) M1) = fun w M1 => wNil σ2 M1 (fun r M2 => ∃ w', w :: r = [w'] ∧ ∃ ws ds, seqW M2 w' = some ws ∧ unD ws = some ds ∧ R2 ((enumD 0 ds).map W.d) (fun M3 => seqW M3 w' = some ws) M2) E2 := by
      funext w M1
      apply propext
      constructor
      · intro q; exact ⟨w, rfl, q⟩
      · rintro ⟨w', e, q⟩; cases e; exact q
    show te σ2 M _ E2
    rw [← e]
    exact q2
  · obtain ⟨w, rfl, ws, ds, e1, e2, q3⟩ := q3
    obtain ⟨v, rfl, rv⟩ := rws.one
    cases unD_eq e2
    rw [hK]
    have body : ∀ {G2 : Hp} {M2 : Mp} {vs2 : List V} {H2 : Hp}, SR T G2 H2 M2 → RWs T G2 (ds.map W.d) vs2 → ∀ (i : Nat) (w' : W), ((enumD 0 ds).map W.d)[i]? = some w' → ∃ (d : D) (x : V), vs2[i]? = some x ∧ w' = .d (.tup [.int (i : Nat), d]) ∧ Rp T G2 d x := by
      intro G2 M2 vs2 H2 sr2 rr2 i w' hw
      rw [List.getElem?_map, enumD_get] at hw
      cases hd : ds[i]? with
      | none => rw [hd] at hw; cases hw
      | some d =>
        rw [hd] at hw
        cases hw
        have hwi : (ds.map W.d)[i]? = some (.d d) := by rw [List.getElem?_map, hd]; rfl
        obtain ⟨x, hx, rx⟩ := Paired.getE rr2 hwi
        exact ⟨d, x, hx, by rw [Nat.zero_add], rx⟩
    have lst : (∃ a vs, v = .ref a ∧ SqL T.K H1 a vs) → (∀ M', seqW M' w = some (ds.map W.d) → listW M' w = some (ds.map W.d)) → ∃ a xs, [v] = [V.ref a] ∧ ((SqL T.K H1 a xs ∧ R (Ite T.K a) H1) ∨ (SqT T.K H1 a xs ∧ R (IteT T.K a) H1)) := fun ⟨a, vs, e1, h1⟩ hl => by
      subst e1
      refine ⟨a, vs, rfl, .inl ⟨h1, pr _ _ (Ite T.K a) M1 G1 H1 m1 sr1 ?_ q3⟩⟩
      intro G2 H2 M2 m2 sr2 e3
      obtain ⟨a2, vs2, ea, h2, rr2⟩ := listW_low sr2 (rv.mono m2) (hl _ e3)
      cases ea
      have hl : ((enumD 0 ds).map W.d).length = vs2.length := by rw [List.length_map, enumD_len, ← rr2.len, List.length_map]
      refine ⟨fun i hi => ⟨vs2, h2, by rw [← hl]; exact hi⟩, fun i w' hw => ?_⟩
      obtain ⟨d, x, hx, rfl, rx⟩ := body sr2 rr2 i w' hw
      refine ⟨⟨vs2, x, h2, hx⟩, fun y H' hy => ?_⟩
      obtain ⟨Tn, x', rfl, hT, rfl, hx'⟩ := hy
      have := hx' vs2 h2
      rw [hx] at this
      cases this
      exact new_tup sr2 hT (show Rp T G2 (.int ((i : Nat) : Int)) (.int ((i : Nat) : Int)) from rfl) rx
    cases w with
    | d x =>
      cases x with
      | lst xs => exact lst (let ⟨a, vs, e1, h, _⟩ := listW_low sr1 rv (show listW M1 (.d (.lst xs)) = some _ from e1); ⟨a, vs, e1, h⟩) fun _ h => h
      | tup xs =>
        obtain ⟨a, vs, rfl, h1, rr⟩ := (show ∃ a vs, v = .ref a ∧ SqT T.K G1 a vs ∧ RpL T G1 xs vs from rv)
        refine ⟨a, vs, rfl, .inr ⟨(Mo.of sr1.le).seqT h1, pr _ _ (IteT T.K a) M1 G1 H1 m1 sr1 ?_ q3⟩⟩
        intro G2 H2 M2 m2 sr2 e3
        have h2 : SqT T.K H2 a vs := (Mo.of sr2.le).seqT (m2.seqT h1)
        have ex : xs.map W.d = ds.map W.d := Option.some.inj (show some (xs.map W.d) = some (ds.map W.d) from e3)
        have rr2 : RWs T G2 (ds.map W.d) vs := by rw [← ex]; exact (rr.mono m2).to
        have hl : ((enumD 0 ds).map W.d).length = vs.length := by rw [List.length_map, enumD_len, ← rr2.len, List.length_map]
        refine ⟨fun i hi => ⟨vs, h2, by rw [← hl]; exact hi⟩, fun i w' hw => ?_⟩
        obtain ⟨d, x, hx, rfl, rx⟩ := body sr2 rr2 i w' hw
        refine ⟨⟨vs, x, h2, hx⟩, fun y H' hy => ?_⟩
        obtain ⟨Tn, x', rfl, hT, rfl, hx'⟩ := hy
        have := hx' vs h2
        rw [hx] at this
        cases this
        exact new_tup sr2 hT (show Rp T G2 (.int ((i : Nat) : Int)) (.int ((i : Nat) : Int)) from rfl) rx
      | _ => exact nomatch (show (none : Option (List W)) = some _ from e1)
    | c b => exact lst (let ⟨a, vs, e1, h, _⟩ := listW_low sr1 rv (show listW M1 (.c b) = some _ from e1); ⟨a, vs, e1, h⟩) fun _ h => h
    | r b => exact lst (let ⟨a, vs, e1, h, _⟩ := listW_low sr1 rv (show listW M1 (.r b) = some _ from e1); ⟨a, vs, e1, h⟩) fun _ h => h
end
end Z
set_option maxHeartbeats 4000000
/-! X16: x op= y, x of an own class; several clauses in the second layer -/
namespace Z
open PySem PySem.Spec PyProof.Rows L2
section
variable {X : Cx} {T : Tab} {Wx : WX} {k : Nat} {N : List Str} {mg : Str → Option Value} {sc : Scope}
/-- x op= y -/
def wAugO (c : Nat) (sp : Sp2) (dws : List W) (i : Nat) (te : TE2) : TS2 := fun D σ M => ∃ x, σ[i]? = some (some x) ∧ te σ M (fun y M1 => (∃ fs, insW M1 x = some (c, fs)) ∧ sp (x :: y :: dws) M1 (fun z M2 => D.nx (σ.set i (some z)) M2) fun e M2 => D.ex e σ M2) fun e M1 => D.ex e σ M1
theorem s_augO {i c : Nat} {x m : Str} {e : Expr} {te : TE2} {op : Operator} {sp : Sp2} {dws : List W} {pos pos' : Pos} (C : Ctx T k N mg X Wx sc) (F : KmP X.prog X.w X.K X.mg X.base T k c m sp dws) (hc : ClG X.K (T.cls c)) (hm : m = PySem.dunderI op.info.2)
    (hN : X.N.Nodup) (hi : X.N[i]? = some x) (hx : Loc X.env.scope x) (he : PE X e (lowE T Wx te)) (hf : X.fn x = true ∨ X.env.scope.names.lookup x = some .local) : PS X (.AugAssign (.Name x pos') op e pos) (lowS T Wx (wAugO c sp dws i te)) := by
  subst hm
  obtain ⟨f, fd, ps, ds, dvs, hm, hb, hv, hd, Fo⟩ := F.ex
  refine ⟨fun pins s σ H D I h => ?_⟩
  obtain ⟨G, σ2, M, D2, sr, rs, ⟨wx, e1, q⟩, pd⟩ := h
  obtain ⟨v, ev, rv⟩ := rs.get e1
  have low : lowE T Wx te σ H (fun y H1 => ∃ a dx vs, v = .ref a ∧ H1 a = some (.ins (T.cls c) dx vs) ∧ lowSp T sp ([.ref a, y] ++ dvs) H1 (fun z H2 => D.nx (σ.set i (some z)) H2) (WE Wx σ)) := by
    refine ⟨G, σ2, M, _, _, sr, rs, q, fun wy M1 G1 H1 y m1 sr1 ry q1 => ?_, pd.px rs⟩
    obtain ⟨⟨fs, e2⟩, q1⟩ := q1
    obtain ⟨a, dx, vs, rfl, h1, _⟩ := insW_low sr1 (rv.mono m1) e2
    exact ⟨a, dx, vs, rfl, h1, low_own (ws := [wx, wy]) sr1 (.cons (rv.mono m1) (.cons ry .nil)) hd q1 (fun w M4 G4 H4 z m4 sr4 rw4 q4 => pd.nx _ M4 G4 H4 _ (m1.trans m4) sr4 (RS.set rw4 i (rs.mono (m1.trans m4))) q4) ((pd.mono m1).px (rs.mono m1))⟩
  obtain ⟨mm, hn, hl⟩ := I.loc
  have vis : Vis X.env.scope x := by rcases hx with k | k; exact .inl k; exact .inr (.inl k)
  obtain ⟨u, r, l⟩ := hl i x v hi ev vis
  refine wpAny_AugAssign_Name ?_
  have go : wpAny (model X.prog X.w) X.A (eval e X.env) (fun w s₂ => wpAny (model X.prog X.w) X.A (inplaceOp op u w) (fun r s₃ => wpAny (model X.prog X.w) X.A (storeName X.env x r) (fun _ => SP X pins D .next) X.xe s₃) X.xe s₂) X.xe s := by
    refine thn (he.run pins s σ H _ I low) fun w s1 ⟨y, H1, I1, r1, a, dx, vs, ea, h1, q1⟩ => ?_
    subst ea
    obtain rfl : u = Value.ref a := r
    obtain ⟨ox, od, J, _⟩ := StX.insC_at I1 (.inr ⟨dx, vs, h1⟩)
    obtain ⟨mF, hF⟩ := I1.fr
    have run : wpAny (model X.prog X.w) X.A (inplaceOp op (.ref a) w) (EP X pins σ fun z H2 => D.nx (σ.set i (some z)) H2) X.xe s1 :=
      PySem.W.ksp_inplace hF I1.ok.mod.kin J hc.sf hm.at_ hm.fn (wpAny_mono (run_f (us := [.ref a, w]) (vs := [.ref a, y]) C Fo hb hv I1 (.cons rfl (.cons r1 .nil)) q1) (fun w s' z => back_ep z) fun _ _ x => x)
    exact thn run fun z s2 ⟨zv, H2, I2, r2, q2⟩ => store_ok I2 hN hi hx r2 (fun s3 I3 => ⟨_, H2, I3, q2⟩) hf
  rcases l with ⟨hk, hm⟩ | ⟨hk, c, hc, hcell⟩
  · exact wpAny_loadName_local I.ok.kind hk hn hm go
  · rcases hk with hk | hk
    · exact wpAny_loadName_cell I.ok.kind hk hc hcell go
    · rcases hx with k | k
      · have : X.env.scope.names.lookup x = some .free := hk
        rw [k] at this; cases this
      · have : X.env.scope.names.lookup x = some .free := hk
        rw [k] at this; cases this
/-! ### several clauses -/
/-- what follows an exception of the body: the clauses, one behind the other -/
def exM (i : Nat) (D : Ends2) : List (Hdl × Su) → XV → St2 → Mp → Prop
  | [] => fun x σ M => D.ex x σ M
  | (q, su) :: r => fun x σ M => ofO (q.m.lookup x.c) fun b => if b = true then (i < σ.length ∧ (∀ a ∈ su.ats, ∀ f, a = .xf f → (x.c, f) ∈ q.r) ∧
      ∀ p, M p = none → su.w x { nx := fun σ2 M2 => D.nx (σ2.set i none) M2, rt := D.rt, bk := fun σ2 M2 => D.bk (σ2.set i none) M2, ct := fun σ2 M2 => D.ct (σ2.set i none) M2, ex := fun _ _ _ => False } (σ.set i (some (.c p))) M) else exM i D r x σ M
def wTryM (i : Nat) (l : List (Hdl × Su)) (tb : TS2) : TS2 := fun D σ M => tb { D with ex := exM i D l } σ M
theorem chain_low {K : PySem.W.Frag} {G : Hp} {D2 : Ends2} {D1 : Ends} {i : Nat} (pd : PD T Wx G D2 D1) : ∀ {l : List (Hdl × Su)} {l' : List (Value × Ts)}, Paired (fun p q => (∀ z ∈ p.1.m, PySem.W.exmOne K (.ref (T.cls z.1)) q.1 = some z.2) ∧ q.2 = fun a cls d => lowSX T Wx p.1.r cls d p.2 i a) l l' →
    ∀ (x : XV) (σ' : St2) (M1 : Mp) (G1 H1 : Hp) (σ1 : L2.St) (cls : Value) (d : Option Addr), Mo G G1 → SR T G1 H1 M1 → RS T G1 σ' σ1 → RX T G1 x cls d → exM i D2 l x σ' M1 → wChainA K i Wx D1 l' cls d σ1 H1
  | _, _, .nil, x, σ', M1, G1, H1, σ1, cls, d, m1, sr1, rs1, rx, q => pd.ex x σ' M1 G1 H1 σ1 cls d m1 sr1 rs1 rx q
  | (q, su) :: r, (c, ts) :: r', .cons hp t, x, σ', M1, G1, H1, σ1, cls, d, m1, sr1, rs1, rx, q2 => by
    obtain ⟨hx, e⟩ := hp
    have e : ts = fun a cls d => lowSX T Wx q.r cls d su i a := e
    subst e
    obtain ⟨b, hb1, q2⟩ := q2
    refine ⟨b, ?_, fun e a na => ?_, fun e => ?_⟩
    · rw [rx.1]; exact hx _ (lookup_mem hb1)
    · subst e
      rw [if_pos rfl] at q2
      obtain ⟨hlen, q3, q4⟩ := q2
      refine ⟨x, G1, σ'.set i (some (.c a)), M1, _, rx, sr1, RS.set (show RW T G1 (.c a) (.ref a) from rfl) i rs1, fun b hb f e => ⟨?_, q3 b hb f e⟩, q4 a (sr1.freeM na), ?_⟩
      · rw [List.getElem?_set_self (by rw [← Paired.length rs1]; exact hlen)]
      · exact ⟨fun σ4 M4 G4 H4 σ5 m4 sr4 rs4 q => pd.nx _ M4 G4 H4 _ (m1.trans m4) sr4 (RS.clear i rs4) q, fun w M4 G4 H4 v m4 => pd.rt w M4 G4 H4 v (m1.trans m4), fun σ4 M4 G4 H4 σ5 m4 sr4 rs4 q => pd.bk _ M4 G4 H4 _ (m1.trans m4) sr4 (RS.clear i rs4) q,
          fun σ4 M4 G4 H4 σ5 m4 sr4 rs4 q => pd.ct _ M4 G4 H4 _ (m1.trans m4) sr4 (RS.clear i rs4) q, fun _ _ _ _ _ _ _ _ _ _ _ _ f => f.elim⟩
    · subst e
      rw [if_neg Bool.false_ne_true] at q2
      exact chain_low pd t x σ' M1 G1 H1 σ1 cls d m1 sr1 rs1 rx q2
theorem s_tryM {n : Str} {i : Nat} {body : List Stmt} {h₀ : ExceptHandler} {hds : List ExceptHandler} {pos : Pos} {tb : TS2} {l : List (Hdl × Su)} {l' : List (Value × Ts)} (C : Ctx T k N mg X Wx sc) (hs : X.stack = X.env :: X.outer) (hf : X.env.frame = some X.env.locals) (hi : X.N[i]? = some n) (hln : X.env.kindOf n = some .local)
    (hb : ∀ (W : WX) (pn : List (Addr × Obj)) (xe : Value → Shared → Prop), Takes (X.tr pn xe) W → PassesOwn (model X.prog X.w) X.A X.env xe → PSs (X.tr pn xe) body (lowS T W tb))
    (hl : Paired (fun p q => (∀ z ∈ p.1.m, PySem.W.exmOne X.K (.ref (T.cls z.1)) q.1 = some z.2) ∧ q.2 = fun a cls d => lowSX T Wx p.1.r cls d p.2 i a) l l')
    (hh : HdsA X n (h₀ :: hds) l') : PS X (.Try body (h₀ :: hds) [] [] pos) (lowS T Wx (wTryM i l tb)) := by
  refine (ps_chainA (tb := fun W => lowS T W tb) hs hf (by rw [C.eN]; exact C.nd) hi hln C.tk hb hh).imp fun D σ H h => ?_
  obtain ⟨G, σ2, M, D2, sr, rs, q1, pd⟩ := h
  refine ⟨G, σ2, M, _, sr, rs, q1, ⟨pd.nx, pd.rt, pd.bk, pd.ct, fun x σ' M1 G1 H1 σ1 cls d m1 sr1 rs1 rx q2 => ?_⟩⟩
  exact chain_low pd hl x σ' M1 G1 H1 σ1 cls d m1 sr1 rs1 rx q2
end
end Z
set_option maxHeartbeats 4000000
/-! X17: d.get(k), d.pop(k, x), is with a truth value, len of own classes -/
namespace Z
open PySem PySem.Spec PyProof.Rows L2
def isB (b : Bool) : W → Option Bool
  | .d .none => some false
  | .d (.bool c) => some (c == b)
  | .d (.str _) => some false
  | .d (.int _) => some false
  | _ => none
section
variable {X : Cx} {T : Tab} {Wx : WX} {k : Nat} {N : List Str} {mg : Str → Option Value} {sc : Scope}
/-- d.get(y) -/
def wDget1 (td ty : TE2) : TE2 := fun σ M Q E => td σ M (fun x M1 => (dctW M1 x).isSome = true ∧ ty σ M1 (fun y M2 => ofO (dctW M2 x) fun kvs => ofO (keyW y) fun k => Q ((getK kvs k).getD (.d .none)) M2) E) E
theorem e_dget1 {o e : Expr} {td ty : TE2} {apos pos : Pos} (C : Ctx T k N mg X Wx sc) (ho : PE X o (lowE T Wx td)) (he : PE X e (lowE T Wx ty)) (m : M1 X o "get" apos e pos) : PE X (.Call (.Attribute o "get" apos) [e] [] pos) (lowE T Wx (wDget1 td ty)) := (pe_dget1 (hu_of C.room) ho he m).imp fun σ H Q h => by
  obtain ⟨G, σ2, M, Q2, E2, sr, rs, q2, pq, px⟩ := h
  refine ⟨G, σ2, M, _, E2, sr, rs, q2, fun wx M1 G1 H1 x m1 sr1 rx q3 => ?_, px⟩
  obtain ⟨hd, q3⟩ := q3
  cases hd' : dctW M1 wx with
  | none => rw [hd'] at hd; cases hd
  | some k0 =>
    obtain ⟨a0, vs0, rfl, rd0, _⟩ := dct_low sr1 rx hd'
    refine ⟨a0, rfl, .inl ⟨vs0, rd0⟩, G1, σ2, M1, _, E2, sr1, rs.mono m1, q3, fun wy M2 G2 H2 y m2 sr2 ry q4 => ?_, px.mono m1⟩
    obtain ⟨kvs, e1, kk, e2, q5⟩ := q4
    obtain ⟨a, vs, ea, rd, rr⟩ := dct_low sr2 (rx.mono m2) e1
    cases ea
    cases key_low ry e2
    refine ⟨valV vs kk, .inl ⟨vs, kk, rd, rfl, rfl⟩, ?_⟩
    rcases rks_val rr kk with ⟨h1, h2⟩ | ⟨w', v, h1, h2, rv⟩
    · rw [h1] at q5; rw [h2]
      exact pq (.d .none) M2 G2 H2 .non (m1.trans m2) sr2 (show RW T G2 (.d .none) .non from rfl) q5
    · rw [h1] at q5; rw [h2]
      exact pq w' M2 G2 H2 v (m1.trans m2) sr2 rv q5
/-- d.pop(y, z) -/
def wDpop2 (td ty tx : TE2) : TE2 := fun σ M Q E => td σ M (fun x M1 => (∃ a kvs, x = .c a ∧ M1 a = some (.dic none kvs)) ∧ ty σ M1 (fun y M2 => tx σ M2 (fun z M3 => ∃ a kvs, x = .c a ∧ M3 a = some (.dic none kvs) ∧ ofO (keyW y) fun k =>
  (∀ w, getK kvs k = some w → Q w (put M3 a (.dic none (dropD kvs k)))) ∧ (getK kvs k = none → Q z M3)) E) E) E
theorem e_dpop2 {o e f : Expr} {td ty tx : TE2} {apos pos : Pos} (C : Ctx T k N mg X Wx sc) (ho : PE X o (lowE T Wx td)) (he : PE X e (lowE T Wx ty)) (hf : PE X f (lowE T Wx tx)) (m : M2 X o "pop" apos e f pos) : PE X (.Call (.Attribute o "pop" apos) [e, f] [] pos) (lowE T Wx (wDpop2 td ty tx)) := (pe_dpop2 ho he hf m).imp fun σ H Q h => by
  obtain ⟨G, σ2, M, Q2, E2, sr, rs, q2, pq, px⟩ := h
  refine ⟨G, σ2, M, _, E2, sr, rs, q2, fun wx M1 G1 H1 x m1 sr1 rx q3 => ?_, px⟩
  obtain ⟨⟨a, kv0, rfl, e0⟩, q3⟩ := q3
  cases (show x = V.ref a from rx)
  obtain ⟨_, o0, ho0, vs0, h0, _⟩ := sr1.ce a _ e0
  cases (show o0 = .dK vs0 from h0)
  refine ⟨a, rfl, .inl ⟨vs0, .inl ho0⟩, G1, σ2, M1, _, E2, sr1, rs.mono m1, q3, fun wy M2 G2 H2 y m2 sr2 ry q4 => ?_, px.mono m1⟩
  refine ⟨G2, σ2, M2, _, E2, sr2, rs.mono (m1.trans m2), q4, fun wz M3 G3 H3 z m3 sr3 rz q5 => ?_, px.mono (m1.trans m2)⟩
  obtain ⟨a', kvs, ea, e1, kk, e2, q6, q7⟩ := q5
  cases ea
  cases key_low (ry.mono m3) e2
  obtain ⟨_, o', ho', vs, h1, rr⟩ := sr3.ce a _ e1
  cases (show o' = .dK vs from h1)
  have mo := (m1.trans m2).trans m3
  refine ⟨vs, kk, ho', rfl, fun v hv => ?_, fun hv => ?_⟩
  · rcases rks_val rr kk with ⟨h1, h2⟩ | ⟨w', v', h1, h2, rv⟩
    · rw [h2] at hv; cases hv
    · rw [h2] at hv
      cases hv
      exact pq w' _ G3 _ _ mo (sr3.write e1 (show RC T G3 (.dic none (dropD kvs kk)) (.dK (dropK vs kk)) from ⟨_, rfl, rr.dropD kk⟩)) rv (q6 w' h1)
  · rcases rks_val rr kk with ⟨h1, h2⟩ | ⟨w', v', h1, h2, rv⟩
    · exact pq wz M3 G3 H3 z mo sr3 rz (q7 h1)
    · rw [h2] at hv; cases hv
/-- x is b -/
def oIsB (neg : Bool) : R22 := fun x y M Q _ => ∃ b, y = .d (.bool b) ∧ ∃ r, isB b x = some r ∧ Q (.d (.bool (neg ^^ r))) M
theorem op2_isB (neg : Bool) : Op2 X T Wx (compareOp (if neg = true then .IsNot else .Is)) (oIsB neg) := by
  intro pins s σ H x y v u Q I rx ry q
  obtain ⟨G, wx, wy, M, Q2, E2, sr, r1, r2, ⟨b, rfl, r, e, q2⟩, pq, px⟩ := q
  cases (show y = .bl b from r2)
  cases (show u = Value.bool b from ry)
  have fin := pq _ M G H _ (Mo.refl _) sr (show RW T G (.d (.bool (neg ^^ r))) (.bl (neg ^^ r)) from rfl) q2
  have key : plainIs v (.bool b) = true ∧ (v == Value.bool b) = r := by
    cases wx with
    | d d =>
      cases d with
      | none =>
        cases (show x = .non from r1)
        cases (show v = Value.none from rx)
        cases e
        exact ⟨rfl, beq_eq_false_iff_ne.mpr fun z => nomatch z⟩
      | bool c =>
        cases (show x = .bl c from r1)
        cases (show v = Value.bool c from rx)
        cases e
        refine ⟨rfl, ?_⟩
        cases c <;> cases b <;> first | exact beq_self_eq_true _ | exact beq_eq_false_iff_ne.mpr fun z => nomatch z
      | int c =>
        cases (show x = .int c from r1)
        obtain ⟨t, rfl⟩ := (show ∃ t, v = Value.int c t from rx)
        cases e
        exact ⟨rfl, beq_eq_false_iff_ne.mpr fun z => nomatch z⟩
      | str c =>
        cases (show x = .str c from r1.1)
        obtain ⟨t, rfl⟩ := (show ∃ t, v = Value.str c t from rx)
        cases e
        exact ⟨rfl, beq_eq_false_iff_ne.mpr fun z => nomatch z⟩
      | _ => exact nomatch e
    | _ => exact nomatch e
  obtain ⟨h1, h2⟩ := key
  cases neg with
  | true =>
    rw [if_pos rfl]
    refine wpAny_isNot_plain h1 ?_
    rw [h2]
    exact ⟨.bl (!r), H, I, rfl, by simpa using fin⟩
  | false =>
    rw [if_neg Bool.false_ne_true]
    refine wpAny_is_plain h1 ?_
    rw [h2]
    exact ⟨.bl r, H, I, rfl, by simpa using fin⟩
/-- len(x), x an instance -/
def wLenO (c : Nat) (sp : Sp2) (dws : List W) (te : TE2) : TE2 := fun σ M Q E => te σ M (fun x M1 => (∃ fs, insW M1 x = some (c, fs)) ∧ sp (x :: dws) M1 (fun z M2 => ∃ n : Int, z = .d (.int n) ∧ 0 ≤ n ∧ n < 2 ^ 63 ∧ Q z M2) E) E
theorem len_back {pins : List (Addr × Obj)} {σ : L2.St} {Q : VK} {v : Value} {s' : Shared} (h : EP X pins σ (fun z H2 => ∃ n : Int, z = .int n ∧ 0 ≤ n ∧ n < 2 ^ 63 ∧ Q z H2) v s') : PySem.W.LenBack (EP X pins σ Q) v s' := by
  obtain ⟨z, H', I', rz, n, e, h0, h1, qz⟩ := h
  subst e
  obtain ⟨tk, e⟩ := (show ∃ tk, v = Value.int n tk from rz)
  subst e
  exact ⟨⟨h0, h1⟩, .int n, H', I'.tok _, ⟨_, rfl⟩, qz⟩
theorem e_lenO {c : Nat} {sp : Sp2} {dws : List W} {te : TE2} {e : Expr} {p pos : Pos} (C : Ctx T (k + 1) N mg X Wx sc) (F : KmP X.prog X.w X.K X.mg X.base T k c "__len__" sp dws) (hg : Gl X "len") (hm0 : X.mg "len" = none) (he : PE X e (lowE T Wx te))
    (hst : starEach [e] X.env = [(false, eval e X.env)]) : PE X (.Call (.Name "len" p) [e] [] pos) (lowE T Wx (wLenO c sp dws te)) := by
  obtain ⟨f, fd, ps, ds, dvs, hm, hb, hv, hd, Fo⟩ := F.ex
  refine ⟨fun pins s σ H Q I h => ?_⟩
  have low : lowE T Wx te σ H fun x H1 => ∃ a, x = .ref a ∧ (∃ dx vs, H1 a = some (.ins (T.cls c) dx vs)) ∧ lowSp T sp ([.ref a] ++ dvs) H1 (fun z H2 => ∃ n : Int, z = .int n ∧ 0 ≤ n ∧ n < 2 ^ 63 ∧ Q z H2) (WE Wx σ) := by
    obtain ⟨G, σ2, M, Q2, E2, sr, rs, q2, pq, px⟩ := h
    refine ⟨G, σ2, M, _, E2, sr, rs, q2, fun x M1 G1 H1 v m1 sr1 rw1 ⟨⟨fs, e1⟩, q3⟩ => ?_, px⟩
    obtain ⟨a, dx, vs, rfl, h1, _⟩ := insW_low sr1 rw1 e1
    refine ⟨a, rfl, ⟨dx, vs, h1⟩, low_own (ws := [x]) sr1 (.cons rw1 .nil) hd q3 (fun w M2 G2 H2 v2 m2 sr2 rw2 ⟨n, e, n0, n1, q4⟩ => ?_) (px.mono m1)⟩
    subst e
    exact ⟨n, rw2, n0, n1, by rw [rw2]; exact pq _ M2 G2 H2 _ (m1.trans m2) sr2 (show RW T G2 (.d (.int n)) (.int n) from rfl) q4⟩
  refine wpAny_Call_Name_kw (ld_blt I hg hm0 (show bootBuiltins ("len" : Str) = some (.builtin "len") by decide +kernel) ?_ (by decide +kernel) (by decide +kernel))
  refine PyProof.Rows.callWith_builtin1 (thn ((pa_cons he pa_nil hst).run pos pins s σ H (fun vs H1 => ∃ a, vs = [.ref a] ∧ (∃ dx us, H1 a = some (.ins (T.cls c) dx us)) ∧ lowSp T sp ([.ref a] ++ dvs) H1 (fun z H2 => ∃ n : Int, z = .int n ∧ 0 ≤ n ∧ n < 2 ^ 63 ∧ Q z H2) (WE Wx σ)) I ?_) fun us s1 ⟨vs, H1, I1, r1, a, e1, ⟨dx, fs, h1⟩, q⟩ => ?_) hst rfl
  · obtain ⟨G, σ2, M, Q2, E2, sr, rs, q2, pq, px⟩ := low
    refine ⟨G, σ2, M, Q2, E2, sr, rs, q2, fun w M1 G1 H1 v m1 sr1 rw1 q3 => ?_, px⟩
    obtain ⟨a, rfl, q4, q5⟩ := pq w M1 G1 H1 v m1 sr1 rw1 q3
    exact ⟨a, rfl, q4, q5⟩
  · subst e1
    obtain ⟨u, rfl, ru⟩ := r1.one
    cases (show u = Value.ref a from ru)
    obtain ⟨ox, od, J, _⟩ := StX.insC_at I1 (.inr ⟨dx, fs, h1⟩)
    have hr2 : Room k X.A.in1 := Room.in1 C.room
    obtain ⟨mF, hF⟩ := I1.fr
    exact PySem.W.len_K hF I1.ok.mod.kin J hm.at_ hm.fn (wpAny_mono (run_fA (us := [.ref a]) (vs := [.ref a]) C hr2 C.gd Fo hb hv I1 I1.env0.in1 (.cons rfl .nil) q) (fun w s' z => len_back z) fun _ _ x => x)
end
end Z
set_option maxHeartbeats 4000000
/-! X18: lists of ints by <, int + bool, int - bool, cells behind references -/
namespace Z
open PySem PySem.Spec PyProof.Rows L2
/-- the usual order of lists of ints -/
def ltI : List Int → List Int → Bool
  | [], [] => false
  | [], _ :: _ => true
  | _ :: _, [] => false
  | a :: l, b :: m => if a = b then ltI l m else decide (a < b)
theorem first_map {e r : Nat → Bool} {fin : Bool} : ∀ l : List Nat, SeqAt.firstLt e r fin (l.map Nat.succ) = SeqAt.firstLt (fun j => e (j + 1)) (fun j => r (j + 1)) fin l
  | [] => rfl
  | j :: t => by
    rw [List.map_cons, SeqAt.firstLt, SeqAt.firstLt, first_map t]
theorem first_ltI : ∀ ns ms : List Int, SeqAt.firstLt (fun j => ns.getD j 0 == ms.getD j 0) (fun j => decide (ns.getD j 0 < ms.getD j 0)) (decide (ns.length < ms.length)) (List.range (min ns.length ms.length)) = ltI ns ms
  | [], [] => rfl
  | [], _ :: _ => by simp [SeqAt.firstLt, ltI]
  | _ :: _, [] => by simp [SeqAt.firstLt, ltI]
  | a :: l, b :: m => by
    have h1 : min (a :: l).length (b :: m).length = min l.length m.length + 1 := by simp only [List.length_cons]; omega
    rw [h1, List.range_succ_eq_map, SeqAt.firstLt, first_map]
    show (if (a == b) = true then _ else decide (a < b)) = if a = b then ltI l m else decide (a < b)
    by_cases c : a = b
    · rw [if_pos (by simpa using c), if_pos c, ← first_ltI l m]
      have : decide ((a :: l).length < (b :: m).length) = decide (l.length < m.length) := by simp
      rw [this]
      rfl
    · rw [if_neg (by simpa using c), if_neg c]
def oLtL : R22 := fun x y M Q _ => ∃ ns ms : List Int, x = .d (.lst (ns.map D.int)) ∧ y = .d (.lst (ms.map D.int)) ∧ Q (.d (.bool (ltI ns ms))) M
theorem ints_getD {us : List Value} {ns : List Int} (h : IntsAre us ns) : ∀ (j : Nat) (hj : j < us.length), ∃ t, us[j] = .int (ns.getD j 0) t := by
  induction h with
  | nil => intro j hj; exact absurd hj (Nat.not_lt_zero _)
  | cons n t _ ih =>
    intro j hj
    cases j with
    | zero => exact ⟨_, rfl⟩
    | succ j => exact ih j (Nat.lt_of_succ_lt_succ hj)
theorem ints_len {us : List Value} {ns : List Int} (h : IntsAre us ns) : us.length = ns.length := by
  induction h with
  | nil => rfl
  | cons n t _ ih => rw [List.length_cons, List.length_cons, ih]
theorem rws_ints {T : Tab} {G : Hp} : ∀ {ns : List Int} {vs : List V}, RWs T G ((ns.map D.int).map W.d) vs → vs = ns.map V.int
  | [], vs, h => by cases h; rfl
  | n :: ns, vs, h => by
    rw [List.map_cons, List.map_cons] at h
    cases h with
    | cons r t => rw [List.map_cons, ← rws_ints t]; exact congrArg (· :: _) (show _ = V.int n from r)
section
variable {X : Cx} {T : Tab} {Wx : WX} {k : Nat} {N : List Str} {mg : Str → Option Value} {sc : Scope}
theorem op2_ltL (C : Ctx T k N mg X Wx sc) : Op2 X T Wx (compareOp .Lt) oLtL := by
  intro pins s σ H x y v u Q I rx ry q
  obtain ⟨G, wx, wy, M, Q2, E2, sr, r1, r2, ⟨ns, ms, rfl, rfl, q2⟩, pq, px⟩ := q
  have fin := pq _ M G H _ (Mo.refl _) sr (show RW T G (.d (.bool (ltI ns ms))) (.bl (ltI ns ms)) from rfl) q2
  obtain ⟨a, vs, rfl, ha, ra⟩ := listW_low sr r1 (show listW M (.d (.lst (ns.map D.int))) = some _ from rfl)
  obtain ⟨b, us, rfl, hb, rb⟩ := listW_low sr r2 (show listW M (.d (.lst (ms.map D.int))) = some _ from rfl)
  cases rws_ints ra
  cases rws_ints rb
  cases (show v = Value.ref a from rx)
  cases (show u = Value.ref b from ry)
  rw [← C.eK] at ha hb
  obtain ⟨i1, v1, p1, _⟩ := I.list ha
  obtain ⟨i2, v2, p2, _⟩ := I.list hb
  have k1 := intsAre_of v1
  have k2 := intsAre_of v2
  have l1 := ints_len k1
  have l2 := ints_len k2
  have hu : X.A.units < cLine := Nat.lt_of_succ_lt (hu_of C.room)
  refine SeqAt.RcLt.lists (e := fun j => ns.getD j 0 == ms.getD j 0) (r := fun j => decide (ns.getD j 0 < ms.getD j 0)) p1.isList p2.isList hu (fun j h1 h2 => ?_) (fun j h1 h2 _ => ?_) _ _ _ _ ?_
  · obtain ⟨t1, e1⟩ := ints_getD k1 j (by simpa using h1)
    obtain ⟨t2, e2⟩ := ints_getD k2 j (by simpa using h2)
    simp only [List.getElem_toArray, e1, e2]
    exact PySem.SeqAt.EqAt.int_int _ _ _ _
  · obtain ⟨t1, e1⟩ := ints_getD k1 j (by simpa using h1)
    obtain ⟨t2, e2⟩ := ints_getD k2 j (by simpa using h2)
    simp only [List.getElem_toArray, e1, e2]
    exact fun prog w E Q h => lt_int h
  · rw [List.size_toArray, List.size_toArray, l1, l2, first_ltI]
    exact fin_bl I fin rfl
/-- an int and a truth value -/
def oIB (sub : Bool) : R22 := fun x y M Q _ => ∃ i b, x = .d (.int i) ∧ y = .d (.bool b) ∧ Q (.d (.int (if sub = true then i - (if b = true then 1 else 0) else i + if b = true then 1 else 0))) M
theorem op2_IB (sub : Bool) : Op2 X T Wx (binaryOp (if sub = true then .Sub else .Add)) (oIB sub) := by
  intro pins s σ H x y v u Q I rx ry q
  obtain ⟨G, wx, wy, M, Q2, E2, sr, r1, r2, ⟨i, b, rfl, rfl, q2⟩, pq, px⟩ := q
  cases (show x = .int i from r1)
  cases (show y = .bl b from r2)
  cases (show u = Value.bool b from ry)
  obtain ⟨t, rfl⟩ := (show ∃ t, v = Value.int i t from rx)
  cases sub with
  | true => exact PySem.IntBool.sub_int_bool ⟨.int _, H, I.tok _, ⟨_, rfl⟩, pq _ M G H _ (Mo.refl _) sr (show RW T G (.d (.int (i - if b = true then 1 else 0))) (.int (i - if b = true then 1 else 0)) from rfl) q2⟩
  | false => exact add_int_bool ⟨.int _, H, I.tok _, ⟨_, rfl⟩, pq _ M G H _ (Mo.refl _) sr (show RW T G (.d (.int (i + if b = true then 1 else 0))) (.int (i + if b = true then 1 else 0)) from rfl) q2⟩
end
end Z
set_option maxHeartbeats 4000000
/-! Z9: programs as terms of one's own; what they mean; that a def's text is such a term -/
namespace Z
open PySem PySem.Spec PyProof.Rows L2
inductive BO where | add (m : Bool) | sub | mul | fdiv | mod | pow
  deriving DecidableEq
inductive CO where | lt | le | gt | ge | eq | ne | in_ | nin | is_ | isn
  deriving DecidableEq
inductive BI where | len | list (m : Bool) | tuple | int | str | repr | all | any
inductive BM where | append | popAt | extend | join
inductive Cn where | non | bool (b : Bool) | int (i : Int) | str (s : Str)
inductive BOO where | band | bor | add | sub
  deriving DecidableEq
inductive COO where | eq | le | lt
  deriving DecidableEq
/-- further comparisons -/
inductive CmX where
  | neo (i : Nat) | refo (ge : Bool) (i : Nat) | eql (i j : Nat) | nel (i j : Nat) | ind (neg : Bool) | din (neg : Bool) | deq (neg : Bool) | isb (neg : Bool) | ltl
  deriving DecidableEq
/-- further kinds of expressions; the parts stand apart -/
inductive U where
  | bino (o : BOO) (i : Nat) | cmpo (o : COO) (i : Nat) | ino (neg : Bool) (i : Nat) | inv (i : Nat) | stro (i : Nat) | fmto (i : Nat) | callo (i : Nat)
  | stat (i : Nat) (x m : Str) | isc (i : Nat) (x : Str) | frzo | srt (u m : Bool) | alt | cmpx (c : CmX) | rep | dget | dgt2 | dnew | dlist (m : Bool) | ddict | dlen | lock (i : Nat) (f : Option Str) | ditems | dictp | min2 | asd | asc | geto (i : Nat) | dgt1 | dpop2 | leno (i : Nat) | ib (sub : Bool)
mutual
inductive E where
  | var (i : Nat) | cst (c : Cn) | glob (i : Nat) | bin (o : BO) (a b : E) | cmp (o : CO) (a b : E) | chain (o o' : CO) (a b c : E)
  | and (a : E) (es : Es) | or (a : E) (es : Es) | not (a : E) | ife (c a b : E) | tup (es : Es) | lst (m : Bool) (es : Es) | ix (a b : E) | sl (m : Bool) (a : E) (lo hi : Es) | neg (a : E)
  | call (i : Nat) (es : Es) | blt (b : BI) (es : Es) | bm (b : BM) (o : E) (es : Es)
  | isi (t : Ty) (e : E)
  | fld (f : Str) (e : E) | mth (i : Nat) (m : Str) (o : E) (es : Es) | mk (i : Nat) (x : Str) (es : Es)
  | ext (u : U) (es : Es)
  | lc (m : Bool) (it : It2) (v : Nat) (c : Es) (elt : E)
  | dc (it : It2) (v : Nat) (c : Es) (ke ve : E)
  | lct (m : Bool) (it : It2) (vs : List Nat) (c : Es) (elt : E)
inductive Es where
  | nil | cons (e : E) (es : Es)
inductive It2 where
  | seq (e : E) | rng1 (e : E) | rng2 (a b : E) | sgn (e : E) | keys (e : E) | enum (e : E) | items (e : E)
end
structure Cal where
  x : Str
  sp : Sp2
  dws : List W
structure Mth where
  c : Nat
  m : Str
  sp : Sp2
  dws : List W
structure Mkr where
  x : Str
  c : Nat
  sp : Sp2
  dws : List W
/-- a staticmethod -/
structure Sta where
  x : Str
  m : Str
  sp : Sp2
  dws : List W
/-- own classes: attributes, methods, makers; methods for str; staticmethods; classes asked of; classes in general; own exceptions; clauses -/
structure Ocl where
  a : List (Str × Nat)
  m : List Mth
  c : List Mkr
  t : List Mth
  s : List Sta
  i : List Isc
  g : List Nat
  x : List Exr
  h : List Hdl
def noO : Ocl := ⟨[], [], [], [], [], [], [], [], []⟩
structure Env2 where
  f : List Cal
  g : List (Str × D)
  o : Ocl
def BO.op : BO → Operator
  | .add _ => .Add | .sub => .Sub | .mul => .Mult | .fdiv => .FloorDiv | .mod => .Mod | .pow => .Pow
def BO.r : BO → R22
  | .add m => oAdd m | .sub => oSub | .mul => oInt (fun i j => i * j) oMul0 | .fdiv => oFdiv | .mod => oMod | .pow => oPow
def CO.op : CO → CmpOp
  | .lt => .Lt | .le => .LtE | .gt => .Gt | .ge => .GtE | .eq => .Eq | .ne => .NotEq | .in_ => .In | .nin => .NotIn | .is_ => .Is | .isn => .IsNot
def CO.r : CO → R22
  | .lt => oLt | .le => oLe | .gt => oGt | .ge => oGe | .eq => oEqF false | .ne => oEqF true | .in_ => oInF false | .nin => oInF true | .is_ => oIsN false | .isn => oIsN true
def BI.x : BI → Str
  | .len => "len" | .list _ => "list" | .tuple => "tuple" | .int => "int" | .str => "str" | .repr => "repr" | .all => "all" | .any => "any"
def BI.r : BI → RC2
  | .len => rLenF | .list m => rList m | .tuple => rTuple | .int => rInt | .str => rStr | .repr => rRepr | .all => rAllB | .any => rAnyB
def BM.x : BM → Str
  | .append => "append" | .popAt => "pop" | .extend => "extend" | .join => "join"
def BM.ok : BM → W → Mp → Prop
  | .join => okS
  | _ => okL
def BM.r : BM → RM2
  | .append => mAppend | .popAt => mPopAt | .extend => mExtend | .join => mJoin
def Cn.d : Cn → D
  | .non => .none | .bool b => .bool b | .int i => .int i | .str s => .str s
def wFalse : TE2 := fun _ _ _ _ => False
def BOO.op : BOO → Operator
  | .band => .BitAnd | .bor => .BitOr | .add => .Add | .sub => .Sub
def BOO.m : BOO → Str
  | .band => "__and__" | .bor => "__or__" | .add => "__add__" | .sub => "__sub__"
def BOO.mi : BOO → Str
  | .band => "__iand__" | .bor => "__ior__" | .add => "__iadd__" | .sub => "__isub__"
theorem BOO.mi_eq (o : BOO) : o.mi = PySem.dunderI o.op.info.2 := by cases o <;> decide +kernel
def COO.op : COO → CmpOp
  | .eq => .Eq | .le => .LtE | .lt => .Lt
def COO.m : COO → Str
  | .eq => "__eq__" | .le => "__le__" | .lt => "__lt__"
def wL : List TE2 → TA2
  | [] => wNil
  | t :: r => wCons t (wL r)
def CmX.op : CmX → CmpOp
  | .neo _ => .NotEq | .refo ge _ => if ge = true then .GtE else .Gt | .eql _ _ => .Eq | .nel _ _ => .NotEq | .ind neg => if neg = true then .NotIn else .In | .din neg => if neg = true then .NotIn else .In | .deq neg => if neg = true then .NotEq else .Eq | .isb neg => if neg = true then .IsNot else .Is | .ltl => .Lt
def CmX.r (Γ : Env2) : CmX → Option R22
  | .neo i => match Γ.o.t[i]? with
    | some q => if q.m = "__eq__" ∧ q.c ∈ Γ.o.g then some (oNeo q.c q.sp q.dws) else none
    | none => none
  | .refo ge i => match Γ.o.m[i]? with
    | some q => if (q.m = if ge = true then "__le__" else "__lt__") ∧ q.c ∈ Γ.o.g then some (oRef q.c q.sp q.dws) else none
    | none => none
  | .eql i j => match Γ.o.m[i]?, Γ.o.i[j]? with
    | some q, some y => if q.m = "__eq__" then some (oEql y q.c q.sp q.dws) else none
    | _, _ => none
  | .nel i j => match Γ.o.t[i]?, Γ.o.i[j]? with
    | some q, some y => if q.m = "__eq__" ∧ q.c ∈ Γ.o.g then some (oNel y q.c q.sp q.dws) else none
    | _, _ => none
  | .ind neg => some (oInD neg)
  | .din neg => some (oDin neg)
  | .deq neg => some (oDeq neg)
  | .isb neg => some (oIsB neg)
  | .ltl => some oLtL
def wU (Γ : Env2) : U → List TE2 → TE2
  | .bino o i, [ta, tb] => match Γ.o.m[i]? with
    | some q => wIfP (q.m = o.m ∧ q.c ∈ Γ.o.g) (wBin (oOwn q.c q.sp q.dws) ta tb)
    | none => wFalse
  | .cmpo o i, [ta, tb] => match Γ.o.m[i]? with
    | some q => wIfP (q.m = o.m) (wBin (oOwn q.c q.sp q.dws) ta tb)
    | none => wFalse
  | .ino neg i, [ta, tb] => match Γ.o.m[i]? with
    | some q => wIfP (q.m = "__contains__") (wBin (oOwnIn neg q.c q.sp q.dws) ta tb)
    | none => wFalse
  | .inv i, [ta] => match Γ.o.m[i]? with
    | some q => wIfP (q.m = "__invert__") (wOwn1 q.c q.sp q.dws ta)
    | none => wFalse
  | .stro i, [ta] => match Γ.o.t[i]? with
    | some q => wIfP (q.m = "__str__") (wOwnS q.c q.sp q.dws ta)
    | none => wFalse
  | .fmto i, [ta] => match Γ.o.t[i]? with
    | some q => wIfP (q.m = "__str__" ∧ q.c ∈ Γ.o.g) (wOwnS q.c q.sp q.dws ta)
    | none => wFalse
  | .callo i, tf :: ts => match Γ.o.m[i]? with
    | some q => wIfP (q.m = "__call__" ∧ q.c ∈ Γ.o.g) (wOwnCall q.c q.sp q.dws tf (wL ts))
    | none => wFalse
  | .stat i x m, ts => match Γ.o.s[i]? with
    | some q => wIfP (q.x = x ∧ q.m = m) (wCall q.sp q.dws (wL ts))
    | none => wFalse
  | .isc i x, [ta] => match Γ.o.i[i]? with
    | some q => wIfP (q.x = x) (wIsc q ta)
    | none => wFalse
  | .frzo, [ta] => wFrzO ta
  | .asd, [ta] => wAsd ta
  | .geto i, [ta, tb] => match Γ.o.t[i]? with
    | some q => wIfP (q.m = "__getitem__" ∧ q.c ∈ Γ.o.g) (wBin (oOwnGet q.c q.sp q.dws) ta tb)
    | none => wFalse
  | .asc, [ta] => wAsc ta
  | .srt u m, [ta] => wSrt u m ta
  | .alt, [ta, tb] => wAlt ta tb
  | .rep, [ta, tb] => wBin oRep ta tb
  | .ib sub, [ta, tb] => wBin (oIB sub) ta tb
  | .dget, [ta, tb] => wDget ta tb
  | .dgt2, [ta, tb, tc] => wDget2 ta tb tc
  | .dgt1, [ta, tb] => wDget1 ta tb
  | .dpop2, [ta, tb, tc] => wDpop2 ta tb tc
  | .leno i, [ta] => match Γ.o.t[i]? with
    | some q => wIfP (q.m = "__len__") (wLenO q.c q.sp q.dws ta)
    | none => wFalse
  | .dnew, [] => wDnew
  | .dlist m, [ta] => wCB (rListK m) (wL [ta])
  | .ddict, [ta] => wCB rDictK (wL [ta])
  | .dlen, [ta] => wCB rLenK (wL [ta])
  | .lock i f, [ta] => wLockE i f ta
  | .ditems, [ta] => wListItems ta
  | .dictp, [ta] => wCB rDictP (wL [ta])
  | .min2, [ta, tb] => wCB rMin2 (wL [ta, tb])
  | .cmpx c, [ta, tb] => match c.r Γ with
    | some r => wBin r ta tb
    | none => wFalse
  | _, _ => wFalse
def wUT (Γ : Env2) : U → List TE2 → TT2
  | .cmpo o i, ts => wT (wU Γ (.cmpo o i) ts)
  | .cmpx c, ts => wT (wU Γ (.cmpx c) ts)
  | .ino o i, ts => wT (wU Γ (.ino o i) ts)
  | .callo i, ts => wTru (wU Γ (.callo i) ts)
  | .stat i x m, ts => wTru (wU Γ (.stat i x m) ts)
  | .isc i x, ts => wTru (wU Γ (.isc i x) ts)
  | _, _ => fun _ _ _ _ => False
def wTs : List Nat → TGs2
  | [] => wgNil
  | i :: r => wgCons i (wTs r)
/-- walks that want a pair as their target -/
def pairIt : It2 → Bool
  | .enum _ => true
  | .items _ => true
  | _ => false
/-! ### what it means -/
mutual
def wE (Γ : Env2) : E → TE2
  | .var i => wVar i
  | .cst c => wC c.d
  | .glob i => match Γ.g[i]? with
    | some (_, d) => wC d
    | none => wFalse
  | .bin o a b => wBin o.r (wE Γ a) (wE Γ b)
  | .cmp o a b => wBin o.r (wE Γ a) (wE Γ b)
  | .chain o o' a b c => wChain o.r o'.r (wE Γ a) (wE Γ b) (wE Γ c)
  | .and a es => wAnds Γ (wE Γ a) es
  | .or a es => wOrs Γ (wE Γ a) es
  | .not a => wNotV (wE Γ a)
  | .ife c a b => wIf (wT2 Γ c) (wE Γ a) (wE Γ b)
  | .tup es => wTup (wA Γ es)
  | .lst m es => wLst m (wA Γ es)
  | .ix a b => wBin oIxF (wE Γ a) (wE Γ b)
  | .sl m a lo hi => wSl m (wE Γ a) (wO Γ lo) (wO Γ hi)
  | .neg a => fun σ M Q E => wE Γ a σ M (fun x M1 => ∃ i, x = .d (.int i) ∧ Q (.d (.int (-i))) M1) E
  | .call i es => match Γ.f[i]? with
    | some c => wCall c.sp c.dws (wA Γ es)
    | none => wFalse
  | .blt b es => wCB b.r (wA Γ es)
  | .bm b o es => wBM b.ok b.r (wE Γ o) (wA Γ es)
  | .isi t e => wIsi t (wE Γ e)
  | .fld f e => wFld (fun c => (f, c) ∈ Γ.o.a) f (wE Γ e)
  | .mth i m o es => match Γ.o.m[i]? with
    | some q => wIfP (q.m = m) (wMeth q.c m q.sp q.dws (wE Γ o) (wA Γ es))
    | none => wFalse
  | .mk i x es => match Γ.o.c[i]? with
    | some q => wIfP (q.x = x) (wMake q.c q.sp q.dws (wA Γ es))
    | none => wFalse
  | .ext u es => wU Γ u (wEs Γ es)
  | .lc m it v c elt => wLc m (wI Γ it) (wgName v) (wC1 Γ c) (wE Γ elt) [v]
  | .lct m it vs c elt => wLc m (wI Γ it) (wgTup vs.length (wTs vs)) (wC1 Γ c) (wE Γ elt) vs
  | .dc it v c ke ve => wDc (wI Γ it) (wgName v) (wC1 Γ c) (wE Γ ke) (wE Γ ve) [v]
/-- as a test -/
def wT2 (Γ : Env2) : E → TT2
  | .cmp o a b => wT (wBin o.r (wE Γ a) (wE Γ b))
  | .chain o o' a b c => wT (wChain o.r o'.r (wE Γ a) (wE Γ b) (wE Γ c))
  | .and a es => wAndsT Γ (wT2 Γ a) es
  | .or a es => wOrsT Γ (wT2 Γ a) es
  | .not a => wNotT (wT2 Γ a)
  | .var i => wTru (wVar i)
  | .call i es => wTru (match Γ.f[i]? with
    | some c => wCall c.sp c.dws (wA Γ es)
    | none => wFalse)
  | .ix a b => wTru (wBin oIxF (wE Γ a) (wE Γ b))
  | .blt b es => wTru (wCB b.r (wA Γ es))
  | .isi t e => wTru (wIsi t (wE Γ e))
  | .mth i m o es => wTru (match Γ.o.m[i]? with
    | some q => wIfP (q.m = m) (wMeth q.c m q.sp q.dws (wE Γ o) (wA Γ es))
    | none => wFalse)
  | .ext u es => wUT Γ u (wEs Γ es)
  | _ => fun _ _ _ _ => False
/-- the parts, one by one -/
def wEs (Γ : Env2) : Es → List TE2
  | .nil => []
  | .cons e es => wE Γ e :: wEs Γ es
def wA (Γ : Env2) : Es → TA2
  | .nil => wNil
  | .cons e es => wCons (wE Γ e) (wA Γ es)
def wAnds (Γ : Env2) (t : TE2) : Es → TE2
  | .nil => t
  | .cons e es => wAndV t (wAnds Γ (wE Γ e) es)
def wOrs (Γ : Env2) (t : TE2) : Es → TE2
  | .nil => t
  | .cons e es => wOrV t (wOrs Γ (wE Γ e) es)
def wAndsT (Γ : Env2) (t : TT2) : Es → TT2
  | .nil => t
  | .cons e es => wAndT t (wAndsT Γ (wT2 Γ e) es)
def wOrsT (Γ : Env2) (t : TT2) : Es → TT2
  | .nil => t
  | .cons e es => wOrT t (wOrsT Γ (wT2 Γ e) es)
/-- a slice's part -/
def wO (Γ : Env2) : Es → TO2
  | .nil => wNoP
  | .cons e _ => wPart (wE Γ e)
/-- a clause's test, if there is one -/
def wC1 (Γ : Env2) : Es → TT2
  | .nil => wYes
  | .cons e _ => wT2 Γ e
def wI (Γ : Env2) : It2 → TI2
  | .seq e => wiSeq (wE Γ e)
  | .rng1 e => wiRng1 (wCons (wE Γ e) wNil)
  | .rng2 a b => wiRng2 (wCons (wE Γ a) (wCons (wE Γ b) wNil))
  | .sgn e => wiStr (wE Γ e)
  | .keys e => wiKeys (wE Γ e)
  | .enum e => wiEnumS (wE Γ e)
  | .items e => wiItems (wE Γ e)
end
end Z
set_option maxHeartbeats 4000000
/-! Z10: that an expression of the text is such a term; the rules joined -/
namespace Z
open PySem PySem.Spec PyProof.Rows L2
structure Par where
  N : List Str
  fx : List Str
  gx : List Str
  bx : List Str
def visB (sc : Scope) (x : Str) : Bool := match sc.names.lookup x with
  | some .local => true
  | some .cell => true
  | some .free => true
  | _ => false
def locB (sc : Scope) (x : Str) : Bool := match sc.names.lookup x with
  | some .local => true
  | some .cell => true
  | _ => false
def glB (sc : Scope) (x : Str) : Bool := match sc.names.lookup x with
  | some .globalImplicit => true
  | _ => false
def okN (x : Str) : Bool := !(x == ("__debug__" : Str)) && !(x == ("__classdict__" : Str))
def kC : Cn → Const → Bool
  | .non, .none => true
  | .bool a, .bool b => a == b
  | .int a, .int b => decide (a = b)
  | .str a, .str b => decide (a = b) && decide (a.length ≤ 16777216)
  | _, _ => false
/-- the parts of such an expression -/
def uK (p : Par) (sc : Scope) : U → Expr → Option (List Expr)
  | .ib sub, x => match x with
    | .BinOp l op r _ => if op = (if sub = true then .Sub else .Add) then some [l, r] else none
    | _ => none
  | .bino o _, x => match x with
    | .BinOp l op r _ => if op = o.op then some [l, r] else none
    | _ => none
  | .cmpo o _, x => match x with
    | .Compare l [op] [r] _ => if (decide (op = o.op) && !behindInMarks op r) = true then some [l, r] else none
    | _ => none
  | .ino neg _, x => match x with
    | .Compare l [op] [r] _ => if (decide (op = if neg = true then .NotIn else .In) && !behindInMarks op r) = true then some [l, r] else none
    | _ => none
  | .dget, x => match x with
    | .Subscript l r _ => some [l, r]
    | _ => none
  | .geto _, x => match x with
    | .Subscript l r _ => some [l, r]
    | _ => none
  | .dgt2, x => match x with
    | .Call (.Attribute o g ap) [e, f] [] cp => if (decide (g = ("get" : Str)) && (ap.endLine == cp.line)) = true then some [o, e, f] else none
    | _ => none
  | .dgt1, x => match x with
    | .Call (.Attribute o g ap) [e] [] cp => if (decide (g = ("get" : Str)) && (ap.endLine == cp.line)) = true then some [o, e] else none
    | _ => none
  | .dpop2, x => match x with
    | .Call (.Attribute o g ap) [e, f] [] cp => if (decide (g = ("pop" : Str)) && (ap.endLine == cp.line)) = true then some [o, e, f] else none
    | _ => none
  | .leno _, x => match x with
    | .Call (.Name n _) [v] [] _ => if (decide (n = ("len" : Str)) && decide (n ∈ p.bx) && glB sc n) = true then some [v] else none
    | _ => none
  | .dnew, x => match x with
    | .Dict [] [] _ => some []
    | _ => none
  | .dlist _, x => match x with
    | .Call (.Name n _) [v] [] _ => if (decide (n = ("list" : Str)) && decide (n ∈ p.bx) && glB sc n) = true then some [v] else none
    | _ => none
  | .ddict, x => match x with
    | .Call (.Name n _) [v] [] _ => if (decide (n = ("dict" : Str)) && decide (n ∈ p.bx) && glB sc n) = true then some [v] else none
    | _ => none
  | .dlen, x => match x with
    | .Call (.Name n _) [v] [] _ => if (decide (n = ("len" : Str)) && decide (n ∈ p.bx) && glB sc n) = true then some [v] else none
    | _ => none
  | .ditems, x => match x with
    | .Call (.Name n _) [.Call (.Attribute e m ap) [] [] cp] [] _ => if (decide (n = ("list" : Str)) && decide (n ∈ p.bx) && glB sc n && decide (m = ("items" : Str)) && (ap.endLine == cp.line)) = true then some [e] else none
    | _ => none
  | .dictp, x => match x with
    | .Call (.Name n _) [v] [] _ => if (decide (n = ("dict" : Str)) && decide (n ∈ p.bx) && glB sc n) = true then some [v] else none
    | _ => none
  | .min2, x => match x with
    | .Call (.Name n _) [v, u] [] _ => if (decide (n = ("min" : Str)) && decide (n ∈ p.bx) && glB sc n) = true then some [v, u] else none
    | _ => none
  | .asd, x => match x with
    | .Name n q => some [.Name n q]
    | .BinOp a o b q => some [.BinOp a o b q]
    | .Call f (a :: as) k q => some [.Call f (a :: as) k q]
    | _ => none
  | .asc, x => match x with
    | .Name n q => some [.Name n q]
    | .Subscript a b q => some [.Subscript a b q]
    | _ => none
  | .lock _ _, x => match x with
    | .DictComp a b c d e => some [.DictComp a b c d e]
    | .ListComp a b c d => some [.ListComp a b c d]
    | _ => none
  | .rep, x => match x with
    | .BinOp l .Mult r _ => some [l, r]
    | _ => none
  | .inv _, x => match x with
    | .UnaryOp .Invert v _ => some [v]
    | _ => none
  | .stro _, x => match x with
    | .Call (.Name n _) [v] [] _ => if (decide (n = ("str" : Str)) && decide (n ∈ p.bx) && glB sc n) = true then some [v] else none
    | _ => none
  | .fmto _, x => match x with
    | .JoinedStr [.FormattedValue v k none _] _ => if k = -1 then some [v] else none
    | _ => none
  | .callo _, x => match x with
    | .Call (.Name n q) (v :: vs) [] _ => if (n != ("super" : Str)) = true then some (.Name n q :: v :: vs) else none
    | .Call (.UnaryOp o a q) (v :: vs) [] _ => some (.UnaryOp o a q :: v :: vs)
    | _ => none
  | .stat _ y m, x => match x with
    | .Call (.Attribute (.Name n _) a ap) vs [] cp => if (decide (n = y) && decide (a = m) && glB sc n && okN n && (ap.endLine == cp.line) && decide (vs.length < 20)) = true then some vs else none
    | _ => none
  | .isc _ y, x => match x with
    | .Call (.Name n _) [v, .Name m _] [] _ => if (decide (n = ("isinstance" : Str)) && decide (n ∈ p.bx) && glB sc n && decide (m = y) && glB sc m && okN m) = true then some [v] else none
    | _ => none
  | .cmpx c, x => match x with
    | .Compare l [op] [r] _ => if (decide (op = c.op) && !behindInMarks op r) = true then some [l, r] else none
    | _ => none
  | .srt true _, x => match x with
    | .Call (.Name n _) [.Call (.Name y _) [v] [] _] [] _ => if (decide (n = ("sorted" : Str)) && decide (n ∈ p.bx) && glB sc n && (decide (y = ("set" : Str)) && decide (y ∈ p.bx) && glB sc y)) = true then some [v] else none
    | _ => none
  | .srt false _, x => match x with
    | .Call (.Name n _) [v] [] _ => if (decide (n = ("sorted" : Str)) && decide (n ∈ p.bx) && glB sc n) = true then some [v] else none
    | _ => none
  | .alt, x => match x with
    | .Call f (v :: vs) kws cp => some [.Call f (v :: vs) kws cp, .Call f (v :: vs) kws cp]
    | _ => none
  | .frzo, x => match x with
    | .Call (.Name n q) vs [] cp => if (n != ("super" : Str)) = true then some [.Call (.Name n q) vs [] cp] else none
    | _ => none
def tgsB (p : Par) (sc : Scope) : List Nat → List Expr → Bool
  | [], xs => match xs with
    | [] => true
    | _ => false
  | i :: r, xs => match xs with
    | .Name n _ :: xs => decide (p.N[i]? = some n) && locB sc n && tgsB p sc r xs
    | _ => false
def ownOf (p : Par) (vs : List Nat) : List (Str × Nat) := vs.map fun i => ((p.N[i]?).getD "", i)
def isTuple : Expr → Bool
  | .Tuple _ _ _ => true
  | _ => false
def tupOk (it : It2) (tg : Expr) : Bool := !pairIt it || isTuple tg
mutual
def kE (p : Par) (sc : Scope) : E → Expr → Bool
  | .var i, x => match x with
    | .Name n _ => decide (p.N[i]? = some n) && visB sc n && okN n
    | _ => false
  | .cst c, x => match x with
    | .Constant v _ _ => kC c v
    | _ => false
  | .glob i, x => match x with
    | .Name n _ => decide (p.gx[i]? = some n) && glB sc n && okN n
    | _ => false
  | .bin o a b, x => match x with
    | .BinOp l op r _ => decide (op = o.op) && kE p sc a l && kE p sc b r
    | _ => false
  | .cmp o a b, x => match x with
    | .Compare l [op] [r] _ => decide (op = o.op) && kE p sc a l && kE p sc b r && !behindInMarks op r
    | _ => false
  | .chain o o' a b c, x => match x with
    | .Compare l [op, op'] [r, r'] _ => decide (op = o.op) && decide (op' = o'.op) && kE p sc a l && kE p sc b r && kE p sc c r' && !lastMarks [op, op'] [r, r']
    | _ => false
  | .and a es, x => match x with
    | .BoolOp .And (v :: vs) _ => kE p sc a v && kA p sc es vs
    | _ => false
  | .or a es, x => match x with
    | .BoolOp .Or (v :: vs) _ => kE p sc a v && kA p sc es vs
    | _ => false
  | .not a, x => match x with
    | .UnaryOp .Not v _ => kE p sc a v
    | _ => false
  | .ife c a b, x => match x with
    | .IfExp v u w _ => kE p sc c v && kE p sc a u && kE p sc b w
    | _ => false
  | .tup es, x => match x with
    | .Tuple vs _ _ => kA p sc es vs
    | _ => false
  | .lst _ es, x => match x with
    | .List vs _ => kA p sc es vs
    | _ => false
  | .ix a b, x => match x with
    | .Subscript l r _ => kE p sc a l && kE p sc b r
    | _ => false
  | .sl _ a lo hi, x => match x with
    | .Subscript l (.Slice lo' hi' none _) _ => kE p sc a l && kO p sc lo lo' && kO p sc hi hi'
    | _ => false
  | .neg a, x => match x with
    | .UnaryOp .USub v _ => kE p sc a v
    | _ => false
  | .call i es, x => match x with
    | .Call (.Name n _) (v :: vs) [] _ => decide (p.fx[i]? = some n) && glB sc n && okN n && kA p sc es (v :: vs)
    | _ => false
  | .blt b es, x => match x with
    | .Call (.Name n _) (v :: vs) [] _ => decide (n = b.x) && decide (n ∈ p.bx) && glB sc n && okN n && kA p sc es (v :: vs)
    | _ => false
  | .bm b o es, x => match x with
    | .Call (.Attribute r n ap) (v :: vs) [] cp => decide (n = b.x) && (ap.endLine == cp.line) && decide (vs.length < 20) && kE p sc o r && kA p sc es (v :: vs)
    | _ => false
  | .isi t e, x => match x with
    | .Call (.Name n _) [v, .Name m _] [] _ => decide (n = ("isinstance" : Str)) && decide (n ∈ p.bx) && glB sc n && decide (m = t.x) && decide (m ∈ p.bx) && glB sc m && kE p sc e v
    | _ => false
  | .fld f e, x => match x with
    | .Attribute v n _ => decide (n = f) && kE p sc e v
    | _ => false
  | .mth _ m o es, x => match x with
    | .Call (.Attribute r n ap) vs [] cp => decide (n = m) && (ap.endLine == cp.line) && decide (vs.length < 20) && kE p sc o r && kA p sc es vs
    | _ => false
  | .mk _ y es, x => match x with
    | .Call (.Name n _) vs [] _ => decide (n = y) && glB sc n && okN n && (n != ("super" : Str)) && kA p sc es vs
    | _ => false
  | .ext u es, x => match uK p sc u x with
    | some vs => kA p sc es vs
    | none => false
  | .lc _ it i c elt, x => match x with
    | .ListComp el [⟨.Name n _, iter, ifs, 0⟩] scope _ => decide (p.N[i]? = some n) && locB scope n && blkC p.N sc scope [(n, i)] && !pairIt it && kI p sc it iter && kF p (relS scope sc) c ifs && kE p (relS scope sc) elt el
    | _ => false
  | .lct _ it vs c elt, x => match x with
    | .ListComp el [⟨.Tuple es _ _, iter, ifs, 0⟩] scope _ => tgsB p scope vs es && blkC p.N sc scope (ownOf p vs) && kI p sc it iter && kF p (relS scope sc) c ifs && kE p (relS scope sc) elt el
    | _ => false
  | .dc it i c ke ve, x => match x with
    | .DictComp kx vx [⟨.Name n _, iter, ifs, 0⟩] scope _ => decide (p.N[i]? = some n) && locB scope n && blkC p.N sc scope [(n, i)] && !pairIt it && kI p sc it iter && kF p (relS scope sc) c ifs && kE p (relS scope sc) ke kx && kE p (relS scope sc) ve vx
    | _ => false
def kA (p : Par) (sc : Scope) : Es → List Expr → Bool
  | .nil, xs => match xs with
    | [] => true
    | _ => false
  | .cons e es, xs => match xs with
    | x :: r => kE p sc e x && kA p sc es r
    | _ => false
def kO (p : Par) (sc : Scope) : Es → Option Expr → Bool
  | .nil, x => match x with
    | none => true
    | _ => false
  | .cons e _, x => match x with
    | some y => kE p sc e y
    | _ => false
def kF (p : Par) (sc : Scope) : Es → List Expr → Bool
  | .nil, xs => match xs with
    | [] => true
    | _ => false
  | .cons e _, xs => match xs with
    | [x] => kE p sc e x
    | _ => false
def kI (p : Par) (sc : Scope) : It2 → Expr → Bool
  | .seq e, x => kE p sc e x
  | .sgn e, x => kE p sc e x
  | .keys e, x => kE p sc e x
  | .enum e, x => match x with
    | .Call (.Name n _) [v] [] _ => decide (n = ("enumerate" : Str)) && decide (n ∈ p.bx) && glB sc n && kE p sc e v
    | _ => false
  | .items e, x => match x with
    | .Call (.Attribute o m ap) [] [] cp => decide (m = ("items" : Str)) && (ap.endLine == cp.line) && kE p sc e o
    | _ => false
  | .rng1 e, x => match x with
    | .Call (.Name n _) [v] [] _ => decide (n = ("range" : Str)) && decide (n ∈ p.bx) && glB sc n && kE p sc e v
    | _ => false
  | .rng2 a b, x => match x with
    | .Call (.Name n _) [v, u] [] _ => decide (n = ("range" : Str)) && decide (n ∈ p.bx) && glB sc n && kE p sc a v && kE p sc b u
    | _ => false
end
/-! ### what a checked expression is not -/
theorem kE_star {p : Par} {sc : Scope} {e : E} {x : Expr} {pos : Pos} : kE p sc e (.Starred x pos) = false := by
  cases e with
  | ext u es => cases u <;> first | rfl | (rename_i b _; cases b <;> rfl)
  | _ => rfl
theorem kE_slice {p : Par} {sc : Scope} {e : E} {a b c : Option Expr} {pos : Pos} : kE p sc e (.Slice a b c pos) = false := by
  cases e with
  | ext u es => cases u <;> first | rfl | (rename_i b _; cases b <;> rfl)
  | _ => rfl
theorem kE_set {p : Par} {sc : Scope} {e : E} {a : List Expr} {k : Nat} {pos : Pos} : kE p sc e (.Set a k pos) = false := by
  cases e with
  | ext u es => cases u <;> first | rfl | (rename_i b _; cases b <;> rfl)
  | _ => rfl
theorem kE_sc {p : Par} {sc : Scope} {e : E} {a : Expr} {g : List Comprehension} {s : Scope} {pos : Pos} : kE p sc e (.SetComp a g s pos) = false := by
  cases e with
  | ext u es => cases u <;> first | rfl | (rename_i b _; cases b <;> rfl)
  | _ => rfl
theorem starEach_of {p : Par} {sc : Scope} {e : E} {x : Expr} {xs : List Expr} {env : Env} (h : kE p sc e x = true) : starEach (x :: xs) env = (false, eval x env) :: starEach xs env := by
  cases x with
  | Starred y pos => rw [kE_star] at h; cases h
  | _ => rfl
theorem starEach_all {p : Par} {sc : Scope} {env : Env} : ∀ {es : Es} {xs : List Expr}, kA p sc es xs = true → (starEach xs env).all (fun x => !x.1) = true
  | .nil, [], _ => rfl
  | .nil, _ :: _, h => nomatch h
  | .cons _ _, [], h => nomatch h
  | .cons e es, x :: xs, h => by
    have h : (kE p sc e x && kA p sc es xs) = true := h
    rw [Bool.and_eq_true] at h
    rw [starEach_of h.1, List.all_cons, starEach_all h.2]
    rfl
theorem backTo_any {pos : Pos} {l : List (Bool × Sem Value)} (h : l.all (fun x => !x.1) = true) : (backTo pos l).any (·.1) = false := by
  induction l with
  | nil => rfl
  | cons a r ih =>
    rw [List.all_cons, Bool.and_eq_true] at h
    show (a.1 || (backTo pos r).any (·.1)) = false
    rw [ih h.2, Bool.or_false]
    simpa using h.1
theorem backTo_all {pos : Pos} {l : List (Bool × Sem Value)} (h : l.all (fun x => !x.1) = true) : (backTo pos l).all (fun x => !x.1) = true := by
  induction l with
  | nil => rfl
  | cons a r ih =>
    rw [List.all_cons, Bool.and_eq_true] at h
    show (!a.1 && (backTo pos r).all (fun x => !x.1)) = true
    rw [ih h.2, Bool.and_true]
    exact h.1
theorem plainIx_of {p : Par} {sc : Scope} {e : E} {x : Expr} (h : kE p sc e x = true) : PlainIx x := fun o i => by
  cases x with
  | Slice a b c pos => rw [kE_slice] at h; cases h
  | _ => rfl
theorem plainIxT_of {p : Par} {sc : Scope} {e : E} {x : Expr} (h : kE p sc e x = true) : PlainIxT x := fun o i => by
  cases x with
  | Slice a b c pos => rw [kE_slice] at h; cases h
  | _ => rfl
theorem noset_of {p : Par} {sc : Scope} {e : E} {x : Expr} {env : Env} (h : kE p sc e x = true) : ∀ v, foldedSetIterable x env v = pure v := fun v => by
  cases x with
  | Set a k pos => rw [kE_set] at h; cases h
  | _ => rfl
theorem base_of {p : Par} {sc : Scope} {e : E} {x : Expr} {env : Env} {n : Str} {w : Sem Value} (h : kE p sc e x = true) : attributeBase x n env w = w := by
  cases x with
  | Call f args kws pos =>
    cases args with
    | cons a r => cases f <;> rfl
    | nil =>
      cases e with
      | mth i m o es =>
        cases f with
        | Attribute _ _ _ => rfl
        | _ => exact nomatch h
      | ext u es =>
        cases u with
        | stro _ => cases f <;> cases kws <;> exact nomatch h
        | callo _ => cases f <;> cases kws <;> exact nomatch h
        | isc _ _ => cases f <;> cases kws <;> exact nomatch h
        | dgt2 => cases f <;> cases kws <;> exact nomatch h
        | dgt1 => cases f <;> cases kws <;> exact nomatch h
        | dpop2 => cases f <;> cases kws <;> exact nomatch h
        | leno _ => cases f <;> cases kws <;> exact nomatch h
        | dlist _ => cases f <;> cases kws <;> exact nomatch h
        | ddict => cases f <;> cases kws <;> exact nomatch h
        | dlen => cases f <;> cases kws <;> exact nomatch h
        | ditems => cases f <;> cases kws <;> exact nomatch h
        | asd => cases f <;> cases kws <;> exact nomatch h
        | asc => cases f <;> cases kws <;> exact nomatch h
        | dictp => cases f <;> cases kws <;> exact nomatch h
        | min2 => cases f <;> cases kws <;> exact nomatch h
        | srt u _ => cases u <;> cases f <;> cases kws <;> exact nomatch h
        | stat _ _ _ => cases f with
          | Attribute _ _ _ => rfl
          | _ => cases kws <;> exact nomatch h
        | frzo => cases f with
          | Name id np =>
            cases kws with
            | nil =>
              have h : (match (if (id != ("super" : Str)) = true then some [Expr.Call (.Name id np) [] [] pos] else none) with | some vs => kA p sc es vs | none => false) = true := h
              split at h
              · rename_i e
                split at e
                · exact L2.abase_call (by assumption)
                · cases e
              · cases h
            | cons _ _ => exact nomatch h
          | _ => cases kws <;> exact nomatch h
        | _ => exact nomatch h
      | mk i y es =>
        cases f with
        | Name id np =>
          cases kws with
          | nil =>
            have h : (decide (id = y) && glB sc id && okN id && (id != ("super" : Str)) && kA p sc es []) = true := h
            simp only [Bool.and_eq_true] at h
            exact L2.abase_call h.1.2
          | cons _ _ => exact nomatch h
        | _ => exact nomatch h
      | _ =>
        exfalso
        cases f <;> cases kws <;> exact nomatch h
  | _ => rfl
section
variable {X : Cx} {T : Tab} {Wx : WX} {k : Nat} {mg : Str → Option Value} {sc : Scope} {p : Par} {Γ : Env2}
structure GOkP (P : Program) (w : World) (K : PySem.W.Frag) (mg : Str → Option Value) (base : Heap) (T : Tab) (k : Nat) (p : Par) (Γ : Env2) : Prop where
  f : ∀ c ∈ Γ.f, KnP P w K mg base T k c.x c.sp c.dws
  fx : Γ.f.map (·.x) = p.fx
  g : ∀ c ∈ Γ.g, ∃ u v, mg c.1 = some u ∧ RelV v u ∧ ∀ G, Rp T G c.2 v
  gx : Γ.g.map (·.1) = p.gx
  b : ∀ x ∈ p.bx, mg x = none
  oa : ∀ q ∈ Γ.o.a, Cls K (T.cls q.2) ∧ NoAttr K (T.cls q.2) q.1
  om : ∀ q ∈ Γ.o.m, KmP P w K mg base T k q.c q.m q.sp q.dws
  oc : ∀ q ∈ Γ.o.c, ∃ j, k = j + 1 ∧ KcP P w K mg base T j q.x q.c q.sp q.dws
  ot : ∀ q ∈ Γ.o.t, ∃ j, k = j + 2 ∧ KmP P w K mg base T j q.c q.m q.sp q.dws
  os : ∀ q ∈ Γ.o.s, KsP P w K mg base T k q.x q.m q.sp q.dws
  oi : ∀ q ∈ Γ.o.i, KiP K mg T q
  og : ∀ c ∈ Γ.o.g, ClG K (T.cls c)
  ox : ∀ q ∈ Γ.o.x, ∃ j, k = j + 1 ∧ KxP P w K mg base T j q
  oh : ∀ q ∈ Γ.o.h, KhP K mg T q
abbrev GOk (X : Cx) (T : Tab) (k : Nat) (p : Par) (Γ : Env2) : Prop := GOkP X.prog X.w X.K X.mg X.base T k p Γ
theorem vis_of (C : Ctx T k p.N mg X Wx sc) {x : Str} (h : visB sc x = true) : Vis X.env.scope x := by
  rw [C.eS]
  unfold visB at h
  split at h
  · exact .inl (by assumption)
  · exact .inr (.inl (by assumption))
  · exact .inr (.inr (by assumption))
  · cases h
theorem gl_of (C : Ctx T k p.N mg X Wx sc) {x : Str} (h : glB sc x = true) : Gl X x := by
  show X.env.scope.names.lookup x = some .globalImplicit
  rw [C.eS]
  unfold glB at h
  split at h
  · assumption
  · cases h
theorem okN_1 {x : Str} (h : okN x = true) : (x == ("__debug__" : Str)) = false ∧ (x == ("__classdict__" : Str)) = false := by
  unfold okN at h
  rw [Bool.and_eq_true, Bool.not_eq_true', Bool.not_eq_true'] at h
  exact h
theorem cal_of (O : GOk X T k p Γ) {i : Nat} {n : Str} (h : p.fx[i]? = some n) : ∃ c, Γ.f[i]? = some c ∧ c.x = n ∧ Kn X T k n c.sp c.dws := by
  rw [← O.fx, List.getElem?_map] at h
  cases e : Γ.f[i]? with
  | none => rw [e] at h; cases h
  | some c =>
    rw [e] at h
    cases h
    exact ⟨c, rfl, rfl, O.f c (List.mem_of_getElem? e)⟩
theorem glo_of (O : GOk X T k p Γ) {i : Nat} {n : Str} (h : p.gx[i]? = some n) : ∃ d u v, Γ.g[i]? = some (n, d) ∧ X.mg n = some u ∧ RelV v u ∧ ∀ G, Rp T G d v := by
  rw [← O.gx, List.getElem?_map] at h
  cases e : Γ.g[i]? with
  | none => rw [e] at h; cases h
  | some c =>
    rw [e] at h
    cases h
    obtain ⟨u, v, h1, h2, h3⟩ := O.g c (List.mem_of_getElem? e)
    exact ⟨c.2, u, v, rfl, h1, h2, h3⟩
theorem bo_ok (C : Ctx T k p.N mg X Wx sc) : ∀ o : BO, Op2 X T Wx (binaryOp o.op) o.r
  | .add m => op2_add C m
  | .sub => op2_sub
  | .mul => op_int op_mulW fun _ _ h => h
  | .fdiv => op2_fdiv
  | .mod => op2_mod
  | .pow => op2_pow
theorem co_ok (C : Ctx T k p.N mg X Wx sc) : ∀ o : CO, Op2 X T Wx (compareOp o.op) o.r
  | .lt => op2_lt
  | .le => op2_le
  | .gt => op2_gt
  | .ge => op2_ge
  | .eq => op2_eqF C
  | .ne => op2_neF C
  | .in_ => op2_inF C.eK
  | .nin => op2_notinF C.eK
  | .is_ => op2_is
  | .isn => op2_isnot
theorem cn_ok {c : Cn} {v : Const} {j : Nat} {pos : Pos} (h : kC c v = true) : PE X (.Constant v j pos) (lowE T Wx (wC c.d)) := by
  cases c with
  | non =>
    cases v with
    | none => exact e_c pe_non fun _ => rfl
    | _ => exact nomatch h
  | bool a =>
    cases v with
    | bool b =>
      have e : a = b := by simpa [kC] using h
      subst e
      exact e_c pe_bl fun _ => rfl
    | _ => exact nomatch h
  | int a =>
    cases v with
    | int b =>
      have e : a = b := by simpa [kC] using h
      subst e
      exact e_c pe_int fun _ => rfl
    | _ => exact nomatch h
  | str a =>
    cases v with
    | str b =>
      have e : a = b ∧ a.length ≤ 16777216 := by simpa [kC] using h
      obtain ⟨e, hz⟩ := e
      subst e
      exact e_c pe_str fun _ => ⟨rfl, by rw [sizeLine_eq]; exact hz⟩
    | _ => exact nomatch h
/-- f(..), f a built-in -/
theorem bi_ok (C : Ctx T k p.N mg X Wx sc) (b : BI) {n : Str} {p1 pos : Pos} {v : Expr} {vs : List Expr} {ta : TA2} (hn : n = b.x) (hg : Gl X n) (hm : X.mg n = none) (ha : PA X (v :: vs) (lowA T Wx ta))
    (he : starEach (v :: vs) X.env = (false, eval v X.env) :: starEach vs X.env) (hpl : (backTo pos (starEach vs X.env)).any (·.1) = false) : PE X (.Call (.Name n p1) (v :: vs) [] pos) (lowE T Wx (wCB b.r ta)) := by
  subst hn
  cases b with
  | len => exact (pe_callB (b_lenF C.eK) hg hm (by decide +kernel) ha (by decide +kernel) (by decide +kernel) he hpl).imp fun _ _ _ q => low_cb q
  | list m =>
    have hg : Gl X ("list" : Str) := hg
    have hm : X.mg ("list" : Str) = none := hm
    exact (pe_callTy (b_list C.eK m) hg hm (by decide +kernel) ha (by decide +kernel) (by decide +kernel) he hpl).imp fun _ _ _ q => low_cb q
  | tuple => exact (pe_callTy (b_tuple C.eK) hg hm (by decide +kernel) ha (by decide +kernel) (by decide +kernel) he hpl).imp fun _ _ _ q => low_cb q
  | int => exact (pe_callTy b_int hg hm (by decide +kernel) ha (by decide +kernel) (by decide +kernel) he hpl).imp fun _ _ _ q => low_cb q
  | str => exact (pe_callTy b_str hg hm (by decide +kernel) ha (by decide +kernel) (by decide +kernel) he hpl).imp fun _ _ _ q => low_cb q
  | all => exact (pe_callB (b_all C.eK C.calm) hg hm (by decide +kernel) ha (by decide +kernel) (by decide +kernel) he hpl).imp fun _ _ _ q => low_cb q
  | any => exact (pe_callB (b_any C.eK C.calm) hg hm (by decide +kernel) ha (by decide +kernel) (by decide +kernel) he hpl).imp fun _ _ _ q => low_cb q
  | repr => exact (pe_callB (b_repr C) hg hm (by decide +kernel) ha (by decide +kernel) (by decide +kernel) he hpl).imp fun _ _ _ q => low_cb q
end
end Z
set_option maxHeartbeats 8000000
/-! Y3: the further kinds of expressions run as their meanings say -/
namespace Z
open PySem PySem.Spec PyProof.Rows L2
section
variable {X : Cx} {T : Tab} {Wx : WX} {k : Nat} {mg : Str → Option Value} {sc : Scope} {p : Par} {Γ : Env2}
/-- a part: it runs, and what it is not -/
structure PEx (X : Cx) (T : Tab) (Wx : WX) (t : TE2) (x : Expr) : Prop where
  pe : PE X x (lowE T Wx t)
  st : ∀ xs, starEach (x :: xs) X.env = (false, eval x X.env) :: starEach xs X.env
  ab : ∀ n w, attributeBase x n X.env w = w
  ix : PlainIx x
  ixT : PlainIxT x
abbrev PEs (X : Cx) (T : Tab) (Wx : WX) : List TE2 → List Expr → Prop := Paired (PEx X T Wx)
theorem pes_pa : ∀ {ts : List TE2} {xs : List Expr}, PEs X T Wx ts xs → PA X xs (lowA T Wx (wL ts))
  | [], _, .nil => a_nil
  | t :: ts, _, .cons h r => a_cons h.pe (pes_pa r) (h.st _)
theorem pes_all : ∀ {ts : List TE2} {xs : List Expr}, PEs X T Wx ts xs → (starEach xs X.env).all (fun x => !x.1) = true
  | [], _, .nil => rfl
  | t :: ts, _, .cons h r => by rw [h.st, List.all_cons, pes_all r]; rfl
theorem pes_any {ts : List TE2} {xs : List Expr} {pos : Pos} (h : PEs X T Wx ts xs) : (backTo pos (starEach xs X.env)).any (·.1) = false := backTo_any (pes_all h)
theorem no_pe {e : Expr} : PE X e (lowE T Wx wFalse) := ⟨fun _ _ _ _ _ _ ⟨_, _, _, _, _, _, _, f, _⟩ => f.elim⟩
theorem no_pt {e : Expr} : PT X e (lowT T Wx fun _ _ _ _ => False) := ⟨fun _ _ _ _ _ _ ⟨_, _, _, _, _, _, _, f, _⟩ => f.elim⟩
theorem boo_m (o : BOO) : o.m = PySem.dunder o.op.info.2 := by cases o <;> decide +kernel
theorem coo_m (o : COO) : o.m = (cmpInfo o.op).2.1 := by cases o <;> decide +kernel
theorem coo_r (o : COO) (a b : Value) : compareOp o.op a b = richCompare o.op a b := by cases o <;> rfl
/-- operators of two parts, found by what stands in Γ -/
theorem _root_.Z.KmP.up {P : Program} {w : World} {K : PySem.W.Frag} {mg : Str → Option Value} {base : Heap} {T : Tab} {i j c : Nat} {m : Str} {sp : Sp2} {dws : List W} (F : KmP P w K mg base T i c m sp dws) (h : i ≤ j) : KmP P w K mg base T j c m sp dws := ⟨F.cl, by
  obtain ⟨f, fd, ps, ds, dvs, hm, hb, hv, hd, Fo⟩ := F.ex
  exact ⟨f, fd, ps, ds, dvs, hm, hb, hv, hd, Fo.mono h⟩⟩
theorem get_mth {i : Nat} {P : Mth → Prop} {t : Mth → TE2} {e : Expr} (h : ∀ q, Γ.o.m[i]? = some q → P q → PE X e (lowE T Wx (t q))) :
    PE X e (lowE T Wx (match Γ.o.m[i]? with | some q => wIfP (P q) (t q) | none => wFalse)) := by
  cases hq : Γ.o.m[i]? with
  | none => exact no_pe
  | some q => exact e_ifP (h q hq)
theorem get_mtt {i : Nat} {P : Mth → Prop} {t : Mth → TE2} {e : Expr} (h : ∀ q, Γ.o.t[i]? = some q → P q → PE X e (lowE T Wx (t q))) :
    PE X e (lowE T Wx (match Γ.o.t[i]? with | some q => wIfP (P q) (t q) | none => wFalse)) := by
  cases hq : Γ.o.t[i]? with
  | none => exact no_pe
  | some q => exact e_ifP (h q hq)
theorem u_cmp {i : Nat} {o : COO} (C : Ctx T k p.N mg X Wx sc) (O : GOk X T k p Γ) {q : Mth} (hq : Γ.o.m[i]? = some q) (hm : q.m = o.m) : Op2 X T Wx (compareOp o.op) (oOwn q.c q.sp q.dws) :=
  op2_ownC C (O.om q (List.mem_of_getElem? hq)) (hm.trans (coo_m o)) (coo_r o)
theorem u_in {i : Nat} {neg : Bool} (C : Ctx T k p.N mg X Wx sc) (O : GOk X T k p Γ) {q : Mth} (hq : Γ.o.m[i]? = some q) (hm : q.m = "__contains__") : Op2 X T Wx (compareOp (if neg = true then .NotIn else .In)) (oOwnIn neg q.c q.sp q.dws) := by
  have F := O.om q (List.mem_of_getElem? hq)
  rw [hm] at F
  exact op2_ownIn C F rfl
theorem cx_op2 (C : Ctx T k p.N mg X Wx sc) (O : GOk X T k p Γ) {c : CmX} {r : R22} (h : c.r Γ = some r) : Op2 X T Wx (compareOp c.op) r := by
  cases c with
  | neo i =>
    have h : (match Γ.o.t[i]? with | some q => if q.m = "__eq__" ∧ q.c ∈ Γ.o.g then some (oNeo q.c q.sp q.dws) else none | none => none) = some r := h
    split at h
    · rename_i q hq
      split at h
      · rename_i e
        cases h
        obtain ⟨j, rfl, F⟩ := O.ot q (List.mem_of_getElem? hq)
        rw [e.1] at F
        exact op2_neo C (F.up (Nat.le_succ _)) (O.og _ e.2)
      · cases h
    · cases h
  | refo ge i =>
    have h : (match Γ.o.m[i]? with | some q => if (q.m = if ge = true then "__le__" else "__lt__") ∧ q.c ∈ Γ.o.g then some (oRef q.c q.sp q.dws) else none | none => none) = some r := h
    cases hq : Γ.o.m[i]? with
    | none => rw [hq] at h; cases h
    | some q =>
      rw [hq] at h
      by_cases e : (q.m = if ge = true then "__le__" else "__lt__") ∧ q.c ∈ Γ.o.g
      · have h : (if (q.m = if ge = true then "__le__" else "__lt__") ∧ q.c ∈ Γ.o.g then some (oRef q.c q.sp q.dws) else none) = some r := h
        rw [if_pos e] at h
        cases h
        exact op2_ref C (O.om q (List.mem_of_getElem? hq)) (O.og _ e.2) e.1
      · have h : (if (q.m = if ge = true then "__le__" else "__lt__") ∧ q.c ∈ Γ.o.g then some (oRef q.c q.sp q.dws) else none) = some r := h
        rw [if_neg e] at h
        cases h
  | eql i j =>
    have h : (match Γ.o.m[i]?, Γ.o.i[j]? with | some q, some y => if q.m = "__eq__" then some (oEql y q.c q.sp q.dws) else none | _, _ => none) = some r := h
    split at h
    · rename_i q y hq hy
      split at h
      · rename_i e
        cases h
        have F := O.om q (List.mem_of_getElem? hq)
        rw [e] at F
        exact op2_eql C F (O.oi y (List.mem_of_getElem? hy))
      · cases h
    · cases h
  | nel i j =>
    have h : (match Γ.o.t[i]?, Γ.o.i[j]? with | some q, some y => if q.m = "__eq__" ∧ q.c ∈ Γ.o.g then some (oNel y q.c q.sp q.dws) else none | _, _ => none) = some r := h
    split at h
    · rename_i q y hq hy
      split at h
      · rename_i e
        cases h
        obtain ⟨j, rfl, F⟩ := O.ot q (List.mem_of_getElem? hq)
        rw [e.1] at F
        exact op2_nel C (F.up (Nat.le_succ _)) (O.og _ e.2) (O.oi y (List.mem_of_getElem? hy))
      · cases h
    · cases h
  | ind neg =>
    cases (show some (oInD neg) = some r from h)
    exact op2_inD C
  | din neg =>
    cases (show some (oDin neg) = some r from h)
    exact op2_din C neg
  | deq neg =>
    cases (show some (oDeq neg) = some r from h)
    exact op2_deq C neg
  | isb neg =>
    cases (show some (oIsB neg) = some r from h)
    exact op2_isB neg
  | ltl =>
    cases (show some oLtL = some r from h)
    exact op2_ltL C
theorem dgt2_form {x : Expr} {vs : List Expr} (h : uK p sc .dgt2 x = some vs) : ∃ o ap e f cp, x = .Call (.Attribute o "get" ap) [e, f] [] cp ∧ (ap.endLine == cp.line) = true ∧ vs = [o, e, f] := by
  simp only [uK] at h
  split at h
  · split at h
    · rename_i e
      rw [Bool.and_eq_true, decide_eq_true_eq] at e
      obtain ⟨rfl, e2⟩ := e
      exact ⟨_, _, _, _, _, rfl, e2, (Option.some.inj h).symm⟩
    · cases h
  · cases h
theorem dgt1_form {x : Expr} {vs : List Expr} (h : uK p sc .dgt1 x = some vs) : ∃ o ap e cp, x = .Call (.Attribute o "get" ap) [e] [] cp ∧ (ap.endLine == cp.line) = true ∧ vs = [o, e] := by
  simp only [uK] at h
  split at h
  · split at h
    · rename_i e
      rw [Bool.and_eq_true, decide_eq_true_eq] at e
      obtain ⟨rfl, e2⟩ := e
      exact ⟨_, _, _, _, rfl, e2, (Option.some.inj h).symm⟩
    · cases h
  · cases h
theorem dpop2_form {x : Expr} {vs : List Expr} (h : uK p sc .dpop2 x = some vs) : ∃ o ap e f cp, x = .Call (.Attribute o "pop" ap) [e, f] [] cp ∧ (ap.endLine == cp.line) = true ∧ vs = [o, e, f] := by
  simp only [uK] at h
  split at h
  · split at h
    · rename_i e
      rw [Bool.and_eq_true, decide_eq_true_eq] at e
      obtain ⟨rfl, e2⟩ := e
      exact ⟨_, _, _, _, _, rfl, e2, (Option.some.inj h).symm⟩
    · cases h
  · cases h
theorem dnew_form {x : Expr} {vs : List Expr} (h : uK p sc .dnew x = some vs) : ∃ pos, x = .Dict [] [] pos ∧ vs = [] := by
  simp only [uK] at h
  split at h
  · exact ⟨_, rfl, (Option.some.inj h).symm⟩
  · cases h
theorem blt1_form {n0 : Str} {x : Expr} {vs : List Expr} (h : (match x with | .Call (.Name n _) [v] [] _ => if (decide (n = n0) && decide (n ∈ p.bx) && glB sc n) = true then some [v] else none | _ => none) = some vs) : ∃ np v pos, x = .Call (.Name n0 np) [v] [] pos ∧ n0 ∈ p.bx ∧ glB sc n0 = true ∧ vs = [v] := by
  split at h
  · split at h
    · rename_i e
      simp only [Bool.and_eq_true, decide_eq_true_eq] at e
      obtain ⟨⟨rfl, e2⟩, e3⟩ := e
      exact ⟨_, _, _, rfl, e2, e3, (Option.some.inj h).symm⟩
    · cases h
  · cases h
theorem ditems_form {x : Expr} {vs : List Expr} (h : uK p sc .ditems x = some vs) : ∃ np e ap cp pos, x = .Call (.Name "list" np) [.Call (.Attribute e "items" ap) [] [] cp] [] pos ∧ ("list" : Str) ∈ p.bx ∧ glB sc "list" = true ∧ (ap.endLine == cp.line) = true ∧ vs = [e] := by
  simp only [uK] at h
  split at h
  · split at h
    · rename_i e
      simp only [Bool.and_eq_true, decide_eq_true_eq] at e
      obtain ⟨⟨⟨⟨rfl, e2⟩, e3⟩, rfl⟩, e5⟩ := e
      exact ⟨_, _, _, _, _, rfl, e2, e3, e5, (Option.some.inj h).symm⟩
    · cases h
  · cases h
theorem min2_form {x : Expr} {vs : List Expr} (h : uK p sc .min2 x = some vs) : ∃ np v u pos, x = .Call (.Name "min" np) [v, u] [] pos ∧ ("min" : Str) ∈ p.bx ∧ glB sc "min" = true ∧ vs = [v, u] := by
  simp only [uK] at h
  split at h
  · split at h
    · rename_i e
      simp only [Bool.and_eq_true, decide_eq_true_eq] at e
      obtain ⟨⟨rfl, e2⟩, e3⟩ := e
      exact ⟨_, _, _, _, rfl, e2, e3, (Option.some.inj h).symm⟩
    · cases h
  · cases h
theorem lock_form {i : Nat} {f : Option Str} {x : Expr} {vs : List Expr} (h : uK p sc (.lock i f) x = some vs) : vs = [x] := by
  simp only [uK] at h
  split at h
  · exact (Option.some.inj h).symm
  · exact (Option.some.inj h).symm
  · cases h
theorem asd_form {x : Expr} {vs : List Expr} (h : uK p sc .asd x = some vs) : vs = [x] := by
  simp only [uK] at h
  split at h
  · exact (Option.some.inj h).symm
  · exact (Option.some.inj h).symm
  · exact (Option.some.inj h).symm
  · cases h
theorem asc_form {x : Expr} {vs : List Expr} (h : uK p sc .asc x = some vs) : vs = [x] := by
  simp only [uK] at h
  split at h
  · exact (Option.some.inj h).symm
  · exact (Option.some.inj h).symm
  · cases h
theorem u_ok (C : Ctx T k p.N mg X Wx sc) (O : GOk X T k p Γ) (u : U) {x : Expr} {vs : List Expr} {ts : List TE2} (h : uK p sc u x = some vs) (H : PEs X T Wx ts vs) : PE X x (lowE T Wx (wU Γ u ts)) := by
  cases u with
  | bino o i =>
    cases x with
    | BinOp l op r pos =>
      have h : (if op = o.op then some [l, r] else none) = some vs := h
      by_cases e : op = o.op
      · rw [if_pos e] at h
        have h2 := Option.some.inj h
        subst h2
        subst e
        cases H with
        | cons h1 H => cases H with
          | cons h2 H => cases H with
            | nil =>
              refine get_mth (P := fun q => q.m = o.m ∧ q.c ∈ Γ.o.g) (t := fun q => wBin (oOwn q.c q.sp q.dws) _ _) fun q hq hp => ?_
              exact e_bin (op2_own C (O.om q (List.mem_of_getElem? hq)) (O.og _ hp.2) (hp.1.trans (boo_m o))) h1.pe h2.pe
      · rw [if_neg e] at h; cases h
    | _ => exact nomatch h
  | cmpo o i =>
    cases x with
    | Compare l ops rs pos =>
      match ops, rs, h with
      | [op], [r], h =>
        have h : (if (decide (op = o.op) && !behindInMarks op r) = true then some [l, r] else none) = some vs := h
        split at h
        · rename_i e; cases h
          simp only [Bool.and_eq_true, decide_eq_true_eq, Bool.not_eq_true'] at e
          obtain ⟨rfl, e2⟩ := e
          cases H with
          | cons h1 H => cases H with
            | cons h2 H => cases H with
              | nil =>
                refine get_mth (P := fun q => q.m = o.m) (t := fun q => wBin (oOwn q.c q.sp q.dws) _ _) fun q hq hp => ?_
                exact e_cmp (u_cmp C O hq hp) h1.pe h2.pe e2
        · cases h
    | _ => exact nomatch h
  | ino neg i =>
    cases x with
    | Compare l ops rs pos =>
      match ops, rs, h with
      | [op], [r], h =>
        by_cases e : (decide (op = if neg = true then .NotIn else .In) && !behindInMarks op r) = true
        · have h : (if (decide (op = if neg = true then .NotIn else .In) && !behindInMarks op r) = true then some [l, r] else none) = some vs := h
          rw [if_pos e] at h
          cases h
          simp only [Bool.and_eq_true, decide_eq_true_eq, Bool.not_eq_true'] at e
          obtain ⟨rfl, e2⟩ := e
          cases H with
          | cons h1 H => cases H with
            | cons h2 H => cases H with
              | nil =>
                refine get_mth (P := fun q => q.m = "__contains__") (t := fun q => wBin (oOwnIn neg q.c q.sp q.dws) _ _) fun q hq hp => ?_
                exact e_cmp (u_in C O hq hp) h1.pe h2.pe e2
        · have h : (if (decide (op = if neg = true then .NotIn else .In) && !behindInMarks op r) = true then some [l, r] else none) = some vs := h
          rw [if_neg e] at h; cases h
    | _ => exact nomatch h
  | dget =>
    cases x with
    | Subscript l r pos =>
      cases (show some [l, r] = some vs from h)
      cases H with
      | cons h1 H => cases H with
        | cons h2 H => cases H with
          | nil => exact e_dget C h1.pe h2.pe h2.ix
    | _ => exact nomatch h
  | geto i =>
    cases x with
    | Subscript l r pos =>
      cases (show some [l, r] = some vs from h)
      cases H with
      | cons h1 H => cases H with
        | cons h2 H => cases H with
          | nil =>
            refine get_mtt (P := fun q => q.m = "__getitem__" ∧ q.c ∈ Γ.o.g) (t := fun q => wBin (oOwnGet q.c q.sp q.dws) _ _) fun q hq hp => ?_
            obtain ⟨j, rfl, F⟩ := O.ot q (List.mem_of_getElem? hq)
            rw [hp.1] at F
            exact e_ixO C (F.up (Nat.le_succ _)) (O.og _ hp.2).gf h1.pe h2.pe h2.ixT
    | _ => exact nomatch h
  | dgt2 =>
    obtain ⟨o, ap, e, f, cp, rfl, hl, rfl⟩ := dgt2_form h
    cases H with
    | cons h1 H => cases H with
      | cons h2 H => cases H with
        | cons h3 H => cases H with
          | nil =>
            refine e_dget2 C h1.pe h2.pe h3.pe ⟨h1.ab _ _, ?_, hl, ?_⟩
            · rw [backTo_all (pes_all (.cons h2 (.cons h3 .nil)))]
              rfl
            · rw [h2.st, h3.st]
              rfl
  | dgt1 =>
    obtain ⟨o, ap, e, cp, rfl, hl, rfl⟩ := dgt1_form h
    cases H with
    | cons h1 H => cases H with
      | cons h2 H => cases H with
        | nil =>
          refine e_dget1 C h1.pe h2.pe ⟨h1.ab _ _, ?_, hl, ?_⟩
          · rw [backTo_all (pes_all (.cons h2 .nil))]
            rfl
          · rw [h2.st]
            rfl
  | dpop2 =>
    obtain ⟨o, ap, e, f, cp, rfl, hl, rfl⟩ := dpop2_form h
    cases H with
    | cons h1 H => cases H with
      | cons h2 H => cases H with
        | cons h3 H => cases H with
          | nil =>
            refine e_dpop2 C h1.pe h2.pe h3.pe ⟨h1.ab _ _, ?_, hl, ?_⟩
            · rw [backTo_all (pes_all (.cons h2 (.cons h3 .nil)))]
              rfl
            · rw [h2.st, h3.st]
              rfl
  | leno i =>
    obtain ⟨np, v, pos, rfl, hb, hg, rfl⟩ := blt1_form (n0 := "len") h
    cases H with
    | cons h1 H => cases H with
      | nil =>
        refine get_mtt (P := fun q => q.m = "__len__") (t := fun q => wLenO q.c q.sp q.dws _) fun q hq hp => ?_
        obtain ⟨j, rfl, F⟩ := O.ot q (List.mem_of_getElem? hq)
        rw [hp] at F
        exact e_lenO C (F.up (Nat.le_succ _)) (gl_of C hg) (O.b _ hb) h1.pe (h1.st [])
  | dnew =>
    obtain ⟨pos, rfl, rfl⟩ := dnew_form h
    cases H
    exact e_dnew
  | dlist m =>
    obtain ⟨np, v, pos, rfl, hb, hg, rfl⟩ := blt1_form (n0 := "list") h
    cases H with
    | cons h1 H => cases H with
      | nil => exact (pe_callTy (b_listK C.calm m) (gl_of C hg) (O.b _ hb) (by decide +kernel) (pes_pa (.cons h1 .nil)) (by decide +kernel) (by decide +kernel) (h1.st []) rfl).imp fun _ _ _ q => low_cb q
  | ddict =>
    obtain ⟨np, v, pos, rfl, hb, hg, rfl⟩ := blt1_form (n0 := "dict") h
    cases H with
    | cons h1 H => cases H with
      | nil => exact (pe_callTy b_dictK (gl_of C hg) (O.b _ hb) (by decide +kernel) (pes_pa (.cons h1 .nil)) (by decide +kernel) (by decide +kernel) (h1.st []) rfl).imp fun _ _ _ q => low_cb q
  | dlen =>
    obtain ⟨np, v, pos, rfl, hb, hg, rfl⟩ := blt1_form (n0 := "len") h
    cases H with
    | cons h1 H => cases H with
      | nil => exact (pe_callB b_lenK (gl_of C hg) (O.b _ hb) (by decide +kernel) (pes_pa (.cons h1 .nil)) (by decide +kernel) (by decide +kernel) (h1.st []) rfl).imp fun _ _ _ q => low_cb q
  | ditems =>
    obtain ⟨np, e, ap, cp, pos, rfl, hb, hg, hl, rfl⟩ := ditems_form h
    cases H with
    | cons h1 H => cases H with
      | nil => exact e_listItems C h1.pe (gl_of C hg) (O.b _ hb) (h1.ab _ _) hl
  | dictp =>
    obtain ⟨np, v, pos, rfl, hb, hg, rfl⟩ := blt1_form (n0 := "dict") h
    cases H with
    | cons h1 H => cases H with
      | nil => exact (pe_callTy (b_dictP C.eK C.calm) (gl_of C hg) (O.b _ hb) (by decide +kernel) (pes_pa (.cons h1 .nil)) (by decide +kernel) (by decide +kernel) (h1.st []) rfl).imp fun _ _ _ q => low_cb q
  | min2 =>
    obtain ⟨np, v, u, pos, rfl, hb, hg, rfl⟩ := min2_form h
    cases H with
    | cons h1 H => cases H with
      | cons h2 H => cases H with
        | nil => exact (pe_callB (b_min2 C.calm) (gl_of C hg) (O.b _ hb) (by decide +kernel) (pes_pa (.cons h1 (.cons h2 .nil))) (by decide +kernel) (by decide +kernel) (h1.st _) (by rw [h2.st]; rfl)).imp fun _ _ _ q => low_cb q
  | asd =>
    have e : vs = [x] := asd_form h
    subst e
    cases H with
    | cons h1 H => cases H with
      | nil => exact e_asd h1.pe
  | asc =>
    have e : vs = [x] := asc_form h
    subst e
    cases H with
    | cons h1 H => cases H with
      | nil => exact e_asc h1.pe
  | lock i f =>
    have e : vs = [x] := lock_form h
    subst e
    cases H with
    | cons h1 H => cases H with
      | nil => exact e_lock h1.pe
  | ib sub =>
    cases x with
    | BinOp l op r pos =>
      have h : (if op = (if sub = true then .Sub else .Add) then some [l, r] else none) = some vs := h
      by_cases e : op = (if sub = true then .Sub else .Add)
      · rw [if_pos e] at h
        have h2 := Option.some.inj h
        subst h2
        subst e
        cases H with
        | cons h1 H => cases H with
          | cons h2 H => cases H with
            | nil => exact e_bin (op2_IB sub) h1.pe h2.pe
      · rw [if_neg e] at h; cases h
    | _ => exact nomatch h
  | rep =>
    cases x with
    | BinOp l op r pos =>
      cases op with
      | Mult =>
        cases (show some [l, r] = some vs from h)
        cases H with
        | cons h1 H => cases H with
          | cons h2 H => cases H with
            | nil => exact e_bin op2_rep h1.pe h2.pe
      | _ => exact nomatch h
    | _ => exact nomatch h
  | inv i =>
    cases x with
    | UnaryOp op v pos =>
      match op, h with
      | .Invert, h =>
        cases (show some [v] = some vs from h)
        cases H with
        | cons h1 H => cases H with
          | nil =>
            refine get_mth (P := fun q => q.m = "__invert__") (t := fun q => wOwn1 q.c q.sp q.dws _) fun q hq hp => ?_
            have F := O.om q (List.mem_of_getElem? hq)
            rw [hp] at F
            exact e_inv C F h1.pe
    | _ => exact nomatch h
  | stro i =>
    cases x with
    | Call f as kws pos =>
      match f, as, kws, h with
      | .Name n np, [v], [], h =>
        have h : (if (decide (n = ("str" : Str)) && decide (n ∈ p.bx) && glB sc n) = true then some [v] else none) = some vs := h
        split at h
        · rename_i e; cases h
          simp only [Bool.and_eq_true, decide_eq_true_eq] at e
          obtain ⟨⟨rfl, e2⟩, e3⟩ := e
          cases H with
          | cons h1 H => cases H with
            | nil =>
              refine get_mtt (P := fun q => q.m = "__str__") (t := fun q => wOwnS q.c q.sp q.dws _) fun q hq hp => ?_
              obtain ⟨j, rfl, F⟩ := O.ot q (List.mem_of_getElem? hq)
              rw [hp] at F
              exact e_strO C F (gl_of C e3) (O.b _ e2) h1.pe (h1.st [])
        · cases h
    | _ => exact nomatch h
  | fmto i =>
    cases x with
    | JoinedStr es pos =>
      match es, h with
      | [.FormattedValue v kk none q0], h =>
        have h : (if kk = -1 then some [v] else none) = some vs := h
        split at h
        · rename_i e; subst e; cases h
          cases H with
          | cons h1 H => cases H with
            | nil =>
              refine get_mtt (P := fun q => q.m = "__str__" ∧ q.c ∈ Γ.o.g) (t := fun q => wOwnS q.c q.sp q.dws _) fun q hq hp => ?_
              obtain ⟨j, rfl, F⟩ := O.ot q (List.mem_of_getElem? hq)
              rw [hp.1] at F
              have F' : KmP X.prog X.w X.K X.mg X.base T (j + 1) q.c "__str__" q.sp q.dws := ⟨F.cl, by
                obtain ⟨f, fd, ps, ds, dvs, hm, hb, hv, hd, Fo⟩ := F.ex
                exact ⟨f, fd, ps, ds, dvs, hm, hb, hv, hd, Fo.mono (Nat.le_succ _)⟩⟩
              exact e_fmtO C F' (O.og _ hp.2) (O.og _ hp.2).fm h1.pe
        · cases h
    | _ => exact nomatch h
  | callo i =>
    cases x with
    | Call f as kws pos =>
      match f, as, kws, h with
      | .Name n np, v :: ws, [], h =>
        have h : (if (n != ("super" : Str)) = true then some (.Name n np :: v :: ws) else none) = some vs := h
        split at h
        · cases h
          cases H with
          | cons h1 H =>
            refine get_mth (P := fun q => q.m = "__call__" ∧ q.c ∈ Γ.o.g) (t := fun q => wOwnCall q.c q.sp q.dws _ (wL _)) fun q hq hp => ?_
            have F := O.om q (List.mem_of_getElem? hq)
            rw [hp.1] at F
            have st : starEach (v :: ws) X.env = (false, eval v X.env) :: starEach ws X.env := by cases H with | cons a _ => exact a.st _
            have an : (backTo pos (starEach ws X.env)).any (·.1) = false := by cases H with | cons _ b => exact pes_any b
            exact e_callO C F (O.og _ hp.2).fi h1.pe (pes_pa H) (by rfl) st an
        · cases h
      | .UnaryOp o a q0, v :: ws, [], h =>
        cases (show some (.UnaryOp o a q0 :: v :: ws) = some vs from h)
        cases H with
        | cons h1 H =>
          refine get_mth (P := fun q => q.m = "__call__" ∧ q.c ∈ Γ.o.g) (t := fun q => wOwnCall q.c q.sp q.dws _ (wL _)) fun q hq hp => ?_
          have F := O.om q (List.mem_of_getElem? hq)
          rw [hp.1] at F
          have st : starEach (v :: ws) X.env = (false, eval v X.env) :: starEach ws X.env := by cases H with | cons a _ => exact a.st _
          have an : (backTo pos (starEach ws X.env)).any (·.1) = false := by cases H with | cons _ b => exact pes_any b
          exact e_callO C F (O.og _ hp.2).fi h1.pe (pes_pa H) (by rfl) st an
    | _ => exact nomatch h
  | stat i y m =>
    cases x with
    | Call f as kws pos =>
      match f, kws, h with
      | .Attribute (.Name n np) a ap, [], h =>
        have h : (if (decide (n = y) && decide (a = m) && glB sc n && okN n && (ap.endLine == pos.line) && decide (as.length < 20)) = true then some as else none) = some vs := h
        split at h
        · rename_i e; cases h
          simp only [Bool.and_eq_true, decide_eq_true_eq] at e
          obtain ⟨⟨⟨⟨⟨rfl, rfl⟩, e3⟩, e4⟩, e5⟩, e6⟩ := e
          show PE X _ (lowE T Wx (match Γ.o.s[i]? with | some q => wIfP (q.x = n ∧ q.m = a) (wCall q.sp q.dws (wL ts)) | none => wFalse))
          cases hq : Γ.o.s[i]? with
          | none => exact no_pe
          | some q =>
            refine e_ifP fun hp => ?_
            have F := O.os q (List.mem_of_getElem? hq)
            rw [hp.1, hp.2] at F
            have all := backTo_all (pos := pos) (pes_all H)
            have ht := ht_of (o := .Name n np) (m := a) (apos := ap) (env := X.env) (by rfl) all (by omega) e5
            cases H with
            | nil => exact e_stat0 C F (gl_of C e3) (okN_1 e4).1 ht
            | cons a' b' => exact e_stat C F (gl_of C e3) (okN_1 e4).1 (pes_pa (.cons a' b')) (a'.st _) (pes_any b') ht
        · cases h
    | _ => exact nomatch h
  | isc i y =>
    cases x with
    | Call f as kws pos =>
      match f, as, kws, h with
      | .Name n np, [v, .Name m mp], [], h =>
        have h : (if (decide (n = ("isinstance" : Str)) && decide (n ∈ p.bx) && glB sc n && decide (m = y) && glB sc m && okN m) = true then some [v] else none) = some vs := h
        split at h
        · rename_i e; cases h
          simp only [Bool.and_eq_true, decide_eq_true_eq] at e
          obtain ⟨⟨⟨⟨⟨rfl, e2⟩, e3⟩, rfl⟩, e5⟩, e6⟩ := e
          cases H with
          | cons h1 H => cases H with
            | nil =>
              show PE X _ (lowE T Wx (match Γ.o.i[i]? with | some q => wIfP (q.x = m) (wIsc q _) | none => wFalse))
              cases hq : Γ.o.i[i]? with
              | none => exact no_pe
              | some q =>
                refine e_ifP fun hp => ?_
                subst hp
                exact e_isc C.eK (O.oi q (List.mem_of_getElem? hq)) (gl_of C e3) (O.b _ e2) (gl_of C e5) (okN_1 e6).1 h1.pe (h1.st _)
        · cases h
    | _ => exact nomatch h
  | cmpx c =>
    cases x with
    | Compare l ops rs pos =>
      match ops, rs, h with
      | [op], [r], h =>
        have h : (if (decide (op = c.op) && !behindInMarks op r) = true then some [l, r] else none) = some vs := h
        split at h
        · rename_i e; cases h
          simp only [Bool.and_eq_true, decide_eq_true_eq, Bool.not_eq_true'] at e
          obtain ⟨rfl, e2⟩ := e
          cases H with
          | cons h1 H => cases H with
            | cons h2 H => cases H with
              | nil =>
                show PE X _ (lowE T Wx (match c.r Γ with | some r => wBin r _ _ | none => wFalse))
                cases hr : c.r Γ with
                | none => exact no_pe
                | some r => exact e_cmp (cx_op2 C O hr) h1.pe h2.pe e2
        · cases h
    | _ => exact nomatch h
  | srt u m =>
    cases u with
    | true =>
      cases x with
      | Call f as kws pos =>
        match f, as, kws, h with
        | .Name n np, [.Call (.Name y yp) [v] [] q], [], h =>
          have h : (if (decide (n = ("sorted" : Str)) && decide (n ∈ p.bx) && glB sc n && (decide (y = ("set" : Str)) && decide (y ∈ p.bx) && glB sc y)) = true then some [v] else none) = some vs := h
          split at h
          · rename_i e; cases h
            simp only [Bool.and_eq_true, decide_eq_true_eq] at e
            obtain ⟨⟨⟨rfl, e2⟩, e3⟩, ⟨rfl, e4⟩, e5⟩ := e
            cases H with
            | cons h1 H => cases H with
              | nil => exact e_srt C (gl_of C e3) (O.b _ e2) (gl_of C e5) (O.b _ e4) h1.pe (h1.st _)
          · cases h
      | _ => exact nomatch h
    | false =>
      cases x with
      | Call f as kws pos =>
        match f, as, kws, h with
        | .Name n np, [v], [], h =>
          have h : (if (decide (n = ("sorted" : Str)) && decide (n ∈ p.bx) && glB sc n) = true then some [v] else none) = some vs := h
          split at h
          · rename_i e; cases h
            simp only [Bool.and_eq_true, decide_eq_true_eq] at e
            obtain ⟨⟨rfl, e2⟩, e3⟩ := e
            cases H with
            | cons h1 H => cases H with
              | nil => exact e_srl C (gl_of C e3) (O.b _ e2) h1.pe (h1.st _)
          · cases h
      | _ => exact nomatch h
  | alt =>
    cases x with
    | Call f as kws pos =>
      cases as with
      | nil => exact nomatch h
      | cons v r =>
        cases h
        cases H with
        | cons h1 H => cases H with
          | cons h2 H => cases H with
            | nil => exact e_alt h1.pe h2.pe
    | _ => exact nomatch h
  | frzo =>
    cases x with
    | Call f as kws pos =>
      match f, kws, h with
      | .Name n np, [], h =>
        have h : (if (n != ("super" : Str)) = true then some [Expr.Call (.Name n np) as [] pos] else none) = some vs := h
        split at h
        · cases h
          cases H with
          | cons h1 H => cases H with
            | nil => exact e_frzO h1.pe
        · cases h
    | _ => exact nomatch h
theorem tru_of {X : Cx} {mg : Str → Option Value} {Wx : WX} {sc : Scope} {a : Expr} {ta : TE2} (C : Ctx T k p.N mg X Wx sc) (h : PE X a (lowE T Wx ta)) (hn : match a with | .Name .. => True | .Call .. => True | .Subscript .. => True | _ => False) : PT X a (lowT T Wx (wTru ta)) := by
  refine t_tru C h fun whole => ?_
  cases a <;> first | exact hn.elim | rfl
theorem get_mtT {i : Nat} {P : Mth → Prop} {t : Mth → TE2} {e : Expr} (h : ∀ q, Γ.o.m[i]? = some q → P q → PT X e (lowT T Wx (wT (t q)))) :
    PT X e (lowT T Wx (wT (match Γ.o.m[i]? with | some q => wIfP (P q) (t q) | none => wFalse))) := by
  cases hq : Γ.o.m[i]? with
  | none => exact no_pt
  | some q => exact ⟨fun pins s σ H Q I z => by
    obtain ⟨G, σ2, M, Q2, E2, sr, rs, ⟨hp, q2⟩, pq, px⟩ := z
    exact (h q hq hp).run pins s σ H Q I ⟨G, σ2, M, Q2, E2, sr, rs, q2, pq, px⟩⟩
theorem u_okT (C : Ctx T k p.N mg X Wx sc) (O : GOk X T k p Γ) (u : U) {x : Expr} {vs : List Expr} {ts : List TE2} (h : uK p sc u x = some vs) (H : PEs X T Wx ts vs) : PT X x (lowT T Wx (wUT Γ u ts)) := by
  cases u with
  | cmpo o i =>
    cases x with
    | Compare l ops rs pos =>
      match ops, rs, h with
      | [op], [r], h =>
        have h : (if (decide (op = o.op) && !behindInMarks op r) = true then some [l, r] else none) = some vs := h
        split at h
        · rename_i e; cases h
          simp only [Bool.and_eq_true, decide_eq_true_eq, Bool.not_eq_true'] at e
          obtain ⟨rfl, e2⟩ := e
          cases H with
          | cons h1 H => cases H with
            | cons h2 H => cases H with
              | nil =>
                refine get_mtT (P := fun q => q.m = o.m) (t := fun q => wBin (oOwn q.c q.sp q.dws) _ _) fun q hq hp => ?_
                exact t_cmp (u_cmp C O hq hp) h1.pe h2.pe e2
        · cases h
    | _ => exact nomatch h
  | cmpx c =>
    cases x with
    | Compare l ops rs pos =>
      match ops, rs, h with
      | [op], [r], h =>
        have h : (if (decide (op = c.op) && !behindInMarks op r) = true then some [l, r] else none) = some vs := h
        split at h
        · rename_i e; cases h
          simp only [Bool.and_eq_true, decide_eq_true_eq, Bool.not_eq_true'] at e
          obtain ⟨rfl, e2⟩ := e
          cases H with
          | cons h1 H => cases H with
            | cons h2 H => cases H with
              | nil =>
                show PT X _ (lowT T Wx (wT (match c.r Γ with | some r => wBin r _ _ | none => wFalse)))
                cases hr : c.r Γ with
                | none => exact no_pt
                | some r => exact t_cmp (cx_op2 C O hr) h1.pe h2.pe e2
        · cases h
    | _ => exact nomatch h
  | ino neg i =>
    cases x with
    | Compare l ops rs pos =>
      match ops, rs, h with
      | [op], [r], h =>
        by_cases e : (decide (op = if neg = true then .NotIn else .In) && !behindInMarks op r) = true
        · have h : (if (decide (op = if neg = true then .NotIn else .In) && !behindInMarks op r) = true then some [l, r] else none) = some vs := h
          rw [if_pos e] at h
          cases h
          simp only [Bool.and_eq_true, decide_eq_true_eq, Bool.not_eq_true'] at e
          obtain ⟨rfl, e2⟩ := e
          cases H with
          | cons h1 H => cases H with
            | cons h2 H => cases H with
              | nil =>
                refine get_mtT (P := fun q => q.m = "__contains__") (t := fun q => wBin (oOwnIn neg q.c q.sp q.dws) _ _) fun q hq hp => ?_
                exact t_cmp (u_in C O hq hp) h1.pe h2.pe e2
        · have h : (if (decide (op = if neg = true then .NotIn else .In) && !behindInMarks op r) = true then some [l, r] else none) = some vs := h
          rw [if_neg e] at h; cases h
    | _ => exact nomatch h
  | callo i =>
    have z := u_ok C O (.callo i) h H
    cases x with
    | Call f as kws pos => exact tru_of C z trivial
    | _ => exact nomatch h
  | stat i y m =>
    have z := u_ok C O (.stat i y m) h H
    cases x with
    | Call f as kws pos => exact tru_of C z trivial
    | _ => exact nomatch h
  | isc i y =>
    have z := u_ok C O (.isc i y) h H
    cases x with
    | Call f as kws pos => exact tru_of C z trivial
    | _ => exact nomatch h
  | _ => exact no_pt
end
end Z
set_option maxHeartbeats 8000000
/-! Z11: every checked expression runs as its meaning says -/
namespace Z
open PySem PySem.Spec PyProof.Rows L2
section
variable {T : Tab} {k : Nat} {p : Par} {Γ : Env2}
theorem Kn_blk {X : Cx} {s : Shared} {H : Hp} {scope : Scope} {ce : Env} {fp : List Addr} {x : Str} {sp : Sp2} {dws : List W} (h : Kn X T k x sp dws) : Kn (X.blk s H scope ce fp) T k x sp dws := h
theorem GOk_blk {X : Cx} {s : Shared} {H : Hp} {scope : Scope} {ce : Env} {fp : List Addr} (h : GOk X T k p Γ) : GOk (X.blk s H scope ce fp) T k p Γ := h
theorem Ctx.blk {X : Cx} {mg : Str → Option Value} {Wx : WX} {sc : Scope} {s : Shared} {H : Hp} {scope : Scope} {C : Addr} {cl : List (Str × Addr)} {fp : List Addr} (h : Ctx T k p.N mg X Wx sc) : Ctx T k p.N mg (X.blk s H scope (compEnvC scope cl C X.env) fp) W0 (relS scope sc) :=
  ⟨h.eK, h.eM, h.room, h.gd, h.calm, takes0, h.eN, h.nd, by rw [← h.eS]; rfl⟩
theorem loc_blk {X : Cx} {mg : Str → Option Value} {Wx : WX} {sc : Scope} {s : Shared} {H : Hp} {scope : Scope} {C : Addr} {cl : List (Str × Addr)} {fp : List Addr} (h : Ctx T k p.N mg X Wx sc) {n : Str} {i : Nat} {pos : Pos} (hi : p.N[i]? = some n) (hl : locB scope n = true) :
    PG (X.blk s H scope (compEnvC scope cl C X.env) fp) (.Name n pos) (lowG T W0 (wgName i)) := by
  have e : (compEnvC scope cl C X.env).scope = relS scope X.env.scope := rfl
  unfold locB at hl
  split at hl
  · rename_i q
    have q' : (relS scope X.env.scope).names.lookup n = some .local := lookup_relS_keep (by decide) q
    exact g_name (pg_name (by rw [h.eN]; exact h.nd) (by rw [h.eN]; exact hi) (.inl q') (.inr q'))
  · rename_i q
    have q' : (relS scope X.env.scope).names.lookup n = some .cell := lookup_relS_keep (by decide) q
    exact g_name (pg_name (by rw [h.eN]; exact h.nd) (by rw [h.eN]; exact hi) (.inr q') (.inl (by show (scope.names.lookup n == some .cell) = true; rw [q]; rfl)))
  · cases hl
/-- a comprehension -/
theorem e_lc {X : Cx} {mg : Str → Option Value} {Wx : WX} {sc : Scope} {m : Bool} {ti : TI2} {tt : TT2} {te : TE2} {n : Str} {i : Nat} {np pos : Pos} {el iter : Expr} {ifs : List Expr} {scope : Scope} (C : Ctx T k p.N mg X Wx sc)
    (hi : p.N[i]? = some n) (hl : locB scope n = true) (hb : blkC p.N sc scope [(n, i)] = true) (h1 : PI X (.Name n np) iter (lowI T Wx ti))
    (h2 : ∀ (s : Shared) (H : Hp) (D : Addr) (cl : List (Str × Addr)) (fp : List Addr), PTs (X.blk s H scope (compEnvC scope cl D X.env) fp) ifs (lowT T W0 tt))
    (h3 : ∀ (s : Shared) (H : Hp) (D : Addr) (cl : List (Str × Addr)) (fp : List Addr), PE (X.blk s H scope (compEnvC scope cl D X.env) fp) el (lowE T W0 te)) (hs : ∀ v, foldedSetIterable iter X.env v = pure v) :
    PE X (.ListComp el [⟨.Name n np, iter, ifs, 0⟩] scope pos) (lowE T Wx (wLc m ti (wgName i) tt te [i])) := by
  have bk : BlkOk X.N X.env.scope scope [(n, i)] := by rw [C.eN, C.eS]; exact blkOk_by hb
  have hg : ∀ (s : Shared) (H : Hp) (D : Addr) (cl : List (Str × Addr)) (fp : List Addr), PG (X.blk s H scope (compEnvC scope cl D X.env) fp) (.Name n np) (gName i) := fun s H D cl fp => by
    unfold locB at hl
    split at hl
    · rename_i q
      have q' : (relS scope X.env.scope).names.lookup n = some .local := lookup_relS_keep (by decide) q
      exact pg_name (by rw [C.eN]; exact C.nd) (by rw [C.eN]; exact hi) (.inl q') (.inr q')
    · rename_i q
      have q' : (relS scope X.env.scope).names.lookup n = some .cell := lookup_relS_keep (by decide) q
      exact pg_name (by rw [C.eN]; exact C.nd) (by rw [C.eN]; exact hi) (.inr q') (.inl (by show (scope.names.lookup n == some .cell) = true; rw [q]; rfl))
    · cases hl
  exact (pe_lc C.calm (by rw [C.eN]; exact C.nd) h1 bk hg h2 h3 hs).imp fun σ H Q q => low_lc gl_name q
def gsN : List Nat → TGs
  | [] => gNil
  | i :: r => gCons (gName i) (gsN r)
theorem wTs_no2 : ∀ is ws σ M Q E, wTs is ws σ M Q E → wTs is ws σ M Q fun _ _ => False
  | [] => wgNil_no
  | i :: r => wgCons_no (wTs_no2 r)
theorem wipe_wipe (σ : L2.St) : ∀ vs : List Nat, wipe (wipe σ vs) vs = wipe σ vs := by
  have self : ∀ (vs : List Nat) (σ : L2.St) (i : Nat), i ∈ vs → (wipe σ vs).set i none = wipe σ vs := by
    intro vs
    induction vs with
    | nil => intro _ _ h; cases h
    | cons v r ih =>
      intro σ i h
      show ((wipe σ r).set v none).set i none = (wipe σ r).set v none
      by_cases e : i = v
      · subst e; rw [List.set_set]
      · have hi : i ∈ r := by
          rcases List.mem_cons.mp h with h | h
          · exact absurd h e
          · exact h
        rw [← List.set_comm _ _ e, ih σ i hi]
  have gen : ∀ (ws vs : List Nat) (σ : L2.St), (∀ i ∈ ws, i ∈ vs) → wipe (wipe σ vs) ws = wipe σ vs := by
    intro ws
    induction ws with
    | nil => intro _ _ _; rfl
    | cons v r ih =>
      intro vs σ h
      show (wipe (wipe σ vs) r).set v none = wipe σ vs
      rw [ih vs σ fun i hi => h i (List.mem_cons_of_mem _ hi), self vs σ v (h v List.mem_cons_self)]
  exact fun vs => gen vs vs σ fun _ h => h
theorem tgs_blk {X : Cx} {mg : Str → Option Value} {Wx : WX} {sc : Scope} {s : Shared} {H : Hp} {scope : Scope} {C : Addr} {cl : List (Str × Addr)} {fp : List Addr} (h : Ctx T k p.N mg X Wx sc) : ∀ {vs : List Nat} {es : List Expr}, tgsB p scope vs es = true →
    PGs (X.blk s H scope (compEnvC scope cl C X.env) fp) es (gsN vs) ∧ (∀ env : Env, (assignEach es env).length = vs.length) ∧ ∀ env : Env, (assignEach es env).findIdx? (·.1) = none
  | [], [], _ => ⟨pgs_nil, fun _ => rfl, fun _ => rfl⟩
  | [], _ :: _, q => nomatch q
  | _ :: _, [], q => nomatch q
  | i :: vs, e :: es, q => by
    simp only [tgsB] at q
    split at q
    · rename_i n np es' he
      cases he
      simp only [Bool.and_eq_true, decide_eq_true_eq] at q
      obtain ⟨⟨hi, hl⟩, hr⟩ := q
      obtain ⟨q1, q2, q3⟩ := tgs_blk (s := s) (H := H) (C := C) (cl := cl) (fp := fp) h hr
      refine ⟨pgs_cons ?_ q1 rfl, fun env => ?_, fun env => ?_⟩
      · unfold locB at hl
        split at hl
        · rename_i w
          have q' : (relS scope X.env.scope).names.lookup n = some .local := lookup_relS_keep (by decide) w
          exact pg_name (by rw [h.eN]; exact h.nd) (by rw [h.eN]; exact hi) (.inl q') (.inr q')
        · rename_i w
          have q' : (relS scope X.env.scope).names.lookup n = some .cell := lookup_relS_keep (by decide) w
          exact pg_name (by rw [h.eN]; exact h.nd) (by rw [h.eN]; exact hi) (.inr q') (.inl (by show (scope.names.lookup n == some .cell) = true; rw [w]; rfl))
        · cases hl
      · show (assignEach _ env).length + 1 = vs.length + 1
        rw [q2]
      · show ((false, assign (.Name n np) env) :: assignEach _ env).findIdx? (·.1) = none
        rw [List.findIdx?_cons, q3]
        rfl
    · cases q
theorem wipe_put : ∀ (all : List Nat) (σ : L2.St) (i : Nat) (x : Option V), wipe (σ.set i x) all = if i ∈ all then wipe σ all else (wipe σ all).set i x
  | [], σ, i, x => rfl
  | v :: r, σ, i, x => by
    show (wipe (σ.set i x) r).set v none = if i ∈ v :: r then (wipe σ r).set v none else ((wipe σ r).set v none).set i x
    rw [wipe_put r]
    by_cases h : i ∈ r
    · rw [if_pos h, if_pos (List.mem_cons_of_mem _ h)]
    · rw [if_neg h]
      by_cases e : i = v
      · subst e
        rw [if_pos List.mem_cons_self, List.set_set]
      · rw [if_neg (by simp [e, h]), List.set_comm _ _ e]
theorem wipe_in {all : List Nat} {σ : L2.St} {i : Nat} {x : Option V} (h : i ∈ all) : wipe (σ.set i x) all = wipe σ all := by rw [wipe_put, if_pos h]
theorem gl_names {all : List Nat} : ∀ (vs : List Nat), (∀ i ∈ vs, i ∈ all) → ∀ (us : List V) (σ σ0 : L2.St) (H : Hp) (Q : L2.St → Hp → Prop), wipe σ all = wipe σ0 all → lowGs T W0 (wTs vs) us σ H Q → gsN vs us σ H fun σ1 H1 => wipe σ1 all = wipe σ0 all ∧ Q σ1 H1
  | [], _, us, σ, σ0, H, Q, hw, q => by
    obtain ⟨G, σ2, M, ws, Q2, E2, sr, rs, rw1, ⟨rfl, q2⟩, pn, px⟩ := q
    cases rw1
    exact ⟨rfl, hw, pn _ M G H _ (Mo.refl _) sr rs q2⟩
  | i :: r, hin, us, σ, σ0, H, Q, hw, q => by
    obtain ⟨G, σ2, M, ws, Q2, E2, sr, rs, rw1, ⟨w, r', rfl, q2⟩, pn, px⟩ := q
    cases rw1 with
    | cons a t =>
      refine ⟨_, _, rfl, ?_⟩
      refine gl_names r (fun j hj => hin j (List.mem_cons_of_mem _ hj)) _ _ σ0 H Q ?_ ⟨G, σ2.set i (some w), M, r', Q2, _, sr, rs.set a i, t, wTs_no2 r _ _ _ _ _ q2, pn, fun _ _ _ _ _ _ _ _ _ f => f.elim⟩
      rw [wipe_in (hin i List.mem_cons_self)]
      exact hw
theorem low_gtup {vs : List Nat} {K : PySem.W.Frag} (hK : K = T.K) : ∀ v σ H Q, lowG T W0 (wgTup vs.length (wTs vs)) v (wipe σ vs) H Q → gTup K vs.length (gsN vs) v (wipe σ vs) H fun σ1 H1 => wipe σ1 vs = wipe σ vs ∧ Q σ1 H1 := fun v σ H Q q => by
  obtain ⟨G, σ2, M, w, Q2, E2, sr, rs, rw1, ⟨ds, e, hl, q2⟩, pn, px⟩ := q
  cases tupD_eq e
  obtain ⟨a, us, rfl, h1, rr⟩ := (show ∃ a us, v = .ref a ∧ SqT T.K G a us ∧ RpL T G ds us from rw1)
  refine ⟨a, us, rfl, by rw [hK]; exact (Mo.of sr.le).seqT h1, by rw [← (RpL.to rr).len, List.length_map]; exact hl, ?_⟩
  refine gl_names vs (fun _ h => h) us _ σ H Q ?_ ⟨G, σ2, M, _, Q2, _, sr, rs, RpL.to rr, q2, pn, px⟩
  exact wipe_wipe σ vs
theorem e_lct {X : Cx} {mg : Str → Option Value} {Wx : WX} {sc : Scope} {m : Bool} {ti : TI2} {tt : TT2} {te : TE2} {vs : List Nat} {tp pos : Pos} {kk : Nat} {es : List Expr} {el iter : Expr} {ifs : List Expr} {scope : Scope} (C : Ctx T k p.N mg X Wx sc)
    (hl : tgsB p scope vs es = true) (hb : blkC p.N sc scope (ownOf p vs) = true) (h1 : PI X (.Tuple es kk tp) iter (lowI T Wx ti))
    (h2 : ∀ (s : Shared) (H : Hp) (D : Addr) (cl : List (Str × Addr)) (fp : List Addr), PTs (X.blk s H scope (compEnvC scope cl D X.env) fp) ifs (lowT T W0 tt))
    (h3 : ∀ (s : Shared) (H : Hp) (D : Addr) (cl : List (Str × Addr)) (fp : List Addr), PE (X.blk s H scope (compEnvC scope cl D X.env) fp) el (lowE T W0 te)) (hs : ∀ v, foldedSetIterable iter X.env v = pure v) :
    PE X (.ListComp el [⟨.Tuple es kk tp, iter, ifs, 0⟩] scope pos) (lowE T Wx (wLc m ti (wgTup vs.length (wTs vs)) tt te vs)) := by
  have bk : BlkOk X.N X.env.scope scope (ownOf p vs) := by rw [C.eN, C.eS]; exact blkOk_by hb
  have hg : ∀ (s : Shared) (H : Hp) (D : Addr) (cl : List (Str × Addr)) (fp : List Addr), PG (X.blk s H scope (compEnvC scope cl D X.env) fp) (.Tuple es kk tp) (gTup X.K vs.length (gsN vs)) := fun s H D cl fp => by
    obtain ⟨q1, q2, q3⟩ := tgs_blk (s := s) (H := H) (C := D) (cl := cl) (fp := fp) C hl
    exact pg_tup (X := X.blk s H scope (compEnvC scope cl D X.env) fp) C.calm q1 (q2 _) (q3 _)
  have eo : (ownOf p vs).map (·.2) = vs := by unfold ownOf; rw [List.map_map]; simp [Function.comp_def]
  have main := pe_lc (pos := pos) C.calm (by rw [C.eN]; exact C.nd) h1 bk hg h2 h3 hs
  rw [eo] at main
  exact main.imp fun σ H Q q => low_lc (low_gtup C.eK) q
theorem lct_form {sc : Scope} {m : Bool} {it : It2} {vs : List Nat} {c : Es} {elt : E} {x : Expr} (h : kE p sc (.lct m it vs c elt) x = true) : ∃ el es kk tp iter ifs scope pos, x = .ListComp el [⟨.Tuple es kk tp, iter, ifs, 0⟩] scope pos ∧
    tgsB p scope vs es = true ∧ blkC p.N sc scope (ownOf p vs) = true ∧ kI p sc it iter = true ∧ kF p (relS scope sc) c ifs = true ∧ kE p (relS scope sc) elt el = true := by
  simp only [kE] at h
  split at h
  · simp only [Bool.and_eq_true] at h
    obtain ⟨⟨⟨⟨h1, h2⟩, h3⟩, h4⟩, h5⟩ := h
    exact ⟨_, _, _, _, _, _, _, _, rfl, h1, h2, h3, h4, h5⟩
  · cases h
theorem enum_form {sc : Scope} {e : E} {x : Expr} (h : kI p sc (.enum e) x = true) : ∃ np v pos, x = .Call (.Name "enumerate" np) [v] [] pos ∧ ("enumerate" : Str) ∈ p.bx ∧ glB sc "enumerate" = true ∧ kE p sc e v = true := by
  simp only [kI] at h
  split at h
  · simp only [Bool.and_eq_true, decide_eq_true_eq] at h
    obtain ⟨⟨⟨rfl, h2⟩, h3⟩, h4⟩ := h
    exact ⟨_, _, _, rfl, h2, h3, h4⟩
  · cases h
theorem items_form {sc : Scope} {e : E} {x : Expr} (h : kI p sc (.items e) x = true) : ∃ o ap cp, x = .Call (.Attribute o "items" ap) [] [] cp ∧ (ap.endLine == cp.line) = true ∧ kE p sc e o = true := by
  simp only [kI] at h
  split at h
  · simp only [Bool.and_eq_true, decide_eq_true_eq] at h
    obtain ⟨⟨rfl, h2⟩, h3⟩ := h
    exact ⟨_, _, _, rfl, h2, h3⟩
  · cases h
theorem tup_name {it : It2} {n : Str} {np : Pos} (h : (!pairIt it) = true) : tupOk it (.Name n np) = true := by unfold tupOk; rw [h]; rfl
theorem tup_tup {it : It2} {es : List Expr} {kk : Nat} {tp : Pos} : tupOk it (.Tuple es kk tp) = true := by unfold tupOk; rw [show isTuple (.Tuple es kk tp) = true from rfl, Bool.or_true]
theorem e_dc {X : Cx} {mg : Str → Option Value} {Wx : WX} {sc : Scope} {ti : TI2} {tt : TT2} {tk tv : TE2} {n : Str} {i : Nat} {np pos : Pos} {kx vx iter : Expr} {ifs : List Expr} {scope : Scope} (C : Ctx T k p.N mg X Wx sc)
    (hi : p.N[i]? = some n) (hl : locB scope n = true) (hb : blkC p.N sc scope [(n, i)] = true) (h1 : PI X (.Name n np) iter (lowI T Wx ti))
    (h2 : ∀ (s : Shared) (H : Hp) (D : Addr) (cl : List (Str × Addr)) (fp : List Addr), PTs (X.blk s H scope (compEnvC scope cl D X.env) fp) ifs (lowT T W0 tt))
    (h3 : ∀ (s : Shared) (H : Hp) (D : Addr) (cl : List (Str × Addr)) (fp : List Addr), PE (X.blk s H scope (compEnvC scope cl D X.env) fp) kx (lowE T W0 tk))
    (h4 : ∀ (s : Shared) (H : Hp) (D : Addr) (cl : List (Str × Addr)) (fp : List Addr), PE (X.blk s H scope (compEnvC scope cl D X.env) fp) vx (lowE T W0 tv)) (hs : ∀ v, foldedSetIterable iter X.env v = pure v) :
    PE X (.DictComp kx vx [⟨.Name n np, iter, ifs, 0⟩] scope pos) (lowE T Wx (wDc ti (wgName i) tt tk tv [i])) := by
  have bk : BlkOk X.N X.env.scope scope [(n, i)] := by rw [C.eN, C.eS]; exact blkOk_by hb
  have hg : ∀ (s : Shared) (H : Hp) (D : Addr) (cl : List (Str × Addr)) (fp : List Addr), PG (X.blk s H scope (compEnvC scope cl D X.env) fp) (.Name n np) (gName i) := fun s H D cl fp => by
    unfold locB at hl
    split at hl
    · rename_i q
      have q' : (relS scope X.env.scope).names.lookup n = some .local := lookup_relS_keep (by decide) q
      exact pg_name (by rw [C.eN]; exact C.nd) (by rw [C.eN]; exact hi) (.inl q') (.inr q')
    · rename_i q
      have q' : (relS scope X.env.scope).names.lookup n = some .cell := lookup_relS_keep (by decide) q
      exact pg_name (by rw [C.eN]; exact C.nd) (by rw [C.eN]; exact hi) (.inr q') (.inl (by show (scope.names.lookup n == some .cell) = true; rw [q]; rfl))
    · cases hl
  exact (pe_dc C.calm (by rw [C.eN]; exact C.nd) h1 bk hg h2 h3 h4 hs).imp fun σ H Q q => low_dc gl_name q
theorem dc_form {sc : Scope} {it : It2} {i : Nat} {c : Es} {ke ve : E} {x : Expr} (h : kE p sc (.dc it i c ke ve) x = true) : ∃ kx vx n np iter ifs scope pos, x = .DictComp kx vx [⟨.Name n np, iter, ifs, 0⟩] scope pos ∧
    p.N[i]? = some n ∧ locB scope n = true ∧ blkC p.N sc scope [(n, i)] = true ∧ (!pairIt it) = true ∧ kI p sc it iter = true ∧ kF p (relS scope sc) c ifs = true ∧ kE p (relS scope sc) ke kx = true ∧ kE p (relS scope sc) ve vx = true := by
  simp only [kE] at h
  split at h
  · simp only [Bool.and_eq_true, decide_eq_true_eq] at h
    obtain ⟨⟨⟨⟨⟨⟨⟨h1, h2⟩, h3⟩, h0⟩, h4⟩, h5⟩, h6⟩, h7⟩ := h
    exact ⟨_, _, _, _, _, _, _, _, rfl, h1, h2, h3, h0, h4, h5, h6, h7⟩
  · cases h
theorem e_neg {X : Cx} {Wx : WX} {te : TE2} {a : Expr} {pos : Pos} (ha : PE X a (lowE T Wx te)) : PE X (.UnaryOp .USub a pos) (lowE T Wx fun σ M Q E => te σ M (fun x M1 => ∃ i, x = .d (.int i) ∧ Q (.d (.int (-i))) M1) E) := (pe_un un_neg ha).imp fun σ H Q h => by
  obtain ⟨G, σ2, M, Q2, E2, sr, rs, q2, pq, px⟩ := h
  refine ⟨G, σ2, M, _, E2, sr, rs, q2, fun w M1 G1 H1 v m1 sr1 rw1 q3 => ?_, px⟩
  obtain ⟨i, rfl, q3⟩ := q3
  exact ⟨i, rw1, pq _ M1 G1 H1 _ m1 sr1 (show RW T G1 (.d (.int (-i))) (.int (-i)) from rfl) q3⟩
theorem e_meth {X : Cx} {mg : Str → Option Value} {Wx : WX} {sc : Scope} (C : Ctx T k p.N mg X Wx sc) (b : BM) {o : E} {es : Es} {r : Expr} {n : Str} {ap cp : Pos} {v : Expr} {vs : List Expr} {to : TE2} {ta : TA2} (hn : n = b.x) (hline : (ap.endLine == cp.line) = true) (hfew : vs.length < 20)
    (ko : kE p sc o r = true) (ka : kA p sc es (v :: vs) = true) (ho : PE X r (lowE T Wx to)) (ha : PA X (v :: vs) (lowA T Wx ta)) : PE X (.Call (.Attribute r n ap) (v :: vs) [] cp) (lowE T Wx (wBM b.ok b.r to ta)) := by
  subst hn
  have hst : starEach (v :: vs) X.env = (false, eval v X.env) :: starEach vs X.env := by
    cases es with
    | nil => exact nomatch ka
    | cons e r' =>
      have ka : (kE p sc e v && kA p sc r' vs) = true := ka
      rw [Bool.and_eq_true] at ka
      exact starEach_of ka.1
  have hall := starEach_all (env := X.env) ka
  have hpl : (backTo cp (starEach vs X.env)).any (·.1) = false := by
    rw [hst, List.all_cons, Bool.and_eq_true] at hall
    exact backTo_any hall.2
  have hf : ((backTo cp (starEach (v :: vs) X.env)).all (fun x => !x.1) && (backToKw cp (keywordEach [] X.env)).all (fun x => x.1.isSome)
      && decide ((v :: vs).length + ([] : List Keyword).length + (if ([] : List Keyword).isEmpty then 0 else 1) < 30)) = true := by
    rw [backTo_all hall, Bool.true_and]
    show (true && decide (vs.length + 1 + 0 + 0 < 30)) = true
    rw [Bool.true_and, decide_eq_true_eq]
    omega
  have hb : ∀ w, attributeBase r b.x X.env w = w := fun w => base_of ko
  cases b with
  | append => exact (pe_bm PySem.F.plainAttrs_list PySem.F.slot_list_append PySem.F.type_list_append m_append ho ha (hb _) hf hline hst hpl).imp fun _ _ _ q => low_bm (okL_ty C.eK) q
  | popAt => exact (pe_bm PySem.F.plainAttrs_list PySem.F.slot_list_pop PySem.F.type_list_pop m_popAt ho ha (hb _) hf hline hst hpl).imp fun _ _ _ q => low_bm (okL_ty C.eK) q
  | extend => exact (pe_bm PySem.F.plainAttrs_list PySem.F.slot_list_extend PySem.F.type_list_extend m_extend ho ha (hb _) hf hline hst hpl).imp fun _ _ _ q => low_bm (okL_ty C.eK) q
  | join => exact (pe_bm PySem.F.plainAttrs_str PySem.F.slot_str_join PySem.F.type_str_join (m_join C.eK) ho ha (hb _) hf hline hst hpl).imp fun _ _ _ q => low_bm okS_ty q
/-- what a call of a def or of a built-in wants of its arguments -/
theorem args_of {sc : Scope} {es : Es} {v : Expr} {vs : List Expr} {env : Env} {pos : Pos} (ka : kA p sc es (v :: vs) = true) : starEach (v :: vs) env = (false, eval v env) :: starEach vs env ∧ (backTo pos (starEach vs env)).any (·.1) = false := by
  have hst : starEach (v :: vs) env = (false, eval v env) :: starEach vs env := by
    cases es with
    | nil => exact nomatch ka
    | cons e r' =>
      have ka : (kE p sc e v && kA p sc r' vs) = true := ka
      rw [Bool.and_eq_true] at ka
      exact starEach_of ka.1
  have hall := starEach_all (env := env) ka
  rw [hst, List.all_cons, Bool.and_eq_true] at hall
  exact ⟨hst, backTo_any hall.2⟩

/-- a method's call, a new instance -/
theorem mth_of {X : Cx} {mg : Str → Option Value} {Wx : WX} {sc : Scope} (C : Ctx T k p.N mg X Wx sc) (O : GOk X T k p Γ) (i : Nat) {o : E} {es : Es} {r : Expr} {n : Str} {ap pos : Pos} {as : List Expr} (h2 : (ap.endLine == pos.line) = true) (h3 : as.length < 20) (h4 : kE p sc o r = true) (h5 : kA p sc es as = true)
    (ho : PE X r (lowE T Wx (wE Γ o))) (ha : PA X as (lowA T Wx (wA Γ es))) : PE X (.Call (.Attribute r n ap) as [] pos) (lowE T Wx (wE Γ (.mth i n o es))) := by
  show PE X _ (lowE T Wx (match Γ.o.m[i]? with | some q => wIfP (q.m = n) (wMeth q.c n q.sp q.dws (wE Γ o) (wA Γ es)) | none => wFalse))
  cases hq : Γ.o.m[i]? with
  | none => exact ⟨fun _ _ _ _ _ _ ⟨_, _, _, _, _, _, _, f, _⟩ => f.elim⟩
  | some q =>
    refine e_ifP fun hp => ?_
    have F := O.om q (List.mem_of_getElem? hq)
    rw [hp] at F
    have all := backTo_all (pos := pos) (starEach_all (env := X.env) h5)
    have ht := ht_of (m := n) (apos := ap) (base_of h4) all (by omega) h2
    cases as with
    | nil =>
      cases es with
      | nil => exact e_omth0 C F ho ht
      | cons _ _ => exact nomatch h5
    | cons v vs =>
      obtain ⟨a1, a2⟩ := args_of (env := X.env) (pos := pos) h5
      exact e_omth C F ho ha a1 a2 ht
theorem mk_of {X : Cx} {mg : Str → Option Value} {Wx : WX} {sc : Scope} (C : Ctx T k p.N mg X Wx sc) (O : GOk X T k p Γ) (i : Nat) {es : Es} {n : Str} {np pos : Pos} {as : List Expr} (h2 : glB sc n = true) (h3 : okN n = true) (h5 : kA p sc es as = true)
    (ha : PA X as (lowA T Wx (wA Γ es))) : PE X (.Call (.Name n np) as [] pos) (lowE T Wx (wE Γ (.mk i n es))) := by
  show PE X _ (lowE T Wx (match Γ.o.c[i]? with | some q => wIfP (q.x = n) (wMake q.c q.sp q.dws (wA Γ es)) | none => wFalse))
  cases hq : Γ.o.c[i]? with
  | none => exact ⟨fun _ _ _ _ _ _ ⟨_, _, _, _, _, _, _, f, _⟩ => f.elim⟩
  | some q =>
    refine e_ifP fun hp => ?_
    obtain ⟨j, ej, F⟩ := O.oc q (List.mem_of_getElem? hq)
    rw [hp] at F
    rw [ej] at C
    cases as with
    | nil =>
      cases es with
      | nil => exact e_make0 C F (gl_of C h2) (okN_1 h3).1
      | cons _ _ => exact nomatch h5
    | cons v vs =>
      obtain ⟨a1, a2⟩ := args_of (env := X.env) (pos := pos) h5
      exact e_make C F (gl_of C h2) ha (okN_1 h3).1 a1 a2
mutual
theorem sE (e : E) {X : Cx} {mg : Str → Option Value} {Wx : WX} {sc : Scope} (C : Ctx T k p.N mg X Wx sc) (O : GOk X T k p Γ) (x : Expr) (h : kE p sc e x = true) : PE X x (lowE T Wx (wE Γ e)) := match e, h with
  | .var i, h => by
    cases x with
    | Name n pos =>
      have h : (decide (p.N[i]? = some n) && visB sc n && okN n) = true := h
      simp only [Bool.and_eq_true, decide_eq_true_eq] at h
      obtain ⟨⟨h1, h2⟩, h3⟩ := h
      exact e_var (pe_var (by rw [C.eN]; exact h1) (vis_of C h2) (okN_1 h3).1 (okN_1 h3).2)
    | _ => exact nomatch h
  | .cst c, h => by
    cases x with
    | Constant v j pos => exact cn_ok h
    | _ => exact nomatch h
  | .glob i, h => by
    cases x with
    | Name n pos =>
      have h : (decide (p.gx[i]? = some n) && glB sc n && okN n) = true := h
      simp only [Bool.and_eq_true, decide_eq_true_eq] at h
      obtain ⟨⟨h1, h2⟩, h3⟩ := h
      obtain ⟨d, u, v, e1, e2, e3, e4⟩ := glo_of O h1
      show PE X _ (lowE T Wx (match Γ.g[i]? with | some (_, d) => wC d | none => wFalse))
      rw [e1]
      exact e_c (pe_glob (gl_of C h2) e2 e3 (okN_1 h3).1) e4
    | _ => exact nomatch h
  | .bin o a b, h => by
    cases x with
    | BinOp l op r pos =>
      have h : (decide (op = o.op) && kE p sc a l && kE p sc b r) = true := h
      simp only [Bool.and_eq_true, decide_eq_true_eq] at h
      obtain ⟨⟨rfl, h1⟩, h2⟩ := h
      exact e_bin (bo_ok C o) (sE a C O l h1) (sE b C O r h2)
    | _ => exact nomatch h
  | .cmp o a b, h => by
    cases x with
    | Compare l ops rs pos =>
      match ops, rs, h with
      | [op], [r], h =>
        have h : (decide (op = o.op) && kE p sc a l && kE p sc b r && !behindInMarks op r) = true := h
        simp only [Bool.and_eq_true, decide_eq_true_eq, Bool.not_eq_true'] at h
        obtain ⟨⟨⟨rfl, h1⟩, h2⟩, h3⟩ := h
        exact e_cmp (co_ok C o) (sE a C O l h1) (sE b C O r h2) h3
    | _ => exact nomatch h
  | .chain o o' a b c, h => by
    cases x with
    | Compare l ops rs pos =>
      match ops, rs, h with
      | [op, op'], [r, r'], h =>
        have h : (decide (op = o.op) && decide (op' = o'.op) && kE p sc a l && kE p sc b r && kE p sc c r' && !lastMarks [op, op'] [r, r']) = true := h
        simp only [Bool.and_eq_true, decide_eq_true_eq, Bool.not_eq_true'] at h
        obtain ⟨⟨⟨⟨⟨rfl, rfl⟩, h1⟩, h2⟩, h3⟩, h4⟩ := h
        exact e_chain (co_ok C o) (co_ok C o') (sE a C O l h1) (sE b C O r h2) (sE c C O r' h3) h4
    | _ => exact nomatch h
  | .and a es, h => by
    cases x with
    | BoolOp op vs pos =>
      match op, vs, h with
      | .And, v :: vs, h =>
        have h : (kE p sc a v && kA p sc es vs) = true := h
        rw [Bool.and_eq_true] at h
        exact sAnds es C O v vs pos h.2 (sE a C O v h.1)
    | _ => exact nomatch h
  | .or a es, h => by
    cases x with
    | BoolOp op vs pos =>
      match op, vs, h with
      | .Or, v :: vs, h =>
        have h : (kE p sc a v && kA p sc es vs) = true := h
        rw [Bool.and_eq_true] at h
        exact sOrs es C O v vs pos h.2 (sE a C O v h.1)
    | _ => exact nomatch h
  | .not a, h => by
    cases x with
    | UnaryOp op v pos =>
      match op, h with
      | .Not, h => exact e_not C (sE a C O v h)
    | _ => exact nomatch h
  | .ife c a b, h => by
    cases x with
    | IfExp v u w pos =>
      have h : (kE p sc c v && kE p sc a u && kE p sc b w) = true := h
      simp only [Bool.and_eq_true] at h
      exact e_if (sT c C O v h.1.1) (sE a C O u h.1.2) (sE b C O w h.2)
    | _ => exact nomatch h
  | .tup es, h => by
    cases x with
    | Tuple vs j pos => exact e_tup (sA es C O vs h)
    | _ => exact nomatch h
  | .lst m es, h => by
    cases x with
    | List vs pos => exact e_lst (sA es C O vs h)
    | _ => exact nomatch h
  | .ix a b, h => by
    cases x with
    | Subscript l r pos =>
      have h : (kE p sc a l && kE p sc b r) = true := h
      rw [Bool.and_eq_true] at h
      exact ixR2F C.eK (sE a C O l h.1) (sE b C O r h.2) (plainIx_of h.2)
    | _ => exact nomatch h
  | .sl m a lo hi, h => by
    cases x with
    | Subscript l r pos =>
      cases r with
      | Slice lo' hi' st pos' =>
        cases st with
        | some _ => exact nomatch h
        | none =>
          have h : (kE p sc a l && kO p sc lo lo' && kO p sc hi hi') = true := h
          simp only [Bool.and_eq_true] at h
          exact e_slice C.eK (sE a C O l h.1.1) (sO lo C O lo' h.1.2) (sO hi C O hi' h.2)
      | _ => exact nomatch h
    | _ => exact nomatch h
  | .neg a, h => by
    cases x with
    | UnaryOp op v pos =>
      match op, h with
      | .USub, h => exact e_neg (sE a C O v h)
    | _ => exact nomatch h
  | .call i es, h => by
    cases x with
    | Call f as kws pos =>
      cases f with
      | Name n np =>
        match as, kws, h with
        | v :: vs, [], h =>
          have h : (decide (p.fx[i]? = some n) && glB sc n && okN n && kA p sc es (v :: vs)) = true := h
          simp only [Bool.and_eq_true, decide_eq_true_eq] at h
          obtain ⟨⟨⟨h1, h2⟩, h3⟩, h4⟩ := h
          obtain ⟨c, e1, e2, e3⟩ := cal_of O h1
          show PE X _ (lowE T Wx (match Γ.f[i]? with | some c => wCall c.sp c.dws (wA Γ es) | none => wFalse))
          rw [e1]
          obtain ⟨a1, a2⟩ := args_of (env := X.env) (pos := pos) h4
          exact e_call C e3 (gl_of C h2) (sA es C O (v :: vs) h4) (okN_1 h3).1 a1 a2
      | _ => exact nomatch h
    | _ => exact nomatch h
  | .fld f e, h => by
    cases x with
    | Attribute v n pos =>
      have h : (decide (n = f) && kE p sc e v) = true := h
      simp only [Bool.and_eq_true, decide_eq_true_eq] at h
      obtain ⟨rfl, h2⟩ := h
      exact e_fld C.eK (fun c hc => by rw [← C.eK]; exact O.oa _ hc) (sE e C O v h2) (base_of h2)
    | _ => exact nomatch h
  | .mth i m o es, h => by
    cases x with
    | Call f as kws pos =>
      cases f with
      | Attribute r n ap =>
        match kws, h with
        | [], h =>
          have h : (decide (n = m) && (ap.endLine == pos.line) && decide (as.length < 20) && kE p sc o r && kA p sc es as) = true := h
          simp only [Bool.and_eq_true, decide_eq_true_eq] at h
          obtain ⟨⟨⟨⟨rfl, h2⟩, h3⟩, h4⟩, h5⟩ := h
          exact mth_of C O i h2 h3 h4 h5 (sE o C O r h4) (sA es C O as h5)
      | _ => exact nomatch h
    | _ => exact nomatch h
  | .mk i y es, h => by
    cases x with
    | Call f as kws pos =>
      cases f with
      | Name n np =>
        match kws, h with
        | [], h =>
          have h : (decide (n = y) && glB sc n && okN n && (n != ("super" : Str)) && kA p sc es as) = true := h
          simp only [Bool.and_eq_true, decide_eq_true_eq] at h
          obtain ⟨⟨⟨⟨rfl, h2⟩, h3⟩, _⟩, h5⟩ := h
          exact mk_of C O i h2 h3 h5 (sA es C O as h5)
      | _ => exact nomatch h
    | _ => exact nomatch h
  | .isi t e, h => by
    cases x with
    | Call f as kws pos =>
      match f, as, kws, h with
      | .Name n np, [v, .Name m mp], [], h =>
        have h : (decide (n = ("isinstance" : Str)) && decide (n ∈ p.bx) && glB sc n && decide (m = t.x) && decide (m ∈ p.bx) && glB sc m && kE p sc e v) = true := h
        simp only [Bool.and_eq_true, decide_eq_true_eq] at h
        obtain ⟨⟨⟨⟨⟨⟨rfl, h2⟩, h3⟩, rfl⟩, h5⟩, h6⟩, h7⟩ := h
        exact e_isi C.eK (gl_of C h3) (O.b _ h2) (gl_of C h6) (O.b _ h5) (sE e C O v h7) (starEach_of h7)
    | _ => exact nomatch h
  | .blt b es, h => by
    cases x with
    | Call f as kws pos =>
      cases f with
      | Name n np =>
        match as, kws, h with
        | v :: vs, [], h =>
          have h : (decide (n = b.x) && decide (n ∈ p.bx) && glB sc n && okN n && kA p sc es (v :: vs)) = true := h
          simp only [Bool.and_eq_true, decide_eq_true_eq] at h
          obtain ⟨⟨⟨⟨h1, h2⟩, h3⟩, h4⟩, h5⟩ := h
          obtain ⟨a1, a2⟩ := args_of (env := X.env) (pos := pos) h5
          exact bi_ok C b h1 (gl_of C h3) (O.b n h2) (sA es C O (v :: vs) h5) a1 a2
      | _ => exact nomatch h
    | _ => exact nomatch h
  | .ext u es, h => by
    have h : (match uK p sc u x with | some vs => kA p sc es vs | none => false) = true := h
    cases hu : uK p sc u x with
    | none => rw [hu] at h; exact nomatch h
    | some vs =>
      rw [hu] at h
      exact u_ok C O u hu (sEs es C O vs h)
  | .bm b o es, h => by
    cases x with
    | Call f as kws pos =>
      cases f with
      | Attribute r n ap =>
        match as, kws, h with
        | v :: vs, [], h =>
          have h : (decide (n = b.x) && (ap.endLine == pos.line) && decide (vs.length < 20) && kE p sc o r && kA p sc es (v :: vs)) = true := h
          simp only [Bool.and_eq_true, decide_eq_true_eq] at h
          obtain ⟨⟨⟨⟨h1, h2⟩, h3⟩, h4⟩, h5⟩ := h
          exact e_meth C b h1 h2 h3 h4 h5 (sE o C O r h4) (sA es C O (v :: vs) h5)
      | _ => exact nomatch h
    | _ => exact nomatch h
  | .lc m it i c elt, h => by
    cases x with
    | ListComp el gens scope pos =>
      match gens, h with
      | [], h => simp [kE] at h
      | _ :: _ :: _, h => simp [kE] at h
      | [⟨tg, iter, ifs, as⟩], h =>
        cases tg with
        | Name n np =>
            have ha : as = 0 := by
              refine Classical.byContradiction fun q => ?_
              simp [kE, q] at h
            subst ha
            have h : (decide (p.N[i]? = some n) && locB scope n && blkC p.N sc scope [(n, i)] && !pairIt it && kI p sc it iter && kF p (relS scope sc) c ifs && kE p (relS scope sc) elt el) = true := h
            simp only [Bool.and_eq_true, decide_eq_true_eq] at h
            obtain ⟨⟨⟨⟨⟨⟨h1, h2⟩, h3⟩, h0⟩, h4⟩, h5⟩, h6⟩ := h
            exact e_lc C h1 h2 h3 (sI it C O _ iter (tup_name h0) h4).1 (fun s H D cl fp => sF c (C.blk (cl := cl) (fp := fp)) (GOk_blk O) ifs h5) (fun s H D cl fp => sE elt (C.blk (cl := cl) (fp := fp)) (GOk_blk O) el h6) (sI it C O (.Name n np) iter (tup_name h0) h4).2
        | _ => exact nomatch h
    | _ => exact nomatch h
  | .lct m it vs c elt, h => by
    obtain ⟨el, es, kk, tp, iter, ifs, scope, pos, rfl, h1, h2, h3, h4, h5⟩ := lct_form h
    exact e_lct C h1 h2 (sI it C O _ iter tup_tup h3).1 (fun s H D cl fp => sF c (C.blk (cl := cl) (fp := fp)) (GOk_blk O) ifs h4) (fun s H D cl fp => sE elt (C.blk (cl := cl) (fp := fp)) (GOk_blk O) el h5) (sI it C O (.Tuple es kk tp) iter tup_tup h3).2
  | .dc it i c ke ve, h => by
    obtain ⟨kx, vx, n, np, iter, ifs, scope, pos, rfl, h1, h2, h3, h0, h4, h5, h6, h7⟩ := dc_form h
    exact e_dc C h1 h2 h3 (sI it C O _ iter (tup_name h0) h4).1 (fun s H D cl fp => sF c (C.blk (cl := cl) (fp := fp)) (GOk_blk O) ifs h5) (fun s H D cl fp => sE ke (C.blk (cl := cl) (fp := fp)) (GOk_blk O) kx h6) (fun s H D cl fp => sE ve (C.blk (cl := cl) (fp := fp)) (GOk_blk O) vx h7) (sI it C O (.Name n np) iter (tup_name h0) h4).2
termination_by structural e
theorem sT (e : E) {X : Cx} {mg : Str → Option Value} {Wx : WX} {sc : Scope} (C : Ctx T k p.N mg X Wx sc) (O : GOk X T k p Γ) (x : Expr) (h : kE p sc e x = true) : PT X x (lowT T Wx (wT2 Γ e)) := match e, h with
  | .var i, h => by
    cases x with
    | Name n pos =>
      have h : (decide (p.N[i]? = some n) && visB sc n && okN n) = true := h
      simp only [Bool.and_eq_true, decide_eq_true_eq] at h
      obtain ⟨⟨h1, h2⟩, h3⟩ := h
      exact tru_of C (e_var (pe_var (by rw [C.eN]; exact h1) (vis_of C h2) (okN_1 h3).1 (okN_1 h3).2)) trivial
    | _ => exact nomatch h
  | .cmp o a b, h => by
    cases x with
    | Compare l ops rs pos =>
      match ops, rs, h with
      | [op], [r], h =>
        have h : (decide (op = o.op) && kE p sc a l && kE p sc b r && !behindInMarks op r) = true := h
        simp only [Bool.and_eq_true, decide_eq_true_eq, Bool.not_eq_true'] at h
        obtain ⟨⟨⟨rfl, h1⟩, h2⟩, h3⟩ := h
        exact t_cmp (co_ok C o) (sE a C O l h1) (sE b C O r h2) h3
    | _ => exact nomatch h
  | .chain o o' a b c, h => by
    cases x with
    | Compare l ops rs pos =>
      match ops, rs, h with
      | [op, op'], [r, r'], h =>
        have h : (decide (op = o.op) && decide (op' = o'.op) && kE p sc a l && kE p sc b r && kE p sc c r' && !lastMarks [op, op'] [r, r']) = true := h
        simp only [Bool.and_eq_true, decide_eq_true_eq, Bool.not_eq_true'] at h
        obtain ⟨⟨⟨⟨⟨rfl, rfl⟩, h1⟩, h2⟩, h3⟩, h4⟩ := h
        exact t_chain (co_ok C o) (co_ok C o') (sE a C O l h1) (sE b C O r h2) (sE c C O r' h3) h4
    | _ => exact nomatch h
  | .and a es, h => by
    cases x with
    | BoolOp op vs pos =>
      match op, vs, h with
      | .And, v :: vs, h =>
        have h : (kE p sc a v && kA p sc es vs) = true := h
        rw [Bool.and_eq_true] at h
        exact (sAndsT es C O v vs pos h.2 (sT a C O v h.1)).pt
    | _ => exact nomatch h
  | .or a es, h => by
    cases x with
    | BoolOp op vs pos =>
      match op, vs, h with
      | .Or, v :: vs, h =>
        have h : (kE p sc a v && kA p sc es vs) = true := h
        rw [Bool.and_eq_true] at h
        exact (sOrsT es C O v vs pos h.2 (sT a C O v h.1)).pt
    | _ => exact nomatch h
  | .not a, h => by
    cases x with
    | UnaryOp op v pos =>
      match op, h with
      | .Not, h => exact t_not (sT a C O v h)
    | _ => exact nomatch h
  | .ix a b, h => by
    cases x with
    | Subscript l r pos =>
      have h : (kE p sc a l && kE p sc b r) = true := h
      rw [Bool.and_eq_true] at h
      exact tru_of C (ixR2F C.eK (sE a C O l h.1) (sE b C O r h.2) (plainIx_of h.2)) trivial
    | _ => exact nomatch h
  | .call i es, h => by
    cases x with
    | Call f as kws pos =>
      cases f with
      | Name n np =>
        match as, kws, h with
        | v :: vs, [], h =>
          have h : (decide (p.fx[i]? = some n) && glB sc n && okN n && kA p sc es (v :: vs)) = true := h
          simp only [Bool.and_eq_true, decide_eq_true_eq] at h
          obtain ⟨⟨⟨h1, h2⟩, h3⟩, h4⟩ := h
          obtain ⟨c, e1, e2, e3⟩ := cal_of O h1
          show PT X _ (lowT T Wx (wTru (match Γ.f[i]? with | some c => wCall c.sp c.dws (wA Γ es) | none => wFalse)))
          rw [e1]
          obtain ⟨a1, a2⟩ := args_of (env := X.env) (pos := pos) h4
          exact tru_of C (e_call C e3 (gl_of C h2) (sA es C O (v :: vs) h4) (okN_1 h3).1 a1 a2) trivial
      | _ => exact nomatch h
    | _ => exact nomatch h
  | .fld _ _, _ => ⟨fun _ _ _ _ _ _ ⟨_, _, _, _, _, _, _, f, _⟩ => f.elim⟩
  | .mth i m o es, h => by
    cases x with
    | Call f as kws pos =>
      cases f with
      | Attribute r n ap =>
        match kws, h with
        | [], h =>
          have h : (decide (n = m) && (ap.endLine == pos.line) && decide (as.length < 20) && kE p sc o r && kA p sc es as) = true := h
          simp only [Bool.and_eq_true, decide_eq_true_eq] at h
          obtain ⟨⟨⟨⟨rfl, h2⟩, h3⟩, h4⟩, h5⟩ := h
          exact tru_of C (mth_of C O i h2 h3 h4 h5 (sE o C O r h4) (sA es C O as h5)) trivial
      | _ => exact nomatch h
    | _ => exact nomatch h
  | .mk _ _ _, _ => ⟨fun _ _ _ _ _ _ ⟨_, _, _, _, _, _, _, f, _⟩ => f.elim⟩
  | .isi t e, h => by
    cases x with
    | Call f as kws pos =>
      match f, as, kws, h with
      | .Name n np, [v, .Name m mp], [], h =>
        have h : (decide (n = ("isinstance" : Str)) && decide (n ∈ p.bx) && glB sc n && decide (m = t.x) && decide (m ∈ p.bx) && glB sc m && kE p sc e v) = true := h
        simp only [Bool.and_eq_true, decide_eq_true_eq] at h
        obtain ⟨⟨⟨⟨⟨⟨rfl, h2⟩, h3⟩, rfl⟩, h5⟩, h6⟩, h7⟩ := h
        exact tru_of C (e_isi C.eK (gl_of C h3) (O.b _ h2) (gl_of C h6) (O.b _ h5) (sE e C O v h7) (starEach_of h7)) trivial
    | _ => exact nomatch h
  | .blt b es, h => by
    cases x with
    | Call f as kws pos =>
      cases f with
      | Name n np =>
        match as, kws, h with
        | v :: vs, [], h =>
          have h : (decide (n = b.x) && decide (n ∈ p.bx) && glB sc n && okN n && kA p sc es (v :: vs)) = true := h
          simp only [Bool.and_eq_true, decide_eq_true_eq] at h
          obtain ⟨⟨⟨⟨h1, h2⟩, h3⟩, h4⟩, h5⟩ := h
          obtain ⟨a1, a2⟩ := args_of (env := X.env) (pos := pos) h5
          exact tru_of C (bi_ok C b h1 (gl_of C h3) (O.b n h2) (sA es C O (v :: vs) h5) a1 a2) trivial
      | _ => exact nomatch h
    | _ => exact nomatch h
  | .ext u es, h => by
    have h : (match uK p sc u x with | some vs => kA p sc es vs | none => false) = true := h
    cases hu : uK p sc u x with
    | none => rw [hu] at h; exact nomatch h
    | some vs =>
      rw [hu] at h
      exact u_okT C O u hu (sEs es C O vs h)
  | .cst _, _ => ⟨fun _ _ _ _ _ _ ⟨_, _, _, _, _, _, _, f, _⟩ => f.elim⟩
  | .glob _, _ => ⟨fun _ _ _ _ _ _ ⟨_, _, _, _, _, _, _, f, _⟩ => f.elim⟩
  | .bin _ _ _, _ => ⟨fun _ _ _ _ _ _ ⟨_, _, _, _, _, _, _, f, _⟩ => f.elim⟩
  | .ife _ _ _, _ => ⟨fun _ _ _ _ _ _ ⟨_, _, _, _, _, _, _, f, _⟩ => f.elim⟩
  | .tup _, _ => ⟨fun _ _ _ _ _ _ ⟨_, _, _, _, _, _, _, f, _⟩ => f.elim⟩
  | .lst _ _, _ => ⟨fun _ _ _ _ _ _ ⟨_, _, _, _, _, _, _, f, _⟩ => f.elim⟩
  | .sl _ _ _ _, _ => ⟨fun _ _ _ _ _ _ ⟨_, _, _, _, _, _, _, f, _⟩ => f.elim⟩
  | .neg _, _ => ⟨fun _ _ _ _ _ _ ⟨_, _, _, _, _, _, _, f, _⟩ => f.elim⟩
  | .bm _ _ _, _ => ⟨fun _ _ _ _ _ _ ⟨_, _, _, _, _, _, _, f, _⟩ => f.elim⟩
  | .lc _ _ _ _ _, _ => ⟨fun _ _ _ _ _ _ ⟨_, _, _, _, _, _, _, f, _⟩ => f.elim⟩
  | .lct _ _ _ _ _, _ => ⟨fun _ _ _ _ _ _ ⟨_, _, _, _, _, _, _, f, _⟩ => f.elim⟩
  | .dc _ _ _ _ _, _ => ⟨fun _ _ _ _ _ _ ⟨_, _, _, _, _, _, _, f, _⟩ => f.elim⟩
termination_by structural e
theorem sEs (es : Es) {X : Cx} {mg : Str → Option Value} {Wx : WX} {sc : Scope} (C : Ctx T k p.N mg X Wx sc) (O : GOk X T k p Γ) (xs : List Expr) (h : kA p sc es xs = true) : PEs X T Wx (wEs Γ es) xs := match es, h with
  | .nil, h => by
    cases xs with
    | nil => exact .nil
    | cons _ _ => exact nomatch h
  | .cons e es, h => by
    cases xs with
    | nil => exact nomatch h
    | cons x xs =>
      have h : (kE p sc e x && kA p sc es xs) = true := h
      rw [Bool.and_eq_true] at h
      exact .cons ⟨sE e C O x h.1, fun _ => starEach_of h.1, fun _ _ => base_of h.1, plainIx_of h.1, plainIxT_of h.1⟩ (sEs es C O xs h.2)
termination_by structural es
theorem sA (es : Es) {X : Cx} {mg : Str → Option Value} {Wx : WX} {sc : Scope} (C : Ctx T k p.N mg X Wx sc) (O : GOk X T k p Γ) (xs : List Expr) (h : kA p sc es xs = true) : PA X xs (lowA T Wx (wA Γ es)) := match es, h with
  | .nil, h => by
    cases xs with
    | nil => exact a_nil
    | cons _ _ => exact nomatch h
  | .cons e es, h => by
    cases xs with
    | nil => exact nomatch h
    | cons x xs =>
      have h : (kE p sc e x && kA p sc es xs) = true := h
      rw [Bool.and_eq_true] at h
      exact a_cons (sE e C O x h.1) (sA es C O xs h.2) (starEach_of h.1)
termination_by structural es
theorem sAnds (es : Es) {X : Cx} {mg : Str → Option Value} {Wx : WX} {sc : Scope} (C : Ctx T k p.N mg X Wx sc) (O : GOk X T k p Γ) (v : Expr) (vs : List Expr) (pos : Pos) {t : TE2} (h : kA p sc es vs = true) (hv : PE X v (lowE T Wx t)) : PE X (.BoolOp .And (v :: vs) pos) (lowE T Wx (wAnds Γ t es)) := match es, h with
  | .nil, h => by
    cases vs with
    | nil => exact e_and1 hv
    | cons _ _ => exact nomatch h
  | .cons e es, h => by
    cases vs with
    | nil => exact nomatch h
    | cons x xs =>
      have h : (kE p sc e x && kA p sc es xs) = true := h
      rw [Bool.and_eq_true] at h
      exact e_and C hv (sAnds es C O x xs pos h.2 (sE e C O x h.1))
termination_by structural es
theorem sOrs (es : Es) {X : Cx} {mg : Str → Option Value} {Wx : WX} {sc : Scope} (C : Ctx T k p.N mg X Wx sc) (O : GOk X T k p Γ) (v : Expr) (vs : List Expr) (pos : Pos) {t : TE2} (h : kA p sc es vs = true) (hv : PE X v (lowE T Wx t)) : PE X (.BoolOp .Or (v :: vs) pos) (lowE T Wx (wOrs Γ t es)) := match es, h with
  | .nil, h => by
    cases vs with
    | nil => exact e_and1 hv
    | cons _ _ => exact nomatch h
  | .cons e es, h => by
    cases vs with
    | nil => exact nomatch h
    | cons x xs =>
      have h : (kE p sc e x && kA p sc es xs) = true := h
      rw [Bool.and_eq_true] at h
      exact e_or C hv (sOrs es C O x xs pos h.2 (sE e C O x h.1))
termination_by structural es
theorem sAndsT (es : Es) {X : Cx} {mg : Str → Option Value} {Wx : WX} {sc : Scope} (C : Ctx T k p.N mg X Wx sc) (O : GOk X T k p Γ) (v : Expr) (vs : List Expr) (pos : Pos) {t : TT2} (h : kA p sc es vs = true) (hv : PT X v (lowT T Wx t)) : PW X (.BoolOp .And (v :: vs) pos) (lowT T Wx (wAndsT Γ t es)) := match es, h with
  | .nil, h => by
    cases vs with
    | nil => exact tw_and1 hv
    | cons _ _ => exact nomatch h
  | .cons e es, h => by
    cases vs with
    | nil => exact nomatch h
    | cons x xs =>
      have h : (kE p sc e x && kA p sc es xs) = true := h
      rw [Bool.and_eq_true] at h
      exact tw_and hv (sAndsT es C O x xs pos h.2 (sT e C O x h.1))
termination_by structural es
theorem sOrsT (es : Es) {X : Cx} {mg : Str → Option Value} {Wx : WX} {sc : Scope} (C : Ctx T k p.N mg X Wx sc) (O : GOk X T k p Γ) (v : Expr) (vs : List Expr) (pos : Pos) {t : TT2} (h : kA p sc es vs = true) (hv : PT X v (lowT T Wx t)) : PW X (.BoolOp .Or (v :: vs) pos) (lowT T Wx (wOrsT Γ t es)) := match es, h with
  | .nil, h => by
    cases vs with
    | nil => exact tw_or1 hv
    | cons _ _ => exact nomatch h
  | .cons e es, h => by
    cases vs with
    | nil => exact nomatch h
    | cons x xs =>
      have h : (kE p sc e x && kA p sc es xs) = true := h
      rw [Bool.and_eq_true] at h
      exact tw_or hv (sOrsT es C O x xs pos h.2 (sT e C O x h.1))
termination_by structural es
theorem sO (es : Es) {X : Cx} {mg : Str → Option Value} {Wx : WX} {sc : Scope} (C : Ctx T k p.N mg X Wx sc) (O : GOk X T k p Γ) (x : Option Expr) (h : kO p sc es x = true) : PO X x (lowO T Wx (wO Γ es)) := match es, h with
  | .nil, h => by
    cases x with
    | none => exact o_none
    | some _ => exact nomatch h
  | .cons e es, h => by
    cases x with
    | none => exact nomatch h
    | some x => exact o_some (sE e C O x h)
termination_by structural es
theorem sF (es : Es) {X : Cx} {mg : Str → Option Value} {Wx : WX} {sc : Scope} (C : Ctx T k p.N mg X Wx sc) (O : GOk X T k p Γ) (xs : List Expr) (h : kF p sc es xs = true) : PTs X xs (lowT T Wx (wC1 Γ es)) := match es, h with
  | .nil, h => by
    cases xs with
    | nil => exact ts_nil
    | cons _ _ => exact nomatch h
  | .cons e es, h => by
    match xs, h with
    | [x], h => exact ts_one (sT e C O x h)
termination_by structural es
theorem sI (it : It2) {X : Cx} {mg : Str → Option Value} {Wx : WX} {sc : Scope} (C : Ctx T k p.N mg X Wx sc) (O : GOk X T k p Γ) (tg x : Expr) (ht : tupOk it tg = true) (h : kI p sc it x = true) : PI X tg x (lowI T Wx (wI Γ it)) ∧ ∀ v, foldedSetIterable x X.env v = pure v := match it, h with
  | .seq e, h => ⟨i_seq C.eK (sE e C O x h), noset_of h⟩
  | .sgn e, h => ⟨i_str (sE e C O x h), noset_of h⟩
  | .keys e, h => ⟨i_keys (sE e C O x h), noset_of h⟩
  | .enum e, h => by
    obtain ⟨np, v, pos, rfl, h2, h3, h4⟩ := enum_form h
    cases tg with
    | Tuple es kk tp => exact ⟨i_enumS C.eK (gl_of C h3) (O.b _ h2) (sE e C O v h4) (starEach_of h4), fun _ => rfl⟩
    | _ => exact nomatch ht
  | .items e, h => by
    obtain ⟨o, ap, cp, rfl, h2, h3⟩ := items_form h
    cases tg with
    | Tuple es kk tp => exact ⟨i_items (sE e C O o h3) (base_of h3) h2, fun _ => rfl⟩
    | _ => exact nomatch ht
  | .rng1 e, h => by
    cases x with
    | Call f as kws pos =>
      cases f with
      | Name n np =>
        match as, kws, h with
        | [v], [], h =>
          have h : (decide (n = ("range" : Str)) && decide (n ∈ p.bx) && glB sc n && kE p sc e v) = true := h
          simp only [Bool.and_eq_true, decide_eq_true_eq] at h
          obtain ⟨⟨⟨rfl, h2⟩, h3⟩, h4⟩ := h
          exact ⟨i_rng1 (gl_of C h3) (O.b _ h2) (a_cons (sE e C O v h4) a_nil (starEach_of h4)) (starEach_of h4), fun _ => rfl⟩
      | _ => exact nomatch h
    | _ => exact nomatch h
  | .rng2 a b, h => by
    cases x with
    | Call f as kws pos =>
      cases f with
      | Name n np =>
        match as, kws, h with
        | [v, u], [], h =>
          have h : (decide (n = ("range" : Str)) && decide (n ∈ p.bx) && glB sc n && kE p sc a v && kE p sc b u) = true := h
          simp only [Bool.and_eq_true, decide_eq_true_eq] at h
          obtain ⟨⟨⟨⟨rfl, h2⟩, h3⟩, h4⟩, h5⟩ := h
          exact ⟨i_rng2 (gl_of C h3) (O.b _ h2) (a_cons (sE a C O v h4) (a_cons (sE b C O u h5) a_nil (starEach_of h5)) (starEach_of h4)) (by rw [starEach_of h4, starEach_of h5]; rfl) (starEach_of h5), fun _ => rfl⟩
      | _ => exact nomatch h
    | _ => exact nomatch h
termination_by structural it
end
end
end Z
set_option maxHeartbeats 8000000
/-! Z12: statements as terms; defs -/
namespace Z
open PySem PySem.Spec PyProof.Rows L2
inductive Tg where
  | name (i : Nat) | tup (is : List Nat) | lst (is : List Nat) | sub (o i : E)
mutual
inductive S where
  | dead | setf (f : Str) (o e : E) | pass | brk | cont | ret (e : E) | retN | ex (e : E) | asg (t : Tg) (e : E) | par (i j : Nat) (a b : E) | iff (c : E) (a b : Ss) | aug (add : Bool) (i : Nat) (e : E) | whl (c : E) (b : Ss) | for (t : Tg) (it : It2) (b : Ss)
  | augf (add : Bool) (f : Str) (o e : E) | rais (i : Nat) (y : Str) (es : Es) | tri (i : Nat) (y : Str) (a : Option Nat) (b : Ss) (su : Su)
  | dput (o i e : E) | iput (j : Nat) (o i e : E) | ddel (o i : E) | lock (i : Nat) (f : Option Str) (s : S)
  | augo (o : BOO) (j i : Nat) (e : E) | par3 (i j l : Nat) (a b c : E) | parG (is : List Nat) (es : Es) | trm (a : Nat) (b : Ss) (hs : List (Nat × Str × Su))
inductive Ss where
  | nil | cons (s : S) (r : Ss) | frz (i : Nat) (r : Ss)
end
def wTg (Γ : Env2) : Tg → TG2
  | .name i => wgName i
  | .tup is => wgTup is.length (wTs is)
  | .lst is => wgLst is.length (wTs is)
  | .sub o i => wgSub (wE Γ o) (wE Γ i)
/-- a list in a cell becomes data -/
def wFrz (i : Nat) (t : TS2) : TS2 := fun D σ M => ∃ a us ds, σ[i]? = some (some (.c a)) ∧ M a = some (.lst us) ∧ unD us = some ds ∧ t D (σ.set i (some (.d (.lst ds)))) (del M a)
def wPar (i j : Nat) (ta : TA2) : TS2 := fun D σ M => ta σ M (fun ws M1 => ∃ v w, ws = [v, w] ∧ D.nx ((σ.set i (some v)).set j (some w)) M1) fun x M1 => D.ex x σ M1
def wPar3 (i j l : Nat) (ta : TA2) : TS2 := fun D σ M => ta σ M (fun ws M1 => ∃ u v w, ws = [u, v, w] ∧ D.nx (((σ.set i (some u)).set j (some v)).set l (some w)) M1) fun x M1 => D.ex x σ M1
/-- a, b, .. = x, y, .. by way of a tuple -/
def wParG (is : List Nat) (ta : TA2) : TS2 := fun D σ M => ta σ M (fun ws M1 => ws.length ≤ 1000 ∧ ws.length = is.length ∧ wTs is ws σ M1 D.nx fun _ _ => False) fun x M1 => D.ex x σ M1
def wAndS (P : Prop) (t : TS2) : TS2 := fun D σ M => P ∧ t D σ M
def wTry (q : Hdl) (a : Option Nat) (su : Su) (t : TS2) : TS2 := match a with
  | some j => wTryA q j su t
  | none => wTryO q su t
def augF (add : Bool) (i j : Int) : Int := if add = true then i + j else i - j
/-- the clauses of a try -/
def hsOf (Γ : Env2) : List (Nat × Str × Su) → Option (List (Hdl × Su))
  | [] => some []
  | (i, y, su) :: r => match Γ.o.h[i]? with
    | some q => if q.x = y then (hsOf Γ r).map fun l => (q, su) :: l else none
    | none => none
mutual
def wS (Γ : Env2) : S → TS2
  | .dead => fun _ _ _ => False
  | .setf f o e => wSetF (fun c => (f, c) ∈ Γ.o.a) f (wE Γ o) (wE Γ e)
  | .pass => wNext
  | .brk => wBreak
  | .cont => wCont
  | .ret e => wRet (wE Γ e)
  | .retN => wRetN
  | .ex e => wExpr (wE Γ e)
  | .asg t e => wAsg (wE Γ e) (wTg Γ t)
  | .par i j a b => wPar i j (wCons (wE Γ a) (wCons (wE Γ b) wNil))
  | .iff c a b => wIfS (wT2 Γ c) (wSs Γ a) (wSs Γ b)
  | .aug add i e => wAugI (augF add) i (wE Γ e)
  | .whl c b => wWhile (wT2 Γ c) (wSs Γ b)
  | .for t it b => wFor (wI Γ it) (wTg Γ t) (wSs Γ b)
  | .augf add f o e => wAugF (fun c => (f, c) ∈ Γ.o.a) add f (wE Γ o) (wE Γ e)
  | .dput o i e => wDput (wE Γ o) (wE Γ i) (wE Γ e)
  | .iput j o i e => match Γ.o.m[j]? with
    | some q => wAndS (q.m = "__setitem__" ∧ q.c ∈ Γ.o.g) (wOput q.c q.sp q.dws (wE Γ o) (wE Γ i) (wE Γ e))
    | none => fun _ _ _ => False
  | .ddel o i => wDdel (wE Γ o) (wE Γ i)
  | .lock i f s => wLock i f (wS Γ s)
  | .rais i y es => match Γ.o.x[i]? with
    | some q => wAndS (q.x = y) (wRaise q (wA Γ es))
    | none => fun _ _ _ => False
  | .tri i y a b su => match Γ.o.h[i]? with
    | some q => wAndS (q.x = y) (wTry q a su (wSs Γ b))
    | none => fun _ _ _ => False
  | .augo o j i e => match Γ.o.m[j]? with
    | some q => wAndS (q.m = o.mi ∧ q.c ∈ Γ.o.g) (wAugO q.c q.sp q.dws i (wE Γ e))
    | none => fun _ _ _ => False
  | .par3 i j l a b c => wPar3 i j l (wCons (wE Γ a) (wCons (wE Γ b) (wCons (wE Γ c) wNil)))
  | .parG is es => wParG is (wA Γ es)
  | .trm a b hs => match hsOf Γ hs with
    | some l => wTryM a l (wSs Γ b)
    | none => fun _ _ _ => False
def wSs (Γ : Env2) : Ss → TS2
  | .nil => wNext
  | .cons s r => wSeq (wS Γ s) (wSs Γ r)
  | .frz i r => wFrz i (wSs Γ r)
end
/-! ### that a statement of the text is such a term -/
def nameB (p : Par) (sc : Scope) (i : Nat) : Expr → Bool
  | .Name n _ => decide (p.N[i]? = some n) && locB sc n
  | _ => false
def namesB (p : Par) (sc : Scope) : List Nat → List Expr → Bool
  | [], [] => true
  | i :: is, x :: xs => nameB p sc i x && namesB p sc is xs
  | _, _ => false
def kTg (p : Par) (sc : Scope) : Tg → Expr → Bool
  | .name i, x => nameB p sc i x
  | .tup is, .Tuple xs _ _ => namesB p sc is xs
  | .lst is, .Tuple xs _ _ => namesB p sc is xs
  | .sub o i, .Subscript a b _ => kE p sc o a && kE p sc i b
  | _, _ => false
def isTup : Expr → Bool
  | .Tuple .. => true
  | .List .. => true
  | _ => false
def isLc : Expr → Bool
  | .ListComp .. => true
  | .DictComp .. => true
  | _ => false
/-- y = [..]: the list's making swaps with the store -/
def cellB (sc : Scope) : Expr → Bool
  | .Name n _ => decide (sc.names.lookup n = some .cell)
  | _ => false
def swB (sc : Scope) : Expr → Expr → Bool
  | .Name n np, .ListComp el gs scope lp => (match sc.names.lookup n with | some .local => true | _ => false) && (np.line == lp.line) && !(scope.names.any fun (m, k) => m == n && (k == .local || k == .cell))
  | _, _ => false
def cnOf : D → Option Cn
  | .none => some .non
  | .bool b => some (.bool b)
  | .int i => some (.int i)
  | .str s => some (.str s)
  | _ => none
theorem cnOf_d {d : D} {c : Cn} (h : cnOf d = some c) : c.d = d := by
  cases d <;> first | (cases h; rfl) | exact nomatch h
def kCst (d : D) (v : Const) : Bool := match cnOf d with
  | some c => kC c v
  | none => false
/-- the name of a clause -/
def kAs (p : Par) (sc : Scope) (m : Option Str) (a : Option Nat) : Bool := match m, a with
  | some z, some j => decide (p.N[j]? = some z) && decide (sc.names.lookup z = some .local)
  | none, none => true
  | _, _ => false
def kAt (p : Par) (sc : Scope) (a : Option Nat) : At → Expr → Bool
  | .cst d, x => match x with
    | .Constant v _ _ => kCst d v
    | _ => false
  | .var j, x => match x with
    | .Name n _ => decide (p.N[j]? = some n) && visB sc n && okN n
    | _ => false
  | .xf f, x => match x, a with
    | .Attribute (.Name n _) g _, some i => decide (g = f) && (decide (p.N[i]? = some n) && visB sc n && okN n)
    | _, _ => false
def kAts (p : Par) (sc : Scope) (a : Option Nat) : List At → List Expr → Bool
  | [], xs => match xs with
    | [] => true
    | _ => false
  | t :: r, xs => match xs with
    | x :: xs => kAt p sc a t x && kAts p sc a r xs
    | _ => false
def kSu (p : Par) (sc : Scope) (a : Option Nat) : Su → List Stmt → Bool
  | .ret t, x => match x with
    | [.Return (some e) _] => kAt p sc a t e
    | _ => false
  | .retT ts, x => match x with
    | [.Return (some (.Tuple es _ _)) _] => kAts p sc a ts es
    | _ => false
  | .asg j t, x => match x with
    | [.Assign [.Name n _] e _] => decide (p.N[j]? = some n) && locB sc n && kAt p sc a t e
    | _ => false
  | .asgT j ts, x => match x with
    | [.Assign [.Name n _] (.Tuple es _ _) _] => decide (p.N[j]? = some n) && locB sc n && kAts p sc a ts es
    | _ => false
  | .pass, x => match x with
    | [.Pass _] => true
    | _ => false
theorem kAt_form {p : Par} {sc : Scope} {a : Option Nat} {t : At} {e : Expr} (h : kAt p sc a t e = true) : (∃ v j pos, e = .Constant v j pos) ∨ (∃ n pos, e = .Name n pos) ∨ ∃ o n pos, e = .Attribute o n pos := by
  cases t <;> cases e <;> first | exact .inl ⟨_, _, _, rfl⟩ | exact .inr (.inl ⟨_, _, rfl⟩) | exact .inr (.inr ⟨_, _, _, rfl⟩) | exact nomatch h
/-- several clauses, the same name in each -/
def kHs (p : Par) (sc : Scope) (a : Nat) (m : Str) : List (Nat × Str × Su) → List ExceptHandler → Bool
  | [], hs => match hs with
    | [] => true
    | _ => false
  | q :: r, hs => match hs with
    | .ExceptHandler (some (.Name n _)) (some z) (b₀ :: s) _ :: t => decide (n = q.2.1) && glB sc n && okN n && decide (z = m) && kSu p sc (some a) q.2.2 (b₀ :: s) && kHs p sc a m r t
    | _ => false
/-- the stores are not swapped: some name is no plain local, or they stand on several lines -/
def swNo (sc : Scope) (ts : List Expr) : Bool := (ts.filterMap fun t => match t with | .Name id pos => if (sc.names.lookup id == some .local && pos.line == (ts.head?.map (·.pos.line)).getD 0) = true then some id else none | _ => none).length != ts.length
theorem sws_no {ts vs : List Expr} {kt k2 : Nat} {tp pt2 : Pos} {env : Env} (h : swNo env.scope ts = true) : swappedStores [.Tuple ts kt tp] (.Tuple vs k2 pt2) env = pure none := by
  unfold swNo at h
  unfold swappedStores
  show (if (!(ts.length == 2 || ts.length == 3) || vs.length != ts.length || env.blockKind != .function) = true then pure none else _) = _
  split
  · rfl
  · show (if _ then pure none else _) = _
    split
    · rfl
    · show (if ((ts.filterMap fun t => match t with | .Name id pos => if (env.scope.names.lookup id == some .local && pos.line == (ts.head?.map (·.pos.line)).getD 0) = true then some id else none | _ => none).length != ts.length || _) = true then pure none else _) = _
      rw [h, Bool.true_or, if_pos rfl]
def kLoc (p : Par) (sc : Scope) (a : Nat) (m : Str) : Bool := decide (p.N[a]? = some m) && decide (sc.names.lookup m = some .local)
def notLock : E → Bool
  | .ext (.lock _ _) _ => false
  | .lct _ _ _ _ _ => false
  | _ => true
mutual
def kS (p : Par) (sc : Scope) : S → Stmt → Bool
  | .dead, _ => true
  | .setf f o e, x => match x with
    | .Assign [.Attribute r n _] v _ => decide (n = f) && kE p sc o r && kE p sc e v
    | _ => false
  | .pass, x => match x with
    | .Pass _ => true
    | .Expr (.Constant (.str _) _ _) _ => true
    | _ => false
  | .brk, x => match x with
    | .Break _ => true
    | _ => false
  | .cont, x => match x with
    | .Continue _ => true
    | _ => false
  | .ret e, x => match x with
    | .Return (some v) _ => kE p sc e v
    | _ => false
  | .retN, x => match x with
    | .Return none _ => true
    | _ => false
  | .ex e, x => match x with
    | .Expr v _ => kE p sc e v && !isLc v
    | _ => false
  | .asg t e, x => match x with
    | .Assign [tg] v _ => kTg p sc t tg && kE p sc e v && !(isTup tg && isTup v) && (!isLc v || (swB sc tg v && notLock e || cellB sc tg))
    | _ => false
  | .par i j a b, x => match x with
    | .Assign [.Tuple [.Name n np, .Name m mp] _ _] (.Tuple [v, u] _ _) _ => decide (p.N[i]? = some n) && decide (p.N[j]? = some m) && decide (i ≠ j) && decide (sc.names.lookup n = some .local) && decide (sc.names.lookup m = some .local) && (np.line == mp.line) && kE p sc a v && kE p sc b u && !([v, u].all (foldedForSure 8)) && !([v, u].all (constantsAlone 8))
    | _ => false
  | .iff c a b, x => match x with
    | .If t u v _ => kE p sc c t && kSs p sc a u && kSs p sc b v
    | _ => false
  | .aug add i e, x => match x with
    | .AugAssign (.Name n _) op v _ => decide (op = if add = true then .Add else .Sub) && decide (p.N[i]? = some n) && locB sc n && kE p sc e v
    | _ => false
  | .whl c b, x => match x with
    | .While t u [] _ => kE p sc c t && kSs p sc b u
    | _ => false
  | .for t it b, x => match x with
    | .For tg iter u [] _ => kTg p sc t tg && tupOk it tg && kI p sc it iter && kSs p sc b u
    | _ => false
  | .augf add f o e, x => match x with
    | .AugAssign (.Attribute r n _) op v _ => decide (op = if add = true then .Add else .Sub) && decide (n = f) && kE p sc o r && kE p sc e v
    | _ => false
  | .dput o i e, x => match x with
    | .Assign [.Subscript a b _] v _ => kE p sc o a && kE p sc i b && kE p sc e v
    | _ => false
  | .iput _ o i e, x => match x with
    | .Assign [.Subscript a b _] v _ => kE p sc o a && kE p sc i b && kE p sc e v
    | _ => false
  | .ddel o i, x => match x with
    | .Delete [.Subscript a b _] _ => kE p sc o a && kE p sc i b
    | _ => false
  | .lock _ _ s, x => kS p sc s x
  | .rais _ y es, x => match x with
    | .Raise (some (.Call (.Name n _) (v :: vs) [] _)) none _ => decide (n = y) && glB sc n && okN n && kA p sc es (v :: vs)
    | _ => false
  | .tri _ y a b su, x => match x with
    | .Try u [.ExceptHandler (some (.Name n _)) m (b₀ :: r) _] [] [] _ => decide (n = y) && glB sc n && okN n && kSs p sc b u && kSu p sc a su (b₀ :: r) && kAs p sc m a
    | _ => false
  | .augo o _ i e, x => match x with
    | .AugAssign (.Name n _) op v _ => decide (op = o.op) && decide (p.N[i]? = some n) && locB sc n && kE p sc e v
    | _ => false
  | .par3 i j l a b c, x => match x with
    | .Assign [.Tuple [.Name n np, .Name m mp, .Name o op] _ _] (.Tuple [v, u, w] _ _) _ => (decide (p.N[i]? = some n) && decide (p.N[j]? = some m) && decide (p.N[l]? = some o)) && (decide (i ≠ j) && decide (i ≠ l) && decide (j ≠ l)) && (decide (sc.names.lookup n = some .local) && decide (sc.names.lookup m = some .local) && decide (sc.names.lookup o = some .local)) && ((np.line == mp.line) && (np.line == op.line)) && (kE p sc a v && kE p sc b u && kE p sc c w) && !([v, u, w].all (foldedForSure 8)) && !([v, u, w].all (constantsAlone 8))
    | _ => false
  | .parG is es, x => match x with
    | .Assign [.Tuple ts _ _] (.Tuple vs _ _) _ => namesB p sc is ts && kA p sc es vs && swNo sc ts
    | _ => false
  | .trm a b hs, x => match x with
    | .Try u (h₀ :: t) [] [] _ => match p.N[a]? with
      | some m => kLoc p sc a m && kSs p sc b u && kHs p sc a m hs (h₀ :: t)
      | none => false
    | _ => false
def kSs (p : Par) (sc : Scope) : Ss → List Stmt → Bool
  | .nil, xs => match xs with
    | [] => true
    | _ => false
  | .cons s r, xs => match xs with
    | x :: xs => kS p sc s x && kSs p sc r xs
    | _ => false
  | .frz _ r, xs => kSs p sc r xs
end
structure CtxS (T : Tab) (k : Nat) (N : List Str) (mg : Str → Option Value) (X : Cx) (Wx : WX) (sc : Scope) : Prop where
  c : Ctx T k N mg X Wx sc
  fn : ∀ x, X.fn x = true
  po : PassesOwn (model X.prog X.w) X.A X.env X.xe
  kd : sc.kind = .function
  stk : X.stack = X.env :: X.outer
  fr : X.env.frame = some X.env.locals
section
variable {T : Tab} {k : Nat} {p : Par} {Γ : Env2} {X : Cx} {mg : Str → Option Value} {Wx : WX} {sc : Scope}
theorem loc_of (C : CtxS T k p.N mg X Wx sc) {x : Str} (h : locB sc x = true) : Loc X.env.scope x := by
  rw [C.c.eS]
  unfold locB at h
  split at h
  · exact .inl (by assumption)
  · exact .inr (by assumption)
  · cases h
theorem name_of (C : CtxS T k p.N mg X Wx sc) {i : Nat} {n : Str} {pos : Pos} (h1 : p.N[i]? = some n) (h2 : locB sc n = true) : PG X (.Name n pos) (gName i) :=
  pg_name (by rw [C.c.eN]; exact C.c.nd) (by rw [C.c.eN]; exact h1) (loc_of C h2) (.inl (C.fn n))
theorem wTs_no : ∀ is ws σ M Q E, wTs is ws σ M Q E → wTs is ws σ M Q fun _ _ => False
  | [] => wgNil_no
  | i :: r => wgCons_no (wTs_no r)
theorem names_of (C : CtxS T k p.N mg X Wx sc) : ∀ {is : List Nat} {xs : List Expr}, namesB p sc is xs = true → PGs X xs (lowGs T Wx (wTs is)) ∧ (assignEach xs X.env).length = is.length ∧ (assignEach xs X.env).findIdx? (·.1) = none
  | [], [], _ => ⟨gs_nil, rfl, rfl⟩
  | i :: is, x :: xs, h => by
    have h : (nameB p sc i x && namesB p sc is xs) = true := h
    rw [Bool.and_eq_true] at h
    obtain ⟨q1, q2, q3⟩ := names_of C h.2
    cases x with
    | Name n pos =>
      have h1 : (decide (p.N[i]? = some n) && locB sc n) = true := h.1
      rw [Bool.and_eq_true, decide_eq_true_eq] at h1
      refine ⟨gs_cons (name_of C h1.1 h1.2) q1 rfl (wTs_no is), ?_, ?_⟩
      · show (assignEach xs X.env).length + 1 = is.length + 1
        rw [q2]
      · show ((false, assign (.Name n pos) X.env) :: assignEach xs X.env).findIdx? (·.1) = none
        rw [List.findIdx?_cons, q3]
        rfl
    | _ => exact nomatch h.1
  | [], _ :: _, h => nomatch h
  | _ :: _, [], h => nomatch h
theorem tg_of (C : CtxS T k p.N mg X Wx sc) (O : GOk X T k p Γ) {t : Tg} {x : Expr} (h : kTg p sc t x = true) : PG X x (lowG T Wx (wTg Γ t)) ∧ (assignEach [x] X.env).map (·.2) = [assign x X.env] := by
  cases t with
  | name i =>
    cases x with
    | Name n pos =>
      have h : (decide (p.N[i]? = some n) && locB sc n) = true := h
      rw [Bool.and_eq_true, decide_eq_true_eq] at h
      exact ⟨g_name (name_of C h.1 h.2), rfl⟩
    | _ => exact nomatch h
  | tup is =>
    cases x with
    | Tuple xs j pos =>
      obtain ⟨h1, h2, h3⟩ := names_of C (show namesB p sc is xs = true from h)
      exact ⟨g_tup C.c h1 h2 h3, rfl⟩
    | _ => exact nomatch h
  | lst is =>
    cases x with
    | Tuple xs j pos =>
      obtain ⟨h1, h2, h3⟩ := names_of C (show namesB p sc is xs = true from h)
      exact ⟨g_lst C.c h1 h2 h3, rfl⟩
    | _ => exact nomatch h
  | sub o i =>
    cases x with
    | Subscript a b pos =>
      have h : (kE p sc o a && kE p sc i b) = true := h
      rw [Bool.and_eq_true] at h
      refine ⟨g_sub (sE o C.c O a h.1) (sE i C.c O b h.2) fun v => ?_, rfl⟩
      cases b with
      | Slice lo hi st pos => rw [kE_slice] at h; exact nomatch h.2
      | _ => rfl
    | _ => exact nomatch h
theorem sw_false {v : Expr} {t : Option Expr} {l : Nat} {env : Env} {e : E} (h : kE p sc e v = true) (hl : isLc v = false) : swapsWith v t l env = pure false := by
  cases v with
  | ListComp _ _ _ _ => exact nomatch hl
  | DictComp _ _ _ _ _ => exact nomatch hl
  | SetComp _ _ _ _ => rw [kE_sc] at h; exact nomatch h
  | _ => rfl
theorem sw_attr {v o : Expr} {n : Str} {ap : Pos} {l : Nat} {env : Env} : swapsWith v (some (.Attribute o n ap)) l env = pure false := by cases v <;> rfl
theorem sw_sub {v a b : Expr} {ap : Pos} {l : Nat} {env : Env} : swapsWith v (some (.Subscript a b ap)) l env = pure false := by cases v <;> rfl
theorem sw_cell {v : Expr} {n : Str} {np : Pos} {l : Nat} {env : Env} (h : env.scope.names.lookup n = some .cell) : swapsWith v (some (.Name n np)) l env = pure false := by
  have e : env.kindOf n = some .cell := h
  have e2 : (env.kindOf n == some .local) = false := by rw [e]; rfl
  cases v <;> first | rfl | (simp only [swapsWith, e2, Bool.and_false, Bool.false_and])
theorem sws_none {tg v : Expr} {env : Env} (h : (isTup tg && isTup v) = false) : swappedStores [tg] v env = pure none := by
  cases tg with
  | Tuple ts j pos =>
    cases v with
    | Tuple _ _ _ => exact nomatch h
    | List _ _ => exact nomatch h
    | _ => rfl
  | List ts pos =>
    cases v with
    | Tuple _ _ _ => exact nomatch h
    | List _ _ => exact nomatch h
    | _ => rfl
  | _ => rfl
theorem s_frz {xs : List Stmt} {i : Nat} {t : TS2} (h : PSs X xs (lowS T Wx t)) : PSs X xs (lowS T Wx (wFrz i t)) := h.imp fun D σ H q => by
  obtain ⟨G, σ2, M, D2, sr, rs, ⟨a, us, ds, h1, h2, h3, q⟩, pd⟩ := q
  cases unD_eq h3
  obtain ⟨v, hv, rv⟩ := rs.get h1
  obtain ⟨vs, ho, rr⟩ := sr.lst h2
  have g0 := (sr.ce _ _ h2).1
  have mo := Mo.of (same_new (o := HO.lst vs) g0)
  cases (show v = .ref a from rv)
  refine ⟨upd G a (.lst vs), σ2.set i (some (.d (.lst ds))), del M a, D2, sr.freeze h2 ho, ?_, q, pd.mono mo⟩
  have z := RS.set (w := .d (.lst ds)) (v := .ref a) (show RW T (upd G a (.lst vs)) (.d (.lst ds)) (.ref a) from ⟨a, vs, rfl, upd_same, (RpL.of rr).mono mo⟩) i (rs.mono mo)
  have e : σ.set i (some (.ref a)) = σ := by
    apply List.ext_getElem?
    intro j
    by_cases hj : i = j
    · subst hj
      rw [List.getElem?_set_self (List.getElem?_eq_some_iff.mp hv).1, hv]
    · rw [List.getElem?_set_ne hj]
  rw [e] at z
  exact z
theorem s_par3 {i j l : Nat} {tg v : Expr} {pos : Pos} {ta : TA2} (h1 : PS X (.Assign [tg] v pos) (tPar3 i j l (lowA T Wx ta))) : PS X (.Assign [tg] v pos) (lowS T Wx (wPar3 i j l ta)) := h1.imp fun D σ H q => by
  obtain ⟨G, σ2, M, D2, sr, rs, q, pd⟩ := q
  refine ⟨G, σ2, M, _, _, sr, rs, q, fun ws M1 G1 H1 vs m1 sr1 rw1 q3 => ?_, pd.px rs⟩
  obtain ⟨u, v, w, rfl, q3⟩ := q3
  cases rw1 with
  | cons r1 t => cases t with
    | cons r2 t => cases t with
      | cons r3 t =>
        cases t
        exact ⟨_, _, _, rfl, pd.nx _ M1 G1 H1 _ m1 sr1 (RS.set r3 l (RS.set r2 j (RS.set r1 i (rs.mono m1)))) q3⟩
theorem s_parG {ts vs : List Expr} {is : List Nat} {ta : TA2} {kt k2 : Nat} {tp pt2 pos : Pos} (C : Ctx T k p.N mg X Wx sc) (ha : PA X vs (lowA T Wx ta)) (h : PGs X ts (lowGs T Wx (wTs is))) (hn : (assignEach ts X.env).length = is.length) (hst : (assignEach ts X.env).findIdx? (·.1) = none) (hw : swNo sc ts = true) :
    PS X (.Assign [.Tuple ts kt tp] (.Tuple vs k2 pt2) pos) (lowS T Wx (wParG is ta)) := (ps_asg (pe_tup ha) (pg_tup C.calm h hn hst) rfl (sws_no (by rw [C.eS]; exact hw)) rfl).imp fun D σ H q => by
  obtain ⟨G, σ2, M, D2, sr, rs, q, pd⟩ := q
  refine ⟨G, σ2, M, _, _, sr, rs, q, fun ws M1 G1 H1 us m1 sr1 rw1 q3 => ?_, pd.px rs⟩
  obtain ⟨h1, h2, q3⟩ := q3
  have hz : us.length ≤ 1000 := by rw [← rw1.len]; exact h1
  refine ⟨small hz, fun q hq => ?_⟩
  have mo := Mo.of (same_new (o := HO.tup us) (sr1.free hq))
  exact ⟨q, us, rfl, SqT.of upd_same, by rw [← rw1.len]; exact h2, _, σ2, M1, ws, _, _, sr1.laid hq, rs.mono (m1.trans mo), rw1.mono mo, q3, fun a b c d e g s1 r1 q4 => pd.nx a b c d e ((m1.trans mo).trans g) s1 r1 q4, fun _ _ _ _ _ _ _ _ _ f => f.elim⟩
theorem s_par {i j : Nat} {n m : Str} {a b : Expr} {ta : TA2} {np mp tp pos : Pos} {kt k2 : Nat} {pt2 : Pos} (C : CtxS T k p.N mg X Wx sc) (hi : p.N[i]? = some n) (hj : p.N[j]? = some m) (hij : i ≠ j) (hn : sc.names.lookup n = some .local) (hm : sc.names.lookup m = some .local)
    (ha : PA X [a, b] (lowA T Wx ta)) (h1 : PS X (.Assign [.Tuple [.Name n np, .Name m mp] kt tp] (.Tuple [a, b] k2 pt2) pos) (tPar i j (lowA T Wx ta))) : PS X (.Assign [.Tuple [.Name n np, .Name m mp] kt tp] (.Tuple [a, b] k2 pt2) pos) (lowS T Wx (wPar i j ta)) := h1.imp fun D σ H q => by
  obtain ⟨G, σ2, M, D2, sr, rs, q, pd⟩ := q
  refine ⟨G, σ2, M, _, _, sr, rs, q, fun ws M1 G1 H1 vs m1 sr1 rw1 q3 => ?_, pd.px rs⟩
  obtain ⟨v, w, rfl, q3⟩ := q3
  obtain ⟨v1, w1, rfl, r1, r2⟩ := rw1.two
  exact ⟨v1, w1, rfl, pd.nx _ M1 G1 H1 _ m1 sr1 (RS.set r2 j (RS.set r1 i (rs.mono m1))) q3⟩
end
end Z
set_option maxHeartbeats 8000000
/-! Z13: every checked statement runs as its meaning says; a def keeps its promise -/
namespace Z
open PySem PySem.Spec PyProof.Rows L2
section
variable {T : Tab} {k : Nat} {p : Par} {Γ : Env2} {X : Cx} {mg : Str → Option Value} {Wx : WX} {sc : Scope}
theorem sws_par {n m : Str} {a b : Expr} {np mp tp pt2 : Pos} {kt k2 : Nat} {env : Env} (hk : env.scope.kind = .function) (h1 : env.scope.names.lookup n = some .local) (h2 : env.scope.names.lookup m = some .local) (hl : (np.line == mp.line) = true) (hnm : n ≠ m)
    (hs : starEach [a, b] env = [(false, eval a env), (false, eval b env)]) (h3 : ([a, b].all (foldedForSure 8)) = false) (h4 : ([a, b].all (constantsAlone 8)) = false) : swappedStores [.Tuple [.Name n np, .Name m mp] kt tp] (.Tuple [a, b] k2 pt2) env = pure (some [n, m]) := by
  have hb : env.blockKind = .function := by unfold Env.blockKind; rw [hk]; rfl
  have ka : env.kindOf n = some .local := h1
  have kb : env.kindOf m = some .local := h2
  have hst : ([a, b].any fun | .Starred .. => true | _ => false) = false := by
    cases a <;> cases b <;> first | rfl | (simp [starEach] at hs)
  have hl' : mp.line = np.line := (beq_iff_eq.mp hl).symm
  have hnm' : (m == n) = false := by simpa using hnm.symm
  unfold swappedStores
  simp [hb, ka, kb, hst, h3, h4, Expr.pos, hl', List.eraseDups_cons, hnm']
  intro h
  rcases h with h | h
  · cases a with
    | Starred _ _ => simp [starEach] at hs
    | _ => exact nomatch h
  · cases b with
    | Starred _ _ => cases a <;> simp [starEach] at hs
    | _ => exact nomatch h
theorem sws_par3 {n m o : Str} {a b c : Expr} {np mp op tp pt2 : Pos} {kt k2 : Nat} {env : Env} (hk : env.scope.kind = .function) (h1 : env.scope.names.lookup n = some .local) (h2 : env.scope.names.lookup m = some .local) (h5 : env.scope.names.lookup o = some .local) (hl : (np.line == mp.line) = true) (hl2 : (np.line == op.line) = true) (hnm : n ≠ m) (hno : n ≠ o) (hmo : m ≠ o)
    (hs : starEach [a, b, c] env = [(false, eval a env), (false, eval b env), (false, eval c env)]) (h3 : ([a, b, c].all (foldedForSure 8)) = false) (h4 : ([a, b, c].all (constantsAlone 8)) = false) : swappedStores [.Tuple [.Name n np, .Name m mp, .Name o op] kt tp] (.Tuple [a, b, c] k2 pt2) env = pure (some [n, m, o]) := by
  have hb : env.blockKind = .function := by unfold Env.blockKind; rw [hk]; rfl
  have ka : env.kindOf n = some .local := h1
  have kb : env.kindOf m = some .local := h2
  have kc : env.kindOf o = some .local := h5
  have hl' : mp.line = np.line := (beq_iff_eq.mp hl).symm
  have hl2' : op.line = np.line := (beq_iff_eq.mp hl2).symm
  have e1 : (m == n) = false := by simpa using hnm.symm
  have e2 : (o == n) = false := by simpa using hno.symm
  have e3 : (o == m) = false := by simpa using hmo.symm
  unfold swappedStores
  simp [hb, ka, kb, kc, h3, h4, Expr.pos, hl', hl2', List.eraseDups_cons, e1, e2, e3]
  intro h
  rcases h with h | h | h
  · cases a with
    | Starred _ _ => simp [starEach] at hs
    | _ => exact nomatch h
  · cases b with
    | Starred _ _ => cases a <;> simp [starEach] at hs
    | _ => exact nomatch h
  · cases c with
    | Starred _ _ => cases a <;> cases b <;> simp [starEach] at hs
    | _ => exact nomatch h
theorem s_doc {z : Str} {j : Nat} {pos pos' : Pos} : PS X (.Expr (.Constant (.str z) j pos) pos') (lowS T Wx wNext) := ps_doc.imp fun D σ H h => by
  obtain ⟨G, σ2, M, D2, sr, rs, q, pd⟩ := h
  exact pd.nx _ M G H _ (Mo.refl _) sr rs q
/-- y = [..], the store within -/
theorem sLc (t : Tg) (e : E) (C : CtxS T k p.N mg X Wx sc) (O : GOk X T k p Γ) (tg v : Expr) (pos : Pos) (h1 : kTg p sc t tg = true) (h2 : kE p sc e v = true) (h4 : swB sc tg v = true) (h5 : notLock e = true) : PS X (.Assign [tg] v pos) (lowS T Wx (wAsg (wE Γ e) (wTg Γ t))) := by
  cases tg with
  | Name n np =>
    cases v with
    | ListComp el gens scope lp =>
      have h4 : ((match sc.names.lookup n with | some .local => true | _ => false) && (np.line == lp.line) && !(scope.names.any fun (m, k) => m == n && (k == .local || k == .cell))) = true := h4
      simp only [Bool.and_eq_true, Bool.not_eq_true'] at h4
      obtain ⟨⟨s1, s2⟩, s3⟩ := h4
      have s1 : sc.names.lookup n = some .local := by
        split at s1
        · assumption
        · exact nomatch s1
      cases t with
      | name i =>
        have h1 : (decide (p.N[i]? = some n) && locB sc n) = true := h1
        rw [Bool.and_eq_true, decide_eq_true_eq] at h1
        cases e with
        | lc m it j c elt =>
          match gens, h2 with
          | [], h => simp [kE] at h
          | _ :: _ :: _, h => simp [kE] at h
          | [⟨tg, iter, ifs, as⟩], h =>
            cases tg with
            | Name y yp =>
              have ha : as = 0 := by
                refine Classical.byContradiction fun q => ?_
                simp [kE, q] at h
              subst ha
              have h : (decide (p.N[j]? = some y) && locB scope y && blkC p.N sc scope [(y, j)] && !pairIt it && kI p sc it iter && kF p (relS scope sc) c ifs && kE p (relS scope sc) elt el) = true := h
              simp only [Bool.and_eq_true, decide_eq_true_eq] at h
              obtain ⟨⟨⟨⟨⟨⟨q1, q2⟩, q3⟩, q0⟩, q4⟩, q5⟩, q6⟩ := h
              have bk : BlkOk X.N X.env.scope scope [(y, j)] := by rw [C.c.eN, C.c.eS]; exact blkOk_by q3
              have hg : ∀ (s : Shared) (H : Hp) (D : Addr) (cl : List (Str × Addr)) (fp : List Addr), PG (X.blk s H scope (compEnvC scope cl D X.env) fp) (.Name y yp) (gName j) := fun s H D cl fp => by
                unfold locB at q2
                split at q2
                · rename_i q
                  have q' : (relS scope X.env.scope).names.lookup y = some .local := lookup_relS_keep (by decide) q
                  exact pg_name (by rw [C.c.eN]; exact C.c.nd) (by rw [C.c.eN]; exact q1) (.inl q') (.inr q')
                · rename_i q
                  have q' : (relS scope X.env.scope).names.lookup y = some .cell := lookup_relS_keep (by decide) q
                  exact pg_name (by rw [C.c.eN]; exact C.c.nd) (by rw [C.c.eN]; exact q1) (.inr q') (.inl (by show (scope.names.lookup y == some .cell) = true; rw [q]; rfl))
                · cases q2
              obtain ⟨i1, i2⟩ := sI it C.c O (.Name y yp) iter (tup_name q0) q4
              have main := ps_setLc (spos := pos) (py := np) (pos := lp) (y := n) (i := i) C.c.calm (by rw [C.c.eN]; exact C.c.nd) (by rw [C.c.eN]; exact h1.1) (by rw [C.c.eS]; exact s1) (sw_true (by rw [C.c.eS]; exact C.kd) (by rw [C.c.eS]; exact s1) s2 s3) i1 bk hg (fun s H D cl fp => sF c (C.c.blk (cl := cl) (fp := fp)) (GOk_blk O) ifs q5) (fun s H D cl fp => sE elt (C.c.blk (cl := cl) (fp := fp)) (GOk_blk O) el q6) i2
              refine main.imp fun D σ H q => ?_
              obtain ⟨G, σ2, M, D2, sr, rs, q, pd⟩ := q
              refine low_lc (m := m) (Wx := Wx) gl_name ?_
              exact ⟨G, σ2, M, _, _, sr, rs, q, fun w M1 G1 H1 v m1 sr1 rw1 q3 => pd.nx _ M1 G1 H1 _ m1 sr1 (RS.set rw1 i (rs.mono m1)) q3, pd.px rs⟩
            | _ => exact nomatch h
        | ext u es => cases u with
          | srt u m => cases u <;> exact nomatch h2
          | lock _ _ => exact nomatch h5
          | _ => exact nomatch h2
        | lct _ _ _ _ _ => exact nomatch h5
        | _ => exact nomatch h2
      | _ => exact nomatch h1
    | _ => exact nomatch h4
  | _ => exact nomatch h4
theorem no_ps {x : Stmt} : PS X x (lowS T Wx fun _ _ _ => False) := ⟨fun pins s σ H D I q => by
  obtain ⟨_, _, _, _, _, _, f, _⟩ := q
  exact f.elim⟩
theorem s_andS {P : Prop} {t : TS2} {x : Stmt} (h : P → PS X x (lowS T Wx t)) : PS X x (lowS T Wx (wAndS P t)) := ⟨fun pins s σ H D I q => by
  obtain ⟨G, σ2, M, D2, sr, rs, ⟨hp, q⟩, pd⟩ := q
  exact (h hp).run pins s σ H D I ⟨G, σ2, M, D2, sr, rs, q, pd⟩⟩
theorem star_of {es : Es} {v : Expr} {vs : List Expr} {env : Env} {pos : Pos} (h : kA p sc es (v :: vs) = true) : starEach (v :: vs) env = (false, eval v env) :: starEach vs env ∧ (backTo pos (starEach vs env)).any (·.1) = false := by
  cases es with
  | nil => exact nomatch h
  | cons e r =>
    have h : (kE p sc e v && kA p sc r vs) = true := h
    rw [Bool.and_eq_true] at h
    exact ⟨starEach_of h.1, backTo_any (starEach_all h.2)⟩
/-! ### suites -/
section
variable {cls : Value} {d : Option Addr} {ok : List (Nat × Str)} {a : Addr} {oe : Obj} {pn : List (Addr × Obj)}
theorem at_ok (C : CtxS T k p.N mg X Wx sc) (hok : ∀ q ∈ ok, XfC X.K (T.cls q.1) ∧ PySem.W.findIn X.K (.ref (T.cls q.1)) q.2 = some none) (hz : Zc cls d oe) (hf : ∃ vs, oe.data = .fields vs) (m : Option Nat) (t : At) (x : Expr) (h : kAt p sc m t x = true) :
    PE (X.suite a ((a, oe) :: pn)) x (lowAt T ok cls d t (m.getD 0) a) := by
  have pv : ∀ {i : Nat} {n : Str} {pos : Pos}, (decide (p.N[i]? = some n) && visB sc n && okN n) = true → PE (X.suite a ((a, oe) :: pn)) (.Name n pos) (tVar i) := fun {i n pos} h => by
    simp only [Bool.and_eq_true, decide_eq_true_eq] at h
    obtain ⟨⟨h1, h2⟩, h3⟩ := h
    exact pe_var (by show X.N[i]? = some n; rw [C.c.eN]; exact h1) (by show Vis X.env.scope n; exact vis_of C.c h2) (okN_1 h3).1 (okN_1 h3).2
  cases t with
  | cst y =>
    cases x with
    | Constant v j pos =>
      have hh : kCst y v = true := h
      unfold kCst at hh
      cases e : cnOf y with
      | none => rw [e] at hh; cases hh
      | some c =>
        rw [e] at hh
        have e2 := cnOf_d e
        subst e2
        clear h
        have h : kC c v = true := hh
        cases c with
        | non => cases v with
          | none => exact at_cst pe_non fun _ => rfl
          | _ => exact nomatch h
        | bool b => cases v with
          | bool b' =>
            have e : b = b' := by simpa [kC] using h
            subst e
            exact at_cst pe_bl fun _ => rfl
          | _ => exact nomatch h
        | int b => cases v with
          | int b' =>
            have e : b = b' := by simpa [kC] using h
            subst e
            exact at_cst pe_int fun _ => rfl
          | _ => exact nomatch h
        | str b => cases v with
          | str b' =>
            have e : b = b' ∧ b.length ≤ 16777216 := by simpa [kC] using h
            obtain ⟨e, hs⟩ := e
            subst e
            exact at_cst pe_str fun _ => ⟨rfl, by rw [sizeLine_eq]; exact hs⟩
          | _ => exact nomatch h
    | _ => exact nomatch h
  | var j =>
    cases x with
    | Name n pos => exact at_var (pv h)
    | _ => exact nomatch h
  | xf f =>
    match x, m, h with
    | .Attribute (.Name n np) g pos, some i, h =>
      have h : (decide (g = f) && (decide (p.N[i]? = some n) && visB sc n && okN n)) = true := h
      rw [Bool.and_eq_true, decide_eq_true_eq] at h
      obtain ⟨rfl, h2⟩ := h
      exact at_xf C.c.eK hok hz hf (pv h2) rfl
theorem ats_ok (C : CtxS T k p.N mg X Wx sc) (hok : ∀ q ∈ ok, XfC X.K (T.cls q.1) ∧ PySem.W.findIn X.K (.ref (T.cls q.1)) q.2 = some none) (hz : Zc cls d oe) (hf : ∃ vs, oe.data = .fields vs) (m : Option Nat) : ∀ (ts : List At) (xs : List Expr), kAts p sc m ts xs = true →
    PA (X.suite a ((a, oe) :: pn)) xs (lowAts T ok cls d ts (m.getD 0) a)
  | [], [], _ => ats_nil
  | [], _ :: _, h => nomatch h
  | _ :: _, [], h => nomatch h
  | t :: ts, x :: xs, h => by
    have h : (kAt p sc m t x && kAts p sc m ts xs) = true := h
    rw [Bool.and_eq_true] at h
    refine ats_cons (at_ok C hok hz hf m t x h.1) (ats_ok C hok hz hf m ts xs h.2) ?_
    cases x with
    | Starred y pos => cases t <;> exact nomatch h.1
    | _ => rfl
theorem su_ok (C : CtxS T k p.N mg X Wx sc) (hok : ∀ q ∈ ok, XfC X.K (T.cls q.1) ∧ PySem.W.findIn X.K (.ref (T.cls q.1)) q.2 = some none) (hz : Zc cls d oe) (hf : ∃ vs, oe.data = .fields vs) (m : Option Nat) (su : Su) (xs : List Stmt) (h : kSu p sc m su xs = true) :
    PSs (X.suite a ((a, oe) :: pn)) xs (lowSX T Wx ok cls d su (m.getD 0) a) := by
  have hg : ∀ {j : Nat} {n : Str} {pos : Pos}, p.N[j]? = some n → locB sc n = true → PG (X.suite a ((a, oe) :: pn)) (.Name n pos) (gName j) := fun {j n pos} h1 h2 => by
    refine pg_name (by show X.N.Nodup; rw [C.c.eN]; exact C.c.nd) (by show X.N[j]? = some n; rw [C.c.eN]; exact h1) (loc_of C h2) (.inl ?_)
    exact C.fn n
  cases su with
  | ret t =>
    simp only [kSu] at h
    split at h
    · exact pss_one (x_ret (at_ok C hok hz hf m t _ h))
    · exact nomatch h
  | retT ts =>
    simp only [kSu] at h
    split at h
    · exact pss_one (x_retT (ats_ok C hok hz hf m ts _ h))
    · exact nomatch h
  | asg j t =>
    simp only [kSu] at h
    split at h
    · rename_i n np e pos
      simp only [Bool.and_eq_true, decide_eq_true_eq] at h
      obtain ⟨⟨h1, h2⟩, h3⟩ := h
      have hs : swapsWithSole [.Name n np] e pos.line X.env = pure false := by
        rcases kAt_form h3 with ⟨_, _, _, rfl⟩ | ⟨_, _, rfl⟩ | ⟨_, _, _, rfl⟩ <;> rfl
      have hw : swappedStores [.Name n np] e X.env = pure none := by
        rcases kAt_form h3 with ⟨_, _, _, rfl⟩ | ⟨_, _, rfl⟩ | ⟨_, _, _, rfl⟩ <;> rfl
      exact pss_one (x_asg (at_ok C hok hz hf m t e h3) (hg h1 h2) hs hw rfl)
    · exact nomatch h
  | asgT j ts =>
    simp only [kSu] at h
    split at h
    · rename_i n np es _ _ pos
      simp only [Bool.and_eq_true, decide_eq_true_eq] at h
      obtain ⟨⟨h1, h2⟩, h3⟩ := h
      exact pss_one (x_asgT (ats_ok C hok hz hf m ts _ h3) (hg h1 h2) rfl rfl rfl)
    · exact nomatch h
  | pass =>
    simp only [kSu] at h
    split at h
    · exact pss_one x_pass
    · exact nomatch h
end
theorem s_dput' (C : CtxS T k p.N mg X Wx sc) (O : GOk X T k p Γ) {o i e : E} {x : Stmt} (h : kS p sc (.dput o i e) x = true) : PS X x (lowS T Wx (wS Γ (.dput o i e))) := by
  simp only [kS] at h
  split at h
  · simp only [Bool.and_eq_true] at h
    obtain ⟨⟨h1, h2⟩, h3⟩ := h
    exact s_dput C.c (sE o C.c O _ h1) (sE i C.c O _ h2) (sE e C.c O _ h3) sw_sub
  · cases h
theorem s_iput' (C : CtxS T k p.N mg X Wx sc) (O : GOk X T k p Γ) {j : Nat} {o i e : E} {x : Stmt} (h : kS p sc (.iput j o i e) x = true) : PS X x (lowS T Wx (wS Γ (.iput j o i e))) := by
  simp only [kS] at h
  split at h
  · simp only [Bool.and_eq_true] at h
    obtain ⟨⟨h1, h2⟩, h3⟩ := h
    show PS X _ (lowS T Wx (match Γ.o.m[j]? with | some q => wAndS (q.m = "__setitem__" ∧ q.c ∈ Γ.o.g) (wOput q.c q.sp q.dws (wE Γ o) (wE Γ i) (wE Γ e)) | none => fun _ _ _ => False))
    cases hq : Γ.o.m[j]? with
    | none => exact no_ps
    | some q =>
      refine s_andS fun hp => ?_
      have F := O.om q (List.mem_of_getElem? hq)
      rw [hp.1] at F
      exact s_oput C.c F (O.og _ hp.2) (sE o C.c O _ h1) (sE i C.c O _ h2) (sE e C.c O _ h3) sw_sub
  · cases h
theorem s_ddel' (C : CtxS T k p.N mg X Wx sc) (O : GOk X T k p Γ) {o i : E} {x : Stmt} (h : kS p sc (.ddel o i) x = true) : PS X x (lowS T Wx (wS Γ (.ddel o i))) := by
  simp only [kS] at h
  split at h
  · simp only [Bool.and_eq_true] at h
    exact s_ddel (sE o C.c O _ h.1) (sE i C.c O _ h.2)
  · cases h
theorem s_augf' (C : CtxS T k p.N mg X Wx sc) (O : GOk X T k p Γ) {add : Bool} {f : Str} {o e : E} {x : Stmt} (h : kS p sc (.augf add f o e) x = true) : PS X x (lowS T Wx (wS Γ (.augf add f o e))) := by
  cases x with
  | AugAssign tg op v pos =>
    cases tg with
    | Attribute r n ap =>
      have h : (decide (op = if add = true then .Add else .Sub) && decide (n = f) && kE p sc o r && kE p sc e v) = true := h
      simp only [Bool.and_eq_true, decide_eq_true_eq] at h
      obtain ⟨⟨⟨rfl, rfl⟩, h3⟩, h4⟩ := h
      exact s_augF C.c.eK (fun c hc => by rw [← C.c.eK]; exact O.oa _ hc) (sE o C.c O r h3) (sE e C.c O v h4)
    | _ => exact nomatch h
  | _ => exact nomatch h
theorem rais_form {i : Nat} {y : Str} {es : Es} {x : Stmt} (h : kS p sc (.rais i y es) x = true) : ∃ np v vs cp pos, x = .Raise (some (.Call (.Name y np) (v :: vs) [] cp)) none pos ∧ glB sc y = true ∧ okN y = true ∧ kA p sc es (v :: vs) = true := by
  cases x with
  | Raise e c pos =>
    cases c with
    | some c => cases e with
      | none => exact nomatch h
      | some e => cases e with
        | Call f as kws cp => cases f <;> cases as <;> cases kws <;> exact nomatch h
        | _ => exact nomatch h
    | none => cases e with
      | none => exact nomatch h
      | some e => cases e with
        | Call f as kws cp =>
          cases f with
          | Name n np =>
            cases as with
            | nil => exact nomatch h
            | cons v vs =>
              cases kws with
              | cons _ _ => exact nomatch h
              | nil =>
                have h : (decide (n = y) && glB sc n && okN n && kA p sc es (v :: vs)) = true := h
                simp only [Bool.and_eq_true, decide_eq_true_eq] at h
                obtain ⟨⟨⟨rfl, h2⟩, h3⟩, h4⟩ := h
                exact ⟨np, v, vs, cp, pos, rfl, h2, h3, h4⟩
          | _ => cases as <;> cases kws <;> exact nomatch h
        | _ => exact nomatch h
  | _ => exact nomatch h
theorem s_rais (C : CtxS T k p.N mg X Wx sc) (O : GOk X T k p Γ) {i : Nat} {y : Str} {es : Es} {x : Stmt} (h : kS p sc (.rais i y es) x = true) : PS X x (lowS T Wx (wS Γ (.rais i y es))) := by
  obtain ⟨np, v, vs, cp, pos, rfl, h2, h3, h4⟩ := rais_form h
  show PS X _ (lowS T Wx (match Γ.o.x[i]? with | some q => wAndS (q.x = y) (wRaise q (wA Γ es)) | none => fun _ _ _ => False))
  cases hq : Γ.o.x[i]? with
  | none => exact no_ps
  | some q =>
    refine s_andS fun e => ?_
    subst e
    obtain ⟨j, rfl, F⟩ := O.ox q (List.mem_of_getElem? hq)
    have pa := sA es C.c O (v :: vs) h4
    obtain ⟨st, an⟩ := star_of (pos := cp) (env := X.env) h4
    exact s_raise C.c F (gl_of C.c h2) pa (okN_1 h3).1 st an
theorem s_augo' (C : CtxS T k p.N mg X Wx sc) (O : GOk X T k p Γ) {o : BOO} {j i : Nat} {e : E} {x : Stmt} (h : kS p sc (.augo o j i e) x = true) : PS X x (lowS T Wx (wS Γ (.augo o j i e))) := by
  simp only [kS] at h
  split at h
  · simp only [Bool.and_eq_true, decide_eq_true_eq] at h
    obtain ⟨⟨⟨rfl, h2⟩, h3⟩, h4⟩ := h
    show PS X _ (lowS T Wx (match Γ.o.m[j]? with | some q => wAndS (q.m = o.mi ∧ q.c ∈ Γ.o.g) (wAugO q.c q.sp q.dws i (wE Γ e)) | none => fun _ _ _ => False))
    cases hq : Γ.o.m[j]? with
    | none => exact no_ps
    | some q =>
      refine s_andS fun hp => ?_
      exact s_augO C.c (O.om q (List.mem_of_getElem? hq)) (O.og _ hp.2) (hp.1.trans o.mi_eq) (by rw [C.c.eN]; exact C.c.nd) (by rw [C.c.eN]; exact h2) (loc_of C h3) (sE e C.c O _ h4) (.inl (C.fn _))
  · cases h
theorem sParG (C : CtxS T k p.N mg X Wx sc) {is : List Nat} {es : Es} {x : Stmt} (pa : ∀ vs, kA p sc es vs = true → PA X vs (lowA T Wx (wA Γ es))) (h : kS p sc (.parG is es) x = true) : PS X x (lowS T Wx (wS Γ (.parG is es))) := by
  simp only [kS] at h
  split at h
  · simp only [Bool.and_eq_true] at h
    obtain ⟨⟨h1, h2⟩, h3⟩ := h
    obtain ⟨g1, g2, g3⟩ := names_of C h1
    exact s_parG C.c (pa _ h2) g1 g2 g3 h3
  · cases h
theorem sPar3 (C : CtxS T k p.N mg X Wx sc) (O : GOk X T k p Γ) {i j l : Nat} {a b c : E} {x : Stmt} (h : kS p sc (.par3 i j l a b c) x = true) (pa : ∀ v, kE p sc a v = true → PE X v (lowE T Wx (wE Γ a))) (pb : ∀ v, kE p sc b v = true → PE X v (lowE T Wx (wE Γ b))) (pc : ∀ v, kE p sc c v = true → PE X v (lowE T Wx (wE Γ c))) :
    PS X x (lowS T Wx (wS Γ (.par3 i j l a b c))) := by
  simp only [kS] at h
  split at h
  · simp only [Bool.and_eq_true, decide_eq_true_eq, Bool.not_eq_true'] at h
    obtain ⟨⟨⟨⟨⟨⟨⟨⟨hi, hj⟩, hl⟩, ⟨hij, hil⟩, hjl⟩, ⟨n1, n2⟩, n3⟩, l1, l2⟩, ⟨k1, k2⟩, k3⟩, f1⟩, f2⟩ := h
    have ha := a_cons (pa _ k1) (a_cons (pb _ k2) (a_cons (pc _ k3) (a_nil (T := T) (Wx := Wx)) (starEach_of k3)) (starEach_of k2)) (starEach_of k1)
    refine s_par3 (ps_par3 C.c.calm (by rw [C.c.eN]; exact C.c.nd) (by rw [C.c.eN]; exact hi) (by rw [C.c.eN]; exact hj) (by rw [C.c.eN]; exact hl) hij hil hjl (by rw [C.c.eS]; exact n1) (by rw [C.c.eS]; exact n2) (by rw [C.c.eS]; exact n3) ha ?_)
    refine sws_par3 (by rw [C.c.eS]; exact C.kd) (by rw [C.c.eS]; exact n1) (by rw [C.c.eS]; exact n2) (by rw [C.c.eS]; exact n3) l1 l2 (fun e => ?_) (fun e => ?_) (fun e => ?_) (by rw [starEach_of k1, starEach_of k2, starEach_of k3]; rfl) f1 f2
    · subst e; exact hij (nodup_ix C.c.nd hi hj)
    · subst e; exact hil (nodup_ix C.c.nd hi hl)
    · subst e; exact hjl (nodup_ix C.c.nd hj hl)
  · cases h
theorem hs_ok (C : CtxS T k p.N mg X Wx sc) (O : GOk X T k p Γ) {a : Nat} {m : Str} : ∀ {hs : List (Nat × Str × Su)} {t : List ExceptHandler} {l : List (Hdl × Su)}, kHs p sc a m hs t = true → hsOf Γ hs = some l →
    ∃ l' : List (Value × Ts), Paired (fun p q => (∀ z ∈ p.1.m, PySem.W.exmOne X.K (.ref (T.cls z.1)) q.1 = some z.2) ∧ q.2 = fun b cls d => lowSX T Wx p.1.r cls d p.2 a b) l l' ∧ HdsA X m t l'
  | [], t, l, h, e => by
    cases e
    cases t with
    | nil => exact ⟨[], .nil, .nil⟩
    | cons _ _ => exact nomatch h
  | (i, y, su) :: r, t, l, h, e => by
    simp only [kHs] at h
    split at h
    · simp only [Bool.and_eq_true, decide_eq_true_eq] at h
      obtain ⟨⟨⟨⟨⟨rfl, h2⟩, h3⟩, rfl⟩, h5⟩, h6⟩ := h
      simp only [hsOf] at e
      split at e
      · rename_i q hq
        split at e
        · rename_i hx
          cases er : hsOf Γ r with
          | none => rw [er] at e; cases e
          | some lr =>
            rw [er] at e
            cases e
            obtain ⟨l', hp, hh⟩ := hs_ok C O h6 er
            have F' : KhP X.K X.mg T q := O.oh q (List.mem_of_getElem? hq)
            obtain ⟨c, hm, hxm⟩ := F'.ex
            rw [hx] at hm
            exact ⟨(c, _) :: l', .cons ⟨hxm, rfl⟩ hp, .cons ⟨gl_of C.c h2, (okN_1 h3).1, .inl hm⟩ (fun b oe cls d pn hz hf => su_ok C F'.rd hz hf (some a) su _ h5) hh⟩
        · cases e
      · cases e
    · cases h
theorem s_trm (C : CtxS T k p.N mg X Wx sc) (O : GOk X T k p Γ) {a : Nat} {b : Ss} {hs : List (Nat × Str × Su)} {x : Stmt}
    (sb : ∀ {X : Cx} {Wx : WX}, CtxS T k p.N mg X Wx sc → GOk X T k p Γ → ∀ u, kSs p sc b u = true → PSs X u (lowS T Wx (wSs Γ b))) (h : kS p sc (.trm a b hs) x = true) : PS X x (lowS T Wx (wS Γ (.trm a b hs))) := by
  simp only [kS] at h
  split at h
  · split at h
    · rename_i u h₀ t pos _ m hm
      simp only [Bool.and_eq_true] at h
      obtain ⟨⟨h1, h2⟩, h3⟩ := h
      unfold kLoc at h1
      simp only [Bool.and_eq_true, decide_eq_true_eq] at h1
      show PS X _ (lowS T Wx (match hsOf Γ hs with | some l => wTryM a l (wSs Γ b) | none => fun _ _ _ => False))
      cases e : hsOf Γ hs with
      | none => exact no_ps
      | some l =>
        obtain ⟨l', hp, hh⟩ := hs_ok C O h3 e
        have body : ∀ (W : WX) (pn : List (Addr × Obj)) (xe : Value → Shared → Prop), Takes (X.tr pn xe) W → PassesOwn (model X.prog X.w) X.A X.env xe → PSs (X.tr pn xe) u (lowS T W (wSs Γ b)) := fun W pn xe tk po =>
          sb (X := X.tr pn xe) (Wx := W) ⟨⟨C.c.eK, C.c.eM, C.c.room, C.c.gd, C.c.calm, tk, C.c.eN, C.c.nd, C.c.eS⟩, C.fn, po, C.kd, C.stk, C.fr⟩ O u h2
        exact s_tryM C.c C.stk C.fr (by rw [C.c.eN]; exact h1.1) (by show X.env.scope.names.lookup m = _; rw [C.c.eS]; exact h1.2) body hp hh
    · cases h
  · cases h
theorem tri_form {i : Nat} {y : Str} {a : Option Nat} {b : Ss} {su : Su} {x : Stmt} (h : kS p sc (.tri i y a b su) x = true) : ∃ u np m b₀ r hp pos, x = .Try u [.ExceptHandler (some (.Name y np)) m (b₀ :: r) hp] [] [] pos ∧
    glB sc y = true ∧ okN y = true ∧ kSs p sc b u = true ∧ kSu p sc a su (b₀ :: r) = true ∧ kAs p sc m a = true := by
  cases x with
  | Try u hs els fin pos =>
    cases hs with
    | nil => exact nomatch h
    | cons h0 hs => cases hs with
      | cons _ _ => obtain ⟨t, m, bd, hp⟩ := h0; cases t with
        | none => exact nomatch h
        | some t => cases t <;> cases bd <;> exact nomatch h
      | nil =>
        obtain ⟨t, m, bd, hp⟩ := h0
        cases t with
        | none => exact nomatch h
        | some t => cases t with
          | Name n np =>
            cases bd with
            | nil => exact nomatch h
            | cons b₀ r =>
              cases els with
              | cons _ _ => exact nomatch h
              | nil => cases fin with
                | cons _ _ => exact nomatch h
                | nil =>
                  have h : (decide (n = y) && glB sc n && okN n && kSs p sc b u && kSu p sc a su (b₀ :: r) && kAs p sc m a) = true := h
                  simp only [Bool.and_eq_true, decide_eq_true_eq] at h
                  obtain ⟨⟨⟨⟨⟨rfl, h2⟩, h3⟩, h4⟩, h5⟩, h6⟩ := h
                  exact ⟨u, np, m, b₀, r, hp, pos, rfl, h2, h3, h4, h5, h6⟩
          | _ => cases bd <;> exact nomatch h
  | _ => exact nomatch h
theorem s_tri (C : CtxS T k p.N mg X Wx sc) (O : GOk X T k p Γ) {i : Nat} {y : Str} {a : Option Nat} {b : Ss} {su : Su} {x : Stmt}
    (sb : ∀ {X : Cx} {Wx : WX}, CtxS T k p.N mg X Wx sc → GOk X T k p Γ → ∀ u, kSs p sc b u = true → PSs X u (lowS T Wx (wSs Γ b))) (h : kS p sc (.tri i y a b su) x = true) : PS X x (lowS T Wx (wS Γ (.tri i y a b su))) := by
  obtain ⟨u, np, m, b₀, r, hp, pos, rfl, h2, h3, h4, h5, h6⟩ := tri_form h
  show PS X _ (lowS T Wx (match Γ.o.h[i]? with | some q => wAndS (q.x = y) (wTry q a su (wSs Γ b)) | none => fun _ _ _ => False))
  cases hq : Γ.o.h[i]? with
  | none => exact no_ps
  | some q =>
    refine s_andS fun e => ?_
    subst e
    have F' : KhP X.K X.mg T q := O.oh q (List.mem_of_getElem? hq)
    have body : ∀ (W : WX) (pn : List (Addr × Obj)) (xe : Value → Shared → Prop), Takes (X.tr pn xe) W → PassesOwn (model X.prog X.w) X.A X.env xe → PSs (X.tr pn xe) u (lowS T W (wSs Γ b)) := fun W pn xe tk po =>
      sb (X := X.tr pn xe) (Wx := W) ⟨⟨C.c.eK, C.c.eM, C.c.room, C.c.gd, C.c.calm, tk, C.c.eN, C.c.nd, C.c.eS⟩, C.fn, po, C.kd, C.stk, C.fr⟩ O u h4
    cases a with
    | some j =>
      cases m with
      | none => exact nomatch h6
      | some z =>
        have h6 : (decide (p.N[j]? = some z) && decide (sc.names.lookup z = some .local)) = true := h6
        simp only [Bool.and_eq_true, decide_eq_true_eq] at h6
        exact s_tryA C.c C.stk C.fr (by rw [C.c.eN]; exact h6.1) (by show X.env.scope.names.lookup z = _; rw [C.c.eS]; exact h6.2) F' (gl_of C.c h2) (okN_1 h3).1 body fun a' oe cls d pn hz hf => su_ok C F'.rd hz hf (some j) su _ h5
    | none =>
      cases m with
      | some z => exact nomatch h6
      | none => exact s_tryO C.c C.stk C.fr F' (gl_of C.c h2) (okN_1 h3).1 body fun a' oe cls d pn hz hf => su_ok C F'.rd hz hf none su _ h5
mutual
theorem sS (s : S) {X : Cx} {Wx : WX} (C : CtxS T k p.N mg X Wx sc) (O : GOk X T k p Γ) (x : Stmt) (h : kS p sc s x = true) : PS X x (lowS T Wx (wS Γ s)) := match s, h with
  | .dead, h => ⟨fun pins s σ H D I q => by
      obtain ⟨_, _, _, _, _, _, f, _⟩ := q
      exact f.elim⟩
  | .setf f o e, h => by
    cases x with
    | Assign tgs v pos =>
      match tgs, h with
      | [.Attribute r n ap], h =>
        have h : (decide (n = f) && kE p sc o r && kE p sc e v) = true := h
        simp only [Bool.and_eq_true, decide_eq_true_eq] at h
        obtain ⟨⟨rfl, h2⟩, h3⟩ := h
        exact s_setF C.c.eK (fun c hc => by rw [← C.c.eK]; exact O.oa _ hc) (sE o C.c O r h2) (sE e C.c O v h3) sw_attr
    | _ => exact nomatch h
  | .pass, h => by
    cases x with
    | Pass pos => exact s_pass
    | Expr v pos =>
      cases v with
      | Constant c j pos' =>
        cases c with
        | str z => exact s_doc
        | _ => exact nomatch h
      | _ => exact nomatch h
    | _ => exact nomatch h
  | .brk, h => by
    cases x with
    | Break pos => exact s_break
    | _ => exact nomatch h
  | .cont, h => by
    cases x with
    | Continue pos => exact s_cont
    | _ => exact nomatch h
  | .ret e, h => by
    cases x with
    | Return v pos =>
      cases v with
      | none => exact nomatch h
      | some v => exact s_ret (sE e C.c O v h)
    | _ => exact nomatch h
  | .retN, h => by
    cases x with
    | Return v pos =>
      cases v with
      | none => exact s_retN
      | some v => exact nomatch h
    | _ => exact nomatch h
  | .ex e, h => by
    cases x with
    | Expr v pos =>
      have h : (kE p sc e v && !isLc v) = true := h
      rw [Bool.and_eq_true, Bool.not_eq_true'] at h
      exact s_expr (sE e C.c O v h.1) (sw_false h.1 h.2)
    | _ => exact nomatch h
  | .asg t e, h => by
    cases x with
    | Assign tgs v pos =>
      match tgs, h with
      | [tg], h =>
        have h : (kTg p sc t tg && kE p sc e v && !(isTup tg && isTup v) && (!isLc v || (swB sc tg v && notLock e || cellB sc tg))) = true := h
        simp only [Bool.and_eq_true, Bool.not_eq_true', Bool.or_eq_true] at h
        obtain ⟨⟨⟨h1, h2⟩, h3⟩, h4⟩ := h
        obtain ⟨g1, g2⟩ := tg_of C O h1
        by_cases hlc : isLc v = false
        · exact s_asg (sE e C.c O v h2) g1 (sw_false h2 hlc) (sws_none (by simpa [Bool.and_eq_false_iff] using h3)) g2
        · rcases h4 with h4 | h4 | h4
          · exact absurd h4 hlc
          · exact sLc t e C O tg v pos h1 h2 h4.1 h4.2
          · cases tg with
            | Name n np =>
              have h4 : decide (sc.names.lookup n = some .cell) = true := h4
              exact s_asg (sE e C.c O v h2) g1 (sw_cell (l := pos.line) (by rw [C.c.eS]; exact of_decide_eq_true h4)) (sws_none (by simpa [Bool.and_eq_false_iff] using h3)) g2
            | _ => exact nomatch h4
      | [], h => exact nomatch h
      | _ :: _ :: _, h => exact nomatch h
    | _ => exact nomatch h
  | .par i j a b, h => by
    cases x with
    | Assign tgs v pos =>
      match tgs, v, h with
      | [.Tuple [.Name n np, .Name m mp] kt tp], .Tuple [v, u] k2 pt2, h =>
        have h : (decide (p.N[i]? = some n) && decide (p.N[j]? = some m) && decide (i ≠ j) && decide (sc.names.lookup n = some .local) && decide (sc.names.lookup m = some .local) && (np.line == mp.line) && kE p sc a v && kE p sc b u && !([v, u].all (foldedForSure 8)) && !([v, u].all (constantsAlone 8))) = true := h
        simp only [Bool.and_eq_true, decide_eq_true_eq, Bool.not_eq_true'] at h
        obtain ⟨⟨⟨⟨⟨⟨⟨⟨⟨h1, h2⟩, h3⟩, h4⟩, h5⟩, h6⟩, h7⟩, h8⟩, h9⟩, h10⟩ := h
        have ha := a_cons (sE a C.c O v h7) (a_cons (sE b C.c O u h8) (a_nil (T := T) (Wx := Wx)) (starEach_of h8)) (starEach_of h7)
        have hnm : n ≠ m := fun e => by
          subst e
          exact h3 (nodup_ix C.c.nd h1 h2)
        refine s_par C h1 h2 h3 h4 h5 ha (ps_par C.c.calm (by rw [C.c.eN]; exact C.c.nd) (by rw [C.c.eN]; exact h1) (by rw [C.c.eN]; exact h2) h3 (by rw [C.c.eS]; exact h4) (by rw [C.c.eS]; exact h5) ha ?_)
        exact sws_par (by rw [C.c.eS]; exact C.kd) (by rw [C.c.eS]; exact h4) (by rw [C.c.eS]; exact h5) h6 hnm (by rw [starEach_of h7, starEach_of h8]; rfl) h9 h10
    | _ => exact nomatch h
  | .parG is es, h => sParG C (fun vs h' => sA es C.c O vs h') h
  | .par3 i j l a b c, h => sPar3 C O h (fun v h' => sE a C.c O v h') (fun v h' => sE b C.c O v h') (fun v h' => sE c C.c O v h')
  | .iff c a b, h => by
    cases x with
    | If t u v pos =>
      have h : (kE p sc c t && kSs p sc a u && kSs p sc b v) = true := h
      simp only [Bool.and_eq_true] at h
      exact s_if (sT c C.c O t h.1.1) (sSs a C O u h.1.2) (sSs b C O v h.2)
    | _ => exact nomatch h
  | .aug add i e, h => by
    cases x with
    | AugAssign tg op v pos =>
      cases tg with
      | Name n np =>
        have h : (decide (op = if add = true then .Add else .Sub) && decide (p.N[i]? = some n) && locB sc n && kE p sc e v) = true := h
        simp only [Bool.and_eq_true, decide_eq_true_eq] at h
        obtain ⟨⟨⟨h1, h2⟩, h3⟩, h4⟩ := h
        cases add with
        | true =>
          rw [if_pos rfl] at h1
          subst h1
          exact s_augI (ps_aug (by rw [C.c.eN]; exact C.c.nd) (by rw [C.c.eN]; exact h2) (loc_of C h3) (sE e C.c O v h4) ip_add (.inl (C.fn n)))
        | false =>
          rw [if_neg Bool.false_ne_true] at h1
          subst h1
          exact s_augI (ps_aug (by rw [C.c.eN]; exact C.c.nd) (by rw [C.c.eN]; exact h2) (loc_of C h3) (sE e C.c O v h4) ip_sub (.inl (C.fn n)))
      | _ => exact nomatch h
    | _ => exact nomatch h
  | .whl c b, h => by
    cases x with
    | While t u els pos =>
      cases els with
      | cons _ _ => exact nomatch h
      | nil =>
        have h : (kE p sc c t && kSs p sc b u) = true := h
        rw [Bool.and_eq_true] at h
        exact s_while C.po (sT c C.c O t h.1) (sSs b C O u h.2)
    | _ => exact nomatch h
  | .for t it b, h => by
    cases x with
    | For tg iter u els pos =>
      cases els with
      | cons _ _ => exact nomatch h
      | nil =>
        have h : (kTg p sc t tg && tupOk it tg && kI p sc it iter && kSs p sc b u) = true := h
        simp only [Bool.and_eq_true] at h
        obtain ⟨⟨⟨h1, h0⟩, h2⟩, h3⟩ := h
        obtain ⟨i1, i2⟩ := sI it C.c O tg iter h0 h2
        exact s_for C.c C.po i1 (tg_of C O h1).1 (sSs b C O u h3) i2
    | _ => exact nomatch h
  | .augf add f o e, h => s_augf' C O h
  | .dput o i e, h => s_dput' C O h
  | .iput j o i e, h => s_iput' C O h
  | .ddel o i, h => s_ddel' C O h
  | .lock i f s, h => s_lock C.c.tk fun W' tk' => sS s ⟨⟨C.c.eK, C.c.eM, C.c.room, C.c.gd, C.c.calm, tk', C.c.eN, C.c.nd, C.c.eS⟩, C.fn, C.po, C.kd, C.stk, C.fr⟩ O x h
  | .rais i y es, h => s_rais C O h
  | .tri i y a b su, h => s_tri C O (fun C' O' u h' => sSs b C' O' u h') h
  | .augo o j i e, h => s_augo' C O h
  | .trm a b hs, h => s_trm C O (fun C' O' u h' => sSs b C' O' u h') h
termination_by structural s
theorem sSs (r : Ss) {X : Cx} {Wx : WX} (C : CtxS T k p.N mg X Wx sc) (O : GOk X T k p Γ) (xs : List Stmt) (h : kSs p sc r xs = true) : PSs X xs (lowS T Wx (wSs Γ r)) := match r, h with
  | .nil, h => by
    cases xs with
    | nil => exact s_nil
    | cons _ _ => exact nomatch h
  | .cons s r, h => by
    cases xs with
    | nil => exact nomatch h
    | cons x xs =>
      have h : (kS p sc s x && kSs p sc r xs) = true := h
      rw [Bool.and_eq_true] at h
      exact s_cons (sS s C O x h.1) (sSs r C O xs h.2)
  | .frz i r, h => s_frz (sSs r C O xs h)
termination_by structural r
end
end
end Z
set_option maxHeartbeats 8000000
/-! Z14: a checked def keeps its promise; the law's call -/
namespace Z
open PySem PySem.Spec PyProof.Rows L2
def start2 (N : List Str) (ws : List W) : St2 := ws.map some ++ List.replicate (N.length - ws.length) none
theorem RS.nones {T : Tab} {G : Hp} : ∀ n : Nat, RS T G (List.replicate n none) (List.replicate n none)
  | 0 => .nil
  | n + 1 => .cons (show True from trivial) (RS.nones n)
theorem RS.apps {T : Tab} {G : Hp} {ws : List W} {vs : List V} {a : St2} {b : L2.St} (r : RWs T G ws vs) (t : RS T G a b) : RS T G (ws.map some ++ a) (vs.map some ++ b) := by
  induction r with
  | nil => exact t
  | cons h _ ih => exact .cons h ih
theorem start_rs {T : Tab} {G : Hp} {ws : List W} {vs : List V} {N : List Str} (r : RWs T G ws vs) : RS T G (start2 N ws) (L2.start N vs) := by
  unfold start2 L2.start
  rw [r.len]
  exact RS.apps r (RS.nones _)
abbrev endOf (Q : VK2) (E : XK2) : Ends2 := ⟨fun _ M => Q (.d .none) M, Q, fun _ _ => False, fun _ _ => False, fun x _ M => E x M⟩
/-- cells may be dropped at a def's end -/
def Dr {α : Type} (Q : α → Mp → Prop) : α → Mp → Prop := fun w M => ∃ M2, (∀ a c, M2 a = some c → M a = some c) ∧ Q w M2
/-- a def, with defaults or without -/
structure FunA (K : PySem.W.Frag) (x qual : Str) (st : Stmt) (f : Addr) (fd : FuncData) : Prop where
  ex : ∃ (oc : Value) (od : Option Addr) (dV kV doc pm : Value) (an : Option Addr) (cdv ct : Value) (osl : Array (Option Value)),
    fd = PySem.W.fnOf x qual (defArgs st) (defBody st) (defScope st) dV kV doc pm an cdv ct ∧ K.lookup f = some ⟨oc, od, .func fd, osl⟩ ∧ PySem.W.codeIn K cdv qual = true
  kp : PySem.W.keepIn K (.ref f) = true
theorem FunA.of {K : PySem.W.Frag} {x qual : Str} {st : Stmt} {f : Addr} {fd : FuncData} (F : L2.Fun K x qual st f fd) : FunA K x qual st f fd := by
  obtain ⟨oc, od, kV, doc, pm, an, cdv, ct, osl, e, lk, hcd⟩ := F.ex
  exact ⟨⟨oc, od, .none, kV, doc, pm, an, cdv, ct, osl, e, lk, hcd⟩, F.kp⟩
theorem SR.sub {T : Tab} {G H : Hp} {M M2 : Mp} (s : SR T G H M) (h : ∀ a c, M2 a = some c → M a = some c) : SR T G H M2 := ⟨s.le, fun a c e => s.ce a c (h a c e)⟩
section
variable {P : Program} {w : World} {mg : Str → Option Value} {base : Heap} {T : Tab} {k : Nat} {p : Par} {Γ : Env2} {body : Ss} {sp : Sp2}
theorem fn_okX {x qual : Str} {st : Stmt} {f : Addr} {fd : FuncData} {ps : List Str} (F : FunA T.K x qual st f fd) (S : FnScope p.N ps (defScope st)) (hk : kSs p (defScope st) body (defBody st) = true)
    (O : GOkP P w T.K mg base T k p Γ) (len : ∀ ws M Q E, sp ws M Q E → ws.length = ps.length)
    (hb : ∀ ws M Q E, sp ws M Q E → wSs Γ body (endOf Q E) (start2 p.N ws) M) : Fn P w T mg base (k + 1) f fd ps sp := by
  obtain ⟨oc, od, dV, kV, doc, pm, an, cdv, ct, osl, rfl, lk, hcd⟩ := F.ex
  refine ⟨len, fun A outer s H args us vs Q E room gds env0 bnd rv low => ?_⟩
  obtain ⟨G, ws, M, Q2, E2, sr, rr, hsp, pq, px⟩ := low
  have sizes : vs.length = ps.length := rr.len.symm.trans (len _ _ _ _ hsp)
  have inK : T.K.In s.heap := env0.mod.kin.keeps fun b o e => (env0.bs b o e).1
  have calmH : s.heap.NoLimit := env0.mod.nolimit.keeps fun b o e => (env0.bs b o e).1
  have kinds : ∀ y ∈ ps.zip us, (defScope st).names.lookup y.1 = some .local ∨ ((defScope st).names.lookup y.1 = some .cell ∧ ((cellsFrom (s.heap.objs.size + 1) (defScope st).names []).lookup y.1).isSome = true) := fun ⟨n, v⟩ hy =>
    (S.par n (List.of_mem_zip hy).1).elim .inl fun q => .inr ⟨q, PySem.W.cellsFrom_some _ _ _ (.inl q)⟩
  have code := PySem.W.codeRec_of inK hcd
  refine codeAny_call_function room.depth (inK _ _ lk) rfl S.co S.gen rfl code (bnd _ _ _ _ ?_)
  refine wpAny_newFunctionEnv_cells S.kind kinds fun env he t1 ic => ?_
  cases he
  refine ⟨calmH.keeps ic.toInCall.keep, codeAny_func ?_⟩
  let X : Cx := cxOf (L2.CX P w) P w T.K mg base p.N qual (defScope st) f cdv A outer s H E
  have tk : Takes X (fun cls d _ H => E cls d H) := L2.takes_of (X := X) (E := E) rfl rfl rfl rfl
  have po : PassesOwn (model P w) X.A X.env X.xe := PassesOwn.leaving
  have C : CtxS T k p.N mg X (fun cls d _ H => E cls d H) (defScope st) :=
    ⟨⟨rfl, rfl, room.deeper _, gds, rfl, tk, rfl, S.nd, rfl⟩, fun _ => rfl, po, S.kind, rfl, rfl⟩
  have I : Inv X [] (L2.start p.N vs) H t1 := inv_start S room.hd env0 sizes rv ic
  have run := sSs (X := X) body C (show GOk X T k p Γ from O) (defBody st) hk
  have goal : lowS T (fun cls d _ H => E cls d H) (wSs Γ body) { nx := fun _ H' => Q .non H', rt := Q } (L2.start p.N vs) H := by
    refine ⟨G, _, M, _, sr, start_rs rr, hb _ _ _ _ hsp, fun σ2 M1 G1 H1 σ1 m1 sr1 _ q => pq _ M1 G1 H1 _ m1 sr1 (show RW T G1 (.d .none) .non from rfl) q, pq, fun _ _ _ _ _ _ _ _ q => q.elim, fun _ _ _ _ _ _ _ _ q => q.elim, fun x σ2 M1 G1 H1 σ1 cls d m1 sr1 _ rx q => px x M1 G1 H1 cls d m1 sr1 rx q⟩
  refine wpAny_mono (run.run [] t1 (L2.start p.N vs) H _ I goal) (fun fl t2 hs => ?_) fun e t2 hs => hs
  cases fl with
  | ret u =>
    obtain ⟨v, _, H1, J, r1, q⟩ := hs
    exact ⟨v, H1, J.os, J.bare, J.base, J.hok, r1, q⟩
  | next =>
    obtain ⟨_, H1, J, q⟩ := hs
    exact ⟨V.non, H1, J.os, J.bare, J.base, J.hok, (show RelV V.non Value.none from rfl), q⟩
  | brk =>
    obtain ⟨_, _, _, q⟩ := hs
    exact q.elim
  | cont =>
    obtain ⟨_, _, _, q⟩ := hs
    exact q.elim
theorem fn_okDX {x qual : Str} {st : Stmt} {f : Addr} {fd : FuncData} {ps : List Str} (F : FunA T.K x qual st f fd) (S : FnScope p.N ps (defScope st)) (hk : kSs p (defScope st) body (defBody st) = true)
    (O : GOkP P w T.K mg base T k p Γ) (len : ∀ ws M Q E, sp ws M Q E → ws.length = ps.length)
    (hb : ∀ ws M Q E, sp ws M Q E → wSs Γ body (endOf (Dr Q) (Dr E)) (start2 p.N ws) M) : Fn P w T mg base (k + 1) f fd ps sp := by
  obtain ⟨oc, od, dV, kV, doc, pm, an, cdv, ct, osl, rfl, lk, hcd⟩ := F.ex
  refine ⟨len, fun A outer s H args us vs Q E room gds env0 bnd rv low => ?_⟩
  obtain ⟨G, ws, M, Q2, E2, sr, rr, hsp, pq, px⟩ := low
  have sizes : vs.length = ps.length := rr.len.symm.trans (len _ _ _ _ hsp)
  have inK : T.K.In s.heap := env0.mod.kin.keeps fun b o e => (env0.bs b o e).1
  have calmH : s.heap.NoLimit := env0.mod.nolimit.keeps fun b o e => (env0.bs b o e).1
  have kinds : ∀ y ∈ ps.zip us, (defScope st).names.lookup y.1 = some .local ∨ ((defScope st).names.lookup y.1 = some .cell ∧ ((cellsFrom (s.heap.objs.size + 1) (defScope st).names []).lookup y.1).isSome = true) := fun ⟨n, v⟩ hy =>
    (S.par n (List.of_mem_zip hy).1).elim .inl fun q => .inr ⟨q, PySem.W.cellsFrom_some _ _ _ (.inl q)⟩
  have code := PySem.W.codeRec_of inK hcd
  refine codeAny_call_function room.depth (inK _ _ lk) rfl S.co S.gen rfl code (bnd _ _ _ _ ?_)
  refine wpAny_newFunctionEnv_cells S.kind kinds fun env he t1 ic => ?_
  cases he
  refine ⟨calmH.keeps ic.toInCall.keep, codeAny_func ?_⟩
  let X : Cx := cxOf (L2.CX P w) P w T.K mg base p.N qual (defScope st) f cdv A outer s H E
  have tk : Takes X (fun cls d _ H => E cls d H) := L2.takes_of (X := X) (E := E) rfl rfl rfl rfl
  have po : PassesOwn (model P w) X.A X.env X.xe := PassesOwn.leaving
  have C : CtxS T k p.N mg X (fun cls d _ H => E cls d H) (defScope st) :=
    ⟨⟨rfl, rfl, room.deeper _, gds, rfl, tk, rfl, S.nd, rfl⟩, fun _ => rfl, po, S.kind, rfl, rfl⟩
  have I : Inv X [] (L2.start p.N vs) H t1 := inv_start S room.hd env0 sizes rv ic
  have run := sSs (X := X) body C (show GOk X T k p Γ from O) (defBody st) hk
  have goal : lowS T (fun cls d _ H => E cls d H) (wSs Γ body) { nx := fun _ H' => Q .non H', rt := Q } (L2.start p.N vs) H := by
    refine ⟨G, _, M, _, sr, start_rs rr, hb _ _ _ _ hsp, fun σ2 M1 G1 H1 σ1 m1 sr1 _ q => (by
      obtain ⟨M2, hm, q⟩ := q
      exact pq _ M2 G1 H1 _ m1 (sr1.sub hm) (show RW T G1 (.d .none) .non from rfl) q), (fun w M1 G1 H1 v m1 sr1 r1 ⟨M2, hm, q⟩ => pq w M2 G1 H1 v m1 (sr1.sub hm) r1 q), fun _ _ _ _ _ _ _ _ q => q.elim, fun _ _ _ _ _ _ _ _ q => q.elim, fun x σ2 M1 G1 H1 σ1 cls d m1 sr1 _ rx ⟨M2, hm, q⟩ => px x M2 G1 H1 cls d m1 (sr1.sub hm) rx q⟩
  refine wpAny_mono (run.run [] t1 (L2.start p.N vs) H _ I goal) (fun fl t2 hs => ?_) fun e t2 hs => hs
  cases fl with
  | ret u =>
    obtain ⟨v, _, H1, J, r1, q⟩ := hs
    exact ⟨v, H1, J.os, J.bare, J.base, J.hok, r1, q⟩
  | next =>
    obtain ⟨_, H1, J, q⟩ := hs
    exact ⟨V.non, H1, J.os, J.bare, J.base, J.hok, (show RelV V.non Value.none from rfl), q⟩
  | brk =>
    obtain ⟨_, _, _, q⟩ := hs
    exact q.elim
  | cont =>
    obtain ⟨_, _, _, q⟩ := hs
    exact q.elim
theorem fn_ok {x qual : Str} {st : Stmt} {f : Addr} {fd : FuncData} {ps : List Str} (F : L2.Fun T.K x qual st f fd) (S : FnScope p.N ps (defScope st)) (hk : kSs p (defScope st) body (defBody st) = true)
    (O : GOkP P w T.K mg base T k p Γ) (len : ∀ ws M Q E, sp ws M Q E → ws.length = ps.length)
    (hb : ∀ ws M Q E, sp ws M Q E → wSs Γ body (endOf Q E) (start2 p.N ws) M) : Fn P w T mg base (k + 1) f fd ps sp := fn_okX (FunA.of F) S hk O len hb
theorem fn_okD {x qual : Str} {st : Stmt} {f : Addr} {fd : FuncData} {ps : List Str} (F : L2.Fun T.K x qual st f fd) (S : FnScope p.N ps (defScope st)) (hk : kSs p (defScope st) body (defBody st) = true)
    (O : GOkP P w T.K mg base T k p Γ) (len : ∀ ws M Q E, sp ws M Q E → ws.length = ps.length)
    (hb : ∀ ws M Q E, sp ws M Q E → wSs Γ body (endOf (Dr Q) (Dr E)) (start2 p.N ws) M) : Fn P w T mg base (k + 1) f fd ps sp := fn_okDX (FunA.of F) S hk O len hb
end
end Z
set_option maxHeartbeats 8000000
/-! Z15: the law's own call -/
namespace Z
open PySem PySem.Spec PyProof.Rows L2
theorem ints_rp {T : Tab} {G : Hp} : ∀ ns : List Int, RpL T G (ns.map D.int) (ns.map V.int)
  | [] => rfl
  | n :: r => ⟨.int n, r.map V.int, rfl, rfl, ints_rp r⟩
section
variable {P : Program} {w : World} {T : Tab} {mg mb : Str → Option Value} {k : Nat} {fa a : Addr} {fd : FuncData} {x : Str} {sp : Sp2} {s : Shared} {vs : List Value} {ns : List Int}
/-- what is tracked at the law's call: the script at most -/
def seen (T : Tab) (a : Addr) (o : Obj) (xs : List V) : Hp := fun b => if b = a ∧ T.K.lookup a = none then some (.frz o (.lst xs)) else none
theorem seen_or (T : Tab) (a : Addr) (o : Obj) (xs : List V) (b : Addr) : seen T a o xs b = none ∨ (b = a ∧ T.K.lookup a = none ∧ seen T a o xs b = some (.frz o (.lst xs))) := by
  unfold seen
  by_cases h : b = a ∧ T.K.lookup a = none
  · exact .inr ⟨h.1, h.2, if_pos h⟩
  · exact .inl (if_neg h)
theorem zcall (KX : T.K.In s.heap) (hns : s.heap.Ns mainGlobals mg) (hb : s.heap.Ns builtinsNs mb) (hbb : ∀ y : Str, y ≠ "__name__" → mb y = bootBuiltins y) (hlim : s.heap.NoLimit) (hg : s.gens = #[])
    (ha : s.heap.get? a = some { cls := .type "list", data := .seq vs.toArray }) (hi : IntsAre vs ns) (hl : ns.length ≤ sizeLine) (room : Room k callerA)
    (F : ∀ base : Heap, T.K.In base → base.Ns mainGlobals mg → Fn P w T mg base k fa fd [x] sp) (hbind : ∀ (t : Shared) (u : Value), BindsTo t fd ⟨[u], []⟩ [(x, u)])
    (hsp : sp [.r (ns.map D.int)] (fun _ => none) (fun y _ => y = .d (.bool true)) fun _ _ => False) :
    codeAny (model P w) callerA (.call (.ref fa) ⟨[.ref a], []⟩) (fun r t => r = .ok (.ret (.bool true)) ∧ OldK s.heap t.heap ∧ t.os = s.os ∧ AllBare t.gens) s := by
  have rv := vals_ints hi
  let o : Obj := { cls := .type "list", data := .seq vs.toArray }
  let H : Hp := seen T a o (ns.map V.int)
  have two : ∀ b, H b = none ∨ (b = a ∧ T.K.lookup a = none ∧ H b = some (.frz o (.lst (ns.map V.int)))) := seen_or T a o _
  have hok : HOk P w H s.heap := fun b u e => by
    rcases two b with z | ⟨rfl, _, z⟩
    · rw [z] at e; cases e
    · rw [z] at e; cases e
      exact ⟨ha, by rw [List.length_map]; exact hl, vs, _, rv, ha⟩
  have dictNo : ∀ {b : Addr} {q : Obj} {es : Array DictEntry} {ep : Nat}, s.heap.get? b = some q → q.data = .dict es ep → H b = none := fun {b q es ep} e d => by
    rcases two b with z | ⟨rfl, _, _⟩
    · exact z
    · rw [ha] at e; cases e
      exact nomatch (show Data.seq vs.toArray _ = Data.dict es ep from d)
  have nsH : ∀ {b : Addr} {m : Str → Option Value}, s.heap.Ns b m → (hidT s.heap H).Ns b m := fun {b m} ⟨q, es, ep, e, d, r⟩ => ⟨q, es, ep, hidT_get e (dictNo e d), d, r⟩
  have inH : T.K.In (hidT s.heap H) := fun b q e => hidT_get (KX b q e) (by
    rcases two b with z | ⟨rfl, z, _⟩
    · exact z
    · rw [z] at e; cases e)
  have md : Mod T.K mg (hidT s.heap H) := by
    obtain ⟨mc, h1, h2⟩ := hlim
    exact ⟨inH, nsH hns, ⟨mb, nsH hb, hbb⟩, ⟨mc, nsH h1, h2⟩⟩
  have e0 : Env0 P w T.K mg (hidT s.heap H) callerA [] s H := ⟨rfl, md, fun b q e => of_hidT e, Nat.le_of_eq (hidT_size _ _), trivial, fun b z => absurd (show b ∈ ([] : List Addr) from z) (by simp), hok, .of_eq hg⟩
  have sq : SqL T.K H a (ns.map V.int) := by
    cases hk : T.K.lookup a with
    | none =>
      refine .inl (.inr ⟨o, ?_⟩)
      exact if_pos ⟨rfl, hk⟩
    | some q =>
      have e := KX a q hk
      rw [ha] at e
      cases e
      exact .inr ⟨_, vs.toArray, _, hk, rfl, rfl, rfl, by rw [List.size_toArray, hi.length]; exact hl, by simpa using rv⟩
  have low : lowSp T sp [.ref a] H (fun v _ => v = .bl true) fun _ _ _ => False :=
    ⟨H, [.r (ns.map D.int)], (fun _ => none), (fun y _ => y = .d (.bool true)), (fun _ _ => False), ⟨fun _ _ e => e, fun b c e => by cases (show (none : Option Cl) = some c from e)⟩, .cons (show RW T H (.r (ns.map D.int)) (.ref a) from ⟨a, _, rfl, sq, ints_rp ns⟩) .nil, hsp, fun y M1 G1 H1 v _ _ r e => by cases e; exact r, fun _ _ _ _ _ _ _ _ _ e => e⟩
  refine codeAny_mono ((F _ inH (nsH hns)).run callerA [] s H ⟨[.ref a], []⟩ [.ref a] [.ref a] _ _ room rfl e0 (hbind s (.ref a)) (.cons rfl .nil) low) fun r t h => ?_
  cases r with
  | error e =>
    obtain ⟨_, _, _, _, _, _, _, _, _, _, _, _, z⟩ := h
    exact z.elim
  | ok fl =>
    cases fl with
    | next => exact h.elim
    | brk => exact h.elim
    | cont => exact h.elim
    | ret u =>
      obtain ⟨v, H1, os, bare, un, hok1, r1, q⟩ := h
      cases (show v = .bl true from q)
      cases (show u = Value.bool true from r1)
      refine ⟨rfl, OldK.of_keep fun b q e => ?_, os, bare⟩
      rcases two b with z | ⟨rfl, _, z⟩
      · exact un.keep b q e z (by intro y; exact nomatch (show b ∈ ([] : List Addr) from y)) (by simp)
      · have z2 := un.frzs b o _ z
        obtain ⟨e2, _⟩ := hok1 b _ z2
        rw [ha] at e
        cases e
        exact e2
end
section
/-- the law's end -/
theorem zwalk {l : PySem.W.OpenLaw} {n k : Nat} {q : Program} {loose : List Str} {XP : (Str → Option Value) → Heap → Prop} {YP : World → Heap → Prop} {d : DefRec} {K : Params → PySem.W.Frag} {cls : World → Nat → Addr} {sp : World → Sp2} {x : Str}
    (hn : l.most = some n) (hn2 : n ≤ sizeLine) (hdf : d.params.defaults = []) (hr : Room k callerA)
    (hY : ∀ (w : World) (h : Heap), YP w h → (K w.params).In h)
    (F : ∀ (w : World) (mg : Str → Option Value) (fa : Addr) (h : Heap), (K w.params).In h → h.Ns mainGlobals mg → mg d.name = some (.ref fa) →
      ∃ fd : FuncData, (∀ (t : Shared) (u : Value), BindsTo t fd ⟨[u], []⟩ [(x, u)]) ∧
        ∀ base : Heap, (K w.params).In base → base.Ns mainGlobals mg → Fn l.prog w ⟨K w.params, cls w⟩ mg base k fa fd [x] (sp w))
    (hsp : ∀ (w : World) (ns : List Int), ns.length ≤ n → (∀ z ∈ ns, Builtin.Int.intBits z ≤ 1048576) → sp w [.r (ns.map D.int)] (fun _ => none) (fun y _ => y = .d (.bool true)) fun _ _ => False) :
    PySem.W.WalkO q loose XP YP l.row.toRowW d [] (fun f vs => PySem.call f vs) := by
  refine Att.attach_callB hn hdf fun w t₀ t₁ mg mb fa o pm cd doc a vs ns G Y e1 e2 e3 hmg e4 hints len bits e5 => ?_
  obtain ⟨fd, hb, hF⟩ := F w mg fa _ (hY w _ Y) G.T.g hmg
  exact zcall (T := ⟨K w.params, cls w⟩) (hY w _ Y) G.T.g G.T.b G.T.builtins G.T.nolimit e5 e4 hints (Nat.le_trans len hn2) hr hF hb (hsp w ns len bits)
end
end Z
set_option maxHeartbeats 8000000
/-! Z16: the meanings, step by step (printed by mk16.py) -/
namespace Z
open PySem PySem.Spec PyProof.Rows L2
/-- an answer, if there is one -/
def onO {α : Type} (o : Option α) (k : α → Prop) : Prop := ∃ c, o = some c ∧ k c
def dctC : Option Cl → Option (List (Key × W))
  | some (.dic _ kvs) => some kvs
  | _ => none
def dicU : Option Cl → Option (List (Key × W))
  | some (.dic none kvs) => some kvs
  | _ => none
theorem dicU_eq {o : Option Cl} {kvs : List (Key × W)} (h : dicU o = some kvs) : o = some (.dic none kvs) := by
  unfold dicU at h
  split at h
  · cases h; rfl
  · cases h
def dicL : Option Cl → Option ((Obj × List (Key × V)) × List (Key × W))
  | some (.dic (some l) kvs) => some (l, kvs)
  | _ => none
theorem dicL_eq {o : Option Cl} {q : (Obj × List (Key × V)) × List (Key × W)} (h : dicL o = some q) : o = some (.dic (some q.1) q.2) := by
  unfold dicL at h
  split at h
  · cases h; rfl
  · cases h
@[simp] theorem dicL_d {l : Obj × List (Key × V)} {kvs : List (Key × W)} : dicL (some (.dic (some l) kvs)) = some (l, kvs) := rfl
@[simp] theorem dicU_d {kvs : List (Key × W)} : dicU (some (.dic none kvs)) = some kvs := rfl
def onB (x : W) (k : Bool → Prop) : Prop := ∃ c, x = .d (.bool c) ∧ k c
def onI (x : W) (k : Int → Prop) : Prop := ∃ c, x = .d (.int c) ∧ k c
def onS (x : W) (k : Str → Prop) : Prop := ∃ c, x = .d (.str c) ∧ k c
@[simp] theorem onO_some {α : Type} {c : α} {k : α → Prop} : onO (some c) k = k c := by simp [onO]
@[simp] theorem onO_none {α : Type} {k : α → Prop} : onO none k = False := by simp [onO]
@[simp] theorem onB_b {c : Bool} {k : Bool → Prop} : onB (.d (.bool c)) k = k c := propext ⟨fun ⟨_, e, h⟩ => by cases e; exact h, fun h => ⟨_, rfl, h⟩⟩
@[simp] theorem onI_i {c : Int} {k : Int → Prop} : onI (.d (.int c)) k = k c := propext ⟨fun ⟨_, e, h⟩ => by cases e; exact h, fun h => ⟨_, rfl, h⟩⟩
@[simp] theorem onS_s {c : Str} {k : Str → Prop} : onS (.d (.str c)) k = k c := propext ⟨fun ⟨_, e, h⟩ => by cases e; exact h, fun h => ⟨_, rfl, h⟩⟩
theorem onO_of {α : Type} {o : Option α} {c : α} {k : α → Prop} (e : o = some c) (h : k c) : onO o k := ⟨c, e, h⟩
def onA (x : W) (k : Addr → Prop) : Prop := ∃ c, x = .c c ∧ k c
@[simp] theorem onA_c {c : Addr} {k : Addr → Prop} : onA (.c c) k = k c := propext ⟨fun ⟨_, e, h⟩ => by cases e; exact h, fun h => ⟨_, rfl, h⟩⟩
def insX : Option Cl → Option (Nat × Addr × List (Str × W))
  | some (.ins c dx fs) => some (c, dx, fs)
  | _ => none
theorem insX_eq {o : Option Cl} {c : Nat} {dx : Addr} {fs : List (Str × W)} (h : insX o = some (c, dx, fs)) : o = some (.ins c dx fs) := by
  cases o with
  | none => cases h
  | some x => cases x <;> first | (cases h; rfl) | cases h
@[simp] theorem insX_ins {c : Nat} {dx : Addr} {fs : List (Str × W)} : insX (some (.ins c dx fs)) = some (c, dx, fs) := rfl
theorem itemsC_eq {o : Option Cl} {us : List W} (h : itemsC o = some us) : o = some (.lst us) := by
  cases o with
  | none => cases h
  | some x => cases x <;> first | (cases h; rfl) | cases h
theorem join_eq {α : Type} {o : Option (Option α)} {x : α} (h : o.join = some x) : o = some (some x) := by
  cases o with
  | none => cases h
  | some y => rw [show y = some x from h]
theorem ins_ex {M : Mp} {x : W} {c : Nat} : (∃ fs, insW M x = some (c, fs)) = onO (insW M x) fun p => p.1 = c :=
  propext ⟨fun ⟨fs, e⟩ => ⟨_, e, rfl⟩, fun ⟨p, e, h⟩ => ⟨p.2, by rw [e, ← h]⟩⟩
/-- what an instance's cell holds -/
def insC : Option Cl → Option (Nat × List (Str × W))
  | some (.ins c _ fs) => some (c, fs)
  | _ => none
section
variable {Γ : Env2} {σ : St2} {M : Mp} {Q : VK2} {Ex : XK2} {De : Ends2}
@[simp] theorem wE_var {i : Nat} : wE Γ (.var i) = wVar i := rfl
@[simp] theorem wE_cst {c : Cn} : wE Γ (.cst c) = wC c.d := rfl
@[simp] theorem wE_bin {o : BO} {a b : E} : wE Γ (.bin o a b) = wBin o.r (wE Γ a) (wE Γ b) := rfl
@[simp] theorem wE_cmp {o : CO} {a b : E} : wE Γ (.cmp o a b) = wBin o.r (wE Γ a) (wE Γ b) := rfl
@[simp] theorem wE_chain {o o2 : CO} {a b c : E} : wE Γ (.chain o o2 a b c) = wChain o.r o2.r (wE Γ a) (wE Γ b) (wE Γ c) := rfl
@[simp] theorem wE_and {a : E} {es : Es} : wE Γ (.and a es) = wAnds Γ (wE Γ a) es := rfl
@[simp] theorem wE_or {a : E} {es : Es} : wE Γ (.or a es) = wOrs Γ (wE Γ a) es := rfl
@[simp] theorem wE_not {a : E} : wE Γ (.not a) = wNotV (wE Γ a) := rfl
@[simp] theorem wE_ife {c a b : E} : wE Γ (.ife c a b) = wIf (wT2 Γ c) (wE Γ a) (wE Γ b) := rfl
@[simp] theorem wE_tup {es : Es} : wE Γ (.tup es) = wTup (wA Γ es) := rfl
@[simp] theorem wE_lst {m : Bool} {es : Es} : wE Γ (.lst m es) = wLst m (wA Γ es) := rfl
@[simp] theorem wE_ix {a b : E} : wE Γ (.ix a b) = wBin oIxF (wE Γ a) (wE Γ b) := rfl
@[simp] theorem wE_sl {m : Bool} {a : E} {l h : Es} : wE Γ (.sl m a l h) = wSl m (wE Γ a) (wO Γ l) (wO Γ h) := rfl
@[simp] theorem wE_neg {a : E} : wE Γ (.neg a) = fun σ M Q E => wE Γ a σ M (fun x M1 => onI x fun i => Q (.d (.int (-i))) M1) E := rfl
@[simp] theorem wE_blt {b : BI} {es : Es} : wE Γ (.blt b es) = wCB b.r (wA Γ es) := rfl
@[simp] theorem wE_bm {b : BM} {o : E} {es : Es} : wE Γ (.bm b o es) = wBM b.ok b.r (wE Γ o) (wA Γ es) := rfl
@[simp] theorem wE_lc {m : Bool} {it : It2} {v : Nat} {c : Es} {e : E} : wE Γ (.lc m it v c e) = wLc m (wI Γ it) (wgName v) (wC1 Γ c) (wE Γ e) [v] := rfl
@[simp] theorem wE_isi {t : Ty} {a : E} : wE Γ (.isi t a) = wIsi t (wE Γ a) := rfl
@[simp] theorem wE_fld {f : Str} {a : E} : wE Γ (.fld f a) = wFld (fun c => (f, c) ∈ Γ.o.a) f (wE Γ a) := rfl
@[simp] theorem wE_ext {u : U} {es : Es} : wE Γ (.ext u es) = wU Γ u (wEs Γ es) := rfl
@[simp] theorem wE_call {i : Nat} {es : Es} : wE Γ (.call i es) = (match Γ.f[i]? with | some c => wCall c.sp c.dws (wA Γ es) | none => wFalse) := rfl
@[simp] theorem wE_glob {i : Nat} : wE Γ (.glob i) = (match Γ.g[i]? with | some (_, d) => wC d | none => wFalse) := rfl
@[simp] theorem wE_mth {i : Nat} {m : Str} {o : E} {es : Es} : wE Γ (.mth i m o es) = (match Γ.o.m[i]? with | some q => wIfP (q.m = m) (wMeth q.c m q.sp q.dws (wE Γ o) (wA Γ es)) | none => wFalse) := rfl
@[simp] theorem wE_mk {i : Nat} {x : Str} {es : Es} : wE Γ (.mk i x es) = (match Γ.o.c[i]? with | some q => wIfP (q.x = x) (wMake q.c q.sp q.dws (wA Γ es)) | none => wFalse) := rfl
@[simp] theorem wT_isi {t : Ty} {a : E} : wT2 Γ (.isi t a) = wTru (wIsi t (wE Γ a)) := rfl
@[simp] theorem wT_cmp {o : CO} {a b : E} : wT2 Γ (.cmp o a b) = wT (wBin o.r (wE Γ a) (wE Γ b)) := rfl
@[simp] theorem wT_chain {o o2 : CO} {a b c : E} : wT2 Γ (.chain o o2 a b c) = wT (wChain o.r o2.r (wE Γ a) (wE Γ b) (wE Γ c)) := rfl
@[simp] theorem wT_and {a : E} {es : Es} : wT2 Γ (.and a es) = wAndsT Γ (wT2 Γ a) es := rfl
@[simp] theorem wT_or {a : E} {es : Es} : wT2 Γ (.or a es) = wOrsT Γ (wT2 Γ a) es := rfl
@[simp] theorem wT_not {a : E} : wT2 Γ (.not a) = wNotT (wT2 Γ a) := rfl
@[simp] theorem wT_var {i : Nat} : wT2 Γ (.var i) = wTru (wVar i) := rfl
@[simp] theorem wT_ix {a b : E} : wT2 Γ (.ix a b) = wTru (wBin oIxF (wE Γ a) (wE Γ b)) := rfl
@[simp] theorem wT_blt {b : BI} {es : Es} : wT2 Γ (.blt b es) = wTru (wCB b.r (wA Γ es)) := rfl
@[simp] theorem wT_call {i : Nat} {es : Es} : wT2 Γ (.call i es) = wTru (wE Γ (.call i es)) := rfl
@[simp] theorem wT_mth {i : Nat} {m : Str} {o : E} {es : Es} : wT2 Γ (.mth i m o es) = wTru (wE Γ (.mth i m o es)) := rfl
@[simp] theorem wT_ext {u : U} {es : Es} : wT2 Γ (.ext u es) = wUT Γ u (wEs Γ es) := rfl
@[simp] theorem wEs_nil : wEs Γ .nil = [] := rfl
@[simp] theorem wEs_cons {e : E} {es : Es} : wEs Γ (.cons e es) = wE Γ e :: wEs Γ es := rfl
@[simp] theorem wL_nil : wL [] = wNil := rfl
@[simp] theorem wL_cons {t : TE2} {r : List TE2} : wL (t :: r) = wCons t (wL r) := rfl
@[simp] theorem wA_nil : wA Γ .nil = wNil := rfl
@[simp] theorem wA_cons {e : E} {es : Es} : wA Γ (.cons e es) = wCons (wE Γ e) (wA Γ es) := rfl
@[simp] theorem wU_bino {o : BOO} {i : Nat} {a b : TE2} : wU Γ (.bino o i) [a, b] = (match Γ.o.m[i]? with | some q => wIfP (q.m = o.m ∧ q.c ∈ Γ.o.g) (wBin (oOwn q.c q.sp q.dws) a b) | none => wFalse) := rfl
@[simp] theorem wU_cmpo {o : COO} {i : Nat} {a b : TE2} : wU Γ (.cmpo o i) [a, b] = (match Γ.o.m[i]? with | some q => wIfP (q.m = o.m) (wBin (oOwn q.c q.sp q.dws) a b) | none => wFalse) := rfl
@[simp] theorem wU_ino {o : Bool} {i : Nat} {a b : TE2} : wU Γ (.ino o i) [a, b] = (match Γ.o.m[i]? with | some q => wIfP (q.m = "__contains__") (wBin (oOwnIn o q.c q.sp q.dws) a b) | none => wFalse) := rfl
@[simp] theorem wU_inv {i : Nat} {a : TE2} : wU Γ (.inv i) [a] = (match Γ.o.m[i]? with | some q => wIfP (q.m = "__invert__") (wOwn1 q.c q.sp q.dws a) | none => wFalse) := rfl
@[simp] theorem wU_stro {i : Nat} {a : TE2} : wU Γ (.stro i) [a] = (match Γ.o.t[i]? with | some q => wIfP (q.m = "__str__") (wOwnS q.c q.sp q.dws a) | none => wFalse) := rfl
@[simp] theorem wU_fmto {i : Nat} {a : TE2} : wU Γ (.fmto i) [a] = (match Γ.o.t[i]? with | some q => wIfP (q.m = "__str__" ∧ q.c ∈ Γ.o.g) (wOwnS q.c q.sp q.dws a) | none => wFalse) := rfl
@[simp] theorem wU_callo {i : Nat} {a : TE2} {r : List TE2} : wU Γ (.callo i) (a :: r) = (match Γ.o.m[i]? with | some q => wIfP (q.m = "__call__" ∧ q.c ∈ Γ.o.g) (wOwnCall q.c q.sp q.dws a (wL r)) | none => wFalse) := rfl
@[simp] theorem wU_stat {i : Nat} {x m : Str} {r : List TE2} : wU Γ (.stat i x m) r = (match Γ.o.s[i]? with | some q => wIfP (q.x = x ∧ q.m = m) (wCall q.sp q.dws (wL r)) | none => wFalse) := rfl
@[simp] theorem wU_geto {i : Nat} {a b : TE2} : wU Γ (.geto i) [a, b] = (match Γ.o.t[i]? with | some q => wIfP (q.m = "__getitem__" ∧ q.c ∈ Γ.o.g) (wBin (oOwnGet q.c q.sp q.dws) a b) | none => wFalse) := rfl
@[simp] theorem wU_leno {i : Nat} {a : TE2} : wU Γ (.leno i) [a] = (match Γ.o.t[i]? with | some q => wIfP (q.m = "__len__") (wLenO q.c q.sp q.dws a) | none => wFalse) := rfl
@[simp] theorem wU_isc {i : Nat} {x : Str} {a : TE2} : wU Γ (.isc i x) [a] = (match Γ.o.i[i]? with | some q => wIfP (q.x = x) (wIsc q a) | none => wFalse) := rfl
@[simp] theorem wU_frzo {a : TE2} : wU Γ .frzo [a] = wFrzO a := rfl
@[simp] theorem wU_asd {a : TE2} : wU Γ .asd [a] = wAsd a := rfl
@[simp] theorem wU_asc {a : TE2} : wU Γ .asc [a] = wAsc a := rfl
@[simp] theorem ap_oOwnGet {c : Nat} {sp : Sp2} {d : List W} {x y : W} : oOwnGet c sp d x y M Q Ex = ((∃ fs, insW M x = some (c, fs)) ∧ sp (x :: y :: d) M Q Ex) := rfl
@[simp] theorem ap_wAsc {t : TE2} : wAsc t σ M Q Ex = t σ M (fun w M1 => ∃ a, w = .d (.ref a) ∧ Q (.c a) M1) Ex := rfl
@[simp] theorem ap_wAsd {t : TE2} : wAsd t σ M Q Ex = t σ M (fun w M1 => ∃ a, w = .c a ∧ Q (.d (.ref a)) M1) Ex := rfl
@[simp] theorem wU_alt {a b : TE2} : wU Γ .alt [a, b] = wAlt a b := rfl
@[simp] theorem ap_wAlt {t u : TE2} : wAlt t u σ M Q Ex = (t σ M Q Ex ∨ u σ M Q Ex) := rfl
@[simp] theorem wU_rep {a b : TE2} : wU Γ .rep [a, b] = wBin oRep a b := rfl
@[simp] theorem wU_dget {a b : TE2} : wU Γ .dget [a, b] = wDget a b := rfl
@[simp] theorem wU_dgt2 {a b c : TE2} : wU Γ .dgt2 [a, b, c] = wDget2 a b c := rfl
@[simp] theorem wU_dgt1 {a b : TE2} : wU Γ .dgt1 [a, b] = wDget1 a b := rfl
@[simp] theorem wU_dpop2 {a b c : TE2} : wU Γ .dpop2 [a, b, c] = wDpop2 a b c := rfl
@[simp] theorem cx_ltl : CmX.r Γ .ltl = some oLtL := rfl
@[simp] theorem wU_ib {u : Bool} {a b : TE2} : wU Γ (.ib u) [a, b] = wBin (oIB u) a b := rfl
@[simp] theorem cx_isb {n : Bool} : CmX.r Γ (.isb n) = some (oIsB n) := rfl
@[simp] theorem wU_dnew : wU Γ .dnew [] = wDnew := rfl
@[simp] theorem wU_dlist {m : Bool} {a : TE2} : wU Γ (.dlist m) [a] = wCB (rListK m) (wL [a]) := rfl
@[simp] theorem wU_ddict {a : TE2} : wU Γ .ddict [a] = wCB rDictK (wL [a]) := rfl
@[simp] theorem wU_dlen {a : TE2} : wU Γ .dlen [a] = wCB rLenK (wL [a]) := rfl
@[simp] theorem wU_lock {i : Nat} {f : Option Str} {a : TE2} : wU Γ (.lock i f) [a] = wLockE i f a := rfl
@[simp] theorem wU_ditems {a : TE2} : wU Γ .ditems [a] = wListItems a := rfl
@[simp] theorem wU_dictp {a : TE2} : wU Γ .dictp [a] = wCB rDictP (wL [a]) := rfl
@[simp] theorem wU_min2 {a b : TE2} : wU Γ .min2 [a, b] = wCB rMin2 (wL [a, b]) := rfl
@[simp] theorem wI_enum {e : E} : wI Γ (.enum e) = wiEnumS (wE Γ e) := rfl
@[simp] theorem wI_items {e : E} : wI Γ (.items e) = wiItems (wE Γ e) := rfl
@[simp] theorem wE_lct {m : Bool} {it : It2} {v : List Nat} {c : Es} {a : E} : wE Γ (.lct m it v c a) = wLc m (wI Γ it) (wgTup v.length (wTs v)) (wC1 Γ c) (wE Γ a) v := rfl
@[simp] theorem cx_deq {n : Bool} : CmX.r Γ (.deq n) = some (oDeq n) := rfl
@[simp] theorem cx_din {n : Bool} : CmX.r Γ (.din n) = some (oDin n) := rfl
@[simp] theorem wE_dc {it : It2} {v : Nat} {c : Es} {a b : E} : wE Γ (.dc it v c a b) = wDc (wI Γ it) (wgName v) (wC1 Γ c) (wE Γ a) (wE Γ b) [v] := rfl
@[simp] theorem wI_keys {e : E} : wI Γ (.keys e) = wiKeys (wE Γ e) := rfl
@[simp] theorem wU_cmpx {c : CmX} {a b : TE2} : wU Γ (.cmpx c) [a, b] = (match c.r Γ with | some r => wBin r a b | none => wFalse) := rfl
@[simp] theorem cx_neo {i : Nat} : CmX.r Γ (.neo i) = (match Γ.o.t[i]? with | some q => if q.m = "__eq__" ∧ q.c ∈ Γ.o.g then some (oNeo q.c q.sp q.dws) else none | none => none) := rfl
@[simp] theorem cx_refo {g : Bool} {i : Nat} : CmX.r Γ (.refo g i) = (match Γ.o.m[i]? with | some q => if (q.m = if g = true then "__le__" else "__lt__") ∧ q.c ∈ Γ.o.g then some (oRef q.c q.sp q.dws) else none | none => none) := rfl
@[simp] theorem cx_eql {i j : Nat} : CmX.r Γ (.eql i j) = (match Γ.o.m[i]?, Γ.o.i[j]? with | some q, some y => if q.m = "__eq__" then some (oEql y q.c q.sp q.dws) else none | _, _ => none) := rfl
@[simp] theorem cx_nel {i j : Nat} : CmX.r Γ (.nel i j) = (match Γ.o.t[i]?, Γ.o.i[j]? with | some q, some y => if q.m = "__eq__" ∧ q.c ∈ Γ.o.g then some (oNel y q.c q.sp q.dws) else none | _, _ => none) := rfl
@[simp] theorem cx_ind {g : Bool} : CmX.r Γ (.ind g) = some (oInD g) := rfl
@[simp] theorem ap_oInD {n : Bool} {x y : W} : oInD n x y M Q Ex = onO (fInD M x y) fun b => Q (.d (.bool (n ^^ b))) M := rfl
@[simp] theorem wU_srt {u m : Bool} {a : TE2} : wU Γ (.srt u m) [a] = wSrt u m a := rfl
@[simp] theorem wUT_cmpo {o : COO} {i : Nat} {r : List TE2} : wUT Γ (.cmpo o i) r = wT (wU Γ (.cmpo o i) r) := rfl
@[simp] theorem wUT_cmpx {c : CmX} {r : List TE2} : wUT Γ (.cmpx c) r = wT (wU Γ (.cmpx c) r) := rfl
@[simp] theorem wUT_ino {o : Bool} {i : Nat} {r : List TE2} : wUT Γ (.ino o i) r = wT (wU Γ (.ino o i) r) := rfl
@[simp] theorem wUT_callo {i : Nat} {r : List TE2} : wUT Γ (.callo i) r = wTru (wU Γ (.callo i) r) := rfl
@[simp] theorem wUT_stat {i : Nat} {x m : Str} {r : List TE2} : wUT Γ (.stat i x m) r = wTru (wU Γ (.stat i x m) r) := rfl
@[simp] theorem wUT_isc {i : Nat} {x : Str} {r : List TE2} : wUT Γ (.isc i x) r = wTru (wU Γ (.isc i x) r) := rfl
@[simp] theorem boom_band : BOO.m .band = "__and__" := rfl
@[simp] theorem boom_bor : BOO.m .bor = "__or__" := rfl
@[simp] theorem boom_add : BOO.m .add = "__add__" := rfl
@[simp] theorem boom_sub : BOO.m .sub = "__sub__" := rfl
@[simp] theorem coom_eq : COO.m .eq = "__eq__" := rfl
@[simp] theorem coom_le : COO.m .le = "__le__" := rfl
@[simp] theorem coom_lt : COO.m .lt = "__lt__" := rfl
@[simp] theorem wAnds_nil {t : TE2} : wAnds Γ t .nil = t := rfl
@[simp] theorem wAnds_cons {t : TE2} {e : E} {es : Es} : wAnds Γ t (.cons e es) = wAndV t (wAnds Γ (wE Γ e) es) := rfl
@[simp] theorem wOrs_nil {t : TE2} : wOrs Γ t .nil = t := rfl
@[simp] theorem wOrs_cons {t : TE2} {e : E} {es : Es} : wOrs Γ t (.cons e es) = wOrV t (wOrs Γ (wE Γ e) es) := rfl
@[simp] theorem wAndsT_nil {t : TT2} : wAndsT Γ t .nil = t := rfl
@[simp] theorem wAndsT_cons {t : TT2} {e : E} {es : Es} : wAndsT Γ t (.cons e es) = wAndT t (wAndsT Γ (wT2 Γ e) es) := rfl
@[simp] theorem wOrsT_nil {t : TT2} : wOrsT Γ t .nil = t := rfl
@[simp] theorem wOrsT_cons {t : TT2} {e : E} {es : Es} : wOrsT Γ t (.cons e es) = wOrT t (wOrsT Γ (wT2 Γ e) es) := rfl
@[simp] theorem wO_nil : wO Γ .nil = wNoP := rfl
@[simp] theorem wO_cons {e : E} {es : Es} : wO Γ (.cons e es) = wPart (wE Γ e) := rfl
@[simp] theorem wC1_nil : wC1 Γ .nil = wYes := rfl
@[simp] theorem wC1_cons {e : E} {es : Es} : wC1 Γ (.cons e es) = wT2 Γ e := rfl
@[simp] theorem wI_seq {e : E} : wI Γ (.seq e) = wiSeq (wE Γ e) := rfl
@[simp] theorem wI_sgn {e : E} : wI Γ (.sgn e) = wiStr (wE Γ e) := rfl
@[simp] theorem wI_rng1 {e : E} : wI Γ (.rng1 e) = wiRng1 (wCons (wE Γ e) wNil) := rfl
@[simp] theorem wI_rng2 {a b : E} : wI Γ (.rng2 a b) = wiRng2 (wCons (wE Γ a) (wCons (wE Γ b) wNil)) := rfl
@[simp] theorem r_BO_add {m : Bool} : (BO.add m).r = oAdd m := rfl
@[simp] theorem r_BO_sub : BO.sub.r = oSub := rfl
@[simp] theorem r_BO_mul : BO.mul.r = oInt (fun i j => i * j) oMul0 := rfl
@[simp] theorem r_BO_fdiv : BO.fdiv.r = oFdiv := rfl
@[simp] theorem r_BO_mod : BO.mod.r = oMod := rfl
@[simp] theorem r_BO_pow : BO.pow.r = oPow := rfl
@[simp] theorem r_CO_lt : CO.lt.r = oLt := rfl
@[simp] theorem r_CO_le : CO.le.r = oLe := rfl
@[simp] theorem r_CO_gt : CO.gt.r = oGt := rfl
@[simp] theorem r_CO_ge : CO.ge.r = oGe := rfl
@[simp] theorem r_CO_eq : CO.eq.r = oEqF false := rfl
@[simp] theorem r_CO_ne : CO.ne.r = oEqF true := rfl
@[simp] theorem r_CO_in_ : CO.in_.r = oInF false := rfl
@[simp] theorem r_CO_nin : CO.nin.r = oInF true := rfl
@[simp] theorem r_CO_is_ : CO.is_.r = oIsN false := rfl
@[simp] theorem r_CO_isn : CO.isn.r = oIsN true := rfl
@[simp] theorem r_BI_len : BI.len.r = rLenF := rfl
@[simp] theorem r_BI_list {m : Bool} : (BI.list m).r = rList m := rfl
@[simp] theorem r_BI_tuple : BI.tuple.r = rTuple := rfl
@[simp] theorem r_BI_int : BI.int.r = rInt := rfl
@[simp] theorem r_BI_str : BI.str.r = rStr := rfl
@[simp] theorem r_BI_repr : BI.repr.r = rRepr := rfl
@[simp] theorem r_BI_all : BI.all.r = rAllB := rfl
@[simp] theorem r_BI_any : BI.any.r = rAnyB := rfl
@[simp] theorem r_BM_append : BM.append.r = mAppend := rfl
@[simp] theorem r_BM_popAt : BM.popAt.r = mPopAt := rfl
@[simp] theorem r_BM_extend : BM.extend.r = mExtend := rfl
@[simp] theorem r_BM_join : BM.join.r = mJoin := rfl
@[simp] theorem ok_append : BM.append.ok = okL := rfl
@[simp] theorem ok_popAt : BM.popAt.ok = okL := rfl
@[simp] theorem ok_extend : BM.extend.ok = okL := rfl
@[simp] theorem ok_join : BM.join.ok = okS := rfl
@[simp] theorem cn_non : Cn.d .non = .none := rfl
@[simp] theorem cn_bool_b {b : Bool} : Cn.d (.bool b) = .bool b := rfl
@[simp] theorem cn_int_i {i : Int} : Cn.d (.int i) = .int i := rfl
@[simp] theorem cn_str_s {s : Str} : Cn.d (.str s) = .str s := rfl
@[simp] theorem wS_setf {f : Str} {o e : E} : wS Γ (.setf f o e) = wSetF (fun c => (f, c) ∈ Γ.o.a) f (wE Γ o) (wE Γ e) := rfl
@[simp] theorem wS_dead  : wS Γ .dead = fun _ _ _ => False := rfl
@[simp] theorem wS_pass  : wS Γ .pass = wNext := rfl
@[simp] theorem wS_brk  : wS Γ .brk = wBreak := rfl
@[simp] theorem wS_cont  : wS Γ .cont = wCont := rfl
@[simp] theorem wS_ret {e : E} : wS Γ (.ret e) = wRet (wE Γ e) := rfl
@[simp] theorem wS_retN  : wS Γ .retN = wRetN := rfl
@[simp] theorem wS_ex {e : E} : wS Γ (.ex e) = wExpr (wE Γ e) := rfl
@[simp] theorem wS_asg {t : Tg} {e : E} : wS Γ (.asg t e) = wAsg (wE Γ e) (wTg Γ t) := rfl
@[simp] theorem wS_par {i j : Nat} {a b : E} : wS Γ (.par i j a b) = wPar i j (wCons (wE Γ a) (wCons (wE Γ b) wNil)) := rfl
@[simp] theorem wS_iff {c : E} {a b : Ss} : wS Γ (.iff c a b) = wIfS (wT2 Γ c) (wSs Γ a) (wSs Γ b) := rfl
@[simp] theorem wS_aug {p : Bool} {i : Nat} {e : E} : wS Γ (.aug p i e) = wAugI (augF p) i (wE Γ e) := rfl
@[simp] theorem wS_augf {p : Bool} {f : Str} {o e : E} : wS Γ (.augf p f o e) = wAugF (fun c => (f, c) ∈ Γ.o.a) p f (wE Γ o) (wE Γ e) := rfl
@[simp] theorem wS_rais {i : Nat} {y : Str} {es : Es} : wS Γ (.rais i y es) = match Γ.o.x[i]? with | some q => wAndS (q.x = y) (wRaise q (wA Γ es)) | none => fun _ _ _ => False := rfl
@[simp] theorem wS_tri {i : Nat} {y : Str} {a : Option Nat} {b : Ss} {su : Su} : wS Γ (.tri i y a b su) = match Γ.o.h[i]? with | some q => wAndS (q.x = y) (wTry q a su (wSs Γ b)) | none => fun _ _ _ => False := rfl
@[simp] theorem wS_parG {is : List Nat} {es : Es} : wS Γ (.parG is es) = wParG is (wA Γ es) := rfl
@[simp] theorem wS_par3 {i j l : Nat} {a b c : E} : wS Γ (.par3 i j l a b c) = wPar3 i j l (wCons (wE Γ a) (wCons (wE Γ b) (wCons (wE Γ c) wNil))) := rfl
@[simp] theorem wS_augo {o : BOO} {j i : Nat} {e : E} : wS Γ (.augo o j i e) = match Γ.o.m[j]? with | some q => wAndS (q.m = o.mi ∧ q.c ∈ Γ.o.g) (wAugO q.c q.sp q.dws i (wE Γ e)) | none => fun _ _ _ => False := rfl
@[simp] theorem wS_trm {a : Nat} {b : Ss} {hs : List (Nat × Str × Su)} : wS Γ (.trm a b hs) = match hsOf Γ hs with | some l => wTryM a l (wSs Γ b) | none => fun _ _ _ => False := rfl
@[simp] theorem wS_iput {j : Nat} {o i e : E} : wS Γ (.iput j o i e) = match Γ.o.m[j]? with | some q => wAndS (q.m = "__setitem__" ∧ q.c ∈ Γ.o.g) (wOput q.c q.sp q.dws (wE Γ o) (wE Γ i) (wE Γ e)) | none => fun _ _ _ => False := rfl
@[simp] theorem wS_dput {o i e : E} : wS Γ (.dput o i e) = wDput (wE Γ o) (wE Γ i) (wE Γ e) := rfl
@[simp] theorem wS_ddel {o i : E} : wS Γ (.ddel o i) = wDdel (wE Γ o) (wE Γ i) := rfl
@[simp] theorem wS_lock {i : Nat} {f : Option Str} {s : S} : wS Γ (.lock i f s) = wLock i f (wS Γ s) := rfl
@[simp] theorem wS_whl {c : E} {b : Ss} : wS Γ (.whl c b) = wWhile (wT2 Γ c) (wSs Γ b) := rfl
@[simp] theorem wS_for {t : Tg} {it : It2} {b : Ss} : wS Γ (.for t it b) = wFor (wI Γ it) (wTg Γ t) (wSs Γ b) := rfl
@[simp] theorem wSs_nil : wSs Γ .nil = wNext := rfl
@[simp] theorem wTg_name {i : Nat} : wTg Γ (.name i) = wgName i := rfl
@[simp] theorem wTg_tup {is : List Nat} : wTg Γ (.tup is) = wgTup is.length (wTs is) := rfl
@[simp] theorem wTg_lst {is : List Nat} : wTg Γ (.lst is) = wgLst is.length (wTs is) := rfl
@[simp] theorem wTg_sub {o i : E} : wTg Γ (.sub o i) = wgSub (wE Γ o) (wE Γ i) := rfl
@[simp] theorem wTs_nil : wTs [] = wgNil := rfl
@[simp] theorem wTs_cons {i : Nat} {r : List Nat} : wTs (i :: r) = wgCons i (wTs r) := rfl
@[simp] theorem ap_wC {x : D} : wC x σ M Q Ex = Q (.d x) M := rfl
@[simp] theorem ap_wFalse : wFalse σ M Q Ex = False := rfl
@[simp] theorem ap_wBin {r : R22} {a b : TE2} : wBin r a b σ M Q Ex = a σ M (fun x M1 => b σ M1 (fun y M2 => r x y M2 Q Ex) Ex) Ex := rfl
@[simp] theorem ap_wChain {r r2 : R22} {a b c : TE2} : wChain r r2 a b c σ M Q Ex = a σ M (fun x M1 => b σ M1 (fun y M2 => r x y M2 (fun z M3 => onB z fun b => if b = true then c σ M3 (fun w M4 => r2 y w M4 Q Ex) Ex else Q (.d (.bool false)) M3) Ex) Ex) Ex := rfl
@[simp] theorem ap_wTup {t : TA2} : wTup t σ M Q Ex = t σ M (fun ws M1 => onO (unD ws) fun ds => ds.length ≤ 1000 ∧ Q (.d (.tup ds)) M1) Ex := rfl
@[simp] theorem ap_wLst {b : Bool} {t : TA2} : wLst b t σ M Q Ex = t σ M (fun ws M1 => ws.length ≤ 1000 ∧ newL b ws M1 Q) Ex := rfl
@[simp] theorem ap_newLt {ws : List W} : newL true ws M Q = (∀ p, M p = none → Q (.c p) (put M p (.lst ws))) := rfl
@[simp] theorem ap_wNotV {t : TE2} : wNotV t σ M Q Ex = t σ M (fun x M1 => onO (tru M1 x) fun b => Q (.d (.bool (!b))) M1) Ex := rfl
@[simp] theorem ap_wAndV {t u : TE2} : wAndV t u σ M Q Ex = t σ M (fun x M1 => onO (tru M1 x) fun b => if b = true then u σ M1 Q Ex else Q x M1) Ex := rfl
@[simp] theorem ap_wOrV {t u : TE2} : wOrV t u σ M Q Ex = t σ M (fun x M1 => onO (tru M1 x) fun b => if b = true then Q x M1 else u σ M1 Q Ex) Ex := rfl
@[simp] theorem ap_wIf {c : TT2} {t u : TE2} : wIf c t u σ M Q Ex = c σ M (fun b M1 => if b = true then t σ M1 Q Ex else u σ M1 Q Ex) Ex := rfl
@[simp] theorem ap_wCB {r : RC2} {t : TA2} : wCB r t σ M Q Ex = t σ M (fun ws M1 => r ws M1 Q) Ex := rfl
@[simp] theorem ap_wBM {ok : W → Mp → Prop} {r : RM2} {t : TE2} {a : TA2} : wBM ok r t a σ M Q Ex = t σ M (fun x M1 => ok x M1 ∧ a σ M1 (fun ws M2 => r x ws M2 Q) Ex) Ex := rfl
@[simp] theorem ap_wCall {sp : Sp2} {d : List W} {t : TA2} : wCall sp d t σ M Q Ex = t σ M (fun ws M1 => sp (ws ++ d) M1 Q Ex) Ex := rfl
@[simp] theorem ap_wIfP {P : Prop} {t : TE2} : wIfP P t σ M Q Ex = (P ∧ t σ M Q Ex) := rfl
@[simp] theorem ap_wIsi {t : Ty} {a : TE2} : wIsi t a σ M Q Ex = a σ M (fun w M1 => oIsi t w M1 Q) Ex := rfl
@[simp] theorem ap_wSl {m : Bool} {a : TE2} {l h : TO2} : wSl m a l h σ M Q Ex = a σ M (fun x M1 => l σ M1 (fun lo M2 => h σ M2 (fun hi M3 => oSlF m x lo hi M3 Q) Ex) Ex) Ex := rfl
@[simp] theorem ap_wMake {c : Nat} {sp : Sp2} {d : List W} {a : TA2} : wMake c sp d a σ M Q Ex = a σ M (fun ws M1 => ∀ x dx, M1 x = none → M1 dx = none → dx ≠ x → sp (.c x :: (ws ++ d)) (put M1 x (.ins c dx [])) (fun v M2 => v = .d .none ∧ Q (.c x) M2) Ex) Ex := rfl
@[simp] theorem ap_oEqF {n : Bool} {x y : W} : oEqF n x y M Q Ex = onO (fEq M x y) fun b => Q (.d (.bool (n ^^ b))) M := rfl
@[simp] theorem ap_oInF {n : Bool} {x y : W} : oInF n x y M Q Ex = onO (fIn M x y) fun b => Q (.d (.bool (n ^^ b))) M := rfl
@[simp] theorem ap_oIxF {x y : W} : oIxF x y M Q Ex = onO (fIx M x y) fun w => Q w M := rfl
@[simp] theorem ap_oOrd {p : Int → Int → Bool} {ps : Str → Str → Bool} {x y : W} : oOrd p ps x y M Q Ex = onO (ordW p ps x y) fun b => Q (.d (.bool b)) M := rfl
@[simp] theorem ap_oIsN {n : Bool} {x y : W} : oIsN n x y M Q Ex = (y = .d .none ∧ Q (.d (.bool (if n = true then !isNon x else isNon x))) M) := rfl
@[simp] theorem ap_wT {b : Bool → Mp → Prop} {t : TE2} : wT t σ M b Ex = t σ M (fun x M1 => onB x fun c => b c M1) Ex := rfl
@[simp] theorem ap_wTru {b : Bool → Mp → Prop} {t : TE2} : wTru t σ M b Ex = t σ M (fun x M1 => onO (tru M1 x) fun c => b c M1) Ex := rfl
@[simp] theorem ap_wAndT {b : Bool → Mp → Prop} {t u : TT2} : wAndT t u σ M b Ex = t σ M (fun c M1 => if c = true then u σ M1 b Ex else b false M1) Ex := rfl
@[simp] theorem ap_wOrT {b : Bool → Mp → Prop} {t u : TT2} : wOrT t u σ M b Ex = t σ M (fun c M1 => if c = true then b true M1 else u σ M1 b Ex) Ex := rfl
@[simp] theorem ap_wNotT {b : Bool → Mp → Prop} {t : TT2} : wNotT t σ M b Ex = t σ M (fun c M1 => b (!c) M1) Ex := rfl
@[simp] theorem ap_wYes {b : Bool → Mp → Prop} : wYes σ M b Ex = b true M := rfl
@[simp] theorem ap_wNil {b : List W → Mp → Prop} : wNil σ M b Ex = b [] M := rfl
@[simp] theorem ap_wCons {b : List W → Mp → Prop} {t : TE2} {u : TA2} : wCons t u σ M b Ex = t σ M (fun x M1 => u σ M1 (fun xs M2 => b (x :: xs) M2) Ex) Ex := rfl
@[simp] theorem ap_wNoP {b : Option Int → Mp → Prop} : wNoP σ M b Ex = b none M := rfl
@[simp] theorem ap_wPart {b : Option Int → Mp → Prop} {t : TE2} : wPart t σ M b Ex = t σ M (fun x M1 => onI x fun i => b (some i) M1) Ex := rfl
@[simp] theorem ap_wgName {i : Nat} {w : W} {b : St2 → Mp → Prop} : wgName i w σ M b Ex = b (σ.set i (some w)) M := rfl
theorem ap_wgNil {w : List W} {b : St2 → Mp → Prop} : wgNil w σ M b Ex = (w = [] ∧ b σ M) := rfl
theorem ap_wgCons {i : Nat} {u : TGs2} {w : List W} {b : St2 → Mp → Prop} : wgCons i u w σ M b Ex = (∃ x r, w = x :: r ∧ u r (σ.set i (some x)) M b Ex) := rfl
@[simp] theorem ap_wgTup {n : Nat} {u : TGs2} {w : W} {b : St2 → Mp → Prop} : wgTup n u w σ M b Ex = onO (tupD w) fun ds => ds.length = n ∧ u (ds.map W.d) σ M b Ex := rfl
@[simp] theorem ap_wgLst {n : Nat} {u : TGs2} {w : W} {b : St2 → Mp → Prop} : wgLst n u w σ M b Ex = onO (listW M w) fun ws => ws.length = n ∧ u ws σ M b Ex := rfl
@[simp] theorem ap_wgSub {to ti : TE2} {w : W} {b : St2 → Mp → Prop} : wgSub to ti w σ M b Ex = to σ M (fun x M1 => ti σ M1 (fun y M2 => oSet x y w M2 fun M3 => b σ M3) Ex) Ex := rfl
@[simp] theorem ap_wNext : wNext De σ M = De.nx σ M := rfl
@[simp] theorem ap_wRet {t : TE2} : wRet t De σ M = t σ M De.rt fun x M1 => De.ex x σ M1 := rfl
@[simp] theorem ap_wRetN : wRetN De σ M = De.rt (.d .none) M := rfl
@[simp] theorem ap_wExpr {t : TE2} : wExpr t De σ M = t σ M (fun _ M1 => De.nx σ M1) fun x M1 => De.ex x σ M1 := rfl
@[simp] theorem ap_wAsg {t : TE2} {g : TG2} : wAsg t g De σ M = t σ M (fun w M1 => g w σ M1 De.nx fun x M2 => De.ex x σ M2) fun x M1 => De.ex x σ M1 := rfl
@[simp] theorem ap_wIfS {c : TT2} {t u : TS2} : wIfS c t u De σ M = c σ M (fun b M1 => if b = true then t De σ M1 else u De σ M1) fun x M1 => De.ex x σ M1 := rfl
@[simp] theorem ap_wBreak : wBreak De σ M = De.bk σ M := rfl
@[simp] theorem ap_wCont : wCont De σ M = De.ct σ M := rfl
@[simp] theorem ap_wParG {is : List Nat} {t : TA2} : wParG is t De σ M = t σ M (fun ws M1 => ws.length ≤ 1000 ∧ ws.length = is.length ∧ wTs is ws σ M1 De.nx fun _ _ => False) fun x M1 => De.ex x σ M1 := rfl
@[simp] theorem ap_wPar3 {i j l : Nat} {t : TA2} : wPar3 i j l t De σ M = t σ M (fun ws M1 => ∃ u v w, ws = [u, v, w] ∧ De.nx (((σ.set i (some u)).set j (some v)).set l (some w)) M1) fun x M1 => De.ex x σ M1 := rfl
@[simp] theorem ap_wPar {i j : Nat} {t : TA2} : wPar i j t De σ M = t σ M (fun ws M1 => ∃ v w, ws = [v, w] ∧ De.nx ((σ.set i (some v)).set j (some w)) M1) fun x M1 => De.ex x σ M1 := rfl
@[simp] theorem ap_wFor {ti : TI2} {g : TG2} {tb : TS2} : wFor ti g tb De σ M = ti σ M (fun items ok M1 => forL ok g tb De items σ M1) fun x M1 => De.ex x σ M1 := rfl
@[simp] theorem ap_wiSeq {t : TE2} {R : List W → (Mp → Prop) → Mp → Prop} : wiSeq t σ M R Ex = t σ M (fun w M1 => onO (seqW M1 w) fun ws => R ws (fun M2 => seqW M2 w = some ws) M1) Ex := rfl
@[simp] theorem ap_wiStr {t : TE2} {R : List W → (Mp → Prop) → Mp → Prop} : wiStr t σ M R Ex = t σ M (fun w M1 => onO (strD w) fun z => R (signsW z) (fun _ => True) M1) Ex := rfl
@[simp] theorem ap_wiRng1 {t : TA2} {R : List W → (Mp → Prop) → Mp → Prop} : wiRng1 t σ M R Ex = t σ M (fun ws M1 => ∃ j : Int, ws = [.d (.int j)] ∧ -(2 ^ 62) ≤ j ∧ j < 2 ^ 62 ∧ R (rngW 0 j.toNat) (fun _ => True) M1) Ex := rfl
@[simp] theorem ap_wiRng2 {t : TA2} {R : List W → (Mp → Prop) → Mp → Prop} : wiRng2 t σ M R Ex = t σ M (fun ws M1 => ∃ i j : Int, ws = [.d (.int i), .d (.int j)] ∧ (-(2 ^ 62) ≤ i ∧ i < 2 ^ 62 ∧ -(2 ^ 62) ≤ j ∧ j < 2 ^ 62) ∧ R (rngW i (j - i).toNat) (fun _ => True) M1) Ex := rfl
@[simp] theorem ap_wLc {m : Bool} {ti : TI2} {g : TG2} {tt : TT2} {te : TE2} {vs : List Nat} : wLc m ti g tt te vs σ M Q Ex = ti σ M (fun items ok M1 => ∀ p, M1 p = none → lcL m p ok g tt te (wipe2 σ vs) Q items (put M1 p (.lst []))) Ex := rfl
@[simp] theorem ap_wOput {c : Nat} {sp : Sp2} {dws : List W} {o i v : TE2} : wOput c sp dws o i v De σ M = v σ M (fun v M1 => o σ M1 (fun x M2 => i σ M2 (fun y M3 => (∃ fs, insW M3 x = some (c, fs)) ∧ sp (x :: y :: v :: dws) M3 (fun _ M4 => De.nx σ M4) fun z M4 => De.ex z σ M4) fun z M3 => De.ex z σ M3) fun z M2 => De.ex z σ M2) fun z M1 => De.ex z σ M1 := rfl
@[simp] theorem ap_wAndS {P : Prop} {t : TS2} : wAndS P t De σ M = (P ∧ t De σ M) := rfl
@[simp] theorem ap_wDget {a b : TE2} : wDget a b σ M Q Ex = a σ M (fun x M1 => b σ M1 (fun y M2 => onO (dctW M2 x) fun kvs => onO (keyW y) fun k => onO (getK kvs k) fun v => Q v M2) Ex) Ex := rfl
@[simp] theorem ap_wDget1 {a b : TE2} : wDget1 a b σ M Q Ex = a σ M (fun x M1 => (dctW M1 x).isSome = true ∧ b σ M1 (fun y M2 => onO (dctW M2 x) fun kvs => onO (keyW y) fun k => Q ((getK kvs k).getD (.d .none)) M2) Ex) Ex := rfl
@[simp] theorem ap_wDpop2 {a b c : TE2} : wDpop2 a b c σ M Q Ex = a σ M (fun x M1 => (∃ p kvs, x = .c p ∧ M1 p = some (.dic none kvs)) ∧ b σ M1 (fun y M2 => c σ M2 (fun z M3 => ∃ p kvs, x = .c p ∧ M3 p = some (.dic none kvs) ∧ onO (keyW y) fun k => (∀ w, getK kvs k = some w → Q w (put M3 p (.dic none (dropD kvs k)))) ∧ (getK kvs k = none → Q z M3)) Ex) Ex) Ex := rfl
@[simp] theorem ap_wLenO {c : Nat} {sp : Sp2} {d : List W} {a : TE2} : wLenO c sp d a σ M Q Ex = a σ M (fun x M1 => (∃ fs, insW M1 x = some (c, fs)) ∧ sp (x :: d) M1 (fun z M2 => ∃ n : Int, z = .d (.int n) ∧ 0 ≤ n ∧ n < 2 ^ 63 ∧ Q z M2) Ex) Ex := rfl
@[simp] theorem ap_oLtL {x y : W} : oLtL x y M Q Ex = (∃ ns ms : List Int, x = .d (.lst (ns.map D.int)) ∧ y = .d (.lst (ms.map D.int)) ∧ Q (.d (.bool (ltI ns ms))) M) := rfl
@[simp] theorem ap_oIB {u : Bool} {x y : W} : oIB u x y M Q Ex = (∃ i b, x = .d (.int i) ∧ y = .d (.bool b) ∧ Q (.d (.int (if u = true then i - (if b = true then 1 else 0) else i + if b = true then 1 else 0))) M) := rfl
@[simp] theorem ap_oIsB {n : Bool} {x y : W} : oIsB n x y M Q Ex = (∃ b, y = .d (.bool b) ∧ ∃ r, isB b x = some r ∧ Q (.d (.bool (n ^^ r))) M) := rfl
@[simp] theorem isB_n {b : Bool} : isB b (.d .none) = some false := rfl
@[simp] theorem isB_b {b c : Bool} : isB b (.d (.bool c)) = some (c == b) := rfl
@[simp] theorem isB_s {b : Bool} {s : Str} : isB b (.d (.str s)) = some false := rfl
@[simp] theorem isB_i {b : Bool} {s : Int} : isB b (.d (.int s)) = some false := rfl
@[simp] theorem ap_wDget2 {a b c : TE2} : wDget2 a b c σ M Q Ex = a σ M (fun x M1 => (dctW M1 x).isSome = true ∧ b σ M1 (fun y M2 => c σ M2 (fun z M3 => onO (dctW M3 x) fun kvs => onO (keyW y) fun k => Q ((getK kvs k).getD z) M3) Ex) Ex) Ex := rfl
@[simp] theorem ap_wDnew : wDnew σ M Q Ex = (∀ p, M p = none → Q (.c p) (put M p (.dic none []))) := rfl
@[simp] theorem ap_oDeq {n : Bool} {x y : W} : oDeq n x y M Q Ex = onO (dctW M x) fun a => onO (dctW M y) fun b => onO (hitsI b a) fun c => Q (.d (.bool (n ^^ (decide (a.length = b.length) && c)))) M := rfl
@[simp] theorem ap_oDin {n : Bool} {x y : W} : oDin n y x M Q Ex = onO (dctW M x) fun kvs => onO (keyW y) fun k => Q (.d (.bool (n ^^ (getK kvs k).isSome))) M := rfl
@[simp] theorem ap_wDc {ti : TI2} {g : TG2} {tt : TT2} {tk tv : TE2} {vs : List Nat} : wDc ti g tt tk tv vs σ M Q Ex = ti σ M (fun items ok M1 => ∀ p, M1 p = none → dcL p ok g tt tk tv (wipe2 σ vs) Q items (put M1 p (.dic none []))) Ex := rfl
@[simp] theorem dctW_c {a : Addr} : dctW M (.c a) = dctC (M a) := rfl
@[simp] theorem dctC_d {l : Option (Obj × List (Key × V))} {kvs : List (Key × W)} : dctC (some (.dic l kvs)) = some kvs := rfl
@[simp] theorem dctW_d {kvs : List (Key × D)} : dctW M (.d (.dic kvs)) = some (kvs.map fun p => (p.1, W.d p.2)) := rfl
@[simp] theorem keyW_s {z : Str} : keyW (.d (.str z)) = some (.inr z) := rfl
@[simp] theorem keyW_i {z : Int} : keyW (.d (.int z)) = some (.inl z) := rfl
@[simp] theorem keyD_s {z : Str} : keyD (.inr z) = .str z := rfl
@[simp] theorem keyD_i {z : Int} : keyD (.inl z) = .int z := rfl
@[simp] theorem wTry_s {q : Hdl} {j : Nat} {su : Su} {t : TS2} : wTry q (some j) su t = wTryA q j su t := rfl
@[simp] theorem wTry_n {q : Hdl} {su : Su} {t : TS2} : wTry q none su t = wTryO q su t := rfl
@[simp] theorem exFs_n {ws : List W} : exFs [] ws = some [] := rfl
@[simp] theorem exFs_c {g : Str} {i : Nat} {r : List (Str × Nat)} {ws : List W} : exFs ((g, i) :: r) ws = (ws[i]?).bind fun w => (exFs r ws).map fun l => (g, w) :: l := rfl
@[simp] theorem ap_wRaise {q : Exr} {t : TA2} : wRaise q t De σ M = t σ M (fun ws M1 => ws.length = q.n ∧ onO (exFs q.fl ws) fun l => De.ex ⟨q.c, l.reverse⟩ σ M1) fun x M1 => De.ex x σ M1 := rfl
@[simp] theorem ap_wTryA {q : Hdl} {i : Nat} {su : Su} {t : TS2} : wTryA q i su t De σ M = t { De with ex := fun x σ1 M1 => onO (q.m.lookup x.c) fun b => if b = true then (i < σ1.length ∧ (∀ a ∈ su.ats, ∀ f, a = .xf f → (x.c, f) ∈ q.r) ∧ ∀ p, M1 p = none → su.w x { nx := fun σ2 M2 => De.nx (σ2.set i none) M2, rt := De.rt, bk := fun σ2 M2 => De.bk (σ2.set i none) M2, ct := fun σ2 M2 => De.ct (σ2.set i none) M2, ex := fun _ _ _ => False } (σ1.set i (some (.c p))) M1) else De.ex x σ1 M1 } σ M := rfl
@[simp] theorem ap_wTryM {i : Nat} {l : List (Hdl × Su)} {t : TS2} : wTryM i l t De σ M = t { De with ex := exM i De l } σ M := rfl
@[simp] theorem hsOf_nil : hsOf Γ [] = some [] := rfl
@[simp] theorem hsOf_cons {i : Nat} {y : Str} {su : Su} {r : List (Nat × Str × Su)} : hsOf Γ ((i, y, su) :: r) = (match Γ.o.h[i]? with | some q => if q.x = y then (hsOf Γ r).map fun l => (q, su) :: l else none | none => none) := rfl
@[simp] theorem exM_nil {i : Nat} {x : XV} : exM i De [] x σ M = De.ex x σ M := rfl
@[simp] theorem exM_cons {i : Nat} {q : Hdl} {su : Su} {r : List (Hdl × Su)} {x : XV} : exM i De ((q, su) :: r) x σ M = onO (q.m.lookup x.c) fun b => if b = true then (i < σ.length ∧ (∀ a ∈ su.ats, ∀ f, a = .xf f → (x.c, f) ∈ q.r) ∧ ∀ p, M p = none → su.w x { nx := fun σ2 M2 => De.nx (σ2.set i none) M2, rt := De.rt, bk := fun σ2 M2 => De.bk (σ2.set i none) M2, ct := fun σ2 M2 => De.ct (σ2.set i none) M2, ex := fun _ _ _ => False } (σ.set i (some (.c p))) M) else exM i De r x σ M := rfl
@[simp] theorem boomi_band : BOO.mi .band = "__iand__" := rfl
@[simp] theorem boomi_bor : BOO.mi .bor = "__ior__" := rfl
@[simp] theorem boomi_add : BOO.mi .add = "__iadd__" := rfl
@[simp] theorem boomi_sub : BOO.mi .sub = "__isub__" := rfl
@[simp] theorem ap_wTryO {q : Hdl} {su : Su} {t : TS2} : wTryO q su t De σ M = t { De with ex := fun x σ1 M1 => onO (q.m.lookup x.c) fun b => if b = true then (∀ a ∈ su.ats, ∀ f, a ≠ .xf f) ∧ su.w x { De with ex := fun _ _ _ => False } σ1 M1 else De.ex x σ1 M1 } σ M := rfl
@[simp] theorem su_ret {x : XV} {a : At} : Su.w x (.ret a) De σ M = onO (a.ev x σ) fun w => De.rt w M := rfl
@[simp] theorem su_retT {x : XV} {a : List At} : Su.w x (.retT a) De σ M = onO (ats x σ a) fun ws => onO (unD ws) fun ds => ds.length ≤ 1000 ∧ De.rt (.d (.tup ds)) M := rfl
@[simp] theorem su_asg {x : XV} {i : Nat} {a : At} : Su.w x (.asg i a) De σ M = onO (a.ev x σ) fun w => De.nx (σ.set i (some w)) M := rfl
@[simp] theorem su_asgT {x : XV} {i : Nat} {a : List At} : Su.w x (.asgT i a) De σ M = onO (ats x σ a) fun ws => onO (unD ws) fun ds => ds.length ≤ 1000 ∧ De.nx (σ.set i (some (.d (.tup ds)))) M := rfl
@[simp] theorem su_pass {x : XV} : Su.w x .pass De σ M = De.nx σ M := rfl
@[simp] theorem sa_ret {a : At} : Su.ats (.ret a) = [a] := rfl
@[simp] theorem sa_retT {a : List At} : Su.ats (.retT a) = a := rfl
@[simp] theorem sa_asg {i : Nat} {a : At} : Su.ats (.asg i a) = [a] := rfl
@[simp] theorem sa_asgT {i : Nat} {a : List At} : Su.ats (.asgT i a) = a := rfl
@[simp] theorem sa_pass : Su.ats .pass = [] := rfl
@[simp] theorem ats_n {x : XV} : ats x σ [] = some [] := rfl
@[simp] theorem ats_c {x : XV} {a : At} {r : List At} : ats x σ (a :: r) = (a.ev x σ).bind fun w => (ats x σ r).map fun l => w :: l := rfl
@[simp] theorem ev_c {x : XV} {d : D} : At.ev x σ (.cst d) = some (.d d) := rfl
@[simp] theorem ev_v {x : XV} {i : Nat} : At.ev x σ (.var i) = σ[i]?.join := rfl
@[simp] theorem ev_f {x : XV} {f : Str} : At.ev x σ (.xf f) = x.fs.lookup f := rfl
@[simp] theorem wSs_cons {s : S} {r : Ss} : wSs Γ (.cons s r) De σ M = wS Γ s { De with nx := wSs Γ r De } σ M := rfl
@[simp] theorem wSs_frz {i : Nat} {r : Ss} : wSs Γ (.frz i r) = wFrz i (wSs Γ r) := rfl
@[simp] theorem wV_t0 : tru M (.d .none) = some false := rfl
@[simp] theorem wV_tb {b : Bool} : tru M (.d (.bool b)) = some b := rfl
@[simp] theorem wV_ti {i : Int} : tru M (.d (.int i)) = some (i != 0) := rfl
@[simp] theorem wV_ts {s : Str} : tru M (.d (.str s)) = some ((s.length : Int) != 0) := rfl
@[simp] theorem wV_tl {s : List D} : tru M (.d (.lst s)) = some (!s.isEmpty) := rfl
@[simp] theorem wV_tt {s : List D} : tru M (.d (.tup s)) = some (!s.isEmpty) := rfl
@[simp] theorem wV_tc {a : Addr} : tru M (.c a) = truC (M a) := rfl
@[simp] theorem wV_tcl {us : List W} : truC (some (.lst us)) = some (!us.isEmpty) := rfl
@[simp] theorem oi_ii {p : Int → Int → Bool} {ps : Str → Str → Bool} {i j : Int} : ordW p ps (.d (.int i)) (.d (.int j)) = some (p i j) := rfl
@[simp] theorem oi_ss {p : Int → Int → Bool} {ps : Str → Str → Bool} {i j : Str} : ordW p ps (.d (.str i)) (.d (.str j)) = some (ps i j) := rfl
@[simp] theorem eq_ii {i j : Int} : fEq M (.d (.int i)) (.d (.int j)) = some (decide (i = j)) := rfl
@[simp] theorem eq_ss {i j : Str} : fEq M (.d (.str i)) (.d (.str j)) = some (decide (i = j)) := rfl
@[simp] theorem sq_l {xs : List D} : seqW M (.d (.lst xs)) = some (xs.map W.d) := rfl
@[simp] theorem sq_t {xs : List D} : seqW M (.d (.tup xs)) = some (xs.map W.d) := rfl
@[simp] theorem sq_r {xs : List D} : seqW M (.r xs) = some (xs.map W.d) := rfl
@[simp] theorem sq_c {a : Addr} : seqW M (.c a) = itemsC (M a) := rfl
@[simp] theorem sq_cl {us : List W} : itemsC (some (.lst us)) = some us := rfl
@[simp] theorem sq_s {s : Str} : seqW M (.d (.str s)) = none := rfl
@[simp] theorem lw_l {xs : List D} : listW M (.d (.lst xs)) = some (xs.map W.d) := rfl
@[simp] theorem lw_t {xs : List D} : listW M (.d (.tup xs)) = none := rfl
@[simp] theorem lw_c {a : Addr} : listW M (.c a) = itemsC (M a) := rfl
@[simp] theorem lw_s {s : Str} : listW M (.d (.str s)) = none := rfl
@[simp] theorem td_t {xs : List D} : tupD (.d (.tup xs)) = some xs := rfl
@[simp] theorem td_l {xs : List D} : tupD (.d (.lst xs)) = none := rfl
@[simp] theorem td_s {s : Str} : tupD (.d (.str s)) = none := rfl
@[simp] theorem st_s {s : Str} : strD (.d (.str s)) = some s := rfl
@[simp] theorem st_l {s : List D} : strD (.d (.lst s)) = none := rfl
@[simp] theorem st_t {s : List D} : strD (.d (.tup s)) = none := rfl
@[simp] theorem st_c {a : Addr} : strD (.c a) = none := rfl
@[simp] theorem ix_i {x : W} {i : Int} : fIx M x (.d (.int i)) = (match seqW M x with | some ws => atI ws i | none => (strD x).bind fun z => (ixStr z i).map fun t => .d (.str t)) := rfl
@[simp] theorem ud_nil : unD [] = some [] := rfl
@[simp] theorem ud_cons {x : D} {r : List W} : unD (.d x :: r) = (unD r).map (x :: ·) := rfl
@[simp] theorem uk_nil : unK [] = some [] := rfl
@[simp] theorem uk_cons {f : Str} {x : D} {r : List (Str × W)} : unK ((f, .d x) :: r) = (unK r).map ((f, x) :: ·) := rfl
@[simp] theorem ss_nil : strsL [] = some [] := rfl
@[simp] theorem ss_cons {x : Str} {r : List W} : strsL (.d (.str x) :: r) = (strsL r).map (x :: ·) := rfl
@[simp] theorem iw_o {c : Nat} {fs : List (Str × D)} : insW M (.d (.obj c fs)) = some (c, fs.map fun p => (p.1, W.d p.2)) := rfl
@[simp] theorem iw_c {a : Addr} : insW M (.c a) = insC (M a) := by
  show (match M a with | some (.ins c _ fs) => some (c, fs) | _ => none) = _
  cases M a with
  | none => rfl
  | some x => cases x <;> rfl
@[simp] theorem iw_ci {c : Nat} {dx : Addr} {fs : List (Str × W)} : insC (some (.ins c dx fs)) = some (c, fs) := rfl
@[simp] theorem iw_s {s : Str} : insW M (.d (.str s)) = none := rfl
@[simp] theorem iw_i {s : Int} : insW M (.d (.int s)) = none := rfl
@[simp] theorem iw_b {s : Bool} : insW M (.d (.bool s)) = none := rfl
@[simp] theorem iw_n : insW M (.d .none) = none := rfl
@[simp] theorem iw_t {s : List D} : insW M (.d (.tup s)) = none := rfl
@[simp] theorem iw_l {s : List D} : insW M (.d (.lst s)) = none := rfl
@[simp] theorem kd_o {c : Nat} {fs : List (Str × D)} : kdW M (.d (.obj c fs)) = some (.cl c) := rfl
@[simp] theorem kd_s {s : Str} : kdW M (.d (.str s)) = some (.ty "str") := rfl
@[simp] theorem kd_i {s : Int} : kdW M (.d (.int s)) = some (.ty "int") := rfl
@[simp] theorem kd_n : kdW M (.d .none) = some (.ty "NoneType") := rfl
@[simp] theorem kd_b {b : Bool} : kdW M (.d (.bool b)) = some (.ty "bool") := rfl
@[simp] theorem kd_t {b : List D} : kdW M (.d (.tup b)) = some (.ty "tuple") := rfl
@[simp] theorem kd_l {b : List D} : kdW M (.d (.lst b)) = some (.ty "list") := rfl
@[simp] theorem nn_n : isNon (.d .none) = true := rfl
@[simp] theorem nn_s {s : Str} : isNon (.d (.str s)) = false := rfl
@[simp] theorem nn_i {s : Int} : isNon (.d (.int s)) = false := rfl
@[simp] theorem nn_b {s : Bool} : isNon (.d (.bool s)) = false := rfl
@[simp] theorem nn_l {s : List D} : isNon (.d (.lst s)) = false := rfl
@[simp] theorem nn_t {s : List D} : isNon (.d (.tup s)) = false := rfl
@[simp] theorem nn_c {s : Addr} : isNon (.c s) = false := rfl
@[simp] theorem nn_o {c : Nat} {fs : List (Str × D)} : isNon (.d (.obj c fs)) = false := rfl
@[simp] theorem pw_nil {f : Str} {v : W} : putW f v [] = [(f, v)] := rfl
@[simp] theorem pw_cons {f g : Str} {v x : W} {r : List (Str × W)} : putW f v ((g, x) :: r) = (if g = f then (g, v) :: r else (g, x) :: putW f v r) := rfl
@[simp] theorem ad_ii {m : Bool} {a b : Int} : oAdd m (.d (.int a)) (.d (.int b)) M Q Ex = oAddD (.int a) (.int b) M Q := rfl
@[simp] theorem ad_ss {m : Bool} {a b : Str} : oAdd m (.d (.str a)) (.d (.str b)) M Q Ex = oAddD (.str a) (.str b) M Q := rfl
@[simp] theorem ad_tt {m : Bool} {a b : List D} : oAdd m (.d (.tup a)) (.d (.tup b)) M Q Ex = oAddD (.tup a) (.tup b) M Q := rfl
@[simp] theorem fl_nil {ok : Mp → Prop} {g : TG2} {tb : TS2} : forL ok g tb De [] σ M = (ok M ∧ De.nx σ M) := rfl
@[simp] theorem fl_cons {ok : Mp → Prop} {g : TG2} {tb : TS2} {w : W} {r : List W} : forL ok g tb De (w :: r) σ M = (ok M ∧ g w σ M (fun σ1 M1 => tb { De with nx := forL ok g tb De r, ct := forL ok g tb De r, bk := De.nx } σ1 M1) fun x M1 => De.ex x σ M1) := rfl
@[simp] theorem ap_wFld {ok : Nat → Prop} {f : Str} {t : TE2} : wFld ok f t σ M Q Ex = t σ M (fun w M1 => onO (insW M1 w) fun p => ok p.1 ∧ onO (p.2.lookup f) fun v => Q v M1) Ex := by
  have e : (fun (w : W) (M1 : Mp) => ∃ c fs v, insW M1 w = some (c, fs) ∧ ok c ∧ fs.lookup f = some v ∧ Q v M1) = fun w M1 => onO (insW M1 w) fun p => ok p.1 ∧ onO (p.2.lookup f) fun v => Q v M1 := by
    funext w M1
    apply propext
    constructor
    · rintro ⟨c, fs, v, h1, h2, h3, q⟩; exact ⟨_, h1, h2, _, h3, q⟩
    · rintro ⟨p, h1, h2, v, h3, q⟩; exact ⟨p.1, p.2, v, h1, h2, h3, q⟩
  unfold wFld; rw [e]
@[simp] theorem ap_wMeth {c : Nat} {m : Str} {sp : Sp2} {d : List W} {t : TE2} {a : TA2} : wMeth c m sp d t a σ M Q Ex = t σ M (fun x M1 => onO (insW M1 x) fun p => p.1 = c ∧ p.2.lookup m = none ∧ a σ M1 (fun ws M2 => sp (x :: (ws ++ d)) M2 Q Ex) Ex) Ex := by
  have e : (fun (x : W) (M1 : Mp) => ∃ fs, insW M1 x = some (c, fs) ∧ fs.lookup m = none ∧ a σ M1 (fun ws M2 => sp (x :: (ws ++ d)) M2 Q Ex) Ex) = fun x M1 => onO (insW M1 x) fun p => p.1 = c ∧ p.2.lookup m = none ∧ a σ M1 (fun ws M2 => sp (x :: (ws ++ d)) M2 Q Ex) Ex := by
    funext w M1
    apply propext
    constructor
    · rintro ⟨fs, h1, h2, q⟩; exact ⟨_, h1, rfl, h2, q⟩
    · rintro ⟨p, h1, h0, h2, q⟩; exact ⟨p.2, by rw [h1, ← h0], h2, q⟩
  unfold wMeth; rw [e]
@[simp] theorem ap_wOwn1 {c : Nat} {sp : Sp2} {d : List W} {t : TE2} : wOwn1 c sp d t σ M Q Ex = t σ M (fun x M1 => (onO (insW M1 x) fun p => p.1 = c) ∧ sp (x :: d) M1 Q Ex) Ex := by
  simp only [← ins_ex]; rfl
@[simp] theorem ap_wOwnCall {c : Nat} {sp : Sp2} {d : List W} {t : TE2} {a : TA2} : wOwnCall c sp d t a σ M Q Ex = t σ M (fun x M1 => (onO (insW M1 x) fun p => p.1 = c) ∧ a σ M1 (fun ws M2 => (onO (insW M2 x) fun p => p.1 = c) ∧ sp (x :: (ws ++ d)) M2 Q Ex) Ex) Ex := by
  simp only [← ins_ex]; rfl
@[simp] theorem ap_oOwn {c : Nat} {sp : Sp2} {d : List W} {x y : W} : oOwn c sp d x y M Q Ex = ((onO (insW M x) fun p => p.1 = c) ∧ (onO (insW M y) fun p => p.1 = c) ∧ sp (x :: y :: d) M Q Ex) := by
  simp only [← ins_ex]; rfl
@[simp] theorem ap_oOwnIn {n : Bool} {c : Nat} {sp : Sp2} {d : List W} {x y : W} : oOwnIn n c sp d y x M Q Ex = ((onO (insW M x) fun p => p.1 = c) ∧ sp (x :: y :: d) M (fun z M1 => onB z fun b => Q (.d (.bool (if n = true then !b else b))) M1) Ex) := by
  simp only [← ins_ex]; rfl
@[simp] theorem ap_oNeo {c : Nat} {sp : Sp2} {d : List W} {x y : W} : oNeo c sp d x y M Q Ex = ((onO (insW M x) fun p => p.1 = c) ∧ (onO (insW M y) fun p => p.1 = c) ∧ sp (x :: y :: d) M (fun z M1 => onB z fun b => Q (.d (.bool (!b))) M1) Ex) := by
  simp only [← ins_ex]; rfl
@[simp] theorem ap_oRef {c : Nat} {sp : Sp2} {d : List W} {x y : W} : oRef c sp d x y M Q Ex = ((onO (insW M x) fun p => p.1 = c) ∧ (onO (insW M y) fun p => p.1 = c) ∧ sp (y :: x :: d) M Q Ex) := by
  simp only [← ins_ex]; rfl
@[simp] theorem ap_oEql {i : Isc} {c : Nat} {sp : Sp2} {d : List W} {x y : W} : oEql i c sp d x y M Q Ex = ((onO (insW M x) fun p => p.1 = c) ∧ i.c = c ∧ (∃ n, tyW M y = some n ∧ i.ks.lookup (.ty n) = some false) ∧ sp (x :: y :: d) M Q Ex) := by
  simp only [← ins_ex]; rfl
@[simp] theorem ap_oNel {i : Isc} {c : Nat} {sp : Sp2} {d : List W} {x y : W} : oNel i c sp d x y M Q Ex = ((onO (insW M x) fun p => p.1 = c) ∧ i.c = c ∧ (∃ n, tyW M y = some n ∧ i.ks.lookup (.ty n) = some false) ∧ sp (x :: y :: d) M (fun z M1 => onB z fun b => Q (.d (.bool (!b))) M1) Ex) := by
  simp only [← ins_ex]; rfl
@[simp] theorem tyW_s {z : Str} : tyW M (.d (.str z)) = some "str" := rfl
@[simp] theorem tyW_i {z : Int} : tyW M (.d (.int z)) = some "int" := rfl
@[simp] theorem tyW_n : tyW M (.d .none) = some "NoneType" := rfl
theorem tyW_dic {a : Addr} {lk : Option (Obj × List (Key × V))} {kvs : List (Key × W)} (h : M a = some (.dic lk kvs)) : tyW M (.c a) = some "dict" := by
  show (match M a with | some (.dic _ _) => some "dict" | m => (itemsC m).map fun _ => "list") = _
  rw [h]
@[simp] theorem ap_wIsc {q : Isc} {t : TE2} : wIsc q t σ M Q Ex = t σ M (fun w M1 => onO (kdW M1 w) fun kd => onO (q.ks.lookup kd) fun b => Q (.d (.bool b)) M1) Ex := by
  have e : (fun (w : W) (M1 : Mp) => ∃ kd b, kdW M1 w = some kd ∧ q.ks.lookup kd = some b ∧ Q (.d (.bool b)) M1) = fun w M1 => onO (kdW M1 w) fun kd => onO (q.ks.lookup kd) fun b => Q (.d (.bool b)) M1 := by
    funext w M1
    apply propext
    constructor
    · rintro ⟨kd, b, h1, h2, q⟩; exact ⟨_, h1, _, h2, q⟩
    · rintro ⟨kd, h1, b, h2, q⟩; exact ⟨kd, b, h1, h2, q⟩
  unfold wIsc; rw [e]
@[simp] theorem ap_wSrt {u m : Bool} {t : TE2} : wSrt u m t σ M Q Ex = t σ M (fun x M1 => onO (listW M1 x) fun ws => onO (strsL ws) fun xs => xs.length < 1000 ∧ (u = false → xs.length < 64) ∧ newL m ((if u = true then asc xs else srt xs).map fun z => W.d (.str z)) M1 Q) Ex := by
  have e : (fun (x : W) (M1 : Mp) => ∃ ws xs, listW M1 x = some ws ∧ strsL ws = some xs ∧ xs.length < 1000 ∧ (u = false → xs.length < 64) ∧ newL m ((if u = true then asc xs else srt xs).map dstr) M1 Q) = fun x M1 => onO (listW M1 x) fun ws => onO (strsL ws) fun xs => xs.length < 1000 ∧ (u = false → xs.length < 64) ∧ newL m ((if u = true then asc xs else srt xs).map fun z => W.d (.str z)) M1 Q := by
    funext x M1
    apply propext
    constructor
    · rintro ⟨ws, xs, h1, h2, q⟩; exact ⟨_, h1, _, h2, q⟩
    · rintro ⟨ws, h1, xs, h2, q⟩; exact ⟨ws, xs, h1, h2, q⟩
  unfold wSrt; rw [e]
@[simp] theorem ap_wFrzO {t : TE2} : wFrzO t σ M Q Ex = t σ M (fun w M1 => onA w fun a => onO (insX (M1 a)) fun p => onO (unK p.2.2) fun ds => Q (.d (.obj p.1 ds)) (del M1 a)) Ex := by
  have e : (fun (w : W) (M1 : Mp) => ∃ a c dx fs ds, w = .c a ∧ M1 a = some (.ins c dx fs) ∧ unK fs = some ds ∧ Q (.d (.obj c ds)) (del M1 a)) = fun w M1 => onA w fun a => onO (insX (M1 a)) fun p => onO (unK p.2.2) fun ds => Q (.d (.obj p.1 ds)) (del M1 a) := by
    funext w M1
    apply propext
    constructor
    · rintro ⟨a, c, dx, fs, ds, h0, h1, h2, q⟩; exact ⟨a, h0, (c, dx, fs), by rw [h1]; rfl, ds, h2, q⟩
    · rintro ⟨a, h0, ⟨c, dx, fs⟩, h1, ds, h2, q⟩; exact ⟨a, c, dx, fs, ds, h0, insX_eq h1, h2, q⟩
  unfold wFrzO; rw [e]
@[simp] theorem wgCons_c {i : Nat} {u : TGs2} {w : W} {r : List W} {b : St2 → Mp → Prop} : wgCons i u (w :: r) σ M b Ex = u r (σ.set i (some w)) M b Ex := by
  apply propext
  constructor
  · rintro ⟨x, r', e, q⟩; cases e; exact q
  · intro q; exact ⟨w, r, rfl, q⟩
@[simp] theorem wgNil_c {b : St2 → Mp → Prop} : wgNil [] σ M b Ex = b σ M := propext ⟨fun h => h.2, fun h => ⟨rfl, h⟩⟩
theorem oIsi_of {t : Ty} {w : W} {a : String} {r : Bool} (h1 : tyW M w = some a) (h2 : kitB a t.n = some r) : oIsi t w M Q = Q (.d (.bool r)) M := propext ⟨by rintro ⟨a', r', e1, e2, q⟩; rw [h1] at e1; cases e1; rw [h2] at e2; cases e2; exact q, fun q => ⟨a, r, h1, h2, q⟩⟩
@[simp] theorem oIsi_int {t : Ty} {i : Int} : oIsi t (.d (.int i)) M Q = Q (.d (.bool (decide (t = .int)))) M := by cases t <;> exact oIsi_of rfl (by decide +kernel)
@[simp] theorem oIsi_str {t : Ty} {i : Str} : oIsi t (.d (.str i)) M Q = Q (.d (.bool (decide (t = .str)))) M := by cases t <;> exact oIsi_of rfl (by decide +kernel)
@[simp] theorem oIsi_bool {t : Ty} {i : Bool} : oIsi t (.d (.bool i)) M Q = Q (.d (.bool (decide (t = .bool ∨ t = .int)))) M := by cases t <;> exact oIsi_of rfl (by decide +kernel)
@[simp] theorem oIsi_none {t : Ty} : oIsi t (.d .none) M Q = Q (.d (.bool false)) M := by cases t <;> exact oIsi_of rfl (by decide +kernel)
@[simp] theorem oIsi_lst {t : Ty} {i : List D} : oIsi t (.d (.lst i)) M Q = Q (.d (.bool (decide (t = .list)))) M := by cases t <;> exact oIsi_of rfl (by decide +kernel)
@[simp] theorem oIsi_tup {t : Ty} {i : List D} : oIsi t (.d (.tup i)) M Q = Q (.d (.bool (decide (t = .tuple)))) M := by cases t <;> exact oIsi_of rfl (by decide +kernel)
@[simp] theorem eq_bb {i j : Bool} : fEq M (.d (.bool i)) (.d (.bool j)) = some (i == j) := by cases i <;> cases j <;> rfl
@[simp] theorem ap_wAugO {c : Nat} {sp : Sp2} {d : List W} {i : Nat} {t : TE2} : wAugO c sp d i t De σ M = onO (σ[i]?.join) fun x => t σ M (fun y M1 => (∃ fs, insW M1 x = some (c, fs)) ∧ sp (x :: y :: d) M1 (fun z M2 => De.nx (σ.set i (some z)) M2) fun e M2 => De.ex e σ M2) fun e M1 => De.ex e σ M1 := by
  apply propext
  unfold wAugO
  constructor
  · rintro ⟨x, h, q⟩; exact ⟨x, by rw [h]; rfl, q⟩
  · rintro ⟨x, h, q⟩; exact ⟨x, join_eq h, q⟩
@[simp] theorem ap_wAugI {f : Int → Int → Int} {i : Nat} {t : TE2} : wAugI f i t De σ M = onO (σ[i]?.join) fun w => onI w fun a => t σ M (fun w M1 => onI w fun b => De.nx (σ.set i (some (.d (.int (f a b))))) M1) fun x M1 => De.ex x σ M1 := by
  apply propext
  constructor
  · rintro ⟨a, h, q⟩; exact ⟨_, by rw [h]; rfl, a, rfl, q⟩
  · rintro ⟨w, h, a, rfl, q⟩; exact ⟨a, join_eq h, q⟩
@[simp] theorem ap_wFrz {i : Nat} {t : TS2} : wFrz i t De σ M = onO (σ[i]?.join) fun w => onA w fun a => onO (itemsC (M a)) fun us => onO (unD us) fun ds => t De (σ.set i (some (.d (.lst ds)))) (del M a) := by
  apply propext
  constructor
  · rintro ⟨a, us, ds, h, h1, h2, q⟩; exact ⟨_, by rw [h]; rfl, a, rfl, us, by rw [h1]; rfl, ds, h2, q⟩
  · rintro ⟨w, h, a, rfl, us, h1, ds, h2, q⟩; exact ⟨a, us, ds, join_eq h, itemsC_eq h1, h2, q⟩
@[simp] theorem ap_wSetF {ok : Nat → Prop} {f : Str} {te tv : TE2} : wSetF ok f te tv De σ M = tv σ M (fun y M1 => te σ M1 (fun x M2 => onA x fun a => onO (insX (M2 a)) fun p => ok p.1 ∧ p.2.2.length < 1000 ∧ De.nx σ (put M2 a (.ins p.1 p.2.1 (putW f y p.2.2)))) fun x M2 => De.ex x σ M2) fun x M1 => De.ex x σ M1 := by
  have e : (fun (y : W) (M1 : Mp) => te σ M1 (fun x M2 => ∃ a c dx fs, x = .c a ∧ M2 a = some (.ins c dx fs) ∧ ok c ∧ fs.length < 1000 ∧ De.nx σ (put M2 a (.ins c dx (putW f y fs)))) fun x M2 => De.ex x σ M2) = fun y M1 => te σ M1 (fun x M2 => onA x fun a => onO (insX (M2 a)) fun p => ok p.1 ∧ p.2.2.length < 1000 ∧ De.nx σ (put M2 a (.ins p.1 p.2.1 (putW f y p.2.2)))) fun x M2 => De.ex x σ M2 := by
    funext y M1
    refine congrArg (fun z => te σ M1 z _) ?_
    funext x M2
    apply propext
    constructor
    · rintro ⟨a, c, dx, fs, h0, h1, h2, h3, q⟩; exact ⟨a, h0, (c, dx, fs), by rw [h1]; rfl, h2, h3, q⟩
    · rintro ⟨a, h0, ⟨c, dx, fs⟩, h1, h2, h3, q⟩; exact ⟨a, c, dx, fs, h0, insX_eq h1, h2, h3, q⟩
  unfold wSetF; rw [e]
@[simp] theorem ap_wAugF {ok : Nat → Prop} {add : Bool} {f : Str} {te tv : TE2} : wAugF ok add f te tv De σ M = te σ M (fun x M1 => onA x fun a => onO (insX (M1 a)) fun p => ok p.1 ∧ onO (p.2.2.lookup f) fun w => onI w fun i => tv σ M1 (fun y M2 => onI y fun j => onO (insX (M2 a)) fun p2 => p2.1 = p.1 ∧ p2.2.2.length < 1000 ∧ De.nx σ (put M2 a (.ins p.1 p2.2.1 (putW f (.d (.int (if add = true then i + j else i - j))) p2.2.2)))) fun x M2 => De.ex x σ M2) fun x M1 => De.ex x σ M1 := by
  unfold wAugF
  refine congrArg (fun z => te σ M z _) ?_
  funext x M1
  apply propext
  have e : ∀ (a : Addr) (c : Nat) (i : Int), (fun (y : W) (M2 : Mp) => ∃ j dx' fs', y = .d (.int j) ∧ M2 a = some (.ins c dx' fs') ∧ fs'.length < 1000 ∧ De.nx σ (put M2 a (.ins c dx' (putW f (.d (.int (if add = true then i + j else i - j))) fs')))) = fun y M2 => onI y fun j => onO (insX (M2 a)) fun p2 => p2.1 = c ∧ p2.2.2.length < 1000 ∧ De.nx σ (put M2 a (.ins c p2.2.1 (putW f (.d (.int (if add = true then i + j else i - j))) p2.2.2))) := fun a c i => by
    funext y M2
    apply propext
    constructor
    · rintro ⟨j, dx', fs', h0, h1, h2, q⟩; exact ⟨j, h0, (c, dx', fs'), by rw [h1]; rfl, rfl, h2, q⟩
    · rintro ⟨j, h0, ⟨c', dx', fs'⟩, h1, h2, h3, q⟩
      cases h2
      exact ⟨j, dx', fs', h0, insX_eq h1, h3, q⟩
  constructor
  · rintro ⟨a, c, dx, fs, i, h0, h1, h2, h3, q⟩
    rw [e] at q
    exact ⟨a, h0, (c, dx, fs), by rw [h1]; rfl, h2, _, h3, i, rfl, q⟩
  · rintro ⟨a, h0, ⟨c, dx, fs⟩, h1, h2, w, h3, i, rfl, q⟩
    refine ⟨a, c, dx, fs, i, h0, insX_eq h1, h2, h3, ?_⟩
    rw [e]
    exact q
@[simp] theorem oRep_s {z : Str} {n : Int} : oRep (.d (.str z)) (.d (.int n)) M Q Ex = (-(2 ^ 62) ≤ n ∧ n < 2 ^ 62 ∧ z.length * n.toNat ≤ sizeLine ∧ Q (.d (.str (Txt.mul z n))) M) := by
  apply propext
  constructor
  · rintro ⟨n', e, h1, h2, ⟨z', e2, h3, q⟩ | ⟨ds, e2, _⟩⟩
    · cases e; cases e2; exact ⟨h1, h2, h3, q⟩
    · cases e2
  · rintro ⟨h1, h2, h3, q⟩; exact ⟨n, rfl, h1, h2, .inl ⟨z, rfl, h3, q⟩⟩
@[simp] theorem oRep_l {z : List D} {n : Int} : oRep (.d (.lst z)) (.d (.int n)) M Q Ex = (-(2 ^ 62) ≤ n ∧ n < 2 ^ 62 ∧ z.length * n.toNat ≤ sizeLine ∧ Q (.d (.lst (List.replicate n.toNat z).flatten)) M) := by
  apply propext
  constructor
  · rintro ⟨n', e, h1, h2, ⟨z', e2, _⟩ | ⟨ds, e2, h3, q⟩⟩
    · cases e2
    · cases e; cases e2; exact ⟨h1, h2, h3, q⟩
  · rintro ⟨h1, h2, h3, q⟩; exact ⟨n, rfl, h1, h2, .inr ⟨z, rfl, h3, q⟩⟩
@[simp] theorem rListK_c {m : Bool} {a : Addr} : rListK m [.c a] M Q = onO (dicU (M a)) fun kvs => (∀ p ∈ kvs, keyOk p.1) ∧ newL m (kvs.map fun p => .d (keyD p.1)) M Q := by
  apply propext
  constructor
  · rintro ⟨a', kvs, e, h, h2, q⟩; cases e; exact ⟨kvs, by rw [h]; rfl, h2, q⟩
  · rintro ⟨kvs, h, h2, q⟩; exact ⟨a, kvs, rfl, dicU_eq h, h2, q⟩
@[simp] theorem rLenK_c {a : Addr} : rLenK [.c a] M Q = onO (dicU (M a)) fun kvs => Q (.d (.int kvs.length)) M := by
  apply propext
  constructor
  · rintro ⟨a', kvs, e, h, q⟩; cases e; exact ⟨kvs, by rw [h]; rfl, q⟩
  · rintro ⟨kvs, h, q⟩; exact ⟨a, kvs, rfl, dicU_eq h, q⟩
@[simp] theorem rDictK_w {w : W} : rDictK [w] M Q = onO (dctW M w) fun kvs => ∀ p, M p = none → Q (.c p) (put M p (.dic none kvs)) := by
  apply propext
  constructor
  · rintro ⟨w', kvs, e, h, q⟩; cases e; exact ⟨kvs, h, q⟩
  · rintro ⟨kvs, h, q⟩; exact ⟨w, kvs, rfl, h, q⟩
@[simp] theorem ap_wLock {i : Nat} {f : Option Str} {t : TS2} : wLock i f t De σ M = onO (rdA i f σ M) fun a => onO (dicU (M a)) fun kvs => ∀ l : Obj × List (Key × V), t { nx := fun σ1 M1 => M1 a = some (.dic (some l) kvs) ∧ De.nx σ1 (put M1 a (.dic none kvs)), rt := fun w M1 => M1 a = some (.dic (some l) kvs) ∧ De.rt w (put M1 a (.dic none kvs)), bk := fun σ1 M1 => M1 a = some (.dic (some l) kvs) ∧ De.bk σ1 (put M1 a (.dic none kvs)), ct := fun σ1 M1 => M1 a = some (.dic (some l) kvs) ∧ De.ct σ1 (put M1 a (.dic none kvs)), ex := fun x σ1 M1 => M1 a = some (.dic (some l) kvs) ∧ De.ex x σ1 (put M1 a (.dic none kvs)) } σ (put M a (.dic (some l) kvs)) := by
  apply propext
  constructor
  · rintro ⟨a, h, kvs, h2, q⟩; exact ⟨a, h, kvs, by rw [h2]; rfl, q⟩
  · rintro ⟨a, h, kvs, h2, q⟩; exact ⟨a, h, kvs, dicU_eq h2, q⟩
@[simp] theorem ap_wLockE {i : Nat} {f : Option Str} {t : TE2} : wLockE i f t σ M Q Ex = onO (rdA i f σ M) fun a => onO (dicU (M a)) fun kvs => ∀ l : Obj × List (Key × V), t σ (put M a (.dic (some l) kvs)) (fun w M1 => M1 a = some (.dic (some l) kvs) ∧ Q w (put M1 a (.dic none kvs))) Ex := by
  apply propext
  constructor
  · rintro ⟨a, h, kvs, h2, q⟩; exact ⟨a, h, kvs, by rw [h2]; rfl, q⟩
  · rintro ⟨a, h, kvs, h2, q⟩; exact ⟨a, h, kvs, dicU_eq h2, q⟩
@[simp] theorem ap_wiKeys {t : TE2} {R : List W → (Mp → Prop) → Mp → Prop} : wiKeys t σ M R Ex = t σ M (fun x M1 => onA x fun a => onO (dicL (M1 a)) fun q => (∀ p ∈ q.2, keyOk p.1) ∧ R (q.2.map fun p => .d (keyD p.1)) (fun M2 => M2 a = some (.dic (some q.1) q.2)) M1) Ex := by
  unfold wiKeys
  refine congrArg (fun z => t σ M z Ex) ?_
  funext x M1
  apply propext
  constructor
  · rintro ⟨a, l, kvs, h, h2, h3, q⟩; exact ⟨a, h, (l, kvs), by rw [h2]; rfl, h3, q⟩
  · rintro ⟨a, h, ⟨l, kvs⟩, h2, h3, q⟩; exact ⟨a, l, kvs, h, dicL_eq h2, h3, q⟩
@[simp] theorem ap_wDput {a b c : TE2} : wDput a b c De σ M = c σ M (fun v M1 => a σ M1 (fun x M2 => b σ M2 (fun y M3 => onA x fun p => onO (dicU (M3 p)) fun kvs => kvs.length < sizeLine ∧ onO (keyW y) fun k => De.nx σ (put M3 p (.dic none (putD kvs k v)))) fun z M3 => De.ex z σ M3) fun z M2 => De.ex z σ M2) fun z M1 => De.ex z σ M1 := by
  have e : ∀ (v : W), (fun (x : W) (M2 : Mp) => b σ M2 (fun y M3 => ∃ p kvs, x = .c p ∧ M3 p = some (.dic none kvs) ∧ kvs.length < sizeLine ∧ ofO (keyW y) fun k => De.nx σ (put M3 p (.dic none (putD kvs k v)))) fun z M3 => De.ex z σ M3) = fun x M2 => b σ M2 (fun y M3 => onA x fun p => onO (dicU (M3 p)) fun kvs => kvs.length < sizeLine ∧ onO (keyW y) fun k => De.nx σ (put M3 p (.dic none (putD kvs k v)))) fun z M3 => De.ex z σ M3 := fun v => by
    funext x M2
    refine congrArg (fun z => b σ M2 z _) ?_
    funext y M3
    apply propext
    constructor
    · rintro ⟨p, kvs, h, h2, h3, q⟩; exact ⟨p, h, kvs, by rw [h2]; rfl, h3, q⟩
    · rintro ⟨p, h, kvs, h2, h3, q⟩; exact ⟨p, kvs, h, dicU_eq h2, h3, q⟩
  unfold wDput
  simp only [e]
@[simp] theorem ap_wDdel {a b : TE2} : wDdel a b De σ M = a σ M (fun x M1 => b σ M1 (fun y M2 => onA x fun p => onO (dicU (M2 p)) fun kvs => onO (keyW y) fun k => (getK kvs k).isSome = true ∧ De.nx σ (put M2 p (.dic none (dropD kvs k)))) fun z M2 => De.ex z σ M2) fun z M1 => De.ex z σ M1 := by
  have e : (fun (x : W) (M1 : Mp) => b σ M1 (fun y M2 => ∃ p kvs, x = .c p ∧ M2 p = some (.dic none kvs) ∧ ofO (keyW y) fun k => (getK kvs k).isSome = true ∧ De.nx σ (put M2 p (.dic none (dropD kvs k)))) fun z M2 => De.ex z σ M2) = fun x M1 => b σ M1 (fun y M2 => onA x fun p => onO (dicU (M2 p)) fun kvs => onO (keyW y) fun k => (getK kvs k).isSome = true ∧ De.nx σ (put M2 p (.dic none (dropD kvs k)))) fun z M2 => De.ex z σ M2 := by
    funext x M1
    refine congrArg (fun z => b σ M1 z _) ?_
    funext y M2
    apply propext
    constructor
    · rintro ⟨p, kvs, h, h2, q⟩; exact ⟨p, h, kvs, by rw [h2]; rfl, q⟩
    · rintro ⟨p, h, kvs, h2, q⟩; exact ⟨p, kvs, h, dicU_eq h2, q⟩
  unfold wDdel
  rw [e]
@[simp] theorem rMin2_i {a b : Int} : rMin2 [.d (.int a), .d (.int b)] M Q = Q (.d (.int (if b < a then b else a))) M := by
  apply propext
  constructor
  · rintro ⟨i, j, e, q⟩; cases e; exact q
  · intro q; exact ⟨a, b, rfl, q⟩
@[simp] theorem rDictP_l {xs : List D} : rDictP [.d (.lst xs)] M Q = onO (keysOf xs) fun ps => ∀ p, M p = none → Q (.c p) (put M p (.dic none (mergeD [] (ps.map fun p => (p.1, W.d p.2))))) := by
  apply propext
  constructor
  · rintro ⟨xs', ps, e, h, q⟩; cases e; exact ⟨ps, h, q⟩
  · rintro ⟨ps, h, q⟩; exact ⟨xs, ps, rfl, h, q⟩
@[simp] theorem ap_wiEnum {t : TE2} {R : List W → (Mp → Prop) → Mp → Prop} : wiEnumS t σ M R Ex = t σ M (fun w M1 => onO (seqW M1 w) fun ws => onO (unD ws) fun ds => R ((enumD 0 ds).map W.d) (fun M2 => seqW M2 w = some ws) M1) Ex := by
  unfold wiEnumS
  refine congrArg (fun z => t σ M z Ex) ?_
  funext x M1
  apply propext
  constructor
  · rintro ⟨ws, ds, h, h2, q⟩; exact ⟨ws, h, ds, h2, q⟩
  · rintro ⟨ws, h, ds, h2, q⟩; exact ⟨ws, ds, h, h2, q⟩
@[simp] theorem ap_wiItems {t : TE2} {R : List W → (Mp → Prop) → Mp → Prop} : wiItems t σ M R Ex = t σ M (fun x M1 => onA x fun a => onO (dicL (M1 a)) fun q => onO (pairsD q.2) fun ps => (∀ p ∈ ps, keyOk p.1) ∧ R (ps.map fun p => .d (tupKD p)) (fun M2 => M2 a = some (.dic (some q.1) q.2)) M1) Ex := by
  unfold wiItems
  refine congrArg (fun z => t σ M z Ex) ?_
  funext x M1
  apply propext
  constructor
  · rintro ⟨a, l, kvs, ps, h, h2, h3, h4, q⟩; exact ⟨a, h, (l, kvs), by rw [h2]; rfl, ps, h3, h4, q⟩
  · rintro ⟨a, h, ⟨l, kvs⟩, h2, ps, h3, h4, q⟩; exact ⟨a, l, kvs, ps, h, dicL_eq h2, h3, h4, q⟩
@[simp] theorem ap_wListItems {t : TE2} : wListItems t σ M Q Ex = t σ M (fun x M1 => onA x fun a => onO (dicU (M1 a)) fun kvs => onO (pairsD kvs) fun ps => (∀ p ∈ ps, keyOk p.1) ∧ Q (.d (.lst (ps.map tupKD))) M1) Ex := by
  unfold wListItems
  refine congrArg (fun z => t σ M z Ex) ?_
  funext x M1
  apply propext
  constructor
  · rintro ⟨a, kvs, ps, h, h2, h3, h4, q⟩; exact ⟨a, h, kvs, by rw [h2]; rfl, ps, h3, h4, q⟩
  · rintro ⟨a, h, kvs, h2, ps, h3, h4, q⟩; exact ⟨a, kvs, ps, h, dicU_eq h2, h3, h4, q⟩
@[simp] theorem newLf {ws : List W} : newL false ws M Q = onO (unD ws) fun ds => Q (.d (.lst ds)) M := rfl
@[simp] theorem ap_wVar {i : Nat} : wVar i σ M Q Ex = onO (σ[i]?.join) fun w => Q w M := by
  unfold wVar onO
  apply propext
  constructor
  · rintro ⟨w, e, q⟩; exact ⟨w, by rw [e]; rfl, q⟩
  · rintro ⟨w, e, q⟩
    refine ⟨w, ?_, q⟩
    cases h : σ[i]? with
    | none => rw [h] at e; cases e
    | some x => rw [h] at e; rw [show x = some w from e]
@[simp] theorem ap_wOwnS {c : Nat} {sp : Sp2} {d : List W} {t : TE2} : wOwnS c sp d t σ M Q Ex = t σ M (fun x M1 => (∃ fs, insW M1 x = some (c, fs)) ∧ sp (x :: d) M1 (fun z M2 => onS z fun t => Q (.d (.str t)) M2) Ex) Ex := by
  have e : (fun (z : W) (M2 : Mp) => ∃ t, z = .d (.str t) ∧ Q z M2) = fun z M2 => onS z fun t => Q (.d (.str t)) M2 := by
    funext z M2
    apply propext
    constructor
    · rintro ⟨t, rfl, q⟩; exact ⟨t, rfl, q⟩
    · rintro ⟨t, rfl, q⟩; exact ⟨t, rfl, q⟩
  unfold wOwnS
  rw [e]
@[simp] theorem oSub_ii {a b : Int} : oSub (.d (.int a)) (.d (.int b)) M Q Ex = Q (.d (.int (a - b))) M := by simp [oSub, oInt]
@[simp] theorem oMul_ii {a b : Int} : oInt (fun i j => i * j) oMul0 (.d (.int a)) (.d (.int b)) M Q Ex = (oMul0 a b ∧ Q (.d (.int (a * b))) M) := by simp [oInt]
@[simp] theorem oMod_ii {a b : Int} : oMod (.d (.int a)) (.d (.int b)) M Q Ex = (0 < b ∧ Q (.d (.int (a % b))) M) := by simp [oMod, oInt]
@[simp] theorem oFdiv_ii {a b : Int} : oFdiv (.d (.int a)) (.d (.int b)) M Q Ex = ((0 < b ∧ b.natAbs.log2 < 9000) ∧ Q (.d (.int (a / b))) M) := by simp [oFdiv, oInt]
@[simp] theorem oPow_ii {a b : Int} : oPow (.d (.int a)) (.d (.int b)) M Q Ex = ((0 ≤ b ∧ b ≤ 1000000 ∧ a.natAbs < 2 ^ 64) ∧ Q (.d (.int (a ^ b.toNat))) M) := by simp [oPow, oInt]
@[simp] theorem oAddD_ii {a b : Int} : oAddD (.int a) (.int b) M Q = Q (.d (.int (a + b))) M :=
  propext ⟨fun ⟨z, n, e, _, q⟩ => by cases (show some (D.int (a + b), 0) = some (z, n) from e); exact q, fun q => ⟨_, _, rfl, Nat.zero_le _, q⟩⟩
@[simp] theorem oAddD_ss {a b : Str} : oAddD (.str a) (.str b) M Q = (a.length + b.length ≤ sizeLine ∧ Q (.d (.str (a ++ b))) M) :=
  propext ⟨fun ⟨z, n, e, h, q⟩ => by cases (show some (D.str (a ++ b), a.length + b.length) = some (z, n) from e); exact ⟨h, q⟩, fun q => ⟨_, _, rfl, q.1, q.2⟩⟩
@[simp] theorem oAddD_tt {a b : List D} : oAddD (.tup a) (.tup b) M Q = (a.length + b.length ≤ sizeLine ∧ Q (.d (.tup (a ++ b))) M) :=
  propext ⟨fun ⟨z, n, e, h, q⟩ => by cases (show some (D.tup (a ++ b), a.length + b.length) = some (z, n) from e); exact ⟨h, q⟩, fun q => ⟨_, _, rfl, q.1, q.2⟩⟩
@[simp] theorem oAdd_ll {m : Bool} {a b : List D} : oAdd m (.d (.lst a)) (.d (.lst b)) M Q Ex = (a.length + b.length ≤ sizeLine ∧ newL m ((a ++ b).map W.d) M Q) := by
  unfold oAdd oAddL
  simp [isL, listW, itemsD]
@[simp] theorem oLt_eq : oLt = oOrd (fun i j => decide (i < j)) fun a b => decide (a.cps.toList < b.cps.toList) := rfl
@[simp] theorem oLe_eq : oLe = oOrd (fun i j => decide (i ≤ j)) fun a b => !decide (b.cps.toList < a.cps.toList) := rfl
@[simp] theorem oGt_eq : oGt = oOrd (fun i j => decide (j < i)) fun a b => decide (b.cps.toList < a.cps.toList) := rfl
@[simp] theorem oGe_eq : oGe = oOrd (fun i j => decide (j ≤ i)) fun a b => !decide (a.cps.toList < b.cps.toList) := rfl
@[simp] theorem atI_lit {α : Type} {xs : List α} {n : Nat} : atI xs (no_index (OfNat.ofNat n : Int)) = xs[n]? := by
  show atI xs ((n : Nat) : Int) = _
  cases h : xs[n]? with
  | some v => exact atI_nat h
  | none =>
    have : xs.length ≤ n := List.getElem?_eq_none_iff.mp h
    unfold atI ixN
    simp
    omega
@[simp] theorem atI_cast {α : Type} {xs : List α} {n : Nat} : atI xs ((n : Nat) : Int) = xs[n]? := by
  cases h : xs[n]? with
  | some v => exact atI_nat h
  | none =>
    have : xs.length ≤ n := List.getElem?_eq_none_iff.mp h
    unfold atI ixN
    simp
    omega
@[simp] theorem put_sm {a : Addr} {c : Cl} : put M a c a = some c := put_same
@[simp] theorem put_put {a : Addr} {c d : Cl} : put (put M a c) a d = put M a d := by
  funext b
  by_cases h : b = a
  · subst h; rw [put_same, put_same]
  · rw [put_ne h, put_ne h, put_ne h]
theorem del_put {a : Addr} {c : Cl} (h : M a = none) : del (put M a c) a = M := by
  funext b
  by_cases e : b = a
  · subst e; rw [del_same, h]
  · rw [del_ne e, put_ne e]
@[simp] theorem fLen_s {x : W} : rLenF [x] M Q = onO (fLen M x) fun n => Q (.d (.int n)) M := by
  unfold rLenF onO; simp
@[simp] theorem fLen_x {x : W} : fLen M x = (match seqW M x with | some us => some (us.length : Int) | none => (strD x).map fun z => (z.length : Int)) := rfl
@[simp] theorem rList_x {m : Bool} {x : W} : rList m [x] M Q = onO (seqW M x) fun us => newL m us M Q := by
  unfold rList onO; simp
@[simp] theorem rTuple_x {x : W} : rTuple [x] M Q = onO (seqW M x) fun us => onO (unD us) fun ds => Q (.d (.tup ds)) M := by
  unfold rTuple onO; simp
@[simp] theorem rInt_x {i : Int} : rInt [.d (.int i)] M Q = Q (.d (.int i)) M := by unfold rInt; simp
@[simp] theorem rInt_b {b : Bool} : rInt [.d (.bool b)] M Q = Q (.d (.int (if b = true then 1 else 0))) M := by unfold rInt; simp
@[simp] theorem rStr_x {i : Str} : rStr [.d (.str i)] M Q = Q (.d (.str i)) M := by unfold rStr; simp
@[simp] theorem okS_x {s : Str} : okS (.d (.str s)) M := ⟨s, rfl⟩
@[simp] theorem okL_c {a : Addr} : okL (.c a) M = onO (itemsC (M a)) fun _ => True := propext ⟨fun ⟨us, e⟩ => ⟨us, e, trivial⟩, fun ⟨us, e, _⟩ => ⟨us, e⟩⟩
@[simp] theorem app_c {a : Addr} {w : W} : mAppend (.c a) [w] M Q = onO (itemsC (M a)) fun us => us.length < sizeLine ∧ Q (.d .none) (put M a (.lst (us ++ [w]))) := by
  apply propext
  constructor
  · rintro ⟨a', us, w', e1, e2, h, q⟩; cases e1; cases e2; exact ⟨us, by rw [h]; rfl, q⟩
  · rintro ⟨us, h, q⟩; exact ⟨_, us, _, rfl, rfl, itemsC_eq h, q⟩
@[simp] theorem ext_c {a : Addr} {w : W} : mExtend (.c a) [w] M Q = (isL w = true ∧ onO (itemsC (M a)) fun us => onO (listW M w) fun zs => us.length + zs.length ≤ sizeLine ∧ Q (.d .none) (put M a (.lst (us ++ zs)))) := by
  apply propext
  constructor
  · rintro ⟨a', us, w', zs, e1, e2, h0, h, h1, q⟩; cases e1; cases e2; exact ⟨h0, us, by rw [h]; rfl, zs, h1, q⟩
  · rintro ⟨h0, us, h, zs, h1, q⟩; exact ⟨_, us, _, zs, rfl, rfl, h0, itemsC_eq h, h1, q⟩
@[simp] theorem isL_l {xs : List D} : isL (.d (.lst xs)) = true := rfl
@[simp] theorem isL_c {a : Addr} : isL (.c a) = true := rfl
@[simp] theorem fIn_s {s : Str} {y : W} : fIn M (.d (.str s)) y = (match seqS M y with | some ss => some (decide (s ∈ ss)) | none => (strD y).bind fun z => (chr1 s).map fun c => decide (c ∈ z.cps.toList)) := rfl
@[simp] theorem seqS_l {ss : List Str} : seqS M (.d (.lst (ss.map D.str))) = some ss := by
  show ((some ((ss.map D.str).map W.d)).bind strsL) = _
  rw [Option.bind_some, List.map_map]
  exact strsL_map ss
@[simp] theorem seqS_t {ss : List Str} : seqS M (.d (.tup (ss.map D.str))) = some ss := by
  show ((some ((ss.map D.str).map W.d)).bind strsL) = _
  rw [Option.bind_some, List.map_map]
  exact strsL_map ss
theorem seqS_eq {y : W} : seqS M y = (seqW M y).bind strsL := rfl
@[simp] theorem seqS_x {s : Str} : seqS M (.d (.str s)) = none := rfl
@[simp] theorem oSlF_l {m : Bool} {xs : List D} {lo hi : Option Int} : oSlF m (.d (.lst xs)) lo hi M Q = newL m ((cutW xs lo hi).map W.d) M Q := by
  show newL m (cutW (xs.map W.d) lo hi) M Q = _
  rw [cutW_map]
@[simp] theorem oSlF_t {m : Bool} {xs : List D} {lo hi : Option Int} : oSlF m (.d (.tup xs)) lo hi M Q = Q (.d (.tup (cutW xs lo hi))) M := rfl
@[simp] theorem oSlF_s {m : Bool} {z : Str} {lo hi : Option Int} : oSlF m (.d (.str z)) lo hi M Q = Q (.d (.str (cutS z lo hi))) M := rfl

end
end Z
set_option maxHeartbeats 8000000
/-! S2: the stream of drawn numbers -/
namespace Z
open PySem PySem.Spec PyProof.Rows L2
theorem cn_inj : ∀ {a b : List Char}, a.map Char.toNat = b.map Char.toNat → a = b
  | [], [], _ => rfl
  | [], _ :: _, h => nomatch h
  | _ :: _, [], h => nomatch h
  | x :: r, y :: q, h => by
    rw [List.map_cons, List.map_cons, List.cons.injEq] at h
    rw [cn_inj h.2, Char.toNat_inj.mp h.1]
@[simp] theorem ofString_inj {a b : String} : (Str.ofString a = Str.ofString b) = (a = b) := by
  apply propext
  constructor
  · intro h
    rw [Str.ofString_eq_toList, Str.ofString_eq_toList, Str.mk.injEq] at h
    have h2 := congrArg Array.toList h
    exact String.toList_injective (cn_inj h2)
  · intro h; rw [h]
def startN (n : Nat) (ws : List W) : St2 := ws.map some ++ List.replicate (n - ws.length) none
theorem start_eq (N : List Str) (ws : List W) : start2 N ws = startN N.length ws := rfl
@[simp] theorem startN_eq (n : Nat) (ws : List W) : startN n ws = ws.map some ++ List.replicate (n - ws.length) none := rfl
/-- a def's body keeps its promise -/
def Ok (Γ : Env2) (n : Nat) (b : Ss) (sp : Sp2) : Prop := ∀ ws M Q E, sp ws M Q E → wSs Γ b (endOf Q E) (startN n ws) M
def OkD (Γ : Env2) (n : Nat) (b : Ss) (sp : Sp2) : Prop := ∀ ws M Q E, sp ws M Q E → wSs Γ b (endOf (Dr Q) (Dr E)) (startN n ws) M
/-- the stream stands on; a new cell is left -/
theorem drop_put {M : Mp} {p : Addr} {c : Cl} (h : M p = none) : ∀ a x, M a = some x → put M p c a = some x := fun a x e => by
  by_cases hp : a = p
  · subst hp; rw [h] at e; cases e
  · rw [put_ne hp]; exact e
def iW (ns : List Int) : List W := ns.map fun n => W.d (.int n)
structure Sm where
  ns : List Int
  cur : Int
  cnt : Nat
  mix : Int
def setS (st sc : Addr) (s : Sm) (M : Mp) : Mp := put (put M sc (.lst (iW s.ns))) st (.lst [.c sc, .d (.int s.cur), .d (.int (s.cnt : Int)), .d (.int s.mix)])
/-- c draws are left -/
structure SOk (c : Nat) (s : Sm) : Prop where
  h1 : 0 ≤ s.cur
  h2 : 0 ≤ s.mix
  h3 : s.mix < 2147483647
  h4 : s.cnt + c ≤ 16777216
theorem SOk.le {c d : Nat} {s : Sm} (h : SOk c s) (e : d ≤ c) : SOk d s := ⟨h.h1, h.h2, h.h3, by have := h.h4; omega⟩
section
variable {st sc p : Addr} {s s' : Sm} {M : Mp} {c : Cl}
theorem setS_st : setS st sc s M st = some (.lst [.c sc, .d (.int s.cur), .d (.int (s.cnt : Int)), .d (.int s.mix)]) := put_same
theorem setS_sc (ne : st ≠ sc) : setS st sc s M sc = some (.lst (iW s.ns)) := by unfold setS; rw [put_ne ne.symm, put_same]
theorem setS_ne (h1 : p ≠ st) (h2 : p ≠ sc) : setS st sc s M p = M p := by unfold setS; rw [put_ne h1, put_ne h2]
theorem put_comm {a b : Addr} {c d : Cl} (h : a ≠ b) : put (put M a c) b d = put (put M b d) a c := by
  funext x
  by_cases e : x = b
  · subst e; rw [put_same, put_ne h.symm, put_same]
  · by_cases e2 : x = a
    · subst e2; rw [put_ne e, put_same, put_same]
    · rw [put_ne e, put_ne e2, put_ne e2, put_ne e]
theorem setS_setS (ne : st ≠ sc) : setS st sc s' (setS st sc s M) = setS st sc s' M := by
  unfold setS
  rw [put_comm ne, put_put, put_put]
theorem put_setS (h1 : p ≠ st) (h2 : p ≠ sc) : put (setS st sc s M) p c = setS st sc s (put M p c) := by
  unfold setS
  rw [put_comm h1.symm, put_comm h2.symm]
theorem put_st {cur mix : Int} {cnt : Nat} : put (setS st sc s M) st (.lst [.c sc, .d (.int cur), .d (.int (cnt : Int)), .d (.int mix)]) = setS st sc ⟨s.ns, cur, cnt, mix⟩ M := by
  unfold setS
  rw [put_put]
theorem put_sc (ne : st ≠ sc) {ns : List Int} : put (setS st sc s M) sc (.lst (iW ns)) = setS st sc ⟨ns, s.cur, s.cnt, s.mix⟩ M := by
  unfold setS
  rw [put_comm ne, put_put]
theorem del_setS (h1 : p ≠ st) (h2 : p ≠ sc) : del (setS st sc s M) p = setS st sc s (del M p) := by
  funext x
  by_cases e : x = p
  · subst e; rw [del_same, setS_ne h1 h2, del_same]
  · rw [del_ne e]
    by_cases e1 : x = st
    · subst e1; rw [setS_st, setS_st]
    · by_cases e2 : x = sc
      · subst e2; rw [setS_sc (Ne.symm e1), setS_sc (Ne.symm e1)]
      · rw [setS_ne e1 e2, setS_ne e1 e2, del_ne e]
theorem setS_none : (setS st sc s M p = none) ↔ (p ≠ st ∧ p ≠ sc ∧ M p = none) := by
  constructor
  · intro h
    have h1 : p ≠ st := fun e => by subst e; rw [setS_st] at h; cases h
    have h2 : p ≠ sc := fun e => by subst e; rw [setS_sc (Ne.symm h1)] at h; cases h
    exact ⟨h1, h2, by rw [setS_ne h1 h2] at h; exact h⟩
  · intro ⟨h1, h2, h3⟩
    rw [setS_ne h1 h2]; exact h3
end
def spDraw : Sp2 := fun ws M Q _ => ∃ (st sc : Addr) (s : Sm) (M0 : Mp) (c : Nat) (n : Int), ws = [.c st, .d (.int n)] ∧ M = setS st sc s M0 ∧ st ≠ sc ∧ SOk c s ∧ 1 ≤ c ∧ 0 < n ∧ n < 2 ^ 100 ∧ ∀ (r : Int) s', 0 ≤ r → r < n → SOk (c - 1) s' → Q (.d (.int r)) (setS st sc s' M0)
theorem lg {n k : Nat} (h : n < 2 ^ k) (hk : 0 < k) : n.log2 < k := by
  by_cases h0 : n = 0
  · subst h0; simpa using hk
  · exact (Nat.log2_lt h0).mpr h
theorem toPyL_ints : ∀ ns : List Int, toPyL (ns.map D.int) = some (ns.map PyData.int)
  | [] => rfl
  | n :: r => by
    show (toPy (.int n)).bind (fun p => (toPyL (r.map D.int)).map (p :: ·)) = _
    rw [toPyL_ints r]; rfl
theorem unD_ints (ns : List Int) : unD (iW ns) = some (ns.map D.int) := by
  unfold iW
  rw [show (ns.map fun n => W.d (.int n)) = (ns.map D.int).map W.d by rw [List.map_map]; rfl]
  exact unD_map _
theorem canInts : ∀ ns : List Int, PyData.canLayAll0 (ns.map PyData.int) = true
  | [] => by simp [PyData.canLayAll0]
  | n :: r => by simp [PyData.canLayAll0, PyData.canLay0, canInts r]
theorem deepAll : ∀ ns : List Int, PyData.depthAll (ns.map PyData.int) ≤ 1
  | [] => by simp [PyData.depthAll]
  | n :: r => by
    have := deepAll r
    simp [PyData.depthAll, PyData.depth]
    omega
theorem deepInts (ns : List Int) : PyData.depth (.list (ns.map PyData.int)) ≤ 2 := by
  have := deepAll ns
  simp only [PyData.depth]
  omega
theorem shapedInts (ns : List Int) : SeqAt.shaped (.list (ns.map PyData.int)) = true := by
  unfold SeqAt.shaped
  have h := deepInts ns
  rw [show PyData.canLay0 (.list (ns.map PyData.int)) = true by simp [PyData.canLay0, canInts], Bool.true_and, decide_eq_true_eq]
  omega
theorem toPyC {M : Mp} {a : Addr} {ns : List Int} (h : M a = some (.lst (iW ns))) : toPyW M (.c a) = some (.list (ns.map PyData.int)) := by
  show (dataL M (.c a)).bind (fun xs => (toPyL xs).map PyData.list) = _ 
  unfold dataL
  rw [show listW M (.c a) = some (iW ns) from by show itemsC (M a) = _; rw [h]; rfl, Option.bind_some, unD_ints, Option.bind_some, toPyL_ints]
  rfl
/-! ### the stream -/
def b_Ldraw_0 : Ss := .cons (.asg (.sub (.var 0) (.cst (.int 1))) (.cst (.int 0))) .nil
def b_Ldraw_1 : Ss := .cons (.asg (.sub (.var 0) (.cst (.int 3))) (.bin .mod (.blt .int (.cons (.bin (.add false) (.bin (.add false) (.bin .mul (.ix (.var 0) (.cst (.int 3))) (.cst (.int 31))) (.ix (.var 0) (.cst (.int 1)))) (.cst (.int 7))) .nil)) (.cst (.int 2147483647)))) b_Ldraw_0
def b_Ldraw_2 : Ss := .cons (.iff (.cmp .lt (.ix (.var 0) (.cst (.int 1))) (.bin .pow (.cst (.int 10)) (.cst (.int 18)))) b_Ldraw_1 .nil) .nil
def b_Ldraw_3 : Ss := .cons (.asg (.sub (.var 0) (.cst (.int 1))) (.bm .popAt (.ix (.var 0) (.cst (.int 0))) (.cons (.cst (.int 0)) .nil))) b_Ldraw_2
def b_Ldraw_4 : Ss := .cons (.ret (.var 3)) .nil
def b_Ldraw_5 : Ss := .cons (.asg (.sub (.var 0) (.cst (.int 1))) (.bin .fdiv (.ix (.var 0) (.cst (.int 1))) (.var 1))) b_Ldraw_4
def b_Ldraw_6 : Ss := .cons (.asg (.name 3) (.bin .mod (.blt .int (.cons (.ix (.var 0) (.cst (.int 1))) .nil)) (.var 1))) b_Ldraw_5
def b_Ldraw_7 : Ss := .cons (.ret (.bin .mod (.bin .mod (.bin .pow (.bin (.add false) (.bin (.add false) (.bin .mul (.var 2) (.cst (.int 48271))) (.bin .mul (.bin .mul (.cst (.int 40503)) (.ix (.var 0) (.cst (.int 2)))) (.ix (.var 0) (.cst (.int 2))))) (.cst (.int 13))) (.cst (.int 3))) (.cst (.int 1000000007))) (.var 1))) .nil
def b_Ldraw_8 : Ss := .cons (.asg (.name 2) (.bin .mod (.bin .pow (.bin (.add false) (.bin (.add false) (.ix (.var 0) (.cst (.int 3))) (.bin .mul (.cst (.int 104729)) (.ix (.var 0) (.cst (.int 2))))) (.cst (.int 17))) (.cst (.int 5))) (.cst (.int 2147483629)))) b_Ldraw_7
def b_Ldraw_9 : Ss := .cons (.iff (.cmp .gt (.ix (.var 0) (.cst (.int 1))) (.cst (.int 0))) b_Ldraw_6 .nil) b_Ldraw_8
def b_Ldraw_10 : Ss := .cons (.iff (.and (.cmp .eq (.ix (.var 0) (.cst (.int 1))) (.cst (.int 0))) (.cons (.cmp .ne (.ix (.var 0) (.cst (.int 0))) (.lst false .nil)) .nil)) b_Ldraw_3 .nil) b_Ldraw_9
def b_Ldraw_11 : Ss := .cons (.asg (.sub (.var 0) (.cst (.int 2))) (.bin (.add false) (.ix (.var 0) (.cst (.int 2))) (.cst (.int 1)))) b_Ldraw_10
def b_Ldraw : Ss := b_Ldraw_11
def g_Ldraw : Env2 := ⟨[], [], noO⟩

section
variable {M : Mp} {Q : VK2} {E : XK2}
@[simp] theorem oSet_c {a : Addr} {i : Int} {w : W} {Q : Mp → Prop} : oSet (.c a) (.d (.int i)) w M Q = onO (itemsC (M a)) fun us => onO (ixN us.length i) fun j => Q (put M a (.lst (us.set j w))) := by
  apply propext
  constructor
  · rintro ⟨a', us, i', j, e1, e2, h1, h2, q⟩
    cases e1; cases e2
    exact ⟨us, by rw [h1]; rfl, j, h2, q⟩
  · rintro ⟨us, h1, j, h2, q⟩
    exact ⟨_, us, _, j, rfl, rfl, itemsC_eq h1, h2, q⟩
@[simp] theorem ixN_lit {l n : Nat} : ixN l (no_index (OfNat.ofNat n : Int)) = if n < l then some n else none := by
  show ixN l ((n : Nat) : Int) = _
  unfold ixN
  simp
@[simp] theorem ixN_cast {l n : Nat} : ixN l ((n : Nat) : Int) = if n < l then some n else none := by
  unfold ixN
  simp
@[simp] theorem pop_c {a : Addr} {i : Int} : mPopAt (.c a) [.d (.int i)] M Q = (-(2 ^ 63) ≤ i ∧ i < 2 ^ 63 ∧ onO (itemsC (M a)) fun us => onO (seqIndex? i us.length) fun j => onO (us[j]?) fun w => Q w (put M a (.lst (us.eraseIdx j)))) := by
  apply propext
  constructor
  · rintro ⟨a', us, i', j, w, e1, e2, h1, h2, h3, h4, h5, q⟩
    cases e1; cases e2
    exact ⟨h2, h3, us, by rw [h1]; rfl, j, h4, w, h5, q⟩
  · rintro ⟨h2, h3, us, h1, j, h4, w, h5, q⟩
    exact ⟨_, us, _, j, w, rfl, rfl, itemsC_eq h1, h2, h3, h4, h5, q⟩
theorem fEq_nil {a : Addr} {ns : List Int} (h : M a = some (.lst (iW ns))) : fEq M (.c a) (.d (.lst [])) = some (decide (ns = [])) := by
  show (toPyW M (.c a)).bind (fun p => (toPyW M (.d (.lst []))).bind fun q => if (SeqAt.shaped p && SeqAt.shaped q) = true then some (PyData.eqv p q) else none) = _
  rw [toPyC h]
  show (if (SeqAt.shaped (.list (ns.map PyData.int)) && SeqAt.shaped (.list [])) = true then some (PyData.eqv (.list (ns.map PyData.int)) (.list [])) else none) = _
  rw [shapedInts ns]
  cases ns with
  | nil => rfl
  | cons a r => rfl
theorem pow5 : (5 : Int).toNat = 5 := rfl
theorem draw_tail {st sc : Addr} {s : Sm} {c : Nat} {n : Int} {M0 : Mp} {a3 a4 : Option W} (ne : st ≠ sc) (hs : SOk (c - 1) s) (hn : 0 < n) (hb : n < 2 ^ 100)
    (q : ∀ (r : Int) s', 0 ≤ r → r < n → SOk (c - 1) s' → Q (.d (.int r)) (setS st sc s' M0)) :
    wSs g_Ldraw b_Ldraw_9 (endOf Q E) [some (.c st), some (.d (.int n)), a3, a4] (setS st sc s M0) := by
  have lgn : n.natAbs.log2 < 9000 := by
    have := lg (n := n.natAbs) (k := 100) (by omega) (by decide)
    omega
  have hne : n ≠ 0 := by omega
  simp [b_Ldraw_9, setS_st]
  split
  · rename_i hc
    simp [b_Ldraw_6, b_Ldraw_5, b_Ldraw_4, setS_st, hn, lgn, put_st]
    exact q _ _ (Int.emod_nonneg _ hne) (Int.emod_lt_of_pos _ hn) ⟨Int.ediv_nonneg hs.h1 (by omega), hs.h2, hs.h3, hs.h4⟩
  · obtain ⟨ns, cur, cnt, mix⟩ := s
    obtain ⟨h1, h2, h3, h4⟩ := hs
    simp only at h1 h2 h3 h4
    have hb : (mix + 104729 * (cnt : Int) + 17).natAbs < 2 ^ 64 := by omega
    have b2 := Int.emod_nonneg ((mix + 104729 * (cnt : Int) + 17) ^ 5) (show (2147483629 : Int) ≠ 0 by decide)
    have b3 := Int.emod_lt_of_pos ((mix + 104729 * (cnt : Int) + 17) ^ 5) (show (0 : Int) < 2147483629 by decide)
    have m1 : oMul0 104729 (cnt : Int) := by
      have z1 : (104729 : Int).natAbs.log2 < 20 := by decide
      have z2 : (cnt : Int).natAbs.log2 < 30 := lg (by omega) (by decide)
      unfold oMul0; omega
    have hc : (cnt : Int) * (cnt : Int) ≤ 16777216 * 16777216 := by
      have : (cnt : Int) ≤ 16777216 := by omega
      exact Int.mul_le_mul this this (by omega) (by decide)
    have hc0 : (0 : Int) ≤ (cnt : Int) * (cnt : Int) := Int.mul_nonneg (by omega) (by omega)
    have e40 : (40503 * (cnt : Int)) * (cnt : Int) = 40503 * ((cnt : Int) * (cnt : Int)) := Int.mul_assoc _ _ _
    have m2 : oMul0 40503 (cnt : Int) := by
      have z1 : (40503 : Int).natAbs.log2 < 20 := by decide
      have z2 : (cnt : Int).natAbs.log2 < 30 := lg (by omega) (by decide)
      unfold oMul0; omega
    have m3 : oMul0 (40503 * (cnt : Int)) (cnt : Int) := by
      have z1 : (40503 * (cnt : Int)).natAbs.log2 < 50 := lg (by omega) (by decide)
      have z2 : (cnt : Int).natAbs.log2 < 30 := lg (by omega) (by decide)
      unfold oMul0; omega
    simp [b_Ldraw_8, b_Ldraw_7, setS_st, m1, m2, m3, hn, hb, pow5]
    generalize (mix + 104729 * (cnt : Int) + 17) ^ 5 % 2147483629 = y at b2 b3 ⊢
    have hb2 : (y * 48271 + 40503 * (cnt : Int) * (cnt : Int) + 13).natAbs < 2 ^ 64 := by
      rw [e40]
      generalize (cnt : Int) * (cnt : Int) = z at hc hc0 ⊢
      omega
    have m4 : oMul0 y 48271 := by
      have z1 : (48271 : Int).natAbs.log2 < 20 := by decide
      have z2 : y.natAbs.log2 < 40 := lg (by omega) (by decide)
      unfold oMul0; omega
    refine ⟨m4, hb2, ?_⟩
    exact q _ _ (Int.emod_nonneg _ hne) (Int.emod_lt_of_pos _ hn) ⟨h1, h2, h3, h4⟩
theorem draw_ok : Ok g_Ldraw 4 b_Ldraw spDraw := by
  rintro ws M Q E ⟨st, sc, s, M0, c, n, rfl, rfl, ne, hs, hc, hn, hb, q⟩
  simp [b_Ldraw, b_Ldraw_11, setS_st]
  have e : put (setS st sc s M0) st (.lst [.c sc, .d (.int s.cur), .d (.int ((s.cnt : Int) + 1)), .d (.int s.mix)]) = setS st sc ⟨s.ns, s.cur, s.cnt + 1, s.mix⟩ M0 := by
    rw [show (s.cnt : Int) + 1 = ((s.cnt + 1 : Nat) : Int) from rfl]; exact put_st
  rw [e]
  have hs1 : SOk (c - 1) ⟨s.ns, s.cur, s.cnt + 1, s.mix⟩ := ⟨hs.h1, hs.h2, hs.h3, by have := hs.h4; simp only; omega⟩
  clear e
  generalize (⟨s.ns, s.cur, s.cnt + 1, s.mix⟩ : Sm) = s1 at hs1 ⊢
  clear hs
  simp [b_Ldraw_10, setS_st, fEq_nil (setS_sc ne)]
  have tail := fun (s' : Sm) (h : SOk (c - 1) s') => draw_tail (Q := Q) (E := E) (a3 := none) (a4 := none) ne h hn hb q
  split
  · rename_i hcur
    split
    · exact tail _ hs1
    · rename_i hns
      obtain ⟨ns, cur, cnt, mix⟩ := s1
      cases ns with
      | nil => exact absurd rfl hns
      | cons x ns =>
        obtain ⟨h1, h2, h3, h4⟩ := hs1
        simp only at h1 h2 h3 h4
        have e2 : ∀ s2 : Sm, put (setS st sc s2 M0) sc (.lst (iW (x :: ns)).tail) = setS st sc ⟨ns, s2.cur, s2.cnt, s2.mix⟩ M0 := fun s2 => put_sc ne
        have m1 : oMul0 mix 31 := by
          have z1 : (31 : Int).natAbs.log2 < 20 := by decide
          have z2 : mix.natAbs.log2 < 40 := lg (by omega) (by decide)
          unfold oMul0; omega
        have si : seqIndex? 0 (iW (x :: ns)).length = some 0 := by simp [seqIndex?, iW]
        have gi : (iW (x :: ns))[0]? = some (.d (.int x)) := rfl
        simp [b_Ldraw_3, b_Ldraw_2, setS_st, setS_sc ne, si, gi, e2, put_st]
        split
        · simp [b_Ldraw_1, b_Ldraw_0, setS_st, m1, put_st]
          exact tail _ ⟨Int.le_refl 0, Int.emod_nonneg _ (by decide), Int.emod_lt_of_pos _ (by decide), h4⟩
        · rename_i hx
          exact tail _ ⟨by simp at hx ⊢; omega, h2, h3, h4⟩
  · exact tail _ hs1
end
end Z
set_option maxHeartbeats 8000000
/-! S3: the laws' helpers over the stream -/
namespace Z
open PySem PySem.Spec PyProof.Rows L2
def b_Lpick_0 : Ss := .cons (.ret (.ix (.var 1) (.call 0 (.cons (.var 0) (.cons (.blt .len (.cons (.var 1) .nil)) .nil))))) .nil
def b_Lpick : Ss := b_Lpick_0
def b_Lmixed_0 : Ss := .cons (.ret (.lc false (.rng1 (.blt .len (.cons (.var 2) .nil))) 3 .nil (.bm .popAt (.var 2) (.cons (.call 0 (.cons (.var 0) (.cons (.blt .len (.cons (.var 2) .nil)) .nil))) .nil)))) .nil
def b_Lmixed_1 : Ss := .cons (.asg (.name 2) (.blt (.list true) (.cons (.var 1) .nil))) b_Lmixed_0
def b_Lmixed : Ss := b_Lmixed_1
def b_Lsome_0 : Ss := .cons (.ret (.lc false (.seq (.var 1)) 3 (.cons (.cmp .eq (.call 0 (.cons (.var 0) (.cons (.var 2) .nil))) (.cst (.int 0))) .nil) (.var 3))) .nil
def b_Lsome : Ss := b_Lsome_0
def b_Lsame_0 : Ss := .cons (.ret (.cmp .eq (.blt .repr (.cons (.var 0) .nil)) (.blt .repr (.cons (.var 1) .nil)))) .nil
def b_Lsame : Ss := b_Lsame_0
def b_Lname_0 : Ss := .cons (.ret (.ix (.lc false (.seq (.lc false (.sgn (.cst (.str "abcdefghijklmnopqrst"))) 6 .nil (.bin (.add false) (.cst (.str "q")) (.var 6)))) 5 (.cons (.cmp .nin (.var 5) (.var 1)) .nil) (.var 5)) (.cst (.int 0)))) .nil
def b_Lname_1 : Ss := .cons (.ret (.var 3)) .nil
def b_Lname_2 : Ss := .cons (.iff (.or (.cmp .in_ (.var 3) (.var 1)) (.cons (.cmp .in_ (.var 3) (.lst false (.cons (.cst (.str "and")) (.cons (.cst (.str "or")) (.cons (.cst (.str "not")) (.cons (.cst (.str "always")) (.cons (.cst (.str "never")) .nil))))))) .nil)) b_Lname_0 .nil) b_Lname_1
def b_Lname_3 : Ss := .cons (.asg (.name 3) (.bm .join (.cst (.str "")) (.cons (.lc false (.rng1 (.var 2)) 4 .nil (.ix (.cst (.str "abcdefghijklmnopqrstuvwxyz")) (.call 0 (.cons (.var 0) (.cons (.cst (.int 26)) .nil))))) .nil))) b_Lname_2
def b_Lname_4 : Ss := .cons (.asg (.name 2) (.ix (.lst false (.cons (.cst (.int 1)) (.cons (.cst (.int 1)) (.cons (.cst (.int 2)) (.cons (.cst (.int 3)) (.cons (.cst (.int 5)) (.cons (.cst (.int 8)) .nil))))))) (.call 0 (.cons (.var 0) (.cons (.cst (.int 6)) .nil))))) b_Lname_3
def b_Lname : Ss := b_Lname_4
def b_Lnames_0 : Ss := .cons (.ex (.bm .append (.var 3) (.cons (.call 0 (.cons (.var 0) (.cons (.bin (.add false) (.var 2) (.var 3)) .nil))) .nil))) .nil
def b_Lnames_1 : Ss := .cons (.ret (.var 3)) .nil
def b_Lnames_2 : Ss := .frz 3 b_Lnames_1
def b_Lnames_3 : Ss := .cons (.for (.name 4) (.rng1 (.var 1)) b_Lnames_0) b_Lnames_2
def b_Lnames_4 : Ss := .cons (.asg (.name 3) (.lst true .nil)) b_Lnames_3
def b_Lnames : Ss := b_Lnames_4
section
variable {M : Mp} {Q : VK2} {E : XK2}
@[simp] theorem lcL_nil {m : Bool} {p : Addr} {ok : Mp → Prop} {g : TG2} {tt : TT2} {te : TE2} {σ : St2} : lcL m p ok g tt te σ Q [] M = (ok M ∧ lcEnd m p M Q) := rfl
@[simp] theorem lcL_cons {m : Bool} {p : Addr} {ok : Mp → Prop} {g : TG2} {tt : TT2} {te : TE2} {σ : St2} {w : W} {r : List W} : lcL m p ok g tt te σ Q (w :: r) M = (ok M ∧ g w σ M (fun σ1 M1 => tt σ1 M1 (fun b M2 => if b = true then te σ1 M2 (fun y M3 => onO (itemsC (M3 p)) fun acc => acc.length < sizeLine ∧ lcL m p ok g tt te σ Q r (put M3 p (.lst (acc ++ [y])))) (fun _ _ => False) else lcL m p ok g tt te σ Q r M2) (fun _ _ => False)) (fun _ _ => False)) := by
  have e : ∀ M3 y, (∃ acc, M3 p = some (.lst acc) ∧ acc.length < sizeLine ∧ lcL m p ok g tt te σ Q r (put M3 p (.lst (acc ++ [y])))) = onO (itemsC (M3 p)) fun acc => acc.length < sizeLine ∧ lcL m p ok g tt te σ Q r (put M3 p (.lst (acc ++ [y]))) := fun M3 y =>
    propext ⟨fun ⟨acc, h, q⟩ => ⟨acc, by rw [h]; rfl, q⟩, fun ⟨acc, h, q⟩ => ⟨acc, itemsC_eq h, q⟩⟩
  show (ok M ∧ g w σ M (fun σ1 M1 => tt σ1 M1 (fun b M2 => if b = true then te σ1 M2 (fun y M3 => ∃ acc, M3 p = some (.lst acc) ∧ acc.length < sizeLine ∧ lcL m p ok g tt te σ Q r (put M3 p (.lst (acc ++ [y])))) (fun _ _ => False) else lcL m p ok g tt te σ Q r M2) (fun _ _ => False)) (fun _ _ => False)) = _
  simp only [e]
@[simp] theorem lcEnd_t {p : Addr} : lcEnd true p M Q = onO (itemsC (M p)) fun _ => Q (.c p) M :=
  propext ⟨fun ⟨acc, h, q⟩ => ⟨acc, by rw [h]; rfl, q⟩, fun ⟨acc, h, q⟩ => ⟨acc, itemsC_eq h, q⟩⟩
@[simp] theorem lcEnd_f {p : Addr} : lcEnd false p M Q = onO (itemsC (M p)) fun acc => onO (unD acc) fun ds => Q (.d (.lst ds)) (del M p) :=
  propext ⟨fun ⟨acc, h, ds, e, q⟩ => ⟨acc, by rw [h]; rfl, ds, e, q⟩, fun ⟨acc, h, ds, e, q⟩ => ⟨acc, itemsC_eq h, ds, e, q⟩⟩
@[simp] theorem join_x {z : Str} {w : W} : mJoin (.d (.str z)) [w] M Q = onO (seqW M w) fun us => onO (strsL us) fun ss => (ss.map (·.length)).sum + ss.length * z.length ≤ 16777216 ∧ (Txt.join z ss).length ≤ sizeLine ∧ Q (.d (.str (Txt.join z ss))) M := by
  apply propext
  constructor
  · rintro ⟨z', w', us, ss, e1, e2, h1, h2, h3, h4, q⟩; cases e1; cases e2; exact ⟨us, h1, ss, h2, h3, h4, q⟩
  · rintro ⟨us, h1, ss, h2, h3, h4, q⟩; exact ⟨z, w, us, ss, rfl, rfl, h1, h2, h3, h4, q⟩
theorem oAdd_gen {m : Bool} {x y : W} (hx : isL x = true) (hy : isL y = true) : oAdd m x y M Q E = onO (listW M x) fun a => onO (listW M y) fun b => a.length + b.length ≤ sizeLine ∧ newL m (a ++ b) M Q := by
  apply propext
  unfold oAdd
  rw [if_pos hx]
  constructor
  · rintro ⟨_, a, b, h1, h2, h3⟩; exact ⟨a, h1, b, h2, h3⟩
  · rintro ⟨a, h1, b, h2, h3⟩; exact ⟨hy, a, b, h1, h2, h3⟩
@[simp] theorem oAdd_lc {m : Bool} {a : List D} {p : Addr} : oAdd m (.d (.lst a)) (.c p) M Q E = onO (itemsC (M p)) fun b => a.length + b.length ≤ sizeLine ∧ newL m (a.map W.d ++ b) M Q := by
  rw [oAdd_gen rfl rfl]; simp
@[simp] theorem oAdd_cl {m : Bool} {a : List D} {p : Addr} : oAdd m (.c p) (.d (.lst a)) M Q E = onO (itemsC (M p)) fun b => b.length + a.length ≤ sizeLine ∧ newL m (b ++ a.map W.d) M Q := by
  rw [oAdd_gen rfl rfl]; simp
@[simp] theorem seqS_tn : seqS M (.d (.tup [])) = some [] := rfl
@[simp] theorem seqS_ln : seqS M (.d (.lst [])) = some [] := rfl
@[simp] theorem seqS_tc {x : Str} {r : List D} : seqS M (.d (.tup (.str x :: r))) = (seqS M (.d (.tup r))).map (x :: ·) := rfl
@[simp] theorem seqS_lc {x : Str} {r : List D} : seqS M (.d (.lst (.str x :: r))) = (seqS M (.d (.lst r))).map (x :: ·) := rfl
def bools : List W → Option (List Bool)
  | [] => some []
  | .d (.bool b) :: r => (bools r).map (b :: ·)
  | _ => none
theorem bools_eq : ∀ {ws : List W} {bs : List Bool}, bools ws = some bs → ws = bW bs
  | [], bs, h => by cases h; rfl
  | .d (.bool b) :: r, bs, h => by
    cases e : bools r with
    | none => unfold bools at h; rw [e] at h; cases h
    | some l => unfold bools at h; rw [e] at h; cases h; rw [bools_eq e]; rfl
  | .d .none :: _, _, h => by cases h
  | .d (.str _) :: _, _, h => by cases h
  | .d (.int _) :: _, _, h => by cases h
  | .d (.lst _) :: _, _, h => by cases h
  | .d (.tup _) :: _, _, h => by cases h
  | .d (.dic _) :: _, _, h => by cases h
  | .d (.dit _) :: _, _, h => by cases h
  | .d (.obj _ _) :: _, _, h => by cases h
  | .d (.ref _) :: _, _, h => by cases h
  | .c _ :: _, _, h => by cases h
  | .r _ :: _, _, h => by cases h
theorem bools_bW : ∀ bs : List Bool, bools (bW bs) = some bs
  | [] => rfl
  | b :: r => by show (bools (bW r)).map (b :: ·) = _; rw [bools_bW r]; rfl
@[simp] theorem bools_nil : bools [] = some [] := rfl
@[simp] theorem bools_cons {b : Bool} {r : List W} : bools (.d (.bool b) :: r) = (bools r).map (b :: ·) := rfl
@[simp] theorem bools_map {α : Type} {xs : List α} {g : α → Bool} : bools ((xs.map fun x => D.bool (g x)).map W.d) = some (xs.map g) := by
  have : ((xs.map fun x => D.bool (g x)).map W.d) = bW (xs.map g) := by unfold bW; rw [List.map_map, List.map_map]; rfl
  rw [this, bools_bW]
@[simp] theorem bools_map2 {α : Type} {xs : List α} {g : α → Bool} : bools (xs.map (W.d ∘ fun x => D.bool (g x))) = some (xs.map g) := by
  rw [← List.map_map]; exact bools_map
@[simp] theorem all_x {x : W} : rAllB [x] M Q = onO (listW M x) fun us => onO (bools us) fun bs => Q (.d (.bool (bs.all id))) M := by
  apply propext
  constructor
  · rintro ⟨w, bs, e, h, q⟩; cases e; exact ⟨_, h, bs, bools_bW bs, q⟩
  · rintro ⟨us, h, bs, h2, q⟩; exact ⟨x, bs, rfl, by rw [h, bools_eq h2], q⟩
@[simp] theorem any_x {x : W} : rAnyB [x] M Q = onO (listW M x) fun us => onO (bools us) fun bs => Q (.d (.bool (bs.any id))) M := by
  apply propext
  constructor
  · rintro ⟨w, bs, e, h, q⟩; cases e; exact ⟨_, h, bs, bools_bW bs, q⟩
  · rintro ⟨us, h, bs, h2, q⟩; exact ⟨x, bs, rfl, by rw [h, bools_eq h2], q⟩
@[simp] theorem chr1_c {c : Nat} : chr1 ⟨#[c]⟩ = some c := rfl
@[simp] theorem wipe2_nil {σ : St2} : wipe2 σ [] = σ := rfl
@[simp] theorem wipe2_cons {σ : St2} {i : Nat} {r : List Nat} : wipe2 σ (i :: r) = (wipe2 σ r).set i none := rfl
theorem rng_cons (lo : Int) (n : Nat) : rngW lo (n + 1) = W.d (.int lo) :: rngW (lo + 1) n := by
  unfold rngW
  rw [List.range_succ_eq_map, List.map_cons, List.map_map]
  congr 1
  · simp
  · apply List.map_congr_left
    intro a _
    simp
    omega
@[simp] theorem rng_0 (lo : Int) : rngW lo 0 = [] := rfl
@[simp] theorem itemsC_l {us : List W} : itemsC (some (.lst us)) = some us := rfl
/-- the items of a list or a tuple, whatever is drawn -/
def SeqF (M0 : Mp) (st sc : Addr) (x : W) (ds : List D) : Prop := ∀ s, seqW (setS st sc s M0) x = some (ds.map W.d)
theorem seqF_l {M0 : Mp} {st sc : Addr} {ds : List D} : SeqF M0 st sc (.d (.lst ds)) ds := fun _ => rfl
theorem seqF_t {M0 : Mp} {st sc : Addr} {ds : List D} : SeqF M0 st sc (.d (.tup ds)) ds := fun _ => rfl
theorem atI_int {α : Type} {xs : List α} {r : Int} (h0 : 0 ≤ r) (h1 : r < xs.length) : ∃ x, x ∈ xs ∧ atI xs r = some x := by
  obtain ⟨n, rfl⟩ := Int.eq_ofNat_of_zero_le h0
  have : n < xs.length := by omega
  exact ⟨xs[n], List.getElem_mem this, by rw [atI_cast, List.getElem?_eq_getElem this]⟩
def spPick : Sp2 := fun ws M Q _ => ∃ (st sc : Addr) (s : Sm) (M0 : Mp) (c : Nat) (x : W) (ds : List D), ws = [.c st, x] ∧ M = setS st sc s M0 ∧ SeqF M0 st sc x ds ∧ ds ≠ [] ∧ ds.length ≤ 1000000 ∧ st ≠ sc ∧ SOk c s ∧ 1 ≤ c ∧ ∀ (d : D) s', d ∈ ds → SOk (c - 1) s' → Q (.d d) (setS st sc s' M0)

/-! ### what can be shown -/
def strK (s : Str) : Prop := PyData.strOk s = true
mutual
def rep : D → Prop
  | .none => True
  | .bool _ => True
  | .int i => i.natAbs < 10 ^ 40
  | .str s => strK s
  | .lst xs => repL xs
  | .tup xs => repL xs
  | _ => False
def repL : List D → Prop
  | [] => True
  | x :: r => rep x ∧ repL r
end
mutual
def wt : D → Nat
  | .str s => s.length
  | .int _ => 140
  | .lst xs => wtL xs
  | .tup xs => wtL xs
  | _ => 0
def wtL : List D → Nat
  | [] => 0
  | x :: r => wt x + 1 + wtL r
end
mutual
def dp : D → Nat
  | .lst xs => dpL xs + 1
  | .tup xs => dpL xs + 1
  | _ => 0
def dpL : List D → Nat
  | [] => 0
  | x :: r => max (dp x) (dpL r)
end

end
def resv : List Str := ["and", "or", "not", "always", "never"]
/-- a name -/
def Nm (s : Str) : Prop := 1 ≤ s.length ∧ s.length ≤ 8 ∧ ∀ c ∈ s.cps.toList, 97 ≤ c ∧ c ≤ 122
theorem joinE (cs : List Nat) : Txt.join ("" : Str) (cs.map fun c => (⟨#[c]⟩ : Str)) = ⟨cs.toArray⟩ := by
  have e := SX.join_S [] (cs.map fun c => [c])
  rw [List.map_map] at e
  have e2 : TL.joinL [] (cs.map fun c => [c]) = cs := by
    clear e
    induction cs with
    | nil => rfl
    | cons c r ih =>
      cases r with
      | nil => rfl
      | cons d r =>
        show [c] ++ ([] ++ TL.joinL [] ((d :: r).map fun c => [c])) = _
        rw [ih]; rfl
  rw [e2] at e
  exact e
theorem nodup_sub {α : Type} [BEq α] [LawfulBEq α] : ∀ (l ts : List α), l.Nodup → (∀ x ∈ l, x ∈ ts) → l.length ≤ ts.length
  | [], _, _, _ => Nat.zero_le _
  | x :: r, ts, nd, h => by
    obtain ⟨h1, h2⟩ := List.nodup_cons.mp nd
    have hx := h x List.mem_cons_self
    have ih := nodup_sub r (ts.erase x) h2 fun y hy => (List.mem_erase_of_ne (fun e => h1 (by rw [← e]; exact hy))).mpr (h y (List.mem_cons_of_mem _ hy))
    rw [List.length_erase_of_mem hx] at ih
    have := List.length_pos_of_mem hx
    rw [List.length_cons]
    omega
def q20 : List Str := (List.range 20).map fun i => ⟨#[113, 97 + i]⟩
theorem q20_nm : ∀ s ∈ q20, Nm s ∧ s ∉ resv := by
  have h : ∀ i ∈ List.range 20, (⟨#[113, 97 + i]⟩ : Str) ∉ resv := by decide
  intro s hs
  obtain ⟨i, hi, rfl⟩ := List.mem_map.mp hs
  refine ⟨⟨(show 1 ≤ 2 by decide), (show 2 ≤ 8 by decide), fun c hc => ?_⟩, h i hi⟩
  have hi := List.mem_range.mp hi
  have hc : c = 113 ∨ c = 97 + i := by simpa using hc
  omega
theorem q20_free {ts : List Str} (h : ts.length < 20) : q20.filter (fun s => !decide (s ∈ ts)) ≠ [] := fun e => by
  have nd : q20.Nodup := by decide
  have := nodup_sub q20 ts nd fun s hs => by
    refine Classical.byContradiction fun hn => ?_
    have : s ∈ q20.filter (fun s => !decide (s ∈ ts)) := List.mem_filter.mpr ⟨hs, by simp [hn]⟩
    rw [e] at this
    cases this
  have e20 : q20.length = 20 := by decide
  omega

mutual
theorem rep_py : ∀ d : D, rep d → ∃ p, toPy d = some p ∧ p.canLay0 = true ∧ p.showable = true ∧ p.leavesShort 42 = true ∧ p.weight ≤ wt d ∧ p.depth = dp d
  | .none, _ => ⟨.none, rfl, by simp [PyData.canLay0], by simp [PyData.showable], by simp [PyData.leavesShort], by simp [PyData.weight], by simp [PyData.depth, dp]⟩
  | .bool b, _ => ⟨.bool b, rfl, by simp [PyData.canLay0], by simp [PyData.showable], by simp [PyData.leavesShort], by simp [PyData.weight], by simp [PyData.depth, dp]⟩
  | .int i, h => by
    have hl : i.natAbs.log2 < 140 := lg (Nat.lt_trans (show i.natAbs < 10 ^ 40 from h) (by decide)) (by decide)
    refine ⟨.int i, rfl, by simp [PyData.canLay0], by simp [PyData.showable]; omega, ?_, ?_, by simp [PyData.depth, dp]⟩
    · simp only [PyData.leavesShort, decide_eq_true_eq, PyData.shown]
      have e := PySem.int_text_length_le10 (a := i) (k := 40) (by decide) h
      apply decide_eq_true
      show (Str.ofString (toString i)).length ≤ 42
      rw [PySem.ofString_length]; omega
    · simp only [PyData.weight, wt]
      split <;> omega
  | .str s, h => by
    have h0 : PyData.strOk s = true := h
    have h : s.cps.all (· < 0x110000) = true := h0
    refine ⟨.str s, rfl, by simpa only [PyData.canLay0] using h0, by simp [PyData.showable], ?_, by simp [PyData.weight, wt]; exact Nat.le_refl _, by simp [PyData.depth, dp]⟩
    simp only [PyData.leavesShort, List.all_eq_true, decide_eq_true_eq]
    intro c hc
    have := Array.all_eq_true_iff_forall_mem.mp h c (by simpa using hc)
    have : c < 0x110000 := by simpa using this
    omega
  | .lst xs, h => by
    obtain ⟨ps, h1, h2, h3, h4, h5, h6⟩ := repL_py xs h
    refine ⟨.list ps, by show (toPyL xs).map PyData.list = _; rw [h1]; rfl, by simpa [PyData.canLay0] using h2, by simpa [PyData.showable] using h3, by simpa [PyData.leavesShort] using h4, by simpa [PyData.weight, wt] using h5, by simp [PyData.depth, dp, h6]⟩
  | .tup xs, h => by
    obtain ⟨ps, h1, h2, h3, h4, h5, h6⟩ := repL_py xs h
    refine ⟨.tuple ps, by show (toPyL xs).map PyData.tuple = _; rw [h1]; rfl, by simpa [PyData.canLay0] using h2, by simpa [PyData.showable] using h3, by simpa [PyData.leavesShort] using h4, by simpa [PyData.weight, wt] using h5, by simp [PyData.depth, dp, h6]⟩
  | .dic _, h => h.elim
  | .dit _, h => h.elim
  | .obj _ _, h => h.elim
  | .ref _, h => h.elim
theorem repL_py : ∀ xs : List D, repL xs → ∃ ps, toPyL xs = some ps ∧ PyData.canLayAll0 ps = true ∧ PyData.showableAll ps = true ∧ PyData.leavesShortAll 42 ps = true ∧ PyData.weightAll ps ≤ wtL xs ∧ PyData.depthAll ps = dpL xs
  | [], _ => ⟨[], rfl, by simp [PyData.canLayAll0], by simp [PyData.showableAll], by simp [PyData.leavesShortAll], by simp [PyData.weightAll], by simp [PyData.depthAll, dpL]⟩
  | x :: r, h => by
    obtain ⟨p, a1, a2, a3, a4, a5, a6⟩ := rep_py x h.1
    obtain ⟨ps, h1, h2, h3, h4, h5, h6⟩ := repL_py r h.2
    refine ⟨p :: ps, by show (toPy x).bind (fun p => (toPyL r).map (p :: ·)) = _; rw [a1, Option.bind_some, h1]; rfl, by simp [PyData.canLayAll0, a2, h2], by simp [PyData.showableAll, a3, h3], by simp [PyData.leavesShortAll, a4, h4], by simp only [PyData.weightAll, wtL]; omega, by simp [PyData.depthAll, dpL, a6, h6]⟩
end
/-- data of which repr may be asked -/
def RepOk (d : D) : Prop := rep d ∧ wt d ≤ 300000 ∧ dp d ≤ 64
def reprD (d : D) : Str := match toPy d with
  | some p => PyData.shown p
  | none => ""
theorem RepOk.py {d : D} (h : RepOk d) : ∃ p, toPy d = some p ∧ SeqAt.shaped p = true ∧ p.showable = true ∧ p.depth ≤ 100 ∧ p.shown.length ≤ sizeLine ∧ reprD d = p.shown := by
  obtain ⟨h1, h2, h3⟩ := h
  obtain ⟨p, a1, a2, a3, a4, a5, a6⟩ := rep_py d h1
  refine ⟨p, a1, by unfold SeqAt.shaped; rw [a2, Bool.true_and, decide_eq_true_eq]; omega, a3, by omega, ?_, by unfold reprD; rw [a1]⟩
  have := PyData.shown_le 42 (by decide) p a4
  rw [sizeLine_eq]
  omega
def spSame : Sp2 := fun ws M Q _ => ∃ x y : D, ws = [.d x, .d y] ∧ RepOk x ∧ RepOk y ∧ Q (.d (.bool (decide (reprD x = reprD y)))) M
def g_Lpick : Env2 := ⟨[⟨"_law_draw", spDraw, []⟩], [], noO⟩

def g_Lsame : Env2 := ⟨[], [], noO⟩

theorem same_ok : Ok g_Lsame 2 b_Lsame spSame := by
  rintro ws M Q E ⟨x, y, rfl, hx, hy, q⟩
  obtain ⟨p, a1, a2, a3, a4, a5, a6⟩ := hx.py
  obtain ⟨p', b1, b2, b3, b4, b5, b6⟩ := hy.py
  simp [b_Lsame, b_Lsame_0]
  refine ⟨_, p, rfl, a1, a3, a4, a5, ?_⟩
  refine ⟨_, p', rfl, b1, b3, b4, b5, ?_⟩
  simp
  rw [← a6, ← b6]
  exact q
theorem pick_ok : Ok g_Lpick 2 b_Lpick spPick := by
  rintro ws M Q E ⟨st, sc, s, M0, c, x, ds, rfl, rfl, hx, hne, hl, ne, hs, hc, q⟩
  have hpos : 0 < ds.length := List.length_pos_iff.mpr hne
  simp [b_Lpick, b_Lpick_0, g_Lpick, hx s]
  refine ⟨st, sc, s, M0, c, (ds.length : Int), by simp, rfl, ne, hs, hc, by omega, by omega, fun r s' h0 h1 hs' => ?_⟩
  simp [hx s']
  obtain ⟨d, hd, e⟩ := atI_int (xs := ds) h0 h1
  have e2 : atI (ds.map W.d) r = some (.d d) := by
    obtain ⟨n, rfl⟩ := Int.eq_ofNat_of_zero_le h0
    rw [atI_cast] at e ⊢
    rw [List.getElem?_map, e]; rfl
  simp [e2]
  exact q d s' hd hs'
end Z
set_option maxHeartbeats 8000000
/-! S4: the laws' helpers over the stream, further -/
namespace Z
open PySem PySem.Spec PyProof.Rows L2
/-! ### loops -/
theorem lc_run {m : Bool} {p : Addr} {ok : Mp → Prop} {g : TG2} {tt : TT2} {te : TE2} {σ : St2} {Q : VK2} (Inv : List W → Mp → Prop)
    (step : ∀ (w : W) (r : List W) (M : Mp) (K : Mp → Prop), Inv (w :: r) M → (∀ M', Inv r M' → K M') → ok M ∧ g w σ M (fun σ1 M1 => tt σ1 M1 (fun b M2 => if b = true then te σ1 M2 (fun y M3 => onO (itemsC (M3 p)) fun acc => acc.length < sizeLine ∧ K (put M3 p (.lst (acc ++ [y])))) (fun _ _ => False) else K M2) (fun _ _ => False)) (fun _ _ => False))
    (fin : ∀ M, Inv [] M → ok M ∧ lcEnd m p M Q) : ∀ (items : List W) (M : Mp), Inv items M → lcL m p ok g tt te σ Q items M
  | [], M, h => fin M h
  | w :: r, M, h => by
    rw [lcL_cons]
    exact step w r M _ h fun M' h' => lc_run Inv step fin r M' h'
theorem for_run {ok : Mp → Prop} {g : TG2} {tb : TS2} {De : Ends2} (Inv : List W → St2 → Mp → Prop)
    (step : ∀ (w : W) (r : List W) (σ : St2) (M : Mp) (K : St2 → Mp → Prop), Inv (w :: r) σ M → (∀ σ' M', Inv r σ' M' → K σ' M') → ok M ∧ g w σ M (fun σ1 M1 => tb { De with nx := K, ct := K, bk := De.nx } σ1 M1) fun x M1 => De.ex x σ M1)
    (fin : ∀ σ M, Inv [] σ M → ok M ∧ De.nx σ M) : ∀ (items : List W) (σ : St2) (M : Mp), Inv items σ M → forL ok g tb De items σ M
  | [], σ, M, h => fin σ M h
  | w :: r, σ, M, h => step w r σ M _ h fun σ' M' h' => for_run Inv step fin r σ' M' h'
theorem whl_run {c : TT2} {tb : TS2} {De : Ends2} (Inv : Nat → St2 → Mp → Prop)
    (step : ∀ (n : Nat) (σ : St2) (M : Mp) (K : St2 → Mp → Prop), Inv n σ M → (∀ m σ' M', m < n → Inv m σ' M' → K σ' M') → c σ M (fun b M1 => if b = true then tb { De with nx := K, ct := K, bk := De.nx } σ M1 else De.nx σ M1) fun x M1 => De.ex x σ M1) :
    ∀ (f n : Nat) (σ : St2) (M : Mp), n < f → Inv n σ M → whl c tb De f σ M
  | 0, n, _, _, h, _ => absurd h (Nat.not_lt_zero n)
  | f + 1, n, σ, M, h, i => step n σ M _ i fun m σ' M' hm i' => whl_run Inv step f m σ' M' (by omega) i'
theorem while_run {c : TT2} {tb : TS2} {De : Ends2} (Inv : Nat → St2 → Mp → Prop)
    (step : ∀ (n : Nat) (σ : St2) (M : Mp) (K : St2 → Mp → Prop), Inv n σ M → (∀ m σ' M', m < n → Inv m σ' M' → K σ' M') → c σ M (fun b M1 => if b = true then tb { De with nx := K, ct := K, bk := De.nx } σ M1 else De.nx σ M1) fun x M1 => De.ex x σ M1)
    (n : Nat) (σ : St2) (M : Mp) (h : Inv n σ M) : wWhile c tb De σ M := ⟨n + 1, whl_run Inv step (n + 1) n σ M (Nat.lt_succ_self n) h⟩
/-- a comprehension that changes nothing else -/
theorem lc_pure {α : Type} {p : Addr} {ok : Mp → Prop} {i : Nat} {tt : TT2} {te : TE2} {σ : St2} {Q : VK2} {M0 : Mp} (P : α → Prop) (wf : α → W) (f : α → D) (t : α → Bool) (hp : M0 p = none) (hok : ∀ acc, ok (put M0 p (.lst acc)))
    (ht : ∀ x, P x → ∀ acc K, K (t x) (put M0 p (.lst acc)) → tt (σ.set i (some (wf x))) (put M0 p (.lst acc)) K (fun _ _ => False))
    (he : ∀ x, P x → t x = true → ∀ acc K, K (.d (f x)) (put M0 p (.lst acc)) → te (σ.set i (some (wf x))) (put M0 p (.lst acc)) K (fun _ _ => False)) :
    ∀ (xs : List α) (acc : List D), (∀ x ∈ xs, P x) → acc.length + xs.length ≤ 100000 → Q (.d (.lst (acc ++ (xs.filter t).map f))) M0 → lcL false p ok (wgName i) tt te σ Q (xs.map wf) (put M0 p (.lst (acc.map W.d)))
  | [], acc, _, _, q => by
    simp [hok, del_put hp]
    simpa using q
  | x :: r, acc, hP, hl, q => by
    rw [List.length_cons] at hl
    have hr := fun acc' h1 h2 => lc_pure (Q := Q) P wf f t hp hok ht he r acc' (fun y hy => hP y (List.mem_cons_of_mem _ hy)) h1 h2
    rw [List.map_cons, lcL_cons]
    refine ⟨hok _, ?_⟩
    rw [ap_wgName]
    refine ht x (hP x List.mem_cons_self) _ _ ?_
    cases hx : t x with
    | true =>
      rw [if_pos rfl]
      refine he x (hP x List.mem_cons_self) hx _ _ ?_
      rw [put_same, itemsC_l, onO_some]
      refine ⟨?_, ?_⟩
      · rw [List.length_map, sizeLine_eq]; omega
      · rw [put_put, show acc.map W.d ++ [W.d (f x)] = (acc ++ [f x]).map W.d by rw [List.map_append]; rfl]
        refine hr _ (by rw [List.length_append, List.length_singleton]; omega) ?_
        rw [List.filter_cons, if_pos hx, List.map_cons] at q
        rw [List.append_assoc]
        exact q
    | false =>
      rw [if_neg Bool.false_ne_true]
      refine hr _ (by omega) ?_
      rw [List.filter_cons, if_neg (by rw [hx]; exact Bool.false_ne_true)] at q
      exact q
/-- .. without a test -/
theorem lc_map {α : Type} {p : Addr} {ok : Mp → Prop} {i : Nat} {te : TE2} {σ : St2} {Q : VK2} {M0 : Mp} (P : α → Prop) (wf : α → W) (f : α → D) (hp : M0 p = none) (hok : ∀ acc, ok (put M0 p (.lst acc)))
    (he : ∀ x, P x → ∀ acc K, K (.d (f x)) (put M0 p (.lst acc)) → te (σ.set i (some (wf x))) (put M0 p (.lst acc)) K (fun _ _ => False))
    (xs : List α) (hP : ∀ x ∈ xs, P x) (hl : xs.length ≤ 100000) (q : Q (.d (.lst (xs.map f))) M0) : lcL false p ok (wgName i) wYes te σ Q (xs.map wf) (put M0 p (.lst [])) :=
  lc_pure P wf f (fun _ => true) hp hok (fun _ _ _ _ h => h) (fun x hx _ acc K h => he x hx acc K h) xs [] hP (by simpa using hl) (by
    rw [List.filter_eq_self.mpr (fun _ _ => rfl), List.nil_append]; exact q)
theorem szl {n : Nat} (h : n ≤ 1000000) : n ≤ sizeLine := Nat.le_trans h (by rw [sizeLine_eq]; decide)
theorem szlt {n : Nat} (h : n < 1000000) : n < sizeLine := Nat.lt_of_lt_of_le h (by rw [sizeLine_eq]; decide)
/-! ### some, mixed -/
def spSome : Sp2 := fun ws M Q _ => ∃ (st sc : Addr) (s : Sm) (M0 : Mp) (c : Nat) (x : W) (ds : List D) (n : Int), ws = [.c st, x, .d (.int n)] ∧ M = setS st sc s M0 ∧ SeqF M0 st sc x ds ∧ ds.length ≤ 1000 ∧ st ≠ sc ∧ SOk c s ∧ ds.length ≤ c ∧ 0 < n ∧ n < 2 ^ 100 ∧ ∀ (es : List D) s', es.Sublist ds → SOk (c - ds.length) s' → Q (.d (.lst es)) (setS st sc s' M0)
theorem seqF_put {M0 : Mp} {st sc p : Addr} {x : W} {ds : List D} {c : Cl} (h : SeqF M0 st sc x ds) (hp : M0 p = none) (h1 : p ≠ st) (h2 : p ≠ sc) : SeqF (put M0 p c) st sc x ds := by
  cases x with
  | d y => exact h
  | r y => exact h
  | c a =>
    intro s
    have := h s
    show itemsC (setS st sc s (put M0 p c) a) = _
    have e : itemsC (setS st sc s M0 a) = some (ds.map W.d) := this
    by_cases ha : a = p
    · subst ha
      rw [setS_ne h1 h2, hp] at e
      cases e
    · rw [← e]
      by_cases ha1 : a = st
      · subst ha1; rw [setS_st, setS_st]
      · by_cases ha2 : a = sc
        · subst ha2; rw [setS_sc (Ne.symm ha1), setS_sc (Ne.symm ha1)]
        · rw [setS_ne ha1 ha2, setS_ne ha1 ha2, put_ne ha]
def g_Lsome : Env2 := ⟨[⟨"_law_draw", spDraw, []⟩], [], noO⟩
theorem some_ok : Ok g_Lsome 4 b_Lsome spSome := by
  rintro ws M Q E ⟨st, sc, s, M0, c, x, ds, n, rfl, rfl, hx, hl, ne, hs, hc, hn, hb, q⟩
  simp [b_Lsome, b_Lsome_0, g_Lsome, hx s]
  intro p hp
  obtain ⟨h1, h2, h3⟩ := setS_none.mp hp
  rw [put_setS h1 h2]
  refine lc_run (fun r M' => ∃ a b es s', r = b.map W.d ∧ ds = a ++ b ∧ M' = setS st sc s' (put M0 p (.lst (es.map W.d))) ∧ es.Sublist a ∧ SOk (c - a.length) s') ?_ ?_ _ _ ⟨[], ds, [], s, rfl, rfl, rfl, List.Sublist.refl _, hs⟩
  · rintro w r M' K ⟨a, b, es, s', e1, e2, rfl, e3, e4⟩ hK
    cases b with
    | nil => cases e1
    | cons y b =>
      cases e1
      have le := congrArg List.length e2
      rw [List.length_append, List.length_cons] at le
      refine ⟨seqF_put hx h3 h1 h2 s', ?_⟩
      simp
      refine ⟨st, sc, s', _, c - a.length, n, by simp, rfl, ne, e4, by omega, hn, hb, fun r s2 r0 r1 hs2 => ?_⟩
      have el := e3.length_le
      simp [setS_ne h1 h2]
      have e5 : SOk (c - (a ++ [y]).length) s2 := hs2.le (by rw [List.length_append, List.length_singleton]; omega)
      split
      · refine ⟨szlt (by omega), ?_⟩
        rw [put_setS h1 h2, put_put]
        exact hK _ ⟨a ++ [y], b, es ++ [y], s2, rfl, by rw [e2]; simp, by simp, List.Sublist.append e3 (List.Sublist.refl _), e5⟩
      · exact hK _ ⟨a ++ [y], b, es, s2, rfl, by rw [e2]; simp, rfl, e3.trans (List.sublist_append_left a [y]), e5⟩
  · rintro M' ⟨a, b, es, s', e1, e2, rfl, e3, e4⟩
    have : b = [] := by cases b with | nil => rfl | cons _ _ => cases e1
    subst this
    rw [List.append_nil] at e2
    subst e2
    refine ⟨seqF_put hx h3 h1 h2 s', ?_⟩
    simp [setS_ne h1 h2, del_setS h1 h2, del_put h3]
    exact q _ _ e3 e4
def spMixed : Sp2 := fun ws M Q _ => ∃ (st sc : Addr) (s : Sm) (M0 : Mp) (c : Nat) (x : W) (ds : List D), ws = [.c st, x] ∧ M = setS st sc s M0 ∧ SeqF M0 st sc x ds ∧ ds.length ≤ 1000 ∧ st ≠ sc ∧ SOk c s ∧ ds.length ≤ c ∧ ∀ (es : List D) s', es.Perm ds → SOk (c - ds.length) s' → Q (.d (.lst es)) (setS st sc s' M0)
def g_Lmixed : Env2 := ⟨[⟨"_law_draw", spDraw, []⟩], [], noO⟩
theorem eraseMap {α β : Type} (f : α → β) : ∀ (xs : List α) (j : Nat), (xs.map f).eraseIdx j = (xs.eraseIdx j).map f
  | [], _ => rfl
  | _ :: _, 0 => rfl
  | x :: r, j + 1 => by rw [List.map_cons, List.eraseIdx_cons_succ, List.eraseIdx_cons_succ, List.map_cons, eraseMap f r j]
theorem erasePerm {α : Type} : ∀ (xs : List α) (j : Nat) (h : j < xs.length), (xs[j] :: xs.eraseIdx j).Perm xs
  | x :: r, 0, _ => List.Perm.refl _
  | x :: r, j + 1, h => by
    have ih := erasePerm r j (by simpa using h)
    rw [List.getElem_cons_succ, List.eraseIdx_cons_succ]
    exact (List.Perm.swap _ _ _).trans (ih.cons x)
theorem mixed_ok : OkD g_Lmixed 4 b_Lmixed spMixed := by
  rintro ws M Q E ⟨st, sc, s, M0, c, x, ds, rfl, rfl, hx, hl, ne, hs, hc, q⟩
  simp [b_Lmixed, b_Lmixed_1, g_Lmixed, hx s]
  intro p hp
  obtain ⟨h1, h2, h3⟩ := setS_none.mp hp
  rw [put_setS h1 h2]
  simp [b_Lmixed_0, setS_ne h1 h2]
  refine ⟨by omega, fun p2 hp2 => ?_⟩
  obtain ⟨k1, k2, k3⟩ := setS_none.mp hp2
  have kp : p2 ≠ p := fun e => by subst e; rw [put_same] at k3; cases k3
  have k4 : M0 p2 = none := by rw [put_ne kp] at k3; exact k3
  rw [put_setS k1 k2]
  refine lc_run (fun r M' => ∃ n ls es s', r.length = n ∧ (∀ w ∈ r, ∃ i : Int, w = .d (.int i)) ∧ ls.length = n ∧ (es ++ ls).Perm ds ∧ M' = setS st sc s' (put (put M0 p (.lst (ls.map W.d))) p2 (.lst (es.map W.d))) ∧ SOk (c - es.length) s') ?_ ?_ _ _ ⟨ds.length, ds, [], s, by simp [rngW], fun w hw => ?_, rfl, List.Perm.refl _, rfl, hs.le (by simp)⟩
  · rintro w r M' K ⟨n, ls, es, s', e1, e2, e3, e4, rfl, e5⟩ hK
    obtain ⟨i, rfl⟩ := e2 w List.mem_cons_self
    rw [List.length_cons] at e1
    have le := e4.length_eq
    rw [List.length_append] at le
    refine ⟨trivial, ?_⟩
    simp [setS_ne h1 h2, put_ne kp, put_ne (Ne.symm kp)]
    refine ⟨st, sc, s', _, c - es.length, (ls.length : Int), by simp, rfl, ne, e5, by omega, by omega, by omega, fun j s2 r0 r1 hs2 => ?_⟩
    obtain ⟨j, rfl⟩ := Int.eq_ofNat_of_zero_le r0
    have hj : j < ls.length := by omega
    have sx : seqIndex? (j : Int) ls.length = some j := by
      simp [seqIndex?]; omega
    simp [setS_ne h1 h2, setS_ne k1 k2, put_ne kp, put_ne (Ne.symm kp), sx, hj, put_setS h1 h2, put_setS k1 k2]
    refine ⟨by omega, szlt (by omega), ?_⟩
    refine hK _ ⟨n - 1, ls.eraseIdx j, es ++ [ls[j]], s2, by omega, fun w hw => e2 w (List.mem_cons_of_mem _ hw), ?_, ?_, ?_, hs2.le (by rw [List.length_append, List.length_singleton]; omega)⟩
    · rw [List.length_eraseIdx, if_pos hj]; omega
    · rw [List.append_assoc]
      exact ((erasePerm ls j hj).append_left es).trans e4
    · rw [eraseMap]
      congr 1
      rw [put_comm (a := p2) (b := p) kp, put_put, put_put, List.map_append]
      rfl
  · rintro M' ⟨n, ls, es, s', e1, e2, e3, e4, rfl, e5⟩
    have hn : n = 0 := by rw [← e1]; rfl
    subst hn
    have : ls = [] := List.length_eq_zero_iff.mp e3
    subst this
    rw [List.append_nil] at e4
    refine ⟨trivial, ?_⟩
    have k5 : ∀ c, put M0 p c p2 = none := fun c => by rw [put_ne kp]; exact k4
    simp [setS_ne k1 k2, del_setS k1 k2, del_put (k5 _)]
    refine ⟨setS st sc s' M0, ?_, q _ _ e4 (e5.le (by have := e4.length_eq; omega))⟩
    rw [← put_setS h1 h2]
    exact drop_put (by rw [setS_ne h1 h2]; exact h3)
  · simp [rngW] at hw
    obtain ⟨i, _, rfl⟩ := hw
    exact ⟨_, rfl⟩
/-! ### names -/
theorem strK_nm {s : Str} (h : Nm s) : strK s := by
  show s.cps.all (· < 0x110000) = true
  rw [Array.all_eq_true_iff_forall_mem]
  intro c hc
  have := h.2.2 c (by simpa using hc)
  simp; omega
def spName : Sp2 := fun ws M Q _ => ∃ (st sc : Addr) (s : Sm) (M0 : Mp) (c : Nat) (x : W) (ts : List Str), ws = [.c st, x] ∧ M = setS st sc s M0 ∧ SeqF M0 st sc x (ts.map D.str) ∧ ts.length < 20 ∧ st ≠ sc ∧ SOk c s ∧ 9 ≤ c ∧ ∀ (z : Str) s', Nm z → z ∉ ts → z ∉ resv → SOk (c - 9) s' → Q (.d (.str z)) (setS st sc s' M0)
def g_Lname : Env2 := ⟨[⟨"_law_draw", spDraw, []⟩], [], noO⟩
theorem sizes {r : Int} (h0 : 0 ≤ r) (h : r < 6) : ∃ k : Nat, atI [W.d (.int 1), .d (.int 1), .d (.int 2), .d (.int 3), .d (.int 5), .d (.int 8)] r = some (.d (.int (k : Int))) ∧ 1 ≤ k ∧ k ≤ 8 := by
  have : r = 0 ∨ r = 1 ∨ r = 2 ∨ r = 3 ∨ r = 4 ∨ r = 5 := by omega
  rcases this with rfl | rfl | rfl | rfl | rfl | rfl
  · exact ⟨1, rfl, by decide, by decide⟩
  · exact ⟨1, rfl, by decide, by decide⟩
  · exact ⟨2, rfl, by decide, by decide⟩
  · exact ⟨3, rfl, by decide, by decide⟩
  · exact ⟨5, rfl, by decide, by decide⟩
  · exact ⟨8, rfl, by decide, by decide⟩
theorem letters {r : Nat} (h : r < 26) : ixStr "abcdefghijklmnopqrstuvwxyz" (r : Int) = some ⟨#[97 + r]⟩ := by
  unfold ixStr
  have e : ("abcdefghijklmnopqrstuvwxyz" : Str).cps.toList = (List.range 26).map (97 + ·) := by decide
  rw [e, atI_cast, List.getElem?_map, List.getElem?_range h]
  rfl
theorem seqS_F {M0 : Mp} {st sc : Addr} {x : W} {ts : List Str} (h : SeqF M0 st sc x (ts.map D.str)) (s : Sm) : seqS (setS st sc s M0) x = some ts := by
  rw [seqS_eq, h s, Option.bind_some, List.map_map]
  exact strsL_map ts
@[simp high] theorem resv_tq {M : Mp} : seqS M (.d (.tup [.str "and", .str "or", .str "not", .str "always", .str "never"])) = some resv := rfl
@[simp high] theorem resv_eq {M : Mp} : seqS M (.d (.lst [.str "and", .str "or", .str "not", .str "always", .str "never"])) = some resv := rfl
theorem name_ok : Ok g_Lname 7 b_Lname spName := by
  rintro ws M Q E ⟨st, sc, s, M0, c, x, ts, rfl, rfl, hx, hl, ne, hs, hc, q⟩
  simp [b_Lname, b_Lname_4, g_Lname]
  refine ⟨st, sc, s, M0, c, 6, by simp, rfl, ne, hs, by omega, by decide, by decide, fun r s1 r0 r1 hs1 => ?_⟩
  obtain ⟨k, e, k1, k2⟩ := sizes r0 r1
  simp [e, b_Lname_3]
  refine ⟨by omega, fun p hp => ?_⟩
  obtain ⟨h1, h2, h3⟩ := setS_none.mp hp
  rw [put_setS h1 h2]
  refine lc_run (fun r M' => ∃ (cs : List Nat) (s' : Sm), cs.length + r.length = k ∧ (∀ w ∈ r, ∃ i : Int, w = .d (.int i)) ∧ M' = setS st sc s' (put M0 p (.lst (cs.map fun c => W.d (.str ⟨#[c]⟩)))) ∧ (∀ c ∈ cs, 97 ≤ c ∧ c ≤ 122) ∧ SOk (c - 1 - cs.length) s') ?_ ?_ _ _ ⟨[], s1, by simp [rngW], fun w hw => ?_, rfl, (fun c hc => nomatch hc), hs1⟩
  · rintro w r M' K ⟨cs, s', e1, e2, rfl, e3, e4⟩ hK
    obtain ⟨i, rfl⟩ := e2 w List.mem_cons_self
    rw [List.length_cons] at e1
    refine ⟨trivial, ?_⟩
    simp
    refine ⟨st, sc, s', _, c - 1 - cs.length, 26, by simp, rfl, ne, e4, by omega, by decide, by decide, fun j s2 j0 j1 hs2 => ?_⟩
    obtain ⟨j, rfl⟩ := Int.eq_ofNat_of_zero_le j0
    have hj : j < 26 := by omega
    simp [letters hj, setS_ne h1 h2, put_setS h1 h2]
    refine ⟨szlt (by omega), hK _ ⟨cs ++ [97 + j], s2, by simp; omega, fun w hw => e2 w (List.mem_cons_of_mem _ hw), by simp, fun d hd => ?_, hs2.le (by simp; omega)⟩⟩
    rcases List.mem_append.mp hd with hd | hd
    · exact e3 d hd
    · have : d = 97 + j := by simpa using hd
      omega
  · rintro M' ⟨cs, s', e1, e2, rfl, e3, e4⟩
    rw [List.length_nil] at e1
    refine ⟨trivial, ?_⟩
    have u1 : unD (cs.map fun c => W.d (.str ⟨#[c]⟩)) = some (cs.map fun c => D.str ⟨#[c]⟩) := by
      rw [show (cs.map fun c => W.d (.str ⟨#[c]⟩)) = (cs.map fun c => D.str ⟨#[c]⟩).map W.d by rw [List.map_map]; rfl]
      exact unD_map _
    have u2 : (strsL (((cs.map fun c => D.str ⟨#[c]⟩)).map W.d)) = some (cs.map fun c => (⟨#[c]⟩ : Str)) := by
      rw [show ((cs.map fun c => D.str ⟨#[c]⟩).map W.d) = (cs.map fun c => (⟨#[c]⟩ : Str)).map fun s => W.d (.str s) by rw [List.map_map, List.map_map]; rfl]
      exact strsL_map _
    have hsum : ∀ cs : List Nat, ((cs.map fun c => (⟨#[c]⟩ : Str)).map (·.length)).sum = cs.length := by
      intro cs
      induction cs with
      | nil => rfl
      | cons c r ih => rw [List.map_cons, List.map_cons, List.sum_cons, ih, List.length_cons, show (⟨#[c]⟩ : Str).length = 1 from rfl]; omega
    have hz : ("" : Str).length = 0 := by decide
    have zl : (⟨cs.toArray⟩ : Str).length = cs.length := SX.S_len cs
    simp only [List.map_map] at u2 hsum
    have nm : Nm ⟨cs.toArray⟩ := ⟨by rw [SX.S_len]; omega, by rw [SX.S_len]; omega, fun d hd => e3 d (by simpa using hd)⟩
    simp [setS_ne h1 h2, del_setS h1 h2, del_put h3, u1, u2, hsum, hz, joinE]
    rw [zl]
    refine ⟨by omega, szl (by omega), ?_⟩
    generalize (⟨cs.toArray⟩ : Str) = z at nm
    have e5 : SOk (c - 9) s' := e4.le (by omega)
    simp [b_Lname_2, seqS_F hx]
    have fall : ∀ De : Ends2, De.rt = Q → wSs ⟨[⟨"_law_draw", spDraw, []⟩], [], noO⟩ b_Lname_0 De [some (.c st), some x, some (.d (.int (k : Int))), some (.d (.str z)), none, none, none] (setS st sc s' M0) := by
      intro De hD
      simp [b_Lname_0]
      intro u hu
      have sg : signsW "abcdefghijklmnopqrst" = (List.range 20).map fun i => W.d (.str ⟨#[97 + i]⟩) := by
        have e : ("abcdefghijklmnopqrst" : Str).cps.toList = (List.range 20).map (97 + ·) := by decide
        unfold signsW
        rw [e, List.map_map]
        rfl
      rw [sg]
      refine lc_pure (α := Nat) (fun _ => True) _ (fun i => .str ⟨#[113, 97 + i]⟩) (fun _ => true) hu (fun _ => trivial) (fun i _ acc K hK => ?_) (fun i _ _ acc K hK => ?_) _ [] (fun _ _ => trivial) (by simp) ?_
      · simpa using hK
      · simp
        exact ⟨by rw [show ("q" : Str).length = 1 by decide, show (⟨#[97 + i]⟩ : Str).length = 1 from rfl]; exact szl (by omega), hK⟩
      · have eq : ([] : List D) ++ List.map (fun i => D.str ⟨#[113, 97 + i]⟩) ((List.range 20).filter fun _ => true) = q20.map D.str := by
          rw [List.filter_eq_self.mpr (fun _ _ => rfl)]
          unfold q20
          rw [List.nil_append, List.map_map]; rfl
        rw [eq]
        simp
        intro v hv
        refine lc_pure (α := Str) (fun _ => True) _ (fun s => .str s) (fun s => !decide (s ∈ ts)) hv (fun _ => by simp) (fun y _ acc K hK => ?_) (fun y _ _ acc K hK => ?_) q20 [] (fun _ _ => trivial) (by decide) ?_
        · obtain ⟨v1, v2, v3⟩ := setS_none.mp hv
          simp [put_setS v1 v2, seqS_F (seqF_put hx v3 v1 v2)]
          rw [put_setS v1 v2] at hK
          simpa using hK
        · simpa using hK
        · have hf := q20_free hl
          cases hq : q20.filter (fun s => !decide (s ∈ ts)) with
          | nil => exact absurd hq hf
          | cons y r =>
            have hy : y ∈ q20.filter (fun s => !decide (s ∈ ts)) := by rw [hq]; exact List.mem_cons_self
            rw [List.mem_filter] at hy
            have ny := q20_nm y hy.1
            simp [hD]
            exact q _ _ ny.1 (by simpa using hy.2) ny.2 e5
    split
    · exact fall _ rfl
    · split
      · exact fall _ rfl
      · rename_i n1 n2
        simp [b_Lname_1]
        exact q _ _ nm n1 n2 e5
  · simp [rngW] at hw
    obtain ⟨i, _, rfl⟩ := hw
    exact ⟨_, rfl⟩
def spNames : Sp2 := fun ws M Q _ => ∃ (st sc : Addr) (s : Sm) (M0 : Mp) (c : Nat) (n : Nat) (ts : List Str), ws = [.c st, .d (.int (n : Int)), .d (.lst (ts.map D.str))] ∧ M = setS st sc s M0 ∧ ts.length + n ≤ 20 ∧ st ≠ sc ∧ SOk c s ∧ 9 * n ≤ c ∧ ∀ (ns : List Str) s', ns.length = n → (∀ z ∈ ns, Nm z ∧ z ∉ ts ∧ z ∉ resv) → ns.Nodup → SOk (c - 9 * n) s' → Q (.d (.lst (ns.map D.str))) (setS st sc s' M0)
def g_Lnames : Env2 := ⟨[⟨"_law_name", spName, []⟩], [], noO⟩
theorem names_ok : Ok g_Lnames 5 b_Lnames spNames := by
  rintro ws M Q E ⟨st, sc, s, M0, c, n, ts, rfl, rfl, hl, ne, hs, hc, q⟩
  simp [b_Lnames, b_Lnames_4, g_Lnames]
  intro p hp
  obtain ⟨h1, h2, h3⟩ := setS_none.mp hp
  rw [put_setS h1 h2]
  simp [b_Lnames_3]
  refine ⟨by omega, ?_⟩
  refine for_run (fun r σ M' => ∃ (ns : List Str) (s' : Sm) (v : Option W), ns.length + r.length = n ∧ (∀ w ∈ r, ∃ i : Int, w = .d (.int i)) ∧ σ = [some (.c st), some (.d (.int (n : Int))), some (.d (.lst (ts.map D.str))), some (.c p), v] ∧ M' = setS st sc s' (put M0 p (.lst (ns.map fun z => W.d (.str z)))) ∧ (∀ z ∈ ns, Nm z ∧ z ∉ ts ∧ z ∉ resv) ∧ ns.Nodup ∧ SOk (c - 9 * ns.length) s') ?_ ?_ _ _ _ ⟨[], s, none, by simp [rngW], fun w hw => ?_, rfl, rfl, (fun _ h => nomatch h), List.nodup_nil, hs⟩
  · rintro w r σ M' K ⟨ns, s', v, e1, e2, rfl, rfl, e3, e4, e5⟩ hK
    obtain ⟨i, rfl⟩ := e2 w List.mem_cons_self
    rw [List.length_cons] at e1
    refine ⟨trivial, ?_⟩
    have u1 : unD (ns.map fun z => W.d (.str z)) = some (ns.map D.str) := by
      rw [show (ns.map fun z => W.d (.str z)) = (ns.map D.str).map W.d by rw [List.map_map]; rfl]
      exact unD_map _
    have u2 : unD ((ts.map D.str).map W.d ++ ns.map fun z => W.d (.str z)) = some ((ts ++ ns).map D.str) := by
      rw [show ((ts.map D.str).map W.d ++ ns.map fun z => W.d (.str z)) = ((ts ++ ns).map D.str).map W.d by rw [List.map_append, List.map_append, List.map_map, List.map_map]; rfl]
      exact unD_map _
    simp only [List.map_map] at u2
    simp [b_Lnames_0, setS_ne h1 h2, u2]
    refine ⟨szl (by omega), st, sc, s', _, c - 9 * ns.length, .d (.lst ((ts ++ ns).map D.str)), ts ++ ns, by simp, rfl, seqF_l, by rw [List.length_append]; omega, ne, e5, by omega, fun z s2 hz hz1 hz2 hs2 => ?_⟩
    simp [setS_ne h1 h2, put_setS h1 h2]
    rw [List.mem_append] at hz1
    refine ⟨szlt (by omega), hK _ _ ⟨ns ++ [z], s2, _, by simp; omega, fun w hw => e2 w (List.mem_cons_of_mem _ hw), rfl, by simp, ?_, ?_, hs2.le (by simp; omega)⟩⟩
    · intro y hy
      rcases List.mem_append.mp hy with hy | hy
      · exact e3 y hy
      · have : y = z := by simpa using hy
        subst this
        exact ⟨hz, fun h => hz1 (.inl h), hz2⟩
    · rw [List.nodup_append]
      refine ⟨e4, by simp, fun a ha b hb => ?_⟩
      have : b = z := by simpa using hb
      subst this
      exact fun e => hz1 (.inr (e ▸ ha))
  · rintro σ M' ⟨ns, s', v, e1, e2, rfl, rfl, e3, e4, e5⟩
    rw [List.length_nil] at e1
    refine ⟨trivial, ?_⟩
    have u1 : unD (ns.map fun z => W.d (.str z)) = some (ns.map D.str) := by
      rw [show (ns.map fun z => W.d (.str z)) = (ns.map D.str).map W.d by rw [List.map_map]; rfl]
      exact unD_map _
    simp [b_Lnames_2, b_Lnames_1, setS_ne h1 h2, u1, del_setS h1 h2, del_put h3]
    exact q _ _ (by omega) e3 e4 (e5.le (by omega))
  · simp [rngW] at hw
    obtain ⟨i, _, rfl⟩ := hw
    exact ⟨_, rfl⟩
@[simp] theorem spSame_x {x y : D} {M : Mp} {Q : VK2} {E : XK2} : spSame [.d x, .d y] M Q E = (RepOk x ∧ RepOk y ∧ Q (.d (.bool (decide (reprD x = reprD y)))) M) := by
  apply propext
  constructor
  · rintro ⟨x', y', e, h⟩
    cases e; exact h
  · intro h; exact ⟨x, y, rfl, h⟩
theorem stream_start {M0 : Mp} {p p1 : Addr} {ns : List Int} : put (put M0 p (.lst (ns.map (W.d ∘ D.int)))) p1 (.lst [.c p, .d (.int 0), .d (.int 0), .d (.int 0)]) = setS p1 p ⟨ns, 0, 0, 0⟩ M0 := rfl
theorem stream_ok {ns : List Int} : SOk 16777216 ⟨ns, 0, 0, 0⟩ := ⟨Int.le_refl 0, Int.le_refl 0, (by decide : (0 : Int) < 2147483647), (by decide : 0 + 16777216 ≤ 16777216)⟩
theorem ne_new {M : Mp} {p p1 : Addr} {c : Cl} (h : put M p c p1 = none) : p1 ≠ p := fun e => by subst e; rw [put_same] at h; cases h
theorem strK_app {a b : Str} (h1 : strK a) (h2 : strK b) : strK (a ++ b) := by
  have e1 : a.cps.all (· < 0x110000) = true := h1
  have e2 : b.cps.all (· < 0x110000) = true := h2
  show (a.cps ++ b.cps).all (· < 0x110000) = true
  rw [Array.all_append, e1, e2]; rfl
/-- what a law asks for -/
def spLaw : Sp2 := fun ws M Q _ => ∃ ns : List Int, ws = [.r (ns.map D.int)] ∧ ns.length ≤ 63 ∧ (M = fun _ => none) ∧ ∀ M', Q (.d (.bool true)) M'
theorem spLaw_in (ns : List Int) (hl : ns.length ≤ 63) : spLaw [.r (ns.map D.int)] (fun _ => none) (fun y _ => y = .d (.bool true)) fun _ _ => False := ⟨ns, rfl, hl, rfl, fun _ => rfl⟩
end Z
set_option maxHeartbeats 8000000
/-! U1: growing maps; the stream as a part of a map -/
namespace Z
open PySem PySem.Spec PyProof.Rows L2
/-- everything that stands in M stands in M' -/
def Ext (M M' : Mp) : Prop := ∀ a c, M a = some c → M' a = some c
theorem Ext.refl (M : Mp) : Ext M M := fun _ _ h => h
theorem Ext.trans {M M1 M2 : Mp} (a : Ext M M1) (b : Ext M1 M2) : Ext M M2 := fun x c h => b _ _ (a _ _ h)
theorem ext_put {M : Mp} {p : Addr} {c : Cl} (h : M p = none) : Ext M (put M p c) := drop_put h
theorem Ext.none {M M' : Mp} (e : Ext M M') {p : Addr} (h : M' p = none) : M p = none := by
  cases q : M p with
  | none => rfl
  | some c => rw [e _ _ q] at h; cases h
theorem put_id' {M : Mp} {q : Addr} {c : Cl} (h : M q = some c) : put M q c = M := by
  funext a
  by_cases e : a = q
  · subst e; rw [put_same, h]
  · rw [put_ne e]
theorem ne_of' {M : Mp} {a b : Addr} {c : Cl} (ha : M a = none) (hb : M b = some c) : b ≠ a := fun e => by subst e; rw [ha] at hb; cases hb
theorem ne_cl {M : Mp} {a b : Addr} {c d : Cl} (ha : M a = some c) (hb : M b = some d) (h : c ≠ d) : a ≠ b := fun e => by subst e; rw [ha] at hb; cases hb; exact h rfl
/-- the stream in a map -/
structure Stm (st sc : Addr) (s : Sm) (M : Mp) : Prop where
  st : M st = some (.lst [.c sc, .d (.int s.cur), .d (.int (s.cnt : Int)), .d (.int s.mix)])
  sc : M sc = some (.lst (iW s.ns))
theorem Stm.of {st sc : Addr} {s : Sm} {M : Mp} (ne : st ≠ sc) : Stm st sc s (setS st sc s M) := ⟨setS_st, setS_sc ne⟩
theorem Stm.eq {st sc : Addr} {s : Sm} {M : Mp} (h : Stm st sc s M) : M = setS st sc s M := by
  unfold setS
  rw [put_id' h.sc, put_id' h.st]
theorem Stm.ext {st sc : Addr} {s : Sm} {M M' : Mp} (h : Stm st sc s M) (e : Ext M M') : Stm st sc s M' := ⟨e _ _ h.st, e _ _ h.sc⟩
theorem Stm.ne {st sc : Addr} {s : Sm} {M : Mp} (h : Stm st sc s M) {a : Addr} {c : Cl} (ha : M a = some c) (hc : ∀ l, c ≠ .lst l) : a ≠ st ∧ a ≠ sc := ⟨fun e => (by subst e; rw [h.st] at ha; cases ha; exact hc _ rfl), fun e => (by subst e; rw [h.sc] at ha; cases ha; exact hc _ rfl)⟩
/-- a cell that is no list stands after a draw -/
theorem Stm.keep {st sc : Addr} {s s' : Sm} {M : Mp} (h : Stm st sc s M) {a : Addr} {c : Cl} (ha : M a = some c) (hc : ∀ l, c ≠ .lst l) : setS st sc s' M a = some c := by
  obtain ⟨h1, h2⟩ := h.ne ha hc
  rw [setS_ne h1 h2, ha]
theorem Stm.new {st sc : Addr} {s : Sm} {M : Mp} (h : Stm st sc s M) {a : Addr} (ha : M a = none) : a ≠ st ∧ a ≠ sc := ⟨fun e => (by subst e; rw [h.st] at ha; cases ha), fun e => (by subst e; rw [h.sc] at ha; cases ha)⟩
/-- a cell apart from the stream is written -/
theorem Stm.put {st sc : Addr} {s : Sm} {M : Mp} (h : Stm st sc s M) {a : Addr} {c : Cl} (h1 : a ≠ st) (h2 : a ≠ sc) : Stm st sc s (put M a c) := ⟨by rw [put_ne h1.symm, h.st], by rw [put_ne h2.symm, h.sc]⟩
theorem Stm.del {st sc : Addr} {s : Sm} {M : Mp} (h : Stm st sc s M) {a : Addr} (h1 : a ≠ st) (h2 : a ≠ sc) : Stm st sc s (del M a) := ⟨by rw [del_ne h1.symm, h.st], by rw [del_ne h2.symm, h.sc]⟩
end Z
set_option maxHeartbeats 8000000
/-! NAM: names, words, ascending -/
namespace Z
open PySem PySem.Spec PyProof.Rows L2

@[simp] theorem strsL_comp {xs : List Str} : strsL (xs.map (W.d ∘ D.str)) = some xs := strsL_map xs
theorem unD_strs (xs : List Str) : unD (xs.map fun z => W.d (.str z)) = some (xs.map D.str) := by
  rw [show (xs.map fun z => W.d (.str z)) = (xs.map D.str).map W.d by rw [List.map_map]; rfl]
  exact unD_map _
theorem strs_inj : ∀ {xs ys : List Str}, xs.map D.str = ys.map D.str → xs = ys
  | [], [], _ => rfl
  | [], y :: ys, h => by cases h
  | x :: xs, [], h => by cases h
  | x :: xs, y :: ys, h => by
    simp only [List.map_cons, List.cons.injEq, D.str.injEq] at h
    rw [h.1, strs_inj h.2]
theorem strK_dec {s : Str} (h : PyData.strOk s = true) : strK s := h
def b_is_name_0 : Ss := .cons (.ret (.cst (.bool false))) .nil
def b_is_name_1 : Ss := .cons (.ret (.blt .all (.cons (.lc false (.sgn (.var 0)) 1 .nil (.cmp .in_ (.var 1) (.glob 1))) .nil))) .nil
def b_is_name_2 : Ss := .cons (.iff (.or (.not (.chain .le .le (.cst (.int 1)) (.blt .len (.cons (.var 0) .nil)) (.cst (.int 8)))) (.cons (.cmp .in_ (.var 0) (.glob 0)) .nil)) b_is_name_0 .nil) b_is_name_1
def b_is_name : Ss := b_is_name_2
def isNm (s : Str) : Bool := decide (1 ≤ s.length) && decide (s.length ≤ 8) && !decide (s ∈ resv) && s.cps.toList.all fun c => decide (97 ≤ c) && decide (c ≤ 122)
theorem isNm_of {s : Str} (h : Nm s) (h2 : s ∉ resv) : isNm s = true := by
  unfold isNm
  simp [h.1, h.2.1, h2]
  intro c hc
  exact h.2.2 _ (by simp)
def spIsName : Sp2 := fun ws M Q _ => ∃ s : Str, ws = [.d (.str s)] ∧ Q (.d (.bool (isNm s))) M
def g_is_name : Env2 := ⟨[], [("RESERVED", .tup [.str "and", .str "or", .str "not", .str "always", .str "never"]), ("LETTERS", .str "abcdefghijklmnopqrstuvwxyz")], noO⟩
@[simp] theorem gg_is_name : g_is_name.g = ([("RESERVED", .tup [.str "and", .str "or", .str "not", .str "always", .str "never"]), ("LETTERS", .str "abcdefghijklmnopqrstuvwxyz")] : List (Str × D)) := rfl
theorem mem_letters {c : Nat} : c ∈ ("abcdefghijklmnopqrstuvwxyz" : Str).cps ↔ 97 ≤ c ∧ c ≤ 122 := by
  have e : ("abcdefghijklmnopqrstuvwxyz" : Str).cps = ((List.range 26).map (97 + ·)).toArray := by decide
  rw [e]
  simp
  constructor
  · rintro ⟨a, h, rfl⟩; omega
  · intro h; exact ⟨c - 97, by omega, by omega⟩
theorem is_name_ok : Ok g_is_name 2 b_is_name spIsName := by
  rintro ws M Q E ⟨s, rfl, q⟩
  have no : isNm s = false → ∀ De : Ends2, De.rt = Q → wSs g_is_name b_is_name_0 De [some (.d (.str s)), none] M := by
    intro h De hD
    rw [h] at q
    simpa [b_is_name_0, hD] using q
  simp [b_is_name, b_is_name_2]
  split
  · split
    · split
      · exact no (by unfold isNm; simp [*]) _ rfl
      · rename_i h1 h2 h3
        simp [b_is_name_1]
        intro p hp
        unfold signsW
        refine lc_map (α := Nat) (fun _ => True) _ (fun c => .bool (decide (97 ≤ c ∧ c ≤ 122))) hp (fun _ => trivial) (fun i _ acc K hK => ?_) _ (fun _ _ => trivial) ?_ ?_
        · simpa [mem_letters] using hK
        · have : s.cps.toList.length = s.length := rfl
          rw [this]; simp; omega
        · simp
          have : isNm s = s.cps.toList.all fun c => decide (97 ≤ c ∧ c ≤ 122) := by
            unfold isNm
            have a1 : 1 ≤ s.length := by omega
            have a2 : s.length ≤ 8 := by omega
            simp [a1, a2, h3]
          rw [this] at q
          simpa using q
    · exact no (by unfold isNm; simp; omega) _ rfl
  · exact no (by unfold isNm; simp; omega) _ rfl
@[simp] theorem spIsName_s {s : Str} {M : Mp} {Q : VK2} {E : XK2} : spIsName [.d (.str s)] M Q E = Q (.d (.bool (isNm s))) M := by simp [spIsName]
def b_ascending_0 : Ss := .cons (.ret (.ext .alt (.cons (.ext (.srt true true) (.cons (.lc false (.seq (.var 0)) 1 .nil (.blt .str (.cons (.var 1) .nil))) .nil)) (.cons (.ext (.srt true false) (.cons (.lc false (.seq (.var 0)) 1 .nil (.blt .str (.cons (.var 1) .nil))) .nil)) .nil)))) .nil
def b_ascending : Ss := b_ascending_0
def spAsc : Sp2 := fun ws M Q _ => ∃ xs : List Str, ws = [.d (.lst (xs.map D.str))] ∧ xs.length < 1000 ∧ (Q (.d (.lst ((asc xs).map D.str))) M ∨ ∀ p, M p = none → Q (.c p) (put M p (.lst ((asc xs).map fun z => W.d (.str z)))))
@[simp] theorem spAsc_x {xs : List Str} {M : Mp} {Q : VK2} {E : XK2} : spAsc [.d (.lst (xs.map D.str))] M Q E = (xs.length < 1000 ∧ (Q (.d (.lst ((asc xs).map D.str))) M ∨ ∀ p, M p = none → Q (.c p) (put M p (.lst ((asc xs).map fun z => W.d (.str z)))))) := by
  apply propext
  constructor
  · rintro ⟨ys, e, h⟩
    have e2 : xs.map D.str = ys.map D.str := by simpa using e
    cases strs_inj e2
    exact h
  · intro h; exact ⟨xs, rfl, h⟩
def g_ascending : Env2 := ⟨[], [], noO⟩
theorem ascending_ok : Ok g_ascending 2 b_ascending spAsc := by
  rintro ws M Q E ⟨xs, rfl, hl, q⟩
  simp [b_ascending, b_ascending_0, g_ascending]
  rcases q with q | q
  · right
    intro p hp
    refine lc_map (α := Str) (fun _ => True) _ (fun s => .str s) hp (fun _ => trivial) (fun i _ acc K hK => ?_) xs (fun _ _ => trivial) (by omega) ?_
    · simpa using hK
    · simp [unD_strs, hl]
      exact q
  · left
    intro p hp
    refine lc_map (α := Str) (fun _ => True) _ (fun s => .str s) hp (fun _ => trivial) (fun i _ acc K hK => ?_) xs (fun _ _ => trivial) (by omega) ?_
    · simpa using hK
    · simp [hl]
      exact q
theorem srt_asc {a xs : List Str} (nd : a.Nodup) (m : ∀ x, x ∈ a ↔ x ∈ xs) : srt a = asc xs :=
  List.Perm.eq_of_pairwise (fun _ _ _ _ => leT_anti) (List.pairwise_mergeSort leT_trans leT_total a) (List.pairwise_mergeSort leT_trans leT_total _)
    ((List.mergeSort_perm a leT).trans (((List.perm_ext_iff_of_nodup nd (uniq_nd xs)).mpr fun x => by rw [m, uniq_mem]).trans (List.mergeSort_perm _ leT).symm))
theorem asc_one (s : Str) : asc [s] = [s] := by simp [asc, uniq, srt]
def b_Lword_0 : Ss := .cons (.ret (.call 1 (.cons (.var 0) (.cons (.lst false .nil) .nil)))) .nil
def b_Lword_1 : Ss := .cons (.ret (.ix (.lst false (.cons (.cst (.str "and")) (.cons (.cst (.str "or")) (.cons (.cst (.str "not")) (.cons (.cst (.str "always")) (.cons (.cst (.str "never")) (.cons (.cst (.str "")) (.cons (.cst (.str "abcdefghi")) (.cons (.cst (.str "nota")) .nil))))))))) (.call 0 (.cons (.var 0) (.cons (.cst (.int 8)) .nil))))) .nil
def b_Lword_2 : Ss := .cons (.ret (.bin (.add false) (.bin (.add false) (.sl false (.var 2) .nil (.cons (.var 3) .nil)) (.var 4)) (.sl false (.var 2) (.cons (.var 3) .nil) .nil))) .nil
def b_Lword_3 : Ss := .cons (.ret (.ife (.cmp .eq (.var 1) (.cst (.int 6))) (.bin (.add false) (.bin (.add false) (.sl false (.var 2) .nil (.cons (.var 3) .nil)) (.var 4)) (.sl false (.var 2) (.cons (.bin (.add false) (.var 3) (.cst (.int 1))) .nil) .nil)) (.ext (.rep) (.cons (.var 2) (.cons (.bin (.add false) (.cst (.int 1)) (.call 0 (.cons (.var 0) (.cons (.cst (.int 9)) .nil)))) .nil))))) .nil
def b_Lword_4 : Ss := .cons (.iff (.cmp .eq (.var 1) (.cst (.int 5))) b_Lword_2 .nil) b_Lword_3
def b_Lword_5 : Ss := .cons (.asg (.name 4) (.ix (.lst false (.cons (.cst (.str " ")) (.cons (.cst (.str "_")) (.cons (.cst (.str "A")) (.cons (.cst (.str "Z")) (.cons (.cst (.str "0")) (.cons (.cst (.str "9")) (.cons (.cst (.str "-")) (.cons (.cst (.str "\n")) (.cons (.cst (.str "(")) (.cons (.cst (.str ".")) (.cons (.cst (.str "{")) (.cons (.cst (.str "`")) .nil))))))))))))) (.call 0 (.cons (.var 0) (.cons (.cst (.int 12)) .nil))))) b_Lword_4
def b_Lword_6 : Ss := .cons (.asg (.name 3) (.call 0 (.cons (.var 0) (.cons (.bin (.add false) (.blt .len (.cons (.var 2) .nil)) (.cst (.int 1))) .nil)))) b_Lword_5
def b_Lword_7 : Ss := .cons (.asg (.name 2) (.call 1 (.cons (.var 0) (.cons (.lst false .nil) .nil)))) b_Lword_6
def b_Lword_8 : Ss := .cons (.iff (.cmp .eq (.var 1) (.cst (.int 4))) b_Lword_1 .nil) b_Lword_7
def b_Lword_9 : Ss := .cons (.iff (.cmp .lt (.var 1) (.cst (.int 4))) b_Lword_0 .nil) b_Lword_8
def b_Lword_10 : Ss := .cons (.asg (.name 1) (.call 0 (.cons (.var 0) (.cons (.cst (.int 8)) .nil)))) b_Lword_9
def b_Lword : Ss := b_Lword_10
def b_Lis_name_0 : Ss := .cons (.ret (.cst (.bool false))) .nil
def b_Lis_name_1 : Ss := .cons (.ret (.blt .all (.cons (.lc false (.sgn (.var 0)) 1 .nil (.and (.cmp .le (.cst (.str "a")) (.var 1)) (.cons (.cmp .le (.var 1) (.cst (.str "z"))) .nil))) .nil))) .nil
def b_Lis_name_2 : Ss := .cons (.iff (.or (.cmp .lt (.blt .len (.cons (.var 0) .nil)) (.cst (.int 1))) (.cons (.cmp .gt (.blt .len (.cons (.var 0) .nil)) (.cst (.int 8))) (.cons (.cmp .in_ (.var 0) (.lst false (.cons (.cst (.str "and")) (.cons (.cst (.str "or")) (.cons (.cst (.str "not")) (.cons (.cst (.str "always")) (.cons (.cst (.str "never")) .nil))))))) .nil))) b_Lis_name_0 .nil) b_Lis_name_1
def b_Lis_name : Ss := b_Lis_name_2
/-- a drawn string -/
def spWord : Sp2 := fun ws M Q _ => ∃ (st sc : Addr) (s : Sm) (M0 : Mp) (c : Nat), ws = [.c st] ∧ M = setS st sc s M0 ∧ st ≠ sc ∧ SOk c s ∧ 13 ≤ c ∧ ∀ (z : Str) s', strK z → z.length ≤ 100 → SOk (c - 13) s' → Q (.d (.str z)) (setS st sc s' M0)
def g_Lword : Env2 := ⟨[⟨"_law_draw", spDraw, []⟩, ⟨"_law_name", spName, []⟩], [], noO⟩
@[simp] theorem gf_Lword : g_Lword.f = ([⟨"_law_draw", spDraw, []⟩, ⟨"_law_name", spName, []⟩] : List Cal) := rfl
def g_Lis_name : Env2 := ⟨[], [], noO⟩
theorem one_lt {a b : Nat} : (([a] : List Nat) < [b]) ↔ a < b := by simp [List.cons_lt_cons_iff]
theorem one_le {a b : Nat} : (([a] : List Nat) ≤ [b]) ↔ a ≤ b := by
  show ¬ ([b] : List Nat) < [a] ↔ _
  rw [one_lt]
  omega
theorem rep_bad {z w : Str} (h1 : strK w) (h : strK z) (hl : z.length ≤ 100) (hw : w.length ≤ 100) : RepOk (.tup [.str w, .str z]) := ⟨⟨h1, h, trivial⟩, by simp [wt, wtL]; omega, by simp [dp, dpL]⟩
theorem LisName_ok : Ok g_Lis_name 2 b_Lis_name spIsName := by
  rintro ws M Q E ⟨s, rfl, q⟩
  have no : isNm s = false → ∀ De : Ends2, De.rt = Q → wSs g_Lis_name b_Lis_name_0 De [some (.d (.str s)), none] M := by
    intro h De hD
    rw [h] at q
    simpa [b_Lis_name_0, hD] using q
  simp [b_Lis_name, b_Lis_name_2]
  split
  · exact no (by unfold isNm; rw [decide_eq_false (show ¬ 1 ≤ s.length by omega)]; rfl) _ rfl
  · split
    · exact no (by unfold isNm; rw [decide_eq_false (show ¬ s.length ≤ 8 by omega)]; simp) _ rfl
    · split
      · rename_i h3
        exact no (by unfold isNm; simp [h3]) _ rfl
      · rename_i h1 h2 h3
        simp [b_Lis_name_1]
        intro p hp
        unfold signsW
        refine lc_map (α := Nat) (fun _ => True) _ (fun c => .bool (decide (97 ≤ c ∧ c ≤ 122))) hp (fun _ => trivial) (fun i _ acc K hK => ?_) _ (fun _ _ => trivial) ?_ ?_
        · have ea : (Str.ofString "a").cps = #[97] := by decide
          have ez : (Str.ofString "z").cps = #[122] := by decide
          simp [ea, ez, one_le, one_lt]
          by_cases h : 97 ≤ i
          · have e2 : (!decide (122 < i)) = decide (97 ≤ i ∧ i ≤ 122) := by by_cases h2 : 122 < i <;> simp [h, h2] <;> omega
            rw [if_pos h, e2]
            exact hK
          · have e2 : (!decide (i < 97)) = decide (97 ≤ i ∧ i ≤ 122) := by simp [h]; omega
            rw [if_neg h, e2]
            exact hK
        · have : s.cps.toList.length = s.length := rfl
          rw [this]; simp; omega
        · simp
          have : isNm s = s.cps.toList.all fun c => decide (97 ≤ c ∧ c ≤ 122) := by
            unfold isNm
            have a1 : 1 ≤ s.length := by omega
            have a2 : s.length ≤ 8 := by omega
            simp [a1, a2, h3]
          rw [this] at q
          simpa using q
theorem mul_strK {z : Str} {n : Int} (h : strK z) : strK (Txt.mul z n) := by
  have h' : z.cps.all (· < 0x110000) = true := h
  unfold Txt.mul
  split
  · show (#[] : Array Nat).all (· < 0x110000) = true
    simp
  · split
    · exact h
    · have : ∀ (k : Nat) (a : Array Nat), a.all (· < 0x110000) = true → ((List.replicate k z.cps).foldl (· ++ ·) a).all (· < 0x110000) = true := by
        intro k
        induction k with
        | zero => intro a ha; exact ha
        | succ k ih =>
          intro a ha
          rw [List.replicate_succ, List.foldl_cons]
          exact ih _ (by rw [Array.all_append, ha, h']; rfl)
      exact this _ _ (by simp)
theorem mul_size {z : Str} {n : Int} (h0 : 0 < n) : (Txt.mul z n).length ≤ z.length * n.toNat := by
  unfold Txt.mul
  rw [if_neg (by omega)]
  split
  · exact Nat.le_mul_of_pos_right _ (by omega)
  · have : ∀ (k : Nat) (a : Array Nat), ((List.replicate k z.cps).foldl (· ++ ·) a).size = a.size + z.cps.size * k := by
      intro k
      induction k with
      | zero => intro a; simp
      | succ k ih =>
        intro a
        rw [List.replicate_succ, List.foldl_cons, ih, Array.size_append, Nat.mul_succ]
        omega
    have e := this n.toNat #[]
    show ((List.replicate n.toNat z.cps).foldl (· ++ ·) #[]).size ≤ z.cps.size * n.toNat
    rw [e]
    simp
theorem cut_strK {z : Str} {lo hi : Option Int} (h : strK z) : strK (cutS z lo hi) := by
  have h' : z.cps.all (· < 0x110000) = true := h
  rw [Array.all_eq_true_iff_forall_mem] at h'
  show (cutS z lo hi).cps.all (· < 0x110000) = true
  rw [Array.all_eq_true_iff_forall_mem]
  intro c hc
  refine h' c ?_
  have hc2 : c ∈ ((z.cps.toList.drop (HT.sIx z.length 0 lo)).take (HT.sIx z.length z.length hi - HT.sIx z.length 0 lo)).toArray := hc
  exact Array.mem_toList_iff.mp (List.mem_of_mem_drop (List.mem_of_mem_take (by simpa using hc2)))
theorem strK_dec' {s : Str} (h : PyData.strOk s = true) : strK s := h
theorem word_ok : Ok g_Lword 5 b_Lword spWord := by
  rintro ws M Q E ⟨st, sc, s, M0, c, rfl, rfl, ne, hs, hc, q⟩
  simp [b_Lword, b_Lword_10]
  refine ⟨st, sc, s, M0, c, 8, by simp, rfl, ne, hs, by omega, by decide, by decide, fun way s1 w0 w1 hs1 => ?_⟩
  simp [b_Lword_9]
  split
  · simp [b_Lword_0]
    refine ⟨st, sc, s1, M0, _, .d (.lst []), [], by simp, rfl, seqF_l, by simp, ne, hs1, by omega, fun z s2 hz _ _ hs2 => ?_⟩
    exact q z s2 (strK_nm hz) (by have := hz.2.1; omega) (hs2.le (by omega))
  · simp [b_Lword_8]
    split
    · simp [b_Lword_1]
      refine ⟨st, sc, s1, M0, _, 8, by simp, rfl, ne, hs1, by omega, by decide, by decide, fun i s2 i0 i1 hs2 => ?_⟩
      have : i = 0 ∨ i = 1 ∨ i = 2 ∨ i = 3 ∨ i = 4 ∨ i = 5 ∨ i = 6 ∨ i = 7 := by omega
      have hs3 : SOk (c - 13) s2 := hs2.le (by omega)
      rcases this with rfl | rfl | rfl | rfl | rfl | rfl | rfl | rfl <;> simp <;> exact q _ s2 (strK_dec (by decide +kernel)) (by decide) hs3
    · simp [b_Lword_7]
      refine ⟨st, sc, s1, M0, _, .d (.lst []), [], by simp, rfl, seqF_l, by simp, ne, hs1, by omega, fun z s2 hz _ _ hs2 => ?_⟩
      have kz := strK_nm hz
      have lz := hz.2.1
      simp [b_Lword_6]
      refine ⟨st, sc, s2, M0, _, (z.length : Int) + 1, by simp, rfl, ne, hs2, by omega, by omega, by omega, fun a s3 a0 a1 hs3 => ?_⟩
      simp [b_Lword_5]
      refine ⟨st, sc, s3, M0, _, 12, by simp, rfl, ne, hs3, by omega, by decide, by decide, fun i s4 i0 i1 hs4 => ?_⟩
      have : i = 0 ∨ i = 1 ∨ i = 2 ∨ i = 3 ∨ i = 4 ∨ i = 5 ∨ i = 6 ∨ i = 7 ∨ i = 8 ∨ i = 9 ∨ i = 10 ∨ i = 11 := by omega
      have main : ∀ (g : Str) (De : Ends2), De.rt = Q → strK g → g.length = 1 → wSs g_Lword b_Lword_4 De [some (.c st), some (.d (.int way)), some (.d (.str z)), some (.d (.int a)), some (.d (.str g))] (setS st sc s4 M0) := by
        intro g De hD kg lg
        have c1 := cutS_len z none (some a)
        have c2 := cutS_len z (some a) none
        have c3 := cutS_len z (some (a + 1)) none
        simp [b_Lword_4]
        split
        · simp [b_Lword_2, hD]
          exact ⟨szl (by omega), szl (by rw [Str.length_append]; omega), q _ s4 (strK_app (strK_app (cut_strK kz) kg) (cut_strK kz)) (by rw [Str.length_append, Str.length_append]; omega) (hs4.le (by omega))⟩
        · simp [b_Lword_3, hD]
          split
          · exact ⟨szl (by omega), szl (by rw [Str.length_append]; omega), q _ s4 (strK_app (strK_app (cut_strK kz) kg) (cut_strK kz)) (by rw [Str.length_append, Str.length_append]; omega) (hs4.le (by omega))⟩
          · refine ⟨st, sc, s4, M0, _, 9, rfl, rfl, ne, hs4, by omega, by decide, by decide, fun r s5 r0 r1 hs5 => ?_⟩
            have n9 : (1 + r).toNat ≤ 9 := by omega
            have m1 := Nat.mul_le_mul lz n9
            have m2 := mul_size (z := z) (n := 1 + r) (by omega)
            simp
            exact ⟨by omega, by omega, szl (by omega), q _ s5 (mul_strK kz) (by omega) (hs5.le (by omega))⟩
      rcases this with rfl | rfl | rfl | rfl | rfl | rfl | rfl | rfl | rfl | rfl | rfl | rfl <;> simp <;> exact main _ _ rfl (strK_dec (by decide +kernel)) (by decide)
end Z
set_option maxHeartbeats 8000000
/-! STB: is_name; tables of numbers as dict cells -/
namespace Z
open PySem PySem.Spec PyProof.Rows L2
/-! ### tables -/
abbrev Tb := List (Str × Int)
def kvT (tb : Tb) : List (Key × W) := tb.map fun p => (Sum.inr p.1, W.d (.int p.2))
def valT (tb : Tb) (s : Str) : Int := (tb.lookup s).getD 0
def putT (tb : Tb) (s : Str) (i : Int) : Tb := if (tb.any fun p => decide (p.1 = s)) = true then tb.map (fun p => if p.1 = s then (p.1, i) else p) else tb ++ [(s, i)]
def posT (tb : Tb) : Tb := tb.filter fun p => decide (0 < p.2)
@[simp] theorem getK_kv {tb : Tb} {s : Str} : getK (kvT tb) (Sum.inr s) = (tb.lookup s).map fun i => W.d (.int i) := by
  induction tb with
  | nil => rfl
  | cons p r ih =>
    obtain ⟨t, i⟩ := p
    unfold getK kvT at ih ⊢
    rw [List.map_cons, List.find?_cons, List.lookup_cons]
    by_cases h : t = s
    · subst h; simp
    · have h2 : (s == t) = false := by simpa using fun e : s = t => h e.symm
      have h3 : decide ((Sum.inr t : Key) = Sum.inr s) = false := by simpa using h
      simp only [h3, h2]
      exact ih
@[simp] theorem putD_kv {tb : Tb} {s : Str} {i : Int} : putD (kvT tb) (Sum.inr s) (W.d (.int i)) = kvT (putT tb s i) := by
  have e : ((kvT tb).any fun kv => decide (kv.1 = Sum.inr s)) = tb.any fun p => decide (p.1 = s) := by
    unfold kvT
    rw [List.any_map]
    congr 1
    funext p
    simp
  unfold putD putT
  rw [e]
  split
  · unfold kvT
    rw [List.map_map, List.map_map]
    apply List.map_congr_left
    intro p _
    by_cases h : p.1 = s <;> simp [h]
  · simp [kvT]
@[simp] theorem kvT_nil : kvT [] = [] := rfl
@[simp] theorem kvT_len {tb : Tb} : (kvT tb).length = tb.length := by simp [kvT]
theorem any_look {tb : Tb} {s : Str} : (tb.any fun p => decide (p.1 = s)) = (tb.lookup s).isSome := by
  induction tb with
  | nil => rfl
  | cons p r ih =>
    rw [List.any_cons, List.lookup_cons, ih]
    by_cases h : p.1 = s
    · subst h; simp
    · have h2 : (s == p.1) = false := by simpa using fun e : s = p.1 => h e.symm
      simp [h, h2]
theorem look_put {tb : Tb} {s t : Str} {i : Int} : (putT tb s i).lookup t = if t = s then some i else tb.lookup t := by
  have lm : ∀ (l : Tb), (l.any fun p => decide (p.1 = s)) = true → (l.map fun p => if p.1 = s then (p.1, i) else p).lookup t = if t = s then some i else l.lookup t := by
    intro l
    induction l with
    | nil => intro h; cases h
    | cons p r ih =>
      intro h
      obtain ⟨a, b⟩ := p
      by_cases ha : a = s
      · subst ha
        by_cases ht : t = a
        · subst ht; simp
        · have h2 : (t == a) = false := by simpa using ht
          simp only [List.map_cons, if_true, List.lookup_cons, h2, if_neg ht]
          clear ih h
          induction r with
          | nil => rfl
          | cons q r ih =>
            obtain ⟨x, y⟩ := q
            by_cases hx : x = a
            · subst hx; simp only [List.map_cons, if_true, List.lookup_cons, h2]; exact ih
            · simp only [List.map_cons, if_neg hx, List.lookup_cons]; rw [ih]
      · simp only [List.map_cons, if_neg ha, List.lookup_cons]
        rw [List.any_cons, decide_eq_false ha, Bool.false_or] at h
        rw [ih h]
        by_cases ht : t = s
        · subst ht
          have h2 : (t == a) = false := by simpa using fun e : t = a => ha e.symm
          simp [h2]
        · simp [ht]
  unfold putT
  split
  · exact lm tb ‹_›
  · rename_i h
    have h : (tb.lookup s).isSome = false := by rw [← any_look]; exact Bool.eq_false_iff.mpr h
    have h : tb.lookup s = none := by cases e : tb.lookup s with | none => rfl | some _ => rw [e] at h; cases h
    rw [List.lookup_append]
    by_cases ht : t = s
    · subst ht; simp [h]
    · have h2 : (t == s) = false := by simpa using ht
      rw [if_neg ht, List.lookup_cons, h2, List.lookup_nil, Option.or_none]
theorem keys_put {tb : Tb} {s : Str} {i : Int} : (putT tb s i).map (·.1) = if (tb.lookup s).isSome = true then tb.map (·.1) else tb.map (·.1) ++ [s] := by
  unfold putT
  rw [any_look]
  split
  · rw [List.map_map]
    apply List.map_congr_left
    intro p _
    by_cases h : p.1 = s <;> simp [h]
  · simp
theorem look_none {tb : Tb} {s : Str} : tb.lookup s = none ↔ s ∉ tb.map (·.1) := by
  induction tb with
  | nil => simp
  | cons p r ih =>
    rw [List.lookup_cons, List.map_cons, List.mem_cons]
    by_cases h : s = p.1
    · subst h; simp
    · have h2 : (s == p.1) = false := by simpa using h
      simp [h, h2, ih]
theorem look_mem {tb : Tb} {s : Str} {i : Int} (h : tb.lookup s = some i) : (s, i) ∈ tb := by
  induction tb with
  | nil => cases h
  | cons p r ih =>
    rw [List.lookup_cons] at h
    by_cases e : s = p.1
    · subst e; simp at h; subst h; exact List.mem_cons_self
    · have h2 : (s == p.1) = false := by simpa using e
      rw [h2] at h
      exact List.mem_cons_of_mem _ (ih h)
theorem mem_look {tb : Tb} {s : Str} {i : Int} (n : (tb.map (·.1)).Nodup) (h : (s, i) ∈ tb) : tb.lookup s = some i := by
  induction tb with
  | nil => cases h
  | cons p r ih =>
    rw [List.map_cons, List.nodup_cons] at n
    rw [List.lookup_cons]
    rcases List.mem_cons.mp h with e | e
    · subst e; simp
    · have : s ≠ p.1 := fun e2 => n.1 (by rw [← e2]; exact List.mem_map.mpr ⟨_, e, rfl⟩)
      have h2 : (s == p.1) = false := by simpa using this
      rw [h2]
      exact ih n.2 e
/-- a dict comprehension over texts that changes nothing else -/
def dcT (t : Str → Bool) (f : Str → Int) : Tb → List Str → Tb
  | acc, [] => acc
  | acc, x :: r => dcT t f (if t x = true then putT acc x (f x) else acc) r
theorem putT_len {tb : Tb} {s : Str} {i : Int} : (putT tb s i).length ≤ tb.length + 1 := by unfold putT; split <;> simp
theorem dc_pure {p : Addr} {ok : Mp → Prop} {i : Nat} {tt : TT2} {tk tv : TE2} {σ : St2} {Q : VK2} {M0 : Mp} (P : Str → Prop) (t : Str → Bool) (f : Str → Int) (hok : ∀ acc, ok (put M0 p (.dic none (kvT acc))))
    (ht : ∀ x, P x → ∀ acc K, K (t x) (put M0 p (.dic none (kvT acc))) → tt (σ.set i (some (.d (.str x)))) (put M0 p (.dic none (kvT acc))) K (fun _ _ => False))
    (hk : ∀ x, P x → t x = true → ∀ acc K, K (.d (.str x)) (put M0 p (.dic none (kvT acc))) → tk (σ.set i (some (.d (.str x)))) (put M0 p (.dic none (kvT acc))) K (fun _ _ => False))
    (hv : ∀ x, P x → t x = true → ∀ acc K, K (.d (.int (f x))) (put M0 p (.dic none (kvT acc))) → tv (σ.set i (some (.d (.str x)))) (put M0 p (.dic none (kvT acc))) K (fun _ _ => False)) :
    ∀ (xs : List Str) (acc : Tb), (∀ x ∈ xs, P x) → acc.length + xs.length ≤ 100000 → Q (.c p) (put M0 p (.dic none (kvT (dcT t f acc xs)))) → dcL p ok (wgName i) tt tk tv σ Q (xs.map fun s => W.d (.str s)) (put M0 p (.dic none (kvT acc)))
  | [], acc, _, _, q => ⟨hok acc, q⟩
  | x :: r, acc, hP, hl, q => by
    have hx := hP x List.mem_cons_self
    rw [List.length_cons] at hl
    refine ⟨hok acc, ?_⟩
    refine ht x hx acc _ ?_
    cases e : t x with
    | false =>
      rw [if_neg Bool.false_ne_true]
      refine dc_pure P t f hok ht hk hv r acc (fun y hy => hP y (List.mem_cons_of_mem _ hy)) (by omega) ?_
      rw [dcT, e, if_neg Bool.false_ne_true] at q
      exact q
    | true =>
      rw [if_pos rfl]
      refine hk x hx e acc _ (hv x hx e acc _ ⟨_, put_same, szlt (by rw [kvT_len]; omega), ?_⟩)
      refine ⟨_, rfl, ?_⟩
      show dcL p ok (wgName i) tt tk tv σ Q (r.map fun s => W.d (.str s)) (put (put M0 p (.dic none (kvT acc))) p (.dic none (putD (kvT acc) (Sum.inr x) (W.d (.int (f x))))))
      rw [put_put, putD_kv]
      refine dc_pure P t f hok ht hk hv r _ (fun y hy => hP y (List.mem_cons_of_mem _ hy)) (by have := putT_len (tb := acc) (s := x) (i := f x); omega) ?_
      rw [dcT, e, if_pos rfl] at q
      exact q
theorem dcT_nd {t : Str → Bool} {f : Str → Int} : ∀ (xs : List Str) (acc : Tb), xs.Nodup → (∀ x ∈ xs, acc.lookup x = none) → dcT t f acc xs = acc ++ (xs.filter t).map fun x => (x, f x)
  | [], acc, _, _ => by simp [dcT]
  | x :: r, acc, n, h => by
    rw [List.nodup_cons] at n
    have hx := h x List.mem_cons_self
    rw [dcT]
    cases e : t x with
    | false =>
      rw [if_neg Bool.false_ne_true, dcT_nd r acc n.2 fun y hy => h y (List.mem_cons_of_mem _ hy), List.filter_cons, e, if_neg Bool.false_ne_true]
    | true =>
      have e2 : putT acc x (f x) = acc ++ [(x, f x)] := by
        unfold putT
        rw [any_look, hx]
        rfl
      rw [if_pos rfl, dcT_nd r _ n.2 (fun y hy => ?_), e2, List.filter_cons, e, if_pos rfl]
      · simp
      · rw [look_put, if_neg (fun e3 : y = x => n.1 (e3 ▸ hy))]
        exact h y (List.mem_cons_of_mem _ hy)
theorem valT_mem {tb : Tb} {p : Str × Int} (n : (tb.map (·.1)).Nodup) (h : p ∈ tb) : valT tb p.1 = p.2 := by
  unfold valT; rw [mem_look (i := p.2) n h]; rfl
theorem dcT_pos {tb : Tb} (n : (tb.map (·.1)).Nodup) : dcT (fun s => decide (0 < valT tb s)) (valT tb) [] (tb.map (·.1)) = posT tb := by
  rw [dcT_nd _ _ n fun _ _ => rfl, List.nil_append]
  unfold posT
  have g : ∀ l : Tb, (∀ p ∈ l, valT tb p.1 = p.2) → (((l.map (·.1)).filter fun s => decide (0 < valT tb s)).map fun x => (x, valT tb x)) = l.filter fun p => decide (0 < p.2) := by
    intro l
    induction l with
    | nil => intro _; rfl
    | cons p r ih =>
      intro h
      have hp := h p List.mem_cons_self
      have ih := ih fun q hq => h q (List.mem_cons_of_mem _ hq)
      rw [List.map_cons, List.filter_cons, List.filter_cons, hp]
      by_cases c : 0 < p.2
      · simp only [c, decide_true, if_true, List.map_cons, hp, ih]
      · simp only [c, decide_false, Bool.false_eq_true, if_false, ih]
  exact g tb fun p hp => valT_mem n hp
/-- keys that are names, once each; numbers from 0 on -/
structure TOk (tb : Tb) : Prop where
  nd : (tb.map (·.1)).Nodup
  ok : ∀ p ∈ tb, isNm p.1 = true ∧ 0 ≤ p.2
  ln : tb.length ≤ 1000
theorem mem_put {tb : Tb} {s : Str} {i : Int} {p : Str × Int} (h : p ∈ putT tb s i) : p = (s, i) ∨ p ∈ tb := by
  unfold putT at h
  split at h
  · obtain ⟨q, hq, e⟩ := List.mem_map.mp h
    by_cases c : q.1 = s
    · rw [if_pos c] at e; left; rw [← e, c]
    · rw [if_neg c] at e; right; rw [← e]; exact hq
  · rcases List.mem_append.mp h with h | h
    · exact .inr h
    · exact .inl (List.mem_singleton.mp h)
theorem TOk.put {tb : Tb} {s : Str} {i : Int} (t : TOk tb) (hs : isNm s = true) (hi : 0 ≤ i) (hl : (putT tb s i).length ≤ 1000) : TOk (putT tb s i) := by
  refine ⟨?_, fun p hp => ?_, hl⟩
  · rw [keys_put]
    split
    · exact t.nd
    · rename_i h
      have h : tb.lookup s = none := by cases e : tb.lookup s with | none => rfl | some _ => rw [e] at h; exact absurd rfl h
      rw [List.nodup_append]
      refine ⟨t.nd, by simp, fun a ha b hb e => ?_⟩
      have hb := List.mem_singleton.mp hb
      subst hb; subst e
      exact look_none.mp h ha
  · rcases mem_put hp with rfl | h
    · exact ⟨hs, hi⟩
    · exact t.ok p h
theorem perm_strs {es : List D} {ns : List Str} (h : es.Perm (ns.map D.str)) : ∃ ms : List Str, es = ms.map D.str ∧ ms.Perm ns := by
  let f : D → Option Str := fun d => match d with | .str s => some s | _ => none
  have e1 : (ns.map D.str).filterMap f = ns := by
    rw [List.filterMap_map]
    show ns.filterMap (fun x => some x) = ns
    exact List.filterMap_some
  have e2 : ∀ l : List D, (∀ d ∈ l, ∃ s, d = .str s) → l = (l.filterMap f).map D.str := by
    intro l
    induction l with
    | nil => intro _; rfl
    | cons d r ih =>
      intro h
      obtain ⟨s, rfl⟩ := h d List.mem_cons_self
      have e3 : (D.str s :: r).filterMap f = s :: r.filterMap f := List.filterMap_cons_some rfl
      rw [e3, List.map_cons, ← ih fun x hx => h x (List.mem_cons_of_mem _ hx)]
  refine ⟨es.filterMap f, e2 es fun d hd => ?_, ?_⟩
  · obtain ⟨s, _, e⟩ := List.mem_map.mp (h.mem_iff.mp hd)
    exact ⟨s, e.symm⟩
  · have := h.filterMap f
    rw [e1] at this
    exact this
/-- a stock with the table tb -/
def stk (M : Mp) (p : Addr) (tb : Tb) : Prop := ∃ dx q, M p = some (.ins 0 dx [("table", .c q)]) ∧ M q = some (.dic none (kvT tb))
def eqS (ta tb : Tb) : Bool := decide (ta.length = tb.length) && ta.all fun p => decide (tb.lookup p.1 = some p.2)
def leS (ta tb : Tb) : Bool := (ta.map (·.1)).all fun s => decide (valT ta s ≤ valT tb s)
theorem nm_len {s : Str} (h : isNm s = true) : s.length ≤ sizeLine := by
  unfold isNm at h
  simp at h
  exact szl (by omega)
theorem mem_kvT {tb : Tb} {a : Key} {b : W} : (a, b) ∈ kvT tb ↔ ∃ p ∈ tb, a = Sum.inr p.1 ∧ b = .d (.int p.2) := by
  unfold kvT
  rw [List.mem_map]
  constructor
  · rintro ⟨p, h, e⟩; cases e; exact ⟨p, h, rfl, rfl⟩
  · rintro ⟨p, h, rfl, rfl⟩; exact ⟨p, h, rfl⟩
theorem kvT_keys {tb : Tb} : (kvT tb).map (fun p => W.d (keyD p.1)) = (tb.map (·.1)).map fun s => W.d (.str s) := by
  unfold kvT; rw [List.map_map, List.map_map]; rfl
theorem put_back {M : Mp} {q : Addr} {c d : Cl} (h : M q = some c) : put (put M q d) q c = M := by
  rw [put_put]
  funext a
  by_cases e : a = q
  · subst e; rw [put_same, h]
  · rw [put_ne e]
theorem TOk.keyOk {tb : Tb} (t : TOk tb) : ∀ a b, (a, b) ∈ kvT tb → keyOk a := by
  intro a b h
  obtain ⟨p, hp, rfl, rfl⟩ := mem_kvT.mp h
  exact nm_len (t.ok p hp).1
theorem mem_key {tb : Tb} {s : Str} (h : s ∈ tb.map (·.1)) : ∃ i, tb.lookup s = some i := by
  cases e : tb.lookup s with
  | none => exact absurd h (look_none.mp e)
  | some i => exact ⟨i, rfl⟩
theorem put_id {M : Mp} {q : Addr} {c : Cl} (h : M q = some c) : put M q c = M := by
  funext a
  by_cases e : a = q
  · subst e; rw [put_same, h]
  · rw [put_ne e]
theorem ne_of {M : Mp} {a b : Addr} {c : Cl} (ha : M a = none) (hb : M b = some c) : b ≠ a := fun e => by subst e; rw [ha] at hb; cases hb
theorem kdW_i {M : Mp} {p dx : Addr} {c : Nat} {fs : List (Str × W)} (h : M p = some (.ins c dx fs)) : kdW M (.c p) = some (.cl c) := by
  unfold kdW insW
  simp [h]
@[simp] theorem lk_cl : List.lookup (Kd.cl 0) [(Kd.cl 0, true), (Kd.ty "dict", false), (Kd.ty "int", false)] = some true := by decide
@[simp] theorem lk_dict : List.lookup (Kd.ty "dict") [(Kd.cl 0, true), (Kd.ty "dict", false), (Kd.ty "int", false)] = some false := by decide
@[simp] theorem lk_int : List.lookup (Kd.ty "int") [(Kd.cl 0, true), (Kd.ty "dict", false), (Kd.ty "int", false)] = some false := by decide
theorem hits_kv {ta tb : Tb} : hitsI (kvT tb) (kvT ta) = some (ta.all fun p => decide (tb.lookup p.1 = some p.2)) := by
  induction ta with
  | nil => rfl
  | cons p r ih =>
    have e : hitsI (kvT tb) (kvT (p :: r)) = (match getK (kvT tb) (Sum.inr p.1) with
      | none => some false
      | some w' => hitsI (kvT tb) (kvT (p :: r))) := by
      show hitsI (kvT tb) ((Sum.inr p.1, W.d (.int p.2)) :: kvT r) = _
      cases h : getK (kvT tb) (Sum.inr p.1) with
      | none => simp only [hitsI, h]
      | some w' => rfl
    cases el : tb.lookup p.1 with
    | none => rw [e, getK_kv, el, List.all_cons, el]; simp
    | some i =>
      have h : getK (kvT tb) (Sum.inr p.1) = some (W.d (.int i)) := by rw [getK_kv, el]; rfl
      show hitsI (kvT tb) ((Sum.inr p.1, W.d (.int p.2)) :: kvT r) = _
      simp only [hitsI, h, ih]
      rw [List.all_cons, el]
      simp [eq_comm]
theorem seqW_mono {M M' : Mp} (e : ∀ a c, M a = some c → M' a = some c) {w : W} {ws : List W} (h : seqW M w = some ws) : seqW M' w = some ws := by
  cases w with
  | c a =>
    have h : itemsC (M a) = some ws := h
    show itemsC (M' a) = some ws
    cases hM : M a with
    | none => rw [hM] at h; cases h
    | some c => rw [e _ _ hM, ← hM]; exact h
  | _ => exact h
theorem seqW_ext {M : Mp} {p : Addr} {c : Cl} {w : W} {ws : List W} (h : seqW M w = some ws) (hp : M p = none) : seqW (put M p c) w = some ws := seqW_mono (drop_put hp) h
theorem stk_in {M : Mp} {p : Addr} {tb : Tb} (h : stk M p tb) : ∃ fs, insC (M p) = some (0, fs) := by
  obtain ⟨dx, q, hp, hq⟩ := h
  exact ⟨_, by rw [hp]; rfl⟩
theorem stk_new {M : Mp} {p x : Addr} {tb : Tb} {c : Cl} (h : stk M x tb) (e : M p = none) : stk (put M p c) x tb := by
  obtain ⟨dx, q, h1, h2⟩ := h
  exact ⟨dx, q, by rw [put_ne (ne_of e h1), h1], by rw [put_ne (ne_of e h2), h2]⟩
end Z
set_option maxHeartbeats 8000000
/-! P24: what ==, <= of stocks say -/
namespace Z
open PySem PySem.Spec PyProof.Rows L2
theorem pairs_kv {tb : Tb} : pairsD (kvT tb) = some (tb.map fun p => (Sum.inr p.1, D.int p.2)) := by
  induction tb with
  | nil => rfl
  | cons p r ih =>
    show (pairsD (kvT r)).map (fun l => (Sum.inr p.1, D.int p.2) :: l) = _
    rw [ih]; rfl
theorem keysOf_kv {tb : Tb} : keysOf (tb.map fun p => D.tup [.str p.1, .int p.2]) = some (tb.map fun p => (Sum.inr p.1, D.int p.2)) := by
  induction tb with
  | nil => rfl
  | cons p r ih =>
    show (keysOf (r.map fun p => D.tup [.str p.1, .int p.2])).map (fun l => (Sum.inr p.1, D.int p.2) :: l) = _
    rw [ih]; rfl
theorem merge_kv : ∀ (r acc : Tb), (r.map (·.1)).Nodup → (∀ x ∈ r.map (·.1), acc.lookup x = none) → mergeD (kvT acc) (kvT r) = kvT (acc ++ r)
  | [], acc, _, _ => by rw [List.append_nil]; rfl
  | p :: r, acc, n, h => by
    rw [List.map_cons, List.nodup_cons] at n
    show mergeD (putD (kvT acc) (Sum.inr p.1) (W.d (.int p.2))) (kvT r) = _
    have hp := h p.1 (by simp)
    have e2 : putT acc p.1 p.2 = acc ++ [p] := by
      unfold putT
      rw [any_look, hp]
      rfl
    rw [putD_kv, merge_kv r _ n.2 (fun y hy => ?_), e2, List.append_assoc]
    · rfl
    · rw [look_put, if_neg (fun e3 : y = p.1 => n.1 (e3 ▸ hy))]
      exact h y (by rw [List.map_cons]; exact List.mem_cons_of_mem _ hy)
theorem perm_map_ex {α β : Type} (f : α → β) {es m : List β} (h : m.Perm es) : ∀ {l : List α}, m = l.map f → ∃ l' : List α, es = l'.map f ∧ l'.Perm l := by
  induction h with
  | nil => intro l e; cases l with | nil => exact ⟨[], rfl, List.Perm.refl _⟩ | cons _ _ => cases e
  | cons x _ ih =>
    intro l e
    cases l with
    | nil => cases e
    | cons a l =>
      rw [List.map_cons] at e
      injection e with e1 e2
      obtain ⟨l', rfl, h⟩ := ih e2
      exact ⟨a :: l', by rw [List.map_cons, e1], h.cons a⟩
  | swap x y r =>
    intro l e
    cases l with
    | nil => cases e
    | cons a l => cases l with
      | nil => cases e
      | cons b l =>
        rw [List.map_cons, List.map_cons] at e
        injection e with e1 e2
        injection e2 with e2 e3
        exact ⟨b :: a :: l, by rw [List.map_cons, List.map_cons, e1, e2, e3], List.Perm.swap _ _ _⟩
  | trans _ _ ih1 ih2 =>
    intro l e
    obtain ⟨l1, e1, h1⟩ := ih1 e
    obtain ⟨l2, e2, h2⟩ := ih2 e1
    exact ⟨l2, e2, h2.trans h1⟩
theorem TOk.perm {tb tc : Tb} (t : TOk tb) (h : tc.Perm tb) : TOk tc := ⟨(h.map _).nodup_iff.mpr t.nd, fun p hp => t.ok p (h.mem_iff.mp hp), by rw [h.length_eq]; exact t.ln⟩
theorem TOk.pos {tb : Tb} (t : TOk tb) : TOk (posT tb) := ⟨(List.filter_sublist.map _).nodup t.nd, fun p hp => t.ok p (List.mem_filter.mp hp).1, Nat.le_trans (List.length_filter_le _ _) t.ln⟩
theorem valT_some {tb : Tb} {s : Str} {i : Int} (h : tb.lookup s = some i) : valT tb s = i := by unfold valT; rw [h]; rfl
theorem valT_none {tb : Tb} {s : Str} (h : tb.lookup s = none) : valT tb s = 0 := by unfold valT; rw [h]; rfl
theorem TOk.val {tb : Tb} (t : TOk tb) (s : Str) : 0 ≤ valT tb s := by
  cases e : tb.lookup s with
  | none => rw [valT_none e]; omega
  | some i => rw [valT_some e]; exact (t.ok _ (look_mem e)).2
theorem look_pos {tb : Tb} (t : TOk tb) (s : Str) : (posT tb).lookup s = if 0 < valT tb s then some (valT tb s) else none := by
  split
  · rename_i h
    refine mem_look t.pos.nd (List.mem_filter.mpr ⟨?_, by simpa using h⟩)
    cases e : tb.lookup s with
    | none => rw [valT_none e] at h; omega
    | some i => rw [valT_some e]; exact look_mem e
  · rename_i h
    cases e : (posT tb).lookup s with
    | none => rfl
    | some i =>
      have m := List.mem_filter.mp (look_mem e)
      rw [valT_some (mem_look t.nd m.1)] at h
      have := m.2
      simp at this
      omega
theorem val_pos {tb : Tb} (t : TOk tb) (s : Str) : valT (posT tb) s = valT tb s := by
  have := t.val s
  by_cases h : 0 < valT tb s
  · exact valT_some (by rw [look_pos t, if_pos h])
  · rw [valT_none (by rw [look_pos t, if_neg h])]; omega
theorem key_look {tb : Tb} {s : Str} : s ∈ tb.map (·.1) ↔ tb.lookup s ≠ none := by
  rw [Ne, look_none, Classical.not_not]
theorem key_pos {tb : Tb} (t : TOk tb) (s : Str) : s ∈ (posT tb).map (·.1) ↔ 0 < valT tb s := by
  rw [key_look, look_pos t]
  split <;> simp [*]
theorem nd_len {l1 : List Str} : ∀ {l2 : List Str}, l1.Nodup → (∀ x ∈ l1, x ∈ l2) → l1.length ≤ l2.length := by
  induction l1 with
  | nil => intro _ _ _; exact Nat.zero_le _
  | cons x r ih =>
    intro l2 n h
    rw [List.nodup_cons] at n
    have hx := h x List.mem_cons_self
    have := ih (l2 := l2.erase x) n.2 fun y hy => (List.mem_erase_of_ne (fun e : y = x => n.1 (e ▸ hy))).mpr (h y (List.mem_cons_of_mem _ hy))
    rw [List.length_erase_of_mem hx] at this
    have := List.length_pos_of_mem hx
    simp
    omega
theorem plain_le {A B : Tb} (a : TOk A) (b : TOk B) {ns : List Str} (h : ∀ x ∈ A, x.1 ∈ ns) : leS (posT A) (posT B) = ns.all fun w => decide (valT A w ≤ valT B w) := by
  rw [Bool.eq_iff_iff]
  unfold leS
  rw [List.all_eq_true, List.all_eq_true]
  constructor
  · intro k w _
    by_cases c : w ∈ (posT A).map (·.1)
    · have := k w c
      rw [val_pos a, val_pos b] at this
      exact this
    · rw [key_pos a] at c
      have := b.val w
      simp
      omega
  · intro k w hw
    rw [val_pos a, val_pos b]
    refine k w ?_
    obtain ⟨p, hp, rfl⟩ := List.mem_map.mp hw
    exact h p (List.mem_filter.mp hp).1
theorem plain_eq {A B : Tb} (a : TOk A) (b : TOk B) {ns : List Str} (h : ∀ x ∈ A, x.1 ∈ ns) (h2 : ∀ x ∈ B, x.1 ∈ ns) : eqS (posT A) (posT B) = ns.all fun w => decide (valT A w = valT B w) := by
  rw [Bool.eq_iff_iff]
  unfold eqS
  rw [Bool.and_eq_true, List.all_eq_true, List.all_eq_true, decide_eq_true_eq]
  have sub : ∀ {C : Tb} (s : Str), (∀ x ∈ C, x.1 ∈ ns) → s ∈ (posT C).map (·.1) → s ∈ ns := by
    intro C s h hs
    obtain ⟨p, hp, rfl⟩ := List.mem_map.mp hs
    exact h p (List.mem_filter.mp hp).1
  constructor
  · rintro ⟨hl, k⟩ w _
    have k2 : ∀ s, 0 < valT A s → valT B s = valT A s := by
      intro s hs
      have m := look_mem (tb := posT A) (s := s) (i := valT A s) (by rw [look_pos a, if_pos hs])
      have := k _ m
      rw [decide_eq_true_eq] at this
      rw [← val_pos b]
      exact valT_some this
    rw [decide_eq_true_eq]
    by_cases c : 0 < valT A w
    · exact (k2 w c).symm
    · have p1 := a.val w
      have p2 := b.val w
      by_cases d : 0 < valT B w
      · exfalso
        have := nd_len (l1 := w :: (posT A).map (·.1)) (l2 := (posT B).map (·.1)) (by rw [List.nodup_cons, key_pos a]; exact ⟨c, a.pos.nd⟩) fun x hx => by
          rcases List.mem_cons.mp hx with rfl | hx
          · exact (key_pos b _).mpr d
          · rw [key_pos a] at hx
            rw [key_pos b, k2 x hx]; exact hx
        simp at this
        omega
      · omega
  · intro k
    have kk : ∀ w ∈ ns, valT A w = valT B w := fun w hw => by have := k w hw; rw [decide_eq_true_eq] at this; exact this
    have e1 : ∀ x ∈ (posT A).map (·.1), x ∈ (posT B).map (·.1) := fun x hx => by
      have := kk x (sub x h hx)
      rw [key_pos a] at hx
      rw [key_pos b, ← this]; exact hx
    have e2 : ∀ x ∈ (posT B).map (·.1), x ∈ (posT A).map (·.1) := fun x hx => by
      have := kk x (sub x h2 hx)
      rw [key_pos b] at hx
      rw [key_pos a, this]; exact hx
    refine ⟨?_, fun p hp => ?_⟩
    · have l1 := nd_len a.pos.nd e1
      have l2 := nd_len b.pos.nd e2
      rw [List.length_map, List.length_map] at l1 l2
      omega
    · rw [decide_eq_true_eq]
      have hx : p.1 ∈ (posT A).map (·.1) := List.mem_map.mpr ⟨p, hp, rfl⟩
      have v : valT A p.1 = p.2 := valT_mem a.nd (List.mem_filter.mp hp).1
      have := kk p.1 (sub _ h hx)
      rw [key_pos a] at hx
      rw [look_pos b, ← this, if_pos hx, v]
/-- a number that is set counts -/
theorem set_le {A : Tb} (a : TOk A) (n : Str) : leS (putT (posT A) n (valT A n + 5)) (posT A) = false := by
  rw [Bool.eq_false_iff]
  intro h
  unfold leS at h
  rw [List.all_eq_true] at h
  have e : (putT (posT A) n (valT A n + 5)).lookup n = some (valT A n + 5) := by rw [look_put, if_pos rfl]
  have := h n (key_look.mpr (by rw [e]; simp))
  rw [valT_some e, val_pos a, decide_eq_true_eq] at this
  omega
theorem set_ge {A : Tb} (a : TOk A) (n : Str) : leS (posT A) (putT (posT A) n (valT A n + 5)) = true := by
  unfold leS
  rw [List.all_eq_true]
  intro s _
  rw [decide_eq_true_eq, val_pos a]
  by_cases c : s = n
  · subst c
    have e : (putT (posT A) s (valT A s + 5)).lookup s = some (valT A s + 5) := by rw [look_put, if_pos rfl]
    rw [valT_some e]
    omega
  · have : valT (putT (posT A) n (valT A n + 5)) s = valT (posT A) s := by unfold valT; rw [look_put, if_neg c]
    rw [this, val_pos a]
    omega
theorem set_eq {A : Tb} (a : TOk A) (n : Str) : eqS (putT (posT A) n (valT A n + 5)) (posT A) = false := by
  rw [Bool.eq_false_iff]
  intro h
  unfold eqS at h
  rw [Bool.and_eq_true, List.all_eq_true] at h
  have e : (putT (posT A) n (valT A n + 5)).lookup n = some (valT A n + 5) := by rw [look_put, if_pos rfl]
  have := h.2 _ (look_mem e)
  rw [decide_eq_true_eq, look_pos a] at this
  split at this
  · injection this with this
    have this : valT A n = valT A n + 5 := this
    omega
  · cases this
def stkA (M : Mp) (p dx q : Addr) (tb : Tb) : Prop := M p = some (.ins 0 dx [("table", .c q)]) ∧ M q = some (.dic none (kvT tb))
theorem stkA.s {M : Mp} {p dx q : Addr} {tb : Tb} (h : stkA M p dx q tb) : stk M p tb := ⟨dx, q, h.1, h.2⟩
theorem stkA.ext {M M' : Mp} {x dx q : Addr} {tb : Tb} (h : stkA M x dx q tb) (e : ∀ a c, M a = some c → M' a = some c) : stkA M' x dx q tb := ⟨e _ _ h.1, e _ _ h.2⟩
theorem stkA.put {M : Mp} {x mp dx q : Addr} {tb : Tb} {a b : List W} (h : stkA M x dx q tb) (e : M mp = some (.lst a)) : stkA (put M mp (.lst b)) x dx q tb := by
  obtain ⟨h1, h2⟩ := h
  have e1 : x ≠ mp := fun z => by subst z; rw [e] at h1; cases h1
  have e2 : q ≠ mp := fun z => by subst z; rw [e] at h2; cases h2
  exact ⟨by rw [put_ne e1, h1], by rw [put_ne e2, h2]⟩
theorem stk_ext {M M' : Mp} {x : Addr} {tb : Tb} (h : stk M x tb) (e : ∀ a c, M a = some c → M' a = some c) : stk M' x tb := by
  obtain ⟨dx, q, h1, h2⟩ := h
  exact ⟨dx, q, e _ _ h1, e _ _ h2⟩
theorem stk_put {M : Mp} {x mp : Addr} {tb : Tb} {a b : List W} (h : stk M x tb) (e : M mp = some (.lst a)) : stk (put M mp (.lst b)) x tb := by
  obtain ⟨dx, q, h1, h2⟩ := h
  have e1 : x ≠ mp := fun z => by subst z; rw [e] at h1; cases h1
  have e2 : q ≠ mp := fun z => by subst z; rw [e] at h2; cases h2
  exact ⟨dx, q, by rw [put_ne e1, h1], by rw [put_ne e2, h2]⟩
end Z
set_option maxHeartbeats 8000000
/-! STK: stocks, where nothing is raised -/
namespace Z
open PySem PySem.Spec PyProof.Rows L2
def b_check_numbers_0 : Ss := .cons (.dead) .nil
def b_check_numbers_1 : Ss := .cons (.iff (.not (.call 0 (.cons (.var 1) .nil))) b_check_numbers_0 .nil) .nil
def b_check_numbers_2 : Ss := .cons (.dead) .nil
def b_check_numbers_3 : Ss := .cons (.iff (.cmp .lt (.ext (.dget) (.cons (.var 0) (.cons (.var 1) .nil))) (.cst (.int 0))) b_check_numbers_2 .nil) .nil
def b_check_numbers_4 : Ss := .cons (.lock 0 none (.for (.name 1) (.keys (.var 0)) b_check_numbers_3)) .nil
def b_check_numbers_5 : Ss := .cons (.lock 0 none (.for (.name 1) (.keys (.var 0)) b_check_numbers_1)) b_check_numbers_4
def b_check_numbers : Ss := b_check_numbers_5
def b_Stock_init_0 : Ss := .cons (.setf "table" (.var 0) (.ext (.lock 1 none) (.cons (.dc (.keys (.var 1)) 2 (.cons (.cmp .gt (.ext (.dget) (.cons (.var 1) (.cons (.var 2) .nil))) (.cst (.int 0))) .nil) (.var 2) (.ext (.dget) (.cons (.var 1) (.cons (.var 2) .nil)))) .nil))) .nil
def b_Stock_init_1 : Ss := .cons (.ex (.call 0 (.cons (.var 1) .nil))) b_Stock_init_0
def b_Stock_init_2 : Ss := .cons (.iff (.cmp .isn (.var 1) (.cst .non)) b_Stock_init_1 .nil) .nil
def b_Stock_init_3 : Ss := .cons (.setf "table" (.var 0) (.ext .dnew .nil)) b_Stock_init_2
def b_Stock_init : Ss := b_Stock_init_3
def b_Stock_setitem_0 : Ss := .cons (.dead) .nil
def b_Stock_setitem_1 : Ss := .cons (.dead) .nil
def b_Stock_setitem_2 : Ss := .cons (.dput (.fld "table" (.var 0)) (.var 1) (.var 2)) .nil
def b_Stock_setitem_3 : Ss := .cons (.ddel (.fld "table" (.var 0)) (.var 1)) .nil
def b_Stock_setitem_4 : Ss := .cons (.iff (.ext (.cmpx (.din false)) (.cons (.var 1) (.cons (.fld "table" (.var 0)) .nil))) b_Stock_setitem_3 .nil) .nil
def b_Stock_setitem_5 : Ss := .cons (.iff (.cmp .gt (.var 2) (.cst (.int 0))) b_Stock_setitem_2 b_Stock_setitem_4) .nil
def b_Stock_setitem_6 : Ss := .cons (.iff (.cmp .lt (.var 2) (.cst (.int 0))) b_Stock_setitem_1 .nil) b_Stock_setitem_5
def b_Stock_setitem_7 : Ss := .cons (.iff (.not (.call 0 (.cons (.var 1) .nil))) b_Stock_setitem_0 .nil) b_Stock_setitem_6
def b_Stock_setitem : Ss := b_Stock_setitem_7
def b_Stock_eq_0 : Ss := .cons (.ret (.and (.ext (.isc 0 "Stock") (.cons (.var 1) .nil)) (.cons (.ext (.cmpx (.deq false)) (.cons (.fld "table" (.var 0)) (.cons (.fld "table" (.var 1)) .nil))) .nil))) .nil
def b_Stock_eq : Ss := b_Stock_eq_0
def b_Stock_le_0 : Ss := .cons (.dead) .nil
def b_Stock_le_1 : Ss := .cons (.ret (.blt .all (.cons (.ext (.lock 0 (some "table")) (.cons (.lc false (.keys (.fld "table" (.var 0))) 2 .nil (.cmp .le (.ext (.dget) (.cons (.fld "table" (.var 0)) (.cons (.var 2) .nil))) (.ext (.dgt2) (.cons (.fld "table" (.var 1)) (.cons (.var 2) (.cons (.cst (.int 0)) .nil)))))) .nil)) .nil))) .nil
def b_Stock_le_2 : Ss := .cons (.iff (.not (.ext (.isc 0 "Stock") (.cons (.var 1) .nil))) b_Stock_le_0 .nil) b_Stock_le_1
def b_Stock_le : Ss := b_Stock_le_2

def spCheck : Sp2 := fun ws M Q _ => ∃ q tb, ws = [.c q] ∧ M q = some (.dic none (kvT tb)) ∧ TOk tb ∧ Q (.d .none) M
def spSInit : Sp2 := fun ws M Q _ => ∃ p dx q tb, ws = [.c p, .c q] ∧ M p = some (.ins 0 dx []) ∧ M q = some (.dic none (kvT tb)) ∧ TOk tb ∧ ∀ r, M r = none → Q (.d .none) (put (put M r (.dic none (kvT (posT tb)))) p (.ins 0 dx [("table", .c r)]))
def spSset : Sp2 := fun ws M Q _ => ∃ p dx q tb s i, ws = [.c p, .d (.str s), .d (.int i)] ∧ M p = some (.ins 0 dx [("table", .c q)]) ∧ M q = some (.dic none (kvT tb)) ∧ isNm s = true ∧ 0 < i ∧ tb.length ≤ 1000 ∧ Q (.d .none) (put M q (.dic none (kvT (putT tb s i))))
def spSeq : Sp2 := fun ws M Q _ => ∃ p ta y, ws = [.c p, y] ∧ stk M p ta ∧ ((∃ p2 tb, y = .c p2 ∧ stk M p2 tb ∧ Q (.d (.bool (eqS ta tb))) M) ∨ ((kdW M y = some (.ty "dict") ∨ kdW M y = some (.ty "int")) ∧ Q (.d (.bool false)) M))
def spSle : Sp2 := fun ws M Q _ => ∃ p p2 ta tb, ws = [.c p, .c p2] ∧ stk M p ta ∧ stk M p2 tb ∧ ta.length ≤ 1000 ∧ (∀ x ∈ ta, isNm x.1 = true) ∧ Q (.d (.bool (leS ta tb))) M
def g_check_numbers : Env2 := ⟨[⟨"is_name", spIsName, []⟩], [], noO⟩
@[simp] theorem gf_check_numbers : g_check_numbers.f = ([⟨"is_name", spIsName, []⟩] : List Cal) := rfl
def g_Stock_init : Env2 := ⟨[⟨"check_numbers", spCheck, []⟩], [], ⟨[("table", 0)], [], [], [], [], [], [], [], []⟩⟩
@[simp] theorem gf_Stock_init : g_Stock_init.f = ([⟨"check_numbers", spCheck, []⟩] : List Cal) := rfl
@[simp] theorem goa_Stock_init : g_Stock_init.o.a = ([("table", 0)] : List (Str × Nat)) := rfl
def g_Stock_setitem : Env2 := ⟨[⟨"is_name", spIsName, []⟩], [], ⟨[("table", 0)], [], [], [], [], [], [], [], []⟩⟩
@[simp] theorem gf_Stock_setitem : g_Stock_setitem.f = ([⟨"is_name", spIsName, []⟩] : List Cal) := rfl
@[simp] theorem goa_Stock_setitem : g_Stock_setitem.o.a = ([("table", 0)] : List (Str × Nat)) := rfl
def g_Stock_eq : Env2 := ⟨[], [], ⟨[("table", 0)], [], [], [], [], [⟨"Stock", 0, [(.cl 0, true), (.ty "dict", false), (.ty "int", false)]⟩], [], [], []⟩⟩
@[simp] theorem goa_Stock_eq : g_Stock_eq.o.a = ([("table", 0)] : List (Str × Nat)) := rfl
@[simp] theorem goi_Stock_eq : g_Stock_eq.o.i = ([⟨"Stock", 0, [(.cl 0, true), (.ty "dict", false), (.ty "int", false)]⟩] : List Isc) := rfl
def g_Stock_le : Env2 := ⟨[], [], ⟨[("table", 0)], [], [], [], [], [⟨"Stock", 0, [(.cl 0, true), (.ty "dict", false), (.ty "int", false)]⟩], [], [], []⟩⟩
@[simp] theorem goa_Stock_le : g_Stock_le.o.a = ([("table", 0)] : List (Str × Nat)) := rfl
@[simp] theorem goi_Stock_le : g_Stock_le.o.i = ([⟨"Stock", 0, [(.cl 0, true), (.ty "dict", false), (.ty "int", false)]⟩] : List Isc) := rfl


theorem check_ok : Ok g_check_numbers 2 b_check_numbers spCheck := by
  rintro ws M Q E ⟨q, tb, rfl, hq, ht, qq⟩
  simp [b_check_numbers, b_check_numbers_5, hq, rdA]
  intro o l
  refine ⟨ht.keyOk, ?_⟩
  rw [kvT_keys]
  refine for_run (fun r σ M' => (∃ xs : List Str, r = xs.map (fun s => W.d (.str s)) ∧ ∀ x ∈ xs, x ∈ tb.map (·.1)) ∧ (∃ v, σ = [some (.c q), v]) ∧ M' = put M q (.dic (some (o, l)) (kvT tb))) ?_ ?_ _ _ _ ⟨⟨_, rfl, fun x h => h⟩, ⟨_, rfl⟩, rfl⟩
  · rintro w r σ M' K ⟨⟨xs, e, hx⟩, ⟨v, rfl⟩, rfl⟩ hK
    cases xs with
    | nil => cases e
    | cons x xs =>
      cases e
      obtain ⟨i, hi⟩ := mem_key (hx x List.mem_cons_self)
      have hn : isNm x = true := (ht.ok _ (look_mem hi)).1
      simp [b_check_numbers_1, hn]
      exact hK _ _ ⟨⟨xs, rfl, fun y hy => hx y (List.mem_cons_of_mem _ hy)⟩, ⟨_, rfl⟩, rfl⟩
  · rintro σ M' ⟨⟨xs, e, hx⟩, ⟨v, rfl⟩, rfl⟩
    refine ⟨put_same, put_same, ?_⟩
    rw [put_back hq]
    simp [b_check_numbers_4, hq, rdA]
    intro o l
    refine ⟨ht.keyOk, ?_⟩
    rw [kvT_keys]
    refine for_run (fun r σ M' => (∃ xs : List Str, r = xs.map (fun s => W.d (.str s)) ∧ ∀ x ∈ xs, x ∈ tb.map (·.1)) ∧ (∃ v, σ = [some (.c q), v]) ∧ M' = put M q (.dic (some (o, l)) (kvT tb))) ?_ ?_ _ _ _ ⟨⟨_, rfl, fun x h => h⟩, ⟨_, rfl⟩, rfl⟩
    · rintro w r σ M' K ⟨⟨xs, e, hx⟩, ⟨v, rfl⟩, rfl⟩ hK
      cases xs with
      | nil => cases e
      | cons x xs =>
        cases e
        obtain ⟨i, hi⟩ := mem_key (hx x List.mem_cons_self)
        have hn : ¬ i < 0 := by have := (ht.ok _ (look_mem hi)).2; omega
        simp [b_check_numbers_3, hn, hi]
        exact hK _ _ ⟨⟨xs, rfl, fun y hy => hx y (List.mem_cons_of_mem _ hy)⟩, ⟨_, rfl⟩, rfl⟩
    · rintro σ M' ⟨⟨xs, e, hx⟩, ⟨v, rfl⟩, rfl⟩
      refine ⟨put_same, put_same, ?_⟩
      rw [put_back hq]
      simpa using qq
@[simp] theorem spCheck_x {q : Addr} {M : Mp} {Q : VK2} {E : XK2} {tb : Tb} (h : M q = some (.dic none (kvT tb))) (t : TOk tb) (k : Q (.d .none) M) : spCheck [.c q] M Q E := ⟨q, tb, rfl, h, t, k⟩
theorem Sinit_ok : OkD g_Stock_init 3 b_Stock_init spSInit := by
  rintro ws M Q E ⟨p, dx, q, tb, rfl, hp, hq, ht, k⟩
  simp [b_Stock_init, b_Stock_init_3, hp]
  intro q0 h0
  have e1 := ne_of h0 hp
  have e2 := ne_of h0 hq
  have e3 : q ≠ p := fun e => by subst e; rw [hq] at hp; cases hp
  have h0p : put M q0 (.dic none []) p = some (.ins 0 dx []) := by rw [put_ne e1, hp]
  simp [h0p, b_Stock_init_2, b_Stock_init_1, putW]
  refine spCheck_x (by rw [put_ne e3, put_ne e2, hq]) ht ?_
  have hq2 : put (put M q0 (.dic none [])) p (.ins 0 dx [("table", .c q0)]) q = some (.dic none (kvT tb)) := by rw [put_ne e3, put_ne e2, hq]
  have hp2 : put (put M q0 (.dic none [])) p (.ins 0 dx [("table", .c q0)]) p = some (.ins 0 dx [("table", .c q0)]) := put_same
  have hn : ∀ r, put (put M q0 (.dic none [])) p (.ins 0 dx [("table", .c q0)]) r = none → M r = none ∧ r ≠ p ∧ r ≠ q0 := by
    intro r h
    have h1 : r ≠ p := fun e => by rw [e, put_same] at h; cases h
    rw [put_ne h1] at h
    have h2 : r ≠ q0 := fun e => by rw [e, put_same] at h; cases h
    rw [put_ne h2] at h
    exact ⟨h, h1, h2⟩
  have hx : ∀ a x, a ≠ p → M a = some x → put (put M q0 (.dic none [])) p (.ins 0 dx [("table", .c q0)]) a = some x := fun a x h1 h => by rw [put_ne h1, put_ne (ne_of h0 h), h]
  simp [b_Stock_init_0, rdA, hq2]
  generalize put (put M q0 (.dic none [])) p (.ins 0 dx [("table", .c q0)]) = M1 at hq2 hp2 hn hx
  intro o l
  refine ⟨ht.keyOk, fun r hr => ?_⟩
  have hq3 : put M1 q (.dic (some (o, l)) (kvT tb)) q = some (.dic (some (o, l)) (kvT tb)) := put_same
  have rq := ne_of hr hq3
  have hr1 : M1 r = none := by rw [put_ne rq.symm] at hr; exact hr
  obtain ⟨hr2, rp, rq0⟩ := hn r hr1
  rw [kvT_keys]
  refine dc_pure (fun s => ∃ i, tb.lookup s = some i) (fun s => decide (0 < valT tb s)) (valT tb) (fun acc => by rw [put_ne rq, hq3]) ?_ ?_ ?_ _ [] (fun x hx => mem_key hx) (by have := ht.ln; simp; omega) ?_
  · rintro x ⟨i, hi⟩ acc K hK
    have v1 : valT tb x = i := by unfold valT; rw [hi]; rfl
    rw [v1] at hK
    have f1 : put (put M1 q (.dic (some (o, l)) (kvT tb))) r (.dic none (kvT acc)) q = some (.dic (some (o, l)) (kvT tb)) := by rw [put_ne rq, hq3]
    simpa [f1, hi] using hK
  · rintro x ⟨i, hi⟩ _ acc K hK
    simpa using hK
  · rintro x ⟨i, hi⟩ _ acc K hK
    have v1 : valT tb x = i := by unfold valT; rw [hi]; rfl
    rw [v1] at hK
    have f1 : put (put M1 q (.dic (some (o, l)) (kvT tb))) r (.dic none (kvT acc)) q = some (.dic (some (o, l)) (kvT tb)) := by rw [put_ne rq, hq3]
    simpa [f1, hi] using hK
  · rw [dcT_pos ht.nd]
    have ep : put (put (put M1 q (.dic (some (o, l)) (kvT tb))) r (.dic none (kvT (posT tb)))) q (.dic none (kvT tb)) = put M1 r (.dic none (kvT (posT tb))) := by
      rw [put_comm rq.symm, put_put, put_id hq2]
    have hp4 : put M1 r (.dic none (kvT (posT tb))) p = some (.ins 0 dx [("table", .c q0)]) := by rw [put_ne (Ne.symm rp), hp2]
    rw [put_ne rq, hq3]
    refine ⟨rfl, ?_⟩
    rw [ep, hp4]
    simp [putW]
    refine ⟨_, fun a x h => ?_, k r hr2⟩
    by_cases h1 : a = p
    · subst h1; rw [put_same] at h ⊢; exact h
    · rw [put_ne h1] at h ⊢
      by_cases h2 : a = r
      · subst h2; rw [put_same] at h ⊢; exact h
      · rw [put_ne h2] at h ⊢
        exact hx a x h1 h
theorem Sset_ok : Ok g_Stock_setitem 3 b_Stock_setitem spSset := by
  rintro ws M Q E ⟨p, dx, q, tb, s, i, rfl, hp, hq, hn, hi, hl, k⟩
  have h0 : ¬ i < 0 := by omega
  simp [b_Stock_setitem, b_Stock_setitem_7, b_Stock_setitem_6, b_Stock_setitem_5, b_Stock_setitem_2, hp, hq, hn, hi, h0]
  exact ⟨szlt (by omega), k⟩
theorem Seq_ok : Ok g_Stock_eq 2 b_Stock_eq spSeq := by
  rintro ws M Q E ⟨p, ta, y, rfl, ⟨dx, q, hp, hq⟩, ⟨p2, tb, rfl, ⟨dx2, q2, hp2, hq2⟩, k⟩ | ⟨hy, k⟩⟩
  · simp [b_Stock_eq, b_Stock_eq_0, hp, hq, hp2, hq2, kdW_i hp2, hits_kv]
    exact k
  · rcases hy with hy | hy <;> simp [b_Stock_eq, b_Stock_eq_0, hy, k]
theorem Sle_ok : Ok g_Stock_le 3 b_Stock_le spSle := by
  rintro ws M Q E ⟨p, p2, ta, tb, rfl, ⟨dx, q, hp, hq⟩, ⟨dx2, q2, hp2, hq2⟩, hl, hn, k⟩
  have e3 : p ≠ q := fun e => by subst e; rw [hq] at hp; cases hp
  have e4 : p2 ≠ q := fun e => by subst e; rw [hq] at hp2; cases hp2
  simp [b_Stock_le, b_Stock_le_2, b_Stock_le_1, hp, hq, hp2, hq2, rdA, kdW_i hp2]
  intro o l
  have hp' : put M q (.dic (some (o, l)) (kvT ta)) p = some (.ins 0 dx [("table", .c q)]) := by rw [put_ne e3, hp]
  have hp2' : put M q (.dic (some (o, l)) (kvT ta)) p2 = some (.ins 0 dx2 [("table", .c q2)]) := by rw [put_ne e4, hp2]
  have hq' : put M q (.dic (some (o, l)) (kvT ta)) q = some (.dic (some (o, l)) (kvT ta)) := put_same
  have hq2' : ∃ l2, put M q (.dic (some (o, l)) (kvT ta)) q2 = some (.dic l2 (kvT tb)) := by
    by_cases e : q2 = q
    · subst e
      rw [hq] at hq2
      injection hq2 with e2
      injection e2 with _ e3
      exact ⟨some (o, l), by rw [put_same, e3]⟩
    · exact ⟨_, by rw [put_ne e, hq2]⟩
  obtain ⟨l2, hq2'⟩ := hq2'
  generalize hM : put M q (.dic (some (o, l)) (kvT ta)) = M1 at hp' hp2' hq' hq2'
  simp [hp', hq']
  refine ⟨fun a b h => ?_, fun r hr => ?_⟩
  · obtain ⟨x, hx, rfl, rfl⟩ := mem_kvT.mp h
    exact nm_len (hn x hx)
  · rw [kvT_keys]
    refine lc_map (fun s => ∃ i, ta.lookup s = some i) (fun s => W.d (.str s)) (fun s => .bool (decide (valT ta s ≤ valT tb s))) hr (fun acc => by rw [put_ne (ne_of hr hq'), hq']) ?_ _ (fun x hx => mem_key hx) (by simp; omega) ?_
    · rintro x ⟨i, hi⟩ acc K hK
      have v1 : valT ta x = i := by unfold valT; rw [hi]; rfl
      rw [v1] at hK
      have f1 : put M1 r (.lst acc) p = some (.ins 0 dx [("table", .c q)]) := by rw [put_ne (ne_of hr hp'), hp']
      have f2 : put M1 r (.lst acc) p2 = some (.ins 0 dx2 [("table", .c q2)]) := by rw [put_ne (ne_of hr hp2'), hp2']
      have f3 : put M1 r (.lst acc) q = some (.dic (some (o, l)) (kvT ta)) := by rw [put_ne (ne_of hr hq'), hq']
      have f4 : put M1 r (.lst acc) q2 = some (.dic l2 (kvT tb)) := by rw [put_ne (ne_of hr hq2'), hq2']
      cases e : tb.lookup x with
      | none =>
        have v2 : valT tb x = 0 := by unfold valT; rw [e]; rfl
        rw [v2] at hK
        simpa [f1, f2, f3, f4, hi, e] using hK
      | some j =>
        have v2 : valT tb x = j := by unfold valT; rw [e]; rfl
        rw [v2] at hK
        simpa [f1, f2, f3, f4, hi, e] using hK
    · rw [hq']
      refine ⟨rfl, ?_⟩
      rw [← hM, put_back hq]
      have e0 : listW M (W.d (D.lst (List.map (fun s => D.bool (decide (valT ta s ≤ valT tb s))) (List.map (·.1) ta)))) = some ((List.map (fun s => D.bool (decide (valT ta s ≤ valT tb s))) (List.map (·.1) ta)).map W.d) := by simp
      rw [e0, onO_some, bools_map, onO_some]
      have e : (List.map (fun s => decide (valT ta s ≤ valT tb s)) (List.map (·.1) ta)).all id = leS ta tb := by unfold leS; rw [List.all_map]; rfl
      rw [e]
      exact k
theorem spSeq_len : ∀ ws M Q E, spSeq ws M Q E → ws.length = ["self", "other"].length := by
  rintro ws M Q E ⟨p, ta, y, rfl, _⟩
  rfl
theorem mk_step {M : Mp} {t : Addr} {tb : Tb} {Q : Addr → Mp → Prop} {E : Addr → XK2} (h : M t = some (.dic none (kvT tb))) (ok : TOk tb) (k : ∀ x M' dx q, (∀ a c, M a = some c → M' a = some c) → stkA M' x dx q (posT tb) → M q = none → Q x M') :
    onO (dctC (M t)) fun kvs => ∀ p1, M p1 = none → ∀ x dx, put M p1 (.dic none kvs) x = none → put M p1 (.dic none kvs) dx = none → ¬ dx = x → spSInit [.c x, .c p1] (put (put M p1 (.dic none kvs)) x (.ins 0 dx [])) (fun v M2 => v = .d .none ∧ Q x M2) (E x) := by
  rw [h]
  simp
  intro p1 h1 x dx hx hdx hne
  have xp := ne_new hx
  have hx1 : M x = none := by rw [put_ne xp] at hx; exact hx
  refine ⟨x, dx, p1, tb, rfl, put_same, by rw [put_ne xp.symm, put_same], ok, fun r hr => ⟨rfl, k x _ dx r (fun a c e => ?_) ?_ ?_⟩⟩
  · have rx := ne_new hr
    rw [put_ne rx] at hr
    have rp := ne_new hr
    rw [put_ne rp] at hr
    rw [put_ne (ne_of hx1 e), put_ne (ne_of hr e), put_ne (ne_of hx1 e), put_ne (ne_of h1 e), e]
  · have rx := ne_new hr
    exact ⟨put_same, by rw [put_ne rx, put_same]⟩
  · have rx := ne_new hr
    rw [put_ne rx] at hr
    have rp := ne_new hr
    rw [put_ne rp] at hr
    exact hr
theorem mk_one {M : Mp} {t : Addr} {tb : Tb} {Q : Addr → Mp → Prop} {E : Addr → XK2} (h : M t = some (.dic none (kvT tb))) (ok : TOk tb) (k : ∀ x M' dx q, (∀ a c, M a = some c → M' a = some c) → stkA M' x dx q (posT tb) → M q = none → M x = none → Q x M') :
    ∀ x dx, M x = none → M dx = none → ¬ dx = x → spSInit [.c x, .c t] (put M x (.ins 0 dx [])) (fun v M2 => v = .d .none ∧ Q x M2) (E x) := by
  intro x dx hx hdx hne
  refine ⟨x, dx, t, tb, rfl, put_same, by rw [put_ne (ne_of hx h), h], ok, fun r hr => ⟨rfl, k x _ dx r (fun a c e => ?_) ?_ ?_ hx⟩⟩
  · have rx := ne_new hr
    rw [put_ne rx] at hr
    rw [put_ne (ne_of hx e), put_ne (ne_of hr e), put_ne (ne_of hx e), e]
  · have rx := ne_new hr
    exact ⟨put_same, by rw [put_ne rx, put_same]⟩
  · have rx := ne_new hr
    rw [put_ne rx] at hr
    exact hr
end Z
set_option maxHeartbeats 8000000
/-! C34: rows recognized -/
namespace Z
open PySem PySem.Spec PyProof.Rows L2
def b_is_row_0 : Ss := .cons (.ret (.cst (.bool false))) .nil
def b_is_row_1 : Ss := .cons (.iff (.or (.not (.isi .int (.var 2))) (.cons (.isi .bool (.var 2)) (.cons (.cmp .lt (.var 2) (.cst (.int 0))) .nil))) b_is_row_0 .nil) .nil
def b_is_row_2 : Ss := .cons (.ret (.cst (.bool false))) .nil
def b_is_row_3 : Ss := .cons (.iff (.or (.not (.isi .str (.var 2))) (.cons (.not (.call 0 (.cons (.var 2) .nil))) .nil)) b_is_row_2 .nil) .nil
def b_is_row_4 : Ss := .cons (.iff (.cmp .eq (.bin .mod (.var 1) (.cst (.int 2))) (.cst (.int 0))) b_is_row_1 b_is_row_3) .nil
def b_is_row_5 : Ss := .cons (.ret (.cmp .eq (.bin .mod (.blt .len (.cons (.var 0) .nil)) (.cst (.int 2))) (.cst (.int 1)))) .nil
def b_is_row_6 : Ss := .cons (.for (.tup [1, 2]) (.enum (.var 0)) b_is_row_4) b_is_row_5
def b_is_row : Ss := b_is_row_6
def b_row_value_0 : Ss := .cons (.ret (.lct false (.enum (.var 0)) [2, 3] .nil (.ife (.cmp .eq (.bin .mod (.var 2) (.cst (.int 2))) (.cst (.int 0))) (.var 3) (.ext (.geto 0) (.cons (.var 1) (.cons (.var 3) .nil)))))) .nil
def b_row_value : Ss := b_row_value_0
def b_Stock_getitem_0 : Ss := .cons (.ret (.ext (.dgt2) (.cons (.fld "table" (.var 0)) (.cons (.var 1) (.cons (.cst (.int 0)) .nil))))) .nil
def b_Stock_getitem : Ss := b_Stock_getitem_0
def b_Lis_title_0 : Ss := .cons (.ret (.cst (.bool false))) .nil
def b_Lis_title_1 : Ss := .cons (.ret (.blt .all (.cons (.lc false (.sgn (.var 0)) 2 .nil (.cmp .in_ (.var 2) (.var 1))) .nil))) .nil
def b_Lis_title_2 : Ss := .cons (.iff (.or (.cmp .lt (.blt .len (.cons (.var 0) .nil)) (.cst (.int 1))) (.cons (.cmp .gt (.blt .len (.cons (.var 0) .nil)) (.cst (.int 8))) (.cons (.cmp .in_ (.var 0) (.lst false (.cons (.cst (.str "and")) (.cons (.cst (.str "or")) (.cons (.cst (.str "not")) (.cons (.cst (.str "always")) (.cons (.cst (.str "never")) .nil))))))) .nil))) b_Lis_title_0 .nil) b_Lis_title_1
def b_Lis_title_3 : Ss := .cons (.asg (.name 1) (.cst (.str "abcdefghijklmnopqrstuvwxyz"))) b_Lis_title_2
def b_Lis_title : Ss := b_Lis_title_3
def b_Lentry_0 : Ss := .cons (.ret (.ix (.lst false (.cons (.cst (.str "")) (.cons (.cst (.str "and")) (.cons (.cst (.str "Pile")) (.cons (.cst (.str "a b")) (.cons (.cst (.str "ninechars")) (.cons (.cst (.str "x1")) (.cons (.cst (.str "never")) (.cons (.cst (.str "not")) (.cons (.cst (.str "or")) (.cons (.cst (.str "always")) .nil))))))))))) (.call 0 (.cons (.var 0) (.cons (.cst (.int 10)) .nil))))) .nil
def b_Lentry_1 : Ss := .cons (.ret (.ix (.lst false (.cons (.neg (.cst (.int 1))) (.cons (.neg (.bin .pow (.cst (.int 10)) (.cst (.int 29)))) (.cons (.neg (.cst (.int 5))) .nil)))) (.call 0 (.cons (.var 0) (.cons (.cst (.int 3)) .nil))))) .nil
def b_Lentry_2 : Ss := .cons (.ret (.bin (.add false) (.ix (.lst false (.cons (.cst (.int 0)) (.cons (.cst (.int 1)) (.cons (.cst (.int 2)) (.cons (.cst (.int 3)) (.cons (.bin .pow (.cst (.int 10)) (.cst (.int 29))) .nil)))))) (.call 0 (.cons (.var 0) (.cons (.cst (.int 5)) .nil)))) (.call 0 (.cons (.var 0) (.cons (.cst (.int 2)) .nil))))) .nil
def b_Lentry_3 : Ss := .cons (.ret (.call 1 (.cons (.var 0) (.cons (.lst false .nil) .nil)))) .nil
def b_Lentry_4 : Ss := .cons (.iff (.cmp .eq (.var 1) (.cmp .gt (.var 2) (.cst (.int 2)))) b_Lentry_2 .nil) b_Lentry_3
def b_Lentry_5 : Ss := .cons (.iff (.cmp .eq (.var 2) (.cst (.int 1))) b_Lentry_1 .nil) b_Lentry_4
def b_Lentry_6 : Ss := .cons (.iff (.cmp .eq (.var 2) (.cst (.int 0))) b_Lentry_0 .nil) b_Lentry_5
def b_Lentry_7 : Ss := .cons (.asg (.name 2) (.call 0 (.cons (.var 0) (.cons (.cst (.int 14)) .nil)))) b_Lentry_6
def b_Lentry : Ss := b_Lentry_7
def b_Lis_form_0 : Ss := .cons (.ret (.cst (.bool false))) .nil
def b_Lis_form_1 : Ss := .cons (.ret (.cst (.bool false))) .nil
def b_Lis_form_2 : Ss := .cons (.ret (.cst (.bool false))) .nil
def b_Lis_form_3 : Ss := .cons (.iff (.and (.not (.isi .int (.ix (.var 0) (.var 1)))) (.cons (.not (.call 0 (.cons (.ix (.var 0) (.var 1)) .nil))) .nil)) b_Lis_form_2 .nil) .nil
def b_Lis_form_4 : Ss := .cons (.iff (.and (.isi .int (.ix (.var 0) (.var 1))) (.cons (.cmp .lt (.ix (.var 0) (.var 1)) (.cst (.int 0))) .nil)) b_Lis_form_1 .nil) b_Lis_form_3
def b_Lis_form_5 : Ss := .cons (.iff (.cmp .ne (.isi .int (.ix (.var 0) (.var 1))) (.cmp .eq (.bin .mod (.var 1) (.cst (.int 2))) (.cst (.int 0)))) b_Lis_form_0 .nil) b_Lis_form_4
def b_Lis_form_6 : Ss := .cons (.ret (.cmp .eq (.bin .mod (.blt .len (.cons (.var 0) .nil)) (.cst (.int 2))) (.cst (.int 1)))) .nil
def b_Lis_form_7 : Ss := .cons (.for (.name 1) (.rng1 (.blt .len (.cons (.var 0) .nil))) b_Lis_form_5) b_Lis_form_6
def b_Lis_form : Ss := b_Lis_form_7

def rowOk : Nat → List D → Bool
  | _, [] => true
  | i, .int n :: r => decide (i % 2 = 0) && decide (0 ≤ n) && rowOk (i + 1) r
  | i, .str s :: r => decide (i % 2 = 1) && isNm s && rowOk (i + 1) r
  | _, _ :: _ => false
def Ent : D → Prop
  | .int i => i.natAbs < 10 ^ 40
  | .str s => strK s ∧ s.length ≤ 100
  | _ => False
def isRow (xs : List D) : Bool := rowOk 0 xs && decide (xs.length % 2 = 1)
/-- numbers of a stock in the places of names -/
def subW (tb : Tb) : Nat → List D → List D
  | _, [] => []
  | i, .str s :: r => (if i % 2 = 0 then .str s else .int (valT tb s)) :: subW tb (i + 1) r
  | i, x :: r => x :: subW tb (i + 1) r
def spIsRow : Sp2 := fun ws M Q _ => ∃ w ds, ws = [w] ∧ seqW M w = some (ds.map W.d) ∧ (∀ d ∈ ds, Ent d) ∧ ds.length ≤ 1000 ∧ Q (.d (.bool (isRow ds))) M
def spSget : Sp2 := fun ws M Q _ => ∃ p s tb, ws = [.c p, .d (.str s)] ∧ stk M p tb ∧ Q (.d (.int (valT tb s))) M
def spRowValue : Sp2 := fun ws M Q _ => ∃ w ds p tb, ws = [w, .c p] ∧ seqW M w = some (ds.map W.d) ∧ (∀ d ∈ ds, Ent d) ∧ rowOk 0 ds = true ∧ ds.length ≤ 1000 ∧ stk M p tb ∧ Q (.d (.lst (subW tb 0 ds))) M
def spIsTitle : Sp2 := fun ws M Q _ => ∃ s : Str, ws = [.d (.str s)] ∧ Q (.d (.bool (isNm s))) M
def spEntry : Sp2 := fun ws M Q _ => ∃ (st sc : Addr) (s : Sm) (M0 : Mp) (c : Nat) (b : Bool), ws = [.c st, .d (.bool b)] ∧ M = setS st sc s M0 ∧ st ≠ sc ∧ SOk c s ∧ 20 ≤ c ∧ ∀ (d : D) s', Ent d → SOk (c - 20) s' → Q (.d d) (setS st sc s' M0)
def spIsForm : Sp2 := fun ws M Q _ => ∃ ds, ws = [.d (.lst ds)] ∧ (∀ d ∈ ds, Ent d) ∧ ds.length ≤ 1000 ∧ Q (.d (.bool (isRow ds))) M
def g_is_row : Env2 := ⟨[⟨"is_name", spIsName, []⟩], [], noO⟩
@[simp] theorem gf_is_row : g_is_row.f = ([⟨"is_name", spIsName, []⟩] : List Cal) := rfl
def g_row_value : Env2 := ⟨[], [], ⟨[], [], [], [⟨0, "__getitem__", spSget, []⟩], [], [], [0], [], []⟩⟩
@[simp] theorem got_row_value : g_row_value.o.t = ([⟨0, "__getitem__", spSget, []⟩] : List Mth) := rfl
@[simp] theorem gok_row_value : g_row_value.o.g = ([0] : List Nat) := rfl
def g_Stock_getitem : Env2 := ⟨[], [], ⟨[("table", 0)], [], [], [], [], [], [], [], []⟩⟩
@[simp] theorem goa_Stock_getitem : g_Stock_getitem.o.a = ([("table", 0)] : List (Str × Nat)) := rfl
def g_Lis_title : Env2 := ⟨[], [], noO⟩
def g_Lentry : Env2 := ⟨[⟨"_law_draw", spDraw, []⟩, ⟨"_law_name", spName, []⟩], [], noO⟩
@[simp] theorem gf_Lentry : g_Lentry.f = ([⟨"_law_draw", spDraw, []⟩, ⟨"_law_name", spName, []⟩] : List Cal) := rfl
def g_Lis_form : Env2 := ⟨[⟨"_law_is_title", spIsTitle, []⟩], [], noO⟩
@[simp] theorem gf_Lis_form : g_Lis_form.f = ([⟨"_law_is_title", spIsTitle, []⟩] : List Cal) := rfl

theorem im2 {i : Nat} : (((i : Nat) : Int) % 2 = 0) = (i % 2 = 0) := propext (by omega)
theorem im21 {i : Nat} : (((i : Nat) : Int) % 2 = 1) = (i % 2 = 1) := propext (by omega)
theorem is_row_ok : Ok g_is_row 3 b_is_row spIsRow := by
  rintro ws M Q E ⟨w, ds, rfl, hw, he, hl, q⟩
  simp [b_is_row, b_is_row_6, hw]
  refine for_run (fun r σ M' => ∃ (i : Nat) (ys : List D) (v1 v2 : Option W), r = (enumD i ys).map W.d ∧ (∀ d ∈ ys, Ent d) ∧ isRow ds = (rowOk i ys && decide (ds.length % 2 = 1)) ∧ σ = [some w, v1, v2] ∧ M' = M) ?_ ?_ _ _ _ ⟨0, ds, _, _, rfl, he, rfl, rfl, rfl⟩
  · rintro x r σ M' K ⟨i, ys, v1, v2, e, hy, hr, rfl, rfl⟩ hK
    cases ys with
    | nil => cases e
    | cons y ys =>
      cases e
      refine ⟨hw, ?_⟩
      have h1 := hy y List.mem_cons_self
      have no : rowOk i (y :: ys) = false → Q (.d (.bool false)) M' := fun e => by
        rw [hr, e] at q
        exact q
      have go : ∀ v1 v2, rowOk i (y :: ys) = rowOk (i + 1) ys → K [some w, v1, v2] M' := fun v1 v2 e => hK _ _ ⟨i + 1, ys, v1, v2, rfl, fun d h => hy d (List.mem_cons_of_mem _ h), by rw [hr, e], rfl, rfl⟩
      cases y with
      | int n =>
        by_cases hi : i % 2 = 0
        · by_cases hn : n < 0
          · simpa [b_is_row_4, b_is_row_1, b_is_row_0, hw, im2, hi, hn] using no (by simp [rowOk]; intros; omega)
          · simpa [b_is_row_4, b_is_row_1, hw, im2, hi, hn] using go _ _ (by simp [rowOk, hi, show 0 ≤ n by omega])
        · simpa [b_is_row_4, b_is_row_3, b_is_row_2, hw, im2, hi] using no (by simp [rowOk, hi])
      | str s =>
        by_cases hi : i % 2 = 0
        · simpa [b_is_row_4, b_is_row_1, b_is_row_0, hw, im2, hi] using no (by simp [rowOk, hi])
        · cases hn : isNm s with
          | true => simpa [b_is_row_4, b_is_row_3, hw, im2, hi, hn] using go _ _ (by simp [rowOk, show i % 2 = 1 by omega, hn])
          | false => simpa [b_is_row_4, b_is_row_3, b_is_row_2, hw, im2, hi, hn] using no (by simp [rowOk, hn])
      | _ => exact h1.elim
  · rintro σ M' ⟨i, ys, v1, v2, e, hy, hr, rfl, rfl⟩
    cases ys with
    | cons _ _ => cases e
    | nil =>
      refine ⟨hw, ?_⟩
      simp only [rowOk, Bool.true_and] at hr
      rw [hr] at q
      simpa [b_is_row_5, hw, im21] using q
theorem sget_ok : Ok g_Stock_getitem 2 b_Stock_getitem spSget := by
  rintro ws M Q E ⟨p, s, tb, rfl, ⟨dx, q, hp, hq⟩, k⟩
  unfold valT at k
  cases e : tb.lookup s with
  | none => rw [e] at k; simpa [b_Stock_getitem, b_Stock_getitem_0, hp, hq, e] using k
  | some i => rw [e] at k; simpa [b_Stock_getitem, b_Stock_getitem_0, hp, hq, e] using k
theorem spSget_x {M : Mp} {Q : VK2} {E : XK2} {p : Addr} {tb : Tb} {s : Str} (h : stk M p tb) (k : Q (.d (.int (valT tb s))) M) : spSget [.c p, .d (.str s)] M Q E := ⟨p, s, tb, rfl, h, k⟩
theorem subW_get {tb : Tb} : ∀ {i : Nat} {ds : List D}, (subW tb i ds).length = ds.length
  | _, [] => rfl
  | i, d :: r => by cases d <;> simp [subW, subW_get]
theorem row_value_ok : Ok g_row_value 4 b_row_value spRowValue := by
  rintro ws M Q E ⟨w, ds, p, tb, rfl, hw, he, hr, hl, hs, q⟩
  simp [b_row_value, b_row_value_0, hw]
  intro r hr0
  refine lc_run (fun l M' => ∃ (i : Nat) (a ys : List D), l = (enumD i ys).map W.d ∧ (∀ d ∈ ys, Ent d) ∧ rowOk i ys = true ∧ subW tb 0 ds = a ++ subW tb i ys ∧ a.length + ys.length = ds.length ∧ M' = put M r (.lst (a.map W.d))) ?_ ?_ _ _ ⟨0, [], ds, rfl, he, hr, rfl, by simp, rfl⟩
  · rintro x l M' K ⟨i, a, ys, e, hy, ho, hsub, hlen, rfl⟩ hK
    cases ys with
    | nil => cases e
    | cons y ys =>
      cases e
      have w1 : seqW (put M r (.lst (a.map W.d))) w = some (ds.map W.d) := seqW_ext hw hr0
      refine ⟨w1, ?_⟩
      rw [List.length_cons] at hlen
      have fin : ∀ z, subW tb i (y :: ys) = z :: subW tb (i + 1) ys → rowOk (i + 1) ys = true → onO (itemsC (put M r (.lst (a.map W.d)) r)) fun acc => acc.length < sizeLine ∧ K (put (put M r (.lst (a.map W.d))) r (.lst (acc ++ [.d z]))) := fun z e1 e2 => by
        rw [put_same]
        refine onO_of (c := a.map W.d) rfl ⟨szlt (by simp; omega), hK _ ⟨i + 1, a ++ [z], ys, rfl, fun d h => hy d (List.mem_cons_of_mem _ h), e2, by rw [hsub, e1]; simp, by simp; omega, ?_⟩⟩
        rw [put_put]
        simp
      cases y with
      | int n =>
        simp only [rowOk, Bool.and_eq_true, decide_eq_true_eq] at ho
        obtain ⟨⟨h1, h2⟩, h3⟩ := ho
        simpa [im2, h1] using fin (.int n) rfl h3
      | str s =>
        simp only [rowOk, Bool.and_eq_true, decide_eq_true_eq] at ho
        obtain ⟨⟨h1, h2⟩, h3⟩ := ho
        have h0 : i % 2 ≠ 0 := by omega
        have hs2 := stk_new (c := .lst (a.map W.d)) hs hr0
        simp [im2, h0]
        refine ⟨stk_in hs2, spSget_x hs2 ?_⟩
        simpa using fin (.int (valT tb s)) (by simp [subW, h0]) h3
      | _ => exact (hy _ List.mem_cons_self).elim
  · rintro M' ⟨i, a, ys, e, hy, ho, hsub, hlen, rfl⟩
    cases ys with
    | cons _ _ => cases e
    | nil =>
      refine ⟨seqW_ext hw hr0, ?_⟩
      simp [subW] at hsub
      rw [hsub] at q
      simpa [del_put hr0] using q
theorem is_title_ok : Ok g_Lis_title 3 b_Lis_title spIsTitle := by
  rintro ws M Q E ⟨s, rfl, q⟩
  have no : isNm s = false → ∀ (De : Ends2) (v : Option W), De.rt = Q → wSs g_Lis_title b_Lis_title_0 De [some (.d (.str s)), v, none] M := by
    intro h De v hD
    rw [h] at q
    simpa [b_Lis_title_0, hD] using q
  simp [b_Lis_title, b_Lis_title_3, b_Lis_title_2]
  split
  · exact no (by unfold isNm; simp; omega) _ _ rfl
  · split
    · exact no (by unfold isNm; simp; omega) _ _ rfl
    · split
      · rename_i h
        exact no (by unfold isNm; simp [h]) _ _ rfl
      · rename_i h1 h2 h3
        simp [b_Lis_title_1]
        intro p hp
        unfold signsW
        refine lc_map (α := Nat) (fun _ => True) _ (fun c => .bool (decide (97 ≤ c ∧ c ≤ 122))) hp (fun _ => trivial) (fun i _ acc K hK => ?_) _ (fun _ _ => trivial) ?_ ?_
        · simpa [mem_letters] using hK
        · have : s.cps.toList.length = s.length := rfl
          rw [this]; simp; omega
        · simp
          have : isNm s = s.cps.toList.all fun c => decide (97 ≤ c ∧ c ≤ 122) := by
            unfold isNm
            have a1 : 1 ≤ s.length := by omega
            have a2 : s.length ≤ 8 := by omega
            simp [a1, a2, h3]
          rw [this] at q
          simpa using q
theorem entry_ok : Ok g_Lentry 3 b_Lentry spEntry := by
  rintro ws M Q E ⟨st, sc, s, M0, c, b, rfl, rfl, ne, hs, hc, k⟩
  simp [b_Lentry, b_Lentry_7]
  refine ⟨st, sc, s, M0, c, 14, by simp, rfl, ne, hs, by omega, by decide, by decide, fun w s1 k1 l1 hs1 => ?_⟩
  simp [b_Lentry_6]
  split
  · simp [b_Lentry_0]
    refine ⟨st, sc, s1, M0, _, 10, by simp, rfl, ne, hs1, by omega, by decide, by decide, fun z s2 kz lz hs2 => ?_⟩
    obtain ⟨x, hx, e⟩ := atI_int (xs := [W.d (.str ""), .d (.str "and"), .d (.str "Pile"), .d (.str "a b"), .d (.str "ninechars"), .d (.str "x1"), .d (.str "never"), .d (.str "not"), .d (.str "or"), .d (.str "always")]) kz lz
    have hd : ∃ d, x = .d d ∧ Ent d := by
      simp only [List.mem_cons, List.not_mem_nil, or_false] at hx
      rcases hx with rfl | rfl | rfl | rfl | rfl | rfl | rfl | rfl | rfl | rfl <;> exact ⟨_, rfl, by unfold strK; decide +kernel, by decide +kernel⟩
    obtain ⟨d, rfl, hd⟩ := hd
    simpa [e] using k d s2 hd (hs2.le (by omega))
  · simp [b_Lentry_5]
    split
    · simp [b_Lentry_1]
      refine ⟨st, sc, s1, M0, _, 3, by simp, rfl, ne, hs1, by omega, by decide, by decide, fun z s2 kz lz hs2 => ?_⟩
      obtain ⟨x, hx, e⟩ := atI_int (xs := [W.d (.int (-1)), .d (.int (-100000000000000000000000000000)), .d (.int (-5))]) kz lz
      have hd : ∃ d, x = .d d ∧ Ent d := by
        simp only [List.mem_cons, List.not_mem_nil, or_false] at hx
        rcases hx with rfl | rfl | rfl <;> exact ⟨_, rfl, by unfold Ent; decide +kernel⟩
      obtain ⟨d, rfl, hd⟩ := hd
      simpa [e] using k d s2 hd (hs2.le (by omega))
    · simp [b_Lentry_4]
      split
      · simp [b_Lentry_2]
        refine ⟨st, sc, s1, M0, _, 5, by simp, rfl, ne, hs1, by omega, by decide, by decide, fun z s2 kz lz hs2 => ?_⟩
        have hz : ∃ i : Int, 0 ≤ i ∧ i ≤ 10 ^ 30 ∧ atI [W.d (.int 0), .d (.int 1), .d (.int 2), .d (.int 3), .d (.int 100000000000000000000000000000)] z = some (.d (.int i)) := by
          have : z = 0 ∨ z = 1 ∨ z = 2 ∨ z = 3 ∨ z = 4 := by omega
          rcases this with rfl | rfl | rfl | rfl | rfl <;> exact ⟨_, by decide, by decide, rfl⟩
        obtain ⟨i, i0, i1, hi⟩ := hz
        simp [hi]
        refine ⟨st, sc, s2, M0, _, 2, by simp, rfl, ne, hs2, by omega, by decide, by decide, fun y s3 ky ly hs3 => ?_⟩
        simp
        exact k (.int (i + y)) s3 (show (i + y).natAbs < 10 ^ 40 by omega) (hs3.le (by omega))
      · simp [b_Lentry_3]
        refine ⟨st, sc, s1, M0, _, .d (.lst []), [], by simp, rfl, seqF_l, by decide, ne, hs1, by omega, fun z s2 hz _ _ hs2 => ?_⟩
        exact k (.str z) s2 ⟨strK_nm hz, by have := hz.2.1; omega⟩ (hs2.le (by omega))
theorem is_form_ok : Ok g_Lis_form 2 b_Lis_form spIsForm := by
  rintro ws M Q E ⟨ds, rfl, he, hl, q⟩
  simp [b_Lis_form, b_Lis_form_7]
  refine ⟨by omega, ?_⟩
  refine for_run (fun r σ M' => ∃ (i : Nat) (ys : List D) (v : Option W), r = rngW (i : Int) ys.length ∧ ds.drop i = ys ∧ isRow ds = (rowOk i ys && decide (ds.length % 2 = 1)) ∧ σ = [some (.d (.lst ds)), v] ∧ M' = M) ?_ ?_ _ _ _ ⟨0, ds, _, rfl, rfl, rfl, rfl, rfl⟩
  · rintro x r σ M' K ⟨i, ys, v, e, hd, hr, rfl, rfl⟩ hK
    cases ys with
    | nil => cases e
    | cons y ys =>
      rw [List.length_cons, rng_cons] at e
      cases e
      refine ⟨trivial, ?_⟩
      have hi : i < ds.length := by
        have := congrArg List.length hd
        rw [List.length_drop, List.length_cons] at this
        omega
      have hy : ds[i]? = some y := by
        have := List.getElem?_drop (xs := ds) (i := i) (j := 0)
        rw [hd] at this
        simpa using this.symm
      have hd2 : ds.drop (i + 1) = ys := by
        rw [← List.drop_drop, hd]
        rfl
      have h1 := he y (List.mem_of_getElem? hy)
      have no : rowOk i (y :: ys) = false → Q (.d (.bool false)) M' := fun e => by
        rw [hr, e] at q
        exact q
      have go : rowOk i (y :: ys) = rowOk (i + 1) ys → K [some (.d (.lst ds)), some (.d (.int (i : Nat)))] M' := fun e => hK _ _ ⟨i + 1, ys, _, rfl, hd2, by rw [hr, e], rfl, rfl⟩
      cases y with
      | int n =>
        by_cases hi : i % 2 = 0
        · by_cases hn : n < 0
          · simpa [b_Lis_form_5, b_Lis_form_4, b_Lis_form_1, hy, im2, hi, hn] using no (by simp [rowOk]; intros; omega)
          · simpa [b_Lis_form_5, b_Lis_form_4, b_Lis_form_3, hy, im2, hi, hn] using go (by simp [rowOk, hi, show 0 ≤ n by omega])
        · simpa [b_Lis_form_5, b_Lis_form_0, hy, im2, hi] using no (by simp [rowOk, hi])
      | str s =>
        by_cases hi : i % 2 = 0
        · simpa [b_Lis_form_5, b_Lis_form_0, hy, im2, hi] using no (by simp [rowOk, hi])
        · cases hn : isNm s with
          | true => simpa [b_Lis_form_5, b_Lis_form_4, b_Lis_form_3, spIsTitle, hy, im2, hi, hn] using go (by simp [rowOk, show i % 2 = 1 by omega, hn])
          | false => simpa [b_Lis_form_5, b_Lis_form_4, b_Lis_form_3, b_Lis_form_2, spIsTitle, hy, im2, hi, hn] using no (by simp [rowOk, hn])
      | _ => exact h1.elim
  · rintro σ M' ⟨i, ys, v, e, hd, hr, rfl, rfl⟩
    cases ys with
    | cons _ _ => rw [List.length_cons, rng_cons] at e; cases e
    | nil =>
      refine ⟨trivial, ?_⟩
      simp only [rowOk, Bool.true_and] at hr
      rw [hr] at q
      simpa [b_Lis_form_6, im21] using q
end Z
set_option maxHeartbeats 8000000
/-! P36: rows that fall, plain -/
namespace Z
open PySem PySem.Spec PyProof.Rows L2
/-- what stands in the place of an entry -/
def vI (v : Str → Int) : D → Int
  | .int n => n
  | .str s => v s
  | _ => 0
def fallsD (tk ad : List Str) : List D → List D → Bool
  | .int a :: l, .int b :: m => if a = b then fallsD tk ad l m else decide (b < a)
  | .str a :: l, .str b :: m => if a = b ∧ a ∉ ad then (if a ∈ tk then true else fallsD tk ad l m) else false
  | _, _ => false
def placeD (tk ad : List Str) : Nat → List D → List D → Option Nat
  | k, .int a :: l, .int b :: m => if a = b then placeD tk ad (k + 1) l m else some k
  | k, .str a :: l, .str b :: m => if a = b ∧ a ∉ tk ∧ a ∉ ad then placeD tk ad (k + 1) l m else some k
  | _, _, _ => none
theorem falls_lt {tk ad : List Str} {v w : Str → Int} (h1 : ∀ s ∈ tk, s ∉ ad → w s < v s) (h2 : ∀ s, s ∉ tk → s ∉ ad → w s = v s) : ∀ (l m : List D), fallsD tk ad l m = true → ltI (m.map (vI w)) (l.map (vI v)) = true
  | .int a :: l, .int b :: m, h => by
    unfold fallsD at h
    show (if b = a then _ else decide (b < a)) = true
    by_cases c : a = b
    · rw [if_pos c] at h
      rw [if_pos c.symm]
      exact falls_lt h1 h2 l m h
    · rw [if_neg c] at h
      rw [if_neg fun e => c e.symm]
      exact h
  | .str a :: l, .str b :: m, h => by
    unfold fallsD at h
    show (if w b = v a then _ else decide (w b < v a)) = true
    by_cases c : a = b ∧ a ∉ ad
    · rw [if_pos c] at h
      obtain ⟨rfl, c2⟩ := c
      by_cases t : a ∈ tk
      · have := h1 a t c2
        rw [if_neg (by omega)]
        exact decide_eq_true this
      · rw [if_neg t] at h
        rw [if_pos (h2 a t c2)]
        exact falls_lt h1 h2 l m h
    · rw [if_neg c] at h; cases h
  | [], _, h => by simp [fallsD] at h
  | .int _ :: _, [], h => by simp [fallsD] at h
  | .str _ :: _, [], h => by simp [fallsD] at h
  | .int _ :: _, .str _ :: _, h => by simp [fallsD] at h
  | .str _ :: _, .int _ :: _, h => by simp [fallsD] at h
  | .none :: _, _, h => by simp [fallsD] at h
  | .bool _ :: _, _, h => by simp [fallsD] at h
  | .lst _ :: _, _, h => by simp [fallsD] at h
  | .tup _ :: _, _, h => by simp [fallsD] at h
  | .obj _ _ :: _, _, h => by simp [fallsD] at h
  | .ref _ :: _, _, h => by simp [fallsD] at h
  | _ :: _, .none :: _, h => by simp [fallsD] at h
theorem falls_place {tk ad : List Str} : ∀ (l m : List D) (k : Nat), fallsD tk ad l m = true → placeD tk ad k l m ≠ none
  | .int a :: l, .int b :: m, k, h => by
    unfold fallsD at h
    unfold placeD
    by_cases c : a = b
    · rw [if_pos c] at h ⊢
      exact falls_place l m _ h
    · rw [if_neg c]; exact fun h => nomatch h
  | .str a :: l, .str b :: m, k, h => by
    unfold fallsD at h
    unfold placeD
    by_cases c : a = b ∧ a ∉ tk ∧ a ∉ ad
    · rw [if_pos c]
      rw [if_pos ⟨c.1, c.2.2⟩, if_neg c.2.1] at h
      exact falls_place l m _ h
    · rw [if_neg c]; exact fun h => nomatch h
  | [], _, _, h => by simp [fallsD] at h
  | .int _ :: _, [], _, h => by simp [fallsD] at h
  | .str _ :: _, [], _, h => by simp [fallsD] at h
  | .int _ :: _, .str _ :: _, _, h => by simp [fallsD] at h
  | .str _ :: _, .int _ :: _, _, h => by simp [fallsD] at h
  | .none :: _, _, _, h => by simp [fallsD] at h
  | .bool _ :: _, _, _, h => by simp [fallsD] at h
  | .lst _ :: _, _, _, h => by simp [fallsD] at h
  | .tup _ :: _, _, _, h => by simp [fallsD] at h
  | .obj _ _ :: _, _, _, h => by simp [fallsD] at h
  | .ref _ :: _, _, _, h => by simp [fallsD] at h
  | .dic _ :: _, _, _, h => by simp [fallsD] at h
  | .dit _ :: _, _, _, h => by simp [fallsD] at h
theorem place_get {tk ad : List Str} : ∀ (l m : List D) (k j : Nat), placeD tk ad k l m = some j → k ≤ j ∧ j - k < l.length ∧ j - k < m.length
  | .int a :: l, .int b :: m, k, j, h => by
    unfold placeD at h
    split at h
    · obtain ⟨h1, h2, h3⟩ := place_get l m _ _ h
      simp only [List.length_cons]
      omega
    · cases h; simp
  | .str a :: l, .str b :: m, k, j, h => by
    unfold placeD at h
    split at h
    · obtain ⟨h1, h2, h3⟩ := place_get l m _ _ h
      simp only [List.length_cons]
      omega
    · cases h; simp
  | [], _, _, _, h => by simp [placeD] at h
  | .int _ :: _, [], _, _, h => by simp [placeD] at h
  | .str _ :: _, [], _, _, h => by simp [placeD] at h
  | .int _ :: _, .str _ :: _, _, _, h => by simp [placeD] at h
  | .str _ :: _, .int _ :: _, _, _, h => by simp [placeD] at h
  | .none :: _, _, _, _, h => by simp [placeD] at h
  | .bool _ :: _, _, _, _, h => by simp [placeD] at h
  | .lst _ :: _, _, _, _, h => by simp [placeD] at h
  | .tup _ :: _, _, _, _, h => by simp [placeD] at h
  | .obj _ _ :: _, _, _, _, h => by simp [placeD] at h
  | .ref _ :: _, _, _, _, h => by simp [placeD] at h
  | .dic _ :: _, _, _, _, h => by simp [placeD] at h
  | .dit _ :: _, _, _, _, h => by simp [placeD] at h
theorem place_not {tk ad : List Str} {v w : Str → Int} (hd : ∀ s ∈ ad, s ∉ tk) (h2 : ∀ s, s ∉ tk → s ∉ ad → w s = v s) (h3 : ∀ s ∈ ad, v s < w s) : ∀ (l m : List D) (k j : Nat), placeD tk ad k l m = some j → fallsD tk ad l m = false →
    (∀ a b, l[j - k]? = some (.str a) → m[j - k]? = some (.str b) → a ≠ b → v a < w b) → ltI (m.map (vI w)) (l.map (vI v)) = false
  | .int a :: l, .int b :: m, k, j, h, hf, hc => by
    unfold placeD at h
    unfold fallsD at hf
    show (if b = a then _ else decide (b < a)) = false
    by_cases c : a = b
    · rw [if_pos c] at h hf
      rw [if_pos c.symm]
      have hk := (place_get l m _ _ h).1
      exact place_not hd h2 h3 l m _ _ h hf fun x y hx hy => hc x y (by rw [show j - k = (j - (k + 1)) + 1 by omega]; exact hx) (by rw [show j - k = (j - (k + 1)) + 1 by omega]; exact hy)
    · rw [if_neg c] at hf
      rw [if_neg fun e => c e.symm]
      exact hf
  | .str a :: l, .str b :: m, k, j, h, hf, hc => by
    unfold placeD at h
    unfold fallsD at hf
    show (if w b = v a then _ else decide (w b < v a)) = false
    by_cases c : a = b ∧ a ∉ tk ∧ a ∉ ad
    · rw [if_pos c] at h
      rw [if_pos ⟨c.1, c.2.2⟩, if_neg c.2.1] at hf
      obtain ⟨rfl, c1, c2⟩ := c
      rw [if_pos (h2 a c1 c2)]
      have hk := (place_get l m _ _ h).1
      exact place_not hd h2 h3 l m _ _ h hf fun x y hx hy => hc x y (by rw [show j - k = (j - (k + 1)) + 1 by omega]; exact hx) (by rw [show j - k = (j - (k + 1)) + 1 by omega]; exact hy)
    · rw [if_neg c] at h
      cases h
      have lt : v a < w b := by
        by_cases e : a = b
        · subst e
          by_cases ca : a ∈ ad
          · exact h3 a ca
          · rw [if_pos ⟨rfl, ca⟩] at hf
            by_cases t : a ∈ tk
            · rw [if_pos t] at hf; cases hf
            · exact absurd ⟨rfl, t, ca⟩ c
        · exact hc a b (by simp) (by simp) e
      rw [if_neg (by omega)]
      exact decide_eq_false (by omega)
  | [], _, _, _, h, _, _ => by simp [placeD] at h
  | .int _ :: _, [], _, _, h, _, _ => by simp [placeD] at h
  | .str _ :: _, [], _, _, h, _, _ => by simp [placeD] at h
  | .int _ :: _, .str _ :: _, _, _, h, _, _ => by simp [placeD] at h
  | .str _ :: _, .int _ :: _, _, _, h, _, _ => by simp [placeD] at h
  | .none :: _, _, _, _, h, _, _ => by simp [placeD] at h
  | .bool _ :: _, _, _, _, h, _, _ => by simp [placeD] at h
  | .lst _ :: _, _, _, _, h, _, _ => by simp [placeD] at h
  | .tup _ :: _, _, _, _, h, _, _ => by simp [placeD] at h
  | .obj _ _ :: _, _, _, _, h, _, _ => by simp [placeD] at h
  | .ref _ :: _, _, _, _, h, _, _ => by simp [placeD] at h
  | .dic _ :: _, _, _, _, h, _, _ => by simp [placeD] at h
  | .dit _ :: _, _, _, _, h, _, _ => by simp [placeD] at h
theorem sub_vI {tb : Tb} : ∀ (ds : List D) (i : Nat), rowOk i ds = true → subW tb i ds = (ds.map (vI (valT tb))).map D.int
  | [], _, _ => rfl
  | .int n :: r, i, h => by
    simp only [rowOk, Bool.and_eq_true, decide_eq_true_eq] at h
    simp only [subW, List.map_cons, vI, sub_vI r (i + 1) h.2]
  | .str s :: r, i, h => by
    simp only [rowOk, Bool.and_eq_true, decide_eq_true_eq] at h
    have : ¬ i % 2 = 0 := by omega
    simp only [subW, List.map_cons, vI, if_neg this, sub_vI r (i + 1) h.2]
  | .none :: _, _, h => by simp [rowOk] at h
  | .bool _ :: _, _, h => by simp [rowOk] at h
  | .lst _ :: _, _, h => by simp [rowOk] at h
  | .tup _ :: _, _, h => by simp [rowOk] at h
  | .obj _ _ :: _, _, h => by simp [rowOk] at h
  | .ref _ :: _, _, h => by simp [rowOk] at h
  | .dic _ :: _, _, h => by simp [rowOk] at h
  | .dit _ :: _, _, h => by simp [rowOk] at h
end Z
set_option maxHeartbeats 8000000
/-! C36: the defs of k36 -/
namespace Z
open PySem PySem.Spec PyProof.Rows L2
/-- a row over names -/
structure RN (ns : List Str) (n : Nat) (ds : List D) : Prop where
  r : rowOk 0 ds = true
  e : ∀ d ∈ ds, Ent d
  s : ∀ s, D.str s ∈ ds → s ∈ ns
  l : ds.length ≤ n
  o : ds.length % 2 = 1
def optN : Option Nat → D
  | some k => .int k
  | none => .none
def spFalls : Sp2 := fun ws M Q _ => ∃ (l m : List D) (tk ad : List Str), ws = [.d (.tup l), .d (.tup m), .d (.tup (tk.map D.str)), .d (.tup (ad.map D.str))] ∧ rowOk 0 l = true ∧ rowOk 0 m = true ∧ l.length ≤ 1000 ∧ m.length ≤ 1000 ∧ Q (.d (.bool (fallsD tk ad l m))) M
def spPlace : Sp2 := fun ws M Q _ => ∃ (l m : List D) (tk ad : List Str), ws = [.d (.lst l), .d (.lst m), .d (.lst (tk.map D.str)), .d (.lst (ad.map D.str))] ∧ rowOk 0 l = true ∧ rowOk 0 m = true ∧ l.length ≤ 1000 ∧ m.length ≤ 1000 ∧ Q (.d (optN (placeD tk ad 0 l m))) M
def spRow : Sp2 := fun ws M Q _ => ∃ (st sc : Addr) (s : Sm) (M0 : Mp) (c : Nat) (ns : List Str), ws = [.c st, .d (.lst (ns.map D.str))] ∧ M = setS st sc s M0 ∧ ns ≠ [] ∧ ns.length ≤ 20 ∧ (∀ x ∈ ns, isNm x = true) ∧ st ≠ sc ∧ SOk c s ∧ 8 ≤ c ∧ ∀ (ds : List D) s', RN ns 7 ds → SOk (c - 8) s' → Q (.d (.lst ds)) (setS st sc s' M0)
def spVaried : Sp2 := fun ws M Q _ => ∃ (st sc : Addr) (s : Sm) (M0 : Mp) (c : Nat) (ns : List Str) (ro : List D), ws = [.c st, .d (.lst ro), .d (.lst (ns.map D.str))] ∧ M = setS st sc s M0 ∧ RN ns 7 ro ∧ ns ≠ [] ∧ ns.length ≤ 20 ∧ (∀ x ∈ ns, isNm x = true) ∧ st ≠ sc ∧ SOk c s ∧ 12 ≤ c ∧ ∀ (ds : List D) s' M1, RN ns 9 ds → SOk (c - 12) s' → Ext M0 M1 → Q (.d (.lst ds)) (setS st sc s' M1)
def spValue : Sp2 := fun ws M Q _ => ∃ (ds : List D) (t : Addr) (B : Tb), ws = [.d (.lst ds), .c t] ∧ M t = some (.dic none (kvT B)) ∧ (∀ d ∈ ds, Ent d) ∧ (∀ s, D.str s ∈ ds → s ∈ B.map (·.1)) ∧ ds.length ≤ 1000 ∧ Q (.d (.lst ((ds.map (vI (valT B))).map D.int))) M
def b_falls_0 : Ss := .cons (.ret (.cmp .lt (.ix (.var 1) (.var 4)) (.ix (.var 0) (.var 4)))) .nil
def b_falls_1 : Ss := .cons (.iff (.cmp .ne (.ix (.var 0) (.var 4)) (.ix (.var 1) (.var 4))) b_falls_0 .nil) .nil
def b_falls_2 : Ss := .cons (.ret (.cst (.bool false))) .nil
def b_falls_3 : Ss := .cons (.ret (.cst (.bool true))) .nil
def b_falls_4 : Ss := .cons (.iff (.cmp .in_ (.ix (.var 0) (.var 4)) (.var 2)) b_falls_3 .nil) .nil
def b_falls_5 : Ss := .cons (.iff (.or (.cmp .ne (.ix (.var 0) (.var 4)) (.ix (.var 1) (.var 4))) (.cons (.cmp .in_ (.ix (.var 0) (.var 4)) (.var 3)) .nil)) b_falls_2 .nil) b_falls_4
def b_falls_6 : Ss := .cons (.aug true 4 (.cst (.int 1))) .nil
def b_falls_7 : Ss := .cons (.iff (.cmp .eq (.bin .mod (.var 4) (.cst (.int 2))) (.cst (.int 0))) b_falls_1 b_falls_5) b_falls_6
def b_falls_8 : Ss := .cons (.ret (.cst (.bool false))) .nil
def b_falls_9 : Ss := .cons (.whl (.and (.cmp .lt (.var 4) (.blt .len (.cons (.var 0) .nil))) (.cons (.cmp .lt (.var 4) (.blt .len (.cons (.var 1) .nil))) .nil)) b_falls_7) b_falls_8
def b_falls_10 : Ss := .cons (.asg (.name 4) (.cst (.int 0))) b_falls_9
def b_falls : Ss := b_falls_10
def g_falls : Env2 := ⟨[], [], noO⟩
def b_Lrow_0 : Ss := .cons (.asg (.name 2) (.bin (.add false) (.var 2) (.lst false (.cons (.call 1 (.cons (.var 0) (.cons (.var 1) .nil))) (.cons (.call 0 (.cons (.var 0) (.cons (.cst (.int 3)) .nil))) .nil))))) .nil
def b_Lrow_1 : Ss := .cons (.ret (.var 2)) .nil
def b_Lrow_2 : Ss := .cons (.for (.name 3) (.rng1 (.call 0 (.cons (.var 0) (.cons (.cst (.int 4)) .nil)))) b_Lrow_0) b_Lrow_1
def b_Lrow_3 : Ss := .cons (.asg (.name 2) (.lst false (.cons (.call 0 (.cons (.var 0) (.cons (.cst (.int 3)) .nil))) .nil))) b_Lrow_2
def b_Lrow : Ss := b_Lrow_3
def g_Lrow : Env2 := ⟨[⟨"_law_draw", spDraw, []⟩, ⟨"_law_pick", spPick, []⟩], [], noO⟩
@[simp] theorem gf_Lrow : g_Lrow.f = ([⟨"_law_draw", spDraw, []⟩, ⟨"_law_pick", spPick, []⟩] : List Cal) := rfl
def b_Lvaried_0 : Ss := .cons (.ret (.call 1 (.cons (.var 0) (.cons (.var 2) .nil)))) .nil
def b_Lvaried_1 : Ss := .cons (.ret (.bin (.add false) (.var 4) (.lst false (.cons (.call 2 (.cons (.var 0) (.cons (.var 2) .nil))) (.cons (.call 0 (.cons (.var 0) (.cons (.cst (.int 3)) .nil))) .nil))))) .nil
def b_Lvaried_2 : Ss := .cons (.ret (.sl false (.var 4) .nil (.cons (.neg (.cst (.int 2))) .nil))) .nil
def b_Lvaried_3 : Ss := .cons (.ret (.var 4)) .nil
def b_Lvaried_4 : Ss := .frz 4 b_Lvaried_3
def b_Lvaried_5 : Ss := .cons (.asg (.sub (.var 4) (.var 3)) (.ife (.cmp .eq (.bin .mod (.var 3) (.cst (.int 2))) (.cst (.int 1))) (.call 2 (.cons (.var 0) (.cons (.var 2) .nil))) (.call 0 (.cons (.var 0) (.cons (.cst (.int 4)) .nil))))) b_Lvaried_4
def b_Lvaried_6 : Ss := .cons (.asg (.name 3) (.call 0 (.cons (.var 0) (.cons (.blt .len (.cons (.var 1) .nil)) .nil)))) b_Lvaried_5
def b_Lvaried_7 : Ss := .cons (.iff (.and (.cmp .eq (.var 5) (.cst (.int 2))) (.cons (.cmp .gt (.blt .len (.cons (.var 1) .nil)) (.cst (.int 2))) .nil)) b_Lvaried_2 .nil) b_Lvaried_6
def b_Lvaried_8 : Ss := .cons (.iff (.cmp .eq (.var 5) (.cst (.int 1))) b_Lvaried_1 .nil) b_Lvaried_7
def b_Lvaried_9 : Ss := .cons (.iff (.cmp .eq (.var 5) (.cst (.int 0))) b_Lvaried_0 .nil) b_Lvaried_8
def b_Lvaried_10 : Ss := .cons (.par 4 5 (.blt (.list true) (.cons (.var 1) .nil)) (.call 0 (.cons (.var 0) (.cons (.cst (.int 6)) .nil)))) b_Lvaried_9
def b_Lvaried : Ss := b_Lvaried_10
def g_Lvaried : Env2 := ⟨[⟨"_law_draw", spDraw, []⟩, ⟨"_law_row", spRow, []⟩, ⟨"_law_pick", spPick, []⟩], [], noO⟩
@[simp] theorem gf_Lvaried : g_Lvaried.f = ([⟨"_law_draw", spDraw, []⟩, ⟨"_law_row", spRow, []⟩, ⟨"_law_pick", spPick, []⟩] : List Cal) := rfl
def b_Lvalue_0 : Ss := .cons (.ret (.lc false (.seq (.var 0)) 2 .nil (.ife (.isi .str (.var 2)) (.ext (.dget) (.cons (.var 1) (.cons (.var 2) .nil))) (.var 2)))) .nil
def b_Lvalue : Ss := b_Lvalue_0
def g_Lvalue : Env2 := ⟨[], [], noO⟩
def b_Lplace_0 : Ss := .cons (.ret (.var 4)) .nil
def b_Lplace_1 : Ss := .cons (.iff (.or (.cmp .ne (.ix (.var 0) (.var 4)) (.ix (.var 1) (.var 4))) (.cons (.var 5) .nil)) b_Lplace_0 .nil) .nil
def b_Lplace_2 : Ss := .cons (.asg (.name 5) (.and (.cmp .eq (.bin .mod (.var 4) (.cst (.int 2))) (.cst (.int 1))) (.cons (.or (.cmp .in_ (.ix (.var 0) (.var 4)) (.var 2)) (.cons (.cmp .in_ (.ix (.var 0) (.var 4)) (.var 3)) .nil)) .nil))) b_Lplace_1
def b_Lplace_3 : Ss := .cons (.ret (.cst .non)) .nil
def b_Lplace_4 : Ss := .cons (.for (.name 4) (.rng1 (.ext (.min2) (.cons (.blt .len (.cons (.var 0) .nil)) (.cons (.blt .len (.cons (.var 1) .nil)) .nil)))) b_Lplace_2) b_Lplace_3
def b_Lplace : Ss := b_Lplace_4
def g_Lplace : Env2 := ⟨[], [], noO⟩

theorem nm_st {s : Str} (h : isNm s = true) : strK s ∧ s.length ≤ 100 := by
  unfold isNm at h
  simp only [Bool.and_eq_true, decide_eq_true_eq, List.all_eq_true] at h
  have n : Nm s := ⟨h.1.1.1, h.1.1.2, h.2⟩
  exact ⟨strK_nm n, by have := n.2.1; omega⟩
theorem fIn_t {M : Mp} {z : Str} {xs : List Str} : fIn M (.d (.str z)) (.d (.tup (xs.map D.str))) = some (decide (z ∈ xs)) := by
  simp [seqS_t]
theorem fIn_l {M : Mp} {z : Str} {xs : List Str} : fIn M (.d (.str z)) (.d (.lst (xs.map D.str))) = some (decide (z ∈ xs)) := by
  simp [seqS_l]
theorem falls_ok : Ok g_falls 5 b_falls spFalls := by
  rintro ws M Q E ⟨l, m, tk, ad, rfl, hl, hm, ll, lm, q⟩
  simp [b_falls, b_falls_10, b_falls_9]
  refine while_run (fun n σ M' => M' = M ∧ ∃ (la lm l' m' : List D), l = la ++ l' ∧ m = lm ++ m' ∧ la.length = lm.length ∧ n = l'.length ∧ rowOk la.length l' = true ∧ rowOk la.length m' = true ∧ fallsD tk ad l m = fallsD tk ad l' m' ∧ σ = [some (.d (.tup l)), some (.d (.tup m)), some (.d (.tup (tk.map D.str))), some (.d (.tup (ad.map D.str))), some (.d (.int (la.length : Nat)))]) (fun n σ M' K I kk => ?_) l.length _ _ ⟨rfl, [], [], l, m, rfl, rfl, rfl, rfl, hl, hm, rfl, rfl⟩
  obtain ⟨rfl, la, lm, l', m', e1, e2, e3, e4, r1, r2, ef, rfl⟩ := I
  have L1 : l.length = la.length + l'.length := by rw [e1]; simp
  have L2 : m.length = la.length + m'.length := by rw [e2, e3]; simp
  cases l' with
  | nil =>
    have h1 : ¬ (la.length : Int) < (l.length : Int) := by rw [L1]; simp
    rw [ef] at q
    simp [h1, b_falls_8]
    simpa [fallsD] using q
  | cons x l' =>
    have h1 : (la.length : Int) < (l.length : Int) := by rw [L1, List.length_cons]; omega
    cases m' with
    | nil =>
      have h2 : ¬ (la.length : Int) < (m.length : Int) := by rw [L2]; simp
      have : fallsD tk ad (x :: l') [] = false := by cases x <;> simp [fallsD]
      rw [ef, this] at q
      simp [h1, h2, b_falls_8]
      exact q
    | cons y m' =>
      have h2 : (la.length : Int) < (m.length : Int) := by rw [L2, List.length_cons]; omega
      have gx : l[la.length]? = some x := by rw [e1]; simp
      have gy : m[la.length]? = some y := by rw [e2, e3]; simp
      have ax : atI (l.map W.d) ((la.length : Nat) : Int) = some (.d x) := by rw [atI_cast, List.getElem?_map, gx]; rfl
      have ay : atI (m.map W.d) ((la.length : Nat) : Int) = some (.d y) := by rw [atI_cast, List.getElem?_map, gy]; rfl
      simp [h1, h2, b_falls_7]
      cases x with
      | int a =>
        simp only [rowOk, Bool.and_eq_true, decide_eq_true_eq] at r1
        have ev : (la.length : Int) % 2 = 0 := by omega
        cases y with
        | int b =>
          simp only [rowOk, Bool.and_eq_true, decide_eq_true_eq] at r2
          have nx : a = b → K [some (.d (.tup l)), some (.d (.tup m)), some (.d (.tup (tk.map D.str))), some (.d (.tup (ad.map D.str))), some (.d (.int ((la.length : Int) + 1)))] M' := fun e => kk _ _ _ (by rw [e4]; exact Nat.lt_succ_self _) ⟨rfl, la ++ [.int a], lm ++ [.int b], l', m', by rw [e1]; simp, by rw [e2]; simp, by simp [e3], rfl, by simpa using r1.2, by simpa using r2.2, by rw [ef, fallsD, if_pos e], by simp⟩
          simp [ev, b_falls_1, gx, gy]
          by_cases c : a = b
          · simp [c, b_falls_6]
            exact nx c
          · rw [ef, fallsD, if_neg c] at q
            simp [c, b_falls_0, gx, gy]
            exact q
        | _ => simp [rowOk] at r2 <;> omega
      | str a =>
        simp only [rowOk, Bool.and_eq_true, decide_eq_true_eq] at r1
        have ev : ¬ (la.length : Int) % 2 = 0 := by omega
        cases y with
        | str b =>
          simp only [rowOk, Bool.and_eq_true, decide_eq_true_eq] at r2
          have nx : a = b → a ∉ ad → a ∉ tk → K [some (.d (.tup l)), some (.d (.tup m)), some (.d (.tup (tk.map D.str))), some (.d (.tup (ad.map D.str))), some (.d (.int ((la.length : Int) + 1)))] M' := fun e n1 n2 => kk _ _ _ (by rw [e4]; exact Nat.lt_succ_self _) ⟨rfl, la ++ [.str a], lm ++ [.str b], l', m', by rw [e1]; simp, by rw [e2]; simp, by simp [e3], rfl, by simpa using r1.2, by simpa using r2.2, by rw [ef, fallsD, if_pos ⟨e, n1⟩, if_neg n2], by simp⟩
          simp [ev, b_falls_5, gx, gy, -fIn_s, fIn_t]
          by_cases c : a = b
          · subst c
            simp
            by_cases c1 : a ∈ ad
            · rw [ef, fallsD, if_neg (fun z => z.2 c1)] at q
              simp [c1, b_falls_2]
              exact q
            · simp [c1, b_falls_4, gx, -fIn_s, fIn_t]
              by_cases c2 : a ∈ tk
              · rw [ef, fallsD, if_pos ⟨rfl, c1⟩, if_pos c2] at q
                simp [c2, b_falls_3]
                exact q
              · simp [c2, b_falls_6]
                exact nx rfl c1 c2
          · rw [ef, fallsD, if_neg (fun z => c z.1)] at q
            simp [c, b_falls_2]
            exact q
        | _ => simp [rowOk] at r2 <;> omega
      | _ => simp [rowOk] at r1
theorem place_ok : Ok g_Lplace 6 b_Lplace spPlace := by
  rintro ws M Q E ⟨l, m, tk, ad, rfl, hl, hm, ll, lm, q⟩
  simp [b_Lplace, b_Lplace_4]
  rw [show (if m.length < l.length then (m.length : Int) else (l.length : Int)) = ((min l.length m.length : Nat) : Int) by
    split <;> omega]
  refine ⟨by omega, by omega, ?_⟩
  rw [Int.toNat_natCast]
  refine for_run (fun r σ M' => ∃ (la lm l' m' : List D) (v4 v5 : Option W), r = rngW (la.length : Int) (min l'.length m'.length) ∧ l = la ++ l' ∧ m = lm ++ m' ∧ la.length = lm.length ∧ rowOk la.length l' = true ∧ rowOk la.length m' = true ∧ placeD tk ad 0 l m = placeD tk ad la.length l' m' ∧ σ = [some (.d (.lst l)), some (.d (.lst m)), some (.d (.lst (tk.map D.str))), some (.d (.lst (ad.map D.str))), v4, v5] ∧ M' = M) ?_ ?_ _ _ _ ⟨[], [], l, m, _, _, rfl, rfl, rfl, rfl, hl, hm, rfl, rfl, rfl⟩
  · rintro w r σ M' K ⟨la, lm, l', m', v4, v5, e, e1, e2, e3, r1, r2, ef, rfl, rfl⟩ hK
    cases l' with
    | nil => simp at e
    | cons x l' => cases m' with
      | nil => simp at e
      | cons y m' =>
        rw [show min (x :: l').length (y :: m').length = min l'.length m'.length + 1 by simp only [List.length_cons]; omega, rng_cons] at e
        cases e
        have gx : l[la.length]? = some x := by rw [e1]; simp
        have gy : m[la.length]? = some y := by rw [e2, e3]; simp
        have nx : placeD tk ad la.length (x :: l') (y :: m') = placeD tk ad (la.length + 1) l' m' → rowOk (la.length + 1) l' = true → rowOk (la.length + 1) m' = true → ∀ v5, K [some (.d (.lst l)), some (.d (.lst m)), some (.d (.lst (tk.map D.str))), some (.d (.lst (ad.map D.str))), some (.d (.int (la.length : Nat))), v5] M' := fun e4 e5 e6 v5 => hK _ _ ⟨la ++ [x], lm ++ [y], l', m', _, _, by simp, by rw [e1]; simp, by rw [e2]; simp, by simp [e3], by simpa using e5, by simpa using e6, by rw [ef, e4]; simp, rfl, rfl⟩
        refine ⟨trivial, ?_⟩
        cases x with
        | int a =>
          simp only [rowOk, Bool.and_eq_true, decide_eq_true_eq] at r1
          have ev : ¬ (la.length : Int) % 2 = 1 := by omega
          cases y with
          | int b =>
            simp only [rowOk, Bool.and_eq_true, decide_eq_true_eq] at r2
            simp [b_Lplace_2, ev, b_Lplace_1, gx, gy]
            by_cases c : a = b
            · simp [c]
              exact nx (by rw [placeD, if_pos c]) r1.2 r2.2 _
            · rw [ef, placeD, if_neg c] at q
              simp [c, b_Lplace_0]
              exact q
          | _ => simp [rowOk] at r2 <;> omega
        | str a =>
          simp only [rowOk, Bool.and_eq_true, decide_eq_true_eq] at r1
          have ev : (la.length : Int) % 2 = 1 := by omega
          cases y with
          | str b =>
            simp only [rowOk, Bool.and_eq_true, decide_eq_true_eq] at r2
            have main : ∀ c : Bool, (c = true ↔ a ∈ tk ∨ a ∈ ad) → wSs g_Lplace b_Lplace_1 { nx := K, rt := Q, bk := wSs g_Lplace b_Lplace_3 (endOf Q E), ct := K, ex := fun x _ M => E x M } [some (.d (.lst l)), some (.d (.lst m)), some (.d (.lst (tk.map D.str))), some (.d (.lst (ad.map D.str))), some (.d (.int (la.length : Nat))), some (.d (.bool c))] M' := by
              intro c hc
              simp [b_Lplace_1, gx, gy]
              by_cases e9 : a = b ∧ a ∉ tk ∧ a ∉ ad
              · have : c = false := by
                  cases c with
                  | false => rfl
                  | true => rcases hc.mp rfl with h | h; { exact absurd h e9.2.1 }; { exact absurd h e9.2.2 }
                subst this
                simp [e9.1]
                exact nx (by rw [placeD, if_pos e9]) r1.2 r2.2 _
              · rw [ef, placeD, if_neg e9] at q
                by_cases e8 : a = b
                · have : c = true := by
                    rw [hc]
                    by_cases t : a ∈ tk
                    · exact .inl t
                    · by_cases t2 : a ∈ ad
                      · exact .inr t2
                      · exact absurd ⟨e8, t, t2⟩ e9
                  subst this
                  simp [e8, b_Lplace_0]
                  exact q
                · simp [e8, b_Lplace_0]
                  exact q
            simp [b_Lplace_2, ev, gx, gy, -fIn_s, fIn_l]
            split
            · exact main _ (by simp [*])
            · exact main _ (by simp [*])
          | _ => simp [rowOk] at r2 <;> omega
        | _ => simp [rowOk] at r1
  · rintro σ M' ⟨la, lm, l', m', v4, v5, e, e1, e2, e3, r1, r2, ef, rfl, rfl⟩
    refine ⟨trivial, ?_⟩
    have pn : placeD tk ad la.length l' m' = none := by
      cases l' with
      | nil => simp [placeD]
      | cons x l' => cases m' with
        | nil => cases x <;> simp [placeD]
        | cons y m' =>
          rw [show min (x :: l').length (y :: m').length = min l'.length m'.length + 1 by simp only [List.length_cons]; omega, rng_cons] at e
          cases e
    rw [ef, pn] at q
    simpa [b_Lplace_3, optN] using q
theorem value_ok : Ok g_Lvalue 3 b_Lvalue spValue := by
  rintro ws M Q E ⟨ds, t, B, rfl, ht, he, hk, hl, q⟩
  simp [b_Lvalue, b_Lvalue_0]
  intro r hr
  refine lc_map (α := D) (fun d => d ∈ ds) W.d (fun d => .int (vI (valT B) d)) hr (fun _ => trivial) ?_ _ (fun _ h => h) (by omega) ?_
  · rintro d hd acc K hK
    have f1 := ext_put (c := .lst acc) hr _ _ ht
    have hE := he d hd
    cases d with
    | int n => simpa [vI] using hK
    | str s =>
      obtain ⟨i, hi⟩ := mem_key (hk s hd)
      simp only [vI, valT_some hi] at hK
      simpa [f1, hi] using hK
    | _ => exact hE.elim
  · rw [List.map_map] at q
    exact q
theorem rowOk_app {es : List D} : ∀ (ds : List D) (i : Nat), rowOk i ds = true → rowOk (i + ds.length) es = true → rowOk i (ds ++ es) = true
  | [], i, _, h => by simpa using h
  | d :: r, i, h, h2 => by
    rw [List.length_cons, ← Nat.add_assoc, Nat.add_right_comm] at h2
    cases d with
    | int n =>
      simp only [rowOk, Bool.and_eq_true, decide_eq_true_eq, List.cons_append] at h ⊢
      exact ⟨h.1, rowOk_app r _ h.2 h2⟩
    | str n =>
      simp only [rowOk, Bool.and_eq_true, decide_eq_true_eq, List.cons_append] at h ⊢
      exact ⟨h.1, rowOk_app r _ h.2 h2⟩
    | _ => simp [rowOk] at h
theorem RN.app {ns : List Str} {n n' : Nat} {ds : List D} (h : RN ns n ds) {z : Str} (hz : z ∈ ns) (hn : isNm z = true) {y : Int} (y0 : 0 ≤ y) (hl : n + 2 ≤ n') (y1 : y < 1000 := by omega) : RN ns n' (ds ++ [.str z, .int y]) := by
  have ho := h.o
  refine ⟨rowOk_app ds 0 h.r ?_, fun d hd => ?_, fun s hs => ?_, by have := h.l; simp; omega, by simp; omega⟩
  · simp [rowOk, hn, y0]; omega
  · rcases List.mem_append.mp hd with hd | hd
    · exact h.e d hd
    · simp at hd
      rcases hd with rfl | rfl
      · exact nm_st hn
      · show y.natAbs < 10 ^ 40; omega
  · rcases List.mem_append.mp hs with hs | hs
    · exact h.s s hs
    · simp at hs
      rw [hs]; exact hz
theorem row_ok : Ok g_Lrow 4 b_Lrow spRow := by
  rintro ws M Q E ⟨st, sc, s, M0, c, ns, rfl, rfl, n0, nl, hn, ne, hs, hc, q⟩
  simp [b_Lrow, b_Lrow_3]
  refine ⟨st, sc, s, M0, c, 3, by simp, rfl, ne, hs, by omega, by decide, by decide, fun r s1 r0 r1 hs1 => ?_⟩
  simp [b_Lrow_2]
  refine ⟨st, sc, s1, M0, _, 4, by simp, rfl, ne, hs1, by omega, by decide, by decide, fun k s2 k0 k1 hs2 => ?_⟩
  obtain ⟨k, rfl⟩ : ∃ i : Nat, k = (i : Int) := ⟨k.toNat, by omega⟩
  simp
  refine ⟨by omega, ?_⟩
  refine for_run (fun r σ M' => ∃ (n i : Nat) (ds : List D) (s' : Sm) (v : Option W), r = rngW (i : Int) n ∧ RN ns (7 - 2 * n) ds ∧ n ≤ 3 ∧ σ = [some (.c st), some (.d (.lst (ns.map D.str))), some (.d (.lst ds)), v] ∧ M' = setS st sc s' M0 ∧ SOk (c - 8 + 2 * n) s') ?_ ?_ _ _ _ ⟨k, 0, [.int r], s2, _, rfl, ⟨by simp [rowOk]; omega, fun d hd => ?_, fun s hs => ?_, by simp; omega, by simp⟩, by omega, rfl, rfl, hs2.le (by omega)⟩
  · rintro w r' σ M' K ⟨n, i, ds, s', v, e, rn, nl3, rfl, rfl, hs'⟩ hK
    cases n with
    | zero => cases e
    | succ n =>
      rw [rng_cons] at e
      cases e
      refine ⟨trivial, ?_⟩
      simp [b_Lrow_0]
      refine ⟨st, sc, s', M0, _, _, _, rfl, rfl, seqF_l, by simpa using n0, by simp; omega, ne, hs', by omega, fun d s4 hd hs4 => ?_⟩
      obtain ⟨z, hz, rfl⟩ := List.mem_map.mp hd
      refine ⟨st, sc, s4, M0, _, 3, by simp, rfl, ne, hs4, by omega, by decide, by decide, fun y s5 y0 y1 hs5 => ?_⟩
      have rn2 := rn.app (n' := 7 - 2 * n) hz (hn z hz) y0 (by omega)
      have l7 := rn.l
      simp
      rw [show ds.map W.d ++ [W.d (.str z), W.d (.int y)] = (ds ++ [D.str z, D.int y]).map W.d by simp, unD_map, onO_some]
      exact ⟨szl (by omega), hK _ _ ⟨n, i + 1, _, s5, _, rfl, rn2, by omega, rfl, rfl, hs5.le (by omega)⟩⟩
  · rintro σ M' ⟨n, i, ds, s', v, e, rn, nl3, rfl, rfl, hs'⟩
    cases n with
    | succ n => rw [rng_cons] at e; cases e
    | zero =>
      refine ⟨trivial, ?_⟩
      simp [b_Lrow_1]
      exact q ds s' rn (hs'.le (by omega))
  · rw [List.mem_singleton.mp hd]
    show r.natAbs < 10 ^ 40
    omega
  · cases List.mem_singleton.mp hs
theorem rowOk_set {x : D} : ∀ (ds : List D) (i j : Nat), rowOk i ds = true → rowOk (i + j) [x] = true → rowOk i (ds.set j x) = true
  | [], i, j, h, _ => by simpa using h
  | d :: r, i, 0, h, h2 => by
    rw [List.set_cons_zero]
    have hr : rowOk (i + 1) r = true := by
      cases d with
      | int n => simp only [rowOk, Bool.and_eq_true] at h; exact h.2
      | str n => simp only [rowOk, Bool.and_eq_true] at h; exact h.2
      | _ => simp [rowOk] at h
    exact rowOk_app [x] i h2 hr
  | d :: r, i, j + 1, h, h2 => by
    rw [List.set_cons_succ]
    rw [← Nat.add_assoc, Nat.add_right_comm] at h2
    cases d with
    | int n =>
      simp only [rowOk, Bool.and_eq_true, decide_eq_true_eq] at h ⊢
      exact ⟨h.1, rowOk_set r _ j h.2 h2⟩
    | str n =>
      simp only [rowOk, Bool.and_eq_true, decide_eq_true_eq] at h ⊢
      exact ⟨h.1, rowOk_set r _ j h.2 h2⟩
    | _ => simp [rowOk] at h
theorem RN.set {ns : List Str} {n j : Nat} {ds : List D} {x : D} (h : RN ns n ds) (hj : j < ds.length) (hx : rowOk j [x] = true) (he : Ent x) (hs : ∀ s, x = .str s → s ∈ ns) : RN ns n (ds.set j x) := by
  refine ⟨rowOk_set ds 0 j h.r (by simpa using hx), fun d hd => ?_, fun s hd => ?_, by have := h.l; simpa using this, by have := h.o; simpa using this⟩
  · rcases List.mem_or_eq_of_mem_set hd with hd | hd
    · exact h.e d hd
    · rw [hd]; exact he
  · rcases List.mem_or_eq_of_mem_set hd with hd | hd
    · exact h.s s hd
    · exact hs s hd.symm
theorem rowOk_take : ∀ (ds : List D) (i n : Nat), rowOk i ds = true → rowOk i (ds.take n) = true
  | [], i, n, h => by simpa using h
  | d :: r, i, 0, h => by simp [rowOk]
  | d :: r, i, n + 1, h => by
    rw [List.take_succ_cons]
    cases d with
    | int k =>
      simp only [rowOk, Bool.and_eq_true, decide_eq_true_eq] at h ⊢
      exact ⟨h.1, rowOk_take r _ n h.2⟩
    | str k =>
      simp only [rowOk, Bool.and_eq_true, decide_eq_true_eq] at h ⊢
      exact ⟨h.1, rowOk_take r _ n h.2⟩
    | _ => simp [rowOk] at h
theorem cut2 {α : Type} (xs : List α) : cutW xs none (some (-2)) = xs.take (xs.length - 2) := by
  unfold cutW
  have h0 : HT.sIx xs.length 0 none = 0 := rfl
  have h1 : HT.sIx xs.length xs.length (some (-2)) = xs.length - 2 := by
    unfold HT.sIx
    simp
    omega
  rw [h0, h1, List.drop_zero, Nat.sub_zero]
theorem varied_ok : Ok g_Lvaried 6 b_Lvaried spVaried := by
  rintro ws M Q E ⟨st, sc, s, M0, c, ns, ro, rfl, rfl, rn, n0, nl, hn, ne, hs, hc, q⟩
  simp [b_Lvaried, b_Lvaried_10]
  intro el hel
  obtain ⟨l1, l2, l3⟩ := setS_none.mp hel
  rw [put_setS l1 l2]
  refine ⟨st, sc, s, _, c, 6, by simp, rfl, ne, hs, by omega, by decide, by decide, fun w s1 w0 w1 hs1 => ?_⟩
  have it : ∀ s', itemsC (setS st sc s' (put M0 el (.lst (ro.map W.d))) el) = some (ro.map W.d) := fun s' => by rw [setS_ne l1 l2, put_same]; rfl
  refine ⟨_, _, ⟨rfl, rfl⟩, ?_⟩
  simp [b_Lvaried_9]
  have e1 : Ext M0 (put M0 el (.lst (ro.map W.d))) := ext_put l3
  have rl := rn.l
  have rod := rn.o
  have w8 : ∀ (r : D), wSs g_Lvaried b_Lvaried_8 (endOf Q E) [some (.c st), some (.d (.lst ro)), some (.d (.lst (ns.map D.str))), none, some (.c el), some (.d (.int w))] (setS st sc s1 (put M0 el (.lst (ro.map W.d)))) := by
    intro _
    simp [b_Lvaried_8]
    have w7 : wSs g_Lvaried b_Lvaried_7 (endOf Q E) [some (.c st), some (.d (.lst ro)), some (.d (.lst (ns.map D.str))), none, some (.c el), some (.d (.int w))] (setS st sc s1 (put M0 el (.lst (ro.map W.d)))) := by
      simp [b_Lvaried_7]
      have w6 : wSs g_Lvaried b_Lvaried_6 (endOf Q E) [some (.c st), some (.d (.lst ro)), some (.d (.lst (ns.map D.str))), none, some (.c el), some (.d (.int w))] (setS st sc s1 (put M0 el (.lst (ro.map W.d)))) := by
        simp [b_Lvaried_6]
        refine ⟨st, sc, s1, _, _, ro.length, rfl, rfl, ne, hs1, by omega, by omega, by omega, fun j s2 j0 j1 hs2 => ?_⟩
        obtain ⟨j, rfl⟩ : ∃ i : Nat, j = (i : Int) := ⟨j.toNat, by omega⟩
        have jl : j < ro.length := by omega
        have fin : ∀ (x : D) (s3 : Sm), RN ns 7 (ro.set j x) → SOk (c - 12) s3 → onO (itemsC (setS st sc s3 (put M0 el (.lst (ro.map W.d))) el)) fun us => onO (if j < us.length then some j else none) fun j_1 => wSs g_Lvaried b_Lvaried_4 (endOf Q E) [some (.c st), some (.d (.lst ro)), some (.d (.lst (ns.map D.str))), some (.d (.int (j : Nat))), some (.c el), some (.d (.int w))] (put (setS st sc s3 (put M0 el (.lst (ro.map W.d)))) el (.lst (us.set j_1 (.d x)))) := fun x s3 rn3 hs3 => by
          rw [it, onO_some, if_pos (by simpa using jl), onO_some, put_setS l1 l2, put_put]
          have it2 : itemsC (setS st sc s3 (put M0 el (.lst ((ro.map W.d).set j (.d x)))) el) = some ((ro.set j x).map W.d) := by rw [setS_ne l1 l2, put_same, List.map_set]; rfl
          simp [b_Lvaried_4, b_Lvaried_3]
          rw [it2, onO_some, unD_map, onO_some, del_setS l1 l2, del_put l3]
          exact q _ s3 _ ⟨rn3.r, rn3.e, rn3.s, by have := rn3.l; omega, rn3.o⟩ hs3 fun _ _ h => h
        simp [b_Lvaried_5]
        split
        · rename_i od
          refine ⟨st, sc, s2, _, _, _, _, rfl, rfl, seqF_l, by simpa using n0, by simp; omega, ne, hs2, by omega, fun d s3 hd hs3 => ?_⟩
          obtain ⟨z, hz, rfl⟩ := List.mem_map.mp hd
          exact fin _ s3 (rn.set jl (by simp [rowOk, hn z hz]; omega) (nm_st (hn z hz)) fun s e => by cases e; exact hz) (hs3.le (by omega))
        · rename_i od
          refine ⟨st, sc, s2, _, _, 4, by simp, rfl, ne, hs2, by omega, by decide, by decide, fun y s3 y0 y1 hs3 => ?_⟩
          exact fin _ s3 (rn.set jl (by simp [rowOk]; omega) (by show y.natAbs < 10 ^ 40; omega) fun s e => by cases e) (hs3.le (by omega))
      by_cases c2 : w = 2
      · rw [if_pos c2]
        split
        · rename_i g2
          simp [b_Lvaried_2]
          have e5 : listW (setS st sc s1 (put M0 el (.lst (ro.map W.d)))) (.c el) = some (ro.map W.d) := it s1
          unfold oSlF
          rw [e5]
          show newL false _ _ _
          rw [cut2]
          have rn2 : RN ns 9 (ro.take (ro.length - 2)) := ⟨rowOk_take _ _ _ rn.r, fun d hd => rn.e d (List.mem_of_mem_take hd), fun z hz => rn.s z (List.mem_of_mem_take hz), by simp; omega, by simp; omega⟩
          refine ⟨ro.take (ro.length - 2), ?_, q _ s1 _ rn2 (hs1.le (by omega)) e1⟩
          rw [List.length_map, ← List.map_take]
          exact unD_map _
        · exact w6
      · rw [if_neg c2]; exact w6
    by_cases c1 : w = 1
    · simp [c1, b_Lvaried_1]
      refine ⟨st, sc, s1, _, _, _, _, rfl, rfl, seqF_l, by simpa using n0, by simp; omega, ne, hs1, by omega, fun d s3 hd hs3 => ?_⟩
      obtain ⟨z, hz, rfl⟩ := List.mem_map.mp hd
      refine ⟨st, sc, s3, _, _, 3, by simp, rfl, ne, hs3, by omega, by decide, by decide, fun y s4 y0 y1 hs4 => ?_⟩
      have rn2 := rn.app (n' := 9) hz (hn z hz) y0 (by omega)
      simp [it]
      rw [show ro.map W.d ++ [W.d (.str z), W.d (.int y)] = (ro ++ [D.str z, D.int y]).map W.d by simp, unD_map, onO_some]
      exact ⟨szl (by omega), q _ s4 _ rn2 (hs4.le (by omega)) e1⟩
    · simp [c1]
      exact w7
  by_cases c0 : w = 0
  · simp [c0, b_Lvaried_0]
    refine ⟨st, sc, s1, _, _, ns, rfl, rfl, n0, nl, hn, ne, hs1, by omega, fun ds s2 rn2 hs2 => ?_⟩
    exact q ds s2 _ ⟨rn2.r, rn2.e, rn2.s, by have := rn2.l; omega, rn2.o⟩ (hs2.le (by omega)) e1
  · simp [c0]
    exact w8 .none
/-- numbers ahead and behind -/
structure Ah (ns tk ad : List Str) (A B : Tb) : Prop where
  a : TOk A
  b : TOk B
  ka : ∀ s, s ∈ A.map (·.1) ↔ s ∈ ns
  kb : ∀ s, s ∈ B.map (·.1) ↔ s ∈ ns
  la : A.length ≤ 20
  lb : B.length ≤ 20
  h1 : ∀ s ∈ ns, s ∈ tk → valT B s < valT A s
  h2 : ∀ s ∈ ns, s ∉ tk → s ∉ ad → valT B s = valT A s
  bd : ∀ s, (valT A s).natAbs < 10 ^ 40 ∧ (valT B s).natAbs < 10 ^ 40
def spNumbers36 : Sp2 := fun ws M Q _ => ∃ (st sc : Addr) (s : Sm) (M0 : Mp) (c : Nat) (ns tk ad : List Str), ws = [.c st, .d (.lst (ns.map D.str)), .d (.lst (tk.map D.str)), .d (.lst (ad.map D.str))] ∧ M = setS st sc s M0 ∧ ns.Nodup ∧ (∀ x ∈ ns, isNm x = true) ∧ ns.length ≤ 20 ∧ st ≠ sc ∧ SOk c s ∧ 100 ≤ c ∧ ∀ (t1 t2 : Addr) (A B : Tb) s' M1, Ext M0 M1 → M1 t1 = some (.dic none (kvT A)) → M1 t2 = some (.dic none (kvT B)) → t1 ≠ st → t1 ≠ sc → t2 ≠ st → t2 ≠ sc → t1 ≠ t2 → Ah ns tk ad A B → SOk (c - 100) s' → Q (.d (.tup [.ref t1, .ref t2])) (setS st sc s' M1)
def b_Lnumbers36_0 : Ss := .cons (.dput (.var 5) (.var 4) (.bin (.add false) (.ext (.dget) (.cons (.var 5) (.cons (.var 4) .nil))) (.var 7))) .nil
def b_Lnumbers36_1 : Ss := .cons (.dput (.var 6) (.var 4) (.bin (.add false) (.ext (.dget) (.cons (.var 6) (.cons (.var 4) .nil))) (.var 7))) .nil
def b_Lnumbers36_2 : Ss := .cons (.iff (.cmp .in_ (.var 4) (.var 3)) b_Lnumbers36_1 .nil) .nil
def b_Lnumbers36_3 : Ss := .cons (.iff (.cmp .in_ (.var 4) (.var 2)) b_Lnumbers36_0 b_Lnumbers36_2) .nil
def b_Lnumbers36_4 : Ss := .cons (.asg (.name 7) (.bin (.add false) (.cst (.int 1)) (.bin .mul (.call 0 (.cons (.var 0) (.cons (.cst (.int 3)) .nil))) (.ix (.lst false (.cons (.cst (.int 1)) (.cons (.bin .pow (.cst (.int 10)) (.cst (.int 28))) .nil))) (.call 0 (.cons (.var 0) (.cons (.cst (.int 2)) .nil))))))) b_Lnumbers36_3
def b_Lnumbers36_5 : Ss := .cons (.dput (.var 6) (.var 4) (.ext (.dget) (.cons (.var 5) (.cons (.var 4) .nil)))) b_Lnumbers36_4
def b_Lnumbers36_6 : Ss := .cons (.dput (.var 5) (.var 4) (.bin .mul (.call 0 (.cons (.var 0) (.cons (.cst (.int 4)) .nil))) (.ix (.lst false (.cons (.cst (.int 1)) (.cons (.cst (.int 1)) (.cons (.cst (.int 3)) (.cons (.bin .pow (.cst (.int 10)) (.cst (.int 28))) .nil))))) (.call 0 (.cons (.var 0) (.cons (.cst (.int 4)) .nil)))))) b_Lnumbers36_5
def b_Lnumbers36_7 : Ss := .cons (.ret (.tup (.cons (.ext .asd (.cons (.var 5) .nil)) (.cons (.ext .asd (.cons (.var 6) .nil)) .nil)))) .nil
def b_Lnumbers36_8 : Ss := .cons (.for (.name 4) (.seq (.var 1)) b_Lnumbers36_6) b_Lnumbers36_7
def b_Lnumbers36_9 : Ss := .cons (.par 5 6 (.ext .dnew .nil) (.ext .dnew .nil)) b_Lnumbers36_8
def b_Lnumbers36 : Ss := b_Lnumbers36_9
def g_Lnumbers36 : Env2 := ⟨[⟨"_law_draw", spDraw, []⟩], [], noO⟩
@[simp] theorem gf_Lnumbers36 : g_Lnumbers36.f = ([⟨"_law_draw", spDraw, []⟩] : List Cal) := rfl

/-- one number is set -/
structure St1 (A : Tb) (z : Str) (x : Int) (A' : Tb) : Prop where
  v : ∀ s, valT A' s = if s = z then x else valT A s
  k : ∀ s, s ∈ A'.map (·.1) ↔ s ∈ A.map (·.1) ∨ s = z
  t : TOk A'
theorem val_put3 {tb : Tb} {s t : Str} {i : Int} : valT (putT tb s i) t = if t = s then i else valT tb t := by
  unfold valT; rw [look_put]; split <;> rfl
theorem key_put3 {tb : Tb} {s t : Str} {i : Int} : t ∈ (putT tb s i).map (·.1) ↔ t ∈ tb.map (·.1) ∨ t = s := by
  rw [key_look, key_look, look_put]
  by_cases c : t = s
  · simp [c]
  · simp [c]
theorem St1.put {A : Tb} {z : Str} {x : Int} (a : TOk A) (hz : isNm z = true) (hx : 0 ≤ x) (hl : A.length ≤ 500) : St1 A z x (putT A z x) :=
  ⟨fun _ => val_put3, fun _ => key_put3, a.put hz hx (by have := putT_len (tb := A) (s := z) (i := x); omega)⟩
theorem St1.len {A A' : Tb} {z : Str} {x : Int} (h : St1 A z x A') : A'.length ≤ A.length + 1 := by
  have := nd_len (l1 := A'.map (·.1)) (l2 := A.map (·.1) ++ [z]) h.t.nd fun s hs => by
    rw [List.mem_append, List.mem_singleton]
    exact (h.k s).mp hs
  simpa using this
theorem St1.put2 {A A' : Tb} {z : Str} {x y : Int} (h : St1 A z x A') (hz : isNm z = true) (hy : 0 ≤ y) (hl : A'.length ≤ 500) : St1 A z y (putT A' z y) := by
  refine ⟨fun s => ?_, fun s => ?_, h.t.put hz hy (by have := putT_len (tb := A') (s := z) (i := y); omega)⟩
  · rw [val_put3, h.v]
    by_cases c : s = z
    · rw [if_pos c, if_pos c]
    · rw [if_neg c, if_neg c, if_neg c]
  · rw [key_put3, h.k]
    constructor
    · exact fun h => h.elim id .inr
    · exact fun h => .inl h
theorem numbers36_ok : Ok g_Lnumbers36 8 b_Lnumbers36 spNumbers36 := by
  rintro ws M Q E ⟨st, sc, s, M0, c, ns, tk, ad, rfl, rfl, nd, hn, hl, ne, hs, hc, q⟩
  simp [b_Lnumbers36, b_Lnumbers36_9]
  intro t1 ht1 t2 ht2
  obtain ⟨a1, a2, a3⟩ := setS_none.mp ht1
  have n12 : t1 ≠ t2 := fun e => by rw [e, put_same] at ht2; cases ht2
  rw [put_setS a1 a2] at ht2
  obtain ⟨b1, b2, b3⟩ := setS_none.mp ht2
  rw [put_ne (Ne.symm n12)] at b3
  refine ⟨_, _, ⟨rfl, rfl⟩, ?_⟩
  rw [put_setS a1 a2, put_setS b1 b2]
  obtain ⟨mem, hmem⟩ : ∃ mem : Sm → Tb → Tb → Mp, mem = fun s A B => setS st sc s (put (put M0 t1 (.dic none (kvT A))) t2 (.dic none (kvT B))) := ⟨_, rfl⟩
  have g1 : ∀ s A B, mem s A B t1 = some (.dic none (kvT A)) := fun s A B => by rw [hmem]; show setS _ _ _ _ _ = _; rw [setS_ne a1 a2, put_ne n12, put_same]
  have g2 : ∀ s A B, mem s A B t2 = some (.dic none (kvT B)) := fun s A B => by rw [hmem]; show setS _ _ _ _ _ = _; rw [setS_ne b1 b2, put_same]
  have p1 : ∀ s A B A', put (mem s A B) t1 (.dic none (kvT A')) = mem s A' B := fun s A B A' => by rw [hmem]; show put (setS _ _ _ _) _ _ = _; rw [put_setS a1 a2, put_comm n12, put_put, put_comm (Ne.symm n12)]
  have p2 : ∀ s A B B', put (mem s A B) t2 (.dic none (kvT B')) = mem s A B' := fun s A B B' => by rw [hmem]; show put (setS _ _ _ _) _ _ = _; rw [put_setS b1 b2, put_put]
  have me : ∀ s A B, mem s A B = setS st sc s (put (put M0 t1 (.dic none (kvT A))) t2 (.dic none (kvT B))) := fun s A B => by rw [hmem]
  have ex : ∀ A B, Ext M0 (put (put M0 t1 (.dic none (kvT A))) t2 (.dic none (kvT B))) := fun A B a c h => by rw [put_ne (ne_of b3 h), put_ne (ne_of a3 h), h]
  show wSs g_Lnumbers36 b_Lnumbers36_8 _ _ (setS st sc s (put (put M0 t1 (.dic none (kvT []))) t2 (.dic none (kvT []))))
  rw [← me]
  simp [b_Lnumbers36_8]
  refine for_run (fun r σ M' => ∃ (ps zs : List Str) (A B : Tb) (s' : Sm) (v4 v7 : Option W), r = zs.map (W.d ∘ D.str) ∧ ns = ps ++ zs ∧ Ah ps tk ad A B ∧ A.length ≤ ps.length ∧ B.length ≤ ps.length ∧ σ = [some (.c st), some (.d (.lst (ns.map D.str))), some (.d (.lst (tk.map D.str))), some (.d (.lst (ad.map D.str))), v4, some (.c t1), some (.c t2), v7] ∧ M' = mem s' A B ∧ SOk (c - 100 + 5 * zs.length) s') ?_ ?_ _ _ _ ⟨[], ns, [], [], s, _, _, rfl, rfl, ⟨⟨by simp, (fun _ h => nomatch h), by simp⟩, ⟨by simp, (fun _ h => nomatch h), by simp⟩, by simp, by simp, by simp, by simp, by simp, by simp, fun s => ⟨by show (0 : Int).natAbs < _; decide, by show (0 : Int).natAbs < _; decide⟩⟩, by simp, by simp, rfl, rfl, hs.le (by omega)⟩
  · rintro w r σ M' K ⟨ps, zs, A, B, s', v4, v7, e, en, ah, lA, lB, rfl, rfl, hs'⟩ hK
    cases zs with
    | nil => cases e
    | cons z zs =>
      cases e
      have ln : ns.length = ps.length + zs.length + 1 := by rw [en]; simp; omega
      have hz : z ∈ ns := by rw [en]; simp
      have nz := hn z hz
      refine ⟨trivial, ?_⟩
      rw [List.length_cons] at hs'
      simp [b_Lnumbers36_6]
      refine ⟨st, sc, s', _, _, 4, by simp, me _ _ _, ne, hs', by omega, by decide, by decide, fun x s1 x0 x1 hs1 => ?_⟩
      refine ⟨st, sc, s1, _, _, 4, by simp, rfl, ne, hs1, by omega, by decide, by decide, fun y s2 y0 y1 hs2 => ?_⟩
      rw [← me]
      have hy : ∃ i : Int, 0 ≤ i ∧ i ≤ 10 ^ 28 ∧ atI [W.d (.int 1), .d (.int 1), .d (.int 3), .d (.int 10000000000000000000000000000)] y = some (.d (.int i)) := by
        have : y = 0 ∨ y = 1 ∨ y = 2 ∨ y = 3 := by omega
        rcases this with rfl | rfl | rfl | rfl
        · exact ⟨1, by decide, by decide, rfl⟩
        · exact ⟨1, by decide, by decide, rfl⟩
        · exact ⟨3, by decide, by decide, rfl⟩
        · exact ⟨10 ^ 28, by decide, by decide, rfl⟩
      obtain ⟨i2, i0, i1, hi⟩ := hy
      have ml : ∀ a b : Int, 0 ≤ a → a < 4 → 0 ≤ b → b ≤ 10 ^ 28 → oMul0 a b ∧ 0 ≤ a * b ∧ a * b ≤ 3 * 10 ^ 28 := fun a b h1 h2 h3 h4 => by
        have l1 : a.natAbs.log2 < 10 := lg (by omega) (by decide)
        have l2 : b.natAbs.log2 < 200 := lg (by omega) (by decide)
        refine ⟨by show _ + _ < _; omega, Int.mul_nonneg h1 h3, ?_⟩
        exact Int.le_trans (Int.mul_le_mul_of_nonneg_right (show a ≤ 3 by omega) h3) (Int.mul_le_mul_of_nonneg_left h4 (by decide))
      obtain ⟨m0, m1, m2⟩ := ml x i2 x0 x1 i0 i1
      simp [hi, g1]
      refine ⟨m0, szlt (by omega), ?_⟩
      rw [p1]
      generalize x * i2 = v at m1 m2
      clear m0 hi i0 i1
      have sA := St1.put ah.a nz m1 (by omega)
      have sB := St1.put ah.b nz m1 (by omega)
      have lvA : (putT A z v).lookup z = some v := by rw [look_put, if_pos rfl]
      have lvB : (putT B z v).lookup z = some v := by rw [look_put, if_pos rfl]
      have lA1 := sA.len
      have lB1 := sB.len
      simp [b_Lnumbers36_5, g1, g2, lvA]
      refine ⟨szlt (by omega), ?_⟩
      rw [p2]
      simp [b_Lnumbers36_4]
      refine ⟨st, sc, s2, _, _, 3, by simp, me _ _ _, ne, hs2, by omega, by decide, by decide, fun x2 s3 x20 x21 hs3 => ?_⟩
      refine ⟨st, sc, s3, _, _, 2, by simp, rfl, ne, hs3, by omega, by decide, by decide, fun y2 s4 y20 y21 hs4 => ?_⟩
      rw [← me]
      have hy2 : ∃ i : Int, 0 ≤ i ∧ i ≤ 10 ^ 28 ∧ atI [W.d (.int 1), .d (.int 10000000000000000000000000000)] y2 = some (.d (.int i)) := by
        have : y2 = 0 ∨ y2 = 1 := by omega
        rcases this with rfl | rfl
        · exact ⟨1, by decide, by decide, rfl⟩
        · exact ⟨10 ^ 28, by decide, by decide, rfl⟩
      obtain ⟨i3, i0, i1, hi⟩ := hy2
      obtain ⟨q0, q1, q2⟩ := ml x2 i3 x20 (by omega) i0 i1
      simp [hi]
      refine ⟨q0, ?_⟩
      generalize x2 * i3 = u at q1 q2
      clear q0 hi i0 i1 ml
      have fin : ∀ (A' B' : Tb) (x y : Int), St1 A z x A' → St1 B z y B' → 0 ≤ x → 0 ≤ y → x < 10 ^ 39 → y < 10 ^ 39 → (z ∈ tk → y < x) → (z ∉ tk → z ∉ ad → y = x) → K [some (.c st), some (.d (.lst (ns.map D.str))), some (.d (.lst (tk.map D.str))), some (.d (.lst (ad.map D.str))), some (.d (.str z)), some (.c t1), some (.c t2), some (.d (.int (1 + u)))] (mem s4 A' B') := by
        intro A' B' x y hA hB hx hy hx2 hy2 c1 c2
        have := hA.len
        have := hB.len
        refine hK _ _ ⟨ps ++ [z], zs, A', B', s4, _, _, rfl, by rw [en]; simp, ⟨hA.t, hB.t, fun s => ?_, fun s => ?_, by omega, by omega, fun s hs ht => ?_, fun s hs h1 h2 => ?_, fun s => ?_⟩, by simp; omega, by simp; omega, rfl, rfl, hs4.le (by omega)⟩
        · rw [hA.k, ah.ka, List.mem_append, List.mem_singleton]
        · rw [hB.k, ah.kb, List.mem_append, List.mem_singleton]
        · rw [hA.v, hB.v]
          by_cases c : s = z
          · rw [if_pos c, if_pos c]; exact c1 (c ▸ ht)
          · rw [if_neg c, if_neg c]
            exact ah.h1 s ((List.mem_append.mp hs).resolve_right fun h => c (List.mem_singleton.mp h)) ht
        · rw [hA.v, hB.v]
          by_cases c : s = z
          · rw [if_pos c, if_pos c]; exact c2 (c ▸ h1) (c ▸ h2)
          · rw [if_neg c, if_neg c]
            exact ah.h2 s ((List.mem_append.mp hs).resolve_right fun h => c (List.mem_singleton.mp h)) h1 h2
        · rw [hA.v, hB.v]
          by_cases c : s = z
          · rw [if_pos c, if_pos c]; omega
          · rw [if_neg c, if_neg c]; exact ah.bd s
      simp [b_Lnumbers36_3, -fIn_s, fIn_l]
      by_cases c1 : z ∈ tk
      · simp [c1, b_Lnumbers36_0, g1, lvA]
        refine ⟨szlt (by omega), ?_⟩
        rw [p1]
        exact fin _ _ _ _ (sA.put2 nz (by omega) (by omega)) sB (by omega) m1 (by omega) (by omega) (fun _ => by omega) (fun h => absurd c1 h)
      · simp [c1, b_Lnumbers36_2, -fIn_s, fIn_l]
        by_cases c2 : z ∈ ad
        · simp [c2, b_Lnumbers36_1, g2, lvB]
          refine ⟨szlt (by omega), ?_⟩
          rw [p2]
          exact fin _ _ _ _ sA (sB.put2 nz (by omega) (by omega)) m1 (by omega) (by omega) (by omega) (fun h => absurd h c1) (fun _ h => absurd c2 h)
        · simp [c2]
          exact fin _ _ _ _ sA sB m1 m1 (by omega) (by omega) (fun h => absurd h c1) (fun _ _ => rfl)
  · rintro σ M' ⟨ps, zs, A, B, s', v4, v7, e, en, ah, lA, lB, rfl, rfl, hs'⟩
    cases zs with
    | cons _ _ => cases e
    | nil =>
      rw [List.append_nil] at en
      subst en
      refine ⟨trivial, ?_⟩
      simp [b_Lnumbers36_7]
      rw [me]
      exact q t1 t2 A B s' _ (ex A B) (by rw [put_ne n12, put_same]) put_same a1 a2 b1 b2 n12 ah (hs'.le (by simp))
end Z
set_option maxHeartbeats 8000000
/-! D36: the law k36 -/
namespace Z
open PySem PySem.Spec PyProof.Rows L2
def b_law_0 : Ss := .cons (.ret (.cst (.bool false))) .nil
def b_law_1 : Ss := .cons (.ret (.cst (.bool false))) .nil
def b_law_2 : Ss := .cons (.iff (.and (.var 8) (.cons (.not (.ext (.cmpx .ltl) (.cons (.var 12) (.cons (.var 11) .nil)))) .nil)) b_law_1 .nil) .nil
def b_law_3 : Ss := .cons (.iff (.not (.call 8 (.cons (.lst false (.cons (.var 11) (.cons (.var 12) .nil))) (.cons (.lst false (.cons (.call 9 (.cons (.var 4) (.cons (.ext .asc (.cons (.var 13) .nil)) .nil))) (.cons (.call 9 (.cons (.var 5) (.cons (.ext .asc (.cons (.var 14) .nil)) .nil))) .nil))) .nil)))) b_law_0 .nil) b_law_2
def b_law_4 : Ss := .cons (.asg (.name 12) (.call 7 (.cons (.blt .tuple (.cons (.var 5) .nil)) (.cons (.mk 0 "Stock" (.cons (.ext .asc (.cons (.var 14) .nil)) .nil)) .nil)))) b_law_3
def b_law_5 : Ss := .cons (.asg (.name 11) (.call 7 (.cons (.blt .tuple (.cons (.var 4) .nil)) (.cons (.mk 0 "Stock" (.cons (.ext .asc (.cons (.var 13) .nil)) .nil)) .nil)))) b_law_4
def b_law_6 : Ss := .cons (.asg (.tup [13, 14]) (.call 6 (.cons (.var 1) (.cons (.var 3) (.cons (.var 6) (.cons (.var 7) .nil)))))) b_law_5
def b_law_7 : Ss := .cons (.dput (.var 13) (.ix (.var 5) (.var 10)) (.cst (.int 50))) .nil
def b_law_8 : Ss := .cons (.ret (.cst (.bool false))) .nil
def b_law_9 : Ss := .cons (.iff (.ext (.cmpx .ltl) (.cons (.call 7 (.cons (.blt .tuple (.cons (.var 5) .nil)) (.cons (.mk 0 "Stock" (.cons (.var 14) .nil)) .nil))) (.cons (.call 7 (.cons (.blt .tuple (.cons (.var 4) .nil)) (.cons (.mk 0 "Stock" (.cons (.var 13) .nil)) .nil))) .nil))) b_law_8 .nil) .nil
def b_law_10 : Ss := .cons (.asg (.name 14) (.ext (.dictp) (.cons (.lc false (.seq (.var 3)) 15 .nil (.tup (.cons (.var 15) (.cons (.ext (.ib false) (.cons (.ext (.ib true) (.cons (.ext (.dget) (.cons (.var 13) (.cons (.var 15) .nil))) (.cons (.cmp .in_ (.var 15) (.var 6)) .nil))) (.cons (.cmp .in_ (.var 15) (.var 7)) .nil))) .nil)))) .nil))) b_law_9
def b_law_11 : Ss := .cons (.iff (.and (.cmp .eq (.bin .mod (.var 10) (.cst (.int 2))) (.cst (.int 1))) (.cons (.cmp .ne (.ix (.var 4) (.var 10)) (.ix (.var 5) (.var 10))) .nil)) b_law_7 .nil) b_law_10
def b_law_12 : Ss := .cons (.asg (.name 13) (.ext (.dictp) (.cons (.lc false (.seq (.var 3)) 15 .nil (.tup (.cons (.var 15) (.cons (.cst (.int 5)) .nil)))) .nil))) b_law_11
def b_law_13 : Ss := .cons (.ret (.cst (.bool false))) .nil
def b_law_14 : Ss := .cons (.iff (.and (.var 8) (.cons (.cmp .is_ (.var 10) (.cst .non)) .nil)) b_law_13 .nil) .nil
def b_law_15 : Ss := .cons (.iff (.and (.not (.var 8)) (.cons (.cmp .isn (.var 10) (.cst .non)) .nil)) b_law_12 .nil) b_law_14
def b_law_16 : Ss := .cons (.asg (.name 10) (.call 10 (.cons (.var 4) (.cons (.var 5) (.cons (.var 6) (.cons (.var 7) .nil)))))) b_law_15
def b_law_17 : Ss := .cons (.for (.name 9) (.rng1 (.cst (.int 3))) b_law_6) b_law_16
def b_law_18 : Ss := .cons (.asg (.name 8) (.call 5 (.cons (.blt .tuple (.cons (.var 4) .nil)) (.cons (.blt .tuple (.cons (.var 5) .nil)) (.cons (.blt .tuple (.cons (.var 6) .nil)) (.cons (.blt .tuple (.cons (.var 7) .nil)) .nil)))))) b_law_17
def b_law_19 : Ss := .cons (.asg (.name 7) (.call 4 (.cons (.var 1) (.cons (.lc false (.seq (.var 3)) 15 (.cons (.cmp .nin (.var 15) (.var 6)) .nil) (.var 15)) (.cons (.cst (.int 3)) .nil))))) b_law_18
def b_law_20 : Ss := .cons (.asg (.name 6) (.call 4 (.cons (.var 1) (.cons (.var 3) (.cons (.cst (.int 2)) .nil))))) b_law_19
def b_law_21 : Ss := .cons (.asg (.name 5) (.call 3 (.cons (.var 1) (.cons (.var 4) (.cons (.var 3) .nil))))) b_law_20
def b_law_22 : Ss := .cons (.asg (.name 4) (.call 2 (.cons (.var 1) (.cons (.var 3) .nil)))) b_law_21
def b_law_23 : Ss := .cons (.asg (.name 3) (.call 0 (.cons (.var 1) (.cons (.bin (.add false) (.cst (.int 1)) (.call 1 (.cons (.var 1) (.cons (.cst (.int 3)) .nil)))) (.cons (.lst false .nil) .nil))))) b_law_22
def b_law_24 : Ss := .cons (.ret (.cst (.bool true))) .nil
def b_law_25 : Ss := .cons (.for (.name 2) (.rng1 (.cst (.int 6))) b_law_23) b_law_24
def b_law_26 : Ss := .cons (.asg (.name 1) (.lst true (.cons (.blt (.list true) (.cons (.var 0) .nil)) (.cons (.cst (.int 0)) (.cons (.cst (.int 0)) (.cons (.cst (.int 0)) .nil)))))) b_law_25
def b_law : Ss := b_law_26
def g_law : Env2 := ⟨[⟨"_law_names", spNames, []⟩, ⟨"_law_draw", spDraw, []⟩, ⟨"_law_row", spRow, []⟩, ⟨"_law_varied", spVaried, []⟩, ⟨"_law_some", spSome, []⟩, ⟨"falls", spFalls, []⟩, ⟨"_law_numbers", spNumbers36, []⟩, ⟨"row_value", spRowValue, []⟩, ⟨"_law_same", spSame, []⟩, ⟨"_law_value", spValue, []⟩, ⟨"_law_place", spPlace, []⟩], [], ⟨[], [], [⟨"Stock", 0, spSInit, []⟩], [], [], [], [], [], []⟩⟩
@[simp] theorem gf_law : g_law.f = ([⟨"_law_names", spNames, []⟩, ⟨"_law_draw", spDraw, []⟩, ⟨"_law_row", spRow, []⟩, ⟨"_law_varied", spVaried, []⟩, ⟨"_law_some", spSome, []⟩, ⟨"falls", spFalls, []⟩, ⟨"_law_numbers", spNumbers36, []⟩, ⟨"row_value", spRowValue, []⟩, ⟨"_law_same", spSame, []⟩, ⟨"_law_value", spValue, []⟩, ⟨"_law_place", spPlace, []⟩] : List Cal) := rfl
@[simp] theorem goc_law : g_law.o.c = ([⟨"Stock", 0, spSInit, []⟩] : List Mkr) := rfl

theorem ints_rep : ∀ {ns : List Int}, (∀ n ∈ ns, n.natAbs < 10 ^ 40) → repL (ns.map D.int) ∧ wtL (ns.map D.int) ≤ 150 * ns.length ∧ dpL (ns.map D.int) = 0
  | [], _ => ⟨trivial, by simp [wtL], rfl⟩
  | n :: r, h => by
    obtain ⟨h1, h2, h3⟩ := ints_rep fun y hy => h y (List.mem_cons_of_mem _ hy)
    exact ⟨⟨h n List.mem_cons_self, h1⟩, by simp only [List.map_cons, wtL, wt, List.length_cons]; omega, by simp [dpL, dp, h3]⟩
theorem two_rep {ns ms : List Int} (h : ∀ n ∈ ns, n.natAbs < 10 ^ 40) (h2 : ∀ n ∈ ms, n.natAbs < 10 ^ 40) (l : ns.length ≤ 100) (l2 : ms.length ≤ 100) : RepOk (.lst [.lst (ns.map D.int), .lst (ms.map D.int)]) := by
  obtain ⟨a1, a2, a3⟩ := ints_rep h
  obtain ⟨b1, b2, b3⟩ := ints_rep h2
  exact ⟨⟨a1, b1, trivial⟩, by simp [wt, wtL]; omega, by simp [dp, dpL, a3, b3]⟩
def tabF (ns : List Str) (h : Str → Int) : Tb := ns.map fun s => (s, h s)
theorem ite_iff {α : Type} {p q : Prop} [Decidable p] [Decidable q] (h : p ↔ q) {x y : α} : (if p then x else y) = if q then x else y := by
  by_cases c : p
  · rw [if_pos c, if_pos (h.mp c)]
  · rw [if_neg c, if_neg fun z => c (h.mpr z)]
theorem tabF_look {ns : List Str} {h : Str → Int} {s : Str} : (tabF ns h).lookup s = if s ∈ ns then some (h s) else none := by
  induction ns with
  | nil => rfl
  | cons x r ih =>
    unfold tabF at ih ⊢
    rw [List.map_cons, List.lookup_cons]
    by_cases e : s = x
    · subst e; simp
    · have h2 : (s == x) = false := by simpa using e
      rw [h2]
      show List.lookup s _ = _
      rw [ih]
      exact ite_iff (by simp [e])
theorem tabF_val {ns : List Str} {h : Str → Int} {s : Str} (hs : s ∈ ns) : valT (tabF ns h) s = h s := by
  unfold valT
  rw [tabF_look, if_pos hs]
  rfl
theorem dictF {ns : List Str} {h : Str → Int} (nd : ns.Nodup) {M : Mp} {Q : VK2} : rDictP [.d (.lst (ns.map fun s => D.tup [.str s, .int (h s)]))] M Q ↔ ∀ p, M p = none → Q (.c p) (put M p (.dic none (kvT (tabF ns h)))) := by
  have eD : (ns.map fun s => D.tup [.str s, .int (h s)]) = (tabF ns h).map fun p => D.tup [.str p.1, .int p.2] := by rw [tabF, List.map_map]; rfl
  have e0 : (tabF ns h).map (·.1) = ns := by rw [tabF, List.map_map]; simp [Function.comp_def]
  have em : mergeD [] ((tabF ns h).map ((fun p : Key × D => (p.1, W.d p.2)) ∘ fun p => (Sum.inr p.1, D.int p.2))) = kvT (tabF ns h) := merge_kv _ [] (by rw [e0]; exact nd) fun _ _ => rfl
  rw [eD, rDictP_l, keysOf_kv, onO_some, List.map_map, em]
/-- the numbers behind -/
def hB (A : Tb) (tk ad : List Str) (s : Str) : Int := valT A s - (if s ∈ tk then 1 else 0) + (if s ∈ ad then 1 else 0)
theorem row_kind : ∀ (ds : List D) (i j : Nat) (d : D), rowOk i ds = true → ds[j]? = some d → ((i + j) % 2 = 0 ∧ ∃ n, d = .int n) ∨ ((i + j) % 2 = 1 ∧ ∃ s, d = .str s)
  | [], _, _, _, _, h => by simp at h
  | x :: r, i, j, d, h, h2 => by
    cases x with
    | int n =>
      simp only [rowOk, Bool.and_eq_true, decide_eq_true_eq] at h
      cases j with
      | zero => cases h2; exact .inl ⟨h.1.1, _, rfl⟩
      | succ j =>
        have := row_kind r (i + 1) j d h.2 (by simpa using h2)
        rw [show i + (j + 1) = i + 1 + j by omega]
        exact this
    | str n =>
      simp only [rowOk, Bool.and_eq_true, decide_eq_true_eq] at h
      cases j with
      | zero => cases h2; exact .inr ⟨h.1.1, _, rfl⟩
      | succ j =>
        have := row_kind r (i + 1) j d h.2 (by simpa using h2)
        rw [show i + (j + 1) = i + 1 + j by omega]
        exact this
    | _ => simp [rowOk] at h
theorem law_ok : Ok g_law 16 b_law spLaw := by
  rintro ws M Q E ⟨ns0, rfl, hl, rfl, qq⟩
  simp [b_law, b_law_26]
  intro p p1 hp
  have ne := ne_new hp
  rw [stream_start]
  have hs := stream_ok (ns := ns0)
  generalize (⟨ns0, 0, 0, 0⟩ : Sm) = s at hs
  generalize (fun _ => none : Mp) = M0
  have st : Stm p1 p s (setS p1 p s M0) := .of ne
  generalize setS p1 p s M0 = M1 at st
  simp [b_law_25]
  refine for_run (fun r σ M' => ∃ (n i : Nat) (s' : Sm) (v2 v3 v4 v5 v6 v7 v8 v9 v10 v11 v12 v13 v14 v15 : Option W), r = rngW (i : Int) n ∧ σ = [some (.r (ns0.map D.int)), some (.c p1), v2, v3, v4, v5, v6, v7, v8, v9, v10, v11, v12, v13, v14, v15] ∧
    Stm p1 p s' M' ∧ n ≤ 6 ∧ SOk (1000 * n) s') ?_ ?_ _ _ _ ⟨6, 0, s, _, _, _, _, _, _, _, _, _, _, _, _, _, _, rfl, rfl, st, by omega, hs.le (by omega)⟩
  · clear hs st
    rintro w r σ M' K ⟨n, i, s', v2, v3, v4, v5, v6, v7, v8, v9, v10, v11, v12, v13, v14, v15, e, rfl, st, nl, hs⟩ hK
    cases n with
    | zero => cases e
    | succ n =>
      rw [rng_cons] at e
      cases e
      refine ⟨trivial, ?_⟩
      simp [b_law_23]
      refine ⟨p1, p, s', M', _, 3, by simp, st.eq, ne, hs, by omega, by decide, by decide, fun y s1 y0 y1 hs1 => ?_⟩
      obtain ⟨y, rfl⟩ : ∃ k : Nat, y = (k : Int) := ⟨y.toNat, by omega⟩
      simp
      refine ⟨p1, p, s1, M', _, y + 1, [], by simp; omega, rfl, by simp; omega, ne, hs1, by omega, fun ns s2 hl1 hn1 nd1 hs2 => ?_⟩
      have hnm : ∀ x ∈ ns, isNm x = true := fun x hx => isNm_of (hn1 x hx).1 (hn1 x hx).2.2
      have n0 : ns ≠ [] := by intro e; rw [e] at hl1; simp at hl1
      have l20 : ns.length ≤ 3 := by omega
      simp [b_law_22]
      refine ⟨p1, p, s2, M', _, ns, rfl, rfl, n0, by omega, hnm, ne, hs2, by omega, fun one s3 r1 hs3 => ?_⟩
      simp [b_law_21]
      refine ⟨p1, p, s3, M', _, ns, one, rfl, rfl, r1, n0, by omega, hnm, ne, hs3, by omega, fun oth s4 M2 r2 hs4 e4 => ?_⟩
      simp [b_law_20]
      refine ⟨p1, p, s4, M2, _, _, _, 2, rfl, rfl, seqF_l, by simp; omega, ne, hs4, by simp; omega, by decide, by decide, fun es s5 he hs5 => ?_⟩
      obtain ⟨tk, ht, rfl⟩ := List.sublist_map_iff.mp he
      simp [b_law_19]
      intro r hr
      refine lc_pure (α := Str) (fun _ => True) (W.d ∘ D.str) (fun s => .str s) (fun s => !decide (s ∈ tk)) hr (fun _ => trivial) (fun x _ acc K2 hK2 => ?_) (fun x _ _ acc K2 hK2 => ?_) ns [] (fun _ _ => trivial) (by simp; omega) ?_
      · simp [-fIn_s, fIn_l]
        simpa using hK2
      · simpa using hK2
      rw [List.nil_append]
      have st5 : Stm p1 p s5 (setS p1 p s5 M2) := .of ne
      refine ⟨p1, p, s5, M2, _, _, _, 3, rfl, rfl, seqF_l, by have := List.length_filter_le (fun s => !decide (s ∈ tk)) ns; simp; omega, ne, hs5, by have := List.length_filter_le (fun s => !decide (s ∈ tk)) ns; simp; omega, by decide, by decide, fun es s6 he2 hs6 => ?_⟩
      obtain ⟨ad, ha, rfl⟩ := List.sublist_map_iff.mp he2
      have htk : ∀ s ∈ tk, s ∈ ns := fun s h => ht.subset h
      have had : ∀ s ∈ ad, s ∈ ns ∧ s ∉ tk := fun s h => by
        have := ha.subset h
        rw [List.mem_filter] at this
        exact ⟨this.1, by simpa using this.2⟩
      have hs6 : SOk (1000 * n + 900) s6 := hs6.le (by have := List.length_filter_le (fun s => !decide (s ∈ tk)) ns; simp; omega)
      have st6 : Stm p1 p s6 (setS p1 p s6 M2) := .of ne
      generalize setS p1 p s6 M2 = M3 at st6
      clear hr st5 hs5 hs4 hs3 hs2 hs1 hs st he he2
      have us : ∀ l : List Str, unD (l.map (W.d ∘ D.str)) = some (l.map D.str) := fun l => by rw [← List.map_map]; exact unD_map _
      simp [b_law_18, us]
      have l1 := r1.l
      have l2 := r2.l
      refine ⟨one, oth, tk, ad, rfl, r1.r, r2.r, by omega, by omega, ?_⟩
      simp [b_law_17]
      refine for_run (fun r σ M' => ∃ (k j : Nat) (s' : Sm) (v9 v10 v11 v12 v13 v14 v15 : Option W), r = rngW (j : Int) k ∧ σ = [some (.r (ns0.map D.int)), some (.c p1), some (.d (.int (i : Nat))), some (.d (.lst (ns.map D.str))), some (.d (.lst one)), some (.d (.lst oth)), some (.d (.lst (tk.map D.str))), some (.d (.lst (ad.map D.str))), some (.d (.bool (fallsD tk ad one oth))), v9, v10, v11, v12, v13, v14, v15] ∧
        Stm p1 p s' M' ∧ k ≤ 3 ∧ SOk (1000 * n + 200 + 200 * k) s') ?_ ?_ _ _ _ ⟨3, 0, s6, _, _, _, _, _, _, _, rfl, rfl, st6, by omega, hs6.le (by omega)⟩
      · clear st6 hs6
        rintro w r σ M' K2 ⟨k, j, s', v9, v10, v11, v12, v13, v14, v15, e, rfl, st, kl, hs⟩ hK2
        cases k with
        | zero => cases e
        | succ k =>
          rw [rng_cons] at e
          cases e
          refine ⟨trivial, ?_⟩
          simp [b_law_6]
          refine ⟨p1, p, s', M', _, ns, tk, ad, rfl, st.eq, nd1, hnm, by omega, ne, hs, by omega, fun t1 t2 A B s7 M5 e5 f1 f2 a1 a2 b1 b2 n12 ah hs7 => ?_⟩
          have st7 : Stm p1 p s7 (setS p1 p s7 M5) := .of ne
          have g1 : setS p1 p s7 M5 t1 = some (.dic none (kvT A)) := by rw [setS_ne a1 a2, f1]
          have g2 : setS p1 p s7 M5 t2 = some (.dic none (kvT B)) := by rw [setS_ne b1 b2, f2]
          generalize setS p1 p s7 M5 = M6 at st7 g1 g2
          clear f1 f2 e5 st hs
          have rv : ∀ (m : Nat) (ds : List D) (tb : Tb), RN ns m ds → TOk tb → subW (posT tb) 0 ds = (ds.map (vI (valT tb))).map D.int := fun m ds tb r t => by
            rw [sub_vI ds 0 r.r]
            congr 1
            exact List.map_congr_left fun d _ => by cases d <;> simp [vI, val_pos t]
          have o1 := rv _ one A r1 ah.a
          have o2 := rv _ oth B r2 ah.b
          have rl : RepOk (.lst [.lst ((one.map (vI (valT A))).map D.int), .lst ((oth.map (vI (valT B))).map D.int)]) := two_rep (fun n hn => by
              obtain ⟨d, hd, rfl⟩ := List.mem_map.mp hn
              have := r1.e d hd
              cases d with
              | int m => exact this
              | str z => exact (ah.bd z).1
              | _ => exact this.elim) (fun n hn => by
              obtain ⟨d, hd, rfl⟩ := List.mem_map.mp hn
              have := r2.e d hd
              cases d with
              | int m => exact this
              | str z => exact (ah.bd z).2
              | _ => exact this.elim) (by simp; omega) (by simp; omega)
          simp [b_law_5]
          refine mk_one g1 ah.a fun x M7 dx q e7 hx _ _ => ?_
          refine ⟨_, one, x, _, rfl, rfl, r1.e, r1.r, by omega, hx.s, ?_⟩
          rw [o1]
          simp [b_law_4]
          refine mk_one (e7 _ _ g2) ah.b fun y M8 dy qy e8 hy _ _ => ?_
          refine ⟨_, oth, y, _, rfl, rfl, r2.e, r2.r, by omega, hy.s, ?_⟩
          rw [o2]
          simp [b_law_3]
          refine ⟨one, t1, A, rfl, e8 _ _ (e7 _ _ g1), r1.e, fun s hs => (ah.ka s).mpr (r1.s s hs), by omega, ?_⟩
          refine ⟨oth, t2, B, rfl, e8 _ _ (e7 _ _ g2), r2.e, fun s hs => (ah.kb s).mpr (r2.s s hs), by omega, ?_⟩
          have fin : ∀ v11 v12, K2 [some (.r (ns0.map D.int)), some (.c p1), some (.d (.int (i : Nat))), some (.d (.lst (ns.map D.str))), some (.d (.lst one)), some (.d (.lst oth)), some (.d (.lst (tk.map D.str))), some (.d (.lst (ad.map D.str))), some (.d (.bool (fallsD tk ad one oth))), some (.d (.int (j : Nat))), v10, v11, v12, some (.d (.ref t1)), some (.d (.ref t2)), v15] M8 := fun v11 v12 => hK2 _ _ ⟨k, j + 1, s7, _, _, _, _, _, _, _, rfl, rfl, (st7.ext e7).ext e8, by omega, hs7.le (by omega)⟩
          have nk : ∀ s, s ∉ ns → valT B s = valT A s := fun s h => by
            have ha2 : A.lookup s = none := by
              cases e : A.lookup s with
              | none => rfl
              | some _ => exact absurd ((ah.ka s).mp (key_look.mpr (by rw [e]; exact fun h => nomatch h))) h
            have hb2 : B.lookup s = none := by
              cases e : B.lookup s with
              | none => rfl
              | some _ => exact absurd ((ah.kb s).mp (key_look.mpr (by rw [e]; exact fun h => nomatch h))) h
            rw [valT_none ha2, valT_none hb2]
          simp only [List.map_map] at rl
          simp [rl, b_law_2]
          cases hf : fallsD tk ad one oth with
          | false =>
            rw [hf] at fin
            simp
            exact fin _ _
          | true =>
            rw [hf] at fin
            have lt := falls_lt (v := valT A) (w := valT B) (fun s h _ => ah.h1 s (htk s h) h) (fun s h1 h2 => by
              by_cases c : s ∈ ns
              · exact ah.h2 s c h1 h2
              · exact nk s c) one oth hf
            simp
            refine ⟨oth.map (vI (valT B)), by rw [List.map_map], one.map (vI (valT A)), by rw [List.map_map], ?_⟩
            rw [lt]
            simp
            exact fin _ _
      · rintro σ M' ⟨k, j, s', v9, v10, v11, v12, v13, v14, v15, e, rfl, st, kl, hs⟩
        refine ⟨trivial, ?_⟩
        have hs : SOk (1000 * n + 200) s' := hs.le (by omega)
        simp [b_law_16]
        refine ⟨one, oth, tk, ad, rfl, r1.r, r2.r, by omega, by omega, ?_⟩
        show wSs g_law b_law_15 _ _ M'
        have fin : ∀ (M' : Mp) v9 v10 v11 v12 v13 v14 v15, Stm p1 p s' M' → K [some (.r (ns0.map D.int)), some (.c p1), some (.d (.int (i : Nat))), some (.d (.lst (ns.map D.str))), some (.d (.lst one)), some (.d (.lst oth)), some (.d (.lst (tk.map D.str))), some (.d (.lst (ad.map D.str))), some (.d (.bool (fallsD tk ad one oth))), v9, v10, v11, v12, v13, v14, v15] M' := fun M' v9 v10 v11 v12 v13 v14 v15 st => hK _ _ ⟨n, i + 1, s', _, _, _, _, _, _, _, _, _, _, _, _, _, _, rfl, rfl, st, by omega, hs.le (by omega)⟩
        cases hf : fallsD tk ad one oth with
        | true =>
          rw [hf] at fin
          cases hp : placeD tk ad 0 one oth with
          | none => exact absurd hp (falls_place one oth 0 hf)
          | some at' =>
            simp [b_law_15, optN, b_law_14]
            exact fin _ _ _ _ _ _ _ _ st
        | false =>
          rw [hf] at fin
          cases hp : placeD tk ad 0 one oth with
          | none =>
            simp [b_law_15, optN, b_law_14]
            exact fin _ _ _ _ _ _ _ _ st
          | some at' =>
            simp [b_law_15, optN, b_law_12]
            intro r hr
            refine lc_map (α := Str) (fun _ => True) (W.d ∘ D.str) (fun s => .tup [.str s, .int 5]) hr (fun _ => trivial) ?_ _ (fun _ _ => trivial) (by omega) ?_
            · rintro z _ acc K2 hK2
              simpa using hK2
            refine (dictF nd1).mpr fun t3 ht3 => ?_
            have e3 := ext_put (c := .dic none (kvT (tabF ns fun _ => 5))) ht3
            have st := st.ext e3
            have f3 : put M' t3 (.dic none (kvT (tabF ns fun _ => 5))) t3 = some (.dic none (kvT (tabF ns fun _ => 5))) := put_same
            generalize put M' t3 (.dic none (kvT (tabF ns fun _ => 5))) = M5 at st f3
            clear e3 ht3 hr
            obtain ⟨_, pl1, pl2⟩ := place_get one oth 0 at' hp
            rw [Nat.sub_zero] at pl1 pl2
            have main : ∀ (A : Tb) (M6 : Mp), Stm p1 p s' M6 → M6 t3 = some (.dic none (kvT A)) → TOk A → (∀ s, s ∈ A.map (·.1) ↔ s ∈ ns) → (∀ s ∈ ns, valT A s = 5 ∨ valT A s = 50) →
                (∀ a b, one[at']? = some (.str a) → oth[at']? = some (.str b) → a ≠ b → valT A a = 5 ∧ valT A b = 50) → wSs g_law b_law_10 { nx := wSs g_law b_law_14 { nx := K, rt := Q, bk := wSs g_law b_law_24 (endOf Q E), ct := K, ex := fun x _ M => E x M }, rt := Q, bk := wSs g_law b_law_24 (endOf Q E), ct := K, ex := fun x _ M => E x M }
                [some (.r (ns0.map D.int)), some (.c p1), some (.d (.int (i : Nat))), some (.d (.lst (ns.map D.str))), some (.d (.lst one)), some (.d (.lst oth)), some (.d (.lst (tk.map D.str))), some (.d (.lst (ad.map D.str))), some (.d (.bool false)), v9, some (.d (.int (at' : Nat))), v11, v12, some (.c t3), v14, v15] M6 := by
              clear st f3
              intro A M6 st f3 tA kA vA pA
              simp [b_law_10]
              intro r hr
              have la : A.length ≤ 20 := by
                have := nd_len (l1 := A.map (·.1)) (l2 := ns) tA.nd fun x hx => (kA x).mp hx
                simp at this
                omega
              refine lc_map (α := Str) (fun s => s ∈ ns) (W.d ∘ D.str) (fun s => .tup [.str s, .int (hB A tk ad s)]) hr (fun _ => trivial) ?_ _ (fun _ h => h) (by omega) ?_
              · rintro z hz acc K2 hK2
                have f1 := ext_put (c := .lst acc) hr _ _ f3
                obtain ⟨v, hv⟩ := mem_key ((kA z).mpr hz)
                simp only [hB, valT_some hv] at hK2
                simp [f1, hv, -fIn_s, fIn_l]
                by_cases c1 : z ∈ tk <;> by_cases c2 : z ∈ ad <;> simpa [c1, c2] using hK2
              refine (dictF nd1).mpr fun t4 ht4 => ?_
              have e3 := ext_put (c := .dic none (kvT (tabF ns (hB A tk ad)))) ht4
              have st := st.ext e3
              have f3 := e3 _ _ f3
              have f4 : put M6 t4 (.dic none (kvT (tabF ns (hB A tk ad)))) t4 = some (.dic none (kvT (tabF ns (hB A tk ad)))) := put_same
              generalize put M6 t4 (.dic none (kvT (tabF ns (hB A tk ad)))) = M7 at st f3 f4
              clear e3 ht4 hr
              have hb : ∀ s ∈ ns, 0 ≤ hB A tk ad s := fun s hs => by
                have := vA s hs
                unfold hB
                split <;> split <;> omega
              have tB : TOk (tabF ns (hB A tk ad)) := ⟨by rw [tabF, List.map_map]; simpa [Function.comp_def] using nd1, fun p hp => by
                obtain ⟨z, hz, rfl⟩ := List.mem_map.mp hp
                exact ⟨hnm z hz, hb z hz⟩, by simp [tabF]; omega⟩
              have rv : ∀ (m : Nat) (ds : List D) (tb : Tb), RN ns m ds → TOk tb → subW (posT tb) 0 ds = (ds.map (vI (valT tb))).map D.int := fun m ds tb r t => by
                rw [sub_vI ds 0 r.r]
                congr 1
                exact List.map_congr_left fun d _ => by cases d <;> simp [vI, val_pos t]
              have o1 := rv _ one A r1 tA
              have o2 := rv _ oth _ r2 tB
              simp [b_law_9]
              refine mk_one f4 tB fun x M8 dx q e7 hx _ _ => ?_
              refine ⟨_, oth, x, _, rfl, rfl, r2.e, r2.r, by omega, hx.s, ?_⟩
              rw [o2]
              simp
              refine mk_one (e7 _ _ f3) tA fun y M9 dy qy e8 hy _ _ => ?_
              refine ⟨_, one, y, _, rfl, rfl, r1.e, r1.r, by omega, hy.s, ?_⟩
              rw [o1]
              refine ⟨oth.map (vI (valT (tabF ns (hB A tk ad)))), by rw [List.map_map], one.map (vI (valT A)), by rw [List.map_map], ?_⟩
              have vt : ∀ s ∈ ns, valT (tabF ns (hB A tk ad)) s = hB A tk ad s := fun s hs => tabF_val hs
              have nt := place_not (v := valT A) (w := valT (tabF ns (hB A tk ad))) (fun s h => (had s h).2) (fun s h1 h2 => by
                by_cases c : s ∈ ns
                · rw [vt s c]
                  simp [hB, h1, h2]
                · have z1 : (tabF ns (hB A tk ad)).lookup s = none := by rw [tabF_look, if_neg c]
                  have z2 : A.lookup s = none := by
                    cases e : A.lookup s with
                    | none => rfl
                    | some _ => exact absurd ((kA s).mp (key_look.mpr (by rw [e]; exact fun h => nomatch h))) c
                  rw [valT_none z1, valT_none z2]) (fun s h => by
                obtain ⟨h1, h2⟩ := had s h
                rw [vt s h1]
                simp [hB, h, h2]
                omega) one oth 0 at' hp hf (fun a b ha hb' hab => by
                rw [Nat.sub_zero] at ha hb'
                obtain ⟨w1, w2⟩ := pA a b ha hb' hab
                have bn : b ∈ ns := r2.s b (List.mem_of_getElem? hb')
                rw [vt b bn, w1]
                unfold hB
                rw [w2]
                split <;> split <;> omega)
              rw [nt]
              simp [b_law_14]
              exact fin _ _ _ _ _ _ _ _ ((st.ext e7).ext e8)
            have b5 : ∀ s ∈ ns, valT (tabF ns fun _ => 5) s = 5 := fun s hs => tabF_val hs
            have k5 : ∀ s, s ∈ (tabF ns fun _ => (5 : Int)).map (·.1) ↔ s ∈ ns := fun s => by rw [tabF, List.map_map]; simp [Function.comp_def]
            have t5 : TOk (tabF ns fun _ => 5) := ⟨by rw [tabF, List.map_map]; simpa [Function.comp_def] using nd1, fun p hp => by
              obtain ⟨z, hz, rfl⟩ := List.mem_map.mp hp
              exact ⟨hnm z hz, by show (0 : Int) ≤ 5; decide⟩, by simp [tabF]; omega⟩
            have g1 := List.getElem?_eq_getElem pl1
            have g2 := List.getElem?_eq_getElem pl2
            generalize one[at'] = d1 at g1
            generalize oth[at'] = d2 at g2
            simp [b_law_11, g1, g2]
            rcases row_kind one 0 at' d1 r1.r g1 with ⟨ev, n1, rfl⟩ | ⟨ev, a, rfl⟩
            · rw [if_neg (by omega)]
              refine main _ M5 st f3 t5 k5 (fun s hs => .inl (b5 s hs)) fun a b ha _ _ => by rw [g1] at ha; cases ha
            · rw [if_pos (by omega)]
              rcases row_kind oth 0 at' d2 r2.r g2 with ⟨ev2, n2, rfl⟩ | ⟨ev2, b, rfl⟩
              · omega
              · have bn : b ∈ ns := r2.s b (List.mem_of_getElem? g2)
                have an : a ∈ ns := r1.s a (List.mem_of_getElem? g1)
                simp
                split
                · rename_i hab
                  exact main _ M5 st f3 t5 k5 (fun s hs => .inl (b5 s hs)) fun a' b' ha' hb' h => by
                    rw [g1] at ha'; rw [g2] at hb'
                    cases ha'; cases hb'
                    exact absurd hab h
                · rename_i hab
                  simp [b_law_7, f3, g2]
                  have a2 := st.ne f3 (by intro l h; cases h)
                  refine ⟨szlt (by simp [tabF]; omega), main _ _ (st.put a2.1 a2.2) put_same (t5.put (hnm b bn) (by decide) (by have := putT_len (tb := tabF ns fun _ => 5) (s := b) (i := 50); simp [tabF] at this ⊢; omega)) (fun s => ?_) (fun s hs => ?_) fun a' b' ha' hb' h => ?_⟩
                  · rw [key_put3, k5]
                    constructor
                    · rintro (h | rfl)
                      · exact h
                      · exact bn
                    · exact .inl
                  · rw [val_put3]
                    split
                    · exact .inr rfl
                    · exact .inl (b5 s hs)
                  · rw [g1] at ha'; rw [g2] at hb'
                    cases ha'; cases hb'
                    rw [val_put3, val_put3, if_neg h, if_pos rfl]
                    exact ⟨b5 a an, rfl⟩
  · rintro σ M' _
    refine ⟨trivial, ?_⟩
    simp [b_law_24]
    exact qq _
end Z
set_option maxHeartbeats 8000000
/-! ZEnd: the end of a claim with classes -/
namespace Z
open PySem PySem.Spec PyProof.Rows L2
/-- a def with defaults, called with all its arguments -/
theorem funA_mk {K : PySem.W.Frag} {x qual : Str} {st : Stmt} {f : Addr} {oc : Value} {od an : Option Addr} {osl : Array (Option Value)} {dV kV doc pm cdv ct : Value} (l : K.lookup f = some ⟨oc, od, .func (PySem.W.fnOf x qual (defArgs st) (defBody st) (defScope st) dV kV doc pm an cdv ct), osl⟩)
    (c : PySem.W.codeIn K cdv qual = true) (k : PySem.W.keepIn K (.ref f) = true) : FunA K x qual st f (PySem.W.fnOf x qual (defArgs st) (defBody st) (defScope st) dV kV doc pm an cdv ct) := ⟨⟨oc, od, dV, kV, doc, pm, an, cdv, ct, osl, rfl, l, c⟩, k⟩
theorem fn_none {P : Program} {w : World} {T : Tab} {mg : Str → Option Value} {base : Heap} {k : Nat} {f : Addr} {fd : FuncData} {ps : List Str} {sp : Sp2} (h : ∀ ws M Q E, sp ws M Q E → False) : Fn P w T mg base k f fd ps sp :=
  ⟨fun ws M Q E q => (h ws M Q E q).elim, fun A outer s H args us vs Q E _ _ _ _ _ low => by
    obtain ⟨G, ws, M, Q2, E2, _, _, q, _⟩ := low
    exact (h _ _ _ _ q).elim⟩
theorem gl_str {T : Tab} {mg : Str → Option Value} {x s : Str} {t : Tok} (hm : mg x = some (.str s t)) (hl : s.length ≤ 16777216) : ∃ u v, mg x = some u ∧ RelV v u ∧ ∀ G, Rp T G (.str s) v :=
  ⟨_, .str s, hm, ⟨t, rfl⟩, fun G => ⟨rfl, by rw [sizeLine_eq]; exact hl⟩⟩
theorem gl_tup {T : Tab} {mg : Str → Option Value} {x : Str} {a : Addr} {dd : Option Addr} {n : Nat} {sl : Array (Option Value)} {ps : List (Str × Tok)} (hm : mg x = some (.ref a)) (hl : T.K.lookup a = some ⟨.type "tuple", dd, .seq (ps.map fun p => Value.str p.1 p.2).toArray n, sl⟩)
    (hz : (ps.all fun p => decide (p.1.length ≤ 16777216)) = true ∧ ps.length ≤ 1000) : ∃ u v, mg x = some u ∧ RelV v u ∧ ∀ G, Rp T G (.tup (ps.map fun p => D.str p.1)) v := by
  have hv : ∀ ps : List (Str × Tok), Vals (ps.map fun p => V.str p.1) (ps.map fun p => Value.str p.1 p.2) := by
    intro ps
    induction ps with
    | nil => exact .nil
    | cons p r ih => exact .cons ⟨p.2, rfl⟩ ih
  have hp : ∀ (G : Hp) (ps : List (Str × Tok)), (ps.all fun p => decide (p.1.length ≤ 16777216)) = true → RpL T G (ps.map fun p => D.str p.1) (ps.map fun p => V.str p.1) := by
    intro G ps
    induction ps with
    | nil => intro _; rfl
    | cons p r ih =>
      intro h
      rw [List.all_cons, Bool.and_eq_true, decide_eq_true_eq] at h
      exact ⟨_, _, rfl, ⟨rfl, by rw [sizeLine_eq]; exact h.1⟩, ih h.2⟩
  refine ⟨_, .ref a, hm, rfl, fun G => ⟨a, ps.map fun p => V.str p.1, rfl, .inr ⟨_, _, _, hl, rfl, rfl, ?_, ?_⟩, hp G ps hz.1⟩⟩
  · rw [List.size_toArray, List.length_map, sizeLine_eq]; omega
  · exact hv ps
theorem kit_self {K : PySem.W.Frag} {C : Addr} : PySem.W.kitOne K (.ref C) (.ref C) = some true := by
  unfold PySem.W.kitOne
  rw [if_pos (by simp)]
theorem kit_sub {K : PySem.W.Frag} {C : Addr} {t : Value} {b : Bool} (ne : (t == Value.ref C) = false) (h1 : PySem.W.isClsIn K C = true) (h2 : PySem.W.typeIn K (.ref C) = some (.type "type")) (h3 : PySem.W.subIn K t (.ref C) = some b) : PySem.W.kitOne K t (.ref C) = some b := by
  unfold PySem.W.kitOne
  rw [ne, if_neg Bool.false_ne_true]
  unfold PySem.W.kitCls
  have : ((PySem.W.clsIn K C).isSome && PySem.W.typeIn K (.ref C) == some (.type "type")) = true := by
    rw [show (PySem.W.clsIn K C).isSome = true from h1, h2]; simp
  simp only [this, if_true, h3]
theorem go_no {K : PySem.W.Frag} {C : Addr} (h : PySem.W.findIn K (.ref C) "__getitem__" = some none) : getOk K C = true := by
  unfold getOk; rw [h]
theorem go_yes {K : PySem.W.Frag} {C f : Addr} (h : PySem.W.findIn K (.ref C) "__getitem__" = some (some (.ref f))) (h2 : PySem.W.fnIn K f = true) : getOk K C = true := by
  unfold getOk; rw [h]; exact h2
theorem co_no {K : PySem.W.Frag} {C : Addr} (h : PySem.W.findIn K (.ref C) "__call__" = some none) : callOk K C = true := by
  unfold callOk; rw [h]
theorem co_yes {K : PySem.W.Frag} {C f : Addr} (h : PySem.W.findIn K (.ref C) "__call__" = some (some (.ref f))) (h2 : PySem.W.fnIn K f = true) : callOk K C = true := by
  unfold callOk; rw [h]; exact h2
theorem zwalk2 {l : PySem.W.OpenLaw} {n k : Nat} {q : Program} {loose : List Str} {XP : (Str → Option Value) → Heap → Prop} {YP : World → Heap → Prop} {d : DefRec} {K : Params → PySem.W.Frag} {sp : Sp2} {x : Str}
    (hn : l.most = some n) (hn2 : n ≤ sizeLine) (hdf : d.params.defaults = []) (hr : Room k callerA)
    (hY : ∀ (w : World) (h : Heap), YP w h → (K w.params).In h)
    (F : ∀ (w : World) (mg : Str → Option Value) (fa : Addr) (h : Heap), (K w.params).In h → h.Ns mainGlobals mg → mg d.name = some (.ref fa) →
      ∃ (cl : Nat → Addr) (fd : FuncData), (∀ (t : Shared) (u : Value), BindsTo t fd ⟨[u], []⟩ [(x, u)]) ∧
        ∀ base : Heap, (K w.params).In base → base.Ns mainGlobals mg → Fn l.prog w ⟨K w.params, cl⟩ mg base k fa fd [x] sp)
    (hsp : ∀ (w : World) (ns : List Int), ns.length ≤ n → (∀ z ∈ ns, Builtin.Int.intBits z ≤ 1048576) → sp [.r (ns.map D.int)] (fun _ => none) (fun y _ => y = .d (.bool true)) fun _ _ => False) :
    PySem.W.WalkO q loose XP YP l.row.toRowW d [] (fun f vs => PySem.call f vs) := by
  refine Att.attach_callB hn hdf fun w t₀ t₁ mg mb fa o pm cd doc a vs ns G Y e1 e2 e3 hmg e4 hints len bits e5 => ?_
  obtain ⟨cl, fd, hb, hF⟩ := F w mg fa _ (hY w _ Y) G.T.g hmg
  exact zcall (T := ⟨K w.params, cl⟩) (hY w _ Y) G.T.g G.T.b G.T.builtins G.T.nolimit e5 e4 hints (Nat.le_trans len hn2) hr hF hb (hsp w ns len bits)
/-! ### own exceptions -/
theorem oex_mk {K : PySem.W.Frag} {C N : Addr} {nm q : Str} {bs bm : List Value} {sn : List Str} {sub : List Value} {ab : Bool} {col : Option Bool} {dd : Option Addr} {k0 k1 k2 k3 k5 : Option Value}
    (l : K.lookup C = some (excClassObj nm q C N bs bm true sn sub ab col dd k0 k1 k2 k3 k5 "ValueError.__new__")) (r : PySem.HandSPX.refsVE bm = true) (sa : PySem.W.findIn K (.ref C) "__setattr__" = some (some (.builtin "object.__setattr__")))
    (ex : PySem.W.subIn K (.ref C) (.type "BaseException") = some true) (ty : PySem.W.typeIn K (.ref C) = some (.type "type")) (kc : PySem.W.keepIn K (.ref C) = true) : OexC K C :=
  ⟨⟨nm, q, N, bs, bm, sn, sub, ab, col, dd, k0, k1, k2, k3, k5, l, r⟩, sa, ex, ty, kc⟩
theorem exm_sub {K : PySem.W.Frag} {C : Addr} {t : Value} {b : Bool} (h1 : PySem.W.isClsIn K C = true) (h2 : PySem.W.typeIn K (.ref C) = some (.type "type")) (h3 : PySem.W.subIn K t (.ref C) = some b) (h4 : PySem.W.subIn K (.ref C) (.type "BaseException") = some true) : PySem.W.exmOne K t (.ref C) = some b := by
  unfold PySem.W.exmOne
  rw [h4, if_pos (by simp)]
  unfold PySem.W.kitCls
  have : ((PySem.W.clsIn K C).isSome && PySem.W.typeIn K (.ref C) == some (.type "type")) = true := by
    rw [show (PySem.W.clsIn K C).isSome = true from h1, h2]; simp
  simp only [this, if_true, h3]
theorem kx_of {P : Program} {w : World} {K : PySem.W.Frag} {mg : Str → Option Value} {base : Heap} {cl : Nat → Addr} {x qual : Str} {c n : Nat} {fl : List (Str × Nat)} {st : Stmt} {f : Addr} {fd : FuncData} {N ps : List Str} (T : ExC P K mg (cl c)) (F : ExF P K (cl c) "__init__" qual st f fd)
    (S : ExScope N ps (defScope st)) (hk : kExB N (defScope st) (upFl fl) (defBody st) = true) (hh : kHead N (defArgs st) = true) (hn : ps.length = n + 1) (hne : fl ≠ []) (hl : fl.length ≤ 900) (hz : n ≤ 900)
    (iC : PySem.W.findIn K (.ref (cl c)) "__init__" = some (some (.ref f))) (tI : PySem.W.typeIn K (.ref f) = some (.type "function")) (hb : Binds K fd ps []) (hm : mg x = some (.ref (cl c)))
    (hf : ∀ g ∈ fl, PySem.W.findIn K (.ref (cl c)) g.1 = some none) (j : Nat) (hj : 1 ≤ j) : KxP P w K mg base ⟨K, cl⟩ j ⟨x, c, fl, n⟩ := by
  have F0 : FnOk P w K mg base (L2.CX P w) (0 + 1) f fd ps (spI (cl c) (upFl fl) ps.length) := exf_ok (N := N) T F S hk hh (by intro e; rw [e] at hn; cases hn) (by unfold upFl; rw [List.length_map]; exact hl) (fun g hg => by
    unfold upFl at hg
    obtain ⟨g0, h0, rfl⟩ := List.mem_map.mp hg
    exact hf g0 h0)
  exact ⟨⟨f, fd, ps, hm, T.T, iC, tI, hb, hn, hne, hz, F0.mono (by omega)⟩⟩
end Z
set_option maxHeartbeats 8000000
namespace Z
open PySem PySem.Spec PyProof.Rows L2
local macro_rules | `(tactic| trivial) => `(tactic| first | (intro ws M Q E h; (repeat obtain ⟨_, h⟩ := h); subst_vars; rfl))
def topS (i : Nat) : Stmt := PySem.Challenge.pw_noneorsome_k36_whole_falls_by_numbers.main.body.getD i (.Pass ⟨0, 0, 0, 0⟩)
def p_is_name : Par := ⟨["text", "letter"], [], ["RESERVED", "LETTERS"], ["len", "all"]⟩
theorem sc_is_name : FnScope p_is_name.N ["text"] (defScope (topS 4)) := ⟨rfl, rfl, rfl, by decide +kernel, rfl, by decide +kernel, by decide +kernel⟩
theorem ck_is_name : kSs p_is_name (defScope (topS 4)) b_is_name (defBody (topS 4)) = true := by decide +kernel
def p_check_numbers : Par := ⟨["numbers", "name"], ["is_name"], [], []⟩
theorem sc_check_numbers : FnScope p_check_numbers.N ["numbers"] (defScope (topS 16)) := ⟨rfl, rfl, rfl, by decide +kernel, rfl, by decide +kernel, by decide +kernel⟩
theorem ck_check_numbers : kSs p_check_numbers (defScope (topS 16)) b_check_numbers (defBody (topS 16)) = true := by decide +kernel
def p_Stock_init : Par := ⟨["self", "numbers", "name"], ["check_numbers"], [], []⟩
theorem sc_Stock_init : FnScope p_Stock_init.N ["self", "numbers"] (defScope (L2.inClass (topS 15) 0)) := ⟨rfl, rfl, rfl, by decide +kernel, rfl, by decide +kernel, by decide +kernel⟩
theorem ck_Stock_init : kSs p_Stock_init (defScope (L2.inClass (topS 15) 0)) b_Stock_init (defBody (L2.inClass (topS 15) 0)) = true := by decide +kernel
def p_Stock_getitem : Par := ⟨["self", "name"], [], [], []⟩
theorem sc_Stock_getitem : FnScope p_Stock_getitem.N ["self", "name"] (defScope (L2.inClass (topS 15) 3)) := ⟨rfl, rfl, rfl, by decide +kernel, rfl, by decide +kernel, by decide +kernel⟩
theorem ck_Stock_getitem : kSs p_Stock_getitem (defScope (L2.inClass (topS 15) 3)) b_Stock_getitem (defBody (L2.inClass (topS 15) 3)) = true := by decide +kernel
def p_row_value : Par := ⟨["row", "stock", "at", "entry"], [], [], ["enumerate"]⟩
theorem sc_row_value : FnScope p_row_value.N ["row", "stock"] (defScope (topS 8)) := ⟨rfl, rfl, rfl, by decide +kernel, rfl, by decide +kernel, by decide +kernel⟩
theorem ck_row_value : kSs p_row_value (defScope (topS 8)) b_row_value (defBody (topS 8)) = true := by decide +kernel
def p_falls : Par := ⟨["one", "other", "taken", "added", "at"], [], [], ["len"]⟩
theorem sc_falls : FnScope p_falls.N ["one", "other", "taken", "added"] (defScope (topS 7)) := ⟨rfl, rfl, rfl, by decide +kernel, rfl, by decide +kernel, by decide +kernel⟩
theorem ck_falls : kSs p_falls (defScope (topS 7)) b_falls (defBody (topS 7)) = true := by decide +kernel
def p_Ldraw : Par := ⟨["_law_stream", "_law_many", "_law_mixed", "_law_digit"], [], [], ["int"]⟩
theorem sc_Ldraw : FnScope p_Ldraw.N ["_law_stream", "_law_many"] (defScope (topS 20)) := ⟨rfl, rfl, rfl, by decide +kernel, rfl, by decide +kernel, by decide +kernel⟩
theorem ck_Ldraw : kSs p_Ldraw (defScope (topS 20)) b_Ldraw (defBody (topS 20)) = true := by decide +kernel
def p_Lpick : Par := ⟨["_law_stream", "_law_some_here"], ["_law_draw"], [], ["len"]⟩
theorem sc_Lpick : FnScope p_Lpick.N ["_law_stream", "_law_some_here"] (defScope (topS 21)) := ⟨rfl, rfl, rfl, by decide +kernel, rfl, by decide +kernel, by decide +kernel⟩
theorem ck_Lpick : kSs p_Lpick (defScope (topS 21)) b_Lpick (defBody (topS 21)) = true := by decide +kernel
def p_Lsome : Par := ⟨["_law_stream", "_law_things", "_law_one_in", "_law_thing"], ["_law_draw"], [], []⟩
theorem sc_Lsome : FnScope p_Lsome.N ["_law_stream", "_law_things", "_law_one_in"] (defScope (topS 22)) := ⟨rfl, rfl, rfl, by decide +kernel, rfl, by decide +kernel, by decide +kernel⟩
theorem ck_Lsome : kSs p_Lsome (defScope (topS 22)) b_Lsome (defBody (topS 22)) = true := by decide +kernel
def p_Lsame : Par := ⟨["_law_found", "_law_due"], [], [], ["repr"]⟩
theorem sc_Lsame : FnScope p_Lsame.N ["_law_found", "_law_due"] (defScope (topS 23)) := ⟨rfl, rfl, rfl, by decide +kernel, rfl, by decide +kernel, by decide +kernel⟩
theorem ck_Lsame : kSs p_Lsame (defScope (topS 23)) b_Lsame (defBody (topS 23)) = true := by decide +kernel
def p_Lname : Par := ⟨["_law_stream", "_law_taken", "_law_size", "_law_name_here", "_law_k", "_law_one", "_law_letter"], ["_law_draw"], [], ["range"]⟩
theorem sc_Lname : FnScope p_Lname.N ["_law_stream", "_law_taken"] (defScope (topS 24)) := ⟨rfl, rfl, rfl, by decide +kernel, rfl, by decide +kernel, by decide +kernel⟩
theorem ck_Lname : kSs p_Lname (defScope (topS 24)) b_Lname (defBody (topS 24)) = true := by decide +kernel
def p_Lnames : Par := ⟨["_law_stream", "_law_many", "_law_taken", "_law_found", "_law_k"], ["_law_name"], [], ["range"]⟩
theorem sc_Lnames : FnScope p_Lnames.N ["_law_stream", "_law_many", "_law_taken"] (defScope (topS 25)) := ⟨rfl, rfl, rfl, by decide +kernel, rfl, by decide +kernel, by decide +kernel⟩
theorem ck_Lnames : kSs p_Lnames (defScope (topS 25)) b_Lnames (defBody (topS 25)) = true := by decide +kernel
def p_Lrow : Par := ⟨["_law_stream", "_law_names_here", "_law_row_here", "_law_k"], ["_law_draw", "_law_pick"], [], ["range"]⟩
theorem sc_Lrow : FnScope p_Lrow.N ["_law_stream", "_law_names_here"] (defScope (topS 26)) := ⟨rfl, rfl, rfl, by decide +kernel, rfl, by decide +kernel, by decide +kernel⟩
theorem ck_Lrow : kSs p_Lrow (defScope (topS 26)) b_Lrow (defBody (topS 26)) = true := by decide +kernel
def p_Lvaried : Par := ⟨["_law_stream", "_law_row_here", "_law_names_here", "_law_at", "_law_other", "_law_way"], ["_law_draw", "_law_row", "_law_pick"], [], ["list", "len"]⟩
theorem sc_Lvaried : FnScope p_Lvaried.N ["_law_stream", "_law_row_here", "_law_names_here"] (defScope (topS 27)) := ⟨rfl, rfl, rfl, by decide +kernel, rfl, by decide +kernel, by decide +kernel⟩
theorem ck_Lvaried : kSs p_Lvaried (defScope (topS 27)) b_Lvaried (defBody (topS 27)) = true := by decide +kernel
def p_Lvalue : Par := ⟨["_law_row_here", "_law_numbers_here", "_law_entry"], [], [], ["isinstance", "str"]⟩
theorem sc_Lvalue : FnScope p_Lvalue.N ["_law_row_here", "_law_numbers_here"] (defScope (topS 28)) := ⟨rfl, rfl, rfl, by decide +kernel, rfl, by decide +kernel, by decide +kernel⟩
theorem ck_Lvalue : kSs p_Lvalue (defScope (topS 28)) b_Lvalue (defBody (topS 28)) = true := by decide +kernel
def p_Lnumbers : Par := ⟨["_law_stream", "_law_names_here", "_law_taken", "_law_added", "_law_name_here", "_law_ahead", "_law_behind", "_law_change"], ["_law_draw"], [], []⟩
theorem sc_Lnumbers : FnScope p_Lnumbers.N ["_law_stream", "_law_names_here", "_law_taken", "_law_added"] (defScope (topS 29)) := ⟨rfl, rfl, rfl, by decide +kernel, rfl, by decide +kernel, by decide +kernel⟩
theorem ck_Lnumbers : kSs p_Lnumbers (defScope (topS 29)) b_Lnumbers36 (defBody (topS 29)) = true := by decide +kernel
def p_Lplace : Par := ⟨["_law_one", "_law_other", "_law_taken", "_law_added", "_law_k", "_law_is_moved"], [], [], ["range", "min", "len"]⟩
theorem sc_Lplace : FnScope p_Lplace.N ["_law_one", "_law_other", "_law_taken", "_law_added"] (defScope (topS 30)) := ⟨rfl, rfl, rfl, by decide +kernel, rfl, by decide +kernel, by decide +kernel⟩
theorem ck_Lplace : kSs p_Lplace (defScope (topS 30)) b_Lplace (defBody (topS 30)) = true := by decide +kernel
def p_law : Par := ⟨["_law_script", "_law_stream", "_law_turn", "_law_names_here", "_law_one", "_law_other", "_law_taken", "_law_added", "_law_verdict", "_law_again", "_law_at", "_law_first", "_law_second", "_law_ahead", "_law_behind", "_law_name_here"], ["_law_names", "_law_draw", "_law_row", "_law_varied", "_law_some", "falls", "_law_numbers", "row_value", "_law_same", "_law_value", "_law_place"], [], ["list", "range", "tuple", "dict"]⟩
theorem sc_law : FnScope p_law.N ["_law_script"] (defScope (topS 31)) := ⟨rfl, rfl, rfl, by decide +kernel, rfl, by decide +kernel, by decide +kernel⟩
theorem ck_law : kSs p_law (defScope (topS 31)) b_law (defBody (topS 31)) = true := by decide +kernel
theorem allN {α : Type} {p : α → Prop} : ∀ c ∈ ([] : List α), p c := fun c h => nomatch h
theorem allC {α : Type} {p : α → Prop} {a : α} {l : List α} (h : p a) (t : ∀ c ∈ l, p c) : ∀ c ∈ a :: l, p c := fun c hc => by
  rcases List.mem_cons.mp hc with e | e
  · rw [e]; exact h
  · exact t c e

theorem all_mk {P : Program} {w : World} {K : PySem.W.Frag} {h : Heap} {mg : Str → Option Value} {fa : Addr} (X : K.In h) (NS : h.Ns mainGlobals mg) (hfa : mg "law" = some (.ref fa))
    {od0 an0 : Option Addr} {sl0 : Array (Option Value)} {oc0 kV0 dc0 pm0 cd0 ct0 : Value} {f0 : Addr}
    {od1 an1 : Option Addr} {sl1 : Array (Option Value)} {oc1 kV1 dc1 pm1 cd1 ct1 : Value} {f1 : Addr}
    {od2 an2 : Option Addr} {sl2 : Array (Option Value)} {oc2 kV2 dc2 pm2 cd2 ct2 : Value} {f2 : Addr}
    {od3 an3 : Option Addr} {sl3 : Array (Option Value)} {oc3 kV3 dc3 pm3 cd3 ct3 : Value} {f3 : Addr}
    {od4 an4 : Option Addr} {sl4 : Array (Option Value)} {oc4 kV4 dc4 pm4 cd4 ct4 : Value} {f4 : Addr}
    {od5 an5 : Option Addr} {sl5 : Array (Option Value)} {oc5 kV5 dc5 pm5 cd5 ct5 : Value} {f5 : Addr}
    {od6 an6 : Option Addr} {sl6 : Array (Option Value)} {oc6 kV6 dc6 pm6 cd6 ct6 : Value} {f6 : Addr}
    {od7 an7 : Option Addr} {sl7 : Array (Option Value)} {oc7 kV7 dc7 pm7 cd7 ct7 : Value} {f7 : Addr}
    {od8 an8 : Option Addr} {sl8 : Array (Option Value)} {oc8 kV8 dc8 pm8 cd8 ct8 : Value} {f8 : Addr}
    {od9 an9 : Option Addr} {sl9 : Array (Option Value)} {oc9 kV9 dc9 pm9 cd9 ct9 : Value} {f9 : Addr}
    {od10 an10 : Option Addr} {sl10 : Array (Option Value)} {oc10 kV10 dc10 pm10 cd10 ct10 : Value} {f10 : Addr}
    {od11 an11 : Option Addr} {sl11 : Array (Option Value)} {oc11 kV11 dc11 pm11 cd11 ct11 : Value} {f11 : Addr}
    {od12 an12 : Option Addr} {sl12 : Array (Option Value)} {oc12 kV12 dc12 pm12 cd12 ct12 : Value} {f12 : Addr}
    {od13 an13 : Option Addr} {sl13 : Array (Option Value)} {oc13 kV13 dc13 pm13 cd13 ct13 : Value} {f13 : Addr}
    {od14 an14 : Option Addr} {sl14 : Array (Option Value)} {oc14 kV14 dc14 pm14 cd14 ct14 : Value} {f14 : Addr}
    {od15 an15 : Option Addr} {sl15 : Array (Option Value)} {oc15 kV15 dc15 pm15 cd15 ct15 : Value} {f15 : Addr}
    {od16 an16 : Option Addr} {sl16 : Array (Option Value)} {oc16 kV16 dc16 pm16 cd16 ct16 : Value} {f16 : Addr}
    {od17 an17 : Option Addr} {sl17 : Array (Option Value)} {oc17 kV17 dc17 pm17 cd17 ct17 : Value} {f17 : Addr}
    {C0 : Addr}
    (aC0 : PySem.W.nsIn K mainGlobals "Stock" = some (some (.ref C0)))
    (a0 : PySem.W.nsIn K mainGlobals "is_name" = some (some (.ref f0)))
    (l0 : K.lookup f0 = some ⟨oc0, od0, .func (PySem.W.fnOf "is_name" "is_name" (defArgs (topS 4)) (defBody (topS 4)) (defScope (topS 4)) .none kV0 dc0 pm0 an0 cd0 ct0), sl0⟩)
    (c0 : PySem.W.codeIn K cd0 "is_name" = true)
    (k0 : PySem.W.keepIn K (.ref f0) = true)
    (a1 : PySem.W.nsIn K mainGlobals "check_numbers" = some (some (.ref f1)))
    (l1 : K.lookup f1 = some ⟨oc1, od1, .func (PySem.W.fnOf "check_numbers" "check_numbers" (defArgs (topS 16)) (defBody (topS 16)) (defScope (topS 16)) .none kV1 dc1 pm1 an1 cd1 ct1), sl1⟩)
    (c1 : PySem.W.codeIn K cd1 "check_numbers" = true)
    (k1 : PySem.W.keepIn K (.ref f1) = true)
    (a2 : PySem.W.findIn K (.ref C0) "__init__" = some (some (.ref f2)))
    (i2 : PySem.W.isFn K (.ref f2) = true)
    {dT2 : Addr} {oT2 : Option Addr} {nT2 : Nat} {lT2 : Array (Option Value)}
    (l2 : K.lookup f2 = some ⟨oc2, od2, .func (PySem.W.fnOf "__init__" "Stock.__init__" (defArgs (L2.inClass (topS 15) 0)) (defBody (L2.inClass (topS 15) 0)) (defScope (L2.inClass (topS 15) 0)) (.ref dT2) kV2 dc2 pm2 an2 cd2 ct2), sl2⟩)
    (t2 : K.lookup dT2 = some ⟨.type "tuple", oT2, .seq #[.none] nT2, lT2⟩)
    (c2 : PySem.W.codeIn K cd2 "Stock.__init__" = true)
    (k2 : PySem.W.keepIn K (.ref f2) = true)
    (a3 : PySem.W.findIn K (.ref C0) "__getitem__" = some (some (.ref f3)))
    (i3 : PySem.W.isFn K (.ref f3) = true)
    (l3 : K.lookup f3 = some ⟨oc3, od3, .func (PySem.W.fnOf "__getitem__" "Stock.__getitem__" (defArgs (L2.inClass (topS 15) 3)) (defBody (L2.inClass (topS 15) 3)) (defScope (L2.inClass (topS 15) 3)) .none kV3 dc3 pm3 an3 cd3 ct3), sl3⟩)
    (c3 : PySem.W.codeIn K cd3 "Stock.__getitem__" = true)
    (k3 : PySem.W.keepIn K (.ref f3) = true)
    (a4 : PySem.W.nsIn K mainGlobals "row_value" = some (some (.ref f4)))
    (l4 : K.lookup f4 = some ⟨oc4, od4, .func (PySem.W.fnOf "row_value" "row_value" (defArgs (topS 8)) (defBody (topS 8)) (defScope (topS 8)) .none kV4 dc4 pm4 an4 cd4 ct4), sl4⟩)
    (c4 : PySem.W.codeIn K cd4 "row_value" = true)
    (k4 : PySem.W.keepIn K (.ref f4) = true)
    (a5 : PySem.W.nsIn K mainGlobals "falls" = some (some (.ref f5)))
    (l5 : K.lookup f5 = some ⟨oc5, od5, .func (PySem.W.fnOf "falls" "falls" (defArgs (topS 7)) (defBody (topS 7)) (defScope (topS 7)) .none kV5 dc5 pm5 an5 cd5 ct5), sl5⟩)
    (c5 : PySem.W.codeIn K cd5 "falls" = true)
    (k5 : PySem.W.keepIn K (.ref f5) = true)
    (a6 : PySem.W.nsIn K mainGlobals "_law_draw" = some (some (.ref f6)))
    (l6 : K.lookup f6 = some ⟨oc6, od6, .func (PySem.W.fnOf "_law_draw" "_law_draw" (defArgs (topS 20)) (defBody (topS 20)) (defScope (topS 20)) .none kV6 dc6 pm6 an6 cd6 ct6), sl6⟩)
    (c6 : PySem.W.codeIn K cd6 "_law_draw" = true)
    (k6 : PySem.W.keepIn K (.ref f6) = true)
    (a7 : PySem.W.nsIn K mainGlobals "_law_pick" = some (some (.ref f7)))
    (l7 : K.lookup f7 = some ⟨oc7, od7, .func (PySem.W.fnOf "_law_pick" "_law_pick" (defArgs (topS 21)) (defBody (topS 21)) (defScope (topS 21)) .none kV7 dc7 pm7 an7 cd7 ct7), sl7⟩)
    (c7 : PySem.W.codeIn K cd7 "_law_pick" = true)
    (k7 : PySem.W.keepIn K (.ref f7) = true)
    (a8 : PySem.W.nsIn K mainGlobals "_law_some" = some (some (.ref f8)))
    (l8 : K.lookup f8 = some ⟨oc8, od8, .func (PySem.W.fnOf "_law_some" "_law_some" (defArgs (topS 22)) (defBody (topS 22)) (defScope (topS 22)) .none kV8 dc8 pm8 an8 cd8 ct8), sl8⟩)
    (c8 : PySem.W.codeIn K cd8 "_law_some" = true)
    (k8 : PySem.W.keepIn K (.ref f8) = true)
    (a9 : PySem.W.nsIn K mainGlobals "_law_same" = some (some (.ref f9)))
    (l9 : K.lookup f9 = some ⟨oc9, od9, .func (PySem.W.fnOf "_law_same" "_law_same" (defArgs (topS 23)) (defBody (topS 23)) (defScope (topS 23)) .none kV9 dc9 pm9 an9 cd9 ct9), sl9⟩)
    (c9 : PySem.W.codeIn K cd9 "_law_same" = true)
    (k9 : PySem.W.keepIn K (.ref f9) = true)
    (a10 : PySem.W.nsIn K mainGlobals "_law_name" = some (some (.ref f10)))
    (l10 : K.lookup f10 = some ⟨oc10, od10, .func (PySem.W.fnOf "_law_name" "_law_name" (defArgs (topS 24)) (defBody (topS 24)) (defScope (topS 24)) .none kV10 dc10 pm10 an10 cd10 ct10), sl10⟩)
    (c10 : PySem.W.codeIn K cd10 "_law_name" = true)
    (k10 : PySem.W.keepIn K (.ref f10) = true)
    (a11 : PySem.W.nsIn K mainGlobals "_law_names" = some (some (.ref f11)))
    (l11 : K.lookup f11 = some ⟨oc11, od11, .func (PySem.W.fnOf "_law_names" "_law_names" (defArgs (topS 25)) (defBody (topS 25)) (defScope (topS 25)) .none kV11 dc11 pm11 an11 cd11 ct11), sl11⟩)
    (c11 : PySem.W.codeIn K cd11 "_law_names" = true)
    (k11 : PySem.W.keepIn K (.ref f11) = true)
    (a12 : PySem.W.nsIn K mainGlobals "_law_row" = some (some (.ref f12)))
    (l12 : K.lookup f12 = some ⟨oc12, od12, .func (PySem.W.fnOf "_law_row" "_law_row" (defArgs (topS 26)) (defBody (topS 26)) (defScope (topS 26)) .none kV12 dc12 pm12 an12 cd12 ct12), sl12⟩)
    (c12 : PySem.W.codeIn K cd12 "_law_row" = true)
    (k12 : PySem.W.keepIn K (.ref f12) = true)
    (a13 : PySem.W.nsIn K mainGlobals "_law_varied" = some (some (.ref f13)))
    (l13 : K.lookup f13 = some ⟨oc13, od13, .func (PySem.W.fnOf "_law_varied" "_law_varied" (defArgs (topS 27)) (defBody (topS 27)) (defScope (topS 27)) .none kV13 dc13 pm13 an13 cd13 ct13), sl13⟩)
    (c13 : PySem.W.codeIn K cd13 "_law_varied" = true)
    (k13 : PySem.W.keepIn K (.ref f13) = true)
    (a14 : PySem.W.nsIn K mainGlobals "_law_value" = some (some (.ref f14)))
    (l14 : K.lookup f14 = some ⟨oc14, od14, .func (PySem.W.fnOf "_law_value" "_law_value" (defArgs (topS 28)) (defBody (topS 28)) (defScope (topS 28)) .none kV14 dc14 pm14 an14 cd14 ct14), sl14⟩)
    (c14 : PySem.W.codeIn K cd14 "_law_value" = true)
    (k14 : PySem.W.keepIn K (.ref f14) = true)
    (a15 : PySem.W.nsIn K mainGlobals "_law_numbers" = some (some (.ref f15)))
    (l15 : K.lookup f15 = some ⟨oc15, od15, .func (PySem.W.fnOf "_law_numbers" "_law_numbers" (defArgs (topS 29)) (defBody (topS 29)) (defScope (topS 29)) .none kV15 dc15 pm15 an15 cd15 ct15), sl15⟩)
    (c15 : PySem.W.codeIn K cd15 "_law_numbers" = true)
    (k15 : PySem.W.keepIn K (.ref f15) = true)
    (a16 : PySem.W.nsIn K mainGlobals "_law_place" = some (some (.ref f16)))
    (l16 : K.lookup f16 = some ⟨oc16, od16, .func (PySem.W.fnOf "_law_place" "_law_place" (defArgs (topS 30)) (defBody (topS 30)) (defScope (topS 30)) .none kV16 dc16 pm16 an16 cd16 ct16), sl16⟩)
    (c16 : PySem.W.codeIn K cd16 "_law_place" = true)
    (k16 : PySem.W.keepIn K (.ref f16) = true)
    (a17 : PySem.W.nsIn K mainGlobals "law" = some (some (.ref f17)))
    (l17 : K.lookup f17 = some ⟨oc17, od17, .func (PySem.W.fnOf "law" "law" (defArgs (topS 31)) (defBody (topS 31)) (defScope (topS 31)) .none kV17 dc17 pm17 an17 cd17 ct17), sl17⟩)
    (c17 : PySem.W.codeIn K cd17 "law" = true)
    (k17 : PySem.W.keepIn K (.ref f17) = true)
    (pg0 : PySem.W.plainGet K C0 Str.empty = true)
    (hd0 : PySem.W.hasDictIn K C0 = true)
    (po0 : PySem.W.plainOver K C0 = true)
    (sa0 : PySem.W.findIn K (.ref C0) "__setattr__" = some (some (.builtin "object.__setattr__")))
    (mk0 : PySem.W.makesIn K C0 = true)
    (kc0 : PySem.W.keepIn K (.ref C0) = true)
    (mo0 : PySem.W.mroIn K C0 (.type "object") = some true)
    (sf0 : PySem.W.selfFirst K C0 = true)
    (ns0 : PySem.W.noSeq K C0 = true)
    (fm0 : PySem.W.findIn K (.ref C0) "__format__" = some (some (.builtin "object.__format__")))
    (fne0 : PySem.W.findIn K (.ref C0) "__ne__" = some (some (.builtin "object.__ne__")))
    (fgt0 : PySem.W.findIn K (.ref C0) "__gt__" = some (some (.builtin "object.__gt__")))
    (fge0 : PySem.W.findIn K (.ref C0) "__ge__" = some (some (.builtin "object.__ge__")))
    {fi0 : Addr}
    (xg0 : PySem.W.findIn K (.ref C0) "__getitem__" = some (some (.ref fi0)))
    (yg0 : PySem.W.fnIn K fi0 = true)
    (xc0 : PySem.W.findIn K (.ref C0) "__call__" = some none)
    (na0 : PySem.W.findIn K (.ref C0) "table" = some none)
    (z0 : PySem.W.nsIn K mainGlobals "len" = some none)
    (z1 : PySem.W.nsIn K mainGlobals "all" = some none)
    (z2 : PySem.W.nsIn K mainGlobals "enumerate" = some none)
    (z3 : PySem.W.nsIn K mainGlobals "int" = some none)
    (z4 : PySem.W.nsIn K mainGlobals "repr" = some none)
    (z5 : PySem.W.nsIn K mainGlobals "range" = some none)
    (z6 : PySem.W.nsIn K mainGlobals "list" = some none)
    (z7 : PySem.W.nsIn K mainGlobals "isinstance" = some none)
    (z8 : PySem.W.nsIn K mainGlobals "str" = some none)
    (z9 : PySem.W.nsIn K mainGlobals "min" = some none)
    (z10 : PySem.W.nsIn K mainGlobals "tuple" = some none)
    (z11 : PySem.W.nsIn K mainGlobals "dict" = some none)
    {ag0 : Addr} {dg0 : Option Addr} {ng0 : Nat} {vg0 : Array (Option Value)} {tg0_0 tg0_1 tg0_2 tg0_3 tg0_4 : Tok}
    (gl0 : PySem.W.nsIn K mainGlobals "RESERVED" = some (some (.ref ag0)))
    (go0 : K.lookup ag0 = some ⟨.type "tuple", dg0, .seq #[.str "and" tg0_0, .str "or" tg0_1, .str "not" tg0_2, .str "always" tg0_3, .str "never" tg0_4] ng0, vg0⟩)
    {tg1 : Tok}
    (gl1 : PySem.W.nsIn K mainGlobals "LETTERS" = some (some (.str "abcdefghijklmnopqrstuvwxyz" tg1))) :
    ∃ (cl : Nat → Addr) (fd : FuncData), (∀ (s : Shared) (v : Value), BindsTo s fd ⟨[v], []⟩ [("_law_script", v)]) ∧ ∀ base : Heap, K.In base → base.Ns mainGlobals mg → Fn P w ⟨K, cl⟩ mg base 5 fa fd ["_law_script"] spLaw := by
  have e := hfa.symm.trans (PySem.W.mg_of X NS a17)
  cases e
  obtain ⟨cl, e0⟩ : ∃ cl : Nat → Addr, cl 0 = C0 := ⟨(fun i => match i with | 0 => C0 | _ => 0), rfl⟩
  subst e0
  have F0 := fun_mk (st := (topS 4)) l0 c0 k0
  have b0 := F0.binds (ps := ["text"]) fun _ _ _ _ _ _ us hl => match us, hl with | [_], _ => rfl
  have m0 := PySem.W.mg_of X NS a0
  have F1 := fun_mk (st := (topS 16)) l1 c1 k1
  have b1 := F1.binds (ps := ["numbers"]) fun _ _ _ _ _ _ us hl => match us, hl with | [_], _ => rfl
  have m1 := PySem.W.mg_of X NS a1
  have F2 := funA_mk (st := (L2.inClass (topS 15) 0)) l2 c2 k2
  have b2 : Binds K _ ["self", "numbers"] [] := fun s us X hl => (match us, hl with | [_, _], _ => BindsTo.of_defaults (T := dT2) rfl (X _ _ t2) rfl rfl rfl : BindsTo s (PySem.W.fnOf "__init__" "Stock.__init__" (defArgs (L2.inClass (topS 15) 0)) (defBody (L2.inClass (topS 15) 0)) (defScope (L2.inClass (topS 15) 0)) (.ref dT2) kV2 dc2 pm2 an2 cd2 ct2) ⟨us, []⟩ ((["self", "numbers"] : List Str).zip (us ++ [])))
  have F3 := fun_mk (st := (L2.inClass (topS 15) 3)) l3 c3 k3
  have b3 := F3.binds (ps := ["self", "name"]) fun _ _ _ _ _ _ us hl => match us, hl with | [_, _], _ => rfl
  have F4 := fun_mk (st := (topS 8)) l4 c4 k4
  have b4 := F4.binds (ps := ["row", "stock"]) fun _ _ _ _ _ _ us hl => match us, hl with | [_, _], _ => rfl
  have m4 := PySem.W.mg_of X NS a4
  have F5 := fun_mk (st := (topS 7)) l5 c5 k5
  have b5 := F5.binds (ps := ["one", "other", "taken", "added"]) fun _ _ _ _ _ _ us hl => match us, hl with | [_, _, _, _], _ => rfl
  have m5 := PySem.W.mg_of X NS a5
  have F6 := fun_mk (st := (topS 20)) l6 c6 k6
  have b6 := F6.binds (ps := ["_law_stream", "_law_many"]) fun _ _ _ _ _ _ us hl => match us, hl with | [_, _], _ => rfl
  have m6 := PySem.W.mg_of X NS a6
  have F7 := fun_mk (st := (topS 21)) l7 c7 k7
  have b7 := F7.binds (ps := ["_law_stream", "_law_some_here"]) fun _ _ _ _ _ _ us hl => match us, hl with | [_, _], _ => rfl
  have m7 := PySem.W.mg_of X NS a7
  have F8 := fun_mk (st := (topS 22)) l8 c8 k8
  have b8 := F8.binds (ps := ["_law_stream", "_law_things", "_law_one_in"]) fun _ _ _ _ _ _ us hl => match us, hl with | [_, _, _], _ => rfl
  have m8 := PySem.W.mg_of X NS a8
  have F9 := fun_mk (st := (topS 23)) l9 c9 k9
  have b9 := F9.binds (ps := ["_law_found", "_law_due"]) fun _ _ _ _ _ _ us hl => match us, hl with | [_, _], _ => rfl
  have m9 := PySem.W.mg_of X NS a9
  have F10 := fun_mk (st := (topS 24)) l10 c10 k10
  have b10 := F10.binds (ps := ["_law_stream", "_law_taken"]) fun _ _ _ _ _ _ us hl => match us, hl with | [_, _], _ => rfl
  have m10 := PySem.W.mg_of X NS a10
  have F11 := fun_mk (st := (topS 25)) l11 c11 k11
  have b11 := F11.binds (ps := ["_law_stream", "_law_many", "_law_taken"]) fun _ _ _ _ _ _ us hl => match us, hl with | [_, _, _], _ => rfl
  have m11 := PySem.W.mg_of X NS a11
  have F12 := fun_mk (st := (topS 26)) l12 c12 k12
  have b12 := F12.binds (ps := ["_law_stream", "_law_names_here"]) fun _ _ _ _ _ _ us hl => match us, hl with | [_, _], _ => rfl
  have m12 := PySem.W.mg_of X NS a12
  have F13 := fun_mk (st := (topS 27)) l13 c13 k13
  have b13 := F13.binds (ps := ["_law_stream", "_law_row_here", "_law_names_here"]) fun _ _ _ _ _ _ us hl => match us, hl with | [_, _, _], _ => rfl
  have m13 := PySem.W.mg_of X NS a13
  have F14 := fun_mk (st := (topS 28)) l14 c14 k14
  have b14 := F14.binds (ps := ["_law_row_here", "_law_numbers_here"]) fun _ _ _ _ _ _ us hl => match us, hl with | [_, _], _ => rfl
  have m14 := PySem.W.mg_of X NS a14
  have F15 := fun_mk (st := (topS 29)) l15 c15 k15
  have b15 := F15.binds (ps := ["_law_stream", "_law_names_here", "_law_taken", "_law_added"]) fun _ _ _ _ _ _ us hl => match us, hl with | [_, _, _, _], _ => rfl
  have m15 := PySem.W.mg_of X NS a15
  have F16 := fun_mk (st := (topS 30)) l16 c16 k16
  have b16 := F16.binds (ps := ["_law_one", "_law_other", "_law_taken", "_law_added"]) fun _ _ _ _ _ _ us hl => match us, hl with | [_, _, _, _], _ => rfl
  have m16 := PySem.W.mg_of X NS a16
  have F17 := fun_mk (st := (topS 31)) l17 c17 k17
  have m17 := PySem.W.mg_of X NS a17
  have mC0 := PySem.W.mg_of X NS aC0
  have cl0 : Cls K (cl 0) := ⟨pg0, hd0, po0, sa0⟩
  have cg0 : ClG K (cl 0) := ⟨sf0, ns0, mo0, fm0, co_no xc0, fne0, fgt0, fge0, go_yes xg0 yg0⟩
  have y0 := PySem.W.mg_none_of X NS z0
  have y1 := PySem.W.mg_none_of X NS z1
  have y2 := PySem.W.mg_none_of X NS z2
  have y3 := PySem.W.mg_none_of X NS z3
  have y4 := PySem.W.mg_none_of X NS z4
  have y5 := PySem.W.mg_none_of X NS z5
  have y6 := PySem.W.mg_none_of X NS z6
  have y7 := PySem.W.mg_none_of X NS z7
  have y8 := PySem.W.mg_none_of X NS z8
  have y9 := PySem.W.mg_none_of X NS z9
  have y10 := PySem.W.mg_none_of X NS z10
  have y11 := PySem.W.mg_none_of X NS z11
  have gg0 := gl_tup (T := ⟨K, cl⟩) (ps := [("and", tg0_0), ("or", tg0_1), ("not", tg0_2), ("always", tg0_3), ("never", tg0_4)]) (PySem.W.mg_of X NS gl0) go0 ⟨rfl, by simp⟩
  have gg1 := gl_str (T := ⟨K, cl⟩) (PySem.W.mg_of X NS gl1) (by decide +kernel)
  refine ⟨cl, PySem.W.fnOf "law" "law" (defArgs (topS 31)) (defBody (topS 31)) (defScope (topS 31)) .none kV17 dc17 pm17 an17 cd17 ct17, fun s v => .of_eq rfl, fun base _ _ => ?_⟩
  have H0 : Fn P w ⟨K, cl⟩ mg base 1 f0 _ ["text"] spIsName := fn_ok (T := ⟨K, cl⟩) (Γ := (g_is_name)) (p := p_is_name) (k := 0) F0 sc_is_name ck_is_name ⟨allN, rfl, (allC gg0 (allC gg1 allN)), rfl, (allC y0 (allC y1 allN)), allN, allN, allN, allN, allN, allN, allN, allN, allN⟩ (by trivial) (is_name_ok)
  have H1 : Fn P w ⟨K, cl⟩ mg base 2 f1 _ ["numbers"] spCheck := fn_ok (T := ⟨K, cl⟩) (Γ := (g_check_numbers)) (p := p_check_numbers) (k := 1) F1 sc_check_numbers ck_check_numbers ⟨(allC ⟨⟨_, _, _, [], [], m0, F0.kp, b0, .nil, fun _ => .nil, (H0.mono (by omega))⟩⟩ allN), rfl, allN, rfl, allN, allN, allN, allN, allN, allN, allN, allN, allN, allN⟩ (by trivial) (check_ok)
  have H2 : Fn P w ⟨K, cl⟩ mg base 3 f2 _ ["self", "numbers"] spSInit := fn_okDX (T := ⟨K, cl⟩) (Γ := (g_Stock_init)) (p := p_Stock_init) (k := 2) F2 sc_Stock_init ck_Stock_init ⟨(allC ⟨⟨_, _, _, [], [], m1, F1.kp, b1, .nil, fun _ => .nil, (H1.mono (by omega))⟩⟩ allN), rfl, allN, rfl, allN, (allC ⟨cl0, na0⟩ allN), allN, allN, allN, allN, allN, allN, allN, allN⟩ (by trivial) (Sinit_ok)
  have H3 : Fn P w ⟨K, cl⟩ mg base 1 f3 _ ["self", "name"] spSget := fn_ok (T := ⟨K, cl⟩) (Γ := (g_Stock_getitem)) (p := p_Stock_getitem) (k := 0) F3 sc_Stock_getitem ck_Stock_getitem ⟨allN, rfl, allN, rfl, allN, (allC ⟨cl0, na0⟩ allN), allN, allN, allN, allN, allN, allN, allN, allN⟩ (by trivial) (sget_ok)
  have H4 : Fn P w ⟨K, cl⟩ mg base 4 f4 _ ["row", "stock"] spRowValue := fn_ok (T := ⟨K, cl⟩) (Γ := (g_row_value)) (p := p_row_value) (k := 3) F4 sc_row_value ck_row_value ⟨allN, rfl, allN, rfl, (allC y2 allN), allN, allN, allN, (allC ⟨1, by omega, ⟨cl0, ⟨_, _, _, [], [], ⟨a3, i3, k3⟩, b3, .nil, fun _ => .nil, (H3.mono (by omega))⟩⟩⟩ allN), allN, allN, (allC cg0 allN), allN, allN⟩ (by trivial) (row_value_ok)
  have H5 : Fn P w ⟨K, cl⟩ mg base 1 f5 _ ["one", "other", "taken", "added"] spFalls := fn_ok (T := ⟨K, cl⟩) (Γ := (g_falls)) (p := p_falls) (k := 0) F5 sc_falls ck_falls ⟨allN, rfl, allN, rfl, (allC y0 allN), allN, allN, allN, allN, allN, allN, allN, allN, allN⟩ (by trivial) (falls_ok)
  have H6 : Fn P w ⟨K, cl⟩ mg base 1 f6 _ ["_law_stream", "_law_many"] spDraw := fn_ok (T := ⟨K, cl⟩) (Γ := (g_Ldraw)) (p := p_Ldraw) (k := 0) F6 sc_Ldraw ck_Ldraw ⟨allN, rfl, allN, rfl, (allC y3 allN), allN, allN, allN, allN, allN, allN, allN, allN, allN⟩ (by trivial) (draw_ok)
  have H7 : Fn P w ⟨K, cl⟩ mg base 2 f7 _ ["_law_stream", "_law_some_here"] spPick := fn_ok (T := ⟨K, cl⟩) (Γ := (g_Lpick)) (p := p_Lpick) (k := 1) F7 sc_Lpick ck_Lpick ⟨(allC ⟨⟨_, _, _, [], [], m6, F6.kp, b6, .nil, fun _ => .nil, (H6.mono (by omega))⟩⟩ allN), rfl, allN, rfl, (allC y0 allN), allN, allN, allN, allN, allN, allN, allN, allN, allN⟩ (by trivial) (pick_ok)
  have H8 : Fn P w ⟨K, cl⟩ mg base 2 f8 _ ["_law_stream", "_law_things", "_law_one_in"] spSome := fn_ok (T := ⟨K, cl⟩) (Γ := (g_Lsome)) (p := p_Lsome) (k := 1) F8 sc_Lsome ck_Lsome ⟨(allC ⟨⟨_, _, _, [], [], m6, F6.kp, b6, .nil, fun _ => .nil, (H6.mono (by omega))⟩⟩ allN), rfl, allN, rfl, allN, allN, allN, allN, allN, allN, allN, allN, allN, allN⟩ (by trivial) (some_ok)
  have H9 : Fn P w ⟨K, cl⟩ mg base 1 f9 _ ["_law_found", "_law_due"] spSame := fn_ok (T := ⟨K, cl⟩) (Γ := (g_Lsame)) (p := p_Lsame) (k := 0) F9 sc_Lsame ck_Lsame ⟨allN, rfl, allN, rfl, (allC y4 allN), allN, allN, allN, allN, allN, allN, allN, allN, allN⟩ (by trivial) (same_ok)
  have H10 : Fn P w ⟨K, cl⟩ mg base 2 f10 _ ["_law_stream", "_law_taken"] spName := fn_ok (T := ⟨K, cl⟩) (Γ := (g_Lname)) (p := p_Lname) (k := 1) F10 sc_Lname ck_Lname ⟨(allC ⟨⟨_, _, _, [], [], m6, F6.kp, b6, .nil, fun _ => .nil, (H6.mono (by omega))⟩⟩ allN), rfl, allN, rfl, (allC y5 allN), allN, allN, allN, allN, allN, allN, allN, allN, allN⟩ (by trivial) (name_ok)
  have H11 : Fn P w ⟨K, cl⟩ mg base 3 f11 _ ["_law_stream", "_law_many", "_law_taken"] spNames := fn_ok (T := ⟨K, cl⟩) (Γ := (g_Lnames)) (p := p_Lnames) (k := 2) F11 sc_Lnames ck_Lnames ⟨(allC ⟨⟨_, _, _, [], [], m10, F10.kp, b10, .nil, fun _ => .nil, (H10.mono (by omega))⟩⟩ allN), rfl, allN, rfl, (allC y5 allN), allN, allN, allN, allN, allN, allN, allN, allN, allN⟩ (by trivial) (names_ok)
  have H12 : Fn P w ⟨K, cl⟩ mg base 3 f12 _ ["_law_stream", "_law_names_here"] spRow := fn_ok (T := ⟨K, cl⟩) (Γ := (g_Lrow)) (p := p_Lrow) (k := 2) F12 sc_Lrow ck_Lrow ⟨(allC ⟨⟨_, _, _, [], [], m6, F6.kp, b6, .nil, fun _ => .nil, (H6.mono (by omega))⟩⟩ (allC ⟨⟨_, _, _, [], [], m7, F7.kp, b7, .nil, fun _ => .nil, (H7.mono (by omega))⟩⟩ allN)), rfl, allN, rfl, (allC y5 allN), allN, allN, allN, allN, allN, allN, allN, allN, allN⟩ (by trivial) (row_ok)
  have H13 : Fn P w ⟨K, cl⟩ mg base 4 f13 _ ["_law_stream", "_law_row_here", "_law_names_here"] spVaried := fn_ok (T := ⟨K, cl⟩) (Γ := (g_Lvaried)) (p := p_Lvaried) (k := 3) F13 sc_Lvaried ck_Lvaried ⟨(allC ⟨⟨_, _, _, [], [], m6, F6.kp, b6, .nil, fun _ => .nil, (H6.mono (by omega))⟩⟩ (allC ⟨⟨_, _, _, [], [], m12, F12.kp, b12, .nil, fun _ => .nil, (H12.mono (by omega))⟩⟩ (allC ⟨⟨_, _, _, [], [], m7, F7.kp, b7, .nil, fun _ => .nil, (H7.mono (by omega))⟩⟩ allN))), rfl, allN, rfl, (allC y6 (allC y0 allN)), allN, allN, allN, allN, allN, allN, allN, allN, allN⟩ (by trivial) (varied_ok)
  have H14 : Fn P w ⟨K, cl⟩ mg base 1 f14 _ ["_law_row_here", "_law_numbers_here"] spValue := fn_ok (T := ⟨K, cl⟩) (Γ := (g_Lvalue)) (p := p_Lvalue) (k := 0) F14 sc_Lvalue ck_Lvalue ⟨allN, rfl, allN, rfl, (allC y7 (allC y8 allN)), allN, allN, allN, allN, allN, allN, allN, allN, allN⟩ (by trivial) (value_ok)
  have H15 : Fn P w ⟨K, cl⟩ mg base 2 f15 _ ["_law_stream", "_law_names_here", "_law_taken", "_law_added"] spNumbers36 := fn_ok (T := ⟨K, cl⟩) (Γ := (g_Lnumbers36)) (p := p_Lnumbers) (k := 1) F15 sc_Lnumbers ck_Lnumbers ⟨(allC ⟨⟨_, _, _, [], [], m6, F6.kp, b6, .nil, fun _ => .nil, (H6.mono (by omega))⟩⟩ allN), rfl, allN, rfl, allN, allN, allN, allN, allN, allN, allN, allN, allN, allN⟩ (by trivial) (numbers36_ok)
  have H16 : Fn P w ⟨K, cl⟩ mg base 1 f16 _ ["_law_one", "_law_other", "_law_taken", "_law_added"] spPlace := fn_ok (T := ⟨K, cl⟩) (Γ := (g_Lplace)) (p := p_Lplace) (k := 0) F16 sc_Lplace ck_Lplace ⟨allN, rfl, allN, rfl, (allC y5 (allC y9 (allC y0 allN))), allN, allN, allN, allN, allN, allN, allN, allN, allN⟩ (by trivial) (place_ok)
  exact fn_ok (T := ⟨K, cl⟩) (Γ := (g_law)) (p := p_law) (k := 4) F17 sc_law ck_law ⟨(allC ⟨⟨_, _, _, [], [], m11, F11.kp, b11, .nil, fun _ => .nil, (H11.mono (by omega))⟩⟩ (allC ⟨⟨_, _, _, [], [], m6, F6.kp, b6, .nil, fun _ => .nil, (H6.mono (by omega))⟩⟩ (allC ⟨⟨_, _, _, [], [], m12, F12.kp, b12, .nil, fun _ => .nil, (H12.mono (by omega))⟩⟩ (allC ⟨⟨_, _, _, [], [], m13, F13.kp, b13, .nil, fun _ => .nil, (H13.mono (by omega))⟩⟩ (allC ⟨⟨_, _, _, [], [], m8, F8.kp, b8, .nil, fun _ => .nil, (H8.mono (by omega))⟩⟩ (allC ⟨⟨_, _, _, [], [], m5, F5.kp, b5, .nil, fun _ => .nil, (H5.mono (by omega))⟩⟩ (allC ⟨⟨_, _, _, [], [], m15, F15.kp, b15, .nil, fun _ => .nil, (H15.mono (by omega))⟩⟩ (allC ⟨⟨_, _, _, [], [], m4, F4.kp, b4, .nil, fun _ => .nil, (H4.mono (by omega))⟩⟩ (allC ⟨⟨_, _, _, [], [], m9, F9.kp, b9, .nil, fun _ => .nil, (H9.mono (by omega))⟩⟩ (allC ⟨⟨_, _, _, [], [], m14, F14.kp, b14, .nil, fun _ => .nil, (H14.mono (by omega))⟩⟩ (allC ⟨⟨_, _, _, [], [], m16, F16.kp, b16, .nil, fun _ => .nil, (H16.mono (by omega))⟩⟩ allN))))))))))), rfl, allN, rfl, (allC y6 (allC y5 (allC y10 (allC y11 allN)))), allN, allN, (allC ⟨3, by omega, ⟨_, _, _, [], [], mC0, ⟨mk0, a2, i2, kc0⟩, b2, .nil, fun _ => .nil, (H2.mono (by omega))⟩⟩ allN), allN, allN, allN, allN, allN, allN⟩ (by trivial) (law_ok)
end Z
open PySem PySem.W PyProof.Rows
set_option maxHeartbeats 0 in
theorem PySem.Challenge.cw_noneorsome_k36_whole_falls_by_numbers_holds : PySem.Challenge.rw_noneorsome_k36_whole_falls_by_numbers.Holds := by
  w_on; o_law; k_head; (case hw => w_witness2)
  k_fill
  refine Z.zwalk2 (l := PySem.Challenge.rw_noneorsome_k36_whole_falls_by_numbers) (n := 63) (k := 5) (x := "_law_script") (sp := Z.spLaw) rfl (by decide) rfl ⟨rfl, by decide, by decide⟩ (fun w h Y => PySem.W.kIn_of Y) ?F (fun _ ns hl _ => Z.spLaw_in ns hl)
  case F =>
    intro w mg fa h KX G hmg
    refine' Z.all_mk KX G hmg ?aC0 ?a0 ?l0 ?c0 ?k0 ?a1 ?l1 ?c1 ?k1 ?a2 ?i2 ?l2 ?t2 ?c2 ?k2 ?a3 ?i3 ?l3 ?c3 ?k3 ?a4 ?l4 ?c4 ?k4 ?a5 ?l5 ?c5 ?k5 ?a6 ?l6 ?c6 ?k6 ?a7 ?l7 ?c7 ?k7 ?a8 ?l8 ?c8 ?k8 ?a9 ?l9 ?c9 ?k9 ?a10 ?l10 ?c10 ?k10 ?a11 ?l11 ?c11 ?k11 ?a12 ?l12 ?c12 ?k12 ?a13 ?l13 ?c13 ?k13 ?a14 ?l14 ?c14 ?k14 ?a15 ?l15 ?c15 ?k15 ?a16 ?l16 ?c16 ?k16 ?a17 ?l17 ?c17 ?k17 ?pg0 ?hd0 ?po0 ?sa0 ?mk0 ?kc0 ?mo0 ?sf0 ?ns0 ?fm0 ?fne0 ?fgt0 ?fge0 ?xg0 ?yg0 ?xc0 ?na0 ?z0 ?z1 ?z2 ?z3 ?z4 ?z5 ?z6 ?z7 ?z8 ?z9 ?z10 ?z11 ?gl0 ?go0 ?gl1
    (case aC0 => k_is); (case a0 => k_is); (case l0 => k_is); (case c0 => k_is); (case k0 => k_is); (case a1 => k_is); (case l1 => k_is); (case c1 => k_is); (case k1 => k_is); (case a2 => k_is); (case i2 => k_is); (case l2 => k_is); (case t2 => k_is); (case c2 => k_is); (case k2 => k_is); (case a3 => k_is); (case i3 => k_is); (case l3 => k_is); (case c3 => k_is); (case k3 => k_is); (case a4 => k_is); (case l4 => k_is); (case c4 => k_is); (case k4 => k_is); (case a5 => k_is); (case l5 => k_is); (case c5 => k_is); (case k5 => k_is); (case a6 => k_is); (case l6 => k_is); (case c6 => k_is); (case k6 => k_is); (case a7 => k_is); (case l7 => k_is); (case c7 => k_is); (case k7 => k_is); (case a8 => k_is); (case l8 => k_is); (case c8 => k_is); (case k8 => k_is); (case a9 => k_is); (case l9 => k_is); (case c9 => k_is); (case k9 => k_is); (case a10 => k_is); (case l10 => k_is); (case c10 => k_is); (case k10 => k_is); (case a11 => k_is); (case l11 => k_is); (case c11 => k_is); (case k11 => k_is); (case a12 => k_is); (case l12 => k_is); (case c12 => k_is); (case k12 => k_is); (case a13 => k_is); (case l13 => k_is); (case c13 => k_is); (case k13 => k_is); (case a14 => k_is); (case l14 => k_is); (case c14 => k_is); (case k14 => k_is); (case a15 => k_is); (case l15 => k_is); (case c15 => k_is); (case k15 => k_is); (case a16 => k_is); (case l16 => k_is); (case c16 => k_is); (case k16 => k_is); (case a17 => k_is); (case l17 => k_is); (case c17 => k_is); (case k17 => k_is); (case pg0 => k_is); (case hd0 => k_is); (case po0 => k_is); (case sa0 => k_is); (case mk0 => k_is); (case kc0 => k_is); (case mo0 => k_is); (case sf0 => k_is); (case ns0 => k_is); (case fm0 => k_is); (case fne0 => k_is); (case fgt0 => k_is); (case fge0 => k_is); (case xg0 => k_is); (case yg0 => k_is); (case xc0 => k_is); (case na0 => k_is); (case z0 => k_is); (case z1 => k_is); (case z2 => k_is); (case z3 => k_is); (case z4 => k_is); (case z5 => k_is); (case z6 => k_is); (case z7 => k_is); (case z8 => k_is); (case z9 => k_is); (case z10 => k_is); (case z11 => k_is); (case gl0 => k_is); (case go0 => k_is); (case gl1 => k_is)
