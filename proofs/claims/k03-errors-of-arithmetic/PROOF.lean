import PyProof.Rows.All
import Wide.All
import OpenK.AllK
import Wide.FinOn
import PyProof.EqAt
import PyProof.EqKinds
import PyProof.TupleCall
import HandS.ForMost
import HandS.Exc
import HandS.ExcOwn
import HandS.TryOnly
import HandS.WordsExc
import HandS.IsInst
import HandS.Wide
import KE.DataEq
import KE.KExcSuper
import HandS.ExcInit
import HandS.ExcField
import HandS.ExcIs
import KE.KExcIs
import PyProof.ReprRoads
import HandS.Dict
import HandS.TupLe
import HandS.Defaults
import HandS.Comp
import HandS.TupAny
import HandS.TupMul
import PySem.Challenge.RW_pulleyworks_k03_errors_of_arithmetic
set_option Elab.async false
set_option linter.all false
set_option maxRecDepth 100000
set_option maxHeartbeats 8000000
set_option autoImplicit false
/-! Data over the hand layer: expressions and statements read as changes of plain data. -/
namespace PD
open PySem PySem.Spec PyProof.Rows L2

/-! ### plain data -/
inductive Tg where
  | tup | lst | scr | dic (ks : List Key) | ins (c : Str) (fs : List Str)
inductive D where
  | non | bl (b : Bool) | int (i : Int) | str (x : Str) | glo (x : Str) | nd (t : Tg) (xs : List D)
/-- an error: its class by number, its field's value -/
structure DErr where
  k : Nat
  d : D
/-- a caught error in an except suite: where it lies, its class, its dict -/
structure XU where
  a : Addr
  cls : Value
  d : Option Addr
/-- a slot: empty, a value that never changes, an object of one's own, a caught error -/
inductive S where
  | un | fz (d : D) | ow (a : Addr) (l : Bool) (d : D) | xc (u : XU) (e : DErr)
def exN : Nat → Str
  | 0 => "InvalidNumber" | 1 => "InvalidWork" | 2 => "InvalidRope" | 3 => "InvalidMotion" | 4 => "InvalidHeights" | 5 => "InvalidLimits" | 6 => "InvalidTensions"
  | 7 => "InvalidName" | 8 => "InvalidCommand" | 9 => "ParseError" | 10 => "NameClash" | 11 => "Weightless" | 12 => "LimitExceeded" | 13 => "UnknownName"
  | 14 => "NothingToUndo" | _ => "-"
def exF : Nat → Str
  | 0 => "value" | 1 => "part" | 2 => "name" | 3 => "value" | 4 => "value" | 5 => "value" | 6 => "value"
  | 7 => "value" | 8 => "word" | 9 => "text" | 10 => "name" | 11 => "hook" | 12 => "count" | 13 => "name"
  | _ => ""

abbrev LS := List S
abbrev DX := DErr → LS → Prop
abbrev DE := DX → LS → (D → LS → Prop) → Prop
abbrev DO := DX → LS → (S → LS → Prop) → Prop
abbrev DT := DX → LS → (Bool → LS → Prop) → Prop
/-- an argument: a value, or an own object by its slot -/
inductive AI where
  | d (d : D) | io (i : Nat)
abbrev DA := DX → LS → (List D → LS → Prop) → Prop
structure DEnds where
  nx : LS → Prop
  rt : S → LS → Prop
  bk : LS → Prop
  ct : LS → Prop
  ex : DX
abbrev DS := DEnds → LS → Prop

section
variable (K : PySem.W.Frag) (mg : Str → Option Value)
def Node (H : Hp) : Tg → Addr → List V → Prop
  | .tup, a, vs => SqT K H a vs
  | .lst, a, vs => H a = some (.lst vs)
  | .scr, a, vs => SqL K H a vs
  | .dic ks, a, vs => ks.length = vs.length ∧ Rd H a (.dK (ks.zip vs))
  | .ins c fs, a, vs => fs.length = vs.length ∧ ∃ C dx, mg c = some (.ref C) ∧ H a = some (.ins C dx (fs.zip vs))
mutual
def Rep (H : Hp) : D → V → Prop
  | .non, v => v = .non
  | .bl b, v => v = .bl b
  | .int i, v => v = .int i
  | .str x, v => v = .str x
  | .glo x, v => ∃ a, mg x = some (.ref a) ∧ v = .ref a
  | .nd t ds, v => ∃ a vs, v = .ref a ∧ Node K mg H t a vs ∧ RepL H ds vs
def RepL (H : Hp) : List D → List V → Prop
  | [], vs => vs = []
  | d :: ds, vs => ∃ v r, vs = v :: r ∧ Rep H d v ∧ RepL H ds r
end
def RepE (H : Hp) (e : DErr) (cls : Value) (d : Option Addr) : Prop :=
  (∃ C, mg (exN e.k) = some (.ref C) ∧ cls = .ref C) ∧ ((e.k = 14 ∧ d = none) ∨ ∃ dd v, d = some dd ∧ H dd = some (.xd [(exF e.k, v)]) ∧ Rep K mg H e.d v)
/-- tracked, to be written -/
def NodeM (H : Hp) : Tg → Addr → List V → Prop
  | .tup, _, _ => False
  | .scr, _, _ => False
  | .lst, a, vs => H a = some (.lst vs)
  | .dic ks, a, vs => ks.length = vs.length ∧ H a = some (.dK (ks.zip vs))
  | .ins c fs, a, vs => fs.length = vs.length ∧ ∃ C dx, mg c = some (.ref C) ∧ H a = some (.ins C dx (fs.zip vs))
end

section
variable {K : PySem.W.Frag} {mg : Str → Option Value} {H H' H0 H0' : Hp}
theorem Rd.mono {a : Addr} {u : HO} (e : Same H H') (h : Rd H a u) : Rd H' a u := by
  rcases h with h | ⟨o, h⟩
  · exact .inl (e _ _ h)
  · exact .inr ⟨o, e _ _ h⟩
theorem SqT.mono {a : Addr} {xs : List V} (e : Same H H') (h : SqT K H a xs) : SqT K H' a xs := by
  rcases h with h | h
  · exact .inl (Rd.mono e h)
  · exact .inr h
theorem Node.mono {t : Tg} {a : Addr} {vs : List V} (e : Same H H') (h : Node K mg H t a vs) : Node K mg H' t a vs := by
  cases t with
  | tup => exact SqT.mono e h
  | lst => exact e _ _ h
  | scr => exact e.seq h
  | dic ks => exact ⟨h.1, Rd.mono e h.2⟩
  | ins c fs =>
    obtain ⟨h1, C, dx, h2, h3⟩ := h
    exact ⟨h1, C, dx, h2, e _ _ h3⟩
mutual
theorem Rep.mono (e : Same H H') : ∀ (d : D) (v : V), Rep K mg H d v → Rep K mg H' d v
  | .non, _, h => h
  | .bl _, _, h => h
  | .int _, _, h => h
  | .str _, _, h => h
  | .glo _, _, h => h
  | .nd t ds, v, h => by
    unfold Rep at h ⊢
    obtain ⟨a, vs, h1, h2, h3⟩ := h
    exact ⟨a, vs, h1, Node.mono e h2, RepL.mono e ds vs h3⟩
theorem RepL.mono (e : Same H H') : ∀ (ds : List D) (vs : List V), RepL K mg H ds vs → RepL K mg H' ds vs
  | [], _, h => h
  | d :: ds, vs, h => by
    unfold RepL at h ⊢
    obtain ⟨v, r, h1, h2, h3⟩ := h
    exact ⟨v, r, h1, Rep.mono e d v h2, RepL.mono e ds r h3⟩
end
theorem RepE.mono {er : DErr} {cls : Value} {d : Option Addr} (e : Same H H') (h : RepE K mg H er cls d) : RepE K mg H' er cls d := by
  obtain ⟨h1, h2⟩ := h
  refine ⟨h1, h2.imp id fun ⟨dd, v, a1, a2, a3⟩ => ⟨dd, v, a1, e _ _ a2, Rep.mono e _ v a3⟩⟩
theorem Rep.int {i : Int} {v : V} (h : Rep K mg H (.int i) v) : v = .int i := by unfold Rep at h; exact h
theorem Rep.str {i : Str} {v : V} (h : Rep K mg H (.str i) v) : v = .str i := by unfold Rep at h; exact h
theorem Rep.bl {i : Bool} {v : V} (h : Rep K mg H (.bl i) v) : v = .bl i := by unfold Rep at h; exact h
theorem Rep.non {v : V} (h : Rep K mg H .non v) : v = .non := by unfold Rep at h; exact h
theorem Rep.nd {t : Tg} {ds : List D} {v : V} (h : Rep K mg H (.nd t ds) v) : ∃ a vs, v = .ref a ∧ Node K mg H t a vs ∧ RepL K mg H ds vs := by unfold Rep at h; exact h
theorem rep_int {i : Int} : Rep K mg H (.int i) (.int i) := by unfold Rep; rfl
theorem rep_str {i : Str} : Rep K mg H (.str i) (.str i) := by unfold Rep; rfl
theorem rep_bl {i : Bool} : Rep K mg H (.bl i) (.bl i) := by unfold Rep; rfl
theorem rep_non : Rep K mg H .non .non := by unfold Rep; rfl
theorem rep_nd {t : Tg} {ds : List D} {a : Addr} {vs : List V} (h : Node K mg H t a vs) (r : RepL K mg H ds vs) : Rep K mg H (.nd t ds) (.ref a) := by
  unfold Rep
  exact ⟨a, vs, rfl, h, r⟩
theorem repL_nil : RepL K mg H [] [] := by unfold RepL; rfl
theorem repL_cons {d : D} {ds : List D} {v : V} {vs : List V} (h : Rep K mg H d v) (r : RepL K mg H ds vs) : RepL K mg H (d :: ds) (v :: vs) := by
  unfold RepL
  exact ⟨v, vs, rfl, h, r⟩
theorem RepL.nil {vs : List V} (h : RepL K mg H [] vs) : vs = [] := by unfold RepL at h; exact h
theorem RepL.cons {d : D} {ds : List D} {vs : List V} (h : RepL K mg H (d :: ds) vs) : ∃ v r, vs = v :: r ∧ Rep K mg H d v ∧ RepL K mg H ds r := by unfold RepL at h; exact h
theorem RepL.length : ∀ {ds : List D} {vs : List V}, RepL K mg H ds vs → vs.length = ds.length
  | [], _, h => by rw [h.nil]; rfl
  | d :: ds, _, h => by
    obtain ⟨v, r, rfl, _, h3⟩ := h.cons
    simp [RepL.length h3]
theorem RepL.get : ∀ {ds : List D} {vs : List V} {i : Nat} {d : D}, RepL K mg H ds vs → ds[i]? = some d → ∃ v, vs[i]? = some v ∧ Rep K mg H d v
  | [], _, _, _, h, e => by simp at e
  | d :: ds, _, 0, d', h, e => by
    obtain ⟨v, r, rfl, h2, h3⟩ := h.cons
    simp at e; subst e
    exact ⟨v, by simp, h2⟩
  | d :: ds, _, i + 1, d', h, e => by
    obtain ⟨v, r, rfl, h2, h3⟩ := h.cons
    simp at e
    obtain ⟨w, h4, h5⟩ := RepL.get h3 e
    exact ⟨w, by simpa using h4, h5⟩
theorem RepL.getV : ∀ {ds : List D} {vs : List V} {i : Nat} {v : V}, RepL K mg H ds vs → vs[i]? = some v → ∃ d, ds[i]? = some d ∧ Rep K mg H d v
  | [], _, _, _, h, e => by rw [h.nil] at e; simp at e
  | d :: ds, _, 0, d', h, e => by
    obtain ⟨v, r, rfl, h2, h3⟩ := h.cons
    simp at e; subst e
    exact ⟨d, by simp, h2⟩
  | d :: ds, _, i + 1, d', h, e => by
    obtain ⟨v, r, rfl, h2, h3⟩ := h.cons
    simp at e
    obtain ⟨w, h4, h5⟩ := RepL.getV h3 e
    exact ⟨w, by simpa using h4, h5⟩
theorem RepL.append : ∀ {ds es : List D} {vs ws : List V}, RepL K mg H ds vs → RepL K mg H es ws → RepL K mg H (ds ++ es) (vs ++ ws)
  | [], _, _, _, h, k => by rw [h.nil]; exact k
  | d :: ds, _, _, _, h, k => by
    obtain ⟨v, r, rfl, h2, h3⟩ := h.cons
    exact repL_cons h2 (RepL.append h3 k)
theorem RepL.take : ∀ {ds : List D} {vs : List V} (n : Nat), RepL K mg H ds vs → RepL K mg H (ds.take n) (vs.take n)
  | _, _, 0, _ => by simpa using repL_nil
  | [], _, n + 1, h => by rw [h.nil]; simpa using repL_nil
  | d :: ds, _, n + 1, h => by
    obtain ⟨v, r, rfl, h2, h3⟩ := h.cons
    simpa using repL_cons h2 (RepL.take n h3)
theorem RepL.drop : ∀ {ds : List D} {vs : List V} (n : Nat), RepL K mg H ds vs → RepL K mg H (ds.drop n) (vs.drop n)
  | _, _, 0, h => by simpa using h
  | [], _, n + 1, h => by rw [h.nil]; simpa using repL_nil
  | d :: ds, _, n + 1, h => by
    obtain ⟨v, r, rfl, h2, h3⟩ := h.cons
    simpa using RepL.drop n h3
theorem RepL.set : ∀ {ds : List D} {vs : List V} {d : D} {v : V} (n : Nat), RepL K mg H ds vs → Rep K mg H d v → RepL K mg H (ds.set n d) (vs.set n v)
  | [], _, _, _, _, h, _ => by rw [h.nil]; simpa using repL_nil
  | d :: ds, _, _, _, 0, h, k => by
    obtain ⟨v, r, rfl, h2, h3⟩ := h.cons
    simpa using repL_cons k h3
  | d :: ds, _, _, _, n + 1, h, k => by
    obtain ⟨v, r, rfl, h2, h3⟩ := h.cons
    simpa using repL_cons h2 (RepL.set n h3 k)
theorem NodeM.node {t : Tg} {a : Addr} {vs : List V} (h : NodeM mg H t a vs) : Node K mg H t a vs := by
  cases t with
  | tup => exact h.elim
  | lst => exact h
  | scr => exact h.elim
  | dic ks => exact ⟨h.1, .inl h.2⟩
  | ins c fs => exact h
theorem NodeM.some {t : Tg} {a : Addr} {vs : List V} (h : NodeM mg H t a vs) : ∃ o, H a = Option.some o := by
  cases t with
  | tup => exact h.elim
  | lst => exact ⟨_, h⟩
  | scr => exact h.elim
  | dic ks => exact ⟨_, h.2⟩
  | ins c fs =>
    obtain ⟨_, _, _, _, h⟩ := h
    exact ⟨_, h⟩
theorem NodeM.keep {t : Tg} {a : Addr} {vs : List V} (h : NodeM mg H t a vs) (e : ∀ o, H a = Option.some o → H' a = Option.some o) : NodeM mg H' t a vs := by
  cases t with
  | tup => exact h.elim
  | lst => exact e _ h
  | scr => exact h.elim
  | dic ks => exact ⟨h.1, e _ h.2⟩
  | ins c fs =>
    obtain ⟨h0, C, dx, h1, h⟩ := h
    exact ⟨h0, C, dx, h1, e _ h⟩
end

/-! ### the state -/
/-- a call's ground: the anchor and the heap at its entry, the objects that it may change -/
structure Cfg where
  B0 : Hp
  B : Hp
  A : List Addr
section
variable (K : PySem.W.Frag) (mg : Str → Option Value)
def RSlot (C : Cfg) (H0 H : Hp) : Option S → Option (Option V) → Prop
  | some (.fz d), v => ∃ w, v = some (some w) ∧ Rep K mg H0 d w
  | some (.xc u e), v => v = some (some (.ref u.a)) ∧ RepE K mg H0 e u.cls u.d
  | some (.ow a l (.nd t ds)), v => v = some (some (.ref a)) ∧ H0 a = none ∧ (l = true → C.B a = none) ∧ (l = false → a ∈ C.A) ∧ ∃ vs, NodeM mg H t a vs ∧ RepL K mg H0 ds vs
  | some (.ow _ _ _), _ => False
  | _, _ => True
structure I (C : Cfg) (H0 H : Hp) (σ : L2.St) (st : LS) : Prop where
  same : Same H0 H
  up : Same C.B0 H0
  keep : ∀ b o, C.B b = some o → b ∉ C.A → H b = some o
  low : ∀ b o, C.B b = some o → C.B0 b = none → H0 b = none
  aa : ∀ a ∈ C.A, ∃ o, H a = some o
  len : st.length = σ.length
  slots : ∀ i : Nat, RSlot K mg C H0 H st[i]? σ[i]?
  dist : ∀ (i j : Nat) a l t ds l' t' ds', st[i]? = some (S.ow a l (.nd t ds)) → st[j]? = some (S.ow a l' (.nd t' ds')) → i = j
/-- a result: a value, or a new object of one's own -/
def RepR (C : Cfg) (H0 H : Hp) (st : LS) : S → V → Prop
  | .fz d, v => Rep K mg H0 d v
  | .ow a l (.nd t ds), v => v = .ref a ∧ l = true ∧ H0 a = none ∧ C.B a = none ∧ (∀ (i : Nat) l' t' ds', st[i]? ≠ some (S.ow a l' (.nd t' ds'))) ∧ ∃ vs, NodeM mg H t a vs ∧ RepL K mg H0 ds vs
  | _, _ => False
def LkX (C : Cfg) (H0 : Hp) (σ : L2.St) (W : WX) (Ex : DX) : Prop :=
  ∀ e st' H0' H' cls d, Ex e st' → I K mg C H0' H' σ st' → Same H0 H0' → RepE K mg H0' e cls d → W cls d σ H'
structure LkS (C : Cfg) (H0 : Hp) (W : WX) (de : DEnds) (Dn : Ends) : Prop where
  nx : ∀ st' σ' H0' H', de.nx st' → I K mg C H0' H' σ' st' → Same H0 H0' → Dn.nx σ' H'
  bk : ∀ st' σ' H0' H', de.bk st' → I K mg C H0' H' σ' st' → Same H0 H0' → Dn.bk σ' H'
  ct : ∀ st' σ' H0' H', de.ct st' → I K mg C H0' H' σ' st' → Same H0 H0' → Dn.ct σ' H'
  rt : ∀ r st' v σ' H0' H', de.rt r st' → I K mg C H0' H' σ' st' → Same H0 H0' → RepR K mg C H0' H' st' r v → Dn.rt v H'
  ex : ∀ e st' σ' H0' H' cls d, de.ex e st' → I K mg C H0' H' σ' st' → Same H0 H0' → RepE K mg H0' e cls d → W cls d σ' H'
end

/-! ### judgements -/
structure PED (X : Cx) (W : WX) (e : Expr) (g : DE) : Prop where
  ex : ∃ t, PE X e t ∧ ∀ (C : Cfg) (H0 H : Hp) (σ : L2.St) (st : LS) (Ex : DX) (Q : D → LS → Prop) (Qv : VK), I X.K X.mg C H0 H σ st → LkX X.K X.mg C H0 σ W Ex →
    (∀ d st' v H0' H', Q d st' → I X.K X.mg C H0' H' σ st' → Same H0 H0' → Rep X.K X.mg H0' d v → Qv v H') → g Ex st Q → t σ H Qv
structure POD (X : Cx) (W : WX) (e : Expr) (g : DO) : Prop where
  ex : ∃ t, PE X e t ∧ ∀ (C : Cfg) (H0 H : Hp) (σ : L2.St) (st : LS) (Ex : DX) (Q : S → LS → Prop) (Qv : VK), I X.K X.mg C H0 H σ st → LkX X.K X.mg C H0 σ W Ex →
    (∀ r st' v H0' H', Q r st' → I X.K X.mg C H0' H' σ st' → Same H0 H0' → RepR X.K X.mg C H0' H' st' r v → Qv v H') → g Ex st Q → t σ H Qv
structure PTD (X : Cx) (W : WX) (e : Expr) (g : DT) : Prop where
  ex : ∃ t, PT X e t ∧ ∀ (C : Cfg) (H0 H : Hp) (σ : L2.St) (st : LS) (Ex : DX) (Q : Bool → LS → Prop) (Qv : Bool → Hp → Prop), I X.K X.mg C H0 H σ st → LkX X.K X.mg C H0 σ W Ex →
    (∀ d st' H0' H', Q d st' → I X.K X.mg C H0' H' σ st' → Same H0 H0' → Qv d H') → g Ex st Q → t σ H Qv
structure PAD (X : Cx) (W : WX) (es : List Expr) (g : DA) : Prop where
  ex : ∃ t, PA X es t ∧ ∀ (C : Cfg) (H0 H : Hp) (σ : L2.St) (st : LS) (Ex : DX) (Q : List D → LS → Prop) (Qv : List V → Hp → Prop), I X.K X.mg C H0 H σ st → LkX X.K X.mg C H0 σ W Ex →
    (∀ ds st' vs H0' H', Q ds st' → I X.K X.mg C H0' H' σ st' → Same H0 H0' → RepL X.K X.mg H0' ds vs → ds.length = es.length → Qv vs H') → g Ex st Q → t σ H Qv
structure PSD (X : Cx) (W : WX) (s : Stmt) (g : DS) : Prop where
  ex : ∃ t, PS X s t ∧ ∀ (C : Cfg) (H0 H : Hp) (σ : L2.St) (st : LS) (de : DEnds) (Dn : Ends), I X.K X.mg C H0 H σ st → LkS X.K X.mg C H0 W de Dn → g de st → t Dn σ H
structure PSsD (X : Cx) (W : WX) (s : List Stmt) (g : DS) : Prop where
  ex : ∃ t, PSs X s t ∧ ∀ (C : Cfg) (H0 H : Hp) (σ : L2.St) (st : LS) (de : DEnds) (Dn : Ends), I X.K X.mg C H0 H σ st → LkS X.K X.mg C H0 W de Dn → g de st → t Dn σ H

section
variable {K : PySem.W.Frag} {mg : Str → Option Value} {C : Cfg} {H0 H H0' H' : Hp} {σ : L2.St} {st : LS}
theorem LkX.up {W : WX} {Ex : DX} (h : LkX K mg C H0 σ W Ex) (e : Same H0 H0') : LkX K mg C H0' σ W Ex :=
  fun er st' H1 H2 cls d a b c r => h er st' H1 H2 cls d a b (e.trans c) r
theorem LkS.up {W : WX} {de : DEnds} {Dn : Ends} (h : LkS K mg C H0 W de Dn) (e : Same H0 H0') : LkS K mg C H0' W de Dn :=
  ⟨fun a b c d x y z => h.nx a b c d x y (e.trans z), fun a b c d x y z => h.bk a b c d x y (e.trans z), fun a b c d x y z => h.ct a b c d x y (e.trans z),
   fun a b c d f g x y z => h.rt a b c d f g x y (e.trans z), fun a b c d f g k x y z => h.ex a b c d f g k x y (e.trans z)⟩
theorem LkS.xp {W : WX} {de : DEnds} {Dn : Ends} (h : LkS K mg C H0 W de Dn) (σ : L2.St) : LkX K mg C H0 σ W de.ex :=
  fun er st' H1 H2 cls d a b c r => h.ex er st' σ H1 H2 cls d a b c r
theorem I.fz (i : I K mg C H0 H σ st) {k : Nat} {d : D} (e : st[k]? = some (.fz d)) : ∃ v, σ[k]? = some (some v) ∧ Rep K mg H0 d v := by
  have h := i.slots k
  rw [e] at h
  exact h
theorem I.ow (i : I K mg C H0 H σ st) {k : Nat} {a : Addr} {l : Bool} {t : Tg} {ds : List D} (e : st[k]? = some (.ow a l (.nd t ds))) :
    σ[k]? = some (some (.ref a)) ∧ H0 a = none ∧ (l = true → C.B a = none) ∧ (l = false → a ∈ C.A) ∧ ∃ vs, NodeM mg H t a vs ∧ RepL K mg H0 ds vs := by
  have h := i.slots k
  rw [e] at h
  exact h
theorem I.owd (i : I K mg C H0 H σ st) {k : Nat} {a : Addr} {l : Bool} {d : D} (e : st[k]? = some (.ow a l d)) : ∃ t ds, d = .nd t ds := by
  have h := i.slots k
  rw [e] at h
  cases d with
  | nd t ds => exact ⟨t, ds, rfl⟩
  | _ => exact False.elim h
theorem RSlot.move {s : Option S} {v : Option (Option V)} (h : RSlot K mg C H0 H s v) (e0 : Same H0 H0')
    (f : ∀ a l t ds, s = some (.ow a l (.nd t ds)) → H0' a = none ∧ ∀ o, H a = some o → H' a = some o) : RSlot K mg C H0' H' s v := by
  cases s with
  | none => trivial
  | some s =>
    cases s with
    | un => trivial
    | xc u e => exact ⟨h.1, RepE.mono e0 h.2⟩
    | fz d =>
      obtain ⟨w, h1, h2⟩ := h
      exact ⟨w, h1, Rep.mono e0 d w h2⟩
    | ow a l d0 =>
      cases d0 with
      | nd t ds =>
        obtain ⟨h1, h2, h3, h4, vs, h5, h6⟩ := h
        obtain ⟨f1, f2⟩ := f a l t ds rfl
        exact ⟨h1, f1, h3, h4, vs, h5.keep f2, RepL.mono e0 ds vs h6⟩
      | _ => first | trivial | exact h.elim | exact False.elim h
/-- new objects on both heaps -/
theorem I.grow (i : I K mg C H0 H σ st) (e0 : Same H0 H0') (e : Same H H') (s : Same H0' H') (nw : ∀ b o, H b = some o → H0 b = none → H0' b = none) : I K mg C H0' H' σ st where
  same := s
  up := i.up.trans e0
  keep := fun b o h n => e _ _ (i.keep b o h n)
  low := fun b o h n => by
    by_cases hb : b ∈ C.A
    · obtain ⟨o', q⟩ := i.aa b hb
      exact nw b o' q (i.low b o h n)
    · exact nw b o (i.keep b o h hb) (i.low b o h n)
  aa := fun a h => let ⟨o, q⟩ := i.aa a h; ⟨o, e _ _ q⟩
  len := i.len
  slots := fun k => (i.slots k).move e0 fun a l t ds q => by
    obtain ⟨_, h2, _, _, vs, h5, _⟩ := i.ow q
    obtain ⟨o, h6⟩ := h5.some
    exact ⟨nw a o h6 h2, fun o' q' => e _ _ q'⟩
  dist := i.dist
theorem same_upd {p : Addr} {o : HO} (n : H p = none) : Same H (upd H p o) := fun b u e => by
  rw [upd_ne (ne_of_none e n)]; exact e
theorem same_upd2 {p : Addr} {o : HO} (s : Same H0 H) : Same (upd H0 p o) (upd H p o) := fun b u e => by
  by_cases h : b = p
  · subst h; rw [upd_same] at e ⊢; exact e
  · rw [upd_ne h] at e ⊢; exact s _ _ e
/-- a new object that never changes -/
theorem I.new (i : I K mg C H0 H σ st) {p : Addr} {o : HO} (n : H p = none) : I K mg C (upd H0 p o) (upd H p o) σ st :=
  i.grow (same_upd (i.same.free n)) (same_upd n) (same_upd2 i.same) fun b u e z => by rw [upd_ne (ne_of_none e n)]; exact z
/-- a new object that stays one's own -/
theorem I.own (i : I K mg C H0 H σ st) {p : Addr} {o : HO} (n : H p = none) : I K mg C H0 (upd H p o) σ st :=
  i.grow (Same.refl _) (same_upd n) (i.same.trans (same_upd n)) fun b u _ z => z
/-- an own new object becomes a value -/
theorem I.freeze (i : I K mg C H0 H σ st) {a : Addr} {t : Tg} {ds : List D} {v : V} (r : RepR K mg C H0 H st (.ow a true (.nd t ds)) v) :
    ∃ H0', I K mg C H0' H σ st ∧ Same H0 H0' ∧ Rep K mg H0' (.nd t ds) v := by
  obtain ⟨rfl, _, h0, hB, hs, vs, hn, hr⟩ := r
  obtain ⟨o, ho⟩ := hn.some
  have s1 : Same H0 (upd H0 a o) := same_upd h0
  have s2 : Same (upd H0 a o) H := fun b u e => by
    by_cases q : b = a
    · subst q; rw [upd_same] at e; rw [ho, e]
    · rw [upd_ne q] at e; exact i.same _ _ e
  refine ⟨upd H0 a o, ⟨s2, i.up.trans s1, i.keep, fun b u h n => ?_, i.aa, i.len, fun k => (i.slots k).move s1 fun a' l t' ds' q => ⟨?_, fun _ z => z⟩, i.dist⟩, s1, ?_⟩
  · rw [upd_ne (ne_of_none h hB)]; exact i.low b u h n
  · have q' := i.ow q
    have : a' ≠ a := fun z => by subst z; exact hs k l t' ds' q
    rw [upd_ne this]; exact q'.2.1
  · refine rep_nd (vs := vs) ?_ (RepL.mono s1 ds vs hr)
    refine NodeM.node (hn.keep fun o' q => ?_)
    rw [ho] at q; cases q; exact upd_same
theorem RepR.d (i : I K mg C H0 H σ st) {r : S} {v : V} (h : RepR K mg C H0 H st r v) : ∃ H0' d, (r = .fz d ∨ ∃ a t ds, r = .ow a true (.nd t ds) ∧ d = .nd t ds) ∧ I K mg C H0' H σ st ∧ Same H0 H0' ∧ Rep K mg H0' d v := by
  cases r with
  | un => exact h.elim
  | xc _ _ => exact h.elim
  | fz d => exact ⟨H0, d, .inl rfl, i, Same.refl _, h⟩
  | ow a l d0 =>
    cases d0 with
    | nd t ds =>
      obtain ⟨h1, h2, h3⟩ := h
      subst h2
      obtain ⟨H0', a1, a2, a3⟩ := i.freeze (a := a) (t := t) (ds := ds) (v := v) ⟨h1, rfl, h3⟩
      exact ⟨H0', .nd t ds, .inr ⟨a, t, ds, rfl, rfl⟩, a1, a2, a3⟩
    | _ => first | trivial | exact h.elim | exact False.elim h
theorem getElem?_set_st {α : Type} {l : List α} {i j : Nat} {x : α} (h : i < l.length) : (l.set i x)[j]? = if j = i then some x else l[j]? := by
  by_cases e : j = i
  · subst e; rw [if_pos rfl]; simp [h]
  · rw [if_neg e, List.getElem?_set_ne (fun z => e z.symm)]
/-- a slot takes a result -/
theorem I.set (i : I K mg C H0 H σ st) {k : Nat} {r : S} {v : V} (h : RepR K mg C H0 H st r v) : I K mg C H0 H (σ.set k (some v)) (st.set k r) where
  same := i.same
  up := i.up
  keep := i.keep
  low := i.low
  aa := i.aa
  len := by rw [List.length_set, List.length_set]; exact i.len
  slots := fun j => by
    by_cases hk : k < st.length
    · have hk' : k < σ.length := by rw [← i.len]; exact hk
      rw [getElem?_set_st hk, getElem?_set_st hk']
      by_cases e : j = k
      · rw [if_pos e, if_pos e]
        cases r with
        | un => trivial
        | xc _ _ => exact h.elim
        | fz d => exact ⟨v, rfl, h⟩
        | ow a l d0 =>
          cases d0 with
          | nd t ds =>
            obtain ⟨rfl, h2, h3, h4, h5, h6⟩ := h
            subst h2
            exact ⟨rfl, h3, fun _ => h4, fun z => Bool.noConfusion z, h6⟩
          | _ => first | trivial | exact h.elim | exact False.elim h
      · rw [if_neg e, if_neg e]; exact i.slots j
    · rw [List.set_eq_of_length_le (Nat.le_of_not_lt hk), List.set_eq_of_length_le (by rw [← i.len]; exact Nat.le_of_not_lt hk)]
      exact i.slots j
  dist := fun x y a l t ds l' t' ds' e1 e2 => by
    by_cases hk : k < st.length
    · rw [getElem?_set_st hk] at e1 e2
      by_cases hx : x = k <;> by_cases hy : y = k
      · rw [hx, hy]
      · rw [if_pos hx] at e1
        rw [if_neg hy] at e2
        cases r with
        | un => cases e1
        | xc _ _ => exact h.elim
        | fz d => cases e1
        | ow a' l0 d0 =>
          cases d0 with
          | nd t0 ds0 =>
            cases e1
            exact absurd e2 (h.2.2.2.2.1 y l' t' ds')
          | _ => first | trivial | exact h.elim | exact False.elim h
      · rw [if_neg hx] at e1
        rw [if_pos hy] at e2
        cases r with
        | un => cases e2
        | xc _ _ => exact h.elim
        | fz d => cases e2
        | ow a' l0 d0 =>
          cases d0 with
          | nd t0 ds0 =>
            cases e2
            exact absurd e1 (h.2.2.2.2.1 x l t ds)
          | _ => first | trivial | exact h.elim | exact False.elim h
      · rw [if_neg hx] at e1
        rw [if_neg hy] at e2
        exact i.dist x y a l t ds l' t' ds' e1 e2
    · rw [List.set_eq_of_length_le (Nat.le_of_not_lt hk)] at e1 e2
      exact i.dist x y a l t ds l' t' ds' e1 e2
end
end PD

namespace PD
open PySem PySem.Spec PyProof.Rows L2
/-! ### readings over data -/
def wpO {α : Type} (o : Option α) (Q : α → Prop) : Prop := match o with
  | some d => Q d
  | none => False
theorem wpO_of {α : Type} {o : Option α} {Q : α → Prop} (h : wpO o Q) : ∃ x, o = some x ∧ Q x := by
  unfold wpO at h
  split at h
  · exact ⟨_, rfl, h⟩
  · exact h.elim
/-- a slot read as a value -/
def rdS (i : Nat) (st : LS) : Option (D × LS) := match st[i]? with
  | some (.fz d) => some (d, st)
  | some (.ow _ true d) => some (d, st.set i (.fz d))
  | _ => none
def sD (r : S) : Option D := match r with
  | .fz d => some d
  | .ow _ _ d => some d
  | _ => none
def dVar (i : Nat) (_u0 : DX) (st : LS) (Q : D → LS → Prop) : Prop := wpO (rdS i st) fun p => Q p.1 p.2
def dC (d : D) (_u0 : DX) (st : LS) (Q : D → LS → Prop) : Prop := Q d st
/-- a value's reading from a result's -/
def dFz (g : DO) (Ex : DX) (st : LS) (Q : D → LS → Prop) : Prop := g Ex st fun r st' => wpO (sD r) fun d => Q d st'
def dRes (g : DE) (Ex : DX) (st : LS) (Q : S → LS → Prop) : Prop := g Ex st fun d st' => Q (.fz d) st'
def qBl : D → Option Bool
  | .bl b => some b
  | _ => none
def dTst (g : DE) (Ex : DX) (st : LS) (Q : Bool → LS → Prop) : Prop := g Ex st fun d st' => wpO (qBl d) fun b => Q b st'
abbrev F1 := D → (D → Prop) → Prop
abbrev F2 := D → D → (D → Prop) → Prop
abbrev FL := List D → (D → Prop) → Prop
def dOp (f : F2) (ga gb : DE) (Ex : DX) (st : LS) (Q : D → LS → Prop) : Prop := ga Ex st fun x st1 => gb Ex st1 fun y st2 => f x y fun d => Q d st2
def dUn (f : F1) (ga : DE) (Ex : DX) (st : LS) (Q : D → LS → Prop) : Prop := ga Ex st fun x st1 => f x fun d => Q d st1
def dAnd (ga gb : DE) (Ex : DX) (st : LS) (Q : D → LS → Prop) : Prop := ga Ex st fun x st1 => wpO (qBl x) fun b => cond b (gb Ex st1 Q) (Q (.bl false) st1)
def dOr (ga gb : DE) (Ex : DX) (st : LS) (Q : D → LS → Prop) : Prop := ga Ex st fun x st1 => wpO (qBl x) fun b => cond b (Q (.bl true) st1) (gb Ex st1 Q)
def dNot (ga : DE) (Ex : DX) (st : LS) (Q : D → LS → Prop) : Prop := ga Ex st fun x st1 => wpO (qBl x) fun b => Q (.bl (!b)) st1
def dIf (gc : DT) (ga gb : DE) (Ex : DX) (st : LS) (Q : D → LS → Prop) : Prop := gc Ex st fun c st1 => cond c (ga Ex st1 Q) (gb Ex st1 Q)
def dAndT (ga gb : DT) (Ex : DX) (st : LS) (Q : Bool → LS → Prop) : Prop := ga Ex st fun c st1 => cond c (gb Ex st1 Q) (Q false st1)
def dOrT (ga gb : DT) (Ex : DX) (st : LS) (Q : Bool → LS → Prop) : Prop := ga Ex st fun c st1 => cond c (Q true st1) (gb Ex st1 Q)
def dNotT (ga : DT) (Ex : DX) (st : LS) (Q : Bool → LS → Prop) : Prop := ga Ex st fun c st1 => Q (!c) st1
def dANil (_u0 : DX) (st : LS) (Q : List D → LS → Prop) : Prop := Q [] st
def dACons (g : DE) (h : DA) (Ex : DX) (st : LS) (Q : List D → LS → Prop) : Prop := g Ex st fun d st1 => h Ex st1 fun ds st2 => Q (d :: ds) st2
def dTup (g : DA) (Ex : DX) (st : LS) (Q : D → LS → Prop) : Prop := g Ex st fun ds st1 => Q (.nd .tup ds) st1
def dLst (g : DA) (Ex : DX) (st : LS) (Q : S → LS → Prop) : Prop := g Ex st fun ds st1 => ∀ a, Q (.ow a true (.nd .lst ds)) st1
def dCB (f : FL) (g : DA) (Ex : DX) (st : LS) (Q : D → LS → Prop) : Prop := g Ex st fun ds st1 => f ds fun d => Q d st1

section
variable {X : Cx} {W : WX} {e a b c : Expr} {es : List Expr} {g ga gb : DE} {pos : Pos}

theorem ped_var {i : Nat} (h : PE X e (tVar i)) : PED X W e (dVar i) := by
  refine ⟨_, h, fun C H0 H σ st Ex Q Qv hI hX hQ hg => ?_⟩
  obtain ⟨p, hp, hg⟩ := wpO_of hg
  unfold rdS at hp
  split at hp
  · rename_i d ed
    cases hp
    obtain ⟨v, h1, h2⟩ := hI.fz ed
    exact ⟨v, h1, hQ d st v H0 H hg hI (Same.refl _) h2⟩
  · rename_i a d ed
    cases hp
    obtain ⟨t, ds, rfl⟩ := hI.owd ed
    obtain ⟨h1, h2, h3, h4, vs, h5, h6⟩ := hI.ow ed
    refine ⟨.ref a, h1, ?_⟩
    obtain ⟨o, ho⟩ := h5.some
    have s1 : Same H0 (upd H0 a o) := same_upd h2
    have s2 : Same (upd H0 a o) H := fun b u e => by
      by_cases q : b = a
      · subst q; rw [upd_same] at e; rw [ho, e]
      · rw [upd_ne q] at e; exact hI.same _ _ e
    have hr : Rep X.K X.mg (upd H0 a o) (.nd t ds) (.ref a) := by
      refine rep_nd (vs := vs) ?_ (RepL.mono s1 ds vs h6)
      refine NodeM.node (h5.keep fun o' q => ?_)
      rw [ho] at q; cases q; exact upd_same
    have hk : i < st.length := (List.getElem?_eq_some_iff.mp ed).1
    refine hQ _ _ _ (upd H0 a o) H hg ⟨s2, hI.up.trans s1, hI.keep, fun b u h n => ?_, hI.aa, by rw [List.length_set]; exact hI.len, fun k => ?_, fun x y a' l t ds l' t' ds' e1 e2 => ?_⟩ s1 hr
    · rw [upd_ne (ne_of_none h (h3 rfl))]; exact hI.low b u h n
    · rw [getElem?_set_st hk]
      by_cases q : k = i
      · rw [if_pos q]; subst q
        exact ⟨_, h1, hr⟩
      · rw [if_neg q]
        refine (hI.slots k).move s1 fun a' l' t' ds' q' => ⟨?_, fun _ z => z⟩
        have : a' ≠ a := fun z => by subst z; exact q (hI.dist _ _ _ _ _ _ _ _ _ q' ed)
        rw [upd_ne this]; exact (hI.ow q').2.1
    · rw [getElem?_set_st hk] at e1 e2
      by_cases q1 : x = i
      · rw [if_pos q1] at e1; cases e1
      · by_cases q2 : y = i
        · rw [if_pos q2] at e2; cases e2
        · rw [if_neg q1] at e1; rw [if_neg q2] at e2
          exact hI.dist _ _ _ _ _ _ _ _ _ e1 e2
  · cases hp
theorem ped_c {d : D} {v : V} (h : PE X e (tC v)) (r : ∀ H, Rep X.K X.mg H d v) : PED X W e (dC d) :=
  ⟨_, h, fun C H0 H σ st Ex Q Qv hI hX hQ hg => hQ d st v H0 H hg hI (Same.refl _) (r _)⟩
theorem ped_int {i : Int} {j pos} : PED X W (.Constant (.int i) j pos) (dC (.int i)) := ped_c pe_int fun _ => rep_int
theorem ped_bl {i : Bool} {j pos} : PED X W (.Constant (.bool i) j pos) (dC (.bl i)) := ped_c pe_bl fun _ => rep_bl
theorem ped_str {i : Str} {j pos} : PED X W (.Constant (.str i) j pos) (dC (.str i)) := ped_c pe_str fun _ => rep_str
theorem ped_non {j pos} : PED X W (.Constant .none j pos) (dC .non) := ped_c pe_non fun _ => rep_non
theorem ped_fz {g : DO} (h : POD X W e g) : PED X W e (dFz g) := by
  obtain ⟨t, ht, hr⟩ := h.ex
  refine ⟨t, ht, fun C H0 H σ st Ex Q Qv hI hX hQ hg => hr C H0 H σ st Ex _ Qv hI hX ?_ hg⟩
  intro r st' v H0' H' q i' s' rr
  obtain ⟨H2, d, hd, i2, s2, r2⟩ := RepR.d i' rr
  rcases hd with rfl | ⟨a, t, ds, rfl, rfl⟩
  · exact hQ d st' v H2 H' q i2 (s'.trans s2) r2
  · exact hQ _ st' v H2 H' q i2 (s'.trans s2) r2
theorem pod_d (h : PED X W e g) : POD X W e (dRes g) := by
  obtain ⟨t, ht, hr⟩ := h.ex
  exact ⟨t, ht, fun C H0 H σ st Ex Q Qv hI hX hQ hg => hr C H0 H σ st Ex _ Qv hI hX (fun d st' v H0' H' q i' s' rr => hQ (.fz d) st' v H0' H' q i' s' rr) hg⟩
theorem ptd_val (h : PED X W e g) (he : ∀ whole, isTrue e X.env whole = (do let v ← whole; standAt e.pos; holding [v] (truthy v)) := by intro _; rfl) : PTD X W e (dTst g) := by
  obtain ⟨t, ht, hr⟩ := h.ex
  refine ⟨_, pt_val ht he, fun C H0 H σ st Ex Q Qv hI hX hQ hg => hr C H0 H σ st Ex _ _ hI hX (fun d st' v H0' H' q i' s' rr => ?_) hg⟩
  cases d with
  | bl b => exact ⟨b, rr.bl, hQ b st' H0' H' q i' s'⟩
  | _ => exact q.elim

/-! operators on values -/
def OpD (X : Cx) (F : Value → Value → Sem Value) (f : F2) : Prop := ∃ r, OpR X F r ∧ ∀ (H0 H : Hp) (x y : D) (v u : V) (Q : D → Prop) (Qv : VK), Same H0 H → Rep X.K X.mg H0 x v → Rep X.K X.mg H0 y u → f x y Q →
  (∀ d w, Q d → Rep X.K X.mg H0 d w → Qv w H) → r v u H Qv
def UnD (X : Cx) (F : Value → Sem Value) (f : F1) : Prop := ∃ r, UnR X F r ∧ ∀ (H0 H : Hp) (x : D) (v : V) (Q : D → Prop) (Qv : VK), Same H0 H → Rep X.K X.mg H0 x v → f x Q →
  (∀ d w, Q d → Rep X.K X.mg H0 d w → Qv w H) → r v H Qv
def IxD (X : Cx) (f : F2) : Prop := ∃ r, IxR X r ∧ ∀ (H0 H : Hp) (x y : D) (v u : V) (Q : D → Prop) (Qv : VK), Same H0 H → Rep X.K X.mg H0 x v → Rep X.K X.mg H0 y u → f x y Q →
  (∀ d w, Q d → Rep X.K X.mg H0 d w → Qv w H) → r v u H Qv
def CallD (X : Cx) (F : Value) (f : FL) : Prop := ∃ r, CallR X F r ∧ ∀ (H0 H : Hp) (xs : List D) (vs : List V) (Q : D → Prop) (Qv : VK), Same H0 H → RepL X.K X.mg H0 xs vs → f xs Q →
  (∀ d w, Q d → Rep X.K X.mg H0 d w → Qv w H) → r vs H Qv
theorem bin_run {f : F2} {ta tb : TE} {r : R2} (hr : ∀ (H0 H : Hp) (x y : D) (v u : V) (Q : D → Prop) (Qv : VK), Same H0 H → Rep X.K X.mg H0 x v → Rep X.K X.mg H0 y u → f x y Q → (∀ d w, Q d → Rep X.K X.mg H0 d w → Qv w H) → r v u H Qv)
    (ha : ∀ (C : Cfg) (H0 H : Hp) (σ : L2.St) (st : LS) (Ex : DX) (Q : D → LS → Prop) (Qv : VK), I X.K X.mg C H0 H σ st → LkX X.K X.mg C H0 σ W Ex → (∀ d st' v H0' H', Q d st' → I X.K X.mg C H0' H' σ st' → Same H0 H0' → Rep X.K X.mg H0' d v → Qv v H') → ga Ex st Q → ta σ H Qv)
    (hb : ∀ (C : Cfg) (H0 H : Hp) (σ : L2.St) (st : LS) (Ex : DX) (Q : D → LS → Prop) (Qv : VK), I X.K X.mg C H0 H σ st → LkX X.K X.mg C H0 σ W Ex → (∀ d st' v H0' H', Q d st' → I X.K X.mg C H0' H' σ st' → Same H0 H0' → Rep X.K X.mg H0' d v → Qv v H') → gb Ex st Q → tb σ H Qv)
    (C : Cfg) (H0 H : Hp) (σ : L2.St) (st : LS) (Ex : DX) (Q : D → LS → Prop) (Qv : VK) (hI : I X.K X.mg C H0 H σ st) (hX : LkX X.K X.mg C H0 σ W Ex)
    (hQ : ∀ d st' v H0' H', Q d st' → I X.K X.mg C H0' H' σ st' → Same H0 H0' → Rep X.K X.mg H0' d v → Qv v H') (hg : dOp f ga gb Ex st Q) : tOp r ta tb σ H Qv := by
  refine ha C H0 H σ st Ex _ _ hI hX (fun x st1 v H1 K1 q1 i1 s1 r1 => ?_) hg
  refine hb C H1 K1 σ st1 Ex _ _ i1 (hX.up s1) (fun y st2 u H2 K2 q2 i2 s2 r2 => ?_) q1
  exact hr H2 K2 x y v u _ _ i2.same (Rep.mono s2 x v r1) r2 q2 fun d w q3 r3 => hQ d st2 w H2 K2 q3 i2 (s1.trans s2) r3
theorem ped_op {op : Operator} {f : F2} (ho : OpD X (binaryOp op) f) (ha : PED X W a ga) (hb : PED X W b gb) : PED X W (.BinOp a op b pos) (dOp f ga gb) := by
  obtain ⟨r, h1, h2⟩ := ho
  obtain ⟨ta, pa, qa⟩ := ha.ex
  obtain ⟨tb, pb, qb⟩ := hb.ex
  exact ⟨_, pe_op h1 pa pb, bin_run h2 qa qb⟩
theorem ped_cmp {op : CmpOp} {f : F2} (ho : OpD X (compareOp op) f) (ha : PED X W a ga) (hb : PED X W b gb) (hm : behindInMarks op b = false := by first | exact nomark _ | with_unfolding_all rfl) : PED X W (.Compare a [op] [b] pos) (dOp f ga gb) := by
  obtain ⟨r, h1, h2⟩ := ho
  obtain ⟨ta, pa, qa⟩ := ha.ex
  obtain ⟨tb, pb, qb⟩ := hb.ex
  exact ⟨_, pe_cmpR h1 pa pb hm, bin_run h2 qa qb⟩
theorem ptd_cmp {op : CmpOp} {f : F2} (ho : OpD X (compareOp op) f) (ha : PED X W a ga) (hb : PED X W b gb) (hm : behindInMarks op b = false := by first | exact nomark _ | with_unfolding_all rfl) : PTD X W (.Compare a [op] [b] pos) (dTst (dOp f ga gb)) := by
  obtain ⟨r, h1, h2⟩ := ho
  obtain ⟨ta, pa, qa⟩ := ha.ex
  obtain ⟨tb, pb, qb⟩ := hb.ex
  refine ⟨_, pt_cmpR h1 pa pb hm, fun C H0 H σ st Ex Q Qv hI hX hQ hg => bin_run h2 qa qb C H0 H σ st Ex _ _ hI hX (fun d st' v H0' H' q i' s' rr => ?_) hg⟩
  cases d with
  | bl b => exact ⟨b, rr.bl, hQ b st' H0' H' q i' s'⟩
  | _ => exact q.elim
theorem ped_ix {f : F2} (ho : IxD X f) (ha : PED X W a ga) (hb : PED X W b gb) (hs : PlainIx b := by intro _ _; rfl) : PED X W (.Subscript a b pos) (dOp f ga gb) := by
  obtain ⟨r, h1, h2⟩ := ho
  obtain ⟨ta, pa, qa⟩ := ha.ex
  obtain ⟨tb, pb, qb⟩ := hb.ex
  exact ⟨_, pe_ix h1 pa pb hs, bin_run h2 qa qb⟩
theorem ped_un {op : UnaryOp} {f : F1} (ho : UnD X (unaryOp op) f) (ha : PED X W a ga) : PED X W (.UnaryOp op a pos) (dUn f ga) := by
  obtain ⟨r, h1, h2⟩ := ho
  obtain ⟨ta, pa, qa⟩ := ha.ex
  refine ⟨_, pe_un h1 pa, fun C H0 H σ st Ex Q Qv hI hX hQ hg => qa C H0 H σ st Ex _ _ hI hX (fun x st1 v H1 K1 q1 i1 s1 r1 => ?_) hg⟩
  exact h2 H1 K1 x v _ _ i1.same r1 q1 fun d w q3 r3 => hQ d st1 w H1 K1 q3 i1 s1 r3
theorem ped_one {op} (h : PED X W a g) : PED X W (.BoolOp op [a] pos) g := by
  obtain ⟨t, p, q⟩ := h.ex
  exact ⟨_, pe_one p, q⟩
theorem ped_and {rest : List Expr} (ha : PED X W a ga) (hb : PED X W (.BoolOp .And (b :: rest) pos) gb) : PED X W (.BoolOp .And (a :: b :: rest) pos) (dAnd ga gb) := by
  obtain ⟨ta, pa, qa⟩ := ha.ex
  obtain ⟨tb, pb, qb⟩ := hb.ex
  refine ⟨_, pe_and pa pb, fun C H0 H σ st Ex Q Qv hI hX hQ hg => qa C H0 H σ st Ex _ _ hI hX (fun x st1 v H1 K1 q1 i1 s1 r1 => ?_) hg⟩
  cases x with
  | bl k =>
    refine ⟨k, r1.bl, ?_⟩
    cases k with
    | true => exact iteT (qb C H1 K1 σ st1 Ex Q Qv i1 (hX.up s1) (fun d st2 w H2 K2 q2 i2 s2 r2 => hQ d st2 w H2 K2 q2 i2 (s1.trans s2) r2) q1)
    | false => exact iteF (hQ _ st1 _ H1 K1 q1 i1 s1 rep_bl)
  | _ => exact q1.elim
theorem ped_or {rest : List Expr} (ha : PED X W a ga) (hb : PED X W (.BoolOp .Or (b :: rest) pos) gb) : PED X W (.BoolOp .Or (a :: b :: rest) pos) (dOr ga gb) := by
  obtain ⟨ta, pa, qa⟩ := ha.ex
  obtain ⟨tb, pb, qb⟩ := hb.ex
  refine ⟨_, pe_or pa pb, fun C H0 H σ st Ex Q Qv hI hX hQ hg => qa C H0 H σ st Ex _ _ hI hX (fun x st1 v H1 K1 q1 i1 s1 r1 => ?_) hg⟩
  cases x with
  | bl k =>
    refine ⟨k, r1.bl, ?_⟩
    cases k with
    | false => exact iteF (qb C H1 K1 σ st1 Ex Q Qv i1 (hX.up s1) (fun d st2 w H2 K2 q2 i2 s2 r2 => hQ d st2 w H2 K2 q2 i2 (s1.trans s2) r2) q1)
    | true => exact iteT (hQ _ st1 _ H1 K1 q1 i1 s1 rep_bl)
  | _ => exact q1.elim
theorem ped_not (ha : PED X W a ga) : PED X W (.UnaryOp .Not a pos) (dNot ga) := by
  obtain ⟨ta, pa, qa⟩ := ha.ex
  refine ⟨_, pe_not pa, fun C H0 H σ st Ex Q Qv hI hX hQ hg => qa C H0 H σ st Ex _ _ hI hX (fun x st1 v H1 K1 q1 i1 s1 r1 => ?_) hg⟩
  cases x with
  | bl k => exact ⟨k, r1.bl, hQ _ st1 _ H1 K1 q1 i1 s1 rep_bl⟩
  | _ => exact q1.elim
theorem ped_ifx {gc : DT} (hc : PTD X W c gc) (ha : PED X W a ga) (hb : PED X W b gb) : PED X W (.IfExp c a b pos) (dIf gc ga gb) := by
  obtain ⟨tc, pc, qc⟩ := hc.ex
  obtain ⟨ta, pa, qa⟩ := ha.ex
  obtain ⟨tb, pb, qb⟩ := hb.ex
  refine ⟨_, pe_ifExp pc pa pb, fun C H0 H σ st Ex Q Qv hI hX hQ hg => qc C H0 H σ st Ex _ _ hI hX (fun k st1 H1 K1 q1 i1 s1 => ?_) hg⟩
  cases k with
  | true => exact iteT (qa C H1 K1 σ st1 Ex Q Qv i1 (hX.up s1) (fun d st2 w H2 K2 q2 i2 s2 r2 => hQ d st2 w H2 K2 q2 i2 (s1.trans s2) r2) q1)
  | false => exact iteF (qb C H1 K1 σ st1 Ex Q Qv i1 (hX.up s1) (fun d st2 w H2 K2 q2 i2 s2 r2 => hQ d st2 w H2 K2 q2 i2 (s1.trans s2) r2) q1)
/-! tests -/
structure PWD (X : Cx) (W : WX) (e : Expr) (g : DT) : Prop where
  ex : ∃ t, PW X e t ∧ ∀ (C : Cfg) (H0 H : Hp) (σ : L2.St) (st : LS) (Ex : DX) (Q : Bool → LS → Prop) (Qv : Bool → Hp → Prop), I X.K X.mg C H0 H σ st → LkX X.K X.mg C H0 σ W Ex →
    (∀ d st' H0' H', Q d st' → I X.K X.mg C H0' H' σ st' → Same H0 H0' → Qv d H') → g Ex st Q → t σ H Qv
theorem PWD.pt {g : DT} (h : PWD X W e g) : PTD X W e g := by
  obtain ⟨t, p, q⟩ := h.ex
  exact ⟨_, p.pt, q⟩
theorem pwd_and1 {g : DT} (h : PTD X W a g) : PWD X W (.BoolOp .And [a] pos) g := by
  obtain ⟨t, p, q⟩ := h.ex
  exact ⟨_, pw_and1 p, q⟩
theorem pwd_or1 {g : DT} (h : PTD X W a g) : PWD X W (.BoolOp .Or [a] pos) g := by
  obtain ⟨t, p, q⟩ := h.ex
  exact ⟨_, pw_or1 p, q⟩
theorem pwd_and {ga gb : DT} {rest : List Expr} (ha : PTD X W a ga) (hb : PWD X W (.BoolOp .And (b :: rest) pos) gb) : PWD X W (.BoolOp .And (a :: b :: rest) pos) (dAndT ga gb) := by
  obtain ⟨ta, pa, qa⟩ := ha.ex
  obtain ⟨tb, pb, qb⟩ := hb.ex
  refine ⟨_, pw_and pa pb, fun C H0 H σ st Ex Q Qv hI hX hQ hg => qa C H0 H σ st Ex _ _ hI hX (fun k st1 H1 K1 q1 i1 s1 => ?_) hg⟩
  cases k with
  | true => exact iteT (qb C H1 K1 σ st1 Ex Q Qv i1 (hX.up s1) (fun d st2 H2 K2 q2 i2 s2 => hQ d st2 H2 K2 q2 i2 (s1.trans s2)) q1)
  | false => exact iteF (hQ false st1 H1 K1 q1 i1 s1)
theorem pwd_or {ga gb : DT} {rest : List Expr} (ha : PTD X W a ga) (hb : PWD X W (.BoolOp .Or (b :: rest) pos) gb) : PWD X W (.BoolOp .Or (a :: b :: rest) pos) (dOrT ga gb) := by
  obtain ⟨ta, pa, qa⟩ := ha.ex
  obtain ⟨tb, pb, qb⟩ := hb.ex
  refine ⟨_, pw_or pa pb, fun C H0 H σ st Ex Q Qv hI hX hQ hg => qa C H0 H σ st Ex _ _ hI hX (fun k st1 H1 K1 q1 i1 s1 => ?_) hg⟩
  cases k with
  | false => exact iteF (qb C H1 K1 σ st1 Ex Q Qv i1 (hX.up s1) (fun d st2 H2 K2 q2 i2 s2 => hQ d st2 H2 K2 q2 i2 (s1.trans s2)) q1)
  | true => exact iteT (hQ true st1 H1 K1 q1 i1 s1)
theorem ptd_not {g : DT} (h : PTD X W a g) : PTD X W (.UnaryOp .Not a pos) (dNotT g) := by
  obtain ⟨t, p, q⟩ := h.ex
  exact ⟨_, pt_not p, fun C H0 H σ st Ex Q Qv hI hX hQ hg => q C H0 H σ st Ex _ _ hI hX (fun k st1 H1 K1 q1 i1 s1 => hQ (!k) st1 H1 K1 q1 i1 s1) hg⟩
/-! displays -/
theorem pad_nil : PAD X W [] dANil := ⟨_, pa_nil, fun C H0 H σ st Ex Q Qv hI hX hQ hg => hQ [] st [] H0 H hg hI (Same.refl _) repL_nil rfl⟩
theorem pad_cons {ha : DA} (h1 : PED X W e g) (h2 : PAD X W es ha) (hs : starEach (e :: es) X.env = (false, eval e X.env) :: starEach es X.env := by rfl) : PAD X W (e :: es) (dACons g ha) := by
  obtain ⟨ta, pa, qa⟩ := h1.ex
  obtain ⟨tb, pb, qb⟩ := h2.ex
  refine ⟨_, pa_cons pa pb hs, fun C H0 H σ st Ex Q Qv hI hX hQ hg => qa C H0 H σ st Ex _ _ hI hX (fun x st1 v H1 K1 q1 i1 s1 r1 => ?_) hg⟩
  refine qb C H1 K1 σ st1 Ex _ _ i1 (hX.up s1) (fun ds st2 vs H2 K2 q2 i2 s2 r2 el => ?_) q1
  exact hQ _ st2 _ H2 K2 q2 i2 (s1.trans s2) (repL_cons (Rep.mono s2 x v r1) r2) (by rw [List.length_cons, List.length_cons, el])
theorem ped_tup {ha : DA} {x1} (h : PAD X W es ha) (hz : es.length ≤ sizeLine := by show _ ≤ 16777216; decide) : PED X W (.Tuple es x1 pos) (dTup ha) := by
  obtain ⟨ta, pa, qa⟩ := h.ex
  refine ⟨_, pe_tup pa, fun C H0 H σ st Ex Q Qv hI hX hQ hg => qa C H0 H σ st Ex _ _ hI hX (fun ds st1 vs H1 K1 q1 i1 s1 r1 el => ?_) hg⟩
  refine ⟨by rw [r1.length, el]; exact hz, fun p hp => ?_⟩
  have hp0 := i1.same.free hp
  exact hQ _ st1 _ (upd H1 p (.tup vs)) _ q1 (i1.new hp) (s1.trans (same_upd hp0)) (rep_nd (SqT.of upd_same) (RepL.mono (same_upd hp0) ds vs r1))
theorem I.fresh {K : PySem.W.Frag} {mg : Str → Option Value} {C : Cfg} {H0 H : Hp} {σ : L2.St} {st : LS} (i : I K mg C H0 H σ st) {p : Addr} (hp : H p = none) :
    C.B p = none ∧ ∀ (k : Nat) l' t' ds', st[k]? ≠ some (S.ow p l' (.nd t' ds')) := by
  refine ⟨?_, fun k l' t' ds' q => ?_⟩
  · cases q : C.B p with
    | none => rfl
    | some o =>
      by_cases ha : p ∈ C.A
      · obtain ⟨o', h⟩ := i.aa p ha
        rw [hp] at h; cases h
      · have h := i.keep p o q ha
        rw [hp] at h; cases h
  · obtain ⟨_, _, _, _, vs, h5, _⟩ := i.ow q
    obtain ⟨o, h⟩ := h5.some
    rw [hp] at h; cases h
/-- a new own object -/
theorem I.made {K : PySem.W.Frag} {mg : Str → Option Value} {C : Cfg} {H0 H : Hp} {σ : L2.St} {st : LS} (i : I K mg C H0 H σ st) {p : Addr} {o : HO} (hp : H p = none) {t : Tg} {ds : List D} {vs : List V}
    (hn : NodeM mg (upd H p o) t p vs) (hr : RepL K mg H0 ds vs) : I K mg C H0 (upd H p o) σ st ∧ RepR K mg C H0 (upd H p o) st (.ow p true (.nd t ds)) (.ref p) :=
  ⟨i.own hp, rfl, rfl, i.same.free hp, (i.fresh hp).1, (i.fresh hp).2, vs, hn, hr⟩
theorem pod_lst {ha : DA} (h : PAD X W es ha) (hz : es.length ≤ sizeLine := by show _ ≤ 16777216; decide) : POD X W (.List es pos) (dLst ha) := by
  obtain ⟨ta, pa, qa⟩ := h.ex
  refine ⟨_, pe_lst pa, fun C H0 H σ st Ex Q Qv hI hX hQ hg => qa C H0 H σ st Ex _ _ hI hX (fun ds st1 vs H1 K1 q1 i1 s1 r1 el => ?_) hg⟩
  refine ⟨by rw [r1.length, el]; exact hz, fun p hp => ?_⟩
  obtain ⟨i2, r2⟩ := i1.made (o := .lst vs) (t := .lst) hp upd_same r1
  exact hQ _ st1 _ H1 _ (q1 p) i2 s1 r2
/-! built-ins by name -/
theorem ped_callB {x : Str} {p : Pos} {id : String} {f : FL} {ha : DA} (hc : CallD X (.builtin id) f) (hg : Gl X x) (hm : X.mg x = none) (hv : bootBuiltins x = some (.builtin id)) (h : PAD X W (e :: es) ha) (hn : x ≠ "__name__" := by decide) (hdb : (x == ("__debug__" : Str)) = false := by decide)
    (he : starEach (e :: es) X.env = (false, eval e X.env) :: starEach es X.env := by rfl) (hpl : (backTo pos (starEach es X.env)).any (·.1) = false := by rfl) : PED X W (.Call (.Name x p) (e :: es) [] pos) (dCB f ha) := by
  obtain ⟨ta, pa, qa⟩ := h.ex
  obtain ⟨r, h1, h2⟩ := hc
  refine ⟨_, pe_callB h1 hg hm hv pa hn hdb he hpl, fun C H0 H σ st Ex Q Qv hI hX hQ hg => qa C H0 H σ st Ex _ _ hI hX (fun ds st1 vs H1 K1 q1 i1 s1 r1 el => ?_) hg⟩
  exact h2 H1 K1 ds vs _ _ i1.same r1 q1 fun d w q3 r3 => hQ d st1 w H1 K1 q3 i1 s1 r3
theorem ped_callTy {x : Str} {p : Pos} {T : String} {f : FL} {ha : DA} (hc : CallD X (.type T) f) (hg : Gl X x) (hm : X.mg x = none) (hv : bootBuiltins x = some (.type T)) (h : PAD X W (e :: es) ha) (hn : x ≠ "__name__" := by decide) (hdb : (x == ("__debug__" : Str)) = false := by decide)
    (he : starEach (e :: es) X.env = (false, eval e X.env) :: starEach es X.env := by rfl) (hpl : (backTo pos (starEach es X.env)).any (·.1) = false := by rfl) : PED X W (.Call (.Name x p) (e :: es) [] pos) (dCB f ha) := by
  obtain ⟨ta, pa, qa⟩ := h.ex
  obtain ⟨r, h1, h2⟩ := hc
  refine ⟨_, pe_callTy h1 hg hm hv pa hn hdb he hpl, fun C H0 H σ st Ex Q Qv hI hX hQ hg => qa C H0 H σ st Ex _ _ hI hX (fun ds st1 vs H1 K1 q1 i1 s1 r1 el => ?_) hg⟩
  exact h2 H1 K1 ds vs _ _ i1.same r1 q1 fun d w q3 r3 => hQ d st1 w H1 K1 q3 i1 s1 r3
end
end PD

namespace PD
open PySem PySem.Spec PyProof.Rows L2
/-! ### statements -/
abbrev DG := D → LS → (LS → Prop) → Prop
abbrev DGs := List D → LS → (LS → Prop) → Prop
abbrev DI := DX → LS → (List D → LS → Prop) → Prop
def dNx (de : DEnds) (st : LS) : Prop := de.nx st
def dSeq (a b : DS) (de : DEnds) (st : LS) : Prop := a { de with nx := fun st1 => b de st1 } st
def dSet (i : Nat) (g : DO) (de : DEnds) (st : LS) : Prop := g de.ex st fun r st1 => de.nx (st1.set i r)
def dPar (i j : Nat) (ga gb : DE) (de : DEnds) (st : LS) : Prop := ga de.ex st fun x st1 => gb de.ex st1 fun y st2 => de.nx ((st2.set i (.fz x)).set j (.fz y))
def dAsg (g : DE) (t : DG) (de : DEnds) (st : LS) : Prop := g de.ex st fun d st1 => t d st1 de.nx
def dRet (g : DO) (de : DEnds) (st : LS) : Prop := g de.ex st de.rt
def dRetN (de : DEnds) (st : LS) : Prop := de.rt (.fz .non) st
def dIfS (c : DT) (a b : DS) (de : DEnds) (st : LS) : Prop := c de.ex st fun k st1 => cond k (a de st1) (b de st1)
def dDrop (g : DO) (de : DEnds) (st : LS) : Prop := g de.ex st fun _ st1 => de.nx st1
def dBk (de : DEnds) (st : LS) : Prop := de.bk st
def dCt (de : DEnds) (st : LS) : Prop := de.ct st
def dNo (_u0 : DEnds) (_u1 : LS) : Prop := False
def qTup (n : Nat) (d : D) : Option (List D) := match d with
  | .nd .tup ds => if ds.length = n then some ds else none
  | _ => none
theorem qTup_of {n : Nat} {d : D} {P : List D → Prop} (h : wpO (qTup n d) P) : ∃ ds, d = .nd .tup ds ∧ ds.length = n ∧ P ds := by
  unfold qTup at h
  split at h
  · split at h
    · exact ⟨_, rfl, by assumption, h⟩
    · exact h.elim
  · exact h.elim
def gdName (i : Nat) (d : D) (st : LS) (Q : LS → Prop) : Prop := Q (st.set i (.fz d))
def gdNil (ds : List D) (st : LS) (Q : LS → Prop) : Prop := match ds with
  | [] => Q st
  | _ => False
def gdCons (g : DG) (h : DGs) (ds : List D) (st : LS) (Q : LS → Prop) : Prop := match ds with
  | d :: r => g d st fun st1 => h r st1 Q
  | _ => False
def gdTup (n : Nat) (h : DGs) (d : D) (st : LS) (Q : LS → Prop) : Prop := wpO (qTup n d) fun ds => h ds st Q
def dForL (t : DG) (b : DS) : List D → DS
  | [], de, st => de.nx st
  | d :: r, de, st => t d st fun st1 => b { de with nx := fun s => dForL t b r de s, ct := fun s => dForL t b r de s, bk := de.nx } st1
def dFor (i : DI) (t : DG) (b : DS) (de : DEnds) (st : LS) : Prop := i de.ex st fun ds st1 => dForL t b ds de st1
def dWhN (c : DT) (b : DS) : Nat → DS
  | 0, _, _ => False
  | n + 1, de, st => c de.ex st fun k st1 => cond k (b { de with nx := fun s => dWhN c b n de s, ct := fun s => dWhN c b n de s, bk := de.nx } st1) (de.nx st1)
def dWh (c : DT) (b : DS) (de : DEnds) (st : LS) : Prop := ∃ n, dWhN c b n de st
def dItems (g : DE) (Ex : DX) (st : LS) (Q : List D → LS → Prop) : Prop := g Ex st fun d st1 => match d with
  | .nd .lst ds => Q ds st1
  | .nd .tup ds => Q ds st1
  | _ => False
def iota (lo : Int) (n : Nat) : List D := (List.range n).map fun (k : Nat) => D.int (lo + ((k : Nat) : Int))
def dRng1 (g : DA) (Ex : DX) (st : LS) (Q : List D → LS → Prop) : Prop := g Ex st fun ds st1 => match ds with
  | [.int j] => -(2 ^ 62) ≤ j ∧ j < 2 ^ 62 ∧ Q (iota 0 j.toNat) st1
  | _ => False
def dRng2 (g : DA) (Ex : DX) (st : LS) (Q : List D → LS → Prop) : Prop := g Ex st fun ds st1 => match ds with
  | [.int i, .int j] => (-(2 ^ 62) ≤ i ∧ i < 2 ^ 62 ∧ -(2 ^ 62) ≤ j ∧ j < 2 ^ 62) ∧ Q (iota i (j - i).toNat) st1
  | _ => False

structure PGD (X : Cx) (e : Expr) (g : DG) : Prop where
  ex : ∃ t, PG X e t ∧ ∀ (C : Cfg) (H0 H : Hp) (σ : L2.St) (st : LS) (d : D) (v : V) (Q : LS → Prop) (Qv : L2.St → Hp → Prop), I X.K X.mg C H0 H σ st → Rep X.K X.mg H0 d v →
    (∀ st' σ' H0' H', Q st' → I X.K X.mg C H0' H' σ' st' → Same H0 H0' → Qv σ' H') → g d st Q → t v σ H Qv
structure PGsD (X : Cx) (es : List Expr) (g : DGs) : Prop where
  ex : ∃ t, PGs X es t ∧ ∀ (C : Cfg) (H0 H : Hp) (σ : L2.St) (st : LS) (ds : List D) (vs : List V) (Q : LS → Prop) (Qv : L2.St → Hp → Prop), I X.K X.mg C H0 H σ st → RepL X.K X.mg H0 ds vs →
    (∀ st' σ' H0' H', Q st' → I X.K X.mg C H0' H' σ' st' → Same H0 H0' → Qv σ' H') → g ds st Q → t vs σ H Qv
/-- J goes over the values ds -/
structure ItOk (K : PySem.W.Frag) (mg : Str → Option Value) (J : It) (H0 : Hp) (ds : List D) : Prop where
  go : ∀ i H, Same H0 H → i < ds.length → J.go i H
  stop : ∀ H, Same H0 H → J.stop ds.length H
  yld : ∀ (C : Cfg) i H1 H x H' σ st, Same H0 H1 → i < ds.length → I K mg C H1 H σ st → J.yld i H x H' → ∃ H2 d, ds[i]? = some d ∧ Same H1 H2 ∧ I K mg C H2 H' σ st ∧ Rep K mg H2 d x
structure PID (X : Cx) (W : WX) (tg e : Expr) (g : DI) : Prop where
  ex : ∃ wi, PI X tg e wi ∧ ∀ (C : Cfg) (H0 H : Hp) (σ : L2.St) (st : LS) (Ex : DX) (Q : List D → LS → Prop) (R : It → Hp → Prop), I X.K X.mg C H0 H σ st → LkX X.K X.mg C H0 σ W Ex →
    (∀ ds st' J H0' H', Q ds st' → I X.K X.mg C H0' H' σ st' → Same H0 H0' → ItOk X.K X.mg J H0' ds → R J H') → g Ex st Q → wi σ H R

section
variable {X : Cx} {W : WX} {e a b c : Expr} {es : List Expr} {s : Stmt} {ss sa sb : List Stmt} {pos : Pos} {g : DE} {o : DO}
theorem PSsD.imp {g g' : DS} (h : PSsD X W ss g) (k : ∀ de st, g' de st → g de st) : PSsD X W ss g' := by
  obtain ⟨t, p, q⟩ := h.ex
  exact ⟨t, p, fun C H0 H σ st de Dn hI hL hg => q C H0 H σ st de Dn hI hL (k de st hg)⟩
theorem pssd_nil : PSsD X W [] dNx := ⟨_, pss_nil, fun C H0 H σ st de Dn hI hL hg => hL.nx st σ H0 H hg hI (Same.refl _)⟩
theorem pssd_cons {ga gb : DS} (h1 : PSD X W s ga) (h2 : PSsD X W ss gb) : PSsD X W (s :: ss) (dSeq ga gb) := by
  obtain ⟨ta, pa, qa⟩ := h1.ex
  obtain ⟨tb, pb, qb⟩ := h2.ex
  refine ⟨_, pss_cons pa pb, fun C H0 H σ st de Dn hI hL hg => qa C H0 H σ st { de with nx := fun st1 => gb de st1 } _ hI ⟨fun st' σ' H1 K1 q i1 s1 => ?_, hL.bk, hL.ct, hL.rt, hL.ex⟩ hg⟩
  exact qb C H1 K1 σ' st' de Dn i1 (hL.up s1) q
theorem pssd_one {ga : DS} (h1 : PSD X W s ga) : PSsD X W [s] ga := by
  obtain ⟨ta, pa, qa⟩ := h1.ex
  exact ⟨_, pss_one pa, qa⟩
theorem psd_set {i : Nat} {x : Str} {pos' : Pos} (hN : X.N.Nodup) (hi : X.N[i]? = some x) (hx : Loc X.env.scope x) (h : POD X W e o) (hs : swapsWith e (some (.Name x pos')) pos.line X.env = pure false := by rfl)
    (hf : X.fn x = true ∨ X.env.scope.names.lookup x = some .local := by first | exact .inl rfl | exact .inr rfl | assumption) : PSD X W (.Assign [.Name x pos'] e pos) (dSet i o) := by
  obtain ⟨t, p, q⟩ := h.ex
  refine ⟨_, ps_set (i := i) hN hi hx p hs hf, fun C H0 H σ st de Dn hI hL hg => ?_⟩
  refine q C H0 H σ st de.ex _ _ hI (hL.xp σ) (fun r st1 v H1 K1 q1 i1 s1 r1 => ?_) hg
  exact hL.nx _ _ H1 K1 q1 (i1.set r1) s1
theorem psd_ret (h : POD X W e o) : PSD X W (.Return (some e) pos) (dRet o) := by
  obtain ⟨t, p, q⟩ := h.ex
  exact ⟨_, ps_ret p, fun C H0 H σ st de Dn hI hL hg => q C H0 H σ st de.ex _ _ hI (hL.xp σ) (fun r st1 v H1 K1 q1 i1 s1 r1 => hL.rt r st1 v σ H1 K1 q1 i1 s1 r1) hg⟩
theorem psd_retN : PSD X W (.Return none pos) dRetN := ⟨_, ps_retN, fun C H0 H σ st de Dn hI hL hg => hL.rt _ st _ σ H0 H hg hI (Same.refl _) (show Rep X.K X.mg H0 .non .non from rep_non)⟩
theorem psd_if {gc : DT} {ga gb : DS} (hc : PTD X W c gc) (ha : PSsD X W sa ga) (hb : PSsD X W sb gb) : PSD X W (.If c sa sb pos) (dIfS gc ga gb) := by
  obtain ⟨tc, pc, qc⟩ := hc.ex
  obtain ⟨ta, pa, qa⟩ := ha.ex
  obtain ⟨tb, pb, qb⟩ := hb.ex
  refine ⟨_, ps_if pc pa pb, fun C H0 H σ st de Dn hI hL hg => qc C H0 H σ st de.ex _ _ hI (hL.xp σ) (fun k st1 H1 K1 q1 i1 s1 => ?_) hg⟩
  cases k with
  | true => exact iteT (qa C H1 K1 σ st1 de Dn i1 (hL.up s1) q1)
  | false => exact iteF (qb C H1 K1 σ st1 de Dn i1 (hL.up s1) q1)
theorem psd_expr (h : POD X W e o) (hs : swapsWith e none pos.line X.env = pure false := by rfl) : PSD X W (.Expr e pos) (dDrop o) := by
  obtain ⟨t, p, q⟩ := h.ex
  exact ⟨_, ps_expr p hs, fun C H0 H σ st de Dn hI hL hg => q C H0 H σ st de.ex _ _ hI (hL.xp σ) (fun r st1 v H1 K1 q1 i1 s1 r1 => hL.nx st1 σ H1 K1 q1 i1 s1) hg⟩
theorem psd_pass : PSD X W (.Pass pos) dNx := ⟨_, ps_pass, fun C H0 H σ st de Dn hI hL hg => hL.nx st σ H0 H hg hI (Same.refl _)⟩
theorem psd_break : PSD X W (.Break pos) dBk := ⟨_, ps_break, fun C H0 H σ st de Dn hI hL hg => hL.bk st σ H0 H hg hI (Same.refl _)⟩
theorem psd_continue : PSD X W (.Continue pos) dCt := ⟨_, ps_continue, fun C H0 H σ st de Dn hI hL hg => hL.ct st σ H0 H hg hI (Same.refl _)⟩
theorem psd_never : PSD X W s dNo := ⟨_, ps_never, fun C H0 H σ st de Dn hI hL hg => hg⟩
theorem psd_par {i j : Nat} {x y : Str} {px py pt : Pos} {kt k2 pt2} {ga gb : DE} (hc : X.calm = true) (hN : X.N.Nodup) (hi : X.N[i]? = some x) (hj : X.N[j]? = some y) (hij : i ≠ j)
    (hx : X.env.scope.names.lookup x = some .local) (hy : X.env.scope.names.lookup y = some .local) (ha : PED X W a ga) (hb : PED X W b gb)
    (hp : ∀ {ta tb : TE}, PE X a ta → PE X b tb → PS X (.Assign [.Tuple [.Name x px, .Name y py] kt pt] (.Tuple [a, b] k2 pt2) pos) (tPar i j (tCons ta (tCons tb tNil)))) :
    PSD X W (.Assign [.Tuple [.Name x px, .Name y py] kt pt] (.Tuple [a, b] k2 pt2) pos) (dPar i j ga gb) := by
  obtain ⟨ta, pa, qa⟩ := ha.ex
  obtain ⟨tb, pb, qb⟩ := hb.ex
  refine ⟨_, hp pa pb, fun C H0 H σ st de Dn hI hL hg => qa C H0 H σ st de.ex _ _ hI (hL.xp σ) (fun x st1 v H1 K1 q1 i1 s1 r1 => ?_) hg⟩
  refine qb C H1 K1 σ st1 de.ex _ _ i1 ((hL.xp σ).up s1) (fun y st2 u H2 K2 q2 i2 s2 r2 => ?_) q1
  refine ⟨v, u, rfl, ?_⟩
  have k1 := i2.set (k := i) (r := .fz x) (v := v) (Rep.mono s2 x v r1)
  exact hL.nx _ _ H2 K2 q2 (k1.set (k := j) (r := .fz y) (v := u) r2) (s1.trans s2)
/-! targets -/
theorem pgd_name {i : Nat} {x : Str} (hN : X.N.Nodup) (hi : X.N[i]? = some x) (hx : Loc X.env.scope x) (hf : X.fn x = true ∨ X.env.scope.names.lookup x = some .local := by first | exact .inl rfl | exact .inr rfl | assumption) : PGD X (.Name x pos) (gdName i) :=
  ⟨_, pg_name hN hi hx hf, fun C H0 H σ st d v Q Qv hI hr hQ hg => hQ _ _ H0 H hg (hI.set (r := .fz d) hr) (Same.refl _)⟩
theorem pgsd_nil : PGsD X [] gdNil := by
  refine ⟨_, pgs_nil, fun C H0 H σ st ds vs Q Qv hI hr hQ hg => ?_⟩
  cases ds with
  | nil => exact ⟨hr.nil, hQ st σ H0 H hg hI (Same.refl _)⟩
  | cons d r => exact hg.elim
theorem pgsd_cons {ga : DG} {gb : DGs} (h1 : PGD X e ga) (h2 : PGsD X es gb) (hs : (assignEach (e :: es) X.env).map (·.2) = assign e X.env :: (assignEach es X.env).map (·.2) := by rfl) : PGsD X (e :: es) (gdCons ga gb) := by
  obtain ⟨ta, pa, qa⟩ := h1.ex
  obtain ⟨tb, pb, qb⟩ := h2.ex
  refine ⟨_, pgs_cons pa pb hs, fun C H0 H σ st ds vs Q Qv hI hr hQ hg => ?_⟩
  cases ds with
  | nil => exact hg.elim
  | cons d r =>
    obtain ⟨v, w, rfl, h3, h4⟩ := hr.cons
    exact ⟨v, w, rfl, qa C H0 H σ st d v _ _ hI h3 (fun st' σ' H1 K1 q1 i1 s1 => qb C H1 K1 σ' st' r w Q Qv i1 (RepL.mono s1 r w h4) (fun st2 σ2 H2 K2 q2 i2 s2 => hQ st2 σ2 H2 K2 q2 i2 (s1.trans s2)) q1) hg⟩
theorem pgd_tup {k : Nat} {n : Nat} {h : DGs} (hc : X.calm = true) (h1 : PGsD X es h) (hn : (assignEach es X.env).length = n := by rfl) (hst : (assignEach es X.env).findIdx? (·.1) = none := by rfl) : PGD X (.Tuple es k pos) (gdTup n h) := by
  obtain ⟨ta, pa, qa⟩ := h1.ex
  refine ⟨_, pg_tup hc pa hn hst, fun C H0 H σ st d v Q Qv hI hr hQ hg => ?_⟩
  obtain ⟨ds, rfl, hl, hg⟩ := qTup_of hg
  obtain ⟨a, vs, rfl, h2, h3⟩ := hr.nd
  exact ⟨a, vs, rfl, SqT.mono hI.same h2, by rw [h3.length]; exact hl, qa C H0 H σ st _ vs Q Qv hI h3 hQ hg⟩
theorem psd_asg {tg : Expr} {t : DG} (he : PED X W e g) (hg : PGD X tg t) (hs : swapsWithSole [tg] e pos.line X.env = pure false := by rfl) (hw : swappedStores [tg] e X.env = pure none := by rfl)
    (h1 : (assignEach [tg] X.env).map (·.2) = [assign tg X.env] := by rfl) : PSD X W (.Assign [tg] e pos) (dAsg g t) := by
  obtain ⟨ta, pa, qa⟩ := he.ex
  obtain ⟨tb, pb, qb⟩ := hg.ex
  refine ⟨_, ps_asg pa pb hs hw h1, fun C H0 H σ st de Dn hI hL hg => qa C H0 H σ st de.ex _ _ hI (hL.xp σ) (fun d st1 v H1 K1 q1 i1 s1 r1 => ?_) hg⟩
  exact qb C H1 K1 σ st1 d v de.nx _ i1 r1 (fun st2 σ2 H2 K2 q2 i2 s2 => hL.nx st2 σ2 H2 K2 q2 i2 (s1.trans s2)) q1
/-! loops -/
theorem ItOk.up {K : PySem.W.Frag} {mg : Str → Option Value} {J : It} {H0 H1 : Hp} {ds : List D} (h : ItOk K mg J H0 ds) (s : Same H0 H1) : ItOk K mg J H1 ds :=
  ⟨fun i H q => h.go i H (s.trans q), fun H q => h.stop H (s.trans q), fun C i H2 H x H' σ st q => h.yld C i H2 H x H' σ st (s.trans q)⟩
theorem psd_for {tg iter : Expr} {body : List Stmt} {gi : DI} {t : DG} {gb : DS} (hp : PassesOwn (model X.prog X.w) X.A X.env X.xe) (hc : X.calm = true) (hi : PID X W tg iter gi) (hg : PGD X tg t) (hb : PSsD X W body gb)
    (hs : ∀ x, foldedSetIterable iter X.env x = pure x := by intro _; rfl) : PSD X W (.For tg iter body [] pos) (dFor gi t gb) := by
  obtain ⟨wi, pi, qi⟩ := hi.ex
  obtain ⟨tt, pt, qt⟩ := hg.ex
  obtain ⟨tb, pb, qb⟩ := hb.ex
  refine ⟨_, ps_for hp hc pi pt pb hs, fun C H0 H σ st de Dn hI hL hg => qi C H0 H σ st de.ex _ _ hI (hL.xp σ) (fun ds st1 J H1 K1 q1 i1 s1 j1 => ?_) hg⟩
  refine ⟨fun i m σ' H' => m = ds.length - i ∧ i ≤ ds.length ∧ ∃ H2 st2, I X.K X.mg C H2 H' σ' st2 ∧ Same H1 H2 ∧ dForL t gb (ds.drop i) de st2, ⟨ds.length, by simp, Nat.zero_le _, H1, st1, i1, Same.refl _, by simpa using q1⟩, ?_⟩
  rintro i m σ' H' ⟨rfl, hle, H2, st2, i2, s2, q2⟩
  by_cases hlt : i < ds.length
  · refine .inr ⟨j1.go i H' (s2.trans i2.same) hlt, fun σ3 H3 => ∃ H4 st4, I X.K X.mg C H4 H3 σ3 st4 ∧ Same H1 H4 ∧ dForL t gb (ds.drop (i + 1)) de st4, fun σ3 H3 ⟨H4, st4, i4, s4, q4⟩ => ⟨ds.length - (i + 1), by omega, rfl, hlt, H4, st4, i4, s4, q4⟩, fun x H3 y => ?_⟩
    obtain ⟨H4, d, hd, s4, i4, r4⟩ := j1.yld C i H2 H' x H3 σ' st2 s2 hlt i2 y
    have ed : ds.drop i = d :: ds.drop (i + 1) := by
      obtain ⟨hk, e⟩ := List.getElem?_eq_some_iff.mp hd
      rw [List.drop_eq_getElem_cons hk, e]
    rw [ed] at q2
    refine qt C H4 H3 σ' st2 d x _ _ i4 r4 (fun st5 σ5 H5 K5 q5 i5 s5 => ?_) q2
    have again : ∀ st6 σ6 H6 K6, dForL t gb (ds.drop (i + 1)) de st6 → I X.K X.mg C H6 K6 σ6 st6 → Same H5 H6 → ∃ H4 st4, I X.K X.mg C H4 K6 σ6 st4 ∧ Same H1 H4 ∧ dForL t gb (ds.drop (i + 1)) de st4 :=
      fun st6 σ6 H6 K6 q6 i6 s6 => ⟨H6, st6, i6, s2.trans (s4.trans (s5.trans s6)), q6⟩
    have up : Same H0 H5 := s1.trans (s2.trans (s4.trans s5))
    refine qb C H5 K5 σ5 st5 { de with nx := fun s => dForL t gb (ds.drop (i + 1)) de s, ct := fun s => dForL t gb (ds.drop (i + 1)) de s, bk := de.nx } _ i5 ⟨again, fun st6 σ6 H6 K6 q6 i6 s6 => hL.nx st6 σ6 H6 K6 q6 i6 (up.trans s6), again, fun r st6 v σ6 H6 K6 q6 i6 s6 => hL.rt r st6 v σ6 H6 K6 q6 i6 (up.trans s6), fun er st6 σ6 H6 K6 cls dd q6 i6 s6 => hL.ex er st6 σ6 H6 K6 cls dd q6 i6 (up.trans s6)⟩ q5
  · have e : i = ds.length := by omega
    subst e
    rw [List.drop_length] at q2
    exact .inl ⟨j1.stop H' (s2.trans i2.same), hL.nx st2 σ' H2 H' q2 i2 (s1.trans s2)⟩
theorem psd_while {body : List Stmt} {gc : DT} {gb : DS} (hp : PassesOwn (model X.prog X.w) X.A X.env X.xe) (hc : PTD X W c gc) (hb : PSsD X W body gb) : PSD X W (.While c body [] pos) (dWh gc gb) := by
  obtain ⟨tc, pc, qc⟩ := hc.ex
  obtain ⟨tb, pb, qb⟩ := hb.ex
  refine ⟨_, ps_while hp pc pb, fun C H0 H σ st de Dn hI hL hg => ?_⟩
  obtain ⟨n, hn⟩ := hg
  refine ⟨fun m σ' H' => ∃ H2 st2, I X.K X.mg C H2 H' σ' st2 ∧ Same H0 H2 ∧ dWhN gc gb m de st2, ⟨n, H0, st, hI, Same.refl _, hn⟩, ?_⟩
  rintro m σ' H' ⟨H2, st2, i2, s2, q2⟩
  cases m with
  | zero => exact q2.elim
  | succ m =>
    refine qc C H2 H' σ' st2 de.ex _ _ i2 ((hL.xp σ').up s2) (fun k st3 H3 K3 q3 i3 s3 => ?_) q2
    cases k with
    | false => exact iteF (hL.nx st3 σ' H3 K3 q3 i3 (s2.trans s3))
    | true =>
      refine iteT ⟨fun σ4 H4 => ∃ H5 st5, I X.K X.mg C H5 H4 σ4 st5 ∧ Same H0 H5 ∧ dWhN gc gb m de st5, fun σ4 H4 h => ⟨m, Nat.lt_succ_self _, h⟩, ?_⟩
      have up : Same H0 H3 := s2.trans s3
      have again : ∀ st6 σ6 H6 K6, dWhN gc gb m de st6 → I X.K X.mg C H6 K6 σ6 st6 → Same H3 H6 → ∃ H5 st5, I X.K X.mg C H5 K6 σ6 st5 ∧ Same H0 H5 ∧ dWhN gc gb m de st5 := fun st6 σ6 H6 K6 q6 i6 s6 => ⟨H6, st6, i6, up.trans s6, q6⟩
      exact qb C H3 K3 σ' st3 { de with nx := fun s => dWhN gc gb m de s, ct := fun s => dWhN gc gb m de s, bk := de.nx } _ i3 ⟨again, fun st6 σ6 H6 K6 q6 i6 s6 => hL.nx st6 σ6 H6 K6 q6 i6 (up.trans s6), again, fun r st6 v σ6 H6 K6 q6 i6 s6 => hL.rt r st6 v σ6 H6 K6 q6 i6 (up.trans s6), fun er st6 σ6 H6 K6 cls dd q6 i6 s6 => hL.ex er st6 σ6 H6 K6 cls dd q6 i6 (up.trans s6)⟩ q3
/-! what is gone over -/
theorem iota_get {lo : Int} {n i : Nat} (h : i < n) : (iota lo n)[i]? = some (D.int (lo + (i : Int))) := by
  unfold iota
  rw [List.getElem?_map, List.getElem?_range h]
  rfl
theorem iota_len (lo : Int) (n : Nat) : (iota lo n).length = n := by unfold iota; simp
theorem it_rng {K : PySem.W.Frag} {mg : Str → Option Value} (lo : Int) (n : Nat) (H0 : Hp) : ItOk K mg (Itr lo n) H0 (iota lo n) := by
  refine ⟨fun i H _ h => by rw [iota_len] at h; exact h, fun H _ => by rw [iota_len]; exact Nat.le_refl n, fun C i H1 H x H' σ st s h hI y => ?_⟩
  rw [iota_len] at h
  obtain ⟨rfl, rfl⟩ := y
  exact ⟨H1, _, iota_get h, Same.refl _, hI, rep_int⟩
theorem pid_rng1 {tg : Expr} {p : Pos} {ha : DA} (hg : Gl X "range") (hm : X.mg "range" = none) (h : PAD X W [a] ha) (hs : starEach [a] X.env = [(false, eval a X.env)] := by rfl) : PID X W tg (.Call (.Name "range" p) [a] [] pos) (dRng1 ha) := by
  obtain ⟨ta, pa, qa⟩ := h.ex
  refine ⟨_, pi_range1 hg hm pa hs, fun C H0 H σ st Ex Q R hI hX hQ hg => qa C H0 H σ st Ex _ _ hI hX (fun ds st1 vs H1 K1 q1 i1 s1 r1 el => ?_) hg⟩
  split at q1
  · rename_i j
    obtain ⟨v, w, rfl, h3, h4⟩ := r1.cons
    cases h4.nil
    cases h3.int
    exact ⟨j, rfl, q1.1, q1.2.1, hQ _ st1 _ H1 K1 q1.2.2 i1 s1 (it_rng _ _ _)⟩
  · exact q1.elim
theorem pid_rng2 {tg : Expr} {p : Pos} {ha : DA} (hg : Gl X "range") (hm : X.mg "range" = none) (h : PAD X W [a, b] ha) (hs : starEach [a, b] X.env = [(false, eval a X.env), (false, eval b X.env)] := by rfl) (hs2 : starEach [b] X.env = [(false, eval b X.env)] := by rfl) : PID X W tg (.Call (.Name "range" p) [a, b] [] pos) (dRng2 ha) := by
  obtain ⟨ta, pa, qa⟩ := h.ex
  refine ⟨_, pi_range2 hg hm pa hs hs2, fun C H0 H σ st Ex Q R hI hX hQ hg => qa C H0 H σ st Ex _ _ hI hX (fun ds st1 vs H1 K1 q1 i1 s1 r1 el => ?_) hg⟩
  split at q1
  · rename_i i j
    obtain ⟨v, w, rfl, h3, h4⟩ := r1.cons
    obtain ⟨v2, w2, rfl, h5, h6⟩ := h4.cons
    cases h6.nil
    cases h3.int
    cases h5.int
    exact ⟨i, j, rfl, q1.1, hQ _ st1 _ H1 K1 q1.2 i1 s1 (it_rng _ _ _)⟩
  · exact q1.elim
theorem it_lst {K : PySem.W.Frag} {mg : Str → Option Value} {a : Addr} {xs : List V} {H0 : Hp} {ds : List D} (h : SqL K H0 a xs) (r : RepL K mg H0 ds xs) : ItOk K mg (Itl K a) H0 ds := by
  have el := r.length
  refine ⟨fun i H s h' => ?_, fun H s => ⟨xs, s.seq h, by omega⟩, fun C i H1 H x H' σ st s h' hI y => ?_⟩
  · have h2 : i < xs.length := by omega
    exact ⟨xs, xs[i], s.seq h, by simp [h2]⟩
  · obtain ⟨rfl, y⟩ := y
    have e := y xs ((s.trans hI.same).seq h)
    obtain ⟨d, h1, h2⟩ := r.getV e
    exact ⟨H1, d, h1, Same.refl _, hI, Rep.mono s d x h2⟩
theorem it_tup {K : PySem.W.Frag} {mg : Str → Option Value} {a : Addr} {xs : List V} {H0 : Hp} {ds : List D} (h : SqT K H0 a xs) (r : RepL K mg H0 ds xs) : ItOk K mg (Itt K a) H0 ds := by
  have el := r.length
  refine ⟨fun i H s h' => ?_, fun H s => ⟨xs, SqT.mono s h, by omega⟩, fun C i H1 H x H' σ st s h' hI y => ?_⟩
  · have h2 : i < xs.length := by omega
    exact ⟨xs, xs[i], SqT.mono s h, by simp [h2]⟩
  · obtain ⟨rfl, y⟩ := y
    have e := y xs (SqT.mono (s.trans hI.same) h)
    obtain ⟨d, h1, h2⟩ := r.getV e
    exact ⟨H1, d, h1, Same.refl _, hI, Rep.mono s d x h2⟩
def dItemsL (g : DE) (Ex : DX) (st : LS) (Q : List D → LS → Prop) : Prop := g Ex st fun d st1 => match d with
  | .nd .lst ds => Q ds st1
  | _ => False
def dItemsT (g : DE) (Ex : DX) (st : LS) (Q : List D → LS → Prop) : Prop := g Ex st fun d st1 => match d with
  | .nd .tup ds => Q ds st1
  | _ => False
theorem pid_lst {tg : Expr} (h : PED X W e g) : PID X W tg e (dItemsL g) := by
  obtain ⟨ta, pa, qa⟩ := h.ex
  refine ⟨_, pi_list pa, fun C H0 H σ st Ex Q R hI hX hQ hg => qa C H0 H σ st Ex _ _ hI hX (fun d st1 v H1 K1 q1 i1 s1 r1 => ?_) hg⟩
  split at q1
  · obtain ⟨a, vs, rfl, h2, h3⟩ := r1.nd
    exact ⟨a, rfl, ⟨vs, i1.same.seq (SqL.of h2)⟩, hQ _ st1 _ H1 K1 q1 i1 s1 (it_lst (SqL.of h2) h3)⟩
  · exact q1.elim
theorem pid_tup {tg : Expr} (h : PED X W e g) : PID X W tg e (dItemsT g) := by
  obtain ⟨ta, pa, qa⟩ := h.ex
  refine ⟨_, pi_tup pa, fun C H0 H σ st Ex Q R hI hX hQ hg => qa C H0 H σ st Ex _ _ hI hX (fun d st1 v H1 K1 q1 i1 s1 r1 => ?_) hg⟩
  split at q1
  · obtain ⟨a, vs, rfl, h2, h3⟩ := r1.nd
    exact ⟨a, rfl, ⟨vs, SqT.mono i1.same h2⟩, hQ _ st1 _ H1 K1 q1 i1 s1 (it_tup h2 h3)⟩
  · exact q1.elim
end
end PD

/-! a def's promise where no guard of repr is under way: as FnOk, with what the caller knows of the guards beside. -/
namespace PD
open PySem PySem.Spec PyProof.Rows L2
structure RoomG (k : Nat) (A : Around) : Prop where
  r : Room k A
  gd : A.guards = some []
theorem RoomG.mono {j k : Nat} {A : Around} (h : RoomG k A) (l : j ≤ k) : RoomG j A := ⟨h.r.mono l, h.gd⟩
theorem RoomG.deeper {k : Nat} {A : Around} (h : RoomG (k + 1) A) (env : Env) : RoomG k (A.deeper env) := ⟨h.r.deeper env, h.gd⟩
structure FnG (P : Program) (w : World) (K : PySem.W.Frag) (mg : Str → Option Value) (base : Heap) (k : Nat) (f : Addr) (fd : FuncData) (ps : List Str) (sp : Sp) : Prop where
  len : ∀ vs H Q E, sp vs H Q E → vs.length = ps.length
  run : ∀ (A : Around) (outer : List Env) (s : Shared) (H : Hp) (args : Args) (us : List Value) (vs : List V) (Q : VK) (E : XK), RoomG k A → Env0 P w K mg base A outer s H → BindsTo s fd args (ps.zip us) → Vals vs us → sp vs H Q E →
    codeAny (model P w) A (.call (.ref f) args) (CR (L2.CX P w) outer P w H s Q E) s
section
variable {P : Program} {w : World} {K : PySem.W.Frag} {mg : Str → Option Value} {base : Heap} {k : Nat} {f : Addr}
theorem FnG.imp {fd : FuncData} {ps : List Str} {sp sp' : Sp} (F : FnG P w K mg base k f fd ps sp) (h : ∀ vs H Q E, sp' vs H Q E → sp vs H Q E) : FnG P w K mg base k f fd ps sp' :=
  ⟨fun vs H Q E q => F.len vs H Q E (h _ _ _ _ q), fun A outer s H args us vs Q E hr he hb hv hs => F.run A outer s H args us vs Q E hr he hb hv (h _ _ _ _ hs)⟩
/-- a def as it stands behind the top, whatever its defaults -/
structure FunV (K : PySem.W.Frag) (x qual : Str) (st : Stmt) (f : Addr) (fd : FuncData) : Prop where
  ex : ∃ (oc : Value) (od : Option Addr) (dV kV doc pm : Value) (an : Option Addr) (cdv ct : Value) (osl : Array (Option Value)),
    fd = PySem.W.fnOf x qual (defArgs st) (defBody st) (defScope st) dV kV doc pm an cdv ct ∧ K.lookup f = some ⟨oc, od, .func fd, osl⟩ ∧ PySem.W.codeIn K cdv qual = true
  kp : PySem.W.keepIn K (.ref f) = true
theorem funv_mk {x qual : Str} {st : Stmt} {f : Addr} {oc : Value} {od an : Option Addr} {osl : Array (Option Value)} {dV kV doc pm cdv ct : Value}
    (l : K.lookup f = some ⟨oc, od, .func (PySem.W.fnOf x qual (defArgs st) (defBody st) (defScope st) dV kV doc pm an cdv ct), osl⟩) (c : PySem.W.codeIn K cdv qual = true) (k : PySem.W.keepIn K (.ref f) = true) :
    FunV K x qual st f (PySem.W.fnOf x qual (defArgs st) (defBody st) (defScope st) dV kV doc pm an cdv ct) := ⟨⟨oc, od, dV, kV, doc, pm, an, cdv, ct, osl, rfl, l, c⟩, k⟩
/-- a def by its body -/
theorem Fun.okG {x qual : Str} {st : Stmt} {fd : FuncData} {N ps : List Str} {sp : Sp} (F : FunV K x qual st f fd) (S : FnScope N ps (defScope st)) (len : ∀ vs H Q E, sp vs H Q E → vs.length = ps.length)
    (hbody : ∀ (cdv : Value) (A : Around) (outer : List Env) (s : Shared) (H : Hp) (vs : List V) (Q : VK) (E : XK), RoomG k (A.deeper (envOfC qual (defScope st) s.heap.objs.size f cdv)) → sp vs H Q E →
      ∃ t, PSs (cxOf (L2.CX P w) P w K mg base N qual (defScope st) f cdv A outer s H E) (defBody st) t ∧ t { nx := fun _ H' => Q .non H', rt := Q } (start N vs) H) : FnG P w K mg base (k + 1) f fd ps sp := by
  obtain ⟨oc, od, dV, kV, doc, pm, an, cdv, ct, osl, rfl, lk, hcd⟩ := F.ex
  refine ⟨len, fun A outer s H args us vs Q E hr e0 hb r hsp => ?_⟩
  have hold : ∀ b o, base.get? b = some o → s.heap.get? b = some o := fun b o e => (e0.bs b o e).1
  have hkind : ∀ y ∈ ps.zip us, (defScope st).names.lookup y.1 = some .local ∨ ((defScope st).names.lookup y.1 = some .cell ∧ ((cellsFrom (s.heap.objs.size + 1) (defScope st).names []).lookup y.1).isSome = true) := by
    rintro ⟨n, v⟩ hy
    exact (S.par n (List.of_mem_zip hy).1).imp id fun q => ⟨q, PySem.W.cellsFrom_some _ _ _ (.inl q)⟩
  refine codeAny_call_function hr.r.depth (e0.mod.kin.keeps hold _ _ lk) rfl S.co S.gen rfl (PySem.W.codeRec_of (e0.mod.kin.keeps hold) hcd) (hb _ _ _ _ (wpAny_newFunctionEnv_cells S.kind hkind fun env he s1 x => ?_))
  subst he
  refine ⟨(e0.mod.nolimit.keeps hold).keeps x.toInCall.keep, codeAny_func ?_⟩
  obtain ⟨t, ht, hq⟩ := hbody cdv A outer s H vs Q E (hr.deeper _) hsp
  refine wpAny_mono (ht.run [] s1 (start N vs) H _ (inv_start S hr.r.hd e0 (len _ _ _ _ hsp) r x) hq) (fun fl s' hs => ?_) fun e s' hs => hs
  cases fl with
  | ret u => obtain ⟨v, σ', H', J, rv, q⟩ := hs; exact ⟨v, H', J.os, J.bare, J.base, J.hok, rv, q⟩
  | next => obtain ⟨σ', H', J, q⟩ := hs; exact ⟨V.non, H', J.os, J.bare, J.base, J.hok, rfl, q⟩
  | brk => obtain ⟨_, _, _, q⟩ := hs; exact q.elim
  | cont => obtain ⟨_, _, _, q⟩ := hs; exact q.elim
end
section
variable {X : Cx} {k : Nat} {f C : Addr} {fd : FuncData} {ps : List Str} {sp : Sp} {E : L2.St → XK} {x : Str} {p pos : Pos} {e : Expr} {es : List Expr} {t : TA}
theorem run_G {pins : List (Addr × Obj)} {σ : L2.St} {H : Hp} {s : Shared} {Q : VK} {us : List Value} {vs : List V} (F : FnG X.prog X.w X.K X.mg X.base k f fd ps sp) (hr : RoomG k X.A) (hb : Binds X.K fd ps []) (hx : PassesAt (L2.CX X.prog X.w) X σ (E σ))
    (I : Inv X pins σ H s) (r : Vals vs us) (h : sp vs H Q (E σ)) : wpAny (model X.prog X.w) X.A (call (.ref f) us) (EP X pins σ Q) X.xe s := by
  have b := hb s us I.kIn (by rw [List.append_nil, ← r.length]; exact F.len _ _ _ _ h)
  rw [List.append_nil] at b
  refine wpAny_call (codeAny_mono (F.run X.A X.stack s H ⟨us, []⟩ us vs Q (E σ) hr I.env0 b r h) fun r s' hq => ?_)
  rcases r with er | _ | _ | _ | u
  · exact hx pins H s er s' I hq
  · exact hq.elim
  · exact hq.elim
  · exact hq.elim
  · exact I.after hq
theorem pe_callG (F : FnG X.prog X.w X.K X.mg X.base k f fd ps sp) (hr : RoomG k X.A) (hg : Gl X x) (hm : X.mg x = some (.ref f)) (hk : PySem.W.keepIn X.K (.ref f) = true) (hb : Binds X.K fd ps []) (hx : ∀ σ, PassesAt (L2.CX X.prog X.w) X σ (E σ))
    (ha : PA X (e :: es) t) (hdb : (x == ("__debug__" : Str)) = false := by decide) (he : starEach (e :: es) X.env = (false, eval e X.env) :: starEach es X.env := by rfl) (hpl : (backTo pos (starEach es X.env)).any (·.1) = false := by rfl) :
    PE X (.Call (.Name x p) (e :: es) [] pos) (tCallS sp E t) :=
  ⟨fun pins s σ H Q I h => wpAny_Call_Name_kw (ld_glob I hg hm (PySem.W.callWith_K (h₀ := X.base) I.ok.mod.kin hk (thn (ha.run pos pins s σ H _ I h) fun us s1 ⟨vs, H1, I1, r, q⟩ => ⟨I1.kIn, run_G F hr hb (hx σ) I1 r q⟩) he hpl) hdb)⟩
end
/-- the law called, from the top: the script is a list of ints of its own, or one of the module's -/
theorem law_callG {P : Program} {w : World} {K : PySem.W.Frag} {mg mb : Str → Option Value} {k : Nat} {fa a : Addr} {fd : FuncData} {x : Str} {sp : Sp} {s : Shared} {vs : List Value} {ns : List Int}
    (KX : K.In s.heap) (hns : s.heap.Ns mainGlobals mg) (hb : s.heap.Ns builtinsNs mb) (hbb : ∀ x : Str, x ≠ "__name__" → mb x = bootBuiltins x) (hlim : s.heap.NoLimit) (hg : s.gens = #[])
    (ha : s.heap.get? a = some { cls := .type "list", data := .seq vs.toArray }) (hi : IntsAre vs ns) (hl : ns.length ≤ sizeLine) (hr : Room k callerA)
    (F : ∀ base : Heap, K.In base → base.Ns mainGlobals mg → FnG P w K mg base k fa fd [x] sp) (hbind : ∀ (s : Shared) (u : Value), BindsTo s fd ⟨[u], []⟩ [(x, u)])
    (hsp : ∀ H : Hp, Only H → SqL K H a (ns.map V.int) → sp [.ref a] H (fun v _ => v = .bl true) fun _ _ _ => False) :
    codeAny (model P w) callerA (.call (.ref fa) ⟨[.ref a], []⟩) (fun r s' => r = .ok (.ret (.bool true)) ∧ OldK s.heap s'.heap ∧ s'.os = s.os ∧ AllBare s'.gens) s := by
  have rv := vals_ints hi
  have core : ∀ H : Hp, Only H → SqL K H a (ns.map V.int) → HOk P w H s.heap → (∀ b, H b ≠ none → b = a) → (H a ≠ none → K.lookup a = none) →
      codeAny (model P w) callerA (.call (.ref fa) ⟨[.ref a], []⟩) (fun r s' => r = .ok (.ret (.bool true)) ∧ OldK s.heap s'.heap ∧ s'.os = s.os ∧ AllBare s'.gens) s := by
    intro H hO hS hok hA hK
    have nsK : ∀ {b : Addr} {m : Str → Option Value}, s.heap.Ns b m → (hidT s.heap H).Ns b m := by
      rintro b m ⟨o, es, ep, e, d, r⟩
      refine ⟨o, es, ep, hidT_get e ?_, d, r⟩
      rcases q : H b with _ | u
      · rfl
      · have e' : b = a := hA b (by rw [q]; simp)
        subst e'
        rw [ha] at e; cases e
        cases (show Data.seq vs.toArray _ = Data.dict es ep from d)
    have hKb : K.In (hidT s.heap H) := by
      intro b o e
      refine hidT_get (KX b o e) ?_
      rcases q : H b with _ | u
      · rfl
      · have e' : b = a := hA b (by rw [q]; simp)
        subst e'
        cases (hK (by rw [q]; simp)).symm.trans e
    have e0 : Env0 P w K mg (hidT s.heap H) callerA [] s H :=
      ⟨rfl, ⟨hKb, nsK hns, ⟨mb, nsK hb, hbb⟩, let ⟨mc, h1, h2⟩ := hlim; ⟨mc, nsK h1, h2⟩⟩, fun b o e => of_hidT e, Nat.le_of_eq (hidT_size _ _), trivial, fun b hb => absurd (show b ∈ ([] : List Addr) from hb) (by simp), hok, .of_eq hg⟩
    refine codeAny_mono ((F _ hKb (nsK hns)).run callerA [] s H ⟨[.ref a], []⟩ [.ref a] [.ref a] _ _ ⟨hr, rfl⟩ e0 (hbind s (.ref a)) (.cons rfl .nil) (hsp H hO hS)) fun r s' h => ?_
    rcases r with e | _ | _ | _ | u
    · obtain ⟨_, _, _, _, _, _, _, _, _, _, _, _, z⟩ := h
      exact z.elim
    · exact h.elim
    · exact h.elim
    · exact h.elim
    · obtain ⟨v, H', os, bare, un, hok', r', q⟩ := h
      obtain rfl : v = .bl true := q
      obtain rfl : u = Value.bool true := r'
      refine ⟨rfl, OldK.of_keep fun b o e => ?_, os, bare⟩
      rcases q : H b with _ | u
      · exact un.keep b o e q (fun z => absurd (show b ∈ ([] : List Addr) from z) (by simp)) (by simp)
      · rcases hO b with z | ⟨ob, xs, z⟩
        · rw [q] at z; cases z
        · have e1 := (hok b _ z).1
          have e2 := (hok' b _ (un.frzs b ob _ z)).1
          rw [e] at e1; cases e1
          exact e2
  rcases hk : K.lookup a with _ | o
  · have ie : ∀ {b : Addr} {u : HO}, (if b = a then some (HO.frz { cls := .type "list", data := .seq vs.toArray } (.lst (ns.map V.int))) else none) = some u → b = a := fun {b u} z => by
      by_cases hb : b = a
      · exact hb
      · rw [if_neg hb] at z; cases z
    refine core (fun b => if b = a then some (.frz { cls := .type "list", data := .seq vs.toArray } (.lst (ns.map V.int))) else none) (fun b => ?_) (.inl (.inr ⟨_, if_pos rfl⟩)) (fun b u z => ?_) (fun b z => ?_) fun _ => hk
    · by_cases hb : b = a
      · exact .inr ⟨_, _, if_pos hb⟩
      · exact .inl (if_neg hb)
    · have hb := ie z
      subst hb
      cases (if_pos rfl).symm.trans z
      exact ⟨ha, by rw [List.length_map]; exact hl, vs, _, rv, ha⟩
    · by_cases hb : b = a
      · exact hb
      · exact absurd (if_neg hb) z
  · have e := KX a o hk
    rw [ha] at e
    cases e
    exact core (fun _ => none) (fun _ => .inl rfl) (.inr ⟨_, vs.toArray, _, hk, rfl, rfl, rfl, by rw [List.size_toArray, hi.length]; exact hl, by simpa using rv⟩) (fun b u z => by cases (show (none : Option HO) = some u from z)) (fun b z => absurd rfl z) fun z => absurd rfl z
theorem walk_ofG {l : PySem.W.OpenLaw} {n k : Nat} {q : Program} {loose : List Str} {XP : (Str → Option Value) → Heap → Prop} {YP : World → Heap → Prop} {d : DefRec} {K : Params → PySem.W.Frag} {sp : World → Sp} {x : Str}
    (hn : l.most = some n) (hn2 : n ≤ sizeLine) (hdf : d.params.defaults = []) (hr : Room k callerA) (hY : ∀ (w : World) (h : Heap), YP w h → (K w.params).In h)
    (F : ∀ (w : World) (mg : Str → Option Value) (fa : Addr) (h : Heap), (K w.params).In h → h.Ns mainGlobals mg → mg d.name = some (.ref fa) → ∃ fd : FuncData, (∀ (s : Shared) (u : Value), BindsTo s fd ⟨[u], []⟩ [(x, u)]) ∧
        ∀ base : Heap, (K w.params).In base → base.Ns mainGlobals mg → FnG l.prog w (K w.params) mg base k fa fd [x] (sp w))
    (hsp : ∀ (w : World) (H : Hp) (a : Addr) (ns : List Int), ns.length ≤ n → Only H → SqL (K w.params) H a (ns.map V.int) → sp w [.ref a] H (fun v _ => v = .bl true) fun _ _ _ => False) :
    PySem.W.WalkO q loose XP YP l.row.toRowW d [] (fun f vs => PySem.call f vs) := by
  refine Att.attach_call hn hdf fun w s₀ s₁ mg mb fa o pm cd doc a vs ns G Y ho hd hcd hmg hobj hints hlen hg => ?_
  obtain ⟨fd, hb, hF⟩ := F w mg fa _ (hY w _ Y) G.T.g hmg
  exact law_callG (hY w _ Y) G.T.g G.T.b G.T.builtins G.T.nolimit hg hobj hints (Nat.le_trans hlen hn2) hr hF hb fun H hO hS => hsp w H a ns hlen hO hS
end PD

namespace PD
open PySem PySem.Spec PyProof.Rows L2
/-! ### what a def promises over data -/
/-- all arguments are values -/
abbrev SpA := List D → (DErr → Prop) → (S → Prop) → Prop
/-- the first argument is an object of the caller's own -/
abbrev SpB := D → List D → (DErr → D → Prop) → (S → D → Prop) → Prop
structure Aft (H0 H : Hp) (as : List Addr) (H0' H' : Hp) : Prop where
  s0 : Same H0 H0'
  s1 : Same H0' H'
  keep : ∀ b o, H b = some o → b ∉ as → H' b = some o
  low : ∀ b o, H b = some o → H0 b = none → H0' b = none
section
variable (K : PySem.W.Frag) (mg : Str → Option Value)
def RepT (H H0' H' : Hp) : S → V → Prop
  | .fz d, v => Rep K mg H0' d v
  | .ow a l (.nd t ds), v => v = .ref a ∧ l = true ∧ H0' a = none ∧ H a = none ∧ ∃ vs, NodeM mg H' t a vs ∧ RepL K mg H0' ds vs
  | _, _ => False
def toA (n : Nat) (φ : SpA) : Sp := fun vs H Q E => vs.length = n ∧ ∃ H0 ds Ex' Q', Same H0 H ∧ RepL K mg H0 ds vs ∧ φ ds Ex' Q' ∧
  (∀ e H0' H' cls d, Ex' e → Aft H0 H [] H0' H' → RepE K mg H0' e cls d → E cls d H') ∧
  (∀ r v H0' H', Q' r → Aft H0 H [] H0' H' → RepT K mg H H0' H' r v → Q v H')
def toB (n : Nat) (φ : SpB) : Sp := fun vs H Q E => vs.length = n ∧ ∃ H0 a t es us ws ds Ex' Q', vs = .ref a :: ws ∧ Same H0 H ∧ H0 a = none ∧ NodeM mg H t a us ∧ RepL K mg H0 es us ∧ RepL K mg H0 ds ws ∧ φ (.nd t es) ds Ex' Q' ∧
  (∀ e t' es' us' H0' H' cls d, Ex' e (.nd t' es') → Aft H0 H [a] H0' H' → NodeM mg H' t' a us' → RepL K mg H0' es' us' → RepE K mg H0' e cls d → E cls d H') ∧
  (∀ r t' es' us' v H0' H', Q' r (.nd t' es') → Aft H0 H [a] H0' H' → NodeM mg H' t' a us' → RepL K mg H0' es' us' → RepT K mg H H0' H' r v → Q v H')
end
def startA (n : Nat) (ds : List D) : LS := ds.map S.fz ++ List.replicate (n - ds.length) S.un
def endsA (Ex : DErr → Prop) (Q : S → Prop) : DEnds := ⟨fun _ => Q (.fz .non), fun r _ => Q r, fun _ => False, fun _ => False, fun e _ => Ex e⟩
/-- the own object is still in its slot -/
def backB (a : Addr) (st : LS) (Q : D → Prop) : Prop := match st[(0 : Nat)]? with
  | some (S.ow a' _ d) => a' = a ∧ Q d
  | _ => False
def startB (n : Nat) (a : Addr) (d : D) (ds : List D) : LS := .ow a false d :: (ds.map S.fz ++ List.replicate (n - ds.length - 1) S.un)
def endsB (a : Addr) (Ex : DErr → D → Prop) (Q : S → D → Prop) : DEnds :=
  ⟨fun st => backB a st (Q (.fz .non)), fun r st => backB a st (Q r), fun _ => False, fun _ => False, fun e st => backB a st (Ex e)⟩
/-- what a slot's own object is -/
def atO (s : Option S) (Q : Addr → Bool → D → Prop) : Prop := match s with
  | some (.ow a l d) => Q a l d
  | _ => False
theorem atO_of {s : Option S} {Q : Addr → Bool → D → Prop} (h : atO s Q) : ∃ a l d, s = some (S.ow a l d) ∧ Q a l d := by
  unfold atO at h
  split at h
  · exact ⟨_, _, _, rfl, h⟩
  · exact h.elim
/-- an item by its place -/
def geti {α : Type} (xs : List α) : Int → Option α
  | .ofNat n => xs[n]?
  | .negSucc n => if n + 1 ≤ xs.length then xs[xs.length - (n + 1)]? else none
def seti {α : Type} (xs : List α) (k : Int) (d : α) : Option (List α) := match k with
  | .ofNat n => if n < xs.length then some (xs.set n d) else none
  | .negSucc n => if n + 1 ≤ xs.length then some (xs.set (xs.length - (n + 1)) d) else none
theorem atI_geti {α : Type} (xs : List α) (k : Int) : atI xs k = geti xs k := by
  unfold atI ixN
  cases k with
  | ofNat n =>
    show (if (0 : Int) ≤ (n : Int) then _ else _ : Option Nat).bind _ = xs[n]?
    have en : Int.ofNat n = (n : Int) := rfl
    rw [if_pos (by omega)]
    by_cases h : n < xs.length
    · rw [if_pos (by omega)]; rfl
    · rw [if_neg (by omega), List.getElem?_eq_none (by omega)]; rfl
  | negSucc n =>
    show (if (0 : Int) ≤ Int.negSucc n then _ else _ : Option Nat).bind _ = (if n + 1 ≤ xs.length then xs[xs.length - (n + 1)]? else none)
    rw [if_neg (by omega)]
    by_cases h : n + 1 ≤ xs.length
    · rw [if_pos (by omega), if_pos h]
      show xs[(Int.negSucc n + (xs.length : Int)).toNat]? = _
      congr 1; omega
    · rw [if_neg (by omega), if_neg h]; rfl
theorem seti_ix {α : Type} {xs ys : List α} {k : Int} {d : α} (h : seti xs k d = some ys) : ∃ j, ixN xs.length k = some j ∧ ys = xs.set j d := by
  unfold ixN
  cases k with
  | ofNat n =>
    have h' : (if n < xs.length then some (xs.set n d) else none) = some ys := h
    by_cases q : n < xs.length
    · rw [if_pos q] at h'
      refine ⟨n, ?_, (Option.some.inj h').symm⟩
      show (if (0 : Int) ≤ (n : Int) then _ else _ : Option Nat) = _
      have en : Int.ofNat n = (n : Int) := rfl
      rw [if_pos (by omega), if_pos (by omega)]; rfl
    · rw [if_neg q] at h'; cases h'
  | negSucc n =>
    have h' : (if n + 1 ≤ xs.length then some (xs.set (xs.length - (n + 1)) d) else none) = some ys := h
    by_cases q : n + 1 ≤ xs.length
    · rw [if_pos q] at h'
      refine ⟨xs.length - (n + 1), ?_, (Option.some.inj h').symm⟩
      show (if (0 : Int) ≤ Int.negSucc n then _ else _ : Option Nat) = _
      rw [if_neg (by omega), if_pos (by omega)]
      congr 1; omega
    · rw [if_neg q] at h'; cases h'
/-- the readings of calls and of own lists, with what they ask ahead -/
def dcA (φ : SpA) (g : DA) (Ex : DX) (st : LS) (Q : S → LS → Prop) : Prop := g Ex st fun ds st1 => φ ds (fun e => Ex e st1) fun r => Q r st1
def dcB (φ : SpB) (i : Nat) (g : DA) (Ex : DX) (st : LS) (Q : S → LS → Prop) : Prop := atO st[i]? fun _ _ _ => g Ex st fun ds st1 => atO st1[i]? fun a l d =>
  φ d ds (fun e d' => Ex e (st1.set i (.ow a l d'))) fun r d' => Q r (st1.set i (.ow a l d'))
def qIxL (x y : D) : Option D := match x, y with
  | .nd .lst ds, .int k => geti ds k
  | _, _ => none
def qSetL (x k d : D) : Option D := match x, k with
  | .nd .lst ds, .int k => (seti ds k d).map (.nd .lst)
  | _, _ => none
def qApp (x d : D) : Option D := match x with
  | .nd .lst ds => if ds.length < 16777216 then some (.nd .lst (ds ++ [d])) else none
  | _ => none
def dix (i : Nat) (gi : DE) (Ex : DX) (st : LS) (Q : D → LS → Prop) : Prop := atO st[i]? fun _ _ _ => gi Ex st fun x st1 => atO st1[i]? fun _ _ d => wpO (qIxL d x) fun y => Q y st1
def dst (i : Nat) (ge gi : DE) (de : DEnds) (st : LS) : Prop := ge de.ex st fun v st1 => atO st1[i]? fun _ _ _ => gi de.ex st1 fun x st2 => atO st2[i]? fun a l d => wpO (qSetL d x v) fun d' => de.nx (st2.set i (.ow a l d'))
def qIsL : D → Option Unit
  | .nd .lst _ => some ()
  | _ => none
def dap (i : Nat) (ge : DE) (de : DEnds) (st : LS) : Prop := atO st[i]? fun _ _ d0 => wpO (qIsL d0) fun _ => ge de.ex st fun v st1 => atO st1[i]? fun a l d => wpO (qApp d v) fun d' => de.nx (st1.set i (.ow a l d'))
section
variable {K : PySem.W.Frag} {mg : Str → Option Value} {C : Cfg} {H0 H H0' H' : Hp} {σ : L2.St} {st : LS}
theorem Aft.refl (s : Same H0 H) (as : List Addr) : Aft H0 H as H0 H := ⟨Same.refl _, s, fun _ _ h _ => h, fun _ _ _ h => h⟩
/-- behind a call that changed at most the own object of slot i -/
theorem I.callB (i : I K mg C H0 H σ st) {k : Nat} {a : Addr} {l : Bool} {t t' : Tg} {es es' : List D} {us' : List V} (e : st[k]? = some (.ow a l (.nd t es))) (f : Aft H0 H [a] H0' H') (h0 : H0' a = none) (hn : NodeM mg H' t' a us') (hr : RepL K mg H0' es' us') :
    I K mg C H0' H' σ (st.set k (.ow a l (.nd t' es'))) := by
  obtain ⟨e1, e2, e3, e4, us, e5, e6⟩ := i.ow e
  obtain ⟨oa, hoa⟩ := e5.some
  have hk : k < st.length := (List.getElem?_eq_some_iff.mp e).1
  have nb : ∀ b o, C.B b = some o → b ∉ C.A → b ∉ [a] := fun b o h n hm => by
    have : b = a := by simpa using hm
    subst this
    cases l with
    | true => rw [e3 rfl] at h; cases h
    | false => exact n (e4 rfl)
  refine ⟨f.s1, i.up.trans f.s0, fun b o h n => f.keep b o (i.keep b o h n) (nb b o h n), fun b o h n => ?_, fun b hb => ?_, by rw [List.length_set]; exact i.len, fun j => ?_, fun x y a' l t ds l' t' ds' q1 q2 => ?_⟩
  · by_cases hb : b ∈ C.A
    · obtain ⟨o', q⟩ := i.aa b hb
      exact f.low b o' q (i.low b o h n)
    · exact f.low b o (i.keep b o h hb) (i.low b o h n)
  · by_cases q : b = a
    · subst q; exact hn.some
    · obtain ⟨o, ho⟩ := i.aa b hb
      exact ⟨o, f.keep b o ho (by simpa using q)⟩
  · rw [getElem?_set_st hk]
    by_cases q : j = k
    · rw [if_pos q]; subst q
      exact ⟨e1, h0, e3, e4, us', hn, hr⟩
    · rw [if_neg q]
      refine (i.slots j).move f.s0 fun a' l' t' ds' q' => ?_
      have ne : a' ≠ a := fun z => by subst z; exact q (i.dist _ _ _ _ _ _ _ _ _ q' e)
      obtain ⟨_, x2, _, _, vs, x5, _⟩ := i.ow q'
      obtain ⟨o, ho⟩ := x5.some
      exact ⟨f.low a' o ho x2, fun o' z => f.keep a' o' z (by simpa using ne)⟩
  · rw [getElem?_set_st hk] at q1 q2
    by_cases z1 : x = k <;> by_cases z2 : y = k
    · rw [z1, z2]
    · rw [if_pos z1] at q1; rw [if_neg z2] at q2; cases q1
      exact (z2 (i.dist _ _ _ _ _ _ _ _ _ q2 e)).elim
    · rw [if_neg z1] at q1; rw [if_pos z2] at q2; cases q2
      exact (z1 (i.dist _ _ _ _ _ _ _ _ _ q1 e)).elim
    · rw [if_neg z1] at q1; rw [if_neg z2] at q2
      exact i.dist _ _ _ _ _ _ _ _ _ q1 q2
theorem I.wr (i : I K mg C H0 H σ st) {k : Nat} {a : Addr} {l : Bool} {t t' : Tg} {es es' : List D} {us' : List V} {o : HO} (e : st[k]? = some (.ow a l (.nd t es))) (hn : NodeM mg (upd H a o) t' a us') (hr : RepL K mg H0 es' us') :
    I K mg C H0 (upd H a o) σ (st.set k (.ow a l (.nd t' es'))) := by
  obtain ⟨e1, e2, _⟩ := i.ow e
  refine i.callB e ⟨Same.refl _, fun b u h => ?_, fun b u h n => ?_, fun _ _ _ h => h⟩ e2 hn hr
  · rw [upd_ne (ne_of_none h e2)]; exact i.same _ _ h
  · rw [upd_ne (by simpa using n)]; exact h
theorem I.callA (i : I K mg C H0 H σ st) (f : Aft H0 H [] H0' H') : I K mg C H0' H' σ st :=
  i.grow f.s0 (fun b o h => f.keep b o h (by simp)) f.s1 f.low
theorem RepT.r (i : I K mg C H0 H σ st) {st' : LS} (hs : ∀ (k : Nat) a l t ds, st'[k]? = some (S.ow a l (.nd t ds)) → ∃ l' t' ds', st[k]? = some (S.ow a l' (.nd t' ds'))) {r : S} {v : V} (h : RepT K mg H H0' H' r v) : RepR K mg C H0' H' st' r v := by
  cases r with
  | un => exact h
  | xc _ _ => exact h
  | fz d => exact h
  | ow a l d0 =>
    cases d0 with
    | nd t ds =>
      obtain ⟨h1, h2, h3, h4, h5⟩ := h
      obtain ⟨f1, f2⟩ := i.fresh h4
      refine ⟨h1, h2, h3, f1, fun k l' t' ds' q => ?_, h5⟩
      obtain ⟨l2, t2, ds2, q2⟩ := hs k a l' t' ds' q
      exact f2 k l2 t2 ds2 q2
    | _ => first | trivial | exact h.elim | exact False.elim h
theorem RepR.t {C : Cfg} {r : S} {v : V} (h : RepR K mg C H0' H' st r v) : RepT K mg C.B H0' H' r v := by
  cases r with
  | un => exact h
  | xc _ _ => exact h
  | fz d => exact h
  | ow a l d0 =>
    cases d0 with
    | nd t ds =>
      obtain ⟨h1, h2, h3, h4, h5, h6⟩ := h
      exact ⟨h1, h2, h3, h4, h6⟩
    | _ => first | trivial | exact h.elim | exact False.elim h
end
section
variable {X : Cx} {W : WX} {e a b c : Expr} {es : List Expr} {pos p : Pos} {k : Nat} {f : Addr} {fd : FuncData} {ps : List Str} {x : Str} {n : Nat}
theorem pod_callA {φ : SpA} {g : DA} (tk : Takes X W) (F : FnG X.prog X.w X.K X.mg X.base k f fd ps (toA X.K X.mg n φ)) (hr : RoomG k X.A) (hg : Gl X x) (hm : X.mg x = some (.ref f)) (hk : PySem.W.keepIn X.K (.ref f) = true) (hb : Binds X.K fd ps [])
    (ha : PAD X W (e :: es) g) (hl : (e :: es).length = n := by rfl) (hdb : (x == ("__debug__" : Str)) = false := by decide) (he : starEach (e :: es) X.env = (false, eval e X.env) :: starEach es X.env := by rfl) (hpl : (backTo pos (starEach es X.env)).any (·.1) = false := by rfl) :
    POD X W (.Call (.Name x p) (e :: es) [] pos) (dcA φ g) := by
  obtain ⟨ta, pa, qa⟩ := ha.ex
  refine ⟨_, pe_callG F hr hg hm hk hb (fun σ => passAt tk σ) pa hdb he hpl, fun C H0 H σ st Ex Q Qv hI hX hQ hg => qa C H0 H σ st Ex _ _ hI hX (fun ds st1 vs H1 K1 q1 i1 s1 r1 el => ?_) hg⟩
  refine ⟨by rw [r1.length, el]; exact hl, H1, ds, _, _, i1.same, r1, q1, fun er H2 K2 cls d q2 f2 r2 => ?_, fun r v H2 K2 q2 f2 r2 => ?_⟩
  · exact hX er st1 H2 K2 cls d q2 (i1.callA f2) (s1.trans f2.s0) r2
  · exact hQ r st1 v H2 K2 q2 (i1.callA f2) (s1.trans f2.s0) (RepT.r i1 (fun k a l t ds q => ⟨l, t, ds, q⟩) r2)
theorem pod_callB {φ : SpB} {g : DA} {i : Nat} (tk : Takes X W) (F : FnG X.prog X.w X.K X.mg X.base k f fd ps (toB X.K X.mg n φ)) (hr : RoomG k X.A) (hg : Gl X x) (hm : X.mg x = some (.ref f)) (hk : PySem.W.keepIn X.K (.ref f) = true) (hb : Binds X.K fd ps [])
    (he1 : PE X e (tVar i)) (ha : PAD X W es g) (hl : (e :: es).length = n := by rfl) (hdb : (x == ("__debug__" : Str)) = false := by decide) (he : starEach (e :: es) X.env = (false, eval e X.env) :: starEach es X.env := by rfl) (hpl : (backTo pos (starEach es X.env)).any (·.1) = false := by rfl) :
    POD X W (.Call (.Name x p) (e :: es) [] pos) (dcB φ i g) := by
  obtain ⟨ta, pa, qa⟩ := ha.ex
  refine ⟨_, pe_callG F hr hg hm hk hb (fun σ => passAt tk σ) (pa_cons he1 pa he) hdb he hpl, fun C H0 H σ st Ex Q Qv hI hX hQ hg => ?_⟩
  obtain ⟨a0, l0, d0, e0, hg⟩ := atO_of hg
  obtain ⟨t0, ds0, rfl⟩ := hI.owd e0
  have e0' := (hI.ow e0).1
  refine ⟨.ref a0, e0', qa C H0 H σ st Ex _ _ hI hX (fun ds st1 vs H1 K1 q1 i1 s1 r1 el => ?_) hg⟩
  obtain ⟨a, l, d, ed, q1⟩ := atO_of q1
  obtain ⟨t, us0, rfl⟩ := i1.owd ed
  obtain ⟨e1, e2, e3, e4, us, e5, e6⟩ := i1.ow ed
  rw [e0'] at e1
  cases e1
  refine ⟨by rw [List.length_cons, r1.length, el]; exact hl, H1, a0, t, us0, us, vs, ds, _, _, rfl, i1.same, e2, e5, e6, r1, q1, fun er t' es' us' H2 K2 cls d q2 f2 n2 m2 r2 => ?_, fun r t' es' us' v H2 K2 q2 f2 n2 m2 r2 => ?_⟩
  · obtain ⟨o, ho⟩ := e5.some
    exact hX er _ H2 K2 cls d q2 (i1.callB ed f2 (f2.low a0 o ho e2) n2 m2) (s1.trans f2.s0) r2
  · obtain ⟨o, ho⟩ := e5.some
    refine hQ r _ v H2 K2 q2 (i1.callB ed f2 (f2.low a0 o ho e2) n2 m2) (s1.trans f2.s0) (RepT.r i1 (fun k a' l' t2 ds2 q => ?_) r2)
    rw [getElem?_set_st (List.getElem?_eq_some_iff.mp ed).1] at q
    by_cases z : k = i
    · rw [if_pos z] at q; cases q; subst z; exact ⟨_, _, _, ed⟩
    · rw [if_neg z] at q; exact ⟨_, _, _, q⟩
/-! own lists -/
theorem qIxL_of {x y d : D} (h : qIxL x y = some d) : ∃ ds k, x = .nd .lst ds ∧ y = .int k ∧ geti ds k = some d := by
  unfold qIxL at h
  split at h
  · exact ⟨_, _, rfl, rfl, h⟩
  · cases h
theorem qSetL_of {x y d e : D} (h : qSetL x y d = some e) : ∃ ds k ds', x = .nd .lst ds ∧ y = .int k ∧ seti ds k d = some ds' ∧ e = .nd .lst ds' := by
  unfold qSetL at h
  split at h
  · rename_i ds k
    cases q : seti ds k d with
    | none => rw [q] at h; cases h
    | some ds' => rw [q] at h; cases h; exact ⟨_, _, _, rfl, rfl, q, rfl⟩
  · cases h
theorem qApp_of {x d e : D} (h : qApp x d = some e) : ∃ ds, x = .nd .lst ds ∧ ds.length < sizeLine ∧ e = .nd .lst (ds ++ [d]) := by
  unfold qApp at h
  split at h
  · split at h
    · cases h; exact ⟨_, rfl, by assumption, rfl⟩
    · cases h
  · cases h
theorem ped_ixO {i : Nat} {gi : DE} (ha : PE X a (tVar i)) (hb : PED X W b gi) (hs : PlainIx b := by intro _ _; rfl) : PED X W (.Subscript a b pos) (dix i gi) := by
  obtain ⟨tb, pb, qb⟩ := hb.ex
  refine ⟨_, pe_ix ix_list ha pb hs, fun C H0 H σ st Ex Q Qv hI hX hQ hg => ?_⟩
  obtain ⟨a0, l0, d0, e0, hg⟩ := atO_of hg
  obtain ⟨t0, ds0, rfl⟩ := hI.owd e0
  have e0' := (hI.ow e0).1
  refine ⟨.ref a0, e0', qb C H0 H σ st Ex _ _ hI hX (fun x st1 u H1 K1 q1 i1 s1 r1 => ?_) hg⟩
  obtain ⟨a, l, d, ed, q1⟩ := atO_of q1
  obtain ⟨y, qy, qz⟩ := wpO_of q1
  obtain ⟨ds, k, rfl, rfl, ek⟩ := qIxL_of qy
  rw [← atI_geti] at ek
  obtain ⟨e1, e2, e3, e4, us, e5, e6⟩ := i1.ow ed
  rw [e0'] at e1
  cases e1
  obtain ⟨j, hj, hd⟩ := Option.bind_eq_some_iff.mp ek
  obtain ⟨w, hw, rw'⟩ := e6.get hd
  refine ⟨a0, us, k, w, rfl, r1.int, SqL.of e5, ?_, hQ y st1 w H1 K1 qz i1 s1 rw'⟩
  unfold atI
  rw [e6.length, hj]
  exact hw
theorem psd_store {i : Nat} {ge gi : DE} (ho : PE X a (tVar i)) (hi : PED X W b gi) (he : PED X W e ge) (hs : swapsWithSole [.Subscript a b p] e pos.line X.env = pure false := by rfl) (hw : swappedStores [.Subscript a b p] e X.env = pure none := by rfl)
    (h1 : (assignEach [.Subscript a b p] X.env).map (·.2) = [assign (.Subscript a b p) X.env] := by rfl)
    (hd : ∀ v, assign (.Subscript a b p) X.env v = (do
      let ov ← holding [v] (eval a X.env)
      let iv ← holding [v, ov] (eval b X.env)
      standAt p
      holding [v, ov, iv] (setItem ov iv v)
      release [v, ov, iv] []) := by intro _; rfl) : PSD X W (.Assign [.Subscript a b p] e pos) (dst i ge gi) := by
  obtain ⟨te, pe, qe⟩ := he.ex
  obtain ⟨ti, pi, qi⟩ := hi.ex
  refine ⟨_, ps_asg pe (pg_sub ho pi set_list hd) hs hw h1, fun C H0 H σ st de Dn hI hL hg => qe C H0 H σ st de.ex _ _ hI (hL.xp σ) (fun d st1 v H1 K1 q1 i1 s1 r1 => ?_) hg⟩
  obtain ⟨a0, l0, d0, e0, q1⟩ := atO_of q1
  obtain ⟨t0, ds0, rfl⟩ := i1.owd e0
  have e0' := (i1.ow e0).1
  refine ⟨.ref a0, e0', qi C H1 K1 σ st1 de.ex _ _ i1 ((hL.xp σ).up s1) (fun x st2 u H2 K2 q2 i2 s2 r2 => ?_) q1⟩
  obtain ⟨a, l, d2, ed, q2⟩ := atO_of q2
  obtain ⟨y, qy, qz⟩ := wpO_of q2
  obtain ⟨ds, k, ds', rfl, rfl, ek, rfl⟩ := qSetL_of qy
  obtain ⟨j, ekj, rfl⟩ := seti_ix ek
  obtain ⟨e1, e2, e3, e4, us, e5, e6⟩ := i2.ow ed
  rw [e0'] at e1
  cases e1
  refine ⟨a0, us, k, j, rfl, r2.int, e5, by rw [e6.length]; exact ekj, ?_⟩
  exact hL.nx _ σ H2 _ qz (i2.wr ed (t' := .lst) upd_same (e6.set j (Rep.mono s2 d v r1))) (s1.trans s2)
theorem psd_append {i : Nat} {ge : DE} {apos : Pos} (ho : PE X a (tVar i)) (he : PED X W e ge) (hst : ∀ {to : TE} {t : TA}, PE X a to → PA X [e] t → PE X (.Call (.Attribute a "append" apos) [e] [] p) (tBM X.K "list" (fun x ys H Q => ∃ l xs y, x = .ref l ∧ ys = [y] ∧ H l = some (.lst xs) ∧ xs.length < sizeLine ∧ Q .non (upd H l (.lst (xs ++ [y])))) to t))
    (hs : swapsWith (.Call (.Attribute a "append" apos) [e] [] p) none pos.line X.env = pure false := by rfl) (hse : starEach [e] X.env = [(false, eval e X.env)] := by rfl) : PSD X W (.Expr (.Call (.Attribute a "append" apos) [e] [] p) pos) (dap i ge) := by
  obtain ⟨te, pe, qe⟩ := he.ex
  refine ⟨_, ps_expr (hst ho (pa_cons pe pa_nil hse)) hs, fun C H0 H σ st de Dn hI hL hg => ?_⟩
  obtain ⟨a0, l0, d0, e0, hg⟩ := atO_of hg
  obtain ⟨_, hL0, hg⟩ := wpO_of hg
  obtain ⟨t0, ds0, rfl⟩ := hI.owd e0
  cases t0 with
  | lst =>
    obtain ⟨e0', _, _, _, us0, n0, _⟩ := hI.ow e0
    refine ⟨.ref a0, e0', .inl ⟨rfl, us0, SqL.of n0⟩, qe C H0 H σ st de.ex _ _ hI (hL.xp σ) (fun d st1 v H1 K1 q1 i1 s1 r1 => ?_) hg⟩
    obtain ⟨a, l, d2, ed, q1⟩ := atO_of q1
    obtain ⟨y, qy, qz⟩ := wpO_of q1
    obtain ⟨ds, rfl, hz, rfl⟩ := qApp_of qy
    obtain ⟨e1, e2, e3, e4, us, e5, e6⟩ := i1.ow ed
    rw [e0'] at e1
    cases e1
    refine ⟨a0, us, v, rfl, rfl, e5, by rw [e6.length]; exact hz, ?_⟩
    exact hL.nx _ σ H1 _ qz (i1.wr ed (t' := .lst) upd_same (e6.append (repL_cons r1 repL_nil))) s1
  | _ => exact absurd hL0 (by intro z; cases z)
end
/-! ### a def from its body -/
section
variable {P : Program} {w : World} {K : PySem.W.Frag} {mg : Str → Option Value} {base : Heap}
theorem start_i {N : List Str} {C : Cfg} {ds : List D} {vs : List V} {H0 H : Hp} (s : Same H0 H) (hC : C = ⟨H0, H, []⟩) (r : RepL K mg H0 ds vs) : I K mg C H0 H (L2.start N vs) (startA N.length ds) := by
  subst hC
  have el := r.length
  refine ⟨s, Same.refl _, fun b o h _ => h, fun b o h n => n, fun a h => absurd h (by simp), ?_, fun i => ?_, fun i j a l t dsx l' t' ds' e1 e2 => ?_⟩
  · unfold L2.start startA
    simp [el]
  · unfold L2.start startA
    by_cases h : i < ds.length
    · rw [List.getElem?_append_left (by simpa using h), List.getElem?_append_left (by simp; omega), List.getElem?_map, List.getElem?_map]
      cases e : ds[i]? with
      | none => simp at e; omega
      | some d =>
        obtain ⟨v, h1, h2⟩ := r.get e
        rw [h1]
        exact ⟨v, rfl, h2⟩
    · rw [List.getElem?_append_right (by simp; omega), List.getElem?_replicate]
      split
      · trivial
      · trivial
  · unfold startA at e1
    by_cases h : i < ds.length
    · rw [List.getElem?_append_left (by simpa using h), List.getElem?_map] at e1
      cases e : ds[i]? with
      | none => rw [e] at e1; cases e1
      | some d => rw [e] at e1; cases e1
    · rw [List.getElem?_append_right (by simp; omega), List.getElem?_replicate] at e1
      split at e1 <;> cases e1
theorem okA {x qual : Str} {st : Stmt} {f : Addr} {fd : FuncData} {N ps : List Str} {k : Nat} (F : FunV K x qual st f fd) (S : FnScope N ps (defScope st)) (φ : SpA) (g : DS)
    (hb : ∀ (cdv : Value) (A : Around) (outer : List Env) (s : Shared) (H : Hp) (E : XK), RoomG k (A.deeper (envOfC qual (defScope st) s.heap.objs.size f cdv)) →
      PSsD (cxOf (L2.CX P w) P w K mg base N qual (defScope st) f cdv A outer s H E) (fun cls d _ H => E cls d H) (defBody st) g)
    (hφ : ∀ ds Ex Q, ds.length = ps.length → φ ds Ex Q → g (endsA Ex Q) (startA N.length ds)) : FnG P w K mg base (k + 1) f fd ps (toA K mg ps.length φ) := by
  refine Fun.okG F S (fun vs H Q E h => h.1) (fun cdv A outer s H vs Q E hr h => ?_)
  obtain ⟨hl, H0, ds, Ex', Q', sm, r, hf, hE, hQ⟩ := h
  obtain ⟨t, p, q⟩ := (hb cdv A outer s H E hr).ex
  refine ⟨t, p, q ⟨H0, H, []⟩ H0 H _ _ (endsA Ex' Q') _ (start_i sm rfl r) ⟨fun st' σ' H1 K1 q1 i1 s1 => ?_, fun _ _ _ _ z => z.elim, fun _ _ _ _ z => z.elim, fun r st' v σ' H1 K1 q1 i1 s1 r1 => ?_, fun er st' σ' H1 K1 cls d q1 i1 s1 r1 => ?_⟩ (hφ ds Ex' Q' (by rw [← r.length]; exact hl) hf)⟩
  · exact hQ _ _ H1 K1 q1 ⟨s1, i1.same, i1.keep, i1.low⟩ (show Rep K mg H1 .non .non from rep_non)
  · exact hQ _ _ H1 K1 q1 ⟨s1, i1.same, i1.keep, i1.low⟩ (RepR.t (C := ⟨H0, H, []⟩) r1)
  · exact hE _ H1 K1 cls d q1 ⟨s1, i1.same, i1.keep, i1.low⟩ r1
theorem start_b {N : List Str} {C : Cfg} {a : Addr} {t : Tg} {es ds : List D} {us vs : List V} {H0 H : Hp} (s : Same H0 H) (hC : C = ⟨H0, H, [a]⟩) (h0 : H0 a = none) (hn : NodeM mg H t a us) (hu : RepL K mg H0 es us) (r : RepL K mg H0 ds vs) :
    I K mg C H0 H (L2.start N (.ref a :: vs)) (startB N.length a (.nd t es) ds) := by
  subst hC
  have el := r.length
  refine ⟨s, Same.refl _, fun b o h _ => h, fun b o h n => n, fun b h => (List.mem_singleton.mp h) ▸ hn.some, ?_, fun i => ?_, fun i j b l tx ds' l' t' ds'' e1 e2 => ?_⟩
  · unfold L2.start startB
    simp [el]; omega
  · unfold L2.start startB
    cases i with
    | zero => exact ⟨rfl, h0, fun z => Bool.noConfusion z, fun _ => List.mem_singleton.mpr rfl, us, hn, hu⟩
    | succ i =>
      rw [List.getElem?_cons_succ, List.map_cons, List.cons_append, List.getElem?_cons_succ]
      by_cases h : i < ds.length
      · rw [List.getElem?_append_left (by simpa using h), List.getElem?_append_left (by simp; omega), List.getElem?_map, List.getElem?_map]
        cases e : ds[i]? with
        | none => simp at e; omega
        | some d =>
          obtain ⟨v, h1, h2⟩ := r.get e
          rw [h1]
          exact ⟨v, rfl, h2⟩
      · rw [List.getElem?_append_right (by simp; omega), List.getElem?_replicate]
        split
        · trivial
        · trivial
  · have k2 : ∀ (i : Nat) b l t2 ds', (startB N.length a (.nd t es) ds)[i]? = some (S.ow b l (.nd t2 ds')) → i = 0 := fun i b l t2 ds' e => by
      cases i with
      | zero => rfl
      | succ i =>
        unfold startB at e
        rw [List.getElem?_cons_succ] at e
        by_cases h : i < ds.length
        · rw [List.getElem?_append_left (by simpa using h), List.getElem?_map] at e
          cases e' : ds[i]? with
          | none => rw [e'] at e; cases e
          | some d => rw [e'] at e; cases e
        · rw [List.getElem?_append_right (by simp; omega), List.getElem?_replicate] at e
          split at e <;> cases e
    rw [k2 _ _ _ _ _ e1, k2 _ _ _ _ _ e2]
theorem okB {x qual : Str} {st : Stmt} {f : Addr} {fd : FuncData} {N ps : List Str} {k : Nat} (F : FunV K x qual st f fd) (S : FnScope N ps (defScope st)) (φ : SpB) (g : DS)
    (hb : ∀ (cdv : Value) (A : Around) (outer : List Env) (s : Shared) (H : Hp) (E : XK), RoomG k (A.deeper (envOfC qual (defScope st) s.heap.objs.size f cdv)) →
      PSsD (cxOf (L2.CX P w) P w K mg base N qual (defScope st) f cdv A outer s H E) (fun cls d _ H => E cls d H) (defBody st) g)
    (hφ : ∀ a t es ds Ex Q, ds.length + 1 = ps.length → φ (.nd t es) ds Ex Q → g (endsB a Ex Q) (startB N.length a (.nd t es) ds)) : FnG P w K mg base (k + 1) f fd ps (toB K mg ps.length φ) := by
  refine Fun.okG F S (fun vs H Q E h => h.1) (fun cdv A outer s H vs Q E hr h => ?_)
  obtain ⟨hl, H0, a, t, es, us, ws, ds, Ex', Q', rfl, sm, h0, hn, hu, r, hf, hE, hQ⟩ := h
  obtain ⟨tt, p, q⟩ := (hb cdv A outer s H E hr).ex
  have key : ∀ {st' : LS} {σ' : L2.St} {H1 K1 : Hp} {Qx : D → Prop}, backB a st' Qx → I K mg ⟨H0, H, [a]⟩ H1 K1 σ' st' → ∃ t' es' us', Qx (.nd t' es') ∧ NodeM mg K1 t' a us' ∧ RepL K mg H1 es' us' := fun {st' σ' H1 K1 Qx} q1 i1 => by
    unfold backB at q1
    split at q1
    · rename_i a' l' d' e
      obtain ⟨rfl, q1⟩ := q1
      obtain ⟨t', es', rfl⟩ := i1.owd e
      obtain ⟨_, _, _, _, us', e5, e6⟩ := i1.ow e
      exact ⟨t', es', us', q1, e5, e6⟩
    · exact q1.elim
  refine ⟨tt, p, q ⟨H0, H, [a]⟩ H0 H _ _ (endsB a Ex' Q') _ (start_b sm rfl h0 hn hu r) ⟨fun st' σ' H1 K1 q1 i1 s1 => ?_, fun _ _ _ _ z => z.elim, fun _ _ _ _ z => z.elim, fun r st' v σ' H1 K1 q1 i1 s1 r1 => ?_, fun er st' σ' H1 K1 cls d q1 i1 s1 r1 => ?_⟩ (hφ a t es ds Ex' Q' (by rw [← r.length]; simpa using hl) hf)⟩
  · obtain ⟨t', es', us', k1, k2, k3⟩ := key q1 i1
    exact hQ (.fz .non) t' es' us' _ H1 K1 k1 ⟨s1, i1.same, i1.keep, i1.low⟩ k2 k3 (show Rep K mg H1 .non .non from rep_non)
  · obtain ⟨t', es', us', k1, k2, k3⟩ := key q1 i1
    exact hQ _ t' es' us' _ H1 K1 k1 ⟨s1, i1.same, i1.keep, i1.low⟩ k2 k3 (RepR.t (C := ⟨H0, H, [a]⟩) r1)
  · obtain ⟨t', es', us', k1, k2, k3⟩ := key q1 i1
    exact hE _ t' es' us' H1 K1 cls d k1 ⟨s1, i1.same, i1.keep, i1.low⟩ k2 k3 r1
end
end PD

namespace PD
open PySem PySem.Spec PyProof.Rows L2
/-! ### operators -/
def fI (Cn : Int → Int → Prop) (g : Int → Int → Int) (x : D) (y : D) (Q : D → Prop) : Prop := match x, y with
  | .int i, .int j => Cn i j ∧ Q (.int (g i j))
  | _, _ => False
def fI0 (g : Int → Int → Int) (x : D) (y : D) (Q : D → Prop) : Prop := match x, y with
  | .int i, .int j => Q (.int (g i j))
  | _, _ => False
def fB (g : Int → Int → Bool) (x : D) (y : D) (Q : D → Prop) : Prop := match x, y with
  | .int i, .int j => Q (.bl (g i j))
  | _, _ => False
def fU (g : Int → Int) (x : D) (Q : D → Prop) : Prop := match x with
  | .int i => Q (.int (g i))
  | _ => False
mutual
def py : D → PyData
  | .non => .none
  | .bl b => .bool b
  | .int i => .int i
  | .str x => .str x
  | .glo _ => .dict []
  | .nd .tup ds => .tuple (pyL ds)
  | .nd .lst ds => .list (pyL ds)
  | .nd .scr ds => .list (pyL ds)
  | .nd (.dic _) _ => .dict []
  | .nd (.ins _ _) _ => .dict []
def pyL : List D → List PyData
  | [] => []
  | d :: ds => py d :: pyL ds
end
def fEq (x : D) (y : D) (Q : D → Prop) : Prop := (py x).plain = true ∧ (py y).plain = true ∧ min (py x).depth (py y).depth ≤ 60 ∧ Q (.bl (PyData.eqv (py x) (py y)))
def fNe (x : D) (y : D) (Q : D → Prop) : Prop := (py x).plain = true ∧ (py y).plain = true ∧ min (py x).depth (py y).depth ≤ 60 ∧ Q (.bl (!PyData.eqv (py x) (py y)))
def isNon : D → Bool
  | .non => true
  | _ => false
def fIsN (x : D) (y : D) (Q : D → Prop) : Prop := match y with
  | .non => Q (.bl (isNon x))
  | _ => False
def fIsNotN (x : D) (y : D) (Q : D → Prop) : Prop := match y with
  | .non => Q (.bl (!isNon x))
  | _ => False
def fIx (x : D) (y : D) (Q : D → Prop) : Prop := match x, y with
  | .nd .lst ds, .int k => (match geti ds k with | some d => Q d | none => False)
  | .nd .tup ds, .int k => (match geti ds k with | some d => Q d | none => False)
  | .nd .scr ds, .int k => (match geti ds k with | some d => Q d | none => False)
  | .str z, .int k => z.length ≤ sizeLine ∧ (match geti z.cps.toList k with | some c => Q (.str ⟨#[c]⟩) | none => False)
  | _, _ => False
def fAbs (xs : List D) (Q : D → Prop) : Prop := match xs with
  | [.int i] => Q (.int (if i < 0 then -i else i))
  | _ => False
def fMax2 (xs : List D) (Q : D → Prop) : Prop := match xs with
  | [.int i, .int j] => Q (.int (if j > i then j else i))
  | _ => False
def fMin2 (xs : List D) (Q : D → Prop) : Prop := match xs with
  | [.int i, .int j] => Q (.int (if j < i then j else i))
  | _ => False
def fInt (xs : List D) (Q : D → Prop) : Prop := match xs with
  | [.int i] => Q (.int i)
  | [.bl k] => Q (.int (if k then 1 else 0))
  | _ => False
def fLen (xs : List D) (Q : D → Prop) : Prop := match xs with
  | [.nd .lst ds] => Q (.int (ds.length : Nat))
  | [.nd .tup ds] => Q (.int (ds.length : Nat))
  | [.nd .scr ds] => Q (.int (ds.length : Nat))
  | [.str z] => z.length ≤ sizeLine ∧ Q (.int (z.length : Nat))
  | _ => False
def fSum (xs : List D) (Q : D → Prop) : Prop := match xs with
  | [.nd .lst ds] => ∃ ns : List Int, ds = ns.map D.int ∧ Q (.int ns.sum)
  | _ => False
/-- the name of a value's type -/
def tyN : D → String
  | .non => "NoneType"
  | .bl _ => "bool"
  | .int _ => "int"
  | .str _ => "str"
  | .glo _ => ""
  | .nd .tup _ => "tuple"
  | .nd .lst _ => "list"
  | .nd .scr _ => "list"
  | .nd (.dic _) _ => "dict"
  | .nd (.ins _ _) _ => ""
def fIsi (T : String) (x : D) (Q : D → Prop) : Prop := match kitB (tyN x) T, tyN x == "" with
  | some b, false => Q (.bl b)
  | _, _ => False

section
variable {X : Cx}
theorem opd_i {F : Value → Value → Sem Value} {Cn : Int → Int → Prop} {g : Int → Int → Int} (h : OpR X F (rI Cn fun i j => .int (g i j))) : OpD X F (fI Cn g) :=
  ⟨_, h, fun H0 H x y v u Q Qv s rx ry hf k => by
    unfold fI at hf
    split at hf
    · cases rx.int; cases ry.int
      exact ⟨_, _, rfl, rfl, hf.1, k _ _ hf.2 rep_int⟩
    · exact hf.elim⟩
theorem opd_i0 {F : Value → Value → Sem Value} {g : Int → Int → Int} (h : OpR X F (rI0 fun i j => .int (g i j))) : OpD X F (fI0 g) :=
  ⟨_, h, fun H0 H x y v u Q Qv s rx ry hf k => by
    unfold fI0 at hf
    split at hf
    · cases rx.int; cases ry.int
      exact ⟨_, _, rfl, rfl, k _ _ hf rep_int⟩
    · exact hf.elim⟩
theorem opd_b {F : Value → Value → Sem Value} {g : Int → Int → Bool} (h : OpR X F (rI0 fun i j => .bl (g i j))) : OpD X F (fB g) :=
  ⟨_, h, fun H0 H x y v u Q Qv s rx ry hf k => by
    unfold fB at hf
    split at hf
    · cases rx.int; cases ry.int
      exact ⟨_, _, rfl, rfl, k _ _ hf rep_bl⟩
    · exact hf.elim⟩
def MulOk (i j : Int) : Prop := IntMulOk i j
theorem op_mulA : OpR X (binaryOp .Mult) (rI MulOk fun i j => .int (i * j)) := opI fun _ _ _ _ _ _ _ hc q => mul_int q hc
def DivOk (i j : Int) : Prop := j ≠ 0 ∧ j.natAbs.log2 < 9000
theorem op_fdivA : OpR X (binaryOp .FloorDiv) (rI DivOk fun i j => .int (i.fdiv j)) := opI fun i j _ _ _ _ _ hc q => floordiv_int hc.1 q (.inl (PyProof.noPylong_of_log2 hc.2))
def fAdd : F2 := fI0 fun i j => i + j
def fSub : F2 := fI0 fun i j => i - j
def fMul : F2 := fI MulOk fun i j => i * j
def fDiv : F2 := fI DivOk Int.fdiv
def fMod : F2 := fI (fun _ j => j ≠ 0) Int.fmod
def fPow : F2 := fI CPow fun i j => i ^ j.toNat
def fLt : F2 := fB fun i j => decide (i < j)
def fLe : F2 := fB fun i j => decide (i ≤ j)
def fGt : F2 := fB fun i j => decide (j < i)
def fGe : F2 := fB fun i j => decide (j ≤ i)
def fNeg : F1 := fU fun i => -i
theorem o_add : OpD X (binaryOp .Add) fAdd := opd_i0 op_add
theorem o_sub : OpD X (binaryOp .Sub) fSub := opd_i0 op_sub
theorem o_mul : OpD X (binaryOp .Mult) fMul := opd_i op_mulA
theorem o_div : OpD X (binaryOp .FloorDiv) fDiv := opd_i op_fdivA
theorem o_mod : OpD X (binaryOp .Mod) fMod := opd_i op_modN
theorem o_pow : OpD X (binaryOp .Pow) fPow := opd_i op_pow
theorem o_lt : OpD X (compareOp .Lt) fLt := opd_b op_lt
theorem o_le : OpD X (compareOp .LtE) fLe := opd_b op_le
theorem o_gt : OpD X (compareOp .Gt) fGt := opd_b op_gt
theorem o_ge : OpD X (compareOp .GtE) fGe := opd_b op_ge
theorem o_neg : UnD X (unaryOp .USub) fNeg := ⟨_, un_neg, fun H0 H x v Q Qv s rx hf k => by
    unfold fNeg fU at hf
    split at hf
    · cases rx.int
      exact ⟨_, rfl, k _ _ hf rep_int⟩
    · exact hf.elim⟩
mutual
theorem Rep.dp {K : PySem.W.Frag} {mg : Str → Option Value} {H0 H : Hp} (s : Same H0 H) : ∀ (d : D) (v : V), (py d).plain = true → Rep K mg H0 d v → Dp K H v (py d)
  | .non, v, _, h => by cases h.non; exact Dp.non
  | .bl b, v, _, h => by cases h.bl; exact Dp.bl b
  | .int b, v, _, h => by cases h.int; exact Dp.int b
  | .str b, v, _, h => by cases h.str; exact Dp.str b
  | .glo _, _, p, _ => by simp [py, PyData.plain] at p
  | .nd (.dic _) _, _, p, _ => by simp [py, PyData.plain] at p
  | .nd (.ins _ _) _, _, p, _ => by simp [py, PyData.plain] at p
  | .nd .tup ds, v, p, h => by
    obtain ⟨a, vs, rfl, h2, h3⟩ := h.nd
    rw [py]
    exact Dp.tup (SqT.mono s h2) (RepL.dp s ds vs (by rw [py, PyData.plain] at p; exact p) h3)
  | .nd .lst ds, v, p, h => by
    obtain ⟨a, vs, rfl, h2, h3⟩ := h.nd
    rw [py]
    exact Dp.lst (s.seq (SqL.of h2)) (RepL.dp s ds vs (by rw [py, PyData.plain] at p; exact p) h3)
  | .nd .scr ds, v, p, h => by
    obtain ⟨a, vs, rfl, h2, h3⟩ := h.nd
    rw [py]
    exact Dp.lst (s.seq h2) (RepL.dp s ds vs (by rw [py, PyData.plain] at p; exact p) h3)
theorem RepL.dp {K : PySem.W.Frag} {mg : Str → Option Value} {H0 H : Hp} (s : Same H0 H) : ∀ (ds : List D) (vs : List V), PyData.plainAll (pyL ds) = true → RepL K mg H0 ds vs → DpAll K H vs (pyL ds)
  | [], vs, _, h => by cases h.nil; rw [pyL]; exact DpAll.nil
  | d :: ds, vs, p, h => by
    obtain ⟨v, r, rfl, h2, h3⟩ := h.cons
    rw [pyL] at p ⊢
    rw [PyData.plainAll, Bool.and_eq_true] at p
    exact DpAll.cons (Rep.dp s d v p.1 h2) (RepL.dp s ds r p.2 h3)
end
def rEqP (K : PySem.W.Frag) : R2 := fun x y H Q => ∃ d e, Dp K H x d ∧ Dp K H y e ∧ d.plain = true ∧ e.plain = true ∧ min d.depth e.depth ≤ 60 ∧ Q (.bl (PyData.eqv d e)) H
def rNeP (K : PySem.W.Frag) : R2 := fun x y H Q => ∃ d e, Dp K H x d ∧ Dp K H y e ∧ d.plain = true ∧ e.plain = true ∧ min d.depth e.depth ≤ 60 ∧ Q (.bl (!PyData.eqv d e)) H
theorem op_eqP (hu : X.A.units + 64 < cLine) : OpR X (compareOp .Eq) (rEqP X.K) := by
  intro pins s σ H x y v u Q I rx ry h
  obtain ⟨d, e, hd, he, sd, se, hm, q⟩ := h
  obtain ⟨as, r1⟩ := Dp.reads I d x v hd rx
  obtain ⟨bs, r2⟩ := Dp.reads I e y u he ry
  exact PySem.SeqAt.eq_plain r1 r2 sd se (by omega) ⟨.bl _, H, I, rfl, q⟩
theorem op_neP (hu : X.A.units + 64 < cLine) : OpR X (compareOp .NotEq) (rNeP X.K) := by
  intro pins s σ H x y v u Q I rx ry h
  obtain ⟨d, e, hd, he, sd, se, hm, q⟩ := h
  obtain ⟨as, r1⟩ := Dp.reads I d x v hd rx
  obtain ⟨bs, r2⟩ := Dp.reads I e y u he ry
  exact PySem.SeqAt.ne_plain r1 r2 sd se (by omega) ⟨.bl _, H, I, rfl, q⟩
theorem o_eq {k : Nat} (hr : Room k X.A) : OpD X (compareOp .Eq) fEq := ⟨_, op_eqP hr.units, fun H0 H x y v u Q Qv s rx ry hf k =>
  ⟨_, _, Rep.dp s x v hf.1 rx, Rep.dp s y u hf.2.1 ry, hf.1, hf.2.1, hf.2.2.1, k _ _ hf.2.2.2 rep_bl⟩⟩
theorem o_ne {k : Nat} (hr : Room k X.A) : OpD X (compareOp .NotEq) fNe := ⟨_, op_neP hr.units, fun H0 H x y v u Q Qv s rx ry hf k =>
  ⟨_, _, Rep.dp s x v hf.1 rx, Rep.dp s y u hf.2.1 ry, hf.1, hf.2.1, hf.2.2.1, k _ _ hf.2.2.2 rep_bl⟩⟩
theorem Rep.isN {K : PySem.W.Frag} {mg : Str → Option Value} {H : Hp} {d : D} {v : V} (h : Rep K mg H d v) : decide (v = V.non) = isNon d := by
  cases d with
  | non => cases h.non; rfl
  | bl b => cases h.bl; rfl
  | int b => cases h.int; rfl
  | str b => cases h.str; rfl
  | glo x => unfold Rep at h; obtain ⟨a, _, rfl⟩ := h; rfl
  | nd t ds => obtain ⟨a, vs, rfl, _⟩ := h.nd; rfl
theorem o_isN : OpD X (compareOp .Is) fIsN := ⟨_, op_isN, fun H0 H x y v u Q Qv s rx ry hf k => by
  unfold fIsN at hf
  split at hf
  · cases ry.non
    exact ⟨rfl, k _ _ hf (by rw [← rx.isN]; exact rep_bl)⟩
  · exact hf.elim⟩
theorem o_isNotN : OpD X (compareOp .IsNot) fIsNotN := ⟨_, op_notN, fun H0 H x y v u Q Qv s rx ry hf k => by
  unfold fIsNotN at hf
  split at hf
  · cases ry.non
    exact ⟨rfl, k _ _ hf (by rw [← rx.isN]; exact rep_bl)⟩
  · exact hf.elim⟩
theorem atI_rep {K : PySem.W.Frag} {mg : Str → Option Value} {H : Hp} {ds : List D} {vs : List V} {k : Int} {d : D} (r : RepL K mg H ds vs) (e : geti ds k = some d) : ∃ w, atI vs k = some w ∧ Rep K mg H d w := by
  rw [← atI_geti] at e
  obtain ⟨j, hj, hd⟩ := Option.bind_eq_some_iff.mp e
  obtain ⟨w, hw, rw'⟩ := r.get hd
  refine ⟨w, ?_, rw'⟩
  unfold atI
  rw [r.length, hj]
  exact hw
theorem o_ix : IxD X fIx := ⟨_, ix_seq, fun H0 H x y v u Q Qv s rx ry hf k => by
  unfold fIx at hf
  split at hf
  · split at hf
    · rename_i e
      obtain ⟨a, vs, rfl, h2, h3⟩ := rx.nd
      cases ry.int
      obtain ⟨w, h4, h5⟩ := atI_rep h3 e
      exact .inl ⟨a, vs, _, w, rfl, rfl, s.seq (SqL.of h2), h4, k _ _ hf h5⟩
    · exact hf.elim
  · split at hf
    · rename_i e
      obtain ⟨a, vs, rfl, h2, h3⟩ := rx.nd
      cases ry.int
      obtain ⟨w, h4, h5⟩ := atI_rep h3 e
      exact .inr (.inl ⟨a, vs, _, w, rfl, rfl, SqT.mono s h2, h4, k _ _ hf h5⟩)
    · exact hf.elim
  · split at hf
    · rename_i e
      obtain ⟨a, vs, rfl, h2, h3⟩ := rx.nd
      cases ry.int
      obtain ⟨w, h4, h5⟩ := atI_rep h3 e
      exact .inl ⟨a, vs, _, w, rfl, rfl, s.seq h2, h4, k _ _ hf h5⟩
    · exact hf.elim
  · obtain ⟨hz, hf⟩ := hf
    split at hf
    · rename_i e
      cases rx.str
      cases ry.int
      exact .inr (.inr ⟨_, _, _, rfl, rfl, hz, by rw [atI_geti]; exact e, k _ _ hf rep_str⟩)
    · exact hf.elim
  · exact hf.elim⟩
theorem RepL.one {K : PySem.W.Frag} {mg : Str → Option Value} {H : Hp} {d : D} {vs : List V} (h : RepL K mg H [d] vs) : ∃ v, vs = [v] ∧ Rep K mg H d v := by
  obtain ⟨v, r, rfl, h2, h3⟩ := h.cons
  cases h3.nil
  exact ⟨v, rfl, h2⟩
theorem RepL.two {K : PySem.W.Frag} {mg : Str → Option Value} {H : Hp} {d e : D} {vs : List V} (h : RepL K mg H [d, e] vs) : ∃ v u, vs = [v, u] ∧ Rep K mg H d v ∧ Rep K mg H e u := by
  obtain ⟨v, r, rfl, h2, h3⟩ := h.cons
  obtain ⟨u, rfl, h4⟩ := h3.one
  exact ⟨v, u, rfl, h2, h4⟩
theorem c_abs : CallD X (.builtin "abs") fAbs := ⟨_, call_abs, fun H0 H xs vs Q Qv s r hf k => by
  unfold fAbs at hf
  split at hf
  · obtain ⟨v, rfl, h⟩ := r.one
    cases h.int
    exact ⟨_, rfl, k _ _ hf rep_int⟩
  · exact hf.elim⟩
theorem c_max2 (hc : X.calm = true) : CallD X (.builtin "max") fMax2 := ⟨_, call_max2 hc, fun H0 H xs vs Q Qv s r hf k => by
  unfold fMax2 at hf
  split at hf
  · obtain ⟨v, u, rfl, h, h'⟩ := r.two
    cases h.int; cases h'.int
    exact ⟨_, _, rfl, k _ _ hf rep_int⟩
  · exact hf.elim⟩
theorem c_min2 (hc : X.calm = true) : CallD X (.builtin "min") fMin2 := ⟨_, call_min2 hc, fun H0 H xs vs Q Qv s r hf k => by
  unfold fMin2 at hf
  split at hf
  · obtain ⟨v, u, rfl, h, h'⟩ := r.two
    cases h.int; cases h'.int
    exact ⟨_, _, rfl, k _ _ hf rep_int⟩
  · exact hf.elim⟩
theorem c_int : CallD X (.type "int") fInt := ⟨_, call_int1, fun H0 H xs vs Q Qv s r hf k => by
  unfold fInt at hf
  split at hf
  · obtain ⟨v, rfl, h⟩ := r.one
    cases h.int
    exact .inl ⟨_, rfl, k _ _ hf rep_int⟩
  · obtain ⟨v, rfl, h⟩ := r.one
    cases h.bl
    exact .inr ⟨_, rfl, k _ _ hf rep_int⟩
  · exact hf.elim⟩
theorem c_len : CallD X (.builtin "len") fLen := ⟨_, call_len, fun H0 H xs vs Q Qv s r hf k => by
  unfold fLen at hf
  split at hf
  · obtain ⟨v, rfl, h⟩ := r.one
    obtain ⟨a, vs, rfl, h2, h3⟩ := h.nd
    exact ⟨_, _, rfl, .inl ⟨vs, s.seq (SqL.of h2), rfl⟩, by rw [h3.length]; exact k _ _ hf rep_int⟩
  · obtain ⟨v, rfl, h⟩ := r.one
    obtain ⟨a, vs, rfl, h2, h3⟩ := h.nd
    exact ⟨_, _, rfl, .inr ⟨vs, SqT.mono s h2, rfl⟩, by rw [h3.length]; exact k _ _ hf rep_int⟩
  · obtain ⟨v, rfl, h⟩ := r.one
    obtain ⟨a, vs, rfl, h2, h3⟩ := h.nd
    exact ⟨_, _, rfl, .inl ⟨vs, s.seq h2, rfl⟩, by rw [h3.length]; exact k _ _ hf rep_int⟩
  · obtain ⟨v, rfl, h⟩ := r.one
    cases h.str
    exact ⟨_, _, rfl, ⟨hf.1, rfl⟩, k _ _ hf.2 rep_int⟩
  · exact hf.elim⟩
theorem RepL.ints {K : PySem.W.Frag} {mg : Str → Option Value} {H : Hp} : ∀ {ns : List Int} {vs : List V}, RepL K mg H (ns.map D.int) vs → vs = ns.map V.int
  | [], _, h => h.nil
  | n :: ns, _, h => by
    obtain ⟨v, r, rfl, h2, h3⟩ := RepL.cons (d := .int n) (ds := ns.map D.int) h
    cases h2.int
    rw [RepL.ints h3]
    rfl
theorem repL_ints {K : PySem.W.Frag} {mg : Str → Option Value} {H : Hp} : ∀ (ns : List Int), RepL K mg H (ns.map D.int) (ns.map V.int)
  | [] => repL_nil
  | n :: ns => repL_cons rep_int (repL_ints ns)
theorem c_sum (hc : X.calm = true) : CallD X (.builtin "sum") fSum := ⟨_, cr_sum hc, fun H0 H xs vs Q Qv s r hf k => by
  unfold fSum at hf
  split at hf
  · obtain ⟨ns, rfl, hf⟩ := hf
    obtain ⟨v, rfl, h⟩ := r.one
    obtain ⟨a, vs, rfl, h2, h3⟩ := h.nd
    cases h3.ints
    exact ⟨a, ns, rfl, s.seq (SqL.of h2), k _ _ hf rep_int⟩
  · exact hf.elim⟩
theorem Rep.ty {K : PySem.W.Frag} {mg : Str → Option Value} {H0 H : Hp} (s : Same H0 H) {d : D} {v : V} (h : Rep K mg H0 d v) (n : (tyN d == "") = false) : TyX K H v (.type (tyN d)) := by
  cases d with
  | non => cases h.non; exact .base .non
  | bl b => cases h.bl; exact .base (.bl b)
  | int b => cases h.int; exact .base (.int b)
  | str b => cases h.str; exact .base (.str b)
  | glo x => simp [tyN] at n
  | nd t ds =>
    obtain ⟨a, vs, rfl, h2, h3⟩ := h.nd
    cases t with
    | tup =>
      rcases h2 with (h2 | ⟨o, h2⟩) | ⟨o, its, k, h2, h4, _⟩
      · exact .base (.tup (s _ _ h2))
      · exact .fTuple (s _ _ h2)
      · exact .kTuple h2 h4
    | lst => exact .base (.lst (s _ _ h2))
    | scr =>
      rcases h2 with (h2 | ⟨o, h2⟩) | ⟨o, its, k, h2, h4, _⟩
      · exact .base (.lst (s _ _ h2))
      · exact .base (.frz (s _ _ h2))
      · exact .kList h2 h4
    | dic ks =>
      rcases h2.2 with h2 | ⟨o, h2⟩
      · exact .base (.dK (s _ _ h2))
      · exact .fDict (s _ _ h2)
    | ins c fs => simp [tyN] at n
theorem ped_isi {W : WX} {e t : Expr} {g : DE} {T : String} {p pos : Pos} (h : PED X W e g) (ht : PE X t (tC (.ty T))) (hg : Gl X "isinstance") (hm : X.mg "isinstance" = none)
    (he : starEach (e :: [t]) X.env = (false, eval e X.env) :: starEach [t] X.env := by rfl) (he2 : starEach (t :: []) X.env = (false, eval t X.env) :: starEach [] X.env := by rfl) (hpl : (backTo pos (starEach [t] X.env)).any (·.1) = false := by rfl) :
    PED X W (.Call (.Name "isinstance" p) [e, t] [] pos) (dUn (fIsi T) g) := by
  obtain ⟨ta, pa, qa⟩ := h.ex
  refine ⟨_, pe_callB call_isi hg hm PyProof.Rows.boot_isinstance (pa_cons pa (pa_cons ht pa_nil he2) he) (by decide) (by decide) he hpl, fun C H0 H σ st Ex Q Qv hI hX hQ hg => qa C H0 H σ st Ex _ _ hI hX (fun x st1 v H1 K1 q1 i1 s1 r1 => ?_) hg⟩
  unfold fIsi at q1
  split at q1
  · rename_i b hk hn
    exact ⟨v, _, _, _, b, rfl, .ty T, r1.ty i1.same hn, kit_ty hk, hQ _ st1 _ H1 K1 q1 i1 s1 rep_bl⟩
  · exact q1.elim
/-! slices -/
abbrev DP := DX → LS → (Option Int → LS → Prop) → Prop
def dNoP (_u0 : DX) (st : LS) (Q : Option Int → LS → Prop) : Prop := Q none st
def dSomeP (g : DE) (Ex : DX) (st : LS) (Q : Option Int → LS → Prop) : Prop := g Ex st fun d st1 => match d with
  | .int i => Q (some i) st1
  | _ => False
structure POD' (X : Cx) (W : WX) (e : Option Expr) (g : DP) : Prop where
  ex : ∃ t, PO X e t ∧ ∀ (C : Cfg) (H0 H : Hp) (σ : L2.St) (st : LS) (Ex : DX) (Q : Option Int → LS → Prop) (Qv : Option Int → Hp → Prop), I X.K X.mg C H0 H σ st → LkX X.K X.mg C H0 σ W Ex →
    (∀ d st' H0' H', Q d st' → I X.K X.mg C H0' H' σ st' → Same H0 H0' → Qv d H') → g Ex st Q → t σ H Qv
theorem pp_none {W : WX} : POD' X W none dNoP := ⟨_, po_none, fun C H0 H σ st Ex Q Qv hI hX hQ hg => hQ none st H0 H hg hI (Same.refl _)⟩
theorem pp_some {W : WX} {e : Expr} {g : DE} (h : PED X W e g) : POD' X W (some e) (dSomeP g) := by
  obtain ⟨ta, pa, qa⟩ := h.ex
  refine ⟨_, po_some pa, fun C H0 H σ st Ex Q Qv hI hX hQ hg => qa C H0 H σ st Ex _ _ hI hX (fun x st1 v H1 K1 q1 i1 s1 r1 => ?_) hg⟩
  cases x with
  | int i => exact ⟨i, r1.int, hQ _ st1 H1 K1 q1 i1 s1⟩
  | _ => exact q1.elim
def cutD (xs : List D) (lo hi : Option Int) : List D := (xs.drop (HT.sIx xs.length 0 lo)).take (HT.sIx xs.length xs.length hi - HT.sIx xs.length 0 lo)
theorem cut_rep {K : PySem.W.Frag} {mg : Str → Option Value} {H : Hp} {ds : List D} {vs : List V} (lo hi : Option Int) (r : RepL K mg H ds vs) : RepL K mg H (cutD ds lo hi) (cutV vs lo hi) := by
  unfold cutD cutV
  rw [r.length]
  exact (r.drop _).take _
/-- a slice of a list -/
def dSlL (g : DE) (gl gh : DP) (Ex : DX) (st : LS) (Q : S → LS → Prop) : Prop := g Ex st fun x st1 => gl Ex st1 fun lo st2 => gh Ex st2 fun hi st3 => match x with
  | .nd .lst ds => ∀ a, Q (.ow a true (.nd .lst (cutD ds lo hi))) st3
  | .nd .scr ds => ∀ a, Q (.ow a true (.nd .lst (cutD ds lo hi))) st3
  | _ => False
theorem pod_slL {W : WX} {e : Expr} {lo hi : Option Expr} {g : DE} {gl gh : DP} {p2 pos : Pos} (h : PED X W e g) (hl : POD' X W lo gl) (hh : POD' X W hi gh) : POD X W (.Subscript e (.Slice lo hi none p2) pos) (dSlL g gl gh) := by
  obtain ⟨ta, pa, qa⟩ := h.ex
  obtain ⟨tl, pl, ql⟩ := hl.ex
  obtain ⟨th, ph, qh⟩ := hh.ex
  refine ⟨_, pe_slice sl_list pa pl ph, fun C H0 H σ st Ex Q Qv hI hX hQ hg => qa C H0 H σ st Ex _ _ hI hX (fun x st1 v H1 K1 q1 i1 s1 r1 => ?_) hg⟩
  refine ql C H1 K1 σ st1 Ex _ _ i1 (hX.up s1) (fun lo st2 H2 K2 q2 i2 s2 => ?_) q1
  refine qh C H2 K2 σ st2 Ex _ _ i2 (hX.up (s1.trans s2)) (fun hi st3 H3 K3 q3 i3 s3 => ?_) q2
  split at q3
  · obtain ⟨a, vs, rfl, h2, h3⟩ := r1.nd
    refine ⟨a, vs, rfl, i3.same.seq (SqL.of (s3 _ _ (s2 _ _ h2))), fun p hp => ?_⟩
    obtain ⟨i4, r4⟩ := i3.made (o := .lst (cutV vs lo hi)) (t := .lst) hp upd_same (RepL.mono (s2.trans s3) _ _ (cut_rep lo hi h3))
    exact hQ _ st3 _ H3 _ (q3 p) i4 (s1.trans (s2.trans s3)) r4
  · obtain ⟨a, vs, rfl, h2, h3⟩ := r1.nd
    refine ⟨a, vs, rfl, i3.same.seq (s3.seq (s2.seq h2)), fun p hp => ?_⟩
    obtain ⟨i4, r4⟩ := i3.made (o := .lst (cutV vs lo hi)) (t := .lst) hp upd_same (RepL.mono (s2.trans s3) _ _ (cut_rep lo hi h3))
    exact hQ _ st3 _ H3 _ (q3 p) i4 (s1.trans (s2.trans s3)) r4
  · exact q3.elim
end
end PD

namespace PD
open PySem PySem.Spec PyProof.Rows L2
/-! ### fractions: the mathematics -/
def sg (d : Int) : Int := if 0 < d then 1 else -1
def gd (n d : Int) : Int := (Int.gcd n d : Int) * sg d
def rN (n d : Int) : Int := n.fdiv (gd n d)
def rD (n d : Int) : Int := d.fdiv (gd n d)
theorem gcd_pos {n d : Int} (h : d ≠ 0) : 0 < Int.gcd n d := Int.gcd_pos_of_ne_zero_right n h
theorem sg_cases (d : Int) : sg d = 1 ∨ sg d = -1 := by unfold sg; split <;> simp
theorem gd_ne {n d : Int} (h : d ≠ 0) : gd n d ≠ 0 := by
  have := gcd_pos (n := n) h
  unfold gd
  rcases sg_cases d with e | e <;> rw [e] <;> omega
theorem gd_dvd_left (n d : Int) : gd n d ∣ n := by
  unfold gd
  rcases sg_cases d with e | e <;> rw [e]
  · rw [Int.mul_one]; exact Int.gcd_dvd_left n d
  · rw [Int.mul_neg, Int.mul_one]; exact Int.neg_dvd.mpr (Int.gcd_dvd_left n d)
theorem gd_dvd_right (n d : Int) : gd n d ∣ d := by
  unfold gd
  rcases sg_cases d with e | e <;> rw [e]
  · rw [Int.mul_one]; exact Int.gcd_dvd_right n d
  · rw [Int.mul_neg, Int.mul_one]; exact Int.neg_dvd.mpr (Int.gcd_dvd_right n d)
theorem fdiv_mul {a b : Int} (h : b ∣ a) : a.fdiv b * b = a := by
  rw [Int.fdiv_eq_ediv_of_dvd h]
  exact Int.ediv_mul_cancel h
theorem rN_mul (n d : Int) : rN n d * gd n d = n := fdiv_mul (gd_dvd_left n d)
theorem rD_mul (n d : Int) : rD n d * gd n d = d := fdiv_mul (gd_dvd_right n d)
theorem gd_pos_iff {n d : Int} (h : d ≠ 0) : (0 < gd n d ↔ 0 < d) := by
  have hg := gcd_pos (n := n) h
  unfold gd sg
  split
  · constructor
    · intro _; assumption
    · intro _; omega
  · constructor
    · intro q; omega
    · intro q; contradiction
theorem rD_pos {n d : Int} (h : d ≠ 0) : 0 < rD n d := by
  have e := rD_mul n d
  have hp := gd_pos_iff (n := n) h
  by_cases hd : 0 < d
  · have hg := hp.mpr hd
    by_cases h0 : 0 < rD n d
    · exact h0
    · exfalso
      have h1 : rD n d ≤ 0 := by omega
      have h2 : rD n d * gd n d ≤ 0 := Int.mul_nonpos_of_nonpos_of_nonneg h1 (by omega)
      omega
  · have hg : gd n d < 0 := by
      have := gd_ne (n := n) h
      by_cases q : 0 < gd n d
      · exact absurd (hp.mp q) hd
      · omega
    by_cases h0 : 0 < rD n d
    · exact h0
    · exfalso
      have h1 : rD n d ≤ 0 := by omega
      have h2 : 0 ≤ rD n d * gd n d := Int.mul_nonneg_of_nonpos_of_nonpos h1 (by omega)
      omega
theorem gd_abs (n d : Int) : (gd n d).natAbs = Int.gcd n d := by
  unfold gd
  rcases sg_cases d with e | e <;> rw [e, Int.natAbs_mul] <;> simp
theorem red_gcd {n d : Int} (h : d ≠ 0) : Int.gcd (rN n d) (rD n d) = 1 := by
  have e1 := rN_mul n d
  have e2 := rD_mul n d
  have k : Int.gcd (rN n d * gd n d) (rD n d * gd n d) = Int.gcd (rN n d) (rD n d) * (gd n d).natAbs := Int.gcd_mul_right ..
  rw [e1, e2, gd_abs] at k
  have hg := gcd_pos (n := n) h
  have k2 : 1 * Int.gcd n d = Int.gcd (rN n d) (rD n d) * Int.gcd n d := by rw [Nat.one_mul]; exact k
  exact (Nat.eq_of_mul_eq_mul_right hg k2).symm
theorem rN_abs {n d : Int} (h : d ≠ 0) : (rN n d).natAbs ≤ n.natAbs := by
  have e := congrArg Int.natAbs (rN_mul n d)
  rw [Int.natAbs_mul, gd_abs] at e
  have hg := gcd_pos (n := n) h
  rw [← e]
  exact Nat.le_mul_of_pos_right _ hg
theorem rD_abs {n d : Int} (h : d ≠ 0) : (rD n d).natAbs ≤ d.natAbs := by
  have e := congrArg Int.natAbs (rD_mul n d)
  rw [Int.natAbs_mul, gd_abs] at e
  have hg := gcd_pos (n := n) h
  rw [← e]
  exact Nat.le_mul_of_pos_right _ hg
theorem red_cross (n d : Int) : rN n d * d = n * rD n d := by
  have e1 := rN_mul n d
  have e2 := rD_mul n d
  calc rN n d * d = rN n d * (rD n d * gd n d) := by rw [e2]
    _ = rN n d * gd n d * rD n d := by rw [Int.mul_assoc, Int.mul_comm (rD n d)]
    _ = n * rD n d := by rw [e1]
theorem red_unique {a b c d : Int} (hb : 0 < b) (hd : 0 < d) (h1 : Int.gcd a b = 1) (h2 : Int.gcd c d = 1) (e : a * d = c * b) : a = c ∧ b = d := by
  have k1 : b ∣ a * d := ⟨c, by rw [e, Int.mul_comm]⟩
  have k2 : d ∣ c * b := ⟨a, by rw [← e, Int.mul_comm]⟩
  have n1 : b.natAbs ∣ a.natAbs * d.natAbs := by rw [← Int.natAbs_mul]; exact Int.natAbs_dvd_natAbs.mpr k1
  have n2 : d.natAbs ∣ c.natAbs * b.natAbs := by rw [← Int.natAbs_mul]; exact Int.natAbs_dvd_natAbs.mpr k2
  have c1 : Nat.Coprime b.natAbs a.natAbs := by
    rw [Nat.coprime_comm]; exact h1
  have c2 : Nat.Coprime d.natAbs c.natAbs := by
    rw [Nat.coprime_comm]; exact h2
  have d1 : b.natAbs ∣ d.natAbs := c1.dvd_of_dvd_mul_left n1
  have d2 : d.natAbs ∣ b.natAbs := c2.dvd_of_dvd_mul_left n2
  have e3 : b.natAbs = d.natAbs := Nat.dvd_antisymm d1 d2
  have e4 : b = d := by omega
  refine ⟨?_, e4⟩
  subst e4
  exact Int.eq_of_mul_eq_mul_right (by omega) e
/-- the same value, the same reduced form -/
theorem red_eq {n d n' d' : Int} (h : d ≠ 0) (h' : d' ≠ 0) (e : n * d' = n' * d) : rN n d = rN n' d' ∧ rD n d = rD n' d' := by
  refine red_unique (rD_pos h) (rD_pos h') (red_gcd h) (red_gcd h') ?_
  -- rN n d * rD n' d' = rN n' d' * rD n d ; multiply by gd * gd'
  have g1 := gd_ne (n := n) h
  have g2 := gd_ne (n := n') h'
  have e1 := rN_mul n d
  have e2 := rD_mul n d
  have e3 := rN_mul n' d'
  have e4 := rD_mul n' d'
  have k : rN n d * rD n' d' * (gd n d * gd n' d') = rN n' d' * rD n d * (gd n d * gd n' d') := by
    have l : rN n d * rD n' d' * (gd n d * gd n' d') = (rN n d * gd n d) * (rD n' d' * gd n' d') := by
      simp only [Int.mul_assoc, Int.mul_comm, Int.mul_left_comm]
    have r : rN n' d' * rD n d * (gd n d * gd n' d') = (rN n' d' * gd n' d') * (rD n d * gd n d) := by
      simp only [Int.mul_assoc, Int.mul_comm, Int.mul_left_comm]
    rw [l, r, e1, e2, e3, e4, e]
  exact Int.eq_of_mul_eq_mul_right (Int.mul_ne_zero g1 g2) k
theorem red_self {a b : Int} (hb : 0 < b) (h : Int.gcd a b = 1) : rN a b = a ∧ rD a b = b := by
  refine red_unique (rD_pos (by omega)) hb (red_gcd (by omega)) h (red_cross a b)
/-! gcd by steps -/
theorem gcd_emod (a b : Int) : Int.gcd b (a % b) = Int.gcd a b := by
  rw [Int.gcd_comm b, Int.emod_def, Int.gcd_comm a]
  have : Int.gcd (a - b * (a / b)) b = Int.gcd a b := by
    rw [Int.gcd_sub_mul_left_left]
  rw [this, Int.gcd_comm]
theorem gcd_fmod (a b : Int) : Int.gcd b (a.fmod b) = Int.gcd a b := by
  rw [Int.gcd_comm b, Int.fmod_def, Int.gcd_sub_mul_left_left]
theorem fmod_lt_abs (a : Int) {b : Int} (h : b ≠ 0) : (a.fmod b).natAbs < b.natAbs := by
  have h1 := Int.emod_nonneg a h
  have h2 := Int.emod_lt a h
  rw [Int.fmod_eq_emod]
  split
  · omega
  · rename_i q
    have hb : ¬ 0 ≤ b := fun z => q (.inl z)
    have hd : a % b ≠ 0 := fun z => q (.inr (Int.dvd_of_emod_eq_zero z))
    omega
end PD

namespace PD
open PySem PySem.Spec PyProof.Rows L2
/-! ### sizes -/
def Bz (b : Nat) (x : Int) : Prop := x.natAbs < 2 ^ b
theorem Bz.mono {a b : Nat} {x : Int} (h : Bz a x) (l : a ≤ b) : Bz b x := Nat.lt_of_lt_of_le h (Nat.pow_le_pow_right (by decide) l)
theorem Bz.mul {a b : Nat} {x y : Int} (h : Bz a x) (k : Bz b y) : Bz (a + b) (x * y) := wide_lt h k
theorem Bz.add {a b c : Nat} {x y : Int} (h : Bz a x) (k : Bz b y) (ha : a < c) (hb : b < c) : Bz c (x + y) := by
  have h' : Bz (c - 1) x := h.mono (by omega)
  have k' : Bz (c - 1) y := k.mono (by omega)
  unfold Bz at *
  have e : 2 ^ c = 2 ^ (c - 1) + 2 ^ (c - 1) := by
    obtain ⟨m, rfl⟩ : ∃ m, c = m + 1 := ⟨c - 1, by omega⟩
    rw [Nat.add_sub_cancel, Nat.pow_succ]; omega
  omega
theorem Bz.neg {a : Nat} {x : Int} (h : Bz a x) : Bz a (-x) := by unfold Bz at *; omega
theorem Bz.sub {a b c : Nat} {x y : Int} (h : Bz a x) (k : Bz b y) (ha : a < c) (hb : b < c) : Bz c (x - y) := by
  rw [Int.sub_eq_add_neg]; exact h.add k.neg ha hb
theorem mulOk {a b : Nat} {x y : Int} (h : Bz a x) (k : Bz b y) (l : a + b ≤ 900000 := by decide) : MulOk x y :=
  (wide_mul (h.mono (Nat.le_succ a)) (k.mono (Nat.le_succ b)) (Nat.succ_pos _) (Nat.succ_pos _) (by omega)).ok
theorem mulSmallL {x y : Int} (h1 : -(2 ^ 64) < x) (h2 : x < 2 ^ 64) : MulOk x y := IntMulOk.of_left (intBits_le_64 h1 h2)
theorem mulSmallR {x y : Int} (h1 : -(2 ^ 64) < y) (h2 : y < 2 ^ 64) : MulOk x y := IntMulOk.of_right (intBits_le_64 h1 h2)
theorem divOk {b : Nat} {x y : Int} (h : y ≠ 0) (k : Bz b y) (l : b < 9000 := by decide) : DivOk x y :=
  ⟨h, Nat.lt_of_lt_of_le (PySem.Flt.log2_lt_of (Nat.succ_pos _) (k.mono (Nat.le_succ b))) (by omega)⟩
/-! ### fractions as data -/
abbrev fr (n d : Int) : D := .nd .tup [.int n, .int d]
abbrev rd (n d : Int) : D := fr (rN n d) (rD n d)
def num : D → Int
  | .nd .tup [.int n, .int _] => n
  | _ => 0
def den : D → Int
  | .nd .tup [.int _, .int d] => d
  | _ => 0
structure FrD (b : Nat) (x : D) : Prop where
  eq : x = fr (num x) (den x)
  pos : 0 < den x
  cop : Int.gcd (num x) (den x) = 1
  bn : Bz b (num x)
  bd : Bz b (den x)
theorem num_fr (n d : Int) : num (fr n d) = n := rfl
theorem den_fr (n d : Int) : den (fr n d) = d := rfl
theorem FrD.mk' {b : Nat} {n d : Int} (h1 : 0 < d) (h2 : Int.gcd n d = 1) (h3 : Bz b n) (h4 : Bz b d) : FrD b (fr n d) := ⟨rfl, h1, h2, h3, h4⟩
theorem FrD.mono {a b : Nat} {x : D} (h : FrD a x) (l : a ≤ b) : FrD b x := ⟨h.eq, h.pos, h.cop, h.bn.mono l, h.bd.mono l⟩
theorem FrD.rd {b : Nat} {n d : Int} (h : d ≠ 0) (h3 : Bz b n) (h4 : Bz b d) : FrD b (rd n d) :=
  ⟨rfl, rD_pos h, red_gcd h, Nat.lt_of_le_of_lt (rN_abs h) h3, Nat.lt_of_le_of_lt (rD_abs h) h4⟩
theorem FrD.ext {a b : Nat} {x y : D} (h : FrD a x) (k : FrD b y) (e : num x * den y = num y * den x) : x = y := by
  obtain ⟨e1, e2⟩ := red_unique h.pos k.pos h.cop k.cop e
  rw [h.eq, k.eq, e1, e2]
def addD (x y : D) : D := rd (num x * den y + num y * den x) (den x * den y)
def negD (x : D) : D := fr (-num x) (den x)
def mulD (x y : D) : D := rd (num x * num y) (den x * den y)
def divD (x y : D) : D := rd (num x * den y) (den x * num y)
def lessD (x y : D) : Bool := decide (num x * den y < num y * den x)
def eqF (x y : D) : Bool := num x == num y && den x == den y
theorem FrD.ne {b : Nat} {x : D} (h : FrD b x) : den x ≠ 0 := Int.ne_of_gt h.pos
theorem FrD.add {a b : Nat} {x y : D} (h : FrD a x) (k : FrD b y) : FrD (a + b + 1) (addD x y) :=
  .rd (Int.mul_ne_zero h.ne k.ne) ((h.bn.mul k.bd).add (k.bn.mul h.bd) (by omega) (by omega)) ((h.bd.mul k.bd).mono (by omega))
theorem FrD.mul {a b : Nat} {x y : D} (h : FrD a x) (k : FrD b y) : FrD (a + b) (mulD x y) :=
  .rd (Int.mul_ne_zero h.ne k.ne) (h.bn.mul k.bn) (h.bd.mul k.bd)
theorem FrD.neg {a : Nat} {x : D} (h : FrD a x) : FrD a (negD x) := ⟨rfl, h.pos, by show Int.gcd (-num x) (den x) = 1; rw [Int.neg_gcd]; exact h.cop, h.bn.neg, h.bd⟩
theorem FrD.div {a b : Nat} {x y : D} (h : FrD a x) (k : FrD b y) (z : num y ≠ 0) : FrD (a + b) (divD x y) :=
  .rd (Int.mul_ne_zero h.ne z) (h.bn.mul k.bd) (h.bd.mul k.bn)
theorem num_rd_cross (n d : Int) : num (rd n d) * d = n * den (rd n d) := red_cross n d
theorem eqF_iff {a b : Nat} {x y : D} (h : FrD a x) (k : FrD b y) : eqF x y = true ↔ x = y := by
  constructor
  · intro e
    unfold eqF at e
    simp only [Bool.and_eq_true, beq_iff_eq] at e
    rw [h.eq, k.eq, e.1, e.2]
  · rintro rfl
    unfold eqF; simp
theorem py_fr (n d : Int) : py (fr n d) = .tuple [.int n, .int d] := by simp [py, pyL]
theorem plain_fr {b : Nat} {x : D} (h : FrD b x) : (py x).plain = true := by rw [h.eq, py_fr]; simp [PyData.plain, PyData.plainAll]
theorem depth_fr {b : Nat} {x : D} (h : FrD b x) : (py x).depth ≤ 2 := by rw [h.eq, py_fr]; simp [PyData.depth, PyData.depthAll]
theorem eqv_fr {a b : Nat} {x y : D} (h : FrD a x) (k : FrD b y) : PyData.eqv (py x) (py y) = eqF x y := by
  rw [h.eq, k.eq, py_fr, py_fr]; simp [PyData.eqv, PyData.eqvAll, eqF, num, den]
theorem fEq_fr {a b : Nat} {x y : D} {Q : D → Prop} (h : FrD a x) (k : FrD b y) (q : Q (.bl (eqF x y))) : fEq x y Q :=
  ⟨plain_fr h, plain_fr k, by have := depth_fr h; omega, by rw [eqv_fr h k]; exact q⟩
theorem fNe_fr {a b : Nat} {x y : D} {Q : D → Prop} (h : FrD a x) (k : FrD b y) (q : Q (.bl (!eqF x y))) : fNe x y Q :=
  ⟨plain_fr h, plain_fr k, by have := depth_fr h; omega, by rw [eqv_fr h k]; exact q⟩
theorem fEq_int {x y : Int} {Q : D → Prop} (q : Q (.bl (x == y))) : fEq (.int x) (.int y) Q := by
  refine ⟨by simp [py, PyData.plain], by simp [py, PyData.plain], by simp [py, PyData.depth], ?_⟩
  rw [py, py, PyData.eqv]; exact q
theorem fNe_int {x y : Int} {Q : D → Prop} (q : Q (.bl (!(x == y)))) : fNe (.int x) (.int y) Q := by
  refine ⟨by simp [py, PyData.plain], by simp [py, PyData.plain], by simp [py, PyData.depth], ?_⟩
  rw [py, py, PyData.eqv]; exact q
/-! laws of arithmetic -/
theorem cross_cancel {a b c d e f : Int} (hf : f ≠ 0) (h1 : a * f = e * b) (h2 : c * f = e * d) (hb : b ≠ 0) (hd : d ≠ 0) : a * d = c * b := by
  -- a/b = e/f = c/d
  have k : a * d * f = c * b * f := by
    calc a * d * f = (a * f) * d := by simp only [Int.mul_assoc, Int.mul_comm d]
      _ = e * b * d := by rw [h1]
      _ = (e * d) * b := by simp only [Int.mul_assoc, Int.mul_comm b]
      _ = c * f * b := by rw [h2]
      _ = c * b * f := by simp only [Int.mul_assoc, Int.mul_comm b]
  exact Int.eq_of_mul_eq_mul_right hf k
theorem rd_ext {n d n' d' : Int} (h : d ≠ 0) (h' : d' ≠ 0) (e : n * d' = n' * d) : rd n d = rd n' d' := by
  obtain ⟨e1, e2⟩ := red_eq h h' e
  show fr _ _ = fr _ _
  rw [e1, e2]
theorem rd_fr {b : Nat} {x : D} (h : FrD b x) : rd (num x) (den x) = x := by
  obtain ⟨e1, e2⟩ := red_self h.pos h.cop
  show fr _ _ = x
  rw [e1, e2]; exact h.eq.symm
/-- a reduced part in a sum, a product -/
theorem add_rd_left {n d : Int} {y : D} {b : Nat} (h : d ≠ 0) (k : FrD b y) : addD (rd n d) y = rd (n * den y + num y * d) (d * den y) := by
  have hd : rD n d ≠ 0 := Int.ne_of_gt (rD_pos h)
  refine rd_ext (Int.mul_ne_zero hd k.ne) (Int.mul_ne_zero h k.ne) ?_
  show (rN n d * den y + num y * rD n d) * (d * den y) = (n * den y + num y * d) * (rD n d * den y)
  have e := red_cross n d
  simp only [Int.add_mul]
  congr 1
  · calc rN n d * den y * (d * den y) = (rN n d * d) * (den y * den y) := by simp only [Int.mul_assoc, Int.mul_comm, Int.mul_left_comm]
      _ = (n * rD n d) * (den y * den y) := by rw [e]
      _ = n * den y * (rD n d * den y) := by simp only [Int.mul_assoc, Int.mul_comm, Int.mul_left_comm]
  · simp only [Int.mul_assoc, Int.mul_comm, Int.mul_left_comm]
theorem addD_comm (x y : D) : addD x y = addD y x := by
  unfold addD
  rw [Int.add_comm, Int.mul_comm (den x)]
theorem mulD_comm (x y : D) : mulD x y = mulD y x := by
  unfold mulD
  rw [Int.mul_comm (num x), Int.mul_comm (den x)]
theorem add_rd_right {n d : Int} {y : D} {b : Nat} (h : d ≠ 0) (k : FrD b y) : addD y (rd n d) = rd (num y * d + n * den y) (den y * d) := by
  rw [addD_comm, add_rd_left h k, Int.add_comm, Int.mul_comm d]
theorem mul_rd_left {n d : Int} {y : D} {b : Nat} (h : d ≠ 0) (k : FrD b y) : mulD (rd n d) y = rd (n * num y) (d * den y) := by
  have hd : rD n d ≠ 0 := Int.ne_of_gt (rD_pos h)
  refine rd_ext (Int.mul_ne_zero hd k.ne) (Int.mul_ne_zero h k.ne) ?_
  show (rN n d * num y) * (d * den y) = (n * num y) * (rD n d * den y)
  have e := red_cross n d
  calc rN n d * num y * (d * den y) = (rN n d * d) * (num y * den y) := by simp only [Int.mul_assoc, Int.mul_comm, Int.mul_left_comm]
    _ = (n * rD n d) * (num y * den y) := by rw [e]
    _ = n * num y * (rD n d * den y) := by simp only [Int.mul_assoc, Int.mul_comm, Int.mul_left_comm]
theorem mul_rd_right {n d : Int} {y : D} {b : Nat} (h : d ≠ 0) (k : FrD b y) : mulD y (rd n d) = rd (num y * n) (den y * d) := by
  rw [mulD_comm, mul_rd_left h k, Int.mul_comm n, Int.mul_comm d]
theorem addD_assoc {a b c : Nat} {x y z : D} (hx : FrD a x) (hy : FrD b y) (hz : FrD c z) : addD (addD x y) z = addD x (addD y z) := by
  have n1 := Int.mul_ne_zero hx.ne hy.ne
  have n2 := Int.mul_ne_zero hy.ne hz.ne
  unfold addD
  rw [show rd (num x * den y + num y * den x) (den x * den y) = rd (num x * den y + num y * den x) (den x * den y) from rfl]
  show addD (rd (num x * den y + num y * den x) (den x * den y)) z = addD x (rd (num y * den z + num z * den y) (den y * den z))
  rw [add_rd_left n1 hz, add_rd_right n2 hx]
  refine rd_ext (Int.mul_ne_zero n1 hz.ne) (Int.mul_ne_zero hx.ne n2) ?_
  simp only [Int.add_mul, Int.mul_add, Int.mul_assoc, Int.mul_comm, Int.mul_left_comm, Int.add_assoc]
theorem mulD_distrib {a b c : Nat} {x y z : D} (hx : FrD a x) (hy : FrD b y) (hz : FrD c z) : mulD x (addD y z) = addD (mulD x y) (mulD x z) := by
  have n1 := Int.mul_ne_zero hx.ne hy.ne
  have n2 := Int.mul_ne_zero hy.ne hz.ne
  have n3 := Int.mul_ne_zero hx.ne hz.ne
  have k : FrD (a + c) (mulD x z) := hx.mul hz
  show mulD x (rd _ _) = addD (rd _ _) (mulD x z)
  rw [mul_rd_right n2 hx, add_rd_left n1 k]
  show _ = rd (num x * num y * den (rd _ _) + num (rd _ _) * (den x * den y)) (den x * den y * den (rd _ _))
  have e := red_cross (num x * num z) (den x * den z)
  have p := rD_pos (n := num x * num z) n3
  refine rd_ext (Int.mul_ne_zero hx.ne n2) (Int.mul_ne_zero n1 (Int.ne_of_gt p)) ?_
  show (num x * (num y * den z + num z * den y)) * (den x * den y * rD (num x * num z) (den x * den z)) = (num x * num y * rD (num x * num z) (den x * den z) + rN (num x * num z) (den x * den z) * (den x * den y)) * (den x * (den y * den z))
  generalize rD (num x * num z) (den x * den z) = r at *
  generalize rN (num x * num z) (den x * den z) = q at *
  have e' : q * (den x * den y) * (den x * (den y * den z)) = (num x * num z * r) * (den y * (den x * den y)) := by
    rw [← e]; simp only [Int.mul_assoc, Int.mul_comm, Int.mul_left_comm]
  rw [Int.add_mul, e']
  simp only [Int.add_mul, Int.mul_add, Int.mul_assoc, Int.mul_comm, Int.mul_left_comm]
theorem add_sub_self {a b : Nat} {x y : D} (hx : FrD a x) (hy : FrD b y) : addD (addD x y) (negD y) = x := by
  have n1 := Int.mul_ne_zero hx.ne hy.ne
  show addD (rd _ _) (negD y) = x
  rw [add_rd_left n1 hy.neg]
  refine Eq.trans ?_ (rd_fr hx)
  show rd ((num x * den y + num y * den x) * den y + -num y * (den x * den y)) (den x * den y * den y) = rd (num x) (den x)
  refine rd_ext (Int.mul_ne_zero n1 hy.ne) hx.ne ?_
  have : (num x * den y + num y * den x) * den y + -num y * (den x * den y) = num x * den y * den y := by
    rw [Int.add_mul, Int.neg_mul]
    have : num y * den x * den y = num y * (den x * den y) := Int.mul_assoc ..
    omega
  rw [this]
  simp only [Int.mul_assoc, Int.mul_comm, Int.mul_left_comm]
theorem mul_div_self {a b : Nat} {x y : D} (hx : FrD a x) (hy : FrD b y) (z : num y ≠ 0) : divD (mulD x y) y = x := by
  have n1 := Int.mul_ne_zero hx.ne hy.ne
  have e := red_cross (num x * num y) (den x * den y)
  have p := rD_pos (n := num x * num y) n1
  have key : rd (rN (num x * num y) (den x * den y) * den y) (rD (num x * num y) (den x * den y) * num y) = rd (num x) (den x) := by
    refine rd_ext (Int.mul_ne_zero (Int.ne_of_gt p) z) hx.ne ?_
    generalize rD (num x * num y) (den x * den y) = r at *
    generalize rN (num x * num y) (den x * den y) = q at *
    calc q * den y * den x = q * (den x * den y) := by simp only [Int.mul_assoc, Int.mul_comm, Int.mul_left_comm]
      _ = num x * num y * r := e
      _ = num x * (r * num y) := by simp only [Int.mul_assoc, Int.mul_comm, Int.mul_left_comm]
  rw [rd_fr hx] at key
  exact key
end PD

/-! Own errors over ValueError whose __init__ says super().__init__(text); self.f = value. -/
namespace PD
open PySem PySem.Spec PySem.W PySem.Calls PyProof.Rows PySem.HandSPX L2
def erA (f : Str) (p1 p2 : Pos) : Arguments := { posonlyargs := [], args := [{ arg := "self", annotation := none, pos := p1 }, { arg := f, annotation := none, pos := p2 }], vararg := none, kwonlyargs := [], kw_defaults := [], kwarg := none, defaults := [] }
def erB (f m : Str) (j : Nat) (q0 q1 q2 q3 q4 q5 q6 q7 q8 q9 : Pos) : List Stmt :=
  [.Expr (.Call (.Attribute (.Call (.Name "super" q0) [] [] q1) "__init__" q2) [.Constant (.str m) j q3] [] q4) q5, .Assign [.Attribute (.Name "self" q6) f q7] (.Name f q8) q9]
def erS (f : Str) : Scope := { kind := .function, names := [(PySem.Str.ofString "self", .local), (f, .local), (PySem.Str.ofString "__class__", .free), (PySem.Str.ofString "super", .globalImplicit)], isGenerator := false, isCoroutine := false, more := [] }
/-- what the written part says of the class at C, its __init__ at fI, the cell at cc, the code at cda -/
structure ErrTxt (P : Program) (K : PySem.W.Frag) (mg : Str → Option Value) (x f : Str) (C fI cc cda : Addr) : Prop where
  gC : mg x = some (.ref C)
  noSup : mg "super" = none
  cls : ∃ nm q N bs bm sn sub ab col dd k0 k1 k2 k3 k5, K.lookup C = some (excClassObj nm q C N bs bm true sn sub ab col dd k0 k1 k2 k3 k5 "ValueError.__new__") ∧ refsVE bm = true
  sup : ks_superIn K C C "__init__" = some (some (.builtin "ValueError.__init__"))
  any : nsIn K cStatics "thirdparty.any" = some none
  mroC : mroIn K C (.ref C) = some true
  subB : subIn K (.ref C) (.type "ValueError") = some true
  sa : findIn K (.ref C) "__setattr__" = some (some (.builtin "object.__setattr__"))
  ga : findIn K (.ref C) "__getattribute__" = some (some (.builtin "BaseException.__getattribute__"))
  gg : findIn K (.ref C) "__getattr__" = some none
  noN : findIn K (.ref C) f = some none
  iC : findIn K (.ref C) "__init__" = some (some (.ref fI))
  tC : typeIn K (.ref fI) = some (.type "function")
  kC : keepIn K (.ref C) = true
  exC : subIn K (.ref C) (.type "BaseException") = some true
  tyC : typeIn K (.ref C) = some (.type "type")
  hdC : hasDictIn K C = true
  fn : ∃ (qu m : Str) (j : Nat) (oc : Value) (od : Option Addr) (doc pm : Value) (an : Option Addr) (ct : Value) (osl : Array (Option Value)) (p1 p2 q0 q1 q2 q3 q4 q5 q6 q7 q8 q9 : Pos),
    K.lookup fI = some ⟨oc, od, .func (ksFn "__init__" qu (erA f p1 p2) (erB f m j q0 q1 q2 q3 q4 q5 q6 q7 q8 q9) (erS f) .none .none doc pm an (.ref cda) ct cc), osl⟩ ∧ codeIn K (.ref cda) qu = true ∧ (q2.endLine == q4.line) = true
  code : ∃ (ccl : Value) (cdd : Option Addr) (vs : Array Value) (ccs : Array (Option Value)) (file : Str) (tf : Tok), K.lookup cda = some ⟨ccl, cdd, .fields vs, ccs⟩ ∧ vs[2]? = some (.str file tf) ∧ ((P.main.file : Str) == file) = true
  cell : ∃ (cl : Value) (cld : Option Addr) (csl : Array (Option Value)), K.lookup cc = some ⟨cl, cld, .cell (some (.ref C)), csl⟩
  top : (P.main.scope.names.lookup ("super" : Str)).isSome = false
/-- what is asked of the field's name -/
structure FldOk (f : Str) : Prop where
  bind : ∀ (s : Shared) (qu : Str) (p1 p2 : Pos) (body : List Stmt) (doc pm : Value) (an : Option Addr) (cdv ct : Value) (cc : Addr) (a v : Value),
    BindsTo s (ksFn "__init__" qu (erA f p1 p2) body (erS f) .none .none doc pm an cdv ct cc) ⟨[a, v], []⟩ [("self", a), (f, v)]
  loc : (erS f).names.lookup f = some .local
  cells : ∀ y ∈ (erS f).names, y.2 ≠ .cell
  sup : (erS f).names.lookup ("super" : Str) = some .globalImplicit
  cls : (erS f).names.lookup ("__class__" : Str) = some .free
  ns : f ≠ "self"
  nd : (f == ("__debug__" : Str)) = false
  sw1 : ∀ (qu : Str) (L fI : Addr) (cd : Value) (cc : Addr) (m : Str) (j : Nat) (q0 q1 q2 q3 q4 q5 : Pos),
    swapsWith (.Call (.Attribute (.Call (.Name "super" q0) [] [] q1) "__init__" q2) [.Constant (.str m) j q3] [] q4) none q5.line (ksEnv qu (erS f) L fI cd cc) = pure false
  sw2 : ∀ (qu : Str) (L fI : Addr) (cd : Value) (cc : Addr) (q6 q7 q8 q9 : Pos), swapsWith (.Name f q8) (some (.Attribute (.Name "self" q6) f q7)) q9.line (ksEnv qu (erS f) L fI cd cc) = pure false
theorem fld_value : FldOk "value" := ⟨fun _ _ _ _ _ _ _ _ _ _ _ _ _ => .of_eq rfl, rfl, by decide, rfl, rfl, by decide, by decide, fun _ _ _ _ _ _ _ _ _ _ _ _ _ => rfl, fun _ _ _ _ _ _ _ _ _ => rfl⟩
/-- what such an __init__ leaves of a fresh error at x -/
structure ErrEnd (h h' : Heap) (x C dx t1 : Addr) (f : Str) (v : Value) : Prop where
  keep : ∀ b o, b ≠ x → h.get? b = some o → h'.get? b = some o
  obj : h'.get? x = some { cls := .ref C, dict := some dx, data := .fields #[.ref t1, .none, .none, .none, .bool false, .none] }
  dbig : h.objs.size ≤ dx
  dne : dx ≠ x
  ns : h'.Ns1 dx (fun y => if y = f then some v else none)
section
variable {prog : Program} {w : World} {A : Around} {E : Value → Shared → Prop} {R : Result → Shared → Prop} {s : Shared} {K : PySem.W.Frag} {mg : Str → Option Value} {x f : Str} {C fI cc cda : Addr}
/-- ValueError.__init__ bound to x, called -/
theorem call_mw {h : Heap} {g : Array GenState} {d : Drawn} {t : Nat} {os : OsState} {nm q : Str} {C N : Addr} {bs bm : List Value} {hdct : Bool} {sn : List Str} {sub : List Value} {ab : Bool} {col : Option Bool} {dd : Option Addr} {k0 k1 k2 k3 k5 : Option Value}
    {B newId initId : String} {bmB : List Value} (FB : ExcBaseFacts B newId initId bmB) {u e t0 : Addr} {rest : List Value} {Q : Value → Shared → Prop}
    (hC : h.get? C = some (excClassObj nm q C N bs bm hdct sn sub ab col dd k0 k1 k2 k3 k5 newId)) (he : h.get? e = some (excO C t0)) (hu : h.get? u = some (kxs_mw initId e)) (hrest : rest.length ≤ sizeLine)
    (hq : ∀ h' t1, (∀ b o, b ≠ e → h.get? b = some o → h'.get? b = some o) → h'.get? e = some (excO C t1) → Q .none ⟨h', g, d, t, os⟩) :
    wpAny (model prog w) A (call (.ref u) rest) Q E ⟨h, g, d, t, os⟩ := by
  refine wpAny_call (codeAny_of_tree (show wpAny _ A.in1 (callAny (.ref u) ⟨rest, []⟩) _ _ _ from ?_))
  simp only [callAny]
  refine wpAny_bind (wpAny_load hu ?_)
  simp only [kxs_mw, show (Value.type "method-wrapper" == Value.type "method" || Value.type "method-wrapper" == Value.type "builtin_function_or_method" || Value.type "method-wrapper" == Value.type "method-wrapper") = true by decide, if_true]
  refine KFB.if_so (by decide) (wpAny_bind (check_bound_init FB.toExcCallFacts hC he rfl (wpAny_bind (wpAny_pure (wpAny_pure ⟨plainId_quiet FB.init.plain _, codeAny_builtin FB.initEntry ?_⟩)))))
  exact exc_init_tree (cls := .ref C) (t0 := t0) (dv := none) (c2 := .none) (c3 := .none) (b4 := .bool false) he hrest (fun h' a b _ => hq h' _ a b)

theorem sup_eval {q0 q1 q2 q3 q4 : Pos} {m : Str} {j : Nat} {env : Env} (hpos : methodCallPos true (.Call (.Name "super" q0) [] [] q1) env q2 q4 = pure q4) :
    eval (.Call (.Attribute (.Call (.Name "super" q0) [] [] q1) "__init__" q2) [.Constant (.str m) j q3] [] q4) env = (do
      let ov ← attributeBase (.Call (.Name "super" q0) [] [] q1) "__init__" env (eval (.Call (.Name "super" q0) [] [] q1) env)
      standAt q2.atName
      let (g, first) ← holding [ov] (getMethod ov "__init__" (do return (← importBound (.Call (.Name "super" q0) [] [] q1) env).getD true))
      callWith q4 g first (backTo q4 (starEach [.Constant (.str m) j q3] env)) []) := by
  rw [arm_eval_Call]
  unfold methodCall
  have hform : methodCallForm ([Expr.Constant (.str m) j q3].length + ([] : List Keyword).length) (backTo q4 (starEach [.Constant (.str m) j q3] env)) (backToKw q4 (keywordEach [] env)) = true := rfl
  rw [hform, hpos]
  simp only [pure_bind]
  rfl
theorem err_init (T : ErrTxt prog K mg x f C fI cc cda) (F : FldOk f) {a t0 : Addr} {v : Value} (X : K.In s.heap) (hlim : s.heap.NoLimit) (hG : s.heap.Ns mainGlobals mg)
    (hB : ∃ mb, s.heap.Ns builtinsNs mb ∧ ∀ x : Str, x ≠ "__name__" → mb x = bootBuiltins x) (hx : s.heap.get? a = some (excO C t0)) (hnx : K.lookup a = none) (hroom : A.depth < recursionLimit)
    (hq : ∀ h' tk dx t1, ErrEnd s.heap h' a C dx t1 f v → R (.ok (.ret .none)) { s with heap := h', toks := tk }) :
    codeAny (model prog w) A (.call (.ref fI) ⟨[.ref a, v], []⟩) R s := by
  obtain ⟨qu, m, j, oc, od, doc, pm, an, ct, osl, p1, p2, q0, q1, q2, q3, q4, q5, q6, q7, q8, q9, ho, hcd, hline⟩ := T.fn
  obtain ⟨nm, q, N, bs, bm, sn, sub, ab, col, dd, k0, k1, k2, k3, k5, hC, hbm⟩ := T.cls
  obtain ⟨ccl, cdd, vs, ccs, file, tf, hcode, hvs, hfile⟩ := T.code
  obtain ⟨cl, cld, csl, hcell⟩ := T.cell
  obtain ⟨mb, hB1, hB2⟩ := hB
  have hcl : clsIn K C = some { name := nm, bases := bs, mro := .ref C :: bm, ns := N, qualname := q, hasDict := true, slotNames := sn, subclasses := sub, abstract := ab, collection := col, hasDel := false } := by unfold clsIn; rw [hC] <;> rfl
  have hsup : alongIn K "__init__" ((((Value.ref C :: bm).dropWhile (· != .ref C)).drop 1)) = some (some (.builtin "ValueError.__init__")) := by
    have z := T.sup
    unfold ks_superIn at z
    rw [hcl] at z
    exact z
  refine ks_codeAny_call_defAt (fd := ksFn "__init__" qu (erA f p1 p2) (erB f m j q0 q1 q2 q3 q4 q5 q6 q7 q8 q9) (erS f) .none .none doc pm an (.ref cda) ct cc) (body := erB f m j q0 q1 q2 q3 q4 q5 q6 q7 q8 q9) (binds := [("self", .ref a), (f, v)])
    hroom (X _ _ ho) rfl hlim (codeRec_of X hcd) rfl (F.bind _ _ _ _ _ _ _ _ _ _ _ _ _) F.cells ?_ (fun h₁ hns k => ?_)
  · intro y hy
    simp only [List.mem_cons, List.not_mem_nil, or_false] at hy
    rcases hy with rfl | rfl
    · rfl
    · exact F.loc
  have X₁ : K.In h₁ := X.keeps k
  have hx₁ := k _ _ hx
  have hmS : (fun y => List.lookup y ([(("self" : Str), Value.ref a), (f, v)].reverse)) "self" = some (.ref a) := by
    have e : (("self" : Str) == f) = false := by
      have := F.ns
      simpa using fun z => this z.symm
    simp [List.lookup, e]
  have hmF : (fun y => List.lookup y ([(("self" : Str), Value.ref a), (f, v)].reverse)) f = some v := by
    simp [List.lookup]
  obtain ⟨hp, g, d, t, os⟩ := s
  dsimp only at X hlim hG hB1 hx hq hns k X₁ hx₁ ⊢
  -- super().__init__(m)
  show _root_.PySem.wpAt (model prog w) (A.deeper (ksEnv qu (erS f) hp.objs.size fI (.ref cda) cc)) (.func (erB f m j q0 q1 q2 q3 q4 q5 q6 q7 q8 q9) (ksEnv qu (erS f) hp.objs.size fI (.ref cda) cc)) (execs (erB f m j q0 q1 q2 q3 q4 q5 q6 q7 q8 q9) (ksEnv qu (erS f) hp.objs.size fI (.ref cda) cc)) _ _ _
  unfold erB
  have hpos : methodCallPos true (.Call (.Name "super" q0) [] [] q1) (ksEnv qu (erS f) hp.objs.size fI (.ref cda) cc) q2 q4 = pure q4 := by unfold methodCallPos; simp [hline]
  refine ks_wpAt_execs_cons (ks_wpAt_Expr_any (ks_wpAt_MethodCall (pl := do return (← importBound (.Call (.Name "super" q0) [] [] q1) (ksEnv qu (erS f) hp.objs.size fI (.ref cda) cc)).getD true) ?_ (sup_eval hpos)) rfl (F.sw1 _ _ _ _ _ _ _ _ _ _ _ _ _))
  refine ks_wpAt_super_base (ar := { arg := "self", annotation := none, pos := p1 }) (of := ⟨oc, od, _, osl⟩) (oc := ⟨ccl, cdd, .fields vs, ccs⟩) F.sup F.cls (by decide) rfl (X₁ _ _ ho) rfl rfl rfl (X₁ _ _ hcode) rfl hvs hfile T.top ?_
  refine ks_loadName_global rfl F.sup (loadGlobal_builtin (hG.keeps k) T.noSup (hB1.keeps k) ((hB2 _ (by decide)).trans (by first | rfl | kernel_rfl)) ⟨rfl, ?_⟩)
  refine wpAny_loadName_free rfl F.cls rfl ⟨_, X₁ _ _ hcell, rfl⟩ ?_
  refine wpAny_loadName_local rfl (by rfl) hns hmS ?_
  refine ks_wpAny_isType_cls (X₁ _ _ hC) rfl ⟨rfl, ?_⟩
  refine ks_wpAny_call_super (X₁ _ _ hC) rfl hx₁ rfl (fun c z => by cases z) (looks_mroIn X₁ T.mroC) (fun h₂ hso k₂ => ?_)
  have X₂ := X₁.keeps k₂
  have hx₂ := k₂ _ _ hx₁
  have aC : a ≠ C := fun z => by
    subst z
    rw [hnx] at hC
    cases hC
  have hI : Looks (model prog w) h₂ (isInstance (.ref a) (.type "ValueError")) true := Looks.andThen (InstAt.type (C := C) (ox := excO C t0) (od := none) ⟨hx₂, rfl, rfl, trivial⟩) (looks_subIn X₂ T.subB)
  refine kxs_getMethod kxs_ValueError hso (looks_opaque X₂ T.any) (l₀ := .ref C :: bm) (fun A Q E s k q => wpAny_bind ((looks_clsIn X₂ hcl) A _ E s k (wpAny_pure q))) rfl X₂ hsup hI aC (by decide) ?_
  refine kxs_callWith (i := "ValueError.__init__") (x := a) rfl (evalArgs_plain ?_)
  refine spliced_more (wpAny_Constant_str ?_)
  refine spliced_none ⟨Heap.get?_push_at rfl rfl, ?_⟩
  have k₃ : ∀ b o, h₂.get? b = some o → (h₂.push (kxs_mw "ValueError.__init__" a)).get? b = some o := fun b o e => Heap.get?_push_of_some _ e
  refine call_mw PySem.F.excBase_ValueError (X₂.keeps k₃ _ _ hC) (k₃ _ _ hx₂) (Heap.get?_push_at rfl rfl) (by show 1 ≤ sizeLine; rw [sizeLine_eq]; decide) (fun h₄ t1 k₄ hx₄ => ?_)
  -- self.f = f
  have k₅ : ∀ b o, b ≠ a → hp.get? b = some o → h₄.get? b = some o := fun b o n e => k₄ b o n (k₃ _ _ (k₂ _ _ (k _ _ e)))
  have X₄ : K.In h₄ := fun b o e => k₅ b o (fun z => by rw [z, hnx] at e; cases e) (X _ _ e)
  have hns₄ : h₄.Ns hp.objs.size (fun y => List.lookup y ([(("self" : Str), Value.ref a), (f, v)].reverse)) := hns.at fun o q => k₄ _ _ (fun z => by
    have e := Heap.lt_size hx
    rw [← z] at e
    exact absurd e (Nat.lt_irrefl _)) (k₃ _ _ (k₂ _ _ q))
  refine ks_wpAt_execs_cons (wpAt_of_wpAny (plainObj_wpAny_Assign_Attribute ?_ (F.sw2 _ _ _ _ _ _ _ _ _)))
  refine wpAny_Name (wpAny_loadName_local rfl F.loc hns₄ hmF ?_) F.nd
  refine wpAny_Name (wpAny_loadName_local rfl (by rfl) hns₄ hmS ?_) (by decide)
  refine set_plain X₄ (ox := excO C t1) (od := none) ⟨hx₄, rfl, rfl, trivial⟩ T.sa ?_
  refine exc_osa X₄ hx₄ hcl (show refsVE (.ref C :: bm) = true from hbm) rfl T.noN (fun h₅ tk₅ dx k₆ dn dne hx₅ hn₅ => ?_)
  refine wpAt_of_wpAny (wpAny_execs_nil (hq h₅ tk₅ dx t1 ⟨fun b o hb e => k₆ b o hb (k₅ b o hb e), hx₅, Nat.le_of_lt (Nat.lt_of_lt_of_le hns₄.lt dn), dne, hn₅⟩))
/-- a made error -/
structure ErrMade (h h' : Heap) (e C d : Addr) (f : Str) (v : Value) : Prop where
  keep : ∀ b o, h.get? b = some o → h'.get? b = some o
  new : h.objs.size ≤ e
  obj : ∃ oe vs, h'.get? e = some oe ∧ oe.cls = .ref C ∧ oe.dict = some d ∧ oe.data = .fields vs ∧ vs[1]? = some .none
  dbig : h.objs.size ≤ d
  dne : d ≠ e
  ns : h'.Ns1 d (fun y => if y = f then some v else none)
theorem err_made (T : ErrTxt prog K mg x f C fI cc cda) (F : FldOk f) {v : Value} (X : K.In s.heap) (hlim : s.heap.NoLimit) (hG : s.heap.Ns mainGlobals mg)
    (hB : ∃ mb, s.heap.Ns builtinsNs mb ∧ ∀ x : Str, x ≠ "__name__" → mb x = bootBuiltins x) (hroom : A.depth + 1 < recursionLimit)
    (hq : ∀ h' tk e d, ErrMade s.heap h' e C d f v → R (.ok (.ret (.ref e))) { s with heap := h', toks := tk }) :
    codeAny (model prog w) A (.call (.ref C) ⟨[v], []⟩) R s := by
  obtain ⟨nm, q, N, bs, bm, sn, sub, ab, col, dd, k0, k1, k2, k3, k5, hC, hbm⟩ := T.cls
  obtain ⟨mb, hB1, hB2⟩ := hB
  obtain ⟨hp, g, dr, tk, os⟩ := s
  have k : ∀ b o, hp.get? b = some o → ((hp.push (kdv_tup [v])).push (excO C hp.objs.size)).get? b = some o := fun b o e => Heap.get?_push_of_some _ (Heap.get?_push_of_some _ e)
  have hget : ((hp.push (kdv_tup [v])).push (excO C hp.objs.size)).get? (hp.objs.size + 1) = some (excO C hp.objs.size) := by heap_get
  have hnx : K.lookup (hp.objs.size + 1) = none := by
    rcases e : K.lookup (hp.objs.size + 1) with _ | o
    · rfl
    · exact absurd (Nat.lt_of_succ_lt (Heap.lt_size (show hp.get? (hp.objs.size + 1) = some o from X _ _ e))) (Nat.lt_irrefl _)
  refine call_own PySem.F.excBase_ValueError (fun Y => refsVE_contains Y bm hbm) (X _ _ hC) (looks_findIn X T.iC) (fun self => bind_fn X self T.tC) (by show 1 ≤ sizeLine; rw [sizeLine_eq]; decide) ?_
  refine err_init (s := ⟨(hp.push (kdv_tup [v])).push (excO C hp.objs.size), g, dr, tk, os⟩) T F (X.keeps k) (hlim.keeps k) (hG.keeps k) ⟨mb, hB1.keeps k, hB2⟩ hget hnx hroom ?_
  rintro h' tk' dx t1 ⟨k', hx, dn, dne, hns⟩
  have old : ∀ b o, hp.get? b = some o → h'.get? b = some o := fun b o e => k' b o (Nat.ne_of_lt (Nat.lt_succ_of_lt (Heap.lt_size e))) (k b o e)
  have z : hp.objs.size + 1 + 1 ≤ dx := by
    first
      | (simpa only [Heap.size_push] using dn)
      | exact dn
      | (have q := dn; rw [Heap.size_push, Heap.size_push] at q; exact q)
  exact ⟨rfl, hq h' tk' (hp.objs.size + 1) dx ⟨old, Nat.le_succ _, ⟨_, _, hx, rfl, rfl, rfl, rfl⟩, (by show hp.objs.size ≤ dx; omega), dne, hns⟩⟩
end
theorem relO_one {f : Str} {v : V} {v' : Value} (r : RelV v v') (g : Str) : RelO (List.lookup g [(f, v)]) (if g = f then some v' else none) := by
  rw [lookup_put]
  by_cases h : g = f
  · rw [if_pos h, if_pos h]; exact r
  · rw [if_neg h, if_neg h]; trivial
section
variable {X : Cx} {W : WX} {C fI cc cda : Addr} {x f : Str}
/-- x(a), x an own error's class -/
theorem pmk_err {a : Expr} {ta : TA} {p pos : Pos} {k : Nat} (T : ErrTxt X.prog X.K X.mg x f C fI cc cda) (F : FldOk f) (hr : Room (k + 1) X.A) (ha : PA X [a] ta) (hg : Gl X x) (hdb : (x == ("__debug__" : Str)) = false)
    (he : starEach (a :: []) X.env = (false, eval a X.env) :: starEach [] X.env := by rfl) (hpl : (backTo pos (starEach [] X.env)).any (·.1) = false := by rfl) :
    PMk X (.Call (.Name x p) [a] [] pos) (fun σ H Q => ta σ H fun vs H1 => ∃ v, vs = [v] ∧ ∀ d, H1 d = none → Q (.ref C) (some d) (upd H1 d (.xd [(f, v)]))) := by
  intro pins s σ H Q I h
  refine wpAny_Call_Name_kw (ld_glob I hg T.gC ?_ hdb)
  refine PySem.W.callWith_K (h₀ := X.base) I.ok.mod.kin T.kC (thn (ha.run pos pins s σ H _ I h) fun us s1 hh => ?_) he hpl
  obtain ⟨vs, H1, I1, r1, v, ev, q1⟩ := hh
  subst ev
  refine ⟨I1.kIn, ?_⟩
  cases r1 with
  | cons rv rn =>
    rename_i v' us'
    cases rn
    show wpAny _ _ (call (.ref C) [v']) _ _ _
    have hlim := I1.nolimit
    have hG := I1.mod.glob.keeps I1.bk
    have hB : ∃ mb, s1.heap.Ns builtinsNs mb ∧ ∀ x : Str, x ≠ "__name__" → mb x = bootBuiltins x := by
      obtain ⟨mb, h1, h2⟩ := I1.mod.blt
      exact ⟨mb, h1.keeps I1.bk, h2⟩
    obtain ⟨hp, g, dr, tk, os⟩ := s1
    refine wpAny_call (err_made T F I1.kIn hlim hG hB (by have := hr.dp; omega) fun h' tk' e d M => ?_)
    show MkP X pins σ Q (.ref e) ⟨h', g, dr, tk', os⟩
    obtain ⟨oe, fv, hoe, hc, hd, hdat, h1⟩ := M.obj
    have hns := M.ns
    obtain ⟨G', g1, g2⟩ := restrict h' fun b => decide (b ≠ e)
    have gk : ∀ b, b ≠ e → G'.get? b = h'.get? b := fun b hb => g1 b (decide_eq_true hb)
    have ge : G'.get? e = none := g2 e (by simp)
    have old : ∀ b o, hp.get? b = some o → G'.get? b = some o := fun b o q => (gk b (Nat.ne_of_lt (Nat.lt_of_lt_of_le (Heap.lt_size q) M.new))).trans (M.keep b o q)
    have ob : ObjOk X.prog X.w (upd H1 d (.xd [(f, v)])) G' d (.xd [(f, v)]) := ⟨_, hns.at (fun o q => (gk d M.dne).trans q), fun f => relO_one rv f⟩
    have J : Inv X pins σ (upd H1 d (.xd [(f, v)])) ⟨G', g, dr, tk', os⟩ := I1.laid (t' := tk') old M.dbig ob
    refine ⟨e, oe, fv, ⟨G', g, dr, tk', os⟩, _, .ref C, some d, rfl, J, fun b o q => ?_, ge, hoe, ⟨hc, hd⟩, hdat, h1, ?_, rfl, I1.bare, raises_own T.exC T.tyC, q1 d (I1.hok.fresh M.dbig)⟩
    · by_cases hb : b = e
      · have q' : G'.get? b = some o := q
        rw [hb, ge] at q'; cases q'
      · exact (gk b hb).symm.trans q
    · rw [upd_ne (Ne.symm M.dne)]
      exact I1.hok.fresh M.new
end
end PD

/-! raise, try .. except, a caught error's field, isinstance of it, repr of data. -/
namespace PD
open PySem PySem.Spec PyProof.Rows L2
/-- what runs well, as a reading -/
def ws (X : Cx) (ss : List Stmt) : TS := fun D σ H => ∀ (pins : List (Addr × Obj)) (s : Shared), Inv X pins σ H s → wpAny (model X.prog X.w) X.A (execs ss X.env) (SP X pins D) X.xe s
def dRaise (k : Nat) (g : DE) (de : DEnds) (st : LS) : Prop := g de.ex st fun d st1 => de.ex ⟨k, d⟩ st1
def dTryX (i : Nat) (tb : Nat → Bool) (gs : XU → DErr → DS) (de : DEnds) (e : DErr) (st : LS) : Prop :=
  cond (tb e.k) (∀ u, gs u e ⟨fun s => de.nx (s.set i .un), de.rt, fun s => de.bk (s.set i .un), fun s => de.ct (s.set i .un), fun _ _ => False⟩ (st.set i (.xc u e))) (de.ex e st)
def dTry (i : Nat) (tb : Nat → Bool) (gb : DS) (gs : XU → DErr → DS) (de : DEnds) (st : LS) : Prop := gb { de with ex := fun e st1 => dTryX i tb gs de e st1 } st
def qXf (f : Str) (e : DErr) : Option D := if exF e.k = f ∧ e.k ≠ 14 then some e.d else none
theorem qXf_of {f : Str} {e : DErr} {d : D} (h : qXf f e = some d) : exF e.k = f ∧ e.k ≠ 14 ∧ d = e.d := by
  unfold qXf at h
  split at h
  · rename_i q
    cases h; exact ⟨q.1, q.2, rfl⟩
  · cases h
def dXf (i : Nat) (u : XU) (e : DErr) (f : Str) (_Ex : DX) (st : LS) (Q : D → LS → Prop) : Prop := wpO (qXf f e) fun d => st[i]? = some (S.xc u e) ∧ Q d st
def dXi (i : Nat) (u : XU) (e : DErr) (ib : Nat → Bool) (_Ex : DX) (st : LS) (Q : D → LS → Prop) : Prop := st[i]? = some (S.xc u e) ∧ Q (.bl (ib e.k)) st
section
variable {K : PySem.W.Frag} {mg : Str → Option Value} {C : Cfg} {H0 H H0' H' : Hp} {σ : L2.St} {st : LS}
/-- a slot is emptied, or takes a caught error -/
theorem I.put (i : I K mg C H0 H σ st) {k : Nat} {r : S} {w : Option V} (h : RSlot K mg C H0 H (some r) (some w)) (no : ∀ a l t ds, r ≠ .ow a l (.nd t ds)) : I K mg C H0 H (σ.set k w) (st.set k r) where
  same := i.same
  up := i.up
  keep := i.keep
  low := i.low
  aa := i.aa
  len := by rw [List.length_set, List.length_set]; exact i.len
  slots := fun j => by
    by_cases hk : k < st.length
    · have hk' : k < σ.length := by rw [← i.len]; exact hk
      rw [getElem?_set_st hk, getElem?_set_st hk']
      by_cases e : j = k
      · rw [if_pos e, if_pos e]; exact h
      · rw [if_neg e, if_neg e]; exact i.slots j
    · rw [List.set_eq_of_length_le (Nat.le_of_not_lt hk), List.set_eq_of_length_le (by rw [← i.len]; exact Nat.le_of_not_lt hk)]
      exact i.slots j
  dist := fun x y a l t ds l' t' ds' e1 e2 => by
    by_cases hk : k < st.length
    · rw [getElem?_set_st hk] at e1 e2
      by_cases hx : x = k
      · rw [if_pos hx] at e1; cases e1; exact (no _ _ _ _ rfl).elim
      · by_cases hy : y = k
        · rw [if_pos hy] at e2; cases e2; exact (no _ _ _ _ rfl).elim
        · rw [if_neg hx] at e1; rw [if_neg hy] at e2
          exact i.dist x y a l t ds l' t' ds' e1 e2
    · rw [List.set_eq_of_length_le (Nat.le_of_not_lt hk)] at e1 e2
      exact i.dist x y a l t ds l' t' ds' e1 e2
theorem I.unset (i : I K mg C H0 H σ st) (k : Nat) : I K mg C H0 H (σ.set k none) (st.set k .un) := i.put (by trivial) fun _ _ _ _ z => by cases z
end
section
variable {X : Cx} {W : WX} {a e : Expr} {x f n : Str} {C fI cc cda : Addr} {g : DE} {p pos pos2 np pos' : Pos} {k m i : Nat}
theorem psd_raise (hc : X.calm = true) (tk : Takes X W) (T : ErrTxt X.prog X.K X.mg x f C fI cc cda) (ex : exN k = x) (ef : exF k = f) (F : FldOk f) (hr : RoomG (m + 1) X.A) (h : PED X W a g) (hg : Gl X x) (hdb : (x == ("__debug__" : Str)) = false := by decide)
    (he : starEach (a :: []) X.env = (false, eval a X.env) :: starEach [] X.env := by rfl) (hpl : (backTo pos (starEach [] X.env)).any (·.1) = false := by rfl) :
    PSD X W (.Raise (some (.Call (.Name x p) [a] [] pos)) none pos2) (dRaise k g) := by
  obtain ⟨ta, pa, qa⟩ := h.ex
  refine ⟨_, ps_raise hc tk (pmk_err T F hr.r (pa_cons pa pa_nil he) hg hdb he hpl), fun C' H0 H σ st de Dn hI hL hg => qa C' H0 H σ st de.ex _ _ hI (hL.xp σ) (fun d st1 v H1 K1 q1 i1 s1 r1 => ?_) hg⟩
  refine ⟨v, rfl, fun dd hd => hL.ex ⟨k, d⟩ st1 σ _ _ _ _ q1 (i1.new (o := .xd [(f, v)]) hd) (s1.trans (same_upd (i1.same.free hd))) ⟨⟨C, by show X.mg (exN k) = _; rw [ex]; exact T.gC, rfl⟩, .inr ⟨dd, v, rfl, ?_, Rep.mono (same_upd (i1.same.free hd)) d v r1⟩⟩⟩
  show upd H1 dd _ dd = _
  rw [upd_same, ef]
theorem psd_try_as {c : Value} {body suite : List Stmt} {b₀ : Stmt} {tb : Nat → Bool} {gb : DS} {gs : XU → DErr → DS} (hs : X.stack = X.env :: X.outer) (hf : X.env.frame = some X.env.locals) (hN : X.N.Nodup) (hi : X.N[i]? = some n) (hln : X.env.kindOf n = some .local)
    (hc : Names X x c) (tk : Takes X W) (hT : ∀ k C, X.mg (exN k) = some (.ref C) → PySem.W.exmOne X.K (.ref C) c = some (tb k))
    (hb : ∀ (W' : WX) (pn : List (Addr × Obj)) (xe : Value → Shared → Prop), Takes (X.tr pn xe) W' → PassesOwn (model X.prog X.w) X.A X.env xe → PSsD (X.tr pn xe) W' body gb)
    (hsu : ∀ (u : XU) (oe : Obj) (pn : List (Addr × Obj)) (e : DErr), Zc u.cls u.d oe → (∃ vs, oe.data = .fields vs) → PSsD (X.suite u.a ((u.a, oe) :: pn)) (fun _ _ _ _ => False) (b₀ :: suite) (gs u e)) :
    PSD X W (.Try body [.ExceptHandler (some (.Name x np)) (some n) (b₀ :: suite) pos'] [] [] pos) (dTry i tb gb gs) := by
  refine ⟨_, ps_try_as (tb := fun W' D σ H => ∀ pn xe, Takes (X.tr pn xe) W' → PassesOwn (model X.prog X.w) X.A X.env xe → ws (X.tr pn xe) body D σ H)
    (ts := fun a cls d D σ H => ∀ oe pn, Zc cls d oe → (∃ vs, oe.data = .fields vs) → ws (X.suite a ((a, oe) :: pn)) (b₀ :: suite) D σ H) (Wout := W) hs hf hN hi hln hc tk
    (fun W' pn xe t p => ⟨fun pins s σ H D I h => h pn xe t p pins s I⟩) (fun a oe cls d pn hz hv => ⟨fun pins s σ H D I h => h oe pn hz hv pins s I⟩), fun C' H0 H σ st de Dn hI hL hg => ?_⟩
  intro pn xe t p pins s Iv
  obtain ⟨tt, pp, qq⟩ := (hb _ pn xe t p).ex
  refine pp.run pins s σ H Dn Iv (qq C' H0 H σ st { de with ex := fun e st1 => dTryX i tb gs de e st1 } Dn hI ⟨hL.nx, hL.bk, hL.ct, hL.rt, fun er st1 σ1 H1 K1 cls d q1 i1 s1 r1 => ?_⟩ hg)
  obtain ⟨⟨C, hC, rfl⟩, r2⟩ := id r1
  refine ⟨tb er.k, hT _ _ hC, fun hb a ha oe pn' hz hv pins2 s2 Iv2 => ?_, fun hb => ?_⟩
  · have q1 : dTryX i tb gs de er st1 := q1
    unfold dTryX at q1
    rw [hb] at q1
    obtain ⟨t2, p2, q2⟩ := (hsu ⟨a, .ref C, d⟩ oe pn' er hz hv).ex
    have i2 : I X.K X.mg C' H1 K1 (σ1.set i (some (.ref a))) (st1.set i (.xc ⟨a, .ref C, d⟩ er)) := i1.put ⟨rfl, r1⟩ fun _ _ _ _ z => by cases z
    refine p2.run pins2 s2 _ _ _ Iv2 (q2 C' H1 K1 _ _ _ _ i2 ⟨fun st2 σ2 H2 K2 q i s => ?_, fun st2 σ2 H2 K2 q i s => ?_, fun st2 σ2 H2 K2 q i s => ?_, fun r st2 v σ2 H2 K2 q i s rr => ?_, fun _ _ _ _ _ _ _ (z : False) => z.elim⟩ (q1 ⟨a, .ref C, d⟩))
    · exact hL.nx _ _ H2 K2 q (i.unset _) (s1.trans s)
    · exact hL.bk _ _ H2 K2 q (i.unset _) (s1.trans s)
    · exact hL.ct _ _ H2 K2 q (i.unset _) (s1.trans s)
    · exact hL.rt r st2 v σ2 H2 K2 q i (s1.trans s) rr
  · have q1 : dTryX i tb gs de er st1 := q1
    unfold dTryX at q1
    rw [hb] at q1
    exact hL.ex er st1 σ1 H1 K1 _ d q1 i1 s1 r1
/-- e.f, e the error that the suite holds -/
theorem ped_xf {u : XU} {oe : Obj} {pn : List (Addr × Obj)} {er : DErr} (hX : ∀ k C, X.mg (exN k) = some (.ref C) → exF k = f → XfC X.K C ∧ PySem.W.findIn X.K (.ref C) f = some none)
    (hz : Zc u.cls u.d oe) (hv : ∃ vs, oe.data = .fields vs) (hi : PE (X.suite u.a ((u.a, oe) :: pn)) e (tVar i)) (hb : attributeBase e f X.env (eval e X.env) = eval e X.env := by rfl) :
    PED (X.suite u.a ((u.a, oe) :: pn)) W (.Attribute e f pos) (dXf i u er f) := by
  refine ⟨fun σ H Q => ∃ C, (XfC X.K C ∧ PySem.W.findIn X.K (.ref C) f = some none) ∧ tXf u.a u.cls u.d C f (tVar i) σ H Q, ⟨fun pins s σ H Q I ⟨C, h1, h2⟩ => (pe_xf h1.1 h1.2 hz hv hi hb).run pins s σ H Q I h2⟩, fun C' H0 H σ st Ex Q Qv hI hX' hQ hg => ?_⟩
  obtain ⟨d, hq, h1, hg⟩ := wpO_of hg
  obtain ⟨h2, h3, rfl⟩ := qXf_of hq
  have hs := hI.slots i
  rw [h1] at hs
  obtain ⟨e1, ⟨C, hC, ec⟩, h4⟩ := hs
  refine ⟨C, hX _ _ hC h2, .ref u.a, e1, rfl, ec, ?_⟩
  rcases h4 with h4 | ⟨dd, v, e2, e3, e4⟩
  · exact absurd h4.1 h3
  · refine ⟨dd, _, v, e2, hI.same _ _ e3, ?_, hQ _ _ v H0 H hg hI (Same.refl _) e4⟩
    rw [h2]; simp [List.lookup]
/-- what the classes say, so that isinstance asks their instances rightly -/
def kxE (K : PySem.W.Frag) (D : Addr) : Prop := (PySem.W.clsIn K D).isSome = true ∧ PySem.W.findIn K (.ref D) "__getattribute__" = some (some (.builtin "BaseException.__getattribute__")) ∧ PySem.W.findIn K (.ref D) "__getattr__" = some none ∧
  PySem.W.subIn K (.ref D) (.type "BaseException") = some true ∧ PySem.W.findIn K (.ref D) "__class__" = some (some (.builtin "object.__class__")) ∧ PySem.W.specialIn K (.builtin "object.__class__") "__get__" = some (some (.builtin "getset_descriptor.__get__")) ∧
  PySem.W.takesIn K (.builtin "object.__class__") = some true ∧ PySem.W.mroIn K D (.type "object") = some true
theorem call_isX {u : XU} {oe : Obj} {pn : List (Addr × Obj)} (hz : Zc u.cls u.d oe) (hv : ∃ vs, oe.data = .fields vs) : CallR (X.suite u.a ((u.a, oe) :: pn)) (.builtin "isinstance") (fun xs H Q => ∃ (D : Addr) (cv : Value) (c : V) (b : Bool), u.cls = .ref D ∧ kxE X.K D ∧
    (u.d = none ∨ ∃ dd fs, u.d = some dd ∧ H dd = some (.xd fs)) ∧ xs = [.ref u.a, c] ∧ (∀ w, RelV c w → w = cv) ∧ PySem.W.kitOne X.K (.ref D) cv = some b ∧ Q (.bl b) H) := by
  intro pins s σ H xs us Q I r h
  obtain ⟨D, cv, c, b, eD, ⟨k1, k2, k3, k4, k5, k6, k7, k8⟩, hd, rfl, hcv, e, q⟩ := h
  rcases r with _ | ⟨rx, _ | ⟨rt, _ | _⟩⟩
  cases rx
  obtain rfl := hcv _ rt
  obtain ⟨hget, _⟩ := I.pin (u.a, oe) (List.mem_append.mpr (.inl List.mem_cons_self))
  obtain ⟨vs, hv⟩ := hv
  have J : ∃ od, PySem.W.InstAt s.heap u.a oe D od := by
    rcases hd with hd | ⟨dd, fs, hd, hH⟩
    · exact ⟨none, hget, hz.1.trans eD, by unfold PySem.W.notCls; rw [hv] <;> rfl, by rw [hz.2, hd]; trivial⟩
    · obtain ⟨mA, ⟨o, es, ep, ho, _⟩, _⟩ := show ObjOk X.prog X.w H s.heap dd (.xd fs) from I.hok dd _ hH
      exact ⟨some o, hget, hz.1.trans eD, by unfold PySem.W.notCls; rw [hv] <;> rfl, by rw [hz.2, hd]; exact ho⟩
  obtain ⟨od, J⟩ := J
  exact PySem.W.kia_one (PySem.W.kitx_exc k1 k2 k3 k4 k5 k6 k7 k8) I.kIn J e (fun z => nomatch z) fun tk => ⟨.bl b, H, I.kept (t' := tk) fun _ _ z => z, rfl, q⟩
/-- isinstance(e, c), e the error that the suite holds -/
theorem ped_xi {u : XU} {oe : Obj} {pn : List (Addr × Obj)} {er : DErr} {t : Expr} {c : V} {cv : Value} {ib : Nat → Bool} (hX : ∀ k C, X.mg (exN k) = some (.ref C) → kxE X.K C ∧ PySem.W.kitOne X.K (.ref C) cv = some (ib k))
    (hz : Zc u.cls u.d oe) (hv : ∃ vs, oe.data = .fields vs) (hi : PE (X.suite u.a ((u.a, oe) :: pn)) e (tVar i)) (ht : PE (X.suite u.a ((u.a, oe) :: pn)) t (tC c)) (hcv : ∀ w, RelV c w → w = cv) (hg : Gl X "isinstance") (hm : X.mg "isinstance" = none)
    (he : starEach (e :: [t]) X.env = (false, eval e X.env) :: starEach [t] X.env := by rfl) (he2 : starEach (t :: []) X.env = (false, eval t X.env) :: starEach [] X.env := by rfl) (hpl : (backTo pos (starEach [t] X.env)).any (·.1) = false := by rfl) :
    PED (X.suite u.a ((u.a, oe) :: pn)) W (.Call (.Name "isinstance" p) [e, t] [] pos) (dXi i u er ib) := by
  refine ⟨_, pe_callB (call_isX hz hv) hg hm PyProof.Rows.boot_isinstance (pa_cons hi (pa_cons ht pa_nil he2) he) (by decide) (by decide) he hpl, fun C' H0 H σ st Ex Q Qv hI hX' hQ hg => ?_⟩
  obtain ⟨h1, hg⟩ := hg
  have hs := hI.slots i
  rw [h1] at hs
  obtain ⟨e1, ⟨D, hD, ec⟩, h4⟩ := hs
  obtain ⟨k1, k2⟩ := hX _ _ hD
  refine ⟨.ref u.a, e1, D, cv, c, ib er.k, ec, k1, ?_, rfl, hcv, k2, hQ _ _ _ H0 H hg hI (Same.refl _) rep_bl⟩
  rcases h4 with h4 | ⟨dd, v, e2, e3, e4⟩
  · exact .inl h4.2
  · exact .inr ⟨dd, _, e2, hI.same _ _ e3⟩
end
/-! ### repr of data -/
mutual
def pdat : D → Option PyData
  | .non => some .none
  | .bl b => some (.bool b)
  | .int i => some (.int i)
  | .str x => some (.str x)
  | .glo _ => none
  | .nd .tup ds => (pdatL ds).map .tuple
  | .nd .lst ds => (pdatL ds).map .list
  | .nd _ _ => none
def pdatL : List D → Option (List PyData)
  | [] => some []
  | d :: ds => match pdat d with
    | none => none
    | some p => (pdatL ds).map (p :: ·)
end
def pdatT : D → Option PyData
  | .nd (.dic _) [] => some (.dict [])
  | d => pdat d
def reprD (d : D) : Str := match pdatT d with
  | some p => p.shown
  | none => ""
def reprOk (d : D) : Bool := match pdatT d with
  | some p => p.showable && (decide (p.shown.length ≤ sizeLine) && decide (p.depth ≤ 50))
  | none => false
section
variable {X : Cx} {pins : List (Addr × Obj)} {σ : L2.St} {s : Shared} {H0 H : Hp}
mutual
theorem reads_of (I : Inv X pins σ H s) (sm : Same H0 H) : ∀ (d : D) (p : PyData) (v : V) (u : Value), pdat d = some p → Rep X.K X.mg H0 d v → RelV v u → ∃ as, Reads s.heap u p as ∧ p.hasDict = false
  | .non, p, v, u, e, h, r => by
    cases e; cases h.non; cases r
    exact ⟨[], .none, rfl⟩
  | .bl b, p, v, u, e, h, r => by
    cases e; cases h.bl; cases r
    exact ⟨[], .bool b, rfl⟩
  | .int b, p, v, u, e, h, r => by
    cases e; cases h.int; obtain ⟨t, rfl⟩ := r
    exact ⟨[], .int b t, rfl⟩
  | .str b, p, v, u, e, h, r => by
    cases e; cases h.str; obtain ⟨t, rfl⟩ := r
    exact ⟨[], .str b t, rfl⟩
  | .glo _, p, v, u, e, h, r => by cases e
  | .nd .tup ds, p, v, u, e, h, r => by
    obtain ⟨a, vs, rfl, h2, h3⟩ := h.nd
    cases r
    cases hp : pdatL ds with
    | none => rw [pdat, hp] at e; cases e
    | some ps =>
      rw [pdat, hp] at e; cases e
      obtain ⟨its, rv, ⟨o, ho, hc, n, hd⟩, _⟩ := I.tuple (h2.mono sm)
      obtain ⟨as, h4, h5⟩ := readsL_of I sm ds ps vs its hp h3 rv
      exact ⟨as, .tuple ho hc hd (by simpa using h4), by simpa [PyData.hasDict] using h5⟩
  | .nd .lst ds, p, v, u, e, h, r => by
    obtain ⟨a, vs, rfl, h2, h3⟩ := h.nd
    cases r
    cases hp : pdatL ds with
    | none => rw [pdat, hp] at e; cases e
    | some ps =>
      rw [pdat, hp] at e; cases e
      obtain ⟨_, its, n, rv, ho⟩ := show ObjOk X.prog X.w H s.heap a (.lst vs) from I.hok a _ (sm _ _ h2)
      obtain ⟨as, h4, h5⟩ := readsL_of I sm ds ps vs its hp h3 rv
      exact ⟨a :: as, .list ho rfl rfl (by simpa using h4), by simpa [PyData.hasDict] using h5⟩
  | .nd .scr ds, p, v, u, e, h, r => by cases e
  | .nd (.dic ks) ds, p, v, u, e, h, r => by cases e
  | .nd (.ins c fs) ds, p, v, u, e, h, r => by cases e
theorem readsL_of (I : Inv X pins σ H s) (sm : Same H0 H) : ∀ (ds : List D) (ps : List PyData) (vs : List V) (us : List Value), pdatL ds = some ps → RepL X.K X.mg H0 ds vs → Vals vs us → ∃ as, ReadsAll s.heap us ps as ∧ PyData.hasDictAll ps = false
  | [], ps, vs, us, e, h, r => by
    cases e; cases h.nil; cases r
    exact ⟨[], .nil, rfl⟩
  | d :: ds, ps, vs, us, e, h, r => by
    obtain ⟨v, vr, rfl, h2, h3⟩ := h.cons
    cases r with
    | cons r1 r2 =>
      cases hp : pdat d with
      | none => rw [pdatL, hp] at e; cases e
      | some p =>
        cases hq : pdatL ds with
        | none => rw [pdatL, hp, hq] at e; cases e
        | some qs =>
          rw [pdatL, hp, hq] at e; cases e
          obtain ⟨as, a1, a2⟩ := reads_of I sm d p v _ hp h2 r1
          obtain ⟨bs, b1, b2⟩ := readsL_of I sm ds qs vr _ hq h3 r2
          exact ⟨as ++ bs, .cons a1 b1, by simp [PyData.hasDictAll, a2, b2]⟩
end
/-- repr(d) -/
def rRepr (K : PySem.W.Frag) (mg : Str → Option Value) : List V → Hp → VK → Prop := fun xs H Q => ∃ (H0 : Hp) (d : D) (v : V), xs = [v] ∧ Same H0 H ∧ Rep K mg H0 d v ∧ reprOk d = true ∧ Q (.str (reprD d)) H
theorem cr_repr (hg : X.A.guards = some []) (hu : X.A.units + 60 < cLine) : CallR X (.builtin "repr") (rRepr X.K X.mg) := by
  intro pins s σ H xs us Q I r h
  obtain ⟨H0, d, v, rfl, sm, hr, ok, q⟩ := h
  rcases r with _ | ⟨rx, _ | _⟩
  rename_i u
  have fin : ∀ (h' : Heap) (w tk : Tok), (∀ b o, s.heap.get? b = some o → h'.get? b = some o) → EP X pins σ Q (.str (reprD d) w) { s with heap := h', toks := tk } := fun h' w tk k =>
    ⟨.str (reprD d), H, I.kept (t' := tk) k, ⟨w, rfl⟩, q⟩
  have main : ∀ (p : PyData), pdat d = some p → reprD d = p.shown → p.showable = true → p.shown.length ≤ sizeLine → p.depth ≤ 50 → wpAny (model X.prog X.w) X.A (call (.builtin "repr") [u]) (EP X pins σ Q) X.xe s := by
    intro p hp e1 h1 h2 h3
    obtain ⟨as, a1, a2⟩ := reads_of I sm d p v u hp hr rx
    cases a1 with
    | none => exact PySem.P.repr_of_none (by have z := fin s.heap s.toks (s.toks + 1) (fun _ _ z => z); rw [e1] at z; exact z)
    | bool b => exact PySem.P.repr_of_bool (by have z := fin s.heap s.toks (s.toks + 1) (fun _ _ z => z); rw [e1] at z; exact z)
    | int i t => exact PySem.P.repr_of_int (by simpa [PyData.showable] using h1) (by have z := fin s.heap s.toks (s.toks + 1) (fun _ _ z => z); rw [e1] at z; exact z)
    | str x t => exact PySem.P.repr_of_str (by have z := fin s.heap s.toks (s.toks + 1) (fun _ _ z => z); rw [e1] at z; exact z) (by simpa [PyData.shown] using h2)
    | list a b c d' => exact repr_of_reads' (.list a b c d') h1 (fun z => by rw [a2] at z; cases z) hg (by omega) (fun _ _ z => z) (fun h' w tk k => by rw [← e1]; exact fin h' w tk k) h2
    | tuple a b c d' => exact repr_of_reads' (.tuple a b c d') h1 (fun z => by rw [a2] at z; cases z) hg (by omega) (fun _ _ z => z) (fun h' w tk k => by rw [← e1]; exact fin h' w tk k) h2
    | dict _ _ _ _ _ => cases a2
  unfold reprOk at ok
  cases hp : pdatT d with
  | none => rw [hp] at ok; cases ok
  | some p =>
    rw [hp] at ok
    obtain ⟨h1, h23⟩ := Bool.and_eq_true_iff.mp ok
    obtain ⟨h2, h3⟩ := Bool.and_eq_true_iff.mp h23
    have h2 := of_decide_eq_true h2
    have h3 := of_decide_eq_true h3
    have e1 : reprD d = p.shown := by unfold reprD; rw [hp]
    by_cases hd : ∃ ks, d = .nd (.dic ks) []
    · obtain ⟨ks, rfl⟩ := hd
      obtain rfl : PyData.dict [] = p := Option.some.inj hp
      obtain ⟨a, vs, rfl, hn, hl⟩ := hr.nd
      cases hl.nil
      cases rx
      obtain ⟨hk, hn⟩ := hn
      obtain rfl : ks = [] := List.length_eq_zero_iff.mp hk
      obtain ⟨_, hs, kv, hv, o, es, ep, ho, hx, hdd, _, he, _⟩ := show ObjOk X.prog X.w H s.heap a (.dK ([].zip [])) from (Rd.mono sm hn).ok I.hok
      cases hv
      have e0 : es.toList = [] := by
        cases hq : es.toList with
        | nil => rfl
        | cons y ys => rw [hq] at he; cases he
      refine repr_of_reads' (d := .dict []) (.dict (kvs := []) ho hx.1 hdd (by rw [e0]; exact .nil) (by rw [e0]; exact .nil)) h1 (fun _ z => ?_) hg (by omega) (fun _ _ z => z) (fun h' w tk k => by rw [← e1]; exact fin h' w tk k) h2
      have z' : sysModules = a := by simpa using z
      rw [← z'] at hs
      exact absurd hs (by decide)
    · refine main p ?_ e1 h1 h2 h3
      rw [← hp]
      unfold pdatT
      split
      · exact (hd ⟨_, rfl⟩).elim
      · rfl
def fRepr (xs : List D) (Q : D → Prop) : Prop := match xs with
  | [d] => reprOk d = true ∧ Q (.str (reprD d))
  | _ => False
theorem c_repr (hg : X.A.guards = some []) (hu : X.A.units + 60 < cLine) : CallD X (.builtin "repr") fRepr := ⟨_, cr_repr hg hu, fun H0 H xs vs Q Qv s r hf k => by
  unfold fRepr at hf
  split at hf
  · obtain ⟨v, rfl, h⟩ := r.one
    exact ⟨H0, _, v, rfl, s, h, hf.1, k _ _ hf.2 rep_str⟩
  · exact hf.elim⟩
end
end PD

/-! is, lists added, {}, defaults. -/
namespace PD
open PySem PySem.Spec PyProof.Rows L2
def fIs (x : D) (y : D) (Q : D → Prop) : Prop := match x, y with
  | x, .non => Q (.bl (isNon x))
  | .bl a, .bl b => Q (.bl (decide (a = b)))
  | _, _ => False
def fIsNot (x : D) (y : D) (Q : D → Prop) : Prop := match x, y with
  | x, .non => Q (.bl (!isNon x))
  | .bl a, .bl b => Q (.bl (!decide (a = b)))
  | _, _ => False
section
variable {X : Cx} {W : WX} {a b e : Expr} {es : List Expr} {ga gb : DE} {pos p : Pos} {k : Nat} {f : Addr} {fd : FuncData} {ps : List Str} {x : Str} {n : Nat}
def rIs : List V → Hp → VK → Prop := fun _ _ _ => True
theorem o_is : OpD X (compareOp .Is) fIs := by
  refine ⟨fun x y H Q => (y = .non ∧ Q (.bl (decide (x = .non))) H) ∨ ∃ a b, x = .bl a ∧ y = .bl b ∧ Q (.bl (decide (a = b))) H, fun pins s σ H x y v u Q I rx ry h => h.elim (op_isN pins s σ H x y v u Q I rx ry) (op_is_bl pins s σ H x y v u Q I rx ry), fun H0 H x y v u Q Qv s rx ry hf k => ?_⟩
  unfold fIs at hf
  split at hf
  · cases ry.non
    exact .inl ⟨rfl, k _ _ hf (by rw [← rx.isN]; exact rep_bl)⟩
  · cases rx.bl; cases ry.bl
    exact .inr ⟨_, _, rfl, rfl, k _ _ hf rep_bl⟩
  · exact hf.elim
theorem o_isNot : OpD X (compareOp .IsNot) fIsNot := by
  refine ⟨fun x y H Q => (y = .non ∧ Q (.bl (!decide (x = .non))) H) ∨ ∃ a b, x = .bl a ∧ y = .bl b ∧ Q (.bl (!decide (a = b))) H, fun pins s σ H x y v u Q I rx ry h => h.elim (op_notN pins s σ H x y v u Q I rx ry) (op_isnot_bl pins s σ H x y v u Q I rx ry), fun H0 H x y v u Q Qv s rx ry hf k => ?_⟩
  unfold fIsNot at hf
  split at hf
  · cases ry.non
    exact .inl ⟨rfl, k _ _ hf (by rw [← rx.isN]; exact rep_bl)⟩
  · cases rx.bl; cases ry.bl
    exact .inr ⟨_, _, rfl, rfl, k _ _ hf rep_bl⟩
  · exact hf.elim
/-- two lists added: a new one -/
def dCat (ga gb : DE) (Ex : DX) (st : LS) (Q : S → LS → Prop) : Prop := ga Ex st fun x st1 => gb Ex st1 fun y st2 => match x, y with
  | .nd .lst xs, .nd .lst ys => (xs.length + ys.length ≤ 16777216) ∧ ∀ p, Q (.ow p true (.nd .lst (xs ++ ys))) st2
  | _, _ => False
theorem pod_cat (ha : PED X W a ga) (hb : PED X W b gb) : POD X W (.BinOp a .Add b pos) (dCat ga gb) := by
  obtain ⟨ta, pa, qa⟩ := ha.ex
  obtain ⟨tb, pb, qb⟩ := hb.ex
  refine ⟨_, pe_op op_cat pa pb, fun C H0 H σ st Ex Q Qv hI hX hQ hg => qa C H0 H σ st Ex _ _ hI hX (fun x st1 v H1 K1 q1 i1 s1 r1 => ?_) hg⟩
  refine qb C H1 K1 σ st1 Ex _ _ i1 (hX.up s1) (fun y st2 u H2 K2 q2 i2 s2 r2 => ?_) q1
  split at q2
  · rename_i xs ys
    obtain ⟨l, vs, rfl, h3, h4⟩ := (Rep.mono s2 _ _ r1).nd
    obtain ⟨m, us, rfl, h5, h6⟩ := r2.nd
    refine ⟨l, m, vs, us, rfl, rfl, i2.same _ _ h3, i2.same _ _ h5, by rw [h4.length, h6.length]; exact q2.1, fun p hp => ?_⟩
    obtain ⟨i3, r3⟩ := i2.made (o := .lst (vs ++ us)) (t := .lst) hp upd_same (h4.append h6)
    exact hQ _ st2 _ H2 _ (q2.2 p) i3 (s1.trans s2) r3
  · exact q2.elim
/-- {} -/
def dDic0 (_Ex : DX) (st : LS) (Q : D → LS → Prop) : Prop := Q (.nd (.dic []) []) st
theorem ped_dic0 : PED X W (.Dict [] [] pos) dDic0 := ⟨_, pe_dnewK, fun C H0 H σ st Ex Q Qv hI hX hQ hg p hp =>
  hQ _ st _ _ _ hg (hI.new (o := .dK []) hp) (same_upd (hI.same.free hp)) (rep_nd (vs := []) ⟨rfl, .inl upd_same⟩ repL_nil)⟩
/-- a call that leaves the last arguments to the defaults -/
def dcAD (φ : SpA) (dd : List D) (g : DA) (Ex : DX) (st : LS) (Q : S → LS → Prop) : Prop := g Ex st fun ds st1 => φ (ds ++ dd) (fun e => Ex e st1) fun r => Q r st1
theorem run_GD {E : L2.St → XK} {pins : List (Addr × Obj)} {σ : L2.St} {H : Hp} {s : Shared} {Q : VK} {us ds : List Value} {vs dv : List V} {sp : Sp} (F : FnG X.prog X.w X.K X.mg X.base k f fd ps sp) (hr : RoomG k X.A) (hb : Binds X.K fd ps ds) (hx : PassesAt (L2.CX X.prog X.w) X σ (E σ))
    (I : Inv X pins σ H s) (r : Vals vs us) (rd : Vals dv ds) (h : sp (vs ++ dv) H Q (E σ)) : wpAny (model X.prog X.w) X.A (call (.ref f) us) (EP X pins σ Q) X.xe s := by
  have rr := r.append rd
  have b := hb s us I.kIn (by rw [← rr.length]; exact F.len _ _ _ _ h)
  refine wpAny_call (codeAny_mono (F.run X.A X.stack s H ⟨us, []⟩ (us ++ ds) (vs ++ dv) Q (E σ) hr I.env0 b rr h) fun r s' hq => ?_)
  rcases r with er | _ | _ | _ | u
  · exact hx pins H s er s' I hq
  · exact hq.elim
  · exact hq.elim
  · exact hq.elim
  · exact I.after hq
theorem pod_callAD {φ : SpA} {g : DA} {dd : List D} {dv : List V} (tk : Takes X W) (F : FnG X.prog X.w X.K X.mg X.base k f fd ps (toA X.K X.mg n φ)) (hr : RoomG k X.A) (hg : Gl X x) (hm : X.mg x = some (.ref f)) (hk : PySem.W.keepIn X.K (.ref f) = true)
    (hb : ∃ dvs, Vals dv dvs ∧ Binds X.K fd ps dvs) (hd : ∀ H, RepL X.K X.mg H dd dv)
    (ha : PAD X W (e :: es) g) (hl : (e :: es).length + dd.length = n := by rfl) (hdb : (x == ("__debug__" : Str)) = false := by decide) (he : starEach (e :: es) X.env = (false, eval e X.env) :: starEach es X.env := by rfl) (hpl : (backTo pos (starEach es X.env)).any (·.1) = false := by rfl) :
    POD X W (.Call (.Name x p) (e :: es) [] pos) (dcAD φ dd g) := by
  obtain ⟨ta, pa, qa⟩ := ha.ex
  obtain ⟨dvs, rd, hb⟩ := hb
  have pe : PE X (.Call (.Name x p) (e :: es) [] pos) (fun σ H Q => ta σ H fun vs H1 => toA X.K X.mg n φ (vs ++ dv) H1 Q (WE W σ)) :=
    ⟨fun pins s σ H Q I h => wpAny_Call_Name_kw (ld_glob I hg hm (PySem.W.callWith_K (h₀ := X.base) I.ok.mod.kin hk (thn (pa.run pos pins s σ H _ I h) fun us s1 ⟨vs, H1, I1, r, q⟩ => ⟨I1.kIn, run_GD F hr hb (passAt tk σ) I1 r rd q⟩) he hpl) hdb)⟩
  refine ⟨_, pe, fun C H0 H σ st Ex Q Qv hI hX hQ hg => qa C H0 H σ st Ex _ _ hI hX (fun ds st1 vs H1 K1 q1 i1 s1 r1 el => ?_) hg⟩
  refine ⟨by rw [List.length_append, r1.length, el, (hd H1).length]; exact hl, H1, ds ++ dd, _, _, i1.same, r1.append (hd H1), q1, fun er H2 K2 cls d q2 f2 r2 => ?_, fun r v H2 K2 q2 f2 r2 => ?_⟩
  · exact hX er st1 H2 K2 cls d q2 (i1.callA f2) (s1.trans f2.s0) r2
  · exact hQ r st1 v H2 K2 q2 (i1.callA f2) (s1.trans f2.s0) (RepT.r i1 (fun k a l t ds q => ⟨l, t, ds, q⟩) r2)
end
theorem room_un {k : Nat} {A : Around} (h : RoomG k A) : A.units + 60 < cLine := by have := h.r.un; omega
end PD

/-! facts of the error classes, put together. -/
namespace PD
open PySem PySem.Spec PyProof.Rows L2
section
variable {K : PySem.W.Frag} {C D W : Addr}
theorem cls_some (h : PySem.W.hasDictIn K C = true) : (PySem.W.clsIn K C).isSome = true := by
  obtain ⟨cd, hc, _⟩ := PySem.W.any_some h
  rw [hc]; rfl
theorem kit_ref (hd : PySem.W.hasDictIn K W = true) (ht : PySem.W.typeIn K (.ref W) = some (.type "type")) (hs : PySem.W.subIn K (.ref C) (.ref W) = some true) : PySem.W.kitOne K (.ref C) (.ref W) = some true := by
  unfold PySem.W.kitOne PySem.W.kitCls
  split
  · rfl
  · dsimp only
    rw [cls_some hd, ht, hs]; rfl
theorem kxe_mk (ga : PySem.W.findIn K (.ref D) "__getattribute__" = some (some (.builtin "BaseException.__getattribute__"))) (gg : PySem.W.findIn K (.ref D) "__getattr__" = some none) (ex : PySem.W.subIn K (.ref D) (.type "BaseException") = some true) (hd : PySem.W.hasDictIn K D = true)
    (cc : PySem.W.findIn K (.ref D) "__class__" = some (some (.builtin "object.__class__"))) (sp : PySem.W.specialIn K (.builtin "object.__class__") "__get__" = some (some (.builtin "getset_descriptor.__get__"))) (tk : PySem.W.takesIn K (.builtin "object.__class__") = some true) (mo : PySem.W.mroIn K D (.type "object") = some true) : kxE K D :=
  ⟨cls_some hd, ga, gg, ex, cc, sp, tk, mo⟩
theorem binds_none {fd : FuncData} {ps : List Str} (h : ∃ ds, Vals [] ds ∧ Binds K fd ps ds) : Binds K fd ps [] := by
  obtain ⟨ds, rd, hb⟩ := h
  cases rd
  exact hb
end
end PD

/-! defs as values, lists repeated. -/
namespace PD
open PySem PySem.Spec PyProof.Rows L2
section
variable {X : Cx} {W : WX} {a b e fe : Expr} {es : List Expr} {ga gb gf : DE} {pos p : Pos} {x : Str} {n : Nat}
/-- a def's name as a value -/
theorem ped_glo {f : Addr} (hg : Gl X x) (hm : X.mg x = some (.ref f)) (hd : (x == ("__debug__" : Str)) = false := by decide) : PED X W (.Name x p) (dC (.glo x)) :=
  ped_c (pe_glob (v := .ref f) hg hm rfl hd) fun H => by unfold Rep; exact ⟨f, hm, rfl⟩
/-- the defs that may be called by value -/
def TabOk (X : Cx) (n : Nat) (tab : List (Str × SpA)) : Prop := ∀ x φ, tab.lookup x = some φ → ∃ (k : Nat) (f : Addr) (fd : FuncData) (ps : List Str), X.mg x = some (.ref f) ∧ FnG X.prog X.w X.K X.mg X.base k f fd ps (toA X.K X.mg n φ) ∧ RoomG k X.A ∧ PySem.W.keepIn X.K (.ref f) = true ∧ Binds X.K fd ps []
theorem tab_nil : TabOk X n [] := fun x φ h => by cases h
theorem tab_cons {φ : SpA} {tab : List (Str × SpA)} {k : Nat} {f : Addr} {fd : FuncData} {ps : List Str} (F : FnG X.prog X.w X.K X.mg X.base k f fd ps (toA X.K X.mg n φ)) (hr : RoomG k X.A) (hm : X.mg x = some (.ref f)) (hk : PySem.W.keepIn X.K (.ref f) = true) (hb : Binds X.K fd ps []) (h : TabOk X n tab) : TabOk X n ((x, φ) :: tab) := fun y ψ hy => by
  by_cases e : y = x
  · subst e
    rw [List.lookup_cons_self] at hy
    cases hy
    exact ⟨k, f, fd, ps, hm, F, hr, hk, hb⟩
  · have e' : (y == x) = false := by simpa using e
    rw [List.lookup_cons, e'] at hy
    exact h y ψ hy
def dcV (tab : List (Str × SpA)) (gf : DE) (ga : DA) (Ex : DX) (st : LS) (Q : S → LS → Prop) : Prop := gf Ex st fun f st1 => match f with
  | .glo x => (match tab.lookup x with
    | some φ => ga Ex st1 fun ds st2 => φ ds (fun e => Ex e st2) fun r => Q r st2
    | none => False)
  | _ => False
theorem pod_callV {tab : List (Str × SpA)} {g : DA} (tk : Takes X W) (hT : TabOk X n tab) (hf : PED X W fe gf) (ha : PAD X W (e :: es) g)
    (hev : eval (.Call fe (e :: es) [] pos) X.env = (do let f ← eval fe X.env; callWith pos f [] (backTo pos (starEach (e :: es) X.env)) []) := by rfl)
    (hl : (e :: es).length = n := by rfl) (he : starEach (e :: es) X.env = (false, eval e X.env) :: starEach es X.env := by rfl) (hpl : (backTo pos (starEach es X.env)).any (·.1) = false := by rfl) :
    POD X W (.Call fe (e :: es) [] pos) (dcV tab gf g) := by
  obtain ⟨tf, pf, qf⟩ := hf.ex
  obtain ⟨ta, pa, qa⟩ := ha.ex
  refine ⟨fun σ H Q => tf σ H fun fv H1 => ∃ x φ f, fv = .ref f ∧ X.mg x = some (.ref f) ∧ tab.lookup x = some φ ∧ ta σ H1 fun vs H2 => toA X.K X.mg n φ vs H2 Q (WE W σ), ⟨fun pins s σ H Q I h => ?_⟩, fun C H0 H σ st Ex Q Qv hI hX hQ hg => qf C H0 H σ st Ex _ _ hI hX (fun d st1 fv H1 K1 q1 i1 s1 r1 => ?_) hg⟩
  · rw [hev]
    refine wpAny_bind (thn (pf.run pins s σ H _ I h) fun u s1 ⟨fv, H1, I1, rf, x, φ, f, ef, hm, hφ, q1⟩ => ?_)
    subst ef
    obtain rfl : u = Value.ref f := rf
    obtain ⟨k, f', fd, ps, hm', F, hr, hk, hb⟩ := hT x φ hφ
    obtain rfl : f' = f := by rw [hm] at hm'; cases hm'; rfl
    exact PySem.W.callWith_K (h₀ := X.base) I1.ok.mod.kin hk (thn (pa.run pos pins s1 σ H1 _ I1 q1) fun us s2 ⟨vs, H2, I2, r, q⟩ => ⟨I2.kIn, run_G (E := WE W) F hr hb (passAt tk σ) I2 r q⟩) he hpl
  · split at q1
    · rename_i x
      have r1' := r1
      unfold Rep at r1'
      obtain ⟨f, hm, rfl⟩ := r1'
      split at q1
      · rename_i φ hφ
        refine ⟨x, φ, f, rfl, hm, hφ, qa C H1 K1 σ st1 Ex _ _ i1 (hX.up s1) (fun ds st2 vs H2 K2 q2 i2 s2 r2 el => ?_) q1⟩
        refine ⟨by rw [r2.length, el]; exact hl, H2, ds, _, _, i2.same, r2, q2, fun er H3 K3 cls d q3 f3 r3 => ?_, fun r v H3 K3 q3 f3 r3 => ?_⟩
        · exact hX er st2 H3 K3 cls d q3 (i2.callA f3) ((s1.trans s2).trans f3.s0) r3
        · exact hQ r st2 v H3 K3 q3 (i2.callA f3) ((s1.trans s2).trans f3.s0) (RepT.r i2 (fun k a l t ds q => ⟨l, t, ds, q⟩) r3)
      · exact q1.elim
    · exact q1.elim
/-- a list times a small int: a new one -/
def dRep (ga gb : DE) (Ex : DX) (st : LS) (Q : S → LS → Prop) : Prop := ga Ex st fun x st1 => gb Ex st1 fun y st2 => match x, y with
  | .nd .lst xs, .int k => (-(2 ^ 63) ≤ k ∧ k < 2 ^ 63 ∧ xs.length * k.toNat ≤ 16777216) ∧ ∀ p, Q (.ow p true (.nd .lst (List.replicate k.toNat xs).flatten)) st2
  | _, _ => False
theorem repL_rep {K : PySem.W.Frag} {mg : Str → Option Value} {H : Hp} {ds : List D} {vs : List V} (h : RepL K mg H ds vs) : ∀ n : Nat, RepL K mg H (List.replicate n ds).flatten (List.replicate n vs).flatten
  | 0 => repL_nil
  | n + 1 => by
    rw [List.replicate_succ, List.replicate_succ, List.flatten_cons, List.flatten_cons]
    exact h.append (repL_rep h n)
theorem pod_rep (ha : PED X W a ga) (hb : PED X W b gb) : POD X W (.BinOp a .Mult b pos) (dRep ga gb) := by
  obtain ⟨ta, pa, qa⟩ := ha.ex
  obtain ⟨tb, pb, qb⟩ := hb.ex
  refine ⟨_, pe_op op_rep pa pb, fun C H0 H σ st Ex Q Qv hI hX hQ hg => qa C H0 H σ st Ex _ _ hI hX (fun x st1 v H1 K1 q1 i1 s1 r1 => ?_) hg⟩
  refine qb C H1 K1 σ st1 Ex _ _ i1 (hX.up s1) (fun y st2 u H2 K2 q2 i2 s2 r2 => ?_) q1
  split at q2
  · rename_i xs k
    obtain ⟨l, vs, rfl, h3, h4⟩ := (Rep.mono s2 _ _ r1).nd
    cases r2.int
    obtain ⟨⟨b1, b2, b3⟩, q2⟩ := q2
    refine ⟨l, k, vs, rfl, rfl, i2.same _ _ h3, b1, b2, by rw [h4.length]; exact b3, fun p hp => ?_⟩
    obtain ⟨i3, r3⟩ := i2.made (o := .lst (List.replicate k.toNat vs).flatten) (t := .lst) hp upd_same (repL_rep h4 _)
    exact hQ _ st2 _ H2 _ (q2 p) i3 (s1.trans s2) r3
  · exact q2.elim
end
end PD

/-! list comprehensions. -/
namespace PD
open PySem PySem.Spec PyProof.Rows L2
def wsE (X : Cx) (e : Expr) : TE := fun σ H Q => ∀ (pins : List (Addr × Obj)) (s : Shared), Inv X pins σ H s → wpAny (model X.prog X.w) X.A (eval e X.env) (EP X pins σ Q) X.xe s
def wsG (X : Cx) (tg : Expr) : TG := fun v σ H Q => ∀ (pins : List (Addr × Obj)) (s : Shared) (u : Value), Inv X pins σ H s → RelV v u → wpAny (model X.prog X.w) X.A (assign tg X.env u) (fun _ s' => ∃ σ' H', Inv X pins σ' H' s' ∧ Q σ' H') X.xe s
def wsT (X : Cx) (ifs : List Expr) : TT := fun σ H Q => ∀ (pins : List (Addr × Obj)) (s : Shared), Inv X pins σ H s →
    wpAny (model X.prog X.w) X.A (forIn ifs true fun c r => if r = true then do let ok ← isTrue c X.env (eval c X.env); pure (ForInStep.yield ok) else pure (ForInStep.yield r)) (TP X pins σ Q) X.xe s
/-- the slots of the block's own names emptied -/
def stW (st : LS) : List Nat → LS
  | [] => st
  | v :: vs => (stW st vs).set v .un
/-- a target whose store touches the slots vs alone -/
structure PGW (X : Cx) (e : Expr) (vs : List Nat) (g : DG) : Prop where
  ex : ∃ t, PG X e t ∧ ∀ (C : Cfg) (H0 H : Hp) (σ : L2.St) (st : LS) (d : D) (v : V) (Q : LS → Prop) (Qv : L2.St → Hp → Prop), I X.K X.mg C H0 H σ st → Rep X.K X.mg H0 d v →
    (∀ st' σ' H0' H', Q st' → I X.K X.mg C H0' H' σ' st' → Same H0 H0' → wipe σ' vs = wipe σ vs → Qv σ' H') → g d st Q → t v σ H Qv
theorem wipe_set {σ : L2.St} {i : Nat} {x : Option V} : ∀ {vs : List Nat}, i ∈ vs → wipe (σ.set i x) vs = wipe σ vs
  | [], h => by cases h
  | v :: vs, h => by
    unfold wipe
    by_cases e : i ∈ vs
    · rw [wipe_set e]
    · have hv : i = v := by
        rcases List.mem_cons.mp h with h | h
        · exact h
        · exact absurd h e
      subst hv
      have key : ∀ (ws : List Nat), i ∉ ws → wipe (σ.set i x) ws = (wipe σ ws).set i x := by
        intro ws
        induction ws with
        | nil => intro _; rfl
        | cons w ws ih =>
          intro hw
          unfold wipe
          have h1 : i ≠ w := fun z => hw (z ▸ List.mem_cons_self)
          rw [ih (fun z => hw (List.mem_cons_of_mem _ z)), List.set_comm _ _ h1]
      rw [key vs e, List.set_set]
theorem wipe_get (σ : L2.St) (j : Nat) : ∀ vs : List Nat, (wipe σ vs)[j]? = if j ∈ vs then σ[j]?.map (fun _ => none) else σ[j]?
  | [] => by simp [wipe]
  | v :: vs => by
    unfold wipe
    by_cases hv : v = j
    · subst hv
      rw [if_pos List.mem_cons_self]
      by_cases hl : v < (wipe σ vs).length
      · rw [List.getElem?_set_self hl]
        rw [wipe_length] at hl
        simp [hl]
      · rw [List.set_eq_of_length_le (Nat.le_of_not_lt hl), List.getElem?_eq_none (Nat.le_of_not_lt hl)]
        rw [wipe_length] at hl
        rw [List.getElem?_eq_none (Nat.le_of_not_lt hl)]; rfl
    · rw [List.getElem?_set_ne hv, wipe_get σ j vs]
      by_cases h : j ∈ vs
      · rw [if_pos h, if_pos (List.mem_cons_of_mem _ h)]
      · rw [if_neg h, if_neg (fun z => by rcases List.mem_cons.mp z with z | z; exact hv z.symm; exact h z)]
theorem wipe_idem (σ : L2.St) (vs : List Nat) : wipe (wipe σ vs) vs = wipe σ vs := by
  refine List.ext_getElem? fun j => ?_
  rw [wipe_get, wipe_get]
  by_cases h : j ∈ vs
  · rw [if_pos h, if_pos h]
    cases σ[j]? <;> rfl
  · simp [h]
theorem stW_get (σ : LS) (j : Nat) : ∀ vs : List Nat, (stW σ vs)[j]? = if j ∈ vs then σ[j]?.map (fun _ => S.un) else σ[j]?
  | [] => by simp [stW]
  | v :: vs => by
    have len : ∀ vs : List Nat, (stW σ vs).length = σ.length := fun vs => by
      induction vs with
      | nil => rfl
      | cons v vs ih => unfold stW; rw [List.length_set, ih]
    unfold stW
    by_cases hv : v = j
    · subst hv
      rw [if_pos List.mem_cons_self]
      by_cases hl : v < (stW σ vs).length
      · rw [List.getElem?_set_self hl]
        rw [len] at hl
        simp [hl]
      · rw [List.set_eq_of_length_le (Nat.le_of_not_lt hl), List.getElem?_eq_none (Nat.le_of_not_lt hl)]
        rw [len] at hl
        rw [List.getElem?_eq_none (Nat.le_of_not_lt hl)]; rfl
    · rw [List.getElem?_set_ne hv, stW_get σ j vs]
      by_cases h : j ∈ vs
      · rw [if_pos h, if_pos (List.mem_cons_of_mem _ h)]
      · rw [if_neg h, if_neg (fun z => by rcases List.mem_cons.mp z with z | z; exact hv z.symm; exact h z)]
theorem stW_idem (σ : LS) (vs : List Nat) : stW (stW σ vs) vs = stW σ vs := by
  refine List.ext_getElem? fun j => ?_
  rw [stW_get, stW_get]
  by_cases h : j ∈ vs
  · rw [if_pos h, if_pos h]
    cases σ[j]? <;> rfl
  · simp [h]
theorem pgw_name {X : Cx} {i : Nat} {x : Str} {pos : Pos} {vs : List Nat} (hN : X.N.Nodup) (hi : X.N[i]? = some x) (hx : Loc X.env.scope x) (hv : i ∈ vs) (hf : X.fn x = true ∨ X.env.scope.names.lookup x = some .local := by first | exact .inl rfl | exact .inr rfl | assumption) : PGW X (.Name x pos) vs (gdName i) :=
  ⟨_, pg_name hN hi hx hf, fun C H0 H σ st d v Q Qv hI hr k hg => k _ _ H0 H hg (hI.set (r := .fz d) hr) (Same.refl _) (wipe_set hv)⟩
section
variable {K : PySem.W.Frag} {mg : Str → Option Value} {C : Cfg} {H0 H : Hp} {σ : L2.St} {st : LS}
theorem I.wipe (i : I K mg C H0 H σ st) : ∀ vs : List Nat, I K mg C H0 H (wipe σ vs) (stW st vs)
  | [] => i
  | v :: vs => (I.wipe i vs).unset v
theorem stW_length (st : LS) : ∀ vs : List Nat, (stW st vs).length = st.length
  | [] => rfl
  | v :: vs => by unfold stW; rw [List.length_set, stW_length st vs]
theorem stW_in {st : LS} {i : Nat} : ∀ {vs : List Nat}, i ∈ vs → ∀ {s : S}, (stW st vs)[i]? = some s → s = .un
  | [], h, _, _ => by cases h
  | v :: vs, h, s, e => by
    unfold stW at e
    by_cases hl : v < (stW st vs).length
    · rw [getElem?_set_st hl] at e
      by_cases hv : i = v
      · rw [if_pos hv] at e; cases e; rfl
      · rw [if_neg hv] at e
        rcases List.mem_cons.mp h with z | z
        · exact absurd z hv
        · exact stW_in z e
    · rw [List.set_eq_of_length_le (Nat.le_of_not_lt hl)] at e
      by_cases hv : i = v
      · subst hv
        rw [List.getElem?_eq_none (Nat.le_of_not_lt hl)] at e; cases e
      · rcases List.mem_cons.mp h with z | z
        · exact absurd z hv
        · exact stW_in z e
/-- behind the block: the function's own slots again -/
theorem I.unwipe {vs : List Nat} (hl : st.length = σ.length) (i : I K mg C H0 H (L2.wipe σ vs) (stW st vs)) : I K mg C H0 H σ (stW st vs) where
  same := i.same
  up := i.up
  keep := i.keep
  low := i.low
  aa := i.aa
  len := by rw [stW_length]; exact hl
  slots := fun j => by
    by_cases h : j ∈ vs
    · cases e : (stW st vs)[j]? with
      | none => trivial
      | some s =>
        obtain rfl := stW_in h e
        trivial
    · have := i.slots j
      rw [wipe_out h] at this
      exact this
  dist := i.dist
/-- with the growing list D held -/
def Cfg.pin (C : Cfg) (D : Addr) (acc : List V) : Cfg := ⟨C.B0, upd C.B D (.lst acc), C.A⟩
theorem I.pinned {D : Addr} (i : I K mg C H0 H σ st) (hD : H D = none) : I K mg (C.pin D []) H0 (upd H D (.lst [])) σ st := by
  have j := i.own (o := .lst []) hD
  have h0 := i.same.free hD
  refine ⟨j.same, j.up, fun b o e n => ?_, fun b o e n => ?_, j.aa, j.len, fun k => ?_, j.dist⟩
  · by_cases q : b = D
    · subst q; rw [upd_same]; rw [show (C.pin b []).B b = some (.lst []) from upd_same] at e; exact e
    · rw [show (C.pin D []).B b = C.B b from upd_ne q] at e
      exact j.keep b o e n
  · by_cases q : b = D
    · subst q; exact h0
    · rw [show (C.pin D []).B b = C.B b from upd_ne q] at e
      exact j.low b o e n
  · have h := j.slots k
    cases e : st[k]? with
    | none => trivial
    | some s =>
      rw [e] at h
      cases s with
      | un => trivial
      | fz d => exact h
      | xc u er => exact h
      | ow a l d0 =>
        cases d0 with
        | nd t ds =>
          obtain ⟨h1, h2, h3, h4, h5⟩ := h
          have ne : a ≠ D := fun z => by subst z; exact (i.fresh hD).2 k l t ds e
          exact ⟨h1, h2, fun hl => (show (C.pin D []).B a = none from (upd_ne ne).trans (h3 hl)), h4, h5⟩
        | _ => first | trivial | exact h.elim | exact False.elim h
theorem I.keepD {D : Addr} {vacc : List V} (hA : D ∉ C.A) (i : I K mg (C.pin D vacc) H0 H σ st) : H D = some (.lst vacc) :=
  i.keep D _ upd_same hA
/-- one more item -/
theorem I.push {D : Addr} {vacc : List V} {y : V} (hA : D ∉ C.A) (h0 : C.B0 D = none) (i : I K mg (C.pin D vacc) H0 H σ st) : I K mg (C.pin D (vacc ++ [y])) H0 (upd H D (.lst (vacc ++ [y]))) σ st := by
  have hD := i.keepD hA
  have l0 : H0 D = none := i.low D _ upd_same h0
  refine ⟨fun b o e => ?_, i.up, fun b o e n => ?_, fun b o e n => ?_, fun a ha => ?_, i.len, fun k => ?_, i.dist⟩
  · rw [upd_ne (ne_of_none e l0)]; exact i.same _ _ e
  · by_cases q : b = D
    · subst q; rw [upd_same]; rw [show (C.pin b (vacc ++ [y])).B b = some (.lst (vacc ++ [y])) from upd_same] at e; exact e
    · rw [show (C.pin D (vacc ++ [y])).B b = C.B b from upd_ne q] at e
      rw [upd_ne q]
      exact i.keep b o ((show (C.pin D vacc).B b = C.B b from upd_ne q).trans e) n
  · by_cases q : b = D
    · subst q; exact l0
    · rw [show (C.pin D (vacc ++ [y])).B b = C.B b from upd_ne q] at e
      exact i.low b o ((show (C.pin D vacc).B b = C.B b from upd_ne q).trans e) n
  · obtain ⟨o, e⟩ := i.aa a ha
    by_cases q : a = D
    · subst q; exact ⟨_, upd_same⟩
    · exact ⟨o, by rw [upd_ne q]; exact e⟩
  · have h := i.slots k
    cases e : st[k]? with
    | none => trivial
    | some s =>
      rw [e] at h
      cases s with
      | un => trivial
      | fz d => exact h
      | xc u er => exact h
      | ow a l d0 =>
        cases d0 with
        | nd t ds =>
          obtain ⟨h1, h2, h3, h4, vs, h5, h6⟩ := h
          have ne : a ≠ D := fun z => by
            subst z
            cases l with
            | true => have z := h3 rfl; rw [show (C.pin a vacc).B a = some (.lst vacc) from upd_same] at z; cases z
            | false => exact hA (h4 rfl)
          exact ⟨h1, h2, fun hl => (show (C.pin D (vacc ++ [y])).B a = none from (upd_ne ne).trans ((show (C.pin D vacc).B a = C.B a from upd_ne ne) ▸ h3 hl)), h4, vs, h5.keep (fun o e => by rw [upd_ne ne]; exact e), h6⟩
        | _ => first | trivial | exact h.elim | exact False.elim h
/-- the list let go: an own new object -/
theorem I.unpin {D : Addr} {vacc : List V} {acc : List PD.D} (hD : C.B D = none) (hA : D ∉ C.A) (h0 : C.B0 D = none) (i : I K mg (C.pin D vacc) H0 H σ st) (r : RepL K mg H0 acc vacc) :
    I K mg C H0 H σ st ∧ RepR K mg C H0 H st (.ow D true (.nd .lst acc)) (.ref D) := by
  have e1 : ∀ b o, C.B b = some o → (C.pin D vacc).B b = some o := fun b o e => by
    rw [show (C.pin D vacc).B b = C.B b from upd_ne (ne_of_none e hD)]; exact e
  refine ⟨⟨i.same, i.up, fun b o e n => i.keep b o (e1 b o e) n, fun b o e n => i.low b o (e1 b o e) n, i.aa, i.len, fun k => ?_, i.dist⟩, rfl, rfl, i.low D _ upd_same h0, hD, fun k l t ds e => ?_, vacc, i.keepD hA, r⟩
  · have h := i.slots k
    cases e : st[k]? with
    | none => trivial
    | some s =>
      rw [e] at h
      cases s with
      | un => trivial
      | fz d => exact h
      | xc u er => exact h
      | ow a l d0 =>
        cases d0 with
        | nd t ds =>
          obtain ⟨h1, h2, h3, h4, h5⟩ := h
          refine ⟨h1, h2, fun hl => ?_, h4, h5⟩
          cases z : C.B a with
          | none => rfl
          | some o => rw [e1 a o z] at h3; cases h3 hl
        | _ => first | trivial | exact h.elim | exact False.elim h
  · obtain ⟨_, _, h3, h4, _⟩ := i.ow e
    cases l with
    | true => have z := h3 rfl; rw [show (C.pin D vacc).B D = some (.lst vacc) from upd_same] at z; cases z
    | false => exact hA (h4 rfl)
end
/-! ### the reading -/
def dLcL (t : DG) (tt : DT) (ge : DE) (vs : List Nat) : List D → List D → LS → (List D → LS → Prop) → Prop
  | [], acc, st, Q => Q acc st
  | d :: r, acc, st, Q => t d st fun st1 => tt (fun _ _ => False) st1 fun b st2 =>
    cond b (ge (fun _ _ => False) st2 fun y st3 => dLcL t tt ge vs r (acc ++ [y]) (stW st3 vs) Q) (dLcL t tt ge vs r acc (stW st2 vs) Q)
def dLc (i : DI) (t : DG) (tt : DT) (ge : DE) (vs : List Nat) (Ex : DX) (st : LS) (Q : S → LS → Prop) : Prop := i Ex st fun ds st1 => ds.length ≤ 16777216 ∧ dLcL t tt ge vs ds [] (stW st1 vs) fun acc st2 => ∀ p, Q (.ow p true (.nd .lst acc)) st2
def dYes (_u0 : DX) (st : LS) (Q : Bool → LS → Prop) : Prop := Q true st
structure PTsD (X : Cx) (W : WX) (ifs : List Expr) (g : DT) : Prop where
  ex : ∃ t, PTs X ifs t ∧ ∀ (C : Cfg) (H0 H : Hp) (σ : L2.St) (st : LS) (Ex : DX) (Q : Bool → LS → Prop) (Qv : Bool → Hp → Prop), I X.K X.mg C H0 H σ st → LkX X.K X.mg C H0 σ W Ex →
    (∀ d st' H0' H', Q d st' → I X.K X.mg C H0' H' σ st' → Same H0 H0' → Qv d H') → g Ex st Q → t σ H Qv
theorem ptsd_nil {X : Cx} {W : WX} : PTsD X W [] dYes := ⟨_, pts_nil, fun C H0 H σ st Ex Q Qv hI hX hQ hg => hQ true st H0 H hg hI (Same.refl _)⟩
theorem ptsd_one {X : Cx} {W : WX} {c : Expr} {g : DT} (h : PTD X W c g) : PTsD X W [c] g := by
  obtain ⟨t, p, q⟩ := h.ex
  exact ⟨_, pts_one p, q⟩
abbrev WN : WX := fun _ _ _ _ => False
theorem takes_N {X : Cx} : Takes X WN := fun u s' ⟨a, B, sI, pins, σ, H, cls, d, e, I, nb, up, sky, na, os, ag, w⟩ => w.elim
/-- several targets -/
structure PGWs (X : Cx) (es : List Expr) (vs : List Nat) (g : DGs) : Prop where
  ex : ∃ t, PGs X es t ∧ ∀ (C : Cfg) (H0 H : Hp) (σ : L2.St) (st : LS) (ds : List D) (us : List V) (Q : LS → Prop) (Qv : L2.St → Hp → Prop), I X.K X.mg C H0 H σ st → RepL X.K X.mg H0 ds us →
    (∀ st' σ' H0' H', Q st' → I X.K X.mg C H0' H' σ' st' → Same H0 H0' → wipe σ' vs = wipe σ vs → Qv σ' H') → g ds st Q → t us σ H Qv
section
variable {X : Cx} {W : WX} {e elt tg iter : Expr} {es ifs : List Expr} {pos : Pos} {vs : List Nat}
theorem pgws_nil : PGWs X [] vs gdNil := by
  refine ⟨_, pgs_nil, fun C H0 H σ st ds us Q Qv hI hr hQ hg => ?_⟩
  cases ds with
  | nil => exact ⟨hr.nil, hQ st σ H0 H hg hI (Same.refl _) rfl⟩
  | cons d r => exact hg.elim
theorem pgws_cons {ga : DG} {gb : DGs} (h1 : PGW X e vs ga) (h2 : PGWs X es vs gb) (hs : (assignEach (e :: es) X.env).map (·.2) = assign e X.env :: (assignEach es X.env).map (·.2) := by rfl) : PGWs X (e :: es) vs (gdCons ga gb) := by
  obtain ⟨ta, pa, qa⟩ := h1.ex
  obtain ⟨tb, pb, qb⟩ := h2.ex
  refine ⟨_, pgs_cons pa pb hs, fun C H0 H σ st ds us Q Qv hI hr hQ hg => ?_⟩
  cases ds with
  | nil => exact hg.elim
  | cons d r =>
    obtain ⟨v, w, rfl, h3, h4⟩ := hr.cons
    exact ⟨v, w, rfl, qa C H0 H σ st d v _ _ hI h3 (fun st' σ' H1 K1 q1 i1 s1 e1 => qb C H1 K1 σ' st' r w Q Qv i1 (RepL.mono s1 r w h4) (fun st2 σ2 H2 K2 q2 i2 s2 e2 => hQ st2 σ2 H2 K2 q2 i2 (s1.trans s2) (e2.trans e1)) q1) hg⟩
theorem pgw_tup {k : Nat} {n : Nat} {h : DGs} (hc : X.calm = true) (h1 : PGWs X es vs h) (hn : (assignEach es X.env).length = n := by rfl) (hst : (assignEach es X.env).findIdx? (·.1) = none := by rfl) : PGW X (.Tuple es k pos) vs (gdTup n h) := by
  obtain ⟨ta, pa, qa⟩ := h1.ex
  refine ⟨_, pg_tup hc pa hn hst, fun C H0 H σ st d v Q Qv hI hr hQ hg => ?_⟩
  obtain ⟨ds, rfl, hl, hg⟩ := qTup_of hg
  obtain ⟨a, us, rfl, h2, h3⟩ := hr.nd
  exact ⟨a, us, rfl, SqT.mono hI.same h2, by rw [h3.length]; exact hl, qa C H0 H σ st _ us Q Qv hI h3 hQ hg⟩
abbrev gLc (X : Cx) (scope : Scope) (tg : Expr) : TG := fun v σ H Q => ∀ (s : Shared) (H' : Hp) (C : Addr) (cl : List (Str × Addr)) (fp : List Addr), wsG (X.blk s H' scope (compEnvC scope cl C X.env) fp) tg v σ H Q
abbrev ttLc (X : Cx) (scope : Scope) (ifs : List Expr) : TT := fun σ H Q => ∀ (s : Shared) (H' : Hp) (C : Addr) (cl : List (Str × Addr)) (fp : List Addr), wsT (X.blk s H' scope (compEnvC scope cl C X.env) fp) ifs σ H Q
abbrev teLc (X : Cx) (scope : Scope) (elt : Expr) : TE := fun σ H Q => ∀ (s : Shared) (H' : Hp) (C : Addr) (cl : List (Str × Addr)) (fp : List Addr), wsE (X.blk s H' scope (compEnvC scope cl C X.env) fp) elt σ H Q
theorem lc_sem {scope : Scope} {own : List (Str × Nat)} {gi : DI} {t : DG} {tt : DT} {ge : DE} {wi : TI}
    (qi : ∀ (C : Cfg) (H0 H : Hp) (σ : L2.St) (st : LS) (Ex : DX) (Q : List D → LS → Prop) (R : It → Hp → Prop), I X.K X.mg C H0 H σ st → LkX X.K X.mg C H0 σ W Ex →
      (∀ ds st' J H0' H', Q ds st' → I X.K X.mg C H0' H' σ st' → Same H0 H0' → ItOk X.K X.mg J H0' ds → R J H') → gi Ex st Q → wi σ H R)
    (hg : ∀ (s : Shared) (H : Hp) (C : Addr) (cl : List (Str × Addr)) (fp : List Addr), PGW (X.blk s H scope (compEnvC scope cl C X.env) fp) tg (own.map (·.2)) t)
    (ht : ∀ (s : Shared) (H : Hp) (C : Addr) (cl : List (Str × Addr)) (fp : List Addr), PTsD (X.blk s H scope (compEnvC scope cl C X.env) fp) WN ifs tt)
    (he : ∀ (s : Shared) (H : Hp) (C : Addr) (cl : List (Str × Addr)) (fp : List Addr), PED (X.blk s H scope (compEnvC scope cl C X.env) fp) WN elt ge)
    (C : Cfg) (H0 H : Hp) (σ : L2.St) (st : LS) (Ex : DX) (Q : S → LS → Prop) (Qv : VK) (hI : I X.K X.mg C H0 H σ st) (hX : LkX X.K X.mg C H0 σ W Ex)
    (hQ : ∀ r st' v H0' H', Q r st' → I X.K X.mg C H0' H' σ st' → Same H0 H0' → RepR X.K X.mg C H0' H' st' r v → Qv v H') (hg' : dLc gi t tt ge (own.map (·.2)) Ex st Q) :
    tLc wi (gLc X scope tg) (ttLc X scope ifs) (teLc X scope elt) (own.map (·.2)) σ H Qv := by
  refine qi C H0 H σ st Ex _ _ hI hX (fun ds st1 J H1 K1 q1 i1 s1 j1 => ?_) hg'
  intro D hD
  obtain ⟨hz, q1⟩ := q1
  obtain ⟨fB, _⟩ := i1.fresh hD
  have fA : D ∉ C.A := fun z => by obtain ⟨o, e⟩ := i1.aa D z; rw [hD] at e; cases e
  have f0 : C.B0 D = none := by
    cases z : C.B0 D with
    | none => rfl
    | some o => have := i1.same _ _ (i1.up _ _ z); rw [hD] at this; cases this
  refine ⟨fun i m H' => m = ds.length - i ∧ i ≤ ds.length ∧ ∃ H2 st2 acc vacc, I X.K X.mg (C.pin D vacc) H2 H' (wipe σ (own.map (·.2))) st2 ∧ st2 = stW st2 (own.map (·.2)) ∧ Same H1 H2 ∧ RepL X.K X.mg H2 acc vacc ∧ acc.length ≤ i ∧
    dLcL t tt ge (own.map (·.2)) (ds.drop i) acc st2 (fun acc st2 => ∀ p, Q (.ow p true (.nd .lst acc)) st2), ⟨ds.length, by simp, Nat.zero_le _, H1, _, [], [], (i1.pinned hD).wipe _, ?_, Same.refl _, repL_nil, Nat.le_refl _, by simpa using q1⟩, ?_⟩
  · exact (stW_idem _ _).symm
  rintro i m H' ⟨rfl, hle, H2, st2, acc, vacc, i2, w2, s2, r2, l2, q2⟩
  by_cases hlt : i < ds.length
  · refine .inr ⟨j1.go i H' (s2.trans i2.same) hlt, fun H3 => ∃ H4 st4 acc4 vacc4, I X.K X.mg (C.pin D vacc4) H4 H3 (wipe σ (own.map (·.2))) st4 ∧ st4 = stW st4 (own.map (·.2)) ∧ Same H1 H4 ∧ RepL X.K X.mg H4 acc4 vacc4 ∧ acc4.length ≤ i + 1 ∧
      dLcL t tt ge (own.map (·.2)) (ds.drop (i + 1)) acc4 st4 (fun acc st2 => ∀ p, Q (.ow p true (.nd .lst acc)) st2), fun H3 ⟨H4, st4, acc4, vacc4, i4, w4, s4, r4, l4, q4⟩ => ⟨ds.length - (i + 1), by omega, rfl, hlt, H4, st4, acc4, vacc4, i4, w4, s4, r4, l4, q4⟩, fun x H3 y => ?_⟩
    obtain ⟨H4, d, hd, s4, i4, r4⟩ := j1.yld _ i H2 H' x H3 _ st2 s2 hlt i2 y
    have ed : ds.drop i = d :: ds.drop (i + 1) := by
      obtain ⟨hk, e⟩ := List.getElem?_eq_some_iff.mp hd
      rw [List.drop_eq_getElem_cons hk, e]
    rw [ed] at q2
    intro sB HB CB cl fp
    obtain ⟨tg', pg, qg⟩ := (hg sB HB CB cl fp).ex
    intro pins s' u Iv rv
    refine pg.run pins s' _ H3 x u _ Iv rv (qg _ H4 H3 _ st2 d x _ _ i4 r4 (fun st5 σ5 H5 K5 q5 i5 s5 e5 => ?_) q2)
    rw [wipe_idem] at e5
    refine ⟨e5, fun sB HB CB cl fp => ?_⟩
    obtain ⟨tt', pt, qt⟩ := (ht sB HB CB cl fp).ex
    intro pins s' Iv
    have up4 : Same H2 H5 := s4.trans s5
    refine pt.run pins s' σ5 K5 _ Iv (qt _ H5 K5 σ5 st5 _ _ _ i5 (fun _ _ _ _ _ _ z => z.elim) (fun b st6 H6 K6 q6 i6 s6 => ?_) q5)
    cases b with
    | false =>
      refine iteF ?_
      have i7 := i6.wipe (own.map (·.2))
      rw [e5] at i7
      exact ⟨H6, _, acc, vacc, i7, (stW_idem _ _).symm, s2.trans (up4.trans s6), RepL.mono (up4.trans s6) _ _ r2, by omega, q6⟩
    | true =>
      refine iteT fun sB HB CB cl fp => ?_
      obtain ⟨te', pe, qe⟩ := (he sB HB CB cl fp).ex
      intro pins s' Iv
      refine pe.run pins s' σ5 K6 _ Iv (qe _ H6 K6 σ5 st6 _ _ _ i6 (fun _ _ _ _ _ _ z => z.elim) (fun y st7 yv H7 K7 q7 i7 s7 r7 => ?_) q6)
      have hD7 := i7.keepD fA
      refine ⟨vacc, hD7, ?_, ?_⟩
      · have := r2.length
        show vacc.length < 16777216
        omega
      have i8 := (i7.push (y := yv) fA f0).wipe (own.map (·.2))
      rw [e5] at i8
      have up7 : Same H2 H7 := up4.trans (s6.trans s7)
      exact ⟨H7, _, acc ++ [y], vacc ++ [yv], i8, (stW_idem _ _).symm, s2.trans up7, RepL.append (RepL.mono up7 _ _ r2) (repL_cons r7 repL_nil), by rw [List.length_append]; simp; omega, q7⟩
  · have e : i = ds.length := by omega
    subst e
    rw [List.drop_length] at q2
    refine .inl ⟨j1.stop H' (s2.trans i2.same), ?_⟩
    rw [w2] at i2
    have hl : st2.length = σ.length := by
      have := i2.len
      rw [stW_length, wipe_length] at this
      exact this
    have i3 := i2.unwipe hl
    rw [← w2] at i3
    obtain ⟨i4, r4⟩ := i3.unpin fB fA f0 r2
    exact hQ _ st2 _ H2 H' (q2 D) i4 (s1.trans s2) r4
theorem pod_lc {scope : Scope} {own : List (Str × Nat)} {gi : DI} {t : DG} {tt : DT} {ge : DE} (hc : X.calm = true) (hN : X.N.Nodup) (hi : PID X W tg iter gi) (ok : BlkOk X.N X.env.scope scope own)
    (hg : ∀ (s : Shared) (H : Hp) (C : Addr) (cl : List (Str × Addr)) (fp : List Addr), PGW (X.blk s H scope (compEnvC scope cl C X.env) fp) tg (own.map (·.2)) t)
    (ht : ∀ (s : Shared) (H : Hp) (C : Addr) (cl : List (Str × Addr)) (fp : List Addr), PTsD (X.blk s H scope (compEnvC scope cl C X.env) fp) WN ifs tt)
    (he : ∀ (s : Shared) (H : Hp) (C : Addr) (cl : List (Str × Addr)) (fp : List Addr), PED (X.blk s H scope (compEnvC scope cl C X.env) fp) WN elt ge) (hs : ∀ x, foldedSetIterable iter X.env x = pure x := by intro _; rfl) :
    POD X W (.ListComp elt [⟨tg, iter, ifs, 0⟩] scope pos) (dLc gi t tt ge (own.map (·.2))) := by
  obtain ⟨wi, pi, qi⟩ := hi.ex
  exact ⟨_, pe_lc (g := gLc X scope tg) (tt := ttLc X scope ifs) (te := teLc X scope elt) hc hN pi ok (fun s H C cl fp => ⟨fun pins s' σ H' v u Q I r h => h s H C cl fp pins s' u I r⟩) (fun s H C cl fp => ⟨fun pins s' σ H' Q I h => h s H C cl fp pins s' I⟩)
    (fun s H C cl fp => ⟨fun pins s' σ H' Q I h => h s H C cl fp pins s' I⟩) hs, lc_sem qi hg ht he⟩
/-- y = [..] on one line -/
theorem psd_setLc {i : Nat} {y : Str} {py spos : Pos} {scope : Scope} {own : List (Str × Nat)} {gi : DI} {t : DG} {tt : DT} {ge : DE} (hc : X.calm = true) (hN : X.N.Nodup) (hy : X.N[i]? = some y) (hyl : X.env.scope.names.lookup y = some .local)
    (hsw : swapsWith (.ListComp elt [⟨tg, iter, ifs, 0⟩] scope pos) (some (.Name y py)) spos.line X.env = pure true) (hi : PID X W tg iter gi) (ok : BlkOk X.N X.env.scope scope own)
    (hg : ∀ (s : Shared) (H : Hp) (C : Addr) (cl : List (Str × Addr)) (fp : List Addr), PGW (X.blk s H scope (compEnvC scope cl C X.env) fp) tg (own.map (·.2)) t)
    (ht : ∀ (s : Shared) (H : Hp) (C : Addr) (cl : List (Str × Addr)) (fp : List Addr), PTsD (X.blk s H scope (compEnvC scope cl C X.env) fp) WN ifs tt)
    (he : ∀ (s : Shared) (H : Hp) (C : Addr) (cl : List (Str × Addr)) (fp : List Addr), PED (X.blk s H scope (compEnvC scope cl C X.env) fp) WN elt ge) (hs : ∀ x, foldedSetIterable iter X.env x = pure x := by intro _; rfl) :
    PSD X W (.Assign [.Name y py] (.ListComp elt [⟨tg, iter, ifs, 0⟩] scope pos) spos) (dSet i (dLc gi t tt ge (own.map (·.2)))) := by
  obtain ⟨wi, pi, qi⟩ := hi.ex
  refine ⟨_, ps_setLc (i := i) (g := gLc X scope tg) (tt := ttLc X scope ifs) (te := teLc X scope elt) hc hN hy hyl hsw pi ok (fun s H C cl fp => ⟨fun pins s' σ H' v u Q I r h => h s H C cl fp pins s' u I r⟩) (fun s H C cl fp => ⟨fun pins s' σ H' Q I h => h s H C cl fp pins s' I⟩)
    (fun s H C cl fp => ⟨fun pins s' σ H' Q I h => h s H C cl fp pins s' I⟩) hs, fun C H0 H σ st de Dn hI hL hg' => ?_⟩
  refine lc_sem qi hg ht he C H0 H σ st de.ex _ _ hI (hL.xp σ) (fun r st1 v H1 K1 q1 i1 s1 r1 => ?_) hg'
  exact hL.nx _ _ H1 K1 q1 (i1.set r1) s1
end
end PD

/-! Plain functions over data, and how readings follow from them. -/
namespace PD
open PySem PySem.Spec PyProof.Rows L2
inductive Res (ε α : Type) where
  | ok (a : α) | ex (e : ε) | no
section
variable {ε ε' α β : Type}
def wp (m : Res ε α) (Ex : ε → Prop) (Q : α → Prop) : Prop := match m with
  | .ok a => Q a
  | .ex e => Ex e
  | .no => False
def bO (o : Option α) (f : α → Res ε β) : Res ε β := match o with
  | some a => f a
  | none => .no
def bR (m : Res ε α) (f : α → Res ε β) : Res ε β := match m with
  | .ok a => f a
  | .ex e => .ex e
  | .no => .no
def noEx (m : Res ε α) : Res ε' α := match m with
  | .ok a => .ok a
  | _ => .no
/-- try: m, except: h where it is some -/
def tryR (m : Res ε α) (h : ε → Option (Res ε α)) : Res ε α := match m with
  | .ex e => (h e).getD (.ex e)
  | m => m
def foldR : List D → β → (D → β → Res ε β) → Res ε β
  | [], b, _ => .ok b
  | x :: r, b, f => bR (f x b) fun b' => foldR r b' f
/-- what a turn of a loop ends in: on, out of it, out of the def -/
inductive Ctl (α β : Type) where
  | nx (b : β) | bk (b : β) | rt (a : α)
def forR : List D → β → (D → β → Res ε (Ctl α β)) → Res ε (Ctl α β)
  | [], b, _ => .ok (.nx b)
  | x :: r, b, f => bR (f x b) fun c => match c with
    | .nx b' => forR r b' f
    | .bk b' => .ok (.nx b')
    | .rt a => .ok (.rt a)
def ctl {γ : Type} (c : Ctl γ β) (r : γ → Res ε α) (n : β → Res ε α) : Res ε α := match c with
  | .nx b => n b
  | .bk b => n b
  | .rt a => r a
def whR : Nat → β → (β → Res ε (Option β)) → Res ε β
  | 0, _, _ => .no
  | n + 1, b, f => bR (f b) fun o => match o with
    | some b' => whR n b' f
    | none => .ok b
def mapR : List D → (D → Res ε D) → Res ε (List D)
  | [], _ => .ok []
  | x :: r, f => bR (f x) fun y => bR (mapR r f) fun ys => .ok (y :: ys)
def filR : List D → (D → Res ε Bool) → (D → Res ε D) → Res ε (List D)
  | [], _, _ => .ok []
  | x :: r, t, f => bR (t x) fun b => cond b (bR (f x) fun y => bR (filR r t f) fun ys => .ok (y :: ys)) (filR r t f)
def mapS : List D → D → (D → D → Res ε (D × D)) → Res ε (List D × D)
  | [], s, _ => .ok ([], s)
  | x :: r, s, f => bR (f x s) fun y => bR (mapS r y.2 f) fun ys => .ok (y.1 :: ys.1, ys.2)
def qSz (ds : List D) : Option (List D) := if ds.length ≤ 16777216 then some ds else none
theorem wp_ok {a : α} {Ex : ε → Prop} {Q : α → Prop} : wp (.ok a) Ex Q = Q a := rfl
theorem wp_ex {e : ε} {Ex : ε → Prop} {Q : α → Prop} : wp (.ex e) Ex Q = Ex e := rfl
theorem wp_no {Ex : ε → Prop} {Q : α → Prop} : wp (.no) Ex Q = False := rfl
theorem wp_bO {o : Option α} {f : α → Res ε β} {Ex : ε → Prop} {Q : β → Prop} : wp (bO o f) Ex Q = wpO o fun a => wp (f a) Ex Q := by cases o <;> rfl
theorem wp_bR {m : Res ε α} {f : α → Res ε β} {Ex : ε → Prop} {Q : β → Prop} : wp (bR m f) Ex Q = wp m Ex fun a => wp (f a) Ex Q := by cases m <;> rfl
theorem wp_cond {b : Bool} {x y : Res ε α} {Ex : ε → Prop} {Q : α → Prop} : wp (cond b x y) Ex Q = cond b (wp x Ex Q) (wp y Ex Q) := by cases b <;> rfl
theorem wp_noEx {m : Res ε α} {Ex : ε' → Prop} {Q : α → Prop} : wp (noEx m) Ex Q = wp m (fun _ => False) Q := by cases m <;> rfl
theorem wp_try {m : Res ε α} {h : ε → Option (Res ε α)} {Ex : ε → Prop} {Q : α → Prop} : wp (tryR m h) Ex Q = wp m (fun e => match h e with | some r => wp r Ex Q | none => Ex e) Q := by
  cases m with
  | ex e => show wp ((h e).getD (.ex e)) Ex Q = match h e with | some r => wp r Ex Q | none => Ex e
            cases h e <;> rfl
  | _ => rfl
def ctlP (c : Ctl α β) (n b : β → Prop) (r : α → Prop) : Prop := match c with
  | .nx x => n x
  | .bk x => b x
  | .rt x => r x
theorem ctlP_nx {x : β} {n b : β → Prop} {r : α → Prop} : ctlP (.nx x) n b r = n x := rfl
theorem ctlP_bk {x : β} {n b : β → Prop} {r : α → Prop} : ctlP (.bk x) n b r = b x := rfl
theorem ctlP_rt {x : α} {n b : β → Prop} {r : α → Prop} : ctlP (.rt x) n b r = r x := rfl
theorem ctlP_imp {c : Ctl α β} {n b n' b' : β → Prop} {r r' : α → Prop} (h1 : ∀ x, n x → n' x) (h2 : ∀ x, b x → b' x) (h3 : ∀ x, r x → r' x) (q : ctlP c n b r) : ctlP c n' b' r' := by
  cases c with
  | nx x => exact h1 x q
  | bk x => exact h2 x q
  | rt x => exact h3 x q
theorem wp_ctl {γ : Type} {c : Ctl γ β} {r : γ → Res ε α} {n : β → Res ε α} {Ex : ε → Prop} {Q : α → Prop} : wp (ctl c r n) Ex Q = ctlP c (fun b => wp (n b) Ex Q) (fun b => wp (n b) Ex Q) (fun a => wp (r a) Ex Q) := by cases c <;> rfl
theorem wpO_some {a : α} {Q : α → Prop} : wpO (some a) Q = Q a := rfl
theorem wpO_imp {o : Option α} {Q Q' : α → Prop} (h : ∀ d, Q d → Q' d) (q : wpO o Q) : wpO o Q' := by
  cases o with
  | none => exact q
  | some a => exact h a q
theorem wp_imp {m : Res ε α} {Ex Ex' : ε → Prop} {Q Q' : α → Prop} (he : ∀ e, Ex e → Ex' e) (h : ∀ d, Q d → Q' d) (q : wp m Ex Q) : wp m Ex' Q' := by
  cases m with
  | no => exact q
  | ex e => exact he e q
  | ok a => exact h a q
theorem cond_imp {b : Bool} {A B A' B' : Prop} (ha : A → A') (hb : B → B') (q : cond b A B) : cond b A' B' := by
  cases b
  · exact hb q
  · exact ha q
theorem all_addr {P : Prop} : (∀ _ : Addr, P) = P := propext ⟨fun h => h (0 : Nat), fun h _ => h⟩
end
/-! loops -/
def loopE (de : DEnds) (nx bk : LS → Prop) : DEnds := { de with nx := nx, ct := nx, bk := bk }
def thenE (de : DEnds) (b : DS) : DEnds := { de with nx := fun s => b de s }
def tryE (de : DEnds) (i : Nat) (tb : Nat → Bool) (gs : XU → DErr → DS) : DEnds := { de with ex := fun e s => dTryX i tb gs de e s }
def suitE (de : DEnds) (i : Nat) : DEnds := ⟨fun s => de.nx (s.set i .un), de.rt, fun s => de.bk (s.set i .un), fun s => de.ct (s.set i .un), fun _ _ => False⟩
theorem sim_fold {β : Type} {t : DG} {b : DS} {de : DEnds} {step : D → β → Res DErr β} {Ex : DErr → Prop} {K : β → Prop} (V : β → LS → Prop)
    (hs : ∀ x c s (K' : β → Prop) (nx : LS → Prop), V c s → (∀ c' s', V c' s' → K' c' → nx s') → wp (step x c) Ex K' → t x s fun s1 => b (loopE de nx de.nx) s1)
    (hd : ∀ c s, V c s → K c → de.nx s) : ∀ (items : List D) (c : β) (s : LS), V c s → wp (foldR items c step) Ex K → dForL t b items de s
  | [], c, s, v, h => hd c s v h
  | x :: r, c, s, v, h => by
    unfold foldR at h
    rw [wp_bR] at h
    unfold dForL
    exact hs x c s _ _ v (fun c' s' v' h' => sim_fold V hs hd r c' s' v' h') h
theorem sim_for {α β : Type} {t : DG} {b : DS} {de : DEnds} {step : D → β → Res DErr (Ctl α β)} {Ex : DErr → Prop} {K : β → Prop} {R : α → Prop} (V : β → LS → Prop)
    (hs : ∀ x c s (K' B' : β → Prop) (nx bk : LS → Prop), V c s → (∀ c' s', V c' s' → K' c' → nx s') → (∀ c' s', V c' s' → B' c' → bk s') → wp (step x c) Ex (fun c => ctlP c K' B' R) → t x s fun s1 => b (loopE de nx bk) s1)
    (hd : ∀ c s, V c s → K c → de.nx s) : ∀ (items : List D) (c : β) (s : LS), V c s → wp (forR items c step) Ex (fun c => ctlP c K K R) → dForL t b items de s
  | [], c, s, v, h => hd c s v h
  | x :: r, c, s, v, h => by
    unfold forR at h
    rw [wp_bR] at h
    unfold dForL
    refine hs x c s (fun c' => wp (forR r c' step) Ex (fun c => ctlP c K K R)) K _ _ v (fun c' s' v' h' => sim_for V hs hd r c' s' v' h') hd ?_
    refine wp_imp (fun e h => h) (fun c h => ?_) h
    cases c <;> exact h
theorem sim_while {β : Type} {c : DT} {b : DS} {de : DEnds} {step : β → Res DErr (Option β)} {Ex : DErr → Prop} {K : β → Prop} (V : β → LS → Prop)
    (hs : ∀ x s (N : β → Prop) (nx : LS → Prop), V x s → (∀ c' s', V c' s' → N c' → nx s') → wp (step x) Ex (fun o => match o with | some b => N b | none => K x) →
      c de.ex s fun k st1 => cond k (b (loopE de nx de.nx) st1) (de.nx st1)) : ∀ (n : Nat) (x : β) (s : LS), V x s → wp (whR n x step) Ex K → dWhN c b n de s
  | 0, x, s, v, h => h.elim
  | n + 1, x, s, v, h => by
    unfold whR at h
    rw [wp_bR] at h
    unfold dWhN
    refine hs x s (fun b => wp (whR n b step) Ex K) _ v (fun c' s' v' h' => sim_while V hs n c' s' v' h') ?_
    refine wp_imp (fun e h => h) (fun o h => ?_) h
    cases o <;> exact h
theorem dWh_of {c : DT} {b : DS} {de : DEnds} {st : LS} (n : Nat) (h : dWhN c b n de st) : dWh c b de st := ⟨n, h⟩
/-! comprehensions -/
abbrev NE : DErr → Prop := fun _ => False
theorem sim_map {t : DG} {ge : DE} {vs : List Nat} {f : D → Res DErr D} {st0 : LS} {K : List D → LS → Prop}
    (hs : ∀ x (Q : D → Prop) (K' : D → LS → Prop), (∀ y s, stW s vs = st0 → Q y → K' y s) → wp (f x) NE Q → t x st0 fun st1 => ge (fun _ _ => False) st1 K') :
    ∀ (ds acc : List D) (Q : List D → Prop), (∀ ys, Q ys → K (acc ++ ys) st0) → wp (mapR ds f) NE Q → dLcL t dYes ge vs ds acc st0 K
  | [], acc, Q, hQ, h => by
    have := hQ [] h
    rw [List.append_nil] at this
    exact this
  | x :: r, acc, Q, hQ, h => by
    unfold mapR at h
    simp only [wp_bR, wp_ok] at h
    unfold dLcL dYes
    refine hs x _ _ (fun y s es q => ?_) h
    rw [es]
    exact sim_map hs r (acc ++ [y]) _ (fun ys q' => by rw [List.append_assoc]; exact hQ _ q') q
theorem sim_fil {t : DG} {tt : DT} {ge : DE} {vs : List Nat} {p : D → Res DErr Bool} {f : D → Res DErr D} {st0 : LS} {K : List D → LS → Prop}
    (hs : ∀ x (Q : D → Prop) (P : Prop) (K1 : D → LS → Prop) (K0 : LS → Prop), (∀ y s, stW s vs = st0 → Q y → K1 y s) → (∀ s, stW s vs = st0 → P → K0 s) →
      wp (p x) NE (fun b => cond b (wp (f x) NE Q) P) → t x st0 fun st1 => tt (fun _ _ => False) st1 fun b st2 => cond b (ge (fun _ _ => False) st2 K1) (K0 st2)) :
    ∀ (ds acc : List D) (Q : List D → Prop), (∀ ys, Q ys → K (acc ++ ys) st0) → wp (filR ds p f) NE Q → dLcL t tt ge vs ds acc st0 K
  | [], acc, Q, hQ, h => by
    have := hQ [] h
    rw [List.append_nil] at this
    exact this
  | x :: r, acc, Q, hQ, h => by
    unfold filR at h
    simp only [wp_bR, wp_ok, wp_cond] at h
    unfold dLcL
    refine hs x _ _ _ _ (fun y s es q => ?_) (fun s es q => ?_) h
    · rw [es]
      exact sim_fil hs r (acc ++ [y]) _ (fun ys q' => by rw [List.append_assoc]; exact hQ _ q') q
    · rw [es]
      exact sim_fil hs r acc _ hQ q
theorem sim_mapS {t : DG} {ge : DE} {vs : List Nat} {f : D → D → Res DErr (D × D)} {st0 : D → LS} {K : List D → LS → Prop}
    (hs : ∀ x o (Q : D × D → Prop) (K' : D → LS → Prop), (∀ y o' s, stW s vs = st0 o' → Q (y, o') → K' y s) → wp (f x o) NE Q → t x (st0 o) fun st1 => ge (fun _ _ => False) st1 K') :
    ∀ (ds acc : List D) (o : D) (Q : List D × D → Prop), (∀ ys o', Q (ys, o') → K (acc ++ ys) (st0 o')) → wp (mapS ds o f) NE Q → dLcL t dYes ge vs ds acc (st0 o) K
  | [], acc, o, Q, hQ, h => by
    have := hQ [] o h
    rw [List.append_nil] at this
    exact this
  | x :: r, acc, o, Q, hQ, h => by
    unfold mapS at h
    simp only [wp_bR, wp_ok] at h
    unfold dLcL dYes
    refine hs x o (fun y => wp (mapS r y.2 f) NE fun ys => Q (y.1 :: ys.1, ys.2)) _ (fun y o' s es q => ?_) h
    rw [es]
    exact sim_mapS hs r (acc ++ [y]) o' _ (fun ys o2 q' => by rw [List.append_assoc]; exact hQ _ _ q') q
end PD

/-! Operators and built-ins as partial functions over data. -/
namespace PD
open PySem PySem.Spec PyProof.Rows L2
abbrev Q1 := D → Option D
abbrev Q2 := D → D → Option D
abbrev QL := List D → Option D
def w1 (q : Q1) : F1 := fun x Q => wpO (q x) Q
def w2 (q : Q2) : F2 := fun x y Q => wpO (q x y) Q
def wL (q : QL) : FL := fun xs Q => wpO (q xs) Q
section
variable {X : Cx} {W : WX} {e a b c : Expr} {es : List Expr} {s : Stmt} {g g' ga gb : DE} {pos : Pos}
theorem PED.imp (h : PED X W e g) (k : ∀ Ex st Q, g' Ex st Q → g Ex st Q) : PED X W e g' := by
  obtain ⟨t, p, q⟩ := h.ex
  exact ⟨t, p, fun C H0 H σ st Ex Q Qv hI hX hQ hg => q C H0 H σ st Ex Q Qv hI hX hQ (k _ _ _ hg)⟩
theorem POD.imp {g g' : DO} (h : POD X W e g) (k : ∀ Ex st Q, g' Ex st Q → g Ex st Q) : POD X W e g' := by
  obtain ⟨t, p, q⟩ := h.ex
  exact ⟨t, p, fun C H0 H σ st Ex Q Qv hI hX hQ hg => q C H0 H σ st Ex Q Qv hI hX hQ (k _ _ _ hg)⟩
theorem PSD.imp {g g' : DS} (h : PSD X W s g) (k : ∀ de st, g' de st → g de st) : PSD X W s g' := by
  obtain ⟨t, p, q⟩ := h.ex
  exact ⟨t, p, fun C H0 H σ st de Dn hI hL hg => q C H0 H σ st de Dn hI hL (k _ _ hg)⟩
theorem PID.imp {tg : Expr} {g g' : DI} (h : PID X W tg e g) (k : ∀ Ex st Q, g' Ex st Q → g Ex st Q) : PID X W tg e g' := by
  obtain ⟨t, p, q⟩ := h.ex
  exact ⟨t, p, fun C H0 H σ st Ex Q R hI hX hQ hg => q C H0 H σ st Ex Q R hI hX hQ (k _ _ _ hg)⟩
end
/-! ### binary operators -/
def OpA (X : Cx) (F : Value → Value → Sem Value) (q : Q2) : Prop := ∃ r, OpR X F r ∧ ∀ (C : Cfg) (H0 H : Hp) (σ : L2.St) (st : LS) (x y d : D) (v u : V) (Qv : VK), I X.K X.mg C H0 H σ st → Rep X.K X.mg H0 x v → Rep X.K X.mg H0 y u → q x y = some d →
  (∀ w H0' H', I X.K X.mg C H0' H' σ st → Same H0 H0' → Rep X.K X.mg H0' d w → Qv w H') → r v u H Qv
def qOr (p q : Q2) : Q2 := fun x y => match p x y with
  | some d => some d
  | none => q x y
section
variable {X : Cx} {W : WX} {F : Value → Value → Sem Value}
theorem OpA.or {p q : Q2} (h : OpA X F p) (k : OpA X F q) : OpA X F (qOr p q) := by
  obtain ⟨r, h1, h2⟩ := h
  obtain ⟨r', k1, k2⟩ := k
  refine ⟨_, h1.or k1, fun C H0 H σ st x y d v u Qv hI rx ry e hQ => ?_⟩
  unfold qOr at e
  split at e
  · rename_i d' e'
    cases e
    exact .inl (h2 C H0 H σ st x y _ v u Qv hI rx ry e' hQ)
  · exact .inr (k2 C H0 H σ st x y _ v u Qv hI rx ry e hQ)
theorem OpA.of {f : F2} {q : Q2} (h : OpD X F f) (k : ∀ x y d (Q : D → Prop), q x y = some d → Q d → f x y Q) : OpA X F q := by
  obtain ⟨r, h1, h2⟩ := h
  exact ⟨r, h1, fun C H0 H σ st x y d v u Qv hI rx ry e hQ => h2 H0 H x y v u (fun z => z = d) Qv hI.same rx ry (k x y d _ e rfl) fun d' w ed rw' => by subst ed; exact hQ w H0 H hI (Same.refl _) rw'⟩
theorem OpA.sub {p q : Q2} (h : OpA X F p) (k : ∀ x y d, q x y = some d → p x y = some d) : OpA X F q := by
  obtain ⟨r, h1, h2⟩ := h
  exact ⟨r, h1, fun C H0 H σ st x y d v u Qv hI rx ry e hQ => h2 C H0 H σ st x y d v u Qv hI rx ry (k _ _ _ e) hQ⟩
variable {a b : Expr} {ga gb : DE} {pos : Pos}
theorem binA_run {q : Q2} {ta tb : TE} {r : R2} (hr : ∀ (C : Cfg) (H0 H : Hp) (σ : L2.St) (st : LS) (x y d : D) (v u : V) (Qv : VK), I X.K X.mg C H0 H σ st → Rep X.K X.mg H0 x v → Rep X.K X.mg H0 y u → q x y = some d →
      (∀ w H0' H', I X.K X.mg C H0' H' σ st → Same H0 H0' → Rep X.K X.mg H0' d w → Qv w H') → r v u H Qv)
    (ha : ∀ (C : Cfg) (H0 H : Hp) (σ : L2.St) (st : LS) (Ex : DX) (Q : D → LS → Prop) (Qv : VK), I X.K X.mg C H0 H σ st → LkX X.K X.mg C H0 σ W Ex → (∀ d st' v H0' H', Q d st' → I X.K X.mg C H0' H' σ st' → Same H0 H0' → Rep X.K X.mg H0' d v → Qv v H') → ga Ex st Q → ta σ H Qv)
    (hb : ∀ (C : Cfg) (H0 H : Hp) (σ : L2.St) (st : LS) (Ex : DX) (Q : D → LS → Prop) (Qv : VK), I X.K X.mg C H0 H σ st → LkX X.K X.mg C H0 σ W Ex → (∀ d st' v H0' H', Q d st' → I X.K X.mg C H0' H' σ st' → Same H0 H0' → Rep X.K X.mg H0' d v → Qv v H') → gb Ex st Q → tb σ H Qv)
    (C : Cfg) (H0 H : Hp) (σ : L2.St) (st : LS) (Ex : DX) (Q : D → LS → Prop) (Qv : VK) (hI : I X.K X.mg C H0 H σ st) (hX : LkX X.K X.mg C H0 σ W Ex)
    (hQ : ∀ d st' v H0' H', Q d st' → I X.K X.mg C H0' H' σ st' → Same H0 H0' → Rep X.K X.mg H0' d v → Qv v H') (hg : dOp (w2 q) ga gb Ex st Q) : tOp r ta tb σ H Qv := by
  refine ha C H0 H σ st Ex _ _ hI hX (fun x st1 v H1 K1 q1 i1 s1 r1 => ?_) hg
  refine hb C H1 K1 σ st1 Ex _ _ i1 (hX.up s1) (fun y st2 u H2 K2 q2 i2 s2 r2 => ?_) q1
  obtain ⟨d, hd, qd⟩ := wpO_of q2
  exact hr C H2 K2 σ st2 x y d v u _ i2 (Rep.mono s2 x v r1) r2 hd fun w H3 K3 i3 s3 r3 => hQ d st2 w H3 K3 qd i3 ((s1.trans s2).trans s3) r3
theorem pedA_op {op : Operator} {q : Q2} (ho : OpA X (binaryOp op) q) (ha : PED X W a ga) (hb : PED X W b gb) : PED X W (.BinOp a op b pos) (dOp (w2 q) ga gb) := by
  obtain ⟨r, h1, h2⟩ := ho
  obtain ⟨ta, pa, qa⟩ := ha.ex
  obtain ⟨tb, pb, qb⟩ := hb.ex
  exact ⟨_, pe_op h1 pa pb, binA_run h2 qa qb⟩
theorem pedA_cmp {op : CmpOp} {q : Q2} (ho : OpA X (compareOp op) q) (ha : PED X W a ga) (hb : PED X W b gb) (hm : behindInMarks op b = false := by first | exact nomark _ | with_unfolding_all rfl) : PED X W (.Compare a [op] [b] pos) (dOp (w2 q) ga gb) := by
  obtain ⟨r, h1, h2⟩ := ho
  obtain ⟨ta, pa, qa⟩ := ha.ex
  obtain ⟨tb, pb, qb⟩ := hb.ex
  exact ⟨_, pe_cmpR h1 pa pb hm, binA_run h2 qa qb⟩
theorem ptdA_cmp {op : CmpOp} {q : Q2} (ho : OpA X (compareOp op) q) (ha : PED X W a ga) (hb : PED X W b gb) (hm : behindInMarks op b = false := by first | exact nomark _ | with_unfolding_all rfl) : PTD X W (.Compare a [op] [b] pos) (dTst (dOp (w2 q) ga gb)) := by
  obtain ⟨r, h1, h2⟩ := ho
  obtain ⟨ta, pa, qa⟩ := ha.ex
  obtain ⟨tb, pb, qb⟩ := hb.ex
  refine ⟨_, pt_cmpR h1 pa pb hm, fun C H0 H σ st Ex Q Qv hI hX hQ hg => binA_run h2 qa qb C H0 H σ st Ex _ _ hI hX (fun d st' v H0' H' q i' s' rr => ?_) hg⟩
  cases d with
  | bl b => exact ⟨b, rr.bl, hQ b st' H0' H' q i' s'⟩
  | _ => exact q.elim
end
def qI (g : Int → Int → Int) : Q2 := fun x y => match x, y with
  | .int i, .int j => some (.int (g i j))
  | _, _ => none
def qIc (c : Int → Int → Bool) (g : Int → Int → Int) : Q2 := fun x y => match x, y with
  | .int i, .int j => if c i j then some (.int (g i j)) else none
  | _, _ => none
def qB (g : Int → Int → Bool) : Q2 := fun x y => match x, y with
  | .int i, .int j => some (.bl (g i j))
  | _, _ => none
/-- the bits of an int -/
def bits (i : Int) : Nat := i.natAbs.log2 + 1
theorem bits_lt (i : Int) : i.natAbs < 2 ^ bits i := Nat.lt_log2_self
theorem bits_le {i : Int} {b : Nat} (h : Bz b i) (hb : 0 < b) : bits i ≤ b := by
  unfold bits Bz at *
  by_cases h0 : i.natAbs = 0
  · rw [h0, Nat.log2_zero]; omega
  · have := (Nat.log2_lt h0).mpr h
    omega
def mulB (i j : Int) : Bool := decide (bits i + bits j ≤ 900000) || (decide (bits i ≤ 63) || decide (bits j ≤ 63))
theorem mulB_ok {i j : Int} (h : mulB i j = true) : MulOk i j := by
  unfold mulB at h
  have small : ∀ i : Int, bits i ≤ 63 → -(2 ^ 64) < i ∧ i < 2 ^ 64 := fun i hi => by
    have h1 := bits_lt i
    have h2 : 2 ^ bits i ≤ 2 ^ 63 := Nat.pow_le_pow_right (by decide) hi
    have h3 : i.natAbs < 2 ^ 63 := Nat.lt_of_lt_of_le h1 h2
    have e : (2 : Nat) ^ 63 = 9223372036854775808 := by decide
    omega
  simp only [Bool.or_eq_true, decide_eq_true_eq] at h
  rcases h with h | h | h
  · exact (wide_mul (a := bits i) (b := bits j) (bits_lt i) (bits_lt j) (Nat.succ_pos _) (Nat.succ_pos _) (by omega)).ok
  · exact mulSmallL (small i h).1 (small i h).2
  · exact mulSmallR (small j h).1 (small j h).2
def divB (j : Int) : Bool := decide (j ≠ 0) && decide (bits j ≤ 9000)
theorem divB_ok {i j : Int} (h : divB j = true) : DivOk i j := by
  unfold divB at h
  simp only [Bool.and_eq_true, decide_eq_true_eq] at h
  exact ⟨h.1, by unfold bits at h; omega⟩
section
variable {X : Cx}
theorem qI_of {F : Value → Value → Sem Value} {g : Int → Int → Int} (h : OpD X F (fI0 g)) : OpA X F (qI g) := .of h fun x y d Q e q => by
  unfold qI at e
  split at e
  · cases e; exact q
  · cases e
theorem qIc_of {F : Value → Value → Sem Value} {c : Int → Int → Bool} {Cn : Int → Int → Prop} {g : Int → Int → Int} (h : OpD X F (fI Cn g)) (hc : ∀ i j, c i j = true → Cn i j) : OpA X F (qIc c g) := .of h fun x y d Q e q => by
  unfold qIc at e
  split at e
  · split at e
    · cases e; exact ⟨hc _ _ (by assumption), q⟩
    · cases e
  · cases e
theorem qB_of {F : Value → Value → Sem Value} {g : Int → Int → Bool} (h : OpD X F (fB g)) : OpA X F (qB g) := .of h fun x y d Q e q => by
  unfold qB at e
  split at e
  · cases e; exact q
  · cases e
def qAddS : Q2 := fun x y => match x, y with
  | .str s, .str t => if s.length + t.length ≤ 16777216 then some (.str (s ++ t)) else none
  | _, _ => none
def qCat : Q2 := fun x y => match x, y with
  | .nd .lst xs, .nd .lst ys => if xs.length + ys.length ≤ 16777216 then some (.nd .lst (xs ++ ys)) else none
  | _, _ => none
def qCatT : Q2 := fun x y => match x, y with
  | .nd .tup xs, .nd .tup ys => if xs.length + ys.length ≤ 16777216 then some (.nd .tup (xs ++ ys)) else none
  | _, _ => none
theorem a_addS : OpA X (binaryOp .Add) qAddS := ⟨_, op_add_str, fun C H0 H σ st x y d v u Qv hI rx ry e hQ => by
  unfold qAddS at e
  split at e
  · split at e
    · cases e; cases rx.str; cases ry.str
      exact ⟨_, _, rfl, rfl, by assumption, hQ _ _ _ hI (Same.refl _) rep_str⟩
    · cases e
  · cases e⟩
theorem a_cat : OpA X (binaryOp .Add) qCat := ⟨_, op_cat, fun C H0 H σ st x y d v u Qv hI rx ry e hQ => by
  unfold qCat at e
  split at e
  · split at e
    · cases e
      obtain ⟨l, vs, rfl, h3, h4⟩ := rx.nd
      obtain ⟨m, us, rfl, h5, h6⟩ := ry.nd
      refine ⟨l, m, vs, us, rfl, rfl, hI.same _ _ h3, hI.same _ _ h5, by rw [h4.length, h6.length]; assumption, fun p hp => ?_⟩
      have hp0 := hI.same.free hp
      exact hQ _ _ _ (hI.new hp) (same_upd hp0) (rep_nd (t := .lst) upd_same (RepL.mono (same_upd hp0) _ _ (h4.append h6)))
    · cases e
  · cases e⟩
theorem a_catT : OpA X (binaryOp .Add) qCatT := ⟨_, op_catA, fun C H0 H σ st x y d v u Qv hI rx ry e hQ => by
  unfold qCatT at e
  split at e
  · split at e
    · cases e
      rename_i xs ys hz
      obtain ⟨l, vs, rfl, h3, h4⟩ := rx.nd
      obtain ⟨m, us, rfl, h5, h6⟩ := ry.nd
      refine ⟨l, m, vs, us, rfl, rfl, SqT.mono hI.same h3, SqT.mono hI.same h5, by rw [h4.length, h6.length]; exact hz, fun ez => ?_, fun _ ez => ?_, fun _ _ p hp => ?_⟩
      · subst ez
        have : xs = [] := List.length_eq_zero_iff.mp (by rw [← h4.length]; rfl)
        subst this
        exact hQ _ _ _ hI (Same.refl _) (rep_nd h5 h6)
      · subst ez
        have : ys = [] := List.length_eq_zero_iff.mp (by rw [← h6.length]; rfl)
        subst this
        rw [List.append_nil] at hQ
        exact hQ _ _ _ hI (Same.refl _) (rep_nd h3 h4)
      · have hp0 := hI.same.free hp
        exact hQ _ _ _ (hI.new hp) (same_upd hp0) (rep_nd (t := .tup) (SqT.of upd_same) (RepL.mono (same_upd hp0) _ _ (h4.append h6)))
    · cases e
  · cases e⟩
def qRepL : Q2 := fun x y => match x, y with
  | .nd .lst xs, .int k => if decide (-(2 ^ 63) ≤ k) && (decide (k < 2 ^ 63) && decide (xs.length * k.toNat ≤ 16777216)) then some (.nd .lst (List.replicate k.toNat xs).flatten) else none
  | _, _ => none
def qRepT : Q2 := fun x y => match x, y with
  | .nd .tup xs, .int k => if decide (xs ≠ []) && (decide (2 ≤ k) && (decide (k ≤ 1000) && decide (xs.length ≤ 1000))) then some (.nd .tup (List.replicate k.toNat xs).flatten) else none
  | _, _ => none
theorem a_repL : OpA X (binaryOp .Mult) qRepL := ⟨_, op_rep, fun C H0 H σ st x y d v u Qv hI rx ry e hQ => by
  unfold qRepL at e
  split at e
  · split at e
    · cases e
      rename_i xs k hc
      simp only [Bool.and_eq_true, decide_eq_true_eq] at hc
      obtain ⟨l, vs, rfl, h3, h4⟩ := rx.nd
      cases ry.int
      refine ⟨l, k, vs, rfl, rfl, hI.same _ _ h3, hc.1, hc.2.1, by rw [h4.length]; exact hc.2.2, fun p hp => ?_⟩
      have hp0 := hI.same.free hp
      exact hQ _ _ _ (hI.new hp) (same_upd hp0) (rep_nd (t := .lst) upd_same (RepL.mono (same_upd hp0) _ _ (repL_rep h4 _)))
    · cases e
  · cases e⟩
theorem a_repT : OpA X (binaryOp .Mult) qRepT := ⟨_, op_repT, fun C H0 H σ st x y d v u Qv hI rx ry e hQ => by
  unfold qRepT at e
  split at e
  · split at e
    · cases e
      rename_i xs k hc
      simp only [Bool.and_eq_true, decide_eq_true_eq] at hc
      obtain ⟨l, vs, rfl, h3, h4⟩ := rx.nd
      cases ry.int
      refine ⟨l, k, vs, rfl, rfl, SqT.mono hI.same h3, fun z => hc.1 (by subst z; exact List.length_eq_zero_iff.mp (by rw [← h4.length]; rfl)), hc.2.1, hc.2.2.1, by rw [h4.length]; exact hc.2.2.2, fun p hp => ?_⟩
      have hp0 := hI.same.free hp
      exact hQ _ _ _ (hI.new hp) (same_upd hp0) (rep_nd (t := .tup) (SqT.of upd_same) (RepL.mono (same_upd hp0) _ _ (repL_rep h4 _)))
    · cases e
  · cases e⟩
/-- + : ints, texts, lists, tuples -/
def qAdd : Q2 := qOr (qI fun i j => i + j) (qOr qAddS (qOr qCat qCatT))
def qSub : Q2 := qI fun i j => i - j
def qMul : Q2 := qOr (qIc mulB fun i j => i * j) (qOr qRepL qRepT)
def qDiv : Q2 := qIc (fun _ j => divB j) Int.fdiv
def qMod : Q2 := qIc (fun _ j => decide (j ≠ 0)) Int.fmod
def qPow : Q2 := qIc (fun i j => decide (0 ≤ j) && (decide (j ≤ 1000000) && decide (bits i ≤ 63))) fun i j => i ^ j.toNat
def qLt : Q2 := qB fun i j => decide (i < j)
def qLe : Q2 := qB fun i j => decide (i ≤ j)
def qGt : Q2 := qB fun i j => decide (j < i)
def qGe : Q2 := qB fun i j => decide (j ≤ i)
theorem a_add : OpA X (binaryOp .Add) qAdd := (qI_of o_add).or (a_addS.or (a_cat.or a_catT))
theorem a_sub : OpA X (binaryOp .Sub) qSub := qI_of o_sub
theorem a_mul : OpA X (binaryOp .Mult) qMul := (qIc_of o_mul fun _ _ => mulB_ok).or (a_repL.or a_repT)
theorem a_div : OpA X (binaryOp .FloorDiv) qDiv := qIc_of o_div fun _ _ => divB_ok
theorem a_mod : OpA X (binaryOp .Mod) qMod := qIc_of o_mod fun _ _ h => of_decide_eq_true h
theorem a_pow : OpA X (binaryOp .Pow) qPow := qIc_of o_pow fun i j h => by
  simp only [Bool.and_eq_true, decide_eq_true_eq] at h
  refine ⟨h.1, h.2.1, ?_⟩
  exact Nat.lt_of_lt_of_le (bits_lt i) (Nat.pow_le_pow_right (by decide) (by omega))
theorem a_lt : OpA X (compareOp .Lt) qLt := qB_of o_lt
theorem a_le : OpA X (compareOp .LtE) qLe := qB_of o_le
theorem a_gt : OpA X (compareOp .Gt) qGt := qB_of o_gt
theorem a_ge : OpA X (compareOp .GtE) qGe := qB_of o_ge
def eqOk (x y : D) : Bool := (py x).plain && ((py y).plain && decide (min (py x).depth (py y).depth ≤ 60))
def eqD (x y : D) : Bool := PyData.eqv (py x) (py y)
def qEq : Q2 := fun x y => if eqOk x y then some (.bl (eqD x y)) else none
def qNe : Q2 := fun x y => if eqOk x y then some (.bl (!eqD x y)) else none
theorem eqOk_of {x y : D} (h : eqOk x y = true) : (py x).plain = true ∧ (py y).plain = true ∧ min (py x).depth (py y).depth ≤ 60 := by
  unfold eqOk at h
  simpa only [Bool.and_eq_true, decide_eq_true_eq] using h
theorem a_eq {k : Nat} (hr : Room k X.A) : OpA X (compareOp .Eq) qEq := .of (o_eq hr) fun x y d Q e q => by
  unfold qEq at e
  split at e
  · rename_i h
    obtain ⟨h1, h2, h3⟩ := eqOk_of h
    cases e; exact ⟨h1, h2, h3, q⟩
  · cases e
theorem a_ne {k : Nat} (hr : Room k X.A) : OpA X (compareOp .NotEq) qNe := .of (o_ne hr) fun x y d Q e q => by
  unfold qNe at e
  split at e
  · rename_i h
    obtain ⟨h1, h2, h3⟩ := eqOk_of h
    cases e; exact ⟨h1, h2, h3, q⟩
  · cases e
def qIs : Q2 := fun x y => match x, y with
  | x, .non => some (.bl (isNon x))
  | .bl a, .bl b => some (.bl (decide (a = b)))
  | _, _ => none
def qIsNot : Q2 := fun x y => match x, y with
  | x, .non => some (.bl (!isNon x))
  | .bl a, .bl b => some (.bl (!decide (a = b)))
  | _, _ => none
theorem a_is : OpA X (compareOp .Is) qIs := .of o_is fun x y d Q e q => by
  unfold qIs at e
  unfold fIs
  split at e <;> first | (cases e; exact q) | (cases e)
theorem a_isNot : OpA X (compareOp .IsNot) qIsNot := .of o_isNot fun x y d Q e q => by
  unfold qIsNot at e
  unfold fIsNot
  split at e <;> first | (cases e; exact q) | (cases e)
end
end PD

namespace PD
open PySem PySem.Spec PyProof.Rows L2
/-! ### one operand, places, calls -/
def UnA (X : Cx) (F : Value → Sem Value) (q : Q1) : Prop := ∃ r, UnR X F r ∧ ∀ (H0 H : Hp) (x d : D) (v : V) (Qv : VK), Same H0 H → Rep X.K X.mg H0 x v → q x = some d → (∀ w, Rep X.K X.mg H0 d w → Qv w H) → r v H Qv
def IxA (X : Cx) (q : Q2) : Prop := ∃ r, IxR X r ∧ ∀ (C : Cfg) (H0 H : Hp) (σ : L2.St) (st : LS) (x y d : D) (v u : V) (Qv : VK), I X.K X.mg C H0 H σ st → Rep X.K X.mg H0 x v → Rep X.K X.mg H0 y u → q x y = some d →
  (∀ w H0' H', I X.K X.mg C H0' H' σ st → Same H0 H0' → Rep X.K X.mg H0' d w → Qv w H') → r v u H Qv
def CallA (X : Cx) (F : Value) (q : QL) : Prop := ∃ r, CallR X F r ∧ ∀ (C : Cfg) (H0 H : Hp) (σ : L2.St) (st : LS) (xs : List D) (d : D) (vs : List V) (Qv : VK), I X.K X.mg C H0 H σ st → RepL X.K X.mg H0 xs vs → q xs = some d →
  (∀ w H0' H', I X.K X.mg C H0' H' σ st → Same H0 H0' → Rep X.K X.mg H0' d w → Qv w H') → r vs H Qv
def qOrL (p q : QL) : QL := fun xs => match p xs with
  | some d => some d
  | none => q xs
section
variable {X : Cx} {W : WX} {F : Value} {a b e : Expr} {es : List Expr} {g ga gb : DE} {ha : DA} {pos p : Pos} {x : Str}
theorem CallA.or {q q' : QL} (h : CallA X F q) (k : CallA X F q') : CallA X F (qOrL q q') := by
  obtain ⟨r, h1, h2⟩ := h
  obtain ⟨r', k1, k2⟩ := k
  refine ⟨_, h1.or k1, fun C H0 H σ st xs d vs Qv hI rx e hQ => ?_⟩
  unfold qOrL at e
  split at e
  · rename_i d' e'
    cases e
    exact .inl (h2 C H0 H σ st xs _ vs Qv hI rx e' hQ)
  · exact .inr (k2 C H0 H σ st xs _ vs Qv hI rx e hQ)
theorem CallA.of {f : FL} {q : QL} (h : CallD X F f) (k : ∀ xs d (Q : D → Prop), q xs = some d → Q d → f xs Q) : CallA X F q := by
  obtain ⟨r, h1, h2⟩ := h
  exact ⟨r, h1, fun C H0 H σ st xs d vs Qv hI rx e hQ => h2 H0 H xs vs (fun z => z = d) Qv hI.same rx (k xs d _ e rfl) fun d' w ed rw' => by subst ed; exact hQ w H0 H hI (Same.refl _) rw'⟩
theorem IxA.or {p q : Q2} (h : IxA X p) (k : IxA X q) : IxA X (qOr p q) := by
  obtain ⟨r, h1, h2⟩ := h
  obtain ⟨r', k1, k2⟩ := k
  refine ⟨_, h1.or k1, fun C H0 H σ st x y d v u Qv hI rx ry e hQ => ?_⟩
  unfold qOr at e
  split at e
  · rename_i d' e'
    cases e
    exact .inl (h2 C H0 H σ st x y _ v u Qv hI rx ry e' hQ)
  · exact .inr (k2 C H0 H σ st x y _ v u Qv hI rx ry e hQ)
theorem IxA.of {f : F2} {q : Q2} (h : IxD X f) (k : ∀ x y d (Q : D → Prop), q x y = some d → Q d → f x y Q) : IxA X q := by
  obtain ⟨r, h1, h2⟩ := h
  exact ⟨r, h1, fun C H0 H σ st x y d v u Qv hI rx ry e hQ => h2 H0 H x y v u (fun z => z = d) Qv hI.same rx ry (k x y d _ e rfl) fun d' w ed rw' => by subst ed; exact hQ w H0 H hI (Same.refl _) rw'⟩
theorem pedA_un {op : UnaryOp} {q : Q1} (ho : UnA X (unaryOp op) q) (ha : PED X W a ga) : PED X W (.UnaryOp op a pos) (dUn (w1 q) ga) := by
  obtain ⟨r, h1, h2⟩ := ho
  obtain ⟨ta, pa, qa⟩ := ha.ex
  refine ⟨_, pe_un h1 pa, fun C H0 H σ st Ex Q Qv hI hX hQ hg => qa C H0 H σ st Ex _ _ hI hX (fun x st1 v H1 K1 q1 i1 s1 r1 => ?_) hg⟩
  obtain ⟨d, hd, qd⟩ := wpO_of q1
  exact h2 H1 K1 x d v _ i1.same r1 hd fun w r3 => hQ d st1 w H1 K1 qd i1 s1 r3
theorem pedA_ix {q : Q2} (ho : IxA X q) (ha : PED X W a ga) (hb : PED X W b gb) (hs : PlainIx b := by intro _ _; rfl) : PED X W (.Subscript a b pos) (dOp (w2 q) ga gb) := by
  obtain ⟨r, h1, h2⟩ := ho
  obtain ⟨ta, pa, qa⟩ := ha.ex
  obtain ⟨tb, pb, qb⟩ := hb.ex
  exact ⟨_, pe_ix h1 pa pb hs, binA_run h2 qa qb⟩
theorem pedA_callB {id : String} {q : QL} (hc : CallA X (.builtin id) q) (hg : Gl X x) (hm : X.mg x = none) (hv : bootBuiltins x = some (.builtin id)) (h : PAD X W (e :: es) ha) (hn : x ≠ "__name__" := by decide) (hdb : (x == ("__debug__" : Str)) = false := by decide)
    (he : starEach (e :: es) X.env = (false, eval e X.env) :: starEach es X.env := by rfl) (hpl : (backTo pos (starEach es X.env)).any (·.1) = false := by rfl) : PED X W (.Call (.Name x p) (e :: es) [] pos) (dCB (wL q) ha) := by
  obtain ⟨ta, pa, qa⟩ := h.ex
  obtain ⟨r, h1, h2⟩ := hc
  refine ⟨_, pe_callB h1 hg hm hv pa hn hdb he hpl, fun C H0 H σ st Ex Q Qv hI hX hQ hg => qa C H0 H σ st Ex _ _ hI hX (fun ds st1 vs H1 K1 q1 i1 s1 r1 el => ?_) hg⟩
  obtain ⟨d, hd, qd⟩ := wpO_of q1
  exact h2 C H1 K1 σ st1 ds d vs _ i1 r1 hd fun w H3 K3 i3 s3 r3 => hQ d st1 w H3 K3 qd i3 (s1.trans s3) r3
theorem pedA_callTy {T : String} {q : QL} (hc : CallA X (.type T) q) (hg : Gl X x) (hm : X.mg x = none) (hv : bootBuiltins x = some (.type T)) (h : PAD X W (e :: es) ha) (hn : x ≠ "__name__" := by decide) (hdb : (x == ("__debug__" : Str)) = false := by decide)
    (he : starEach (e :: es) X.env = (false, eval e X.env) :: starEach es X.env := by rfl) (hpl : (backTo pos (starEach es X.env)).any (·.1) = false := by rfl) : PED X W (.Call (.Name x p) (e :: es) [] pos) (dCB (wL q) ha) := by
  obtain ⟨ta, pa, qa⟩ := h.ex
  obtain ⟨r, h1, h2⟩ := hc
  refine ⟨_, pe_callTy h1 hg hm hv pa hn hdb he hpl, fun C H0 H σ st Ex Q Qv hI hX hQ hg => qa C H0 H σ st Ex _ _ hI hX (fun ds st1 vs H1 K1 q1 i1 s1 r1 el => ?_) hg⟩
  obtain ⟨d, hd, qd⟩ := wpO_of q1
  exact h2 C H1 K1 σ st1 ds d vs _ i1 r1 hd fun w H3 K3 i3 s3 r3 => hQ d st1 w H3 K3 qd i3 (s1.trans s3) r3
def qNeg : Q1 := fun x => match x with
  | .int i => some (.int (-i))
  | _ => none
theorem a_neg : UnA X (unaryOp .USub) qNeg := by
  obtain ⟨r, h1, h2⟩ := o_neg (X := X)
  refine ⟨r, h1, fun H0 H x d v Qv s rx e k => h2 H0 H x v (fun z => z = d) Qv s rx ?_ fun d' w ed rw' => by subst ed; exact k w rw'⟩
  unfold qNeg at e
  unfold fNeg fU
  split at e
  · cases e; rfl
  · cases e
def qIxSeq : Q2 := fun x y => match x, y with
  | .nd .lst ds, .int k => geti ds k
  | .nd .tup ds, .int k => geti ds k
  | .nd .scr ds, .int k => geti ds k
  | .str z, .int k => if z.length ≤ 16777216 then (geti z.cps.toList k).map fun c => .str ⟨#[c]⟩ else none
  | _, _ => none
theorem a_ixSeq : IxA X qIxSeq := .of o_ix fun x y d Q e q => by
  unfold qIxSeq at e
  split at e
  · unfold fIx; simp only [e]; exact q
  · unfold fIx; simp only [e]; exact q
  · unfold fIx; simp only [e]; exact q
  · split at e
    · rename_i z k hz
      cases hg : geti z.cps.toList k with
      | none => rw [hg] at e; cases e
      | some c =>
        rw [hg] at e; cases e
        unfold fIx; simp only [hg]
        exact ⟨hz, q⟩
    · cases e
  · cases e
def qAbs : QL := fun xs => match xs with
  | [.int i] => some (.int (if i < 0 then -i else i))
  | _ => none
def qMax2 : QL := fun xs => match xs with
  | [.int i, .int j] => some (.int (if j > i then j else i))
  | _ => none
def qMin2 : QL := fun xs => match xs with
  | [.int i, .int j] => some (.int (if j < i then j else i))
  | _ => none
def qInt1 : QL := fun xs => match xs with
  | [.int i] => some (.int i)
  | [.bl k] => some (.int (cond k 1 0))
  | _ => none
def qLen1 : QL := fun xs => match xs with
  | [.nd .lst ds] => some (.int (ds.length : Nat))
  | [.nd .tup ds] => some (.int (ds.length : Nat))
  | [.nd .scr ds] => some (.int (ds.length : Nat))
  | [.str z] => if z.length ≤ 16777216 then some (.int (z.length : Nat)) else none
  | _ => none
def intsOf : List D → Option (List Int)
  | [] => some []
  | .int i :: r => (intsOf r).map (i :: ·)
  | _ => none
theorem intsOf_eq : ∀ {ds : List D} {ns : List Int}, intsOf ds = some ns → ds = ns.map D.int
  | [], ns, h => by cases h; rfl
  | .int i :: r, ns, h => by
    unfold intsOf at h
    cases e : intsOf r with
    | none => rw [e] at h; cases h
    | some ms => rw [e] at h; cases h; rw [intsOf_eq e]; rfl
  | .non :: _, ns, h => by cases h
  | .bl _ :: _, ns, h => by cases h
  | .str _ :: _, ns, h => by cases h
  | .glo _ :: _, ns, h => by cases h
  | .nd _ _ :: _, ns, h => by cases h
theorem intsOf_map : ∀ ns : List Int, intsOf (ns.map D.int) = some ns
  | [] => rfl
  | n :: ns => by show (intsOf (ns.map D.int)).map _ = _; rw [intsOf_map ns]; rfl
def qSum : QL := fun xs => match xs with
  | [.nd .lst ds] => (intsOf ds).map fun ns => .int ns.sum
  | _ => none
def qRepr : QL := fun xs => match xs with
  | [d] => if reprOk d then some (.str (reprD d)) else none
  | _ => none
theorem k_abs : CallA X (.builtin "abs") qAbs := .of c_abs fun xs d Q e q => by
  unfold qAbs at e; unfold fAbs
  split at e <;> first | (cases e; exact q) | (cases e)
theorem k_max2 (hc : X.calm = true) : CallA X (.builtin "max") qMax2 := .of (c_max2 hc) fun xs d Q e q => by
  unfold qMax2 at e; unfold fMax2
  split at e <;> first | (cases e; exact q) | (cases e)
theorem k_min2 (hc : X.calm = true) : CallA X (.builtin "min") qMin2 := .of (c_min2 hc) fun xs d Q e q => by
  unfold qMin2 at e; unfold fMin2
  split at e <;> first | (cases e; exact q) | (cases e)
theorem k_int1 : CallA X (.type "int") qInt1 := .of c_int fun xs d Q e q => by
  unfold qInt1 at e; unfold fInt
  split at e
  · cases e; exact q
  · rename_i k
    cases e
    cases k <;> exact q
  · cases e
theorem k_len1 : CallA X (.builtin "len") qLen1 := .of c_len fun xs d Q e q => by
  unfold qLen1 at e; unfold fLen
  split at e
  · cases e; exact q
  · cases e; exact q
  · cases e; exact q
  · split at e
    · cases e; exact ⟨by assumption, q⟩
    · cases e
  · cases e
theorem k_sum (hc : X.calm = true) : CallA X (.builtin "sum") qSum := .of (c_sum hc) fun xs d Q e q => by
  unfold qSum at e; unfold fSum
  split at e
  · rename_i ds
    cases h : intsOf ds with
    | none => rw [h] at e; cases e
    | some ns => rw [h] at e; cases e; exact ⟨ns, intsOf_eq h, q⟩
  · cases e
theorem k_repr (hg : X.A.guards = some []) (hu : X.A.units + 60 < cLine) : CallA X (.builtin "repr") qRepr := .of (c_repr hg hu) fun xs d Q e q => by
  unfold qRepr at e; unfold fRepr
  split at e
  · split at e
    · cases e; exact ⟨by assumption, q⟩
    · cases e
  · cases e
def qIsi (T : String) : Q1 := fun x => match kitB (tyN x) T, tyN x == "" with
  | some b, false => some (.bl b)
  | _, _ => none
theorem pedA_isi {t : Expr} {T : String} (h : PED X W e g) (ht : PE X t (tC (.ty T))) (hg : Gl X "isinstance") (hm : X.mg "isinstance" = none)
    (he : starEach (e :: [t]) X.env = (false, eval e X.env) :: starEach [t] X.env := by rfl) (he2 : starEach (t :: []) X.env = (false, eval t X.env) :: starEach [] X.env := by rfl) (hpl : (backTo pos (starEach [t] X.env)).any (·.1) = false := by rfl) :
    PED X W (.Call (.Name "isinstance" p) [e, t] [] pos) (dUn (w1 (qIsi T)) g) := (ped_isi h ht hg hm he he2 hpl).imp fun Ex st Q hq => by
  obtain ⟨t, pt, qt⟩ := h.ex
  have same : ∀ (x : D) (Q : D → Prop), fIsi T x Q = w1 (qIsi T) x Q := fun x Q => by
    unfold fIsi w1 qIsi
    cases h1 : kitB (tyN x) T with
    | none => rfl
    | some b => cases h2 : (tyN x == "") <;> rfl
  unfold dUn at hq ⊢
  simp only [same]
  exact hq
/-! what is gone over, displays, comprehensions -/
def qItL : D → Option (List D)
  | .nd .lst ds => some ds
  | _ => none
def qItT : D → Option (List D)
  | .nd .tup ds => some ds
  | _ => none
def dIt (q : D → Option (List D)) (g : DE) (Ex : DX) (st : LS) (Q : List D → LS → Prop) : Prop := g Ex st fun d st1 => wpO (q d) fun ds => Q ds st1
def dItA (q : List D → Option (List D)) (g : DA) (Ex : DX) (st : LS) (Q : List D → LS → Prop) : Prop := g Ex st fun d st1 => wpO (q d) fun ds => Q ds st1
def big (i : Int) : Bool := decide (-(2 ^ 62) ≤ i) && decide (i < 2 ^ 62)
def qRng : List D → Option (List D)
  | [.int j] => if big j then some (iota 0 j.toNat) else none
  | [.int i, .int j] => if big i && big j then some (iota i (j - i).toNat) else none
  | _ => none
theorem big_of {i : Int} (h : big i = true) : -(2 ^ 62) ≤ i ∧ i < 2 ^ 62 := by
  unfold big at h
  simpa only [Bool.and_eq_true, decide_eq_true_eq] using h
theorem pidA_lst {tg : Expr} (h : PED X W e g) : PID X W tg e (dIt qItL g) := by
  obtain ⟨ta, pa, qa⟩ := h.ex
  refine ⟨_, pi_list pa, fun C H0 H σ st Ex Q R hI hX hQ hg => qa C H0 H σ st Ex _ _ hI hX (fun d st1 v H1 K1 q1 i1 s1 r1 => ?_) hg⟩
  obtain ⟨ds, hd, qd⟩ := wpO_of q1
  unfold qItL at hd
  split at hd
  · cases hd
    obtain ⟨a, vs, rfl, h2, h3⟩ := r1.nd
    exact ⟨a, rfl, ⟨vs, i1.same.seq (SqL.of h2)⟩, hQ _ st1 _ H1 K1 qd i1 s1 (it_lst (SqL.of h2) h3)⟩
  · cases hd
theorem pidA_tup {tg : Expr} (h : PED X W e g) : PID X W tg e (dIt qItT g) := by
  obtain ⟨ta, pa, qa⟩ := h.ex
  refine ⟨_, pi_tup pa, fun C H0 H σ st Ex Q R hI hX hQ hg => qa C H0 H σ st Ex _ _ hI hX (fun d st1 v H1 K1 q1 i1 s1 r1 => ?_) hg⟩
  obtain ⟨ds, hd, qd⟩ := wpO_of q1
  unfold qItT at hd
  split at hd
  · cases hd
    obtain ⟨a, vs, rfl, h2, h3⟩ := r1.nd
    exact ⟨a, rfl, ⟨vs, SqT.mono i1.same h2⟩, hQ _ st1 _ H1 K1 qd i1 s1 (it_tup h2 h3)⟩
  · cases hd
theorem pidA_rng1 {tg : Expr} (hg : Gl X "range") (hm : X.mg "range" = none) (h : PAD X W [a] ha) (hs : starEach [a] X.env = [(false, eval a X.env)] := by rfl) : PID X W tg (.Call (.Name "range" p) [a] [] pos) (dItA qRng ha) := by
  obtain ⟨ta, pa, qa⟩ := h.ex
  refine ⟨_, pi_range1 hg hm pa hs, fun C H0 H σ st Ex Q R hI hX hQ hg => qa C H0 H σ st Ex _ _ hI hX (fun ds st1 vs H1 K1 q1 i1 s1 r1 el => ?_) hg⟩
  obtain ⟨is, hd, qd⟩ := wpO_of q1
  unfold qRng at hd
  split at hd
  · rename_i j
    split at hd
    · rename_i hb
      cases hd
      obtain ⟨v, w, rfl, h3, h4⟩ := r1.cons
      cases h4.nil
      cases h3.int
      exact ⟨j, rfl, (big_of hb).1, (big_of hb).2, hQ _ st1 _ H1 K1 qd i1 s1 (it_rng _ _ _)⟩
    · cases hd
  · simp at el
  · cases hd
theorem pidA_rng2 {tg : Expr} (hg : Gl X "range") (hm : X.mg "range" = none) (h : PAD X W [a, b] ha) (hs : starEach [a, b] X.env = [(false, eval a X.env), (false, eval b X.env)] := by rfl) (hs2 : starEach [b] X.env = [(false, eval b X.env)] := by rfl) : PID X W tg (.Call (.Name "range" p) [a, b] [] pos) (dItA qRng ha) := by
  obtain ⟨ta, pa, qa⟩ := h.ex
  refine ⟨_, pi_range2 hg hm pa hs hs2, fun C H0 H σ st Ex Q R hI hX hQ hg => qa C H0 H σ st Ex _ _ hI hX (fun ds st1 vs H1 K1 q1 i1 s1 r1 el => ?_) hg⟩
  obtain ⟨is, hd, qd⟩ := wpO_of q1
  unfold qRng at hd
  split at hd
  · simp at el
  · rename_i i j
    split at hd
    · rename_i hb
      cases hd
      rw [Bool.and_eq_true] at hb
      obtain ⟨v, w, rfl, h3, h4⟩ := r1.cons
      obtain ⟨v2, w2, rfl, h5, h6⟩ := h4.cons
      cases h6.nil
      cases h3.int
      cases h5.int
      exact ⟨i, j, rfl, ⟨(big_of hb.1).1, (big_of hb.1).2, (big_of hb.2).1, (big_of hb.2).2⟩, hQ _ st1 _ H1 K1 qd i1 s1 (it_rng _ _ _)⟩
    · cases hd
  · cases hd
/-- a list display as a value -/
def dLstV (g : DA) (Ex : DX) (st : LS) (Q : D → LS → Prop) : Prop := g Ex st fun ds st1 => Q (.nd .lst ds) st1
theorem pedA_lst (h : PAD X W es ha) (hz : es.length ≤ sizeLine := by show _ ≤ 16777216; decide) : PED X W (.List es pos) (dLstV ha) :=
  (ped_fz (pod_lst h hz)).imp fun Ex st Q hq => by
    unfold dFz dLst
    unfold dLstV at hq
    simp only [sD, wpO, all_addr]
    exact hq
/-! comprehensions by qSz -/
def dLcQ (i : DI) (t : DG) (tt : DT) (ge : DE) (vs : List Nat) (Ex : DX) (st : LS) (Q : S → LS → Prop) : Prop := i Ex st fun ds st1 => wpO (qSz ds) fun ds => dLcL t tt ge vs ds [] (stW st1 vs) fun acc st2 => ∀ p, Q (.ow p true (.nd .lst acc)) st2
def dLcV (i : DI) (t : DG) (tt : DT) (ge : DE) (vs : List Nat) (Ex : DX) (st : LS) (Q : D → LS → Prop) : Prop := i Ex st fun ds st1 => wpO (qSz ds) fun ds => dLcL t tt ge vs ds [] (stW st1 vs) fun acc st2 => Q (.nd .lst acc) st2
theorem qSz_of {ds es : List D} (h : qSz ds = some es) : ds.length ≤ 16777216 ∧ es = ds := by
  unfold qSz at h
  split at h
  · cases h; exact ⟨by assumption, rfl⟩
  · cases h
theorem dI_mono {X : Cx} {W : WX} {tg e : Expr} {i : DI} (h : PID X W tg e i) : True := trivial
end
section
variable {X : Cx} {W : WX} {e elt tg iter : Expr} {es ifs : List Expr} {pos : Pos} {vs : List Nat}
/-- what is gone over, its length known -/
theorem pid_sz {gi : DI} (hi : PID X W tg iter gi) : PID X W tg iter (fun Ex st Q => gi Ex st fun ds st1 => wpO (qSz ds) fun ds => Q ds st1) := by
  obtain ⟨wi, pi, qi⟩ := hi.ex
  exact ⟨wi, pi, fun C H0 H σ st Ex Q R hI hX hQ hg => qi C H0 H σ st Ex _ R hI hX (fun ds st' J H1 K1 q i s j => by
    obtain ⟨ds', e, q'⟩ := wpO_of q
    obtain ⟨_, rfl⟩ := qSz_of e
    exact hQ _ st' J H1 K1 q' i s j) hg⟩
theorem lcQ_sem {scope : Scope} {own : List (Str × Nat)} {gi : DI} {t : DG} {tt : DT} {ge : DE} {wi : TI}
    (qi : ∀ (C : Cfg) (H0 H : Hp) (σ : L2.St) (st : LS) (Ex : DX) (Q : List D → LS → Prop) (R : It → Hp → Prop), I X.K X.mg C H0 H σ st → LkX X.K X.mg C H0 σ W Ex →
      (∀ ds st' J H0' H', Q ds st' → I X.K X.mg C H0' H' σ st' → Same H0 H0' → ItOk X.K X.mg J H0' ds → R J H') → gi Ex st Q → wi σ H R)
    (hg : ∀ (s : Shared) (H : Hp) (C : Addr) (cl : List (Str × Addr)) (fp : List Addr), PGW (X.blk s H scope (compEnvC scope cl C X.env) fp) tg (own.map (·.2)) t)
    (ht : ∀ (s : Shared) (H : Hp) (C : Addr) (cl : List (Str × Addr)) (fp : List Addr), PTsD (X.blk s H scope (compEnvC scope cl C X.env) fp) WN ifs tt)
    (he : ∀ (s : Shared) (H : Hp) (C : Addr) (cl : List (Str × Addr)) (fp : List Addr), PED (X.blk s H scope (compEnvC scope cl C X.env) fp) WN elt ge)
    (C : Cfg) (H0 H : Hp) (σ : L2.St) (st : LS) (Ex : DX) (Q : S → LS → Prop) (Qv : VK) (hI : I X.K X.mg C H0 H σ st) (hX : LkX X.K X.mg C H0 σ W Ex)
    (hQ : ∀ r st' v H0' H', Q r st' → I X.K X.mg C H0' H' σ st' → Same H0 H0' → RepR X.K X.mg C H0' H' st' r v → Qv v H') (hg' : dLcQ gi t tt ge (own.map (·.2)) Ex st Q) :
    tLc wi (gLc X scope tg) (ttLc X scope ifs) (teLc X scope elt) (own.map (·.2)) σ H Qv := by
  refine lc_sem (gi := fun Ex st Q => gi Ex st fun ds st1 => wpO (qSz ds) fun ds => ds.length ≤ 16777216 → Q ds st1) (fun C H0 H σ st Ex Q R hI hX hQ hg => qi C H0 H σ st Ex _ R hI hX (fun ds st' J H1 K1 q i s j => ?_) hg) hg ht he C H0 H σ st Ex Q Qv hI hX hQ ?_
  · obtain ⟨ds', e, q'⟩ := wpO_of q
    obtain ⟨hz, rfl⟩ := qSz_of e
    exact hQ _ st' J H1 K1 (q' hz) i s j
  · unfold dLc
    unfold dLcQ at hg'
    refine Eq.mp (congrArg (gi Ex st) ?_) hg'
    funext ds st1
    unfold qSz
    split
    · rename_i hz
      exact propext ⟨fun h z => ⟨z, h⟩, fun h => (h hz).2⟩
    · rfl
theorem podA_lc {scope : Scope} {own : List (Str × Nat)} {gi : DI} {t : DG} {tt : DT} {ge : DE} (hc : X.calm = true) (hN : X.N.Nodup) (hi : PID X W tg iter gi) (ok : BlkOk X.N X.env.scope scope own)
    (hg : ∀ (s : Shared) (H : Hp) (C : Addr) (cl : List (Str × Addr)) (fp : List Addr), PGW (X.blk s H scope (compEnvC scope cl C X.env) fp) tg (own.map (·.2)) t)
    (ht : ∀ (s : Shared) (H : Hp) (C : Addr) (cl : List (Str × Addr)) (fp : List Addr), PTsD (X.blk s H scope (compEnvC scope cl C X.env) fp) WN ifs tt)
    (he : ∀ (s : Shared) (H : Hp) (C : Addr) (cl : List (Str × Addr)) (fp : List Addr), PED (X.blk s H scope (compEnvC scope cl C X.env) fp) WN elt ge) (hs : ∀ x, foldedSetIterable iter X.env x = pure x := by intro _; rfl) :
    POD X W (.ListComp elt [⟨tg, iter, ifs, 0⟩] scope pos) (dLcQ gi t tt ge (own.map (·.2))) := by
  obtain ⟨wi, pi, qi⟩ := hi.ex
  exact ⟨_, pe_lc (g := gLc X scope tg) (tt := ttLc X scope ifs) (te := teLc X scope elt) hc hN pi ok (fun s H C cl fp => ⟨fun pins s' σ H' v u Q I r h => h s H C cl fp pins s' u I r⟩) (fun s H C cl fp => ⟨fun pins s' σ H' Q I h => h s H C cl fp pins s' I⟩)
    (fun s H C cl fp => ⟨fun pins s' σ H' Q I h => h s H C cl fp pins s' I⟩) hs, lcQ_sem qi hg ht he⟩
theorem pedA_lc {scope : Scope} {own : List (Str × Nat)} {gi : DI} {t : DG} {tt : DT} {ge : DE} (hc : X.calm = true) (hN : X.N.Nodup) (hi : PID X W tg iter gi) (ok : BlkOk X.N X.env.scope scope own)
    (hg : ∀ (s : Shared) (H : Hp) (C : Addr) (cl : List (Str × Addr)) (fp : List Addr), PGW (X.blk s H scope (compEnvC scope cl C X.env) fp) tg (own.map (·.2)) t)
    (ht : ∀ (s : Shared) (H : Hp) (C : Addr) (cl : List (Str × Addr)) (fp : List Addr), PTsD (X.blk s H scope (compEnvC scope cl C X.env) fp) WN ifs tt)
    (he : ∀ (s : Shared) (H : Hp) (C : Addr) (cl : List (Str × Addr)) (fp : List Addr), PED (X.blk s H scope (compEnvC scope cl C X.env) fp) WN elt ge) (hs : ∀ x, foldedSetIterable iter X.env x = pure x := by intro _; rfl) :
    PED X W (.ListComp elt [⟨tg, iter, ifs, 0⟩] scope pos) (dLcV gi t tt ge (own.map (·.2))) :=
  (ped_fz (podA_lc hc hN hi ok hg ht he hs)).imp fun Ex st Q hq => by
    unfold dFz dLcQ
    unfold dLcV at hq
    simp only [sD, wpO, all_addr]
    exact hq
/-- y = [..] on one line -/
theorem psdA_setLc {i : Nat} {y : Str} {py spos : Pos} {scope : Scope} {own : List (Str × Nat)} {gi : DI} {t : DG} {tt : DT} {ge : DE} (hc : X.calm = true) (hN : X.N.Nodup) (hy : X.N[i]? = some y) (hyl : X.env.scope.names.lookup y = some .local)
    (hsw : swapsWith (.ListComp elt [⟨tg, iter, ifs, 0⟩] scope pos) (some (.Name y py)) spos.line X.env = pure true) (hi : PID X W tg iter gi) (ok : BlkOk X.N X.env.scope scope own)
    (hg : ∀ (s : Shared) (H : Hp) (C : Addr) (cl : List (Str × Addr)) (fp : List Addr), PGW (X.blk s H scope (compEnvC scope cl C X.env) fp) tg (own.map (·.2)) t)
    (ht : ∀ (s : Shared) (H : Hp) (C : Addr) (cl : List (Str × Addr)) (fp : List Addr), PTsD (X.blk s H scope (compEnvC scope cl C X.env) fp) WN ifs tt)
    (he : ∀ (s : Shared) (H : Hp) (C : Addr) (cl : List (Str × Addr)) (fp : List Addr), PED (X.blk s H scope (compEnvC scope cl C X.env) fp) WN elt ge) (hs : ∀ x, foldedSetIterable iter X.env x = pure x := by intro _; rfl) :
    PSD X W (.Assign [.Name y py] (.ListComp elt [⟨tg, iter, ifs, 0⟩] scope pos) spos) (dSet i (dLcQ gi t tt ge (own.map (·.2)))) := by
  obtain ⟨wi, pi, qi⟩ := hi.ex
  refine ⟨_, ps_setLc (i := i) (g := gLc X scope tg) (tt := ttLc X scope ifs) (te := teLc X scope elt) hc hN hy hyl hsw pi ok (fun s H C cl fp => ⟨fun pins s' σ H' v u Q I r h => h s H C cl fp pins s' u I r⟩) (fun s H C cl fp => ⟨fun pins s' σ H' Q I h => h s H C cl fp pins s' I⟩)
    (fun s H C cl fp => ⟨fun pins s' σ H' Q I h => h s H C cl fp pins s' I⟩) hs, fun C H0 H σ st de Dn hI hL hg' => ?_⟩
  refine lcQ_sem qi hg ht he C H0 H σ st de.ex _ _ hI (hL.xp σ) (fun r st1 v H1 K1 q1 i1 s1 r1 => ?_) hg'
  exact hL.nx _ _ H1 K1 q1 (i1.set r1) s1
/-- .. as a value -/
theorem psdA_setLcV {i : Nat} {y : Str} {py spos : Pos} {scope : Scope} {own : List (Str × Nat)} {gi : DI} {t : DG} {tt : DT} {ge : DE} (hc : X.calm = true) (hN : X.N.Nodup) (hy : X.N[i]? = some y) (hyl : X.env.scope.names.lookup y = some .local)
    (hsw : swapsWith (.ListComp elt [⟨tg, iter, ifs, 0⟩] scope pos) (some (.Name y py)) spos.line X.env = pure true) (hi : PID X W tg iter gi) (ok : BlkOk X.N X.env.scope scope own)
    (hg : ∀ (s : Shared) (H : Hp) (C : Addr) (cl : List (Str × Addr)) (fp : List Addr), PGW (X.blk s H scope (compEnvC scope cl C X.env) fp) tg (own.map (·.2)) t)
    (ht : ∀ (s : Shared) (H : Hp) (C : Addr) (cl : List (Str × Addr)) (fp : List Addr), PTsD (X.blk s H scope (compEnvC scope cl C X.env) fp) WN ifs tt)
    (he : ∀ (s : Shared) (H : Hp) (C : Addr) (cl : List (Str × Addr)) (fp : List Addr), PED (X.blk s H scope (compEnvC scope cl C X.env) fp) WN elt ge) (hs : ∀ x, foldedSetIterable iter X.env x = pure x := by intro _; rfl) :
    PSD X W (.Assign [.Name y py] (.ListComp elt [⟨tg, iter, ifs, 0⟩] scope pos) spos) (dSet i (dRes (dLcV gi t tt ge (own.map (·.2))))) := by
  obtain ⟨wi, pi, qi⟩ := hi.ex
  refine ⟨_, ps_setLc (i := i) (g := gLc X scope tg) (tt := ttLc X scope ifs) (te := teLc X scope elt) hc hN hy hyl hsw pi ok (fun s H C cl fp => ⟨fun pins s' σ H' v u Q I r h => h s H C cl fp pins s' u I r⟩) (fun s H C cl fp => ⟨fun pins s' σ H' Q I h => h s H C cl fp pins s' I⟩)
    (fun s H C cl fp => ⟨fun pins s' σ H' Q I h => h s H C cl fp pins s' I⟩) hs, fun C H0 H σ st de Dn hI hL hg' => ?_⟩
  refine lcQ_sem qi hg ht he C H0 H σ st de.ex (fun r st1 => ∃ d, (r = .fz d ∨ ∃ a, r = .ow a true d) ∧ de.nx (st1.set i (.fz d))) _ hI (hL.xp σ) (fun r st1 v H1 K1 q1 i1 s1 r1 => ?_) ?_
  · obtain ⟨d, hd, q1⟩ := q1
    obtain ⟨H2, d', hd', i2, s2, r2⟩ := RepR.d i1 r1
    have e : d' = d := by
      rcases hd with rfl | ⟨a, rfl⟩ <;> rcases hd' with h | ⟨a', t', ds', h, rfl⟩ <;> cases h <;> rfl
    subst e
    exact hL.nx _ _ H2 K1 q1 (i2.set (r := .fz d') r2) (s1.trans s2)
  · unfold dLcQ
    unfold dSet dRes dLcV at hg'
    have key : ∀ (acc : List D) (st2 : LS), (∀ p : Addr, ∃ d, (S.ow p true (.nd .lst acc) = .fz d ∨ ∃ a, S.ow p true (.nd .lst acc) = .ow a true d) ∧ de.nx (st2.set i (.fz d))) = de.nx (st2.set i (.fz (.nd .lst acc))) := fun acc st2 => propext
      ⟨fun h => by
        obtain ⟨d, hd, q⟩ := h 0
        rcases hd with h | ⟨a, h⟩
        · cases h
        · cases h; exact q, fun h p => ⟨_, .inr ⟨p, rfl⟩, h⟩⟩
    simp only [key]
    exact hg'
end
/-- an error's class asked -/
def dXiQ (i : Nat) (u : XU) (e : DErr) (ib : Nat → Bool) (_Ex : DX) (st : LS) (Q : D → LS → Prop) : Prop := st[i]? = some (S.xc u e) ∧ Q (.bl (ib e.k)) st
/-- try -/
def tryB {α : Type} (m : Res DErr α) (tb : Nat → Bool) (h : DErr → Res DErr α) : Res DErr α := match m with
  | .ex e => cond (tb e.k) (h e) (.ex e)
  | m => m
theorem wp_tryB {α : Type} {m : Res DErr α} {tb : Nat → Bool} {h : DErr → Res DErr α} {Ex : DErr → Prop} {Q : α → Prop} : wp (tryB m tb h) Ex Q = wp m (fun e => cond (tb e.k) (wp (h e) Ex Q) (Ex e)) Q := by
  cases m with
  | ex e =>
    show wp (cond (tb e.k) (h e) (.ex e)) Ex Q = cond (tb e.k) (wp (h e) Ex Q) (Ex e)
    cases tb e.k <;> rfl
  | _ => rfl
theorem all_imp {α : Sort _} {A : Prop} {B : α → Prop} (h : ∀ u, A → B u) (a : A) : ∀ u, B u := fun u => h u a
/-! targets of two and three -/
def qT2 : D → Option (D × D)
  | .nd .tup [a, b] => some (a, b)
  | _ => none
def qT3 : D → Option (D × D × D)
  | .nd .tup [a, b, c] => some (a, b, c)
  | _ => none
def gdT2 (ga gb : DG) (d : D) (st : LS) (Q : LS → Prop) : Prop := wpO (qT2 d) fun p => ga p.1 st fun st1 => gb p.2 st1 Q
def gdT3 (ga gb gc : DG) (d : D) (st : LS) (Q : LS → Prop) : Prop := wpO (qT3 d) fun p => ga p.1 st fun st1 => gb p.2.1 st1 fun st2 => gc p.2.2 st2 Q
theorem gdT2_of {ga gb : DG} {d : D} {st : LS} {Q : LS → Prop} (h : gdT2 ga gb d st Q) : gdTup 2 (gdCons ga (gdCons gb gdNil)) d st Q := by
  unfold gdT2 qT2 at h
  split at h
  · exact h
  · exact h.elim
theorem gdT3_of {ga gb gc : DG} {d : D} {st : LS} {Q : LS → Prop} (h : gdT3 ga gb gc d st Q) : gdTup 3 (gdCons ga (gdCons gb (gdCons gc gdNil))) d st Q := by
  unfold gdT3 qT3 at h
  split at h
  · exact h
  · exact h.elim
section
variable {X : Cx} {a b c : Expr} {k : Nat} {pos : Pos} {vs : List Nat} {ga gb gc : DG}
theorem pgdA_tup2 (hc : X.calm = true) (h1 : PGD X a ga) (h2 : PGD X b gb) (e1 : (assignEach [a, b] X.env).map (·.2) = assign a X.env :: (assignEach [b] X.env).map (·.2) := by rfl) (e2 : (assignEach [b] X.env).map (·.2) = assign b X.env :: (assignEach [] X.env).map (·.2) := by rfl) (hn : (assignEach [a, b] X.env).length = 2 := by rfl) (hst : (assignEach [a, b] X.env).findIdx? (·.1) = none := by rfl) : PGD X (.Tuple [a, b] k pos) (gdT2 ga gb) := by
  obtain ⟨t, p, q⟩ := (pgd_tup hc (pgsd_cons h1 (pgsd_cons h2 pgsd_nil e2) e1) hn hst (k := k) (pos := pos)).ex
  exact ⟨t, p, fun C H0 H σ st d v Q Qv hI hr hQ hg => q C H0 H σ st d v Q Qv hI hr hQ (gdT2_of hg)⟩
theorem pgdA_tup3 (hc : X.calm = true) (h1 : PGD X a ga) (h2 : PGD X b gb) (h3 : PGD X c gc) (e1 : (assignEach [a, b, c] X.env).map (·.2) = assign a X.env :: (assignEach [b, c] X.env).map (·.2) := by rfl) (e2 : (assignEach [b, c] X.env).map (·.2) = assign b X.env :: (assignEach [c] X.env).map (·.2) := by rfl) (e3 : (assignEach [c] X.env).map (·.2) = assign c X.env :: (assignEach [] X.env).map (·.2) := by rfl) (hn : (assignEach [a, b, c] X.env).length = 3 := by rfl) (hst : (assignEach [a, b, c] X.env).findIdx? (·.1) = none := by rfl) : PGD X (.Tuple [a, b, c] k pos) (gdT3 ga gb gc) := by
  obtain ⟨t, p, q⟩ := (pgd_tup hc (pgsd_cons h1 (pgsd_cons h2 (pgsd_cons h3 pgsd_nil e3) e2) e1) hn hst (k := k) (pos := pos)).ex
  exact ⟨t, p, fun C H0 H σ st d v Q Qv hI hr hQ hg => q C H0 H σ st d v Q Qv hI hr hQ (gdT3_of hg)⟩
theorem pgwA_tup2 (hc : X.calm = true) (h1 : PGW X a vs ga) (h2 : PGW X b vs gb) (e1 : (assignEach [a, b] X.env).map (·.2) = assign a X.env :: (assignEach [b] X.env).map (·.2) := by rfl) (e2 : (assignEach [b] X.env).map (·.2) = assign b X.env :: (assignEach [] X.env).map (·.2) := by rfl) (hn : (assignEach [a, b] X.env).length = 2 := by rfl) (hst : (assignEach [a, b] X.env).findIdx? (·.1) = none := by rfl) : PGW X (.Tuple [a, b] k pos) vs (gdT2 ga gb) := by
  obtain ⟨t, p, q⟩ := (pgw_tup hc (pgws_cons h1 (pgws_cons h2 pgws_nil e2) e1) hn hst (k := k) (pos := pos)).ex
  exact ⟨t, p, fun C H0 H σ st d v Q Qv hI hr hQ hg => q C H0 H σ st d v Q Qv hI hr hQ (gdT2_of hg)⟩
theorem pgwA_tup3 (hc : X.calm = true) (h1 : PGW X a vs ga) (h2 : PGW X b vs gb) (h3 : PGW X c vs gc) (e1 : (assignEach [a, b, c] X.env).map (·.2) = assign a X.env :: (assignEach [b, c] X.env).map (·.2) := by rfl) (e2 : (assignEach [b, c] X.env).map (·.2) = assign b X.env :: (assignEach [c] X.env).map (·.2) := by rfl) (e3 : (assignEach [c] X.env).map (·.2) = assign c X.env :: (assignEach [] X.env).map (·.2) := by rfl) (hn : (assignEach [a, b, c] X.env).length = 3 := by rfl) (hst : (assignEach [a, b, c] X.env).findIdx? (·.1) = none := by rfl) : PGW X (.Tuple [a, b, c] k pos) vs (gdT3 ga gb gc) := by
  obtain ⟨t, p, q⟩ := (pgw_tup hc (pgws_cons h1 (pgws_cons h2 (pgws_cons h3 pgws_nil e3) e2) e1) hn hst (k := k) (pos := pos)).ex
  exact ⟨t, p, fun C H0 H σ st d v Q Qv hI hr hQ hg => q C H0 H σ st d v Q Qv hI hr hQ (gdT3_of hg)⟩
end
/-! calls by value; slices -/
section
variable {X : Cx} {W : WX} {e fe : Expr} {es : List Expr} {g gf : DE} {pos : Pos} {n : Nat}
def qGlo {α : Type} (tab : List (Str × α)) : D → Option α
  | .glo x => tab.lookup x
  | _ => none
def dcVQ (tab : List (Str × SpA)) (gf : DE) (ga : DA) (Ex : DX) (st : LS) (Q : S → LS → Prop) : Prop := gf Ex st fun f st1 => wpO (qGlo tab f) fun φ => ga Ex st1 fun ds st2 => φ ds (fun e => Ex e st2) fun r => Q r st2
theorem podA_callV {tab : List (Str × SpA)} {g : DA} (tk : Takes X W) (hT : TabOk X n tab) (hf : PED X W fe gf) (ha : PAD X W (e :: es) g)
    (hev : eval (.Call fe (e :: es) [] pos) X.env = (do let f ← eval fe X.env; callWith pos f [] (backTo pos (starEach (e :: es) X.env)) []) := by rfl)
    (hl : (e :: es).length = n := by rfl) (he : starEach (e :: es) X.env = (false, eval e X.env) :: starEach es X.env := by rfl) (hpl : (backTo pos (starEach es X.env)).any (·.1) = false := by rfl) :
    POD X W (.Call fe (e :: es) [] pos) (dcVQ tab gf g) := by
  obtain ⟨tf, pf, qf⟩ := hf.ex
  obtain ⟨ta, pa, qa⟩ := ha.ex
  refine ⟨fun σ H Q => tf σ H fun fv H1 => ∃ x φ f, fv = .ref f ∧ X.mg x = some (.ref f) ∧ tab.lookup x = some φ ∧ ta σ H1 fun vs H2 => toA X.K X.mg n φ vs H2 Q (WE W σ), ⟨fun pins s σ H Q I h => ?_⟩, fun C H0 H σ st Ex Q Qv hI hX hQ hg => qf C H0 H σ st Ex _ _ hI hX (fun d st1 fv H1 K1 q1 i1 s1 r1 => ?_) hg⟩
  · rw [hev]
    refine wpAny_bind (thn (pf.run pins s σ H _ I h) fun u s1 ⟨fv, H1, I1, rf, x, φ, f, ef, hm, hφ, q1⟩ => ?_)
    subst ef
    obtain rfl : u = Value.ref f := rf
    obtain ⟨k, f', fd, ps, hm', F, hr, hk, hb⟩ := hT x φ hφ
    obtain rfl : f' = f := by rw [hm] at hm'; cases hm'; rfl
    exact PySem.W.callWith_K (h₀ := X.base) I1.ok.mod.kin hk (thn (pa.run pos pins s1 σ H1 _ I1 q1) fun us s2 ⟨vs, H2, I2, r, q⟩ => ⟨I2.kIn, run_G (E := WE W) F hr hb (passAt tk σ) I2 r q⟩) he hpl
  · obtain ⟨φ, hφ, qz⟩ := wpO_of q1
    unfold qGlo at hφ
    split at hφ
    · rename_i x
      have r1' := r1
      unfold Rep at r1'
      obtain ⟨f, hm, rfl⟩ := r1'
      refine ⟨x, φ, f, rfl, hm, hφ, qa C H1 K1 σ st1 Ex _ _ i1 (hX.up s1) (fun ds st2 vs H2 K2 q2 i2 s2 r2 el => ?_) qz⟩
      refine ⟨by rw [r2.length, el]; exact hl, H2, ds, _, _, i2.same, r2, q2, fun er H3 K3 cls d q3 f3 r3 => ?_, fun r v H3 K3 q3 f3 r3 => ?_⟩
      · exact hX er st2 H3 K3 cls d q3 (i2.callA f3) ((s1.trans s2).trans f3.s0) r3
      · exact hQ r st2 v H3 K3 q3 (i2.callA f3) ((s1.trans s2).trans f3.s0) (RepT.r i2 (fun k a l t ds q => ⟨l, t, ds, q⟩) r3)
    · cases hφ
theorem lookup_map {α β : Type} (g : α → β) (x : Str) : ∀ tab : List (Str × α), (tab.map fun p => (p.1, g p.2)).lookup x = (tab.lookup x).map g
  | [] => rfl
  | (y, a) :: r => by
    rw [List.map_cons, List.lookup_cons, List.lookup_cons, lookup_map g x r]
    cases x == y <;> rfl
theorem qGlo_map {α β : Type} (g : α → β) (tab : List (Str × α)) (d : D) : qGlo (tab.map fun p => (p.1, g p.2)) d = (qGlo tab d).map g := by
  cases d with
  | glo x => exact lookup_map g x tab
  | _ => rfl
theorem wpO_map {α β : Type} {g : α → β} {o : Option α} {Q : β → Prop} : wpO (o.map g) Q = wpO o fun a => Q (g a) := by cases o <;> rfl
def phiA0 (F : Res DErr D) : SpA := fun ds Ex Q => match ds with
  | [] => wp F Ex fun d => Q (.fz d)
  | _ => False
def phiA1 (F : D → Res DErr D) : SpA := fun ds Ex Q => match ds with
  | [a] => wp (F a) Ex fun d => Q (.fz d)
  | _ => False
def phiA2 (F : D → D → Res DErr D) : SpA := fun ds Ex Q => match ds with
  | [a, b] => wp (F a b) Ex fun d => Q (.fz d)
  | _ => False
def phiA3 (F : D → D → D → Res DErr D) : SpA := fun ds Ex Q => match ds with
  | [a, b, c] => wp (F a b c) Ex fun d => Q (.fz d)
  | _ => False
def phiA4 (F : D → D → D → D → Res DErr D) : SpA := fun ds Ex Q => match ds with
  | [a, b, c, d] => wp (F a b c d) Ex fun d => Q (.fz d)
  | _ => False
theorem phiA1_eq {F : D → Res DErr D} {a : D} {Ex : DErr → Prop} {Q : S → Prop} : phiA1 F [a] Ex Q = wp (F a) Ex fun d => Q (.fz d) := rfl
theorem phiA2_eq {F : D → D → Res DErr D} {a b : D} {Ex : DErr → Prop} {Q : S → Prop} : phiA2 F [a, b] Ex Q = wp (F a b) Ex fun d => Q (.fz d) := rfl
theorem phiA3_eq {F : D → D → D → Res DErr D} {a b c : D} {Ex : DErr → Prop} {Q : S → Prop} : phiA3 F [a, b, c] Ex Q = wp (F a b c) Ex fun d => Q (.fz d) := rfl
end
/-! slices -/
def qInt : D → Option Int
  | .int i => some i
  | _ => none
def dSomeQ (g : DE) (Ex : DX) (st : LS) (Q : Option Int → LS → Prop) : Prop := g Ex st fun d st1 => wpO (qInt d) fun i => Q (some i) st1
theorem ppA_some {X : Cx} {W : WX} {e : Expr} {g : DE} (h : PED X W e g) : POD' X W (some e) (dSomeQ g) := by
  obtain ⟨ta, pa, qa⟩ := h.ex
  refine ⟨_, po_some pa, fun C H0 H σ st Ex Q Qv hI hX hQ hg => qa C H0 H σ st Ex _ _ hI hX (fun x st1 v H1 K1 q1 i1 s1 r1 => ?_) hg⟩
  cases x with
  | int i => exact ⟨i, r1.int, hQ _ st1 H1 K1 q1 i1 s1⟩
  | _ => exact q1.elim
def cutC (x : Str) (lo hi : Option Int) : Str := cutS x lo hi
def qSl (x : D) (lo hi : Option Int) : Option D := match x with
  | .nd .lst ds => some (.nd .lst (cutD ds lo hi))
  | .nd .scr ds => some (.nd .lst (cutD ds lo hi))
  | .nd .tup ds => some (.nd .tup (cutD ds lo hi))
  | .str s => if s.length ≤ 16777216 then some (.str (cutC s lo hi)) else none
  | _ => none
theorem cutD_full {K : PySem.W.Frag} {mg : Str → Option Value} {H : Hp} {ds : List D} {vs : List V} {lo hi : Option Int} (r3' : RepL K mg H ds vs) (h : HT.sIx vs.length 0 lo = 0 ∧ HT.sIx vs.length vs.length hi = vs.length) : cutD ds lo hi = ds := by
  rw [r3'.length] at h
  unfold cutD
  rw [h.1, h.2, List.drop_zero, Nat.sub_zero, List.take_length]
def dSlV (g : DE) (gl gh : DP) (Ex : DX) (st : LS) (Q : D → LS → Prop) : Prop := g Ex st fun x st1 => gl Ex st1 fun lo st2 => gh Ex st2 fun hi st3 => wpO (qSl x lo hi) fun d => Q d st3
theorem pedA_sl {X : Cx} {W : WX} {e : Expr} {lo hi : Option Expr} {g : DE} {gl gh : DP} {p2 pos : Pos} (h : PED X W e g) (hl : POD' X W lo gl) (hh : POD' X W hi gh) : PED X W (.Subscript e (.Slice lo hi none p2) pos) (dSlV g gl gh) := by
  obtain ⟨ta, pa, qa⟩ := h.ex
  obtain ⟨tl, pl, ql⟩ := hl.ex
  obtain ⟨th, ph, qh⟩ := hh.ex
  refine ⟨_, pe_slice (sl_list.or (sl_tupA.or sl_str)) pa pl ph, fun C H0 H σ st Ex Q Qv hI hX hQ hg => qa C H0 H σ st Ex _ _ hI hX (fun x st1 v H1 K1 q1 i1 s1 r1 => ?_) hg⟩
  refine ql C H1 K1 σ st1 Ex _ _ i1 (hX.up s1) (fun lo st2 H2 K2 q2 i2 s2 => ?_) q1
  refine qh C H2 K2 σ st2 Ex _ _ i2 (hX.up (s1.trans s2)) (fun hi st3 H3 K3 q3 i3 s3 => ?_) q2
  obtain ⟨d, hd, qd⟩ := wpO_of q3
  have r3 := Rep.mono (s2.trans s3) _ _ r1
  have s13 : Same H0 H3 := s1.trans (s2.trans s3)
  unfold qSl at hd
  split at hd
  · cases hd
    obtain ⟨a, vs, rfl, h2, h3⟩ := r3.nd
    refine .inl ⟨a, vs, rfl, i3.same.seq (SqL.of h2), fun p hp => ?_⟩
    have hp0 := i3.same.free hp
    exact hQ _ st3 _ _ _ qd (i3.new hp) (s13.trans (same_upd hp0)) (rep_nd (t := .lst) upd_same (RepL.mono (same_upd hp0) _ _ (cut_rep lo hi h3)))
  · cases hd
    obtain ⟨a, vs, rfl, h2, h3⟩ := r3.nd
    refine .inl ⟨a, vs, rfl, i3.same.seq h2, fun p hp => ?_⟩
    have hp0 := i3.same.free hp
    exact hQ _ st3 _ _ _ qd (i3.new hp) (s13.trans (same_upd hp0)) (rep_nd (t := .lst) upd_same (RepL.mono (same_upd hp0) _ _ (cut_rep lo hi h3)))
  · cases hd
    obtain ⟨a, vs, rfl, h2, h3⟩ := r3.nd
    refine .inr (.inl ⟨a, vs, rfl, SqT.mono i3.same h2, fun hw => ?_, fun hw p hp => ?_⟩)
    · have e : cutD _ lo hi = _ := cutD_full (r3' := h3) hw
      rw [e] at qd
      exact hQ _ st3 _ _ _ qd i3 s13 (rep_nd h2 h3)
    · have hp0 := i3.same.free hp
      exact hQ _ st3 _ _ _ qd (i3.new hp) (s13.trans (same_upd hp0)) (rep_nd (t := .tup) (SqT.of upd_same) (RepL.mono (same_upd hp0) _ _ (cut_rep lo hi h3)))
  · split at hd
    · cases hd
      cases r3.str
      exact .inr (.inr ⟨_, rfl, by assumption, hQ _ st3 _ _ _ qd i3 s13 rep_str⟩)
    · cases hd
  · cases hd
/-! lists of slots -/
theorem pm_c {f : D → S} {x : D} {l : List D} : (x :: l).map f = f x :: l.map f := rfl
theorem pm_n {f : D → S} : ([] : List D).map f = [] := rfl
theorem pa_c {x : S} {l m : List S} : (x :: l) ++ m = x :: (l ++ m) := rfl
theorem pa_n {m : List S} : ([] : List S) ++ m = m := rfl
theorem pb_c {x : D} {l m : List D} : (x :: l) ++ m = x :: (l ++ m) := rfl
theorem pb_n {m : List D} : ([] : List D) ++ m = m := rfl
theorem pr_s {n : Nat} {x : S} : List.replicate (n + 1) x = x :: List.replicate n x := rfl
theorem pr_0 {x : S} : List.replicate 0 x = [] := rfl
theorem pl_c {x : D} {l : List D} : (x :: l).length = l.length + 1 := rfl
theorem pl_n : ([] : List D).length = 0 := rfl
theorem pg_0 {x : S} {l : List S} : (x :: l)[0]? = some x := rfl
theorem pg_s {x : S} {l : List S} {n : Nat} : (x :: l)[n + 1]? = l[n]? := rfl
theorem ps_0 {x y : S} {l : List S} : (x :: l).set 0 y = y :: l := rfl
theorem ps_s {x y : S} {l : List S} {n : Nat} : (x :: l).set (n + 1) y = x :: l.set n y := rfl
end PD

/-! One step of a reading, from the outside in. -/
namespace PD
open PySem PySem.Spec PyProof.Rows L2
section
variable {A : Prop} {de : DEnds} {st st' s : LS} {Ex : DX} {Q : D → LS → Prop} {QS : S → LS → Prop} {QB : Bool → LS → Prop} {QA : List D → LS → Prop} {QT : LS → Prop} {QP : Option Int → LS → Prop}
  {a b : DS} {g ga gb : DE} {o : DO} {ha : DA} {t t' : DT} {i j : Nat} {d x y : D} {r : S} {e : DErr} {ds : List D} {gi : DI} {tg tg1 tg2 tg3 : DG} {gl gh : DP}
-- statements
theorem st_seq (h : A → a (thenE de b) st) : A → dSeq a b de st := h
theorem st_then (h : A → b de s) : A → (thenE de b).nx s := h
theorem st_thenR (h : A → de.rt r s) : A → (thenE de b).rt r s := h
theorem st_thenX (h : A → de.ex e s) : A → (thenE de b).ex e s := h
theorem st_thenB (h : A → de.bk s) : A → (thenE de b).bk s := h
theorem st_thenC (h : A → de.ct s) : A → (thenE de b).ct s := h
theorem st_loop {nx bk : LS → Prop} (h : A → nx s) : A → (loopE de nx bk).nx s := h
theorem st_loopC {nx bk : LS → Prop} (h : A → nx s) : A → (loopE de nx bk).ct s := h
theorem st_loopB {nx bk : LS → Prop} (h : A → bk s) : A → (loopE de nx bk).bk s := h
theorem st_loopR {nx bk : LS → Prop} (h : A → de.rt r s) : A → (loopE de nx bk).rt r s := h
theorem st_loopX {nx bk : LS → Prop} (h : A → de.ex e s) : A → (loopE de nx bk).ex e s := h
theorem st_endA {E : DErr → Prop} {K : S → Prop} (h : A → K (.fz .non)) : A → (endsA E K).nx s := h
theorem st_endR {E : DErr → Prop} {K : S → Prop} (h : A → K r) : A → (endsA E K).rt r s := h
theorem st_endX {E : DErr → Prop} {K : S → Prop} (h : A → E e) : A → (endsA E K).ex e s := h
theorem st_endB {p : Addr} {l : Bool} {rest : LS} {E : DErr → D → Prop} {K : S → D → Prop} (h : A → K (.fz .non) d) : A → (endsB p E K).nx (.ow p l d :: rest) := fun z => ⟨rfl, h z⟩
theorem st_endBR {p : Addr} {l : Bool} {rest : LS} {E : DErr → D → Prop} {K : S → D → Prop} (h : A → K r d) : A → (endsB p E K).rt r (.ow p l d :: rest) := fun z => ⟨rfl, h z⟩
theorem st_endBX {p : Addr} {l : Bool} {rest : LS} {E : DErr → D → Prop} {K : S → D → Prop} (h : A → E e d) : A → (endsB p E K).ex e (.ow p l d :: rest) := fun z => ⟨rfl, h z⟩
theorem st_nx (h : A → de.nx st) : A → dNx de st := h
theorem st_bk (h : A → de.bk st) : A → dBk de st := h
theorem st_ct (h : A → de.ct st) : A → dCt de st := h
theorem st_no (h : A → False) : A → dNo de st := h
theorem st_set (h : A → o de.ex st fun r st1 => de.nx (st1.set i r)) : A → dSet i o de st := h
theorem st_par (h : A → ga de.ex st fun x st1 => gb de.ex st1 fun y st2 => de.nx ((st2.set i (.fz x)).set j (.fz y))) : A → dPar i j ga gb de st := h
theorem st_asg (h : A → g de.ex st fun d st1 => tg d st1 fun s => de.nx s) : A → dAsg g tg de st := h
theorem st_ret (h : A → o de.ex st fun r s => de.rt r s) : A → dRet o de st := h
theorem st_retN (h : A → de.rt (.fz .non) st) : A → dRetN de st := h
theorem st_ifS (h : A → t de.ex st fun k st1 => cond k (a de st1) (b de st1)) : A → dIfS t a b de st := h
theorem st_drop (h : A → o de.ex st fun _ st1 => de.nx st1) : A → dDrop o de st := h
theorem st_for (h : A → gi de.ex st fun ds st1 => dForL tg b ds de st1) : A → dFor gi tg b de st := h
theorem st_raise {k : Nat} (h : A → g de.ex st fun d st1 => de.ex ⟨k, d⟩ st1) : A → dRaise k g de st := h
theorem st_try {tb : Nat → Bool} {gs : XU → DErr → DS} (h : A → a (tryE de i tb gs) st) : A → dTry i tb a gs de st := h
theorem st_tryN {tb : Nat → Bool} {gs : XU → DErr → DS} (h : A → de.nx s) : A → (tryE de i tb gs).nx s := h
theorem st_tryR {tb : Nat → Bool} {gs : XU → DErr → DS} (h : A → de.rt r s) : A → (tryE de i tb gs).rt r s := h
theorem st_tryB {tb : Nat → Bool} {gs : XU → DErr → DS} (h : A → de.bk s) : A → (tryE de i tb gs).bk s := h
theorem st_tryC {tb : Nat → Bool} {gs : XU → DErr → DS} (h : A → de.ct s) : A → (tryE de i tb gs).ct s := h
theorem st_tryX {tb : Nat → Bool} {gs : XU → DErr → DS} (h : A → cond (tb e.k) (∀ u, gs u e (suitE de i) (s.set i (.xc u e))) (de.ex e s)) : A → (tryE de i tb gs).ex e s := h
theorem st_suitN (h : A → de.nx (s.set i .un)) : A → (suitE de i).nx s := h
theorem st_suitR (h : A → de.rt r s) : A → (suitE de i).rt r s := h
theorem st_suitB (h : A → de.bk (s.set i .un)) : A → (suitE de i).bk s := h
theorem st_suitC (h : A → de.ct (s.set i .un)) : A → (suitE de i).ct s := h
theorem st_dst (h : A → ga de.ex st fun v st1 => atO st1[i]? fun _ _ _ => gb de.ex st1 fun x st2 => atO st2[i]? fun a l d => wpO (qSetL d x v) fun d' => de.nx (st2.set i (.ow a l d'))) : A → dst i ga gb de st := h
theorem st_dap (h : A → atO st[i]? fun _ _ d0 => wpO (qIsL d0) fun _ => ga de.ex st fun v st1 => atO st1[i]? fun a l d => wpO (qApp d v) fun d' => de.nx (st1.set i (.ow a l d'))) : A → dap i ga de st := h
theorem st_atO {os : Option S} {p : Addr} {l : Bool} {K : Addr → Bool → D → Prop} (e : os = some (.ow p l d)) (h : A → K p l d) : A → atO os K := fun z => by rw [e]; exact h z
theorem st_condT {B C : Prop} (h : A → B) : A → cond true B C := h
theorem st_condF {B C : Prop} (h : A → C) : A → cond false B C := h
-- targets
theorem st_gname (h : A → QT (st.set i (.fz d))) : A → gdName i d st QT := h
theorem st_gT2 (h : A → wpO (qT2 d) fun p => tg1 p.1 st fun st1 => tg2 p.2 st1 QT) : A → gdT2 tg1 tg2 d st QT := h
theorem st_gT3 (h : A → wpO (qT3 d) fun p => tg1 p.1 st fun st1 => tg2 p.2.1 st1 fun st2 => tg3 p.2.2 st2 QT) : A → gdT3 tg1 tg2 tg3 d st QT := h
-- expressions
theorem st_var (e : rdS i st = some (d, st')) (h : A → Q d st') : A → dVar i Ex st Q := fun z => by unfold dVar; rw [e]; exact h z
theorem st_c (h : A → Q d st) : A → dC d Ex st Q := h
theorem st_fz (h : A → o Ex st fun r st1 => wpO (sD r) fun d => Q d st1) : A → dFz o Ex st Q := h
theorem st_sDf {K : D → Prop} (h : A → K d) : A → wpO (sD (.fz d)) K := h
theorem st_sDo {p : Addr} {l : Bool} {K : D → Prop} (h : A → K d) : A → wpO (sD (.ow p l d)) K := h
theorem st_res (h : A → g Ex st fun d st1 => QS (.fz d) st1) : A → dRes g Ex st QS := h
theorem st_tst (h : A → g Ex st fun d st1 => wpO (qBl d) fun b => QB b st1) : A → dTst g Ex st QB := h
theorem st_op {q : Q2} (h : A → ga Ex st fun x st1 => gb Ex st1 fun y st2 => wpO (q x y) fun d => Q d st2) : A → dOp (w2 q) ga gb Ex st Q := h
theorem st_un {q : Q1} (h : A → ga Ex st fun x st1 => wpO (q x) fun d => Q d st1) : A → dUn (w1 q) ga Ex st Q := h
theorem st_and (h : A → ga Ex st fun x st1 => wpO (qBl x) fun b => cond b (gb Ex st1 Q) (Q (.bl false) st1)) : A → dAnd ga gb Ex st Q := h
theorem st_or (h : A → ga Ex st fun x st1 => wpO (qBl x) fun b => cond b (Q (.bl true) st1) (gb Ex st1 Q)) : A → dOr ga gb Ex st Q := h
theorem st_not (h : A → ga Ex st fun x st1 => wpO (qBl x) fun b => Q (.bl (!b)) st1) : A → dNot ga Ex st Q := h
theorem st_if (h : A → t Ex st fun c st1 => cond c (ga Ex st1 Q) (gb Ex st1 Q)) : A → dIf t ga gb Ex st Q := h
theorem st_andT (h : A → t Ex st fun c st1 => cond c (t' Ex st1 QB) (QB false st1)) : A → dAndT t t' Ex st QB := h
theorem st_orT (h : A → t Ex st fun c st1 => cond c (QB true st1) (t' Ex st1 QB)) : A → dOrT t t' Ex st QB := h
theorem st_notT (h : A → t Ex st fun c st1 => QB (!c) st1) : A → dNotT t Ex st QB := h
theorem st_anil (h : A → QA [] st) : A → dANil Ex st QA := h
theorem st_acons (h : A → g Ex st fun d st1 => ha Ex st1 fun ds st2 => QA (d :: ds) st2) : A → dACons g ha Ex st QA := h
theorem st_tup (h : A → ha Ex st fun ds st1 => Q (.nd .tup ds) st1) : A → dTup ha Ex st Q := h
theorem st_lst (h : A → ha Ex st fun ds st1 => ∀ a, QS (.ow a true (.nd .lst ds)) st1) : A → dLst ha Ex st QS := h
theorem st_lstV (h : A → ha Ex st fun ds st1 => Q (.nd .lst ds) st1) : A → dLstV ha Ex st Q := h
theorem st_cb {q : QL} (h : A → ha Ex st fun ds st1 => wpO (q ds) fun d => Q d st1) : A → dCB (wL q) ha Ex st Q := h
theorem st_cA {φ : SpA} (h : A → ha Ex st fun ds st1 => φ ds (fun e => Ex e st1) fun r => QS r st1) : A → dcA φ ha Ex st QS := h
theorem st_cAD {φ : SpA} {dd : List D} (h : A → ha Ex st fun ds st1 => φ (ds ++ dd) (fun e => Ex e st1) fun r => QS r st1) : A → dcAD φ dd ha Ex st QS := h
theorem st_cB {φ : SpB} (h : A → atO st[i]? fun _ _ _ => ha Ex st fun ds st1 => atO st1[i]? fun a l d => φ d ds (fun e d' => Ex e (st1.set i (.ow a l d'))) fun r d' => QS r (st1.set i (.ow a l d'))) : A → dcB φ i ha Ex st QS := h
theorem st_cV {tab : List (Str × SpA)} (h : A → g Ex st fun f st1 => wpO (qGlo tab f) fun φ => ha Ex st1 fun ds st2 => φ ds (fun e => Ex e st2) fun r => QS r st2) : A → dcVQ tab g ha Ex st QS := h
theorem st_ix (h : A → atO st[i]? fun _ _ _ => ga Ex st fun x st1 => atO st1[i]? fun _ _ d => wpO (qIxL d x) fun y => Q y st1) : A → dix i ga Ex st Q := h
theorem st_sl (h : A → g Ex st fun x st1 => gl Ex st1 fun lo st2 => gh Ex st2 fun hi st3 => wpO (qSl x lo hi) fun d => Q d st3) : A → dSlV g gl gh Ex st Q := h
theorem st_noP (h : A → QP none st) : A → dNoP Ex st QP := h
theorem st_someP (h : A → g Ex st fun d st1 => wpO (qInt d) fun i => QP (some i) st1) : A → dSomeQ g Ex st QP := h
theorem st_dic0 (h : A → Q (.nd (.dic []) []) st) : A → dDic0 Ex st Q := h
theorem st_xf {u : XU} {f : Str} (e1 : st[i]? = some (.xc u e)) (h : A → wpO (qXf f e) fun d => Q d st) : A → dXf i u e f Ex st Q := fun z => wpO_imp (fun _ q => ⟨e1, q⟩) (h z)
theorem st_xi {u : XU} {ib : Nat → Bool} (e1 : st[i]? = some (.xc u e)) (h : A → Q (.bl (ib e.k)) st) : A → dXi i u e ib Ex st Q := fun z => ⟨e1, h z⟩
theorem st_it {q : D → Option (List D)} (h : A → g Ex st fun d st1 => wpO (q d) fun ds => QA ds st1) : A → dIt q g Ex st QA := h
theorem st_itA {q : List D → Option (List D)} (h : A → ha Ex st fun d st1 => wpO (q d) fun ds => QA ds st1) : A → dItA q ha Ex st QA := h
theorem st_yes (h : A → QB true st) : A → dYes Ex st QB := h
theorem st_lcQ {tt : DT} {vs : List Nat} (h : A → gi Ex st fun ds st1 => wpO (qSz ds) fun ds => dLcL tg tt g vs ds [] (stW st1 vs) fun acc st2 => ∀ p, QS (.ow p true (.nd .lst acc)) st2) : A → dLcQ gi tg tt g vs Ex st QS := h
theorem st_lcV {tt : DT} {vs : List Nat} (h : A → gi Ex st fun ds st1 => wpO (qSz ds) fun ds => dLcL tg tt g vs ds [] (stW st1 vs) fun acc st2 => Q (.nd .lst acc) st2) : A → dLcV gi tg tt g vs Ex st Q := h
-- calls
theorem st_p1 {F : D → Res DErr D} {E : DErr → Prop} {K : S → Prop} (h : A → wp (F x) E fun d => K (.fz d)) : A → phiA1 F [x] E K := h
theorem st_p2 {F : D → D → Res DErr D} {E : DErr → Prop} {K : S → Prop} (h : A → wp (F x y) E fun d => K (.fz d)) : A → phiA2 F [x, y] E K := h
theorem st_p3 {F : D → D → D → Res DErr D} {z : D} {E : DErr → Prop} {K : S → Prop} (h : A → wp (F x y z) E fun d => K (.fz d)) : A → phiA3 F [x, y, z] E K := h
theorem st_all {α : Sort _} {B : α → Prop} (h : ∀ u, A → B u) : A → ∀ u, B u := fun a u => h u a
end
/-- the script -/
abbrev scr (ns : List Int) : D := .nd .scr (ns.map D.int)
/-! equations of plain functions -/
section
variable {ε α β : Type}
theorem bO_some {a : α} {f : α → Res ε β} : bO (some a) f = f a := rfl
theorem bO_none {f : α → Res ε β} : bO none f = .no := rfl
theorem bR_ok {a : α} {f : α → Res ε β} : bR (.ok a) f = f a := rfl
theorem bR_ex {e : ε} {f : α → Res ε β} : bR (.ex e) f = .ex e := rfl
theorem bR_no {f : α → Res ε β} : bR .no f = .no := rfl
theorem noEx_ok {ε' : Type} {a : α} : noEx (.ok a : Res ε α) = (.ok a : Res ε' α) := rfl
theorem bR_bO {γ : Type} {o : Option γ} {g : γ → Res ε α} {f : α → Res ε β} : bR (bO o g) f = bO o fun x => bR (g x) f := by cases o <;> rfl
theorem bR_bR {γ : Type} {m : Res ε γ} {g : γ → Res ε α} {f : α → Res ε β} : bR (bR m g) f = bR m fun x => bR (g x) f := by cases m <;> rfl
theorem bR_cond {b : Bool} {x y : Res ε α} {f : α → Res ε β} : bR (cond b x y) f = cond b (bR x f) (bR y f) := by cases b <;> rfl
theorem tryB_ok {a : α} {tb : Nat → Bool} {h : DErr → Res DErr α} : tryB (.ok a) tb h = .ok a := rfl
theorem tryB_ex {e : DErr} {tb : Nat → Bool} {h : DErr → Res DErr α} : tryB (.ex e) tb h = cond (tb e.k) (h e) (.ex e) := rfl
theorem ctl_nx {γ : Type} {b : β} {r : γ → Res ε α} {n : β → Res ε α} : ctl (.nx b) r n = n b := rfl
theorem ctl_bk {γ : Type} {b : β} {r : γ → Res ε α} {n : β → Res ε α} : ctl (.bk b) r n = n b := rfl
theorem ctl_rt {γ : Type} {b : γ} {r : γ → Res ε α} {n : β → Res ε α} : ctl (.rt b) r n = r b := rfl
theorem foldR_nil {b : β} {f : D → β → Res ε β} : foldR [] b f = .ok b := rfl
theorem foldR_cons {x : D} {r : List D} {b : β} {f : D → β → Res ε β} : foldR (x :: r) b f = bR (f x b) fun b' => foldR r b' f := rfl
theorem forR_nil {b : β} {f : D → β → Res ε (Ctl α β)} : forR [] b f = .ok (.nx b) := rfl
/-- a loop that goes on: an invariant -/
theorem forR_inv {f : D → β → Res ε (Ctl α β)} (P : β → Prop) : ∀ (l : List D) (b : β), P b → (∀ x b, x ∈ l → P b → ∃ b', f x b = .ok (.nx b') ∧ P b') → ∃ b', forR l b f = .ok (.nx b') ∧ P b'
  | [], b, h, _ => ⟨b, rfl, h⟩
  | x :: r, b, h, k => by
    obtain ⟨b', e, h'⟩ := k x b List.mem_cons_self h
    obtain ⟨c, e2, h2⟩ := forR_inv P r b' h' fun y b hy hb => k y b (List.mem_cons_of_mem _ hy) hb
    refine ⟨c, ?_, h2⟩
    show bR (f x b) _ = _
    rw [e]
    exact e2
theorem foldR_inv {f : D → β → Res ε β} (P : β → Prop) : ∀ (l : List D) (b : β), P b → (∀ x b, x ∈ l → P b → ∃ b', f x b = .ok b' ∧ P b') → ∃ b', foldR l b f = .ok b' ∧ P b'
  | [], b, h, _ => ⟨b, rfl, h⟩
  | x :: r, b, h, k => by
    obtain ⟨b', e, h'⟩ := k x b List.mem_cons_self h
    obtain ⟨c, e2, h2⟩ := foldR_inv P r b' h' fun y b hy hb => k y b (List.mem_cons_of_mem _ hy) hb
    refine ⟨c, ?_, h2⟩
    show bR (f x b) _ = _
    rw [e]
    exact e2
end
/-- a loop that goes on, with nothing carried -/
theorem forR_unit {ε α : Type} {f : D → Unit → Res ε (Ctl α Unit)} (l : List D) (k : ∀ x, x ∈ l → f x () = .ok (.nx ())) : forR l () f = .ok (.nx ()) := by
  obtain ⟨b, e, _⟩ := forR_inv (f := f) (fun _ => True) l () trivial fun x b hx _ => ⟨(), k x hx, trivial⟩
  exact e
theorem mapR_eq {ε : Type} {f : D → Res ε D} {g : D → D} : ∀ l : List D, (∀ x ∈ l, f x = .ok (g x)) → mapR l f = .ok (l.map g)
  | [], _ => rfl
  | x :: r, h => by
    show bR (f x) _ = _
    rw [h x List.mem_cons_self]
    show bR (mapR r f) _ = _
    rw [mapR_eq r fun y hy => h y (List.mem_cons_of_mem _ hy)]
    rfl
/-- ints as data -/
theorem qAdd_int {i j : Int} : qAdd (.int i) (.int j) = some (.int (i + j)) := rfl
theorem qSub_int {i j : Int} : qSub (.int i) (.int j) = some (.int (i - j)) := rfl
theorem qMul_int {i j : Int} (h : mulB i j = true) : qMul (.int i) (.int j) = some (.int (i * j)) := by
  unfold qMul qOr qIc
  dsimp only
  rw [if_pos h]
theorem qDiv_int {i j : Int} (h : divB j = true) : qDiv (.int i) (.int j) = some (.int (i.fdiv j)) := by
  unfold qDiv qIc
  dsimp only
  rw [if_pos h]
theorem qMod_int {i j : Int} (h : j ≠ 0) : qMod (.int i) (.int j) = some (.int (i.fmod j)) := by
  unfold qMod qIc
  dsimp only
  rw [if_pos (decide_eq_true h)]
theorem qLt_int {i j : Int} : qLt (.int i) (.int j) = some (.bl (decide (i < j))) := rfl
theorem qLe_int {i j : Int} : qLe (.int i) (.int j) = some (.bl (decide (i ≤ j))) := rfl
theorem qGt_int {i j : Int} : qGt (.int i) (.int j) = some (.bl (decide (j < i))) := rfl
theorem qGe_int {i j : Int} : qGe (.int i) (.int j) = some (.bl (decide (j ≤ i))) := rfl
theorem qNeg_int {i : Int} : qNeg (.int i) = some (.int (-i)) := rfl
theorem qBl_bl {b : Bool} : qBl (.bl b) = some b := rfl
theorem mulB_of {a b : Nat} {i j : Int} (h : Bz a i) (k : Bz b j) (ha : 0 < a) (hb : 0 < b) (l : a + b ≤ 900000) : mulB i j = true := by
  have h1 := bits_le h ha
  have h2 := bits_le k hb
  unfold mulB
  rw [decide_eq_true (by omega : bits i + bits j ≤ 900000)]; rfl
theorem mulB_small {i j : Int} (h : Bz 63 i ∨ Bz 63 j) : mulB i j = true := by
  unfold mulB
  rcases h with h | h
  · rw [decide_eq_true (bits_le h (by decide))]; simp
  · rw [decide_eq_true (bits_le h (by decide) : bits j ≤ 63)]; simp
theorem divB_of {b : Nat} {j : Int} (h : j ≠ 0) (k : Bz b j) (l : b ≤ 9000) : divB j = true := by
  unfold divB
  rw [decide_eq_true h]
  by_cases hb : b = 0
  · subst hb
    exact absurd (show j.natAbs < 1 from k) (by omega)
  · rw [decide_eq_true (by have := bits_le k (by omega); omega : bits j ≤ 9000)]; rfl
end PD

/-! Facts of data that every law wants. -/
namespace PD
open PySem PySem.Spec PyProof.Rows L2
def isInt : D → Bool
  | .int _ => true
  | _ => false
def okTy (x : D) : Prop := (tyN x == "") = false
theorem k_NoneType_int : kitB "NoneType" "int" = some false := by decide +kernel
theorem k_bool_int : kitB "bool" "int" = some true := by decide +kernel
theorem k_int_int : kitB "int" "int" = some true := by decide +kernel
theorem k_str_int : kitB "str" "int" = some false := by decide +kernel
theorem k_tuple_int : kitB "tuple" "int" = some false := by decide +kernel
theorem k_list_int : kitB "list" "int" = some false := by decide +kernel
theorem k_dict_int : kitB "dict" "int" = some false := by decide +kernel
def isa_int : D → Bool
  | .non => false
  | .bl _ => true
  | .int _ => true
  | .str _ => false
  | .glo _ => false
  | .nd .tup _ => false
  | .nd .lst _ => false
  | .nd .scr _ => false
  | .nd (.dic _) _ => false
  | .nd (.ins _ _) _ => false
theorem kit_int {x : D} (h : okTy x) : kitB (tyN x) "int" = some (isa_int x) := by
  cases x with
  | non => exact k_NoneType_int
  | bl b => exact k_bool_int
  | int b => exact k_int_int
  | str b => exact k_str_int
  | glo x => exact absurd (show ("" == "") = false from h) (by decide)
  | nd t ds =>
    cases t with
    | tup => exact k_tuple_int
    | lst => exact k_list_int
    | scr => exact k_list_int
    | dic ks => exact k_dict_int
    | ins c fs => exact absurd (show ("" == "") = false from h) (by decide)
theorem k_NoneType_bool : kitB "NoneType" "bool" = some false := by decide +kernel
theorem k_bool_bool : kitB "bool" "bool" = some true := by decide +kernel
theorem k_int_bool : kitB "int" "bool" = some false := by decide +kernel
theorem k_str_bool : kitB "str" "bool" = some false := by decide +kernel
theorem k_tuple_bool : kitB "tuple" "bool" = some false := by decide +kernel
theorem k_list_bool : kitB "list" "bool" = some false := by decide +kernel
theorem k_dict_bool : kitB "dict" "bool" = some false := by decide +kernel
def isa_bool : D → Bool
  | .non => false
  | .bl _ => true
  | .int _ => false
  | .str _ => false
  | .glo _ => false
  | .nd .tup _ => false
  | .nd .lst _ => false
  | .nd .scr _ => false
  | .nd (.dic _) _ => false
  | .nd (.ins _ _) _ => false
theorem kit_bool {x : D} (h : okTy x) : kitB (tyN x) "bool" = some (isa_bool x) := by
  cases x with
  | non => exact k_NoneType_bool
  | bl b => exact k_bool_bool
  | int b => exact k_int_bool
  | str b => exact k_str_bool
  | glo x => exact absurd (show ("" == "") = false from h) (by decide)
  | nd t ds =>
    cases t with
    | tup => exact k_tuple_bool
    | lst => exact k_list_bool
    | scr => exact k_list_bool
    | dic ks => exact k_dict_bool
    | ins c fs => exact absurd (show ("" == "") = false from h) (by decide)
theorem k_NoneType_tuple : kitB "NoneType" "tuple" = some false := by decide +kernel
theorem k_bool_tuple : kitB "bool" "tuple" = some false := by decide +kernel
theorem k_int_tuple : kitB "int" "tuple" = some false := by decide +kernel
theorem k_str_tuple : kitB "str" "tuple" = some false := by decide +kernel
theorem k_tuple_tuple : kitB "tuple" "tuple" = some true := by decide +kernel
theorem k_list_tuple : kitB "list" "tuple" = some false := by decide +kernel
theorem k_dict_tuple : kitB "dict" "tuple" = some false := by decide +kernel
def isa_tuple : D → Bool
  | .non => false
  | .bl _ => false
  | .int _ => false
  | .str _ => false
  | .glo _ => false
  | .nd .tup _ => true
  | .nd .lst _ => false
  | .nd .scr _ => false
  | .nd (.dic _) _ => false
  | .nd (.ins _ _) _ => false
theorem kit_tuple {x : D} (h : okTy x) : kitB (tyN x) "tuple" = some (isa_tuple x) := by
  cases x with
  | non => exact k_NoneType_tuple
  | bl b => exact k_bool_tuple
  | int b => exact k_int_tuple
  | str b => exact k_str_tuple
  | glo x => exact absurd (show ("" == "") = false from h) (by decide)
  | nd t ds =>
    cases t with
    | tup => exact k_tuple_tuple
    | lst => exact k_list_tuple
    | scr => exact k_list_tuple
    | dic ks => exact k_dict_tuple
    | ins c fs => exact absurd (show ("" == "") = false from h) (by decide)
theorem k_NoneType_str : kitB "NoneType" "str" = some false := by decide +kernel
theorem k_bool_str : kitB "bool" "str" = some false := by decide +kernel
theorem k_int_str : kitB "int" "str" = some false := by decide +kernel
theorem k_str_str : kitB "str" "str" = some true := by decide +kernel
theorem k_tuple_str : kitB "tuple" "str" = some false := by decide +kernel
theorem k_list_str : kitB "list" "str" = some false := by decide +kernel
theorem k_dict_str : kitB "dict" "str" = some false := by decide +kernel
def isa_str : D → Bool
  | .non => false
  | .bl _ => false
  | .int _ => false
  | .str _ => true
  | .glo _ => false
  | .nd .tup _ => false
  | .nd .lst _ => false
  | .nd .scr _ => false
  | .nd (.dic _) _ => false
  | .nd (.ins _ _) _ => false
theorem kit_str {x : D} (h : okTy x) : kitB (tyN x) "str" = some (isa_str x) := by
  cases x with
  | non => exact k_NoneType_str
  | bl b => exact k_bool_str
  | int b => exact k_int_str
  | str b => exact k_str_str
  | glo x => exact absurd (show ("" == "") = false from h) (by decide)
  | nd t ds =>
    cases t with
    | tup => exact k_tuple_str
    | lst => exact k_list_str
    | scr => exact k_list_str
    | dic ks => exact k_dict_str
    | ins c fs => exact absurd (show ("" == "") = false from h) (by decide)
theorem k_NoneType_dict : kitB "NoneType" "dict" = some false := by decide +kernel
theorem k_bool_dict : kitB "bool" "dict" = some false := by decide +kernel
theorem k_int_dict : kitB "int" "dict" = some false := by decide +kernel
theorem k_str_dict : kitB "str" "dict" = some false := by decide +kernel
theorem k_tuple_dict : kitB "tuple" "dict" = some false := by decide +kernel
theorem k_list_dict : kitB "list" "dict" = some false := by decide +kernel
theorem k_dict_dict : kitB "dict" "dict" = some true := by decide +kernel
def isa_dict : D → Bool
  | .non => false
  | .bl _ => false
  | .int _ => false
  | .str _ => false
  | .glo _ => false
  | .nd .tup _ => false
  | .nd .lst _ => false
  | .nd .scr _ => false
  | .nd (.dic _) _ => true
  | .nd (.ins _ _) _ => false
theorem kit_dict {x : D} (h : okTy x) : kitB (tyN x) "dict" = some (isa_dict x) := by
  cases x with
  | non => exact k_NoneType_dict
  | bl b => exact k_bool_dict
  | int b => exact k_int_dict
  | str b => exact k_str_dict
  | glo x => exact absurd (show ("" == "") = false from h) (by decide)
  | nd t ds =>
    cases t with
    | tup => exact k_tuple_dict
    | lst => exact k_list_dict
    | scr => exact k_list_dict
    | dic ks => exact k_dict_dict
    | ins c fs => exact absurd (show ("" == "") = false from h) (by decide)
theorem gcd_bz {n d : Int} {b : Nat} (h : d ≠ 0) (k : Bz b d) : Bz b (Int.gcd n d : Int) := by
  have h1 : Int.gcd n d ∣ d.natAbs := Nat.gcd_dvd_right _ _
  have h2 : Int.gcd n d ≤ d.natAbs := Nat.le_of_dvd (by omega) h1
  unfold Bz at *; omega
theorem gd_bz {n d : Int} {b : Nat} (h : d ≠ 0) (k : Bz b d) : Bz b (gd n d) := by
  have := gcd_bz (n := n) h k
  unfold Bz at *
  rw [gd_abs]; omega
/-- whether a value is a fraction -/
def isPr : D → D → Bool
  | .int n, .int d => decide (1 ≤ d) && (Int.gcd n d == 1)
  | _, _ => false
def isFr : D → Bool
  | .nd .tup [a, b] => isPr a b
  | _ => false
/-- values whose types can be asked, as parts of a pair, too -/
def okP : D → Prop
  | .nd .tup [a, b] => okTy a ∧ okTy b
  | x => okTy x
theorem okP.ty {x : D} (h : okP x) : okTy x := by
  unfold okP at h
  split at h
  · show ("tuple" == "") = false; decide
  · exact h
theorem FrD.isFr {b : Nat} {x : D} (h : FrD b x) : isFr x = true := by
  have h1 := h.pos
  have h2 := h.cop
  rw [h.eq]
  unfold PD.isFr PD.isPr
  simp only [Bool.and_eq_true, decide_eq_true_eq, beq_iff_eq]
  exact ⟨h1, h2⟩
theorem FrD.okP {b : Nat} {x : D} (h : FrD b x) : okP x := by
  rw [h.eq]
  exact ⟨by show ("int" == "") = false; decide, by show ("int" == "") = false; decide⟩
theorem fdiv_nn {x m : Int} (hx : 0 ≤ x) (hm : 0 < m) : 0 ≤ x.fdiv m := Int.fdiv_nonneg hx (by omega)
theorem fmod_nn (x : Int) {m : Int} (hm : 0 < m) : 0 ≤ x.fmod m := Int.fmod_nonneg_of_pos x hm
theorem fmod_lt' (x : Int) {m : Int} (hm : 0 < m) : x.fmod m < m := Int.fmod_lt_of_pos x hm
theorem bz_nat {b : Nat} {x m : Int} (h0 : 0 ≤ x) (h : x ≤ m) (k : m < (2 : Int) ^ b) : Bz b x := by
  unfold Bz
  have : (2 : Int) ^ b = ((2 ^ b : Nat) : Int) := by rw [Int.natCast_pow]; rfl
  omega
theorem geti_map {ns : List Int} {k : Int} (h0 : 0 ≤ k) (h : k < (ns.length : Int)) : ∃ v, geti (ns.map D.int) k = some (.int v) := by
  obtain ⟨n, rfl⟩ := Int.eq_ofNat_of_zero_le h0
  have hn : n < ns.length := by omega
  refine ⟨ns[n], ?_⟩
  show (ns.map D.int)[n]? = _
  rw [List.getElem?_map, List.getElem?_eq_getElem hn]; rfl
theorem cut_ints (ns : List Int) (lo hi : Option Int) : ∃ ms : List Int, cutD (ns.map D.int) lo hi = ms.map D.int := by
  unfold cutD
  rw [← List.map_drop, ← List.map_take]
  exact ⟨_, rfl⟩
theorem qIsi_int {x : D} (h : okTy x) : qIsi "int" x = some (.bl (isa_int x)) := by
  unfold qIsi; rw [kit_int h, show (tyN x == "") = false from h]
theorem qIsi_bool {x : D} (h : okTy x) : qIsi "bool" x = some (.bl (isa_bool x)) := by
  unfold qIsi; rw [kit_bool h, show (tyN x == "") = false from h]
theorem qIsi_str {x : D} (h : okTy x) : qIsi "str" x = some (.bl (isa_str x)) := by
  unfold qIsi; rw [kit_str h, show (tyN x == "") = false from h]
theorem qIsi_tuple {x : D} (h : okTy x) : qIsi "tuple" x = some (.bl (isa_tuple x)) := by
  unfold qIsi; rw [kit_tuple h, show (tyN x == "") = false from h]
theorem qIsi_dict {x : D} (h : okTy x) : qIsi "dict" x = some (.bl (isa_dict x)) := by
  unfold qIsi; rw [kit_dict h, show (tyN x == "") = false from h]
theorem eqD_int {i j : Int} : eqD (.int i) (.int j) = (i == j) := by unfold eqD; rw [py, py, PyData.eqv]
theorem eqOk_int {i j : Int} : eqOk (.int i) (.int j) = true := by unfold eqOk; simp [py, PyData.plain, PyData.depth]
theorem qEq_int {i j : Int} : qEq (.int i) (.int j) = some (.bl (i == j)) := by unfold qEq; rw [if_pos eqOk_int, eqD_int]
theorem qNe_int {i j : Int} : qNe (.int i) (.int j) = some (.bl (!(i == j))) := by unfold qNe; rw [if_pos eqOk_int, eqD_int]
theorem iota_succ (lo : Int) (n : Nat) : iota lo (n + 1) = D.int lo :: iota (lo + 1) n := by
  unfold iota
  rw [List.range_succ_eq_map, List.map_cons, List.map_map]
  congr 1
  · simp
  · apply List.map_congr_left
    intro k _
    simp only [Function.comp]
    congr 1
    omega
theorem mem_iota {lo : Int} {n : Nat} {x : D} (h : x ∈ iota lo n) : ∃ k : Int, x = .int k ∧ lo ≤ k ∧ k < lo + n := by
  unfold iota at h
  obtain ⟨k, hk, rfl⟩ := List.mem_map.mp h
  have := List.mem_range.mp hk
  exact ⟨_, rfl, by omega, by omega⟩
def natD : D → Nat
  | .int i => i.natAbs
  | _ => 0
end PD

namespace PD
open PySem PySem.Spec PyProof.Rows L2


def tb_InvalidNumber : Nat → Bool
  | 0 => true
  | _ => false
def F_is_integer (value : D) : Res DErr D :=
  bR (bO (qIsi "int" value) fun v2 =>
  bO (qBl v2) fun b3 =>
  cond b3 (bO (qIsi "bool" value) fun v4 =>
  bO (qBl v4) fun b5 =>
  .ok (.bl !b5)) (.ok (.bl false))) fun v1 =>
  .ok v1
def g_is_integer : DS :=
  (dRet (dRes (dAnd (dUn (w1 (qIsi "int")) (dVar 0)) (dNot (dUn (w1 (qIsi "bool")) (dVar 0))))))
def phi_is_integer : SpA := phiA1 F_is_integer
theorem e_is_integer {y0 : D} {Ex : DErr → Prop} {Q : S → Prop} : phi_is_integer [y0] Ex Q = wp (F_is_integer y0) Ex (fun d => Q (.fz d)) := rfl
theorem c_is_integer {A : Prop} {y0 : D} {Ex : DErr → Prop} {Q : S → Prop} (h : A → wp (F_is_integer y0) Ex (fun d => Q (.fz d))) : A → phi_is_integer [y0] Ex Q := h
local macro_rules | `(tactic| walk_at "nm") => `(tactic| (try simp only [wp_ok, wp_ex, wp_bO, wp_bR, wp_cond, wp_noEx, wp_tryB, wp_ctl, ctlP_nx, ctlP_bk, ctlP_rt, Bool.not_true, Bool.not_false, cond_true, cond_false, wpO_map]))
local macro_rules | `(tactic| walk_at "st") => `(tactic| first | (with_reducible exact id) | (with_reducible exact fun h => h.elim) | (with_reducible exact fun h => h _) | (with_reducible refine st_condT ?_; walk_at "st") | (with_reducible refine st_condF ?_; walk_at "st") | (with_reducible refine wpO_imp (fun d => ?_); walk_at "st") | (with_reducible refine cond_imp ?_ ?_ <;> walk_at "st") | (with_reducible refine st_var (by with_unfolding_all exact rfl) ?_; walk_at "st") | (with_reducible refine st_atO (by with_unfolding_all exact rfl) ?_; walk_at "st") | (with_reducible refine st_seq ?_; walk_at "st") | (with_reducible refine st_then ?_; (try dsimp only [ps_0, ps_s, stW]); walk_at "st") | (with_reducible refine st_thenR ?_; walk_at "st") | (with_reducible refine st_thenX ?_; walk_at "st") | (with_reducible refine st_thenB ?_; walk_at "st") | (with_reducible refine st_thenC ?_; walk_at "st") | (with_reducible refine st_set ?_; walk_at "st") | (with_reducible refine st_ret ?_; walk_at "st") | (with_reducible refine st_ifS ?_; walk_at "st") | (with_reducible refine st_nx ?_; walk_at "st") | (with_reducible refine st_endA ?_; walk_at "st") | (with_reducible refine st_endR ?_; walk_at "st") | (with_reducible refine st_endX ?_; walk_at "st") | (with_reducible refine st_drop ?_; walk_at "st") | (with_reducible refine st_for ?_; walk_at "st") | (with_reducible refine st_bk ?_; walk_at "st") | (with_reducible refine st_ct ?_; walk_at "st") | (with_reducible refine st_asg ?_; walk_at "st") | (with_reducible refine st_par ?_; walk_at "st") | (with_reducible refine st_retN ?_; walk_at "st") | (with_reducible refine st_no ?_; walk_at "st") | (with_reducible refine st_raise ?_; walk_at "st") | (with_reducible refine st_try ?_; walk_at "st") | (with_reducible refine st_loop ?_; (try dsimp only [ps_0, ps_s, stW]); walk_at "st") | (with_reducible refine st_loopC ?_; (try dsimp only [ps_0, ps_s, stW]); walk_at "st") | (with_reducible refine st_loopB ?_; walk_at "st") | (with_reducible refine st_loopR ?_; walk_at "st") | (with_reducible refine st_loopX ?_; walk_at "st") | ((try dsimp only [ps_0, ps_s]); with_reducible refine st_endB ?_; walk_at "st") | ((try dsimp only [ps_0, ps_s]); with_reducible refine st_endBR ?_; walk_at "st") | ((try dsimp only [ps_0, ps_s]); with_reducible refine st_endBX ?_; walk_at "st") | (with_reducible refine st_tryN ?_; walk_at "st") | (with_reducible refine st_tryR ?_; walk_at "st") | (with_reducible refine st_tryB ?_; walk_at "st") | (with_reducible refine st_tryC ?_; walk_at "st") | (with_reducible refine st_tryX ?_; (try dsimp only [ps_0, ps_s, stW]); walk_at "st") | (with_reducible refine st_suitN ?_; (try dsimp only [ps_0, ps_s, stW]); walk_at "st") | (with_reducible refine st_suitR ?_; walk_at "st") | (with_reducible refine st_suitB ?_; (try dsimp only [ps_0, ps_s, stW]); walk_at "st") | (with_reducible refine st_suitC ?_; (try dsimp only [ps_0, ps_s, stW]); walk_at "st") | (with_reducible refine st_dst ?_; walk_at "st") | (with_reducible refine st_dap ?_; walk_at "st") | (with_reducible refine st_gname ?_; (try dsimp only [ps_0, ps_s, stW]); walk_at "st") | (with_reducible refine st_gT2 ?_; walk_at "st") | (with_reducible refine st_gT3 ?_; walk_at "st") | (with_reducible refine st_c ?_; walk_at "st") | (with_reducible refine st_fz ?_; walk_at "st") | (with_reducible refine st_sDf ?_; walk_at "st") | (with_reducible refine st_sDo ?_; walk_at "st") | (with_reducible refine st_res ?_; walk_at "st") | (with_reducible refine st_tst ?_; walk_at "st") | (with_reducible refine st_op ?_; walk_at "st") | (with_reducible refine st_un ?_; walk_at "st") | (with_reducible refine st_acons ?_; walk_at "st") | (with_reducible refine st_anil ?_; walk_at "st") | (with_reducible refine st_cb ?_; walk_at "st") | (with_reducible refine st_cA ?_; walk_at "st") | (with_reducible refine st_cB ?_; walk_at "st") | (with_reducible refine st_and ?_; walk_at "st") | (with_reducible refine st_or ?_; walk_at "st") | (with_reducible refine st_not ?_; walk_at "st") | (with_reducible refine st_if ?_; walk_at "st") | (with_reducible refine st_andT ?_; walk_at "st") | (with_reducible refine st_orT ?_; walk_at "st") | (with_reducible refine st_notT ?_; walk_at "st") | (with_reducible refine st_tup ?_; walk_at "st") | (with_reducible refine st_lst ?_; walk_at "st") | (with_reducible refine st_lstV ?_; walk_at "st") | (with_reducible refine st_cAD ?_; walk_at "st") | (with_reducible refine st_cV ?_; walk_at "st") | (with_reducible refine st_ix ?_; walk_at "st") | (with_reducible refine st_sl ?_; walk_at "st") | (with_reducible refine st_noP ?_; walk_at "st") | (with_reducible refine st_someP ?_; walk_at "st") | (with_reducible refine st_dic0 ?_; walk_at "st") | (with_reducible refine st_it ?_; walk_at "st") | (with_reducible refine st_itA ?_; walk_at "st") | (with_reducible refine st_yes ?_; walk_at "st") | (with_reducible refine st_lcQ ?_; (try dsimp only [ps_0, ps_s, stW]); walk_at "st") | (with_reducible refine st_lcV ?_; (try dsimp only [ps_0, ps_s, stW]); walk_at "st") | (with_reducible refine st_p1 ?_; walk_at "st") | (with_reducible refine st_p2 ?_; walk_at "st") | (with_reducible refine st_p3 ?_; walk_at "st") | (with_reducible refine st_xf (by with_unfolding_all exact rfl) ?_; walk_at "st") | (with_reducible refine st_xi (by with_unfolding_all exact rfl) ?_; walk_at "st") | (with_reducible refine ctlP_imp (fun b => ?_) (fun b => ?_) (fun b => ?_) <;> walk_at "st") | (with_reducible refine wp_imp (fun e => ?_) (fun d => ?_) <;> walk_at "st") | ((try dsimp only [ps_0, ps_s, stW]); refine sim_map (fun x Q K hK => ?_) _ _ _ (fun ys => ?_); (focus (walk_at "nm"; walk_at "st"; all_goals exact hK _ _ rfl)); ((try simp only [List.nil_append]); walk_at "st")) | ((try dsimp only [ps_0, ps_s, stW]); refine sim_fil (fun x Q P K K0 hK h0 => ?_) _ _ _ (fun ys => ?_); (focus (walk_at "nm"; walk_at "st"; all_goals first | exact hK _ _ rfl | exact h0 _ rfl)); ((try simp only [List.nil_append]); walk_at "st")) | (with_reducible refine st_all fun u => ?_; walk_at "st") | skip)
theorem law_is_integer : ∀ ds Ex Q, ds.length = 1 → phi_is_integer ds Ex Q → g_is_integer (endsA Ex Q) (startA 1 ds) := by
  intro ds Ex Q hl
  match ds, hl with
  | [y0], _ =>
    rw [e_is_integer]
    unfold F_is_integer g_is_integer
    walk_at "nm"
    (try dsimp only [startA, startB, pm_c, pm_n, pa_c, pa_n, pr_s, pr_0, pl_c, pl_n, Nat.reduceAdd, Nat.reduceSub])
    walk_at "st"
def F_common_divisor_s1 (b : D × D) : Res DErr (Option (D × D)) :=
  bO (qGt b.2 (.int 0)) fun v3 =>
  bO (qBl v3) fun b4 =>
  cond b4
  (bO (qMod b.1 b.2) fun v5 =>
  .ok (some (b.2, v5)))
  (.ok none)
def F_common_divisor (one other : D) : Res DErr D :=
  bO (qAbs [one]) fun v1 =>
  bO (qAbs [other]) fun v2 =>
  bR (whR (natD v2 + 1) (v1, v2) (F_common_divisor_s1)) fun j6 =>
  .ok j6.1
def g_common_divisor_c1 : DT :=
  (dTst (dOp (w2 qGt) (dVar 1) (dC (.int 0))))
def g_common_divisor_b1 : DS :=
  (dPar 0 1 (dVar 1) (dOp (w2 qMod) (dVar 0) (dVar 1)))
def g_common_divisor : DS :=
  (dSeq (dPar 0 1 (dCB (wL qAbs) (dACons (dVar 0) dANil)) (dCB (wL qAbs) (dACons (dVar 1) dANil)))
    (dSeq (dWh g_common_divisor_c1 g_common_divisor_b1)
    (dRet (dRes (dVar 0)))))
def phi_common_divisor : SpA := phiA2 F_common_divisor
theorem e_common_divisor {y0 y1 : D} {Ex : DErr → Prop} {Q : S → Prop} : phi_common_divisor [y0, y1] Ex Q = wp (F_common_divisor y0 y1) Ex (fun d => Q (.fz d)) := rfl
theorem c_common_divisor {A : Prop} {y0 y1 : D} {Ex : DErr → Prop} {Q : S → Prop} (h : A → wp (F_common_divisor y0 y1) Ex (fun d => Q (.fz d))) : A → phi_common_divisor [y0, y1] Ex Q := h
local macro_rules | `(tactic| walk_at "nm") => `(tactic| (try simp only [wp_ok, wp_ex, wp_bO, wp_bR, wp_cond, wp_noEx, wp_tryB, wp_ctl, ctlP_nx, ctlP_bk, ctlP_rt, Bool.not_true, Bool.not_false, cond_true, cond_false, wpO_map]))
local macro_rules | `(tactic| walk_at "st") => `(tactic| first | (with_reducible exact id) | (with_reducible exact fun h => h.elim) | (with_reducible exact fun h => h _) | (with_reducible refine st_condT ?_; walk_at "st") | (with_reducible refine st_condF ?_; walk_at "st") | (with_reducible refine wpO_imp (fun d => ?_); walk_at "st") | (with_reducible refine cond_imp ?_ ?_ <;> walk_at "st") | (with_reducible refine st_var (by with_unfolding_all exact rfl) ?_; walk_at "st") | (with_reducible refine st_atO (by with_unfolding_all exact rfl) ?_; walk_at "st") | (with_reducible refine st_seq ?_; walk_at "st") | (with_reducible refine st_then ?_; (try dsimp only [ps_0, ps_s, stW]); walk_at "st") | (with_reducible refine st_thenR ?_; walk_at "st") | (with_reducible refine st_thenX ?_; walk_at "st") | (with_reducible refine st_thenB ?_; walk_at "st") | (with_reducible refine st_thenC ?_; walk_at "st") | (with_reducible refine st_set ?_; walk_at "st") | (with_reducible refine st_ret ?_; walk_at "st") | (with_reducible refine st_ifS ?_; walk_at "st") | (with_reducible refine st_nx ?_; walk_at "st") | (with_reducible refine st_endA ?_; walk_at "st") | (with_reducible refine st_endR ?_; walk_at "st") | (with_reducible refine st_endX ?_; walk_at "st") | (with_reducible refine st_drop ?_; walk_at "st") | (with_reducible refine st_for ?_; walk_at "st") | (with_reducible refine st_bk ?_; walk_at "st") | (with_reducible refine st_ct ?_; walk_at "st") | (with_reducible refine st_asg ?_; walk_at "st") | (with_reducible refine st_par ?_; walk_at "st") | (with_reducible refine st_retN ?_; walk_at "st") | (with_reducible refine st_no ?_; walk_at "st") | (with_reducible refine st_raise ?_; walk_at "st") | (with_reducible refine st_try ?_; walk_at "st") | (with_reducible refine st_loop ?_; (try dsimp only [ps_0, ps_s, stW]); walk_at "st") | (with_reducible refine st_loopC ?_; (try dsimp only [ps_0, ps_s, stW]); walk_at "st") | (with_reducible refine st_loopB ?_; walk_at "st") | (with_reducible refine st_loopR ?_; walk_at "st") | (with_reducible refine st_loopX ?_; walk_at "st") | ((try dsimp only [ps_0, ps_s]); with_reducible refine st_endB ?_; walk_at "st") | ((try dsimp only [ps_0, ps_s]); with_reducible refine st_endBR ?_; walk_at "st") | ((try dsimp only [ps_0, ps_s]); with_reducible refine st_endBX ?_; walk_at "st") | (with_reducible refine st_tryN ?_; walk_at "st") | (with_reducible refine st_tryR ?_; walk_at "st") | (with_reducible refine st_tryB ?_; walk_at "st") | (with_reducible refine st_tryC ?_; walk_at "st") | (with_reducible refine st_tryX ?_; (try dsimp only [ps_0, ps_s, stW]); walk_at "st") | (with_reducible refine st_suitN ?_; (try dsimp only [ps_0, ps_s, stW]); walk_at "st") | (with_reducible refine st_suitR ?_; walk_at "st") | (with_reducible refine st_suitB ?_; (try dsimp only [ps_0, ps_s, stW]); walk_at "st") | (with_reducible refine st_suitC ?_; (try dsimp only [ps_0, ps_s, stW]); walk_at "st") | (with_reducible refine st_dst ?_; walk_at "st") | (with_reducible refine st_dap ?_; walk_at "st") | (with_reducible refine st_gname ?_; (try dsimp only [ps_0, ps_s, stW]); walk_at "st") | (with_reducible refine st_gT2 ?_; walk_at "st") | (with_reducible refine st_gT3 ?_; walk_at "st") | (with_reducible refine st_c ?_; walk_at "st") | (with_reducible refine st_fz ?_; walk_at "st") | (with_reducible refine st_sDf ?_; walk_at "st") | (with_reducible refine st_sDo ?_; walk_at "st") | (with_reducible refine st_res ?_; walk_at "st") | (with_reducible refine st_tst ?_; walk_at "st") | (with_reducible refine st_op ?_; walk_at "st") | (with_reducible refine st_un ?_; walk_at "st") | (with_reducible refine st_acons ?_; walk_at "st") | (with_reducible refine st_anil ?_; walk_at "st") | (with_reducible refine st_cb ?_; walk_at "st") | (with_reducible refine st_cA ?_; walk_at "st") | (with_reducible refine st_cB ?_; walk_at "st") | (with_reducible refine st_and ?_; walk_at "st") | (with_reducible refine st_or ?_; walk_at "st") | (with_reducible refine st_not ?_; walk_at "st") | (with_reducible refine st_if ?_; walk_at "st") | (with_reducible refine st_andT ?_; walk_at "st") | (with_reducible refine st_orT ?_; walk_at "st") | (with_reducible refine st_notT ?_; walk_at "st") | (with_reducible refine st_tup ?_; walk_at "st") | (with_reducible refine st_lst ?_; walk_at "st") | (with_reducible refine st_lstV ?_; walk_at "st") | (with_reducible refine st_cAD ?_; walk_at "st") | (with_reducible refine st_cV ?_; walk_at "st") | (with_reducible refine st_ix ?_; walk_at "st") | (with_reducible refine st_sl ?_; walk_at "st") | (with_reducible refine st_noP ?_; walk_at "st") | (with_reducible refine st_someP ?_; walk_at "st") | (with_reducible refine st_dic0 ?_; walk_at "st") | (with_reducible refine st_it ?_; walk_at "st") | (with_reducible refine st_itA ?_; walk_at "st") | (with_reducible refine st_yes ?_; walk_at "st") | (with_reducible refine st_lcQ ?_; (try dsimp only [ps_0, ps_s, stW]); walk_at "st") | (with_reducible refine st_lcV ?_; (try dsimp only [ps_0, ps_s, stW]); walk_at "st") | (with_reducible refine st_p1 ?_; walk_at "st") | (with_reducible refine st_p2 ?_; walk_at "st") | (with_reducible refine st_p3 ?_; walk_at "st") | (with_reducible refine st_xf (by with_unfolding_all exact rfl) ?_; walk_at "st") | (with_reducible refine st_xi (by with_unfolding_all exact rfl) ?_; walk_at "st") | (with_reducible refine ctlP_imp (fun b => ?_) (fun b => ?_) (fun b => ?_) <;> walk_at "st") | (with_reducible refine wp_imp (fun e => ?_) (fun d => ?_) <;> walk_at "st") | ((try dsimp only [ps_0, ps_s, stW]); refine sim_map (fun x Q K hK => ?_) _ _ _ (fun ys => ?_); (focus (walk_at "nm"; walk_at "st"; all_goals exact hK _ _ rfl)); ((try simp only [List.nil_append]); walk_at "st")) | ((try dsimp only [ps_0, ps_s, stW]); refine sim_fil (fun x Q P K K0 hK h0 => ?_) _ _ _ (fun ys => ?_); (focus (walk_at "nm"; walk_at "st"; all_goals first | exact hK _ _ rfl | exact h0 _ rfl)); ((try simp only [List.nil_append]); walk_at "st")) | (with_reducible refine st_all fun u => ?_; walk_at "st") | skip)
theorem lp_common_divisor_s1 {K : D × D → Prop} {de : DEnds}   {Ex : DErr → Prop} (hx : ∀ e s, Ex e → de.ex e s) (hd : ∀ (c1 c2 : D) , K (c1, c2) → de.nx [.fz c1, .fz c2]) (n : Nat) (c1 c2 : D)  : wp (whR n (c1, c2) (F_common_divisor_s1)) Ex K → dWhN g_common_divisor_c1 g_common_divisor_b1 n de [.fz c1, .fz c2] := by
  refine sim_while (V := (fun b s =>  s = [.fz b.1, .fz b.2])) ?_ n _ _ rfl
  · rintro b s K' nx rfl hn
    unfold g_common_divisor_c1 g_common_divisor_b1 F_common_divisor_s1
    walk_at "nm"
    walk_at "st"
    all_goals first | exact hn _ _ rfl | exact hx _ _ | exact hd _ _
local macro_rules | `(tactic| walk_at "st") => `(tactic| first | (refine (fun h => dWh_of _ (lp_common_divisor_s1 (fun e s => ?_) (fun u0 u1 => ?_) _ _ _ h)) <;> walk_at "nm" <;> walk_at "st") | fail)
theorem law_common_divisor : ∀ ds Ex Q, ds.length = 2 → phi_common_divisor ds Ex Q → g_common_divisor (endsA Ex Q) (startA 2 ds) := by
  intro ds Ex Q hl
  match ds, hl with
  | [y0, y1], _ =>
    rw [e_common_divisor]
    unfold F_common_divisor g_common_divisor
    walk_at "nm"
    (try dsimp only [startA, startB, pm_c, pm_n, pa_c, pa_n, pr_s, pr_0, pl_c, pl_n, Nat.reduceAdd, Nat.reduceSub])
    walk_at "st"
def F_reduced (numerator denominator : D) : Res DErr D :=
  bR (F_common_divisor numerator denominator) fun v1 =>
  bO (qLt denominator (.int 0)) fun v2 =>
  bO (qBl v2) fun b3 =>
  bR (cond b3
  (bO (qNeg v1) fun v5 =>
  .ok v5)
  (.ok v1)) fun j4 =>
  bO (qDiv numerator j4) fun v6 =>
  bO (qDiv denominator j4) fun v7 =>
  .ok (.nd .tup [v6, v7])
def g_reduced : DS :=
  (dSeq (dSet 2 (dRes (dFz (dcA phi_common_divisor (dACons (dVar 0) (dACons (dVar 1) dANil))))))
    (dSeq (dIfS (dTst (dOp (w2 qLt) (dVar 1) (dC (.int 0)))) (dSet 2 (dRes (dUn (w1 qNeg) (dVar 2)))) dNx)
    (dRet (dRes (dTup (dACons (dOp (w2 qDiv) (dVar 0) (dVar 2)) (dACons (dOp (w2 qDiv) (dVar 1) (dVar 2)) dANil)))))))
def phi_reduced : SpA := phiA2 F_reduced
theorem e_reduced {y0 y1 : D} {Ex : DErr → Prop} {Q : S → Prop} : phi_reduced [y0, y1] Ex Q = wp (F_reduced y0 y1) Ex (fun d => Q (.fz d)) := rfl
theorem c_reduced {A : Prop} {y0 y1 : D} {Ex : DErr → Prop} {Q : S → Prop} (h : A → wp (F_reduced y0 y1) Ex (fun d => Q (.fz d))) : A → phi_reduced [y0, y1] Ex Q := h
local macro_rules | `(tactic| walk_at "nm") => `(tactic| (try simp only [wp_ok, wp_ex, wp_bO, wp_bR, wp_cond, wp_noEx, wp_tryB, wp_ctl, ctlP_nx, ctlP_bk, ctlP_rt, Bool.not_true, Bool.not_false, cond_true, cond_false, wpO_map]))
local macro_rules | `(tactic| walk_at "st") => `(tactic| first | (with_reducible exact id) | (with_reducible exact fun h => h.elim) | (with_reducible exact fun h => h _) | (with_reducible refine st_condT ?_; walk_at "st") | (with_reducible refine st_condF ?_; walk_at "st") | (with_reducible refine wpO_imp (fun d => ?_); walk_at "st") | (with_reducible refine cond_imp ?_ ?_ <;> walk_at "st") | (with_reducible refine st_var (by with_unfolding_all exact rfl) ?_; walk_at "st") | (with_reducible refine st_atO (by with_unfolding_all exact rfl) ?_; walk_at "st") | (with_reducible refine st_seq ?_; walk_at "st") | (with_reducible refine st_then ?_; (try dsimp only [ps_0, ps_s, stW]); walk_at "st") | (with_reducible refine st_thenR ?_; walk_at "st") | (with_reducible refine st_thenX ?_; walk_at "st") | (with_reducible refine st_thenB ?_; walk_at "st") | (with_reducible refine st_thenC ?_; walk_at "st") | (with_reducible refine st_set ?_; walk_at "st") | (with_reducible refine st_ret ?_; walk_at "st") | (with_reducible refine st_ifS ?_; walk_at "st") | (with_reducible refine st_nx ?_; walk_at "st") | (with_reducible refine st_endA ?_; walk_at "st") | (with_reducible refine st_endR ?_; walk_at "st") | (with_reducible refine st_endX ?_; walk_at "st") | (with_reducible refine st_drop ?_; walk_at "st") | (with_reducible refine st_for ?_; walk_at "st") | (with_reducible refine st_bk ?_; walk_at "st") | (with_reducible refine st_ct ?_; walk_at "st") | (with_reducible refine st_asg ?_; walk_at "st") | (with_reducible refine st_par ?_; walk_at "st") | (with_reducible refine st_retN ?_; walk_at "st") | (with_reducible refine st_no ?_; walk_at "st") | (with_reducible refine st_raise ?_; walk_at "st") | (with_reducible refine st_try ?_; walk_at "st") | (with_reducible refine st_loop ?_; (try dsimp only [ps_0, ps_s, stW]); walk_at "st") | (with_reducible refine st_loopC ?_; (try dsimp only [ps_0, ps_s, stW]); walk_at "st") | (with_reducible refine st_loopB ?_; walk_at "st") | (with_reducible refine st_loopR ?_; walk_at "st") | (with_reducible refine st_loopX ?_; walk_at "st") | ((try dsimp only [ps_0, ps_s]); with_reducible refine st_endB ?_; walk_at "st") | ((try dsimp only [ps_0, ps_s]); with_reducible refine st_endBR ?_; walk_at "st") | ((try dsimp only [ps_0, ps_s]); with_reducible refine st_endBX ?_; walk_at "st") | (with_reducible refine st_tryN ?_; walk_at "st") | (with_reducible refine st_tryR ?_; walk_at "st") | (with_reducible refine st_tryB ?_; walk_at "st") | (with_reducible refine st_tryC ?_; walk_at "st") | (with_reducible refine st_tryX ?_; (try dsimp only [ps_0, ps_s, stW]); walk_at "st") | (with_reducible refine st_suitN ?_; (try dsimp only [ps_0, ps_s, stW]); walk_at "st") | (with_reducible refine st_suitR ?_; walk_at "st") | (with_reducible refine st_suitB ?_; (try dsimp only [ps_0, ps_s, stW]); walk_at "st") | (with_reducible refine st_suitC ?_; (try dsimp only [ps_0, ps_s, stW]); walk_at "st") | (with_reducible refine st_dst ?_; walk_at "st") | (with_reducible refine st_dap ?_; walk_at "st") | (with_reducible refine st_gname ?_; (try dsimp only [ps_0, ps_s, stW]); walk_at "st") | (with_reducible refine st_gT2 ?_; walk_at "st") | (with_reducible refine st_gT3 ?_; walk_at "st") | (with_reducible refine st_c ?_; walk_at "st") | (with_reducible refine st_fz ?_; walk_at "st") | (with_reducible refine st_sDf ?_; walk_at "st") | (with_reducible refine st_sDo ?_; walk_at "st") | (with_reducible refine st_res ?_; walk_at "st") | (with_reducible refine st_tst ?_; walk_at "st") | (with_reducible refine st_op ?_; walk_at "st") | (with_reducible refine st_un ?_; walk_at "st") | (with_reducible refine st_acons ?_; walk_at "st") | (with_reducible refine st_anil ?_; walk_at "st") | (with_reducible refine st_cb ?_; walk_at "st") | (with_reducible refine st_cA ?_; walk_at "st") | (with_reducible refine st_cB ?_; walk_at "st") | (with_reducible refine st_and ?_; walk_at "st") | (with_reducible refine st_or ?_; walk_at "st") | (with_reducible refine st_not ?_; walk_at "st") | (with_reducible refine st_if ?_; walk_at "st") | (with_reducible refine st_andT ?_; walk_at "st") | (with_reducible refine st_orT ?_; walk_at "st") | (with_reducible refine st_notT ?_; walk_at "st") | (with_reducible refine st_tup ?_; walk_at "st") | (with_reducible refine st_lst ?_; walk_at "st") | (with_reducible refine st_lstV ?_; walk_at "st") | (with_reducible refine st_cAD ?_; walk_at "st") | (with_reducible refine st_cV ?_; walk_at "st") | (with_reducible refine st_ix ?_; walk_at "st") | (with_reducible refine st_sl ?_; walk_at "st") | (with_reducible refine st_noP ?_; walk_at "st") | (with_reducible refine st_someP ?_; walk_at "st") | (with_reducible refine st_dic0 ?_; walk_at "st") | (with_reducible refine st_it ?_; walk_at "st") | (with_reducible refine st_itA ?_; walk_at "st") | (with_reducible refine st_yes ?_; walk_at "st") | (with_reducible refine st_lcQ ?_; (try dsimp only [ps_0, ps_s, stW]); walk_at "st") | (with_reducible refine st_lcV ?_; (try dsimp only [ps_0, ps_s, stW]); walk_at "st") | (with_reducible refine st_p1 ?_; walk_at "st") | (with_reducible refine st_p2 ?_; walk_at "st") | (with_reducible refine st_p3 ?_; walk_at "st") | (with_reducible refine st_xf (by with_unfolding_all exact rfl) ?_; walk_at "st") | (with_reducible refine st_xi (by with_unfolding_all exact rfl) ?_; walk_at "st") | (with_reducible refine ctlP_imp (fun b => ?_) (fun b => ?_) (fun b => ?_) <;> walk_at "st") | (with_reducible refine wp_imp (fun e => ?_) (fun d => ?_) <;> walk_at "st") | ((try dsimp only [ps_0, ps_s, stW]); refine sim_map (fun x Q K hK => ?_) _ _ _ (fun ys => ?_); (focus (walk_at "nm"; walk_at "st"; all_goals exact hK _ _ rfl)); ((try simp only [List.nil_append]); walk_at "st")) | ((try dsimp only [ps_0, ps_s, stW]); refine sim_fil (fun x Q P K K0 hK h0 => ?_) _ _ _ (fun ys => ?_); (focus (walk_at "nm"; walk_at "st"; all_goals first | exact hK _ _ rfl | exact h0 _ rfl)); ((try simp only [List.nil_append]); walk_at "st")) | (with_reducible refine st_all fun u => ?_; walk_at "st") | skip)
local macro_rules | `(tactic| walk_at "st") => `(tactic| first | (with_reducible refine c_common_divisor ?_; walk_at "st") | fail)
theorem law_reduced : ∀ ds Ex Q, ds.length = 2 → phi_reduced ds Ex Q → g_reduced (endsA Ex Q) (startA 3 ds) := by
  intro ds Ex Q hl
  match ds, hl with
  | [y0, y1], _ =>
    rw [e_reduced]
    unfold F_reduced g_reduced
    walk_at "nm"
    (try dsimp only [startA, startB, pm_c, pm_n, pa_c, pa_n, pr_s, pr_0, pl_c, pl_n, Nat.reduceAdd, Nat.reduceSub])
    walk_at "st"
def F_is_fraction (value : D) : Res DErr D :=
  bR (bO (qIsi "tuple" value) fun v2 =>
  bO (qBl v2) fun b3 =>
  cond (!b3) (.ok true) (bO (qLen1 [value]) fun v4 =>
  bO (qNe v4 (.int 2)) fun v5 =>
  bO (qBl v5) fun b6 =>
  .ok b6)) fun b1 =>
  cond b1
  (.ok (.bl false))
  (bR (bO (qIxSeq value (.int 0)) fun v8 =>
  bR (F_is_integer v8) fun v9 =>
  bO (qBl v9) fun b10 =>
  cond (!b10) (.ok true) (bR (bO (qIxSeq value (.int 1)) fun v12 =>
  bR (F_is_integer v12) fun v13 =>
  bO (qBl v13) fun b14 =>
  cond (!b14) (.ok true) (bO (qIxSeq value (.int 1)) fun v15 =>
  bO (qLt v15 (.int 1)) fun v16 =>
  bO (qBl v16) fun b17 =>
  .ok b17)) fun b11 =>
  .ok b11)) fun b7 =>
  cond b7
  (.ok (.bl false))
  (bO (qIxSeq value (.int 0)) fun v18 =>
  bO (qIxSeq value (.int 1)) fun v19 =>
  bR (F_common_divisor v18 v19) fun v20 =>
  bO (qEq v20 (.int 1)) fun v21 =>
  .ok v21))
def g_is_fraction : DS :=
  (dSeq (dIfS (dOrT (dNotT (dTst (dUn (w1 (qIsi "tuple")) (dVar 0)))) (dTst (dOp (w2 qNe) (dCB (wL qLen1) (dACons (dVar 0) dANil)) (dC (.int 2))))) (dRet (dRes (dC (.bl false)))) dNx)
    (dSeq (dIfS (dOrT (dNotT (dTst (dFz (dcA phi_is_integer (dACons (dOp (w2 qIxSeq) (dVar 0) (dC (.int 0))) dANil))))) (dOrT (dNotT (dTst (dFz (dcA phi_is_integer (dACons (dOp (w2 qIxSeq) (dVar 0) (dC (.int 1))) dANil))))) (dTst (dOp (w2 qLt) (dOp (w2 qIxSeq) (dVar 0) (dC (.int 1))) (dC (.int 1)))))) (dRet (dRes (dC (.bl false)))) dNx)
    (dRet (dRes (dOp (w2 qEq) (dFz (dcA phi_common_divisor (dACons (dOp (w2 qIxSeq) (dVar 0) (dC (.int 0))) (dACons (dOp (w2 qIxSeq) (dVar 0) (dC (.int 1))) dANil)))) (dC (.int 1)))))))
def phi_is_fraction : SpA := phiA1 F_is_fraction
theorem e_is_fraction {y0 : D} {Ex : DErr → Prop} {Q : S → Prop} : phi_is_fraction [y0] Ex Q = wp (F_is_fraction y0) Ex (fun d => Q (.fz d)) := rfl
theorem c_is_fraction {A : Prop} {y0 : D} {Ex : DErr → Prop} {Q : S → Prop} (h : A → wp (F_is_fraction y0) Ex (fun d => Q (.fz d))) : A → phi_is_fraction [y0] Ex Q := h
local macro_rules | `(tactic| walk_at "nm") => `(tactic| (try simp only [wp_ok, wp_ex, wp_bO, wp_bR, wp_cond, wp_noEx, wp_tryB, wp_ctl, ctlP_nx, ctlP_bk, ctlP_rt, Bool.not_true, Bool.not_false, cond_true, cond_false, wpO_map]))
local macro_rules | `(tactic| walk_at "st") => `(tactic| first | (with_reducible exact id) | (with_reducible exact fun h => h.elim) | (with_reducible exact fun h => h _) | (with_reducible refine st_condT ?_; walk_at "st") | (with_reducible refine st_condF ?_; walk_at "st") | (with_reducible refine wpO_imp (fun d => ?_); walk_at "st") | (with_reducible refine cond_imp ?_ ?_ <;> walk_at "st") | (with_reducible refine st_var (by with_unfolding_all exact rfl) ?_; walk_at "st") | (with_reducible refine st_atO (by with_unfolding_all exact rfl) ?_; walk_at "st") | (with_reducible refine st_seq ?_; walk_at "st") | (with_reducible refine st_then ?_; (try dsimp only [ps_0, ps_s, stW]); walk_at "st") | (with_reducible refine st_thenR ?_; walk_at "st") | (with_reducible refine st_thenX ?_; walk_at "st") | (with_reducible refine st_thenB ?_; walk_at "st") | (with_reducible refine st_thenC ?_; walk_at "st") | (with_reducible refine st_set ?_; walk_at "st") | (with_reducible refine st_ret ?_; walk_at "st") | (with_reducible refine st_ifS ?_; walk_at "st") | (with_reducible refine st_nx ?_; walk_at "st") | (with_reducible refine st_endA ?_; walk_at "st") | (with_reducible refine st_endR ?_; walk_at "st") | (with_reducible refine st_endX ?_; walk_at "st") | (with_reducible refine st_drop ?_; walk_at "st") | (with_reducible refine st_for ?_; walk_at "st") | (with_reducible refine st_bk ?_; walk_at "st") | (with_reducible refine st_ct ?_; walk_at "st") | (with_reducible refine st_asg ?_; walk_at "st") | (with_reducible refine st_par ?_; walk_at "st") | (with_reducible refine st_retN ?_; walk_at "st") | (with_reducible refine st_no ?_; walk_at "st") | (with_reducible refine st_raise ?_; walk_at "st") | (with_reducible refine st_try ?_; walk_at "st") | (with_reducible refine st_loop ?_; (try dsimp only [ps_0, ps_s, stW]); walk_at "st") | (with_reducible refine st_loopC ?_; (try dsimp only [ps_0, ps_s, stW]); walk_at "st") | (with_reducible refine st_loopB ?_; walk_at "st") | (with_reducible refine st_loopR ?_; walk_at "st") | (with_reducible refine st_loopX ?_; walk_at "st") | ((try dsimp only [ps_0, ps_s]); with_reducible refine st_endB ?_; walk_at "st") | ((try dsimp only [ps_0, ps_s]); with_reducible refine st_endBR ?_; walk_at "st") | ((try dsimp only [ps_0, ps_s]); with_reducible refine st_endBX ?_; walk_at "st") | (with_reducible refine st_tryN ?_; walk_at "st") | (with_reducible refine st_tryR ?_; walk_at "st") | (with_reducible refine st_tryB ?_; walk_at "st") | (with_reducible refine st_tryC ?_; walk_at "st") | (with_reducible refine st_tryX ?_; (try dsimp only [ps_0, ps_s, stW]); walk_at "st") | (with_reducible refine st_suitN ?_; (try dsimp only [ps_0, ps_s, stW]); walk_at "st") | (with_reducible refine st_suitR ?_; walk_at "st") | (with_reducible refine st_suitB ?_; (try dsimp only [ps_0, ps_s, stW]); walk_at "st") | (with_reducible refine st_suitC ?_; (try dsimp only [ps_0, ps_s, stW]); walk_at "st") | (with_reducible refine st_dst ?_; walk_at "st") | (with_reducible refine st_dap ?_; walk_at "st") | (with_reducible refine st_gname ?_; (try dsimp only [ps_0, ps_s, stW]); walk_at "st") | (with_reducible refine st_gT2 ?_; walk_at "st") | (with_reducible refine st_gT3 ?_; walk_at "st") | (with_reducible refine st_c ?_; walk_at "st") | (with_reducible refine st_fz ?_; walk_at "st") | (with_reducible refine st_sDf ?_; walk_at "st") | (with_reducible refine st_sDo ?_; walk_at "st") | (with_reducible refine st_res ?_; walk_at "st") | (with_reducible refine st_tst ?_; walk_at "st") | (with_reducible refine st_op ?_; walk_at "st") | (with_reducible refine st_un ?_; walk_at "st") | (with_reducible refine st_acons ?_; walk_at "st") | (with_reducible refine st_anil ?_; walk_at "st") | (with_reducible refine st_cb ?_; walk_at "st") | (with_reducible refine st_cA ?_; walk_at "st") | (with_reducible refine st_cB ?_; walk_at "st") | (with_reducible refine st_and ?_; walk_at "st") | (with_reducible refine st_or ?_; walk_at "st") | (with_reducible refine st_not ?_; walk_at "st") | (with_reducible refine st_if ?_; walk_at "st") | (with_reducible refine st_andT ?_; walk_at "st") | (with_reducible refine st_orT ?_; walk_at "st") | (with_reducible refine st_notT ?_; walk_at "st") | (with_reducible refine st_tup ?_; walk_at "st") | (with_reducible refine st_lst ?_; walk_at "st") | (with_reducible refine st_lstV ?_; walk_at "st") | (with_reducible refine st_cAD ?_; walk_at "st") | (with_reducible refine st_cV ?_; walk_at "st") | (with_reducible refine st_ix ?_; walk_at "st") | (with_reducible refine st_sl ?_; walk_at "st") | (with_reducible refine st_noP ?_; walk_at "st") | (with_reducible refine st_someP ?_; walk_at "st") | (with_reducible refine st_dic0 ?_; walk_at "st") | (with_reducible refine st_it ?_; walk_at "st") | (with_reducible refine st_itA ?_; walk_at "st") | (with_reducible refine st_yes ?_; walk_at "st") | (with_reducible refine st_lcQ ?_; (try dsimp only [ps_0, ps_s, stW]); walk_at "st") | (with_reducible refine st_lcV ?_; (try dsimp only [ps_0, ps_s, stW]); walk_at "st") | (with_reducible refine st_p1 ?_; walk_at "st") | (with_reducible refine st_p2 ?_; walk_at "st") | (with_reducible refine st_p3 ?_; walk_at "st") | (with_reducible refine st_xf (by with_unfolding_all exact rfl) ?_; walk_at "st") | (with_reducible refine st_xi (by with_unfolding_all exact rfl) ?_; walk_at "st") | (with_reducible refine ctlP_imp (fun b => ?_) (fun b => ?_) (fun b => ?_) <;> walk_at "st") | (with_reducible refine wp_imp (fun e => ?_) (fun d => ?_) <;> walk_at "st") | ((try dsimp only [ps_0, ps_s, stW]); refine sim_map (fun x Q K hK => ?_) _ _ _ (fun ys => ?_); (focus (walk_at "nm"; walk_at "st"; all_goals exact hK _ _ rfl)); ((try simp only [List.nil_append]); walk_at "st")) | ((try dsimp only [ps_0, ps_s, stW]); refine sim_fil (fun x Q P K K0 hK h0 => ?_) _ _ _ (fun ys => ?_); (focus (walk_at "nm"; walk_at "st"; all_goals first | exact hK _ _ rfl | exact h0 _ rfl)); ((try simp only [List.nil_append]); walk_at "st")) | (with_reducible refine st_all fun u => ?_; walk_at "st") | skip)
local macro_rules | `(tactic| walk_at "st") => `(tactic| first | (with_reducible refine c_common_divisor ?_; walk_at "st") | (with_reducible refine c_is_integer ?_; walk_at "st") | fail)
theorem law_is_fraction : ∀ ds Ex Q, ds.length = 1 → phi_is_fraction ds Ex Q → g_is_fraction (endsA Ex Q) (startA 1 ds) := by
  intro ds Ex Q hl
  match ds, hl with
  | [y0], _ =>
    rw [e_is_fraction]
    unfold F_is_fraction g_is_fraction
    walk_at "nm"
    (try dsimp only [startA, startB, pm_c, pm_n, pa_c, pa_n, pr_s, pr_0, pl_c, pl_n, Nat.reduceAdd, Nat.reduceSub])
    walk_at "st"
def F_check_fractions_s1 (x : D) (_b : Unit) : Res DErr (Unit) :=
  bR (F_is_fraction x) fun v3 =>
  bO (qBl v3) fun b4 =>
  cond (!b4)
  (.ex ⟨0, x⟩)
  (.ok ())
def F_check_fractions (values : D) : Res DErr D :=
  bO (qItL values) fun l1 =>
  bR (foldR l1 () (F_check_fractions_s1)) fun (j2 : Unit) =>
  .ok .non
def g_check_fractions_b1 : DS :=
  (dIfS (dNotT (dTst (dFz (dcA phi_is_fraction (dACons (dVar 1) dANil))))) (dRaise 0 (dVar 1)) dNx)
def g_check_fractions : DS :=
  (dFor (dIt qItL (dVar 0)) (gdName 1) g_check_fractions_b1)
def phi_check_fractions : SpA := phiA1 F_check_fractions
theorem e_check_fractions {y0 : D} {Ex : DErr → Prop} {Q : S → Prop} : phi_check_fractions [y0] Ex Q = wp (F_check_fractions y0) Ex (fun d => Q (.fz d)) := rfl
theorem c_check_fractions {A : Prop} {y0 : D} {Ex : DErr → Prop} {Q : S → Prop} (h : A → wp (F_check_fractions y0) Ex (fun d => Q (.fz d))) : A → phi_check_fractions [y0] Ex Q := h
local macro_rules | `(tactic| walk_at "nm") => `(tactic| (try simp only [wp_ok, wp_ex, wp_bO, wp_bR, wp_cond, wp_noEx, wp_tryB, wp_ctl, ctlP_nx, ctlP_bk, ctlP_rt, Bool.not_true, Bool.not_false, cond_true, cond_false, wpO_map]))
local macro_rules | `(tactic| walk_at "st") => `(tactic| first | (with_reducible exact id) | (with_reducible exact fun h => h.elim) | (with_reducible exact fun h => h _) | (with_reducible refine st_condT ?_; walk_at "st") | (with_reducible refine st_condF ?_; walk_at "st") | (with_reducible refine wpO_imp (fun d => ?_); walk_at "st") | (with_reducible refine cond_imp ?_ ?_ <;> walk_at "st") | (with_reducible refine st_var (by with_unfolding_all exact rfl) ?_; walk_at "st") | (with_reducible refine st_atO (by with_unfolding_all exact rfl) ?_; walk_at "st") | (with_reducible refine st_seq ?_; walk_at "st") | (with_reducible refine st_then ?_; (try dsimp only [ps_0, ps_s, stW]); walk_at "st") | (with_reducible refine st_thenR ?_; walk_at "st") | (with_reducible refine st_thenX ?_; walk_at "st") | (with_reducible refine st_thenB ?_; walk_at "st") | (with_reducible refine st_thenC ?_; walk_at "st") | (with_reducible refine st_set ?_; walk_at "st") | (with_reducible refine st_ret ?_; walk_at "st") | (with_reducible refine st_ifS ?_; walk_at "st") | (with_reducible refine st_nx ?_; walk_at "st") | (with_reducible refine st_endA ?_; walk_at "st") | (with_reducible refine st_endR ?_; walk_at "st") | (with_reducible refine st_endX ?_; walk_at "st") | (with_reducible refine st_drop ?_; walk_at "st") | (with_reducible refine st_for ?_; walk_at "st") | (with_reducible refine st_bk ?_; walk_at "st") | (with_reducible refine st_ct ?_; walk_at "st") | (with_reducible refine st_asg ?_; walk_at "st") | (with_reducible refine st_par ?_; walk_at "st") | (with_reducible refine st_retN ?_; walk_at "st") | (with_reducible refine st_no ?_; walk_at "st") | (with_reducible refine st_raise ?_; walk_at "st") | (with_reducible refine st_try ?_; walk_at "st") | (with_reducible refine st_loop ?_; (try dsimp only [ps_0, ps_s, stW]); walk_at "st") | (with_reducible refine st_loopC ?_; (try dsimp only [ps_0, ps_s, stW]); walk_at "st") | (with_reducible refine st_loopB ?_; walk_at "st") | (with_reducible refine st_loopR ?_; walk_at "st") | (with_reducible refine st_loopX ?_; walk_at "st") | ((try dsimp only [ps_0, ps_s]); with_reducible refine st_endB ?_; walk_at "st") | ((try dsimp only [ps_0, ps_s]); with_reducible refine st_endBR ?_; walk_at "st") | ((try dsimp only [ps_0, ps_s]); with_reducible refine st_endBX ?_; walk_at "st") | (with_reducible refine st_tryN ?_; walk_at "st") | (with_reducible refine st_tryR ?_; walk_at "st") | (with_reducible refine st_tryB ?_; walk_at "st") | (with_reducible refine st_tryC ?_; walk_at "st") | (with_reducible refine st_tryX ?_; (try dsimp only [ps_0, ps_s, stW]); walk_at "st") | (with_reducible refine st_suitN ?_; (try dsimp only [ps_0, ps_s, stW]); walk_at "st") | (with_reducible refine st_suitR ?_; walk_at "st") | (with_reducible refine st_suitB ?_; (try dsimp only [ps_0, ps_s, stW]); walk_at "st") | (with_reducible refine st_suitC ?_; (try dsimp only [ps_0, ps_s, stW]); walk_at "st") | (with_reducible refine st_dst ?_; walk_at "st") | (with_reducible refine st_dap ?_; walk_at "st") | (with_reducible refine st_gname ?_; (try dsimp only [ps_0, ps_s, stW]); walk_at "st") | (with_reducible refine st_gT2 ?_; walk_at "st") | (with_reducible refine st_gT3 ?_; walk_at "st") | (with_reducible refine st_c ?_; walk_at "st") | (with_reducible refine st_fz ?_; walk_at "st") | (with_reducible refine st_sDf ?_; walk_at "st") | (with_reducible refine st_sDo ?_; walk_at "st") | (with_reducible refine st_res ?_; walk_at "st") | (with_reducible refine st_tst ?_; walk_at "st") | (with_reducible refine st_op ?_; walk_at "st") | (with_reducible refine st_un ?_; walk_at "st") | (with_reducible refine st_acons ?_; walk_at "st") | (with_reducible refine st_anil ?_; walk_at "st") | (with_reducible refine st_cb ?_; walk_at "st") | (with_reducible refine st_cA ?_; walk_at "st") | (with_reducible refine st_cB ?_; walk_at "st") | (with_reducible refine st_and ?_; walk_at "st") | (with_reducible refine st_or ?_; walk_at "st") | (with_reducible refine st_not ?_; walk_at "st") | (with_reducible refine st_if ?_; walk_at "st") | (with_reducible refine st_andT ?_; walk_at "st") | (with_reducible refine st_orT ?_; walk_at "st") | (with_reducible refine st_notT ?_; walk_at "st") | (with_reducible refine st_tup ?_; walk_at "st") | (with_reducible refine st_lst ?_; walk_at "st") | (with_reducible refine st_lstV ?_; walk_at "st") | (with_reducible refine st_cAD ?_; walk_at "st") | (with_reducible refine st_cV ?_; walk_at "st") | (with_reducible refine st_ix ?_; walk_at "st") | (with_reducible refine st_sl ?_; walk_at "st") | (with_reducible refine st_noP ?_; walk_at "st") | (with_reducible refine st_someP ?_; walk_at "st") | (with_reducible refine st_dic0 ?_; walk_at "st") | (with_reducible refine st_it ?_; walk_at "st") | (with_reducible refine st_itA ?_; walk_at "st") | (with_reducible refine st_yes ?_; walk_at "st") | (with_reducible refine st_lcQ ?_; (try dsimp only [ps_0, ps_s, stW]); walk_at "st") | (with_reducible refine st_lcV ?_; (try dsimp only [ps_0, ps_s, stW]); walk_at "st") | (with_reducible refine st_p1 ?_; walk_at "st") | (with_reducible refine st_p2 ?_; walk_at "st") | (with_reducible refine st_p3 ?_; walk_at "st") | (with_reducible refine st_xf (by with_unfolding_all exact rfl) ?_; walk_at "st") | (with_reducible refine st_xi (by with_unfolding_all exact rfl) ?_; walk_at "st") | (with_reducible refine ctlP_imp (fun b => ?_) (fun b => ?_) (fun b => ?_) <;> walk_at "st") | (with_reducible refine wp_imp (fun e => ?_) (fun d => ?_) <;> walk_at "st") | ((try dsimp only [ps_0, ps_s, stW]); refine sim_map (fun x Q K hK => ?_) _ _ _ (fun ys => ?_); (focus (walk_at "nm"; walk_at "st"; all_goals exact hK _ _ rfl)); ((try simp only [List.nil_append]); walk_at "st")) | ((try dsimp only [ps_0, ps_s, stW]); refine sim_fil (fun x Q P K K0 hK h0 => ?_) _ _ _ (fun ys => ?_); (focus (walk_at "nm"; walk_at "st"; all_goals first | exact hK _ _ rfl | exact h0 _ rfl)); ((try simp only [List.nil_append]); walk_at "st")) | (with_reducible refine st_all fun u => ?_; walk_at "st") | skip)
local macro_rules | `(tactic| walk_at "st") => `(tactic| first | (with_reducible refine c_is_fraction ?_; walk_at "st") | fail)
theorem lp_check_fractions_s1 {K : Unit → Prop} {de : DEnds}   {Ex : DErr → Prop} (hx : ∀ e s, Ex e → de.ex e s) (hd : ∀  (j0 j1 : S), K () → de.nx [j0, j1]) (items : List D)  (j0 j1 : S) : wp (foldR items () (F_check_fractions_s1)) Ex K → dForL (gdName 1) g_check_fractions_b1 items de [j0, j1] := by
  refine sim_fold (V := (fun b s => ∃ j0 j1, s = [j0, j1])) ?_ ?_ items _ _ ⟨_, _, rfl⟩
  · rintro x b s K' nx ⟨j0, j1, rfl⟩ hn
    unfold g_check_fractions_b1 F_check_fractions_s1
    walk_at "nm"
    walk_at "st"
    all_goals first | exact hn _ _ ⟨_, _, rfl⟩ | exact hx _ _
  · rintro b s ⟨j0, j1, rfl⟩
    exact hd _ _
local macro_rules | `(tactic| walk_at "st") => `(tactic| first | (refine lp_check_fractions_s1 (fun e s => ?_) (fun u0 u1 => ?_) _ _ _ <;> walk_at "nm" <;> walk_at "st") | fail)
theorem law_check_fractions : ∀ ds Ex Q, ds.length = 1 → phi_check_fractions ds Ex Q → g_check_fractions (endsA Ex Q) (startA 2 ds) := by
  intro ds Ex Q hl
  match ds, hl with
  | [y0], _ =>
    rw [e_check_fractions]
    unfold F_check_fractions g_check_fractions
    walk_at "nm"
    (try dsimp only [startA, startB, pm_c, pm_n, pa_c, pa_n, pr_s, pr_0, pl_c, pl_n, Nat.reduceAdd, Nat.reduceSub])
    walk_at "st"
def F_added (one other : D) : Res DErr D :=
  bO (qIxSeq one (.int 0)) fun v1 =>
  bO (qIxSeq other (.int 1)) fun v2 =>
  bO (qMul v1 v2) fun v3 =>
  bO (qIxSeq other (.int 0)) fun v4 =>
  bO (qIxSeq one (.int 1)) fun v5 =>
  bO (qMul v4 v5) fun v6 =>
  bO (qAdd v3 v6) fun v7 =>
  bO (qIxSeq one (.int 1)) fun v8 =>
  bO (qIxSeq other (.int 1)) fun v9 =>
  bO (qMul v8 v9) fun v10 =>
  bR (F_reduced v7 v10) fun v11 =>
  .ok v11
def g_added : DS :=
  (dRet (dRes (dFz (dcA phi_reduced (dACons (dOp (w2 qAdd) (dOp (w2 qMul) (dOp (w2 qIxSeq) (dVar 0) (dC (.int 0))) (dOp (w2 qIxSeq) (dVar 1) (dC (.int 1)))) (dOp (w2 qMul) (dOp (w2 qIxSeq) (dVar 1) (dC (.int 0))) (dOp (w2 qIxSeq) (dVar 0) (dC (.int 1))))) (dACons (dOp (w2 qMul) (dOp (w2 qIxSeq) (dVar 0) (dC (.int 1))) (dOp (w2 qIxSeq) (dVar 1) (dC (.int 1)))) dANil))))))
def phi_added : SpA := phiA2 F_added
theorem e_added {y0 y1 : D} {Ex : DErr → Prop} {Q : S → Prop} : phi_added [y0, y1] Ex Q = wp (F_added y0 y1) Ex (fun d => Q (.fz d)) := rfl
theorem c_added {A : Prop} {y0 y1 : D} {Ex : DErr → Prop} {Q : S → Prop} (h : A → wp (F_added y0 y1) Ex (fun d => Q (.fz d))) : A → phi_added [y0, y1] Ex Q := h
local macro_rules | `(tactic| walk_at "nm") => `(tactic| (try simp only [wp_ok, wp_ex, wp_bO, wp_bR, wp_cond, wp_noEx, wp_tryB, wp_ctl, ctlP_nx, ctlP_bk, ctlP_rt, Bool.not_true, Bool.not_false, cond_true, cond_false, wpO_map]))
local macro_rules | `(tactic| walk_at "st") => `(tactic| first | (with_reducible exact id) | (with_reducible exact fun h => h.elim) | (with_reducible exact fun h => h _) | (with_reducible refine st_condT ?_; walk_at "st") | (with_reducible refine st_condF ?_; walk_at "st") | (with_reducible refine wpO_imp (fun d => ?_); walk_at "st") | (with_reducible refine cond_imp ?_ ?_ <;> walk_at "st") | (with_reducible refine st_var (by with_unfolding_all exact rfl) ?_; walk_at "st") | (with_reducible refine st_atO (by with_unfolding_all exact rfl) ?_; walk_at "st") | (with_reducible refine st_seq ?_; walk_at "st") | (with_reducible refine st_then ?_; (try dsimp only [ps_0, ps_s, stW]); walk_at "st") | (with_reducible refine st_thenR ?_; walk_at "st") | (with_reducible refine st_thenX ?_; walk_at "st") | (with_reducible refine st_thenB ?_; walk_at "st") | (with_reducible refine st_thenC ?_; walk_at "st") | (with_reducible refine st_set ?_; walk_at "st") | (with_reducible refine st_ret ?_; walk_at "st") | (with_reducible refine st_ifS ?_; walk_at "st") | (with_reducible refine st_nx ?_; walk_at "st") | (with_reducible refine st_endA ?_; walk_at "st") | (with_reducible refine st_endR ?_; walk_at "st") | (with_reducible refine st_endX ?_; walk_at "st") | (with_reducible refine st_drop ?_; walk_at "st") | (with_reducible refine st_for ?_; walk_at "st") | (with_reducible refine st_bk ?_; walk_at "st") | (with_reducible refine st_ct ?_; walk_at "st") | (with_reducible refine st_asg ?_; walk_at "st") | (with_reducible refine st_par ?_; walk_at "st") | (with_reducible refine st_retN ?_; walk_at "st") | (with_reducible refine st_no ?_; walk_at "st") | (with_reducible refine st_raise ?_; walk_at "st") | (with_reducible refine st_try ?_; walk_at "st") | (with_reducible refine st_loop ?_; (try dsimp only [ps_0, ps_s, stW]); walk_at "st") | (with_reducible refine st_loopC ?_; (try dsimp only [ps_0, ps_s, stW]); walk_at "st") | (with_reducible refine st_loopB ?_; walk_at "st") | (with_reducible refine st_loopR ?_; walk_at "st") | (with_reducible refine st_loopX ?_; walk_at "st") | ((try dsimp only [ps_0, ps_s]); with_reducible refine st_endB ?_; walk_at "st") | ((try dsimp only [ps_0, ps_s]); with_reducible refine st_endBR ?_; walk_at "st") | ((try dsimp only [ps_0, ps_s]); with_reducible refine st_endBX ?_; walk_at "st") | (with_reducible refine st_tryN ?_; walk_at "st") | (with_reducible refine st_tryR ?_; walk_at "st") | (with_reducible refine st_tryB ?_; walk_at "st") | (with_reducible refine st_tryC ?_; walk_at "st") | (with_reducible refine st_tryX ?_; (try dsimp only [ps_0, ps_s, stW]); walk_at "st") | (with_reducible refine st_suitN ?_; (try dsimp only [ps_0, ps_s, stW]); walk_at "st") | (with_reducible refine st_suitR ?_; walk_at "st") | (with_reducible refine st_suitB ?_; (try dsimp only [ps_0, ps_s, stW]); walk_at "st") | (with_reducible refine st_suitC ?_; (try dsimp only [ps_0, ps_s, stW]); walk_at "st") | (with_reducible refine st_dst ?_; walk_at "st") | (with_reducible refine st_dap ?_; walk_at "st") | (with_reducible refine st_gname ?_; (try dsimp only [ps_0, ps_s, stW]); walk_at "st") | (with_reducible refine st_gT2 ?_; walk_at "st") | (with_reducible refine st_gT3 ?_; walk_at "st") | (with_reducible refine st_c ?_; walk_at "st") | (with_reducible refine st_fz ?_; walk_at "st") | (with_reducible refine st_sDf ?_; walk_at "st") | (with_reducible refine st_sDo ?_; walk_at "st") | (with_reducible refine st_res ?_; walk_at "st") | (with_reducible refine st_tst ?_; walk_at "st") | (with_reducible refine st_op ?_; walk_at "st") | (with_reducible refine st_un ?_; walk_at "st") | (with_reducible refine st_acons ?_; walk_at "st") | (with_reducible refine st_anil ?_; walk_at "st") | (with_reducible refine st_cb ?_; walk_at "st") | (with_reducible refine st_cA ?_; walk_at "st") | (with_reducible refine st_cB ?_; walk_at "st") | (with_reducible refine st_and ?_; walk_at "st") | (with_reducible refine st_or ?_; walk_at "st") | (with_reducible refine st_not ?_; walk_at "st") | (with_reducible refine st_if ?_; walk_at "st") | (with_reducible refine st_andT ?_; walk_at "st") | (with_reducible refine st_orT ?_; walk_at "st") | (with_reducible refine st_notT ?_; walk_at "st") | (with_reducible refine st_tup ?_; walk_at "st") | (with_reducible refine st_lst ?_; walk_at "st") | (with_reducible refine st_lstV ?_; walk_at "st") | (with_reducible refine st_cAD ?_; walk_at "st") | (with_reducible refine st_cV ?_; walk_at "st") | (with_reducible refine st_ix ?_; walk_at "st") | (with_reducible refine st_sl ?_; walk_at "st") | (with_reducible refine st_noP ?_; walk_at "st") | (with_reducible refine st_someP ?_; walk_at "st") | (with_reducible refine st_dic0 ?_; walk_at "st") | (with_reducible refine st_it ?_; walk_at "st") | (with_reducible refine st_itA ?_; walk_at "st") | (with_reducible refine st_yes ?_; walk_at "st") | (with_reducible refine st_lcQ ?_; (try dsimp only [ps_0, ps_s, stW]); walk_at "st") | (with_reducible refine st_lcV ?_; (try dsimp only [ps_0, ps_s, stW]); walk_at "st") | (with_reducible refine st_p1 ?_; walk_at "st") | (with_reducible refine st_p2 ?_; walk_at "st") | (with_reducible refine st_p3 ?_; walk_at "st") | (with_reducible refine st_xf (by with_unfolding_all exact rfl) ?_; walk_at "st") | (with_reducible refine st_xi (by with_unfolding_all exact rfl) ?_; walk_at "st") | (with_reducible refine ctlP_imp (fun b => ?_) (fun b => ?_) (fun b => ?_) <;> walk_at "st") | (with_reducible refine wp_imp (fun e => ?_) (fun d => ?_) <;> walk_at "st") | ((try dsimp only [ps_0, ps_s, stW]); refine sim_map (fun x Q K hK => ?_) _ _ _ (fun ys => ?_); (focus (walk_at "nm"; walk_at "st"; all_goals exact hK _ _ rfl)); ((try simp only [List.nil_append]); walk_at "st")) | ((try dsimp only [ps_0, ps_s, stW]); refine sim_fil (fun x Q P K K0 hK h0 => ?_) _ _ _ (fun ys => ?_); (focus (walk_at "nm"; walk_at "st"; all_goals first | exact hK _ _ rfl | exact h0 _ rfl)); ((try simp only [List.nil_append]); walk_at "st")) | (with_reducible refine st_all fun u => ?_; walk_at "st") | skip)
local macro_rules | `(tactic| walk_at "st") => `(tactic| first | (with_reducible refine c_reduced ?_; walk_at "st") | fail)
theorem law_added : ∀ ds Ex Q, ds.length = 2 → phi_added ds Ex Q → g_added (endsA Ex Q) (startA 2 ds) := by
  intro ds Ex Q hl
  match ds, hl with
  | [y0, y1], _ =>
    rw [e_added]
    unfold F_added g_added
    walk_at "nm"
    (try dsimp only [startA, startB, pm_c, pm_n, pa_c, pa_n, pr_s, pr_0, pl_c, pl_n, Nat.reduceAdd, Nat.reduceSub])
    walk_at "st"
def F_negative (one : D) : Res DErr D :=
  bO (qIxSeq one (.int 0)) fun v1 =>
  bO (qNeg v1) fun v2 =>
  bO (qIxSeq one (.int 1)) fun v3 =>
  .ok (.nd .tup [v2, v3])
def g_negative : DS :=
  (dRet (dRes (dTup (dACons (dUn (w1 qNeg) (dOp (w2 qIxSeq) (dVar 0) (dC (.int 0)))) (dACons (dOp (w2 qIxSeq) (dVar 0) (dC (.int 1))) dANil)))))
def phi_negative : SpA := phiA1 F_negative
theorem e_negative {y0 : D} {Ex : DErr → Prop} {Q : S → Prop} : phi_negative [y0] Ex Q = wp (F_negative y0) Ex (fun d => Q (.fz d)) := rfl
theorem c_negative {A : Prop} {y0 : D} {Ex : DErr → Prop} {Q : S → Prop} (h : A → wp (F_negative y0) Ex (fun d => Q (.fz d))) : A → phi_negative [y0] Ex Q := h
local macro_rules | `(tactic| walk_at "nm") => `(tactic| (try simp only [wp_ok, wp_ex, wp_bO, wp_bR, wp_cond, wp_noEx, wp_tryB, wp_ctl, ctlP_nx, ctlP_bk, ctlP_rt, Bool.not_true, Bool.not_false, cond_true, cond_false, wpO_map]))
local macro_rules | `(tactic| walk_at "st") => `(tactic| first | (with_reducible exact id) | (with_reducible exact fun h => h.elim) | (with_reducible exact fun h => h _) | (with_reducible refine st_condT ?_; walk_at "st") | (with_reducible refine st_condF ?_; walk_at "st") | (with_reducible refine wpO_imp (fun d => ?_); walk_at "st") | (with_reducible refine cond_imp ?_ ?_ <;> walk_at "st") | (with_reducible refine st_var (by with_unfolding_all exact rfl) ?_; walk_at "st") | (with_reducible refine st_atO (by with_unfolding_all exact rfl) ?_; walk_at "st") | (with_reducible refine st_seq ?_; walk_at "st") | (with_reducible refine st_then ?_; (try dsimp only [ps_0, ps_s, stW]); walk_at "st") | (with_reducible refine st_thenR ?_; walk_at "st") | (with_reducible refine st_thenX ?_; walk_at "st") | (with_reducible refine st_thenB ?_; walk_at "st") | (with_reducible refine st_thenC ?_; walk_at "st") | (with_reducible refine st_set ?_; walk_at "st") | (with_reducible refine st_ret ?_; walk_at "st") | (with_reducible refine st_ifS ?_; walk_at "st") | (with_reducible refine st_nx ?_; walk_at "st") | (with_reducible refine st_endA ?_; walk_at "st") | (with_reducible refine st_endR ?_; walk_at "st") | (with_reducible refine st_endX ?_; walk_at "st") | (with_reducible refine st_drop ?_; walk_at "st") | (with_reducible refine st_for ?_; walk_at "st") | (with_reducible refine st_bk ?_; walk_at "st") | (with_reducible refine st_ct ?_; walk_at "st") | (with_reducible refine st_asg ?_; walk_at "st") | (with_reducible refine st_par ?_; walk_at "st") | (with_reducible refine st_retN ?_; walk_at "st") | (with_reducible refine st_no ?_; walk_at "st") | (with_reducible refine st_raise ?_; walk_at "st") | (with_reducible refine st_try ?_; walk_at "st") | (with_reducible refine st_loop ?_; (try dsimp only [ps_0, ps_s, stW]); walk_at "st") | (with_reducible refine st_loopC ?_; (try dsimp only [ps_0, ps_s, stW]); walk_at "st") | (with_reducible refine st_loopB ?_; walk_at "st") | (with_reducible refine st_loopR ?_; walk_at "st") | (with_reducible refine st_loopX ?_; walk_at "st") | ((try dsimp only [ps_0, ps_s]); with_reducible refine st_endB ?_; walk_at "st") | ((try dsimp only [ps_0, ps_s]); with_reducible refine st_endBR ?_; walk_at "st") | ((try dsimp only [ps_0, ps_s]); with_reducible refine st_endBX ?_; walk_at "st") | (with_reducible refine st_tryN ?_; walk_at "st") | (with_reducible refine st_tryR ?_; walk_at "st") | (with_reducible refine st_tryB ?_; walk_at "st") | (with_reducible refine st_tryC ?_; walk_at "st") | (with_reducible refine st_tryX ?_; (try dsimp only [ps_0, ps_s, stW]); walk_at "st") | (with_reducible refine st_suitN ?_; (try dsimp only [ps_0, ps_s, stW]); walk_at "st") | (with_reducible refine st_suitR ?_; walk_at "st") | (with_reducible refine st_suitB ?_; (try dsimp only [ps_0, ps_s, stW]); walk_at "st") | (with_reducible refine st_suitC ?_; (try dsimp only [ps_0, ps_s, stW]); walk_at "st") | (with_reducible refine st_dst ?_; walk_at "st") | (with_reducible refine st_dap ?_; walk_at "st") | (with_reducible refine st_gname ?_; (try dsimp only [ps_0, ps_s, stW]); walk_at "st") | (with_reducible refine st_gT2 ?_; walk_at "st") | (with_reducible refine st_gT3 ?_; walk_at "st") | (with_reducible refine st_c ?_; walk_at "st") | (with_reducible refine st_fz ?_; walk_at "st") | (with_reducible refine st_sDf ?_; walk_at "st") | (with_reducible refine st_sDo ?_; walk_at "st") | (with_reducible refine st_res ?_; walk_at "st") | (with_reducible refine st_tst ?_; walk_at "st") | (with_reducible refine st_op ?_; walk_at "st") | (with_reducible refine st_un ?_; walk_at "st") | (with_reducible refine st_acons ?_; walk_at "st") | (with_reducible refine st_anil ?_; walk_at "st") | (with_reducible refine st_cb ?_; walk_at "st") | (with_reducible refine st_cA ?_; walk_at "st") | (with_reducible refine st_cB ?_; walk_at "st") | (with_reducible refine st_and ?_; walk_at "st") | (with_reducible refine st_or ?_; walk_at "st") | (with_reducible refine st_not ?_; walk_at "st") | (with_reducible refine st_if ?_; walk_at "st") | (with_reducible refine st_andT ?_; walk_at "st") | (with_reducible refine st_orT ?_; walk_at "st") | (with_reducible refine st_notT ?_; walk_at "st") | (with_reducible refine st_tup ?_; walk_at "st") | (with_reducible refine st_lst ?_; walk_at "st") | (with_reducible refine st_lstV ?_; walk_at "st") | (with_reducible refine st_cAD ?_; walk_at "st") | (with_reducible refine st_cV ?_; walk_at "st") | (with_reducible refine st_ix ?_; walk_at "st") | (with_reducible refine st_sl ?_; walk_at "st") | (with_reducible refine st_noP ?_; walk_at "st") | (with_reducible refine st_someP ?_; walk_at "st") | (with_reducible refine st_dic0 ?_; walk_at "st") | (with_reducible refine st_it ?_; walk_at "st") | (with_reducible refine st_itA ?_; walk_at "st") | (with_reducible refine st_yes ?_; walk_at "st") | (with_reducible refine st_lcQ ?_; (try dsimp only [ps_0, ps_s, stW]); walk_at "st") | (with_reducible refine st_lcV ?_; (try dsimp only [ps_0, ps_s, stW]); walk_at "st") | (with_reducible refine st_p1 ?_; walk_at "st") | (with_reducible refine st_p2 ?_; walk_at "st") | (with_reducible refine st_p3 ?_; walk_at "st") | (with_reducible refine st_xf (by with_unfolding_all exact rfl) ?_; walk_at "st") | (with_reducible refine st_xi (by with_unfolding_all exact rfl) ?_; walk_at "st") | (with_reducible refine ctlP_imp (fun b => ?_) (fun b => ?_) (fun b => ?_) <;> walk_at "st") | (with_reducible refine wp_imp (fun e => ?_) (fun d => ?_) <;> walk_at "st") | ((try dsimp only [ps_0, ps_s, stW]); refine sim_map (fun x Q K hK => ?_) _ _ _ (fun ys => ?_); (focus (walk_at "nm"; walk_at "st"; all_goals exact hK _ _ rfl)); ((try simp only [List.nil_append]); walk_at "st")) | ((try dsimp only [ps_0, ps_s, stW]); refine sim_fil (fun x Q P K K0 hK h0 => ?_) _ _ _ (fun ys => ?_); (focus (walk_at "nm"; walk_at "st"; all_goals first | exact hK _ _ rfl | exact h0 _ rfl)); ((try simp only [List.nil_append]); walk_at "st")) | (with_reducible refine st_all fun u => ?_; walk_at "st") | skip)
theorem law_negative : ∀ ds Ex Q, ds.length = 1 → phi_negative ds Ex Q → g_negative (endsA Ex Q) (startA 1 ds) := by
  intro ds Ex Q hl
  match ds, hl with
  | [y0], _ =>
    rw [e_negative]
    unfold F_negative g_negative
    walk_at "nm"
    (try dsimp only [startA, startB, pm_c, pm_n, pa_c, pa_n, pr_s, pr_0, pl_c, pl_n, Nat.reduceAdd, Nat.reduceSub])
    walk_at "st"
def F_multiplied (one other : D) : Res DErr D :=
  bO (qIxSeq one (.int 0)) fun v1 =>
  bO (qIxSeq other (.int 0)) fun v2 =>
  bO (qMul v1 v2) fun v3 =>
  bO (qIxSeq one (.int 1)) fun v4 =>
  bO (qIxSeq other (.int 1)) fun v5 =>
  bO (qMul v4 v5) fun v6 =>
  bR (F_reduced v3 v6) fun v7 =>
  .ok v7
def g_multiplied : DS :=
  (dRet (dRes (dFz (dcA phi_reduced (dACons (dOp (w2 qMul) (dOp (w2 qIxSeq) (dVar 0) (dC (.int 0))) (dOp (w2 qIxSeq) (dVar 1) (dC (.int 0)))) (dACons (dOp (w2 qMul) (dOp (w2 qIxSeq) (dVar 0) (dC (.int 1))) (dOp (w2 qIxSeq) (dVar 1) (dC (.int 1)))) dANil))))))
def phi_multiplied : SpA := phiA2 F_multiplied
theorem e_multiplied {y0 y1 : D} {Ex : DErr → Prop} {Q : S → Prop} : phi_multiplied [y0, y1] Ex Q = wp (F_multiplied y0 y1) Ex (fun d => Q (.fz d)) := rfl
theorem c_multiplied {A : Prop} {y0 y1 : D} {Ex : DErr → Prop} {Q : S → Prop} (h : A → wp (F_multiplied y0 y1) Ex (fun d => Q (.fz d))) : A → phi_multiplied [y0, y1] Ex Q := h
local macro_rules | `(tactic| walk_at "nm") => `(tactic| (try simp only [wp_ok, wp_ex, wp_bO, wp_bR, wp_cond, wp_noEx, wp_tryB, wp_ctl, ctlP_nx, ctlP_bk, ctlP_rt, Bool.not_true, Bool.not_false, cond_true, cond_false, wpO_map]))
local macro_rules | `(tactic| walk_at "st") => `(tactic| first | (with_reducible exact id) | (with_reducible exact fun h => h.elim) | (with_reducible exact fun h => h _) | (with_reducible refine st_condT ?_; walk_at "st") | (with_reducible refine st_condF ?_; walk_at "st") | (with_reducible refine wpO_imp (fun d => ?_); walk_at "st") | (with_reducible refine cond_imp ?_ ?_ <;> walk_at "st") | (with_reducible refine st_var (by with_unfolding_all exact rfl) ?_; walk_at "st") | (with_reducible refine st_atO (by with_unfolding_all exact rfl) ?_; walk_at "st") | (with_reducible refine st_seq ?_; walk_at "st") | (with_reducible refine st_then ?_; (try dsimp only [ps_0, ps_s, stW]); walk_at "st") | (with_reducible refine st_thenR ?_; walk_at "st") | (with_reducible refine st_thenX ?_; walk_at "st") | (with_reducible refine st_thenB ?_; walk_at "st") | (with_reducible refine st_thenC ?_; walk_at "st") | (with_reducible refine st_set ?_; walk_at "st") | (with_reducible refine st_ret ?_; walk_at "st") | (with_reducible refine st_ifS ?_; walk_at "st") | (with_reducible refine st_nx ?_; walk_at "st") | (with_reducible refine st_endA ?_; walk_at "st") | (with_reducible refine st_endR ?_; walk_at "st") | (with_reducible refine st_endX ?_; walk_at "st") | (with_reducible refine st_drop ?_; walk_at "st") | (with_reducible refine st_for ?_; walk_at "st") | (with_reducible refine st_bk ?_; walk_at "st") | (with_reducible refine st_ct ?_; walk_at "st") | (with_reducible refine st_asg ?_; walk_at "st") | (with_reducible refine st_par ?_; walk_at "st") | (with_reducible refine st_retN ?_; walk_at "st") | (with_reducible refine st_no ?_; walk_at "st") | (with_reducible refine st_raise ?_; walk_at "st") | (with_reducible refine st_try ?_; walk_at "st") | (with_reducible refine st_loop ?_; (try dsimp only [ps_0, ps_s, stW]); walk_at "st") | (with_reducible refine st_loopC ?_; (try dsimp only [ps_0, ps_s, stW]); walk_at "st") | (with_reducible refine st_loopB ?_; walk_at "st") | (with_reducible refine st_loopR ?_; walk_at "st") | (with_reducible refine st_loopX ?_; walk_at "st") | ((try dsimp only [ps_0, ps_s]); with_reducible refine st_endB ?_; walk_at "st") | ((try dsimp only [ps_0, ps_s]); with_reducible refine st_endBR ?_; walk_at "st") | ((try dsimp only [ps_0, ps_s]); with_reducible refine st_endBX ?_; walk_at "st") | (with_reducible refine st_tryN ?_; walk_at "st") | (with_reducible refine st_tryR ?_; walk_at "st") | (with_reducible refine st_tryB ?_; walk_at "st") | (with_reducible refine st_tryC ?_; walk_at "st") | (with_reducible refine st_tryX ?_; (try dsimp only [ps_0, ps_s, stW]); walk_at "st") | (with_reducible refine st_suitN ?_; (try dsimp only [ps_0, ps_s, stW]); walk_at "st") | (with_reducible refine st_suitR ?_; walk_at "st") | (with_reducible refine st_suitB ?_; (try dsimp only [ps_0, ps_s, stW]); walk_at "st") | (with_reducible refine st_suitC ?_; (try dsimp only [ps_0, ps_s, stW]); walk_at "st") | (with_reducible refine st_dst ?_; walk_at "st") | (with_reducible refine st_dap ?_; walk_at "st") | (with_reducible refine st_gname ?_; (try dsimp only [ps_0, ps_s, stW]); walk_at "st") | (with_reducible refine st_gT2 ?_; walk_at "st") | (with_reducible refine st_gT3 ?_; walk_at "st") | (with_reducible refine st_c ?_; walk_at "st") | (with_reducible refine st_fz ?_; walk_at "st") | (with_reducible refine st_sDf ?_; walk_at "st") | (with_reducible refine st_sDo ?_; walk_at "st") | (with_reducible refine st_res ?_; walk_at "st") | (with_reducible refine st_tst ?_; walk_at "st") | (with_reducible refine st_op ?_; walk_at "st") | (with_reducible refine st_un ?_; walk_at "st") | (with_reducible refine st_acons ?_; walk_at "st") | (with_reducible refine st_anil ?_; walk_at "st") | (with_reducible refine st_cb ?_; walk_at "st") | (with_reducible refine st_cA ?_; walk_at "st") | (with_reducible refine st_cB ?_; walk_at "st") | (with_reducible refine st_and ?_; walk_at "st") | (with_reducible refine st_or ?_; walk_at "st") | (with_reducible refine st_not ?_; walk_at "st") | (with_reducible refine st_if ?_; walk_at "st") | (with_reducible refine st_andT ?_; walk_at "st") | (with_reducible refine st_orT ?_; walk_at "st") | (with_reducible refine st_notT ?_; walk_at "st") | (with_reducible refine st_tup ?_; walk_at "st") | (with_reducible refine st_lst ?_; walk_at "st") | (with_reducible refine st_lstV ?_; walk_at "st") | (with_reducible refine st_cAD ?_; walk_at "st") | (with_reducible refine st_cV ?_; walk_at "st") | (with_reducible refine st_ix ?_; walk_at "st") | (with_reducible refine st_sl ?_; walk_at "st") | (with_reducible refine st_noP ?_; walk_at "st") | (with_reducible refine st_someP ?_; walk_at "st") | (with_reducible refine st_dic0 ?_; walk_at "st") | (with_reducible refine st_it ?_; walk_at "st") | (with_reducible refine st_itA ?_; walk_at "st") | (with_reducible refine st_yes ?_; walk_at "st") | (with_reducible refine st_lcQ ?_; (try dsimp only [ps_0, ps_s, stW]); walk_at "st") | (with_reducible refine st_lcV ?_; (try dsimp only [ps_0, ps_s, stW]); walk_at "st") | (with_reducible refine st_p1 ?_; walk_at "st") | (with_reducible refine st_p2 ?_; walk_at "st") | (with_reducible refine st_p3 ?_; walk_at "st") | (with_reducible refine st_xf (by with_unfolding_all exact rfl) ?_; walk_at "st") | (with_reducible refine st_xi (by with_unfolding_all exact rfl) ?_; walk_at "st") | (with_reducible refine ctlP_imp (fun b => ?_) (fun b => ?_) (fun b => ?_) <;> walk_at "st") | (with_reducible refine wp_imp (fun e => ?_) (fun d => ?_) <;> walk_at "st") | ((try dsimp only [ps_0, ps_s, stW]); refine sim_map (fun x Q K hK => ?_) _ _ _ (fun ys => ?_); (focus (walk_at "nm"; walk_at "st"; all_goals exact hK _ _ rfl)); ((try simp only [List.nil_append]); walk_at "st")) | ((try dsimp only [ps_0, ps_s, stW]); refine sim_fil (fun x Q P K K0 hK h0 => ?_) _ _ _ (fun ys => ?_); (focus (walk_at "nm"; walk_at "st"; all_goals first | exact hK _ _ rfl | exact h0 _ rfl)); ((try simp only [List.nil_append]); walk_at "st")) | (with_reducible refine st_all fun u => ?_; walk_at "st") | skip)
local macro_rules | `(tactic| walk_at "st") => `(tactic| first | (with_reducible refine c_reduced ?_; walk_at "st") | fail)
theorem law_multiplied : ∀ ds Ex Q, ds.length = 2 → phi_multiplied ds Ex Q → g_multiplied (endsA Ex Q) (startA 2 ds) := by
  intro ds Ex Q hl
  match ds, hl with
  | [y0, y1], _ =>
    rw [e_multiplied]
    unfold F_multiplied g_multiplied
    walk_at "nm"
    (try dsimp only [startA, startB, pm_c, pm_n, pa_c, pa_n, pr_s, pr_0, pl_c, pl_n, Nat.reduceAdd, Nat.reduceSub])
    walk_at "st"
def F_divided (one other : D) : Res DErr D :=
  bO (qIxSeq one (.int 0)) fun v1 =>
  bO (qIxSeq other (.int 1)) fun v2 =>
  bO (qMul v1 v2) fun v3 =>
  bO (qIxSeq one (.int 1)) fun v4 =>
  bO (qIxSeq other (.int 0)) fun v5 =>
  bO (qMul v4 v5) fun v6 =>
  bR (F_reduced v3 v6) fun v7 =>
  .ok v7
def g_divided : DS :=
  (dRet (dRes (dFz (dcA phi_reduced (dACons (dOp (w2 qMul) (dOp (w2 qIxSeq) (dVar 0) (dC (.int 0))) (dOp (w2 qIxSeq) (dVar 1) (dC (.int 1)))) (dACons (dOp (w2 qMul) (dOp (w2 qIxSeq) (dVar 0) (dC (.int 1))) (dOp (w2 qIxSeq) (dVar 1) (dC (.int 0)))) dANil))))))
def phi_divided : SpA := phiA2 F_divided
theorem e_divided {y0 y1 : D} {Ex : DErr → Prop} {Q : S → Prop} : phi_divided [y0, y1] Ex Q = wp (F_divided y0 y1) Ex (fun d => Q (.fz d)) := rfl
theorem c_divided {A : Prop} {y0 y1 : D} {Ex : DErr → Prop} {Q : S → Prop} (h : A → wp (F_divided y0 y1) Ex (fun d => Q (.fz d))) : A → phi_divided [y0, y1] Ex Q := h
local macro_rules | `(tactic| walk_at "nm") => `(tactic| (try simp only [wp_ok, wp_ex, wp_bO, wp_bR, wp_cond, wp_noEx, wp_tryB, wp_ctl, ctlP_nx, ctlP_bk, ctlP_rt, Bool.not_true, Bool.not_false, cond_true, cond_false, wpO_map]))
local macro_rules | `(tactic| walk_at "st") => `(tactic| first | (with_reducible exact id) | (with_reducible exact fun h => h.elim) | (with_reducible exact fun h => h _) | (with_reducible refine st_condT ?_; walk_at "st") | (with_reducible refine st_condF ?_; walk_at "st") | (with_reducible refine wpO_imp (fun d => ?_); walk_at "st") | (with_reducible refine cond_imp ?_ ?_ <;> walk_at "st") | (with_reducible refine st_var (by with_unfolding_all exact rfl) ?_; walk_at "st") | (with_reducible refine st_atO (by with_unfolding_all exact rfl) ?_; walk_at "st") | (with_reducible refine st_seq ?_; walk_at "st") | (with_reducible refine st_then ?_; (try dsimp only [ps_0, ps_s, stW]); walk_at "st") | (with_reducible refine st_thenR ?_; walk_at "st") | (with_reducible refine st_thenX ?_; walk_at "st") | (with_reducible refine st_thenB ?_; walk_at "st") | (with_reducible refine st_thenC ?_; walk_at "st") | (with_reducible refine st_set ?_; walk_at "st") | (with_reducible refine st_ret ?_; walk_at "st") | (with_reducible refine st_ifS ?_; walk_at "st") | (with_reducible refine st_nx ?_; walk_at "st") | (with_reducible refine st_endA ?_; walk_at "st") | (with_reducible refine st_endR ?_; walk_at "st") | (with_reducible refine st_endX ?_; walk_at "st") | (with_reducible refine st_drop ?_; walk_at "st") | (with_reducible refine st_for ?_; walk_at "st") | (with_reducible refine st_bk ?_; walk_at "st") | (with_reducible refine st_ct ?_; walk_at "st") | (with_reducible refine st_asg ?_; walk_at "st") | (with_reducible refine st_par ?_; walk_at "st") | (with_reducible refine st_retN ?_; walk_at "st") | (with_reducible refine st_no ?_; walk_at "st") | (with_reducible refine st_raise ?_; walk_at "st") | (with_reducible refine st_try ?_; walk_at "st") | (with_reducible refine st_loop ?_; (try dsimp only [ps_0, ps_s, stW]); walk_at "st") | (with_reducible refine st_loopC ?_; (try dsimp only [ps_0, ps_s, stW]); walk_at "st") | (with_reducible refine st_loopB ?_; walk_at "st") | (with_reducible refine st_loopR ?_; walk_at "st") | (with_reducible refine st_loopX ?_; walk_at "st") | ((try dsimp only [ps_0, ps_s]); with_reducible refine st_endB ?_; walk_at "st") | ((try dsimp only [ps_0, ps_s]); with_reducible refine st_endBR ?_; walk_at "st") | ((try dsimp only [ps_0, ps_s]); with_reducible refine st_endBX ?_; walk_at "st") | (with_reducible refine st_tryN ?_; walk_at "st") | (with_reducible refine st_tryR ?_; walk_at "st") | (with_reducible refine st_tryB ?_; walk_at "st") | (with_reducible refine st_tryC ?_; walk_at "st") | (with_reducible refine st_tryX ?_; (try dsimp only [ps_0, ps_s, stW]); walk_at "st") | (with_reducible refine st_suitN ?_; (try dsimp only [ps_0, ps_s, stW]); walk_at "st") | (with_reducible refine st_suitR ?_; walk_at "st") | (with_reducible refine st_suitB ?_; (try dsimp only [ps_0, ps_s, stW]); walk_at "st") | (with_reducible refine st_suitC ?_; (try dsimp only [ps_0, ps_s, stW]); walk_at "st") | (with_reducible refine st_dst ?_; walk_at "st") | (with_reducible refine st_dap ?_; walk_at "st") | (with_reducible refine st_gname ?_; (try dsimp only [ps_0, ps_s, stW]); walk_at "st") | (with_reducible refine st_gT2 ?_; walk_at "st") | (with_reducible refine st_gT3 ?_; walk_at "st") | (with_reducible refine st_c ?_; walk_at "st") | (with_reducible refine st_fz ?_; walk_at "st") | (with_reducible refine st_sDf ?_; walk_at "st") | (with_reducible refine st_sDo ?_; walk_at "st") | (with_reducible refine st_res ?_; walk_at "st") | (with_reducible refine st_tst ?_; walk_at "st") | (with_reducible refine st_op ?_; walk_at "st") | (with_reducible refine st_un ?_; walk_at "st") | (with_reducible refine st_acons ?_; walk_at "st") | (with_reducible refine st_anil ?_; walk_at "st") | (with_reducible refine st_cb ?_; walk_at "st") | (with_reducible refine st_cA ?_; walk_at "st") | (with_reducible refine st_cB ?_; walk_at "st") | (with_reducible refine st_and ?_; walk_at "st") | (with_reducible refine st_or ?_; walk_at "st") | (with_reducible refine st_not ?_; walk_at "st") | (with_reducible refine st_if ?_; walk_at "st") | (with_reducible refine st_andT ?_; walk_at "st") | (with_reducible refine st_orT ?_; walk_at "st") | (with_reducible refine st_notT ?_; walk_at "st") | (with_reducible refine st_tup ?_; walk_at "st") | (with_reducible refine st_lst ?_; walk_at "st") | (with_reducible refine st_lstV ?_; walk_at "st") | (with_reducible refine st_cAD ?_; walk_at "st") | (with_reducible refine st_cV ?_; walk_at "st") | (with_reducible refine st_ix ?_; walk_at "st") | (with_reducible refine st_sl ?_; walk_at "st") | (with_reducible refine st_noP ?_; walk_at "st") | (with_reducible refine st_someP ?_; walk_at "st") | (with_reducible refine st_dic0 ?_; walk_at "st") | (with_reducible refine st_it ?_; walk_at "st") | (with_reducible refine st_itA ?_; walk_at "st") | (with_reducible refine st_yes ?_; walk_at "st") | (with_reducible refine st_lcQ ?_; (try dsimp only [ps_0, ps_s, stW]); walk_at "st") | (with_reducible refine st_lcV ?_; (try dsimp only [ps_0, ps_s, stW]); walk_at "st") | (with_reducible refine st_p1 ?_; walk_at "st") | (with_reducible refine st_p2 ?_; walk_at "st") | (with_reducible refine st_p3 ?_; walk_at "st") | (with_reducible refine st_xf (by with_unfolding_all exact rfl) ?_; walk_at "st") | (with_reducible refine st_xi (by with_unfolding_all exact rfl) ?_; walk_at "st") | (with_reducible refine ctlP_imp (fun b => ?_) (fun b => ?_) (fun b => ?_) <;> walk_at "st") | (with_reducible refine wp_imp (fun e => ?_) (fun d => ?_) <;> walk_at "st") | ((try dsimp only [ps_0, ps_s, stW]); refine sim_map (fun x Q K hK => ?_) _ _ _ (fun ys => ?_); (focus (walk_at "nm"; walk_at "st"; all_goals exact hK _ _ rfl)); ((try simp only [List.nil_append]); walk_at "st")) | ((try dsimp only [ps_0, ps_s, stW]); refine sim_fil (fun x Q P K K0 hK h0 => ?_) _ _ _ (fun ys => ?_); (focus (walk_at "nm"; walk_at "st"; all_goals first | exact hK _ _ rfl | exact h0 _ rfl)); ((try simp only [List.nil_append]); walk_at "st")) | (with_reducible refine st_all fun u => ?_; walk_at "st") | skip)
local macro_rules | `(tactic| walk_at "st") => `(tactic| first | (with_reducible refine c_reduced ?_; walk_at "st") | fail)
theorem law_divided : ∀ ds Ex Q, ds.length = 2 → phi_divided ds Ex Q → g_divided (endsA Ex Q) (startA 2 ds) := by
  intro ds Ex Q hl
  match ds, hl with
  | [y0, y1], _ =>
    rw [e_divided]
    unfold F_divided g_divided
    walk_at "nm"
    (try dsimp only [startA, startB, pm_c, pm_n, pa_c, pa_n, pr_s, pr_0, pl_c, pl_n, Nat.reduceAdd, Nat.reduceSub])
    walk_at "st"
def F_is_less (one other : D) : Res DErr D :=
  bO (qIxSeq one (.int 0)) fun v1 =>
  bO (qIxSeq other (.int 1)) fun v2 =>
  bO (qMul v1 v2) fun v3 =>
  bO (qIxSeq other (.int 0)) fun v4 =>
  bO (qIxSeq one (.int 1)) fun v5 =>
  bO (qMul v4 v5) fun v6 =>
  bO (qLt v3 v6) fun v7 =>
  .ok v7
def g_is_less : DS :=
  (dRet (dRes (dOp (w2 qLt) (dOp (w2 qMul) (dOp (w2 qIxSeq) (dVar 0) (dC (.int 0))) (dOp (w2 qIxSeq) (dVar 1) (dC (.int 1)))) (dOp (w2 qMul) (dOp (w2 qIxSeq) (dVar 1) (dC (.int 0))) (dOp (w2 qIxSeq) (dVar 0) (dC (.int 1)))))))
def phi_is_less : SpA := phiA2 F_is_less
theorem e_is_less {y0 y1 : D} {Ex : DErr → Prop} {Q : S → Prop} : phi_is_less [y0, y1] Ex Q = wp (F_is_less y0 y1) Ex (fun d => Q (.fz d)) := rfl
theorem c_is_less {A : Prop} {y0 y1 : D} {Ex : DErr → Prop} {Q : S → Prop} (h : A → wp (F_is_less y0 y1) Ex (fun d => Q (.fz d))) : A → phi_is_less [y0, y1] Ex Q := h
local macro_rules | `(tactic| walk_at "nm") => `(tactic| (try simp only [wp_ok, wp_ex, wp_bO, wp_bR, wp_cond, wp_noEx, wp_tryB, wp_ctl, ctlP_nx, ctlP_bk, ctlP_rt, Bool.not_true, Bool.not_false, cond_true, cond_false, wpO_map]))
local macro_rules | `(tactic| walk_at "st") => `(tactic| first | (with_reducible exact id) | (with_reducible exact fun h => h.elim) | (with_reducible exact fun h => h _) | (with_reducible refine st_condT ?_; walk_at "st") | (with_reducible refine st_condF ?_; walk_at "st") | (with_reducible refine wpO_imp (fun d => ?_); walk_at "st") | (with_reducible refine cond_imp ?_ ?_ <;> walk_at "st") | (with_reducible refine st_var (by with_unfolding_all exact rfl) ?_; walk_at "st") | (with_reducible refine st_atO (by with_unfolding_all exact rfl) ?_; walk_at "st") | (with_reducible refine st_seq ?_; walk_at "st") | (with_reducible refine st_then ?_; (try dsimp only [ps_0, ps_s, stW]); walk_at "st") | (with_reducible refine st_thenR ?_; walk_at "st") | (with_reducible refine st_thenX ?_; walk_at "st") | (with_reducible refine st_thenB ?_; walk_at "st") | (with_reducible refine st_thenC ?_; walk_at "st") | (with_reducible refine st_set ?_; walk_at "st") | (with_reducible refine st_ret ?_; walk_at "st") | (with_reducible refine st_ifS ?_; walk_at "st") | (with_reducible refine st_nx ?_; walk_at "st") | (with_reducible refine st_endA ?_; walk_at "st") | (with_reducible refine st_endR ?_; walk_at "st") | (with_reducible refine st_endX ?_; walk_at "st") | (with_reducible refine st_drop ?_; walk_at "st") | (with_reducible refine st_for ?_; walk_at "st") | (with_reducible refine st_bk ?_; walk_at "st") | (with_reducible refine st_ct ?_; walk_at "st") | (with_reducible refine st_asg ?_; walk_at "st") | (with_reducible refine st_par ?_; walk_at "st") | (with_reducible refine st_retN ?_; walk_at "st") | (with_reducible refine st_no ?_; walk_at "st") | (with_reducible refine st_raise ?_; walk_at "st") | (with_reducible refine st_try ?_; walk_at "st") | (with_reducible refine st_loop ?_; (try dsimp only [ps_0, ps_s, stW]); walk_at "st") | (with_reducible refine st_loopC ?_; (try dsimp only [ps_0, ps_s, stW]); walk_at "st") | (with_reducible refine st_loopB ?_; walk_at "st") | (with_reducible refine st_loopR ?_; walk_at "st") | (with_reducible refine st_loopX ?_; walk_at "st") | ((try dsimp only [ps_0, ps_s]); with_reducible refine st_endB ?_; walk_at "st") | ((try dsimp only [ps_0, ps_s]); with_reducible refine st_endBR ?_; walk_at "st") | ((try dsimp only [ps_0, ps_s]); with_reducible refine st_endBX ?_; walk_at "st") | (with_reducible refine st_tryN ?_; walk_at "st") | (with_reducible refine st_tryR ?_; walk_at "st") | (with_reducible refine st_tryB ?_; walk_at "st") | (with_reducible refine st_tryC ?_; walk_at "st") | (with_reducible refine st_tryX ?_; (try dsimp only [ps_0, ps_s, stW]); walk_at "st") | (with_reducible refine st_suitN ?_; (try dsimp only [ps_0, ps_s, stW]); walk_at "st") | (with_reducible refine st_suitR ?_; walk_at "st") | (with_reducible refine st_suitB ?_; (try dsimp only [ps_0, ps_s, stW]); walk_at "st") | (with_reducible refine st_suitC ?_; (try dsimp only [ps_0, ps_s, stW]); walk_at "st") | (with_reducible refine st_dst ?_; walk_at "st") | (with_reducible refine st_dap ?_; walk_at "st") | (with_reducible refine st_gname ?_; (try dsimp only [ps_0, ps_s, stW]); walk_at "st") | (with_reducible refine st_gT2 ?_; walk_at "st") | (with_reducible refine st_gT3 ?_; walk_at "st") | (with_reducible refine st_c ?_; walk_at "st") | (with_reducible refine st_fz ?_; walk_at "st") | (with_reducible refine st_sDf ?_; walk_at "st") | (with_reducible refine st_sDo ?_; walk_at "st") | (with_reducible refine st_res ?_; walk_at "st") | (with_reducible refine st_tst ?_; walk_at "st") | (with_reducible refine st_op ?_; walk_at "st") | (with_reducible refine st_un ?_; walk_at "st") | (with_reducible refine st_acons ?_; walk_at "st") | (with_reducible refine st_anil ?_; walk_at "st") | (with_reducible refine st_cb ?_; walk_at "st") | (with_reducible refine st_cA ?_; walk_at "st") | (with_reducible refine st_cB ?_; walk_at "st") | (with_reducible refine st_and ?_; walk_at "st") | (with_reducible refine st_or ?_; walk_at "st") | (with_reducible refine st_not ?_; walk_at "st") | (with_reducible refine st_if ?_; walk_at "st") | (with_reducible refine st_andT ?_; walk_at "st") | (with_reducible refine st_orT ?_; walk_at "st") | (with_reducible refine st_notT ?_; walk_at "st") | (with_reducible refine st_tup ?_; walk_at "st") | (with_reducible refine st_lst ?_; walk_at "st") | (with_reducible refine st_lstV ?_; walk_at "st") | (with_reducible refine st_cAD ?_; walk_at "st") | (with_reducible refine st_cV ?_; walk_at "st") | (with_reducible refine st_ix ?_; walk_at "st") | (with_reducible refine st_sl ?_; walk_at "st") | (with_reducible refine st_noP ?_; walk_at "st") | (with_reducible refine st_someP ?_; walk_at "st") | (with_reducible refine st_dic0 ?_; walk_at "st") | (with_reducible refine st_it ?_; walk_at "st") | (with_reducible refine st_itA ?_; walk_at "st") | (with_reducible refine st_yes ?_; walk_at "st") | (with_reducible refine st_lcQ ?_; (try dsimp only [ps_0, ps_s, stW]); walk_at "st") | (with_reducible refine st_lcV ?_; (try dsimp only [ps_0, ps_s, stW]); walk_at "st") | (with_reducible refine st_p1 ?_; walk_at "st") | (with_reducible refine st_p2 ?_; walk_at "st") | (with_reducible refine st_p3 ?_; walk_at "st") | (with_reducible refine st_xf (by with_unfolding_all exact rfl) ?_; walk_at "st") | (with_reducible refine st_xi (by with_unfolding_all exact rfl) ?_; walk_at "st") | (with_reducible refine ctlP_imp (fun b => ?_) (fun b => ?_) (fun b => ?_) <;> walk_at "st") | (with_reducible refine wp_imp (fun e => ?_) (fun d => ?_) <;> walk_at "st") | ((try dsimp only [ps_0, ps_s, stW]); refine sim_map (fun x Q K hK => ?_) _ _ _ (fun ys => ?_); (focus (walk_at "nm"; walk_at "st"; all_goals exact hK _ _ rfl)); ((try simp only [List.nil_append]); walk_at "st")) | ((try dsimp only [ps_0, ps_s, stW]); refine sim_fil (fun x Q P K K0 hK h0 => ?_) _ _ _ (fun ys => ?_); (focus (walk_at "nm"; walk_at "st"; all_goals first | exact hK _ _ rfl | exact h0 _ rfl)); ((try simp only [List.nil_append]); walk_at "st")) | (with_reducible refine st_all fun u => ?_; walk_at "st") | skip)
theorem law_is_less : ∀ ds Ex Q, ds.length = 2 → phi_is_less ds Ex Q → g_is_less (endsA Ex Q) (startA 2 ds) := by
  intro ds Ex Q hl
  match ds, hl with
  | [y0, y1], _ =>
    rw [e_is_less]
    unfold F_is_less g_is_less
    walk_at "nm"
    (try dsimp only [startA, startB, pm_c, pm_n, pa_c, pa_n, pr_s, pr_0, pl_c, pl_n, Nat.reduceAdd, Nat.reduceSub])
    walk_at "st"
def F_plus (one other : D) : Res DErr D :=
  bR (F_check_fractions (.nd .lst [one, other])) fun v1 =>
  bR (F_added one other) fun v2 =>
  .ok v2
def g_plus : DS :=
  (dSeq (dDrop (dcA phi_check_fractions (dACons (dLstV (dACons (dVar 0) (dACons (dVar 1) dANil))) dANil)))
    (dRet (dRes (dFz (dcA phi_added (dACons (dVar 0) (dACons (dVar 1) dANil)))))))
def phi_plus : SpA := phiA2 F_plus
theorem e_plus {y0 y1 : D} {Ex : DErr → Prop} {Q : S → Prop} : phi_plus [y0, y1] Ex Q = wp (F_plus y0 y1) Ex (fun d => Q (.fz d)) := rfl
theorem c_plus {A : Prop} {y0 y1 : D} {Ex : DErr → Prop} {Q : S → Prop} (h : A → wp (F_plus y0 y1) Ex (fun d => Q (.fz d))) : A → phi_plus [y0, y1] Ex Q := h
local macro_rules | `(tactic| walk_at "nm") => `(tactic| (try simp only [wp_ok, wp_ex, wp_bO, wp_bR, wp_cond, wp_noEx, wp_tryB, wp_ctl, ctlP_nx, ctlP_bk, ctlP_rt, Bool.not_true, Bool.not_false, cond_true, cond_false, wpO_map]))
local macro_rules | `(tactic| walk_at "st") => `(tactic| first | (with_reducible exact id) | (with_reducible exact fun h => h.elim) | (with_reducible exact fun h => h _) | (with_reducible refine st_condT ?_; walk_at "st") | (with_reducible refine st_condF ?_; walk_at "st") | (with_reducible refine wpO_imp (fun d => ?_); walk_at "st") | (with_reducible refine cond_imp ?_ ?_ <;> walk_at "st") | (with_reducible refine st_var (by with_unfolding_all exact rfl) ?_; walk_at "st") | (with_reducible refine st_atO (by with_unfolding_all exact rfl) ?_; walk_at "st") | (with_reducible refine st_seq ?_; walk_at "st") | (with_reducible refine st_then ?_; (try dsimp only [ps_0, ps_s, stW]); walk_at "st") | (with_reducible refine st_thenR ?_; walk_at "st") | (with_reducible refine st_thenX ?_; walk_at "st") | (with_reducible refine st_thenB ?_; walk_at "st") | (with_reducible refine st_thenC ?_; walk_at "st") | (with_reducible refine st_set ?_; walk_at "st") | (with_reducible refine st_ret ?_; walk_at "st") | (with_reducible refine st_ifS ?_; walk_at "st") | (with_reducible refine st_nx ?_; walk_at "st") | (with_reducible refine st_endA ?_; walk_at "st") | (with_reducible refine st_endR ?_; walk_at "st") | (with_reducible refine st_endX ?_; walk_at "st") | (with_reducible refine st_drop ?_; walk_at "st") | (with_reducible refine st_for ?_; walk_at "st") | (with_reducible refine st_bk ?_; walk_at "st") | (with_reducible refine st_ct ?_; walk_at "st") | (with_reducible refine st_asg ?_; walk_at "st") | (with_reducible refine st_par ?_; walk_at "st") | (with_reducible refine st_retN ?_; walk_at "st") | (with_reducible refine st_no ?_; walk_at "st") | (with_reducible refine st_raise ?_; walk_at "st") | (with_reducible refine st_try ?_; walk_at "st") | (with_reducible refine st_loop ?_; (try dsimp only [ps_0, ps_s, stW]); walk_at "st") | (with_reducible refine st_loopC ?_; (try dsimp only [ps_0, ps_s, stW]); walk_at "st") | (with_reducible refine st_loopB ?_; walk_at "st") | (with_reducible refine st_loopR ?_; walk_at "st") | (with_reducible refine st_loopX ?_; walk_at "st") | ((try dsimp only [ps_0, ps_s]); with_reducible refine st_endB ?_; walk_at "st") | ((try dsimp only [ps_0, ps_s]); with_reducible refine st_endBR ?_; walk_at "st") | ((try dsimp only [ps_0, ps_s]); with_reducible refine st_endBX ?_; walk_at "st") | (with_reducible refine st_tryN ?_; walk_at "st") | (with_reducible refine st_tryR ?_; walk_at "st") | (with_reducible refine st_tryB ?_; walk_at "st") | (with_reducible refine st_tryC ?_; walk_at "st") | (with_reducible refine st_tryX ?_; (try dsimp only [ps_0, ps_s, stW]); walk_at "st") | (with_reducible refine st_suitN ?_; (try dsimp only [ps_0, ps_s, stW]); walk_at "st") | (with_reducible refine st_suitR ?_; walk_at "st") | (with_reducible refine st_suitB ?_; (try dsimp only [ps_0, ps_s, stW]); walk_at "st") | (with_reducible refine st_suitC ?_; (try dsimp only [ps_0, ps_s, stW]); walk_at "st") | (with_reducible refine st_dst ?_; walk_at "st") | (with_reducible refine st_dap ?_; walk_at "st") | (with_reducible refine st_gname ?_; (try dsimp only [ps_0, ps_s, stW]); walk_at "st") | (with_reducible refine st_gT2 ?_; walk_at "st") | (with_reducible refine st_gT3 ?_; walk_at "st") | (with_reducible refine st_c ?_; walk_at "st") | (with_reducible refine st_fz ?_; walk_at "st") | (with_reducible refine st_sDf ?_; walk_at "st") | (with_reducible refine st_sDo ?_; walk_at "st") | (with_reducible refine st_res ?_; walk_at "st") | (with_reducible refine st_tst ?_; walk_at "st") | (with_reducible refine st_op ?_; walk_at "st") | (with_reducible refine st_un ?_; walk_at "st") | (with_reducible refine st_acons ?_; walk_at "st") | (with_reducible refine st_anil ?_; walk_at "st") | (with_reducible refine st_cb ?_; walk_at "st") | (with_reducible refine st_cA ?_; walk_at "st") | (with_reducible refine st_cB ?_; walk_at "st") | (with_reducible refine st_and ?_; walk_at "st") | (with_reducible refine st_or ?_; walk_at "st") | (with_reducible refine st_not ?_; walk_at "st") | (with_reducible refine st_if ?_; walk_at "st") | (with_reducible refine st_andT ?_; walk_at "st") | (with_reducible refine st_orT ?_; walk_at "st") | (with_reducible refine st_notT ?_; walk_at "st") | (with_reducible refine st_tup ?_; walk_at "st") | (with_reducible refine st_lst ?_; walk_at "st") | (with_reducible refine st_lstV ?_; walk_at "st") | (with_reducible refine st_cAD ?_; walk_at "st") | (with_reducible refine st_cV ?_; walk_at "st") | (with_reducible refine st_ix ?_; walk_at "st") | (with_reducible refine st_sl ?_; walk_at "st") | (with_reducible refine st_noP ?_; walk_at "st") | (with_reducible refine st_someP ?_; walk_at "st") | (with_reducible refine st_dic0 ?_; walk_at "st") | (with_reducible refine st_it ?_; walk_at "st") | (with_reducible refine st_itA ?_; walk_at "st") | (with_reducible refine st_yes ?_; walk_at "st") | (with_reducible refine st_lcQ ?_; (try dsimp only [ps_0, ps_s, stW]); walk_at "st") | (with_reducible refine st_lcV ?_; (try dsimp only [ps_0, ps_s, stW]); walk_at "st") | (with_reducible refine st_p1 ?_; walk_at "st") | (with_reducible refine st_p2 ?_; walk_at "st") | (with_reducible refine st_p3 ?_; walk_at "st") | (with_reducible refine st_xf (by with_unfolding_all exact rfl) ?_; walk_at "st") | (with_reducible refine st_xi (by with_unfolding_all exact rfl) ?_; walk_at "st") | (with_reducible refine ctlP_imp (fun b => ?_) (fun b => ?_) (fun b => ?_) <;> walk_at "st") | (with_reducible refine wp_imp (fun e => ?_) (fun d => ?_) <;> walk_at "st") | ((try dsimp only [ps_0, ps_s, stW]); refine sim_map (fun x Q K hK => ?_) _ _ _ (fun ys => ?_); (focus (walk_at "nm"; walk_at "st"; all_goals exact hK _ _ rfl)); ((try simp only [List.nil_append]); walk_at "st")) | ((try dsimp only [ps_0, ps_s, stW]); refine sim_fil (fun x Q P K K0 hK h0 => ?_) _ _ _ (fun ys => ?_); (focus (walk_at "nm"; walk_at "st"; all_goals first | exact hK _ _ rfl | exact h0 _ rfl)); ((try simp only [List.nil_append]); walk_at "st")) | (with_reducible refine st_all fun u => ?_; walk_at "st") | skip)
local macro_rules | `(tactic| walk_at "st") => `(tactic| first | (with_reducible refine c_added ?_; walk_at "st") | (with_reducible refine c_check_fractions ?_; walk_at "st") | fail)
theorem law_plus : ∀ ds Ex Q, ds.length = 2 → phi_plus ds Ex Q → g_plus (endsA Ex Q) (startA 2 ds) := by
  intro ds Ex Q hl
  match ds, hl with
  | [y0, y1], _ =>
    rw [e_plus]
    unfold F_plus g_plus
    walk_at "nm"
    (try dsimp only [startA, startB, pm_c, pm_n, pa_c, pa_n, pr_s, pr_0, pl_c, pl_n, Nat.reduceAdd, Nat.reduceSub])
    walk_at "st"
def F_minus (one other : D) : Res DErr D :=
  bR (F_check_fractions (.nd .lst [one, other])) fun v1 =>
  bR (F_negative other) fun v2 =>
  bR (F_added one v2) fun v3 =>
  .ok v3
def g_minus : DS :=
  (dSeq (dDrop (dcA phi_check_fractions (dACons (dLstV (dACons (dVar 0) (dACons (dVar 1) dANil))) dANil)))
    (dRet (dRes (dFz (dcA phi_added (dACons (dVar 0) (dACons (dFz (dcA phi_negative (dACons (dVar 1) dANil))) dANil)))))))
def phi_minus : SpA := phiA2 F_minus
theorem e_minus {y0 y1 : D} {Ex : DErr → Prop} {Q : S → Prop} : phi_minus [y0, y1] Ex Q = wp (F_minus y0 y1) Ex (fun d => Q (.fz d)) := rfl
theorem c_minus {A : Prop} {y0 y1 : D} {Ex : DErr → Prop} {Q : S → Prop} (h : A → wp (F_minus y0 y1) Ex (fun d => Q (.fz d))) : A → phi_minus [y0, y1] Ex Q := h
local macro_rules | `(tactic| walk_at "nm") => `(tactic| (try simp only [wp_ok, wp_ex, wp_bO, wp_bR, wp_cond, wp_noEx, wp_tryB, wp_ctl, ctlP_nx, ctlP_bk, ctlP_rt, Bool.not_true, Bool.not_false, cond_true, cond_false, wpO_map]))
local macro_rules | `(tactic| walk_at "st") => `(tactic| first | (with_reducible exact id) | (with_reducible exact fun h => h.elim) | (with_reducible exact fun h => h _) | (with_reducible refine st_condT ?_; walk_at "st") | (with_reducible refine st_condF ?_; walk_at "st") | (with_reducible refine wpO_imp (fun d => ?_); walk_at "st") | (with_reducible refine cond_imp ?_ ?_ <;> walk_at "st") | (with_reducible refine st_var (by with_unfolding_all exact rfl) ?_; walk_at "st") | (with_reducible refine st_atO (by with_unfolding_all exact rfl) ?_; walk_at "st") | (with_reducible refine st_seq ?_; walk_at "st") | (with_reducible refine st_then ?_; (try dsimp only [ps_0, ps_s, stW]); walk_at "st") | (with_reducible refine st_thenR ?_; walk_at "st") | (with_reducible refine st_thenX ?_; walk_at "st") | (with_reducible refine st_thenB ?_; walk_at "st") | (with_reducible refine st_thenC ?_; walk_at "st") | (with_reducible refine st_set ?_; walk_at "st") | (with_reducible refine st_ret ?_; walk_at "st") | (with_reducible refine st_ifS ?_; walk_at "st") | (with_reducible refine st_nx ?_; walk_at "st") | (with_reducible refine st_endA ?_; walk_at "st") | (with_reducible refine st_endR ?_; walk_at "st") | (with_reducible refine st_endX ?_; walk_at "st") | (with_reducible refine st_drop ?_; walk_at "st") | (with_reducible refine st_for ?_; walk_at "st") | (with_reducible refine st_bk ?_; walk_at "st") | (with_reducible refine st_ct ?_; walk_at "st") | (with_reducible refine st_asg ?_; walk_at "st") | (with_reducible refine st_par ?_; walk_at "st") | (with_reducible refine st_retN ?_; walk_at "st") | (with_reducible refine st_no ?_; walk_at "st") | (with_reducible refine st_raise ?_; walk_at "st") | (with_reducible refine st_try ?_; walk_at "st") | (with_reducible refine st_loop ?_; (try dsimp only [ps_0, ps_s, stW]); walk_at "st") | (with_reducible refine st_loopC ?_; (try dsimp only [ps_0, ps_s, stW]); walk_at "st") | (with_reducible refine st_loopB ?_; walk_at "st") | (with_reducible refine st_loopR ?_; walk_at "st") | (with_reducible refine st_loopX ?_; walk_at "st") | ((try dsimp only [ps_0, ps_s]); with_reducible refine st_endB ?_; walk_at "st") | ((try dsimp only [ps_0, ps_s]); with_reducible refine st_endBR ?_; walk_at "st") | ((try dsimp only [ps_0, ps_s]); with_reducible refine st_endBX ?_; walk_at "st") | (with_reducible refine st_tryN ?_; walk_at "st") | (with_reducible refine st_tryR ?_; walk_at "st") | (with_reducible refine st_tryB ?_; walk_at "st") | (with_reducible refine st_tryC ?_; walk_at "st") | (with_reducible refine st_tryX ?_; (try dsimp only [ps_0, ps_s, stW]); walk_at "st") | (with_reducible refine st_suitN ?_; (try dsimp only [ps_0, ps_s, stW]); walk_at "st") | (with_reducible refine st_suitR ?_; walk_at "st") | (with_reducible refine st_suitB ?_; (try dsimp only [ps_0, ps_s, stW]); walk_at "st") | (with_reducible refine st_suitC ?_; (try dsimp only [ps_0, ps_s, stW]); walk_at "st") | (with_reducible refine st_dst ?_; walk_at "st") | (with_reducible refine st_dap ?_; walk_at "st") | (with_reducible refine st_gname ?_; (try dsimp only [ps_0, ps_s, stW]); walk_at "st") | (with_reducible refine st_gT2 ?_; walk_at "st") | (with_reducible refine st_gT3 ?_; walk_at "st") | (with_reducible refine st_c ?_; walk_at "st") | (with_reducible refine st_fz ?_; walk_at "st") | (with_reducible refine st_sDf ?_; walk_at "st") | (with_reducible refine st_sDo ?_; walk_at "st") | (with_reducible refine st_res ?_; walk_at "st") | (with_reducible refine st_tst ?_; walk_at "st") | (with_reducible refine st_op ?_; walk_at "st") | (with_reducible refine st_un ?_; walk_at "st") | (with_reducible refine st_acons ?_; walk_at "st") | (with_reducible refine st_anil ?_; walk_at "st") | (with_reducible refine st_cb ?_; walk_at "st") | (with_reducible refine st_cA ?_; walk_at "st") | (with_reducible refine st_cB ?_; walk_at "st") | (with_reducible refine st_and ?_; walk_at "st") | (with_reducible refine st_or ?_; walk_at "st") | (with_reducible refine st_not ?_; walk_at "st") | (with_reducible refine st_if ?_; walk_at "st") | (with_reducible refine st_andT ?_; walk_at "st") | (with_reducible refine st_orT ?_; walk_at "st") | (with_reducible refine st_notT ?_; walk_at "st") | (with_reducible refine st_tup ?_; walk_at "st") | (with_reducible refine st_lst ?_; walk_at "st") | (with_reducible refine st_lstV ?_; walk_at "st") | (with_reducible refine st_cAD ?_; walk_at "st") | (with_reducible refine st_cV ?_; walk_at "st") | (with_reducible refine st_ix ?_; walk_at "st") | (with_reducible refine st_sl ?_; walk_at "st") | (with_reducible refine st_noP ?_; walk_at "st") | (with_reducible refine st_someP ?_; walk_at "st") | (with_reducible refine st_dic0 ?_; walk_at "st") | (with_reducible refine st_it ?_; walk_at "st") | (with_reducible refine st_itA ?_; walk_at "st") | (with_reducible refine st_yes ?_; walk_at "st") | (with_reducible refine st_lcQ ?_; (try dsimp only [ps_0, ps_s, stW]); walk_at "st") | (with_reducible refine st_lcV ?_; (try dsimp only [ps_0, ps_s, stW]); walk_at "st") | (with_reducible refine st_p1 ?_; walk_at "st") | (with_reducible refine st_p2 ?_; walk_at "st") | (with_reducible refine st_p3 ?_; walk_at "st") | (with_reducible refine st_xf (by with_unfolding_all exact rfl) ?_; walk_at "st") | (with_reducible refine st_xi (by with_unfolding_all exact rfl) ?_; walk_at "st") | (with_reducible refine ctlP_imp (fun b => ?_) (fun b => ?_) (fun b => ?_) <;> walk_at "st") | (with_reducible refine wp_imp (fun e => ?_) (fun d => ?_) <;> walk_at "st") | ((try dsimp only [ps_0, ps_s, stW]); refine sim_map (fun x Q K hK => ?_) _ _ _ (fun ys => ?_); (focus (walk_at "nm"; walk_at "st"; all_goals exact hK _ _ rfl)); ((try simp only [List.nil_append]); walk_at "st")) | ((try dsimp only [ps_0, ps_s, stW]); refine sim_fil (fun x Q P K K0 hK h0 => ?_) _ _ _ (fun ys => ?_); (focus (walk_at "nm"; walk_at "st"; all_goals first | exact hK _ _ rfl | exact h0 _ rfl)); ((try simp only [List.nil_append]); walk_at "st")) | (with_reducible refine st_all fun u => ?_; walk_at "st") | skip)
local macro_rules | `(tactic| walk_at "st") => `(tactic| first | (with_reducible refine c_added ?_; walk_at "st") | (with_reducible refine c_negative ?_; walk_at "st") | (with_reducible refine c_check_fractions ?_; walk_at "st") | fail)
theorem law_minus : ∀ ds Ex Q, ds.length = 2 → phi_minus ds Ex Q → g_minus (endsA Ex Q) (startA 2 ds) := by
  intro ds Ex Q hl
  match ds, hl with
  | [y0, y1], _ =>
    rw [e_minus]
    unfold F_minus g_minus
    walk_at "nm"
    (try dsimp only [startA, startB, pm_c, pm_n, pa_c, pa_n, pr_s, pr_0, pl_c, pl_n, Nat.reduceAdd, Nat.reduceSub])
    walk_at "st"
def F_times (one other : D) : Res DErr D :=
  bR (F_check_fractions (.nd .lst [one, other])) fun v1 =>
  bR (F_multiplied one other) fun v2 =>
  .ok v2
def g_times : DS :=
  (dSeq (dDrop (dcA phi_check_fractions (dACons (dLstV (dACons (dVar 0) (dACons (dVar 1) dANil))) dANil)))
    (dRet (dRes (dFz (dcA phi_multiplied (dACons (dVar 0) (dACons (dVar 1) dANil)))))))
def phi_times : SpA := phiA2 F_times
theorem e_times {y0 y1 : D} {Ex : DErr → Prop} {Q : S → Prop} : phi_times [y0, y1] Ex Q = wp (F_times y0 y1) Ex (fun d => Q (.fz d)) := rfl
theorem c_times {A : Prop} {y0 y1 : D} {Ex : DErr → Prop} {Q : S → Prop} (h : A → wp (F_times y0 y1) Ex (fun d => Q (.fz d))) : A → phi_times [y0, y1] Ex Q := h
local macro_rules | `(tactic| walk_at "nm") => `(tactic| (try simp only [wp_ok, wp_ex, wp_bO, wp_bR, wp_cond, wp_noEx, wp_tryB, wp_ctl, ctlP_nx, ctlP_bk, ctlP_rt, Bool.not_true, Bool.not_false, cond_true, cond_false, wpO_map]))
local macro_rules | `(tactic| walk_at "st") => `(tactic| first | (with_reducible exact id) | (with_reducible exact fun h => h.elim) | (with_reducible exact fun h => h _) | (with_reducible refine st_condT ?_; walk_at "st") | (with_reducible refine st_condF ?_; walk_at "st") | (with_reducible refine wpO_imp (fun d => ?_); walk_at "st") | (with_reducible refine cond_imp ?_ ?_ <;> walk_at "st") | (with_reducible refine st_var (by with_unfolding_all exact rfl) ?_; walk_at "st") | (with_reducible refine st_atO (by with_unfolding_all exact rfl) ?_; walk_at "st") | (with_reducible refine st_seq ?_; walk_at "st") | (with_reducible refine st_then ?_; (try dsimp only [ps_0, ps_s, stW]); walk_at "st") | (with_reducible refine st_thenR ?_; walk_at "st") | (with_reducible refine st_thenX ?_; walk_at "st") | (with_reducible refine st_thenB ?_; walk_at "st") | (with_reducible refine st_thenC ?_; walk_at "st") | (with_reducible refine st_set ?_; walk_at "st") | (with_reducible refine st_ret ?_; walk_at "st") | (with_reducible refine st_ifS ?_; walk_at "st") | (with_reducible refine st_nx ?_; walk_at "st") | (with_reducible refine st_endA ?_; walk_at "st") | (with_reducible refine st_endR ?_; walk_at "st") | (with_reducible refine st_endX ?_; walk_at "st") | (with_reducible refine st_drop ?_; walk_at "st") | (with_reducible refine st_for ?_; walk_at "st") | (with_reducible refine st_bk ?_; walk_at "st") | (with_reducible refine st_ct ?_; walk_at "st") | (with_reducible refine st_asg ?_; walk_at "st") | (with_reducible refine st_par ?_; walk_at "st") | (with_reducible refine st_retN ?_; walk_at "st") | (with_reducible refine st_no ?_; walk_at "st") | (with_reducible refine st_raise ?_; walk_at "st") | (with_reducible refine st_try ?_; walk_at "st") | (with_reducible refine st_loop ?_; (try dsimp only [ps_0, ps_s, stW]); walk_at "st") | (with_reducible refine st_loopC ?_; (try dsimp only [ps_0, ps_s, stW]); walk_at "st") | (with_reducible refine st_loopB ?_; walk_at "st") | (with_reducible refine st_loopR ?_; walk_at "st") | (with_reducible refine st_loopX ?_; walk_at "st") | ((try dsimp only [ps_0, ps_s]); with_reducible refine st_endB ?_; walk_at "st") | ((try dsimp only [ps_0, ps_s]); with_reducible refine st_endBR ?_; walk_at "st") | ((try dsimp only [ps_0, ps_s]); with_reducible refine st_endBX ?_; walk_at "st") | (with_reducible refine st_tryN ?_; walk_at "st") | (with_reducible refine st_tryR ?_; walk_at "st") | (with_reducible refine st_tryB ?_; walk_at "st") | (with_reducible refine st_tryC ?_; walk_at "st") | (with_reducible refine st_tryX ?_; (try dsimp only [ps_0, ps_s, stW]); walk_at "st") | (with_reducible refine st_suitN ?_; (try dsimp only [ps_0, ps_s, stW]); walk_at "st") | (with_reducible refine st_suitR ?_; walk_at "st") | (with_reducible refine st_suitB ?_; (try dsimp only [ps_0, ps_s, stW]); walk_at "st") | (with_reducible refine st_suitC ?_; (try dsimp only [ps_0, ps_s, stW]); walk_at "st") | (with_reducible refine st_dst ?_; walk_at "st") | (with_reducible refine st_dap ?_; walk_at "st") | (with_reducible refine st_gname ?_; (try dsimp only [ps_0, ps_s, stW]); walk_at "st") | (with_reducible refine st_gT2 ?_; walk_at "st") | (with_reducible refine st_gT3 ?_; walk_at "st") | (with_reducible refine st_c ?_; walk_at "st") | (with_reducible refine st_fz ?_; walk_at "st") | (with_reducible refine st_sDf ?_; walk_at "st") | (with_reducible refine st_sDo ?_; walk_at "st") | (with_reducible refine st_res ?_; walk_at "st") | (with_reducible refine st_tst ?_; walk_at "st") | (with_reducible refine st_op ?_; walk_at "st") | (with_reducible refine st_un ?_; walk_at "st") | (with_reducible refine st_acons ?_; walk_at "st") | (with_reducible refine st_anil ?_; walk_at "st") | (with_reducible refine st_cb ?_; walk_at "st") | (with_reducible refine st_cA ?_; walk_at "st") | (with_reducible refine st_cB ?_; walk_at "st") | (with_reducible refine st_and ?_; walk_at "st") | (with_reducible refine st_or ?_; walk_at "st") | (with_reducible refine st_not ?_; walk_at "st") | (with_reducible refine st_if ?_; walk_at "st") | (with_reducible refine st_andT ?_; walk_at "st") | (with_reducible refine st_orT ?_; walk_at "st") | (with_reducible refine st_notT ?_; walk_at "st") | (with_reducible refine st_tup ?_; walk_at "st") | (with_reducible refine st_lst ?_; walk_at "st") | (with_reducible refine st_lstV ?_; walk_at "st") | (with_reducible refine st_cAD ?_; walk_at "st") | (with_reducible refine st_cV ?_; walk_at "st") | (with_reducible refine st_ix ?_; walk_at "st") | (with_reducible refine st_sl ?_; walk_at "st") | (with_reducible refine st_noP ?_; walk_at "st") | (with_reducible refine st_someP ?_; walk_at "st") | (with_reducible refine st_dic0 ?_; walk_at "st") | (with_reducible refine st_it ?_; walk_at "st") | (with_reducible refine st_itA ?_; walk_at "st") | (with_reducible refine st_yes ?_; walk_at "st") | (with_reducible refine st_lcQ ?_; (try dsimp only [ps_0, ps_s, stW]); walk_at "st") | (with_reducible refine st_lcV ?_; (try dsimp only [ps_0, ps_s, stW]); walk_at "st") | (with_reducible refine st_p1 ?_; walk_at "st") | (with_reducible refine st_p2 ?_; walk_at "st") | (with_reducible refine st_p3 ?_; walk_at "st") | (with_reducible refine st_xf (by with_unfolding_all exact rfl) ?_; walk_at "st") | (with_reducible refine st_xi (by with_unfolding_all exact rfl) ?_; walk_at "st") | (with_reducible refine ctlP_imp (fun b => ?_) (fun b => ?_) (fun b => ?_) <;> walk_at "st") | (with_reducible refine wp_imp (fun e => ?_) (fun d => ?_) <;> walk_at "st") | ((try dsimp only [ps_0, ps_s, stW]); refine sim_map (fun x Q K hK => ?_) _ _ _ (fun ys => ?_); (focus (walk_at "nm"; walk_at "st"; all_goals exact hK _ _ rfl)); ((try simp only [List.nil_append]); walk_at "st")) | ((try dsimp only [ps_0, ps_s, stW]); refine sim_fil (fun x Q P K K0 hK h0 => ?_) _ _ _ (fun ys => ?_); (focus (walk_at "nm"; walk_at "st"; all_goals first | exact hK _ _ rfl | exact h0 _ rfl)); ((try simp only [List.nil_append]); walk_at "st")) | (with_reducible refine st_all fun u => ?_; walk_at "st") | skip)
local macro_rules | `(tactic| walk_at "st") => `(tactic| first | (with_reducible refine c_multiplied ?_; walk_at "st") | (with_reducible refine c_check_fractions ?_; walk_at "st") | fail)
theorem law_times : ∀ ds Ex Q, ds.length = 2 → phi_times ds Ex Q → g_times (endsA Ex Q) (startA 2 ds) := by
  intro ds Ex Q hl
  match ds, hl with
  | [y0, y1], _ =>
    rw [e_times]
    unfold F_times g_times
    walk_at "nm"
    (try dsimp only [startA, startB, pm_c, pm_n, pa_c, pa_n, pr_s, pr_0, pl_c, pl_n, Nat.reduceAdd, Nat.reduceSub])
    walk_at "st"
def F_over (one other : D) : Res DErr D :=
  bR (F_check_fractions (.nd .lst [one, other])) fun v1 =>
  bO (qEq other (.nd .tup [(.int 0), (.int 1)])) fun v2 =>
  bO (qBl v2) fun b3 =>
  cond b3
  (.ex ⟨0, other⟩)
  (bR (F_divided one other) fun v4 =>
  .ok v4)
def g_over : DS :=
  (dSeq (dDrop (dcA phi_check_fractions (dACons (dLstV (dACons (dVar 0) (dACons (dVar 1) dANil))) dANil)))
    (dSeq (dIfS (dTst (dOp (w2 qEq) (dVar 1) (dC (.nd .tup [(.int 0), (.int 1)])))) (dRaise 0 (dVar 1)) dNx)
    (dRet (dRes (dFz (dcA phi_divided (dACons (dVar 0) (dACons (dVar 1) dANil))))))))
def phi_over : SpA := phiA2 F_over
theorem e_over {y0 y1 : D} {Ex : DErr → Prop} {Q : S → Prop} : phi_over [y0, y1] Ex Q = wp (F_over y0 y1) Ex (fun d => Q (.fz d)) := rfl
theorem c_over {A : Prop} {y0 y1 : D} {Ex : DErr → Prop} {Q : S → Prop} (h : A → wp (F_over y0 y1) Ex (fun d => Q (.fz d))) : A → phi_over [y0, y1] Ex Q := h
local macro_rules | `(tactic| walk_at "nm") => `(tactic| (try simp only [wp_ok, wp_ex, wp_bO, wp_bR, wp_cond, wp_noEx, wp_tryB, wp_ctl, ctlP_nx, ctlP_bk, ctlP_rt, Bool.not_true, Bool.not_false, cond_true, cond_false, wpO_map]))
local macro_rules | `(tactic| walk_at "st") => `(tactic| first | (with_reducible exact id) | (with_reducible exact fun h => h.elim) | (with_reducible exact fun h => h _) | (with_reducible refine st_condT ?_; walk_at "st") | (with_reducible refine st_condF ?_; walk_at "st") | (with_reducible refine wpO_imp (fun d => ?_); walk_at "st") | (with_reducible refine cond_imp ?_ ?_ <;> walk_at "st") | (with_reducible refine st_var (by with_unfolding_all exact rfl) ?_; walk_at "st") | (with_reducible refine st_atO (by with_unfolding_all exact rfl) ?_; walk_at "st") | (with_reducible refine st_seq ?_; walk_at "st") | (with_reducible refine st_then ?_; (try dsimp only [ps_0, ps_s, stW]); walk_at "st") | (with_reducible refine st_thenR ?_; walk_at "st") | (with_reducible refine st_thenX ?_; walk_at "st") | (with_reducible refine st_thenB ?_; walk_at "st") | (with_reducible refine st_thenC ?_; walk_at "st") | (with_reducible refine st_set ?_; walk_at "st") | (with_reducible refine st_ret ?_; walk_at "st") | (with_reducible refine st_ifS ?_; walk_at "st") | (with_reducible refine st_nx ?_; walk_at "st") | (with_reducible refine st_endA ?_; walk_at "st") | (with_reducible refine st_endR ?_; walk_at "st") | (with_reducible refine st_endX ?_; walk_at "st") | (with_reducible refine st_drop ?_; walk_at "st") | (with_reducible refine st_for ?_; walk_at "st") | (with_reducible refine st_bk ?_; walk_at "st") | (with_reducible refine st_ct ?_; walk_at "st") | (with_reducible refine st_asg ?_; walk_at "st") | (with_reducible refine st_par ?_; walk_at "st") | (with_reducible refine st_retN ?_; walk_at "st") | (with_reducible refine st_no ?_; walk_at "st") | (with_reducible refine st_raise ?_; walk_at "st") | (with_reducible refine st_try ?_; walk_at "st") | (with_reducible refine st_loop ?_; (try dsimp only [ps_0, ps_s, stW]); walk_at "st") | (with_reducible refine st_loopC ?_; (try dsimp only [ps_0, ps_s, stW]); walk_at "st") | (with_reducible refine st_loopB ?_; walk_at "st") | (with_reducible refine st_loopR ?_; walk_at "st") | (with_reducible refine st_loopX ?_; walk_at "st") | ((try dsimp only [ps_0, ps_s]); with_reducible refine st_endB ?_; walk_at "st") | ((try dsimp only [ps_0, ps_s]); with_reducible refine st_endBR ?_; walk_at "st") | ((try dsimp only [ps_0, ps_s]); with_reducible refine st_endBX ?_; walk_at "st") | (with_reducible refine st_tryN ?_; walk_at "st") | (with_reducible refine st_tryR ?_; walk_at "st") | (with_reducible refine st_tryB ?_; walk_at "st") | (with_reducible refine st_tryC ?_; walk_at "st") | (with_reducible refine st_tryX ?_; (try dsimp only [ps_0, ps_s, stW]); walk_at "st") | (with_reducible refine st_suitN ?_; (try dsimp only [ps_0, ps_s, stW]); walk_at "st") | (with_reducible refine st_suitR ?_; walk_at "st") | (with_reducible refine st_suitB ?_; (try dsimp only [ps_0, ps_s, stW]); walk_at "st") | (with_reducible refine st_suitC ?_; (try dsimp only [ps_0, ps_s, stW]); walk_at "st") | (with_reducible refine st_dst ?_; walk_at "st") | (with_reducible refine st_dap ?_; walk_at "st") | (with_reducible refine st_gname ?_; (try dsimp only [ps_0, ps_s, stW]); walk_at "st") | (with_reducible refine st_gT2 ?_; walk_at "st") | (with_reducible refine st_gT3 ?_; walk_at "st") | (with_reducible refine st_c ?_; walk_at "st") | (with_reducible refine st_fz ?_; walk_at "st") | (with_reducible refine st_sDf ?_; walk_at "st") | (with_reducible refine st_sDo ?_; walk_at "st") | (with_reducible refine st_res ?_; walk_at "st") | (with_reducible refine st_tst ?_; walk_at "st") | (with_reducible refine st_op ?_; walk_at "st") | (with_reducible refine st_un ?_; walk_at "st") | (with_reducible refine st_acons ?_; walk_at "st") | (with_reducible refine st_anil ?_; walk_at "st") | (with_reducible refine st_cb ?_; walk_at "st") | (with_reducible refine st_cA ?_; walk_at "st") | (with_reducible refine st_cB ?_; walk_at "st") | (with_reducible refine st_and ?_; walk_at "st") | (with_reducible refine st_or ?_; walk_at "st") | (with_reducible refine st_not ?_; walk_at "st") | (with_reducible refine st_if ?_; walk_at "st") | (with_reducible refine st_andT ?_; walk_at "st") | (with_reducible refine st_orT ?_; walk_at "st") | (with_reducible refine st_notT ?_; walk_at "st") | (with_reducible refine st_tup ?_; walk_at "st") | (with_reducible refine st_lst ?_; walk_at "st") | (with_reducible refine st_lstV ?_; walk_at "st") | (with_reducible refine st_cAD ?_; walk_at "st") | (with_reducible refine st_cV ?_; walk_at "st") | (with_reducible refine st_ix ?_; walk_at "st") | (with_reducible refine st_sl ?_; walk_at "st") | (with_reducible refine st_noP ?_; walk_at "st") | (with_reducible refine st_someP ?_; walk_at "st") | (with_reducible refine st_dic0 ?_; walk_at "st") | (with_reducible refine st_it ?_; walk_at "st") | (with_reducible refine st_itA ?_; walk_at "st") | (with_reducible refine st_yes ?_; walk_at "st") | (with_reducible refine st_lcQ ?_; (try dsimp only [ps_0, ps_s, stW]); walk_at "st") | (with_reducible refine st_lcV ?_; (try dsimp only [ps_0, ps_s, stW]); walk_at "st") | (with_reducible refine st_p1 ?_; walk_at "st") | (with_reducible refine st_p2 ?_; walk_at "st") | (with_reducible refine st_p3 ?_; walk_at "st") | (with_reducible refine st_xf (by with_unfolding_all exact rfl) ?_; walk_at "st") | (with_reducible refine st_xi (by with_unfolding_all exact rfl) ?_; walk_at "st") | (with_reducible refine ctlP_imp (fun b => ?_) (fun b => ?_) (fun b => ?_) <;> walk_at "st") | (with_reducible refine wp_imp (fun e => ?_) (fun d => ?_) <;> walk_at "st") | ((try dsimp only [ps_0, ps_s, stW]); refine sim_map (fun x Q K hK => ?_) _ _ _ (fun ys => ?_); (focus (walk_at "nm"; walk_at "st"; all_goals exact hK _ _ rfl)); ((try simp only [List.nil_append]); walk_at "st")) | ((try dsimp only [ps_0, ps_s, stW]); refine sim_fil (fun x Q P K K0 hK h0 => ?_) _ _ _ (fun ys => ?_); (focus (walk_at "nm"; walk_at "st"; all_goals first | exact hK _ _ rfl | exact h0 _ rfl)); ((try simp only [List.nil_append]); walk_at "st")) | (with_reducible refine st_all fun u => ?_; walk_at "st") | skip)
local macro_rules | `(tactic| walk_at "st") => `(tactic| first | (with_reducible refine c_divided ?_; walk_at "st") | (with_reducible refine c_check_fractions ?_; walk_at "st") | fail)
theorem law_over : ∀ ds Ex Q, ds.length = 2 → phi_over ds Ex Q → g_over (endsA Ex Q) (startA 2 ds) := by
  intro ds Ex Q hl
  match ds, hl with
  | [y0, y1], _ =>
    rw [e_over]
    unfold F_over g_over
    walk_at "nm"
    (try dsimp only [startA, startB, pm_c, pm_n, pa_c, pa_n, pr_s, pr_0, pl_c, pl_n, Nat.reduceAdd, Nat.reduceSub])
    walk_at "st"
def F_compare (one other : D) : Res DErr D :=
  bR (F_check_fractions (.nd .lst [one, other])) fun v1 =>
  bR (bO (qEq one other) fun v3 =>
  bO (qBl v3) fun b4 =>
  cond b4 (.ok (.int 0)) (bR (bR (F_is_less one other) fun v6 =>
  bO (qBl v6) fun b7 =>
  cond b7 (bO (qNeg (.int 1)) fun v8 =>
  .ok v8) (.ok (.int 1))) fun v5 =>
  .ok v5)) fun v2 =>
  .ok v2
def g_compare : DS :=
  (dSeq (dDrop (dcA phi_check_fractions (dACons (dLstV (dACons (dVar 0) (dACons (dVar 1) dANil))) dANil)))
    (dRet (dRes (dIf (dTst (dOp (w2 qEq) (dVar 0) (dVar 1))) (dC (.int 0)) (dIf (dTst (dFz (dcA phi_is_less (dACons (dVar 0) (dACons (dVar 1) dANil))))) (dUn (w1 qNeg) (dC (.int 1))) (dC (.int 1)))))))
def phi_compare : SpA := phiA2 F_compare
theorem e_compare {y0 y1 : D} {Ex : DErr → Prop} {Q : S → Prop} : phi_compare [y0, y1] Ex Q = wp (F_compare y0 y1) Ex (fun d => Q (.fz d)) := rfl
theorem c_compare {A : Prop} {y0 y1 : D} {Ex : DErr → Prop} {Q : S → Prop} (h : A → wp (F_compare y0 y1) Ex (fun d => Q (.fz d))) : A → phi_compare [y0, y1] Ex Q := h
local macro_rules | `(tactic| walk_at "nm") => `(tactic| (try simp only [wp_ok, wp_ex, wp_bO, wp_bR, wp_cond, wp_noEx, wp_tryB, wp_ctl, ctlP_nx, ctlP_bk, ctlP_rt, Bool.not_true, Bool.not_false, cond_true, cond_false, wpO_map]))
local macro_rules | `(tactic| walk_at "st") => `(tactic| first | (with_reducible exact id) | (with_reducible exact fun h => h.elim) | (with_reducible exact fun h => h _) | (with_reducible refine st_condT ?_; walk_at "st") | (with_reducible refine st_condF ?_; walk_at "st") | (with_reducible refine wpO_imp (fun d => ?_); walk_at "st") | (with_reducible refine cond_imp ?_ ?_ <;> walk_at "st") | (with_reducible refine st_var (by with_unfolding_all exact rfl) ?_; walk_at "st") | (with_reducible refine st_atO (by with_unfolding_all exact rfl) ?_; walk_at "st") | (with_reducible refine st_seq ?_; walk_at "st") | (with_reducible refine st_then ?_; (try dsimp only [ps_0, ps_s, stW]); walk_at "st") | (with_reducible refine st_thenR ?_; walk_at "st") | (with_reducible refine st_thenX ?_; walk_at "st") | (with_reducible refine st_thenB ?_; walk_at "st") | (with_reducible refine st_thenC ?_; walk_at "st") | (with_reducible refine st_set ?_; walk_at "st") | (with_reducible refine st_ret ?_; walk_at "st") | (with_reducible refine st_ifS ?_; walk_at "st") | (with_reducible refine st_nx ?_; walk_at "st") | (with_reducible refine st_endA ?_; walk_at "st") | (with_reducible refine st_endR ?_; walk_at "st") | (with_reducible refine st_endX ?_; walk_at "st") | (with_reducible refine st_drop ?_; walk_at "st") | (with_reducible refine st_for ?_; walk_at "st") | (with_reducible refine st_bk ?_; walk_at "st") | (with_reducible refine st_ct ?_; walk_at "st") | (with_reducible refine st_asg ?_; walk_at "st") | (with_reducible refine st_par ?_; walk_at "st") | (with_reducible refine st_retN ?_; walk_at "st") | (with_reducible refine st_no ?_; walk_at "st") | (with_reducible refine st_raise ?_; walk_at "st") | (with_reducible refine st_try ?_; walk_at "st") | (with_reducible refine st_loop ?_; (try dsimp only [ps_0, ps_s, stW]); walk_at "st") | (with_reducible refine st_loopC ?_; (try dsimp only [ps_0, ps_s, stW]); walk_at "st") | (with_reducible refine st_loopB ?_; walk_at "st") | (with_reducible refine st_loopR ?_; walk_at "st") | (with_reducible refine st_loopX ?_; walk_at "st") | ((try dsimp only [ps_0, ps_s]); with_reducible refine st_endB ?_; walk_at "st") | ((try dsimp only [ps_0, ps_s]); with_reducible refine st_endBR ?_; walk_at "st") | ((try dsimp only [ps_0, ps_s]); with_reducible refine st_endBX ?_; walk_at "st") | (with_reducible refine st_tryN ?_; walk_at "st") | (with_reducible refine st_tryR ?_; walk_at "st") | (with_reducible refine st_tryB ?_; walk_at "st") | (with_reducible refine st_tryC ?_; walk_at "st") | (with_reducible refine st_tryX ?_; (try dsimp only [ps_0, ps_s, stW]); walk_at "st") | (with_reducible refine st_suitN ?_; (try dsimp only [ps_0, ps_s, stW]); walk_at "st") | (with_reducible refine st_suitR ?_; walk_at "st") | (with_reducible refine st_suitB ?_; (try dsimp only [ps_0, ps_s, stW]); walk_at "st") | (with_reducible refine st_suitC ?_; (try dsimp only [ps_0, ps_s, stW]); walk_at "st") | (with_reducible refine st_dst ?_; walk_at "st") | (with_reducible refine st_dap ?_; walk_at "st") | (with_reducible refine st_gname ?_; (try dsimp only [ps_0, ps_s, stW]); walk_at "st") | (with_reducible refine st_gT2 ?_; walk_at "st") | (with_reducible refine st_gT3 ?_; walk_at "st") | (with_reducible refine st_c ?_; walk_at "st") | (with_reducible refine st_fz ?_; walk_at "st") | (with_reducible refine st_sDf ?_; walk_at "st") | (with_reducible refine st_sDo ?_; walk_at "st") | (with_reducible refine st_res ?_; walk_at "st") | (with_reducible refine st_tst ?_; walk_at "st") | (with_reducible refine st_op ?_; walk_at "st") | (with_reducible refine st_un ?_; walk_at "st") | (with_reducible refine st_acons ?_; walk_at "st") | (with_reducible refine st_anil ?_; walk_at "st") | (with_reducible refine st_cb ?_; walk_at "st") | (with_reducible refine st_cA ?_; walk_at "st") | (with_reducible refine st_cB ?_; walk_at "st") | (with_reducible refine st_and ?_; walk_at "st") | (with_reducible refine st_or ?_; walk_at "st") | (with_reducible refine st_not ?_; walk_at "st") | (with_reducible refine st_if ?_; walk_at "st") | (with_reducible refine st_andT ?_; walk_at "st") | (with_reducible refine st_orT ?_; walk_at "st") | (with_reducible refine st_notT ?_; walk_at "st") | (with_reducible refine st_tup ?_; walk_at "st") | (with_reducible refine st_lst ?_; walk_at "st") | (with_reducible refine st_lstV ?_; walk_at "st") | (with_reducible refine st_cAD ?_; walk_at "st") | (with_reducible refine st_cV ?_; walk_at "st") | (with_reducible refine st_ix ?_; walk_at "st") | (with_reducible refine st_sl ?_; walk_at "st") | (with_reducible refine st_noP ?_; walk_at "st") | (with_reducible refine st_someP ?_; walk_at "st") | (with_reducible refine st_dic0 ?_; walk_at "st") | (with_reducible refine st_it ?_; walk_at "st") | (with_reducible refine st_itA ?_; walk_at "st") | (with_reducible refine st_yes ?_; walk_at "st") | (with_reducible refine st_lcQ ?_; (try dsimp only [ps_0, ps_s, stW]); walk_at "st") | (with_reducible refine st_lcV ?_; (try dsimp only [ps_0, ps_s, stW]); walk_at "st") | (with_reducible refine st_p1 ?_; walk_at "st") | (with_reducible refine st_p2 ?_; walk_at "st") | (with_reducible refine st_p3 ?_; walk_at "st") | (with_reducible refine st_xf (by with_unfolding_all exact rfl) ?_; walk_at "st") | (with_reducible refine st_xi (by with_unfolding_all exact rfl) ?_; walk_at "st") | (with_reducible refine ctlP_imp (fun b => ?_) (fun b => ?_) (fun b => ?_) <;> walk_at "st") | (with_reducible refine wp_imp (fun e => ?_) (fun d => ?_) <;> walk_at "st") | ((try dsimp only [ps_0, ps_s, stW]); refine sim_map (fun x Q K hK => ?_) _ _ _ (fun ys => ?_); (focus (walk_at "nm"; walk_at "st"; all_goals exact hK _ _ rfl)); ((try simp only [List.nil_append]); walk_at "st")) | ((try dsimp only [ps_0, ps_s, stW]); refine sim_fil (fun x Q P K K0 hK h0 => ?_) _ _ _ (fun ys => ?_); (focus (walk_at "nm"; walk_at "st"; all_goals first | exact hK _ _ rfl | exact h0 _ rfl)); ((try simp only [List.nil_append]); walk_at "st")) | (with_reducible refine st_all fun u => ?_; walk_at "st") | skip)
local macro_rules | `(tactic| walk_at "st") => `(tactic| first | (with_reducible refine c_is_less ?_; walk_at "st") | (with_reducible refine c_check_fractions ?_; walk_at "st") | fail)
theorem law_compare : ∀ ds Ex Q, ds.length = 2 → phi_compare ds Ex Q → g_compare (endsA Ex Q) (startA 2 ds) := by
  intro ds Ex Q hl
  match ds, hl with
  | [y0, y1], _ =>
    rw [e_compare]
    unfold F_compare g_compare
    walk_at "nm"
    (try dsimp only [startA, startB, pm_c, pm_n, pa_c, pa_n, pr_s, pr_0, pl_c, pl_n, Nat.reduceAdd, Nat.reduceSub])
    walk_at "st"
def F__law_pool (_law_script _law_k : D) : Res DErr D :=
  bO (qInt (.int 63)) fun i1 =>
  bO (qSl _law_script none (some i1)) fun v2 =>
  bO (qSum [v2]) fun v3 =>
  bO (qMul (.int 11) v3) fun v4 =>
  bO (qAdd v4 _law_k) fun v5 =>
  bO (qLen1 [_law_script]) fun v6 =>
  bO (qLt _law_k v6) fun v7 =>
  bO (qBl v7) fun b8 =>
  bR (cond b8
  (bO (qIxSeq _law_script _law_k) fun v10 =>
  .ok v10)
  (.ok v5)) fun j9 =>
  bO (qAbs [j9]) fun v11 =>
  bO (qMod v11 (.int 2147483629)) fun v12 =>
  bO (qMul (.int 7919) _law_k) fun v13 =>
  bO (qMul v13 _law_k) fun v14 =>
  bO (qAdd v12 v14) fun v15 =>
  bO (qMul (.int 31) _law_k) fun v16 =>
  bO (qAdd v15 v16) fun v17 =>
  bO (qAdd v17 (.int 17)) fun v18 =>
  bO (qMul v18 (.int 48271)) fun v19 =>
  bO (qMod v19 (.int 2147483647)) fun v20 =>
  bO (qPow (.int 10) (.int 18)) fun v21 =>
  bO (qGe v11 v21) fun v22 =>
  bO (qInt1 [v22]) fun v23 =>
  bO (qMul v11 v23) fun v24 =>
  bO (qMul v20 v20) fun v25 =>
  bO (qMod v25 (.int 2147483629)) fun v26 =>
  .ok (.nd .lst [v24, v26])
def g__law_pool : DS :=
  (dSeq (dSet 2 (dRes (dOp (w2 qAdd) (dOp (w2 qMul) (dC (.int 11)) (dCB (wL qSum) (dACons (dSlV (dVar 0) dNoP (dSomeQ (dC (.int 63)))) dANil))) (dVar 1))))
    (dSeq (dIfS (dTst (dOp (w2 qLt) (dVar 1) (dCB (wL qLen1) (dACons (dVar 0) dANil)))) (dSet 2 (dRes (dOp (w2 qIxSeq) (dVar 0) (dVar 1)))) dNx)
    (dSeq (dSet 3 (dRes (dCB (wL qAbs) (dACons (dVar 2) dANil))))
    (dSeq (dSet 4 (dRes (dOp (w2 qMod) (dOp (w2 qMul) (dOp (w2 qAdd) (dOp (w2 qAdd) (dOp (w2 qAdd) (dOp (w2 qMod) (dVar 3) (dC (.int 2147483629))) (dOp (w2 qMul) (dOp (w2 qMul) (dC (.int 7919)) (dVar 1)) (dVar 1))) (dOp (w2 qMul) (dC (.int 31)) (dVar 1))) (dC (.int 17))) (dC (.int 48271))) (dC (.int 2147483647)))))
    (dRet (dLst (dACons (dOp (w2 qMul) (dVar 3) (dCB (wL qInt1) (dACons (dOp (w2 qGe) (dVar 3) (dOp (w2 qPow) (dC (.int 10)) (dC (.int 18)))) dANil))) (dACons (dOp (w2 qMod) (dOp (w2 qMul) (dVar 4) (dVar 4)) (dC (.int 2147483629))) dANil))))))))
def phi__law_pool : SpA := fun ds Ex Q => match ds with
  | [y0, y1] => wp (F__law_pool y0 y1) Ex (fun d => ∀ a, Q (.ow a true d))
  | _ => False
theorem e__law_pool {y0 y1 : D} {Ex : DErr → Prop} {Q : S → Prop} : phi__law_pool [y0, y1] Ex Q = wp (F__law_pool y0 y1) Ex (fun d => ∀ a, Q (.ow a true d)) := rfl
theorem c__law_pool {A : Prop} {y0 y1 : D} {Ex : DErr → Prop} {Q : S → Prop} (h : A → wp (F__law_pool y0 y1) Ex (fun d => ∀ a, Q (.ow a true d))) : A → phi__law_pool [y0, y1] Ex Q := h
local macro_rules | `(tactic| walk_at "nm") => `(tactic| (try simp only [wp_ok, wp_ex, wp_bO, wp_bR, wp_cond, wp_noEx, wp_tryB, wp_ctl, ctlP_nx, ctlP_bk, ctlP_rt, Bool.not_true, Bool.not_false, cond_true, cond_false, wpO_map]))
local macro_rules | `(tactic| walk_at "st") => `(tactic| first | (with_reducible exact id) | (with_reducible exact fun h => h.elim) | (with_reducible exact fun h => h _) | (with_reducible refine st_condT ?_; walk_at "st") | (with_reducible refine st_condF ?_; walk_at "st") | (with_reducible refine wpO_imp (fun d => ?_); walk_at "st") | (with_reducible refine cond_imp ?_ ?_ <;> walk_at "st") | (with_reducible refine st_var (by with_unfolding_all exact rfl) ?_; walk_at "st") | (with_reducible refine st_atO (by with_unfolding_all exact rfl) ?_; walk_at "st") | (with_reducible refine st_seq ?_; walk_at "st") | (with_reducible refine st_then ?_; (try dsimp only [ps_0, ps_s, stW]); walk_at "st") | (with_reducible refine st_thenR ?_; walk_at "st") | (with_reducible refine st_thenX ?_; walk_at "st") | (with_reducible refine st_thenB ?_; walk_at "st") | (with_reducible refine st_thenC ?_; walk_at "st") | (with_reducible refine st_set ?_; walk_at "st") | (with_reducible refine st_ret ?_; walk_at "st") | (with_reducible refine st_ifS ?_; walk_at "st") | (with_reducible refine st_nx ?_; walk_at "st") | (with_reducible refine st_endA ?_; walk_at "st") | (with_reducible refine st_endR ?_; walk_at "st") | (with_reducible refine st_endX ?_; walk_at "st") | (with_reducible refine st_drop ?_; walk_at "st") | (with_reducible refine st_for ?_; walk_at "st") | (with_reducible refine st_bk ?_; walk_at "st") | (with_reducible refine st_ct ?_; walk_at "st") | (with_reducible refine st_asg ?_; walk_at "st") | (with_reducible refine st_par ?_; walk_at "st") | (with_reducible refine st_retN ?_; walk_at "st") | (with_reducible refine st_no ?_; walk_at "st") | (with_reducible refine st_raise ?_; walk_at "st") | (with_reducible refine st_try ?_; walk_at "st") | (with_reducible refine st_loop ?_; (try dsimp only [ps_0, ps_s, stW]); walk_at "st") | (with_reducible refine st_loopC ?_; (try dsimp only [ps_0, ps_s, stW]); walk_at "st") | (with_reducible refine st_loopB ?_; walk_at "st") | (with_reducible refine st_loopR ?_; walk_at "st") | (with_reducible refine st_loopX ?_; walk_at "st") | ((try dsimp only [ps_0, ps_s]); with_reducible refine st_endB ?_; walk_at "st") | ((try dsimp only [ps_0, ps_s]); with_reducible refine st_endBR ?_; walk_at "st") | ((try dsimp only [ps_0, ps_s]); with_reducible refine st_endBX ?_; walk_at "st") | (with_reducible refine st_tryN ?_; walk_at "st") | (with_reducible refine st_tryR ?_; walk_at "st") | (with_reducible refine st_tryB ?_; walk_at "st") | (with_reducible refine st_tryC ?_; walk_at "st") | (with_reducible refine st_tryX ?_; (try dsimp only [ps_0, ps_s, stW]); walk_at "st") | (with_reducible refine st_suitN ?_; (try dsimp only [ps_0, ps_s, stW]); walk_at "st") | (with_reducible refine st_suitR ?_; walk_at "st") | (with_reducible refine st_suitB ?_; (try dsimp only [ps_0, ps_s, stW]); walk_at "st") | (with_reducible refine st_suitC ?_; (try dsimp only [ps_0, ps_s, stW]); walk_at "st") | (with_reducible refine st_dst ?_; walk_at "st") | (with_reducible refine st_dap ?_; walk_at "st") | (with_reducible refine st_gname ?_; (try dsimp only [ps_0, ps_s, stW]); walk_at "st") | (with_reducible refine st_gT2 ?_; walk_at "st") | (with_reducible refine st_gT3 ?_; walk_at "st") | (with_reducible refine st_c ?_; walk_at "st") | (with_reducible refine st_fz ?_; walk_at "st") | (with_reducible refine st_sDf ?_; walk_at "st") | (with_reducible refine st_sDo ?_; walk_at "st") | (with_reducible refine st_res ?_; walk_at "st") | (with_reducible refine st_tst ?_; walk_at "st") | (with_reducible refine st_op ?_; walk_at "st") | (with_reducible refine st_un ?_; walk_at "st") | (with_reducible refine st_acons ?_; walk_at "st") | (with_reducible refine st_anil ?_; walk_at "st") | (with_reducible refine st_cb ?_; walk_at "st") | (with_reducible refine st_cA ?_; walk_at "st") | (with_reducible refine st_cB ?_; walk_at "st") | (with_reducible refine st_and ?_; walk_at "st") | (with_reducible refine st_or ?_; walk_at "st") | (with_reducible refine st_not ?_; walk_at "st") | (with_reducible refine st_if ?_; walk_at "st") | (with_reducible refine st_andT ?_; walk_at "st") | (with_reducible refine st_orT ?_; walk_at "st") | (with_reducible refine st_notT ?_; walk_at "st") | (with_reducible refine st_tup ?_; walk_at "st") | (with_reducible refine st_lst ?_; walk_at "st") | (with_reducible refine st_lstV ?_; walk_at "st") | (with_reducible refine st_cAD ?_; walk_at "st") | (with_reducible refine st_cV ?_; walk_at "st") | (with_reducible refine st_ix ?_; walk_at "st") | (with_reducible refine st_sl ?_; walk_at "st") | (with_reducible refine st_noP ?_; walk_at "st") | (with_reducible refine st_someP ?_; walk_at "st") | (with_reducible refine st_dic0 ?_; walk_at "st") | (with_reducible refine st_it ?_; walk_at "st") | (with_reducible refine st_itA ?_; walk_at "st") | (with_reducible refine st_yes ?_; walk_at "st") | (with_reducible refine st_lcQ ?_; (try dsimp only [ps_0, ps_s, stW]); walk_at "st") | (with_reducible refine st_lcV ?_; (try dsimp only [ps_0, ps_s, stW]); walk_at "st") | (with_reducible refine st_p1 ?_; walk_at "st") | (with_reducible refine st_p2 ?_; walk_at "st") | (with_reducible refine st_p3 ?_; walk_at "st") | (with_reducible refine st_xf (by with_unfolding_all exact rfl) ?_; walk_at "st") | (with_reducible refine st_xi (by with_unfolding_all exact rfl) ?_; walk_at "st") | (with_reducible refine ctlP_imp (fun b => ?_) (fun b => ?_) (fun b => ?_) <;> walk_at "st") | (with_reducible refine wp_imp (fun e => ?_) (fun d => ?_) <;> walk_at "st") | ((try dsimp only [ps_0, ps_s, stW]); refine sim_map (fun x Q K hK => ?_) _ _ _ (fun ys => ?_); (focus (walk_at "nm"; walk_at "st"; all_goals exact hK _ _ rfl)); ((try simp only [List.nil_append]); walk_at "st")) | ((try dsimp only [ps_0, ps_s, stW]); refine sim_fil (fun x Q P K K0 hK h0 => ?_) _ _ _ (fun ys => ?_); (focus (walk_at "nm"; walk_at "st"; all_goals first | exact hK _ _ rfl | exact h0 _ rfl)); ((try simp only [List.nil_append]); walk_at "st")) | (with_reducible refine st_all fun u => ?_; walk_at "st") | skip)
theorem law__law_pool : ∀ ds Ex Q, ds.length = 2 → phi__law_pool ds Ex Q → g__law_pool (endsA Ex Q) (startA 5 ds) := by
  intro ds Ex Q hl
  match ds, hl with
  | [y0, y1], _ =>
    rw [e__law_pool]
    unfold F__law_pool g__law_pool
    walk_at "nm"
    (try dsimp only [startA, startB, pm_c, pm_n, pa_c, pa_n, pr_s, pr_0, pl_c, pl_n, Nat.reduceAdd, Nat.reduceSub])
    walk_at "st"
def F__law_draw (_law_pool_here _law_many : D) : Res DErr (D × D) :=
  bO (qIxL _law_pool_here (.int 0)) fun v1 =>
  bO (qGt v1 (.int 0)) fun v2 =>
  bO (qBl v2) fun b3 =>
  cond b3
  (bO (qIxL _law_pool_here (.int 0)) fun v4 =>
  bO (qMod v4 _law_many) fun v5 =>
  bO (qIxL _law_pool_here (.int 0)) fun v6 =>
  bO (qDiv v6 _law_many) fun v7 =>
  bO (qSetL _law_pool_here (.int 0) v7) fun o8 =>
  .ok (v5, o8))
  (bO (qIxL _law_pool_here (.int 1)) fun v9 =>
  bO (qMul v9 (.int 48271)) fun v10 =>
  bO (qAdd v10 (.int 11)) fun v11 =>
  bO (qMod v11 (.int 2147483647)) fun v12 =>
  bO (qSetL _law_pool_here (.int 1) v12) fun o13 =>
  bO (qIxL o13 (.int 1)) fun v14 =>
  bO (qIxL o13 (.int 1)) fun v15 =>
  bO (qMul v14 v15) fun v16 =>
  bO (qMod v16 (.int 2147483629)) fun v17 =>
  bO (qDiv v17 (.int 16)) fun v18 =>
  bO (qMod v18 _law_many) fun v19 =>
  .ok (v19, o13))
def g__law_draw : DS :=
  (dSeq (dIfS (dTst (dOp (w2 qGt) (dix 0 (dC (.int 0))) (dC (.int 0)))) (dSeq (dSet 2 (dRes (dOp (w2 qMod) (dix 0 (dC (.int 0))) (dVar 1))))
    (dSeq (dst 0 (dOp (w2 qDiv) (dix 0 (dC (.int 0))) (dVar 1)) (dC (.int 0)))
    (dRet (dRes (dVar 2))))) dNx)
    (dSeq (dst 0 (dOp (w2 qMod) (dOp (w2 qAdd) (dOp (w2 qMul) (dix 0 (dC (.int 1))) (dC (.int 48271))) (dC (.int 11))) (dC (.int 2147483647))) (dC (.int 1)))
    (dRet (dRes (dOp (w2 qMod) (dOp (w2 qDiv) (dOp (w2 qMod) (dOp (w2 qMul) (dix 0 (dC (.int 1))) (dix 0 (dC (.int 1)))) (dC (.int 2147483629))) (dC (.int 16))) (dVar 1))))))
def phi__law_draw : SpB := fun d ds Ex Q => match ds with
  | [y1] => wp (F__law_draw d y1) NE (fun r => Q (.fz r.1) r.2)
  | _ => False
theorem e__law_draw {d y1 : D} {Ex : DErr → D → Prop} {Q : S → D → Prop} : phi__law_draw d [y1] Ex Q = wp (F__law_draw d y1) NE (fun r => Q (.fz r.1) r.2) := rfl
theorem c__law_draw {A : Prop} {d y1 : D} {Ex : DErr → D → Prop} {Q : S → D → Prop} (h : A → wp (F__law_draw d y1) NE (fun r => Q (.fz r.1) r.2)) : A → phi__law_draw d [y1] Ex Q := h
local macro_rules | `(tactic| walk_at "nm") => `(tactic| (try simp only [wp_ok, wp_ex, wp_bO, wp_bR, wp_cond, wp_noEx, wp_tryB, wp_ctl, ctlP_nx, ctlP_bk, ctlP_rt, Bool.not_true, Bool.not_false, cond_true, cond_false, wpO_map]))
local macro_rules | `(tactic| walk_at "st") => `(tactic| first | (with_reducible exact id) | (with_reducible exact fun h => h.elim) | (with_reducible exact fun h => h _) | (with_reducible refine st_condT ?_; walk_at "st") | (with_reducible refine st_condF ?_; walk_at "st") | (with_reducible refine wpO_imp (fun d => ?_); walk_at "st") | (with_reducible refine cond_imp ?_ ?_ <;> walk_at "st") | (with_reducible refine st_var (by with_unfolding_all exact rfl) ?_; walk_at "st") | (with_reducible refine st_atO (by with_unfolding_all exact rfl) ?_; walk_at "st") | (with_reducible refine st_seq ?_; walk_at "st") | (with_reducible refine st_then ?_; (try dsimp only [ps_0, ps_s, stW]); walk_at "st") | (with_reducible refine st_thenR ?_; walk_at "st") | (with_reducible refine st_thenX ?_; walk_at "st") | (with_reducible refine st_thenB ?_; walk_at "st") | (with_reducible refine st_thenC ?_; walk_at "st") | (with_reducible refine st_set ?_; walk_at "st") | (with_reducible refine st_ret ?_; walk_at "st") | (with_reducible refine st_ifS ?_; walk_at "st") | (with_reducible refine st_nx ?_; walk_at "st") | (with_reducible refine st_endA ?_; walk_at "st") | (with_reducible refine st_endR ?_; walk_at "st") | (with_reducible refine st_endX ?_; walk_at "st") | (with_reducible refine st_drop ?_; walk_at "st") | (with_reducible refine st_for ?_; walk_at "st") | (with_reducible refine st_bk ?_; walk_at "st") | (with_reducible refine st_ct ?_; walk_at "st") | (with_reducible refine st_asg ?_; walk_at "st") | (with_reducible refine st_par ?_; walk_at "st") | (with_reducible refine st_retN ?_; walk_at "st") | (with_reducible refine st_no ?_; walk_at "st") | (with_reducible refine st_raise ?_; walk_at "st") | (with_reducible refine st_try ?_; walk_at "st") | (with_reducible refine st_loop ?_; (try dsimp only [ps_0, ps_s, stW]); walk_at "st") | (with_reducible refine st_loopC ?_; (try dsimp only [ps_0, ps_s, stW]); walk_at "st") | (with_reducible refine st_loopB ?_; walk_at "st") | (with_reducible refine st_loopR ?_; walk_at "st") | (with_reducible refine st_loopX ?_; walk_at "st") | ((try dsimp only [ps_0, ps_s]); with_reducible refine st_endB ?_; walk_at "st") | ((try dsimp only [ps_0, ps_s]); with_reducible refine st_endBR ?_; walk_at "st") | ((try dsimp only [ps_0, ps_s]); with_reducible refine st_endBX ?_; walk_at "st") | (with_reducible refine st_tryN ?_; walk_at "st") | (with_reducible refine st_tryR ?_; walk_at "st") | (with_reducible refine st_tryB ?_; walk_at "st") | (with_reducible refine st_tryC ?_; walk_at "st") | (with_reducible refine st_tryX ?_; (try dsimp only [ps_0, ps_s, stW]); walk_at "st") | (with_reducible refine st_suitN ?_; (try dsimp only [ps_0, ps_s, stW]); walk_at "st") | (with_reducible refine st_suitR ?_; walk_at "st") | (with_reducible refine st_suitB ?_; (try dsimp only [ps_0, ps_s, stW]); walk_at "st") | (with_reducible refine st_suitC ?_; (try dsimp only [ps_0, ps_s, stW]); walk_at "st") | (with_reducible refine st_dst ?_; walk_at "st") | (with_reducible refine st_dap ?_; walk_at "st") | (with_reducible refine st_gname ?_; (try dsimp only [ps_0, ps_s, stW]); walk_at "st") | (with_reducible refine st_gT2 ?_; walk_at "st") | (with_reducible refine st_gT3 ?_; walk_at "st") | (with_reducible refine st_c ?_; walk_at "st") | (with_reducible refine st_fz ?_; walk_at "st") | (with_reducible refine st_sDf ?_; walk_at "st") | (with_reducible refine st_sDo ?_; walk_at "st") | (with_reducible refine st_res ?_; walk_at "st") | (with_reducible refine st_tst ?_; walk_at "st") | (with_reducible refine st_op ?_; walk_at "st") | (with_reducible refine st_un ?_; walk_at "st") | (with_reducible refine st_acons ?_; walk_at "st") | (with_reducible refine st_anil ?_; walk_at "st") | (with_reducible refine st_cb ?_; walk_at "st") | (with_reducible refine st_cA ?_; walk_at "st") | (with_reducible refine st_cB ?_; walk_at "st") | (with_reducible refine st_and ?_; walk_at "st") | (with_reducible refine st_or ?_; walk_at "st") | (with_reducible refine st_not ?_; walk_at "st") | (with_reducible refine st_if ?_; walk_at "st") | (with_reducible refine st_andT ?_; walk_at "st") | (with_reducible refine st_orT ?_; walk_at "st") | (with_reducible refine st_notT ?_; walk_at "st") | (with_reducible refine st_tup ?_; walk_at "st") | (with_reducible refine st_lst ?_; walk_at "st") | (with_reducible refine st_lstV ?_; walk_at "st") | (with_reducible refine st_cAD ?_; walk_at "st") | (with_reducible refine st_cV ?_; walk_at "st") | (with_reducible refine st_ix ?_; walk_at "st") | (with_reducible refine st_sl ?_; walk_at "st") | (with_reducible refine st_noP ?_; walk_at "st") | (with_reducible refine st_someP ?_; walk_at "st") | (with_reducible refine st_dic0 ?_; walk_at "st") | (with_reducible refine st_it ?_; walk_at "st") | (with_reducible refine st_itA ?_; walk_at "st") | (with_reducible refine st_yes ?_; walk_at "st") | (with_reducible refine st_lcQ ?_; (try dsimp only [ps_0, ps_s, stW]); walk_at "st") | (with_reducible refine st_lcV ?_; (try dsimp only [ps_0, ps_s, stW]); walk_at "st") | (with_reducible refine st_p1 ?_; walk_at "st") | (with_reducible refine st_p2 ?_; walk_at "st") | (with_reducible refine st_p3 ?_; walk_at "st") | (with_reducible refine st_xf (by with_unfolding_all exact rfl) ?_; walk_at "st") | (with_reducible refine st_xi (by with_unfolding_all exact rfl) ?_; walk_at "st") | (with_reducible refine ctlP_imp (fun b => ?_) (fun b => ?_) (fun b => ?_) <;> walk_at "st") | (with_reducible refine wp_imp (fun e => ?_) (fun d => ?_) <;> walk_at "st") | ((try dsimp only [ps_0, ps_s, stW]); refine sim_map (fun x Q K hK => ?_) _ _ _ (fun ys => ?_); (focus (walk_at "nm"; walk_at "st"; all_goals exact hK _ _ rfl)); ((try simp only [List.nil_append]); walk_at "st")) | ((try dsimp only [ps_0, ps_s, stW]); refine sim_fil (fun x Q P K K0 hK h0 => ?_) _ _ _ (fun ys => ?_); (focus (walk_at "nm"; walk_at "st"; all_goals first | exact hK _ _ rfl | exact h0 _ rfl)); ((try simp only [List.nil_append]); walk_at "st")) | (with_reducible refine st_all fun u => ?_; walk_at "st") | skip)
theorem law__law_draw : ∀ a t es ds Ex Q, ds.length + 1 = 2 → phi__law_draw (.nd t es) ds Ex Q → g__law_draw (endsB a Ex Q) (startB 3 a (.nd t es) ds) := by
  intro a t es ds Ex Q hl
  match ds, hl with
  | [y1], _ =>
    generalize (D.nd t es) = d
    rw [e__law_draw]
    unfold F__law_draw g__law_draw
    walk_at "nm"
    (try dsimp only [startA, startB, pm_c, pm_n, pa_c, pa_n, pr_s, pr_0, pl_c, pl_n, Nat.reduceAdd, Nat.reduceSub])
    walk_at "st"
def F__law_gcd_s1 (b : D × D) : Res DErr (Option (D × D)) :=
  bO (qNe b.2 (.int 0)) fun v1 =>
  bO (qBl v1) fun b2 =>
  cond b2
  (bO (qMod b.1 b.2) fun v3 =>
  .ok (some (b.2, v3)))
  (.ok none)
def F__law_gcd (_law_a _law_b : D) : Res DErr D :=
  bR (whR (natD _law_b + 1) (_law_a, _law_b) (F__law_gcd_s1)) fun j4 =>
  bO (qAbs [j4.1]) fun v5 =>
  .ok v5
def g__law_gcd_c1 : DT :=
  (dTst (dOp (w2 qNe) (dVar 1) (dC (.int 0))))
def g__law_gcd_b1 : DS :=
  (dPar 0 1 (dVar 1) (dOp (w2 qMod) (dVar 0) (dVar 1)))
def g__law_gcd : DS :=
  (dSeq (dWh g__law_gcd_c1 g__law_gcd_b1)
    (dRet (dRes (dCB (wL qAbs) (dACons (dVar 0) dANil)))))
def phi__law_gcd : SpA := phiA2 F__law_gcd
theorem e__law_gcd {y0 y1 : D} {Ex : DErr → Prop} {Q : S → Prop} : phi__law_gcd [y0, y1] Ex Q = wp (F__law_gcd y0 y1) Ex (fun d => Q (.fz d)) := rfl
theorem c__law_gcd {A : Prop} {y0 y1 : D} {Ex : DErr → Prop} {Q : S → Prop} (h : A → wp (F__law_gcd y0 y1) Ex (fun d => Q (.fz d))) : A → phi__law_gcd [y0, y1] Ex Q := h
local macro_rules | `(tactic| walk_at "nm") => `(tactic| (try simp only [wp_ok, wp_ex, wp_bO, wp_bR, wp_cond, wp_noEx, wp_tryB, wp_ctl, ctlP_nx, ctlP_bk, ctlP_rt, Bool.not_true, Bool.not_false, cond_true, cond_false, wpO_map]))
local macro_rules | `(tactic| walk_at "st") => `(tactic| first | (with_reducible exact id) | (with_reducible exact fun h => h.elim) | (with_reducible exact fun h => h _) | (with_reducible refine st_condT ?_; walk_at "st") | (with_reducible refine st_condF ?_; walk_at "st") | (with_reducible refine wpO_imp (fun d => ?_); walk_at "st") | (with_reducible refine cond_imp ?_ ?_ <;> walk_at "st") | (with_reducible refine st_var (by with_unfolding_all exact rfl) ?_; walk_at "st") | (with_reducible refine st_atO (by with_unfolding_all exact rfl) ?_; walk_at "st") | (with_reducible refine st_seq ?_; walk_at "st") | (with_reducible refine st_then ?_; (try dsimp only [ps_0, ps_s, stW]); walk_at "st") | (with_reducible refine st_thenR ?_; walk_at "st") | (with_reducible refine st_thenX ?_; walk_at "st") | (with_reducible refine st_thenB ?_; walk_at "st") | (with_reducible refine st_thenC ?_; walk_at "st") | (with_reducible refine st_set ?_; walk_at "st") | (with_reducible refine st_ret ?_; walk_at "st") | (with_reducible refine st_ifS ?_; walk_at "st") | (with_reducible refine st_nx ?_; walk_at "st") | (with_reducible refine st_endA ?_; walk_at "st") | (with_reducible refine st_endR ?_; walk_at "st") | (with_reducible refine st_endX ?_; walk_at "st") | (with_reducible refine st_drop ?_; walk_at "st") | (with_reducible refine st_for ?_; walk_at "st") | (with_reducible refine st_bk ?_; walk_at "st") | (with_reducible refine st_ct ?_; walk_at "st") | (with_reducible refine st_asg ?_; walk_at "st") | (with_reducible refine st_par ?_; walk_at "st") | (with_reducible refine st_retN ?_; walk_at "st") | (with_reducible refine st_no ?_; walk_at "st") | (with_reducible refine st_raise ?_; walk_at "st") | (with_reducible refine st_try ?_; walk_at "st") | (with_reducible refine st_loop ?_; (try dsimp only [ps_0, ps_s, stW]); walk_at "st") | (with_reducible refine st_loopC ?_; (try dsimp only [ps_0, ps_s, stW]); walk_at "st") | (with_reducible refine st_loopB ?_; walk_at "st") | (with_reducible refine st_loopR ?_; walk_at "st") | (with_reducible refine st_loopX ?_; walk_at "st") | ((try dsimp only [ps_0, ps_s]); with_reducible refine st_endB ?_; walk_at "st") | ((try dsimp only [ps_0, ps_s]); with_reducible refine st_endBR ?_; walk_at "st") | ((try dsimp only [ps_0, ps_s]); with_reducible refine st_endBX ?_; walk_at "st") | (with_reducible refine st_tryN ?_; walk_at "st") | (with_reducible refine st_tryR ?_; walk_at "st") | (with_reducible refine st_tryB ?_; walk_at "st") | (with_reducible refine st_tryC ?_; walk_at "st") | (with_reducible refine st_tryX ?_; (try dsimp only [ps_0, ps_s, stW]); walk_at "st") | (with_reducible refine st_suitN ?_; (try dsimp only [ps_0, ps_s, stW]); walk_at "st") | (with_reducible refine st_suitR ?_; walk_at "st") | (with_reducible refine st_suitB ?_; (try dsimp only [ps_0, ps_s, stW]); walk_at "st") | (with_reducible refine st_suitC ?_; (try dsimp only [ps_0, ps_s, stW]); walk_at "st") | (with_reducible refine st_dst ?_; walk_at "st") | (with_reducible refine st_dap ?_; walk_at "st") | (with_reducible refine st_gname ?_; (try dsimp only [ps_0, ps_s, stW]); walk_at "st") | (with_reducible refine st_gT2 ?_; walk_at "st") | (with_reducible refine st_gT3 ?_; walk_at "st") | (with_reducible refine st_c ?_; walk_at "st") | (with_reducible refine st_fz ?_; walk_at "st") | (with_reducible refine st_sDf ?_; walk_at "st") | (with_reducible refine st_sDo ?_; walk_at "st") | (with_reducible refine st_res ?_; walk_at "st") | (with_reducible refine st_tst ?_; walk_at "st") | (with_reducible refine st_op ?_; walk_at "st") | (with_reducible refine st_un ?_; walk_at "st") | (with_reducible refine st_acons ?_; walk_at "st") | (with_reducible refine st_anil ?_; walk_at "st") | (with_reducible refine st_cb ?_; walk_at "st") | (with_reducible refine st_cA ?_; walk_at "st") | (with_reducible refine st_cB ?_; walk_at "st") | (with_reducible refine st_and ?_; walk_at "st") | (with_reducible refine st_or ?_; walk_at "st") | (with_reducible refine st_not ?_; walk_at "st") | (with_reducible refine st_if ?_; walk_at "st") | (with_reducible refine st_andT ?_; walk_at "st") | (with_reducible refine st_orT ?_; walk_at "st") | (with_reducible refine st_notT ?_; walk_at "st") | (with_reducible refine st_tup ?_; walk_at "st") | (with_reducible refine st_lst ?_; walk_at "st") | (with_reducible refine st_lstV ?_; walk_at "st") | (with_reducible refine st_cAD ?_; walk_at "st") | (with_reducible refine st_cV ?_; walk_at "st") | (with_reducible refine st_ix ?_; walk_at "st") | (with_reducible refine st_sl ?_; walk_at "st") | (with_reducible refine st_noP ?_; walk_at "st") | (with_reducible refine st_someP ?_; walk_at "st") | (with_reducible refine st_dic0 ?_; walk_at "st") | (with_reducible refine st_it ?_; walk_at "st") | (with_reducible refine st_itA ?_; walk_at "st") | (with_reducible refine st_yes ?_; walk_at "st") | (with_reducible refine st_lcQ ?_; (try dsimp only [ps_0, ps_s, stW]); walk_at "st") | (with_reducible refine st_lcV ?_; (try dsimp only [ps_0, ps_s, stW]); walk_at "st") | (with_reducible refine st_p1 ?_; walk_at "st") | (with_reducible refine st_p2 ?_; walk_at "st") | (with_reducible refine st_p3 ?_; walk_at "st") | (with_reducible refine st_xf (by with_unfolding_all exact rfl) ?_; walk_at "st") | (with_reducible refine st_xi (by with_unfolding_all exact rfl) ?_; walk_at "st") | (with_reducible refine ctlP_imp (fun b => ?_) (fun b => ?_) (fun b => ?_) <;> walk_at "st") | (with_reducible refine wp_imp (fun e => ?_) (fun d => ?_) <;> walk_at "st") | ((try dsimp only [ps_0, ps_s, stW]); refine sim_map (fun x Q K hK => ?_) _ _ _ (fun ys => ?_); (focus (walk_at "nm"; walk_at "st"; all_goals exact hK _ _ rfl)); ((try simp only [List.nil_append]); walk_at "st")) | ((try dsimp only [ps_0, ps_s, stW]); refine sim_fil (fun x Q P K K0 hK h0 => ?_) _ _ _ (fun ys => ?_); (focus (walk_at "nm"; walk_at "st"; all_goals first | exact hK _ _ rfl | exact h0 _ rfl)); ((try simp only [List.nil_append]); walk_at "st")) | (with_reducible refine st_all fun u => ?_; walk_at "st") | skip)
theorem lp__law_gcd_s1 {K : D × D → Prop} {de : DEnds}   {Ex : DErr → Prop} (hx : ∀ e s, Ex e → de.ex e s) (hd : ∀ (c1 c2 : D) , K (c1, c2) → de.nx [.fz c1, .fz c2]) (n : Nat) (c1 c2 : D)  : wp (whR n (c1, c2) (F__law_gcd_s1)) Ex K → dWhN g__law_gcd_c1 g__law_gcd_b1 n de [.fz c1, .fz c2] := by
  refine sim_while (V := (fun b s =>  s = [.fz b.1, .fz b.2])) ?_ n _ _ rfl
  · rintro b s K' nx rfl hn
    unfold g__law_gcd_c1 g__law_gcd_b1 F__law_gcd_s1
    walk_at "nm"
    walk_at "st"
    all_goals first | exact hn _ _ rfl | exact hx _ _ | exact hd _ _
local macro_rules | `(tactic| walk_at "st") => `(tactic| first | (refine (fun h => dWh_of _ (lp__law_gcd_s1 (fun e s => ?_) (fun u0 u1 => ?_) _ _ _ h)) <;> walk_at "nm" <;> walk_at "st") | fail)
theorem law__law_gcd : ∀ ds Ex Q, ds.length = 2 → phi__law_gcd ds Ex Q → g__law_gcd (endsA Ex Q) (startA 2 ds) := by
  intro ds Ex Q hl
  match ds, hl with
  | [y0, y1], _ =>
    rw [e__law_gcd]
    unfold F__law_gcd g__law_gcd
    walk_at "nm"
    (try dsimp only [startA, startB, pm_c, pm_n, pa_c, pa_n, pr_s, pr_0, pl_c, pl_n, Nat.reduceAdd, Nat.reduceSub])
    walk_at "st"
def F__law_made (_law_numerator _law_denominator : D) : Res DErr D :=
  bR (F__law_gcd _law_numerator _law_denominator) fun v1 =>
  bR (bO (qGt _law_denominator (.int 0)) fun v3 =>
  bO (qBl v3) fun b4 =>
  cond b4 (.ok (.int 1)) (bO (qNeg (.int 1)) fun v5 =>
  .ok v5)) fun v2 =>
  bO (qMul v1 v2) fun v6 =>
  bO (qDiv _law_numerator v6) fun v7 =>
  bO (qDiv _law_denominator v6) fun v8 =>
  .ok (.nd .tup [v7, v8])
def g__law_made : DS :=
  (dSeq (dSet 2 (dRes (dOp (w2 qMul) (dFz (dcA phi__law_gcd (dACons (dVar 0) (dACons (dVar 1) dANil)))) (dIf (dTst (dOp (w2 qGt) (dVar 1) (dC (.int 0)))) (dC (.int 1)) (dUn (w1 qNeg) (dC (.int 1)))))))
    (dRet (dRes (dTup (dACons (dOp (w2 qDiv) (dVar 0) (dVar 2)) (dACons (dOp (w2 qDiv) (dVar 1) (dVar 2)) dANil))))))
def phi__law_made : SpA := phiA2 F__law_made
theorem e__law_made {y0 y1 : D} {Ex : DErr → Prop} {Q : S → Prop} : phi__law_made [y0, y1] Ex Q = wp (F__law_made y0 y1) Ex (fun d => Q (.fz d)) := rfl
theorem c__law_made {A : Prop} {y0 y1 : D} {Ex : DErr → Prop} {Q : S → Prop} (h : A → wp (F__law_made y0 y1) Ex (fun d => Q (.fz d))) : A → phi__law_made [y0, y1] Ex Q := h
local macro_rules | `(tactic| walk_at "nm") => `(tactic| (try simp only [wp_ok, wp_ex, wp_bO, wp_bR, wp_cond, wp_noEx, wp_tryB, wp_ctl, ctlP_nx, ctlP_bk, ctlP_rt, Bool.not_true, Bool.not_false, cond_true, cond_false, wpO_map]))
local macro_rules | `(tactic| walk_at "st") => `(tactic| first | (with_reducible exact id) | (with_reducible exact fun h => h.elim) | (with_reducible exact fun h => h _) | (with_reducible refine st_condT ?_; walk_at "st") | (with_reducible refine st_condF ?_; walk_at "st") | (with_reducible refine wpO_imp (fun d => ?_); walk_at "st") | (with_reducible refine cond_imp ?_ ?_ <;> walk_at "st") | (with_reducible refine st_var (by with_unfolding_all exact rfl) ?_; walk_at "st") | (with_reducible refine st_atO (by with_unfolding_all exact rfl) ?_; walk_at "st") | (with_reducible refine st_seq ?_; walk_at "st") | (with_reducible refine st_then ?_; (try dsimp only [ps_0, ps_s, stW]); walk_at "st") | (with_reducible refine st_thenR ?_; walk_at "st") | (with_reducible refine st_thenX ?_; walk_at "st") | (with_reducible refine st_thenB ?_; walk_at "st") | (with_reducible refine st_thenC ?_; walk_at "st") | (with_reducible refine st_set ?_; walk_at "st") | (with_reducible refine st_ret ?_; walk_at "st") | (with_reducible refine st_ifS ?_; walk_at "st") | (with_reducible refine st_nx ?_; walk_at "st") | (with_reducible refine st_endA ?_; walk_at "st") | (with_reducible refine st_endR ?_; walk_at "st") | (with_reducible refine st_endX ?_; walk_at "st") | (with_reducible refine st_drop ?_; walk_at "st") | (with_reducible refine st_for ?_; walk_at "st") | (with_reducible refine st_bk ?_; walk_at "st") | (with_reducible refine st_ct ?_; walk_at "st") | (with_reducible refine st_asg ?_; walk_at "st") | (with_reducible refine st_par ?_; walk_at "st") | (with_reducible refine st_retN ?_; walk_at "st") | (with_reducible refine st_no ?_; walk_at "st") | (with_reducible refine st_raise ?_; walk_at "st") | (with_reducible refine st_try ?_; walk_at "st") | (with_reducible refine st_loop ?_; (try dsimp only [ps_0, ps_s, stW]); walk_at "st") | (with_reducible refine st_loopC ?_; (try dsimp only [ps_0, ps_s, stW]); walk_at "st") | (with_reducible refine st_loopB ?_; walk_at "st") | (with_reducible refine st_loopR ?_; walk_at "st") | (with_reducible refine st_loopX ?_; walk_at "st") | ((try dsimp only [ps_0, ps_s]); with_reducible refine st_endB ?_; walk_at "st") | ((try dsimp only [ps_0, ps_s]); with_reducible refine st_endBR ?_; walk_at "st") | ((try dsimp only [ps_0, ps_s]); with_reducible refine st_endBX ?_; walk_at "st") | (with_reducible refine st_tryN ?_; walk_at "st") | (with_reducible refine st_tryR ?_; walk_at "st") | (with_reducible refine st_tryB ?_; walk_at "st") | (with_reducible refine st_tryC ?_; walk_at "st") | (with_reducible refine st_tryX ?_; (try dsimp only [ps_0, ps_s, stW]); walk_at "st") | (with_reducible refine st_suitN ?_; (try dsimp only [ps_0, ps_s, stW]); walk_at "st") | (with_reducible refine st_suitR ?_; walk_at "st") | (with_reducible refine st_suitB ?_; (try dsimp only [ps_0, ps_s, stW]); walk_at "st") | (with_reducible refine st_suitC ?_; (try dsimp only [ps_0, ps_s, stW]); walk_at "st") | (with_reducible refine st_dst ?_; walk_at "st") | (with_reducible refine st_dap ?_; walk_at "st") | (with_reducible refine st_gname ?_; (try dsimp only [ps_0, ps_s, stW]); walk_at "st") | (with_reducible refine st_gT2 ?_; walk_at "st") | (with_reducible refine st_gT3 ?_; walk_at "st") | (with_reducible refine st_c ?_; walk_at "st") | (with_reducible refine st_fz ?_; walk_at "st") | (with_reducible refine st_sDf ?_; walk_at "st") | (with_reducible refine st_sDo ?_; walk_at "st") | (with_reducible refine st_res ?_; walk_at "st") | (with_reducible refine st_tst ?_; walk_at "st") | (with_reducible refine st_op ?_; walk_at "st") | (with_reducible refine st_un ?_; walk_at "st") | (with_reducible refine st_acons ?_; walk_at "st") | (with_reducible refine st_anil ?_; walk_at "st") | (with_reducible refine st_cb ?_; walk_at "st") | (with_reducible refine st_cA ?_; walk_at "st") | (with_reducible refine st_cB ?_; walk_at "st") | (with_reducible refine st_and ?_; walk_at "st") | (with_reducible refine st_or ?_; walk_at "st") | (with_reducible refine st_not ?_; walk_at "st") | (with_reducible refine st_if ?_; walk_at "st") | (with_reducible refine st_andT ?_; walk_at "st") | (with_reducible refine st_orT ?_; walk_at "st") | (with_reducible refine st_notT ?_; walk_at "st") | (with_reducible refine st_tup ?_; walk_at "st") | (with_reducible refine st_lst ?_; walk_at "st") | (with_reducible refine st_lstV ?_; walk_at "st") | (with_reducible refine st_cAD ?_; walk_at "st") | (with_reducible refine st_cV ?_; walk_at "st") | (with_reducible refine st_ix ?_; walk_at "st") | (with_reducible refine st_sl ?_; walk_at "st") | (with_reducible refine st_noP ?_; walk_at "st") | (with_reducible refine st_someP ?_; walk_at "st") | (with_reducible refine st_dic0 ?_; walk_at "st") | (with_reducible refine st_it ?_; walk_at "st") | (with_reducible refine st_itA ?_; walk_at "st") | (with_reducible refine st_yes ?_; walk_at "st") | (with_reducible refine st_lcQ ?_; (try dsimp only [ps_0, ps_s, stW]); walk_at "st") | (with_reducible refine st_lcV ?_; (try dsimp only [ps_0, ps_s, stW]); walk_at "st") | (with_reducible refine st_p1 ?_; walk_at "st") | (with_reducible refine st_p2 ?_; walk_at "st") | (with_reducible refine st_p3 ?_; walk_at "st") | (with_reducible refine st_xf (by with_unfolding_all exact rfl) ?_; walk_at "st") | (with_reducible refine st_xi (by with_unfolding_all exact rfl) ?_; walk_at "st") | (with_reducible refine ctlP_imp (fun b => ?_) (fun b => ?_) (fun b => ?_) <;> walk_at "st") | (with_reducible refine wp_imp (fun e => ?_) (fun d => ?_) <;> walk_at "st") | ((try dsimp only [ps_0, ps_s, stW]); refine sim_map (fun x Q K hK => ?_) _ _ _ (fun ys => ?_); (focus (walk_at "nm"; walk_at "st"; all_goals exact hK _ _ rfl)); ((try simp only [List.nil_append]); walk_at "st")) | ((try dsimp only [ps_0, ps_s, stW]); refine sim_fil (fun x Q P K K0 hK h0 => ?_) _ _ _ (fun ys => ?_); (focus (walk_at "nm"; walk_at "st"; all_goals first | exact hK _ _ rfl | exact h0 _ rfl)); ((try simp only [List.nil_append]); walk_at "st")) | (with_reducible refine st_all fun u => ?_; walk_at "st") | skip)
local macro_rules | `(tactic| walk_at "st") => `(tactic| first | (with_reducible refine c__law_gcd ?_; walk_at "st") | fail)
theorem law__law_made : ∀ ds Ex Q, ds.length = 2 → phi__law_made ds Ex Q → g__law_made (endsA Ex Q) (startA 3 ds) := by
  intro ds Ex Q hl
  match ds, hl with
  | [y0, y1], _ =>
    rw [e__law_made]
    unfold F__law_made g__law_made
    walk_at "nm"
    (try dsimp only [startA, startB, pm_c, pm_n, pa_c, pa_n, pr_s, pr_0, pl_c, pl_n, Nat.reduceAdd, Nat.reduceSub])
    walk_at "st"
def F__law_random_number (_law_pool_here : D) : Res DErr (D × D) :=
  bR (noEx (F__law_draw _law_pool_here (.int 6))) fun r1 =>
  bO (qEq r1.1 (.int 0)) fun v2 =>
  bO (qBl v2) fun b3 =>
  cond b3
  (.ok ((.nd .tup [(.int 0), (.int 1)]), r1.2))
  (bO (qEq r1.1 (.int 1)) fun v4 =>
  bO (qBl v4) fun b5 =>
  cond b5
  (bO (qPow (.int 10) (.int 18)) fun v6 =>
  bR (noEx (F__law_draw r1.2 v6)) fun r7 =>
  bR (noEx (F__law_draw r7.2 (.int 12))) fun r8 =>
  bO (qAdd (.int 1) r8.1) fun v9 =>
  bR (F__law_made r7.1 v9) fun v10 =>
  .ok (v10, r8.2))
  (bR (noEx (F__law_draw r1.2 (.int 7))) fun r11 =>
  bR (noEx (F__law_draw r11.2 (.int 3))) fun r12 =>
  bO (qAdd (.int 1) r12.1) fun v13 =>
  bR (F__law_made r11.1 v13) fun v14 =>
  .ok (v14, r12.2)))
def g__law_random_number : DS :=
  (dSeq (dSet 1 (dRes (dFz (dcB phi__law_draw 0 (dACons (dC (.int 6)) dANil)))))
    (dSeq (dIfS (dTst (dOp (w2 qEq) (dVar 1) (dC (.int 0)))) (dRet (dRes (dTup (dACons (dC (.int 0)) (dACons (dC (.int 1)) dANil))))) dNx)
    (dSeq (dIfS (dTst (dOp (w2 qEq) (dVar 1) (dC (.int 1)))) (dRet (dRes (dFz (dcA phi__law_made (dACons (dFz (dcB phi__law_draw 0 (dACons (dOp (w2 qPow) (dC (.int 10)) (dC (.int 18))) dANil))) (dACons (dOp (w2 qAdd) (dC (.int 1)) (dFz (dcB phi__law_draw 0 (dACons (dC (.int 12)) dANil)))) dANil)))))) dNx)
    (dRet (dRes (dFz (dcA phi__law_made (dACons (dFz (dcB phi__law_draw 0 (dACons (dC (.int 7)) dANil))) (dACons (dOp (w2 qAdd) (dC (.int 1)) (dFz (dcB phi__law_draw 0 (dACons (dC (.int 3)) dANil)))) dANil)))))))))
def phi__law_random_number : SpB := fun d ds Ex Q => match ds with
  | [] => wp (F__law_random_number d ) NE (fun r => Q (.fz r.1) r.2)
  | _ => False
theorem e__law_random_number {d  : D} {Ex : DErr → D → Prop} {Q : S → D → Prop} : phi__law_random_number d [] Ex Q = wp (F__law_random_number d ) NE (fun r => Q (.fz r.1) r.2) := rfl
theorem c__law_random_number {A : Prop} {d  : D} {Ex : DErr → D → Prop} {Q : S → D → Prop} (h : A → wp (F__law_random_number d ) NE (fun r => Q (.fz r.1) r.2)) : A → phi__law_random_number d [] Ex Q := h
local macro_rules | `(tactic| walk_at "nm") => `(tactic| (try simp only [wp_ok, wp_ex, wp_bO, wp_bR, wp_cond, wp_noEx, wp_tryB, wp_ctl, ctlP_nx, ctlP_bk, ctlP_rt, Bool.not_true, Bool.not_false, cond_true, cond_false, wpO_map]))
local macro_rules | `(tactic| walk_at "st") => `(tactic| first | (with_reducible exact id) | (with_reducible exact fun h => h.elim) | (with_reducible exact fun h => h _) | (with_reducible refine st_condT ?_; walk_at "st") | (with_reducible refine st_condF ?_; walk_at "st") | (with_reducible refine wpO_imp (fun d => ?_); walk_at "st") | (with_reducible refine cond_imp ?_ ?_ <;> walk_at "st") | (with_reducible refine st_var (by with_unfolding_all exact rfl) ?_; walk_at "st") | (with_reducible refine st_atO (by with_unfolding_all exact rfl) ?_; walk_at "st") | (with_reducible refine st_seq ?_; walk_at "st") | (with_reducible refine st_then ?_; (try dsimp only [ps_0, ps_s, stW]); walk_at "st") | (with_reducible refine st_thenR ?_; walk_at "st") | (with_reducible refine st_thenX ?_; walk_at "st") | (with_reducible refine st_thenB ?_; walk_at "st") | (with_reducible refine st_thenC ?_; walk_at "st") | (with_reducible refine st_set ?_; walk_at "st") | (with_reducible refine st_ret ?_; walk_at "st") | (with_reducible refine st_ifS ?_; walk_at "st") | (with_reducible refine st_nx ?_; walk_at "st") | (with_reducible refine st_endA ?_; walk_at "st") | (with_reducible refine st_endR ?_; walk_at "st") | (with_reducible refine st_endX ?_; walk_at "st") | (with_reducible refine st_drop ?_; walk_at "st") | (with_reducible refine st_for ?_; walk_at "st") | (with_reducible refine st_bk ?_; walk_at "st") | (with_reducible refine st_ct ?_; walk_at "st") | (with_reducible refine st_asg ?_; walk_at "st") | (with_reducible refine st_par ?_; walk_at "st") | (with_reducible refine st_retN ?_; walk_at "st") | (with_reducible refine st_no ?_; walk_at "st") | (with_reducible refine st_raise ?_; walk_at "st") | (with_reducible refine st_try ?_; walk_at "st") | (with_reducible refine st_loop ?_; (try dsimp only [ps_0, ps_s, stW]); walk_at "st") | (with_reducible refine st_loopC ?_; (try dsimp only [ps_0, ps_s, stW]); walk_at "st") | (with_reducible refine st_loopB ?_; walk_at "st") | (with_reducible refine st_loopR ?_; walk_at "st") | (with_reducible refine st_loopX ?_; walk_at "st") | ((try dsimp only [ps_0, ps_s]); with_reducible refine st_endB ?_; walk_at "st") | ((try dsimp only [ps_0, ps_s]); with_reducible refine st_endBR ?_; walk_at "st") | ((try dsimp only [ps_0, ps_s]); with_reducible refine st_endBX ?_; walk_at "st") | (with_reducible refine st_tryN ?_; walk_at "st") | (with_reducible refine st_tryR ?_; walk_at "st") | (with_reducible refine st_tryB ?_; walk_at "st") | (with_reducible refine st_tryC ?_; walk_at "st") | (with_reducible refine st_tryX ?_; (try dsimp only [ps_0, ps_s, stW]); walk_at "st") | (with_reducible refine st_suitN ?_; (try dsimp only [ps_0, ps_s, stW]); walk_at "st") | (with_reducible refine st_suitR ?_; walk_at "st") | (with_reducible refine st_suitB ?_; (try dsimp only [ps_0, ps_s, stW]); walk_at "st") | (with_reducible refine st_suitC ?_; (try dsimp only [ps_0, ps_s, stW]); walk_at "st") | (with_reducible refine st_dst ?_; walk_at "st") | (with_reducible refine st_dap ?_; walk_at "st") | (with_reducible refine st_gname ?_; (try dsimp only [ps_0, ps_s, stW]); walk_at "st") | (with_reducible refine st_gT2 ?_; walk_at "st") | (with_reducible refine st_gT3 ?_; walk_at "st") | (with_reducible refine st_c ?_; walk_at "st") | (with_reducible refine st_fz ?_; walk_at "st") | (with_reducible refine st_sDf ?_; walk_at "st") | (with_reducible refine st_sDo ?_; walk_at "st") | (with_reducible refine st_res ?_; walk_at "st") | (with_reducible refine st_tst ?_; walk_at "st") | (with_reducible refine st_op ?_; walk_at "st") | (with_reducible refine st_un ?_; walk_at "st") | (with_reducible refine st_acons ?_; walk_at "st") | (with_reducible refine st_anil ?_; walk_at "st") | (with_reducible refine st_cb ?_; walk_at "st") | (with_reducible refine st_cA ?_; walk_at "st") | (with_reducible refine st_cB ?_; walk_at "st") | (with_reducible refine st_and ?_; walk_at "st") | (with_reducible refine st_or ?_; walk_at "st") | (with_reducible refine st_not ?_; walk_at "st") | (with_reducible refine st_if ?_; walk_at "st") | (with_reducible refine st_andT ?_; walk_at "st") | (with_reducible refine st_orT ?_; walk_at "st") | (with_reducible refine st_notT ?_; walk_at "st") | (with_reducible refine st_tup ?_; walk_at "st") | (with_reducible refine st_lst ?_; walk_at "st") | (with_reducible refine st_lstV ?_; walk_at "st") | (with_reducible refine st_cAD ?_; walk_at "st") | (with_reducible refine st_cV ?_; walk_at "st") | (with_reducible refine st_ix ?_; walk_at "st") | (with_reducible refine st_sl ?_; walk_at "st") | (with_reducible refine st_noP ?_; walk_at "st") | (with_reducible refine st_someP ?_; walk_at "st") | (with_reducible refine st_dic0 ?_; walk_at "st") | (with_reducible refine st_it ?_; walk_at "st") | (with_reducible refine st_itA ?_; walk_at "st") | (with_reducible refine st_yes ?_; walk_at "st") | (with_reducible refine st_lcQ ?_; (try dsimp only [ps_0, ps_s, stW]); walk_at "st") | (with_reducible refine st_lcV ?_; (try dsimp only [ps_0, ps_s, stW]); walk_at "st") | (with_reducible refine st_p1 ?_; walk_at "st") | (with_reducible refine st_p2 ?_; walk_at "st") | (with_reducible refine st_p3 ?_; walk_at "st") | (with_reducible refine st_xf (by with_unfolding_all exact rfl) ?_; walk_at "st") | (with_reducible refine st_xi (by with_unfolding_all exact rfl) ?_; walk_at "st") | (with_reducible refine ctlP_imp (fun b => ?_) (fun b => ?_) (fun b => ?_) <;> walk_at "st") | (with_reducible refine wp_imp (fun e => ?_) (fun d => ?_) <;> walk_at "st") | ((try dsimp only [ps_0, ps_s, stW]); refine sim_map (fun x Q K hK => ?_) _ _ _ (fun ys => ?_); (focus (walk_at "nm"; walk_at "st"; all_goals exact hK _ _ rfl)); ((try simp only [List.nil_append]); walk_at "st")) | ((try dsimp only [ps_0, ps_s, stW]); refine sim_fil (fun x Q P K K0 hK h0 => ?_) _ _ _ (fun ys => ?_); (focus (walk_at "nm"; walk_at "st"; all_goals first | exact hK _ _ rfl | exact h0 _ rfl)); ((try simp only [List.nil_append]); walk_at "st")) | (with_reducible refine st_all fun u => ?_; walk_at "st") | skip)
local macro_rules | `(tactic| walk_at "st") => `(tactic| first | (with_reducible refine c__law_made ?_; walk_at "st") | (with_reducible refine c__law_draw ?_; walk_at "st") | fail)
theorem law__law_random_number : ∀ a t es ds Ex Q, ds.length + 1 = 1 → phi__law_random_number (.nd t es) ds Ex Q → g__law_random_number (endsB a Ex Q) (startB 2 a (.nd t es) ds) := by
  intro a t es ds Ex Q hl
  match ds, hl with
  | [], _ =>
    generalize (D.nd t es) = d
    rw [e__law_random_number]
    unfold F__law_random_number g__law_random_number
    walk_at "nm"
    (try dsimp only [startA, startB, pm_c, pm_n, pa_c, pa_n, pr_s, pr_0, pl_c, pl_n, Nat.reduceAdd, Nat.reduceSub])
    walk_at "st"
def F__law_outcome (_law_door _law_one _law_other : D) : Res DErr D :=
  bR (tryB (α := Ctl D (Unit)) (bO (qIxSeq (.nd .lst [(.glo "plus"), (.glo "minus"), (.glo "times"), (.glo "over"), (.glo "compare")]) _law_door) fun v2 =>
  bO (qGlo [("plus", F_plus), ("minus", F_minus), ("times", F_times), ("over", F_over), ("compare", F_compare)] v2) fun f3 =>
  bR (f3 _law_one _law_other) fun v4 =>
  .ok (.nx ())) tb_InvalidNumber fun e1 => bO (qXf "value" e1) fun v5 =>
  bO (qRepr [v5]) fun v6 =>
  .ok (.rt v6)) fun j7 =>
  ctl j7 (fun r8 => .ok r8) fun _ =>
  .ok .non
def g__law_outcome : DS :=
  (dSeq (dTry 3 tb_InvalidNumber (dDrop (dcVQ [("plus", phi_plus), ("minus", phi_minus), ("times", phi_times), ("over", phi_over), ("compare", phi_compare)] (dOp (w2 qIxSeq) (dLstV (dACons (dC (.glo "plus")) (dACons (dC (.glo "minus")) (dACons (dC (.glo "times")) (dACons (dC (.glo "over")) (dACons (dC (.glo "compare")) dANil)))))) (dVar 0)) (dACons (dVar 1) (dACons (dVar 2) dANil)))) (fun u er => (dRet (dRes (dCB (wL qRepr) (dACons (dXf 3 u er "value") dANil))))))
    (dRet (dRes (dC .non))))
def phi__law_outcome : SpA := phiA3 F__law_outcome
theorem e__law_outcome {y0 y1 y2 : D} {Ex : DErr → Prop} {Q : S → Prop} : phi__law_outcome [y0, y1, y2] Ex Q = wp (F__law_outcome y0 y1 y2) Ex (fun d => Q (.fz d)) := rfl
theorem c__law_outcome {A : Prop} {y0 y1 y2 : D} {Ex : DErr → Prop} {Q : S → Prop} (h : A → wp (F__law_outcome y0 y1 y2) Ex (fun d => Q (.fz d))) : A → phi__law_outcome [y0, y1, y2] Ex Q := h
theorem cv__law_outcome_1 {d : D} : qGlo [("plus", phi_plus), ("minus", phi_minus), ("times", phi_times), ("over", phi_over), ("compare", phi_compare)] d = (qGlo [("plus", F_plus), ("minus", F_minus), ("times", F_times), ("over", F_over), ("compare", F_compare)] d).map phiA2 := qGlo_map phiA2 [("plus", F_plus), ("minus", F_minus), ("times", F_times), ("over", F_over), ("compare", F_compare)] d
local macro_rules | `(tactic| walk_at "nm") => `(tactic| (try simp only [wp_ok, wp_ex, wp_bO, wp_bR, wp_cond, wp_noEx, wp_tryB, wp_ctl, ctlP_nx, ctlP_bk, ctlP_rt, Bool.not_true, Bool.not_false, cond_true, cond_false, wpO_map, cv__law_outcome_1]))
local macro_rules | `(tactic| walk_at "st") => `(tactic| first | (with_reducible exact id) | (with_reducible exact fun h => h.elim) | (with_reducible exact fun h => h _) | (with_reducible refine st_condT ?_; walk_at "st") | (with_reducible refine st_condF ?_; walk_at "st") | (with_reducible refine wpO_imp (fun d => ?_); walk_at "st") | (with_reducible refine cond_imp ?_ ?_ <;> walk_at "st") | (with_reducible refine st_var (by with_unfolding_all exact rfl) ?_; walk_at "st") | (with_reducible refine st_atO (by with_unfolding_all exact rfl) ?_; walk_at "st") | (with_reducible refine st_seq ?_; walk_at "st") | (with_reducible refine st_then ?_; (try dsimp only [ps_0, ps_s, stW]); walk_at "st") | (with_reducible refine st_thenR ?_; walk_at "st") | (with_reducible refine st_thenX ?_; walk_at "st") | (with_reducible refine st_thenB ?_; walk_at "st") | (with_reducible refine st_thenC ?_; walk_at "st") | (with_reducible refine st_set ?_; walk_at "st") | (with_reducible refine st_ret ?_; walk_at "st") | (with_reducible refine st_ifS ?_; walk_at "st") | (with_reducible refine st_nx ?_; walk_at "st") | (with_reducible refine st_endA ?_; walk_at "st") | (with_reducible refine st_endR ?_; walk_at "st") | (with_reducible refine st_endX ?_; walk_at "st") | (with_reducible refine st_drop ?_; walk_at "st") | (with_reducible refine st_for ?_; walk_at "st") | (with_reducible refine st_bk ?_; walk_at "st") | (with_reducible refine st_ct ?_; walk_at "st") | (with_reducible refine st_asg ?_; walk_at "st") | (with_reducible refine st_par ?_; walk_at "st") | (with_reducible refine st_retN ?_; walk_at "st") | (with_reducible refine st_no ?_; walk_at "st") | (with_reducible refine st_raise ?_; walk_at "st") | (with_reducible refine st_try ?_; walk_at "st") | (with_reducible refine st_loop ?_; (try dsimp only [ps_0, ps_s, stW]); walk_at "st") | (with_reducible refine st_loopC ?_; (try dsimp only [ps_0, ps_s, stW]); walk_at "st") | (with_reducible refine st_loopB ?_; walk_at "st") | (with_reducible refine st_loopR ?_; walk_at "st") | (with_reducible refine st_loopX ?_; walk_at "st") | ((try dsimp only [ps_0, ps_s]); with_reducible refine st_endB ?_; walk_at "st") | ((try dsimp only [ps_0, ps_s]); with_reducible refine st_endBR ?_; walk_at "st") | ((try dsimp only [ps_0, ps_s]); with_reducible refine st_endBX ?_; walk_at "st") | (with_reducible refine st_tryN ?_; walk_at "st") | (with_reducible refine st_tryR ?_; walk_at "st") | (with_reducible refine st_tryB ?_; walk_at "st") | (with_reducible refine st_tryC ?_; walk_at "st") | (with_reducible refine st_tryX ?_; (try dsimp only [ps_0, ps_s, stW]); walk_at "st") | (with_reducible refine st_suitN ?_; (try dsimp only [ps_0, ps_s, stW]); walk_at "st") | (with_reducible refine st_suitR ?_; walk_at "st") | (with_reducible refine st_suitB ?_; (try dsimp only [ps_0, ps_s, stW]); walk_at "st") | (with_reducible refine st_suitC ?_; (try dsimp only [ps_0, ps_s, stW]); walk_at "st") | (with_reducible refine st_dst ?_; walk_at "st") | (with_reducible refine st_dap ?_; walk_at "st") | (with_reducible refine st_gname ?_; (try dsimp only [ps_0, ps_s, stW]); walk_at "st") | (with_reducible refine st_gT2 ?_; walk_at "st") | (with_reducible refine st_gT3 ?_; walk_at "st") | (with_reducible refine st_c ?_; walk_at "st") | (with_reducible refine st_fz ?_; walk_at "st") | (with_reducible refine st_sDf ?_; walk_at "st") | (with_reducible refine st_sDo ?_; walk_at "st") | (with_reducible refine st_res ?_; walk_at "st") | (with_reducible refine st_tst ?_; walk_at "st") | (with_reducible refine st_op ?_; walk_at "st") | (with_reducible refine st_un ?_; walk_at "st") | (with_reducible refine st_acons ?_; walk_at "st") | (with_reducible refine st_anil ?_; walk_at "st") | (with_reducible refine st_cb ?_; walk_at "st") | (with_reducible refine st_cA ?_; walk_at "st") | (with_reducible refine st_cB ?_; walk_at "st") | (with_reducible refine st_and ?_; walk_at "st") | (with_reducible refine st_or ?_; walk_at "st") | (with_reducible refine st_not ?_; walk_at "st") | (with_reducible refine st_if ?_; walk_at "st") | (with_reducible refine st_andT ?_; walk_at "st") | (with_reducible refine st_orT ?_; walk_at "st") | (with_reducible refine st_notT ?_; walk_at "st") | (with_reducible refine st_tup ?_; walk_at "st") | (with_reducible refine st_lst ?_; walk_at "st") | (with_reducible refine st_lstV ?_; walk_at "st") | (with_reducible refine st_cAD ?_; walk_at "st") | (with_reducible refine st_cV ?_; walk_at "st") | (with_reducible refine st_ix ?_; walk_at "st") | (with_reducible refine st_sl ?_; walk_at "st") | (with_reducible refine st_noP ?_; walk_at "st") | (with_reducible refine st_someP ?_; walk_at "st") | (with_reducible refine st_dic0 ?_; walk_at "st") | (with_reducible refine st_it ?_; walk_at "st") | (with_reducible refine st_itA ?_; walk_at "st") | (with_reducible refine st_yes ?_; walk_at "st") | (with_reducible refine st_lcQ ?_; (try dsimp only [ps_0, ps_s, stW]); walk_at "st") | (with_reducible refine st_lcV ?_; (try dsimp only [ps_0, ps_s, stW]); walk_at "st") | (with_reducible refine st_p1 ?_; walk_at "st") | (with_reducible refine st_p2 ?_; walk_at "st") | (with_reducible refine st_p3 ?_; walk_at "st") | (with_reducible refine st_xf (by with_unfolding_all exact rfl) ?_; walk_at "st") | (with_reducible refine st_xi (by with_unfolding_all exact rfl) ?_; walk_at "st") | (with_reducible refine ctlP_imp (fun b => ?_) (fun b => ?_) (fun b => ?_) <;> walk_at "st") | (with_reducible refine wp_imp (fun e => ?_) (fun d => ?_) <;> walk_at "st") | ((try dsimp only [ps_0, ps_s, stW]); refine sim_map (fun x Q K hK => ?_) _ _ _ (fun ys => ?_); (focus (walk_at "nm"; walk_at "st"; all_goals exact hK _ _ rfl)); ((try simp only [List.nil_append]); walk_at "st")) | ((try dsimp only [ps_0, ps_s, stW]); refine sim_fil (fun x Q P K K0 hK h0 => ?_) _ _ _ (fun ys => ?_); (focus (walk_at "nm"; walk_at "st"; all_goals first | exact hK _ _ rfl | exact h0 _ rfl)); ((try simp only [List.nil_append]); walk_at "st")) | (with_reducible refine st_all fun u => ?_; walk_at "st") | skip)
local macro_rules | `(tactic| walk_at "st") => `(tactic| first | (with_reducible refine c_compare ?_; walk_at "st") | (with_reducible refine c_over ?_; walk_at "st") | (with_reducible refine c_times ?_; walk_at "st") | (with_reducible refine c_minus ?_; walk_at "st") | (with_reducible refine c_plus ?_; walk_at "st") | (rw [cv__law_outcome_1, wpO_map]; walk_at "st") | fail)
theorem law__law_outcome : ∀ ds Ex Q, ds.length = 3 → phi__law_outcome ds Ex Q → g__law_outcome (endsA Ex Q) (startA 4 ds) := by
  intro ds Ex Q hl
  match ds, hl with
  | [y0, y1, y2], _ =>
    rw [e__law_outcome]
    unfold F__law_outcome g__law_outcome
    walk_at "nm"
    (try dsimp only [startA, startB, pm_c, pm_n, pa_c, pa_n, pr_s, pr_0, pl_c, pl_n, Nat.reduceAdd, Nat.reduceSub])
    walk_at "st"
def F_law_s3 (k__law_one : D) (k__law_thing : D) (x : D) (_b : Unit) : Res DErr (Ctl D (Unit)) :=
  bR (F__law_outcome x k__law_thing .non) fun v13 =>
  bR (F__law_outcome x k__law_one k__law_thing) fun v14 =>
  bO (qRepr [k__law_thing]) fun v15 =>
  bO (qMul (.nd .lst [v15]) (.int 2)) fun v16 =>
  bO (qNe (.nd .lst [v13, v14]) v16) fun v17 =>
  bO (qBl v17) fun b18 =>
  cond b18
  (.ok (.rt (.bl false)))
  (.ok (.nx ()))
def F_law_s2 (k__law_one : D) (x : D) (_b : Unit) : Res DErr (Ctl D (Unit)) :=
  bO (qRng [(.int 5)]) fun l11 =>
  bR (forR l11 () (F_law_s3 k__law_one x)) fun j12 =>
  ctl j12 (fun r19 => .ok (.rt r19)) fun (_ : Unit) =>
  .ok (.nx ())
def F_law_s1 (k__law_script : D) (x : D) (_b : Unit) : Res DErr (Ctl D (Unit)) :=
  bR (F__law_pool k__law_script x) fun v6 =>
  bR (noEx (F__law_random_number v6)) fun r7 =>
  bO (qNeg (.int 1)) fun v8 =>
  bO (qItL (.nd .lst [.non, (.int 1), (.int 0), (.bl true), (.str "1"), (.nd .tup [(.int 2), (.int 4)]), (.nd .tup [(.int 1), (.int 0)]), (.nd .tup [(.int 1), v8]), (.nd .lst [(.int 1), (.int 2)]), (.nd .tup [(.int 1)]), (.nd .tup [(.int 1), (.int 1), (.int 1)]), (.nd .tup [(.bl true), (.int 1)]), (.nd (.dic []) [])])) fun l9 =>
  bR (forR l9 () (F_law_s2 r7.1)) fun j10 =>
  ctl j10 (fun r20 => .ok (.rt r20)) fun (_ : Unit) =>
  bO (qRng [(.int 5)]) fun l21 =>
  bO (qSz l21) fun l22 =>
  bR (noEx (mapR l22 fun x23 => bR (F__law_outcome x23 r7.1 (.nd .tup [(.int 0), (.int 1)])) fun v25 =>
  .ok v25)) fun w24 =>
  bO (qNe (.nd .lst w24) (.nd .lst [.non, .non, .non, (.str "(0, 1)"), .non])) fun v26 =>
  bO (qBl v26) fun b27 =>
  cond b27
  (.ok (.rt (.bl false)))
  (.ok (.nx ()))
def F_law (_law_script : D) : Res DErr D :=
  bO (qLen1 [_law_script]) fun v1 =>
  bO (qMin2 [v1, (.int 4)]) fun v2 =>
  bO (qMax2 [(.int 1), v2]) fun v3 =>
  bO (qRng [v3]) fun l4 =>
  bR (forR l4 () (F_law_s1 _law_script)) fun j5 =>
  ctl j5 (fun r28 => .ok r28) fun (_ : Unit) =>
  .ok (.bl true)
def g_law_b1 : DS :=
  (dIfS (dTst (dOp (w2 qNe) (dLstV (dACons (dFz (dcA phi__law_outcome (dACons (dVar 5) (dACons (dVar 4) (dACons (dC .non) dANil))))) (dACons (dFz (dcA phi__law_outcome (dACons (dVar 5) (dACons (dVar 3) (dACons (dVar 4) dANil))))) dANil))) (dOp (w2 qMul) (dLstV (dACons (dCB (wL qRepr) (dACons (dVar 4) dANil)) dANil)) (dC (.int 2))))) (dRet (dRes (dC (.bl false)))) dNx)
def g_law_b2 : DS :=
  (dFor (dItA qRng (dACons (dC (.int 5)) dANil)) (gdName 5) g_law_b1)
def g_law_b3 : DS :=
  (dSeq (dSet 2 (dcA phi__law_pool (dACons (dVar 0) (dACons (dVar 1) dANil))))
    (dSeq (dSet 3 (dRes (dFz (dcB phi__law_random_number 2 dANil))))
    (dSeq (dFor (dIt qItL (dLstV (dACons (dC .non) (dACons (dC (.int 1)) (dACons (dC (.int 0)) (dACons (dC (.bl true)) (dACons (dC (.str "1")) (dACons (dTup (dACons (dC (.int 2)) (dACons (dC (.int 4)) dANil))) (dACons (dTup (dACons (dC (.int 1)) (dACons (dC (.int 0)) dANil))) (dACons (dTup (dACons (dC (.int 1)) (dACons (dUn (w1 qNeg) (dC (.int 1))) dANil))) (dACons (dLstV (dACons (dC (.int 1)) (dACons (dC (.int 2)) dANil))) (dACons (dTup (dACons (dC (.int 1)) dANil)) (dACons (dTup (dACons (dC (.int 1)) (dACons (dC (.int 1)) (dACons (dC (.int 1)) dANil)))) (dACons (dTup (dACons (dC (.bl true)) (dACons (dC (.int 1)) dANil))) (dACons dDic0 dANil))))))))))))))) (gdName 4) g_law_b2)
    (dIfS (dTst (dOp (w2 qNe) (dLcV (dItA qRng (dACons (dC (.int 5)) dANil)) (gdName 5) dYes (dFz (dcA phi__law_outcome (dACons (dVar 5) (dACons (dVar 3) (dACons (dTup (dACons (dC (.int 0)) (dACons (dC (.int 1)) dANil))) dANil))))) [5]) (dLstV (dACons (dC .non) (dACons (dC .non) (dACons (dC .non) (dACons (dC (.str "(0, 1)")) (dACons (dC .non) dANil)))))))) (dRet (dRes (dC (.bl false)))) dNx))))
def g_law : DS :=
  (dSeq (dFor (dItA qRng (dACons (dCB (wL qMax2) (dACons (dC (.int 1)) (dACons (dCB (wL qMin2) (dACons (dCB (wL qLen1) (dACons (dVar 0) dANil)) (dACons (dC (.int 4)) dANil))) dANil))) dANil)) (gdName 1) g_law_b3)
    (dRet (dRes (dC (.bl true)))))
def phi_law : SpA := phiA1 F_law
theorem e_law {y0 : D} {Ex : DErr → Prop} {Q : S → Prop} : phi_law [y0] Ex Q = wp (F_law y0) Ex (fun d => Q (.fz d)) := rfl
theorem c_law {A : Prop} {y0 : D} {Ex : DErr → Prop} {Q : S → Prop} (h : A → wp (F_law y0) Ex (fun d => Q (.fz d))) : A → phi_law [y0] Ex Q := h
local macro_rules | `(tactic| walk_at "nm") => `(tactic| (try simp only [wp_ok, wp_ex, wp_bO, wp_bR, wp_cond, wp_noEx, wp_tryB, wp_ctl, ctlP_nx, ctlP_bk, ctlP_rt, Bool.not_true, Bool.not_false, cond_true, cond_false, wpO_map]))
local macro_rules | `(tactic| walk_at "st") => `(tactic| first | (with_reducible exact id) | (with_reducible exact fun h => h.elim) | (with_reducible exact fun h => h _) | (with_reducible refine st_condT ?_; walk_at "st") | (with_reducible refine st_condF ?_; walk_at "st") | (with_reducible refine wpO_imp (fun d => ?_); walk_at "st") | (with_reducible refine cond_imp ?_ ?_ <;> walk_at "st") | (with_reducible refine st_var (by with_unfolding_all exact rfl) ?_; walk_at "st") | (with_reducible refine st_atO (by with_unfolding_all exact rfl) ?_; walk_at "st") | (with_reducible refine st_seq ?_; walk_at "st") | (with_reducible refine st_then ?_; (try dsimp only [ps_0, ps_s, stW]); walk_at "st") | (with_reducible refine st_thenR ?_; walk_at "st") | (with_reducible refine st_thenX ?_; walk_at "st") | (with_reducible refine st_thenB ?_; walk_at "st") | (with_reducible refine st_thenC ?_; walk_at "st") | (with_reducible refine st_set ?_; walk_at "st") | (with_reducible refine st_ret ?_; walk_at "st") | (with_reducible refine st_ifS ?_; walk_at "st") | (with_reducible refine st_nx ?_; walk_at "st") | (with_reducible refine st_endA ?_; walk_at "st") | (with_reducible refine st_endR ?_; walk_at "st") | (with_reducible refine st_endX ?_; walk_at "st") | (with_reducible refine st_drop ?_; walk_at "st") | (with_reducible refine st_for ?_; walk_at "st") | (with_reducible refine st_bk ?_; walk_at "st") | (with_reducible refine st_ct ?_; walk_at "st") | (with_reducible refine st_asg ?_; walk_at "st") | (with_reducible refine st_par ?_; walk_at "st") | (with_reducible refine st_retN ?_; walk_at "st") | (with_reducible refine st_no ?_; walk_at "st") | (with_reducible refine st_raise ?_; walk_at "st") | (with_reducible refine st_try ?_; walk_at "st") | (with_reducible refine st_loop ?_; (try dsimp only [ps_0, ps_s, stW]); walk_at "st") | (with_reducible refine st_loopC ?_; (try dsimp only [ps_0, ps_s, stW]); walk_at "st") | (with_reducible refine st_loopB ?_; walk_at "st") | (with_reducible refine st_loopR ?_; walk_at "st") | (with_reducible refine st_loopX ?_; walk_at "st") | ((try dsimp only [ps_0, ps_s]); with_reducible refine st_endB ?_; walk_at "st") | ((try dsimp only [ps_0, ps_s]); with_reducible refine st_endBR ?_; walk_at "st") | ((try dsimp only [ps_0, ps_s]); with_reducible refine st_endBX ?_; walk_at "st") | (with_reducible refine st_tryN ?_; walk_at "st") | (with_reducible refine st_tryR ?_; walk_at "st") | (with_reducible refine st_tryB ?_; walk_at "st") | (with_reducible refine st_tryC ?_; walk_at "st") | (with_reducible refine st_tryX ?_; (try dsimp only [ps_0, ps_s, stW]); walk_at "st") | (with_reducible refine st_suitN ?_; (try dsimp only [ps_0, ps_s, stW]); walk_at "st") | (with_reducible refine st_suitR ?_; walk_at "st") | (with_reducible refine st_suitB ?_; (try dsimp only [ps_0, ps_s, stW]); walk_at "st") | (with_reducible refine st_suitC ?_; (try dsimp only [ps_0, ps_s, stW]); walk_at "st") | (with_reducible refine st_dst ?_; walk_at "st") | (with_reducible refine st_dap ?_; walk_at "st") | (with_reducible refine st_gname ?_; (try dsimp only [ps_0, ps_s, stW]); walk_at "st") | (with_reducible refine st_gT2 ?_; walk_at "st") | (with_reducible refine st_gT3 ?_; walk_at "st") | (with_reducible refine st_c ?_; walk_at "st") | (with_reducible refine st_fz ?_; walk_at "st") | (with_reducible refine st_sDf ?_; walk_at "st") | (with_reducible refine st_sDo ?_; walk_at "st") | (with_reducible refine st_res ?_; walk_at "st") | (with_reducible refine st_tst ?_; walk_at "st") | (with_reducible refine st_op ?_; walk_at "st") | (with_reducible refine st_un ?_; walk_at "st") | (with_reducible refine st_acons ?_; walk_at "st") | (with_reducible refine st_anil ?_; walk_at "st") | (with_reducible refine st_cb ?_; walk_at "st") | (with_reducible refine st_cA ?_; walk_at "st") | (with_reducible refine st_cB ?_; walk_at "st") | (with_reducible refine st_and ?_; walk_at "st") | (with_reducible refine st_or ?_; walk_at "st") | (with_reducible refine st_not ?_; walk_at "st") | (with_reducible refine st_if ?_; walk_at "st") | (with_reducible refine st_andT ?_; walk_at "st") | (with_reducible refine st_orT ?_; walk_at "st") | (with_reducible refine st_notT ?_; walk_at "st") | (with_reducible refine st_tup ?_; walk_at "st") | (with_reducible refine st_lst ?_; walk_at "st") | (with_reducible refine st_lstV ?_; walk_at "st") | (with_reducible refine st_cAD ?_; walk_at "st") | (with_reducible refine st_cV ?_; walk_at "st") | (with_reducible refine st_ix ?_; walk_at "st") | (with_reducible refine st_sl ?_; walk_at "st") | (with_reducible refine st_noP ?_; walk_at "st") | (with_reducible refine st_someP ?_; walk_at "st") | (with_reducible refine st_dic0 ?_; walk_at "st") | (with_reducible refine st_it ?_; walk_at "st") | (with_reducible refine st_itA ?_; walk_at "st") | (with_reducible refine st_yes ?_; walk_at "st") | (with_reducible refine st_lcQ ?_; (try dsimp only [ps_0, ps_s, stW]); walk_at "st") | (with_reducible refine st_lcV ?_; (try dsimp only [ps_0, ps_s, stW]); walk_at "st") | (with_reducible refine st_p1 ?_; walk_at "st") | (with_reducible refine st_p2 ?_; walk_at "st") | (with_reducible refine st_p3 ?_; walk_at "st") | (with_reducible refine st_xf (by with_unfolding_all exact rfl) ?_; walk_at "st") | (with_reducible refine st_xi (by with_unfolding_all exact rfl) ?_; walk_at "st") | (with_reducible refine ctlP_imp (fun b => ?_) (fun b => ?_) (fun b => ?_) <;> walk_at "st") | (with_reducible refine wp_imp (fun e => ?_) (fun d => ?_) <;> walk_at "st") | ((try dsimp only [ps_0, ps_s, stW]); refine sim_map (fun x Q K hK => ?_) _ _ _ (fun ys => ?_); (focus (walk_at "nm"; walk_at "st"; all_goals exact hK _ _ rfl)); ((try simp only [List.nil_append]); walk_at "st")) | ((try dsimp only [ps_0, ps_s, stW]); refine sim_fil (fun x Q P K K0 hK h0 => ?_) _ _ _ (fun ys => ?_); (focus (walk_at "nm"; walk_at "st"; all_goals first | exact hK _ _ rfl | exact h0 _ rfl)); ((try simp only [List.nil_append]); walk_at "st")) | (with_reducible refine st_all fun u => ?_; walk_at "st") | skip)
local macro_rules | `(tactic| walk_at "st") => `(tactic| first | (with_reducible refine c__law_outcome ?_; walk_at "st") | (with_reducible refine c__law_random_number ?_; walk_at "st") | (with_reducible refine c__law_pool ?_; walk_at "st") | fail)
theorem lp_law_s3 {K : Unit → Prop} {de : DEnds} {k__law_script k__law_one k__law_thing : D}  {Ex : DErr → Prop} {R : D → Prop} (hx : ∀ e s, Ex e → de.ex e s) (hd : ∀  (j1 j2 j5 : S), K () → de.nx [.fz k__law_script, j1, j2, .fz k__law_one, .fz k__law_thing, j5]) (hr : ∀ v s, R v → de.rt (.fz v) s) (items : List D)  (j1 j2 j5 : S) : wp (forR items () (F_law_s3 k__law_one k__law_thing)) Ex (fun c => ctlP c K K R) → dForL (gdName 5) g_law_b1 items de [.fz k__law_script, j1, j2, .fz k__law_one, .fz k__law_thing, j5] := by
  refine sim_for (V := (fun b s => ∃ j1 j2 j5, s = [.fz k__law_script, j1, j2, .fz k__law_one, .fz k__law_thing, j5])) ?_ ?_ items _ _ ⟨_, _, _, rfl⟩
  · rintro x b s K' B' nx bk ⟨j1, j2, j5, rfl⟩ hn hb
    unfold g_law_b1 F_law_s3
    walk_at "nm"
    walk_at "st"
    all_goals first | exact hn _ _ ⟨_, _, _, rfl⟩ | exact hx _ _ | exact hb _ _ ⟨_, _, _, rfl⟩ | exact hr _ _
  · rintro b s ⟨j1, j2, j5, rfl⟩
    exact hd _ _ _
local macro_rules | `(tactic| walk_at "st") => `(tactic| first | (refine lp_law_s3 (fun e s => ?_) (fun u0 u1 u2 => ?_) (fun v s => ?_) _ _ _ _ <;> walk_at "nm" <;> walk_at "st") | fail)
theorem lp_law_s2 {K : Unit → Prop} {de : DEnds} {k__law_script k__law_one : D}  {Ex : DErr → Prop} {R : D → Prop} (hx : ∀ e s, Ex e → de.ex e s) (hd : ∀  (j1 j2 j4 j5 : S), K () → de.nx [.fz k__law_script, j1, j2, .fz k__law_one, j4, j5]) (hr : ∀ v s, R v → de.rt (.fz v) s) (items : List D)  (j1 j2 j4 j5 : S) : wp (forR items () (F_law_s2 k__law_one)) Ex (fun c => ctlP c K K R) → dForL (gdName 4) g_law_b2 items de [.fz k__law_script, j1, j2, .fz k__law_one, j4, j5] := by
  refine sim_for (V := (fun b s => ∃ j1 j2 j4 j5, s = [.fz k__law_script, j1, j2, .fz k__law_one, j4, j5])) ?_ ?_ items _ _ ⟨_, _, _, _, rfl⟩
  · rintro x b s K' B' nx bk ⟨j1, j2, j4, j5, rfl⟩ hn hb
    unfold g_law_b2 F_law_s2
    walk_at "nm"
    walk_at "st"
    all_goals first | exact hn _ _ ⟨_, _, _, _, rfl⟩ | exact hx _ _ | exact hb _ _ ⟨_, _, _, _, rfl⟩ | exact hr _ _
  · rintro b s ⟨j1, j2, j4, j5, rfl⟩
    exact hd _ _ _ _
local macro_rules | `(tactic| walk_at "st") => `(tactic| first | (refine lp_law_s2 (fun e s => ?_) (fun u0 u1 u2 u3 => ?_) (fun v s => ?_) _ _ _ _ _ <;> walk_at "nm" <;> walk_at "st") | fail)
theorem lp_law_s1 {K : Unit → Prop} {de : DEnds} {k__law_script : D}  {Ex : DErr → Prop} {R : D → Prop} (hx : ∀ e s, Ex e → de.ex e s) (hd : ∀  (j1 j2 j3 j4 j5 : S), K () → de.nx [.fz k__law_script, j1, j2, j3, j4, j5]) (hr : ∀ v s, R v → de.rt (.fz v) s) (items : List D)  (j1 j2 j3 j4 j5 : S) : wp (forR items () (F_law_s1 k__law_script)) Ex (fun c => ctlP c K K R) → dForL (gdName 1) g_law_b3 items de [.fz k__law_script, j1, j2, j3, j4, j5] := by
  refine sim_for (V := (fun b s => ∃ j1 j2 j3 j4 j5, s = [.fz k__law_script, j1, j2, j3, j4, j5])) ?_ ?_ items _ _ ⟨_, _, _, _, _, rfl⟩
  · rintro x b s K' B' nx bk ⟨j1, j2, j3, j4, j5, rfl⟩ hn hb
    unfold g_law_b3 F_law_s1
    walk_at "nm"
    walk_at "st"
    all_goals first | exact hn _ _ ⟨_, _, _, _, _, rfl⟩ | exact hx _ _ | exact hb _ _ ⟨_, _, _, _, _, rfl⟩ | exact hr _ _
  · rintro b s ⟨j1, j2, j3, j4, j5, rfl⟩
    exact hd _ _ _ _ _
local macro_rules | `(tactic| walk_at "st") => `(tactic| first | (refine lp_law_s1 (fun e s => ?_) (fun u0 u1 u2 u3 u4 => ?_) (fun v s => ?_) _ _ _ _ _ _ <;> walk_at "nm" <;> walk_at "st") | fail)
theorem law_law : ∀ ds Ex Q, ds.length = 1 → phi_law ds Ex Q → g_law (endsA Ex Q) (startA 6 ds) := by
  intro ds Ex Q hl
  match ds, hl with
  | [y0], _ =>
    rw [e_law]
    unfold F_law g_law
    walk_at "nm"
    (try dsimp only [startA, startB, pm_c, pm_n, pa_c, pa_n, pr_s, pr_0, pl_c, pl_n, Nat.reduceAdd, Nat.reduceSub])
    walk_at "st"

/-! ### numbers, and the helpers of the laws -/
theorem eq_common_divisor (a b : Int) : F_common_divisor (.int a) (.int b) = .ok (.int (Int.gcd a b)) := by
  have key : ∀ (n : Nat) (a b : Int), 0 ≤ a → 0 ≤ b → b.natAbs < n → whR n (D.int a, D.int b) F_common_divisor_s1 = .ok (.int (Int.gcd a b), .int 0) := by
    intro n
    induction n with
    | zero => intro a b _ _ h; omega
    | succ n ih =>
      intro a b ha hb hn
      show bR (F_common_divisor_s1 (D.int a, D.int b)) _ = _
      by_cases h0 : b = 0
      · subst h0
        have hs : F_common_divisor_s1 (D.int a, D.int 0) = .ok none := rfl
        rw [hs, Int.gcd_zero_right, Int.natAbs_of_nonneg ha]; rfl
      · have hp : 0 < b := by omega
        have hs : F_common_divisor_s1 (D.int a, D.int b) = .ok (some (D.int b, D.int (a.fmod b))) := by
          unfold F_common_divisor_s1
          simp only [qGt_int, bO_some, qBl_bl, hp, decide_true, cond_true, qMod_int h0]
        rw [hs]
        show whR n (D.int b, D.int (a.fmod b)) F_common_divisor_s1 = _
        have h1 := fmod_lt_abs a h0
        have h2 := Int.fmod_nonneg_of_pos a hp
        rw [ih b (a.fmod b) hb h2 (by omega), gcd_fmod]
  unfold F_common_divisor
  simp only [qAbs, bO_some, natD]
  have e1 : (if a < 0 then -a else a) = (a.natAbs : Int) := by split <;> omega
  have e2 : (if b < 0 then -b else b) = (b.natAbs : Int) := by split <;> omega
  rw [e1, e2, key _ _ _ (by omega) (by omega) (by omega)]
  rfl
theorem eq_reduced {n d : Int} (hd : d ≠ 0) (hb : Bz 8000 d) : F_reduced (.int n) (.int d) = .ok (rd n d) := by
  have kb := gcd_bz (n := n) hd hb
  have hg := gcd_pos (n := n) hd
  unfold F_reduced
  rw [eq_common_divisor]
  simp only [bR_ok, qLt_int, bO_some, qBl_bl]
  by_cases hn : d < 0
  · have e : gd n d = -(Int.gcd n d : Int) := by unfold gd sg; rw [if_neg (by omega)]; omega
    have k : divB (gd n d) = true := divB_of (gd_ne hd) (gd_bz hd hb) (by decide)
    simp only [hn, decide_true, cond_true, qNeg_int, bO_some, bR_ok, ← e, qDiv_int k]
    rfl
  · have e : gd n d = (Int.gcd n d : Int) := by unfold gd sg; rw [if_pos (by omega)]; omega
    have k : divB (gd n d) = true := divB_of (gd_ne hd) (gd_bz hd hb) (by decide)
    simp only [hn, decide_false, cond_false, bO_some, bR_ok, ← e, qDiv_int k]
    rfl
theorem eq_is_integer {x : D} (h : okTy x) : F_is_integer x = .ok (.bl (isInt x)) := by
  unfold F_is_integer
  simp only [qIsi_int h, qIsi_bool h, bO_some, qBl_bl]
  cases x with
  | nd t ds => cases t <;> rfl
  | _ => rfl
theorem okTy_int {i : Int} : okTy (.int i) := by show ("int" == "") = false; decide
theorem eq_is_fraction {x : D} (h : okP x) : F_is_fraction x = .ok (.bl (isFr x)) := by
  unfold F_is_fraction
  simp only [qIsi_tuple h.ty, bO_some, qBl_bl]
  cases x with
  | nd t l =>
    cases t with
    | tup =>
      match l, h with
      | [], _ => simp only [isa_tuple, Bool.not_true, cond_false, qLen1, bO_some, qNe_int, qBl_bl, bR_ok]; rfl
      | [a], _ => simp only [isa_tuple, Bool.not_true, cond_false, qLen1, bO_some, qNe_int, qBl_bl, bR_ok]; rfl
      | a :: b :: c :: l, _ =>
        have e : ((((a :: b :: c :: l).length : Nat) : Int) == 2) = false := by
          simp only [List.length_cons, beq_eq_false_iff_ne, ne_eq]; omega
        simp only [isa_tuple, Bool.not_true, cond_false, qLen1, bO_some, qNe_int, qBl_bl, e, Bool.not_false, bR_ok, cond_true]
        rfl
      | [a, b], h =>
        obtain ⟨ha, hb⟩ := h
        have e : ((((([a, b] : List D).length : Nat) : Int)) == 2) = true := rfl
        have g0 : qIxSeq (.nd .tup [a, b]) (.int 0) = some a := rfl
        have g1 : qIxSeq (.nd .tup [a, b]) (.int 1) = some b := rfl
        simp only [isa_tuple, Bool.not_true, cond_false, qLen1, bO_some, qNe_int, qBl_bl, e, bR_ok, g0, g1, eq_is_integer ha, eq_is_integer hb]
        cases a with
        | int n =>
          simp only [isInt, Bool.not_true, cond_false]
          cases b with
          | int d =>
            simp only [isInt, Bool.not_true, cond_false, qLt_int, bO_some, qBl_bl, bR_ok, eq_common_divisor, qEq_int]
            show cond (decide (d < 1)) _ _ = Res.ok (D.bl (decide (1 ≤ d) && (Int.gcd n d == 1)))
            have ed : (((Int.gcd n d : Nat) : Int) == 1) = (Int.gcd n d == 1) := by
              rw [Bool.eq_iff_iff]; simp; omega
            by_cases hd : d < 1
            · rw [decide_eq_true hd, decide_eq_false (by omega : ¬ 1 ≤ d)]; rfl
            · rw [decide_eq_false hd, decide_eq_true (by omega : 1 ≤ d), ed]; rfl
          | _ => rfl
        | _ => rfl
    | _ => rfl
  | _ => rfl
theorem eq__law_gcd (a b : Int) : F__law_gcd (.int a) (.int b) = .ok (.int (Int.gcd a b)) := by
  have key : ∀ (n : Nat) (c d : Int), d.natAbs < n → ∃ e : Int, whR n (D.int c, D.int d) F__law_gcd_s1 = .ok (.int e, .int 0) ∧ e.natAbs = Int.gcd c d := by
    intro n
    induction n with
    | zero => intro c d h; omega
    | succ n ih =>
      intro c d hn
      by_cases h0 : d = 0
      · subst h0
        refine ⟨c, ?_, by rw [Int.gcd_zero_right]⟩
        show bR (F__law_gcd_s1 (D.int c, D.int 0)) _ = _
        have hs : F__law_gcd_s1 (D.int c, D.int 0) = .ok none := by
          unfold F__law_gcd_s1
          simp only [qNe_int, bO_some, qBl_bl]; rfl
        rw [hs]; rfl
      · have e : (d == 0) = false := by simp [h0]
        have hs : F__law_gcd_s1 (D.int c, D.int d) = .ok (some (D.int d, D.int (c.fmod d))) := by
          unfold F__law_gcd_s1
          simp only [qNe_int, bO_some, qBl_bl, e, Bool.not_false, cond_true, qMod_int h0]
        show ∃ e, bR (F__law_gcd_s1 (D.int c, D.int d)) _ = _ ∧ _
        rw [hs]
        show ∃ e, whR n (D.int d, D.int (c.fmod d)) F__law_gcd_s1 = _ ∧ _
        have h1 := fmod_lt_abs c h0
        obtain ⟨e, h2, h3⟩ := ih d (c.fmod d) (by omega)
        exact ⟨e, h2, by rw [h3, gcd_fmod]⟩
  unfold F__law_gcd
  obtain ⟨e, h2, h3⟩ := key (natD (.int b) + 1) a b (Nat.lt_succ_self _)
  rw [h2]
  simp only [bR_ok, qAbs, bO_some]
  have e1 : (if e < 0 then -e else e) = (e.natAbs : Int) := by split <;> omega
  rw [e1, h3]
theorem eq__law_made {n d : Int} (hd : d ≠ 0) (hb : Bz 8000 d) : F__law_made (.int n) (.int d) = .ok (rd n d) := by
  have kb := gd_bz (n := n) hd hb
  have kn := gd_ne (n := n) hd
  have k := divB_of kn kb (by decide)
  have b1 : Bz 63 (1 : Int) := by unfold Bz; decide
  have b2 : Bz 63 (-1 : Int) := by unfold Bz; decide
  unfold F__law_made
  rw [eq__law_gcd]
  simp only [bR_ok, qGt_int, bO_some, qBl_bl]
  by_cases h0 : 0 < d
  · have e : (Int.gcd n d : Int) * 1 = gd n d := by unfold gd sg; rw [if_pos h0]
    simp only [h0, decide_true, cond_true, bR_ok, qMul_int (mulB_small (.inr b1)), bO_some, e, qDiv_int k]
    rfl
  · have e : (Int.gcd n d : Int) * (-1) = gd n d := by unfold gd sg; rw [if_neg h0]
    simp only [h0, decide_false, cond_false, qNeg_int, bO_some, bR_ok, qMul_int (mulB_small (.inr b2)), e, qDiv_int k]
    rfl
/-- a pool of draws -/
abbrev pool (x y : Int) : D := .nd .lst [.int x, .int y]
/-- two ints of at least 0 -/
def IsPool (p : D) : Prop := ∃ x y : Int, p = pool x y ∧ 0 ≤ x ∧ 0 ≤ y
theorem eq__law_draw {p : D} (hp : IsPool p) {m : Int} (hm : 0 < m) (hb : Bz 8000 m) : ∃ r p', F__law_draw p (.int m) = .ok (.int r, p') ∧ 0 ≤ r ∧ r < m ∧ IsPool p' := by
  obtain ⟨x, y, rfl, hx, hy⟩ := hp
  have dm := divB_of (b := 8000) (by omega) hb (by decide)
  have g0 : ∀ x y : Int, qIxL (pool x y) (.int 0) = some (.int x) := fun _ _ => rfl
  have g1 : ∀ x y : Int, qIxL (pool x y) (.int 1) = some (.int y) := fun _ _ => rfl
  have s0 : ∀ (x y : Int) (d : D), qSetL (pool x y) (.int 0) d = some (.nd .lst [d, .int y]) := fun _ _ _ => rfl
  have s1 : ∀ (x y : Int) (d : D), qSetL (pool x y) (.int 1) d = some (.nd .lst [.int x, d]) := fun _ _ _ => rfl
  unfold F__law_draw
  simp only [g0, bO_some, qGt_int, qBl_bl]
  by_cases h0 : 0 < x
  · simp only [h0, decide_true, cond_true, qMod_int (show m ≠ 0 by omega), qDiv_int dm, bO_some, s0]
    exact ⟨_, _, rfl, fmod_nn x hm, fmod_lt' x hm, _, _, rfl, fdiv_nn hx hm, hy⟩
  · have b1 : Bz 63 (48271 : Int) := by unfold Bz; decide
    have z0 := fmod_nn (y * 48271 + 11) (m := 2147483647) (by decide)
    have z1 := fmod_lt' (y * 48271 + 11) (m := 2147483647) (by decide)
    have bz : Bz 63 ((y * 48271 + 11).fmod 2147483647) := by unfold Bz; omega
    simp only [h0, decide_false, cond_false, g1, bO_some, qMul_int (mulB_small (.inr b1)), qAdd_int, qMod_int (show (2147483647 : Int) ≠ 0 by decide), s1, g1, qMul_int (mulB_small (.inl bz)), qMod_int (show (2147483629 : Int) ≠ 0 by decide), qDiv_int (show divB 16 = true by decide), qMod_int (show m ≠ 0 by omega)]
    exact ⟨_, _, rfl, fmod_nn _ hm, fmod_lt' _ hm, _, _, rfl, hx, z0⟩
theorem eq__law_pool {ns : List Int} {k : Int} (hl : ns.length ≤ 63) (hk0 : 0 ≤ k) (hk : k ≤ 1000) : ∃ p, F__law_pool (scr ns) (.int k) = .ok p ∧ IsPool p := by
  obtain ⟨ms, hms⟩ := cut_ints ns none (some 63)
  have e1 : qSl (scr ns) none (some 63) = some (.nd .lst (ms.map D.int)) := by unfold qSl; dsimp only; rw [hms]
  have e2 : qSum [.nd .lst (ms.map D.int)] = some (.int ms.sum) := by unfold qSum; dsimp only; rw [intsOf_map]; rfl
  have e3 : qLen1 [scr ns] = some (.int (ns.length : Int)) := by unfold qLen1; dsimp only; rw [List.length_map]
  have b11 : Bz 63 (11 : Int) := by unfold Bz; decide
  have b4 : Bz 63 (48271 : Int) := by unfold Bz; decide
  have b7 : Bz 63 (7919 : Int) := by unfold Bz; decide
  have bk : Bz 63 k := by unfold Bz; omega
  have b31 : Bz 63 (31 : Int) := by unfold Bz; decide
  have rest : ∀ c : Int, ∃ p, (bO (qAbs [D.int c]) fun v6 => bO (qMod v6 (.int 2147483629)) fun v7 => bO (qMul (.int 7919) (.int k)) fun v8 => bO (qMul v8 (.int k)) fun v9 => bO (qAdd v7 v9) fun v10 => bO (qMul (.int 31) (.int k)) fun v11 => bO (qAdd v10 v11) fun v12 =>
      bO (qAdd v12 (.int 17)) fun v13 => bO (qMul v13 (.int 48271)) fun v14 => bO (qMod v14 (.int 2147483647)) fun v15 => bO (qPow (.int 10) (.int 18)) fun v16 => bO (qGe v6 v16) fun v17 => bO (qInt1 [v17]) fun v18 => bO (qMul v6 v18) fun v19 => bO (qMul v15 v15) fun v20 => bO (qMod v20 (.int 2147483629)) fun v21 =>
      (.ok (.nd .lst [v19, v21]) : Res DErr D)) = .ok p ∧ IsPool p := by
    intro c
    have e4 : qAbs [D.int c] = some (.int (c.natAbs : Int)) := by unfold qAbs; dsimp only; congr 2; split <;> omega
    have e5 : qPow (.int 10) (.int 18) = some (.int 1000000000000000000) := by kernel_rfl
    have e6 : qInt1 [D.bl (decide (1000000000000000000 ≤ (c.natAbs : Int)))] = some (.int (cond (decide (1000000000000000000 ≤ (c.natAbs : Int))) 1 0)) := rfl
    have b6 : Bz 63 (cond (decide (1000000000000000000 ≤ (c.natAbs : Int))) 1 0 : Int) := by cases decide (1000000000000000000 ≤ (c.natAbs : Int)) <;> (unfold Bz; decide)
    have z0 := fmod_nn ((((c.natAbs : Int).fmod 2147483629 + 7919 * k * k + 31 * k + 17)) * 48271) (m := 2147483647) (by decide)
    have z1 := fmod_lt' ((((c.natAbs : Int).fmod 2147483629 + 7919 * k * k + 31 * k + 17)) * 48271) (m := 2147483647) (by decide)
    have bz : Bz 63 (((((c.natAbs : Int).fmod 2147483629 + 7919 * k * k + 31 * k + 17)) * 48271).fmod 2147483647) := by unfold Bz; omega
    simp only [e4, e5, e6, bO_some, qMod_int (show (2147483629 : Int) ≠ 0 by decide), qMod_int (show (2147483647 : Int) ≠ 0 by decide), qMul_int (mulB_small (.inl b7)), qMul_int (mulB_small (.inr bk)), qAdd_int, qMul_int (mulB_small (.inl b31)), qMul_int (mulB_small (.inr b4)), qGe_int, qMul_int (mulB_small (.inr b6)), qMul_int (mulB_small (.inl bz))]
    refine ⟨_, rfl, _, _, rfl, Int.mul_nonneg (by omega) ?_, fmod_nn _ (by decide)⟩
    cases decide (1000000000000000000 ≤ (c.natAbs : Int)) <;> decide
  unfold F__law_pool
  simp only [qInt, bO_some, e1, e2, e3, qMul_int (mulB_small (.inl b11)), qAdd_int, qLt_int, qBl_bl]
  by_cases hlt : k < (ns.length : Int)
  · obtain ⟨v, hv⟩ := geti_map hk0 hlt
    have e4 : qIxSeq (scr ns) (.int k) = some (.int v) := hv
    simp only [hlt, decide_true, cond_true, e4, bO_some, bR_ok]
    exact rest v
  · simp only [hlt, decide_false, cond_false, bR_ok]
    exact rest _

/-! ### arithmetic of fractions -/
theorem ix0 {n d : Int} : qIxSeq (fr n d) (.int 0) = some (.int n) := rfl
theorem ix1 {n d : Int} : qIxSeq (fr n d) (.int 1) = some (.int d) := rfl
theorem two_fr {b c : Nat} {x y : D} (hx : FrD b x) (hy : FrD c y) : ∃ n d m e, x = fr n d ∧ y = fr m e ∧ d ≠ 0 ∧ e ≠ 0 ∧ Bz b n ∧ Bz b d ∧ Bz c m ∧ Bz c e :=
  ⟨_, _, _, _, hx.eq, hy.eq, hx.ne, hy.ne, hx.bn, hx.bd, hy.bn, hy.bd⟩
theorem mul3 {n m : Int} (h : Bz 3000 n) (k : Bz 3000 m) : mulB n m = true := mulB_of h k (by decide) (by decide) (by decide)
theorem eq_added {x y : D} (hx : FrD 3000 x) (hy : FrD 3000 y) : F_added x y = .ok (addD x y) := by
  obtain ⟨n, d, m, e, rfl, rfl, h1, h2, h3, h4, h5, h6⟩ := two_fr hx hy
  unfold F_added
  simp only [ix0, ix1, bO_some, qMul_int (mul3 h3 h6), qMul_int (mul3 h5 h4), qMul_int (mul3 h4 h6), qAdd_int]
  rw [eq_reduced (Int.mul_ne_zero h1 h2) ((h4.mul h6).mono (by decide))]; rfl
theorem eq_negative {b : Nat} {x : D} (hx : FrD b x) : F_negative x = .ok (negD x) := by
  obtain ⟨n, d, m, e, rfl, _⟩ := two_fr hx hx
  unfold F_negative
  simp only [ix0, ix1, bO_some, qNeg_int]
  rfl
theorem eq_multiplied {x y : D} (hx : FrD 3000 x) (hy : FrD 3000 y) : F_multiplied x y = .ok (mulD x y) := by
  obtain ⟨n, d, m, e, rfl, rfl, h1, h2, h3, h4, h5, h6⟩ := two_fr hx hy
  unfold F_multiplied
  simp only [ix0, ix1, bO_some, qMul_int (mul3 h3 h5), qMul_int (mul3 h4 h6)]
  rw [eq_reduced (Int.mul_ne_zero h1 h2) ((h4.mul h6).mono (by decide))]; rfl
theorem eq_divided {x y : D} (hx : FrD 3000 x) (hy : FrD 3000 y) (hz : num y ≠ 0) : F_divided x y = .ok (divD x y) := by
  obtain ⟨n, d, m, e, rfl, rfl, h1, h2, h3, h4, h5, h6⟩ := two_fr hx hy
  unfold F_divided
  simp only [ix0, ix1, bO_some, qMul_int (mul3 h3 h6), qMul_int (mul3 h4 h5)]
  rw [eq_reduced (Int.mul_ne_zero h1 (show m ≠ 0 from hz)) ((h4.mul h5).mono (by decide))]; rfl
theorem eq_is_less {x y : D} (hx : FrD 3000 x) (hy : FrD 3000 y) : F_is_less x y = .ok (.bl (lessD x y)) := by
  obtain ⟨n, d, m, e, rfl, rfl, h1, h2, h3, h4, h5, h6⟩ := two_fr hx hy
  unfold F_is_less
  simp only [ix0, ix1, bO_some, qMul_int (mul3 h3 h6), qMul_int (mul3 h5 h4), qLt_int]
  rfl
theorem eqOk_fr {a b : Nat} {x y : D} (h : FrD a x) (k : FrD b y) : eqOk x y = true := by
  unfold eqOk
  rw [plain_fr h, plain_fr k]
  have := depth_fr h
  simp; omega
theorem qEq_fr {a b : Nat} {x y : D} (h : FrD a x) (k : FrD b y) : qEq x y = some (.bl (eqF x y)) := by
  unfold qEq eqD
  rw [if_pos (eqOk_fr h k), eqv_fr h k]
theorem qNe_fr {a b : Nat} {x y : D} (h : FrD a x) (k : FrD b y) : qNe x y = some (.bl (!eqF x y)) := by
  unfold qNe eqD
  rw [if_pos (eqOk_fr h k), eqv_fr h k]
theorem fr01 : FrD 1 (fr 0 1) := .mk' (by decide) (by decide) (by unfold Bz; decide) (by unfold Bz; decide)
theorem eqF_self (x : D) : eqF x x = true := by unfold eqF; simp

/-! ### k03: errors of arithmetic -/
theorem eq_check {x y : D} (hx : okP x) (hy : okP y) : F_check_fractions (.nd .lst [x, y]) = cond (isFr x) (cond (isFr y) (.ok .non) (.ex ⟨0, y⟩)) (.ex ⟨0, x⟩) := by
  have s : ∀ z, okP z → F_check_fractions_s1 z () = cond (isFr z) (.ok ()) (.ex ⟨0, z⟩) := fun z hz => by
    unfold F_check_fractions_s1
    rw [eq_is_fraction hz]
    simp only [bR_ok, qBl_bl, bO_some]
    cases isFr z <;> rfl
  unfold F_check_fractions
  simp only [qItL, bO_some, foldR_cons, foldR_nil, s x hx, s y hy]
  cases isFr x <;> cases isFr y <;> rfl
/-- what is asked of a value that is no fraction -/
structure Odd (x : D) : Prop where
  ok : okP x
  no : isFr x = false
  rp : reprOk x = true
inductive Val (x : D) : Prop where
  | good (h : FrD 100 x)
  | odd (h : Odd x)
theorem Val.okP {x : D} (h : Val x) : okP x := by
  cases h with
  | good h => exact h.okP
  | odd h => exact h.ok
def bad2 (x y : D) : Option D := if isFr x = true then (if isFr y = true then none else some y) else some x
theorem chk {x y : D} (hx : Val x) (hy : Val y) {f : D → Res DErr D} : (bR (F_check_fractions (.nd .lst [x, y])) f) = match bad2 x y with
    | some z => .ex ⟨0, z⟩
    | none => f .non := by
  rw [eq_check hx.okP hy.okP]
  unfold bad2
  cases isFr x <;> cases isFr y <;> rfl
theorem good_of {x : D} (h : Val x) (e : isFr x = true) : FrD 3000 x := by
  cases h with
  | good h => exact h.mono (by decide)
  | odd h => rw [h.no] at e; cases e
theorem goods {x y : D} (hx : Val x) (hy : Val y) (h : bad2 x y = none) : FrD 3000 x ∧ FrD 3000 y := by
  unfold bad2 at h
  by_cases e1 : isFr x = true
  · rw [if_pos e1] at h
    by_cases e2 : isFr y = true
    · exact ⟨good_of hx e1, good_of hy e2⟩
    · rw [if_neg e2] at h; cases h
  · rw [if_neg e1] at h; cases h
open Classical in
/-- one of the five functions: what it does -/
noncomputable def doorOut (door : Int) (x y : D) : Option D := match bad2 x y with
  | some z => some z
  | none => if door = 3 ∧ y = fr 0 1 then some y else none
theorem eq_door {door : Int} {x y : D} (hx : Val x) (hy : Val y) (h0 : 0 ≤ door) (h5 : door < 5) : ∃ F : D → D → Res DErr D,
    (bO (qIxSeq (.nd .lst [.glo "plus", .glo "minus", .glo "times", .glo "over", .glo "compare"]) (.int door)) fun v1 => bO (qGlo [("plus", F_plus), ("minus", F_minus), ("times", F_times), ("over", F_over), ("compare", F_compare)] v1) fun f2 => (.ok f2 : Res DErr (D → D → Res DErr D))) = .ok F ∧
    match doorOut door x y with
      | some z => F x y = .ex ⟨0, z⟩
      | none => ∃ d, F x y = .ok d := by
  have hd : door = 0 ∨ door = 1 ∨ door = 2 ∨ door = 3 ∨ door = 4 := by omega
  unfold doorOut
  rcases hd with rfl | rfl | rfl | rfl | rfl
  · refine ⟨F_plus, rfl, ?_⟩
    unfold F_plus
    rw [chk hx hy]
    cases e : bad2 x y with
    | some z => rfl
    | none =>
      obtain ⟨a, b⟩ := goods hx hy e
      rw [if_neg (fun h => absurd h.1 (by decide) : ¬ ((0 : Int) = 3 ∧ y = fr 0 1))]
      exact ⟨_, by rw [eq_added a b]; rfl⟩
  · refine ⟨F_minus, rfl, ?_⟩
    unfold F_minus
    rw [chk hx hy]
    cases e : bad2 x y with
    | some z => rfl
    | none =>
      obtain ⟨a, b⟩ := goods hx hy e
      rw [if_neg (fun h => absurd h.1 (by decide) : ¬ ((1 : Int) = 3 ∧ y = fr 0 1))]
      exact ⟨_, by dsimp only; rw [eq_negative b, bR_ok, eq_added a b.neg]; rfl⟩
  · refine ⟨F_times, rfl, ?_⟩
    unfold F_times
    rw [chk hx hy]
    cases e : bad2 x y with
    | some z => rfl
    | none =>
      obtain ⟨a, b⟩ := goods hx hy e
      rw [if_neg (fun h => absurd h.1 (by decide) : ¬ ((2 : Int) = 3 ∧ y = fr 0 1))]
      exact ⟨_, by dsimp only; rw [eq_multiplied a b]; rfl⟩
  · refine ⟨F_over, rfl, ?_⟩
    unfold F_over
    rw [chk hx hy]
    cases e : bad2 x y with
    | some z => rfl
    | none =>
      obtain ⟨a, b⟩ := goods hx hy e
      dsimp only
      rw [show (D.nd Tg.tup [D.int 0, D.int 1]) = fr 0 1 from rfl, qEq_fr b fr01]
      simp only [bO_some, qBl_bl]
      by_cases hz : y = fr 0 1
      · subst hz
        rw [eqF_self, if_pos (⟨rfl, rfl⟩ : (3 : Int) = 3 ∧ fr 0 1 = fr 0 1)]; rfl
      · have ef : eqF y (fr 0 1) = false := by
          cases q : eqF y (fr 0 1) with
          | false => rfl
          | true => exact absurd ((eqF_iff b fr01).mp q) hz
        have nz : num y ≠ 0 := fun z => hz (b.ext fr01 (by rw [z]; show 0 * _ = 0 * _; omega))
        rw [ef, if_neg (fun h => hz h.2 : ¬ ((3 : Int) = 3 ∧ y = fr 0 1))]
        exact ⟨_, by rw [eq_divided a b nz]; rfl⟩
  · refine ⟨F_compare, rfl, ?_⟩
    unfold F_compare
    rw [chk hx hy]
    cases e : bad2 x y with
    | some z => rfl
    | none =>
      obtain ⟨a, b⟩ := goods hx hy e
      rw [if_neg (fun h => absurd h.1 (by decide) : ¬ ((4 : Int) = 3 ∧ y = fr 0 1))]
      dsimp only
      rw [qEq_fr a b]
      simp only [bO_some, qBl_bl]
      cases eqF x y with
      | true => exact ⟨_, rfl⟩
      | false =>
        rw [eq_is_less a b]
        simp only [cond_false, bR_ok, qBl_bl, bO_some]
        cases lessD x y <;> exact ⟨_, rfl⟩
noncomputable def outD (door : Int) (x y : D) : D := match doorOut door x y with
  | some z => .str (reprD z)
  | none => .non
theorem repr_ok {x y z : D} {door : Int} (hx : Val x) (hy : Val y) (h : doorOut door x y = some z) : reprOk z = true := by
  have r01 : reprOk (fr 0 1) = true := by decide +kernel
  unfold doorOut at h
  cases e : bad2 x y with
  | some w =>
    rw [e] at h
    obtain rfl : w = z := Option.some.inj h
    unfold bad2 at e
    cases hx with
    | odd hx =>
      rw [if_neg (by rw [hx.no]; decide)] at e
      cases e; exact hx.rp
    | good hx =>
      rw [if_pos hx.isFr] at e
      cases hy with
      | odd hy =>
        rw [if_neg (by rw [hy.no]; decide)] at e
        cases e; exact hy.rp
      | good hy => rw [if_pos hy.isFr] at e; cases e
  | none =>
    rw [e] at h
    dsimp only at h
    split at h
    · rename_i q
      cases h
      rw [q.2]; exact r01
    · cases h
theorem eq__law_outcome {door : Int} {x y : D} (hx : Val x) (hy : Val y) (h0 : 0 ≤ door) (h5 : door < 5) : F__law_outcome (.int door) x y = .ok (outD door x y) := by
  obtain ⟨F, e1, e2⟩ := eq_door hx hy h0 h5
  unfold F__law_outcome outD
  have step : ∀ (G : (D → D → Res DErr D) → Res DErr (Ctl D Unit)), (bO (qIxSeq (.nd .lst [.glo "plus", .glo "minus", .glo "times", .glo "over", .glo "compare"]) (.int door)) fun v1 => bO (qGlo [("plus", F_plus), ("minus", F_minus), ("times", F_times), ("over", F_over), ("compare", F_compare)] v1) fun f2 => G f2) = G F := fun G => by
    have := congrArg (fun m => bR m G) e1
    simp only [bR_bO, bR_ok] at this
    exact this
  rw [step]
  cases e : doorOut door x y with
  | none =>
    rw [e] at e2
    obtain ⟨d, e2⟩ := e2
    rw [e2]; rfl
  | some z =>
    rw [e] at e2
    have e2 : F x y = .ex ⟨0, z⟩ := e2
    rw [e2]
    have e3 : qRepr [z] = some (.str (reprD z)) := by unfold qRepr; dsimp only; rw [if_pos (repr_ok hx hy e)]
    simp only [bR_ex, tryB_ex, tb_InvalidNumber, cond_true]
    rw [show qXf "value" ⟨0, z⟩ = some z from rfl]
    simp only [bO_some, e3, bR_ok, ctl_rt]
theorem eq__law_random_number {p : D} (hp : IsPool p) : ∃ d p', F__law_random_number p = .ok (d, p') ∧ FrD 100 d ∧ IsPool p' := by
  have bm : ∀ {m : Int}, 0 < m → m ≤ 10 ^ 18 → Bz 8000 m := fun h1 h2 => (bz_nat (b := 64) (by omega) h2 (by decide)).mono (by decide)
  have br : ∀ {r : Int}, 0 ≤ r → r < 10 ^ 18 → Bz 64 r := fun h1 h2 => bz_nat h1 (Int.le_of_lt h2) (by decide)
  obtain ⟨r, p1, e1, h1, h2, hp1⟩ := eq__law_draw hp (m := 6) (by decide) (bm (by decide) (by decide))
  have fin : ∀ {r1 r2 : Int}, 0 ≤ r1 → r1 < 10 ^ 18 → 0 ≤ r2 → r2 < 10 ^ 18 → F__law_made (.int r1) (.int (1 + r2)) = .ok (rd r1 (1 + r2)) ∧ FrD 100 (rd r1 (1 + r2)) := fun {r1 r2} a b c d =>
    have e : Bz 65 (1 + r2) := bz_nat (m := 10 ^ 18) (by omega) (by omega) (by decide)
    ⟨eq__law_made (by omega) (e.mono (by decide)), .rd (by omega) ((br a b).mono (by decide)) (e.mono (by decide))⟩
  unfold F__law_random_number
  rw [e1]
  simp only [noEx_ok, bR_ok, qEq_int, bO_some, qBl_bl]
  have e10 : qPow (.int 10) (.int 18) = some (.int (10 ^ 18)) := by kernel_rfl
  by_cases r0 : r = 0
  · subst r0
    exact ⟨_, _, rfl, fr01.mono (by decide), hp1⟩
  · rw [show (r == 0) = false by simp [r0]]
    simp only [cond_false]
    by_cases r1 : r = 1
    · subst r1
      obtain ⟨a, p2, e2, h3, h4, hp2⟩ := eq__law_draw hp1 (m := 10 ^ 18) (by decide) (bm (by decide) (by decide))
      obtain ⟨b, p3, e3, h5, h6, hp3⟩ := eq__law_draw hp2 (m := 12) (by decide) (bm (by decide) (by decide))
      obtain ⟨e4, f4⟩ := fin h3 h4 h5 (Int.lt_trans h6 (by decide))
      rw [show ((1 : Int) == 1) = true from rfl]
      simp only [cond_true, e10, bO_some, e2, e3, noEx_ok, bR_ok, qAdd_int, e4]
      exact ⟨_, _, rfl, f4, hp3⟩
    · rw [show (r == 1) = false by simp [r1]]
      obtain ⟨a, p2, e2, h3, h4, hp2⟩ := eq__law_draw hp1 (m := 7) (by decide) (bm (by decide) (by decide))
      obtain ⟨b, p3, e3, h5, h6, hp3⟩ := eq__law_draw hp2 (m := 3) (by decide) (bm (by decide) (by decide))
      obtain ⟨e4, f4⟩ := fin h3 (Int.lt_trans h4 (by decide)) h5 (Int.lt_trans h6 (by decide))
      simp only [cond_false, e2, e3, noEx_ok, bR_ok, bO_some, qAdd_int, e4]
      exact ⟨_, _, rfl, f4, hp3⟩
theorem ne_strs {a b : Str} : qNe (.nd .lst [.str a, .str b]) (.nd .lst [.str a, .str b]) = some (.bl false) := by
  unfold qNe
  rw [if_pos (by unfold eqOk; simp [py, pyL, PyData.plain, PyData.plainAll, PyData.depth, PyData.depthAll])]
  unfold eqD
  simp [py, pyL, PyData.eqv, PyData.eqvAll]
theorem rep2 {a : D} : qMul (.nd .lst [a]) (.int 2) = some (.nd .lst [a, a]) := rfl
theorem bad_odd {x : D} (h : Odd x) (y : D) : bad2 x y = some x := by
  unfold bad2; rw [if_neg (by rw [h.no]; decide)]
theorem bad_good {x y : D} (h : FrD 100 x) (k : Odd y) : bad2 x y = some y := by
  unfold bad2; rw [if_pos h.isFr, if_neg (by rw [k.no]; decide)]
theorem odd_non : Odd .non := ⟨by show ("NoneType" == "") = false; decide, rfl, by decide +kernel⟩
def things : List D := [.non, .int 1, .int 0, .bl true, .str "1", .nd .tup [.int 2, .int 4], .nd .tup [.int 1, .int 0], .nd .tup [.int 1, .int (-1)], .nd .lst [.int 1, .int 2], .nd .tup [.int 1], .nd .tup [.int 1, .int 1, .int 1], .nd .tup [.bl true, .int 1], .nd (.dic []) []]
def okPb : D → Bool
  | .nd .tup [a, b] => !(tyN a == "") && !(tyN b == "")
  | x => !(tyN x == "")
theorem okPb_ok {x : D} (h : okPb x = true) : okP x := by
  have key : ∀ z : D, (!(tyN z == "")) = true → okTy z := fun z h => by unfold okTy; simpa using h
  unfold okPb at h
  split at h
  · rw [Bool.and_eq_true] at h
    exact ⟨key _ h.1, key _ h.2⟩
  · rename_i h1
    unfold okP
    split
    · exact (h1 _ _ rfl).elim
    · exact key _ h
theorem things_odd : ∀ x ∈ things, Odd x := by
  have h : things.all (fun x => okPb x && (!isFr x && reprOk x)) = true := by decide +kernel
  intro x hx
  have := List.all_eq_true.mp h x hx
  simp only [Bool.and_eq_true, Bool.not_eq_true'] at this
  exact ⟨okPb_ok this.1, this.2.1, this.2.2⟩
theorem turn3 {one z : D} (h1 : FrD 100 one) (hz : Odd z) {door : Int} (h0 : 0 ≤ door) (h5 : door < 5) : F_law_s3 one z (.int door) () = .ok (.nx ()) := by
  have a1 : outD door z .non = .str (reprD z) := by unfold outD doorOut; rw [bad_odd hz]
  have a2 : outD door one z = .str (reprD z) := by unfold outD doorOut; rw [bad_good h1 hz]
  have e3 : qRepr [z] = some (.str (reprD z)) := by unfold qRepr; dsimp only; rw [if_pos hz.rp]
  unfold F_law_s3
  simp only [eq__law_outcome (.odd hz) (.odd odd_non) h0 h5, eq__law_outcome (.good h1) (.odd hz) h0 h5, bR_ok, a1, a2, e3, bO_some, rep2, ne_strs, qBl_bl, cond_false]
theorem turn2 {one z : D} (h1 : FrD 100 one) (hz : Odd z) : F_law_s2 one z () = .ok (.nx ()) := by
  have e : qRng [.int 5] = some (iota 0 5) := rfl
  unfold F_law_s2
  rw [e]
  simp only [bO_some]
  rw [forR_unit (f := F_law_s3 one z) (iota 0 5) fun x hx => by
    obtain ⟨k, rfl, a, b⟩ := mem_iota hx
    exact turn3 h1 hz a (by simpa using b)]
  rfl
theorem turn1 {ns : List Int} (hl : ns.length ≤ 63) {k : Int} (h0 : 0 ≤ k) (hk : k ≤ 1000) : F_law_s1 (scr ns) (.int k) () = .ok (.nx ()) := by
  obtain ⟨p, e1, hp⟩ := eq__law_pool hl h0 hk
  obtain ⟨one, p', e2, h1, hp'⟩ := eq__law_random_number hp
  have e : qRng [.int 5] = some (iota 0 5) := rfl
  have e6 : qSz (iota 0 5) = some (iota 0 5) := rfl
  have v1 : Val (.nd .tup [.int 0, .int 1]) := .good (fr01.mono (by decide))
  unfold F_law_s1
  rw [e1]
  simp only [bR_ok, e2, noEx_ok, qNeg_int, bO_some, qItL]
  have eL := forR_unit (f := F_law_s2 one) things fun x hx => turn2 h1 (things_odd x hx)
  rw [show things = [.non, .int 1, .int 0, .bl true, .str "1", .nd .tup [.int 2, .int 4], .nd .tup [.int 1, .int 0], .nd .tup [.int 1, .int (-1)], .nd .lst [.int 1, .int 2], .nd .tup [.int 1], .nd .tup [.int 1, .int 1, .int 1], .nd .tup [.bl true, .int 1], .nd (.dic []) []] from rfl] at eL
  rw [eL]
  simp only [bR_ok, ctl_nx, e, bO_some, e6]
  rw [mapR_eq (g := fun x => match x with | .int d => outD d one (.nd .tup [.int 0, .int 1]) | _ => .non) (iota 0 5) fun x hx => by
    obtain ⟨k, rfl, a, b⟩ := mem_iota hx
    rw [eq__law_outcome (.good h1) v1 a (by simpa using b)]; rfl]
  have nb : bad2 one (fr 0 1) = none := by unfold bad2; rw [if_pos h1.isFr, if_pos fr01.isFr]
  have o0 : ∀ d : Int, d ≠ 3 → outD d one (fr 0 1) = .non := fun d hd => by unfold outD doorOut; rw [nb]; dsimp only; rw [if_neg (fun h => hd h.1 : ¬ (d = 3 ∧ fr 0 1 = fr 0 1))]
  have o3 : outD 3 one (fr 0 1) = .str "(0, 1)" := by unfold outD doorOut; rw [nb]; dsimp only; rw [if_pos (⟨rfl, rfl⟩ : (3 : Int) = 3 ∧ fr 0 1 = fr 0 1)]; show D.str (reprD (fr 0 1)) = _; congr 1
  have em : (iota 0 5).map (fun x => match x with | .int d => outD d one (.nd .tup [.int 0, .int 1]) | _ => .non) = [.non, .non, .non, .str "(0, 1)", .non] := by
    show [outD 0 one (fr 0 1), outD 1 one (fr 0 1), outD 2 one (fr 0 1), outD 3 one (fr 0 1), outD 4 one (fr 0 1)] = _
    rw [o0 0 (by decide), o0 1 (by decide), o0 2 (by decide), o3, o0 4 (by decide)]
  rw [em]
  have ene : qNe (.nd .lst [.non, .non, .non, .str "(0, 1)", .non]) (.nd .lst [.non, .non, .non, .str "(0, 1)", .non]) = some (.bl false) := by kernel_rfl
  simp only [noEx_ok, bR_ok, ene, bO_some, qBl_bl, cond_false]
theorem fin_law (ns : List Int) (hl : ns.length ≤ 63) : F_law (scr ns) = .ok (.bl true) := by
  have e3 : qLen1 [scr ns] = some (.int (ns.length : Int)) := by unfold qLen1; dsimp only; rw [List.length_map]
  unfold F_law
  simp only [e3, bO_some, qMin2, qMax2]
  have key : ∀ j : Int, 0 ≤ j → j ≤ 4 → (bO (qRng [.int j]) fun l4 => bR (forR l4 () (F_law_s1 (scr ns))) fun j5 => ctl j5 (fun r28 => .ok r28) fun (_ : Unit) => (.ok (.bl true) : Res DErr D)) = .ok (.bl true) := fun j h0 h4 => by
    have e : qRng [.int j] = some (iota 0 j.toNat) := by
      unfold qRng big; dsimp only
      rw [decide_eq_true (by omega : -(2 ^ 62) ≤ j), decide_eq_true (by omega : j < 2 ^ 62)]; rfl
    rw [e]
    simp only [bO_some]
    rw [forR_unit (f := F_law_s1 (scr ns)) (iota 0 j.toNat) fun x hx => by
      obtain ⟨k, rfl, a, b⟩ := mem_iota hx
      exact turn1 hl a (by omega)]
    rfl
  refine key _ ?_ ?_
  · split <;> split <;> omega
  · split <;> split <;> omega

/-! ### the walk: each def keeps its promise -/
def topS (i : Nat) : Stmt := PySem.Challenge.pw_pulleyworks_k03_errors_of_arithmetic.main.body.getD i (.Pass ⟨0, 0, 0, 0⟩)
abbrev s_is_integer : Stmt := topS 5
theorem sc_is_integer : FnScope ["value"] ["value"] (defScope s_is_integer) := ⟨rfl, rfl, rfl, by decide +kernel, rfl, by decide +kernel, by decide +kernel⟩
abbrev s_common_divisor : Stmt := topS 6
theorem sc_common_divisor : FnScope ["one", "other"] ["one", "other"] (defScope s_common_divisor) := ⟨rfl, rfl, rfl, by decide +kernel, rfl, by decide +kernel, by decide +kernel⟩
abbrev s_reduced : Stmt := topS 7
theorem sc_reduced : FnScope ["numerator", "denominator", "divisor"] ["numerator", "denominator"] (defScope s_reduced) := ⟨rfl, rfl, rfl, by decide +kernel, rfl, by decide +kernel, by decide +kernel⟩
abbrev s_is_fraction : Stmt := topS 8
theorem sc_is_fraction : FnScope ["value"] ["value"] (defScope s_is_fraction) := ⟨rfl, rfl, rfl, by decide +kernel, rfl, by decide +kernel, by decide +kernel⟩
abbrev s_check_fractions : Stmt := topS 9
theorem sc_check_fractions : FnScope ["values", "value"] ["values"] (defScope s_check_fractions) := ⟨rfl, rfl, rfl, by decide +kernel, rfl, by decide +kernel, by decide +kernel⟩
abbrev s_added : Stmt := topS 10
theorem sc_added : FnScope ["one", "other"] ["one", "other"] (defScope s_added) := ⟨rfl, rfl, rfl, by decide +kernel, rfl, by decide +kernel, by decide +kernel⟩
abbrev s_negative : Stmt := topS 11
theorem sc_negative : FnScope ["one"] ["one"] (defScope s_negative) := ⟨rfl, rfl, rfl, by decide +kernel, rfl, by decide +kernel, by decide +kernel⟩
abbrev s_multiplied : Stmt := topS 12
theorem sc_multiplied : FnScope ["one", "other"] ["one", "other"] (defScope s_multiplied) := ⟨rfl, rfl, rfl, by decide +kernel, rfl, by decide +kernel, by decide +kernel⟩
abbrev s_divided : Stmt := topS 13
theorem sc_divided : FnScope ["one", "other"] ["one", "other"] (defScope s_divided) := ⟨rfl, rfl, rfl, by decide +kernel, rfl, by decide +kernel, by decide +kernel⟩
abbrev s_is_less : Stmt := topS 14
theorem sc_is_less : FnScope ["one", "other"] ["one", "other"] (defScope s_is_less) := ⟨rfl, rfl, rfl, by decide +kernel, rfl, by decide +kernel, by decide +kernel⟩
abbrev s_plus : Stmt := topS 15
theorem sc_plus : FnScope ["one", "other"] ["one", "other"] (defScope s_plus) := ⟨rfl, rfl, rfl, by decide +kernel, rfl, by decide +kernel, by decide +kernel⟩
abbrev s_minus : Stmt := topS 16
theorem sc_minus : FnScope ["one", "other"] ["one", "other"] (defScope s_minus) := ⟨rfl, rfl, rfl, by decide +kernel, rfl, by decide +kernel, by decide +kernel⟩
abbrev s_times : Stmt := topS 17
theorem sc_times : FnScope ["one", "other"] ["one", "other"] (defScope s_times) := ⟨rfl, rfl, rfl, by decide +kernel, rfl, by decide +kernel, by decide +kernel⟩
abbrev s_over : Stmt := topS 18
theorem sc_over : FnScope ["one", "other"] ["one", "other"] (defScope s_over) := ⟨rfl, rfl, rfl, by decide +kernel, rfl, by decide +kernel, by decide +kernel⟩
abbrev s_compare : Stmt := topS 19
theorem sc_compare : FnScope ["one", "other"] ["one", "other"] (defScope s_compare) := ⟨rfl, rfl, rfl, by decide +kernel, rfl, by decide +kernel, by decide +kernel⟩
abbrev s__law_pool : Stmt := topS 21
theorem sc__law_pool : FnScope ["_law_script", "_law_k", "_law_cell", "_law_great", "_law_mixed"] ["_law_script", "_law_k"] (defScope s__law_pool) := ⟨rfl, rfl, rfl, by decide +kernel, rfl, by decide +kernel, by decide +kernel⟩
abbrev s__law_draw : Stmt := topS 22
theorem sc__law_draw : FnScope ["_law_pool_here", "_law_many", "_law_found"] ["_law_pool_here", "_law_many"] (defScope s__law_draw) := ⟨rfl, rfl, rfl, by decide +kernel, rfl, by decide +kernel, by decide +kernel⟩
abbrev s__law_gcd : Stmt := topS 23
theorem sc__law_gcd : FnScope ["_law_a", "_law_b"] ["_law_a", "_law_b"] (defScope s__law_gcd) := ⟨rfl, rfl, rfl, by decide +kernel, rfl, by decide +kernel, by decide +kernel⟩
abbrev s__law_made : Stmt := topS 24
theorem sc__law_made : FnScope ["_law_numerator", "_law_denominator", "_law_divisor"] ["_law_numerator", "_law_denominator"] (defScope s__law_made) := ⟨rfl, rfl, rfl, by decide +kernel, rfl, by decide +kernel, by decide +kernel⟩
abbrev s__law_random_number : Stmt := topS 25
theorem sc__law_random_number : FnScope ["_law_pool_here", "_law_choice"] ["_law_pool_here"] (defScope s__law_random_number) := ⟨rfl, rfl, rfl, by decide +kernel, rfl, by decide +kernel, by decide +kernel⟩
abbrev s__law_outcome : Stmt := topS 26
theorem sc__law_outcome : FnScope ["_law_door", "_law_one", "_law_other", "e"] ["_law_door", "_law_one", "_law_other"] (defScope s__law_outcome) := ⟨rfl, rfl, rfl, by decide +kernel, rfl, by decide +kernel, by decide +kernel⟩
abbrev s_law : Stmt := topS 27
theorem sc_law : FnScope ["_law_script", "_law_k", "_law_pool_here", "_law_one", "_law_thing", "_law_door"] ["_law_script"] (defScope s_law) := ⟨rfl, rfl, rfl, by decide +kernel, rfl, by decide +kernel, by decide +kernel⟩
/-- what the top has written -/
structure Txt (P : Program) (K : PySem.W.Frag) (mg : Str → Option Value) (f_is_integer f_common_divisor f_reduced f_is_fraction f_check_fractions f_added f_negative f_multiplied f_divided f_is_less f_plus f_minus f_times f_over f_compare f__law_pool f__law_draw f__law_gcd f__law_made f__law_random_number f__law_outcome f_law c_ZERO C_InvalidNumber i_InvalidNumber q_InvalidNumber d_eInvalidNumber C_WorkError : Addr) (d_is_integer d_common_divisor d_reduced d_is_fraction d_check_fractions d_added d_negative d_multiplied d_divided d_is_less d_plus d_minus d_times d_over d_compare d__law_pool d__law_draw d__law_gcd d__law_made d__law_random_number d__law_outcome d_law : FuncData) : Prop where
  E_InvalidNumber : ErrTxt P K mg "InvalidNumber" "value" C_InvalidNumber i_InvalidNumber q_InvalidNumber d_eInvalidNumber
  gc_WorkError : mg "WorkError" = some (.ref C_WorkError)
  gc_InvalidNumber : mg "InvalidNumber" = some (.ref C_InvalidNumber)
  tb_InvalidNumber : ∀ k C, mg (exN k) = some (.ref C) → PySem.W.exmOne K (.ref C) (.ref C_InvalidNumber) = some (tb_InvalidNumber k)
  xf_value : ∀ k C, mg (exN k) = some (.ref C) → exF k = "value" → XfC K C ∧ PySem.W.findIn K (.ref C) "value" = some none
  b_isinstance : mg "isinstance" = none
  b_bool : mg "bool" = none
  b_int : mg "int" = none
  b_abs : mg "abs" = none
  b_len : mg "len" = none
  b_tuple : mg "tuple" = none
  b_sum : mg "sum" = none
  b_repr : mg "repr" = none
  b_min : mg "min" = none
  b_max : mg "max" = none
  b_range : mg "range" = none
  g_ZERO : mg "ZERO" = some (.ref c_ZERO)
  r_ZERO : ∀ H, Rep K mg H (.nd .tup [(.int 0), (.int 1)]) (.ref c_ZERO)
  F_is_integer : FunV K "is_integer" "is_integer" s_is_integer f_is_integer d_is_integer
  m_is_integer : mg "is_integer" = some (.ref f_is_integer)
  b_is_integer_ : Binds K d_is_integer ["value"] []
  F_common_divisor : FunV K "common_divisor" "common_divisor" s_common_divisor f_common_divisor d_common_divisor
  m_common_divisor : mg "common_divisor" = some (.ref f_common_divisor)
  b_common_divisor_ : Binds K d_common_divisor ["one", "other"] []
  F_reduced : FunV K "reduced" "reduced" s_reduced f_reduced d_reduced
  m_reduced : mg "reduced" = some (.ref f_reduced)
  b_reduced_ : Binds K d_reduced ["numerator", "denominator"] []
  F_is_fraction : FunV K "is_fraction" "is_fraction" s_is_fraction f_is_fraction d_is_fraction
  m_is_fraction : mg "is_fraction" = some (.ref f_is_fraction)
  b_is_fraction_ : Binds K d_is_fraction ["value"] []
  F_check_fractions : FunV K "check_fractions" "check_fractions" s_check_fractions f_check_fractions d_check_fractions
  m_check_fractions : mg "check_fractions" = some (.ref f_check_fractions)
  b_check_fractions_ : Binds K d_check_fractions ["values"] []
  F_added : FunV K "added" "added" s_added f_added d_added
  m_added : mg "added" = some (.ref f_added)
  b_added_ : Binds K d_added ["one", "other"] []
  F_negative : FunV K "negative" "negative" s_negative f_negative d_negative
  m_negative : mg "negative" = some (.ref f_negative)
  b_negative_ : Binds K d_negative ["one"] []
  F_multiplied : FunV K "multiplied" "multiplied" s_multiplied f_multiplied d_multiplied
  m_multiplied : mg "multiplied" = some (.ref f_multiplied)
  b_multiplied_ : Binds K d_multiplied ["one", "other"] []
  F_divided : FunV K "divided" "divided" s_divided f_divided d_divided
  m_divided : mg "divided" = some (.ref f_divided)
  b_divided_ : Binds K d_divided ["one", "other"] []
  F_is_less : FunV K "is_less" "is_less" s_is_less f_is_less d_is_less
  m_is_less : mg "is_less" = some (.ref f_is_less)
  b_is_less_ : Binds K d_is_less ["one", "other"] []
  F_plus : FunV K "plus" "plus" s_plus f_plus d_plus
  m_plus : mg "plus" = some (.ref f_plus)
  b_plus_ : Binds K d_plus ["one", "other"] []
  F_minus : FunV K "minus" "minus" s_minus f_minus d_minus
  m_minus : mg "minus" = some (.ref f_minus)
  b_minus_ : Binds K d_minus ["one", "other"] []
  F_times : FunV K "times" "times" s_times f_times d_times
  m_times : mg "times" = some (.ref f_times)
  b_times_ : Binds K d_times ["one", "other"] []
  F_over : FunV K "over" "over" s_over f_over d_over
  m_over : mg "over" = some (.ref f_over)
  b_over_ : Binds K d_over ["one", "other"] []
  F_compare : FunV K "compare" "compare" s_compare f_compare d_compare
  m_compare : mg "compare" = some (.ref f_compare)
  b_compare_ : Binds K d_compare ["one", "other"] []
  F__law_pool : FunV K "_law_pool" "_law_pool" s__law_pool f__law_pool d__law_pool
  m__law_pool : mg "_law_pool" = some (.ref f__law_pool)
  b__law_pool_ : Binds K d__law_pool ["_law_script", "_law_k"] []
  F__law_draw : FunV K "_law_draw" "_law_draw" s__law_draw f__law_draw d__law_draw
  m__law_draw : mg "_law_draw" = some (.ref f__law_draw)
  b__law_draw_ : Binds K d__law_draw ["_law_pool_here", "_law_many"] []
  F__law_gcd : FunV K "_law_gcd" "_law_gcd" s__law_gcd f__law_gcd d__law_gcd
  m__law_gcd : mg "_law_gcd" = some (.ref f__law_gcd)
  b__law_gcd_ : Binds K d__law_gcd ["_law_a", "_law_b"] []
  F__law_made : FunV K "_law_made" "_law_made" s__law_made f__law_made d__law_made
  m__law_made : mg "_law_made" = some (.ref f__law_made)
  b__law_made_ : Binds K d__law_made ["_law_numerator", "_law_denominator"] []
  F__law_random_number : FunV K "_law_random_number" "_law_random_number" s__law_random_number f__law_random_number d__law_random_number
  m__law_random_number : mg "_law_random_number" = some (.ref f__law_random_number)
  b__law_random_number_ : Binds K d__law_random_number ["_law_pool_here"] []
  F__law_outcome : FunV K "_law_outcome" "_law_outcome" s__law_outcome f__law_outcome d__law_outcome
  m__law_outcome : mg "_law_outcome" = some (.ref f__law_outcome)
  b__law_outcome_ : Binds K d__law_outcome ["_law_door", "_law_one", "_law_other"] []
  F_law : FunV K "law" "law" s_law f_law d_law
  m_law : mg "law" = some (.ref f_law)
  b_law_ : Binds K d_law ["_law_script"] []
section
variable {P : Program} {w : World} {K : PySem.W.Frag} {mg : Str → Option Value} {base : Heap} {f_is_integer f_common_divisor f_reduced f_is_fraction f_check_fractions f_added f_negative f_multiplied f_divided f_is_less f_plus f_minus f_times f_over f_compare f__law_pool f__law_draw f__law_gcd f__law_made f__law_random_number f__law_outcome f_law c_ZERO C_InvalidNumber i_InvalidNumber q_InvalidNumber d_eInvalidNumber C_WorkError : Addr} {d_is_integer d_common_divisor d_reduced d_is_fraction d_check_fractions d_added d_negative d_multiplied d_divided d_is_less d_plus d_minus d_times d_over d_compare d__law_pool d__law_draw d__law_gcd d__law_made d__law_random_number d__law_outcome d_law : FuncData}
theorem w_is_integer (T : Txt P K mg f_is_integer f_common_divisor f_reduced f_is_fraction f_check_fractions f_added f_negative f_multiplied f_divided f_is_less f_plus f_minus f_times f_over f_compare f__law_pool f__law_draw f__law_gcd f__law_made f__law_random_number f__law_outcome f_law c_ZERO C_InvalidNumber i_InvalidNumber q_InvalidNumber d_eInvalidNumber C_WorkError d_is_integer d_common_divisor d_reduced d_is_fraction d_check_fractions d_added d_negative d_multiplied d_divided d_is_less d_plus d_minus d_times d_over d_compare d__law_pool d__law_draw d__law_gcd d__law_made d__law_random_number d__law_outcome d_law) : FnG P w K mg base 1 f_is_integer d_is_integer ["value"] (toA K mg 1 phi_is_integer) := by
  refine okA T.F_is_integer sc_is_integer phi_is_integer g_is_integer (fun cdv A outer s H E hr => ?_) law_is_integer
  have tk := takes_of (X := cxOf (L2.CX P w) P w K mg base ["value"] "is_integer" (defScope s_is_integer) f_is_integer cdv A outer s H E) (E := E) rfl rfl rfl rfl
  exact (pssd_one (psd_ret (pod_d (ped_and (pedA_isi (ped_var (pv 0)) (pe_bltn rfl T.b_int PyProof.Rows.boot_int rfl) rfl T.b_isinstance) (ped_one (ped_not (pedA_isi (ped_var (pv 0)) (pe_bltn rfl T.b_bool PyProof.Rows.boot_bool rfl) rfl T.b_isinstance)))))))
theorem w_common_divisor (T : Txt P K mg f_is_integer f_common_divisor f_reduced f_is_fraction f_check_fractions f_added f_negative f_multiplied f_divided f_is_less f_plus f_minus f_times f_over f_compare f__law_pool f__law_draw f__law_gcd f__law_made f__law_random_number f__law_outcome f_law c_ZERO C_InvalidNumber i_InvalidNumber q_InvalidNumber d_eInvalidNumber C_WorkError d_is_integer d_common_divisor d_reduced d_is_fraction d_check_fractions d_added d_negative d_multiplied d_divided d_is_less d_plus d_minus d_times d_over d_compare d__law_pool d__law_draw d__law_gcd d__law_made d__law_random_number d__law_outcome d_law) : FnG P w K mg base 1 f_common_divisor d_common_divisor ["one", "other"] (toA K mg 2 phi_common_divisor) := by
  refine okA T.F_common_divisor sc_common_divisor phi_common_divisor g_common_divisor (fun cdv A outer s H E hr => ?_) law_common_divisor
  have tk := takes_of (X := cxOf (L2.CX P w) P w K mg base ["one", "other"] "common_divisor" (defScope s_common_divisor) f_common_divisor cdv A outer s H E) (E := E) rfl rfl rfl rfl
  exact (pssd_cons (psd_par (i := 0) (j := 1) rfl sc_common_divisor.nd rfl rfl (by decide) rfl rfl (pedA_callB k_abs rfl T.b_abs PyProof.Rows.boot_abs (pad_cons (ped_var (pv 0)) pad_nil)) (pedA_callB k_abs rfl T.b_abs PyProof.Rows.boot_abs (pad_cons (ped_var (pv 1)) pad_nil)) (fun pa pb => ps_par rfl sc_common_divisor.nd rfl rfl (by decide) rfl rfl (pa_cons pa (pa_cons pb pa_nil)) (by rfl)))
    (pssd_cons (psd_while (passes_of rfl) (ptdA_cmp a_gt (ped_var (pv 1)) ped_int) (pssd_one (psd_par (i := 0) (j := 1) rfl sc_common_divisor.nd rfl rfl (by decide) rfl rfl (ped_var (pv 1)) (pedA_op a_mod (ped_var (pv 0)) (ped_var (pv 1))) (fun pa pb => ps_par rfl sc_common_divisor.nd rfl rfl (by decide) rfl rfl (pa_cons pa (pa_cons pb pa_nil)) (by rfl)))))
    (pssd_one (psd_ret (pod_d (ped_var (pv 0)))))))
theorem w_reduced (T : Txt P K mg f_is_integer f_common_divisor f_reduced f_is_fraction f_check_fractions f_added f_negative f_multiplied f_divided f_is_less f_plus f_minus f_times f_over f_compare f__law_pool f__law_draw f__law_gcd f__law_made f__law_random_number f__law_outcome f_law c_ZERO C_InvalidNumber i_InvalidNumber q_InvalidNumber d_eInvalidNumber C_WorkError d_is_integer d_common_divisor d_reduced d_is_fraction d_check_fractions d_added d_negative d_multiplied d_divided d_is_less d_plus d_minus d_times d_over d_compare d__law_pool d__law_draw d__law_gcd d__law_made d__law_random_number d__law_outcome d_law) (G_common_divisor : FnG P w K mg base 1 f_common_divisor d_common_divisor ["one", "other"] (toA K mg 2 phi_common_divisor)) : FnG P w K mg base 2 f_reduced d_reduced ["numerator", "denominator"] (toA K mg 2 phi_reduced) := by
  refine okA T.F_reduced sc_reduced phi_reduced g_reduced (fun cdv A outer s H E hr => ?_) law_reduced
  have tk := takes_of (X := cxOf (L2.CX P w) P w K mg base ["numerator", "denominator", "divisor"] "reduced" (defScope s_reduced) f_reduced cdv A outer s H E) (E := E) rfl rfl rfl rfl
  exact (pssd_cons (psd_set (i := 2) sc_reduced.nd rfl (Or.inl rfl) (pod_d (ped_fz (pod_callA tk G_common_divisor (hr.mono (by decide)) rfl T.m_common_divisor T.F_common_divisor.kp T.b_common_divisor_ (pad_cons (ped_var (pv 0)) (pad_cons (ped_var (pv 1)) pad_nil))))))
    (pssd_cons (psd_if (ptdA_cmp a_lt (ped_var (pv 1)) ped_int) (pssd_one (psd_set (i := 2) sc_reduced.nd rfl (Or.inl rfl) (pod_d (pedA_un a_neg (ped_var (pv 2)))))) pssd_nil)
    (pssd_one (psd_ret (pod_d (ped_tup (pad_cons (pedA_op a_div (ped_var (pv 0)) (ped_var (pv 2))) (pad_cons (pedA_op a_div (ped_var (pv 1)) (ped_var (pv 2))) pad_nil))))))))
theorem w_is_fraction (T : Txt P K mg f_is_integer f_common_divisor f_reduced f_is_fraction f_check_fractions f_added f_negative f_multiplied f_divided f_is_less f_plus f_minus f_times f_over f_compare f__law_pool f__law_draw f__law_gcd f__law_made f__law_random_number f__law_outcome f_law c_ZERO C_InvalidNumber i_InvalidNumber q_InvalidNumber d_eInvalidNumber C_WorkError d_is_integer d_common_divisor d_reduced d_is_fraction d_check_fractions d_added d_negative d_multiplied d_divided d_is_less d_plus d_minus d_times d_over d_compare d__law_pool d__law_draw d__law_gcd d__law_made d__law_random_number d__law_outcome d_law) (G_common_divisor : FnG P w K mg base 1 f_common_divisor d_common_divisor ["one", "other"] (toA K mg 2 phi_common_divisor)) (G_is_integer : FnG P w K mg base 1 f_is_integer d_is_integer ["value"] (toA K mg 1 phi_is_integer)) : FnG P w K mg base 2 f_is_fraction d_is_fraction ["value"] (toA K mg 1 phi_is_fraction) := by
  refine okA T.F_is_fraction sc_is_fraction phi_is_fraction g_is_fraction (fun cdv A outer s H E hr => ?_) law_is_fraction
  have tk := takes_of (X := cxOf (L2.CX P w) P w K mg base ["value"] "is_fraction" (defScope s_is_fraction) f_is_fraction cdv A outer s H E) (E := E) rfl rfl rfl rfl
  exact (pssd_cons (psd_if (PWD.pt (pwd_or (ptd_not (ptd_val (pedA_isi (ped_var (pv 0)) (pe_bltn rfl T.b_tuple PyProof.Rows.boot_tuple rfl) rfl T.b_isinstance))) (pwd_or1 (ptdA_cmp (a_ne hr.r) (pedA_callB k_len1 rfl T.b_len PySem.boot_len (pad_cons (ped_var (pv 0)) pad_nil)) ped_int)))) (pssd_one (psd_ret (pod_d ped_bl))) pssd_nil)
    (pssd_cons (psd_if (PWD.pt (pwd_or (ptd_not (ptd_val (ped_fz (pod_callA tk G_is_integer (hr.mono (by decide)) rfl T.m_is_integer T.F_is_integer.kp T.b_is_integer_ (pad_cons (pedA_ix a_ixSeq (ped_var (pv 0)) ped_int) pad_nil))))) (pwd_or (ptd_not (ptd_val (ped_fz (pod_callA tk G_is_integer (hr.mono (by decide)) rfl T.m_is_integer T.F_is_integer.kp T.b_is_integer_ (pad_cons (pedA_ix a_ixSeq (ped_var (pv 0)) ped_int) pad_nil))))) (pwd_or1 (ptdA_cmp a_lt (pedA_ix a_ixSeq (ped_var (pv 0)) ped_int) ped_int))))) (pssd_one (psd_ret (pod_d ped_bl))) pssd_nil)
    (pssd_one (psd_ret (pod_d (pedA_cmp (a_eq hr.r) (ped_fz (pod_callA tk G_common_divisor (hr.mono (by decide)) rfl T.m_common_divisor T.F_common_divisor.kp T.b_common_divisor_ (pad_cons (pedA_ix a_ixSeq (ped_var (pv 0)) ped_int) (pad_cons (pedA_ix a_ixSeq (ped_var (pv 0)) ped_int) pad_nil)))) ped_int))))))
theorem w_check_fractions (T : Txt P K mg f_is_integer f_common_divisor f_reduced f_is_fraction f_check_fractions f_added f_negative f_multiplied f_divided f_is_less f_plus f_minus f_times f_over f_compare f__law_pool f__law_draw f__law_gcd f__law_made f__law_random_number f__law_outcome f_law c_ZERO C_InvalidNumber i_InvalidNumber q_InvalidNumber d_eInvalidNumber C_WorkError d_is_integer d_common_divisor d_reduced d_is_fraction d_check_fractions d_added d_negative d_multiplied d_divided d_is_less d_plus d_minus d_times d_over d_compare d__law_pool d__law_draw d__law_gcd d__law_made d__law_random_number d__law_outcome d_law) (G_is_fraction : FnG P w K mg base 2 f_is_fraction d_is_fraction ["value"] (toA K mg 1 phi_is_fraction)) : FnG P w K mg base 3 f_check_fractions d_check_fractions ["values"] (toA K mg 1 phi_check_fractions) := by
  refine okA T.F_check_fractions sc_check_fractions phi_check_fractions g_check_fractions (fun cdv A outer s H E hr => ?_) law_check_fractions
  have tk := takes_of (X := cxOf (L2.CX P w) P w K mg base ["values", "value"] "check_fractions" (defScope s_check_fractions) f_check_fractions cdv A outer s H E) (E := E) rfl rfl rfl rfl
  exact (pssd_one (psd_for (passes_of rfl) rfl (pidA_lst (ped_var (pv 0))) (pgd_name (i := 1) sc_check_fractions.nd rfl (Or.inl rfl)) (pssd_one (psd_if (ptd_not (ptd_val (ped_fz (pod_callA tk G_is_fraction (hr.mono (by decide)) rfl T.m_is_fraction T.F_is_fraction.kp T.b_is_fraction_ (pad_cons (ped_var (pv 1)) pad_nil))))) (pssd_one (psd_raise (k := 0) rfl tk T.E_InvalidNumber rfl rfl fld_value (hr.mono (by decide) : RoomG 1 _) (ped_var (pv 1)) rfl)) pssd_nil))))
theorem w_added (T : Txt P K mg f_is_integer f_common_divisor f_reduced f_is_fraction f_check_fractions f_added f_negative f_multiplied f_divided f_is_less f_plus f_minus f_times f_over f_compare f__law_pool f__law_draw f__law_gcd f__law_made f__law_random_number f__law_outcome f_law c_ZERO C_InvalidNumber i_InvalidNumber q_InvalidNumber d_eInvalidNumber C_WorkError d_is_integer d_common_divisor d_reduced d_is_fraction d_check_fractions d_added d_negative d_multiplied d_divided d_is_less d_plus d_minus d_times d_over d_compare d__law_pool d__law_draw d__law_gcd d__law_made d__law_random_number d__law_outcome d_law) (G_reduced : FnG P w K mg base 2 f_reduced d_reduced ["numerator", "denominator"] (toA K mg 2 phi_reduced)) : FnG P w K mg base 3 f_added d_added ["one", "other"] (toA K mg 2 phi_added) := by
  refine okA T.F_added sc_added phi_added g_added (fun cdv A outer s H E hr => ?_) law_added
  have tk := takes_of (X := cxOf (L2.CX P w) P w K mg base ["one", "other"] "added" (defScope s_added) f_added cdv A outer s H E) (E := E) rfl rfl rfl rfl
  exact (pssd_one (psd_ret (pod_d (ped_fz (pod_callA tk G_reduced (hr.mono (by decide)) rfl T.m_reduced T.F_reduced.kp T.b_reduced_ (pad_cons (pedA_op a_add (pedA_op a_mul (pedA_ix a_ixSeq (ped_var (pv 0)) ped_int) (pedA_ix a_ixSeq (ped_var (pv 1)) ped_int)) (pedA_op a_mul (pedA_ix a_ixSeq (ped_var (pv 1)) ped_int) (pedA_ix a_ixSeq (ped_var (pv 0)) ped_int))) (pad_cons (pedA_op a_mul (pedA_ix a_ixSeq (ped_var (pv 0)) ped_int) (pedA_ix a_ixSeq (ped_var (pv 1)) ped_int)) pad_nil)))))))
theorem w_negative (T : Txt P K mg f_is_integer f_common_divisor f_reduced f_is_fraction f_check_fractions f_added f_negative f_multiplied f_divided f_is_less f_plus f_minus f_times f_over f_compare f__law_pool f__law_draw f__law_gcd f__law_made f__law_random_number f__law_outcome f_law c_ZERO C_InvalidNumber i_InvalidNumber q_InvalidNumber d_eInvalidNumber C_WorkError d_is_integer d_common_divisor d_reduced d_is_fraction d_check_fractions d_added d_negative d_multiplied d_divided d_is_less d_plus d_minus d_times d_over d_compare d__law_pool d__law_draw d__law_gcd d__law_made d__law_random_number d__law_outcome d_law) : FnG P w K mg base 1 f_negative d_negative ["one"] (toA K mg 1 phi_negative) := by
  refine okA T.F_negative sc_negative phi_negative g_negative (fun cdv A outer s H E hr => ?_) law_negative
  have tk := takes_of (X := cxOf (L2.CX P w) P w K mg base ["one"] "negative" (defScope s_negative) f_negative cdv A outer s H E) (E := E) rfl rfl rfl rfl
  exact (pssd_one (psd_ret (pod_d (ped_tup (pad_cons (pedA_un a_neg (pedA_ix a_ixSeq (ped_var (pv 0)) ped_int)) (pad_cons (pedA_ix a_ixSeq (ped_var (pv 0)) ped_int) pad_nil))))))
theorem w_multiplied (T : Txt P K mg f_is_integer f_common_divisor f_reduced f_is_fraction f_check_fractions f_added f_negative f_multiplied f_divided f_is_less f_plus f_minus f_times f_over f_compare f__law_pool f__law_draw f__law_gcd f__law_made f__law_random_number f__law_outcome f_law c_ZERO C_InvalidNumber i_InvalidNumber q_InvalidNumber d_eInvalidNumber C_WorkError d_is_integer d_common_divisor d_reduced d_is_fraction d_check_fractions d_added d_negative d_multiplied d_divided d_is_less d_plus d_minus d_times d_over d_compare d__law_pool d__law_draw d__law_gcd d__law_made d__law_random_number d__law_outcome d_law) (G_reduced : FnG P w K mg base 2 f_reduced d_reduced ["numerator", "denominator"] (toA K mg 2 phi_reduced)) : FnG P w K mg base 3 f_multiplied d_multiplied ["one", "other"] (toA K mg 2 phi_multiplied) := by
  refine okA T.F_multiplied sc_multiplied phi_multiplied g_multiplied (fun cdv A outer s H E hr => ?_) law_multiplied
  have tk := takes_of (X := cxOf (L2.CX P w) P w K mg base ["one", "other"] "multiplied" (defScope s_multiplied) f_multiplied cdv A outer s H E) (E := E) rfl rfl rfl rfl
  exact (pssd_one (psd_ret (pod_d (ped_fz (pod_callA tk G_reduced (hr.mono (by decide)) rfl T.m_reduced T.F_reduced.kp T.b_reduced_ (pad_cons (pedA_op a_mul (pedA_ix a_ixSeq (ped_var (pv 0)) ped_int) (pedA_ix a_ixSeq (ped_var (pv 1)) ped_int)) (pad_cons (pedA_op a_mul (pedA_ix a_ixSeq (ped_var (pv 0)) ped_int) (pedA_ix a_ixSeq (ped_var (pv 1)) ped_int)) pad_nil)))))))
theorem w_divided (T : Txt P K mg f_is_integer f_common_divisor f_reduced f_is_fraction f_check_fractions f_added f_negative f_multiplied f_divided f_is_less f_plus f_minus f_times f_over f_compare f__law_pool f__law_draw f__law_gcd f__law_made f__law_random_number f__law_outcome f_law c_ZERO C_InvalidNumber i_InvalidNumber q_InvalidNumber d_eInvalidNumber C_WorkError d_is_integer d_common_divisor d_reduced d_is_fraction d_check_fractions d_added d_negative d_multiplied d_divided d_is_less d_plus d_minus d_times d_over d_compare d__law_pool d__law_draw d__law_gcd d__law_made d__law_random_number d__law_outcome d_law) (G_reduced : FnG P w K mg base 2 f_reduced d_reduced ["numerator", "denominator"] (toA K mg 2 phi_reduced)) : FnG P w K mg base 3 f_divided d_divided ["one", "other"] (toA K mg 2 phi_divided) := by
  refine okA T.F_divided sc_divided phi_divided g_divided (fun cdv A outer s H E hr => ?_) law_divided
  have tk := takes_of (X := cxOf (L2.CX P w) P w K mg base ["one", "other"] "divided" (defScope s_divided) f_divided cdv A outer s H E) (E := E) rfl rfl rfl rfl
  exact (pssd_one (psd_ret (pod_d (ped_fz (pod_callA tk G_reduced (hr.mono (by decide)) rfl T.m_reduced T.F_reduced.kp T.b_reduced_ (pad_cons (pedA_op a_mul (pedA_ix a_ixSeq (ped_var (pv 0)) ped_int) (pedA_ix a_ixSeq (ped_var (pv 1)) ped_int)) (pad_cons (pedA_op a_mul (pedA_ix a_ixSeq (ped_var (pv 0)) ped_int) (pedA_ix a_ixSeq (ped_var (pv 1)) ped_int)) pad_nil)))))))
theorem w_is_less (T : Txt P K mg f_is_integer f_common_divisor f_reduced f_is_fraction f_check_fractions f_added f_negative f_multiplied f_divided f_is_less f_plus f_minus f_times f_over f_compare f__law_pool f__law_draw f__law_gcd f__law_made f__law_random_number f__law_outcome f_law c_ZERO C_InvalidNumber i_InvalidNumber q_InvalidNumber d_eInvalidNumber C_WorkError d_is_integer d_common_divisor d_reduced d_is_fraction d_check_fractions d_added d_negative d_multiplied d_divided d_is_less d_plus d_minus d_times d_over d_compare d__law_pool d__law_draw d__law_gcd d__law_made d__law_random_number d__law_outcome d_law) : FnG P w K mg base 1 f_is_less d_is_less ["one", "other"] (toA K mg 2 phi_is_less) := by
  refine okA T.F_is_less sc_is_less phi_is_less g_is_less (fun cdv A outer s H E hr => ?_) law_is_less
  have tk := takes_of (X := cxOf (L2.CX P w) P w K mg base ["one", "other"] "is_less" (defScope s_is_less) f_is_less cdv A outer s H E) (E := E) rfl rfl rfl rfl
  exact (pssd_one (psd_ret (pod_d (pedA_cmp a_lt (pedA_op a_mul (pedA_ix a_ixSeq (ped_var (pv 0)) ped_int) (pedA_ix a_ixSeq (ped_var (pv 1)) ped_int)) (pedA_op a_mul (pedA_ix a_ixSeq (ped_var (pv 1)) ped_int) (pedA_ix a_ixSeq (ped_var (pv 0)) ped_int))))))
theorem w_plus (T : Txt P K mg f_is_integer f_common_divisor f_reduced f_is_fraction f_check_fractions f_added f_negative f_multiplied f_divided f_is_less f_plus f_minus f_times f_over f_compare f__law_pool f__law_draw f__law_gcd f__law_made f__law_random_number f__law_outcome f_law c_ZERO C_InvalidNumber i_InvalidNumber q_InvalidNumber d_eInvalidNumber C_WorkError d_is_integer d_common_divisor d_reduced d_is_fraction d_check_fractions d_added d_negative d_multiplied d_divided d_is_less d_plus d_minus d_times d_over d_compare d__law_pool d__law_draw d__law_gcd d__law_made d__law_random_number d__law_outcome d_law) (G_added : FnG P w K mg base 3 f_added d_added ["one", "other"] (toA K mg 2 phi_added)) (G_check_fractions : FnG P w K mg base 3 f_check_fractions d_check_fractions ["values"] (toA K mg 1 phi_check_fractions)) : FnG P w K mg base 4 f_plus d_plus ["one", "other"] (toA K mg 2 phi_plus) := by
  refine okA T.F_plus sc_plus phi_plus g_plus (fun cdv A outer s H E hr => ?_) law_plus
  have tk := takes_of (X := cxOf (L2.CX P w) P w K mg base ["one", "other"] "plus" (defScope s_plus) f_plus cdv A outer s H E) (E := E) rfl rfl rfl rfl
  exact (pssd_cons (psd_expr (pod_callA tk G_check_fractions (hr.mono (by decide)) rfl T.m_check_fractions T.F_check_fractions.kp T.b_check_fractions_ (pad_cons (pedA_lst (pad_cons (ped_var (pv 0)) (pad_cons (ped_var (pv 1)) pad_nil))) pad_nil)))
    (pssd_one (psd_ret (pod_d (ped_fz (pod_callA tk G_added (hr.mono (by decide)) rfl T.m_added T.F_added.kp T.b_added_ (pad_cons (ped_var (pv 0)) (pad_cons (ped_var (pv 1)) pad_nil))))))))
theorem w_minus (T : Txt P K mg f_is_integer f_common_divisor f_reduced f_is_fraction f_check_fractions f_added f_negative f_multiplied f_divided f_is_less f_plus f_minus f_times f_over f_compare f__law_pool f__law_draw f__law_gcd f__law_made f__law_random_number f__law_outcome f_law c_ZERO C_InvalidNumber i_InvalidNumber q_InvalidNumber d_eInvalidNumber C_WorkError d_is_integer d_common_divisor d_reduced d_is_fraction d_check_fractions d_added d_negative d_multiplied d_divided d_is_less d_plus d_minus d_times d_over d_compare d__law_pool d__law_draw d__law_gcd d__law_made d__law_random_number d__law_outcome d_law) (G_added : FnG P w K mg base 3 f_added d_added ["one", "other"] (toA K mg 2 phi_added)) (G_negative : FnG P w K mg base 1 f_negative d_negative ["one"] (toA K mg 1 phi_negative)) (G_check_fractions : FnG P w K mg base 3 f_check_fractions d_check_fractions ["values"] (toA K mg 1 phi_check_fractions)) : FnG P w K mg base 4 f_minus d_minus ["one", "other"] (toA K mg 2 phi_minus) := by
  refine okA T.F_minus sc_minus phi_minus g_minus (fun cdv A outer s H E hr => ?_) law_minus
  have tk := takes_of (X := cxOf (L2.CX P w) P w K mg base ["one", "other"] "minus" (defScope s_minus) f_minus cdv A outer s H E) (E := E) rfl rfl rfl rfl
  exact (pssd_cons (psd_expr (pod_callA tk G_check_fractions (hr.mono (by decide)) rfl T.m_check_fractions T.F_check_fractions.kp T.b_check_fractions_ (pad_cons (pedA_lst (pad_cons (ped_var (pv 0)) (pad_cons (ped_var (pv 1)) pad_nil))) pad_nil)))
    (pssd_one (psd_ret (pod_d (ped_fz (pod_callA tk G_added (hr.mono (by decide)) rfl T.m_added T.F_added.kp T.b_added_ (pad_cons (ped_var (pv 0)) (pad_cons (ped_fz (pod_callA tk G_negative (hr.mono (by decide)) rfl T.m_negative T.F_negative.kp T.b_negative_ (pad_cons (ped_var (pv 1)) pad_nil))) pad_nil))))))))
theorem w_times (T : Txt P K mg f_is_integer f_common_divisor f_reduced f_is_fraction f_check_fractions f_added f_negative f_multiplied f_divided f_is_less f_plus f_minus f_times f_over f_compare f__law_pool f__law_draw f__law_gcd f__law_made f__law_random_number f__law_outcome f_law c_ZERO C_InvalidNumber i_InvalidNumber q_InvalidNumber d_eInvalidNumber C_WorkError d_is_integer d_common_divisor d_reduced d_is_fraction d_check_fractions d_added d_negative d_multiplied d_divided d_is_less d_plus d_minus d_times d_over d_compare d__law_pool d__law_draw d__law_gcd d__law_made d__law_random_number d__law_outcome d_law) (G_multiplied : FnG P w K mg base 3 f_multiplied d_multiplied ["one", "other"] (toA K mg 2 phi_multiplied)) (G_check_fractions : FnG P w K mg base 3 f_check_fractions d_check_fractions ["values"] (toA K mg 1 phi_check_fractions)) : FnG P w K mg base 4 f_times d_times ["one", "other"] (toA K mg 2 phi_times) := by
  refine okA T.F_times sc_times phi_times g_times (fun cdv A outer s H E hr => ?_) law_times
  have tk := takes_of (X := cxOf (L2.CX P w) P w K mg base ["one", "other"] "times" (defScope s_times) f_times cdv A outer s H E) (E := E) rfl rfl rfl rfl
  exact (pssd_cons (psd_expr (pod_callA tk G_check_fractions (hr.mono (by decide)) rfl T.m_check_fractions T.F_check_fractions.kp T.b_check_fractions_ (pad_cons (pedA_lst (pad_cons (ped_var (pv 0)) (pad_cons (ped_var (pv 1)) pad_nil))) pad_nil)))
    (pssd_one (psd_ret (pod_d (ped_fz (pod_callA tk G_multiplied (hr.mono (by decide)) rfl T.m_multiplied T.F_multiplied.kp T.b_multiplied_ (pad_cons (ped_var (pv 0)) (pad_cons (ped_var (pv 1)) pad_nil))))))))
theorem w_over (T : Txt P K mg f_is_integer f_common_divisor f_reduced f_is_fraction f_check_fractions f_added f_negative f_multiplied f_divided f_is_less f_plus f_minus f_times f_over f_compare f__law_pool f__law_draw f__law_gcd f__law_made f__law_random_number f__law_outcome f_law c_ZERO C_InvalidNumber i_InvalidNumber q_InvalidNumber d_eInvalidNumber C_WorkError d_is_integer d_common_divisor d_reduced d_is_fraction d_check_fractions d_added d_negative d_multiplied d_divided d_is_less d_plus d_minus d_times d_over d_compare d__law_pool d__law_draw d__law_gcd d__law_made d__law_random_number d__law_outcome d_law) (G_divided : FnG P w K mg base 3 f_divided d_divided ["one", "other"] (toA K mg 2 phi_divided)) (G_check_fractions : FnG P w K mg base 3 f_check_fractions d_check_fractions ["values"] (toA K mg 1 phi_check_fractions)) : FnG P w K mg base 4 f_over d_over ["one", "other"] (toA K mg 2 phi_over) := by
  refine okA T.F_over sc_over phi_over g_over (fun cdv A outer s H E hr => ?_) law_over
  have tk := takes_of (X := cxOf (L2.CX P w) P w K mg base ["one", "other"] "over" (defScope s_over) f_over cdv A outer s H E) (E := E) rfl rfl rfl rfl
  exact (pssd_cons (psd_expr (pod_callA tk G_check_fractions (hr.mono (by decide)) rfl T.m_check_fractions T.F_check_fractions.kp T.b_check_fractions_ (pad_cons (pedA_lst (pad_cons (ped_var (pv 0)) (pad_cons (ped_var (pv 1)) pad_nil))) pad_nil)))
    (pssd_cons (psd_if (ptdA_cmp (a_eq hr.r) (ped_var (pv 1)) (ped_c (pe_glob (v := .ref c_ZERO) rfl T.g_ZERO rfl) T.r_ZERO)) (pssd_one (psd_raise (k := 0) rfl tk T.E_InvalidNumber rfl rfl fld_value (hr.mono (by decide) : RoomG 1 _) (ped_var (pv 1)) rfl)) pssd_nil)
    (pssd_one (psd_ret (pod_d (ped_fz (pod_callA tk G_divided (hr.mono (by decide)) rfl T.m_divided T.F_divided.kp T.b_divided_ (pad_cons (ped_var (pv 0)) (pad_cons (ped_var (pv 1)) pad_nil)))))))))
theorem w_compare (T : Txt P K mg f_is_integer f_common_divisor f_reduced f_is_fraction f_check_fractions f_added f_negative f_multiplied f_divided f_is_less f_plus f_minus f_times f_over f_compare f__law_pool f__law_draw f__law_gcd f__law_made f__law_random_number f__law_outcome f_law c_ZERO C_InvalidNumber i_InvalidNumber q_InvalidNumber d_eInvalidNumber C_WorkError d_is_integer d_common_divisor d_reduced d_is_fraction d_check_fractions d_added d_negative d_multiplied d_divided d_is_less d_plus d_minus d_times d_over d_compare d__law_pool d__law_draw d__law_gcd d__law_made d__law_random_number d__law_outcome d_law) (G_is_less : FnG P w K mg base 1 f_is_less d_is_less ["one", "other"] (toA K mg 2 phi_is_less)) (G_check_fractions : FnG P w K mg base 3 f_check_fractions d_check_fractions ["values"] (toA K mg 1 phi_check_fractions)) : FnG P w K mg base 4 f_compare d_compare ["one", "other"] (toA K mg 2 phi_compare) := by
  refine okA T.F_compare sc_compare phi_compare g_compare (fun cdv A outer s H E hr => ?_) law_compare
  have tk := takes_of (X := cxOf (L2.CX P w) P w K mg base ["one", "other"] "compare" (defScope s_compare) f_compare cdv A outer s H E) (E := E) rfl rfl rfl rfl
  exact (pssd_cons (psd_expr (pod_callA tk G_check_fractions (hr.mono (by decide)) rfl T.m_check_fractions T.F_check_fractions.kp T.b_check_fractions_ (pad_cons (pedA_lst (pad_cons (ped_var (pv 0)) (pad_cons (ped_var (pv 1)) pad_nil))) pad_nil)))
    (pssd_one (psd_ret (pod_d (ped_ifx (ptdA_cmp (a_eq hr.r) (ped_var (pv 0)) (ped_var (pv 1))) ped_int (ped_ifx (ptd_val (ped_fz (pod_callA tk G_is_less (hr.mono (by decide)) rfl T.m_is_less T.F_is_less.kp T.b_is_less_ (pad_cons (ped_var (pv 0)) (pad_cons (ped_var (pv 1)) pad_nil))))) (pedA_un a_neg ped_int) ped_int))))))
theorem w__law_pool (T : Txt P K mg f_is_integer f_common_divisor f_reduced f_is_fraction f_check_fractions f_added f_negative f_multiplied f_divided f_is_less f_plus f_minus f_times f_over f_compare f__law_pool f__law_draw f__law_gcd f__law_made f__law_random_number f__law_outcome f_law c_ZERO C_InvalidNumber i_InvalidNumber q_InvalidNumber d_eInvalidNumber C_WorkError d_is_integer d_common_divisor d_reduced d_is_fraction d_check_fractions d_added d_negative d_multiplied d_divided d_is_less d_plus d_minus d_times d_over d_compare d__law_pool d__law_draw d__law_gcd d__law_made d__law_random_number d__law_outcome d_law) : FnG P w K mg base 1 f__law_pool d__law_pool ["_law_script", "_law_k"] (toA K mg 2 phi__law_pool) := by
  refine okA T.F__law_pool sc__law_pool phi__law_pool g__law_pool (fun cdv A outer s H E hr => ?_) law__law_pool
  have tk := takes_of (X := cxOf (L2.CX P w) P w K mg base ["_law_script", "_law_k", "_law_cell", "_law_great", "_law_mixed"] "_law_pool" (defScope s__law_pool) f__law_pool cdv A outer s H E) (E := E) rfl rfl rfl rfl
  exact (pssd_cons (psd_set (i := 2) sc__law_pool.nd rfl (Or.inl rfl) (pod_d (pedA_op a_add (pedA_op a_mul ped_int (pedA_callB (k_sum rfl) rfl T.b_sum PyProof.Rows.boot_sum (pad_cons (pedA_sl (ped_var (pv 0)) pp_none (ppA_some ped_int)) pad_nil))) (ped_var (pv 1)))))
    (pssd_cons (psd_if (ptdA_cmp a_lt (ped_var (pv 1)) (pedA_callB k_len1 rfl T.b_len PySem.boot_len (pad_cons (ped_var (pv 0)) pad_nil))) (pssd_one (psd_set (i := 2) sc__law_pool.nd rfl (Or.inl rfl) (pod_d (pedA_ix a_ixSeq (ped_var (pv 0)) (ped_var (pv 1)))))) pssd_nil)
    (pssd_cons (psd_set (i := 3) sc__law_pool.nd rfl (Or.inl rfl) (pod_d (pedA_callB k_abs rfl T.b_abs PyProof.Rows.boot_abs (pad_cons (ped_var (pv 2)) pad_nil))))
    (pssd_cons (psd_set (i := 4) sc__law_pool.nd rfl (Or.inl rfl) (pod_d (pedA_op a_mod (pedA_op a_mul (pedA_op a_add (pedA_op a_add (pedA_op a_add (pedA_op a_mod (ped_var (pv 3)) ped_int) (pedA_op a_mul (pedA_op a_mul ped_int (ped_var (pv 1))) (ped_var (pv 1)))) (pedA_op a_mul ped_int (ped_var (pv 1)))) ped_int) ped_int) ped_int)))
    (pssd_one (psd_ret (pod_lst (pad_cons (pedA_op a_mul (ped_var (pv 3)) (pedA_callTy k_int1 rfl T.b_int PyProof.Rows.boot_int (pad_cons (pedA_cmp a_ge (ped_var (pv 3)) (pedA_op a_pow ped_int ped_int)) pad_nil))) (pad_cons (pedA_op a_mod (pedA_op a_mul (ped_var (pv 4)) (ped_var (pv 4))) ped_int) pad_nil)))))))))
theorem w__law_draw (T : Txt P K mg f_is_integer f_common_divisor f_reduced f_is_fraction f_check_fractions f_added f_negative f_multiplied f_divided f_is_less f_plus f_minus f_times f_over f_compare f__law_pool f__law_draw f__law_gcd f__law_made f__law_random_number f__law_outcome f_law c_ZERO C_InvalidNumber i_InvalidNumber q_InvalidNumber d_eInvalidNumber C_WorkError d_is_integer d_common_divisor d_reduced d_is_fraction d_check_fractions d_added d_negative d_multiplied d_divided d_is_less d_plus d_minus d_times d_over d_compare d__law_pool d__law_draw d__law_gcd d__law_made d__law_random_number d__law_outcome d_law) : FnG P w K mg base 1 f__law_draw d__law_draw ["_law_pool_here", "_law_many"] (toB K mg 2 phi__law_draw) := by
  refine okB T.F__law_draw sc__law_draw phi__law_draw g__law_draw (fun cdv A outer s H E hr => ?_) law__law_draw
  have tk := takes_of (X := cxOf (L2.CX P w) P w K mg base ["_law_pool_here", "_law_many", "_law_found"] "_law_draw" (defScope s__law_draw) f__law_draw cdv A outer s H E) (E := E) rfl rfl rfl rfl
  exact (pssd_cons (psd_if (ptdA_cmp a_gt (ped_ixO (pv 0) ped_int) ped_int) (pssd_cons (psd_set (i := 2) sc__law_draw.nd rfl (Or.inl rfl) (pod_d (pedA_op a_mod (ped_ixO (pv 0) ped_int) (ped_var (pv 1)))))
    (pssd_cons (psd_store (pv 0) ped_int (pedA_op a_div (ped_ixO (pv 0) ped_int) (ped_var (pv 1))))
    (pssd_one (psd_ret (pod_d (ped_var (pv 2))))))) pssd_nil)
    (pssd_cons (psd_store (pv 0) ped_int (pedA_op a_mod (pedA_op a_add (pedA_op a_mul (ped_ixO (pv 0) ped_int) ped_int) ped_int) ped_int))
    (pssd_one (psd_ret (pod_d (pedA_op a_mod (pedA_op a_div (pedA_op a_mod (pedA_op a_mul (ped_ixO (pv 0) ped_int) (ped_ixO (pv 0) ped_int)) ped_int) ped_int) (ped_var (pv 1))))))))
theorem w__law_gcd (T : Txt P K mg f_is_integer f_common_divisor f_reduced f_is_fraction f_check_fractions f_added f_negative f_multiplied f_divided f_is_less f_plus f_minus f_times f_over f_compare f__law_pool f__law_draw f__law_gcd f__law_made f__law_random_number f__law_outcome f_law c_ZERO C_InvalidNumber i_InvalidNumber q_InvalidNumber d_eInvalidNumber C_WorkError d_is_integer d_common_divisor d_reduced d_is_fraction d_check_fractions d_added d_negative d_multiplied d_divided d_is_less d_plus d_minus d_times d_over d_compare d__law_pool d__law_draw d__law_gcd d__law_made d__law_random_number d__law_outcome d_law) : FnG P w K mg base 1 f__law_gcd d__law_gcd ["_law_a", "_law_b"] (toA K mg 2 phi__law_gcd) := by
  refine okA T.F__law_gcd sc__law_gcd phi__law_gcd g__law_gcd (fun cdv A outer s H E hr => ?_) law__law_gcd
  have tk := takes_of (X := cxOf (L2.CX P w) P w K mg base ["_law_a", "_law_b"] "_law_gcd" (defScope s__law_gcd) f__law_gcd cdv A outer s H E) (E := E) rfl rfl rfl rfl
  exact (pssd_cons (psd_while (passes_of rfl) (ptdA_cmp (a_ne hr.r) (ped_var (pv 1)) ped_int) (pssd_one (psd_par (i := 0) (j := 1) rfl sc__law_gcd.nd rfl rfl (by decide) rfl rfl (ped_var (pv 1)) (pedA_op a_mod (ped_var (pv 0)) (ped_var (pv 1))) (fun pa pb => ps_par rfl sc__law_gcd.nd rfl rfl (by decide) rfl rfl (pa_cons pa (pa_cons pb pa_nil)) (by rfl)))))
    (pssd_one (psd_ret (pod_d (pedA_callB k_abs rfl T.b_abs PyProof.Rows.boot_abs (pad_cons (ped_var (pv 0)) pad_nil))))))
theorem w__law_made (T : Txt P K mg f_is_integer f_common_divisor f_reduced f_is_fraction f_check_fractions f_added f_negative f_multiplied f_divided f_is_less f_plus f_minus f_times f_over f_compare f__law_pool f__law_draw f__law_gcd f__law_made f__law_random_number f__law_outcome f_law c_ZERO C_InvalidNumber i_InvalidNumber q_InvalidNumber d_eInvalidNumber C_WorkError d_is_integer d_common_divisor d_reduced d_is_fraction d_check_fractions d_added d_negative d_multiplied d_divided d_is_less d_plus d_minus d_times d_over d_compare d__law_pool d__law_draw d__law_gcd d__law_made d__law_random_number d__law_outcome d_law) (G__law_gcd : FnG P w K mg base 1 f__law_gcd d__law_gcd ["_law_a", "_law_b"] (toA K mg 2 phi__law_gcd)) : FnG P w K mg base 2 f__law_made d__law_made ["_law_numerator", "_law_denominator"] (toA K mg 2 phi__law_made) := by
  refine okA T.F__law_made sc__law_made phi__law_made g__law_made (fun cdv A outer s H E hr => ?_) law__law_made
  have tk := takes_of (X := cxOf (L2.CX P w) P w K mg base ["_law_numerator", "_law_denominator", "_law_divisor"] "_law_made" (defScope s__law_made) f__law_made cdv A outer s H E) (E := E) rfl rfl rfl rfl
  exact (pssd_cons (psd_set (i := 2) sc__law_made.nd rfl (Or.inl rfl) (pod_d (pedA_op a_mul (ped_fz (pod_callA tk G__law_gcd (hr.mono (by decide)) rfl T.m__law_gcd T.F__law_gcd.kp T.b__law_gcd_ (pad_cons (ped_var (pv 0)) (pad_cons (ped_var (pv 1)) pad_nil)))) (ped_ifx (ptdA_cmp a_gt (ped_var (pv 1)) ped_int) ped_int (pedA_un a_neg ped_int)))))
    (pssd_one (psd_ret (pod_d (ped_tup (pad_cons (pedA_op a_div (ped_var (pv 0)) (ped_var (pv 2))) (pad_cons (pedA_op a_div (ped_var (pv 1)) (ped_var (pv 2))) pad_nil)))))))
theorem w__law_random_number (T : Txt P K mg f_is_integer f_common_divisor f_reduced f_is_fraction f_check_fractions f_added f_negative f_multiplied f_divided f_is_less f_plus f_minus f_times f_over f_compare f__law_pool f__law_draw f__law_gcd f__law_made f__law_random_number f__law_outcome f_law c_ZERO C_InvalidNumber i_InvalidNumber q_InvalidNumber d_eInvalidNumber C_WorkError d_is_integer d_common_divisor d_reduced d_is_fraction d_check_fractions d_added d_negative d_multiplied d_divided d_is_less d_plus d_minus d_times d_over d_compare d__law_pool d__law_draw d__law_gcd d__law_made d__law_random_number d__law_outcome d_law) (G__law_made : FnG P w K mg base 2 f__law_made d__law_made ["_law_numerator", "_law_denominator"] (toA K mg 2 phi__law_made)) (G__law_draw : FnG P w K mg base 1 f__law_draw d__law_draw ["_law_pool_here", "_law_many"] (toB K mg 2 phi__law_draw)) : FnG P w K mg base 3 f__law_random_number d__law_random_number ["_law_pool_here"] (toB K mg 1 phi__law_random_number) := by
  refine okB T.F__law_random_number sc__law_random_number phi__law_random_number g__law_random_number (fun cdv A outer s H E hr => ?_) law__law_random_number
  have tk := takes_of (X := cxOf (L2.CX P w) P w K mg base ["_law_pool_here", "_law_choice"] "_law_random_number" (defScope s__law_random_number) f__law_random_number cdv A outer s H E) (E := E) rfl rfl rfl rfl
  exact (pssd_cons (psd_set (i := 1) sc__law_random_number.nd rfl (Or.inl rfl) (pod_d (ped_fz (pod_callB tk G__law_draw (hr.mono (by decide)) rfl T.m__law_draw T.F__law_draw.kp T.b__law_draw_ (pv 0) (pad_cons ped_int pad_nil)))))
    (pssd_cons (psd_if (ptdA_cmp (a_eq hr.r) (ped_var (pv 1)) ped_int) (pssd_one (psd_ret (pod_d (ped_tup (pad_cons ped_int (pad_cons ped_int pad_nil)))))) pssd_nil)
    (pssd_cons (psd_if (ptdA_cmp (a_eq hr.r) (ped_var (pv 1)) ped_int) (pssd_one (psd_ret (pod_d (ped_fz (pod_callA tk G__law_made (hr.mono (by decide)) rfl T.m__law_made T.F__law_made.kp T.b__law_made_ (pad_cons (ped_fz (pod_callB tk G__law_draw (hr.mono (by decide)) rfl T.m__law_draw T.F__law_draw.kp T.b__law_draw_ (pv 0) (pad_cons (pedA_op a_pow ped_int ped_int) pad_nil))) (pad_cons (pedA_op a_add ped_int (ped_fz (pod_callB tk G__law_draw (hr.mono (by decide)) rfl T.m__law_draw T.F__law_draw.kp T.b__law_draw_ (pv 0) (pad_cons ped_int pad_nil)))) pad_nil))))))) pssd_nil)
    (pssd_one (psd_ret (pod_d (ped_fz (pod_callA tk G__law_made (hr.mono (by decide)) rfl T.m__law_made T.F__law_made.kp T.b__law_made_ (pad_cons (ped_fz (pod_callB tk G__law_draw (hr.mono (by decide)) rfl T.m__law_draw T.F__law_draw.kp T.b__law_draw_ (pv 0) (pad_cons ped_int pad_nil))) (pad_cons (pedA_op a_add ped_int (ped_fz (pod_callB tk G__law_draw (hr.mono (by decide)) rfl T.m__law_draw T.F__law_draw.kp T.b__law_draw_ (pv 0) (pad_cons ped_int pad_nil)))) pad_nil))))))))))
theorem w__law_outcome (T : Txt P K mg f_is_integer f_common_divisor f_reduced f_is_fraction f_check_fractions f_added f_negative f_multiplied f_divided f_is_less f_plus f_minus f_times f_over f_compare f__law_pool f__law_draw f__law_gcd f__law_made f__law_random_number f__law_outcome f_law c_ZERO C_InvalidNumber i_InvalidNumber q_InvalidNumber d_eInvalidNumber C_WorkError d_is_integer d_common_divisor d_reduced d_is_fraction d_check_fractions d_added d_negative d_multiplied d_divided d_is_less d_plus d_minus d_times d_over d_compare d__law_pool d__law_draw d__law_gcd d__law_made d__law_random_number d__law_outcome d_law) (G_compare : FnG P w K mg base 4 f_compare d_compare ["one", "other"] (toA K mg 2 phi_compare)) (G_over : FnG P w K mg base 4 f_over d_over ["one", "other"] (toA K mg 2 phi_over)) (G_times : FnG P w K mg base 4 f_times d_times ["one", "other"] (toA K mg 2 phi_times)) (G_minus : FnG P w K mg base 4 f_minus d_minus ["one", "other"] (toA K mg 2 phi_minus)) (G_plus : FnG P w K mg base 4 f_plus d_plus ["one", "other"] (toA K mg 2 phi_plus)) : FnG P w K mg base 5 f__law_outcome d__law_outcome ["_law_door", "_law_one", "_law_other"] (toA K mg 3 phi__law_outcome) := by
  refine okA T.F__law_outcome sc__law_outcome phi__law_outcome g__law_outcome (fun cdv A outer s H E hr => ?_) law__law_outcome
  have tk := takes_of (X := cxOf (L2.CX P w) P w K mg base ["_law_door", "_law_one", "_law_other", "e"] "_law_outcome" (defScope s__law_outcome) f__law_outcome cdv A outer s H E) (E := E) rfl rfl rfl rfl
  exact (pssd_cons (psd_try_as (i := 3) (tb := tb_InvalidNumber) rfl rfl sc__law_outcome.nd rfl rfl ⟨rfl, by decide, Or.inl T.E_InvalidNumber.gC⟩ tk T.tb_InvalidNumber (fun W' pn xe tk hp => (pssd_one (psd_expr (podA_callV (n := 2) tk (tab_cons G_plus (hr.mono (by decide)) T.m_plus T.F_plus.kp T.b_plus_ (tab_cons G_minus (hr.mono (by decide)) T.m_minus T.F_minus.kp T.b_minus_ (tab_cons G_times (hr.mono (by decide)) T.m_times T.F_times.kp T.b_times_ (tab_cons G_over (hr.mono (by decide)) T.m_over T.F_over.kp T.b_over_ (tab_cons G_compare (hr.mono (by decide)) T.m_compare T.F_compare.kp T.b_compare_ tab_nil))))) (pedA_ix a_ixSeq (pedA_lst (pad_cons (ped_glo rfl T.m_plus) (pad_cons (ped_glo rfl T.m_minus) (pad_cons (ped_glo rfl T.m_times) (pad_cons (ped_glo rfl T.m_over) (pad_cons (ped_glo rfl T.m_compare) pad_nil)))))) (ped_var (pv 0))) (pad_cons (ped_var (pv 1)) (pad_cons (ped_var (pv 2)) pad_nil)))))) (fun u oe pn er hz hv => (pssd_one (psd_ret (pod_d (pedA_callB (k_repr hr.gd (room_un hr :)) rfl T.b_repr PyProof.Rows.boot_repr (pad_cons (ped_xf T.xf_value hz hv (pv 3)) pad_nil)))))))
    (pssd_one (psd_ret (pod_d ped_non))))
theorem w_law (T : Txt P K mg f_is_integer f_common_divisor f_reduced f_is_fraction f_check_fractions f_added f_negative f_multiplied f_divided f_is_less f_plus f_minus f_times f_over f_compare f__law_pool f__law_draw f__law_gcd f__law_made f__law_random_number f__law_outcome f_law c_ZERO C_InvalidNumber i_InvalidNumber q_InvalidNumber d_eInvalidNumber C_WorkError d_is_integer d_common_divisor d_reduced d_is_fraction d_check_fractions d_added d_negative d_multiplied d_divided d_is_less d_plus d_minus d_times d_over d_compare d__law_pool d__law_draw d__law_gcd d__law_made d__law_random_number d__law_outcome d_law) (G__law_outcome : FnG P w K mg base 5 f__law_outcome d__law_outcome ["_law_door", "_law_one", "_law_other"] (toA K mg 3 phi__law_outcome)) (G__law_random_number : FnG P w K mg base 3 f__law_random_number d__law_random_number ["_law_pool_here"] (toB K mg 1 phi__law_random_number)) (G__law_pool : FnG P w K mg base 1 f__law_pool d__law_pool ["_law_script", "_law_k"] (toA K mg 2 phi__law_pool)) : FnG P w K mg base 6 f_law d_law ["_law_script"] (toA K mg 1 phi_law) := by
  refine okA T.F_law sc_law phi_law g_law (fun cdv A outer s H E hr => ?_) law_law
  have tk := takes_of (X := cxOf (L2.CX P w) P w K mg base ["_law_script", "_law_k", "_law_pool_here", "_law_one", "_law_thing", "_law_door"] "law" (defScope s_law) f_law cdv A outer s H E) (E := E) rfl rfl rfl rfl
  exact (pssd_cons (psd_for (passes_of rfl) rfl (pidA_rng1 rfl T.b_range (pad_cons (pedA_callB (k_max2 rfl) rfl T.b_max PyProof.Rows.boot_max (pad_cons ped_int (pad_cons (pedA_callB (k_min2 rfl) rfl T.b_min PyProof.Rows.boot_min (pad_cons (pedA_callB k_len1 rfl T.b_len PySem.boot_len (pad_cons (ped_var (pv 0)) pad_nil)) (pad_cons ped_int pad_nil))) pad_nil))) pad_nil)) (pgd_name (i := 1) sc_law.nd rfl (Or.inl rfl)) (pssd_cons (psd_set (i := 2) sc_law.nd rfl (Or.inl rfl) (pod_callA tk G__law_pool (hr.mono (by decide)) rfl T.m__law_pool T.F__law_pool.kp T.b__law_pool_ (pad_cons (ped_var (pv 0)) (pad_cons (ped_var (pv 1)) pad_nil))))
    (pssd_cons (psd_set (i := 3) sc_law.nd rfl (Or.inr rfl) (pod_d (ped_fz (pod_callB tk G__law_random_number (hr.mono (by decide)) rfl T.m__law_random_number T.F__law_random_number.kp T.b__law_random_number_ (pv 2) pad_nil))))
    (pssd_cons (psd_for (passes_of rfl) rfl (pidA_lst (pedA_lst (pad_cons ped_non (pad_cons ped_int (pad_cons ped_int (pad_cons ped_bl (pad_cons ped_str (pad_cons (ped_tup (pad_cons ped_int (pad_cons ped_int pad_nil))) (pad_cons (ped_tup (pad_cons ped_int (pad_cons ped_int pad_nil))) (pad_cons (ped_tup (pad_cons ped_int (pad_cons (pedA_un a_neg ped_int) pad_nil))) (pad_cons (pedA_lst (pad_cons ped_int (pad_cons ped_int pad_nil))) (pad_cons (ped_tup (pad_cons ped_int pad_nil)) (pad_cons (ped_tup (pad_cons ped_int (pad_cons ped_int (pad_cons ped_int pad_nil)))) (pad_cons (ped_tup (pad_cons ped_bl (pad_cons ped_int pad_nil))) (pad_cons ped_dic0 pad_nil))))))))))))))) (pgd_name (i := 4) sc_law.nd rfl (Or.inl rfl)) (pssd_one (psd_for (passes_of rfl) rfl (pidA_rng1 rfl T.b_range (pad_cons ped_int pad_nil)) (pgd_name (i := 5) sc_law.nd rfl (Or.inl rfl)) (pssd_one (psd_if (ptdA_cmp (a_ne hr.r) (pedA_lst (pad_cons (ped_fz (pod_callA tk G__law_outcome (hr.mono (by decide)) rfl T.m__law_outcome T.F__law_outcome.kp T.b__law_outcome_ (pad_cons (ped_var (pv 5)) (pad_cons (ped_var (pv 4)) (pad_cons ped_non pad_nil))))) (pad_cons (ped_fz (pod_callA tk G__law_outcome (hr.mono (by decide)) rfl T.m__law_outcome T.F__law_outcome.kp T.b__law_outcome_ (pad_cons (ped_var (pv 5)) (pad_cons (ped_var (pv 3)) (pad_cons (ped_var (pv 4)) pad_nil))))) pad_nil))) (pedA_op a_mul (pedA_lst (pad_cons (pedA_callB (k_repr hr.gd (room_un hr :)) rfl T.b_repr PyProof.Rows.boot_repr (pad_cons (ped_var (pv 4)) pad_nil)) pad_nil)) ped_int)) (pssd_one (psd_ret (pod_d ped_bl))) pssd_nil)))))
    (pssd_one (psd_if (ptdA_cmp (a_ne hr.r) (pedA_lc (own := [("_law_door", 5)]) rfl sc_law.nd (pidA_rng1 rfl T.b_range (pad_cons ped_int pad_nil)) (blkOk_by (N := ["_law_script", "_law_k", "_law_pool_here", "_law_one", "_law_thing", "_law_door"]) (sc := defScope s_law) (by decide +kernel)) (fun _ _ _ _ _ => (pgw_name (i := 5) sc_law.nd rfl (Or.inl rfl) (by decide))) (fun _ _ _ _ _ => ptsd_nil) (fun _ _ _ _ _ => (ped_fz (pod_callA takes_N G__law_outcome (hr.mono (by decide)) rfl T.m__law_outcome T.F__law_outcome.kp T.b__law_outcome_ (pad_cons (ped_var (pv 5)) (pad_cons (ped_var (pv 3)) (pad_cons (ped_tup (pad_cons ped_int (pad_cons ped_int pad_nil))) pad_nil))))))) (pedA_lst (pad_cons ped_non (pad_cons ped_non (pad_cons ped_non (pad_cons ped_str (pad_cons ped_non pad_nil))))))) (pssd_one (psd_ret (pod_d ped_bl))) pssd_nil))))))
    (pssd_one (psd_ret (pod_d ped_bl))))
end
/-- law's: at most 63 ints in, True out -/
def spLaw (K : PySem.W.Frag) : Sp := fun vs H Q _ => ∃ (a : Addr) (ns : List Int), vs = [.ref a] ∧ SqL K H a (ns.map V.int) ∧ ns.length ≤ 63 ∧ ∀ H', Q (.bl true) H'
theorem spLaw_to {K : PySem.W.Frag} {mg : Str → Option Value} : ∀ vs H Q E, spLaw K vs H Q E → toA K mg 1 phi_law vs H Q E := by
  rintro vs H Q E ⟨a, ns, rfl, hs, hl, k⟩
  refine ⟨rfl, H, [scr ns], fun _ => False, fun r => r = .fz (.bl true), Same.refl _, repL_cons (rep_nd (t := .scr) hs (repL_ints ns)) repL_nil, by rw [e_law, fin_law ns hl]; rfl, fun _ _ _ _ _ z => z.elim, fun r v H0' H' e f rr => ?_⟩
  subst e
  have e : v = .bl true := Rep.bl (show Rep K mg H0' (.bl true) v from rr)
  subst e
  exact k H'
theorem all_mk {l : PySem.W.OpenLaw} {w : World} {K : PySem.W.Frag} {h : Heap} {mg : Str → Option Value} {fa f_is_integer f_common_divisor f_reduced f_is_fraction f_check_fractions f_added f_negative f_multiplied f_divided f_is_less f_plus f_minus f_times f_over f_compare f__law_pool f__law_draw f__law_gcd f__law_made f__law_random_number f__law_outcome f_law c_ZERO C_InvalidNumber i_InvalidNumber q_InvalidNumber d_eInvalidNumber C_WorkError : Addr} (X : K.In h) (G : h.Ns mainGlobals mg) (hfa : mg "law" = some (.ref fa))
    {od0 an0 od1 an1 od2 an2 od3 an3 od4 an4 od5 an5 od6 an6 od7 an7 od8 an8 od9 an9 od10 an10 od11 an11 od12 an12 od13 an13 od14 an14 od15 an15 od16 an16 od17 an17 od18 an18 od19 an19 od20 an20 od21 an21 : Option Addr} {sl0 sl1 sl2 sl3 sl4 sl5 sl6 sl7 sl8 sl9 sl10 sl11 sl12 sl13 sl14 sl15 sl16 sl17 sl18 sl19 sl20 sl21 : Array (Option Value)} {oc0 kV0 dc0 pm0 cd0 ct0 oc1 kV1 dc1 pm1 cd1 ct1 oc2 kV2 dc2 pm2 cd2 ct2 oc3 kV3 dc3 pm3 cd3 ct3 oc4 kV4 dc4 pm4 cd4 ct4 oc5 kV5 dc5 pm5 cd5 ct5 oc6 kV6 dc6 pm6 cd6 ct6 oc7 kV7 dc7 pm7 cd7 ct7 oc8 kV8 dc8 pm8 cd8 ct8 oc9 kV9 dc9 pm9 cd9 ct9 oc10 kV10 dc10 pm10 cd10 ct10 oc11 kV11 dc11 pm11 cd11 ct11 oc12 kV12 dc12 pm12 cd12 ct12 oc13 kV13 dc13 pm13 cd13 ct13 oc14 kV14 dc14 pm14 cd14 ct14 oc15 kV15 dc15 pm15 cd15 ct15 oc16 kV16 dc16 pm16 cd16 ct16 oc17 kV17 dc17 pm17 cd17 ct17 oc18 kV18 dc18 pm18 cd18 ct18 oc19 kV19 dc19 pm19 cd19 ct19 oc20 kV20 dc20 pm20 cd20 ct20 oc21 kV21 dc21 pm21 cd21 ct21 : Value}
    {cdd0 : Option Addr} {cn0 : Nat} {csl0 : Array (Option Value)} {ty0_0 ty0_1 : Tok}
    {nm_InvalidNumber qn_InvalidNumber ms_InvalidNumber file_InvalidNumber : Str} {N_InvalidNumber : Addr} {bs_InvalidNumber sub_InvalidNumber : List Value} {sn_InvalidNumber : List Str} {ab_InvalidNumber : Bool} {col_InvalidNumber : Option Bool} {dd_InvalidNumber od_InvalidNumber an_InvalidNumber cdd_InvalidNumber cld_InvalidNumber : Option Addr} {m0_InvalidNumber m1_InvalidNumber m2_InvalidNumber m3_InvalidNumber m5_InvalidNumber : Option Value} {osl_InvalidNumber ccs_InvalidNumber csl_InvalidNumber : Array (Option Value)} {oc_InvalidNumber dc_InvalidNumber pm_InvalidNumber ct_InvalidNumber ccl_InvalidNumber cl_InvalidNumber : Value} {jj_InvalidNumber : Nat} {p1_InvalidNumber p2_InvalidNumber q0_InvalidNumber q1_InvalidNumber q2_InvalidNumber q3_InvalidNumber q4_InvalidNumber q5_InvalidNumber q6_InvalidNumber q7_InvalidNumber q8_InvalidNumber q9_InvalidNumber : Pos} {vs_InvalidNumber : Array Value} {tf_InvalidNumber : Tok}
    (a_is_integer : PySem.W.nsIn K mainGlobals "is_integer" = some (some (.ref f_is_integer))) (l_is_integer : K.lookup f_is_integer = some ⟨oc0, od0, .func (PySem.W.fnOf "is_integer" "is_integer" (defArgs s_is_integer) (defBody s_is_integer) (defScope s_is_integer) .none kV0 dc0 pm0 an0 cd0 ct0), sl0⟩) (x_is_integer : PySem.W.codeIn K cd0 "is_integer" = true) (k_is_integer : PySem.W.keepIn K (.ref f_is_integer) = true)
    (a_common_divisor : PySem.W.nsIn K mainGlobals "common_divisor" = some (some (.ref f_common_divisor))) (l_common_divisor : K.lookup f_common_divisor = some ⟨oc1, od1, .func (PySem.W.fnOf "common_divisor" "common_divisor" (defArgs s_common_divisor) (defBody s_common_divisor) (defScope s_common_divisor) .none kV1 dc1 pm1 an1 cd1 ct1), sl1⟩) (x_common_divisor : PySem.W.codeIn K cd1 "common_divisor" = true) (k_common_divisor : PySem.W.keepIn K (.ref f_common_divisor) = true)
    (a_reduced : PySem.W.nsIn K mainGlobals "reduced" = some (some (.ref f_reduced))) (l_reduced : K.lookup f_reduced = some ⟨oc2, od2, .func (PySem.W.fnOf "reduced" "reduced" (defArgs s_reduced) (defBody s_reduced) (defScope s_reduced) .none kV2 dc2 pm2 an2 cd2 ct2), sl2⟩) (x_reduced : PySem.W.codeIn K cd2 "reduced" = true) (k_reduced : PySem.W.keepIn K (.ref f_reduced) = true)
    (a_is_fraction : PySem.W.nsIn K mainGlobals "is_fraction" = some (some (.ref f_is_fraction))) (l_is_fraction : K.lookup f_is_fraction = some ⟨oc3, od3, .func (PySem.W.fnOf "is_fraction" "is_fraction" (defArgs s_is_fraction) (defBody s_is_fraction) (defScope s_is_fraction) .none kV3 dc3 pm3 an3 cd3 ct3), sl3⟩) (x_is_fraction : PySem.W.codeIn K cd3 "is_fraction" = true) (k_is_fraction : PySem.W.keepIn K (.ref f_is_fraction) = true)
    (a_check_fractions : PySem.W.nsIn K mainGlobals "check_fractions" = some (some (.ref f_check_fractions))) (l_check_fractions : K.lookup f_check_fractions = some ⟨oc4, od4, .func (PySem.W.fnOf "check_fractions" "check_fractions" (defArgs s_check_fractions) (defBody s_check_fractions) (defScope s_check_fractions) .none kV4 dc4 pm4 an4 cd4 ct4), sl4⟩) (x_check_fractions : PySem.W.codeIn K cd4 "check_fractions" = true) (k_check_fractions : PySem.W.keepIn K (.ref f_check_fractions) = true)
    (a_added : PySem.W.nsIn K mainGlobals "added" = some (some (.ref f_added))) (l_added : K.lookup f_added = some ⟨oc5, od5, .func (PySem.W.fnOf "added" "added" (defArgs s_added) (defBody s_added) (defScope s_added) .none kV5 dc5 pm5 an5 cd5 ct5), sl5⟩) (x_added : PySem.W.codeIn K cd5 "added" = true) (k_added : PySem.W.keepIn K (.ref f_added) = true)
    (a_negative : PySem.W.nsIn K mainGlobals "negative" = some (some (.ref f_negative))) (l_negative : K.lookup f_negative = some ⟨oc6, od6, .func (PySem.W.fnOf "negative" "negative" (defArgs s_negative) (defBody s_negative) (defScope s_negative) .none kV6 dc6 pm6 an6 cd6 ct6), sl6⟩) (x_negative : PySem.W.codeIn K cd6 "negative" = true) (k_negative : PySem.W.keepIn K (.ref f_negative) = true)
    (a_multiplied : PySem.W.nsIn K mainGlobals "multiplied" = some (some (.ref f_multiplied))) (l_multiplied : K.lookup f_multiplied = some ⟨oc7, od7, .func (PySem.W.fnOf "multiplied" "multiplied" (defArgs s_multiplied) (defBody s_multiplied) (defScope s_multiplied) .none kV7 dc7 pm7 an7 cd7 ct7), sl7⟩) (x_multiplied : PySem.W.codeIn K cd7 "multiplied" = true) (k_multiplied : PySem.W.keepIn K (.ref f_multiplied) = true)
    (a_divided : PySem.W.nsIn K mainGlobals "divided" = some (some (.ref f_divided))) (l_divided : K.lookup f_divided = some ⟨oc8, od8, .func (PySem.W.fnOf "divided" "divided" (defArgs s_divided) (defBody s_divided) (defScope s_divided) .none kV8 dc8 pm8 an8 cd8 ct8), sl8⟩) (x_divided : PySem.W.codeIn K cd8 "divided" = true) (k_divided : PySem.W.keepIn K (.ref f_divided) = true)
    (a_is_less : PySem.W.nsIn K mainGlobals "is_less" = some (some (.ref f_is_less))) (l_is_less : K.lookup f_is_less = some ⟨oc9, od9, .func (PySem.W.fnOf "is_less" "is_less" (defArgs s_is_less) (defBody s_is_less) (defScope s_is_less) .none kV9 dc9 pm9 an9 cd9 ct9), sl9⟩) (x_is_less : PySem.W.codeIn K cd9 "is_less" = true) (k_is_less : PySem.W.keepIn K (.ref f_is_less) = true)
    (a_plus : PySem.W.nsIn K mainGlobals "plus" = some (some (.ref f_plus))) (l_plus : K.lookup f_plus = some ⟨oc10, od10, .func (PySem.W.fnOf "plus" "plus" (defArgs s_plus) (defBody s_plus) (defScope s_plus) .none kV10 dc10 pm10 an10 cd10 ct10), sl10⟩) (x_plus : PySem.W.codeIn K cd10 "plus" = true) (k_plus : PySem.W.keepIn K (.ref f_plus) = true)
    (a_minus : PySem.W.nsIn K mainGlobals "minus" = some (some (.ref f_minus))) (l_minus : K.lookup f_minus = some ⟨oc11, od11, .func (PySem.W.fnOf "minus" "minus" (defArgs s_minus) (defBody s_minus) (defScope s_minus) .none kV11 dc11 pm11 an11 cd11 ct11), sl11⟩) (x_minus : PySem.W.codeIn K cd11 "minus" = true) (k_minus : PySem.W.keepIn K (.ref f_minus) = true)
    (a_times : PySem.W.nsIn K mainGlobals "times" = some (some (.ref f_times))) (l_times : K.lookup f_times = some ⟨oc12, od12, .func (PySem.W.fnOf "times" "times" (defArgs s_times) (defBody s_times) (defScope s_times) .none kV12 dc12 pm12 an12 cd12 ct12), sl12⟩) (x_times : PySem.W.codeIn K cd12 "times" = true) (k_times : PySem.W.keepIn K (.ref f_times) = true)
    (a_over : PySem.W.nsIn K mainGlobals "over" = some (some (.ref f_over))) (l_over : K.lookup f_over = some ⟨oc13, od13, .func (PySem.W.fnOf "over" "over" (defArgs s_over) (defBody s_over) (defScope s_over) .none kV13 dc13 pm13 an13 cd13 ct13), sl13⟩) (x_over : PySem.W.codeIn K cd13 "over" = true) (k_over : PySem.W.keepIn K (.ref f_over) = true)
    (a_compare : PySem.W.nsIn K mainGlobals "compare" = some (some (.ref f_compare))) (l_compare : K.lookup f_compare = some ⟨oc14, od14, .func (PySem.W.fnOf "compare" "compare" (defArgs s_compare) (defBody s_compare) (defScope s_compare) .none kV14 dc14 pm14 an14 cd14 ct14), sl14⟩) (x_compare : PySem.W.codeIn K cd14 "compare" = true) (k_compare : PySem.W.keepIn K (.ref f_compare) = true)
    (a__law_pool : PySem.W.nsIn K mainGlobals "_law_pool" = some (some (.ref f__law_pool))) (l__law_pool : K.lookup f__law_pool = some ⟨oc15, od15, .func (PySem.W.fnOf "_law_pool" "_law_pool" (defArgs s__law_pool) (defBody s__law_pool) (defScope s__law_pool) .none kV15 dc15 pm15 an15 cd15 ct15), sl15⟩) (x__law_pool : PySem.W.codeIn K cd15 "_law_pool" = true) (k__law_pool : PySem.W.keepIn K (.ref f__law_pool) = true)
    (a__law_draw : PySem.W.nsIn K mainGlobals "_law_draw" = some (some (.ref f__law_draw))) (l__law_draw : K.lookup f__law_draw = some ⟨oc16, od16, .func (PySem.W.fnOf "_law_draw" "_law_draw" (defArgs s__law_draw) (defBody s__law_draw) (defScope s__law_draw) .none kV16 dc16 pm16 an16 cd16 ct16), sl16⟩) (x__law_draw : PySem.W.codeIn K cd16 "_law_draw" = true) (k__law_draw : PySem.W.keepIn K (.ref f__law_draw) = true)
    (a__law_gcd : PySem.W.nsIn K mainGlobals "_law_gcd" = some (some (.ref f__law_gcd))) (l__law_gcd : K.lookup f__law_gcd = some ⟨oc17, od17, .func (PySem.W.fnOf "_law_gcd" "_law_gcd" (defArgs s__law_gcd) (defBody s__law_gcd) (defScope s__law_gcd) .none kV17 dc17 pm17 an17 cd17 ct17), sl17⟩) (x__law_gcd : PySem.W.codeIn K cd17 "_law_gcd" = true) (k__law_gcd : PySem.W.keepIn K (.ref f__law_gcd) = true)
    (a__law_made : PySem.W.nsIn K mainGlobals "_law_made" = some (some (.ref f__law_made))) (l__law_made : K.lookup f__law_made = some ⟨oc18, od18, .func (PySem.W.fnOf "_law_made" "_law_made" (defArgs s__law_made) (defBody s__law_made) (defScope s__law_made) .none kV18 dc18 pm18 an18 cd18 ct18), sl18⟩) (x__law_made : PySem.W.codeIn K cd18 "_law_made" = true) (k__law_made : PySem.W.keepIn K (.ref f__law_made) = true)
    (a__law_random_number : PySem.W.nsIn K mainGlobals "_law_random_number" = some (some (.ref f__law_random_number))) (l__law_random_number : K.lookup f__law_random_number = some ⟨oc19, od19, .func (PySem.W.fnOf "_law_random_number" "_law_random_number" (defArgs s__law_random_number) (defBody s__law_random_number) (defScope s__law_random_number) .none kV19 dc19 pm19 an19 cd19 ct19), sl19⟩) (x__law_random_number : PySem.W.codeIn K cd19 "_law_random_number" = true) (k__law_random_number : PySem.W.keepIn K (.ref f__law_random_number) = true)
    (a__law_outcome : PySem.W.nsIn K mainGlobals "_law_outcome" = some (some (.ref f__law_outcome))) (l__law_outcome : K.lookup f__law_outcome = some ⟨oc20, od20, .func (PySem.W.fnOf "_law_outcome" "_law_outcome" (defArgs s__law_outcome) (defBody s__law_outcome) (defScope s__law_outcome) .none kV20 dc20 pm20 an20 cd20 ct20), sl20⟩) (x__law_outcome : PySem.W.codeIn K cd20 "_law_outcome" = true) (k__law_outcome : PySem.W.keepIn K (.ref f__law_outcome) = true)
    (a_law : PySem.W.nsIn K mainGlobals "law" = some (some (.ref f_law))) (l_law : K.lookup f_law = some ⟨oc21, od21, .func (PySem.W.fnOf "law" "law" (defArgs s_law) (defBody s_law) (defScope s_law) .none kV21 dc21 pm21 an21 cd21 ct21), sl21⟩) (x_law : PySem.W.codeIn K cd21 "law" = true) (k_law : PySem.W.keepIn K (.ref f_law) = true)
    (z_isinstance : PySem.W.nsIn K mainGlobals "isinstance" = some none)
    (z_bool : PySem.W.nsIn K mainGlobals "bool" = some none)
    (z_int : PySem.W.nsIn K mainGlobals "int" = some none)
    (z_abs : PySem.W.nsIn K mainGlobals "abs" = some none)
    (z_len : PySem.W.nsIn K mainGlobals "len" = some none)
    (z_tuple : PySem.W.nsIn K mainGlobals "tuple" = some none)
    (z_sum : PySem.W.nsIn K mainGlobals "sum" = some none)
    (z_repr : PySem.W.nsIn K mainGlobals "repr" = some none)
    (z_min : PySem.W.nsIn K mainGlobals "min" = some none)
    (z_max : PySem.W.nsIn K mainGlobals "max" = some none)
    (z_range : PySem.W.nsIn K mainGlobals "range" = some none)
    (a_ZERO : PySem.W.nsIn K mainGlobals "ZERO" = some (some (.ref c_ZERO))) (l_ZERO : K.lookup c_ZERO = some ⟨.type "tuple", cdd0, .seq #[.int 0 ty0_0, .int 1 ty0_1] cn0, csl0⟩)
    (aC_InvalidNumber : PySem.W.nsIn K mainGlobals "InvalidNumber" = some (some (.ref C_InvalidNumber)))
    (aC_WorkError : PySem.W.nsIn K mainGlobals "WorkError" = some (some (.ref C_WorkError)))
    (xL_InvalidNumber : K.lookup C_InvalidNumber = some (excClassObj nm_InvalidNumber qn_InvalidNumber C_InvalidNumber N_InvalidNumber bs_InvalidNumber [.ref C_WorkError, .type "ValueError", .type "Exception", .type "BaseException", .type "object"] true sn_InvalidNumber sub_InvalidNumber ab_InvalidNumber col_InvalidNumber dd_InvalidNumber m0_InvalidNumber m1_InvalidNumber m2_InvalidNumber m3_InvalidNumber m5_InvalidNumber "ValueError.__new__"))
    (su_InvalidNumber : PySem.W.ks_superIn K C_InvalidNumber C_InvalidNumber "__init__" = some (some (.builtin "ValueError.__init__")))
    (mr_InvalidNumber : PySem.W.mroIn K C_InvalidNumber (.ref C_InvalidNumber) = some true)
    (sB_InvalidNumber : PySem.W.subIn K (.ref C_InvalidNumber) (.type "ValueError") = some true)
    (sa_InvalidNumber : PySem.W.findIn K (.ref C_InvalidNumber) "__setattr__" = some (some (.builtin "object.__setattr__")))
    (ga_InvalidNumber : PySem.W.findIn K (.ref C_InvalidNumber) "__getattribute__" = some (some (.builtin "BaseException.__getattribute__")))
    (gg_InvalidNumber : PySem.W.findIn K (.ref C_InvalidNumber) "__getattr__" = some none)
    (no_InvalidNumber : PySem.W.findIn K (.ref C_InvalidNumber) "value" = some none)
    (iI_InvalidNumber : PySem.W.findIn K (.ref C_InvalidNumber) "__init__" = some (some (.ref i_InvalidNumber)))
    (ti_InvalidNumber : PySem.W.typeIn K (.ref i_InvalidNumber) = some (.type "function"))
    (kC_InvalidNumber : PySem.W.keepIn K (.ref C_InvalidNumber) = true)
    (eB_InvalidNumber : PySem.W.subIn K (.ref C_InvalidNumber) (.type "BaseException") = some true)
    (tt_InvalidNumber : PySem.W.typeIn K (.ref C_InvalidNumber) = some (.type "type"))
    (hd_InvalidNumber : PySem.W.hasDictIn K C_InvalidNumber = true)
    (lf_InvalidNumber : K.lookup i_InvalidNumber = some ⟨oc_InvalidNumber, od_InvalidNumber, .func (PySem.W.ksFn "__init__" "InvalidNumber.__init__" (erA "value" p1_InvalidNumber p2_InvalidNumber) (erB "value" ms_InvalidNumber jj_InvalidNumber q0_InvalidNumber q1_InvalidNumber q2_InvalidNumber q3_InvalidNumber q4_InvalidNumber q5_InvalidNumber q6_InvalidNumber q7_InvalidNumber q8_InvalidNumber q9_InvalidNumber) (erS "value") .none .none dc_InvalidNumber pm_InvalidNumber an_InvalidNumber (.ref d_eInvalidNumber) ct_InvalidNumber q_InvalidNumber), osl_InvalidNumber⟩)
    (cf_InvalidNumber : PySem.W.codeIn K (.ref d_eInvalidNumber) "InvalidNumber.__init__" = true)
    (ln_InvalidNumber : (q2_InvalidNumber.endLine == q4_InvalidNumber.line) = true)
    (ld_InvalidNumber : K.lookup d_eInvalidNumber = some ⟨ccl_InvalidNumber, cdd_InvalidNumber, .fields vs_InvalidNumber, ccs_InvalidNumber⟩)
    (vf_InvalidNumber : vs_InvalidNumber[2]? = some (.str file_InvalidNumber tf_InvalidNumber))
    (fi_InvalidNumber : ((l.prog.main.file : Str) == file_InvalidNumber) = true)
    (lc_InvalidNumber : K.lookup q_InvalidNumber = some ⟨cl_InvalidNumber, cld_InvalidNumber, .cell (some (.ref C_InvalidNumber)), csl_InvalidNumber⟩)
    (cc_InvalidNumber : PySem.W.findIn K (.ref C_InvalidNumber) "__class__" = some (some (.builtin "object.__class__")))
    (mo_InvalidNumber : PySem.W.mroIn K C_InvalidNumber (.type "object") = some true)
    (ex_InvalidNumber_InvalidNumber : PySem.W.subIn K (.ref C_InvalidNumber) (.ref C_InvalidNumber) = some true)
    (hd_WorkError : PySem.W.hasDictIn K C_WorkError = true) (tt_WorkError : PySem.W.typeIn K (.ref C_WorkError) = some (.type "type"))
    (any : PySem.W.nsIn K cStatics "thirdparty.any" = some none) (zsup : PySem.W.nsIn K mainGlobals "super" = some none) (top : (l.prog.main.scope.names.lookup ("super" : Str)).isSome = false) (spg : PySem.W.specialIn K (.builtin "object.__class__") "__get__" = some (some (.builtin "getset_descriptor.__get__"))) (tkc : PySem.W.takesIn K (.builtin "object.__class__") = some true)
    (zx_InvalidWork : PySem.W.nsIn K mainGlobals "InvalidWork" = some none)
    (zx_InvalidRope : PySem.W.nsIn K mainGlobals "InvalidRope" = some none)
    (zx_InvalidMotion : PySem.W.nsIn K mainGlobals "InvalidMotion" = some none)
    (zx_InvalidHeights : PySem.W.nsIn K mainGlobals "InvalidHeights" = some none)
    (zx_InvalidLimits : PySem.W.nsIn K mainGlobals "InvalidLimits" = some none)
    (zx_InvalidTensions : PySem.W.nsIn K mainGlobals "InvalidTensions" = some none)
    (zx_InvalidName : PySem.W.nsIn K mainGlobals "InvalidName" = some none)
    (zx_InvalidCommand : PySem.W.nsIn K mainGlobals "InvalidCommand" = some none)
    (zx_ParseError : PySem.W.nsIn K mainGlobals "ParseError" = some none)
    (zx_NameClash : PySem.W.nsIn K mainGlobals "NameClash" = some none)
    (zx_Weightless : PySem.W.nsIn K mainGlobals "Weightless" = some none)
    (zx_LimitExceeded : PySem.W.nsIn K mainGlobals "LimitExceeded" = some none)
    (zx_UnknownName : PySem.W.nsIn K mainGlobals "UnknownName" = some none)
    (zx_NothingToUndo : PySem.W.nsIn K mainGlobals "NothingToUndo" = some none)
    (zx_other : PySem.W.nsIn K mainGlobals "-" = some none) :
    ∃ fd : FuncData, (∀ (s : Shared) (v : Value), BindsTo s fd ⟨[v], []⟩ [("_law_script", v)]) ∧ ∀ base : Heap, K.In base → base.Ns mainGlobals mg → FnG l.prog w K mg base 6 fa fd ["_law_script"] (spLaw K) := by
  have e := hfa.symm.trans (PySem.W.mg_of X G a_law)
  cases e
  have F_is_integer := funv_mk (st := s_is_integer) l_is_integer x_is_integer k_is_integer
  have b_is_integer := (fun_mk (st := s_is_integer) l_is_integer x_is_integer k_is_integer).binds (ps := ["value"]) fun _ _ _ _ _ _ us hl => match us, hl with | [_], _ => rfl
  have F_common_divisor := funv_mk (st := s_common_divisor) l_common_divisor x_common_divisor k_common_divisor
  have b_common_divisor := (fun_mk (st := s_common_divisor) l_common_divisor x_common_divisor k_common_divisor).binds (ps := ["one", "other"]) fun _ _ _ _ _ _ us hl => match us, hl with | [_, _], _ => rfl
  have F_reduced := funv_mk (st := s_reduced) l_reduced x_reduced k_reduced
  have b_reduced := (fun_mk (st := s_reduced) l_reduced x_reduced k_reduced).binds (ps := ["numerator", "denominator"]) fun _ _ _ _ _ _ us hl => match us, hl with | [_, _], _ => rfl
  have F_is_fraction := funv_mk (st := s_is_fraction) l_is_fraction x_is_fraction k_is_fraction
  have b_is_fraction := (fun_mk (st := s_is_fraction) l_is_fraction x_is_fraction k_is_fraction).binds (ps := ["value"]) fun _ _ _ _ _ _ us hl => match us, hl with | [_], _ => rfl
  have F_check_fractions := funv_mk (st := s_check_fractions) l_check_fractions x_check_fractions k_check_fractions
  have b_check_fractions := (fun_mk (st := s_check_fractions) l_check_fractions x_check_fractions k_check_fractions).binds (ps := ["values"]) fun _ _ _ _ _ _ us hl => match us, hl with | [_], _ => rfl
  have F_added := funv_mk (st := s_added) l_added x_added k_added
  have b_added := (fun_mk (st := s_added) l_added x_added k_added).binds (ps := ["one", "other"]) fun _ _ _ _ _ _ us hl => match us, hl with | [_, _], _ => rfl
  have F_negative := funv_mk (st := s_negative) l_negative x_negative k_negative
  have b_negative := (fun_mk (st := s_negative) l_negative x_negative k_negative).binds (ps := ["one"]) fun _ _ _ _ _ _ us hl => match us, hl with | [_], _ => rfl
  have F_multiplied := funv_mk (st := s_multiplied) l_multiplied x_multiplied k_multiplied
  have b_multiplied := (fun_mk (st := s_multiplied) l_multiplied x_multiplied k_multiplied).binds (ps := ["one", "other"]) fun _ _ _ _ _ _ us hl => match us, hl with | [_, _], _ => rfl
  have F_divided := funv_mk (st := s_divided) l_divided x_divided k_divided
  have b_divided := (fun_mk (st := s_divided) l_divided x_divided k_divided).binds (ps := ["one", "other"]) fun _ _ _ _ _ _ us hl => match us, hl with | [_, _], _ => rfl
  have F_is_less := funv_mk (st := s_is_less) l_is_less x_is_less k_is_less
  have b_is_less := (fun_mk (st := s_is_less) l_is_less x_is_less k_is_less).binds (ps := ["one", "other"]) fun _ _ _ _ _ _ us hl => match us, hl with | [_, _], _ => rfl
  have F_plus := funv_mk (st := s_plus) l_plus x_plus k_plus
  have b_plus := (fun_mk (st := s_plus) l_plus x_plus k_plus).binds (ps := ["one", "other"]) fun _ _ _ _ _ _ us hl => match us, hl with | [_, _], _ => rfl
  have F_minus := funv_mk (st := s_minus) l_minus x_minus k_minus
  have b_minus := (fun_mk (st := s_minus) l_minus x_minus k_minus).binds (ps := ["one", "other"]) fun _ _ _ _ _ _ us hl => match us, hl with | [_, _], _ => rfl
  have F_times := funv_mk (st := s_times) l_times x_times k_times
  have b_times := (fun_mk (st := s_times) l_times x_times k_times).binds (ps := ["one", "other"]) fun _ _ _ _ _ _ us hl => match us, hl with | [_, _], _ => rfl
  have F_over := funv_mk (st := s_over) l_over x_over k_over
  have b_over := (fun_mk (st := s_over) l_over x_over k_over).binds (ps := ["one", "other"]) fun _ _ _ _ _ _ us hl => match us, hl with | [_, _], _ => rfl
  have F_compare := funv_mk (st := s_compare) l_compare x_compare k_compare
  have b_compare := (fun_mk (st := s_compare) l_compare x_compare k_compare).binds (ps := ["one", "other"]) fun _ _ _ _ _ _ us hl => match us, hl with | [_, _], _ => rfl
  have F__law_pool := funv_mk (st := s__law_pool) l__law_pool x__law_pool k__law_pool
  have b__law_pool := (fun_mk (st := s__law_pool) l__law_pool x__law_pool k__law_pool).binds (ps := ["_law_script", "_law_k"]) fun _ _ _ _ _ _ us hl => match us, hl with | [_, _], _ => rfl
  have F__law_draw := funv_mk (st := s__law_draw) l__law_draw x__law_draw k__law_draw
  have b__law_draw := (fun_mk (st := s__law_draw) l__law_draw x__law_draw k__law_draw).binds (ps := ["_law_pool_here", "_law_many"]) fun _ _ _ _ _ _ us hl => match us, hl with | [_, _], _ => rfl
  have F__law_gcd := funv_mk (st := s__law_gcd) l__law_gcd x__law_gcd k__law_gcd
  have b__law_gcd := (fun_mk (st := s__law_gcd) l__law_gcd x__law_gcd k__law_gcd).binds (ps := ["_law_a", "_law_b"]) fun _ _ _ _ _ _ us hl => match us, hl with | [_, _], _ => rfl
  have F__law_made := funv_mk (st := s__law_made) l__law_made x__law_made k__law_made
  have b__law_made := (fun_mk (st := s__law_made) l__law_made x__law_made k__law_made).binds (ps := ["_law_numerator", "_law_denominator"]) fun _ _ _ _ _ _ us hl => match us, hl with | [_, _], _ => rfl
  have F__law_random_number := funv_mk (st := s__law_random_number) l__law_random_number x__law_random_number k__law_random_number
  have b__law_random_number := (fun_mk (st := s__law_random_number) l__law_random_number x__law_random_number k__law_random_number).binds (ps := ["_law_pool_here"]) fun _ _ _ _ _ _ us hl => match us, hl with | [_], _ => rfl
  have F__law_outcome := funv_mk (st := s__law_outcome) l__law_outcome x__law_outcome k__law_outcome
  have b__law_outcome := (fun_mk (st := s__law_outcome) l__law_outcome x__law_outcome k__law_outcome).binds (ps := ["_law_door", "_law_one", "_law_other"]) fun _ _ _ _ _ _ us hl => match us, hl with | [_, _, _], _ => rfl
  have F_law := funv_mk (st := s_law) l_law x_law k_law
  have b_law := (fun_mk (st := s_law) l_law x_law k_law).binds (ps := ["_law_script"]) fun _ _ _ _ _ _ us hl => match us, hl with | [_], _ => rfl
  have only : ∀ (k : Nat) (C : Addr), mg (exN k) = some (.ref C) → (k = 0 ∧ C = C_InvalidNumber) := by
    intro k C h
    have no : ∀ {y : Str}, PySem.W.nsIn K mainGlobals y = some none → mg y = some (.ref C) → False := fun z h => by rw [PySem.W.mg_none_of X G z] at h; cases h
    match k, h with
    | 0, h => exact ⟨rfl, by have e := (PySem.W.mg_of X G aC_InvalidNumber).symm.trans h; cases e; rfl⟩
    | 1, h => exact (no zx_InvalidWork h).elim
    | 2, h => exact (no zx_InvalidRope h).elim
    | 3, h => exact (no zx_InvalidMotion h).elim
    | 4, h => exact (no zx_InvalidHeights h).elim
    | 5, h => exact (no zx_InvalidLimits h).elim
    | 6, h => exact (no zx_InvalidTensions h).elim
    | 7, h => exact (no zx_InvalidName h).elim
    | 8, h => exact (no zx_InvalidCommand h).elim
    | 9, h => exact (no zx_ParseError h).elim
    | 10, h => exact (no zx_NameClash h).elim
    | 11, h => exact (no zx_Weightless h).elim
    | 12, h => exact (no zx_LimitExceeded h).elim
    | 13, h => exact (no zx_UnknownName h).elim
    | 14, h => exact (no zx_NothingToUndo h).elim
    | _ + 15, h => exact (no zx_other h).elim
  have T : Txt l.prog K mg _ _ _ _ _ _ _ _ _ _ _ _ _ _ _ _ _ _ _ _ _ _ _ _ _ _ _ _ _ _ _ _ _ _ _ _ _ _ _ _ _ _ _ _ _ _ _ _ _ _ := {
    E_InvalidNumber := { gC := PySem.W.mg_of X G aC_InvalidNumber, noSup := PySem.W.mg_none_of X G zsup, cls := ⟨_, _, _, _, _, _, _, _, _, _, _, _, _, _, _, xL_InvalidNumber, rfl⟩, sup := su_InvalidNumber, any := any, mroC := mr_InvalidNumber, subB := sB_InvalidNumber, sa := sa_InvalidNumber, ga := ga_InvalidNumber, gg := gg_InvalidNumber, noN := no_InvalidNumber, iC := iI_InvalidNumber, tC := ti_InvalidNumber, kC := kC_InvalidNumber, exC := eB_InvalidNumber, tyC := tt_InvalidNumber, hdC := hd_InvalidNumber, fn := ⟨_, _, _, _, _, _, _, _, _, _, _, _, _, _, _, _, _, _, _, _, _, _, lf_InvalidNumber, cf_InvalidNumber, ln_InvalidNumber⟩, code := ⟨_, _, _, _, _, _, ld_InvalidNumber, vf_InvalidNumber, fi_InvalidNumber⟩, cell := ⟨_, _, _, lc_InvalidNumber⟩, top := top }
    gc_WorkError := PySem.W.mg_of X G aC_WorkError
    gc_InvalidNumber := PySem.W.mg_of X G aC_InvalidNumber
    tb_InvalidNumber := fun k C h => by
      rcases only k C h with ⟨rfl, rfl⟩
      · exact PySem.W.exm_ref eB_InvalidNumber hd_InvalidNumber tt_InvalidNumber ex_InvalidNumber_InvalidNumber
    xf_value := fun k C h hf => by
      rcases only k C h with ⟨rfl, rfl⟩
      · exact ⟨⟨ga_InvalidNumber, gg_InvalidNumber, eB_InvalidNumber, hd_InvalidNumber⟩, no_InvalidNumber⟩
    b_isinstance := PySem.W.mg_none_of X G z_isinstance
    b_bool := PySem.W.mg_none_of X G z_bool
    b_int := PySem.W.mg_none_of X G z_int
    b_abs := PySem.W.mg_none_of X G z_abs
    b_len := PySem.W.mg_none_of X G z_len
    b_tuple := PySem.W.mg_none_of X G z_tuple
    b_sum := PySem.W.mg_none_of X G z_sum
    b_repr := PySem.W.mg_none_of X G z_repr
    b_min := PySem.W.mg_none_of X G z_min
    b_max := PySem.W.mg_none_of X G z_max
    b_range := PySem.W.mg_none_of X G z_range
    g_ZERO := PySem.W.mg_of X G a_ZERO
    r_ZERO := fun H => rep_nd (vs := [.int 0, .int 1]) (.inr ⟨_, _, _, l_ZERO, rfl, rfl, (by show (2 : Nat) ≤ 16777216; decide), (.cons ⟨_, rfl⟩ (.cons ⟨_, rfl⟩ .nil))⟩) (repL_cons rep_int (repL_cons rep_int repL_nil))
    F_is_integer := F_is_integer
    m_is_integer := PySem.W.mg_of X G a_is_integer
    b_is_integer_ := b_is_integer
    F_common_divisor := F_common_divisor
    m_common_divisor := PySem.W.mg_of X G a_common_divisor
    b_common_divisor_ := b_common_divisor
    F_reduced := F_reduced
    m_reduced := PySem.W.mg_of X G a_reduced
    b_reduced_ := b_reduced
    F_is_fraction := F_is_fraction
    m_is_fraction := PySem.W.mg_of X G a_is_fraction
    b_is_fraction_ := b_is_fraction
    F_check_fractions := F_check_fractions
    m_check_fractions := PySem.W.mg_of X G a_check_fractions
    b_check_fractions_ := b_check_fractions
    F_added := F_added
    m_added := PySem.W.mg_of X G a_added
    b_added_ := b_added
    F_negative := F_negative
    m_negative := PySem.W.mg_of X G a_negative
    b_negative_ := b_negative
    F_multiplied := F_multiplied
    m_multiplied := PySem.W.mg_of X G a_multiplied
    b_multiplied_ := b_multiplied
    F_divided := F_divided
    m_divided := PySem.W.mg_of X G a_divided
    b_divided_ := b_divided
    F_is_less := F_is_less
    m_is_less := PySem.W.mg_of X G a_is_less
    b_is_less_ := b_is_less
    F_plus := F_plus
    m_plus := PySem.W.mg_of X G a_plus
    b_plus_ := b_plus
    F_minus := F_minus
    m_minus := PySem.W.mg_of X G a_minus
    b_minus_ := b_minus
    F_times := F_times
    m_times := PySem.W.mg_of X G a_times
    b_times_ := b_times
    F_over := F_over
    m_over := PySem.W.mg_of X G a_over
    b_over_ := b_over
    F_compare := F_compare
    m_compare := PySem.W.mg_of X G a_compare
    b_compare_ := b_compare
    F__law_pool := F__law_pool
    m__law_pool := PySem.W.mg_of X G a__law_pool
    b__law_pool_ := b__law_pool
    F__law_draw := F__law_draw
    m__law_draw := PySem.W.mg_of X G a__law_draw
    b__law_draw_ := b__law_draw
    F__law_gcd := F__law_gcd
    m__law_gcd := PySem.W.mg_of X G a__law_gcd
    b__law_gcd_ := b__law_gcd
    F__law_made := F__law_made
    m__law_made := PySem.W.mg_of X G a__law_made
    b__law_made_ := b__law_made
    F__law_random_number := F__law_random_number
    m__law_random_number := PySem.W.mg_of X G a__law_random_number
    b__law_random_number_ := b__law_random_number
    F__law_outcome := F__law_outcome
    m__law_outcome := PySem.W.mg_of X G a__law_outcome
    b__law_outcome_ := b__law_outcome
    F_law := F_law
    m_law := PySem.W.mg_of X G a_law
    b_law_ := b_law
  }
  refine ⟨PySem.W.fnOf "law" "law" (defArgs s_law) (defBody s_law) (defScope s_law) .none kV21 dc21 pm21 an21 cd21 ct21, fun s v => .of_eq rfl, fun base _ _ => ?_⟩
  have G_is_integer := w_is_integer (P := l.prog) (w := w) (base := base) T
  have G_common_divisor := w_common_divisor (P := l.prog) (w := w) (base := base) T
  have G_reduced := w_reduced (P := l.prog) (w := w) (base := base) T G_common_divisor
  have G_is_fraction := w_is_fraction (P := l.prog) (w := w) (base := base) T G_common_divisor G_is_integer
  have G_check_fractions := w_check_fractions (P := l.prog) (w := w) (base := base) T G_is_fraction
  have G_added := w_added (P := l.prog) (w := w) (base := base) T G_reduced
  have G_negative := w_negative (P := l.prog) (w := w) (base := base) T
  have G_multiplied := w_multiplied (P := l.prog) (w := w) (base := base) T G_reduced
  have G_divided := w_divided (P := l.prog) (w := w) (base := base) T G_reduced
  have G_is_less := w_is_less (P := l.prog) (w := w) (base := base) T
  have G_plus := w_plus (P := l.prog) (w := w) (base := base) T G_added G_check_fractions
  have G_minus := w_minus (P := l.prog) (w := w) (base := base) T G_added G_negative G_check_fractions
  have G_times := w_times (P := l.prog) (w := w) (base := base) T G_multiplied G_check_fractions
  have G_over := w_over (P := l.prog) (w := w) (base := base) T G_divided G_check_fractions
  have G_compare := w_compare (P := l.prog) (w := w) (base := base) T G_is_less G_check_fractions
  have G__law_pool := w__law_pool (P := l.prog) (w := w) (base := base) T
  have G__law_draw := w__law_draw (P := l.prog) (w := w) (base := base) T
  have G__law_gcd := w__law_gcd (P := l.prog) (w := w) (base := base) T
  have G__law_made := w__law_made (P := l.prog) (w := w) (base := base) T G__law_gcd
  have G__law_random_number := w__law_random_number (P := l.prog) (w := w) (base := base) T G__law_made G__law_draw
  have G__law_outcome := w__law_outcome (P := l.prog) (w := w) (base := base) T G_compare G_over G_times G_minus G_plus
  have G_law := w_law (P := l.prog) (w := w) (base := base) T G__law_outcome G__law_random_number G__law_pool
  exact G_law.imp spLaw_to
theorem walk {l : PySem.W.OpenLaw} {q : Program} {loose : List Str} {XP : (Str → Option Value) → Heap → Prop} {YP : World → Heap → Prop} {d : DefRec} {K : Params → PySem.W.Frag} (hn : l.most = some 63) (hdf : d.params.defaults = [])
    (hY : ∀ (w : World) (h : Heap), YP w h → (K w.params).In h)
    (F : ∀ (w : World) (mg : Str → Option Value) (fa : Addr) (h : Heap), (K w.params).In h → h.Ns mainGlobals mg → mg d.name = some (.ref fa) →
      ∃ fd : FuncData, (∀ (s : Shared) (u : Value), BindsTo s fd ⟨[u], []⟩ [("_law_script", u)]) ∧ ∀ base : Heap, (K w.params).In base → base.Ns mainGlobals mg → FnG l.prog w (K w.params) mg base 6 fa fd ["_law_script"] (spLaw (K w.params))) :
    PySem.W.WalkO q loose XP YP l.row.toRowW d [] (fun f vs => PySem.call f vs) :=
  walk_ofG (n := 63) (k := 6) (x := "_law_script") (sp := fun w => spLaw (K w.params)) hn (by decide) hdf ⟨rfl, by decide, by decide⟩ hY F (fun _ _ a ns hl _ hS => ⟨a, ns, rfl, hS, hl, fun _ => rfl⟩)
end PD
open PySem PySem.W PyProof.Rows in
set_option maxRecDepth 100000 in
set_option maxHeartbeats 0 in
theorem PySem.Challenge.cw_pulleyworks_k03_errors_of_arithmetic_holds : PySem.Challenge.rw_pulleyworks_k03_errors_of_arithmetic.Holds := by
  w_on; o_law; k_head; (case hw => w_witness2)
  k_fill
  refine PD.walk (l := PySem.Challenge.rw_pulleyworks_k03_errors_of_arithmetic) rfl rfl (fun w h Y => PySem.W.kIn_of Y) ?F
  case F =>
    intro w mg fa h KX G hmg
    refine' PD.all_mk KX G hmg ?a_is_integer ?l_is_integer ?x_is_integer ?k_is_integer ?a_common_divisor ?l_common_divisor ?x_common_divisor ?k_common_divisor ?a_reduced ?l_reduced ?x_reduced ?k_reduced ?a_is_fraction ?l_is_fraction ?x_is_fraction ?k_is_fraction ?a_check_fractions ?l_check_fractions ?x_check_fractions ?k_check_fractions ?a_added ?l_added ?x_added ?k_added ?a_negative ?l_negative ?x_negative ?k_negative ?a_multiplied ?l_multiplied ?x_multiplied ?k_multiplied ?a_divided ?l_divided ?x_divided ?k_divided ?a_is_less ?l_is_less ?x_is_less ?k_is_less ?a_plus ?l_plus ?x_plus ?k_plus ?a_minus ?l_minus ?x_minus ?k_minus ?a_times ?l_times ?x_times ?k_times ?a_over ?l_over ?x_over ?k_over ?a_compare ?l_compare ?x_compare ?k_compare ?a__law_pool ?l__law_pool ?x__law_pool ?k__law_pool ?a__law_draw ?l__law_draw ?x__law_draw ?k__law_draw ?a__law_gcd ?l__law_gcd ?x__law_gcd ?k__law_gcd ?a__law_made ?l__law_made ?x__law_made ?k__law_made ?a__law_random_number ?l__law_random_number ?x__law_random_number ?k__law_random_number ?a__law_outcome ?l__law_outcome ?x__law_outcome ?k__law_outcome ?a_law ?l_law ?x_law ?k_law ?z_isinstance ?z_bool ?z_int ?z_abs ?z_len ?z_tuple ?z_sum ?z_repr ?z_min ?z_max ?z_range ?a_ZERO ?l_ZERO ?aC_InvalidNumber ?aC_WorkError ?xL_InvalidNumber ?su_InvalidNumber ?mr_InvalidNumber ?sB_InvalidNumber ?sa_InvalidNumber ?ga_InvalidNumber ?gg_InvalidNumber ?no_InvalidNumber ?iI_InvalidNumber ?ti_InvalidNumber ?kC_InvalidNumber ?eB_InvalidNumber ?tt_InvalidNumber ?hd_InvalidNumber ?lf_InvalidNumber ?cf_InvalidNumber ?ln_InvalidNumber ?ld_InvalidNumber ?vf_InvalidNumber ?fi_InvalidNumber ?lc_InvalidNumber ?cc_InvalidNumber ?mo_InvalidNumber ?ex_InvalidNumber_InvalidNumber ?hd_WorkError ?tt_WorkError ?any ?zsup ?top ?spg ?tkc ?zx_InvalidWork ?zx_InvalidRope ?zx_InvalidMotion ?zx_InvalidHeights ?zx_InvalidLimits ?zx_InvalidTensions ?zx_InvalidName ?zx_InvalidCommand ?zx_ParseError ?zx_NameClash ?zx_Weightless ?zx_LimitExceeded ?zx_UnknownName ?zx_NothingToUndo ?zx_other
    (case a_is_integer => k_is)
    (case l_is_integer => k_is)
    (case x_is_integer => k_is)
    (case k_is_integer => k_is)
    (case a_common_divisor => k_is)
    (case l_common_divisor => k_is)
    (case x_common_divisor => k_is)
    (case k_common_divisor => k_is)
    (case a_reduced => k_is)
    (case l_reduced => k_is)
    (case x_reduced => k_is)
    (case k_reduced => k_is)
    (case a_is_fraction => k_is)
    (case l_is_fraction => k_is)
    (case x_is_fraction => k_is)
    (case k_is_fraction => k_is)
    (case a_check_fractions => k_is)
    (case l_check_fractions => k_is)
    (case x_check_fractions => k_is)
    (case k_check_fractions => k_is)
    (case a_added => k_is)
    (case l_added => k_is)
    (case x_added => k_is)
    (case k_added => k_is)
    (case a_negative => k_is)
    (case l_negative => k_is)
    (case x_negative => k_is)
    (case k_negative => k_is)
    (case a_multiplied => k_is)
    (case l_multiplied => k_is)
    (case x_multiplied => k_is)
    (case k_multiplied => k_is)
    (case a_divided => k_is)
    (case l_divided => k_is)
    (case x_divided => k_is)
    (case k_divided => k_is)
    (case a_is_less => k_is)
    (case l_is_less => k_is)
    (case x_is_less => k_is)
    (case k_is_less => k_is)
    (case a_plus => k_is)
    (case l_plus => k_is)
    (case x_plus => k_is)
    (case k_plus => k_is)
    (case a_minus => k_is)
    (case l_minus => k_is)
    (case x_minus => k_is)
    (case k_minus => k_is)
    (case a_times => k_is)
    (case l_times => k_is)
    (case x_times => k_is)
    (case k_times => k_is)
    (case a_over => k_is)
    (case l_over => k_is)
    (case x_over => k_is)
    (case k_over => k_is)
    (case a_compare => k_is)
    (case l_compare => k_is)
    (case x_compare => k_is)
    (case k_compare => k_is)
    (case a__law_pool => k_is)
    (case l__law_pool => k_is)
    (case x__law_pool => k_is)
    (case k__law_pool => k_is)
    (case a__law_draw => k_is)
    (case l__law_draw => k_is)
    (case x__law_draw => k_is)
    (case k__law_draw => k_is)
    (case a__law_gcd => k_is)
    (case l__law_gcd => k_is)
    (case x__law_gcd => k_is)
    (case k__law_gcd => k_is)
    (case a__law_made => k_is)
    (case l__law_made => k_is)
    (case x__law_made => k_is)
    (case k__law_made => k_is)
    (case a__law_random_number => k_is)
    (case l__law_random_number => k_is)
    (case x__law_random_number => k_is)
    (case k__law_random_number => k_is)
    (case a__law_outcome => k_is)
    (case l__law_outcome => k_is)
    (case x__law_outcome => k_is)
    (case k__law_outcome => k_is)
    (case a_law => k_is)
    (case l_law => k_is)
    (case x_law => k_is)
    (case k_law => k_is)
    (case z_isinstance => k_is)
    (case z_bool => k_is)
    (case z_int => k_is)
    (case z_abs => k_is)
    (case z_len => k_is)
    (case z_tuple => k_is)
    (case z_sum => k_is)
    (case z_repr => k_is)
    (case z_min => k_is)
    (case z_max => k_is)
    (case z_range => k_is)
    (case a_ZERO => k_is)
    (case l_ZERO => k_is)
    (case aC_InvalidNumber => k_is)
    (case aC_WorkError => k_is)
    (case xL_InvalidNumber => k_is)
    (case su_InvalidNumber => first | k_is | ks_is | rfl)
    (case mr_InvalidNumber => k_is)
    (case sB_InvalidNumber => k_is)
    (case sa_InvalidNumber => k_is)
    (case ga_InvalidNumber => k_is)
    (case gg_InvalidNumber => k_is)
    (case no_InvalidNumber => k_is)
    (case iI_InvalidNumber => k_is)
    (case ti_InvalidNumber => k_is)
    (case kC_InvalidNumber => k_is)
    (case eB_InvalidNumber => k_is)
    (case tt_InvalidNumber => k_is)
    (case hd_InvalidNumber => k_is)
    (case lf_InvalidNumber => k_is)
    (case cf_InvalidNumber => k_is)
    (case ln_InvalidNumber => rfl)
    (case ld_InvalidNumber => k_is)
    (case vf_InvalidNumber => rfl)
    (case fi_InvalidNumber => first | rfl | decide +kernel)
    (case lc_InvalidNumber => k_is)
    (case cc_InvalidNumber => k_is)
    (case mo_InvalidNumber => k_is)
    (case ex_InvalidNumber_InvalidNumber => k_is)
    (case hd_WorkError => k_is)
    (case tt_WorkError => k_is)
    (case any => k_is)
    (case zsup => k_is)
    (case top => first | rfl | decide +kernel)
    (case spg => k_is)
    (case tkc => k_is)
    (case zx_InvalidWork => k_is)
    (case zx_InvalidRope => k_is)
    (case zx_InvalidMotion => k_is)
    (case zx_InvalidHeights => k_is)
    (case zx_InvalidLimits => k_is)
    (case zx_InvalidTensions => k_is)
    (case zx_InvalidName => k_is)
    (case zx_InvalidCommand => k_is)
    (case zx_ParseError => k_is)
    (case zx_NameClash => k_is)
    (case zx_Weightless => k_is)
    (case zx_LimitExceeded => k_is)
    (case zx_UnknownName => k_is)
    (case zx_NothingToUndo => k_is)
    (case zx_other => k_is)

