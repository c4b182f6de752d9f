import PyProof.Rows.All
import Wide.All
import OpenK.AllK
import Wide.FinOn
import PyProof.EqAt
import PyProof.EqKinds
import PyProof.TupleCall
import HandS.ForMost
import HandS.Exc
import HandS.ExcOwn
import HandS.TryOnly
import HandS.WordsExc
import HandS.IsInst
import HandS.Wide
import KE.DataEq
import KE.KExcSuper
import HandS.ExcInit
import HandS.ExcField
import HandS.ExcIs
import KE.KExcIs
import PyProof.ReprRoads
import HandS.Dict
import HandS.TupLe
import HandS.Defaults
import PySem.Challenge.RW_pulleyworks_k01_fractions_made
set_option Elab.async false
set_option linter.all false
set_option maxRecDepth 100000
set_option maxHeartbeats 8000000
set_option autoImplicit false
/-! Data over the hand layer: expressions and statements read as changes of plain data. -/
namespace PD
open PySem PySem.Spec PyProof.Rows L2

/-! ### plain data -/
inductive Tg where
  | tup | lst | scr | dic (ks : List Key) | ins (c : Str) (fs : List Str)
inductive D where
  | non | bl (b : Bool) | int (i : Int) | str (x : Str) | glo (x : Str) | nd (t : Tg) (xs : List D)
/-- an error: its class by number, its field's value -/
structure DErr where
  k : Nat
  d : D
/-- a caught error in an except suite: where it lies, its class, its dict -/
structure XU where
  a : Addr
  cls : Value
  d : Option Addr
/-- a slot: empty, a value that never changes, an object of one's own, a caught error -/
inductive S where
  | un | fz (d : D) | ow (a : Addr) (l : Bool) (t : Tg) (ds : List D) | xc (u : XU) (e : DErr)
def exN : Nat → Str
  | 0 => "InvalidNumber" | 1 => "InvalidWork" | 2 => "InvalidRope" | 3 => "InvalidMotion" | 4 => "InvalidHeights" | 5 => "InvalidLimits" | 6 => "InvalidTensions"
  | 7 => "InvalidName" | 8 => "InvalidCommand" | 9 => "ParseError" | 10 => "NameClash" | 11 => "Weightless" | 12 => "LimitExceeded" | 13 => "UnknownName"
  | 14 => "NothingToUndo" | _ => "-"
def exF : Nat → Str
  | 0 => "value" | 1 => "part" | 2 => "name" | 3 => "value" | 4 => "value" | 5 => "value" | 6 => "value"
  | 7 => "value" | 8 => "word" | 9 => "text" | 10 => "name" | 11 => "hook" | 12 => "count" | 13 => "name"
  | _ => ""

abbrev LS := List S
abbrev DX := DErr → LS → Prop
abbrev DE := DX → LS → (D → LS → Prop) → Prop
abbrev DO := DX → LS → (S → LS → Prop) → Prop
abbrev DT := DX → LS → (Bool → LS → Prop) → Prop
/-- an argument: a value, or an own object by its slot -/
inductive AI where
  | d (d : D) | io (i : Nat)
abbrev DA := DX → LS → (List D → LS → Prop) → Prop
structure DEnds where
  nx : LS → Prop
  rt : S → LS → Prop
  bk : LS → Prop
  ct : LS → Prop
  ex : DX
abbrev DS := DEnds → LS → Prop

section
variable (K : PySem.W.Frag) (mg : Str → Option Value)
def Node (H : Hp) : Tg → Addr → List V → Prop
  | .tup, a, vs => SqT K H a vs
  | .lst, a, vs => H a = some (.lst vs)
  | .scr, a, vs => SqL K H a vs
  | .dic ks, a, vs => ks.length = vs.length ∧ Rd H a (.dK (ks.zip vs))
  | .ins c fs, a, vs => fs.length = vs.length ∧ ∃ C dx, mg c = some (.ref C) ∧ H a = some (.ins C dx (fs.zip vs))
mutual
def Rep (H : Hp) : D → V → Prop
  | .non, v => v = .non
  | .bl b, v => v = .bl b
  | .int i, v => v = .int i
  | .str x, v => v = .str x
  | .glo x, v => ∃ a, mg x = some (.ref a) ∧ v = .ref a
  | .nd t ds, v => ∃ a vs, v = .ref a ∧ Node K mg H t a vs ∧ RepL H ds vs
def RepL (H : Hp) : List D → List V → Prop
  | [], vs => vs = []
  | d :: ds, vs => ∃ v r, vs = v :: r ∧ Rep H d v ∧ RepL H ds r
end
def RepE (H : Hp) (e : DErr) (cls : Value) (d : Option Addr) : Prop :=
  (∃ C, mg (exN e.k) = some (.ref C) ∧ cls = .ref C) ∧ ((e.k = 14 ∧ d = none) ∨ ∃ dd v, d = some dd ∧ H dd = some (.xd [(exF e.k, v)]) ∧ Rep K mg H e.d v)
/-- tracked, to be written -/
def NodeM (H : Hp) : Tg → Addr → List V → Prop
  | .tup, _, _ => False
  | .scr, _, _ => False
  | .lst, a, vs => H a = some (.lst vs)
  | .dic ks, a, vs => ks.length = vs.length ∧ H a = some (.dK (ks.zip vs))
  | .ins c fs, a, vs => fs.length = vs.length ∧ ∃ C dx, mg c = some (.ref C) ∧ H a = some (.ins C dx (fs.zip vs))
end

section
variable {K : PySem.W.Frag} {mg : Str → Option Value} {H H' H0 H0' : Hp}
theorem Rd.mono {a : Addr} {u : HO} (e : Same H H') (h : Rd H a u) : Rd H' a u := by
  rcases h with h | ⟨o, h⟩
  · exact .inl (e _ _ h)
  · exact .inr ⟨o, e _ _ h⟩
theorem SqT.mono {a : Addr} {xs : List V} (e : Same H H') (h : SqT K H a xs) : SqT K H' a xs := by
  rcases h with h | h
  · exact .inl (Rd.mono e h)
  · exact .inr h
theorem Node.mono {t : Tg} {a : Addr} {vs : List V} (e : Same H H') (h : Node K mg H t a vs) : Node K mg H' t a vs := by
  cases t with
  | tup => exact SqT.mono e h
  | lst => exact e _ _ h
  | scr => exact e.seq h
  | dic ks => exact ⟨h.1, Rd.mono e h.2⟩
  | ins c fs =>
    obtain ⟨h1, C, dx, h2, h3⟩ := h
    exact ⟨h1, C, dx, h2, e _ _ h3⟩
mutual
theorem Rep.mono (e : Same H H') : ∀ (d : D) (v : V), Rep K mg H d v → Rep K mg H' d v
  | .non, _, h => h
  | .bl _, _, h => h
  | .int _, _, h => h
  | .str _, _, h => h
  | .glo _, _, h => h
  | .nd t ds, v, h => by
    unfold Rep at h ⊢
    obtain ⟨a, vs, h1, h2, h3⟩ := h
    exact ⟨a, vs, h1, Node.mono e h2, RepL.mono e ds vs h3⟩
theorem RepL.mono (e : Same H H') : ∀ (ds : List D) (vs : List V), RepL K mg H ds vs → RepL K mg H' ds vs
  | [], _, h => h
  | d :: ds, vs, h => by
    unfold RepL at h ⊢
    obtain ⟨v, r, h1, h2, h3⟩ := h
    exact ⟨v, r, h1, Rep.mono e d v h2, RepL.mono e ds r h3⟩
end
theorem RepE.mono {er : DErr} {cls : Value} {d : Option Addr} (e : Same H H') (h : RepE K mg H er cls d) : RepE K mg H' er cls d := by
  obtain ⟨h1, h2⟩ := h
  refine ⟨h1, h2.imp id fun ⟨dd, v, a1, a2, a3⟩ => ⟨dd, v, a1, e _ _ a2, Rep.mono e _ v a3⟩⟩
theorem Rep.int {i : Int} {v : V} (h : Rep K mg H (.int i) v) : v = .int i := by unfold Rep at h; exact h
theorem Rep.str {i : Str} {v : V} (h : Rep K mg H (.str i) v) : v = .str i := by unfold Rep at h; exact h
theorem Rep.bl {i : Bool} {v : V} (h : Rep K mg H (.bl i) v) : v = .bl i := by unfold Rep at h; exact h
theorem Rep.non {v : V} (h : Rep K mg H .non v) : v = .non := by unfold Rep at h; exact h
theorem Rep.nd {t : Tg} {ds : List D} {v : V} (h : Rep K mg H (.nd t ds) v) : ∃ a vs, v = .ref a ∧ Node K mg H t a vs ∧ RepL K mg H ds vs := by unfold Rep at h; exact h
theorem rep_int {i : Int} : Rep K mg H (.int i) (.int i) := by unfold Rep; rfl
theorem rep_str {i : Str} : Rep K mg H (.str i) (.str i) := by unfold Rep; rfl
theorem rep_bl {i : Bool} : Rep K mg H (.bl i) (.bl i) := by unfold Rep; rfl
theorem rep_non : Rep K mg H .non .non := by unfold Rep; rfl
theorem rep_nd {t : Tg} {ds : List D} {a : Addr} {vs : List V} (h : Node K mg H t a vs) (r : RepL K mg H ds vs) : Rep K mg H (.nd t ds) (.ref a) := by
  unfold Rep
  exact ⟨a, vs, rfl, h, r⟩
theorem repL_nil : RepL K mg H [] [] := by unfold RepL; rfl
theorem repL_cons {d : D} {ds : List D} {v : V} {vs : List V} (h : Rep K mg H d v) (r : RepL K mg H ds vs) : RepL K mg H (d :: ds) (v :: vs) := by
  unfold RepL
  exact ⟨v, vs, rfl, h, r⟩
theorem RepL.nil {vs : List V} (h : RepL K mg H [] vs) : vs = [] := by unfold RepL at h; exact h
theorem RepL.cons {d : D} {ds : List D} {vs : List V} (h : RepL K mg H (d :: ds) vs) : ∃ v r, vs = v :: r ∧ Rep K mg H d v ∧ RepL K mg H ds r := by unfold RepL at h; exact h
theorem RepL.length : ∀ {ds : List D} {vs : List V}, RepL K mg H ds vs → vs.length = ds.length
  | [], _, h => by rw [h.nil]; rfl
  | d :: ds, _, h => by
    obtain ⟨v, r, rfl, _, h3⟩ := h.cons
    simp [RepL.length h3]
theorem RepL.get : ∀ {ds : List D} {vs : List V} {i : Nat} {d : D}, RepL K mg H ds vs → ds[i]? = some d → ∃ v, vs[i]? = some v ∧ Rep K mg H d v
  | [], _, _, _, h, e => by simp at e
  | d :: ds, _, 0, d', h, e => by
    obtain ⟨v, r, rfl, h2, h3⟩ := h.cons
    simp at e; subst e
    exact ⟨v, by simp, h2⟩
  | d :: ds, _, i + 1, d', h, e => by
    obtain ⟨v, r, rfl, h2, h3⟩ := h.cons
    simp at e
    obtain ⟨w, h4, h5⟩ := RepL.get h3 e
    exact ⟨w, by simpa using h4, h5⟩
theorem RepL.getV : ∀ {ds : List D} {vs : List V} {i : Nat} {v : V}, RepL K mg H ds vs → vs[i]? = some v → ∃ d, ds[i]? = some d ∧ Rep K mg H d v
  | [], _, _, _, h, e => by rw [h.nil] at e; simp at e
  | d :: ds, _, 0, d', h, e => by
    obtain ⟨v, r, rfl, h2, h3⟩ := h.cons
    simp at e; subst e
    exact ⟨d, by simp, h2⟩
  | d :: ds, _, i + 1, d', h, e => by
    obtain ⟨v, r, rfl, h2, h3⟩ := h.cons
    simp at e
    obtain ⟨w, h4, h5⟩ := RepL.getV h3 e
    exact ⟨w, by simpa using h4, h5⟩
theorem RepL.append : ∀ {ds es : List D} {vs ws : List V}, RepL K mg H ds vs → RepL K mg H es ws → RepL K mg H (ds ++ es) (vs ++ ws)
  | [], _, _, _, h, k => by rw [h.nil]; exact k
  | d :: ds, _, _, _, h, k => by
    obtain ⟨v, r, rfl, h2, h3⟩ := h.cons
    exact repL_cons h2 (RepL.append h3 k)
theorem RepL.take : ∀ {ds : List D} {vs : List V} (n : Nat), RepL K mg H ds vs → RepL K mg H (ds.take n) (vs.take n)
  | _, _, 0, _ => by simpa using repL_nil
  | [], _, n + 1, h => by rw [h.nil]; simpa using repL_nil
  | d :: ds, _, n + 1, h => by
    obtain ⟨v, r, rfl, h2, h3⟩ := h.cons
    simpa using repL_cons h2 (RepL.take n h3)
theorem RepL.drop : ∀ {ds : List D} {vs : List V} (n : Nat), RepL K mg H ds vs → RepL K mg H (ds.drop n) (vs.drop n)
  | _, _, 0, h => by simpa using h
  | [], _, n + 1, h => by rw [h.nil]; simpa using repL_nil
  | d :: ds, _, n + 1, h => by
    obtain ⟨v, r, rfl, h2, h3⟩ := h.cons
    simpa using RepL.drop n h3
theorem RepL.set : ∀ {ds : List D} {vs : List V} {d : D} {v : V} (n : Nat), RepL K mg H ds vs → Rep K mg H d v → RepL K mg H (ds.set n d) (vs.set n v)
  | [], _, _, _, _, h, _ => by rw [h.nil]; simpa using repL_nil
  | d :: ds, _, _, _, 0, h, k => by
    obtain ⟨v, r, rfl, h2, h3⟩ := h.cons
    simpa using repL_cons k h3
  | d :: ds, _, _, _, n + 1, h, k => by
    obtain ⟨v, r, rfl, h2, h3⟩ := h.cons
    simpa using repL_cons h2 (RepL.set n h3 k)
theorem NodeM.node {t : Tg} {a : Addr} {vs : List V} (h : NodeM mg H t a vs) : Node K mg H t a vs := by
  cases t with
  | tup => exact h.elim
  | lst => exact h
  | scr => exact h.elim
  | dic ks => exact ⟨h.1, .inl h.2⟩
  | ins c fs => exact h
theorem NodeM.some {t : Tg} {a : Addr} {vs : List V} (h : NodeM mg H t a vs) : ∃ o, H a = Option.some o := by
  cases t with
  | tup => exact h.elim
  | lst => exact ⟨_, h⟩
  | scr => exact h.elim
  | dic ks => exact ⟨_, h.2⟩
  | ins c fs =>
    obtain ⟨_, _, _, _, h⟩ := h
    exact ⟨_, h⟩
theorem NodeM.keep {t : Tg} {a : Addr} {vs : List V} (h : NodeM mg H t a vs) (e : ∀ o, H a = Option.some o → H' a = Option.some o) : NodeM mg H' t a vs := by
  cases t with
  | tup => exact h.elim
  | lst => exact e _ h
  | scr => exact h.elim
  | dic ks => exact ⟨h.1, e _ h.2⟩
  | ins c fs =>
    obtain ⟨h0, C, dx, h1, h⟩ := h
    exact ⟨h0, C, dx, h1, e _ h⟩
end

/-! ### the state -/
/-- a call's ground: the anchor and the heap at its entry, the objects that it may change -/
structure Cfg where
  B0 : Hp
  B : Hp
  A : List Addr
section
variable (K : PySem.W.Frag) (mg : Str → Option Value)
def RSlot (C : Cfg) (H0 H : Hp) : Option S → Option (Option V) → Prop
  | some (.fz d), v => ∃ w, v = some (some w) ∧ Rep K mg H0 d w
  | some (.xc u e), v => v = some (some (.ref u.a)) ∧ RepE K mg H0 e u.cls u.d
  | some (.ow a l t ds), v => v = some (some (.ref a)) ∧ H0 a = none ∧ (l = true → C.B a = none) ∧ (l = false → a ∈ C.A) ∧ ∃ vs, NodeM mg H t a vs ∧ RepL K mg H0 ds vs
  | _, _ => True
structure I (C : Cfg) (H0 H : Hp) (σ : L2.St) (st : LS) : Prop where
  same : Same H0 H
  up : Same C.B0 H0
  keep : ∀ b o, C.B b = some o → b ∉ C.A → H b = some o
  low : ∀ b o, C.B b = some o → C.B0 b = none → H0 b = none
  aa : ∀ a ∈ C.A, ∃ o, H a = some o
  len : st.length = σ.length
  slots : ∀ i : Nat, RSlot K mg C H0 H st[i]? σ[i]?
  dist : ∀ (i j : Nat) a l t ds l' t' ds', st[i]? = some (S.ow a l t ds) → st[j]? = some (S.ow a l' t' ds') → i = j
/-- a result: a value, or a new object of one's own -/
def RepR (C : Cfg) (H0 H : Hp) (st : LS) : S → V → Prop
  | .fz d, v => Rep K mg H0 d v
  | .ow a l t ds, v => v = .ref a ∧ l = true ∧ H0 a = none ∧ C.B a = none ∧ (∀ (i : Nat) l' t' ds', st[i]? ≠ some (S.ow a l' t' ds')) ∧ ∃ vs, NodeM mg H t a vs ∧ RepL K mg H0 ds vs
  | .un, _ => False
  | .xc _ _, _ => False
def LkX (C : Cfg) (H0 : Hp) (σ : L2.St) (W : WX) (Ex : DX) : Prop :=
  ∀ e st' H0' H' cls d, Ex e st' → I K mg C H0' H' σ st' → Same H0 H0' → RepE K mg H0' e cls d → W cls d σ H'
structure LkS (C : Cfg) (H0 : Hp) (W : WX) (de : DEnds) (Dn : Ends) : Prop where
  nx : ∀ st' σ' H0' H', de.nx st' → I K mg C H0' H' σ' st' → Same H0 H0' → Dn.nx σ' H'
  bk : ∀ st' σ' H0' H', de.bk st' → I K mg C H0' H' σ' st' → Same H0 H0' → Dn.bk σ' H'
  ct : ∀ st' σ' H0' H', de.ct st' → I K mg C H0' H' σ' st' → Same H0 H0' → Dn.ct σ' H'
  rt : ∀ r st' v σ' H0' H', de.rt r st' → I K mg C H0' H' σ' st' → Same H0 H0' → RepR K mg C H0' H' st' r v → Dn.rt v H'
  ex : ∀ e st' σ' H0' H' cls d, de.ex e st' → I K mg C H0' H' σ' st' → Same H0 H0' → RepE K mg H0' e cls d → W cls d σ' H'
end

/-! ### judgements -/
structure PED (X : Cx) (W : WX) (e : Expr) (g : DE) : Prop where
  ex : ∃ t, PE X e t ∧ ∀ (C : Cfg) (H0 H : Hp) (σ : L2.St) (st : LS) (Ex : DX) (Q : D → LS → Prop) (Qv : VK), I X.K X.mg C H0 H σ st → LkX X.K X.mg C H0 σ W Ex →
    (∀ d st' v H0' H', Q d st' → I X.K X.mg C H0' H' σ st' → Same H0 H0' → Rep X.K X.mg H0' d v → Qv v H') → g Ex st Q → t σ H Qv
structure POD (X : Cx) (W : WX) (e : Expr) (g : DO) : Prop where
  ex : ∃ t, PE X e t ∧ ∀ (C : Cfg) (H0 H : Hp) (σ : L2.St) (st : LS) (Ex : DX) (Q : S → LS → Prop) (Qv : VK), I X.K X.mg C H0 H σ st → LkX X.K X.mg C H0 σ W Ex →
    (∀ r st' v H0' H', Q r st' → I X.K X.mg C H0' H' σ st' → Same H0 H0' → RepR X.K X.mg C H0' H' st' r v → Qv v H') → g Ex st Q → t σ H Qv
structure PTD (X : Cx) (W : WX) (e : Expr) (g : DT) : Prop where
  ex : ∃ t, PT X e t ∧ ∀ (C : Cfg) (H0 H : Hp) (σ : L2.St) (st : LS) (Ex : DX) (Q : Bool → LS → Prop) (Qv : Bool → Hp → Prop), I X.K X.mg C H0 H σ st → LkX X.K X.mg C H0 σ W Ex →
    (∀ d st' H0' H', Q d st' → I X.K X.mg C H0' H' σ st' → Same H0 H0' → Qv d H') → g Ex st Q → t σ H Qv
structure PAD (X : Cx) (W : WX) (es : List Expr) (g : DA) : Prop where
  ex : ∃ t, PA X es t ∧ ∀ (C : Cfg) (H0 H : Hp) (σ : L2.St) (st : LS) (Ex : DX) (Q : List D → LS → Prop) (Qv : List V → Hp → Prop), I X.K X.mg C H0 H σ st → LkX X.K X.mg C H0 σ W Ex →
    (∀ ds st' vs H0' H', Q ds st' → I X.K X.mg C H0' H' σ st' → Same H0 H0' → RepL X.K X.mg H0' ds vs → ds.length = es.length → Qv vs H') → g Ex st Q → t σ H Qv
structure PSD (X : Cx) (W : WX) (s : Stmt) (g : DS) : Prop where
  ex : ∃ t, PS X s t ∧ ∀ (C : Cfg) (H0 H : Hp) (σ : L2.St) (st : LS) (de : DEnds) (Dn : Ends), I X.K X.mg C H0 H σ st → LkS X.K X.mg C H0 W de Dn → g de st → t Dn σ H
structure PSsD (X : Cx) (W : WX) (s : List Stmt) (g : DS) : Prop where
  ex : ∃ t, PSs X s t ∧ ∀ (C : Cfg) (H0 H : Hp) (σ : L2.St) (st : LS) (de : DEnds) (Dn : Ends), I X.K X.mg C H0 H σ st → LkS X.K X.mg C H0 W de Dn → g de st → t Dn σ H

section
variable {K : PySem.W.Frag} {mg : Str → Option Value} {C : Cfg} {H0 H H0' H' : Hp} {σ : L2.St} {st : LS}
theorem LkX.up {W : WX} {Ex : DX} (h : LkX K mg C H0 σ W Ex) (e : Same H0 H0') : LkX K mg C H0' σ W Ex :=
  fun er st' H1 H2 cls d a b c r => h er st' H1 H2 cls d a b (e.trans c) r
theorem LkS.up {W : WX} {de : DEnds} {Dn : Ends} (h : LkS K mg C H0 W de Dn) (e : Same H0 H0') : LkS K mg C H0' W de Dn :=
  ⟨fun a b c d x y z => h.nx a b c d x y (e.trans z), fun a b c d x y z => h.bk a b c d x y (e.trans z), fun a b c d x y z => h.ct a b c d x y (e.trans z),
   fun a b c d f g x y z => h.rt a b c d f g x y (e.trans z), fun a b c d f g k x y z => h.ex a b c d f g k x y (e.trans z)⟩
theorem LkS.xp {W : WX} {de : DEnds} {Dn : Ends} (h : LkS K mg C H0 W de Dn) (σ : L2.St) : LkX K mg C H0 σ W de.ex :=
  fun er st' H1 H2 cls d a b c r => h.ex er st' σ H1 H2 cls d a b c r
theorem I.fz (i : I K mg C H0 H σ st) {k : Nat} {d : D} (e : st[k]? = some (.fz d)) : ∃ v, σ[k]? = some (some v) ∧ Rep K mg H0 d v := by
  have h := i.slots k
  rw [e] at h
  exact h
theorem I.ow (i : I K mg C H0 H σ st) {k : Nat} {a : Addr} {l : Bool} {t : Tg} {ds : List D} (e : st[k]? = some (.ow a l t ds)) :
    σ[k]? = some (some (.ref a)) ∧ H0 a = none ∧ (l = true → C.B a = none) ∧ (l = false → a ∈ C.A) ∧ ∃ vs, NodeM mg H t a vs ∧ RepL K mg H0 ds vs := by
  have h := i.slots k
  rw [e] at h
  exact h
theorem RSlot.move {s : Option S} {v : Option (Option V)} (h : RSlot K mg C H0 H s v) (e0 : Same H0 H0')
    (f : ∀ a l t ds, s = some (.ow a l t ds) → H0' a = none ∧ ∀ o, H a = some o → H' a = some o) : RSlot K mg C H0' H' s v := by
  cases s with
  | none => trivial
  | some s =>
    cases s with
    | un => trivial
    | xc u e => exact ⟨h.1, RepE.mono e0 h.2⟩
    | fz d =>
      obtain ⟨w, h1, h2⟩ := h
      exact ⟨w, h1, Rep.mono e0 d w h2⟩
    | ow a l t ds =>
      obtain ⟨h1, h2, h3, h4, vs, h5, h6⟩ := h
      obtain ⟨f1, f2⟩ := f a l t ds rfl
      exact ⟨h1, f1, h3, h4, vs, h5.keep f2, RepL.mono e0 ds vs h6⟩
/-- new objects on both heaps -/
theorem I.grow (i : I K mg C H0 H σ st) (e0 : Same H0 H0') (e : Same H H') (s : Same H0' H') (nw : ∀ b o, H b = some o → H0 b = none → H0' b = none) : I K mg C H0' H' σ st where
  same := s
  up := i.up.trans e0
  keep := fun b o h n => e _ _ (i.keep b o h n)
  low := fun b o h n => by
    by_cases hb : b ∈ C.A
    · obtain ⟨o', q⟩ := i.aa b hb
      exact nw b o' q (i.low b o h n)
    · exact nw b o (i.keep b o h hb) (i.low b o h n)
  aa := fun a h => let ⟨o, q⟩ := i.aa a h; ⟨o, e _ _ q⟩
  len := i.len
  slots := fun k => (i.slots k).move e0 fun a l t ds q => by
    obtain ⟨_, h2, _, _, vs, h5, _⟩ := i.ow q
    obtain ⟨o, h6⟩ := h5.some
    exact ⟨nw a o h6 h2, fun o' q' => e _ _ q'⟩
  dist := i.dist
theorem same_upd {p : Addr} {o : HO} (n : H p = none) : Same H (upd H p o) := fun b u e => by
  rw [upd_ne (ne_of_none e n)]; exact e
theorem same_upd2 {p : Addr} {o : HO} (s : Same H0 H) : Same (upd H0 p o) (upd H p o) := fun b u e => by
  by_cases h : b = p
  · subst h; rw [upd_same] at e ⊢; exact e
  · rw [upd_ne h] at e ⊢; exact s _ _ e
/-- a new object that never changes -/
theorem I.new (i : I K mg C H0 H σ st) {p : Addr} {o : HO} (n : H p = none) : I K mg C (upd H0 p o) (upd H p o) σ st :=
  i.grow (same_upd (i.same.free n)) (same_upd n) (same_upd2 i.same) fun b u e z => by rw [upd_ne (ne_of_none e n)]; exact z
/-- a new object that stays one's own -/
theorem I.own (i : I K mg C H0 H σ st) {p : Addr} {o : HO} (n : H p = none) : I K mg C H0 (upd H p o) σ st :=
  i.grow (Same.refl _) (same_upd n) (i.same.trans (same_upd n)) fun b u _ z => z
/-- an own new object becomes a value -/
theorem I.freeze (i : I K mg C H0 H σ st) {a : Addr} {t : Tg} {ds : List D} {v : V} (r : RepR K mg C H0 H st (.ow a true t ds) v) :
    ∃ H0', I K mg C H0' H σ st ∧ Same H0 H0' ∧ Rep K mg H0' (.nd t ds) v := by
  obtain ⟨rfl, _, h0, hB, hs, vs, hn, hr⟩ := r
  obtain ⟨o, ho⟩ := hn.some
  have s1 : Same H0 (upd H0 a o) := same_upd h0
  have s2 : Same (upd H0 a o) H := fun b u e => by
    by_cases q : b = a
    · subst q; rw [upd_same] at e; rw [ho, e]
    · rw [upd_ne q] at e; exact i.same _ _ e
  refine ⟨upd H0 a o, ⟨s2, i.up.trans s1, i.keep, fun b u h n => ?_, i.aa, i.len, fun k => (i.slots k).move s1 fun a' l t' ds' q => ⟨?_, fun _ z => z⟩, i.dist⟩, s1, ?_⟩
  · rw [upd_ne (ne_of_none h hB)]; exact i.low b u h n
  · have q' := i.ow q
    have : a' ≠ a := fun z => by subst z; exact hs k l t' ds' q
    rw [upd_ne this]; exact q'.2.1
  · refine rep_nd (vs := vs) ?_ (RepL.mono s1 ds vs hr)
    refine NodeM.node (hn.keep fun o' q => ?_)
    rw [ho] at q; cases q; exact upd_same
theorem RepR.d (i : I K mg C H0 H σ st) {r : S} {v : V} (h : RepR K mg C H0 H st r v) : ∃ H0' d, (r = .fz d ∨ ∃ a t ds, r = .ow a true t ds ∧ d = .nd t ds) ∧ I K mg C H0' H σ st ∧ Same H0 H0' ∧ Rep K mg H0' d v := by
  cases r with
  | un => exact h.elim
  | xc _ _ => exact h.elim
  | fz d => exact ⟨H0, d, .inl rfl, i, Same.refl _, h⟩
  | ow a l t ds =>
    obtain ⟨h1, h2, h3⟩ := h
    subst h2
    obtain ⟨H0', a1, a2, a3⟩ := i.freeze (a := a) (t := t) (ds := ds) (v := v) ⟨h1, rfl, h3⟩
    exact ⟨H0', .nd t ds, .inr ⟨a, t, ds, rfl, rfl⟩, a1, a2, a3⟩
theorem getElem?_set_st {α : Type} {l : List α} {i j : Nat} {x : α} (h : i < l.length) : (l.set i x)[j]? = if j = i then some x else l[j]? := by
  by_cases e : j = i
  · subst e; rw [if_pos rfl]; simp [h]
  · rw [if_neg e, List.getElem?_set_ne (fun z => e z.symm)]
/-- a slot takes a result -/
theorem I.set (i : I K mg C H0 H σ st) {k : Nat} {r : S} {v : V} (h : RepR K mg C H0 H st r v) : I K mg C H0 H (σ.set k (some v)) (st.set k r) where
  same := i.same
  up := i.up
  keep := i.keep
  low := i.low
  aa := i.aa
  len := by rw [List.length_set, List.length_set]; exact i.len
  slots := fun j => by
    by_cases hk : k < st.length
    · have hk' : k < σ.length := by rw [← i.len]; exact hk
      rw [getElem?_set_st hk, getElem?_set_st hk']
      by_cases e : j = k
      · rw [if_pos e, if_pos e]
        cases r with
        | un => trivial
        | xc _ _ => exact h.elim
        | fz d => exact ⟨v, rfl, h⟩
        | ow a l t ds =>
          obtain ⟨rfl, h2, h3, h4, h5, h6⟩ := h
          subst h2
          exact ⟨rfl, h3, fun _ => h4, fun z => Bool.noConfusion z, h6⟩
      · rw [if_neg e, if_neg e]; exact i.slots j
    · rw [List.set_eq_of_length_le (Nat.le_of_not_lt hk), List.set_eq_of_length_le (by rw [← i.len]; exact Nat.le_of_not_lt hk)]
      exact i.slots j
  dist := fun x y a l t ds l' t' ds' e1 e2 => by
    by_cases hk : k < st.length
    · rw [getElem?_set_st hk] at e1 e2
      by_cases hx : x = k <;> by_cases hy : y = k
      · rw [hx, hy]
      · rw [if_pos hx] at e1
        rw [if_neg hy] at e2
        cases r with
        | un => cases e1
        | xc _ _ => exact h.elim
        | fz d => cases e1
        | ow a' l0 t0 ds0 =>
          cases e1
          exact absurd e2 (h.2.2.2.2.1 y l' t' ds')
      · rw [if_neg hx] at e1
        rw [if_pos hy] at e2
        cases r with
        | un => cases e2
        | xc _ _ => exact h.elim
        | fz d => cases e2
        | ow a' l0 t0 ds0 =>
          cases e2
          exact absurd e1 (h.2.2.2.2.1 x l t ds)
      · rw [if_neg hx] at e1
        rw [if_neg hy] at e2
        exact i.dist x y a l t ds l' t' ds' e1 e2
    · rw [List.set_eq_of_length_le (Nat.le_of_not_lt hk)] at e1 e2
      exact i.dist x y a l t ds l' t' ds' e1 e2
end
end PD

namespace PD
open PySem PySem.Spec PyProof.Rows L2
/-! ### readings over data -/
def dVar (i : Nat) (_u0 : DX) (st : LS) (Q : D → LS → Prop) : Prop := match st[i]? with
  | some (.fz d) => Q d st
  | some (.ow _ true t ds) => Q (.nd t ds) (st.set i (.fz (.nd t ds)))
  | _ => False
def dC (d : D) (_u0 : DX) (st : LS) (Q : D → LS → Prop) : Prop := Q d st
/-- a value's reading from a result's -/
def dFz (g : DO) (Ex : DX) (st : LS) (Q : D → LS → Prop) : Prop := g Ex st fun r st' => match r with
  | .fz d => Q d st'
  | .ow _ _ t ds => Q (.nd t ds) st'
  | .un => False
  | .xc _ _ => False
def dRes (g : DE) (Ex : DX) (st : LS) (Q : S → LS → Prop) : Prop := g Ex st fun d st' => Q (.fz d) st'
def dTst (g : DE) (Ex : DX) (st : LS) (Q : Bool → LS → Prop) : Prop := g Ex st fun d st' => match d with
  | .bl b => Q b st'
  | _ => False
abbrev F1 := D → (D → Prop) → Prop
abbrev F2 := D → D → (D → Prop) → Prop
abbrev FL := List D → (D → Prop) → Prop
def dOp (f : F2) (ga gb : DE) (Ex : DX) (st : LS) (Q : D → LS → Prop) : Prop := ga Ex st fun x st1 => gb Ex st1 fun y st2 => f x y fun d => Q d st2
def dUn (f : F1) (ga : DE) (Ex : DX) (st : LS) (Q : D → LS → Prop) : Prop := ga Ex st fun x st1 => f x fun d => Q d st1
def dAnd (ga gb : DE) (Ex : DX) (st : LS) (Q : D → LS → Prop) : Prop := ga Ex st fun x st1 => match x with
  | .bl true => gb Ex st1 Q
  | .bl false => Q (.bl false) st1
  | _ => False
def dOr (ga gb : DE) (Ex : DX) (st : LS) (Q : D → LS → Prop) : Prop := ga Ex st fun x st1 => match x with
  | .bl true => Q (.bl true) st1
  | .bl false => gb Ex st1 Q
  | _ => False
def dNot (ga : DE) (Ex : DX) (st : LS) (Q : D → LS → Prop) : Prop := ga Ex st fun x st1 => match x with
  | .bl b => Q (.bl (!b)) st1
  | _ => False
def dIf (gc : DT) (ga gb : DE) (Ex : DX) (st : LS) (Q : D → LS → Prop) : Prop := gc Ex st fun c st1 => match c with
  | true => ga Ex st1 Q
  | false => gb Ex st1 Q
def dAndT (ga gb : DT) (Ex : DX) (st : LS) (Q : Bool → LS → Prop) : Prop := ga Ex st fun c st1 => match c with
  | true => gb Ex st1 Q
  | false => Q false st1
def dOrT (ga gb : DT) (Ex : DX) (st : LS) (Q : Bool → LS → Prop) : Prop := ga Ex st fun c st1 => match c with
  | true => Q true st1
  | false => gb Ex st1 Q
def dNotT (ga : DT) (Ex : DX) (st : LS) (Q : Bool → LS → Prop) : Prop := ga Ex st fun c st1 => Q (!c) st1
def dANil (_u0 : DX) (st : LS) (Q : List D → LS → Prop) : Prop := Q [] st
def dACons (g : DE) (h : DA) (Ex : DX) (st : LS) (Q : List D → LS → Prop) : Prop := g Ex st fun d st1 => h Ex st1 fun ds st2 => Q (d :: ds) st2
def dTup (g : DA) (Ex : DX) (st : LS) (Q : D → LS → Prop) : Prop := g Ex st fun ds st1 => Q (.nd .tup ds) st1
def dLst (g : DA) (Ex : DX) (st : LS) (Q : S → LS → Prop) : Prop := g Ex st fun ds st1 => ∀ a, Q (.ow a true .lst ds) st1
def dCB (f : FL) (g : DA) (Ex : DX) (st : LS) (Q : D → LS → Prop) : Prop := g Ex st fun ds st1 => f ds fun d => Q d st1

section
variable {X : Cx} {W : WX} {e a b c : Expr} {es : List Expr} {g ga gb : DE} {pos : Pos}

theorem ped_var {i : Nat} (h : PE X e (tVar i)) : PED X W e (dVar i) := by
  refine ⟨_, h, fun C H0 H σ st Ex Q Qv hI hX hQ hg => ?_⟩
  unfold dVar at hg
  split at hg
  · rename_i d ed
    obtain ⟨v, h1, h2⟩ := hI.fz ed
    exact ⟨v, h1, hQ d st v H0 H hg hI (Same.refl _) h2⟩
  · rename_i a t ds ed
    obtain ⟨h1, h2, h3, h4, vs, h5, h6⟩ := hI.ow ed
    refine ⟨.ref a, h1, ?_⟩
    obtain ⟨o, ho⟩ := h5.some
    have s1 : Same H0 (upd H0 a o) := same_upd h2
    have s2 : Same (upd H0 a o) H := fun b u e => by
      by_cases q : b = a
      · subst q; rw [upd_same] at e; rw [ho, e]
      · rw [upd_ne q] at e; exact hI.same _ _ e
    have hr : Rep X.K X.mg (upd H0 a o) (.nd t ds) (.ref a) := by
      refine rep_nd (vs := vs) ?_ (RepL.mono s1 ds vs h6)
      refine NodeM.node (h5.keep fun o' q => ?_)
      rw [ho] at q; cases q; exact upd_same
    have hk : i < st.length := (List.getElem?_eq_some_iff.mp ed).1
    refine hQ _ _ _ (upd H0 a o) H hg ⟨s2, hI.up.trans s1, hI.keep, fun b u h n => ?_, hI.aa, by rw [List.length_set]; exact hI.len, fun k => ?_, fun x y a' l t ds l' t' ds' e1 e2 => ?_⟩ s1 hr
    · rw [upd_ne (ne_of_none h (h3 rfl))]; exact hI.low b u h n
    · rw [getElem?_set_st hk]
      by_cases q : k = i
      · rw [if_pos q]; subst q
        exact ⟨_, h1, hr⟩
      · rw [if_neg q]
        refine (hI.slots k).move s1 fun a' l' t' ds' q' => ⟨?_, fun _ z => z⟩
        have : a' ≠ a := fun z => by subst z; exact q (hI.dist _ _ _ _ _ _ _ _ _ q' ed)
        rw [upd_ne this]; exact (hI.ow q').2.1
    · rw [getElem?_set_st hk] at e1 e2
      by_cases q1 : x = i
      · rw [if_pos q1] at e1; cases e1
      · by_cases q2 : y = i
        · rw [if_pos q2] at e2; cases e2
        · rw [if_neg q1] at e1; rw [if_neg q2] at e2
          exact hI.dist _ _ _ _ _ _ _ _ _ e1 e2
  · exact hg.elim
theorem ped_c {d : D} {v : V} (h : PE X e (tC v)) (r : ∀ H, Rep X.K X.mg H d v) : PED X W e (dC d) :=
  ⟨_, h, fun C H0 H σ st Ex Q Qv hI hX hQ hg => hQ d st v H0 H hg hI (Same.refl _) (r _)⟩
theorem ped_int {i : Int} {j pos} : PED X W (.Constant (.int i) j pos) (dC (.int i)) := ped_c pe_int fun _ => rep_int
theorem ped_bl {i : Bool} {j pos} : PED X W (.Constant (.bool i) j pos) (dC (.bl i)) := ped_c pe_bl fun _ => rep_bl
theorem ped_str {i : Str} {j pos} : PED X W (.Constant (.str i) j pos) (dC (.str i)) := ped_c pe_str fun _ => rep_str
theorem ped_non {j pos} : PED X W (.Constant .none j pos) (dC .non) := ped_c pe_non fun _ => rep_non
theorem ped_fz {g : DO} (h : POD X W e g) : PED X W e (dFz g) := by
  obtain ⟨t, ht, hr⟩ := h.ex
  refine ⟨t, ht, fun C H0 H σ st Ex Q Qv hI hX hQ hg => hr C H0 H σ st Ex _ Qv hI hX ?_ hg⟩
  intro r st' v H0' H' q i' s' rr
  obtain ⟨H2, d, hd, i2, s2, r2⟩ := RepR.d i' rr
  rcases hd with rfl | ⟨a, t, ds, rfl, rfl⟩
  · exact hQ d st' v H2 H' q i2 (s'.trans s2) r2
  · exact hQ _ st' v H2 H' q i2 (s'.trans s2) r2
theorem pod_d (h : PED X W e g) : POD X W e (dRes g) := by
  obtain ⟨t, ht, hr⟩ := h.ex
  exact ⟨t, ht, fun C H0 H σ st Ex Q Qv hI hX hQ hg => hr C H0 H σ st Ex _ Qv hI hX (fun d st' v H0' H' q i' s' rr => hQ (.fz d) st' v H0' H' q i' s' rr) hg⟩
theorem ptd_val (h : PED X W e g) (he : ∀ whole, isTrue e X.env whole = (do let v ← whole; standAt e.pos; holding [v] (truthy v)) := by intro _; rfl) : PTD X W e (dTst g) := by
  obtain ⟨t, ht, hr⟩ := h.ex
  refine ⟨_, pt_val ht he, fun C H0 H σ st Ex Q Qv hI hX hQ hg => hr C H0 H σ st Ex _ _ hI hX (fun d st' v H0' H' q i' s' rr => ?_) hg⟩
  cases d with
  | bl b => exact ⟨b, rr.bl, hQ b st' H0' H' q i' s'⟩
  | _ => exact q.elim

/-! operators on values -/
def OpD (X : Cx) (F : Value → Value → Sem Value) (f : F2) : Prop := ∃ r, OpR X F r ∧ ∀ (H0 H : Hp) (x y : D) (v u : V) (Q : D → Prop) (Qv : VK), Same H0 H → Rep X.K X.mg H0 x v → Rep X.K X.mg H0 y u → f x y Q →
  (∀ d w, Q d → Rep X.K X.mg H0 d w → Qv w H) → r v u H Qv
def UnD (X : Cx) (F : Value → Sem Value) (f : F1) : Prop := ∃ r, UnR X F r ∧ ∀ (H0 H : Hp) (x : D) (v : V) (Q : D → Prop) (Qv : VK), Same H0 H → Rep X.K X.mg H0 x v → f x Q →
  (∀ d w, Q d → Rep X.K X.mg H0 d w → Qv w H) → r v H Qv
def IxD (X : Cx) (f : F2) : Prop := ∃ r, IxR X r ∧ ∀ (H0 H : Hp) (x y : D) (v u : V) (Q : D → Prop) (Qv : VK), Same H0 H → Rep X.K X.mg H0 x v → Rep X.K X.mg H0 y u → f x y Q →
  (∀ d w, Q d → Rep X.K X.mg H0 d w → Qv w H) → r v u H Qv
def CallD (X : Cx) (F : Value) (f : FL) : Prop := ∃ r, CallR X F r ∧ ∀ (H0 H : Hp) (xs : List D) (vs : List V) (Q : D → Prop) (Qv : VK), Same H0 H → RepL X.K X.mg H0 xs vs → f xs Q →
  (∀ d w, Q d → Rep X.K X.mg H0 d w → Qv w H) → r vs H Qv
theorem bin_run {f : F2} {ta tb : TE} {r : R2} (hr : ∀ (H0 H : Hp) (x y : D) (v u : V) (Q : D → Prop) (Qv : VK), Same H0 H → Rep X.K X.mg H0 x v → Rep X.K X.mg H0 y u → f x y Q → (∀ d w, Q d → Rep X.K X.mg H0 d w → Qv w H) → r v u H Qv)
    (ha : ∀ (C : Cfg) (H0 H : Hp) (σ : L2.St) (st : LS) (Ex : DX) (Q : D → LS → Prop) (Qv : VK), I X.K X.mg C H0 H σ st → LkX X.K X.mg C H0 σ W Ex → (∀ d st' v H0' H', Q d st' → I X.K X.mg C H0' H' σ st' → Same H0 H0' → Rep X.K X.mg H0' d v → Qv v H') → ga Ex st Q → ta σ H Qv)
    (hb : ∀ (C : Cfg) (H0 H : Hp) (σ : L2.St) (st : LS) (Ex : DX) (Q : D → LS → Prop) (Qv : VK), I X.K X.mg C H0 H σ st → LkX X.K X.mg C H0 σ W Ex → (∀ d st' v H0' H', Q d st' → I X.K X.mg C H0' H' σ st' → Same H0 H0' → Rep X.K X.mg H0' d v → Qv v H') → gb Ex st Q → tb σ H Qv)
    (C : Cfg) (H0 H : Hp) (σ : L2.St) (st : LS) (Ex : DX) (Q : D → LS → Prop) (Qv : VK) (hI : I X.K X.mg C H0 H σ st) (hX : LkX X.K X.mg C H0 σ W Ex)
    (hQ : ∀ d st' v H0' H', Q d st' → I X.K X.mg C H0' H' σ st' → Same H0 H0' → Rep X.K X.mg H0' d v → Qv v H') (hg : dOp f ga gb Ex st Q) : tOp r ta tb σ H Qv := by
  refine ha C H0 H σ st Ex _ _ hI hX (fun x st1 v H1 K1 q1 i1 s1 r1 => ?_) hg
  refine hb C H1 K1 σ st1 Ex _ _ i1 (hX.up s1) (fun y st2 u H2 K2 q2 i2 s2 r2 => ?_) q1
  exact hr H2 K2 x y v u _ _ i2.same (Rep.mono s2 x v r1) r2 q2 fun d w q3 r3 => hQ d st2 w H2 K2 q3 i2 (s1.trans s2) r3
theorem ped_op {op : Operator} {f : F2} (ho : OpD X (binaryOp op) f) (ha : PED X W a ga) (hb : PED X W b gb) : PED X W (.BinOp a op b pos) (dOp f ga gb) := by
  obtain ⟨r, h1, h2⟩ := ho
  obtain ⟨ta, pa, qa⟩ := ha.ex
  obtain ⟨tb, pb, qb⟩ := hb.ex
  exact ⟨_, pe_op h1 pa pb, bin_run h2 qa qb⟩
theorem ped_cmp {op : CmpOp} {f : F2} (ho : OpD X (compareOp op) f) (ha : PED X W a ga) (hb : PED X W b gb) (hm : behindInMarks op b = false := by first | exact nomark _ | with_unfolding_all rfl) : PED X W (.Compare a [op] [b] pos) (dOp f ga gb) := by
  obtain ⟨r, h1, h2⟩ := ho
  obtain ⟨ta, pa, qa⟩ := ha.ex
  obtain ⟨tb, pb, qb⟩ := hb.ex
  exact ⟨_, pe_cmpR h1 pa pb hm, bin_run h2 qa qb⟩
theorem ptd_cmp {op : CmpOp} {f : F2} (ho : OpD X (compareOp op) f) (ha : PED X W a ga) (hb : PED X W b gb) (hm : behindInMarks op b = false := by first | exact nomark _ | with_unfolding_all rfl) : PTD X W (.Compare a [op] [b] pos) (dTst (dOp f ga gb)) := by
  obtain ⟨r, h1, h2⟩ := ho
  obtain ⟨ta, pa, qa⟩ := ha.ex
  obtain ⟨tb, pb, qb⟩ := hb.ex
  refine ⟨_, pt_cmpR h1 pa pb hm, fun C H0 H σ st Ex Q Qv hI hX hQ hg => bin_run h2 qa qb C H0 H σ st Ex _ _ hI hX (fun d st' v H0' H' q i' s' rr => ?_) hg⟩
  cases d with
  | bl b => exact ⟨b, rr.bl, hQ b st' H0' H' q i' s'⟩
  | _ => exact q.elim
theorem ped_ix {f : F2} (ho : IxD X f) (ha : PED X W a ga) (hb : PED X W b gb) (hs : PlainIx b := by intro _ _; rfl) : PED X W (.Subscript a b pos) (dOp f ga gb) := by
  obtain ⟨r, h1, h2⟩ := ho
  obtain ⟨ta, pa, qa⟩ := ha.ex
  obtain ⟨tb, pb, qb⟩ := hb.ex
  exact ⟨_, pe_ix h1 pa pb hs, bin_run h2 qa qb⟩
theorem ped_un {op : UnaryOp} {f : F1} (ho : UnD X (unaryOp op) f) (ha : PED X W a ga) : PED X W (.UnaryOp op a pos) (dUn f ga) := by
  obtain ⟨r, h1, h2⟩ := ho
  obtain ⟨ta, pa, qa⟩ := ha.ex
  refine ⟨_, pe_un h1 pa, fun C H0 H σ st Ex Q Qv hI hX hQ hg => qa C H0 H σ st Ex _ _ hI hX (fun x st1 v H1 K1 q1 i1 s1 r1 => ?_) hg⟩
  exact h2 H1 K1 x v _ _ i1.same r1 q1 fun d w q3 r3 => hQ d st1 w H1 K1 q3 i1 s1 r3
theorem ped_one {op} (h : PED X W a g) : PED X W (.BoolOp op [a] pos) g := by
  obtain ⟨t, p, q⟩ := h.ex
  exact ⟨_, pe_one p, q⟩
theorem ped_and {rest : List Expr} (ha : PED X W a ga) (hb : PED X W (.BoolOp .And (b :: rest) pos) gb) : PED X W (.BoolOp .And (a :: b :: rest) pos) (dAnd ga gb) := by
  obtain ⟨ta, pa, qa⟩ := ha.ex
  obtain ⟨tb, pb, qb⟩ := hb.ex
  refine ⟨_, pe_and pa pb, fun C H0 H σ st Ex Q Qv hI hX hQ hg => qa C H0 H σ st Ex _ _ hI hX (fun x st1 v H1 K1 q1 i1 s1 r1 => ?_) hg⟩
  cases x with
  | bl k =>
    refine ⟨k, r1.bl, ?_⟩
    cases k with
    | true => exact iteT (qb C H1 K1 σ st1 Ex Q Qv i1 (hX.up s1) (fun d st2 w H2 K2 q2 i2 s2 r2 => hQ d st2 w H2 K2 q2 i2 (s1.trans s2) r2) q1)
    | false => exact iteF (hQ _ st1 _ H1 K1 q1 i1 s1 rep_bl)
  | _ => exact q1.elim
theorem ped_or {rest : List Expr} (ha : PED X W a ga) (hb : PED X W (.BoolOp .Or (b :: rest) pos) gb) : PED X W (.BoolOp .Or (a :: b :: rest) pos) (dOr ga gb) := by
  obtain ⟨ta, pa, qa⟩ := ha.ex
  obtain ⟨tb, pb, qb⟩ := hb.ex
  refine ⟨_, pe_or pa pb, fun C H0 H σ st Ex Q Qv hI hX hQ hg => qa C H0 H σ st Ex _ _ hI hX (fun x st1 v H1 K1 q1 i1 s1 r1 => ?_) hg⟩
  cases x with
  | bl k =>
    refine ⟨k, r1.bl, ?_⟩
    cases k with
    | false => exact iteF (qb C H1 K1 σ st1 Ex Q Qv i1 (hX.up s1) (fun d st2 w H2 K2 q2 i2 s2 r2 => hQ d st2 w H2 K2 q2 i2 (s1.trans s2) r2) q1)
    | true => exact iteT (hQ _ st1 _ H1 K1 q1 i1 s1 rep_bl)
  | _ => exact q1.elim
theorem ped_not (ha : PED X W a ga) : PED X W (.UnaryOp .Not a pos) (dNot ga) := by
  obtain ⟨ta, pa, qa⟩ := ha.ex
  refine ⟨_, pe_not pa, fun C H0 H σ st Ex Q Qv hI hX hQ hg => qa C H0 H σ st Ex _ _ hI hX (fun x st1 v H1 K1 q1 i1 s1 r1 => ?_) hg⟩
  cases x with
  | bl k => exact ⟨k, r1.bl, hQ _ st1 _ H1 K1 q1 i1 s1 rep_bl⟩
  | _ => exact q1.elim
theorem ped_ifx {gc : DT} (hc : PTD X W c gc) (ha : PED X W a ga) (hb : PED X W b gb) : PED X W (.IfExp c a b pos) (dIf gc ga gb) := by
  obtain ⟨tc, pc, qc⟩ := hc.ex
  obtain ⟨ta, pa, qa⟩ := ha.ex
  obtain ⟨tb, pb, qb⟩ := hb.ex
  refine ⟨_, pe_ifExp pc pa pb, fun C H0 H σ st Ex Q Qv hI hX hQ hg => qc C H0 H σ st Ex _ _ hI hX (fun k st1 H1 K1 q1 i1 s1 => ?_) hg⟩
  cases k with
  | true => exact iteT (qa C H1 K1 σ st1 Ex Q Qv i1 (hX.up s1) (fun d st2 w H2 K2 q2 i2 s2 r2 => hQ d st2 w H2 K2 q2 i2 (s1.trans s2) r2) q1)
  | false => exact iteF (qb C H1 K1 σ st1 Ex Q Qv i1 (hX.up s1) (fun d st2 w H2 K2 q2 i2 s2 r2 => hQ d st2 w H2 K2 q2 i2 (s1.trans s2) r2) q1)
/-! tests -/
structure PWD (X : Cx) (W : WX) (e : Expr) (g : DT) : Prop where
  ex : ∃ t, PW X e t ∧ ∀ (C : Cfg) (H0 H : Hp) (σ : L2.St) (st : LS) (Ex : DX) (Q : Bool → LS → Prop) (Qv : Bool → Hp → Prop), I X.K X.mg C H0 H σ st → LkX X.K X.mg C H0 σ W Ex →
    (∀ d st' H0' H', Q d st' → I X.K X.mg C H0' H' σ st' → Same H0 H0' → Qv d H') → g Ex st Q → t σ H Qv
theorem PWD.pt {g : DT} (h : PWD X W e g) : PTD X W e g := by
  obtain ⟨t, p, q⟩ := h.ex
  exact ⟨_, p.pt, q⟩
theorem pwd_and1 {g : DT} (h : PTD X W a g) : PWD X W (.BoolOp .And [a] pos) g := by
  obtain ⟨t, p, q⟩ := h.ex
  exact ⟨_, pw_and1 p, q⟩
theorem pwd_or1 {g : DT} (h : PTD X W a g) : PWD X W (.BoolOp .Or [a] pos) g := by
  obtain ⟨t, p, q⟩ := h.ex
  exact ⟨_, pw_or1 p, q⟩
theorem pwd_and {ga gb : DT} {rest : List Expr} (ha : PTD X W a ga) (hb : PWD X W (.BoolOp .And (b :: rest) pos) gb) : PWD X W (.BoolOp .And (a :: b :: rest) pos) (dAndT ga gb) := by
  obtain ⟨ta, pa, qa⟩ := ha.ex
  obtain ⟨tb, pb, qb⟩ := hb.ex
  refine ⟨_, pw_and pa pb, fun C H0 H σ st Ex Q Qv hI hX hQ hg => qa C H0 H σ st Ex _ _ hI hX (fun k st1 H1 K1 q1 i1 s1 => ?_) hg⟩
  cases k with
  | true => exact iteT (qb C H1 K1 σ st1 Ex Q Qv i1 (hX.up s1) (fun d st2 H2 K2 q2 i2 s2 => hQ d st2 H2 K2 q2 i2 (s1.trans s2)) q1)
  | false => exact iteF (hQ false st1 H1 K1 q1 i1 s1)
theorem pwd_or {ga gb : DT} {rest : List Expr} (ha : PTD X W a ga) (hb : PWD X W (.BoolOp .Or (b :: rest) pos) gb) : PWD X W (.BoolOp .Or (a :: b :: rest) pos) (dOrT ga gb) := by
  obtain ⟨ta, pa, qa⟩ := ha.ex
  obtain ⟨tb, pb, qb⟩ := hb.ex
  refine ⟨_, pw_or pa pb, fun C H0 H σ st Ex Q Qv hI hX hQ hg => qa C H0 H σ st Ex _ _ hI hX (fun k st1 H1 K1 q1 i1 s1 => ?_) hg⟩
  cases k with
  | false => exact iteF (qb C H1 K1 σ st1 Ex Q Qv i1 (hX.up s1) (fun d st2 H2 K2 q2 i2 s2 => hQ d st2 H2 K2 q2 i2 (s1.trans s2)) q1)
  | true => exact iteT (hQ true st1 H1 K1 q1 i1 s1)
theorem ptd_not {g : DT} (h : PTD X W a g) : PTD X W (.UnaryOp .Not a pos) (dNotT g) := by
  obtain ⟨t, p, q⟩ := h.ex
  exact ⟨_, pt_not p, fun C H0 H σ st Ex Q Qv hI hX hQ hg => q C H0 H σ st Ex _ _ hI hX (fun k st1 H1 K1 q1 i1 s1 => hQ (!k) st1 H1 K1 q1 i1 s1) hg⟩
/-! displays -/
theorem pad_nil : PAD X W [] dANil := ⟨_, pa_nil, fun C H0 H σ st Ex Q Qv hI hX hQ hg => hQ [] st [] H0 H hg hI (Same.refl _) repL_nil rfl⟩
theorem pad_cons {ha : DA} (h1 : PED X W e g) (h2 : PAD X W es ha) (hs : starEach (e :: es) X.env = (false, eval e X.env) :: starEach es X.env := by rfl) : PAD X W (e :: es) (dACons g ha) := by
  obtain ⟨ta, pa, qa⟩ := h1.ex
  obtain ⟨tb, pb, qb⟩ := h2.ex
  refine ⟨_, pa_cons pa pb hs, fun C H0 H σ st Ex Q Qv hI hX hQ hg => qa C H0 H σ st Ex _ _ hI hX (fun x st1 v H1 K1 q1 i1 s1 r1 => ?_) hg⟩
  refine qb C H1 K1 σ st1 Ex _ _ i1 (hX.up s1) (fun ds st2 vs H2 K2 q2 i2 s2 r2 el => ?_) q1
  exact hQ _ st2 _ H2 K2 q2 i2 (s1.trans s2) (repL_cons (Rep.mono s2 x v r1) r2) (by rw [List.length_cons, List.length_cons, el])
theorem ped_tup {ha : DA} {x1} (h : PAD X W es ha) (hz : es.length ≤ sizeLine := by show _ ≤ 16777216; decide) : PED X W (.Tuple es x1 pos) (dTup ha) := by
  obtain ⟨ta, pa, qa⟩ := h.ex
  refine ⟨_, pe_tup pa, fun C H0 H σ st Ex Q Qv hI hX hQ hg => qa C H0 H σ st Ex _ _ hI hX (fun ds st1 vs H1 K1 q1 i1 s1 r1 el => ?_) hg⟩
  refine ⟨by rw [r1.length, el]; exact hz, fun p hp => ?_⟩
  have hp0 := i1.same.free hp
  exact hQ _ st1 _ (upd H1 p (.tup vs)) _ q1 (i1.new hp) (s1.trans (same_upd hp0)) (rep_nd (SqT.of upd_same) (RepL.mono (same_upd hp0) ds vs r1))
theorem I.fresh {K : PySem.W.Frag} {mg : Str → Option Value} {C : Cfg} {H0 H : Hp} {σ : L2.St} {st : LS} (i : I K mg C H0 H σ st) {p : Addr} (hp : H p = none) :
    C.B p = none ∧ ∀ (k : Nat) l' t' ds', st[k]? ≠ some (S.ow p l' t' ds') := by
  refine ⟨?_, fun k l' t' ds' q => ?_⟩
  · cases q : C.B p with
    | none => rfl
    | some o =>
      by_cases ha : p ∈ C.A
      · obtain ⟨o', h⟩ := i.aa p ha
        rw [hp] at h; cases h
      · have h := i.keep p o q ha
        rw [hp] at h; cases h
  · obtain ⟨_, _, _, _, vs, h5, _⟩ := i.ow q
    obtain ⟨o, h⟩ := h5.some
    rw [hp] at h; cases h
/-- a new own object -/
theorem I.made {K : PySem.W.Frag} {mg : Str → Option Value} {C : Cfg} {H0 H : Hp} {σ : L2.St} {st : LS} (i : I K mg C H0 H σ st) {p : Addr} {o : HO} (hp : H p = none) {t : Tg} {ds : List D} {vs : List V}
    (hn : NodeM mg (upd H p o) t p vs) (hr : RepL K mg H0 ds vs) : I K mg C H0 (upd H p o) σ st ∧ RepR K mg C H0 (upd H p o) st (.ow p true t ds) (.ref p) :=
  ⟨i.own hp, rfl, rfl, i.same.free hp, (i.fresh hp).1, (i.fresh hp).2, vs, hn, hr⟩
theorem pod_lst {ha : DA} (h : PAD X W es ha) (hz : es.length ≤ sizeLine := by show _ ≤ 16777216; decide) : POD X W (.List es pos) (dLst ha) := by
  obtain ⟨ta, pa, qa⟩ := h.ex
  refine ⟨_, pe_lst pa, fun C H0 H σ st Ex Q Qv hI hX hQ hg => qa C H0 H σ st Ex _ _ hI hX (fun ds st1 vs H1 K1 q1 i1 s1 r1 el => ?_) hg⟩
  refine ⟨by rw [r1.length, el]; exact hz, fun p hp => ?_⟩
  obtain ⟨i2, r2⟩ := i1.made (o := .lst vs) (t := .lst) hp upd_same r1
  exact hQ _ st1 _ H1 _ (q1 p) i2 s1 r2
/-! built-ins by name -/
theorem ped_callB {x : Str} {p : Pos} {id : String} {f : FL} {ha : DA} (hc : CallD X (.builtin id) f) (hg : Gl X x) (hm : X.mg x = none) (hv : bootBuiltins x = some (.builtin id)) (h : PAD X W (e :: es) ha) (hn : x ≠ "__name__" := by decide) (hdb : (x == ("__debug__" : Str)) = false := by decide)
    (he : starEach (e :: es) X.env = (false, eval e X.env) :: starEach es X.env := by rfl) (hpl : (backTo pos (starEach es X.env)).any (·.1) = false := by rfl) : PED X W (.Call (.Name x p) (e :: es) [] pos) (dCB f ha) := by
  obtain ⟨ta, pa, qa⟩ := h.ex
  obtain ⟨r, h1, h2⟩ := hc
  refine ⟨_, pe_callB h1 hg hm hv pa hn hdb he hpl, fun C H0 H σ st Ex Q Qv hI hX hQ hg => qa C H0 H σ st Ex _ _ hI hX (fun ds st1 vs H1 K1 q1 i1 s1 r1 el => ?_) hg⟩
  exact h2 H1 K1 ds vs _ _ i1.same r1 q1 fun d w q3 r3 => hQ d st1 w H1 K1 q3 i1 s1 r3
theorem ped_callTy {x : Str} {p : Pos} {T : String} {f : FL} {ha : DA} (hc : CallD X (.type T) f) (hg : Gl X x) (hm : X.mg x = none) (hv : bootBuiltins x = some (.type T)) (h : PAD X W (e :: es) ha) (hn : x ≠ "__name__" := by decide) (hdb : (x == ("__debug__" : Str)) = false := by decide)
    (he : starEach (e :: es) X.env = (false, eval e X.env) :: starEach es X.env := by rfl) (hpl : (backTo pos (starEach es X.env)).any (·.1) = false := by rfl) : PED X W (.Call (.Name x p) (e :: es) [] pos) (dCB f ha) := by
  obtain ⟨ta, pa, qa⟩ := h.ex
  obtain ⟨r, h1, h2⟩ := hc
  refine ⟨_, pe_callTy h1 hg hm hv pa hn hdb he hpl, fun C H0 H σ st Ex Q Qv hI hX hQ hg => qa C H0 H σ st Ex _ _ hI hX (fun ds st1 vs H1 K1 q1 i1 s1 r1 el => ?_) hg⟩
  exact h2 H1 K1 ds vs _ _ i1.same r1 q1 fun d w q3 r3 => hQ d st1 w H1 K1 q3 i1 s1 r3
end
end PD

namespace PD
open PySem PySem.Spec PyProof.Rows L2
/-! ### statements -/
abbrev DG := D → LS → (LS → Prop) → Prop
abbrev DGs := List D → LS → (LS → Prop) → Prop
abbrev DI := DX → LS → (List D → LS → Prop) → Prop
def dNx (de : DEnds) (st : LS) : Prop := de.nx st
def dSeq (a b : DS) (de : DEnds) (st : LS) : Prop := a { de with nx := fun st1 => b de st1 } st
def dSet (i : Nat) (g : DO) (de : DEnds) (st : LS) : Prop := g de.ex st fun r st1 => de.nx (st1.set i r)
def dPar (i j : Nat) (ga gb : DE) (de : DEnds) (st : LS) : Prop := ga de.ex st fun x st1 => gb de.ex st1 fun y st2 => de.nx ((st2.set i (.fz x)).set j (.fz y))
def dAsg (g : DE) (t : DG) (de : DEnds) (st : LS) : Prop := g de.ex st fun d st1 => t d st1 de.nx
def dRet (g : DO) (de : DEnds) (st : LS) : Prop := g de.ex st de.rt
def dRetN (de : DEnds) (st : LS) : Prop := de.rt (.fz .non) st
def dIfS (c : DT) (a b : DS) (de : DEnds) (st : LS) : Prop := c de.ex st fun k st1 => match k with
  | true => a de st1
  | false => b de st1
def dDrop (g : DO) (de : DEnds) (st : LS) : Prop := g de.ex st fun _ st1 => de.nx st1
def dBk (de : DEnds) (st : LS) : Prop := de.bk st
def dCt (de : DEnds) (st : LS) : Prop := de.ct st
def dNo (_u0 : DEnds) (_u1 : LS) : Prop := False
def gdName (i : Nat) (d : D) (st : LS) (Q : LS → Prop) : Prop := Q (st.set i (.fz d))
def gdNil (ds : List D) (st : LS) (Q : LS → Prop) : Prop := match ds with
  | [] => Q st
  | _ => False
def gdCons (g : DG) (h : DGs) (ds : List D) (st : LS) (Q : LS → Prop) : Prop := match ds with
  | d :: r => g d st fun st1 => h r st1 Q
  | _ => False
def gdTup (n : Nat) (h : DGs) (d : D) (st : LS) (Q : LS → Prop) : Prop := match d with
  | .nd .tup ds => ds.length = n ∧ h ds st Q
  | _ => False
def dForL (t : DG) (b : DS) : List D → DS
  | [], de, st => de.nx st
  | d :: r, de, st => t d st fun st1 => b { de with nx := fun s => dForL t b r de s, ct := fun s => dForL t b r de s, bk := de.nx } st1
def dFor (i : DI) (t : DG) (b : DS) (de : DEnds) (st : LS) : Prop := i de.ex st fun ds st1 => dForL t b ds de st1
def dWhN (c : DT) (b : DS) : Nat → DS
  | 0, _, _ => False
  | n + 1, de, st => c de.ex st fun k st1 => match k with
    | true => b { de with nx := fun s => dWhN c b n de s, ct := fun s => dWhN c b n de s, bk := de.nx } st1
    | false => de.nx st1
def dWh (c : DT) (b : DS) (de : DEnds) (st : LS) : Prop := ∃ n, dWhN c b n de st
def dItems (g : DE) (Ex : DX) (st : LS) (Q : List D → LS → Prop) : Prop := g Ex st fun d st1 => match d with
  | .nd .lst ds => Q ds st1
  | .nd .tup ds => Q ds st1
  | _ => False
def iota (lo : Int) (n : Nat) : List D := (List.range n).map fun (k : Nat) => D.int (lo + ((k : Nat) : Int))
def dRng1 (g : DA) (Ex : DX) (st : LS) (Q : List D → LS → Prop) : Prop := g Ex st fun ds st1 => match ds with
  | [.int j] => -(2 ^ 62) ≤ j ∧ j < 2 ^ 62 ∧ Q (iota 0 j.toNat) st1
  | _ => False
def dRng2 (g : DA) (Ex : DX) (st : LS) (Q : List D → LS → Prop) : Prop := g Ex st fun ds st1 => match ds with
  | [.int i, .int j] => (-(2 ^ 62) ≤ i ∧ i < 2 ^ 62 ∧ -(2 ^ 62) ≤ j ∧ j < 2 ^ 62) ∧ Q (iota i (j - i).toNat) st1
  | _ => False

structure PGD (X : Cx) (e : Expr) (g : DG) : Prop where
  ex : ∃ t, PG X e t ∧ ∀ (C : Cfg) (H0 H : Hp) (σ : L2.St) (st : LS) (d : D) (v : V) (Q : LS → Prop) (Qv : L2.St → Hp → Prop), I X.K X.mg C H0 H σ st → Rep X.K X.mg H0 d v →
    (∀ st' σ' H0' H', Q st' → I X.K X.mg C H0' H' σ' st' → Same H0 H0' → Qv σ' H') → g d st Q → t v σ H Qv
structure PGsD (X : Cx) (es : List Expr) (g : DGs) : Prop where
  ex : ∃ t, PGs X es t ∧ ∀ (C : Cfg) (H0 H : Hp) (σ : L2.St) (st : LS) (ds : List D) (vs : List V) (Q : LS → Prop) (Qv : L2.St → Hp → Prop), I X.K X.mg C H0 H σ st → RepL X.K X.mg H0 ds vs →
    (∀ st' σ' H0' H', Q st' → I X.K X.mg C H0' H' σ' st' → Same H0 H0' → Qv σ' H') → g ds st Q → t vs σ H Qv
/-- J goes over the values ds -/
structure ItOk (K : PySem.W.Frag) (mg : Str → Option Value) (J : It) (H0 : Hp) (ds : List D) : Prop where
  go : ∀ i H, Same H0 H → i < ds.length → J.go i H
  stop : ∀ H, Same H0 H → J.stop ds.length H
  yld : ∀ (C : Cfg) i H1 H x H' σ st, Same H0 H1 → i < ds.length → I K mg C H1 H σ st → J.yld i H x H' → ∃ H2 d, ds[i]? = some d ∧ Same H1 H2 ∧ I K mg C H2 H' σ st ∧ Rep K mg H2 d x
structure PID (X : Cx) (W : WX) (tg e : Expr) (g : DI) : Prop where
  ex : ∃ wi, PI X tg e wi ∧ ∀ (C : Cfg) (H0 H : Hp) (σ : L2.St) (st : LS) (Ex : DX) (Q : List D → LS → Prop) (R : It → Hp → Prop), I X.K X.mg C H0 H σ st → LkX X.K X.mg C H0 σ W Ex →
    (∀ ds st' J H0' H', Q ds st' → I X.K X.mg C H0' H' σ st' → Same H0 H0' → ItOk X.K X.mg J H0' ds → R J H') → g Ex st Q → wi σ H R

section
variable {X : Cx} {W : WX} {e a b c : Expr} {es : List Expr} {s : Stmt} {ss sa sb : List Stmt} {pos : Pos} {g : DE} {o : DO}
theorem PSsD.imp {g g' : DS} (h : PSsD X W ss g) (k : ∀ de st, g' de st → g de st) : PSsD X W ss g' := by
  obtain ⟨t, p, q⟩ := h.ex
  exact ⟨t, p, fun C H0 H σ st de Dn hI hL hg => q C H0 H σ st de Dn hI hL (k de st hg)⟩
theorem pssd_nil : PSsD X W [] dNx := ⟨_, pss_nil, fun C H0 H σ st de Dn hI hL hg => hL.nx st σ H0 H hg hI (Same.refl _)⟩
theorem pssd_cons {ga gb : DS} (h1 : PSD X W s ga) (h2 : PSsD X W ss gb) : PSsD X W (s :: ss) (dSeq ga gb) := by
  obtain ⟨ta, pa, qa⟩ := h1.ex
  obtain ⟨tb, pb, qb⟩ := h2.ex
  refine ⟨_, pss_cons pa pb, fun C H0 H σ st de Dn hI hL hg => qa C H0 H σ st { de with nx := fun st1 => gb de st1 } _ hI ⟨fun st' σ' H1 K1 q i1 s1 => ?_, hL.bk, hL.ct, hL.rt, hL.ex⟩ hg⟩
  exact qb C H1 K1 σ' st' de Dn i1 (hL.up s1) q
theorem pssd_one {ga : DS} (h1 : PSD X W s ga) : PSsD X W [s] ga := by
  obtain ⟨ta, pa, qa⟩ := h1.ex
  exact ⟨_, pss_one pa, qa⟩
theorem psd_set {i : Nat} {x : Str} {pos' : Pos} (hN : X.N.Nodup) (hi : X.N[i]? = some x) (hx : Loc X.env.scope x) (h : POD X W e o) (hs : swapsWith e (some (.Name x pos')) pos.line X.env = pure false := by rfl)
    (hf : X.fn x = true ∨ X.env.scope.names.lookup x = some .local := by first | exact .inl rfl | exact .inr rfl | assumption) : PSD X W (.Assign [.Name x pos'] e pos) (dSet i o) := by
  obtain ⟨t, p, q⟩ := h.ex
  refine ⟨_, ps_set (i := i) hN hi hx p hs hf, fun C H0 H σ st de Dn hI hL hg => ?_⟩
  refine q C H0 H σ st de.ex _ _ hI (hL.xp σ) (fun r st1 v H1 K1 q1 i1 s1 r1 => ?_) hg
  exact hL.nx _ _ H1 K1 q1 (i1.set r1) s1
theorem psd_ret (h : POD X W e o) : PSD X W (.Return (some e) pos) (dRet o) := by
  obtain ⟨t, p, q⟩ := h.ex
  exact ⟨_, ps_ret p, fun C H0 H σ st de Dn hI hL hg => q C H0 H σ st de.ex _ _ hI (hL.xp σ) (fun r st1 v H1 K1 q1 i1 s1 r1 => hL.rt r st1 v σ H1 K1 q1 i1 s1 r1) hg⟩
theorem psd_retN : PSD X W (.Return none pos) dRetN := ⟨_, ps_retN, fun C H0 H σ st de Dn hI hL hg => hL.rt _ st _ σ H0 H hg hI (Same.refl _) (show Rep X.K X.mg H0 .non .non from rep_non)⟩
theorem psd_if {gc : DT} {ga gb : DS} (hc : PTD X W c gc) (ha : PSsD X W sa ga) (hb : PSsD X W sb gb) : PSD X W (.If c sa sb pos) (dIfS gc ga gb) := by
  obtain ⟨tc, pc, qc⟩ := hc.ex
  obtain ⟨ta, pa, qa⟩ := ha.ex
  obtain ⟨tb, pb, qb⟩ := hb.ex
  refine ⟨_, ps_if pc pa pb, fun C H0 H σ st de Dn hI hL hg => qc C H0 H σ st de.ex _ _ hI (hL.xp σ) (fun k st1 H1 K1 q1 i1 s1 => ?_) hg⟩
  cases k with
  | true => exact iteT (qa C H1 K1 σ st1 de Dn i1 (hL.up s1) q1)
  | false => exact iteF (qb C H1 K1 σ st1 de Dn i1 (hL.up s1) q1)
theorem psd_expr (h : POD X W e o) (hs : swapsWith e none pos.line X.env = pure false := by rfl) : PSD X W (.Expr e pos) (dDrop o) := by
  obtain ⟨t, p, q⟩ := h.ex
  exact ⟨_, ps_expr p hs, fun C H0 H σ st de Dn hI hL hg => q C H0 H σ st de.ex _ _ hI (hL.xp σ) (fun r st1 v H1 K1 q1 i1 s1 r1 => hL.nx st1 σ H1 K1 q1 i1 s1) hg⟩
theorem psd_pass : PSD X W (.Pass pos) dNx := ⟨_, ps_pass, fun C H0 H σ st de Dn hI hL hg => hL.nx st σ H0 H hg hI (Same.refl _)⟩
theorem psd_break : PSD X W (.Break pos) dBk := ⟨_, ps_break, fun C H0 H σ st de Dn hI hL hg => hL.bk st σ H0 H hg hI (Same.refl _)⟩
theorem psd_continue : PSD X W (.Continue pos) dCt := ⟨_, ps_continue, fun C H0 H σ st de Dn hI hL hg => hL.ct st σ H0 H hg hI (Same.refl _)⟩
theorem psd_never : PSD X W s dNo := ⟨_, ps_never, fun C H0 H σ st de Dn hI hL hg => hg⟩
theorem psd_par {i j : Nat} {x y : Str} {px py pt : Pos} {kt k2 pt2} {ga gb : DE} (hc : X.calm = true) (hN : X.N.Nodup) (hi : X.N[i]? = some x) (hj : X.N[j]? = some y) (hij : i ≠ j)
    (hx : X.env.scope.names.lookup x = some .local) (hy : X.env.scope.names.lookup y = some .local) (ha : PED X W a ga) (hb : PED X W b gb)
    (hp : ∀ {ta tb : TE}, PE X a ta → PE X b tb → PS X (.Assign [.Tuple [.Name x px, .Name y py] kt pt] (.Tuple [a, b] k2 pt2) pos) (tPar i j (tCons ta (tCons tb tNil)))) :
    PSD X W (.Assign [.Tuple [.Name x px, .Name y py] kt pt] (.Tuple [a, b] k2 pt2) pos) (dPar i j ga gb) := by
  obtain ⟨ta, pa, qa⟩ := ha.ex
  obtain ⟨tb, pb, qb⟩ := hb.ex
  refine ⟨_, hp pa pb, fun C H0 H σ st de Dn hI hL hg => qa C H0 H σ st de.ex _ _ hI (hL.xp σ) (fun x st1 v H1 K1 q1 i1 s1 r1 => ?_) hg⟩
  refine qb C H1 K1 σ st1 de.ex _ _ i1 ((hL.xp σ).up s1) (fun y st2 u H2 K2 q2 i2 s2 r2 => ?_) q1
  refine ⟨v, u, rfl, ?_⟩
  have k1 := i2.set (k := i) (r := .fz x) (v := v) (Rep.mono s2 x v r1)
  exact hL.nx _ _ H2 K2 q2 (k1.set (k := j) (r := .fz y) (v := u) r2) (s1.trans s2)
/-! targets -/
theorem pgd_name {i : Nat} {x : Str} (hN : X.N.Nodup) (hi : X.N[i]? = some x) (hx : Loc X.env.scope x) (hf : X.fn x = true ∨ X.env.scope.names.lookup x = some .local := by first | exact .inl rfl | exact .inr rfl | assumption) : PGD X (.Name x pos) (gdName i) :=
  ⟨_, pg_name hN hi hx hf, fun C H0 H σ st d v Q Qv hI hr hQ hg => hQ _ _ H0 H hg (hI.set (r := .fz d) hr) (Same.refl _)⟩
theorem pgsd_nil : PGsD X [] gdNil := by
  refine ⟨_, pgs_nil, fun C H0 H σ st ds vs Q Qv hI hr hQ hg => ?_⟩
  cases ds with
  | nil => exact ⟨hr.nil, hQ st σ H0 H hg hI (Same.refl _)⟩
  | cons d r => exact hg.elim
theorem pgsd_cons {ga : DG} {gb : DGs} (h1 : PGD X e ga) (h2 : PGsD X es gb) (hs : (assignEach (e :: es) X.env).map (·.2) = assign e X.env :: (assignEach es X.env).map (·.2) := by rfl) : PGsD X (e :: es) (gdCons ga gb) := by
  obtain ⟨ta, pa, qa⟩ := h1.ex
  obtain ⟨tb, pb, qb⟩ := h2.ex
  refine ⟨_, pgs_cons pa pb hs, fun C H0 H σ st ds vs Q Qv hI hr hQ hg => ?_⟩
  cases ds with
  | nil => exact hg.elim
  | cons d r =>
    obtain ⟨v, w, rfl, h3, h4⟩ := hr.cons
    exact ⟨v, w, rfl, qa C H0 H σ st d v _ _ hI h3 (fun st' σ' H1 K1 q1 i1 s1 => qb C H1 K1 σ' st' r w Q Qv i1 (RepL.mono s1 r w h4) (fun st2 σ2 H2 K2 q2 i2 s2 => hQ st2 σ2 H2 K2 q2 i2 (s1.trans s2)) q1) hg⟩
theorem pgd_tup {k : Nat} {n : Nat} {h : DGs} (hc : X.calm = true) (h1 : PGsD X es h) (hn : (assignEach es X.env).length = n := by rfl) (hst : (assignEach es X.env).findIdx? (·.1) = none := by rfl) : PGD X (.Tuple es k pos) (gdTup n h) := by
  obtain ⟨ta, pa, qa⟩ := h1.ex
  refine ⟨_, pg_tup hc pa hn hst, fun C H0 H σ st d v Q Qv hI hr hQ hg => ?_⟩
  unfold gdTup at hg
  split at hg
  · obtain ⟨a, vs, rfl, h2, h3⟩ := hr.nd
    exact ⟨a, vs, rfl, SqT.mono hI.same h2, by rw [h3.length]; exact hg.1, qa C H0 H σ st _ vs Q Qv hI h3 hQ hg.2⟩
  · exact hg.elim
theorem psd_asg {tg : Expr} {t : DG} (he : PED X W e g) (hg : PGD X tg t) (hs : swapsWithSole [tg] e pos.line X.env = pure false := by rfl) (hw : swappedStores [tg] e X.env = pure none := by rfl)
    (h1 : (assignEach [tg] X.env).map (·.2) = [assign tg X.env] := by rfl) : PSD X W (.Assign [tg] e pos) (dAsg g t) := by
  obtain ⟨ta, pa, qa⟩ := he.ex
  obtain ⟨tb, pb, qb⟩ := hg.ex
  refine ⟨_, ps_asg pa pb hs hw h1, fun C H0 H σ st de Dn hI hL hg => qa C H0 H σ st de.ex _ _ hI (hL.xp σ) (fun d st1 v H1 K1 q1 i1 s1 r1 => ?_) hg⟩
  exact qb C H1 K1 σ st1 d v de.nx _ i1 r1 (fun st2 σ2 H2 K2 q2 i2 s2 => hL.nx st2 σ2 H2 K2 q2 i2 (s1.trans s2)) q1
/-! loops -/
theorem ItOk.up {K : PySem.W.Frag} {mg : Str → Option Value} {J : It} {H0 H1 : Hp} {ds : List D} (h : ItOk K mg J H0 ds) (s : Same H0 H1) : ItOk K mg J H1 ds :=
  ⟨fun i H q => h.go i H (s.trans q), fun H q => h.stop H (s.trans q), fun C i H2 H x H' σ st q => h.yld C i H2 H x H' σ st (s.trans q)⟩
theorem psd_for {tg iter : Expr} {body : List Stmt} {gi : DI} {t : DG} {gb : DS} (hp : PassesOwn (model X.prog X.w) X.A X.env X.xe) (hc : X.calm = true) (hi : PID X W tg iter gi) (hg : PGD X tg t) (hb : PSsD X W body gb)
    (hs : ∀ x, foldedSetIterable iter X.env x = pure x := by intro _; rfl) : PSD X W (.For tg iter body [] pos) (dFor gi t gb) := by
  obtain ⟨wi, pi, qi⟩ := hi.ex
  obtain ⟨tt, pt, qt⟩ := hg.ex
  obtain ⟨tb, pb, qb⟩ := hb.ex
  refine ⟨_, ps_for hp hc pi pt pb hs, fun C H0 H σ st de Dn hI hL hg => qi C H0 H σ st de.ex _ _ hI (hL.xp σ) (fun ds st1 J H1 K1 q1 i1 s1 j1 => ?_) hg⟩
  refine ⟨fun i m σ' H' => m = ds.length - i ∧ i ≤ ds.length ∧ ∃ H2 st2, I X.K X.mg C H2 H' σ' st2 ∧ Same H1 H2 ∧ dForL t gb (ds.drop i) de st2, ⟨ds.length, by simp, Nat.zero_le _, H1, st1, i1, Same.refl _, by simpa using q1⟩, ?_⟩
  rintro i m σ' H' ⟨rfl, hle, H2, st2, i2, s2, q2⟩
  by_cases hlt : i < ds.length
  · refine .inr ⟨j1.go i H' (s2.trans i2.same) hlt, fun σ3 H3 => ∃ H4 st4, I X.K X.mg C H4 H3 σ3 st4 ∧ Same H1 H4 ∧ dForL t gb (ds.drop (i + 1)) de st4, fun σ3 H3 ⟨H4, st4, i4, s4, q4⟩ => ⟨ds.length - (i + 1), by omega, rfl, hlt, H4, st4, i4, s4, q4⟩, fun x H3 y => ?_⟩
    obtain ⟨H4, d, hd, s4, i4, r4⟩ := j1.yld C i H2 H' x H3 σ' st2 s2 hlt i2 y
    have ed : ds.drop i = d :: ds.drop (i + 1) := by
      obtain ⟨hk, e⟩ := List.getElem?_eq_some_iff.mp hd
      rw [List.drop_eq_getElem_cons hk, e]
    rw [ed] at q2
    refine qt C H4 H3 σ' st2 d x _ _ i4 r4 (fun st5 σ5 H5 K5 q5 i5 s5 => ?_) q2
    have again : ∀ st6 σ6 H6 K6, dForL t gb (ds.drop (i + 1)) de st6 → I X.K X.mg C H6 K6 σ6 st6 → Same H5 H6 → ∃ H4 st4, I X.K X.mg C H4 K6 σ6 st4 ∧ Same H1 H4 ∧ dForL t gb (ds.drop (i + 1)) de st4 :=
      fun st6 σ6 H6 K6 q6 i6 s6 => ⟨H6, st6, i6, s2.trans (s4.trans (s5.trans s6)), q6⟩
    have up : Same H0 H5 := s1.trans (s2.trans (s4.trans s5))
    refine qb C H5 K5 σ5 st5 { de with nx := fun s => dForL t gb (ds.drop (i + 1)) de s, ct := fun s => dForL t gb (ds.drop (i + 1)) de s, bk := de.nx } _ i5 ⟨again, fun st6 σ6 H6 K6 q6 i6 s6 => hL.nx st6 σ6 H6 K6 q6 i6 (up.trans s6), again, fun r st6 v σ6 H6 K6 q6 i6 s6 => hL.rt r st6 v σ6 H6 K6 q6 i6 (up.trans s6), fun er st6 σ6 H6 K6 cls dd q6 i6 s6 => hL.ex er st6 σ6 H6 K6 cls dd q6 i6 (up.trans s6)⟩ q5
  · have e : i = ds.length := by omega
    subst e
    rw [List.drop_length] at q2
    exact .inl ⟨j1.stop H' (s2.trans i2.same), hL.nx st2 σ' H2 H' q2 i2 (s1.trans s2)⟩
theorem psd_while {body : List Stmt} {gc : DT} {gb : DS} (hp : PassesOwn (model X.prog X.w) X.A X.env X.xe) (hc : PTD X W c gc) (hb : PSsD X W body gb) : PSD X W (.While c body [] pos) (dWh gc gb) := by
  obtain ⟨tc, pc, qc⟩ := hc.ex
  obtain ⟨tb, pb, qb⟩ := hb.ex
  refine ⟨_, ps_while hp pc pb, fun C H0 H σ st de Dn hI hL hg => ?_⟩
  obtain ⟨n, hn⟩ := hg
  refine ⟨fun m σ' H' => ∃ H2 st2, I X.K X.mg C H2 H' σ' st2 ∧ Same H0 H2 ∧ dWhN gc gb m de st2, ⟨n, H0, st, hI, Same.refl _, hn⟩, ?_⟩
  rintro m σ' H' ⟨H2, st2, i2, s2, q2⟩
  cases m with
  | zero => exact q2.elim
  | succ m =>
    refine qc C H2 H' σ' st2 de.ex _ _ i2 ((hL.xp σ').up s2) (fun k st3 H3 K3 q3 i3 s3 => ?_) q2
    cases k with
    | false => exact iteF (hL.nx st3 σ' H3 K3 q3 i3 (s2.trans s3))
    | true =>
      refine iteT ⟨fun σ4 H4 => ∃ H5 st5, I X.K X.mg C H5 H4 σ4 st5 ∧ Same H0 H5 ∧ dWhN gc gb m de st5, fun σ4 H4 h => ⟨m, Nat.lt_succ_self _, h⟩, ?_⟩
      have up : Same H0 H3 := s2.trans s3
      have again : ∀ st6 σ6 H6 K6, dWhN gc gb m de st6 → I X.K X.mg C H6 K6 σ6 st6 → Same H3 H6 → ∃ H5 st5, I X.K X.mg C H5 K6 σ6 st5 ∧ Same H0 H5 ∧ dWhN gc gb m de st5 := fun st6 σ6 H6 K6 q6 i6 s6 => ⟨H6, st6, i6, up.trans s6, q6⟩
      exact qb C H3 K3 σ' st3 { de with nx := fun s => dWhN gc gb m de s, ct := fun s => dWhN gc gb m de s, bk := de.nx } _ i3 ⟨again, fun st6 σ6 H6 K6 q6 i6 s6 => hL.nx st6 σ6 H6 K6 q6 i6 (up.trans s6), again, fun r st6 v σ6 H6 K6 q6 i6 s6 => hL.rt r st6 v σ6 H6 K6 q6 i6 (up.trans s6), fun er st6 σ6 H6 K6 cls dd q6 i6 s6 => hL.ex er st6 σ6 H6 K6 cls dd q6 i6 (up.trans s6)⟩ q3
/-! what is gone over -/
theorem iota_get {lo : Int} {n i : Nat} (h : i < n) : (iota lo n)[i]? = some (D.int (lo + (i : Int))) := by
  unfold iota
  rw [List.getElem?_map, List.getElem?_range h]
  rfl
theorem iota_len (lo : Int) (n : Nat) : (iota lo n).length = n := by unfold iota; simp
theorem it_rng {K : PySem.W.Frag} {mg : Str → Option Value} (lo : Int) (n : Nat) (H0 : Hp) : ItOk K mg (Itr lo n) H0 (iota lo n) := by
  refine ⟨fun i H _ h => by rw [iota_len] at h; exact h, fun H _ => by rw [iota_len]; exact Nat.le_refl n, fun C i H1 H x H' σ st s h hI y => ?_⟩
  rw [iota_len] at h
  obtain ⟨rfl, rfl⟩ := y
  exact ⟨H1, _, iota_get h, Same.refl _, hI, rep_int⟩
theorem pid_rng1 {tg : Expr} {p : Pos} {ha : DA} (hg : Gl X "range") (hm : X.mg "range" = none) (h : PAD X W [a] ha) (hs : starEach [a] X.env = [(false, eval a X.env)] := by rfl) : PID X W tg (.Call (.Name "range" p) [a] [] pos) (dRng1 ha) := by
  obtain ⟨ta, pa, qa⟩ := h.ex
  refine ⟨_, pi_range1 hg hm pa hs, fun C H0 H σ st Ex Q R hI hX hQ hg => qa C H0 H σ st Ex _ _ hI hX (fun ds st1 vs H1 K1 q1 i1 s1 r1 el => ?_) hg⟩
  split at q1
  · rename_i j
    obtain ⟨v, w, rfl, h3, h4⟩ := r1.cons
    cases h4.nil
    cases h3.int
    exact ⟨j, rfl, q1.1, q1.2.1, hQ _ st1 _ H1 K1 q1.2.2 i1 s1 (it_rng _ _ _)⟩
  · exact q1.elim
theorem pid_rng2 {tg : Expr} {p : Pos} {ha : DA} (hg : Gl X "range") (hm : X.mg "range" = none) (h : PAD X W [a, b] ha) (hs : starEach [a, b] X.env = [(false, eval a X.env), (false, eval b X.env)] := by rfl) (hs2 : starEach [b] X.env = [(false, eval b X.env)] := by rfl) : PID X W tg (.Call (.Name "range" p) [a, b] [] pos) (dRng2 ha) := by
  obtain ⟨ta, pa, qa⟩ := h.ex
  refine ⟨_, pi_range2 hg hm pa hs hs2, fun C H0 H σ st Ex Q R hI hX hQ hg => qa C H0 H σ st Ex _ _ hI hX (fun ds st1 vs H1 K1 q1 i1 s1 r1 el => ?_) hg⟩
  split at q1
  · rename_i i j
    obtain ⟨v, w, rfl, h3, h4⟩ := r1.cons
    obtain ⟨v2, w2, rfl, h5, h6⟩ := h4.cons
    cases h6.nil
    cases h3.int
    cases h5.int
    exact ⟨i, j, rfl, q1.1, hQ _ st1 _ H1 K1 q1.2 i1 s1 (it_rng _ _ _)⟩
  · exact q1.elim
theorem it_lst {K : PySem.W.Frag} {mg : Str → Option Value} {a : Addr} {xs : List V} {H0 : Hp} {ds : List D} (h : SqL K H0 a xs) (r : RepL K mg H0 ds xs) : ItOk K mg (Itl K a) H0 ds := by
  have el := r.length
  refine ⟨fun i H s h' => ?_, fun H s => ⟨xs, s.seq h, by omega⟩, fun C i H1 H x H' σ st s h' hI y => ?_⟩
  · have h2 : i < xs.length := by omega
    exact ⟨xs, xs[i], s.seq h, by simp [h2]⟩
  · obtain ⟨rfl, y⟩ := y
    have e := y xs ((s.trans hI.same).seq h)
    obtain ⟨d, h1, h2⟩ := r.getV e
    exact ⟨H1, d, h1, Same.refl _, hI, Rep.mono s d x h2⟩
theorem it_tup {K : PySem.W.Frag} {mg : Str → Option Value} {a : Addr} {xs : List V} {H0 : Hp} {ds : List D} (h : SqT K H0 a xs) (r : RepL K mg H0 ds xs) : ItOk K mg (Itt K a) H0 ds := by
  have el := r.length
  refine ⟨fun i H s h' => ?_, fun H s => ⟨xs, SqT.mono s h, by omega⟩, fun C i H1 H x H' σ st s h' hI y => ?_⟩
  · have h2 : i < xs.length := by omega
    exact ⟨xs, xs[i], SqT.mono s h, by simp [h2]⟩
  · obtain ⟨rfl, y⟩ := y
    have e := y xs (SqT.mono (s.trans hI.same) h)
    obtain ⟨d, h1, h2⟩ := r.getV e
    exact ⟨H1, d, h1, Same.refl _, hI, Rep.mono s d x h2⟩
def dItemsL (g : DE) (Ex : DX) (st : LS) (Q : List D → LS → Prop) : Prop := g Ex st fun d st1 => match d with
  | .nd .lst ds => Q ds st1
  | _ => False
def dItemsT (g : DE) (Ex : DX) (st : LS) (Q : List D → LS → Prop) : Prop := g Ex st fun d st1 => match d with
  | .nd .tup ds => Q ds st1
  | _ => False
theorem pid_lst {tg : Expr} (h : PED X W e g) : PID X W tg e (dItemsL g) := by
  obtain ⟨ta, pa, qa⟩ := h.ex
  refine ⟨_, pi_list pa, fun C H0 H σ st Ex Q R hI hX hQ hg => qa C H0 H σ st Ex _ _ hI hX (fun d st1 v H1 K1 q1 i1 s1 r1 => ?_) hg⟩
  split at q1
  · obtain ⟨a, vs, rfl, h2, h3⟩ := r1.nd
    exact ⟨a, rfl, ⟨vs, i1.same.seq (SqL.of h2)⟩, hQ _ st1 _ H1 K1 q1 i1 s1 (it_lst (SqL.of h2) h3)⟩
  · exact q1.elim
theorem pid_tup {tg : Expr} (h : PED X W e g) : PID X W tg e (dItemsT g) := by
  obtain ⟨ta, pa, qa⟩ := h.ex
  refine ⟨_, pi_tup pa, fun C H0 H σ st Ex Q R hI hX hQ hg => qa C H0 H σ st Ex _ _ hI hX (fun d st1 v H1 K1 q1 i1 s1 r1 => ?_) hg⟩
  split at q1
  · obtain ⟨a, vs, rfl, h2, h3⟩ := r1.nd
    exact ⟨a, rfl, ⟨vs, SqT.mono i1.same h2⟩, hQ _ st1 _ H1 K1 q1 i1 s1 (it_tup h2 h3)⟩
  · exact q1.elim
end
end PD

/-! a def's promise where no guard of repr is under way: as FnOk, with what the caller knows of the guards beside. -/
namespace PD
open PySem PySem.Spec PyProof.Rows L2
structure RoomG (k : Nat) (A : Around) : Prop where
  r : Room k A
  gd : A.guards = some []
theorem RoomG.mono {j k : Nat} {A : Around} (h : RoomG k A) (l : j ≤ k) : RoomG j A := ⟨h.r.mono l, h.gd⟩
theorem RoomG.deeper {k : Nat} {A : Around} (h : RoomG (k + 1) A) (env : Env) : RoomG k (A.deeper env) := ⟨h.r.deeper env, h.gd⟩
structure FnG (P : Program) (w : World) (K : PySem.W.Frag) (mg : Str → Option Value) (base : Heap) (k : Nat) (f : Addr) (fd : FuncData) (ps : List Str) (sp : Sp) : Prop where
  len : ∀ vs H Q E, sp vs H Q E → vs.length = ps.length
  run : ∀ (A : Around) (outer : List Env) (s : Shared) (H : Hp) (args : Args) (us : List Value) (vs : List V) (Q : VK) (E : XK), RoomG k A → Env0 P w K mg base A outer s H → BindsTo s fd args (ps.zip us) → Vals vs us → sp vs H Q E →
    codeAny (model P w) A (.call (.ref f) args) (CR (L2.CX P w) outer P w H s Q E) s
section
variable {P : Program} {w : World} {K : PySem.W.Frag} {mg : Str → Option Value} {base : Heap} {k : Nat} {f : Addr}
theorem FnG.imp {fd : FuncData} {ps : List Str} {sp sp' : Sp} (F : FnG P w K mg base k f fd ps sp) (h : ∀ vs H Q E, sp' vs H Q E → sp vs H Q E) : FnG P w K mg base k f fd ps sp' :=
  ⟨fun vs H Q E q => F.len vs H Q E (h _ _ _ _ q), fun A outer s H args us vs Q E hr he hb hv hs => F.run A outer s H args us vs Q E hr he hb hv (h _ _ _ _ hs)⟩
/-- a def as it stands behind the top, whatever its defaults -/
structure FunV (K : PySem.W.Frag) (x qual : Str) (st : Stmt) (f : Addr) (fd : FuncData) : Prop where
  ex : ∃ (oc : Value) (od : Option Addr) (dV kV doc pm : Value) (an : Option Addr) (cdv ct : Value) (osl : Array (Option Value)),
    fd = PySem.W.fnOf x qual (defArgs st) (defBody st) (defScope st) dV kV doc pm an cdv ct ∧ K.lookup f = some ⟨oc, od, .func fd, osl⟩ ∧ PySem.W.codeIn K cdv qual = true
  kp : PySem.W.keepIn K (.ref f) = true
theorem funv_mk {x qual : Str} {st : Stmt} {f : Addr} {oc : Value} {od an : Option Addr} {osl : Array (Option Value)} {dV kV doc pm cdv ct : Value}
    (l : K.lookup f = some ⟨oc, od, .func (PySem.W.fnOf x qual (defArgs st) (defBody st) (defScope st) dV kV doc pm an cdv ct), osl⟩) (c : PySem.W.codeIn K cdv qual = true) (k : PySem.W.keepIn K (.ref f) = true) :
    FunV K x qual st f (PySem.W.fnOf x qual (defArgs st) (defBody st) (defScope st) dV kV doc pm an cdv ct) := ⟨⟨oc, od, dV, kV, doc, pm, an, cdv, ct, osl, rfl, l, c⟩, k⟩
/-- a def by its body -/
theorem Fun.okG {x qual : Str} {st : Stmt} {fd : FuncData} {N ps : List Str} {sp : Sp} (F : FunV K x qual st f fd) (S : FnScope N ps (defScope st)) (len : ∀ vs H Q E, sp vs H Q E → vs.length = ps.length)
    (hbody : ∀ (cdv : Value) (A : Around) (outer : List Env) (s : Shared) (H : Hp) (vs : List V) (Q : VK) (E : XK), RoomG k (A.deeper (envOfC qual (defScope st) s.heap.objs.size f cdv)) → sp vs H Q E →
      ∃ t, PSs (cxOf (L2.CX P w) P w K mg base N qual (defScope st) f cdv A outer s H E) (defBody st) t ∧ t { nx := fun _ H' => Q .non H', rt := Q } (start N vs) H) : FnG P w K mg base (k + 1) f fd ps sp := by
  obtain ⟨oc, od, dV, kV, doc, pm, an, cdv, ct, osl, rfl, lk, hcd⟩ := F.ex
  refine ⟨len, fun A outer s H args us vs Q E hr e0 hb r hsp => ?_⟩
  have hold : ∀ b o, base.get? b = some o → s.heap.get? b = some o := fun b o e => (e0.bs b o e).1
  have hkind : ∀ y ∈ ps.zip us, (defScope st).names.lookup y.1 = some .local ∨ ((defScope st).names.lookup y.1 = some .cell ∧ ((cellsFrom (s.heap.objs.size + 1) (defScope st).names []).lookup y.1).isSome = true) := by
    rintro ⟨n, v⟩ hy
    exact (S.par n (List.of_mem_zip hy).1).imp id fun q => ⟨q, PySem.W.cellsFrom_some _ _ _ (.inl q)⟩
  refine codeAny_call_function hr.r.depth (e0.mod.kin.keeps hold _ _ lk) rfl S.co S.gen rfl (PySem.W.codeRec_of (e0.mod.kin.keeps hold) hcd) (hb _ _ _ _ (wpAny_newFunctionEnv_cells S.kind hkind fun env he s1 x => ?_))
  subst he
  refine ⟨(e0.mod.nolimit.keeps hold).keeps x.toInCall.keep, codeAny_func ?_⟩
  obtain ⟨t, ht, hq⟩ := hbody cdv A outer s H vs Q E (hr.deeper _) hsp
  refine wpAny_mono (ht.run [] s1 (start N vs) H _ (inv_start S hr.r.hd e0 (len _ _ _ _ hsp) r x) hq) (fun fl s' hs => ?_) fun e s' hs => hs
  cases fl with
  | ret u => obtain ⟨v, σ', H', J, rv, q⟩ := hs; exact ⟨v, H', J.os, J.bare, J.base, J.hok, rv, q⟩
  | next => obtain ⟨σ', H', J, q⟩ := hs; exact ⟨V.non, H', J.os, J.bare, J.base, J.hok, rfl, q⟩
  | brk => obtain ⟨_, _, _, q⟩ := hs; exact q.elim
  | cont => obtain ⟨_, _, _, q⟩ := hs; exact q.elim
end
section
variable {X : Cx} {k : Nat} {f C : Addr} {fd : FuncData} {ps : List Str} {sp : Sp} {E : L2.St → XK} {x : Str} {p pos : Pos} {e : Expr} {es : List Expr} {t : TA}
theorem run_G {pins : List (Addr × Obj)} {σ : L2.St} {H : Hp} {s : Shared} {Q : VK} {us : List Value} {vs : List V} (F : FnG X.prog X.w X.K X.mg X.base k f fd ps sp) (hr : RoomG k X.A) (hb : Binds X.K fd ps []) (hx : PassesAt (L2.CX X.prog X.w) X σ (E σ))
    (I : Inv X pins σ H s) (r : Vals vs us) (h : sp vs H Q (E σ)) : wpAny (model X.prog X.w) X.A (call (.ref f) us) (EP X pins σ Q) X.xe s := by
  have b := hb s us I.kIn (by rw [List.append_nil, ← r.length]; exact F.len _ _ _ _ h)
  rw [List.append_nil] at b
  refine wpAny_call (codeAny_mono (F.run X.A X.stack s H ⟨us, []⟩ us vs Q (E σ) hr I.env0 b r h) fun r s' hq => ?_)
  rcases r with er | _ | _ | _ | u
  · exact hx pins H s er s' I hq
  · exact hq.elim
  · exact hq.elim
  · exact hq.elim
  · exact I.after hq
theorem pe_callG (F : FnG X.prog X.w X.K X.mg X.base k f fd ps sp) (hr : RoomG k X.A) (hg : Gl X x) (hm : X.mg x = some (.ref f)) (hk : PySem.W.keepIn X.K (.ref f) = true) (hb : Binds X.K fd ps []) (hx : ∀ σ, PassesAt (L2.CX X.prog X.w) X σ (E σ))
    (ha : PA X (e :: es) t) (hdb : (x == ("__debug__" : Str)) = false := by decide) (he : starEach (e :: es) X.env = (false, eval e X.env) :: starEach es X.env := by rfl) (hpl : (backTo pos (starEach es X.env)).any (·.1) = false := by rfl) :
    PE X (.Call (.Name x p) (e :: es) [] pos) (tCallS sp E t) :=
  ⟨fun pins s σ H Q I h => wpAny_Call_Name_kw (ld_glob I hg hm (PySem.W.callWith_K (h₀ := X.base) I.ok.mod.kin hk (thn (ha.run pos pins s σ H _ I h) fun us s1 ⟨vs, H1, I1, r, q⟩ => ⟨I1.kIn, run_G F hr hb (hx σ) I1 r q⟩) he hpl) hdb)⟩
end
/-- the law called, from the top: the script is a list of ints of its own, or one of the module's -/
theorem law_callG {P : Program} {w : World} {K : PySem.W.Frag} {mg mb : Str → Option Value} {k : Nat} {fa a : Addr} {fd : FuncData} {x : Str} {sp : Sp} {s : Shared} {vs : List Value} {ns : List Int}
    (KX : K.In s.heap) (hns : s.heap.Ns mainGlobals mg) (hb : s.heap.Ns builtinsNs mb) (hbb : ∀ x : Str, x ≠ "__name__" → mb x = bootBuiltins x) (hlim : s.heap.NoLimit) (hg : s.gens = #[])
    (ha : s.heap.get? a = some { cls := .type "list", data := .seq vs.toArray }) (hi : IntsAre vs ns) (hl : ns.length ≤ sizeLine) (hr : Room k callerA)
    (F : ∀ base : Heap, K.In base → base.Ns mainGlobals mg → FnG P w K mg base k fa fd [x] sp) (hbind : ∀ (s : Shared) (u : Value), BindsTo s fd ⟨[u], []⟩ [(x, u)])
    (hsp : ∀ H : Hp, Only H → SqL K H a (ns.map V.int) → sp [.ref a] H (fun v _ => v = .bl true) fun _ _ _ => False) :
    codeAny (model P w) callerA (.call (.ref fa) ⟨[.ref a], []⟩) (fun r s' => r = .ok (.ret (.bool true)) ∧ OldK s.heap s'.heap ∧ s'.os = s.os ∧ AllBare s'.gens) s := by
  have rv := vals_ints hi
  have core : ∀ H : Hp, Only H → SqL K H a (ns.map V.int) → HOk P w H s.heap → (∀ b, H b ≠ none → b = a) → (H a ≠ none → K.lookup a = none) →
      codeAny (model P w) callerA (.call (.ref fa) ⟨[.ref a], []⟩) (fun r s' => r = .ok (.ret (.bool true)) ∧ OldK s.heap s'.heap ∧ s'.os = s.os ∧ AllBare s'.gens) s := by
    intro H hO hS hok hA hK
    have nsK : ∀ {b : Addr} {m : Str → Option Value}, s.heap.Ns b m → (hidT s.heap H).Ns b m := by
      rintro b m ⟨o, es, ep, e, d, r⟩
      refine ⟨o, es, ep, hidT_get e ?_, d, r⟩
      rcases q : H b with _ | u
      · rfl
      · have e' : b = a := hA b (by rw [q]; simp)
        subst e'
        rw [ha] at e; cases e
        cases (show Data.seq vs.toArray _ = Data.dict es ep from d)
    have hKb : K.In (hidT s.heap H) := by
      intro b o e
      refine hidT_get (KX b o e) ?_
      rcases q : H b with _ | u
      · rfl
      · have e' : b = a := hA b (by rw [q]; simp)
        subst e'
        cases (hK (by rw [q]; simp)).symm.trans e
    have e0 : Env0 P w K mg (hidT s.heap H) callerA [] s H :=
      ⟨rfl, ⟨hKb, nsK hns, ⟨mb, nsK hb, hbb⟩, let ⟨mc, h1, h2⟩ := hlim; ⟨mc, nsK h1, h2⟩⟩, fun b o e => of_hidT e, Nat.le_of_eq (hidT_size _ _), trivial, fun b hb => absurd (show b ∈ ([] : List Addr) from hb) (by simp), hok, .of_eq hg⟩
    refine codeAny_mono ((F _ hKb (nsK hns)).run callerA [] s H ⟨[.ref a], []⟩ [.ref a] [.ref a] _ _ ⟨hr, rfl⟩ e0 (hbind s (.ref a)) (.cons rfl .nil) (hsp H hO hS)) fun r s' h => ?_
    rcases r with e | _ | _ | _ | u
    · obtain ⟨_, _, _, _, _, _, _, _, _, _, _, _, z⟩ := h
      exact z.elim
    · exact h.elim
    · exact h.elim
    · exact h.elim
    · obtain ⟨v, H', os, bare, un, hok', r', q⟩ := h
      obtain rfl : v = .bl true := q
      obtain rfl : u = Value.bool true := r'
      refine ⟨rfl, OldK.of_keep fun b o e => ?_, os, bare⟩
      rcases q : H b with _ | u
      · exact un.keep b o e q (fun z => absurd (show b ∈ ([] : List Addr) from z) (by simp)) (by simp)
      · rcases hO b with z | ⟨ob, xs, z⟩
        · rw [q] at z; cases z
        · have e1 := (hok b _ z).1
          have e2 := (hok' b _ (un.frzs b ob _ z)).1
          rw [e] at e1; cases e1
          exact e2
  rcases hk : K.lookup a with _ | o
  · have ie : ∀ {b : Addr} {u : HO}, (if b = a then some (HO.frz { cls := .type "list", data := .seq vs.toArray } (.lst (ns.map V.int))) else none) = some u → b = a := fun {b u} z => by
      by_cases hb : b = a
      · exact hb
      · rw [if_neg hb] at z; cases z
    refine core (fun b => if b = a then some (.frz { cls := .type "list", data := .seq vs.toArray } (.lst (ns.map V.int))) else none) (fun b => ?_) (.inl (.inr ⟨_, if_pos rfl⟩)) (fun b u z => ?_) (fun b z => ?_) fun _ => hk
    · by_cases hb : b = a
      · exact .inr ⟨_, _, if_pos hb⟩
      · exact .inl (if_neg hb)
    · have hb := ie z
      subst hb
      cases (if_pos rfl).symm.trans z
      exact ⟨ha, by rw [List.length_map]; exact hl, vs, _, rv, ha⟩
    · by_cases hb : b = a
      · exact hb
      · exact absurd (if_neg hb) z
  · have e := KX a o hk
    rw [ha] at e
    cases e
    exact core (fun _ => none) (fun _ => .inl rfl) (.inr ⟨_, vs.toArray, _, hk, rfl, rfl, rfl, by rw [List.size_toArray, hi.length]; exact hl, by simpa using rv⟩) (fun b u z => by cases (show (none : Option HO) = some u from z)) (fun b z => absurd rfl z) fun z => absurd rfl z
theorem walk_ofG {l : PySem.W.OpenLaw} {n k : Nat} {q : Program} {loose : List Str} {XP : (Str → Option Value) → Heap → Prop} {YP : World → Heap → Prop} {d : DefRec} {K : Params → PySem.W.Frag} {sp : World → Sp} {x : Str}
    (hn : l.most = some n) (hn2 : n ≤ sizeLine) (hdf : d.params.defaults = []) (hr : Room k callerA) (hY : ∀ (w : World) (h : Heap), YP w h → (K w.params).In h)
    (F : ∀ (w : World) (mg : Str → Option Value) (fa : Addr) (h : Heap), (K w.params).In h → h.Ns mainGlobals mg → mg d.name = some (.ref fa) → ∃ fd : FuncData, (∀ (s : Shared) (u : Value), BindsTo s fd ⟨[u], []⟩ [(x, u)]) ∧
        ∀ base : Heap, (K w.params).In base → base.Ns mainGlobals mg → FnG l.prog w (K w.params) mg base k fa fd [x] (sp w))
    (hsp : ∀ (w : World) (H : Hp) (a : Addr) (ns : List Int), ns.length ≤ n → Only H → SqL (K w.params) H a (ns.map V.int) → sp w [.ref a] H (fun v _ => v = .bl true) fun _ _ _ => False) :
    PySem.W.WalkO q loose XP YP l.row.toRowW d [] (fun f vs => PySem.call f vs) := by
  refine Att.attach_call hn hdf fun w s₀ s₁ mg mb fa o pm cd doc a vs ns G Y ho hd hcd hmg hobj hints hlen hg => ?_
  obtain ⟨fd, hb, hF⟩ := F w mg fa _ (hY w _ Y) G.T.g hmg
  exact law_callG (hY w _ Y) G.T.g G.T.b G.T.builtins G.T.nolimit hg hobj hints (Nat.le_trans hlen hn2) hr hF hb fun H hO hS => hsp w H a ns hlen hO hS
end PD

namespace PD
open PySem PySem.Spec PyProof.Rows L2
/-! ### what a def promises over data -/
/-- all arguments are values -/
abbrev SpA := List D → (DErr → Prop) → (S → Prop) → Prop
/-- the first argument is an object of the caller's own -/
abbrev SpB := Tg → List D → List D → (DErr → Tg → List D → Prop) → (S → Tg → List D → Prop) → Prop
structure Aft (H0 H : Hp) (as : List Addr) (H0' H' : Hp) : Prop where
  s0 : Same H0 H0'
  s1 : Same H0' H'
  keep : ∀ b o, H b = some o → b ∉ as → H' b = some o
  low : ∀ b o, H b = some o → H0 b = none → H0' b = none
section
variable (K : PySem.W.Frag) (mg : Str → Option Value)
def RepT (H H0' H' : Hp) : S → V → Prop
  | .fz d, v => Rep K mg H0' d v
  | .ow a l t ds, v => v = .ref a ∧ l = true ∧ H0' a = none ∧ H a = none ∧ ∃ vs, NodeM mg H' t a vs ∧ RepL K mg H0' ds vs
  | .un, _ => False
  | .xc _ _, _ => False
def toA (n : Nat) (φ : SpA) : Sp := fun vs H Q E => vs.length = n ∧ ∃ H0 ds Ex' Q', Same H0 H ∧ RepL K mg H0 ds vs ∧ φ ds Ex' Q' ∧
  (∀ e H0' H' cls d, Ex' e → Aft H0 H [] H0' H' → RepE K mg H0' e cls d → E cls d H') ∧
  (∀ r v H0' H', Q' r → Aft H0 H [] H0' H' → RepT K mg H H0' H' r v → Q v H')
def toB (n : Nat) (φ : SpB) : Sp := fun vs H Q E => vs.length = n ∧ ∃ H0 a t es us ws ds Ex' Q', vs = .ref a :: ws ∧ Same H0 H ∧ H0 a = none ∧ NodeM mg H t a us ∧ RepL K mg H0 es us ∧ RepL K mg H0 ds ws ∧ φ t es ds Ex' Q' ∧
  (∀ e t' es' us' H0' H' cls d, Ex' e t' es' → Aft H0 H [a] H0' H' → NodeM mg H' t' a us' → RepL K mg H0' es' us' → RepE K mg H0' e cls d → E cls d H') ∧
  (∀ r t' es' us' v H0' H', Q' r t' es' → Aft H0 H [a] H0' H' → NodeM mg H' t' a us' → RepL K mg H0' es' us' → RepT K mg H H0' H' r v → Q v H')
end
def startA (n : Nat) (ds : List D) : LS := ds.map S.fz ++ List.replicate (n - ds.length) S.un
def endsA (Ex : DErr → Prop) (Q : S → Prop) : DEnds := ⟨fun _ => Q (.fz .non), fun r _ => Q r, fun _ => False, fun _ => False, fun e _ => Ex e⟩
/-- the own object is still in its slot -/
def backB (a : Addr) (st : LS) (Q : Tg → List D → Prop) : Prop := match st[(0 : Nat)]? with
  | some (S.ow a' _ t es) => a' = a ∧ Q t es
  | _ => False
def startB (n : Nat) (a : Addr) (t : Tg) (es ds : List D) : LS := .ow a false t es :: (ds.map S.fz ++ List.replicate (n - ds.length - 1) S.un)
def endsB (a : Addr) (Ex : DErr → Tg → List D → Prop) (Q : S → Tg → List D → Prop) : DEnds :=
  ⟨fun st => backB a st (Q (.fz .non)), fun r st => backB a st (Q r), fun _ => False, fun _ => False, fun e st => backB a st (Ex e)⟩
def dCallA (φ : SpA) (g : DA) (Ex : DX) (st : LS) (Q : S → LS → Prop) : Prop := g Ex st fun ds st1 => φ ds (fun e => Ex e st1) fun r => Q r st1
def dCallB (φ : SpB) (i : Nat) (g : DA) (Ex : DX) (st : LS) (Q : S → LS → Prop) : Prop := g Ex st fun ds st1 => match st1[i]? with
  | some (.ow a l t es) => φ t es ds (fun e t' es' => Ex e (st1.set i (.ow a l t' es'))) fun r t' es' => Q r (st1.set i (.ow a l t' es'))
  | _ => False
theorem ow_of {s : Option S} {P : Prop} (h : match s with
    | some (.ow _ _ _ _) => P
    | _ => False) : (∃ a l t ds, s = some (S.ow a l t ds)) ∧ P := by
  split at h
  · exact ⟨⟨_, _, _, _, rfl⟩, h⟩
  · exact h.elim
theorem owL_of {s : Option S} {P : Prop} (h : match s with
    | some (.ow _ _ .lst _) => P
    | _ => False) : (∃ a l ds, s = some (S.ow a l .lst ds)) ∧ P := by
  split at h
  · exact ⟨⟨_, _, _, rfl⟩, h⟩
  · exact h.elim
/-- an item by its place -/
def geti {α : Type} (xs : List α) : Int → Option α
  | .ofNat n => xs[n]?
  | .negSucc n => if n + 1 ≤ xs.length then xs[xs.length - (n + 1)]? else none
def seti {α : Type} (xs : List α) (k : Int) (d : α) : Option (List α) := match k with
  | .ofNat n => if n < xs.length then some (xs.set n d) else none
  | .negSucc n => if n + 1 ≤ xs.length then some (xs.set (xs.length - (n + 1)) d) else none
theorem atI_geti {α : Type} (xs : List α) (k : Int) : atI xs k = geti xs k := by
  unfold atI ixN
  cases k with
  | ofNat n =>
    show (if (0 : Int) ≤ (n : Int) then _ else _ : Option Nat).bind _ = xs[n]?
    have en : Int.ofNat n = (n : Int) := rfl
    rw [if_pos (by omega)]
    by_cases h : n < xs.length
    · rw [if_pos (by omega)]; rfl
    · rw [if_neg (by omega), List.getElem?_eq_none (by omega)]; rfl
  | negSucc n =>
    show (if (0 : Int) ≤ Int.negSucc n then _ else _ : Option Nat).bind _ = (if n + 1 ≤ xs.length then xs[xs.length - (n + 1)]? else none)
    rw [if_neg (by omega)]
    by_cases h : n + 1 ≤ xs.length
    · rw [if_pos (by omega), if_pos h]
      show xs[(Int.negSucc n + (xs.length : Int)).toNat]? = _
      congr 1; omega
    · rw [if_neg (by omega), if_neg h]; rfl
theorem seti_ix {α : Type} {xs ys : List α} {k : Int} {d : α} (h : seti xs k d = some ys) : ∃ j, ixN xs.length k = some j ∧ ys = xs.set j d := by
  unfold ixN
  cases k with
  | ofNat n =>
    have h' : (if n < xs.length then some (xs.set n d) else none) = some ys := h
    by_cases q : n < xs.length
    · rw [if_pos q] at h'
      refine ⟨n, ?_, (Option.some.inj h').symm⟩
      show (if (0 : Int) ≤ (n : Int) then _ else _ : Option Nat) = _
      have en : Int.ofNat n = (n : Int) := rfl
      rw [if_pos (by omega), if_pos (by omega)]; rfl
    · rw [if_neg q] at h'; cases h'
  | negSucc n =>
    have h' : (if n + 1 ≤ xs.length then some (xs.set (xs.length - (n + 1)) d) else none) = some ys := h
    by_cases q : n + 1 ≤ xs.length
    · rw [if_pos q] at h'
      refine ⟨xs.length - (n + 1), ?_, (Option.some.inj h').symm⟩
      show (if (0 : Int) ≤ Int.negSucc n then _ else _ : Option Nat) = _
      rw [if_neg (by omega), if_pos (by omega)]
      congr 1; omega
    · rw [if_neg q] at h'; cases h'
def dStore (i : Nat) (ge gi : DE) (de : DEnds) (st : LS) : Prop := ge de.ex st fun d st1 => gi de.ex st1 fun x st2 => match st2[i]?, x with
  | some (.ow a l .lst ds), .int k => (match seti ds k d with
    | some ds' => de.nx (st2.set i (.ow a l .lst ds'))
    | none => False)
  | _, _ => False
def dAppend (i : Nat) (ge : DE) (de : DEnds) (st : LS) : Prop := ge de.ex st fun d st1 => match st1[i]? with
  | some (.ow a l .lst ds) => ds.length < sizeLine ∧ de.nx (st1.set i (.ow a l .lst (ds ++ [d])))
  | _ => False
def dIxO (i : Nat) (gi : DE) (Ex : DX) (st : LS) (Q : D → LS → Prop) : Prop := gi Ex st fun x st1 => match st1[i]?, x with
  | some (.ow _ _ .lst ds), .int k => (match geti ds k with
    | some d => Q d st1
    | none => False)
  | _, _ => False

/-- the readings of calls and of own lists, with what they ask ahead -/
def dcA (φ : SpA) (g : DA) (Ex : DX) (st : LS) (Q : S → LS → Prop) : Prop := g Ex st fun ds st1 => φ ds (fun e => Ex e st1) fun r => Q r st1
def dcB (φ : SpB) (i : Nat) (g : DA) (Ex : DX) (st : LS) (Q : S → LS → Prop) : Prop := match st[i]? with
  | some (.ow _ _ _ _) => dCallB φ i g Ex st Q
  | _ => False
def dix (i : Nat) (gi : DE) (Ex : DX) (st : LS) (Q : D → LS → Prop) : Prop := match st[i]? with
  | some (.ow _ _ _ _) => dIxO i gi Ex st Q
  | _ => False
def dst (i : Nat) (ge gi : DE) (de : DEnds) (st : LS) : Prop := dStore i ge (fun Ex st Q => match st[i]? with
  | some (.ow _ _ _ _) => gi Ex st Q
  | _ => False) de st
def dap (i : Nat) (ge : DE) (de : DEnds) (st : LS) : Prop := match st[i]? with
  | some (.ow _ _ .lst _) => dAppend i ge de st
  | _ => False
section
variable {K : PySem.W.Frag} {mg : Str → Option Value} {C : Cfg} {H0 H H0' H' : Hp} {σ : L2.St} {st : LS}
theorem Aft.refl (s : Same H0 H) (as : List Addr) : Aft H0 H as H0 H := ⟨Same.refl _, s, fun _ _ h _ => h, fun _ _ _ h => h⟩
/-- behind a call that changed at most the own object of slot i -/
theorem I.callB (i : I K mg C H0 H σ st) {k : Nat} {a : Addr} {l : Bool} {t t' : Tg} {es es' : List D} {us' : List V} (e : st[k]? = some (.ow a l t es)) (f : Aft H0 H [a] H0' H') (h0 : H0' a = none) (hn : NodeM mg H' t' a us') (hr : RepL K mg H0' es' us') :
    I K mg C H0' H' σ (st.set k (.ow a l t' es')) := by
  obtain ⟨e1, e2, e3, e4, us, e5, e6⟩ := i.ow e
  obtain ⟨oa, hoa⟩ := e5.some
  have hk : k < st.length := (List.getElem?_eq_some_iff.mp e).1
  have nb : ∀ b o, C.B b = some o → b ∉ C.A → b ∉ [a] := fun b o h n hm => by
    have : b = a := by simpa using hm
    subst this
    cases l with
    | true => rw [e3 rfl] at h; cases h
    | false => exact n (e4 rfl)
  refine ⟨f.s1, i.up.trans f.s0, fun b o h n => f.keep b o (i.keep b o h n) (nb b o h n), fun b o h n => ?_, fun b hb => ?_, by rw [List.length_set]; exact i.len, fun j => ?_, fun x y a' l t ds l' t' ds' q1 q2 => ?_⟩
  · by_cases hb : b ∈ C.A
    · obtain ⟨o', q⟩ := i.aa b hb
      exact f.low b o' q (i.low b o h n)
    · exact f.low b o (i.keep b o h hb) (i.low b o h n)
  · by_cases q : b = a
    · subst q; exact hn.some
    · obtain ⟨o, ho⟩ := i.aa b hb
      exact ⟨o, f.keep b o ho (by simpa using q)⟩
  · rw [getElem?_set_st hk]
    by_cases q : j = k
    · rw [if_pos q]; subst q
      exact ⟨e1, h0, e3, e4, us', hn, hr⟩
    · rw [if_neg q]
      refine (i.slots j).move f.s0 fun a' l' t' ds' q' => ?_
      have ne : a' ≠ a := fun z => by subst z; exact q (i.dist _ _ _ _ _ _ _ _ _ q' e)
      obtain ⟨_, x2, _, _, vs, x5, _⟩ := i.ow q'
      obtain ⟨o, ho⟩ := x5.some
      exact ⟨f.low a' o ho x2, fun o' z => f.keep a' o' z (by simpa using ne)⟩
  · rw [getElem?_set_st hk] at q1 q2
    by_cases z1 : x = k <;> by_cases z2 : y = k
    · rw [z1, z2]
    · rw [if_pos z1] at q1; rw [if_neg z2] at q2; cases q1
      exact (z2 (i.dist _ _ _ _ _ _ _ _ _ q2 e)).elim
    · rw [if_neg z1] at q1; rw [if_pos z2] at q2; cases q2
      exact (z1 (i.dist _ _ _ _ _ _ _ _ _ q1 e)).elim
    · rw [if_neg z1] at q1; rw [if_neg z2] at q2
      exact i.dist _ _ _ _ _ _ _ _ _ q1 q2
theorem I.wr (i : I K mg C H0 H σ st) {k : Nat} {a : Addr} {l : Bool} {t t' : Tg} {es es' : List D} {us' : List V} {o : HO} (e : st[k]? = some (.ow a l t es)) (hn : NodeM mg (upd H a o) t' a us') (hr : RepL K mg H0 es' us') :
    I K mg C H0 (upd H a o) σ (st.set k (.ow a l t' es')) := by
  obtain ⟨e1, e2, _⟩ := i.ow e
  refine i.callB e ⟨Same.refl _, fun b u h => ?_, fun b u h n => ?_, fun _ _ _ h => h⟩ e2 hn hr
  · rw [upd_ne (ne_of_none h e2)]; exact i.same _ _ h
  · rw [upd_ne (by simpa using n)]; exact h
theorem I.callA (i : I K mg C H0 H σ st) (f : Aft H0 H [] H0' H') : I K mg C H0' H' σ st :=
  i.grow f.s0 (fun b o h => f.keep b o h (by simp)) f.s1 f.low
theorem RepT.r (i : I K mg C H0 H σ st) {st' : LS} (hs : ∀ (k : Nat) a l t ds, st'[k]? = some (S.ow a l t ds) → ∃ l' t' ds', st[k]? = some (S.ow a l' t' ds')) {r : S} {v : V} (h : RepT K mg H H0' H' r v) : RepR K mg C H0' H' st' r v := by
  cases r with
  | un => exact h
  | xc _ _ => exact h
  | fz d => exact h
  | ow a l t ds =>
    obtain ⟨h1, h2, h3, h4, h5⟩ := h
    obtain ⟨f1, f2⟩ := i.fresh h4
    refine ⟨h1, h2, h3, f1, fun k l' t' ds' q => ?_, h5⟩
    obtain ⟨l2, t2, ds2, q2⟩ := hs k a l' t' ds' q
    exact f2 k l2 t2 ds2 q2
theorem RepR.t {C : Cfg} {r : S} {v : V} (h : RepR K mg C H0' H' st r v) : RepT K mg C.B H0' H' r v := by
  cases r with
  | un => exact h
  | xc _ _ => exact h
  | fz d => exact h
  | ow a l t ds =>
    obtain ⟨h1, h2, h3, h4, h5, h6⟩ := h
    exact ⟨h1, h2, h3, h4, h6⟩
end
section
variable {X : Cx} {W : WX} {e a b c : Expr} {es : List Expr} {pos p : Pos} {k : Nat} {f : Addr} {fd : FuncData} {ps : List Str} {x : Str} {n : Nat}
theorem pod_callA {φ : SpA} {g : DA} (tk : Takes X W) (F : FnG X.prog X.w X.K X.mg X.base k f fd ps (toA X.K X.mg n φ)) (hr : RoomG k X.A) (hg : Gl X x) (hm : X.mg x = some (.ref f)) (hk : PySem.W.keepIn X.K (.ref f) = true) (hb : Binds X.K fd ps [])
    (ha : PAD X W (e :: es) g) (hl : (e :: es).length = n := by rfl) (hdb : (x == ("__debug__" : Str)) = false := by decide) (he : starEach (e :: es) X.env = (false, eval e X.env) :: starEach es X.env := by rfl) (hpl : (backTo pos (starEach es X.env)).any (·.1) = false := by rfl) :
    POD X W (.Call (.Name x p) (e :: es) [] pos) (dcA φ g) := by
  obtain ⟨ta, pa, qa⟩ := ha.ex
  refine ⟨_, pe_callG F hr hg hm hk hb (fun σ => passAt tk σ) pa hdb he hpl, fun C H0 H σ st Ex Q Qv hI hX hQ hg => qa C H0 H σ st Ex _ _ hI hX (fun ds st1 vs H1 K1 q1 i1 s1 r1 el => ?_) hg⟩
  refine ⟨by rw [r1.length, el]; exact hl, H1, ds, _, _, i1.same, r1, q1, fun er H2 K2 cls d q2 f2 r2 => ?_, fun r v H2 K2 q2 f2 r2 => ?_⟩
  · exact hX er st1 H2 K2 cls d q2 (i1.callA f2) (s1.trans f2.s0) r2
  · exact hQ r st1 v H2 K2 q2 (i1.callA f2) (s1.trans f2.s0) (RepT.r i1 (fun k a l t ds q => ⟨l, t, ds, q⟩) r2)
theorem pod_callB {φ : SpB} {g : DA} {i : Nat} (tk : Takes X W) (F : FnG X.prog X.w X.K X.mg X.base k f fd ps (toB X.K X.mg n φ)) (hr : RoomG k X.A) (hg : Gl X x) (hm : X.mg x = some (.ref f)) (hk : PySem.W.keepIn X.K (.ref f) = true) (hb : Binds X.K fd ps [])
    (he1 : PE X e (tVar i)) (ha : PAD X W es g) (hl : (e :: es).length = n := by rfl) (hdb : (x == ("__debug__" : Str)) = false := by decide) (he : starEach (e :: es) X.env = (false, eval e X.env) :: starEach es X.env := by rfl) (hpl : (backTo pos (starEach es X.env)).any (·.1) = false := by rfl) :
    POD X W (.Call (.Name x p) (e :: es) [] pos) (dcB φ i g) := by
  obtain ⟨ta, pa, qa⟩ := ha.ex
  refine ⟨_, pe_callG F hr hg hm hk hb (fun σ => passAt tk σ) (pa_cons he1 pa he) hdb he hpl, fun C H0 H σ st Ex Q Qv hI hX hQ hg => ?_⟩
  obtain ⟨⟨a0, l0, t0, ds0, e0⟩, hg⟩ := ow_of hg
  have e0' := (hI.ow e0).1
  refine ⟨.ref a0, e0', qa C H0 H σ st Ex _ _ hI hX (fun ds st1 vs H1 K1 q1 i1 s1 r1 el => ?_) hg⟩
  split at q1
  · rename_i a l t us0 ed
    obtain ⟨e1, e2, e3, e4, us, e5, e6⟩ := i1.ow ed
    rw [e0'] at e1
    cases e1
    have hh : ∀ t' es' (k : Nat) a l t ds, (st1.set i (S.ow a0 l0 t' es'))[k]? = some (S.ow a l t ds) → ∃ l' t' ds', st1[k]? = some (S.ow a l' t' ds') := fun t' es' k a l2 t2 ds2 q => by
      rw [getElem?_set_st (List.getElem?_eq_some_iff.mp ed).1] at q
      by_cases z : k = i
      · rw [if_pos z] at q; cases q; subst z; exact ⟨_, _, _, ed⟩
      · rw [if_neg z] at q; exact ⟨_, _, _, q⟩
    refine ⟨by rw [List.length_cons, r1.length, el]; exact hl, H1, a0, t, us0, us, vs, ds, _, _, rfl, i1.same, e2, e5, e6, r1, q1, fun er t' es' us' H2 K2 cls d q2 f2 n2 m2 r2 => ?_, fun r t' es' us' v H2 K2 q2 f2 n2 m2 r2 => ?_⟩
    · obtain ⟨o, ho⟩ := e5.some
      exact hX er _ H2 K2 cls d q2 (i1.callB ed f2 (f2.low a0 o ho e2) n2 m2) (s1.trans f2.s0) r2
    · obtain ⟨o, ho⟩ := e5.some
      refine hQ r _ v H2 K2 q2 (i1.callB ed f2 (f2.low a0 o ho e2) n2 m2) (s1.trans f2.s0) (RepT.r i1 (fun k a' l' t2 ds2 q => ?_) r2)
      rw [getElem?_set_st (List.getElem?_eq_some_iff.mp ed).1] at q
      by_cases z : k = i
      · rw [if_pos z] at q; cases q; subst z; exact ⟨_, _, _, ed⟩
      · rw [if_neg z] at q; exact ⟨_, _, _, q⟩
  · exact q1.elim
/-! own lists -/
theorem ped_ixO {i : Nat} {gi : DE} (ha : PE X a (tVar i)) (hb : PED X W b gi) (hs : PlainIx b := by intro _ _; rfl) : PED X W (.Subscript a b pos) (dix i gi) := by
  obtain ⟨tb, pb, qb⟩ := hb.ex
  refine ⟨_, pe_ix ix_list ha pb hs, fun C H0 H σ st Ex Q Qv hI hX hQ hg => ?_⟩
  obtain ⟨⟨a0, l0, t0, ds0, e0⟩, hg⟩ := ow_of hg
  have e0' := (hI.ow e0).1
  refine ⟨.ref a0, e0', qb C H0 H σ st Ex _ _ hI hX (fun x st1 u H1 K1 q1 i1 s1 r1 => ?_) hg⟩
  split at q1
  · rename_i a l ds k ed
    split at q1
    · rename_i d ek
      rw [← atI_geti] at ek
      obtain ⟨e1, e2, e3, e4, us, e5, e6⟩ := i1.ow ed
      rw [e0'] at e1
      cases e1
      obtain ⟨j, hj, hd⟩ := Option.bind_eq_some_iff.mp ek
      obtain ⟨w, hw, rw'⟩ := e6.get hd
      refine ⟨a0, us, k, w, rfl, r1.int, SqL.of e5, ?_, hQ d st1 w H1 K1 q1 i1 s1 rw'⟩
      unfold atI
      rw [e6.length, hj]
      exact hw
    · exact q1.elim
  · exact q1.elim
theorem psd_store {i : Nat} {ge gi : DE} (ho : PE X a (tVar i)) (hi : PED X W b gi) (he : PED X W e ge) (hs : swapsWithSole [.Subscript a b p] e pos.line X.env = pure false := by rfl) (hw : swappedStores [.Subscript a b p] e X.env = pure none := by rfl)
    (h1 : (assignEach [.Subscript a b p] X.env).map (·.2) = [assign (.Subscript a b p) X.env] := by rfl)
    (hd : ∀ v, assign (.Subscript a b p) X.env v = (do
      let ov ← holding [v] (eval a X.env)
      let iv ← holding [v, ov] (eval b X.env)
      standAt p
      holding [v, ov, iv] (setItem ov iv v)
      release [v, ov, iv] []) := by intro _; rfl) : PSD X W (.Assign [.Subscript a b p] e pos) (dst i ge gi) := by
  obtain ⟨te, pe, qe⟩ := he.ex
  obtain ⟨ti, pi, qi⟩ := hi.ex
  refine ⟨_, ps_asg pe (pg_sub ho pi set_list hd) hs hw h1, fun C H0 H σ st de Dn hI hL hg => qe C H0 H σ st de.ex _ _ hI (hL.xp σ) (fun d st1 v H1 K1 q1 i1 s1 r1 => ?_) hg⟩
  obtain ⟨⟨a0, l0, t0, ds0, e0⟩, q1⟩ := ow_of q1
  have e0' := (i1.ow e0).1
  refine ⟨.ref a0, e0', qi C H1 K1 σ st1 de.ex _ _ i1 ((hL.xp σ).up s1) (fun x st2 u H2 K2 q2 i2 s2 r2 => ?_) q1⟩
  split at q2
  · rename_i a l ds k ed
    split at q2
    · rename_i ds' ek
      obtain ⟨j, ekj, rfl⟩ := seti_ix ek
      obtain ⟨e1, e2, e3, e4, us, e5, e6⟩ := i2.ow ed
      rw [e0'] at e1
      cases e1
      refine ⟨a0, us, k, j, rfl, r2.int, e5, by rw [e6.length]; exact ekj, ?_⟩
      exact hL.nx _ σ H2 _ q2 (i2.wr ed (t' := .lst) upd_same (e6.set j (Rep.mono s2 d v r1))) (s1.trans s2)
    · exact q2.elim
  · exact q2.elim
theorem psd_append {i : Nat} {ge : DE} {apos : Pos} (ho : PE X a (tVar i)) (he : PED X W e ge) (hst : ∀ {to : TE} {t : TA}, PE X a to → PA X [e] t → PE X (.Call (.Attribute a "append" apos) [e] [] p) (tBM X.K "list" (fun x ys H Q => ∃ l xs y, x = .ref l ∧ ys = [y] ∧ H l = some (.lst xs) ∧ xs.length < sizeLine ∧ Q .non (upd H l (.lst (xs ++ [y])))) to t))
    (hs : swapsWith (.Call (.Attribute a "append" apos) [e] [] p) none pos.line X.env = pure false := by rfl) (hse : starEach [e] X.env = [(false, eval e X.env)] := by rfl) : PSD X W (.Expr (.Call (.Attribute a "append" apos) [e] [] p) pos) (dap i ge) := by
  obtain ⟨te, pe, qe⟩ := he.ex
  refine ⟨_, ps_expr (hst ho (pa_cons pe pa_nil hse)) hs, fun C H0 H σ st de Dn hI hL hg => ?_⟩
  obtain ⟨⟨a0, l0, ds0, e0⟩, hg⟩ := owL_of hg
  obtain ⟨e0', _, _, _, us0, n0, _⟩ := hI.ow e0
  refine ⟨.ref a0, e0', .inl ⟨rfl, us0, SqL.of n0⟩, qe C H0 H σ st de.ex _ _ hI (hL.xp σ) (fun d st1 v H1 K1 q1 i1 s1 r1 => ?_) hg⟩
  split at q1
  · rename_i a l ds ed
    obtain ⟨e1, e2, e3, e4, us, e5, e6⟩ := i1.ow ed
    rw [e0'] at e1
    cases e1
    refine ⟨a0, us, v, rfl, rfl, e5, by rw [e6.length]; exact q1.1, ?_⟩
    exact hL.nx _ σ H1 _ q1.2 (i1.wr ed (t' := .lst) upd_same (e6.append (repL_cons r1 repL_nil))) s1
  · exact q1.elim
end
/-! ### a def from its body -/
section
variable {P : Program} {w : World} {K : PySem.W.Frag} {mg : Str → Option Value} {base : Heap}
theorem start_i {N : List Str} {C : Cfg} {ds : List D} {vs : List V} {H0 H : Hp} (s : Same H0 H) (hC : C = ⟨H0, H, []⟩) (r : RepL K mg H0 ds vs) : I K mg C H0 H (L2.start N vs) (startA N.length ds) := by
  subst hC
  have el := r.length
  refine ⟨s, Same.refl _, fun b o h _ => h, fun b o h n => n, fun a h => absurd h (by simp), ?_, fun i => ?_, fun i j a l t dsx l' t' ds' e1 e2 => ?_⟩
  · unfold L2.start startA
    simp [el]
  · unfold L2.start startA
    by_cases h : i < ds.length
    · rw [List.getElem?_append_left (by simpa using h), List.getElem?_append_left (by simp; omega), List.getElem?_map, List.getElem?_map]
      cases e : ds[i]? with
      | none => simp at e; omega
      | some d =>
        obtain ⟨v, h1, h2⟩ := r.get e
        rw [h1]
        exact ⟨v, rfl, h2⟩
    · rw [List.getElem?_append_right (by simp; omega), List.getElem?_replicate]
      split
      · trivial
      · trivial
  · unfold startA at e1
    by_cases h : i < ds.length
    · rw [List.getElem?_append_left (by simpa using h), List.getElem?_map] at e1
      cases e : ds[i]? with
      | none => rw [e] at e1; cases e1
      | some d => rw [e] at e1; cases e1
    · rw [List.getElem?_append_right (by simp; omega), List.getElem?_replicate] at e1
      split at e1 <;> cases e1
theorem okA {x qual : Str} {st : Stmt} {f : Addr} {fd : FuncData} {N ps : List Str} {k : Nat} (F : FunV K x qual st f fd) (S : FnScope N ps (defScope st)) (φ : SpA) (g : DS)
    (hb : ∀ (cdv : Value) (A : Around) (outer : List Env) (s : Shared) (H : Hp) (E : XK), RoomG k (A.deeper (envOfC qual (defScope st) s.heap.objs.size f cdv)) →
      PSsD (cxOf (L2.CX P w) P w K mg base N qual (defScope st) f cdv A outer s H E) (fun cls d _ H => E cls d H) (defBody st) g)
    (hφ : ∀ ds Ex Q, ds.length = ps.length → φ ds Ex Q → g (endsA Ex Q) (startA N.length ds)) : FnG P w K mg base (k + 1) f fd ps (toA K mg ps.length φ) := by
  refine Fun.okG F S (fun vs H Q E h => h.1) (fun cdv A outer s H vs Q E hr h => ?_)
  obtain ⟨hl, H0, ds, Ex', Q', sm, r, hf, hE, hQ⟩ := h
  obtain ⟨t, p, q⟩ := (hb cdv A outer s H E hr).ex
  refine ⟨t, p, q ⟨H0, H, []⟩ H0 H _ _ (endsA Ex' Q') _ (start_i sm rfl r) ⟨fun st' σ' H1 K1 q1 i1 s1 => ?_, fun _ _ _ _ z => z.elim, fun _ _ _ _ z => z.elim, fun r st' v σ' H1 K1 q1 i1 s1 r1 => ?_, fun er st' σ' H1 K1 cls d q1 i1 s1 r1 => ?_⟩ (hφ ds Ex' Q' (by rw [← r.length]; exact hl) hf)⟩
  · exact hQ _ _ H1 K1 q1 ⟨s1, i1.same, i1.keep, i1.low⟩ (show Rep K mg H1 .non .non from rep_non)
  · exact hQ _ _ H1 K1 q1 ⟨s1, i1.same, i1.keep, i1.low⟩ (RepR.t (C := ⟨H0, H, []⟩) r1)
  · exact hE _ H1 K1 cls d q1 ⟨s1, i1.same, i1.keep, i1.low⟩ r1
theorem start_b {N : List Str} {C : Cfg} {a : Addr} {t : Tg} {es ds : List D} {us vs : List V} {H0 H : Hp} (s : Same H0 H) (hC : C = ⟨H0, H, [a]⟩) (h0 : H0 a = none) (hn : NodeM mg H t a us) (hu : RepL K mg H0 es us) (r : RepL K mg H0 ds vs) :
    I K mg C H0 H (L2.start N (.ref a :: vs)) (startB N.length a t es ds) := by
  subst hC
  have el := r.length
  refine ⟨s, Same.refl _, fun b o h _ => h, fun b o h n => n, fun b h => (List.mem_singleton.mp h) ▸ hn.some, ?_, fun i => ?_, fun i j b l tx ds' l' t' ds'' e1 e2 => ?_⟩
  · unfold L2.start startB
    simp [el]; omega
  · unfold L2.start startB
    cases i with
    | zero => exact ⟨rfl, h0, fun z => Bool.noConfusion z, fun _ => List.mem_singleton.mpr rfl, us, hn, hu⟩
    | succ i =>
      rw [List.getElem?_cons_succ, List.map_cons, List.cons_append, List.getElem?_cons_succ]
      by_cases h : i < ds.length
      · rw [List.getElem?_append_left (by simpa using h), List.getElem?_append_left (by simp; omega), List.getElem?_map, List.getElem?_map]
        cases e : ds[i]? with
        | none => simp at e; omega
        | some d =>
          obtain ⟨v, h1, h2⟩ := r.get e
          rw [h1]
          exact ⟨v, rfl, h2⟩
      · rw [List.getElem?_append_right (by simp; omega), List.getElem?_replicate]
        split
        · trivial
        · trivial
  · have k2 : ∀ (i : Nat) b l t2 ds', (startB N.length a t es ds)[i]? = some (S.ow b l t2 ds') → i = 0 := fun i b l t2 ds' e => by
      cases i with
      | zero => rfl
      | succ i =>
        unfold startB at e
        rw [List.getElem?_cons_succ] at e
        by_cases h : i < ds.length
        · rw [List.getElem?_append_left (by simpa using h), List.getElem?_map] at e
          cases e' : ds[i]? with
          | none => rw [e'] at e; cases e
          | some d => rw [e'] at e; cases e
        · rw [List.getElem?_append_right (by simp; omega), List.getElem?_replicate] at e
          split at e <;> cases e
    rw [k2 _ _ _ _ _ e1, k2 _ _ _ _ _ e2]
theorem okB {x qual : Str} {st : Stmt} {f : Addr} {fd : FuncData} {N ps : List Str} {k : Nat} (F : FunV K x qual st f fd) (S : FnScope N ps (defScope st)) (φ : SpB) (g : DS)
    (hb : ∀ (cdv : Value) (A : Around) (outer : List Env) (s : Shared) (H : Hp) (E : XK), RoomG k (A.deeper (envOfC qual (defScope st) s.heap.objs.size f cdv)) →
      PSsD (cxOf (L2.CX P w) P w K mg base N qual (defScope st) f cdv A outer s H E) (fun cls d _ H => E cls d H) (defBody st) g)
    (hφ : ∀ a t es ds Ex Q, ds.length + 1 = ps.length → φ t es ds Ex Q → g (endsB a Ex Q) (startB N.length a t es ds)) : FnG P w K mg base (k + 1) f fd ps (toB K mg ps.length φ) := by
  refine Fun.okG F S (fun vs H Q E h => h.1) (fun cdv A outer s H vs Q E hr h => ?_)
  obtain ⟨hl, H0, a, t, es, us, ws, ds, Ex', Q', rfl, sm, h0, hn, hu, r, hf, hE, hQ⟩ := h
  obtain ⟨tt, p, q⟩ := (hb cdv A outer s H E hr).ex
  have key : ∀ {st' : LS} {σ' : L2.St} {H1 K1 : Hp} {Qx : Tg → List D → Prop}, backB a st' Qx → I K mg ⟨H0, H, [a]⟩ H1 K1 σ' st' → ∃ t' es' us', Qx t' es' ∧ NodeM mg K1 t' a us' ∧ RepL K mg H1 es' us' := fun {st' σ' H1 K1 Qx} q1 i1 => by
    unfold backB at q1
    split at q1
    · rename_i a' l' t' es' e
      obtain ⟨rfl, q1⟩ := q1
      obtain ⟨_, _, _, _, us', e5, e6⟩ := i1.ow e
      exact ⟨t', es', us', q1, e5, e6⟩
    · exact q1.elim
  refine ⟨tt, p, q ⟨H0, H, [a]⟩ H0 H _ _ (endsB a Ex' Q') _ (start_b sm rfl h0 hn hu r) ⟨fun st' σ' H1 K1 q1 i1 s1 => ?_, fun _ _ _ _ z => z.elim, fun _ _ _ _ z => z.elim, fun r st' v σ' H1 K1 q1 i1 s1 r1 => ?_, fun er st' σ' H1 K1 cls d q1 i1 s1 r1 => ?_⟩ (hφ a t es ds Ex' Q' (by rw [← r.length]; simpa using hl) hf)⟩
  · obtain ⟨t', es', us', k1, k2, k3⟩ := key q1 i1
    exact hQ (.fz .non) t' es' us' _ H1 K1 k1 ⟨s1, i1.same, i1.keep, i1.low⟩ k2 k3 (show Rep K mg H1 .non .non from rep_non)
  · obtain ⟨t', es', us', k1, k2, k3⟩ := key q1 i1
    exact hQ _ t' es' us' _ H1 K1 k1 ⟨s1, i1.same, i1.keep, i1.low⟩ k2 k3 (RepR.t (C := ⟨H0, H, [a]⟩) r1)
  · obtain ⟨t', es', us', k1, k2, k3⟩ := key q1 i1
    exact hE _ t' es' us' H1 K1 cls d k1 ⟨s1, i1.same, i1.keep, i1.low⟩ k2 k3 r1
end
end PD

namespace PD
open PySem PySem.Spec PyProof.Rows L2
/-! ### operators -/
def fI (Cn : Int → Int → Prop) (g : Int → Int → Int) (x : D) (y : D) (Q : D → Prop) : Prop := match x, y with
  | .int i, .int j => Cn i j ∧ Q (.int (g i j))
  | _, _ => False
def fI0 (g : Int → Int → Int) (x : D) (y : D) (Q : D → Prop) : Prop := match x, y with
  | .int i, .int j => Q (.int (g i j))
  | _, _ => False
def fB (g : Int → Int → Bool) (x : D) (y : D) (Q : D → Prop) : Prop := match x, y with
  | .int i, .int j => Q (.bl (g i j))
  | _, _ => False
def fU (g : Int → Int) (x : D) (Q : D → Prop) : Prop := match x with
  | .int i => Q (.int (g i))
  | _ => False
mutual
def py : D → PyData
  | .non => .none
  | .bl b => .bool b
  | .int i => .int i
  | .str x => .str x
  | .glo _ => .dict []
  | .nd .tup ds => .tuple (pyL ds)
  | .nd .lst ds => .list (pyL ds)
  | .nd .scr ds => .list (pyL ds)
  | .nd (.dic _) _ => .dict []
  | .nd (.ins _ _) _ => .dict []
def pyL : List D → List PyData
  | [] => []
  | d :: ds => py d :: pyL ds
end
def fEq (x : D) (y : D) (Q : D → Prop) : Prop := (py x).plain = true ∧ (py y).plain = true ∧ min (py x).depth (py y).depth ≤ 60 ∧ Q (.bl (PyData.eqv (py x) (py y)))
def fNe (x : D) (y : D) (Q : D → Prop) : Prop := (py x).plain = true ∧ (py y).plain = true ∧ min (py x).depth (py y).depth ≤ 60 ∧ Q (.bl (!PyData.eqv (py x) (py y)))
def isNon : D → Bool
  | .non => true
  | _ => false
def fIsN (x : D) (y : D) (Q : D → Prop) : Prop := match y with
  | .non => Q (.bl (isNon x))
  | _ => False
def fIsNotN (x : D) (y : D) (Q : D → Prop) : Prop := match y with
  | .non => Q (.bl (!isNon x))
  | _ => False
def fIx (x : D) (y : D) (Q : D → Prop) : Prop := match x, y with
  | .nd .lst ds, .int k => (match geti ds k with | some d => Q d | none => False)
  | .nd .tup ds, .int k => (match geti ds k with | some d => Q d | none => False)
  | .nd .scr ds, .int k => (match geti ds k with | some d => Q d | none => False)
  | .str z, .int k => z.length ≤ sizeLine ∧ (match geti z.cps.toList k with | some c => Q (.str ⟨#[c]⟩) | none => False)
  | _, _ => False
def fAbs (xs : List D) (Q : D → Prop) : Prop := match xs with
  | [.int i] => Q (.int (if i < 0 then -i else i))
  | _ => False
def fMax2 (xs : List D) (Q : D → Prop) : Prop := match xs with
  | [.int i, .int j] => Q (.int (if j > i then j else i))
  | _ => False
def fMin2 (xs : List D) (Q : D → Prop) : Prop := match xs with
  | [.int i, .int j] => Q (.int (if j < i then j else i))
  | _ => False
def fInt (xs : List D) (Q : D → Prop) : Prop := match xs with
  | [.int i] => Q (.int i)
  | [.bl k] => Q (.int (if k then 1 else 0))
  | _ => False
def fLen (xs : List D) (Q : D → Prop) : Prop := match xs with
  | [.nd .lst ds] => Q (.int (ds.length : Nat))
  | [.nd .tup ds] => Q (.int (ds.length : Nat))
  | [.nd .scr ds] => Q (.int (ds.length : Nat))
  | [.str z] => z.length ≤ sizeLine ∧ Q (.int (z.length : Nat))
  | _ => False
def fSum (xs : List D) (Q : D → Prop) : Prop := match xs with
  | [.nd .lst ds] => ∃ ns : List Int, ds = ns.map D.int ∧ Q (.int ns.sum)
  | _ => False
/-- the name of a value's type -/
def tyN : D → String
  | .non => "NoneType"
  | .bl _ => "bool"
  | .int _ => "int"
  | .str _ => "str"
  | .glo _ => ""
  | .nd .tup _ => "tuple"
  | .nd .lst _ => "list"
  | .nd .scr _ => "list"
  | .nd (.dic _) _ => "dict"
  | .nd (.ins _ _) _ => ""
def fIsi (T : String) (x : D) (Q : D → Prop) : Prop := match kitB (tyN x) T, tyN x == "" with
  | some b, false => Q (.bl b)
  | _, _ => False

section
variable {X : Cx}
theorem opd_i {F : Value → Value → Sem Value} {Cn : Int → Int → Prop} {g : Int → Int → Int} (h : OpR X F (rI Cn fun i j => .int (g i j))) : OpD X F (fI Cn g) :=
  ⟨_, h, fun H0 H x y v u Q Qv s rx ry hf k => by
    unfold fI at hf
    split at hf
    · cases rx.int; cases ry.int
      exact ⟨_, _, rfl, rfl, hf.1, k _ _ hf.2 rep_int⟩
    · exact hf.elim⟩
theorem opd_i0 {F : Value → Value → Sem Value} {g : Int → Int → Int} (h : OpR X F (rI0 fun i j => .int (g i j))) : OpD X F (fI0 g) :=
  ⟨_, h, fun H0 H x y v u Q Qv s rx ry hf k => by
    unfold fI0 at hf
    split at hf
    · cases rx.int; cases ry.int
      exact ⟨_, _, rfl, rfl, k _ _ hf rep_int⟩
    · exact hf.elim⟩
theorem opd_b {F : Value → Value → Sem Value} {g : Int → Int → Bool} (h : OpR X F (rI0 fun i j => .bl (g i j))) : OpD X F (fB g) :=
  ⟨_, h, fun H0 H x y v u Q Qv s rx ry hf k => by
    unfold fB at hf
    split at hf
    · cases rx.int; cases ry.int
      exact ⟨_, _, rfl, rfl, k _ _ hf rep_bl⟩
    · exact hf.elim⟩
def MulOk (i j : Int) : Prop := IntMulOk i j
theorem op_mulA : OpR X (binaryOp .Mult) (rI MulOk fun i j => .int (i * j)) := opI fun _ _ _ _ _ _ _ hc q => mul_int q hc
def DivOk (i j : Int) : Prop := j ≠ 0 ∧ j.natAbs.log2 < 9000
theorem op_fdivA : OpR X (binaryOp .FloorDiv) (rI DivOk fun i j => .int (i.fdiv j)) := opI fun i j _ _ _ _ _ hc q => floordiv_int hc.1 q (.inl (PyProof.noPylong_of_log2 hc.2))
def fAdd : F2 := fI0 fun i j => i + j
def fSub : F2 := fI0 fun i j => i - j
def fMul : F2 := fI MulOk fun i j => i * j
def fDiv : F2 := fI DivOk Int.fdiv
def fMod : F2 := fI (fun _ j => j ≠ 0) Int.fmod
def fPow : F2 := fI CPow fun i j => i ^ j.toNat
def fLt : F2 := fB fun i j => decide (i < j)
def fLe : F2 := fB fun i j => decide (i ≤ j)
def fGt : F2 := fB fun i j => decide (j < i)
def fGe : F2 := fB fun i j => decide (j ≤ i)
def fNeg : F1 := fU fun i => -i
theorem o_add : OpD X (binaryOp .Add) fAdd := opd_i0 op_add
theorem o_sub : OpD X (binaryOp .Sub) fSub := opd_i0 op_sub
theorem o_mul : OpD X (binaryOp .Mult) fMul := opd_i op_mulA
theorem o_div : OpD X (binaryOp .FloorDiv) fDiv := opd_i op_fdivA
theorem o_mod : OpD X (binaryOp .Mod) fMod := opd_i op_modN
theorem o_pow : OpD X (binaryOp .Pow) fPow := opd_i op_pow
theorem o_lt : OpD X (compareOp .Lt) fLt := opd_b op_lt
theorem o_le : OpD X (compareOp .LtE) fLe := opd_b op_le
theorem o_gt : OpD X (compareOp .Gt) fGt := opd_b op_gt
theorem o_ge : OpD X (compareOp .GtE) fGe := opd_b op_ge
theorem o_neg : UnD X (unaryOp .USub) fNeg := ⟨_, un_neg, fun H0 H x v Q Qv s rx hf k => by
    unfold fNeg fU at hf
    split at hf
    · cases rx.int
      exact ⟨_, rfl, k _ _ hf rep_int⟩
    · exact hf.elim⟩
mutual
theorem Rep.dp {K : PySem.W.Frag} {mg : Str → Option Value} {H0 H : Hp} (s : Same H0 H) : ∀ (d : D) (v : V), (py d).plain = true → Rep K mg H0 d v → Dp K H v (py d)
  | .non, v, _, h => by cases h.non; exact Dp.non
  | .bl b, v, _, h => by cases h.bl; exact Dp.bl b
  | .int b, v, _, h => by cases h.int; exact Dp.int b
  | .str b, v, _, h => by cases h.str; exact Dp.str b
  | .glo _, _, p, _ => by simp [py, PyData.plain] at p
  | .nd (.dic _) _, _, p, _ => by simp [py, PyData.plain] at p
  | .nd (.ins _ _) _, _, p, _ => by simp [py, PyData.plain] at p
  | .nd .tup ds, v, p, h => by
    obtain ⟨a, vs, rfl, h2, h3⟩ := h.nd
    rw [py]
    exact Dp.tup (SqT.mono s h2) (RepL.dp s ds vs (by rw [py, PyData.plain] at p; exact p) h3)
  | .nd .lst ds, v, p, h => by
    obtain ⟨a, vs, rfl, h2, h3⟩ := h.nd
    rw [py]
    exact Dp.lst (s.seq (SqL.of h2)) (RepL.dp s ds vs (by rw [py, PyData.plain] at p; exact p) h3)
  | .nd .scr ds, v, p, h => by
    obtain ⟨a, vs, rfl, h2, h3⟩ := h.nd
    rw [py]
    exact Dp.lst (s.seq h2) (RepL.dp s ds vs (by rw [py, PyData.plain] at p; exact p) h3)
theorem RepL.dp {K : PySem.W.Frag} {mg : Str → Option Value} {H0 H : Hp} (s : Same H0 H) : ∀ (ds : List D) (vs : List V), PyData.plainAll (pyL ds) = true → RepL K mg H0 ds vs → DpAll K H vs (pyL ds)
  | [], vs, _, h => by cases h.nil; rw [pyL]; exact DpAll.nil
  | d :: ds, vs, p, h => by
    obtain ⟨v, r, rfl, h2, h3⟩ := h.cons
    rw [pyL] at p ⊢
    rw [PyData.plainAll, Bool.and_eq_true] at p
    exact DpAll.cons (Rep.dp s d v p.1 h2) (RepL.dp s ds r p.2 h3)
end
def rEqP (K : PySem.W.Frag) : R2 := fun x y H Q => ∃ d e, Dp K H x d ∧ Dp K H y e ∧ d.plain = true ∧ e.plain = true ∧ min d.depth e.depth ≤ 60 ∧ Q (.bl (PyData.eqv d e)) H
def rNeP (K : PySem.W.Frag) : R2 := fun x y H Q => ∃ d e, Dp K H x d ∧ Dp K H y e ∧ d.plain = true ∧ e.plain = true ∧ min d.depth e.depth ≤ 60 ∧ Q (.bl (!PyData.eqv d e)) H
theorem op_eqP (hu : X.A.units + 64 < cLine) : OpR X (compareOp .Eq) (rEqP X.K) := by
  intro pins s σ H x y v u Q I rx ry h
  obtain ⟨d, e, hd, he, sd, se, hm, q⟩ := h
  obtain ⟨as, r1⟩ := Dp.reads I d x v hd rx
  obtain ⟨bs, r2⟩ := Dp.reads I e y u he ry
  exact PySem.SeqAt.eq_plain r1 r2 sd se (by omega) ⟨.bl _, H, I, rfl, q⟩
theorem op_neP (hu : X.A.units + 64 < cLine) : OpR X (compareOp .NotEq) (rNeP X.K) := by
  intro pins s σ H x y v u Q I rx ry h
  obtain ⟨d, e, hd, he, sd, se, hm, q⟩ := h
  obtain ⟨as, r1⟩ := Dp.reads I d x v hd rx
  obtain ⟨bs, r2⟩ := Dp.reads I e y u he ry
  exact PySem.SeqAt.ne_plain r1 r2 sd se (by omega) ⟨.bl _, H, I, rfl, q⟩
theorem o_eq {k : Nat} (hr : Room k X.A) : OpD X (compareOp .Eq) fEq := ⟨_, op_eqP hr.units, fun H0 H x y v u Q Qv s rx ry hf k =>
  ⟨_, _, Rep.dp s x v hf.1 rx, Rep.dp s y u hf.2.1 ry, hf.1, hf.2.1, hf.2.2.1, k _ _ hf.2.2.2 rep_bl⟩⟩
theorem o_ne {k : Nat} (hr : Room k X.A) : OpD X (compareOp .NotEq) fNe := ⟨_, op_neP hr.units, fun H0 H x y v u Q Qv s rx ry hf k =>
  ⟨_, _, Rep.dp s x v hf.1 rx, Rep.dp s y u hf.2.1 ry, hf.1, hf.2.1, hf.2.2.1, k _ _ hf.2.2.2 rep_bl⟩⟩
theorem Rep.isN {K : PySem.W.Frag} {mg : Str → Option Value} {H : Hp} {d : D} {v : V} (h : Rep K mg H d v) : decide (v = V.non) = isNon d := by
  cases d with
  | non => cases h.non; rfl
  | bl b => cases h.bl; rfl
  | int b => cases h.int; rfl
  | str b => cases h.str; rfl
  | glo x => unfold Rep at h; obtain ⟨a, _, rfl⟩ := h; rfl
  | nd t ds => obtain ⟨a, vs, rfl, _⟩ := h.nd; rfl
theorem o_isN : OpD X (compareOp .Is) fIsN := ⟨_, op_isN, fun H0 H x y v u Q Qv s rx ry hf k => by
  unfold fIsN at hf
  split at hf
  · cases ry.non
    exact ⟨rfl, k _ _ hf (by rw [← rx.isN]; exact rep_bl)⟩
  · exact hf.elim⟩
theorem o_isNotN : OpD X (compareOp .IsNot) fIsNotN := ⟨_, op_notN, fun H0 H x y v u Q Qv s rx ry hf k => by
  unfold fIsNotN at hf
  split at hf
  · cases ry.non
    exact ⟨rfl, k _ _ hf (by rw [← rx.isN]; exact rep_bl)⟩
  · exact hf.elim⟩
theorem atI_rep {K : PySem.W.Frag} {mg : Str → Option Value} {H : Hp} {ds : List D} {vs : List V} {k : Int} {d : D} (r : RepL K mg H ds vs) (e : geti ds k = some d) : ∃ w, atI vs k = some w ∧ Rep K mg H d w := by
  rw [← atI_geti] at e
  obtain ⟨j, hj, hd⟩ := Option.bind_eq_some_iff.mp e
  obtain ⟨w, hw, rw'⟩ := r.get hd
  refine ⟨w, ?_, rw'⟩
  unfold atI
  rw [r.length, hj]
  exact hw
theorem o_ix : IxD X fIx := ⟨_, ix_seq, fun H0 H x y v u Q Qv s rx ry hf k => by
  unfold fIx at hf
  split at hf
  · split at hf
    · rename_i e
      obtain ⟨a, vs, rfl, h2, h3⟩ := rx.nd
      cases ry.int
      obtain ⟨w, h4, h5⟩ := atI_rep h3 e
      exact .inl ⟨a, vs, _, w, rfl, rfl, s.seq (SqL.of h2), h4, k _ _ hf h5⟩
    · exact hf.elim
  · split at hf
    · rename_i e
      obtain ⟨a, vs, rfl, h2, h3⟩ := rx.nd
      cases ry.int
      obtain ⟨w, h4, h5⟩ := atI_rep h3 e
      exact .inr (.inl ⟨a, vs, _, w, rfl, rfl, SqT.mono s h2, h4, k _ _ hf h5⟩)
    · exact hf.elim
  · split at hf
    · rename_i e
      obtain ⟨a, vs, rfl, h2, h3⟩ := rx.nd
      cases ry.int
      obtain ⟨w, h4, h5⟩ := atI_rep h3 e
      exact .inl ⟨a, vs, _, w, rfl, rfl, s.seq h2, h4, k _ _ hf h5⟩
    · exact hf.elim
  · obtain ⟨hz, hf⟩ := hf
    split at hf
    · rename_i e
      cases rx.str
      cases ry.int
      exact .inr (.inr ⟨_, _, _, rfl, rfl, hz, by rw [atI_geti]; exact e, k _ _ hf rep_str⟩)
    · exact hf.elim
  · exact hf.elim⟩
theorem RepL.one {K : PySem.W.Frag} {mg : Str → Option Value} {H : Hp} {d : D} {vs : List V} (h : RepL K mg H [d] vs) : ∃ v, vs = [v] ∧ Rep K mg H d v := by
  obtain ⟨v, r, rfl, h2, h3⟩ := h.cons
  cases h3.nil
  exact ⟨v, rfl, h2⟩
theorem RepL.two {K : PySem.W.Frag} {mg : Str → Option Value} {H : Hp} {d e : D} {vs : List V} (h : RepL K mg H [d, e] vs) : ∃ v u, vs = [v, u] ∧ Rep K mg H d v ∧ Rep K mg H e u := by
  obtain ⟨v, r, rfl, h2, h3⟩ := h.cons
  obtain ⟨u, rfl, h4⟩ := h3.one
  exact ⟨v, u, rfl, h2, h4⟩
theorem c_abs : CallD X (.builtin "abs") fAbs := ⟨_, call_abs, fun H0 H xs vs Q Qv s r hf k => by
  unfold fAbs at hf
  split at hf
  · obtain ⟨v, rfl, h⟩ := r.one
    cases h.int
    exact ⟨_, rfl, k _ _ hf rep_int⟩
  · exact hf.elim⟩
theorem c_max2 (hc : X.calm = true) : CallD X (.builtin "max") fMax2 := ⟨_, call_max2 hc, fun H0 H xs vs Q Qv s r hf k => by
  unfold fMax2 at hf
  split at hf
  · obtain ⟨v, u, rfl, h, h'⟩ := r.two
    cases h.int; cases h'.int
    exact ⟨_, _, rfl, k _ _ hf rep_int⟩
  · exact hf.elim⟩
theorem c_min2 (hc : X.calm = true) : CallD X (.builtin "min") fMin2 := ⟨_, call_min2 hc, fun H0 H xs vs Q Qv s r hf k => by
  unfold fMin2 at hf
  split at hf
  · obtain ⟨v, u, rfl, h, h'⟩ := r.two
    cases h.int; cases h'.int
    exact ⟨_, _, rfl, k _ _ hf rep_int⟩
  · exact hf.elim⟩
theorem c_int : CallD X (.type "int") fInt := ⟨_, call_int1, fun H0 H xs vs Q Qv s r hf k => by
  unfold fInt at hf
  split at hf
  · obtain ⟨v, rfl, h⟩ := r.one
    cases h.int
    exact .inl ⟨_, rfl, k _ _ hf rep_int⟩
  · obtain ⟨v, rfl, h⟩ := r.one
    cases h.bl
    exact .inr ⟨_, rfl, k _ _ hf rep_int⟩
  · exact hf.elim⟩
theorem c_len : CallD X (.builtin "len") fLen := ⟨_, call_len, fun H0 H xs vs Q Qv s r hf k => by
  unfold fLen at hf
  split at hf
  · obtain ⟨v, rfl, h⟩ := r.one
    obtain ⟨a, vs, rfl, h2, h3⟩ := h.nd
    exact ⟨_, _, rfl, .inl ⟨vs, s.seq (SqL.of h2), rfl⟩, by rw [h3.length]; exact k _ _ hf rep_int⟩
  · obtain ⟨v, rfl, h⟩ := r.one
    obtain ⟨a, vs, rfl, h2, h3⟩ := h.nd
    exact ⟨_, _, rfl, .inr ⟨vs, SqT.mono s h2, rfl⟩, by rw [h3.length]; exact k _ _ hf rep_int⟩
  · obtain ⟨v, rfl, h⟩ := r.one
    obtain ⟨a, vs, rfl, h2, h3⟩ := h.nd
    exact ⟨_, _, rfl, .inl ⟨vs, s.seq h2, rfl⟩, by rw [h3.length]; exact k _ _ hf rep_int⟩
  · obtain ⟨v, rfl, h⟩ := r.one
    cases h.str
    exact ⟨_, _, rfl, ⟨hf.1, rfl⟩, k _ _ hf.2 rep_int⟩
  · exact hf.elim⟩
theorem RepL.ints {K : PySem.W.Frag} {mg : Str → Option Value} {H : Hp} : ∀ {ns : List Int} {vs : List V}, RepL K mg H (ns.map D.int) vs → vs = ns.map V.int
  | [], _, h => h.nil
  | n :: ns, _, h => by
    obtain ⟨v, r, rfl, h2, h3⟩ := RepL.cons (d := .int n) (ds := ns.map D.int) h
    cases h2.int
    rw [RepL.ints h3]
    rfl
theorem repL_ints {K : PySem.W.Frag} {mg : Str → Option Value} {H : Hp} : ∀ (ns : List Int), RepL K mg H (ns.map D.int) (ns.map V.int)
  | [] => repL_nil
  | n :: ns => repL_cons rep_int (repL_ints ns)
theorem c_sum (hc : X.calm = true) : CallD X (.builtin "sum") fSum := ⟨_, cr_sum hc, fun H0 H xs vs Q Qv s r hf k => by
  unfold fSum at hf
  split at hf
  · obtain ⟨ns, rfl, hf⟩ := hf
    obtain ⟨v, rfl, h⟩ := r.one
    obtain ⟨a, vs, rfl, h2, h3⟩ := h.nd
    cases h3.ints
    exact ⟨a, ns, rfl, s.seq (SqL.of h2), k _ _ hf rep_int⟩
  · exact hf.elim⟩
theorem Rep.ty {K : PySem.W.Frag} {mg : Str → Option Value} {H0 H : Hp} (s : Same H0 H) {d : D} {v : V} (h : Rep K mg H0 d v) (n : (tyN d == "") = false) : TyX K H v (.type (tyN d)) := by
  cases d with
  | non => cases h.non; exact .base .non
  | bl b => cases h.bl; exact .base (.bl b)
  | int b => cases h.int; exact .base (.int b)
  | str b => cases h.str; exact .base (.str b)
  | glo x => simp [tyN] at n
  | nd t ds =>
    obtain ⟨a, vs, rfl, h2, h3⟩ := h.nd
    cases t with
    | tup =>
      rcases h2 with (h2 | ⟨o, h2⟩) | ⟨o, its, k, h2, h4, _⟩
      · exact .base (.tup (s _ _ h2))
      · exact .fTuple (s _ _ h2)
      · exact .kTuple h2 h4
    | lst => exact .base (.lst (s _ _ h2))
    | scr =>
      rcases h2 with (h2 | ⟨o, h2⟩) | ⟨o, its, k, h2, h4, _⟩
      · exact .base (.lst (s _ _ h2))
      · exact .base (.frz (s _ _ h2))
      · exact .kList h2 h4
    | dic ks =>
      rcases h2.2 with h2 | ⟨o, h2⟩
      · exact .base (.dK (s _ _ h2))
      · exact .fDict (s _ _ h2)
    | ins c fs => simp [tyN] at n
theorem ped_isi {W : WX} {e t : Expr} {g : DE} {T : String} {p pos : Pos} (h : PED X W e g) (ht : PE X t (tC (.ty T))) (hg : Gl X "isinstance") (hm : X.mg "isinstance" = none)
    (he : starEach (e :: [t]) X.env = (false, eval e X.env) :: starEach [t] X.env := by rfl) (he2 : starEach (t :: []) X.env = (false, eval t X.env) :: starEach [] X.env := by rfl) (hpl : (backTo pos (starEach [t] X.env)).any (·.1) = false := by rfl) :
    PED X W (.Call (.Name "isinstance" p) [e, t] [] pos) (dUn (fIsi T) g) := by
  obtain ⟨ta, pa, qa⟩ := h.ex
  refine ⟨_, pe_callB call_isi hg hm PyProof.Rows.boot_isinstance (pa_cons pa (pa_cons ht pa_nil he2) he) (by decide) (by decide) he hpl, fun C H0 H σ st Ex Q Qv hI hX hQ hg => qa C H0 H σ st Ex _ _ hI hX (fun x st1 v H1 K1 q1 i1 s1 r1 => ?_) hg⟩
  unfold fIsi at q1
  split at q1
  · rename_i b hk hn
    exact ⟨v, _, _, _, b, rfl, .ty T, r1.ty i1.same hn, kit_ty hk, hQ _ st1 _ H1 K1 q1 i1 s1 rep_bl⟩
  · exact q1.elim
/-! slices -/
abbrev DP := DX → LS → (Option Int → LS → Prop) → Prop
def dNoP (_u0 : DX) (st : LS) (Q : Option Int → LS → Prop) : Prop := Q none st
def dSomeP (g : DE) (Ex : DX) (st : LS) (Q : Option Int → LS → Prop) : Prop := g Ex st fun d st1 => match d with
  | .int i => Q (some i) st1
  | _ => False
structure POD' (X : Cx) (W : WX) (e : Option Expr) (g : DP) : Prop where
  ex : ∃ t, PO X e t ∧ ∀ (C : Cfg) (H0 H : Hp) (σ : L2.St) (st : LS) (Ex : DX) (Q : Option Int → LS → Prop) (Qv : Option Int → Hp → Prop), I X.K X.mg C H0 H σ st → LkX X.K X.mg C H0 σ W Ex →
    (∀ d st' H0' H', Q d st' → I X.K X.mg C H0' H' σ st' → Same H0 H0' → Qv d H') → g Ex st Q → t σ H Qv
theorem pp_none {W : WX} : POD' X W none dNoP := ⟨_, po_none, fun C H0 H σ st Ex Q Qv hI hX hQ hg => hQ none st H0 H hg hI (Same.refl _)⟩
theorem pp_some {W : WX} {e : Expr} {g : DE} (h : PED X W e g) : POD' X W (some e) (dSomeP g) := by
  obtain ⟨ta, pa, qa⟩ := h.ex
  refine ⟨_, po_some pa, fun C H0 H σ st Ex Q Qv hI hX hQ hg => qa C H0 H σ st Ex _ _ hI hX (fun x st1 v H1 K1 q1 i1 s1 r1 => ?_) hg⟩
  cases x with
  | int i => exact ⟨i, r1.int, hQ _ st1 H1 K1 q1 i1 s1⟩
  | _ => exact q1.elim
def cutD (xs : List D) (lo hi : Option Int) : List D := (xs.drop (HT.sIx xs.length 0 lo)).take (HT.sIx xs.length xs.length hi - HT.sIx xs.length 0 lo)
theorem cut_rep {K : PySem.W.Frag} {mg : Str → Option Value} {H : Hp} {ds : List D} {vs : List V} (lo hi : Option Int) (r : RepL K mg H ds vs) : RepL K mg H (cutD ds lo hi) (cutV vs lo hi) := by
  unfold cutD cutV
  rw [r.length]
  exact (r.drop _).take _
/-- a slice of a list -/
def dSlL (g : DE) (gl gh : DP) (Ex : DX) (st : LS) (Q : S → LS → Prop) : Prop := g Ex st fun x st1 => gl Ex st1 fun lo st2 => gh Ex st2 fun hi st3 => match x with
  | .nd .lst ds => ∀ a, Q (.ow a true .lst (cutD ds lo hi)) st3
  | .nd .scr ds => ∀ a, Q (.ow a true .lst (cutD ds lo hi)) st3
  | _ => False
theorem pod_slL {W : WX} {e : Expr} {lo hi : Option Expr} {g : DE} {gl gh : DP} {p2 pos : Pos} (h : PED X W e g) (hl : POD' X W lo gl) (hh : POD' X W hi gh) : POD X W (.Subscript e (.Slice lo hi none p2) pos) (dSlL g gl gh) := by
  obtain ⟨ta, pa, qa⟩ := h.ex
  obtain ⟨tl, pl, ql⟩ := hl.ex
  obtain ⟨th, ph, qh⟩ := hh.ex
  refine ⟨_, pe_slice sl_list pa pl ph, fun C H0 H σ st Ex Q Qv hI hX hQ hg => qa C H0 H σ st Ex _ _ hI hX (fun x st1 v H1 K1 q1 i1 s1 r1 => ?_) hg⟩
  refine ql C H1 K1 σ st1 Ex _ _ i1 (hX.up s1) (fun lo st2 H2 K2 q2 i2 s2 => ?_) q1
  refine qh C H2 K2 σ st2 Ex _ _ i2 (hX.up (s1.trans s2)) (fun hi st3 H3 K3 q3 i3 s3 => ?_) q2
  split at q3
  · obtain ⟨a, vs, rfl, h2, h3⟩ := r1.nd
    refine ⟨a, vs, rfl, i3.same.seq (SqL.of (s3 _ _ (s2 _ _ h2))), fun p hp => ?_⟩
    obtain ⟨i4, r4⟩ := i3.made (o := .lst (cutV vs lo hi)) (t := .lst) hp upd_same (RepL.mono (s2.trans s3) _ _ (cut_rep lo hi h3))
    exact hQ _ st3 _ H3 _ (q3 p) i4 (s1.trans (s2.trans s3)) r4
  · obtain ⟨a, vs, rfl, h2, h3⟩ := r1.nd
    refine ⟨a, vs, rfl, i3.same.seq (s3.seq (s2.seq h2)), fun p hp => ?_⟩
    obtain ⟨i4, r4⟩ := i3.made (o := .lst (cutV vs lo hi)) (t := .lst) hp upd_same (RepL.mono (s2.trans s3) _ _ (cut_rep lo hi h3))
    exact hQ _ st3 _ H3 _ (q3 p) i4 (s1.trans (s2.trans s3)) r4
  · exact q3.elim
end
end PD

namespace PD
open PySem PySem.Spec PyProof.Rows L2
/-! ### fractions: the mathematics -/
def sg (d : Int) : Int := if 0 < d then 1 else -1
def gd (n d : Int) : Int := (Int.gcd n d : Int) * sg d
def rN (n d : Int) : Int := n.fdiv (gd n d)
def rD (n d : Int) : Int := d.fdiv (gd n d)
theorem gcd_pos {n d : Int} (h : d ≠ 0) : 0 < Int.gcd n d := Int.gcd_pos_of_ne_zero_right n h
theorem sg_cases (d : Int) : sg d = 1 ∨ sg d = -1 := by unfold sg; split <;> simp
theorem gd_ne {n d : Int} (h : d ≠ 0) : gd n d ≠ 0 := by
  have := gcd_pos (n := n) h
  unfold gd
  rcases sg_cases d with e | e <;> rw [e] <;> omega
theorem gd_dvd_left (n d : Int) : gd n d ∣ n := by
  unfold gd
  rcases sg_cases d with e | e <;> rw [e]
  · rw [Int.mul_one]; exact Int.gcd_dvd_left n d
  · rw [Int.mul_neg, Int.mul_one]; exact Int.neg_dvd.mpr (Int.gcd_dvd_left n d)
theorem gd_dvd_right (n d : Int) : gd n d ∣ d := by
  unfold gd
  rcases sg_cases d with e | e <;> rw [e]
  · rw [Int.mul_one]; exact Int.gcd_dvd_right n d
  · rw [Int.mul_neg, Int.mul_one]; exact Int.neg_dvd.mpr (Int.gcd_dvd_right n d)
theorem fdiv_mul {a b : Int} (h : b ∣ a) : a.fdiv b * b = a := by
  rw [Int.fdiv_eq_ediv_of_dvd h]
  exact Int.ediv_mul_cancel h
theorem rN_mul (n d : Int) : rN n d * gd n d = n := fdiv_mul (gd_dvd_left n d)
theorem rD_mul (n d : Int) : rD n d * gd n d = d := fdiv_mul (gd_dvd_right n d)
theorem gd_pos_iff {n d : Int} (h : d ≠ 0) : (0 < gd n d ↔ 0 < d) := by
  have hg := gcd_pos (n := n) h
  unfold gd sg
  split
  · constructor
    · intro _; assumption
    · intro _; omega
  · constructor
    · intro q; omega
    · intro q; contradiction
theorem rD_pos {n d : Int} (h : d ≠ 0) : 0 < rD n d := by
  have e := rD_mul n d
  have hp := gd_pos_iff (n := n) h
  by_cases hd : 0 < d
  · have hg := hp.mpr hd
    by_cases h0 : 0 < rD n d
    · exact h0
    · exfalso
      have h1 : rD n d ≤ 0 := by omega
      have h2 : rD n d * gd n d ≤ 0 := Int.mul_nonpos_of_nonpos_of_nonneg h1 (by omega)
      omega
  · have hg : gd n d < 0 := by
      have := gd_ne (n := n) h
      by_cases q : 0 < gd n d
      · exact absurd (hp.mp q) hd
      · omega
    by_cases h0 : 0 < rD n d
    · exact h0
    · exfalso
      have h1 : rD n d ≤ 0 := by omega
      have h2 : 0 ≤ rD n d * gd n d := Int.mul_nonneg_of_nonpos_of_nonpos h1 (by omega)
      omega
theorem gd_abs (n d : Int) : (gd n d).natAbs = Int.gcd n d := by
  unfold gd
  rcases sg_cases d with e | e <;> rw [e, Int.natAbs_mul] <;> simp
theorem red_gcd {n d : Int} (h : d ≠ 0) : Int.gcd (rN n d) (rD n d) = 1 := by
  have e1 := rN_mul n d
  have e2 := rD_mul n d
  have k : Int.gcd (rN n d * gd n d) (rD n d * gd n d) = Int.gcd (rN n d) (rD n d) * (gd n d).natAbs := Int.gcd_mul_right ..
  rw [e1, e2, gd_abs] at k
  have hg := gcd_pos (n := n) h
  have k2 : 1 * Int.gcd n d = Int.gcd (rN n d) (rD n d) * Int.gcd n d := by rw [Nat.one_mul]; exact k
  exact (Nat.eq_of_mul_eq_mul_right hg k2).symm
theorem rN_abs {n d : Int} (h : d ≠ 0) : (rN n d).natAbs ≤ n.natAbs := by
  have e := congrArg Int.natAbs (rN_mul n d)
  rw [Int.natAbs_mul, gd_abs] at e
  have hg := gcd_pos (n := n) h
  rw [← e]
  exact Nat.le_mul_of_pos_right _ hg
theorem rD_abs {n d : Int} (h : d ≠ 0) : (rD n d).natAbs ≤ d.natAbs := by
  have e := congrArg Int.natAbs (rD_mul n d)
  rw [Int.natAbs_mul, gd_abs] at e
  have hg := gcd_pos (n := n) h
  rw [← e]
  exact Nat.le_mul_of_pos_right _ hg
theorem red_cross (n d : Int) : rN n d * d = n * rD n d := by
  have e1 := rN_mul n d
  have e2 := rD_mul n d
  calc rN n d * d = rN n d * (rD n d * gd n d) := by rw [e2]
    _ = rN n d * gd n d * rD n d := by rw [Int.mul_assoc, Int.mul_comm (rD n d)]
    _ = n * rD n d := by rw [e1]
theorem red_unique {a b c d : Int} (hb : 0 < b) (hd : 0 < d) (h1 : Int.gcd a b = 1) (h2 : Int.gcd c d = 1) (e : a * d = c * b) : a = c ∧ b = d := by
  have k1 : b ∣ a * d := ⟨c, by rw [e, Int.mul_comm]⟩
  have k2 : d ∣ c * b := ⟨a, by rw [← e, Int.mul_comm]⟩
  have n1 : b.natAbs ∣ a.natAbs * d.natAbs := by rw [← Int.natAbs_mul]; exact Int.natAbs_dvd_natAbs.mpr k1
  have n2 : d.natAbs ∣ c.natAbs * b.natAbs := by rw [← Int.natAbs_mul]; exact Int.natAbs_dvd_natAbs.mpr k2
  have c1 : Nat.Coprime b.natAbs a.natAbs := by
    rw [Nat.coprime_comm]; exact h1
  have c2 : Nat.Coprime d.natAbs c.natAbs := by
    rw [Nat.coprime_comm]; exact h2
  have d1 : b.natAbs ∣ d.natAbs := c1.dvd_of_dvd_mul_left n1
  have d2 : d.natAbs ∣ b.natAbs := c2.dvd_of_dvd_mul_left n2
  have e3 : b.natAbs = d.natAbs := Nat.dvd_antisymm d1 d2
  have e4 : b = d := by omega
  refine ⟨?_, e4⟩
  subst e4
  exact Int.eq_of_mul_eq_mul_right (by omega) e
/-- the same value, the same reduced form -/
theorem red_eq {n d n' d' : Int} (h : d ≠ 0) (h' : d' ≠ 0) (e : n * d' = n' * d) : rN n d = rN n' d' ∧ rD n d = rD n' d' := by
  refine red_unique (rD_pos h) (rD_pos h') (red_gcd h) (red_gcd h') ?_
  -- rN n d * rD n' d' = rN n' d' * rD n d ; multiply by gd * gd'
  have g1 := gd_ne (n := n) h
  have g2 := gd_ne (n := n') h'
  have e1 := rN_mul n d
  have e2 := rD_mul n d
  have e3 := rN_mul n' d'
  have e4 := rD_mul n' d'
  have k : rN n d * rD n' d' * (gd n d * gd n' d') = rN n' d' * rD n d * (gd n d * gd n' d') := by
    have l : rN n d * rD n' d' * (gd n d * gd n' d') = (rN n d * gd n d) * (rD n' d' * gd n' d') := by
      simp only [Int.mul_assoc, Int.mul_comm, Int.mul_left_comm]
    have r : rN n' d' * rD n d * (gd n d * gd n' d') = (rN n' d' * gd n' d') * (rD n d * gd n d) := by
      simp only [Int.mul_assoc, Int.mul_comm, Int.mul_left_comm]
    rw [l, r, e1, e2, e3, e4, e]
  exact Int.eq_of_mul_eq_mul_right (Int.mul_ne_zero g1 g2) k
theorem red_self {a b : Int} (hb : 0 < b) (h : Int.gcd a b = 1) : rN a b = a ∧ rD a b = b := by
  refine red_unique (rD_pos (by omega)) hb (red_gcd (by omega)) h (red_cross a b)
/-! gcd by steps -/
theorem gcd_emod (a b : Int) : Int.gcd b (a % b) = Int.gcd a b := by
  rw [Int.gcd_comm b, Int.emod_def, Int.gcd_comm a]
  have : Int.gcd (a - b * (a / b)) b = Int.gcd a b := by
    rw [Int.gcd_sub_mul_left_left]
  rw [this, Int.gcd_comm]
theorem gcd_fmod (a b : Int) : Int.gcd b (a.fmod b) = Int.gcd a b := by
  rw [Int.gcd_comm b, Int.fmod_def, Int.gcd_sub_mul_left_left]
theorem fmod_lt_abs (a : Int) {b : Int} (h : b ≠ 0) : (a.fmod b).natAbs < b.natAbs := by
  have h1 := Int.emod_nonneg a h
  have h2 := Int.emod_lt a h
  rw [Int.fmod_eq_emod]
  split
  · omega
  · rename_i q
    have hb : ¬ 0 ≤ b := fun z => q (.inl z)
    have hd : a % b ≠ 0 := fun z => q (.inr (Int.dvd_of_emod_eq_zero z))
    omega
end PD

namespace PD
open PySem PySem.Spec PyProof.Rows L2
/-! ### sizes -/
def Bz (b : Nat) (x : Int) : Prop := x.natAbs < 2 ^ b
theorem Bz.mono {a b : Nat} {x : Int} (h : Bz a x) (l : a ≤ b) : Bz b x := Nat.lt_of_lt_of_le h (Nat.pow_le_pow_right (by decide) l)
theorem Bz.mul {a b : Nat} {x y : Int} (h : Bz a x) (k : Bz b y) : Bz (a + b) (x * y) := wide_lt h k
theorem Bz.add {a b c : Nat} {x y : Int} (h : Bz a x) (k : Bz b y) (ha : a < c) (hb : b < c) : Bz c (x + y) := by
  have h' : Bz (c - 1) x := h.mono (by omega)
  have k' : Bz (c - 1) y := k.mono (by omega)
  unfold Bz at *
  have e : 2 ^ c = 2 ^ (c - 1) + 2 ^ (c - 1) := by
    obtain ⟨m, rfl⟩ : ∃ m, c = m + 1 := ⟨c - 1, by omega⟩
    rw [Nat.add_sub_cancel, Nat.pow_succ]; omega
  omega
theorem Bz.neg {a : Nat} {x : Int} (h : Bz a x) : Bz a (-x) := by unfold Bz at *; omega
theorem Bz.sub {a b c : Nat} {x y : Int} (h : Bz a x) (k : Bz b y) (ha : a < c) (hb : b < c) : Bz c (x - y) := by
  rw [Int.sub_eq_add_neg]; exact h.add k.neg ha hb
theorem mulOk {a b : Nat} {x y : Int} (h : Bz a x) (k : Bz b y) (l : a + b ≤ 900000 := by decide) : MulOk x y :=
  (wide_mul (h.mono (Nat.le_succ a)) (k.mono (Nat.le_succ b)) (Nat.succ_pos _) (Nat.succ_pos _) (by omega)).ok
theorem mulSmallL {x y : Int} (h1 : -(2 ^ 64) < x) (h2 : x < 2 ^ 64) : MulOk x y := IntMulOk.of_left (intBits_le_64 h1 h2)
theorem mulSmallR {x y : Int} (h1 : -(2 ^ 64) < y) (h2 : y < 2 ^ 64) : MulOk x y := IntMulOk.of_right (intBits_le_64 h1 h2)
theorem divOk {b : Nat} {x y : Int} (h : y ≠ 0) (k : Bz b y) (l : b < 9000 := by decide) : DivOk x y :=
  ⟨h, Nat.lt_of_lt_of_le (PySem.Flt.log2_lt_of (Nat.succ_pos _) (k.mono (Nat.le_succ b))) (by omega)⟩
/-! ### fractions as data -/
abbrev fr (n d : Int) : D := .nd .tup [.int n, .int d]
abbrev rd (n d : Int) : D := fr (rN n d) (rD n d)
def num : D → Int
  | .nd .tup [.int n, .int _] => n
  | _ => 0
def den : D → Int
  | .nd .tup [.int _, .int d] => d
  | _ => 0
structure FrD (b : Nat) (x : D) : Prop where
  eq : x = fr (num x) (den x)
  pos : 0 < den x
  cop : Int.gcd (num x) (den x) = 1
  bn : Bz b (num x)
  bd : Bz b (den x)
theorem num_fr (n d : Int) : num (fr n d) = n := rfl
theorem den_fr (n d : Int) : den (fr n d) = d := rfl
theorem FrD.mk' {b : Nat} {n d : Int} (h1 : 0 < d) (h2 : Int.gcd n d = 1) (h3 : Bz b n) (h4 : Bz b d) : FrD b (fr n d) := ⟨rfl, h1, h2, h3, h4⟩
theorem FrD.mono {a b : Nat} {x : D} (h : FrD a x) (l : a ≤ b) : FrD b x := ⟨h.eq, h.pos, h.cop, h.bn.mono l, h.bd.mono l⟩
theorem FrD.rd {b : Nat} {n d : Int} (h : d ≠ 0) (h3 : Bz b n) (h4 : Bz b d) : FrD b (rd n d) :=
  ⟨rfl, rD_pos h, red_gcd h, Nat.lt_of_le_of_lt (rN_abs h) h3, Nat.lt_of_le_of_lt (rD_abs h) h4⟩
theorem FrD.ext {a b : Nat} {x y : D} (h : FrD a x) (k : FrD b y) (e : num x * den y = num y * den x) : x = y := by
  obtain ⟨e1, e2⟩ := red_unique h.pos k.pos h.cop k.cop e
  rw [h.eq, k.eq, e1, e2]
def addD (x y : D) : D := rd (num x * den y + num y * den x) (den x * den y)
def negD (x : D) : D := fr (-num x) (den x)
def mulD (x y : D) : D := rd (num x * num y) (den x * den y)
def divD (x y : D) : D := rd (num x * den y) (den x * num y)
def lessD (x y : D) : Bool := decide (num x * den y < num y * den x)
def eqF (x y : D) : Bool := num x == num y && den x == den y
theorem FrD.ne {b : Nat} {x : D} (h : FrD b x) : den x ≠ 0 := Int.ne_of_gt h.pos
theorem FrD.add {a b : Nat} {x y : D} (h : FrD a x) (k : FrD b y) : FrD (a + b + 1) (addD x y) :=
  .rd (Int.mul_ne_zero h.ne k.ne) ((h.bn.mul k.bd).add (k.bn.mul h.bd) (by omega) (by omega)) ((h.bd.mul k.bd).mono (by omega))
theorem FrD.mul {a b : Nat} {x y : D} (h : FrD a x) (k : FrD b y) : FrD (a + b) (mulD x y) :=
  .rd (Int.mul_ne_zero h.ne k.ne) (h.bn.mul k.bn) (h.bd.mul k.bd)
theorem FrD.neg {a : Nat} {x : D} (h : FrD a x) : FrD a (negD x) := ⟨rfl, h.pos, by show Int.gcd (-num x) (den x) = 1; rw [Int.neg_gcd]; exact h.cop, h.bn.neg, h.bd⟩
theorem FrD.div {a b : Nat} {x y : D} (h : FrD a x) (k : FrD b y) (z : num y ≠ 0) : FrD (a + b) (divD x y) :=
  .rd (Int.mul_ne_zero h.ne z) (h.bn.mul k.bd) (h.bd.mul k.bn)
theorem num_rd_cross (n d : Int) : num (rd n d) * d = n * den (rd n d) := red_cross n d
theorem eqF_iff {a b : Nat} {x y : D} (h : FrD a x) (k : FrD b y) : eqF x y = true ↔ x = y := by
  constructor
  · intro e
    unfold eqF at e
    simp only [Bool.and_eq_true, beq_iff_eq] at e
    rw [h.eq, k.eq, e.1, e.2]
  · rintro rfl
    unfold eqF; simp
theorem py_fr (n d : Int) : py (fr n d) = .tuple [.int n, .int d] := by simp [py, pyL]
theorem plain_fr {b : Nat} {x : D} (h : FrD b x) : (py x).plain = true := by rw [h.eq, py_fr]; simp [PyData.plain, PyData.plainAll]
theorem depth_fr {b : Nat} {x : D} (h : FrD b x) : (py x).depth ≤ 2 := by rw [h.eq, py_fr]; simp [PyData.depth, PyData.depthAll]
theorem eqv_fr {a b : Nat} {x y : D} (h : FrD a x) (k : FrD b y) : PyData.eqv (py x) (py y) = eqF x y := by
  rw [h.eq, k.eq, py_fr, py_fr]; simp [PyData.eqv, PyData.eqvAll, eqF, num, den]
theorem fEq_fr {a b : Nat} {x y : D} {Q : D → Prop} (h : FrD a x) (k : FrD b y) (q : Q (.bl (eqF x y))) : fEq x y Q :=
  ⟨plain_fr h, plain_fr k, by have := depth_fr h; omega, by rw [eqv_fr h k]; exact q⟩
theorem fNe_fr {a b : Nat} {x y : D} {Q : D → Prop} (h : FrD a x) (k : FrD b y) (q : Q (.bl (!eqF x y))) : fNe x y Q :=
  ⟨plain_fr h, plain_fr k, by have := depth_fr h; omega, by rw [eqv_fr h k]; exact q⟩
theorem fEq_int {x y : Int} {Q : D → Prop} (q : Q (.bl (x == y))) : fEq (.int x) (.int y) Q := by
  refine ⟨by simp [py, PyData.plain], by simp [py, PyData.plain], by simp [py, PyData.depth], ?_⟩
  rw [py, py, PyData.eqv]; exact q
theorem fNe_int {x y : Int} {Q : D → Prop} (q : Q (.bl (!(x == y)))) : fNe (.int x) (.int y) Q := by
  refine ⟨by simp [py, PyData.plain], by simp [py, PyData.plain], by simp [py, PyData.depth], ?_⟩
  rw [py, py, PyData.eqv]; exact q
/-! laws of arithmetic -/
theorem cross_cancel {a b c d e f : Int} (hf : f ≠ 0) (h1 : a * f = e * b) (h2 : c * f = e * d) (hb : b ≠ 0) (hd : d ≠ 0) : a * d = c * b := by
  -- a/b = e/f = c/d
  have k : a * d * f = c * b * f := by
    calc a * d * f = (a * f) * d := by simp only [Int.mul_assoc, Int.mul_comm d]
      _ = e * b * d := by rw [h1]
      _ = (e * d) * b := by simp only [Int.mul_assoc, Int.mul_comm b]
      _ = c * f * b := by rw [h2]
      _ = c * b * f := by simp only [Int.mul_assoc, Int.mul_comm b]
  exact Int.eq_of_mul_eq_mul_right hf k
theorem rd_ext {n d n' d' : Int} (h : d ≠ 0) (h' : d' ≠ 0) (e : n * d' = n' * d) : rd n d = rd n' d' := by
  obtain ⟨e1, e2⟩ := red_eq h h' e
  show fr _ _ = fr _ _
  rw [e1, e2]
theorem rd_fr {b : Nat} {x : D} (h : FrD b x) : rd (num x) (den x) = x := by
  obtain ⟨e1, e2⟩ := red_self h.pos h.cop
  show fr _ _ = x
  rw [e1, e2]; exact h.eq.symm
/-- a reduced part in a sum, a product -/
theorem add_rd_left {n d : Int} {y : D} {b : Nat} (h : d ≠ 0) (k : FrD b y) : addD (rd n d) y = rd (n * den y + num y * d) (d * den y) := by
  have hd : rD n d ≠ 0 := Int.ne_of_gt (rD_pos h)
  refine rd_ext (Int.mul_ne_zero hd k.ne) (Int.mul_ne_zero h k.ne) ?_
  show (rN n d * den y + num y * rD n d) * (d * den y) = (n * den y + num y * d) * (rD n d * den y)
  have e := red_cross n d
  simp only [Int.add_mul]
  congr 1
  · calc rN n d * den y * (d * den y) = (rN n d * d) * (den y * den y) := by simp only [Int.mul_assoc, Int.mul_comm, Int.mul_left_comm]
      _ = (n * rD n d) * (den y * den y) := by rw [e]
      _ = n * den y * (rD n d * den y) := by simp only [Int.mul_assoc, Int.mul_comm, Int.mul_left_comm]
  · simp only [Int.mul_assoc, Int.mul_comm, Int.mul_left_comm]
theorem addD_comm (x y : D) : addD x y = addD y x := by
  unfold addD
  rw [Int.add_comm, Int.mul_comm (den x)]
theorem mulD_comm (x y : D) : mulD x y = mulD y x := by
  unfold mulD
  rw [Int.mul_comm (num x), Int.mul_comm (den x)]
theorem add_rd_right {n d : Int} {y : D} {b : Nat} (h : d ≠ 0) (k : FrD b y) : addD y (rd n d) = rd (num y * d + n * den y) (den y * d) := by
  rw [addD_comm, add_rd_left h k, Int.add_comm, Int.mul_comm d]
theorem mul_rd_left {n d : Int} {y : D} {b : Nat} (h : d ≠ 0) (k : FrD b y) : mulD (rd n d) y = rd (n * num y) (d * den y) := by
  have hd : rD n d ≠ 0 := Int.ne_of_gt (rD_pos h)
  refine rd_ext (Int.mul_ne_zero hd k.ne) (Int.mul_ne_zero h k.ne) ?_
  show (rN n d * num y) * (d * den y) = (n * num y) * (rD n d * den y)
  have e := red_cross n d
  calc rN n d * num y * (d * den y) = (rN n d * d) * (num y * den y) := by simp only [Int.mul_assoc, Int.mul_comm, Int.mul_left_comm]
    _ = (n * rD n d) * (num y * den y) := by rw [e]
    _ = n * num y * (rD n d * den y) := by simp only [Int.mul_assoc, Int.mul_comm, Int.mul_left_comm]
theorem mul_rd_right {n d : Int} {y : D} {b : Nat} (h : d ≠ 0) (k : FrD b y) : mulD y (rd n d) = rd (num y * n) (den y * d) := by
  rw [mulD_comm, mul_rd_left h k, Int.mul_comm n, Int.mul_comm d]
theorem addD_assoc {a b c : Nat} {x y z : D} (hx : FrD a x) (hy : FrD b y) (hz : FrD c z) : addD (addD x y) z = addD x (addD y z) := by
  have n1 := Int.mul_ne_zero hx.ne hy.ne
  have n2 := Int.mul_ne_zero hy.ne hz.ne
  unfold addD
  rw [show rd (num x * den y + num y * den x) (den x * den y) = rd (num x * den y + num y * den x) (den x * den y) from rfl]
  show addD (rd (num x * den y + num y * den x) (den x * den y)) z = addD x (rd (num y * den z + num z * den y) (den y * den z))
  rw [add_rd_left n1 hz, add_rd_right n2 hx]
  refine rd_ext (Int.mul_ne_zero n1 hz.ne) (Int.mul_ne_zero hx.ne n2) ?_
  simp only [Int.add_mul, Int.mul_add, Int.mul_assoc, Int.mul_comm, Int.mul_left_comm, Int.add_assoc]
theorem mulD_distrib {a b c : Nat} {x y z : D} (hx : FrD a x) (hy : FrD b y) (hz : FrD c z) : mulD x (addD y z) = addD (mulD x y) (mulD x z) := by
  have n1 := Int.mul_ne_zero hx.ne hy.ne
  have n2 := Int.mul_ne_zero hy.ne hz.ne
  have n3 := Int.mul_ne_zero hx.ne hz.ne
  have k : FrD (a + c) (mulD x z) := hx.mul hz
  show mulD x (rd _ _) = addD (rd _ _) (mulD x z)
  rw [mul_rd_right n2 hx, add_rd_left n1 k]
  show _ = rd (num x * num y * den (rd _ _) + num (rd _ _) * (den x * den y)) (den x * den y * den (rd _ _))
  have e := red_cross (num x * num z) (den x * den z)
  have p := rD_pos (n := num x * num z) n3
  refine rd_ext (Int.mul_ne_zero hx.ne n2) (Int.mul_ne_zero n1 (Int.ne_of_gt p)) ?_
  show (num x * (num y * den z + num z * den y)) * (den x * den y * rD (num x * num z) (den x * den z)) = (num x * num y * rD (num x * num z) (den x * den z) + rN (num x * num z) (den x * den z) * (den x * den y)) * (den x * (den y * den z))
  generalize rD (num x * num z) (den x * den z) = r at *
  generalize rN (num x * num z) (den x * den z) = q at *
  have e' : q * (den x * den y) * (den x * (den y * den z)) = (num x * num z * r) * (den y * (den x * den y)) := by
    rw [← e]; simp only [Int.mul_assoc, Int.mul_comm, Int.mul_left_comm]
  rw [Int.add_mul, e']
  simp only [Int.add_mul, Int.mul_add, Int.mul_assoc, Int.mul_comm, Int.mul_left_comm]
theorem add_sub_self {a b : Nat} {x y : D} (hx : FrD a x) (hy : FrD b y) : addD (addD x y) (negD y) = x := by
  have n1 := Int.mul_ne_zero hx.ne hy.ne
  show addD (rd _ _) (negD y) = x
  rw [add_rd_left n1 hy.neg]
  refine Eq.trans ?_ (rd_fr hx)
  show rd ((num x * den y + num y * den x) * den y + -num y * (den x * den y)) (den x * den y * den y) = rd (num x) (den x)
  refine rd_ext (Int.mul_ne_zero n1 hy.ne) hx.ne ?_
  have : (num x * den y + num y * den x) * den y + -num y * (den x * den y) = num x * den y * den y := by
    rw [Int.add_mul, Int.neg_mul]
    have : num y * den x * den y = num y * (den x * den y) := Int.mul_assoc ..
    omega
  rw [this]
  simp only [Int.mul_assoc, Int.mul_comm, Int.mul_left_comm]
theorem mul_div_self {a b : Nat} {x y : D} (hx : FrD a x) (hy : FrD b y) (z : num y ≠ 0) : divD (mulD x y) y = x := by
  have n1 := Int.mul_ne_zero hx.ne hy.ne
  have e := red_cross (num x * num y) (den x * den y)
  have p := rD_pos (n := num x * num y) n1
  have key : rd (rN (num x * num y) (den x * den y) * den y) (rD (num x * num y) (den x * den y) * num y) = rd (num x) (den x) := by
    refine rd_ext (Int.mul_ne_zero (Int.ne_of_gt p) z) hx.ne ?_
    generalize rD (num x * num y) (den x * den y) = r at *
    generalize rN (num x * num y) (den x * den y) = q at *
    calc q * den y * den x = q * (den x * den y) := by simp only [Int.mul_assoc, Int.mul_comm, Int.mul_left_comm]
      _ = num x * num y * r := e
      _ = num x * (r * num y) := by simp only [Int.mul_assoc, Int.mul_comm, Int.mul_left_comm]
  rw [rd_fr hx] at key
  exact key
end PD

/-! Own errors over ValueError whose __init__ says super().__init__(text); self.f = value. -/
namespace PD
open PySem PySem.Spec PySem.W PySem.Calls PyProof.Rows PySem.HandSPX L2
def erA (f : Str) (p1 p2 : Pos) : Arguments := { posonlyargs := [], args := [{ arg := "self", annotation := none, pos := p1 }, { arg := f, annotation := none, pos := p2 }], vararg := none, kwonlyargs := [], kw_defaults := [], kwarg := none, defaults := [] }
def erB (f m : Str) (j : Nat) (q0 q1 q2 q3 q4 q5 q6 q7 q8 q9 : Pos) : List Stmt :=
  [.Expr (.Call (.Attribute (.Call (.Name "super" q0) [] [] q1) "__init__" q2) [.Constant (.str m) j q3] [] q4) q5, .Assign [.Attribute (.Name "self" q6) f q7] (.Name f q8) q9]
def erS (f : Str) : Scope := { kind := .function, names := [(PySem.Str.ofString "self", .local), (f, .local), (PySem.Str.ofString "__class__", .free), (PySem.Str.ofString "super", .globalImplicit)], isGenerator := false, isCoroutine := false, more := [] }
/-- what the written part says of the class at C, its __init__ at fI, the cell at cc, the code at cda -/
structure ErrTxt (P : Program) (K : PySem.W.Frag) (mg : Str → Option Value) (x f : Str) (C fI cc cda : Addr) : Prop where
  gC : mg x = some (.ref C)
  noSup : mg "super" = none
  cls : ∃ nm q N bs bm sn sub ab col dd k0 k1 k2 k3 k5, K.lookup C = some (excClassObj nm q C N bs bm true sn sub ab col dd k0 k1 k2 k3 k5 "ValueError.__new__") ∧ refsVE bm = true
  sup : ks_superIn K C C "__init__" = some (some (.builtin "ValueError.__init__"))
  any : nsIn K cStatics "thirdparty.any" = some none
  mroC : mroIn K C (.ref C) = some true
  subB : subIn K (.ref C) (.type "ValueError") = some true
  sa : findIn K (.ref C) "__setattr__" = some (some (.builtin "object.__setattr__"))
  ga : findIn K (.ref C) "__getattribute__" = some (some (.builtin "BaseException.__getattribute__"))
  gg : findIn K (.ref C) "__getattr__" = some none
  noN : findIn K (.ref C) f = some none
  iC : findIn K (.ref C) "__init__" = some (some (.ref fI))
  tC : typeIn K (.ref fI) = some (.type "function")
  kC : keepIn K (.ref C) = true
  exC : subIn K (.ref C) (.type "BaseException") = some true
  tyC : typeIn K (.ref C) = some (.type "type")
  hdC : hasDictIn K C = true
  fn : ∃ (qu m : Str) (j : Nat) (oc : Value) (od : Option Addr) (doc pm : Value) (an : Option Addr) (ct : Value) (osl : Array (Option Value)) (p1 p2 q0 q1 q2 q3 q4 q5 q6 q7 q8 q9 : Pos),
    K.lookup fI = some ⟨oc, od, .func (ksFn "__init__" qu (erA f p1 p2) (erB f m j q0 q1 q2 q3 q4 q5 q6 q7 q8 q9) (erS f) .none .none doc pm an (.ref cda) ct cc), osl⟩ ∧ codeIn K (.ref cda) qu = true ∧ (q2.endLine == q4.line) = true
  code : ∃ (ccl : Value) (cdd : Option Addr) (vs : Array Value) (ccs : Array (Option Value)) (file : Str) (tf : Tok), K.lookup cda = some ⟨ccl, cdd, .fields vs, ccs⟩ ∧ vs[2]? = some (.str file tf) ∧ ((P.main.file : Str) == file) = true
  cell : ∃ (cl : Value) (cld : Option Addr) (csl : Array (Option Value)), K.lookup cc = some ⟨cl, cld, .cell (some (.ref C)), csl⟩
  top : (P.main.scope.names.lookup ("super" : Str)).isSome = false
/-- what is asked of the field's name -/
structure FldOk (f : Str) : Prop where
  bind : ∀ (s : Shared) (qu : Str) (p1 p2 : Pos) (body : List Stmt) (doc pm : Value) (an : Option Addr) (cdv ct : Value) (cc : Addr) (a v : Value),
    BindsTo s (ksFn "__init__" qu (erA f p1 p2) body (erS f) .none .none doc pm an cdv ct cc) ⟨[a, v], []⟩ [("self", a), (f, v)]
  loc : (erS f).names.lookup f = some .local
  cells : ∀ y ∈ (erS f).names, y.2 ≠ .cell
  sup : (erS f).names.lookup ("super" : Str) = some .globalImplicit
  cls : (erS f).names.lookup ("__class__" : Str) = some .free
  ns : f ≠ "self"
  nd : (f == ("__debug__" : Str)) = false
  sw1 : ∀ (qu : Str) (L fI : Addr) (cd : Value) (cc : Addr) (m : Str) (j : Nat) (q0 q1 q2 q3 q4 q5 : Pos),
    swapsWith (.Call (.Attribute (.Call (.Name "super" q0) [] [] q1) "__init__" q2) [.Constant (.str m) j q3] [] q4) none q5.line (ksEnv qu (erS f) L fI cd cc) = pure false
  sw2 : ∀ (qu : Str) (L fI : Addr) (cd : Value) (cc : Addr) (q6 q7 q8 q9 : Pos), swapsWith (.Name f q8) (some (.Attribute (.Name "self" q6) f q7)) q9.line (ksEnv qu (erS f) L fI cd cc) = pure false
theorem fld_value : FldOk "value" := ⟨fun _ _ _ _ _ _ _ _ _ _ _ _ _ => .of_eq rfl, rfl, by decide, rfl, rfl, by decide, by decide, fun _ _ _ _ _ _ _ _ _ _ _ _ _ => rfl, fun _ _ _ _ _ _ _ _ _ => rfl⟩
/-- what such an __init__ leaves of a fresh error at x -/
structure ErrEnd (h h' : Heap) (x C dx t1 : Addr) (f : Str) (v : Value) : Prop where
  keep : ∀ b o, b ≠ x → h.get? b = some o → h'.get? b = some o
  obj : h'.get? x = some { cls := .ref C, dict := some dx, data := .fields #[.ref t1, .none, .none, .none, .bool false, .none] }
  dbig : h.objs.size ≤ dx
  dne : dx ≠ x
  ns : h'.Ns1 dx (fun y => if y = f then some v else none)
section
variable {prog : Program} {w : World} {A : Around} {E : Value → Shared → Prop} {R : Result → Shared → Prop} {s : Shared} {K : PySem.W.Frag} {mg : Str → Option Value} {x f : Str} {C fI cc cda : Addr}
/-- ValueError.__init__ bound to x, called -/
theorem call_mw {h : Heap} {g : Array GenState} {d : Drawn} {t : Nat} {os : OsState} {nm q : Str} {C N : Addr} {bs bm : List Value} {hdct : Bool} {sn : List Str} {sub : List Value} {ab : Bool} {col : Option Bool} {dd : Option Addr} {k0 k1 k2 k3 k5 : Option Value}
    {B newId initId : String} {bmB : List Value} (FB : ExcBaseFacts B newId initId bmB) {u e t0 : Addr} {rest : List Value} {Q : Value → Shared → Prop}
    (hC : h.get? C = some (excClassObj nm q C N bs bm hdct sn sub ab col dd k0 k1 k2 k3 k5 newId)) (he : h.get? e = some (excO C t0)) (hu : h.get? u = some (kxs_mw initId e)) (hrest : rest.length ≤ sizeLine)
    (hq : ∀ h' t1, (∀ b o, b ≠ e → h.get? b = some o → h'.get? b = some o) → h'.get? e = some (excO C t1) → Q .none ⟨h', g, d, t, os⟩) :
    wpAny (model prog w) A (call (.ref u) rest) Q E ⟨h, g, d, t, os⟩ := by
  refine wpAny_call (codeAny_of_tree (show wpAny _ A.in1 (callAny (.ref u) ⟨rest, []⟩) _ _ _ from ?_))
  simp only [callAny]
  refine wpAny_bind (wpAny_load hu ?_)
  simp only [kxs_mw, show (Value.type "method-wrapper" == Value.type "method" || Value.type "method-wrapper" == Value.type "builtin_function_or_method" || Value.type "method-wrapper" == Value.type "method-wrapper") = true by decide, if_true]
  refine KFB.if_so (by decide) (wpAny_bind (check_bound_init FB.toExcCallFacts hC he rfl (wpAny_bind (wpAny_pure (wpAny_pure ⟨plainId_quiet FB.init.plain _, codeAny_builtin FB.initEntry ?_⟩)))))
  exact exc_init_tree (cls := .ref C) (t0 := t0) (dv := none) (c2 := .none) (c3 := .none) (b4 := .bool false) he hrest (fun h' a b _ => hq h' _ a b)

theorem sup_eval {q0 q1 q2 q3 q4 : Pos} {m : Str} {j : Nat} {env : Env} (hpos : methodCallPos true (.Call (.Name "super" q0) [] [] q1) env q2 q4 = pure q4) :
    eval (.Call (.Attribute (.Call (.Name "super" q0) [] [] q1) "__init__" q2) [.Constant (.str m) j q3] [] q4) env = (do
      let ov ← attributeBase (.Call (.Name "super" q0) [] [] q1) "__init__" env (eval (.Call (.Name "super" q0) [] [] q1) env)
      standAt q2.atName
      let (g, first) ← holding [ov] (getMethod ov "__init__" (do return (← importBound (.Call (.Name "super" q0) [] [] q1) env).getD true))
      callWith q4 g first (backTo q4 (starEach [.Constant (.str m) j q3] env)) []) := by
  rw [arm_eval_Call]
  unfold methodCall
  have hform : methodCallForm ([Expr.Constant (.str m) j q3].length + ([] : List Keyword).length) (backTo q4 (starEach [.Constant (.str m) j q3] env)) (backToKw q4 (keywordEach [] env)) = true := rfl
  rw [hform, hpos]
  simp only [pure_bind]
  rfl
theorem err_init (T : ErrTxt prog K mg x f C fI cc cda) (F : FldOk f) {a t0 : Addr} {v : Value} (X : K.In s.heap) (hlim : s.heap.NoLimit) (hG : s.heap.Ns mainGlobals mg)
    (hB : ∃ mb, s.heap.Ns builtinsNs mb ∧ ∀ x : Str, x ≠ "__name__" → mb x = bootBuiltins x) (hx : s.heap.get? a = some (excO C t0)) (hnx : K.lookup a = none) (hroom : A.depth < recursionLimit)
    (hq : ∀ h' tk dx t1, ErrEnd s.heap h' a C dx t1 f v → R (.ok (.ret .none)) { s with heap := h', toks := tk }) :
    codeAny (model prog w) A (.call (.ref fI) ⟨[.ref a, v], []⟩) R s := by
  obtain ⟨qu, m, j, oc, od, doc, pm, an, ct, osl, p1, p2, q0, q1, q2, q3, q4, q5, q6, q7, q8, q9, ho, hcd, hline⟩ := T.fn
  obtain ⟨nm, q, N, bs, bm, sn, sub, ab, col, dd, k0, k1, k2, k3, k5, hC, hbm⟩ := T.cls
  obtain ⟨ccl, cdd, vs, ccs, file, tf, hcode, hvs, hfile⟩ := T.code
  obtain ⟨cl, cld, csl, hcell⟩ := T.cell
  obtain ⟨mb, hB1, hB2⟩ := hB
  have hcl : clsIn K C = some { name := nm, bases := bs, mro := .ref C :: bm, ns := N, qualname := q, hasDict := true, slotNames := sn, subclasses := sub, abstract := ab, collection := col, hasDel := false } := by unfold clsIn; rw [hC] <;> rfl
  have hsup : alongIn K "__init__" ((((Value.ref C :: bm).dropWhile (· != .ref C)).drop 1)) = some (some (.builtin "ValueError.__init__")) := by
    have z := T.sup
    unfold ks_superIn at z
    rw [hcl] at z
    exact z
  refine ks_codeAny_call_defAt (fd := ksFn "__init__" qu (erA f p1 p2) (erB f m j q0 q1 q2 q3 q4 q5 q6 q7 q8 q9) (erS f) .none .none doc pm an (.ref cda) ct cc) (body := erB f m j q0 q1 q2 q3 q4 q5 q6 q7 q8 q9) (binds := [("self", .ref a), (f, v)])
    hroom (X _ _ ho) rfl hlim (codeRec_of X hcd) rfl (F.bind _ _ _ _ _ _ _ _ _ _ _ _ _) F.cells ?_ (fun h₁ hns k => ?_)
  · intro y hy
    simp only [List.mem_cons, List.not_mem_nil, or_false] at hy
    rcases hy with rfl | rfl
    · rfl
    · exact F.loc
  have X₁ : K.In h₁ := X.keeps k
  have hx₁ := k _ _ hx
  have hmS : (fun y => List.lookup y ([(("self" : Str), Value.ref a), (f, v)].reverse)) "self" = some (.ref a) := by
    have e : (("self" : Str) == f) = false := by
      have := F.ns
      simpa using fun z => this z.symm
    simp [List.lookup, e]
  have hmF : (fun y => List.lookup y ([(("self" : Str), Value.ref a), (f, v)].reverse)) f = some v := by
    simp [List.lookup]
  obtain ⟨hp, g, d, t, os⟩ := s
  dsimp only at X hlim hG hB1 hx hq hns k X₁ hx₁ ⊢
  -- super().__init__(m)
  show _root_.PySem.wpAt (model prog w) (A.deeper (ksEnv qu (erS f) hp.objs.size fI (.ref cda) cc)) (.func (erB f m j q0 q1 q2 q3 q4 q5 q6 q7 q8 q9) (ksEnv qu (erS f) hp.objs.size fI (.ref cda) cc)) (execs (erB f m j q0 q1 q2 q3 q4 q5 q6 q7 q8 q9) (ksEnv qu (erS f) hp.objs.size fI (.ref cda) cc)) _ _ _
  unfold erB
  have hpos : methodCallPos true (.Call (.Name "super" q0) [] [] q1) (ksEnv qu (erS f) hp.objs.size fI (.ref cda) cc) q2 q4 = pure q4 := by unfold methodCallPos; simp [hline]
  refine ks_wpAt_execs_cons (ks_wpAt_Expr_any (ks_wpAt_MethodCall (pl := do return (← importBound (.Call (.Name "super" q0) [] [] q1) (ksEnv qu (erS f) hp.objs.size fI (.ref cda) cc)).getD true) ?_ (sup_eval hpos)) rfl (F.sw1 _ _ _ _ _ _ _ _ _ _ _ _ _))
  refine ks_wpAt_super_base (ar := { arg := "self", annotation := none, pos := p1 }) (of := ⟨oc, od, _, osl⟩) (oc := ⟨ccl, cdd, .fields vs, ccs⟩) F.sup F.cls (by decide) rfl (X₁ _ _ ho) rfl rfl rfl (X₁ _ _ hcode) rfl hvs hfile T.top ?_
  refine ks_loadName_global rfl F.sup (loadGlobal_builtin (hG.keeps k) T.noSup (hB1.keeps k) ((hB2 _ (by decide)).trans (by first | rfl | kernel_rfl)) ⟨rfl, ?_⟩)
  refine wpAny_loadName_free rfl F.cls rfl ⟨_, X₁ _ _ hcell, rfl⟩ ?_
  refine wpAny_loadName_local rfl (by rfl) hns hmS ?_
  refine ks_wpAny_isType_cls (X₁ _ _ hC) rfl ⟨rfl, ?_⟩
  refine ks_wpAny_call_super (X₁ _ _ hC) rfl hx₁ rfl (fun c z => by cases z) (looks_mroIn X₁ T.mroC) (fun h₂ hso k₂ => ?_)
  have X₂ := X₁.keeps k₂
  have hx₂ := k₂ _ _ hx₁
  have aC : a ≠ C := fun z => by
    subst z
    rw [hnx] at hC
    cases hC
  have hI : Looks (model prog w) h₂ (isInstance (.ref a) (.type "ValueError")) true := Looks.andThen (InstAt.type (C := C) (ox := excO C t0) (od := none) ⟨hx₂, rfl, rfl, trivial⟩) (looks_subIn X₂ T.subB)
  refine kxs_getMethod kxs_ValueError hso (looks_opaque X₂ T.any) (l₀ := .ref C :: bm) (fun A Q E s k q => wpAny_bind ((looks_clsIn X₂ hcl) A _ E s k (wpAny_pure q))) rfl X₂ hsup hI aC (by decide) ?_
  refine kxs_callWith (i := "ValueError.__init__") (x := a) rfl (evalArgs_plain ?_)
  refine spliced_more (wpAny_Constant_str ?_)
  refine spliced_none ⟨Heap.get?_push_at rfl rfl, ?_⟩
  have k₃ : ∀ b o, h₂.get? b = some o → (h₂.push (kxs_mw "ValueError.__init__" a)).get? b = some o := fun b o e => Heap.get?_push_of_some _ e
  refine call_mw PySem.F.excBase_ValueError (X₂.keeps k₃ _ _ hC) (k₃ _ _ hx₂) (Heap.get?_push_at rfl rfl) (by show 1 ≤ sizeLine; rw [sizeLine_eq]; decide) (fun h₄ t1 k₄ hx₄ => ?_)
  -- self.f = f
  have k₅ : ∀ b o, b ≠ a → hp.get? b = some o → h₄.get? b = some o := fun b o n e => k₄ b o n (k₃ _ _ (k₂ _ _ (k _ _ e)))
  have X₄ : K.In h₄ := fun b o e => k₅ b o (fun z => by rw [z, hnx] at e; cases e) (X _ _ e)
  have hns₄ : h₄.Ns hp.objs.size (fun y => List.lookup y ([(("self" : Str), Value.ref a), (f, v)].reverse)) := hns.at fun o q => k₄ _ _ (fun z => by
    have e := Heap.lt_size hx
    rw [← z] at e
    exact absurd e (Nat.lt_irrefl _)) (k₃ _ _ (k₂ _ _ q))
  refine ks_wpAt_execs_cons (wpAt_of_wpAny (plainObj_wpAny_Assign_Attribute ?_ (F.sw2 _ _ _ _ _ _ _ _ _)))
  refine wpAny_Name (wpAny_loadName_local rfl F.loc hns₄ hmF ?_) F.nd
  refine wpAny_Name (wpAny_loadName_local rfl (by rfl) hns₄ hmS ?_) (by decide)
  refine set_plain X₄ (ox := excO C t1) (od := none) ⟨hx₄, rfl, rfl, trivial⟩ T.sa ?_
  refine exc_osa X₄ hx₄ hcl (show refsVE (.ref C :: bm) = true from hbm) rfl T.noN (fun h₅ tk₅ dx k₆ dn dne hx₅ hn₅ => ?_)
  refine wpAt_of_wpAny (wpAny_execs_nil (hq h₅ tk₅ dx t1 ⟨fun b o hb e => k₆ b o hb (k₅ b o hb e), hx₅, Nat.le_of_lt (Nat.lt_of_lt_of_le hns₄.lt dn), dne, hn₅⟩))
/-- a made error -/
structure ErrMade (h h' : Heap) (e C d : Addr) (f : Str) (v : Value) : Prop where
  keep : ∀ b o, h.get? b = some o → h'.get? b = some o
  new : h.objs.size ≤ e
  obj : ∃ oe vs, h'.get? e = some oe ∧ oe.cls = .ref C ∧ oe.dict = some d ∧ oe.data = .fields vs ∧ vs[1]? = some .none
  dbig : h.objs.size ≤ d
  dne : d ≠ e
  ns : h'.Ns1 d (fun y => if y = f then some v else none)
theorem err_made (T : ErrTxt prog K mg x f C fI cc cda) (F : FldOk f) {v : Value} (X : K.In s.heap) (hlim : s.heap.NoLimit) (hG : s.heap.Ns mainGlobals mg)
    (hB : ∃ mb, s.heap.Ns builtinsNs mb ∧ ∀ x : Str, x ≠ "__name__" → mb x = bootBuiltins x) (hroom : A.depth + 1 < recursionLimit)
    (hq : ∀ h' tk e d, ErrMade s.heap h' e C d f v → R (.ok (.ret (.ref e))) { s with heap := h', toks := tk }) :
    codeAny (model prog w) A (.call (.ref C) ⟨[v], []⟩) R s := by
  obtain ⟨nm, q, N, bs, bm, sn, sub, ab, col, dd, k0, k1, k2, k3, k5, hC, hbm⟩ := T.cls
  obtain ⟨mb, hB1, hB2⟩ := hB
  obtain ⟨hp, g, dr, tk, os⟩ := s
  have k : ∀ b o, hp.get? b = some o → ((hp.push (kdv_tup [v])).push (excO C hp.objs.size)).get? b = some o := fun b o e => Heap.get?_push_of_some _ (Heap.get?_push_of_some _ e)
  have hget : ((hp.push (kdv_tup [v])).push (excO C hp.objs.size)).get? (hp.objs.size + 1) = some (excO C hp.objs.size) := by heap_get
  have hnx : K.lookup (hp.objs.size + 1) = none := by
    rcases e : K.lookup (hp.objs.size + 1) with _ | o
    · rfl
    · exact absurd (Nat.lt_of_succ_lt (Heap.lt_size (show hp.get? (hp.objs.size + 1) = some o from X _ _ e))) (Nat.lt_irrefl _)
  refine call_own PySem.F.excBase_ValueError (fun Y => refsVE_contains Y bm hbm) (X _ _ hC) (looks_findIn X T.iC) (fun self => bind_fn X self T.tC) (by show 1 ≤ sizeLine; rw [sizeLine_eq]; decide) ?_
  refine err_init (s := ⟨(hp.push (kdv_tup [v])).push (excO C hp.objs.size), g, dr, tk, os⟩) T F (X.keeps k) (hlim.keeps k) (hG.keeps k) ⟨mb, hB1.keeps k, hB2⟩ hget hnx hroom ?_
  rintro h' tk' dx t1 ⟨k', hx, dn, dne, hns⟩
  have old : ∀ b o, hp.get? b = some o → h'.get? b = some o := fun b o e => k' b o (Nat.ne_of_lt (Nat.lt_succ_of_lt (Heap.lt_size e))) (k b o e)
  have z : hp.objs.size + 1 + 1 ≤ dx := by
    first
      | (simpa only [Heap.size_push] using dn)
      | exact dn
      | (have q := dn; rw [Heap.size_push, Heap.size_push] at q; exact q)
  exact ⟨rfl, hq h' tk' (hp.objs.size + 1) dx ⟨old, Nat.le_succ _, ⟨_, _, hx, rfl, rfl, rfl, rfl⟩, (by show hp.objs.size ≤ dx; omega), dne, hns⟩⟩
end
theorem relO_one {f : Str} {v : V} {v' : Value} (r : RelV v v') (g : Str) : RelO (List.lookup g [(f, v)]) (if g = f then some v' else none) := by
  rw [lookup_put]
  by_cases h : g = f
  · rw [if_pos h, if_pos h]; exact r
  · rw [if_neg h, if_neg h]; trivial
section
variable {X : Cx} {W : WX} {C fI cc cda : Addr} {x f : Str}
/-- x(a), x an own error's class -/
theorem pmk_err {a : Expr} {ta : TA} {p pos : Pos} {k : Nat} (T : ErrTxt X.prog X.K X.mg x f C fI cc cda) (F : FldOk f) (hr : Room (k + 1) X.A) (ha : PA X [a] ta) (hg : Gl X x) (hdb : (x == ("__debug__" : Str)) = false)
    (he : starEach (a :: []) X.env = (false, eval a X.env) :: starEach [] X.env := by rfl) (hpl : (backTo pos (starEach [] X.env)).any (·.1) = false := by rfl) :
    PMk X (.Call (.Name x p) [a] [] pos) (fun σ H Q => ta σ H fun vs H1 => ∃ v, vs = [v] ∧ ∀ d, H1 d = none → Q (.ref C) (some d) (upd H1 d (.xd [(f, v)]))) := by
  intro pins s σ H Q I h
  refine wpAny_Call_Name_kw (ld_glob I hg T.gC ?_ hdb)
  refine PySem.W.callWith_K (h₀ := X.base) I.ok.mod.kin T.kC (thn (ha.run pos pins s σ H _ I h) fun us s1 hh => ?_) he hpl
  obtain ⟨vs, H1, I1, r1, v, ev, q1⟩ := hh
  subst ev
  refine ⟨I1.kIn, ?_⟩
  cases r1 with
  | cons rv rn =>
    rename_i v' us'
    cases rn
    show wpAny _ _ (call (.ref C) [v']) _ _ _
    have hlim := I1.nolimit
    have hG := I1.mod.glob.keeps I1.bk
    have hB : ∃ mb, s1.heap.Ns builtinsNs mb ∧ ∀ x : Str, x ≠ "__name__" → mb x = bootBuiltins x := by
      obtain ⟨mb, h1, h2⟩ := I1.mod.blt
      exact ⟨mb, h1.keeps I1.bk, h2⟩
    obtain ⟨hp, g, dr, tk, os⟩ := s1
    refine wpAny_call (err_made T F I1.kIn hlim hG hB (by have := hr.dp; omega) fun h' tk' e d M => ?_)
    show MkP X pins σ Q (.ref e) ⟨h', g, dr, tk', os⟩
    obtain ⟨oe, fv, hoe, hc, hd, hdat, h1⟩ := M.obj
    have hns := M.ns
    obtain ⟨G', g1, g2⟩ := restrict h' fun b => decide (b ≠ e)
    have gk : ∀ b, b ≠ e → G'.get? b = h'.get? b := fun b hb => g1 b (decide_eq_true hb)
    have ge : G'.get? e = none := g2 e (by simp)
    have old : ∀ b o, hp.get? b = some o → G'.get? b = some o := fun b o q => (gk b (Nat.ne_of_lt (Nat.lt_of_lt_of_le (Heap.lt_size q) M.new))).trans (M.keep b o q)
    have ob : ObjOk X.prog X.w (upd H1 d (.xd [(f, v)])) G' d (.xd [(f, v)]) := ⟨_, hns.at (fun o q => (gk d M.dne).trans q), fun f => relO_one rv f⟩
    have J : Inv X pins σ (upd H1 d (.xd [(f, v)])) ⟨G', g, dr, tk', os⟩ := I1.laid (t' := tk') old M.dbig ob
    refine ⟨e, oe, fv, ⟨G', g, dr, tk', os⟩, _, .ref C, some d, rfl, J, fun b o q => ?_, ge, hoe, ⟨hc, hd⟩, hdat, h1, ?_, rfl, I1.bare, raises_own T.exC T.tyC, q1 d (I1.hok.fresh M.dbig)⟩
    · by_cases hb : b = e
      · have q' : G'.get? b = some o := q
        rw [hb, ge] at q'; cases q'
      · exact (gk b hb).symm.trans q
    · rw [upd_ne (Ne.symm M.dne)]
      exact I1.hok.fresh M.new
end
end PD

/-! raise, try .. except, a caught error's field, isinstance of it, repr of data. -/
namespace PD
open PySem PySem.Spec PyProof.Rows L2
/-- what runs well, as a reading -/
def ws (X : Cx) (ss : List Stmt) : TS := fun D σ H => ∀ (pins : List (Addr × Obj)) (s : Shared), Inv X pins σ H s → wpAny (model X.prog X.w) X.A (execs ss X.env) (SP X pins D) X.xe s
def dRaise (k : Nat) (g : DE) (de : DEnds) (st : LS) : Prop := g de.ex st fun d st1 => de.ex ⟨k, d⟩ st1
def dTryX (i : Nat) (tb : Nat → Bool) (gs : XU → DErr → DS) (de : DEnds) (e : DErr) (st : LS) : Prop := match tb e.k with
  | true => ∀ u, gs u e ⟨fun s => de.nx (s.set i .un), de.rt, fun s => de.bk (s.set i .un), fun s => de.ct (s.set i .un), fun _ _ => False⟩ (st.set i (.xc u e))
  | false => de.ex e st
def dTry (i : Nat) (tb : Nat → Bool) (gb : DS) (gs : XU → DErr → DS) (de : DEnds) (st : LS) : Prop := gb { de with ex := fun e st1 => dTryX i tb gs de e st1 } st
def dXf (i : Nat) (u : XU) (e : DErr) (f : Str) (_Ex : DX) (st : LS) (Q : D → LS → Prop) : Prop := (st[i]? = some (S.xc u e) ∧ exF e.k = f ∧ e.k ≠ 14) ∧ Q e.d st
def dXi (i : Nat) (u : XU) (e : DErr) (ib : Nat → Bool) (_Ex : DX) (st : LS) (Q : D → LS → Prop) : Prop := st[i]? = some (S.xc u e) ∧ Q (.bl (ib e.k)) st
section
variable {K : PySem.W.Frag} {mg : Str → Option Value} {C : Cfg} {H0 H H0' H' : Hp} {σ : L2.St} {st : LS}
/-- a slot is emptied, or takes a caught error -/
theorem I.put (i : I K mg C H0 H σ st) {k : Nat} {r : S} {w : Option V} (h : RSlot K mg C H0 H (some r) (some w)) (no : ∀ a l t ds, r ≠ .ow a l t ds) : I K mg C H0 H (σ.set k w) (st.set k r) where
  same := i.same
  up := i.up
  keep := i.keep
  low := i.low
  aa := i.aa
  len := by rw [List.length_set, List.length_set]; exact i.len
  slots := fun j => by
    by_cases hk : k < st.length
    · have hk' : k < σ.length := by rw [← i.len]; exact hk
      rw [getElem?_set_st hk, getElem?_set_st hk']
      by_cases e : j = k
      · rw [if_pos e, if_pos e]; exact h
      · rw [if_neg e, if_neg e]; exact i.slots j
    · rw [List.set_eq_of_length_le (Nat.le_of_not_lt hk), List.set_eq_of_length_le (by rw [← i.len]; exact Nat.le_of_not_lt hk)]
      exact i.slots j
  dist := fun x y a l t ds l' t' ds' e1 e2 => by
    by_cases hk : k < st.length
    · rw [getElem?_set_st hk] at e1 e2
      by_cases hx : x = k
      · rw [if_pos hx] at e1; cases e1; exact (no _ _ _ _ rfl).elim
      · by_cases hy : y = k
        · rw [if_pos hy] at e2; cases e2; exact (no _ _ _ _ rfl).elim
        · rw [if_neg hx] at e1; rw [if_neg hy] at e2
          exact i.dist x y a l t ds l' t' ds' e1 e2
    · rw [List.set_eq_of_length_le (Nat.le_of_not_lt hk)] at e1 e2
      exact i.dist x y a l t ds l' t' ds' e1 e2
theorem I.unset (i : I K mg C H0 H σ st) (k : Nat) : I K mg C H0 H (σ.set k none) (st.set k .un) := i.put (by trivial) fun _ _ _ _ z => by cases z
end
section
variable {X : Cx} {W : WX} {a e : Expr} {x f n : Str} {C fI cc cda : Addr} {g : DE} {p pos pos2 np pos' : Pos} {k m i : Nat}
theorem psd_raise (hc : X.calm = true) (tk : Takes X W) (T : ErrTxt X.prog X.K X.mg x f C fI cc cda) (ex : exN k = x) (ef : exF k = f) (F : FldOk f) (hr : RoomG (m + 1) X.A) (h : PED X W a g) (hg : Gl X x) (hdb : (x == ("__debug__" : Str)) = false := by decide)
    (he : starEach (a :: []) X.env = (false, eval a X.env) :: starEach [] X.env := by rfl) (hpl : (backTo pos (starEach [] X.env)).any (·.1) = false := by rfl) :
    PSD X W (.Raise (some (.Call (.Name x p) [a] [] pos)) none pos2) (dRaise k g) := by
  obtain ⟨ta, pa, qa⟩ := h.ex
  refine ⟨_, ps_raise hc tk (pmk_err T F hr.r (pa_cons pa pa_nil he) hg hdb he hpl), fun C' H0 H σ st de Dn hI hL hg => qa C' H0 H σ st de.ex _ _ hI (hL.xp σ) (fun d st1 v H1 K1 q1 i1 s1 r1 => ?_) hg⟩
  refine ⟨v, rfl, fun dd hd => hL.ex ⟨k, d⟩ st1 σ _ _ _ _ q1 (i1.new (o := .xd [(f, v)]) hd) (s1.trans (same_upd (i1.same.free hd))) ⟨⟨C, by show X.mg (exN k) = _; rw [ex]; exact T.gC, rfl⟩, .inr ⟨dd, v, rfl, ?_, Rep.mono (same_upd (i1.same.free hd)) d v r1⟩⟩⟩
  show upd H1 dd _ dd = _
  rw [upd_same, ef]
theorem psd_try_as {c : Value} {body suite : List Stmt} {b₀ : Stmt} {tb : Nat → Bool} {gb : DS} {gs : XU → DErr → DS} (hs : X.stack = X.env :: X.outer) (hf : X.env.frame = some X.env.locals) (hN : X.N.Nodup) (hi : X.N[i]? = some n) (hln : X.env.kindOf n = some .local)
    (hc : Names X x c) (tk : Takes X W) (hT : ∀ k C, X.mg (exN k) = some (.ref C) → PySem.W.exmOne X.K (.ref C) c = some (tb k))
    (hb : ∀ (W' : WX) (pn : List (Addr × Obj)) (xe : Value → Shared → Prop), Takes (X.tr pn xe) W' → PassesOwn (model X.prog X.w) X.A X.env xe → PSsD (X.tr pn xe) W' body gb)
    (hsu : ∀ (u : XU) (oe : Obj) (pn : List (Addr × Obj)) (e : DErr), Zc u.cls u.d oe → (∃ vs, oe.data = .fields vs) → PSsD (X.suite u.a ((u.a, oe) :: pn)) (fun _ _ _ _ => False) (b₀ :: suite) (gs u e)) :
    PSD X W (.Try body [.ExceptHandler (some (.Name x np)) (some n) (b₀ :: suite) pos'] [] [] pos) (dTry i tb gb gs) := by
  refine ⟨_, ps_try_as (tb := fun W' D σ H => ∀ pn xe, Takes (X.tr pn xe) W' → PassesOwn (model X.prog X.w) X.A X.env xe → ws (X.tr pn xe) body D σ H)
    (ts := fun a cls d D σ H => ∀ oe pn, Zc cls d oe → (∃ vs, oe.data = .fields vs) → ws (X.suite a ((a, oe) :: pn)) (b₀ :: suite) D σ H) (Wout := W) hs hf hN hi hln hc tk
    (fun W' pn xe t p => ⟨fun pins s σ H D I h => h pn xe t p pins s I⟩) (fun a oe cls d pn hz hv => ⟨fun pins s σ H D I h => h oe pn hz hv pins s I⟩), fun C' H0 H σ st de Dn hI hL hg => ?_⟩
  intro pn xe t p pins s Iv
  obtain ⟨tt, pp, qq⟩ := (hb _ pn xe t p).ex
  refine pp.run pins s σ H Dn Iv (qq C' H0 H σ st { de with ex := fun e st1 => dTryX i tb gs de e st1 } Dn hI ⟨hL.nx, hL.bk, hL.ct, hL.rt, fun er st1 σ1 H1 K1 cls d q1 i1 s1 r1 => ?_⟩ hg)
  obtain ⟨⟨C, hC, rfl⟩, r2⟩ := id r1
  refine ⟨tb er.k, hT _ _ hC, fun hb a ha oe pn' hz hv pins2 s2 Iv2 => ?_, fun hb => ?_⟩
  · have q1 : dTryX i tb gs de er st1 := q1
    unfold dTryX at q1
    rw [hb] at q1
    obtain ⟨t2, p2, q2⟩ := (hsu ⟨a, .ref C, d⟩ oe pn' er hz hv).ex
    have i2 : I X.K X.mg C' H1 K1 (σ1.set i (some (.ref a))) (st1.set i (.xc ⟨a, .ref C, d⟩ er)) := i1.put ⟨rfl, r1⟩ fun _ _ _ _ z => by cases z
    refine p2.run pins2 s2 _ _ _ Iv2 (q2 C' H1 K1 _ _ _ _ i2 ⟨fun st2 σ2 H2 K2 q i s => ?_, fun st2 σ2 H2 K2 q i s => ?_, fun st2 σ2 H2 K2 q i s => ?_, fun r st2 v σ2 H2 K2 q i s rr => ?_, fun _ _ _ _ _ _ _ (z : False) => z.elim⟩ (q1 ⟨a, .ref C, d⟩))
    · exact hL.nx _ _ H2 K2 q (i.unset _) (s1.trans s)
    · exact hL.bk _ _ H2 K2 q (i.unset _) (s1.trans s)
    · exact hL.ct _ _ H2 K2 q (i.unset _) (s1.trans s)
    · exact hL.rt r st2 v σ2 H2 K2 q i (s1.trans s) rr
  · have q1 : dTryX i tb gs de er st1 := q1
    unfold dTryX at q1
    rw [hb] at q1
    exact hL.ex er st1 σ1 H1 K1 _ d q1 i1 s1 r1
/-- e.f, e the error that the suite holds -/
theorem ped_xf {u : XU} {oe : Obj} {pn : List (Addr × Obj)} {er : DErr} (hX : ∀ k C, X.mg (exN k) = some (.ref C) → exF k = f → XfC X.K C ∧ PySem.W.findIn X.K (.ref C) f = some none)
    (hz : Zc u.cls u.d oe) (hv : ∃ vs, oe.data = .fields vs) (hi : PE (X.suite u.a ((u.a, oe) :: pn)) e (tVar i)) (hb : attributeBase e f X.env (eval e X.env) = eval e X.env := by rfl) :
    PED (X.suite u.a ((u.a, oe) :: pn)) W (.Attribute e f pos) (dXf i u er f) := by
  refine ⟨fun σ H Q => ∃ C, (XfC X.K C ∧ PySem.W.findIn X.K (.ref C) f = some none) ∧ tXf u.a u.cls u.d C f (tVar i) σ H Q, ⟨fun pins s σ H Q I ⟨C, h1, h2⟩ => (pe_xf h1.1 h1.2 hz hv hi hb).run pins s σ H Q I h2⟩, fun C' H0 H σ st Ex Q Qv hI hX' hQ hg => ?_⟩
  obtain ⟨⟨h1, h2, h3⟩, hg⟩ := hg
  have hs := hI.slots i
  rw [h1] at hs
  obtain ⟨e1, ⟨C, hC, ec⟩, h4⟩ := hs
  refine ⟨C, hX _ _ hC h2, .ref u.a, e1, rfl, ec, ?_⟩
  rcases h4 with h4 | ⟨dd, v, e2, e3, e4⟩
  · exact absurd h4.1 h3
  · refine ⟨dd, _, v, e2, hI.same _ _ e3, ?_, hQ _ _ v H0 H hg hI (Same.refl _) e4⟩
    rw [h2]; simp [List.lookup]
/-- what the classes say, so that isinstance asks their instances rightly -/
def kxE (K : PySem.W.Frag) (D : Addr) : Prop := (PySem.W.clsIn K D).isSome = true ∧ PySem.W.findIn K (.ref D) "__getattribute__" = some (some (.builtin "BaseException.__getattribute__")) ∧ PySem.W.findIn K (.ref D) "__getattr__" = some none ∧
  PySem.W.subIn K (.ref D) (.type "BaseException") = some true ∧ PySem.W.findIn K (.ref D) "__class__" = some (some (.builtin "object.__class__")) ∧ PySem.W.specialIn K (.builtin "object.__class__") "__get__" = some (some (.builtin "getset_descriptor.__get__")) ∧
  PySem.W.takesIn K (.builtin "object.__class__") = some true ∧ PySem.W.mroIn K D (.type "object") = some true
theorem call_isX {u : XU} {oe : Obj} {pn : List (Addr × Obj)} (hz : Zc u.cls u.d oe) (hv : ∃ vs, oe.data = .fields vs) : CallR (X.suite u.a ((u.a, oe) :: pn)) (.builtin "isinstance") (fun xs H Q => ∃ (D : Addr) (cv : Value) (c : V) (b : Bool), u.cls = .ref D ∧ kxE X.K D ∧
    (u.d = none ∨ ∃ dd fs, u.d = some dd ∧ H dd = some (.xd fs)) ∧ xs = [.ref u.a, c] ∧ (∀ w, RelV c w → w = cv) ∧ PySem.W.kitOne X.K (.ref D) cv = some b ∧ Q (.bl b) H) := by
  intro pins s σ H xs us Q I r h
  obtain ⟨D, cv, c, b, eD, ⟨k1, k2, k3, k4, k5, k6, k7, k8⟩, hd, rfl, hcv, e, q⟩ := h
  rcases r with _ | ⟨rx, _ | ⟨rt, _ | _⟩⟩
  cases rx
  obtain rfl := hcv _ rt
  obtain ⟨hget, _⟩ := I.pin (u.a, oe) (List.mem_append.mpr (.inl List.mem_cons_self))
  obtain ⟨vs, hv⟩ := hv
  have J : ∃ od, PySem.W.InstAt s.heap u.a oe D od := by
    rcases hd with hd | ⟨dd, fs, hd, hH⟩
    · exact ⟨none, hget, hz.1.trans eD, by unfold PySem.W.notCls; rw [hv] <;> rfl, by rw [hz.2, hd]; trivial⟩
    · obtain ⟨mA, ⟨o, es, ep, ho, _⟩, _⟩ := show ObjOk X.prog X.w H s.heap dd (.xd fs) from I.hok dd _ hH
      exact ⟨some o, hget, hz.1.trans eD, by unfold PySem.W.notCls; rw [hv] <;> rfl, by rw [hz.2, hd]; exact ho⟩
  obtain ⟨od, J⟩ := J
  exact PySem.W.kia_one (PySem.W.kitx_exc k1 k2 k3 k4 k5 k6 k7 k8) I.kIn J e (fun z => nomatch z) fun tk => ⟨.bl b, H, I.kept (t' := tk) fun _ _ z => z, rfl, q⟩
/-- isinstance(e, c), e the error that the suite holds -/
theorem ped_xi {u : XU} {oe : Obj} {pn : List (Addr × Obj)} {er : DErr} {t : Expr} {c : V} {cv : Value} {ib : Nat → Bool} (hX : ∀ k C, X.mg (exN k) = some (.ref C) → kxE X.K C ∧ PySem.W.kitOne X.K (.ref C) cv = some (ib k))
    (hz : Zc u.cls u.d oe) (hv : ∃ vs, oe.data = .fields vs) (hi : PE (X.suite u.a ((u.a, oe) :: pn)) e (tVar i)) (ht : PE (X.suite u.a ((u.a, oe) :: pn)) t (tC c)) (hcv : ∀ w, RelV c w → w = cv) (hg : Gl X "isinstance") (hm : X.mg "isinstance" = none)
    (he : starEach (e :: [t]) X.env = (false, eval e X.env) :: starEach [t] X.env := by rfl) (he2 : starEach (t :: []) X.env = (false, eval t X.env) :: starEach [] X.env := by rfl) (hpl : (backTo pos (starEach [t] X.env)).any (·.1) = false := by rfl) :
    PED (X.suite u.a ((u.a, oe) :: pn)) W (.Call (.Name "isinstance" p) [e, t] [] pos) (dXi i u er ib) := by
  refine ⟨_, pe_callB (call_isX hz hv) hg hm PyProof.Rows.boot_isinstance (pa_cons hi (pa_cons ht pa_nil he2) he) (by decide) (by decide) he hpl, fun C' H0 H σ st Ex Q Qv hI hX' hQ hg => ?_⟩
  obtain ⟨h1, hg⟩ := hg
  have hs := hI.slots i
  rw [h1] at hs
  obtain ⟨e1, ⟨D, hD, ec⟩, h4⟩ := hs
  obtain ⟨k1, k2⟩ := hX _ _ hD
  refine ⟨.ref u.a, e1, D, cv, c, ib er.k, ec, k1, ?_, rfl, hcv, k2, hQ _ _ _ H0 H hg hI (Same.refl _) rep_bl⟩
  rcases h4 with h4 | ⟨dd, v, e2, e3, e4⟩
  · exact .inl h4.2
  · exact .inr ⟨dd, _, e2, hI.same _ _ e3⟩
end
/-! ### repr of data -/
mutual
def pdat : D → Option PyData
  | .non => some .none
  | .bl b => some (.bool b)
  | .int i => some (.int i)
  | .str x => some (.str x)
  | .glo _ => none
  | .nd .tup ds => (pdatL ds).map .tuple
  | .nd .lst ds => (pdatL ds).map .list
  | .nd _ _ => none
def pdatL : List D → Option (List PyData)
  | [] => some []
  | d :: ds => match pdat d with
    | none => none
    | some p => (pdatL ds).map (p :: ·)
end
def pdatT : D → Option PyData
  | .nd (.dic _) [] => some (.dict [])
  | d => pdat d
def reprD (d : D) : Str := match pdatT d with
  | some p => p.shown
  | none => ""
def reprOk (d : D) : Bool := match pdatT d with
  | some p => p.showable && (decide (p.shown.length ≤ sizeLine) && decide (p.depth ≤ 50))
  | none => false
section
variable {X : Cx} {pins : List (Addr × Obj)} {σ : L2.St} {s : Shared} {H0 H : Hp}
mutual
theorem reads_of (I : Inv X pins σ H s) (sm : Same H0 H) : ∀ (d : D) (p : PyData) (v : V) (u : Value), pdat d = some p → Rep X.K X.mg H0 d v → RelV v u → ∃ as, Reads s.heap u p as ∧ p.hasDict = false
  | .non, p, v, u, e, h, r => by
    cases e; cases h.non; cases r
    exact ⟨[], .none, rfl⟩
  | .bl b, p, v, u, e, h, r => by
    cases e; cases h.bl; cases r
    exact ⟨[], .bool b, rfl⟩
  | .int b, p, v, u, e, h, r => by
    cases e; cases h.int; obtain ⟨t, rfl⟩ := r
    exact ⟨[], .int b t, rfl⟩
  | .str b, p, v, u, e, h, r => by
    cases e; cases h.str; obtain ⟨t, rfl⟩ := r
    exact ⟨[], .str b t, rfl⟩
  | .glo _, p, v, u, e, h, r => by cases e
  | .nd .tup ds, p, v, u, e, h, r => by
    obtain ⟨a, vs, rfl, h2, h3⟩ := h.nd
    cases r
    cases hp : pdatL ds with
    | none => rw [pdat, hp] at e; cases e
    | some ps =>
      rw [pdat, hp] at e; cases e
      obtain ⟨its, rv, ⟨o, ho, hc, n, hd⟩, _⟩ := I.tuple (h2.mono sm)
      obtain ⟨as, h4, h5⟩ := readsL_of I sm ds ps vs its hp h3 rv
      exact ⟨as, .tuple ho hc hd (by simpa using h4), by simpa [PyData.hasDict] using h5⟩
  | .nd .lst ds, p, v, u, e, h, r => by
    obtain ⟨a, vs, rfl, h2, h3⟩ := h.nd
    cases r
    cases hp : pdatL ds with
    | none => rw [pdat, hp] at e; cases e
    | some ps =>
      rw [pdat, hp] at e; cases e
      obtain ⟨_, its, n, rv, ho⟩ := show ObjOk X.prog X.w H s.heap a (.lst vs) from I.hok a _ (sm _ _ h2)
      obtain ⟨as, h4, h5⟩ := readsL_of I sm ds ps vs its hp h3 rv
      exact ⟨a :: as, .list ho rfl rfl (by simpa using h4), by simpa [PyData.hasDict] using h5⟩
  | .nd .scr ds, p, v, u, e, h, r => by cases e
  | .nd (.dic ks) ds, p, v, u, e, h, r => by cases e
  | .nd (.ins c fs) ds, p, v, u, e, h, r => by cases e
theorem readsL_of (I : Inv X pins σ H s) (sm : Same H0 H) : ∀ (ds : List D) (ps : List PyData) (vs : List V) (us : List Value), pdatL ds = some ps → RepL X.K X.mg H0 ds vs → Vals vs us → ∃ as, ReadsAll s.heap us ps as ∧ PyData.hasDictAll ps = false
  | [], ps, vs, us, e, h, r => by
    cases e; cases h.nil; cases r
    exact ⟨[], .nil, rfl⟩
  | d :: ds, ps, vs, us, e, h, r => by
    obtain ⟨v, vr, rfl, h2, h3⟩ := h.cons
    cases r with
    | cons r1 r2 =>
      cases hp : pdat d with
      | none => rw [pdatL, hp] at e; cases e
      | some p =>
        cases hq : pdatL ds with
        | none => rw [pdatL, hp, hq] at e; cases e
        | some qs =>
          rw [pdatL, hp, hq] at e; cases e
          obtain ⟨as, a1, a2⟩ := reads_of I sm d p v _ hp h2 r1
          obtain ⟨bs, b1, b2⟩ := readsL_of I sm ds qs vr _ hq h3 r2
          exact ⟨as ++ bs, .cons a1 b1, by simp [PyData.hasDictAll, a2, b2]⟩
end
/-- repr(d) -/
def rRepr (K : PySem.W.Frag) (mg : Str → Option Value) : List V → Hp → VK → Prop := fun xs H Q => ∃ (H0 : Hp) (d : D) (v : V), xs = [v] ∧ Same H0 H ∧ Rep K mg H0 d v ∧ reprOk d = true ∧ Q (.str (reprD d)) H
theorem cr_repr (hg : X.A.guards = some []) (hu : X.A.units + 60 < cLine) : CallR X (.builtin "repr") (rRepr X.K X.mg) := by
  intro pins s σ H xs us Q I r h
  obtain ⟨H0, d, v, rfl, sm, hr, ok, q⟩ := h
  rcases r with _ | ⟨rx, _ | _⟩
  rename_i u
  have fin : ∀ (h' : Heap) (w tk : Tok), (∀ b o, s.heap.get? b = some o → h'.get? b = some o) → EP X pins σ Q (.str (reprD d) w) { s with heap := h', toks := tk } := fun h' w tk k =>
    ⟨.str (reprD d), H, I.kept (t' := tk) k, ⟨w, rfl⟩, q⟩
  have main : ∀ (p : PyData), pdat d = some p → reprD d = p.shown → p.showable = true → p.shown.length ≤ sizeLine → p.depth ≤ 50 → wpAny (model X.prog X.w) X.A (call (.builtin "repr") [u]) (EP X pins σ Q) X.xe s := by
    intro p hp e1 h1 h2 h3
    obtain ⟨as, a1, a2⟩ := reads_of I sm d p v u hp hr rx
    cases a1 with
    | none => exact PySem.P.repr_of_none (by have z := fin s.heap s.toks (s.toks + 1) (fun _ _ z => z); rw [e1] at z; exact z)
    | bool b => exact PySem.P.repr_of_bool (by have z := fin s.heap s.toks (s.toks + 1) (fun _ _ z => z); rw [e1] at z; exact z)
    | int i t => exact PySem.P.repr_of_int (by simpa [PyData.showable] using h1) (by have z := fin s.heap s.toks (s.toks + 1) (fun _ _ z => z); rw [e1] at z; exact z)
    | str x t => exact PySem.P.repr_of_str (by have z := fin s.heap s.toks (s.toks + 1) (fun _ _ z => z); rw [e1] at z; exact z) (by simpa [PyData.shown] using h2)
    | list a b c d' => exact repr_of_reads' (.list a b c d') h1 (fun z => by rw [a2] at z; cases z) hg (by omega) (fun _ _ z => z) (fun h' w tk k => by rw [← e1]; exact fin h' w tk k) h2
    | tuple a b c d' => exact repr_of_reads' (.tuple a b c d') h1 (fun z => by rw [a2] at z; cases z) hg (by omega) (fun _ _ z => z) (fun h' w tk k => by rw [← e1]; exact fin h' w tk k) h2
    | dict _ _ _ _ _ => cases a2
  unfold reprOk at ok
  cases hp : pdatT d with
  | none => rw [hp] at ok; cases ok
  | some p =>
    rw [hp] at ok
    obtain ⟨h1, h23⟩ := Bool.and_eq_true_iff.mp ok
    obtain ⟨h2, h3⟩ := Bool.and_eq_true_iff.mp h23
    have h2 := of_decide_eq_true h2
    have h3 := of_decide_eq_true h3
    have e1 : reprD d = p.shown := by unfold reprD; rw [hp]
    by_cases hd : ∃ ks, d = .nd (.dic ks) []
    · obtain ⟨ks, rfl⟩ := hd
      obtain rfl : PyData.dict [] = p := Option.some.inj hp
      obtain ⟨a, vs, rfl, hn, hl⟩ := hr.nd
      cases hl.nil
      cases rx
      obtain ⟨hk, hn⟩ := hn
      obtain rfl : ks = [] := List.length_eq_zero_iff.mp hk
      obtain ⟨_, hs, kv, hv, o, es, ep, ho, hx, hdd, _, he, _⟩ := show ObjOk X.prog X.w H s.heap a (.dK ([].zip [])) from (Rd.mono sm hn).ok I.hok
      cases hv
      have e0 : es.toList = [] := by
        cases hq : es.toList with
        | nil => rfl
        | cons y ys => rw [hq] at he; cases he
      refine repr_of_reads' (d := .dict []) (.dict (kvs := []) ho hx.1 hdd (by rw [e0]; exact .nil) (by rw [e0]; exact .nil)) h1 (fun _ z => ?_) hg (by omega) (fun _ _ z => z) (fun h' w tk k => by rw [← e1]; exact fin h' w tk k) h2
      have z' : sysModules = a := by simpa using z
      rw [← z'] at hs
      exact absurd hs (by decide)
    · refine main p ?_ e1 h1 h2 h3
      rw [← hp]
      unfold pdatT
      split
      · exact (hd ⟨_, rfl⟩).elim
      · rfl
def fRepr (xs : List D) (Q : D → Prop) : Prop := match xs with
  | [d] => reprOk d = true ∧ Q (.str (reprD d))
  | _ => False
theorem c_repr (hg : X.A.guards = some []) (hu : X.A.units + 60 < cLine) : CallD X (.builtin "repr") fRepr := ⟨_, cr_repr hg hu, fun H0 H xs vs Q Qv s r hf k => by
  unfold fRepr at hf
  split at hf
  · obtain ⟨v, rfl, h⟩ := r.one
    exact ⟨H0, _, v, rfl, s, h, hf.1, k _ _ hf.2 rep_str⟩
  · exact hf.elim⟩
end
end PD

/-! is, lists added, {}, defaults. -/
namespace PD
open PySem PySem.Spec PyProof.Rows L2
def fIs (x : D) (y : D) (Q : D → Prop) : Prop := match x, y with
  | x, .non => Q (.bl (isNon x))
  | .bl a, .bl b => Q (.bl (decide (a = b)))
  | _, _ => False
def fIsNot (x : D) (y : D) (Q : D → Prop) : Prop := match x, y with
  | x, .non => Q (.bl (!isNon x))
  | .bl a, .bl b => Q (.bl (!decide (a = b)))
  | _, _ => False
section
variable {X : Cx} {W : WX} {a b e : Expr} {es : List Expr} {ga gb : DE} {pos p : Pos} {k : Nat} {f : Addr} {fd : FuncData} {ps : List Str} {x : Str} {n : Nat}
def rIs : List V → Hp → VK → Prop := fun _ _ _ => True
theorem o_is : OpD X (compareOp .Is) fIs := by
  refine ⟨fun x y H Q => (y = .non ∧ Q (.bl (decide (x = .non))) H) ∨ ∃ a b, x = .bl a ∧ y = .bl b ∧ Q (.bl (decide (a = b))) H, fun pins s σ H x y v u Q I rx ry h => h.elim (op_isN pins s σ H x y v u Q I rx ry) (op_is_bl pins s σ H x y v u Q I rx ry), fun H0 H x y v u Q Qv s rx ry hf k => ?_⟩
  unfold fIs at hf
  split at hf
  · cases ry.non
    exact .inl ⟨rfl, k _ _ hf (by rw [← rx.isN]; exact rep_bl)⟩
  · cases rx.bl; cases ry.bl
    exact .inr ⟨_, _, rfl, rfl, k _ _ hf rep_bl⟩
  · exact hf.elim
theorem o_isNot : OpD X (compareOp .IsNot) fIsNot := by
  refine ⟨fun x y H Q => (y = .non ∧ Q (.bl (!decide (x = .non))) H) ∨ ∃ a b, x = .bl a ∧ y = .bl b ∧ Q (.bl (!decide (a = b))) H, fun pins s σ H x y v u Q I rx ry h => h.elim (op_notN pins s σ H x y v u Q I rx ry) (op_isnot_bl pins s σ H x y v u Q I rx ry), fun H0 H x y v u Q Qv s rx ry hf k => ?_⟩
  unfold fIsNot at hf
  split at hf
  · cases ry.non
    exact .inl ⟨rfl, k _ _ hf (by rw [← rx.isN]; exact rep_bl)⟩
  · cases rx.bl; cases ry.bl
    exact .inr ⟨_, _, rfl, rfl, k _ _ hf rep_bl⟩
  · exact hf.elim
/-- two lists added: a new one -/
def dCat (ga gb : DE) (Ex : DX) (st : LS) (Q : S → LS → Prop) : Prop := ga Ex st fun x st1 => gb Ex st1 fun y st2 => match x, y with
  | .nd .lst xs, .nd .lst ys => (xs.length + ys.length ≤ 16777216) ∧ ∀ p, Q (.ow p true .lst (xs ++ ys)) st2
  | _, _ => False
theorem pod_cat (ha : PED X W a ga) (hb : PED X W b gb) : POD X W (.BinOp a .Add b pos) (dCat ga gb) := by
  obtain ⟨ta, pa, qa⟩ := ha.ex
  obtain ⟨tb, pb, qb⟩ := hb.ex
  refine ⟨_, pe_op op_cat pa pb, fun C H0 H σ st Ex Q Qv hI hX hQ hg => qa C H0 H σ st Ex _ _ hI hX (fun x st1 v H1 K1 q1 i1 s1 r1 => ?_) hg⟩
  refine qb C H1 K1 σ st1 Ex _ _ i1 (hX.up s1) (fun y st2 u H2 K2 q2 i2 s2 r2 => ?_) q1
  split at q2
  · rename_i xs ys
    obtain ⟨l, vs, rfl, h3, h4⟩ := (Rep.mono s2 _ _ r1).nd
    obtain ⟨m, us, rfl, h5, h6⟩ := r2.nd
    refine ⟨l, m, vs, us, rfl, rfl, i2.same _ _ h3, i2.same _ _ h5, by rw [h4.length, h6.length]; exact q2.1, fun p hp => ?_⟩
    obtain ⟨i3, r3⟩ := i2.made (o := .lst (vs ++ us)) (t := .lst) hp upd_same (h4.append h6)
    exact hQ _ st2 _ H2 _ (q2.2 p) i3 (s1.trans s2) r3
  · exact q2.elim
/-- {} -/
def dDic0 (_Ex : DX) (st : LS) (Q : D → LS → Prop) : Prop := Q (.nd (.dic []) []) st
theorem ped_dic0 : PED X W (.Dict [] [] pos) dDic0 := ⟨_, pe_dnewK, fun C H0 H σ st Ex Q Qv hI hX hQ hg p hp =>
  hQ _ st _ _ _ hg (hI.new (o := .dK []) hp) (same_upd (hI.same.free hp)) (rep_nd (vs := []) ⟨rfl, .inl upd_same⟩ repL_nil)⟩
/-- a call that leaves the last arguments to the defaults -/
def dcAD (φ : SpA) (dd : List D) (g : DA) (Ex : DX) (st : LS) (Q : S → LS → Prop) : Prop := g Ex st fun ds st1 => φ (ds ++ dd) (fun e => Ex e st1) fun r => Q r st1
theorem run_GD {E : L2.St → XK} {pins : List (Addr × Obj)} {σ : L2.St} {H : Hp} {s : Shared} {Q : VK} {us ds : List Value} {vs dv : List V} {sp : Sp} (F : FnG X.prog X.w X.K X.mg X.base k f fd ps sp) (hr : RoomG k X.A) (hb : Binds X.K fd ps ds) (hx : PassesAt (L2.CX X.prog X.w) X σ (E σ))
    (I : Inv X pins σ H s) (r : Vals vs us) (rd : Vals dv ds) (h : sp (vs ++ dv) H Q (E σ)) : wpAny (model X.prog X.w) X.A (call (.ref f) us) (EP X pins σ Q) X.xe s := by
  have rr := r.append rd
  have b := hb s us I.kIn (by rw [← rr.length]; exact F.len _ _ _ _ h)
  refine wpAny_call (codeAny_mono (F.run X.A X.stack s H ⟨us, []⟩ (us ++ ds) (vs ++ dv) Q (E σ) hr I.env0 b rr h) fun r s' hq => ?_)
  rcases r with er | _ | _ | _ | u
  · exact hx pins H s er s' I hq
  · exact hq.elim
  · exact hq.elim
  · exact hq.elim
  · exact I.after hq
theorem pod_callAD {φ : SpA} {g : DA} {dd : List D} {dv : List V} (tk : Takes X W) (F : FnG X.prog X.w X.K X.mg X.base k f fd ps (toA X.K X.mg n φ)) (hr : RoomG k X.A) (hg : Gl X x) (hm : X.mg x = some (.ref f)) (hk : PySem.W.keepIn X.K (.ref f) = true)
    (hb : ∃ dvs, Vals dv dvs ∧ Binds X.K fd ps dvs) (hd : ∀ H, RepL X.K X.mg H dd dv)
    (ha : PAD X W (e :: es) g) (hl : (e :: es).length + dd.length = n := by rfl) (hdb : (x == ("__debug__" : Str)) = false := by decide) (he : starEach (e :: es) X.env = (false, eval e X.env) :: starEach es X.env := by rfl) (hpl : (backTo pos (starEach es X.env)).any (·.1) = false := by rfl) :
    POD X W (.Call (.Name x p) (e :: es) [] pos) (dcAD φ dd g) := by
  obtain ⟨ta, pa, qa⟩ := ha.ex
  obtain ⟨dvs, rd, hb⟩ := hb
  have pe : PE X (.Call (.Name x p) (e :: es) [] pos) (fun σ H Q => ta σ H fun vs H1 => toA X.K X.mg n φ (vs ++ dv) H1 Q (WE W σ)) :=
    ⟨fun pins s σ H Q I h => wpAny_Call_Name_kw (ld_glob I hg hm (PySem.W.callWith_K (h₀ := X.base) I.ok.mod.kin hk (thn (pa.run pos pins s σ H _ I h) fun us s1 ⟨vs, H1, I1, r, q⟩ => ⟨I1.kIn, run_GD F hr hb (passAt tk σ) I1 r rd q⟩) he hpl) hdb)⟩
  refine ⟨_, pe, fun C H0 H σ st Ex Q Qv hI hX hQ hg => qa C H0 H σ st Ex _ _ hI hX (fun ds st1 vs H1 K1 q1 i1 s1 r1 el => ?_) hg⟩
  refine ⟨by rw [List.length_append, r1.length, el, (hd H1).length]; exact hl, H1, ds ++ dd, _, _, i1.same, r1.append (hd H1), q1, fun er H2 K2 cls d q2 f2 r2 => ?_, fun r v H2 K2 q2 f2 r2 => ?_⟩
  · exact hX er st1 H2 K2 cls d q2 (i1.callA f2) (s1.trans f2.s0) r2
  · exact hQ r st1 v H2 K2 q2 (i1.callA f2) (s1.trans f2.s0) (RepT.r i1 (fun k a l t ds q => ⟨l, t, ds, q⟩) r2)
end
theorem room_un {k : Nat} {A : Around} (h : RoomG k A) : A.units + 60 < cLine := by have := h.r.un; omega
end PD

/-! facts of the error classes, put together. -/
namespace PD
open PySem PySem.Spec PyProof.Rows L2
section
variable {K : PySem.W.Frag} {C D W : Addr}
theorem cls_some (h : PySem.W.hasDictIn K C = true) : (PySem.W.clsIn K C).isSome = true := by
  obtain ⟨cd, hc, _⟩ := PySem.W.any_some h
  rw [hc]; rfl
theorem kit_ref (hd : PySem.W.hasDictIn K W = true) (ht : PySem.W.typeIn K (.ref W) = some (.type "type")) (hs : PySem.W.subIn K (.ref C) (.ref W) = some true) : PySem.W.kitOne K (.ref C) (.ref W) = some true := by
  unfold PySem.W.kitOne PySem.W.kitCls
  split
  · rfl
  · dsimp only
    rw [cls_some hd, ht, hs]; rfl
theorem kxe_mk (ga : PySem.W.findIn K (.ref D) "__getattribute__" = some (some (.builtin "BaseException.__getattribute__"))) (gg : PySem.W.findIn K (.ref D) "__getattr__" = some none) (ex : PySem.W.subIn K (.ref D) (.type "BaseException") = some true) (hd : PySem.W.hasDictIn K D = true)
    (cc : PySem.W.findIn K (.ref D) "__class__" = some (some (.builtin "object.__class__"))) (sp : PySem.W.specialIn K (.builtin "object.__class__") "__get__" = some (some (.builtin "getset_descriptor.__get__"))) (tk : PySem.W.takesIn K (.builtin "object.__class__") = some true) (mo : PySem.W.mroIn K D (.type "object") = some true) : kxE K D :=
  ⟨cls_some hd, ga, gg, ex, cc, sp, tk, mo⟩
theorem binds_none {fd : FuncData} {ps : List Str} (h : ∃ ds, Vals [] ds ∧ Binds K fd ps ds) : Binds K fd ps [] := by
  obtain ⟨ds, rd, hb⟩ := h
  cases rd
  exact hb
end
end PD

namespace PD
open PySem PySem.Spec PyProof.Rows L2
/-! ### the defs of numbers -/
theorem gi0 {α : Type} {x : α} {l : List α} : geti (x :: l) 0 = some x := rfl
theorem gi1 {α : Type} {x y : α} {l : List α} : geti (x :: y :: l) 1 = some y := rfl
theorem gi2 {α : Type} {x y z : α} {l : List α} : geti (x :: y :: z :: l) 2 = some z := rfl
theorem gi3 {α : Type} {x y z w : α} {l : List α} : geti (x :: y :: z :: w :: l) 3 = some w := rfl
theorem si0 {α : Type} {x y d : α} : seti [x, y] 0 d = some [d, y] := rfl
theorem si1 {α : Type} {x y d : α} : seti [x, y] 1 d = some [x, d] := rfl
theorem pm_c {f : D → S} {x : D} {l : List D} : (x :: l).map f = f x :: l.map f := rfl
theorem pm_n {f : D → S} : ([] : List D).map f = [] := rfl
theorem pa_c {x : S} {l m : List S} : (x :: l) ++ m = x :: (l ++ m) := rfl
theorem pa_n {m : List S} : ([] : List S) ++ m = m := rfl
theorem pr_s {n : Nat} {x : S} : List.replicate (n + 1) x = x :: List.replicate n x := rfl
theorem pr_0 {x : S} : List.replicate 0 x = [] := rfl
theorem pl_c {x : D} {l : List D} : (x :: l).length = l.length + 1 := rfl
theorem pl_n : ([] : List D).length = 0 := rfl
theorem pg_0 {x : S} {l : List S} : (x :: l)[0]? = some x := rfl
theorem pg_s {x : S} {l : List S} {n : Nat} : (x :: l)[n + 1]? = l[n]? := rfl
theorem ps_0 {x y : S} {l : List S} : (x :: l).set 0 y = y :: l := rfl
theorem ps_s {x y : S} {l : List S} {n : Nat} : (x :: l).set (n + 1) y = x :: l.set n y := rfl
theorem bl_t : (D.bl !true) = D.bl false := rfl
theorem bl_f : (D.bl !false) = D.bl true := rfl
local macro_rules | `(tactic| walk_at "pd") => `(tactic| dsimp only [startA, endsA, endsB, startB, backB, dNx, dSeq, dSet, dPar, dAsg, dRet, dRetN, dIfS, dDrop, dBk, dCt, dNo, dVar, dC, dFz, dRes, dTst, dOp, dUn, dAnd, dOr, dNot, dIf, dAndT, dOrT, dNotT, dANil, dACons, dTup, dLst, dCB, dcA, dcB, dCallA, dCallB, dix, dIxO, dst, dStore, dap, dAppend, dFor, dForL, dRng1, dRng2, dItemsL, dItemsT, gdName, gdNil, gdCons, gdTup, dSlL, dNoP, dSomeP,
  fI, fI0, fB, fU, fAdd, fSub, fMul, fDiv, fMod, fPow, fLt, fLe, fGt, fGe, fNeg, fIx, fAbs, fMax2, fMin2, fInt, fLen, fIsN, fIsNotN, isNon, fIs, fIsNot, dTry, dTryX, dRaise, dXf, dXi, dCat, dDic0, dcAD, fRepr, gi0, gi1, gi2, gi3, si0, si1, bl_t, bl_f,
  pm_c, pm_n, pa_c, pa_n, pr_s, pr_0, pl_c, pl_n, pg_0, pg_s, ps_0, ps_s, Nat.reduceAdd, Nat.reduceSub])
local macro_rules | `(tactic| walk_at "pc") => `(tactic| dsimp only [startA, endsA, endsB, startB, backB, dNx, dSeq, dSet, dPar, dAsg, dRet, dRetN, dIfS, dDrop, dBk, dCt, dNo, dVar, dC, dFz, dRes, dTst, dOp, dUn, dAnd, dOr, dNot, dIf, dAndT, dOrT, dNotT, dANil, dACons, dTup, dLst, dCB, dcA, dcB, dCallA, dCallB, dix, dIxO, dst, dStore, dap, dAppend, dFor, dRng1, dRng2, dItemsL, dItemsT, gdName, gdNil, gdCons, gdTup, dSlL, dNoP, dSomeP,
  fI, fI0, fB, fU, fAdd, fSub, fMul, fDiv, fMod, fPow, fLt, fLe, fGt, fGe, fNeg, fIx, fAbs, fMax2, fMin2, fInt, fLen, fIsN, fIsNotN, isNon, fIs, fIsNot, dTry, dTryX, dRaise, dXf, dXi, dCat, dDic0, dcAD, fRepr, gi0, gi1, gi2, gi3, si0, si1, bl_t, bl_f,
  pm_c, pm_n, pa_c, pa_n, pr_s, pr_0, pl_c, pl_n, pg_0, pg_s, ps_0, ps_s, Nat.reduceAdd, Nat.reduceSub])
def isInt : D → Bool
  | .int _ => true
  | _ => false
def okTy (x : D) : Prop := (tyN x == "") = false
theorem k_NoneType_int : kitB "NoneType" "int" = some false := by decide +kernel
theorem k_bool_int : kitB "bool" "int" = some true := by decide +kernel
theorem k_int_int : kitB "int" "int" = some true := by decide +kernel
theorem k_str_int : kitB "str" "int" = some false := by decide +kernel
theorem k_tuple_int : kitB "tuple" "int" = some false := by decide +kernel
theorem k_list_int : kitB "list" "int" = some false := by decide +kernel
theorem k_dict_int : kitB "dict" "int" = some false := by decide +kernel
def isa_int : D → Bool
  | .non => false
  | .bl _ => true
  | .int _ => true
  | .str _ => false
  | .glo _ => false
  | .nd .tup _ => false
  | .nd .lst _ => false
  | .nd .scr _ => false
  | .nd (.dic _) _ => false
  | .nd (.ins _ _) _ => false
theorem kit_int {x : D} (h : okTy x) : kitB (tyN x) "int" = some (isa_int x) := by
  cases x with
  | non => exact k_NoneType_int
  | bl b => exact k_bool_int
  | int b => exact k_int_int
  | str b => exact k_str_int
  | glo x => exact absurd (show ("" == "") = false from h) (by decide)
  | nd t ds =>
    cases t with
    | tup => exact k_tuple_int
    | lst => exact k_list_int
    | scr => exact k_list_int
    | dic ks => exact k_dict_int
    | ins c fs => exact absurd (show ("" == "") = false from h) (by decide)
theorem k_NoneType_bool : kitB "NoneType" "bool" = some false := by decide +kernel
theorem k_bool_bool : kitB "bool" "bool" = some true := by decide +kernel
theorem k_int_bool : kitB "int" "bool" = some false := by decide +kernel
theorem k_str_bool : kitB "str" "bool" = some false := by decide +kernel
theorem k_tuple_bool : kitB "tuple" "bool" = some false := by decide +kernel
theorem k_list_bool : kitB "list" "bool" = some false := by decide +kernel
theorem k_dict_bool : kitB "dict" "bool" = some false := by decide +kernel
def isa_bool : D → Bool
  | .non => false
  | .bl _ => true
  | .int _ => false
  | .str _ => false
  | .glo _ => false
  | .nd .tup _ => false
  | .nd .lst _ => false
  | .nd .scr _ => false
  | .nd (.dic _) _ => false
  | .nd (.ins _ _) _ => false
theorem kit_bool {x : D} (h : okTy x) : kitB (tyN x) "bool" = some (isa_bool x) := by
  cases x with
  | non => exact k_NoneType_bool
  | bl b => exact k_bool_bool
  | int b => exact k_int_bool
  | str b => exact k_str_bool
  | glo x => exact absurd (show ("" == "") = false from h) (by decide)
  | nd t ds =>
    cases t with
    | tup => exact k_tuple_bool
    | lst => exact k_list_bool
    | scr => exact k_list_bool
    | dic ks => exact k_dict_bool
    | ins c fs => exact absurd (show ("" == "") = false from h) (by decide)
theorem k_NoneType_tuple : kitB "NoneType" "tuple" = some false := by decide +kernel
theorem k_bool_tuple : kitB "bool" "tuple" = some false := by decide +kernel
theorem k_int_tuple : kitB "int" "tuple" = some false := by decide +kernel
theorem k_str_tuple : kitB "str" "tuple" = some false := by decide +kernel
theorem k_tuple_tuple : kitB "tuple" "tuple" = some true := by decide +kernel
theorem k_list_tuple : kitB "list" "tuple" = some false := by decide +kernel
theorem k_dict_tuple : kitB "dict" "tuple" = some false := by decide +kernel
def isa_tuple : D → Bool
  | .non => false
  | .bl _ => false
  | .int _ => false
  | .str _ => false
  | .glo _ => false
  | .nd .tup _ => true
  | .nd .lst _ => false
  | .nd .scr _ => false
  | .nd (.dic _) _ => false
  | .nd (.ins _ _) _ => false
theorem kit_tuple {x : D} (h : okTy x) : kitB (tyN x) "tuple" = some (isa_tuple x) := by
  cases x with
  | non => exact k_NoneType_tuple
  | bl b => exact k_bool_tuple
  | int b => exact k_int_tuple
  | str b => exact k_str_tuple
  | glo x => exact absurd (show ("" == "") = false from h) (by decide)
  | nd t ds =>
    cases t with
    | tup => exact k_tuple_tuple
    | lst => exact k_list_tuple
    | scr => exact k_list_tuple
    | dic ks => exact k_dict_tuple
    | ins c fs => exact absurd (show ("" == "") = false from h) (by decide)
theorem k_NoneType_str : kitB "NoneType" "str" = some false := by decide +kernel
theorem k_bool_str : kitB "bool" "str" = some false := by decide +kernel
theorem k_int_str : kitB "int" "str" = some false := by decide +kernel
theorem k_str_str : kitB "str" "str" = some true := by decide +kernel
theorem k_tuple_str : kitB "tuple" "str" = some false := by decide +kernel
theorem k_list_str : kitB "list" "str" = some false := by decide +kernel
theorem k_dict_str : kitB "dict" "str" = some false := by decide +kernel
def isa_str : D → Bool
  | .non => false
  | .bl _ => false
  | .int _ => false
  | .str _ => true
  | .glo _ => false
  | .nd .tup _ => false
  | .nd .lst _ => false
  | .nd .scr _ => false
  | .nd (.dic _) _ => false
  | .nd (.ins _ _) _ => false
theorem kit_str {x : D} (h : okTy x) : kitB (tyN x) "str" = some (isa_str x) := by
  cases x with
  | non => exact k_NoneType_str
  | bl b => exact k_bool_str
  | int b => exact k_int_str
  | str b => exact k_str_str
  | glo x => exact absurd (show ("" == "") = false from h) (by decide)
  | nd t ds =>
    cases t with
    | tup => exact k_tuple_str
    | lst => exact k_list_str
    | scr => exact k_list_str
    | dic ks => exact k_dict_str
    | ins c fs => exact absurd (show ("" == "") = false from h) (by decide)
theorem k_NoneType_dict : kitB "NoneType" "dict" = some false := by decide +kernel
theorem k_bool_dict : kitB "bool" "dict" = some false := by decide +kernel
theorem k_int_dict : kitB "int" "dict" = some false := by decide +kernel
theorem k_str_dict : kitB "str" "dict" = some false := by decide +kernel
theorem k_tuple_dict : kitB "tuple" "dict" = some false := by decide +kernel
theorem k_list_dict : kitB "list" "dict" = some false := by decide +kernel
theorem k_dict_dict : kitB "dict" "dict" = some true := by decide +kernel
def isa_dict : D → Bool
  | .non => false
  | .bl _ => false
  | .int _ => false
  | .str _ => false
  | .glo _ => false
  | .nd .tup _ => false
  | .nd .lst _ => false
  | .nd .scr _ => false
  | .nd (.dic _) _ => true
  | .nd (.ins _ _) _ => false
theorem kit_dict {x : D} (h : okTy x) : kitB (tyN x) "dict" = some (isa_dict x) := by
  cases x with
  | non => exact k_NoneType_dict
  | bl b => exact k_bool_dict
  | int b => exact k_int_dict
  | str b => exact k_str_dict
  | glo x => exact absurd (show ("" == "") = false from h) (by decide)
  | nd t ds =>
    cases t with
    | tup => exact k_tuple_dict
    | lst => exact k_list_dict
    | scr => exact k_list_dict
    | dic ks => exact k_dict_dict
    | ins c fs => exact absurd (show ("" == "") = false from h) (by decide)
def phi_is_integer : SpA := fun ds _ Q => match ds with
  | [x] => okTy x ∧ Q (.fz (.bl (isInt x)))
  | _ => False
def g_is_integer : DS :=
  (dRet (dRes (dAnd (dUn (fIsi "int") (dVar 0)) (dNot (dUn (fIsi "bool") (dVar 0))))))
theorem law_is_integer : ∀ ds Ex Q, ds.length = 1 → phi_is_integer ds Ex Q → g_is_integer (endsA Ex Q) (startA 1 ds) := by
  intro ds Ex Q hl h
  unfold phi_is_integer at h
  split at h
  · rename_i x
    obtain ⟨ht, hq⟩ := h
    unfold g_is_integer
    walk_at "pd"
    simp only [fIsi, kit_int ht, kit_bool ht, show (tyN x == "") = false from ht]
    cases x with
    | nd t ds => cases t <;> exact hq
    | _ => exact hq
  · exact h.elim
def phi_common_divisor : SpA := fun ds _ Q => match ds with
  | [.int a, .int b] => Q (.fz (.int (Int.gcd a b)))
  | _ => False
def g_common_divisor_c1 : DT :=
  (dTst (dOp fGt (dVar 1) (dC (.int 0))))
def g_common_divisor_b1 : DS :=
  (dPar 0 1 (dVar 1) (dOp fMod (dVar 0) (dVar 1)))
def g_common_divisor : DS :=
  (dSeq (dPar 0 1 (dCB fAbs (dACons (dVar 0) dANil)) (dCB fAbs (dACons (dVar 1) dANil)))
    (dSeq (dWh g_common_divisor_c1 g_common_divisor_b1)
    (dRet (dRes (dVar 0)))))
theorem law_common_divisor : ∀ ds Ex Q, ds.length = 2 → phi_common_divisor ds Ex Q → g_common_divisor (endsA Ex Q) (startA 2 ds) := by
  intro ds Ex Q hl h
  unfold phi_common_divisor at h
  split at h
  · rename_i a b
    unfold g_common_divisor
    walk_at "pd"
    have key : ∀ (n : Nat) (a b : Int), 0 ≤ a → 0 ≤ b → b.natAbs < n → Q (.fz (.int (Int.gcd a b))) →
        dWhN g_common_divisor_c1 g_common_divisor_b1 n
          { nx := fun st1 => dRet (dRes (dVar 0)) (endsA Ex Q) st1, rt := fun r _ => Q r, bk := fun _ => False, ct := fun _ => False, ex := fun e _ => Ex e } [S.fz (.int a), S.fz (.int b)] := by
      intro n
      induction n with
      | zero => intro a b _ _ h; omega
      | succ n ih =>
        intro a b ha hb hn hq
        unfold dWhN g_common_divisor_c1 g_common_divisor_b1
        walk_at "pd"
        by_cases hb0 : b = 0
        · subst hb0
          simp only [Int.lt_irrefl, decide_false]
          rw [Int.gcd_zero_right] at hq
          rwa [Int.natAbs_of_nonneg ha] at hq
        · have hp : 0 < b := by omega
          simp only [hp, decide_true]
          refine ⟨hb0, ?_⟩
          have := fmod_lt_abs a hb0
          have h0 := Int.fmod_nonneg_of_pos a hp
          exact ih b (a.fmod b) hb h0 (by omega) (by rw [gcd_fmod]; exact hq)
    unfold dWh
    refine ⟨_, key _ _ _ ?_ ?_ (Nat.lt_succ_self _) ?_⟩
    · split <;> omega
    · split <;> omega
    · have e1 : (if a < 0 then -a else a) = (a.natAbs : Int) := by split <;> omega
      have e2 : (if b < 0 then -b else b) = (b.natAbs : Int) := by split <;> omega
      rw [e1, e2]
      exact h
  · exact h.elim


def phi_reduced : SpA := fun ds _ Q => match ds with
  | [.int n, .int d] => d ≠ 0 ∧ Bz 8000 d ∧ Q (.fz (rd n d))
  | _ => False
theorem gcd_bz {n d : Int} {b : Nat} (h : d ≠ 0) (k : Bz b d) : Bz b (Int.gcd n d : Int) := by
  have h1 : Int.gcd n d ∣ d.natAbs := Nat.gcd_dvd_right _ _
  have h2 : Int.gcd n d ≤ d.natAbs := Nat.le_of_dvd (by omega) h1
  unfold Bz at *; omega
theorem gd_bz {n d : Int} {b : Nat} (h : d ≠ 0) (k : Bz b d) : Bz b (gd n d) := by
  have := gcd_bz (n := n) h k
  unfold Bz at *
  rw [gd_abs]; omega
def g_reduced : DS :=
  (dSeq (dSet 2 (dcA phi_common_divisor (dACons (dVar 0) (dACons (dVar 1) dANil))))
    (dSeq (dIfS (dTst (dOp fLt (dVar 1) (dC (.int 0)))) (dSet 2 (dRes (dUn fNeg (dVar 2)))) dNx)
    (dRet (dRes (dTup (dACons (dOp fDiv (dVar 0) (dVar 2)) (dACons (dOp fDiv (dVar 1) (dVar 2)) dANil)))))))
theorem law_reduced : ∀ ds Ex Q, ds.length = 2 → phi_reduced ds Ex Q → g_reduced (endsA Ex Q) (startA 3 ds) := by
  intro ds Ex Q hl h
  unfold phi_reduced at h
  split at h
  · rename_i n d
    obtain ⟨hd, hb, hq⟩ := h
    have hg := gcd_pos (n := n) hd
    have kb := gcd_bz (n := n) hd hb
    unfold g_reduced
    walk_at "pd"
    unfold phi_common_divisor
    walk_at "pd"
    by_cases hn : d < 0
    · have e : gd n d = -(Int.gcd n d : Int) := by unfold gd sg; rw [if_neg (by omega)]; omega
      simp only [hn, decide_true]
      refine ⟨divOk (by omega) kb.neg, divOk (by omega) kb.neg, ?_⟩
      rw [← e]; exact hq
    · have e : gd n d = (Int.gcd n d : Int) := by unfold gd sg; rw [if_pos (by omega)]; omega
      simp only [hn, decide_false]
      refine ⟨divOk (by omega) kb, divOk (by omega) kb, ?_⟩
      rw [← e]; exact hq
  · exact h.elim
/-- whether a value is a fraction -/
def isPr : D → D → Bool
  | .int n, .int d => decide (1 ≤ d) && (Int.gcd n d == 1)
  | _, _ => false
def isFr : D → Bool
  | .nd .tup [a, b] => isPr a b
  | _ => false
/-- values whose types can be asked, as parts of a pair, too -/
def okP : D → Prop
  | .nd .tup [a, b] => okTy a ∧ okTy b
  | x => okTy x
def phi_is_fraction : SpA := fun ds _ Q => match ds with
  | [x] => okP x ∧ Q (.fz (.bl (isFr x)))
  | _ => False
theorem okP.ty {x : D} (h : okP x) : okTy x := by
  unfold okP at h
  split at h
  · show ("tuple" == "") = false; decide
  · exact h
theorem FrD.isFr {b : Nat} {x : D} (h : FrD b x) : isFr x = true := by
  have h1 := h.pos
  have h2 := h.cop
  rw [h.eq]
  unfold PD.isFr PD.isPr
  simp only [Bool.and_eq_true, decide_eq_true_eq, beq_iff_eq]
  exact ⟨h1, h2⟩
theorem FrD.okP {b : Nat} {x : D} (h : FrD b x) : okP x := by
  rw [h.eq]
  exact ⟨by show ("int" == "") = false; decide, by show ("int" == "") = false; decide⟩
theorem fEq_i1 {n : Nat} {Q : D → Prop} (q : Q (.bl (n == 1))) : fEq (.int (n : Int)) (.int 1) Q := fEq_int (by
  have e : ((n : Int) == 1) = (n == 1) := by rw [Bool.eq_iff_iff]; simp; omega
  rw [e]; exact q)
def g_is_fraction : DS :=
  (dSeq (dIfS (dOrT (dNotT (dTst (dUn (fIsi "tuple") (dVar 0)))) (dTst (dOp fNe (dCB fLen (dACons (dVar 0) dANil)) (dC (.int 2))))) (dRet (dRes (dC (.bl false)))) dNx)
    (dSeq (dIfS (dOrT (dNotT (dTst (dFz (dcA phi_is_integer (dACons (dOp fIx (dVar 0) (dC (.int 0))) dANil))))) (dOrT (dNotT (dTst (dFz (dcA phi_is_integer (dACons (dOp fIx (dVar 0) (dC (.int 1))) dANil))))) (dTst (dOp fLt (dOp fIx (dVar 0) (dC (.int 1))) (dC (.int 1)))))) (dRet (dRes (dC (.bl false)))) dNx)
    (dRet (dRes (dOp fEq (dFz (dcA phi_common_divisor (dACons (dOp fIx (dVar 0) (dC (.int 0))) (dACons (dOp fIx (dVar 0) (dC (.int 1))) dANil)))) (dC (.int 1)))))))
theorem law_is_fraction : ∀ ds Ex Q, ds.length = 1 → phi_is_fraction ds Ex Q → g_is_fraction (endsA Ex Q) (startA 1 ds) := by
  intro ds Ex Q hl h
  unfold phi_is_fraction at h
  split at h
  · rename_i x
    obtain ⟨ht, hq⟩ := h
    unfold g_is_fraction
    walk_at "pd"
    simp only [fIsi, kit_tuple ht.ty, show (tyN x == "") = false from ht.ty]
    cases x with
    | nd t l =>
      cases t with
      | tup =>
        simp only [isa_tuple, Bool.not_true]
        refine fNe_int ?_
        match l, ht, hq with
        | [], _, hq => exact hq
        | [a], _, hq => exact hq
        | a :: b :: c :: l, _, hq =>
          have e : ((((a :: b :: c :: l).length : Nat) : Int) == 2) = false := by
            simp only [List.length_cons, beq_eq_false_iff_ne, ne_eq]; omega
          simp only [e, Bool.not_false]
          exact hq
        | [a, b], ht, hq =>
          obtain ⟨ha, hb⟩ := ht
          have e : ((((([a, b] : List D).length : Nat) : Int)) == 2) = true := rfl
          simp only [e, Bool.not_true]
          walk_at "pd"
          refine ⟨ha, ?_⟩
          walk_at "pd"
          cases a with
          | int n =>
            simp only [isInt, Bool.not_true]
            refine ⟨hb, ?_⟩
            walk_at "pd"
            cases b with
            | int d =>
              simp only [isInt, Bool.not_true]
              by_cases hd : d < 1
              · simp only [hd, decide_true]
                have e : isFr (.nd .tup [.int n, .int d]) = false := by
                  unfold isFr isPr; simp; omega
                rw [e] at hq; exact hq
              · simp only [hd, decide_false]
                unfold phi_common_divisor
                walk_at "pd"
                refine fEq_i1 ?_
                have e : isFr (.nd .tup [.int n, .int d]) = (Int.gcd n d == 1) := by
                  show (decide (1 ≤ d) && (Int.gcd n d == 1)) = _
                  rw [decide_eq_true (by omega : 1 ≤ d), Bool.true_and]
                rw [e] at hq; exact hq
            | _ => exact hq
          | _ => exact hq
      | _ => exact hq
    | _ => exact hq
  · exact h.elim


/-! ### the helpers of the laws: a pool of draws, gcd, made -/
abbrev scr (ns : List Int) : D := .nd .scr (ns.map D.int)
theorem fdiv_nn {x m : Int} (hx : 0 ≤ x) (hm : 0 < m) : 0 ≤ x.fdiv m := Int.fdiv_nonneg hx (by omega)
theorem fmod_nn (x : Int) {m : Int} (hm : 0 < m) : 0 ≤ x.fmod m := Int.fmod_nonneg_of_pos x hm
theorem fmod_lt' (x : Int) {m : Int} (hm : 0 < m) : x.fmod m < m := Int.fmod_lt_of_pos x hm
theorem bz_nat {b : Nat} {x m : Int} (h0 : 0 ≤ x) (h : x ≤ m) (k : m < (2 : Int) ^ b) : Bz b x := by
  unfold Bz
  have : (2 : Int) ^ b = ((2 ^ b : Nat) : Int) := by rw [Int.natCast_pow]; rfl
  omega
/-- a new pool: two ints of at least 0 -/
def phi__law_pool : SpA := fun ds _ Q => match ds with
  | [.nd .scr l, .int k] => ∃ ns : List Int, l = ns.map D.int ∧ ns.length ≤ 63 ∧ 0 ≤ k ∧ k ≤ 1000 ∧ ∀ a x y, 0 ≤ x → 0 ≤ y → Q (.ow a true .lst [.int x, .int y])
  | _ => False
theorem geti_map {ns : List Int} {k : Int} (h0 : 0 ≤ k) (h : k < (ns.length : Int)) : ∃ v, geti (ns.map D.int) k = some (.int v) := by
  obtain ⟨n, rfl⟩ := Int.eq_ofNat_of_zero_le h0
  have hn : n < ns.length := by omega
  refine ⟨ns[n], ?_⟩
  show (ns.map D.int)[n]? = _
  rw [List.getElem?_map, List.getElem?_eq_getElem hn]; rfl
theorem cut_ints (ns : List Int) (lo hi : Option Int) : ∃ ms : List Int, cutD (ns.map D.int) lo hi = ms.map D.int := by
  unfold cutD
  rw [← List.map_drop, ← List.map_take]
  exact ⟨_, rfl⟩
def g__law_pool : DS :=
  (dSeq (dSet 2 (dRes (dOp fAdd (dOp fMul (dC (.int 11)) (dCB fSum (dACons (dFz (dSlL (dVar 0) dNoP (dSomeP (dC (.int 63))))) dANil))) (dVar 1))))
    (dSeq (dIfS (dTst (dOp fLt (dVar 1) (dCB fLen (dACons (dVar 0) dANil)))) (dSet 2 (dRes (dOp fIx (dVar 0) (dVar 1)))) dNx)
    (dSeq (dSet 3 (dRes (dCB fAbs (dACons (dVar 2) dANil))))
    (dSeq (dSet 4 (dRes (dOp fMod (dOp fMul (dOp fAdd (dOp fAdd (dOp fAdd (dOp fMod (dVar 3) (dC (.int 2147483629))) (dOp fMul (dOp fMul (dC (.int 7919)) (dVar 1)) (dVar 1))) (dOp fMul (dC (.int 31)) (dVar 1))) (dC (.int 17))) (dC (.int 48271))) (dC (.int 2147483647)))))
    (dRet (dLst (dACons (dOp fMul (dVar 3) (dCB fInt (dACons (dOp fGe (dVar 3) (dOp fPow (dC (.int 10)) (dC (.int 18)))) dANil))) (dACons (dOp fMod (dOp fMul (dVar 4) (dVar 4)) (dC (.int 2147483629))) dANil))))))))
theorem pool_end {great k : Int} {ds : List D} {Ex : DErr → Prop} {Q : S → Prop} (hk0 : 0 ≤ k) (hk : k ≤ 1000) (hg : 0 ≤ great) (hq : ∀ a x y, 0 ≤ x → 0 ≤ y → Q (.ow a true .lst [.int x, .int y])) (s0 s2 s4 : S) :
    dSeq (dSet 4 (dRes (dOp fMod (dOp fMul (dOp fAdd (dOp fAdd (dOp fAdd (dOp fMod (dVar 3) (dC (.int 2147483629))) (dOp fMul (dOp fMul (dC (.int 7919)) (dVar 1)) (dVar 1))) (dOp fMul (dC (.int 31)) (dVar 1))) (dC (.int 17))) (dC (.int 48271))) (dC (.int 2147483647)))))
    (dRet (dLst (dACons (dOp fMul (dVar 3) (dCB fInt (dACons (dOp fGe (dVar 3) (dOp fPow (dC (.int 10)) (dC (.int 18)))) dANil))) (dACons (dOp fMod (dOp fMul (dVar 4) (dVar 4)) (dC (.int 2147483629))) dANil)))) (endsA Ex Q) [s0, .fz (.int k), s2, .fz (.int great), s4] := by
  walk_at "pd"
  refine ⟨by decide, mulSmallL (by decide) (by decide), mulSmallR (by omega) (by omega), mulSmallL (by decide) (by decide), mulSmallR (by decide) (by decide), by decide, ?_⟩
  refine ⟨⟨by decide, by decide, by decide⟩, mulSmallR ?_ ?_, ?_⟩
  · split <;> decide
  · split <;> decide
  · have h0 := fmod_nn (((great.fmod 2147483629 + 7919 * k * k + 31 * k + 17)) * 48271) (m := 2147483647) (by decide)
    have h1 := fmod_lt' (((great.fmod 2147483629 + 7919 * k * k + 31 * k + 17)) * 48271) (m := 2147483647) (by decide)
    refine ⟨mulSmallL (by omega) (by omega), by decide, fun a => hq a _ _ ?_ (fmod_nn _ (by decide))⟩
    refine Int.mul_nonneg hg ?_
    split <;> decide
theorem seq_cut {a b : DS} {de : DEnds} {st : LS} (P : LS → Prop) (h1 : ∀ nx : LS → Prop, (∀ s, P s → nx s) → a { de with nx := nx } st) (h2 : ∀ s, P s → b de s) : dSeq a b de st :=
  h1 (fun s => b de s) h2
theorem law__law_pool : ∀ ds Ex Q, ds.length = 2 → phi__law_pool ds Ex Q → g__law_pool (endsA Ex Q) (startA 5 ds) := by
  intro ds Ex Q hl h
  unfold phi__law_pool at h
  split at h
  · rename_i l k
    obtain ⟨ns, rfl, hlen, hk0, hk, hq⟩ := h
    unfold g__law_pool
    refine seq_cut (fun s => ∃ c, s = [.fz (scr ns), .fz (.int k), .fz (.int c), .un, .un]) (fun nx hn => ?_) (fun s hs => ?_)
    · walk_at "pd"
      intro a
      obtain ⟨ms, hms⟩ := cut_ints ns none (some 63)
      rw [hms]
      refine ⟨ms, rfl, mulSmallL (by decide) (by decide), ?_⟩
      exact hn _ ⟨_, rfl⟩
    · obtain ⟨c, rfl⟩ := hs
      refine seq_cut (fun s => ∃ c, s = [.fz (scr ns), .fz (.int k), .fz (.int c), .un, .un]) (fun nx hn => ?_) (fun s hs => ?_)
      · walk_at "pd"
        by_cases hlt : k < (((ns.map D.int).length : Nat) : Int)
        · rw [decide_eq_true hlt]
          rw [List.length_map] at hlt
          obtain ⟨v, hv⟩ := geti_map hk0 hlt
          dsimp only
          rw [hv]
          exact hn _ ⟨_, rfl⟩
        · rw [decide_eq_false hlt]
          exact hn _ ⟨_, rfl⟩
      · obtain ⟨c, rfl⟩ := hs
        refine seq_cut (fun s => ∃ g, 0 ≤ g ∧ s = [.fz (scr ns), .fz (.int k), .fz (.int c), .fz (.int g), .un]) (fun nx hn => ?_) (fun s hs => ?_)
        · walk_at "pd"
          refine hn _ ⟨_, ?_, rfl⟩
          split <;> omega
        · obtain ⟨g, hg, rfl⟩ := hs
          exact pool_end (ds := []) hk0 hk hg hq _ _ _
  · exact h.elim
/-- a draw below m: any int from 0 on -/
def phi__law_draw : SpB := fun t es ds _ Q => match t, es, ds with
  | .lst, [.int x, .int y], [.int m] => 0 ≤ x ∧ 0 ≤ y ∧ 0 < m ∧ Bz 8000 m ∧ ∀ r x' y', 0 ≤ r → r < m → 0 ≤ x' → 0 ≤ y' → Q (.fz (.int r)) .lst [.int x', .int y']
  | _, _, _ => False
def g__law_draw : DS :=
  (dSeq (dIfS (dTst (dOp fGt (dix 0 (dC (.int 0))) (dC (.int 0)))) (dSeq (dSet 2 (dRes (dOp fMod (dix 0 (dC (.int 0))) (dVar 1))))
    (dSeq (dst 0 (dOp fDiv (dix 0 (dC (.int 0))) (dVar 1)) (dC (.int 0)))
    (dRet (dRes (dVar 2))))) dNx)
    (dSeq (dst 0 (dOp fMod (dOp fAdd (dOp fMul (dix 0 (dC (.int 1))) (dC (.int 48271))) (dC (.int 11))) (dC (.int 2147483647))) (dC (.int 1)))
    (dRet (dRes (dOp fMod (dOp fDiv (dOp fMod (dOp fMul (dix 0 (dC (.int 1))) (dix 0 (dC (.int 1)))) (dC (.int 2147483629))) (dC (.int 16))) (dVar 1))))))
theorem law__law_draw : ∀ a t es ds Ex Q, ds.length + 1 = 2 → phi__law_draw t es ds Ex Q → g__law_draw (endsB a Ex Q) (startB 3 a t es ds) := by
  intro a t es ds Ex Q hl h
  unfold phi__law_draw at h
  split at h
  · rename_i x y m
    obtain ⟨hx, hy, hm, hb, hq⟩ := h
    have dm : DivOk x m := divOk (by omega) hb
    unfold g__law_draw
    refine seq_cut (fun s => x ≤ 0 ∧ s = [.ow a false .lst [.int x, .int y], .fz (.int m), .un]) (fun nx hn => ?_) (fun s hs => ?_)
    · walk_at "pd"
      by_cases h0 : 0 < x
      · rw [decide_eq_true h0]
        dsimp only
        refine ⟨by omega, dm, ?_⟩
        exact ⟨rfl, hq _ _ _ (fmod_nn x hm) (fmod_lt' x hm) (fdiv_nn hx hm) hy⟩
      · rw [decide_eq_false h0]
        exact hn _ ⟨by omega, rfl⟩
    · obtain ⟨_, rfl⟩ := hs
      refine seq_cut (fun s => ∃ z, 0 ≤ z ∧ z < 2147483647 ∧ s = [.ow a false .lst [.int x, .int z], .fz (.int m), .un]) (fun nx hn => ?_) (fun s hs => ?_)
      · walk_at "pd"
        refine ⟨mulSmallR (by decide) (by decide), by decide, ?_⟩
        exact hn _ ⟨_, fmod_nn _ (by decide), fmod_lt' _ (by decide), rfl⟩
      · obtain ⟨z, hz0, hz, rfl⟩ := hs
        walk_at "pd"
        refine ⟨mulSmallL (by omega) (by omega), by decide, ⟨by decide, by decide⟩, by omega, rfl, ?_⟩
        exact hq _ _ _ (fmod_nn _ hm) (fmod_lt' _ hm) hx hz0
  · exact h.elim
def phi__law_gcd : SpA := fun ds _ Q => match ds with
  | [.int a, .int b] => Q (.fz (.int (Int.gcd a b)))
  | _ => False
def g__law_gcd_c1 : DT :=
  (dTst (dOp fNe (dVar 1) (dC (.int 0))))
def g__law_gcd_b1 : DS :=
  (dPar 0 1 (dVar 1) (dOp fMod (dVar 0) (dVar 1)))
def g__law_gcd : DS :=
  (dSeq (dWh g__law_gcd_c1 g__law_gcd_b1)
    (dRet (dRes (dCB fAbs (dACons (dVar 0) dANil)))))
theorem law__law_gcd : ∀ ds Ex Q, ds.length = 2 → phi__law_gcd ds Ex Q → g__law_gcd (endsA Ex Q) (startA 2 ds) := by
  intro ds Ex Q hl h
  unfold phi__law_gcd at h
  split at h
  · rename_i a b
    unfold g__law_gcd
    refine seq_cut (fun s => ∃ c, c.natAbs = Int.gcd a b ∧ s = [.fz (.int c), .fz (.int 0)]) (fun nx hn => ?_) (fun s hs => ?_)
    · have key : ∀ (n : Nat) (c d : Int), d.natAbs < n → Int.gcd c d = Int.gcd a b →
          dWhN g__law_gcd_c1 g__law_gcd_b1 n { endsA Ex Q with nx := nx } [S.fz (.int c), S.fz (.int d)] := by
        intro n
        induction n with
        | zero => intro c d h; omega
        | succ n ih =>
          intro c d hn' hg
          unfold dWhN g__law_gcd_c1 g__law_gcd_b1
          walk_at "pd"
          refine fNe_int ?_
          by_cases hd : d = 0
          · subst hd
            rw [show (!((0 : Int) == 0)) = false from rfl]
            exact hn _ ⟨c, by rw [← hg, Int.gcd_zero_right], rfl⟩
          · rw [show (!(d == 0)) = true by simp [hd]]
            dsimp only
            refine ⟨hd, ?_⟩
            have := fmod_lt_abs c hd
            exact ih d (c.fmod d) (by omega) (by rw [gcd_fmod]; exact hg)
      unfold dWh
      exact ⟨_, key _ a b (Nat.lt_succ_self _) rfl⟩
    · obtain ⟨c, hc, rfl⟩ := hs
      walk_at "pd"
      have e : (if c < 0 then -c else c) = (c.natAbs : Int) := by split <;> omega
      rw [e, hc]
      exact h
  · exact h.elim

/-! ### loops over ranges and lists -/
theorem Bz.lt {b : Nat} {x : Int} (h : Bz b x) : x < (2 : Int) ^ b ∧ -((2 : Int) ^ b) < x := by
  unfold Bz at h
  have : (2 : Int) ^ b = ((2 ^ b : Nat) : Int) := by rw [Int.natCast_pow]; rfl
  omega
theorem bz2 : Bz 8000 2 := (bz_nat (b := 2) (m := 2) (by decide) (by decide) (by decide)).mono (by decide)
theorem eqF_self (x : D) : eqF x x = true := by unfold eqF; simp
theorem ne_self {b : Nat} {x : D} {Q : D → Prop} (h : FrD b x) (q : Q (.bl false)) : fNe x x Q := fNe_fr h h (by rw [eqF_self]; exact q)
def phi_law : SpA := fun ds _ Q => match ds with
  | [.nd .scr l] => ∃ ns : List Int, l = ns.map D.int ∧ ns.length ≤ 63 ∧ Q (.fz (.bl true))
  | _ => False
theorem iota_succ (lo : Int) (n : Nat) : iota lo (n + 1) = D.int lo :: iota (lo + 1) n := by
  unfold iota
  rw [List.range_succ_eq_map, List.map_cons, List.map_map]
  congr 1
  · simp
  · apply List.map_congr_left
    intro k _
    simp only [Function.comp]
    congr 1
    omega
theorem iota_0 (lo : Int) : iota lo 0 = [] := rfl
/-- a loop over a range -/
theorem for_iota {t : DG} {b : DS} {de : DEnds} (P : Int → LS → Prop) (n : Nat) (lo : Int) (st : LS) (h0 : P lo st)
    (hs : ∀ k s nx, lo ≤ k → k < lo + n → P k s → (∀ s', P (k + 1) s' → nx s') → t (.int k) s fun s1 => b { de with nx := nx, ct := nx, bk := de.nx } s1)
    (hd : ∀ s, P (lo + n) s → de.nx s) : dForL t b (iota lo n) de st := by
  induction n generalizing lo st with
  | zero => exact hd st (by simpa using h0)
  | succ n ih =>
    rw [iota_succ]
    unfold dForL
    refine hs lo st _ (by omega) (by omega) h0 fun s' p => ?_
    exact ih (lo + 1) s' p (fun k s nx h1 h2 => hs k s nx (by omega) (by omega)) (fun s q => hd s (by rw [show lo + ((n + 1 : Nat) : Int) = lo + 1 + n by omega]; exact q))
theorem ne_eq {b c : Nat} {x y : D} {Q : D → Prop} (h : FrD b x) (e : x = y) (q : Q (.bl false)) : fNe x y Q := by subst e; exact ne_self h q
theorem for_list {t : DG} {b : DS} {de : DEnds} (P : LS → Prop) (l : List D) (st : LS) (h0 : P st)
    (hs : ∀ x, x ∈ l → ∀ s nx, P s → (∀ s', P s' → nx s') → t x s fun s1 => b { de with nx := nx, ct := nx, bk := de.nx } s1)
    (hd : ∀ s, P s → de.nx s) : dForL t b l de st := by
  induction l generalizing st with
  | nil => exact hd st h0
  | cons x l ih =>
    unfold dForL
    exact hs x List.mem_cons_self st _ h0 fun s' p => ih s' p fun y hy s nx h1 h2 => hs y (List.mem_cons_of_mem _ hy) s nx h1 h2
theorem fNe_bl {x y : Bool} {Q : D → Prop} (q : Q (.bl (!(x == y)))) : fNe (.bl x) (.bl y) Q := by
  refine ⟨by simp [py, PyData.plain], by simp [py, PyData.plain], by simp [py, PyData.depth], ?_⟩
  simpa [py, PyData.eqv] using q
theorem fEq_bl {x y : Bool} {Q : D → Prop} (q : Q (.bl (x == y))) : fEq (.bl x) (.bl y) Q := by
  refine ⟨by simp [py, PyData.plain], by simp [py, PyData.plain], by simp [py, PyData.depth], ?_⟩
  simpa [py, PyData.eqv] using q
/-- the range of a law's cells -/
theorem cells_ok (n : Nat) (c : Int) (hc : 1 ≤ c) : ∀ j : Int, j = (if (if c < (n : Int) then c else (n : Int)) > 1 then (if c < (n : Int) then c else (n : Int)) else 1) → 0 ≤ j ∧ j ≤ c := by
  intro j e
  subst e
  split <;> (try split) <;> omega


/-! ### fraction, and what is asked of its errors -/
/-- the argument that is refused -/
def bad : D → D → Option D
  | .int _, .int d => if d = 0 then some (.int 0) else none
  | .int _, y => some y
  | x, _ => some x
def phi_fraction : SpA := fun ds Ex Q => match ds with
  | [x, y] => okTy x ∧ okTy y ∧ (∀ z, bad x y = some z → Ex ⟨0, z⟩) ∧ ∀ n d, x = .int n → y = .int d → d ≠ 0 → Bz 8000 d ∧ Q (.fz (rd n d))
  | _ => False
theorem bad_l {x y : D} (h : isInt x = false) : bad x y = some x := by
  cases x with
  | int i => cases h
  | _ => rfl
theorem bad_r {n : Int} {y : D} (h : isInt y = false) : bad (.int n) y = some y := by
  cases y with
  | int i => cases h
  | _ => rfl
theorem int_of {x : D} (h : isInt x = true) : ∃ n, x = .int n := by
  cases x with
  | int i => exact ⟨i, rfl⟩
  | _ => cases h
theorem bad_i {n d : Int} : bad (.int n) (.int d) = if d = 0 then some (.int 0) else none := rfl
def g_fraction_b1 : DS :=
  (dIfS (dNotT (dTst (dFz (dcA phi_is_integer (dACons (dVar 2) dANil))))) (dRaise 0 (dVar 2)) dNx)
def g_fraction : DS :=
  (dSeq (dFor (dItemsT (dTup (dACons (dVar 0) (dACons (dVar 1) dANil)))) (gdName 2) g_fraction_b1)
    (dSeq (dIfS (dTst (dOp fEq (dVar 1) (dC (.int 0)))) (dRaise 0 (dVar 1)) dNx)
    (dRet (dcA phi_reduced (dACons (dVar 0) (dACons (dVar 1) dANil))))))
theorem law_fraction : ∀ ds Ex Q, ds.length = 2 → phi_fraction ds Ex Q → g_fraction (endsA Ex Q) (startA 3 ds) := by
  intro ds Ex Q hl h
  unfold phi_fraction at h
  split at h
  · rename_i x y
    obtain ⟨tx, ty, he, hq⟩ := h
    unfold g_fraction
    refine seq_cut (fun s => ∃ n d v, x = .int n ∧ y = .int d ∧ s = [.fz (.int n), .fz (.int d), v]) (fun nx hn => ?_) (fun s hs => ?_)
    · walk_at "pd"
      unfold g_fraction_b1
      walk_at "pd"
      refine ⟨tx, ?_⟩
      cases ix : isInt x with
      | false => exact he x (bad_l ix)
      | true =>
        obtain ⟨n, rfl⟩ := int_of ix
        walk_at "pd"
        refine ⟨ty, ?_⟩
        cases iy : isInt y with
        | false => exact he y (bad_r iy)
        | true =>
          obtain ⟨d, rfl⟩ := int_of iy
          exact hn _ ⟨n, d, _, rfl, rfl, rfl⟩
    · obtain ⟨n, d, v, rfl, rfl, rfl⟩ := hs
      walk_at "pd"
      refine fEq_int ?_
      by_cases hd : d = 0
      · subst hd
        rw [show ((0 : Int) == 0) = true from rfl]
        exact he _ (by rw [bad_i, if_pos rfl])
      · rw [show (d == 0) = false by simp [hd]]
        exact ⟨hd, hq n d rfl rfl hd⟩
  · exact h.elim
def tb_InvalidNumber : Nat → Bool
  | 0 => true
  | _ => false
def ib_WorkError : Nat → Bool
  | 0 => true
  | _ => false
/-- [what a refused argument gives] -/
def inv (z : D) : List D := [.str "invalid", .str (reprD z), .bl true]
def phi__law_outcome : SpA := fun ds _ Q => match ds with
  | [x, y] => okTy x ∧ okTy y ∧ ∃ z, bad x y = some z ∧ reprOk z = true ∧ ∀ a, Q (.ow a true .lst (inv z))
  | _ => False
def g__law_outcome : DS :=
  (dTry 2 tb_InvalidNumber (dRet (dcA phi_fraction (dACons (dVar 0) (dACons (dVar 1) dANil)))) (fun u er => (dRet (dLst (dACons (dC (.str "invalid")) (dACons (dCB fRepr (dACons (dXf 2 u er "value") dANil)) (dACons (dXi 2 u er ib_WorkError) dANil)))))))
theorem law__law_outcome : ∀ ds Ex Q, ds.length = 2 → phi__law_outcome ds Ex Q → g__law_outcome (endsA Ex Q) (startA 3 ds) := by
  intro ds Ex Q hl h
  unfold phi__law_outcome at h
  split at h
  · rename_i x y
    obtain ⟨tx, ty, z, hz, ok, hq⟩ := h
    unfold g__law_outcome
    walk_at "pd"
    refine ⟨tx, ty, fun z' hz' => ?_, fun n d ex ey hd => ?_⟩
    · obtain rfl : z = z' := Option.some.inj (hz.symm.trans hz')
      dsimp only [tb_InvalidNumber]
      intro u
      refine ⟨⟨rfl, rfl, by decide⟩, ok, rfl, fun a => ?_⟩
      exact hq a
    · subst ex ey
      rw [bad_i, if_neg hd] at hz
      cases hz
  · exact h.elim


def g_law_b1 : DS :=
  (dSeq (dIfS (dTst (dOp fNe (dFz (dcA phi__law_outcome (dACons (dVar 2) (dACons (dC .non) dANil)))) (dFz (dLst (dACons (dC (.str "invalid")) (dACons (dCB fRepr (dACons (dVar 2) dANil)) (dACons (dC (.bl true)) dANil))))))) (dRet (dRes (dC (.bl false)))) dNx)
    (dIfS (dTst (dOp fNe (dFz (dcA phi__law_outcome (dACons (dC (.int 2)) (dACons (dVar 2) dANil)))) (dFz (dLst (dACons (dC (.str "invalid")) (dACons (dCB fRepr (dACons (dVar 2) dANil)) (dACons (dC (.bl true)) dANil))))))) (dRet (dRes (dC (.bl false)))) dNx))
def g_law_b2 : DS :=
  (dSeq (dSet 10 (dcA phi_fraction (dACons (dVar 7) (dACons (dVar 9) dANil))))
    (dSeq (dIfS (dOrT (dNotT (dTst (dUn (fIsi "tuple") (dVar 10)))) (dOrT (dTst (dOp fNe (dOp fMul (dOp fIx (dVar 10) (dC (.int 0))) (dVar 9)) (dOp fMul (dVar 7) (dOp fIx (dVar 10) (dC (.int 1)))))) (dTst (dOp fLt (dOp fIx (dVar 10) (dC (.int 1))) (dC (.int 1)))))) (dRet (dRes (dC (.bl false)))) dNx)
    (dIfS (dOrT (dTst (dOp fNe (dFz (dcA phi__law_gcd (dACons (dOp fIx (dVar 10) (dC (.int 0))) (dACons (dOp fIx (dVar 10) (dC (.int 1))) dANil)))) (dC (.int 1)))) (dTst (dOp fIsNot (dFz (dcA phi_is_fraction (dACons (dVar 10) dANil))) (dC (.bl true))))) (dRet (dRes (dC (.bl false)))) dNx)))
def g_law_b3 : DS :=
  (dSeq (dSet 6 (dcB phi__law_draw 4 (dACons (dC (.int 2)) dANil)))
    (dSeq (dSet 7 (dRes (dOp fSub (dFz (dcB phi__law_draw 4 (dACons (dOp fIx (dFz (dLst (dACons (dOp fPow (dC (.int 10)) (dC (.int 30))) (dACons (dC (.int 13)) dANil)))) (dVar 6)) dANil))) (dFz (dcB phi__law_draw 4 (dACons (dOp fIx (dFz (dLst (dACons (dOp fPow (dC (.int 10)) (dC (.int 30))) (dACons (dC (.int 7)) dANil)))) (dVar 6)) dANil))))))
    (dSeq (dSet 8 (dRes (dOp fAdd (dC (.int 1)) (dFz (dcB phi__law_draw 4 (dACons (dOp fIx (dFz (dLst (dACons (dOp fPow (dC (.int 10)) (dC (.int 30))) (dACons (dC (.int 12)) dANil)))) (dVar 6)) dANil))))))
    (dSeq (dFor (dItemsT (dTup (dACons (dVar 8) (dACons (dUn fNeg (dVar 8)) dANil)))) (gdName 9) g_law_b2)
    (dSeq (dIfS (dOrT (dTst (dOp fNe (dFz (dcAD phi_fraction [(.int 1)] (dACons (dVar 7) dANil))) (dTup (dACons (dVar 7) (dACons (dC (.int 1)) dANil))))) (dTst (dOp fNe (dFz (dcA phi_is_fraction (dACons (dTup (dACons (dVar 7) (dACons (dVar 8) dANil))) dANil))) (dOp fEq (dFz (dcA phi__law_gcd (dACons (dVar 7) (dACons (dVar 8) dANil)))) (dC (.int 1)))))) (dRet (dRes (dC (.bl false)))) dNx)
    (dIfS (dOrT (dTst (dFz (dcA phi_is_fraction (dACons (dTup (dACons (dVar 7) (dACons (dUn fNeg (dVar 8)) dANil))) dANil)))) (dTst (dOp fNe (dFz (dcA phi__law_outcome (dACons (dVar 7) (dACons (dC (.int 0)) dANil)))) (dFz (dLst (dACons (dC (.str "invalid")) (dACons (dC (.str "0")) (dACons (dC (.bl true)) dANil)))))))) (dRet (dRes (dC (.bl false)))) dNx))))))
def g_law_b4 : DS :=
  (dSeq (dSet 4 (dcA phi__law_pool (dACons (dVar 0) (dACons (dVar 3) dANil))))
    (dSeq (dFor (dRng1 (dACons (dC (.int 5)) dANil)) (gdName 5) g_law_b3)
    (dFor (dItemsL (dFz (dLst (dACons (dC .non) (dACons (dC (.bl true)) (dACons (dC (.str "1")) (dACons (dTup (dACons (dC (.int 1)) (dACons (dC (.int 1)) dANil))) (dACons (dFz (dLst (dACons (dC (.int 1)) dANil))) (dACons dDic0 dANil))))))))) (gdName 2) g_law_b1)))
def g_law_b5 : DS :=
  (dIfS (dTst (dOp fIsNot (dFz (dcA phi_is_fraction (dACons (dVar 2) dANil))) (dC (.bl false)))) (dRet (dRes (dC (.bl false)))) dNx)
def g_law : DS :=
  (dSeq (dSet 1 (dRes (dFz (dLst (dACons (dC .non) (dACons (dC (.int 5)) (dACons (dC (.int 0)) (dACons (dTup dANil) (dACons (dTup (dACons (dC (.int 1)) dANil)) (dACons (dTup (dACons (dC (.int 1)) (dACons (dC (.int 1)) (dACons (dC (.int 1)) dANil)))) (dACons (dFz (dLst (dACons (dC (.int 1)) (dACons (dC (.int 2)) dANil)))) (dACons (dTup (dACons (dC (.int 1)) (dACons (dC (.int 0)) dANil))) (dACons (dTup (dACons (dC (.int 1)) (dACons (dUn fNeg (dC (.int 2))) dANil))) (dACons (dTup (dACons (dC (.int 2)) (dACons (dC (.int 4)) dANil))) (dACons (dTup (dACons (dC (.int 0)) (dACons (dC (.int 2)) dANil))) (dACons (dTup (dACons (dC (.int 0)) (dACons (dC (.int 0)) dANil))) (dACons (dTup (dACons (dC (.bl true)) (dACons (dC (.int 1)) dANil))) dANil)))))))))))))))))
    (dSeq (dFor (dItemsL (dFz (dCat (dVar 1) (dFz (dLst (dACons (dTup (dACons (dC (.int 1)) (dACons (dC (.bl true)) dANil))) (dACons (dC (.str "12")) (dACons (dTup (dACons (dC .non) (dACons (dC (.int 1)) dANil))) (dACons (dTup (dACons (dC (.str "1")) (dACons (dC (.int 1)) dANil))) (dACons dDic0 dANil)))))))))) (gdName 2) g_law_b5)
    (dSeq (dFor (dRng1 (dACons (dCB fMax2 (dACons (dC (.int 1)) (dACons (dCB fMin2 (dACons (dCB fLen (dACons (dVar 0) dANil)) (dACons (dC (.int 8)) dANil))) dANil))) dANil)) (gdName 3) g_law_b4)
    (dRet (dRes (dC (.bl true)))))))
/-- things that are no fractions -/
def thingOk (x : D) : Bool := !isFr x && (match x with
  | .nd .tup [a, b] => !(tyN a == "") && !(tyN b == "")
  | x => !(tyN x == ""))
theorem thing_of {x : D} (h : thingOk x = true) : okP x ∧ isFr x = false := by
  unfold thingOk at h
  obtain ⟨h1, h2⟩ := Bool.and_eq_true_iff.mp h
  refine ⟨?_, by simpa using h1⟩
  unfold okP
  split at h2
  · obtain ⟨a1, a2⟩ := Bool.and_eq_true_iff.mp h2
    exact ⟨by unfold okTy; simpa using a1, by unfold okTy; simpa using a2⟩
  · unfold okTy
    simpa using h2
theorem ne_inv {z z' : D} {Q : D → Prop} (e : reprD z = reprD z') (q : Q (.bl false)) : fNe (.nd .lst (inv z)) (.nd .lst [.str "invalid", .str (reprD z'), .bl true]) Q := by
  refine ⟨by simp [inv, py, pyL, PyData.plain, PyData.plainAll], by simp [py, pyL, PyData.plain, PyData.plainAll], by simp [inv, py, pyL, PyData.depth, PyData.depthAll], ?_⟩
  simpa [inv, py, pyL, PyData.eqv, PyData.eqvAll, e] using q
theorem r0 : reprD (.int 0) = "0" := by decide +kernel
theorem ok0 : reprOk (.int 0) = true := by decide +kernel
theorem rd_one (n : Int) : rd n 1 = fr n 1 := by
  obtain ⟨h1, h2⟩ := red_self (a := n) (b := 1) (by decide) (Int.gcd_one)
  show fr (rN n 1) (rD n 1) = _
  rw [h1, h2]
/-- 18 things -/
def things : List D := [.non, .int 5, .int 0, .nd .tup [], .nd .tup [.int 1], .nd .tup [.int 1, .int 1, .int 1], .nd .lst [.int 1, .int 2], .nd .tup [.int 1, .int 0], .nd .tup [.int 1, .int (-2)], .nd .tup [.int 2, .int 4], .nd .tup [.int 0, .int 2], .nd .tup [.int 0, .int 0], .nd .tup [.bl true, .int 1]]
def things2 : List D := [.nd .tup [.int 1, .bl true], .str "12", .nd .tup [.non, .int 1], .nd .tup [.str "1", .int 1], .nd (.dic []) []]
theorem things_ok : (things ++ things2).all thingOk = true := by decide +kernel
def thing3 (x : D) : Bool := !isInt x && (!(tyN x == "") && reprOk x)
def things3 : List D := [.non, .bl true, .str "1", .nd .tup [.int 1, .int 1], .nd .lst [.int 1], .nd (.dic []) []]
theorem things3_ok : things3.all thing3 = true := by decide +kernel
def Row (ns : List Int) (s : LS) : Prop := ∃ w1 w2 w3 w4 w5 w6 w7 w8 w9 w10, s = [S.fz (scr ns), w1, w2, w3, w4, w5, w6, w7, w8, w9, w10]
def Mid (ns : List Int) (k : Int) (s : LS) : Prop := ∃ a x y w1 w2 w5 w6 w7 w8 w9 w10, 0 ≤ x ∧ 0 ≤ y ∧ s = [S.fz (scr ns), w1, w2, .fz (.int k), .ow a true .lst [.int x, .int y], w5, w6, w7, w8, w9, w10]
theorem first_law {ns : List Int} {de : DEnds} (hn : ∀ s, Row ns s → de.nx s) {x : D} (hx : thingOk x = true) {s : LS} (hs : Row ns s) :
    gdName 2 x s fun s1 => g_law_b5 de s1 := by
  obtain ⟨w1, w2, w3, w4, w5, w6, w7, w8, w9, w10, rfl⟩ := hs
  obtain ⟨h1, h2⟩ := thing_of hx
  unfold g_law_b5
  walk_at "pd"
  refine ⟨h1, ?_⟩
  rw [h2]
  exact hn _ ⟨_, _, _, _, _, _, _, _, _, _, rfl⟩
theorem last_law {ns : List Int} {k : Int} {de : DEnds} (hn : ∀ s, Mid ns k s → de.nx s) {x : D} (hx : thing3 x = true) {s : LS} (hs : Mid ns k s) :
    gdName 2 x s fun s1 => g_law_b1 de s1 := by
  obtain ⟨a, p, q, w1, w2, w5, w6, w7, w8, w9, w10, hp, hq, rfl⟩ := hs
  obtain ⟨h1, h2⟩ := Bool.and_eq_true_iff.mp hx
  obtain ⟨h2, h3⟩ := Bool.and_eq_true_iff.mp h2
  have h1 : isInt x = false := by simpa using h1
  have h2 : okTy x := by unfold okTy; simpa using h2
  have tn : okTy .non := by show ("NoneType" == "") = false; decide
  have ti : okTy (.int 2) := by show ("int" == "") = false; decide
  unfold g_law_b1
  dsimp only [gdName, ps_0, ps_s]
  refine seq_cut (fun s => Mid ns k s ∧ s[2]? = some (.fz x)) (fun nx2 hn2 => ?_) (fun s hs => ?_)
  · walk_at "pd"
    refine ⟨h2, tn, x, bad_l h1, h3, fun a2 => ?_⟩
    refine ⟨h3, fun a3 => ne_inv (z := x) (z' := x) rfl ?_⟩
    exact hn2 _ ⟨⟨_, _, _, _, _, _, _, _, _, _, _, hp, hq, rfl⟩, rfl⟩
  · obtain ⟨⟨a, p, q, w1, w2, w5, w6, w7, w8, w9, w10, hp, hq, rfl⟩, hx2⟩ := hs
    obtain rfl : w2 = .fz x := Option.some.inj hx2
    walk_at "pd"
    refine ⟨ti, h2, x, bad_r h1, h3, fun a2 => ?_⟩
    refine ⟨h3, fun a3 => ne_inv (z := x) (z' := x) rfl ?_⟩
    exact hn _ ⟨_, _, _, _, _, _, _, _, _, _, _, hp, hq, rfl⟩
def St9 (ns : List Int) (k o c : Int) (s : LS) : Prop := ∃ a x y w1 w2 w5 w6 w9 w10, 0 ≤ x ∧ 0 ≤ y ∧ s = [S.fz (scr ns), w1, w2, .fz (.int k), .ow a true .lst [.int x, .int y], w5, w6, .fz (.int o), .fz (.int c), w9, w10]
theorem below_law {ns : List Int} {k o c b : Int} {de : DEnds} (ho : Bz 110 o) (hb : Bz 110 b) (b0 : b ≠ 0) (hn : ∀ s, St9 ns k o c s → de.nx s) {s : LS} (hs : St9 ns k o c s) :
    gdName 9 (.int b) s fun s1 => g_law_b2 de s1 := by
  obtain ⟨a, x, y, w1, w2, w5, w6, w9, w10, hx, hy, rfl⟩ := hs
  have ti : ∀ i : Int, okTy (.int i) := fun i => by show ("int" == "") = false; decide
  have hf := FrD.rd b0 ho hb
  unfold g_law_b2
  dsimp only [gdName, ps_0, ps_s]
  refine seq_cut (fun s => s = [S.fz (scr ns), w1, w2, .fz (.int k), .ow a true .lst [.int x, .int y], w5, w6, .fz (.int o), .fz (.int c), .fz (.int b), .fz (rd o b)]) (fun nx2 hn2 => ?_) (fun s hs => ?_)
  · walk_at "pd"
    refine ⟨ti _, ti _, fun z hz => ?_, fun n d e1 e2 hd => ?_⟩
    · rw [bad_i, if_neg b0] at hz; cases hz
    · cases e1; cases e2
      exact ⟨hb.mono (by decide), hn2 _ rfl⟩
  subst hs
  have e1 : rd o b = .nd .tup [.int (rN o b), .int (rD o b)] := rfl
  rw [e1] at hf
  have b1 : Bz 110 (rN o b) := hf.bn
  have b2 : Bz 110 (rD o b) := hf.bd
  have p2 : 0 < rD o b := rD_pos b0
  rw [e1]
  refine seq_cut (fun s => s = [S.fz (scr ns), w1, w2, .fz (.int k), .ow a true .lst [.int x, .int y], w5, w6, .fz (.int o), .fz (.int c), .fz (.int b), .fz (.nd .tup [.int (rN o b), .int (rD o b)])]) (fun nx2 hn2 => ?_) (fun s hs => ?_)
  · walk_at "pd"
    simp only [fIsi, tyN, k_tuple_tuple, show ("tuple" == "") = false from by decide, Bool.not_true]
    refine ⟨mulOk b1 hb, mulOk ho b2, fNe_int ?_⟩
    rw [show (rN o b * b == o * rD o b) = true from by rw [red_cross]; exact beq_self_eq_true _]
    dsimp only [Bool.not_true]
    rw [decide_eq_false (by omega : ¬ rD o b < 1)]
    exact hn2 _ rfl
  subst hs
  walk_at "pd"
  unfold phi__law_gcd
  dsimp only
  refine fNe_int ?_
  rw [show (((Int.gcd (rN o b) (rD o b) : Nat) : Int) == 1) = true from by rw [red_gcd b0]; rfl]
  dsimp only [Bool.not_true]
  refine ⟨hf.okP, ?_⟩
  rw [hf.isFr]
  exact hn _ ⟨_, _, _, _, _, _, _, _, _, hx, hy, rfl⟩
theorem turn_law {ns : List Int} {k : Int} {de : DEnds} (hn : ∀ s, Mid ns k s → de.nx s) {t : Int} {s : LS} (hs : Mid ns k s) :
    gdName 5 (.int t) s fun s1 => g_law_b3 de s1 := by
  obtain ⟨a, x, y, w1, w2, w5, w6, w7, w8, w9, w10, hx, hy, rfl⟩ := hs
  have ti : ∀ i : Int, okTy (.int i) := fun i => by show ("int" == "") = false; decide
  unfold g_law_b3
  dsimp only [gdName, ps_0, ps_s]
  refine seq_cut (fun s => ∃ a x y sm w7 w8, 0 ≤ x ∧ 0 ≤ y ∧ (sm = 0 ∨ sm = 1) ∧ s = [S.fz (scr ns), w1, w2, .fz (.int k), .ow a true .lst [.int x, .int y], .fz (.int t), .fz (.int sm), w7, w8, w9, w10]) (fun nx2 hn2 => ?_) (fun s hs => ?_)
  · walk_at "pd"
    refine ⟨hx, hy, by decide, bz2, fun r x' y' h0 h2 hx' hy' => ?_⟩
    exact hn2 _ ⟨_, _, _, _, _, _, hx', hy', by omega, rfl⟩
  obtain ⟨a, x, y, sm, w7, w8, hx, hy, hsm, rfl⟩ := hs
  have bm : ∀ m : Int, 0 < m → m ≤ 10 ^ 30 → Bz 8000 m := fun m h1 h2 => (bz_nat (b := 100) (by omega) h2 (by decide)).mono (by decide)
  refine seq_cut (fun s => ∃ x y o, 0 ≤ x ∧ 0 ≤ y ∧ Bz 110 o ∧ s = [S.fz (scr ns), w1, w2, .fz (.int k), .ow a true .lst [.int x, .int y], .fz (.int t), .fz (.int sm), .fz (.int o), w8, w9, w10]) (fun nx2 hn2 => ?_) (fun s hs => ?_)
  · have fin : ∀ r1 r2 x y, 0 ≤ r1 → r1 ≤ 10 ^ 30 → 0 ≤ r2 → r2 ≤ 10 ^ 30 → 0 ≤ x → 0 ≤ y → nx2 [S.fz (scr ns), w1, w2, .fz (.int k), .ow a true .lst [.int x, .int y], .fz (.int t), .fz (.int sm), .fz (.int (r1 - r2)), w8, w9, w10] := fun r1 r2 x y h1 h2 h3 h4 h5 h6 =>
      hn2 _ ⟨x, y, r1 - r2, h5, h6, Bz.sub (a := 100) (b := 100) (bz_nat h1 h2 (by decide)) (bz_nat h3 h4 (by decide)) (by decide) (by decide), rfl⟩
    rcases hsm with rfl | rfl
    · walk_at "pd"
      refine ⟨⟨by decide, by decide, by decide⟩, fun _ => ⟨hx, hy, by decide, bm _ (by decide) (by decide), fun r1 x1 y1 h1 k1 hx1 hy1 => ?_⟩⟩
      refine ⟨⟨by decide, by decide, by decide⟩, fun _ => ⟨hx1, hy1, by decide, bm _ (by decide) (by decide), fun r2 x2 y2 h2 k2 hx2 hy2 => ?_⟩⟩
      exact fin _ _ _ _ h1 (Int.le_of_lt k1) h2 (Int.le_of_lt k2) hx2 hy2
    · walk_at "pd"
      refine ⟨⟨by decide, by decide, by decide⟩, fun _ => ⟨hx, hy, by decide, bm _ (by decide) (by decide), fun r1 x1 y1 h1 k1 hx1 hy1 => ?_⟩⟩
      refine ⟨⟨by decide, by decide, by decide⟩, fun _ => ⟨hx1, hy1, by decide, bm _ (by decide) (by decide), fun r2 x2 y2 h2 k2 hx2 hy2 => ?_⟩⟩
      exact fin _ _ _ _ h1 (Int.le_of_lt (Int.lt_trans k1 (by decide))) h2 (Int.le_of_lt (Int.lt_trans k2 (by decide))) hx2 hy2
  obtain ⟨x, y, o, hx, hy, ho, rfl⟩ := hs
  refine seq_cut (fun s => ∃ c, 1 ≤ c ∧ Bz 110 c ∧ St9 ns k o c s) (fun nx2 hn2 => ?_) (fun s hs => ?_)
  · have fin : ∀ r x y, 0 ≤ r → r < 10 ^ 30 → 0 ≤ x → 0 ≤ y → nx2 [S.fz (scr ns), w1, w2, .fz (.int k), .ow a true .lst [.int x, .int y], .fz (.int t), .fz (.int sm), .fz (.int o), .fz (.int (1 + r)), w9, w10] := fun r x y h1 h2 h5 h6 =>
      hn2 _ ⟨1 + r, by omega, (bz_nat (b := 100) (m := 10 ^ 30) (by omega) (by omega) (by decide)).mono (by decide), a, x, y, _, _, _, _, _, _, h5, h6, rfl⟩
    rcases hsm with rfl | rfl
    · walk_at "pd"
      refine ⟨⟨by decide, by decide, by decide⟩, fun _ => ⟨hx, hy, by decide, bm _ (by decide) (by decide), fun r1 x1 y1 h1 k1 hx1 hy1 => ?_⟩⟩
      exact fin _ _ _ h1 k1 hx1 hy1
    · walk_at "pd"
      refine ⟨⟨by decide, by decide, by decide⟩, fun _ => ⟨hx, hy, by decide, bm _ (by decide) (by decide), fun r1 x1 y1 h1 k1 hx1 hy1 => ?_⟩⟩
      exact fin _ _ _ h1 (Int.lt_trans k1 (by decide)) hx1 hy1
  obtain ⟨c, hc, bc, hs⟩ := hs
  refine seq_cut (St9 ns k o c) (fun nx2 hn2 => ?_) (fun s hs => ?_)
  · obtain ⟨a, x, y, w1, w2, w5, w6, w9, w10, hx, hy, rfl⟩ := hs
    unfold dFor
    walk_at "pc"
    refine for_list (St9 ns k o c) [.int c, .int (-c)] _ ⟨_, _, _, _, _, _, _, _, _, hx, hy, rfl⟩ ?_ ?_
    · intro z hz s nx3 h1 h2
      rcases List.mem_cons.mp hz with rfl | hz
      · exact below_law ho bc (by omega) h2 h1
      · obtain rfl := List.mem_singleton.mp hz
        exact below_law ho bc.neg (by omega) h2 h1
    · intro s hm
      exact hn2 s hm
  obtain ⟨a, x, y, w1, w2, w5, w6, w9, w10, hx, hy, rfl⟩ := hs
  have ro : FrD 110 (fr o 1) := FrD.mk' (by decide) Int.gcd_one ho ((bz_nat (b := 1) (m := 1) (by decide) (by decide) (by decide)).mono (by decide))
  refine seq_cut (fun s => s = [S.fz (scr ns), w1, w2, .fz (.int k), .ow a true .lst [.int x, .int y], w5, w6, .fz (.int o), .fz (.int c), w9, w10]) (fun nx2 hn2 => ?_) (fun s hs => ?_)
  · walk_at "pd"
    refine ⟨ti _, ti _, fun z hz => ?_, fun n d e1 e2 hd => ?_⟩
    · rw [bad_i, if_neg (by decide)] at hz; cases hz
    · cases e1; cases e2
      refine ⟨(bz_nat (b := 1) (m := 1) (by decide) (by decide) (by decide)).mono (by decide), ?_⟩
      rw [rd_one]
      refine ne_self ro ?_
      walk_at "pd"
      refine ⟨⟨ti _, ti _⟩, ?_⟩
      unfold phi__law_gcd
      dsimp only
      refine fEq_i1 (fNe_bl ?_)
      rw [show isFr (.nd .tup [.int o, .int c]) = (Int.gcd o c == 1) from by
        show (decide (1 ≤ c) && (Int.gcd o c == 1)) = _
        rw [decide_eq_true hc, Bool.true_and]]
      rw [show (!((Int.gcd o c == 1) == (Int.gcd o c == 1))) = false from by simp]
      exact hn2 _ rfl
  subst hs
  walk_at "pd"
  refine ⟨⟨ti _, ti _⟩, ?_⟩
  rw [show isFr (.nd .tup [.int o, .int (-c)]) = false from by
    show (decide (1 ≤ -c) && (Int.gcd o (-c) == 1)) = _
    rw [decide_eq_false (by omega : ¬ 1 ≤ -c), Bool.false_and]]
  walk_at "pd"
  refine ⟨ti _, ti _, .int 0, by rw [bad_i, if_pos rfl], ok0, fun a2 => ?_⟩
  intro a3
  rw [← r0]
  refine ne_inv (z := .int 0) (z' := .int 0) rfl ?_
  exact hn _ ⟨_, _, _, _, _, _, _, _, _, _, _, hx, hy, rfl⟩
theorem law_law : ∀ ds Ex Q, ds.length = 1 → phi_law ds Ex Q → g_law (endsA Ex Q) (startA 11 ds) := by
  intro ds Ex Q hl h
  unfold phi_law at h
  split at h
  · rename_i l
    obtain ⟨ns, rfl, hlen, hq⟩ := h
    unfold g_law
    refine seq_cut (fun s => s = [S.fz (scr ns), .fz (.nd .lst things), .un, .un, .un, .un, .un, .un, .un, .un, .un]) (fun nx hn => ?_) (fun s hs => ?_)
    · walk_at "pd"
      intro a1 a2
      exact hn _ rfl
    subst hs
    refine seq_cut (Row ns) (fun nx hn => ?_) (fun s hs => ?_)
    · unfold dFor
      walk_at "pc"
      intro a1
      refine ⟨by decide, fun a2 => ?_⟩
      refine for_list (Row ns) (things ++ things2) _ ⟨_, _, _, _, _, _, _, _, _, _, rfl⟩ ?_ ?_
      · intro z hz s nx3 h1 h2
        exact first_law h2 (List.all_eq_true.mp things_ok z hz) h1
      · intro s hm
        exact hn s hm
    refine seq_cut (fun s => True) (fun nx hn => ?_) (fun s _ => hq)
    obtain ⟨w1, w2, w3, w4, w5, w6, w7, w8, w9, w10, rfl⟩ := hs
    have main : ∀ j : Int, 0 ≤ j → j ≤ 8 → dForL (gdName 3) (g_law_b4) (iota 0 j.toNat) { endsA Ex Q with nx := nx } [S.fz (scr ns), w1, w2, w3, w4, w5, w6, w7, w8, w9, w10] := by
      intro j hj0 hj
      refine for_iota (fun k s => Row ns s) _ _ _ ⟨_, _, _, _, _, _, _, _, _, _, rfl⟩ ?_ (fun s _ => hn s trivial)
      rintro k s nx1 hk0 hk1 ⟨w1, w2, w3, w4, w5, w6, w7, w8, w9, w10, rfl⟩ hn1
      unfold g_law_b4
      refine seq_cut (Mid ns k) (fun nx2 hn2 => ?_) (fun s hs => ?_)
      · walk_at "pd"
        exact ⟨ns, rfl, hlen, hk0, by omega, fun a x y hx hy => hn2 _ ⟨_, _, _, _, _, _, _, _, _, _, _, hx, hy, rfl⟩⟩
      refine seq_cut (Mid ns k) (fun nx2 hn2 => ?_) (fun s hs => ?_)
      · unfold dFor
        walk_at "pd"
        refine ⟨by decide, by decide, ?_⟩
        refine for_iota (fun _ s => Mid ns k s) 5 0 _ hs ?_ ?_
        · intro t s nx3 _ _ hm hn3
          exact turn_law hn3 hm
        · intro s hm
          exact hn2 s hm
      obtain ⟨a, x, y, v1, v2, v5, v6, v7, v8, v9, v10, hx, hy, rfl⟩ := hs
      unfold dFor
      walk_at "pc"
      intro a1 a2
      refine for_list (Mid ns k) things3 _ ⟨_, _, _, _, _, _, _, _, _, _, _, hx, hy, rfl⟩ ?_ ?_
      · intro z hz s nx3 h1 h2
        exact last_law h2 (List.all_eq_true.mp things3_ok z hz) h1
      · intro s hm
        obtain ⟨a, x, y, v1, v2, v5, v6, v7, v8, v9, v10, hx, hy, rfl⟩ := hm
        exact hn1 _ ⟨_, _, _, _, _, _, _, _, _, _, rfl⟩
    unfold dFor
    walk_at "pd"
    have hl1 : ((((List.map D.int ns).length : Nat) : Int)) = (ns.length : Int) := by rw [List.length_map]
    rw [hl1]
    obtain ⟨a1, a2⟩ := cells_ok ns.length 8 (by decide) _ rfl
    exact ⟨by omega, by omega, main _ a1 a2⟩
  · exact h.elim

/-! ### the walk: each def keeps its promise -/
def topS (i : Nat) : Stmt := PySem.Challenge.pw_pulleyworks_k01_fractions_made.main.body.getD i (.Pass ⟨0, 0, 0, 0⟩)
abbrev s_is_integer : Stmt := topS 4
theorem sc_is_integer : FnScope ["value"] ["value"] (defScope s_is_integer) := ⟨rfl, rfl, rfl, by decide +kernel, rfl, by decide +kernel, by decide +kernel⟩
abbrev s_common_divisor : Stmt := topS 5
theorem sc_common_divisor : FnScope ["one", "other"] ["one", "other"] (defScope s_common_divisor) := ⟨rfl, rfl, rfl, by decide +kernel, rfl, by decide +kernel, by decide +kernel⟩
abbrev s_reduced : Stmt := topS 6
theorem sc_reduced : FnScope ["numerator", "denominator", "divisor"] ["numerator", "denominator"] (defScope s_reduced) := ⟨rfl, rfl, rfl, by decide +kernel, rfl, by decide +kernel, by decide +kernel⟩
abbrev s_is_fraction : Stmt := topS 7
theorem sc_is_fraction : FnScope ["value"] ["value"] (defScope s_is_fraction) := ⟨rfl, rfl, rfl, by decide +kernel, rfl, by decide +kernel, by decide +kernel⟩
abbrev s_fraction : Stmt := topS 8
theorem sc_fraction : FnScope ["numerator", "denominator", "value"] ["numerator", "denominator"] (defScope s_fraction) := ⟨rfl, rfl, rfl, by decide +kernel, rfl, by decide +kernel, by decide +kernel⟩
abbrev s__law_pool : Stmt := topS 10
theorem sc__law_pool : FnScope ["_law_script", "_law_k", "_law_cell", "_law_great", "_law_mixed"] ["_law_script", "_law_k"] (defScope s__law_pool) := ⟨rfl, rfl, rfl, by decide +kernel, rfl, by decide +kernel, by decide +kernel⟩
abbrev s__law_draw : Stmt := topS 11
theorem sc__law_draw : FnScope ["_law_pool_here", "_law_many", "_law_found"] ["_law_pool_here", "_law_many"] (defScope s__law_draw) := ⟨rfl, rfl, rfl, by decide +kernel, rfl, by decide +kernel, by decide +kernel⟩
abbrev s__law_gcd : Stmt := topS 12
theorem sc__law_gcd : FnScope ["_law_a", "_law_b"] ["_law_a", "_law_b"] (defScope s__law_gcd) := ⟨rfl, rfl, rfl, by decide +kernel, rfl, by decide +kernel, by decide +kernel⟩
abbrev s__law_outcome : Stmt := topS 13
theorem sc__law_outcome : FnScope ["_law_numerator", "_law_denominator", "e"] ["_law_numerator", "_law_denominator"] (defScope s__law_outcome) := ⟨rfl, rfl, rfl, by decide +kernel, rfl, by decide +kernel, by decide +kernel⟩
abbrev s_law : Stmt := topS 14
theorem sc_law : FnScope ["_law_script", "_law_some", "_law_thing", "_law_k", "_law_pool_here", "_law_turn", "_law_small", "_law_one", "_law_other", "_law_below", "_law_found"] ["_law_script"] (defScope s_law) := ⟨rfl, rfl, rfl, by decide +kernel, rfl, by decide +kernel, by decide +kernel⟩
/-- what the top has written -/
structure Txt (P : Program) (K : PySem.W.Frag) (mg : Str → Option Value) (f_is_integer f_common_divisor f_reduced f_is_fraction f_fraction f__law_pool f__law_draw f__law_gcd f__law_outcome f_law C_InvalidNumber i_InvalidNumber q_InvalidNumber d_eInvalidNumber C_WorkError : Addr) (d_is_integer d_common_divisor d_reduced d_is_fraction d_fraction d__law_pool d__law_draw d__law_gcd d__law_outcome d_law : FuncData) : Prop where
  E_InvalidNumber : ErrTxt P K mg "InvalidNumber" "value" C_InvalidNumber i_InvalidNumber q_InvalidNumber d_eInvalidNumber
  gc_WorkError : mg "WorkError" = some (.ref C_WorkError)
  gc_InvalidNumber : mg "InvalidNumber" = some (.ref C_InvalidNumber)
  tb_InvalidNumber : ∀ k C, mg (exN k) = some (.ref C) → PySem.W.exmOne K (.ref C) (.ref C_InvalidNumber) = some (tb_InvalidNumber k)
  xf_value : ∀ k C, mg (exN k) = some (.ref C) → exF k = "value" → XfC K C ∧ PySem.W.findIn K (.ref C) "value" = some none
  xi_WorkError : ∀ k C, mg (exN k) = some (.ref C) → kxE K C ∧ PySem.W.kitOne K (.ref C) (.ref C_WorkError) = some (ib_WorkError k)
  b1_fraction : ∃ ds, Vals [V.int 1] ds ∧ Binds K d_fraction ["numerator", "denominator"] ds
  b_isinstance : mg "isinstance" = none
  b_bool : mg "bool" = none
  b_int : mg "int" = none
  b_abs : mg "abs" = none
  b_len : mg "len" = none
  b_tuple : mg "tuple" = none
  b_sum : mg "sum" = none
  b_repr : mg "repr" = none
  b_min : mg "min" = none
  b_max : mg "max" = none
  b_range : mg "range" = none
  F_is_integer : FunV K "is_integer" "is_integer" s_is_integer f_is_integer d_is_integer
  m_is_integer : mg "is_integer" = some (.ref f_is_integer)
  b_is_integer_ : Binds K d_is_integer ["value"] []
  F_common_divisor : FunV K "common_divisor" "common_divisor" s_common_divisor f_common_divisor d_common_divisor
  m_common_divisor : mg "common_divisor" = some (.ref f_common_divisor)
  b_common_divisor_ : Binds K d_common_divisor ["one", "other"] []
  F_reduced : FunV K "reduced" "reduced" s_reduced f_reduced d_reduced
  m_reduced : mg "reduced" = some (.ref f_reduced)
  b_reduced_ : Binds K d_reduced ["numerator", "denominator"] []
  F_is_fraction : FunV K "is_fraction" "is_fraction" s_is_fraction f_is_fraction d_is_fraction
  m_is_fraction : mg "is_fraction" = some (.ref f_is_fraction)
  b_is_fraction_ : Binds K d_is_fraction ["value"] []
  F_fraction : FunV K "fraction" "fraction" s_fraction f_fraction d_fraction
  m_fraction : mg "fraction" = some (.ref f_fraction)
  b_fraction_ : Binds K d_fraction ["numerator", "denominator"] []
  F__law_pool : FunV K "_law_pool" "_law_pool" s__law_pool f__law_pool d__law_pool
  m__law_pool : mg "_law_pool" = some (.ref f__law_pool)
  b__law_pool_ : Binds K d__law_pool ["_law_script", "_law_k"] []
  F__law_draw : FunV K "_law_draw" "_law_draw" s__law_draw f__law_draw d__law_draw
  m__law_draw : mg "_law_draw" = some (.ref f__law_draw)
  b__law_draw_ : Binds K d__law_draw ["_law_pool_here", "_law_many"] []
  F__law_gcd : FunV K "_law_gcd" "_law_gcd" s__law_gcd f__law_gcd d__law_gcd
  m__law_gcd : mg "_law_gcd" = some (.ref f__law_gcd)
  b__law_gcd_ : Binds K d__law_gcd ["_law_a", "_law_b"] []
  F__law_outcome : FunV K "_law_outcome" "_law_outcome" s__law_outcome f__law_outcome d__law_outcome
  m__law_outcome : mg "_law_outcome" = some (.ref f__law_outcome)
  b__law_outcome_ : Binds K d__law_outcome ["_law_numerator", "_law_denominator"] []
  F_law : FunV K "law" "law" s_law f_law d_law
  m_law : mg "law" = some (.ref f_law)
  b_law_ : Binds K d_law ["_law_script"] []
section
variable {P : Program} {w : World} {K : PySem.W.Frag} {mg : Str → Option Value} {base : Heap} {f_is_integer f_common_divisor f_reduced f_is_fraction f_fraction f__law_pool f__law_draw f__law_gcd f__law_outcome f_law C_InvalidNumber i_InvalidNumber q_InvalidNumber d_eInvalidNumber C_WorkError : Addr} {d_is_integer d_common_divisor d_reduced d_is_fraction d_fraction d__law_pool d__law_draw d__law_gcd d__law_outcome d_law : FuncData}
theorem w_is_integer (T : Txt P K mg f_is_integer f_common_divisor f_reduced f_is_fraction f_fraction f__law_pool f__law_draw f__law_gcd f__law_outcome f_law C_InvalidNumber i_InvalidNumber q_InvalidNumber d_eInvalidNumber C_WorkError d_is_integer d_common_divisor d_reduced d_is_fraction d_fraction d__law_pool d__law_draw d__law_gcd d__law_outcome d_law) : FnG P w K mg base 1 f_is_integer d_is_integer ["value"] (toA K mg 1 phi_is_integer) := by
  refine okA T.F_is_integer sc_is_integer phi_is_integer g_is_integer (fun cdv A outer s H E hr => ?_) law_is_integer
  have tk := takes_of (X := cxOf (L2.CX P w) P w K mg base ["value"] "is_integer" (defScope s_is_integer) f_is_integer cdv A outer s H E) (E := E) rfl rfl rfl rfl
  exact (pssd_one (psd_ret (pod_d (ped_and (ped_isi (ped_var (pv 0)) (pe_bltn rfl T.b_int PyProof.Rows.boot_int rfl) rfl T.b_isinstance) (ped_one (ped_not (ped_isi (ped_var (pv 0)) (pe_bltn rfl T.b_bool PyProof.Rows.boot_bool rfl) rfl T.b_isinstance)))))))
theorem w_common_divisor (T : Txt P K mg f_is_integer f_common_divisor f_reduced f_is_fraction f_fraction f__law_pool f__law_draw f__law_gcd f__law_outcome f_law C_InvalidNumber i_InvalidNumber q_InvalidNumber d_eInvalidNumber C_WorkError d_is_integer d_common_divisor d_reduced d_is_fraction d_fraction d__law_pool d__law_draw d__law_gcd d__law_outcome d_law) : FnG P w K mg base 1 f_common_divisor d_common_divisor ["one", "other"] (toA K mg 2 phi_common_divisor) := by
  refine okA T.F_common_divisor sc_common_divisor phi_common_divisor g_common_divisor (fun cdv A outer s H E hr => ?_) law_common_divisor
  have tk := takes_of (X := cxOf (L2.CX P w) P w K mg base ["one", "other"] "common_divisor" (defScope s_common_divisor) f_common_divisor cdv A outer s H E) (E := E) rfl rfl rfl rfl
  exact (pssd_cons (psd_par (i := 0) (j := 1) rfl sc_common_divisor.nd rfl rfl (by decide) rfl rfl (ped_callB c_abs rfl T.b_abs PyProof.Rows.boot_abs (pad_cons (ped_var (pv 0)) pad_nil)) (ped_callB c_abs rfl T.b_abs PyProof.Rows.boot_abs (pad_cons (ped_var (pv 1)) pad_nil)) (fun pa pb => ps_par rfl sc_common_divisor.nd rfl rfl (by decide) rfl rfl (pa_cons pa (pa_cons pb pa_nil)) (by rfl)))
    (pssd_cons (psd_while (passes_of rfl) (ptd_cmp o_gt (ped_var (pv 1)) ped_int) (pssd_one (psd_par (i := 0) (j := 1) rfl sc_common_divisor.nd rfl rfl (by decide) rfl rfl (ped_var (pv 1)) (ped_op o_mod (ped_var (pv 0)) (ped_var (pv 1))) (fun pa pb => ps_par rfl sc_common_divisor.nd rfl rfl (by decide) rfl rfl (pa_cons pa (pa_cons pb pa_nil)) (by rfl)))))
    (pssd_one (psd_ret (pod_d (ped_var (pv 0)))))))
theorem w_reduced (T : Txt P K mg f_is_integer f_common_divisor f_reduced f_is_fraction f_fraction f__law_pool f__law_draw f__law_gcd f__law_outcome f_law C_InvalidNumber i_InvalidNumber q_InvalidNumber d_eInvalidNumber C_WorkError d_is_integer d_common_divisor d_reduced d_is_fraction d_fraction d__law_pool d__law_draw d__law_gcd d__law_outcome d_law) (G_common_divisor : FnG P w K mg base 1 f_common_divisor d_common_divisor ["one", "other"] (toA K mg 2 phi_common_divisor)) : FnG P w K mg base 2 f_reduced d_reduced ["numerator", "denominator"] (toA K mg 2 phi_reduced) := by
  refine okA T.F_reduced sc_reduced phi_reduced g_reduced (fun cdv A outer s H E hr => ?_) law_reduced
  have tk := takes_of (X := cxOf (L2.CX P w) P w K mg base ["numerator", "denominator", "divisor"] "reduced" (defScope s_reduced) f_reduced cdv A outer s H E) (E := E) rfl rfl rfl rfl
  exact (pssd_cons (psd_set (i := 2) sc_reduced.nd rfl (Or.inl rfl) (pod_callA tk G_common_divisor (hr.mono (by decide)) rfl T.m_common_divisor T.F_common_divisor.kp T.b_common_divisor_ (pad_cons (ped_var (pv 0)) (pad_cons (ped_var (pv 1)) pad_nil))))
    (pssd_cons (psd_if (ptd_cmp o_lt (ped_var (pv 1)) ped_int) (pssd_one (psd_set (i := 2) sc_reduced.nd rfl (Or.inl rfl) (pod_d (ped_un o_neg (ped_var (pv 2)))))) pssd_nil)
    (pssd_one (psd_ret (pod_d (ped_tup (pad_cons (ped_op o_div (ped_var (pv 0)) (ped_var (pv 2))) (pad_cons (ped_op o_div (ped_var (pv 1)) (ped_var (pv 2))) pad_nil))))))))
theorem w_is_fraction (T : Txt P K mg f_is_integer f_common_divisor f_reduced f_is_fraction f_fraction f__law_pool f__law_draw f__law_gcd f__law_outcome f_law C_InvalidNumber i_InvalidNumber q_InvalidNumber d_eInvalidNumber C_WorkError d_is_integer d_common_divisor d_reduced d_is_fraction d_fraction d__law_pool d__law_draw d__law_gcd d__law_outcome d_law) (G_common_divisor : FnG P w K mg base 1 f_common_divisor d_common_divisor ["one", "other"] (toA K mg 2 phi_common_divisor)) (G_is_integer : FnG P w K mg base 1 f_is_integer d_is_integer ["value"] (toA K mg 1 phi_is_integer)) : FnG P w K mg base 2 f_is_fraction d_is_fraction ["value"] (toA K mg 1 phi_is_fraction) := by
  refine okA T.F_is_fraction sc_is_fraction phi_is_fraction g_is_fraction (fun cdv A outer s H E hr => ?_) law_is_fraction
  have tk := takes_of (X := cxOf (L2.CX P w) P w K mg base ["value"] "is_fraction" (defScope s_is_fraction) f_is_fraction cdv A outer s H E) (E := E) rfl rfl rfl rfl
  exact (pssd_cons (psd_if (PWD.pt (pwd_or (ptd_not (ptd_val (ped_isi (ped_var (pv 0)) (pe_bltn rfl T.b_tuple PyProof.Rows.boot_tuple rfl) rfl T.b_isinstance))) (pwd_or1 (ptd_cmp (o_ne hr.r) (ped_callB c_len rfl T.b_len PySem.boot_len (pad_cons (ped_var (pv 0)) pad_nil)) ped_int)))) (pssd_one (psd_ret (pod_d ped_bl))) pssd_nil)
    (pssd_cons (psd_if (PWD.pt (pwd_or (ptd_not (ptd_val (ped_fz (pod_callA tk G_is_integer (hr.mono (by decide)) rfl T.m_is_integer T.F_is_integer.kp T.b_is_integer_ (pad_cons (ped_ix o_ix (ped_var (pv 0)) ped_int) pad_nil))))) (pwd_or (ptd_not (ptd_val (ped_fz (pod_callA tk G_is_integer (hr.mono (by decide)) rfl T.m_is_integer T.F_is_integer.kp T.b_is_integer_ (pad_cons (ped_ix o_ix (ped_var (pv 0)) ped_int) pad_nil))))) (pwd_or1 (ptd_cmp o_lt (ped_ix o_ix (ped_var (pv 0)) ped_int) ped_int))))) (pssd_one (psd_ret (pod_d ped_bl))) pssd_nil)
    (pssd_one (psd_ret (pod_d (ped_cmp (o_eq hr.r) (ped_fz (pod_callA tk G_common_divisor (hr.mono (by decide)) rfl T.m_common_divisor T.F_common_divisor.kp T.b_common_divisor_ (pad_cons (ped_ix o_ix (ped_var (pv 0)) ped_int) (pad_cons (ped_ix o_ix (ped_var (pv 0)) ped_int) pad_nil)))) ped_int))))))
theorem w_fraction (T : Txt P K mg f_is_integer f_common_divisor f_reduced f_is_fraction f_fraction f__law_pool f__law_draw f__law_gcd f__law_outcome f_law C_InvalidNumber i_InvalidNumber q_InvalidNumber d_eInvalidNumber C_WorkError d_is_integer d_common_divisor d_reduced d_is_fraction d_fraction d__law_pool d__law_draw d__law_gcd d__law_outcome d_law) (G_reduced : FnG P w K mg base 2 f_reduced d_reduced ["numerator", "denominator"] (toA K mg 2 phi_reduced)) (G_is_integer : FnG P w K mg base 1 f_is_integer d_is_integer ["value"] (toA K mg 1 phi_is_integer)) : FnG P w K mg base 3 f_fraction d_fraction ["numerator", "denominator"] (toA K mg 2 phi_fraction) := by
  refine okA T.F_fraction sc_fraction phi_fraction g_fraction (fun cdv A outer s H E hr => ?_) law_fraction
  have tk := takes_of (X := cxOf (L2.CX P w) P w K mg base ["numerator", "denominator", "value"] "fraction" (defScope s_fraction) f_fraction cdv A outer s H E) (E := E) rfl rfl rfl rfl
  exact (pssd_cons (psd_for (passes_of rfl) rfl (pid_tup (ped_tup (pad_cons (ped_var (pv 0)) (pad_cons (ped_var (pv 1)) pad_nil)))) (pgd_name (i := 2) sc_fraction.nd rfl (Or.inl rfl)) (pssd_one (psd_if (ptd_not (ptd_val (ped_fz (pod_callA tk G_is_integer (hr.mono (by decide)) rfl T.m_is_integer T.F_is_integer.kp T.b_is_integer_ (pad_cons (ped_var (pv 2)) pad_nil))))) (pssd_one (psd_raise (k := 0) rfl tk T.E_InvalidNumber rfl rfl fld_value (hr.mono (by decide) : RoomG 1 _) (ped_var (pv 2)) rfl)) pssd_nil)))
    (pssd_cons (psd_if (ptd_cmp (o_eq hr.r) (ped_var (pv 1)) ped_int) (pssd_one (psd_raise (k := 0) rfl tk T.E_InvalidNumber rfl rfl fld_value (hr.mono (by decide) : RoomG 1 _) (ped_var (pv 1)) rfl)) pssd_nil)
    (pssd_one (psd_ret (pod_callA tk G_reduced (hr.mono (by decide)) rfl T.m_reduced T.F_reduced.kp T.b_reduced_ (pad_cons (ped_var (pv 0)) (pad_cons (ped_var (pv 1)) pad_nil)))))))
theorem w__law_pool (T : Txt P K mg f_is_integer f_common_divisor f_reduced f_is_fraction f_fraction f__law_pool f__law_draw f__law_gcd f__law_outcome f_law C_InvalidNumber i_InvalidNumber q_InvalidNumber d_eInvalidNumber C_WorkError d_is_integer d_common_divisor d_reduced d_is_fraction d_fraction d__law_pool d__law_draw d__law_gcd d__law_outcome d_law) : FnG P w K mg base 1 f__law_pool d__law_pool ["_law_script", "_law_k"] (toA K mg 2 phi__law_pool) := by
  refine okA T.F__law_pool sc__law_pool phi__law_pool g__law_pool (fun cdv A outer s H E hr => ?_) law__law_pool
  have tk := takes_of (X := cxOf (L2.CX P w) P w K mg base ["_law_script", "_law_k", "_law_cell", "_law_great", "_law_mixed"] "_law_pool" (defScope s__law_pool) f__law_pool cdv A outer s H E) (E := E) rfl rfl rfl rfl
  exact (pssd_cons (psd_set (i := 2) sc__law_pool.nd rfl (Or.inl rfl) (pod_d (ped_op o_add (ped_op o_mul ped_int (ped_callB (c_sum rfl) rfl T.b_sum PyProof.Rows.boot_sum (pad_cons (ped_fz (pod_slL (ped_var (pv 0)) pp_none (pp_some ped_int))) pad_nil))) (ped_var (pv 1)))))
    (pssd_cons (psd_if (ptd_cmp o_lt (ped_var (pv 1)) (ped_callB c_len rfl T.b_len PySem.boot_len (pad_cons (ped_var (pv 0)) pad_nil))) (pssd_one (psd_set (i := 2) sc__law_pool.nd rfl (Or.inl rfl) (pod_d (ped_ix o_ix (ped_var (pv 0)) (ped_var (pv 1)))))) pssd_nil)
    (pssd_cons (psd_set (i := 3) sc__law_pool.nd rfl (Or.inl rfl) (pod_d (ped_callB c_abs rfl T.b_abs PyProof.Rows.boot_abs (pad_cons (ped_var (pv 2)) pad_nil))))
    (pssd_cons (psd_set (i := 4) sc__law_pool.nd rfl (Or.inl rfl) (pod_d (ped_op o_mod (ped_op o_mul (ped_op o_add (ped_op o_add (ped_op o_add (ped_op o_mod (ped_var (pv 3)) ped_int) (ped_op o_mul (ped_op o_mul ped_int (ped_var (pv 1))) (ped_var (pv 1)))) (ped_op o_mul ped_int (ped_var (pv 1)))) ped_int) ped_int) ped_int)))
    (pssd_one (psd_ret (pod_lst (pad_cons (ped_op o_mul (ped_var (pv 3)) (ped_callTy c_int rfl T.b_int PyProof.Rows.boot_int (pad_cons (ped_cmp o_ge (ped_var (pv 3)) (ped_op o_pow ped_int ped_int)) pad_nil))) (pad_cons (ped_op o_mod (ped_op o_mul (ped_var (pv 4)) (ped_var (pv 4))) ped_int) pad_nil)))))))))
theorem w__law_draw (T : Txt P K mg f_is_integer f_common_divisor f_reduced f_is_fraction f_fraction f__law_pool f__law_draw f__law_gcd f__law_outcome f_law C_InvalidNumber i_InvalidNumber q_InvalidNumber d_eInvalidNumber C_WorkError d_is_integer d_common_divisor d_reduced d_is_fraction d_fraction d__law_pool d__law_draw d__law_gcd d__law_outcome d_law) : FnG P w K mg base 1 f__law_draw d__law_draw ["_law_pool_here", "_law_many"] (toB K mg 2 phi__law_draw) := by
  refine okB T.F__law_draw sc__law_draw phi__law_draw g__law_draw (fun cdv A outer s H E hr => ?_) law__law_draw
  have tk := takes_of (X := cxOf (L2.CX P w) P w K mg base ["_law_pool_here", "_law_many", "_law_found"] "_law_draw" (defScope s__law_draw) f__law_draw cdv A outer s H E) (E := E) rfl rfl rfl rfl
  exact (pssd_cons (psd_if (ptd_cmp o_gt (ped_ixO (pv 0) ped_int) ped_int) (pssd_cons (psd_set (i := 2) sc__law_draw.nd rfl (Or.inl rfl) (pod_d (ped_op o_mod (ped_ixO (pv 0) ped_int) (ped_var (pv 1)))))
    (pssd_cons (psd_store (pv 0) ped_int (ped_op o_div (ped_ixO (pv 0) ped_int) (ped_var (pv 1))))
    (pssd_one (psd_ret (pod_d (ped_var (pv 2))))))) pssd_nil)
    (pssd_cons (psd_store (pv 0) ped_int (ped_op o_mod (ped_op o_add (ped_op o_mul (ped_ixO (pv 0) ped_int) ped_int) ped_int) ped_int))
    (pssd_one (psd_ret (pod_d (ped_op o_mod (ped_op o_div (ped_op o_mod (ped_op o_mul (ped_ixO (pv 0) ped_int) (ped_ixO (pv 0) ped_int)) ped_int) ped_int) (ped_var (pv 1))))))))
theorem w__law_gcd (T : Txt P K mg f_is_integer f_common_divisor f_reduced f_is_fraction f_fraction f__law_pool f__law_draw f__law_gcd f__law_outcome f_law C_InvalidNumber i_InvalidNumber q_InvalidNumber d_eInvalidNumber C_WorkError d_is_integer d_common_divisor d_reduced d_is_fraction d_fraction d__law_pool d__law_draw d__law_gcd d__law_outcome d_law) : FnG P w K mg base 1 f__law_gcd d__law_gcd ["_law_a", "_law_b"] (toA K mg 2 phi__law_gcd) := by
  refine okA T.F__law_gcd sc__law_gcd phi__law_gcd g__law_gcd (fun cdv A outer s H E hr => ?_) law__law_gcd
  have tk := takes_of (X := cxOf (L2.CX P w) P w K mg base ["_law_a", "_law_b"] "_law_gcd" (defScope s__law_gcd) f__law_gcd cdv A outer s H E) (E := E) rfl rfl rfl rfl
  exact (pssd_cons (psd_while (passes_of rfl) (ptd_cmp (o_ne hr.r) (ped_var (pv 1)) ped_int) (pssd_one (psd_par (i := 0) (j := 1) rfl sc__law_gcd.nd rfl rfl (by decide) rfl rfl (ped_var (pv 1)) (ped_op o_mod (ped_var (pv 0)) (ped_var (pv 1))) (fun pa pb => ps_par rfl sc__law_gcd.nd rfl rfl (by decide) rfl rfl (pa_cons pa (pa_cons pb pa_nil)) (by rfl)))))
    (pssd_one (psd_ret (pod_d (ped_callB c_abs rfl T.b_abs PyProof.Rows.boot_abs (pad_cons (ped_var (pv 0)) pad_nil))))))
theorem w__law_outcome (T : Txt P K mg f_is_integer f_common_divisor f_reduced f_is_fraction f_fraction f__law_pool f__law_draw f__law_gcd f__law_outcome f_law C_InvalidNumber i_InvalidNumber q_InvalidNumber d_eInvalidNumber C_WorkError d_is_integer d_common_divisor d_reduced d_is_fraction d_fraction d__law_pool d__law_draw d__law_gcd d__law_outcome d_law) (G_fraction : FnG P w K mg base 3 f_fraction d_fraction ["numerator", "denominator"] (toA K mg 2 phi_fraction)) : FnG P w K mg base 4 f__law_outcome d__law_outcome ["_law_numerator", "_law_denominator"] (toA K mg 2 phi__law_outcome) := by
  refine okA T.F__law_outcome sc__law_outcome phi__law_outcome g__law_outcome (fun cdv A outer s H E hr => ?_) law__law_outcome
  have tk := takes_of (X := cxOf (L2.CX P w) P w K mg base ["_law_numerator", "_law_denominator", "e"] "_law_outcome" (defScope s__law_outcome) f__law_outcome cdv A outer s H E) (E := E) rfl rfl rfl rfl
  exact (pssd_one (psd_try_as (i := 2) (tb := tb_InvalidNumber) rfl rfl sc__law_outcome.nd rfl rfl ⟨rfl, by decide, Or.inl T.E_InvalidNumber.gC⟩ tk T.tb_InvalidNumber (fun W' pn xe tk hp => (pssd_one (psd_ret (pod_callA tk G_fraction (hr.mono (by decide)) rfl T.m_fraction T.F_fraction.kp T.b_fraction_ (pad_cons (ped_var (pv 0)) (pad_cons (ped_var (pv 1)) pad_nil)))))) (fun u oe pn er hz hv => (pssd_one (psd_ret (pod_lst (pad_cons ped_str (pad_cons (ped_callB (c_repr hr.gd (room_un hr :)) rfl T.b_repr PyProof.Rows.boot_repr (pad_cons (ped_xf T.xf_value hz hv (pv 2)) pad_nil)) (pad_cons (ped_xi T.xi_WorkError hz hv (pv 2) (pe_glob (v := .ref C_WorkError) rfl T.gc_WorkError rfl) (fun _ h => h) rfl T.b_isinstance) pad_nil)))))))))
theorem w_law (T : Txt P K mg f_is_integer f_common_divisor f_reduced f_is_fraction f_fraction f__law_pool f__law_draw f__law_gcd f__law_outcome f_law C_InvalidNumber i_InvalidNumber q_InvalidNumber d_eInvalidNumber C_WorkError d_is_integer d_common_divisor d_reduced d_is_fraction d_fraction d__law_pool d__law_draw d__law_gcd d__law_outcome d_law) (G__law_outcome : FnG P w K mg base 4 f__law_outcome d__law_outcome ["_law_numerator", "_law_denominator"] (toA K mg 2 phi__law_outcome)) (G_is_fraction : FnG P w K mg base 2 f_is_fraction d_is_fraction ["value"] (toA K mg 1 phi_is_fraction)) (G__law_gcd : FnG P w K mg base 1 f__law_gcd d__law_gcd ["_law_a", "_law_b"] (toA K mg 2 phi__law_gcd)) (G_fraction : FnG P w K mg base 3 f_fraction d_fraction ["numerator", "denominator"] (toA K mg 2 phi_fraction)) (G__law_draw : FnG P w K mg base 1 f__law_draw d__law_draw ["_law_pool_here", "_law_many"] (toB K mg 2 phi__law_draw)) (G__law_pool : FnG P w K mg base 1 f__law_pool d__law_pool ["_law_script", "_law_k"] (toA K mg 2 phi__law_pool)) : FnG P w K mg base 5 f_law d_law ["_law_script"] (toA K mg 1 phi_law) := by
  refine okA T.F_law sc_law phi_law g_law (fun cdv A outer s H E hr => ?_) law_law
  have tk := takes_of (X := cxOf (L2.CX P w) P w K mg base ["_law_script", "_law_some", "_law_thing", "_law_k", "_law_pool_here", "_law_turn", "_law_small", "_law_one", "_law_other", "_law_below", "_law_found"] "law" (defScope s_law) f_law cdv A outer s H E) (E := E) rfl rfl rfl rfl
  exact (pssd_cons (psd_set (i := 1) sc_law.nd rfl (Or.inl rfl) (pod_d (ped_fz (pod_lst (pad_cons ped_non (pad_cons ped_int (pad_cons ped_int (pad_cons (ped_tup pad_nil) (pad_cons (ped_tup (pad_cons ped_int pad_nil)) (pad_cons (ped_tup (pad_cons ped_int (pad_cons ped_int (pad_cons ped_int pad_nil)))) (pad_cons (ped_fz (pod_lst (pad_cons ped_int (pad_cons ped_int pad_nil)))) (pad_cons (ped_tup (pad_cons ped_int (pad_cons ped_int pad_nil))) (pad_cons (ped_tup (pad_cons ped_int (pad_cons (ped_un o_neg ped_int) pad_nil))) (pad_cons (ped_tup (pad_cons ped_int (pad_cons ped_int pad_nil))) (pad_cons (ped_tup (pad_cons ped_int (pad_cons ped_int pad_nil))) (pad_cons (ped_tup (pad_cons ped_int (pad_cons ped_int pad_nil))) (pad_cons (ped_tup (pad_cons ped_bl (pad_cons ped_int pad_nil))) pad_nil)))))))))))))))))
    (pssd_cons (psd_for (passes_of rfl) rfl (pid_lst (ped_fz (pod_cat (ped_var (pv 1)) (ped_fz (pod_lst (pad_cons (ped_tup (pad_cons ped_int (pad_cons ped_bl pad_nil))) (pad_cons ped_str (pad_cons (ped_tup (pad_cons ped_non (pad_cons ped_int pad_nil))) (pad_cons (ped_tup (pad_cons ped_str (pad_cons ped_int pad_nil))) (pad_cons ped_dic0 pad_nil)))))))))) (pgd_name (i := 2) sc_law.nd rfl (Or.inl rfl)) (pssd_one (psd_if (ptd_cmp o_isNot (ped_fz (pod_callA tk G_is_fraction (hr.mono (by decide)) rfl T.m_is_fraction T.F_is_fraction.kp T.b_is_fraction_ (pad_cons (ped_var (pv 2)) pad_nil))) ped_bl) (pssd_one (psd_ret (pod_d ped_bl))) pssd_nil)))
    (pssd_cons (psd_for (passes_of rfl) rfl (pid_rng1 rfl T.b_range (pad_cons (ped_callB (c_max2 rfl) rfl T.b_max PyProof.Rows.boot_max (pad_cons ped_int (pad_cons (ped_callB (c_min2 rfl) rfl T.b_min PyProof.Rows.boot_min (pad_cons (ped_callB c_len rfl T.b_len PySem.boot_len (pad_cons (ped_var (pv 0)) pad_nil)) (pad_cons ped_int pad_nil))) pad_nil))) pad_nil)) (pgd_name (i := 3) sc_law.nd rfl (Or.inl rfl)) (pssd_cons (psd_set (i := 4) sc_law.nd rfl (Or.inl rfl) (pod_callA tk G__law_pool (hr.mono (by decide)) rfl T.m__law_pool T.F__law_pool.kp T.b__law_pool_ (pad_cons (ped_var (pv 0)) (pad_cons (ped_var (pv 3)) pad_nil))))
    (pssd_cons (psd_for (passes_of rfl) rfl (pid_rng1 rfl T.b_range (pad_cons ped_int pad_nil)) (pgd_name (i := 5) sc_law.nd rfl (Or.inl rfl)) (pssd_cons (psd_set (i := 6) sc_law.nd rfl (Or.inl rfl) (pod_callB tk G__law_draw (hr.mono (by decide)) rfl T.m__law_draw T.F__law_draw.kp T.b__law_draw_ (pv 4) (pad_cons ped_int pad_nil)))
    (pssd_cons (psd_set (i := 7) sc_law.nd rfl (Or.inl rfl) (pod_d (ped_op o_sub (ped_fz (pod_callB tk G__law_draw (hr.mono (by decide)) rfl T.m__law_draw T.F__law_draw.kp T.b__law_draw_ (pv 4) (pad_cons (ped_ix o_ix (ped_fz (pod_lst (pad_cons (ped_op o_pow ped_int ped_int) (pad_cons ped_int pad_nil)))) (ped_var (pv 6))) pad_nil))) (ped_fz (pod_callB tk G__law_draw (hr.mono (by decide)) rfl T.m__law_draw T.F__law_draw.kp T.b__law_draw_ (pv 4) (pad_cons (ped_ix o_ix (ped_fz (pod_lst (pad_cons (ped_op o_pow ped_int ped_int) (pad_cons ped_int pad_nil)))) (ped_var (pv 6))) pad_nil))))))
    (pssd_cons (psd_set (i := 8) sc_law.nd rfl (Or.inl rfl) (pod_d (ped_op o_add ped_int (ped_fz (pod_callB tk G__law_draw (hr.mono (by decide)) rfl T.m__law_draw T.F__law_draw.kp T.b__law_draw_ (pv 4) (pad_cons (ped_ix o_ix (ped_fz (pod_lst (pad_cons (ped_op o_pow ped_int ped_int) (pad_cons ped_int pad_nil)))) (ped_var (pv 6))) pad_nil))))))
    (pssd_cons (psd_for (passes_of rfl) rfl (pid_tup (ped_tup (pad_cons (ped_var (pv 8)) (pad_cons (ped_un o_neg (ped_var (pv 8))) pad_nil)))) (pgd_name (i := 9) sc_law.nd rfl (Or.inl rfl)) (pssd_cons (psd_set (i := 10) sc_law.nd rfl (Or.inl rfl) (pod_callA tk G_fraction (hr.mono (by decide)) rfl T.m_fraction T.F_fraction.kp T.b_fraction_ (pad_cons (ped_var (pv 7)) (pad_cons (ped_var (pv 9)) pad_nil))))
    (pssd_cons (psd_if (PWD.pt (pwd_or (ptd_not (ptd_val (ped_isi (ped_var (pv 10)) (pe_bltn rfl T.b_tuple PyProof.Rows.boot_tuple rfl) rfl T.b_isinstance))) (pwd_or (ptd_cmp (o_ne hr.r) (ped_op o_mul (ped_ix o_ix (ped_var (pv 10)) ped_int) (ped_var (pv 9))) (ped_op o_mul (ped_var (pv 7)) (ped_ix o_ix (ped_var (pv 10)) ped_int))) (pwd_or1 (ptd_cmp o_lt (ped_ix o_ix (ped_var (pv 10)) ped_int) ped_int))))) (pssd_one (psd_ret (pod_d ped_bl))) pssd_nil)
    (pssd_one (psd_if (PWD.pt (pwd_or (ptd_cmp (o_ne hr.r) (ped_fz (pod_callA tk G__law_gcd (hr.mono (by decide)) rfl T.m__law_gcd T.F__law_gcd.kp T.b__law_gcd_ (pad_cons (ped_ix o_ix (ped_var (pv 10)) ped_int) (pad_cons (ped_ix o_ix (ped_var (pv 10)) ped_int) pad_nil)))) ped_int) (pwd_or1 (ptd_cmp o_isNot (ped_fz (pod_callA tk G_is_fraction (hr.mono (by decide)) rfl T.m_is_fraction T.F_is_fraction.kp T.b_is_fraction_ (pad_cons (ped_var (pv 10)) pad_nil))) ped_bl)))) (pssd_one (psd_ret (pod_d ped_bl))) pssd_nil)))))
    (pssd_cons (psd_if (PWD.pt (pwd_or (ptd_cmp (o_ne hr.r) (ped_fz (pod_callAD tk G_fraction (hr.mono (by decide)) rfl T.m_fraction T.F_fraction.kp T.b1_fraction (fun _ => (repL_cons rep_int repL_nil)) (pad_cons (ped_var (pv 7)) pad_nil))) (ped_tup (pad_cons (ped_var (pv 7)) (pad_cons ped_int pad_nil)))) (pwd_or1 (ptd_cmp (o_ne hr.r) (ped_fz (pod_callA tk G_is_fraction (hr.mono (by decide)) rfl T.m_is_fraction T.F_is_fraction.kp T.b_is_fraction_ (pad_cons (ped_tup (pad_cons (ped_var (pv 7)) (pad_cons (ped_var (pv 8)) pad_nil))) pad_nil))) (ped_cmp (o_eq hr.r) (ped_fz (pod_callA tk G__law_gcd (hr.mono (by decide)) rfl T.m__law_gcd T.F__law_gcd.kp T.b__law_gcd_ (pad_cons (ped_var (pv 7)) (pad_cons (ped_var (pv 8)) pad_nil)))) ped_int))))) (pssd_one (psd_ret (pod_d ped_bl))) pssd_nil)
    (pssd_one (psd_if (PWD.pt (pwd_or (ptd_val (ped_fz (pod_callA tk G_is_fraction (hr.mono (by decide)) rfl T.m_is_fraction T.F_is_fraction.kp T.b_is_fraction_ (pad_cons (ped_tup (pad_cons (ped_var (pv 7)) (pad_cons (ped_un o_neg (ped_var (pv 8))) pad_nil))) pad_nil)))) (pwd_or1 (ptd_cmp (o_ne hr.r) (ped_fz (pod_callA tk G__law_outcome (hr.mono (by decide)) rfl T.m__law_outcome T.F__law_outcome.kp T.b__law_outcome_ (pad_cons (ped_var (pv 7)) (pad_cons ped_int pad_nil)))) (ped_fz (pod_lst (pad_cons ped_str (pad_cons ped_str (pad_cons ped_bl pad_nil))))))))) (pssd_one (psd_ret (pod_d ped_bl))) pssd_nil))))))))
    (pssd_one (psd_for (passes_of rfl) rfl (pid_lst (ped_fz (pod_lst (pad_cons ped_non (pad_cons ped_bl (pad_cons ped_str (pad_cons (ped_tup (pad_cons ped_int (pad_cons ped_int pad_nil))) (pad_cons (ped_fz (pod_lst (pad_cons ped_int pad_nil))) (pad_cons ped_dic0 pad_nil))))))))) (pgd_name (i := 2) sc_law.nd rfl (Or.inl rfl)) (pssd_cons (psd_if (ptd_cmp (o_ne hr.r) (ped_fz (pod_callA tk G__law_outcome (hr.mono (by decide)) rfl T.m__law_outcome T.F__law_outcome.kp T.b__law_outcome_ (pad_cons (ped_var (pv 2)) (pad_cons ped_non pad_nil)))) (ped_fz (pod_lst (pad_cons ped_str (pad_cons (ped_callB (c_repr hr.gd (room_un hr :)) rfl T.b_repr PyProof.Rows.boot_repr (pad_cons (ped_var (pv 2)) pad_nil)) (pad_cons ped_bl pad_nil)))))) (pssd_one (psd_ret (pod_d ped_bl))) pssd_nil)
    (pssd_one (psd_if (ptd_cmp (o_ne hr.r) (ped_fz (pod_callA tk G__law_outcome (hr.mono (by decide)) rfl T.m__law_outcome T.F__law_outcome.kp T.b__law_outcome_ (pad_cons ped_int (pad_cons (ped_var (pv 2)) pad_nil)))) (ped_fz (pod_lst (pad_cons ped_str (pad_cons (ped_callB (c_repr hr.gd (room_un hr :)) rfl T.b_repr PyProof.Rows.boot_repr (pad_cons (ped_var (pv 2)) pad_nil)) (pad_cons ped_bl pad_nil)))))) (pssd_one (psd_ret (pod_d ped_bl))) pssd_nil))))))))
    (pssd_one (psd_ret (pod_d ped_bl))))))
end
/-- law's: at most 63 ints in, True out -/
def spLaw (K : PySem.W.Frag) : Sp := fun vs H Q _ => ∃ (a : Addr) (ns : List Int), vs = [.ref a] ∧ SqL K H a (ns.map V.int) ∧ ns.length ≤ 63 ∧ ∀ H', Q (.bl true) H'
theorem spLaw_to {K : PySem.W.Frag} {mg : Str → Option Value} : ∀ vs H Q E, spLaw K vs H Q E → toA K mg 1 phi_law vs H Q E := by
  rintro vs H Q E ⟨a, ns, rfl, hs, hl, k⟩
  refine ⟨rfl, H, [scr ns], fun _ => False, fun r => r = .fz (.bl true), Same.refl _, repL_cons (rep_nd (t := .scr) hs (repL_ints ns)) repL_nil, ⟨ns, rfl, hl, rfl⟩, fun _ _ _ _ _ z => z.elim, fun r v H0' H' e f rr => ?_⟩
  subst e
  have e : v = .bl true := Rep.bl (show Rep K mg H0' (.bl true) v from rr)
  subst e
  exact k H'
theorem all_mk {l : PySem.W.OpenLaw} {w : World} {K : PySem.W.Frag} {h : Heap} {mg : Str → Option Value} {fa f_is_integer f_common_divisor f_reduced f_is_fraction f_fraction f__law_pool f__law_draw f__law_gcd f__law_outcome f_law C_InvalidNumber i_InvalidNumber q_InvalidNumber d_eInvalidNumber C_WorkError : Addr} (X : K.In h) (G : h.Ns mainGlobals mg) (hfa : mg "law" = some (.ref fa))
    {od0 an0 od1 an1 od2 an2 od3 an3 od4 an4 od5 an5 od6 an6 od7 an7 od8 an8 od9 an9 : Option Addr} {sl0 sl1 sl2 sl3 sl4 sl5 sl6 sl7 sl8 sl9 : Array (Option Value)} {oc0 kV0 dc0 pm0 cd0 ct0 oc1 kV1 dc1 pm1 cd1 ct1 oc2 kV2 dc2 pm2 cd2 ct2 oc3 kV3 dc3 pm3 cd3 ct3 oc4 kV4 dc4 pm4 cd4 ct4 oc5 kV5 dc5 pm5 cd5 ct5 oc6 kV6 dc6 pm6 cd6 ct6 oc7 kV7 dc7 pm7 cd7 ct7 oc8 kV8 dc8 pm8 cd8 ct8 oc9 kV9 dc9 pm9 cd9 ct9 : Value}
    {t_fraction : Addr} {tdd_fraction : Option Addr} {tn_fraction : Nat} {tsl_fraction : Array (Option Value)} {tty0_fraction : Tok}
    {nm_InvalidNumber qn_InvalidNumber ms_InvalidNumber file_InvalidNumber : Str} {N_InvalidNumber : Addr} {bs_InvalidNumber sub_InvalidNumber : List Value} {sn_InvalidNumber : List Str} {ab_InvalidNumber : Bool} {col_InvalidNumber : Option Bool} {dd_InvalidNumber od_InvalidNumber an_InvalidNumber cdd_InvalidNumber cld_InvalidNumber : Option Addr} {m0_InvalidNumber m1_InvalidNumber m2_InvalidNumber m3_InvalidNumber m5_InvalidNumber : Option Value} {osl_InvalidNumber ccs_InvalidNumber csl_InvalidNumber : Array (Option Value)} {oc_InvalidNumber dc_InvalidNumber pm_InvalidNumber ct_InvalidNumber ccl_InvalidNumber cl_InvalidNumber : Value} {jj_InvalidNumber : Nat} {p1_InvalidNumber p2_InvalidNumber q0_InvalidNumber q1_InvalidNumber q2_InvalidNumber q3_InvalidNumber q4_InvalidNumber q5_InvalidNumber q6_InvalidNumber q7_InvalidNumber q8_InvalidNumber q9_InvalidNumber : Pos} {vs_InvalidNumber : Array Value} {tf_InvalidNumber : Tok}
    (a_is_integer : PySem.W.nsIn K mainGlobals "is_integer" = some (some (.ref f_is_integer))) (l_is_integer : K.lookup f_is_integer = some ⟨oc0, od0, .func (PySem.W.fnOf "is_integer" "is_integer" (defArgs s_is_integer) (defBody s_is_integer) (defScope s_is_integer) .none kV0 dc0 pm0 an0 cd0 ct0), sl0⟩) (x_is_integer : PySem.W.codeIn K cd0 "is_integer" = true) (k_is_integer : PySem.W.keepIn K (.ref f_is_integer) = true)
    (a_common_divisor : PySem.W.nsIn K mainGlobals "common_divisor" = some (some (.ref f_common_divisor))) (l_common_divisor : K.lookup f_common_divisor = some ⟨oc1, od1, .func (PySem.W.fnOf "common_divisor" "common_divisor" (defArgs s_common_divisor) (defBody s_common_divisor) (defScope s_common_divisor) .none kV1 dc1 pm1 an1 cd1 ct1), sl1⟩) (x_common_divisor : PySem.W.codeIn K cd1 "common_divisor" = true) (k_common_divisor : PySem.W.keepIn K (.ref f_common_divisor) = true)
    (a_reduced : PySem.W.nsIn K mainGlobals "reduced" = some (some (.ref f_reduced))) (l_reduced : K.lookup f_reduced = some ⟨oc2, od2, .func (PySem.W.fnOf "reduced" "reduced" (defArgs s_reduced) (defBody s_reduced) (defScope s_reduced) .none kV2 dc2 pm2 an2 cd2 ct2), sl2⟩) (x_reduced : PySem.W.codeIn K cd2 "reduced" = true) (k_reduced : PySem.W.keepIn K (.ref f_reduced) = true)
    (a_is_fraction : PySem.W.nsIn K mainGlobals "is_fraction" = some (some (.ref f_is_fraction))) (l_is_fraction : K.lookup f_is_fraction = some ⟨oc3, od3, .func (PySem.W.fnOf "is_fraction" "is_fraction" (defArgs s_is_fraction) (defBody s_is_fraction) (defScope s_is_fraction) .none kV3 dc3 pm3 an3 cd3 ct3), sl3⟩) (x_is_fraction : PySem.W.codeIn K cd3 "is_fraction" = true) (k_is_fraction : PySem.W.keepIn K (.ref f_is_fraction) = true)
    (a_fraction : PySem.W.nsIn K mainGlobals "fraction" = some (some (.ref f_fraction))) (l_fraction : K.lookup f_fraction = some ⟨oc4, od4, .func (PySem.W.fnOf "fraction" "fraction" (defArgs s_fraction) (defBody s_fraction) (defScope s_fraction) (.ref t_fraction) kV4 dc4 pm4 an4 cd4 ct4), sl4⟩) (x_fraction : PySem.W.codeIn K cd4 "fraction" = true) (k_fraction : PySem.W.keepIn K (.ref f_fraction) = true)
    (lT_fraction : K.lookup t_fraction = some ⟨.type "tuple", tdd_fraction, .seq #[.int 1 tty0_fraction] tn_fraction, tsl_fraction⟩)
    (a__law_pool : PySem.W.nsIn K mainGlobals "_law_pool" = some (some (.ref f__law_pool))) (l__law_pool : K.lookup f__law_pool = some ⟨oc5, od5, .func (PySem.W.fnOf "_law_pool" "_law_pool" (defArgs s__law_pool) (defBody s__law_pool) (defScope s__law_pool) .none kV5 dc5 pm5 an5 cd5 ct5), sl5⟩) (x__law_pool : PySem.W.codeIn K cd5 "_law_pool" = true) (k__law_pool : PySem.W.keepIn K (.ref f__law_pool) = true)
    (a__law_draw : PySem.W.nsIn K mainGlobals "_law_draw" = some (some (.ref f__law_draw))) (l__law_draw : K.lookup f__law_draw = some ⟨oc6, od6, .func (PySem.W.fnOf "_law_draw" "_law_draw" (defArgs s__law_draw) (defBody s__law_draw) (defScope s__law_draw) .none kV6 dc6 pm6 an6 cd6 ct6), sl6⟩) (x__law_draw : PySem.W.codeIn K cd6 "_law_draw" = true) (k__law_draw : PySem.W.keepIn K (.ref f__law_draw) = true)
    (a__law_gcd : PySem.W.nsIn K mainGlobals "_law_gcd" = some (some (.ref f__law_gcd))) (l__law_gcd : K.lookup f__law_gcd = some ⟨oc7, od7, .func (PySem.W.fnOf "_law_gcd" "_law_gcd" (defArgs s__law_gcd) (defBody s__law_gcd) (defScope s__law_gcd) .none kV7 dc7 pm7 an7 cd7 ct7), sl7⟩) (x__law_gcd : PySem.W.codeIn K cd7 "_law_gcd" = true) (k__law_gcd : PySem.W.keepIn K (.ref f__law_gcd) = true)
    (a__law_outcome : PySem.W.nsIn K mainGlobals "_law_outcome" = some (some (.ref f__law_outcome))) (l__law_outcome : K.lookup f__law_outcome = some ⟨oc8, od8, .func (PySem.W.fnOf "_law_outcome" "_law_outcome" (defArgs s__law_outcome) (defBody s__law_outcome) (defScope s__law_outcome) .none kV8 dc8 pm8 an8 cd8 ct8), sl8⟩) (x__law_outcome : PySem.W.codeIn K cd8 "_law_outcome" = true) (k__law_outcome : PySem.W.keepIn K (.ref f__law_outcome) = true)
    (a_law : PySem.W.nsIn K mainGlobals "law" = some (some (.ref f_law))) (l_law : K.lookup f_law = some ⟨oc9, od9, .func (PySem.W.fnOf "law" "law" (defArgs s_law) (defBody s_law) (defScope s_law) .none kV9 dc9 pm9 an9 cd9 ct9), sl9⟩) (x_law : PySem.W.codeIn K cd9 "law" = true) (k_law : PySem.W.keepIn K (.ref f_law) = true)
    (z_isinstance : PySem.W.nsIn K mainGlobals "isinstance" = some none)
    (z_bool : PySem.W.nsIn K mainGlobals "bool" = some none)
    (z_int : PySem.W.nsIn K mainGlobals "int" = some none)
    (z_abs : PySem.W.nsIn K mainGlobals "abs" = some none)
    (z_len : PySem.W.nsIn K mainGlobals "len" = some none)
    (z_tuple : PySem.W.nsIn K mainGlobals "tuple" = some none)
    (z_sum : PySem.W.nsIn K mainGlobals "sum" = some none)
    (z_repr : PySem.W.nsIn K mainGlobals "repr" = some none)
    (z_min : PySem.W.nsIn K mainGlobals "min" = some none)
    (z_max : PySem.W.nsIn K mainGlobals "max" = some none)
    (z_range : PySem.W.nsIn K mainGlobals "range" = some none)
    (aC_InvalidNumber : PySem.W.nsIn K mainGlobals "InvalidNumber" = some (some (.ref C_InvalidNumber)))
    (aC_WorkError : PySem.W.nsIn K mainGlobals "WorkError" = some (some (.ref C_WorkError)))
    (xL_InvalidNumber : K.lookup C_InvalidNumber = some (excClassObj nm_InvalidNumber qn_InvalidNumber C_InvalidNumber N_InvalidNumber bs_InvalidNumber [.ref C_WorkError, .type "ValueError", .type "Exception", .type "BaseException", .type "object"] true sn_InvalidNumber sub_InvalidNumber ab_InvalidNumber col_InvalidNumber dd_InvalidNumber m0_InvalidNumber m1_InvalidNumber m2_InvalidNumber m3_InvalidNumber m5_InvalidNumber "ValueError.__new__"))
    (su_InvalidNumber : PySem.W.ks_superIn K C_InvalidNumber C_InvalidNumber "__init__" = some (some (.builtin "ValueError.__init__")))
    (mr_InvalidNumber : PySem.W.mroIn K C_InvalidNumber (.ref C_InvalidNumber) = some true)
    (sB_InvalidNumber : PySem.W.subIn K (.ref C_InvalidNumber) (.type "ValueError") = some true)
    (sa_InvalidNumber : PySem.W.findIn K (.ref C_InvalidNumber) "__setattr__" = some (some (.builtin "object.__setattr__")))
    (ga_InvalidNumber : PySem.W.findIn K (.ref C_InvalidNumber) "__getattribute__" = some (some (.builtin "BaseException.__getattribute__")))
    (gg_InvalidNumber : PySem.W.findIn K (.ref C_InvalidNumber) "__getattr__" = some none)
    (no_InvalidNumber : PySem.W.findIn K (.ref C_InvalidNumber) "value" = some none)
    (iI_InvalidNumber : PySem.W.findIn K (.ref C_InvalidNumber) "__init__" = some (some (.ref i_InvalidNumber)))
    (ti_InvalidNumber : PySem.W.typeIn K (.ref i_InvalidNumber) = some (.type "function"))
    (kC_InvalidNumber : PySem.W.keepIn K (.ref C_InvalidNumber) = true)
    (eB_InvalidNumber : PySem.W.subIn K (.ref C_InvalidNumber) (.type "BaseException") = some true)
    (tt_InvalidNumber : PySem.W.typeIn K (.ref C_InvalidNumber) = some (.type "type"))
    (hd_InvalidNumber : PySem.W.hasDictIn K C_InvalidNumber = true)
    (lf_InvalidNumber : K.lookup i_InvalidNumber = some ⟨oc_InvalidNumber, od_InvalidNumber, .func (PySem.W.ksFn "__init__" "InvalidNumber.__init__" (erA "value" p1_InvalidNumber p2_InvalidNumber) (erB "value" ms_InvalidNumber jj_InvalidNumber q0_InvalidNumber q1_InvalidNumber q2_InvalidNumber q3_InvalidNumber q4_InvalidNumber q5_InvalidNumber q6_InvalidNumber q7_InvalidNumber q8_InvalidNumber q9_InvalidNumber) (erS "value") .none .none dc_InvalidNumber pm_InvalidNumber an_InvalidNumber (.ref d_eInvalidNumber) ct_InvalidNumber q_InvalidNumber), osl_InvalidNumber⟩)
    (cf_InvalidNumber : PySem.W.codeIn K (.ref d_eInvalidNumber) "InvalidNumber.__init__" = true)
    (ln_InvalidNumber : (q2_InvalidNumber.endLine == q4_InvalidNumber.line) = true)
    (ld_InvalidNumber : K.lookup d_eInvalidNumber = some ⟨ccl_InvalidNumber, cdd_InvalidNumber, .fields vs_InvalidNumber, ccs_InvalidNumber⟩)
    (vf_InvalidNumber : vs_InvalidNumber[2]? = some (.str file_InvalidNumber tf_InvalidNumber))
    (fi_InvalidNumber : ((l.prog.main.file : Str) == file_InvalidNumber) = true)
    (lc_InvalidNumber : K.lookup q_InvalidNumber = some ⟨cl_InvalidNumber, cld_InvalidNumber, .cell (some (.ref C_InvalidNumber)), csl_InvalidNumber⟩)
    (cc_InvalidNumber : PySem.W.findIn K (.ref C_InvalidNumber) "__class__" = some (some (.builtin "object.__class__")))
    (mo_InvalidNumber : PySem.W.mroIn K C_InvalidNumber (.type "object") = some true)
    (ki_WorkError_InvalidNumber : PySem.W.subIn K (.ref C_InvalidNumber) (.ref C_WorkError) = some true)
    (ex_InvalidNumber_InvalidNumber : PySem.W.subIn K (.ref C_InvalidNumber) (.ref C_InvalidNumber) = some true)
    (hd_WorkError : PySem.W.hasDictIn K C_WorkError = true) (tt_WorkError : PySem.W.typeIn K (.ref C_WorkError) = some (.type "type"))
    (any : PySem.W.nsIn K cStatics "thirdparty.any" = some none) (zsup : PySem.W.nsIn K mainGlobals "super" = some none) (top : (l.prog.main.scope.names.lookup ("super" : Str)).isSome = false) (spg : PySem.W.specialIn K (.builtin "object.__class__") "__get__" = some (some (.builtin "getset_descriptor.__get__"))) (tkc : PySem.W.takesIn K (.builtin "object.__class__") = some true)
    (zx_InvalidWork : PySem.W.nsIn K mainGlobals "InvalidWork" = some none)
    (zx_InvalidRope : PySem.W.nsIn K mainGlobals "InvalidRope" = some none)
    (zx_InvalidMotion : PySem.W.nsIn K mainGlobals "InvalidMotion" = some none)
    (zx_InvalidHeights : PySem.W.nsIn K mainGlobals "InvalidHeights" = some none)
    (zx_InvalidLimits : PySem.W.nsIn K mainGlobals "InvalidLimits" = some none)
    (zx_InvalidTensions : PySem.W.nsIn K mainGlobals "InvalidTensions" = some none)
    (zx_InvalidName : PySem.W.nsIn K mainGlobals "InvalidName" = some none)
    (zx_InvalidCommand : PySem.W.nsIn K mainGlobals "InvalidCommand" = some none)
    (zx_ParseError : PySem.W.nsIn K mainGlobals "ParseError" = some none)
    (zx_NameClash : PySem.W.nsIn K mainGlobals "NameClash" = some none)
    (zx_Weightless : PySem.W.nsIn K mainGlobals "Weightless" = some none)
    (zx_LimitExceeded : PySem.W.nsIn K mainGlobals "LimitExceeded" = some none)
    (zx_UnknownName : PySem.W.nsIn K mainGlobals "UnknownName" = some none)
    (zx_NothingToUndo : PySem.W.nsIn K mainGlobals "NothingToUndo" = some none)
    (zx_other : PySem.W.nsIn K mainGlobals "-" = some none) :
    ∃ fd : FuncData, (∀ (s : Shared) (v : Value), BindsTo s fd ⟨[v], []⟩ [("_law_script", v)]) ∧ ∀ base : Heap, K.In base → base.Ns mainGlobals mg → FnG l.prog w K mg base 5 fa fd ["_law_script"] (spLaw K) := by
  have e := hfa.symm.trans (PySem.W.mg_of X G a_law)
  cases e
  have F_is_integer := funv_mk (st := s_is_integer) l_is_integer x_is_integer k_is_integer
  have b_is_integer := (fun_mk (st := s_is_integer) l_is_integer x_is_integer k_is_integer).binds (ps := ["value"]) fun _ _ _ _ _ _ us hl => match us, hl with | [_], _ => rfl
  have F_common_divisor := funv_mk (st := s_common_divisor) l_common_divisor x_common_divisor k_common_divisor
  have b_common_divisor := (fun_mk (st := s_common_divisor) l_common_divisor x_common_divisor k_common_divisor).binds (ps := ["one", "other"]) fun _ _ _ _ _ _ us hl => match us, hl with | [_, _], _ => rfl
  have F_reduced := funv_mk (st := s_reduced) l_reduced x_reduced k_reduced
  have b_reduced := (fun_mk (st := s_reduced) l_reduced x_reduced k_reduced).binds (ps := ["numerator", "denominator"]) fun _ _ _ _ _ _ us hl => match us, hl with | [_, _], _ => rfl
  have F_is_fraction := funv_mk (st := s_is_fraction) l_is_fraction x_is_fraction k_is_fraction
  have b_is_fraction := (fun_mk (st := s_is_fraction) l_is_fraction x_is_fraction k_is_fraction).binds (ps := ["value"]) fun _ _ _ _ _ _ us hl => match us, hl with | [_], _ => rfl
  have F_fraction := funv_mk (st := s_fraction) l_fraction x_fraction k_fraction
  have D_fraction : FunD K "fraction" "fraction" (defArgs s_fraction) (defBody s_fraction) (defScope s_fraction) [V.int 1] [] f_fraction (PySem.W.fnOf "fraction" "fraction" (defArgs s_fraction) (defBody s_fraction) (defScope s_fraction) (.ref t_fraction) kV4 dc4 pm4 an4 cd4 ct4) := ⟨⟨_, _, _, _, _, _, _, _, _, _, rfl, l_fraction, x_fraction, .inr ⟨by simp, t_fraction, _, [.int 1 tty0_fraction], tn_fraction, rfl, lT_fraction, rfl, (.cons ⟨_, rfl⟩ .nil)⟩, .inl rfl⟩, k_fraction⟩
  have bF_fraction := D_fraction.binds1 (ps := ["numerator", "denominator"]) 2 1 (by simp) rfl (fun _ _ _ _ _ _ _ us its h1 h2 => match us, h1, its, h2 with | [_, _], _, [_], _ => ⟨_, rfl, rfl⟩)
  have b1_fraction := D_fraction.binds1 (ps := ["numerator", "denominator"]) 1 0 (by simp) rfl (fun _ _ _ _ _ _ _ us its h1 h2 => match us, h1, its, h2 with | [_], _, [_], _ => ⟨_, rfl, rfl⟩)
  have b_fraction := binds_none bF_fraction
  have F__law_pool := funv_mk (st := s__law_pool) l__law_pool x__law_pool k__law_pool
  have b__law_pool := (fun_mk (st := s__law_pool) l__law_pool x__law_pool k__law_pool).binds (ps := ["_law_script", "_law_k"]) fun _ _ _ _ _ _ us hl => match us, hl with | [_, _], _ => rfl
  have F__law_draw := funv_mk (st := s__law_draw) l__law_draw x__law_draw k__law_draw
  have b__law_draw := (fun_mk (st := s__law_draw) l__law_draw x__law_draw k__law_draw).binds (ps := ["_law_pool_here", "_law_many"]) fun _ _ _ _ _ _ us hl => match us, hl with | [_, _], _ => rfl
  have F__law_gcd := funv_mk (st := s__law_gcd) l__law_gcd x__law_gcd k__law_gcd
  have b__law_gcd := (fun_mk (st := s__law_gcd) l__law_gcd x__law_gcd k__law_gcd).binds (ps := ["_law_a", "_law_b"]) fun _ _ _ _ _ _ us hl => match us, hl with | [_, _], _ => rfl
  have F__law_outcome := funv_mk (st := s__law_outcome) l__law_outcome x__law_outcome k__law_outcome
  have b__law_outcome := (fun_mk (st := s__law_outcome) l__law_outcome x__law_outcome k__law_outcome).binds (ps := ["_law_numerator", "_law_denominator"]) fun _ _ _ _ _ _ us hl => match us, hl with | [_, _], _ => rfl
  have F_law := funv_mk (st := s_law) l_law x_law k_law
  have b_law := (fun_mk (st := s_law) l_law x_law k_law).binds (ps := ["_law_script"]) fun _ _ _ _ _ _ us hl => match us, hl with | [_], _ => rfl
  have only : ∀ (k : Nat) (C : Addr), mg (exN k) = some (.ref C) → (k = 0 ∧ C = C_InvalidNumber) := by
    intro k C h
    have no : ∀ {y : Str}, PySem.W.nsIn K mainGlobals y = some none → mg y = some (.ref C) → False := fun z h => by rw [PySem.W.mg_none_of X G z] at h; cases h
    match k, h with
    | 0, h => exact ⟨rfl, by have e := (PySem.W.mg_of X G aC_InvalidNumber).symm.trans h; cases e; rfl⟩
    | 1, h => exact (no zx_InvalidWork h).elim
    | 2, h => exact (no zx_InvalidRope h).elim
    | 3, h => exact (no zx_InvalidMotion h).elim
    | 4, h => exact (no zx_InvalidHeights h).elim
    | 5, h => exact (no zx_InvalidLimits h).elim
    | 6, h => exact (no zx_InvalidTensions h).elim
    | 7, h => exact (no zx_InvalidName h).elim
    | 8, h => exact (no zx_InvalidCommand h).elim
    | 9, h => exact (no zx_ParseError h).elim
    | 10, h => exact (no zx_NameClash h).elim
    | 11, h => exact (no zx_Weightless h).elim
    | 12, h => exact (no zx_LimitExceeded h).elim
    | 13, h => exact (no zx_UnknownName h).elim
    | 14, h => exact (no zx_NothingToUndo h).elim
    | _ + 15, h => exact (no zx_other h).elim
  have T : Txt l.prog K mg _ _ _ _ _ _ _ _ _ _ _ _ _ _ _ _ _ _ _ _ _ _ _ _ _ := {
    E_InvalidNumber := { gC := PySem.W.mg_of X G aC_InvalidNumber, noSup := PySem.W.mg_none_of X G zsup, cls := ⟨_, _, _, _, _, _, _, _, _, _, _, _, _, _, _, xL_InvalidNumber, rfl⟩, sup := su_InvalidNumber, any := any, mroC := mr_InvalidNumber, subB := sB_InvalidNumber, sa := sa_InvalidNumber, ga := ga_InvalidNumber, gg := gg_InvalidNumber, noN := no_InvalidNumber, iC := iI_InvalidNumber, tC := ti_InvalidNumber, kC := kC_InvalidNumber, exC := eB_InvalidNumber, tyC := tt_InvalidNumber, hdC := hd_InvalidNumber, fn := ⟨_, _, _, _, _, _, _, _, _, _, _, _, _, _, _, _, _, _, _, _, _, _, lf_InvalidNumber, cf_InvalidNumber, ln_InvalidNumber⟩, code := ⟨_, _, _, _, _, _, ld_InvalidNumber, vf_InvalidNumber, fi_InvalidNumber⟩, cell := ⟨_, _, _, lc_InvalidNumber⟩, top := top }
    gc_WorkError := PySem.W.mg_of X G aC_WorkError
    gc_InvalidNumber := PySem.W.mg_of X G aC_InvalidNumber
    tb_InvalidNumber := fun k C h => by
      rcases only k C h with ⟨rfl, rfl⟩
      · exact PySem.W.exm_ref eB_InvalidNumber hd_InvalidNumber tt_InvalidNumber ex_InvalidNumber_InvalidNumber
    xf_value := fun k C h hf => by
      rcases only k C h with ⟨rfl, rfl⟩
      · exact ⟨⟨ga_InvalidNumber, gg_InvalidNumber, eB_InvalidNumber, hd_InvalidNumber⟩, no_InvalidNumber⟩
    xi_WorkError := fun k C h => by
      rcases only k C h with ⟨rfl, rfl⟩
      · exact ⟨kxe_mk ga_InvalidNumber gg_InvalidNumber eB_InvalidNumber hd_InvalidNumber cc_InvalidNumber spg tkc mo_InvalidNumber, kit_ref hd_WorkError tt_WorkError ki_WorkError_InvalidNumber⟩
    b1_fraction := b1_fraction
    b_isinstance := PySem.W.mg_none_of X G z_isinstance
    b_bool := PySem.W.mg_none_of X G z_bool
    b_int := PySem.W.mg_none_of X G z_int
    b_abs := PySem.W.mg_none_of X G z_abs
    b_len := PySem.W.mg_none_of X G z_len
    b_tuple := PySem.W.mg_none_of X G z_tuple
    b_sum := PySem.W.mg_none_of X G z_sum
    b_repr := PySem.W.mg_none_of X G z_repr
    b_min := PySem.W.mg_none_of X G z_min
    b_max := PySem.W.mg_none_of X G z_max
    b_range := PySem.W.mg_none_of X G z_range
    F_is_integer := F_is_integer
    m_is_integer := PySem.W.mg_of X G a_is_integer
    b_is_integer_ := b_is_integer
    F_common_divisor := F_common_divisor
    m_common_divisor := PySem.W.mg_of X G a_common_divisor
    b_common_divisor_ := b_common_divisor
    F_reduced := F_reduced
    m_reduced := PySem.W.mg_of X G a_reduced
    b_reduced_ := b_reduced
    F_is_fraction := F_is_fraction
    m_is_fraction := PySem.W.mg_of X G a_is_fraction
    b_is_fraction_ := b_is_fraction
    F_fraction := F_fraction
    m_fraction := PySem.W.mg_of X G a_fraction
    b_fraction_ := b_fraction
    F__law_pool := F__law_pool
    m__law_pool := PySem.W.mg_of X G a__law_pool
    b__law_pool_ := b__law_pool
    F__law_draw := F__law_draw
    m__law_draw := PySem.W.mg_of X G a__law_draw
    b__law_draw_ := b__law_draw
    F__law_gcd := F__law_gcd
    m__law_gcd := PySem.W.mg_of X G a__law_gcd
    b__law_gcd_ := b__law_gcd
    F__law_outcome := F__law_outcome
    m__law_outcome := PySem.W.mg_of X G a__law_outcome
    b__law_outcome_ := b__law_outcome
    F_law := F_law
    m_law := PySem.W.mg_of X G a_law
    b_law_ := b_law
  }
  refine ⟨PySem.W.fnOf "law" "law" (defArgs s_law) (defBody s_law) (defScope s_law) .none kV9 dc9 pm9 an9 cd9 ct9, fun s v => .of_eq rfl, fun base _ _ => ?_⟩
  have G_is_integer := w_is_integer (P := l.prog) (w := w) (base := base) T
  have G_common_divisor := w_common_divisor (P := l.prog) (w := w) (base := base) T
  have G_reduced := w_reduced (P := l.prog) (w := w) (base := base) T G_common_divisor
  have G_is_fraction := w_is_fraction (P := l.prog) (w := w) (base := base) T G_common_divisor G_is_integer
  have G_fraction := w_fraction (P := l.prog) (w := w) (base := base) T G_reduced G_is_integer
  have G__law_pool := w__law_pool (P := l.prog) (w := w) (base := base) T
  have G__law_draw := w__law_draw (P := l.prog) (w := w) (base := base) T
  have G__law_gcd := w__law_gcd (P := l.prog) (w := w) (base := base) T
  have G__law_outcome := w__law_outcome (P := l.prog) (w := w) (base := base) T G_fraction
  have G_law := w_law (P := l.prog) (w := w) (base := base) T G__law_outcome G_is_fraction G__law_gcd G_fraction G__law_draw G__law_pool
  exact G_law.imp spLaw_to
theorem walk {l : PySem.W.OpenLaw} {q : Program} {loose : List Str} {XP : (Str → Option Value) → Heap → Prop} {YP : World → Heap → Prop} {d : DefRec} {K : Params → PySem.W.Frag} (hn : l.most = some 63) (hdf : d.params.defaults = [])
    (hY : ∀ (w : World) (h : Heap), YP w h → (K w.params).In h)
    (F : ∀ (w : World) (mg : Str → Option Value) (fa : Addr) (h : Heap), (K w.params).In h → h.Ns mainGlobals mg → mg d.name = some (.ref fa) →
      ∃ fd : FuncData, (∀ (s : Shared) (u : Value), BindsTo s fd ⟨[u], []⟩ [("_law_script", u)]) ∧ ∀ base : Heap, (K w.params).In base → base.Ns mainGlobals mg → FnG l.prog w (K w.params) mg base 5 fa fd ["_law_script"] (spLaw (K w.params))) :
    PySem.W.WalkO q loose XP YP l.row.toRowW d [] (fun f vs => PySem.call f vs) :=
  walk_ofG (n := 63) (k := 5) (x := "_law_script") (sp := fun w => spLaw (K w.params)) hn (by decide) hdf ⟨rfl, by decide, by decide⟩ hY F (fun _ _ a ns hl _ hS => ⟨a, ns, rfl, hS, hl, fun _ => rfl⟩)
end PD
open PySem PySem.W PyProof.Rows in
set_option maxRecDepth 100000 in
set_option maxHeartbeats 0 in
theorem PySem.Challenge.cw_pulleyworks_k01_fractions_made_holds : PySem.Challenge.rw_pulleyworks_k01_fractions_made.Holds := by
  w_on; o_law; k_head; (case hw => w_witness2)
  k_fill
  refine PD.walk (l := PySem.Challenge.rw_pulleyworks_k01_fractions_made) rfl rfl (fun w h Y => PySem.W.kIn_of Y) ?F
  case F =>
    intro w mg fa h KX G hmg
    refine' PD.all_mk KX G hmg ?a_is_integer ?l_is_integer ?x_is_integer ?k_is_integer ?a_common_divisor ?l_common_divisor ?x_common_divisor ?k_common_divisor ?a_reduced ?l_reduced ?x_reduced ?k_reduced ?a_is_fraction ?l_is_fraction ?x_is_fraction ?k_is_fraction ?a_fraction ?l_fraction ?x_fraction ?k_fraction ?lT_fraction ?a__law_pool ?l__law_pool ?x__law_pool ?k__law_pool ?a__law_draw ?l__law_draw ?x__law_draw ?k__law_draw ?a__law_gcd ?l__law_gcd ?x__law_gcd ?k__law_gcd ?a__law_outcome ?l__law_outcome ?x__law_outcome ?k__law_outcome ?a_law ?l_law ?x_law ?k_law ?z_isinstance ?z_bool ?z_int ?z_abs ?z_len ?z_tuple ?z_sum ?z_repr ?z_min ?z_max ?z_range ?aC_InvalidNumber ?aC_WorkError ?xL_InvalidNumber ?su_InvalidNumber ?mr_InvalidNumber ?sB_InvalidNumber ?sa_InvalidNumber ?ga_InvalidNumber ?gg_InvalidNumber ?no_InvalidNumber ?iI_InvalidNumber ?ti_InvalidNumber ?kC_InvalidNumber ?eB_InvalidNumber ?tt_InvalidNumber ?hd_InvalidNumber ?lf_InvalidNumber ?cf_InvalidNumber ?ln_InvalidNumber ?ld_InvalidNumber ?vf_InvalidNumber ?fi_InvalidNumber ?lc_InvalidNumber ?cc_InvalidNumber ?mo_InvalidNumber ?ki_WorkError_InvalidNumber ?ex_InvalidNumber_InvalidNumber ?hd_WorkError ?tt_WorkError ?any ?zsup ?top ?spg ?tkc ?zx_InvalidWork ?zx_InvalidRope ?zx_InvalidMotion ?zx_InvalidHeights ?zx_InvalidLimits ?zx_InvalidTensions ?zx_InvalidName ?zx_InvalidCommand ?zx_ParseError ?zx_NameClash ?zx_Weightless ?zx_LimitExceeded ?zx_UnknownName ?zx_NothingToUndo ?zx_other
    (case a_is_integer => k_is)
    (case l_is_integer => k_is)
    (case x_is_integer => k_is)
    (case k_is_integer => k_is)
    (case a_common_divisor => k_is)
    (case l_common_divisor => k_is)
    (case x_common_divisor => k_is)
    (case k_common_divisor => k_is)
    (case a_reduced => k_is)
    (case l_reduced => k_is)
    (case x_reduced => k_is)
    (case k_reduced => k_is)
    (case a_is_fraction => k_is)
    (case l_is_fraction => k_is)
    (case x_is_fraction => k_is)
    (case k_is_fraction => k_is)
    (case a_fraction => k_is)
    (case l_fraction => k_is)
    (case x_fraction => k_is)
    (case k_fraction => k_is)
    (case lT_fraction => k_is)
    (case a__law_pool => k_is)
    (case l__law_pool => k_is)
    (case x__law_pool => k_is)
    (case k__law_pool => k_is)
    (case a__law_draw => k_is)
    (case l__law_draw => k_is)
    (case x__law_draw => k_is)
    (case k__law_draw => k_is)
    (case a__law_gcd => k_is)
    (case l__law_gcd => k_is)
    (case x__law_gcd => k_is)
    (case k__law_gcd => k_is)
    (case a__law_outcome => k_is)
    (case l__law_outcome => k_is)
    (case x__law_outcome => k_is)
    (case k__law_outcome => k_is)
    (case a_law => k_is)
    (case l_law => k_is)
    (case x_law => k_is)
    (case k_law => k_is)
    (case z_isinstance => k_is)
    (case z_bool => k_is)
    (case z_int => k_is)
    (case z_abs => k_is)
    (case z_len => k_is)
    (case z_tuple => k_is)
    (case z_sum => k_is)
    (case z_repr => k_is)
    (case z_min => k_is)
    (case z_max => k_is)
    (case z_range => k_is)
    (case aC_InvalidNumber => k_is)
    (case aC_WorkError => k_is)
    (case xL_InvalidNumber => k_is)
    (case su_InvalidNumber => first | k_is | ks_is | rfl)
    (case mr_InvalidNumber => k_is)
    (case sB_InvalidNumber => k_is)
    (case sa_InvalidNumber => k_is)
    (case ga_InvalidNumber => k_is)
    (case gg_InvalidNumber => k_is)
    (case no_InvalidNumber => k_is)
    (case iI_InvalidNumber => k_is)
    (case ti_InvalidNumber => k_is)
    (case kC_InvalidNumber => k_is)
    (case eB_InvalidNumber => k_is)
    (case tt_InvalidNumber => k_is)
    (case hd_InvalidNumber => k_is)
    (case lf_InvalidNumber => k_is)
    (case cf_InvalidNumber => k_is)
    (case ln_InvalidNumber => rfl)
    (case ld_InvalidNumber => k_is)
    (case vf_InvalidNumber => rfl)
    (case fi_InvalidNumber => first | rfl | decide +kernel)
    (case lc_InvalidNumber => k_is)
    (case cc_InvalidNumber => k_is)
    (case mo_InvalidNumber => k_is)
    (case ki_WorkError_InvalidNumber => k_is)
    (case ex_InvalidNumber_InvalidNumber => k_is)
    (case hd_WorkError => k_is)
    (case tt_WorkError => k_is)
    (case any => k_is)
    (case zsup => k_is)
    (case top => first | rfl | decide +kernel)
    (case spg => k_is)
    (case tkc => k_is)
    (case zx_InvalidWork => k_is)
    (case zx_InvalidRope => k_is)
    (case zx_InvalidMotion => k_is)
    (case zx_InvalidHeights => k_is)
    (case zx_InvalidLimits => k_is)
    (case zx_InvalidTensions => k_is)
    (case zx_InvalidName => k_is)
    (case zx_InvalidCommand => k_is)
    (case zx_ParseError => k_is)
    (case zx_NameClash => k_is)
    (case zx_Weightless => k_is)
    (case zx_LimitExceeded => k_is)
    (case zx_UnknownName => k_is)
    (case zx_NothingToUndo => k_is)
    (case zx_other => k_is)
