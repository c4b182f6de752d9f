import PyProof.Rows.All
import Wide.All
import OpenK.AllK
import Wide.FinOn
import PyProof.EqAt
import PyProof.EqKinds
import PyProof.TupleCall
import HandS.ForMost
import HandS.Exc
import HandS.ExcOwn
import HandS.TryOnly
import HandS.WordsExc
import HandS.IsInst
import HandS.Wide
import HandS.Iter
import KE.DataEq
import KE.KExcSuper
import HandS.ExcInit
import HandS.ExcField
import HandS.ExcIs
import PyProof.ExcBaseAll.ValueError
import PyProof.ExcBaseAll.OverflowError
import PyProof.ExcBaseAll.LookupError
import PyProof.FactsTree
import KE.KExcInit
import KE.KExcIs
import PyProof.ReprRoads
import HandS.Dict
import HandS.TupLe
import HandS.Defaults
import HandS.Comp
import HandS.TupAny
import HandS.TupMul
import HandS.More
import HandS.WordsDict
import HandS.Text
import HandS.Zip
import HandS.Style
import PyProof.CollectStr
import HandS.Property
import HandS.MakeKwOnly
import HandS.MakeKw
import HandS.DictComp
import HandS.DictEq
import HandS.DeepEq
import HandS.TryMany
import PyProof.NeKinds
import KE.GoesMore
import PyProof.DictCopy
import PyProof.DictUpdate
import OpenK.KMeth
import OpenK.KOps
import HandS.FStr
import HandS.GenCall
import HandS.GenList
import HandS.ListEq
import HandS.OwnEq
import PyProof.StrOps2
import KE.KOpsOwn
import KE.KDictZip
import KE.KDictList
import KE.GoesEnum
import HandS.Deep
import HandS.Star
import KE.SortData
import HandS.RevRange
import PyProof.CollectIter
import HandS.WideBits
import HandS.Finally
import HandS.Conv
import KE.DataMinMax
import HandS.ExcValue
import PyProof.ExcBaseAll.RuntimeError
import PySem.Challenge.RW_pulleyworks_k04_classes_of_errors
set_option Elab.async false
set_option linter.all false
set_option maxRecDepth 100000
set_option maxHeartbeats 8000000
set_option autoImplicit false
namespace PD
open PySem PySem.Spec PyProof.Rows L2
inductive Tg where
  | tup | lst | scr | dic (ks : List Key) | ins (c : Str) (fs : List Str) | exc (k : Nat)
inductive D where
  | non | bl (b : Bool) | int (i : Int) | str (x : Str) | glo (x : Str) | nd (t : Tg) (xs : List D)
structure DErr where
  k : Nat
  d : D
structure XU where
  a : Addr
  cls : Value
  d : Option Addr
inductive S where
  | un | fz (d : D) | ow (a : Addr) (l : Bool) (d : D) | xc (u : XU) (e : DErr) | ob (a : Addr) (d : D) (fb : Str → Addr) | on (a : Addr) (j : Nat) (d : D) (p : Addr)
def exN : Nat → Str
  | 0 => "InvalidNumber" | 1 => "InvalidWork" | 2 => "InvalidRope" | 3 => "InvalidMotion" | 4 => "InvalidHeights" | 5 => "InvalidLimits" | 6 => "InvalidTensions"
  | 7 => "InvalidName" | 8 => "InvalidCommand" | 9 => "ParseError" | 10 => "NameClash" | 11 => "Weightless" | 12 => "LimitExceeded" | 13 => "UnknownName"
  | 14 => "NothingToUndo" | _ => "-"
def exF : Nat → Str
  | 0 => "value" | 1 => "part" | 2 => "name" | 3 => "value" | 4 => "value" | 5 => "value" | 6 => "value"
  | 7 => "value" | 8 => "word" | 9 => "text" | 10 => "name" | 11 => "hook" | 12 => "count" | 13 => "name"
  | _ => ""
abbrev LS := List S
abbrev DX := DErr → LS → Prop
abbrev DE := DX → LS → (D → LS → Prop) → Prop
abbrev DO := DX → LS → (S → LS → Prop) → Prop
abbrev DT := DX → LS → (Bool → LS → Prop) → Prop
inductive AI where
  | d (d : D) | io (i : Nat)
abbrev DA := DX → LS → (List D → LS → Prop) → Prop
structure DEnds where
  nx : LS → Prop
  rt : S → LS → Prop
  bk : LS → Prop
  ct : LS → Prop
  ex : DX
abbrev DS := DEnds → LS → Prop
def erO (e C : Addr) (d : Option Addr) : HO := .ext fun h => ∃ (oe : Obj) (vs : Array Value), h.get? e = some oe ∧ Zc (.ref C) d oe ∧ oe.data = .fields vs
section
variable (K : PySem.W.Frag) (mg : Str → Option Value)
def Node (H : Hp) : Tg → Addr → List V → Prop
  | .tup, a, vs => SqT K H a vs
  | .lst, a, vs => H a = some (.lst vs)
  | .scr, a, vs => SqL K H a vs
  | .dic ks, a, vs => ks.length = vs.length ∧ ∃ o, H a = some (.frz o (.dK (ks.zip vs)))
  | .ins c fs, a, vs => fs.length = vs.length ∧ ∃ C dx, mg c = some (.ref C) ∧ H a = some (.ins C dx (fs.zip vs))
  | .exc k, a, vs => ∃ C d, mg (exN k) = some (.ref C) ∧ H a = some (erO a C d) ∧ ((k = 14 ∧ d = none ∧ vs = []) ∨ (k < 14 ∧ ∃ dd v, d = some dd ∧ vs = [v] ∧ H dd = some (.xd [(exF k, v)])))
mutual
def Rep (H : Hp) : D → V → Prop
  | .non, v => v = .non
  | .bl b, v => v = .bl b
  | .int i, v => v = .int i
  | .str x, v => v = .str x
  | .glo x, v => ∃ a, mg x = some (.ref a) ∧ v = .ref a
  | .nd t ds, v => ∃ a vs, v = .ref a ∧ Node K mg H t a vs ∧ RepL H ds vs
def RepL (H : Hp) : List D → List V → Prop
  | [], vs => vs = []
  | d :: ds, vs => ∃ v r, vs = v :: r ∧ Rep H d v ∧ RepL H ds r
end
def RepE (H : Hp) (e : DErr) (cls : Value) (d : Option Addr) : Prop :=
  (∃ C, mg (exN e.k) = some (.ref C) ∧ cls = .ref C) ∧ ((e.k = 14 ∧ d = none) ∨ ∃ dd v, d = some dd ∧ H dd = some (.xd [(exF e.k, v)]) ∧ Rep K mg H e.d v)
def NodeM (H : Hp) : Tg → Addr → List V → Prop
  | .tup, _, _ => False
  | .scr, _, _ => False
  | .lst, a, vs => H a = some (.lst vs)
  | .dic ks, a, vs => ks.length = vs.length ∧ H a = some (.dK (ks.zip vs))
  | .ins c fs, a, vs => fs.length = vs.length ∧ ∃ C dx, mg c = some (.ref C) ∧ H a = some (.ins C dx (fs.zip vs))
  | .exc _, _, _ => False
end
section
variable {K : PySem.W.Frag} {mg : Str → Option Value} {H H' H0 H0' : Hp}
theorem Rd.mono {a : Addr} {u : HO} (e : Same H H') (h : Rd H a u) : Rd H' a u := by
  rcases h with h | ⟨o, h⟩
  · exact .inl (e _ _ h)
  · exact .inr ⟨o, e _ _ h⟩
theorem SqT.mono {a : Addr} {xs : List V} (e : Same H H') (h : SqT K H a xs) : SqT K H' a xs := by
  rcases h with h | h
  · exact .inl (Rd.mono e h)
  · exact .inr h
theorem Node.mono {t : Tg} {a : Addr} {vs : List V} (e : Same H H') (h : Node K mg H t a vs) : Node K mg H' t a vs := by
  cases t with
  | tup => exact SqT.mono e h
  | lst => exact e _ _ h
  | scr => exact e.seq h
  | dic ks =>
    obtain ⟨h1, o, h2⟩ := h
    exact ⟨h1, o, e _ _ h2⟩
  | ins c fs =>
    obtain ⟨h1, C, dx, h2, h3⟩ := h
    exact ⟨h1, C, dx, h2, e _ _ h3⟩
  | exc k =>
    obtain ⟨C, d, h1, h2, h3⟩ := h
    exact ⟨C, d, h1, e _ _ h2, h3.imp id fun ⟨a1, dd, v, a2, a3, a4⟩ => ⟨a1, dd, v, a2, a3, e _ _ a4⟩⟩
mutual
theorem Rep.mono (e : Same H H') : ∀ (d : D) (v : V), Rep K mg H d v → Rep K mg H' d v
  | .non, _, h => h
  | .bl _, _, h => h
  | .int _, _, h => h
  | .str _, _, h => h
  | .glo _, _, h => h
  | .nd t ds, v, h => by
    unfold Rep at h ⊢
    obtain ⟨a, vs, h1, h2, h3⟩ := h
    exact ⟨a, vs, h1, Node.mono e h2, RepL.mono e ds vs h3⟩
theorem RepL.mono (e : Same H H') : ∀ (ds : List D) (vs : List V), RepL K mg H ds vs → RepL K mg H' ds vs
  | [], _, h => h
  | d :: ds, vs, h => by
    unfold RepL at h ⊢
    obtain ⟨v, r, h1, h2, h3⟩ := h
    exact ⟨v, r, h1, Rep.mono e d v h2, RepL.mono e ds r h3⟩
end
theorem RepE.mono {er : DErr} {cls : Value} {d : Option Addr} (e : Same H H') (h : RepE K mg H er cls d) : RepE K mg H' er cls d := by
  obtain ⟨h1, h2⟩ := h
  refine ⟨h1, h2.imp id fun ⟨dd, v, a1, a2, a3⟩ => ⟨dd, v, a1, e _ _ a2, Rep.mono e _ v a3⟩⟩
theorem Rep.int {i : Int} {v : V} (h : Rep K mg H (.int i) v) : v = .int i := by unfold Rep at h; exact h
theorem Rep.str {i : Str} {v : V} (h : Rep K mg H (.str i) v) : v = .str i := by unfold Rep at h; exact h
theorem Rep.bl {i : Bool} {v : V} (h : Rep K mg H (.bl i) v) : v = .bl i := by unfold Rep at h; exact h
theorem Rep.non {v : V} (h : Rep K mg H .non v) : v = .non := by unfold Rep at h; exact h
theorem Rep.nd {t : Tg} {ds : List D} {v : V} (h : Rep K mg H (.nd t ds) v) : ∃ a vs, v = .ref a ∧ Node K mg H t a vs ∧ RepL K mg H ds vs := by unfold Rep at h; exact h
theorem rep_int {i : Int} : Rep K mg H (.int i) (.int i) := by unfold Rep; rfl
theorem rep_str {i : Str} : Rep K mg H (.str i) (.str i) := by unfold Rep; rfl
theorem rep_bl {i : Bool} : Rep K mg H (.bl i) (.bl i) := by unfold Rep; rfl
theorem rep_non : Rep K mg H .non .non := by unfold Rep; rfl
theorem rep_nd {t : Tg} {ds : List D} {a : Addr} {vs : List V} (h : Node K mg H t a vs) (r : RepL K mg H ds vs) : Rep K mg H (.nd t ds) (.ref a) := by
  unfold Rep
  exact ⟨a, vs, rfl, h, r⟩
theorem repL_nil : RepL K mg H [] [] := by unfold RepL; rfl
theorem repL_cons {d : D} {ds : List D} {v : V} {vs : List V} (h : Rep K mg H d v) (r : RepL K mg H ds vs) : RepL K mg H (d :: ds) (v :: vs) := by
  unfold RepL
  exact ⟨v, vs, rfl, h, r⟩
theorem RepL.nil {vs : List V} (h : RepL K mg H [] vs) : vs = [] := by unfold RepL at h; exact h
theorem RepL.cons {d : D} {ds : List D} {vs : List V} (h : RepL K mg H (d :: ds) vs) : ∃ v r, vs = v :: r ∧ Rep K mg H d v ∧ RepL K mg H ds r := by unfold RepL at h; exact h
theorem RepL.length : ∀ {ds : List D} {vs : List V}, RepL K mg H ds vs → vs.length = ds.length
  | [], _, h => by rw [h.nil]; rfl
  | d :: ds, _, h => by
    obtain ⟨v, r, rfl, _, h3⟩ := h.cons
    simp [RepL.length h3]
theorem RepL.get : ∀ {ds : List D} {vs : List V} {i : Nat} {d : D}, RepL K mg H ds vs → ds[i]? = some d → ∃ v, vs[i]? = some v ∧ Rep K mg H d v
  | [], _, _, _, h, e => by simp at e
  | d :: ds, _, 0, d', h, e => by
    obtain ⟨v, r, rfl, h2, h3⟩ := h.cons
    simp at e; subst e
    exact ⟨v, by simp, h2⟩
  | d :: ds, _, i + 1, d', h, e => by
    obtain ⟨v, r, rfl, h2, h3⟩ := h.cons
    simp at e
    obtain ⟨w, h4, h5⟩ := RepL.get h3 e
    exact ⟨w, by simpa using h4, h5⟩
theorem RepL.getV : ∀ {ds : List D} {vs : List V} {i : Nat} {v : V}, RepL K mg H ds vs → vs[i]? = some v → ∃ d, ds[i]? = some d ∧ Rep K mg H d v
  | [], _, _, _, h, e => by rw [h.nil] at e; simp at e
  | d :: ds, _, 0, d', h, e => by
    obtain ⟨v, r, rfl, h2, h3⟩ := h.cons
    simp at e; subst e
    exact ⟨d, by simp, h2⟩
  | d :: ds, _, i + 1, d', h, e => by
    obtain ⟨v, r, rfl, h2, h3⟩ := h.cons
    simp at e
    obtain ⟨w, h4, h5⟩ := RepL.getV h3 e
    exact ⟨w, by simpa using h4, h5⟩
theorem RepL.append : ∀ {ds es : List D} {vs ws : List V}, RepL K mg H ds vs → RepL K mg H es ws → RepL K mg H (ds ++ es) (vs ++ ws)
  | [], _, _, _, h, k => by rw [h.nil]; exact k
  | d :: ds, _, _, _, h, k => by
    obtain ⟨v, r, rfl, h2, h3⟩ := h.cons
    exact repL_cons h2 (RepL.append h3 k)
theorem RepL.take : ∀ {ds : List D} {vs : List V} (n : Nat), RepL K mg H ds vs → RepL K mg H (ds.take n) (vs.take n)
  | _, _, 0, _ => by simpa using repL_nil
  | [], _, n + 1, h => by rw [h.nil]; simpa using repL_nil
  | d :: ds, _, n + 1, h => by
    obtain ⟨v, r, rfl, h2, h3⟩ := h.cons
    simpa using repL_cons h2 (RepL.take n h3)
theorem RepL.drop : ∀ {ds : List D} {vs : List V} (n : Nat), RepL K mg H ds vs → RepL K mg H (ds.drop n) (vs.drop n)
  | _, _, 0, h => by simpa using h
  | [], _, n + 1, h => by rw [h.nil]; simpa using repL_nil
  | d :: ds, _, n + 1, h => by
    obtain ⟨v, r, rfl, h2, h3⟩ := h.cons
    simpa using RepL.drop n h3
theorem RepL.set : ∀ {ds : List D} {vs : List V} {d : D} {v : V} (n : Nat), RepL K mg H ds vs → Rep K mg H d v → RepL K mg H (ds.set n d) (vs.set n v)
  | [], _, _, _, _, h, _ => by rw [h.nil]; simpa using repL_nil
  | d :: ds, _, _, _, 0, h, k => by
    obtain ⟨v, r, rfl, h2, h3⟩ := h.cons
    simpa using repL_cons k h3
  | d :: ds, _, _, _, n + 1, h, k => by
    obtain ⟨v, r, rfl, h2, h3⟩ := h.cons
    simpa using repL_cons h2 (RepL.set n h3 k)
def isDic : Tg → Bool
  | .dic _ => true
  | _ => false
theorem NodeM.node {t : Tg} {a : Addr} {vs : List V} (h : NodeM mg H t a vs) (nd : isDic t = false) : Node K mg H t a vs := by
  cases t with
  | tup => exact h.elim
  | lst => exact h
  | scr => exact h.elim
  | dic ks => cases nd
  | ins c fs => exact h
  | exc k => exact h.elim
theorem NodeM.some {t : Tg} {a : Addr} {vs : List V} (h : NodeM mg H t a vs) : ∃ o, H a = Option.some o := by
  cases t with
  | tup => exact h.elim
  | lst => exact ⟨_, h⟩
  | scr => exact h.elim
  | dic ks => exact ⟨_, h.2⟩
  | ins c fs =>
    obtain ⟨_, _, _, _, h⟩ := h
    exact ⟨_, h⟩
  | exc k => exact h.elim
theorem NodeM.keep {t : Tg} {a : Addr} {vs : List V} (h : NodeM mg H t a vs) (e : ∀ o, H a = Option.some o → H' a = Option.some o) : NodeM mg H' t a vs := by
  cases t with
  | tup => exact h.elim
  | lst => exact e _ h
  | scr => exact h.elim
  | dic ks => exact ⟨h.1, e _ h.2⟩
  | ins c fs =>
    obtain ⟨h0, C, dx, h1, h⟩ := h
    exact ⟨h0, C, dx, h1, e _ h⟩
  | exc k => exact h.elim
end
structure Cfg where
  B0 : Hp
  B : Hp
  A : List Addr
def ownF (c f : Str) : Bool := (c == ("Tableau" : Str) && (f == ("rows" : Str) || (f == ("factors" : Str) || f == ("basis" : Str)))) || (c == ("Console" : Str) && f == ("states" : Str))
def obF : D → List Str
  | .nd (.ins c fs) _ => fs.filter (ownF c)
  | _ => []
def adr : S → List Addr
  | .ow a _ (.nd _ _) => [a]
  | .ob a d fb => a :: (obF d).map fb
  | .on a _ _ p => [a, p]
  | _ => []
def adrO : Option S → List Addr
  | some s => adr s
  | none => []
def Free (st : LS) (a : Addr) : Prop := ∀ (i : Nat) s, st[i]? = some s → a ∉ adr s
def Sep (st : LS) : Prop := ∀ (i j : Nat) s s', st[i]? = some s → st[j]? = some s' → ∀ x, x ∈ adr s → x ∈ adr s' → i = j
section
variable (K : PySem.W.Frag) (mg : Str → Option Value)
def Kids (H0 H : Hp) (c : Str) (fb : Str → Addr) : List Str → List D → List V → Prop
  | [], [], [] => True
  | f :: fs, d :: ds, v :: vs => ((ownF c f = true → v = .ref (fb f) ∧ ∃ t es ws, d = .nd t es ∧ NodeM mg H t (fb f) ws ∧ RepL K mg H0 es ws) ∧ (ownF c f = false → Rep K mg H0 d v)) ∧ Kids H0 H c fb fs ds vs
  | _, _, _ => False
def kDz : Key → D
  | .inl i => .int i
  | .inr s => .str s
def encT (kvs : List (List Key × D)) : D := .nd .lst (kvs.map fun p => .nd .tup [.nd .tup (p.1.map kDz), p.2])
def KTR (H : Hp) : List (List Key × D) → List (List Key × V) → Prop
  | [], [] => True
  | p :: r, q :: s => p.1 = q.1 ∧ Rep K mg H p.2 q.2 ∧ KTR H r s
  | _, _ => False
def OnL (H0 H : Hp) (a : Addr) (j : Nat) (d : D) (p : Addr) : Prop :=
  a ≠ p ∧ H0 a = none ∧ H0 p = none ∧ ∃ ds vs ks es ws, d = .nd .lst ds ∧ H a = some (.lst vs) ∧ vs.length = ds.length ∧ vs[j]? = some (.ref p) ∧ ds[j]? = some (.nd (.dic ks) es) ∧ ks.length = ws.length ∧ H p = some (.dK (ks.zip ws)) ∧ RepL K mg H0 es ws ∧
    ∀ (i : Nat) d, i ≠ j → ds[i]? = some d → ∃ v, vs[i]? = some v ∧ Rep K mg H0 d v
def OnT (H0 H : Hp) (a : Addr) (j : Nat) (d : D) (p : Addr) : Prop :=
  a ≠ p ∧ H0 a = none ∧ H0 p = none ∧ ∃ ds vs ks es ws, d = .nd .tup ds ∧ H a = some (.tup vs) ∧ vs.length = ds.length ∧ vs[j]? = some (.ref p) ∧ ds[j]? = some (.nd (.dic ks) es) ∧ ks.length = ws.length ∧ H p = some (.dK (ks.zip ws)) ∧ RepL K mg H0 es ws
def OnR (H0 H : Hp) (a : Addr) (j : Nat) (d : D) (p : Addr) : Prop := (j < 1000 ∧ OnL K mg H0 H a j d p) ∨ (j = 1000 ∧ p = a ∧ H0 a = none ∧ ∃ kvs ws, d = encT kvs ∧ H a = some (.dT ws) ∧ KTR K mg H0 kvs ws) ∨ (2000 ≤ j ∧ OnT K mg H0 H a (j - 2000) d p)
def RSlot (C : Cfg) (H0 H : Hp) : Option S → Option (Option V) → Prop
  | some (.fz d), v => ∃ w, v = some (some w) ∧ Rep K mg H0 d w
  | some (.xc u e), v => v = some (some (.ref u.a)) ∧ RepE K mg H0 e u.cls u.d
  | some (.ow a l (.nd t ds)), v => v = some (some (.ref a)) ∧ H0 a = none ∧ (l = true → C.B a = none) ∧ (l = false → a ∈ C.A) ∧ ∃ vs, NodeM mg H t a vs ∧ RepL K mg H0 ds vs
  | some (.ow _ _ _), _ => False
  | some (.ob a (.nd (.ins c fs) ds) fb), v => v = some (some (.ref a)) ∧ (a :: (fs.filter (ownF c)).map fb).Nodup ∧ (∀ x ∈ a :: (fs.filter (ownF c)).map fb, H0 x = none ∧ (x ∈ C.A ∨ C.B x = none)) ∧ ∃ vs, NodeM mg H (.ins c fs) a vs ∧ Kids K mg H0 H c fb fs ds vs
  | some (.ob _ _ _), _ => False
  | some (.on a j ds p), v => v = some (some (.ref a)) ∧ C.B a = none ∧ C.B p = none ∧ OnR K mg H0 H a j ds p
  | _, _ => True
structure I (C : Cfg) (H0 H : Hp) (σ : L2.St) (st : LS) : Prop where
  same : Same H0 H
  up : Same C.B0 H0
  keep : ∀ b o, C.B b = some o → b ∉ C.A → H b = some o
  low : ∀ b o, C.B b = some o → C.B0 b = none → H0 b = none
  aa : ∀ a ∈ C.A, ∃ o, H a = some o
  len : st.length = σ.length
  slots : ∀ i : Nat, RSlot K mg C H0 H st[i]? σ[i]?
  sep : Sep st
def RepR (C : Cfg) (H0 H : Hp) (st : LS) : S → V → Prop
  | .fz d, v => Rep K mg H0 d v
  | .ow a l (.nd t ds), v => v = .ref a ∧ l = true ∧ H0 a = none ∧ C.B a = none ∧ Free st a ∧ ∃ vs, NodeM mg H t a vs ∧ RepL K mg H0 ds vs
  | .on a j ds p, v => v = .ref a ∧ C.B a = none ∧ C.B p = none ∧ Free st a ∧ Free st p ∧ OnR K mg H0 H a j ds p
  | _, _ => False
def LkX (C : Cfg) (H0 : Hp) (σ : L2.St) (W : WX) (Ex : DX) : Prop :=
  ∀ e st' H0' H' cls d, Ex e st' → I K mg C H0' H' σ st' → Same H0 H0' → RepE K mg H0' e cls d → W cls d σ H'
structure LkS (C : Cfg) (H0 : Hp) (W : WX) (de : DEnds) (Dn : Ends) : Prop where
  nx : ∀ st' σ' H0' H', de.nx st' → I K mg C H0' H' σ' st' → Same H0 H0' → Dn.nx σ' H'
  bk : ∀ st' σ' H0' H', de.bk st' → I K mg C H0' H' σ' st' → Same H0 H0' → Dn.bk σ' H'
  ct : ∀ st' σ' H0' H', de.ct st' → I K mg C H0' H' σ' st' → Same H0 H0' → Dn.ct σ' H'
  rt : ∀ r st' v σ' H0' H', de.rt r st' → I K mg C H0' H' σ' st' → Same H0 H0' → RepR K mg C H0' H' st' r v → Dn.rt v H'
  ex : ∀ e st' σ' H0' H' cls d, de.ex e st' → I K mg C H0' H' σ' st' → Same H0 H0' → RepE K mg H0' e cls d → W cls d σ' H'
end
structure PED (X : Cx) (W : WX) (e : Expr) (g : DE) : Prop where
  ex : ∃ t, PE X e t ∧ ∀ (C : Cfg) (H0 H : Hp) (σ : L2.St) (st : LS) (Ex : DX) (Q : D → LS → Prop) (Qv : VK), I X.K X.mg C H0 H σ st → LkX X.K X.mg C H0 σ W Ex →
    (∀ d st' v H0' H', Q d st' → I X.K X.mg C H0' H' σ st' → Same H0 H0' → Rep X.K X.mg H0' d v → Qv v H') → g Ex st Q → t σ H Qv
structure POD (X : Cx) (W : WX) (e : Expr) (g : DO) : Prop where
  ex : ∃ t, PE X e t ∧ ∀ (C : Cfg) (H0 H : Hp) (σ : L2.St) (st : LS) (Ex : DX) (Q : S → LS → Prop) (Qv : VK), I X.K X.mg C H0 H σ st → LkX X.K X.mg C H0 σ W Ex →
    (∀ r st' v H0' H', Q r st' → I X.K X.mg C H0' H' σ st' → Same H0 H0' → RepR X.K X.mg C H0' H' st' r v → Qv v H') → g Ex st Q → t σ H Qv
structure PTD (X : Cx) (W : WX) (e : Expr) (g : DT) : Prop where
  ex : ∃ t, PT X e t ∧ ∀ (C : Cfg) (H0 H : Hp) (σ : L2.St) (st : LS) (Ex : DX) (Q : Bool → LS → Prop) (Qv : Bool → Hp → Prop), I X.K X.mg C H0 H σ st → LkX X.K X.mg C H0 σ W Ex →
    (∀ d st' H0' H', Q d st' → I X.K X.mg C H0' H' σ st' → Same H0 H0' → Qv d H') → g Ex st Q → t σ H Qv
structure PAD (X : Cx) (W : WX) (es : List Expr) (g : DA) : Prop where
  ex : ∃ t, PA X es t ∧ ∀ (C : Cfg) (H0 H : Hp) (σ : L2.St) (st : LS) (Ex : DX) (Q : List D → LS → Prop) (Qv : List V → Hp → Prop), I X.K X.mg C H0 H σ st → LkX X.K X.mg C H0 σ W Ex →
    (∀ ds st' vs H0' H', Q ds st' → I X.K X.mg C H0' H' σ st' → Same H0 H0' → RepL X.K X.mg H0' ds vs → ds.length = es.length → Qv vs H') → g Ex st Q → t σ H Qv
structure PSD (X : Cx) (W : WX) (s : Stmt) (g : DS) : Prop where
  ex : ∃ t, PS X s t ∧ ∀ (C : Cfg) (H0 H : Hp) (σ : L2.St) (st : LS) (de : DEnds) (Dn : Ends), I X.K X.mg C H0 H σ st → LkS X.K X.mg C H0 W de Dn → g de st → t Dn σ H
structure PSsD (X : Cx) (W : WX) (s : List Stmt) (g : DS) : Prop where
  ex : ∃ t, PSs X s t ∧ ∀ (C : Cfg) (H0 H : Hp) (σ : L2.St) (st : LS) (de : DEnds) (Dn : Ends), I X.K X.mg C H0 H σ st → LkS X.K X.mg C H0 W de Dn → g de st → t Dn σ H
section
variable {K : PySem.W.Frag} {mg : Str → Option Value} {C : Cfg} {H0 H H0' H' : Hp} {σ : L2.St} {st : LS}
theorem LkX.up {W : WX} {Ex : DX} (h : LkX K mg C H0 σ W Ex) (e : Same H0 H0') : LkX K mg C H0' σ W Ex :=
  fun er st' H1 H2 cls d a b c r => h er st' H1 H2 cls d a b (e.trans c) r
theorem LkS.up {W : WX} {de : DEnds} {Dn : Ends} (h : LkS K mg C H0 W de Dn) (e : Same H0 H0') : LkS K mg C H0' W de Dn :=
  ⟨fun a b c d x y z => h.nx a b c d x y (e.trans z), fun a b c d x y z => h.bk a b c d x y (e.trans z), fun a b c d x y z => h.ct a b c d x y (e.trans z),
   fun a b c d f g x y z => h.rt a b c d f g x y (e.trans z), fun a b c d f g k x y z => h.ex a b c d f g k x y (e.trans z)⟩
theorem LkS.xp {W : WX} {de : DEnds} {Dn : Ends} (h : LkS K mg C H0 W de Dn) (σ : L2.St) : LkX K mg C H0 σ W de.ex :=
  fun er st' H1 H2 cls d a b c r => h.ex er st' σ H1 H2 cls d a b c r
theorem I.fz (i : I K mg C H0 H σ st) {k : Nat} {d : D} (e : st[k]? = some (.fz d)) : ∃ v, σ[k]? = some (some v) ∧ Rep K mg H0 d v := by
  have h := i.slots k
  rw [e] at h
  exact h
theorem I.ow (i : I K mg C H0 H σ st) {k : Nat} {a : Addr} {l : Bool} {t : Tg} {ds : List D} (e : st[k]? = some (.ow a l (.nd t ds))) :
    σ[k]? = some (some (.ref a)) ∧ H0 a = none ∧ (l = true → C.B a = none) ∧ (l = false → a ∈ C.A) ∧ ∃ vs, NodeM mg H t a vs ∧ RepL K mg H0 ds vs := by
  have h := i.slots k
  rw [e] at h
  exact h
theorem I.owd (i : I K mg C H0 H σ st) {k : Nat} {a : Addr} {l : Bool} {d : D} (e : st[k]? = some (.ow a l d)) : ∃ t ds, d = .nd t ds := by
  have h := i.slots k
  rw [e] at h
  cases d with
  | nd t ds => exact ⟨t, ds, rfl⟩
  | _ => exact False.elim h
theorem I.ob (i : I K mg C H0 H σ st) {k : Nat} {a : Addr} {c : Str} {fs : List Str} {ds : List D} {fb : Str → Addr} (e : st[k]? = some (.ob a (.nd (.ins c fs) ds) fb)) :
    σ[k]? = some (some (.ref a)) ∧ (a :: (fs.filter (ownF c)).map fb).Nodup ∧ (∀ x ∈ a :: (fs.filter (ownF c)).map fb, H0 x = none ∧ (x ∈ C.A ∨ C.B x = none)) ∧ ∃ vs, NodeM mg H (.ins c fs) a vs ∧ Kids K mg H0 H c fb fs ds vs := by
  have h := i.slots k
  rw [e] at h
  exact h
theorem Kids.at {c : Str} {fb : Str → Addr} : ∀ {fs : List Str} {ds : List D} {vs : List V}, Kids K mg H0 H c fb fs ds vs → ∀ f ∈ fs, ownF c f = true → ∃ o, H (fb f) = some o
  | f :: fs, d :: ds, v :: vs, h, g, hg, hw => by
    unfold Kids at h
    rcases List.mem_cons.mp hg with rfl | hg
    · obtain ⟨_, t, es, ws, _, h2, _⟩ := h.1.1 hw
      exact h2.some
    · exact Kids.at h.2 g hg hw
  | [], _, _, _, _, hg, _ => by cases hg
  | _ :: _, [], _, h, _, _, _ => by unfold Kids at h; exact h.elim
  | _ :: _, _ :: _, [], h, _, _, _ => by unfold Kids at h; exact h.elim
theorem Kids.move {c : Str} {fb : Str → Addr} (e0 : Same H0 H0') : ∀ {fs : List Str} {ds : List D} {vs : List V}, Kids K mg H0 H c fb fs ds vs → (∀ f ∈ fs, ownF c f = true → ∀ o, H (fb f) = some o → H' (fb f) = some o) → Kids K mg H0' H' c fb fs ds vs
  | [], [], [], h, _ => h
  | f :: fs, d :: ds, v :: vs, h, k => by
    unfold Kids at h ⊢
    refine ⟨⟨fun hw => ?_, fun hw => Rep.mono e0 d v (h.1.2 hw)⟩, Kids.move e0 h.2 fun g hg hw => k g (List.mem_cons_of_mem _ hg) hw⟩
    obtain ⟨h1, t, es, ws, h2, h3, h4⟩ := h.1.1 hw
    exact ⟨h1, t, es, ws, h2, h3.keep fun o e => k f List.mem_cons_self hw o e, RepL.mono e0 es ws h4⟩
  | [], [], _ :: _, h, _ => by unfold Kids at h; exact h.elim
  | [], _ :: _, _, h, _ => by unfold Kids at h; exact h.elim
  | _ :: _, [], _, h, _ => by unfold Kids at h; exact h.elim
  | _ :: _, _ :: _, [], h, _ => by unfold Kids at h; exact h.elim
theorem I.on (i : I K mg C H0 H σ st) {k : Nat} {a : Addr} {j : Nat} {ds : D} {p : Addr} (e : st[k]? = some (.on a j ds p)) : σ[k]? = some (some (.ref a)) ∧ C.B a = none ∧ C.B p = none ∧ OnR K mg H0 H a j ds p := by
  have h := i.slots k
  rw [e] at h
  exact h
theorem KTR.mono (e : Same H H') : ∀ {kvs : List (List Key × D)} {ws : List (List Key × V)}, KTR K mg H kvs ws → KTR K mg H' kvs ws
  | [], [], h => h
  | p :: r, q :: s, h => by
    obtain ⟨h1, h2, h3⟩ := h
    exact ⟨h1, Rep.mono e p.2 q.2 h2, KTR.mono e h3⟩
  | [], _ :: _, h => h.elim
  | _ :: _, [], h => h.elim
theorem OnR.l {a : Addr} {j : Nat} {ds : D} {p : Addr} (h : OnR K mg H0 H a j ds p) (hj : j < 1000) : OnL K mg H0 H a j ds p := by
  rcases h with h | h | h
  · exact h.2
  · omega
  · omega
theorem OnT.move {a : Addr} {j : Nat} {ds : D} {p : Addr} (h : OnT K mg H0 H a j ds p) (e0 : Same H0 H0') (f : ∀ x ∈ [a, p], H0' x = none ∧ ∀ o, H x = some o → H' x = some o) : OnT K mg H0' H' a j ds p := by
  obtain ⟨h1, h2, h3, dl, vs, ks, es, ws, h0, h4, h5, h6, h7, h8, h9, h10⟩ := h
  obtain ⟨fa1, fa2⟩ := f a (by simp)
  obtain ⟨fp1, fp2⟩ := f p (by simp)
  exact ⟨h1, fa1, fp1, dl, vs, ks, es, ws, h0, fa2 _ h4, h5, h6, h7, h8, fp2 _ h9, RepL.mono e0 es ws h10⟩
theorem OnT.adr {a : Addr} {j : Nat} {ds : D} {p : Addr} (h : OnT K mg H0 H a j ds p) : ∀ x ∈ [a, p], H0 x = none ∧ ∃ o, H x = some o := by
  obtain ⟨h1, h2, h3, dl, vs, ks, es, ws, h0, h4, h5, h6, h7, h8, h9, h10⟩ := h
  intro x hx
  rcases List.mem_cons.mp hx with rfl | hx
  · exact ⟨h2, _, h4⟩
  · obtain rfl := List.mem_singleton.mp hx
    exact ⟨h3, _, h9⟩
theorem OnL.move {a : Addr} {j : Nat} {ds : D} {p : Addr} (h : OnL K mg H0 H a j ds p) (e0 : Same H0 H0') (f : ∀ x ∈ [a, p], H0' x = none ∧ ∀ o, H x = some o → H' x = some o) : OnL K mg H0' H' a j ds p := by
  obtain ⟨h1, h2, h3, dl, vs, ks, es, ws, h0, h4, h5, h6, h7, h8, h9, h10, h11⟩ := h
  obtain ⟨fa1, fa2⟩ := f a (by simp)
  obtain ⟨fp1, fp2⟩ := f p (by simp)
  exact ⟨h1, fa1, fp1, dl, vs, ks, es, ws, h0, fa2 _ h4, h5, h6, h7, h8, fp2 _ h9, RepL.mono e0 es ws h10, fun i d n e => let ⟨v, e1, e2⟩ := h11 i d n e; ⟨v, e1, Rep.mono e0 d v e2⟩⟩
theorem OnR.move {a : Addr} {j : Nat} {ds : D} {p : Addr} (h : OnR K mg H0 H a j ds p) (e0 : Same H0 H0') (f : ∀ x ∈ [a, p], H0' x = none ∧ ∀ o, H x = some o → H' x = some o) : OnR K mg H0' H' a j ds p := by
  rcases h with ⟨hj, h⟩ | ⟨hj, rfl, h1, kvs, ws, h2, h3, h4⟩ | ⟨hj, h⟩
  · exact .inl ⟨hj, h.move e0 f⟩
  · obtain ⟨f1, f2⟩ := f p (by simp)
    exact .inr (.inl ⟨hj, rfl, f1, kvs, ws, h2, f2 _ h3, h4.mono e0⟩)
  · exact .inr (.inr ⟨hj, h.move e0 f⟩)
theorem OnL.adr {a : Addr} {j : Nat} {ds : D} {p : Addr} (h : OnL K mg H0 H a j ds p) : ∀ x ∈ [a, p], H0 x = none ∧ ∃ o, H x = some o := by
  obtain ⟨h1, h2, h3, dl, vs, ks, es, ws, h0, h4, h5, h6, h7, h8, h9, h10, h11⟩ := h
  intro x hx
  rcases List.mem_cons.mp hx with rfl | hx
  · exact ⟨h2, _, h4⟩
  · obtain rfl := List.mem_singleton.mp hx
    exact ⟨h3, _, h9⟩
theorem OnR.adr {a : Addr} {j : Nat} {ds : D} {p : Addr} (h : OnR K mg H0 H a j ds p) : ∀ x ∈ [a, p], H0 x = none ∧ ∃ o, H x = some o := by
  rcases h with ⟨_, h⟩ | ⟨_, rfl, h1, kvs, ws, h2, h3, h4⟩ | ⟨_, h⟩
  · exact h.adr
  · intro x hx
    have : x = p := by simpa using hx
    subst this
    exact ⟨h1, _, h3⟩
  · exact h.adr
theorem RSlot.adr {s : Option S} {v : Option (Option V)} (h : RSlot K mg C H0 H s v) : ∀ x ∈ adrO s, H0 x = none ∧ (x ∈ C.A ∨ C.B x = none) ∧ ∃ o, H x = some o := by
  intro x hx
  cases s with
  | none => cases hx
  | some s =>
    cases s with
    | un => cases hx
    | xc u e => cases hx
    | fz d => cases hx
    | on a j ds p =>
      have hx : x ∈ [a, p] := hx
      obtain ⟨_, h1, h2, h3⟩ := h
      obtain ⟨q1, q2⟩ := h3.adr x hx
      refine ⟨q1, .inr ?_, q2⟩
      rcases List.mem_cons.mp hx with rfl | hx
      · exact h1
      · obtain rfl := List.mem_singleton.mp hx
        exact h2
    | ow a l d0 =>
      cases d0 with
      | nd t ds =>
        obtain rfl := List.mem_singleton.mp hx
        obtain ⟨_, h2, h3, h4, vs, h5, _⟩ := h
        refine ⟨h2, ?_, h5.some⟩
        cases l with
        | true => exact .inr (h3 rfl)
        | false => exact .inl (h4 rfl)
      | _ => exact False.elim h
    | ob a d0 fb =>
      cases d0 with
      | nd t ds =>
        cases t with
        | ins c fs =>
          obtain ⟨_, _, h3, vs, h4, h5⟩ := h
          have hx : x ∈ a :: (fs.filter (ownF c)).map fb := hx
          refine ⟨(h3 x hx).1, (h3 x hx).2, ?_⟩
          rcases List.mem_cons.mp hx with rfl | hx
          · exact h4.some
          · obtain ⟨f, hf, rfl⟩ := List.mem_map.mp hx
            obtain ⟨hf1, hf2⟩ := List.mem_filter.mp hf
            exact h5.at f hf1 hf2
        | _ => exact False.elim h
      | _ => exact False.elim h
theorem RSlot.move {s : Option S} {v : Option (Option V)} (h : RSlot K mg C H0 H s v) (e0 : Same H0 H0')
    (f : ∀ x ∈ adrO s, H0' x = none ∧ ∀ o, H x = some o → H' x = some o) : RSlot K mg C H0' H' s v := by
  cases s with
  | none => trivial
  | some s =>
    cases s with
    | un => trivial
    | xc u e => exact ⟨h.1, RepE.mono e0 h.2⟩
    | on a j ds p => exact ⟨h.1, h.2.1, h.2.2.1, h.2.2.2.move e0 f⟩
    | fz d =>
      obtain ⟨w, h1, h2⟩ := h
      exact ⟨w, h1, Rep.mono e0 d w h2⟩
    | ow a l d0 =>
      cases d0 with
      | nd t ds =>
        obtain ⟨h1, h2, h3, h4, vs, h5, h6⟩ := h
        obtain ⟨f1, f2⟩ := f a (List.mem_singleton.mpr rfl)
        exact ⟨h1, f1, h3, h4, vs, h5.keep f2, RepL.mono e0 ds vs h6⟩
      | _ => first | trivial | exact h.elim | exact False.elim h
    | ob a d0 fb =>
      cases d0 with
      | nd t ds =>
        cases t with
        | ins c fs =>
          obtain ⟨h1, h2, h3, vs, h4, h5⟩ := h
          have f : ∀ x ∈ a :: (fs.filter (ownF c)).map fb, H0' x = none ∧ ∀ o, H x = some o → H' x = some o := f
          refine ⟨h1, h2, fun x hx => ⟨(f x hx).1, (h3 x hx).2⟩, vs, h4.keep (f a List.mem_cons_self).2, h5.move e0 fun g hg hw => (f _ (List.mem_cons_of_mem _ (List.mem_map.mpr ⟨g, List.mem_filter.mpr ⟨hg, hw⟩, rfl⟩))).2⟩
        | _ => first | trivial | exact h.elim | exact False.elim h
      | _ => first | trivial | exact h.elim | exact False.elim h
theorem RSlot.cfg {C' : Cfg} {s : Option S} {v : Option (Option V)} (h : RSlot K mg C H0 H s v) (hB : ∀ x ∈ adrO s, C.B x = none → C'.B x = none) (hA : ∀ x ∈ adrO s, x ∈ C.A → x ∈ C'.A) : RSlot K mg C' H0 H s v := by
  cases s with
  | none => trivial
  | some s =>
    cases s with
    | un => trivial
    | xc u e => exact h
    | on a j ds p => exact ⟨h.1, hB a (List.mem_cons_self) h.2.1, hB p (List.mem_cons_of_mem _ List.mem_cons_self) h.2.2.1, h.2.2.2⟩
    | fz d => exact h
    | ow a l d0 =>
      cases d0 with
      | nd t ds =>
        obtain ⟨h1, h2, h3, h4, h5⟩ := h
        exact ⟨h1, h2, fun z => hB a (List.mem_singleton.mpr rfl) (h3 z), fun z => hA a (List.mem_singleton.mpr rfl) (h4 z), h5⟩
      | _ => exact False.elim h
    | ob a d0 fb =>
      cases d0 with
      | nd t ds =>
        cases t with
        | ins c fs =>
          obtain ⟨h1, h2, h3, h4⟩ := h
          exact ⟨h1, h2, fun x hx => ⟨(h3 x hx).1, (h3 x hx).2.imp (hA x hx) (hB x hx)⟩, h4⟩
        | _ => exact False.elim h
      | _ => exact False.elim h
theorem I.adr (i : I K mg C H0 H σ st) {k : Nat} {x : Addr} (hx : x ∈ adrO st[k]?) : H0 x = none ∧ (x ∈ C.A ∨ C.B x = none) ∧ ∃ o, H x = some o := (i.slots k).adr x hx
theorem adrO_some {k : Nat} {x : Addr} (hx : x ∈ adrO st[k]?) : ∃ s, st[k]? = some s ∧ x ∈ PD.adr s := by
  cases e : st[k]? with
  | none => rw [e] at hx; cases hx
  | some s => rw [e] at hx; exact ⟨s, rfl, hx⟩
theorem I.free (i : I K mg C H0 H σ st) {p : Addr} (hp : H p = none) : Free st p := fun k s e hx => by
  obtain ⟨_, _, o, ho⟩ := i.adr (k := k) (x := p) (by rw [e]; exact hx)
  rw [hp] at ho; cases ho
theorem sep_set {k : Nat} {r : S} (h : Sep st) (hr : ∀ (j : Nat) s, j ≠ k → st[j]? = some s → ∀ x ∈ PD.adr r, x ∉ PD.adr s) : Sep (st.set k r) := by
  intro i j s s' e1 e2 x hx hy
  rw [List.getElem?_set] at e1 e2
  by_cases q1 : k = i
  · by_cases q2 : k = j
    · rw [← q1, ← q2]
    · rw [if_pos q1] at e1
      rw [if_neg q2] at e2
      split at e1
      · cases e1
        exact absurd hy (hr j s' (fun z => q2 z.symm) e2 x hx)
      · cases e1
  · rw [if_neg q1] at e1
    by_cases q2 : k = j
    · rw [if_pos q2] at e2
      split at e2
      · cases e2
        exact absurd hx (hr i s (fun z => q1 z.symm) e1 x hy)
      · cases e2
    · rw [if_neg q2] at e2
      exact h i j s s' e1 e2 x hx hy
theorem sep_put {k : Nat} {r : S} (h : Sep st) (hr : ∀ x ∈ PD.adr r, Free st x) : Sep (st.set k r) := sep_set h fun j s _ e x hx => hr x hx j s e
theorem sep_nil {k : Nat} {r : S} (h : Sep st) (hr : PD.adr r = []) : Sep (st.set k r) := sep_set h fun j s _ e x hx => by rw [hr] at hx; cases hx
theorem I.grow (i : I K mg C H0 H σ st) (e0 : Same H0 H0') (e : Same H H') (s : Same H0' H') (nw : ∀ b o, H b = some o → H0 b = none → H0' b = none) : I K mg C H0' H' σ st where
  same := s
  up := i.up.trans e0
  keep := fun b o h n => e _ _ (i.keep b o h n)
  low := fun b o h n => by
    by_cases hb : b ∈ C.A
    · obtain ⟨o', q⟩ := i.aa b hb
      exact nw b o' q (i.low b o h n)
    · exact nw b o (i.keep b o h hb) (i.low b o h n)
  aa := fun a h => let ⟨o, q⟩ := i.aa a h; ⟨o, e _ _ q⟩
  len := i.len
  slots := fun k => (i.slots k).move e0 fun x hx => by
    obtain ⟨h2, _, o, h6⟩ := i.adr hx
    exact ⟨nw x o h6 h2, fun o' q' => e _ _ q'⟩
  sep := i.sep
theorem same_upd {p : Addr} {o : HO} (n : H p = none) : Same H (upd H p o) := fun b u e => by
  rw [upd_ne (ne_of_none e n)]; exact e
theorem same_upd2 {p : Addr} {o : HO} (s : Same H0 H) : Same (upd H0 p o) (upd H p o) := fun b u e => by
  by_cases h : b = p
  · subst h; rw [upd_same] at e ⊢; exact e
  · rw [upd_ne h] at e ⊢; exact s _ _ e
theorem I.new (i : I K mg C H0 H σ st) {p : Addr} {o : HO} (n : H p = none) : I K mg C (upd H0 p o) (upd H p o) σ st :=
  i.grow (same_upd (i.same.free n)) (same_upd n) (same_upd2 i.same) fun b u e z => by rw [upd_ne (ne_of_none e n)]; exact z
theorem I.own (i : I K mg C H0 H σ st) {p : Addr} {o : HO} (n : H p = none) : I K mg C H0 (upd H p o) σ st :=
  i.grow (Same.refl _) (same_upd n) (i.same.trans (same_upd n)) fun b u _ z => z
def Lk (H : Hp) (Q : Hp → Prop) : Prop := Q H ∨ ∃ d u, H d = some u ∧ Mut (some u) ∧ ∀ od, Q (upd H d (.frz od u))
theorem Lk.imp {Q Q' : Hp → Prop} (h : Lk H Q) (k : ∀ H', Q H' → Q' H') : Lk H Q' := by
  rcases h with h | ⟨d, u, h1, h2, h3⟩
  · exact .inl (k _ h)
  · exact .inr ⟨d, u, h1, h2, fun od => k _ (h3 od)⟩
def tLk (t : TE) : TE := fun σ H Q => t σ H fun v H1 => Lk H1 (Q v)
theorem pe_lk {X : Cx} {e : Expr} {t : TE} (h : PE X e t) : PE X e (tLk t) := by
  refine ⟨fun pins s σ H Q I hq => thn (h.run pins s σ H _ I hq) fun u s1 ⟨v, H1, I1, r, q⟩ => ?_⟩
  rcases q with q | ⟨d, w, h1, h2, h3⟩
  · exact ⟨v, H1, I1, r, q⟩
  · obtain ⟨od, I2⟩ := I1.lock h1 h2
    exact ⟨v, _, I2, r, h3 od⟩
theorem I.freezeAt (i : I K mg C H0 H σ st) {a : Addr} {t : Tg} {ds : List D} {vs : List V} (h0 : H0 a = none) (hB : C.B a = none) (hs : Free st a) (hn : NodeM mg H t a vs) (hr : RepL K mg H0 ds vs) {Q : Hp → Prop}
    (k : ∀ H0' H', I K mg C H0' H' σ st → Same H0 H0' → Rep K mg H0' (.nd t ds) (.ref a) → Q H') : Lk H Q := by
  obtain ⟨o, ho⟩ := hn.some
  have main : ∀ o' : HO, (t = t → True) → I K mg C (upd H0 a o') (upd H a o') σ st := fun o' _ => by
    have s1 : Same H0 (upd H0 a o') := same_upd h0
    have s2 : Same (upd H0 a o') (upd H a o') := fun b u e => by
      by_cases q : b = a
      · subst q; rw [upd_same] at e ⊢; exact e
      · rw [upd_ne q] at e ⊢; exact i.same _ _ e
    refine ⟨s2, i.up.trans s1, fun b u h n => ?_, fun b u h n => ?_, fun b hb => ?_, i.len, fun kk => (i.slots kk).move s1 fun a' q => ?_, i.sep⟩
    · rw [upd_ne (ne_of_none h hB)]; exact i.keep b u h n
    · rw [upd_ne (ne_of_none h hB)]; exact i.low b u h n
    · by_cases q : b = a
      · exact ⟨o', by rw [q]; exact upd_same⟩
      · obtain ⟨u, hu⟩ := i.aa b hb
        exact ⟨u, by rw [upd_ne q]; exact hu⟩
    · obtain ⟨s, e1, e2⟩ := adrO_some q
      have ne : a' ≠ a := fun z => by subst z; exact hs kk s e1 e2
      exact ⟨by rw [upd_ne ne]; exact (i.adr q).1, fun u z => by rw [upd_ne ne]; exact z⟩
  by_cases hd : isDic t = true
  · cases t with
    | dic ks =>
      refine .inr ⟨a, .dK (ks.zip vs), hn.2, True.intro, fun od => ?_⟩
      exact k _ _ (main _ fun _ => trivial) (same_upd h0) (rep_nd (vs := vs) ⟨hn.1, od, upd_same⟩ (RepL.mono (same_upd h0) ds vs hr))
    | _ => cases hd
  · have hd : isDic t = false := by simpa using hd
    have eH : upd H a o = H := funext fun b => by
      by_cases q : b = a
      · subst q; rw [upd_same, ho]
      · rw [upd_ne q]
    have m := main o fun _ => trivial
    rw [eH] at m
    refine .inl (k _ _ m (same_upd h0) (rep_nd (vs := vs) ?_ (RepL.mono (same_upd h0) ds vs hr)))
    refine NodeM.node (hn.keep fun o' q => ?_) hd
    rw [ho] at q; cases q; exact upd_same
theorem I.freezeL (i : I K mg C H0 H σ st) {a : Addr} {ds : List D} {vs : List V} (h0 : H0 a = none) (hB : C.B a = none) (hs : Free st a) (hn : NodeM mg H .lst a vs) (hr : RepL K mg H0 ds vs) :
    I K mg C (upd H0 a (.lst vs)) H σ st ∧ Same H0 (upd H0 a (.lst vs)) ∧ Rep K mg (upd H0 a (.lst vs)) (.nd .lst ds) (.ref a) := by
  have s1 : Same H0 (upd H0 a (.lst vs)) := same_upd h0
  have s2 : Same (upd H0 a (.lst vs)) H := fun b u e => by
    by_cases q : b = a
    · subst q; rw [upd_same] at e; rw [← e]; exact hn
    · rw [upd_ne q] at e; exact i.same _ _ e
  refine ⟨⟨s2, i.up.trans s1, i.keep, fun b u h n => ?_, i.aa, i.len, fun kk => (i.slots kk).move s1 fun a' q => ⟨?_, fun _ z => z⟩, i.sep⟩, s1, rep_nd (t := .lst) (vs := vs) upd_same (RepL.mono s1 ds vs hr)⟩
  · rw [upd_ne (ne_of_none h hB)]; exact i.low b u h n
  · obtain ⟨s, e1, e2⟩ := adrO_some q
    have ne : a' ≠ a := fun z => by subst z; exact hs kk s e1 e2
    rw [upd_ne ne]; exact (i.adr q).1
theorem repL_of_get {K : PySem.W.Frag} {mg : Str → Option Value} {H : Hp} : ∀ {ds : List D} {vs : List V}, vs.length = ds.length → (∀ (i : Nat) d, ds[i]? = some d → ∃ v, vs[i]? = some v ∧ Rep K mg H d v) → RepL K mg H ds vs
  | [], vs, hl, _ => by rw [List.eq_nil_of_length_eq_zero hl]; exact repL_nil
  | d :: ds, [], hl, _ => by cases hl
  | d :: ds, v :: vs, hl, h => by
    obtain ⟨w, h1, h2⟩ := h 0 d rfl
    cases h1
    exact repL_cons h2 (repL_of_get (Nat.succ.inj hl) fun i d' e => h (i + 1) d' e)
theorem I.freezeOn (i : I K mg C H0 H σ st) {a p : Addr} {j : Nat} {ds : D} (hB : C.B a = none) (hP : C.B p = none) (fa : Free st a) (fp : Free st p) (h0 : OnR K mg H0 H a j ds p) (hj : j < 1000) {Q : Hp → Prop}
    (k : ∀ H0' H', I K mg C H0' H' σ st → Same H0 H0' → Rep K mg H0' ds (.ref a) → Q H') : Lk H Q := by
  obtain ⟨h1, h2, h3, dl, vs, ks, es, ws, rfl, h4, h5, h6, h7, h8, h9, h10, h11⟩ := h0.l hj
  refine .inr ⟨p, .dK (ks.zip ws), h9, True.intro, fun od => ?_⟩
  have s1 : Same H0 (upd H0 p (.frz od (.dK (ks.zip ws)))) := same_upd h3
  have s2 : Same (upd H0 p (.frz od (.dK (ks.zip ws)))) (upd H p (.frz od (.dK (ks.zip ws)))) := fun b u e => by
    by_cases q : b = p
    · subst q; rw [upd_same] at e ⊢; exact e
    · rw [upd_ne q] at e ⊢; exact i.same _ _ e
  have i1 : I K mg C (upd H0 p (.frz od (.dK (ks.zip ws)))) (upd H p (.frz od (.dK (ks.zip ws)))) σ st := by
    refine ⟨s2, i.up.trans s1, fun b u h n => ?_, fun b u h n => ?_, fun b hb => ?_, i.len, fun kk => (i.slots kk).move s1 fun a' q => ?_, i.sep⟩
    · rw [upd_ne (ne_of_none h hP)]; exact i.keep b u h n
    · rw [upd_ne (ne_of_none h hP)]; exact i.low b u h n
    · by_cases q : b = p
      · exact ⟨_, by rw [q]; exact upd_same⟩
      · obtain ⟨u, hu⟩ := i.aa b hb
        exact ⟨u, by rw [upd_ne q]; exact hu⟩
    · obtain ⟨s, e1, e2⟩ := adrO_some q
      have ne : a' ≠ p := fun z => by subst z; exact fp kk s e1 e2
      exact ⟨by rw [upd_ne ne]; exact (i.adr q).1, fun u z => by rw [upd_ne ne]; exact z⟩
  have r1 : RepL K mg (upd H0 p (.frz od (.dK (ks.zip ws)))) dl vs := repL_of_get h5 fun x d e => by
    by_cases q : x = j
    · subst q
      rw [h7] at e
      cases e
      exact ⟨.ref p, h6, rep_nd (vs := ws) ⟨h8, od, upd_same⟩ (RepL.mono s1 es ws h10)⟩
    · obtain ⟨v, e1, e2⟩ := h11 x d q e
      exact ⟨v, e1, Rep.mono s1 d v e2⟩
  obtain ⟨i2, s3, r2⟩ := i1.freezeL (a := a) (ds := dl) (vs := vs) (by rw [upd_ne h1]; exact h2) hB fa (show NodeM mg (upd H p _) .lst a vs by show upd H p _ a = _; rw [upd_ne h1]; exact h4) r1
  exact k _ _ i2 (s1.trans s3) r2
def isTb : S → Bool
  | .on _ j _ _ => !decide (j < 1000)
  | _ => false
theorem RepR.dk (i : I K mg C H0 H σ st) {r : S} {v : V} (h : RepR K mg C H0 H st r v) (nt : isTb r = false) {Q : Hp → Prop}
    (k : ∀ d H0' H', (r = .fz d ∨ (∃ a, r = .ow a true d) ∨ ∃ a j ds p, r = .on a j ds p ∧ d = ds) → I K mg C H0' H' σ st → Same H0 H0' → Rep K mg H0' d v → Q H') : Lk H Q := by
  cases r with
  | un => exact h.elim
  | xc _ _ => exact h.elim
  | ob _ _ _ => exact h.elim
  | fz d => exact .inl (k d H0 H (.inl rfl) i (Same.refl _) h)
  | on a j ds p =>
    obtain ⟨rfl, h1, h2, h3, h4, h5⟩ := h
    exact i.freezeOn h1 h2 h3 h4 h5 (by simpa [isTb] using nt) fun H0' H' i' s' r' => k _ H0' H' (.inr (.inr ⟨_, _, _, _, rfl, rfl⟩)) i' s' r'
  | ow a l d0 =>
    cases d0 with
    | nd t ds =>
      obtain ⟨rfl, h2, h0, hB, hs, vs, hn, hr⟩ := h
      subst h2
      exact i.freezeAt h0 hB hs hn hr fun H0' H' i' s' r' => k _ H0' H' (.inr (.inl ⟨a, rfl⟩)) i' s' r'
    | _ => exact h.elim
theorem getElem?_set_st {α : Type} {l : List α} {i j : Nat} {x : α} (h : i < l.length) : (l.set i x)[j]? = if j = i then some x else l[j]? := by
  by_cases e : j = i
  · subst e; rw [if_pos rfl]; simp [h]
  · rw [if_neg e, List.getElem?_set_ne (fun z => e z.symm)]
theorem I.set (i : I K mg C H0 H σ st) {k : Nat} {r : S} {v : V} (h : RepR K mg C H0 H st r v) : I K mg C H0 H (σ.set k (some v)) (st.set k r) where
  same := i.same
  up := i.up
  keep := i.keep
  low := i.low
  aa := i.aa
  len := by rw [List.length_set, List.length_set]; exact i.len
  slots := fun j => by
    by_cases hk : k < st.length
    · have hk' : k < σ.length := by rw [← i.len]; exact hk
      rw [getElem?_set_st hk, getElem?_set_st hk']
      by_cases e : j = k
      · rw [if_pos e, if_pos e]
        cases r with
        | un => trivial
        | xc _ _ => exact h.elim
        | ob _ _ _ => exact h.elim
        | on a j ds p =>
          obtain ⟨rfl, h1, h2, h3, h4, h5⟩ := h
          exact ⟨rfl, h1, h2, h5⟩
        | fz d => exact ⟨v, rfl, h⟩
        | ow a l d0 =>
          cases d0 with
          | nd t ds =>
            obtain ⟨rfl, h2, h3, h4, h5, h6⟩ := h
            subst h2
            exact ⟨rfl, h3, fun _ => h4, fun z => Bool.noConfusion z, h6⟩
          | _ => first | trivial | exact h.elim | exact False.elim h
      · rw [if_neg e, if_neg e]; exact i.slots j
    · rw [List.set_eq_of_length_le (Nat.le_of_not_lt hk), List.set_eq_of_length_le (by rw [← i.len]; exact Nat.le_of_not_lt hk)]
      exact i.slots j
  sep := sep_put i.sep fun x hx => by
    cases r with
    | un => cases hx
    | xc _ _ => cases hx
    | fz d => cases hx
    | ob _ _ _ => exact h.elim
    | on a j ds p =>
      obtain ⟨rfl, h1, h2, h3, h4, h5⟩ := h
      rcases List.mem_cons.mp hx with rfl | hx
      · exact h3
      · obtain rfl := List.mem_singleton.mp hx
        exact h4
    | ow a l d0 =>
      cases d0 with
      | nd t ds =>
        obtain rfl := List.mem_singleton.mp hx
        exact h.2.2.2.2.1
      | _ => cases hx
end
end PD
namespace PD
open PySem PySem.Spec PyProof.Rows L2
def wpO {α : Type} (o : Option α) (Q : α → Prop) : Prop := match o with
  | some d => Q d
  | none => False
theorem wpO_of {α : Type} {o : Option α} {Q : α → Prop} (h : wpO o Q) : ∃ x, o = some x ∧ Q x := by
  unfold wpO at h
  split at h
  · exact ⟨_, rfl, h⟩
  · exact h.elim
def rdS (i : Nat) (st : LS) : Option (D × LS) := match st[i]? with
  | some (.fz d) => some (d, st)
  | some (.ow _ true d) => some (d, st.set i (.fz d))
  | some (.on _ j d _) => if j < 1000 then some (d, st.set i (.fz d)) else none
  | _ => none
def sD (r : S) : Option D := match r with
  | .fz d => some d
  | .ow _ _ d => some d
  | .on _ j d _ => if j < 1000 then some d else none
  | _ => none
def dVar (i : Nat) (_u0 : DX) (st : LS) (Q : D → LS → Prop) : Prop := wpO (rdS i st) fun p => Q p.1 p.2
def dC (d : D) (_u0 : DX) (st : LS) (Q : D → LS → Prop) : Prop := Q d st
def dFz (g : DO) (Ex : DX) (st : LS) (Q : D → LS → Prop) : Prop := g Ex st fun r st' => wpO (sD r) fun d => Q d st'
def dRes (g : DE) (Ex : DX) (st : LS) (Q : S → LS → Prop) : Prop := g Ex st fun d st' => Q (.fz d) st'
def qBl : D → Option Bool
  | .bl b => some b
  | _ => none
def dTst (g : DE) (Ex : DX) (st : LS) (Q : Bool → LS → Prop) : Prop := g Ex st fun d st' => wpO (qBl d) fun b => Q b st'
abbrev F1 := D → (D → Prop) → Prop
abbrev F2 := D → D → (D → Prop) → Prop
abbrev FL := List D → (D → Prop) → Prop
def dOp (f : F2) (ga gb : DE) (Ex : DX) (st : LS) (Q : D → LS → Prop) : Prop := ga Ex st fun x st1 => gb Ex st1 fun y st2 => f x y fun d => Q d st2
def dUn (f : F1) (ga : DE) (Ex : DX) (st : LS) (Q : D → LS → Prop) : Prop := ga Ex st fun x st1 => f x fun d => Q d st1
def dAnd (ga gb : DE) (Ex : DX) (st : LS) (Q : D → LS → Prop) : Prop := ga Ex st fun x st1 => wpO (qBl x) fun b => cond b (gb Ex st1 Q) (Q (.bl false) st1)
def dOr (ga gb : DE) (Ex : DX) (st : LS) (Q : D → LS → Prop) : Prop := ga Ex st fun x st1 => wpO (qBl x) fun b => cond b (Q (.bl true) st1) (gb Ex st1 Q)
def dNot (ga : DE) (Ex : DX) (st : LS) (Q : D → LS → Prop) : Prop := ga Ex st fun x st1 => wpO (qBl x) fun b => Q (.bl (!b)) st1
def dIf (gc : DT) (ga gb : DE) (Ex : DX) (st : LS) (Q : D → LS → Prop) : Prop := gc Ex st fun c st1 => cond c (ga Ex st1 Q) (gb Ex st1 Q)
def dAndT (ga gb : DT) (Ex : DX) (st : LS) (Q : Bool → LS → Prop) : Prop := ga Ex st fun c st1 => cond c (gb Ex st1 Q) (Q false st1)
def dOrT (ga gb : DT) (Ex : DX) (st : LS) (Q : Bool → LS → Prop) : Prop := ga Ex st fun c st1 => cond c (Q true st1) (gb Ex st1 Q)
def dNotT (ga : DT) (Ex : DX) (st : LS) (Q : Bool → LS → Prop) : Prop := ga Ex st fun c st1 => Q (!c) st1
def dANil (_u0 : DX) (st : LS) (Q : List D → LS → Prop) : Prop := Q [] st
def dACons (g : DE) (h : DA) (Ex : DX) (st : LS) (Q : List D → LS → Prop) : Prop := g Ex st fun d st1 => h Ex st1 fun ds st2 => Q (d :: ds) st2
def dTup (g : DA) (Ex : DX) (st : LS) (Q : D → LS → Prop) : Prop := g Ex st fun ds st1 => Q (.nd .tup ds) st1
def dLst (g : DA) (Ex : DX) (st : LS) (Q : S → LS → Prop) : Prop := g Ex st fun ds st1 => ∀ a, Q (.ow a true (.nd .lst ds)) st1
def dCB (f : FL) (g : DA) (Ex : DX) (st : LS) (Q : D → LS → Prop) : Prop := g Ex st fun ds st1 => f ds fun d => Q d st1
section
variable {X : Cx} {W : WX} {e a b c : Expr} {es : List Expr} {g ga gb : DE} {pos : Pos}
theorem I.give {K : PySem.W.Frag} {mg : Str → Option Value} {C : Cfg} {H0 H : Hp} {σ : L2.St} {st : LS} (hI : I K mg C H0 H σ st) {i : Nat} {a : Addr} {l : Bool} {d : D} (ed : st[i]? = some (.ow a l d)) :
    I K mg C H0 H σ (st.set i .un) ∧ Free (st.set i .un) a := by
  have hk : i < st.length := (List.getElem?_eq_some_iff.mp ed).1
  obtain ⟨t, ds, rfl⟩ := hI.owd ed
  refine ⟨⟨hI.same, hI.up, hI.keep, hI.low, hI.aa, by rw [List.length_set]; exact hI.len, fun k => ?_, sep_nil hI.sep rfl⟩, fun k s q hx => ?_⟩
  · rw [getElem?_set_st hk]
    by_cases q : k = i
    · rw [if_pos q]; trivial
    · rw [if_neg q]; exact hI.slots k
  · rw [getElem?_set_st hk] at q
    by_cases q1 : k = i
    · rw [if_pos q1] at q; cases q; cases hx
    · rw [if_neg q1] at q
      exact q1 (hI.sep _ _ _ _ q ed a hx (List.mem_singleton.mpr rfl))
theorem I.take {K : PySem.W.Frag} {mg : Str → Option Value} {C : Cfg} {H0 H : Hp} {σ : L2.St} {st : LS} (hI : I K mg C H0 H σ st) {i : Nat} {v : V} {d : D} (ev : σ[i]? = some (some v)) (r : Rep K mg H0 d v) : I K mg C H0 H σ (st.set i (.fz d)) := by
  refine ⟨hI.same, hI.up, hI.keep, hI.low, hI.aa, by rw [List.length_set]; exact hI.len, fun k => ?_, sep_nil hI.sep rfl⟩
  by_cases hk : i < st.length
  · rw [getElem?_set_st hk]
    by_cases q : k = i
    · rw [if_pos q]; subst q; exact ⟨v, ev, r⟩
    · rw [if_neg q]; exact hI.slots k
  · rw [List.set_eq_of_length_le (Nat.le_of_not_lt hk)]; exact hI.slots k
theorem I.giveOn {K : PySem.W.Frag} {mg : Str → Option Value} {C : Cfg} {H0 H : Hp} {σ : L2.St} {st : LS} (hI : I K mg C H0 H σ st) {i : Nat} {a p : Addr} {j : Nat} {ds : D} (ed : st[i]? = some (.on a j ds p)) :
    I K mg C H0 H σ (st.set i .un) ∧ Free (st.set i .un) a ∧ Free (st.set i .un) p := by
  have hk : i < st.length := (List.getElem?_eq_some_iff.mp ed).1
  have fr : ∀ x ∈ [a, p], Free (st.set i .un) x := fun x hm k s q hx => by
    rw [getElem?_set_st hk] at q
    by_cases q1 : k = i
    · rw [if_pos q1] at q; cases q; cases hx
    · rw [if_neg q1] at q
      exact q1 (hI.sep _ _ _ _ q ed x hx hm)
  refine ⟨⟨hI.same, hI.up, hI.keep, hI.low, hI.aa, by rw [List.length_set]; exact hI.len, fun k => ?_, sep_nil hI.sep rfl⟩, fr a (by simp), fr p (by simp)⟩
  rw [getElem?_set_st hk]
  by_cases q : k = i
  · rw [if_pos q]; trivial
  · rw [if_neg q]; exact hI.slots k
theorem ped_var {i : Nat} (h : PE X e (tVar i)) : PED X W e (dVar i) := by
  refine ⟨_, pe_lk h, fun C H0 H σ st Ex Q Qv hI hX hQ hg => ?_⟩
  obtain ⟨p, hp, hg⟩ := wpO_of hg
  unfold rdS at hp
  split at hp
  · rename_i d ed
    cases hp
    obtain ⟨v, h1, h2⟩ := hI.fz ed
    exact ⟨v, h1, .inl (hQ d st v H0 H hg hI (Same.refl _) h2)⟩
  · rename_i a d ed
    cases hp
    obtain ⟨t, ds, rfl⟩ := hI.owd ed
    obtain ⟨h1, h2, h3, h4, vs, h5, h6⟩ := hI.ow ed
    refine ⟨.ref a, h1, ?_⟩
    obtain ⟨i1, n1⟩ := hI.give ed
    refine i1.freezeAt h2 (h3 rfl) n1 h5 h6 fun H0' H' i2 s2 r2 => ?_
    have i3 := i2.take h1 r2
    rw [List.set_set] at i3
    exact hQ _ _ _ H0' H' hg i3 s2 r2
  · rename_i a j ds p ed
    split at hp
    case isFalse => cases hp
    rename_i hj
    cases hp
    obtain ⟨h1, h2, h3, h4⟩ := hI.on ed
    refine ⟨.ref a, h1, ?_⟩
    obtain ⟨i1, n1, n2⟩ := hI.giveOn ed
    refine i1.freezeOn h2 h3 n1 n2 h4 hj fun H0' H' i2 s2 r2 => ?_
    have i3 := i2.take h1 r2
    rw [List.set_set] at i3
    exact hQ _ _ _ H0' H' hg i3 s2 r2
  · cases hp
theorem ped_c {d : D} {v : V} (h : PE X e (tC v)) (r : ∀ H, Rep X.K X.mg H d v) : PED X W e (dC d) :=
  ⟨_, h, fun C H0 H σ st Ex Q Qv hI hX hQ hg => hQ d st v H0 H hg hI (Same.refl _) (r _)⟩
theorem ped_int {i : Int} {j pos} : PED X W (.Constant (.int i) j pos) (dC (.int i)) := ped_c pe_int fun _ => rep_int
theorem ped_bl {i : Bool} {j pos} : PED X W (.Constant (.bool i) j pos) (dC (.bl i)) := ped_c pe_bl fun _ => rep_bl
theorem ped_str {i : Str} {j pos} : PED X W (.Constant (.str i) j pos) (dC (.str i)) := ped_c pe_str fun _ => rep_str
theorem ped_non {j pos} : PED X W (.Constant .none j pos) (dC .non) := ped_c pe_non fun _ => rep_non
theorem ped_fz {g : DO} (h : POD X W e g) : PED X W e (dFz g) := by
  obtain ⟨t, ht, hr⟩ := h.ex
  refine ⟨_, pe_lk ht, fun C H0 H σ st Ex Q Qv hI hX hQ hg => hr C H0 H σ st Ex _ _ hI hX ?_ hg⟩
  intro r st' v H0' H' q i' s' rr
  obtain ⟨d0, e0, q⟩ := wpO_of q
  have nt : isTb r = false := by
    cases r with
    | on a j d p =>
      unfold sD at e0
      dsimp only at e0
      split at e0
      · rename_i hj
        show (!decide (j < 1000)) = false
        rw [decide_eq_true hj]; rfl
      · cases e0
    | _ => rfl
  refine RepR.dk i' rr nt fun d H2 H3 hd i2 s2 r2 => ?_
  have ed : d0 = d := by
    rcases hd with rfl | ⟨a, rfl⟩ | ⟨a, j, ds, p, rfl, rfl⟩
    · cases e0; rfl
    · cases e0; rfl
    · unfold sD at e0
      dsimp only at e0
      split at e0
      · cases e0; rfl
      · cases e0
  subst ed
  exact hQ d0 st' v H2 H3 q i2 (s'.trans s2) r2
theorem pod_d (h : PED X W e g) : POD X W e (dRes g) := by
  obtain ⟨t, ht, hr⟩ := h.ex
  exact ⟨t, ht, fun C H0 H σ st Ex Q Qv hI hX hQ hg => hr C H0 H σ st Ex _ Qv hI hX (fun d st' v H0' H' q i' s' rr => hQ (.fz d) st' v H0' H' q i' s' rr) hg⟩
theorem ptd_val (h : PED X W e g) (he : ∀ whole, isTrue e X.env whole = (do let v ← whole; standAt e.pos; holding [v] (truthy v)) := by intro _; rfl) : PTD X W e (dTst g) := by
  obtain ⟨t, ht, hr⟩ := h.ex
  refine ⟨_, pt_val ht he, fun C H0 H σ st Ex Q Qv hI hX hQ hg => hr C H0 H σ st Ex _ _ hI hX (fun d st' v H0' H' q i' s' rr => ?_) hg⟩
  cases d with
  | bl b => exact ⟨b, rr.bl, hQ b st' H0' H' q i' s'⟩
  | _ => exact q.elim
def OpD (X : Cx) (F : Value → Value → Sem Value) (f : F2) : Prop := ∃ r, OpR X F r ∧ ∀ (H0 H : Hp) (x y : D) (v u : V) (Q : D → Prop) (Qv : VK), Same H0 H → Rep X.K X.mg H0 x v → Rep X.K X.mg H0 y u → f x y Q →
  (∀ d w, Q d → Rep X.K X.mg H0 d w → Qv w H) → r v u H Qv
def IxD (X : Cx) (f : F2) : Prop := ∃ r, IxR X r ∧ ∀ (H0 H : Hp) (x y : D) (v u : V) (Q : D → Prop) (Qv : VK), Same H0 H → Rep X.K X.mg H0 x v → Rep X.K X.mg H0 y u → f x y Q →
  (∀ d w, Q d → Rep X.K X.mg H0 d w → Qv w H) → r v u H Qv
def CallD (X : Cx) (F : Value) (f : FL) : Prop := ∃ r, CallR X F r ∧ ∀ (H0 H : Hp) (xs : List D) (vs : List V) (Q : D → Prop) (Qv : VK), Same H0 H → RepL X.K X.mg H0 xs vs → f xs Q →
  (∀ d w, Q d → Rep X.K X.mg H0 d w → Qv w H) → r vs H Qv
theorem ped_one {op} (h : PED X W a g) : PED X W (.BoolOp op [a] pos) g := by
  obtain ⟨t, p, q⟩ := h.ex
  exact ⟨_, pe_one p, q⟩
theorem ped_and {rest : List Expr} (ha : PED X W a ga) (hb : PED X W (.BoolOp .And (b :: rest) pos) gb) : PED X W (.BoolOp .And (a :: b :: rest) pos) (dAnd ga gb) := by
  obtain ⟨ta, pa, qa⟩ := ha.ex
  obtain ⟨tb, pb, qb⟩ := hb.ex
  refine ⟨_, pe_and pa pb, fun C H0 H σ st Ex Q Qv hI hX hQ hg => qa C H0 H σ st Ex _ _ hI hX (fun x st1 v H1 K1 q1 i1 s1 r1 => ?_) hg⟩
  cases x with
  | bl k =>
    refine ⟨k, r1.bl, ?_⟩
    cases k with
    | true => exact iteT (qb C H1 K1 σ st1 Ex Q Qv i1 (hX.up s1) (fun d st2 w H2 K2 q2 i2 s2 r2 => hQ d st2 w H2 K2 q2 i2 (s1.trans s2) r2) q1)
    | false => exact iteF (hQ _ st1 _ H1 K1 q1 i1 s1 rep_bl)
  | _ => exact q1.elim
structure PWD (X : Cx) (W : WX) (e : Expr) (g : DT) : Prop where
  ex : ∃ t, PW X e t ∧ ∀ (C : Cfg) (H0 H : Hp) (σ : L2.St) (st : LS) (Ex : DX) (Q : Bool → LS → Prop) (Qv : Bool → Hp → Prop), I X.K X.mg C H0 H σ st → LkX X.K X.mg C H0 σ W Ex →
    (∀ d st' H0' H', Q d st' → I X.K X.mg C H0' H' σ st' → Same H0 H0' → Qv d H') → g Ex st Q → t σ H Qv
theorem PWD.pt {g : DT} (h : PWD X W e g) : PTD X W e g := by
  obtain ⟨t, p, q⟩ := h.ex
  exact ⟨_, p.pt, q⟩
theorem ptd_not {g : DT} (h : PTD X W a g) : PTD X W (.UnaryOp .Not a pos) (dNotT g) := by
  obtain ⟨t, p, q⟩ := h.ex
  exact ⟨_, pt_not p, fun C H0 H σ st Ex Q Qv hI hX hQ hg => q C H0 H σ st Ex _ _ hI hX (fun k st1 H1 K1 q1 i1 s1 => hQ (!k) st1 H1 K1 q1 i1 s1) hg⟩
theorem pad_nil : PAD X W [] dANil := ⟨_, pa_nil, fun C H0 H σ st Ex Q Qv hI hX hQ hg => hQ [] st [] H0 H hg hI (Same.refl _) repL_nil rfl⟩
theorem pad_cons {ha : DA} (h1 : PED X W e g) (h2 : PAD X W es ha) (hs : starEach (e :: es) X.env = (false, eval e X.env) :: starEach es X.env := by rfl) : PAD X W (e :: es) (dACons g ha) := by
  obtain ⟨ta, pa, qa⟩ := h1.ex
  obtain ⟨tb, pb, qb⟩ := h2.ex
  refine ⟨_, pa_cons pa pb hs, fun C H0 H σ st Ex Q Qv hI hX hQ hg => qa C H0 H σ st Ex _ _ hI hX (fun x st1 v H1 K1 q1 i1 s1 r1 => ?_) hg⟩
  refine qb C H1 K1 σ st1 Ex _ _ i1 (hX.up s1) (fun ds st2 vs H2 K2 q2 i2 s2 r2 el => ?_) q1
  exact hQ _ st2 _ H2 K2 q2 i2 (s1.trans s2) (repL_cons (Rep.mono s2 x v r1) r2) (by rw [List.length_cons, List.length_cons, el])
theorem ped_tup {ha : DA} {x1} (h : PAD X W es ha) (hz : es.length ≤ sizeLine := by show _ ≤ 16777216; decide) : PED X W (.Tuple es x1 pos) (dTup ha) := by
  obtain ⟨ta, pa, qa⟩ := h.ex
  refine ⟨_, pe_tup pa, fun C H0 H σ st Ex Q Qv hI hX hQ hg => qa C H0 H σ st Ex _ _ hI hX (fun ds st1 vs H1 K1 q1 i1 s1 r1 el => ?_) hg⟩
  refine ⟨by rw [r1.length, el]; exact hz, fun p hp => ?_⟩
  have hp0 := i1.same.free hp
  exact hQ _ st1 _ (upd H1 p (.tup vs)) _ q1 (i1.new hp) (s1.trans (same_upd hp0)) (rep_nd (SqT.of upd_same) (RepL.mono (same_upd hp0) ds vs r1))
theorem I.fresh {K : PySem.W.Frag} {mg : Str → Option Value} {C : Cfg} {H0 H : Hp} {σ : L2.St} {st : LS} (i : I K mg C H0 H σ st) {p : Addr} (hp : H p = none) :
    C.B p = none ∧ Free st p := by
  refine ⟨?_, i.free hp⟩
  cases q : C.B p with
  | none => rfl
  | some o =>
    by_cases ha : p ∈ C.A
    · obtain ⟨o', h⟩ := i.aa p ha
      rw [hp] at h; cases h
    · have h := i.keep p o q ha
      rw [hp] at h; cases h
theorem I.made {K : PySem.W.Frag} {mg : Str → Option Value} {C : Cfg} {H0 H : Hp} {σ : L2.St} {st : LS} (i : I K mg C H0 H σ st) {p : Addr} {o : HO} (hp : H p = none) {t : Tg} {ds : List D} {vs : List V}
    (hn : NodeM mg (upd H p o) t p vs) (hr : RepL K mg H0 ds vs) : I K mg C H0 (upd H p o) σ st ∧ RepR K mg C H0 (upd H p o) st (.ow p true (.nd t ds)) (.ref p) :=
  ⟨i.own hp, rfl, rfl, i.same.free hp, (i.fresh hp).1, (i.fresh hp).2, vs, hn, hr⟩
theorem pod_lst {ha : DA} (h : PAD X W es ha) (hz : es.length ≤ sizeLine := by show _ ≤ 16777216; decide) : POD X W (.List es pos) (dLst ha) := by
  obtain ⟨ta, pa, qa⟩ := h.ex
  refine ⟨_, pe_lst pa, fun C H0 H σ st Ex Q Qv hI hX hQ hg => qa C H0 H σ st Ex _ _ hI hX (fun ds st1 vs H1 K1 q1 i1 s1 r1 el => ?_) hg⟩
  refine ⟨by rw [r1.length, el]; exact hz, fun p hp => ?_⟩
  obtain ⟨i2, r2⟩ := i1.made (o := .lst vs) (t := .lst) hp upd_same r1
  exact hQ _ st1 _ H1 _ (q1 p) i2 s1 r2
end
end PD
namespace PD
open PySem PySem.Spec PyProof.Rows L2
abbrev DG := D → LS → (LS → Prop) → Prop
abbrev DGs := List D → LS → (LS → Prop) → Prop
abbrev DI := DX → LS → (List D → LS → Prop) → Prop
def dNx (de : DEnds) (st : LS) : Prop := de.nx st
def dSeq (a b : DS) (de : DEnds) (st : LS) : Prop := a { de with nx := fun st1 => b de st1 } st
def dSet (i : Nat) (g : DO) (de : DEnds) (st : LS) : Prop := g de.ex st fun r st1 => de.nx (st1.set i r)
def dPar (i j : Nat) (ga gb : DE) (de : DEnds) (st : LS) : Prop := ga de.ex st fun x st1 => gb de.ex st1 fun y st2 => de.nx ((st2.set i (.fz x)).set j (.fz y))
def dAsg (g : DE) (t : DG) (de : DEnds) (st : LS) : Prop := g de.ex st fun d st1 => t d st1 de.nx
def dRet (g : DO) (de : DEnds) (st : LS) : Prop := g de.ex st de.rt
def dRetN (de : DEnds) (st : LS) : Prop := de.rt (.fz .non) st
def dIfS (c : DT) (a b : DS) (de : DEnds) (st : LS) : Prop := c de.ex st fun k st1 => cond k (a de st1) (b de st1)
def dDrop (g : DO) (de : DEnds) (st : LS) : Prop := g de.ex st fun _ st1 => de.nx st1
def dBk (de : DEnds) (st : LS) : Prop := de.bk st
def dCt (de : DEnds) (st : LS) : Prop := de.ct st
def dNo (_u0 : DEnds) (_u1 : LS) : Prop := False
def gdName (i : Nat) (d : D) (st : LS) (Q : LS → Prop) : Prop := Q (st.set i (.fz d))
def gdNil (ds : List D) (st : LS) (Q : LS → Prop) : Prop := match ds with
  | [] => Q st
  | _ => False
def gdCons (g : DG) (h : DGs) (ds : List D) (st : LS) (Q : LS → Prop) : Prop := match ds with
  | d :: r => g d st fun st1 => h r st1 Q
  | _ => False
def dForL (t : DG) (b : DS) : List D → DS
  | [], de, st => de.nx st
  | d :: r, de, st => t d st fun st1 => b { de with nx := fun s => dForL t b r de s, ct := fun s => dForL t b r de s, bk := de.nx } st1
def dFor (i : DI) (t : DG) (b : DS) (de : DEnds) (st : LS) : Prop := i de.ex st fun ds st1 => dForL t b ds de st1
def iota (lo : Int) (n : Nat) : List D := (List.range n).map fun (k : Nat) => D.int (lo + ((k : Nat) : Int))
structure PGD (X : Cx) (e : Expr) (g : DG) : Prop where
  ex : ∃ t, PG X e t ∧ ∀ (C : Cfg) (H0 H : Hp) (σ : L2.St) (st : LS) (d : D) (v : V) (Q : LS → Prop) (Qv : L2.St → Hp → Prop), I X.K X.mg C H0 H σ st → Rep X.K X.mg H0 d v →
    (∀ st' σ' H0' H', Q st' → I X.K X.mg C H0' H' σ' st' → Same H0 H0' → Qv σ' H') → g d st Q → t v σ H Qv
structure PGsD (X : Cx) (es : List Expr) (g : DGs) : Prop where
  ex : ∃ t, PGs X es t ∧ ∀ (C : Cfg) (H0 H : Hp) (σ : L2.St) (st : LS) (ds : List D) (vs : List V) (Q : LS → Prop) (Qv : L2.St → Hp → Prop), I X.K X.mg C H0 H σ st → RepL X.K X.mg H0 ds vs →
    (∀ st' σ' H0' H', Q st' → I X.K X.mg C H0' H' σ' st' → Same H0 H0' → Qv σ' H') → g ds st Q → t vs σ H Qv
structure ItOk (K : PySem.W.Frag) (mg : Str → Option Value) (J : It) (H0 : Hp) (ds : List D) : Prop where
  go : ∀ i H, Same H0 H → i < ds.length → J.go i H
  stop : ∀ H, Same H0 H → J.stop ds.length H
  yld : ∀ (C : Cfg) i H1 H x H' σ st, Same H0 H1 → i < ds.length → I K mg C H1 H σ st → J.yld i H x H' → ∃ H2 d, ds[i]? = some d ∧ Same H1 H2 ∧ I K mg C H2 H' σ st ∧ Rep K mg H2 d x
structure PID (X : Cx) (W : WX) (tg e : Expr) (g : DI) : Prop where
  ex : ∃ wi, PI X tg e wi ∧ ∀ (C : Cfg) (H0 H : Hp) (σ : L2.St) (st : LS) (Ex : DX) (Q : List D → LS → Prop) (R : It → Hp → Prop), I X.K X.mg C H0 H σ st → LkX X.K X.mg C H0 σ W Ex →
    (∀ ds st' J H0' H', Q ds st' → I X.K X.mg C H0' H' σ st' → Same H0 H0' → ItOk X.K X.mg J H0' ds → R J H') → g Ex st Q → wi σ H R
section
variable {X : Cx} {W : WX} {e a b c : Expr} {es : List Expr} {s : Stmt} {ss sa sb : List Stmt} {pos : Pos} {g : DE} {o : DO}
theorem PSsD.imp {g g' : DS} (h : PSsD X W ss g) (k : ∀ de st, g' de st → g de st) : PSsD X W ss g' := by
  obtain ⟨t, p, q⟩ := h.ex
  exact ⟨t, p, fun C H0 H σ st de Dn hI hL hg => q C H0 H σ st de Dn hI hL (k de st hg)⟩
theorem pssd_nil : PSsD X W [] dNx := ⟨_, pss_nil, fun C H0 H σ st de Dn hI hL hg => hL.nx st σ H0 H hg hI (Same.refl _)⟩
theorem pssd_cons {ga gb : DS} (h1 : PSD X W s ga) (h2 : PSsD X W ss gb) : PSsD X W (s :: ss) (dSeq ga gb) := by
  obtain ⟨ta, pa, qa⟩ := h1.ex
  obtain ⟨tb, pb, qb⟩ := h2.ex
  refine ⟨_, pss_cons pa pb, fun C H0 H σ st de Dn hI hL hg => qa C H0 H σ st { de with nx := fun st1 => gb de st1 } _ hI ⟨fun st' σ' H1 K1 q i1 s1 => ?_, hL.bk, hL.ct, hL.rt, hL.ex⟩ hg⟩
  exact qb C H1 K1 σ' st' de Dn i1 (hL.up s1) q
theorem pssd_one {ga : DS} (h1 : PSD X W s ga) : PSsD X W [s] ga := by
  obtain ⟨ta, pa, qa⟩ := h1.ex
  exact ⟨_, pss_one pa, qa⟩
theorem psd_set {i : Nat} {x : Str} {pos' : Pos} (hN : X.N.Nodup) (hi : X.N[i]? = some x) (hx : Loc X.env.scope x) (h : POD X W e o) (hs : swapsWith e (some (.Name x pos')) pos.line X.env = pure false := by rfl)
    (hf : X.fn x = true ∨ X.env.scope.names.lookup x = some .local := by first | exact .inl rfl | exact .inr rfl | assumption) : PSD X W (.Assign [.Name x pos'] e pos) (dSet i o) := by
  obtain ⟨t, p, q⟩ := h.ex
  refine ⟨_, ps_set (i := i) hN hi hx p hs hf, fun C H0 H σ st de Dn hI hL hg => ?_⟩
  refine q C H0 H σ st de.ex _ _ hI (hL.xp σ) (fun r st1 v H1 K1 q1 i1 s1 r1 => ?_) hg
  exact hL.nx _ _ H1 K1 q1 (i1.set r1) s1
theorem psd_ret (h : POD X W e o) : PSD X W (.Return (some e) pos) (dRet o) := by
  obtain ⟨t, p, q⟩ := h.ex
  exact ⟨_, ps_ret p, fun C H0 H σ st de Dn hI hL hg => q C H0 H σ st de.ex _ _ hI (hL.xp σ) (fun r st1 v H1 K1 q1 i1 s1 r1 => hL.rt r st1 v σ H1 K1 q1 i1 s1 r1) hg⟩
theorem psd_if {gc : DT} {ga gb : DS} (hc : PTD X W c gc) (ha : PSsD X W sa ga) (hb : PSsD X W sb gb) : PSD X W (.If c sa sb pos) (dIfS gc ga gb) := by
  obtain ⟨tc, pc, qc⟩ := hc.ex
  obtain ⟨ta, pa, qa⟩ := ha.ex
  obtain ⟨tb, pb, qb⟩ := hb.ex
  refine ⟨_, ps_if pc pa pb, fun C H0 H σ st de Dn hI hL hg => qc C H0 H σ st de.ex _ _ hI (hL.xp σ) (fun k st1 H1 K1 q1 i1 s1 => ?_) hg⟩
  cases k with
  | true => exact iteT (qa C H1 K1 σ st1 de Dn i1 (hL.up s1) q1)
  | false => exact iteF (qb C H1 K1 σ st1 de Dn i1 (hL.up s1) q1)
theorem pgd_name {i : Nat} {x : Str} (hN : X.N.Nodup) (hi : X.N[i]? = some x) (hx : Loc X.env.scope x) (hf : X.fn x = true ∨ X.env.scope.names.lookup x = some .local := by first | exact .inl rfl | exact .inr rfl | assumption) : PGD X (.Name x pos) (gdName i) :=
  ⟨_, pg_name hN hi hx hf, fun C H0 H σ st d v Q Qv hI hr hQ hg => hQ _ _ H0 H hg (hI.set (r := .fz d) hr) (Same.refl _)⟩
theorem pgsd_nil : PGsD X [] gdNil := by
  refine ⟨_, pgs_nil, fun C H0 H σ st ds vs Q Qv hI hr hQ hg => ?_⟩
  cases ds with
  | nil => exact ⟨hr.nil, hQ st σ H0 H hg hI (Same.refl _)⟩
  | cons d r => exact hg.elim
theorem pgsd_cons {ga : DG} {gb : DGs} (h1 : PGD X e ga) (h2 : PGsD X es gb) (hs : (assignEach (e :: es) X.env).map (·.2) = assign e X.env :: (assignEach es X.env).map (·.2) := by rfl) : PGsD X (e :: es) (gdCons ga gb) := by
  obtain ⟨ta, pa, qa⟩ := h1.ex
  obtain ⟨tb, pb, qb⟩ := h2.ex
  refine ⟨_, pgs_cons pa pb hs, fun C H0 H σ st ds vs Q Qv hI hr hQ hg => ?_⟩
  cases ds with
  | nil => exact hg.elim
  | cons d r =>
    obtain ⟨v, w, rfl, h3, h4⟩ := hr.cons
    exact ⟨v, w, rfl, qa C H0 H σ st d v _ _ hI h3 (fun st' σ' H1 K1 q1 i1 s1 => qb C H1 K1 σ' st' r w Q Qv i1 (RepL.mono s1 r w h4) (fun st2 σ2 H2 K2 q2 i2 s2 => hQ st2 σ2 H2 K2 q2 i2 (s1.trans s2)) q1) hg⟩
theorem ItOk.up {K : PySem.W.Frag} {mg : Str → Option Value} {J : It} {H0 H1 : Hp} {ds : List D} (h : ItOk K mg J H0 ds) (s : Same H0 H1) : ItOk K mg J H1 ds :=
  ⟨fun i H q => h.go i H (s.trans q), fun H q => h.stop H (s.trans q), fun C i H2 H x H' σ st q => h.yld C i H2 H x H' σ st (s.trans q)⟩
theorem psd_for {tg iter : Expr} {body : List Stmt} {gi : DI} {t : DG} {gb : DS} (hp : PassesOwn (model X.prog X.w) X.A X.env X.xe) (hc : X.calm = true) (hi : PID X W tg iter gi) (hg : PGD X tg t) (hb : PSsD X W body gb)
    (hs : ∀ x, foldedSetIterable iter X.env x = pure x := by intro _; rfl) : PSD X W (.For tg iter body [] pos) (dFor gi t gb) := by
  obtain ⟨wi, pi, qi⟩ := hi.ex
  obtain ⟨tt, pt, qt⟩ := hg.ex
  obtain ⟨tb, pb, qb⟩ := hb.ex
  refine ⟨_, ps_for hp hc pi pt pb hs, fun C H0 H σ st de Dn hI hL hg => qi C H0 H σ st de.ex _ _ hI (hL.xp σ) (fun ds st1 J H1 K1 q1 i1 s1 j1 => ?_) hg⟩
  refine ⟨fun i m σ' H' => m = ds.length - i ∧ i ≤ ds.length ∧ ∃ H2 st2, I X.K X.mg C H2 H' σ' st2 ∧ Same H1 H2 ∧ dForL t gb (ds.drop i) de st2, ⟨ds.length, by simp, Nat.zero_le _, H1, st1, i1, Same.refl _, by simpa using q1⟩, ?_⟩
  rintro i m σ' H' ⟨rfl, hle, H2, st2, i2, s2, q2⟩
  by_cases hlt : i < ds.length
  · refine .inr ⟨j1.go i H' (s2.trans i2.same) hlt, fun σ3 H3 => ∃ H4 st4, I X.K X.mg C H4 H3 σ3 st4 ∧ Same H1 H4 ∧ dForL t gb (ds.drop (i + 1)) de st4, fun σ3 H3 ⟨H4, st4, i4, s4, q4⟩ => ⟨ds.length - (i + 1), by omega, rfl, hlt, H4, st4, i4, s4, q4⟩, fun x H3 y => ?_⟩
    obtain ⟨H4, d, hd, s4, i4, r4⟩ := j1.yld C i H2 H' x H3 σ' st2 s2 hlt i2 y
    have ed : ds.drop i = d :: ds.drop (i + 1) := by
      obtain ⟨hk, e⟩ := List.getElem?_eq_some_iff.mp hd
      rw [List.drop_eq_getElem_cons hk, e]
    rw [ed] at q2
    refine qt C H4 H3 σ' st2 d x _ _ i4 r4 (fun st5 σ5 H5 K5 q5 i5 s5 => ?_) q2
    have again : ∀ st6 σ6 H6 K6, dForL t gb (ds.drop (i + 1)) de st6 → I X.K X.mg C H6 K6 σ6 st6 → Same H5 H6 → ∃ H4 st4, I X.K X.mg C H4 K6 σ6 st4 ∧ Same H1 H4 ∧ dForL t gb (ds.drop (i + 1)) de st4 :=
      fun st6 σ6 H6 K6 q6 i6 s6 => ⟨H6, st6, i6, s2.trans (s4.trans (s5.trans s6)), q6⟩
    have up : Same H0 H5 := s1.trans (s2.trans (s4.trans s5))
    refine qb C H5 K5 σ5 st5 { de with nx := fun s => dForL t gb (ds.drop (i + 1)) de s, ct := fun s => dForL t gb (ds.drop (i + 1)) de s, bk := de.nx } _ i5 ⟨again, fun st6 σ6 H6 K6 q6 i6 s6 => hL.nx st6 σ6 H6 K6 q6 i6 (up.trans s6), again, fun r st6 v σ6 H6 K6 q6 i6 s6 => hL.rt r st6 v σ6 H6 K6 q6 i6 (up.trans s6), fun er st6 σ6 H6 K6 cls dd q6 i6 s6 => hL.ex er st6 σ6 H6 K6 cls dd q6 i6 (up.trans s6)⟩ q5
  · have e : i = ds.length := by omega
    subst e
    rw [List.drop_length] at q2
    exact .inl ⟨j1.stop H' (s2.trans i2.same), hL.nx st2 σ' H2 H' q2 i2 (s1.trans s2)⟩
theorem iota_get {lo : Int} {n i : Nat} (h : i < n) : (iota lo n)[i]? = some (D.int (lo + (i : Int))) := by
  unfold iota
  rw [List.getElem?_map, List.getElem?_range h]
  rfl
theorem iota_len (lo : Int) (n : Nat) : (iota lo n).length = n := by unfold iota; simp
theorem it_rng {K : PySem.W.Frag} {mg : Str → Option Value} (lo : Int) (n : Nat) (H0 : Hp) : ItOk K mg (Itr lo n) H0 (iota lo n) := by
  refine ⟨fun i H _ h => by rw [iota_len] at h; exact h, fun H _ => by rw [iota_len]; exact Nat.le_refl n, fun C i H1 H x H' σ st s h hI y => ?_⟩
  rw [iota_len] at h
  obtain ⟨rfl, rfl⟩ := y
  exact ⟨H1, _, iota_get h, Same.refl _, hI, rep_int⟩
theorem it_lst {K : PySem.W.Frag} {mg : Str → Option Value} {a : Addr} {xs : List V} {H0 : Hp} {ds : List D} (h : SqL K H0 a xs) (r : RepL K mg H0 ds xs) : ItOk K mg (Itl K a) H0 ds := by
  have el := r.length
  refine ⟨fun i H s h' => ?_, fun H s => ⟨xs, s.seq h, by omega⟩, fun C i H1 H x H' σ st s h' hI y => ?_⟩
  · have h2 : i < xs.length := by omega
    exact ⟨xs, xs[i], s.seq h, by simp [h2]⟩
  · obtain ⟨rfl, y⟩ := y
    have e := y xs ((s.trans hI.same).seq h)
    obtain ⟨d, h1, h2⟩ := r.getV e
    exact ⟨H1, d, h1, Same.refl _, hI, Rep.mono s d x h2⟩
theorem it_tup {K : PySem.W.Frag} {mg : Str → Option Value} {a : Addr} {xs : List V} {H0 : Hp} {ds : List D} (h : SqT K H0 a xs) (r : RepL K mg H0 ds xs) : ItOk K mg (Itt K a) H0 ds := by
  have el := r.length
  refine ⟨fun i H s h' => ?_, fun H s => ⟨xs, SqT.mono s h, by omega⟩, fun C i H1 H x H' σ st s h' hI y => ?_⟩
  · have h2 : i < xs.length := by omega
    exact ⟨xs, xs[i], SqT.mono s h, by simp [h2]⟩
  · obtain ⟨rfl, y⟩ := y
    have e := y xs (SqT.mono (s.trans hI.same) h)
    obtain ⟨d, h1, h2⟩ := r.getV e
    exact ⟨H1, d, h1, Same.refl _, hI, Rep.mono s d x h2⟩
end
end PD
namespace PD
open PySem PySem.Spec PyProof.Rows L2
structure RoomG (k : Nat) (A : Around) : Prop where
  r : Room k A
  gd : A.guards = some []
theorem RoomG.mono {j k : Nat} {A : Around} (h : RoomG k A) (l : j ≤ k) : RoomG j A := ⟨h.r.mono l, h.gd⟩
theorem RoomG.deeper {k : Nat} {A : Around} (h : RoomG (k + 1) A) (env : Env) : RoomG k (A.deeper env) := ⟨h.r.deeper env, h.gd⟩
structure FnG (P : Program) (w : World) (K : PySem.W.Frag) (mg : Str → Option Value) (base : Heap) (k : Nat) (f : Addr) (fd : FuncData) (ps : List Str) (sp : Sp) : Prop where
  len : ∀ (vs : List V) (G : Hp) (T : VK) (E : XK), sp vs G T E → vs.length = ps.length
  run : ∀ (A : Around) (outer : List Env) (u : Shared) (G : Hp) (args : Args) (us : List Value) (vs : List V) (T : VK) (E : XK), RoomG k A → Env0 P w K mg base A outer u G → BindsTo u fd args (ps.zip us) → Vals vs us → sp vs G T E →
    codeAny (model P w) A (.call (.ref f) args) (CR (L2.CX P w) outer P w G u T E) u
section
variable {P : Program} {w : World} {K : PySem.W.Frag} {mg : Str → Option Value} {base : Heap} {k : Nat} {f : Addr}
theorem FnG.imp {fd : FuncData} {ps : List Str} {sp sp' : Sp} (F : FnG P w K mg base k f fd ps sp) (h : ∀ vs G T E, sp' vs G T E → sp vs G T E) : FnG P w K mg base k f fd ps sp' where
  len vs G T E q := F.len vs G T E (h vs G T E q)
  run A o u G args us vs T E room env bd r q := F.run A o u G args us vs T E room env bd r (h vs G T E q)
structure FunV (K : PySem.W.Frag) (x qual : Str) (st : Stmt) (f : Addr) (fd : FuncData) : Prop where
  ex : ∃ (cl df kd dc md cv ct : Value) (dd an : Option Addr) (sl : Array (Option Value)),
    fd = PySem.W.fnOf x qual (defArgs st) (defBody st) (defScope st) df kd dc md an cv ct ∧ K.lookup f = some { cls := cl, dict := dd, data := .func fd, slots := sl } ∧ PySem.W.codeIn K cv qual = true
  kp : PySem.W.keepIn K (Value.ref f) = true
theorem funv_mk {x qual : Str} {st : Stmt} {f : Addr} {oc : Value} {od an : Option Addr} {osl : Array (Option Value)} {dV kV doc pm cdv ct : Value}
    (l : K.lookup f = some ⟨oc, od, .func (PySem.W.fnOf x qual (defArgs st) (defBody st) (defScope st) dV kV doc pm an cdv ct), osl⟩) (c : PySem.W.codeIn K cdv qual = true) (k : PySem.W.keepIn K (.ref f) = true) :
    FunV K x qual st f (PySem.W.fnOf x qual (defArgs st) (defBody st) (defScope st) dV kV doc pm an cdv ct) := ⟨⟨oc, dV, kV, doc, pm, cdv, ct, od, an, osl, rfl, l, c⟩, k⟩
theorem Fun.okG {x qual : Str} {st : Stmt} {fd : FuncData} {N ps : List Str} {sp : Sp} (F : FunV K x qual st f fd) (S : FnScope N ps (defScope st)) (len : ∀ vs H Q E, sp vs H Q E → vs.length = ps.length)
    (hbody : ∀ (cdv : Value) (A : Around) (outer : List Env) (s : Shared) (H : Hp) (vs : List V) (Q : VK) (E : XK), RoomG k (A.deeper (envOfC qual (defScope st) s.heap.objs.size f cdv)) → sp vs H Q E →
      ∃ t, PSs (cxOf (L2.CX P w) P w K mg base N qual (defScope st) f cdv A outer s H E) (defBody st) t ∧ t { nx := fun _ H' => Q .non H', rt := Q } (start N vs) H) : FnG P w K mg base (k + 1) f fd ps sp where
  len := len
  run A outer u G args us vs T E room e0 bd r q := by
    obtain ⟨cl, df, kd, dc, md, cv, ct, dd, an, sl, rfl, at_, code⟩ := F.ex
    have old : ∀ b o, base.get? b = some o → u.heap.get? b = some o := fun b o z => (e0.bs b o z).1
    have KX := e0.mod.kin.keeps old
    have kinds : ∀ y ∈ ps.zip us, (defScope st).names.lookup y.1 = some .local ∨ ((defScope st).names.lookup y.1 = some .cell ∧ ((cellsFrom (u.heap.objs.size + 1) (defScope st).names []).lookup y.1).isSome = true) := fun y m =>
      (S.par y.1 (List.of_mem_zip (a := y.1) (b := y.2) m).1).imp id fun z => ⟨z, PySem.W.cellsFrom_some _ _ _ (.inl z)⟩
    apply codeAny_call_function room.r.depth (KX _ _ at_) rfl S.co S.gen rfl (PySem.W.codeRec_of KX code)
    refine bd _ _ _ _ (wpAny_newFunctionEnv_cells S.kind kinds ?_)
    rintro _ rfl u1 x
    obtain ⟨t, run, ends⟩ := hbody cv A outer u G vs T E (room.deeper _) q
    refine ⟨(e0.mod.nolimit.keeps old).keeps x.toInCall.keep, codeAny_func (wpAny_mono (run.run [] u1 (start N vs) G _ (inv_start S room.r.hd e0 (len _ _ _ _ q) r x) ends) ?_ fun _ _ z => z)⟩
    rintro (_ | _ | _ | y) u2 z
    · obtain ⟨_, G2, J, z⟩ := z; exact ⟨.non, G2, J.os, J.bare, J.base, J.hok, rfl, z⟩
    · exact z.elim fun _ z => z.elim fun _ z => z.2.elim
    · exact z.elim fun _ z => z.elim fun _ z => z.2.elim
    · obtain ⟨v, _, G2, J, rv, z⟩ := z; exact ⟨v, G2, J.os, J.bare, J.base, J.hok, rv, z⟩
end
section
variable {X : Cx} {k : Nat} {f C : Addr} {fd : FuncData} {ps : List Str} {sp : Sp} {E : L2.St → XK} {x : Str} {p pos : Pos} {e : Expr} {es : List Expr} {t : TA}
theorem run_G {pins : List (Addr × Obj)} {τ : L2.St} {G : Hp} {u : Shared} {T : VK} {us : List Value} {vs : List V} (F : FnG X.prog X.w X.K X.mg X.base k f fd ps sp) (hr : RoomG k X.A) (hb : Binds X.K fd ps []) (hx : PassesAt (L2.CX X.prog X.w) X τ (E τ))
    (J : Inv X pins τ G u) (r : Vals vs us) (q : sp vs G T (E τ)) : wpAny (model X.prog X.w) X.A (call (.ref f) us) (EP X pins τ T) X.xe u := by
  have bd := hb u us J.kIn (by rw [List.append_nil, ← r.length]; exact F.len _ _ _ _ q)
  rw [List.append_nil] at bd
  refine wpAny_call (codeAny_mono (F.run X.A X.stack u G ⟨us, []⟩ us vs T (E τ) hr J.env0 bd r q) ?_)
  rintro (er | _ | _ | _ | y) u2 z
  · exact hx pins G u er u2 J z
  · exact z.elim
  · exact z.elim
  · exact z.elim
  · exact J.after z
theorem pe_callG (F : FnG X.prog X.w X.K X.mg X.base k f fd ps sp) (hr : RoomG k X.A) (hg : Gl X x) (hm : X.mg x = some (.ref f)) (hk : PySem.W.keepIn X.K (.ref f) = true) (hb : Binds X.K fd ps []) (hx : ∀ σ, PassesAt (L2.CX X.prog X.w) X σ (E σ)) (ha : PA X (e :: es) t)
    (hdb : (x == ("__debug__" : Str)) = false := by decide) (he : starEach (e :: es) X.env = (false, eval e X.env) :: starEach es X.env := by rfl)
    (hpl : (backTo pos (starEach es X.env)).any (·.1) = false := by rfl) : PE X (.Call (.Name x p) (e :: es) [] pos) (tCallS sp E t) where
  run pins u τ G T J q := by
    apply wpAny_Call_Name_kw
    apply ld_glob J hg hm _ hdb
    apply PySem.W.callWith_K (h₀ := X.base) J.ok.mod.kin hk _ he hpl
    refine thn (ha.run pos pins u τ G _ J q) ?_
    rintro us u1 ⟨vs, G1, J1, r, q1⟩
    exact ⟨J1.kIn, run_G F hr hb (hx τ) J1 r q1⟩
end
theorem law_callG {P : Program} {w : World} {K : PySem.W.Frag} {mg mb : Str → Option Value} {k : Nat} {fa a : Addr} {fd : FuncData} {x : Str} {sp : Sp} {s : Shared} {vs : List Value} {ns : List Int}
    (KX : K.In s.heap) (hns : s.heap.Ns mainGlobals mg) (hb : s.heap.Ns builtinsNs mb) (hbb : ∀ x : Str, x ≠ "__name__" → mb x = bootBuiltins x) (hlim : s.heap.NoLimit) (hg : s.gens = #[])
    (ha : s.heap.get? a = some { cls := .type "list", data := .seq vs.toArray }) (hi : IntsAre vs ns) (hl : ns.length ≤ sizeLine) (hr : Room k callerA)
    (F : ∀ base : Heap, K.In base → base.Ns mainGlobals mg → FnG P w K mg base k fa fd [x] sp) (hbind : ∀ (s : Shared) (u : Value), BindsTo s fd ⟨[u], []⟩ [(x, u)])
    (hsp : ∀ H : Hp, Only H → SqL K H a (ns.map V.int) → sp [.ref a] H (fun v _ => v = .bl true) fun _ _ _ => False) :
    codeAny (model P w) callerA (.call (.ref fa) ⟨[.ref a], []⟩) (fun r s' => r = .ok (.ret (.bool true)) ∧ OldK s.heap s'.heap ∧ s'.os = s.os ∧ AllBare s'.gens) s := by
  have rv := vals_ints hi
  have core : ∀ H : Hp, Only H → SqL K H a (ns.map V.int) → HOk P w H s.heap → (∀ b, H b ≠ none → b = a) → (H a ≠ none → K.lookup a = none) →
      codeAny (model P w) callerA (.call (.ref fa) ⟨[.ref a], []⟩) (fun r s' => r = .ok (.ret (.bool true)) ∧ OldK s.heap s'.heap ∧ s'.os = s.os ∧ AllBare s'.gens) s := by
    intro H hO hS hok hA hK
    have nsK : ∀ {b : Addr} {m : Str → Option Value}, s.heap.Ns b m → (hidT s.heap H).Ns b m := by
      rintro b m ⟨o, es, ep, e, d, r⟩
      refine ⟨o, es, ep, hidT_get e ?_, d, r⟩
      rcases q : H b with _ | u
      · rfl
      · have e' : b = a := hA b (by rw [q]; simp)
        subst e'
        rw [ha] at e; cases e
        cases (show Data.seq vs.toArray _ = Data.dict es ep from d)
    have hKb : K.In (hidT s.heap H) := by
      intro b o e
      refine hidT_get (KX b o e) ?_
      rcases q : H b with _ | u
      · rfl
      · have e' : b = a := hA b (by rw [q]; simp)
        subst e'
        cases (hK (by rw [q]; simp)).symm.trans e
    have e0 : Env0 P w K mg (hidT s.heap H) callerA [] s H :=
      ⟨rfl, ⟨hKb, nsK hns, ⟨mb, nsK hb, hbb⟩, let ⟨mc, h1, h2⟩ := hlim; ⟨mc, nsK h1, h2⟩⟩, fun b o e => of_hidT e, Nat.le_of_eq (hidT_size _ _), trivial, fun b hb => absurd (show b ∈ ([] : List Addr) from hb) (by simp), hok, .of_eq hg⟩
    refine codeAny_mono ((F _ hKb (nsK hns)).run callerA [] s H ⟨[.ref a], []⟩ [.ref a] [.ref a] _ _ ⟨hr, rfl⟩ e0 (hbind s (.ref a)) (.cons rfl .nil) (hsp H hO hS)) fun r s' h => ?_
    rcases r with e | _ | _ | _ | u
    · obtain ⟨_, _, _, _, _, _, _, _, _, _, _, _, z⟩ := h
      exact z.elim
    · exact h.elim
    · exact h.elim
    · exact h.elim
    · obtain ⟨v, H', os, bare, un, hok', r', q⟩ := h
      obtain rfl : v = .bl true := q
      cases (show u = Value.bool true from r')
      refine ⟨rfl, .of_keep fun b o e => ?_, os, bare⟩
      rcases q : H b with _ | u
      · exact un.keep b o e q (fun z => absurd (show b ∈ ([] : List Addr) from z) (by simp)) (by simp)
      · rcases hO b with z | ⟨ob, xs, z⟩
        · rw [q] at z; cases z
        · have e1 := (hok b _ z).1
          have e2 := (hok' b _ (un.frzs b ob _ z)).1
          rw [e] at e1; cases e1
          exact e2
  rcases hk : K.lookup a with _ | o
  · have ie : ∀ {b : Addr} {u : HO}, (if b = a then some (HO.frz { cls := .type "list", data := .seq vs.toArray } (.lst (ns.map V.int))) else none) = some u → b = a := fun {b u} z => by
      by_cases hb : b = a
      · exact hb
      · rw [if_neg hb] at z; cases z
    refine core (fun b => if b = a then some (.frz { cls := .type "list", data := .seq vs.toArray } (.lst (ns.map V.int))) else none) (fun b => ?_) (.inl (.inr ⟨_, if_pos rfl⟩)) (fun b u z => ?_) (fun b z => ?_) fun _ => hk
    · rcases Decidable.em (b = a) with z | z
      · exact Or.inr ⟨_, _, if_pos z⟩
      · exact Or.inl (if_neg z)
    · have hb := ie z
      subst hb
      cases (if_pos rfl).symm.trans z
      exact ⟨ha, (List.length_map (f := V.int) (as := ns)).symm ▸ hl, vs, _, rv, ha⟩
    · by_cases hb : b = a
      · exact hb
      · exact absurd (if_neg hb) z
  · have e := KX a o hk
    rw [ha] at e
    cases e
    exact core (fun _ => none) (fun _ => .inl rfl) (.inr ⟨_, vs.toArray, _, hk, rfl, rfl, rfl, by rw [List.size_toArray, hi.length]; exact hl, by simpa using rv⟩) (fun b u z => by cases (show (none : Option HO) = some u from z)) (fun b z => absurd rfl z) fun z => absurd rfl z
theorem walk_ofG {l : PySem.W.OpenLaw} {n k : Nat} {q : Program} {loose : List Str} {XP : (Str → Option Value) → Heap → Prop} {YP : World → Heap → Prop} {d : DefRec} {K : Params → PySem.W.Frag} {sp : World → Sp} {x : Str} (hn : l.most = some n) (hn2 : n ≤ sizeLine)
    (hdf : d.params.defaults = []) (hr : Room k callerA) (hY : ∀ (w : World) (h : Heap), YP w h → (K w.params).In h)
    (F : ∀ (w : World) (mg : Str → Option Value) (fa : Addr) (h : Heap), (K w.params).In h → h.Ns mainGlobals mg → mg d.name = some (.ref fa) → ∃ fd : FuncData, (∀ (s : Shared) (u : Value), BindsTo s fd ⟨[u], []⟩ [(x, u)]) ∧
        ∀ base : Heap, (K w.params).In base → base.Ns mainGlobals mg → FnG l.prog w (K w.params) mg base k fa fd [x] (sp w))
    (hsp : ∀ (w : World) (H : Hp) (a : Addr) (ns : List Int), ns.length ≤ n → Only H → SqL (K w.params) H a (ns.map V.int) → sp w [.ref a] H (fun v _ => v = .bl true) fun _ _ _ => False) :
    PySem.W.WalkO q loose XP YP l.row.toRowW d [] fun fn us => PySem.call fn us := by
  apply Att.attach_call hn hdf
  intro w _ _ mg _ fa _ _ _ _ a _ ns G Y _ _ _ at_ obj ints_ len gens
  have KX := hY w _ Y
  obtain ⟨_, bd, H⟩ := F w mg fa _ KX G.T.g at_
  exact law_callG KX G.T.g G.T.b G.T.builtins G.T.nolimit gens obj ints_ (Nat.le_trans len hn2) hr H bd fun G' hO hS => hsp w G' a ns len hO hS
end PD
namespace PD
open PySem PySem.Spec PyProof.Rows L2
abbrev SpA := List D → (DErr → Prop) → (S → Prop) → Prop
abbrev SpB := D → List D → (DErr → D → Prop) → (S → D → Prop) → Prop
structure Aft (H0 H : Hp) (as : List Addr) (H0' H' : Hp) : Prop where
  s0 : Same H0 H0'
  s1 : Same H0' H'
  keep : ∀ b o, H b = some o → b ∉ as → H' b = some o
  low : ∀ b o, H b = some o → H0 b = none → H0' b = none
section
variable (K : PySem.W.Frag) (mg : Str → Option Value)
def RepT (H H0' H' : Hp) : S → V → Prop
  | .fz d, v => Rep K mg H0' d v
  | .ow a l (.nd t ds), v => v = .ref a ∧ l = true ∧ H0' a = none ∧ H a = none ∧ ∃ vs, NodeM mg H' t a vs ∧ RepL K mg H0' ds vs
  | .on a j ds p, v => v = .ref a ∧ H a = none ∧ H p = none ∧ OnR K mg H0' H' a j ds p
  | _, _ => False
def toA (n : Nat) (φ : SpA) : Sp := fun vs H Q E => vs.length = n ∧ ∃ H0 ds Ex' Q', Same H0 H ∧ RepL K mg H0 ds vs ∧ φ ds Ex' Q' ∧
  (∀ e H0' H' cls d, Ex' e → Aft H0 H [] H0' H' → RepE K mg H0' e cls d → E cls d H') ∧
  (∀ r v H0' H', Q' r → Aft H0 H [] H0' H' → RepT K mg H H0' H' r v → Q v H')
def toB (n : Nat) (φ : SpB) : Sp := fun vs H Q E => vs.length = n ∧ ∃ H0 a t es us ws ds Ex' Q', vs = .ref a :: ws ∧ Same H0 H ∧ H0 a = none ∧ NodeM mg H t a us ∧ RepL K mg H0 es us ∧ RepL K mg H0 ds ws ∧ φ (.nd t es) ds Ex' Q' ∧
  (∀ e t' es' us' H0' H' cls d, Ex' e (.nd t' es') → Aft H0 H [a] H0' H' → NodeM mg H' t' a us' → RepL K mg H0' es' us' → RepE K mg H0' e cls d → E cls d H') ∧
  (∀ r t' es' us' v H0' H', Q' r (.nd t' es') → Aft H0 H [a] H0' H' → NodeM mg H' t' a us' → RepL K mg H0' es' us' → RepT K mg H H0' H' r v → Q v H')
end
def startA (n : Nat) (ds : List D) : LS := ds.map S.fz ++ List.replicate (n - ds.length) S.un
def endsA (Ex : DErr → Prop) (Q : S → Prop) : DEnds := ⟨fun _ => Q (.fz .non), fun r _ => Q r, fun _ => False, fun _ => False, fun e _ => Ex e⟩
def backB (a : Addr) (st : LS) (Q : D → Prop) : Prop := match st[(0 : Nat)]? with
  | some (S.ow a' _ d) => a' = a ∧ Q d
  | _ => False
def startB (n : Nat) (a : Addr) (d : D) (ds : List D) : LS := .ow a false d :: (ds.map S.fz ++ List.replicate (n - ds.length - 1) S.un)
def endsB (a : Addr) (Ex : DErr → D → Prop) (Q : S → D → Prop) : DEnds :=
  ⟨fun st => backB a st (Q (.fz .non)), fun r st => backB a st (Q r), fun _ => False, fun _ => False, fun e st => backB a st (Ex e)⟩
def atO (s : Option S) (Q : Addr → Bool → D → Prop) : Prop := match s with
  | some (.ow a l d) => Q a l d
  | _ => False
theorem atO_of {s : Option S} {Q : Addr → Bool → D → Prop} (h : atO s Q) : ∃ a l d, s = some (S.ow a l d) ∧ Q a l d := by
  unfold atO at h
  split at h
  · exact ⟨_, _, _, rfl, h⟩
  · exact h.elim
def geti {α : Type} (xs : List α) : Int → Option α
  | .ofNat n => xs[n]?
  | .negSucc n => if n + 1 ≤ xs.length then xs[xs.length - (n + 1)]? else none
def seti {α : Type} (xs : List α) (k : Int) (d : α) : Option (List α) := match k with
  | .ofNat n => if n < xs.length then some (xs.set n d) else none
  | .negSucc n => if n + 1 ≤ xs.length then some (xs.set (xs.length - (n + 1)) d) else none
theorem atI_geti {α : Type} (xs : List α) (k : Int) : atI xs k = geti xs k := by
  unfold atI ixN
  cases k with
  | ofNat n =>
    show (if (0 : Int) ≤ (n : Int) then _ else _ : Option Nat).bind _ = xs[n]?
    have en : Int.ofNat n = (n : Int) := rfl
    rw [if_pos (by omega)]
    by_cases h : n < xs.length
    · rw [if_pos (by omega)]; rfl
    · rw [if_neg (by omega), List.getElem?_eq_none (by omega)]; rfl
  | negSucc n =>
    show (if (0 : Int) ≤ Int.negSucc n then _ else _ : Option Nat).bind _ = (if n + 1 ≤ xs.length then xs[xs.length - (n + 1)]? else none)
    rw [if_neg (by omega)]
    by_cases h : n + 1 ≤ xs.length
    · rw [if_pos (by omega), if_pos h]
      show xs[(Int.negSucc n + (xs.length : Int)).toNat]? = _
      congr 1; omega
    · rw [if_neg (by omega), if_neg h]; rfl
theorem seti_ix {α : Type} {xs ys : List α} {k : Int} {d : α} (h : seti xs k d = some ys) : ∃ j, ixN xs.length k = some j ∧ ys = xs.set j d := by
  unfold ixN
  cases k with
  | ofNat n =>
    have h' : (if n < xs.length then some (xs.set n d) else none) = some ys := h
    by_cases q : n < xs.length
    · rw [if_pos q] at h'
      refine ⟨n, ?_, (Option.some.inj h').symm⟩
      show (if (0 : Int) ≤ (n : Int) then _ else _ : Option Nat) = _
      have en : Int.ofNat n = (n : Int) := rfl
      rw [if_pos (by omega), if_pos (by omega)]; rfl
    · rw [if_neg q] at h'; cases h'
  | negSucc n =>
    have h' : (if n + 1 ≤ xs.length then some (xs.set (xs.length - (n + 1)) d) else none) = some ys := h
    by_cases q : n + 1 ≤ xs.length
    · rw [if_pos q] at h'
      refine ⟨xs.length - (n + 1), ?_, (Option.some.inj h').symm⟩
      show (if (0 : Int) ≤ Int.negSucc n then _ else _ : Option Nat) = _
      rw [if_neg (by omega), if_pos (by omega)]
      congr 1; omega
    · rw [if_neg q] at h'; cases h'
def dcA (φ : SpA) (g : DA) (Ex : DX) (st : LS) (Q : S → LS → Prop) : Prop := g Ex st fun ds st1 => φ ds (fun e => Ex e st1) fun r => Q r st1
def dcB (φ : SpB) (i : Nat) (g : DA) (Ex : DX) (st : LS) (Q : S → LS → Prop) : Prop := atO st[i]? fun _ _ _ => g Ex st fun ds st1 => atO st1[i]? fun a l d =>
  φ d ds (fun e d' => Ex e (st1.set i (.ow a l d'))) fun r d' => Q r (st1.set i (.ow a l d'))
def qIxL (x y : D) : Option D := match x, y with
  | .nd .lst ds, .int k => geti ds k
  | _, _ => none
def qSetL (x k d : D) : Option D := match x, k with
  | .nd .lst ds, .int k => (seti ds k d).map (.nd .lst)
  | _, _ => none
def qApp (x d : D) : Option D := match x with
  | .nd .lst ds => if ds.length < 16777216 then some (.nd .lst (ds ++ [d])) else none
  | _ => none
def dix (i : Nat) (gi : DE) (Ex : DX) (st : LS) (Q : D → LS → Prop) : Prop := atO st[i]? fun _ _ _ => gi Ex st fun x st1 => atO st1[i]? fun _ _ d => wpO (qIxL d x) fun y => Q y st1
def dst (i : Nat) (ge gi : DE) (de : DEnds) (st : LS) : Prop := ge de.ex st fun v st1 => atO st1[i]? fun _ _ _ => gi de.ex st1 fun x st2 => atO st2[i]? fun a l d => wpO (qSetL d x v) fun d' => de.nx (st2.set i (.ow a l d'))
def qIsL : D → Option Unit
  | .nd .lst _ => some ()
  | _ => none
def dap (i : Nat) (ge : DE) (de : DEnds) (st : LS) : Prop := atO st[i]? fun _ _ d0 => wpO (qIsL d0) fun _ => ge de.ex st fun v st1 => atO st1[i]? fun a l d => wpO (qApp d v) fun d' => de.nx (st1.set i (.ow a l d'))
section
variable {K : PySem.W.Frag} {mg : Str → Option Value} {C : Cfg} {H0 H H0' H' : Hp} {σ : L2.St} {st : LS}
theorem Aft.refl (s : Same H0 H) (as : List Addr) : Aft H0 H as H0 H := ⟨Same.refl _, s, fun _ _ h _ => h, fun _ _ _ h => h⟩
theorem I.callB (i : I K mg C H0 H σ st) {k : Nat} {a : Addr} {l : Bool} {t t' : Tg} {es es' : List D} {us' : List V} (e : st[k]? = some (.ow a l (.nd t es))) (f : Aft H0 H [a] H0' H') (h0 : H0' a = none) (hn : NodeM mg H' t' a us') (hr : RepL K mg H0' es' us') :
    I K mg C H0' H' σ (st.set k (.ow a l (.nd t' es'))) := by
  obtain ⟨e1, e2, e3, e4, us, e5, e6⟩ := i.ow e
  obtain ⟨oa, hoa⟩ := e5.some
  have hk : k < st.length := (List.getElem?_eq_some_iff.mp e).1
  have nb : ∀ b o, C.B b = some o → b ∉ C.A → b ∉ [a] := fun b o h n hm => by
    have : b = a := by simpa using hm
    subst this
    cases l with
    | true => rw [e3 rfl] at h; cases h
    | false => exact n (e4 rfl)
  refine ⟨f.s1, i.up.trans f.s0, fun b o h n => f.keep b o (i.keep b o h n) (nb b o h n), fun b o h n => ?_, fun b hb => ?_, by rw [List.length_set]; exact i.len, fun j => ?_, sep_set i.sep fun j s ne q x hx hy => ?_⟩
  · by_cases hb : b ∈ C.A
    · obtain ⟨o', q⟩ := i.aa b hb
      exact f.low b o' q (i.low b o h n)
    · exact f.low b o (i.keep b o h hb) (i.low b o h n)
  · by_cases q : b = a
    · subst q; exact hn.some
    · obtain ⟨o, ho⟩ := i.aa b hb
      exact ⟨o, f.keep b o ho (by simpa using q)⟩
  · rw [getElem?_set_st hk]
    by_cases q : j = k
    · rw [if_pos q]; subst q
      exact ⟨e1, h0, e3, e4, us', hn, hr⟩
    · rw [if_neg q]
      refine (i.slots j).move f.s0 fun a' hx => ?_
      obtain ⟨s, q1, q2⟩ := adrO_some hx
      have ne : a' ≠ a := fun z => by subst z; exact q (i.sep _ _ _ _ q1 e a' q2 (List.mem_singleton.mpr rfl))
      obtain ⟨x2, _, o, ho⟩ := i.adr hx
      exact ⟨f.low a' o ho x2, fun o' z => f.keep a' o' z (by simpa using ne)⟩
  · obtain rfl := List.mem_singleton.mp hx
    exact ne (i.sep _ _ _ _ q e x hy (List.mem_singleton.mpr rfl))
theorem I.wr (i : I K mg C H0 H σ st) {k : Nat} {a : Addr} {l : Bool} {t t' : Tg} {es es' : List D} {us' : List V} {o : HO} (e : st[k]? = some (.ow a l (.nd t es))) (hn : NodeM mg (upd H a o) t' a us') (hr : RepL K mg H0 es' us') :
    I K mg C H0 (upd H a o) σ (st.set k (.ow a l (.nd t' es'))) := by
  obtain ⟨e1, e2, _⟩ := i.ow e
  refine i.callB e ⟨Same.refl _, fun b u h => ?_, fun b u h n => ?_, fun _ _ _ h => h⟩ e2 hn hr
  · rw [upd_ne (ne_of_none h e2)]; exact i.same _ _ h
  · rw [upd_ne (by simpa using n)]; exact h
theorem I.callA (i : I K mg C H0 H σ st) (f : Aft H0 H [] H0' H') : I K mg C H0' H' σ st :=
  i.grow f.s0 (fun b o h => f.keep b o h (by simp)) f.s1 f.low
theorem RepT.r (i : I K mg C H0 H σ st) {st' : LS} (hs : ∀ (k : Nat) s x, st'[k]? = some s → x ∈ PD.adr s → ∃ s', st[k]? = some s' ∧ x ∈ PD.adr s') {r : S} {v : V} (h : RepT K mg H H0' H' r v) : RepR K mg C H0' H' st' r v := by
  cases r with
  | un => exact h
  | xc _ _ => exact h
  | ob _ _ _ => exact h
  | fz d => exact h
  | ow a l d0 =>
    cases d0 with
    | nd t ds =>
      obtain ⟨h1, h2, h3, h4, h5⟩ := h
      obtain ⟨f1, f2⟩ := i.fresh h4
      refine ⟨h1, h2, h3, f1, fun k s q hx => ?_, h5⟩
      obtain ⟨s2, q2, hx2⟩ := hs k s a q hx
      exact f2 k s2 q2 hx2
    | _ => first | trivial | exact h.elim | exact False.elim h
  | on a j ds p =>
    obtain ⟨h1, h2, h3, h4⟩ := h
    obtain ⟨f1, f2⟩ := i.fresh h2
    obtain ⟨g1, g2⟩ := i.fresh h3
    refine ⟨h1, f1, g1, fun k s q hx => ?_, fun k s q hx => ?_, h4⟩
    · obtain ⟨s2, q2, hx2⟩ := hs k s a q hx
      exact f2 k s2 q2 hx2
    · obtain ⟨s2, q2, hx2⟩ := hs k s p q hx
      exact g2 k s2 q2 hx2
theorem RepR.t {C : Cfg} {r : S} {v : V} (h : RepR K mg C H0' H' st r v) : RepT K mg C.B H0' H' r v := by
  cases r with
  | un => exact h
  | xc _ _ => exact h
  | ob _ _ _ => exact h
  | fz d => exact h
  | ow a l d0 =>
    cases d0 with
    | nd t ds =>
      obtain ⟨h1, h2, h3, h4, h5, h6⟩ := h
      exact ⟨h1, h2, h3, h4, h6⟩
    | _ => first | trivial | exact h.elim | exact False.elim h
  | on a j ds p =>
    obtain ⟨h1, h2, h3, h4, h5, h6⟩ := h
    exact ⟨h1, h2, h3, h6⟩
end
section
variable {X : Cx} {W : WX} {e a b c : Expr} {es : List Expr} {pos p : Pos} {k : Nat} {f : Addr} {fd : FuncData} {ps : List Str} {x : Str} {n : Nat}
theorem pod_callA {φ : SpA} {g : DA} (tk : Takes X W) (F : FnG X.prog X.w X.K X.mg X.base k f fd ps (toA X.K X.mg n φ)) (hr : RoomG k X.A) (hg : Gl X x) (hm : X.mg x = some (.ref f)) (hk : PySem.W.keepIn X.K (.ref f) = true) (hb : Binds X.K fd ps [])
    (ha : PAD X W (e :: es) g) (hl : (e :: es).length = n := by rfl) (hdb : (x == ("__debug__" : Str)) = false := by decide) (he : starEach (e :: es) X.env = (false, eval e X.env) :: starEach es X.env := by rfl) (hpl : (backTo pos (starEach es X.env)).any (·.1) = false := by rfl) :
    POD X W (.Call (.Name x p) (e :: es) [] pos) (dcA φ g) := by
  obtain ⟨ta, pa, qa⟩ := ha.ex
  refine ⟨_, pe_callG F hr hg hm hk hb (fun σ => passAt tk σ) pa hdb he hpl, fun C H0 H σ st Ex Q Qv hI hX hQ hg => qa C H0 H σ st Ex _ _ hI hX (fun ds st1 vs H1 K1 q1 i1 s1 r1 el => ?_) hg⟩
  refine ⟨by rw [r1.length, el]; exact hl, H1, ds, _, _, i1.same, r1, q1, fun er H2 K2 cls d q2 f2 r2 => ?_, fun r v H2 K2 q2 f2 r2 => ?_⟩
  · exact hX er st1 H2 K2 cls d q2 (i1.callA f2) (s1.trans f2.s0) r2
  · exact hQ r st1 v H2 K2 q2 (i1.callA f2) (s1.trans f2.s0) (RepT.r i1 (fun k s x q hx => ⟨s, q, hx⟩) r2)
theorem pod_callB {φ : SpB} {g : DA} {i : Nat} (tk : Takes X W) (F : FnG X.prog X.w X.K X.mg X.base k f fd ps (toB X.K X.mg n φ)) (hr : RoomG k X.A) (hg : Gl X x) (hm : X.mg x = some (.ref f)) (hk : PySem.W.keepIn X.K (.ref f) = true) (hb : Binds X.K fd ps [])
    (he1 : PE X e (tVar i)) (ha : PAD X W es g) (hl : (e :: es).length = n := by rfl) (hdb : (x == ("__debug__" : Str)) = false := by decide) (he : starEach (e :: es) X.env = (false, eval e X.env) :: starEach es X.env := by rfl) (hpl : (backTo pos (starEach es X.env)).any (·.1) = false := by rfl) :
    POD X W (.Call (.Name x p) (e :: es) [] pos) (dcB φ i g) := by
  obtain ⟨ta, pa, qa⟩ := ha.ex
  refine ⟨_, pe_callG F hr hg hm hk hb (fun σ => passAt tk σ) (pa_cons he1 pa he) hdb he hpl, fun C H0 H σ st Ex Q Qv hI hX hQ hg => ?_⟩
  obtain ⟨a0, l0, d0, e0, hg⟩ := atO_of hg
  obtain ⟨t0, ds0, rfl⟩ := hI.owd e0
  have e0' := (hI.ow e0).1
  refine ⟨.ref a0, e0', qa C H0 H σ st Ex _ _ hI hX (fun ds st1 vs H1 K1 q1 i1 s1 r1 el => ?_) hg⟩
  obtain ⟨a, l, d, ed, q1⟩ := atO_of q1
  obtain ⟨t, us0, rfl⟩ := i1.owd ed
  obtain ⟨e1, e2, e3, e4, us, e5, e6⟩ := i1.ow ed
  rw [e0'] at e1
  cases e1
  refine ⟨by rw [List.length_cons, r1.length, el]; exact hl, H1, a0, t, us0, us, vs, ds, _, _, rfl, i1.same, e2, e5, e6, r1, q1, fun er t' es' us' H2 K2 cls d q2 f2 n2 m2 r2 => ?_, fun r t' es' us' v H2 K2 q2 f2 n2 m2 r2 => ?_⟩
  · obtain ⟨o, ho⟩ := e5.some
    exact hX er _ H2 K2 cls d q2 (i1.callB ed f2 (f2.low a0 o ho e2) n2 m2) (s1.trans f2.s0) r2
  · obtain ⟨o, ho⟩ := e5.some
    refine hQ r _ v H2 K2 q2 (i1.callB ed f2 (f2.low a0 o ho e2) n2 m2) (s1.trans f2.s0) (RepT.r i1 (fun k s x q hx => ?_) r2)
    rw [getElem?_set_st (List.getElem?_eq_some_iff.mp ed).1] at q
    by_cases z : k = i
    · rw [if_pos z] at q; cases q; subst z; exact ⟨_, ed, hx⟩
    · rw [if_neg z] at q; exact ⟨_, q, hx⟩
theorem qIxL_of {x y d : D} (h : qIxL x y = some d) : ∃ ds k, x = .nd .lst ds ∧ y = .int k ∧ geti ds k = some d := by
  unfold qIxL at h
  split at h
  · exact ⟨_, _, rfl, rfl, h⟩
  · cases h
theorem qApp_of {x d e : D} (h : qApp x d = some e) : ∃ ds, x = .nd .lst ds ∧ ds.length < sizeLine ∧ e = .nd .lst (ds ++ [d]) := by
  unfold qApp at h
  split at h
  · split at h
    · cases h; exact ⟨_, rfl, by assumption, rfl⟩
    · cases h
  · cases h
theorem ped_ixO {i : Nat} {gi : DE} (ha : PE X a (tVar i)) (hb : PED X W b gi) (hs : PlainIx b := by intro _ _; rfl) : PED X W (.Subscript a b pos) (dix i gi) := by
  obtain ⟨tb, pb, qb⟩ := hb.ex
  refine ⟨_, pe_ix ix_list ha pb hs, fun C H0 H σ st Ex Q Qv hI hX hQ hg => ?_⟩
  obtain ⟨a0, l0, d0, e0, hg⟩ := atO_of hg
  obtain ⟨t0, ds0, rfl⟩ := hI.owd e0
  have e0' := (hI.ow e0).1
  refine ⟨.ref a0, e0', qb C H0 H σ st Ex _ _ hI hX (fun x st1 u H1 K1 q1 i1 s1 r1 => ?_) hg⟩
  obtain ⟨a, l, d, ed, q1⟩ := atO_of q1
  obtain ⟨y, qy, qz⟩ := wpO_of q1
  obtain ⟨ds, k, rfl, rfl, ek⟩ := qIxL_of qy
  rw [← atI_geti] at ek
  obtain ⟨e1, e2, e3, e4, us, e5, e6⟩ := i1.ow ed
  rw [e0'] at e1
  cases e1
  obtain ⟨j, hj, hd⟩ := Option.bind_eq_some_iff.mp ek
  obtain ⟨w, hw, rw'⟩ := e6.get hd
  refine ⟨a0, us, k, w, rfl, r1.int, SqL.of e5, ?_, hQ y st1 w H1 K1 qz i1 s1 rw'⟩
  unfold atI
  rw [e6.length, hj]
  exact hw
end
section
variable {P : Program} {w : World} {K : PySem.W.Frag} {mg : Str → Option Value} {base : Heap}
theorem start_i {N : List Str} {C : Cfg} {ds : List D} {vs : List V} {H0 H : Hp} (s : Same H0 H) (hC : C = ⟨H0, H, []⟩) (r : RepL K mg H0 ds vs) : I K mg C H0 H (L2.start N vs) (startA N.length ds) := by
  subst hC
  have el := r.length
  refine ⟨s, Same.refl _, fun b o h _ => h, fun b o h n => n, fun a h => absurd h (by simp), ?_, fun i => ?_, fun i j s s' e1 e2 x hx hy => ?_⟩
  · unfold L2.start startA
    simp [el]
  · unfold L2.start startA
    by_cases h : i < ds.length
    · rw [List.getElem?_append_left (by simpa using h), List.getElem?_append_left (by simp; omega), List.getElem?_map, List.getElem?_map]
      cases e : ds[i]? with
      | none => simp at e; omega
      | some d =>
        obtain ⟨v, h1, h2⟩ := r.get e
        rw [h1]
        exact ⟨v, rfl, h2⟩
    · rw [List.getElem?_append_right (by simp; omega), List.getElem?_replicate]
      split
      · trivial
      · trivial
  · unfold startA at e1
    by_cases h : i < ds.length
    · rw [List.getElem?_append_left (by simpa using h), List.getElem?_map] at e1
      cases e : ds[i]? with
      | none => rw [e] at e1; cases e1
      | some d => rw [e] at e1; cases e1; cases hx
    · rw [List.getElem?_append_right (by simp; omega), List.getElem?_replicate] at e1
      split at e1 <;> cases e1
      cases hx
theorem okA {x qual : Str} {st : Stmt} {f : Addr} {fd : FuncData} {N ps : List Str} {k : Nat} (F : FunV K x qual st f fd) (S : FnScope N ps (defScope st)) (φ : SpA) (g : DS)
    (hb : ∀ (cdv : Value) (A : Around) (outer : List Env) (s : Shared) (H : Hp) (E : XK), RoomG k (A.deeper (envOfC qual (defScope st) s.heap.objs.size f cdv)) →
      PSsD (cxOf (L2.CX P w) P w K mg base N qual (defScope st) f cdv A outer s H E) (fun cls d _ H => E cls d H) (defBody st) g)
    (hφ : ∀ ds Ex Q, ds.length = ps.length → φ ds Ex Q → g (endsA Ex Q) (startA N.length ds)) : FnG P w K mg base (k + 1) f fd ps (toA K mg ps.length φ) := by
  refine Fun.okG F S (fun vs H Q E h => h.1) (fun cdv A outer s H vs Q E hr h => ?_)
  obtain ⟨hl, H0, ds, Ex', Q', sm, r, hf, hE, hQ⟩ := h
  obtain ⟨t, p, q⟩ := (hb cdv A outer s H E hr).ex
  refine ⟨t, p, q ⟨H0, H, []⟩ H0 H _ _ (endsA Ex' Q') _ (start_i sm rfl r) ⟨fun st' σ' H1 K1 q1 i1 s1 => ?_, fun _ _ _ _ z => z.elim, fun _ _ _ _ z => z.elim, fun r st' v σ' H1 K1 q1 i1 s1 r1 => ?_, fun er st' σ' H1 K1 cls d q1 i1 s1 r1 => ?_⟩ (hφ ds Ex' Q' (by rw [← r.length]; exact hl) hf)⟩
  · exact hQ _ _ H1 K1 q1 ⟨s1, i1.same, i1.keep, i1.low⟩ (show Rep K mg H1 .non .non from rep_non)
  · exact hQ _ _ H1 K1 q1 ⟨s1, i1.same, i1.keep, i1.low⟩ (RepR.t (C := ⟨H0, H, []⟩) r1)
  · exact hE _ H1 K1 cls d q1 ⟨s1, i1.same, i1.keep, i1.low⟩ r1
theorem start_b {N : List Str} {C : Cfg} {a : Addr} {t : Tg} {es ds : List D} {us vs : List V} {H0 H : Hp} (s : Same H0 H) (hC : C = ⟨H0, H, [a]⟩) (h0 : H0 a = none) (hn : NodeM mg H t a us) (hu : RepL K mg H0 es us) (r : RepL K mg H0 ds vs) :
    I K mg C H0 H (L2.start N (.ref a :: vs)) (startB N.length a (.nd t es) ds) := by
  subst hC
  have el := r.length
  refine ⟨s, Same.refl _, fun b o h _ => h, fun b o h n => n, fun b h => (List.mem_singleton.mp h) ▸ hn.some, ?_, fun i => ?_, fun i j s s' e1 e2 x hx hy => ?_⟩
  · unfold L2.start startB
    simp [el]; omega
  · unfold L2.start startB
    cases i with
    | zero => exact ⟨rfl, h0, fun z => Bool.noConfusion z, fun _ => List.mem_singleton.mpr rfl, us, hn, hu⟩
    | succ i =>
      rw [List.getElem?_cons_succ, List.map_cons, List.cons_append, List.getElem?_cons_succ]
      by_cases h : i < ds.length
      · rw [List.getElem?_append_left (by simpa using h), List.getElem?_append_left (by simp; omega), List.getElem?_map, List.getElem?_map]
        cases e : ds[i]? with
        | none => simp at e; omega
        | some d =>
          obtain ⟨v, h1, h2⟩ := r.get e
          rw [h1]
          exact ⟨v, rfl, h2⟩
      · rw [List.getElem?_append_right (by simp; omega), List.getElem?_replicate]
        split
        · trivial
        · trivial
  · have k2 : ∀ (i : Nat) s, (startB N.length a (.nd t es) ds)[i]? = some s → x ∈ PD.adr s → i = 0 := fun i s e hx => by
      cases i with
      | zero => rfl
      | succ i =>
        unfold startB at e
        rw [List.getElem?_cons_succ] at e
        by_cases h : i < ds.length
        · rw [List.getElem?_append_left (by simpa using h), List.getElem?_map] at e
          cases e' : ds[i]? with
          | none => rw [e'] at e; cases e
          | some d => rw [e'] at e; cases e; cases hx
        · rw [List.getElem?_append_right (by simp; omega), List.getElem?_replicate] at e
          split at e <;> cases e
          cases hx
    rw [k2 _ _ e1 hx, k2 _ _ e2 hy]
theorem okB {x qual : Str} {st : Stmt} {f : Addr} {fd : FuncData} {N ps : List Str} {k : Nat} (F : FunV K x qual st f fd) (S : FnScope N ps (defScope st)) (φ : SpB) (g : DS)
    (hb : ∀ (cdv : Value) (A : Around) (outer : List Env) (s : Shared) (H : Hp) (E : XK), RoomG k (A.deeper (envOfC qual (defScope st) s.heap.objs.size f cdv)) →
      PSsD (cxOf (L2.CX P w) P w K mg base N qual (defScope st) f cdv A outer s H E) (fun cls d _ H => E cls d H) (defBody st) g)
    (hφ : ∀ a t es ds Ex Q, ds.length + 1 = ps.length → φ (.nd t es) ds Ex Q → g (endsB a Ex Q) (startB N.length a (.nd t es) ds)) : FnG P w K mg base (k + 1) f fd ps (toB K mg ps.length φ) := by
  refine Fun.okG F S (fun vs H Q E h => h.1) (fun cdv A outer s H vs Q E hr h => ?_)
  obtain ⟨hl, H0, a, t, es, us, ws, ds, Ex', Q', rfl, sm, h0, hn, hu, r, hf, hE, hQ⟩ := h
  obtain ⟨tt, p, q⟩ := (hb cdv A outer s H E hr).ex
  have key : ∀ {st' : LS} {σ' : L2.St} {H1 K1 : Hp} {Qx : D → Prop}, backB a st' Qx → I K mg ⟨H0, H, [a]⟩ H1 K1 σ' st' → ∃ t' es' us', Qx (.nd t' es') ∧ NodeM mg K1 t' a us' ∧ RepL K mg H1 es' us' := fun {st' σ' H1 K1 Qx} q1 i1 => by
    unfold backB at q1
    split at q1
    · rename_i a' l' d' e
      obtain ⟨rfl, q1⟩ := q1
      obtain ⟨t', es', rfl⟩ := i1.owd e
      obtain ⟨_, _, _, _, us', e5, e6⟩ := i1.ow e
      exact ⟨t', es', us', q1, e5, e6⟩
    · exact q1.elim
  refine ⟨tt, p, q ⟨H0, H, [a]⟩ H0 H _ _ (endsB a Ex' Q') _ (start_b sm rfl h0 hn hu r) ⟨fun st' σ' H1 K1 q1 i1 s1 => ?_, fun _ _ _ _ z => z.elim, fun _ _ _ _ z => z.elim, fun r st' v σ' H1 K1 q1 i1 s1 r1 => ?_, fun er st' σ' H1 K1 cls d q1 i1 s1 r1 => ?_⟩ (hφ a t es ds Ex' Q' (by rw [← r.length]; simpa using hl) hf)⟩
  · obtain ⟨t', es', us', k1, k2, k3⟩ := key q1 i1
    exact hQ (.fz .non) t' es' us' _ H1 K1 k1 ⟨s1, i1.same, i1.keep, i1.low⟩ k2 k3 (show Rep K mg H1 .non .non from rep_non)
  · obtain ⟨t', es', us', k1, k2, k3⟩ := key q1 i1
    exact hQ _ t' es' us' _ H1 K1 k1 ⟨s1, i1.same, i1.keep, i1.low⟩ k2 k3 (RepR.t (C := ⟨H0, H, [a]⟩) r1)
  · obtain ⟨t', es', us', k1, k2, k3⟩ := key q1 i1
    exact hE _ t' es' us' H1 K1 cls d k1 ⟨s1, i1.same, i1.keep, i1.low⟩ k2 k3 r1
end
end PD
namespace PD
open PySem PySem.Spec PyProof.Rows L2
def fI (Cn : Int → Int → Prop) (g : Int → Int → Int) (x : D) (y : D) (Q : D → Prop) : Prop := match x, y with
  | .int i, .int j => Cn i j ∧ Q (.int (g i j))
  | _, _ => False
def fI0 (g : Int → Int → Int) (x : D) (y : D) (Q : D → Prop) : Prop := match x, y with
  | .int i, .int j => Q (.int (g i j))
  | _, _ => False
def fB (g : Int → Int → Bool) (x : D) (y : D) (Q : D → Prop) : Prop := match x, y with
  | .int i, .int j => Q (.bl (g i j))
  | _, _ => False
mutual
def py : D → PyData
  | .non => .none
  | .bl b => .bool b
  | .int i => .int i
  | .str x => .str x
  | .glo _ => .dict []
  | .nd .tup ds => .tuple (pyL ds)
  | .nd .lst ds => .list (pyL ds)
  | .nd .scr ds => .list (pyL ds)
  | .nd (.dic _) _ => .dict []
  | .nd (.ins _ _) _ => .dict []
  | .nd (.exc _) _ => .dict []
def pyL : List D → List PyData
  | [] => []
  | d :: ds => py d :: pyL ds
end
def fEq (x : D) (y : D) (Q : D → Prop) : Prop := (py x).plain = true ∧ (py y).plain = true ∧ min (py x).depth (py y).depth ≤ 60 ∧ Q (.bl (PyData.eqv (py x) (py y)))
def fNe (x : D) (y : D) (Q : D → Prop) : Prop := (py x).plain = true ∧ (py y).plain = true ∧ min (py x).depth (py y).depth ≤ 60 ∧ Q (.bl (!PyData.eqv (py x) (py y)))
def fIx (x : D) (y : D) (Q : D → Prop) : Prop := match x, y with
  | .nd .lst ds, .int k => (match geti ds k with | some d => Q d | none => False)
  | .nd .tup ds, .int k => (match geti ds k with | some d => Q d | none => False)
  | .nd .scr ds, .int k => (match geti ds k with | some d => Q d | none => False)
  | .str z, .int k => z.length ≤ sizeLine ∧ (match geti z.cps.toList k with | some c => Q (.str ⟨#[c]⟩) | none => False)
  | _, _ => False
def fAbs (xs : List D) (Q : D → Prop) : Prop := match xs with
  | [.int i] => Q (.int (if i < 0 then -i else i))
  | _ => False
def fMax2 (xs : List D) (Q : D → Prop) : Prop := match xs with
  | [.int i, .int j] => Q (.int (if j > i then j else i))
  | _ => False
def fMin2 (xs : List D) (Q : D → Prop) : Prop := match xs with
  | [.int i, .int j] => Q (.int (if j < i then j else i))
  | _ => False
def fInt (xs : List D) (Q : D → Prop) : Prop := match xs with
  | [.int i] => Q (.int i)
  | [.bl k] => Q (.int (if k then 1 else 0))
  | _ => False
def fLen (xs : List D) (Q : D → Prop) : Prop := match xs with
  | [.nd .lst ds] => Q (.int (ds.length : Nat))
  | [.nd .tup ds] => Q (.int (ds.length : Nat))
  | [.nd .scr ds] => Q (.int (ds.length : Nat))
  | [.str z] => z.length ≤ sizeLine ∧ Q (.int (z.length : Nat))
  | _ => False
def fSum (xs : List D) (Q : D → Prop) : Prop := match xs with
  | [.nd .lst ds] => ∃ ns : List Int, ds = ns.map D.int ∧ Q (.int ns.sum)
  | _ => False
def tyN : D → String
  | .non => "NoneType"
  | .bl _ => "bool"
  | .int _ => "int"
  | .str _ => "str"
  | .glo _ => ""
  | .nd .tup _ => "tuple"
  | .nd .lst _ => "list"
  | .nd .scr _ => "list"
  | .nd (.dic _) _ => "dict"
  | .nd (.ins _ _) _ => ""
  | .nd (.exc _) _ => ""
section
variable {X : Cx}
theorem opd_i {F : Value → Value → Sem Value} {Cn : Int → Int → Prop} {g : Int → Int → Int} (h : OpR X F (rI Cn fun i j => .int (g i j))) : OpD X F (fI Cn g) :=
  ⟨_, h, fun H0 H x y v u Q Qv s rx ry hf k => by
    unfold fI at hf
    split at hf
    · cases rx.int; cases ry.int
      exact ⟨_, _, rfl, rfl, hf.1, k _ _ hf.2 rep_int⟩
    · exact hf.elim⟩
theorem opd_i0 {F : Value → Value → Sem Value} {g : Int → Int → Int} (h : OpR X F (rI0 fun i j => .int (g i j))) : OpD X F (fI0 g) :=
  ⟨_, h, fun H0 H x y v u Q Qv s rx ry hf k => by
    unfold fI0 at hf
    split at hf
    · cases rx.int; cases ry.int
      exact ⟨_, _, rfl, rfl, k _ _ hf rep_int⟩
    · exact hf.elim⟩
theorem opd_b {F : Value → Value → Sem Value} {g : Int → Int → Bool} (h : OpR X F (rI0 fun i j => .bl (g i j))) : OpD X F (fB g) :=
  ⟨_, h, fun H0 H x y v u Q Qv s rx ry hf k => by
    unfold fB at hf
    split at hf
    · cases rx.int; cases ry.int
      exact ⟨_, _, rfl, rfl, k _ _ hf rep_bl⟩
    · exact hf.elim⟩
def MulOk (i j : Int) : Prop := IntMulOk i j
theorem op_mulA : OpR X (binaryOp .Mult) (rI MulOk fun i j => .int (i * j)) := opI fun _ _ _ _ _ _ _ hc q => mul_int q hc
def DivOk (i j : Int) : Prop := j ≠ 0 ∧ j.natAbs.log2 < 9000
theorem op_fdivA : OpR X (binaryOp .FloorDiv) (rI DivOk fun i j => .int (i.fdiv j)) := opI fun i j _ _ _ _ _ hc q => floordiv_int hc.1 q (.inl (PyProof.noPylong_of_log2 hc.2))
def fAdd : F2 := fI0 fun i j => i + j
def fMul : F2 := fI MulOk fun i j => i * j
def fDiv : F2 := fI DivOk Int.fdiv
def fMod : F2 := fI (fun _ j => j ≠ 0) Int.fmod
def fPow : F2 := fI CPow fun i j => i ^ j.toNat
def fLt : F2 := fB fun i j => decide (i < j)
def fGt : F2 := fB fun i j => decide (j < i)
def fGe : F2 := fB fun i j => decide (j ≤ i)
theorem o_add : OpD X (binaryOp .Add) fAdd := opd_i0 op_add
theorem o_mul : OpD X (binaryOp .Mult) fMul := opd_i op_mulA
theorem o_div : OpD X (binaryOp .FloorDiv) fDiv := opd_i op_fdivA
theorem o_mod : OpD X (binaryOp .Mod) fMod := opd_i op_modN
theorem o_pow : OpD X (binaryOp .Pow) fPow := opd_i op_pow
theorem o_lt : OpD X (compareOp .Lt) fLt := opd_b op_lt
theorem o_gt : OpD X (compareOp .Gt) fGt := opd_b op_gt
theorem o_ge : OpD X (compareOp .GtE) fGe := opd_b op_ge
mutual
theorem Rep.dp {K : PySem.W.Frag} {mg : Str → Option Value} {H0 H : Hp} (s : Same H0 H) : ∀ (d : D) (v : V), (py d).plain = true → Rep K mg H0 d v → Dp K H v (py d)
  | .non, v, _, h => by cases h.non; exact Dp.non
  | .bl b, v, _, h => by cases h.bl; exact Dp.bl b
  | .int b, v, _, h => by cases h.int; exact Dp.int b
  | .str b, v, _, h => by cases h.str; exact Dp.str b
  | .glo _, _, p, _ => by simp [py, PyData.plain] at p
  | .nd (.dic _) _, _, p, _ => by simp [py, PyData.plain] at p
  | .nd (.ins _ _) _, _, p, _ => by simp [py, PyData.plain] at p
  | .nd (.exc _) _, _, p, _ => by simp [py, PyData.plain] at p
  | .nd .tup ds, v, p, h => by
    obtain ⟨a, vs, rfl, h2, h3⟩ := h.nd
    rw [py]
    exact Dp.tup (SqT.mono s h2) (RepL.dp s ds vs (by rw [py, PyData.plain] at p; exact p) h3)
  | .nd .lst ds, v, p, h => by
    obtain ⟨a, vs, rfl, h2, h3⟩ := h.nd
    rw [py]
    exact Dp.lst (s.seq (SqL.of h2)) (RepL.dp s ds vs (by rw [py, PyData.plain] at p; exact p) h3)
  | .nd .scr ds, v, p, h => by
    obtain ⟨a, vs, rfl, h2, h3⟩ := h.nd
    rw [py]
    exact Dp.lst (s.seq h2) (RepL.dp s ds vs (by rw [py, PyData.plain] at p; exact p) h3)
theorem RepL.dp {K : PySem.W.Frag} {mg : Str → Option Value} {H0 H : Hp} (s : Same H0 H) : ∀ (ds : List D) (vs : List V), PyData.plainAll (pyL ds) = true → RepL K mg H0 ds vs → DpAll K H vs (pyL ds)
  | [], vs, _, h => by cases h.nil; rw [pyL]; exact DpAll.nil
  | d :: ds, vs, p, h => by
    obtain ⟨v, r, rfl, h2, h3⟩ := h.cons
    rw [pyL] at p ⊢
    rw [PyData.plainAll, Bool.and_eq_true] at p
    exact DpAll.cons (Rep.dp s d v p.1 h2) (RepL.dp s ds r p.2 h3)
end
def rEqP (K : PySem.W.Frag) : R2 := fun x y H Q => ∃ d e, Dp K H x d ∧ Dp K H y e ∧ d.plain = true ∧ e.plain = true ∧ min d.depth e.depth ≤ 60 ∧ Q (.bl (PyData.eqv d e)) H
def rNeP (K : PySem.W.Frag) : R2 := fun x y H Q => ∃ d e, Dp K H x d ∧ Dp K H y e ∧ d.plain = true ∧ e.plain = true ∧ min d.depth e.depth ≤ 60 ∧ Q (.bl (!PyData.eqv d e)) H
theorem op_eqP (hu : X.A.units + 64 < cLine) : OpR X (compareOp .Eq) (rEqP X.K) := by
  rintro pins t τ G x y v u Q J rx ry ⟨d, e, dx, dy, px, py, shallow, q⟩
  have left := (Dp.reads J d x v dx rx).choose_spec
  have right := (Dp.reads J e y u dy ry).choose_spec
  exact PySem.SeqAt.eq_plain left right px py (by omega) ⟨.bl _, G, J, rfl, q⟩
theorem op_neP (hu : X.A.units + 64 < cLine) : OpR X (compareOp .NotEq) (rNeP X.K) := by
  rintro pins t τ G x y v u Q J rx ry ⟨d, e, dx, dy, px, py, shallow, q⟩
  have left := (Dp.reads J d x v dx rx).choose_spec
  have right := (Dp.reads J e y u dy ry).choose_spec
  exact PySem.SeqAt.ne_plain left right px py (by omega) ⟨.bl _, G, J, rfl, q⟩
theorem o_eq {k : Nat} (hr : Room k X.A) : OpD X (compareOp .Eq) fEq := ⟨_, op_eqP hr.units, fun H0 H x y v u Q Qv s rx ry hf k =>
  ⟨_, _, Rep.dp s x v hf.1 rx, Rep.dp s y u hf.2.1 ry, hf.1, hf.2.1, hf.2.2.1, k _ _ hf.2.2.2 rep_bl⟩⟩
theorem o_ne {k : Nat} (hr : Room k X.A) : OpD X (compareOp .NotEq) fNe := ⟨_, op_neP hr.units, fun H0 H x y v u Q Qv s rx ry hf k =>
  ⟨_, _, Rep.dp s x v hf.1 rx, Rep.dp s y u hf.2.1 ry, hf.1, hf.2.1, hf.2.2.1, k _ _ hf.2.2.2 rep_bl⟩⟩
theorem atI_rep {K : PySem.W.Frag} {mg : Str → Option Value} {H : Hp} {ds : List D} {vs : List V} {k : Int} {d : D} (r : RepL K mg H ds vs) (e : geti ds k = some d) : ∃ w, atI vs k = some w ∧ Rep K mg H d w := by
  rw [← atI_geti] at e
  obtain ⟨j, hj, hd⟩ := Option.bind_eq_some_iff.mp e
  obtain ⟨w, hw, rw'⟩ := r.get hd
  refine ⟨w, ?_, rw'⟩
  unfold atI
  rw [r.length, hj]
  exact hw
theorem o_ix : IxD X fIx := ⟨_, ix_seq, fun H0 H x y v u Q Qv s rx ry hf k => by
  unfold fIx at hf
  split at hf
  · split at hf
    · rename_i e
      obtain ⟨a, vs, rfl, h2, h3⟩ := rx.nd
      cases ry.int
      obtain ⟨w, h4, h5⟩ := atI_rep h3 e
      exact .inl ⟨a, vs, _, w, rfl, rfl, s.seq (SqL.of h2), h4, k _ _ hf h5⟩
    · exact hf.elim
  · split at hf
    · rename_i e
      obtain ⟨a, vs, rfl, h2, h3⟩ := rx.nd
      cases ry.int
      obtain ⟨w, h4, h5⟩ := atI_rep h3 e
      exact .inr (.inl ⟨a, vs, _, w, rfl, rfl, SqT.mono s h2, h4, k _ _ hf h5⟩)
    · exact hf.elim
  · split at hf
    · rename_i e
      obtain ⟨a, vs, rfl, h2, h3⟩ := rx.nd
      cases ry.int
      obtain ⟨w, h4, h5⟩ := atI_rep h3 e
      exact .inl ⟨a, vs, _, w, rfl, rfl, s.seq h2, h4, k _ _ hf h5⟩
    · exact hf.elim
  · obtain ⟨hz, hf⟩ := hf
    split at hf
    · rename_i e
      cases rx.str
      cases ry.int
      exact .inr (.inr ⟨_, _, _, rfl, rfl, hz, by rw [atI_geti]; exact e, k _ _ hf rep_str⟩)
    · exact hf.elim
  · exact hf.elim⟩
theorem RepL.one {K : PySem.W.Frag} {mg : Str → Option Value} {H : Hp} {d : D} {vs : List V} (h : RepL K mg H [d] vs) : ∃ v, vs = [v] ∧ Rep K mg H d v := by
  obtain ⟨v, r, rfl, h2, h3⟩ := h.cons
  cases h3.nil
  exact ⟨v, rfl, h2⟩
theorem RepL.two {K : PySem.W.Frag} {mg : Str → Option Value} {H : Hp} {d e : D} {vs : List V} (h : RepL K mg H [d, e] vs) : ∃ v u, vs = [v, u] ∧ Rep K mg H d v ∧ Rep K mg H e u := by
  obtain ⟨v, r, rfl, h2, h3⟩ := h.cons
  obtain ⟨u, rfl, h4⟩ := h3.one
  exact ⟨v, u, rfl, h2, h4⟩
theorem c_abs : CallD X (.builtin "abs") fAbs := ⟨_, call_abs, fun H0 H xs vs Q Qv s r hf k => by
  unfold fAbs at hf
  split at hf
  · obtain ⟨v, rfl, h⟩ := r.one
    cases h.int
    exact ⟨_, rfl, k _ _ hf rep_int⟩
  · exact hf.elim⟩
theorem c_max2 (hc : X.calm = true) : CallD X (.builtin "max") fMax2 := ⟨_, call_max2 hc, fun H0 H xs vs Q Qv s r hf k => by
  unfold fMax2 at hf
  split at hf
  · obtain ⟨v, u, rfl, h, h'⟩ := r.two
    cases h.int; cases h'.int
    exact ⟨_, _, rfl, k _ _ hf rep_int⟩
  · exact hf.elim⟩
theorem c_min2 (hc : X.calm = true) : CallD X (.builtin "min") fMin2 := ⟨_, call_min2 hc, fun H0 H xs vs Q Qv s r hf k => by
  unfold fMin2 at hf
  split at hf
  · obtain ⟨v, u, rfl, h, h'⟩ := r.two
    cases h.int; cases h'.int
    exact ⟨_, _, rfl, k _ _ hf rep_int⟩
  · exact hf.elim⟩
theorem c_int : CallD X (.type "int") fInt := ⟨_, call_int1, fun H0 H xs vs Q Qv s r hf k => by
  unfold fInt at hf
  split at hf
  · obtain ⟨v, rfl, h⟩ := r.one
    cases h.int
    exact .inl ⟨_, rfl, k _ _ hf rep_int⟩
  · obtain ⟨v, rfl, h⟩ := r.one
    cases h.bl
    exact .inr ⟨_, rfl, k _ _ hf rep_int⟩
  · exact hf.elim⟩
theorem c_len : CallD X (.builtin "len") fLen := ⟨_, call_len, fun H0 H xs vs Q Qv s r hf k => by
  unfold fLen at hf
  split at hf
  · obtain ⟨v, rfl, h⟩ := r.one
    obtain ⟨a, vs, rfl, h2, h3⟩ := h.nd
    exact ⟨_, _, rfl, .inl ⟨vs, s.seq (SqL.of h2), rfl⟩, by rw [h3.length]; exact k _ _ hf rep_int⟩
  · obtain ⟨v, rfl, h⟩ := r.one
    obtain ⟨a, vs, rfl, h2, h3⟩ := h.nd
    exact ⟨_, _, rfl, .inr ⟨vs, SqT.mono s h2, rfl⟩, by rw [h3.length]; exact k _ _ hf rep_int⟩
  · obtain ⟨v, rfl, h⟩ := r.one
    obtain ⟨a, vs, rfl, h2, h3⟩ := h.nd
    exact ⟨_, _, rfl, .inl ⟨vs, s.seq h2, rfl⟩, by rw [h3.length]; exact k _ _ hf rep_int⟩
  · obtain ⟨v, rfl, h⟩ := r.one
    cases h.str
    exact ⟨_, _, rfl, ⟨hf.1, rfl⟩, k _ _ hf.2 rep_int⟩
  · exact hf.elim⟩
theorem RepL.ints {K : PySem.W.Frag} {mg : Str → Option Value} {H : Hp} : ∀ {ns : List Int} {vs : List V}, RepL K mg H (ns.map D.int) vs → vs = ns.map V.int
  | [], _, h => h.nil
  | n :: ns, _, h => by
    obtain ⟨v, r, rfl, h2, h3⟩ := RepL.cons (d := .int n) (ds := ns.map D.int) h
    cases h2.int
    rw [RepL.ints h3]
    rfl
theorem repL_ints {K : PySem.W.Frag} {mg : Str → Option Value} {H : Hp} : ∀ (ns : List Int), RepL K mg H (ns.map D.int) (ns.map V.int)
  | [] => repL_nil
  | n :: ns => repL_cons rep_int (repL_ints ns)
theorem c_sum (hc : X.calm = true) : CallD X (.builtin "sum") fSum := ⟨_, cr_sum hc, fun H0 H xs vs Q Qv s r hf k => by
  unfold fSum at hf
  split at hf
  · obtain ⟨ns, rfl, hf⟩ := hf
    obtain ⟨v, rfl, h⟩ := r.one
    obtain ⟨a, vs, rfl, h2, h3⟩ := h.nd
    cases h3.ints
    exact ⟨a, ns, rfl, s.seq (SqL.of h2), k _ _ hf rep_int⟩
  · exact hf.elim⟩
theorem Rep.ty {K : PySem.W.Frag} {mg : Str → Option Value} {H0 H : Hp} (s : Same H0 H) {d : D} {v : V} (h : Rep K mg H0 d v) (n : (tyN d == "") = false) : TyX K H v (.type (tyN d)) := by
  cases d with
  | non => cases h.non; exact .base .non
  | bl b => cases h.bl; exact .base (.bl b)
  | int b => cases h.int; exact .base (.int b)
  | str b => cases h.str; exact .base (.str b)
  | glo x => simp [tyN] at n
  | nd t ds =>
    obtain ⟨a, vs, rfl, h2, h3⟩ := h.nd
    cases t with
    | tup =>
      rcases h2 with (h2 | ⟨o, h2⟩) | ⟨o, its, k, h2, h4, _⟩
      · exact .base (.tup (s _ _ h2))
      · exact .fTuple (s _ _ h2)
      · exact .kTuple h2 h4
    | lst => exact .base (.lst (s _ _ h2))
    | scr =>
      rcases h2 with (h2 | ⟨o, h2⟩) | ⟨o, its, k, h2, h4, _⟩
      · exact .base (.lst (s _ _ h2))
      · exact .base (.frz (s _ _ h2))
      · exact .kList h2 h4
    | dic ks =>
      obtain ⟨_, o, h2⟩ := h2
      exact .fDict (s _ _ h2)
    | ins c fs => simp [tyN] at n
    | exc _ => simp [tyN] at n
abbrev DP := DX → LS → (Option Int → LS → Prop) → Prop
def dNoP (_u0 : DX) (st : LS) (Q : Option Int → LS → Prop) : Prop := Q none st
structure POD' (X : Cx) (W : WX) (e : Option Expr) (g : DP) : Prop where
  ex : ∃ t, PO X e t ∧ ∀ (C : Cfg) (H0 H : Hp) (σ : L2.St) (st : LS) (Ex : DX) (Q : Option Int → LS → Prop) (Qv : Option Int → Hp → Prop), I X.K X.mg C H0 H σ st → LkX X.K X.mg C H0 σ W Ex →
    (∀ d st' H0' H', Q d st' → I X.K X.mg C H0' H' σ st' → Same H0 H0' → Qv d H') → g Ex st Q → t σ H Qv
theorem pp_none {W : WX} : POD' X W none dNoP := ⟨_, po_none, fun C H0 H σ st Ex Q Qv hI hX hQ hg => hQ none st H0 H hg hI (Same.refl _)⟩
def cutD (xs : List D) (lo hi : Option Int) : List D := (xs.drop (HT.sIx xs.length 0 lo)).take (HT.sIx xs.length xs.length hi - HT.sIx xs.length 0 lo)
theorem cut_rep {K : PySem.W.Frag} {mg : Str → Option Value} {H : Hp} {ds : List D} {vs : List V} (lo hi : Option Int) (r : RepL K mg H ds vs) : RepL K mg H (cutD ds lo hi) (cutV vs lo hi) := by
  unfold cutD cutV
  rw [r.length]
  exact (r.drop _).take _
end
end PD
namespace PD
open PySem PySem.Spec PyProof.Rows L2
def sg (d : Int) : Int := if 0 < d then 1 else -1
def gd (n d : Int) : Int := (Int.gcd n d : Int) * sg d
def rN (n d : Int) : Int := n.fdiv (gd n d)
def rD (n d : Int) : Int := d.fdiv (gd n d)
theorem gcd_pos {n d : Int} (h : d ≠ 0) : 0 < Int.gcd n d := Int.gcd_pos_of_ne_zero_right n h
theorem sg_cases (d : Int) : sg d = 1 ∨ sg d = -1 := by unfold sg; split <;> simp
theorem gd_ne {n d : Int} (h : d ≠ 0) : gd n d ≠ 0 := by
  have := gcd_pos (n := n) h
  unfold gd
  rcases sg_cases d with e | e <;> rw [e] <;> omega
theorem gd_dvd_left (n d : Int) : gd n d ∣ n := by
  unfold gd
  rcases sg_cases d with e | e <;> rw [e]
  · rw [Int.mul_one]; exact Int.gcd_dvd_left n d
  · rw [Int.mul_neg, Int.mul_one]; exact Int.neg_dvd.mpr (Int.gcd_dvd_left n d)
theorem gd_dvd_right (n d : Int) : gd n d ∣ d := by
  unfold gd
  rcases sg_cases d with e | e <;> rw [e]
  · rw [Int.mul_one]; exact Int.gcd_dvd_right n d
  · rw [Int.mul_neg, Int.mul_one]; exact Int.neg_dvd.mpr (Int.gcd_dvd_right n d)
theorem fdiv_mul {a b : Int} (h : b ∣ a) : a.fdiv b * b = a := by
  rw [Int.fdiv_eq_ediv_of_dvd h]
  exact Int.ediv_mul_cancel h
theorem rN_mul (n d : Int) : rN n d * gd n d = n := fdiv_mul (gd_dvd_left n d)
theorem rD_mul (n d : Int) : rD n d * gd n d = d := fdiv_mul (gd_dvd_right n d)
theorem gd_pos_iff {n d : Int} (h : d ≠ 0) : (0 < gd n d ↔ 0 < d) := by
  have hg := gcd_pos (n := n) h
  unfold gd sg
  split
  · constructor
    · intro _; assumption
    · intro _; omega
  · constructor
    · intro q; omega
    · intro q; contradiction
theorem rD_pos {n d : Int} (h : d ≠ 0) : 0 < rD n d := by
  have e := rD_mul n d
  have hp := gd_pos_iff (n := n) h
  by_cases hd : 0 < d
  · have hg := hp.mpr hd
    by_cases h0 : 0 < rD n d
    · exact h0
    · exfalso
      have h1 : rD n d ≤ 0 := by omega
      have h2 : rD n d * gd n d ≤ 0 := Int.mul_nonpos_of_nonpos_of_nonneg h1 (by omega)
      omega
  · have hg : gd n d < 0 := by
      have := gd_ne (n := n) h
      by_cases q : 0 < gd n d
      · exact absurd (hp.mp q) hd
      · omega
    by_cases h0 : 0 < rD n d
    · exact h0
    · exfalso
      have h1 : rD n d ≤ 0 := by omega
      have h2 : 0 ≤ rD n d * gd n d := Int.mul_nonneg_of_nonpos_of_nonpos h1 (by omega)
      omega
theorem gd_abs (n d : Int) : (gd n d).natAbs = Int.gcd n d := by
  unfold gd
  rcases sg_cases d with e | e <;> rw [e, Int.natAbs_mul] <;> simp
theorem red_gcd {n d : Int} (h : d ≠ 0) : Int.gcd (rN n d) (rD n d) = 1 := by
  have e1 := rN_mul n d
  have e2 := rD_mul n d
  have k : Int.gcd (rN n d * gd n d) (rD n d * gd n d) = Int.gcd (rN n d) (rD n d) * (gd n d).natAbs := Int.gcd_mul_right ..
  rw [e1, e2, gd_abs] at k
  have hg := gcd_pos (n := n) h
  have k2 : 1 * Int.gcd n d = Int.gcd (rN n d) (rD n d) * Int.gcd n d := by rw [Nat.one_mul]; exact k
  exact (Nat.eq_of_mul_eq_mul_right hg k2).symm
theorem rN_abs {n d : Int} (h : d ≠ 0) : (rN n d).natAbs ≤ n.natAbs := by
  have e := congrArg Int.natAbs (rN_mul n d)
  rw [Int.natAbs_mul, gd_abs] at e
  have hg := gcd_pos (n := n) h
  rw [← e]
  exact Nat.le_mul_of_pos_right _ hg
theorem rD_abs {n d : Int} (h : d ≠ 0) : (rD n d).natAbs ≤ d.natAbs := by
  have e := congrArg Int.natAbs (rD_mul n d)
  rw [Int.natAbs_mul, gd_abs] at e
  have hg := gcd_pos (n := n) h
  rw [← e]
  exact Nat.le_mul_of_pos_right _ hg
theorem red_unique {a b c d : Int} (hb : 0 < b) (hd : 0 < d) (h1 : Int.gcd a b = 1) (h2 : Int.gcd c d = 1) (e : a * d = c * b) : a = c ∧ b = d := by
  have k1 : b ∣ a * d := ⟨c, by rw [e, Int.mul_comm]⟩
  have k2 : d ∣ c * b := ⟨a, by rw [← e, Int.mul_comm]⟩
  have n1 : b.natAbs ∣ a.natAbs * d.natAbs := by rw [← Int.natAbs_mul]; exact Int.natAbs_dvd_natAbs.mpr k1
  have n2 : d.natAbs ∣ c.natAbs * b.natAbs := by rw [← Int.natAbs_mul]; exact Int.natAbs_dvd_natAbs.mpr k2
  have c1 : Nat.Coprime b.natAbs a.natAbs := by
    rw [Nat.coprime_comm]; exact h1
  have c2 : Nat.Coprime d.natAbs c.natAbs := by
    rw [Nat.coprime_comm]; exact h2
  have d1 : b.natAbs ∣ d.natAbs := c1.dvd_of_dvd_mul_left n1
  have d2 : d.natAbs ∣ b.natAbs := c2.dvd_of_dvd_mul_left n2
  have e3 : b.natAbs = d.natAbs := Nat.dvd_antisymm d1 d2
  have e4 : b = d := by omega
  refine ⟨?_, e4⟩
  subst e4
  exact Int.eq_of_mul_eq_mul_right (by omega) e
end PD
namespace PD
open PySem PySem.Spec PyProof.Rows L2
def Bz (b : Nat) (x : Int) : Prop := x.natAbs < 2 ^ b
theorem Bz.mono {a b : Nat} {x : Int} (h : Bz a x) (l : a ≤ b) : Bz b x := Nat.lt_of_lt_of_le h (Nat.pow_le_pow_right (by decide) l)
theorem Bz.mul {a b : Nat} {x y : Int} (h : Bz a x) (k : Bz b y) : Bz (a + b) (x * y) := wide_lt h k
theorem Bz.add {a b c : Nat} {x y : Int} (h : Bz a x) (k : Bz b y) (ha : a < c) (hb : b < c) : Bz c (x + y) := by
  have h' : Bz (c - 1) x := h.mono (by omega)
  have k' : Bz (c - 1) y := k.mono (by omega)
  unfold Bz at *
  have e : 2 ^ c = 2 ^ (c - 1) + 2 ^ (c - 1) := by
    obtain ⟨m, rfl⟩ : ∃ m, c = m + 1 := ⟨c - 1, by omega⟩
    rw [Nat.add_sub_cancel, Nat.pow_succ]; omega
  omega
theorem Bz.neg {a : Nat} {x : Int} (h : Bz a x) : Bz a (-x) := by unfold Bz at *; omega
theorem Bz.sub {a b c : Nat} {x y : Int} (h : Bz a x) (k : Bz b y) (ha : a < c) (hb : b < c) : Bz c (x - y) := by
  rw [Int.sub_eq_add_neg]; exact h.add k.neg ha hb
theorem mulSmallL {x y : Int} (h1 : -(2 ^ 64) < x) (h2 : x < 2 ^ 64) : MulOk x y := IntMulOk.of_left (intBits_le_64 h1 h2)
theorem mulSmallR {x y : Int} (h1 : -(2 ^ 64) < y) (h2 : y < 2 ^ 64) : MulOk x y := IntMulOk.of_right (intBits_le_64 h1 h2)
abbrev fr (n d : Int) : D := .nd .tup [.int n, .int d]
abbrev rd (n d : Int) : D := fr (rN n d) (rD n d)
def num : D → Int
  | .nd .tup [.int n, .int _] => n
  | _ => 0
def den : D → Int
  | .nd .tup [.int _, .int d] => d
  | _ => 0
structure FrD (b : Nat) (x : D) : Prop where
  eq : x = fr (num x) (den x)
  pos : 0 < den x
  cop : Int.gcd (num x) (den x) = 1
  bn : Bz b (num x)
  bd : Bz b (den x)
theorem FrD.mono {a b : Nat} {x : D} (h : FrD a x) (l : a ≤ b) : FrD b x := ⟨h.eq, h.pos, h.cop, h.bn.mono l, h.bd.mono l⟩
theorem FrD.rd {b : Nat} {n d : Int} (h : d ≠ 0) (h3 : Bz b n) (h4 : Bz b d) : FrD b (rd n d) :=
  ⟨rfl, rD_pos h, red_gcd h, Nat.lt_of_le_of_lt (rN_abs h) h3, Nat.lt_of_le_of_lt (rD_abs h) h4⟩
theorem FrD.ext {a b : Nat} {x y : D} (h : FrD a x) (k : FrD b y) (e : num x * den y = num y * den x) : x = y := by
  obtain ⟨e1, e2⟩ := red_unique h.pos k.pos h.cop k.cop e
  rw [h.eq, k.eq, e1, e2]
def addD (x y : D) : D := rd (num x * den y + num y * den x) (den x * den y)
def negD (x : D) : D := fr (-num x) (den x)
def mulD (x y : D) : D := rd (num x * num y) (den x * den y)
theorem FrD.ne {b : Nat} {x : D} (h : FrD b x) : den x ≠ 0 := Int.ne_of_gt h.pos
theorem FrD.add {a b : Nat} {x y : D} (h : FrD a x) (k : FrD b y) : FrD (a + b + 1) (addD x y) :=
  .rd (Int.mul_ne_zero h.ne k.ne) ((h.bn.mul k.bd).add (k.bn.mul h.bd) (by omega) (by omega)) ((h.bd.mul k.bd).mono (by omega))
theorem FrD.mul {a b : Nat} {x y : D} (h : FrD a x) (k : FrD b y) : FrD (a + b) (mulD x y) :=
  .rd (Int.mul_ne_zero h.ne k.ne) (h.bn.mul k.bn) (h.bd.mul k.bd)
theorem FrD.neg {a : Nat} {x : D} (h : FrD a x) : FrD a (negD x) := ⟨rfl, h.pos, by show Int.gcd (-num x) (den x) = 1; rw [Int.neg_gcd]; exact h.cop, h.bn.neg, h.bd⟩
end PD
namespace PD
open PySem PySem.Spec PySem.W PySem.Calls PyProof.Rows PySem.HandSPX L2
abbrev anySig (c : String) : Manifest.Signature := ⟨.positional, "*", c, .self, [{ name := "args", kind := .varPos, required := false }]⟩
structure Inits (c i : String) : Prop where
  slot : Slot c "__init__" i
  body : entryFor table i = some Builtin.«BaseException.__init__»
  parts : splitId i = some (c, "__init__") ∧ builtinKind i = some .slot ∧ (c != "*") = true
  row : Manifest.signature? i = some (anySig c)
theorem Inits.of {c n i : String} (F : ExcCallFacts c n i) : Inits c i where
  slot := F.init
  body := F.initEntry
  parts := ⟨F.initSplit, F.initKind, F.noStar⟩
  row := F.initRow
theorem inits_KeyError : Inits "KeyError" "KeyError.__init__" where
  slot := by
    refine .of (owner := "KeyError") (n := "__init__") ?_ ?_ ?_ ?_ (.inl ?_) ?_
    · rw [typeLookup_type, builtinLookup_eq_fast]; kernel_rfl
    · decide +kernel
    · decide +kernel
    · decide +kernel
    · decide +kernel
    · rw [isSubtype_type]; kernel_rfl
  body := by
    refine entryFor_alias (id' := "BaseException.__init__") ?_ ?_ ?_ ?_
    · rw [fastTable_eq_tree]; kernel_rfl
    · decide +kernel
    · decide +kernel
    · rw [fastTable_eq_tree]; kernel_rfl
  parts := ⟨by kernel_rfl, by kernel_rfl, by decide +kernel⟩
  row := by kernel_rfl
theorem kxs_KeyError : KxsFacts "KeyError" "KeyError.__init__" := ⟨by show builtinType _ = _; rw [builtinType_eq_fast]; kernel_rfl, by first | kernel_rfl | rfl⟩
inductive BaseT where
  | val | ovf | key
def BaseT.nm : BaseT → String
  | .val => "ValueError" | .ovf => "OverflowError" | .key => "KeyError"
def BaseT.newId : BaseT → String
  | .val => "ValueError.__new__" | .ovf => "OverflowError.__new__" | .key => "LookupError.__new__"
def BaseT.initId : BaseT → String
  | .val => "ValueError.__init__" | .ovf => "OverflowError.__init__" | .key => "KeyError.__init__"
def BaseT.tl : BaseT → List Value
  | .val => [.type "ValueError", .type "Exception", .type "BaseException", .type "object"]
  | .ovf => [.type "OverflowError", .type "ArithmeticError", .type "Exception", .type "BaseException", .type "object"]
  | .key => [.type "KeyError", .type "LookupError", .type "Exception", .type "BaseException", .type "object"]
def BaseT.nB : BaseT → String
  | .val => "ValueError" | .ovf => "OverflowError" | .key => "LookupError"
def BaseT.nI : BaseT → String
  | .val => "ValueError.__init__" | .ovf => "OverflowError.__init__" | .key => "LookupError.__init__"
def BaseT.nM : BaseT → List Value
  | .val => [.type "ValueError", .type "Exception", .type "BaseException", .type "object"]
  | .ovf => [.type "OverflowError", .type "ArithmeticError", .type "Exception", .type "BaseException", .type "object"]
  | .key => [.type "LookupError", .type "Exception", .type "BaseException", .type "object"]
theorem base_exc : ∀ b : BaseT, ExcBaseFacts b.nB b.newId b.nI b.nM
  | .val => PySem.F.excBase_ValueError
  | .ovf => PySem.F.excBase_OverflowError
  | .key => PySem.F.excBase_LookupError
theorem base_init : ∀ b : BaseT, Inits b.nm b.initId
  | .val => .of PySem.F.excBase_ValueError.toExcCallFacts
  | .ovf => .of PySem.F.excBase_OverflowError.toExcCallFacts
  | .key => inits_KeyError
theorem base_has : ∀ b : BaseT, b.tl.contains (.type b.nB) = true ∧ b.tl.contains (.type "AttributeError") = false ∧ b.tl.contains (.type "NameError") = false
  | .val => by decide +kernel
  | .ovf => by decide +kernel
  | .key => by decide +kernel
theorem base_kx : ∀ b : BaseT, KxsFacts b.nm b.initId
  | .val => kxs_ValueError
  | .ovf => kxs_OverflowError
  | .key => kxs_KeyError
theorem base_pass (self : Value) : ∀ b : BaseT, refuseLoop self "__setattr__" b.tl = pure ()
  | .val => PySem.F.store_ValueError.passes self
  | .ovf => by show refuseLoop self "__setattr__" [_, _, _, _, _] = _; kernel_rfl
  | .key => by show refuseLoop self "__setattr__" [_, _, _, _, _] = _; kernel_rfl
theorem base_obj : ∀ b : BaseT, b.tl.contains (.type "object") = true
  | .val => by decide +kernel
  | .ovf => by decide +kernel
  | .key => by decide +kernel
def isRef : Value → Bool
  | .ref _ => true
  | _ => false
def refsB (b : BaseT) (l : List Value) : Bool := l.dropWhile isRef == b.tl
theorem refsB_split {b : BaseT} : ∀ {l : List Value}, refsB b l = true → ∃ own : List Addr, l = own.map Value.ref ++ b.tl := by
  intro l e
  refine ⟨(l.takeWhile isRef).filterMap fun | .ref a => some a | _ => none, ?_⟩
  rw [← (beq_iff_eq.mp e : l.dropWhile isRef = b.tl)]
  clear e
  induction l with
  | nil => rfl
  | cons v l ih => cases v <;> first | rfl | exact congrArg (List.cons _) ih
theorem refsB_contains (b : BaseT) (T : String) (l : List Value) (e : refsB b l = true) : l.contains (.type T) = b.tl.contains (.type T) := by
  obtain ⟨own, rfl⟩ := refsB_split e
  clear e
  induction own with
  | nil => rfl
  | cons c own ih => exact ih
theorem refsB_pass (b : BaseT) (x : Value) (l : List Value) (e : refsB b l = true) : refuseLoop x "__setattr__" l = pure () := by
  obtain ⟨own, rfl⟩ := refsB_split e
  clear e
  induction own with
  | nil => exact base_pass x b
  | cons c own ih => exact (refuseLoop_ref ..).trans ih
theorem refsB_ne {b : BaseT} {l : List Value} (e : refsB b l = true) : l.isEmpty = false := by
  obtain ⟨own, rfl⟩ := refsB_split e
  cases own <;> cases b <;> rfl
structure Asked (C : Addr) (bm : List Value) (B : String) : Prop where
  isB : (Value.ref C :: bm).contains (.type B) = true
  noA : (Value.ref C :: bm).contains (.type "AttributeError") = false
  noN : (Value.ref C :: bm).contains (.type "NameError") = false
theorem Asked.of {C : Addr} {bm : List Value} {b : BaseT} (e : refsB b bm = true) : Asked C bm b.nB :=
  ⟨(refsB_contains b _ bm e).trans (base_has b).1, (refsB_contains b _ bm e).trans (base_has b).2.1, (refsB_contains b _ bm e).trans (base_has b).2.2⟩
section
variable {M : Model} {A : Around} {h : Heap} {g : Array GenState} {dr : Drawn} {t : Nat} {os : OsState}
variable {nm q₀ : Str} {C N : Addr} {bs bm sub : List Value} {hdct ab : Bool} {sn : List Str} {col : Option Bool} {dd : Option Addr} {m0 m1 m2 m3 m5 : Option Value} {newId : String}
theorem check_initB {B initId : String} (F : Inits B initId) {e : Addr} {oe : Obj} {more : List Value} {Q : Unit → Shared → Prop} {E : Value → Shared → Prop} (h1 : h.get? C = some (excClassObj nm q₀ C N bs bm hdct sn sub ab col dd m0 m1 m2 m3 m5 newId)) (h2 : h.get? e = some oe) (h3 : oe.cls = .ref C) (q : Q () ⟨h, g, dr, t, os⟩) :
    wpAny M A (checkBoundCall initId ⟨.ref e :: more, []⟩) Q E ⟨h, g, dr, t, os⟩ := by
  obtain ⟨_, kind, star⟩ := F.parts
  simp only [checkBoundCall, kind, F.row]
  repeat first
    | with_reducible refine wpAny_loadPart_at h1 ?_
    | (with_reducible refine wpAny_loadPart_at h2 ?_; rw [h3])
    | wp_step
  apply wpAny_onRaise
  have takes : ∀ (s₁ s₂ : String) (k : Nat), Bind.check (anySig B) s₁ s₂ k [] = pure () := fun s₁ s₂ k => check_star_args _ _ _ _ _ _
  show wpAny _ _ (Bind.check (anySig B) _ _ _ []) _ _ _
  rw [takes]
  exact wpAny_pure q
end
section
variable {prog : Program} {w : World} {A : Around} {h : Heap} {g : Array GenState} {dr : Drawn} {t : Nat} {os : OsState}
variable {nm q : Str} {C N : Addr} {bs bm bm' sub : List Value} {hdct ab : Bool} {sn : List Str} {col : Option Bool} {dd : Option Addr} {m0 m1 m2 m3 m5 : Option Value} {B newId initId : String} {more : List Value}
abbrev madeH (h : Heap) (C : Addr) (more : List Value) : Heap := (h.push (W.kdv_tup more)).push (excO C h.objs.size)
theorem new_ownB {R : Result → Shared → Prop} (F : ExcBaseFacts B newId initId bm') (K : Asked C bm B) (hC : h.get? C = some (excClassObj nm q C N bs bm hdct sn sub ab col dd m0 m1 m2 m3 m5 newId)) (small : more.length ≤ sizeLine)
    (go : R (.ok (.ret (.ref (h.objs.size + 1)))) ⟨madeH h C more, g, dr, t, os⟩) : codeAny (model prog w) A (.builtin newId ⟨.ref C :: more, []⟩) R ⟨h, g, dr, t, os⟩ := by
  obtain ⟨isB, noA, noN⟩ := K
  have ends := F.ends
  apply codeAny_builtinAt F.entry
  unfold Builtin.«BaseException.__new__»
  apply PySem.wpAt_bind
  show PySem.wpAt _ _ _ (stack >>= fun _ => _) _ _ _
  apply PySem.wpAt_bind
  apply PySem.wpAt_stack
  intro _ _
  apply PySem.wpAt_of_wpAny
  wp_walk
  apply PySem.wpAt_of_wpAny
  rw [F.owner]
  repeat first
    | with_reducible refine wpAny_loadPart_at hC ?_
    | with_reducible refine wpAny_madeHere_exc F.canon hC ?_
    | (with_reducible refine wpAny_isSubtype_exc hC ?_; first | rw [isB] | rw [noN] | rw [noA])
    | wp_step
  show R (.ok (.ret (.ref (h.push _).objs.size))) _
  rw [Heap.size_push]
  exact go
theorem call_ownB {R : Result → Shared → Prop} {fI : Addr} (F : ExcBaseFacts B newId initId bm') (K : Asked C bm B) (hC : h.get? C = some (excClassObj nm q C N bs bm hdct sn sub ab col dd m0 m1 m2 m3 m5 newId))
    (own : W.Looks (model prog w) h (typeLookup (.ref C) "__init__") (some (.ref fI))) (bound : ∀ x, W.Looks (model prog w) h (bindSpecial (.ref fI) x) (.ref fI, [x])) (small : more.length ≤ sizeLine)
    (go : codeAny (model prog w) (A.under (.builtin "type.__call__" ⟨.ref C :: more, []⟩)) (.call (.ref fI) ⟨.ref (h.objs.size + 1) :: more, []⟩) (W.InitBack (h.objs.size + 1) R) ⟨madeH h C more, g, dr, t, os⟩) :
    codeAny (model prog w) A (.call (.ref C) ⟨more, []⟩) R ⟨h, g, dr, t, os⟩ := by
  have kp : ∀ b o, h.get? b = some o → (madeH h C more).get? b = some o := fun _ _ z => Heap.get?_push_of_some _ (Heap.get?_push_of_some _ z)
  have there : (madeH h C more).get? (h.objs.size + 1) = some (excO C h.objs.size) := by heap_get
  have isB := K.isB
  have star := F.noStar
  have isC : (Value.ref C :: bm).contains (.ref C) = true := by simp
  have t1 := tc_lookup
  have t2 := tc_bind (.ref C)
  have isType : Shared.TypeIs ⟨h, g, dr, t, os⟩ (.ref C) "type" := ⟨_, hC, rfl⟩
  apply codeAny_of_tree
  show wpAny _ _ (callAny (.ref C) ⟨more, []⟩) _ _ _
  repeat any_goals first
    | assumption
    | with_reducible refine wpAny_loadPart_at hC ?_
    | wp_step
  refine ⟨rfl, codeAny_call_builtin_at (Code.quiet_builtin _ (by decide +kernel)) entry_typeCall (wpAny_check_type_call_sub hC ?_)⟩
  -- type.__call__
  repeat first
    | with_reducible refine wpAny_madeBy_exc hC ?_
    | with_reducible refine wpAny_loadPart_at hC ?_
    | wp_step
  apply codeAny_call_builtin_code (Code.quiet_builtin _ F.quiet)
  · -- the check of __new__
    simp only [checkBuiltinCall, F.newSplit, F.newRow, F.newKind]
    repeat first
      | refine wpAny_madeBy_exc hC ?_
      | refine wpAny_staticBase_exc hC ?_
      | refine wpAny_loadPart_at hC ?_
      | (refine wpAny_isSubtype_exc hC ?_; rw [isB])
      | simp only [bne_self_eq_false, if_false, Bool.false_eq_true]
      | wp_step
    -- the new object is of the class: its __init__
    refine new_ownB F K hC small ?_
    show wpAny _ _ _ _ _ _
    have hC2 := kp _ _ hC
    unfold isInstance
    repeat first
      | with_reducible refine wpAny_loadPart_at there ?_
      | (refine wpAny_isSubtype_exc hC2 ?_; rw [isC])
      | wp_step
    show wpAny _ _ (typeLookup (.ref C) "__init__") _ _ _
    refine (own.keeps kp).at (wpAny_holding (wpAny_bind (((bound _).keeps kp).at ?_)))
    apply wpAny_bind
    apply wpAny_call
    refine codeAny_mono go ?_
    rintro (_ | v | _ | _ | _) u' z
    all_goals first
      | exact z
      | exact z.elim
      | (obtain ⟨rfl, z⟩ := z
         first
           | exact wpAny_pure (wpAny_pure z)
           | (wp_walk; exact z))
end
section
open Builtin Builtin.ObjectAttr
variable {prog : Program} {w : World} {A : Around} {h : Heap} {g : Array GenState} {dr : Drawn} {os : OsState} {t : Nat}
theorem exc_osaB {R : Result → Shared → Prop} {b : BaseT} {K : W.Frag} {name : Str} {tk : Tok} {v : Value} {x C : Addr} {fv : Array Value} {cd : ClassData}
    (X : K.In h) (hx : h.get? x = some { cls := .ref C, data := .fields fv }) (hcd : W.clsIn K C = some cd) (hm : refsB b cd.mro = true) (hh : cd.hasDict = true) (no : W.findIn K (.ref C) name = some none)
    (go : ∀ h' tk' dx, (∀ a o, a ≠ x → h.get? a = some o → h'.get? a = some o) → h.objs.size ≤ dx → dx ≠ x →
      h'.get? x = some { cls := .ref C, dict := some dx, data := .fields fv } → h'.Ns1 dx (fun y => if y = name then some v else none) → R (.ok (.ret .none)) ⟨h', g, dr, tk', os⟩) :
    codeAny (model prog w) A (.call (.builtin "object.__setattr__") ⟨[.ref x, .str name tk, v], []⟩) R ⟨h, g, dr, t, os⟩ := by
  have inst : W.InstAt h x { cls := .ref C, data := .fields fv } C none := ⟨hx, rfl, rfl, trivial⟩
  have data : W.Looks (model prog w) h (classData C) cd := W.looks_clsIn X hcd
  have mro : W.Looks (model prog w) h (mroOf (.ref C)) cd.mro := data.andThen .now
  have taker : W.Looks (model prog w) h (storeTaker? none) none := .now
  have isObj : W.mroIn K C (.type "object") = some true := by
    unfold W.mroIn
    rw [hcd, Option.bind_some, if_neg (by rw [refsB_ne hm]; decide), refsB_contains b _ _ hm, base_obj b]
  have far : x ≠ h.objs.size := Nat.ne_of_lt (Heap.lt_size hx)
  have S := PySem.F.store_object
  apply codeAny_call_builtin S.slot.plain S.entry
  apply @W.check_slot (model prog w) _ _ ⟨h, g, dr, t, os⟩ "object.__setattr__" "object" "__setattr__" (.ref x) [.str name tk, v] [] _ S.kind S.split (inst.type.andThen (W.looks_mroIn X isObj)) (S.args (.ref x) (.str name tk) v)
  rw [W.osa_eq, refuse_eq]
  apply wpAny_bind
  apply wpAny_bind
  apply inst.type.at
  apply wpAny_bind
  apply mro.at
  rw [refsB_pass b _ _ hm]
  apply wpAny_pure
  apply wpAny_bind
  apply inst.type.at
  apply wpAny_bind
  apply (W.looks_findIn X no).at
  apply wpAny_bind
  apply taker.at
  show wpAny _ _ (storeInOwnDict (.ref x) (.ref C) (.str name tk) name v false) _ _ _
  rcases cd with ⟨c1, c2, c3, c4, c5, c6, c7, c8, c9, c10, c11⟩
  cases (show c6 = true from hh)
  unfold storeInOwnDict ownDictForStores
  repeat first
    | with_reducible refine data.at ?_
    | with_reducible refine wpAny_loadPart_at hx ?_
    | with_reducible refine store_in_new ?_ ?_
    | wp_step
  · have nd : ((h.push { cls := .type "dict", data := .dict #[] }).update x (fun o => { o with dict := some h.objs.size })).get? h.objs.size = _ := (Heap.get?_update_ne _ _ _ _ far.symm).trans (Heap.get?_push_at rfl rfl)
    exact ⟨_, #[], _, nd, rfl, fun _ m => absurd m (by simp), fun _ => rfl⟩
  · intro h' tk' one but
    refine go h' tk' h.objs.size (fun a o ne at_ => ?_) (Nat.le_refl _) far.symm ((but.2 x far).trans (Heap.get?_update_self _ (Heap.get?_push_of_some _ hx) rfl)) one
    rw [but.2 a (Nat.ne_of_lt (Heap.lt_size at_)), Heap.get?_update_ne _ _ _ _ ne]
    exact Heap.get?_push_of_some _ at_
end
end PD
namespace PD
open PySem PySem.Spec PySem.W PySem.Calls PyProof.Rows PySem.HandSPX L2
def erA (f : Str) (p1 p2 : Pos) : Arguments := { posonlyargs := [], args := [{ arg := "self", annotation := none, pos := p1 }, { arg := f, annotation := none, pos := p2 }], vararg := none, kwonlyargs := [], kw_defaults := [], kwarg := none, defaults := [] }
def erB (f m : Str) (j : Nat) (q0 q1 q2 q3 q4 q5 q6 q7 q8 q9 : Pos) : List Stmt :=
  [.Expr (.Call (.Attribute (.Call (.Name "super" q0) [] [] q1) "__init__" q2) [.Constant (.str m) j q3] [] q4) q5, .Assign [.Attribute (.Name "self" q6) f q7] (.Name f q8) q9]
def erS (f : Str) : Scope := { kind := .function, names := [(PySem.Str.ofString "self", .local), (f, .local), (PySem.Str.ofString "__class__", .free), (PySem.Str.ofString "super", .globalImplicit)], isGenerator := false, isCoroutine := false, more := [] }
structure ErrTxt (P : Program) (K : PySem.W.Frag) (mg : Str → Option Value) (x f : Str) (C fI cc cda : Addr) : Prop where
  gC : mg x = some (.ref C)
  noSup : mg "super" = none
  cls : ∃ (b : BaseT) (nm q : Str) (N : Addr) (bs bm : List Value) (sn : List Str) (sub : List Value) (ab : Bool) (col : Option Bool) (dd : Option Addr) (k0 k1 k2 k3 k5 : Option Value), K.lookup C = some (excClassObj nm q C N bs bm true sn sub ab col dd k0 k1 k2 k3 k5 b.newId) ∧ refsB b bm = true ∧
    ks_superIn K C C "__init__" = some (some (.builtin b.initId)) ∧ subIn K (.ref C) (.type b.nm) = some true
  any : nsIn K cStatics "thirdparty.any" = some none
  mroC : mroIn K C (.ref C) = some true
  sa : findIn K (.ref C) "__setattr__" = some (some (.builtin "object.__setattr__"))
  ga : findIn K (.ref C) "__getattribute__" = some (some (.builtin "BaseException.__getattribute__"))
  gg : findIn K (.ref C) "__getattr__" = some none
  noN : findIn K (.ref C) f = some none
  iC : findIn K (.ref C) "__init__" = some (some (.ref fI))
  tC : typeIn K (.ref fI) = some (.type "function")
  kC : keepIn K (.ref C) = true
  exC : subIn K (.ref C) (.type "BaseException") = some true
  tyC : typeIn K (.ref C) = some (.type "type")
  hdC : hasDictIn K C = true
  fn : ∃ (qu m : Str) (j : Nat) (oc : Value) (od : Option Addr) (doc pm : Value) (an : Option Addr) (ct : Value) (osl : Array (Option Value)) (p1 p2 q0 q1 q2 q3 q4 q5 q6 q7 q8 q9 : Pos),
    K.lookup fI = some ⟨oc, od, .func (ksFn "__init__" qu (erA f p1 p2) (erB f m j q0 q1 q2 q3 q4 q5 q6 q7 q8 q9) (erS f) .none .none doc pm an (.ref cda) ct cc), osl⟩ ∧ codeIn K (.ref cda) qu = true ∧ (q2.endLine == q4.line) = true
  code : ∃ (ccl : Value) (cdd : Option Addr) (vs : Array Value) (ccs : Array (Option Value)) (file : Str) (tf : Tok), K.lookup cda = some ⟨ccl, cdd, .fields vs, ccs⟩ ∧ vs[2]? = some (.str file tf) ∧ ((P.main.file : Str) == file) = true
  cell : ∃ (cl : Value) (cld : Option Addr) (csl : Array (Option Value)), K.lookup cc = some ⟨cl, cld, .cell (some (.ref C)), csl⟩
  top : (P.main.scope.names.lookup ("super" : Str)).isSome = false
structure FldOk (f : Str) : Prop where
  bind : ∀ (s : Shared) (qu : Str) (p1 p2 : Pos) (body : List Stmt) (doc pm : Value) (an : Option Addr) (cdv ct : Value) (cc : Addr) (a v : Value),
    BindsTo s (ksFn "__init__" qu (erA f p1 p2) body (erS f) .none .none doc pm an cdv ct cc) ⟨[a, v], []⟩ [("self", a), (f, v)]
  loc : (erS f).names.lookup f = some .local
  cells : ∀ y ∈ (erS f).names, y.2 ≠ .cell
  sup : (erS f).names.lookup ("super" : Str) = some .globalImplicit
  cls : (erS f).names.lookup ("__class__" : Str) = some .free
  ns : f ≠ "self"
  nd : (f == ("__debug__" : Str)) = false
  sw1 : ∀ (qu : Str) (L fI : Addr) (cd : Value) (cc : Addr) (m : Str) (j : Nat) (q0 q1 q2 q3 q4 q5 : Pos),
    swapsWith (.Call (.Attribute (.Call (.Name "super" q0) [] [] q1) "__init__" q2) [.Constant (.str m) j q3] [] q4) none q5.line (ksEnv qu (erS f) L fI cd cc) = pure false
  sw2 : ∀ (qu : Str) (L fI : Addr) (cd : Value) (cc : Addr) (q6 q7 q8 q9 : Pos), swapsWith (.Name f q8) (some (.Attribute (.Name "self" q6) f q7)) q9.line (ksEnv qu (erS f) L fI cd cc) = pure false
theorem fld_value : FldOk "value" := ⟨fun _ _ _ _ _ _ _ _ _ _ _ _ _ => .of_eq rfl, rfl, by decide, rfl, rfl, by decide, by decide, fun _ _ _ _ _ _ _ _ _ _ _ _ _ => rfl, fun _ _ _ _ _ _ _ _ _ => rfl⟩
structure ErrEnd (h h' : Heap) (x C dx t1 : Addr) (f : Str) (v : Value) : Prop where
  keep : ∀ b o, b ≠ x → h.get? b = some o → h'.get? b = some o
  obj : h'.get? x = some { cls := .ref C, dict := some dx, data := .fields #[.ref t1, .none, .none, .none, .bool false, .none] }
  dbig : h.objs.size ≤ dx
  dne : dx ≠ x
  ns : h'.Ns1 dx (fun y => if y = f then some v else none)
section
variable {prog : Program} {w : World} {A : Around} {E : Value → Shared → Prop} {R : Result → Shared → Prop} {s : Shared} {K : PySem.W.Frag} {mg : Str → Option Value} {x f : Str} {C fI cc cda : Addr}
theorem call_mw {h : Heap} {g : Array GenState} {dr : Drawn} {tk : Nat} {os : OsState} {nm q₀ : Str} {D N : Addr} {bs bm sub : List Value} {hdct ab : Bool} {sn : List Str} {col : Option Bool} {dd : Option Addr} {m0 m1 m2 m3 m5 : Option Value}
    {B newId initId : String} (F : Inits B initId) {u e t0 : Addr} {more : List Value} {Q : Value → Shared → Prop}
    (hD : h.get? D = some (excClassObj nm q₀ D N bs bm hdct sn sub ab col dd m0 m1 m2 m3 m5 newId)) (he : h.get? e = some (excO D t0)) (hu : h.get? u = some (kxs_mw initId e)) (small : more.length ≤ sizeLine)
    (go : ∀ h' t1, (∀ b o, b ≠ e → h.get? b = some o → h'.get? b = some o) → h'.get? e = some (excO D t1) → Q .none ⟨h', g, dr, tk, os⟩) : wpAny (model prog w) A (call (.ref u) more) Q E ⟨h, g, dr, tk, os⟩ := by
  have isMw : (Value.type "method-wrapper" == .type "method" || Value.type "method-wrapper" == .type "builtin_function_or_method" || Value.type "method-wrapper" == .type "method-wrapper") = true := by decide
  apply wpAny_call
  apply codeAny_of_tree
  show wpAny _ A.in1 (callAny (.ref u) ⟨more, []⟩) _ _ _
  simp only [callAny]
  apply wpAny_bind
  apply wpAny_load hu
  simp only [kxs_mw, isMw, if_true]
  apply KFB.if_so (by decide)
  apply wpAny_bind
  apply check_initB F hD he rfl
  refine wpAny_bind (wpAny_pure (wpAny_pure ⟨plainId_quiet F.slot.plain _, ?_⟩))
  apply codeAny_builtin F.body
  exact exc_init_tree (cls := .ref D) (t0 := t0) (dv := none) (c2 := .none) (c3 := .none) (b4 := .bool false) he small fun h' a b _ => go h' _ a b
theorem sup_eval {q0 q1 q2 q3 q4 : Pos} {m : Str} {j : Nat} {env : Env} (hpos : methodCallPos true (.Call (.Name "super" q0) [] [] q1) env q2 q4 = pure q4) :
    eval (.Call (.Attribute (.Call (.Name "super" q0) [] [] q1) "__init__" q2) [.Constant (.str m) j q3] [] q4) env = (do
      let ov ← attributeBase (.Call (.Name "super" q0) [] [] q1) "__init__" env (eval (.Call (.Name "super" q0) [] [] q1) env)
      standAt q2.atName
      let (g, first) ← holding [ov] (getMethod ov "__init__" (do return (← importBound (.Call (.Name "super" q0) [] [] q1) env).getD true))
      callWith q4 g first (backTo q4 (starEach [.Constant (.str m) j q3] env)) []) := by
  rw [arm_eval_Call]
  unfold methodCall
  have hform : methodCallForm ([Expr.Constant (.str m) j q3].length + ([] : List Keyword).length) (backTo q4 (starEach [.Constant (.str m) j q3] env)) (backToKw q4 (keywordEach [] env)) = true := rfl
  rw [hform, hpos]
  simp only [pure_bind]
  rfl
theorem err_init (T : ErrTxt prog K mg x f C fI cc cda) (F : FldOk f) {a t0 : Addr} {v : Value} (X : K.In s.heap) (hlim : s.heap.NoLimit) (hG : s.heap.Ns mainGlobals mg)
    (hB : ∃ mb, s.heap.Ns builtinsNs mb ∧ ∀ x : Str, x ≠ "__name__" → mb x = bootBuiltins x) (hx : s.heap.get? a = some (excO C t0)) (hnx : K.lookup a = none) (hroom : A.depth < recursionLimit)
    (hq : ∀ h' tk dx t1, ErrEnd s.heap h' a C dx t1 f v → R (.ok (.ret .none)) { s with heap := h', toks := tk }) :
    codeAny (model prog w) A (.call (.ref fI) ⟨[.ref a, v], []⟩) R s := by
  obtain ⟨qu, m, j, oc, od, doc, pm, an, ct, osl, p1, p2, q0, q1, q2, q3, q4, q5, q6, q7, q8, q9, ho, hcd, hline⟩ := T.fn
  obtain ⟨bb, nm, q, N, bs, bm, sn, sub, ab, col, dd, k0, k1, k2, k3, k5, hC, hbm, hsu0, hsB⟩ := T.cls
  obtain ⟨ccl, cdd, vs, ccs, file, tf, hcode, hvs, hfile⟩ := T.code
  obtain ⟨cl, cld, csl, hcell⟩ := T.cell
  obtain ⟨mb, hB1, hB2⟩ := hB
  have hcl : clsIn K C = some { name := nm, bases := bs, mro := .ref C :: bm, ns := N, qualname := q, hasDict := true, slotNames := sn, subclasses := sub, abstract := ab, collection := col, hasDel := false } := by unfold clsIn; rw [hC] <;> rfl
  have hsup : alongIn K "__init__" ((((Value.ref C :: bm).dropWhile (· != .ref C)).drop 1)) = some (some (.builtin bb.initId)) := by
    have z := hsu0
    unfold ks_superIn at z
    rw [hcl] at z
    exact z
  refine ks_codeAny_call_defAt (fd := ksFn "__init__" qu (erA f p1 p2) (erB f m j q0 q1 q2 q3 q4 q5 q6 q7 q8 q9) (erS f) .none .none doc pm an (.ref cda) ct cc) (body := erB f m j q0 q1 q2 q3 q4 q5 q6 q7 q8 q9) (binds := [("self", .ref a), (f, v)])
    hroom (X _ _ ho) rfl hlim (codeRec_of X hcd) rfl (F.bind _ _ _ _ _ _ _ _ _ _ _ _ _) F.cells ?_ (fun h₁ hns k => ?_)
  · intro y hy
    simp only [List.mem_cons, List.not_mem_nil, or_false] at hy
    rcases hy with rfl | rfl
    · rfl
    · exact F.loc
  have X₁ : K.In h₁ := X.keeps k
  have hx₁ := k _ _ hx
  have hmS : (fun y => List.lookup y ([(("self" : Str), Value.ref a), (f, v)].reverse)) "self" = some (.ref a) := by
    have e : (("self" : Str) == f) = false := by
      have := F.ns
      simpa using fun z => this z.symm
    simp [List.lookup, e]
  have hmF : (fun y => List.lookup y ([(("self" : Str), Value.ref a), (f, v)].reverse)) f = some v := by
    simp [List.lookup]
  obtain ⟨hp, g, d, t, os⟩ := s
  dsimp only at X hlim hG hB1 hx hq hns k X₁ hx₁ ⊢
  -- super().__init__(m)
  show _root_.PySem.wpAt (model prog w) (A.deeper (ksEnv qu (erS f) hp.objs.size fI (.ref cda) cc)) (.func (erB f m j q0 q1 q2 q3 q4 q5 q6 q7 q8 q9) (ksEnv qu (erS f) hp.objs.size fI (.ref cda) cc)) (execs (erB f m j q0 q1 q2 q3 q4 q5 q6 q7 q8 q9) (ksEnv qu (erS f) hp.objs.size fI (.ref cda) cc)) _ _ _
  unfold erB
  have hpos : methodCallPos true (.Call (.Name "super" q0) [] [] q1) (ksEnv qu (erS f) hp.objs.size fI (.ref cda) cc) q2 q4 = pure q4 := by unfold methodCallPos; simp [hline]
  refine ks_wpAt_execs_cons (ks_wpAt_Expr_any (ks_wpAt_MethodCall (pl := do return (← importBound (.Call (.Name "super" q0) [] [] q1) (ksEnv qu (erS f) hp.objs.size fI (.ref cda) cc)).getD true) ?_ (sup_eval hpos)) rfl (F.sw1 _ _ _ _ _ _ _ _ _ _ _ _ _))
  refine ks_wpAt_super_base (ar := { arg := "self", annotation := none, pos := p1 }) (of := ⟨oc, od, _, osl⟩) (oc := ⟨ccl, cdd, .fields vs, ccs⟩) F.sup F.cls (by decide) rfl (X₁ _ _ ho) rfl rfl rfl (X₁ _ _ hcode) rfl hvs hfile T.top ?_
  refine ks_loadName_global rfl F.sup (loadGlobal_builtin (hG.keeps k) T.noSup (hB1.keeps k) ((hB2 _ (by decide)).trans (by first | rfl | kernel_rfl)) ⟨rfl, ?_⟩)
  refine wpAny_loadName_free rfl F.cls rfl ⟨_, X₁ _ _ hcell, rfl⟩ ?_
  refine wpAny_loadName_local rfl (by rfl) hns hmS ?_
  refine ks_wpAny_isType_cls (X₁ _ _ hC) rfl ⟨rfl, ?_⟩
  refine ks_wpAny_call_super (X₁ _ _ hC) rfl hx₁ rfl (fun c z => by cases z) (looks_mroIn X₁ T.mroC) (fun h₂ hso k₂ => ?_)
  have X₂ := X₁.keeps k₂
  have hx₂ := k₂ _ _ hx₁
  have aC : a ≠ C := fun z => by
    subst z
    rw [hnx] at hC
    cases hC
  have hI : Looks (model prog w) h₂ (isInstance (.ref a) (.type bb.nm)) true := Looks.andThen (InstAt.type (C := C) (ox := excO C t0) (od := none) ⟨hx₂, rfl, rfl, trivial⟩) (looks_subIn X₂ hsB)
  refine kxs_getMethod (base_kx bb) hso (looks_opaque X₂ T.any) (l₀ := .ref C :: bm) (fun A Q E s k q => wpAny_bind ((looks_clsIn X₂ hcl) A _ E s k (wpAny_pure q))) rfl X₂ hsup hI aC (by decide) ?_
  refine kxs_callWith (i := bb.initId) (x := a) rfl (evalArgs_plain ?_)
  refine spliced_more (wpAny_Constant_str ?_)
  refine spliced_none ⟨Heap.get?_push_at rfl rfl, ?_⟩
  have k₃ : ∀ b o, h₂.get? b = some o → (h₂.push (kxs_mw bb.initId a)).get? b = some o := fun b o e => Heap.get?_push_of_some _ e
  refine call_mw (base_init bb) (X₂.keeps k₃ _ _ hC) (k₃ _ _ hx₂) (Heap.get?_push_at rfl rfl) (by show 1 ≤ sizeLine; rw [sizeLine_eq]; decide) (fun h₄ t1 k₄ hx₄ => ?_)
  -- self.f = f
  have k₅ : ∀ b o, b ≠ a → hp.get? b = some o → h₄.get? b = some o := fun b o n e => k₄ b o n (k₃ _ _ (k₂ _ _ (k _ _ e)))
  have X₄ : K.In h₄ := fun b o e => k₅ b o (fun z => by rw [z, hnx] at e; cases e) (X _ _ e)
  have hns₄ : h₄.Ns hp.objs.size (fun y => List.lookup y ([(("self" : Str), Value.ref a), (f, v)].reverse)) := hns.at fun o q => k₄ _ _ (fun z => by
    have e := Heap.lt_size hx
    rw [← z] at e
    exact absurd e (Nat.lt_irrefl _)) (k₃ _ _ (k₂ _ _ q))
  refine ks_wpAt_execs_cons (wpAt_of_wpAny (plainObj_wpAny_Assign_Attribute ?_ (F.sw2 _ _ _ _ _ _ _ _ _)))
  refine wpAny_Name (wpAny_loadName_local rfl F.loc hns₄ hmF ?_) F.nd
  refine wpAny_Name (wpAny_loadName_local rfl (by rfl) hns₄ hmS ?_) (by decide)
  refine set_plain X₄ (ox := excO C t1) (od := none) ⟨hx₄, rfl, rfl, trivial⟩ T.sa ?_
  refine exc_osaB (b := bb) X₄ hx₄ hcl (show refsB bb (.ref C :: bm) = true from hbm) rfl T.noN (fun h₅ tk₅ dx k₆ dn dne hx₅ hn₅ => ?_)
  refine wpAt_of_wpAny (wpAny_execs_nil (hq h₅ tk₅ dx t1 ⟨fun b o hb e => k₆ b o hb (k₅ b o hb e), hx₅, Nat.le_of_lt (Nat.lt_of_lt_of_le hns₄.lt dn), dne, hn₅⟩))
structure ErrMade (h h' : Heap) (e C d : Addr) (f : Str) (v : Value) : Prop where
  keep : ∀ b o, h.get? b = some o → h'.get? b = some o
  new : h.objs.size ≤ e
  obj : ∃ oe vs, h'.get? e = some oe ∧ oe.cls = .ref C ∧ oe.dict = some d ∧ oe.data = .fields vs ∧ vs[1]? = some .none
  dbig : h.objs.size ≤ d
  dne : d ≠ e
  ns : h'.Ns1 d (fun y => if y = f then some v else none)
theorem err_made (T : ErrTxt prog K mg x f C fI cc cda) (F : FldOk f) {v : Value} (X : K.In s.heap) (hlim : s.heap.NoLimit) (hG : s.heap.Ns mainGlobals mg)
    (hB : ∃ mb, s.heap.Ns builtinsNs mb ∧ ∀ x : Str, x ≠ "__name__" → mb x = bootBuiltins x) (hroom : A.depth + 1 < recursionLimit)
    (hq : ∀ h' tk e d, ErrMade s.heap h' e C d f v → R (.ok (.ret (.ref e))) { s with heap := h', toks := tk }) :
    codeAny (model prog w) A (.call (.ref C) ⟨[v], []⟩) R s := by
  obtain ⟨bb, nm, q, N, bs, bm, sn, sub, ab, col, dd, k0, k1, k2, k3, k5, hC, hbm, hsu0, hsB⟩ := T.cls
  obtain ⟨mb, hB1, hB2⟩ := hB
  rcases s with ⟨hp, g, dr, tk, os⟩
  have k : ∀ b o, hp.get? b = some o → ((hp.push (kdv_tup [v])).push (excO C hp.objs.size)).get? b = some o := fun b o e => Heap.get?_push_of_some _ (Heap.get?_push_of_some _ e)
  have hget : ((hp.push (kdv_tup [v])).push (excO C hp.objs.size)).get? (hp.objs.size + 1) = some (excO C hp.objs.size) := by heap_get
  have hnx : K.lookup (hp.objs.size + 1) = none := by
    rcases e : K.lookup (hp.objs.size + 1) with _ | o
    · rfl
    · exact absurd (Nat.lt_of_succ_lt (Heap.lt_size (show hp.get? (hp.objs.size + 1) = some o from X _ _ e))) (Nat.lt_irrefl _)
  refine call_ownB (base_exc bb) (.of hbm) (X _ _ hC) (looks_findIn X T.iC) (fun self => bind_fn X self T.tC) (by show 1 ≤ sizeLine; rw [sizeLine_eq]; decide) ?_
  refine err_init (s := ⟨(hp.push (kdv_tup [v])).push (excO C hp.objs.size), g, dr, tk, os⟩) T F (X.keeps k) (hlim.keeps k) (hG.keeps k) ⟨mb, hB1.keeps k, hB2⟩ hget hnx hroom ?_
  rintro h' tk' dx t1 ⟨k', hx, dn, dne, hns⟩
  have old : ∀ b o, hp.get? b = some o → h'.get? b = some o := fun b o e => k' b o (Nat.ne_of_lt (Nat.lt_succ_of_lt (Heap.lt_size e))) (k b o e)
  have z : hp.objs.size + 1 + 1 ≤ dx := by
    first
      | (simpa only [Heap.size_push] using dn)
      | exact dn
      | (have q := dn; rw [Heap.size_push, Heap.size_push] at q; exact q)
  exact ⟨rfl, hq h' tk' (hp.objs.size + 1) dx ⟨old, Nat.le_succ _, ⟨_, _, hx, rfl, rfl, rfl, rfl⟩, (by show hp.objs.size ≤ dx; omega), dne, hns⟩⟩
end
theorem relO_one {f : Str} {v : V} {v' : Value} (r : RelV v v') (g : Str) : RelO (List.lookup g [(f, v)]) (if g = f then some v' else none) := by
  rw [lookup_put]
  by_cases h : g = f
  · rw [if_pos h, if_pos h]; exact r
  · rw [if_neg h, if_neg h]; trivial
section
variable {X : Cx} {W : WX} {C fI cc cda : Addr} {x f : Str}
end
end PD
namespace PD
open PySem PySem.Spec PyProof.Rows L2
def ws (X : Cx) (ss : List Stmt) : TS := fun D σ H => ∀ (pins : List (Addr × Obj)) (s : Shared), Inv X pins σ H s → wpAny (model X.prog X.w) X.A (execs ss X.env) (SP X pins D) X.xe s
def dRaise (k : Nat) (g : DE) (de : DEnds) (st : LS) : Prop := g de.ex st fun d st1 => de.ex ⟨k, d⟩ st1
def dTryX (i : Nat) (tb : Nat → Bool) (gs : XU → DErr → DS) (de : DEnds) (e : DErr) (st : LS) : Prop :=
  cond (tb e.k) (∀ u, gs u e ⟨fun s => de.nx (s.set i .un), de.rt, fun s => de.bk (s.set i .un), fun s => de.ct (s.set i .un), fun _ _ => False⟩ (st.set i (.xc u e))) (de.ex e st)
def dTry (i : Nat) (tb : Nat → Bool) (gb : DS) (gs : XU → DErr → DS) (de : DEnds) (st : LS) : Prop := gb { de with ex := fun e st1 => dTryX i tb gs de e st1 } st
def qXf (f : Str) (e : DErr) : Option D := if exF e.k = f ∧ e.k ≠ 14 then some e.d else none
def dXf (i : Nat) (u : XU) (e : DErr) (f : Str) (_Ex : DX) (st : LS) (Q : D → LS → Prop) : Prop := wpO (qXf f e) fun d => st[i]? = some (S.xc u e) ∧ Q d st
def dXi (i : Nat) (u : XU) (e : DErr) (ib : Nat → Bool) (_Ex : DX) (st : LS) (Q : D → LS → Prop) : Prop := st[i]? = some (S.xc u e) ∧ Q (.bl (ib e.k)) st
section
variable {K : PySem.W.Frag} {mg : Str → Option Value} {C : Cfg} {H0 H H0' H' : Hp} {σ : L2.St} {st : LS}
theorem I.put (i : I K mg C H0 H σ st) {k : Nat} {r : S} {w : Option V} (h : RSlot K mg C H0 H (some r) (some w)) (no : PD.adr r = []) : I K mg C H0 H (σ.set k w) (st.set k r) where
  same := i.same
  up := i.up
  keep := i.keep
  low := i.low
  aa := i.aa
  len := by rw [List.length_set, List.length_set]; exact i.len
  slots := fun j => by
    by_cases hk : k < st.length
    · have hk' : k < σ.length := by rw [← i.len]; exact hk
      rw [getElem?_set_st hk, getElem?_set_st hk']
      by_cases e : j = k
      · rw [if_pos e, if_pos e]; exact h
      · rw [if_neg e, if_neg e]; exact i.slots j
    · rw [List.set_eq_of_length_le (Nat.le_of_not_lt hk), List.set_eq_of_length_le (by rw [← i.len]; exact Nat.le_of_not_lt hk)]
      exact i.slots j
  sep := sep_nil i.sep no
theorem I.unset (i : I K mg C H0 H σ st) (k : Nat) : I K mg C H0 H (σ.set k none) (st.set k .un) := i.put (by trivial) rfl
end
section
variable {X : Cx} {W : WX} {a e : Expr} {x f n : Str} {C fI cc cda : Addr} {g : DE} {p pos pos2 np pos' : Pos} {k m i : Nat}
def kxE (K : PySem.W.Frag) (D : Addr) : Prop := (PySem.W.clsIn K D).isSome = true ∧ PySem.W.findIn K (.ref D) "__getattribute__" = some (some (.builtin "BaseException.__getattribute__")) ∧ PySem.W.findIn K (.ref D) "__getattr__" = some none ∧
  PySem.W.subIn K (.ref D) (.type "BaseException") = some true ∧ PySem.W.findIn K (.ref D) "__class__" = some (some (.builtin "object.__class__")) ∧ PySem.W.specialIn K (.builtin "object.__class__") "__get__" = some (some (.builtin "getset_descriptor.__get__")) ∧
  PySem.W.takesIn K (.builtin "object.__class__") = some true ∧ PySem.W.mroIn K D (.type "object") = some true
end
mutual
def pdat : D → Option PyData
  | .non => some .none
  | .bl b => some (.bool b)
  | .int i => some (.int i)
  | .str x => some (.str x)
  | .glo _ => none
  | .nd .tup ds => (pdatL ds).map .tuple
  | .nd .lst ds => (pdatL ds).map .list
  | .nd _ _ => none
def pdatL : List D → Option (List PyData)
  | [] => some []
  | d :: ds => match pdat d with
    | none => none
    | some p => (pdatL ds).map (p :: ·)
end
section
variable {X : Cx} {pins : List (Addr × Obj)} {σ : L2.St} {s : Shared} {H0 H : Hp}
mutual
theorem reads_of (I : Inv X pins σ H s) (sm : Same H0 H) : ∀ (d : D) (p : PyData) (v : V) (u : Value), pdat d = some p → Rep X.K X.mg H0 d v → RelV v u → ∃ as, Reads s.heap u p as ∧ p.hasDict = false
  | .non, p, v, u, e, h, r => by
    cases e; cases h.non; cases r
    exact ⟨[], .none, rfl⟩
  | .bl b, p, v, u, e, h, r => by
    cases e; cases h.bl; cases r
    exact ⟨[], .bool b, rfl⟩
  | .int b, p, v, u, e, h, r => by
    cases e; cases h.int; obtain ⟨t, rfl⟩ := r
    exact ⟨[], .int b t, rfl⟩
  | .str b, p, v, u, e, h, r => by
    cases e; cases h.str; obtain ⟨t, rfl⟩ := r
    exact ⟨[], .str b t, rfl⟩
  | .glo _, p, v, u, e, h, r => by cases e
  | .nd .tup ds, p, v, u, e, h, r => by
    obtain ⟨a, vs, rfl, h2, h3⟩ := h.nd
    cases r
    cases hp : pdatL ds with
    | none => rw [pdat, hp] at e; cases e
    | some ps =>
      rw [pdat, hp] at e; cases e
      obtain ⟨its, rv, ⟨o, ho, hc, n, hd⟩, _⟩ := I.tuple (h2.mono sm)
      obtain ⟨as, h4, h5⟩ := readsL_of I sm ds ps vs its hp h3 rv
      exact ⟨as, .tuple ho hc hd (by simpa using h4), by simpa [PyData.hasDict] using h5⟩
  | .nd .lst ds, p, v, u, e, h, r => by
    obtain ⟨a, vs, rfl, h2, h3⟩ := h.nd
    cases r
    cases hp : pdatL ds with
    | none => rw [pdat, hp] at e; cases e
    | some ps =>
      rw [pdat, hp] at e; cases e
      obtain ⟨_, its, n, rv, ho⟩ := show ObjOk X.prog X.w H s.heap a (.lst vs) from I.hok a _ (sm _ _ h2)
      obtain ⟨as, h4, h5⟩ := readsL_of I sm ds ps vs its hp h3 rv
      exact ⟨a :: as, .list ho rfl rfl (by simpa using h4), by simpa [PyData.hasDict] using h5⟩
  | .nd .scr ds, p, v, u, e, h, r => by cases e
  | .nd (.dic ks) ds, p, v, u, e, h, r => by cases e
  | .nd (.ins c fs) ds, p, v, u, e, h, r => by cases e
  | .nd (.exc _) ds, p, v, u, e, h, r => by cases e
theorem readsL_of (I : Inv X pins σ H s) (sm : Same H0 H) : ∀ (ds : List D) (ps : List PyData) (vs : List V) (us : List Value), pdatL ds = some ps → RepL X.K X.mg H0 ds vs → Vals vs us → ∃ as, ReadsAll s.heap us ps as ∧ PyData.hasDictAll ps = false
  | [], ps, vs, us, e, h, r => by
    cases e; cases h.nil; cases r
    exact ⟨[], .nil, rfl⟩
  | d :: ds, ps, vs, us, e, h, r => by
    obtain ⟨v, vr, rfl, h2, h3⟩ := h.cons
    cases r with
    | cons r1 r2 =>
      cases hp : pdat d with
      | none => rw [pdatL, hp] at e; cases e
      | some p =>
        cases hq : pdatL ds with
        | none => rw [pdatL, hp, hq] at e; cases e
        | some qs =>
          rw [pdatL, hp, hq] at e; cases e
          obtain ⟨as, a1, a2⟩ := reads_of I sm d p v _ hp h2 r1
          obtain ⟨bs, b1, b2⟩ := readsL_of I sm ds qs vr _ hq h3 r2
          exact ⟨as ++ bs, .cons a1 b1, by simp [PyData.hasDictAll, a2, b2]⟩
end
end
end PD
namespace PD
open PySem PySem.Spec PyProof.Rows L2
section
variable {X : Cx} {W : WX} {a b e : Expr} {es : List Expr} {ga gb : DE} {pos p : Pos} {k : Nat} {f : Addr} {fd : FuncData} {ps : List Str} {x : Str} {n : Nat}
def dDic0 (_Ex : DX) (st : LS) (Q : D → LS → Prop) : Prop := Q (.nd (.dic []) []) st
def dcAD (φ : SpA) (dd : List D) (g : DA) (Ex : DX) (st : LS) (Q : S → LS → Prop) : Prop := g Ex st fun ds st1 => φ (ds ++ dd) (fun e => Ex e st1) fun r => Q r st1
end
end PD
namespace PD
open PySem PySem.Spec PyProof.Rows L2
section
variable {K : PySem.W.Frag} {C D W : Addr}
theorem cls_some (h : PySem.W.hasDictIn K C = true) : (PySem.W.clsIn K C).isSome = true := by
  obtain ⟨cd, hc, _⟩ := PySem.W.any_some h
  rw [hc]; rfl
theorem kit_ref (hd : PySem.W.hasDictIn K W = true) (ht : PySem.W.typeIn K (.ref W) = some (.type "type")) (hs : PySem.W.subIn K (.ref C) (.ref W) = some true) : PySem.W.kitOne K (.ref C) (.ref W) = some true := by
  unfold PySem.W.kitOne PySem.W.kitCls
  split
  · rfl
  · dsimp only
    rw [cls_some hd, ht, hs]; rfl
theorem kxe_mk (ga : PySem.W.findIn K (.ref D) "__getattribute__" = some (some (.builtin "BaseException.__getattribute__"))) (gg : PySem.W.findIn K (.ref D) "__getattr__" = some none) (ex : PySem.W.subIn K (.ref D) (.type "BaseException") = some true) (hd : PySem.W.hasDictIn K D = true)
    (cc : PySem.W.findIn K (.ref D) "__class__" = some (some (.builtin "object.__class__"))) (sp : PySem.W.specialIn K (.builtin "object.__class__") "__get__" = some (some (.builtin "getset_descriptor.__get__"))) (tk : PySem.W.takesIn K (.builtin "object.__class__") = some true) (mo : PySem.W.mroIn K D (.type "object") = some true) : kxE K D :=
  ⟨cls_some hd, ga, gg, ex, cc, sp, tk, mo⟩
end
end PD
namespace PD
open PySem PySem.Spec PyProof.Rows L2
section
variable {X : Cx} {W : WX} {a b e fe : Expr} {es : List Expr} {ga gb gf : DE} {pos p : Pos} {x : Str} {n : Nat}
theorem repL_rep {K : PySem.W.Frag} {mg : Str → Option Value} {H : Hp} {ds : List D} {vs : List V} (h : RepL K mg H ds vs) : ∀ n : Nat, RepL K mg H (List.replicate n ds).flatten (List.replicate n vs).flatten
  | 0 => repL_nil
  | n + 1 => by
    rw [List.replicate_succ, List.replicate_succ, List.flatten_cons, List.flatten_cons]
    exact h.append (repL_rep h n)
end
end PD
namespace PD
open PySem PySem.Spec PyProof.Rows L2
def wsE (X : Cx) (e : Expr) : TE := fun σ H Q => ∀ (pins : List (Addr × Obj)) (s : Shared), Inv X pins σ H s → wpAny (model X.prog X.w) X.A (eval e X.env) (EP X pins σ Q) X.xe s
def wsG (X : Cx) (tg : Expr) : TG := fun v σ H Q => ∀ (pins : List (Addr × Obj)) (s : Shared) (u : Value), Inv X pins σ H s → RelV v u → wpAny (model X.prog X.w) X.A (assign tg X.env u) (fun _ s' => ∃ σ' H', Inv X pins σ' H' s' ∧ Q σ' H') X.xe s
def wsT (X : Cx) (ifs : List Expr) : TT := fun σ H Q => ∀ (pins : List (Addr × Obj)) (s : Shared), Inv X pins σ H s →
    wpAny (model X.prog X.w) X.A (forIn ifs true fun test so => if so = true then do let b ← isTrue test X.env (eval test X.env); pure (ForInStep.yield b) else pure (ForInStep.yield so)) (TP X pins σ Q) X.xe s
def stW (st : LS) : List Nat → LS
  | [] => st
  | v :: vs => (stW st vs).set v .un
structure PGW (X : Cx) (e : Expr) (vs : List Nat) (g : DG) : Prop where
  ex : ∃ t, PG X e t ∧ ∀ (C : Cfg) (H0 H : Hp) (σ : L2.St) (st : LS) (d : D) (v : V) (Q : LS → Prop) (Qv : L2.St → Hp → Prop), I X.K X.mg C H0 H σ st → Rep X.K X.mg H0 d v →
    (∀ st' σ' H0' H', Q st' → I X.K X.mg C H0' H' σ' st' → Same H0 H0' → wipe σ' vs = wipe σ vs → Qv σ' H') → g d st Q → t v σ H Qv
theorem wipe_set {σ : L2.St} {i : Nat} {x : Option V} : ∀ {vs : List Nat}, i ∈ vs → wipe (σ.set i x) vs = wipe σ vs
  | [], h => by cases h
  | v :: vs, h => by
    unfold wipe
    by_cases e : i ∈ vs
    · rw [wipe_set e]
    · have hv : i = v := by
        rcases List.mem_cons.mp h with h | h
        · exact h
        · exact absurd h e
      subst hv
      have key : ∀ (ws : List Nat), i ∉ ws → wipe (σ.set i x) ws = (wipe σ ws).set i x := by
        intro ws
        induction ws with
        | nil => intro _; rfl
        | cons w ws ih =>
          intro hw
          unfold wipe
          have h1 : i ≠ w := fun z => hw (z ▸ List.mem_cons_self)
          rw [ih (fun z => hw (List.mem_cons_of_mem _ z)), List.set_comm _ _ h1]
      rw [key vs e, List.set_set]
theorem wipe_get (σ : L2.St) (j : Nat) : ∀ vs : List Nat, (wipe σ vs)[j]? = if j ∈ vs then σ[j]?.map (fun _ => none) else σ[j]?
  | [] => by simp [wipe]
  | v :: vs => by
    unfold wipe
    by_cases hv : v = j
    · subst hv
      rw [if_pos List.mem_cons_self]
      by_cases hl : v < (wipe σ vs).length
      · rw [List.getElem?_set_self hl]
        rw [wipe_length] at hl
        simp [hl]
      · rw [List.set_eq_of_length_le (Nat.le_of_not_lt hl), List.getElem?_eq_none (Nat.le_of_not_lt hl)]
        rw [wipe_length] at hl
        rw [List.getElem?_eq_none (Nat.le_of_not_lt hl)]; rfl
    · rw [List.getElem?_set_ne hv, wipe_get σ j vs]
      by_cases h : j ∈ vs
      · rw [if_pos h, if_pos (List.mem_cons_of_mem _ h)]
      · rw [if_neg h, if_neg (fun z => by rcases List.mem_cons.mp z with z | z; exact hv z.symm; exact h z)]
theorem wipe_idem (σ : L2.St) (vs : List Nat) : wipe (wipe σ vs) vs = wipe σ vs := by
  refine List.ext_getElem? fun j => ?_
  rw [wipe_get, wipe_get]
  by_cases h : j ∈ vs
  · rw [if_pos h, if_pos h]
    cases σ[j]? <;> rfl
  · simp [h]
theorem stW_get (σ : LS) (j : Nat) : ∀ vs : List Nat, (stW σ vs)[j]? = if j ∈ vs then σ[j]?.map (fun _ => S.un) else σ[j]?
  | [] => by simp [stW]
  | v :: vs => by
    have len : ∀ vs : List Nat, (stW σ vs).length = σ.length := fun vs => by
      induction vs with
      | nil => rfl
      | cons v vs ih => unfold stW; rw [List.length_set, ih]
    unfold stW
    by_cases hv : v = j
    · subst hv
      rw [if_pos List.mem_cons_self]
      by_cases hl : v < (stW σ vs).length
      · rw [List.getElem?_set_self hl]
        rw [len] at hl
        simp [hl]
      · rw [List.set_eq_of_length_le (Nat.le_of_not_lt hl), List.getElem?_eq_none (Nat.le_of_not_lt hl)]
        rw [len] at hl
        rw [List.getElem?_eq_none (Nat.le_of_not_lt hl)]; rfl
    · rw [List.getElem?_set_ne hv, stW_get σ j vs]
      by_cases h : j ∈ vs
      · rw [if_pos h, if_pos (List.mem_cons_of_mem _ h)]
      · rw [if_neg h, if_neg (fun z => by rcases List.mem_cons.mp z with z | z; exact hv z.symm; exact h z)]
theorem stW_idem (σ : LS) (vs : List Nat) : stW (stW σ vs) vs = stW σ vs := by
  refine List.ext_getElem? fun j => ?_
  rw [stW_get, stW_get]
  by_cases h : j ∈ vs
  · rw [if_pos h, if_pos h]
    cases σ[j]? <;> rfl
  · simp [h]
theorem pgw_name {X : Cx} {i : Nat} {x : Str} {pos : Pos} {vs : List Nat} (hN : X.N.Nodup) (hi : X.N[i]? = some x) (hx : Loc X.env.scope x) (hv : i ∈ vs) (hf : X.fn x = true ∨ X.env.scope.names.lookup x = some .local := by first | exact .inl rfl | exact .inr rfl | assumption) : PGW X (.Name x pos) vs (gdName i) :=
  ⟨_, pg_name hN hi hx hf, fun C H0 H σ st d v Q Qv hI hr k hg => k _ _ H0 H hg (hI.set (r := .fz d) hr) (Same.refl _) (wipe_set hv)⟩
section
variable {K : PySem.W.Frag} {mg : Str → Option Value} {C : Cfg} {H0 H : Hp} {σ : L2.St} {st : LS}
theorem I.wipe (i : I K mg C H0 H σ st) : ∀ vs : List Nat, I K mg C H0 H (wipe σ vs) (stW st vs)
  | [] => i
  | v :: vs => (I.wipe i vs).unset v
theorem stW_length (st : LS) : ∀ vs : List Nat, (stW st vs).length = st.length
  | [] => rfl
  | v :: vs => by unfold stW; rw [List.length_set, stW_length st vs]
theorem stW_in {st : LS} {i : Nat} : ∀ {vs : List Nat}, i ∈ vs → ∀ {s : S}, (stW st vs)[i]? = some s → s = .un
  | [], h, _, _ => by cases h
  | v :: vs, h, s, e => by
    unfold stW at e
    by_cases hl : v < (stW st vs).length
    · rw [getElem?_set_st hl] at e
      by_cases hv : i = v
      · rw [if_pos hv] at e; cases e; rfl
      · rw [if_neg hv] at e
        rcases List.mem_cons.mp h with z | z
        · exact absurd z hv
        · exact stW_in z e
    · rw [List.set_eq_of_length_le (Nat.le_of_not_lt hl)] at e
      by_cases hv : i = v
      · subst hv
        rw [List.getElem?_eq_none (Nat.le_of_not_lt hl)] at e; cases e
      · rcases List.mem_cons.mp h with z | z
        · exact absurd z hv
        · exact stW_in z e
theorem I.unwipe {vs : List Nat} (hl : st.length = σ.length) (i : I K mg C H0 H (L2.wipe σ vs) (stW st vs)) : I K mg C H0 H σ (stW st vs) where
  same := i.same
  up := i.up
  keep := i.keep
  low := i.low
  aa := i.aa
  len := by rw [stW_length]; exact hl
  slots := fun j => by
    by_cases h : j ∈ vs
    · cases e : (stW st vs)[j]? with
      | none => trivial
      | some s =>
        obtain rfl := stW_in h e
        trivial
    · have := i.slots j
      rw [wipe_out h] at this
      exact this
  sep := i.sep
def Cfg.pin (C : Cfg) (D : Addr) (acc : List V) : Cfg := ⟨C.B0, upd C.B D (.lst acc), C.A⟩
theorem I.pinned {D : Addr} (i : I K mg C H0 H σ st) (hD : H D = none) : I K mg (C.pin D []) H0 (upd H D (.lst [])) σ st := by
  have j := i.own (o := .lst []) hD
  have h0 := i.same.free hD
  refine ⟨j.same, j.up, fun b o e n => ?_, fun b o e n => ?_, j.aa, j.len, fun k => ?_, j.sep⟩
  · by_cases q : b = D
    · subst q; rw [upd_same]; rw [show (C.pin b []).B b = some (.lst []) from upd_same] at e; exact e
    · rw [show (C.pin D []).B b = C.B b from upd_ne q] at e
      exact j.keep b o e n
  · by_cases q : b = D
    · subst q; exact h0
    · rw [show (C.pin D []).B b = C.B b from upd_ne q] at e
      exact j.low b o e n
  · refine (j.slots k).cfg (fun x hx hB => ?_) fun x _ hA => hA
    obtain ⟨s, e1, e2⟩ := adrO_some hx
    have ne : x ≠ D := fun z => (i.fresh hD).2 k s e1 (z ▸ e2)
    exact (upd_ne ne).trans hB
theorem I.keepD {D : Addr} {vacc : List V} (hA : D ∉ C.A) (i : I K mg (C.pin D vacc) H0 H σ st) : H D = some (.lst vacc) :=
  i.keep D _ upd_same hA
theorem I.push {D : Addr} {vacc : List V} {y : V} (hA : D ∉ C.A) (h0 : C.B0 D = none) (i : I K mg (C.pin D vacc) H0 H σ st) : I K mg (C.pin D (vacc ++ [y])) H0 (upd H D (.lst (vacc ++ [y]))) σ st := by
  have hD := i.keepD hA
  have l0 : H0 D = none := i.low D _ upd_same h0
  refine ⟨fun b o e => ?_, i.up, fun b o e n => ?_, fun b o e n => ?_, fun a ha => ?_, i.len, fun k => ?_, i.sep⟩
  · rw [upd_ne (ne_of_none e l0)]; exact i.same _ _ e
  · by_cases q : b = D
    · subst q; rw [upd_same]; rw [show (C.pin b (vacc ++ [y])).B b = some (.lst (vacc ++ [y])) from upd_same] at e; exact e
    · rw [show (C.pin D (vacc ++ [y])).B b = C.B b from upd_ne q] at e
      rw [upd_ne q]
      exact i.keep b o ((show (C.pin D vacc).B b = C.B b from upd_ne q).trans e) n
  · by_cases q : b = D
    · subst q; exact l0
    · rw [show (C.pin D (vacc ++ [y])).B b = C.B b from upd_ne q] at e
      exact i.low b o ((show (C.pin D vacc).B b = C.B b from upd_ne q).trans e) n
  · obtain ⟨o, e⟩ := i.aa a ha
    by_cases q : a = D
    · subst q; exact ⟨_, upd_same⟩
    · exact ⟨o, by rw [upd_ne q]; exact e⟩
  · have own : ∀ x ∈ adrO st[k]?, x ≠ D := fun x hx z => by
      obtain ⟨_, h, _⟩ := i.adr hx
      rcases h with h | h
      · exact hA (z ▸ h)
      · rw [z, show (C.pin D vacc).B D = some (.lst vacc) from upd_same] at h; cases h
    have j := (i.slots k).move (H' := upd H D (.lst (vacc ++ [y]))) (Same.refl _) fun x hx => ⟨(i.adr hx).1, fun o e => by rw [upd_ne (own x hx)]; exact e⟩
    exact j.cfg (fun x hx hB => (show (C.pin D (vacc ++ [y])).B x = none from (upd_ne (own x hx)).trans ((show (C.pin D vacc).B x = C.B x from upd_ne (own x hx)) ▸ hB))) fun x _ hx => hx
theorem I.unpin {D : Addr} {vacc : List V} {acc : List PD.D} (hD : C.B D = none) (hA : D ∉ C.A) (h0 : C.B0 D = none) (i : I K mg (C.pin D vacc) H0 H σ st) (r : RepL K mg H0 acc vacc) :
    I K mg C H0 H σ st ∧ RepR K mg C H0 H st (.ow D true (.nd .lst acc)) (.ref D) := by
  have e1 : ∀ b o, C.B b = some o → (C.pin D vacc).B b = some o := fun b o e => by
    rw [show (C.pin D vacc).B b = C.B b from upd_ne (ne_of_none e hD)]; exact e
  refine ⟨⟨i.same, i.up, fun b o e n => i.keep b o (e1 b o e) n, fun b o e n => i.low b o (e1 b o e) n, i.aa, i.len, fun k => ?_, i.sep⟩, rfl, rfl, i.low D _ upd_same h0, hD, fun k s e hx => ?_, vacc, i.keepD hA, r⟩
  · refine (i.slots k).cfg (fun x hx hB => ?_) fun x _ hx => hx
    cases z : C.B x with
    | none => rfl
    | some o => rw [e1 x o z] at hB; cases hB
  · obtain ⟨_, h, _⟩ := i.adr (k := k) (x := D) (by rw [e]; exact hx)
    rcases h with h | h
    · exact hA h
    · rw [show (C.pin D vacc).B D = some (.lst vacc) from upd_same] at h; cases h
end
def dLcL (t : DG) (tt : DT) (ge : DE) (vs : List Nat) : List D → List D → LS → (List D → LS → Prop) → Prop
  | [], acc, st, Q => Q acc st
  | d :: r, acc, st, Q => t d st fun st1 => tt (fun _ _ => False) st1 fun b st2 =>
    cond b (ge (fun _ _ => False) st2 fun y st3 => dLcL t tt ge vs r (acc ++ [y]) (stW st3 vs) Q) (dLcL t tt ge vs r acc (stW st2 vs) Q)
def dLc (i : DI) (t : DG) (tt : DT) (ge : DE) (vs : List Nat) (Ex : DX) (st : LS) (Q : S → LS → Prop) : Prop := i Ex st fun ds st1 => ds.length ≤ 16777216 ∧ dLcL t tt ge vs ds [] (stW st1 vs) fun acc st2 => ∀ p, Q (.ow p true (.nd .lst acc)) st2
def dYes (_u0 : DX) (st : LS) (Q : Bool → LS → Prop) : Prop := Q true st
structure PTsD (X : Cx) (W : WX) (ifs : List Expr) (g : DT) : Prop where
  ex : ∃ t, PTs X ifs t ∧ ∀ (C : Cfg) (H0 H : Hp) (σ : L2.St) (st : LS) (Ex : DX) (Q : Bool → LS → Prop) (Qv : Bool → Hp → Prop), I X.K X.mg C H0 H σ st → LkX X.K X.mg C H0 σ W Ex →
    (∀ d st' H0' H', Q d st' → I X.K X.mg C H0' H' σ st' → Same H0 H0' → Qv d H') → g Ex st Q → t σ H Qv
theorem ptsd_nil {X : Cx} {W : WX} : PTsD X W [] dYes := ⟨_, pts_nil, fun C H0 H σ st Ex Q Qv hI hX hQ hg => hQ true st H0 H hg hI (Same.refl _)⟩
abbrev WN : WX := fun _ _ _ _ => False
theorem takes_N {X : Cx} : Takes X WN := fun u s' ⟨a, B, sI, pins, σ, H, cls, d, e, I, nb, up, sky, na, os, ag, w⟩ => w.elim
structure PGWs (X : Cx) (es : List Expr) (vs : List Nat) (g : DGs) : Prop where
  ex : ∃ t, PGs X es t ∧ ∀ (C : Cfg) (H0 H : Hp) (σ : L2.St) (st : LS) (ds : List D) (us : List V) (Q : LS → Prop) (Qv : L2.St → Hp → Prop), I X.K X.mg C H0 H σ st → RepL X.K X.mg H0 ds us →
    (∀ st' σ' H0' H', Q st' → I X.K X.mg C H0' H' σ' st' → Same H0 H0' → wipe σ' vs = wipe σ vs → Qv σ' H') → g ds st Q → t us σ H Qv
section
variable {X : Cx} {W : WX} {e elt tg iter : Expr} {es ifs : List Expr} {pos : Pos} {vs : List Nat}
abbrev gLc (X : Cx) (scope : Scope) (tg : Expr) : TG := fun v σ H Q => ∀ (s : Shared) (H' : Hp) (C : Addr) (cl : List (Str × Addr)) (fp : List Addr), wsG (X.blk s H' scope (compEnvC scope cl C X.env) fp) tg v σ H Q
abbrev ttLc (X : Cx) (scope : Scope) (ifs : List Expr) : TT := fun σ H Q => ∀ (s : Shared) (H' : Hp) (C : Addr) (cl : List (Str × Addr)) (fp : List Addr), wsT (X.blk s H' scope (compEnvC scope cl C X.env) fp) ifs σ H Q
abbrev teLc (X : Cx) (scope : Scope) (elt : Expr) : TE := fun σ H Q => ∀ (s : Shared) (H' : Hp) (C : Addr) (cl : List (Str × Addr)) (fp : List Addr), wsE (X.blk s H' scope (compEnvC scope cl C X.env) fp) elt σ H Q
theorem lc_sem {scope : Scope} {own : List (Str × Nat)} {gi : DI} {t : DG} {tt : DT} {ge : DE} {wi : TI}
    (qi : ∀ (C : Cfg) (H0 H : Hp) (σ : L2.St) (st : LS) (Ex : DX) (Q : List D → LS → Prop) (R : It → Hp → Prop), I X.K X.mg C H0 H σ st → LkX X.K X.mg C H0 σ W Ex →
      (∀ ds st' J H0' H', Q ds st' → I X.K X.mg C H0' H' σ st' → Same H0 H0' → ItOk X.K X.mg J H0' ds → R J H') → gi Ex st Q → wi σ H R)
    (hg : ∀ (s : Shared) (H : Hp) (C : Addr) (cl : List (Str × Addr)) (fp : List Addr), PGW (X.blk s H scope (compEnvC scope cl C X.env) fp) tg (own.map (·.2)) t)
    (ht : ∀ (s : Shared) (H : Hp) (C : Addr) (cl : List (Str × Addr)) (fp : List Addr), PTsD (X.blk s H scope (compEnvC scope cl C X.env) fp) WN ifs tt)
    (he : ∀ (s : Shared) (H : Hp) (C : Addr) (cl : List (Str × Addr)) (fp : List Addr), PED (X.blk s H scope (compEnvC scope cl C X.env) fp) WN elt ge)
    (C : Cfg) (H0 H : Hp) (σ : L2.St) (st : LS) (Ex : DX) (Q : S → LS → Prop) (Qv : VK) (hI : I X.K X.mg C H0 H σ st) (hX : LkX X.K X.mg C H0 σ W Ex)
    (hQ : ∀ r st' v H0' H', Q r st' → I X.K X.mg C H0' H' σ st' → Same H0 H0' → RepR X.K X.mg C H0' H' st' r v → Qv v H') (hg' : dLc gi t tt ge (own.map (·.2)) Ex st Q) :
    tLc wi (gLc X scope tg) (ttLc X scope ifs) (teLc X scope elt) (own.map (·.2)) σ H Qv := by
  refine qi C H0 H σ st Ex _ _ hI hX (fun ds st1 J H1 K1 q1 i1 s1 j1 => ?_) hg'
  intro D hD
  obtain ⟨hz, q1⟩ := q1
  obtain ⟨fB, _⟩ := i1.fresh hD
  have fA : D ∉ C.A := fun z => by obtain ⟨o, e⟩ := i1.aa D z; rw [hD] at e; cases e
  have f0 : C.B0 D = none := by
    cases z : C.B0 D with
    | none => rfl
    | some o => have := i1.same _ _ (i1.up _ _ z); rw [hD] at this; cases this
  refine ⟨fun i m H' => m = ds.length - i ∧ i ≤ ds.length ∧ ∃ H2 st2 acc vacc, I X.K X.mg (C.pin D vacc) H2 H' (wipe σ (own.map (·.2))) st2 ∧ st2 = stW st2 (own.map (·.2)) ∧ Same H1 H2 ∧ RepL X.K X.mg H2 acc vacc ∧ acc.length ≤ i ∧
    dLcL t tt ge (own.map (·.2)) (ds.drop i) acc st2 (fun acc st2 => ∀ p, Q (.ow p true (.nd .lst acc)) st2), ⟨ds.length, by simp, Nat.zero_le _, H1, _, [], [], (i1.pinned hD).wipe _, ?_, Same.refl _, repL_nil, Nat.le_refl _, by simpa using q1⟩, ?_⟩
  · exact (stW_idem _ _).symm
  rintro i m H' ⟨rfl, hle, H2, st2, acc, vacc, i2, w2, s2, r2, l2, q2⟩
  by_cases hlt : i < ds.length
  · refine .inr ⟨j1.go i H' (s2.trans i2.same) hlt, fun H3 => ∃ H4 st4 acc4 vacc4, I X.K X.mg (C.pin D vacc4) H4 H3 (wipe σ (own.map (·.2))) st4 ∧ st4 = stW st4 (own.map (·.2)) ∧ Same H1 H4 ∧ RepL X.K X.mg H4 acc4 vacc4 ∧ acc4.length ≤ i + 1 ∧
      dLcL t tt ge (own.map (·.2)) (ds.drop (i + 1)) acc4 st4 (fun acc st2 => ∀ p, Q (.ow p true (.nd .lst acc)) st2), fun H3 ⟨H4, st4, acc4, vacc4, i4, w4, s4, r4, l4, q4⟩ => ⟨ds.length - (i + 1), by omega, rfl, hlt, H4, st4, acc4, vacc4, i4, w4, s4, r4, l4, q4⟩, fun x H3 y => ?_⟩
    obtain ⟨H4, d, hd, s4, i4, r4⟩ := j1.yld _ i H2 H' x H3 _ st2 s2 hlt i2 y
    have ed : ds.drop i = d :: ds.drop (i + 1) := by
      obtain ⟨hk, e⟩ := List.getElem?_eq_some_iff.mp hd
      rw [List.drop_eq_getElem_cons hk, e]
    rw [ed] at q2
    intro sB HB CB cl fp
    obtain ⟨tg', pg, qg⟩ := (hg sB HB CB cl fp).ex
    intro pins s' u Iv rv
    refine pg.run pins s' _ H3 x u _ Iv rv (qg _ H4 H3 _ st2 d x _ _ i4 r4 (fun st5 σ5 H5 K5 q5 i5 s5 e5 => ?_) q2)
    rw [wipe_idem] at e5
    refine ⟨e5, fun sB HB CB cl fp => ?_⟩
    obtain ⟨tt', pt, qt⟩ := (ht sB HB CB cl fp).ex
    intro pins s' Iv
    have up4 : Same H2 H5 := s4.trans s5
    refine pt.run pins s' σ5 K5 _ Iv (qt _ H5 K5 σ5 st5 _ _ _ i5 (fun _ _ _ _ _ _ z => z.elim) (fun b st6 H6 K6 q6 i6 s6 => ?_) q5)
    cases b with
    | false =>
      refine iteF ?_
      have i7 := i6.wipe (own.map (·.2))
      rw [e5] at i7
      exact ⟨H6, _, acc, vacc, i7, (stW_idem _ _).symm, s2.trans (up4.trans s6), RepL.mono (up4.trans s6) _ _ r2, by omega, q6⟩
    | true =>
      refine iteT fun sB HB CB cl fp => ?_
      obtain ⟨te', pe, qe⟩ := (he sB HB CB cl fp).ex
      intro pins s' Iv
      refine pe.run pins s' σ5 K6 _ Iv (qe _ H6 K6 σ5 st6 _ _ _ i6 (fun _ _ _ _ _ _ z => z.elim) (fun y st7 yv H7 K7 q7 i7 s7 r7 => ?_) q6)
      have hD7 := i7.keepD fA
      refine ⟨vacc, hD7, ?_, ?_⟩
      · have := r2.length
        show vacc.length < 16777216
        omega
      have i8 := (i7.push (y := yv) fA f0).wipe (own.map (·.2))
      rw [e5] at i8
      have up7 : Same H2 H7 := up4.trans (s6.trans s7)
      exact ⟨H7, _, acc ++ [y], vacc ++ [yv], i8, (stW_idem _ _).symm, s2.trans up7, RepL.append (RepL.mono up7 _ _ r2) (repL_cons r7 repL_nil), by rw [List.length_append]; simp; omega, q7⟩
  · have e : i = ds.length := by omega
    subst e
    rw [List.drop_length] at q2
    refine .inl ⟨j1.stop H' (s2.trans i2.same), ?_⟩
    rw [w2] at i2
    have hl : st2.length = σ.length := by
      have := i2.len
      rw [stW_length, wipe_length] at this
      exact this
    have i3 := i2.unwipe hl
    rw [← w2] at i3
    obtain ⟨i4, r4⟩ := i3.unpin fB fA f0 r2
    exact hQ _ st2 _ H2 H' (q2 D) i4 (s1.trans s2) r4
end
end PD
namespace PD
open PySem PySem.Spec PyProof.Rows L2
inductive Res (ε α : Type) where
  | ok (a : α) | ex (e : ε) | no
section
variable {ε ε' α β : Type}
def wp (m : Res ε α) (Ex : ε → Prop) (Q : α → Prop) : Prop := match m with
  | .ok a => Q a
  | .ex e => Ex e
  | .no => False
def bO (o : Option α) (f : α → Res ε β) : Res ε β := match o with
  | some a => f a
  | none => .no
def bR (m : Res ε α) (f : α → Res ε β) : Res ε β := match m with
  | .ok a => f a
  | .ex e => .ex e
  | .no => .no
def noEx (m : Res ε α) : Res ε' α := match m with
  | .ok a => .ok a
  | _ => .no
inductive Ctl (α β : Type) where
  | nx (b : β) | bk (b : β) | rt (a : α)
def forR : List D → β → (D → β → Res ε (Ctl α β)) → Res ε (Ctl α β)
  | [], b, _ => .ok (.nx b)
  | x :: r, b, f => bR (f x b) fun c => match c with
    | .nx b' => forR r b' f
    | .bk b' => .ok (.nx b')
    | .rt a => .ok (.rt a)
def ctl {γ : Type} (c : Ctl γ β) (r : γ → Res ε α) (n : β → Res ε α) : Res ε α := match c with
  | .nx b => n b
  | .bk b => n b
  | .rt a => r a
def mapR : List D → (D → Res ε D) → Res ε (List D)
  | [], _ => .ok []
  | x :: r, f => bR (f x) fun y => bR (mapR r f) fun ys => .ok (y :: ys)
def filR : List D → (D → Res ε Bool) → (D → Res ε D) → Res ε (List D)
  | [], _, _ => .ok []
  | x :: r, t, f => bR (t x) fun b => cond b (bR (f x) fun y => bR (filR r t f) fun ys => .ok (y :: ys)) (filR r t f)
def mapS : List D → D → (D → D → Res ε (D × D)) → Res ε (List D × D)
  | [], s, _ => .ok ([], s)
  | x :: r, s, f => bR (f x s) fun y => bR (mapS r y.2 f) fun ys => .ok (y.1 :: ys.1, ys.2)
def qSz (ds : List D) : Option (List D) := if ds.length ≤ 16777216 then some ds else none
theorem wp_ok {a : α} {Ex : ε → Prop} {Q : α → Prop} : wp (.ok a) Ex Q = Q a := rfl
theorem wp_ex {e : ε} {Ex : ε → Prop} {Q : α → Prop} : wp (.ex e) Ex Q = Ex e := rfl
theorem wp_bO {o : Option α} {f : α → Res ε β} {Ex : ε → Prop} {Q : β → Prop} : wp (bO o f) Ex Q = wpO o fun a => wp (f a) Ex Q := by cases o <;> rfl
theorem wp_bR {m : Res ε α} {f : α → Res ε β} {Ex : ε → Prop} {Q : β → Prop} : wp (bR m f) Ex Q = wp m Ex fun a => wp (f a) Ex Q := by cases m <;> rfl
theorem wp_cond {b : Bool} {x y : Res ε α} {Ex : ε → Prop} {Q : α → Prop} : wp (cond b x y) Ex Q = cond b (wp x Ex Q) (wp y Ex Q) := by cases b <;> rfl
theorem wp_noEx {m : Res ε α} {Ex : ε' → Prop} {Q : α → Prop} : wp (noEx m) Ex Q = wp m (fun _ => False) Q := by cases m <;> rfl
def ctlP (c : Ctl α β) (n b : β → Prop) (r : α → Prop) : Prop := match c with
  | .nx x => n x
  | .bk x => b x
  | .rt x => r x
theorem ctlP_nx {x : β} {n b : β → Prop} {r : α → Prop} : ctlP (.nx x) n b r = n x := rfl
theorem ctlP_bk {x : β} {n b : β → Prop} {r : α → Prop} : ctlP (.bk x) n b r = b x := rfl
theorem ctlP_rt {x : α} {n b : β → Prop} {r : α → Prop} : ctlP (.rt x) n b r = r x := rfl
theorem ctlP_imp {c : Ctl α β} {n b n' b' : β → Prop} {r r' : α → Prop} (h1 : ∀ x, n x → n' x) (h2 : ∀ x, b x → b' x) (h3 : ∀ x, r x → r' x) (q : ctlP c n b r) : ctlP c n' b' r' := by
  cases c with
  | nx x => exact h1 x q
  | bk x => exact h2 x q
  | rt x => exact h3 x q
theorem wp_ctl {γ : Type} {c : Ctl γ β} {r : γ → Res ε α} {n : β → Res ε α} {Ex : ε → Prop} {Q : α → Prop} : wp (ctl c r n) Ex Q = ctlP c (fun b => wp (n b) Ex Q) (fun b => wp (n b) Ex Q) (fun a => wp (r a) Ex Q) := by cases c <;> rfl
theorem wpO_imp {o : Option α} {Q Q' : α → Prop} (h : ∀ d, Q d → Q' d) (q : wpO o Q) : wpO o Q' := by
  cases o with
  | none => exact q
  | some a => exact h a q
theorem wp_imp {m : Res ε α} {Ex Ex' : ε → Prop} {Q Q' : α → Prop} (he : ∀ e, Ex e → Ex' e) (h : ∀ d, Q d → Q' d) (q : wp m Ex Q) : wp m Ex' Q' := by
  cases m with
  | no => exact q
  | ex e => exact he e q
  | ok a => exact h a q
theorem cond_imp {b : Bool} {A B A' B' : Prop} (ha : A → A') (hb : B → B') (q : cond b A B) : cond b A' B' := by
  cases b
  · exact hb q
  · exact ha q
theorem all_addr {P : Prop} : (∀ _ : Addr, P) = P := propext ⟨fun h => h (0 : Nat), fun h _ => h⟩
end
def loopE (de : DEnds) (nx bk : LS → Prop) : DEnds := { de with nx := nx, ct := nx, bk := bk }
def thenE (de : DEnds) (b : DS) : DEnds := { de with nx := fun s => b de s }
def tryE (de : DEnds) (i : Nat) (tb : Nat → Bool) (gs : XU → DErr → DS) : DEnds := { de with ex := fun e s => dTryX i tb gs de e s }
def suitE (de : DEnds) (i : Nat) : DEnds := ⟨fun s => de.nx (s.set i .un), de.rt, fun s => de.bk (s.set i .un), fun s => de.ct (s.set i .un), fun _ _ => False⟩
theorem sim_for {α β : Type} {t : DG} {b : DS} {de : DEnds} {step : D → β → Res DErr (Ctl α β)} {Ex : DErr → Prop} {K : β → Prop} {R : α → Prop} (V : β → LS → Prop)
    (hs : ∀ x c s (K' B' : β → Prop) (nx bk : LS → Prop), V c s → (∀ c' s', V c' s' → K' c' → nx s') → (∀ c' s', V c' s' → B' c' → bk s') → wp (step x c) Ex (fun c => ctlP c K' B' R) → t x s fun s1 => b (loopE de nx bk) s1)
    (hd : ∀ c s, V c s → K c → de.nx s) : ∀ (items : List D) (c : β) (s : LS), V c s → wp (forR items c step) Ex (fun c => ctlP c K K R) → dForL t b items de s
  | [], c, s, v, h => hd c s v h
  | x :: r, c, s, v, h => by
    unfold forR at h
    rw [wp_bR] at h
    unfold dForL
    refine hs x c s (fun c' => wp (forR r c' step) Ex (fun c => ctlP c K K R)) K _ _ v (fun c' s' v' h' => sim_for V hs hd r c' s' v' h') hd ?_
    refine wp_imp (fun e h => h) (fun c h => ?_) h
    cases c <;> exact h
abbrev NE : DErr → Prop := fun _ => False
theorem sim_map {t : DG} {ge : DE} {vs : List Nat} {f : D → Res DErr D} {st0 : LS} {K : List D → LS → Prop}
    (hs : ∀ x (Q : D → Prop) (K' : D → LS → Prop), (∀ y s, stW s vs = st0 → Q y → K' y s) → wp (f x) NE Q → t x st0 fun st1 => ge (fun _ _ => False) st1 K') :
    ∀ (ds acc : List D) (Q : List D → Prop), (∀ ys, Q ys → K (acc ++ ys) st0) → wp (mapR ds f) NE Q → dLcL t dYes ge vs ds acc st0 K
  | [], acc, Q, hQ, h => by
    have := hQ [] h
    rw [List.append_nil] at this
    exact this
  | x :: r, acc, Q, hQ, h => by
    unfold mapR at h
    simp only [wp_bR, wp_ok] at h
    unfold dLcL dYes
    refine hs x _ _ (fun y s es q => ?_) h
    rw [es]
    exact sim_map hs r (acc ++ [y]) _ (fun ys q' => by rw [List.append_assoc]; exact hQ _ q') q
theorem sim_fil {t : DG} {tt : DT} {ge : DE} {vs : List Nat} {p : D → Res DErr Bool} {f : D → Res DErr D} {st0 : LS} {K : List D → LS → Prop}
    (hs : ∀ x (Q : D → Prop) (P : Prop) (K1 : D → LS → Prop) (K0 : LS → Prop), (∀ y s, stW s vs = st0 → Q y → K1 y s) → (∀ s, stW s vs = st0 → P → K0 s) →
      wp (p x) NE (fun b => cond b (wp (f x) NE Q) P) → t x st0 fun st1 => tt (fun _ _ => False) st1 fun b st2 => cond b (ge (fun _ _ => False) st2 K1) (K0 st2)) :
    ∀ (ds acc : List D) (Q : List D → Prop), (∀ ys, Q ys → K (acc ++ ys) st0) → wp (filR ds p f) NE Q → dLcL t tt ge vs ds acc st0 K
  | [], acc, Q, hQ, h => by
    have := hQ [] h
    rw [List.append_nil] at this
    exact this
  | x :: r, acc, Q, hQ, h => by
    unfold filR at h
    simp only [wp_bR, wp_ok, wp_cond] at h
    unfold dLcL
    refine hs x _ _ _ _ (fun y s es q => ?_) (fun s es q => ?_) h
    · rw [es]
      exact sim_fil hs r (acc ++ [y]) _ (fun ys q' => by rw [List.append_assoc]; exact hQ _ q') q
    · rw [es]
      exact sim_fil hs r acc _ hQ q
theorem sim_mapS {t : DG} {ge : DE} {vs : List Nat} {f : D → D → Res DErr (D × D)} {st0 : D → LS} {K : List D → LS → Prop}
    (hs : ∀ x o (Q : D × D → Prop) (K' : D → LS → Prop), (∀ y o' s, stW s vs = st0 o' → Q (y, o') → K' y s) → wp (f x o) NE Q → t x (st0 o) fun st1 => ge (fun _ _ => False) st1 K') :
    ∀ (ds acc : List D) (o : D) (Q : List D × D → Prop), (∀ ys o', Q (ys, o') → K (acc ++ ys) (st0 o')) → wp (mapS ds o f) NE Q → dLcL t dYes ge vs ds acc (st0 o) K
  | [], acc, o, Q, hQ, h => by
    have := hQ [] o h
    rw [List.append_nil] at this
    exact this
  | x :: r, acc, o, Q, hQ, h => by
    unfold mapS at h
    simp only [wp_bR, wp_ok] at h
    unfold dLcL dYes
    refine hs x o (fun y => wp (mapS r y.2 f) NE fun ys => Q (y.1 :: ys.1, ys.2)) _ (fun y o' s es q => ?_) h
    rw [es]
    exact sim_mapS hs r (acc ++ [y]) o' _ (fun ys o2 q' => by rw [List.append_assoc]; exact hQ _ _ q') q
end PD
namespace PD
open PySem PySem.Spec PyProof.Rows L2
abbrev Q1 := D → Option D
abbrev Q2 := D → D → Option D
abbrev QL := List D → Option D
def w1 (q : Q1) : F1 := fun x Q => wpO (q x) Q
def w2 (q : Q2) : F2 := fun x y Q => wpO (q x y) Q
def wL (q : QL) : FL := fun xs Q => wpO (q xs) Q
section
variable {X : Cx} {W : WX} {e a b c : Expr} {es : List Expr} {s : Stmt} {g g' ga gb : DE} {pos : Pos}
theorem PED.imp (h : PED X W e g) (k : ∀ Ex st Q, g' Ex st Q → g Ex st Q) : PED X W e g' := by
  obtain ⟨t, p, q⟩ := h.ex
  exact ⟨t, p, fun C H0 H σ st Ex Q Qv hI hX hQ hg => q C H0 H σ st Ex Q Qv hI hX hQ (k _ _ _ hg)⟩
theorem POD.imp {g g' : DO} (h : POD X W e g) (k : ∀ Ex st Q, g' Ex st Q → g Ex st Q) : POD X W e g' := by
  obtain ⟨t, p, q⟩ := h.ex
  exact ⟨t, p, fun C H0 H σ st Ex Q Qv hI hX hQ hg => q C H0 H σ st Ex Q Qv hI hX hQ (k _ _ _ hg)⟩
theorem PSD.imp {g g' : DS} (h : PSD X W s g) (k : ∀ de st, g' de st → g de st) : PSD X W s g' := by
  obtain ⟨t, p, q⟩ := h.ex
  exact ⟨t, p, fun C H0 H σ st de Dn hI hL hg => q C H0 H σ st de Dn hI hL (k _ _ hg)⟩
theorem PID.imp {tg : Expr} {g g' : DI} (h : PID X W tg e g) (k : ∀ Ex st Q, g' Ex st Q → g Ex st Q) : PID X W tg e g' := by
  obtain ⟨t, p, q⟩ := h.ex
  exact ⟨t, p, fun C H0 H σ st Ex Q R hI hX hQ hg => q C H0 H σ st Ex Q R hI hX hQ (k _ _ _ hg)⟩
end
def OpA (X : Cx) (F : Value → Value → Sem Value) (q : Q2) : Prop := ∃ r, OpR X F r ∧ ∀ (C : Cfg) (H0 H : Hp) (σ : L2.St) (st : LS) (x y d : D) (v u : V) (Qv : VK), I X.K X.mg C H0 H σ st → Rep X.K X.mg H0 x v → Rep X.K X.mg H0 y u → q x y = some d →
  (∀ w H0' H', I X.K X.mg C H0' H' σ st → Same H0 H0' → Rep X.K X.mg H0' d w → Qv w H') → r v u H Qv
def qOr (p q : Q2) : Q2 := fun x y => match p x y with
  | some d => some d
  | none => q x y
section
variable {X : Cx} {W : WX} {F : Value → Value → Sem Value}
theorem OpA.or {p q : Q2} (h : OpA X F p) (k : OpA X F q) : OpA X F (qOr p q) := by
  obtain ⟨r, h1, h2⟩ := h
  obtain ⟨r', k1, k2⟩ := k
  refine ⟨_, h1.or k1, fun C H0 H σ st x y d v u Qv hI rx ry e hQ => ?_⟩
  unfold qOr at e
  split at e
  · rename_i d' e'
    cases e
    exact .inl (h2 C H0 H σ st x y _ v u Qv hI rx ry e' hQ)
  · exact .inr (k2 C H0 H σ st x y _ v u Qv hI rx ry e hQ)
theorem OpA.of {f : F2} {q : Q2} (h : OpD X F f) (k : ∀ x y d (Q : D → Prop), q x y = some d → Q d → f x y Q) : OpA X F q := by
  obtain ⟨r, h1, h2⟩ := h
  exact ⟨r, h1, fun C H0 H σ st x y d v u Qv hI rx ry e hQ => h2 H0 H x y v u (fun z => z = d) Qv hI.same rx ry (k x y d _ e rfl) fun d' w ed rw' => by subst ed; exact hQ w H0 H hI (Same.refl _) rw'⟩
theorem OpA.sub {p q : Q2} (h : OpA X F p) (k : ∀ x y d, q x y = some d → p x y = some d) : OpA X F q := by
  obtain ⟨r, h1, h2⟩ := h
  exact ⟨r, h1, fun C H0 H σ st x y d v u Qv hI rx ry e hQ => h2 C H0 H σ st x y d v u Qv hI rx ry (k _ _ _ e) hQ⟩
variable {a b : Expr} {ga gb : DE} {pos : Pos}
theorem binA_run {q : Q2} {ta tb : TE} {r : R2} (hr : ∀ (C : Cfg) (H0 H : Hp) (σ : L2.St) (st : LS) (x y d : D) (v u : V) (Qv : VK), I X.K X.mg C H0 H σ st → Rep X.K X.mg H0 x v → Rep X.K X.mg H0 y u → q x y = some d →
      (∀ w H0' H', I X.K X.mg C H0' H' σ st → Same H0 H0' → Rep X.K X.mg H0' d w → Qv w H') → r v u H Qv)
    (ha : ∀ (C : Cfg) (H0 H : Hp) (σ : L2.St) (st : LS) (Ex : DX) (Q : D → LS → Prop) (Qv : VK), I X.K X.mg C H0 H σ st → LkX X.K X.mg C H0 σ W Ex → (∀ d st' v H0' H', Q d st' → I X.K X.mg C H0' H' σ st' → Same H0 H0' → Rep X.K X.mg H0' d v → Qv v H') → ga Ex st Q → ta σ H Qv)
    (hb : ∀ (C : Cfg) (H0 H : Hp) (σ : L2.St) (st : LS) (Ex : DX) (Q : D → LS → Prop) (Qv : VK), I X.K X.mg C H0 H σ st → LkX X.K X.mg C H0 σ W Ex → (∀ d st' v H0' H', Q d st' → I X.K X.mg C H0' H' σ st' → Same H0 H0' → Rep X.K X.mg H0' d v → Qv v H') → gb Ex st Q → tb σ H Qv)
    (C : Cfg) (H0 H : Hp) (σ : L2.St) (st : LS) (Ex : DX) (Q : D → LS → Prop) (Qv : VK) (hI : I X.K X.mg C H0 H σ st) (hX : LkX X.K X.mg C H0 σ W Ex)
    (hQ : ∀ d st' v H0' H', Q d st' → I X.K X.mg C H0' H' σ st' → Same H0 H0' → Rep X.K X.mg H0' d v → Qv v H') (hg : dOp (w2 q) ga gb Ex st Q) : tOp r ta tb σ H Qv := by
  refine ha C H0 H σ st Ex _ _ hI hX (fun x st1 v H1 K1 q1 i1 s1 r1 => ?_) hg
  refine hb C H1 K1 σ st1 Ex _ _ i1 (hX.up s1) (fun y st2 u H2 K2 q2 i2 s2 r2 => ?_) q1
  obtain ⟨d, hd, qd⟩ := wpO_of q2
  exact hr C H2 K2 σ st2 x y d v u _ i2 (Rep.mono s2 x v r1) r2 hd fun w H3 K3 i3 s3 r3 => hQ d st2 w H3 K3 qd i3 ((s1.trans s2).trans s3) r3
theorem pedA_op {op : Operator} {q : Q2} (ho : OpA X (binaryOp op) q) (ha : PED X W a ga) (hb : PED X W b gb) : PED X W (.BinOp a op b pos) (dOp (w2 q) ga gb) := by
  obtain ⟨r, h1, h2⟩ := ho
  obtain ⟨ta, pa, qa⟩ := ha.ex
  obtain ⟨tb, pb, qb⟩ := hb.ex
  exact ⟨_, pe_op h1 pa pb, binA_run h2 qa qb⟩
theorem pedA_cmp {op : CmpOp} {q : Q2} (ho : OpA X (compareOp op) q) (ha : PED X W a ga) (hb : PED X W b gb) (hm : behindInMarks op b = false := by first | exact nomark _ | with_unfolding_all rfl) : PED X W (.Compare a [op] [b] pos) (dOp (w2 q) ga gb) := by
  obtain ⟨r, h1, h2⟩ := ho
  obtain ⟨ta, pa, qa⟩ := ha.ex
  obtain ⟨tb, pb, qb⟩ := hb.ex
  exact ⟨_, pe_cmpR h1 pa pb hm, binA_run h2 qa qb⟩
theorem ptdA_cmp {op : CmpOp} {q : Q2} (ho : OpA X (compareOp op) q) (ha : PED X W a ga) (hb : PED X W b gb) (hm : behindInMarks op b = false := by first | exact nomark _ | with_unfolding_all rfl) : PTD X W (.Compare a [op] [b] pos) (dTst (dOp (w2 q) ga gb)) := by
  obtain ⟨r, h1, h2⟩ := ho
  obtain ⟨ta, pa, qa⟩ := ha.ex
  obtain ⟨tb, pb, qb⟩ := hb.ex
  refine ⟨_, pt_cmpR h1 pa pb hm, fun C H0 H σ st Ex Q Qv hI hX hQ hg => binA_run h2 qa qb C H0 H σ st Ex _ _ hI hX (fun d st' v H0' H' q i' s' rr => ?_) hg⟩
  cases d with
  | bl b => exact ⟨b, rr.bl, hQ b st' H0' H' q i' s'⟩
  | _ => exact q.elim
end
def qI (g : Int → Int → Int) : Q2 := fun x y => match x, y with
  | .int i, .int j => some (.int (g i j))
  | _, _ => none
def qIc (c : Int → Int → Bool) (g : Int → Int → Int) : Q2 := fun x y => match x, y with
  | .int i, .int j => if c i j then some (.int (g i j)) else none
  | _, _ => none
def qB (g : Int → Int → Bool) : Q2 := fun x y => match x, y with
  | .int i, .int j => some (.bl (g i j))
  | _, _ => none
def bits (i : Int) : Nat := i.natAbs.log2 + 1
theorem bits_lt (i : Int) : i.natAbs < 2 ^ bits i := Nat.lt_log2_self
theorem bits_le {i : Int} {b : Nat} (h : Bz b i) (hb : 0 < b) : bits i ≤ b := by
  unfold bits Bz at *
  by_cases h0 : i.natAbs = 0
  · rw [h0, Nat.log2_zero]; omega
  · have := (Nat.log2_lt h0).mpr h
    omega
def mulB (i j : Int) : Bool := decide (bits i + bits j ≤ 900000) || (decide (bits i ≤ 63) || decide (bits j ≤ 63))
theorem mulB_ok {i j : Int} (h : mulB i j = true) : MulOk i j := by
  unfold mulB at h
  have small : ∀ i : Int, bits i ≤ 63 → -(2 ^ 64) < i ∧ i < 2 ^ 64 := fun i hi => by
    have h1 := bits_lt i
    have h2 : 2 ^ bits i ≤ 2 ^ 63 := Nat.pow_le_pow_right (by decide) hi
    have h3 : i.natAbs < 2 ^ 63 := Nat.lt_of_lt_of_le h1 h2
    have e : (2 : Nat) ^ 63 = 9223372036854775808 := by decide
    omega
  simp only [Bool.or_eq_true, decide_eq_true_eq] at h
  rcases h with h | h | h
  · exact (wide_mul (a := bits i) (b := bits j) (bits_lt i) (bits_lt j) (Nat.succ_pos _) (Nat.succ_pos _) (by omega)).ok
  · exact mulSmallL (small i h).1 (small i h).2
  · exact mulSmallR (small j h).1 (small j h).2
def divB (j : Int) : Bool := decide (j ≠ 0) && decide (bits j ≤ 9000)
theorem divB_ok {i j : Int} (h : divB j = true) : DivOk i j := by
  unfold divB at h
  simp only [Bool.and_eq_true, decide_eq_true_eq] at h
  exact ⟨h.1, by unfold bits at h; omega⟩
section
variable {X : Cx}
theorem qI_of {F : Value → Value → Sem Value} {g : Int → Int → Int} (h : OpD X F (fI0 g)) : OpA X F (qI g) := .of h fun x y d Q e q => by
  unfold qI at e
  split at e
  · cases e; exact q
  · cases e
theorem qIc_of {F : Value → Value → Sem Value} {c : Int → Int → Bool} {Cn : Int → Int → Prop} {g : Int → Int → Int} (h : OpD X F (fI Cn g)) (hc : ∀ i j, c i j = true → Cn i j) : OpA X F (qIc c g) := .of h fun x y d Q e q => by
  unfold qIc at e
  split at e
  · split at e
    · cases e; exact ⟨hc _ _ (by assumption), q⟩
    · cases e
  · cases e
theorem qB_of {F : Value → Value → Sem Value} {g : Int → Int → Bool} (h : OpD X F (fB g)) : OpA X F (qB g) := .of h fun x y d Q e q => by
  unfold qB at e
  split at e
  · cases e; exact q
  · cases e
def qAddS : Q2 := fun x y => match x, y with
  | .str s, .str t => if s.length + t.length ≤ 16777216 then some (.str (s ++ t)) else none
  | _, _ => none
def qCat : Q2 := fun x y => match x, y with
  | .nd .lst xs, .nd .lst ys => if xs.length + ys.length ≤ 16777216 then some (.nd .lst (xs ++ ys)) else none
  | _, _ => none
def qCatT : Q2 := fun x y => match x, y with
  | .nd .tup xs, .nd .tup ys => if xs.length + ys.length ≤ 16777216 then some (.nd .tup (xs ++ ys)) else none
  | _, _ => none
theorem a_addS : OpA X (binaryOp .Add) qAddS := ⟨_, op_add_str, fun C H0 H σ st x y d v u Qv hI rx ry e hQ => by
  unfold qAddS at e
  split at e
  · split at e
    · cases e; cases rx.str; cases ry.str
      exact ⟨_, _, rfl, rfl, by assumption, hQ _ _ _ hI (Same.refl _) rep_str⟩
    · cases e
  · cases e⟩
theorem a_cat : OpA X (binaryOp .Add) qCat := ⟨_, op_cat, fun C H0 H σ st x y d v u Qv hI rx ry e hQ => by
  unfold qCat at e
  split at e
  · split at e
    · cases e
      obtain ⟨l, vs, rfl, h3, h4⟩ := rx.nd
      obtain ⟨m, us, rfl, h5, h6⟩ := ry.nd
      refine ⟨l, m, vs, us, rfl, rfl, hI.same _ _ h3, hI.same _ _ h5, by rw [h4.length, h6.length]; assumption, fun p hp => ?_⟩
      have hp0 := hI.same.free hp
      exact hQ _ _ _ (hI.new hp) (same_upd hp0) (rep_nd (t := .lst) upd_same (RepL.mono (same_upd hp0) _ _ (h4.append h6)))
    · cases e
  · cases e⟩
theorem a_catT : OpA X (binaryOp .Add) qCatT := ⟨_, op_catA, fun C H0 H σ st x y d v u Qv hI rx ry e hQ => by
  unfold qCatT at e
  split at e
  · split at e
    · cases e
      rename_i xs ys hz
      obtain ⟨l, vs, rfl, h3, h4⟩ := rx.nd
      obtain ⟨m, us, rfl, h5, h6⟩ := ry.nd
      refine ⟨l, m, vs, us, rfl, rfl, SqT.mono hI.same h3, SqT.mono hI.same h5, by rw [h4.length, h6.length]; exact hz, fun ez => ?_, fun _ ez => ?_, fun _ _ p hp => ?_⟩
      · subst ez
        have : xs = [] := List.length_eq_zero_iff.mp (by rw [← h4.length]; rfl)
        subst this
        exact hQ _ _ _ hI (Same.refl _) (rep_nd h5 h6)
      · subst ez
        have : ys = [] := List.length_eq_zero_iff.mp (by rw [← h6.length]; rfl)
        subst this
        rw [List.append_nil] at hQ
        exact hQ _ _ _ hI (Same.refl _) (rep_nd h3 h4)
      · have hp0 := hI.same.free hp
        exact hQ _ _ _ (hI.new hp) (same_upd hp0) (rep_nd (t := .tup) (SqT.of upd_same) (RepL.mono (same_upd hp0) _ _ (h4.append h6)))
    · cases e
  · cases e⟩
def r63 : Int → Bool
  | .ofNat n => decide (n < 2 ^ 63)
  | .negSucc n => decide (n < 2 ^ 63)
theorem r63_eq (k : Int) : r63 k = (decide (-(2 ^ 63) ≤ k) && decide (k < 2 ^ 63)) := by
  rw [Bool.eq_iff_iff, Bool.and_eq_true, decide_eq_true_eq, decide_eq_true_eq]
  cases k with
  | ofNat n => unfold r63; rw [decide_eq_true_eq]; constructor <;> intro h <;> (have := h; simp only [Int.ofNat_eq_natCast] at *; omega)
  | negSucc n => unfold r63; rw [decide_eq_true_eq]; constructor <;> intro h <;> omega
def qRepL : Q2 := fun x y => match x, y with
  | .nd .lst xs, .int k => if r63 k && decide (xs.length * k.toNat ≤ 16777216) then some (.nd .lst (List.replicate k.toNat xs).flatten) else none
  | _, _ => none
def qRepT : Q2 := fun x y => match x, y with
  | .nd .tup xs, .int k => if decide (xs ≠ []) && (decide (2 ≤ k) && (decide (k ≤ 1000) && decide (xs.length ≤ 1000))) then some (.nd .tup (List.replicate k.toNat xs).flatten) else none
  | _, _ => none
theorem a_repL : OpA X (binaryOp .Mult) qRepL := ⟨_, op_rep, fun C H0 H σ st x y d v u Qv hI rx ry e hQ => by
  unfold qRepL at e
  split at e
  · split at e
    · cases e
      rename_i xs k hc
      rw [r63_eq] at hc
      simp only [Bool.and_eq_true, decide_eq_true_eq] at hc
      obtain ⟨l, vs, rfl, h3, h4⟩ := rx.nd
      cases ry.int
      refine ⟨l, k, vs, rfl, rfl, hI.same _ _ h3, hc.1.1, hc.1.2, by rw [h4.length]; exact hc.2, fun p hp => ?_⟩
      have hp0 := hI.same.free hp
      exact hQ _ _ _ (hI.new hp) (same_upd hp0) (rep_nd (t := .lst) upd_same (RepL.mono (same_upd hp0) _ _ (repL_rep h4 _)))
    · cases e
  · cases e⟩
theorem a_repT : OpA X (binaryOp .Mult) qRepT := ⟨_, op_repT, fun C H0 H σ st x y d v u Qv hI rx ry e hQ => by
  unfold qRepT at e
  split at e
  · split at e
    · cases e
      rename_i xs k hc
      simp only [Bool.and_eq_true, decide_eq_true_eq] at hc
      obtain ⟨l, vs, rfl, h3, h4⟩ := rx.nd
      cases ry.int
      refine ⟨l, k, vs, rfl, rfl, SqT.mono hI.same h3, fun z => hc.1 (by subst z; exact List.length_eq_zero_iff.mp (by rw [← h4.length]; rfl)), hc.2.1, hc.2.2.1, by rw [h4.length]; exact hc.2.2.2, fun p hp => ?_⟩
      have hp0 := hI.same.free hp
      exact hQ _ _ _ (hI.new hp) (same_upd hp0) (rep_nd (t := .tup) (SqT.of upd_same) (RepL.mono (same_upd hp0) _ _ (repL_rep h4 _)))
    · cases e
  · cases e⟩
def qAdd : Q2 := qOr (qI fun i j => i + j) (qOr qAddS (qOr qCat qCatT))
def qMul : Q2 := qOr (qIc mulB fun i j => i * j) (qOr qRepL qRepT)
def qDiv : Q2 := qIc (fun _ j => divB j) Int.fdiv
def qMod : Q2 := qIc (fun _ j => decide (j ≠ 0)) Int.fmod
def qPow : Q2 := qIc (fun i j => decide (0 ≤ j) && (decide (j ≤ 1000000) && decide (bits i ≤ 63))) fun i j => i ^ j.toNat
def qLt : Q2 := qB fun i j => decide (i < j)
def qGt : Q2 := qB fun i j => decide (j < i)
def qGe : Q2 := qB fun i j => decide (j ≤ i)
theorem a_add : OpA X (binaryOp .Add) qAdd := (qI_of o_add).or (a_addS.or (a_cat.or a_catT))
theorem a_mul : OpA X (binaryOp .Mult) qMul := (qIc_of o_mul fun _ _ => mulB_ok).or (a_repL.or a_repT)
theorem a_div : OpA X (binaryOp .FloorDiv) qDiv := qIc_of o_div fun _ _ => divB_ok
theorem a_mod : OpA X (binaryOp .Mod) qMod := qIc_of o_mod fun _ _ h => of_decide_eq_true h
theorem a_pow : OpA X (binaryOp .Pow) qPow := qIc_of o_pow fun i j h => by
  simp only [Bool.and_eq_true, decide_eq_true_eq] at h
  refine ⟨h.1, h.2.1, ?_⟩
  exact Nat.lt_of_lt_of_le (bits_lt i) (Nat.pow_le_pow_right (by decide) (by omega))
theorem a_lt : OpA X (compareOp .Lt) qLt := qB_of o_lt
theorem a_gt : OpA X (compareOp .Gt) qGt := qB_of o_gt
theorem a_ge : OpA X (compareOp .GtE) qGe := qB_of o_ge
def eqOk (x y : D) : Bool := (py x).plain && ((py y).plain && decide (min (py x).depth (py y).depth ≤ 60))
def eqD (x y : D) : Bool := PyData.eqv (py x) (py y)
def qEq : Q2 := fun x y => if eqOk x y then some (.bl (eqD x y)) else none
def qNe : Q2 := fun x y => if eqOk x y then some (.bl (!eqD x y)) else none
theorem eqOk_of {x y : D} (h : eqOk x y = true) : (py x).plain = true ∧ (py y).plain = true ∧ min (py x).depth (py y).depth ≤ 60 := by
  unfold eqOk at h
  simpa only [Bool.and_eq_true, decide_eq_true_eq] using h
theorem a_eq {k : Nat} (hr : Room k X.A) : OpA X (compareOp .Eq) qEq := .of (o_eq hr) fun x y d Q e q => by
  unfold qEq at e
  split at e
  · rename_i h
    obtain ⟨h1, h2, h3⟩ := eqOk_of h
    cases e; exact ⟨h1, h2, h3, q⟩
  · cases e
theorem a_ne {k : Nat} (hr : Room k X.A) : OpA X (compareOp .NotEq) qNe := .of (o_ne hr) fun x y d Q e q => by
  unfold qNe at e
  split at e
  · rename_i h
    obtain ⟨h1, h2, h3⟩ := eqOk_of h
    cases e; exact ⟨h1, h2, h3, q⟩
  · cases e
end
end PD
namespace PD
open PySem PySem.Spec PyProof.Rows L2
def IxA (X : Cx) (q : Q2) : Prop := ∃ r, IxR X r ∧ ∀ (C : Cfg) (H0 H : Hp) (σ : L2.St) (st : LS) (x y d : D) (v u : V) (Qv : VK), I X.K X.mg C H0 H σ st → Rep X.K X.mg H0 x v → Rep X.K X.mg H0 y u → q x y = some d →
  (∀ w H0' H', I X.K X.mg C H0' H' σ st → Same H0 H0' → Rep X.K X.mg H0' d w → Qv w H') → r v u H Qv
def CallA (X : Cx) (F : Value) (q : QL) : Prop := ∃ r, CallR X F r ∧ ∀ (C : Cfg) (H0 H : Hp) (σ : L2.St) (st : LS) (xs : List D) (d : D) (vs : List V) (Qv : VK), I X.K X.mg C H0 H σ st → RepL X.K X.mg H0 xs vs → q xs = some d →
  (∀ w H0' H', I X.K X.mg C H0' H' σ st → Same H0 H0' → Rep X.K X.mg H0' d w → Qv w H') → r vs H Qv
def qOrL (p q : QL) : QL := fun xs => match p xs with
  | some d => some d
  | none => q xs
section
variable {X : Cx} {W : WX} {F : Value} {a b e : Expr} {es : List Expr} {g ga gb : DE} {ha : DA} {pos p : Pos} {x : Str}
theorem CallA.or {q q' : QL} (h : CallA X F q) (k : CallA X F q') : CallA X F (qOrL q q') := by
  obtain ⟨r, h1, h2⟩ := h
  obtain ⟨r', k1, k2⟩ := k
  refine ⟨_, h1.or k1, fun C H0 H σ st xs d vs Qv hI rx e hQ => ?_⟩
  unfold qOrL at e
  split at e
  · rename_i d' e'
    cases e
    exact .inl (h2 C H0 H σ st xs _ vs Qv hI rx e' hQ)
  · exact .inr (k2 C H0 H σ st xs _ vs Qv hI rx e hQ)
theorem CallA.of {f : FL} {q : QL} (h : CallD X F f) (k : ∀ xs d (Q : D → Prop), q xs = some d → Q d → f xs Q) : CallA X F q := by
  obtain ⟨r, h1, h2⟩ := h
  exact ⟨r, h1, fun C H0 H σ st xs d vs Qv hI rx e hQ => h2 H0 H xs vs (fun z => z = d) Qv hI.same rx (k xs d _ e rfl) fun d' w ed rw' => by subst ed; exact hQ w H0 H hI (Same.refl _) rw'⟩
theorem IxA.or {p q : Q2} (h : IxA X p) (k : IxA X q) : IxA X (qOr p q) := by
  obtain ⟨r, h1, h2⟩ := h
  obtain ⟨r', k1, k2⟩ := k
  refine ⟨_, h1.or k1, fun C H0 H σ st x y d v u Qv hI rx ry e hQ => ?_⟩
  unfold qOr at e
  split at e
  · rename_i d' e'
    cases e
    exact .inl (h2 C H0 H σ st x y _ v u Qv hI rx ry e' hQ)
  · exact .inr (k2 C H0 H σ st x y _ v u Qv hI rx ry e hQ)
theorem IxA.of {f : F2} {q : Q2} (h : IxD X f) (k : ∀ x y d (Q : D → Prop), q x y = some d → Q d → f x y Q) : IxA X q := by
  obtain ⟨r, h1, h2⟩ := h
  exact ⟨r, h1, fun C H0 H σ st x y d v u Qv hI rx ry e hQ => h2 H0 H x y v u (fun z => z = d) Qv hI.same rx ry (k x y d _ e rfl) fun d' w ed rw' => by subst ed; exact hQ w H0 H hI (Same.refl _) rw'⟩
theorem pedA_ix {q : Q2} (ho : IxA X q) (ha : PED X W a ga) (hb : PED X W b gb) (hs : PlainIx b := by intro _ _; rfl) : PED X W (.Subscript a b pos) (dOp (w2 q) ga gb) := by
  obtain ⟨r, h1, h2⟩ := ho
  obtain ⟨ta, pa, qa⟩ := ha.ex
  obtain ⟨tb, pb, qb⟩ := hb.ex
  exact ⟨_, pe_ix h1 pa pb hs, binA_run h2 qa qb⟩
theorem pedA_callB {id : String} {q : QL} (hc : CallA X (.builtin id) q) (hg : Gl X x) (hm : X.mg x = none) (hv : bootBuiltins x = some (.builtin id)) (h : PAD X W (e :: es) ha) (hn : x ≠ "__name__" := by decide) (hdb : (x == ("__debug__" : Str)) = false := by decide)
    (he : starEach (e :: es) X.env = (false, eval e X.env) :: starEach es X.env := by rfl) (hpl : (backTo pos (starEach es X.env)).any (·.1) = false := by rfl) : PED X W (.Call (.Name x p) (e :: es) [] pos) (dCB (wL q) ha) := by
  obtain ⟨ta, pa, qa⟩ := h.ex
  obtain ⟨r, h1, h2⟩ := hc
  refine ⟨_, pe_callB h1 hg hm hv pa hn hdb he hpl, fun C H0 H σ st Ex Q Qv hI hX hQ hg => qa C H0 H σ st Ex _ _ hI hX (fun ds st1 vs H1 K1 q1 i1 s1 r1 el => ?_) hg⟩
  obtain ⟨d, hd, qd⟩ := wpO_of q1
  exact h2 C H1 K1 σ st1 ds d vs _ i1 r1 hd fun w H3 K3 i3 s3 r3 => hQ d st1 w H3 K3 qd i3 (s1.trans s3) r3
theorem pedA_callTy {T : String} {q : QL} (hc : CallA X (.type T) q) (hg : Gl X x) (hm : X.mg x = none) (hv : bootBuiltins x = some (.type T)) (h : PAD X W (e :: es) ha) (hn : x ≠ "__name__" := by decide) (hdb : (x == ("__debug__" : Str)) = false := by decide)
    (he : starEach (e :: es) X.env = (false, eval e X.env) :: starEach es X.env := by rfl) (hpl : (backTo pos (starEach es X.env)).any (·.1) = false := by rfl) : PED X W (.Call (.Name x p) (e :: es) [] pos) (dCB (wL q) ha) := by
  obtain ⟨ta, pa, qa⟩ := h.ex
  obtain ⟨r, h1, h2⟩ := hc
  refine ⟨_, pe_callTy h1 hg hm hv pa hn hdb he hpl, fun C H0 H σ st Ex Q Qv hI hX hQ hg => qa C H0 H σ st Ex _ _ hI hX (fun ds st1 vs H1 K1 q1 i1 s1 r1 el => ?_) hg⟩
  obtain ⟨d, hd, qd⟩ := wpO_of q1
  exact h2 C H1 K1 σ st1 ds d vs _ i1 r1 hd fun w H3 K3 i3 s3 r3 => hQ d st1 w H3 K3 qd i3 (s1.trans s3) r3
def qIxSeq : Q2 := fun x y => match x, y with
  | .nd .lst ds, .int k => geti ds k
  | .nd .tup ds, .int k => geti ds k
  | .nd .scr ds, .int k => geti ds k
  | .str z, .int k => if z.length ≤ 16777216 then (geti z.cps.toList k).map fun c => .str ⟨#[c]⟩ else none
  | _, _ => none
theorem a_ixSeq : IxA X qIxSeq := .of o_ix fun x y d Q e q => by
  unfold qIxSeq at e
  split at e
  · unfold fIx; simp only [e]; exact q
  · unfold fIx; simp only [e]; exact q
  · unfold fIx; simp only [e]; exact q
  · split at e
    · rename_i z k hz
      cases hg : geti z.cps.toList k with
      | none => rw [hg] at e; cases e
      | some c =>
        rw [hg] at e; cases e
        unfold fIx; simp only [hg]
        exact ⟨hz, q⟩
    · cases e
  · cases e
def qAbs : QL := fun xs => match xs with
  | [.int i] => some (.int (if i < 0 then -i else i))
  | _ => none
def qMax2 : QL := fun xs => match xs with
  | [.int i, .int j] => some (.int (if j > i then j else i))
  | _ => none
def qMin2 : QL := fun xs => match xs with
  | [.int i, .int j] => some (.int (if j < i then j else i))
  | _ => none
def qInt1 : QL := fun xs => match xs with
  | [.int i] => some (.int i)
  | [.bl k] => some (.int (cond k 1 0))
  | _ => none
def qLen1 : QL := fun xs => match xs with
  | [.nd .lst ds] => some (.int (ds.length : Nat))
  | [.nd .tup ds] => some (.int (ds.length : Nat))
  | [.nd .scr ds] => some (.int (ds.length : Nat))
  | [.str z] => if z.length ≤ 16777216 then some (.int (z.length : Nat)) else none
  | _ => none
def intsOf : List D → Option (List Int)
  | [] => some []
  | .int i :: r => (intsOf r).map (i :: ·)
  | _ => none
theorem intsOf_eq : ∀ {ds : List D} {ns : List Int}, intsOf ds = some ns → ds = ns.map D.int
  | [], ns, h => by cases h; rfl
  | .int i :: r, ns, h => by
    unfold intsOf at h
    cases e : intsOf r with
    | none => rw [e] at h; cases h
    | some ms => rw [e] at h; cases h; rw [intsOf_eq e]; rfl
  | .non :: _, ns, h => by cases h
  | .bl _ :: _, ns, h => by cases h
  | .str _ :: _, ns, h => by cases h
  | .glo _ :: _, ns, h => by cases h
  | .nd _ _ :: _, ns, h => by cases h
theorem intsOf_map : ∀ ns : List Int, intsOf (ns.map D.int) = some ns
  | [] => rfl
  | n :: ns => by show (intsOf (ns.map D.int)).map _ = _; rw [intsOf_map ns]; rfl
def qSum : QL := fun xs => match xs with
  | [.nd .lst ds] => (intsOf ds).map fun ns => .int ns.sum
  | _ => none
theorem k_abs : CallA X (.builtin "abs") qAbs := .of c_abs fun xs d Q e q => by
  unfold qAbs at e; unfold fAbs
  split at e <;> first | (cases e; exact q) | (cases e)
theorem k_max2 (hc : X.calm = true) : CallA X (.builtin "max") qMax2 := .of (c_max2 hc) fun xs d Q e q => by
  unfold qMax2 at e; unfold fMax2
  split at e <;> first | (cases e; exact q) | (cases e)
theorem k_min2 (hc : X.calm = true) : CallA X (.builtin "min") qMin2 := .of (c_min2 hc) fun xs d Q e q => by
  unfold qMin2 at e; unfold fMin2
  split at e <;> first | (cases e; exact q) | (cases e)
theorem k_int1 : CallA X (.type "int") qInt1 := .of c_int fun xs d Q e q => by
  unfold qInt1 at e; unfold fInt
  split at e
  · cases e; exact q
  · rename_i k
    cases e
    cases k <;> exact q
  · cases e
theorem k_len1 : CallA X (.builtin "len") qLen1 := .of c_len fun xs d Q e q => by
  unfold qLen1 at e; unfold fLen
  split at e
  · cases e; exact q
  · cases e; exact q
  · cases e; exact q
  · split at e
    · cases e; exact ⟨by assumption, q⟩
    · cases e
  · cases e
theorem k_sum (hc : X.calm = true) : CallA X (.builtin "sum") qSum := .of (c_sum hc) fun xs d Q e q => by
  unfold qSum at e; unfold fSum
  split at e
  · rename_i ds
    cases h : intsOf ds with
    | none => rw [h] at e; cases e
    | some ns => rw [h] at e; cases e; exact ⟨ns, intsOf_eq h, q⟩
  · cases e
def dIt (q : D → Option (List D)) (g : DE) (Ex : DX) (st : LS) (Q : List D → LS → Prop) : Prop := g Ex st fun d st1 => wpO (q d) fun ds => Q ds st1
def dItA (q : List D → Option (List D)) (g : DA) (Ex : DX) (st : LS) (Q : List D → LS → Prop) : Prop := g Ex st fun d st1 => wpO (q d) fun ds => Q ds st1
def big (i : Int) : Bool := decide (-(2 ^ 62) ≤ i) && decide (i < 2 ^ 62)
def qRng : List D → Option (List D)
  | [.int j] => if big j then some (iota 0 j.toNat) else none
  | [.int i, .int j] => if big i && big j then some (iota i (j - i).toNat) else none
  | _ => none
theorem big_of {i : Int} (h : big i = true) : -(2 ^ 62) ≤ i ∧ i < 2 ^ 62 := by
  unfold big at h
  simpa only [Bool.and_eq_true, decide_eq_true_eq] using h
theorem pidA_rng1 {tg : Expr} (hg : Gl X "range") (hm : X.mg "range" = none) (h : PAD X W [a] ha) (hs : starEach [a] X.env = [(false, eval a X.env)] := by rfl) : PID X W tg (.Call (.Name "range" p) [a] [] pos) (dItA qRng ha) := by
  obtain ⟨ta, pa, qa⟩ := h.ex
  refine ⟨_, pi_range1 hg hm pa hs, fun C H0 H σ st Ex Q R hI hX hQ hg => qa C H0 H σ st Ex _ _ hI hX (fun ds st1 vs H1 K1 q1 i1 s1 r1 el => ?_) hg⟩
  obtain ⟨is, hd, qd⟩ := wpO_of q1
  unfold qRng at hd
  split at hd
  · rename_i j
    split at hd
    · rename_i hb
      cases hd
      obtain ⟨v, w, rfl, h3, h4⟩ := r1.cons
      cases h4.nil
      cases h3.int
      exact ⟨j, rfl, (big_of hb).1, (big_of hb).2, hQ _ st1 _ H1 K1 qd i1 s1 (it_rng _ _ _)⟩
    · cases hd
  · simp at el
  · cases hd
def dLstV (g : DA) (Ex : DX) (st : LS) (Q : D → LS → Prop) : Prop := g Ex st fun ds st1 => Q (.nd .lst ds) st1
theorem pedA_lst (h : PAD X W es ha) (hz : es.length ≤ sizeLine := by show _ ≤ 16777216; decide) : PED X W (.List es pos) (dLstV ha) :=
  (ped_fz (pod_lst h hz)).imp fun Ex st Q hq => by
    unfold dFz dLst
    unfold dLstV at hq
    simp only [sD, wpO, all_addr]
    exact hq
def dLcQ (i : DI) (t : DG) (tt : DT) (ge : DE) (vs : List Nat) (Ex : DX) (st : LS) (Q : S → LS → Prop) : Prop := i Ex st fun ds st1 => wpO (qSz ds) fun ds => dLcL t tt ge vs ds [] (stW st1 vs) fun acc st2 => ∀ p, Q (.ow p true (.nd .lst acc)) st2
def dLcV (i : DI) (t : DG) (tt : DT) (ge : DE) (vs : List Nat) (Ex : DX) (st : LS) (Q : D → LS → Prop) : Prop := i Ex st fun ds st1 => wpO (qSz ds) fun ds => dLcL t tt ge vs ds [] (stW st1 vs) fun acc st2 => Q (.nd .lst acc) st2
theorem qSz_of {ds es : List D} (h : qSz ds = some es) : ds.length ≤ 16777216 ∧ es = ds := by
  unfold qSz at h
  split at h
  · cases h; exact ⟨by assumption, rfl⟩
  · cases h
end
section
variable {X : Cx} {W : WX} {e elt tg iter : Expr} {es ifs : List Expr} {pos : Pos} {vs : List Nat}
theorem lcQ_sem {scope : Scope} {own : List (Str × Nat)} {gi : DI} {t : DG} {tt : DT} {ge : DE} {wi : TI}
    (qi : ∀ (C : Cfg) (H0 H : Hp) (σ : L2.St) (st : LS) (Ex : DX) (Q : List D → LS → Prop) (R : It → Hp → Prop), I X.K X.mg C H0 H σ st → LkX X.K X.mg C H0 σ W Ex →
      (∀ ds st' J H0' H', Q ds st' → I X.K X.mg C H0' H' σ st' → Same H0 H0' → ItOk X.K X.mg J H0' ds → R J H') → gi Ex st Q → wi σ H R)
    (hg : ∀ (s : Shared) (H : Hp) (C : Addr) (cl : List (Str × Addr)) (fp : List Addr), PGW (X.blk s H scope (compEnvC scope cl C X.env) fp) tg (own.map (·.2)) t)
    (ht : ∀ (s : Shared) (H : Hp) (C : Addr) (cl : List (Str × Addr)) (fp : List Addr), PTsD (X.blk s H scope (compEnvC scope cl C X.env) fp) WN ifs tt)
    (he : ∀ (s : Shared) (H : Hp) (C : Addr) (cl : List (Str × Addr)) (fp : List Addr), PED (X.blk s H scope (compEnvC scope cl C X.env) fp) WN elt ge)
    (C : Cfg) (H0 H : Hp) (σ : L2.St) (st : LS) (Ex : DX) (Q : S → LS → Prop) (Qv : VK) (hI : I X.K X.mg C H0 H σ st) (hX : LkX X.K X.mg C H0 σ W Ex)
    (hQ : ∀ r st' v H0' H', Q r st' → I X.K X.mg C H0' H' σ st' → Same H0 H0' → RepR X.K X.mg C H0' H' st' r v → Qv v H') (hg' : dLcQ gi t tt ge (own.map (·.2)) Ex st Q) :
    tLc wi (gLc X scope tg) (ttLc X scope ifs) (teLc X scope elt) (own.map (·.2)) σ H Qv := by
  refine lc_sem (gi := fun Ex st Q => gi Ex st fun ds st1 => wpO (qSz ds) fun ds => ds.length ≤ 16777216 → Q ds st1) (fun C H0 H σ st Ex Q R hI hX hQ hg => qi C H0 H σ st Ex _ R hI hX (fun ds st' J H1 K1 q i s j => ?_) hg) hg ht he C H0 H σ st Ex Q Qv hI hX hQ ?_
  · obtain ⟨ds', e, q'⟩ := wpO_of q
    obtain ⟨hz, rfl⟩ := qSz_of e
    exact hQ _ st' J H1 K1 (q' hz) i s j
  · unfold dLc
    unfold dLcQ at hg'
    refine Eq.mp (congrArg (gi Ex st) ?_) hg'
    funext ds st1
    unfold qSz
    split
    · rename_i hz
      exact propext ⟨fun h z => ⟨z, h⟩, fun h => (h hz).2⟩
    · rfl
theorem podA_lc {scope : Scope} {own : List (Str × Nat)} {gi : DI} {t : DG} {tt : DT} {ge : DE} (hc : X.calm = true) (hN : X.N.Nodup) (hi : PID X W tg iter gi) (ok : BlkOk X.N X.env.scope scope own)
    (hg : ∀ (s : Shared) (H : Hp) (C : Addr) (cl : List (Str × Addr)) (fp : List Addr), PGW (X.blk s H scope (compEnvC scope cl C X.env) fp) tg (own.map (·.2)) t)
    (ht : ∀ (s : Shared) (H : Hp) (C : Addr) (cl : List (Str × Addr)) (fp : List Addr), PTsD (X.blk s H scope (compEnvC scope cl C X.env) fp) WN ifs tt)
    (he : ∀ (s : Shared) (H : Hp) (C : Addr) (cl : List (Str × Addr)) (fp : List Addr), PED (X.blk s H scope (compEnvC scope cl C X.env) fp) WN elt ge) (hs : ∀ x, foldedSetIterable iter X.env x = pure x := by intro _; rfl) :
    POD X W (.ListComp elt [⟨tg, iter, ifs, 0⟩] scope pos) (dLcQ gi t tt ge (own.map (·.2))) := by
  obtain ⟨wi, pi, qi⟩ := hi.ex
  exact ⟨_, pe_lc (g := gLc X scope tg) (tt := ttLc X scope ifs) (te := teLc X scope elt) hc hN pi ok (fun s H C cl fp => ⟨fun pins s' σ H' v u Q I r h => h s H C cl fp pins s' u I r⟩) (fun s H C cl fp => ⟨fun pins s' σ H' Q I h => h s H C cl fp pins s' I⟩)
    (fun s H C cl fp => ⟨fun pins s' σ H' Q I h => h s H C cl fp pins s' I⟩) hs, lcQ_sem qi hg ht he⟩
theorem pedA_lc {scope : Scope} {own : List (Str × Nat)} {gi : DI} {t : DG} {tt : DT} {ge : DE} (hc : X.calm = true) (hN : X.N.Nodup) (hi : PID X W tg iter gi) (ok : BlkOk X.N X.env.scope scope own)
    (hg : ∀ (s : Shared) (H : Hp) (C : Addr) (cl : List (Str × Addr)) (fp : List Addr), PGW (X.blk s H scope (compEnvC scope cl C X.env) fp) tg (own.map (·.2)) t)
    (ht : ∀ (s : Shared) (H : Hp) (C : Addr) (cl : List (Str × Addr)) (fp : List Addr), PTsD (X.blk s H scope (compEnvC scope cl C X.env) fp) WN ifs tt)
    (he : ∀ (s : Shared) (H : Hp) (C : Addr) (cl : List (Str × Addr)) (fp : List Addr), PED (X.blk s H scope (compEnvC scope cl C X.env) fp) WN elt ge) (hs : ∀ x, foldedSetIterable iter X.env x = pure x := by intro _; rfl) :
    PED X W (.ListComp elt [⟨tg, iter, ifs, 0⟩] scope pos) (dLcV gi t tt ge (own.map (·.2))) :=
  (ped_fz (podA_lc hc hN hi ok hg ht he hs)).imp fun Ex st Q hq => by
    unfold dFz dLcQ
    unfold dLcV at hq
    simp only [sD, wpO, all_addr]
    exact hq
end
def tryB {α : Type} (m : Res DErr α) (tb : Nat → Bool) (h : DErr → Res DErr α) : Res DErr α := match m with
  | .ex e => cond (tb e.k) (h e) (.ex e)
  | m => m
theorem wp_tryB {α : Type} {m : Res DErr α} {tb : Nat → Bool} {h : DErr → Res DErr α} {Ex : DErr → Prop} {Q : α → Prop} : wp (tryB m tb h) Ex Q = wp m (fun e => cond (tb e.k) (wp (h e) Ex Q) (Ex e)) Q := by
  cases m with
  | ex e =>
    show wp (cond (tb e.k) (h e) (.ex e)) Ex Q = cond (tb e.k) (wp (h e) Ex Q) (Ex e)
    cases tb e.k <;> rfl
  | _ => rfl
def qT2 : D → Option (D × D)
  | .nd .tup [a, b] => some (a, b)
  | _ => none
def qT3 : D → Option (D × D × D)
  | .nd .tup [a, b, c] => some (a, b, c)
  | _ => none
def gdT2 (ga gb : DG) (d : D) (st : LS) (Q : LS → Prop) : Prop := wpO (qT2 d) fun p => ga p.1 st fun st1 => gb p.2 st1 Q
def gdT3 (ga gb gc : DG) (d : D) (st : LS) (Q : LS → Prop) : Prop := wpO (qT3 d) fun p => ga p.1 st fun st1 => gb p.2.1 st1 fun st2 => gc p.2.2 st2 Q
section
variable {X : Cx} {a b c : Expr} {k : Nat} {pos : Pos} {vs : List Nat} {ga gb gc : DG}
end
section
variable {X : Cx} {W : WX} {e fe : Expr} {es : List Expr} {g gf : DE} {pos : Pos} {n : Nat}
def qGlo {α : Type} (tab : List (Str × α)) : D → Option α
  | .glo x => tab.lookup x
  | _ => none
def dcVQ (tab : List (Str × SpA)) (gf : DE) (ga : DA) (Ex : DX) (st : LS) (Q : S → LS → Prop) : Prop := gf Ex st fun f st1 => wpO (qGlo tab f) fun φ => ga Ex st1 fun ds st2 => φ ds (fun e => Ex e st2) fun r => Q r st2
theorem wpO_map {α β : Type} {g : α → β} {o : Option α} {Q : β → Prop} : wpO (o.map g) Q = wpO o fun a => Q (g a) := by cases o <;> rfl
def phiA1 (F : D → Res DErr D) : SpA := fun ds Ex Q => match ds with
  | [a] => wp (F a) Ex fun d => Q (.fz d)
  | _ => False
end
def qInt : D → Option Int
  | .int i => some i
  | _ => none
def dSomeQ (g : DE) (Ex : DX) (st : LS) (Q : Option Int → LS → Prop) : Prop := g Ex st fun d st1 => wpO (qInt d) fun i => Q (some i) st1
theorem ppA_some {X : Cx} {W : WX} {e : Expr} {g : DE} (h : PED X W e g) : POD' X W (some e) (dSomeQ g) := by
  obtain ⟨ta, pa, qa⟩ := h.ex
  refine ⟨_, po_some pa, fun C H0 H σ st Ex Q Qv hI hX hQ hg => qa C H0 H σ st Ex _ _ hI hX (fun x st1 v H1 K1 q1 i1 s1 r1 => ?_) hg⟩
  cases x with
  | int i => exact ⟨i, r1.int, hQ _ st1 H1 K1 q1 i1 s1⟩
  | _ => exact q1.elim
def cutC (x : Str) (lo hi : Option Int) : Str := cutS x lo hi
def qSl (x : D) (lo hi : Option Int) : Option D := match x with
  | .nd .lst ds => some (.nd .lst (cutD ds lo hi))
  | .nd .scr ds => some (.nd .lst (cutD ds lo hi))
  | .nd .tup ds => some (.nd .tup (cutD ds lo hi))
  | .str s => if s.length ≤ 16777216 then some (.str (cutC s lo hi)) else none
  | _ => none
theorem cutD_full {K : PySem.W.Frag} {mg : Str → Option Value} {H : Hp} {ds : List D} {vs : List V} {lo hi : Option Int} (r3' : RepL K mg H ds vs) (h : HT.sIx vs.length 0 lo = 0 ∧ HT.sIx vs.length vs.length hi = vs.length) : cutD ds lo hi = ds := by
  rw [r3'.length] at h
  unfold cutD
  rw [h.1, h.2, List.drop_zero, Nat.sub_zero, List.take_length]
def dSlV (g : DE) (gl gh : DP) (Ex : DX) (st : LS) (Q : D → LS → Prop) : Prop := g Ex st fun x st1 => gl Ex st1 fun lo st2 => gh Ex st2 fun hi st3 => wpO (qSl x lo hi) fun d => Q d st3
theorem pedA_sl {X : Cx} {W : WX} {e : Expr} {lo hi : Option Expr} {g : DE} {gl gh : DP} {p2 pos : Pos} (h : PED X W e g) (hl : POD' X W lo gl) (hh : POD' X W hi gh) : PED X W (.Subscript e (.Slice lo hi none p2) pos) (dSlV g gl gh) := by
  obtain ⟨ta, pa, qa⟩ := h.ex
  obtain ⟨tl, pl, ql⟩ := hl.ex
  obtain ⟨th, ph, qh⟩ := hh.ex
  refine ⟨_, pe_slice (sl_list.or (sl_tupA.or sl_str)) pa pl ph, fun C H0 H σ st Ex Q Qv hI hX hQ hg => qa C H0 H σ st Ex _ _ hI hX (fun x st1 v H1 K1 q1 i1 s1 r1 => ?_) hg⟩
  refine ql C H1 K1 σ st1 Ex _ _ i1 (hX.up s1) (fun lo st2 H2 K2 q2 i2 s2 => ?_) q1
  refine qh C H2 K2 σ st2 Ex _ _ i2 (hX.up (s1.trans s2)) (fun hi st3 H3 K3 q3 i3 s3 => ?_) q2
  obtain ⟨d, hd, qd⟩ := wpO_of q3
  have r3 := Rep.mono (s2.trans s3) _ _ r1
  have s13 : Same H0 H3 := s1.trans (s2.trans s3)
  unfold qSl at hd
  split at hd
  · cases hd
    obtain ⟨a, vs, rfl, h2, h3⟩ := r3.nd
    refine .inl ⟨a, vs, rfl, i3.same.seq (SqL.of h2), fun p hp => ?_⟩
    have hp0 := i3.same.free hp
    exact hQ _ st3 _ _ _ qd (i3.new hp) (s13.trans (same_upd hp0)) (rep_nd (t := .lst) upd_same (RepL.mono (same_upd hp0) _ _ (cut_rep lo hi h3)))
  · cases hd
    obtain ⟨a, vs, rfl, h2, h3⟩ := r3.nd
    refine .inl ⟨a, vs, rfl, i3.same.seq h2, fun p hp => ?_⟩
    have hp0 := i3.same.free hp
    exact hQ _ st3 _ _ _ qd (i3.new hp) (s13.trans (same_upd hp0)) (rep_nd (t := .lst) upd_same (RepL.mono (same_upd hp0) _ _ (cut_rep lo hi h3)))
  · cases hd
    obtain ⟨a, vs, rfl, h2, h3⟩ := r3.nd
    refine .inr (.inl ⟨a, vs, rfl, SqT.mono i3.same h2, fun hw => ?_, fun hw p hp => ?_⟩)
    · have e : cutD _ lo hi = _ := cutD_full (r3' := h3) hw
      rw [e] at qd
      exact hQ _ st3 _ _ _ qd i3 s13 (rep_nd h2 h3)
    · have hp0 := i3.same.free hp
      exact hQ _ st3 _ _ _ qd (i3.new hp) (s13.trans (same_upd hp0)) (rep_nd (t := .tup) (SqT.of upd_same) (RepL.mono (same_upd hp0) _ _ (cut_rep lo hi h3)))
  · split at hd
    · cases hd
      cases r3.str
      exact .inr (.inr ⟨_, rfl, by assumption, hQ _ st3 _ _ _ qd i3 s13 rep_str⟩)
    · cases hd
  · cases hd
theorem pm_c {f : D → S} {x : D} {l : List D} : (x :: l).map f = f x :: l.map f := rfl
theorem pm_n {f : D → S} : ([] : List D).map f = [] := rfl
theorem pa_c {x : S} {l m : List S} : (x :: l) ++ m = x :: (l ++ m) := rfl
theorem pa_n {m : List S} : ([] : List S) ++ m = m := rfl
theorem pr_s {n : Nat} {x : S} : List.replicate (n + 1) x = x :: List.replicate n x := rfl
theorem pr_0 {x : S} : List.replicate 0 x = [] := rfl
theorem pl_c {x : D} {l : List D} : (x :: l).length = l.length + 1 := rfl
theorem pl_n : ([] : List D).length = 0 := rfl
theorem ps_0 {x y : S} {l : List S} : (x :: l).set 0 y = y :: l := rfl
theorem ps_s {x y : S} {l : List S} {n : Nat} : (x :: l).set (n + 1) y = x :: l.set n y := rfl
end PD
namespace PD
open PySem PySem.Spec PyProof.Rows L2
section
variable {A : Prop} {de : DEnds} {st st' s : LS} {Ex : DX} {Q : D → LS → Prop} {QS : S → LS → Prop} {QB : Bool → LS → Prop} {QA : List D → LS → Prop} {QT : LS → Prop} {QP : Option Int → LS → Prop}
  {a b : DS} {g ga gb : DE} {o : DO} {ha : DA} {t t' : DT} {i j : Nat} {d x y : D} {r : S} {e : DErr} {ds : List D} {gi : DI} {tg tg1 tg2 tg3 : DG} {gl gh : DP}
-- statements
theorem st_then (h : A → b de s) : A → (thenE de b).nx s := h
theorem st_endB {p : Addr} {l : Bool} {rest : LS} {E : DErr → D → Prop} {K : S → D → Prop} (h : A → K (.fz .non) d) : A → (endsB p E K).nx (.ow p l d :: rest) := fun z => ⟨rfl, h z⟩
theorem st_endBR {p : Addr} {l : Bool} {rest : LS} {E : DErr → D → Prop} {K : S → D → Prop} (h : A → K r d) : A → (endsB p E K).rt r (.ow p l d :: rest) := fun z => ⟨rfl, h z⟩
theorem st_endBX {p : Addr} {l : Bool} {rest : LS} {E : DErr → D → Prop} {K : S → D → Prop} (h : A → E e d) : A → (endsB p E K).ex e (.ow p l d :: rest) := fun z => ⟨rfl, h z⟩
-- targets
-- expressions
theorem st_xf {u : XU} {f : Str} (e1 : st[i]? = some (.xc u e)) (h : A → wpO (qXf f e) fun d => Q d st) : A → dXf i u e f Ex st Q := fun z => wpO_imp (fun _ q => ⟨e1, q⟩) (h z)
theorem st_xi {u : XU} {ib : Nat → Bool} (e1 : st[i]? = some (.xc u e)) (h : A → Q (.bl (ib e.k)) st) : A → dXi i u e ib Ex st Q := fun z => ⟨e1, h z⟩
-- calls
theorem st_all {α : Sort _} {B : α → Prop} (h : ∀ u, A → B u) : A → ∀ u, B u := fun a u => h u a
end
abbrev scr (ns : List Int) : D := .nd .scr (ns.map D.int)
section
variable {ε α β : Type}
theorem bO_some {a : α} {f : α → Res ε β} : bO (some a) f = f a := rfl
theorem bR_ok {a : α} {f : α → Res ε β} : bR (.ok a) f = f a := rfl
theorem ctl_nx {γ : Type} {b : β} {r : γ → Res ε α} {n : β → Res ε α} : ctl (.nx b) r n = n b := rfl
theorem forR_inv {f : D → β → Res ε (Ctl α β)} (P : β → Prop) : ∀ (l : List D) (b : β), P b → (∀ x b, x ∈ l → P b → ∃ b', f x b = .ok (.nx b') ∧ P b') → ∃ b', forR l b f = .ok (.nx b') ∧ P b'
  | [], b, h, _ => ⟨b, rfl, h⟩
  | x :: r, b, h, k => by
    obtain ⟨b', e, h'⟩ := k x b List.mem_cons_self h
    obtain ⟨c, e2, h2⟩ := forR_inv P r b' h' fun y b hy hb => k y b (List.mem_cons_of_mem _ hy) hb
    refine ⟨c, ?_, h2⟩
    show bR (f x b) _ = _
    rw [e]
    exact e2
end
theorem forR_unit {ε α : Type} {f : D → Unit → Res ε (Ctl α Unit)} (l : List D) (k : ∀ x, x ∈ l → f x () = .ok (.nx ())) : forR l () f = .ok (.nx ()) := by
  obtain ⟨b, e, _⟩ := forR_inv (f := f) (fun _ => True) l () trivial fun x b hx _ => ⟨(), k x hx, trivial⟩
  exact e
theorem qAdd_int {i j : Int} : qAdd (.int i) (.int j) = some (.int (i + j)) := rfl
theorem qMul_int {i j : Int} (h : mulB i j = true) : qMul (.int i) (.int j) = some (.int (i * j)) := by
  unfold qMul qOr qIc
  dsimp only
  rw [if_pos h]
theorem qDiv_int {i j : Int} (h : divB j = true) : qDiv (.int i) (.int j) = some (.int (i.fdiv j)) := by
  unfold qDiv qIc
  dsimp only
  rw [if_pos h]
theorem qMod_int {i j : Int} (h : j ≠ 0) : qMod (.int i) (.int j) = some (.int (i.fmod j)) := by
  unfold qMod qIc
  dsimp only
  rw [if_pos (decide_eq_true h)]
theorem qLt_int {i j : Int} : qLt (.int i) (.int j) = some (.bl (decide (i < j))) := rfl
theorem qGt_int {i j : Int} : qGt (.int i) (.int j) = some (.bl (decide (j < i))) := rfl
theorem qGe_int {i j : Int} : qGe (.int i) (.int j) = some (.bl (decide (j ≤ i))) := rfl
theorem qBl_bl {b : Bool} : qBl (.bl b) = some b := rfl
theorem mulB_small {i j : Int} (h : Bz 63 i ∨ Bz 63 j) : mulB i j = true := by
  unfold mulB
  rcases h with h | h
  · rw [decide_eq_true (bits_le h (by decide))]; simp
  · rw [decide_eq_true (bits_le h (by decide) : bits j ≤ 63)]; simp
theorem divB_of {b : Nat} {j : Int} (h : j ≠ 0) (k : Bz b j) (l : b ≤ 9000) : divB j = true := by
  unfold divB
  rw [decide_eq_true h]
  by_cases hb : b = 0
  · subst hb
    exact absurd (show j.natAbs < 1 from k) (by omega)
  · rw [decide_eq_true (by have := bits_le k (by omega); omega : bits j ≤ 9000)]; rfl
end PD
namespace PD
open PySem PySem.Spec PyProof.Rows L2
def okTy (x : D) : Prop := (tyN x == "") = false
def okP : D → Prop
  | .nd .tup [a, b] => okTy a ∧ okTy b
  | x => okTy x
theorem okP.ty {x : D} (h : okP x) : okTy x := by
  unfold okP at h
  split at h
  · show ("tuple" == "") = false; decide
  · exact h
theorem FrD.okP {b : Nat} {x : D} (h : FrD b x) : okP x := by
  rw [h.eq]
  exact ⟨by show ("int" == "") = false; decide, by show ("int" == "") = false; decide⟩
theorem fdiv_nn {x m : Int} (hx : 0 ≤ x) (hm : 0 < m) : 0 ≤ x.fdiv m := Int.fdiv_nonneg hx (by omega)
theorem fmod_nn (x : Int) {m : Int} (hm : 0 < m) : 0 ≤ x.fmod m := Int.fmod_nonneg_of_pos x hm
theorem fmod_lt' (x : Int) {m : Int} (hm : 0 < m) : x.fmod m < m := Int.fmod_lt_of_pos x hm
theorem geti_map {ns : List Int} {k : Int} (h0 : 0 ≤ k) (h : k < (ns.length : Int)) : ∃ v, geti (ns.map D.int) k = some (.int v) := by
  obtain ⟨n, rfl⟩ := Int.eq_ofNat_of_zero_le h0
  have hn : n < ns.length := by omega
  refine ⟨ns[n], ?_⟩
  show (ns.map D.int)[n]? = _
  rw [List.getElem?_map, List.getElem?_eq_getElem hn]; rfl
theorem cut_ints (ns : List Int) (lo hi : Option Int) : ∃ ms : List Int, cutD (ns.map D.int) lo hi = ms.map D.int := by
  unfold cutD
  rw [← List.map_drop, ← List.map_take]
  exact ⟨_, rfl⟩
theorem mem_iota {lo : Int} {n : Nat} {x : D} (h : x ∈ iota lo n) : ∃ k : Int, x = .int k ∧ lo ≤ k ∧ k < lo + n := by
  unfold iota at h
  obtain ⟨k, hk, rfl⟩ := List.mem_map.mp h
  have := List.mem_range.mp hk
  exact ⟨_, rfl, by omega, by omega⟩
end PD
namespace PD
open PySem PySem.Spec PyProof.Rows L2
abbrev kD : Key → D
  | .inl i => .int i
  | .inr s => .str s
def keyOf : D → Option Key
  | .int i => some (.inl i)
  | .str s => some (.inr s)
  | _ => none
theorem keyOf_kD {d : D} {k : Key} (h : keyOf d = some k) : d = kD k := by
  unfold keyOf at h
  split at h <;> cases h <;> rfl
abbrev dicD (kvs : List (Key × D)) : D := .nd (.dic (kvs.map (·.1))) (kvs.map (·.2))
section
variable {α : Type}
def getG (kvs : List (Key × α)) (k : Key) : Option α := (kvs.find? fun kv => decide (kv.1 = k)).map (·.2)
def putG (kvs : List (Key × α)) (k : Key) (v : α) : List (Key × α) := if (kvs.any fun kv => decide (kv.1 = k)) = true then kvs.map (fun kv => if kv.1 = k then (kv.1, v) else kv) else kvs ++ [(k, v)]
def mergeG (kvs more : List (Key × α)) : List (Key × α) := more.foldl (fun acc kv => putG acc kv.1 kv.2) kvs
theorem zip_maps (kvs : List (Key × α)) : (kvs.map (·.1)).zip (kvs.map (·.2)) = kvs := by
  induction kvs with
  | nil => rfl
  | cons p r ih => rw [List.map_cons, List.map_cons, List.zip_cons_cons, ih]
end
section
variable {K : PySem.W.Frag} {mg : Str → Option Value} {H H' : Hp}
def KR (K : PySem.W.Frag) (mg : Str → Option Value) (H : Hp) : List (Key × D) → List (Key × V) → Prop
  | [], [] => True
  | p :: r, q :: w => p.1 = q.1 ∧ Rep K mg H p.2 q.2 ∧ KR K mg H r w
  | _, _ => False
theorem KR.of : ∀ {ks : List Key} {ds : List D} {vs : List V}, RepL K mg H ds vs → ks.length = vs.length → KR K mg H (ks.zip ds) (ks.zip vs)
  | [], ds, vs, r, h => by
    cases vs with
    | nil => trivial
    | cons v vs => cases h
  | k :: ks, [], vs, r, h => by
    rw [r.nil] at h; cases h
  | k :: ks, d :: ds, vs, r, h => by
    obtain ⟨v, w, rfl, h1, h2⟩ := r.cons
    exact ⟨rfl, h1, KR.of h2 (by simpa using h)⟩
theorem KR.keys : ∀ {kvs : List (Key × D)} {ws : List (Key × V)}, KR K mg H kvs ws → kvs.map (·.1) = ws.map (·.1)
  | [], [], _ => rfl
  | p :: r, q :: w, h => by rw [List.map_cons, List.map_cons, h.1, h.2.2.keys]
  | [], _ :: _, h => h.elim
  | _ :: _, [], h => h.elim
theorem KR.vals : ∀ {kvs : List (Key × D)} {ws : List (Key × V)}, KR K mg H kvs ws → RepL K mg H (kvs.map (·.2)) (ws.map (·.2))
  | [], [], _ => repL_nil
  | p :: r, q :: w, h => repL_cons h.2.1 h.2.2.vals
  | [], _ :: _, h => h.elim
  | _ :: _, [], h => h.elim
theorem KR.length {kvs : List (Key × D)} {ws : List (Key × V)} (h : KR K mg H kvs ws) : kvs.length = ws.length := by
  have := congrArg List.length h.keys
  simpa using this
theorem KR.mono (e : Same H H') : ∀ {kvs : List (Key × D)} {ws : List (Key × V)}, KR K mg H kvs ws → KR K mg H' kvs ws
  | [], [], _ => trivial
  | p :: r, q :: w, h => ⟨h.1, Rep.mono e _ _ h.2.1, h.2.2.mono e⟩
  | [], _ :: _, h => h.elim
  | _ :: _, [], h => h.elim
theorem KR.get {k : Key} : ∀ {kvs : List (Key × D)} {ws : List (Key × V)}, KR K mg H kvs ws → (∀ d, getG kvs k = some d → ∃ v, valV ws k = some v ∧ Rep K mg H d v) ∧ (getG kvs k = none → valV ws k = none)
  | [], [], _ => ⟨(fun d h => by cases h), fun _ => rfl⟩
  | p :: r, q :: w, h => by
    obtain ⟨h1, h2, h3⟩ := h
    have ih := h3.get (k := k)
    by_cases e : p.1 = k
    · have e1 : getG (p :: r) k = some p.2 := by unfold getG; rw [List.find?_cons, decide_eq_true e]; rfl
      have e2 : valV (q :: w) k = some q.2 := valV_pos (by rw [← h1]; exact e)
      rw [e1, e2]
      exact ⟨fun d hd => by cases hd; exact ⟨_, rfl, h2⟩, fun hd => nomatch hd⟩
    · have e1 : getG (p :: r) k = getG r k := by unfold getG; rw [List.find?_cons, decide_eq_false e]
      have e2 : valV (q :: w) k = valV w k := valV_neg (by rw [← h1]; exact e)
      rw [e1, e2]; exact ih
  | [], _ :: _, h => h.elim
  | _ :: _, [], h => h.elim
theorem KR.any {k : Key} : ∀ {kvs : List (Key × D)} {ws : List (Key × V)}, KR K mg H kvs ws → (kvs.any fun kv => decide (kv.1 = k)) = ws.any fun kv => decide (kv.1 = k)
  | [], [], _ => rfl
  | p :: r, q :: w, h => by rw [List.any_cons, List.any_cons, h.1, h.2.2.any]
  | [], _ :: _, h => h.elim
  | _ :: _, [], h => h.elim
theorem KR.snoc {k : Key} {d : D} {v : V} (r : Rep K mg H d v) : ∀ {kvs : List (Key × D)} {ws : List (Key × V)}, KR K mg H kvs ws → KR K mg H (kvs ++ [(k, d)]) (ws ++ [(k, v)])
  | [], [], _ => ⟨rfl, r, trivial⟩
  | p :: t, q :: w, h => ⟨h.1, h.2.1, h.2.2.snoc r⟩
  | [], _ :: _, h => h.elim
  | _ :: _, [], h => h.elim
theorem KR.repl {k : Key} {d : D} {v : V} (r : Rep K mg H d v) : ∀ {kvs : List (Key × D)} {ws : List (Key × V)}, KR K mg H kvs ws → KR K mg H (kvs.map fun kv => if kv.1 = k then (kv.1, d) else kv) (ws.map fun kv => if kv.1 = k then (kv.1, v) else kv)
  | [], [], _ => trivial
  | p :: t, q :: w, h => by
    obtain ⟨h1, h2, h3⟩ := h
    rw [List.map_cons, List.map_cons]
    by_cases e : p.1 = k
    · rw [if_pos e, if_pos (by rw [← h1]; exact e)]
      exact ⟨h1, r, h3.repl r⟩
    · rw [if_neg e, if_neg (by rw [← h1]; exact e)]
      exact ⟨h1, h2, h3.repl r⟩
  | [], _ :: _, h => h.elim
  | _ :: _, [], h => h.elim
theorem KR.put {k : Key} {d : D} {v : V} (r : Rep K mg H d v) {kvs : List (Key × D)} {ws : List (Key × V)} (h : KR K mg H kvs ws) : KR K mg H (putG kvs k d) (putK ws k v) := by
  unfold putG putK
  rw [h.any]
  split
  · exact h.repl r
  · exact h.snoc r
theorem zip_keys {α β : Type} : ∀ (ks : List α) (vs : List β), ks.length = vs.length → ks = (ks.zip vs).map (·.1)
  | [], _, _ => rfl
  | k :: ks, [], h => nomatch h
  | k :: ks, v :: vs, h => by rw [List.zip_cons_cons, List.map_cons, ← zip_keys ks vs (by simpa using h)]
theorem Rep.dic {ks : List Key} {ds : List D} {v : V} (h : Rep K mg H (.nd (.dic ks) ds) v) : ∃ a o ws, v = .ref a ∧ H a = some (.frz o (.dK ws)) ∧ KR K mg H (ks.zip ds) ws ∧ ks = ws.map (·.1) := by
  obtain ⟨a, vs, rfl, ⟨h1, o, h2⟩, h3⟩ := h.nd
  exact ⟨a, o, _, rfl, h2, KR.of h3 h1, zip_keys ks vs h1⟩
theorem NodeM.dic {a : Addr} {ws : List (Key × V)} (e : H a = Option.some (HO.dK ws)) : NodeM mg H (.dic (ws.map (·.1))) a (ws.map (·.2)) :=
  ⟨by rw [List.length_map, List.length_map], by rw [zip_maps]; exact e⟩
theorem kV_rep (k : Key) : Rep K mg H (kD k) (kV k) := by
  cases k with
  | inl i => exact rep_int
  | inr s => exact rep_str
theorem Rep.key {d : D} {v : V} {k : Key} (h : Rep K mg H d v) (e : keyOf d = some k) : v = kV k := by
  obtain rfl := keyOf_kD e
  cases k with
  | inl i => exact h.int
  | inr s => exact h.str
end
section
variable {X : Cx}
def qIxD : Q2 := fun x y => match x with
  | .nd (.dic ks) ds => (keyOf y).bind fun k => getG (ks.zip ds) k
  | _ => none
def rDG : R2 := fun x y H Q => ∃ a v, x = .ref a ∧ DGet H a y (some v) ∧ Q v H
theorem ix_dict (hu : X.A.units + 1 < cLine) : IxR X rDG := by
  intro value slice pins s σ H x y v u Q I rx ry h hs
  obtain ⟨a, z, rfl, g, q⟩ := h
  cases rx
  exact tail_any (dict_typeIs I g) PySem.F.slot_dict_getitem.lookup (d_getItem hu I g ry fun w' s3 I3 rw' => ⟨z, H, I3, rw', q⟩) hs
theorem a_ixD (hu : X.A.units + 1 < cLine) : IxA X qIxD := ⟨_, ix_dict hu, fun C H0 H σ st x y d v u Qv hI rx ry e hQ => by
  unfold qIxD at e
  split at e
  · rename_i ks ds
    obtain ⟨k, hk, e⟩ := Option.bind_eq_some_iff.mp e
    obtain ⟨a, o, ws, rfl, h2, h3, _⟩ := rx.dic
    obtain ⟨w, hw, rw'⟩ := h3.get.1 d e
    refine ⟨a, w, rfl, .inl ⟨ws, k, .inr ⟨o, hI.same _ _ h2⟩, ry.key hk, hw.symm⟩, hQ w H0 H hI (Same.refl _) rw'⟩
  · cases e⟩
theorem KR.isSome {K : PySem.W.Frag} {mg : Str → Option Value} {H : Hp} {k : Key} {kvs : List (Key × D)} {ws : List (Key × V)} (h : KR K mg H kvs ws) : (valV ws k).isSome = (getG kvs k).isSome := by
  have g := h.get (k := k)
  cases e : getG kvs k with
  | none => rw [g.2 e]; rfl
  | some d => obtain ⟨v, hv, _⟩ := g.1 d e; rw [hv]; rfl
end
end PD
namespace PD
open PySem PySem.Spec PyProof.Rows L2
section
variable {X : Cx} {W : WX}
def qLenD : QL := fun xs => match xs with
  | [.nd (.dic ks) _] => some (.int (ks.length : Nat))
  | _ => none
theorem k_lenD : CallA X (.builtin "len") qLenD := ⟨fun xs H Q => ∃ a ws, xs = [V.ref a] ∧ Rd H a (.dK ws) ∧ Q (.int (ws.length : Nat)) H, fun pins s σ H xs us Q I r h => by
    obtain ⟨a, ws, rfl, e, q⟩ := h
    obtain ⟨u, rfl, ru⟩ := vals1 r
    cases ru
    exact d_len I e fun t s' I' => ⟨.int _, H, I', ⟨t, rfl⟩, q⟩, fun C H0 H σ st xs d vs Qv hI rx e hQ => by
  unfold qLenD at e
  split at e
  · cases e
    obtain ⟨v, rfl, h⟩ := rx.one
    obtain ⟨a, o, ws, rfl, h2, h3, h4⟩ := h.dic
    refine ⟨a, ws, rfl, .inr ⟨o, hI.same _ _ h2⟩, ?_⟩
    rw [← List.length_map (f := fun p : Key × V => p.1) (as := ws), ← h4]
    exact hQ _ H0 H hI (Same.refl _) rep_int
  · cases e⟩
def qLen : QL := qOrL qLen1 qLenD
theorem k_len : CallA X (.builtin "len") qLen := k_len1.or k_lenD
theorem repL_strs {K : PySem.W.Frag} {mg : Str → Option Value} {H : Hp} : ∀ (ns : List Str), RepL K mg H (ns.map D.str) (ns.map V.str)
  | [] => repL_nil
  | n :: ns => repL_cons rep_str (repL_strs ns)
def qListD : QL := fun xs => match xs with
  | [.nd (.dic ks) _] => some (.nd .lst (ks.map kD))
  | _ => none
theorem repL_keys {K : PySem.W.Frag} {mg : Str → Option Value} {H : Hp} : ∀ ks : List Key, RepL K mg H (ks.map kD) (ks.map kV)
  | [] => repL_nil
  | k :: ks => repL_cons (kV_rep k) (repL_keys ks)
end
end PD
namespace PD
open PySem PySem.Spec PyProof.Rows L2
def CallO (X : Cx) (F : Value) (q : QL) : Prop := ∃ r, CallR X F r ∧ ∀ (C : Cfg) (H0 H : Hp) (σ : L2.St) (st : LS) (xs : List D) (d : D) (vs : List V) (Qv : VK), I X.K X.mg C H0 H σ st → RepL X.K X.mg H0 xs vs → q xs = some d →
  (∀ p w H', I X.K X.mg C H0 H' σ st → RepR X.K X.mg C H0 H' st (.ow p true d) w → Qv w H') → r vs H Qv
def dCBo (q : QL) (g : DA) (Ex : DX) (st : LS) (Q : S → LS → Prop) : Prop := g Ex st fun ds st1 => wpO (q ds) fun d => ∀ p, Q (.ow p true d) st1
section
variable {X : Cx} {W : WX} {F : Value} {e : Expr} {es : List Expr} {ha : DA} {pos p : Pos} {x : Str} {g : DE}
theorem CallO.or {q q' : QL} (h : CallO X F q) (k : CallO X F q') : CallO X F (qOrL q q') := by
  obtain ⟨r, h1, h2⟩ := h
  obtain ⟨r', k1, k2⟩ := k
  refine ⟨_, h1.or k1, fun C H0 H σ st xs d vs Qv hI rx e hQ => ?_⟩
  unfold qOrL at e
  split at e
  · rename_i d' e'
    cases e
    exact .inl (h2 C H0 H σ st xs _ vs Qv hI rx e' hQ)
  · exact .inr (k2 C H0 H σ st xs _ vs Qv hI rx e hQ)
theorem it_fn {K : PySem.W.Frag} {mg : Str → Option Value} {J : It} {H0 : Hp} {ds : List D} {vs : List V} (r : RepL K mg H0 ds vs) (go : ∀ i H, Same H0 H → i < vs.length → J.go i H) (stop : ∀ H, Same H0 H → J.stop vs.length H)
    (yld : ∀ i H x H', Same H0 H → J.yld i H x H' → H' = H ∧ vs[i]? = some x) : ItOk K mg J H0 ds := by
  have el := r.length
  refine ⟨fun i H s h' => go i H s (by omega), fun H s => by rw [← el]; exact stop H s, fun C i H1 H x H' σ st s h' hI y => ?_⟩
  obtain ⟨rfl, e⟩ := yld i H x H' (s.trans hI.same) y
  obtain ⟨d, h1, h2⟩ := r.getV e
  exact ⟨H1, d, h1, Same.refl _, hI, Rep.mono s d x h2⟩
theorem it_keys {K : PySem.W.Frag} {mg : Str → Option Value} {H0 : Hp} {a : Addr} {o : Obj} {ws : List (Key × V)} (h : H0 a = some (.frz o (.dK ws))) : ItOk K mg (Itk a o ws) H0 ((ws.map (·.1)).map kD) := by
  refine it_fn (vs := (ws.map (·.1)).map kV) (repL_keys _) (fun i H s hi => ⟨s _ _ h, by simpa using hi⟩) (fun H s => ⟨s _ _ h, by simp⟩) fun i H x H' s y => ?_
  obtain ⟨rfl, k, v, e, rfl⟩ := y
  exact ⟨rfl, by rw [List.getElem?_map, List.getElem?_map, e]; rfl⟩
theorem it_str {K : PySem.W.Frag} {mg : Str → Option Value} {H0 : Hp} {z : Str} : ItOk K mg (Its z) H0 (z.cps.toList.map fun c => .str ⟨#[c]⟩) := by
  have r : RepL K mg H0 (z.cps.toList.map fun c => D.str ⟨#[c]⟩) (z.cps.toList.map fun c => V.str ⟨#[c]⟩) := by
    have := repL_strs (K := K) (mg := mg) (H := H0) (z.cps.toList.map fun c => ⟨#[c]⟩)
    rw [List.map_map, List.map_map] at this
    exact this
  refine it_fn r (fun i H s hi => by show i < z.cps.size; simpa using hi) (fun H s => by show z.cps.size ≤ _; simp) fun i H x H' s y => ?_
  obtain ⟨rfl, c, e, rfl⟩ := y
  exact ⟨rfl, by rw [List.getElem?_map, Array.getElem?_toList, e]; rfl⟩
def qIt : D → Option (List D)
  | .nd .lst ds => some ds
  | .nd .tup ds => some ds
  | .nd .scr ds => some ds
  | .nd (.dic ks) _ => some (ks.map kD)
  | .str z => some (z.cps.toList.map fun c => .str ⟨#[c]⟩)
  | _ => none
def iAny (K : PySem.W.Frag) (te : TE) : TI := fun σ H R => te σ H fun x H1 => (∃ a, x = .ref a ∧ (∃ xs, SqL K H1 a xs) ∧ R (Itl K a) H1) ∨ (∃ a, x = .ref a ∧ (∃ xs, SqT K H1 a xs) ∧ R (Itt K a) H1) ∨ (∃ z, x = .str z ∧ R (Its z) H1) ∨
  ∃ a o kvs, x = .ref a ∧ H1 a = some (.frz o (.dK kvs)) ∧ R (Itk a o kvs) H1
theorem pi_any {tg : Expr} {te : TE} (he : PE X e te) : PI X tg e (iAny X.K te) where
  run pins u τ G R J h := by
    refine thn (he.run pins u τ G _ J h) ?_
    rintro v u1 ⟨x, G1, J1, rx, q⟩
    rcases q with ⟨a, rfl, ⟨xs, sq⟩, q⟩ | ⟨a, rfl, ⟨xs, sq⟩, q⟩ | ⟨z, rfl, q⟩ | ⟨a, o, kvs, rfl, fz, q⟩
    · cases rx
      obtain ⟨_, _, lp, _⟩ := J1.list sq
      exact wpAny_pyIter_list lp.isList (pi_one (tk := u1.toks) J1 _ (turn_list a _) ⟨_, Heap.get?_push_size _ rfl, rfl, rfl⟩ q)
    · cases rx
      obtain ⟨its, _, tp, _⟩ := J1.tuple sq
      exact wpAny_pyIter_tuple (show u1.heap.IsTuple a its.toArray from tp) (pi_one (tk := u1.toks) J1 _ (turn_tuple a _) ⟨_, Heap.get?_push_size _ rfl, rfl, rfl⟩ q)
    · obtain ⟨t, rfl⟩ := rx
      by_cases low : z.cps.all (fun c => c < 128) = true
      · exact wpAny_pyIter_ascii low (pi_one (tk := u1.toks) J1 _ (turn_str _ z t "str_ascii_iterator" (.inl rfl)) ⟨_, Heap.get?_push_size _ rfl, rfl, rfl⟩ q)
      · exact wpAny_pyIter_wide (eq_false_of_ne_true low) (pi_one (tk := u1.toks) J1 _ (turn_str _ z t "str_iterator" (.inr rfl)) ⟨_, Heap.get?_push_size _ rfl, rfl, rfl⟩ q)
    · cases (show v = Value.ref a from rx)
      obtain ⟨m1, m2, m3, _, _, _, m4, m5, _, _⟩ := J1.frzK fz
      refine iter_keys m1 m2 m3 m4 (pi_one (tk := u1.toks) J1 _ (turn_keys _ m4) ⟨_, Heap.get?_push_size _ rfl, rfl, ?_⟩ q)
      rw [m5] <;> rfl
theorem pidA_any {tg : Expr} (h : PED X W e g) : PID X W tg e (dIt qIt g) := by
  obtain ⟨ta, pa, qa⟩ := h.ex
  refine ⟨_, pi_any pa, fun C H0 H σ st Ex Q R hI hX hQ hg => qa C H0 H σ st Ex _ _ hI hX (fun d st1 v H1 K1 q1 i1 s1 r1 => ?_) hg⟩
  obtain ⟨ds, hd, qd⟩ := wpO_of q1
  unfold qIt at hd
  split at hd
  · cases hd
    obtain ⟨a, vs, rfl, h2, h3⟩ := r1.nd
    exact .inl ⟨a, rfl, ⟨vs, i1.same.seq (SqL.of h2)⟩, hQ _ st1 _ H1 K1 qd i1 s1 (it_lst (SqL.of h2) h3)⟩
  · cases hd
    obtain ⟨a, vs, rfl, h2, h3⟩ := r1.nd
    exact .inr (.inl ⟨a, rfl, ⟨vs, SqT.mono i1.same h2⟩, hQ _ st1 _ H1 K1 qd i1 s1 (it_tup h2 h3)⟩)
  · cases hd
    obtain ⟨a, vs, rfl, h2, h3⟩ := r1.nd
    exact .inl ⟨a, rfl, ⟨vs, i1.same.seq h2⟩, hQ _ st1 _ H1 K1 qd i1 s1 (it_lst h2 h3)⟩
  · cases hd
    obtain ⟨a, o, ws, rfl, h2, h3, h4⟩ := r1.dic
    have it := it_keys (K := X.K) (mg := X.mg) h2
    rw [← h4] at it
    exact .inr (.inr (.inr ⟨a, o, ws, rfl, i1.same _ _ h2, hQ _ st1 _ H1 K1 qd i1 s1 it⟩))
  · cases hd
    cases r1.str
    exact .inr (.inr (.inl ⟨_, rfl, hQ _ st1 _ H1 K1 qd i1 s1 it_str⟩))
  · cases hd
end
end PD
namespace PD
open PySem PySem.Spec PyProof.Rows L2
section
variable {X : Cx}
end
def dChain (q q' : Q2) (ga gb gc : DE) (Ex : DX) (st : LS) (Q : D → LS → Prop) : Prop := ga Ex st fun x st1 => gb Ex st1 fun y st2 => wpO (q x y) fun z => wpO (qBl z) fun k => cond k (gc Ex st2 fun w st3 => wpO (q' y w) fun d => Q d st3) (Q (.bl false) st2)
def evD {α : Type} : List α → List α
  | [] => []
  | [a] => [a]
  | a :: _ :: r => a :: evD r
section
variable {s : Shared} {prog : Program} {A : Around} {E : Value → Shared → Prop} {w : World}
end
section
variable {X : Cx} {W : WX} {a b c : Expr} {ga gb gc : DE} {pos : Pos}
end
section
variable {X : Cx}
end
def qSt2 (x : D) (lo : Option Int) : Option D := match x, lo with
  | .nd .tup ds, none => some (.nd .tup (evD ds))
  | .nd .tup ds, some (.ofNat a) => some (.nd .tup (evD (ds.drop a)))
  | _, _ => none
def dSt2 (g : DE) (gl : DP) (Ex : DX) (st : LS) (Q : D → LS → Prop) : Prop := g Ex st fun x st1 => gl Ex st1 fun lo st2 => wpO (qSt2 x lo) fun d => Q d st2
def qRev (x : D) : Option D := match x with
  | .nd .lst ds => some (.nd .lst ds.reverse)
  | .nd .scr ds => some (.nd .lst ds.reverse)
  | _ => none
def dRev (g : DE) (Ex : DX) (st : LS) (Q : D → LS → Prop) : Prop := g Ex st fun x st1 => wpO (qRev x) fun d => Q d st1
section
variable {X : Cx} {W : WX} {e : Expr} {g : DE}
end
section
variable {prog : Program} {w : World} {A : Around} {E : Value → Shared → Prop} {s : Shared} {R : Result → Shared → Prop}
abbrev lstO (acc : Array Value) (c : Nat) : Obj := { cls := .type "list", data := .seq acc c }
structure Spelt (x : Str) (S : Addr) (u u' : Shared) (acc : Array Value) (c : Nat) : Prop where
  keep : ∀ b o, b ≠ S → u.heap.get? b = some o → u'.heap.get? b = some o
  rest : u'.gens = u.gens ∧ u'.drawn = u.drawn ∧ u'.os = u.os
  all : ItemsOf (SignAt x) acc x.cps.size
  at_ : u'.heap.get? S = some (lstO acc c)
end
section
variable {X : Cx}
end
end PD
namespace PD
open PySem PySem.Spec PyProof.Rows L2
theorem RoomG.in1 {k : Nat} {A : Around} (h : RoomG (k + 1) A) : RoomG k A.in1 := ⟨h.r.in1, h.gd⟩
abbrev KwNames (X : Cx) (pos : Pos) (kws : List Keyword) (ks : List Str) : Prop := (backToKw pos (keywordEach kws X.env)).filterMap Prod.fst = ks
abbrev KwAll (X : Cx) (pos : Pos) (kws : List Keyword) : Prop := (backToKw pos (keywordEach kws X.env)).all (fun z => z.1.isSome) = true
abbrev KwPlain (X : Cx) (pos : Pos) (as : List Expr) (kws : List Keyword) : Prop := ((backTo pos (starEach as X.env)).any Prod.fst || (backToKw pos (keywordEach kws X.env)).any (fun z => z.1.isNone)) = false
section
variable {X : Cx} {k : Nat} {f C pa_ g : Addr} {fd : FuncData} {ps : List Str} {sp : Sp} {E : L2.St → XK} {x m : Str} {p pos apos : Pos} {e o : Expr} {es : List Expr} {ta : TE} {t : TA}
variable {n : Nat} {ks : List Str} {kws : List Keyword} {tk : TA} {gf : List Value → List Value → List Value} {gV : List V → List V → List V}
end
def lookF (fs : List Str) (ds : List D) (f : Str) : Option D := (fs.zip ds).lookup f
def putL : List Str → List D → Str → D → List Str × List D
  | g :: gs, x :: xs, f, d => if g = f then (g :: gs, d :: xs) else (g :: (putL gs xs f d).1, x :: (putL gs xs f d).2)
  | _, _, f, d => ([f], [d])
section
variable {K : PySem.W.Frag} {mg : Str → Option Value} {H : Hp}
end
def qIns (c m : Str) (d : D) : Option Unit := match d with
  | .nd (.ins c' fs) ds => if c' = c ∧ lookF fs ds m = none then some () else none
  | _ => none
def qPutF (c f : Str) (o v : D) : Option D := match o with
  | .nd (.ins c' fs) ds => if c' = c ∧ fs.length < 1000 then some (.nd (.ins c (putL fs ds f v).1) (putL fs ds f v).2) else none
  | _ => none
def dMe (c m : Str) (φ : SpA) (g : DE) (ha : DA) (Ex : DX) (st : LS) (Q : S → LS → Prop) : Prop := g Ex st fun x st1 => wpO (qIns c m x) fun _ => ha Ex st1 fun ds st2 => φ (x :: ds) (fun e => Ex e st2) fun r => Q r st2
def dPr (c : Str) (φ : SpA) (g : DE) (Ex : DX) (st : LS) (Q : S → LS → Prop) : Prop := g Ex st fun x st1 => wpO (qIns c "" x) fun _ => φ [x] (fun _ => False) fun r => Q r st1
def dMk (c : Str) (φ : SpB) (ms : List D) (ha hk : DA) (Ex : DX) (st : LS) (Q : S → LS → Prop) : Prop := ha Ex st fun ds st1 => hk Ex st1 fun zs st2 => φ (.nd (.ins c []) []) (ds ++ (ms ++ zs)) (fun e _ => Ex e st2) fun r d' => r = .fz .non ∧ ∀ p, Q (.ow p true d') st2
def dFs (c f : Str) (i : Nat) (ge : DE) (de : DEnds) (st : LS) : Prop := ge de.ex st fun v st1 => atO st1[i]? fun a l d => wpO (qPutF c f d v) fun d' => de.nx (st1.set i (.ow a l d'))
theorem Rep.ins {K : PySem.W.Frag} {mg : Str → Option Value} {H0 H : Hp} (s : Same H0 H) {c : Str} {fs : List Str} {ds : List D} {v : V} {Ca : Addr} (h : Rep K mg H0 (.nd (.ins c fs) ds) v) (hC : mg c = some (.ref Ca)) :
    ∃ a dx vs, v = .ref a ∧ H a = some (.ins Ca dx (fs.zip vs)) ∧ RepL K mg H0 ds vs ∧ fs.length = vs.length := by
  obtain ⟨a, vs, rfl, ⟨h1, C, dx, h2, h3⟩, h4⟩ := h.nd
  rw [hC] at h2
  cases h2
  exact ⟨a, dx, vs, rfl, s _ _ h3, h4, h1⟩
section
variable {X : Cx} {W : WX} {c f m x : Str} {Ca fa pa' : Addr} {e o : Expr} {es : List Expr} {g : DE} {ha : DA} {pos p apos : Pos} {k n : Nat} {fd : FuncData} {ps : List Str}
structure PKD (X : Cx) (W : WX) (kws : List Keyword) (g : DA) : Prop where
  ex : ∃ t, PK X kws t ∧ ∀ (C : Cfg) (H0 H : Hp) (σ : L2.St) (st : LS) (Ex : DX) (Q : List D → LS → Prop) (Qv : List V → Hp → Prop), I X.K X.mg C H0 H σ st → LkX X.K X.mg C H0 σ W Ex →
    (∀ ds st' vs H0' H', Q ds st' → I X.K X.mg C H0' H' σ st' → Same H0 H0' → RepL X.K X.mg H0' ds vs → ds.length = kws.length → Qv vs H') → g Ex st Q → t σ H Qv
theorem pkd_nil : PKD X W [] dANil := ⟨_, pk_nil, fun C H0 H σ st Ex Q Qv hI hX hQ hg => hQ [] st [] H0 H hg hI (Same.refl _) repL_nil rfl⟩
theorem pkd_cons {nm : Option Str} {kpos : Pos} {kws : List Keyword} {hk : DA} (h : PED X W e g) (r : PKD X W kws hk) : PKD X W (⟨nm, e, kpos⟩ :: kws) (dACons g hk) := by
  obtain ⟨ta, pa, qa⟩ := h.ex
  obtain ⟨tb, pb, qb⟩ := r.ex
  refine ⟨_, pk_cons pa pb, fun C H0 H σ st Ex Q Qv hI hX hQ hg => qa C H0 H σ st Ex _ _ hI hX (fun d st1 v H1 K1 q1 i1 s1 r1 => ?_) hg⟩
  refine qb C H1 K1 σ st1 Ex _ _ i1 (hX.up s1) (fun ds st2 vs H2 K2 q2 i2 s2 r2 el => ?_) q1
  exact hQ (d :: ds) st2 (v :: vs) H2 K2 q2 i2 (s1.trans s2) (repL_cons (Rep.mono s2 d v r1) r2) (by simp [el])
end
end PD
namespace PD
open PySem PySem.Spec PyProof.Rows L2
def tgK : Tg → Tg → Bool
  | .lst, .lst => true
  | .lst, .scr => true
  | .dic _, .dic _ => true
  | .ins _ _, .ins _ _ => true
  | _, _ => false
mutual
def noK (t : Tg) : D → Bool
  | .nd t' ds => !tgK t t' && noKL t ds
  | _ => true
def noKL (t : Tg) : List D → Bool
  | [] => true
  | d :: ds => noK t d && noKL t ds
end
def noS (t : Tg) : S → Bool
  | .fz d => noK t d
  | .ow _ _ (.nd _ ds) => noKL t ds
  | _ => false
def hideS : S → S
  | .ow _ _ _ => .un
  | .ob _ _ _ => .un
  | .on _ _ _ _ => .un
  | s => s
def hide (i : Nat) (d : D) (st : LS) : LS := (st.map hideS).set i (.fz d)
def tgOf : D → Tg
  | .nd t _ => t
  | _ => .tup
def dBor (i : Nat) (g : DE) (_u : DX) (st : LS) (Q : D → LS → Prop) : Prop := atO st[i]? fun _ _ d => g (fun _ _ => False) (hide i d st) fun r _ => noK (tgOf d) r = true ∧ Q r st
def dBoR (i : Nat) (g : DO) (_u : DX) (st : LS) (Q : S → LS → Prop) : Prop := atO st[i]? fun _ _ d => g (fun _ _ => False) (hide i d st) fun r _ => noS (tgOf d) r = true ∧ Q r st
section
variable {K : PySem.W.Frag} {mg : Str → Option Value} {H H' : Hp} {a : Addr}
def cut (H : Hp) (a : Addr) : Hp := fun b => if b = a then none else H b
theorem cut_ne {b : Addr} (h : b ≠ a) : cut H a b = H b := by unfold cut; rw [if_neg h]
def IsAt (t : Tg) (o : HO) : Prop := match t with
  | .lst => ∃ vs, o = .lst vs
  | .dic _ => ∃ ob ws, o = .frz ob (.dK ws)
  | .ins _ _ => ∃ C dx fs, o = .ins C dx fs
  | _ => False
theorem Node.cut {t t' : Tg} {b : Addr} {vs : List V} {o : HO} (ho : H a = some o) (ht : IsAt t o) (hk : tgK t t' = false) (h : Node K mg H t' b vs) : Node K mg (cut H a) t' b vs := by
  have rd : ∀ {u : HO}, (∀ z : b = a, ∀ ob, o ≠ u ∧ o ≠ .frz ob u) → Rd H b u → Rd (PD.cut H a) b u := fun f r => by
    by_cases q : b = a
    · exfalso
      have f' := f q
      rcases r with r | ⟨ob, r⟩
      · rw [q, ho] at r; cases r; exact (f' default).1 rfl
      · rw [q, ho] at r; cases r; exact (f' ob).2 rfl
    · rcases r with r | ⟨ob, r⟩
      · exact .inl (by rw [cut_ne q]; exact r)
      · exact .inr ⟨ob, by rw [cut_ne q]; exact r⟩
  cases t' with
  | tup =>
    rcases h with h | h
    · refine .inl (rd (fun z ob => ?_) h)
      cases t <;> first | exact ht.elim | skip
      · obtain ⟨vs, rfl⟩ := ht; exact ⟨nofun, nofun⟩
      · obtain ⟨ob', ws, rfl⟩ := ht; exact ⟨nofun, nofun⟩
      · obtain ⟨C, dx, fs, rfl⟩ := ht; exact ⟨nofun, nofun⟩
    · exact .inr h
  | scr =>
    rcases h with h | h
    · refine .inl (rd (fun z ob => ?_) h)
      cases t <;> first | exact ht.elim | skip
      · cases hk
      · obtain ⟨ob', ws, rfl⟩ := ht; exact ⟨nofun, nofun⟩
      · obtain ⟨C, dx, fs, rfl⟩ := ht; exact ⟨nofun, nofun⟩
    · exact .inr h
  | lst =>
    have h : H b = some (.lst vs) := h
    have : b ≠ a := fun q => by
      rw [q, ho] at h; cases h
      cases t <;> first | exact ht.elim | skip
      · cases hk
      · obtain ⟨ob', ws, q⟩ := ht; cases q
      · obtain ⟨C, dx, fs, q⟩ := ht; cases q
    show PD.cut H a b = _
    rw [cut_ne this]; exact h
  | dic ks =>
    obtain ⟨h1, ob, h⟩ := h
    have : b ≠ a := fun q => by
      rw [q, ho] at h; cases h
      cases t <;> first | exact ht.elim | skip
      · obtain ⟨vs, q⟩ := ht; cases q
      · cases hk
      · obtain ⟨C, dx, fs, q⟩ := ht; cases q
    exact ⟨h1, ob, by rw [cut_ne this]; exact h⟩
  | ins c fs =>
    obtain ⟨h1, C, dx, h2, h⟩ := h
    have : b ≠ a := fun q => by
      rw [q, ho] at h; cases h
      cases t <;> first | exact ht.elim | skip
      · obtain ⟨vs, q⟩ := ht; cases q
      · obtain ⟨ob', ws, q⟩ := ht; cases q
      · cases hk
    exact ⟨h1, C, dx, h2, by rw [cut_ne this]; exact h⟩
  | exc k =>
    obtain ⟨C, d, h1, h2, h3⟩ := h
    have nb : ∀ {b : Addr} {u : HO}, H b = some u → ¬ IsAt t u → b ≠ a := fun {b u} hu n q => by
      rw [q, ho] at hu
      exact n (Option.some.inj hu ▸ ht)
    have n1 : ¬ IsAt t (erO b C d) := by
      unfold erO
      cases t <;> first | exact fun z => z | skip
      · exact fun ⟨_, q⟩ => HO.noConfusion q
      · exact fun ⟨_, _, q⟩ => HO.noConfusion q
      · exact fun ⟨_, _, _, q⟩ => HO.noConfusion q
    have n2 : ∀ fs, ¬ IsAt t (.xd fs) := fun fs => by
      cases t <;> first | exact fun z => z | skip
      · exact fun ⟨_, q⟩ => HO.noConfusion q
      · exact fun ⟨_, _, q⟩ => HO.noConfusion q
      · exact fun ⟨_, _, _, q⟩ => HO.noConfusion q
    refine ⟨C, d, h1, by rw [cut_ne (nb h2 n1)]; exact h2, h3.imp id fun ⟨a1, dd, v, a2, a3, a4⟩ => ⟨a1, dd, v, a2, a3, by rw [cut_ne (nb a4 (n2 _))]; exact a4⟩⟩
mutual
theorem Rep.cut {t : Tg} {o : HO} (ho : H a = some o) (ht : IsAt t o) : ∀ (d : D) (v : V), noK t d = true → Rep K mg H d v → Rep K mg (cut H a) d v
  | .non, _, _, h => h
  | .bl _, _, _, h => h
  | .int _, _, _, h => h
  | .str _, _, _, h => h
  | .glo _, _, _, h => h
  | .nd t' ds, v, hk, h => by
    unfold noK at hk
    rw [Bool.and_eq_true, Bool.not_eq_true'] at hk
    unfold Rep at h ⊢
    obtain ⟨b, vs, h1, h2, h3⟩ := h
    exact ⟨b, vs, h1, Node.cut ho ht hk.1 h2, RepL.cut ho ht ds vs hk.2 h3⟩
theorem RepL.cut {t : Tg} {o : HO} (ho : H a = some o) (ht : IsAt t o) : ∀ (ds : List D) (vs : List V), noKL t ds = true → RepL K mg H ds vs → RepL K mg (cut H a) ds vs
  | [], _, _, h => h
  | d :: ds, vs, hk, h => by
    unfold noKL at hk
    rw [Bool.and_eq_true] at hk
    unfold RepL at h ⊢
    obtain ⟨v, r, h1, h2, h3⟩ := h
    exact ⟨v, r, h1, Rep.cut ho ht d v hk.1 h2, RepL.cut ho ht ds r hk.2 h3⟩
end
end
section
variable {K : PySem.W.Frag} {mg : Str → Option Value} {C : Cfg} {H0 H : Hp} {σ : L2.St} {st : LS}
def ownS (b : Addr) (s : S) : Bool := decide (b ∈ PD.adr s)
theorem own_iff {b : Addr} : st.any (ownS b) = true ↔ ∃ (j : Nat) (s : S), st[j]? = some s ∧ b ∈ PD.adr s := by
  rw [List.any_eq_true]
  constructor
  · rintro ⟨s, hs, e⟩
    obtain ⟨j, hj⟩ := List.mem_iff_getElem?.mp hs
    exact ⟨j, s, hj, of_decide_eq_true e⟩
  · rintro ⟨j, s, e, h⟩
    exact ⟨_, List.mem_iff_getElem?.mpr ⟨j, e⟩, decide_eq_true h⟩
end
section
variable {X : Cx} {W : WX} {e : Expr} {i : Nat}
end
end PD
namespace PD
open PySem PySem.Spec PyProof.Rows L2
def rSetA (X : Cx) : V → V → V → Hp → (Hp → Prop) → Prop := fun o i v H Q => rSetL o i v H Q ∨ ∃ a H', o = .ref a ∧ DPut H a i v H' ∧ Q H'
theorem set_any {X : Cx} (hu : X.A.units + 1 < cLine) : PSet X (rSetA X) := by
  rintro pins t τ G o k v vo vk u Q J ro rk rv (q | ⟨a, G', rfl, put, q⟩)
  · exact set_list pins t τ G o k v vo vk u Q J ro rk rv q
  · cases ro
    exact d_setItem hu J put rk rv fun _ J' => ⟨G', J', q⟩
def qSetA (x k v : D) : Option D := match x with
  | .nd .lst ds => (match k with
    | .int k => (seti ds k v).map (.nd .lst)
    | _ => none)
  | .nd (.dic ks) ds => if ds.length < 16777216 then (keyOf k).map fun k => dicD (putG (ks.zip ds) k v) else none
  | _ => none
def dstA (i : Nat) (ge gi : DE) (de : DEnds) (st : LS) : Prop := ge de.ex st fun v st1 => atO st1[i]? fun _ _ _ => gi de.ex st1 fun x st2 => atO st2[i]? fun a l d => wpO (qSetA d x v) fun d' => de.nx (st2.set i (.ow a l d'))
section
variable {X : Cx} {W : WX} {a b e : Expr} {p pos : Pos}
theorem psdA_store {i : Nat} {ge gi : DE} (hu : X.A.units + 1 < cLine) (ho : PE X a (tVar i)) (hi : PED X W b gi) (he : PED X W e ge) (hs : swapsWithSole [.Subscript a b p] e pos.line X.env = pure false := by rfl) (hw : swappedStores [.Subscript a b p] e X.env = pure none := by rfl)
    (h1 : (assignEach [.Subscript a b p] X.env).map (·.2) = [assign (.Subscript a b p) X.env] := by rfl)
    (hd : ∀ v, assign (.Subscript a b p) X.env v = (do
      let ob ← holding [v] (eval a X.env)
      let ix ← holding [v, ob] (eval b X.env)
      standAt p
      holding [v, ob, ix] (setItem ob ix v)
      release [v, ob, ix] []) := by intro _; rfl) : PSD X W (.Assign [.Subscript a b p] e pos) (dstA i ge gi) := by
  obtain ⟨te, pe, qe⟩ := he.ex
  obtain ⟨ti, pi, qi⟩ := hi.ex
  refine ⟨_, ps_asg pe (pg_sub ho pi (set_any hu) hd) hs hw h1, fun C H0 H σ st de Dn hI hL hg => qe C H0 H σ st de.ex _ _ hI (hL.xp σ) (fun d st1 v H1 K1 q1 i1 s1 r1 => ?_) hg⟩
  obtain ⟨a0, l0, d0, e0, q1⟩ := atO_of q1
  obtain ⟨t0, ds0, rfl⟩ := i1.owd e0
  have e0' := (i1.ow e0).1
  refine ⟨.ref a0, e0', qi C H1 K1 σ st1 de.ex _ _ i1 ((hL.xp σ).up s1) (fun x st2 u H2 K2 q2 i2 s2 r2 => ?_) q1⟩
  obtain ⟨a, l, d2, ed, q2⟩ := atO_of q2
  obtain ⟨y, qy, qz⟩ := wpO_of q2
  obtain ⟨t2, us2, rfl⟩ := i2.owd ed
  obtain ⟨e1, e2, e3, e4, us, e5, e6⟩ := i2.ow ed
  rw [e0'] at e1
  cases e1
  unfold qSetA at qy
  split at qy
  · rename_i ds heq
    cases heq
    split at qy
    · obtain ⟨ds', ek, rfl⟩ := Option.map_eq_some_iff.mp qy
      obtain ⟨j, ekj, rfl⟩ := seti_ix ek
      exact .inl ⟨a0, us, _, j, rfl, r2.int, e5, by rw [e6.length]; exact ekj, hL.nx _ σ H2 _ qz (i2.wr ed (t' := .lst) upd_same (e6.set j (Rep.mono s2 d v r1))) (s1.trans s2)⟩
    · cases qy
  · rename_i ks ds heq
    cases heq
    split at qy
    · rename_i hsz
      obtain ⟨k, hk, rfl⟩ := Option.map_eq_some_iff.mp qy
      obtain ⟨hl, hH⟩ := e5
      have kr : KR X.K X.mg H2 (ks.zip us2) (ks.zip us) := KR.of e6 hl
      have kr' := kr.put (k := k) (Rep.mono s2 d v r1)
      have hlen : (ks.zip us).length < sizeLine := by
        rw [List.length_zip, hl, Nat.min_self, e6.length]; exact hsz
      refine .inr ⟨a0, upd K2 a0 (.dK (putK (ks.zip us) k v)), rfl, ?_, hL.nx _ σ H2 _ qz (i2.wr ed (o := .dK (putK (ks.zip us) k v)) (t' := .dic ((putG (ks.zip us2) k d).map (·.1))) (us' := (putK (ks.zip us) k v).map (·.2)) ?_ kr'.vals) (s1.trans s2)⟩
      · exact .inl ⟨_, k, hH, r2.key hk, hlen, rfl⟩
      · rw [kr'.keys]; exact NodeM.dic upd_same
    · cases qy
  · cases qy
end
end PD
namespace PD
open PySem PySem.Spec PyProof.Rows L2
section
variable {K : PySem.W.Frag} {mg : Str → Option Value} {C : Cfg} {H0 H : Hp} {σ : L2.St} {st : LS}
end
abbrev DPs := DX → LS → (List (D × D) → LS → Prop) → Prop
def dPN (_u : DX) (st : LS) (Q : List (D × D) → LS → Prop) : Prop := Q [] st
def dPC (gk gv : DE) (h : DPs) (Ex : DX) (st : LS) (Q : List (D × D) → LS → Prop) : Prop := gk Ex st fun k st1 => gv Ex st1 fun v st2 => h Ex st2 fun ps st3 => Q ((k, v) :: ps) st3
def keysOf : List (D × D) → Option (List (Key × D))
  | [] => some []
  | p :: r => match keyOf p.1, keysOf r with
    | some k, some ps => some ((k, p.2) :: ps)
    | _, _ => none
def qDisp (ps : List (D × D)) : Option D := if ps.length ≤ 15 then (keysOf ps).map fun kvs => dicD (mergeG [] kvs) else none
def dDic (g : DPs) (Ex : DX) (st : LS) (Q : S → LS → Prop) : Prop := g Ex st fun ps st1 => wpO (qDisp ps) fun d => ∀ p, Q (.ow p true d) st1
def dDicV (g : DPs) (Ex : DX) (st : LS) (Q : D → LS → Prop) : Prop := g Ex st fun ps st1 => wpO (qDisp ps) fun d => Q d st1
def RepP (K : PySem.W.Frag) (mg : Str → Option Value) (H : Hp) : List (D × D) → List (V × V) → Prop
  | [], vs => vs = []
  | p :: ps, vs => ∃ q r, vs = q :: r ∧ Rep K mg H p.1 q.1 ∧ Rep K mg H p.2 q.2 ∧ RepP K mg H ps r
section
variable {X : Cx} {W : WX} {k v : Expr} {ks : List (Option Expr)} {vs : List Expr} {pos : Pos}
structure PPD (X : Cx) (W : WX) (pos : Pos) (ks : List (Option Expr)) (vs : List Expr) (g : DPs) : Prop where
  ex : ∃ trs, PPs X pos ks vs trs ∧ ∀ (C : Cfg) (H0 H : Hp) (σ : L2.St) (st : LS) (Ex : DX) (Q : List (D × D) → LS → Prop) (Qv : List (V × V) → Hp → Prop), I X.K X.mg C H0 H σ st → LkX X.K X.mg C H0 σ W Ex →
    (∀ ps st' us H0' H', Q ps st' → I X.K X.mg C H0' H' σ st' → Same H0 H0' → RepP X.K X.mg H0' ps us → Qv us H') → g Ex st Q → tPairs trs σ H Qv
end
def dDcL (t : DG) (tt : DT) (gk gv : DE) (vs : List Nat) : List D → List (Key × D) → LS → (List (Key × D) → LS → Prop) → Prop
  | [], acc, st, Q => Q acc st
  | d :: r, acc, st, Q => t d st fun st1 => tt (fun _ _ => False) st1 fun b st2 =>
    cond b (gk (fun _ _ => False) st2 fun x st3 => gv (fun _ _ => False) st3 fun y st4 => wpO (keyOf x) fun k => dDcL t tt gk gv vs r (putG acc k y) (stW st4 vs) Q) (dDcL t tt gk gv vs r acc (stW st2 vs) Q)
def dDc (i : DI) (t : DG) (tt : DT) (gk gv : DE) (vs : List Nat) (Ex : DX) (st : LS) (Q : S → LS → Prop) : Prop := i Ex st fun ds st1 => wpO (qSz ds) fun ds => dDcL t tt gk gv vs ds [] (stW st1 vs) fun acc st2 => ∀ p, Q (.ow p true (dicD acc)) st2
def dDcV (i : DI) (t : DG) (tt : DT) (gk gv : DE) (vs : List Nat) (Ex : DX) (st : LS) (Q : D → LS → Prop) : Prop := i Ex st fun ds st1 => wpO (qSz ds) fun ds => dDcL t tt gk gv vs ds [] (stW st1 vs) fun acc st2 => Q (dicD acc) st2
section
variable {X : Cx} {W : WX} {kx vx tg iter : Expr} {ifs : List Expr} {pos : Pos}
end
end PD
namespace PD
open PySem PySem.Spec PyProof.Rows L2
section
variable {X : Cx} {W : WX} {e a b c tg : Expr} {es : List Expr} {ha : DA} {g : DE} {pos p apos : Pos}
theorem it_enum {K : PySem.W.Frag} {mg : Str → Option Value} {H0 : Hp} {a : Addr} {ds : List D} {vs : List V} (h : SqL K H0 a vs) (r : RepL K mg H0 ds vs) : ItOk K mg (Ite K a) H0 (ds.zipIdx.map fun p => .nd .tup [.int p.2, p.1]) := by
  have el : (ds.zipIdx.map fun p => D.nd .tup [.int p.2, p.1]).length = vs.length := by rw [List.length_map, List.length_zipIdx, r.length]
  refine ⟨fun k H s h' => ?_, fun H s => ⟨vs, s.seq h, by rw [el]; exact Nat.le_refl _⟩, fun C k H1 H x H' σ st s h' hI y => ?_⟩
  · rw [el] at h'
    exact ⟨vs, vs[k], s.seq h, List.getElem?_eq_getElem h'⟩
  · obtain ⟨T, x, rfl, hT, rfl, hx⟩ := y
    have e := hx vs ((s.trans hI.same).seq h)
    obtain ⟨d, hd, rd⟩ := r.getV e
    have hT0 := hI.same.free hT
    refine ⟨upd H1 T (.tup [.int (k : Nat), x]), .nd .tup [.int k, d], ?_, same_upd hT0, hI.new hT, rep_nd (t := .tup) (SqT.of upd_same) (repL_cons rep_int (repL_cons (Rep.mono (s.trans (same_upd hT0)) _ _ rd) repL_nil))⟩
    rw [List.getElem?_map, List.getElem?_zipIdx, hd]
    simp
end
section
variable {X : Cx}
end
section
variable {X : Cx} {W : WX} {e : Expr} {g : DE} {pos apos : Pos}
end
def qGet (x k d : D) : Option D := match x with
  | .nd (.dic ks) ds => (keyOf k).map fun k => (getG (ks.zip ds) k).getD d
  | _ => none
def qIsD : D → Option Unit
  | .nd (.dic _) _ => some ()
  | _ => none
def dGet2 (g gk gd : DE) (Ex : DX) (st : LS) (Q : D → LS → Prop) : Prop := g Ex st fun x st1 => wpO (qIsD x) fun _ => gk Ex st1 fun k st2 => gd Ex st2 fun d st3 => wpO (qGet x k d) fun y => Q y st3
section
variable {X : Cx} {W : WX} {e k d : Expr} {g gk gd : DE} {cpos apos : Pos}
end
end PD
namespace PD
open PySem PySem.Spec PyProof.Rows L2
structure IsC (K : PySem.W.Frag) (C : Addr) : Prop where
  cl : Cls K C
  ty : ∀ {H : Hp} {a dx : Addr} {fs : List (Str × V)}, H a = some (.ins C dx fs) → TyX K H (.ref a) (.ref C)
  own : PySem.W.kitOne K (.ref C) (.ref C) = some true
  no : ∀ T ∈ ["NoneType", "bool", "int", "str", "tuple", "list", "dict"], PySem.W.kitOne K (.type T) (.ref C) = some false
section
variable {X : Cx} {W : WX} {e t : Expr} {g : DE} {c : Str} {Ca : Addr} {p pos : Pos}
end
end PD
namespace PD
open PySem PySem.Spec PyProof.Rows L2
def pln (d : D) : Bool := (py d).plain && decide ((py d).depth ≤ 60)
def eqHits (kb : List (Key × D)) : List (Key × D) → Bool
  | [] => true
  | p :: r => match getG kb p.1 with
    | none => false
    | some w => eqD p.2 w && eqHits kb r
def eqDic (ka kb : List (Key × D)) : Bool := ka.length == kb.length && eqHits kb ka
def qEqDD (neg : Bool) : Q2 := fun x y => match x, y with
  | .nd (.dic ks) ds, .nd (.dic ls) es => if ks.length = ds.length ∧ ls.length = es.length ∧ ds.all pln = true ∧ es.all pln = true then some (.bl (neg.xor (eqDic (ks.zip ds) (ls.zip es)))) else none
  | _, _ => none
section
variable {X : Cx} {pins : List (Addr × Obj)} {σ : L2.St} {H0 H : Hp} {s : Shared}
theorem pln_eqAt (I : Inv X pins σ H s) (sm : Same H0 H) {A : Around} (hu : A.units + 61 < cLine) {d e : D} {v w : V} {u z : Value} (hd : pln d = true) (he : pln e = true) (rd : Rep X.K X.mg H0 d v) (re : Rep X.K X.mg H0 e w) (rv : RelV v u) (rw_ : RelV w z) :
    SeqAt.EqAt A s u z (eqD d e) := by
  unfold pln at hd he
  rw [Bool.and_eq_true, decide_eq_true_eq] at hd he
  obtain ⟨as, h1⟩ := Dp.reads I (py d) v u (Rep.dp sm d v hd.1 rd) rv
  obtain ⟨bs, h2⟩ := Dp.reads I (py e) w z (Rep.dp sm e w he.1 re) rw_
  exact SeqAt.eqAt_plain _ _ A s u z as bs h1 h2 hd.1 he.1 (by omega)
theorem eq_hits (I : Inv X pins σ H s) (sm : Same H0 H) {A : Around} (hu : A.units + 61 < cLine) {kb : List (Key × D)} {wb : List (Key × V)} {vb : List (Key × Value)} (hb : kb.all (fun p => pln p.2) = true) (rb : KR X.K X.mg H0 kb wb) (rb' : KV wb vb) :
    ∀ {ka : List (Key × D)} {wa : List (Key × V)} {va : List (Key × Value)}, ka.all (fun p => pln p.2) = true → KR X.K X.mg H0 ka wa → KV wa va → PySem.W.KeqHits A s vb va (eqHits kb ka)
  | [], [], va, _, _, r => by
    unfold KV at r
    cases r
    exact .nil
  | p :: t, q :: w, va, ha, h, r => by
    unfold KV at r
    cases r with
    | @cons _ b _ vt h1 h2 =>
      obtain ⟨h3, h4⟩ := h1
      obtain ⟨e1, e2, e3⟩ := h
      rw [List.all_cons, Bool.and_eq_true] at ha
      obtain ⟨key, v⟩ := b
      have ek : p.1 = key := e1.trans h3
      have g := rb.get (k := p.1)
      have rv := rb'.val p.1
      unfold eqHits
      cases hg : getG kb p.1 with
      | none =>
        have n := g.2 hg
        rw [n] at rv
        rw [ek] at rv
        have : valueAt vb key = none := by
          cases z : valueAt vb key with
          | none => rfl
          | some _ => rw [z] at rv; exact rv.elim
        exact .miss this
      | some d =>
        obtain ⟨u, hu', ru⟩ := g.1 d hg
        rw [hu', ek] at rv
        obtain ⟨y, hy, ry⟩ := rv.some_of
        have hp : pln d = true := by
          unfold getG at hg
          obtain ⟨kv, hf, rfl⟩ := Option.map_eq_some_iff.mp hg
          exact List.all_eq_true.mp hb kv (List.mem_of_find?_eq_some hf)
        exact .hit hy (pln_eqAt I sm hu ha.1 hp e2 ru h4 ry) (eq_hits I sm hu hb rb rb' ha.2 e3 h2)
  | [], _ :: _, _, _, h, _ => h.elim
  | _ :: _, [], _, _, h, _ => h.elim
theorem all_zip {ks : List Key} {ds : List D} (h : ds.all pln = true) : (ks.zip ds).all (fun p => pln p.2) = true := by
  rw [List.all_eq_true] at h ⊢
  intro p hp
  exact h p.2 (List.of_mem_zip hp).2
theorem eqDD_run {neg : Bool} {op : CmpOp} (F : ∀ (A : Around) (s : Shared) (a b : Addr) (ka kb : List (Key × Value)) (r : Bool) (E Q : Value → Shared → Prop), (a == sysModules) = false → (b == sysModules) = false → s.heap.DictOf (mixKind X.prog X.w) a ka → s.heap.DictOf (mixKind X.prog X.w) b kb → A.units < cLine →
      (ka.length = kb.length → PySem.W.KeqHits A.in1 s kb ka r) → Q (.bool (neg.xor (ka.length == kb.length && r))) s → wpAny (model X.prog X.w) A (compareOp op (.ref a) (.ref b)) Q E s) (hu : X.A.units + 64 < cLine) : OpA X (compareOp op) (qEqDD neg) := by
  refine ⟨fun x y H Q => ∃ (H0 : Hp) (a b : Addr) (oa ob : Obj) (ka kb : List (Key × D)) (wa wb : List (Key × V)), x = .ref a ∧ y = .ref b ∧ Same H0 H ∧ H0 a = some (.frz oa (.dK wa)) ∧ H0 b = some (.frz ob (.dK wb)) ∧ KR X.K X.mg H0 ka wa ∧ KR X.K X.mg H0 kb wb ∧
    ka.all (fun p => pln p.2) = true ∧ kb.all (fun p => pln p.2) = true ∧ Q (.bl (neg.xor (eqDic ka kb))) H, fun pins s σ H x y v u Q I rx ry h => ?_, fun C H0 H σ st x y d v u Qv hI rx ry e hQ => ?_⟩
  · obtain ⟨H0, a, b, oa, ob, ka, kb, wa, wb, rfl, rfl, sm, ha, hb, ra, rb, pa, pb, q⟩ := h
    cases rx
    cases ry
    obtain ⟨_, _, ya, va, ra', da⟩ := (show ObjOk X.prog X.w H s.heap a (.frz oa (.dK wa)) from I.hok a _ (sm _ _ ha))
    obtain ⟨_, _, yb, vb, rb', db⟩ := (show ObjOk X.prog X.w H s.heap b (.frz ob (.dK wb)) from I.hok b _ (sm _ _ hb))
    have l1 : va.length = ka.length := by rw [ra.length]; exact ra'.length.symm
    have l2 : vb.length = kb.length := by rw [rb.length]; exact rb'.length.symm
    refine F X.A s a b va vb (eqHits kb ka) _ _ ya yb da db (by omega) (fun _ => eq_hits I sm (by show X.A.units + 1 + 61 < cLine; omega) pb rb rb' pa ra ra') ?_
    refine ⟨.bl _, H, I, rfl, ?_⟩
    have : (va.length == vb.length && eqHits kb ka) = eqDic ka kb := by unfold eqDic; rw [l1, l2]
    rw [this]; exact q
  · unfold qEqDD at e
    split at e
    · rename_i ks ds ls es
      split at e
      · rename_i hh
        obtain ⟨h1, h2, h3, h4⟩ := hh
        cases e
        obtain ⟨a, oa, wa, rfl, e2, e3, e4⟩ := rx.dic
        obtain ⟨b, ob, wb, rfl, e5, e6, e7⟩ := ry.dic
        exact ⟨H0, a, b, oa, ob, _, _, wa, wb, rfl, rfl, hI.same, e2, e5, e3, e6, all_zip h3, all_zip h4, hQ _ H0 H hI (Same.refl _) rep_bl⟩
      · cases e
    · cases e
theorem a_eqDD (hu : X.A.units + 64 < cLine) : OpA X (compareOp .Eq) (qEqDD false) := eqDD_run (fun A s a b ka kb r E Q ha hb da db hu hh q => PySem.W.keq_eq ha hb da db hu hh (by simpa using q)) hu
theorem a_neDD (hu : X.A.units + 64 < cLine) : OpA X (compareOp .NotEq) (qEqDD true) := eqDD_run (fun A s a b ka kb r E Q ha hb da db hu hh q => PySem.W.keq_ne ha hb da db hu hh (by simpa using q)) hu
end
end PD
namespace PD
open PySem PySem.Spec PyProof.Rows L2
section
variable {A : Prop} {de : DEnds} {st st' s : LS} {Ex : DX} {Q : D → LS → Prop} {QS : S → LS → Prop} {QB : Bool → LS → Prop} {QA : List D → LS → Prop} {QT : LS → Prop} {QP : Option Int → LS → Prop} {QQ : List (D × D) → LS → Prop}
  {a b : DS} {g ga gb gc gk gv gd : DE} {o : DO} {ha hk : DA} {t tt : DT} {i j : Nat} {d x y : D} {r : S} {e : DErr} {ds : List D} {gi : DI} {tg : DG} {gl gh : DP} {gp : DPs} {c f m : Str}
end
def mapP {ε : Type} : List D → (D → Res ε (D × D)) → Res ε (List (D × D))
  | [], _ => .ok []
  | x :: r, f => bR (f x) fun p => bR (mapP r f) fun ps => .ok (p :: ps)
def qDc (ps : List (D × D)) : Option D := (keysOf ps).map fun kvs => dicD (mergeG [] kvs)
theorem wp_never {α : Type} {m : Res DErr α} (h : wp m NE fun _ => False) : False := by
  cases m <;> exact h
theorem sim_dc {t : DG} {gk gv : DE} {vs : List Nat} {f : D → Res DErr (D × D)} {st0 : LS} {K : List (Key × D) → LS → Prop}
    (hs : ∀ x (Q : D × D → Prop) (K' : D → D → LS → Prop), (∀ k v s, stW s vs = st0 → Q (k, v) → K' k v s) → wp (f x) NE Q → t x st0 fun st1 => gk (fun _ _ => False) st1 fun k st2 => gv (fun _ _ => False) st2 fun v st3 => K' k v st3) :
    ∀ (ds : List D) (acc : List (Key × D)), (wp (mapP ds f) NE fun ps => wpO (keysOf ps) fun kvs => K (mergeG acc kvs) st0) → dDcL t dYes gk gv vs ds acc st0 K
  | [], acc, h => h
  | x :: r, acc, h => by
    unfold mapP at h
    simp only [wp_bR, wp_ok] at h
    unfold dDcL dYes
    refine hs x _ (fun k v st3 => wpO (keyOf k) fun kk => dDcL t dYes gk gv vs r (putG acc kk v) (stW st3 vs) K) (fun k v s es q => ?_) h
    rw [es]
    cases hk : keyOf k with
    | none =>
      refine (wp_never (m := mapP r f) ?_).elim
      refine (show (fun a => a) _ from ?_)
      have : (fun ps : List (D × D) => wpO (keysOf ((k, v) :: ps)) fun kvs => K (mergeG acc kvs) st0) = fun _ => False := by
        funext ps
        unfold keysOf
        rw [hk]
        rfl
      rw [this] at q
      exact q
    | some kk =>
      show dDcL t dYes gk gv vs r (putG acc kk v) st0 K
      refine sim_dc hs r (putG acc kk v) ?_
      have : (fun ps : List (D × D) => wpO (keysOf ((k, v) :: ps)) fun kvs => K (mergeG acc kvs) st0) = fun ps => wpO (keysOf ps) fun kvs => K (mergeG (putG acc kk v) kvs) st0 := by
        funext ps
        conv => lhs; unfold keysOf
        rw [hk]
        cases hp : keysOf ps <;> rfl
      rw [this] at q
      exact q
theorem qDc_of {ps : List (D × D)} {K : D → Prop} : wpO (qDc ps) K = wpO (keysOf ps) fun kvs => K (dicD (mergeG [] kvs)) := by
  unfold qDc
  cases keysOf ps <;> rfl
theorem room1 {k : Nat} {A : Around} (h : RoomG k A) : A.units + 1 < cLine := by have := h.r.units; omega
theorem room64 {k : Nat} {A : Around} (h : RoomG k A) : A.units + 64 < cLine := h.r.units
def qEqA : Q2 := qOr (qEqDD false) qEq
def qNeA : Q2 := qOr (qEqDD true) qNe
theorem a_eqA {X : Cx} {k : Nat} (hr : RoomG k X.A) : OpA X (compareOp .Eq) qEqA := (a_eqDD (room64 hr)).or (a_eq hr.r)
theorem a_neA {X : Cx} {k : Nat} (hr : RoomG k X.A) : OpA X (compareOp .NotEq) qNeA := (a_neDD (room64 hr)).or (a_ne hr.r)
def qIxA : Q2 := qOr qIxSeq qIxD
theorem a_ixA {X : Cx} {k : Nat} (hr : RoomG k X.A) : IxA X qIxA := a_ixSeq.or (a_ixD (room1 hr))
theorem sim_dcQ {t : DG} {gk gv : DE} {vs : List Nat} {f : D → Res DErr (D × D)} {st0 : LS} {K : List (Key × D) → LS → Prop} {R : List (Key × D) → Prop}
    (hs : ∀ x (Q : D × D → Prop) (K' : D → D → LS → Prop), (∀ k v s, stW s vs = st0 → Q (k, v) → K' k v s) → wp (f x) NE Q → t x st0 fun st1 => gk (fun _ _ => False) st1 fun k st2 => gv (fun _ _ => False) st2 fun v st3 => K' k v st3)
    (ds : List D) (hQ : ∀ kvs, R kvs → K (mergeG [] kvs) st0) (h : wp (mapP ds f) NE fun ps => wpO (keysOf ps) R) : dDcL t dYes gk gv vs ds [] st0 K := by
  refine sim_dc hs ds [] ?_
  cases hm : mapP ds f with
  | ok ps => rw [hm] at h; exact wpO_imp (fun kvs => hQ kvs) h
  | ex e => rw [hm] at h; exact h.elim
  | no => rw [hm] at h; exact h.elim
end PD
namespace PD
open PySem PySem.Spec PyProof.Rows L2
def RunsFor (X : Cx) (body : List Stmt) (ts : Addr → Value → Option Addr → TS) : Prop :=
  ∀ (p : Addr) (ob : Obj) (k : Value) (dd : Option Addr) (more : List (Addr × Obj)), Zc k dd ob → (∃ fv, ob.data = .fields fv) → PSs (X.suite p ((p, ob) :: more)) body (ts p k dd)
abbrev HdT := Value × Option Nat × (Addr → Value → Option Addr → TS)
inductive HdsA (X : Cx) : List ExceptHandler → List HdT → Prop
  | nil : HdsA X [] []
  | cons {x : Str} {c : Value} {ts : Addr → Value → Option Addr → TS} {b₀ : Stmt} {suite : List Stmt} {p₁ p₂ : Pos} {hds : List ExceptHandler} {l : List HdT} :
      Names X x c → RunsFor X (b₀ :: suite) ts → HdsA X hds l → HdsA X (.ExceptHandler (some (.Name x p₁)) none (b₀ :: suite) p₂ :: hds) ((c, none, ts) :: l)
  | named {x n : Str} {i : Nat} {c : Value} {ts : Addr → Value → Option Addr → TS} {b₀ : Stmt} {suite : List Stmt} {p₁ p₂ : Pos} {hds : List ExceptHandler} {l : List HdT} :
      X.N[i]? = some n → X.env.kindOf n = some .local → Names X x c → RunsFor X (b₀ :: suite) ts → HdsA X hds l →
        HdsA X (.ExceptHandler (some (.Name x p₁)) (some n) (b₀ :: suite) p₂ :: hds) ((c, some i, ts) :: l)
structure Fell (X : Cx) (pins : List (Addr × Obj)) (τ : L2.St) (G : Hp) (p : Addr) (k : Value) (dd : Option Addr) (B : Heap) (o u : Shared) : Prop where
  inv : Inv X pins τ G o
  kept : ∀ b ob, o.heap.get? b = some ob → b ∉ frs X.stack → B.get? b = some ob
  slots : o.heap.UpToSlots u.heap
  air : HandSPX.FlyingZ B (X.env :: X.outer) p (Zc k dd) u.heap
  void : G p = none
  same : u.os = o.os
  bare : AllBare u.gens
namespace Fell
variable {X : Cx} {pins : List (Addr × Obj)} {τ : L2.St} {G : Hp} {p : Addr} {k : Value} {dd : Option Addr} {B : Heap} {o u : Shared}
theorem now (z : Fell X pins τ G p k dd B o u) : Inv X pins τ G u := z.inv.landed z.kept z.air.1 z.slots z.same z.bare
theorem seen (z : Fell X pins τ G p k dd B o u) (fr : X.env.frame = some X.env.locals) :
    ∃ ob fv, u.heap.get? p = some ob ∧ Zc k dd ob ∧ ob.data = .fields fv ∧ Inv (X.suite p ((p, ob) :: (X.pn ++ pins))) [] τ G u := by
  obtain ⟨ob, fv, g1, g2, g3⟩ := z.air.there
  have off : ∀ e ∈ X.env :: X.outer, e.frame ≠ some p := by
    intro e m q
    rcases z.air.2.2.1.mem (List.mem_filterMap.mpr ⟨e, m, q⟩) with ⟨_, ob2, g4, g5⟩
    cases g1.symm.trans g4
    exact g5 _ g3
  refine ⟨ob, fv, g1, g2, g3, z.now.suite g1 g3 z.void (fun q => off _ (.head _) (fr.trans (congrArg some q.symm))) fun m => ?_⟩
  rcases List.mem_filterMap.mp m with ⟨e, m1, m2⟩
  exact off e (.tail _ m1) m2
theorem calm {M : Model} {A : Around} {E : Value → Shared → Prop} {Q : Unit → Shared → Prop} (z : Fell X pins τ G p k dd B o u)
    (go : ∀ h, Fell X pins τ G p k dd B o { u with heap := h } → Q () { u with heap := h }) : wpAny M A (setFlight (.ref p) none) Q E u :=
  HandSPX.lands_againZ z.air fun h a m => go h ⟨z.inv, z.kept, z.slots.trans m, a, z.void, z.same, z.bare⟩
theorem kind (z : Fell X pins τ G p k dd B o u) (fr : X.env.frame = some X.env.locals) : PySem.W.Looks (model X.prog X.w) u.heap (typeOf (.ref p)) k := by
  obtain ⟨ob, _, g1, g2, _⟩ := z.seen fr
  exact fun A Q E t m q => wpAny_typeOf_ref (m _ _ g1) (g2.1.symm ▸ q)
end Fell
section
variable {X : Cx} {pins : List (Addr × Obj)} {D : Ends} {u : Shared}
variable {τ : L2.St} {G : Hp} {p : Addr} {k : Value} {dd : Option Addr} {B : Heap} {o : Shared} {W : WX}
end
section
variable {X : Cx} {body : List Stmt} {h₀ : ExceptHandler} {hds : List ExceptHandler} {l : List HdT} {at_ : Pos} {tb : WX → TS} {W : WX}
end
abbrev HdD := Option Nat × (Nat → Bool) × (XU → DErr → DS)
def suit0 (de : DEnds) : DEnds := ⟨de.nx, de.rt, de.bk, de.ct, fun _ _ => False⟩
def dTryXm : List HdD → DEnds → DErr → LS → Prop
  | [], de, e, st => de.ex e st
  | (none, tb, gs) :: r, de, e, st => cond (tb e.k) (∀ u, gs u e (suit0 de) st) (dTryXm r de e st)
  | (some i, tb, gs) :: r, de, e, st => cond (tb e.k) (∀ u, gs u e (suitE de i) (st.set i (.xc u e))) (dTryXm r de e st)
def tryEm (de : DEnds) (l : List HdD) : DEnds := { de with ex := fun e s => dTryXm l de e s }
def dTryM (l : List HdD) (gb : DS) (de : DEnds) (st : LS) : Prop := gb (tryEm de l) st
inductive HdsD (X : Cx) : List ExceptHandler → List Value → List HdD → Prop
  | nil : HdsD X [] [] []
  | cons {x : Str} {c : Value} {b₀ : Stmt} {suite : List Stmt} {np pos' : Pos} {hds : List ExceptHandler} {cs : List Value} {l : List HdD} {tb : Nat → Bool} {gs : XU → DErr → DS} (hc : Names X x c)
      (hT : ∀ k C, X.mg (exN k) = some (.ref C) → PySem.W.exmOne X.K (.ref C) c = some (tb k))
      (hsu : ∀ (u : XU) (oe : Obj) (pn : List (Addr × Obj)) (e : DErr), Zc u.cls u.d oe → (∃ vs, oe.data = .fields vs) → PSsD (X.suite u.a ((u.a, oe) :: pn)) (fun _ _ _ _ => False) (b₀ :: suite) (gs u e)) (r : HdsD X hds cs l) :
      HdsD X (.ExceptHandler (some (.Name x np)) none (b₀ :: suite) pos' :: hds) (c :: cs) ((none, tb, gs) :: l)
  | named {x n : Str} {i : Nat} {c : Value} {b₀ : Stmt} {suite : List Stmt} {np pos' : Pos} {hds : List ExceptHandler} {cs : List Value} {l : List HdD} {tb : Nat → Bool} {gs : XU → DErr → DS} (hi : X.N[i]? = some n) (hln : X.env.kindOf n = some .local) (hc : Names X x c)
      (hT : ∀ k C, X.mg (exN k) = some (.ref C) → PySem.W.exmOne X.K (.ref C) c = some (tb k))
      (hsu : ∀ (u : XU) (oe : Obj) (pn : List (Addr × Obj)) (e : DErr), Zc u.cls u.d oe → (∃ vs, oe.data = .fields vs) → PSsD (X.suite u.a ((u.a, oe) :: pn)) (fun _ _ _ _ => False) (b₀ :: suite) (gs u e)) (r : HdsD X hds cs l) :
      HdsD X (.ExceptHandler (some (.Name x np)) (some n) (b₀ :: suite) pos' :: hds) (c :: cs) ((some i, tb, gs) :: l)
def tsOf (X : Cx) (suite : List Stmt) : Addr → Value → Option Addr → TS := fun a cls d D σ H => ∀ oe pn, Zc cls d oe → (∃ vs, oe.data = .fields vs) → ws (X.suite a ((a, oe) :: pn)) suite D σ H
def suiteOf : ExceptHandler → List Stmt
  | .ExceptHandler _ _ s _ => s
def hdTs (X : Cx) : List ExceptHandler → List Value → List HdD → List HdT
  | h :: hs, c :: cs, d :: ds => (c, d.1, tsOf X (suiteOf h)) :: hdTs X hs cs ds
  | _, _, _ => []
section
variable {X : Cx} {W : WX} {body : List Stmt} {h₀ : ExceptHandler} {hds : List ExceptHandler} {cs : List Value} {l : List HdD} {pos : Pos} {gb : DS}
theorem HdsD.toA (h : HdsD X hds cs l) : HdsA X hds (hdTs X hds cs l) := by
  induction h with
  | nil => exact .nil
  | cons hc hT hsu r ih => exact .cons hc (fun a oe cls d pn hz hv => ⟨fun pins s σ H D I h => h oe pn hz hv pins s I⟩) ih
  | named hi hln hc hT hsu r ih => exact .named hi hln hc (fun a oe cls d pn hz hv => ⟨fun pins s σ H D I h => h oe pn hz hv pins s I⟩) ih
end
section
variable {A : Prop} {de : DEnds} {st s : LS} {a b : DS} {i : Nat} {d : D} {r : S} {e : DErr} {l : List HdD} {tb : Nat → Bool} {gs : XU → DErr → DS}
end
end PD
namespace PD
open PySem PySem.Spec PyProof.Rows L2
section
variable {X : Cx} {W : WX} {e a b c : Expr} {g : DE} {ha : DA} {p pos pos2 : Pos}
def qNir (x : D) (ds : List D) : Option D := match x, ds with
  | .int n, [.int i, .int j, .int c] => if c ≠ 0 ∧ c.natAbs < 1073741824 then some (.bl (!(Builtin.Range.rangePlace? i j c n).isSome)) else none
  | _, _ => none
def dNir (g : DE) (ha : DA) (Ex : DX) (st : LS) (Q : D → LS → Prop) : Prop := g Ex st fun x st1 => ha Ex st1 fun ds st2 => wpO (qNir x ds) fun d => Q d st2
end
section
variable {A : Prop} {st : LS} {Ex : DX} {Q : D → LS → Prop} {g : DE} {ha : DA}
end
def gdSub (i : Nat) (k : D) (d : D) (st : LS) (Q : LS → Prop) : Prop := atO st[i]? fun a l x => wpO (qSetL x k d) fun y => Q (st.set i (.ow a l y))
section
variable {X : Cx} {a b : Expr} {pos : Pos}
end
end PD
namespace PD
open PySem PySem.Spec PyProof.Rows L2
def qLent (o d : D) : Option D := if noK (tgOf o) d = true then some d else none
def qNon : D → Option Unit
  | .non => some ()
  | _ => none
def tryH {α : Type} (m : Res DErr α) (h : DErr → Res DErr α) : Res DErr α := match m with
  | .ex e => h e
  | m => m
theorem wp_tryH {α : Type} {m : Res DErr α} {h : DErr → Res DErr α} {Ex : DErr → Prop} {Q : α → Prop} : wp (tryH m h) Ex Q = wp m (fun e => wp (h e) Ex Q) Q := by cases m <;> rfl
theorem st_lent {o d : D} {K : D → Prop} {B : Prop} (h : K d → B) : wpO (qLent o d) K → (noK (tgOf o) d = true ∧ B) := fun z => by
  unfold qLent at z
  by_cases q : noK (tgOf o) d = true
  · rw [if_pos q] at z; exact ⟨q, h z⟩
  · rw [if_neg q] at z; exact z.elim
theorem st_lentS {o d : D} {K : D → Prop} {B : Prop} (h : K d → B) : wpO (qLent o d) K → (noS (tgOf o) (.fz d) = true ∧ B) := st_lent h
theorem st_mkr {x : D} {A B : Prop} (h : A → B) : wpO (qNon x) (fun _ => A) → (S.fz x = S.fz .non ∧ B) := fun z => by
  cases x <;> first | exact ⟨rfl, h z⟩ | exact z.elim
theorem pap_c {α : Type} {x : α} {xs ys : List α} : (x :: xs) ++ ys = x :: (xs ++ ys) := rfl
theorem pap_n {α : Type} {ys : List α} : [] ++ ys = ys := rfl
theorem sim_mapSi {t : DG} {ge : DE} {vs : List Nat} {f : D → D → Res DErr (D × D)} {st : LS} {i : Nat} {a : Addr} {l : Bool} {o : D} {K : List D → LS → Prop} {Q : List D × D → Prop} (e : st[i]? = some (.ow a l o))
    (hs : ∀ x o' (Q : D × D → Prop) (K' : D → LS → Prop), (∀ y o2 s, stW s vs = st.set i (.ow a l o2) → Q (y, o2) → K' y s) → wp (f x o') NE Q → t x (st.set i (.ow a l o')) fun st1 => ge (fun _ _ => False) st1 fun y st2 => K' y st2)
    (ds acc : List D) (hQ : ∀ ys o', Q (ys, o') → K (acc ++ ys) (st.set i (.ow a l o'))) : wp (mapS ds o f) NE Q → dLcL t dYes ge vs ds acc st K := fun h => by
  have e2 : st = st.set i (.ow a l o) := by
    obtain ⟨hi, hg⟩ := List.getElem?_eq_some_iff.mp e
    rw [← hg, List.set_getElem_self]
  have := sim_mapS (t := t) (ge := ge) (vs := vs) (f := f) (st0 := fun o' => st.set i (.ow a l o')) (K := K) hs ds acc o Q hQ h
  rw [e2]
  exact this
end PD
namespace PD
open PySem PySem.Spec PyProof.Rows L2
theorem rv0f {d : D} {l : LS} : rdS 0 (.fz d :: l) = some (d, .fz d :: l) := rfl
theorem rv0o {a : Addr} {d : D} {l : LS} : rdS 0 (.ow a true d :: l) = some (d, .fz d :: l) := rfl
theorem ix0 {y : S} {l : LS} : (y :: l)[0]? = some y := rfl
theorem rv1f {x0 : S} {d : D} {l : LS} : rdS 1 (x0 :: .fz d :: l) = some (d, x0 :: .fz d :: l) := rfl
theorem rv1o {x0 : S} {a : Addr} {d : D} {l : LS} : rdS 1 (x0 :: .ow a true d :: l) = some (d, x0 :: .fz d :: l) := rfl
theorem ix1 {x0 : S} {y : S} {l : LS} : (x0 :: y :: l)[1]? = some y := rfl
theorem rv2f {x0 x1 : S} {d : D} {l : LS} : rdS 2 (x0 :: x1 :: .fz d :: l) = some (d, x0 :: x1 :: .fz d :: l) := rfl
theorem rv2o {x0 x1 : S} {a : Addr} {d : D} {l : LS} : rdS 2 (x0 :: x1 :: .ow a true d :: l) = some (d, x0 :: x1 :: .fz d :: l) := rfl
theorem ix2 {x0 x1 : S} {y : S} {l : LS} : (x0 :: x1 :: y :: l)[2]? = some y := rfl
theorem rv3f {x0 x1 x2 : S} {d : D} {l : LS} : rdS 3 (x0 :: x1 :: x2 :: .fz d :: l) = some (d, x0 :: x1 :: x2 :: .fz d :: l) := rfl
theorem rv3o {x0 x1 x2 : S} {a : Addr} {d : D} {l : LS} : rdS 3 (x0 :: x1 :: x2 :: .ow a true d :: l) = some (d, x0 :: x1 :: x2 :: .fz d :: l) := rfl
theorem ix3 {x0 x1 x2 : S} {y : S} {l : LS} : (x0 :: x1 :: x2 :: y :: l)[3]? = some y := rfl
theorem rv4f {x0 x1 x2 x3 : S} {d : D} {l : LS} : rdS 4 (x0 :: x1 :: x2 :: x3 :: .fz d :: l) = some (d, x0 :: x1 :: x2 :: x3 :: .fz d :: l) := rfl
theorem rv4o {x0 x1 x2 x3 : S} {a : Addr} {d : D} {l : LS} : rdS 4 (x0 :: x1 :: x2 :: x3 :: .ow a true d :: l) = some (d, x0 :: x1 :: x2 :: x3 :: .fz d :: l) := rfl
theorem ix4 {x0 x1 x2 x3 : S} {y : S} {l : LS} : (x0 :: x1 :: x2 :: x3 :: y :: l)[4]? = some y := rfl
theorem rv5f {x0 x1 x2 x3 x4 : S} {d : D} {l : LS} : rdS 5 (x0 :: x1 :: x2 :: x3 :: x4 :: .fz d :: l) = some (d, x0 :: x1 :: x2 :: x3 :: x4 :: .fz d :: l) := rfl
theorem rv5o {x0 x1 x2 x3 x4 : S} {a : Addr} {d : D} {l : LS} : rdS 5 (x0 :: x1 :: x2 :: x3 :: x4 :: .ow a true d :: l) = some (d, x0 :: x1 :: x2 :: x3 :: x4 :: .fz d :: l) := rfl
theorem ix5 {x0 x1 x2 x3 x4 : S} {y : S} {l : LS} : (x0 :: x1 :: x2 :: x3 :: x4 :: y :: l)[5]? = some y := rfl
theorem rv6f {x0 x1 x2 x3 x4 x5 : S} {d : D} {l : LS} : rdS 6 (x0 :: x1 :: x2 :: x3 :: x4 :: x5 :: .fz d :: l) = some (d, x0 :: x1 :: x2 :: x3 :: x4 :: x5 :: .fz d :: l) := rfl
theorem rv6o {x0 x1 x2 x3 x4 x5 : S} {a : Addr} {d : D} {l : LS} : rdS 6 (x0 :: x1 :: x2 :: x3 :: x4 :: x5 :: .ow a true d :: l) = some (d, x0 :: x1 :: x2 :: x3 :: x4 :: x5 :: .fz d :: l) := rfl
theorem ix6 {x0 x1 x2 x3 x4 x5 : S} {y : S} {l : LS} : (x0 :: x1 :: x2 :: x3 :: x4 :: x5 :: y :: l)[6]? = some y := rfl
theorem rv7f {x0 x1 x2 x3 x4 x5 x6 : S} {d : D} {l : LS} : rdS 7 (x0 :: x1 :: x2 :: x3 :: x4 :: x5 :: x6 :: .fz d :: l) = some (d, x0 :: x1 :: x2 :: x3 :: x4 :: x5 :: x6 :: .fz d :: l) := rfl
theorem rv7o {x0 x1 x2 x3 x4 x5 x6 : S} {a : Addr} {d : D} {l : LS} : rdS 7 (x0 :: x1 :: x2 :: x3 :: x4 :: x5 :: x6 :: .ow a true d :: l) = some (d, x0 :: x1 :: x2 :: x3 :: x4 :: x5 :: x6 :: .fz d :: l) := rfl
theorem ix7 {x0 x1 x2 x3 x4 x5 x6 : S} {y : S} {l : LS} : (x0 :: x1 :: x2 :: x3 :: x4 :: x5 :: x6 :: y :: l)[7]? = some y := rfl
theorem rv8f {x0 x1 x2 x3 x4 x5 x6 x7 : S} {d : D} {l : LS} : rdS 8 (x0 :: x1 :: x2 :: x3 :: x4 :: x5 :: x6 :: x7 :: .fz d :: l) = some (d, x0 :: x1 :: x2 :: x3 :: x4 :: x5 :: x6 :: x7 :: .fz d :: l) := rfl
theorem rv8o {x0 x1 x2 x3 x4 x5 x6 x7 : S} {a : Addr} {d : D} {l : LS} : rdS 8 (x0 :: x1 :: x2 :: x3 :: x4 :: x5 :: x6 :: x7 :: .ow a true d :: l) = some (d, x0 :: x1 :: x2 :: x3 :: x4 :: x5 :: x6 :: x7 :: .fz d :: l) := rfl
theorem ix8 {x0 x1 x2 x3 x4 x5 x6 x7 : S} {y : S} {l : LS} : (x0 :: x1 :: x2 :: x3 :: x4 :: x5 :: x6 :: x7 :: y :: l)[8]? = some y := rfl
theorem rv9f {x0 x1 x2 x3 x4 x5 x6 x7 x8 : S} {d : D} {l : LS} : rdS 9 (x0 :: x1 :: x2 :: x3 :: x4 :: x5 :: x6 :: x7 :: x8 :: .fz d :: l) = some (d, x0 :: x1 :: x2 :: x3 :: x4 :: x5 :: x6 :: x7 :: x8 :: .fz d :: l) := rfl
theorem rv9o {x0 x1 x2 x3 x4 x5 x6 x7 x8 : S} {a : Addr} {d : D} {l : LS} : rdS 9 (x0 :: x1 :: x2 :: x3 :: x4 :: x5 :: x6 :: x7 :: x8 :: .ow a true d :: l) = some (d, x0 :: x1 :: x2 :: x3 :: x4 :: x5 :: x6 :: x7 :: x8 :: .fz d :: l) := rfl
theorem ix9 {x0 x1 x2 x3 x4 x5 x6 x7 x8 : S} {y : S} {l : LS} : (x0 :: x1 :: x2 :: x3 :: x4 :: x5 :: x6 :: x7 :: x8 :: y :: l)[9]? = some y := rfl
theorem rv10f {x0 x1 x2 x3 x4 x5 x6 x7 x8 x9 : S} {d : D} {l : LS} : rdS 10 (x0 :: x1 :: x2 :: x3 :: x4 :: x5 :: x6 :: x7 :: x8 :: x9 :: .fz d :: l) = some (d, x0 :: x1 :: x2 :: x3 :: x4 :: x5 :: x6 :: x7 :: x8 :: x9 :: .fz d :: l) := rfl
theorem rv10o {x0 x1 x2 x3 x4 x5 x6 x7 x8 x9 : S} {a : Addr} {d : D} {l : LS} : rdS 10 (x0 :: x1 :: x2 :: x3 :: x4 :: x5 :: x6 :: x7 :: x8 :: x9 :: .ow a true d :: l) = some (d, x0 :: x1 :: x2 :: x3 :: x4 :: x5 :: x6 :: x7 :: x8 :: x9 :: .fz d :: l) := rfl
theorem ix10 {x0 x1 x2 x3 x4 x5 x6 x7 x8 x9 : S} {y : S} {l : LS} : (x0 :: x1 :: x2 :: x3 :: x4 :: x5 :: x6 :: x7 :: x8 :: x9 :: y :: l)[10]? = some y := rfl
theorem rv11f {x0 x1 x2 x3 x4 x5 x6 x7 x8 x9 x10 : S} {d : D} {l : LS} : rdS 11 (x0 :: x1 :: x2 :: x3 :: x4 :: x5 :: x6 :: x7 :: x8 :: x9 :: x10 :: .fz d :: l) = some (d, x0 :: x1 :: x2 :: x3 :: x4 :: x5 :: x6 :: x7 :: x8 :: x9 :: x10 :: .fz d :: l) := rfl
theorem rv11o {x0 x1 x2 x3 x4 x5 x6 x7 x8 x9 x10 : S} {a : Addr} {d : D} {l : LS} : rdS 11 (x0 :: x1 :: x2 :: x3 :: x4 :: x5 :: x6 :: x7 :: x8 :: x9 :: x10 :: .ow a true d :: l) = some (d, x0 :: x1 :: x2 :: x3 :: x4 :: x5 :: x6 :: x7 :: x8 :: x9 :: x10 :: .fz d :: l) := rfl
theorem ix11 {x0 x1 x2 x3 x4 x5 x6 x7 x8 x9 x10 : S} {y : S} {l : LS} : (x0 :: x1 :: x2 :: x3 :: x4 :: x5 :: x6 :: x7 :: x8 :: x9 :: x10 :: y :: l)[11]? = some y := rfl
theorem rv12f {x0 x1 x2 x3 x4 x5 x6 x7 x8 x9 x10 x11 : S} {d : D} {l : LS} : rdS 12 (x0 :: x1 :: x2 :: x3 :: x4 :: x5 :: x6 :: x7 :: x8 :: x9 :: x10 :: x11 :: .fz d :: l) = some (d, x0 :: x1 :: x2 :: x3 :: x4 :: x5 :: x6 :: x7 :: x8 :: x9 :: x10 :: x11 :: .fz d :: l) := rfl
theorem rv12o {x0 x1 x2 x3 x4 x5 x6 x7 x8 x9 x10 x11 : S} {a : Addr} {d : D} {l : LS} : rdS 12 (x0 :: x1 :: x2 :: x3 :: x4 :: x5 :: x6 :: x7 :: x8 :: x9 :: x10 :: x11 :: .ow a true d :: l) = some (d, x0 :: x1 :: x2 :: x3 :: x4 :: x5 :: x6 :: x7 :: x8 :: x9 :: x10 :: x11 :: .fz d :: l) := rfl
theorem ix12 {x0 x1 x2 x3 x4 x5 x6 x7 x8 x9 x10 x11 : S} {y : S} {l : LS} : (x0 :: x1 :: x2 :: x3 :: x4 :: x5 :: x6 :: x7 :: x8 :: x9 :: x10 :: x11 :: y :: l)[12]? = some y := rfl
theorem rv13f {x0 x1 x2 x3 x4 x5 x6 x7 x8 x9 x10 x11 x12 : S} {d : D} {l : LS} : rdS 13 (x0 :: x1 :: x2 :: x3 :: x4 :: x5 :: x6 :: x7 :: x8 :: x9 :: x10 :: x11 :: x12 :: .fz d :: l) = some (d, x0 :: x1 :: x2 :: x3 :: x4 :: x5 :: x6 :: x7 :: x8 :: x9 :: x10 :: x11 :: x12 :: .fz d :: l) := rfl
theorem rv13o {x0 x1 x2 x3 x4 x5 x6 x7 x8 x9 x10 x11 x12 : S} {a : Addr} {d : D} {l : LS} : rdS 13 (x0 :: x1 :: x2 :: x3 :: x4 :: x5 :: x6 :: x7 :: x8 :: x9 :: x10 :: x11 :: x12 :: .ow a true d :: l) = some (d, x0 :: x1 :: x2 :: x3 :: x4 :: x5 :: x6 :: x7 :: x8 :: x9 :: x10 :: x11 :: x12 :: .fz d :: l) := rfl
theorem ix13 {x0 x1 x2 x3 x4 x5 x6 x7 x8 x9 x10 x11 x12 : S} {y : S} {l : LS} : (x0 :: x1 :: x2 :: x3 :: x4 :: x5 :: x6 :: x7 :: x8 :: x9 :: x10 :: x11 :: x12 :: y :: l)[13]? = some y := rfl
theorem rv14f {x0 x1 x2 x3 x4 x5 x6 x7 x8 x9 x10 x11 x12 x13 : S} {d : D} {l : LS} : rdS 14 (x0 :: x1 :: x2 :: x3 :: x4 :: x5 :: x6 :: x7 :: x8 :: x9 :: x10 :: x11 :: x12 :: x13 :: .fz d :: l) = some (d, x0 :: x1 :: x2 :: x3 :: x4 :: x5 :: x6 :: x7 :: x8 :: x9 :: x10 :: x11 :: x12 :: x13 :: .fz d :: l) := rfl
theorem rv14o {x0 x1 x2 x3 x4 x5 x6 x7 x8 x9 x10 x11 x12 x13 : S} {a : Addr} {d : D} {l : LS} : rdS 14 (x0 :: x1 :: x2 :: x3 :: x4 :: x5 :: x6 :: x7 :: x8 :: x9 :: x10 :: x11 :: x12 :: x13 :: .ow a true d :: l) = some (d, x0 :: x1 :: x2 :: x3 :: x4 :: x5 :: x6 :: x7 :: x8 :: x9 :: x10 :: x11 :: x12 :: x13 :: .fz d :: l) := rfl
theorem ix14 {x0 x1 x2 x3 x4 x5 x6 x7 x8 x9 x10 x11 x12 x13 : S} {y : S} {l : LS} : (x0 :: x1 :: x2 :: x3 :: x4 :: x5 :: x6 :: x7 :: x8 :: x9 :: x10 :: x11 :: x12 :: x13 :: y :: l)[14]? = some y := rfl
theorem rv15f {x0 x1 x2 x3 x4 x5 x6 x7 x8 x9 x10 x11 x12 x13 x14 : S} {d : D} {l : LS} : rdS 15 (x0 :: x1 :: x2 :: x3 :: x4 :: x5 :: x6 :: x7 :: x8 :: x9 :: x10 :: x11 :: x12 :: x13 :: x14 :: .fz d :: l) = some (d, x0 :: x1 :: x2 :: x3 :: x4 :: x5 :: x6 :: x7 :: x8 :: x9 :: x10 :: x11 :: x12 :: x13 :: x14 :: .fz d :: l) := rfl
theorem rv15o {x0 x1 x2 x3 x4 x5 x6 x7 x8 x9 x10 x11 x12 x13 x14 : S} {a : Addr} {d : D} {l : LS} : rdS 15 (x0 :: x1 :: x2 :: x3 :: x4 :: x5 :: x6 :: x7 :: x8 :: x9 :: x10 :: x11 :: x12 :: x13 :: x14 :: .ow a true d :: l) = some (d, x0 :: x1 :: x2 :: x3 :: x4 :: x5 :: x6 :: x7 :: x8 :: x9 :: x10 :: x11 :: x12 :: x13 :: x14 :: .fz d :: l) := rfl
theorem ix15 {x0 x1 x2 x3 x4 x5 x6 x7 x8 x9 x10 x11 x12 x13 x14 : S} {y : S} {l : LS} : (x0 :: x1 :: x2 :: x3 :: x4 :: x5 :: x6 :: x7 :: x8 :: x9 :: x10 :: x11 :: x12 :: x13 :: x14 :: y :: l)[15]? = some y := rfl
theorem rv16f {x0 x1 x2 x3 x4 x5 x6 x7 x8 x9 x10 x11 x12 x13 x14 x15 : S} {d : D} {l : LS} : rdS 16 (x0 :: x1 :: x2 :: x3 :: x4 :: x5 :: x6 :: x7 :: x8 :: x9 :: x10 :: x11 :: x12 :: x13 :: x14 :: x15 :: .fz d :: l) = some (d, x0 :: x1 :: x2 :: x3 :: x4 :: x5 :: x6 :: x7 :: x8 :: x9 :: x10 :: x11 :: x12 :: x13 :: x14 :: x15 :: .fz d :: l) := rfl
theorem rv16o {x0 x1 x2 x3 x4 x5 x6 x7 x8 x9 x10 x11 x12 x13 x14 x15 : S} {a : Addr} {d : D} {l : LS} : rdS 16 (x0 :: x1 :: x2 :: x3 :: x4 :: x5 :: x6 :: x7 :: x8 :: x9 :: x10 :: x11 :: x12 :: x13 :: x14 :: x15 :: .ow a true d :: l) = some (d, x0 :: x1 :: x2 :: x3 :: x4 :: x5 :: x6 :: x7 :: x8 :: x9 :: x10 :: x11 :: x12 :: x13 :: x14 :: x15 :: .fz d :: l) := rfl
theorem ix16 {x0 x1 x2 x3 x4 x5 x6 x7 x8 x9 x10 x11 x12 x13 x14 x15 : S} {y : S} {l : LS} : (x0 :: x1 :: x2 :: x3 :: x4 :: x5 :: x6 :: x7 :: x8 :: x9 :: x10 :: x11 :: x12 :: x13 :: x14 :: x15 :: y :: l)[16]? = some y := rfl
theorem rv17f {x0 x1 x2 x3 x4 x5 x6 x7 x8 x9 x10 x11 x12 x13 x14 x15 x16 : S} {d : D} {l : LS} : rdS 17 (x0 :: x1 :: x2 :: x3 :: x4 :: x5 :: x6 :: x7 :: x8 :: x9 :: x10 :: x11 :: x12 :: x13 :: x14 :: x15 :: x16 :: .fz d :: l) = some (d, x0 :: x1 :: x2 :: x3 :: x4 :: x5 :: x6 :: x7 :: x8 :: x9 :: x10 :: x11 :: x12 :: x13 :: x14 :: x15 :: x16 :: .fz d :: l) := rfl
theorem rv17o {x0 x1 x2 x3 x4 x5 x6 x7 x8 x9 x10 x11 x12 x13 x14 x15 x16 : S} {a : Addr} {d : D} {l : LS} : rdS 17 (x0 :: x1 :: x2 :: x3 :: x4 :: x5 :: x6 :: x7 :: x8 :: x9 :: x10 :: x11 :: x12 :: x13 :: x14 :: x15 :: x16 :: .ow a true d :: l) = some (d, x0 :: x1 :: x2 :: x3 :: x4 :: x5 :: x6 :: x7 :: x8 :: x9 :: x10 :: x11 :: x12 :: x13 :: x14 :: x15 :: x16 :: .fz d :: l) := rfl
theorem ix17 {x0 x1 x2 x3 x4 x5 x6 x7 x8 x9 x10 x11 x12 x13 x14 x15 x16 : S} {y : S} {l : LS} : (x0 :: x1 :: x2 :: x3 :: x4 :: x5 :: x6 :: x7 :: x8 :: x9 :: x10 :: x11 :: x12 :: x13 :: x14 :: x15 :: x16 :: y :: l)[17]? = some y := rfl
theorem rv18f {x0 x1 x2 x3 x4 x5 x6 x7 x8 x9 x10 x11 x12 x13 x14 x15 x16 x17 : S} {d : D} {l : LS} : rdS 18 (x0 :: x1 :: x2 :: x3 :: x4 :: x5 :: x6 :: x7 :: x8 :: x9 :: x10 :: x11 :: x12 :: x13 :: x14 :: x15 :: x16 :: x17 :: .fz d :: l) = some (d, x0 :: x1 :: x2 :: x3 :: x4 :: x5 :: x6 :: x7 :: x8 :: x9 :: x10 :: x11 :: x12 :: x13 :: x14 :: x15 :: x16 :: x17 :: .fz d :: l) := rfl
theorem rv18o {x0 x1 x2 x3 x4 x5 x6 x7 x8 x9 x10 x11 x12 x13 x14 x15 x16 x17 : S} {a : Addr} {d : D} {l : LS} : rdS 18 (x0 :: x1 :: x2 :: x3 :: x4 :: x5 :: x6 :: x7 :: x8 :: x9 :: x10 :: x11 :: x12 :: x13 :: x14 :: x15 :: x16 :: x17 :: .ow a true d :: l) = some (d, x0 :: x1 :: x2 :: x3 :: x4 :: x5 :: x6 :: x7 :: x8 :: x9 :: x10 :: x11 :: x12 :: x13 :: x14 :: x15 :: x16 :: x17 :: .fz d :: l) := rfl
theorem ix18 {x0 x1 x2 x3 x4 x5 x6 x7 x8 x9 x10 x11 x12 x13 x14 x15 x16 x17 : S} {y : S} {l : LS} : (x0 :: x1 :: x2 :: x3 :: x4 :: x5 :: x6 :: x7 :: x8 :: x9 :: x10 :: x11 :: x12 :: x13 :: x14 :: x15 :: x16 :: x17 :: y :: l)[18]? = some y := rfl
theorem rv19f {x0 x1 x2 x3 x4 x5 x6 x7 x8 x9 x10 x11 x12 x13 x14 x15 x16 x17 x18 : S} {d : D} {l : LS} : rdS 19 (x0 :: x1 :: x2 :: x3 :: x4 :: x5 :: x6 :: x7 :: x8 :: x9 :: x10 :: x11 :: x12 :: x13 :: x14 :: x15 :: x16 :: x17 :: x18 :: .fz d :: l) = some (d, x0 :: x1 :: x2 :: x3 :: x4 :: x5 :: x6 :: x7 :: x8 :: x9 :: x10 :: x11 :: x12 :: x13 :: x14 :: x15 :: x16 :: x17 :: x18 :: .fz d :: l) := rfl
theorem rv19o {x0 x1 x2 x3 x4 x5 x6 x7 x8 x9 x10 x11 x12 x13 x14 x15 x16 x17 x18 : S} {a : Addr} {d : D} {l : LS} : rdS 19 (x0 :: x1 :: x2 :: x3 :: x4 :: x5 :: x6 :: x7 :: x8 :: x9 :: x10 :: x11 :: x12 :: x13 :: x14 :: x15 :: x16 :: x17 :: x18 :: .ow a true d :: l) = some (d, x0 :: x1 :: x2 :: x3 :: x4 :: x5 :: x6 :: x7 :: x8 :: x9 :: x10 :: x11 :: x12 :: x13 :: x14 :: x15 :: x16 :: x17 :: x18 :: .fz d :: l) := rfl
theorem ix19 {x0 x1 x2 x3 x4 x5 x6 x7 x8 x9 x10 x11 x12 x13 x14 x15 x16 x17 x18 : S} {y : S} {l : LS} : (x0 :: x1 :: x2 :: x3 :: x4 :: x5 :: x6 :: x7 :: x8 :: x9 :: x10 :: x11 :: x12 :: x13 :: x14 :: x15 :: x16 :: x17 :: x18 :: y :: l)[19]? = some y := rfl
theorem rv20f {x0 x1 x2 x3 x4 x5 x6 x7 x8 x9 x10 x11 x12 x13 x14 x15 x16 x17 x18 x19 : S} {d : D} {l : LS} : rdS 20 (x0 :: x1 :: x2 :: x3 :: x4 :: x5 :: x6 :: x7 :: x8 :: x9 :: x10 :: x11 :: x12 :: x13 :: x14 :: x15 :: x16 :: x17 :: x18 :: x19 :: .fz d :: l) = some (d, x0 :: x1 :: x2 :: x3 :: x4 :: x5 :: x6 :: x7 :: x8 :: x9 :: x10 :: x11 :: x12 :: x13 :: x14 :: x15 :: x16 :: x17 :: x18 :: x19 :: .fz d :: l) := rfl
theorem rv20o {x0 x1 x2 x3 x4 x5 x6 x7 x8 x9 x10 x11 x12 x13 x14 x15 x16 x17 x18 x19 : S} {a : Addr} {d : D} {l : LS} : rdS 20 (x0 :: x1 :: x2 :: x3 :: x4 :: x5 :: x6 :: x7 :: x8 :: x9 :: x10 :: x11 :: x12 :: x13 :: x14 :: x15 :: x16 :: x17 :: x18 :: x19 :: .ow a true d :: l) = some (d, x0 :: x1 :: x2 :: x3 :: x4 :: x5 :: x6 :: x7 :: x8 :: x9 :: x10 :: x11 :: x12 :: x13 :: x14 :: x15 :: x16 :: x17 :: x18 :: x19 :: .fz d :: l) := rfl
theorem ix20 {x0 x1 x2 x3 x4 x5 x6 x7 x8 x9 x10 x11 x12 x13 x14 x15 x16 x17 x18 x19 : S} {y : S} {l : LS} : (x0 :: x1 :: x2 :: x3 :: x4 :: x5 :: x6 :: x7 :: x8 :: x9 :: x10 :: x11 :: x12 :: x13 :: x14 :: x15 :: x16 :: x17 :: x18 :: x19 :: y :: l)[20]? = some y := rfl
theorem rv21f {x0 x1 x2 x3 x4 x5 x6 x7 x8 x9 x10 x11 x12 x13 x14 x15 x16 x17 x18 x19 x20 : S} {d : D} {l : LS} : rdS 21 (x0 :: x1 :: x2 :: x3 :: x4 :: x5 :: x6 :: x7 :: x8 :: x9 :: x10 :: x11 :: x12 :: x13 :: x14 :: x15 :: x16 :: x17 :: x18 :: x19 :: x20 :: .fz d :: l) = some (d, x0 :: x1 :: x2 :: x3 :: x4 :: x5 :: x6 :: x7 :: x8 :: x9 :: x10 :: x11 :: x12 :: x13 :: x14 :: x15 :: x16 :: x17 :: x18 :: x19 :: x20 :: .fz d :: l) := rfl
theorem rv21o {x0 x1 x2 x3 x4 x5 x6 x7 x8 x9 x10 x11 x12 x13 x14 x15 x16 x17 x18 x19 x20 : S} {a : Addr} {d : D} {l : LS} : rdS 21 (x0 :: x1 :: x2 :: x3 :: x4 :: x5 :: x6 :: x7 :: x8 :: x9 :: x10 :: x11 :: x12 :: x13 :: x14 :: x15 :: x16 :: x17 :: x18 :: x19 :: x20 :: .ow a true d :: l) = some (d, x0 :: x1 :: x2 :: x3 :: x4 :: x5 :: x6 :: x7 :: x8 :: x9 :: x10 :: x11 :: x12 :: x13 :: x14 :: x15 :: x16 :: x17 :: x18 :: x19 :: x20 :: .fz d :: l) := rfl
theorem ix21 {x0 x1 x2 x3 x4 x5 x6 x7 x8 x9 x10 x11 x12 x13 x14 x15 x16 x17 x18 x19 x20 : S} {y : S} {l : LS} : (x0 :: x1 :: x2 :: x3 :: x4 :: x5 :: x6 :: x7 :: x8 :: x9 :: x10 :: x11 :: x12 :: x13 :: x14 :: x15 :: x16 :: x17 :: x18 :: x19 :: x20 :: y :: l)[21]? = some y := rfl
theorem rv22f {x0 x1 x2 x3 x4 x5 x6 x7 x8 x9 x10 x11 x12 x13 x14 x15 x16 x17 x18 x19 x20 x21 : S} {d : D} {l : LS} : rdS 22 (x0 :: x1 :: x2 :: x3 :: x4 :: x5 :: x6 :: x7 :: x8 :: x9 :: x10 :: x11 :: x12 :: x13 :: x14 :: x15 :: x16 :: x17 :: x18 :: x19 :: x20 :: x21 :: .fz d :: l) = some (d, x0 :: x1 :: x2 :: x3 :: x4 :: x5 :: x6 :: x7 :: x8 :: x9 :: x10 :: x11 :: x12 :: x13 :: x14 :: x15 :: x16 :: x17 :: x18 :: x19 :: x20 :: x21 :: .fz d :: l) := rfl
theorem rv22o {x0 x1 x2 x3 x4 x5 x6 x7 x8 x9 x10 x11 x12 x13 x14 x15 x16 x17 x18 x19 x20 x21 : S} {a : Addr} {d : D} {l : LS} : rdS 22 (x0 :: x1 :: x2 :: x3 :: x4 :: x5 :: x6 :: x7 :: x8 :: x9 :: x10 :: x11 :: x12 :: x13 :: x14 :: x15 :: x16 :: x17 :: x18 :: x19 :: x20 :: x21 :: .ow a true d :: l) = some (d, x0 :: x1 :: x2 :: x3 :: x4 :: x5 :: x6 :: x7 :: x8 :: x9 :: x10 :: x11 :: x12 :: x13 :: x14 :: x15 :: x16 :: x17 :: x18 :: x19 :: x20 :: x21 :: .fz d :: l) := rfl
theorem ix22 {x0 x1 x2 x3 x4 x5 x6 x7 x8 x9 x10 x11 x12 x13 x14 x15 x16 x17 x18 x19 x20 x21 : S} {y : S} {l : LS} : (x0 :: x1 :: x2 :: x3 :: x4 :: x5 :: x6 :: x7 :: x8 :: x9 :: x10 :: x11 :: x12 :: x13 :: x14 :: x15 :: x16 :: x17 :: x18 :: x19 :: x20 :: x21 :: y :: l)[22]? = some y := rfl
theorem rv23f {x0 x1 x2 x3 x4 x5 x6 x7 x8 x9 x10 x11 x12 x13 x14 x15 x16 x17 x18 x19 x20 x21 x22 : S} {d : D} {l : LS} : rdS 23 (x0 :: x1 :: x2 :: x3 :: x4 :: x5 :: x6 :: x7 :: x8 :: x9 :: x10 :: x11 :: x12 :: x13 :: x14 :: x15 :: x16 :: x17 :: x18 :: x19 :: x20 :: x21 :: x22 :: .fz d :: l) = some (d, x0 :: x1 :: x2 :: x3 :: x4 :: x5 :: x6 :: x7 :: x8 :: x9 :: x10 :: x11 :: x12 :: x13 :: x14 :: x15 :: x16 :: x17 :: x18 :: x19 :: x20 :: x21 :: x22 :: .fz d :: l) := rfl
theorem rv23o {x0 x1 x2 x3 x4 x5 x6 x7 x8 x9 x10 x11 x12 x13 x14 x15 x16 x17 x18 x19 x20 x21 x22 : S} {a : Addr} {d : D} {l : LS} : rdS 23 (x0 :: x1 :: x2 :: x3 :: x4 :: x5 :: x6 :: x7 :: x8 :: x9 :: x10 :: x11 :: x12 :: x13 :: x14 :: x15 :: x16 :: x17 :: x18 :: x19 :: x20 :: x21 :: x22 :: .ow a true d :: l) = some (d, x0 :: x1 :: x2 :: x3 :: x4 :: x5 :: x6 :: x7 :: x8 :: x9 :: x10 :: x11 :: x12 :: x13 :: x14 :: x15 :: x16 :: x17 :: x18 :: x19 :: x20 :: x21 :: x22 :: .fz d :: l) := rfl
theorem ix23 {x0 x1 x2 x3 x4 x5 x6 x7 x8 x9 x10 x11 x12 x13 x14 x15 x16 x17 x18 x19 x20 x21 x22 : S} {y : S} {l : LS} : (x0 :: x1 :: x2 :: x3 :: x4 :: x5 :: x6 :: x7 :: x8 :: x9 :: x10 :: x11 :: x12 :: x13 :: x14 :: x15 :: x16 :: x17 :: x18 :: x19 :: x20 :: x21 :: x22 :: y :: l)[23]? = some y := rfl
theorem rv24f {x0 x1 x2 x3 x4 x5 x6 x7 x8 x9 x10 x11 x12 x13 x14 x15 x16 x17 x18 x19 x20 x21 x22 x23 : S} {d : D} {l : LS} : rdS 24 (x0 :: x1 :: x2 :: x3 :: x4 :: x5 :: x6 :: x7 :: x8 :: x9 :: x10 :: x11 :: x12 :: x13 :: x14 :: x15 :: x16 :: x17 :: x18 :: x19 :: x20 :: x21 :: x22 :: x23 :: .fz d :: l) = some (d, x0 :: x1 :: x2 :: x3 :: x4 :: x5 :: x6 :: x7 :: x8 :: x9 :: x10 :: x11 :: x12 :: x13 :: x14 :: x15 :: x16 :: x17 :: x18 :: x19 :: x20 :: x21 :: x22 :: x23 :: .fz d :: l) := rfl
theorem rv24o {x0 x1 x2 x3 x4 x5 x6 x7 x8 x9 x10 x11 x12 x13 x14 x15 x16 x17 x18 x19 x20 x21 x22 x23 : S} {a : Addr} {d : D} {l : LS} : rdS 24 (x0 :: x1 :: x2 :: x3 :: x4 :: x5 :: x6 :: x7 :: x8 :: x9 :: x10 :: x11 :: x12 :: x13 :: x14 :: x15 :: x16 :: x17 :: x18 :: x19 :: x20 :: x21 :: x22 :: x23 :: .ow a true d :: l) = some (d, x0 :: x1 :: x2 :: x3 :: x4 :: x5 :: x6 :: x7 :: x8 :: x9 :: x10 :: x11 :: x12 :: x13 :: x14 :: x15 :: x16 :: x17 :: x18 :: x19 :: x20 :: x21 :: x22 :: x23 :: .fz d :: l) := rfl
theorem ix24 {x0 x1 x2 x3 x4 x5 x6 x7 x8 x9 x10 x11 x12 x13 x14 x15 x16 x17 x18 x19 x20 x21 x22 x23 : S} {y : S} {l : LS} : (x0 :: x1 :: x2 :: x3 :: x4 :: x5 :: x6 :: x7 :: x8 :: x9 :: x10 :: x11 :: x12 :: x13 :: x14 :: x15 :: x16 :: x17 :: x18 :: x19 :: x20 :: x21 :: x22 :: x23 :: y :: l)[24]? = some y := rfl
theorem rv25f {x0 x1 x2 x3 x4 x5 x6 x7 x8 x9 x10 x11 x12 x13 x14 x15 x16 x17 x18 x19 x20 x21 x22 x23 x24 : S} {d : D} {l : LS} : rdS 25 (x0 :: x1 :: x2 :: x3 :: x4 :: x5 :: x6 :: x7 :: x8 :: x9 :: x10 :: x11 :: x12 :: x13 :: x14 :: x15 :: x16 :: x17 :: x18 :: x19 :: x20 :: x21 :: x22 :: x23 :: x24 :: .fz d :: l) = some (d, x0 :: x1 :: x2 :: x3 :: x4 :: x5 :: x6 :: x7 :: x8 :: x9 :: x10 :: x11 :: x12 :: x13 :: x14 :: x15 :: x16 :: x17 :: x18 :: x19 :: x20 :: x21 :: x22 :: x23 :: x24 :: .fz d :: l) := rfl
theorem rv25o {x0 x1 x2 x3 x4 x5 x6 x7 x8 x9 x10 x11 x12 x13 x14 x15 x16 x17 x18 x19 x20 x21 x22 x23 x24 : S} {a : Addr} {d : D} {l : LS} : rdS 25 (x0 :: x1 :: x2 :: x3 :: x4 :: x5 :: x6 :: x7 :: x8 :: x9 :: x10 :: x11 :: x12 :: x13 :: x14 :: x15 :: x16 :: x17 :: x18 :: x19 :: x20 :: x21 :: x22 :: x23 :: x24 :: .ow a true d :: l) = some (d, x0 :: x1 :: x2 :: x3 :: x4 :: x5 :: x6 :: x7 :: x8 :: x9 :: x10 :: x11 :: x12 :: x13 :: x14 :: x15 :: x16 :: x17 :: x18 :: x19 :: x20 :: x21 :: x22 :: x23 :: x24 :: .fz d :: l) := rfl
theorem ix25 {x0 x1 x2 x3 x4 x5 x6 x7 x8 x9 x10 x11 x12 x13 x14 x15 x16 x17 x18 x19 x20 x21 x22 x23 x24 : S} {y : S} {l : LS} : (x0 :: x1 :: x2 :: x3 :: x4 :: x5 :: x6 :: x7 :: x8 :: x9 :: x10 :: x11 :: x12 :: x13 :: x14 :: x15 :: x16 :: x17 :: x18 :: x19 :: x20 :: x21 :: x22 :: x23 :: x24 :: y :: l)[25]? = some y := rfl
section
variable {A : Prop} {de : DEnds} {st s : LS} {a b : DS} {t : DG} {gi : DI} {i : Nat} {nx bk : LS → Prop} {E : DErr → Prop} {K : S → Prop} {r : S} {e : DErr} {tb : Nat → Bool} {gs : XU → DErr → DS} {l : List HdD}
theorem r_seq : dSeq a b de st = a (thenE de b) st := rfl
theorem r_for : dFor gi t b de st = gi de.ex st fun ds st1 => dForL t b ds de st1 := rfl
theorem r_try : dTry i tb a gs de st = a (tryE de i tb gs) st := rfl
theorem r_tryM : dTryM l a de st = a (tryEm de l) st := rfl
theorem r_thR : (thenE de b).rt = de.rt := rfl
theorem r_thB : (thenE de b).bk = de.bk := rfl
theorem r_thC : (thenE de b).ct = de.ct := rfl
theorem r_thX : (thenE de b).ex = de.ex := rfl
theorem r_loN : (loopE de nx bk).nx = nx := rfl
theorem r_loC : (loopE de nx bk).ct = nx := rfl
theorem r_loB : (loopE de nx bk).bk = bk := rfl
theorem r_loR : (loopE de nx bk).rt = de.rt := rfl
theorem r_loX : (loopE de nx bk).ex = de.ex := rfl
theorem r_enN : (endsA E K).nx s = K (.fz .non) := rfl
theorem r_enR : (endsA E K).rt r s = K r := rfl
theorem r_enX : (endsA E K).ex e s = E e := rfl
theorem r_trN : (tryE de i tb gs).nx = de.nx := rfl
theorem r_trR : (tryE de i tb gs).rt = de.rt := rfl
theorem r_trB : (tryE de i tb gs).bk = de.bk := rfl
theorem r_trC : (tryE de i tb gs).ct = de.ct := rfl
theorem r_trX : (tryE de i tb gs).ex e s = cond (tb e.k) (∀ u, gs u e (suitE de i) (s.set i (.xc u e))) (de.ex e s) := rfl
theorem r_tmN : (tryEm de l).nx = de.nx := rfl
theorem r_tmR : (tryEm de l).rt = de.rt := rfl
theorem r_tmB : (tryEm de l).bk = de.bk := rfl
theorem r_tmC : (tryEm de l).ct = de.ct := rfl
theorem r_tmX : (tryEm de l).ex e s = dTryXm l de e s := rfl
theorem r_mX0 : dTryXm [] de e s = de.ex e s := rfl
theorem r_mXn : dTryXm ((none, tb, gs) :: l) de e s = cond (tb e.k) (∀ u, gs u e (suit0 de) s) (dTryXm l de e s) := rfl
theorem r_mXs : dTryXm ((some i, tb, gs) :: l) de e s = cond (tb e.k) (∀ u, gs u e (suitE de i) (s.set i (.xc u e))) (dTryXm l de e s) := rfl
theorem r_suN : (suitE de i).nx s = de.nx (s.set i .un) := rfl
theorem r_suR : (suitE de i).rt = de.rt := rfl
theorem r_suB : (suitE de i).bk s = de.bk (s.set i .un) := rfl
theorem r_suC : (suitE de i).ct s = de.ct (s.set i .un) := rfl
theorem r_s0N : (suit0 de).nx = de.nx := rfl
theorem r_s0R : (suit0 de).rt = de.rt := rfl
theorem r_s0B : (suit0 de).bk = de.bk := rfl
theorem r_s0C : (suit0 de).ct = de.ct := rfl
theorem r_atO {p : Addr} {l : Bool} {d : D} {K : Addr → Bool → D → Prop} : atO (some (.ow p l d)) K = K p l d := rfl
theorem r_some {α : Type} {x : α} {K : α → Prop} : wpO (some x) K = K x := rfl
theorem r_sDf {d : D} : sD (.fz d) = some d := rfl
theorem r_sDo {p : Addr} {l : Bool} {d : D} : sD (.ow p l d) = some d := rfl
theorem r_hide {d : D} : hide i d st = (st.map hideS).set i (.fz d) := rfl
theorem r_map {x : S} {l : LS} : (x :: l).map hideS = hideS x :: l.map hideS := rfl
theorem r_map0 : ([] : LS).map hideS = [] := rfl
theorem r_hf {d : D} : hideS (.fz d) = .fz d := rfl
theorem r_ho {p : Addr} {l : Bool} {d : D} : hideS (.ow p l d) = .un := rfl
theorem r_hu : hideS .un = .un := rfl
theorem r_cT {α : Sort _} {x y : α} : cond true x y = x := rfl
theorem r_cF {α : Sort _} {x y : α} : cond false x y = y := rfl
end
def dDicO (_Ex : DX) (st : LS) (Q : S → LS → Prop) : Prop := ∀ a, Q (.ow a true (.nd (.dic []) [])) st
end PD
namespace PD
open PySem PySem.Spec PyProof.Rows L2
section
variable {X : Cx} {W : WX} {a b c : Expr} {ga gb gc : DE} {pos : Pos}
end
theorem fld_part : FldOk "part" := ⟨fun _ _ _ _ _ _ _ _ _ _ _ _ _ => .of_eq rfl, rfl, by decide, rfl, rfl, by decide, by decide, fun _ _ _ _ _ _ _ _ _ _ _ _ _ => rfl, fun _ _ _ _ _ _ _ _ _ => rfl⟩
theorem fld_name : FldOk "name" := ⟨fun _ _ _ _ _ _ _ _ _ _ _ _ _ => .of_eq rfl, rfl, by decide, rfl, rfl, by decide, by decide, fun _ _ _ _ _ _ _ _ _ _ _ _ _ => rfl, fun _ _ _ _ _ _ _ _ _ => rfl⟩
theorem fld_word : FldOk "word" := ⟨fun _ _ _ _ _ _ _ _ _ _ _ _ _ => .of_eq rfl, rfl, by decide, rfl, rfl, by decide, by decide, fun _ _ _ _ _ _ _ _ _ _ _ _ _ => rfl, fun _ _ _ _ _ _ _ _ _ => rfl⟩
theorem fld_text : FldOk "text" := ⟨fun _ _ _ _ _ _ _ _ _ _ _ _ _ => .of_eq rfl, rfl, by decide, rfl, rfl, by decide, by decide, fun _ _ _ _ _ _ _ _ _ _ _ _ _ => rfl, fun _ _ _ _ _ _ _ _ _ => rfl⟩
theorem fld_hook : FldOk "hook" := ⟨fun _ _ _ _ _ _ _ _ _ _ _ _ _ => .of_eq rfl, rfl, by decide, rfl, rfl, by decide, by decide, fun _ _ _ _ _ _ _ _ _ _ _ _ _ => rfl, fun _ _ _ _ _ _ _ _ _ => rfl⟩
theorem fld_count : FldOk "count" := ⟨fun _ _ _ _ _ _ _ _ _ _ _ _ _ => .of_eq rfl, rfl, by decide, rfl, rfl, by decide, by decide, fun _ _ _ _ _ _ _ _ _ _ _ _ _ => rfl, fun _ _ _ _ _ _ _ _ _ => rfl⟩
section
variable {X : Cx} {W : WX} {k n : Nat} {f : Addr} {fd : FuncData} {ps : List Str} {sp : Sp} {E : L2.St → XK} {x : Str} {p pos : Pos}
end
section
variable {X : Cx}
def rLen (K : PySem.W.Frag) (k : Bool) : R2 := fun x y H Q => ∃ a b xs, x = .ref a ∧ y = .ref b ∧ SqL K H a xs ∧ SqL K H b [] ∧ xs ≠ [] ∧ Q (.bl k) H
theorem len_ne {xs : List V} {its us : List Value} (r : Vals xs its) (r2 : Vals [] us) (h : xs ≠ []) : (its.toArray.size != us.toArray.size) = true := by
  cases r2
  cases r with
  | nil => exact absurd rfl h
  | cons _ _ => simp
theorem op_eqLen (hu : X.A.units < cLine) : OpR X (compareOp .Eq) (rLen X.K false) := by
  rintro pins s σ H _ _ v u Q I rx ry ⟨a, b, xs, rfl, rfl, h1, h2, h3, q⟩
  cases (show v = .ref a from rx)
  cases (show u = .ref b from ry)
  obtain ⟨its, r1, ⟨o1, n1, e1, c1, _, d1⟩, _⟩ := I.list h1
  obtain ⟨us, r2, ⟨o2, n2, e2, c2, _, d2⟩, _⟩ := I.list h2
  exact PySem.SeqAt.eq_list_lengthsAt ⟨o1, e1, c1, n1, d1⟩ ⟨o2, e2, c2, n2, d2⟩ (len_ne r1 r2 h3) hu ⟨.bl false, H, I, rfl, q⟩
theorem op_neLen (hu : X.A.units < cLine) : OpR X (compareOp .NotEq) (rLen X.K true) := by
  rintro pins s σ H _ _ v u Q I rx ry ⟨a, b, xs, rfl, rfl, h1, h2, h3, q⟩
  cases (show v = .ref a from rx)
  cases (show u = .ref b from ry)
  obtain ⟨its, r1, ⟨o1, n1, e1, c1, _, d1⟩, _⟩ := I.list h1
  obtain ⟨us, r2, ⟨o2, n2, e2, c2, _, d2⟩, _⟩ := I.list h2
  exact PySem.SeqAt.RcNeAt.lists_lengths ⟨o1, e1, c1, n1, d1⟩ ⟨o2, e2, c2, n2, d2⟩ (len_ne r1 r2 h3) hu _ _ _ _ ⟨.bl true, H, I, rfl, q⟩
def qNil (k : Bool) : Q2 := fun x y => match x, y with
  | .nd .lst (_ :: _), .nd .lst [] => some (.bl k)
  | _, _ => none
theorem a_nil {op : CmpOp} {k : Bool} (ho : OpR X (compareOp op) (rLen X.K k)) : OpA X (compareOp op) (qNil k) := ⟨_, ho, fun C H0 H σ st x y d v u Qv hI rx ry e hQ => by
  unfold qNil at e
  split at e
  · cases e
    obtain ⟨a, vs, rfl, h2, h3⟩ := rx.nd
    obtain ⟨b, ws, rfl, h4, h5⟩ := ry.nd
    obtain ⟨v, r, rfl, _, _⟩ := h3.cons
    cases h5.nil
    exact ⟨a, b, _, rfl, rfl, hI.same.seq (SqL.of h2), hI.same.seq (SqL.of h4), (fun z => nomatch z), hQ _ H0 H hI (Same.refl _) rep_bl⟩
  · cases e⟩
def qEqL : Q2 := qOr (qNil false) qEqA
def qNeL : Q2 := qOr (qNil true) qNeA
theorem a_eqL {k : Nat} (hr : RoomG k X.A) : OpA X (compareOp .Eq) qEqL := (a_nil (op_eqLen (by have := room1 hr; omega))).or (a_eqA hr)
theorem a_neL {k : Nat} (hr : RoomG k X.A) : OpA X (compareOp .NotEq) qNeL := (a_nil (op_neLen (by have := room1 hr; omega))).or (a_neA hr)
end
end PD
namespace PD
open PySem PySem.Spec PyProof.Rows L2
open PySem.AutoSeq1 (wpAny_loadPart')
def walkO (l : Addr) : Obj := { cls := .type "tuple_iterator", data := .fields #[.ref l, .int 0 0] }
def enumO (it : Addr) : Obj := { cls := .type "enumerate", data := .fields #[.none, .bool false, .ref it, rawInt 0, .none, .none] }
theorem meets_enumT (l : Addr) (items : Array Value) :
    Meets (Builtin.«enumerate.__new__» ⟨[.type "enumerate", .ref l], []⟩) fun _ R s =>
      s.heap.IsTuple l items ∧ R (.ok (.ret (.ref (s.heap.push (walkO l)).objs.size))) { s with heap := (s.heap.push (walkO l)).push (enumO s.heap.objs.size) } := by
  refine .of_wp fun prog w A R s ⟨T, q⟩ => ?_
  have sub := sub_enumerate
  obtain ⟨⟨c, m, v, sl⟩, at_, h1, n, h2⟩ := id T
  cases (show c = .type "tuple" from h1)
  cases (show v = .seq items n from h2)
  rcases s with ⟨hp, g, dr, tk, os⟩
  wp_walk using wpAny_loadPart' at_
  apply wpAny_stack_any
  intro st
  apply wpAny_pure
  split
  · rename_i k _ _ _ _ _
    by_cases z : (k == Value.type "enumerate") = true
    all_goals
      simp only [z]
      wp_walk using wpAny_loadPart' at_, wpAny_pyIter_tuple T
      exact ⟨_, rfl, q⟩
  · wp_walk using wpAny_loadPart' at_, wpAny_pyIter_tuple T
    exact ⟨_, rfl, q⟩
structure EnT (a e it : Addr) (i : Nat) (h : Heap) : Prop where
  en : ∃ old, IsEnum h e it ((i : Nat) : Int) old
  wk : h.IsTupleIter it a i
  d1 : e ≠ it
  d2 : e ≠ a
  d3 : a ≠ it
theorem call_enumT {prog : Program} {w : World} {A : Around} {E : Value → Shared → Prop} {s : Shared} {l : Addr} {items : Array Value} {Q : Value → Shared → Prop} (T : s.heap.IsTuple l items)
    (q : ∀ g, EnT l (s.heap.objs.size + 1) s.heap.objs.size 0 g → (∀ b o, s.heap.get? b = some o → g.get? b = some o) → IsEnum g (s.heap.objs.size + 1) s.heap.objs.size 0 .none → Q (.ref (s.heap.objs.size + 1)) { s with heap := g }) :
    wpAny (model prog w) A (call (.type "enumerate") [.ref l]) Q E s := by
  have n1 : (s.heap.push (walkO l)).objs.size = s.heap.objs.size + 1 := Heap.size_push ..
  have en : IsEnum ((s.heap.push (walkO l)).push (enumO s.heap.objs.size)) (s.heap.objs.size + 1) s.heap.objs.size 0 .none :=
    (congrArg (fun k => ((s.heap.push (walkO l)).push (enumO s.heap.objs.size)).get? k) n1.symm).trans (Heap.get?_push_size (s.heap.push (walkO l)) (o := enumO s.heap.objs.size) rfl)
  have lt : l < s.heap.objs.size := T.elim fun _ z => Heap.lt_size z.1
  have wk : ((s.heap.push (walkO l)).push (enumO s.heap.objs.size)).IsTupleIter s.heap.objs.size l 0 := ⟨walkO l, Heap.get?_push_of_some _ (Heap.get?_push_size _ rfl), rfl, rfl⟩
  apply callType_new F.called_enumerate (by decide) (F.typeCall_enumerate_1 _) (F.newCall_enumerate_1 _) (fun x => F.args_object_init_2 x _) F.entry_enumerate_new (meets_enumT l items)
  refine ⟨T, ?_⟩
  rw [n1]
  exact ⟨⟨_, en, rfl⟩, q _ ⟨⟨_, en⟩, wk, Nat.succ_ne_self _, Nat.ne_of_gt (Nat.lt_succ_of_lt lt), Nat.ne_of_lt lt⟩ (fun _ _ z => Heap.get?_push_of_some _ (Heap.get?_push_of_some _ z)) en⟩
def Itet (K : PySem.W.Frag) (a : Addr) : It where
  go := fun i G => ∃ (xs : List V) (x : V), SqT K G a xs ∧ xs[i]? = some x
  yld := fun i G v G' => ∃ T x, v = .ref T ∧ G T = none ∧ G' = upd G T (.tup [.int (i : Nat), x]) ∧ ∀ xs, SqT K G a xs → xs[i]? = some x
  stop := fun i G => ∃ xs : List V, SqT K G a xs ∧ xs.length ≤ i
section
variable {a e it : Addr} {i : Nat} {h g : Heap}
theorem EnT.there (z : EnT a e it i h) : ∀ b ∈ [e, it], ∃ o, h.get? b = some o ∧ ∀ v, o.data ≠ .cell v := by
  rcases z with ⟨⟨_, z1⟩, ⟨o, z2, _, z3⟩, _⟩
  intro b m
  rcases List.mem_cons.mp m with rfl | m
  · exact ⟨_, z1, by intro _ q; cases q⟩
  · cases List.mem_singleton.mp m
    exact ⟨o, z2, by intro _ q; cases z3.symm.trans q⟩
theorem EnT.below (z : EnT a e it i h) : ∀ b ∈ [e, it], b < h.objs.size := fun b m => (z.there b m).elim fun _ q => Heap.lt_size q.1
theorem EnT.keeps (z : EnT a e it i h) (k : ∀ b ∈ [e, it], ∀ o, h.get? b = some o → g.get? b = some o) : EnT a e it i g :=
  ⟨z.en.imp fun _ q => k e (.head _) _ q, z.wk.at (k it (.tail _ (.head _))), z.d1, z.d2, z.d3⟩
end
theorem turn_enumT {P : Program} {w : World} {K : PySem.W.Frag} {elts : List Expr} {kk : Nat} {tpos : Pos} (a e it : Addr) : Turn P w K (.Tuple elts kk tpos) (Itet K a) [e, it] e (EnT a e it) where
  mem := .head _
  obj _ _ z := z.there
  keep _ _ _ z k := z.keeps k
  self A i s Q E z q := z.en.elim fun _ en => wpAny_pyIter_enum en q
  item := by
    rintro X rfl rfl rfl calm i pins s τ G E J free z ⟨xs, x, sq, at_⟩
    obtain ⟨its, rv, tp, _⟩ := J.tuple sq
    obtain ⟨u, at2, ru⟩ := rv.get at_
    have at3 : its.toArray[i]? = some u := by simpa using at2
    obtain ⟨old, en⟩ := z.en
    refine wpAny_pyNext_enum_itemD (Draws.tuple (show X.A.in1.handled = none from J.ok.hd calm) it a z.d3 its.toArray) en ⟨z.wk, tp⟩ (Array.getElem?_eq_some_iff.mp at3).1 z.d1 ?_ ?_
    · simp [z.d1, z.d2]
    intro y g tk py en2 wk2 tup big kp
    cases (show some u = some y from at3.symm.trans py)
    refine ⟨_, rfl, wpAny_letOwnedTupleGo_enum (s := { s with heap := g, toks := tk + 1 }) en2 fun g2 en3 sb => ?_⟩
    have tup2 : g2.get? s.heap.objs.size = _ := (sb.2 _ (Nat.ne_of_gt (z.below e (.head _)))).trans tup
    have kp2 : ∀ b o, b ∉ [e, it] → s.heap.get? b = some o → g2.get? b = some o := fun b o n q => by
      have n1 : b ≠ e := fun t => n (t ▸ .head _)
      exact (sb.2 b n1).trans (kp b o n1 (fun t => n (t ▸ .tail _ (.head _))) q)
    have pair : ObjOk X.prog X.w (upd G s.heap.objs.size (.tup [.int i, x])) g2 s.heap.objs.size (.tup [.int i, x]) :=
      ⟨show 2 ≤ sizeLine by decide, _, .cons ⟨tk, rfl⟩ (.cons ru .nil), _, tup2, rfl, _, rfl⟩
    have J2 := J.turnedNew (t' := tk + 1) (ch := [e, it]) (h' := g2) kp2 free (Nat.le_refl _) pair
    refine ⟨.ref s.heap.objs.size, _, J2, rfl, ⟨_, x, rfl, J.hok.fresh (Nat.le_refl _), rfl, fun ys sy => J.tuple_inj sy sq ▸ at_⟩, ?_, ?_⟩
    · refine ⟨⟨u, ?_⟩, wk2.1.at fun o q => (sb.2 it z.d1.symm).trans q, z.d1, z.d2, z.d3⟩
      rw [show ((i + 1 : Nat) : Int) = (i : Int) + 1 from by omega]
      exact en3
    · intro b m
      rw [upd_ne (Nat.ne_of_lt (z.below b m))]
      exact (free b m).1
  done := by
    rintro X rfl rfl rfl calm i pins s τ G E J free z ⟨xs, sq, past⟩
    obtain ⟨its, rv, tp, _⟩ := J.tuple sq
    have over : its.toArray[i]? = none := by have len := rv.length; simp; omega
    obtain ⟨old, en⟩ := z.en
    have ty : s.TypeIs (.ref e) "enumerate" := ⟨_, en, rfl⟩
    obtain ⟨c0, c1, _, c3, c4, c5⟩ := free it (.tail _ (.head _))
    unfold pyNext
    apply wpAny_bind
    apply wpAny_attempt
    apply wpAny_callSpecial?_slot (name := Str.ofString "__next__") ty F.slot_enumerate_next
    apply wpAny_call_entry F.slot_enumerate_next ty F.entry_enumerate_next ?_ (F.args_enumerate_next_1 _)
    show wpAny _ _ (field (.ref e) 2 >>= fun _ => _) _ _ _
    apply wpAny_bind
    apply wpAny_field en rfl (x := .ref it) rfl
    apply wpAny_bind
    refine wpAny_nextOf_tuple_end (show X.A.in1.handled = none from J.ok.hd calm) z.wk (show s.heap.IsTuple a its.toArray from tp) over fun g y kp ⟨o, oy, cy⟩ => ?_
    apply wpAny_bind
    exact wpAny_isInstance (T := "StopIteration") (b := true) ⟨o, oy, cy⟩ isSubtype_stop (wpAny_pure ⟨rfl, J.turned (t' := s.toks) (fun b o n q => kp b o n q) c0 c1 c3 c4 c5⟩)
def iEnumT (K : PySem.W.Frag) (ta : TA) : TI := fun τ G R => ta τ G fun vs G1 => (∃ a xs, vs = [.ref a] ∧ SqL K G1 a xs ∧ R (Ite K a) G1) ∨ ∃ a xs, vs = [.ref a] ∧ SqT K G1 a xs ∧ R (Itet K a) G1
section
variable {X : Cx} {W : WX} {e : Expr} {ta : TA} {ha : DA} {p pos tpos : Pos} {elts : List Expr} {kk : Nat}
theorem pi_enumT (hg : Gl X "enumerate") (hm : X.mg "enumerate" = none) (ha : PA X [e] ta) (hs : starEach [e] X.env = [(false, eval e X.env)] := by rfl) :
    PI X (.Tuple elts kk tpos) (.Call (.Name "enumerate" p) [e] [] pos) (iEnumT X.K ta) where
  run pins s τ G R J q := by
    refine Call_ (ld_blt J hg hm boot_enumerate ?_)
    refine PyProof.Rows.callWith_type1 (thn (ha.run pos pins s τ G _ J q) ?_) hs rfl
    rintro _ u ⟨vs, G1, J1, rs, q1⟩
    have fresh : ∀ b ∈ [u.heap.objs.size + 1, u.heap.objs.size], u.heap.objs.size ≤ b := by
      intro b m
      rcases List.mem_cons.mp m with rfl | m
      · omega
      · rw [List.mem_singleton.mp m]; omega
    have fp := fun b m => J1.fpOk (fresh b m) (J1.hok.fresh (fresh b m))
    rcases q1 with ⟨a, xs, rfl, sq, q2⟩ | ⟨a, xs, rfl, sq, q2⟩ <;> (rcases rs with _ | ⟨r, _ | _⟩; cases r)
    · obtain ⟨its, _, lp, _⟩ := J1.list sq
      apply call_enumerate_list lp.isList
      intro g en wk _ kp
      exact wpAny_pyIter_enum en ⟨_, _, _, _, G1, rfl, J1.kept (t' := u.toks) kp, turn_enum a _ _, ⟨⟨_, en⟩, wk, Nat.succ_ne_self _⟩, fp, q2⟩
    · obtain ⟨its, _, tp, _⟩ := J1.tuple sq
      apply call_enumT (show u.heap.IsTuple a its.toArray from tp)
      intro g z kp en
      exact wpAny_pyIter_enum en ⟨_, _, _, _, G1, rfl, J1.kept (t' := u.toks) kp, turn_enumT a _ _, z, fp, q2⟩
theorem it_enumT {K : PySem.W.Frag} {mg : Str → Option Value} {H0 : Hp} {a : Addr} {ds : List D} {vs : List V} (h : SqT K H0 a vs) (r : RepL K mg H0 ds vs) : ItOk K mg (Itet K a) H0 (ds.zipIdx.map fun p => .nd .tup [.int p.2, p.1]) := by
  have el : (ds.zipIdx.map fun p => D.nd .tup [.int p.2, p.1]).length = vs.length := by rw [List.length_map, List.length_zipIdx, r.length]
  refine ⟨fun k H s h' => ?_, fun H s => ⟨vs, SqT.mono s h, by rw [el]; exact Nat.le_refl _⟩, fun C k H1 H x H' σ st s h' hI y => ?_⟩
  · rw [el] at h'
    exact ⟨vs, vs[k], SqT.mono s h, List.getElem?_eq_getElem h'⟩
  · obtain ⟨T, x, rfl, hT, rfl, hx⟩ := y
    have e := hx vs (SqT.mono (s.trans hI.same) h)
    obtain ⟨d, hd, rd⟩ := r.getV e
    have hT0 := hI.same.free hT
    refine ⟨upd H1 T (.tup [.int (k : Nat), x]), .nd .tup [.int k, d], ?_, same_upd hT0, hI.new hT, rep_nd (t := .tup) (SqT.of upd_same) (repL_cons rep_int (repL_cons (Rep.mono (s.trans (same_upd hT0)) _ _ rd) repL_nil))⟩
    rw [List.getElem?_map, List.getElem?_zipIdx, hd]
    simp
def qEnumA : List D → Option (List D)
  | [.nd .lst ds] => some (ds.zipIdx.map fun p => .nd .tup [.int p.2, p.1])
  | [.nd .scr ds] => some (ds.zipIdx.map fun p => .nd .tup [.int p.2, p.1])
  | [.nd .tup ds] => some (ds.zipIdx.map fun p => .nd .tup [.int p.2, p.1])
  | _ => none
theorem pidA_enumA (hg : Gl X "enumerate") (hm : X.mg "enumerate" = none) (h : PAD X W [e] ha) (hs : starEach [e] X.env = [(false, eval e X.env)] := by rfl) :
    PID X W (.Tuple elts kk tpos) (.Call (.Name "enumerate" p) [e] [] pos) (dItA qEnumA ha) := by
  obtain ⟨ta, pa, qa⟩ := h.ex
  refine ⟨_, pi_enumT hg hm pa hs, fun C H0 H σ st Ex Q R hI hX hQ hg => qa C H0 H σ st Ex _ _ hI hX (fun ds st1 vs H1 K1 q1 i1 s1 r1 el => ?_) hg⟩
  obtain ⟨is, hd, qd⟩ := wpO_of q1
  unfold qEnumA at hd
  split at hd
  · cases hd
    obtain ⟨v, rfl, h⟩ := r1.one
    obtain ⟨a, ws, rfl, h2, h3⟩ := h.nd
    exact .inl ⟨a, ws, rfl, i1.same.seq (SqL.of h2), hQ _ st1 _ H1 K1 qd i1 s1 (it_enum (SqL.of h2) h3)⟩
  · cases hd
    obtain ⟨v, rfl, h⟩ := r1.one
    obtain ⟨a, ws, rfl, h2, h3⟩ := h.nd
    exact .inl ⟨a, ws, rfl, i1.same.seq h2, hQ _ st1 _ H1 K1 qd i1 s1 (it_enum h2 h3)⟩
  · cases hd
    obtain ⟨v, rfl, h⟩ := r1.one
    obtain ⟨a, ws, rfl, h2, h3⟩ := h.nd
    exact .inr ⟨a, ws, rfl, SqT.mono i1.same h2, hQ _ st1 _ H1 K1 qd i1 s1 (it_enumT h2 h3)⟩
  · cases hd
end
end PD
namespace PD
open PySem PySem.Spec PyProof.Rows L2
def qT2L : D → Option (D × D)
  | .nd .tup [a, b] => some (a, b)
  | .nd .lst [a, b] => some (a, b)
  | _ => none
def gdT2L (ga gb : DG) (d : D) (st : LS) (Q : LS → Prop) : Prop := wpO (qT2L d) fun p => ga p.1 st fun st1 => gb p.2 st1 Q
theorem gdT2L_of {ga gb : DG} {d : D} {st : LS} {Q : LS → Prop} (h : gdT2L ga gb d st Q) : ∃ a b, (d = .nd .tup [a, b] ∨ d = .nd .lst [a, b]) ∧ gdCons ga (gdCons gb gdNil) [a, b] st Q := by
  unfold gdT2L qT2L at h
  split at h
  · exact ⟨_, _, .inl rfl, h⟩
  · exact ⟨_, _, .inr rfl, h⟩
  · exact h.elim
theorem pg_or {X : Cx} {e : Expr} {t u : TG} (h : PG X e t) (k : PG X e u) : PG X e (fun v σ H Q => t v σ H Q ∨ u v σ H Q) := ⟨fun pins s σ H v w Q I r hw => by
  rcases hw with hw | hw
  · exact h.run pins s σ H v w Q I r hw
  · exact k.run pins s σ H v w Q I r hw⟩
section
variable {X : Cx} {a b c : Expr} {k : Nat} {pos : Pos} {vs : List Nat} {ga gb gc : DG}
theorem pgdL_tup2 (hc : X.calm = true) (h1 : PGD X a ga) (h2 : PGD X b gb) (e1 : (assignEach [a, b] X.env).map (·.2) = assign a X.env :: (assignEach [b] X.env).map (·.2) := by rfl) (e2 : (assignEach [b] X.env).map (·.2) = assign b X.env :: (assignEach [] X.env).map (·.2) := by rfl) (hn : (assignEach [a, b] X.env).length = 2 := by rfl) (hst : (assignEach [a, b] X.env).findIdx? (·.1) = none := by rfl) : PGD X (.Tuple [a, b] k pos) (gdT2L ga gb) := by
  obtain ⟨t, p, q⟩ := (pgsd_cons h1 (pgsd_cons h2 pgsd_nil e2) e1).ex
  refine ⟨_, pg_or (pg_tup hc p hn hst) (pg_lst hc p hn hst), fun C H0 H σ st d v Q Qv hI hr hQ hg => ?_⟩
  obtain ⟨x, y, hd, hg⟩ := gdT2L_of hg
  rcases hd with rfl | rfl
  · obtain ⟨l, us, rfl, h2, h3⟩ := hr.nd
    exact .inl ⟨l, us, rfl, SqT.mono hI.same h2, by rw [h3.length]; rfl, q C H0 H σ st _ us Q Qv hI h3 hQ hg⟩
  · obtain ⟨l, us, rfl, h2, h3⟩ := hr.nd
    exact .inr ⟨l, us, rfl, hI.same.seq (SqL.of h2), by rw [h3.length]; rfl, q C H0 H σ st _ us Q Qv hI h3 hQ hg⟩
end
end PD
namespace PD
open PySem PySem.Spec PyProof.Rows L2
section
variable {prog : Program} {w : World} {K : Type} [DecidableEq K] {knd : KeyKind prog w K} {A : Around} {E : Value → Shared → Prop} {s : Shared}
end
end PD
namespace PD
open PySem PySem.Spec PyProof.Rows L2
section
variable {M : Model} {A : Around} {E : Value → Shared → Prop} {s : Shared}
end
end PD
namespace PD
open PySem PySem.Spec PyProof.Rows L2
section
variable {X : Cx} {pins : List (Addr × Obj)} {σ : L2.St} {H : Hp} {s : Shared} {E : Value → Shared → Prop}
end
section
variable {X : Cx} {a b : Expr} {t1 t2 : TE} {pos : Pos}
end
end PD
namespace PD
open PySem PySem.Spec PyProof.Rows L2
def qDk : D → Option (List (Key × D))
  | .nd (.dic ks) ds => if ds.length ≤ 4194304 then some (ks.zip ds) else none
  | _ => none
def dStars (g1 g2 : DE) (Ex : DX) (st : LS) (Q : S → LS → Prop) : Prop :=
  g1 Ex st fun x st1 => wpO (qDk x) fun kvs => g2 Ex st1 fun y st2 => wpO (qDk y) fun ls => ∀ p, Q (.ow p true (dicD (mergeG (mergeG [] kvs) ls))) st2
def dStarsV (g1 g2 : DE) (Ex : DX) (st : LS) (Q : D → LS → Prop) : Prop :=
  g1 Ex st fun x st1 => wpO (qDk x) fun kvs => g2 Ex st1 fun y st2 => wpO (qDk y) fun ls => Q (dicD (mergeG (mergeG [] kvs) ls)) st2
def dStPut (g1 gk gv : DE) (Ex : DX) (st : LS) (Q : S → LS → Prop) : Prop :=
  g1 Ex st fun x st1 => wpO (qDk x) fun kvs => gk Ex st1 fun k st2 => gv Ex st2 fun v st3 => wpO (keyOf k) fun k => ∀ p, Q (.ow p true (dicD (putG (mergeG [] kvs) k v))) st3
def dStPutV (g1 gk gv : DE) (Ex : DX) (st : LS) (Q : D → LS → Prop) : Prop :=
  g1 Ex st fun x st1 => wpO (qDk x) fun kvs => gk Ex st1 fun k st2 => gv Ex st2 fun v st3 => wpO (keyOf k) fun k => Q (dicD (putG (mergeG [] kvs) k v)) st3
section
variable {K : PySem.W.Frag} {mg : Str → Option Value} {H : Hp}
end
section
variable {X : Cx} {W : WX} {a b kx vx : Expr} {g1 g2 gk gv : DE} {pos : Pos}
end
end PD
namespace PD
open PySem PySem.Spec PyProof.Rows L2
section
variable {prog : Program} {w : World} {A : Around} {E : Value → Shared → Prop} {s : Shared} {K : PySem.W.Frag} {x C f : Addr} {ox : Obj} {od : Option Obj}
end
section
variable {X : Cx} {k : Nat} {f C : Addr} {fd : FuncData} {ps : List Str} {sp : Sp} {E : L2.St → XK} {a b : Expr} {ta tb : TE} {pos : Pos}
def isIns (C : Addr) (y : V) (G : Hp) : Prop := ∃ p dx fs, y = .ref p ∧ G p = some (.ins C dx fs)
end
end PD
namespace PD
open PySem PySem.Spec PyProof.Rows L2
def dOw (c : Str) (rt : D → Option Unit) (φ : SpA) (ga gb : DE) (Ex : DX) (st : LS) (Q : S → LS → Prop) : Prop :=
  ga Ex st fun x st1 => gb Ex st1 fun y st2 => wpO (qIns c "" x) fun _ => wpO (rt y) fun _ => φ [x, y] (fun e => Ex e st2) fun r => Q r st2
section
variable {X : Cx} {W : WX} {c : Str} {Ca fa : Addr} {k : Nat} {fd : FuncData} {ps : List Str} {a b : Expr} {ga gb : DE} {pos : Pos} {φ : SpA}
def blS : S → Option Bool
  | .fz d => qBl d
  | _ => none
theorem r_blS {d : D} : blS (.fz d) = qBl d := rfl
def dOwT (c : Str) (rt : D → Option Unit) (φ : SpA) (ga gb : DE) (Ex : DX) (st : LS) (Q : Bool → LS → Prop) : Prop :=
  ga Ex st fun x st1 => gb Ex st1 fun y st2 => wpO (qIns c "" x) fun _ => wpO (rt y) fun _ => φ [x, y] (fun e => Ex e st2) fun r => wpO (blS r) fun b => Q b st2
end
end PD
namespace PD
open PySem PySem.Spec PyProof.Rows L2
def strV : D → Option Str
  | .str z => some z
  | _ => none
def strD : S → Option Str
  | .fz d => strV d
  | _ => none
theorem r_strD {d : D} : strD (.fz d) = strV d := rfl
def qOne (c : Str) : List D → Option D
  | [x] => (qIns c "" x).map fun _ => x
  | _ => none
def dRp (c : Str) (φ : SpA) (ha : DA) (Ex : DX) (st : LS) (Q : D → LS → Prop) : Prop := ha Ex st fun ds st1 => wpO (qOne c ds) fun x => φ [x] (fun _ => False) fun r => wpO (strD r) fun z => Q (.str z) st1
section
variable {X : Cx} {W : WX} {c : Str} {Ca fa : Addr} {k : Nat} {fd : FuncData} {ps : List Str} {sp : Sp} {e : Expr} {g : DE} {p pos : Pos} {φ : SpA}
end
end PD
namespace PD
open PySem PySem.Spec PyProof.Rows L2
mutual
def pdU : D → Option PyData
  | .non => some .none
  | .bl b => some (.bool b)
  | .int i => some (.int i)
  | .str x => some (.str x)
  | .nd .tup ds => (pdUL ds).map .tuple
  | _ => none
def pdUL : List D → Option (List PyData)
  | [] => some []
  | d :: ds => match pdU d with
    | none => none
    | some p => (pdUL ds).map (p :: ·)
end
section
variable {X : Cx} {pins : List (Addr × Obj)} {σ : L2.St} {s : Shared} {H0 H : Hp}
mutual
theorem readsU (J : Inv X pins σ H s) (sm : Same H0 H) : ∀ (d : D) (p : PyData) (v : V) (u : Value), pdU d = some p → Rep X.K X.mg H0 d v → RelV v u → Reads s.heap u p []
  | .non, p, v, u, e, h, r => by cases e; cases h.non; cases r; exact .none
  | .bl b, p, v, u, e, h, r => by cases e; cases h.bl; cases r; exact .bool b
  | .int i, p, v, u, e, h, r => by cases e; cases h.int; obtain ⟨t, rfl⟩ := r; exact .int i t
  | .str x, p, v, u, e, h, r => by cases e; cases h.str; obtain ⟨t, rfl⟩ := r; exact .str x t
  | .nd .tup ds, p, v, u, e, h, r => by
    obtain ⟨a, vs, rfl, h2, h3⟩ := h.nd
    cases r
    rcases z : pdUL ds with _ | ps
    · rw [pdU, z] at e; cases e
    · rw [pdU, z] at e; cases e
      obtain ⟨its, rv, ⟨o, ho, hc, n, hd⟩, _⟩ := J.tuple (h2.mono sm)
      exact .tuple ho hc hd (by simpa using readsUL J sm ds ps vs its z h3 rv)
  | .glo _, p, v, u, e, h, r => by cases e
  | .nd .lst ds, p, v, u, e, h, r => by cases e
  | .nd .scr ds, p, v, u, e, h, r => by cases e
  | .nd (.dic ks) ds, p, v, u, e, h, r => by cases e
  | .nd (.ins c fs) ds, p, v, u, e, h, r => by cases e
  | .nd (.exc _) ds, p, v, u, e, h, r => by cases e
theorem readsUL (J : Inv X pins σ H s) (sm : Same H0 H) : ∀ (ds : List D) (ps : List PyData) (vs : List V) (us : List Value), pdUL ds = some ps → RepL X.K X.mg H0 ds vs → Vals vs us → ReadsAll s.heap us ps []
  | [], ps, vs, us, e, h, r => by cases e; cases h.nil; cases r; exact .nil
  | d :: ds, ps, vs, us, e, h, r => by
    obtain ⟨v, vr, rfl, h2, h3⟩ := h.cons
    cases r with
    | cons r1 r2 =>
      rcases z : pdU d with _ | p
      · rw [pdUL, z] at e; cases e
      · rcases y : pdUL ds with _ | qs
        · rw [pdUL, z, y] at e; cases e
        · rw [pdUL, z, y] at e; cases e
          exact .cons (readsU J sm d p v _ z h2 r1) (readsUL J sm ds qs vr _ y h3 r2)
end
end
end PD
namespace PD
open PySem PySem.Spec PyProof.Rows L2
def qTx (acc : Str) : D → Option Str
  | .str y => if (acc ++ y).length ≤ 16777216 then some (acc ++ y) else none
  | _ => none
def dJ : List DE → Str → DX → LS → (Str → LS → Prop) → Prop
  | [], acc, _, st, Q => Q acc st
  | g :: gs, acc, Ex, st, Q => g Ex st fun x st1 => wpO (qTx acc x) fun acc' => dJ gs acc' Ex st1 Q
def dJoin (gs : List DE) (Ex : DX) (st : LS) (Q : D → LS → Prop) : Prop := dJ gs Str.empty Ex st fun z st1 => Q (.str z) st1
section
variable {X : Cx} {W : WX} {e v1 v2 : Expr} {es : List Expr} {g : DE} {gs : List DE} {pos : Pos}
inductive PJD (X : Cx) (W : WX) : List Expr → List DE → Prop where
  | nil : PJD X W [] []
  | cons {e : Expr} {g : DE} {es : List Expr} {gs : List DE} : PED X W e g → PJD X W es gs → PJD X W (e :: es) (g :: gs)
theorem PJD.ex (h : PJD X W es gs) : ∃ ts, PJ X es ts ∧ ∀ (acc : Str) (C : Cfg) (H0 H : Hp) (σ : L2.St) (st : LS) (Ex : DX) (Q : Str → LS → Prop) (Qv : Str → Hp → Prop), I X.K X.mg C H0 H σ st → LkX X.K X.mg C H0 σ W Ex →
    (∀ z st' H0' H', Q z st' → I X.K X.mg C H0' H' σ st' → Same H0 H0' → Qv z H') → dJ gs acc Ex st Q → tJs ts acc σ H Qv := by
  induction h with
  | nil => exact ⟨[], .nil, fun acc C H0 H σ st Ex Q Qv hI hX hQ hg => hQ acc st H0 H hg hI (Same.refl _)⟩
  | cons h _ ih =>
    obtain ⟨ta, pa, qa⟩ := h.ex
    obtain ⟨ts, pj, qj⟩ := ih
    refine ⟨ta :: ts, .cons pa pj, fun acc C H0 H σ st Ex Q Qv hI hX hQ hg => qa C H0 H σ st Ex _ _ hI hX (fun x st1 v H1 K1 q1 i1 s1 r1 => ?_) hg⟩
    obtain ⟨acc', e1, q1⟩ := wpO_of q1
    unfold qTx at e1
    split at e1
    · split at e1
      · rename_i y fits
        cases e1
        cases r1.str
        exact ⟨y, rfl, fits, qj _ C H1 K1 σ st1 Ex Q Qv i1 (hX.up s1) (fun z st' H2 K2 q i s => hQ z st' H2 K2 q i (s1.trans s)) q1⟩
      · cases e1
    · cases e1
end
end PD
namespace PD
open PySem PySem.Spec PyProof.Rows L2
def oCons : Option (D × D) → List (D × D) → List (D × D)
  | some p, ps => p :: ps
  | none, ps => ps
def filP {ε : Type} : List D → (D → Res ε (Option (D × D))) → Res ε (List (D × D))
  | [], _ => .ok []
  | x :: r, f => bR (f x) fun o => bR (filP r f) fun ps => .ok (oCons o ps)
theorem sim_dcF {t : DG} {tt : DT} {gk gv : DE} {vs : List Nat} {f : D → Res DErr (Option (D × D))} {st0 : LS} {K : List (Key × D) → LS → Prop}
    (hs : ∀ x (Q : Option (D × D) → Prop) (K' : D → D → LS → Prop) (K0 : LS → Prop), (∀ k v s, stW s vs = st0 → Q (some (k, v)) → K' k v s) → (∀ s, stW s vs = st0 → Q none → K0 s) → wp (f x) NE Q →
      t x st0 fun st1 => tt (fun _ _ => False) st1 fun b st2 => cond b (gk (fun _ _ => False) st2 fun k st3 => gv (fun _ _ => False) st3 fun v st4 => K' k v st4) (K0 st2)) :
    ∀ (ds : List D) (acc : List (Key × D)), (wp (filP ds f) NE fun ps => wpO (keysOf ps) fun kvs => K (mergeG acc kvs) st0) → dDcL t tt gk gv vs ds acc st0 K
  | [], acc, h => h
  | x :: r, acc, h => by
    unfold filP at h
    simp only [wp_bR, wp_ok] at h
    unfold dDcL
    refine hs x _ (fun k v st4 => wpO (keyOf k) fun kk => dDcL t tt gk gv vs r (putG acc kk v) (stW st4 vs) K) (fun st2 => dDcL t tt gk gv vs r acc (stW st2 vs) K) (fun k v s es q => ?_) (fun s es q => ?_) h
    · rw [es]
      simp only [oCons] at q
      cases hk : keyOf k with
      | none =>
        refine (wp_never (m := filP r f) ?_).elim
        have e : (fun ps : List (D × D) => wpO (keysOf ((k, v) :: ps)) fun kvs => K (mergeG acc kvs) st0) = fun _ => False := by
          funext ps
          unfold keysOf
          rw [hk]
          rfl
        rw [e] at q
        exact q
      | some kk =>
        show dDcL t tt gk gv vs r (putG acc kk v) st0 K
        refine sim_dcF hs r (putG acc kk v) ?_
        have e : (fun ps : List (D × D) => wpO (keysOf ((k, v) :: ps)) fun kvs => K (mergeG acc kvs) st0) = fun ps => wpO (keysOf ps) fun kvs => K (mergeG (putG acc kk v) kvs) st0 := by
          funext ps
          conv => lhs; unfold keysOf
          rw [hk]
          cases keysOf ps <;> rfl
        rw [e] at q
        exact q
    · rw [es]
      exact sim_dcF hs r acc q
theorem sim_dcFQ {t : DG} {tt : DT} {gk gv : DE} {vs : List Nat} {f : D → Res DErr (Option (D × D))} {st0 : LS} {K : List (Key × D) → LS → Prop} {R : List (Key × D) → Prop}
    (hs : ∀ x (Q : Option (D × D) → Prop) (K' : D → D → LS → Prop) (K0 : LS → Prop), (∀ k v s, stW s vs = st0 → Q (some (k, v)) → K' k v s) → (∀ s, stW s vs = st0 → Q none → K0 s) → wp (f x) NE Q →
      t x st0 fun st1 => tt (fun _ _ => False) st1 fun b st2 => cond b (gk (fun _ _ => False) st2 fun k st3 => gv (fun _ _ => False) st3 fun v st4 => K' k v st4) (K0 st2))
    (ds : List D) (hQ : ∀ kvs, R kvs → K (mergeG [] kvs) st0) (h : wp (filP ds f) NE fun ps => wpO (keysOf ps) R) : dDcL t tt gk gv vs ds [] st0 K := by
  refine sim_dcF hs ds [] ?_
  cases hm : filP ds f with
  | ok ps => rw [hm] at h; exact wpO_imp (fun kvs => hQ kvs) h
  | ex e => rw [hm] at h; exact h.elim
  | no => rw [hm] at h; exact h.elim
end PD
namespace PD
open PySem PySem.Spec PyProof.Rows L2
section
variable {X : Cx} {W : WX} {i : Nat} {y : Str} {kx vx tg iter : Expr} {ifs : List Expr} {scope : Scope} {own : List (Str × Nat)} {pos py spos : Pos}
end
end PD
namespace PD
open PySem PySem.Spec PyProof.Rows L2 GenW
structure Rest (fa : List Addr) (s s' : Shared) : Prop where
  os : s'.os = s.os
  bare : AllBare s'.gens
  keep : ∀ b o, b ∉ fa → s.heap.get? b = some o → s'.heap.get? b = some o
  own : ∀ b ∈ fa, ∃ o, s'.heap.get? b = some o
section
variable {M : Model} {A : Around} {R : GenEnd} {Y : Protocol} {n : Nat} {s₀ : Shared} {c : Code} {fs : List Frame} {s : Shared} {env : Env} {K : Flow → Sem PySem.Fin} {J : Value → Sem PySem.Fin} {gd : Bool → Bool} {lv : List Value → List Value}
end
section
variable {prog : Program} {w : World} {A : Around} {R : GenEnd} {Y : Protocol} {n : Nat} {s₀ : Shared} {fs : List Frame} {s : Shared} {env : Env}
end
def yieldEnds (e : DE) (K : D → LS → Prop) : DEnds := ⟨fun st => e (fun _ _ => False) st K, fun _ _ => False, fun _ => False, fun _ => False, fun _ _ => False⟩
end PD
namespace PD
open PySem PySem.Spec PyProof.Rows L2 GenW
section
variable {P : Program} {w : World} {K : PySem.W.Frag} {mg : Str → Option Value} {base : Heap} {N : List Str} {qual : Str} {scope : Scope} {f : Addr} {cd : Value} {A : Around} {outer : List Env} {s : Shared} {H : Hp}
structure Away (P : Program) (w : World) (outer : List Env) (H0 H : Hp) (s : Shared) (fa : List Addr) (a : Addr) (g : Nat) (H6 K6 : Hp) (s₀ s6 : Shared) : Prop where
  os : s6.os = s.os
  bare : AllBare s6.gens
  un : Un (frs outer) [] H K6 s.heap s6.heap
  hok : HOk P w K6 s6.heap
  aft : Aft H0 H [] H6 K6
  gen : s6.heap.IsGen a g
  lim : s6.heap.NoLimit
  fa : ∀ b ∈ fa, s6.heap.get? b = s₀.heap.get? b ∧ K6 b = none
def GnY (P : Program) (w : World) (K : PySem.W.Frag) (mg : Str → Option Value) (outer : List Env) (H0 H : Hp) (s : Shared) (fa : List Addr) (a : Addr) (g : Nat) (ys : List D) : Protocol := fun n s₀ v s6 kap =>
  ∃ y x H6 K6, ys[ys.length - 1 - n]? = some y ∧ RelV x v ∧ Rep K mg H6 y x ∧ Away P w outer H0 H s fa a g H6 K6 s₀ s6 ∧ ∀ s', Rest fa s6 s' → (∀ b ∈ fa, ∀ o, s'.heap.get? b = some o → ∀ v, o.data ≠ .cell v) → kap (.send .none) s'
def GnR (P : Program) (w : World) (outer : List Env) (H0 H : Hp) (s : Shared) (fa : List Addr) (a : Addr) (g : Nat) : GenEnd := fun n s₀ r s6 => ((r = .ok (.ret .none) ∨ r = .ok .next) ∧ n = 0 ∧ ∃ H6 K6, Away P w outer H0 H s fa a g H6 K6 s₀ s6) ∨ ∃ e, r = .error e ∧ False
structure Made (P : Program) (w : World) (K : PySem.W.Frag) (mg : Str → Option Value) (k : Nat) (outer : List Env) (H0 H : Hp) (s : Shared) (ys : List D) (a : Addr) (g : Nat) (c : Code) (s' : Shared) : Prop where
  lo : s.heap.objs.size ≤ a
  hi : a < s'.heap.objs.size
  gen : s'.heap.IsGen a g
  st : s'.gens[g]? = some (.fresh c)
  os : s'.os = s.os
  bare : AllBare s'.gens
  lim : s'.heap.NoLimit
  keep : ∀ b o, s.heap.get? b = some o → s'.heap.get? b = some o
  run : ∀ (A : Around) (fa : List Addr) (s2 : Shared), RoomG k A → A.frames = some outer → (∀ b ∈ fa, s'.heap.objs.size ≤ b ∧ ∃ o, s2.heap.get? b = some o ∧ ∀ v, o.data ≠ .cell v) → (∀ b o, s'.heap.get? b = some o → s2.heap.get? b = some o) → s2.os = s.os → AllBare s2.gens →
    Seg (model P w) A (GnR P w outer H0 H s fa a g) (GnY P w K mg outer H0 H s fa a g ys) ys.length s2 c ((model P w).den c) [] s2
structure GnG (P : Program) (w : World) (K : PySem.W.Frag) (mg : Str → Option Value) (base : Heap) (k : Nat) (f : Addr) (fd : FuncData) (ps : List Str) (φ : List D → (List D → Prop) → Prop) : Prop where
  len : ∀ ds R, φ ds R → ds.length = ps.length
  run : ∀ (A : Around) (outer : List Env) (s : Shared) (H H0 : Hp) (us : List Value) (vs : List V) (ds : List D) (R : List D → Prop), RoomG k A → Env0 P w K mg base A outer s H → BindsTo s fd ⟨us, []⟩ (ps.zip us) → Vals vs us → Same H0 H → RepL K mg H0 ds vs → φ ds R →
    codeAny (model P w) A (.call (.ref f) ⟨us, []⟩) (fun r s' => ∃ a g c ys, r = .ok (.ret (.ref a)) ∧ R ys ∧ Made P w K mg k outer H0 H s ys a g c s') s
end
end PD
namespace PD
open PySem PySem.Spec PyProof.Rows L2 GenW
section
variable {P : Program} {w : World} {A : Around} {E : Value → Shared → Prop} {s : Shared} {env : Env} {U L Pn : Str} {pu pl pt : Pos} {m : Str → Option Value}
end
def coefs (p : Str) : List D → Option (List Int)
  | [] => some []
  | y :: r => match y with
    | .nd .tup [.str u, .str l] => (coefs p r).map fun zs => (cond (u == p) 1 0 - cond (l == p) 1 0) :: zs
    | _ => none
section
variable {X : Cx} {k : Nat} {pins : List (Addr × Obj)} {sc s1 : Shared} {σ : L2.St} {H0 H : Hp} {ys : List D} {zs : List Int} {a : Addr} {g : Nat} {c : Code} {scope : Scope} {U L Pn p : Str} {ip : Nat} {iter : Expr} {i1 i2 c1 c2 p1 p2 p3 p4 q1 q2 bp pu pl pt pos : Pos} {x1 : Nat}
end
end PD
namespace PD
open PySem PySem.Spec PyProof.Rows L2 GenW
def strAt (i : Nat) (st : LS) : Option Str := st[i]?.bind strD
def coefsQ (p : Str) (ys : List D) : Option (List Int) := if ys.length ≤ 16777216 then coefs p ys else none
def dCoef (φ : List D → (List D → Prop) → Prop) (ha : DA) (ip : Nat) (Ex : DX) (st : LS) (Q : S → LS → Prop) : Prop :=
  ha Ex st fun ds st1 => φ ds fun ys => wpO (strAt ip st1) fun p => wpO (coefsQ p ys) fun zs => ∀ a, Q (.ow a true (.nd .lst (zs.map D.int))) st1
section
variable {X : Cx} {W : WX} {k : Nat} {f : Addr} {fd : FuncData} {ps : List Str} {φ : List D → (List D → Prop) → Prop} {scope : Scope} {U L Pn G : Str} {ip : Nat} {own : List (Str × Nat)} {e : Expr} {es : List Expr} {i1 i2 c1 c2 p1 p2 p3 p4 q1 q2 bp pu pl pt gp gpos pos : Pos} {x1 : Nat}
end
end PD
namespace PD
open PySem PySem.Spec PyProof.Rows L2
def dBorT (i : Nat) (g : DT) (_u : DX) (st : LS) (Q : Bool → LS → Prop) : Prop := atO st[i]? fun _ _ d => g (fun _ _ => False) (hide i d st) fun b _ => Q b st
section
variable {X : Cx} {W : WX} {e : Expr} {i : Nat}
end
def dFrzT (i : Nat) (g : DT) (Ex : DX) (st : LS) (Q : Bool → LS → Prop) : Prop := wpO (rdS i st) fun p => g Ex p.2 Q
def atN (s : S) (Q : D → Prop) : Prop := match s with
  | .ow _ true d => Q d
  | _ => False
def dcBN (φ : SpB) (g : DO) (Ex : DX) (st : LS) (Q : S → LS → Prop) : Prop := g Ex st fun s st1 => atN s fun d => φ d [] (fun er _ => Ex er st1) fun r _ => Q r st1
section
variable {K : PySem.W.Frag} {mg : Str → Option Value} {C : Cfg} {H0 H H0' H' : Hp} {σ : L2.St} {st : LS}
end
section
variable {X : Cx} {W : WX} {e : Expr} {pos p : Pos} {k : Nat} {f : Addr} {fd : FuncData} {ps : List Str} {x : Str}
end
theorem r_yN {e : DE} {K : D → LS → Prop} {st : LS} : (yieldEnds e K).nx st = e (fun _ _ => False) st K := rfl
theorem r_yX {e : DE} {K : D → LS → Prop} : (yieldEnds e K).ex = fun _ _ => False := rfl
def qLentO (o d : D) : Option D := if noS (tgOf o) (.ow 0 true d) = true then some d else none
theorem st_lentO {o d : D} {a : Addr} {K : D → Prop} {B : Prop} (h : K d → B) : wpO (qLentO o d) K → (noS (tgOf o) (.ow a true d) = true ∧ B) := fun z => by
  unfold qLentO at z
  by_cases q : noS (tgOf o) (.ow 0 true d) = true
  · rw [if_pos q] at z
    refine ⟨?_, h z⟩
    rw [← q]; cases d <;> rfl
  · rw [if_neg q] at z; exact z.elim
theorem wp_noR {α ε : Type} {Ex : ε → Prop} {Q : α → Prop} : wp (Res.no : Res ε α) Ex Q = False := rfl
theorem r_atN {a : Addr} {d : D} {Q : D → Prop} : atN (.ow a true d) Q = Q d := rfl
theorem st_isL {x y : D} {K K' : D → Prop} (h : ∀ d, K d → K' d) : wpO (qApp x y) K → wpO (qIsL x) fun _ => wpO (qApp x y) K' := fun z => by
  obtain ⟨d, e, k⟩ := wpO_of z
  obtain ⟨ds, e1, _, _⟩ := qApp_of e
  rw [e, e1]
  exact h d k
theorem r_sA0 {s : S} : Option.bind (some s) strD = strD s := rfl
end PD
namespace PD
open PySem PySem.Spec PySem.SeqAt
open AutoSeq1 (wpAny_loadPart')
open MeetsSeq MeetsSeq2 MeetsSeq3 SeqRoads2
section
variable {P : Program} {w : World}
structure Twins (P : Program) (w : World) (l b : Addr) (xs ys : Array Value) (nx ny : Nat) (dx dy : Option Addr) (sx sy : Array (Option Value)) (A : Around) (s : Shared) : Prop where
  fst : s.heap.get? l = some { cls := .type "list", dict := dx, data := .seq xs nx, slots := sx }
  snd : s.heap.get? b = some { cls := .type "list", dict := dy, data := .seq ys ny, slots := sy }
  eq : ∀ (j : Nat) (hx : j < xs.size) (hy : j < ys.size), EqP P w A.in1 s xs[j] ys[j] true
variable {l b : Addr} {xs ys : Array Value} {nx ny : Nat} {dx dy : Option Addr} {sx sy : Array (Option Value)}
end
end PD
namespace PD
open PySem PySem.Spec PyProof.Rows L2
section
variable {X : Cx} {pins : List (Addr × Obj)} {σ : L2.St} {H0 H : Hp} {s : Shared}
end
end PD
namespace PD
open PySem PySem.Spec PyProof.Rows L2
def permL {α : Type} (d : α) (is : List Nat) (ws : List α) : List α := is.map fun i => ws[i]?.getD d
section
variable {K : PySem.W.Frag} {mg : Str → Option Value} {H : Hp}
end
section
variable {X : Cx} {W : WX} {k : Nat} {f : Addr} {fd : FuncData} {ps ks : List Str} {x : Str} {p pos : Pos} {sp : Sp} {E : L2.St → XK} {is : List Nat} {kws : List Keyword} {tk : TA}
def dcAK (φ : SpA) (is : List Nat) (g : DA) (Ex : DX) (st : LS) (Q : S → LS → Prop) : Prop := g Ex st fun ds st1 => φ (permL .non is ds) (fun e => Ex e st1) fun r => Q r st1
end
theorem r_pmC {α : Type} {d : α} {i : Nat} {is : List Nat} {ws : List α} : permL d (i :: is) ws = ws[i]?.getD d :: permL d is ws := rfl
theorem r_pmN {α : Type} {d : α} {ws : List α} : permL d [] ws = [] := rfl
theorem r_gd {α : Type} {x d : α} : (some x).getD d = x := rfl
theorem r_p0 {α : Type} {x : α} {l : List α} : (x :: l)[0]? = some x := rfl
theorem r_p1 {α : Type} {x y : α} {l : List α} : (x :: y :: l)[1]? = some y := rfl
theorem r_p2 {α : Type} {x y z : α} {l : List α} : (x :: y :: z :: l)[2]? = some z := rfl
theorem r_p3 {α : Type} {x y z u : α} {l : List α} : (x :: y :: z :: u :: l)[3]? = some u := rfl
end PD
namespace PD
open PySem PySem.Spec PyProof.Rows L2
def dParO (i j : Nat) (ga : DE) (gb : DO) (de : DEnds) (st : LS) : Prop := ga de.ex st fun x st1 => gb de.ex st1 fun r st2 => de.nx ((st2.set j r).set i (.fz x))
section
variable {X : Cx} {W : WX} {a b : Expr} {pos : Pos}
end
end PD
namespace PD
open PySem PySem.Spec PyProof.Rows L2
def dParD (i j l : Nat) (ga : DE) (de : DEnds) (st : LS) : Prop := ga de.ex st fun x st1 => ∀ a b, de.nx (((st1.set i (.fz x)).set j (.ow a true (.nd (.dic []) []))).set l (.ow b true (.nd (.dic []) [])))
section
variable {X : Cx} {W : WX} {a : Expr} {pos : Pos}
end
end PD
namespace PD
open PySem PySem.Spec PyProof.Rows L2
open AutoSeq1 (wpAny_loadPart')
open PySem.SeqAt MeetsSeq MeetsSeq2 MeetsSeq3 SeqRoads2
section
variable {P : Program} {w : World}
structure Duel (P : Program) (w : World) (l b : Addr) (N : Nat) (J : Nat → Shared → Prop) (A : Around) (R : Result → Shared → Prop) : Prop where
  turn : ∀ i s, J i s → ∃ (xs ys : Array Value) (nx ny : Nat), s.heap.get? l = some { cls := .type "list", data := .seq xs nx } ∧ s.heap.get? b = some { cls := .type "list", data := .seq ys ny } ∧ xs.size = N ∧ ys.size = N ∧
    ∀ (hx : i < xs.size) (hy : i < ys.size), wpAny (model P w) A.in1 (eqBool xs[i] ys[i]) (fun r s' => r = true ∧ J (i + 1) s') (fun e s' => R (.error e) s') s
  fin : ∀ s, J N s → R (.ok (.ret (.bool false))) s
variable {l b : Addr} {N : Nat} {J : Nat → Shared → Prop}
end
section
variable {prog : Program} {w : World} {A : Around} {E : Value → Shared → Prop} {s : Shared} {K : PySem.W.Frag} {x C f : Addr} {ox : Obj} {od : Option Obj} {h₀ : Heap} {L : Addr} {m : Str → Option Value}
end
section
variable {X : Cx} {k : Nat} {f C : Addr} {fd : FuncData} {ps : List Str} {sp : Sp} {E : L2.St → XK} {a b : Expr} {ta tb : TE} {pos : Pos}
def allNe (C la lb : Addr) (vs ws : List V) (sp : Sp) (E : XK) : List V → List V → Hp → (Hp → Prop) → Prop
  | [], [], G, Q => G la = some (.lst vs) ∧ G lb = some (.lst ws) ∧ Q G
  | x :: xs, y :: ys, G, Q => G la = some (.lst vs) ∧ G lb = some (.lst ws) ∧ isIns C x G ∧ isIns C y G ∧ (x = y → allNe C la lb vs ws sp E xs ys G Q) ∧ (x ≠ y → sp [x, y] G (fun v G' => v = .bl true ∧ allNe C la lb vs ws sp E xs ys G' Q) E)
  | _, _, _, _ => False
theorem allNe.at {C la lb : Addr} {vs ws xs ys : List V} {E : XK} {G : Hp} {Q : Hp → Prop} (h : allNe C la lb vs ws sp E xs ys G Q) : G la = some (.lst vs) ∧ G lb = some (.lst ws) := by
  cases xs with
  | nil =>
    cases ys with
    | nil => exact ⟨h.1, h.2.1⟩
    | cons _ _ => exact h.elim
  | cons x xs =>
    cases ys with
    | nil => exact h.elim
    | cons _ _ => exact ⟨h.1, h.2.1⟩
end
def dOwNT (c : Str) (φ : SpA) (ga gb : DE) (Ex : DX) (st : LS) (Q : Bool → LS → Prop) : Prop :=
  ga Ex st fun x st1 => gb Ex st1 fun y st2 => wpO (qIns c "" x) fun _ => wpO (qIns c "" y) fun _ => φ [x, y] (fun e => Ex e st2) fun r => wpO (blS r) fun b => Q (!b) st2
def qInsL (c : Str) : D → Option (List D)
  | .nd .lst ds => if ds.all (fun d => (qIns c "" d).isSome) = true then some ds else none
  | _ => none
def alikeL (f : D → D → Res DErr D) : List D → List D → Res DErr Unit
  | [], [] => .ok ()
  | x :: xs, y :: ys => bR (f x y) fun r => bO (qBl r) fun b => cond b (alikeL f xs ys) .no
  | _, _ => .no
def dOwNL (c : Str) (f : D → D → Res DErr D) (ga gb : DE) (Ex : DX) (st : LS) (Q : Bool → LS → Prop) : Prop :=
  ga Ex st fun x st1 => gb Ex st1 fun y st2 => wpO (qInsL c x) fun xs => wpO (qInsL c y) fun ys => wp (alikeL f xs ys) NE fun _ => Q false st2
section
variable {X : Cx} {W : WX} {c : Str} {Ca fa : Addr} {k : Nat} {fd : FuncData} {ps : List Str} {a b : Expr} {ga gb : DE} {pos : Pos} {φ : SpA}
end
end PD
namespace PD
open PySem PySem.Spec PyProof.Rows L2
section
variable {K : PySem.W.Frag} {mg : Str → Option Value} {C : Cfg} {H0 H H0' H' : Hp} {σ : L2.St} {st : LS} {a : Addr} {o : HO}
end
def okOw : S → Bool
  | .ow _ _ _ => true
  | _ => false
theorem st_okOw {A B : Prop} {a : Addr} {l : Bool} {d : D} (h : A → B) : A → (okOw (.ow a l d) = true ∧ B) := fun z => ⟨rfl, h z⟩
def dParOO (i j : Nat) (ga gb : DO) (de : DEnds) (st : LS) : Prop := ga de.ex st fun r st1 => okOw r = true ∧ gb de.ex st1 fun q st2 => de.nx ((st2.set i r).set j q)
section
variable {X : Cx} {W : WX} {a b : Expr} {pos : Pos}
end
end PD
namespace PD
open PySem PySem.Spec PyProof.Rows L2
def strN (x : Str) (k : Int) : Str := ⟨(List.replicate k.toNat x.cps).foldl (· ++ ·) #[]⟩
def qRepS : Q2 := fun x y => match x, y with
  | .str s, .int k => if decide (0 < s.length) && (decide (s.length ≤ 1000) && (decide (1 ≤ k) && (decide (k ≤ 1000) && decide (s.length * k.toNat ≤ 16777216) && decide ((strN s k).length ≤ 16777216)))) then some (.str (strN s k)) else none
  | _, _ => none
section
variable {X : Cx}
def qMulS : Q2 := qOr qMul qRepS
end
end PD
namespace PD
open PySem PySem.Spec PyProof.Rows L2
section
variable {K : PySem.W.Frag}
theorem mul_int : PySem.W.findIn K (.type "int") "__mul__" = some (some (.builtin "int.__mul__")) ∧ PySem.W.findIn K (.type "int") "__rmul__" = some (some (.builtin "int.__rmul__")) := ⟨by kernel_rfl, by kernel_rfl⟩
end
section
variable {X : Cx} {k : Nat} {f C : Addr} {fd : FuncData} {ps : List Str} {sp : Sp} {E : L2.St → XK} {a b : Expr} {ta tb : TE} {pos : Pos}
end
section
variable {X : Cx} {W : WX} {c : Str} {Ca fa : Addr} {k : Nat} {fd : FuncData} {ps : List Str} {a b : Expr} {ga gb : DE} {pos : Pos} {φ : SpA}
end
end PD
namespace PD
open PySem PySem.Spec PyProof.Rows L2
def dropG (kvs : List (Key × D)) (k : Key) : List (Key × D) := kvs.filter fun p => decide (p.1 ≠ k)
def qPop (d k : D) : Option (D × D) := match d with
  | .nd (.dic ks) ds => (keyOf k).bind fun k => (getG (ks.zip ds) k).map fun v => (dicD (dropG (ks.zip ds) k), v)
  | _ => none
def dPop (i : Nat) (ge : DE) (Ex : DX) (st : LS) (Q : S → LS → Prop) : Prop := atO st[i]? fun _ _ d0 => wpO (qIsD d0) fun _ => ge Ex st fun k st1 => atO st1[i]? fun a l d => wpO (qPop d k) fun p => Q (.fz p.2) (st1.set i (.ow a l p.1))
section
variable {K : PySem.W.Frag} {mg : Str → Option Value} {H : Hp}
theorem KR.drop (k : Key) : ∀ {kvs : List (Key × D)} {ws : List (Key × V)}, KR K mg H kvs ws → KR K mg H (dropG kvs k) (dropK ws k)
  | [], [], _ => trivial
  | p :: r, q :: w, h => by
    obtain ⟨h1, h2, h3⟩ := h
    have ih := KR.drop k h3
    unfold dropG dropK at ih ⊢
    rw [List.filter_cons, List.filter_cons, h1]
    by_cases e : q.1 = k
    · rw [if_neg (by simp [e]), if_neg (by simp [e])]; exact ih
    · rw [if_pos (by simp [e]), if_pos (by simp [e])]; exact ⟨h1, h2, ih⟩
  | [], _ :: _, h => h.elim
  | _ :: _, [], h => h.elim
end
section
variable {X : Cx} {W : WX} {o e : Expr} {ge : DE} {cpos apos : Pos} {i : Nat}
end
section
variable (K : PySem.W.Frag) (mg : Str → Option Value)
end
section
variable {A : Prop} {s0 r : S} {d : D} {e : DErr}
end
section
variable {X : Cx} {W : WX} {e1 e2 : Expr} {pos p : Pos} {k : Nat} {f : Addr} {fd : FuncData} {ps : List Str} {x : Str}
end
section
variable {P : Program} {w : World} {K : PySem.W.Frag} {mg : Str → Option Value} {base : Heap}
end
end PD
namespace PD
open PySem PySem.Spec PyProof.Rows L2
def atB (s : Option S) (Q : Addr → D → (Str → Addr) → Prop) : Prop := match s with
  | some (.ob a d fb) => Q a d fb
  | _ => False
mutual
def noLI : D → Bool
  | .nd .lst _ => false
  | .nd .scr _ => false
  | .nd (.ins _ _) _ => false
  | .nd (.exc _) _ => false
  | .nd _ ds => noLIL ds
  | _ => true
def noLIL : List D → Bool
  | [] => true
  | d :: ds => noLI d && noLIL ds
end
def noLIS : S → Bool
  | .fz d => noLI d
  | .ow _ _ (.nd _ ds) => noLIL ds
  | _ => false
def lstD : D → Bool
  | .nd .lst _ => true
  | _ => false
def lstF (c : Str) : List Str → List D → Bool
  | f :: fs, d :: ds => (!ownF c f || lstD d) && lstF c fs ds
  | _, _ => true
def qObL (d : D) : Option Unit := match d with
  | .nd (.ins c fs) ds => if lstF c fs ds = true then some () else none
  | _ => none
def ovl (H0 H : Hp) (L : List Addr) : Hp := fun b => if b ∈ L then H b else H0 b
def cutL (H : Hp) (L : List Addr) : Hp := fun b => if b ∈ L then none else H b
section
variable {K : PySem.W.Frag} {mg : Str → Option Value} {H : Hp} {L : List Addr}
theorem cutL_ne {b : Addr} (h : b ∉ L) : cutL H L b = H b := by unfold cutL; rw [if_neg h]
theorem cutL_in {b : Addr} (h : b ∈ L) : cutL H L b = none := by unfold cutL; rw [if_pos h]
def LI (H : Hp) (L : List Addr) : Prop := ∀ b ∈ L, (∃ vs, H b = some (.lst vs)) ∨ ∃ C dx fs, H b = some (.ins C dx fs)
theorem Rd.cutL {b : Addr} {u : HO} (hL : LI H L) (h : Rd H b u) (n1 : ∀ vs, u ≠ .lst vs) (n2 : ∀ C dx fs, u ≠ .ins C dx fs) : Rd (PD.cutL H L) b u := by
  have nb : b ∉ L := fun hb => by
    rcases hL b hb with ⟨vs, e⟩ | ⟨C, dx, fs, e⟩
    · rcases h with h | ⟨o, h⟩
      · rw [e] at h; cases h; exact n1 vs rfl
      · rw [e] at h; cases h
    · rcases h with h | ⟨o, h⟩
      · rw [e] at h; cases h; exact n2 C dx fs rfl
      · rw [e] at h; cases h
  rcases h with h | ⟨o, h⟩
  · exact .inl (by rw [cutL_ne nb]; exact h)
  · exact .inr ⟨o, by rw [cutL_ne nb]; exact h⟩
mutual
theorem Rep.cutL (hL : LI H L) : ∀ (d : D) (v : V), noLI d = true → Rep K mg H d v → Rep K mg (PD.cutL H L) d v
  | .non, _, _, h => h
  | .bl _, _, _, h => h
  | .int _, _, _, h => h
  | .str _, _, _, h => h
  | .glo _, _, _, h => h
  | .nd t ds, v, hk, h => by
    unfold Rep at h ⊢
    obtain ⟨b, vs, h1, h2, h3⟩ := h
    cases t with
    | lst => cases hk
    | ins c fs => cases hk
    | exc _ => cases hk
    | tup =>
      refine ⟨b, vs, h1, ?_, RepL.cutL hL ds vs hk h3⟩
      rcases h2 with h2 | h2
      · exact .inl (Rd.cutL hL h2 nofun nofun)
      · exact .inr h2
    | scr => cases hk
    | dic ks =>
      obtain ⟨g1, o, g2⟩ := h2
      have nb : b ∉ L := fun hb => by
        rcases hL b hb with ⟨vs, e⟩ | ⟨C, dx, fs, e⟩
        · rw [e] at g2; cases g2
        · rw [e] at g2; cases g2
      exact ⟨b, vs, h1, ⟨g1, o, by rw [cutL_ne nb]; exact g2⟩, RepL.cutL hL ds vs hk h3⟩
theorem RepL.cutL (hL : LI H L) : ∀ (ds : List D) (vs : List V), noLIL ds = true → RepL K mg H ds vs → RepL K mg (PD.cutL H L) ds vs
  | [], _, _, h => h
  | d :: ds, vs, hk, h => by
    unfold noLIL at hk
    rw [Bool.and_eq_true] at hk
    unfold RepL at h ⊢
    obtain ⟨v, r, h1, h2, h3⟩ := h
    exact ⟨v, r, h1, Rep.cutL hL d v hk.1 h2, RepL.cutL hL ds r hk.2 h3⟩
end
end
section
variable {K : PySem.W.Frag} {mg : Str → Option Value} {C : Cfg} {H0 H : Hp} {σ : L2.St} {st : LS}
theorem kids_lst {c : Str} {fb : Str → Addr} : ∀ {fs : List Str} {ds : List D} {vs : List V}, lstF c fs ds = true → Kids K mg H0 H c fb fs ds vs → ∀ f ∈ fs, ownF c f = true → ∃ ws, H (fb f) = some (.lst ws)
  | f :: fs, d :: ds, v :: vs, hl, h, g, hg, hw => by
    unfold Kids at h
    have hl : ((!ownF c f || lstD d) && lstF c fs ds) = true := hl
    rw [Bool.and_eq_true] at hl
    rcases List.mem_cons.mp hg with rfl | hg
    · obtain ⟨_, t, es, ws, rfl, n, _⟩ := h.1.1 hw
      have hl1 := hl.1
      rw [hw] at hl1
      cases t with
      | lst => exact ⟨ws, n⟩
      | _ => cases hl1
    · exact kids_lst hl.2 h.2 g hg hw
  | [], _, _, _, _, _, hg, _ => by cases hg
  | _ :: _, [], _, _, h, _, _, _ => by unfold Kids at h; exact h.elim
  | _ :: _, _ :: _, [], _, h, _, _, _ => by unfold Kids at h; exact h.elim
def lentB (C : Cfg) (H : Hp) (st : LS) (L : List Addr) : Cfg := ⟨C.B0, fun b => if b ∈ L then none else if st.any (ownS b) = true then H b else C.B b, C.A.filter fun b => decide (b ∉ L) && !st.any (ownS b)⟩
theorem I.backB (i : I K mg C H0 H σ st) {k : Nat} {a : Addr} {c : Str} {fs : List Str} {ds : List D} {fb : Str → Addr} (e : st[k]? = some (.ob a (.nd (.ins c fs) ds) fb)) (hl : lstF c fs ds = true) {L : List Addr} (eL : L = a :: (fs.filter (ownF c)).map fb) {H0' H' : Hp} {st' : LS}
    (i' : I K mg (lentB C H st L) H0' H' σ st') (s' : Same (ovl H0 H L) H0') : I K mg C (cutL H0' L) H' σ st ∧ Same H0 (cutL H0' L) ∧ LI H0' L := by
  obtain ⟨e1, e2, e3, vs, e4, e5⟩ := i.ob e
  rw [← eL] at e2 e3
  have aL : ∀ x ∈ L, x ∈ PD.adr (S.ob a (.nd (.ins c fs) ds) fb) := fun x hx => by rw [eL] at hx; exact hx
  have hH : ∀ x ∈ L, ∃ o, H x = some o ∧ H0' x = some o ∧ H' x = some o := fun x hx => by
    obtain ⟨_, _, o, ho⟩ := i.adr (k := k) (x := x) (by rw [e]; exact aL x hx)
    have : ovl H0 H L x = some o := by unfold ovl; rw [if_pos hx]; exact ho
    exact ⟨o, ho, s' _ _ this, i'.same _ _ (s' _ _ this)⟩
  have s0 : Same H0 (cutL H0' L) := fun b v q => by
    have z : b ∉ L := fun z => by rw [(e3 b z).1] at q; cases q
    rw [cutL_ne z]
    refine s' b v ?_
    unfold ovl
    rw [if_neg z]; exact q
  have nB : ∀ b v, C.B b = some v → b ∉ C.A → b ∉ L := fun b v q n z => by
    rcases (e3 b z).2 with w | w
    · exact n w
    · rw [w] at q; cases q
  have kp : ∀ b v, b ∉ L → st.any (ownS b) = true → H b = some v → H' b = some v := fun b v z w q => by
    refine i'.keep b v ?_ fun hb => ?_
    · show (if b ∈ L then none else if st.any (ownS b) = true then H b else C.B b) = some v
      rw [if_neg z, if_pos w]; exact q
    · have hb : b ∈ C.A.filter _ := hb
      rw [List.mem_filter] at hb
      have := hb.2
      simp [w] at this
  have keepH : ∀ x ∈ L, ∀ o, H x = some o → H' x = some o := fun x hx o ho => by
    obtain ⟨o2, h1, _, h3⟩ := hH x hx
    rw [ho] at h1; cases h1; exact h3
  refine ⟨⟨fun b v q => ?_, i.up.trans s0, fun b v q n => ?_, fun b v q n => ?_, fun b hb => ?_, i.len, fun j => ?_, i.sep⟩, s0, fun x hx => ?_⟩
  · have z : b ∉ L := fun z => by rw [cutL_in z] at q; cases q
    rw [cutL_ne z] at q
    exact i'.same _ _ q
  · have z := nB b v q n
    by_cases w : st.any (ownS b) = true
    · exact kp b v z w (i.keep b v q n)
    · refine i'.keep b v ?_ fun hb => ?_
      · show (if b ∈ L then none else if st.any (ownS b) = true then H b else C.B b) = some v
        rw [if_neg z, if_neg w]; exact q
      · have hb : b ∈ C.A.filter _ := hb
        exact n (List.mem_filter.mp hb).1
  · by_cases z : b ∈ L
    · exact cutL_in z
    · rw [cutL_ne z]
      by_cases w : st.any (ownS b) = true
      · obtain ⟨j, s, w', hb⟩ := own_iff.mp w
        obtain ⟨_, _, v', hv'⟩ := i.adr (k := j) (x := b) (by rw [w']; exact hb)
        refine i'.low b v' ?_ n
        show (if b ∈ L then none else if st.any (ownS b) = true then H b else C.B b) = some v'
        rw [if_neg z, if_pos w]; exact hv'
      · refine i'.low b v ?_ n
        show (if b ∈ L then none else if st.any (ownS b) = true then H b else C.B b) = some v
        rw [if_neg z, if_neg w]; exact q
  · by_cases z : b ∈ L
    · obtain ⟨o, _, _, h3⟩ := hH b z
      exact ⟨o, h3⟩
    · by_cases w : st.any (ownS b) = true
      · obtain ⟨j, s, w', hb'⟩ := own_iff.mp w
        obtain ⟨_, _, v', hv'⟩ := i.adr (k := j) (x := b) (by rw [w']; exact hb')
        exact ⟨v', kp b v' z w hv'⟩
      · exact i'.aa b (List.mem_filter.mpr ⟨hb, by simp [z, w]⟩)
  · by_cases q : j = k
    · subst q
      rw [e]
      have hA : a ∈ L := by rw [eL]; exact List.mem_cons_self
      refine ⟨e1, by rw [← eL]; exact e2, fun x hx => ?_, vs, e4.keep (keepH a hA), e5.move s0 fun f hf hw => keepH _ ?_⟩
      · have hx : x ∈ L := by rw [eL]; exact hx
        exact ⟨cutL_in hx, (e3 x hx).2⟩
      · rw [eL]; exact List.mem_cons_of_mem _ (List.mem_map.mpr ⟨f, List.mem_filter.mpr ⟨hf, hw⟩, rfl⟩)
    · refine (i.slots j).move s0 fun x hx => ?_
      obtain ⟨s, q', hb⟩ := adrO_some hx
      have ne : x ∉ L := fun z => q (i.sep _ _ _ _ q' e x hb (aL x z))
      have w : st.any (ownS x) = true := own_iff.mpr ⟨j, s, q', hb⟩
      obtain ⟨x2, _, v', hv'⟩ := i.adr hx
      refine ⟨?_, fun v hv => kp x v ne w hv⟩
      rw [cutL_ne ne]
      have hlow : C.B0 x = none := by
        cases q0 : C.B0 x with
        | none => rfl
        | some v => rw [i.up _ _ q0] at x2; cases x2
      refine i'.low x v' ?_ hlow
      show (if x ∈ L then none else if st.any (ownS x) = true then H x else C.B x) = some v'
      rw [if_neg ne, if_pos w]; exact hv'
  · rw [eL] at hx
    obtain ⟨o, ho, h2, _⟩ := hH x (by rw [eL]; exact hx)
    rcases List.mem_cons.mp hx with rfl | hx
    · obtain ⟨_, Ci, dx, _, n3⟩ := e4
      rw [n3] at ho; cases ho
      exact .inr ⟨_, _, _, h2⟩
    · obtain ⟨f, hf, rfl⟩ := List.mem_map.mp hx
      obtain ⟨hf1, hf2⟩ := List.mem_filter.mp hf
      obtain ⟨vs', hv'⟩ := kids_lst hl e5 f hf1 hf2
      rw [hv'] at ho; cases ho
      exact .inl ⟨_, h2⟩
theorem RepR.backB (hI : I K mg C H0 H σ st) {L : List Addr} {H1 K1 : Hp} {st' : LS} {r : S} {v : V} (hL : LI H1 L) (hk : noLIS r = true) (h : RepR K mg (lentB C H st L) H1 K1 st' r v) : RepR K mg C (cutL H1 L) K1 st r v := by
  cases r with
  | un => exact h
  | xc _ _ => exact h
  | ob _ _ _ => exact h
  | on _ _ _ _ => cases hk
  | fz d => exact Rep.cutL hL d v hk h
  | ow a' l' d0 =>
    cases d0 with
    | nd t' ds' =>
      obtain ⟨h1, h2, h3, h4, h5, vs, h6, h7⟩ := h
      have ne : a' ∉ L := fun z => by
        rcases hL a' z with ⟨vs, q⟩ | ⟨_, _, _, q⟩
        · rw [h3] at q; cases q
        · rw [h3] at q; cases q
      have h4 : (if a' ∈ L then none else if st.any (ownS a') = true then H a' else C.B a') = none := h4
      rw [if_neg ne] at h4
      have nw : ¬ st.any (ownS a') = true := fun w => by
        rw [if_pos w] at h4
        obtain ⟨j, s, w', hb⟩ := own_iff.mp w
        obtain ⟨_, _, v', hv'⟩ := hI.adr (k := j) (x := a') (by rw [w']; exact hb)
        rw [h4] at hv'; cases hv'
      rw [if_neg nw] at h4
      exact ⟨h1, h2, by rw [cutL_ne ne]; exact h3, h4, fun j s q hb => nw (own_iff.mpr ⟨j, s, q, hb⟩), vs, h6, RepL.cutL hL ds' vs hk h7⟩
    | _ => exact h.elim
end
def dBorB (i : Nat) (g : DE) (_u : DX) (st : LS) (Q : D → LS → Prop) : Prop := atB st[i]? fun _ d _ => wpO (qObL d) fun _ => g (fun _ _ => False) (hide i d st) fun r _ => noLI r = true ∧ Q r st
def dBorBR (i : Nat) (g : DO) (_u : DX) (st : LS) (Q : S → LS → Prop) : Prop := atB st[i]? fun _ d _ => wpO (qObL d) fun _ => g (fun _ _ => False) (hide i d st) fun r _ => noLIS r = true ∧ Q r st
def dBorBT (i : Nat) (g : DT) (_u : DX) (st : LS) (Q : Bool → LS → Prop) : Prop := atB st[i]? fun _ d _ => wpO (qObL d) fun _ => g (fun _ _ => False) (hide i d st) fun b _ => Q b st
section
variable {X : Cx} {W : WX} {e : Expr} {i : Nat}
end
end PD
namespace PD
open PySem PySem.Spec PyProof.Rows L2
def qPutP (c f : Str) (o v : D) : Option D := match o with
  | .nd (.ins c' fs) ds => if c' = c ∧ fs.length < 1000 ∧ ownF c f = false then some (.nd (.ins c (putL fs ds f v).1) (putL fs ds f v).2) else none
  | _ => none
def qNewF (c f : Str) (o v : D) : Option D := match o with
  | .nd (.ins c' fs) ds => if c' = c ∧ fs.length < 1000 ∧ ownF c f = true ∧ f ∉ fs then some (.nd (.ins c (fs ++ [f])) (ds ++ [v])) else none
  | _ => none
def qKid (c f : Str) (o : D) : Option (List D) := match o with
  | .nd (.ins c' fs) ds => if c' = c ∧ ownF c f = true then (match lookF fs ds f with
    | some (.nd .lst es) => some es
    | _ => none) else none
  | _ => none
def putK' (o : D) (f : Str) (es : List D) : D := match o with
  | .nd (.ins c fs) ds => .nd (.ins c fs) (putL fs ds f (.nd .lst es)).2
  | d => d
def qStB (c f : Str) (o k v : D) : Option D := (qKid c f o).bind fun es => match k with
  | .int k => (seti es k v).map fun es' => putK' o f es'
  | _ => none
def qApB (c f : Str) (o v : D) : Option D := (qKid c f o).bind fun es => if es.length < 16777216 then some (putK' o f (es ++ [v])) else none
def qIxB (c f : Str) (o k : D) : Option D := (qKid c f o).bind fun es => match k with
  | .int k => geti es k
  | _ => none
section
variable {K : PySem.W.Frag} {mg : Str → Option Value} {C : Cfg} {H0 H H0' H' : Hp} {σ : L2.St} {st : LS}
theorem Kids.len {c : Str} {fb : Str → Addr} : ∀ {fs : List Str} {ds : List D} {vs : List V}, Kids K mg H0 H c fb fs ds vs → fs.length = vs.length ∧ ds.length = vs.length
  | [], [], [], _ => ⟨rfl, rfl⟩
  | f :: fs, d :: ds, v :: vs, h => by
    unfold Kids at h
    obtain ⟨h1, h2⟩ := Kids.len h.2
    exact ⟨congrArg (· + 1) h1, congrArg (· + 1) h2⟩
  | [], [], _ :: _, h => by unfold Kids at h; exact h.elim
  | [], _ :: _, _, h => by unfold Kids at h; exact h.elim
  | _ :: _, [], _, h => by unfold Kids at h; exact h.elim
  | _ :: _, _ :: _, [], h => by unfold Kids at h; exact h.elim
theorem Kids.get {c f : Str} {fb : Str → Addr} {d : D} (hw : ownF c f = true) : ∀ {fs : List Str} {ds : List D} {vs : List V}, Kids K mg H0 H c fb fs ds vs → lookF fs ds f = some d →
    f ∈ fs ∧ (fs.zip vs).lookup f = some (.ref (fb f)) ∧ ∃ t es ws, d = .nd t es ∧ NodeM mg H t (fb f) ws ∧ RepL K mg H0 es ws
  | g :: fs, x :: ds, v :: vs, h, e => by
    unfold Kids at h
    unfold lookF at e
    rw [List.zip_cons_cons, List.lookup_cons] at e ⊢
    cases q : (f == g) with
    | true =>
      rw [q] at e; cases e
      obtain rfl := eq_of_beq q
      obtain ⟨h1, h2⟩ := h.1.1 hw
      exact ⟨List.mem_cons_self, by rw [h1], h2⟩
    | false =>
      rw [q] at e
      obtain ⟨h1, h2, h3⟩ := Kids.get hw h.2 e
      exact ⟨List.mem_cons_of_mem _ h1, h2, h3⟩
  | [], _, _, _, e => by cases e
  | _ :: _, [], _, h, _ => by unfold Kids at h; exact h.elim
  | _ :: _, _ :: _, [], h, _ => by unfold Kids at h; exact h.elim
theorem Kids.set {c f : Str} {fb : Str → Addr} {d0 : D} {t : Tg} {es : List D} {ws : List V} (hw : ownF c f = true) (hn : NodeM mg H' t (fb f) ws) (hr : RepL K mg H0 es ws) (hk : ∀ a, a ≠ fb f → ∀ o, H a = some o → H' a = some o) :
    ∀ {fs : List Str} {ds : List D} {vs : List V}, ((fs.filter (ownF c)).map fb).Nodup → Kids K mg H0 H c fb fs ds vs → lookF fs ds f = some d0 → Kids K mg H0 H' c fb fs (putL fs ds f (.nd t es)).2 vs
  | g :: fs, x :: ds, v :: vs, nd, h, e => by
    unfold Kids at h
    unfold lookF at e
    rw [List.zip_cons_cons, List.lookup_cons] at e
    have tail : ((fs.filter (ownF c)).map fb).Nodup := by
      rw [List.filter_cons] at nd
      split at nd
      · exact (List.nodup_cons.mp nd).2
      · exact nd
    have other : ∀ h' ∈ fs, ownF c h' = true → ownF c g = true → fb h' ≠ fb g := fun h' m1 m2 m3 z => by
      rw [List.filter_cons, if_pos m3, List.map_cons, List.nodup_cons] at nd
      exact nd.1 (List.mem_map.mpr ⟨h', List.mem_filter.mpr ⟨m1, m2⟩, z⟩)
    unfold putL
    by_cases q : g = f
    · subst q
      rw [if_pos rfl]
      unfold Kids
      refine ⟨⟨fun _ => ⟨(h.1.1 hw).1, t, es, ws, rfl, hn, hr⟩, fun z => by rw [hw] at z; cases z⟩, h.2.move (Same.refl _) fun h' m1 m2 o ho => hk _ (other h' m1 m2 hw) o ho⟩
    · rw [if_neg q]
      have q' : (f == g) = false := by simp; exact fun z => q z.symm
      rw [q'] at e
      have ih := Kids.set hw hn hr hk tail h.2 e
      unfold Kids
      refine ⟨⟨fun z => ?_, fun z => h.1.2 z⟩, ih⟩
      obtain ⟨h1, t', es', ws', h2, h3, h4⟩ := h.1.1 z
      refine ⟨h1, t', es', ws', h2, h3.keep fun o ho => hk _ (fun y => ?_) o ho, h4⟩
      exact other f (Kids.get hw h.2 e).1 hw z y.symm
  | [], _, _, _, _, e => by cases e
  | _ :: _, [], _, _, h, _ => by unfold Kids at h; exact h.elim
  | _ :: _, _ :: _, [], _, h, _ => by unfold Kids at h; exact h.elim
theorem Kids.put {c f : Str} {fb : Str → Addr} {d : D} {v : V} (hw : ownF c f = false) (rd : Rep K mg H0 d v) : ∀ {fs : List Str} {ds : List D} {vs : List V}, Kids K mg H0 H c fb fs ds vs →
    ∃ ws, putF f v (fs.zip vs) = (putL fs ds f d).1.zip ws ∧ (putL fs ds f d).1.length = ws.length ∧ Kids K mg H0 H c fb (putL fs ds f d).1 (putL fs ds f d).2 ws ∧ (putL fs ds f d).1.filter (ownF c) = fs.filter (ownF c)
  | [], [], [], _ => by
    refine ⟨[v], rfl, rfl, ?_, ?_⟩
    · show Kids K mg H0 H c fb [f] [d] [v]
      unfold Kids
      exact ⟨⟨fun z => absurd z (by rw [hw]; nofun), fun _ => rd⟩, by unfold Kids; trivial⟩
    · show [f].filter (ownF c) = []
      rw [List.filter_cons, if_neg (by rw [hw]; simp)]; rfl
  | g :: gs, x :: xs, u :: us, h => by
    unfold Kids at h
    rw [List.zip_cons_cons, putF]
    unfold putL
    by_cases q : g = f
    · rw [if_pos q, if_pos q]
      subst q
      refine ⟨v :: us, rfl, by simpa using (Kids.len h.2).1, ?_, rfl⟩
      unfold Kids
      exact ⟨⟨fun z => absurd z (by rw [hw]; nofun), fun _ => rd⟩, h.2⟩
    · rw [if_neg q, if_neg q]
      obtain ⟨ws, e1, e2, e3, e4⟩ := Kids.put hw rd (fs := gs) h.2
      refine ⟨u :: ws, by rw [e1]; rfl, by simpa using e2, ?_, ?_⟩
      · unfold Kids; exact ⟨h.1, e3⟩
      · show (g :: (putL gs xs f d).1).filter (ownF c) = _
        rw [List.filter_cons, List.filter_cons, e4]
  | [], [], _ :: _, h => by unfold Kids at h; exact h.elim
  | [], _ :: _, _, h => by unfold Kids at h; exact h.elim
  | _ :: _, [], _, h => by unfold Kids at h; exact h.elim
  | _ :: _, _ :: _, [], h => by unfold Kids at h; exact h.elim
theorem Kids.new {c f : Str} {fb : Str → Addr} {t : Tg} {es : List D} {ws : List V} {p : Addr} (hw : ownF c f = true) (hn : NodeM mg H t p ws) (hr : RepL K mg H0 es ws) : ∀ {fs : List Str} {ds : List D} {vs : List V}, f ∉ fs → Kids K mg H0 H c fb fs ds vs →
    Kids K mg H0 H c (fun g => if g = f then p else fb g) (fs ++ [f]) (ds ++ [.nd t es]) (vs ++ [.ref p])
  | [], [], [], _, _ => by
    show Kids K mg H0 H c _ [f] [.nd t es] [.ref p]
    unfold Kids
    refine ⟨⟨fun _ => ?_, fun z => by rw [hw] at z; cases z⟩, by unfold Kids; trivial⟩
    rw [if_pos rfl]; exact ⟨rfl, t, es, ws, rfl, hn, hr⟩
  | g :: gs, x :: xs, u :: us, n, h => by
    unfold Kids at h
    show Kids K mg H0 H c _ (g :: (gs ++ [f])) (x :: (xs ++ [.nd t es])) (u :: (us ++ [.ref p]))
    unfold Kids
    have ne : g ≠ f := fun z => n (z ▸ List.mem_cons_self)
    rw [if_neg ne]
    exact ⟨h.1, Kids.new hw hn hr (fun z => n (List.mem_cons_of_mem _ z)) h.2⟩
  | [], [], _ :: _, _, h => by unfold Kids at h; exact h.elim
  | [], _ :: _, _, _, h => by unfold Kids at h; exact h.elim
  | _ :: _, [], _, _, h => by unfold Kids at h; exact h.elim
  | _ :: _, _ :: _, [], _, h => by unfold Kids at h; exact h.elim
end
def atF (s : Option S) (Q : D → Prop) : Prop := match s with
  | some (.fz d) => Q d
  | _ => False
def dFsB (c f : Str) (i : Nat) (ge : DE) (de : DEnds) (st : LS) : Prop := ge de.ex st fun v st1 => atB st1[i]? fun a d fb => wpO (qPutP c f d v) fun d' => de.nx (st1.set i (.ob a d' fb))
def dFnB (c f : Str) (i : Nat) (ge : DO) (de : DEnds) (st : LS) : Prop := ge de.ex st fun r st1 => atN r fun v => atB st1[i]? fun a d fb => wpO (qNewF c f d v) fun d' => ∀ fb', de.nx (st1.set i (.ob a d' fb'))
def dStB (c f : Str) (i j : Nat) (ge : DE) (de : DEnds) (st : LS) : Prop := ge de.ex st fun v st1 => atB st1[i]? fun a d fb => atF st1[j]? fun x => wpO (qStB c f d x v) fun d' => de.nx (st1.set i (.ob a d' fb))
def dApB (c f : Str) (i : Nat) (ge : DE) (de : DEnds) (st : LS) : Prop := atB st[i]? fun _ d0 fb0 => wpO (qKid c f d0) fun _ => ge de.ex st fun v st1 => atB st1[i]? fun a d fb => fb = fb0 ∧ wpO (qApB c f d v) fun d' => de.nx (st1.set i (.ob a d' fb))
def dIxB (c f : Str) (i j : Nat) (_u : DX) (st : LS) (Q : D → LS → Prop) : Prop := atB st[i]? fun _ d _ => atF st[j]? fun x => wpO (qIxB c f d x) fun y => Q y st
section
variable {K : PySem.W.Frag} {mg : Str → Option Value} {C : Cfg} {H0 H H0' H' : Hp} {σ : L2.St} {st : LS}
end
section
variable {X : Cx} {W : WX} {a b e : Expr} {p pos apos : Pos} {i : Nat} {c f : Str} {Ca : Addr}
end
end PD
namespace PD
open PySem PySem.Spec PyProof.Rows L2
section
variable (K : PySem.W.Frag) (mg : Str → Option Value)
end
def backOb (a : Addr) (st : LS) (Q : D → Prop) : Prop := match st[(0 : Nat)]? with
  | some (S.ob a' d _) => a' = a ∧ Q d
  | _ => False
def isFz : S → Prop
  | .fz _ => True
  | _ => False
def endsOb (a : Addr) (Q : S → D → Prop) : DEnds :=
  ⟨fun st => backOb a st (Q (.fz .non)), fun r st => isFz r ∧ backOb a st (Q r), fun _ => False, fun _ => False, fun _ _ => False⟩
section
variable {A : Prop} {d e : D}
theorem st_endOb {p : Addr} {fb : Str → Addr} {rest : LS} {K : S → D → Prop} (h : A → K (.fz .non) d) : A → (endsOb p K).nx (.ob p d fb :: rest) := fun z => ⟨rfl, h z⟩
theorem st_endObR {p : Addr} {fb : Str → Addr} {rest : LS} {K : S → D → Prop} (h : A → K (.fz e) d) : A → (endsOb p K).rt (.fz e) (.ob p d fb :: rest) := fun z => ⟨trivial, rfl, h z⟩
theorem st_eqr {α : Type} {x : α} {B : Prop} (h : A → B) : A → (x = x ∧ B) := fun z => ⟨rfl, h z⟩
end
section
variable {P : Program} {w : World} {K : PySem.W.Frag} {mg : Str → Option Value} {base : Heap}
end
def dMeB (c m : Str) (φ : SpB) (i : Nat) (ha : DA) (Ex : DX) (st : LS) (Q : S → LS → Prop) : Prop := atB st[i]? fun _ d0 _ => wpO (qIns c m d0) fun _ => ha Ex st fun ds st1 => atB st1[i]? fun a d _ => φ d ds (fun _ _ => False) fun r d' => ∀ fb', Q r (st1.set i (.ob a d' fb'))
def dMkB (c : Str) (φ : SpB) (i : Nat) (ha : DA) (de : DEnds) (st : LS) : Prop := ha de.ex st fun ds st1 => φ (.nd (.ins c []) []) ds (fun _ _ => False) fun r d' => r = .fz .non ∧ ∀ p fb', de.nx (st1.set i (.ob p d' fb'))
section
variable {K : PySem.W.Frag} {mg : Str → Option Value} {C : Cfg} {H0 H H0' H' : Hp} {σ : L2.St} {st : LS}
theorem Kids.names {c m : Str} {fb : Str → Addr} : ∀ {fs : List Str} {ds : List D} {vs : List V}, Kids K mg H0 H c fb fs ds vs → lookF fs ds m = none → (fs.zip vs).lookup m = none
  | [], [], [], _, _ => rfl
  | f :: fs, d :: ds, v :: vs, h, e => by
    unfold Kids at h
    unfold lookF at e
    rw [List.zip_cons_cons, List.lookup_cons] at e ⊢
    cases q : (m == f) with
    | true => rw [q] at e; cases e
    | false => rw [q] at e; exact Kids.names h.2 e
  | [], [], _ :: _, h, _ => by unfold Kids at h; exact h.elim
  | [], _ :: _, _, h, _ => by unfold Kids at h; exact h.elim
  | _ :: _, [], _, h, _ => by unfold Kids at h; exact h.elim
  | _ :: _, _ :: _, [], h, _ => by unfold Kids at h; exact h.elim
end
section
variable {X : Cx} {W : WX} {c m x : Str} {Ca fa : Addr} {e o : Expr} {es : List Expr} {ha : DA} {pos p apos : Pos} {k n i : Nat} {fd : FuncData} {ps : List Str}
end
end PD
namespace PD
open PySem PySem.Spec PyProof.Rows L2
section
variable {X : Cx} {W : WX} {e e2 : Expr} {p pos tpos : Pos} {ha : DA}
end
section
variable {ε α β : Type}
def oCtl (o : Option (Ctl α β)) (X : Prop) (N B : β → Prop) (R : α → Prop) : Prop := match o with
  | none => X
  | some c => ctlP c N B R
theorem oCtl_none {X : Prop} {N B : β → Prop} {R : α → Prop} : oCtl (none : Option (Ctl α β)) X N B R = X := rfl
theorem oCtl_nx {b : β} {X : Prop} {N B : β → Prop} {R : α → Prop} : oCtl (some (.nx b)) X N B R = N b := rfl
theorem oCtl_bk {b : β} {X : Prop} {N B : β → Prop} {R : α → Prop} : oCtl (some (.bk b)) X N B R = B b := rfl
theorem oCtl_rt {v : α} {X : Prop} {N B : β → Prop} {R : α → Prop} : oCtl (some (.rt v)) X N B R = R v := rfl
end
def qLentBf (d : D) : Option D := if noLI d = true then some d else none
def qLentBo (d : D) : Option D := if noLIS (.ow 0 true d) = true then some d else none
section
variable {d : D} {p : Addr} {fb : Str → Addr}
theorem st_lentBf {K : D → Prop} {B : Prop} (h : K d → B) : wpO (qLentBf d) K → (noLIS (.fz d) = true ∧ B) := fun z => by
  unfold qLentBf at z
  by_cases q : noLI d = true
  · rw [if_pos q] at z; exact ⟨q, h z⟩
  · rw [if_neg q] at z; exact z.elim
theorem st_lentBo {K : D → Prop} {B : Prop} (h : K d → B) : wpO (qLentBo d) K → (noLIS (.ow p true d) = true ∧ B) := fun z => by
  unfold qLentBo at z
  by_cases q : noLIS (.ow 0 true d) = true
  · rw [if_pos q] at z
    refine ⟨?_, h z⟩
    rw [← q]; cases d <;> rfl
  · rw [if_neg q] at z; exact z.elim
theorem r_atB {K : Addr → D → (Str → Addr) → Prop} : atB (some (.ob p d fb)) K = K p d fb := rfl
theorem r_atF {K : D → Prop} : atF (some (.fz d)) K = K d := rfl
theorem r_hb : hideS (.ob p d fb) = .un := rfl
end
def dCatO (ga gb : DE) (Ex : DX) (st : LS) (Q : S → LS → Prop) : Prop := ga Ex st fun x st1 => gb Ex st1 fun y st2 => wpO (qCat x y) fun z => ∀ p, Q (.ow p true z) st2
def dRepO (ga gb : DE) (Ex : DX) (st : LS) (Q : S → LS → Prop) : Prop := ga Ex st fun x st1 => gb Ex st1 fun y st2 => wpO (qRepL x y) fun z => ∀ p, Q (.ow p true z) st2
section
variable {X : Cx} {W : WX} {a b : Expr} {ga gb : DE} {pos : Pos}
end
def atNw (s : Option S) (Q : Addr → D → Prop) : Prop := match s with
  | some (.ow a true d) => Q a d
  | _ => False
theorem r_atNw {a : Addr} {d : D} {K : Addr → D → Prop} : atNw (some (.ow a true d)) K = K a d := rfl
def dGive (i : Nat) (_u : DX) (st : LS) (Q : S → LS → Prop) : Prop := atNw st[i]? fun a d => Q (.ow a true d) (st.set i .un)
end PD
namespace PD
open PySem PySem.Spec PyProof.Rows L2
section
variable {X : Cx} {W : WX} {e e2 : Expr} {p pz pos posz : Pos} {ha : DA}
end
end PD
namespace PD
open PySem PySem.Spec PyProof.Rows L2
section
variable {X : Cx} {W : WX} {e : Expr} {p apos cpos pos : Pos} {g : DE}
end
end PD
namespace PD
open PySem PySem.Spec PyProof.Rows L2
noncomputable def qMulC : Q2 := fun x y => Classical.choose (⟨qMul x y, rfl⟩ : ∃ z, z = qMul x y)
section
variable {X : Cx}
end
end PD
namespace PD
open PySem PySem.Spec PyProof.Rows L2
structure Li3 (K : PySem.W.Frag) (H : Hp) (a b c : Addr) (xs ys zs : List V) : Prop where
  one : SqL K H a xs
  two : SqL K H b ys
  tri : SqL K H c zs
structure Mid3 (a b c z TI TO i1 i2 i3 : Addr) (i : Nat) (h : Heap) : Prop where
  z : IsZip h z TI TO .none
  ti : IsTupOf3 h TI (.ref i1) (.ref i2) (.ref i3)
  to : ∃ x y u, IsTupOf3 h TO x y u
  k1 : h.IsListIter i1 a i
  k2 : h.IsListIter i2 b i
  k3 : h.IsListIter i3 c i
section
variable {X : Cx} {W : WX} {e e2 e3 : Expr} {p pos tpos : Pos}
end
end PD
namespace PD
open PySem PySem.Spec PyProof.Rows L2
def strAll : List D → Option (List Str)
  | [] => some []
  | .str s :: r => (strAll r).map fun l => s :: l
  | _ :: _ => none
def qIsLs : D → Option Unit
  | .nd .lst _ => some ()
  | _ => none
def qIndex (x y : D) : Option D := match x, y with
  | .nd .lst ds, .str s => (strAll ds).bind fun l => (l.findIdx? fun t => t == s).map fun j => .int ((j : Nat) : Int)
  | _, _ => none
def dIdx (ga gb : DE) (Ex : DX) (st : LS) (Q : D → LS → Prop) : Prop := ga Ex st fun x st1 => wpO (qIsLs x) fun _ => gb Ex st1 fun y st2 => wpO (qIndex x y) fun d => Q d st2
section
variable {X : Cx} {W : WX} {e e2 : Expr} {ga gb : DE} {apos cpos : Pos}
end
abbrev SpP := List D → (D → D → Prop) → Prop
def endsP (ga : DE) (gb : DO) (Q : D → D → Prop) : DEnds :=
  ⟨fun st1 => ga (fun _ _ => False) st1 fun d1 st2 => gb (fun _ _ => False) st2 fun r st3 => ∃ a es, r = .ow a true (.nd .lst es) ∧ Q d1 (.nd .lst es), fun _ _ => False, fun _ => False, fun _ => False, fun _ _ => False⟩
section
variable {P : Program} {w : World} {K : PySem.W.Frag} {mg : Str → Option Value} {base : Heap}
end
def dPair (φ : SpP) (i j : Nat) (ga : DA) (de : DEnds) (st : LS) : Prop := ga de.ex st fun ds st1 => φ ds fun d1 d2 => ∀ b, de.nx ((st1.set i (.fz d1)).set j (.ow b true d2))
section
variable {X : Cx} {W : WX} {e : Expr} {es : List Expr} {g : DA} {pos p pc px py pt : Pos} {kt} {k n : Nat} {f : Addr} {fd : FuncData} {ps : List Str} {x y z : Str}
end
end PD
namespace PD
open PySem PySem.Spec PyProof.Rows L2
def dSeek (q : D → D → Option D) (ga gb : DE) (Ex : DX) (st : LS) (Q : D → LS → Prop) : Prop := ga Ex st fun x st1 => wpO (qIsLs x) fun _ => gb Ex st1 fun y st2 => wpO (q x y) fun d => Q d st2
section
variable {X : Cx} {W : WX} {e e2 : Expr} {ga gb : DE} {apos cpos : Pos}
end
end PD
namespace PD
open PySem PySem.Spec PyProof.Rows L2
def qT3L : D → Option (D × D × D)
  | .nd .tup [a, b, c] => some (a, b, c)
  | .nd .lst [a, b, c] => some (a, b, c)
  | _ => none
def gdT3L (ga gb gc : DG) (d : D) (st : LS) (Q : LS → Prop) : Prop := wpO (qT3L d) fun p => ga p.1 st fun st1 => gb p.2.1 st1 fun st2 => gc p.2.2 st2 Q
section
variable {X : Cx} {a b c : Expr} {k : Nat} {pos : Pos} {vs : List Nat} {ga gb gc : DG}
end
section
variable {X : Cx}
end
end PD
namespace PD
open PySem PySem.Spec PyProof.Rows L2
section
variable {ε : Type}
end
section
variable {ε : Type}
end
end PD
namespace PD
open PySem PySem.Spec PyProof.Rows L2
end PD
namespace PD
open PySem PySem.Spec PyProof.Rows L2
section
variable {X : Cx} {W : WX} {i : Nat} {y : Str} {kx vx tg iter : Expr} {ifs : List Expr} {scope : Scope} {own : List (Str × Nat)} {pos py spos : Pos}
end
end PD
namespace PD
open PySem PySem.Spec PyProof.Rows L2
section
variable (K : PySem.W.Frag) (mg : Str → Option Value)
end
structure FnS (P : Program) (w : World) (K : PySem.W.Frag) (mg : Str → Option Value) (base : Heap) (k : Nat) (f : Addr) (sp : Sp) : Prop where
  run : ∀ (A : Around) (outer : List Env) (u : Shared) (G : Hp) (us : List Value) (vs : List V) (T : VK) (E : XK), RoomG k A → Env0 P w K mg base A outer u G → Vals vs us → sp vs G T E →
    codeAny (model P w) A (.call (.ref f) ⟨us, []⟩) (CR (L2.CX P w) outer P w G u T E) u
section
variable {P : Program} {w : World} {K : PySem.W.Frag} {mg : Str → Option Value} {base : Heap}
end
section
variable {X : Cx} {W : WX} {k n : Nat} {f : Addr} {x : Str} {p pos : Pos} {e : Expr} {es : List Expr} {E : L2.St → XK} {sp : Sp} {t : TA}
end
end PD
namespace PD
open PySem PySem.Spec PyProof.Rows L2
section
variable {X : Cx} {W : WX} {o e : Expr} {ge : DE} {cpos apos : Pos} {i : Nat}
end
end PD
namespace PD
open PySem PySem.Spec PyProof.Rows L2
section
variable {s : Shared} {prog : Program} {A : Around} {E : Value → Shared → Prop} {w : World}
end
section
variable {X : Cx}
end
section
variable {X : Cx} {W : WX} {e : Expr} {g : DE}
end
end PD
namespace PD
open PySem PySem.Spec PyProof.Rows L2
section
variable {X : Cx}
end
end PD
namespace PD
open PySem PySem.Spec PyProof.Rows L2
def dIfO (gc : DT) (ga gb : DO) (Ex : DX) (st : LS) (Q : S → LS → Prop) : Prop := gc Ex st fun c st1 => cond c (ga Ex st1 Q) (gb Ex st1 Q)
section
variable {X : Cx} {W : WX} {c a b : Expr} {gc : DT} {ga gb : DO} {pos : Pos}
end
end PD
namespace PD
open PySem PySem.Spec PyProof.Rows L2
section
variable {X : Cx} {W : WX} {e t : Expr} {g : DE} {c : Str} {Ca : Addr} {T : String} {p pos : Pos}
end
end PD
namespace PD
open PySem PySem.Spec PyProof.Rows L2
noncomputable def qItC : D → Option (List D) := Classical.choose (⟨qIt, rfl⟩ : ∃ z, z = qIt)
section
variable {X : Cx} {W : WX} {e : Expr} {g : DE}
end
end PD
namespace PySem.SeqAt
open PySem PySem.Spec PyProof.Rows
end PySem.SeqAt
namespace PD
open PySem PySem.Spec PyProof.Rows L2
section
variable {X : Cx}
end
end PD
namespace PD
open PySem PySem.Spec PyProof.Rows L2
structure SrtOk (ds : List D) : Prop where
  pl : ∀ d ∈ ds, (py d).plain = true ∧ (py d).depth ≤ 1
  al : ∀ d ∈ ds, ∀ e ∈ ds, PySem.W.alike (py d) (py e) = true
  no : ∀ d ∈ ds, py d ≠ .none ∧ ∀ xs, py d ≠ .tuple xs
section
variable {X : Cx}
end
end PD
namespace PySem
open Sem (wp)
section
variable {prog : Program} {w : World} {A : Around} {E : Value → Shared → Prop} {s : Shared} {it : Addr} {x step : Int} {n : Nat}
end
end PySem
namespace L2
open PySem PySem.Spec PyProof.Rows
section
variable {X : Cx} {e : Expr} {te : St → Hp → (Int → Int → Hp → Prop) → Prop}
end
end L2
namespace PD
open PySem PySem.Spec PyProof.Rows L2
section
variable {X : Cx} {W : WX} {a : Expr} {p pos p2 pos2 p3 pos3 : Pos} {g : DE}
end
end PD
namespace PD
open PySem PySem.Spec PyProof.Rows L2
def dPar3O (i j l : Nat) (ga gb : DE) (gc : DO) (de : DEnds) (st : LS) : Prop := ga de.ex st fun x st1 => gb de.ex st1 fun y st2 => gc de.ex st2 fun r st3 => de.nx (((st3.set l r).set j (.fz y)).set i (.fz x))
section
variable {X : Cx} {W : WX} {a b c : Expr} {pos : Pos}
end
end PD
namespace PD
open PySem PySem.Spec PyProof.Rows L2
section
variable {X : Cx} {W : WX} {a b c tg : Expr} {ha : DA} {pos p : Pos}
end
end PD
namespace PD
open PySem PySem.Spec PyProof.Rows L2
section
variable {X : Cx} {W : WX} {a b : Expr} {pos : Pos}
end
end PD
namespace PD
open PySem PySem.Spec PyProof.Rows L2
def dPre (vs : List Nat) (g : DS) (de : DEnds) (st : LS) : Prop := g de (stW st vs)
section
variable {X : Cx} {W : WX} {s : Stmt} {g : DS}
end
end PD
namespace PD
open PySem PySem.Spec PyProof.Rows L2
section
variable {X : Cx}
end
end PD
namespace PD
open PySem PySem.Spec PyProof.Rows L2
def atOn (s : Option S) (Q : Addr → Nat → D → Addr → Prop) : Prop := match s with
  | some (.on a j d p) => Q a j d p
  | _ => False
theorem r_atOn {a p : Addr} {j : Nat} {d : D} {K : Addr → Nat → D → Addr → Prop} : atOn (some (.on a j d p)) K = K a j d p := rfl
theorem r_hn {a p : Addr} {j : Nat} {d : D} : hideS (.on a j d p) = .un := rfl
def elN (d : D) (j : Nat) : Option D := match d with
  | .nd .lst ds => ds[j]?
  | _ => none
def putN (d : D) (j : Nat) (y : D) : D := match d with
  | .nd .lst ds => .nd .lst (ds.set j y)
  | d => d
def qOnIx (j k : Nat) (d : D) : Option D := if k = j ∨ ¬ j < 1000 then none else elN d k
def qOnGet (j : Nat) (d k : D) : Option D := (elN d j).bind fun e => qIxD e k
def qOnSet (j : Nat) (d k v : D) : Option D := (elN d j).bind fun e => match e with
  | .nd (.dic ks) ds => if ds.length < 16777216 then (keyOf k).map fun k => putN d j (dicD (putG (ks.zip ds) k v)) else none
  | _ => none
def qOnLs (j : Nat) (d : D) : Option D := (elN d j).bind fun e => qListD [e]
def dOnIx (i k : Nat) (_u : DX) (st : LS) (Q : D → LS → Prop) : Prop := atOn st[i]? fun _ j d _ => wpO (qOnIx j k d) fun y => Q y st
def dOnGet (i j : Nat) (gc : DE) (Ex : DX) (st : LS) (Q : D → LS → Prop) : Prop := atOn st[i]? fun _ j1 _ p1 => j1 = j ∧ gc Ex st fun k st1 => atOn st1[i]? fun _ j2 d p2 => p2 = p1 ∧ j2 = j ∧ wpO (qOnGet j d k) fun y => Q y st1
def dOnLs (i j : Nat) (_u : DX) (st : LS) (Q : S → LS → Prop) : Prop := atOn st[i]? fun _ j1 d _ => j1 = j ∧ wpO (qOnLs j d) fun y => ∀ p, Q (.ow p true y) st
def dOnSet (i j : Nat) (ge gc : DE) (de : DEnds) (st : LS) : Prop := ge de.ex st fun v st1 => atOn st1[i]? fun _ j1 _ p1 => j1 = j ∧ gc de.ex st1 fun k st2 => atOn st2[i]? fun a j2 d p2 => p2 = p1 ∧ j2 = j ∧ wpO (qOnSet j d k v) fun d' => de.nx (st2.set i (.on a j d' p2))
def qIsDc : D → Option Unit
  | .nd (.dic _) _ => some ()
  | _ => none
def dOnL1 (i : Nat) (g0 g2 : DE) (Ex : DX) (st : LS) (Q : S → LS → Prop) : Prop := g0 Ex st fun d0 st1 => atNw st1[i]? fun _ _ => g2 Ex st1 fun d2 st2 => atNw st2[i]? fun a d => wpO (qIsDc d) fun _ => ∀ p, Q (.on p 1 (.nd .lst [d0, d, d2]) a) (st2.set i .un)
def dOnL0 (i : Nat) (g1 g2 : DE) (Ex : DX) (st : LS) (Q : S → LS → Prop) : Prop := atNw st[i]? fun _ _ => g1 Ex st fun d1 st1 => g2 Ex st1 fun d2 st2 => atNw st2[i]? fun a d => wpO (qIsDc d) fun _ => ∀ p, Q (.on p 0 (.nd .lst [d, d1, d2]) a) (st2.set i .un)
def dClr (i : Nat) (_u : DX) (st : LS) (Q : S → LS → Prop) : Prop := atO st[i]? fun a l d => wpO (qIsDc d) fun _ => Q (.fz .non) (st.set i (.ow a l (.nd (.dic []) [])))
section
variable {X : Cx} {W : WX} {a b c e : Expr} {pos p p1 : Pos} {i j k : Nat}
theorem OnL.el {K : PySem.W.Frag} {mg : Str → Option Value} {H0 H : Hp} {a p : Addr} {j : Nat} {d : D} (h : OnL K mg H0 H a j d p) : ∃ vs ks es ws, H a = some (.lst vs) ∧ vs[j]? = some (.ref p) ∧ elN d j = some (.nd (.dic ks) es) ∧ ks.length = ws.length ∧ H p = some (.dK (ks.zip ws)) ∧ RepL K mg H0 es ws := by
  obtain ⟨h1, h2, h3, dl, vs, ks, es, ws, rfl, h4, h5, h6, h7, h8, h9, h10, h11⟩ := h
  exact ⟨vs, ks, es, ws, h4, h6, h7, h8, h9, h10⟩
end
end PD
namespace PD
open PySem PySem.Spec PyProof.Rows L2
def nOwn (k q : Nat) : Nat → LS → Bool
  | _, [] => true
  | n, s :: st => (match s with
    | .un => true
    | .fz _ => true
    | .xc _ _ => true
    | _ => (n == k || n == q)) && nOwn k q (n + 1) st
def dBorK (i q : Nat) (g : DE) (_u : DX) (st : LS) (Q : D → LS → Prop) : Prop := nOwn i q 0 st = true ∧ atO st[i]? fun _ _ d => g (fun _ _ => False) (st.set i (.fz d)) fun r st1 => noK (tgOf d) r = true ∧ atO st1[q]? fun p l x => noS (tgOf d) (.ow p true x) = true ∧ st1 = (st.set i (.fz d)).set q (.ow p l x) ∧ Q r (st.set q (.ow p l x))
section
variable {K : PySem.W.Frag} {mg : Str → Option Value} {C : Cfg} {H0 H : Hp} {σ : L2.St} {st : LS}
end
section
variable {X : Cx} {W : WX} {e : Expr} {i q : Nat}
end
end PD
namespace PD
open PySem PySem.Spec PyProof.Rows L2
abbrev K2 := List Key
def getT (kvs : List (K2 × D)) (k : K2) : Option D := (kvs.find? fun kv => decide (kv.1 = k)).map (·.2)
def putT (kvs : List (K2 × D)) (k : K2) (v : D) : List (K2 × D) := if (kvs.any fun kv => decide (kv.1 = k)) = true then kvs.map (fun kv => if kv.1 = k then (kv.1, v) else kv) else kvs ++ [(k, v)]
section
variable {K : PySem.W.Frag} {mg : Str → Option Value} {H : Hp} {k : K2}
theorem KTR.get : ∀ {kvs : List (K2 × D)} {ws : List (K2 × V)}, KTR K mg H kvs ws → ∀ d, getT kvs k = some d → ∃ v, valV ws k = some v ∧ Rep K mg H d v
  | [], [], _, d, h => by cases h
  | p :: r, q :: w, h, d, hd => by
    obtain ⟨h1, h2, h3⟩ := h
    by_cases e : p.1 = k
    · have e1 : getT (p :: r) k = some p.2 := by unfold getT; rw [List.find?_cons, decide_eq_true e]; rfl
      rw [e1] at hd
      cases hd
      exact ⟨q.2, valV_pos (by rw [← h1]; exact e), h2⟩
    · have e1 : getT (p :: r) k = getT r k := by unfold getT; rw [List.find?_cons, decide_eq_false e]
      rw [e1] at hd
      obtain ⟨v, a, b⟩ := h3.get d hd
      exact ⟨v, by rw [valV_neg (by rw [← h1]; exact e)]; exact a, b⟩
  | [], _ :: _, h, _, _ => h.elim
  | _ :: _, [], h, _, _ => h.elim
theorem KTR.any : ∀ {kvs : List (K2 × D)} {ws : List (K2 × V)}, KTR K mg H kvs ws → (kvs.any fun kv => decide (kv.1 = k)) = ws.any fun kv => decide (kv.1 = k)
  | [], [], _ => rfl
  | p :: r, q :: w, h => by rw [List.any_cons, List.any_cons, h.1, h.2.2.any]
  | [], _ :: _, h => h.elim
  | _ :: _, [], h => h.elim
theorem KTR.length : ∀ {kvs : List (K2 × D)} {ws : List (K2 × V)}, KTR K mg H kvs ws → kvs.length = ws.length
  | [], [], _ => rfl
  | p :: r, q :: w, h => by rw [List.length_cons, List.length_cons, h.2.2.length]
  | [], _ :: _, h => h.elim
  | _ :: _, [], h => h.elim
theorem KTR.snoc {d : D} {v : V} (r : Rep K mg H d v) : ∀ {kvs : List (K2 × D)} {ws : List (K2 × V)}, KTR K mg H kvs ws → KTR K mg H (kvs ++ [(k, d)]) (ws ++ [(k, v)])
  | [], [], _ => ⟨rfl, r, trivial⟩
  | p :: t, q :: w, h => ⟨h.1, h.2.1, h.2.2.snoc r⟩
  | [], _ :: _, h => h.elim
  | _ :: _, [], h => h.elim
theorem KTR.repl {d : D} {v : V} (r : Rep K mg H d v) : ∀ {kvs : List (K2 × D)} {ws : List (K2 × V)}, KTR K mg H kvs ws → KTR K mg H (kvs.map fun kv => if kv.1 = k then (kv.1, d) else kv) (ws.map fun kv => if kv.1 = k then (kv.1, v) else kv)
  | [], [], _ => trivial
  | p :: t, q :: w, h => by
    obtain ⟨h1, h2, h3⟩ := h
    rw [List.map_cons, List.map_cons]
    by_cases e : p.1 = k
    · rw [if_pos e, if_pos (by rw [← h1]; exact e)]
      exact ⟨h1, r, h3.repl r⟩
    · rw [if_neg e, if_neg (by rw [← h1]; exact e)]
      exact ⟨h1, h2, h3.repl r⟩
  | [], _ :: _, h => h.elim
  | _ :: _, [], h => h.elim
theorem KTR.put {d : D} {v : V} (r : Rep K mg H d v) {kvs : List (K2 × D)} {ws : List (K2 × V)} (h : KTR K mg H kvs ws) : KTR K mg H (putT kvs k d) (putK ws k v) := by
  unfold putT putK
  rw [h.any]
  split
  · exact h.repl r
  · exact h.snoc r
end
def keysO : List D → Option K2
  | [] => some []
  | d :: ds => (keyOf d).bind fun k => (keysO ds).map fun ks => k :: ks
def rowsO : List D → Option (List (K2 × D))
  | [] => some []
  | .nd .tup [.nd .tup ks, v] :: r => (keysO ks).bind fun k => (rowsO r).map fun l => (k, v) :: l
  | _ :: _ => none
def decT : D → Option (List (K2 × D))
  | .nd .lst rows => rowsO rows
  | _ => none
def qTbGet (d x y : D) : Option D := (decT d).bind fun kvs => (keyOf x).bind fun a => (keyOf y).bind fun b => getT kvs [a, b]
def qTbSet (d x y v : D) : Option D := (decT d).bind fun kvs => (keyOf x).bind fun a => (keyOf y).bind fun b => if kvs.length < 16777216 then some (encT (putT kvs [a, b] v)) else none
def atTb (s : Option S) (Q : Addr → D → Prop) : Prop := atOn s fun a j d _ => j = 1000 ∧ Q a d
def dTbNew (_u : DX) (st : LS) (Q : S → LS → Prop) : Prop := ∀ a, Q (.on a 1000 (.nd .lst []) a) st
def dTbGet (i : Nat) (g1 g2 : DE) (Ex : DX) (st : LS) (Q : D → LS → Prop) : Prop := atTb st[i]? fun _ _ => g1 Ex st fun x st1 => g2 Ex st1 fun y st2 => atTb st2[i]? fun _ d => wpO (qTbGet d x y) fun z => Q z st2
def dTbSet (i : Nat) (ge g1 g2 : DE) (de : DEnds) (st : LS) : Prop := ge de.ex st fun v st0 => atTb st0[i]? fun _ _ => g1 de.ex st0 fun x st1 => g2 de.ex st1 fun y st2 => atTb st2[i]? fun a d => wpO (qTbSet d x y v) fun d' => de.nx (st2.set i (.on a 1000 d' a))
section
variable {X : Cx} {W : WX} {a e e1 e2 : Expr} {pos p pp : Pos} {i : Nat}
theorem OnR.t {K : PySem.W.Frag} {mg : Str → Option Value} {H0 H : Hp} {a p : Addr} {d : D} (h : OnR K mg H0 H a 1000 d p) : p = a ∧ H0 a = none ∧ ∃ kvs ws, d = encT kvs ∧ H a = some (.dT ws) ∧ KTR K mg H0 kvs ws := by
  rcases h with ⟨h, _⟩ | ⟨_, h⟩ | ⟨h, _⟩
  · omega
  · exact h
  · omega
end
end PD
namespace PD
open PySem PySem.Spec PyProof.Rows L2
def dOnLsV (i j : Nat) (_u : DX) (st : LS) (Q : D → LS → Prop) : Prop := atOn st[i]? fun _ j1 d _ => j1 = j ∧ wpO (qOnLs j d) fun y => Q y st
section
variable {X : Cx} {W : WX} {a b : Expr} {pos p1 : Pos} {i j : Nat}
end
end PD
namespace PD
open PySem PySem.Spec PyProof.Rows L2
def atOw (r : S) (Q : Addr → D → Prop) : Prop := match r with
  | .ow a _ d => Q a d
  | _ => False
theorem r_atOw {a : Addr} {l : Bool} {d : D} {Q : Addr → D → Prop} : atOw (.ow a l d) Q = Q a d := rfl
def elT (d : D) (j : Nat) : Option D := match d with
  | .nd .tup ds => ds[j]?
  | _ => none
def dOnTT (g0 g1 : DO) (Ex : DX) (st : LS) (Q : S → LS → Prop) : Prop := g0 Ex st fun r0 st1 => atOw r0 fun a0 d0 => g1 Ex st1 fun r1 st2 => atOw r1 fun a1 d1 => wpO (qIsDc d0) fun _ => wpO (qIsDc d1) fun _ => (∀ p, Q (.on p 2000 (.nd .tup [d0, d1]) a0) st2) ∨ (∀ p, Q (.on p 2001 (.nd .tup [d0, d1]) a1) st2)
section
variable {X : Cx} {W : WX} {e e0 e1 : Expr} {pos pp : Pos} {kx}
end
end PD
namespace PD
open PySem PySem.Spec PyProof.Rows L2
def dBorT2 (i j : Nat) (g : DT) (_u : DX) (st : LS) (Q : Bool → LS → Prop) : Prop := atO st[i]? fun _ _ d => wpO (qIsDc d) fun _ => atO st[j]? fun _ _ e => wpO (qIsDc e) fun _ => g (fun _ _ => False) ((hide j e st).set i (.fz d)) fun b _ => Q b st
section
variable {K : PySem.W.Frag} {mg : Str → Option Value} {C : Cfg} {H0 H : Hp} {σ : L2.St} {st : LS}
end
section
variable {X : Cx} {W : WX} {e : Expr} {i j : Nat}
end
def tkT (j : Nat) (Q : S → Prop) (r : S) : Prop := atOn (some r) fun _ k d p => k = 2000 + j ∧ wpO (elT d j) fun y => Q (.ow p true y)
def dOnTake (j : Nat) (g : DO) (Ex : DX) (st : LS) (Q : S → LS → Prop) : Prop := g Ex st fun r st1 => tkT j (fun z => Q z st1) r
end PD
namespace PD
open PySem PySem.Spec PyProof.Rows L2
section
variable {X : Cx} {pins : List (Addr × Obj)} {σ : L2.St} {H0 H : Hp} {s : Shared}
end
end PD
namespace PD
open PySem PySem.Spec PyProof.Rows L2
section
variable {X : Cx} {e c : Expr} {te : TE} {tc : TT} {B rest : List Stmt} {tb tr : TS} {j : Nat} {x : Str} {pos pos' posI : Pos}
end
section
variable {K : PySem.W.Frag} {mg : Str → Option Value} {H0 H H' H0' : Hp} {C : Cfg} {σ : L2.St} {st : LS}
end
section
variable {X : Cx} {W : WX} {e c : Expr} {B rest : List Stmt} {i j : Nat} {x : Str} {pos pos' posI : Pos} {ge : DE} {gt : DT} {gb gr : DS}
end
end PD
namespace PD
open PySem PySem.Spec PyProof.Rows L2
structure EnS (x : Str) (t : Tok) (e it : Addr) (i : Nat) (h : Heap) : Prop where
  en : ∃ old, IsEnum h e it ((i : Nat) : Int) old
  wk : h.IsStrIter it (strIterType x) x t i
  d1 : e ≠ it
section
variable {x : Str} {t : Tok} {e it : Addr} {i : Nat} {h g : Heap}
theorem EnS.there (z : EnS x t e it i h) : ∀ b ∈ [e, it], ∃ o, h.get? b = some o ∧ ∀ v, o.data ≠ .cell v := by
  obtain ⟨⟨_, z1⟩, ⟨o, z2, _, z3⟩, _⟩ := z
  intro b m
  rcases List.mem_cons.mp m with rfl | m
  · exact ⟨_, z1, by intro _ q; cases q⟩
  · cases List.mem_singleton.mp m
    exact ⟨o, z2, by intro _ q; cases z3.symm.trans q⟩
theorem EnS.below (z : EnS x t e it i h) : ∀ b ∈ [e, it], b < h.objs.size := fun b m => (z.there b m).elim fun _ q => Heap.lt_size q.1
theorem EnS.keeps (z : EnS x t e it i h) (k : ∀ b ∈ [e, it], ∀ o, h.get? b = some o → g.get? b = some o) : EnS x t e it i g := by
  obtain ⟨o, z2, z3, z4⟩ := z.wk
  exact ⟨z.en.imp fun _ q => k e (.head _) _ q, ⟨o, k it (.tail _ (.head _)) o z2, z3, z4⟩, z.d1⟩
end
section
variable {X : Cx} {W : WX} {e : Expr} {ta : TA} {ha : DA} {p pos tpos : Pos} {elts : List Expr} {kk : Nat}
end
section
variable {X : Cx}
noncomputable def qMulSC : Q2 := fun x y => Classical.choose (⟨qMulS x y, rfl⟩ : ∃ z, z = qMulS x y)
end
end PD
namespace PD
open PySem PySem.Spec PyProof.Rows L2
section
variable (K : PySem.W.Frag) (mg : Str → Option Value)
def OwM (H0 H : Hp) (a : Addr) (d : D) : Prop := H0 a = none ∧ ∃ t ds vs, d = .nd t ds ∧ NodeM mg H t a vs ∧ RepL K mg H0 ds vs
end
section
variable {K : PySem.W.Frag} {mg : Str → Option Value} {C : Cfg} {H0 H H0' H' : Hp} {σ : L2.St} {st : LS}
theorem OwM.some {a : Addr} {d : D} (h : OwM K mg H0 H a d) : ∃ o, H a = some o := by
  obtain ⟨_, t, ds, vs, rfl, h, _⟩ := h
  exact h.some
theorem OnR.ends {a p : Addr} {d : D} (h : OnR K mg H0 H a 0 d p) : a ≠ p ∧ (H0 a = none ∧ ∃ o, H a = some o) ∧ (H0 p = none ∧ ∃ o, H p = some o) := by
  obtain ⟨h1, h2, h3, ds, vs, ks, es, ws, rfl, h4, h5, h6, h7, h8, h9, _⟩ := h.l (by decide)
  exact ⟨h1, ⟨h2, _, h4⟩, h3, _, h9⟩
end
section
variable {X : Cx} {W : WX} {e0 e1 e2 e3 : Expr} {pos p : Pos} {k : Nat} {f : Addr} {fd : FuncData} {ps : List Str} {x : Str} {i0 ig im ip : Nat}
end
section
variable {P : Program} {w : World} {K : PySem.W.Frag} {mg : Str → Option Value} {base : Heap}
end
section
variable {K : PySem.W.Frag} {mg : Str → Option Value} {C : Cfg} {H0 H : Hp} {σ : L2.St} {st : LS} {k q : Nat} {a p : Addr} {dl es : List D} {vs ws : List V} {ks : List Key}
end
section
variable {X : Cx} {W : WX} {e : Expr} {i q : Nat}
end
section
variable {X : Cx} {W : WX} {e : Expr} {es : List Expr} {pos p : Pos} {k : Nat} {f : Addr} {fd : FuncData} {ps : List Str} {x : Str} {sp : Sp} {E : L2.St → XK} {t : TA}
end
section
variable {K : PySem.W.Frag} {mg : Str → Option Value} {C : Cfg} {H0 H : Hp} {σ : L2.St} {st : LS}
end
section
variable {X : Cx} {W : WX} {e1 e2 e3 : Expr} {pos p : Pos} {k : Nat} {f : Addr} {fd : FuncData} {ps : List Str} {x : Str} {i : Nat}
end
end PD
namespace PD
open PySem PySem.Spec PyProof.Rows L2
section
variable {prog : Program} {w : World} {B : Around} {E : Value → Shared → Prop} {u : Shared} {ty : String} {src dct : Addr} {m : Nat} {Pk : Nat → Value → Prop} {There : Heap → Prop}
end
end PD
namespace PD
open PySem PySem.Spec PyProof.Rows L2
section
variable {X : Cx} {W : WX} {e : Expr} {g : DE} {i : Nat} {x : Str} {pos pos' : Pos}
end
section
variable {X : Cx} {k : Nat} {f C : Addr} {fd : FuncData} {ps : List Str} {sp : Sp} {E : L2.St → XK} {a b : Expr} {ta tb : TE} {pos : Pos}
end
section
variable {X : Cx} {W : WX} {c : Str} {Ca fa : Addr} {k : Nat} {fd : FuncData} {ps : List Str} {a b : Expr} {ga gb : DE} {pos : Pos} {φ : SpA}
end
section
variable {X : Cx} {k : Nat} {f C : Addr} {fd : FuncData} {ps : List Str} {sp : Sp} {E : L2.St → XK} {a b : Expr} {ta tb : TE} {pos : Pos}
end
section
variable {X : Cx} {W : WX} {c : Str} {Ca fa : Addr} {k : Nat} {fd : FuncData} {ps : List Str} {a b : Expr} {ga gb : DE} {pos : Pos}
end
section
variable {X : Cx}
end
section
variable {X : Cx} {W : WX} {o b : Expr} {i k : Nat} {p2 pos apos cpos : Pos}
end
end PD
namespace PD
open PySem PySem.Spec PyProof.Rows L2
section
variable {X : Cx}
end
end PD
namespace PD
open PySem PySem.Spec PySem.W PySem.Calls PyProof.Rows PySem.HandSPX L2
section
variable {prog : Program} {w : World} {A : Around} {h : Heap} {g : Array GenState} {dr : Drawn} {t : Nat} {os : OsState}
variable {nm q : Str} {C N : Addr} {bs bm bm' sub : List Value} {hdct ab : Bool} {sn : List Str} {col : Option Bool} {dd : Option Addr} {m0 m1 m2 m3 m5 : Option Value} {B newId initId : String} {more : List Value} {kws : List (Str × Value)}
theorem new_ownK {R : Result → Shared → Prop} (F : ExcBaseFacts B newId initId bm') (K : Asked C bm B) (hC : h.get? C = some (excClassObj nm q C N bs bm hdct sn sub ab col dd m0 m1 m2 m3 m5 newId)) (small : more.length ≤ sizeLine)
    (go : R (.ok (.ret (.ref (h.objs.size + 1)))) ⟨madeH h C more, g, dr, t, os⟩) : codeAny (model prog w) A (.builtin newId ⟨.ref C :: more, kws⟩) R ⟨h, g, dr, t, os⟩ := by
  obtain ⟨isB, noA, noN⟩ := K
  have ends := F.ends
  apply codeAny_builtinAt F.entry
  unfold Builtin.«BaseException.__new__»
  apply PySem.wpAt_bind
  show PySem.wpAt _ _ _ (stack >>= fun _ => _) _ _ _
  apply PySem.wpAt_bind
  apply PySem.wpAt_stack
  intro _ _
  apply PySem.wpAt_of_wpAny
  wp_walk
  apply PySem.wpAt_of_wpAny
  rw [F.owner]
  repeat first
    | with_reducible refine wpAny_loadPart_at hC ?_
    | with_reducible refine wpAny_madeHere_exc F.canon hC ?_
    | (with_reducible refine wpAny_isSubtype_exc hC ?_; first | rw [isB] | rw [noN] | rw [noA])
    | wp_step
  show R (.ok (.ret (.ref (h.push _).objs.size))) _
  rw [Heap.size_push]
  exact go
theorem call_ownK {R : Result → Shared → Prop} {fI : Addr} (F : ExcBaseFacts B newId initId bm') (K : Asked C bm B) (hC : h.get? C = some (excClassObj nm q C N bs bm hdct sn sub ab col dd m0 m1 m2 m3 m5 newId))
    (own : W.Looks (model prog w) h (typeLookup (.ref C) "__init__") (some (.ref fI))) (bound : ∀ x, W.Looks (model prog w) h (bindSpecial (.ref fI) x) (.ref fI, [x])) (small : more.length ≤ sizeLine)
    (go : codeAny (model prog w) (A.under (.builtin "type.__call__" ⟨.ref C :: more, kws⟩)) (.call (.ref fI) ⟨.ref (h.objs.size + 1) :: more, kws⟩) (W.InitBack (h.objs.size + 1) R) ⟨madeH h C more, g, dr, t, os⟩) :
    codeAny (model prog w) A (.call (.ref C) ⟨more, kws⟩) R ⟨h, g, dr, t, os⟩ := by
  have kp : ∀ b o, h.get? b = some o → (madeH h C more).get? b = some o := fun _ _ z => Heap.get?_push_of_some _ (Heap.get?_push_of_some _ z)
  have there : (madeH h C more).get? (h.objs.size + 1) = some (excO C h.objs.size) := by heap_get
  have isB := K.isB
  have star := F.noStar
  have isC : (Value.ref C :: bm).contains (.ref C) = true := by simp
  have t1 := tc_lookup
  have t2 := tc_bind (.ref C)
  have isType : Shared.TypeIs ⟨h, g, dr, t, os⟩ (.ref C) "type" := ⟨_, hC, rfl⟩
  apply codeAny_of_tree
  show wpAny _ _ (callAny (.ref C) ⟨more, kws⟩) _ _ _
  repeat any_goals first
    | assumption
    | with_reducible refine wpAny_loadPart_at hC ?_
    | wp_step
  refine ⟨rfl, codeAny_call_builtin_at (Code.quiet_builtin _ (by decide +kernel)) entry_typeCall (wpAny_check_type_call_sub hC ?_)⟩
  -- type.__call__
  repeat first
    | with_reducible refine wpAny_madeBy_exc hC ?_
    | with_reducible refine wpAny_loadPart_at hC ?_
    | wp_step
  apply codeAny_call_builtin_code (Code.quiet_builtin _ F.quiet)
  · -- the check of __new__
    simp only [checkBuiltinCall, F.newSplit, F.newRow, F.newKind]
    repeat first
      | refine wpAny_madeBy_exc hC ?_
      | refine wpAny_staticBase_exc hC ?_
      | refine wpAny_loadPart_at hC ?_
      | (refine wpAny_isSubtype_exc hC ?_; rw [isB])
      | simp only [bne_self_eq_false, if_false, Bool.false_eq_true]
      | wp_step
    -- the new object is of the class: its __init__
    refine new_ownK F K hC small ?_
    show wpAny _ _ _ _ _ _
    have hC2 := kp _ _ hC
    unfold isInstance
    repeat first
      | with_reducible refine wpAny_loadPart_at there ?_
      | (refine wpAny_isSubtype_exc hC2 ?_; rw [isC])
      | wp_step
    show wpAny _ _ (typeLookup (.ref C) "__init__") _ _ _
    refine (own.keeps kp).at (wpAny_holding (wpAny_bind (((bound _).keeps kp).at ?_)))
    apply wpAny_bind
    apply wpAny_call
    refine codeAny_mono go ?_
    rintro (_ | v | _ | _ | _) u' z
    all_goals first
      | exact z
      | exact z.elim
      | (obtain ⟨rfl, z⟩ := z
         first
           | exact wpAny_pure (wpAny_pure z)
           | (wp_walk; exact z))
end
structure FldKw (f : Str) : Prop where
  bind : ∀ (s : Shared) (qu : Str) (p1 p2 : Pos) (body : List Stmt) (doc pm : Value) (an : Option Addr) (cdv ct : Value) (cc : Addr) (a v : Value),
    BindsTo s (ksFn "__init__" qu (erA f p1 p2) body (erS f) .none .none doc pm an cdv ct cc) ⟨[a], [(f, v)]⟩ [("self", a), (f, v)]
theorem fldk_value : FldKw "value" := ⟨fun _ _ _ _ _ _ _ _ _ _ _ _ _ => .of_eq rfl⟩
theorem fldk_part : FldKw "part" := ⟨fun _ _ _ _ _ _ _ _ _ _ _ _ _ => .of_eq rfl⟩
theorem fldk_name : FldKw "name" := ⟨fun _ _ _ _ _ _ _ _ _ _ _ _ _ => .of_eq rfl⟩
theorem fldk_word : FldKw "word" := ⟨fun _ _ _ _ _ _ _ _ _ _ _ _ _ => .of_eq rfl⟩
theorem fldk_text : FldKw "text" := ⟨fun _ _ _ _ _ _ _ _ _ _ _ _ _ => .of_eq rfl⟩
theorem fldk_hook : FldKw "hook" := ⟨fun _ _ _ _ _ _ _ _ _ _ _ _ _ => .of_eq rfl⟩
theorem fldk_count : FldKw "count" := ⟨fun _ _ _ _ _ _ _ _ _ _ _ _ _ => .of_eq rfl⟩
section
variable {prog : Program} {w : World} {A : Around} {E : Value → Shared → Prop} {R : Result → Shared → Prop} {s : Shared} {K : PySem.W.Frag} {mg : Str → Option Value} {x f : Str} {C fI cc cda : Addr}
theorem err_initK (T : ErrTxt prog K mg x f C fI cc cda) (F : FldOk f) (FK : FldKw f) {a t0 : Addr} {v : Value} (X : K.In s.heap) (hlim : s.heap.NoLimit) (hG : s.heap.Ns mainGlobals mg)
    (hB : ∃ mb, s.heap.Ns builtinsNs mb ∧ ∀ x : Str, x ≠ "__name__" → mb x = bootBuiltins x) (hx : s.heap.get? a = some (excO C t0)) (hnx : K.lookup a = none) (hroom : A.depth < recursionLimit)
    (hq : ∀ h' tk dx t1, ErrEnd s.heap h' a C dx t1 f v → R (.ok (.ret .none)) { s with heap := h', toks := tk }) :
    codeAny (model prog w) A (.call (.ref fI) ⟨[.ref a], [(f, v)]⟩) R s := by
  obtain ⟨qu, m, j, oc, od, doc, pm, an, ct, osl, p1, p2, q0, q1, q2, q3, q4, q5, q6, q7, q8, q9, ho, hcd, hline⟩ := T.fn
  obtain ⟨bb, nm, q, N, bs, bm, sn, sub, ab, col, dd, k0, k1, k2, k3, k5, hC, hbm, hsu0, hsB⟩ := T.cls
  obtain ⟨ccl, cdd, vs, ccs, file, tf, hcode, hvs, hfile⟩ := T.code
  obtain ⟨cl, cld, csl, hcell⟩ := T.cell
  obtain ⟨mb, hB1, hB2⟩ := hB
  have hcl : clsIn K C = some { name := nm, bases := bs, mro := .ref C :: bm, ns := N, qualname := q, hasDict := true, slotNames := sn, subclasses := sub, abstract := ab, collection := col, hasDel := false } := by unfold clsIn; rw [hC] <;> rfl
  have hsup : alongIn K "__init__" ((((Value.ref C :: bm).dropWhile (· != .ref C)).drop 1)) = some (some (.builtin bb.initId)) := by
    have z := hsu0
    unfold ks_superIn at z
    rw [hcl] at z
    exact z
  refine ks_codeAny_call_defAt (fd := ksFn "__init__" qu (erA f p1 p2) (erB f m j q0 q1 q2 q3 q4 q5 q6 q7 q8 q9) (erS f) .none .none doc pm an (.ref cda) ct cc) (body := erB f m j q0 q1 q2 q3 q4 q5 q6 q7 q8 q9) (binds := [("self", .ref a), (f, v)])
    hroom (X _ _ ho) rfl hlim (codeRec_of X hcd) rfl (FK.bind _ _ _ _ _ _ _ _ _ _ _ _ _) F.cells ?_ (fun h₁ hns k => ?_)
  · intro y hy
    simp only [List.mem_cons, List.not_mem_nil, or_false] at hy
    rcases hy with rfl | rfl
    · rfl
    · exact F.loc
  have X₁ : K.In h₁ := X.keeps k
  have hx₁ := k _ _ hx
  have hmS : (fun y => List.lookup y ([(("self" : Str), Value.ref a), (f, v)].reverse)) "self" = some (.ref a) := by
    have e : (("self" : Str) == f) = false := by
      have := F.ns
      simpa using fun z => this z.symm
    simp [List.lookup, e]
  have hmF : (fun y => List.lookup y ([(("self" : Str), Value.ref a), (f, v)].reverse)) f = some v := by
    simp [List.lookup]
  obtain ⟨hp, g, d, t, os⟩ := s
  dsimp only at X hlim hG hB1 hx hq hns k X₁ hx₁ ⊢
  -- super().__init__(m)
  show _root_.PySem.wpAt (model prog w) (A.deeper (ksEnv qu (erS f) hp.objs.size fI (.ref cda) cc)) (.func (erB f m j q0 q1 q2 q3 q4 q5 q6 q7 q8 q9) (ksEnv qu (erS f) hp.objs.size fI (.ref cda) cc)) (execs (erB f m j q0 q1 q2 q3 q4 q5 q6 q7 q8 q9) (ksEnv qu (erS f) hp.objs.size fI (.ref cda) cc)) _ _ _
  unfold erB
  have hpos : methodCallPos true (.Call (.Name "super" q0) [] [] q1) (ksEnv qu (erS f) hp.objs.size fI (.ref cda) cc) q2 q4 = pure q4 := by unfold methodCallPos; simp [hline]
  refine ks_wpAt_execs_cons (ks_wpAt_Expr_any (ks_wpAt_MethodCall (pl := do return (← importBound (.Call (.Name "super" q0) [] [] q1) (ksEnv qu (erS f) hp.objs.size fI (.ref cda) cc)).getD true) ?_ (sup_eval hpos)) rfl (F.sw1 _ _ _ _ _ _ _ _ _ _ _ _ _))
  refine ks_wpAt_super_base (ar := { arg := "self", annotation := none, pos := p1 }) (of := ⟨oc, od, _, osl⟩) (oc := ⟨ccl, cdd, .fields vs, ccs⟩) F.sup F.cls (by decide) rfl (X₁ _ _ ho) rfl rfl rfl (X₁ _ _ hcode) rfl hvs hfile T.top ?_
  refine ks_loadName_global rfl F.sup (loadGlobal_builtin (hG.keeps k) T.noSup (hB1.keeps k) ((hB2 _ (by decide)).trans (by first | rfl | kernel_rfl)) ⟨rfl, ?_⟩)
  refine wpAny_loadName_free rfl F.cls rfl ⟨_, X₁ _ _ hcell, rfl⟩ ?_
  refine wpAny_loadName_local rfl (by rfl) hns hmS ?_
  refine ks_wpAny_isType_cls (X₁ _ _ hC) rfl ⟨rfl, ?_⟩
  refine ks_wpAny_call_super (X₁ _ _ hC) rfl hx₁ rfl (fun c z => by cases z) (looks_mroIn X₁ T.mroC) (fun h₂ hso k₂ => ?_)
  have X₂ := X₁.keeps k₂
  have hx₂ := k₂ _ _ hx₁
  have aC : a ≠ C := fun z => by
    subst z
    rw [hnx] at hC
    cases hC
  have hI : Looks (model prog w) h₂ (isInstance (.ref a) (.type bb.nm)) true := Looks.andThen (InstAt.type (C := C) (ox := excO C t0) (od := none) ⟨hx₂, rfl, rfl, trivial⟩) (looks_subIn X₂ hsB)
  refine kxs_getMethod (base_kx bb) hso (looks_opaque X₂ T.any) (l₀ := .ref C :: bm) (fun A Q E s k q => wpAny_bind ((looks_clsIn X₂ hcl) A _ E s k (wpAny_pure q))) rfl X₂ hsup hI aC (by decide) ?_
  refine kxs_callWith (i := bb.initId) (x := a) rfl (evalArgs_plain ?_)
  refine spliced_more (wpAny_Constant_str ?_)
  refine spliced_none ⟨Heap.get?_push_at rfl rfl, ?_⟩
  have k₃ : ∀ b o, h₂.get? b = some o → (h₂.push (kxs_mw bb.initId a)).get? b = some o := fun b o e => Heap.get?_push_of_some _ e
  refine call_mw (base_init bb) (X₂.keeps k₃ _ _ hC) (k₃ _ _ hx₂) (Heap.get?_push_at rfl rfl) (by show 1 ≤ sizeLine; rw [sizeLine_eq]; decide) (fun h₄ t1 k₄ hx₄ => ?_)
  -- self.f = f
  have k₅ : ∀ b o, b ≠ a → hp.get? b = some o → h₄.get? b = some o := fun b o n e => k₄ b o n (k₃ _ _ (k₂ _ _ (k _ _ e)))
  have X₄ : K.In h₄ := fun b o e => k₅ b o (fun z => by rw [z, hnx] at e; cases e) (X _ _ e)
  have hns₄ : h₄.Ns hp.objs.size (fun y => List.lookup y ([(("self" : Str), Value.ref a), (f, v)].reverse)) := hns.at fun o q => k₄ _ _ (fun z => by
    have e := Heap.lt_size hx
    rw [← z] at e
    exact absurd e (Nat.lt_irrefl _)) (k₃ _ _ (k₂ _ _ q))
  refine ks_wpAt_execs_cons (wpAt_of_wpAny (plainObj_wpAny_Assign_Attribute ?_ (F.sw2 _ _ _ _ _ _ _ _ _)))
  refine wpAny_Name (wpAny_loadName_local rfl F.loc hns₄ hmF ?_) F.nd
  refine wpAny_Name (wpAny_loadName_local rfl (by rfl) hns₄ hmS ?_) (by decide)
  refine set_plain X₄ (ox := excO C t1) (od := none) ⟨hx₄, rfl, rfl, trivial⟩ T.sa ?_
  refine exc_osaB (b := bb) X₄ hx₄ hcl (show refsB bb (.ref C :: bm) = true from hbm) rfl T.noN (fun h₅ tk₅ dx k₆ dn dne hx₅ hn₅ => ?_)
  refine wpAt_of_wpAny (wpAny_execs_nil (hq h₅ tk₅ dx t1 ⟨fun b o hb e => k₆ b o hb (k₅ b o hb e), hx₅, Nat.le_of_lt (Nat.lt_of_lt_of_le hns₄.lt dn), dne, hn₅⟩))
theorem err_madeK (T : ErrTxt prog K mg x f C fI cc cda) (F : FldOk f) (FK : FldKw f) {v : Value} (X : K.In s.heap) (hlim : s.heap.NoLimit) (hG : s.heap.Ns mainGlobals mg)
    (hB : ∃ mb, s.heap.Ns builtinsNs mb ∧ ∀ x : Str, x ≠ "__name__" → mb x = bootBuiltins x) (hroom : A.depth + 1 < recursionLimit)
    (hq : ∀ h' tk e d, ErrMade s.heap h' e C d f v → R (.ok (.ret (.ref e))) { s with heap := h', toks := tk }) :
    codeAny (model prog w) A (.call (.ref C) ⟨[], [(f, v)]⟩) R s := by
  obtain ⟨bb, nm, q, N, bs, bm, sn, sub, ab, col, dd, k0, k1, k2, k3, k5, hC, hbm, hsu0, hsB⟩ := T.cls
  obtain ⟨mb, hB1, hB2⟩ := hB
  rcases s with ⟨hp, g, dr, tk, os⟩
  have k : ∀ b o, hp.get? b = some o → ((hp.push (kdv_tup [])).push (excO C hp.objs.size)).get? b = some o := fun b o e => Heap.get?_push_of_some _ (Heap.get?_push_of_some _ e)
  have hget : ((hp.push (kdv_tup [])).push (excO C hp.objs.size)).get? (hp.objs.size + 1) = some (excO C hp.objs.size) := by heap_get
  have hnx : K.lookup (hp.objs.size + 1) = none := by
    rcases e : K.lookup (hp.objs.size + 1) with _ | o
    · rfl
    · exact absurd (Nat.lt_of_succ_lt (Heap.lt_size (show hp.get? (hp.objs.size + 1) = some o from X _ _ e))) (Nat.lt_irrefl _)
  refine call_ownK (base_exc bb) (.of hbm) (X _ _ hC) (looks_findIn X T.iC) (fun self => bind_fn X self T.tC) (by show 0 ≤ sizeLine; exact Nat.zero_le _) ?_
  refine err_initK (s := ⟨(hp.push (kdv_tup [])).push (excO C hp.objs.size), g, dr, tk, os⟩) T F FK (X.keeps k) (hlim.keeps k) (hG.keeps k) ⟨mb, hB1.keeps k, hB2⟩ hget hnx hroom ?_
  rintro h' tk' dx t1 ⟨k', hx, dn, dne, hns⟩
  have old : ∀ b o, hp.get? b = some o → h'.get? b = some o := fun b o e => k' b o (Nat.ne_of_lt (Nat.lt_succ_of_lt (Heap.lt_size e))) (k b o e)
  have z : hp.objs.size + 1 + 1 ≤ dx := by
    first
      | (simpa only [Heap.size_push] using dn)
      | exact dn
      | (have q := dn; rw [Heap.size_push, Heap.size_push] at q; exact q)
  exact ⟨rfl, hq h' tk' (hp.objs.size + 1) dx ⟨old, Nat.le_succ _, ⟨_, _, hx, rfl, rfl, rfl, rfl⟩, (by show hp.objs.size ≤ dx; omega), dne, hns⟩⟩
end
theorem erO_ok {P : Program} {w : World} {H : Hp} {h : Heap} {e C : Addr} {d : Option Addr} {oe : Obj} {vs : Array Value} (a : h.get? e = some oe) (z : Zc (.ref C) d oe) (k : oe.data = .fields vs) : ObjOk P w H h e (erO e C d) :=
  ⟨⟨oe, vs, a, z, k⟩, ⟨oe, a⟩, fun _ _ ⟨o, v, q, r⟩ t => ⟨o, v, t o q, r⟩⟩
theorem erO_at {P : Program} {w : World} {H : Hp} {h : Heap} {e C : Addr} {d : Option Addr} (ok : HOk P w H h) (he : H e = some (erO e C d)) : ∃ (oe : Obj) (vs : Array Value), h.get? e = some oe ∧ Zc (.ref C) d oe ∧ oe.data = .fields vs := (ok e _ he).1
section
variable {X : Cx} {W : WX} {C fI cc cda : Addr} {x f : Str}
theorem err_back {pins : List (Addr × Obj)} {σ : L2.St} {H1 : Hp} {hp h' : Heap} {g : Array GenState} {dr : Drawn} {tk tk' : Nat} {os : OsState} {e d : Addr} {v : V} {v' : Value} {Q : VK} (rv : RelV v v') (I1 : Inv X pins σ H1 ⟨hp, g, dr, tk, os⟩) (M : ErrMade hp h' e C d f v')
    (q1 : ∀ e d, H1 e = none → H1 d = none → d ≠ e → Q (.ref e) (upd (upd H1 d (.xd [(f, v)])) e (erO e C (some d)))) : ∃ y H2, Inv X pins σ H2 ⟨h', g, dr, tk', os⟩ ∧ RelV y (.ref e) ∧ Q y H2 := by
    obtain ⟨oe, fv, hoe, hc, hd, hdat, _⟩ := M.obj
    have hns := M.ns
    obtain ⟨G', g1, g2⟩ := restrict h' fun b => decide (b ≠ e)
    have gk : ∀ b, b ≠ e → G'.get? b = h'.get? b := fun b hb => g1 b (decide_eq_true hb)
    have ge : G'.get? e = none := g2 e (by simp)
    have old : ∀ b o, hp.get? b = some o → G'.get? b = some o := fun b o q => (gk b (Nat.ne_of_lt (Nat.lt_of_lt_of_le (Heap.lt_size q) M.new))).trans (M.keep b o q)
    have ob : ObjOk X.prog X.w (upd H1 d (.xd [(f, v)])) G' d (.xd [(f, v)]) := ⟨_, hns.at (fun o q => (gk d M.dne).trans q), fun f => relO_one rv f⟩
    have J : Inv X pins σ (upd H1 d (.xd [(f, v)])) ⟨G', g, dr, tk', os⟩ := I1.laid (t' := tk') old M.dbig ob
    have he0 : H1 e = none := I1.hok.fresh M.new
    have hd0 : H1 d = none := I1.hok.fresh M.dbig
    have hn : (upd H1 d (.xd [(f, v)])) e = none := by rw [upd_ne (Ne.symm M.dne)]; exact he0
    have J2 := J.laidN (h' := h') (a := e) (o := erO e C (some d)) (t' := tk') (fun b o q => by
      by_cases hb : b = e
      · have q' : G'.get? b = some o := q
        rw [hb, ge] at q'; cases q'
      · exact (gk b hb).symm.trans q) ge hn (erO_ok hoe ⟨hc, hd⟩ hdat)
    exact ⟨.ref e, _, J2, rfl, q1 e d he0 hd0 M.dne⟩
theorem pe_err {a : Expr} {ta : TA} {p pos : Pos} {k : Nat} (T : ErrTxt X.prog X.K X.mg x f C fI cc cda) (F : FldOk f) (hr : Room (k + 1) X.A) (ha : PA X [a] ta) (hg : Gl X x) (hdb : (x == ("__debug__" : Str)) = false := by decide)
    (he : starEach (a :: []) X.env = (false, eval a X.env) :: starEach [] X.env := by rfl) (hpl : (backTo pos (starEach [] X.env)).any (·.1) = false := by rfl) :
    PE X (.Call (.Name x p) [a] [] pos) (fun σ H Q => ta σ H fun vs H1 => ∃ v, vs = [v] ∧ ∀ e d, H1 e = none → H1 d = none → d ≠ e → Q (.ref e) (upd (upd H1 d (.xd [(f, v)])) e (erO e C (some d)))) := by
  refine ⟨fun pins s σ H Q I h => ?_⟩
  refine wpAny_Call_Name_kw (ld_glob I hg T.gC ?_ hdb)
  refine PySem.W.callWith_K (h₀ := X.base) I.ok.mod.kin T.kC (thn (ha.run pos pins s σ H _ I h) fun us s1 hh => ?_) he hpl
  obtain ⟨vs, H1, I1, r1, v, ev, q1⟩ := hh
  subst ev
  refine ⟨I1.kIn, ?_⟩
  cases r1 with
  | cons rv rn =>
    rename_i v' us'
    cases rn
    show wpAny _ _ (call (.ref C) [v']) _ _ _
    have hlim := I1.nolimit
    have hG := I1.mod.glob.keeps I1.bk
    have hB : ∃ mb, s1.heap.Ns builtinsNs mb ∧ ∀ x : Str, x ≠ "__name__" → mb x = bootBuiltins x := by
      obtain ⟨mb, h1, h2⟩ := I1.mod.blt
      exact ⟨mb, h1.keeps I1.bk, h2⟩
    rcases s1 with ⟨hp, g, dr, tk, os⟩
    exact wpAny_call (err_made T F I1.kIn hlim hG hB (by have := hr.dp; omega) fun h' tk' e d M => err_back rv I1 M q1)
theorem pe_errK {kws : List Keyword} {ta : TA} {p pos : Pos} {k : Nat} (T : ErrTxt X.prog X.K X.mg x f C fI cc cda) (F : FldOk f) (FK : FldKw f) (hr : Room (k + 1) X.A) (ha : PK X kws ta) (hall : KwAll X pos kws) (hks : KwNames X pos kws [f]) (hg : Gl X x) (hdb : (x == ("__debug__" : Str)) = false) (hpl : KwPlain X pos [] kws) :
    PE X (.Call (.Name x p) [] kws pos) (fun σ H Q => ta σ H fun vs H1 => ∃ v, vs = [v] ∧ ∀ e d, H1 e = none → H1 d = none → d ≠ e → Q (.ref e) (upd (upd H1 d (.xd [(f, v)])) e (erO e C (some d)))) := by
  refine ⟨fun pins s σ H Q I h => ?_⟩
  refine wpAny_Call_Name_kw (ld_glob I hg T.gC ?_ hdb)
  refine PySem.W.callWith_KW0 (h₀ := X.base) I.ok.mod.kin T.kC hall (thn (ha.run pos pins s σ H _ I h) fun us s1 hh => ?_) hpl
  obtain ⟨vs, H1, I1, r1, v, ev, q1⟩ := hh
  subst ev
  refine ⟨I1.kIn, ?_⟩
  rw [show List.filterMap _ _ = [f] from hks]
  cases r1 with
  | cons rv rn =>
    rename_i v' us'
    cases rn
    show wpAny _ _ (call (.ref C) [] [(f, v')]) _ _ _
    have hlim := I1.nolimit
    have hG := I1.mod.glob.keeps I1.bk
    have hB : ∃ mb, s1.heap.Ns builtinsNs mb ∧ ∀ x : Str, x ≠ "__name__" → mb x = bootBuiltins x := by
      obtain ⟨mb, h1, h2⟩ := I1.mod.blt
      exact ⟨mb, h1.keeps I1.bk, h2⟩
    rcases s1 with ⟨hp, g, dr, tk, os⟩
    exact wpAny_call (err_madeK T F FK I1.kIn hlim hG hB (by have := hr.dp; omega) fun h' tk' e d M => err_back rv I1 M q1)
theorem pe_err0 {bmB : List Value} {B newId initId : String} {p pos : Pos} (F : ExcBaseFacts B newId initId bmB) (q : PySem.W.excIn X.K C bmB newId = true) (gC : X.mg x = some (.ref C)) (kC : PySem.W.keepIn X.K (.ref C) = true) (hg : Gl X x) (hdb : (x == ("__debug__" : Str)) = false := by decide) :
    PE X (.Call (.Name x p) [] [] pos) (fun _ H Q => ∀ a, H a = none → Q (.ref a) (upd H a (erO a C none))) := by
  refine ⟨fun pins s σ H Q I h => ?_⟩
  refine wpAny_Call_Name_kw (ld_glob I hg gC ?_ hdb)
  refine PySem.W.callWith_K0 I.kIn kC ?_
  show wpAny _ _ (call (.ref C) []) _ _ _
  obtain ⟨bm, N, nm, qn, bs, hdct, sn, sub, ab, col, dd, k0, k1, k2, k3, k5, mN, hC, hN, hni, T⟩ := exc_obj I.kIn q
  refine wpAny_call_exc_subT F T hC hN hni (fun h' a hm => ?_) (by show 0 ≤ sizeLine; omega)
  have hn : H a = none := I.hok.gone hm.new
  obtain ⟨t, ht, _, _⟩ := hm.there
  exact ⟨.ref a, upd H a (erO a C none), I.laidN hm.keeps hm.new hn (erO_ok ht ⟨rfl, rfl⟩ rfl), rfl, h a hn⟩
theorem pe_xfv {e : Expr} {te : TE} {pos : Pos} {n : Str} (he : PE X e te) (hb : attributeBase e n X.env (eval e X.env) = eval e X.env := by rfl) :
    PE X (.Attribute e n pos) (fun σ H Q => te σ H fun y H1 => ∃ (a C dd : Addr) (fs : List (Str × V)) (v : V), y = .ref a ∧ XfC X.K C ∧ PySem.W.findIn X.K (.ref C) n = some none ∧ H1 a = some (erO a C (some dd)) ∧ H1 dd = some (.xd fs) ∧ fs.lookup n = some v ∧ Q v H1) := by
  refine ⟨fun pins s σ H Q I h => ?_⟩
  refine attr_of hb (thn (he.run pins s σ H _ I h) fun u s1 hh => ?_)
  obtain ⟨y, H1, I1, rx, a, C, dd, fs, v, ey, T, hno, ea, ed, l, q⟩ := hh
  subst ey
  obtain rfl : u = Value.ref a := rx
  obtain ⟨oe, vs, ha, hz, hd⟩ := erO_at I1.hok ea
  have hx : ObjOk X.prog X.w H1 s1.heap dd (.xd fs) := I1.hok dd _ ed
  obtain ⟨mA, hns, hr⟩ := hx
  obtain ⟨od, ho, hl⟩ := lookIn_ns hns
  obtain ⟨u, hu, ru⟩ := RelO.some_of (v := v) (o := mA n) (by rw [← l]; exact hr n)
  have J : PySem.W.InstAt s1.heap a oe C (some od) := ⟨ha, hz.1, by unfold PySem.W.notCls; rw [hd] <;> rfl, by rw [hz.2]; exact ho⟩
  exact HandSPX.exc_get I1.kIn J T.ga T.gg T.exC (PySem.W.findObj_own T.hdC hno rfl (by rw [hl, hu])) (handed_of ru) ⟨v, H1, I1.tok _, ru, q⟩
theorem call_isV : CallR X (.builtin "isinstance") (fun xs H Q => ∃ (a D : Addr) (d : Option Addr) (cv : Value) (c : V) (b : Bool), H a = some (erO a D d) ∧ kxE X.K D ∧
    (d = none ∨ ∃ dd fs, d = some dd ∧ H dd = some (.xd fs)) ∧ xs = [.ref a, c] ∧ (∀ w, RelV c w → w = cv) ∧ PySem.W.kitOne X.K (.ref D) cv = some b ∧ Q (.bl b) H) := by
  intro pins s σ H xs us Q I r h
  obtain ⟨a, D, d, cv, c, b, ea, ⟨k1, k2, k3, k4, k5, k6, k7, k8⟩, hd, rfl, hcv, e, q⟩ := h
  rcases r with _ | ⟨rx, _ | ⟨rt, _ | _⟩⟩
  cases rx
  obtain rfl := hcv _ rt
  obtain ⟨oe, vs, hget, hz, hv⟩ := erO_at I.hok ea
  have J : ∃ od, PySem.W.InstAt s.heap a oe D od := by
    rcases hd with hd | ⟨dd, fs, hd, hH⟩
    · exact ⟨none, hget, hz.1, by unfold PySem.W.notCls; rw [hv] <;> rfl, by rw [hz.2, hd]; trivial⟩
    · obtain ⟨mA, ⟨o, es, ep, ho, _⟩, _⟩ := show ObjOk X.prog X.w H s.heap dd (.xd fs) from I.hok dd _ hH
      exact ⟨some o, hget, hz.1, by unfold PySem.W.notCls; rw [hv] <;> rfl, by rw [hz.2, hd]; exact ho⟩
  obtain ⟨od, J⟩ := J
  exact PySem.W.kia_one (PySem.W.kitx_exc k1 k2 k3 k4 k5 k6 k7 k8) I.kIn J e (fun z => nomatch z) fun tk => ⟨.bl b, H, I.kept (t' := tk) fun _ _ z => z, rfl, q⟩
end
noncomputable def qErr (k : Nat) : Q1 := fun d => Classical.choose (⟨some (.nd (.exc k) [d]), rfl⟩ : ∃ x, x = some (D.nd (.exc k) [d]))
theorem qErr_eq (k : Nat) (d : D) : qErr k d = some (.nd (.exc k) [d]) := Classical.choose_spec (⟨some (.nd (.exc k) [d]), rfl⟩ : ∃ x, x = some (D.nd (.exc k) [d]))
def dErr0 (_Ex : DX) (st : LS) (Q : D → LS → Prop) : Prop := Q (.nd (.exc 14) []) st
def qXfv (k : Nat) : Q1 := fun d => match d with
  | .nd (.exc k') [x] => if k' = k then some x else none
  | _ => none
def qXiv (ib : Nat → Bool) : Q1 := fun d => match d with
  | .nd (.exc k) _ => some (.bl (ib k))
  | _ => none
section
variable {X : Cx} {W : WX} {C fI cc cda : Addr} {x f : Str} {e t : Expr} {g : DE} {p pos : Pos}
theorem exc_sem {C' : Cfg} {H1 K1 : Hp} {σ : L2.St} {st1 : LS} {k : Nat} {d : D} {v : V} {Q : D → LS → Prop} {Qv : VK} {H0 : Hp} (hk : k < 14) (gC : X.mg (exN k) = some (.ref C)) (i1 : I X.K X.mg C' H1 K1 σ st1) (s1 : Same H0 H1) (r1 : Rep X.K X.mg H1 d v)
    (hQ : ∀ d st' v H0' H', Q d st' → I X.K X.mg C' H0' H' σ st' → Same H0 H0' → Rep X.K X.mg H0' d v → Qv v H') (q : Q (.nd (.exc k) [d]) st1) :
    ∀ e dd, K1 e = none → K1 dd = none → dd ≠ e → Qv (.ref e) (upd (upd K1 dd (.xd [(exF k, v)])) e (erO e C (some dd))) := fun e dd he hd ne => by
  have i2 := i1.new (o := .xd [(exF k, v)]) hd
  have he2 : (upd K1 dd (.xd [(exF k, v)])) e = none := by rw [upd_ne (fun z => ne z.symm)]; exact he
  have i3 := i2.new (o := erO e C (some dd)) he2
  have m1 : Same H1 (upd H1 dd (.xd [(exF k, v)])) := same_upd (i1.same.free hd)
  have m2 : Same (upd H1 dd (.xd [(exF k, v)])) (upd (upd H1 dd (.xd [(exF k, v)])) e (erO e C (some dd))) := same_upd (i2.same.free he2)
  refine hQ _ st1 _ _ _ q i3 (s1.trans (m1.trans m2)) (rep_nd (vs := [v]) ⟨C, some dd, gC, upd_same, .inr ⟨hk, dd, v, rfl, rfl, ?_⟩⟩ (RepL.mono (m1.trans m2) _ _ (repL_cons r1 repL_nil)))
  rw [upd_ne ne]; exact upd_same
theorem ped_err {a : Expr} {k n : Nat} (T : ErrTxt X.prog X.K X.mg x f C fI cc cda) (ex : exN k = x) (ef : exF k = f) (hk : k < 14) (F : FldOk f) (hr : RoomG (n + 1) X.A) (h : PED X W a g) (hg : Gl X x) (hdb : (x == ("__debug__" : Str)) = false := by decide)
    (he : starEach (a :: []) X.env = (false, eval a X.env) :: starEach [] X.env := by rfl) (hpl : (backTo pos (starEach [] X.env)).any (·.1) = false := by rfl) :
    PED X W (.Call (.Name x p) [a] [] pos) (dUn (w1 (qErr k)) g) := by
  obtain ⟨ta, pa, qa⟩ := h.ex
  subst ex; subst ef
  refine ⟨_, pe_err T F hr.r (pa_cons pa pa_nil he) hg hdb he hpl, fun C H0 H σ st Ex Q Qv hI hX hQ hg => qa C H0 H σ st Ex _ _ hI hX (fun y st1 v H1 K1 q1 i1 s1 r1 => ?_) hg⟩
  obtain ⟨d, hd, qd⟩ := wpO_of q1
  rw [qErr_eq] at hd
  cases hd
  exact ⟨v, rfl, exc_sem hk T.gC i1 s1 r1 hQ qd⟩
theorem ped_errK {a : Expr} {k n : Nat} {kp : Pos} (T : ErrTxt X.prog X.K X.mg x f C fI cc cda) (ex : exN k = x) (ef : exF k = f) (hk : k < 14) (F : FldOk f) (FK : FldKw f) (hr : RoomG (n + 1) X.A) (h : PED X W a g) (hg : Gl X x) (hdb : (x == ("__debug__" : Str)) = false := by decide)
    (hall : KwAll X pos [⟨some f, a, kp⟩] := by rfl) (hks : KwNames X pos [⟨some f, a, kp⟩] [f] := by rfl) (hpl : KwPlain X pos [] [⟨some f, a, kp⟩] := by rfl) :
    PED X W (.Call (.Name x p) [] [⟨some f, a, kp⟩] pos) (dUn (w1 (qErr k)) g) := by
  obtain ⟨ta, pa, qa⟩ := (pkd_cons (nm := some f) (kpos := kp) h pkd_nil).ex
  refine ⟨_, pe_errK T F FK hr.r pa hall hks hg hdb hpl, fun C H0 H σ st Ex Q Qv hI hX hQ hg => qa C H0 H σ st Ex (fun ds st1 => match ds with | [y] => w1 (qErr k) y fun d => Q d st1 | _ => False) _ hI hX (fun ds st1 vs H1 K1 q1 i1 s1 r1 el => ?_) hg⟩
  · rcases ds with _ | ⟨y, _ | _⟩
    · exact q1.elim
    · obtain ⟨d, hd, qd⟩ := wpO_of (show wpO (qErr k y) fun d => Q d st1 from q1)
      rw [qErr_eq] at hd
      cases hd
      obtain ⟨v, r, rfl, r2, r3⟩ := r1.cons
      cases r3.nil
      subst ef
      exact ⟨v, rfl, exc_sem hk (ex ▸ T.gC) i1 s1 r2 hQ qd⟩
    · exact q1.elim
theorem ped_err0 {bmB : List Value} {B newId initId : String} (F : ExcBaseFacts B newId initId bmB) (q : PySem.W.excIn X.K C bmB newId = true) (ex : exN 14 = x) (gC : X.mg x = some (.ref C)) (kC : PySem.W.keepIn X.K (.ref C) = true) (hg : Gl X x) (hdb : (x == ("__debug__" : Str)) = false := by decide) :
    PED X W (.Call (.Name x p) [] [] pos) dErr0 := by
  refine ⟨_, pe_err0 F q gC kC hg hdb, fun C' H0 H σ st Ex Q Qv hI hX hQ hg a ha => ?_⟩
  exact hQ _ st _ (upd H0 a (erO a C none)) _ hg (hI.new ha) (same_upd (hI.same.free ha)) (rep_nd (vs := []) ⟨C, none, ex ▸ gC, upd_same, .inl ⟨rfl, rfl, rfl⟩⟩ repL_nil)
theorem ped_xfv {k : Nat} (hk : k < 14) (hf : exF k = f) (hX : ∀ k C, X.mg (exN k) = some (.ref C) → exF k = f → XfC X.K C ∧ PySem.W.findIn X.K (.ref C) f = some none) (h : PED X W e g) (hb : attributeBase e f X.env (eval e X.env) = eval e X.env := by rfl) :
    PED X W (.Attribute e f pos) (dUn (w1 (qXfv k)) g) := by
  obtain ⟨ta, pa, qa⟩ := h.ex
  refine ⟨_, pe_xfv pa hb, fun C H0 H σ st Ex Q Qv hI hX' hQ hg => qa C H0 H σ st Ex _ _ hI hX' (fun y st1 v H1 K1 q1 i1 s1 r1 => ?_) hg⟩
  obtain ⟨d, hd, qd⟩ := wpO_of q1
  unfold qXfv at hd
  split at hd
  · rename_i k' x
    split at hd
    · rename_i hc
      subst hc
      cases hd
      obtain ⟨a, vs, rfl, ⟨C, dd0, gC, e1, e2⟩, r2⟩ := r1.nd
      rcases e2 with ⟨e2, _⟩ | ⟨_, dd, v, rfl, rfl, e3⟩
      · omega
      · obtain ⟨v', r, e4, rv, _⟩ := r2.cons
        cases e4
        obtain ⟨h1, h2⟩ := hX _ C gC hf
        exact ⟨a, C, dd, _, v, rfl, h1, h2, i1.same _ _ e1, i1.same _ _ e3, by rw [hf]; simp [List.lookup], hQ _ st1 _ H1 K1 qd i1 s1 rv⟩
    · cases hd
  · cases hd
theorem ped_isv {c : V} {cv : Value} {ib : Nat → Bool} (hX : ∀ k C, X.mg (exN k) = some (.ref C) → kxE X.K C ∧ PySem.W.kitOne X.K (.ref C) cv = some (ib k)) (h : PED X W e g) (ht : PE X t (tC c)) (hcv : ∀ w, RelV c w → w = cv) (hg : Gl X "isinstance") (hm : X.mg "isinstance" = none)
    (he : starEach (e :: [t]) X.env = (false, eval e X.env) :: starEach [t] X.env := by rfl) (he2 : starEach (t :: []) X.env = (false, eval t X.env) :: starEach [] X.env := by rfl) (hpl : (backTo pos (starEach [t] X.env)).any (·.1) = false := by rfl) :
    PED X W (.Call (.Name "isinstance" p) [e, t] [] pos) (dUn (w1 (qXiv ib)) g) := by
  obtain ⟨ta, pa, qa⟩ := h.ex
  refine ⟨_, pe_callB call_isV hg hm PyProof.Rows.boot_isinstance (pa_cons pa (pa_cons ht pa_nil he2) he) (by decide) (by decide) he hpl, fun C H0 H σ st Ex Q Qv hI hX' hQ hg => qa C H0 H σ st Ex _ _ hI hX' (fun y st1 v H1 K1 q1 i1 s1 r1 => ?_) hg⟩
  obtain ⟨d, hd, qd⟩ := wpO_of q1
  unfold qXiv at hd
  split at hd
  · rename_i k ds
    cases hd
    obtain ⟨a, vs, rfl, ⟨C, dd0, gC, e1, e2⟩, r2⟩ := r1.nd
    obtain ⟨k1, k2⟩ := hX k C gC
    refine ⟨a, C, dd0, cv, c, ib k, i1.same _ _ e1, k1, ?_, rfl, hcv, k2, hQ _ st1 _ H1 K1 qd i1 s1 rep_bl⟩
    rcases e2 with ⟨_, rfl, _⟩ | ⟨_, dd, v, rfl, _, e3⟩
    · exact .inl rfl
    · exact .inr ⟨dd, _, rfl, i1.same _ _ e3⟩
  · cases hd
end
theorem bootE_ValueError : bootBuiltins "ValueError" = some (.type "ValueError") := by decide +kernel
theorem bootE_LookupError : bootBuiltins "LookupError" = some (.type "LookupError") := by decide +kernel
theorem bootE_KeyError : bootBuiltins "KeyError" = some (.type "KeyError") := by decide +kernel
theorem bootE_OverflowError : bootBuiltins "OverflowError" = some (.type "OverflowError") := by decide +kernel
theorem bootE_RuntimeError : bootBuiltins "RuntimeError" = some (.type "RuntimeError") := by decide +kernel
theorem kone_is {K : PySem.W.Frag} {C : Addr} {T : String} {b : Bool} (md : PySem.W.subIn K (.ref C) (.type T) = some b) (km : PySem.W.kitMeta T = true := by decide +kernel) : PySem.W.kitOne K (.ref C) (.type T) = some b := by
  unfold PySem.W.kitOne
  rw [show (Value.ref C == Value.type T) = false from Bool.eq_false_iff.mpr fun q => by (have z := beq_iff_eq.mp q; cases z), if_neg Bool.false_ne_true]
  show (if PySem.W.kitMeta T = true then PySem.W.subIn K (.ref C) (.type T) else none) = _
  rw [if_pos km]
  exact md
end PD
namespace PD
open PySem PySem.Spec PyProof.Rows L2
noncomputable section
def ib_InvalidNumber (k : Nat) : Bool := k == 0
def ib_InvalidWork (k : Nat) : Bool := k == 1
def ib_InvalidRope (k : Nat) : Bool := k == 2
def ib_InvalidMotion (k : Nat) : Bool := k == 3
def ib_InvalidHeights (k : Nat) : Bool := k == 4
def ib_InvalidLimits (k : Nat) : Bool := k == 5
def ib_InvalidTensions (k : Nat) : Bool := k == 6
def ib_InvalidName (k : Nat) : Bool := k == 7
def ib_InvalidCommand (k : Nat) : Bool := k == 8
def ib_ParseError (k : Nat) : Bool := k == 9
def ib_NameClash (k : Nat) : Bool := k == 10
def ib_Weightless (k : Nat) : Bool := k == 11
def ib_LimitExceeded (k : Nat) : Bool := k == 12
def ib_UnknownName (k : Nat) : Bool := k == 13
def ib_NothingToUndo (k : Nat) : Bool := k == 14
def ib_WorkError (k : Nat) : Bool := Nat.blt k 12
def ib_ValueError (k : Nat) : Bool := Nat.blt k 12
def ib_LookupError (k : Nat) : Bool := k == 13
def ib_KeyError (k : Nat) : Bool := k == 13
def ib_OverflowError (k : Nat) : Bool := k == 12
def ib_RuntimeError (k : Nat) : Bool := k == 14
local macro_rules | `(tactic| walk_at "ds") => `(tactic| dsimp only [dErr0, dBorT2, dOnTT, dOnTake, r_atOw, dOnLsV, atTb, dTbNew, dTbGet, dTbSet, dBorK, dOnIx, dOnGet, dOnLs, dOnSet, dOnL1, dOnL0, dClr, r_atOn, r_hn, dPre, dPar3O, dIfO, dSeek, dPair, endsP, dIdx, dGive, r_atNw, dCatO, dRepO, dFsB, dFnB, dStB, dApB, dIxB, dMeB, dMkB, dBorB, dBorBR, dBorBT, r_atB, r_atF, r_hb, dPop, dParOO, dOwNT, dOwNL, dParD, dParO, dcAK, r_pmC, r_pmN, r_gd, r_p0, r_p1, r_p2, r_p3, dFrzT, dBorT, dBoR, dcBN, r_atN, dCoef, strAt, r_sA0, r_yN, r_yX, dOwT, r_blS, dStars, dStarsV, dStPut, dStPutV, dOw, dRp, dJ, dJoin, r_strD, dVar, dC, dFz, dRes, dTst, dOp, w1, w2, wL, dUn, dAnd, dOr, dNot, dIf, dAndT, dOrT, dNotT, dANil, dACons, dTup, dLst, dLstV, dCB, dcA, dcAD, dcB, dcVQ, dix, dSlV, dNoP, dSomeQ, dDic0, dIt, dItA, dYes, dCBo, dChain, dSt2, dRev, dMe, dPr, dMk, dPN, dPC, dDic, dDicV, dGet2, dNir, gdName, gdT2, gdT2L, gdT3, gdT3L, gdSub, dSet, dPar, dAsg, dRet, dRetN, dIfS, dDrop, dNx, dBk, dCt, dNo, dRaise, dst, dap, dstA, dFs, dBor, dBoR, dLcQ, dLcV, dDc, dDcV, dDicO, ps_0, ps_s, stW, pap_c, pap_n, r_seq, r_for, r_try, r_tryM, r_thR, r_thB, r_thC, r_thX, r_loN, r_loC, r_loB, r_loR, r_loX, r_enN, r_enR, r_enX, r_trN, r_trR, r_trB, r_trC, r_trX, r_tmN, r_tmR, r_tmB, r_tmC, r_tmX, r_mX0, r_mXn, r_mXs, r_suN, r_suR, r_suB, r_suC, r_s0N, r_s0R, r_s0B, r_s0C, r_atO, r_some, r_sDf, r_sDo, r_hide, r_map, r_map0, r_hf, r_ho, r_hu, r_cT, r_cF, rv0f, rv0o, ix0, rv1f, rv1o, ix1, rv2f, rv2o, ix2, rv3f, rv3o, ix3, rv4f, rv4o, ix4, rv5f, rv5o, ix5, rv6f, rv6o, ix6, rv7f, rv7o, ix7, rv8f, rv8o, ix8, rv9f, rv9o, ix9, rv10f, rv10o, ix10, rv11f, rv11o, ix11, rv12f, rv12o, ix12, rv13f, rv13o, ix13, rv14f, rv14o, ix14, rv15f, rv15o, ix15, rv16f, rv16o, ix16, rv17f, rv17o, ix17, rv18f, rv18o, ix18, rv19f, rv19o, ix19, rv20f, rv20o, ix20, rv21f, rv21o, ix21, rv22f, rv22o, ix22, rv23f, rv23o, ix23, rv24f, rv24o, ix24, rv25f, rv25o, ix25])
local macro_rules | `(tactic| k_memK) => `(tactic| first | (with_reducible exact id) | (with_reducible exact fun h => h.elim) | (with_reducible exact fun h => h _) | (with_reducible refine wpO_imp (fun d => ?_); walk_at "st") | (with_reducible refine wp_imp (fun e => ?_) (fun d => ?_) <;> walk_at "st") | (with_reducible refine cond_imp ?_ ?_ <;> walk_at "st") | (with_reducible refine st_all fun u => ?_; walk_at "st") | (walk_at "ds"; walk_at "st"))
local macro_rules | `(tactic| k_subL) => `(tactic| first | (with_reducible refine st_endB ?_; walk_at "st") | (with_reducible refine st_endBR ?_; walk_at "st") | (with_reducible refine st_endBX ?_; walk_at "st") | (with_reducible refine st_lent ?_; walk_at "st") | (with_reducible refine st_lentS ?_; walk_at "st") | (with_reducible refine st_lentO ?_; walk_at "st") | (with_reducible refine st_isL (fun d => ?_); walk_at "st") | (with_reducible refine st_mkr ?_; walk_at "st") | (with_reducible refine st_okOw ?_; walk_at "st") | (with_reducible refine st_endOb ?_; walk_at "st") | (with_reducible refine st_endObR ?_; walk_at "st") | (with_reducible refine st_eqr ?_; walk_at "st") | (with_reducible refine st_lentBf ?_; walk_at "st") | (with_reducible refine st_lentBo ?_; walk_at "st") | (with_reducible refine st_xf (by with_unfolding_all exact rfl) ?_; walk_at "st") | (with_reducible refine st_xi (by with_unfolding_all exact rfl) ?_; walk_at "st") | (with_reducible refine ctlP_imp (fun b => ?_) (fun b => ?_) (fun b => ?_) <;> walk_at "st"))
local macro_rules | `(tactic| mem_news) => `(tactic| first | (refine sim_map (fun x Q K hK => ?_) _ _ _ (fun ys => ?_); (focus (walk_at "nm"; walk_at "st"; all_goals exact hK _ _ rfl)); ((try dsimp only [List.nil_append]); walk_at "st")) | (refine sim_fil (fun x Q P K K0 hK h0 => ?_) _ _ _ (fun ys => ?_); (focus (walk_at "nm"; walk_at "st"; all_goals first | exact hK _ _ rfl | exact h0 _ rfl)); ((try dsimp only [List.nil_append]); walk_at "st")) | (refine sim_dcQ (fun x Q K hK => ?_) _ (fun kvs => ?_); (focus (walk_at "nm"; walk_at "st"; all_goals exact hK _ _ _ rfl)); walk_at "st") | (simp only [qDc_of]; refine sim_dcQ (fun x Q K hK => ?_) _ (fun kvs => ?_); (focus (walk_at "nm"; walk_at "st"; all_goals exact hK _ _ _ rfl)); walk_at "st") | (simp only [qDc_of]; refine sim_dcFQ (fun x Q K K0 hK h0 => ?_) _ (fun kvs => ?_); (focus (walk_at "nm"; walk_at "st"; all_goals first | exact hK _ _ _ rfl | exact h0 _ rfl)); walk_at "st"))
local macro_rules | `(tactic| walk_at "ds") => `(tactic| dsimp only [r_hn, r_hb, dVar, dC, dRes, dTst, dOp, w2, wL, dANil, dACons, dLst, dCB, dSlV, dNoP, dSomeQ, dSet, dRet, dIfS, dNx, ps_0, ps_s, pap_c, pap_n, r_seq, r_thR, r_thB, r_thC, r_thX, r_enN, r_enR, r_enX, r_atO, r_some, r_sDf, r_sDo, r_hide, r_map, r_map0, r_hf, r_ho, r_hu, r_cT, r_cF, rv0f, rv1f, rv2f, rv3f, rv4f])
def F__law_pool (_law_script _law_k : D) : Res DErr D :=
  bO (qInt (.int 63)) fun i1 =>
  bO (qSl _law_script none (some i1)) fun v2 =>
  bO (qSum [v2]) fun v3 =>
  bO (qMul (.int 11) v3) fun v4 =>
  bO (qAdd v4 _law_k) fun v5 =>
  bO (qLen [_law_script]) fun v6 =>
  bO (qLt _law_k v6) fun v7 =>
  bO (qBl v7) fun b8 =>
  bR (cond b8
  (bO (qIxA _law_script _law_k) fun v10 =>
  .ok v10)
  (.ok v5)) fun j9 =>
  bO (qAbs [j9]) fun v11 =>
  bO (qMod v11 (.int 2147483629)) fun v12 =>
  bO (qMul (.int 7919) _law_k) fun v13 =>
  bO (qMul v13 _law_k) fun v14 =>
  bO (qAdd v12 v14) fun v15 =>
  bO (qMul (.int 31) _law_k) fun v16 =>
  bO (qAdd v15 v16) fun v17 =>
  bO (qAdd v17 (.int 17)) fun v18 =>
  bO (qMul v18 (.int 48271)) fun v19 =>
  bO (qMod v19 (.int 2147483647)) fun v20 =>
  bO (qPow (.int 10) (.int 18)) fun v21 =>
  bO (qGe v11 v21) fun v22 =>
  bO (qInt1 [v22]) fun v23 =>
  bO (qMul v11 v23) fun v24 =>
  bO (qMul v20 v20) fun v25 =>
  bO (qMod v25 (.int 2147483629)) fun v26 =>
  .ok (.nd .lst [v24, v26])
def g__law_pool : DS :=
  (dSeq (dSet 2 (dRes (dOp (w2 qAdd) (dOp (w2 qMul) (dC (.int 11)) (dCB (wL qSum) (dACons (dSlV (dVar 0) dNoP (dSomeQ (dC (.int 63)))) dANil))) (dVar 1))))
    (dSeq (dIfS (dTst (dOp (w2 qLt) (dVar 1) (dCB (wL qLen) (dACons (dVar 0) dANil)))) (dSet 2 (dRes (dOp (w2 qIxA) (dVar 0) (dVar 1)))) dNx)
    (dSeq (dSet 3 (dRes (dCB (wL qAbs) (dACons (dVar 2) dANil))))
    (dSeq (dSet 4 (dRes (dOp (w2 qMod) (dOp (w2 qMul) (dOp (w2 qAdd) (dOp (w2 qAdd) (dOp (w2 qAdd) (dOp (w2 qMod) (dVar 3) (dC (.int 2147483629))) (dOp (w2 qMul) (dOp (w2 qMul) (dC (.int 7919)) (dVar 1)) (dVar 1))) (dOp (w2 qMul) (dC (.int 31)) (dVar 1))) (dC (.int 17))) (dC (.int 48271))) (dC (.int 2147483647)))))
    (dRet (dLst (dACons (dOp (w2 qMul) (dVar 3) (dCB (wL qInt1) (dACons (dOp (w2 qGe) (dVar 3) (dOp (w2 qPow) (dC (.int 10)) (dC (.int 18)))) dANil))) (dACons (dOp (w2 qMod) (dOp (w2 qMul) (dVar 4) (dVar 4)) (dC (.int 2147483629))) dANil))))))))
def phi__law_pool : SpA := fun ds Ex Q => match ds with
  | [y0, y1] => wp (F__law_pool y0 y1) Ex (fun d => ∀ a, Q (.ow a true d))
  | _ => False
theorem e__law_pool {y0 y1 : D} {Ex : DErr → Prop} {Q : S → Prop} : phi__law_pool [y0, y1] Ex Q = wp (F__law_pool y0 y1) Ex (fun d => ∀ a, Q (.ow a true d)) := rfl
local macro_rules | `(tactic| walk_at "nm") => `(tactic| (try simp only [wp_ok, wp_noR, wp_ex, wp_bO, wp_bR, wp_cond, wp_noEx, wp_tryB, wp_tryH, wp_ctl, ctlP_nx, ctlP_bk, ctlP_rt, oCtl_none, oCtl_nx, oCtl_bk, oCtl_rt, Bool.not_true, Bool.not_false, cond_true, cond_false, wpO_map]))
local macro_rules | `(tactic| walk_at "st") => `(tactic| first | k_memK | (with_reducible refine st_then ?_; walk_at "st") | k_subL | mem_news | skip)
theorem law__law_pool : ∀ ds Ex Q, ds.length = 2 → phi__law_pool ds Ex Q → g__law_pool (endsA Ex Q) (startA 5 ds) := by
  intro ds Ex Q hl
  match ds, hl with
  | [y0, y1], _ =>
    rw [e__law_pool]
    unfold F__law_pool g__law_pool
    walk_at "nm"
    (try dsimp only [startA, startB, pm_c, pm_n, pa_c, pa_n, pr_s, pr_0, pl_c, pl_n, Nat.reduceAdd, Nat.reduceSub])
    walk_at "st"
    all_goals (try exact ())
local macro_rules | `(tactic| walk_at "ds") => `(tactic| dsimp only [r_hn, r_hb, dVar, dC, dRes, dTst, dOp, w2, dix, dSet, dRet, dIfS, dNx, dstA, ps_0, ps_s, pap_c, pap_n, r_seq, r_thR, r_thB, r_thC, r_thX, r_enN, r_enR, r_enX, r_atO, r_some, r_sDf, r_sDo, r_hide, r_map, r_map0, r_hf, r_ho, r_hu, r_cT, r_cF, rv0f, rv0o, ix0, rv1f, rv2f])
def F__law_draw (_law_pool_here _law_many : D) : Res DErr (D × D) :=
  bO (qIxL _law_pool_here (.int 0)) fun v1 =>
  bO (qGt v1 (.int 0)) fun v2 =>
  bO (qBl v2) fun b3 =>
  cond b3
  (bO (qIxL _law_pool_here (.int 0)) fun v4 =>
  bO (qMod v4 _law_many) fun v5 =>
  bO (qIxL _law_pool_here (.int 0)) fun v6 =>
  bO (qDiv v6 _law_many) fun v7 =>
  bO (qSetA _law_pool_here (.int 0) v7) fun o8 =>
  .ok (v5, o8))
  (bO (qIxL _law_pool_here (.int 1)) fun v9 =>
  bO (qMul v9 (.int 48271)) fun v10 =>
  bO (qAdd v10 (.int 11)) fun v11 =>
  bO (qMod v11 (.int 2147483647)) fun v12 =>
  bO (qSetA _law_pool_here (.int 1) v12) fun o13 =>
  bO (qIxL o13 (.int 1)) fun v14 =>
  bO (qIxL o13 (.int 1)) fun v15 =>
  bO (qMul v14 v15) fun v16 =>
  bO (qMod v16 (.int 2147483629)) fun v17 =>
  bO (qDiv v17 (.int 16)) fun v18 =>
  bO (qMod v18 _law_many) fun v19 =>
  .ok (v19, o13))
def g__law_draw : DS :=
  (dSeq (dIfS (dTst (dOp (w2 qGt) (dix 0 (dC (.int 0))) (dC (.int 0)))) (dSeq (dSet 2 (dRes (dOp (w2 qMod) (dix 0 (dC (.int 0))) (dVar 1))))
    (dSeq (dstA 0 (dOp (w2 qDiv) (dix 0 (dC (.int 0))) (dVar 1)) (dC (.int 0)))
    (dRet (dRes (dVar 2))))) dNx)
    (dSeq (dstA 0 (dOp (w2 qMod) (dOp (w2 qAdd) (dOp (w2 qMul) (dix 0 (dC (.int 1))) (dC (.int 48271))) (dC (.int 11))) (dC (.int 2147483647))) (dC (.int 1)))
    (dRet (dRes (dOp (w2 qMod) (dOp (w2 qDiv) (dOp (w2 qMod) (dOp (w2 qMul) (dix 0 (dC (.int 1))) (dix 0 (dC (.int 1)))) (dC (.int 2147483629))) (dC (.int 16))) (dVar 1))))))
def phi__law_draw : SpB := fun d ds Ex Q => match ds with
  | [y1] => wp (F__law_draw d y1) NE (fun r => Q (.fz r.1) r.2)
  | _ => False
theorem e__law_draw {d y1 : D} {Ex : DErr → D → Prop} {Q : S → D → Prop} : phi__law_draw d [y1] Ex Q = wp (F__law_draw d y1) NE (fun r => Q (.fz r.1) r.2) := rfl
local macro_rules | `(tactic| walk_at "st") => `(tactic| first | k_memK | (with_reducible refine st_then ?_; walk_at "st") | k_subL | (refine sim_mapSi (i := 0) (by with_unfolding_all exact rfl) (fun x o Q K hK => ?_) _ _ (fun ys o => ?_); (focus (walk_at "nm"; walk_at "st"; all_goals exact hK _ _ _ rfl)); ((try simp only [List.nil_append]); walk_at "st")) | mem_news | skip)
theorem law__law_draw : ∀ a t es ds Ex Q, ds.length + 1 = 2 → phi__law_draw (.nd t es) ds Ex Q → g__law_draw (endsB a Ex Q) (startB 3 a (.nd t es) ds) := by
  intro a t es ds Ex Q hl
  match ds, hl with
  | [y1], _ =>
    generalize (D.nd t es) = d
    rw [e__law_draw]
    unfold F__law_draw g__law_draw
    walk_at "nm"
    (try dsimp only [startA, startB, pm_c, pm_n, pa_c, pa_n, pr_s, pr_0, pl_c, pl_n, Nat.reduceAdd, Nat.reduceSub])
    walk_at "st"
    all_goals (try exact ())
local macro_rules | `(tactic| walk_at "ds") => `(tactic| dsimp only [r_hn, r_hb, dVar, dC, dRes, dOp, w1, w2, dUn, dAnd, dANil, dACons, dLstV, dSet, dRet, ps_0, ps_s, pap_c, pap_n, r_seq, r_thR, r_thB, r_thC, r_thX, r_enN, r_enR, r_enX, r_atO, r_some, r_sDf, r_sDo, r_hide, r_map, r_map0, r_hf, r_ho, r_hu, r_cT, r_cF, rv0f, rv1f, rv2f])
def F__law_fields_hold (_law_a : D) : Res DErr D :=
  bO (qErr 0 _law_a) fun v1 =>
  bO (qXfv 0 v1) fun v2 =>
  bO (qErr 1 _law_a) fun v3 =>
  bO (qXfv 1 v3) fun v4 =>
  bO (qErr 2 _law_a) fun v5 =>
  bO (qXfv 2 v5) fun v6 =>
  bO (qErr 3 _law_a) fun v7 =>
  bO (qXfv 3 v7) fun v8 =>
  bO (qErr 4 _law_a) fun v9 =>
  bO (qXfv 4 v9) fun v10 =>
  bO (qErr 5 _law_a) fun v11 =>
  bO (qXfv 5 v11) fun v12 =>
  bO (qErr 6 _law_a) fun v13 =>
  bO (qXfv 6 v13) fun v14 =>
  bO (qAdd (.nd .lst [v2, v4, v6, v8]) (.nd .lst [v10, v12, v14])) fun v15 =>
  bO (qErr 7 _law_a) fun v16 =>
  bO (qXfv 7 v16) fun v17 =>
  bO (qAdd v15 (.nd .lst [v17])) fun v18 =>
  bO (qErr 8 _law_a) fun v19 =>
  bO (qXfv 8 v19) fun v20 =>
  bO (qErr 9 _law_a) fun v21 =>
  bO (qXfv 9 v21) fun v22 =>
  bO (qErr 10 _law_a) fun v23 =>
  bO (qXfv 10 v23) fun v24 =>
  bO (qErr 11 _law_a) fun v25 =>
  bO (qXfv 11 v25) fun v26 =>
  bO (qAdd v18 (.nd .lst [v20, v22, v24, v26])) fun v27 =>
  bO (qErr 12 _law_a) fun v28 =>
  bO (qXfv 12 v28) fun v29 =>
  bO (qErr 13 _law_a) fun v30 =>
  bO (qXfv 13 v30) fun v31 =>
  bO (qAdd v27 (.nd .lst [v29, v31])) fun v32 =>
  bO (qErr 0 _law_a) fun v33 =>
  bO (qXfv 0 v33) fun v34 =>
  bO (qErr 1 _law_a) fun v35 =>
  bO (qXfv 1 v35) fun v36 =>
  bO (qErr 2 _law_a) fun v37 =>
  bO (qXfv 2 v37) fun v38 =>
  bO (qErr 3 _law_a) fun v39 =>
  bO (qXfv 3 v39) fun v40 =>
  bO (qErr 4 _law_a) fun v41 =>
  bO (qXfv 4 v41) fun v42 =>
  bO (qErr 5 _law_a) fun v43 =>
  bO (qXfv 5 v43) fun v44 =>
  bO (qAdd (.nd .lst [v34, v36, v38]) (.nd .lst [v40, v42, v44])) fun v45 =>
  bO (qErr 6 _law_a) fun v46 =>
  bO (qXfv 6 v46) fun v47 =>
  bO (qErr 7 _law_a) fun v48 =>
  bO (qXfv 7 v48) fun v49 =>
  bO (qErr 8 _law_a) fun v50 =>
  bO (qXfv 8 v50) fun v51 =>
  bO (qAdd v45 (.nd .lst [v47, v49, v51])) fun v52 =>
  bO (qErr 9 _law_a) fun v53 =>
  bO (qXfv 9 v53) fun v54 =>
  bO (qErr 10 _law_a) fun v55 =>
  bO (qXfv 10 v55) fun v56 =>
  bO (qErr 11 _law_a) fun v57 =>
  bO (qXfv 11 v57) fun v58 =>
  bO (qAdd v52 (.nd .lst [v54, v56, v58])) fun v59 =>
  bO (qErr 12 _law_a) fun v60 =>
  bO (qXfv 12 v60) fun v61 =>
  bO (qErr 13 _law_a) fun v62 =>
  bO (qXfv 13 v62) fun v63 =>
  bO (qAdd v59 (.nd .lst [v61, v63])) fun v64 =>
  bR (bO (qMul (.nd .lst [_law_a]) (.int 14)) fun v66 =>
  bO (qEqL v32 v66) fun v67 =>
  bO (qBl v67) fun b68 =>
  cond b68 (bO (qEqL v64 v32) fun v69 =>
  .ok v69) (.ok (.bl false))) fun v65 =>
  .ok v65
def g__law_fields_hold : DS :=
  (dSeq (dSet 1 (dRes (dLstV (dACons (dUn (w1 (qXfv 0)) (dUn (w1 (qErr 0)) (dVar 0))) (dACons (dUn (w1 (qXfv 1)) (dUn (w1 (qErr 1)) (dVar 0))) (dACons (dUn (w1 (qXfv 2)) (dUn (w1 (qErr 2)) (dVar 0))) (dACons (dUn (w1 (qXfv 3)) (dUn (w1 (qErr 3)) (dVar 0))) dANil)))))))
    (dSeq (dSet 1 (dRes (dOp (w2 qAdd) (dVar 1) (dLstV (dACons (dUn (w1 (qXfv 4)) (dUn (w1 (qErr 4)) (dVar 0))) (dACons (dUn (w1 (qXfv 5)) (dUn (w1 (qErr 5)) (dVar 0))) (dACons (dUn (w1 (qXfv 6)) (dUn (w1 (qErr 6)) (dVar 0))) dANil)))))))
    (dSeq (dSet 1 (dRes (dOp (w2 qAdd) (dVar 1) (dLstV (dACons (dUn (w1 (qXfv 7)) (dUn (w1 (qErr 7)) (dVar 0))) dANil)))))
    (dSeq (dSet 1 (dRes (dOp (w2 qAdd) (dVar 1) (dLstV (dACons (dUn (w1 (qXfv 8)) (dUn (w1 (qErr 8)) (dVar 0))) (dACons (dUn (w1 (qXfv 9)) (dUn (w1 (qErr 9)) (dVar 0))) (dACons (dUn (w1 (qXfv 10)) (dUn (w1 (qErr 10)) (dVar 0))) (dACons (dUn (w1 (qXfv 11)) (dUn (w1 (qErr 11)) (dVar 0))) dANil))))))))
    (dSeq (dSet 1 (dRes (dOp (w2 qAdd) (dVar 1) (dLstV (dACons (dUn (w1 (qXfv 12)) (dUn (w1 (qErr 12)) (dVar 0))) (dACons (dUn (w1 (qXfv 13)) (dUn (w1 (qErr 13)) (dVar 0))) dANil))))))
    (dSeq (dSet 2 (dRes (dLstV (dACons (dUn (w1 (qXfv 0)) (dUn (w1 (qErr 0)) (dVar 0))) (dACons (dUn (w1 (qXfv 1)) (dUn (w1 (qErr 1)) (dVar 0))) (dACons (dUn (w1 (qXfv 2)) (dUn (w1 (qErr 2)) (dVar 0))) dANil))))))
    (dSeq (dSet 2 (dRes (dOp (w2 qAdd) (dVar 2) (dLstV (dACons (dUn (w1 (qXfv 3)) (dUn (w1 (qErr 3)) (dVar 0))) (dACons (dUn (w1 (qXfv 4)) (dUn (w1 (qErr 4)) (dVar 0))) (dACons (dUn (w1 (qXfv 5)) (dUn (w1 (qErr 5)) (dVar 0))) dANil)))))))
    (dSeq (dSet 2 (dRes (dOp (w2 qAdd) (dVar 2) (dLstV (dACons (dUn (w1 (qXfv 6)) (dUn (w1 (qErr 6)) (dVar 0))) (dACons (dUn (w1 (qXfv 7)) (dUn (w1 (qErr 7)) (dVar 0))) (dACons (dUn (w1 (qXfv 8)) (dUn (w1 (qErr 8)) (dVar 0))) dANil)))))))
    (dSeq (dSet 2 (dRes (dOp (w2 qAdd) (dVar 2) (dLstV (dACons (dUn (w1 (qXfv 9)) (dUn (w1 (qErr 9)) (dVar 0))) (dACons (dUn (w1 (qXfv 10)) (dUn (w1 (qErr 10)) (dVar 0))) (dACons (dUn (w1 (qXfv 11)) (dUn (w1 (qErr 11)) (dVar 0))) dANil)))))))
    (dSeq (dSet 2 (dRes (dOp (w2 qAdd) (dVar 2) (dLstV (dACons (dUn (w1 (qXfv 12)) (dUn (w1 (qErr 12)) (dVar 0))) (dACons (dUn (w1 (qXfv 13)) (dUn (w1 (qErr 13)) (dVar 0))) dANil))))))
    (dRet (dRes (dAnd (dOp (w2 qEqL) (dVar 1) (dOp (w2 qMul) (dLstV (dACons (dVar 0) dANil)) (dC (.int 14)))) (dOp (w2 qEqL) (dVar 2) (dVar 1)))))))))))))))
def phi__law_fields_hold : SpA := phiA1 F__law_fields_hold
theorem e__law_fields_hold {y0 : D} {Ex : DErr → Prop} {Q : S → Prop} : phi__law_fields_hold [y0] Ex Q = wp (F__law_fields_hold y0) Ex (fun d => Q (.fz d)) := rfl
local macro_rules | `(tactic| walk_at "st") => `(tactic| first | k_memK | (with_reducible refine st_then ?_; walk_at "st") | k_subL | mem_news | skip)
theorem law__law_fields_hold : ∀ ds Ex Q, ds.length = 1 → phi__law_fields_hold ds Ex Q → g__law_fields_hold (endsA Ex Q) (startA 3 ds) := by
  intro ds Ex Q hl
  match ds, hl with
  | [y0], _ =>
    rw [e__law_fields_hold]
    unfold F__law_fields_hold g__law_fields_hold
    walk_at "nm"
    (try dsimp only [startA, startB, pm_c, pm_n, pa_c, pa_n, pr_s, pr_0, pl_c, pl_n, Nat.reduceAdd, Nat.reduceSub])
    walk_at "st"
    all_goals (try exact ())
local macro_rules | `(tactic| walk_at "ds") => `(tactic| dsimp only [r_hn, r_hb, dVar, dRes, dOp, w1, w2, dUn, dANil, dACons, dLstV, dSet, dRet, ps_0, ps_s, pap_c, pap_n, r_seq, r_thR, r_thB, r_thC, r_thX, r_enN, r_enR, r_enX, r_atO, r_some, r_sDf, r_sDo, r_hide, r_map, r_map0, r_hf, r_ho, r_hu, r_cT, r_cF, rv0f, rv1f])
def F__law_own (_law_error : D) : Res DErr D :=
  bO (qXiv ib_InvalidNumber _law_error) fun v1 =>
  bO (qXiv ib_InvalidWork _law_error) fun v2 =>
  bO (qXiv ib_InvalidRope _law_error) fun v3 =>
  bO (qXiv ib_InvalidMotion _law_error) fun v4 =>
  bO (qXiv ib_InvalidHeights _law_error) fun v5 =>
  bO (qAdd (.nd .lst [v1, v2, v3]) (.nd .lst [v4, v5])) fun v6 =>
  bO (qXiv ib_InvalidLimits _law_error) fun v7 =>
  bO (qXiv ib_InvalidTensions _law_error) fun v8 =>
  bO (qAdd v6 (.nd .lst [v7, v8])) fun v9 =>
  bO (qXiv ib_InvalidName _law_error) fun v10 =>
  bO (qXiv ib_InvalidCommand _law_error) fun v11 =>
  bO (qAdd v9 (.nd .lst [v10, v11])) fun v12 =>
  bO (qXiv ib_ParseError _law_error) fun v13 =>
  bO (qXiv ib_NameClash _law_error) fun v14 =>
  bO (qXiv ib_Weightless _law_error) fun v15 =>
  bO (qAdd v12 (.nd .lst [v13, v14, v15])) fun v16 =>
  bO (qXiv ib_LimitExceeded _law_error) fun v17 =>
  bO (qXiv ib_UnknownName _law_error) fun v18 =>
  bO (qAdd v16 (.nd .lst [v17, v18])) fun v19 =>
  bO (qXiv ib_NothingToUndo _law_error) fun v20 =>
  bO (qAdd v19 (.nd .lst [v20])) fun v21 =>
  .ok v21
def g__law_own : DS :=
  (dSeq (dSet 1 (dRes (dLstV (dACons (dUn (w1 (qXiv ib_InvalidNumber)) (dVar 0)) (dACons (dUn (w1 (qXiv ib_InvalidWork)) (dVar 0)) (dACons (dUn (w1 (qXiv ib_InvalidRope)) (dVar 0)) dANil))))))
    (dSeq (dSet 1 (dRes (dOp (w2 qAdd) (dVar 1) (dLstV (dACons (dUn (w1 (qXiv ib_InvalidMotion)) (dVar 0)) (dACons (dUn (w1 (qXiv ib_InvalidHeights)) (dVar 0)) dANil))))))
    (dSeq (dSet 1 (dRes (dOp (w2 qAdd) (dVar 1) (dLstV (dACons (dUn (w1 (qXiv ib_InvalidLimits)) (dVar 0)) (dACons (dUn (w1 (qXiv ib_InvalidTensions)) (dVar 0)) dANil))))))
    (dSeq (dSet 1 (dRes (dOp (w2 qAdd) (dVar 1) (dLstV (dACons (dUn (w1 (qXiv ib_InvalidName)) (dVar 0)) (dACons (dUn (w1 (qXiv ib_InvalidCommand)) (dVar 0)) dANil))))))
    (dSeq (dSet 1 (dRes (dOp (w2 qAdd) (dVar 1) (dLstV (dACons (dUn (w1 (qXiv ib_ParseError)) (dVar 0)) (dACons (dUn (w1 (qXiv ib_NameClash)) (dVar 0)) (dACons (dUn (w1 (qXiv ib_Weightless)) (dVar 0)) dANil)))))))
    (dSeq (dSet 1 (dRes (dOp (w2 qAdd) (dVar 1) (dLstV (dACons (dUn (w1 (qXiv ib_LimitExceeded)) (dVar 0)) (dACons (dUn (w1 (qXiv ib_UnknownName)) (dVar 0)) dANil))))))
    (dRet (dRes (dOp (w2 qAdd) (dVar 1) (dLstV (dACons (dUn (w1 (qXiv ib_NothingToUndo)) (dVar 0)) dANil)))))))))))
def phi__law_own : SpA := phiA1 F__law_own
theorem e__law_own {y0 : D} {Ex : DErr → Prop} {Q : S → Prop} : phi__law_own [y0] Ex Q = wp (F__law_own y0) Ex (fun d => Q (.fz d)) := rfl
theorem law__law_own : ∀ ds Ex Q, ds.length = 1 → phi__law_own ds Ex Q → g__law_own (endsA Ex Q) (startA 2 ds) := by
  intro ds Ex Q hl
  match ds, hl with
  | [y0], _ =>
    rw [e__law_own]
    unfold F__law_own g__law_own
    walk_at "nm"
    (try dsimp only [startA, startB, pm_c, pm_n, pa_c, pa_n, pr_s, pr_0, pl_c, pl_n, Nat.reduceAdd, Nat.reduceSub])
    walk_at "st"
    all_goals (try exact ())
def F__law_under (_law_error : D) : Res DErr D :=
  bO (qXiv ib_WorkError _law_error) fun v1 =>
  bO (qXiv ib_ValueError _law_error) fun v2 =>
  bO (qXiv ib_LookupError _law_error) fun v3 =>
  bO (qXiv ib_KeyError _law_error) fun v4 =>
  bO (qXiv ib_OverflowError _law_error) fun v5 =>
  bO (qXiv ib_RuntimeError _law_error) fun v6 =>
  bO (qAdd (.nd .lst [v1, v2, v3]) (.nd .lst [v4, v5, v6])) fun v7 =>
  .ok v7
def g__law_under : DS :=
  (dSeq (dSet 1 (dRes (dLstV (dACons (dUn (w1 (qXiv ib_WorkError)) (dVar 0)) (dACons (dUn (w1 (qXiv ib_ValueError)) (dVar 0)) (dACons (dUn (w1 (qXiv ib_LookupError)) (dVar 0)) dANil))))))
    (dRet (dRes (dOp (w2 qAdd) (dVar 1) (dLstV (dACons (dUn (w1 (qXiv ib_KeyError)) (dVar 0)) (dACons (dUn (w1 (qXiv ib_OverflowError)) (dVar 0)) (dACons (dUn (w1 (qXiv ib_RuntimeError)) (dVar 0)) dANil))))))))
def phi__law_under : SpA := phiA1 F__law_under
theorem e__law_under {y0 : D} {Ex : DErr → Prop} {Q : S → Prop} : phi__law_under [y0] Ex Q = wp (F__law_under y0) Ex (fun d => Q (.fz d)) := rfl
theorem law__law_under : ∀ ds Ex Q, ds.length = 1 → phi__law_under ds Ex Q → g__law_under (endsA Ex Q) (startA 2 ds) := by
  intro ds Ex Q hl
  match ds, hl with
  | [y0], _ =>
    rw [e__law_under]
    unfold F__law_under g__law_under
    walk_at "nm"
    (try dsimp only [startA, startB, pm_c, pm_n, pa_c, pa_n, pr_s, pr_0, pl_c, pl_n, Nat.reduceAdd, Nat.reduceSub])
    walk_at "st"
    all_goals (try exact ())
local macro_rules | `(tactic| walk_at "ds") => `(tactic| dsimp only [r_hn, r_hb, dVar, dC, dFz, dRes, dTst, dOp, w1, w2, wL, dUn, dNotT, dANil, dACons, dTup, dLstV, dCB, dcA, dcB, dSlV, dNoP, dSomeQ, dIt, dItA, dYes, gdName, gdT2L, dSet, dRet, dIfS, dNx, dLcV, ps_0, ps_s, stW, pap_c, pap_n, r_seq, r_for, r_thR, r_thB, r_thC, r_thX, r_loN, r_loC, r_loB, r_loR, r_loX, r_enN, r_enR, r_enX, r_atO, r_some, r_sDf, r_sDo, r_hide, r_map, r_map0, r_hf, r_ho, r_hu, r_cT, r_cF, rv0f, rv1f, rv2f, rv2o, ix2, rv3f, rv4f, rv5f, rv6f, rv7f, rv8f, rv9f])
def F_law_s2 (x : D) (_b : Unit) : Res DErr (Ctl D (Unit)) :=
  bO (qT2L x) fun t30 =>
  bR (F__law_own t30.2) fun v31 =>
  bO (qRng [(.int 15)]) fun l32 =>
  bO (qSz l32) fun l33 =>
  bR (noEx (ε := DErr) (mapR l33 fun x34 => bO (qEqL x34 t30.1) fun v36 =>
  .ok v36)) fun w35 =>
  bO (qNeL v31 (.nd .lst w35)) fun v37 =>
  bO (qBl v37) fun b38 =>
  cond b38
  (.ok (.rt (.bl false)))
  (.ok (.nx ()))
def F_law_s1 (k__law_script : D) (x : D) (_b : Unit) : Res DErr (Ctl D (Unit)) :=
  bR (F__law_pool k__law_script x) fun v6 =>
  bR (noEx (F__law_draw v6 (.int 99))) fun r7 =>
  bR (noEx (F__law_draw r7.2 (.int 4))) fun r8 =>
  bO (qIxA (.nd .lst [.non, r7.1, (.str "x"), (.nd .tup [(.int 1), (.int 2)])]) r8.1) fun v9 =>
  bR (F__law_fields_hold v9) fun v10 =>
  bO (qBl v10) fun b11 =>
  cond (!b11)
  (.ok (.rt (.bl false)))
  (bO (qErr 0 v9) fun v12 =>
  bO (qErr 1 v9) fun v13 =>
  bO (qErr 2 v9) fun v14 =>
  bO (qErr 3 v9) fun v15 =>
  bO (qErr 4 v9) fun v16 =>
  bO (qErr 5 v9) fun v17 =>
  bO (qErr 6 v9) fun v18 =>
  bO (qErr 7 v9) fun v19 =>
  bO (qErr 8 v9) fun v20 =>
  bO (qErr 9 v9) fun v21 =>
  bO (qAdd (.nd .lst [v12, v13, v14, v15, v16]) (.nd .lst [v17, v18, v19, v20, v21])) fun v22 =>
  bO (qErr 10 v9) fun v23 =>
  bO (qErr 11 v9) fun v24 =>
  bO (qErr 12 v9) fun v25 =>
  bO (qErr 13 v9) fun v26 =>
  bO (qAdd v22 (.nd .lst [v23, v24, v25, v26, (.nd (.exc 14) [])])) fun v27 =>
  bO (qEnumA [v27]) fun l28 =>
  bR (forR l28 () (F_law_s2)) fun j29 =>
  ctl j29 (fun r39 => .ok (.rt r39)) fun (_ : Unit) =>
  bO (qMul (.nd .lst [(.bl false)]) (.int 6)) fun v40 =>
  bO (qInt (.int 12)) fun i41 =>
  bO (qSl v27 none (some i41)) fun v42 =>
  bO (qIt v42) fun l43 =>
  bO (qSz l43) fun l44 =>
  bR (noEx (ε := DErr) (mapR l44 fun x45 => bR (F__law_under x45) fun v47 =>
  .ok v47)) fun w46 =>
  bO (qInt (.int 2)) fun i48 =>
  bO (qSl v40 (some i48) none) fun v49 =>
  bO (qAdd (.nd .lst [(.bl true), (.bl true)]) v49) fun v50 =>
  bO (qMul (.nd .lst [v50]) (.int 12)) fun v51 =>
  bO (qNeL (.nd .lst w46) v51) fun v52 =>
  bO (qBl v52) fun b53 =>
  cond b53
  (.ok (.rt (.bl false)))
  (bO (qInt (.int 4)) fun i54 =>
  bO (qSl v40 none (some i54)) fun v55 =>
  bO (qAdd v55 (.nd .lst [(.bl true), (.bl false)])) fun v56 =>
  bO (qInt (.int 2)) fun i57 =>
  bO (qSl v40 none (some i57)) fun v58 =>
  bO (qAdd v58 (.nd .lst [(.bl true), (.bl true), (.bl false), (.bl false)])) fun v59 =>
  bO (qInt (.int 5)) fun i60 =>
  bO (qSl v40 none (some i60)) fun v61 =>
  bO (qAdd v61 (.nd .lst [(.bl true)])) fun v62 =>
  bO (qInt (.int 12)) fun i63 =>
  bO (qSl v27 (some i63) none) fun v64 =>
  bO (qIt v64) fun l65 =>
  bO (qSz l65) fun l66 =>
  bR (noEx (ε := DErr) (mapR l66 fun x67 => bR (F__law_under x67) fun v69 =>
  .ok v69)) fun w68 =>
  bO (qNeL (.nd .lst w68) (.nd .lst [v56, v59, v62])) fun v70 =>
  bO (qBl v70) fun b71 =>
  cond b71
  (.ok (.rt (.bl false)))
  (.ok (.nx ()))))
def F_law (_law_script : D) : Res DErr D :=
  bO (qLen [_law_script]) fun v1 =>
  bO (qMin2 [v1, (.int 4)]) fun v2 =>
  bO (qMax2 [(.int 1), v2]) fun v3 =>
  bO (qRng [v3]) fun l4 =>
  bR (forR l4 () (F_law_s1 _law_script)) fun j5 =>
  ctl j5 (fun r72 => .ok r72) fun (_ : Unit) =>
  .ok (.bl true)
def g_law_b1 : DS :=
  (dIfS (dTst (dOp (w2 qNeL) (dFz (dcA phi__law_own (dACons (dVar 8) dANil))) (dLcV (dItA qRng (dACons (dC (.int 15)) dANil)) (gdName 9) dYes (dOp (w2 qEqL) (dVar 9) (dVar 7)) [9]))) (dRet (dRes (dC (.bl false)))) dNx)
def g_law_b2 : DS :=
  (dSeq (dSet 2 (dcA phi__law_pool (dACons (dVar 0) (dACons (dVar 1) dANil))))
    (dSeq (dSet 3 (dRes (dOp (w2 qIxA) (dLstV (dACons (dC .non) (dACons (dFz (dcB phi__law_draw 2 (dACons (dC (.int 99)) dANil))) (dACons (dC (.str "x")) (dACons (dTup (dACons (dC (.int 1)) (dACons (dC (.int 2)) dANil))) dANil))))) (dFz (dcB phi__law_draw 2 (dACons (dC (.int 4)) dANil))))))
    (dSeq (dIfS (dNotT (dTst (dFz (dcA phi__law_fields_hold (dACons (dVar 3) dANil))))) (dRet (dRes (dC (.bl false)))) dNx)
    (dSeq (dSet 4 (dRes (dLstV (dACons (dUn (w1 (qErr 0)) (dVar 3)) (dACons (dUn (w1 (qErr 1)) (dVar 3)) (dACons (dUn (w1 (qErr 2)) (dVar 3)) (dACons (dUn (w1 (qErr 3)) (dVar 3)) (dACons (dUn (w1 (qErr 4)) (dVar 3)) dANil))))))))
    (dSeq (dSet 4 (dRes (dOp (w2 qAdd) (dVar 4) (dLstV (dACons (dUn (w1 (qErr 5)) (dVar 3)) (dACons (dUn (w1 (qErr 6)) (dVar 3)) (dACons (dUn (w1 (qErr 7)) (dVar 3)) (dACons (dUn (w1 (qErr 8)) (dVar 3)) (dACons (dUn (w1 (qErr 9)) (dVar 3)) dANil)))))))))
    (dSeq (dSet 4 (dRes (dOp (w2 qAdd) (dVar 4) (dLstV (dACons (dUn (w1 (qErr 10)) (dVar 3)) (dACons (dUn (w1 (qErr 11)) (dVar 3)) (dACons (dUn (w1 (qErr 12)) (dVar 3)) (dACons (dUn (w1 (qErr 13)) (dVar 3)) (dACons dErr0 dANil)))))))))
    (dSeq (dFor (dItA qEnumA (dACons (dVar 4) dANil)) (gdT2L (gdName 7) (gdName 8)) g_law_b1)
    (dSeq (dSet 5 (dRes (dOp (w2 qMul) (dLstV (dACons (dC (.bl false)) dANil)) (dC (.int 6)))))
    (dSeq (dIfS (dTst (dOp (w2 qNeL) (dLcV (dIt qIt (dSlV (dVar 4) dNoP (dSomeQ (dC (.int 12))))) (gdName 8) dYes (dFz (dcA phi__law_under (dACons (dVar 8) dANil))) [8]) (dOp (w2 qMul) (dLstV (dACons (dOp (w2 qAdd) (dLstV (dACons (dC (.bl true)) (dACons (dC (.bl true)) dANil))) (dSlV (dVar 5) (dSomeQ (dC (.int 2))) dNoP)) dANil)) (dC (.int 12))))) (dRet (dRes (dC (.bl false)))) dNx)
    (dSeq (dSet 6 (dRes (dLstV (dACons (dOp (w2 qAdd) (dSlV (dVar 5) dNoP (dSomeQ (dC (.int 4)))) (dLstV (dACons (dC (.bl true)) (dACons (dC (.bl false)) dANil)))) (dACons (dOp (w2 qAdd) (dSlV (dVar 5) dNoP (dSomeQ (dC (.int 2)))) (dLstV (dACons (dC (.bl true)) (dACons (dC (.bl true)) (dACons (dC (.bl false)) (dACons (dC (.bl false)) dANil)))))) (dACons (dOp (w2 qAdd) (dSlV (dVar 5) dNoP (dSomeQ (dC (.int 5)))) (dLstV (dACons (dC (.bl true)) dANil))) dANil))))))
    (dIfS (dTst (dOp (w2 qNeL) (dLcV (dIt qIt (dSlV (dVar 4) (dSomeQ (dC (.int 12))) dNoP)) (gdName 8) dYes (dFz (dcA phi__law_under (dACons (dVar 8) dANil))) [8]) (dVar 6))) (dRet (dRes (dC (.bl false)))) dNx)))))))))))
def g_law : DS :=
  (dSeq (dFor (dItA qRng (dACons (dCB (wL qMax2) (dACons (dC (.int 1)) (dACons (dCB (wL qMin2) (dACons (dCB (wL qLen) (dACons (dVar 0) dANil)) (dACons (dC (.int 4)) dANil))) dANil))) dANil)) (gdName 1) g_law_b2)
    (dRet (dRes (dC (.bl true)))))
def phi_law : SpA := phiA1 F_law
theorem e_law {y0 : D} {Ex : DErr → Prop} {Q : S → Prop} : phi_law [y0] Ex Q = wp (F_law y0) Ex (fun d => Q (.fz d)) := rfl
local macro_rules | `(tactic| walk_at "st") => `(tactic| first | k_memK | (dsimp only [e__law_under, e__law_own, e__law_fields_hold, e__law_draw, e__law_pool]; walk_at "st") | (with_reducible refine st_then ?_; walk_at "st") | k_subL | (refine sim_mapSi (i := 2) (by with_unfolding_all exact rfl) (fun x o Q K hK => ?_) _ _ (fun ys o => ?_); (focus (walk_at "nm"; walk_at "st"; all_goals exact hK _ _ _ rfl)); ((try simp only [List.nil_append]); walk_at "st")) | mem_news | skip)
theorem lp_law_s2 {K : Unit → Prop} {de : DEnds} {k__law_script k__law_some : D}  {Ex : DErr → Prop} {R : D → Prop} (hx : ∀ e s, Ex e → de.ex e s) (hd : ∀  (j1 j2 j3 j5 j6 j7 j8 : S), K () → de.nx [.fz k__law_script, j1, j2, j3, .fz k__law_some, j5, j6, j7, j8, .un]) (hr : ∀ v s, R v → de.rt (.fz v) s) (items : List D)  (j1 j2 j3 j5 j6 j7 j8 : S) : wp (forR items () (F_law_s2)) Ex (fun c => ctlP c K K R) → dForL (gdT2L (gdName 7) (gdName 8)) g_law_b1 items de [.fz k__law_script, j1, j2, j3, .fz k__law_some, j5, j6, j7, j8, .un] := by
  refine sim_for (V := (fun b s => ∃ j1 j2 j3 j5 j6 j7 j8, s = [.fz k__law_script, j1, j2, j3, .fz k__law_some, j5, j6, j7, j8, .un])) ?_ ?_ items _ _ ⟨_, _, _, _, _, _, _, rfl⟩
  · rintro x b s K' B' nx bk ⟨j1, j2, j3, j5, j6, j7, j8, rfl⟩ hn hb
    unfold g_law_b1 F_law_s2
    walk_at "nm"
    walk_at "st"
    all_goals first | exact hn _ _ ⟨_, _, _, _, _, _, _, rfl⟩ | exact hx _ _ | exact hb _ _ ⟨_, _, _, _, _, _, _, rfl⟩ | exact hr _ _
  · rintro b s ⟨j1, j2, j3, j5, j6, j7, j8, rfl⟩
    exact hd _ _ _ _ _ _ _
local macro_rules | `(tactic| walk_at "st") => `(tactic| first | k_memK | (dsimp only [e__law_under, e__law_own, e__law_fields_hold, e__law_draw, e__law_pool]; walk_at "st") | (with_reducible refine st_then ?_; walk_at "st") | (refine lp_law_s2 (fun e s => ?_) (fun u0 u1 u2 u3 u4 u5 u6 => ?_) (fun v s => ?_) _ _ _ _ _ _ _ _ <;> walk_at "nm" <;> walk_at "st") | k_subL | (refine sim_mapSi (i := 2) (by with_unfolding_all exact rfl) (fun x o Q K hK => ?_) _ _ (fun ys o => ?_); (focus (walk_at "nm"; walk_at "st"; all_goals exact hK _ _ _ rfl)); ((try simp only [List.nil_append]); walk_at "st")) | mem_news | skip)
theorem lp_law_s1 {K : Unit → Prop} {de : DEnds} {k__law_script : D}  {Ex : DErr → Prop} {R : D → Prop} (hx : ∀ e s, Ex e → de.ex e s) (hd : ∀  (j1 j2 j3 j4 j5 j6 j7 j8 : S), K () → de.nx [.fz k__law_script, j1, j2, j3, j4, j5, j6, j7, j8, .un]) (hr : ∀ v s, R v → de.rt (.fz v) s) (items : List D)  (j1 j2 j3 j4 j5 j6 j7 j8 : S) : wp (forR items () (F_law_s1 k__law_script)) Ex (fun c => ctlP c K K R) → dForL (gdName 1) g_law_b2 items de [.fz k__law_script, j1, j2, j3, j4, j5, j6, j7, j8, .un] := by
  refine sim_for (V := (fun b s => ∃ j1 j2 j3 j4 j5 j6 j7 j8, s = [.fz k__law_script, j1, j2, j3, j4, j5, j6, j7, j8, .un])) ?_ ?_ items _ _ ⟨_, _, _, _, _, _, _, _, rfl⟩
  · rintro x b s K' B' nx bk ⟨j1, j2, j3, j4, j5, j6, j7, j8, rfl⟩ hn hb
    unfold g_law_b2 F_law_s1
    walk_at "nm"
    walk_at "st"
    all_goals first | exact hn _ _ ⟨_, _, _, _, _, _, _, _, rfl⟩ | exact hx _ _ | exact hb _ _ ⟨_, _, _, _, _, _, _, _, rfl⟩ | exact hr _ _
  · rintro b s ⟨j1, j2, j3, j4, j5, j6, j7, j8, rfl⟩
    exact hd _ _ _ _ _ _ _ _
local macro_rules | `(tactic| walk_at "st") => `(tactic| first | k_memK | (dsimp only [e__law_under, e__law_own, e__law_fields_hold, e__law_draw, e__law_pool]; walk_at "st") | (with_reducible refine st_then ?_; walk_at "st") | (refine lp_law_s2 (fun e s => ?_) (fun u0 u1 u2 u3 u4 u5 u6 => ?_) (fun v s => ?_) _ _ _ _ _ _ _ _ <;> walk_at "nm" <;> walk_at "st") | (refine lp_law_s1 (fun e s => ?_) (fun u0 u1 u2 u3 u4 u5 u6 u7 => ?_) (fun v s => ?_) _ _ _ _ _ _ _ _ _ <;> walk_at "nm" <;> walk_at "st") | k_subL | (refine sim_mapSi (i := 2) (by with_unfolding_all exact rfl) (fun x o Q K hK => ?_) _ _ (fun ys o => ?_); (focus (walk_at "nm"; walk_at "st"; all_goals exact hK _ _ _ rfl)); ((try simp only [List.nil_append]); walk_at "st")) | mem_news | skip)
theorem law_law : ∀ ds Ex Q, ds.length = 1 → phi_law ds Ex Q → g_law (endsA Ex Q) (startA 10 ds) := by
  intro ds Ex Q hl
  match ds, hl with
  | [y0], _ =>
    rw [e_law]
    unfold F_law g_law
    walk_at "nm"
    (try dsimp only [startA, startB, pm_c, pm_n, pa_c, pa_n, pr_s, pr_0, pl_c, pl_n, Nat.reduceAdd, Nat.reduceSub])
    walk_at "st"
    all_goals (try exact ())
end
abbrev pool (x y : Int) : D := .nd .lst [.int x, .int y]
def IsPool (p : D) : Prop := ∃ x y : Int, p = pool x y ∧ 0 ≤ x ∧ 0 ≤ y
theorem eq__law_draw {p : D} (hp : IsPool p) {m : Int} (hm : 0 < m) (hb : Bz 8000 m) : ∃ r p', F__law_draw p (.int m) = .ok (.int r, p') ∧ 0 ≤ r ∧ r < m ∧ IsPool p' := by
  obtain ⟨x, y, rfl, hx, hy⟩ := hp
  have dm := divB_of (b := 8000) (by omega) hb (by decide)
  have g0 : ∀ x y : Int, qIxL (pool x y) (.int 0) = some (.int x) := fun _ _ => rfl
  have g1 : ∀ x y : Int, qIxL (pool x y) (.int 1) = some (.int y) := fun _ _ => rfl
  have s0 : ∀ (x y : Int) (d : D), qSetA (pool x y) (.int 0) d = some (.nd .lst [d, .int y]) := fun _ _ _ => rfl
  have s1 : ∀ (x y : Int) (d : D), qSetA (pool x y) (.int 1) d = some (.nd .lst [.int x, d]) := fun _ _ _ => rfl
  unfold F__law_draw
  simp only [g0, bO_some, qGt_int, qBl_bl]
  by_cases h0 : 0 < x
  · simp only [h0, decide_true, cond_true, qMod_int (show m ≠ 0 by omega), qDiv_int dm, bO_some, s0]
    exact ⟨_, _, rfl, fmod_nn x hm, fmod_lt' x hm, _, _, rfl, fdiv_nn hx hm, hy⟩
  · have b1 : Bz 63 (48271 : Int) := by unfold Bz; decide
    have z0 := fmod_nn (y * 48271 + 11) (m := 2147483647) (by decide)
    have z1 := fmod_lt' (y * 48271 + 11) (m := 2147483647) (by decide)
    have bz : Bz 63 ((y * 48271 + 11).fmod 2147483647) := by unfold Bz; omega
    simp only [h0, decide_false, cond_false, g1, bO_some, qMul_int (mulB_small (.inr b1)), qAdd_int, qMod_int (show (2147483647 : Int) ≠ 0 by decide), s1, g1, qMul_int (mulB_small (.inl bz)), qMod_int (show (2147483629 : Int) ≠ 0 by decide), qDiv_int (show divB 16 = true by decide), qMod_int (show m ≠ 0 by omega)]
    exact ⟨_, _, rfl, fmod_nn _ hm, fmod_lt' _ hm, _, _, rfl, hx, z0⟩
theorem eq__law_pool {ns : List Int} {k : Int} (hl : ns.length ≤ 63) (hk0 : 0 ≤ k) (hk : k ≤ 1000) : ∃ p, F__law_pool (scr ns) (.int k) = .ok p ∧ IsPool p := by
  obtain ⟨ms, hms⟩ := cut_ints ns none (some 63)
  have e1 : qSl (scr ns) none (some 63) = some (.nd .lst (ms.map D.int)) := by unfold qSl; dsimp only; rw [hms]
  have e2 : qSum [.nd .lst (ms.map D.int)] = some (.int ms.sum) := by unfold qSum; dsimp only; rw [intsOf_map]; rfl
  have e3 : qLen [scr ns] = some (.int (ns.length : Int)) := by show some (D.int ((ns.map D.int).length : Int)) = _; rw [List.length_map]
  have b11 : Bz 63 (11 : Int) := by unfold Bz; decide
  have b4 : Bz 63 (48271 : Int) := by unfold Bz; decide
  have b7 : Bz 63 (7919 : Int) := by unfold Bz; decide
  have bk : Bz 63 k := by unfold Bz; omega
  have b31 : Bz 63 (31 : Int) := by unfold Bz; decide
  have rest : ∀ c : Int, ∃ p, (bO (qAbs [D.int c]) fun v6 => bO (qMod v6 (.int 2147483629)) fun v7 => bO (qMul (.int 7919) (.int k)) fun v8 => bO (qMul v8 (.int k)) fun v9 => bO (qAdd v7 v9) fun v10 => bO (qMul (.int 31) (.int k)) fun v11 => bO (qAdd v10 v11) fun v12 =>
      bO (qAdd v12 (.int 17)) fun v13 => bO (qMul v13 (.int 48271)) fun v14 => bO (qMod v14 (.int 2147483647)) fun v15 => bO (qPow (.int 10) (.int 18)) fun v16 => bO (qGe v6 v16) fun v17 => bO (qInt1 [v17]) fun v18 => bO (qMul v6 v18) fun v19 => bO (qMul v15 v15) fun v20 => bO (qMod v20 (.int 2147483629)) fun v21 =>
      (.ok (.nd .lst [v19, v21]) : Res DErr D)) = .ok p ∧ IsPool p := by
    intro c
    have e4 : qAbs [D.int c] = some (.int (c.natAbs : Int)) := by unfold qAbs; dsimp only; congr 2; split <;> omega
    have e5 : qPow (.int 10) (.int 18) = some (.int 1000000000000000000) := by kernel_rfl
    have e6 : qInt1 [D.bl (decide (1000000000000000000 ≤ (c.natAbs : Int)))] = some (.int (cond (decide (1000000000000000000 ≤ (c.natAbs : Int))) 1 0)) := rfl
    have b6 : Bz 63 (cond (decide (1000000000000000000 ≤ (c.natAbs : Int))) 1 0 : Int) := by cases decide (1000000000000000000 ≤ (c.natAbs : Int)) <;> (unfold Bz; decide)
    have z0 := fmod_nn ((((c.natAbs : Int).fmod 2147483629 + 7919 * k * k + 31 * k + 17)) * 48271) (m := 2147483647) (by decide)
    have z1 := fmod_lt' ((((c.natAbs : Int).fmod 2147483629 + 7919 * k * k + 31 * k + 17)) * 48271) (m := 2147483647) (by decide)
    have bz : Bz 63 (((((c.natAbs : Int).fmod 2147483629 + 7919 * k * k + 31 * k + 17)) * 48271).fmod 2147483647) := by unfold Bz; omega
    simp only [e4, e5, e6, bO_some, qMod_int (show (2147483629 : Int) ≠ 0 by decide), qMod_int (show (2147483647 : Int) ≠ 0 by decide), qMul_int (mulB_small (.inl b7)), qMul_int (mulB_small (.inr bk)), qAdd_int, qMul_int (mulB_small (.inl b31)), qMul_int (mulB_small (.inr b4)), qGe_int, qMul_int (mulB_small (.inr b6)), qMul_int (mulB_small (.inl bz))]
    refine ⟨_, rfl, _, _, rfl, Int.mul_nonneg (by omega) ?_, fmod_nn _ (by decide)⟩
    cases decide (1000000000000000000 ≤ (c.natAbs : Int)) <;> decide
  unfold F__law_pool
  simp only [qInt, bO_some, e1, e2, e3, qMul_int (mulB_small (.inl b11)), qAdd_int, qLt_int, qBl_bl]
  by_cases hlt : k < (ns.length : Int)
  · obtain ⟨v, hv⟩ := geti_map hk0 hlt
    have e4 : qIxA (scr ns) (.int k) = some (.int v) := by
      show (match qIxSeq (scr ns) (.int k) with | some d => some d | none => _) = _
      rw [show qIxSeq (scr ns) (.int k) = some (.int v) from hv]
    simp only [hlt, decide_true, cond_true, e4, bO_some, bR_ok]
    exact rest v
  · simp only [hlt, decide_false, cond_false, bR_ok]
    exact rest _
theorem bO_of {α β ε : Type} {o : Option α} {a : α} (h : o = some a) {f : α → Res ε β} : bO o f = f a := by rw [h]; rfl
theorem bR_of {α β ε : Type} {o : Res ε α} {a : α} (h : o = .ok a) {f : α → Res ε β} : bR o f = f a := by rw [h]; rfl
theorem bN_of {α β ε ε' : Type} {o : Res ε α} {a : α} (h : o = .ok a) {f : α → Res ε' β} : bR (noEx o) f = f a := by rw [h]; rfl
def pure0 : Nat → D → Bool
  | _, .non => true
  | _, .bl _ => true
  | _, .int _ => true
  | _, .str _ => true
  | n + 1, .nd .tup ds => ds.all (pure0 n)
  | n + 1, .nd .lst ds => ds.all (pure0 n)
  | _, _ => false
theorem pure_all {n : Nat} (k : ∀ d : D, pure0 n d = true → (py d).plain = true ∧ (py d).depth ≤ n + 1 ∧ PyData.eqv (py d) (py d) = true) :
    ∀ ds : List D, ds.all (pure0 n) = true → PyData.plainAll (pyL ds) = true ∧ PyData.depthAll (pyL ds) ≤ n + 1 ∧ PyData.eqvAll (pyL ds) (pyL ds) = true
  | [], _ => by simp [pyL, PyData.plainAll, PyData.depthAll, PyData.eqvAll]
  | d :: r, h => by
    rw [List.all_cons, Bool.and_eq_true] at h
    obtain ⟨h1, h2, h3⟩ := k d h.1
    obtain ⟨k1, k2, k3⟩ := pure_all k r h.2
    simp only [pyL, PyData.plainAll, PyData.depthAll, PyData.eqvAll, h1, h3, k1, k3, Bool.and_self, true_and, and_true]
    omega
theorem pure_of : ∀ (n : Nat) (d : D), pure0 n d = true → (py d).plain = true ∧ (py d).depth ≤ n + 1 ∧ PyData.eqv (py d) (py d) = true
  | n, .non, _ => by simp [py, PyData.plain, PyData.depth, PyData.eqv]
  | n, .bl _, _ => by simp [py, PyData.plain, PyData.depth, PyData.eqv]
  | n, .int _, _ => by simp [py, PyData.plain, PyData.depth, PyData.eqv]
  | n, .str _, _ => by simp [py, PyData.plain, PyData.depth, PyData.eqv]
  | n + 1, .nd .tup ds, h => by
    obtain ⟨k1, k2, k3⟩ := pure_all (pure_of n) ds (by unfold pure0 at h; exact h)
    simp only [py, PyData.plain, PyData.depth, PyData.eqv, k1, k3, true_and, and_true]
    omega
  | n + 1, .nd .lst ds, h => by
    obtain ⟨k1, k2, k3⟩ := pure_all (pure_of n) ds (by unfold pure0 at h; exact h)
    simp only [py, PyData.plain, PyData.depth, PyData.eqv, k1, k3, true_and, and_true]
    omega
  | 0, .nd .tup ds, h => by unfold pure0 at h; cases h
  | 0, .nd .lst ds, h => by unfold pure0 at h; cases h
  | n, .nd .scr ds, h => by cases n <;> (unfold pure0 at h; cases h)
  | n, .nd (.dic ks) ds, h => by cases n <;> (unfold pure0 at h; cases h)
  | n, .nd (.ins c fs) ds, h => by cases n <;> (unfold pure0 at h; cases h)
  | n, .nd (.exc k) ds, h => by cases n <;> (unfold pure0 at h; cases h)
  | n, .glo x, h => by cases n <;> (unfold pure0 at h; cases h)
theorem qEqL_pure04 {ds : List D} (h : pure0 5 (.nd .lst ds) = true) : qEqL (.nd .lst ds) (.nd .lst ds) = some (.bl true) := by
  cases ds with
  | nil => kernel_rfl
  | cons x r =>
    have hp := pure_of 5 _ h
    show qEq (.nd .lst (x :: r)) (.nd .lst (x :: r)) = _
    unfold qEq eqOk eqD
    rw [hp.1, hp.2.2, decide_eq_true (show min (py (.nd .lst (x :: r))).depth (py (.nd .lst (x :: r))).depth ≤ 60 by have := hp.2.1; omega)]
    rfl
theorem xfv_eq (k : Nat) (a : D) : qXfv k (.nd (.exc k) [a]) = some a := by
  show (if k = k then some a else none) = _
  rw [if_pos rfl]
theorem fields04 {a : D} (h : pure0 4 a = true) : F__law_fields_hold a = .ok (.bl true) := by
  have e : qEqL (.nd .lst [a, a, a, a, a, a, a, a, a, a, a, a, a, a]) (.nd .lst [a, a, a, a, a, a, a, a, a, a, a, a, a, a]) = some (.bl true) := qEqL_pure04 (by
    show List.all [a, a, a, a, a, a, a, a, a, a, a, a, a, a] (pure0 4) = true
    simp only [List.all_cons, h, List.all_nil, Bool.and_self])
  have m : qMul (.nd .lst [a]) (.int 14) = some (.nd .lst [a, a, a, a, a, a, a, a, a, a, a, a, a, a]) := by kernel_rfl
  unfold F__law_fields_hold
  simp only [qErr_eq, bO_some, xfv_eq]
  show bR (bO (qMul (.nd .lst [a]) (.int 14)) fun v66 => bO (qEqL (.nd .lst [a, a, a, a, a, a, a, a, a, a, a, a, a, a]) v66) fun v67 => bO (qBl v67) fun b68 =>
    cond b68 (bO (qEqL (.nd .lst [a, a, a, a, a, a, a, a, a, a, a, a, a, a]) (.nd .lst [a, a, a, a, a, a, a, a, a, a, a, a, a, a])) fun v69 => .ok v69) (.ok (.bl false))) (fun v65 => (.ok v65 : Res DErr D)) = _
  rw [bO_of m, bO_of e, bO_of qBl_bl, cond_true, bO_of e]
  rfl
theorem eq_s104 {ns : List Int} (hl : ns.length ≤ 63) {k : Int} (k0 : 0 ≤ k) (k1 : k ≤ 1000) : F_law_s1 (scr ns) (.int k) () = .ok (.nx ()) := by
  obtain ⟨p, a1, hp⟩ := eq__law_pool hl k0 k1
  obtain ⟨r, p1, a2, r0, r1, hp1⟩ := eq__law_draw hp (m := 99) (by decide) (by unfold Bz; decide)
  obtain ⟨i, p2, a3, i0, i1, _⟩ := eq__law_draw hp1 (m := 4) (by decide) (by unfold Bz; decide)
  unfold F_law_s1
  rw [bR_of a1, bN_of a2]
  dsimp only
  rw [bN_of a3]
  dsimp only
  obtain ⟨a, ha, hpa⟩ : ∃ a, qIxA (.nd .lst [.non, .int r, .str "x", .nd .tup [.int 1, .int 2]]) (.int i) = some a ∧ pure0 4 a = true := by
    have : i = 0 ∨ i = 1 ∨ i = 2 ∨ i = 3 := by omega
    rcases this with rfl | rfl | rfl | rfl
    · exact ⟨_, rfl, rfl⟩
    · exact ⟨_, rfl, rfl⟩
    · exact ⟨_, rfl, rfl⟩
    · exact ⟨_, rfl, rfl⟩
  rw [bO_of ha, bR_of (fields04 hpa), bO_of qBl_bl]
  simp only [Bool.not_true, cond_false, qErr_eq, bO_some]
  kernel_rfl
theorem fin_law : ∀ ns : List Int, ns.length ≤ 63 → F_law (scr ns) = .ok (.bl true) := by
  intro ns hl
  have ln : qLen [scr ns] = some (.int (ns.length : Nat)) := by show some (D.int ((ns.map D.int).length : Nat)) = _; rw [List.length_map]
  have key : ∀ j : Int, 0 ≤ j → j ≤ 20 → (bO (qRng [.int j]) fun l4 => bR (forR l4 () (F_law_s1 (scr ns))) fun j5 => ctl j5 (fun r9 => .ok r9) fun (_ : Unit) => (.ok (.bl true) : Res DErr D)) = .ok (.bl true) := by
    intro j h0 h1
    have er : qRng [.int j] = some (iota 0 j.toNat) := by
      show (if big j then some (iota 0 j.toNat) else none) = _
      rw [if_pos (by unfold big; simp only [Bool.and_eq_true, decide_eq_true_eq]; omega)]
    have ef : forR (ε := DErr) (iota 0 j.toNat) () (F_law_s1 (scr ns)) = .ok (.nx ()) := forR_unit _ fun x hx => by
      obtain ⟨k, rfl, k0, k1⟩ := mem_iota hx
      exact eq_s104 hl (by omega) (by omega)
    rw [er]
    simp only [bO_some, ef, bR_ok, ctl_nx]
  unfold F_law
  have e2 : qMin2 [.int (ns.length : Nat), .int 4] = some (.int (if (4 : Int) < (ns.length : Nat) then 4 else (ns.length : Nat))) := rfl
  have e3 : ∀ v : Int, qMax2 [.int 1, .int v] = some (.int (if v > 1 then v else 1)) := fun _ => rfl
  simp only [ln, e2, e3, bO_some]
  refine key _ ?_ ?_
  · split <;> omega
  · split
    · split <;> omega
    · split <;> omega
theorem kit_no {K : PySem.W.Frag} {C D : Addr} (hd : PySem.W.hasDictIn K D = true) (ht : PySem.W.typeIn K (.ref D) = some (.type "type")) (hs : PySem.W.subIn K (.ref C) (.ref D) = some false) (n2 : PySem.W.subIn K (.ref D) (.ref D) = some true) : PySem.W.kitOne K (.ref C) (.ref D) = some false := by
  unfold PySem.W.kitOne PySem.W.kitCls
  split
  · rename_i e
    exact absurd (hs.symm.trans ((congrArg (fun z => PySem.W.subIn K z (.ref D)) (eq_of_beq e)).trans n2)) (by simp)
  · dsimp only
    rw [cls_some hd, ht, hs]; rfl
def topS (i : Nat) : Stmt := PySem.Challenge.pw_pulleyworks_k04_classes_of_errors.main.body.getD i (.Pass ⟨0, 0, 0, 0⟩)
abbrev s__law_pool : Stmt := topS 18
theorem sc__law_pool : FnScope ["_law_script", "_law_k", "_law_cell", "_law_great", "_law_mixed"] ["_law_script", "_law_k"] (defScope s__law_pool) := ⟨rfl, rfl, rfl, by decide +kernel, rfl, by decide +kernel, by decide +kernel⟩
abbrev s__law_draw : Stmt := topS 19
theorem sc__law_draw : FnScope ["_law_pool_here", "_law_many", "_law_found"] ["_law_pool_here", "_law_many"] (defScope s__law_draw) := ⟨rfl, rfl, rfl, by decide +kernel, rfl, by decide +kernel, by decide +kernel⟩
abbrev s__law_fields_hold : Stmt := topS 22
theorem sc__law_fields_hold : FnScope ["_law_a", "_law_found", "_law_named"] ["_law_a"] (defScope s__law_fields_hold) := ⟨rfl, rfl, rfl, by decide +kernel, rfl, by decide +kernel, by decide +kernel⟩
abbrev s__law_own : Stmt := topS 21
theorem sc__law_own : FnScope ["_law_error", "_law_found"] ["_law_error"] (defScope s__law_own) := ⟨rfl, rfl, rfl, by decide +kernel, rfl, by decide +kernel, by decide +kernel⟩
abbrev s__law_under : Stmt := topS 20
theorem sc__law_under : FnScope ["_law_error", "_law_found"] ["_law_error"] (defScope s__law_under) := ⟨rfl, rfl, rfl, by decide +kernel, rfl, by decide +kernel, by decide +kernel⟩
abbrev s_law : Stmt := topS 23
theorem sc_law : FnScope ["_law_script", "_law_k", "_law_pool_here", "_law_a", "_law_some", "_law_no", "_law_expected", "_law_at", "_law_error", "_law_other"] ["_law_script"] (defScope s_law) := ⟨rfl, rfl, rfl, by decide +kernel, rfl, by decide +kernel, by decide +kernel⟩
structure Txt (P : Program) (K : PySem.W.Frag) (mg : Str → Option Value) (f__law_pool f__law_draw f__law_fields_hold f__law_own f__law_under f_law C_InvalidNumber i_InvalidNumber q_InvalidNumber d_eInvalidNumber C_InvalidWork i_InvalidWork q_InvalidWork d_eInvalidWork C_InvalidRope i_InvalidRope q_InvalidRope d_eInvalidRope C_InvalidMotion i_InvalidMotion q_InvalidMotion d_eInvalidMotion C_InvalidHeights i_InvalidHeights q_InvalidHeights d_eInvalidHeights C_InvalidLimits i_InvalidLimits q_InvalidLimits d_eInvalidLimits C_InvalidTensions i_InvalidTensions q_InvalidTensions d_eInvalidTensions C_InvalidName i_InvalidName q_InvalidName d_eInvalidName C_InvalidCommand i_InvalidCommand q_InvalidCommand d_eInvalidCommand C_ParseError i_ParseError q_ParseError d_eParseError C_NameClash i_NameClash q_NameClash d_eNameClash C_Weightless i_Weightless q_Weightless d_eWeightless C_LimitExceeded i_LimitExceeded q_LimitExceeded d_eLimitExceeded C_UnknownName i_UnknownName q_UnknownName d_eUnknownName C_NothingToUndo C_WorkError : Addr) (d__law_pool d__law_draw d__law_fields_hold d__law_own d__law_under d_law : FuncData) : Prop where
  E_InvalidNumber : ErrTxt P K mg "InvalidNumber" "value" C_InvalidNumber i_InvalidNumber q_InvalidNumber d_eInvalidNumber
  E_InvalidWork : ErrTxt P K mg "InvalidWork" "part" C_InvalidWork i_InvalidWork q_InvalidWork d_eInvalidWork
  E_InvalidRope : ErrTxt P K mg "InvalidRope" "name" C_InvalidRope i_InvalidRope q_InvalidRope d_eInvalidRope
  E_InvalidMotion : ErrTxt P K mg "InvalidMotion" "value" C_InvalidMotion i_InvalidMotion q_InvalidMotion d_eInvalidMotion
  E_InvalidHeights : ErrTxt P K mg "InvalidHeights" "value" C_InvalidHeights i_InvalidHeights q_InvalidHeights d_eInvalidHeights
  E_InvalidLimits : ErrTxt P K mg "InvalidLimits" "value" C_InvalidLimits i_InvalidLimits q_InvalidLimits d_eInvalidLimits
  E_InvalidTensions : ErrTxt P K mg "InvalidTensions" "value" C_InvalidTensions i_InvalidTensions q_InvalidTensions d_eInvalidTensions
  E_InvalidName : ErrTxt P K mg "InvalidName" "value" C_InvalidName i_InvalidName q_InvalidName d_eInvalidName
  E_InvalidCommand : ErrTxt P K mg "InvalidCommand" "word" C_InvalidCommand i_InvalidCommand q_InvalidCommand d_eInvalidCommand
  E_ParseError : ErrTxt P K mg "ParseError" "text" C_ParseError i_ParseError q_ParseError d_eParseError
  E_NameClash : ErrTxt P K mg "NameClash" "name" C_NameClash i_NameClash q_NameClash d_eNameClash
  E_Weightless : ErrTxt P K mg "Weightless" "hook" C_Weightless i_Weightless q_Weightless d_eWeightless
  E_LimitExceeded : ErrTxt P K mg "LimitExceeded" "count" C_LimitExceeded i_LimitExceeded q_LimitExceeded d_eLimitExceeded
  E_UnknownName : ErrTxt P K mg "UnknownName" "name" C_UnknownName i_UnknownName q_UnknownName d_eUnknownName
  gc_WorkError : mg "WorkError" = some (.ref C_WorkError)
  gc_InvalidNumber : mg "InvalidNumber" = some (.ref C_InvalidNumber)
  gc_InvalidWork : mg "InvalidWork" = some (.ref C_InvalidWork)
  gc_InvalidRope : mg "InvalidRope" = some (.ref C_InvalidRope)
  gc_InvalidMotion : mg "InvalidMotion" = some (.ref C_InvalidMotion)
  gc_InvalidHeights : mg "InvalidHeights" = some (.ref C_InvalidHeights)
  gc_InvalidLimits : mg "InvalidLimits" = some (.ref C_InvalidLimits)
  gc_InvalidTensions : mg "InvalidTensions" = some (.ref C_InvalidTensions)
  gc_InvalidName : mg "InvalidName" = some (.ref C_InvalidName)
  gc_InvalidCommand : mg "InvalidCommand" = some (.ref C_InvalidCommand)
  gc_ParseError : mg "ParseError" = some (.ref C_ParseError)
  gc_NameClash : mg "NameClash" = some (.ref C_NameClash)
  gc_Weightless : mg "Weightless" = some (.ref C_Weightless)
  gc_LimitExceeded : mg "LimitExceeded" = some (.ref C_LimitExceeded)
  gc_UnknownName : mg "UnknownName" = some (.ref C_UnknownName)
  gc_NothingToUndo : mg "NothingToUndo" = some (.ref C_NothingToUndo)
  nu : PySem.W.excIn K C_NothingToUndo [.type "RuntimeError", .type "Exception", .type "BaseException", .type "object"] "RuntimeError.__new__" = true ∧ PySem.W.keepIn K (.ref C_NothingToUndo) = true
  xf_name : ∀ k C, mg (exN k) = some (.ref C) → exF k = "name" → XfC K C ∧ PySem.W.findIn K (.ref C) "name" = some none
  xf_count : ∀ k C, mg (exN k) = some (.ref C) → exF k = "count" → XfC K C ∧ PySem.W.findIn K (.ref C) "count" = some none
  xf_hook : ∀ k C, mg (exN k) = some (.ref C) → exF k = "hook" → XfC K C ∧ PySem.W.findIn K (.ref C) "hook" = some none
  xf_text : ∀ k C, mg (exN k) = some (.ref C) → exF k = "text" → XfC K C ∧ PySem.W.findIn K (.ref C) "text" = some none
  xf_word : ∀ k C, mg (exN k) = some (.ref C) → exF k = "word" → XfC K C ∧ PySem.W.findIn K (.ref C) "word" = some none
  xf_value : ∀ k C, mg (exN k) = some (.ref C) → exF k = "value" → XfC K C ∧ PySem.W.findIn K (.ref C) "value" = some none
  xf_part : ∀ k C, mg (exN k) = some (.ref C) → exF k = "part" → XfC K C ∧ PySem.W.findIn K (.ref C) "part" = some none
  xi_NothingToUndo : ∀ k C, mg (exN k) = some (.ref C) → kxE K C ∧ PySem.W.kitOne K (.ref C) (.ref C_NothingToUndo) = some (ib_NothingToUndo k)
  xi_UnknownName : ∀ k C, mg (exN k) = some (.ref C) → kxE K C ∧ PySem.W.kitOne K (.ref C) (.ref C_UnknownName) = some (ib_UnknownName k)
  xi_LimitExceeded : ∀ k C, mg (exN k) = some (.ref C) → kxE K C ∧ PySem.W.kitOne K (.ref C) (.ref C_LimitExceeded) = some (ib_LimitExceeded k)
  xi_Weightless : ∀ k C, mg (exN k) = some (.ref C) → kxE K C ∧ PySem.W.kitOne K (.ref C) (.ref C_Weightless) = some (ib_Weightless k)
  xi_NameClash : ∀ k C, mg (exN k) = some (.ref C) → kxE K C ∧ PySem.W.kitOne K (.ref C) (.ref C_NameClash) = some (ib_NameClash k)
  xi_ParseError : ∀ k C, mg (exN k) = some (.ref C) → kxE K C ∧ PySem.W.kitOne K (.ref C) (.ref C_ParseError) = some (ib_ParseError k)
  xi_InvalidCommand : ∀ k C, mg (exN k) = some (.ref C) → kxE K C ∧ PySem.W.kitOne K (.ref C) (.ref C_InvalidCommand) = some (ib_InvalidCommand k)
  xi_InvalidName : ∀ k C, mg (exN k) = some (.ref C) → kxE K C ∧ PySem.W.kitOne K (.ref C) (.ref C_InvalidName) = some (ib_InvalidName k)
  xi_InvalidTensions : ∀ k C, mg (exN k) = some (.ref C) → kxE K C ∧ PySem.W.kitOne K (.ref C) (.ref C_InvalidTensions) = some (ib_InvalidTensions k)
  xi_InvalidLimits : ∀ k C, mg (exN k) = some (.ref C) → kxE K C ∧ PySem.W.kitOne K (.ref C) (.ref C_InvalidLimits) = some (ib_InvalidLimits k)
  xi_InvalidHeights : ∀ k C, mg (exN k) = some (.ref C) → kxE K C ∧ PySem.W.kitOne K (.ref C) (.ref C_InvalidHeights) = some (ib_InvalidHeights k)
  xi_InvalidMotion : ∀ k C, mg (exN k) = some (.ref C) → kxE K C ∧ PySem.W.kitOne K (.ref C) (.ref C_InvalidMotion) = some (ib_InvalidMotion k)
  xi_InvalidRope : ∀ k C, mg (exN k) = some (.ref C) → kxE K C ∧ PySem.W.kitOne K (.ref C) (.ref C_InvalidRope) = some (ib_InvalidRope k)
  xi_InvalidWork : ∀ k C, mg (exN k) = some (.ref C) → kxE K C ∧ PySem.W.kitOne K (.ref C) (.ref C_InvalidWork) = some (ib_InvalidWork k)
  xi_InvalidNumber : ∀ k C, mg (exN k) = some (.ref C) → kxE K C ∧ PySem.W.kitOne K (.ref C) (.ref C_InvalidNumber) = some (ib_InvalidNumber k)
  xi_RuntimeError : ∀ k C, mg (exN k) = some (.ref C) → kxE K C ∧ PySem.W.kitOne K (.ref C) (.type "RuntimeError") = some (ib_RuntimeError k)
  xi_OverflowError : ∀ k C, mg (exN k) = some (.ref C) → kxE K C ∧ PySem.W.kitOne K (.ref C) (.type "OverflowError") = some (ib_OverflowError k)
  xi_KeyError : ∀ k C, mg (exN k) = some (.ref C) → kxE K C ∧ PySem.W.kitOne K (.ref C) (.type "KeyError") = some (ib_KeyError k)
  xi_LookupError : ∀ k C, mg (exN k) = some (.ref C) → kxE K C ∧ PySem.W.kitOne K (.ref C) (.type "LookupError") = some (ib_LookupError k)
  xi_ValueError : ∀ k C, mg (exN k) = some (.ref C) → kxE K C ∧ PySem.W.kitOne K (.ref C) (.type "ValueError") = some (ib_ValueError k)
  xi_WorkError : ∀ k C, mg (exN k) = some (.ref C) → kxE K C ∧ PySem.W.kitOne K (.ref C) (.ref C_WorkError) = some (ib_WorkError k)
  b_int : mg "int" = none
  b_abs : mg "abs" = none
  b_len : mg "len" = none
  b_sum : mg "sum" = none
  b_isinstance : mg "isinstance" = none
  b_RuntimeError : mg "RuntimeError" = none
  b_OverflowError : mg "OverflowError" = none
  b_KeyError : mg "KeyError" = none
  b_LookupError : mg "LookupError" = none
  b_ValueError : mg "ValueError" = none
  b_min : mg "min" = none
  b_max : mg "max" = none
  b_range : mg "range" = none
  b_enumerate : mg "enumerate" = none
  F__law_pool : FunV K "_law_pool" "_law_pool" s__law_pool f__law_pool d__law_pool
  m__law_pool : mg "_law_pool" = some (.ref f__law_pool)
  b__law_pool_ : Binds K d__law_pool ["_law_script", "_law_k"] []
  F__law_draw : FunV K "_law_draw" "_law_draw" s__law_draw f__law_draw d__law_draw
  m__law_draw : mg "_law_draw" = some (.ref f__law_draw)
  b__law_draw_ : Binds K d__law_draw ["_law_pool_here", "_law_many"] []
  F__law_fields_hold : FunV K "_law_fields_hold" "_law_fields_hold" s__law_fields_hold f__law_fields_hold d__law_fields_hold
  m__law_fields_hold : mg "_law_fields_hold" = some (.ref f__law_fields_hold)
  b__law_fields_hold_ : Binds K d__law_fields_hold ["_law_a"] []
  F__law_own : FunV K "_law_own" "_law_own" s__law_own f__law_own d__law_own
  m__law_own : mg "_law_own" = some (.ref f__law_own)
  b__law_own_ : Binds K d__law_own ["_law_error"] []
  F__law_under : FunV K "_law_under" "_law_under" s__law_under f__law_under d__law_under
  m__law_under : mg "_law_under" = some (.ref f__law_under)
  b__law_under_ : Binds K d__law_under ["_law_error"] []
  F_law : FunV K "law" "law" s_law f_law d_law
  m_law : mg "law" = some (.ref f_law)
  b_law_ : Binds K d_law ["_law_script"] []
section
variable {P : Program} {w : World} {K : PySem.W.Frag} {mg : Str → Option Value} {base : Heap} {f__law_pool f__law_draw f__law_fields_hold f__law_own f__law_under f_law C_InvalidNumber i_InvalidNumber q_InvalidNumber d_eInvalidNumber C_InvalidWork i_InvalidWork q_InvalidWork d_eInvalidWork C_InvalidRope i_InvalidRope q_InvalidRope d_eInvalidRope C_InvalidMotion i_InvalidMotion q_InvalidMotion d_eInvalidMotion C_InvalidHeights i_InvalidHeights q_InvalidHeights d_eInvalidHeights C_InvalidLimits i_InvalidLimits q_InvalidLimits d_eInvalidLimits C_InvalidTensions i_InvalidTensions q_InvalidTensions d_eInvalidTensions C_InvalidName i_InvalidName q_InvalidName d_eInvalidName C_InvalidCommand i_InvalidCommand q_InvalidCommand d_eInvalidCommand C_ParseError i_ParseError q_ParseError d_eParseError C_NameClash i_NameClash q_NameClash d_eNameClash C_Weightless i_Weightless q_Weightless d_eWeightless C_LimitExceeded i_LimitExceeded q_LimitExceeded d_eLimitExceeded C_UnknownName i_UnknownName q_UnknownName d_eUnknownName C_NothingToUndo C_WorkError : Addr} {d__law_pool d__law_draw d__law_fields_hold d__law_own d__law_under d_law : FuncData}
theorem w__law_pool (T : Txt P K mg f__law_pool f__law_draw f__law_fields_hold f__law_own f__law_under f_law C_InvalidNumber i_InvalidNumber q_InvalidNumber d_eInvalidNumber C_InvalidWork i_InvalidWork q_InvalidWork d_eInvalidWork C_InvalidRope i_InvalidRope q_InvalidRope d_eInvalidRope C_InvalidMotion i_InvalidMotion q_InvalidMotion d_eInvalidMotion C_InvalidHeights i_InvalidHeights q_InvalidHeights d_eInvalidHeights C_InvalidLimits i_InvalidLimits q_InvalidLimits d_eInvalidLimits C_InvalidTensions i_InvalidTensions q_InvalidTensions d_eInvalidTensions C_InvalidName i_InvalidName q_InvalidName d_eInvalidName C_InvalidCommand i_InvalidCommand q_InvalidCommand d_eInvalidCommand C_ParseError i_ParseError q_ParseError d_eParseError C_NameClash i_NameClash q_NameClash d_eNameClash C_Weightless i_Weightless q_Weightless d_eWeightless C_LimitExceeded i_LimitExceeded q_LimitExceeded d_eLimitExceeded C_UnknownName i_UnknownName q_UnknownName d_eUnknownName C_NothingToUndo C_WorkError d__law_pool d__law_draw d__law_fields_hold d__law_own d__law_under d_law) : FnG P w K mg base 1 f__law_pool d__law_pool ["_law_script", "_law_k"] (toA K mg 2 phi__law_pool) := by
  refine okA T.F__law_pool sc__law_pool phi__law_pool g__law_pool (fun cdv A outer s H E hr => ?_) law__law_pool
  have tk := takes_of (X := cxOf (L2.CX P w) P w K mg base ["_law_script", "_law_k", "_law_cell", "_law_great", "_law_mixed"] "_law_pool" (defScope s__law_pool) f__law_pool cdv A outer s H E) (E := E) rfl rfl rfl rfl
  exact (pssd_cons (psd_set (i := 2) sc__law_pool.nd rfl (Or.inl rfl) (pod_d (pedA_op a_add (pedA_op a_mul ped_int (pedA_callB (k_sum rfl) rfl T.b_sum PyProof.Rows.boot_sum (pad_cons (pedA_sl (ped_var (pv 0)) pp_none (ppA_some ped_int)) pad_nil))) (ped_var (pv 1)))))
    (pssd_cons (psd_if (ptdA_cmp a_lt (ped_var (pv 1)) (pedA_callB k_len rfl T.b_len PySem.boot_len (pad_cons (ped_var (pv 0)) pad_nil))) (pssd_one (psd_set (i := 2) sc__law_pool.nd rfl (Or.inl rfl) (pod_d (pedA_ix (a_ixA hr) (ped_var (pv 0)) (ped_var (pv 1)))))) pssd_nil)
    (pssd_cons (psd_set (i := 3) sc__law_pool.nd rfl (Or.inl rfl) (pod_d (pedA_callB k_abs rfl T.b_abs PyProof.Rows.boot_abs (pad_cons (ped_var (pv 2)) pad_nil))))
    (pssd_cons (psd_set (i := 4) sc__law_pool.nd rfl (Or.inl rfl) (pod_d (pedA_op a_mod (pedA_op a_mul (pedA_op a_add (pedA_op a_add (pedA_op a_add (pedA_op a_mod (ped_var (pv 3)) ped_int) (pedA_op a_mul (pedA_op a_mul ped_int (ped_var (pv 1))) (ped_var (pv 1)))) (pedA_op a_mul ped_int (ped_var (pv 1)))) ped_int) ped_int) ped_int)))
    (pssd_one (psd_ret (pod_lst (pad_cons (pedA_op a_mul (ped_var (pv 3)) (pedA_callTy k_int1 rfl T.b_int PyProof.Rows.boot_int (pad_cons (pedA_cmp a_ge (ped_var (pv 3)) (pedA_op a_pow ped_int ped_int)) pad_nil))) (pad_cons (pedA_op a_mod (pedA_op a_mul (ped_var (pv 4)) (ped_var (pv 4))) ped_int) pad_nil)))))))))
theorem w__law_draw (T : Txt P K mg f__law_pool f__law_draw f__law_fields_hold f__law_own f__law_under f_law C_InvalidNumber i_InvalidNumber q_InvalidNumber d_eInvalidNumber C_InvalidWork i_InvalidWork q_InvalidWork d_eInvalidWork C_InvalidRope i_InvalidRope q_InvalidRope d_eInvalidRope C_InvalidMotion i_InvalidMotion q_InvalidMotion d_eInvalidMotion C_InvalidHeights i_InvalidHeights q_InvalidHeights d_eInvalidHeights C_InvalidLimits i_InvalidLimits q_InvalidLimits d_eInvalidLimits C_InvalidTensions i_InvalidTensions q_InvalidTensions d_eInvalidTensions C_InvalidName i_InvalidName q_InvalidName d_eInvalidName C_InvalidCommand i_InvalidCommand q_InvalidCommand d_eInvalidCommand C_ParseError i_ParseError q_ParseError d_eParseError C_NameClash i_NameClash q_NameClash d_eNameClash C_Weightless i_Weightless q_Weightless d_eWeightless C_LimitExceeded i_LimitExceeded q_LimitExceeded d_eLimitExceeded C_UnknownName i_UnknownName q_UnknownName d_eUnknownName C_NothingToUndo C_WorkError d__law_pool d__law_draw d__law_fields_hold d__law_own d__law_under d_law) : FnG P w K mg base 1 f__law_draw d__law_draw ["_law_pool_here", "_law_many"] (toB K mg 2 phi__law_draw) := by
  refine okB T.F__law_draw sc__law_draw phi__law_draw g__law_draw (fun cdv A outer s H E hr => ?_) law__law_draw
  have tk := takes_of (X := cxOf (L2.CX P w) P w K mg base ["_law_pool_here", "_law_many", "_law_found"] "_law_draw" (defScope s__law_draw) f__law_draw cdv A outer s H E) (E := E) rfl rfl rfl rfl
  exact (pssd_cons (psd_if (ptdA_cmp a_gt (ped_ixO (pv 0) ped_int) ped_int) (pssd_cons (psd_set (i := 2) sc__law_draw.nd rfl (Or.inl rfl) (pod_d (pedA_op a_mod (ped_ixO (pv 0) ped_int) (ped_var (pv 1)))))
    (pssd_cons (psdA_store (room1 hr) (pv 0) ped_int (pedA_op a_div (ped_ixO (pv 0) ped_int) (ped_var (pv 1))))
    (pssd_one (psd_ret (pod_d (ped_var (pv 2))))))) pssd_nil)
    (pssd_cons (psdA_store (room1 hr) (pv 0) ped_int (pedA_op a_mod (pedA_op a_add (pedA_op a_mul (ped_ixO (pv 0) ped_int) ped_int) ped_int) ped_int))
    (pssd_one (psd_ret (pod_d (pedA_op a_mod (pedA_op a_div (pedA_op a_mod (pedA_op a_mul (ped_ixO (pv 0) ped_int) (ped_ixO (pv 0) ped_int)) ped_int) ped_int) (ped_var (pv 1))))))))
theorem w__law_fields_hold (T : Txt P K mg f__law_pool f__law_draw f__law_fields_hold f__law_own f__law_under f_law C_InvalidNumber i_InvalidNumber q_InvalidNumber d_eInvalidNumber C_InvalidWork i_InvalidWork q_InvalidWork d_eInvalidWork C_InvalidRope i_InvalidRope q_InvalidRope d_eInvalidRope C_InvalidMotion i_InvalidMotion q_InvalidMotion d_eInvalidMotion C_InvalidHeights i_InvalidHeights q_InvalidHeights d_eInvalidHeights C_InvalidLimits i_InvalidLimits q_InvalidLimits d_eInvalidLimits C_InvalidTensions i_InvalidTensions q_InvalidTensions d_eInvalidTensions C_InvalidName i_InvalidName q_InvalidName d_eInvalidName C_InvalidCommand i_InvalidCommand q_InvalidCommand d_eInvalidCommand C_ParseError i_ParseError q_ParseError d_eParseError C_NameClash i_NameClash q_NameClash d_eNameClash C_Weightless i_Weightless q_Weightless d_eWeightless C_LimitExceeded i_LimitExceeded q_LimitExceeded d_eLimitExceeded C_UnknownName i_UnknownName q_UnknownName d_eUnknownName C_NothingToUndo C_WorkError d__law_pool d__law_draw d__law_fields_hold d__law_own d__law_under d_law) : FnG P w K mg base 2 f__law_fields_hold d__law_fields_hold ["_law_a"] (toA K mg 1 phi__law_fields_hold) := by
  refine okA T.F__law_fields_hold sc__law_fields_hold phi__law_fields_hold g__law_fields_hold (fun cdv A outer s H E hr => ?_) law__law_fields_hold
  have tk := takes_of (X := cxOf (L2.CX P w) P w K mg base ["_law_a", "_law_found", "_law_named"] "_law_fields_hold" (defScope s__law_fields_hold) f__law_fields_hold cdv A outer s H E) (E := E) rfl rfl rfl rfl
  exact (pssd_cons (psd_set (i := 1) sc__law_fields_hold.nd rfl (Or.inl rfl) (pod_d (pedA_lst (pad_cons (ped_xfv (k := 0) (by decide) rfl T.xf_value (ped_err (k := 0) T.E_InvalidNumber rfl rfl (by decide) fld_value (hr.mono (by decide) : RoomG 1 _) (ped_var (pv 0)) rfl)) (pad_cons (ped_xfv (k := 1) (by decide) rfl T.xf_part (ped_err (k := 1) T.E_InvalidWork rfl rfl (by decide) fld_part (hr.mono (by decide) : RoomG 1 _) (ped_var (pv 0)) rfl)) (pad_cons (ped_xfv (k := 2) (by decide) rfl T.xf_name (ped_err (k := 2) T.E_InvalidRope rfl rfl (by decide) fld_name (hr.mono (by decide) : RoomG 1 _) (ped_var (pv 0)) rfl)) (pad_cons (ped_xfv (k := 3) (by decide) rfl T.xf_value (ped_err (k := 3) T.E_InvalidMotion rfl rfl (by decide) fld_value (hr.mono (by decide) : RoomG 1 _) (ped_var (pv 0)) rfl)) pad_nil)))))))
    (pssd_cons (psd_set (i := 1) sc__law_fields_hold.nd rfl (Or.inl rfl) (pod_d (pedA_op a_add (ped_var (pv 1)) (pedA_lst (pad_cons (ped_xfv (k := 4) (by decide) rfl T.xf_value (ped_err (k := 4) T.E_InvalidHeights rfl rfl (by decide) fld_value (hr.mono (by decide) : RoomG 1 _) (ped_var (pv 0)) rfl)) (pad_cons (ped_xfv (k := 5) (by decide) rfl T.xf_value (ped_err (k := 5) T.E_InvalidLimits rfl rfl (by decide) fld_value (hr.mono (by decide) : RoomG 1 _) (ped_var (pv 0)) rfl)) (pad_cons (ped_xfv (k := 6) (by decide) rfl T.xf_value (ped_err (k := 6) T.E_InvalidTensions rfl rfl (by decide) fld_value (hr.mono (by decide) : RoomG 1 _) (ped_var (pv 0)) rfl)) pad_nil)))))))
    (pssd_cons (psd_set (i := 1) sc__law_fields_hold.nd rfl (Or.inl rfl) (pod_d (pedA_op a_add (ped_var (pv 1)) (pedA_lst (pad_cons (ped_xfv (k := 7) (by decide) rfl T.xf_value (ped_err (k := 7) T.E_InvalidName rfl rfl (by decide) fld_value (hr.mono (by decide) : RoomG 1 _) (ped_var (pv 0)) rfl)) pad_nil)))))
    (pssd_cons (psd_set (i := 1) sc__law_fields_hold.nd rfl (Or.inl rfl) (pod_d (pedA_op a_add (ped_var (pv 1)) (pedA_lst (pad_cons (ped_xfv (k := 8) (by decide) rfl T.xf_word (ped_err (k := 8) T.E_InvalidCommand rfl rfl (by decide) fld_word (hr.mono (by decide) : RoomG 1 _) (ped_var (pv 0)) rfl)) (pad_cons (ped_xfv (k := 9) (by decide) rfl T.xf_text (ped_err (k := 9) T.E_ParseError rfl rfl (by decide) fld_text (hr.mono (by decide) : RoomG 1 _) (ped_var (pv 0)) rfl)) (pad_cons (ped_xfv (k := 10) (by decide) rfl T.xf_name (ped_err (k := 10) T.E_NameClash rfl rfl (by decide) fld_name (hr.mono (by decide) : RoomG 1 _) (ped_var (pv 0)) rfl)) (pad_cons (ped_xfv (k := 11) (by decide) rfl T.xf_hook (ped_err (k := 11) T.E_Weightless rfl rfl (by decide) fld_hook (hr.mono (by decide) : RoomG 1 _) (ped_var (pv 0)) rfl)) pad_nil))))))))
    (pssd_cons (psd_set (i := 1) sc__law_fields_hold.nd rfl (Or.inl rfl) (pod_d (pedA_op a_add (ped_var (pv 1)) (pedA_lst (pad_cons (ped_xfv (k := 12) (by decide) rfl T.xf_count (ped_err (k := 12) T.E_LimitExceeded rfl rfl (by decide) fld_count (hr.mono (by decide) : RoomG 1 _) (ped_var (pv 0)) rfl)) (pad_cons (ped_xfv (k := 13) (by decide) rfl T.xf_name (ped_err (k := 13) T.E_UnknownName rfl rfl (by decide) fld_name (hr.mono (by decide) : RoomG 1 _) (ped_var (pv 0)) rfl)) pad_nil))))))
    (pssd_cons (psd_set (i := 2) sc__law_fields_hold.nd rfl (Or.inl rfl) (pod_d (pedA_lst (pad_cons (ped_xfv (k := 0) (by decide) rfl T.xf_value (ped_errK (k := 0) T.E_InvalidNumber rfl rfl (by decide) fld_value fldk_value (hr.mono (by decide) : RoomG 1 _) (ped_var (pv 0)) rfl)) (pad_cons (ped_xfv (k := 1) (by decide) rfl T.xf_part (ped_errK (k := 1) T.E_InvalidWork rfl rfl (by decide) fld_part fldk_part (hr.mono (by decide) : RoomG 1 _) (ped_var (pv 0)) rfl)) (pad_cons (ped_xfv (k := 2) (by decide) rfl T.xf_name (ped_errK (k := 2) T.E_InvalidRope rfl rfl (by decide) fld_name fldk_name (hr.mono (by decide) : RoomG 1 _) (ped_var (pv 0)) rfl)) pad_nil))))))
    (pssd_cons (psd_set (i := 2) sc__law_fields_hold.nd rfl (Or.inl rfl) (pod_d (pedA_op a_add (ped_var (pv 2)) (pedA_lst (pad_cons (ped_xfv (k := 3) (by decide) rfl T.xf_value (ped_errK (k := 3) T.E_InvalidMotion rfl rfl (by decide) fld_value fldk_value (hr.mono (by decide) : RoomG 1 _) (ped_var (pv 0)) rfl)) (pad_cons (ped_xfv (k := 4) (by decide) rfl T.xf_value (ped_errK (k := 4) T.E_InvalidHeights rfl rfl (by decide) fld_value fldk_value (hr.mono (by decide) : RoomG 1 _) (ped_var (pv 0)) rfl)) (pad_cons (ped_xfv (k := 5) (by decide) rfl T.xf_value (ped_errK (k := 5) T.E_InvalidLimits rfl rfl (by decide) fld_value fldk_value (hr.mono (by decide) : RoomG 1 _) (ped_var (pv 0)) rfl)) pad_nil)))))))
    (pssd_cons (psd_set (i := 2) sc__law_fields_hold.nd rfl (Or.inl rfl) (pod_d (pedA_op a_add (ped_var (pv 2)) (pedA_lst (pad_cons (ped_xfv (k := 6) (by decide) rfl T.xf_value (ped_errK (k := 6) T.E_InvalidTensions rfl rfl (by decide) fld_value fldk_value (hr.mono (by decide) : RoomG 1 _) (ped_var (pv 0)) rfl)) (pad_cons (ped_xfv (k := 7) (by decide) rfl T.xf_value (ped_errK (k := 7) T.E_InvalidName rfl rfl (by decide) fld_value fldk_value (hr.mono (by decide) : RoomG 1 _) (ped_var (pv 0)) rfl)) (pad_cons (ped_xfv (k := 8) (by decide) rfl T.xf_word (ped_errK (k := 8) T.E_InvalidCommand rfl rfl (by decide) fld_word fldk_word (hr.mono (by decide) : RoomG 1 _) (ped_var (pv 0)) rfl)) pad_nil)))))))
    (pssd_cons (psd_set (i := 2) sc__law_fields_hold.nd rfl (Or.inl rfl) (pod_d (pedA_op a_add (ped_var (pv 2)) (pedA_lst (pad_cons (ped_xfv (k := 9) (by decide) rfl T.xf_text (ped_errK (k := 9) T.E_ParseError rfl rfl (by decide) fld_text fldk_text (hr.mono (by decide) : RoomG 1 _) (ped_var (pv 0)) rfl)) (pad_cons (ped_xfv (k := 10) (by decide) rfl T.xf_name (ped_errK (k := 10) T.E_NameClash rfl rfl (by decide) fld_name fldk_name (hr.mono (by decide) : RoomG 1 _) (ped_var (pv 0)) rfl)) (pad_cons (ped_xfv (k := 11) (by decide) rfl T.xf_hook (ped_errK (k := 11) T.E_Weightless rfl rfl (by decide) fld_hook fldk_hook (hr.mono (by decide) : RoomG 1 _) (ped_var (pv 0)) rfl)) pad_nil)))))))
    (pssd_cons (psd_set (i := 2) sc__law_fields_hold.nd rfl (Or.inl rfl) (pod_d (pedA_op a_add (ped_var (pv 2)) (pedA_lst (pad_cons (ped_xfv (k := 12) (by decide) rfl T.xf_count (ped_errK (k := 12) T.E_LimitExceeded rfl rfl (by decide) fld_count fldk_count (hr.mono (by decide) : RoomG 1 _) (ped_var (pv 0)) rfl)) (pad_cons (ped_xfv (k := 13) (by decide) rfl T.xf_name (ped_errK (k := 13) T.E_UnknownName rfl rfl (by decide) fld_name fldk_name (hr.mono (by decide) : RoomG 1 _) (ped_var (pv 0)) rfl)) pad_nil))))))
    (pssd_one (psd_ret (pod_d (ped_and (pedA_cmp (a_eqL hr) (ped_var (pv 1)) (pedA_op a_mul (pedA_lst (pad_cons (ped_var (pv 0)) pad_nil)) ped_int)) (ped_one (pedA_cmp (a_eqL hr) (ped_var (pv 2)) (ped_var (pv 1))))))))))))))))))
theorem w__law_own (T : Txt P K mg f__law_pool f__law_draw f__law_fields_hold f__law_own f__law_under f_law C_InvalidNumber i_InvalidNumber q_InvalidNumber d_eInvalidNumber C_InvalidWork i_InvalidWork q_InvalidWork d_eInvalidWork C_InvalidRope i_InvalidRope q_InvalidRope d_eInvalidRope C_InvalidMotion i_InvalidMotion q_InvalidMotion d_eInvalidMotion C_InvalidHeights i_InvalidHeights q_InvalidHeights d_eInvalidHeights C_InvalidLimits i_InvalidLimits q_InvalidLimits d_eInvalidLimits C_InvalidTensions i_InvalidTensions q_InvalidTensions d_eInvalidTensions C_InvalidName i_InvalidName q_InvalidName d_eInvalidName C_InvalidCommand i_InvalidCommand q_InvalidCommand d_eInvalidCommand C_ParseError i_ParseError q_ParseError d_eParseError C_NameClash i_NameClash q_NameClash d_eNameClash C_Weightless i_Weightless q_Weightless d_eWeightless C_LimitExceeded i_LimitExceeded q_LimitExceeded d_eLimitExceeded C_UnknownName i_UnknownName q_UnknownName d_eUnknownName C_NothingToUndo C_WorkError d__law_pool d__law_draw d__law_fields_hold d__law_own d__law_under d_law) : FnG P w K mg base 1 f__law_own d__law_own ["_law_error"] (toA K mg 1 phi__law_own) := by
  refine okA T.F__law_own sc__law_own phi__law_own g__law_own (fun cdv A outer s H E hr => ?_) law__law_own
  have tk := takes_of (X := cxOf (L2.CX P w) P w K mg base ["_law_error", "_law_found"] "_law_own" (defScope s__law_own) f__law_own cdv A outer s H E) (E := E) rfl rfl rfl rfl
  exact (pssd_cons (psd_set (i := 1) sc__law_own.nd rfl (Or.inl rfl) (pod_d (pedA_lst (pad_cons (ped_isv T.xi_InvalidNumber (ped_var (pv 0)) (pe_glob (v := .ref C_InvalidNumber) rfl T.gc_InvalidNumber rfl) (fun _ h => h) rfl T.b_isinstance) (pad_cons (ped_isv T.xi_InvalidWork (ped_var (pv 0)) (pe_glob (v := .ref C_InvalidWork) rfl T.gc_InvalidWork rfl) (fun _ h => h) rfl T.b_isinstance) (pad_cons (ped_isv T.xi_InvalidRope (ped_var (pv 0)) (pe_glob (v := .ref C_InvalidRope) rfl T.gc_InvalidRope rfl) (fun _ h => h) rfl T.b_isinstance) pad_nil))))))
    (pssd_cons (psd_set (i := 1) sc__law_own.nd rfl (Or.inl rfl) (pod_d (pedA_op a_add (ped_var (pv 1)) (pedA_lst (pad_cons (ped_isv T.xi_InvalidMotion (ped_var (pv 0)) (pe_glob (v := .ref C_InvalidMotion) rfl T.gc_InvalidMotion rfl) (fun _ h => h) rfl T.b_isinstance) (pad_cons (ped_isv T.xi_InvalidHeights (ped_var (pv 0)) (pe_glob (v := .ref C_InvalidHeights) rfl T.gc_InvalidHeights rfl) (fun _ h => h) rfl T.b_isinstance) pad_nil))))))
    (pssd_cons (psd_set (i := 1) sc__law_own.nd rfl (Or.inl rfl) (pod_d (pedA_op a_add (ped_var (pv 1)) (pedA_lst (pad_cons (ped_isv T.xi_InvalidLimits (ped_var (pv 0)) (pe_glob (v := .ref C_InvalidLimits) rfl T.gc_InvalidLimits rfl) (fun _ h => h) rfl T.b_isinstance) (pad_cons (ped_isv T.xi_InvalidTensions (ped_var (pv 0)) (pe_glob (v := .ref C_InvalidTensions) rfl T.gc_InvalidTensions rfl) (fun _ h => h) rfl T.b_isinstance) pad_nil))))))
    (pssd_cons (psd_set (i := 1) sc__law_own.nd rfl (Or.inl rfl) (pod_d (pedA_op a_add (ped_var (pv 1)) (pedA_lst (pad_cons (ped_isv T.xi_InvalidName (ped_var (pv 0)) (pe_glob (v := .ref C_InvalidName) rfl T.gc_InvalidName rfl) (fun _ h => h) rfl T.b_isinstance) (pad_cons (ped_isv T.xi_InvalidCommand (ped_var (pv 0)) (pe_glob (v := .ref C_InvalidCommand) rfl T.gc_InvalidCommand rfl) (fun _ h => h) rfl T.b_isinstance) pad_nil))))))
    (pssd_cons (psd_set (i := 1) sc__law_own.nd rfl (Or.inl rfl) (pod_d (pedA_op a_add (ped_var (pv 1)) (pedA_lst (pad_cons (ped_isv T.xi_ParseError (ped_var (pv 0)) (pe_glob (v := .ref C_ParseError) rfl T.gc_ParseError rfl) (fun _ h => h) rfl T.b_isinstance) (pad_cons (ped_isv T.xi_NameClash (ped_var (pv 0)) (pe_glob (v := .ref C_NameClash) rfl T.gc_NameClash rfl) (fun _ h => h) rfl T.b_isinstance) (pad_cons (ped_isv T.xi_Weightless (ped_var (pv 0)) (pe_glob (v := .ref C_Weightless) rfl T.gc_Weightless rfl) (fun _ h => h) rfl T.b_isinstance) pad_nil)))))))
    (pssd_cons (psd_set (i := 1) sc__law_own.nd rfl (Or.inl rfl) (pod_d (pedA_op a_add (ped_var (pv 1)) (pedA_lst (pad_cons (ped_isv T.xi_LimitExceeded (ped_var (pv 0)) (pe_glob (v := .ref C_LimitExceeded) rfl T.gc_LimitExceeded rfl) (fun _ h => h) rfl T.b_isinstance) (pad_cons (ped_isv T.xi_UnknownName (ped_var (pv 0)) (pe_glob (v := .ref C_UnknownName) rfl T.gc_UnknownName rfl) (fun _ h => h) rfl T.b_isinstance) pad_nil))))))
    (pssd_one (psd_ret (pod_d (pedA_op a_add (ped_var (pv 1)) (pedA_lst (pad_cons (ped_isv T.xi_NothingToUndo (ped_var (pv 0)) (pe_glob (v := .ref C_NothingToUndo) rfl T.gc_NothingToUndo rfl) (fun _ h => h) rfl T.b_isinstance) pad_nil))))))))))))
theorem w__law_under (T : Txt P K mg f__law_pool f__law_draw f__law_fields_hold f__law_own f__law_under f_law C_InvalidNumber i_InvalidNumber q_InvalidNumber d_eInvalidNumber C_InvalidWork i_InvalidWork q_InvalidWork d_eInvalidWork C_InvalidRope i_InvalidRope q_InvalidRope d_eInvalidRope C_InvalidMotion i_InvalidMotion q_InvalidMotion d_eInvalidMotion C_InvalidHeights i_InvalidHeights q_InvalidHeights d_eInvalidHeights C_InvalidLimits i_InvalidLimits q_InvalidLimits d_eInvalidLimits C_InvalidTensions i_InvalidTensions q_InvalidTensions d_eInvalidTensions C_InvalidName i_InvalidName q_InvalidName d_eInvalidName C_InvalidCommand i_InvalidCommand q_InvalidCommand d_eInvalidCommand C_ParseError i_ParseError q_ParseError d_eParseError C_NameClash i_NameClash q_NameClash d_eNameClash C_Weightless i_Weightless q_Weightless d_eWeightless C_LimitExceeded i_LimitExceeded q_LimitExceeded d_eLimitExceeded C_UnknownName i_UnknownName q_UnknownName d_eUnknownName C_NothingToUndo C_WorkError d__law_pool d__law_draw d__law_fields_hold d__law_own d__law_under d_law) : FnG P w K mg base 1 f__law_under d__law_under ["_law_error"] (toA K mg 1 phi__law_under) := by
  refine okA T.F__law_under sc__law_under phi__law_under g__law_under (fun cdv A outer s H E hr => ?_) law__law_under
  have tk := takes_of (X := cxOf (L2.CX P w) P w K mg base ["_law_error", "_law_found"] "_law_under" (defScope s__law_under) f__law_under cdv A outer s H E) (E := E) rfl rfl rfl rfl
  exact (pssd_cons (psd_set (i := 1) sc__law_under.nd rfl (Or.inl rfl) (pod_d (pedA_lst (pad_cons (ped_isv T.xi_WorkError (ped_var (pv 0)) (pe_glob (v := .ref C_WorkError) rfl T.gc_WorkError rfl) (fun _ h => h) rfl T.b_isinstance) (pad_cons (ped_isv (c := .ty "ValueError") (cv := .type "ValueError") T.xi_ValueError (ped_var (pv 0)) (pe_bltn rfl T.b_ValueError bootE_ValueError rfl) (fun _ h => h) rfl T.b_isinstance) (pad_cons (ped_isv (c := .ty "LookupError") (cv := .type "LookupError") T.xi_LookupError (ped_var (pv 0)) (pe_bltn rfl T.b_LookupError bootE_LookupError rfl) (fun _ h => h) rfl T.b_isinstance) pad_nil))))))
    (pssd_one (psd_ret (pod_d (pedA_op a_add (ped_var (pv 1)) (pedA_lst (pad_cons (ped_isv (c := .ty "KeyError") (cv := .type "KeyError") T.xi_KeyError (ped_var (pv 0)) (pe_bltn rfl T.b_KeyError bootE_KeyError rfl) (fun _ h => h) rfl T.b_isinstance) (pad_cons (ped_isv (c := .ty "OverflowError") (cv := .type "OverflowError") T.xi_OverflowError (ped_var (pv 0)) (pe_bltn rfl T.b_OverflowError bootE_OverflowError rfl) (fun _ h => h) rfl T.b_isinstance) (pad_cons (ped_isv (c := .ty "RuntimeError") (cv := .type "RuntimeError") T.xi_RuntimeError (ped_var (pv 0)) (pe_bltn rfl T.b_RuntimeError bootE_RuntimeError rfl) (fun _ h => h) rfl T.b_isinstance) pad_nil)))))))))
theorem w_law (T : Txt P K mg f__law_pool f__law_draw f__law_fields_hold f__law_own f__law_under f_law C_InvalidNumber i_InvalidNumber q_InvalidNumber d_eInvalidNumber C_InvalidWork i_InvalidWork q_InvalidWork d_eInvalidWork C_InvalidRope i_InvalidRope q_InvalidRope d_eInvalidRope C_InvalidMotion i_InvalidMotion q_InvalidMotion d_eInvalidMotion C_InvalidHeights i_InvalidHeights q_InvalidHeights d_eInvalidHeights C_InvalidLimits i_InvalidLimits q_InvalidLimits d_eInvalidLimits C_InvalidTensions i_InvalidTensions q_InvalidTensions d_eInvalidTensions C_InvalidName i_InvalidName q_InvalidName d_eInvalidName C_InvalidCommand i_InvalidCommand q_InvalidCommand d_eInvalidCommand C_ParseError i_ParseError q_ParseError d_eParseError C_NameClash i_NameClash q_NameClash d_eNameClash C_Weightless i_Weightless q_Weightless d_eWeightless C_LimitExceeded i_LimitExceeded q_LimitExceeded d_eLimitExceeded C_UnknownName i_UnknownName q_UnknownName d_eUnknownName C_NothingToUndo C_WorkError d__law_pool d__law_draw d__law_fields_hold d__law_own d__law_under d_law) (G__law_under : FnG P w K mg base 1 f__law_under d__law_under ["_law_error"] (toA K mg 1 phi__law_under)) (G__law_own : FnG P w K mg base 1 f__law_own d__law_own ["_law_error"] (toA K mg 1 phi__law_own)) (G__law_fields_hold : FnG P w K mg base 2 f__law_fields_hold d__law_fields_hold ["_law_a"] (toA K mg 1 phi__law_fields_hold)) (G__law_draw : FnG P w K mg base 1 f__law_draw d__law_draw ["_law_pool_here", "_law_many"] (toB K mg 2 phi__law_draw)) (G__law_pool : FnG P w K mg base 1 f__law_pool d__law_pool ["_law_script", "_law_k"] (toA K mg 2 phi__law_pool)) : FnG P w K mg base 3 f_law d_law ["_law_script"] (toA K mg 1 phi_law) := by
  refine okA T.F_law sc_law phi_law g_law (fun cdv A outer s H E hr => ?_) law_law
  have tk := takes_of (X := cxOf (L2.CX P w) P w K mg base ["_law_script", "_law_k", "_law_pool_here", "_law_a", "_law_some", "_law_no", "_law_expected", "_law_at", "_law_error", "_law_other"] "law" (defScope s_law) f_law cdv A outer s H E) (E := E) rfl rfl rfl rfl
  exact (pssd_cons (psd_for (passes_of rfl) rfl (pidA_rng1 rfl T.b_range (pad_cons (pedA_callB (k_max2 rfl) rfl T.b_max PyProof.Rows.boot_max (pad_cons ped_int (pad_cons (pedA_callB (k_min2 rfl) rfl T.b_min PyProof.Rows.boot_min (pad_cons (pedA_callB k_len rfl T.b_len PySem.boot_len (pad_cons (ped_var (pv 0)) pad_nil)) (pad_cons ped_int pad_nil))) pad_nil))) pad_nil)) (pgd_name (i := 1) sc_law.nd rfl (Or.inl rfl)) (pssd_cons (psd_set (i := 2) sc_law.nd rfl (Or.inl rfl) (pod_callA tk G__law_pool (hr.mono (by decide)) rfl T.m__law_pool T.F__law_pool.kp T.b__law_pool_ (pad_cons (ped_var (pv 0)) (pad_cons (ped_var (pv 1)) pad_nil))))
    (pssd_cons (psd_set (i := 3) sc_law.nd rfl (Or.inl rfl) (pod_d (pedA_ix (a_ixA hr) (pedA_lst (pad_cons ped_non (pad_cons (ped_fz (pod_callB tk G__law_draw (hr.mono (by decide)) rfl T.m__law_draw T.F__law_draw.kp T.b__law_draw_ (pv 2) (pad_cons ped_int pad_nil))) (pad_cons ped_str (pad_cons (ped_tup (pad_cons ped_int (pad_cons ped_int pad_nil))) pad_nil))))) (ped_fz (pod_callB tk G__law_draw (hr.mono (by decide)) rfl T.m__law_draw T.F__law_draw.kp T.b__law_draw_ (pv 2) (pad_cons ped_int pad_nil))))))
    (pssd_cons (psd_if (ptd_not (ptd_val (ped_fz (pod_callA tk G__law_fields_hold (hr.mono (by decide)) rfl T.m__law_fields_hold T.F__law_fields_hold.kp T.b__law_fields_hold_ (pad_cons (ped_var (pv 3)) pad_nil))))) (pssd_one (psd_ret (pod_d ped_bl))) pssd_nil)
    (pssd_cons (psd_set (i := 4) sc_law.nd rfl (Or.inl rfl) (pod_d (pedA_lst (pad_cons (ped_err (k := 0) T.E_InvalidNumber rfl rfl (by decide) fld_value (hr.mono (by decide) : RoomG 1 _) (ped_var (pv 3)) rfl) (pad_cons (ped_err (k := 1) T.E_InvalidWork rfl rfl (by decide) fld_part (hr.mono (by decide) : RoomG 1 _) (ped_var (pv 3)) rfl) (pad_cons (ped_err (k := 2) T.E_InvalidRope rfl rfl (by decide) fld_name (hr.mono (by decide) : RoomG 1 _) (ped_var (pv 3)) rfl) (pad_cons (ped_err (k := 3) T.E_InvalidMotion rfl rfl (by decide) fld_value (hr.mono (by decide) : RoomG 1 _) (ped_var (pv 3)) rfl) (pad_cons (ped_err (k := 4) T.E_InvalidHeights rfl rfl (by decide) fld_value (hr.mono (by decide) : RoomG 1 _) (ped_var (pv 3)) rfl) pad_nil))))))))
    (pssd_cons (psd_set (i := 4) sc_law.nd rfl (Or.inl rfl) (pod_d (pedA_op a_add (ped_var (pv 4)) (pedA_lst (pad_cons (ped_err (k := 5) T.E_InvalidLimits rfl rfl (by decide) fld_value (hr.mono (by decide) : RoomG 1 _) (ped_var (pv 3)) rfl) (pad_cons (ped_err (k := 6) T.E_InvalidTensions rfl rfl (by decide) fld_value (hr.mono (by decide) : RoomG 1 _) (ped_var (pv 3)) rfl) (pad_cons (ped_err (k := 7) T.E_InvalidName rfl rfl (by decide) fld_value (hr.mono (by decide) : RoomG 1 _) (ped_var (pv 3)) rfl) (pad_cons (ped_err (k := 8) T.E_InvalidCommand rfl rfl (by decide) fld_word (hr.mono (by decide) : RoomG 1 _) (ped_var (pv 3)) rfl) (pad_cons (ped_err (k := 9) T.E_ParseError rfl rfl (by decide) fld_text (hr.mono (by decide) : RoomG 1 _) (ped_var (pv 3)) rfl) pad_nil)))))))))
    (pssd_cons (psd_set (i := 4) sc_law.nd rfl (Or.inl rfl) (pod_d (pedA_op a_add (ped_var (pv 4)) (pedA_lst (pad_cons (ped_err (k := 10) T.E_NameClash rfl rfl (by decide) fld_name (hr.mono (by decide) : RoomG 1 _) (ped_var (pv 3)) rfl) (pad_cons (ped_err (k := 11) T.E_Weightless rfl rfl (by decide) fld_hook (hr.mono (by decide) : RoomG 1 _) (ped_var (pv 3)) rfl) (pad_cons (ped_err (k := 12) T.E_LimitExceeded rfl rfl (by decide) fld_count (hr.mono (by decide) : RoomG 1 _) (ped_var (pv 3)) rfl) (pad_cons (ped_err (k := 13) T.E_UnknownName rfl rfl (by decide) fld_name (hr.mono (by decide) : RoomG 1 _) (ped_var (pv 3)) rfl) (pad_cons (ped_err0 PySem.F.excBase_RuntimeError T.nu.1 rfl T.gc_NothingToUndo T.nu.2 rfl) pad_nil)))))))))
    (pssd_cons (psd_for (passes_of rfl) rfl (pidA_enumA rfl T.b_enumerate (pad_cons (ped_var (pv 4)) pad_nil)) (pgdL_tup2 rfl (pgd_name (i := 7) sc_law.nd rfl (Or.inr rfl)) (pgd_name (i := 8) sc_law.nd rfl (Or.inl rfl))) (pssd_one (psd_if (ptdA_cmp (a_neL hr) (ped_fz (pod_callA tk G__law_own (hr.mono (by decide)) rfl T.m__law_own T.F__law_own.kp T.b__law_own_ (pad_cons (ped_var (pv 8)) pad_nil))) (pedA_lc (own := [("_law_other", 9)]) rfl sc_law.nd (pidA_rng1 rfl T.b_range (pad_cons ped_int pad_nil)) (blkOk_by (N := ["_law_script", "_law_k", "_law_pool_here", "_law_a", "_law_some", "_law_no", "_law_expected", "_law_at", "_law_error", "_law_other"]) (sc := defScope s_law) (by decide +kernel)) (fun _ _ _ _ _ => (pgw_name (i := 9) sc_law.nd rfl (Or.inl rfl) (by decide))) (fun _ _ _ _ _ => ptsd_nil) (fun _ _ _ _ _ => (pedA_cmp (a_eqL hr) (ped_var (pv 9)) (ped_var (pv 7)))))) (pssd_one (psd_ret (pod_d ped_bl))) pssd_nil)))
    (pssd_cons (psd_set (i := 5) sc_law.nd rfl (Or.inl rfl) (pod_d (pedA_op a_mul (pedA_lst (pad_cons ped_bl pad_nil)) ped_int)))
    (pssd_cons (psd_if (ptdA_cmp (a_neL hr) (pedA_lc (own := [("_law_error", 8)]) rfl sc_law.nd (pidA_any (pedA_sl (ped_var (pv 4)) pp_none (ppA_some ped_int))) (blkOk_by (N := ["_law_script", "_law_k", "_law_pool_here", "_law_a", "_law_some", "_law_no", "_law_expected", "_law_at", "_law_error", "_law_other"]) (sc := defScope s_law) (by decide +kernel)) (fun _ _ _ _ _ => (pgw_name (i := 8) sc_law.nd rfl (Or.inl rfl) (by decide))) (fun _ _ _ _ _ => ptsd_nil) (fun _ _ _ _ _ => (ped_fz (pod_callA takes_N G__law_under (hr.mono (by decide)) rfl T.m__law_under T.F__law_under.kp T.b__law_under_ (pad_cons (ped_var (pv 8)) pad_nil))))) (pedA_op a_mul (pedA_lst (pad_cons (pedA_op a_add (pedA_lst (pad_cons ped_bl (pad_cons ped_bl pad_nil))) (pedA_sl (ped_var (pv 5)) (ppA_some ped_int) pp_none)) pad_nil)) ped_int)) (pssd_one (psd_ret (pod_d ped_bl))) pssd_nil)
    (pssd_cons (psd_set (i := 6) sc_law.nd rfl (Or.inl rfl) (pod_d (pedA_lst (pad_cons (pedA_op a_add (pedA_sl (ped_var (pv 5)) pp_none (ppA_some ped_int)) (pedA_lst (pad_cons ped_bl (pad_cons ped_bl pad_nil)))) (pad_cons (pedA_op a_add (pedA_sl (ped_var (pv 5)) pp_none (ppA_some ped_int)) (pedA_lst (pad_cons ped_bl (pad_cons ped_bl (pad_cons ped_bl (pad_cons ped_bl pad_nil)))))) (pad_cons (pedA_op a_add (pedA_sl (ped_var (pv 5)) pp_none (ppA_some ped_int)) (pedA_lst (pad_cons ped_bl pad_nil))) pad_nil))))))
    (pssd_one (psd_if (ptdA_cmp (a_neL hr) (pedA_lc (own := [("_law_error", 8)]) rfl sc_law.nd (pidA_any (pedA_sl (ped_var (pv 4)) (ppA_some ped_int) pp_none)) (blkOk_by (N := ["_law_script", "_law_k", "_law_pool_here", "_law_a", "_law_some", "_law_no", "_law_expected", "_law_at", "_law_error", "_law_other"]) (sc := defScope s_law) (by decide +kernel)) (fun _ _ _ _ _ => (pgw_name (i := 8) sc_law.nd rfl (Or.inl rfl) (by decide))) (fun _ _ _ _ _ => ptsd_nil) (fun _ _ _ _ _ => (ped_fz (pod_callA takes_N G__law_under (hr.mono (by decide)) rfl T.m__law_under T.F__law_under.kp T.b__law_under_ (pad_cons (ped_var (pv 8)) pad_nil))))) (ped_var (pv 6))) (pssd_one (psd_ret (pod_d ped_bl))) pssd_nil)))))))))))))
    (pssd_one (psd_ret (pod_d ped_bl))))
end
def spLaw (K : PySem.W.Frag) : Sp := fun vs H Q _ => ∃ (a : Addr) (ns : List Int), vs = [.ref a] ∧ SqL K H a (ns.map V.int) ∧ ns.length ≤ 63 ∧ ∀ H', Q (.bl true) H'
theorem spLaw_to {K : PySem.W.Frag} {mg : Str → Option Value} : ∀ vs H Q E, spLaw K vs H Q E → toA K mg 1 phi_law vs H Q E := by
  rintro vs H Q E ⟨a, ns, rfl, hs, hl, k⟩
  refine ⟨rfl, H, [scr ns], fun _ => False, fun r => r = .fz (.bl true), Same.refl _, repL_cons (rep_nd (t := .scr) hs (repL_ints ns)) repL_nil, by rw [e_law, fin_law ns hl]; rfl, fun _ _ _ _ _ z => z.elim, fun r v H0' H' e f rr => ?_⟩
  subst e
  have e : v = .bl true := Rep.bl (show Rep K mg H0' (.bl true) v from rr)
  subst e
  exact k H'
theorem all_mk {l : PySem.W.OpenLaw} {w : World} {K : PySem.W.Frag} {h : Heap} {mg : Str → Option Value} {fa f__law_pool f__law_draw f__law_fields_hold f__law_own f__law_under f_law C_InvalidNumber i_InvalidNumber q_InvalidNumber d_eInvalidNumber C_InvalidWork i_InvalidWork q_InvalidWork d_eInvalidWork C_InvalidRope i_InvalidRope q_InvalidRope d_eInvalidRope C_InvalidMotion i_InvalidMotion q_InvalidMotion d_eInvalidMotion C_InvalidHeights i_InvalidHeights q_InvalidHeights d_eInvalidHeights C_InvalidLimits i_InvalidLimits q_InvalidLimits d_eInvalidLimits C_InvalidTensions i_InvalidTensions q_InvalidTensions d_eInvalidTensions C_InvalidName i_InvalidName q_InvalidName d_eInvalidName C_InvalidCommand i_InvalidCommand q_InvalidCommand d_eInvalidCommand C_ParseError i_ParseError q_ParseError d_eParseError C_NameClash i_NameClash q_NameClash d_eNameClash C_Weightless i_Weightless q_Weightless d_eWeightless C_LimitExceeded i_LimitExceeded q_LimitExceeded d_eLimitExceeded C_UnknownName i_UnknownName q_UnknownName d_eUnknownName C_NothingToUndo C_WorkError : Addr} (X : K.In h) (G : h.Ns mainGlobals mg) (hfa : mg "law" = some (.ref fa))
    {od0 an0 od1 an1 od2 an2 od3 an3 od4 an4 od5 an5 : Option Addr} {sl0 sl1 sl2 sl3 sl4 sl5 : Array (Option Value)} {oc0 kV0 dc0 pm0 cd0 ct0 oc1 kV1 dc1 pm1 cd1 ct1 oc2 kV2 dc2 pm2 cd2 ct2 oc3 kV3 dc3 pm3 cd3 ct3 oc4 kV4 dc4 pm4 cd4 ct4 oc5 kV5 dc5 pm5 cd5 ct5 : Value}
    {nm_InvalidNumber qn_InvalidNumber ms_InvalidNumber file_InvalidNumber : Str} {N_InvalidNumber : Addr} {bs_InvalidNumber sub_InvalidNumber : List Value} {sn_InvalidNumber : List Str} {ab_InvalidNumber : Bool} {col_InvalidNumber : Option Bool} {dd_InvalidNumber od_InvalidNumber an_InvalidNumber cdd_InvalidNumber cld_InvalidNumber : Option Addr} {m0_InvalidNumber m1_InvalidNumber m2_InvalidNumber m3_InvalidNumber m5_InvalidNumber : Option Value} {osl_InvalidNumber ccs_InvalidNumber csl_InvalidNumber : Array (Option Value)} {oc_InvalidNumber dc_InvalidNumber pm_InvalidNumber ct_InvalidNumber ccl_InvalidNumber cl_InvalidNumber : Value} {jj_InvalidNumber : Nat} {p1_InvalidNumber p2_InvalidNumber q0_InvalidNumber q1_InvalidNumber q2_InvalidNumber q3_InvalidNumber q4_InvalidNumber q5_InvalidNumber q6_InvalidNumber q7_InvalidNumber q8_InvalidNumber q9_InvalidNumber : Pos} {vs_InvalidNumber : Array Value} {tf_InvalidNumber : Tok}
    {nm_InvalidWork qn_InvalidWork ms_InvalidWork file_InvalidWork : Str} {N_InvalidWork : Addr} {bs_InvalidWork sub_InvalidWork : List Value} {sn_InvalidWork : List Str} {ab_InvalidWork : Bool} {col_InvalidWork : Option Bool} {dd_InvalidWork od_InvalidWork an_InvalidWork cdd_InvalidWork cld_InvalidWork : Option Addr} {m0_InvalidWork m1_InvalidWork m2_InvalidWork m3_InvalidWork m5_InvalidWork : Option Value} {osl_InvalidWork ccs_InvalidWork csl_InvalidWork : Array (Option Value)} {oc_InvalidWork dc_InvalidWork pm_InvalidWork ct_InvalidWork ccl_InvalidWork cl_InvalidWork : Value} {jj_InvalidWork : Nat} {p1_InvalidWork p2_InvalidWork q0_InvalidWork q1_InvalidWork q2_InvalidWork q3_InvalidWork q4_InvalidWork q5_InvalidWork q6_InvalidWork q7_InvalidWork q8_InvalidWork q9_InvalidWork : Pos} {vs_InvalidWork : Array Value} {tf_InvalidWork : Tok}
    {nm_InvalidRope qn_InvalidRope ms_InvalidRope file_InvalidRope : Str} {N_InvalidRope : Addr} {bs_InvalidRope sub_InvalidRope : List Value} {sn_InvalidRope : List Str} {ab_InvalidRope : Bool} {col_InvalidRope : Option Bool} {dd_InvalidRope od_InvalidRope an_InvalidRope cdd_InvalidRope cld_InvalidRope : Option Addr} {m0_InvalidRope m1_InvalidRope m2_InvalidRope m3_InvalidRope m5_InvalidRope : Option Value} {osl_InvalidRope ccs_InvalidRope csl_InvalidRope : Array (Option Value)} {oc_InvalidRope dc_InvalidRope pm_InvalidRope ct_InvalidRope ccl_InvalidRope cl_InvalidRope : Value} {jj_InvalidRope : Nat} {p1_InvalidRope p2_InvalidRope q0_InvalidRope q1_InvalidRope q2_InvalidRope q3_InvalidRope q4_InvalidRope q5_InvalidRope q6_InvalidRope q7_InvalidRope q8_InvalidRope q9_InvalidRope : Pos} {vs_InvalidRope : Array Value} {tf_InvalidRope : Tok}
    {nm_InvalidMotion qn_InvalidMotion ms_InvalidMotion file_InvalidMotion : Str} {N_InvalidMotion : Addr} {bs_InvalidMotion sub_InvalidMotion : List Value} {sn_InvalidMotion : List Str} {ab_InvalidMotion : Bool} {col_InvalidMotion : Option Bool} {dd_InvalidMotion od_InvalidMotion an_InvalidMotion cdd_InvalidMotion cld_InvalidMotion : Option Addr} {m0_InvalidMotion m1_InvalidMotion m2_InvalidMotion m3_InvalidMotion m5_InvalidMotion : Option Value} {osl_InvalidMotion ccs_InvalidMotion csl_InvalidMotion : Array (Option Value)} {oc_InvalidMotion dc_InvalidMotion pm_InvalidMotion ct_InvalidMotion ccl_InvalidMotion cl_InvalidMotion : Value} {jj_InvalidMotion : Nat} {p1_InvalidMotion p2_InvalidMotion q0_InvalidMotion q1_InvalidMotion q2_InvalidMotion q3_InvalidMotion q4_InvalidMotion q5_InvalidMotion q6_InvalidMotion q7_InvalidMotion q8_InvalidMotion q9_InvalidMotion : Pos} {vs_InvalidMotion : Array Value} {tf_InvalidMotion : Tok}
    {nm_InvalidHeights qn_InvalidHeights ms_InvalidHeights file_InvalidHeights : Str} {N_InvalidHeights : Addr} {bs_InvalidHeights sub_InvalidHeights : List Value} {sn_InvalidHeights : List Str} {ab_InvalidHeights : Bool} {col_InvalidHeights : Option Bool} {dd_InvalidHeights od_InvalidHeights an_InvalidHeights cdd_InvalidHeights cld_InvalidHeights : Option Addr} {m0_InvalidHeights m1_InvalidHeights m2_InvalidHeights m3_InvalidHeights m5_InvalidHeights : Option Value} {osl_InvalidHeights ccs_InvalidHeights csl_InvalidHeights : Array (Option Value)} {oc_InvalidHeights dc_InvalidHeights pm_InvalidHeights ct_InvalidHeights ccl_InvalidHeights cl_InvalidHeights : Value} {jj_InvalidHeights : Nat} {p1_InvalidHeights p2_InvalidHeights q0_InvalidHeights q1_InvalidHeights q2_InvalidHeights q3_InvalidHeights q4_InvalidHeights q5_InvalidHeights q6_InvalidHeights q7_InvalidHeights q8_InvalidHeights q9_InvalidHeights : Pos} {vs_InvalidHeights : Array Value} {tf_InvalidHeights : Tok}
    {nm_InvalidLimits qn_InvalidLimits ms_InvalidLimits file_InvalidLimits : Str} {N_InvalidLimits : Addr} {bs_InvalidLimits sub_InvalidLimits : List Value} {sn_InvalidLimits : List Str} {ab_InvalidLimits : Bool} {col_InvalidLimits : Option Bool} {dd_InvalidLimits od_InvalidLimits an_InvalidLimits cdd_InvalidLimits cld_InvalidLimits : Option Addr} {m0_InvalidLimits m1_InvalidLimits m2_InvalidLimits m3_InvalidLimits m5_InvalidLimits : Option Value} {osl_InvalidLimits ccs_InvalidLimits csl_InvalidLimits : Array (Option Value)} {oc_InvalidLimits dc_InvalidLimits pm_InvalidLimits ct_InvalidLimits ccl_InvalidLimits cl_InvalidLimits : Value} {jj_InvalidLimits : Nat} {p1_InvalidLimits p2_InvalidLimits q0_InvalidLimits q1_InvalidLimits q2_InvalidLimits q3_InvalidLimits q4_InvalidLimits q5_InvalidLimits q6_InvalidLimits q7_InvalidLimits q8_InvalidLimits q9_InvalidLimits : Pos} {vs_InvalidLimits : Array Value} {tf_InvalidLimits : Tok}
    {nm_InvalidTensions qn_InvalidTensions ms_InvalidTensions file_InvalidTensions : Str} {N_InvalidTensions : Addr} {bs_InvalidTensions sub_InvalidTensions : List Value} {sn_InvalidTensions : List Str} {ab_InvalidTensions : Bool} {col_InvalidTensions : Option Bool} {dd_InvalidTensions od_InvalidTensions an_InvalidTensions cdd_InvalidTensions cld_InvalidTensions : Option Addr} {m0_InvalidTensions m1_InvalidTensions m2_InvalidTensions m3_InvalidTensions m5_InvalidTensions : Option Value} {osl_InvalidTensions ccs_InvalidTensions csl_InvalidTensions : Array (Option Value)} {oc_InvalidTensions dc_InvalidTensions pm_InvalidTensions ct_InvalidTensions ccl_InvalidTensions cl_InvalidTensions : Value} {jj_InvalidTensions : Nat} {p1_InvalidTensions p2_InvalidTensions q0_InvalidTensions q1_InvalidTensions q2_InvalidTensions q3_InvalidTensions q4_InvalidTensions q5_InvalidTensions q6_InvalidTensions q7_InvalidTensions q8_InvalidTensions q9_InvalidTensions : Pos} {vs_InvalidTensions : Array Value} {tf_InvalidTensions : Tok}
    {nm_InvalidName qn_InvalidName ms_InvalidName file_InvalidName : Str} {N_InvalidName : Addr} {bs_InvalidName sub_InvalidName : List Value} {sn_InvalidName : List Str} {ab_InvalidName : Bool} {col_InvalidName : Option Bool} {dd_InvalidName od_InvalidName an_InvalidName cdd_InvalidName cld_InvalidName : Option Addr} {m0_InvalidName m1_InvalidName m2_InvalidName m3_InvalidName m5_InvalidName : Option Value} {osl_InvalidName ccs_InvalidName csl_InvalidName : Array (Option Value)} {oc_InvalidName dc_InvalidName pm_InvalidName ct_InvalidName ccl_InvalidName cl_InvalidName : Value} {jj_InvalidName : Nat} {p1_InvalidName p2_InvalidName q0_InvalidName q1_InvalidName q2_InvalidName q3_InvalidName q4_InvalidName q5_InvalidName q6_InvalidName q7_InvalidName q8_InvalidName q9_InvalidName : Pos} {vs_InvalidName : Array Value} {tf_InvalidName : Tok}
    {nm_InvalidCommand qn_InvalidCommand ms_InvalidCommand file_InvalidCommand : Str} {N_InvalidCommand : Addr} {bs_InvalidCommand sub_InvalidCommand : List Value} {sn_InvalidCommand : List Str} {ab_InvalidCommand : Bool} {col_InvalidCommand : Option Bool} {dd_InvalidCommand od_InvalidCommand an_InvalidCommand cdd_InvalidCommand cld_InvalidCommand : Option Addr} {m0_InvalidCommand m1_InvalidCommand m2_InvalidCommand m3_InvalidCommand m5_InvalidCommand : Option Value} {osl_InvalidCommand ccs_InvalidCommand csl_InvalidCommand : Array (Option Value)} {oc_InvalidCommand dc_InvalidCommand pm_InvalidCommand ct_InvalidCommand ccl_InvalidCommand cl_InvalidCommand : Value} {jj_InvalidCommand : Nat} {p1_InvalidCommand p2_InvalidCommand q0_InvalidCommand q1_InvalidCommand q2_InvalidCommand q3_InvalidCommand q4_InvalidCommand q5_InvalidCommand q6_InvalidCommand q7_InvalidCommand q8_InvalidCommand q9_InvalidCommand : Pos} {vs_InvalidCommand : Array Value} {tf_InvalidCommand : Tok}
    {nm_ParseError qn_ParseError ms_ParseError file_ParseError : Str} {N_ParseError : Addr} {bs_ParseError sub_ParseError : List Value} {sn_ParseError : List Str} {ab_ParseError : Bool} {col_ParseError : Option Bool} {dd_ParseError od_ParseError an_ParseError cdd_ParseError cld_ParseError : Option Addr} {m0_ParseError m1_ParseError m2_ParseError m3_ParseError m5_ParseError : Option Value} {osl_ParseError ccs_ParseError csl_ParseError : Array (Option Value)} {oc_ParseError dc_ParseError pm_ParseError ct_ParseError ccl_ParseError cl_ParseError : Value} {jj_ParseError : Nat} {p1_ParseError p2_ParseError q0_ParseError q1_ParseError q2_ParseError q3_ParseError q4_ParseError q5_ParseError q6_ParseError q7_ParseError q8_ParseError q9_ParseError : Pos} {vs_ParseError : Array Value} {tf_ParseError : Tok}
    {nm_NameClash qn_NameClash ms_NameClash file_NameClash : Str} {N_NameClash : Addr} {bs_NameClash sub_NameClash : List Value} {sn_NameClash : List Str} {ab_NameClash : Bool} {col_NameClash : Option Bool} {dd_NameClash od_NameClash an_NameClash cdd_NameClash cld_NameClash : Option Addr} {m0_NameClash m1_NameClash m2_NameClash m3_NameClash m5_NameClash : Option Value} {osl_NameClash ccs_NameClash csl_NameClash : Array (Option Value)} {oc_NameClash dc_NameClash pm_NameClash ct_NameClash ccl_NameClash cl_NameClash : Value} {jj_NameClash : Nat} {p1_NameClash p2_NameClash q0_NameClash q1_NameClash q2_NameClash q3_NameClash q4_NameClash q5_NameClash q6_NameClash q7_NameClash q8_NameClash q9_NameClash : Pos} {vs_NameClash : Array Value} {tf_NameClash : Tok}
    {nm_Weightless qn_Weightless ms_Weightless file_Weightless : Str} {N_Weightless : Addr} {bs_Weightless sub_Weightless : List Value} {sn_Weightless : List Str} {ab_Weightless : Bool} {col_Weightless : Option Bool} {dd_Weightless od_Weightless an_Weightless cdd_Weightless cld_Weightless : Option Addr} {m0_Weightless m1_Weightless m2_Weightless m3_Weightless m5_Weightless : Option Value} {osl_Weightless ccs_Weightless csl_Weightless : Array (Option Value)} {oc_Weightless dc_Weightless pm_Weightless ct_Weightless ccl_Weightless cl_Weightless : Value} {jj_Weightless : Nat} {p1_Weightless p2_Weightless q0_Weightless q1_Weightless q2_Weightless q3_Weightless q4_Weightless q5_Weightless q6_Weightless q7_Weightless q8_Weightless q9_Weightless : Pos} {vs_Weightless : Array Value} {tf_Weightless : Tok}
    {nm_LimitExceeded qn_LimitExceeded ms_LimitExceeded file_LimitExceeded : Str} {N_LimitExceeded : Addr} {bs_LimitExceeded sub_LimitExceeded : List Value} {sn_LimitExceeded : List Str} {ab_LimitExceeded : Bool} {col_LimitExceeded : Option Bool} {dd_LimitExceeded od_LimitExceeded an_LimitExceeded cdd_LimitExceeded cld_LimitExceeded : Option Addr} {m0_LimitExceeded m1_LimitExceeded m2_LimitExceeded m3_LimitExceeded m5_LimitExceeded : Option Value} {osl_LimitExceeded ccs_LimitExceeded csl_LimitExceeded : Array (Option Value)} {oc_LimitExceeded dc_LimitExceeded pm_LimitExceeded ct_LimitExceeded ccl_LimitExceeded cl_LimitExceeded : Value} {jj_LimitExceeded : Nat} {p1_LimitExceeded p2_LimitExceeded q0_LimitExceeded q1_LimitExceeded q2_LimitExceeded q3_LimitExceeded q4_LimitExceeded q5_LimitExceeded q6_LimitExceeded q7_LimitExceeded q8_LimitExceeded q9_LimitExceeded : Pos} {vs_LimitExceeded : Array Value} {tf_LimitExceeded : Tok}
    {nm_UnknownName qn_UnknownName ms_UnknownName file_UnknownName : Str} {N_UnknownName : Addr} {bs_UnknownName sub_UnknownName : List Value} {sn_UnknownName : List Str} {ab_UnknownName : Bool} {col_UnknownName : Option Bool} {dd_UnknownName od_UnknownName an_UnknownName cdd_UnknownName cld_UnknownName : Option Addr} {m0_UnknownName m1_UnknownName m2_UnknownName m3_UnknownName m5_UnknownName : Option Value} {osl_UnknownName ccs_UnknownName csl_UnknownName : Array (Option Value)} {oc_UnknownName dc_UnknownName pm_UnknownName ct_UnknownName ccl_UnknownName cl_UnknownName : Value} {jj_UnknownName : Nat} {p1_UnknownName p2_UnknownName q0_UnknownName q1_UnknownName q2_UnknownName q3_UnknownName q4_UnknownName q5_UnknownName q6_UnknownName q7_UnknownName q8_UnknownName q9_UnknownName : Pos} {vs_UnknownName : Array Value} {tf_UnknownName : Tok}
    (a__law_pool : PySem.W.nsIn K mainGlobals "_law_pool" = some (some (.ref f__law_pool))) (l__law_pool : K.lookup f__law_pool = some ⟨oc0, od0, .func (PySem.W.fnOf "_law_pool" "_law_pool" (defArgs s__law_pool) (defBody s__law_pool) (defScope s__law_pool) .none kV0 dc0 pm0 an0 cd0 ct0), sl0⟩) (x__law_pool : PySem.W.codeIn K cd0 "_law_pool" = true) (k__law_pool : PySem.W.keepIn K (.ref f__law_pool) = true)
    (a__law_draw : PySem.W.nsIn K mainGlobals "_law_draw" = some (some (.ref f__law_draw))) (l__law_draw : K.lookup f__law_draw = some ⟨oc1, od1, .func (PySem.W.fnOf "_law_draw" "_law_draw" (defArgs s__law_draw) (defBody s__law_draw) (defScope s__law_draw) .none kV1 dc1 pm1 an1 cd1 ct1), sl1⟩) (x__law_draw : PySem.W.codeIn K cd1 "_law_draw" = true) (k__law_draw : PySem.W.keepIn K (.ref f__law_draw) = true)
    (a__law_fields_hold : PySem.W.nsIn K mainGlobals "_law_fields_hold" = some (some (.ref f__law_fields_hold))) (l__law_fields_hold : K.lookup f__law_fields_hold = some ⟨oc2, od2, .func (PySem.W.fnOf "_law_fields_hold" "_law_fields_hold" (defArgs s__law_fields_hold) (defBody s__law_fields_hold) (defScope s__law_fields_hold) .none kV2 dc2 pm2 an2 cd2 ct2), sl2⟩) (x__law_fields_hold : PySem.W.codeIn K cd2 "_law_fields_hold" = true) (k__law_fields_hold : PySem.W.keepIn K (.ref f__law_fields_hold) = true)
    (a__law_own : PySem.W.nsIn K mainGlobals "_law_own" = some (some (.ref f__law_own))) (l__law_own : K.lookup f__law_own = some ⟨oc3, od3, .func (PySem.W.fnOf "_law_own" "_law_own" (defArgs s__law_own) (defBody s__law_own) (defScope s__law_own) .none kV3 dc3 pm3 an3 cd3 ct3), sl3⟩) (x__law_own : PySem.W.codeIn K cd3 "_law_own" = true) (k__law_own : PySem.W.keepIn K (.ref f__law_own) = true)
    (a__law_under : PySem.W.nsIn K mainGlobals "_law_under" = some (some (.ref f__law_under))) (l__law_under : K.lookup f__law_under = some ⟨oc4, od4, .func (PySem.W.fnOf "_law_under" "_law_under" (defArgs s__law_under) (defBody s__law_under) (defScope s__law_under) .none kV4 dc4 pm4 an4 cd4 ct4), sl4⟩) (x__law_under : PySem.W.codeIn K cd4 "_law_under" = true) (k__law_under : PySem.W.keepIn K (.ref f__law_under) = true)
    (a_law : PySem.W.nsIn K mainGlobals "law" = some (some (.ref f_law))) (l_law : K.lookup f_law = some ⟨oc5, od5, .func (PySem.W.fnOf "law" "law" (defArgs s_law) (defBody s_law) (defScope s_law) .none kV5 dc5 pm5 an5 cd5 ct5), sl5⟩) (x_law : PySem.W.codeIn K cd5 "law" = true) (k_law : PySem.W.keepIn K (.ref f_law) = true)
    (z_int : PySem.W.nsIn K mainGlobals "int" = some none)
    (z_abs : PySem.W.nsIn K mainGlobals "abs" = some none)
    (z_len : PySem.W.nsIn K mainGlobals "len" = some none)
    (z_sum : PySem.W.nsIn K mainGlobals "sum" = some none)
    (z_isinstance : PySem.W.nsIn K mainGlobals "isinstance" = some none)
    (z_RuntimeError : PySem.W.nsIn K mainGlobals "RuntimeError" = some none)
    (z_OverflowError : PySem.W.nsIn K mainGlobals "OverflowError" = some none)
    (z_KeyError : PySem.W.nsIn K mainGlobals "KeyError" = some none)
    (z_LookupError : PySem.W.nsIn K mainGlobals "LookupError" = some none)
    (z_ValueError : PySem.W.nsIn K mainGlobals "ValueError" = some none)
    (z_min : PySem.W.nsIn K mainGlobals "min" = some none)
    (z_max : PySem.W.nsIn K mainGlobals "max" = some none)
    (z_range : PySem.W.nsIn K mainGlobals "range" = some none)
    (z_enumerate : PySem.W.nsIn K mainGlobals "enumerate" = some none)
    (aC_InvalidNumber : PySem.W.nsIn K mainGlobals "InvalidNumber" = some (some (.ref C_InvalidNumber)))
    (aC_InvalidWork : PySem.W.nsIn K mainGlobals "InvalidWork" = some (some (.ref C_InvalidWork)))
    (aC_InvalidRope : PySem.W.nsIn K mainGlobals "InvalidRope" = some (some (.ref C_InvalidRope)))
    (aC_InvalidMotion : PySem.W.nsIn K mainGlobals "InvalidMotion" = some (some (.ref C_InvalidMotion)))
    (aC_InvalidHeights : PySem.W.nsIn K mainGlobals "InvalidHeights" = some (some (.ref C_InvalidHeights)))
    (aC_InvalidLimits : PySem.W.nsIn K mainGlobals "InvalidLimits" = some (some (.ref C_InvalidLimits)))
    (aC_InvalidTensions : PySem.W.nsIn K mainGlobals "InvalidTensions" = some (some (.ref C_InvalidTensions)))
    (aC_InvalidName : PySem.W.nsIn K mainGlobals "InvalidName" = some (some (.ref C_InvalidName)))
    (aC_InvalidCommand : PySem.W.nsIn K mainGlobals "InvalidCommand" = some (some (.ref C_InvalidCommand)))
    (aC_ParseError : PySem.W.nsIn K mainGlobals "ParseError" = some (some (.ref C_ParseError)))
    (aC_NameClash : PySem.W.nsIn K mainGlobals "NameClash" = some (some (.ref C_NameClash)))
    (aC_Weightless : PySem.W.nsIn K mainGlobals "Weightless" = some (some (.ref C_Weightless)))
    (aC_LimitExceeded : PySem.W.nsIn K mainGlobals "LimitExceeded" = some (some (.ref C_LimitExceeded)))
    (aC_UnknownName : PySem.W.nsIn K mainGlobals "UnknownName" = some (some (.ref C_UnknownName)))
    (aC_NothingToUndo : PySem.W.nsIn K mainGlobals "NothingToUndo" = some (some (.ref C_NothingToUndo)))
    (aC_WorkError : PySem.W.nsIn K mainGlobals "WorkError" = some (some (.ref C_WorkError)))
    (xL_InvalidNumber : K.lookup C_InvalidNumber = some (excClassObj nm_InvalidNumber qn_InvalidNumber C_InvalidNumber N_InvalidNumber bs_InvalidNumber [.ref C_WorkError, .type "ValueError", .type "Exception", .type "BaseException", .type "object"] true sn_InvalidNumber sub_InvalidNumber ab_InvalidNumber col_InvalidNumber dd_InvalidNumber m0_InvalidNumber m1_InvalidNumber m2_InvalidNumber m3_InvalidNumber m5_InvalidNumber "ValueError.__new__"))
    (su_InvalidNumber : PySem.W.ks_superIn K C_InvalidNumber C_InvalidNumber "__init__" = some (some (.builtin "ValueError.__init__")))
    (mr_InvalidNumber : PySem.W.mroIn K C_InvalidNumber (.ref C_InvalidNumber) = some true)
    (sB_InvalidNumber : PySem.W.subIn K (.ref C_InvalidNumber) (.type "ValueError") = some true)
    (sa_InvalidNumber : PySem.W.findIn K (.ref C_InvalidNumber) "__setattr__" = some (some (.builtin "object.__setattr__")))
    (ga_InvalidNumber : PySem.W.findIn K (.ref C_InvalidNumber) "__getattribute__" = some (some (.builtin "BaseException.__getattribute__")))
    (gg_InvalidNumber : PySem.W.findIn K (.ref C_InvalidNumber) "__getattr__" = some none)
    (no_InvalidNumber : PySem.W.findIn K (.ref C_InvalidNumber) "value" = some none)
    (iI_InvalidNumber : PySem.W.findIn K (.ref C_InvalidNumber) "__init__" = some (some (.ref i_InvalidNumber)))
    (ti_InvalidNumber : PySem.W.typeIn K (.ref i_InvalidNumber) = some (.type "function"))
    (kC_InvalidNumber : PySem.W.keepIn K (.ref C_InvalidNumber) = true)
    (eB_InvalidNumber : PySem.W.subIn K (.ref C_InvalidNumber) (.type "BaseException") = some true)
    (tt_InvalidNumber : PySem.W.typeIn K (.ref C_InvalidNumber) = some (.type "type"))
    (hd_InvalidNumber : PySem.W.hasDictIn K C_InvalidNumber = true)
    (lf_InvalidNumber : K.lookup i_InvalidNumber = some ⟨oc_InvalidNumber, od_InvalidNumber, .func (PySem.W.ksFn "__init__" "InvalidNumber.__init__" (erA "value" p1_InvalidNumber p2_InvalidNumber) (erB "value" ms_InvalidNumber jj_InvalidNumber q0_InvalidNumber q1_InvalidNumber q2_InvalidNumber q3_InvalidNumber q4_InvalidNumber q5_InvalidNumber q6_InvalidNumber q7_InvalidNumber q8_InvalidNumber q9_InvalidNumber) (erS "value") .none .none dc_InvalidNumber pm_InvalidNumber an_InvalidNumber (.ref d_eInvalidNumber) ct_InvalidNumber q_InvalidNumber), osl_InvalidNumber⟩)
    (cf_InvalidNumber : PySem.W.codeIn K (.ref d_eInvalidNumber) "InvalidNumber.__init__" = true)
    (ln_InvalidNumber : (q2_InvalidNumber.endLine == q4_InvalidNumber.line) = true)
    (ld_InvalidNumber : K.lookup d_eInvalidNumber = some ⟨ccl_InvalidNumber, cdd_InvalidNumber, .fields vs_InvalidNumber, ccs_InvalidNumber⟩)
    (vf_InvalidNumber : vs_InvalidNumber[2]? = some (.str file_InvalidNumber tf_InvalidNumber))
    (fi_InvalidNumber : ((l.prog.main.file : Str) == file_InvalidNumber) = true)
    (lc_InvalidNumber : K.lookup q_InvalidNumber = some ⟨cl_InvalidNumber, cld_InvalidNumber, .cell (some (.ref C_InvalidNumber)), csl_InvalidNumber⟩)
    (cc_InvalidNumber : PySem.W.findIn K (.ref C_InvalidNumber) "__class__" = some (some (.builtin "object.__class__")))
    (mo_InvalidNumber : PySem.W.mroIn K C_InvalidNumber (.type "object") = some true)
    (ki_NothingToUndo_InvalidNumber : PySem.W.subIn K (.ref C_InvalidNumber) (.ref C_NothingToUndo) = some false)
    (ki_UnknownName_InvalidNumber : PySem.W.subIn K (.ref C_InvalidNumber) (.ref C_UnknownName) = some false)
    (ki_LimitExceeded_InvalidNumber : PySem.W.subIn K (.ref C_InvalidNumber) (.ref C_LimitExceeded) = some false)
    (ki_Weightless_InvalidNumber : PySem.W.subIn K (.ref C_InvalidNumber) (.ref C_Weightless) = some false)
    (ki_NameClash_InvalidNumber : PySem.W.subIn K (.ref C_InvalidNumber) (.ref C_NameClash) = some false)
    (ki_ParseError_InvalidNumber : PySem.W.subIn K (.ref C_InvalidNumber) (.ref C_ParseError) = some false)
    (ki_InvalidCommand_InvalidNumber : PySem.W.subIn K (.ref C_InvalidNumber) (.ref C_InvalidCommand) = some false)
    (ki_InvalidName_InvalidNumber : PySem.W.subIn K (.ref C_InvalidNumber) (.ref C_InvalidName) = some false)
    (ki_InvalidTensions_InvalidNumber : PySem.W.subIn K (.ref C_InvalidNumber) (.ref C_InvalidTensions) = some false)
    (ki_InvalidLimits_InvalidNumber : PySem.W.subIn K (.ref C_InvalidNumber) (.ref C_InvalidLimits) = some false)
    (ki_InvalidHeights_InvalidNumber : PySem.W.subIn K (.ref C_InvalidNumber) (.ref C_InvalidHeights) = some false)
    (ki_InvalidMotion_InvalidNumber : PySem.W.subIn K (.ref C_InvalidNumber) (.ref C_InvalidMotion) = some false)
    (ki_InvalidRope_InvalidNumber : PySem.W.subIn K (.ref C_InvalidNumber) (.ref C_InvalidRope) = some false)
    (ki_InvalidWork_InvalidNumber : PySem.W.subIn K (.ref C_InvalidNumber) (.ref C_InvalidWork) = some false)
    (ki_InvalidNumber_InvalidNumber : PySem.W.subIn K (.ref C_InvalidNumber) (.ref C_InvalidNumber) = some true)
    (ki_RuntimeError_InvalidNumber : PySem.W.subIn K (.ref C_InvalidNumber) (.type "RuntimeError") = some false)
    (ki_OverflowError_InvalidNumber : PySem.W.subIn K (.ref C_InvalidNumber) (.type "OverflowError") = some false)
    (ki_KeyError_InvalidNumber : PySem.W.subIn K (.ref C_InvalidNumber) (.type "KeyError") = some false)
    (ki_LookupError_InvalidNumber : PySem.W.subIn K (.ref C_InvalidNumber) (.type "LookupError") = some false)
    (ki_ValueError_InvalidNumber : PySem.W.subIn K (.ref C_InvalidNumber) (.type "ValueError") = some true)
    (ki_WorkError_InvalidNumber : PySem.W.subIn K (.ref C_InvalidNumber) (.ref C_WorkError) = some true)
    (xL_InvalidWork : K.lookup C_InvalidWork = some (excClassObj nm_InvalidWork qn_InvalidWork C_InvalidWork N_InvalidWork bs_InvalidWork [.ref C_WorkError, .type "ValueError", .type "Exception", .type "BaseException", .type "object"] true sn_InvalidWork sub_InvalidWork ab_InvalidWork col_InvalidWork dd_InvalidWork m0_InvalidWork m1_InvalidWork m2_InvalidWork m3_InvalidWork m5_InvalidWork "ValueError.__new__"))
    (su_InvalidWork : PySem.W.ks_superIn K C_InvalidWork C_InvalidWork "__init__" = some (some (.builtin "ValueError.__init__")))
    (mr_InvalidWork : PySem.W.mroIn K C_InvalidWork (.ref C_InvalidWork) = some true)
    (sB_InvalidWork : PySem.W.subIn K (.ref C_InvalidWork) (.type "ValueError") = some true)
    (sa_InvalidWork : PySem.W.findIn K (.ref C_InvalidWork) "__setattr__" = some (some (.builtin "object.__setattr__")))
    (ga_InvalidWork : PySem.W.findIn K (.ref C_InvalidWork) "__getattribute__" = some (some (.builtin "BaseException.__getattribute__")))
    (gg_InvalidWork : PySem.W.findIn K (.ref C_InvalidWork) "__getattr__" = some none)
    (no_InvalidWork : PySem.W.findIn K (.ref C_InvalidWork) "part" = some none)
    (iI_InvalidWork : PySem.W.findIn K (.ref C_InvalidWork) "__init__" = some (some (.ref i_InvalidWork)))
    (ti_InvalidWork : PySem.W.typeIn K (.ref i_InvalidWork) = some (.type "function"))
    (kC_InvalidWork : PySem.W.keepIn K (.ref C_InvalidWork) = true)
    (eB_InvalidWork : PySem.W.subIn K (.ref C_InvalidWork) (.type "BaseException") = some true)
    (tt_InvalidWork : PySem.W.typeIn K (.ref C_InvalidWork) = some (.type "type"))
    (hd_InvalidWork : PySem.W.hasDictIn K C_InvalidWork = true)
    (lf_InvalidWork : K.lookup i_InvalidWork = some ⟨oc_InvalidWork, od_InvalidWork, .func (PySem.W.ksFn "__init__" "InvalidWork.__init__" (erA "part" p1_InvalidWork p2_InvalidWork) (erB "part" ms_InvalidWork jj_InvalidWork q0_InvalidWork q1_InvalidWork q2_InvalidWork q3_InvalidWork q4_InvalidWork q5_InvalidWork q6_InvalidWork q7_InvalidWork q8_InvalidWork q9_InvalidWork) (erS "part") .none .none dc_InvalidWork pm_InvalidWork an_InvalidWork (.ref d_eInvalidWork) ct_InvalidWork q_InvalidWork), osl_InvalidWork⟩)
    (cf_InvalidWork : PySem.W.codeIn K (.ref d_eInvalidWork) "InvalidWork.__init__" = true)
    (ln_InvalidWork : (q2_InvalidWork.endLine == q4_InvalidWork.line) = true)
    (ld_InvalidWork : K.lookup d_eInvalidWork = some ⟨ccl_InvalidWork, cdd_InvalidWork, .fields vs_InvalidWork, ccs_InvalidWork⟩)
    (vf_InvalidWork : vs_InvalidWork[2]? = some (.str file_InvalidWork tf_InvalidWork))
    (fi_InvalidWork : ((l.prog.main.file : Str) == file_InvalidWork) = true)
    (lc_InvalidWork : K.lookup q_InvalidWork = some ⟨cl_InvalidWork, cld_InvalidWork, .cell (some (.ref C_InvalidWork)), csl_InvalidWork⟩)
    (cc_InvalidWork : PySem.W.findIn K (.ref C_InvalidWork) "__class__" = some (some (.builtin "object.__class__")))
    (mo_InvalidWork : PySem.W.mroIn K C_InvalidWork (.type "object") = some true)
    (ki_NothingToUndo_InvalidWork : PySem.W.subIn K (.ref C_InvalidWork) (.ref C_NothingToUndo) = some false)
    (ki_UnknownName_InvalidWork : PySem.W.subIn K (.ref C_InvalidWork) (.ref C_UnknownName) = some false)
    (ki_LimitExceeded_InvalidWork : PySem.W.subIn K (.ref C_InvalidWork) (.ref C_LimitExceeded) = some false)
    (ki_Weightless_InvalidWork : PySem.W.subIn K (.ref C_InvalidWork) (.ref C_Weightless) = some false)
    (ki_NameClash_InvalidWork : PySem.W.subIn K (.ref C_InvalidWork) (.ref C_NameClash) = some false)
    (ki_ParseError_InvalidWork : PySem.W.subIn K (.ref C_InvalidWork) (.ref C_ParseError) = some false)
    (ki_InvalidCommand_InvalidWork : PySem.W.subIn K (.ref C_InvalidWork) (.ref C_InvalidCommand) = some false)
    (ki_InvalidName_InvalidWork : PySem.W.subIn K (.ref C_InvalidWork) (.ref C_InvalidName) = some false)
    (ki_InvalidTensions_InvalidWork : PySem.W.subIn K (.ref C_InvalidWork) (.ref C_InvalidTensions) = some false)
    (ki_InvalidLimits_InvalidWork : PySem.W.subIn K (.ref C_InvalidWork) (.ref C_InvalidLimits) = some false)
    (ki_InvalidHeights_InvalidWork : PySem.W.subIn K (.ref C_InvalidWork) (.ref C_InvalidHeights) = some false)
    (ki_InvalidMotion_InvalidWork : PySem.W.subIn K (.ref C_InvalidWork) (.ref C_InvalidMotion) = some false)
    (ki_InvalidRope_InvalidWork : PySem.W.subIn K (.ref C_InvalidWork) (.ref C_InvalidRope) = some false)
    (ki_InvalidWork_InvalidWork : PySem.W.subIn K (.ref C_InvalidWork) (.ref C_InvalidWork) = some true)
    (ki_InvalidNumber_InvalidWork : PySem.W.subIn K (.ref C_InvalidWork) (.ref C_InvalidNumber) = some false)
    (ki_RuntimeError_InvalidWork : PySem.W.subIn K (.ref C_InvalidWork) (.type "RuntimeError") = some false)
    (ki_OverflowError_InvalidWork : PySem.W.subIn K (.ref C_InvalidWork) (.type "OverflowError") = some false)
    (ki_KeyError_InvalidWork : PySem.W.subIn K (.ref C_InvalidWork) (.type "KeyError") = some false)
    (ki_LookupError_InvalidWork : PySem.W.subIn K (.ref C_InvalidWork) (.type "LookupError") = some false)
    (ki_ValueError_InvalidWork : PySem.W.subIn K (.ref C_InvalidWork) (.type "ValueError") = some true)
    (ki_WorkError_InvalidWork : PySem.W.subIn K (.ref C_InvalidWork) (.ref C_WorkError) = some true)
    (xL_InvalidRope : K.lookup C_InvalidRope = some (excClassObj nm_InvalidRope qn_InvalidRope C_InvalidRope N_InvalidRope bs_InvalidRope [.ref C_WorkError, .type "ValueError", .type "Exception", .type "BaseException", .type "object"] true sn_InvalidRope sub_InvalidRope ab_InvalidRope col_InvalidRope dd_InvalidRope m0_InvalidRope m1_InvalidRope m2_InvalidRope m3_InvalidRope m5_InvalidRope "ValueError.__new__"))
    (su_InvalidRope : PySem.W.ks_superIn K C_InvalidRope C_InvalidRope "__init__" = some (some (.builtin "ValueError.__init__")))
    (mr_InvalidRope : PySem.W.mroIn K C_InvalidRope (.ref C_InvalidRope) = some true)
    (sB_InvalidRope : PySem.W.subIn K (.ref C_InvalidRope) (.type "ValueError") = some true)
    (sa_InvalidRope : PySem.W.findIn K (.ref C_InvalidRope) "__setattr__" = some (some (.builtin "object.__setattr__")))
    (ga_InvalidRope : PySem.W.findIn K (.ref C_InvalidRope) "__getattribute__" = some (some (.builtin "BaseException.__getattribute__")))
    (gg_InvalidRope : PySem.W.findIn K (.ref C_InvalidRope) "__getattr__" = some none)
    (no_InvalidRope : PySem.W.findIn K (.ref C_InvalidRope) "name" = some none)
    (iI_InvalidRope : PySem.W.findIn K (.ref C_InvalidRope) "__init__" = some (some (.ref i_InvalidRope)))
    (ti_InvalidRope : PySem.W.typeIn K (.ref i_InvalidRope) = some (.type "function"))
    (kC_InvalidRope : PySem.W.keepIn K (.ref C_InvalidRope) = true)
    (eB_InvalidRope : PySem.W.subIn K (.ref C_InvalidRope) (.type "BaseException") = some true)
    (tt_InvalidRope : PySem.W.typeIn K (.ref C_InvalidRope) = some (.type "type"))
    (hd_InvalidRope : PySem.W.hasDictIn K C_InvalidRope = true)
    (lf_InvalidRope : K.lookup i_InvalidRope = some ⟨oc_InvalidRope, od_InvalidRope, .func (PySem.W.ksFn "__init__" "InvalidRope.__init__" (erA "name" p1_InvalidRope p2_InvalidRope) (erB "name" ms_InvalidRope jj_InvalidRope q0_InvalidRope q1_InvalidRope q2_InvalidRope q3_InvalidRope q4_InvalidRope q5_InvalidRope q6_InvalidRope q7_InvalidRope q8_InvalidRope q9_InvalidRope) (erS "name") .none .none dc_InvalidRope pm_InvalidRope an_InvalidRope (.ref d_eInvalidRope) ct_InvalidRope q_InvalidRope), osl_InvalidRope⟩)
    (cf_InvalidRope : PySem.W.codeIn K (.ref d_eInvalidRope) "InvalidRope.__init__" = true)
    (ln_InvalidRope : (q2_InvalidRope.endLine == q4_InvalidRope.line) = true)
    (ld_InvalidRope : K.lookup d_eInvalidRope = some ⟨ccl_InvalidRope, cdd_InvalidRope, .fields vs_InvalidRope, ccs_InvalidRope⟩)
    (vf_InvalidRope : vs_InvalidRope[2]? = some (.str file_InvalidRope tf_InvalidRope))
    (fi_InvalidRope : ((l.prog.main.file : Str) == file_InvalidRope) = true)
    (lc_InvalidRope : K.lookup q_InvalidRope = some ⟨cl_InvalidRope, cld_InvalidRope, .cell (some (.ref C_InvalidRope)), csl_InvalidRope⟩)
    (cc_InvalidRope : PySem.W.findIn K (.ref C_InvalidRope) "__class__" = some (some (.builtin "object.__class__")))
    (mo_InvalidRope : PySem.W.mroIn K C_InvalidRope (.type "object") = some true)
    (ki_NothingToUndo_InvalidRope : PySem.W.subIn K (.ref C_InvalidRope) (.ref C_NothingToUndo) = some false)
    (ki_UnknownName_InvalidRope : PySem.W.subIn K (.ref C_InvalidRope) (.ref C_UnknownName) = some false)
    (ki_LimitExceeded_InvalidRope : PySem.W.subIn K (.ref C_InvalidRope) (.ref C_LimitExceeded) = some false)
    (ki_Weightless_InvalidRope : PySem.W.subIn K (.ref C_InvalidRope) (.ref C_Weightless) = some false)
    (ki_NameClash_InvalidRope : PySem.W.subIn K (.ref C_InvalidRope) (.ref C_NameClash) = some false)
    (ki_ParseError_InvalidRope : PySem.W.subIn K (.ref C_InvalidRope) (.ref C_ParseError) = some false)
    (ki_InvalidCommand_InvalidRope : PySem.W.subIn K (.ref C_InvalidRope) (.ref C_InvalidCommand) = some false)
    (ki_InvalidName_InvalidRope : PySem.W.subIn K (.ref C_InvalidRope) (.ref C_InvalidName) = some false)
    (ki_InvalidTensions_InvalidRope : PySem.W.subIn K (.ref C_InvalidRope) (.ref C_InvalidTensions) = some false)
    (ki_InvalidLimits_InvalidRope : PySem.W.subIn K (.ref C_InvalidRope) (.ref C_InvalidLimits) = some false)
    (ki_InvalidHeights_InvalidRope : PySem.W.subIn K (.ref C_InvalidRope) (.ref C_InvalidHeights) = some false)
    (ki_InvalidMotion_InvalidRope : PySem.W.subIn K (.ref C_InvalidRope) (.ref C_InvalidMotion) = some false)
    (ki_InvalidRope_InvalidRope : PySem.W.subIn K (.ref C_InvalidRope) (.ref C_InvalidRope) = some true)
    (ki_InvalidWork_InvalidRope : PySem.W.subIn K (.ref C_InvalidRope) (.ref C_InvalidWork) = some false)
    (ki_InvalidNumber_InvalidRope : PySem.W.subIn K (.ref C_InvalidRope) (.ref C_InvalidNumber) = some false)
    (ki_RuntimeError_InvalidRope : PySem.W.subIn K (.ref C_InvalidRope) (.type "RuntimeError") = some false)
    (ki_OverflowError_InvalidRope : PySem.W.subIn K (.ref C_InvalidRope) (.type "OverflowError") = some false)
    (ki_KeyError_InvalidRope : PySem.W.subIn K (.ref C_InvalidRope) (.type "KeyError") = some false)
    (ki_LookupError_InvalidRope : PySem.W.subIn K (.ref C_InvalidRope) (.type "LookupError") = some false)
    (ki_ValueError_InvalidRope : PySem.W.subIn K (.ref C_InvalidRope) (.type "ValueError") = some true)
    (ki_WorkError_InvalidRope : PySem.W.subIn K (.ref C_InvalidRope) (.ref C_WorkError) = some true)
    (xL_InvalidMotion : K.lookup C_InvalidMotion = some (excClassObj nm_InvalidMotion qn_InvalidMotion C_InvalidMotion N_InvalidMotion bs_InvalidMotion [.ref C_WorkError, .type "ValueError", .type "Exception", .type "BaseException", .type "object"] true sn_InvalidMotion sub_InvalidMotion ab_InvalidMotion col_InvalidMotion dd_InvalidMotion m0_InvalidMotion m1_InvalidMotion m2_InvalidMotion m3_InvalidMotion m5_InvalidMotion "ValueError.__new__"))
    (su_InvalidMotion : PySem.W.ks_superIn K C_InvalidMotion C_InvalidMotion "__init__" = some (some (.builtin "ValueError.__init__")))
    (mr_InvalidMotion : PySem.W.mroIn K C_InvalidMotion (.ref C_InvalidMotion) = some true)
    (sB_InvalidMotion : PySem.W.subIn K (.ref C_InvalidMotion) (.type "ValueError") = some true)
    (sa_InvalidMotion : PySem.W.findIn K (.ref C_InvalidMotion) "__setattr__" = some (some (.builtin "object.__setattr__")))
    (ga_InvalidMotion : PySem.W.findIn K (.ref C_InvalidMotion) "__getattribute__" = some (some (.builtin "BaseException.__getattribute__")))
    (gg_InvalidMotion : PySem.W.findIn K (.ref C_InvalidMotion) "__getattr__" = some none)
    (no_InvalidMotion : PySem.W.findIn K (.ref C_InvalidMotion) "value" = some none)
    (iI_InvalidMotion : PySem.W.findIn K (.ref C_InvalidMotion) "__init__" = some (some (.ref i_InvalidMotion)))
    (ti_InvalidMotion : PySem.W.typeIn K (.ref i_InvalidMotion) = some (.type "function"))
    (kC_InvalidMotion : PySem.W.keepIn K (.ref C_InvalidMotion) = true)
    (eB_InvalidMotion : PySem.W.subIn K (.ref C_InvalidMotion) (.type "BaseException") = some true)
    (tt_InvalidMotion : PySem.W.typeIn K (.ref C_InvalidMotion) = some (.type "type"))
    (hd_InvalidMotion : PySem.W.hasDictIn K C_InvalidMotion = true)
    (lf_InvalidMotion : K.lookup i_InvalidMotion = some ⟨oc_InvalidMotion, od_InvalidMotion, .func (PySem.W.ksFn "__init__" "InvalidMotion.__init__" (erA "value" p1_InvalidMotion p2_InvalidMotion) (erB "value" ms_InvalidMotion jj_InvalidMotion q0_InvalidMotion q1_InvalidMotion q2_InvalidMotion q3_InvalidMotion q4_InvalidMotion q5_InvalidMotion q6_InvalidMotion q7_InvalidMotion q8_InvalidMotion q9_InvalidMotion) (erS "value") .none .none dc_InvalidMotion pm_InvalidMotion an_InvalidMotion (.ref d_eInvalidMotion) ct_InvalidMotion q_InvalidMotion), osl_InvalidMotion⟩)
    (cf_InvalidMotion : PySem.W.codeIn K (.ref d_eInvalidMotion) "InvalidMotion.__init__" = true)
    (ln_InvalidMotion : (q2_InvalidMotion.endLine == q4_InvalidMotion.line) = true)
    (ld_InvalidMotion : K.lookup d_eInvalidMotion = some ⟨ccl_InvalidMotion, cdd_InvalidMotion, .fields vs_InvalidMotion, ccs_InvalidMotion⟩)
    (vf_InvalidMotion : vs_InvalidMotion[2]? = some (.str file_InvalidMotion tf_InvalidMotion))
    (fi_InvalidMotion : ((l.prog.main.file : Str) == file_InvalidMotion) = true)
    (lc_InvalidMotion : K.lookup q_InvalidMotion = some ⟨cl_InvalidMotion, cld_InvalidMotion, .cell (some (.ref C_InvalidMotion)), csl_InvalidMotion⟩)
    (cc_InvalidMotion : PySem.W.findIn K (.ref C_InvalidMotion) "__class__" = some (some (.builtin "object.__class__")))
    (mo_InvalidMotion : PySem.W.mroIn K C_InvalidMotion (.type "object") = some true)
    (ki_NothingToUndo_InvalidMotion : PySem.W.subIn K (.ref C_InvalidMotion) (.ref C_NothingToUndo) = some false)
    (ki_UnknownName_InvalidMotion : PySem.W.subIn K (.ref C_InvalidMotion) (.ref C_UnknownName) = some false)
    (ki_LimitExceeded_InvalidMotion : PySem.W.subIn K (.ref C_InvalidMotion) (.ref C_LimitExceeded) = some false)
    (ki_Weightless_InvalidMotion : PySem.W.subIn K (.ref C_InvalidMotion) (.ref C_Weightless) = some false)
    (ki_NameClash_InvalidMotion : PySem.W.subIn K (.ref C_InvalidMotion) (.ref C_NameClash) = some false)
    (ki_ParseError_InvalidMotion : PySem.W.subIn K (.ref C_InvalidMotion) (.ref C_ParseError) = some false)
    (ki_InvalidCommand_InvalidMotion : PySem.W.subIn K (.ref C_InvalidMotion) (.ref C_InvalidCommand) = some false)
    (ki_InvalidName_InvalidMotion : PySem.W.subIn K (.ref C_InvalidMotion) (.ref C_InvalidName) = some false)
    (ki_InvalidTensions_InvalidMotion : PySem.W.subIn K (.ref C_InvalidMotion) (.ref C_InvalidTensions) = some false)
    (ki_InvalidLimits_InvalidMotion : PySem.W.subIn K (.ref C_InvalidMotion) (.ref C_InvalidLimits) = some false)
    (ki_InvalidHeights_InvalidMotion : PySem.W.subIn K (.ref C_InvalidMotion) (.ref C_InvalidHeights) = some false)
    (ki_InvalidMotion_InvalidMotion : PySem.W.subIn K (.ref C_InvalidMotion) (.ref C_InvalidMotion) = some true)
    (ki_InvalidRope_InvalidMotion : PySem.W.subIn K (.ref C_InvalidMotion) (.ref C_InvalidRope) = some false)
    (ki_InvalidWork_InvalidMotion : PySem.W.subIn K (.ref C_InvalidMotion) (.ref C_InvalidWork) = some false)
    (ki_InvalidNumber_InvalidMotion : PySem.W.subIn K (.ref C_InvalidMotion) (.ref C_InvalidNumber) = some false)
    (ki_RuntimeError_InvalidMotion : PySem.W.subIn K (.ref C_InvalidMotion) (.type "RuntimeError") = some false)
    (ki_OverflowError_InvalidMotion : PySem.W.subIn K (.ref C_InvalidMotion) (.type "OverflowError") = some false)
    (ki_KeyError_InvalidMotion : PySem.W.subIn K (.ref C_InvalidMotion) (.type "KeyError") = some false)
    (ki_LookupError_InvalidMotion : PySem.W.subIn K (.ref C_InvalidMotion) (.type "LookupError") = some false)
    (ki_ValueError_InvalidMotion : PySem.W.subIn K (.ref C_InvalidMotion) (.type "ValueError") = some true)
    (ki_WorkError_InvalidMotion : PySem.W.subIn K (.ref C_InvalidMotion) (.ref C_WorkError) = some true)
    (xL_InvalidHeights : K.lookup C_InvalidHeights = some (excClassObj nm_InvalidHeights qn_InvalidHeights C_InvalidHeights N_InvalidHeights bs_InvalidHeights [.ref C_WorkError, .type "ValueError", .type "Exception", .type "BaseException", .type "object"] true sn_InvalidHeights sub_InvalidHeights ab_InvalidHeights col_InvalidHeights dd_InvalidHeights m0_InvalidHeights m1_InvalidHeights m2_InvalidHeights m3_InvalidHeights m5_InvalidHeights "ValueError.__new__"))
    (su_InvalidHeights : PySem.W.ks_superIn K C_InvalidHeights C_InvalidHeights "__init__" = some (some (.builtin "ValueError.__init__")))
    (mr_InvalidHeights : PySem.W.mroIn K C_InvalidHeights (.ref C_InvalidHeights) = some true)
    (sB_InvalidHeights : PySem.W.subIn K (.ref C_InvalidHeights) (.type "ValueError") = some true)
    (sa_InvalidHeights : PySem.W.findIn K (.ref C_InvalidHeights) "__setattr__" = some (some (.builtin "object.__setattr__")))
    (ga_InvalidHeights : PySem.W.findIn K (.ref C_InvalidHeights) "__getattribute__" = some (some (.builtin "BaseException.__getattribute__")))
    (gg_InvalidHeights : PySem.W.findIn K (.ref C_InvalidHeights) "__getattr__" = some none)
    (no_InvalidHeights : PySem.W.findIn K (.ref C_InvalidHeights) "value" = some none)
    (iI_InvalidHeights : PySem.W.findIn K (.ref C_InvalidHeights) "__init__" = some (some (.ref i_InvalidHeights)))
    (ti_InvalidHeights : PySem.W.typeIn K (.ref i_InvalidHeights) = some (.type "function"))
    (kC_InvalidHeights : PySem.W.keepIn K (.ref C_InvalidHeights) = true)
    (eB_InvalidHeights : PySem.W.subIn K (.ref C_InvalidHeights) (.type "BaseException") = some true)
    (tt_InvalidHeights : PySem.W.typeIn K (.ref C_InvalidHeights) = some (.type "type"))
    (hd_InvalidHeights : PySem.W.hasDictIn K C_InvalidHeights = true)
    (lf_InvalidHeights : K.lookup i_InvalidHeights = some ⟨oc_InvalidHeights, od_InvalidHeights, .func (PySem.W.ksFn "__init__" "InvalidHeights.__init__" (erA "value" p1_InvalidHeights p2_InvalidHeights) (erB "value" ms_InvalidHeights jj_InvalidHeights q0_InvalidHeights q1_InvalidHeights q2_InvalidHeights q3_InvalidHeights q4_InvalidHeights q5_InvalidHeights q6_InvalidHeights q7_InvalidHeights q8_InvalidHeights q9_InvalidHeights) (erS "value") .none .none dc_InvalidHeights pm_InvalidHeights an_InvalidHeights (.ref d_eInvalidHeights) ct_InvalidHeights q_InvalidHeights), osl_InvalidHeights⟩)
    (cf_InvalidHeights : PySem.W.codeIn K (.ref d_eInvalidHeights) "InvalidHeights.__init__" = true)
    (ln_InvalidHeights : (q2_InvalidHeights.endLine == q4_InvalidHeights.line) = true)
    (ld_InvalidHeights : K.lookup d_eInvalidHeights = some ⟨ccl_InvalidHeights, cdd_InvalidHeights, .fields vs_InvalidHeights, ccs_InvalidHeights⟩)
    (vf_InvalidHeights : vs_InvalidHeights[2]? = some (.str file_InvalidHeights tf_InvalidHeights))
    (fi_InvalidHeights : ((l.prog.main.file : Str) == file_InvalidHeights) = true)
    (lc_InvalidHeights : K.lookup q_InvalidHeights = some ⟨cl_InvalidHeights, cld_InvalidHeights, .cell (some (.ref C_InvalidHeights)), csl_InvalidHeights⟩)
    (cc_InvalidHeights : PySem.W.findIn K (.ref C_InvalidHeights) "__class__" = some (some (.builtin "object.__class__")))
    (mo_InvalidHeights : PySem.W.mroIn K C_InvalidHeights (.type "object") = some true)
    (ki_NothingToUndo_InvalidHeights : PySem.W.subIn K (.ref C_InvalidHeights) (.ref C_NothingToUndo) = some false)
    (ki_UnknownName_InvalidHeights : PySem.W.subIn K (.ref C_InvalidHeights) (.ref C_UnknownName) = some false)
    (ki_LimitExceeded_InvalidHeights : PySem.W.subIn K (.ref C_InvalidHeights) (.ref C_LimitExceeded) = some false)
    (ki_Weightless_InvalidHeights : PySem.W.subIn K (.ref C_InvalidHeights) (.ref C_Weightless) = some false)
    (ki_NameClash_InvalidHeights : PySem.W.subIn K (.ref C_InvalidHeights) (.ref C_NameClash) = some false)
    (ki_ParseError_InvalidHeights : PySem.W.subIn K (.ref C_InvalidHeights) (.ref C_ParseError) = some false)
    (ki_InvalidCommand_InvalidHeights : PySem.W.subIn K (.ref C_InvalidHeights) (.ref C_InvalidCommand) = some false)
    (ki_InvalidName_InvalidHeights : PySem.W.subIn K (.ref C_InvalidHeights) (.ref C_InvalidName) = some false)
    (ki_InvalidTensions_InvalidHeights : PySem.W.subIn K (.ref C_InvalidHeights) (.ref C_InvalidTensions) = some false)
    (ki_InvalidLimits_InvalidHeights : PySem.W.subIn K (.ref C_InvalidHeights) (.ref C_InvalidLimits) = some false)
    (ki_InvalidHeights_InvalidHeights : PySem.W.subIn K (.ref C_InvalidHeights) (.ref C_InvalidHeights) = some true)
    (ki_InvalidMotion_InvalidHeights : PySem.W.subIn K (.ref C_InvalidHeights) (.ref C_InvalidMotion) = some false)
    (ki_InvalidRope_InvalidHeights : PySem.W.subIn K (.ref C_InvalidHeights) (.ref C_InvalidRope) = some false)
    (ki_InvalidWork_InvalidHeights : PySem.W.subIn K (.ref C_InvalidHeights) (.ref C_InvalidWork) = some false)
    (ki_InvalidNumber_InvalidHeights : PySem.W.subIn K (.ref C_InvalidHeights) (.ref C_InvalidNumber) = some false)
    (ki_RuntimeError_InvalidHeights : PySem.W.subIn K (.ref C_InvalidHeights) (.type "RuntimeError") = some false)
    (ki_OverflowError_InvalidHeights : PySem.W.subIn K (.ref C_InvalidHeights) (.type "OverflowError") = some false)
    (ki_KeyError_InvalidHeights : PySem.W.subIn K (.ref C_InvalidHeights) (.type "KeyError") = some false)
    (ki_LookupError_InvalidHeights : PySem.W.subIn K (.ref C_InvalidHeights) (.type "LookupError") = some false)
    (ki_ValueError_InvalidHeights : PySem.W.subIn K (.ref C_InvalidHeights) (.type "ValueError") = some true)
    (ki_WorkError_InvalidHeights : PySem.W.subIn K (.ref C_InvalidHeights) (.ref C_WorkError) = some true)
    (xL_InvalidLimits : K.lookup C_InvalidLimits = some (excClassObj nm_InvalidLimits qn_InvalidLimits C_InvalidLimits N_InvalidLimits bs_InvalidLimits [.ref C_WorkError, .type "ValueError", .type "Exception", .type "BaseException", .type "object"] true sn_InvalidLimits sub_InvalidLimits ab_InvalidLimits col_InvalidLimits dd_InvalidLimits m0_InvalidLimits m1_InvalidLimits m2_InvalidLimits m3_InvalidLimits m5_InvalidLimits "ValueError.__new__"))
    (su_InvalidLimits : PySem.W.ks_superIn K C_InvalidLimits C_InvalidLimits "__init__" = some (some (.builtin "ValueError.__init__")))
    (mr_InvalidLimits : PySem.W.mroIn K C_InvalidLimits (.ref C_InvalidLimits) = some true)
    (sB_InvalidLimits : PySem.W.subIn K (.ref C_InvalidLimits) (.type "ValueError") = some true)
    (sa_InvalidLimits : PySem.W.findIn K (.ref C_InvalidLimits) "__setattr__" = some (some (.builtin "object.__setattr__")))
    (ga_InvalidLimits : PySem.W.findIn K (.ref C_InvalidLimits) "__getattribute__" = some (some (.builtin "BaseException.__getattribute__")))
    (gg_InvalidLimits : PySem.W.findIn K (.ref C_InvalidLimits) "__getattr__" = some none)
    (no_InvalidLimits : PySem.W.findIn K (.ref C_InvalidLimits) "value" = some none)
    (iI_InvalidLimits : PySem.W.findIn K (.ref C_InvalidLimits) "__init__" = some (some (.ref i_InvalidLimits)))
    (ti_InvalidLimits : PySem.W.typeIn K (.ref i_InvalidLimits) = some (.type "function"))
    (kC_InvalidLimits : PySem.W.keepIn K (.ref C_InvalidLimits) = true)
    (eB_InvalidLimits : PySem.W.subIn K (.ref C_InvalidLimits) (.type "BaseException") = some true)
    (tt_InvalidLimits : PySem.W.typeIn K (.ref C_InvalidLimits) = some (.type "type"))
    (hd_InvalidLimits : PySem.W.hasDictIn K C_InvalidLimits = true)
    (lf_InvalidLimits : K.lookup i_InvalidLimits = some ⟨oc_InvalidLimits, od_InvalidLimits, .func (PySem.W.ksFn "__init__" "InvalidLimits.__init__" (erA "value" p1_InvalidLimits p2_InvalidLimits) (erB "value" ms_InvalidLimits jj_InvalidLimits q0_InvalidLimits q1_InvalidLimits q2_InvalidLimits q3_InvalidLimits q4_InvalidLimits q5_InvalidLimits q6_InvalidLimits q7_InvalidLimits q8_InvalidLimits q9_InvalidLimits) (erS "value") .none .none dc_InvalidLimits pm_InvalidLimits an_InvalidLimits (.ref d_eInvalidLimits) ct_InvalidLimits q_InvalidLimits), osl_InvalidLimits⟩)
    (cf_InvalidLimits : PySem.W.codeIn K (.ref d_eInvalidLimits) "InvalidLimits.__init__" = true)
    (ln_InvalidLimits : (q2_InvalidLimits.endLine == q4_InvalidLimits.line) = true)
    (ld_InvalidLimits : K.lookup d_eInvalidLimits = some ⟨ccl_InvalidLimits, cdd_InvalidLimits, .fields vs_InvalidLimits, ccs_InvalidLimits⟩)
    (vf_InvalidLimits : vs_InvalidLimits[2]? = some (.str file_InvalidLimits tf_InvalidLimits))
    (fi_InvalidLimits : ((l.prog.main.file : Str) == file_InvalidLimits) = true)
    (lc_InvalidLimits : K.lookup q_InvalidLimits = some ⟨cl_InvalidLimits, cld_InvalidLimits, .cell (some (.ref C_InvalidLimits)), csl_InvalidLimits⟩)
    (cc_InvalidLimits : PySem.W.findIn K (.ref C_InvalidLimits) "__class__" = some (some (.builtin "object.__class__")))
    (mo_InvalidLimits : PySem.W.mroIn K C_InvalidLimits (.type "object") = some true)
    (ki_NothingToUndo_InvalidLimits : PySem.W.subIn K (.ref C_InvalidLimits) (.ref C_NothingToUndo) = some false)
    (ki_UnknownName_InvalidLimits : PySem.W.subIn K (.ref C_InvalidLimits) (.ref C_UnknownName) = some false)
    (ki_LimitExceeded_InvalidLimits : PySem.W.subIn K (.ref C_InvalidLimits) (.ref C_LimitExceeded) = some false)
    (ki_Weightless_InvalidLimits : PySem.W.subIn K (.ref C_InvalidLimits) (.ref C_Weightless) = some false)
    (ki_NameClash_InvalidLimits : PySem.W.subIn K (.ref C_InvalidLimits) (.ref C_NameClash) = some false)
    (ki_ParseError_InvalidLimits : PySem.W.subIn K (.ref C_InvalidLimits) (.ref C_ParseError) = some false)
    (ki_InvalidCommand_InvalidLimits : PySem.W.subIn K (.ref C_InvalidLimits) (.ref C_InvalidCommand) = some false)
    (ki_InvalidName_InvalidLimits : PySem.W.subIn K (.ref C_InvalidLimits) (.ref C_InvalidName) = some false)
    (ki_InvalidTensions_InvalidLimits : PySem.W.subIn K (.ref C_InvalidLimits) (.ref C_InvalidTensions) = some false)
    (ki_InvalidLimits_InvalidLimits : PySem.W.subIn K (.ref C_InvalidLimits) (.ref C_InvalidLimits) = some true)
    (ki_InvalidHeights_InvalidLimits : PySem.W.subIn K (.ref C_InvalidLimits) (.ref C_InvalidHeights) = some false)
    (ki_InvalidMotion_InvalidLimits : PySem.W.subIn K (.ref C_InvalidLimits) (.ref C_InvalidMotion) = some false)
    (ki_InvalidRope_InvalidLimits : PySem.W.subIn K (.ref C_InvalidLimits) (.ref C_InvalidRope) = some false)
    (ki_InvalidWork_InvalidLimits : PySem.W.subIn K (.ref C_InvalidLimits) (.ref C_InvalidWork) = some false)
    (ki_InvalidNumber_InvalidLimits : PySem.W.subIn K (.ref C_InvalidLimits) (.ref C_InvalidNumber) = some false)
    (ki_RuntimeError_InvalidLimits : PySem.W.subIn K (.ref C_InvalidLimits) (.type "RuntimeError") = some false)
    (ki_OverflowError_InvalidLimits : PySem.W.subIn K (.ref C_InvalidLimits) (.type "OverflowError") = some false)
    (ki_KeyError_InvalidLimits : PySem.W.subIn K (.ref C_InvalidLimits) (.type "KeyError") = some false)
    (ki_LookupError_InvalidLimits : PySem.W.subIn K (.ref C_InvalidLimits) (.type "LookupError") = some false)
    (ki_ValueError_InvalidLimits : PySem.W.subIn K (.ref C_InvalidLimits) (.type "ValueError") = some true)
    (ki_WorkError_InvalidLimits : PySem.W.subIn K (.ref C_InvalidLimits) (.ref C_WorkError) = some true)
    (xL_InvalidTensions : K.lookup C_InvalidTensions = some (excClassObj nm_InvalidTensions qn_InvalidTensions C_InvalidTensions N_InvalidTensions bs_InvalidTensions [.ref C_WorkError, .type "ValueError", .type "Exception", .type "BaseException", .type "object"] true sn_InvalidTensions sub_InvalidTensions ab_InvalidTensions col_InvalidTensions dd_InvalidTensions m0_InvalidTensions m1_InvalidTensions m2_InvalidTensions m3_InvalidTensions m5_InvalidTensions "ValueError.__new__"))
    (su_InvalidTensions : PySem.W.ks_superIn K C_InvalidTensions C_InvalidTensions "__init__" = some (some (.builtin "ValueError.__init__")))
    (mr_InvalidTensions : PySem.W.mroIn K C_InvalidTensions (.ref C_InvalidTensions) = some true)
    (sB_InvalidTensions : PySem.W.subIn K (.ref C_InvalidTensions) (.type "ValueError") = some true)
    (sa_InvalidTensions : PySem.W.findIn K (.ref C_InvalidTensions) "__setattr__" = some (some (.builtin "object.__setattr__")))
    (ga_InvalidTensions : PySem.W.findIn K (.ref C_InvalidTensions) "__getattribute__" = some (some (.builtin "BaseException.__getattribute__")))
    (gg_InvalidTensions : PySem.W.findIn K (.ref C_InvalidTensions) "__getattr__" = some none)
    (no_InvalidTensions : PySem.W.findIn K (.ref C_InvalidTensions) "value" = some none)
    (iI_InvalidTensions : PySem.W.findIn K (.ref C_InvalidTensions) "__init__" = some (some (.ref i_InvalidTensions)))
    (ti_InvalidTensions : PySem.W.typeIn K (.ref i_InvalidTensions) = some (.type "function"))
    (kC_InvalidTensions : PySem.W.keepIn K (.ref C_InvalidTensions) = true)
    (eB_InvalidTensions : PySem.W.subIn K (.ref C_InvalidTensions) (.type "BaseException") = some true)
    (tt_InvalidTensions : PySem.W.typeIn K (.ref C_InvalidTensions) = some (.type "type"))
    (hd_InvalidTensions : PySem.W.hasDictIn K C_InvalidTensions = true)
    (lf_InvalidTensions : K.lookup i_InvalidTensions = some ⟨oc_InvalidTensions, od_InvalidTensions, .func (PySem.W.ksFn "__init__" "InvalidTensions.__init__" (erA "value" p1_InvalidTensions p2_InvalidTensions) (erB "value" ms_InvalidTensions jj_InvalidTensions q0_InvalidTensions q1_InvalidTensions q2_InvalidTensions q3_InvalidTensions q4_InvalidTensions q5_InvalidTensions q6_InvalidTensions q7_InvalidTensions q8_InvalidTensions q9_InvalidTensions) (erS "value") .none .none dc_InvalidTensions pm_InvalidTensions an_InvalidTensions (.ref d_eInvalidTensions) ct_InvalidTensions q_InvalidTensions), osl_InvalidTensions⟩)
    (cf_InvalidTensions : PySem.W.codeIn K (.ref d_eInvalidTensions) "InvalidTensions.__init__" = true)
    (ln_InvalidTensions : (q2_InvalidTensions.endLine == q4_InvalidTensions.line) = true)
    (ld_InvalidTensions : K.lookup d_eInvalidTensions = some ⟨ccl_InvalidTensions, cdd_InvalidTensions, .fields vs_InvalidTensions, ccs_InvalidTensions⟩)
    (vf_InvalidTensions : vs_InvalidTensions[2]? = some (.str file_InvalidTensions tf_InvalidTensions))
    (fi_InvalidTensions : ((l.prog.main.file : Str) == file_InvalidTensions) = true)
    (lc_InvalidTensions : K.lookup q_InvalidTensions = some ⟨cl_InvalidTensions, cld_InvalidTensions, .cell (some (.ref C_InvalidTensions)), csl_InvalidTensions⟩)
    (cc_InvalidTensions : PySem.W.findIn K (.ref C_InvalidTensions) "__class__" = some (some (.builtin "object.__class__")))
    (mo_InvalidTensions : PySem.W.mroIn K C_InvalidTensions (.type "object") = some true)
    (ki_NothingToUndo_InvalidTensions : PySem.W.subIn K (.ref C_InvalidTensions) (.ref C_NothingToUndo) = some false)
    (ki_UnknownName_InvalidTensions : PySem.W.subIn K (.ref C_InvalidTensions) (.ref C_UnknownName) = some false)
    (ki_LimitExceeded_InvalidTensions : PySem.W.subIn K (.ref C_InvalidTensions) (.ref C_LimitExceeded) = some false)
    (ki_Weightless_InvalidTensions : PySem.W.subIn K (.ref C_InvalidTensions) (.ref C_Weightless) = some false)
    (ki_NameClash_InvalidTensions : PySem.W.subIn K (.ref C_InvalidTensions) (.ref C_NameClash) = some false)
    (ki_ParseError_InvalidTensions : PySem.W.subIn K (.ref C_InvalidTensions) (.ref C_ParseError) = some false)
    (ki_InvalidCommand_InvalidTensions : PySem.W.subIn K (.ref C_InvalidTensions) (.ref C_InvalidCommand) = some false)
    (ki_InvalidName_InvalidTensions : PySem.W.subIn K (.ref C_InvalidTensions) (.ref C_InvalidName) = some false)
    (ki_InvalidTensions_InvalidTensions : PySem.W.subIn K (.ref C_InvalidTensions) (.ref C_InvalidTensions) = some true)
    (ki_InvalidLimits_InvalidTensions : PySem.W.subIn K (.ref C_InvalidTensions) (.ref C_InvalidLimits) = some false)
    (ki_InvalidHeights_InvalidTensions : PySem.W.subIn K (.ref C_InvalidTensions) (.ref C_InvalidHeights) = some false)
    (ki_InvalidMotion_InvalidTensions : PySem.W.subIn K (.ref C_InvalidTensions) (.ref C_InvalidMotion) = some false)
    (ki_InvalidRope_InvalidTensions : PySem.W.subIn K (.ref C_InvalidTensions) (.ref C_InvalidRope) = some false)
    (ki_InvalidWork_InvalidTensions : PySem.W.subIn K (.ref C_InvalidTensions) (.ref C_InvalidWork) = some false)
    (ki_InvalidNumber_InvalidTensions : PySem.W.subIn K (.ref C_InvalidTensions) (.ref C_InvalidNumber) = some false)
    (ki_RuntimeError_InvalidTensions : PySem.W.subIn K (.ref C_InvalidTensions) (.type "RuntimeError") = some false)
    (ki_OverflowError_InvalidTensions : PySem.W.subIn K (.ref C_InvalidTensions) (.type "OverflowError") = some false)
    (ki_KeyError_InvalidTensions : PySem.W.subIn K (.ref C_InvalidTensions) (.type "KeyError") = some false)
    (ki_LookupError_InvalidTensions : PySem.W.subIn K (.ref C_InvalidTensions) (.type "LookupError") = some false)
    (ki_ValueError_InvalidTensions : PySem.W.subIn K (.ref C_InvalidTensions) (.type "ValueError") = some true)
    (ki_WorkError_InvalidTensions : PySem.W.subIn K (.ref C_InvalidTensions) (.ref C_WorkError) = some true)
    (xL_InvalidName : K.lookup C_InvalidName = some (excClassObj nm_InvalidName qn_InvalidName C_InvalidName N_InvalidName bs_InvalidName [.ref C_WorkError, .type "ValueError", .type "Exception", .type "BaseException", .type "object"] true sn_InvalidName sub_InvalidName ab_InvalidName col_InvalidName dd_InvalidName m0_InvalidName m1_InvalidName m2_InvalidName m3_InvalidName m5_InvalidName "ValueError.__new__"))
    (su_InvalidName : PySem.W.ks_superIn K C_InvalidName C_InvalidName "__init__" = some (some (.builtin "ValueError.__init__")))
    (mr_InvalidName : PySem.W.mroIn K C_InvalidName (.ref C_InvalidName) = some true)
    (sB_InvalidName : PySem.W.subIn K (.ref C_InvalidName) (.type "ValueError") = some true)
    (sa_InvalidName : PySem.W.findIn K (.ref C_InvalidName) "__setattr__" = some (some (.builtin "object.__setattr__")))
    (ga_InvalidName : PySem.W.findIn K (.ref C_InvalidName) "__getattribute__" = some (some (.builtin "BaseException.__getattribute__")))
    (gg_InvalidName : PySem.W.findIn K (.ref C_InvalidName) "__getattr__" = some none)
    (no_InvalidName : PySem.W.findIn K (.ref C_InvalidName) "value" = some none)
    (iI_InvalidName : PySem.W.findIn K (.ref C_InvalidName) "__init__" = some (some (.ref i_InvalidName)))
    (ti_InvalidName : PySem.W.typeIn K (.ref i_InvalidName) = some (.type "function"))
    (kC_InvalidName : PySem.W.keepIn K (.ref C_InvalidName) = true)
    (eB_InvalidName : PySem.W.subIn K (.ref C_InvalidName) (.type "BaseException") = some true)
    (tt_InvalidName : PySem.W.typeIn K (.ref C_InvalidName) = some (.type "type"))
    (hd_InvalidName : PySem.W.hasDictIn K C_InvalidName = true)
    (lf_InvalidName : K.lookup i_InvalidName = some ⟨oc_InvalidName, od_InvalidName, .func (PySem.W.ksFn "__init__" "InvalidName.__init__" (erA "value" p1_InvalidName p2_InvalidName) (erB "value" ms_InvalidName jj_InvalidName q0_InvalidName q1_InvalidName q2_InvalidName q3_InvalidName q4_InvalidName q5_InvalidName q6_InvalidName q7_InvalidName q8_InvalidName q9_InvalidName) (erS "value") .none .none dc_InvalidName pm_InvalidName an_InvalidName (.ref d_eInvalidName) ct_InvalidName q_InvalidName), osl_InvalidName⟩)
    (cf_InvalidName : PySem.W.codeIn K (.ref d_eInvalidName) "InvalidName.__init__" = true)
    (ln_InvalidName : (q2_InvalidName.endLine == q4_InvalidName.line) = true)
    (ld_InvalidName : K.lookup d_eInvalidName = some ⟨ccl_InvalidName, cdd_InvalidName, .fields vs_InvalidName, ccs_InvalidName⟩)
    (vf_InvalidName : vs_InvalidName[2]? = some (.str file_InvalidName tf_InvalidName))
    (fi_InvalidName : ((l.prog.main.file : Str) == file_InvalidName) = true)
    (lc_InvalidName : K.lookup q_InvalidName = some ⟨cl_InvalidName, cld_InvalidName, .cell (some (.ref C_InvalidName)), csl_InvalidName⟩)
    (cc_InvalidName : PySem.W.findIn K (.ref C_InvalidName) "__class__" = some (some (.builtin "object.__class__")))
    (mo_InvalidName : PySem.W.mroIn K C_InvalidName (.type "object") = some true)
    (ki_NothingToUndo_InvalidName : PySem.W.subIn K (.ref C_InvalidName) (.ref C_NothingToUndo) = some false)
    (ki_UnknownName_InvalidName : PySem.W.subIn K (.ref C_InvalidName) (.ref C_UnknownName) = some false)
    (ki_LimitExceeded_InvalidName : PySem.W.subIn K (.ref C_InvalidName) (.ref C_LimitExceeded) = some false)
    (ki_Weightless_InvalidName : PySem.W.subIn K (.ref C_InvalidName) (.ref C_Weightless) = some false)
    (ki_NameClash_InvalidName : PySem.W.subIn K (.ref C_InvalidName) (.ref C_NameClash) = some false)
    (ki_ParseError_InvalidName : PySem.W.subIn K (.ref C_InvalidName) (.ref C_ParseError) = some false)
    (ki_InvalidCommand_InvalidName : PySem.W.subIn K (.ref C_InvalidName) (.ref C_InvalidCommand) = some false)
    (ki_InvalidName_InvalidName : PySem.W.subIn K (.ref C_InvalidName) (.ref C_InvalidName) = some true)
    (ki_InvalidTensions_InvalidName : PySem.W.subIn K (.ref C_InvalidName) (.ref C_InvalidTensions) = some false)
    (ki_InvalidLimits_InvalidName : PySem.W.subIn K (.ref C_InvalidName) (.ref C_InvalidLimits) = some false)
    (ki_InvalidHeights_InvalidName : PySem.W.subIn K (.ref C_InvalidName) (.ref C_InvalidHeights) = some false)
    (ki_InvalidMotion_InvalidName : PySem.W.subIn K (.ref C_InvalidName) (.ref C_InvalidMotion) = some false)
    (ki_InvalidRope_InvalidName : PySem.W.subIn K (.ref C_InvalidName) (.ref C_InvalidRope) = some false)
    (ki_InvalidWork_InvalidName : PySem.W.subIn K (.ref C_InvalidName) (.ref C_InvalidWork) = some false)
    (ki_InvalidNumber_InvalidName : PySem.W.subIn K (.ref C_InvalidName) (.ref C_InvalidNumber) = some false)
    (ki_RuntimeError_InvalidName : PySem.W.subIn K (.ref C_InvalidName) (.type "RuntimeError") = some false)
    (ki_OverflowError_InvalidName : PySem.W.subIn K (.ref C_InvalidName) (.type "OverflowError") = some false)
    (ki_KeyError_InvalidName : PySem.W.subIn K (.ref C_InvalidName) (.type "KeyError") = some false)
    (ki_LookupError_InvalidName : PySem.W.subIn K (.ref C_InvalidName) (.type "LookupError") = some false)
    (ki_ValueError_InvalidName : PySem.W.subIn K (.ref C_InvalidName) (.type "ValueError") = some true)
    (ki_WorkError_InvalidName : PySem.W.subIn K (.ref C_InvalidName) (.ref C_WorkError) = some true)
    (xL_InvalidCommand : K.lookup C_InvalidCommand = some (excClassObj nm_InvalidCommand qn_InvalidCommand C_InvalidCommand N_InvalidCommand bs_InvalidCommand [.ref C_WorkError, .type "ValueError", .type "Exception", .type "BaseException", .type "object"] true sn_InvalidCommand sub_InvalidCommand ab_InvalidCommand col_InvalidCommand dd_InvalidCommand m0_InvalidCommand m1_InvalidCommand m2_InvalidCommand m3_InvalidCommand m5_InvalidCommand "ValueError.__new__"))
    (su_InvalidCommand : PySem.W.ks_superIn K C_InvalidCommand C_InvalidCommand "__init__" = some (some (.builtin "ValueError.__init__")))
    (mr_InvalidCommand : PySem.W.mroIn K C_InvalidCommand (.ref C_InvalidCommand) = some true)
    (sB_InvalidCommand : PySem.W.subIn K (.ref C_InvalidCommand) (.type "ValueError") = some true)
    (sa_InvalidCommand : PySem.W.findIn K (.ref C_InvalidCommand) "__setattr__" = some (some (.builtin "object.__setattr__")))
    (ga_InvalidCommand : PySem.W.findIn K (.ref C_InvalidCommand) "__getattribute__" = some (some (.builtin "BaseException.__getattribute__")))
    (gg_InvalidCommand : PySem.W.findIn K (.ref C_InvalidCommand) "__getattr__" = some none)
    (no_InvalidCommand : PySem.W.findIn K (.ref C_InvalidCommand) "word" = some none)
    (iI_InvalidCommand : PySem.W.findIn K (.ref C_InvalidCommand) "__init__" = some (some (.ref i_InvalidCommand)))
    (ti_InvalidCommand : PySem.W.typeIn K (.ref i_InvalidCommand) = some (.type "function"))
    (kC_InvalidCommand : PySem.W.keepIn K (.ref C_InvalidCommand) = true)
    (eB_InvalidCommand : PySem.W.subIn K (.ref C_InvalidCommand) (.type "BaseException") = some true)
    (tt_InvalidCommand : PySem.W.typeIn K (.ref C_InvalidCommand) = some (.type "type"))
    (hd_InvalidCommand : PySem.W.hasDictIn K C_InvalidCommand = true)
    (lf_InvalidCommand : K.lookup i_InvalidCommand = some ⟨oc_InvalidCommand, od_InvalidCommand, .func (PySem.W.ksFn "__init__" "InvalidCommand.__init__" (erA "word" p1_InvalidCommand p2_InvalidCommand) (erB "word" ms_InvalidCommand jj_InvalidCommand q0_InvalidCommand q1_InvalidCommand q2_InvalidCommand q3_InvalidCommand q4_InvalidCommand q5_InvalidCommand q6_InvalidCommand q7_InvalidCommand q8_InvalidCommand q9_InvalidCommand) (erS "word") .none .none dc_InvalidCommand pm_InvalidCommand an_InvalidCommand (.ref d_eInvalidCommand) ct_InvalidCommand q_InvalidCommand), osl_InvalidCommand⟩)
    (cf_InvalidCommand : PySem.W.codeIn K (.ref d_eInvalidCommand) "InvalidCommand.__init__" = true)
    (ln_InvalidCommand : (q2_InvalidCommand.endLine == q4_InvalidCommand.line) = true)
    (ld_InvalidCommand : K.lookup d_eInvalidCommand = some ⟨ccl_InvalidCommand, cdd_InvalidCommand, .fields vs_InvalidCommand, ccs_InvalidCommand⟩)
    (vf_InvalidCommand : vs_InvalidCommand[2]? = some (.str file_InvalidCommand tf_InvalidCommand))
    (fi_InvalidCommand : ((l.prog.main.file : Str) == file_InvalidCommand) = true)
    (lc_InvalidCommand : K.lookup q_InvalidCommand = some ⟨cl_InvalidCommand, cld_InvalidCommand, .cell (some (.ref C_InvalidCommand)), csl_InvalidCommand⟩)
    (cc_InvalidCommand : PySem.W.findIn K (.ref C_InvalidCommand) "__class__" = some (some (.builtin "object.__class__")))
    (mo_InvalidCommand : PySem.W.mroIn K C_InvalidCommand (.type "object") = some true)
    (ki_NothingToUndo_InvalidCommand : PySem.W.subIn K (.ref C_InvalidCommand) (.ref C_NothingToUndo) = some false)
    (ki_UnknownName_InvalidCommand : PySem.W.subIn K (.ref C_InvalidCommand) (.ref C_UnknownName) = some false)
    (ki_LimitExceeded_InvalidCommand : PySem.W.subIn K (.ref C_InvalidCommand) (.ref C_LimitExceeded) = some false)
    (ki_Weightless_InvalidCommand : PySem.W.subIn K (.ref C_InvalidCommand) (.ref C_Weightless) = some false)
    (ki_NameClash_InvalidCommand : PySem.W.subIn K (.ref C_InvalidCommand) (.ref C_NameClash) = some false)
    (ki_ParseError_InvalidCommand : PySem.W.subIn K (.ref C_InvalidCommand) (.ref C_ParseError) = some false)
    (ki_InvalidCommand_InvalidCommand : PySem.W.subIn K (.ref C_InvalidCommand) (.ref C_InvalidCommand) = some true)
    (ki_InvalidName_InvalidCommand : PySem.W.subIn K (.ref C_InvalidCommand) (.ref C_InvalidName) = some false)
    (ki_InvalidTensions_InvalidCommand : PySem.W.subIn K (.ref C_InvalidCommand) (.ref C_InvalidTensions) = some false)
    (ki_InvalidLimits_InvalidCommand : PySem.W.subIn K (.ref C_InvalidCommand) (.ref C_InvalidLimits) = some false)
    (ki_InvalidHeights_InvalidCommand : PySem.W.subIn K (.ref C_InvalidCommand) (.ref C_InvalidHeights) = some false)
    (ki_InvalidMotion_InvalidCommand : PySem.W.subIn K (.ref C_InvalidCommand) (.ref C_InvalidMotion) = some false)
    (ki_InvalidRope_InvalidCommand : PySem.W.subIn K (.ref C_InvalidCommand) (.ref C_InvalidRope) = some false)
    (ki_InvalidWork_InvalidCommand : PySem.W.subIn K (.ref C_InvalidCommand) (.ref C_InvalidWork) = some false)
    (ki_InvalidNumber_InvalidCommand : PySem.W.subIn K (.ref C_InvalidCommand) (.ref C_InvalidNumber) = some false)
    (ki_RuntimeError_InvalidCommand : PySem.W.subIn K (.ref C_InvalidCommand) (.type "RuntimeError") = some false)
    (ki_OverflowError_InvalidCommand : PySem.W.subIn K (.ref C_InvalidCommand) (.type "OverflowError") = some false)
    (ki_KeyError_InvalidCommand : PySem.W.subIn K (.ref C_InvalidCommand) (.type "KeyError") = some false)
    (ki_LookupError_InvalidCommand : PySem.W.subIn K (.ref C_InvalidCommand) (.type "LookupError") = some false)
    (ki_ValueError_InvalidCommand : PySem.W.subIn K (.ref C_InvalidCommand) (.type "ValueError") = some true)
    (ki_WorkError_InvalidCommand : PySem.W.subIn K (.ref C_InvalidCommand) (.ref C_WorkError) = some true)
    (xL_ParseError : K.lookup C_ParseError = some (excClassObj nm_ParseError qn_ParseError C_ParseError N_ParseError bs_ParseError [.ref C_WorkError, .type "ValueError", .type "Exception", .type "BaseException", .type "object"] true sn_ParseError sub_ParseError ab_ParseError col_ParseError dd_ParseError m0_ParseError m1_ParseError m2_ParseError m3_ParseError m5_ParseError "ValueError.__new__"))
    (su_ParseError : PySem.W.ks_superIn K C_ParseError C_ParseError "__init__" = some (some (.builtin "ValueError.__init__")))
    (mr_ParseError : PySem.W.mroIn K C_ParseError (.ref C_ParseError) = some true)
    (sB_ParseError : PySem.W.subIn K (.ref C_ParseError) (.type "ValueError") = some true)
    (sa_ParseError : PySem.W.findIn K (.ref C_ParseError) "__setattr__" = some (some (.builtin "object.__setattr__")))
    (ga_ParseError : PySem.W.findIn K (.ref C_ParseError) "__getattribute__" = some (some (.builtin "BaseException.__getattribute__")))
    (gg_ParseError : PySem.W.findIn K (.ref C_ParseError) "__getattr__" = some none)
    (no_ParseError : PySem.W.findIn K (.ref C_ParseError) "text" = some none)
    (iI_ParseError : PySem.W.findIn K (.ref C_ParseError) "__init__" = some (some (.ref i_ParseError)))
    (ti_ParseError : PySem.W.typeIn K (.ref i_ParseError) = some (.type "function"))
    (kC_ParseError : PySem.W.keepIn K (.ref C_ParseError) = true)
    (eB_ParseError : PySem.W.subIn K (.ref C_ParseError) (.type "BaseException") = some true)
    (tt_ParseError : PySem.W.typeIn K (.ref C_ParseError) = some (.type "type"))
    (hd_ParseError : PySem.W.hasDictIn K C_ParseError = true)
    (lf_ParseError : K.lookup i_ParseError = some ⟨oc_ParseError, od_ParseError, .func (PySem.W.ksFn "__init__" "ParseError.__init__" (erA "text" p1_ParseError p2_ParseError) (erB "text" ms_ParseError jj_ParseError q0_ParseError q1_ParseError q2_ParseError q3_ParseError q4_ParseError q5_ParseError q6_ParseError q7_ParseError q8_ParseError q9_ParseError) (erS "text") .none .none dc_ParseError pm_ParseError an_ParseError (.ref d_eParseError) ct_ParseError q_ParseError), osl_ParseError⟩)
    (cf_ParseError : PySem.W.codeIn K (.ref d_eParseError) "ParseError.__init__" = true)
    (ln_ParseError : (q2_ParseError.endLine == q4_ParseError.line) = true)
    (ld_ParseError : K.lookup d_eParseError = some ⟨ccl_ParseError, cdd_ParseError, .fields vs_ParseError, ccs_ParseError⟩)
    (vf_ParseError : vs_ParseError[2]? = some (.str file_ParseError tf_ParseError))
    (fi_ParseError : ((l.prog.main.file : Str) == file_ParseError) = true)
    (lc_ParseError : K.lookup q_ParseError = some ⟨cl_ParseError, cld_ParseError, .cell (some (.ref C_ParseError)), csl_ParseError⟩)
    (cc_ParseError : PySem.W.findIn K (.ref C_ParseError) "__class__" = some (some (.builtin "object.__class__")))
    (mo_ParseError : PySem.W.mroIn K C_ParseError (.type "object") = some true)
    (ki_NothingToUndo_ParseError : PySem.W.subIn K (.ref C_ParseError) (.ref C_NothingToUndo) = some false)
    (ki_UnknownName_ParseError : PySem.W.subIn K (.ref C_ParseError) (.ref C_UnknownName) = some false)
    (ki_LimitExceeded_ParseError : PySem.W.subIn K (.ref C_ParseError) (.ref C_LimitExceeded) = some false)
    (ki_Weightless_ParseError : PySem.W.subIn K (.ref C_ParseError) (.ref C_Weightless) = some false)
    (ki_NameClash_ParseError : PySem.W.subIn K (.ref C_ParseError) (.ref C_NameClash) = some false)
    (ki_ParseError_ParseError : PySem.W.subIn K (.ref C_ParseError) (.ref C_ParseError) = some true)
    (ki_InvalidCommand_ParseError : PySem.W.subIn K (.ref C_ParseError) (.ref C_InvalidCommand) = some false)
    (ki_InvalidName_ParseError : PySem.W.subIn K (.ref C_ParseError) (.ref C_InvalidName) = some false)
    (ki_InvalidTensions_ParseError : PySem.W.subIn K (.ref C_ParseError) (.ref C_InvalidTensions) = some false)
    (ki_InvalidLimits_ParseError : PySem.W.subIn K (.ref C_ParseError) (.ref C_InvalidLimits) = some false)
    (ki_InvalidHeights_ParseError : PySem.W.subIn K (.ref C_ParseError) (.ref C_InvalidHeights) = some false)
    (ki_InvalidMotion_ParseError : PySem.W.subIn K (.ref C_ParseError) (.ref C_InvalidMotion) = some false)
    (ki_InvalidRope_ParseError : PySem.W.subIn K (.ref C_ParseError) (.ref C_InvalidRope) = some false)
    (ki_InvalidWork_ParseError : PySem.W.subIn K (.ref C_ParseError) (.ref C_InvalidWork) = some false)
    (ki_InvalidNumber_ParseError : PySem.W.subIn K (.ref C_ParseError) (.ref C_InvalidNumber) = some false)
    (ki_RuntimeError_ParseError : PySem.W.subIn K (.ref C_ParseError) (.type "RuntimeError") = some false)
    (ki_OverflowError_ParseError : PySem.W.subIn K (.ref C_ParseError) (.type "OverflowError") = some false)
    (ki_KeyError_ParseError : PySem.W.subIn K (.ref C_ParseError) (.type "KeyError") = some false)
    (ki_LookupError_ParseError : PySem.W.subIn K (.ref C_ParseError) (.type "LookupError") = some false)
    (ki_ValueError_ParseError : PySem.W.subIn K (.ref C_ParseError) (.type "ValueError") = some true)
    (ki_WorkError_ParseError : PySem.W.subIn K (.ref C_ParseError) (.ref C_WorkError) = some true)
    (xL_NameClash : K.lookup C_NameClash = some (excClassObj nm_NameClash qn_NameClash C_NameClash N_NameClash bs_NameClash [.ref C_WorkError, .type "ValueError", .type "Exception", .type "BaseException", .type "object"] true sn_NameClash sub_NameClash ab_NameClash col_NameClash dd_NameClash m0_NameClash m1_NameClash m2_NameClash m3_NameClash m5_NameClash "ValueError.__new__"))
    (su_NameClash : PySem.W.ks_superIn K C_NameClash C_NameClash "__init__" = some (some (.builtin "ValueError.__init__")))
    (mr_NameClash : PySem.W.mroIn K C_NameClash (.ref C_NameClash) = some true)
    (sB_NameClash : PySem.W.subIn K (.ref C_NameClash) (.type "ValueError") = some true)
    (sa_NameClash : PySem.W.findIn K (.ref C_NameClash) "__setattr__" = some (some (.builtin "object.__setattr__")))
    (ga_NameClash : PySem.W.findIn K (.ref C_NameClash) "__getattribute__" = some (some (.builtin "BaseException.__getattribute__")))
    (gg_NameClash : PySem.W.findIn K (.ref C_NameClash) "__getattr__" = some none)
    (no_NameClash : PySem.W.findIn K (.ref C_NameClash) "name" = some none)
    (iI_NameClash : PySem.W.findIn K (.ref C_NameClash) "__init__" = some (some (.ref i_NameClash)))
    (ti_NameClash : PySem.W.typeIn K (.ref i_NameClash) = some (.type "function"))
    (kC_NameClash : PySem.W.keepIn K (.ref C_NameClash) = true)
    (eB_NameClash : PySem.W.subIn K (.ref C_NameClash) (.type "BaseException") = some true)
    (tt_NameClash : PySem.W.typeIn K (.ref C_NameClash) = some (.type "type"))
    (hd_NameClash : PySem.W.hasDictIn K C_NameClash = true)
    (lf_NameClash : K.lookup i_NameClash = some ⟨oc_NameClash, od_NameClash, .func (PySem.W.ksFn "__init__" "NameClash.__init__" (erA "name" p1_NameClash p2_NameClash) (erB "name" ms_NameClash jj_NameClash q0_NameClash q1_NameClash q2_NameClash q3_NameClash q4_NameClash q5_NameClash q6_NameClash q7_NameClash q8_NameClash q9_NameClash) (erS "name") .none .none dc_NameClash pm_NameClash an_NameClash (.ref d_eNameClash) ct_NameClash q_NameClash), osl_NameClash⟩)
    (cf_NameClash : PySem.W.codeIn K (.ref d_eNameClash) "NameClash.__init__" = true)
    (ln_NameClash : (q2_NameClash.endLine == q4_NameClash.line) = true)
    (ld_NameClash : K.lookup d_eNameClash = some ⟨ccl_NameClash, cdd_NameClash, .fields vs_NameClash, ccs_NameClash⟩)
    (vf_NameClash : vs_NameClash[2]? = some (.str file_NameClash tf_NameClash))
    (fi_NameClash : ((l.prog.main.file : Str) == file_NameClash) = true)
    (lc_NameClash : K.lookup q_NameClash = some ⟨cl_NameClash, cld_NameClash, .cell (some (.ref C_NameClash)), csl_NameClash⟩)
    (cc_NameClash : PySem.W.findIn K (.ref C_NameClash) "__class__" = some (some (.builtin "object.__class__")))
    (mo_NameClash : PySem.W.mroIn K C_NameClash (.type "object") = some true)
    (ki_NothingToUndo_NameClash : PySem.W.subIn K (.ref C_NameClash) (.ref C_NothingToUndo) = some false)
    (ki_UnknownName_NameClash : PySem.W.subIn K (.ref C_NameClash) (.ref C_UnknownName) = some false)
    (ki_LimitExceeded_NameClash : PySem.W.subIn K (.ref C_NameClash) (.ref C_LimitExceeded) = some false)
    (ki_Weightless_NameClash : PySem.W.subIn K (.ref C_NameClash) (.ref C_Weightless) = some false)
    (ki_NameClash_NameClash : PySem.W.subIn K (.ref C_NameClash) (.ref C_NameClash) = some true)
    (ki_ParseError_NameClash : PySem.W.subIn K (.ref C_NameClash) (.ref C_ParseError) = some false)
    (ki_InvalidCommand_NameClash : PySem.W.subIn K (.ref C_NameClash) (.ref C_InvalidCommand) = some false)
    (ki_InvalidName_NameClash : PySem.W.subIn K (.ref C_NameClash) (.ref C_InvalidName) = some false)
    (ki_InvalidTensions_NameClash : PySem.W.subIn K (.ref C_NameClash) (.ref C_InvalidTensions) = some false)
    (ki_InvalidLimits_NameClash : PySem.W.subIn K (.ref C_NameClash) (.ref C_InvalidLimits) = some false)
    (ki_InvalidHeights_NameClash : PySem.W.subIn K (.ref C_NameClash) (.ref C_InvalidHeights) = some false)
    (ki_InvalidMotion_NameClash : PySem.W.subIn K (.ref C_NameClash) (.ref C_InvalidMotion) = some false)
    (ki_InvalidRope_NameClash : PySem.W.subIn K (.ref C_NameClash) (.ref C_InvalidRope) = some false)
    (ki_InvalidWork_NameClash : PySem.W.subIn K (.ref C_NameClash) (.ref C_InvalidWork) = some false)
    (ki_InvalidNumber_NameClash : PySem.W.subIn K (.ref C_NameClash) (.ref C_InvalidNumber) = some false)
    (ki_RuntimeError_NameClash : PySem.W.subIn K (.ref C_NameClash) (.type "RuntimeError") = some false)
    (ki_OverflowError_NameClash : PySem.W.subIn K (.ref C_NameClash) (.type "OverflowError") = some false)
    (ki_KeyError_NameClash : PySem.W.subIn K (.ref C_NameClash) (.type "KeyError") = some false)
    (ki_LookupError_NameClash : PySem.W.subIn K (.ref C_NameClash) (.type "LookupError") = some false)
    (ki_ValueError_NameClash : PySem.W.subIn K (.ref C_NameClash) (.type "ValueError") = some true)
    (ki_WorkError_NameClash : PySem.W.subIn K (.ref C_NameClash) (.ref C_WorkError) = some true)
    (xL_Weightless : K.lookup C_Weightless = some (excClassObj nm_Weightless qn_Weightless C_Weightless N_Weightless bs_Weightless [.ref C_WorkError, .type "ValueError", .type "Exception", .type "BaseException", .type "object"] true sn_Weightless sub_Weightless ab_Weightless col_Weightless dd_Weightless m0_Weightless m1_Weightless m2_Weightless m3_Weightless m5_Weightless "ValueError.__new__"))
    (su_Weightless : PySem.W.ks_superIn K C_Weightless C_Weightless "__init__" = some (some (.builtin "ValueError.__init__")))
    (mr_Weightless : PySem.W.mroIn K C_Weightless (.ref C_Weightless) = some true)
    (sB_Weightless : PySem.W.subIn K (.ref C_Weightless) (.type "ValueError") = some true)
    (sa_Weightless : PySem.W.findIn K (.ref C_Weightless) "__setattr__" = some (some (.builtin "object.__setattr__")))
    (ga_Weightless : PySem.W.findIn K (.ref C_Weightless) "__getattribute__" = some (some (.builtin "BaseException.__getattribute__")))
    (gg_Weightless : PySem.W.findIn K (.ref C_Weightless) "__getattr__" = some none)
    (no_Weightless : PySem.W.findIn K (.ref C_Weightless) "hook" = some none)
    (iI_Weightless : PySem.W.findIn K (.ref C_Weightless) "__init__" = some (some (.ref i_Weightless)))
    (ti_Weightless : PySem.W.typeIn K (.ref i_Weightless) = some (.type "function"))
    (kC_Weightless : PySem.W.keepIn K (.ref C_Weightless) = true)
    (eB_Weightless : PySem.W.subIn K (.ref C_Weightless) (.type "BaseException") = some true)
    (tt_Weightless : PySem.W.typeIn K (.ref C_Weightless) = some (.type "type"))
    (hd_Weightless : PySem.W.hasDictIn K C_Weightless = true)
    (lf_Weightless : K.lookup i_Weightless = some ⟨oc_Weightless, od_Weightless, .func (PySem.W.ksFn "__init__" "Weightless.__init__" (erA "hook" p1_Weightless p2_Weightless) (erB "hook" ms_Weightless jj_Weightless q0_Weightless q1_Weightless q2_Weightless q3_Weightless q4_Weightless q5_Weightless q6_Weightless q7_Weightless q8_Weightless q9_Weightless) (erS "hook") .none .none dc_Weightless pm_Weightless an_Weightless (.ref d_eWeightless) ct_Weightless q_Weightless), osl_Weightless⟩)
    (cf_Weightless : PySem.W.codeIn K (.ref d_eWeightless) "Weightless.__init__" = true)
    (ln_Weightless : (q2_Weightless.endLine == q4_Weightless.line) = true)
    (ld_Weightless : K.lookup d_eWeightless = some ⟨ccl_Weightless, cdd_Weightless, .fields vs_Weightless, ccs_Weightless⟩)
    (vf_Weightless : vs_Weightless[2]? = some (.str file_Weightless tf_Weightless))
    (fi_Weightless : ((l.prog.main.file : Str) == file_Weightless) = true)
    (lc_Weightless : K.lookup q_Weightless = some ⟨cl_Weightless, cld_Weightless, .cell (some (.ref C_Weightless)), csl_Weightless⟩)
    (cc_Weightless : PySem.W.findIn K (.ref C_Weightless) "__class__" = some (some (.builtin "object.__class__")))
    (mo_Weightless : PySem.W.mroIn K C_Weightless (.type "object") = some true)
    (ki_NothingToUndo_Weightless : PySem.W.subIn K (.ref C_Weightless) (.ref C_NothingToUndo) = some false)
    (ki_UnknownName_Weightless : PySem.W.subIn K (.ref C_Weightless) (.ref C_UnknownName) = some false)
    (ki_LimitExceeded_Weightless : PySem.W.subIn K (.ref C_Weightless) (.ref C_LimitExceeded) = some false)
    (ki_Weightless_Weightless : PySem.W.subIn K (.ref C_Weightless) (.ref C_Weightless) = some true)
    (ki_NameClash_Weightless : PySem.W.subIn K (.ref C_Weightless) (.ref C_NameClash) = some false)
    (ki_ParseError_Weightless : PySem.W.subIn K (.ref C_Weightless) (.ref C_ParseError) = some false)
    (ki_InvalidCommand_Weightless : PySem.W.subIn K (.ref C_Weightless) (.ref C_InvalidCommand) = some false)
    (ki_InvalidName_Weightless : PySem.W.subIn K (.ref C_Weightless) (.ref C_InvalidName) = some false)
    (ki_InvalidTensions_Weightless : PySem.W.subIn K (.ref C_Weightless) (.ref C_InvalidTensions) = some false)
    (ki_InvalidLimits_Weightless : PySem.W.subIn K (.ref C_Weightless) (.ref C_InvalidLimits) = some false)
    (ki_InvalidHeights_Weightless : PySem.W.subIn K (.ref C_Weightless) (.ref C_InvalidHeights) = some false)
    (ki_InvalidMotion_Weightless : PySem.W.subIn K (.ref C_Weightless) (.ref C_InvalidMotion) = some false)
    (ki_InvalidRope_Weightless : PySem.W.subIn K (.ref C_Weightless) (.ref C_InvalidRope) = some false)
    (ki_InvalidWork_Weightless : PySem.W.subIn K (.ref C_Weightless) (.ref C_InvalidWork) = some false)
    (ki_InvalidNumber_Weightless : PySem.W.subIn K (.ref C_Weightless) (.ref C_InvalidNumber) = some false)
    (ki_RuntimeError_Weightless : PySem.W.subIn K (.ref C_Weightless) (.type "RuntimeError") = some false)
    (ki_OverflowError_Weightless : PySem.W.subIn K (.ref C_Weightless) (.type "OverflowError") = some false)
    (ki_KeyError_Weightless : PySem.W.subIn K (.ref C_Weightless) (.type "KeyError") = some false)
    (ki_LookupError_Weightless : PySem.W.subIn K (.ref C_Weightless) (.type "LookupError") = some false)
    (ki_ValueError_Weightless : PySem.W.subIn K (.ref C_Weightless) (.type "ValueError") = some true)
    (ki_WorkError_Weightless : PySem.W.subIn K (.ref C_Weightless) (.ref C_WorkError) = some true)
    (xL_LimitExceeded : K.lookup C_LimitExceeded = some (excClassObj nm_LimitExceeded qn_LimitExceeded C_LimitExceeded N_LimitExceeded bs_LimitExceeded [.type "OverflowError", .type "ArithmeticError", .type "Exception", .type "BaseException", .type "object"] true sn_LimitExceeded sub_LimitExceeded ab_LimitExceeded col_LimitExceeded dd_LimitExceeded m0_LimitExceeded m1_LimitExceeded m2_LimitExceeded m3_LimitExceeded m5_LimitExceeded "OverflowError.__new__"))
    (su_LimitExceeded : PySem.W.ks_superIn K C_LimitExceeded C_LimitExceeded "__init__" = some (some (.builtin "OverflowError.__init__")))
    (mr_LimitExceeded : PySem.W.mroIn K C_LimitExceeded (.ref C_LimitExceeded) = some true)
    (sB_LimitExceeded : PySem.W.subIn K (.ref C_LimitExceeded) (.type "OverflowError") = some true)
    (sa_LimitExceeded : PySem.W.findIn K (.ref C_LimitExceeded) "__setattr__" = some (some (.builtin "object.__setattr__")))
    (ga_LimitExceeded : PySem.W.findIn K (.ref C_LimitExceeded) "__getattribute__" = some (some (.builtin "BaseException.__getattribute__")))
    (gg_LimitExceeded : PySem.W.findIn K (.ref C_LimitExceeded) "__getattr__" = some none)
    (no_LimitExceeded : PySem.W.findIn K (.ref C_LimitExceeded) "count" = some none)
    (iI_LimitExceeded : PySem.W.findIn K (.ref C_LimitExceeded) "__init__" = some (some (.ref i_LimitExceeded)))
    (ti_LimitExceeded : PySem.W.typeIn K (.ref i_LimitExceeded) = some (.type "function"))
    (kC_LimitExceeded : PySem.W.keepIn K (.ref C_LimitExceeded) = true)
    (eB_LimitExceeded : PySem.W.subIn K (.ref C_LimitExceeded) (.type "BaseException") = some true)
    (tt_LimitExceeded : PySem.W.typeIn K (.ref C_LimitExceeded) = some (.type "type"))
    (hd_LimitExceeded : PySem.W.hasDictIn K C_LimitExceeded = true)
    (lf_LimitExceeded : K.lookup i_LimitExceeded = some ⟨oc_LimitExceeded, od_LimitExceeded, .func (PySem.W.ksFn "__init__" "LimitExceeded.__init__" (erA "count" p1_LimitExceeded p2_LimitExceeded) (erB "count" ms_LimitExceeded jj_LimitExceeded q0_LimitExceeded q1_LimitExceeded q2_LimitExceeded q3_LimitExceeded q4_LimitExceeded q5_LimitExceeded q6_LimitExceeded q7_LimitExceeded q8_LimitExceeded q9_LimitExceeded) (erS "count") .none .none dc_LimitExceeded pm_LimitExceeded an_LimitExceeded (.ref d_eLimitExceeded) ct_LimitExceeded q_LimitExceeded), osl_LimitExceeded⟩)
    (cf_LimitExceeded : PySem.W.codeIn K (.ref d_eLimitExceeded) "LimitExceeded.__init__" = true)
    (ln_LimitExceeded : (q2_LimitExceeded.endLine == q4_LimitExceeded.line) = true)
    (ld_LimitExceeded : K.lookup d_eLimitExceeded = some ⟨ccl_LimitExceeded, cdd_LimitExceeded, .fields vs_LimitExceeded, ccs_LimitExceeded⟩)
    (vf_LimitExceeded : vs_LimitExceeded[2]? = some (.str file_LimitExceeded tf_LimitExceeded))
    (fi_LimitExceeded : ((l.prog.main.file : Str) == file_LimitExceeded) = true)
    (lc_LimitExceeded : K.lookup q_LimitExceeded = some ⟨cl_LimitExceeded, cld_LimitExceeded, .cell (some (.ref C_LimitExceeded)), csl_LimitExceeded⟩)
    (cc_LimitExceeded : PySem.W.findIn K (.ref C_LimitExceeded) "__class__" = some (some (.builtin "object.__class__")))
    (mo_LimitExceeded : PySem.W.mroIn K C_LimitExceeded (.type "object") = some true)
    (ki_NothingToUndo_LimitExceeded : PySem.W.subIn K (.ref C_LimitExceeded) (.ref C_NothingToUndo) = some false)
    (ki_UnknownName_LimitExceeded : PySem.W.subIn K (.ref C_LimitExceeded) (.ref C_UnknownName) = some false)
    (ki_LimitExceeded_LimitExceeded : PySem.W.subIn K (.ref C_LimitExceeded) (.ref C_LimitExceeded) = some true)
    (ki_Weightless_LimitExceeded : PySem.W.subIn K (.ref C_LimitExceeded) (.ref C_Weightless) = some false)
    (ki_NameClash_LimitExceeded : PySem.W.subIn K (.ref C_LimitExceeded) (.ref C_NameClash) = some false)
    (ki_ParseError_LimitExceeded : PySem.W.subIn K (.ref C_LimitExceeded) (.ref C_ParseError) = some false)
    (ki_InvalidCommand_LimitExceeded : PySem.W.subIn K (.ref C_LimitExceeded) (.ref C_InvalidCommand) = some false)
    (ki_InvalidName_LimitExceeded : PySem.W.subIn K (.ref C_LimitExceeded) (.ref C_InvalidName) = some false)
    (ki_InvalidTensions_LimitExceeded : PySem.W.subIn K (.ref C_LimitExceeded) (.ref C_InvalidTensions) = some false)
    (ki_InvalidLimits_LimitExceeded : PySem.W.subIn K (.ref C_LimitExceeded) (.ref C_InvalidLimits) = some false)
    (ki_InvalidHeights_LimitExceeded : PySem.W.subIn K (.ref C_LimitExceeded) (.ref C_InvalidHeights) = some false)
    (ki_InvalidMotion_LimitExceeded : PySem.W.subIn K (.ref C_LimitExceeded) (.ref C_InvalidMotion) = some false)
    (ki_InvalidRope_LimitExceeded : PySem.W.subIn K (.ref C_LimitExceeded) (.ref C_InvalidRope) = some false)
    (ki_InvalidWork_LimitExceeded : PySem.W.subIn K (.ref C_LimitExceeded) (.ref C_InvalidWork) = some false)
    (ki_InvalidNumber_LimitExceeded : PySem.W.subIn K (.ref C_LimitExceeded) (.ref C_InvalidNumber) = some false)
    (ki_RuntimeError_LimitExceeded : PySem.W.subIn K (.ref C_LimitExceeded) (.type "RuntimeError") = some false)
    (ki_OverflowError_LimitExceeded : PySem.W.subIn K (.ref C_LimitExceeded) (.type "OverflowError") = some true)
    (ki_KeyError_LimitExceeded : PySem.W.subIn K (.ref C_LimitExceeded) (.type "KeyError") = some false)
    (ki_LookupError_LimitExceeded : PySem.W.subIn K (.ref C_LimitExceeded) (.type "LookupError") = some false)
    (ki_ValueError_LimitExceeded : PySem.W.subIn K (.ref C_LimitExceeded) (.type "ValueError") = some false)
    (ki_WorkError_LimitExceeded : PySem.W.subIn K (.ref C_LimitExceeded) (.ref C_WorkError) = some false)
    (xL_UnknownName : K.lookup C_UnknownName = some (excClassObj nm_UnknownName qn_UnknownName C_UnknownName N_UnknownName bs_UnknownName [.type "KeyError", .type "LookupError", .type "Exception", .type "BaseException", .type "object"] true sn_UnknownName sub_UnknownName ab_UnknownName col_UnknownName dd_UnknownName m0_UnknownName m1_UnknownName m2_UnknownName m3_UnknownName m5_UnknownName "LookupError.__new__"))
    (su_UnknownName : PySem.W.ks_superIn K C_UnknownName C_UnknownName "__init__" = some (some (.builtin "KeyError.__init__")))
    (mr_UnknownName : PySem.W.mroIn K C_UnknownName (.ref C_UnknownName) = some true)
    (sB_UnknownName : PySem.W.subIn K (.ref C_UnknownName) (.type "KeyError") = some true)
    (sa_UnknownName : PySem.W.findIn K (.ref C_UnknownName) "__setattr__" = some (some (.builtin "object.__setattr__")))
    (ga_UnknownName : PySem.W.findIn K (.ref C_UnknownName) "__getattribute__" = some (some (.builtin "BaseException.__getattribute__")))
    (gg_UnknownName : PySem.W.findIn K (.ref C_UnknownName) "__getattr__" = some none)
    (no_UnknownName : PySem.W.findIn K (.ref C_UnknownName) "name" = some none)
    (iI_UnknownName : PySem.W.findIn K (.ref C_UnknownName) "__init__" = some (some (.ref i_UnknownName)))
    (ti_UnknownName : PySem.W.typeIn K (.ref i_UnknownName) = some (.type "function"))
    (kC_UnknownName : PySem.W.keepIn K (.ref C_UnknownName) = true)
    (eB_UnknownName : PySem.W.subIn K (.ref C_UnknownName) (.type "BaseException") = some true)
    (tt_UnknownName : PySem.W.typeIn K (.ref C_UnknownName) = some (.type "type"))
    (hd_UnknownName : PySem.W.hasDictIn K C_UnknownName = true)
    (lf_UnknownName : K.lookup i_UnknownName = some ⟨oc_UnknownName, od_UnknownName, .func (PySem.W.ksFn "__init__" "UnknownName.__init__" (erA "name" p1_UnknownName p2_UnknownName) (erB "name" ms_UnknownName jj_UnknownName q0_UnknownName q1_UnknownName q2_UnknownName q3_UnknownName q4_UnknownName q5_UnknownName q6_UnknownName q7_UnknownName q8_UnknownName q9_UnknownName) (erS "name") .none .none dc_UnknownName pm_UnknownName an_UnknownName (.ref d_eUnknownName) ct_UnknownName q_UnknownName), osl_UnknownName⟩)
    (cf_UnknownName : PySem.W.codeIn K (.ref d_eUnknownName) "UnknownName.__init__" = true)
    (ln_UnknownName : (q2_UnknownName.endLine == q4_UnknownName.line) = true)
    (ld_UnknownName : K.lookup d_eUnknownName = some ⟨ccl_UnknownName, cdd_UnknownName, .fields vs_UnknownName, ccs_UnknownName⟩)
    (vf_UnknownName : vs_UnknownName[2]? = some (.str file_UnknownName tf_UnknownName))
    (fi_UnknownName : ((l.prog.main.file : Str) == file_UnknownName) = true)
    (lc_UnknownName : K.lookup q_UnknownName = some ⟨cl_UnknownName, cld_UnknownName, .cell (some (.ref C_UnknownName)), csl_UnknownName⟩)
    (cc_UnknownName : PySem.W.findIn K (.ref C_UnknownName) "__class__" = some (some (.builtin "object.__class__")))
    (mo_UnknownName : PySem.W.mroIn K C_UnknownName (.type "object") = some true)
    (ki_NothingToUndo_UnknownName : PySem.W.subIn K (.ref C_UnknownName) (.ref C_NothingToUndo) = some false)
    (ki_UnknownName_UnknownName : PySem.W.subIn K (.ref C_UnknownName) (.ref C_UnknownName) = some true)
    (ki_LimitExceeded_UnknownName : PySem.W.subIn K (.ref C_UnknownName) (.ref C_LimitExceeded) = some false)
    (ki_Weightless_UnknownName : PySem.W.subIn K (.ref C_UnknownName) (.ref C_Weightless) = some false)
    (ki_NameClash_UnknownName : PySem.W.subIn K (.ref C_UnknownName) (.ref C_NameClash) = some false)
    (ki_ParseError_UnknownName : PySem.W.subIn K (.ref C_UnknownName) (.ref C_ParseError) = some false)
    (ki_InvalidCommand_UnknownName : PySem.W.subIn K (.ref C_UnknownName) (.ref C_InvalidCommand) = some false)
    (ki_InvalidName_UnknownName : PySem.W.subIn K (.ref C_UnknownName) (.ref C_InvalidName) = some false)
    (ki_InvalidTensions_UnknownName : PySem.W.subIn K (.ref C_UnknownName) (.ref C_InvalidTensions) = some false)
    (ki_InvalidLimits_UnknownName : PySem.W.subIn K (.ref C_UnknownName) (.ref C_InvalidLimits) = some false)
    (ki_InvalidHeights_UnknownName : PySem.W.subIn K (.ref C_UnknownName) (.ref C_InvalidHeights) = some false)
    (ki_InvalidMotion_UnknownName : PySem.W.subIn K (.ref C_UnknownName) (.ref C_InvalidMotion) = some false)
    (ki_InvalidRope_UnknownName : PySem.W.subIn K (.ref C_UnknownName) (.ref C_InvalidRope) = some false)
    (ki_InvalidWork_UnknownName : PySem.W.subIn K (.ref C_UnknownName) (.ref C_InvalidWork) = some false)
    (ki_InvalidNumber_UnknownName : PySem.W.subIn K (.ref C_UnknownName) (.ref C_InvalidNumber) = some false)
    (ki_RuntimeError_UnknownName : PySem.W.subIn K (.ref C_UnknownName) (.type "RuntimeError") = some false)
    (ki_OverflowError_UnknownName : PySem.W.subIn K (.ref C_UnknownName) (.type "OverflowError") = some false)
    (ki_KeyError_UnknownName : PySem.W.subIn K (.ref C_UnknownName) (.type "KeyError") = some true)
    (ki_LookupError_UnknownName : PySem.W.subIn K (.ref C_UnknownName) (.type "LookupError") = some true)
    (ki_ValueError_UnknownName : PySem.W.subIn K (.ref C_UnknownName) (.type "ValueError") = some false)
    (ki_WorkError_UnknownName : PySem.W.subIn K (.ref C_UnknownName) (.ref C_WorkError) = some false)
    (ga_NothingToUndo : PySem.W.findIn K (.ref C_NothingToUndo) "__getattribute__" = some (some (.builtin "BaseException.__getattribute__")))
    (gg_NothingToUndo : PySem.W.findIn K (.ref C_NothingToUndo) "__getattr__" = some none)
    (no_NothingToUndo : PySem.W.findIn K (.ref C_NothingToUndo) "" = some none)
    (eB_NothingToUndo : PySem.W.subIn K (.ref C_NothingToUndo) (.type "BaseException") = some true)
    (tt_NothingToUndo : PySem.W.typeIn K (.ref C_NothingToUndo) = some (.type "type"))
    (hd_NothingToUndo : PySem.W.hasDictIn K C_NothingToUndo = true)
    (cc_NothingToUndo : PySem.W.findIn K (.ref C_NothingToUndo) "__class__" = some (some (.builtin "object.__class__")))
    (mo_NothingToUndo : PySem.W.mroIn K C_NothingToUndo (.type "object") = some true)
    (xq_NothingToUndo : PySem.W.excIn K C_NothingToUndo [.type "RuntimeError", .type "Exception", .type "BaseException", .type "object"] "RuntimeError.__new__" = true)
    (kC_NothingToUndo : PySem.W.keepIn K (.ref C_NothingToUndo) = true)
    (ki_NothingToUndo_NothingToUndo : PySem.W.subIn K (.ref C_NothingToUndo) (.ref C_NothingToUndo) = some true)
    (ki_UnknownName_NothingToUndo : PySem.W.subIn K (.ref C_NothingToUndo) (.ref C_UnknownName) = some false)
    (ki_LimitExceeded_NothingToUndo : PySem.W.subIn K (.ref C_NothingToUndo) (.ref C_LimitExceeded) = some false)
    (ki_Weightless_NothingToUndo : PySem.W.subIn K (.ref C_NothingToUndo) (.ref C_Weightless) = some false)
    (ki_NameClash_NothingToUndo : PySem.W.subIn K (.ref C_NothingToUndo) (.ref C_NameClash) = some false)
    (ki_ParseError_NothingToUndo : PySem.W.subIn K (.ref C_NothingToUndo) (.ref C_ParseError) = some false)
    (ki_InvalidCommand_NothingToUndo : PySem.W.subIn K (.ref C_NothingToUndo) (.ref C_InvalidCommand) = some false)
    (ki_InvalidName_NothingToUndo : PySem.W.subIn K (.ref C_NothingToUndo) (.ref C_InvalidName) = some false)
    (ki_InvalidTensions_NothingToUndo : PySem.W.subIn K (.ref C_NothingToUndo) (.ref C_InvalidTensions) = some false)
    (ki_InvalidLimits_NothingToUndo : PySem.W.subIn K (.ref C_NothingToUndo) (.ref C_InvalidLimits) = some false)
    (ki_InvalidHeights_NothingToUndo : PySem.W.subIn K (.ref C_NothingToUndo) (.ref C_InvalidHeights) = some false)
    (ki_InvalidMotion_NothingToUndo : PySem.W.subIn K (.ref C_NothingToUndo) (.ref C_InvalidMotion) = some false)
    (ki_InvalidRope_NothingToUndo : PySem.W.subIn K (.ref C_NothingToUndo) (.ref C_InvalidRope) = some false)
    (ki_InvalidWork_NothingToUndo : PySem.W.subIn K (.ref C_NothingToUndo) (.ref C_InvalidWork) = some false)
    (ki_InvalidNumber_NothingToUndo : PySem.W.subIn K (.ref C_NothingToUndo) (.ref C_InvalidNumber) = some false)
    (ki_RuntimeError_NothingToUndo : PySem.W.subIn K (.ref C_NothingToUndo) (.type "RuntimeError") = some true)
    (ki_OverflowError_NothingToUndo : PySem.W.subIn K (.ref C_NothingToUndo) (.type "OverflowError") = some false)
    (ki_KeyError_NothingToUndo : PySem.W.subIn K (.ref C_NothingToUndo) (.type "KeyError") = some false)
    (ki_LookupError_NothingToUndo : PySem.W.subIn K (.ref C_NothingToUndo) (.type "LookupError") = some false)
    (ki_ValueError_NothingToUndo : PySem.W.subIn K (.ref C_NothingToUndo) (.type "ValueError") = some false)
    (ki_WorkError_NothingToUndo : PySem.W.subIn K (.ref C_NothingToUndo) (.ref C_WorkError) = some false)
    (kr_NothingToUndo : PySem.W.subIn K (.ref C_NothingToUndo) (.ref C_NothingToUndo) = some true)
    (kr_UnknownName : PySem.W.subIn K (.ref C_UnknownName) (.ref C_UnknownName) = some true)
    (kr_LimitExceeded : PySem.W.subIn K (.ref C_LimitExceeded) (.ref C_LimitExceeded) = some true)
    (kr_Weightless : PySem.W.subIn K (.ref C_Weightless) (.ref C_Weightless) = some true)
    (kr_NameClash : PySem.W.subIn K (.ref C_NameClash) (.ref C_NameClash) = some true)
    (kr_ParseError : PySem.W.subIn K (.ref C_ParseError) (.ref C_ParseError) = some true)
    (kr_InvalidCommand : PySem.W.subIn K (.ref C_InvalidCommand) (.ref C_InvalidCommand) = some true)
    (kr_InvalidName : PySem.W.subIn K (.ref C_InvalidName) (.ref C_InvalidName) = some true)
    (kr_InvalidTensions : PySem.W.subIn K (.ref C_InvalidTensions) (.ref C_InvalidTensions) = some true)
    (kr_InvalidLimits : PySem.W.subIn K (.ref C_InvalidLimits) (.ref C_InvalidLimits) = some true)
    (kr_InvalidHeights : PySem.W.subIn K (.ref C_InvalidHeights) (.ref C_InvalidHeights) = some true)
    (kr_InvalidMotion : PySem.W.subIn K (.ref C_InvalidMotion) (.ref C_InvalidMotion) = some true)
    (kr_InvalidRope : PySem.W.subIn K (.ref C_InvalidRope) (.ref C_InvalidRope) = some true)
    (kr_InvalidWork : PySem.W.subIn K (.ref C_InvalidWork) (.ref C_InvalidWork) = some true)
    (kr_InvalidNumber : PySem.W.subIn K (.ref C_InvalidNumber) (.ref C_InvalidNumber) = some true)
    (kr_WorkError : PySem.W.subIn K (.ref C_WorkError) (.ref C_WorkError) = some true)
    (hd_WorkError : PySem.W.hasDictIn K C_WorkError = true) (tt_WorkError : PySem.W.typeIn K (.ref C_WorkError) = some (.type "type"))
    (any : PySem.W.nsIn K cStatics "thirdparty.any" = some none) (zsup : PySem.W.nsIn K mainGlobals "super" = some none) (top : (l.prog.main.scope.names.lookup ("super" : Str)).isSome = false) (spg : PySem.W.specialIn K (.builtin "object.__class__") "__get__" = some (some (.builtin "getset_descriptor.__get__"))) (tkc : PySem.W.takesIn K (.builtin "object.__class__") = some true)
    (zx_other : PySem.W.nsIn K mainGlobals "-" = some none) :
    ∃ fd : FuncData, (∀ (s : Shared) (v : Value), BindsTo s fd ⟨[v], []⟩ [("_law_script", v)]) ∧ ∀ base : Heap, K.In base → base.Ns mainGlobals mg → FnG l.prog w K mg base 3 fa fd ["_law_script"] (spLaw K) := by
  have e := hfa.symm.trans (PySem.W.mg_of X G a_law)
  cases e
  have F__law_pool := funv_mk (st := s__law_pool) l__law_pool x__law_pool k__law_pool
  have b__law_pool := (fun_mk (st := s__law_pool) l__law_pool x__law_pool k__law_pool).binds (ps := ["_law_script", "_law_k"]) fun _ _ _ _ _ _ us hl => match us, hl with | [_, _], _ => rfl
  have F__law_draw := funv_mk (st := s__law_draw) l__law_draw x__law_draw k__law_draw
  have b__law_draw := (fun_mk (st := s__law_draw) l__law_draw x__law_draw k__law_draw).binds (ps := ["_law_pool_here", "_law_many"]) fun _ _ _ _ _ _ us hl => match us, hl with | [_, _], _ => rfl
  have F__law_fields_hold := funv_mk (st := s__law_fields_hold) l__law_fields_hold x__law_fields_hold k__law_fields_hold
  have b__law_fields_hold := (fun_mk (st := s__law_fields_hold) l__law_fields_hold x__law_fields_hold k__law_fields_hold).binds (ps := ["_law_a"]) fun _ _ _ _ _ _ us hl => match us, hl with | [_], _ => rfl
  have F__law_own := funv_mk (st := s__law_own) l__law_own x__law_own k__law_own
  have b__law_own := (fun_mk (st := s__law_own) l__law_own x__law_own k__law_own).binds (ps := ["_law_error"]) fun _ _ _ _ _ _ us hl => match us, hl with | [_], _ => rfl
  have F__law_under := funv_mk (st := s__law_under) l__law_under x__law_under k__law_under
  have b__law_under := (fun_mk (st := s__law_under) l__law_under x__law_under k__law_under).binds (ps := ["_law_error"]) fun _ _ _ _ _ _ us hl => match us, hl with | [_], _ => rfl
  have F_law := funv_mk (st := s_law) l_law x_law k_law
  have b_law := (fun_mk (st := s_law) l_law x_law k_law).binds (ps := ["_law_script"]) fun _ _ _ _ _ _ us hl => match us, hl with | [_], _ => rfl
  have only : ∀ (k : Nat) (C : Addr), mg (exN k) = some (.ref C) → (k = 0 ∧ C = C_InvalidNumber) ∨ (k = 1 ∧ C = C_InvalidWork) ∨ (k = 2 ∧ C = C_InvalidRope) ∨ (k = 3 ∧ C = C_InvalidMotion) ∨ (k = 4 ∧ C = C_InvalidHeights) ∨ (k = 5 ∧ C = C_InvalidLimits) ∨ (k = 6 ∧ C = C_InvalidTensions) ∨ (k = 7 ∧ C = C_InvalidName) ∨ (k = 8 ∧ C = C_InvalidCommand) ∨ (k = 9 ∧ C = C_ParseError) ∨ (k = 10 ∧ C = C_NameClash) ∨ (k = 11 ∧ C = C_Weightless) ∨ (k = 12 ∧ C = C_LimitExceeded) ∨ (k = 13 ∧ C = C_UnknownName) ∨ (k = 14 ∧ C = C_NothingToUndo) := by
    intro k C h
    have no : ∀ {y : Str}, PySem.W.nsIn K mainGlobals y = some none → mg y = some (.ref C) → False := fun z h => by rw [PySem.W.mg_none_of X G z] at h; cases h
    match k, h with
    | 0, h => exact (.inl ⟨rfl, by have e := (PySem.W.mg_of X G aC_InvalidNumber).symm.trans h; cases e; rfl⟩)
    | 1, h => exact (.inr (.inl ⟨rfl, by have e := (PySem.W.mg_of X G aC_InvalidWork).symm.trans h; cases e; rfl⟩))
    | 2, h => exact (.inr (.inr (.inl ⟨rfl, by have e := (PySem.W.mg_of X G aC_InvalidRope).symm.trans h; cases e; rfl⟩)))
    | 3, h => exact (.inr (.inr (.inr (.inl ⟨rfl, by have e := (PySem.W.mg_of X G aC_InvalidMotion).symm.trans h; cases e; rfl⟩))))
    | 4, h => exact (.inr (.inr (.inr (.inr (.inl ⟨rfl, by have e := (PySem.W.mg_of X G aC_InvalidHeights).symm.trans h; cases e; rfl⟩)))))
    | 5, h => exact (.inr (.inr (.inr (.inr (.inr (.inl ⟨rfl, by have e := (PySem.W.mg_of X G aC_InvalidLimits).symm.trans h; cases e; rfl⟩))))))
    | 6, h => exact (.inr (.inr (.inr (.inr (.inr (.inr (.inl ⟨rfl, by have e := (PySem.W.mg_of X G aC_InvalidTensions).symm.trans h; cases e; rfl⟩)))))))
    | 7, h => exact (.inr (.inr (.inr (.inr (.inr (.inr (.inr (.inl ⟨rfl, by have e := (PySem.W.mg_of X G aC_InvalidName).symm.trans h; cases e; rfl⟩))))))))
    | 8, h => exact (.inr (.inr (.inr (.inr (.inr (.inr (.inr (.inr (.inl ⟨rfl, by have e := (PySem.W.mg_of X G aC_InvalidCommand).symm.trans h; cases e; rfl⟩)))))))))
    | 9, h => exact (.inr (.inr (.inr (.inr (.inr (.inr (.inr (.inr (.inr (.inl ⟨rfl, by have e := (PySem.W.mg_of X G aC_ParseError).symm.trans h; cases e; rfl⟩))))))))))
    | 10, h => exact (.inr (.inr (.inr (.inr (.inr (.inr (.inr (.inr (.inr (.inr (.inl ⟨rfl, by have e := (PySem.W.mg_of X G aC_NameClash).symm.trans h; cases e; rfl⟩)))))))))))
    | 11, h => exact (.inr (.inr (.inr (.inr (.inr (.inr (.inr (.inr (.inr (.inr (.inr (.inl ⟨rfl, by have e := (PySem.W.mg_of X G aC_Weightless).symm.trans h; cases e; rfl⟩))))))))))))
    | 12, h => exact (.inr (.inr (.inr (.inr (.inr (.inr (.inr (.inr (.inr (.inr (.inr (.inr (.inl ⟨rfl, by have e := (PySem.W.mg_of X G aC_LimitExceeded).symm.trans h; cases e; rfl⟩)))))))))))))
    | 13, h => exact (.inr (.inr (.inr (.inr (.inr (.inr (.inr (.inr (.inr (.inr (.inr (.inr (.inr (.inl ⟨rfl, by have e := (PySem.W.mg_of X G aC_UnknownName).symm.trans h; cases e; rfl⟩))))))))))))))
    | 14, h => exact (.inr (.inr (.inr (.inr (.inr (.inr (.inr (.inr (.inr (.inr (.inr (.inr (.inr (.inr ⟨rfl, by have e := (PySem.W.mg_of X G aC_NothingToUndo).symm.trans h; cases e; rfl⟩))))))))))))))
    | _ + 15, h => exact (no zx_other h).elim
  have T : Txt l.prog K mg _ _ _ _ _ _ _ _ _ _ _ _ _ _ _ _ _ _ _ _ _ _ _ _ _ _ _ _ _ _ _ _ _ _ _ _ _ _ _ _ _ _ _ _ _ _ _ _ _ _ _ _ _ _ _ _ _ _ _ _ _ _ _ _ _ _ _ _ _ _ := {
    E_InvalidNumber := { gC := PySem.W.mg_of X G aC_InvalidNumber, noSup := PySem.W.mg_none_of X G zsup, cls := ⟨.val, _, _, _, _, _, _, _, _, _, _, _, _, _, _, _, xL_InvalidNumber, rfl, su_InvalidNumber, sB_InvalidNumber⟩, any := any, mroC := mr_InvalidNumber, sa := sa_InvalidNumber, ga := ga_InvalidNumber, gg := gg_InvalidNumber, noN := no_InvalidNumber, iC := iI_InvalidNumber, tC := ti_InvalidNumber, kC := kC_InvalidNumber, exC := eB_InvalidNumber, tyC := tt_InvalidNumber, hdC := hd_InvalidNumber, fn := ⟨_, _, _, _, _, _, _, _, _, _, _, _, _, _, _, _, _, _, _, _, _, _, lf_InvalidNumber, cf_InvalidNumber, ln_InvalidNumber⟩, code := ⟨_, _, _, _, _, _, ld_InvalidNumber, vf_InvalidNumber, fi_InvalidNumber⟩, cell := ⟨_, _, _, lc_InvalidNumber⟩, top := top }
    E_InvalidWork := { gC := PySem.W.mg_of X G aC_InvalidWork, noSup := PySem.W.mg_none_of X G zsup, cls := ⟨.val, _, _, _, _, _, _, _, _, _, _, _, _, _, _, _, xL_InvalidWork, rfl, su_InvalidWork, sB_InvalidWork⟩, any := any, mroC := mr_InvalidWork, sa := sa_InvalidWork, ga := ga_InvalidWork, gg := gg_InvalidWork, noN := no_InvalidWork, iC := iI_InvalidWork, tC := ti_InvalidWork, kC := kC_InvalidWork, exC := eB_InvalidWork, tyC := tt_InvalidWork, hdC := hd_InvalidWork, fn := ⟨_, _, _, _, _, _, _, _, _, _, _, _, _, _, _, _, _, _, _, _, _, _, lf_InvalidWork, cf_InvalidWork, ln_InvalidWork⟩, code := ⟨_, _, _, _, _, _, ld_InvalidWork, vf_InvalidWork, fi_InvalidWork⟩, cell := ⟨_, _, _, lc_InvalidWork⟩, top := top }
    E_InvalidRope := { gC := PySem.W.mg_of X G aC_InvalidRope, noSup := PySem.W.mg_none_of X G zsup, cls := ⟨.val, _, _, _, _, _, _, _, _, _, _, _, _, _, _, _, xL_InvalidRope, rfl, su_InvalidRope, sB_InvalidRope⟩, any := any, mroC := mr_InvalidRope, sa := sa_InvalidRope, ga := ga_InvalidRope, gg := gg_InvalidRope, noN := no_InvalidRope, iC := iI_InvalidRope, tC := ti_InvalidRope, kC := kC_InvalidRope, exC := eB_InvalidRope, tyC := tt_InvalidRope, hdC := hd_InvalidRope, fn := ⟨_, _, _, _, _, _, _, _, _, _, _, _, _, _, _, _, _, _, _, _, _, _, lf_InvalidRope, cf_InvalidRope, ln_InvalidRope⟩, code := ⟨_, _, _, _, _, _, ld_InvalidRope, vf_InvalidRope, fi_InvalidRope⟩, cell := ⟨_, _, _, lc_InvalidRope⟩, top := top }
    E_InvalidMotion := { gC := PySem.W.mg_of X G aC_InvalidMotion, noSup := PySem.W.mg_none_of X G zsup, cls := ⟨.val, _, _, _, _, _, _, _, _, _, _, _, _, _, _, _, xL_InvalidMotion, rfl, su_InvalidMotion, sB_InvalidMotion⟩, any := any, mroC := mr_InvalidMotion, sa := sa_InvalidMotion, ga := ga_InvalidMotion, gg := gg_InvalidMotion, noN := no_InvalidMotion, iC := iI_InvalidMotion, tC := ti_InvalidMotion, kC := kC_InvalidMotion, exC := eB_InvalidMotion, tyC := tt_InvalidMotion, hdC := hd_InvalidMotion, fn := ⟨_, _, _, _, _, _, _, _, _, _, _, _, _, _, _, _, _, _, _, _, _, _, lf_InvalidMotion, cf_InvalidMotion, ln_InvalidMotion⟩, code := ⟨_, _, _, _, _, _, ld_InvalidMotion, vf_InvalidMotion, fi_InvalidMotion⟩, cell := ⟨_, _, _, lc_InvalidMotion⟩, top := top }
    E_InvalidHeights := { gC := PySem.W.mg_of X G aC_InvalidHeights, noSup := PySem.W.mg_none_of X G zsup, cls := ⟨.val, _, _, _, _, _, _, _, _, _, _, _, _, _, _, _, xL_InvalidHeights, rfl, su_InvalidHeights, sB_InvalidHeights⟩, any := any, mroC := mr_InvalidHeights, sa := sa_InvalidHeights, ga := ga_InvalidHeights, gg := gg_InvalidHeights, noN := no_InvalidHeights, iC := iI_InvalidHeights, tC := ti_InvalidHeights, kC := kC_InvalidHeights, exC := eB_InvalidHeights, tyC := tt_InvalidHeights, hdC := hd_InvalidHeights, fn := ⟨_, _, _, _, _, _, _, _, _, _, _, _, _, _, _, _, _, _, _, _, _, _, lf_InvalidHeights, cf_InvalidHeights, ln_InvalidHeights⟩, code := ⟨_, _, _, _, _, _, ld_InvalidHeights, vf_InvalidHeights, fi_InvalidHeights⟩, cell := ⟨_, _, _, lc_InvalidHeights⟩, top := top }
    E_InvalidLimits := { gC := PySem.W.mg_of X G aC_InvalidLimits, noSup := PySem.W.mg_none_of X G zsup, cls := ⟨.val, _, _, _, _, _, _, _, _, _, _, _, _, _, _, _, xL_InvalidLimits, rfl, su_InvalidLimits, sB_InvalidLimits⟩, any := any, mroC := mr_InvalidLimits, sa := sa_InvalidLimits, ga := ga_InvalidLimits, gg := gg_InvalidLimits, noN := no_InvalidLimits, iC := iI_InvalidLimits, tC := ti_InvalidLimits, kC := kC_InvalidLimits, exC := eB_InvalidLimits, tyC := tt_InvalidLimits, hdC := hd_InvalidLimits, fn := ⟨_, _, _, _, _, _, _, _, _, _, _, _, _, _, _, _, _, _, _, _, _, _, lf_InvalidLimits, cf_InvalidLimits, ln_InvalidLimits⟩, code := ⟨_, _, _, _, _, _, ld_InvalidLimits, vf_InvalidLimits, fi_InvalidLimits⟩, cell := ⟨_, _, _, lc_InvalidLimits⟩, top := top }
    E_InvalidTensions := { gC := PySem.W.mg_of X G aC_InvalidTensions, noSup := PySem.W.mg_none_of X G zsup, cls := ⟨.val, _, _, _, _, _, _, _, _, _, _, _, _, _, _, _, xL_InvalidTensions, rfl, su_InvalidTensions, sB_InvalidTensions⟩, any := any, mroC := mr_InvalidTensions, sa := sa_InvalidTensions, ga := ga_InvalidTensions, gg := gg_InvalidTensions, noN := no_InvalidTensions, iC := iI_InvalidTensions, tC := ti_InvalidTensions, kC := kC_InvalidTensions, exC := eB_InvalidTensions, tyC := tt_InvalidTensions, hdC := hd_InvalidTensions, fn := ⟨_, _, _, _, _, _, _, _, _, _, _, _, _, _, _, _, _, _, _, _, _, _, lf_InvalidTensions, cf_InvalidTensions, ln_InvalidTensions⟩, code := ⟨_, _, _, _, _, _, ld_InvalidTensions, vf_InvalidTensions, fi_InvalidTensions⟩, cell := ⟨_, _, _, lc_InvalidTensions⟩, top := top }
    E_InvalidName := { gC := PySem.W.mg_of X G aC_InvalidName, noSup := PySem.W.mg_none_of X G zsup, cls := ⟨.val, _, _, _, _, _, _, _, _, _, _, _, _, _, _, _, xL_InvalidName, rfl, su_InvalidName, sB_InvalidName⟩, any := any, mroC := mr_InvalidName, sa := sa_InvalidName, ga := ga_InvalidName, gg := gg_InvalidName, noN := no_InvalidName, iC := iI_InvalidName, tC := ti_InvalidName, kC := kC_InvalidName, exC := eB_InvalidName, tyC := tt_InvalidName, hdC := hd_InvalidName, fn := ⟨_, _, _, _, _, _, _, _, _, _, _, _, _, _, _, _, _, _, _, _, _, _, lf_InvalidName, cf_InvalidName, ln_InvalidName⟩, code := ⟨_, _, _, _, _, _, ld_InvalidName, vf_InvalidName, fi_InvalidName⟩, cell := ⟨_, _, _, lc_InvalidName⟩, top := top }
    E_InvalidCommand := { gC := PySem.W.mg_of X G aC_InvalidCommand, noSup := PySem.W.mg_none_of X G zsup, cls := ⟨.val, _, _, _, _, _, _, _, _, _, _, _, _, _, _, _, xL_InvalidCommand, rfl, su_InvalidCommand, sB_InvalidCommand⟩, any := any, mroC := mr_InvalidCommand, sa := sa_InvalidCommand, ga := ga_InvalidCommand, gg := gg_InvalidCommand, noN := no_InvalidCommand, iC := iI_InvalidCommand, tC := ti_InvalidCommand, kC := kC_InvalidCommand, exC := eB_InvalidCommand, tyC := tt_InvalidCommand, hdC := hd_InvalidCommand, fn := ⟨_, _, _, _, _, _, _, _, _, _, _, _, _, _, _, _, _, _, _, _, _, _, lf_InvalidCommand, cf_InvalidCommand, ln_InvalidCommand⟩, code := ⟨_, _, _, _, _, _, ld_InvalidCommand, vf_InvalidCommand, fi_InvalidCommand⟩, cell := ⟨_, _, _, lc_InvalidCommand⟩, top := top }
    E_ParseError := { gC := PySem.W.mg_of X G aC_ParseError, noSup := PySem.W.mg_none_of X G zsup, cls := ⟨.val, _, _, _, _, _, _, _, _, _, _, _, _, _, _, _, xL_ParseError, rfl, su_ParseError, sB_ParseError⟩, any := any, mroC := mr_ParseError, sa := sa_ParseError, ga := ga_ParseError, gg := gg_ParseError, noN := no_ParseError, iC := iI_ParseError, tC := ti_ParseError, kC := kC_ParseError, exC := eB_ParseError, tyC := tt_ParseError, hdC := hd_ParseError, fn := ⟨_, _, _, _, _, _, _, _, _, _, _, _, _, _, _, _, _, _, _, _, _, _, lf_ParseError, cf_ParseError, ln_ParseError⟩, code := ⟨_, _, _, _, _, _, ld_ParseError, vf_ParseError, fi_ParseError⟩, cell := ⟨_, _, _, lc_ParseError⟩, top := top }
    E_NameClash := { gC := PySem.W.mg_of X G aC_NameClash, noSup := PySem.W.mg_none_of X G zsup, cls := ⟨.val, _, _, _, _, _, _, _, _, _, _, _, _, _, _, _, xL_NameClash, rfl, su_NameClash, sB_NameClash⟩, any := any, mroC := mr_NameClash, sa := sa_NameClash, ga := ga_NameClash, gg := gg_NameClash, noN := no_NameClash, iC := iI_NameClash, tC := ti_NameClash, kC := kC_NameClash, exC := eB_NameClash, tyC := tt_NameClash, hdC := hd_NameClash, fn := ⟨_, _, _, _, _, _, _, _, _, _, _, _, _, _, _, _, _, _, _, _, _, _, lf_NameClash, cf_NameClash, ln_NameClash⟩, code := ⟨_, _, _, _, _, _, ld_NameClash, vf_NameClash, fi_NameClash⟩, cell := ⟨_, _, _, lc_NameClash⟩, top := top }
    E_Weightless := { gC := PySem.W.mg_of X G aC_Weightless, noSup := PySem.W.mg_none_of X G zsup, cls := ⟨.val, _, _, _, _, _, _, _, _, _, _, _, _, _, _, _, xL_Weightless, rfl, su_Weightless, sB_Weightless⟩, any := any, mroC := mr_Weightless, sa := sa_Weightless, ga := ga_Weightless, gg := gg_Weightless, noN := no_Weightless, iC := iI_Weightless, tC := ti_Weightless, kC := kC_Weightless, exC := eB_Weightless, tyC := tt_Weightless, hdC := hd_Weightless, fn := ⟨_, _, _, _, _, _, _, _, _, _, _, _, _, _, _, _, _, _, _, _, _, _, lf_Weightless, cf_Weightless, ln_Weightless⟩, code := ⟨_, _, _, _, _, _, ld_Weightless, vf_Weightless, fi_Weightless⟩, cell := ⟨_, _, _, lc_Weightless⟩, top := top }
    E_LimitExceeded := { gC := PySem.W.mg_of X G aC_LimitExceeded, noSup := PySem.W.mg_none_of X G zsup, cls := ⟨.ovf, _, _, _, _, _, _, _, _, _, _, _, _, _, _, _, xL_LimitExceeded, rfl, su_LimitExceeded, sB_LimitExceeded⟩, any := any, mroC := mr_LimitExceeded, sa := sa_LimitExceeded, ga := ga_LimitExceeded, gg := gg_LimitExceeded, noN := no_LimitExceeded, iC := iI_LimitExceeded, tC := ti_LimitExceeded, kC := kC_LimitExceeded, exC := eB_LimitExceeded, tyC := tt_LimitExceeded, hdC := hd_LimitExceeded, fn := ⟨_, _, _, _, _, _, _, _, _, _, _, _, _, _, _, _, _, _, _, _, _, _, lf_LimitExceeded, cf_LimitExceeded, ln_LimitExceeded⟩, code := ⟨_, _, _, _, _, _, ld_LimitExceeded, vf_LimitExceeded, fi_LimitExceeded⟩, cell := ⟨_, _, _, lc_LimitExceeded⟩, top := top }
    E_UnknownName := { gC := PySem.W.mg_of X G aC_UnknownName, noSup := PySem.W.mg_none_of X G zsup, cls := ⟨.key, _, _, _, _, _, _, _, _, _, _, _, _, _, _, _, xL_UnknownName, rfl, su_UnknownName, sB_UnknownName⟩, any := any, mroC := mr_UnknownName, sa := sa_UnknownName, ga := ga_UnknownName, gg := gg_UnknownName, noN := no_UnknownName, iC := iI_UnknownName, tC := ti_UnknownName, kC := kC_UnknownName, exC := eB_UnknownName, tyC := tt_UnknownName, hdC := hd_UnknownName, fn := ⟨_, _, _, _, _, _, _, _, _, _, _, _, _, _, _, _, _, _, _, _, _, _, lf_UnknownName, cf_UnknownName, ln_UnknownName⟩, code := ⟨_, _, _, _, _, _, ld_UnknownName, vf_UnknownName, fi_UnknownName⟩, cell := ⟨_, _, _, lc_UnknownName⟩, top := top }
    gc_WorkError := PySem.W.mg_of X G aC_WorkError
    gc_InvalidNumber := PySem.W.mg_of X G aC_InvalidNumber
    gc_InvalidWork := PySem.W.mg_of X G aC_InvalidWork
    gc_InvalidRope := PySem.W.mg_of X G aC_InvalidRope
    gc_InvalidMotion := PySem.W.mg_of X G aC_InvalidMotion
    gc_InvalidHeights := PySem.W.mg_of X G aC_InvalidHeights
    gc_InvalidLimits := PySem.W.mg_of X G aC_InvalidLimits
    gc_InvalidTensions := PySem.W.mg_of X G aC_InvalidTensions
    gc_InvalidName := PySem.W.mg_of X G aC_InvalidName
    gc_InvalidCommand := PySem.W.mg_of X G aC_InvalidCommand
    gc_ParseError := PySem.W.mg_of X G aC_ParseError
    gc_NameClash := PySem.W.mg_of X G aC_NameClash
    gc_Weightless := PySem.W.mg_of X G aC_Weightless
    gc_LimitExceeded := PySem.W.mg_of X G aC_LimitExceeded
    gc_UnknownName := PySem.W.mg_of X G aC_UnknownName
    gc_NothingToUndo := PySem.W.mg_of X G aC_NothingToUndo
    nu := ⟨xq_NothingToUndo, kC_NothingToUndo⟩
    xf_name := fun k C h hf => by
      rcases only k C h with ⟨rfl, rfl⟩ | ⟨rfl, rfl⟩ | ⟨rfl, rfl⟩ | ⟨rfl, rfl⟩ | ⟨rfl, rfl⟩ | ⟨rfl, rfl⟩ | ⟨rfl, rfl⟩ | ⟨rfl, rfl⟩ | ⟨rfl, rfl⟩ | ⟨rfl, rfl⟩ | ⟨rfl, rfl⟩ | ⟨rfl, rfl⟩ | ⟨rfl, rfl⟩ | ⟨rfl, rfl⟩ | ⟨rfl, rfl⟩
      · exact absurd hf (by decide)
      · exact absurd hf (by decide)
      · exact ⟨⟨ga_InvalidRope, gg_InvalidRope, eB_InvalidRope, hd_InvalidRope⟩, no_InvalidRope⟩
      · exact absurd hf (by decide)
      · exact absurd hf (by decide)
      · exact absurd hf (by decide)
      · exact absurd hf (by decide)
      · exact absurd hf (by decide)
      · exact absurd hf (by decide)
      · exact absurd hf (by decide)
      · exact ⟨⟨ga_NameClash, gg_NameClash, eB_NameClash, hd_NameClash⟩, no_NameClash⟩
      · exact absurd hf (by decide)
      · exact absurd hf (by decide)
      · exact ⟨⟨ga_UnknownName, gg_UnknownName, eB_UnknownName, hd_UnknownName⟩, no_UnknownName⟩
      · exact absurd hf (by decide)
    xf_count := fun k C h hf => by
      rcases only k C h with ⟨rfl, rfl⟩ | ⟨rfl, rfl⟩ | ⟨rfl, rfl⟩ | ⟨rfl, rfl⟩ | ⟨rfl, rfl⟩ | ⟨rfl, rfl⟩ | ⟨rfl, rfl⟩ | ⟨rfl, rfl⟩ | ⟨rfl, rfl⟩ | ⟨rfl, rfl⟩ | ⟨rfl, rfl⟩ | ⟨rfl, rfl⟩ | ⟨rfl, rfl⟩ | ⟨rfl, rfl⟩ | ⟨rfl, rfl⟩
      · exact absurd hf (by decide)
      · exact absurd hf (by decide)
      · exact absurd hf (by decide)
      · exact absurd hf (by decide)
      · exact absurd hf (by decide)
      · exact absurd hf (by decide)
      · exact absurd hf (by decide)
      · exact absurd hf (by decide)
      · exact absurd hf (by decide)
      · exact absurd hf (by decide)
      · exact absurd hf (by decide)
      · exact absurd hf (by decide)
      · exact ⟨⟨ga_LimitExceeded, gg_LimitExceeded, eB_LimitExceeded, hd_LimitExceeded⟩, no_LimitExceeded⟩
      · exact absurd hf (by decide)
      · exact absurd hf (by decide)
    xf_hook := fun k C h hf => by
      rcases only k C h with ⟨rfl, rfl⟩ | ⟨rfl, rfl⟩ | ⟨rfl, rfl⟩ | ⟨rfl, rfl⟩ | ⟨rfl, rfl⟩ | ⟨rfl, rfl⟩ | ⟨rfl, rfl⟩ | ⟨rfl, rfl⟩ | ⟨rfl, rfl⟩ | ⟨rfl, rfl⟩ | ⟨rfl, rfl⟩ | ⟨rfl, rfl⟩ | ⟨rfl, rfl⟩ | ⟨rfl, rfl⟩ | ⟨rfl, rfl⟩
      · exact absurd hf (by decide)
      · exact absurd hf (by decide)
      · exact absurd hf (by decide)
      · exact absurd hf (by decide)
      · exact absurd hf (by decide)
      · exact absurd hf (by decide)
      · exact absurd hf (by decide)
      · exact absurd hf (by decide)
      · exact absurd hf (by decide)
      · exact absurd hf (by decide)
      · exact absurd hf (by decide)
      · exact ⟨⟨ga_Weightless, gg_Weightless, eB_Weightless, hd_Weightless⟩, no_Weightless⟩
      · exact absurd hf (by decide)
      · exact absurd hf (by decide)
      · exact absurd hf (by decide)
    xf_text := fun k C h hf => by
      rcases only k C h with ⟨rfl, rfl⟩ | ⟨rfl, rfl⟩ | ⟨rfl, rfl⟩ | ⟨rfl, rfl⟩ | ⟨rfl, rfl⟩ | ⟨rfl, rfl⟩ | ⟨rfl, rfl⟩ | ⟨rfl, rfl⟩ | ⟨rfl, rfl⟩ | ⟨rfl, rfl⟩ | ⟨rfl, rfl⟩ | ⟨rfl, rfl⟩ | ⟨rfl, rfl⟩ | ⟨rfl, rfl⟩ | ⟨rfl, rfl⟩
      · exact absurd hf (by decide)
      · exact absurd hf (by decide)
      · exact absurd hf (by decide)
      · exact absurd hf (by decide)
      · exact absurd hf (by decide)
      · exact absurd hf (by decide)
      · exact absurd hf (by decide)
      · exact absurd hf (by decide)
      · exact absurd hf (by decide)
      · exact ⟨⟨ga_ParseError, gg_ParseError, eB_ParseError, hd_ParseError⟩, no_ParseError⟩
      · exact absurd hf (by decide)
      · exact absurd hf (by decide)
      · exact absurd hf (by decide)
      · exact absurd hf (by decide)
      · exact absurd hf (by decide)
    xf_word := fun k C h hf => by
      rcases only k C h with ⟨rfl, rfl⟩ | ⟨rfl, rfl⟩ | ⟨rfl, rfl⟩ | ⟨rfl, rfl⟩ | ⟨rfl, rfl⟩ | ⟨rfl, rfl⟩ | ⟨rfl, rfl⟩ | ⟨rfl, rfl⟩ | ⟨rfl, rfl⟩ | ⟨rfl, rfl⟩ | ⟨rfl, rfl⟩ | ⟨rfl, rfl⟩ | ⟨rfl, rfl⟩ | ⟨rfl, rfl⟩ | ⟨rfl, rfl⟩
      · exact absurd hf (by decide)
      · exact absurd hf (by decide)
      · exact absurd hf (by decide)
      · exact absurd hf (by decide)
      · exact absurd hf (by decide)
      · exact absurd hf (by decide)
      · exact absurd hf (by decide)
      · exact absurd hf (by decide)
      · exact ⟨⟨ga_InvalidCommand, gg_InvalidCommand, eB_InvalidCommand, hd_InvalidCommand⟩, no_InvalidCommand⟩
      · exact absurd hf (by decide)
      · exact absurd hf (by decide)
      · exact absurd hf (by decide)
      · exact absurd hf (by decide)
      · exact absurd hf (by decide)
      · exact absurd hf (by decide)
    xf_value := fun k C h hf => by
      rcases only k C h with ⟨rfl, rfl⟩ | ⟨rfl, rfl⟩ | ⟨rfl, rfl⟩ | ⟨rfl, rfl⟩ | ⟨rfl, rfl⟩ | ⟨rfl, rfl⟩ | ⟨rfl, rfl⟩ | ⟨rfl, rfl⟩ | ⟨rfl, rfl⟩ | ⟨rfl, rfl⟩ | ⟨rfl, rfl⟩ | ⟨rfl, rfl⟩ | ⟨rfl, rfl⟩ | ⟨rfl, rfl⟩ | ⟨rfl, rfl⟩
      · exact ⟨⟨ga_InvalidNumber, gg_InvalidNumber, eB_InvalidNumber, hd_InvalidNumber⟩, no_InvalidNumber⟩
      · exact absurd hf (by decide)
      · exact absurd hf (by decide)
      · exact ⟨⟨ga_InvalidMotion, gg_InvalidMotion, eB_InvalidMotion, hd_InvalidMotion⟩, no_InvalidMotion⟩
      · exact ⟨⟨ga_InvalidHeights, gg_InvalidHeights, eB_InvalidHeights, hd_InvalidHeights⟩, no_InvalidHeights⟩
      · exact ⟨⟨ga_InvalidLimits, gg_InvalidLimits, eB_InvalidLimits, hd_InvalidLimits⟩, no_InvalidLimits⟩
      · exact ⟨⟨ga_InvalidTensions, gg_InvalidTensions, eB_InvalidTensions, hd_InvalidTensions⟩, no_InvalidTensions⟩
      · exact ⟨⟨ga_InvalidName, gg_InvalidName, eB_InvalidName, hd_InvalidName⟩, no_InvalidName⟩
      · exact absurd hf (by decide)
      · exact absurd hf (by decide)
      · exact absurd hf (by decide)
      · exact absurd hf (by decide)
      · exact absurd hf (by decide)
      · exact absurd hf (by decide)
      · exact absurd hf (by decide)
    xf_part := fun k C h hf => by
      rcases only k C h with ⟨rfl, rfl⟩ | ⟨rfl, rfl⟩ | ⟨rfl, rfl⟩ | ⟨rfl, rfl⟩ | ⟨rfl, rfl⟩ | ⟨rfl, rfl⟩ | ⟨rfl, rfl⟩ | ⟨rfl, rfl⟩ | ⟨rfl, rfl⟩ | ⟨rfl, rfl⟩ | ⟨rfl, rfl⟩ | ⟨rfl, rfl⟩ | ⟨rfl, rfl⟩ | ⟨rfl, rfl⟩ | ⟨rfl, rfl⟩
      · exact absurd hf (by decide)
      · exact ⟨⟨ga_InvalidWork, gg_InvalidWork, eB_InvalidWork, hd_InvalidWork⟩, no_InvalidWork⟩
      · exact absurd hf (by decide)
      · exact absurd hf (by decide)
      · exact absurd hf (by decide)
      · exact absurd hf (by decide)
      · exact absurd hf (by decide)
      · exact absurd hf (by decide)
      · exact absurd hf (by decide)
      · exact absurd hf (by decide)
      · exact absurd hf (by decide)
      · exact absurd hf (by decide)
      · exact absurd hf (by decide)
      · exact absurd hf (by decide)
      · exact absurd hf (by decide)
    xi_NothingToUndo := fun k C h => by
      rcases only k C h with ⟨rfl, rfl⟩ | ⟨rfl, rfl⟩ | ⟨rfl, rfl⟩ | ⟨rfl, rfl⟩ | ⟨rfl, rfl⟩ | ⟨rfl, rfl⟩ | ⟨rfl, rfl⟩ | ⟨rfl, rfl⟩ | ⟨rfl, rfl⟩ | ⟨rfl, rfl⟩ | ⟨rfl, rfl⟩ | ⟨rfl, rfl⟩ | ⟨rfl, rfl⟩ | ⟨rfl, rfl⟩ | ⟨rfl, rfl⟩
      · exact ⟨kxe_mk ga_InvalidNumber gg_InvalidNumber eB_InvalidNumber hd_InvalidNumber cc_InvalidNumber spg tkc mo_InvalidNumber, kit_no hd_NothingToUndo tt_NothingToUndo ki_NothingToUndo_InvalidNumber kr_NothingToUndo⟩
      · exact ⟨kxe_mk ga_InvalidWork gg_InvalidWork eB_InvalidWork hd_InvalidWork cc_InvalidWork spg tkc mo_InvalidWork, kit_no hd_NothingToUndo tt_NothingToUndo ki_NothingToUndo_InvalidWork kr_NothingToUndo⟩
      · exact ⟨kxe_mk ga_InvalidRope gg_InvalidRope eB_InvalidRope hd_InvalidRope cc_InvalidRope spg tkc mo_InvalidRope, kit_no hd_NothingToUndo tt_NothingToUndo ki_NothingToUndo_InvalidRope kr_NothingToUndo⟩
      · exact ⟨kxe_mk ga_InvalidMotion gg_InvalidMotion eB_InvalidMotion hd_InvalidMotion cc_InvalidMotion spg tkc mo_InvalidMotion, kit_no hd_NothingToUndo tt_NothingToUndo ki_NothingToUndo_InvalidMotion kr_NothingToUndo⟩
      · exact ⟨kxe_mk ga_InvalidHeights gg_InvalidHeights eB_InvalidHeights hd_InvalidHeights cc_InvalidHeights spg tkc mo_InvalidHeights, kit_no hd_NothingToUndo tt_NothingToUndo ki_NothingToUndo_InvalidHeights kr_NothingToUndo⟩
      · exact ⟨kxe_mk ga_InvalidLimits gg_InvalidLimits eB_InvalidLimits hd_InvalidLimits cc_InvalidLimits spg tkc mo_InvalidLimits, kit_no hd_NothingToUndo tt_NothingToUndo ki_NothingToUndo_InvalidLimits kr_NothingToUndo⟩
      · exact ⟨kxe_mk ga_InvalidTensions gg_InvalidTensions eB_InvalidTensions hd_InvalidTensions cc_InvalidTensions spg tkc mo_InvalidTensions, kit_no hd_NothingToUndo tt_NothingToUndo ki_NothingToUndo_InvalidTensions kr_NothingToUndo⟩
      · exact ⟨kxe_mk ga_InvalidName gg_InvalidName eB_InvalidName hd_InvalidName cc_InvalidName spg tkc mo_InvalidName, kit_no hd_NothingToUndo tt_NothingToUndo ki_NothingToUndo_InvalidName kr_NothingToUndo⟩
      · exact ⟨kxe_mk ga_InvalidCommand gg_InvalidCommand eB_InvalidCommand hd_InvalidCommand cc_InvalidCommand spg tkc mo_InvalidCommand, kit_no hd_NothingToUndo tt_NothingToUndo ki_NothingToUndo_InvalidCommand kr_NothingToUndo⟩
      · exact ⟨kxe_mk ga_ParseError gg_ParseError eB_ParseError hd_ParseError cc_ParseError spg tkc mo_ParseError, kit_no hd_NothingToUndo tt_NothingToUndo ki_NothingToUndo_ParseError kr_NothingToUndo⟩
      · exact ⟨kxe_mk ga_NameClash gg_NameClash eB_NameClash hd_NameClash cc_NameClash spg tkc mo_NameClash, kit_no hd_NothingToUndo tt_NothingToUndo ki_NothingToUndo_NameClash kr_NothingToUndo⟩
      · exact ⟨kxe_mk ga_Weightless gg_Weightless eB_Weightless hd_Weightless cc_Weightless spg tkc mo_Weightless, kit_no hd_NothingToUndo tt_NothingToUndo ki_NothingToUndo_Weightless kr_NothingToUndo⟩
      · exact ⟨kxe_mk ga_LimitExceeded gg_LimitExceeded eB_LimitExceeded hd_LimitExceeded cc_LimitExceeded spg tkc mo_LimitExceeded, kit_no hd_NothingToUndo tt_NothingToUndo ki_NothingToUndo_LimitExceeded kr_NothingToUndo⟩
      · exact ⟨kxe_mk ga_UnknownName gg_UnknownName eB_UnknownName hd_UnknownName cc_UnknownName spg tkc mo_UnknownName, kit_no hd_NothingToUndo tt_NothingToUndo ki_NothingToUndo_UnknownName kr_NothingToUndo⟩
      · exact ⟨kxe_mk ga_NothingToUndo gg_NothingToUndo eB_NothingToUndo hd_NothingToUndo cc_NothingToUndo spg tkc mo_NothingToUndo, kit_ref hd_NothingToUndo tt_NothingToUndo ki_NothingToUndo_NothingToUndo⟩
    xi_UnknownName := fun k C h => by
      rcases only k C h with ⟨rfl, rfl⟩ | ⟨rfl, rfl⟩ | ⟨rfl, rfl⟩ | ⟨rfl, rfl⟩ | ⟨rfl, rfl⟩ | ⟨rfl, rfl⟩ | ⟨rfl, rfl⟩ | ⟨rfl, rfl⟩ | ⟨rfl, rfl⟩ | ⟨rfl, rfl⟩ | ⟨rfl, rfl⟩ | ⟨rfl, rfl⟩ | ⟨rfl, rfl⟩ | ⟨rfl, rfl⟩ | ⟨rfl, rfl⟩
      · exact ⟨kxe_mk ga_InvalidNumber gg_InvalidNumber eB_InvalidNumber hd_InvalidNumber cc_InvalidNumber spg tkc mo_InvalidNumber, kit_no hd_UnknownName tt_UnknownName ki_UnknownName_InvalidNumber kr_UnknownName⟩
      · exact ⟨kxe_mk ga_InvalidWork gg_InvalidWork eB_InvalidWork hd_InvalidWork cc_InvalidWork spg tkc mo_InvalidWork, kit_no hd_UnknownName tt_UnknownName ki_UnknownName_InvalidWork kr_UnknownName⟩
      · exact ⟨kxe_mk ga_InvalidRope gg_InvalidRope eB_InvalidRope hd_InvalidRope cc_InvalidRope spg tkc mo_InvalidRope, kit_no hd_UnknownName tt_UnknownName ki_UnknownName_InvalidRope kr_UnknownName⟩
      · exact ⟨kxe_mk ga_InvalidMotion gg_InvalidMotion eB_InvalidMotion hd_InvalidMotion cc_InvalidMotion spg tkc mo_InvalidMotion, kit_no hd_UnknownName tt_UnknownName ki_UnknownName_InvalidMotion kr_UnknownName⟩
      · exact ⟨kxe_mk ga_InvalidHeights gg_InvalidHeights eB_InvalidHeights hd_InvalidHeights cc_InvalidHeights spg tkc mo_InvalidHeights, kit_no hd_UnknownName tt_UnknownName ki_UnknownName_InvalidHeights kr_UnknownName⟩
      · exact ⟨kxe_mk ga_InvalidLimits gg_InvalidLimits eB_InvalidLimits hd_InvalidLimits cc_InvalidLimits spg tkc mo_InvalidLimits, kit_no hd_UnknownName tt_UnknownName ki_UnknownName_InvalidLimits kr_UnknownName⟩
      · exact ⟨kxe_mk ga_InvalidTensions gg_InvalidTensions eB_InvalidTensions hd_InvalidTensions cc_InvalidTensions spg tkc mo_InvalidTensions, kit_no hd_UnknownName tt_UnknownName ki_UnknownName_InvalidTensions kr_UnknownName⟩
      · exact ⟨kxe_mk ga_InvalidName gg_InvalidName eB_InvalidName hd_InvalidName cc_InvalidName spg tkc mo_InvalidName, kit_no hd_UnknownName tt_UnknownName ki_UnknownName_InvalidName kr_UnknownName⟩
      · exact ⟨kxe_mk ga_InvalidCommand gg_InvalidCommand eB_InvalidCommand hd_InvalidCommand cc_InvalidCommand spg tkc mo_InvalidCommand, kit_no hd_UnknownName tt_UnknownName ki_UnknownName_InvalidCommand kr_UnknownName⟩
      · exact ⟨kxe_mk ga_ParseError gg_ParseError eB_ParseError hd_ParseError cc_ParseError spg tkc mo_ParseError, kit_no hd_UnknownName tt_UnknownName ki_UnknownName_ParseError kr_UnknownName⟩
      · exact ⟨kxe_mk ga_NameClash gg_NameClash eB_NameClash hd_NameClash cc_NameClash spg tkc mo_NameClash, kit_no hd_UnknownName tt_UnknownName ki_UnknownName_NameClash kr_UnknownName⟩
      · exact ⟨kxe_mk ga_Weightless gg_Weightless eB_Weightless hd_Weightless cc_Weightless spg tkc mo_Weightless, kit_no hd_UnknownName tt_UnknownName ki_UnknownName_Weightless kr_UnknownName⟩
      · exact ⟨kxe_mk ga_LimitExceeded gg_LimitExceeded eB_LimitExceeded hd_LimitExceeded cc_LimitExceeded spg tkc mo_LimitExceeded, kit_no hd_UnknownName tt_UnknownName ki_UnknownName_LimitExceeded kr_UnknownName⟩
      · exact ⟨kxe_mk ga_UnknownName gg_UnknownName eB_UnknownName hd_UnknownName cc_UnknownName spg tkc mo_UnknownName, kit_ref hd_UnknownName tt_UnknownName ki_UnknownName_UnknownName⟩
      · exact ⟨kxe_mk ga_NothingToUndo gg_NothingToUndo eB_NothingToUndo hd_NothingToUndo cc_NothingToUndo spg tkc mo_NothingToUndo, kit_no hd_UnknownName tt_UnknownName ki_UnknownName_NothingToUndo kr_UnknownName⟩
    xi_LimitExceeded := fun k C h => by
      rcases only k C h with ⟨rfl, rfl⟩ | ⟨rfl, rfl⟩ | ⟨rfl, rfl⟩ | ⟨rfl, rfl⟩ | ⟨rfl, rfl⟩ | ⟨rfl, rfl⟩ | ⟨rfl, rfl⟩ | ⟨rfl, rfl⟩ | ⟨rfl, rfl⟩ | ⟨rfl, rfl⟩ | ⟨rfl, rfl⟩ | ⟨rfl, rfl⟩ | ⟨rfl, rfl⟩ | ⟨rfl, rfl⟩ | ⟨rfl, rfl⟩
      · exact ⟨kxe_mk ga_InvalidNumber gg_InvalidNumber eB_InvalidNumber hd_InvalidNumber cc_InvalidNumber spg tkc mo_InvalidNumber, kit_no hd_LimitExceeded tt_LimitExceeded ki_LimitExceeded_InvalidNumber kr_LimitExceeded⟩
      · exact ⟨kxe_mk ga_InvalidWork gg_InvalidWork eB_InvalidWork hd_InvalidWork cc_InvalidWork spg tkc mo_InvalidWork, kit_no hd_LimitExceeded tt_LimitExceeded ki_LimitExceeded_InvalidWork kr_LimitExceeded⟩
      · exact ⟨kxe_mk ga_InvalidRope gg_InvalidRope eB_InvalidRope hd_InvalidRope cc_InvalidRope spg tkc mo_InvalidRope, kit_no hd_LimitExceeded tt_LimitExceeded ki_LimitExceeded_InvalidRope kr_LimitExceeded⟩
      · exact ⟨kxe_mk ga_InvalidMotion gg_InvalidMotion eB_InvalidMotion hd_InvalidMotion cc_InvalidMotion spg tkc mo_InvalidMotion, kit_no hd_LimitExceeded tt_LimitExceeded ki_LimitExceeded_InvalidMotion kr_LimitExceeded⟩
      · exact ⟨kxe_mk ga_InvalidHeights gg_InvalidHeights eB_InvalidHeights hd_InvalidHeights cc_InvalidHeights spg tkc mo_InvalidHeights, kit_no hd_LimitExceeded tt_LimitExceeded ki_LimitExceeded_InvalidHeights kr_LimitExceeded⟩
      · exact ⟨kxe_mk ga_InvalidLimits gg_InvalidLimits eB_InvalidLimits hd_InvalidLimits cc_InvalidLimits spg tkc mo_InvalidLimits, kit_no hd_LimitExceeded tt_LimitExceeded ki_LimitExceeded_InvalidLimits kr_LimitExceeded⟩
      · exact ⟨kxe_mk ga_InvalidTensions gg_InvalidTensions eB_InvalidTensions hd_InvalidTensions cc_InvalidTensions spg tkc mo_InvalidTensions, kit_no hd_LimitExceeded tt_LimitExceeded ki_LimitExceeded_InvalidTensions kr_LimitExceeded⟩
      · exact ⟨kxe_mk ga_InvalidName gg_InvalidName eB_InvalidName hd_InvalidName cc_InvalidName spg tkc mo_InvalidName, kit_no hd_LimitExceeded tt_LimitExceeded ki_LimitExceeded_InvalidName kr_LimitExceeded⟩
      · exact ⟨kxe_mk ga_InvalidCommand gg_InvalidCommand eB_InvalidCommand hd_InvalidCommand cc_InvalidCommand spg tkc mo_InvalidCommand, kit_no hd_LimitExceeded tt_LimitExceeded ki_LimitExceeded_InvalidCommand kr_LimitExceeded⟩
      · exact ⟨kxe_mk ga_ParseError gg_ParseError eB_ParseError hd_ParseError cc_ParseError spg tkc mo_ParseError, kit_no hd_LimitExceeded tt_LimitExceeded ki_LimitExceeded_ParseError kr_LimitExceeded⟩
      · exact ⟨kxe_mk ga_NameClash gg_NameClash eB_NameClash hd_NameClash cc_NameClash spg tkc mo_NameClash, kit_no hd_LimitExceeded tt_LimitExceeded ki_LimitExceeded_NameClash kr_LimitExceeded⟩
      · exact ⟨kxe_mk ga_Weightless gg_Weightless eB_Weightless hd_Weightless cc_Weightless spg tkc mo_Weightless, kit_no hd_LimitExceeded tt_LimitExceeded ki_LimitExceeded_Weightless kr_LimitExceeded⟩
      · exact ⟨kxe_mk ga_LimitExceeded gg_LimitExceeded eB_LimitExceeded hd_LimitExceeded cc_LimitExceeded spg tkc mo_LimitExceeded, kit_ref hd_LimitExceeded tt_LimitExceeded ki_LimitExceeded_LimitExceeded⟩
      · exact ⟨kxe_mk ga_UnknownName gg_UnknownName eB_UnknownName hd_UnknownName cc_UnknownName spg tkc mo_UnknownName, kit_no hd_LimitExceeded tt_LimitExceeded ki_LimitExceeded_UnknownName kr_LimitExceeded⟩
      · exact ⟨kxe_mk ga_NothingToUndo gg_NothingToUndo eB_NothingToUndo hd_NothingToUndo cc_NothingToUndo spg tkc mo_NothingToUndo, kit_no hd_LimitExceeded tt_LimitExceeded ki_LimitExceeded_NothingToUndo kr_LimitExceeded⟩
    xi_Weightless := fun k C h => by
      rcases only k C h with ⟨rfl, rfl⟩ | ⟨rfl, rfl⟩ | ⟨rfl, rfl⟩ | ⟨rfl, rfl⟩ | ⟨rfl, rfl⟩ | ⟨rfl, rfl⟩ | ⟨rfl, rfl⟩ | ⟨rfl, rfl⟩ | ⟨rfl, rfl⟩ | ⟨rfl, rfl⟩ | ⟨rfl, rfl⟩ | ⟨rfl, rfl⟩ | ⟨rfl, rfl⟩ | ⟨rfl, rfl⟩ | ⟨rfl, rfl⟩
      · exact ⟨kxe_mk ga_InvalidNumber gg_InvalidNumber eB_InvalidNumber hd_InvalidNumber cc_InvalidNumber spg tkc mo_InvalidNumber, kit_no hd_Weightless tt_Weightless ki_Weightless_InvalidNumber kr_Weightless⟩
      · exact ⟨kxe_mk ga_InvalidWork gg_InvalidWork eB_InvalidWork hd_InvalidWork cc_InvalidWork spg tkc mo_InvalidWork, kit_no hd_Weightless tt_Weightless ki_Weightless_InvalidWork kr_Weightless⟩
      · exact ⟨kxe_mk ga_InvalidRope gg_InvalidRope eB_InvalidRope hd_InvalidRope cc_InvalidRope spg tkc mo_InvalidRope, kit_no hd_Weightless tt_Weightless ki_Weightless_InvalidRope kr_Weightless⟩
      · exact ⟨kxe_mk ga_InvalidMotion gg_InvalidMotion eB_InvalidMotion hd_InvalidMotion cc_InvalidMotion spg tkc mo_InvalidMotion, kit_no hd_Weightless tt_Weightless ki_Weightless_InvalidMotion kr_Weightless⟩
      · exact ⟨kxe_mk ga_InvalidHeights gg_InvalidHeights eB_InvalidHeights hd_InvalidHeights cc_InvalidHeights spg tkc mo_InvalidHeights, kit_no hd_Weightless tt_Weightless ki_Weightless_InvalidHeights kr_Weightless⟩
      · exact ⟨kxe_mk ga_InvalidLimits gg_InvalidLimits eB_InvalidLimits hd_InvalidLimits cc_InvalidLimits spg tkc mo_InvalidLimits, kit_no hd_Weightless tt_Weightless ki_Weightless_InvalidLimits kr_Weightless⟩
      · exact ⟨kxe_mk ga_InvalidTensions gg_InvalidTensions eB_InvalidTensions hd_InvalidTensions cc_InvalidTensions spg tkc mo_InvalidTensions, kit_no hd_Weightless tt_Weightless ki_Weightless_InvalidTensions kr_Weightless⟩
      · exact ⟨kxe_mk ga_InvalidName gg_InvalidName eB_InvalidName hd_InvalidName cc_InvalidName spg tkc mo_InvalidName, kit_no hd_Weightless tt_Weightless ki_Weightless_InvalidName kr_Weightless⟩
      · exact ⟨kxe_mk ga_InvalidCommand gg_InvalidCommand eB_InvalidCommand hd_InvalidCommand cc_InvalidCommand spg tkc mo_InvalidCommand, kit_no hd_Weightless tt_Weightless ki_Weightless_InvalidCommand kr_Weightless⟩
      · exact ⟨kxe_mk ga_ParseError gg_ParseError eB_ParseError hd_ParseError cc_ParseError spg tkc mo_ParseError, kit_no hd_Weightless tt_Weightless ki_Weightless_ParseError kr_Weightless⟩
      · exact ⟨kxe_mk ga_NameClash gg_NameClash eB_NameClash hd_NameClash cc_NameClash spg tkc mo_NameClash, kit_no hd_Weightless tt_Weightless ki_Weightless_NameClash kr_Weightless⟩
      · exact ⟨kxe_mk ga_Weightless gg_Weightless eB_Weightless hd_Weightless cc_Weightless spg tkc mo_Weightless, kit_ref hd_Weightless tt_Weightless ki_Weightless_Weightless⟩
      · exact ⟨kxe_mk ga_LimitExceeded gg_LimitExceeded eB_LimitExceeded hd_LimitExceeded cc_LimitExceeded spg tkc mo_LimitExceeded, kit_no hd_Weightless tt_Weightless ki_Weightless_LimitExceeded kr_Weightless⟩
      · exact ⟨kxe_mk ga_UnknownName gg_UnknownName eB_UnknownName hd_UnknownName cc_UnknownName spg tkc mo_UnknownName, kit_no hd_Weightless tt_Weightless ki_Weightless_UnknownName kr_Weightless⟩
      · exact ⟨kxe_mk ga_NothingToUndo gg_NothingToUndo eB_NothingToUndo hd_NothingToUndo cc_NothingToUndo spg tkc mo_NothingToUndo, kit_no hd_Weightless tt_Weightless ki_Weightless_NothingToUndo kr_Weightless⟩
    xi_NameClash := fun k C h => by
      rcases only k C h with ⟨rfl, rfl⟩ | ⟨rfl, rfl⟩ | ⟨rfl, rfl⟩ | ⟨rfl, rfl⟩ | ⟨rfl, rfl⟩ | ⟨rfl, rfl⟩ | ⟨rfl, rfl⟩ | ⟨rfl, rfl⟩ | ⟨rfl, rfl⟩ | ⟨rfl, rfl⟩ | ⟨rfl, rfl⟩ | ⟨rfl, rfl⟩ | ⟨rfl, rfl⟩ | ⟨rfl, rfl⟩ | ⟨rfl, rfl⟩
      · exact ⟨kxe_mk ga_InvalidNumber gg_InvalidNumber eB_InvalidNumber hd_InvalidNumber cc_InvalidNumber spg tkc mo_InvalidNumber, kit_no hd_NameClash tt_NameClash ki_NameClash_InvalidNumber kr_NameClash⟩
      · exact ⟨kxe_mk ga_InvalidWork gg_InvalidWork eB_InvalidWork hd_InvalidWork cc_InvalidWork spg tkc mo_InvalidWork, kit_no hd_NameClash tt_NameClash ki_NameClash_InvalidWork kr_NameClash⟩
      · exact ⟨kxe_mk ga_InvalidRope gg_InvalidRope eB_InvalidRope hd_InvalidRope cc_InvalidRope spg tkc mo_InvalidRope, kit_no hd_NameClash tt_NameClash ki_NameClash_InvalidRope kr_NameClash⟩
      · exact ⟨kxe_mk ga_InvalidMotion gg_InvalidMotion eB_InvalidMotion hd_InvalidMotion cc_InvalidMotion spg tkc mo_InvalidMotion, kit_no hd_NameClash tt_NameClash ki_NameClash_InvalidMotion kr_NameClash⟩
      · exact ⟨kxe_mk ga_InvalidHeights gg_InvalidHeights eB_InvalidHeights hd_InvalidHeights cc_InvalidHeights spg tkc mo_InvalidHeights, kit_no hd_NameClash tt_NameClash ki_NameClash_InvalidHeights kr_NameClash⟩
      · exact ⟨kxe_mk ga_InvalidLimits gg_InvalidLimits eB_InvalidLimits hd_InvalidLimits cc_InvalidLimits spg tkc mo_InvalidLimits, kit_no hd_NameClash tt_NameClash ki_NameClash_InvalidLimits kr_NameClash⟩
      · exact ⟨kxe_mk ga_InvalidTensions gg_InvalidTensions eB_InvalidTensions hd_InvalidTensions cc_InvalidTensions spg tkc mo_InvalidTensions, kit_no hd_NameClash tt_NameClash ki_NameClash_InvalidTensions kr_NameClash⟩
      · exact ⟨kxe_mk ga_InvalidName gg_InvalidName eB_InvalidName hd_InvalidName cc_InvalidName spg tkc mo_InvalidName, kit_no hd_NameClash tt_NameClash ki_NameClash_InvalidName kr_NameClash⟩
      · exact ⟨kxe_mk ga_InvalidCommand gg_InvalidCommand eB_InvalidCommand hd_InvalidCommand cc_InvalidCommand spg tkc mo_InvalidCommand, kit_no hd_NameClash tt_NameClash ki_NameClash_InvalidCommand kr_NameClash⟩
      · exact ⟨kxe_mk ga_ParseError gg_ParseError eB_ParseError hd_ParseError cc_ParseError spg tkc mo_ParseError, kit_no hd_NameClash tt_NameClash ki_NameClash_ParseError kr_NameClash⟩
      · exact ⟨kxe_mk ga_NameClash gg_NameClash eB_NameClash hd_NameClash cc_NameClash spg tkc mo_NameClash, kit_ref hd_NameClash tt_NameClash ki_NameClash_NameClash⟩
      · exact ⟨kxe_mk ga_Weightless gg_Weightless eB_Weightless hd_Weightless cc_Weightless spg tkc mo_Weightless, kit_no hd_NameClash tt_NameClash ki_NameClash_Weightless kr_NameClash⟩
      · exact ⟨kxe_mk ga_LimitExceeded gg_LimitExceeded eB_LimitExceeded hd_LimitExceeded cc_LimitExceeded spg tkc mo_LimitExceeded, kit_no hd_NameClash tt_NameClash ki_NameClash_LimitExceeded kr_NameClash⟩
      · exact ⟨kxe_mk ga_UnknownName gg_UnknownName eB_UnknownName hd_UnknownName cc_UnknownName spg tkc mo_UnknownName, kit_no hd_NameClash tt_NameClash ki_NameClash_UnknownName kr_NameClash⟩
      · exact ⟨kxe_mk ga_NothingToUndo gg_NothingToUndo eB_NothingToUndo hd_NothingToUndo cc_NothingToUndo spg tkc mo_NothingToUndo, kit_no hd_NameClash tt_NameClash ki_NameClash_NothingToUndo kr_NameClash⟩
    xi_ParseError := fun k C h => by
      rcases only k C h with ⟨rfl, rfl⟩ | ⟨rfl, rfl⟩ | ⟨rfl, rfl⟩ | ⟨rfl, rfl⟩ | ⟨rfl, rfl⟩ | ⟨rfl, rfl⟩ | ⟨rfl, rfl⟩ | ⟨rfl, rfl⟩ | ⟨rfl, rfl⟩ | ⟨rfl, rfl⟩ | ⟨rfl, rfl⟩ | ⟨rfl, rfl⟩ | ⟨rfl, rfl⟩ | ⟨rfl, rfl⟩ | ⟨rfl, rfl⟩
      · exact ⟨kxe_mk ga_InvalidNumber gg_InvalidNumber eB_InvalidNumber hd_InvalidNumber cc_InvalidNumber spg tkc mo_InvalidNumber, kit_no hd_ParseError tt_ParseError ki_ParseError_InvalidNumber kr_ParseError⟩
      · exact ⟨kxe_mk ga_InvalidWork gg_InvalidWork eB_InvalidWork hd_InvalidWork cc_InvalidWork spg tkc mo_InvalidWork, kit_no hd_ParseError tt_ParseError ki_ParseError_InvalidWork kr_ParseError⟩
      · exact ⟨kxe_mk ga_InvalidRope gg_InvalidRope eB_InvalidRope hd_InvalidRope cc_InvalidRope spg tkc mo_InvalidRope, kit_no hd_ParseError tt_ParseError ki_ParseError_InvalidRope kr_ParseError⟩
      · exact ⟨kxe_mk ga_InvalidMotion gg_InvalidMotion eB_InvalidMotion hd_InvalidMotion cc_InvalidMotion spg tkc mo_InvalidMotion, kit_no hd_ParseError tt_ParseError ki_ParseError_InvalidMotion kr_ParseError⟩
      · exact ⟨kxe_mk ga_InvalidHeights gg_InvalidHeights eB_InvalidHeights hd_InvalidHeights cc_InvalidHeights spg tkc mo_InvalidHeights, kit_no hd_ParseError tt_ParseError ki_ParseError_InvalidHeights kr_ParseError⟩
      · exact ⟨kxe_mk ga_InvalidLimits gg_InvalidLimits eB_InvalidLimits hd_InvalidLimits cc_InvalidLimits spg tkc mo_InvalidLimits, kit_no hd_ParseError tt_ParseError ki_ParseError_InvalidLimits kr_ParseError⟩
      · exact ⟨kxe_mk ga_InvalidTensions gg_InvalidTensions eB_InvalidTensions hd_InvalidTensions cc_InvalidTensions spg tkc mo_InvalidTensions, kit_no hd_ParseError tt_ParseError ki_ParseError_InvalidTensions kr_ParseError⟩
      · exact ⟨kxe_mk ga_InvalidName gg_InvalidName eB_InvalidName hd_InvalidName cc_InvalidName spg tkc mo_InvalidName, kit_no hd_ParseError tt_ParseError ki_ParseError_InvalidName kr_ParseError⟩
      · exact ⟨kxe_mk ga_InvalidCommand gg_InvalidCommand eB_InvalidCommand hd_InvalidCommand cc_InvalidCommand spg tkc mo_InvalidCommand, kit_no hd_ParseError tt_ParseError ki_ParseError_InvalidCommand kr_ParseError⟩
      · exact ⟨kxe_mk ga_ParseError gg_ParseError eB_ParseError hd_ParseError cc_ParseError spg tkc mo_ParseError, kit_ref hd_ParseError tt_ParseError ki_ParseError_ParseError⟩
      · exact ⟨kxe_mk ga_NameClash gg_NameClash eB_NameClash hd_NameClash cc_NameClash spg tkc mo_NameClash, kit_no hd_ParseError tt_ParseError ki_ParseError_NameClash kr_ParseError⟩
      · exact ⟨kxe_mk ga_Weightless gg_Weightless eB_Weightless hd_Weightless cc_Weightless spg tkc mo_Weightless, kit_no hd_ParseError tt_ParseError ki_ParseError_Weightless kr_ParseError⟩
      · exact ⟨kxe_mk ga_LimitExceeded gg_LimitExceeded eB_LimitExceeded hd_LimitExceeded cc_LimitExceeded spg tkc mo_LimitExceeded, kit_no hd_ParseError tt_ParseError ki_ParseError_LimitExceeded kr_ParseError⟩
      · exact ⟨kxe_mk ga_UnknownName gg_UnknownName eB_UnknownName hd_UnknownName cc_UnknownName spg tkc mo_UnknownName, kit_no hd_ParseError tt_ParseError ki_ParseError_UnknownName kr_ParseError⟩
      · exact ⟨kxe_mk ga_NothingToUndo gg_NothingToUndo eB_NothingToUndo hd_NothingToUndo cc_NothingToUndo spg tkc mo_NothingToUndo, kit_no hd_ParseError tt_ParseError ki_ParseError_NothingToUndo kr_ParseError⟩
    xi_InvalidCommand := fun k C h => by
      rcases only k C h with ⟨rfl, rfl⟩ | ⟨rfl, rfl⟩ | ⟨rfl, rfl⟩ | ⟨rfl, rfl⟩ | ⟨rfl, rfl⟩ | ⟨rfl, rfl⟩ | ⟨rfl, rfl⟩ | ⟨rfl, rfl⟩ | ⟨rfl, rfl⟩ | ⟨rfl, rfl⟩ | ⟨rfl, rfl⟩ | ⟨rfl, rfl⟩ | ⟨rfl, rfl⟩ | ⟨rfl, rfl⟩ | ⟨rfl, rfl⟩
      · exact ⟨kxe_mk ga_InvalidNumber gg_InvalidNumber eB_InvalidNumber hd_InvalidNumber cc_InvalidNumber spg tkc mo_InvalidNumber, kit_no hd_InvalidCommand tt_InvalidCommand ki_InvalidCommand_InvalidNumber kr_InvalidCommand⟩
      · exact ⟨kxe_mk ga_InvalidWork gg_InvalidWork eB_InvalidWork hd_InvalidWork cc_InvalidWork spg tkc mo_InvalidWork, kit_no hd_InvalidCommand tt_InvalidCommand ki_InvalidCommand_InvalidWork kr_InvalidCommand⟩
      · exact ⟨kxe_mk ga_InvalidRope gg_InvalidRope eB_InvalidRope hd_InvalidRope cc_InvalidRope spg tkc mo_InvalidRope, kit_no hd_InvalidCommand tt_InvalidCommand ki_InvalidCommand_InvalidRope kr_InvalidCommand⟩
      · exact ⟨kxe_mk ga_InvalidMotion gg_InvalidMotion eB_InvalidMotion hd_InvalidMotion cc_InvalidMotion spg tkc mo_InvalidMotion, kit_no hd_InvalidCommand tt_InvalidCommand ki_InvalidCommand_InvalidMotion kr_InvalidCommand⟩
      · exact ⟨kxe_mk ga_InvalidHeights gg_InvalidHeights eB_InvalidHeights hd_InvalidHeights cc_InvalidHeights spg tkc mo_InvalidHeights, kit_no hd_InvalidCommand tt_InvalidCommand ki_InvalidCommand_InvalidHeights kr_InvalidCommand⟩
      · exact ⟨kxe_mk ga_InvalidLimits gg_InvalidLimits eB_InvalidLimits hd_InvalidLimits cc_InvalidLimits spg tkc mo_InvalidLimits, kit_no hd_InvalidCommand tt_InvalidCommand ki_InvalidCommand_InvalidLimits kr_InvalidCommand⟩
      · exact ⟨kxe_mk ga_InvalidTensions gg_InvalidTensions eB_InvalidTensions hd_InvalidTensions cc_InvalidTensions spg tkc mo_InvalidTensions, kit_no hd_InvalidCommand tt_InvalidCommand ki_InvalidCommand_InvalidTensions kr_InvalidCommand⟩
      · exact ⟨kxe_mk ga_InvalidName gg_InvalidName eB_InvalidName hd_InvalidName cc_InvalidName spg tkc mo_InvalidName, kit_no hd_InvalidCommand tt_InvalidCommand ki_InvalidCommand_InvalidName kr_InvalidCommand⟩
      · exact ⟨kxe_mk ga_InvalidCommand gg_InvalidCommand eB_InvalidCommand hd_InvalidCommand cc_InvalidCommand spg tkc mo_InvalidCommand, kit_ref hd_InvalidCommand tt_InvalidCommand ki_InvalidCommand_InvalidCommand⟩
      · exact ⟨kxe_mk ga_ParseError gg_ParseError eB_ParseError hd_ParseError cc_ParseError spg tkc mo_ParseError, kit_no hd_InvalidCommand tt_InvalidCommand ki_InvalidCommand_ParseError kr_InvalidCommand⟩
      · exact ⟨kxe_mk ga_NameClash gg_NameClash eB_NameClash hd_NameClash cc_NameClash spg tkc mo_NameClash, kit_no hd_InvalidCommand tt_InvalidCommand ki_InvalidCommand_NameClash kr_InvalidCommand⟩
      · exact ⟨kxe_mk ga_Weightless gg_Weightless eB_Weightless hd_Weightless cc_Weightless spg tkc mo_Weightless, kit_no hd_InvalidCommand tt_InvalidCommand ki_InvalidCommand_Weightless kr_InvalidCommand⟩
      · exact ⟨kxe_mk ga_LimitExceeded gg_LimitExceeded eB_LimitExceeded hd_LimitExceeded cc_LimitExceeded spg tkc mo_LimitExceeded, kit_no hd_InvalidCommand tt_InvalidCommand ki_InvalidCommand_LimitExceeded kr_InvalidCommand⟩
      · exact ⟨kxe_mk ga_UnknownName gg_UnknownName eB_UnknownName hd_UnknownName cc_UnknownName spg tkc mo_UnknownName, kit_no hd_InvalidCommand tt_InvalidCommand ki_InvalidCommand_UnknownName kr_InvalidCommand⟩
      · exact ⟨kxe_mk ga_NothingToUndo gg_NothingToUndo eB_NothingToUndo hd_NothingToUndo cc_NothingToUndo spg tkc mo_NothingToUndo, kit_no hd_InvalidCommand tt_InvalidCommand ki_InvalidCommand_NothingToUndo kr_InvalidCommand⟩
    xi_InvalidName := fun k C h => by
      rcases only k C h with ⟨rfl, rfl⟩ | ⟨rfl, rfl⟩ | ⟨rfl, rfl⟩ | ⟨rfl, rfl⟩ | ⟨rfl, rfl⟩ | ⟨rfl, rfl⟩ | ⟨rfl, rfl⟩ | ⟨rfl, rfl⟩ | ⟨rfl, rfl⟩ | ⟨rfl, rfl⟩ | ⟨rfl, rfl⟩ | ⟨rfl, rfl⟩ | ⟨rfl, rfl⟩ | ⟨rfl, rfl⟩ | ⟨rfl, rfl⟩
      · exact ⟨kxe_mk ga_InvalidNumber gg_InvalidNumber eB_InvalidNumber hd_InvalidNumber cc_InvalidNumber spg tkc mo_InvalidNumber, kit_no hd_InvalidName tt_InvalidName ki_InvalidName_InvalidNumber kr_InvalidName⟩
      · exact ⟨kxe_mk ga_InvalidWork gg_InvalidWork eB_InvalidWork hd_InvalidWork cc_InvalidWork spg tkc mo_InvalidWork, kit_no hd_InvalidName tt_InvalidName ki_InvalidName_InvalidWork kr_InvalidName⟩
      · exact ⟨kxe_mk ga_InvalidRope gg_InvalidRope eB_InvalidRope hd_InvalidRope cc_InvalidRope spg tkc mo_InvalidRope, kit_no hd_InvalidName tt_InvalidName ki_InvalidName_InvalidRope kr_InvalidName⟩
      · exact ⟨kxe_mk ga_InvalidMotion gg_InvalidMotion eB_InvalidMotion hd_InvalidMotion cc_InvalidMotion spg tkc mo_InvalidMotion, kit_no hd_InvalidName tt_InvalidName ki_InvalidName_InvalidMotion kr_InvalidName⟩
      · exact ⟨kxe_mk ga_InvalidHeights gg_InvalidHeights eB_InvalidHeights hd_InvalidHeights cc_InvalidHeights spg tkc mo_InvalidHeights, kit_no hd_InvalidName tt_InvalidName ki_InvalidName_InvalidHeights kr_InvalidName⟩
      · exact ⟨kxe_mk ga_InvalidLimits gg_InvalidLimits eB_InvalidLimits hd_InvalidLimits cc_InvalidLimits spg tkc mo_InvalidLimits, kit_no hd_InvalidName tt_InvalidName ki_InvalidName_InvalidLimits kr_InvalidName⟩
      · exact ⟨kxe_mk ga_InvalidTensions gg_InvalidTensions eB_InvalidTensions hd_InvalidTensions cc_InvalidTensions spg tkc mo_InvalidTensions, kit_no hd_InvalidName tt_InvalidName ki_InvalidName_InvalidTensions kr_InvalidName⟩
      · exact ⟨kxe_mk ga_InvalidName gg_InvalidName eB_InvalidName hd_InvalidName cc_InvalidName spg tkc mo_InvalidName, kit_ref hd_InvalidName tt_InvalidName ki_InvalidName_InvalidName⟩
      · exact ⟨kxe_mk ga_InvalidCommand gg_InvalidCommand eB_InvalidCommand hd_InvalidCommand cc_InvalidCommand spg tkc mo_InvalidCommand, kit_no hd_InvalidName tt_InvalidName ki_InvalidName_InvalidCommand kr_InvalidName⟩
      · exact ⟨kxe_mk ga_ParseError gg_ParseError eB_ParseError hd_ParseError cc_ParseError spg tkc mo_ParseError, kit_no hd_InvalidName tt_InvalidName ki_InvalidName_ParseError kr_InvalidName⟩
      · exact ⟨kxe_mk ga_NameClash gg_NameClash eB_NameClash hd_NameClash cc_NameClash spg tkc mo_NameClash, kit_no hd_InvalidName tt_InvalidName ki_InvalidName_NameClash kr_InvalidName⟩
      · exact ⟨kxe_mk ga_Weightless gg_Weightless eB_Weightless hd_Weightless cc_Weightless spg tkc mo_Weightless, kit_no hd_InvalidName tt_InvalidName ki_InvalidName_Weightless kr_InvalidName⟩
      · exact ⟨kxe_mk ga_LimitExceeded gg_LimitExceeded eB_LimitExceeded hd_LimitExceeded cc_LimitExceeded spg tkc mo_LimitExceeded, kit_no hd_InvalidName tt_InvalidName ki_InvalidName_LimitExceeded kr_InvalidName⟩
      · exact ⟨kxe_mk ga_UnknownName gg_UnknownName eB_UnknownName hd_UnknownName cc_UnknownName spg tkc mo_UnknownName, kit_no hd_InvalidName tt_InvalidName ki_InvalidName_UnknownName kr_InvalidName⟩
      · exact ⟨kxe_mk ga_NothingToUndo gg_NothingToUndo eB_NothingToUndo hd_NothingToUndo cc_NothingToUndo spg tkc mo_NothingToUndo, kit_no hd_InvalidName tt_InvalidName ki_InvalidName_NothingToUndo kr_InvalidName⟩
    xi_InvalidTensions := fun k C h => by
      rcases only k C h with ⟨rfl, rfl⟩ | ⟨rfl, rfl⟩ | ⟨rfl, rfl⟩ | ⟨rfl, rfl⟩ | ⟨rfl, rfl⟩ | ⟨rfl, rfl⟩ | ⟨rfl, rfl⟩ | ⟨rfl, rfl⟩ | ⟨rfl, rfl⟩ | ⟨rfl, rfl⟩ | ⟨rfl, rfl⟩ | ⟨rfl, rfl⟩ | ⟨rfl, rfl⟩ | ⟨rfl, rfl⟩ | ⟨rfl, rfl⟩
      · exact ⟨kxe_mk ga_InvalidNumber gg_InvalidNumber eB_InvalidNumber hd_InvalidNumber cc_InvalidNumber spg tkc mo_InvalidNumber, kit_no hd_InvalidTensions tt_InvalidTensions ki_InvalidTensions_InvalidNumber kr_InvalidTensions⟩
      · exact ⟨kxe_mk ga_InvalidWork gg_InvalidWork eB_InvalidWork hd_InvalidWork cc_InvalidWork spg tkc mo_InvalidWork, kit_no hd_InvalidTensions tt_InvalidTensions ki_InvalidTensions_InvalidWork kr_InvalidTensions⟩
      · exact ⟨kxe_mk ga_InvalidRope gg_InvalidRope eB_InvalidRope hd_InvalidRope cc_InvalidRope spg tkc mo_InvalidRope, kit_no hd_InvalidTensions tt_InvalidTensions ki_InvalidTensions_InvalidRope kr_InvalidTensions⟩
      · exact ⟨kxe_mk ga_InvalidMotion gg_InvalidMotion eB_InvalidMotion hd_InvalidMotion cc_InvalidMotion spg tkc mo_InvalidMotion, kit_no hd_InvalidTensions tt_InvalidTensions ki_InvalidTensions_InvalidMotion kr_InvalidTensions⟩
      · exact ⟨kxe_mk ga_InvalidHeights gg_InvalidHeights eB_InvalidHeights hd_InvalidHeights cc_InvalidHeights spg tkc mo_InvalidHeights, kit_no hd_InvalidTensions tt_InvalidTensions ki_InvalidTensions_InvalidHeights kr_InvalidTensions⟩
      · exact ⟨kxe_mk ga_InvalidLimits gg_InvalidLimits eB_InvalidLimits hd_InvalidLimits cc_InvalidLimits spg tkc mo_InvalidLimits, kit_no hd_InvalidTensions tt_InvalidTensions ki_InvalidTensions_InvalidLimits kr_InvalidTensions⟩
      · exact ⟨kxe_mk ga_InvalidTensions gg_InvalidTensions eB_InvalidTensions hd_InvalidTensions cc_InvalidTensions spg tkc mo_InvalidTensions, kit_ref hd_InvalidTensions tt_InvalidTensions ki_InvalidTensions_InvalidTensions⟩
      · exact ⟨kxe_mk ga_InvalidName gg_InvalidName eB_InvalidName hd_InvalidName cc_InvalidName spg tkc mo_InvalidName, kit_no hd_InvalidTensions tt_InvalidTensions ki_InvalidTensions_InvalidName kr_InvalidTensions⟩
      · exact ⟨kxe_mk ga_InvalidCommand gg_InvalidCommand eB_InvalidCommand hd_InvalidCommand cc_InvalidCommand spg tkc mo_InvalidCommand, kit_no hd_InvalidTensions tt_InvalidTensions ki_InvalidTensions_InvalidCommand kr_InvalidTensions⟩
      · exact ⟨kxe_mk ga_ParseError gg_ParseError eB_ParseError hd_ParseError cc_ParseError spg tkc mo_ParseError, kit_no hd_InvalidTensions tt_InvalidTensions ki_InvalidTensions_ParseError kr_InvalidTensions⟩
      · exact ⟨kxe_mk ga_NameClash gg_NameClash eB_NameClash hd_NameClash cc_NameClash spg tkc mo_NameClash, kit_no hd_InvalidTensions tt_InvalidTensions ki_InvalidTensions_NameClash kr_InvalidTensions⟩
      · exact ⟨kxe_mk ga_Weightless gg_Weightless eB_Weightless hd_Weightless cc_Weightless spg tkc mo_Weightless, kit_no hd_InvalidTensions tt_InvalidTensions ki_InvalidTensions_Weightless kr_InvalidTensions⟩
      · exact ⟨kxe_mk ga_LimitExceeded gg_LimitExceeded eB_LimitExceeded hd_LimitExceeded cc_LimitExceeded spg tkc mo_LimitExceeded, kit_no hd_InvalidTensions tt_InvalidTensions ki_InvalidTensions_LimitExceeded kr_InvalidTensions⟩
      · exact ⟨kxe_mk ga_UnknownName gg_UnknownName eB_UnknownName hd_UnknownName cc_UnknownName spg tkc mo_UnknownName, kit_no hd_InvalidTensions tt_InvalidTensions ki_InvalidTensions_UnknownName kr_InvalidTensions⟩
      · exact ⟨kxe_mk ga_NothingToUndo gg_NothingToUndo eB_NothingToUndo hd_NothingToUndo cc_NothingToUndo spg tkc mo_NothingToUndo, kit_no hd_InvalidTensions tt_InvalidTensions ki_InvalidTensions_NothingToUndo kr_InvalidTensions⟩
    xi_InvalidLimits := fun k C h => by
      rcases only k C h with ⟨rfl, rfl⟩ | ⟨rfl, rfl⟩ | ⟨rfl, rfl⟩ | ⟨rfl, rfl⟩ | ⟨rfl, rfl⟩ | ⟨rfl, rfl⟩ | ⟨rfl, rfl⟩ | ⟨rfl, rfl⟩ | ⟨rfl, rfl⟩ | ⟨rfl, rfl⟩ | ⟨rfl, rfl⟩ | ⟨rfl, rfl⟩ | ⟨rfl, rfl⟩ | ⟨rfl, rfl⟩ | ⟨rfl, rfl⟩
      · exact ⟨kxe_mk ga_InvalidNumber gg_InvalidNumber eB_InvalidNumber hd_InvalidNumber cc_InvalidNumber spg tkc mo_InvalidNumber, kit_no hd_InvalidLimits tt_InvalidLimits ki_InvalidLimits_InvalidNumber kr_InvalidLimits⟩
      · exact ⟨kxe_mk ga_InvalidWork gg_InvalidWork eB_InvalidWork hd_InvalidWork cc_InvalidWork spg tkc mo_InvalidWork, kit_no hd_InvalidLimits tt_InvalidLimits ki_InvalidLimits_InvalidWork kr_InvalidLimits⟩
      · exact ⟨kxe_mk ga_InvalidRope gg_InvalidRope eB_InvalidRope hd_InvalidRope cc_InvalidRope spg tkc mo_InvalidRope, kit_no hd_InvalidLimits tt_InvalidLimits ki_InvalidLimits_InvalidRope kr_InvalidLimits⟩
      · exact ⟨kxe_mk ga_InvalidMotion gg_InvalidMotion eB_InvalidMotion hd_InvalidMotion cc_InvalidMotion spg tkc mo_InvalidMotion, kit_no hd_InvalidLimits tt_InvalidLimits ki_InvalidLimits_InvalidMotion kr_InvalidLimits⟩
      · exact ⟨kxe_mk ga_InvalidHeights gg_InvalidHeights eB_InvalidHeights hd_InvalidHeights cc_InvalidHeights spg tkc mo_InvalidHeights, kit_no hd_InvalidLimits tt_InvalidLimits ki_InvalidLimits_InvalidHeights kr_InvalidLimits⟩
      · exact ⟨kxe_mk ga_InvalidLimits gg_InvalidLimits eB_InvalidLimits hd_InvalidLimits cc_InvalidLimits spg tkc mo_InvalidLimits, kit_ref hd_InvalidLimits tt_InvalidLimits ki_InvalidLimits_InvalidLimits⟩
      · exact ⟨kxe_mk ga_InvalidTensions gg_InvalidTensions eB_InvalidTensions hd_InvalidTensions cc_InvalidTensions spg tkc mo_InvalidTensions, kit_no hd_InvalidLimits tt_InvalidLimits ki_InvalidLimits_InvalidTensions kr_InvalidLimits⟩
      · exact ⟨kxe_mk ga_InvalidName gg_InvalidName eB_InvalidName hd_InvalidName cc_InvalidName spg tkc mo_InvalidName, kit_no hd_InvalidLimits tt_InvalidLimits ki_InvalidLimits_InvalidName kr_InvalidLimits⟩
      · exact ⟨kxe_mk ga_InvalidCommand gg_InvalidCommand eB_InvalidCommand hd_InvalidCommand cc_InvalidCommand spg tkc mo_InvalidCommand, kit_no hd_InvalidLimits tt_InvalidLimits ki_InvalidLimits_InvalidCommand kr_InvalidLimits⟩
      · exact ⟨kxe_mk ga_ParseError gg_ParseError eB_ParseError hd_ParseError cc_ParseError spg tkc mo_ParseError, kit_no hd_InvalidLimits tt_InvalidLimits ki_InvalidLimits_ParseError kr_InvalidLimits⟩
      · exact ⟨kxe_mk ga_NameClash gg_NameClash eB_NameClash hd_NameClash cc_NameClash spg tkc mo_NameClash, kit_no hd_InvalidLimits tt_InvalidLimits ki_InvalidLimits_NameClash kr_InvalidLimits⟩
      · exact ⟨kxe_mk ga_Weightless gg_Weightless eB_Weightless hd_Weightless cc_Weightless spg tkc mo_Weightless, kit_no hd_InvalidLimits tt_InvalidLimits ki_InvalidLimits_Weightless kr_InvalidLimits⟩
      · exact ⟨kxe_mk ga_LimitExceeded gg_LimitExceeded eB_LimitExceeded hd_LimitExceeded cc_LimitExceeded spg tkc mo_LimitExceeded, kit_no hd_InvalidLimits tt_InvalidLimits ki_InvalidLimits_LimitExceeded kr_InvalidLimits⟩
      · exact ⟨kxe_mk ga_UnknownName gg_UnknownName eB_UnknownName hd_UnknownName cc_UnknownName spg tkc mo_UnknownName, kit_no hd_InvalidLimits tt_InvalidLimits ki_InvalidLimits_UnknownName kr_InvalidLimits⟩
      · exact ⟨kxe_mk ga_NothingToUndo gg_NothingToUndo eB_NothingToUndo hd_NothingToUndo cc_NothingToUndo spg tkc mo_NothingToUndo, kit_no hd_InvalidLimits tt_InvalidLimits ki_InvalidLimits_NothingToUndo kr_InvalidLimits⟩
    xi_InvalidHeights := fun k C h => by
      rcases only k C h with ⟨rfl, rfl⟩ | ⟨rfl, rfl⟩ | ⟨rfl, rfl⟩ | ⟨rfl, rfl⟩ | ⟨rfl, rfl⟩ | ⟨rfl, rfl⟩ | ⟨rfl, rfl⟩ | ⟨rfl, rfl⟩ | ⟨rfl, rfl⟩ | ⟨rfl, rfl⟩ | ⟨rfl, rfl⟩ | ⟨rfl, rfl⟩ | ⟨rfl, rfl⟩ | ⟨rfl, rfl⟩ | ⟨rfl, rfl⟩
      · exact ⟨kxe_mk ga_InvalidNumber gg_InvalidNumber eB_InvalidNumber hd_InvalidNumber cc_InvalidNumber spg tkc mo_InvalidNumber, kit_no hd_InvalidHeights tt_InvalidHeights ki_InvalidHeights_InvalidNumber kr_InvalidHeights⟩
      · exact ⟨kxe_mk ga_InvalidWork gg_InvalidWork eB_InvalidWork hd_InvalidWork cc_InvalidWork spg tkc mo_InvalidWork, kit_no hd_InvalidHeights tt_InvalidHeights ki_InvalidHeights_InvalidWork kr_InvalidHeights⟩
      · exact ⟨kxe_mk ga_InvalidRope gg_InvalidRope eB_InvalidRope hd_InvalidRope cc_InvalidRope spg tkc mo_InvalidRope, kit_no hd_InvalidHeights tt_InvalidHeights ki_InvalidHeights_InvalidRope kr_InvalidHeights⟩
      · exact ⟨kxe_mk ga_InvalidMotion gg_InvalidMotion eB_InvalidMotion hd_InvalidMotion cc_InvalidMotion spg tkc mo_InvalidMotion, kit_no hd_InvalidHeights tt_InvalidHeights ki_InvalidHeights_InvalidMotion kr_InvalidHeights⟩
      · exact ⟨kxe_mk ga_InvalidHeights gg_InvalidHeights eB_InvalidHeights hd_InvalidHeights cc_InvalidHeights spg tkc mo_InvalidHeights, kit_ref hd_InvalidHeights tt_InvalidHeights ki_InvalidHeights_InvalidHeights⟩
      · exact ⟨kxe_mk ga_InvalidLimits gg_InvalidLimits eB_InvalidLimits hd_InvalidLimits cc_InvalidLimits spg tkc mo_InvalidLimits, kit_no hd_InvalidHeights tt_InvalidHeights ki_InvalidHeights_InvalidLimits kr_InvalidHeights⟩
      · exact ⟨kxe_mk ga_InvalidTensions gg_InvalidTensions eB_InvalidTensions hd_InvalidTensions cc_InvalidTensions spg tkc mo_InvalidTensions, kit_no hd_InvalidHeights tt_InvalidHeights ki_InvalidHeights_InvalidTensions kr_InvalidHeights⟩
      · exact ⟨kxe_mk ga_InvalidName gg_InvalidName eB_InvalidName hd_InvalidName cc_InvalidName spg tkc mo_InvalidName, kit_no hd_InvalidHeights tt_InvalidHeights ki_InvalidHeights_InvalidName kr_InvalidHeights⟩
      · exact ⟨kxe_mk ga_InvalidCommand gg_InvalidCommand eB_InvalidCommand hd_InvalidCommand cc_InvalidCommand spg tkc mo_InvalidCommand, kit_no hd_InvalidHeights tt_InvalidHeights ki_InvalidHeights_InvalidCommand kr_InvalidHeights⟩
      · exact ⟨kxe_mk ga_ParseError gg_ParseError eB_ParseError hd_ParseError cc_ParseError spg tkc mo_ParseError, kit_no hd_InvalidHeights tt_InvalidHeights ki_InvalidHeights_ParseError kr_InvalidHeights⟩
      · exact ⟨kxe_mk ga_NameClash gg_NameClash eB_NameClash hd_NameClash cc_NameClash spg tkc mo_NameClash, kit_no hd_InvalidHeights tt_InvalidHeights ki_InvalidHeights_NameClash kr_InvalidHeights⟩
      · exact ⟨kxe_mk ga_Weightless gg_Weightless eB_Weightless hd_Weightless cc_Weightless spg tkc mo_Weightless, kit_no hd_InvalidHeights tt_InvalidHeights ki_InvalidHeights_Weightless kr_InvalidHeights⟩
      · exact ⟨kxe_mk ga_LimitExceeded gg_LimitExceeded eB_LimitExceeded hd_LimitExceeded cc_LimitExceeded spg tkc mo_LimitExceeded, kit_no hd_InvalidHeights tt_InvalidHeights ki_InvalidHeights_LimitExceeded kr_InvalidHeights⟩
      · exact ⟨kxe_mk ga_UnknownName gg_UnknownName eB_UnknownName hd_UnknownName cc_UnknownName spg tkc mo_UnknownName, kit_no hd_InvalidHeights tt_InvalidHeights ki_InvalidHeights_UnknownName kr_InvalidHeights⟩
      · exact ⟨kxe_mk ga_NothingToUndo gg_NothingToUndo eB_NothingToUndo hd_NothingToUndo cc_NothingToUndo spg tkc mo_NothingToUndo, kit_no hd_InvalidHeights tt_InvalidHeights ki_InvalidHeights_NothingToUndo kr_InvalidHeights⟩
    xi_InvalidMotion := fun k C h => by
      rcases only k C h with ⟨rfl, rfl⟩ | ⟨rfl, rfl⟩ | ⟨rfl, rfl⟩ | ⟨rfl, rfl⟩ | ⟨rfl, rfl⟩ | ⟨rfl, rfl⟩ | ⟨rfl, rfl⟩ | ⟨rfl, rfl⟩ | ⟨rfl, rfl⟩ | ⟨rfl, rfl⟩ | ⟨rfl, rfl⟩ | ⟨rfl, rfl⟩ | ⟨rfl, rfl⟩ | ⟨rfl, rfl⟩ | ⟨rfl, rfl⟩
      · exact ⟨kxe_mk ga_InvalidNumber gg_InvalidNumber eB_InvalidNumber hd_InvalidNumber cc_InvalidNumber spg tkc mo_InvalidNumber, kit_no hd_InvalidMotion tt_InvalidMotion ki_InvalidMotion_InvalidNumber kr_InvalidMotion⟩
      · exact ⟨kxe_mk ga_InvalidWork gg_InvalidWork eB_InvalidWork hd_InvalidWork cc_InvalidWork spg tkc mo_InvalidWork, kit_no hd_InvalidMotion tt_InvalidMotion ki_InvalidMotion_InvalidWork kr_InvalidMotion⟩
      · exact ⟨kxe_mk ga_InvalidRope gg_InvalidRope eB_InvalidRope hd_InvalidRope cc_InvalidRope spg tkc mo_InvalidRope, kit_no hd_InvalidMotion tt_InvalidMotion ki_InvalidMotion_InvalidRope kr_InvalidMotion⟩
      · exact ⟨kxe_mk ga_InvalidMotion gg_InvalidMotion eB_InvalidMotion hd_InvalidMotion cc_InvalidMotion spg tkc mo_InvalidMotion, kit_ref hd_InvalidMotion tt_InvalidMotion ki_InvalidMotion_InvalidMotion⟩
      · exact ⟨kxe_mk ga_InvalidHeights gg_InvalidHeights eB_InvalidHeights hd_InvalidHeights cc_InvalidHeights spg tkc mo_InvalidHeights, kit_no hd_InvalidMotion tt_InvalidMotion ki_InvalidMotion_InvalidHeights kr_InvalidMotion⟩
      · exact ⟨kxe_mk ga_InvalidLimits gg_InvalidLimits eB_InvalidLimits hd_InvalidLimits cc_InvalidLimits spg tkc mo_InvalidLimits, kit_no hd_InvalidMotion tt_InvalidMotion ki_InvalidMotion_InvalidLimits kr_InvalidMotion⟩
      · exact ⟨kxe_mk ga_InvalidTensions gg_InvalidTensions eB_InvalidTensions hd_InvalidTensions cc_InvalidTensions spg tkc mo_InvalidTensions, kit_no hd_InvalidMotion tt_InvalidMotion ki_InvalidMotion_InvalidTensions kr_InvalidMotion⟩
      · exact ⟨kxe_mk ga_InvalidName gg_InvalidName eB_InvalidName hd_InvalidName cc_InvalidName spg tkc mo_InvalidName, kit_no hd_InvalidMotion tt_InvalidMotion ki_InvalidMotion_InvalidName kr_InvalidMotion⟩
      · exact ⟨kxe_mk ga_InvalidCommand gg_InvalidCommand eB_InvalidCommand hd_InvalidCommand cc_InvalidCommand spg tkc mo_InvalidCommand, kit_no hd_InvalidMotion tt_InvalidMotion ki_InvalidMotion_InvalidCommand kr_InvalidMotion⟩
      · exact ⟨kxe_mk ga_ParseError gg_ParseError eB_ParseError hd_ParseError cc_ParseError spg tkc mo_ParseError, kit_no hd_InvalidMotion tt_InvalidMotion ki_InvalidMotion_ParseError kr_InvalidMotion⟩
      · exact ⟨kxe_mk ga_NameClash gg_NameClash eB_NameClash hd_NameClash cc_NameClash spg tkc mo_NameClash, kit_no hd_InvalidMotion tt_InvalidMotion ki_InvalidMotion_NameClash kr_InvalidMotion⟩
      · exact ⟨kxe_mk ga_Weightless gg_Weightless eB_Weightless hd_Weightless cc_Weightless spg tkc mo_Weightless, kit_no hd_InvalidMotion tt_InvalidMotion ki_InvalidMotion_Weightless kr_InvalidMotion⟩
      · exact ⟨kxe_mk ga_LimitExceeded gg_LimitExceeded eB_LimitExceeded hd_LimitExceeded cc_LimitExceeded spg tkc mo_LimitExceeded, kit_no hd_InvalidMotion tt_InvalidMotion ki_InvalidMotion_LimitExceeded kr_InvalidMotion⟩
      · exact ⟨kxe_mk ga_UnknownName gg_UnknownName eB_UnknownName hd_UnknownName cc_UnknownName spg tkc mo_UnknownName, kit_no hd_InvalidMotion tt_InvalidMotion ki_InvalidMotion_UnknownName kr_InvalidMotion⟩
      · exact ⟨kxe_mk ga_NothingToUndo gg_NothingToUndo eB_NothingToUndo hd_NothingToUndo cc_NothingToUndo spg tkc mo_NothingToUndo, kit_no hd_InvalidMotion tt_InvalidMotion ki_InvalidMotion_NothingToUndo kr_InvalidMotion⟩
    xi_InvalidRope := fun k C h => by
      rcases only k C h with ⟨rfl, rfl⟩ | ⟨rfl, rfl⟩ | ⟨rfl, rfl⟩ | ⟨rfl, rfl⟩ | ⟨rfl, rfl⟩ | ⟨rfl, rfl⟩ | ⟨rfl, rfl⟩ | ⟨rfl, rfl⟩ | ⟨rfl, rfl⟩ | ⟨rfl, rfl⟩ | ⟨rfl, rfl⟩ | ⟨rfl, rfl⟩ | ⟨rfl, rfl⟩ | ⟨rfl, rfl⟩ | ⟨rfl, rfl⟩
      · exact ⟨kxe_mk ga_InvalidNumber gg_InvalidNumber eB_InvalidNumber hd_InvalidNumber cc_InvalidNumber spg tkc mo_InvalidNumber, kit_no hd_InvalidRope tt_InvalidRope ki_InvalidRope_InvalidNumber kr_InvalidRope⟩
      · exact ⟨kxe_mk ga_InvalidWork gg_InvalidWork eB_InvalidWork hd_InvalidWork cc_InvalidWork spg tkc mo_InvalidWork, kit_no hd_InvalidRope tt_InvalidRope ki_InvalidRope_InvalidWork kr_InvalidRope⟩
      · exact ⟨kxe_mk ga_InvalidRope gg_InvalidRope eB_InvalidRope hd_InvalidRope cc_InvalidRope spg tkc mo_InvalidRope, kit_ref hd_InvalidRope tt_InvalidRope ki_InvalidRope_InvalidRope⟩
      · exact ⟨kxe_mk ga_InvalidMotion gg_InvalidMotion eB_InvalidMotion hd_InvalidMotion cc_InvalidMotion spg tkc mo_InvalidMotion, kit_no hd_InvalidRope tt_InvalidRope ki_InvalidRope_InvalidMotion kr_InvalidRope⟩
      · exact ⟨kxe_mk ga_InvalidHeights gg_InvalidHeights eB_InvalidHeights hd_InvalidHeights cc_InvalidHeights spg tkc mo_InvalidHeights, kit_no hd_InvalidRope tt_InvalidRope ki_InvalidRope_InvalidHeights kr_InvalidRope⟩
      · exact ⟨kxe_mk ga_InvalidLimits gg_InvalidLimits eB_InvalidLimits hd_InvalidLimits cc_InvalidLimits spg tkc mo_InvalidLimits, kit_no hd_InvalidRope tt_InvalidRope ki_InvalidRope_InvalidLimits kr_InvalidRope⟩
      · exact ⟨kxe_mk ga_InvalidTensions gg_InvalidTensions eB_InvalidTensions hd_InvalidTensions cc_InvalidTensions spg tkc mo_InvalidTensions, kit_no hd_InvalidRope tt_InvalidRope ki_InvalidRope_InvalidTensions kr_InvalidRope⟩
      · exact ⟨kxe_mk ga_InvalidName gg_InvalidName eB_InvalidName hd_InvalidName cc_InvalidName spg tkc mo_InvalidName, kit_no hd_InvalidRope tt_InvalidRope ki_InvalidRope_InvalidName kr_InvalidRope⟩
      · exact ⟨kxe_mk ga_InvalidCommand gg_InvalidCommand eB_InvalidCommand hd_InvalidCommand cc_InvalidCommand spg tkc mo_InvalidCommand, kit_no hd_InvalidRope tt_InvalidRope ki_InvalidRope_InvalidCommand kr_InvalidRope⟩
      · exact ⟨kxe_mk ga_ParseError gg_ParseError eB_ParseError hd_ParseError cc_ParseError spg tkc mo_ParseError, kit_no hd_InvalidRope tt_InvalidRope ki_InvalidRope_ParseError kr_InvalidRope⟩
      · exact ⟨kxe_mk ga_NameClash gg_NameClash eB_NameClash hd_NameClash cc_NameClash spg tkc mo_NameClash, kit_no hd_InvalidRope tt_InvalidRope ki_InvalidRope_NameClash kr_InvalidRope⟩
      · exact ⟨kxe_mk ga_Weightless gg_Weightless eB_Weightless hd_Weightless cc_Weightless spg tkc mo_Weightless, kit_no hd_InvalidRope tt_InvalidRope ki_InvalidRope_Weightless kr_InvalidRope⟩
      · exact ⟨kxe_mk ga_LimitExceeded gg_LimitExceeded eB_LimitExceeded hd_LimitExceeded cc_LimitExceeded spg tkc mo_LimitExceeded, kit_no hd_InvalidRope tt_InvalidRope ki_InvalidRope_LimitExceeded kr_InvalidRope⟩
      · exact ⟨kxe_mk ga_UnknownName gg_UnknownName eB_UnknownName hd_UnknownName cc_UnknownName spg tkc mo_UnknownName, kit_no hd_InvalidRope tt_InvalidRope ki_InvalidRope_UnknownName kr_InvalidRope⟩
      · exact ⟨kxe_mk ga_NothingToUndo gg_NothingToUndo eB_NothingToUndo hd_NothingToUndo cc_NothingToUndo spg tkc mo_NothingToUndo, kit_no hd_InvalidRope tt_InvalidRope ki_InvalidRope_NothingToUndo kr_InvalidRope⟩
    xi_InvalidWork := fun k C h => by
      rcases only k C h with ⟨rfl, rfl⟩ | ⟨rfl, rfl⟩ | ⟨rfl, rfl⟩ | ⟨rfl, rfl⟩ | ⟨rfl, rfl⟩ | ⟨rfl, rfl⟩ | ⟨rfl, rfl⟩ | ⟨rfl, rfl⟩ | ⟨rfl, rfl⟩ | ⟨rfl, rfl⟩ | ⟨rfl, rfl⟩ | ⟨rfl, rfl⟩ | ⟨rfl, rfl⟩ | ⟨rfl, rfl⟩ | ⟨rfl, rfl⟩
      · exact ⟨kxe_mk ga_InvalidNumber gg_InvalidNumber eB_InvalidNumber hd_InvalidNumber cc_InvalidNumber spg tkc mo_InvalidNumber, kit_no hd_InvalidWork tt_InvalidWork ki_InvalidWork_InvalidNumber kr_InvalidWork⟩
      · exact ⟨kxe_mk ga_InvalidWork gg_InvalidWork eB_InvalidWork hd_InvalidWork cc_InvalidWork spg tkc mo_InvalidWork, kit_ref hd_InvalidWork tt_InvalidWork ki_InvalidWork_InvalidWork⟩
      · exact ⟨kxe_mk ga_InvalidRope gg_InvalidRope eB_InvalidRope hd_InvalidRope cc_InvalidRope spg tkc mo_InvalidRope, kit_no hd_InvalidWork tt_InvalidWork ki_InvalidWork_InvalidRope kr_InvalidWork⟩
      · exact ⟨kxe_mk ga_InvalidMotion gg_InvalidMotion eB_InvalidMotion hd_InvalidMotion cc_InvalidMotion spg tkc mo_InvalidMotion, kit_no hd_InvalidWork tt_InvalidWork ki_InvalidWork_InvalidMotion kr_InvalidWork⟩
      · exact ⟨kxe_mk ga_InvalidHeights gg_InvalidHeights eB_InvalidHeights hd_InvalidHeights cc_InvalidHeights spg tkc mo_InvalidHeights, kit_no hd_InvalidWork tt_InvalidWork ki_InvalidWork_InvalidHeights kr_InvalidWork⟩
      · exact ⟨kxe_mk ga_InvalidLimits gg_InvalidLimits eB_InvalidLimits hd_InvalidLimits cc_InvalidLimits spg tkc mo_InvalidLimits, kit_no hd_InvalidWork tt_InvalidWork ki_InvalidWork_InvalidLimits kr_InvalidWork⟩
      · exact ⟨kxe_mk ga_InvalidTensions gg_InvalidTensions eB_InvalidTensions hd_InvalidTensions cc_InvalidTensions spg tkc mo_InvalidTensions, kit_no hd_InvalidWork tt_InvalidWork ki_InvalidWork_InvalidTensions kr_InvalidWork⟩
      · exact ⟨kxe_mk ga_InvalidName gg_InvalidName eB_InvalidName hd_InvalidName cc_InvalidName spg tkc mo_InvalidName, kit_no hd_InvalidWork tt_InvalidWork ki_InvalidWork_InvalidName kr_InvalidWork⟩
      · exact ⟨kxe_mk ga_InvalidCommand gg_InvalidCommand eB_InvalidCommand hd_InvalidCommand cc_InvalidCommand spg tkc mo_InvalidCommand, kit_no hd_InvalidWork tt_InvalidWork ki_InvalidWork_InvalidCommand kr_InvalidWork⟩
      · exact ⟨kxe_mk ga_ParseError gg_ParseError eB_ParseError hd_ParseError cc_ParseError spg tkc mo_ParseError, kit_no hd_InvalidWork tt_InvalidWork ki_InvalidWork_ParseError kr_InvalidWork⟩
      · exact ⟨kxe_mk ga_NameClash gg_NameClash eB_NameClash hd_NameClash cc_NameClash spg tkc mo_NameClash, kit_no hd_InvalidWork tt_InvalidWork ki_InvalidWork_NameClash kr_InvalidWork⟩
      · exact ⟨kxe_mk ga_Weightless gg_Weightless eB_Weightless hd_Weightless cc_Weightless spg tkc mo_Weightless, kit_no hd_InvalidWork tt_InvalidWork ki_InvalidWork_Weightless kr_InvalidWork⟩
      · exact ⟨kxe_mk ga_LimitExceeded gg_LimitExceeded eB_LimitExceeded hd_LimitExceeded cc_LimitExceeded spg tkc mo_LimitExceeded, kit_no hd_InvalidWork tt_InvalidWork ki_InvalidWork_LimitExceeded kr_InvalidWork⟩
      · exact ⟨kxe_mk ga_UnknownName gg_UnknownName eB_UnknownName hd_UnknownName cc_UnknownName spg tkc mo_UnknownName, kit_no hd_InvalidWork tt_InvalidWork ki_InvalidWork_UnknownName kr_InvalidWork⟩
      · exact ⟨kxe_mk ga_NothingToUndo gg_NothingToUndo eB_NothingToUndo hd_NothingToUndo cc_NothingToUndo spg tkc mo_NothingToUndo, kit_no hd_InvalidWork tt_InvalidWork ki_InvalidWork_NothingToUndo kr_InvalidWork⟩
    xi_InvalidNumber := fun k C h => by
      rcases only k C h with ⟨rfl, rfl⟩ | ⟨rfl, rfl⟩ | ⟨rfl, rfl⟩ | ⟨rfl, rfl⟩ | ⟨rfl, rfl⟩ | ⟨rfl, rfl⟩ | ⟨rfl, rfl⟩ | ⟨rfl, rfl⟩ | ⟨rfl, rfl⟩ | ⟨rfl, rfl⟩ | ⟨rfl, rfl⟩ | ⟨rfl, rfl⟩ | ⟨rfl, rfl⟩ | ⟨rfl, rfl⟩ | ⟨rfl, rfl⟩
      · exact ⟨kxe_mk ga_InvalidNumber gg_InvalidNumber eB_InvalidNumber hd_InvalidNumber cc_InvalidNumber spg tkc mo_InvalidNumber, kit_ref hd_InvalidNumber tt_InvalidNumber ki_InvalidNumber_InvalidNumber⟩
      · exact ⟨kxe_mk ga_InvalidWork gg_InvalidWork eB_InvalidWork hd_InvalidWork cc_InvalidWork spg tkc mo_InvalidWork, kit_no hd_InvalidNumber tt_InvalidNumber ki_InvalidNumber_InvalidWork kr_InvalidNumber⟩
      · exact ⟨kxe_mk ga_InvalidRope gg_InvalidRope eB_InvalidRope hd_InvalidRope cc_InvalidRope spg tkc mo_InvalidRope, kit_no hd_InvalidNumber tt_InvalidNumber ki_InvalidNumber_InvalidRope kr_InvalidNumber⟩
      · exact ⟨kxe_mk ga_InvalidMotion gg_InvalidMotion eB_InvalidMotion hd_InvalidMotion cc_InvalidMotion spg tkc mo_InvalidMotion, kit_no hd_InvalidNumber tt_InvalidNumber ki_InvalidNumber_InvalidMotion kr_InvalidNumber⟩
      · exact ⟨kxe_mk ga_InvalidHeights gg_InvalidHeights eB_InvalidHeights hd_InvalidHeights cc_InvalidHeights spg tkc mo_InvalidHeights, kit_no hd_InvalidNumber tt_InvalidNumber ki_InvalidNumber_InvalidHeights kr_InvalidNumber⟩
      · exact ⟨kxe_mk ga_InvalidLimits gg_InvalidLimits eB_InvalidLimits hd_InvalidLimits cc_InvalidLimits spg tkc mo_InvalidLimits, kit_no hd_InvalidNumber tt_InvalidNumber ki_InvalidNumber_InvalidLimits kr_InvalidNumber⟩
      · exact ⟨kxe_mk ga_InvalidTensions gg_InvalidTensions eB_InvalidTensions hd_InvalidTensions cc_InvalidTensions spg tkc mo_InvalidTensions, kit_no hd_InvalidNumber tt_InvalidNumber ki_InvalidNumber_InvalidTensions kr_InvalidNumber⟩
      · exact ⟨kxe_mk ga_InvalidName gg_InvalidName eB_InvalidName hd_InvalidName cc_InvalidName spg tkc mo_InvalidName, kit_no hd_InvalidNumber tt_InvalidNumber ki_InvalidNumber_InvalidName kr_InvalidNumber⟩
      · exact ⟨kxe_mk ga_InvalidCommand gg_InvalidCommand eB_InvalidCommand hd_InvalidCommand cc_InvalidCommand spg tkc mo_InvalidCommand, kit_no hd_InvalidNumber tt_InvalidNumber ki_InvalidNumber_InvalidCommand kr_InvalidNumber⟩
      · exact ⟨kxe_mk ga_ParseError gg_ParseError eB_ParseError hd_ParseError cc_ParseError spg tkc mo_ParseError, kit_no hd_InvalidNumber tt_InvalidNumber ki_InvalidNumber_ParseError kr_InvalidNumber⟩
      · exact ⟨kxe_mk ga_NameClash gg_NameClash eB_NameClash hd_NameClash cc_NameClash spg tkc mo_NameClash, kit_no hd_InvalidNumber tt_InvalidNumber ki_InvalidNumber_NameClash kr_InvalidNumber⟩
      · exact ⟨kxe_mk ga_Weightless gg_Weightless eB_Weightless hd_Weightless cc_Weightless spg tkc mo_Weightless, kit_no hd_InvalidNumber tt_InvalidNumber ki_InvalidNumber_Weightless kr_InvalidNumber⟩
      · exact ⟨kxe_mk ga_LimitExceeded gg_LimitExceeded eB_LimitExceeded hd_LimitExceeded cc_LimitExceeded spg tkc mo_LimitExceeded, kit_no hd_InvalidNumber tt_InvalidNumber ki_InvalidNumber_LimitExceeded kr_InvalidNumber⟩
      · exact ⟨kxe_mk ga_UnknownName gg_UnknownName eB_UnknownName hd_UnknownName cc_UnknownName spg tkc mo_UnknownName, kit_no hd_InvalidNumber tt_InvalidNumber ki_InvalidNumber_UnknownName kr_InvalidNumber⟩
      · exact ⟨kxe_mk ga_NothingToUndo gg_NothingToUndo eB_NothingToUndo hd_NothingToUndo cc_NothingToUndo spg tkc mo_NothingToUndo, kit_no hd_InvalidNumber tt_InvalidNumber ki_InvalidNumber_NothingToUndo kr_InvalidNumber⟩
    xi_RuntimeError := fun k C h => by
      rcases only k C h with ⟨rfl, rfl⟩ | ⟨rfl, rfl⟩ | ⟨rfl, rfl⟩ | ⟨rfl, rfl⟩ | ⟨rfl, rfl⟩ | ⟨rfl, rfl⟩ | ⟨rfl, rfl⟩ | ⟨rfl, rfl⟩ | ⟨rfl, rfl⟩ | ⟨rfl, rfl⟩ | ⟨rfl, rfl⟩ | ⟨rfl, rfl⟩ | ⟨rfl, rfl⟩ | ⟨rfl, rfl⟩ | ⟨rfl, rfl⟩
      · exact ⟨kxe_mk ga_InvalidNumber gg_InvalidNumber eB_InvalidNumber hd_InvalidNumber cc_InvalidNumber spg tkc mo_InvalidNumber, kone_is ki_RuntimeError_InvalidNumber⟩
      · exact ⟨kxe_mk ga_InvalidWork gg_InvalidWork eB_InvalidWork hd_InvalidWork cc_InvalidWork spg tkc mo_InvalidWork, kone_is ki_RuntimeError_InvalidWork⟩
      · exact ⟨kxe_mk ga_InvalidRope gg_InvalidRope eB_InvalidRope hd_InvalidRope cc_InvalidRope spg tkc mo_InvalidRope, kone_is ki_RuntimeError_InvalidRope⟩
      · exact ⟨kxe_mk ga_InvalidMotion gg_InvalidMotion eB_InvalidMotion hd_InvalidMotion cc_InvalidMotion spg tkc mo_InvalidMotion, kone_is ki_RuntimeError_InvalidMotion⟩
      · exact ⟨kxe_mk ga_InvalidHeights gg_InvalidHeights eB_InvalidHeights hd_InvalidHeights cc_InvalidHeights spg tkc mo_InvalidHeights, kone_is ki_RuntimeError_InvalidHeights⟩
      · exact ⟨kxe_mk ga_InvalidLimits gg_InvalidLimits eB_InvalidLimits hd_InvalidLimits cc_InvalidLimits spg tkc mo_InvalidLimits, kone_is ki_RuntimeError_InvalidLimits⟩
      · exact ⟨kxe_mk ga_InvalidTensions gg_InvalidTensions eB_InvalidTensions hd_InvalidTensions cc_InvalidTensions spg tkc mo_InvalidTensions, kone_is ki_RuntimeError_InvalidTensions⟩
      · exact ⟨kxe_mk ga_InvalidName gg_InvalidName eB_InvalidName hd_InvalidName cc_InvalidName spg tkc mo_InvalidName, kone_is ki_RuntimeError_InvalidName⟩
      · exact ⟨kxe_mk ga_InvalidCommand gg_InvalidCommand eB_InvalidCommand hd_InvalidCommand cc_InvalidCommand spg tkc mo_InvalidCommand, kone_is ki_RuntimeError_InvalidCommand⟩
      · exact ⟨kxe_mk ga_ParseError gg_ParseError eB_ParseError hd_ParseError cc_ParseError spg tkc mo_ParseError, kone_is ki_RuntimeError_ParseError⟩
      · exact ⟨kxe_mk ga_NameClash gg_NameClash eB_NameClash hd_NameClash cc_NameClash spg tkc mo_NameClash, kone_is ki_RuntimeError_NameClash⟩
      · exact ⟨kxe_mk ga_Weightless gg_Weightless eB_Weightless hd_Weightless cc_Weightless spg tkc mo_Weightless, kone_is ki_RuntimeError_Weightless⟩
      · exact ⟨kxe_mk ga_LimitExceeded gg_LimitExceeded eB_LimitExceeded hd_LimitExceeded cc_LimitExceeded spg tkc mo_LimitExceeded, kone_is ki_RuntimeError_LimitExceeded⟩
      · exact ⟨kxe_mk ga_UnknownName gg_UnknownName eB_UnknownName hd_UnknownName cc_UnknownName spg tkc mo_UnknownName, kone_is ki_RuntimeError_UnknownName⟩
      · exact ⟨kxe_mk ga_NothingToUndo gg_NothingToUndo eB_NothingToUndo hd_NothingToUndo cc_NothingToUndo spg tkc mo_NothingToUndo, kone_is ki_RuntimeError_NothingToUndo⟩
    xi_OverflowError := fun k C h => by
      rcases only k C h with ⟨rfl, rfl⟩ | ⟨rfl, rfl⟩ | ⟨rfl, rfl⟩ | ⟨rfl, rfl⟩ | ⟨rfl, rfl⟩ | ⟨rfl, rfl⟩ | ⟨rfl, rfl⟩ | ⟨rfl, rfl⟩ | ⟨rfl, rfl⟩ | ⟨rfl, rfl⟩ | ⟨rfl, rfl⟩ | ⟨rfl, rfl⟩ | ⟨rfl, rfl⟩ | ⟨rfl, rfl⟩ | ⟨rfl, rfl⟩
      · exact ⟨kxe_mk ga_InvalidNumber gg_InvalidNumber eB_InvalidNumber hd_InvalidNumber cc_InvalidNumber spg tkc mo_InvalidNumber, kone_is ki_OverflowError_InvalidNumber⟩
      · exact ⟨kxe_mk ga_InvalidWork gg_InvalidWork eB_InvalidWork hd_InvalidWork cc_InvalidWork spg tkc mo_InvalidWork, kone_is ki_OverflowError_InvalidWork⟩
      · exact ⟨kxe_mk ga_InvalidRope gg_InvalidRope eB_InvalidRope hd_InvalidRope cc_InvalidRope spg tkc mo_InvalidRope, kone_is ki_OverflowError_InvalidRope⟩
      · exact ⟨kxe_mk ga_InvalidMotion gg_InvalidMotion eB_InvalidMotion hd_InvalidMotion cc_InvalidMotion spg tkc mo_InvalidMotion, kone_is ki_OverflowError_InvalidMotion⟩
      · exact ⟨kxe_mk ga_InvalidHeights gg_InvalidHeights eB_InvalidHeights hd_InvalidHeights cc_InvalidHeights spg tkc mo_InvalidHeights, kone_is ki_OverflowError_InvalidHeights⟩
      · exact ⟨kxe_mk ga_InvalidLimits gg_InvalidLimits eB_InvalidLimits hd_InvalidLimits cc_InvalidLimits spg tkc mo_InvalidLimits, kone_is ki_OverflowError_InvalidLimits⟩
      · exact ⟨kxe_mk ga_InvalidTensions gg_InvalidTensions eB_InvalidTensions hd_InvalidTensions cc_InvalidTensions spg tkc mo_InvalidTensions, kone_is ki_OverflowError_InvalidTensions⟩
      · exact ⟨kxe_mk ga_InvalidName gg_InvalidName eB_InvalidName hd_InvalidName cc_InvalidName spg tkc mo_InvalidName, kone_is ki_OverflowError_InvalidName⟩
      · exact ⟨kxe_mk ga_InvalidCommand gg_InvalidCommand eB_InvalidCommand hd_InvalidCommand cc_InvalidCommand spg tkc mo_InvalidCommand, kone_is ki_OverflowError_InvalidCommand⟩
      · exact ⟨kxe_mk ga_ParseError gg_ParseError eB_ParseError hd_ParseError cc_ParseError spg tkc mo_ParseError, kone_is ki_OverflowError_ParseError⟩
      · exact ⟨kxe_mk ga_NameClash gg_NameClash eB_NameClash hd_NameClash cc_NameClash spg tkc mo_NameClash, kone_is ki_OverflowError_NameClash⟩
      · exact ⟨kxe_mk ga_Weightless gg_Weightless eB_Weightless hd_Weightless cc_Weightless spg tkc mo_Weightless, kone_is ki_OverflowError_Weightless⟩
      · exact ⟨kxe_mk ga_LimitExceeded gg_LimitExceeded eB_LimitExceeded hd_LimitExceeded cc_LimitExceeded spg tkc mo_LimitExceeded, kone_is ki_OverflowError_LimitExceeded⟩
      · exact ⟨kxe_mk ga_UnknownName gg_UnknownName eB_UnknownName hd_UnknownName cc_UnknownName spg tkc mo_UnknownName, kone_is ki_OverflowError_UnknownName⟩
      · exact ⟨kxe_mk ga_NothingToUndo gg_NothingToUndo eB_NothingToUndo hd_NothingToUndo cc_NothingToUndo spg tkc mo_NothingToUndo, kone_is ki_OverflowError_NothingToUndo⟩
    xi_KeyError := fun k C h => by
      rcases only k C h with ⟨rfl, rfl⟩ | ⟨rfl, rfl⟩ | ⟨rfl, rfl⟩ | ⟨rfl, rfl⟩ | ⟨rfl, rfl⟩ | ⟨rfl, rfl⟩ | ⟨rfl, rfl⟩ | ⟨rfl, rfl⟩ | ⟨rfl, rfl⟩ | ⟨rfl, rfl⟩ | ⟨rfl, rfl⟩ | ⟨rfl, rfl⟩ | ⟨rfl, rfl⟩ | ⟨rfl, rfl⟩ | ⟨rfl, rfl⟩
      · exact ⟨kxe_mk ga_InvalidNumber gg_InvalidNumber eB_InvalidNumber hd_InvalidNumber cc_InvalidNumber spg tkc mo_InvalidNumber, kone_is ki_KeyError_InvalidNumber⟩
      · exact ⟨kxe_mk ga_InvalidWork gg_InvalidWork eB_InvalidWork hd_InvalidWork cc_InvalidWork spg tkc mo_InvalidWork, kone_is ki_KeyError_InvalidWork⟩
      · exact ⟨kxe_mk ga_InvalidRope gg_InvalidRope eB_InvalidRope hd_InvalidRope cc_InvalidRope spg tkc mo_InvalidRope, kone_is ki_KeyError_InvalidRope⟩
      · exact ⟨kxe_mk ga_InvalidMotion gg_InvalidMotion eB_InvalidMotion hd_InvalidMotion cc_InvalidMotion spg tkc mo_InvalidMotion, kone_is ki_KeyError_InvalidMotion⟩
      · exact ⟨kxe_mk ga_InvalidHeights gg_InvalidHeights eB_InvalidHeights hd_InvalidHeights cc_InvalidHeights spg tkc mo_InvalidHeights, kone_is ki_KeyError_InvalidHeights⟩
      · exact ⟨kxe_mk ga_InvalidLimits gg_InvalidLimits eB_InvalidLimits hd_InvalidLimits cc_InvalidLimits spg tkc mo_InvalidLimits, kone_is ki_KeyError_InvalidLimits⟩
      · exact ⟨kxe_mk ga_InvalidTensions gg_InvalidTensions eB_InvalidTensions hd_InvalidTensions cc_InvalidTensions spg tkc mo_InvalidTensions, kone_is ki_KeyError_InvalidTensions⟩
      · exact ⟨kxe_mk ga_InvalidName gg_InvalidName eB_InvalidName hd_InvalidName cc_InvalidName spg tkc mo_InvalidName, kone_is ki_KeyError_InvalidName⟩
      · exact ⟨kxe_mk ga_InvalidCommand gg_InvalidCommand eB_InvalidCommand hd_InvalidCommand cc_InvalidCommand spg tkc mo_InvalidCommand, kone_is ki_KeyError_InvalidCommand⟩
      · exact ⟨kxe_mk ga_ParseError gg_ParseError eB_ParseError hd_ParseError cc_ParseError spg tkc mo_ParseError, kone_is ki_KeyError_ParseError⟩
      · exact ⟨kxe_mk ga_NameClash gg_NameClash eB_NameClash hd_NameClash cc_NameClash spg tkc mo_NameClash, kone_is ki_KeyError_NameClash⟩
      · exact ⟨kxe_mk ga_Weightless gg_Weightless eB_Weightless hd_Weightless cc_Weightless spg tkc mo_Weightless, kone_is ki_KeyError_Weightless⟩
      · exact ⟨kxe_mk ga_LimitExceeded gg_LimitExceeded eB_LimitExceeded hd_LimitExceeded cc_LimitExceeded spg tkc mo_LimitExceeded, kone_is ki_KeyError_LimitExceeded⟩
      · exact ⟨kxe_mk ga_UnknownName gg_UnknownName eB_UnknownName hd_UnknownName cc_UnknownName spg tkc mo_UnknownName, kone_is ki_KeyError_UnknownName⟩
      · exact ⟨kxe_mk ga_NothingToUndo gg_NothingToUndo eB_NothingToUndo hd_NothingToUndo cc_NothingToUndo spg tkc mo_NothingToUndo, kone_is ki_KeyError_NothingToUndo⟩
    xi_LookupError := fun k C h => by
      rcases only k C h with ⟨rfl, rfl⟩ | ⟨rfl, rfl⟩ | ⟨rfl, rfl⟩ | ⟨rfl, rfl⟩ | ⟨rfl, rfl⟩ | ⟨rfl, rfl⟩ | ⟨rfl, rfl⟩ | ⟨rfl, rfl⟩ | ⟨rfl, rfl⟩ | ⟨rfl, rfl⟩ | ⟨rfl, rfl⟩ | ⟨rfl, rfl⟩ | ⟨rfl, rfl⟩ | ⟨rfl, rfl⟩ | ⟨rfl, rfl⟩
      · exact ⟨kxe_mk ga_InvalidNumber gg_InvalidNumber eB_InvalidNumber hd_InvalidNumber cc_InvalidNumber spg tkc mo_InvalidNumber, kone_is ki_LookupError_InvalidNumber⟩
      · exact ⟨kxe_mk ga_InvalidWork gg_InvalidWork eB_InvalidWork hd_InvalidWork cc_InvalidWork spg tkc mo_InvalidWork, kone_is ki_LookupError_InvalidWork⟩
      · exact ⟨kxe_mk ga_InvalidRope gg_InvalidRope eB_InvalidRope hd_InvalidRope cc_InvalidRope spg tkc mo_InvalidRope, kone_is ki_LookupError_InvalidRope⟩
      · exact ⟨kxe_mk ga_InvalidMotion gg_InvalidMotion eB_InvalidMotion hd_InvalidMotion cc_InvalidMotion spg tkc mo_InvalidMotion, kone_is ki_LookupError_InvalidMotion⟩
      · exact ⟨kxe_mk ga_InvalidHeights gg_InvalidHeights eB_InvalidHeights hd_InvalidHeights cc_InvalidHeights spg tkc mo_InvalidHeights, kone_is ki_LookupError_InvalidHeights⟩
      · exact ⟨kxe_mk ga_InvalidLimits gg_InvalidLimits eB_InvalidLimits hd_InvalidLimits cc_InvalidLimits spg tkc mo_InvalidLimits, kone_is ki_LookupError_InvalidLimits⟩
      · exact ⟨kxe_mk ga_InvalidTensions gg_InvalidTensions eB_InvalidTensions hd_InvalidTensions cc_InvalidTensions spg tkc mo_InvalidTensions, kone_is ki_LookupError_InvalidTensions⟩
      · exact ⟨kxe_mk ga_InvalidName gg_InvalidName eB_InvalidName hd_InvalidName cc_InvalidName spg tkc mo_InvalidName, kone_is ki_LookupError_InvalidName⟩
      · exact ⟨kxe_mk ga_InvalidCommand gg_InvalidCommand eB_InvalidCommand hd_InvalidCommand cc_InvalidCommand spg tkc mo_InvalidCommand, kone_is ki_LookupError_InvalidCommand⟩
      · exact ⟨kxe_mk ga_ParseError gg_ParseError eB_ParseError hd_ParseError cc_ParseError spg tkc mo_ParseError, kone_is ki_LookupError_ParseError⟩
      · exact ⟨kxe_mk ga_NameClash gg_NameClash eB_NameClash hd_NameClash cc_NameClash spg tkc mo_NameClash, kone_is ki_LookupError_NameClash⟩
      · exact ⟨kxe_mk ga_Weightless gg_Weightless eB_Weightless hd_Weightless cc_Weightless spg tkc mo_Weightless, kone_is ki_LookupError_Weightless⟩
      · exact ⟨kxe_mk ga_LimitExceeded gg_LimitExceeded eB_LimitExceeded hd_LimitExceeded cc_LimitExceeded spg tkc mo_LimitExceeded, kone_is ki_LookupError_LimitExceeded⟩
      · exact ⟨kxe_mk ga_UnknownName gg_UnknownName eB_UnknownName hd_UnknownName cc_UnknownName spg tkc mo_UnknownName, kone_is ki_LookupError_UnknownName⟩
      · exact ⟨kxe_mk ga_NothingToUndo gg_NothingToUndo eB_NothingToUndo hd_NothingToUndo cc_NothingToUndo spg tkc mo_NothingToUndo, kone_is ki_LookupError_NothingToUndo⟩
    xi_ValueError := fun k C h => by
      rcases only k C h with ⟨rfl, rfl⟩ | ⟨rfl, rfl⟩ | ⟨rfl, rfl⟩ | ⟨rfl, rfl⟩ | ⟨rfl, rfl⟩ | ⟨rfl, rfl⟩ | ⟨rfl, rfl⟩ | ⟨rfl, rfl⟩ | ⟨rfl, rfl⟩ | ⟨rfl, rfl⟩ | ⟨rfl, rfl⟩ | ⟨rfl, rfl⟩ | ⟨rfl, rfl⟩ | ⟨rfl, rfl⟩ | ⟨rfl, rfl⟩
      · exact ⟨kxe_mk ga_InvalidNumber gg_InvalidNumber eB_InvalidNumber hd_InvalidNumber cc_InvalidNumber spg tkc mo_InvalidNumber, kone_is ki_ValueError_InvalidNumber⟩
      · exact ⟨kxe_mk ga_InvalidWork gg_InvalidWork eB_InvalidWork hd_InvalidWork cc_InvalidWork spg tkc mo_InvalidWork, kone_is ki_ValueError_InvalidWork⟩
      · exact ⟨kxe_mk ga_InvalidRope gg_InvalidRope eB_InvalidRope hd_InvalidRope cc_InvalidRope spg tkc mo_InvalidRope, kone_is ki_ValueError_InvalidRope⟩
      · exact ⟨kxe_mk ga_InvalidMotion gg_InvalidMotion eB_InvalidMotion hd_InvalidMotion cc_InvalidMotion spg tkc mo_InvalidMotion, kone_is ki_ValueError_InvalidMotion⟩
      · exact ⟨kxe_mk ga_InvalidHeights gg_InvalidHeights eB_InvalidHeights hd_InvalidHeights cc_InvalidHeights spg tkc mo_InvalidHeights, kone_is ki_ValueError_InvalidHeights⟩
      · exact ⟨kxe_mk ga_InvalidLimits gg_InvalidLimits eB_InvalidLimits hd_InvalidLimits cc_InvalidLimits spg tkc mo_InvalidLimits, kone_is ki_ValueError_InvalidLimits⟩
      · exact ⟨kxe_mk ga_InvalidTensions gg_InvalidTensions eB_InvalidTensions hd_InvalidTensions cc_InvalidTensions spg tkc mo_InvalidTensions, kone_is ki_ValueError_InvalidTensions⟩
      · exact ⟨kxe_mk ga_InvalidName gg_InvalidName eB_InvalidName hd_InvalidName cc_InvalidName spg tkc mo_InvalidName, kone_is ki_ValueError_InvalidName⟩
      · exact ⟨kxe_mk ga_InvalidCommand gg_InvalidCommand eB_InvalidCommand hd_InvalidCommand cc_InvalidCommand spg tkc mo_InvalidCommand, kone_is ki_ValueError_InvalidCommand⟩
      · exact ⟨kxe_mk ga_ParseError gg_ParseError eB_ParseError hd_ParseError cc_ParseError spg tkc mo_ParseError, kone_is ki_ValueError_ParseError⟩
      · exact ⟨kxe_mk ga_NameClash gg_NameClash eB_NameClash hd_NameClash cc_NameClash spg tkc mo_NameClash, kone_is ki_ValueError_NameClash⟩
      · exact ⟨kxe_mk ga_Weightless gg_Weightless eB_Weightless hd_Weightless cc_Weightless spg tkc mo_Weightless, kone_is ki_ValueError_Weightless⟩
      · exact ⟨kxe_mk ga_LimitExceeded gg_LimitExceeded eB_LimitExceeded hd_LimitExceeded cc_LimitExceeded spg tkc mo_LimitExceeded, kone_is ki_ValueError_LimitExceeded⟩
      · exact ⟨kxe_mk ga_UnknownName gg_UnknownName eB_UnknownName hd_UnknownName cc_UnknownName spg tkc mo_UnknownName, kone_is ki_ValueError_UnknownName⟩
      · exact ⟨kxe_mk ga_NothingToUndo gg_NothingToUndo eB_NothingToUndo hd_NothingToUndo cc_NothingToUndo spg tkc mo_NothingToUndo, kone_is ki_ValueError_NothingToUndo⟩
    xi_WorkError := fun k C h => by
      rcases only k C h with ⟨rfl, rfl⟩ | ⟨rfl, rfl⟩ | ⟨rfl, rfl⟩ | ⟨rfl, rfl⟩ | ⟨rfl, rfl⟩ | ⟨rfl, rfl⟩ | ⟨rfl, rfl⟩ | ⟨rfl, rfl⟩ | ⟨rfl, rfl⟩ | ⟨rfl, rfl⟩ | ⟨rfl, rfl⟩ | ⟨rfl, rfl⟩ | ⟨rfl, rfl⟩ | ⟨rfl, rfl⟩ | ⟨rfl, rfl⟩
      · exact ⟨kxe_mk ga_InvalidNumber gg_InvalidNumber eB_InvalidNumber hd_InvalidNumber cc_InvalidNumber spg tkc mo_InvalidNumber, kit_ref hd_WorkError tt_WorkError ki_WorkError_InvalidNumber⟩
      · exact ⟨kxe_mk ga_InvalidWork gg_InvalidWork eB_InvalidWork hd_InvalidWork cc_InvalidWork spg tkc mo_InvalidWork, kit_ref hd_WorkError tt_WorkError ki_WorkError_InvalidWork⟩
      · exact ⟨kxe_mk ga_InvalidRope gg_InvalidRope eB_InvalidRope hd_InvalidRope cc_InvalidRope spg tkc mo_InvalidRope, kit_ref hd_WorkError tt_WorkError ki_WorkError_InvalidRope⟩
      · exact ⟨kxe_mk ga_InvalidMotion gg_InvalidMotion eB_InvalidMotion hd_InvalidMotion cc_InvalidMotion spg tkc mo_InvalidMotion, kit_ref hd_WorkError tt_WorkError ki_WorkError_InvalidMotion⟩
      · exact ⟨kxe_mk ga_InvalidHeights gg_InvalidHeights eB_InvalidHeights hd_InvalidHeights cc_InvalidHeights spg tkc mo_InvalidHeights, kit_ref hd_WorkError tt_WorkError ki_WorkError_InvalidHeights⟩
      · exact ⟨kxe_mk ga_InvalidLimits gg_InvalidLimits eB_InvalidLimits hd_InvalidLimits cc_InvalidLimits spg tkc mo_InvalidLimits, kit_ref hd_WorkError tt_WorkError ki_WorkError_InvalidLimits⟩
      · exact ⟨kxe_mk ga_InvalidTensions gg_InvalidTensions eB_InvalidTensions hd_InvalidTensions cc_InvalidTensions spg tkc mo_InvalidTensions, kit_ref hd_WorkError tt_WorkError ki_WorkError_InvalidTensions⟩
      · exact ⟨kxe_mk ga_InvalidName gg_InvalidName eB_InvalidName hd_InvalidName cc_InvalidName spg tkc mo_InvalidName, kit_ref hd_WorkError tt_WorkError ki_WorkError_InvalidName⟩
      · exact ⟨kxe_mk ga_InvalidCommand gg_InvalidCommand eB_InvalidCommand hd_InvalidCommand cc_InvalidCommand spg tkc mo_InvalidCommand, kit_ref hd_WorkError tt_WorkError ki_WorkError_InvalidCommand⟩
      · exact ⟨kxe_mk ga_ParseError gg_ParseError eB_ParseError hd_ParseError cc_ParseError spg tkc mo_ParseError, kit_ref hd_WorkError tt_WorkError ki_WorkError_ParseError⟩
      · exact ⟨kxe_mk ga_NameClash gg_NameClash eB_NameClash hd_NameClash cc_NameClash spg tkc mo_NameClash, kit_ref hd_WorkError tt_WorkError ki_WorkError_NameClash⟩
      · exact ⟨kxe_mk ga_Weightless gg_Weightless eB_Weightless hd_Weightless cc_Weightless spg tkc mo_Weightless, kit_ref hd_WorkError tt_WorkError ki_WorkError_Weightless⟩
      · exact ⟨kxe_mk ga_LimitExceeded gg_LimitExceeded eB_LimitExceeded hd_LimitExceeded cc_LimitExceeded spg tkc mo_LimitExceeded, kit_no hd_WorkError tt_WorkError ki_WorkError_LimitExceeded kr_WorkError⟩
      · exact ⟨kxe_mk ga_UnknownName gg_UnknownName eB_UnknownName hd_UnknownName cc_UnknownName spg tkc mo_UnknownName, kit_no hd_WorkError tt_WorkError ki_WorkError_UnknownName kr_WorkError⟩
      · exact ⟨kxe_mk ga_NothingToUndo gg_NothingToUndo eB_NothingToUndo hd_NothingToUndo cc_NothingToUndo spg tkc mo_NothingToUndo, kit_no hd_WorkError tt_WorkError ki_WorkError_NothingToUndo kr_WorkError⟩
    b_int := PySem.W.mg_none_of X G z_int
    b_abs := PySem.W.mg_none_of X G z_abs
    b_len := PySem.W.mg_none_of X G z_len
    b_sum := PySem.W.mg_none_of X G z_sum
    b_isinstance := PySem.W.mg_none_of X G z_isinstance
    b_RuntimeError := PySem.W.mg_none_of X G z_RuntimeError
    b_OverflowError := PySem.W.mg_none_of X G z_OverflowError
    b_KeyError := PySem.W.mg_none_of X G z_KeyError
    b_LookupError := PySem.W.mg_none_of X G z_LookupError
    b_ValueError := PySem.W.mg_none_of X G z_ValueError
    b_min := PySem.W.mg_none_of X G z_min
    b_max := PySem.W.mg_none_of X G z_max
    b_range := PySem.W.mg_none_of X G z_range
    b_enumerate := PySem.W.mg_none_of X G z_enumerate
    F__law_pool := F__law_pool
    m__law_pool := PySem.W.mg_of X G a__law_pool
    b__law_pool_ := b__law_pool
    F__law_draw := F__law_draw
    m__law_draw := PySem.W.mg_of X G a__law_draw
    b__law_draw_ := b__law_draw
    F__law_fields_hold := F__law_fields_hold
    m__law_fields_hold := PySem.W.mg_of X G a__law_fields_hold
    b__law_fields_hold_ := b__law_fields_hold
    F__law_own := F__law_own
    m__law_own := PySem.W.mg_of X G a__law_own
    b__law_own_ := b__law_own
    F__law_under := F__law_under
    m__law_under := PySem.W.mg_of X G a__law_under
    b__law_under_ := b__law_under
    F_law := F_law
    m_law := PySem.W.mg_of X G a_law
    b_law_ := b_law
  }
  refine ⟨PySem.W.fnOf "law" "law" (defArgs s_law) (defBody s_law) (defScope s_law) .none kV5 dc5 pm5 an5 cd5 ct5, fun s v => .of_eq rfl, fun base _ _ => ?_⟩
  have G__law_pool := w__law_pool (P := l.prog) (w := w) (base := base) T
  have G__law_draw := w__law_draw (P := l.prog) (w := w) (base := base) T
  have G__law_fields_hold := w__law_fields_hold (P := l.prog) (w := w) (base := base) T
  have G__law_own := w__law_own (P := l.prog) (w := w) (base := base) T
  have G__law_under := w__law_under (P := l.prog) (w := w) (base := base) T
  have G_law := w_law (P := l.prog) (w := w) (base := base) T G__law_under G__law_own G__law_fields_hold G__law_draw G__law_pool
  exact G_law.imp spLaw_to
theorem walk {l : PySem.W.OpenLaw} {q : Program} {loose : List Str} {XP : (Str → Option Value) → Heap → Prop} {YP : World → Heap → Prop} {d : DefRec} {K : Params → PySem.W.Frag} (hn : l.most = some 63) (hdf : d.params.defaults = []) (hY : ∀ (w : World) (h : Heap), YP w h → (K w.params).In h)
    (F : ∀ (w : World) (top : Str → Option Value) (a : Addr) (h : Heap), (K w.params).In h → h.Ns mainGlobals top → top d.name = some (.ref a) →
      ∃ fd : FuncData, (∀ (s : Shared) (u : Value), BindsTo s fd ⟨[u], []⟩ [("_law_script", u)]) ∧ ∀ base : Heap, (K w.params).In base → base.Ns mainGlobals top → FnG l.prog w (K w.params) top base 3 a fd ["_law_script"] (spLaw (K w.params))) : PySem.W.WalkO q loose XP YP l.row.toRowW d [] (fun fn us => PySem.call fn us) :=
  walk_ofG (n := 63) (k := 3) (x := "_law_script") (sp := fun w => spLaw (K w.params)) hn (by decide) hdf ⟨rfl, by decide, by decide⟩ hY F (fun _ _ a ns hl _ hS => ⟨a, ns, rfl, hS, hl, fun _ => rfl⟩)
end PD
namespace PySem.W.Fast
def tw10817366648912147760:=()
def tw773836959156943654:=()
def tw2393839259217887560:=()
def tw12547433916318837542:=()
def tw5993075474294847505:=()
def tw6377795053786631384:=()
def tw16570191070407352779:=()
def tw628531854036100358:=()
def tw3906151977576725003:=()
def tw9144504219071385316:=()
def tw10018429586543282779:=()
def tw11400708712765913479:=()
def tw18199930772332634264:=()
def tw6179597614965997261:=()
def tw5638205476897773605:=()
def tw1498365334814994900:=()
def tw391132924495931370:=()
def tw2742388479309838074:=()
def tw10573707095934195503:=()
def tw1871470396248942193:=()
end PySem.W.Fast
open PySem PySem.W PyProof.Rows in
set_option maxRecDepth 100000 in
set_option maxHeartbeats 0 in
theorem PySem.Challenge.cw_pulleyworks_k04_classes_of_errors_holds : PySem.Challenge.rw_pulleyworks_k04_classes_of_errors.Holds := by
  w_on; o_law; k_head; (case hw => w_witness2)
  k_fill
  refine PD.walk (l := PySem.Challenge.rw_pulleyworks_k04_classes_of_errors) rfl rfl (fun w h Y => PySem.W.kIn_of Y) ?F
  case F =>
    intro w mg fa h KX G hmg
    refine' PD.all_mk KX G hmg ?a__law_pool ?l__law_pool ?x__law_pool ?k__law_pool ?a__law_draw ?l__law_draw ?x__law_draw ?k__law_draw ?a__law_fields_hold ?l__law_fields_hold ?x__law_fields_hold ?k__law_fields_hold ?a__law_own ?l__law_own ?x__law_own ?k__law_own ?a__law_under ?l__law_under ?x__law_under ?k__law_under ?a_law ?l_law ?x_law ?k_law ?z_int ?z_abs ?z_len ?z_sum ?z_isinstance ?z_RuntimeError ?z_OverflowError ?z_KeyError ?z_LookupError ?z_ValueError ?z_min ?z_max ?z_range ?z_enumerate ?aC_InvalidNumber ?aC_InvalidWork ?aC_InvalidRope ?aC_InvalidMotion ?aC_InvalidHeights ?aC_InvalidLimits ?aC_InvalidTensions ?aC_InvalidName ?aC_InvalidCommand ?aC_ParseError ?aC_NameClash ?aC_Weightless ?aC_LimitExceeded ?aC_UnknownName ?aC_NothingToUndo ?aC_WorkError ?xL_InvalidNumber ?su_InvalidNumber ?mr_InvalidNumber ?sB_InvalidNumber ?sa_InvalidNumber ?ga_InvalidNumber ?gg_InvalidNumber ?no_InvalidNumber ?iI_InvalidNumber ?ti_InvalidNumber ?kC_InvalidNumber ?eB_InvalidNumber ?tt_InvalidNumber ?hd_InvalidNumber ?lf_InvalidNumber ?cf_InvalidNumber ?ln_InvalidNumber ?ld_InvalidNumber ?vf_InvalidNumber ?fi_InvalidNumber ?lc_InvalidNumber ?cc_InvalidNumber ?mo_InvalidNumber ?ki_NothingToUndo_InvalidNumber ?ki_UnknownName_InvalidNumber ?ki_LimitExceeded_InvalidNumber ?ki_Weightless_InvalidNumber ?ki_NameClash_InvalidNumber ?ki_ParseError_InvalidNumber ?ki_InvalidCommand_InvalidNumber ?ki_InvalidName_InvalidNumber ?ki_InvalidTensions_InvalidNumber ?ki_InvalidLimits_InvalidNumber ?ki_InvalidHeights_InvalidNumber ?ki_InvalidMotion_InvalidNumber ?ki_InvalidRope_InvalidNumber ?ki_InvalidWork_InvalidNumber ?ki_InvalidNumber_InvalidNumber ?ki_RuntimeError_InvalidNumber ?ki_OverflowError_InvalidNumber ?ki_KeyError_InvalidNumber ?ki_LookupError_InvalidNumber ?ki_ValueError_InvalidNumber ?ki_WorkError_InvalidNumber ?xL_InvalidWork ?su_InvalidWork ?mr_InvalidWork ?sB_InvalidWork ?sa_InvalidWork ?ga_InvalidWork ?gg_InvalidWork ?no_InvalidWork ?iI_InvalidWork ?ti_InvalidWork ?kC_InvalidWork ?eB_InvalidWork ?tt_InvalidWork ?hd_InvalidWork ?lf_InvalidWork ?cf_InvalidWork ?ln_InvalidWork ?ld_InvalidWork ?vf_InvalidWork ?fi_InvalidWork ?lc_InvalidWork ?cc_InvalidWork ?mo_InvalidWork ?ki_NothingToUndo_InvalidWork ?ki_UnknownName_InvalidWork ?ki_LimitExceeded_InvalidWork ?ki_Weightless_InvalidWork ?ki_NameClash_InvalidWork ?ki_ParseError_InvalidWork ?ki_InvalidCommand_InvalidWork ?ki_InvalidName_InvalidWork ?ki_InvalidTensions_InvalidWork ?ki_InvalidLimits_InvalidWork ?ki_InvalidHeights_InvalidWork ?ki_InvalidMotion_InvalidWork ?ki_InvalidRope_InvalidWork ?ki_InvalidWork_InvalidWork ?ki_InvalidNumber_InvalidWork ?ki_RuntimeError_InvalidWork ?ki_OverflowError_InvalidWork ?ki_KeyError_InvalidWork ?ki_LookupError_InvalidWork ?ki_ValueError_InvalidWork ?ki_WorkError_InvalidWork ?xL_InvalidRope ?su_InvalidRope ?mr_InvalidRope ?sB_InvalidRope ?sa_InvalidRope ?ga_InvalidRope ?gg_InvalidRope ?no_InvalidRope ?iI_InvalidRope ?ti_InvalidRope ?kC_InvalidRope ?eB_InvalidRope ?tt_InvalidRope ?hd_InvalidRope ?lf_InvalidRope ?cf_InvalidRope ?ln_InvalidRope ?ld_InvalidRope ?vf_InvalidRope ?fi_InvalidRope ?lc_InvalidRope ?cc_InvalidRope ?mo_InvalidRope ?ki_NothingToUndo_InvalidRope ?ki_UnknownName_InvalidRope ?ki_LimitExceeded_InvalidRope ?ki_Weightless_InvalidRope ?ki_NameClash_InvalidRope ?ki_ParseError_InvalidRope ?ki_InvalidCommand_InvalidRope ?ki_InvalidName_InvalidRope ?ki_InvalidTensions_InvalidRope ?ki_InvalidLimits_InvalidRope ?ki_InvalidHeights_InvalidRope ?ki_InvalidMotion_InvalidRope ?ki_InvalidRope_InvalidRope ?ki_InvalidWork_InvalidRope ?ki_InvalidNumber_InvalidRope ?ki_RuntimeError_InvalidRope ?ki_OverflowError_InvalidRope ?ki_KeyError_InvalidRope ?ki_LookupError_InvalidRope ?ki_ValueError_InvalidRope ?ki_WorkError_InvalidRope ?xL_InvalidMotion ?su_InvalidMotion ?mr_InvalidMotion ?sB_InvalidMotion ?sa_InvalidMotion ?ga_InvalidMotion ?gg_InvalidMotion ?no_InvalidMotion ?iI_InvalidMotion ?ti_InvalidMotion ?kC_InvalidMotion ?eB_InvalidMotion ?tt_InvalidMotion ?hd_InvalidMotion ?lf_InvalidMotion ?cf_InvalidMotion ?ln_InvalidMotion ?ld_InvalidMotion ?vf_InvalidMotion ?fi_InvalidMotion ?lc_InvalidMotion ?cc_InvalidMotion ?mo_InvalidMotion ?ki_NothingToUndo_InvalidMotion ?ki_UnknownName_InvalidMotion ?ki_LimitExceeded_InvalidMotion ?ki_Weightless_InvalidMotion ?ki_NameClash_InvalidMotion ?ki_ParseError_InvalidMotion ?ki_InvalidCommand_InvalidMotion ?ki_InvalidName_InvalidMotion ?ki_InvalidTensions_InvalidMotion ?ki_InvalidLimits_InvalidMotion ?ki_InvalidHeights_InvalidMotion ?ki_InvalidMotion_InvalidMotion ?ki_InvalidRope_InvalidMotion ?ki_InvalidWork_InvalidMotion ?ki_InvalidNumber_InvalidMotion ?ki_RuntimeError_InvalidMotion ?ki_OverflowError_InvalidMotion ?ki_KeyError_InvalidMotion ?ki_LookupError_InvalidMotion ?ki_ValueError_InvalidMotion ?ki_WorkError_InvalidMotion ?xL_InvalidHeights ?su_InvalidHeights ?mr_InvalidHeights ?sB_InvalidHeights ?sa_InvalidHeights ?ga_InvalidHeights ?gg_InvalidHeights ?no_InvalidHeights ?iI_InvalidHeights ?ti_InvalidHeights ?kC_InvalidHeights ?eB_InvalidHeights ?tt_InvalidHeights ?hd_InvalidHeights ?lf_InvalidHeights ?cf_InvalidHeights ?ln_InvalidHeights ?ld_InvalidHeights ?vf_InvalidHeights ?fi_InvalidHeights ?lc_InvalidHeights ?cc_InvalidHeights ?mo_InvalidHeights ?ki_NothingToUndo_InvalidHeights ?ki_UnknownName_InvalidHeights ?ki_LimitExceeded_InvalidHeights ?ki_Weightless_InvalidHeights ?ki_NameClash_InvalidHeights ?ki_ParseError_InvalidHeights ?ki_InvalidCommand_InvalidHeights ?ki_InvalidName_InvalidHeights ?ki_InvalidTensions_InvalidHeights ?ki_InvalidLimits_InvalidHeights ?ki_InvalidHeights_InvalidHeights ?ki_InvalidMotion_InvalidHeights ?ki_InvalidRope_InvalidHeights ?ki_InvalidWork_InvalidHeights ?ki_InvalidNumber_InvalidHeights ?ki_RuntimeError_InvalidHeights ?ki_OverflowError_InvalidHeights ?ki_KeyError_InvalidHeights ?ki_LookupError_InvalidHeights ?ki_ValueError_InvalidHeights ?ki_WorkError_InvalidHeights ?xL_InvalidLimits ?su_InvalidLimits ?mr_InvalidLimits ?sB_InvalidLimits ?sa_InvalidLimits ?ga_InvalidLimits ?gg_InvalidLimits ?no_InvalidLimits ?iI_InvalidLimits ?ti_InvalidLimits ?kC_InvalidLimits ?eB_InvalidLimits ?tt_InvalidLimits ?hd_InvalidLimits ?lf_InvalidLimits ?cf_InvalidLimits ?ln_InvalidLimits ?ld_InvalidLimits ?vf_InvalidLimits ?fi_InvalidLimits ?lc_InvalidLimits ?cc_InvalidLimits ?mo_InvalidLimits ?ki_NothingToUndo_InvalidLimits ?ki_UnknownName_InvalidLimits ?ki_LimitExceeded_InvalidLimits ?ki_Weightless_InvalidLimits ?ki_NameClash_InvalidLimits ?ki_ParseError_InvalidLimits ?ki_InvalidCommand_InvalidLimits ?ki_InvalidName_InvalidLimits ?ki_InvalidTensions_InvalidLimits ?ki_InvalidLimits_InvalidLimits ?ki_InvalidHeights_InvalidLimits ?ki_InvalidMotion_InvalidLimits ?ki_InvalidRope_InvalidLimits ?ki_InvalidWork_InvalidLimits ?ki_InvalidNumber_InvalidLimits ?ki_RuntimeError_InvalidLimits ?ki_OverflowError_InvalidLimits ?ki_KeyError_InvalidLimits ?ki_LookupError_InvalidLimits ?ki_ValueError_InvalidLimits ?ki_WorkError_InvalidLimits ?xL_InvalidTensions ?su_InvalidTensions ?mr_InvalidTensions ?sB_InvalidTensions ?sa_InvalidTensions ?ga_InvalidTensions ?gg_InvalidTensions ?no_InvalidTensions ?iI_InvalidTensions ?ti_InvalidTensions ?kC_InvalidTensions ?eB_InvalidTensions ?tt_InvalidTensions ?hd_InvalidTensions ?lf_InvalidTensions ?cf_InvalidTensions ?ln_InvalidTensions ?ld_InvalidTensions ?vf_InvalidTensions ?fi_InvalidTensions ?lc_InvalidTensions ?cc_InvalidTensions ?mo_InvalidTensions ?ki_NothingToUndo_InvalidTensions ?ki_UnknownName_InvalidTensions ?ki_LimitExceeded_InvalidTensions ?ki_Weightless_InvalidTensions ?ki_NameClash_InvalidTensions ?ki_ParseError_InvalidTensions ?ki_InvalidCommand_InvalidTensions ?ki_InvalidName_InvalidTensions ?ki_InvalidTensions_InvalidTensions ?ki_InvalidLimits_InvalidTensions ?ki_InvalidHeights_InvalidTensions ?ki_InvalidMotion_InvalidTensions ?ki_InvalidRope_InvalidTensions ?ki_InvalidWork_InvalidTensions ?ki_InvalidNumber_InvalidTensions ?ki_RuntimeError_InvalidTensions ?ki_OverflowError_InvalidTensions ?ki_KeyError_InvalidTensions ?ki_LookupError_InvalidTensions ?ki_ValueError_InvalidTensions ?ki_WorkError_InvalidTensions ?xL_InvalidName ?su_InvalidName ?mr_InvalidName ?sB_InvalidName ?sa_InvalidName ?ga_InvalidName ?gg_InvalidName ?no_InvalidName ?iI_InvalidName ?ti_InvalidName ?kC_InvalidName ?eB_InvalidName ?tt_InvalidName ?hd_InvalidName ?lf_InvalidName ?cf_InvalidName ?ln_InvalidName ?ld_InvalidName ?vf_InvalidName ?fi_InvalidName ?lc_InvalidName ?cc_InvalidName ?mo_InvalidName ?ki_NothingToUndo_InvalidName ?ki_UnknownName_InvalidName ?ki_LimitExceeded_InvalidName ?ki_Weightless_InvalidName ?ki_NameClash_InvalidName ?ki_ParseError_InvalidName ?ki_InvalidCommand_InvalidName ?ki_InvalidName_InvalidName ?ki_InvalidTensions_InvalidName ?ki_InvalidLimits_InvalidName ?ki_InvalidHeights_InvalidName ?ki_InvalidMotion_InvalidName ?ki_InvalidRope_InvalidName ?ki_InvalidWork_InvalidName ?ki_InvalidNumber_InvalidName ?ki_RuntimeError_InvalidName ?ki_OverflowError_InvalidName ?ki_KeyError_InvalidName ?ki_LookupError_InvalidName ?ki_ValueError_InvalidName ?ki_WorkError_InvalidName ?xL_InvalidCommand ?su_InvalidCommand ?mr_InvalidCommand ?sB_InvalidCommand ?sa_InvalidCommand ?ga_InvalidCommand ?gg_InvalidCommand ?no_InvalidCommand ?iI_InvalidCommand ?ti_InvalidCommand ?kC_InvalidCommand ?eB_InvalidCommand ?tt_InvalidCommand ?hd_InvalidCommand ?lf_InvalidCommand ?cf_InvalidCommand ?ln_InvalidCommand ?ld_InvalidCommand ?vf_InvalidCommand ?fi_InvalidCommand ?lc_InvalidCommand ?cc_InvalidCommand ?mo_InvalidCommand ?ki_NothingToUndo_InvalidCommand ?ki_UnknownName_InvalidCommand ?ki_LimitExceeded_InvalidCommand ?ki_Weightless_InvalidCommand ?ki_NameClash_InvalidCommand ?ki_ParseError_InvalidCommand ?ki_InvalidCommand_InvalidCommand ?ki_InvalidName_InvalidCommand ?ki_InvalidTensions_InvalidCommand ?ki_InvalidLimits_InvalidCommand ?ki_InvalidHeights_InvalidCommand ?ki_InvalidMotion_InvalidCommand ?ki_InvalidRope_InvalidCommand ?ki_InvalidWork_InvalidCommand ?ki_InvalidNumber_InvalidCommand ?ki_RuntimeError_InvalidCommand ?ki_OverflowError_InvalidCommand ?ki_KeyError_InvalidCommand ?ki_LookupError_InvalidCommand ?ki_ValueError_InvalidCommand ?ki_WorkError_InvalidCommand ?xL_ParseError ?su_ParseError ?mr_ParseError ?sB_ParseError ?sa_ParseError ?ga_ParseError ?gg_ParseError ?no_ParseError ?iI_ParseError ?ti_ParseError ?kC_ParseError ?eB_ParseError ?tt_ParseError ?hd_ParseError ?lf_ParseError ?cf_ParseError ?ln_ParseError ?ld_ParseError ?vf_ParseError ?fi_ParseError ?lc_ParseError ?cc_ParseError ?mo_ParseError ?ki_NothingToUndo_ParseError ?ki_UnknownName_ParseError ?ki_LimitExceeded_ParseError ?ki_Weightless_ParseError ?ki_NameClash_ParseError ?ki_ParseError_ParseError ?ki_InvalidCommand_ParseError ?ki_InvalidName_ParseError ?ki_InvalidTensions_ParseError ?ki_InvalidLimits_ParseError ?ki_InvalidHeights_ParseError ?ki_InvalidMotion_ParseError ?ki_InvalidRope_ParseError ?ki_InvalidWork_ParseError ?ki_InvalidNumber_ParseError ?ki_RuntimeError_ParseError ?ki_OverflowError_ParseError ?ki_KeyError_ParseError ?ki_LookupError_ParseError ?ki_ValueError_ParseError ?ki_WorkError_ParseError ?xL_NameClash ?su_NameClash ?mr_NameClash ?sB_NameClash ?sa_NameClash ?ga_NameClash ?gg_NameClash ?no_NameClash ?iI_NameClash ?ti_NameClash ?kC_NameClash ?eB_NameClash ?tt_NameClash ?hd_NameClash ?lf_NameClash ?cf_NameClash ?ln_NameClash ?ld_NameClash ?vf_NameClash ?fi_NameClash ?lc_NameClash ?cc_NameClash ?mo_NameClash ?ki_NothingToUndo_NameClash ?ki_UnknownName_NameClash ?ki_LimitExceeded_NameClash ?ki_Weightless_NameClash ?ki_NameClash_NameClash ?ki_ParseError_NameClash ?ki_InvalidCommand_NameClash ?ki_InvalidName_NameClash ?ki_InvalidTensions_NameClash ?ki_InvalidLimits_NameClash ?ki_InvalidHeights_NameClash ?ki_InvalidMotion_NameClash ?ki_InvalidRope_NameClash ?ki_InvalidWork_NameClash ?ki_InvalidNumber_NameClash ?ki_RuntimeError_NameClash ?ki_OverflowError_NameClash ?ki_KeyError_NameClash ?ki_LookupError_NameClash ?ki_ValueError_NameClash ?ki_WorkError_NameClash ?xL_Weightless ?su_Weightless ?mr_Weightless ?sB_Weightless ?sa_Weightless ?ga_Weightless ?gg_Weightless ?no_Weightless ?iI_Weightless ?ti_Weightless ?kC_Weightless ?eB_Weightless ?tt_Weightless ?hd_Weightless ?lf_Weightless ?cf_Weightless ?ln_Weightless ?ld_Weightless ?vf_Weightless ?fi_Weightless ?lc_Weightless ?cc_Weightless ?mo_Weightless ?ki_NothingToUndo_Weightless ?ki_UnknownName_Weightless ?ki_LimitExceeded_Weightless ?ki_Weightless_Weightless ?ki_NameClash_Weightless ?ki_ParseError_Weightless ?ki_InvalidCommand_Weightless ?ki_InvalidName_Weightless ?ki_InvalidTensions_Weightless ?ki_InvalidLimits_Weightless ?ki_InvalidHeights_Weightless ?ki_InvalidMotion_Weightless ?ki_InvalidRope_Weightless ?ki_InvalidWork_Weightless ?ki_InvalidNumber_Weightless ?ki_RuntimeError_Weightless ?ki_OverflowError_Weightless ?ki_KeyError_Weightless ?ki_LookupError_Weightless ?ki_ValueError_Weightless ?ki_WorkError_Weightless ?xL_LimitExceeded ?su_LimitExceeded ?mr_LimitExceeded ?sB_LimitExceeded ?sa_LimitExceeded ?ga_LimitExceeded ?gg_LimitExceeded ?no_LimitExceeded ?iI_LimitExceeded ?ti_LimitExceeded ?kC_LimitExceeded ?eB_LimitExceeded ?tt_LimitExceeded ?hd_LimitExceeded ?lf_LimitExceeded ?cf_LimitExceeded ?ln_LimitExceeded ?ld_LimitExceeded ?vf_LimitExceeded ?fi_LimitExceeded ?lc_LimitExceeded ?cc_LimitExceeded ?mo_LimitExceeded ?ki_NothingToUndo_LimitExceeded ?ki_UnknownName_LimitExceeded ?ki_LimitExceeded_LimitExceeded ?ki_Weightless_LimitExceeded ?ki_NameClash_LimitExceeded ?ki_ParseError_LimitExceeded ?ki_InvalidCommand_LimitExceeded ?ki_InvalidName_LimitExceeded ?ki_InvalidTensions_LimitExceeded ?ki_InvalidLimits_LimitExceeded ?ki_InvalidHeights_LimitExceeded ?ki_InvalidMotion_LimitExceeded ?ki_InvalidRope_LimitExceeded ?ki_InvalidWork_LimitExceeded ?ki_InvalidNumber_LimitExceeded ?ki_RuntimeError_LimitExceeded ?ki_OverflowError_LimitExceeded ?ki_KeyError_LimitExceeded ?ki_LookupError_LimitExceeded ?ki_ValueError_LimitExceeded ?ki_WorkError_LimitExceeded ?xL_UnknownName ?su_UnknownName ?mr_UnknownName ?sB_UnknownName ?sa_UnknownName ?ga_UnknownName ?gg_UnknownName ?no_UnknownName ?iI_UnknownName ?ti_UnknownName ?kC_UnknownName ?eB_UnknownName ?tt_UnknownName ?hd_UnknownName ?lf_UnknownName ?cf_UnknownName ?ln_UnknownName ?ld_UnknownName ?vf_UnknownName ?fi_UnknownName ?lc_UnknownName ?cc_UnknownName ?mo_UnknownName ?ki_NothingToUndo_UnknownName ?ki_UnknownName_UnknownName ?ki_LimitExceeded_UnknownName ?ki_Weightless_UnknownName ?ki_NameClash_UnknownName ?ki_ParseError_UnknownName ?ki_InvalidCommand_UnknownName ?ki_InvalidName_UnknownName ?ki_InvalidTensions_UnknownName ?ki_InvalidLimits_UnknownName ?ki_InvalidHeights_UnknownName ?ki_InvalidMotion_UnknownName ?ki_InvalidRope_UnknownName ?ki_InvalidWork_UnknownName ?ki_InvalidNumber_UnknownName ?ki_RuntimeError_UnknownName ?ki_OverflowError_UnknownName ?ki_KeyError_UnknownName ?ki_LookupError_UnknownName ?ki_ValueError_UnknownName ?ki_WorkError_UnknownName ?ga_NothingToUndo ?gg_NothingToUndo ?no_NothingToUndo ?eB_NothingToUndo ?tt_NothingToUndo ?hd_NothingToUndo ?cc_NothingToUndo ?mo_NothingToUndo ?xq_NothingToUndo ?kC_NothingToUndo ?ki_NothingToUndo_NothingToUndo ?ki_UnknownName_NothingToUndo ?ki_LimitExceeded_NothingToUndo ?ki_Weightless_NothingToUndo ?ki_NameClash_NothingToUndo ?ki_ParseError_NothingToUndo ?ki_InvalidCommand_NothingToUndo ?ki_InvalidName_NothingToUndo ?ki_InvalidTensions_NothingToUndo ?ki_InvalidLimits_NothingToUndo ?ki_InvalidHeights_NothingToUndo ?ki_InvalidMotion_NothingToUndo ?ki_InvalidRope_NothingToUndo ?ki_InvalidWork_NothingToUndo ?ki_InvalidNumber_NothingToUndo ?ki_RuntimeError_NothingToUndo ?ki_OverflowError_NothingToUndo ?ki_KeyError_NothingToUndo ?ki_LookupError_NothingToUndo ?ki_ValueError_NothingToUndo ?ki_WorkError_NothingToUndo ?kr_NothingToUndo ?kr_UnknownName ?kr_LimitExceeded ?kr_Weightless ?kr_NameClash ?kr_ParseError ?kr_InvalidCommand ?kr_InvalidName ?kr_InvalidTensions ?kr_InvalidLimits ?kr_InvalidHeights ?kr_InvalidMotion ?kr_InvalidRope ?kr_InvalidWork ?kr_InvalidNumber ?kr_WorkError ?hd_WorkError ?tt_WorkError ?any ?zsup ?top ?spg ?tkc ?zx_other
    (case aC_InvalidNumber => k_is)
    (case aC_InvalidWork => k_is)
    (case aC_InvalidRope => k_is)
    (case aC_InvalidMotion => k_is)
    (case aC_InvalidHeights => k_is)
    (case aC_InvalidLimits => k_is)
    (case aC_InvalidTensions => k_is)
    (case aC_InvalidName => k_is)
    (case aC_InvalidCommand => k_is)
    (case aC_ParseError => k_is)
    (case aC_NameClash => k_is)
    (case aC_Weightless => k_is)
    (case aC_LimitExceeded => k_is)
    (case aC_UnknownName => k_is)
    (case aC_NothingToUndo => k_is)
    (case aC_WorkError => k_is)
    (case a__law_pool => k_is)
    (case l__law_pool => k_is)
    (case x__law_pool => k_is)
    (case k__law_pool => k_is)
    (case a__law_draw => k_is)
    (case l__law_draw => k_is)
    (case x__law_draw => k_is)
    (case k__law_draw => k_is)
    (case a__law_fields_hold => k_is)
    (case l__law_fields_hold => k_is)
    (case x__law_fields_hold => k_is)
    (case k__law_fields_hold => k_is)
    (case a__law_own => k_is)
    (case l__law_own => k_is)
    (case x__law_own => k_is)
    (case k__law_own => k_is)
    (case a__law_under => k_is)
    (case l__law_under => k_is)
    (case x__law_under => k_is)
    (case k__law_under => k_is)
    (case a_law => k_is)
    (case l_law => k_is)
    (case x_law => k_is)
    (case k_law => k_is)
    (case z_int => k_is)
    (case z_abs => k_is)
    (case z_len => k_is)
    (case z_sum => k_is)
    (case z_isinstance => k_is)
    (case z_RuntimeError => k_is)
    (case z_OverflowError => k_is)
    (case z_KeyError => k_is)
    (case z_LookupError => k_is)
    (case z_ValueError => k_is)
    (case z_min => k_is)
    (case z_max => k_is)
    (case z_range => k_is)
    (case z_enumerate => k_is)
    (case xL_InvalidNumber => k_is)
    (case su_InvalidNumber => first | k_is | ks_is | rfl)
    (case mr_InvalidNumber => k_is)
    (case sB_InvalidNumber => k_is)
    (case sa_InvalidNumber => k_is)
    (case ga_InvalidNumber => k_is)
    (case gg_InvalidNumber => k_is)
    (case no_InvalidNumber => k_is)
    (case iI_InvalidNumber => k_is)
    (case ti_InvalidNumber => k_is)
    (case kC_InvalidNumber => k_is)
    (case eB_InvalidNumber => k_is)
    (case tt_InvalidNumber => k_is)
    (case hd_InvalidNumber => k_is)
    (case lf_InvalidNumber => k_is)
    (case cf_InvalidNumber => k_is)
    (case ln_InvalidNumber => rfl)
    (case ld_InvalidNumber => k_is)
    (case vf_InvalidNumber => rfl)
    (case fi_InvalidNumber => first | rfl | decide +kernel)
    (case lc_InvalidNumber => k_is)
    (case cc_InvalidNumber => k_is)
    (case mo_InvalidNumber => k_is)
    (case ki_NothingToUndo_InvalidNumber => k_is)
    (case ki_UnknownName_InvalidNumber => k_is)
    (case ki_LimitExceeded_InvalidNumber => k_is)
    (case ki_Weightless_InvalidNumber => k_is)
    (case ki_NameClash_InvalidNumber => k_is)
    (case ki_ParseError_InvalidNumber => k_is)
    (case ki_InvalidCommand_InvalidNumber => k_is)
    (case ki_InvalidName_InvalidNumber => k_is)
    (case ki_InvalidTensions_InvalidNumber => k_is)
    (case ki_InvalidLimits_InvalidNumber => k_is)
    (case ki_InvalidHeights_InvalidNumber => k_is)
    (case ki_InvalidMotion_InvalidNumber => k_is)
    (case ki_InvalidRope_InvalidNumber => k_is)
    (case ki_InvalidWork_InvalidNumber => k_is)
    (case ki_InvalidNumber_InvalidNumber => k_is)
    (case ki_RuntimeError_InvalidNumber => k_is)
    (case ki_OverflowError_InvalidNumber => k_is)
    (case ki_KeyError_InvalidNumber => k_is)
    (case ki_LookupError_InvalidNumber => k_is)
    (case ki_ValueError_InvalidNumber => k_is)
    (case ki_WorkError_InvalidNumber => k_is)
    (case xL_InvalidWork => k_is)
    (case su_InvalidWork => first | k_is | ks_is | rfl)
    (case mr_InvalidWork => k_is)
    (case sB_InvalidWork => k_is)
    (case sa_InvalidWork => k_is)
    (case ga_InvalidWork => k_is)
    (case gg_InvalidWork => k_is)
    (case no_InvalidWork => k_is)
    (case iI_InvalidWork => k_is)
    (case ti_InvalidWork => k_is)
    (case kC_InvalidWork => k_is)
    (case eB_InvalidWork => k_is)
    (case tt_InvalidWork => k_is)
    (case hd_InvalidWork => k_is)
    (case lf_InvalidWork => k_is)
    (case cf_InvalidWork => k_is)
    (case ln_InvalidWork => rfl)
    (case ld_InvalidWork => k_is)
    (case vf_InvalidWork => rfl)
    (case fi_InvalidWork => first | rfl | decide +kernel)
    (case lc_InvalidWork => k_is)
    (case cc_InvalidWork => k_is)
    (case mo_InvalidWork => k_is)
    (case ki_NothingToUndo_InvalidWork => k_is)
    (case ki_UnknownName_InvalidWork => k_is)
    (case ki_LimitExceeded_InvalidWork => k_is)
    (case ki_Weightless_InvalidWork => k_is)
    (case ki_NameClash_InvalidWork => k_is)
    (case ki_ParseError_InvalidWork => k_is)
    (case ki_InvalidCommand_InvalidWork => k_is)
    (case ki_InvalidName_InvalidWork => k_is)
    (case ki_InvalidTensions_InvalidWork => k_is)
    (case ki_InvalidLimits_InvalidWork => k_is)
    (case ki_InvalidHeights_InvalidWork => k_is)
    (case ki_InvalidMotion_InvalidWork => k_is)
    (case ki_InvalidRope_InvalidWork => k_is)
    (case ki_InvalidWork_InvalidWork => k_is)
    (case ki_InvalidNumber_InvalidWork => k_is)
    (case ki_RuntimeError_InvalidWork => k_is)
    (case ki_OverflowError_InvalidWork => k_is)
    (case ki_KeyError_InvalidWork => k_is)
    (case ki_LookupError_InvalidWork => k_is)
    (case ki_ValueError_InvalidWork => k_is)
    (case ki_WorkError_InvalidWork => k_is)
    (case xL_InvalidRope => k_is)
    (case su_InvalidRope => first | k_is | ks_is | rfl)
    (case mr_InvalidRope => k_is)
    (case sB_InvalidRope => k_is)
    (case sa_InvalidRope => k_is)
    (case ga_InvalidRope => k_is)
    (case gg_InvalidRope => k_is)
    (case no_InvalidRope => k_is)
    (case iI_InvalidRope => k_is)
    (case ti_InvalidRope => k_is)
    (case kC_InvalidRope => k_is)
    (case eB_InvalidRope => k_is)
    (case tt_InvalidRope => k_is)
    (case hd_InvalidRope => k_is)
    (case lf_InvalidRope => k_is)
    (case cf_InvalidRope => k_is)
    (case ln_InvalidRope => rfl)
    (case ld_InvalidRope => k_is)
    (case vf_InvalidRope => rfl)
    (case fi_InvalidRope => first | rfl | decide +kernel)
    (case lc_InvalidRope => k_is)
    (case cc_InvalidRope => k_is)
    (case mo_InvalidRope => k_is)
    (case ki_NothingToUndo_InvalidRope => k_is)
    (case ki_UnknownName_InvalidRope => k_is)
    (case ki_LimitExceeded_InvalidRope => k_is)
    (case ki_Weightless_InvalidRope => k_is)
    (case ki_NameClash_InvalidRope => k_is)
    (case ki_ParseError_InvalidRope => k_is)
    (case ki_InvalidCommand_InvalidRope => k_is)
    (case ki_InvalidName_InvalidRope => k_is)
    (case ki_InvalidTensions_InvalidRope => k_is)
    (case ki_InvalidLimits_InvalidRope => k_is)
    (case ki_InvalidHeights_InvalidRope => k_is)
    (case ki_InvalidMotion_InvalidRope => k_is)
    (case ki_InvalidRope_InvalidRope => k_is)
    (case ki_InvalidWork_InvalidRope => k_is)
    (case ki_InvalidNumber_InvalidRope => k_is)
    (case ki_RuntimeError_InvalidRope => k_is)
    (case ki_OverflowError_InvalidRope => k_is)
    (case ki_KeyError_InvalidRope => k_is)
    (case ki_LookupError_InvalidRope => k_is)
    (case ki_ValueError_InvalidRope => k_is)
    (case ki_WorkError_InvalidRope => k_is)
    (case xL_InvalidMotion => k_is)
    (case su_InvalidMotion => first | k_is | ks_is | rfl)
    (case mr_InvalidMotion => k_is)
    (case sB_InvalidMotion => k_is)
    (case sa_InvalidMotion => k_is)
    (case ga_InvalidMotion => k_is)
    (case gg_InvalidMotion => k_is)
    (case no_InvalidMotion => k_is)
    (case iI_InvalidMotion => k_is)
    (case ti_InvalidMotion => k_is)
    (case kC_InvalidMotion => k_is)
    (case eB_InvalidMotion => k_is)
    (case tt_InvalidMotion => k_is)
    (case hd_InvalidMotion => k_is)
    (case lf_InvalidMotion => k_is)
    (case cf_InvalidMotion => k_is)
    (case ln_InvalidMotion => rfl)
    (case ld_InvalidMotion => k_is)
    (case vf_InvalidMotion => rfl)
    (case fi_InvalidMotion => first | rfl | decide +kernel)
    (case lc_InvalidMotion => k_is)
    (case cc_InvalidMotion => k_is)
    (case mo_InvalidMotion => k_is)
    (case ki_NothingToUndo_InvalidMotion => k_is)
    (case ki_UnknownName_InvalidMotion => k_is)
    (case ki_LimitExceeded_InvalidMotion => k_is)
    (case ki_Weightless_InvalidMotion => k_is)
    (case ki_NameClash_InvalidMotion => k_is)
    (case ki_ParseError_InvalidMotion => k_is)
    (case ki_InvalidCommand_InvalidMotion => k_is)
    (case ki_InvalidName_InvalidMotion => k_is)
    (case ki_InvalidTensions_InvalidMotion => k_is)
    (case ki_InvalidLimits_InvalidMotion => k_is)
    (case ki_InvalidHeights_InvalidMotion => k_is)
    (case ki_InvalidMotion_InvalidMotion => k_is)
    (case ki_InvalidRope_InvalidMotion => k_is)
    (case ki_InvalidWork_InvalidMotion => k_is)
    (case ki_InvalidNumber_InvalidMotion => k_is)
    (case ki_RuntimeError_InvalidMotion => k_is)
    (case ki_OverflowError_InvalidMotion => k_is)
    (case ki_KeyError_InvalidMotion => k_is)
    (case ki_LookupError_InvalidMotion => k_is)
    (case ki_ValueError_InvalidMotion => k_is)
    (case ki_WorkError_InvalidMotion => k_is)
    (case xL_InvalidHeights => k_is)
    (case su_InvalidHeights => first | k_is | ks_is | rfl)
    (case mr_InvalidHeights => k_is)
    (case sB_InvalidHeights => k_is)
    (case sa_InvalidHeights => k_is)
    (case ga_InvalidHeights => k_is)
    (case gg_InvalidHeights => k_is)
    (case no_InvalidHeights => k_is)
    (case iI_InvalidHeights => k_is)
    (case ti_InvalidHeights => k_is)
    (case kC_InvalidHeights => k_is)
    (case eB_InvalidHeights => k_is)
    (case tt_InvalidHeights => k_is)
    (case hd_InvalidHeights => k_is)
    (case lf_InvalidHeights => k_is)
    (case cf_InvalidHeights => k_is)
    (case ln_InvalidHeights => rfl)
    (case ld_InvalidHeights => k_is)
    (case vf_InvalidHeights => rfl)
    (case fi_InvalidHeights => first | rfl | decide +kernel)
    (case lc_InvalidHeights => k_is)
    (case cc_InvalidHeights => k_is)
    (case mo_InvalidHeights => k_is)
    (case ki_NothingToUndo_InvalidHeights => k_is)
    (case ki_UnknownName_InvalidHeights => k_is)
    (case ki_LimitExceeded_InvalidHeights => k_is)
    (case ki_Weightless_InvalidHeights => k_is)
    (case ki_NameClash_InvalidHeights => k_is)
    (case ki_ParseError_InvalidHeights => k_is)
    (case ki_InvalidCommand_InvalidHeights => k_is)
    (case ki_InvalidName_InvalidHeights => k_is)
    (case ki_InvalidTensions_InvalidHeights => k_is)
    (case ki_InvalidLimits_InvalidHeights => k_is)
    (case ki_InvalidHeights_InvalidHeights => k_is)
    (case ki_InvalidMotion_InvalidHeights => k_is)
    (case ki_InvalidRope_InvalidHeights => k_is)
    (case ki_InvalidWork_InvalidHeights => k_is)
    (case ki_InvalidNumber_InvalidHeights => k_is)
    (case ki_RuntimeError_InvalidHeights => k_is)
    (case ki_OverflowError_InvalidHeights => k_is)
    (case ki_KeyError_InvalidHeights => k_is)
    (case ki_LookupError_InvalidHeights => k_is)
    (case ki_ValueError_InvalidHeights => k_is)
    (case ki_WorkError_InvalidHeights => k_is)
    (case xL_InvalidLimits => k_is)
    (case su_InvalidLimits => first | k_is | ks_is | rfl)
    (case mr_InvalidLimits => k_is)
    (case sB_InvalidLimits => k_is)
    (case sa_InvalidLimits => k_is)
    (case ga_InvalidLimits => k_is)
    (case gg_InvalidLimits => k_is)
    (case no_InvalidLimits => k_is)
    (case iI_InvalidLimits => k_is)
    (case ti_InvalidLimits => k_is)
    (case kC_InvalidLimits => k_is)
    (case eB_InvalidLimits => k_is)
    (case tt_InvalidLimits => k_is)
    (case hd_InvalidLimits => k_is)
    (case lf_InvalidLimits => k_is)
    (case cf_InvalidLimits => k_is)
    (case ln_InvalidLimits => rfl)
    (case ld_InvalidLimits => k_is)
    (case vf_InvalidLimits => rfl)
    (case fi_InvalidLimits => first | rfl | decide +kernel)
    (case lc_InvalidLimits => k_is)
    (case cc_InvalidLimits => k_is)
    (case mo_InvalidLimits => k_is)
    (case ki_NothingToUndo_InvalidLimits => k_is)
    (case ki_UnknownName_InvalidLimits => k_is)
    (case ki_LimitExceeded_InvalidLimits => k_is)
    (case ki_Weightless_InvalidLimits => k_is)
    (case ki_NameClash_InvalidLimits => k_is)
    (case ki_ParseError_InvalidLimits => k_is)
    (case ki_InvalidCommand_InvalidLimits => k_is)
    (case ki_InvalidName_InvalidLimits => k_is)
    (case ki_InvalidTensions_InvalidLimits => k_is)
    (case ki_InvalidLimits_InvalidLimits => k_is)
    (case ki_InvalidHeights_InvalidLimits => k_is)
    (case ki_InvalidMotion_InvalidLimits => k_is)
    (case ki_InvalidRope_InvalidLimits => k_is)
    (case ki_InvalidWork_InvalidLimits => k_is)
    (case ki_InvalidNumber_InvalidLimits => k_is)
    (case ki_RuntimeError_InvalidLimits => k_is)
    (case ki_OverflowError_InvalidLimits => k_is)
    (case ki_KeyError_InvalidLimits => k_is)
    (case ki_LookupError_InvalidLimits => k_is)
    (case ki_ValueError_InvalidLimits => k_is)
    (case ki_WorkError_InvalidLimits => k_is)
    (case xL_InvalidTensions => k_is)
    (case su_InvalidTensions => first | k_is | ks_is | rfl)
    (case mr_InvalidTensions => k_is)
    (case sB_InvalidTensions => k_is)
    (case sa_InvalidTensions => k_is)
    (case ga_InvalidTensions => k_is)
    (case gg_InvalidTensions => k_is)
    (case no_InvalidTensions => k_is)
    (case iI_InvalidTensions => k_is)
    (case ti_InvalidTensions => k_is)
    (case kC_InvalidTensions => k_is)
    (case eB_InvalidTensions => k_is)
    (case tt_InvalidTensions => k_is)
    (case hd_InvalidTensions => k_is)
    (case lf_InvalidTensions => k_is)
    (case cf_InvalidTensions => k_is)
    (case ln_InvalidTensions => rfl)
    (case ld_InvalidTensions => k_is)
    (case vf_InvalidTensions => rfl)
    (case fi_InvalidTensions => first | rfl | decide +kernel)
    (case lc_InvalidTensions => k_is)
    (case cc_InvalidTensions => k_is)
    (case mo_InvalidTensions => k_is)
    (case ki_NothingToUndo_InvalidTensions => k_is)
    (case ki_UnknownName_InvalidTensions => k_is)
    (case ki_LimitExceeded_InvalidTensions => k_is)
    (case ki_Weightless_InvalidTensions => k_is)
    (case ki_NameClash_InvalidTensions => k_is)
    (case ki_ParseError_InvalidTensions => k_is)
    (case ki_InvalidCommand_InvalidTensions => k_is)
    (case ki_InvalidName_InvalidTensions => k_is)
    (case ki_InvalidTensions_InvalidTensions => k_is)
    (case ki_InvalidLimits_InvalidTensions => k_is)
    (case ki_InvalidHeights_InvalidTensions => k_is)
    (case ki_InvalidMotion_InvalidTensions => k_is)
    (case ki_InvalidRope_InvalidTensions => k_is)
    (case ki_InvalidWork_InvalidTensions => k_is)
    (case ki_InvalidNumber_InvalidTensions => k_is)
    (case ki_RuntimeError_InvalidTensions => k_is)
    (case ki_OverflowError_InvalidTensions => k_is)
    (case ki_KeyError_InvalidTensions => k_is)
    (case ki_LookupError_InvalidTensions => k_is)
    (case ki_ValueError_InvalidTensions => k_is)
    (case ki_WorkError_InvalidTensions => k_is)
    (case xL_InvalidName => k_is)
    (case su_InvalidName => first | k_is | ks_is | rfl)
    (case mr_InvalidName => k_is)
    (case sB_InvalidName => k_is)
    (case sa_InvalidName => k_is)
    (case ga_InvalidName => k_is)
    (case gg_InvalidName => k_is)
    (case no_InvalidName => k_is)
    (case iI_InvalidName => k_is)
    (case ti_InvalidName => k_is)
    (case kC_InvalidName => k_is)
    (case eB_InvalidName => k_is)
    (case tt_InvalidName => k_is)
    (case hd_InvalidName => k_is)
    (case lf_InvalidName => k_is)
    (case cf_InvalidName => k_is)
    (case ln_InvalidName => rfl)
    (case ld_InvalidName => k_is)
    (case vf_InvalidName => rfl)
    (case fi_InvalidName => first | rfl | decide +kernel)
    (case lc_InvalidName => k_is)
    (case cc_InvalidName => k_is)
    (case mo_InvalidName => k_is)
    (case ki_NothingToUndo_InvalidName => k_is)
    (case ki_UnknownName_InvalidName => k_is)
    (case ki_LimitExceeded_InvalidName => k_is)
    (case ki_Weightless_InvalidName => k_is)
    (case ki_NameClash_InvalidName => k_is)
    (case ki_ParseError_InvalidName => k_is)
    (case ki_InvalidCommand_InvalidName => k_is)
    (case ki_InvalidName_InvalidName => k_is)
    (case ki_InvalidTensions_InvalidName => k_is)
    (case ki_InvalidLimits_InvalidName => k_is)
    (case ki_InvalidHeights_InvalidName => k_is)
    (case ki_InvalidMotion_InvalidName => k_is)
    (case ki_InvalidRope_InvalidName => k_is)
    (case ki_InvalidWork_InvalidName => k_is)
    (case ki_InvalidNumber_InvalidName => k_is)
    (case ki_RuntimeError_InvalidName => k_is)
    (case ki_OverflowError_InvalidName => k_is)
    (case ki_KeyError_InvalidName => k_is)
    (case ki_LookupError_InvalidName => k_is)
    (case ki_ValueError_InvalidName => k_is)
    (case ki_WorkError_InvalidName => k_is)
    (case xL_InvalidCommand => k_is)
    (case su_InvalidCommand => first | k_is | ks_is | rfl)
    (case mr_InvalidCommand => k_is)
    (case sB_InvalidCommand => k_is)
    (case sa_InvalidCommand => k_is)
    (case ga_InvalidCommand => k_is)
    (case gg_InvalidCommand => k_is)
    (case no_InvalidCommand => k_is)
    (case iI_InvalidCommand => k_is)
    (case ti_InvalidCommand => k_is)
    (case kC_InvalidCommand => k_is)
    (case eB_InvalidCommand => k_is)
    (case tt_InvalidCommand => k_is)
    (case hd_InvalidCommand => k_is)
    (case lf_InvalidCommand => k_is)
    (case cf_InvalidCommand => k_is)
    (case ln_InvalidCommand => rfl)
    (case ld_InvalidCommand => k_is)
    (case vf_InvalidCommand => rfl)
    (case fi_InvalidCommand => first | rfl | decide +kernel)
    (case lc_InvalidCommand => k_is)
    (case cc_InvalidCommand => k_is)
    (case mo_InvalidCommand => k_is)
    (case ki_NothingToUndo_InvalidCommand => k_is)
    (case ki_UnknownName_InvalidCommand => k_is)
    (case ki_LimitExceeded_InvalidCommand => k_is)
    (case ki_Weightless_InvalidCommand => k_is)
    (case ki_NameClash_InvalidCommand => k_is)
    (case ki_ParseError_InvalidCommand => k_is)
    (case ki_InvalidCommand_InvalidCommand => k_is)
    (case ki_InvalidName_InvalidCommand => k_is)
    (case ki_InvalidTensions_InvalidCommand => k_is)
    (case ki_InvalidLimits_InvalidCommand => k_is)
    (case ki_InvalidHeights_InvalidCommand => k_is)
    (case ki_InvalidMotion_InvalidCommand => k_is)
    (case ki_InvalidRope_InvalidCommand => k_is)
    (case ki_InvalidWork_InvalidCommand => k_is)
    (case ki_InvalidNumber_InvalidCommand => k_is)
    (case ki_RuntimeError_InvalidCommand => k_is)
    (case ki_OverflowError_InvalidCommand => k_is)
    (case ki_KeyError_InvalidCommand => k_is)
    (case ki_LookupError_InvalidCommand => k_is)
    (case ki_ValueError_InvalidCommand => k_is)
    (case ki_WorkError_InvalidCommand => k_is)
    (case xL_ParseError => k_is)
    (case su_ParseError => first | k_is | ks_is | rfl)
    (case mr_ParseError => k_is)
    (case sB_ParseError => k_is)
    (case sa_ParseError => k_is)
    (case ga_ParseError => k_is)
    (case gg_ParseError => k_is)
    (case no_ParseError => k_is)
    (case iI_ParseError => k_is)
    (case ti_ParseError => k_is)
    (case kC_ParseError => k_is)
    (case eB_ParseError => k_is)
    (case tt_ParseError => k_is)
    (case hd_ParseError => k_is)
    (case lf_ParseError => k_is)
    (case cf_ParseError => k_is)
    (case ln_ParseError => rfl)
    (case ld_ParseError => k_is)
    (case vf_ParseError => rfl)
    (case fi_ParseError => first | rfl | decide +kernel)
    (case lc_ParseError => k_is)
    (case cc_ParseError => k_is)
    (case mo_ParseError => k_is)
    (case ki_NothingToUndo_ParseError => k_is)
    (case ki_UnknownName_ParseError => k_is)
    (case ki_LimitExceeded_ParseError => k_is)
    (case ki_Weightless_ParseError => k_is)
    (case ki_NameClash_ParseError => k_is)
    (case ki_ParseError_ParseError => k_is)
    (case ki_InvalidCommand_ParseError => k_is)
    (case ki_InvalidName_ParseError => k_is)
    (case ki_InvalidTensions_ParseError => k_is)
    (case ki_InvalidLimits_ParseError => k_is)
    (case ki_InvalidHeights_ParseError => k_is)
    (case ki_InvalidMotion_ParseError => k_is)
    (case ki_InvalidRope_ParseError => k_is)
    (case ki_InvalidWork_ParseError => k_is)
    (case ki_InvalidNumber_ParseError => k_is)
    (case ki_RuntimeError_ParseError => k_is)
    (case ki_OverflowError_ParseError => k_is)
    (case ki_KeyError_ParseError => k_is)
    (case ki_LookupError_ParseError => k_is)
    (case ki_ValueError_ParseError => k_is)
    (case ki_WorkError_ParseError => k_is)
    (case xL_NameClash => k_is)
    (case su_NameClash => first | k_is | ks_is | rfl)
    (case mr_NameClash => k_is)
    (case sB_NameClash => k_is)
    (case sa_NameClash => k_is)
    (case ga_NameClash => k_is)
    (case gg_NameClash => k_is)
    (case no_NameClash => k_is)
    (case iI_NameClash => k_is)
    (case ti_NameClash => k_is)
    (case kC_NameClash => k_is)
    (case eB_NameClash => k_is)
    (case tt_NameClash => k_is)
    (case hd_NameClash => k_is)
    (case lf_NameClash => k_is)
    (case cf_NameClash => k_is)
    (case ln_NameClash => rfl)
    (case ld_NameClash => k_is)
    (case vf_NameClash => rfl)
    (case fi_NameClash => first | rfl | decide +kernel)
    (case lc_NameClash => k_is)
    (case cc_NameClash => k_is)
    (case mo_NameClash => k_is)
    (case ki_NothingToUndo_NameClash => k_is)
    (case ki_UnknownName_NameClash => k_is)
    (case ki_LimitExceeded_NameClash => k_is)
    (case ki_Weightless_NameClash => k_is)
    (case ki_NameClash_NameClash => k_is)
    (case ki_ParseError_NameClash => k_is)
    (case ki_InvalidCommand_NameClash => k_is)
    (case ki_InvalidName_NameClash => k_is)
    (case ki_InvalidTensions_NameClash => k_is)
    (case ki_InvalidLimits_NameClash => k_is)
    (case ki_InvalidHeights_NameClash => k_is)
    (case ki_InvalidMotion_NameClash => k_is)
    (case ki_InvalidRope_NameClash => k_is)
    (case ki_InvalidWork_NameClash => k_is)
    (case ki_InvalidNumber_NameClash => k_is)
    (case ki_RuntimeError_NameClash => k_is)
    (case ki_OverflowError_NameClash => k_is)
    (case ki_KeyError_NameClash => k_is)
    (case ki_LookupError_NameClash => k_is)
    (case ki_ValueError_NameClash => k_is)
    (case ki_WorkError_NameClash => k_is)
    (case xL_Weightless => k_is)
    (case su_Weightless => first | k_is | ks_is | rfl)
    (case mr_Weightless => k_is)
    (case sB_Weightless => k_is)
    (case sa_Weightless => k_is)
    (case ga_Weightless => k_is)
    (case gg_Weightless => k_is)
    (case no_Weightless => k_is)
    (case iI_Weightless => k_is)
    (case ti_Weightless => k_is)
    (case kC_Weightless => k_is)
    (case eB_Weightless => k_is)
    (case tt_Weightless => k_is)
    (case hd_Weightless => k_is)
    (case lf_Weightless => k_is)
    (case cf_Weightless => k_is)
    (case ln_Weightless => rfl)
    (case ld_Weightless => k_is)
    (case vf_Weightless => rfl)
    (case fi_Weightless => first | rfl | decide +kernel)
    (case lc_Weightless => k_is)
    (case cc_Weightless => k_is)
    (case mo_Weightless => k_is)
    (case ki_NothingToUndo_Weightless => k_is)
    (case ki_UnknownName_Weightless => k_is)
    (case ki_LimitExceeded_Weightless => k_is)
    (case ki_Weightless_Weightless => k_is)
    (case ki_NameClash_Weightless => k_is)
    (case ki_ParseError_Weightless => k_is)
    (case ki_InvalidCommand_Weightless => k_is)
    (case ki_InvalidName_Weightless => k_is)
    (case ki_InvalidTensions_Weightless => k_is)
    (case ki_InvalidLimits_Weightless => k_is)
    (case ki_InvalidHeights_Weightless => k_is)
    (case ki_InvalidMotion_Weightless => k_is)
    (case ki_InvalidRope_Weightless => k_is)
    (case ki_InvalidWork_Weightless => k_is)
    (case ki_InvalidNumber_Weightless => k_is)
    (case ki_RuntimeError_Weightless => k_is)
    (case ki_OverflowError_Weightless => k_is)
    (case ki_KeyError_Weightless => k_is)
    (case ki_LookupError_Weightless => k_is)
    (case ki_ValueError_Weightless => k_is)
    (case ki_WorkError_Weightless => k_is)
    (case xL_LimitExceeded => k_is)
    (case su_LimitExceeded => first | k_is | ks_is | rfl)
    (case mr_LimitExceeded => k_is)
    (case sB_LimitExceeded => k_is)
    (case sa_LimitExceeded => k_is)
    (case ga_LimitExceeded => k_is)
    (case gg_LimitExceeded => k_is)
    (case no_LimitExceeded => k_is)
    (case iI_LimitExceeded => k_is)
    (case ti_LimitExceeded => k_is)
    (case kC_LimitExceeded => k_is)
    (case eB_LimitExceeded => k_is)
    (case tt_LimitExceeded => k_is)
    (case hd_LimitExceeded => k_is)
    (case lf_LimitExceeded => k_is)
    (case cf_LimitExceeded => k_is)
    (case ln_LimitExceeded => rfl)
    (case ld_LimitExceeded => k_is)
    (case vf_LimitExceeded => rfl)
    (case fi_LimitExceeded => first | rfl | decide +kernel)
    (case lc_LimitExceeded => k_is)
    (case cc_LimitExceeded => k_is)
    (case mo_LimitExceeded => k_is)
    (case ki_NothingToUndo_LimitExceeded => k_is)
    (case ki_UnknownName_LimitExceeded => k_is)
    (case ki_LimitExceeded_LimitExceeded => k_is)
    (case ki_Weightless_LimitExceeded => k_is)
    (case ki_NameClash_LimitExceeded => k_is)
    (case ki_ParseError_LimitExceeded => k_is)
    (case ki_InvalidCommand_LimitExceeded => k_is)
    (case ki_InvalidName_LimitExceeded => k_is)
    (case ki_InvalidTensions_LimitExceeded => k_is)
    (case ki_InvalidLimits_LimitExceeded => k_is)
    (case ki_InvalidHeights_LimitExceeded => k_is)
    (case ki_InvalidMotion_LimitExceeded => k_is)
    (case ki_InvalidRope_LimitExceeded => k_is)
    (case ki_InvalidWork_LimitExceeded => k_is)
    (case ki_InvalidNumber_LimitExceeded => k_is)
    (case ki_RuntimeError_LimitExceeded => k_is)
    (case ki_OverflowError_LimitExceeded => k_is)
    (case ki_KeyError_LimitExceeded => k_is)
    (case ki_LookupError_LimitExceeded => k_is)
    (case ki_ValueError_LimitExceeded => k_is)
    (case ki_WorkError_LimitExceeded => k_is)
    (case xL_UnknownName => k_is)
    (case su_UnknownName => first | k_is | ks_is | rfl)
    (case mr_UnknownName => k_is)
    (case sB_UnknownName => k_is)
    (case sa_UnknownName => k_is)
    (case ga_UnknownName => k_is)
    (case gg_UnknownName => k_is)
    (case no_UnknownName => k_is)
    (case iI_UnknownName => k_is)
    (case ti_UnknownName => k_is)
    (case kC_UnknownName => k_is)
    (case eB_UnknownName => k_is)
    (case tt_UnknownName => k_is)
    (case hd_UnknownName => k_is)
    (case lf_UnknownName => k_is)
    (case cf_UnknownName => k_is)
    (case ln_UnknownName => rfl)
    (case ld_UnknownName => k_is)
    (case vf_UnknownName => rfl)
    (case fi_UnknownName => first | rfl | decide +kernel)
    (case lc_UnknownName => k_is)
    (case cc_UnknownName => k_is)
    (case mo_UnknownName => k_is)
    (case ki_NothingToUndo_UnknownName => k_is)
    (case ki_UnknownName_UnknownName => k_is)
    (case ki_LimitExceeded_UnknownName => k_is)
    (case ki_Weightless_UnknownName => k_is)
    (case ki_NameClash_UnknownName => k_is)
    (case ki_ParseError_UnknownName => k_is)
    (case ki_InvalidCommand_UnknownName => k_is)
    (case ki_InvalidName_UnknownName => k_is)
    (case ki_InvalidTensions_UnknownName => k_is)
    (case ki_InvalidLimits_UnknownName => k_is)
    (case ki_InvalidHeights_UnknownName => k_is)
    (case ki_InvalidMotion_UnknownName => k_is)
    (case ki_InvalidRope_UnknownName => k_is)
    (case ki_InvalidWork_UnknownName => k_is)
    (case ki_InvalidNumber_UnknownName => k_is)
    (case ki_RuntimeError_UnknownName => k_is)
    (case ki_OverflowError_UnknownName => k_is)
    (case ki_KeyError_UnknownName => k_is)
    (case ki_LookupError_UnknownName => k_is)
    (case ki_ValueError_UnknownName => k_is)
    (case ki_WorkError_UnknownName => k_is)
    (case ga_NothingToUndo => k_is)
    (case gg_NothingToUndo => k_is)
    (case no_NothingToUndo => k_is)
    (case eB_NothingToUndo => k_is)
    (case tt_NothingToUndo => k_is)
    (case hd_NothingToUndo => k_is)
    (case cc_NothingToUndo => k_is)
    (case mo_NothingToUndo => k_is)
    (case xq_NothingToUndo => k_exc)
    (case kC_NothingToUndo => k_is)
    (case ki_NothingToUndo_NothingToUndo => k_is)
    (case ki_UnknownName_NothingToUndo => k_is)
    (case ki_LimitExceeded_NothingToUndo => k_is)
    (case ki_Weightless_NothingToUndo => k_is)
    (case ki_NameClash_NothingToUndo => k_is)
    (case ki_ParseError_NothingToUndo => k_is)
    (case ki_InvalidCommand_NothingToUndo => k_is)
    (case ki_InvalidName_NothingToUndo => k_is)
    (case ki_InvalidTensions_NothingToUndo => k_is)
    (case ki_InvalidLimits_NothingToUndo => k_is)
    (case ki_InvalidHeights_NothingToUndo => k_is)
    (case ki_InvalidMotion_NothingToUndo => k_is)
    (case ki_InvalidRope_NothingToUndo => k_is)
    (case ki_InvalidWork_NothingToUndo => k_is)
    (case ki_InvalidNumber_NothingToUndo => k_is)
    (case ki_RuntimeError_NothingToUndo => k_is)
    (case ki_OverflowError_NothingToUndo => k_is)
    (case ki_KeyError_NothingToUndo => k_is)
    (case ki_LookupError_NothingToUndo => k_is)
    (case ki_ValueError_NothingToUndo => k_is)
    (case ki_WorkError_NothingToUndo => k_is)
    (case kr_NothingToUndo => k_is)
    (case kr_UnknownName => k_is)
    (case kr_LimitExceeded => k_is)
    (case kr_Weightless => k_is)
    (case kr_NameClash => k_is)
    (case kr_ParseError => k_is)
    (case kr_InvalidCommand => k_is)
    (case kr_InvalidName => k_is)
    (case kr_InvalidTensions => k_is)
    (case kr_InvalidLimits => k_is)
    (case kr_InvalidHeights => k_is)
    (case kr_InvalidMotion => k_is)
    (case kr_InvalidRope => k_is)
    (case kr_InvalidWork => k_is)
    (case kr_InvalidNumber => k_is)
    (case kr_WorkError => k_is)
    (case hd_WorkError => k_is)
    (case tt_WorkError => k_is)
    (case any => k_is)
    (case zsup => k_is)
    (case top => first | rfl | decide +kernel)
    (case spg => k_is)
    (case tkc => k_is)
    (case zx_other => k_is)
