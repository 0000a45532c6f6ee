import PyProof.Rows.All
import HandS.ForMost
import HandS.ExcValue
import HandS.Exc
import HandS.Wide
import HandS.Style
import HandS.TupAny
import HandS.TupLe
import HandS.WideBits
import HandS.Text
import HandS.Flow
import HandS.Comp
import HandS.Iter
import HandS.ExcOwn
import HandS.Defaults
import HandS.Ends
import HandS.WordsExc
import HandS.HeadEnd
import HandS.ExcInit
import KE.KExcSuper
import HandS.IsInst
import HandS.ExcIs
import KE.KIsAll
import HandS.RaiseMore
import PyProof.ReprRoads
import HandS.Dict
import HandS.Replace
import HandS.ReplaceList
import HandS.Codes
import HandS.Steps
import KE.KRevSl
import PyProof.SliceStr2
import PyProof.ToksMono
import PyProof.Rows.StrRev
import PyProof.Rows.StrTemp
import PyProof.Draws
import PyProof.EnumMake
import HandS.Walk
import HandS.Head0
import HandS.Head1
import HandS.Head2
import HandS.HeadHook1
import HandS.HeadHook2
import HandS.List
import KE.LtData
import PyProof.StrBlock2
import HandS.Conv
import HandS.FromBytesMap
import HandS.SortKw
import KE.DataMinKey
import KE.DataCmp
import KE.DataMinMax
import HandS.ExcField
import Wide.All
import OpenK.AllK
import Wide.FinOn
import Lean
import PySem.Challenge.RW_signlanes_k08_errors_by_their_classes
import KE.KStateDown
set_option Elab.async false
set_option linter.all false
set_option maxRecDepth 100000
set_option maxHeartbeats 4000000
namespace L2.DL
open PySem PySem.Spec PyProof.Rows

/-- data, as trees -/
inductive Dt where
  | non
  | bl (b : Bool)
  | int (i : Int)
  | str (l : List Nat)
  | opq (v : V)
  | lst (xs : List Dt)
  | tup (xs : List Dt)
  | dict (ks : List Key) (vs : List Dt)
  | exc (C : Addr) (x : Dt)
  | ex0 (C : Addr)
  | scr (ns : List Int)

/-- an own exception that is held: its class, its dict -/
def ExT (C dx a : Addr) : HO := .ext fun h => ∃ oe vs, h.get? a = some oe ∧ oe.cls = .ref C ∧ oe.dict = some dx ∧ oe.data = .fields vs

mutual
/-- v stands for the tree in H -/
def Rp (K : PySem.W.Frag) (H : Hp) : Dt → V → Prop
  | .non, v => v = .non
  | .bl b, v => v = .bl b
  | .int i, v => v = .int i
  | .str l, v => v = .str ⟨l.toArray⟩
  | .opq u, v => v = u
  | .lst ds, v => ∃ a xs, v = .ref a ∧ H a = some (.lst xs) ∧ Rps K H ds xs
  | .tup ds, v => ∃ a xs, v = .ref a ∧ SqT K H a xs ∧ Rps K H ds xs
  | .dict ks ds, v => ∃ a ys, v = .ref a ∧ H a = some (.dK ys) ∧ ys.map (·.1) = ks ∧ Rps K H ds (ys.map (·.2))
  | .exc C x, v => ∃ a dx u, v = .ref a ∧ H a = some (ExT C dx a) ∧ H dx = some (.xd [("value", u)]) ∧ Rp K H x u
  | .ex0 C, v => ∃ a, v = .ref a ∧ H a = some (ExO (.ref C) a)
  | .scr ns, v => ∃ a, v = .ref a ∧ SqL K H a (ns.map V.int)
def Rps (K : PySem.W.Frag) (H : Hp) : List Dt → List V → Prop
  | [], xs => xs = []
  | d :: ds, xs => ∃ x r, xs = x :: r ∧ Rp K H d x ∧ Rps K H ds r
end

mutual
theorem Rp.mono {K : PySem.W.Frag} {H H' : Hp} (e : Same H H') : ∀ {d : Dt} {v : V}, Rp K H d v → Rp K H' d v
  | .non, _, h => h
  | .bl _, _, h => h
  | .int _, _, h => h
  | .str _, _, h => h
  | .opq _, _, h => h
  | .lst _, _, h => by
    obtain ⟨a, xs, h1, h2, h3⟩ := h
    exact ⟨a, xs, h1, e _ _ h2, Rps.mono e h3⟩
  | .tup _, _, h => by
    obtain ⟨a, xs, h1, h2, h3⟩ := h
    refine ⟨a, xs, h1, ?_, Rps.mono e h3⟩
    rcases h2 with (h2 | ⟨o, h2⟩) | h2
    · exact .inl (.inl (e _ _ h2))
    · exact .inl (.inr ⟨o, e _ _ h2⟩)
    · exact .inr h2
  | .dict _ _, _, h => by
    obtain ⟨a, ys, h1, h2, h3, h4⟩ := h
    exact ⟨a, ys, h1, e _ _ h2, h3, Rps.mono e h4⟩
  | .exc _ _, _, h => by
    obtain ⟨a, dx, u, h1, h2, h3, h4⟩ := h
    exact ⟨a, dx, u, h1, e _ _ h2, e _ _ h3, Rp.mono e h4⟩
  | .ex0 _, _, h => by
    obtain ⟨a, h1, h2⟩ := h
    exact ⟨a, h1, e _ _ h2⟩
  | .scr _, _, h => by
    obtain ⟨a, h1, h2⟩ := h
    exact ⟨a, h1, e.seq h2⟩
theorem Rps.mono {K : PySem.W.Frag} {H H' : Hp} (e : Same H H') : ∀ {ds : List Dt} {vs : List V}, Rps K H ds vs → Rps K H' ds vs
  | [], _, h => h
  | _ :: _, _, h => by
    obtain ⟨x, r, h1, h2, h3⟩ := h
    exact ⟨x, r, h1, Rp.mono e h2, Rps.mono e h3⟩
end
theorem Rps.length {K : PySem.W.Frag} {H : Hp} : ∀ {ds : List Dt} {vs : List V}, Rps K H ds vs → vs.length = ds.length
  | [], _, h => by rw [show _ = [] from h]; rfl
  | _ :: _, _, h => by
    obtain ⟨x, r, h1, h2, h3⟩ := h
    rw [h1, List.length_cons, List.length_cons, Rps.length h3]
theorem Rps.get {K : PySem.W.Frag} {H : Hp} : ∀ {ds : List Dt} {vs : List V} {i : Nat} {v : V}, Rps K H ds vs → vs[i]? = some v → ∃ d, ds[i]? = some d ∧ Rp K H d v
  | [], _, _, _, h, e => by
    rw [show _ = [] from h] at e
    simp at e
  | _ :: _, _, i, v, h, e => by
    obtain ⟨x, r, h1, h2, h3⟩ := h
    subst h1
    cases i with
    | zero => simp at e; subst e; exact ⟨_, by simp, h2⟩
    | succ i => simp at e; obtain ⟨d, q1, q2⟩ := Rps.get h3 e; exact ⟨d, by simpa using q1, q2⟩
theorem Rps.get' {K : PySem.W.Frag} {H : Hp} : ∀ {ds : List Dt} {vs : List V} {i : Nat} {d : Dt}, Rps K H ds vs → ds[i]? = some d → ∃ v, vs[i]? = some v ∧ Rp K H d v
  | [], _, _, _, _, e => by simp at e
  | _ :: _, _, i, v, h, e => by
    obtain ⟨x, r, h1, h2, h3⟩ := h
    subst h1
    cases i with
    | zero => simp at e; subst e; exact ⟨_, by simp, h2⟩
    | succ i => simp at e; obtain ⟨d, q1, q2⟩ := Rps.get' h3 e; exact ⟨d, by simpa using q1, q2⟩
theorem Rps.append {K : PySem.W.Frag} {H : Hp} : ∀ {ds es : List Dt} {vs us : List V}, Rps K H ds vs → Rps K H es us → Rps K H (ds ++ es) (vs ++ us)
  | [], _, _, _, h, g => by rw [show _ = [] from h]; exact g
  | _ :: _, _, _, _, h, g => by
    obtain ⟨x, r, h1, h2, h3⟩ := h
    subst h1
    exact ⟨x, _, rfl, h2, Rps.append h3 g⟩
theorem Rps.take {K : PySem.W.Frag} {H : Hp} : ∀ (n : Nat) {ds : List Dt} {vs : List V}, Rps K H ds vs → Rps K H (ds.take n) (vs.take n)
  | 0, _, _, _ => by rw [List.take_zero, List.take_zero]; rfl
  | _ + 1, [], _, h => by rw [show _ = [] from h]; rfl
  | n + 1, _ :: _, _, h => by
    obtain ⟨x, r, h1, h2, h3⟩ := h
    subst h1
    exact ⟨x, _, rfl, h2, Rps.take n h3⟩
theorem Rps.drop {K : PySem.W.Frag} {H : Hp} : ∀ (n : Nat) {ds : List Dt} {vs : List V}, Rps K H ds vs → Rps K H (ds.drop n) (vs.drop n)
  | 0, _, _, h => h
  | _ + 1, [], _, h => by rw [show _ = [] from h]; rfl
  | n + 1, _ :: _, _, h => by
    obtain ⟨x, r, h1, h2, h3⟩ := h
    subst h1
    exact Rps.drop n h3
theorem Rps.set {K : PySem.W.Frag} {H : Hp} {d : Dt} {v : V} (q : Rp K H d v) : ∀ (n : Nat) {ds : List Dt} {vs : List V}, Rps K H ds vs → Rps K H (ds.set n d) (vs.set n v)
  | _, [], _, h => by rw [show _ = [] from h]; rfl
  | 0, _ :: _, _, h => by
    obtain ⟨x, r, h1, h2, h3⟩ := h
    subst h1
    exact ⟨v, _, rfl, q, h3⟩
  | n + 1, _ :: _, _, h => by
    obtain ⟨x, r, h1, h2, h3⟩ := h
    subst h1
    exact ⟨x, _, rfl, h2, Rps.set q n h3⟩
theorem Rps.ints {K : PySem.W.Frag} {H : Hp} : ∀ {ns : List Int} {vs : List V}, Rps K H (ns.map Dt.int) vs → vs = ns.map V.int
  | [], _, h => h
  | _ :: _, _, h => by
    obtain ⟨x, r, h1, h2, h3⟩ := h
    rw [h1, show x = _ from h2, Rps.ints h3]; rfl
theorem Rps.of_ints {K : PySem.W.Frag} {H : Hp} : ∀ (ns : List Int), Rps K H (ns.map Dt.int) (ns.map V.int)
  | [] => rfl
  | _ :: r => ⟨_, _, rfl, rfl, Rps.of_ints r⟩
end L2.DL
set_option maxHeartbeats 4000000
namespace L2.DL
open PySem PySem.Spec PyProof.Rows

/-- what a name or an item holds: data, or a list of the def's own that changes -/
inductive AV where
  | d (x : Dt)
  | l (a : Addr)
inductive MO where
  | lst (xs : List AV)
abbrev Mu := Addr → Option MO
abbrev Rho := List (Option AV)

def Av (K : PySem.W.Frag) (F : Hp) : AV → V → Prop
  | .d x, v => Rp K F x v
  | .l a, v => v = .ref a
def Avs (K : PySem.W.Frag) (F : Hp) : List AV → List V → Prop
  | [], vs => vs = []
  | x :: xs, vs => ∃ v r, vs = v :: r ∧ Av K F x v ∧ Avs K F xs r
theorem Av.mono {K : PySem.W.Frag} {F F' : Hp} (e : Same F F') {x : AV} {v : V} (h : Av K F x v) : Av K F' x v := by
  cases x with
  | d x => exact Rp.mono e h
  | l a => exact h
theorem Avs.mono {K : PySem.W.Frag} {F F' : Hp} (e : Same F F') : ∀ {xs : List AV} {vs : List V}, Avs K F xs vs → Avs K F' xs vs
  | [], _, h => h
  | _ :: _, _, h => by
    obtain ⟨v, r, h1, h2, h3⟩ := h
    exact ⟨v, r, h1, h2.mono e, Avs.mono e h3⟩
theorem Avs.length {K : PySem.W.Frag} {F : Hp} : ∀ {xs : List AV} {vs : List V}, Avs K F xs vs → vs.length = xs.length
  | [], _, h => by rw [show _ = [] from h]; rfl
  | _ :: _, _, h => by
    obtain ⟨v, r, h1, h2, h3⟩ := h
    rw [h1, List.length_cons, List.length_cons, Avs.length h3]
theorem Avs.append {K : PySem.W.Frag} {F : Hp} : ∀ {xs ys : List AV} {vs us : List V}, Avs K F xs vs → Avs K F ys us → Avs K F (xs ++ ys) (vs ++ us)
  | [], _, _, _, h, g => by rw [show _ = [] from h]; exact g
  | _ :: _, _, _, _, h, g => by
    obtain ⟨v, r, h1, h2, h3⟩ := h
    subst h1
    exact ⟨v, _, rfl, h2, Avs.append h3 g⟩
theorem Avs.get {K : PySem.W.Frag} {F : Hp} : ∀ {xs : List AV} {vs : List V} {i : Nat} {x : AV}, Avs K F xs vs → xs[i]? = some x → ∃ v, vs[i]? = some v ∧ Av K F x v
  | [], _, _, _, _, e => by simp at e
  | _ :: _, _, i, x, h, e => by
    obtain ⟨v, r, h1, h2, h3⟩ := h
    subst h1
    cases i with
    | zero => simp at e; subst e; exact ⟨_, by simp, h2⟩
    | succ i => simp at e; obtain ⟨d, q1, q2⟩ := Avs.get h3 e; exact ⟨d, by simpa using q1, q2⟩
theorem Avs.dropLast {K : PySem.W.Frag} {F : Hp} {xs : List AV} {vs : List V} (h : Avs K F xs vs) : Avs K F xs.dropLast vs.dropLast := by
  induction xs generalizing vs with
  | nil => rw [show vs = [] from h]; rfl
  | cons x xs ih =>
    obtain ⟨v, r, h1, h2, h3⟩ := h
    subst h1
    cases xs with
    | nil => rw [show r = [] from h3]; rfl
    | cons y ys =>
      obtain ⟨u, t, g1, g2, g3⟩ := id h3
      subst g1
      exact ⟨v, _, rfl, h2, ih h3⟩
theorem Avs.set {K : PySem.W.Frag} {F : Hp} {x : AV} {v : V} (q : Av K F x v) : ∀ (n : Nat) {xs : List AV} {vs : List V}, Avs K F xs vs → Avs K F (xs.set n x) (vs.set n v)
  | _, [], _, h => by rw [show _ = [] from h]; rfl
  | 0, _ :: _, _, h => by
    obtain ⟨u, r, h1, h2, h3⟩ := h
    subst h1
    exact ⟨v, _, rfl, q, h3⟩
  | n + 1, _ :: _, _, h => by
    obtain ⟨u, r, h1, h2, h3⟩ := h
    subst h1
    exact ⟨u, _, rfl, h2, Avs.set q n h3⟩
theorem Avs.of_rps {K : PySem.W.Frag} {F : Hp} : ∀ {ds : List Dt} {vs : List V}, Rps K F ds vs → Avs K F (ds.map AV.d) vs
  | [], _, h => h
  | _ :: _, _, h => by
    obtain ⟨x, r, h1, h2, h3⟩ := h
    exact ⟨x, r, h1, h2, Avs.of_rps h3⟩
theorem Avs.rps {K : PySem.W.Frag} {F : Hp} : ∀ {ds : List Dt} {vs : List V}, Avs K F (ds.map AV.d) vs → Rps K F ds vs
  | [], _, h => h
  | _ :: _, _, h => by
    obtain ⟨x, r, h1, h2, h3⟩ := h
    exact ⟨x, r, h1, h2, Avs.rps h3⟩

def Mh (K : PySem.W.Frag) (F H : Hp) (p : Addr) : MO → Prop
  | .lst xs => ∃ vs, H p = some (.lst vs) ∧ Avs K F xs vs
/-- F: what stands for good; μ: what the def may change -/
structure Holds (K : PySem.W.Frag) (F : Hp) (μ : Mu) (H : Hp) : Prop where
  ex : Same F H
  mu : ∀ p o, μ p = some o → F p = none ∧ Mh K F H p o
def upM (μ : Mu) (p : Addr) (o : MO) : Mu := fun q => if q = p then some o else μ q
theorem upM_same {μ : Mu} {p : Addr} {o : MO} : upM μ p o p = some o := if_pos rfl
theorem upM_ne {μ : Mu} {p q : Addr} {o : MO} (h : q ≠ p) : upM μ p o q = μ q := if_neg h
theorem upM_upM {μ : Mu} {p : Addr} {o u : MO} : upM (upM μ p o) p u = upM μ p u := by
  funext q; unfold upM; split <;> rfl
theorem upM_self {μ : Mu} {p : Addr} {o : MO} (h : μ p = some o) : upM μ p o = μ := by
  funext q; unfold upM; split
  · rename_i e; rw [e, h]
  · rfl
def SubM (μ μ' : Mu) : Prop := ∀ p o, μ p = some o → μ' p = some o
theorem SubM.refl (μ : Mu) : SubM μ μ := fun _ _ h => h
theorem SubM.trans {a b c : Mu} (h : SubM a b) (g : SubM b c) : SubM a c := fun p o e => g p o (h p o e)
theorem SubM.up {μ : Mu} {p : Addr} {o : MO} (h : μ p = none) : SubM μ (upM μ p o) := fun q u e => by
  have n : q ≠ p := fun z => by rw [z, h] at e; cases e
  rw [upM_ne n]; exact e
theorem Holds.sub {K : PySem.W.Frag} {F H : Hp} {μ μ' : Mu} (h : Holds K F μ' H) (s : SubM μ μ') : Holds K F μ H := ⟨h.ex, fun p o e => h.mu p o (s p o e)⟩

theorem Mh.mono {K : PySem.W.Frag} {F F' H : Hp} {p : Addr} {o : MO} (e : Same F F') (h : Mh K F H p o) : Mh K F' H p o := by
  cases o with
  | lst xs => obtain ⟨vs, h1, h2⟩ := h; exact ⟨vs, h1, h2.mono e⟩
theorem Mh.some {K : PySem.W.Frag} {F H : Hp} {p : Addr} {o : MO} (h : Mh K F H p o) : ∃ u, H p = some u := by
  cases o with
  | lst xs => obtain ⟨vs, h1, h2⟩ := h; exact ⟨_, h1⟩
theorem Mh.at {K : PySem.W.Frag} {F H H' : Hp} {p : Addr} {o : MO} (h : Mh K F H p o) (e : H' p = H p) : Mh K F H' p o := by
  cases o with
  | lst xs => obtain ⟨vs, h1, h2⟩ := h; exact ⟨vs, e.trans h1, h2⟩
/-- a new object for good -/
theorem Holds.new {K : PySem.W.Frag} {F H : Hp} {μ : Mu} {p : Addr} {o : HO} (h : Holds K F μ H) (n : H p = none) : Holds K (upd F p o) μ (upd H p o) := by
  refine ⟨fun a u e => ?_, fun q u e => ?_⟩
  · by_cases z : a = p
    · subst z; rw [upd_same] at e ⊢; exact e
    · rw [upd_ne z] at e ⊢; exact h.ex a u e
  · obtain ⟨h1, h2⟩ := h.mu q u e
    obtain ⟨v, hv⟩ := h2.some
    have nq : q ≠ p := fun z => by rw [z, n] at hv; cases hv
    have fn : F p = none := by
      cases z : F p with
      | none => rfl
      | some w => rw [h.ex _ _ z] at n; cases n
    refine ⟨by rw [upd_ne nq]; exact h1, (h2.mono (F' := upd F p o) fun a w e => ?_).at (upd_ne nq)⟩
    rw [upd_ne (ne_of_none e fn)]; exact e
theorem Holds.fnone {K : PySem.W.Frag} {F H : Hp} {μ : Mu} {p : Addr} (h : Holds K F μ H) (n : H p = none) : F p = none := by
  cases z : F p with
  | none => rfl
  | some w => rw [h.ex _ _ z] at n; cases n
theorem Holds.mnone {K : PySem.W.Frag} {F H : Hp} {μ : Mu} {p : Addr} (h : Holds K F μ H) (n : H p = none) : μ p = none := by
  cases z : μ p with
  | none => rfl
  | some w => obtain ⟨_, h2⟩ := h.mu _ _ z; obtain ⟨v, hv⟩ := h2.some; rw [hv] at n; cases n
theorem same_new {F : Hp} {p : Addr} {o : HO} (n : F p = none) : Same F (upd F p o) := fun a w e => by
  rw [upd_ne (ne_of_none e n)]; exact e
/-- a new list of one's own -/
theorem Holds.own {K : PySem.W.Frag} {F H : Hp} {μ : Mu} {p : Addr} {xs : List AV} {vs : List V} (h : Holds K F μ H) (n : H p = none) (a : Avs K F xs vs) : Holds K F (upM μ p (.lst xs)) (upd H p (.lst vs)) := by
  refine ⟨fun b u e => ?_, fun q u e => ?_⟩
  · rw [upd_ne (ne_of_none e (h.fnone n))]; exact h.ex b u e
  · by_cases z : q = p
    · subst z
      rw [upM_same] at e; cases e
      exact ⟨h.fnone n, vs, upd_same, a⟩
    · rw [upM_ne z] at e
      obtain ⟨h1, h2⟩ := h.mu q u e
      exact ⟨h1, h2.at (upd_ne z)⟩
/-- a list of one's own is changed -/
theorem Holds.put {K : PySem.W.Frag} {F H : Hp} {μ : Mu} {p : Addr} {o : MO} {xs : List AV} {vs : List V} (h : Holds K F μ H) (m : μ p = some o) (a : Avs K F xs vs) : Holds K F (upM μ p (.lst xs)) (upd H p (.lst vs)) := by
  obtain ⟨f0, _⟩ := h.mu p o m
  refine ⟨fun b u e => ?_, fun q u e => ?_⟩
  · rw [upd_ne (ne_of_none e f0)]; exact h.ex b u e
  · by_cases z : q = p
    · subst z
      rw [upM_same] at e; cases e
      exact ⟨f0, vs, upd_same, a⟩
    · rw [upM_ne z] at e
      obtain ⟨h1, h2⟩ := h.mu q u e
      exact ⟨h1, h2.at (upd_ne z)⟩
/-- a list of one's own, whose items are data, is made one for good -/
theorem Holds.freeze {K : PySem.W.Frag} {F H : Hp} {μ μ' : Mu} {p : Addr} {ds : List Dt} (h : Holds K F μ H) (m : μ p = some (.lst (ds.map AV.d))) (s : ∀ q o, μ' q = some o → μ q = some o ∧ q ≠ p) :
    ∃ F', Same F F' ∧ Holds K F' μ' H ∧ Rp K F' (.lst ds) (.ref p) := by
  obtain ⟨f0, vs, hv, av⟩ := h.mu p _ m
  refine ⟨upd F p (.lst vs), same_new f0, ⟨fun a u e => ?_, fun q u e => ?_⟩, p, vs, rfl, upd_same, Rps.mono (same_new f0) av.rps⟩
  · by_cases z : a = p
    · subst z; rw [upd_same] at e; cases e; exact hv
    · rw [upd_ne z] at e; exact h.ex a u e
  · obtain ⟨e1, n⟩ := s q u e
    obtain ⟨h1, h2⟩ := h.mu q u e1
    exact ⟨by rw [upd_ne n]; exact h1, h2.mono (same_new f0)⟩

/-- the names' slots -/
def Sl (K : PySem.W.Frag) (F : Hp) (ρ : Rho) (σ : St) : Prop := ρ.length = σ.length ∧ ∀ (i : Nat) (x : AV), ρ[i]? = some (some x) → ∃ v, σ[i]? = some (some v) ∧ Av K F x v
theorem Sl.mono {K : PySem.W.Frag} {F F' : Hp} (e : Same F F') {ρ : Rho} {σ : St} (h : Sl K F ρ σ) : Sl K F' ρ σ := ⟨h.1, fun i x q => by
  obtain ⟨v, h1, h2⟩ := h.2 i x q
  exact ⟨v, h1, h2.mono e⟩⟩
theorem Sl.set {K : PySem.W.Frag} {F : Hp} {ρ : Rho} {σ : St} {x : AV} {v : V} (h : Sl K F ρ σ) (i : Nat) (a : Av K F x v) : Sl K F (ρ.set i (some x)) (σ.set i (some v)) := by
  refine ⟨by rw [List.length_set, List.length_set]; exact h.1, fun j y e => ?_⟩
  by_cases z : i = j
  · subst z
    by_cases l : i < ρ.length
    · rw [List.getElem?_set_self l] at e
      cases e
      exact ⟨v, List.getElem?_set_self (by rw [← h.1]; exact l), a⟩
    · rw [List.getElem?_eq_none (by rw [List.length_set]; omega)] at e; cases e
  · rw [List.getElem?_set_ne z] at e ⊢
    exact h.2 j y e
theorem Sl.unset {K : PySem.W.Frag} {F : Hp} {ρ : Rho} {σ : St} {o : Option V} (h : Sl K F ρ σ) (i : Nat) : Sl K F (ρ.set i none) (σ.set i o) := by
  refine ⟨by rw [List.length_set, List.length_set]; exact h.1, fun j y e => ?_⟩
  by_cases z : i = j
  · subst z
    by_cases l : i < ρ.length
    · rw [List.getElem?_set_self l] at e
      cases e
    · rw [List.getElem?_eq_none (by rw [List.length_set]; omega)] at e; cases e
  · rw [List.getElem?_set_ne z] at e ⊢
    exact h.2 j y e
/-- ρ' knows less -/
def Less (ρ' ρ : Rho) : Prop := ρ'.length = ρ.length ∧ ∀ (i : Nat) (x : AV), ρ'[i]? = some (some x) → ρ[i]? = some (some x)
theorem Sl.less {K : PySem.W.Frag} {F : Hp} {ρ ρ' : Rho} {σ : St} (h : Sl K F ρ σ) (l : Less ρ' ρ) : Sl K F ρ' σ := ⟨l.1.trans h.1, fun i x e => h.2 i x (l.2 i x e)⟩

/-! ### judgements -/
inductive ERes where
  | ok (x : AV) (μ : Mu)
  | exc (c : Addr) (x : Dt) (μ : Mu)
  /-- a new list of one's own, anywhere -/
  | new (xs : List AV) (μ : Mu)
def rdE (X : Cx) (e : Expr) : TE := fun σ H Q => ∀ (pins : List (Addr × Obj)) (s : Shared), Inv X pins σ H s → wpAny (model X.prog X.w) X.A (eval e X.env) (EP X pins σ Q) X.xe s
def rdT (X : Cx) (e : Expr) : TT := fun σ H Q => ∀ (pins : List (Addr × Obj)) (s : Shared), Inv X pins σ H s → wpAny (model X.prog X.w) X.A (isTrue e X.env (eval e X.env)) (TP X pins σ Q) X.xe s
def rdW (X : Cx) (e : Expr) : TT := fun σ H Q => ∀ (whole : Sem Value) (pins : List (Addr × Obj)) (s : Shared), Inv X pins σ H s → wpAny (model X.prog X.w) X.A (isTrue e X.env whole) (TP X pins σ Q) X.xe s
def rdA (X : Cx) (es : List Expr) : TA := fun σ H Q => ∀ (pos : Pos) (pins : List (Addr × Obj)) (s : Shared), Inv X pins σ H s → wpAny (model X.prog X.w) X.A (spliced (backTo pos (starEach es X.env))) (AP X pins σ Q) X.xe s
def rdK (X : Cx) (es : List Keyword) : TA := fun σ H Q => ∀ (pos : Pos) (pins : List (Addr × Obj)) (s : Shared), Inv X pins σ H s → wpAny (model X.prog X.w) X.A (evalAll ((backToKw pos (keywordEach es X.env)).map (·.2))) (AP X pins σ Q) X.xe s
def rdS (X : Cx) (sts : List Stmt) : TS := fun D σ H => ∀ (pins : List (Addr × Obj)) (s : Shared), Inv X pins σ H s → wpAny (model X.prog X.w) X.A (execs sts X.env) (SP X pins D) X.xe s
theorem pe_rd {X : Cx} {e : Expr} : PE X e (rdE X e) := ⟨fun pins s _ _ _ I h => h pins s I⟩
theorem pt_rd {X : Cx} {e : Expr} : PT X e (rdT X e) := ⟨fun pins s _ _ _ I h => h pins s I⟩
theorem pw_rd {X : Cx} {e : Expr} : PW X e (rdW X e) := ⟨fun w pins s _ _ _ I h => h w pins s I⟩
theorem pa_rd {X : Cx} {es : List Expr} : PA X es (rdA X es) := ⟨fun pos pins s _ _ _ I h => h pos pins s I⟩
theorem pk_rd {X : Cx} {es : List Keyword} : PK X es (rdK X es) := ⟨fun pos pins s _ _ _ I h => h pos pins s I⟩
theorem pss_rd {X : Cx} {sts : List Stmt} : PSs X sts (rdS X sts) := ⟨fun pins s _ _ _ I h => h pins s I⟩

/-- what is to follow -/
def LkE (K : PySem.W.Frag) (F : Hp) (σ : St) (Q : VK) (W : WX) : ERes → Prop
  | .ok x μ' => ∀ (F' H' : Hp) (v : V), Same F F' → Holds K F' μ' H' → Av K F' x v → Q v H'
  | .exc c x μ' => ∀ (F' H' : Hp) (dd : Addr) (u : V), Same F F' → Holds K F' μ' H' → F' dd = some (.xd [("value", u)]) → Rp K F' x u → W (.ref c) (some dd) σ H'
  | .new xs μ' => ∀ (F' H' : Hp) (p : Addr), Same F F' → F' p = none → μ' p = none → Holds K F' (upM μ' p (.lst xs)) H' → Q (.ref p) H'
def AE (X : Cx) (e : Expr) (ρ : Rho) (μ : Mu) (o : ERes) : Prop :=
  ∀ (F H : Hp) (σ : St), Sl X.K F ρ σ → Holds X.K F μ H → ∀ (Q : VK) (W : WX), Takes X W → LkE X.K F σ Q W o → rdE X e σ H Q
theorem AE.of {X : Cx} {e : Expr} {ρ : Rho} {μ : Mu} {o : ERes} {t : TE} (p : PE X e t)
    (h : ∀ (F H : Hp) (σ : St), Sl X.K F ρ σ → Holds X.K F μ H → ∀ (Q : VK) (W : WX), Takes X W → LkE X.K F σ Q W o → t σ H Q) : AE X e ρ μ o :=
  fun F H σ hs hh Q W tk q pins s I => p.run pins s σ H Q I (h F H σ hs hh Q W tk q)
/-- the same for a reading chosen by the wish -/
theorem AE.of2 {X : Cx} {e : Expr} {ρ : Rho} {μ : Mu} {o : ERes}
    (h : ∀ (F H : Hp) (σ : St), Sl X.K F ρ σ → Holds X.K F μ H → ∀ (Q : VK) (W : WX), Takes X W → LkE X.K F σ Q W o → ∃ t, PE X e t ∧ t σ H Q) : AE X e ρ μ o :=
  fun F H σ hs hh Q W tk q pins s I => by
    obtain ⟨t, p, z⟩ := h F H σ hs hh Q W tk q
    exact p.run pins s σ H Q I z
theorem AE.go {X : Cx} {e : Expr} {ρ : Rho} {μ μ' : Mu} {x : AV} (h : AE X e ρ μ (.ok x μ')) {F H : Hp} {σ : St} (hs : Sl X.K F ρ σ) (hh : Holds X.K F μ H) {Q : VK} {W : WX} (tk : Takes X W)
    (q : ∀ (F' H' : Hp) (v : V), Same F F' → Holds X.K F' μ' H' → Av X.K F' x v → Q v H') : rdE X e σ H Q := h F H σ hs hh Q W tk q
theorem AE.goX {X : Cx} {e : Expr} {ρ : Rho} {μ μ' : Mu} {c : Addr} {x : Dt} (h : AE X e ρ μ (.exc c x μ')) {F H : Hp} {σ : St} (hs : Sl X.K F ρ σ) (hh : Holds X.K F μ H) {Q : VK} {W : WX} (tk : Takes X W)
    (q : ∀ (F' H' : Hp) (dd : Addr) (u : V), Same F F' → Holds X.K F' μ' H' → F' dd = some (.xd [("value", u)]) → Rp X.K F' x u → W (.ref c) (some dd) σ H') : rdE X e σ H Q := h F H σ hs hh Q W tk q
theorem AE.goN {X : Cx} {e : Expr} {ρ : Rho} {μ μ' : Mu} {xs : List AV} (h : AE X e ρ μ (.new xs μ')) {F H : Hp} {σ : St} (hs : Sl X.K F ρ σ) (hh : Holds X.K F μ H) {Q : VK} {W : WX} (tk : Takes X W)
    (q : ∀ (F' H' : Hp) (p : Addr), Same F F' → F' p = none → μ' p = none → Holds X.K F' (upM μ' p (.lst xs)) H' → Q (.ref p) H') : rdE X e σ H Q := h F H σ hs hh Q W tk q
/-- it may be kept as data -/
theorem AE.frz {X : Cx} {e : Expr} {ρ : Rho} {μ μ' : Mu} {ds : List Dt} (h : AE X e ρ μ (.new (ds.map AV.d) μ')) : AE X e ρ μ (.ok (.d (.lst ds)) μ') := fun F H σ hs hh Q W tk q => h.goN hs hh tk fun F' H' p s f0 m0 h' => by
  obtain ⟨F2, s2, h2, r2⟩ := h'.freeze (μ' := μ') (p := p) (ds := ds) upM_same fun r o e => by
    have n : r ≠ p := fun z => by rw [z, m0] at e; cases e
    exact ⟨by rw [upM_ne n]; exact e, n⟩
  exact q F2 H' _ (s.trans s2) h2 r2
/-- tests; c: none where an exception comes -/
inductive TRes where
  | ok (b : Bool) (μ : Mu)
  | exc (c : Addr) (x : Dt) (μ : Mu)
def LkT (K : PySem.W.Frag) (F : Hp) (σ : St) (Q : Bool → Hp → Prop) (W : WX) : TRes → Prop
  | .ok b μ' => ∀ (F' H' : Hp), Same F F' → Holds K F' μ' H' → Q b H'
  | .exc c x μ' => ∀ (F' H' : Hp) (dd : Addr) (u : V), Same F F' → Holds K F' μ' H' → F' dd = some (.xd [("value", u)]) → Rp K F' x u → W (.ref c) (some dd) σ H'
def AT (X : Cx) (e : Expr) (ρ : Rho) (μ : Mu) (o : TRes) : Prop :=
  ∀ (F H : Hp) (σ : St), Sl X.K F ρ σ → Holds X.K F μ H → ∀ (Q : Bool → Hp → Prop) (W : WX), Takes X W → LkT X.K F σ Q W o → rdT X e σ H Q
def AW (X : Cx) (e : Expr) (ρ : Rho) (μ : Mu) (o : TRes) : Prop :=
  ∀ (F H : Hp) (σ : St), Sl X.K F ρ σ → Holds X.K F μ H → ∀ (Q : Bool → Hp → Prop) (W : WX), Takes X W → LkT X.K F σ Q W o → rdW X e σ H Q
theorem AT.of {X : Cx} {e : Expr} {ρ : Rho} {μ : Mu} {o : TRes} {t : TT} (p : PT X e t)
    (h : ∀ (F H : Hp) (σ : St), Sl X.K F ρ σ → Holds X.K F μ H → ∀ (Q : Bool → Hp → Prop) (W : WX), Takes X W → LkT X.K F σ Q W o → t σ H Q) : AT X e ρ μ o :=
  fun F H σ hs hh Q W tk q pins s I => p.run pins s σ H Q I (h F H σ hs hh Q W tk q)
theorem AW.of {X : Cx} {e : Expr} {ρ : Rho} {μ : Mu} {o : TRes} {t : TT} (p : PW X e t)
    (h : ∀ (F H : Hp) (σ : St), Sl X.K F ρ σ → Holds X.K F μ H → ∀ (Q : Bool → Hp → Prop) (W : WX), Takes X W → LkT X.K F σ Q W o → t σ H Q) : AW X e ρ μ o :=
  fun F H σ hs hh Q W tk q w pins s I => p.run w pins s σ H Q I (h F H σ hs hh Q W tk q)
theorem AW.at {X : Cx} {e : Expr} {ρ : Rho} {μ : Mu} {o : TRes} (h : AW X e ρ μ o) : AT X e ρ μ o := fun F H σ hs hh Q W tk q pins s I => h F H σ hs hh Q W tk q _ pins s I
/-- argument lists -/
inductive ARes where
  | ok (xs : List AV) (μ : Mu)
  | exc (c : Addr) (x : Dt) (μ : Mu)
def LkA (K : PySem.W.Frag) (F : Hp) (σ : St) (Q : List V → Hp → Prop) (W : WX) : ARes → Prop
  | .ok xs μ' => ∀ (F' H' : Hp) (vs : List V), Same F F' → Holds K F' μ' H' → Avs K F' xs vs → Q vs H'
  | .exc c x μ' => ∀ (F' H' : Hp) (dd : Addr) (u : V), Same F F' → Holds K F' μ' H' → F' dd = some (.xd [("value", u)]) → Rp K F' x u → W (.ref c) (some dd) σ H'
def AA (X : Cx) (es : List Expr) (ρ : Rho) (μ : Mu) (o : ARes) : Prop :=
  ∀ (F H : Hp) (σ : St), Sl X.K F ρ σ → Holds X.K F μ H → ∀ (Q : List V → Hp → Prop) (W : WX), Takes X W → LkA X.K F σ Q W o → rdA X es σ H Q
def AK (X : Cx) (es : List Keyword) (ρ : Rho) (μ : Mu) (o : ARes) : Prop :=
  ∀ (F H : Hp) (σ : St), Sl X.K F ρ σ → Holds X.K F μ H → ∀ (Q : List V → Hp → Prop) (W : WX), Takes X W → LkA X.K F σ Q W o → rdK X es σ H Q

/-- statements: what holds behind -/
structure Rs where
  nx : Rho → Mu → Prop := fun _ _ => False
  rt : AV → Mu → Prop := fun _ _ => False
  bk : Rho → Mu → Prop := fun _ _ => False
  ct : Rho → Mu → Prop := fun _ _ => False
  ex : Rho → Addr → Dt → Mu → Prop := fun _ _ _ _ => False
structure Lk (K : PySem.W.Frag) (F : Hp) (R : Rs) (D : Ends) (W : WX) : Prop where
  nx : ∀ (F' H' : Hp) (σ' : St) (ρ' : Rho) (μ' : Mu), Same F F' → R.nx ρ' μ' → Sl K F' ρ' σ' → Holds K F' μ' H' → D.nx σ' H'
  rt : ∀ (F' H' : Hp) (v : V) (x : AV) (μ' : Mu), Same F F' → R.rt x μ' → Holds K F' μ' H' → Av K F' x v → D.rt v H'
  bk : ∀ (F' H' : Hp) (σ' : St) (ρ' : Rho) (μ' : Mu), Same F F' → R.bk ρ' μ' → Sl K F' ρ' σ' → Holds K F' μ' H' → D.bk σ' H'
  ct : ∀ (F' H' : Hp) (σ' : St) (ρ' : Rho) (μ' : Mu), Same F F' → R.ct ρ' μ' → Sl K F' ρ' σ' → Holds K F' μ' H' → D.ct σ' H'
  ex : ∀ (F' H' : Hp) (σ' : St) (ρ' : Rho) (c : Addr) (x : Dt) (μ' : Mu) (dd : Addr) (u : V), Same F F' → R.ex ρ' c x μ' → Sl K F' ρ' σ' → Holds K F' μ' H' → F' dd = some (.xd [("value", u)]) → Rp K F' x u → W (.ref c) (some dd) σ' H'
theorem Lk.mono {K : PySem.W.Frag} {F F1 : Hp} {R : Rs} {D : Ends} {W : WX} (h : Lk K F R D W) (e : Same F F1) : Lk K F1 R D W :=
  ⟨fun F' H' σ' ρ' μ' s => h.nx F' H' σ' ρ' μ' (e.trans s), fun F' H' v x μ' s => h.rt F' H' v x μ' (e.trans s), fun F' H' σ' ρ' μ' s => h.bk F' H' σ' ρ' μ' (e.trans s),
    fun F' H' σ' ρ' μ' s => h.ct F' H' σ' ρ' μ' (e.trans s), fun F' H' σ' ρ' c x μ' dd u s => h.ex F' H' σ' ρ' c x μ' dd u (e.trans s)⟩
def AS (X : Cx) (sts : List Stmt) (ρ : Rho) (μ : Mu) (R : Rs) : Prop :=
  ∀ (F H : Hp) (σ : St), Sl X.K F ρ σ → Holds X.K F μ H → ∀ (D : Ends) (W : WX), Takes X W → Lk X.K F R D W → rdS X sts D σ H
end L2.DL
set_option maxHeartbeats 4000000
namespace L2.DL
open PySem PySem.Spec PyProof.Rows

/-- a text by its signs -/
abbrev S (l : List Nat) : Str := ⟨l.toArray⟩
theorem S_cps (l : List Nat) : (S l).cps.toList = l := by simp
theorem S_len (l : List Nat) : (S l).length = l.length := by show (S l).cps.size = _; simp
theorem S_of (x : Str) : S x.cps.toList = x := by cases x; simp [S]
theorem S_app (a b : List Nat) : S a ++ S b = S (a ++ b) := by
  show Str.append _ _ = _
  simp [Str.append, S]

/-! ### data that == and repr look at -/
mutual
def py : Dt → PyData
  | .non => .none
  | .bl b => .bool b
  | .int i => .int i
  | .str l => .str (S l)
  | .lst ds => .list (pys ds)
  | .tup ds => .tuple (pys ds)
  | .opq _ | .dict _ _ | .exc _ _ | .ex0 _ | .scr _ => .none
def pys : List Dt → List PyData
  | [] => []
  | d :: ds => py d :: pys ds
end
mutual
/-- no dict, no exception within; the signs are signs -/
def plainD : Dt → Bool
  | .non | .bl _ | .int _ => true
  | .str l => l.all (· < 0x110000)
  | .lst ds => plainDs ds
  | .tup ds => plainDs ds
  | .opq _ | .dict _ _ | .exc _ _ | .ex0 _ | .scr _ => false
def plainDs : List Dt → Bool
  | [] => true
  | d :: ds => plainD d && plainDs ds
end
mutual
theorem Rp.dp {K : PySem.W.Frag} {H : Hp} : ∀ {d : Dt} {v : V}, Rp K H d v → plainD d = true → Dp K H v (py d)
  | .non, _, h, _ => by rw [show _ = V.non from h]; exact .non
  | .bl _, _, h, _ => by rw [show _ = V.bl _ from h]; exact .bl _
  | .int _, _, h, _ => by rw [show _ = V.int _ from h]; exact .int _
  | .str _, _, h, _ => by rw [show _ = V.str _ from h]; exact .str _
  | .lst _, _, h, p => by
    obtain ⟨a, xs, h1, h2, h3⟩ := h
    rw [h1]
    exact .lst (SqL.of h2) (Rps.dp h3 p)
  | .tup _, _, h, p => by
    obtain ⟨a, xs, h1, h2, h3⟩ := h
    rw [h1]
    exact .tup h2 (Rps.dp h3 p)
  | .opq _, _, _, p => by cases p
  | .dict _ _, _, _, p => by cases p
  | .exc _ _, _, _, p => by cases p
  | .ex0 _, _, _, p => by cases p
  | .scr _, _, _, p => by cases p
theorem Rps.dp {K : PySem.W.Frag} {H : Hp} : ∀ {ds : List Dt} {vs : List V}, Rps K H ds vs → plainDs ds = true → DpAll K H vs (pys ds)
  | [], _, h, _ => by rw [show _ = [] from h]; exact .nil
  | _ :: _, _, h, p => by
    obtain ⟨x, r, h1, h2, h3⟩ := h
    rw [h1]
    obtain ⟨p1, p2⟩ := Bool.and_eq_true_iff.mp p
    exact .cons (Rp.dp h2 p1) (Rps.dp h3 p2)
end
mutual
theorem canLay_of : ∀ {d : Dt}, plainD d = true → (py d).canLay0 = true
  | .non, _ => rfl
  | .bl _, _ => rfl
  | .int _, _ => rfl
  | .str l, p => by
    show (S l).cps.all (· < 0x110000) = true
    have p' : l.all (· < 0x110000) = true := p
    simpa [S] using p'
  | .lst _, p => canLays_of p
  | .tup _, p => canLays_of p
  | .opq _, p => by cases p
  | .dict _ _, p => by cases p
  | .exc _ _, p => by cases p
  | .ex0 _, p => by cases p
  | .scr _, p => by cases p
theorem canLays_of : ∀ {ds : List Dt}, plainDs ds = true → PyData.canLayAll0 (pys ds) = true
  | [], _ => rfl
  | _ :: _, p => by
    obtain ⟨p1, p2⟩ := Bool.and_eq_true_iff.mp p
    exact Bool.and_eq_true_iff.mpr ⟨canLay_of p1, canLays_of p2⟩
end
mutual
def depD : Dt → Nat
  | .lst ds => depDs ds + 1
  | .tup ds => depDs ds + 1
  | _ => 0
def depDs : List Dt → Nat
  | [] => 0
  | d :: ds => max (depD d) (depDs ds)
end
mutual
theorem depth_py : ∀ (d : Dt), (py d).depth ≤ depD d
  | .non => Nat.le_refl _
  | .bl _ => Nat.le_refl _
  | .int _ => Nat.le_refl _
  | .str _ => Nat.le_refl _
  | .lst ds => Nat.succ_le_succ (depth_pys ds)
  | .tup ds => Nat.succ_le_succ (depth_pys ds)
  | .opq _ => Nat.le_refl _
  | .dict _ _ => Nat.le_refl _
  | .exc _ _ => Nat.le_refl _
  | .ex0 _ => Nat.le_refl _
  | .scr _ => Nat.le_refl _
theorem depth_pys : ∀ (ds : List Dt), PyData.depthAll (pys ds) ≤ depDs ds
  | [] => Nat.le_refl _
  | d :: ds => by
    have h1 := depth_py d
    have h2 := depth_pys ds
    show max (py d).depth (PyData.depthAll (pys ds)) ≤ max (depD d) (depDs ds)
    omega
end
/-- may be compared and shown -/
def okD (d : Dt) : Bool := plainD d && decide (depD d ≤ 60)
theorem okD.shaped {d : Dt} (h : okD d = true) : SeqAt.shaped (py d) = true := by
  obtain ⟨h1, h2⟩ := Bool.and_eq_true_iff.mp h
  have := depth_py d
  exact Bool.and_eq_true_iff.mpr ⟨canLay_of h1, decide_eq_true (by have := of_decide_eq_true h2; omega)⟩
theorem okD.plain {d : Dt} (h : okD d = true) : plainD d = true := (Bool.and_eq_true_iff.mp h).1
def eqD (a b : Dt) : Bool := PyData.eqv (py a) (py b)

/-! ### operators by values -/
def BR (K : PySem.W.Frag) (r : R2) (x y : AV) (μ : Mu) (z : AV) (μ' : Mu) : Prop :=
  ∀ (F H : Hp) (u v : V) (Q : VK), Holds K F μ H → Av K F x u → Av K F y v → (∀ (F' H' : Hp) (w : V), Same F F' → Holds K F' μ' H' → Av K F' z w → Q w H') → r u v H Q
section
variable {K : PySem.W.Frag} {μ : Mu} {r : R2}
theorem br_val {x y z : AV} (h : ∀ (F H : Hp) (u v : V), Holds K F μ H → Av K F x u → Av K F y v → ∃ w, Av K F z w ∧ ∀ Q : VK, Q w H → r u v H Q) : BR K r x y μ z μ := by
  intro F H u v Q hh a1 a2 q
  obtain ⟨w, aw, k⟩ := h F H u v hh a1 a2
  exact k Q (q F H w (Same.refl _) hh aw)
theorem br_I0 {g : Int → Int → V} {i j : Int} {d : Dt} (hd : ∀ F, Rp K F d (g i j)) : BR K (rI0 g) (.d (.int i)) (.d (.int j)) μ (.d d) μ :=
  br_val fun F H u v _ a1 a2 => ⟨g i j, hd F, fun Q q => ⟨i, j, a1, a2, q⟩⟩
theorem br_I {C : Int → Int → Prop} {g : Int → Int → V} {i j : Int} {d : Dt} (hc : C i j) (hd : ∀ F, Rp K F d (g i j)) : BR K (rI C g) (.d (.int i)) (.d (.int j)) μ (.d d) μ :=
  br_val fun F H u v _ a1 a2 => ⟨g i j, hd F, fun Q q => ⟨i, j, a1, a2, hc, q⟩⟩
theorem br_add {i j : Int} : BR K (rI0 fun i j => .int (i + j)) (.d (.int i)) (.d (.int j)) μ (.d (.int (i + j))) μ := br_I0 fun _ => rfl
theorem br_sub {i j : Int} : BR K (rI0 fun i j => .int (i - j)) (.d (.int i)) (.d (.int j)) μ (.d (.int (i - j))) μ := br_I0 fun _ => rfl
theorem br_mul {i j : Int} (h : CMul i j) : BR K (rI CMul fun i j => .int (i * j)) (.d (.int i)) (.d (.int j)) μ (.d (.int (i * j))) μ := br_I h fun _ => rfl
theorem br_fdiv {i j : Int} (h : CDiv i j) : BR K (rI CDiv fun i j => .int (i / j)) (.d (.int i)) (.d (.int j)) μ (.d (.int (i / j))) μ := br_I h fun _ => rfl
theorem br_mod {i j : Int} (h : 0 < j) : BR K (rI (fun _ j => 0 < j) fun i j => .int (i % j)) (.d (.int i)) (.d (.int j)) μ (.d (.int (i % j))) μ := br_I h fun _ => rfl
theorem br_xor {i j : Int} : BR K (rI0 fun i j => .int (Builtin.bitXor i j)) (.d (.int i)) (.d (.int j)) μ (.d (.int (Builtin.bitXor i j))) μ := br_I0 fun _ => rfl
theorem br_pow {i j : Int} (h : CPow i j) : BR K (rI CPow fun i j => .int (i ^ j.toNat)) (.d (.int i)) (.d (.int j)) μ (.d (.int (i ^ j.toNat))) μ := br_I h fun _ => rfl
theorem br_lt {i j : Int} : BR K (rI0 fun i j => .bl (decide (i < j))) (.d (.int i)) (.d (.int j)) μ (.d (.bl (decide (i < j)))) μ := br_I0 fun _ => rfl
theorem br_le {i j : Int} : BR K (rI0 fun i j => .bl (decide (i ≤ j))) (.d (.int i)) (.d (.int j)) μ (.d (.bl (decide (i ≤ j)))) μ := br_I0 fun _ => rfl
theorem br_gt {i j : Int} : BR K (rI0 fun i j => .bl (decide (j < i))) (.d (.int i)) (.d (.int j)) μ (.d (.bl (decide (j < i)))) μ := br_I0 fun _ => rfl
theorem br_ge {i j : Int} : BR K (rI0 fun i j => .bl (decide (j ≤ i))) (.d (.int i)) (.d (.int j)) μ (.d (.bl (decide (j ≤ i)))) μ := br_I0 fun _ => rfl
/-- == of any data -/
theorem br_eq {x y : Dt} (hx : okD x = true) (hy : okD y = true) : BR K (rEqD K) (.d x) (.d y) μ (.d (.bl (eqD x y))) μ :=
  br_val fun F H u v hh a1 a2 => ⟨.bl (eqD x y), rfl, fun Q q => ⟨py x, py y, (Rp.mono hh.ex a1).dp (okD.plain hx), (Rp.mono hh.ex a2).dp (okD.plain hy), okD.shaped hx, okD.shaped hy, q⟩⟩
theorem br_ne {x y : Dt} (hx : okD x = true) (hy : okD y = true) : BR K (rNeD K) (.d x) (.d y) μ (.d (.bl (!eqD x y))) μ :=
  br_val fun F H u v hh a1 a2 => ⟨.bl (!eqD x y), rfl, fun Q q => ⟨py x, py y, (Rp.mono hh.ex a1).dp (okD.plain hx), (Rp.mono hh.ex a2).dp (okD.plain hy), okD.shaped hx, okD.shaped hy, q⟩⟩
/-- == of a list of one's own whose items are data -/
theorem br_eqL {p : Addr} {xs : List Dt} {y : Dt} (m : μ p = some (.lst (xs.map AV.d))) (hx : okD (.lst xs) = true) (hy : okD y = true) : BR K (rEqD K) (.l p) (.d y) μ (.d (.bl (eqD (.lst xs) y))) μ :=
  br_val fun F H u v hh a1 a2 => by
    obtain ⟨f0, vs, hv, av⟩ := hh.mu p _ m
    have e : u = V.ref p := a1
    subst e
    exact ⟨.bl (eqD (.lst xs) y), rfl, fun Q q => ⟨py (.lst xs), py y, .lst (SqL.of hv) ((Rps.mono hh.ex av.rps).dp (okD.plain hx)), (Rp.mono hh.ex a2).dp (okD.plain hy), okD.shaped hx, okD.shaped hy, q⟩⟩
theorem br_neL {p : Addr} {xs : List Dt} {y : Dt} (m : μ p = some (.lst (xs.map AV.d))) (hx : okD (.lst xs) = true) (hy : okD y = true) : BR K (rNeD K) (.l p) (.d y) μ (.d (.bl (!eqD (.lst xs) y))) μ :=
  br_val fun F H u v hh a1 a2 => by
    obtain ⟨f0, vs, hv, av⟩ := hh.mu p _ m
    have e : u = V.ref p := a1
    subst e
    exact ⟨.bl (!eqD (.lst xs) y), rfl, fun Q q => ⟨py (.lst xs), py y, .lst (SqL.of hv) ((Rps.mono hh.ex av.rps).dp (okD.plain hx)), (Rp.mono hh.ex a2).dp (okD.plain hy), okD.shaped hx, okD.shaped hy, q⟩⟩
/-- is None -/
def rIsN : R2 := fun x y H Q => y = .non ∧ Q (.bl (decide (x = .non))) H
def rNotN : R2 := fun x y H Q => y = .non ∧ Q (.bl (!decide (x = .non))) H
def isNon : Dt → Bool
  | .non => true
  | .opq v => decide (v = .non)
  | _ => false
theorem Rp.isNon {F : Hp} {d : Dt} {v : V} (h : Rp K F d v) : decide (v = V.non) = isNon d := by
  cases d with
  | non => rw [show v = _ from h]; rfl
  | bl _ => rw [show v = _ from h]; rfl
  | int _ => rw [show v = _ from h]; rfl
  | str _ => rw [show v = _ from h]; rfl
  | opq _ => rw [show v = _ from h]; rfl
  | lst _ => obtain ⟨a, _, e, _⟩ := h; rw [e]; rfl
  | tup _ => obtain ⟨a, _, e, _⟩ := h; rw [e]; rfl
  | dict _ _ => obtain ⟨a, _, e, _⟩ := h; rw [e]; rfl
  | exc _ _ => obtain ⟨a, _, _, e, _⟩ := h; rw [e]; rfl
  | ex0 _ => obtain ⟨a, e, _⟩ := h; rw [e]; rfl
  | scr _ => obtain ⟨a, e, _⟩ := h; rw [e]; rfl
theorem br_isN {x : Dt} : BR K rIsN (.d x) (.d .non) μ (.d (.bl (isNon x))) μ :=
  br_val fun F H u v _ a1 a2 => ⟨.bl (isNon x), rfl, fun Q q => ⟨a2, by rw [Rp.isNon a1]; exact q⟩⟩
theorem br_notN {x : Dt} : BR K rNotN (.d x) (.d .non) μ (.d (.bl (!isNon x))) μ :=
  br_val fun F H u v _ a1 a2 => ⟨.bl (!isNon x), rfl, fun Q q => ⟨a2, by rw [Rp.isNon a1]; exact q⟩⟩
theorem br_isB {a b : Bool} : BR K rIsB (.d (.bl a)) (.d (.bl b)) μ (.d (.bl (decide (a = b)))) μ :=
  br_val fun F H u v _ a1 a2 => ⟨.bl (decide (a = b)), rfl, fun Q q => ⟨a, b, a1, a2, q⟩⟩
theorem br_notB {a b : Bool} : BR K rNotB (.d (.bl a)) (.d (.bl b)) μ (.d (.bl (!decide (a = b)))) μ :=
  br_val fun F H u v _ a1 a2 => ⟨.bl (!decide (a = b)), rfl, fun Q q => ⟨a, b, a1, a2, q⟩⟩
/-- texts -/
def rCatS : R2 := fun x y H Q => ∃ i j, x = .str i ∧ y = .str j ∧ i.length + j.length ≤ sizeLine ∧ Q (.str (i ++ j)) H
theorem sz {n : Nat} (h : n ≤ 10000000) : n ≤ sizeLine := Nat.le_trans h (by decide)
theorem szl {n : Nat} (h : n < 10000000) : n < sizeLine := Nat.lt_of_lt_of_le h (by decide)
theorem br_catS {a b : List Nat} (h : a.length + b.length ≤ 10000000) : BR K rCatS (.d (.str a)) (.d (.str b)) μ (.d (.str (a ++ b))) μ :=
  br_val fun F H u v _ a1 a2 => ⟨.str (S (a ++ b)), rfl, fun Q q => ⟨S a, S b, a1, a2, by rw [S_len, S_len]; exact sz h, by rw [S_app]; exact q⟩⟩
/-- lists -/
theorem br_cat {xs ys : List Dt} (h : xs.length + ys.length ≤ 10000000) : BR K rCat (.d (.lst xs)) (.d (.lst ys)) μ (.d (.lst (xs ++ ys))) μ := by
  intro F H u v Q hh a1 a2 q
  obtain ⟨a, us, e1, h1, r1⟩ := a1
  obtain ⟨b, ws, e2, h2, r2⟩ := a2
  refine ⟨a, b, us, ws, e1, e2, hh.ex _ _ h1, hh.ex _ _ h2, by rw [r1.length, r2.length]; exact sz h, fun p hp => ?_⟩
  have f0 := hh.fnone hp
  exact q _ _ _ (same_new f0) (hh.new hp) ⟨p, us ++ ws, rfl, upd_same, Rps.mono (same_new f0) (r1.append r2)⟩
/-- items -/
theorem atI_rps {F : Hp} {ds : List Dt} {vs : List V} {i : Int} {d : Dt} (h : Rps K F ds vs) (e : atI ds i = some d) : ∃ v, atI vs i = some v ∧ Rp K F d v := by
  unfold atI at e ⊢
  rw [h.length]
  cases q : ixN ds.length i with
  | none => rw [q] at e; cases e
  | some j =>
    rw [q] at e
    exact h.get' e
theorem atI_avs {F : Hp} {ds : List AV} {vs : List V} {i : Int} {d : AV} (h : Avs K F ds vs) (e : atI ds i = some d) : ∃ v, atI vs i = some v ∧ Av K F d v := by
  unfold atI at e ⊢
  rw [h.length]
  cases q : ixN ds.length i with
  | none => rw [q] at e; cases e
  | some j =>
    rw [q] at e
    exact h.get e
theorem br_ixL {ds : List Dt} {i : Int} {d : Dt} (h : atI ds i = some d) : BR K (rIxL K) (.d (.lst ds)) (.d (.int i)) μ (.d d) μ :=
  br_val fun F H u v hh a1 a2 => by
    obtain ⟨a, us, e1, h1, r1⟩ := a1
    obtain ⟨w, hw, rw'⟩ := atI_rps r1 h
    exact ⟨w, rw', fun Q q => ⟨a, us, i, w, e1, a2, SqL.of (hh.ex _ _ h1), hw, q⟩⟩
theorem br_ixScr {ns : List Int} {i n : Int} (h : atI ns i = some n) : BR K (rIxL K) (.d (.scr ns)) (.d (.int i)) μ (.d (.int n)) μ :=
  br_val fun F H u v hh a1 a2 => by
    obtain ⟨a, e1, h1⟩ := a1
    refine ⟨.int n, rfl, fun Q q => ⟨a, ns.map V.int, i, .int n, e1, a2, Same.seq hh.ex h1, ?_, q⟩⟩
    unfold atI at h ⊢
    rw [List.length_map]
    cases q : ixN ns.length i with
    | none => rw [q] at h; cases h
    | some j =>
      rw [q] at h
      show (ns.map V.int)[j]? = some (V.int n)
      rw [List.getElem?_map, show ns[j]? = some n from h]; rfl
theorem br_ixO {p : Addr} {xs : List AV} {i : Int} {x : AV} (m : μ p = some (.lst xs)) (h : atI xs i = some x) : BR K (rIxL K) (.l p) (.d (.int i)) μ x μ :=
  br_val fun F H u v hh a1 a2 => by
    obtain ⟨f0, vs, hv, av⟩ := hh.mu p _ m
    obtain ⟨w, hw, aw⟩ := atI_avs av h
    exact ⟨w, aw, fun Q q => ⟨p, vs, i, w, a1, a2, SqL.of hv, hw, q⟩⟩
theorem sqt_mono {F H : Hp} {a : Addr} {xs : List V} (e : Same F H) (h : SqT K F a xs) : SqT K H a xs := by
  rcases h with (h | ⟨o, h⟩) | h
  · exact .inl (.inl (e _ _ h))
  · exact .inl (.inr ⟨o, e _ _ h⟩)
  · exact .inr h
theorem br_ixT {ds : List Dt} {i : Int} {d : Dt} (h : atI ds i = some d) : BR K (rIxT K) (.d (.tup ds)) (.d (.int i)) μ (.d d) μ :=
  br_val fun F H u v hh a1 a2 => by
    obtain ⟨a, us, e1, h1, r1⟩ := a1
    obtain ⟨w, hw, rw'⟩ := atI_rps r1 h
    exact ⟨w, rw', fun Q q => ⟨a, us, i, w, e1, a2, sqt_mono hh.ex h1, hw, q⟩⟩
theorem br_ixS {l : List Nat} {i : Int} {c : Nat} (hz : l.length ≤ 10000000) (h : atI l i = some c) : BR K rIxS (.d (.str l)) (.d (.int i)) μ (.d (.str [c])) μ :=
  br_val fun F H u v hh a1 a2 => ⟨.str (S [c]), rfl, fun Q q => ⟨S l, i, c, a1, a2, by rw [S_len]; exact sz hz, by rw [S_cps]; exact h, q⟩⟩
end

/-! ### expressions -/
section
variable {X : Cx} {ρ : Rho} {μ μ1 μ2 μ3 : Mu} {x y z : AV} {e a b : Expr} {pos : Pos}
theorem ae_var (i : Nat) {n : Str} (h : ρ[i]? = some (some x)) (hN : X.N[i]? = some n := by rfl) (hv : Vis X.env.scope n := by first | exact Or.inl rfl | exact Or.inr (Or.inl rfl) | exact Or.inr (Or.inr rfl)) (hd : (n == ("__debug__" : Str)) = false := by decide)
    (hcd : (n == ("__classdict__" : Str)) = false := by decide) : AE X (.Name n pos) ρ μ (.ok x μ) := by
  refine AE.of (pe_var hN hv hd hcd) fun F H σ hs hh Q W tk q => ?_
  obtain ⟨v, e, a⟩ := hs.2 i x h
  exact ⟨v, e, q F H v (Same.refl _) hh a⟩
theorem ae_val {t : TE} {v : V} (p : PE X e t) (ht : ∀ σ H (Q : VK), Q v H → t σ H Q) (hr : ∀ F, Av X.K F x v) : AE X e ρ μ (.ok x μ) :=
  AE.of p fun F H σ hs hh Q W tk q => ht σ H Q (q F H v (Same.refl _) hh (hr F))
theorem ae_int {i : Int} {j} : AE X (.Constant (.int i) j pos) ρ μ (.ok (.d (.int i)) μ) := ae_val pe_int (fun _ _ _ q => q) fun _ => rfl
theorem ae_bl {i : Bool} {j} : AE X (.Constant (.bool i) j pos) ρ μ (.ok (.d (.bl i)) μ) := ae_val pe_bl (fun _ _ _ q => q) fun _ => rfl
theorem ae_non {j} : AE X (.Constant .none j pos) ρ μ (.ok (.d .non) μ) := ae_val pe_non (fun _ _ _ q => q) fun _ => rfl
theorem ae_str {z : Str} {j} (l : List Nat) (h : z = S l := by first | rfl | decide) : AE X (.Constant (.str z) j pos) ρ μ (.ok (.d (.str l)) μ) := ae_val (v := .str z) pe_str (fun _ _ _ q => q) fun _ => by rw [h]; rfl
theorem ae_glob {n : Str} {v : V} {u : Value} {d : Dt} (hm : X.mg n = some u) (r : RelV v u) (hr : ∀ F, Rp X.K F d v) (hg : Gl X n := by rfl) (hd : (n == ("__debug__" : Str)) = false := by decide) : AE X (.Name n pos) ρ μ (.ok (.d d) μ) :=
  ae_val (pe_glob hg hm r hd) (fun _ _ _ q => q) hr
theorem ae_ok {x' : AV} {μ' : Mu} (h : AE X e ρ μ (.ok x μ1)) (ex : x = x') (em : μ1 = μ') : AE X e ρ μ (.ok x' μ') := by rw [← ex, ← em]; exact h
theorem AE.sub {o : ERes} {μ0 : Mu} (h : AE X e ρ μ0 o) (s : SubM μ0 μ) : AE X e ρ μ o := fun F H σ hs hh Q W tk q => h F H σ hs (hh.sub s) Q W tk q
theorem AE.down {μ' : Mu} (h : AE X e ρ μ (.ok x μ1)) (s : SubM μ' μ1) : AE X e ρ μ (.ok x μ') := fun F H σ hs hh Q W tk q =>
  h F H σ hs hh Q W tk fun F' H' v e1 h1 a1 => q F' H' v e1 (h1.sub s) a1
theorem ae_op {op : Operator} {r : R2} (ho : OpR X (binaryOp op) r) (ha : AE X a ρ μ (.ok x μ1)) (hb : AE X b ρ μ1 (.ok y μ2)) (hr : BR X.K r x y μ2 z μ3) : AE X (.BinOp a op b pos) ρ μ (.ok z μ3) :=
  AE.of (pe_op ho pe_rd pe_rd) fun F H σ hs hh Q W tk q => ha.go hs hh tk fun F1 H1 u e1 h1 a1 => hb.go (hs.mono e1) h1 tk fun F2 H2 v e2 h2 a2 =>
    hr F2 H2 u v Q h2 (a1.mono e2) a2 fun F3 H3 w e3 h3 a3 => q F3 H3 w ((e1.trans e2).trans e3) h3 a3
theorem ae_cmp {op : CmpOp} {r : R2} (ho : OpR X (compareOp op) r) (ha : AE X a ρ μ (.ok x μ1)) (hb : AE X b ρ μ1 (.ok y μ2)) (hr : BR X.K r x y μ2 z μ3) (hm : behindInMarks op b = false) : AE X (.Compare a [op] [b] pos) ρ μ (.ok z μ3) :=
  AE.of (pe_cmpR ho pe_rd pe_rd hm) fun F H σ hs hh Q W tk q => ha.go hs hh tk fun F1 H1 u e1 h1 a1 => hb.go (hs.mono e1) h1 tk fun F2 H2 v e2 h2 a2 =>
    hr F2 H2 u v Q h2 (a1.mono e2) a2 fun F3 H3 w e3 h3 a3 => q F3 H3 w ((e1.trans e2).trans e3) h3 a3
theorem at_cmp {op : CmpOp} {r : R2} {k : Bool} (ho : OpR X (compareOp op) r) (ha : AE X a ρ μ (.ok x μ1)) (hb : AE X b ρ μ1 (.ok y μ2)) (hr : BR X.K r x y μ2 (.d (.bl k)) μ3) (hm : behindInMarks op b = false) : AT X (.Compare a [op] [b] pos) ρ μ (.ok k μ3) :=
  AT.of (pt_cmpR ho pe_rd pe_rd hm) fun F H σ hs hh Q W tk q => ha.go hs hh tk fun F1 H1 u e1 h1 a1 => hb.go (hs.mono e1) h1 tk fun F2 H2 v e2 h2 a2 =>
    hr F2 H2 u v _ h2 (a1.mono e2) a2 fun F3 H3 w e3 h3 a3 => ⟨k, a3, q F3 H3 ((e1.trans e2).trans e3) h3⟩
theorem ae_ix {r : R2} (ho : IxR X r) (ha : AE X a ρ μ (.ok x μ1)) (hb : AE X b ρ μ1 (.ok y μ2)) (hr : BR X.K r x y μ2 z μ3) (hs : PlainIx b := by intro _ _; rfl) : AE X (.Subscript a b pos) ρ μ (.ok z μ3) :=
  AE.of (pe_ix ho pe_rd pe_rd hs) fun F H σ hs hh Q W tk q => ha.go hs hh tk fun F1 H1 u e1 h1 a1 => hb.go (hs.mono e1) h1 tk fun F2 H2 v e2 h2 a2 =>
    hr F2 H2 u v Q h2 (a1.mono e2) a2 fun F3 H3 w e3 h3 a3 => q F3 H3 w ((e1.trans e2).trans e3) h3 a3
theorem ae_neg {i : Int} (ha : AE X a ρ μ (.ok (.d (.int i)) μ1)) : AE X (.UnaryOp .USub a pos) ρ μ (.ok (.d (.int (-i))) μ1) :=
  AE.of (pe_un un_neg pe_rd) fun F H σ hs hh Q W tk q => ha.go hs hh tk fun F1 H1 u e1 h1 a1 => ⟨i, a1, q F1 H1 _ e1 h1 rfl⟩
/-- chains a < b < c -/
theorem ae_chain {op op' : CmpOp} {r r' : R2} {c : Expr} {w : AV} {k k' : Bool} {μ4 μ5 : Mu} (ho : OpR X (compareOp op) r) (ho' : OpR X (compareOp op') r') (ha : AE X a ρ μ (.ok x μ1)) (hb : AE X b ρ μ1 (.ok y μ2)) (hr : BR X.K r x y μ2 (.d (.bl k)) μ3)
    (hc : k = true → AE X c ρ μ3 (.ok w μ4)) (hr' : k = true → BR X.K r' y w μ4 (.d (.bl k')) μ5) (hk : k = false → k' = false ∧ μ3 = μ5) (hm : lastMarks [op, op'] [b, c] = false := by with_unfolding_all rfl) : AE X (.Compare a [op, op'] [b, c] pos) ρ μ (.ok (.d (.bl k')) μ5) :=
  AE.of (pe_chain ho ho' pe_rd pe_rd pe_rd hm) fun F H σ hs hh Q W tk q => ha.go hs hh tk fun F1 H1 u e1 h1 a1 => hb.go (hs.mono e1) h1 tk fun F2 H2 v e2 h2 a2 =>
    hr F2 H2 u v _ h2 (a1.mono e2) a2 fun F3 H3 w' e3 h3 a3 => by
      refine ⟨k, a3, ?_⟩
      cases k with
      | true =>
        refine (hc rfl).go (hs.mono ((e1.trans e2).trans e3)) h3 tk fun F4 H4 t e4 h4 a4 => ?_
        exact hr' rfl F4 H4 v t Q h4 (a2.mono (e3.trans e4)) a4 fun F5 H5 t' e5 h5 a5 => q F5 H5 t' ((((e1.trans e2).trans e3).trans e4).trans e5) h5 a5
      | false =>
        obtain ⟨k1, k2⟩ := hk rfl
        subst k2
        exact q F3 H3 _ ((e1.trans e2).trans e3) h3 (by rw [k1]; rfl)
end
end L2.DL
set_option maxHeartbeats 4000000
namespace L2.DL
open PySem PySem.Spec PyProof.Rows
section
variable {X : Cx} {ρ : Rho} {μ μ1 μ2 μ3 : Mu} {x y z : AV} {e a b c : Expr} {es rest : List Expr} {pos : Pos} {k k' : Bool}
/-! ### tests -/
theorem at_val (h : AE X e ρ μ (.ok (.d (.bl k)) μ1)) (he : ∀ whole, isTrue e X.env whole = (do let v ← whole; standAt e.pos; holding [v] (truthy v)) := by intro _; rfl) : AT X e ρ μ (.ok k μ1) :=
  AT.of (pt_val pe_rd he) fun F H σ hs hh Q W tk q => h.go hs hh tk fun F1 H1 u e1 h1 a1 => ⟨k, a1, q F1 H1 e1 h1⟩
theorem AT.go (h : AT X e ρ μ (.ok k μ1)) {F H : Hp} {σ : St} (hs : Sl X.K F ρ σ) (hh : Holds X.K F μ H) {Q : Bool → Hp → Prop} {W : WX} (tk : Takes X W) (q : ∀ (F' H' : Hp), Same F F' → Holds X.K F' μ1 H' → Q k H') : rdT X e σ H Q := h F H σ hs hh Q W tk q
theorem AW.go (h : AW X e ρ μ (.ok k μ1)) {F H : Hp} {σ : St} (hs : Sl X.K F ρ σ) (hh : Holds X.K F μ H) {Q : Bool → Hp → Prop} {W : WX} (tk : Takes X W) (q : ∀ (F' H' : Hp), Same F F' → Holds X.K F' μ1 H' → Q k H') : rdW X e σ H Q := h F H σ hs hh Q W tk q
theorem aw_and1 (h : AT X a ρ μ (.ok k μ1)) : AW X (.BoolOp .And [a] pos) ρ μ (.ok k μ1) := AW.of (pw_and1 pt_rd) fun F H σ hs hh Q W tk q => h.go hs hh tk q
theorem aw_or1 (h : AT X a ρ μ (.ok k μ1)) : AW X (.BoolOp .Or [a] pos) ρ μ (.ok k μ1) := AW.of (pw_or1 pt_rd) fun F H σ hs hh Q W tk q => h.go hs hh tk q
theorem aw_and (h : AT X a ρ μ (.ok k μ1)) (h2 : k = true → AW X (.BoolOp .And (b :: rest) pos) ρ μ1 (.ok k' μ2)) (h3 : k = false → k' = false ∧ μ1 = μ2) : AW X (.BoolOp .And (a :: b :: rest) pos) ρ μ (.ok k' μ2) :=
  AW.of (pw_and pt_rd pw_rd) fun F H σ hs hh Q W tk q => h.go hs hh tk fun F1 H1 e1 h1 => by
    cases k with
    | true => exact (h2 rfl).go (hs.mono e1) h1 tk fun F2 H2 e2 g2 => q F2 H2 (e1.trans e2) g2
    | false =>
      obtain ⟨q1, q2⟩ := h3 rfl
      subst q2
      have z := q F1 H1 e1 h1
      rw [q1] at z
      exact z
theorem aw_or (h : AT X a ρ μ (.ok k μ1)) (h2 : k = false → AW X (.BoolOp .Or (b :: rest) pos) ρ μ1 (.ok k' μ2)) (h3 : k = true → k' = true ∧ μ1 = μ2) : AW X (.BoolOp .Or (a :: b :: rest) pos) ρ μ (.ok k' μ2) :=
  AW.of (pw_or pt_rd pw_rd) fun F H σ hs hh Q W tk q => h.go hs hh tk fun F1 H1 e1 h1 => by
    cases k with
    | false => exact (h2 rfl).go (hs.mono e1) h1 tk fun F2 H2 e2 g2 => q F2 H2 (e1.trans e2) g2
    | true =>
      obtain ⟨q1, q2⟩ := h3 rfl
      subst q2
      have z := q F1 H1 e1 h1
      rw [q1] at z
      exact z
/-- both sides look at no more than data: their and -/
theorem aw_andP (h : AT X a ρ μ (.ok k μ)) (h2 : k = true → AW X (.BoolOp .And (b :: rest) pos) ρ μ (.ok k' μ)) : AW X (.BoolOp .And (a :: b :: rest) pos) ρ μ (.ok (k && k') μ) :=
  aw_and h (fun e => by rw [e]; exact h2 e) (fun e => by rw [e]; exact ⟨rfl, rfl⟩)
theorem aw_orP (h : AT X a ρ μ (.ok k μ)) (h2 : k = false → AW X (.BoolOp .Or (b :: rest) pos) ρ μ (.ok k' μ)) : AW X (.BoolOp .Or (a :: b :: rest) pos) ρ μ (.ok (k || k') μ) :=
  aw_or h (fun e => by rw [e]; exact h2 e) (fun e => by rw [e]; exact ⟨rfl, rfl⟩)
theorem at_not (h : AT X a ρ μ (.ok k μ1)) : AT X (.UnaryOp .Not a pos) ρ μ (.ok (!k) μ1) := AT.of (pt_not pt_rd) fun F H σ hs hh Q W tk q => h.go hs hh tk q
/-- as values -/
theorem ae_one {op} (h : AE X a ρ μ (.ok x μ1)) : AE X (.BoolOp op [a] pos) ρ μ (.ok x μ1) := AE.of (pe_one pe_rd) fun F H σ hs hh Q W tk q => h.go hs hh tk q
theorem ae_and (h : AE X a ρ μ (.ok (.d (.bl k)) μ)) (h2 : k = true → AE X (.BoolOp .And (b :: rest) pos) ρ μ (.ok (.d (.bl k')) μ)) : AE X (.BoolOp .And (a :: b :: rest) pos) ρ μ (.ok (.d (.bl (k && k'))) μ) :=
  AE.of (pe_and pe_rd pe_rd) fun F H σ hs hh Q W tk q => h.go hs hh tk fun F1 H1 u e1 h1 a1 => by
    refine ⟨k, a1, ?_⟩
    cases k with
    | true => exact (h2 rfl).go (hs.mono e1) h1 tk fun F2 H2 v e2 g2 a2 => q F2 H2 v (e1.trans e2) g2 a2
    | false => exact q F1 H1 _ e1 h1 rfl
theorem ae_or (h : AE X a ρ μ (.ok (.d (.bl k)) μ)) (h2 : k = false → AE X (.BoolOp .Or (b :: rest) pos) ρ μ (.ok (.d (.bl k')) μ)) : AE X (.BoolOp .Or (a :: b :: rest) pos) ρ μ (.ok (.d (.bl (k || k'))) μ) :=
  AE.of (pe_or pe_rd pe_rd) fun F H σ hs hh Q W tk q => h.go hs hh tk fun F1 H1 u e1 h1 a1 => by
    refine ⟨k, a1, ?_⟩
    cases k with
    | false => exact (h2 rfl).go (hs.mono e1) h1 tk fun F2 H2 v e2 g2 a2 => q F2 H2 v (e1.trans e2) g2 a2
    | true => exact q F1 H1 _ e1 h1 rfl
theorem ae_not (h : AE X a ρ μ (.ok (.d (.bl k)) μ1)) : AE X (.UnaryOp .Not a pos) ρ μ (.ok (.d (.bl (!k))) μ1) :=
  AE.of (pe_not pe_rd) fun F H σ hs hh Q W tk q => h.go hs hh tk fun F1 H1 u e1 h1 a1 => ⟨k, a1, q F1 H1 _ e1 h1 rfl⟩
theorem ae_if (h : AT X c ρ μ (.ok k μ1)) (h1 : k = true → AE X a ρ μ1 (.ok z μ2)) (h2 : k = false → AE X b ρ μ1 (.ok z μ2)) : AE X (.IfExp c a b pos) ρ μ (.ok z μ2) :=
  AE.of (pe_ifExp pt_rd pe_rd pe_rd) fun F H σ hs hh Q W tk q => h.go hs hh tk fun F1 H1 e1 g1 => by
    cases k with
    | true => exact (h1 rfl).go (hs.mono e1) g1 tk fun F2 H2 v e2 g2 a2 => q F2 H2 v (e1.trans e2) g2 a2
    | false => exact (h2 rfl).go (hs.mono e1) g1 tk fun F2 H2 v e2 g2 a2 => q F2 H2 v (e1.trans e2) g2 a2
/-! ### argument lists, displays -/
variable {xs ys : List AV} {kws : List Keyword}
theorem AA.go (h : AA X es ρ μ (.ok xs μ1)) {F H : Hp} {σ : St} (hs : Sl X.K F ρ σ) (hh : Holds X.K F μ H) {Q : List V → Hp → Prop} {W : WX} (tk : Takes X W) (q : ∀ (F' H' : Hp) (vs : List V), Same F F' → Holds X.K F' μ1 H' → Avs X.K F' xs vs → Q vs H') : rdA X es σ H Q := h F H σ hs hh Q W tk q
theorem AK.go (h : AK X kws ρ μ (.ok xs μ1)) {F H : Hp} {σ : St} (hs : Sl X.K F ρ σ) (hh : Holds X.K F μ H) {Q : List V → Hp → Prop} {W : WX} (tk : Takes X W) (q : ∀ (F' H' : Hp) (vs : List V), Same F F' → Holds X.K F' μ1 H' → Avs X.K F' xs vs → Q vs H') : rdK X kws σ H Q := h F H σ hs hh Q W tk q
theorem aa_nil : AA X [] ρ μ (.ok [] μ) := fun F H σ hs hh Q W tk q pos pins s I => pa_nil.run pos pins s σ H Q I (q F H [] (Same.refl _) hh rfl)
theorem aa_cons (h : AE X e ρ μ (.ok x μ1)) (hr : AA X es ρ μ1 (.ok xs μ2)) (hs' : starEach (e :: es) X.env = (false, eval e X.env) :: starEach es X.env := by rfl) : AA X (e :: es) ρ μ (.ok (x :: xs) μ2) := fun F H σ hs hh Q W tk q pos pins s I =>
  (pa_cons pe_rd pa_rd hs').run pos pins s σ H Q I (h.go hs hh tk fun F1 H1 u e1 h1 a1 => hr.go (hs.mono e1) h1 tk fun F2 H2 vs e2 h2 a2 => q F2 H2 (u :: vs) (e1.trans e2) h2 ⟨u, vs, rfl, a1.mono e2, a2⟩)
theorem ak_nil : AK X [] ρ μ (.ok [] μ) := fun F H σ hs hh Q W tk q pos pins s I => pk_nil.run pos pins s σ H Q I (q F H [] (Same.refl _) hh rfl)
theorem ak_cons {nm : Option Str} {kpos : Pos} (h : AE X e ρ μ (.ok x μ1)) (hr : AK X kws ρ μ1 (.ok xs μ2)) : AK X (⟨nm, e, kpos⟩ :: kws) ρ μ (.ok (x :: xs) μ2) := fun F H σ hs hh Q W tk q pos pins s I =>
  (pk_cons pe_rd pk_rd).run pos pins s σ H Q I (h.go hs hh tk fun F1 H1 u e1 h1 a1 => hr.go (hs.mono e1) h1 tk fun F2 H2 vs e2 h2 a2 => q F2 H2 (u :: vs) (e1.trans e2) h2 ⟨u, vs, rfl, a1.mono e2, a2⟩)
theorem ae_tup {ds : List Dt} {j} (h : AA X es ρ μ (.ok (ds.map AV.d) μ1)) (hl : ds.length ≤ 10000000) : AE X (.Tuple es j pos) ρ μ (.ok (.d (.tup ds)) μ1) :=
  AE.of (pe_tup pa_rd) fun F H σ hs hh Q W tk q => h.go hs hh tk fun F1 H1 vs e1 h1 a1 => by
    refine ⟨by rw [a1.rps.length]; exact sz hl, fun p hp => ?_⟩
    have f0 := h1.fnone hp
    exact q _ _ _ (e1.trans (same_new f0)) (h1.new hp) ⟨p, vs, rfl, SqT.of upd_same, Rps.mono (same_new f0) a1.rps⟩
theorem ae_lst {ds : List Dt} (h : AA X es ρ μ (.ok (ds.map AV.d) μ1)) (hl : ds.length ≤ 10000000) : AE X (.List es pos) ρ μ (.ok (.d (.lst ds)) μ1) :=
  AE.of (pe_lst pa_rd) fun F H σ hs hh Q W tk q => h.go hs hh tk fun F1 H1 vs e1 h1 a1 => by
    refine ⟨by rw [a1.rps.length]; exact sz hl, fun p hp => ?_⟩
    have f0 := h1.fnone hp
    exact q _ _ _ (e1.trans (same_new f0)) (h1.new hp) ⟨p, vs, rfl, upd_same, Rps.mono (same_new f0) a1.rps⟩
/-- a new list of one's own -/
theorem ae_lstN (h : AA X es ρ μ (.ok xs μ1)) (hl : xs.length ≤ 10000000) : AE X (.List es pos) ρ μ (.new xs μ1) :=
  AE.of (pe_lst pa_rd) fun F H σ hs hh Q W tk q => h.go hs hh tk fun F1 H1 vs e1 h1 a1 => by
    refine ⟨by rw [a1.length]; exact sz hl, fun p hp => ?_⟩
    exact q F1 _ p e1 (h1.fnone hp) (h1.mnone hp) (h1.own hp a1)
/-! ### built-ins by name -/
def BC (K : PySem.W.Frag) (r : List V → Hp → VK → Prop) (xs : List AV) (μ : Mu) (z : AV) (μ' : Mu) : Prop :=
  ∀ (F H : Hp) (vs : List V) (Q : VK), Holds K F μ H → Avs K F xs vs → (∀ (F' H' : Hp) (w : V), Same F F' → Holds K F' μ' H' → Av K F' z w → Q w H') → r vs H Q
theorem ae_callB {n : Str} {p : Pos} {id : String} {r : List V → Hp → VK → Prop} (hc : CallR X (.builtin id) r) (hm : X.mg n = none) (hv : bootBuiltins n = some (.builtin id)) (ha : AA X (e :: es) ρ μ (.ok xs μ1)) (hr : BC X.K r xs μ1 z μ2) (hg : Gl X n := by rfl) (hn : n ≠ "__name__" := by decide)
    (hdb : (n == ("__debug__" : Str)) = false := by decide) (he : starEach (e :: es) X.env = (false, eval e X.env) :: starEach es X.env := by rfl) (hpl : (backTo pos (starEach es X.env)).any (·.1) = false := by rfl) : AE X (.Call (.Name n p) (e :: es) [] pos) ρ μ (.ok z μ2) :=
  AE.of (pe_callB hc hg hm hv pa_rd hn hdb he hpl) fun F H σ hs hh Q W tk q => ha.go hs hh tk fun F1 H1 vs e1 h1 a1 => hr F1 H1 vs Q h1 a1 fun F2 H2 w e2 h2 a2 => q F2 H2 w (e1.trans e2) h2 a2
theorem ae_callTy {n : Str} {p : Pos} {T : String} {r : List V → Hp → VK → Prop} (hc : CallR X (.type T) r) (hm : X.mg n = none) (hv : bootBuiltins n = some (.type T)) (ha : AA X (e :: es) ρ μ (.ok xs μ1)) (hr : BC X.K r xs μ1 z μ2) (hg : Gl X n := by rfl) (hn : n ≠ "__name__" := by decide)
    (hdb : (n == ("__debug__" : Str)) = false := by decide) (he : starEach (e :: es) X.env = (false, eval e X.env) :: starEach es X.env := by rfl) (hpl : (backTo pos (starEach es X.env)).any (·.1) = false := by rfl) : AE X (.Call (.Name n p) (e :: es) [] pos) ρ μ (.ok z μ2) :=
  AE.of (pe_callTy hc hg hm hv pa_rd hn hdb he hpl) fun F H σ hs hh Q W tk q => ha.go hs hh tk fun F1 H1 vs e1 h1 a1 => hr F1 H1 vs Q h1 a1 fun F2 H2 w e2 h2 a2 => q F2 H2 w (e1.trans e2) h2 a2
variable {K : PySem.W.Frag}
theorem bc_val {r : List V → Hp → VK → Prop} {xs : List AV} {z : AV} {μ : Mu} (h : ∀ (F H : Hp) (vs : List V), Holds K F μ H → Avs K F xs vs → ∃ w, Av K F z w ∧ ∀ Q : VK, Q w H → r vs H Q) : BC K r xs μ z μ := by
  intro F H vs Q hh a1 q
  obtain ⟨w, aw, k⟩ := h F H vs hh a1
  exact k Q (q F H w (Same.refl _) hh aw)
theorem avs1 {F : Hp} {x : AV} {vs : List V} (h : Avs K F [x] vs) : ∃ v, vs = [v] ∧ Av K F x v := by
  obtain ⟨v, r, h1, h2, h3⟩ := h
  rw [show r = [] from h3] at h1
  exact ⟨v, h1, h2⟩
theorem avs2 {F : Hp} {x y : AV} {vs : List V} (h : Avs K F [x, y] vs) : ∃ v u, vs = [v, u] ∧ Av K F x v ∧ Av K F y u := by
  obtain ⟨v, r, h1, h2, h3⟩ := h
  obtain ⟨u, g, g1⟩ := avs1 h3
  rw [g] at h1
  exact ⟨v, u, h1, h2, g1⟩
/-- len -/
theorem bc_lenS {l : List Nat} (h : l.length ≤ 10000000) : BC K (fun xs H Q => ∃ x n, xs = [x] ∧ LenV K x H n ∧ Q (.int (n : Nat)) H) [.d (.str l)] μ (.d (.int (l.length : Nat))) μ :=
  bc_val fun F H vs hh a => by
    obtain ⟨v, e, a1⟩ := avs1 a
    subst e
    rw [show v = _ from a1]
    refine ⟨.int (l.length : Nat), rfl, fun Q q => ⟨_, l.length, rfl, ⟨by rw [S_len]; exact sz h, (S_len l).symm⟩, q⟩⟩
theorem bc_lenL {ds : List Dt} : BC K (fun xs H Q => ∃ x n, xs = [x] ∧ LenV K x H n ∧ Q (.int (n : Nat)) H) [.d (.lst ds)] μ (.d (.int (ds.length : Nat))) μ :=
  bc_val fun F H vs hh a => by
    obtain ⟨v, e, a1⟩ := avs1 a
    subst e
    obtain ⟨p, us, e1, h1, r1⟩ := a1
    rw [e1]
    refine ⟨.int (ds.length : Nat), rfl, fun Q q => ⟨_, ds.length, rfl, .inl ⟨us, SqL.of (hh.ex _ _ h1), r1.length.symm⟩, q⟩⟩
theorem bc_lenT {ds : List Dt} : BC K (fun xs H Q => ∃ x n, xs = [x] ∧ LenV K x H n ∧ Q (.int (n : Nat)) H) [.d (.tup ds)] μ (.d (.int (ds.length : Nat))) μ :=
  bc_val fun F H vs hh a => by
    obtain ⟨v, e, a1⟩ := avs1 a
    subst e
    obtain ⟨p, us, e1, h1, r1⟩ := a1
    rw [e1]
    refine ⟨.int (ds.length : Nat), rfl, fun Q q => ⟨_, ds.length, rfl, .inr ⟨us, sqt_mono hh.ex h1, r1.length.symm⟩, q⟩⟩
theorem bc_lenScr {ns : List Int} : BC K (fun xs H Q => ∃ x n, xs = [x] ∧ LenV K x H n ∧ Q (.int (n : Nat)) H) [.d (.scr ns)] μ (.d (.int (ns.length : Nat))) μ :=
  bc_val fun F H vs hh a => by
    obtain ⟨v, e, a1⟩ := avs1 a
    subst e
    obtain ⟨p, e1, h1⟩ := a1
    rw [e1]
    refine ⟨.int (ns.length : Nat), rfl, fun Q q => ⟨_, ns.length, rfl, .inl ⟨_, Same.seq hh.ex h1, by rw [List.length_map]⟩, q⟩⟩
theorem bc_lenO {p : Addr} {ys : List AV} (m : μ p = some (.lst ys)) : BC K (fun xs H Q => ∃ x n, xs = [x] ∧ LenV K x H n ∧ Q (.int (n : Nat)) H) [.l p] μ (.d (.int (ys.length : Nat))) μ :=
  bc_val fun F H vs hh a => by
    obtain ⟨v, e, a1⟩ := avs1 a
    subst e
    obtain ⟨f0, us, hv, av⟩ := hh.mu p _ m
    rw [show v = V.ref p from a1]
    refine ⟨.int (ys.length : Nat), rfl, fun Q q => ⟨_, ys.length, rfl, .inl ⟨us, SqL.of hv, av.length.symm⟩, q⟩⟩
theorem bc_max2 {i j : Int} : BC K (fun xs H Q => ∃ i j, xs = [.int i, .int j] ∧ Q (.int (if j > i then j else i)) H) [.d (.int i), .d (.int j)] μ (.d (.int (if j > i then j else i))) μ :=
  bc_val fun F H vs hh a => by
    obtain ⟨v, u, e, a1, a2⟩ := avs2 a
    exact ⟨_, rfl, fun Q q => ⟨i, j, by rw [e, show v = _ from a1, show u = _ from a2], q⟩⟩
theorem bc_min2 {i j : Int} : BC K (fun xs H Q => ∃ i j, xs = [.int i, .int j] ∧ Q (.int (if j < i then j else i)) H) [.d (.int i), .d (.int j)] μ (.d (.int (if j < i then j else i))) μ :=
  bc_val fun F H vs hh a => by
    obtain ⟨v, u, e, a1, a2⟩ := avs2 a
    exact ⟨_, rfl, fun Q q => ⟨i, j, by rw [e, show v = _ from a1, show u = _ from a2], q⟩⟩
theorem bc_int {i : Int} : BC K (fun xs H Q => (∃ i, xs = [.int i] ∧ Q (.int i) H) ∨ ∃ k, xs = [.bl k] ∧ Q (.int (if k then 1 else 0)) H) [.d (.int i)] μ (.d (.int i)) μ :=
  bc_val fun F H vs hh a => by
    obtain ⟨v, e, a1⟩ := avs1 a
    exact ⟨_, rfl, fun Q q => .inl ⟨i, by rw [e, show v = _ from a1], q⟩⟩
theorem bc_abs {i : Int} : BC K (fun xs H Q => ∃ i, xs = [.int i] ∧ Q (.int (if i < 0 then -i else i)) H) [.d (.int i)] μ (.d (.int (if i < 0 then -i else i))) μ :=
  bc_val fun F H vs hh a => by
    obtain ⟨v, e, a1⟩ := avs1 a
    exact ⟨_, rfl, fun Q q => ⟨i, by rw [e, show v = _ from a1], q⟩⟩
theorem bc_sum {ns : List Int} : BC K (rSum K) [.d (.lst (ns.map Dt.int))] μ (.d (.int ns.sum)) μ :=
  bc_val fun F H vs hh a => by
    obtain ⟨v, e, a1⟩ := avs1 a
    obtain ⟨p, us, e1, h1, r1⟩ := a1
    have := r1.ints
    subst this
    exact ⟨_, rfl, fun Q q => ⟨p, ns, by rw [e, e1], SqL.of (hh.ex _ _ h1), q⟩⟩
/-- list(x): a new one -/
theorem bc_list {ds : List Dt} : BC K (fun xs H Q => ∃ p ys, xs = [.ref p] ∧ (SqL K H p ys ∨ SqT K H p ys) ∧ ∀ l, H l = none → Q (.ref l) (upd H l (.lst ys))) [.d (.lst ds)] μ (.d (.lst ds)) μ := by
  intro F H vs Q hh a q
  obtain ⟨v, e, a1⟩ := avs1 a
  obtain ⟨p, us, e1, h1, r1⟩ := a1
  refine ⟨p, us, by rw [e, e1], .inl (SqL.of (hh.ex _ _ h1)), fun l hl => ?_⟩
  have f0 := hh.fnone hl
  exact q _ _ _ (same_new f0) (hh.new hl) ⟨l, us, rfl, upd_same, Rps.mono (same_new f0) r1⟩
/-- list(x), a new one of one's own -/
theorem ae_listN {n : Str} {p : Pos} {T : String} {r : List V → Hp → VK → Prop} {ys : List AV} (hc : CallR X (.type T) r) (hm : X.mg n = none) (hv : bootBuiltins n = some (.type T)) (ha : AA X [e] ρ μ (.ok xs μ1))
    (hr : ∀ (F H : Hp) (vs : List V) (Q : VK), Holds X.K F μ1 H → Avs X.K F xs vs → (∀ p us, H p = none → Avs X.K F ys us → Q (.ref p) (upd H p (.lst us))) → r vs H Q) (hg : Gl X n := by rfl) (hn : n ≠ "__name__" := by decide)
    (hdb : (n == ("__debug__" : Str)) = false := by decide) (he : starEach (e :: []) X.env = (false, eval e X.env) :: starEach [] X.env := by rfl) (hpl : (backTo pos (starEach [] X.env)).any (·.1) = false := by rfl) : AE X (.Call (.Name n p) (e :: []) [] pos) ρ μ (.new ys μ1) :=
  AE.of (pe_callTy hc hg hm hv pa_rd hn hdb he hpl) fun F H σ hs hh Q W tk q => ha.go hs hh tk fun F1 H1 vs e1 h1 a1 => hr F1 H1 vs Q h1 a1 fun p us hp au => q F1 _ p e1 (h1.fnone hp) (h1.mnone hp) (h1.own hp au)
theorem list_new {ds : List Dt} (F H : Hp) (vs : List V) (Q : VK) (hh : Holds K F μ H) (a : Avs K F [.d (.lst ds)] vs) (q : ∀ p us, H p = none → Avs K F (ds.map AV.d) us → Q (.ref p) (upd H p (.lst us))) : (fun xs H Q => ∃ p ys, xs = [V.ref p] ∧ (SqL K H p ys ∨ SqT K H p ys) ∧ ∀ l, H l = none → Q (V.ref l) (upd H l (.lst ys)) : List V → Hp → VK → Prop) vs H Q := by
  obtain ⟨v, e, a1⟩ := avs1 a
  obtain ⟨p, us, e1, h1, r1⟩ := a1
  exact ⟨p, us, by rw [e, e1], .inl (SqL.of (hh.ex _ _ h1)), fun l hl => q l us hl (Avs.of_rps r1)⟩
/-! ### methods of built-in types -/
def MC (K : PySem.W.Frag) (r : V → List V → Hp → VK → Prop) (x : AV) (xs : List AV) (μ : Mu) (z : AV) (μ' : Mu) : Prop :=
  ∀ (F H : Hp) (u : V) (vs : List V) (Q : VK), Holds K F μ H → Av K F x u → Avs K F xs vs → (∀ (F' H' : Hp) (w : V), Same F F' → Holds K F' μ' H' → Av K F' z w → Q w H') → r u vs H Q
def TyA (K : PySem.W.Frag) (T : String) (x : AV) (μ : Mu) : Prop := ∀ (F H : Hp) (u : V), Holds K F μ H → Av K F x u → tyV K T u H
theorem ae_bm0 {T id : String} {r : V → List V → Hp → VK → Prop} {name : Str} {apos : Pos} (pa : PlainAttrs T) (slot : Slot T name id) (hty : typeOf (.builtin id) = pure (.type "method_descriptor")) (hm : MtR X id r) (ho : AE X a ρ μ (.ok x μ1)) (ht : TyA X.K T x μ1) (hr : MC X.K r x [] μ1 z μ2)
    (hbase : attributeBase a name X.env (eval a X.env) = eval a X.env := by rfl) (hline : (apos.endLine == pos.line) = true := by rfl) : AE X (.Call (.Attribute a name apos) [] [] pos) ρ μ (.ok z μ2) :=
  AE.of (pe_bm0 pa slot hty hm pe_rd hbase hline) fun F H σ hs hh Q W tk q => ho.go hs hh tk fun F1 H1 u e1 h1 a1 => ⟨ht F1 H1 u h1 a1, hr F1 H1 u [] Q h1 a1 rfl fun F2 H2 w e2 h2 a2 => q F2 H2 w (e1.trans e2) h2 a2⟩
theorem ae_bm {T id : String} {r : V → List V → Hp → VK → Prop} {name : Str} {apos : Pos} (pa : PlainAttrs T) (slot : Slot T name id) (hty : typeOf (.builtin id) = pure (.type "method_descriptor")) (hm : MtR X id r) (ho : AE X a ρ μ (.ok x μ1)) (ht : TyA X.K T x μ1)
    (ha : AA X (e :: es) ρ μ1 (.ok xs μ2)) (hr : MC X.K r x xs μ2 z μ3)
    (hbase : attributeBase a name X.env (eval a X.env) = eval a X.env := by rfl)
    (hfew : ((backTo pos (starEach (e :: es) X.env)).all (fun x => !x.1) && (backToKw pos (keywordEach [] X.env)).all (fun x => x.1.isSome)
      && decide ((e :: es).length + ([] : List Keyword).length + (if ([] : List Keyword).isEmpty then 0 else 1) < 30)) = true := by rfl)
    (hline : (apos.endLine == pos.line) = true := by rfl) (hst : starEach (e :: es) X.env = (false, eval e X.env) :: starEach es X.env := by rfl) (hplain : (backTo pos (starEach es X.env)).any (·.1) = false := by rfl) :
    AE X (.Call (.Attribute a name apos) (e :: es) [] pos) ρ μ (.ok z μ3) :=
  AE.of (pe_bm pa slot hty hm pe_rd pa_rd hbase hfew hline hst hplain) fun F H σ hs hh Q W tk q => ho.go hs hh tk fun F1 H1 u e1 h1 a1 =>
    ⟨ht F1 H1 u h1 a1, ha.go (hs.mono e1) h1 tk fun F2 H2 vs e2 h2 a2 => hr F2 H2 u vs Q h2 (a1.mono e2) a2 fun F3 H3 w e3 h3 a3 => q F3 H3 w ((e1.trans e2).trans e3) h3 a3⟩
theorem ty_str {l : List Nat} : TyA K "str" (.d (.str l)) μ := fun F H u hh a => by
  rw [show u = _ from a]; rfl
theorem ty_lst {ds : List Dt} : TyA K "list" (.d (.lst ds)) μ := fun F H u hh a => by
  obtain ⟨p, us, e1, h1, r1⟩ := a
  rw [e1]
  exact .inl ⟨rfl, us, SqL.of (hh.ex _ _ h1)⟩
theorem ty_own {p : Addr} {ys : List AV} (m : μ p = some (.lst ys)) : TyA K "list" (.l p) μ := fun F H u hh a => by
  obtain ⟨f0, us, hv, av⟩ := hh.mu p _ m
  rw [show u = V.ref p from a]
  exact .inl ⟨rfl, us, SqL.of hv⟩
theorem mc_append {p : Addr} {ys : List AV} {y : AV} (m : μ p = some (.lst ys)) (hl : ys.length < 10000000) : MC K rAppend (.l p) [y] μ (.d .non) (upM μ p (.lst (ys ++ [y]))) := by
  intro F H u vs Q hh a1 a2 q
  obtain ⟨v, e, ay⟩ := avs1 a2
  obtain ⟨f0, us, hv, av⟩ := hh.mu p _ m
  rw [show u = V.ref p from a1]
  exact ⟨p, us, v, rfl, e, hv, by rw [av.length]; exact szl hl, q F _ _ (Same.refl _) (hh.put m (av.append ⟨v, [], rfl, ay, rfl⟩)) rfl⟩
theorem mc_pop {p : Addr} {ys : List AV} {y : AV} (m : μ p = some (.lst (ys ++ [y]))) : MC K rPop (.l p) [] μ y (upM μ p (.lst ys)) := by
  intro F H u vs Q hh a1 a2 q
  obtain ⟨f0, us, hv, av⟩ := hh.mu p _ m
  rw [show u = V.ref p from a1]
  obtain ⟨v, hl, ay⟩ := av.get (i := ys.length) (x := y) (by simp)
  have e : us.length - 1 = ys.length := by rw [av.length, List.length_append]; rfl
  refine ⟨p, us, v, rfl, a2, hv, by rw [e]; exact hl, q F _ v (Same.refl _) (hh.put m ?_) ay⟩
  have := av.dropLast
  rwa [List.dropLast_concat] at this
/-! ### slices -/
inductive AO (X : Cx) (ρ : Rho) : Option Expr → Mu → Option Int → Mu → Prop
  | no {μ : Mu} : AO X ρ none μ none μ
  | some {e : Expr} {μ μ1 : Mu} {i : Int} : AE X e ρ μ (.ok (.d (.int i)) μ1) → AO X ρ (some e) μ (some i) μ1
def rdO (X : Cx) : Option Expr → TO
  | none => tNoPart
  | some e => tPart (rdE X e)
theorem po_rd {o : Option Expr} : PO X o (rdO X o) := by
  cases o with
  | none => exact po_none
  | some e => exact po_some pe_rd
theorem AO.go {o : Option Expr} {i : Option Int} (h : AO X ρ o μ i μ1) {F H : Hp} {σ : St} (hs : Sl X.K F ρ σ) (hh : Holds X.K F μ H) {Q : Option Int → Hp → Prop} {W : WX} (tk : Takes X W) (q : ∀ (F' H' : Hp), Same F F' → Holds X.K F' μ1 H' → Q i H') : rdO X o σ H Q := by
  cases h with
  | no => exact q F H (Same.refl _) hh
  | some h => exact h.go hs hh tk fun F1 H1 u e1 h1 a1 => ⟨_, a1, q F1 H1 e1 h1⟩
def cutD {α : Type} (xs : List α) (lo hi : Option Int) : List α := (xs.drop (HT.sIx xs.length 0 lo)).take (HT.sIx xs.length xs.length hi - HT.sIx xs.length 0 lo)
def SC (K : PySem.W.Frag) (r : V → Option Int → Option Int → Hp → VK → Prop) (x : AV) (lo hi : Option Int) (μ : Mu) (z : AV) (μ' : Mu) : Prop :=
  ∀ (F H : Hp) (u : V) (Q : VK), Holds K F μ H → Av K F x u → (∀ (F' H' : Hp) (w : V), Same F F' → Holds K F' μ' H' → Av K F' z w → Q w H') → r u lo hi H Q
theorem ae_slice {lo hi : Option Expr} {i j : Option Int} {p2 : Pos} {r : V → Option Int → Option Int → Hp → VK → Prop} {μ4 : Mu} (hr : SlR X r) (ha : AE X a ρ μ (.ok x μ1)) (hl : AO X ρ lo μ1 i μ2) (hu : AO X ρ hi μ2 j μ3) (hc : SC X.K r x i j μ3 z μ4) :
    AE X (.Subscript a (.Slice lo hi none p2) pos) ρ μ (.ok z μ4) :=
  AE.of (pe_slice hr pe_rd po_rd po_rd) fun F H σ hs hh Q W tk q => ha.go hs hh tk fun F1 H1 u e1 h1 a1 => hl.go (hs.mono e1) h1 tk fun F2 H2 e2 h2 => hu.go (hs.mono (e1.trans e2)) h2 tk fun F3 H3 e3 h3 =>
    hc F3 H3 u Q h3 (a1.mono (e2.trans e3)) fun F4 H4 w e4 h4 a4 => q F4 H4 w (((e1.trans e2).trans e3).trans e4) h4 a4
theorem cut_rps {F : Hp} {ds : List Dt} {vs : List V} (h : Rps K F ds vs) (lo hi : Option Int) : Rps K F (cutD ds lo hi) (cutV vs lo hi) := by
  unfold cutD cutV
  rw [h.length]
  exact Rps.take _ (Rps.drop _ h)
theorem sc_lst {ds : List Dt} {lo hi : Option Int} : SC K (rSlL K) (.d (.lst ds)) lo hi μ (.d (.lst (cutD ds lo hi))) μ := by
  intro F H u Q hh a q
  obtain ⟨p, us, e1, h1, r1⟩ := a
  refine ⟨p, us, e1, SqL.of (hh.ex _ _ h1), fun l hl => ?_⟩
  have f0 := hh.fnone hl
  exact q _ _ _ (same_new f0) (hh.new hl) ⟨l, _, rfl, upd_same, Rps.mono (same_new f0) (cut_rps r1 lo hi)⟩
theorem sc_scr {ns : List Int} {lo hi : Option Int} : SC K (rSlL K) (.d (.scr ns)) lo hi μ (.d (.lst ((cutD ns lo hi).map Dt.int))) μ := by
  intro F H u Q hh a q
  obtain ⟨p, e1, h1⟩ := a
  refine ⟨p, _, e1, Same.seq hh.ex h1, fun l hl => ?_⟩
  have f0 := hh.fnone hl
  refine q _ _ _ (same_new f0) (hh.new hl) ⟨l, _, rfl, upd_same, ?_⟩
  have e : cutV (ns.map V.int) lo hi = (cutD ns lo hi).map V.int := by
    unfold cutV cutD
    rw [List.length_map, ← List.map_drop, ← List.map_take]
  rw [e]
  exact Rps.of_ints _
theorem sc_str {l : List Nat} {lo hi : Option Int} (hz : l.length ≤ 10000000) : SC K rSlS (.d (.str l)) lo hi μ (.d (.str (cutD l lo hi))) μ := by
  intro F H u Q hh a q
  refine ⟨S l, a, by rw [S_len]; exact sz hz, q F H _ (Same.refl _) hh ?_⟩
  show V.str (cutS (S l) lo hi) = V.str (S (cutD l lo hi))
  congr 1
end
end L2.DL
set_option maxHeartbeats 4000000
namespace L2.DL
open PySem PySem.Spec PyProof.Rows
/-- the usual place: no exception is being handled, names are told apart -/
structure Gd (X : Cx) (k : Nat) : Prop where
  calm : X.calm = true
  nd : X.N.Nodup
  po : PassesOwn (model X.prog X.w) X.A X.env X.xe
  hr : Room k X.A
  gu : X.A.guards = some []
def rdS1 (X : Cx) (st : Stmt) : TS := fun Ds σ H => ∀ (pins : List (Addr × Obj)) (s : Shared), Inv X pins σ H s → wpAny (model X.prog X.w) X.A (exec st X.env) (SP X pins Ds) X.xe s
theorem ps_rd {X : Cx} {st : Stmt} : PS X st (rdS1 X st) := ⟨fun pins s _ _ _ I h => h pins s I⟩
def AS1 (X : Cx) (st : Stmt) (ρ : Rho) (μ : Mu) (R : Rs) : Prop :=
  ∀ (F H : Hp) (σ : St), Sl X.K F ρ σ → Holds X.K F μ H → ∀ (Ds : Ends) (W : WX), Takes X W → Lk X.K F R Ds W → rdS1 X st Ds σ H
section
variable {X : Cx} {ρ : Rho} {μ μ1 μ2 μ3 : Mu} {x y z : AV} {e a b c : Expr} {es rest : List Expr} {pos : Pos} {k : Bool} {R : Rs} {st : Stmt} {sts body orelse : List Stmt}
theorem AS1.of {t : TS} (p : PS X st t) (h : ∀ (F H : Hp) (σ : St), Sl X.K F ρ σ → Holds X.K F μ H → ∀ (Ds : Ends) (W : WX), Takes X W → Lk X.K F R Ds W → t Ds σ H) : AS1 X st ρ μ R :=
  fun F H σ hs hh Ds W tk q pins s I => p.run pins s σ H Ds I (h F H σ hs hh Ds W tk q)
theorem as_nil (h : R.nx ρ μ) : AS X [] ρ μ R := fun F H σ hs hh Ds W tk q pins s I => pss_nil.run pins s σ H Ds I (q.nx F H σ ρ μ (Same.refl _) h hs hh)
theorem as_cons (h : AS1 X st ρ μ { R with nx := fun ρ' μ' => AS X sts ρ' μ' R }) : AS X (st :: sts) ρ μ R := fun F H σ hs hh Ds W tk q pins s I =>
  (pss_cons ps_rd pss_rd).run pins s σ H Ds I (h F H σ hs hh { Ds with nx := rdS X sts Ds } W tk
    ⟨fun F' H' σ' ρ' μ' e1 n hs' hh' => n F' H' σ' hs' hh' Ds W tk (q.mono e1), q.rt, q.bk, q.ct, q.ex⟩)
/-- the last one -/
theorem as_one (h : AS1 X st ρ μ R) : AS X [st] ρ μ R := fun F H σ hs hh Ds W tk q pins s I => (pss_one ps_rd).run pins s σ H Ds I (h F H σ hs hh Ds W tk q)
theorem as_pass (h : R.nx ρ μ) : AS1 X (.Pass pos) ρ μ R := AS1.of ps_pass fun F H σ hs hh Ds W tk q => q.nx F H σ ρ μ (Same.refl _) h hs hh
theorem as_break (h : R.bk ρ μ) : AS1 X (.Break pos) ρ μ R := AS1.of ps_break fun F H σ hs hh Ds W tk q => q.bk F H σ ρ μ (Same.refl _) h hs hh
theorem as_cont (h : R.ct ρ μ) : AS1 X (.Continue pos) ρ μ R := AS1.of ps_continue fun F H σ hs hh Ds W tk q => q.ct F H σ ρ μ (Same.refl _) h hs hh
theorem as_asg (i : Nat) {n : Str} {p : Pos} (hN : X.N.Nodup) (he : AE X e ρ μ (.ok x μ1)) (h : R.nx (ρ.set i (some x)) μ1) (hi : X.N[i]? = some n := by rfl) (hx : Loc X.env.scope n := by first | exact Or.inl rfl | exact Or.inr rfl)
    (hs : swapsWith e (some (.Name n p)) pos.line X.env = pure false := by rfl) (hf : X.fn n = true ∨ X.env.scope.names.lookup n = some .local := by first | exact .inl rfl | exact .inr rfl) : AS1 X (.Assign [.Name n p] e pos) ρ μ R :=
  AS1.of (ps_set hN hi hx pe_rd hs hf) fun F H σ hs hh Ds W tk q => he.go hs hh tk fun F1 H1 v e1 h1 a1 => q.nx F1 H1 _ _ _ e1 h ((hs.mono e1).set i a1) h1
theorem as_expr (he : AE X e ρ μ (.ok x μ1)) (h : R.nx ρ μ1) (hs : swapsWith e none pos.line X.env = pure false := by rfl) : AS1 X (.Expr e pos) ρ μ R :=
  AS1.of (ps_expr pe_rd hs) fun F H σ hs hh Ds W tk q => he.go hs hh tk fun F1 H1 v e1 h1 a1 => q.nx F1 H1 _ _ _ e1 h (hs.mono e1) h1
theorem as_exprX {cl : Addr} {d : Dt} (he : AE X e ρ μ (.exc cl d μ1)) (h : R.ex ρ cl d μ1) (hs : swapsWith e none pos.line X.env = pure false := by rfl) : AS1 X (.Expr e pos) ρ μ R :=
  AS1.of (ps_expr pe_rd hs) fun F H σ hs hh Ds W tk q => he.goX hs hh tk fun F1 H1 dd u e1 h1 d1 r1 => q.ex F1 H1 σ ρ _ _ _ dd u e1 h (hs.mono e1) h1 d1 r1
theorem as_ret (he : AE X e ρ μ (.ok x μ1)) (h : R.rt x μ1) : AS1 X (.Return (some e) pos) ρ μ R :=
  AS1.of (ps_ret pe_rd) fun F H σ hs hh Ds W tk q => he.go hs hh tk fun F1 H1 v e1 h1 a1 => q.rt F1 H1 v x _ e1 h h1 a1
theorem as_retX {cl : Addr} {d : Dt} (he : AE X e ρ μ (.exc cl d μ1)) (h : R.ex ρ cl d μ1) : AS1 X (.Return (some e) pos) ρ μ R :=
  AS1.of (ps_ret pe_rd) fun F H σ hs hh Ds W tk q => he.goX hs hh tk fun F1 H1 dd u e1 h1 d1 r1 => q.ex F1 H1 σ ρ _ _ _ dd u e1 h (hs.mono e1) h1 d1 r1
theorem as_retN (h : R.rt (.d .non) μ) : AS1 X (.Return none pos) ρ μ R := AS1.of ps_retN fun F H σ hs hh Ds W tk q => q.rt F H .non _ _ (Same.refl _) h hh rfl
theorem AS.run (h : AS X sts ρ μ R) {F H : Hp} {σ : St} (hs : Sl X.K F ρ σ) (hh : Holds X.K F μ H) {Ds : Ends} {W : WX} (tk : Takes X W) (q : Lk X.K F R Ds W) : rdS X sts Ds σ H := h F H σ hs hh Ds W tk q
theorem as_if (hc : AT X c ρ μ (.ok k μ1)) (h1 : k = true → AS X body ρ μ1 R) (h2 : k = false → AS X orelse ρ μ1 R) : AS1 X (.If c body orelse pos) ρ μ R :=
  AS1.of (ps_if pt_rd pss_rd pss_rd) fun F H σ hs hh Ds W tk q => hc.go hs hh tk fun F1 H1 e1 g1 => by
    cases k with
    | true => exact (h1 rfl).run (hs.mono e1) g1 tk (q.mono e1)
    | false => exact (h2 rfl).run (hs.mono e1) g1 tk (q.mono e1)
/-- the test lets an exception out -/
theorem as_ifX {cl : Addr} {d : Dt} (hc : AT X c ρ μ (.exc cl d μ1)) (h : R.ex ρ cl d μ1) : AS1 X (.If c body orelse pos) ρ μ R :=
  AS1.of (ps_if pt_rd pss_rd pss_rd) fun F H σ hs hh Ds W tk q => hc F H σ hs hh _ W tk fun F1 H1 dd u e1 h1 d1 r1 => q.ex F1 H1 σ ρ _ _ _ dd u e1 h (hs.mono e1) h1 d1 r1
/-- a new list of one's own: name = [..] -/
theorem as_own (i : Nat) {n : Str} {p : Pos} {xs : List AV} (hN : X.N.Nodup) (ha : AA X es ρ μ (.ok xs μ1)) (hl : xs.length ≤ 10000000) (h : ∀ q, μ1 q = none → R.nx (ρ.set i (some (.l q))) (upM μ1 q (.lst xs))) (hi : X.N[i]? = some n := by rfl) (hx : Loc X.env.scope n := by first | exact Or.inl rfl | exact Or.inr rfl)
    {lp : Pos} (hs : swapsWith (.List es lp) (some (.Name n p)) pos.line X.env = pure false := by rfl) (hf : X.fn n = true ∨ X.env.scope.names.lookup n = some .local := by first | exact .inl rfl | exact .inr rfl) : AS1 X (.Assign [.Name n p] (.List es lp) pos) ρ μ R :=
  AS1.of (ps_set hN hi hx (pe_lst pa_rd) hs hf) fun F H σ hs hh Ds W tk q => ha.go hs hh tk fun F1 H1 vs e1 h1 a1 => by
    refine ⟨by rw [a1.length]; exact sz hl, fun d hd => ?_⟩
    exact q.nx F1 _ _ _ _ e1 (h d (h1.mnone hd)) ((hs.mono e1).set i (show Av X.K F1 (.l d) (.ref d) from rfl)) (h1.own hd a1)
/-- name = e, e a new list of one's own -/
theorem as_asgN (i : Nat) {n : Str} {p : Pos} {xs : List AV} (hN : X.N.Nodup) (he : AE X e ρ μ (.new xs μ1)) (h : ∀ q, μ1 q = none → R.nx (ρ.set i (some (.l q))) (upM μ1 q (.lst xs))) (hi : X.N[i]? = some n := by rfl) (hx : Loc X.env.scope n := by first | exact Or.inl rfl | exact Or.inr rfl)
    (hs : swapsWith e (some (.Name n p)) pos.line X.env = pure false := by rfl) (hf : X.fn n = true ∨ X.env.scope.names.lookup n = some .local := by first | exact .inl rfl | exact .inr rfl) : AS1 X (.Assign [.Name n p] e pos) ρ μ R :=
  AS1.of (ps_set hN hi hx pe_rd hs hf) fun F H σ hs hh Ds W tk q => he.goN hs hh tk fun F1 H1 d e1 f0 m0 h1 => q.nx F1 H1 _ _ _ e1 (h d m0) ((hs.mono e1).set i (show Av X.K F1 (.l d) (.ref d) from rfl)) h1
theorem as_retNew {xs : List AV} (he : AE X e ρ μ (.new xs μ1)) (h : ∀ q, μ1 q = none → R.rt (.l q) (upM μ1 q (.lst xs))) : AS1 X (.Return (some e) pos) ρ μ R :=
  AS1.of (ps_ret pe_rd) fun F H σ hs hh Ds W tk q => he.goN hs hh tk fun F1 H1 d e1 f0 m0 h1 => q.rt F1 H1 (.ref d) (.l d) _ e1 (h d m0) h1 rfl
/-- a, b = e1, e2 (two plain names) -/
theorem as_par {i j : Nat} {n m : Str} {px py pt : Pos} {kt k2 pt2} (hc : X.calm = true) (hN : X.N.Nodup) (ha : AA X [a, b] ρ μ (.ok [x, y] μ1)) (h : R.nx ((ρ.set i (some x)).set j (some y)) μ1) (hij : i ≠ j) (hi : X.N[i]? = some n := by rfl) (hj : X.N[j]? = some m := by rfl)
    (hx : X.env.scope.names.lookup n = some .local := by rfl) (hy : X.env.scope.names.lookup m = some .local := by rfl)
    (hw : swappedStores [.Tuple [.Name n px, .Name m py] kt pt] (.Tuple [a, b] k2 pt2) X.env = pure (some [n, m]) := by rfl)
    (hs : swapsWithSole [.Tuple [.Name n px, .Name m py] kt pt] (.Tuple [a, b] k2 pt2) pos.line X.env = pure false := by rfl) :
    AS1 X (.Assign [.Tuple [.Name n px, .Name m py] kt pt] (.Tuple [a, b] k2 pt2) pos) ρ μ R :=
  AS1.of (ps_par hc hN hi hj hij hx hy pa_rd hw hs) fun F H σ hs hh Ds W tk q => ha.go hs hh tk fun F1 H1 vs e1 h1 a1 => by
    obtain ⟨v, u, e2, av, au⟩ := avs2 a1
    exact ⟨v, u, e2, q.nx F1 H1 _ _ _ e1 h (((hs.mono e1).set i av).set j au) h1⟩

/-! ### what is walked -/
/-- J yields the items, one behind the other -/
structure Wk (K : PySem.W.Frag) (F : Hp) (G : Hp → Hp → Prop) (J : It) (items : List Dt) : Prop where
  stop : ∀ i F' H, Same F H → G F' H → items.length ≤ i → J.stop i H
  go : ∀ i F' H, Same F H → G F' H → i < items.length → J.go i H
  yld : ∀ (i : Nat) (F' H : Hp) (μ : Mu) (x : V) (H' : Hp) (d : Dt), Same F F' → Holds K F' μ H → G F' H → items[i]? = some d → J.yld i H x H' → ∃ F'', Same F' F'' ∧ Holds K F'' μ H' ∧ Rp K F'' d x
structure Src (X : Cx) (tg iter : Expr) (ρ : Rho) (μ : Mu) (items : List Dt) (μ1 : Mu) (kp : Mu → Prop := fun _ => True) : Prop where
  run : ∃ wi, PI X tg iter wi ∧ ∀ (F H : Hp) (σ : St), Sl X.K F ρ σ → Holds X.K F μ H → ∀ (Rr : It → Hp → Prop) (W : WX), Takes X W → (∀ (J : It) (F1 H1 : Hp) (G : Hp → Hp → Prop), Same F F1 → Holds X.K F1 μ1 H1 → (∀ F' H' μ', Same F1 F' → Holds X.K F' μ' H' → kp μ' → G F' H') → Wk X.K F1 G J items → Rr J H1) → wi σ H Rr
theorem src_lst {tg : Expr} {ds : List Dt} (h : AE X e ρ μ (.ok (.d (.lst ds)) μ1)) : Src X tg e ρ μ ds μ1 := ⟨_, pi_list pe_rd, fun F H σ hs hh Rr W tk q => h.go hs hh tk fun F1 H1 v e1 h1 a1 => by
  obtain ⟨p, us, ep, hp, rp⟩ := a1
  refine ⟨p, ep, ⟨us, SqL.of (h1.ex _ _ hp)⟩, q _ F1 H1 (fun _ _ => True) e1 h1 (fun _ _ _ _ _ _ => True.intro) ⟨fun i _ H' s _ l => ⟨us, SqL.of (s _ _ hp), by rw [rp.length]; exact l⟩, fun i _ H' s _ l => ?_, fun i F' H2 μ' x H' d s g _ hd y => ?_⟩⟩
  · obtain ⟨w, hw, _⟩ := rp.get' (i := i) (d := ds[i]) (by simp [l])
    exact ⟨us, w, SqL.of (s _ _ hp), hw⟩
  · obtain ⟨w, hw, r⟩ := rp.get' hd
    obtain ⟨eh, yy⟩ := y
    subst eh
    have z := yy us (SqL.of (g.ex _ _ (s _ _ hp)))
    rw [hw] at z
    cases z
    exact ⟨F', Same.refl _, g, Rp.mono s r⟩⟩
theorem src_scr {tg : Expr} {ns : List Int} (h : AE X e ρ μ (.ok (.d (.scr ns)) μ1)) : Src X tg e ρ μ (ns.map Dt.int) μ1 := ⟨_, pi_list pe_rd, fun F H σ hs hh Rr W tk q => h.go hs hh tk fun F1 H1 v e1 h1 a1 => by
  obtain ⟨p, ep, hp⟩ := a1
  refine ⟨p, ep, ⟨_, Same.seq h1.ex hp⟩, q _ F1 H1 (fun _ _ => True) e1 h1 (fun _ _ _ _ _ _ => True.intro) ⟨fun i _ H' s _ l => ⟨_, Same.seq s hp, by simpa using l⟩, fun i _ H' s _ l => ?_, fun i F' H2 μ' x H' d s g _ hd y => ?_⟩⟩
  · rw [List.length_map] at l
    exact ⟨_, V.int ns[i], Same.seq s hp, by simp [l]⟩
  · obtain ⟨eh, yy⟩ := y
    subst eh
    have z := yy _ (Same.seq g.ex (Same.seq s hp))
    rw [List.getElem?_map] at hd z
    cases q : ns[i]? with
    | none => rw [q] at hd; cases hd
    | some n =>
      rw [q] at hd z
      cases hd; cases z
      exact ⟨F', Same.refl _, g, rfl⟩⟩
theorem src_tup {tg : Expr} {ds : List Dt} (h : AE X e ρ μ (.ok (.d (.tup ds)) μ1)) : Src X tg e ρ μ ds μ1 := ⟨_, pi_tup pe_rd, fun F H σ hs hh Rr W tk q => h.go hs hh tk fun F1 H1 v e1 h1 a1 => by
  obtain ⟨p, us, ep, hp, rp⟩ := a1
  refine ⟨p, ep, ⟨us, sqt_mono h1.ex hp⟩, q _ F1 H1 (fun _ _ => True) e1 h1 (fun _ _ _ _ _ _ => True.intro) ⟨fun i _ H' s _ l => ⟨us, sqt_mono s hp, by rw [rp.length]; exact l⟩, fun i _ H' s _ l => ?_, fun i F' H2 μ' x H' d s g _ hd y => ?_⟩⟩
  · obtain ⟨w, hw, _⟩ := rp.get' (i := i) (d := ds[i]) (by simp [l])
    exact ⟨us, w, sqt_mono s hp, hw⟩
  · obtain ⟨w, hw, r⟩ := rp.get' hd
    obtain ⟨eh, yy⟩ := y
    subst eh
    have z := yy us (sqt_mono g.ex (sqt_mono s hp))
    rw [hw] at z
    cases z
    exact ⟨F', Same.refl _, g, Rp.mono s r⟩⟩
theorem src_str {tg : Expr} {l : List Nat} (h : AE X e ρ μ (.ok (.d (.str l)) μ1)) : Src X tg e ρ μ (l.map fun c => .str [c]) μ1 := ⟨_, pi_str pe_rd, fun F H σ hs hh Rr W tk q => h.go hs hh tk fun F1 H1 v e1 h1 a1 => by
  refine ⟨S l, a1, q _ F1 H1 (fun _ _ => True) e1 h1 (fun _ _ _ _ _ _ => True.intro) ⟨fun i _ H' s _ z => ?_, fun i _ H' s _ z => ?_, fun i F' H2 μ' x H' d s g _ hd y => ?_⟩⟩
  · show (S l).cps.size ≤ i
    simpa using z
  · show i < (S l).cps.size
    simpa using z
  · obtain ⟨eh, c, hc, ex⟩ := y
    subst eh
    have hc' : l[i]? = some c := by simpa [S] using hc
    rw [List.getElem?_map, hc'] at hd
    cases hd
    exact ⟨F', Same.refl _, g, ex⟩⟩
/-- range(n) -/
theorem src_range {tg a : Expr} {p : Pos} {n : Int} (hm : X.mg "range" = none) (h : AA X [a] ρ μ (.ok [.d (.int n)] μ1)) (hn : -(2 ^ 62) ≤ n ∧ n < 2 ^ 62) (hg : Gl X "range" := by rfl) (hse : starEach [a] X.env = [(false, eval a X.env)] := by rfl) : Src X tg (.Call (.Name "range" p) [a] [] pos) ρ μ ((List.range n.toNat).map fun (i : Nat) => .int (i : Int)) μ1 :=
  ⟨_, pi_range1 hg hm pa_rd hse, fun F H σ hs hh Rr W tk q => h.go hs hh tk fun F1 H1 vs e1 h1 a1 => by
  obtain ⟨v, e2, av⟩ := avs1 a1
  refine ⟨n, by rw [e2, show v = _ from av], hn.1, hn.2, q _ F1 H1 (fun _ _ => True) e1 h1 (fun _ _ _ _ _ _ => True.intro) ⟨fun i _ H' s _ z => ?_, fun i _ H' s _ z => ?_, fun i F' H2 μ' x H' d s g _ hd y => ?_⟩⟩
  · show n.toNat ≤ i
    simpa using z
  · show i < n.toNat
    simpa using z
  · obtain ⟨eh, ex⟩ := y
    subst eh
    rw [List.getElem?_map] at hd
    cases q : (List.range n.toNat)[i]? with
    | none => rw [q] at hd; cases hd
    | some j =>
      rw [q] at hd
      cases hd
      have ej : j = i := by
        rw [List.getElem?_eq_some_iff] at q
        obtain ⟨h1, h2⟩ := q
        rw [List.getElem_range] at h2
        exact h2.symm
      subst ej
      exact ⟨F', Same.refl _, g, by rw [ex]; show V.int (0 + (j : Int)) = V.int (j : Int); rw [Int.zero_add]⟩⟩
/-- range(lo, hi) -/
theorem src_range2 {tg a b : Expr} {p : Pos} {lo hi : Int} (hm : X.mg "range" = none) (h : AA X [a, b] ρ μ (.ok [.d (.int lo), .d (.int hi)] μ1)) (hn : -(2 ^ 62) ≤ lo ∧ lo < 2 ^ 62 ∧ -(2 ^ 62) ≤ hi ∧ hi < 2 ^ 62) (hg : Gl X "range" := by rfl) (hse : starEach [a, b] X.env = [(false, eval a X.env), (false, eval b X.env)] := by rfl) (hse2 : starEach [b] X.env = [(false, eval b X.env)] := by rfl) :
    Src X tg (.Call (.Name "range" p) [a, b] [] pos) ρ μ ((List.range (hi - lo).toNat).map fun (i : Nat) => .int (lo + (i : Int))) μ1 :=
  ⟨_, pi_range2 hg hm pa_rd hse hse2, fun F H σ hs hh Rr W tk q => h.go hs hh tk fun F1 H1 vs e1 h1 a1 => by
  obtain ⟨v, u, e2, av, au⟩ := avs2 a1
  refine ⟨lo, hi, by rw [e2, show v = _ from av, show u = _ from au], hn, q _ F1 H1 (fun _ _ => True) e1 h1 (fun _ _ _ _ _ _ => True.intro) ⟨fun i _ H' s _ z => ?_, fun i _ H' s _ z => ?_, fun i F' H2 μ' x H' d s g _ hd y => ?_⟩⟩
  · show (hi - lo).toNat ≤ i
    simpa using z
  · show i < (hi - lo).toNat
    simpa using z
  · obtain ⟨eh, ex⟩ := y
    subst eh
    rw [List.getElem?_map] at hd
    cases q : (List.range (hi - lo).toNat)[i]? with
    | none => rw [q] at hd; cases hd
    | some j =>
      rw [q] at hd
      cases hd
      have ej : j = i := by
        rw [List.getElem?_eq_some_iff] at q
        obtain ⟨h1, h2⟩ := q
        rw [List.getElem_range] at h2
        exact h2.symm
      subst ej
      exact ⟨F', Same.refl _, g, ex⟩⟩
/-- reversed(a list) -/
theorem src_rev {tg a : Expr} {p : Pos} {ds : List Dt} (hm : X.mg "reversed" = none) (h : AA X [a] ρ μ (.ok [.d (.lst ds)] μ1)) (hg : Gl X "reversed" := by rfl) (hse : starEach [a] X.env = [(false, eval a X.env)] := by rfl) : Src X tg (.Call (.Name "reversed" p) [a] [] pos) ρ μ ds.reverse μ1 :=
  ⟨_, pi_reversed hg hm pa_rd hse, fun F H σ hs hh Rr W tk q => h.go hs hh tk fun F1 H1 vs e1 h1 a1 => by
  obtain ⟨v, e2, av⟩ := avs1 a1
  obtain ⟨p, us, ep, hp, rp⟩ := av
  have hl := rp.length
  refine ⟨p, us, by rw [e2, ep], SqL.of (h1.ex _ _ hp), q _ F1 H1 (fun _ _ => True) e1 h1 (fun _ _ _ _ _ _ => True.intro) ⟨fun i _ H' s _ z => ?_, fun i _ H' s _ z => ?_, fun i F' H2 μ' x H' d s g _ hd y => ?_⟩⟩
  · rw [List.length_reverse] at z
    show us.length ≤ i
    rw [hl]; exact z
  · rw [List.length_reverse] at z
    exact ⟨by rw [hl]; exact z, us, us[us.length - 1 - i]'(by rw [hl]; omega), SqL.of (s _ _ hp), by simp⟩
  · obtain ⟨eh, yy⟩ := y
    subst eh
    have hi : i < ds.length := by
      have := (List.getElem?_eq_some_iff.mp hd).1
      rwa [List.length_reverse] at this
    rw [List.getElem?_reverse hi] at hd
    obtain ⟨w, hw, r⟩ := rp.get' hd
    have z := yy us (SqL.of (g.ex _ _ (s _ _ hp)))
    rw [hl, hw] at z
    cases z
    exact ⟨F', Same.refl _, g, Rp.mono s r⟩⟩
end
end L2.DL
set_option maxHeartbeats 4000000
namespace L2.DL
open PySem PySem.Spec PyProof.Rows
theorem takes_no {X : Cx} : Takes X (fun _ _ _ _ => False) := fun u s' ⟨_, _, _, _, _, _, _, _, _, _, _, _, _, _, _, _, w⟩ => w.elim
section
variable {X : Cx} {ρ : Rho} {μ μ1 μ2 μ3 : Mu} {x y z : AV} {e a b c iter elt : Expr} {es rest : List Expr} {pos p : Pos} {k : Nat} {R : Rs} {st : Stmt} {sts body : List Stmt} {items : List Dt} {n m : Str}
theorem as_for (g : Gd X k) (j : Nat) {kp : Mu → Prop} (src : Src X (.Name n p) iter ρ μ items μ1 kp) (Pv : Nat → Rho → Mu → Prop) (h0 : Pv 0 ρ μ1)
    (hs : ∀ (i : Nat) (d : Dt) (ρ' : Rho) (μ' : Mu), items[i]? = some d → Pv i ρ' μ' → AS X body (ρ'.set j (some (.d d))) μ' { R with nx := Pv (i + 1), ct := Pv (i + 1), bk := R.nx })
    (hd : ∀ (ρ' : Rho) (μ' : Mu), Pv items.length ρ' μ' → R.nx ρ' μ') (hi : X.N[j]? = some n := by rfl) (hx : Loc X.env.scope n := by first | exact Or.inl rfl | exact Or.inr rfl)
    (hf : X.fn n = true ∨ X.env.scope.names.lookup n = some .local := by first | exact .inl rfl | exact .inr rfl) (hfo : ∀ x, foldedSetIterable iter X.env x = pure x := by intro _; rfl) (hkp : ∀ i ρ' μ', Pv i ρ' μ' → kp μ' := by exact fun _ _ _ _ => True.intro) : AS1 X (.For (.Name n p) iter body [] pos) ρ μ R := by
  obtain ⟨wi, hpi, run⟩ := src.run
  refine AS1.of (ps_for g.po g.calm hpi (pg_name g.nd hi hx hf) pss_rd hfo) fun F H σ hsl hh Ds W tk q => run F H σ hsl hh _ W tk fun J F1 H1 G e1 h1 hG wk => ?_
  refine ⟨fun i m σ' H' => m = items.length - i ∧ i ≤ items.length ∧ ∃ F' ρ' μ', Same F1 F' ∧ Sl X.K F' ρ' σ' ∧ Holds X.K F' μ' H' ∧ Pv i ρ' μ', ⟨_, rfl, Nat.zero_le _, F1, ρ, μ1, Same.refl _, hsl.mono e1, h1, h0⟩, ?_⟩
  rintro i m σ' H' ⟨rfl, hle, F', ρ', μ', s1, sl, hh', pv⟩
  by_cases hlt : i < items.length
  · refine .inr ⟨wk.go i _ H' (s1.trans hh'.ex) (hG F' H' μ' s1 hh' (hkp _ _ _ pv)) hlt, fun σ2 H2 => ∃ F2 ρ2 μ2, Same F1 F2 ∧ Sl X.K F2 ρ2 σ2 ∧ Holds X.K F2 μ2 H2 ∧ Pv (i + 1) ρ2 μ2, fun σ2 H2 h2 => ⟨_, by omega, rfl, hlt, h2⟩, fun v H2 y => ?_⟩
    have hd' : items[i]? = some items[i] := by simp [hlt]
    obtain ⟨F2, s2, h2, r2⟩ := wk.yld i F' H' μ' v H2 _ s1 hh' (hG F' H' μ' s1 hh' (hkp _ _ _ pv)) hd' y
    refine (hs i _ ρ' μ' hd' pv).run ((sl.mono s2).set j r2) h2 tk ⟨fun F3 H3 σ3 ρ3 μ3 s3 pv3 sl3 h3 => ⟨F3, ρ3, μ3, (s1.trans s2).trans s3, sl3, h3, pv3⟩, fun F3 H3 v3 x3 μ3 s3 => q.rt F3 H3 v3 x3 μ3 (((e1.trans s1).trans s2).trans s3),
      fun F3 H3 σ3 ρ3 μ3 s3 => q.nx F3 H3 σ3 ρ3 μ3 (((e1.trans s1).trans s2).trans s3), fun F3 H3 σ3 ρ3 μ3 s3 pv3 sl3 h3 => ⟨F3, ρ3, μ3, (s1.trans s2).trans s3, sl3, h3, pv3⟩,
      fun F3 H3 σ3 ρ3 c3 x3 μ3 dd u s3 => q.ex F3 H3 σ3 ρ3 c3 x3 μ3 dd u (((e1.trans s1).trans s2).trans s3)⟩
  · have ei : i = items.length := by omega
    subst ei
    exact .inl ⟨wk.stop _ _ H' (s1.trans hh'.ex) (hG F' H' μ' s1 hh' (hkp _ _ _ pv)) (Nat.le_refl _), q.nx F' H' σ' ρ' μ' (e1.trans s1) (hd ρ' μ' pv) sl hh'⟩
/-- for a, b in ..: each item a pair -/
theorem as_for2 (g : Gd X k) (j l : Nat) {p1 p2 : Pos} {kt : Nat} {kp : Mu → Prop} (src : Src X (.Tuple [.Name n p1, .Name m p2] kt p) iter ρ μ items μ1 kp) (Pv : Nat → Rho → Mu → Prop) (h0 : Pv 0 ρ μ1)
    (hs : ∀ (i : Nat) (d : Dt) (ρ' : Rho) (μ' : Mu), items[i]? = some d → Pv i ρ' μ' → ∃ d1 d2, d = .tup [d1, d2] ∧ AS X body ((ρ'.set j (some (.d d1))).set l (some (.d d2))) μ' { R with nx := Pv (i + 1), ct := Pv (i + 1), bk := R.nx })
    (hd : ∀ (ρ' : Rho) (μ' : Mu), Pv items.length ρ' μ' → R.nx ρ' μ') (hi : X.N[j]? = some n := by rfl) (hx : Loc X.env.scope n := by first | exact Or.inl rfl | exact Or.inr rfl) (hi2 : X.N[l]? = some m := by rfl) (hx2 : Loc X.env.scope m := by first | exact Or.inl rfl | exact Or.inr rfl)
    (hf : X.fn n = true ∨ X.env.scope.names.lookup n = some .local := by first | exact .inl rfl | exact .inr rfl) (hf2 : X.fn m = true ∨ X.env.scope.names.lookup m = some .local := by first | exact .inl rfl | exact .inr rfl) (hfo : ∀ x, foldedSetIterable iter X.env x = pure x := by intro _; rfl) (hkp : ∀ i ρ' μ', Pv i ρ' μ' → kp μ' := by exact fun _ _ _ _ => True.intro) : AS1 X (.For (.Tuple [.Name n p1, .Name m p2] kt p) iter body [] pos) ρ μ R := by
  obtain ⟨wi, hpi, run⟩ := src.run
  refine AS1.of (ps_for g.po g.calm hpi (pg_tup g.calm (pgs_cons (pg_name g.nd hi hx hf) (pgs_cons (pg_name g.nd hi2 hx2 hf2) pgs_nil))) pss_rd hfo) fun F H σ hsl hh Ds W tk q => run F H σ hsl hh _ W tk fun J F1 H1 G e1 h1 hG wk => ?_
  refine ⟨fun i m σ' H' => m = items.length - i ∧ i ≤ items.length ∧ ∃ F' ρ' μ', Same F1 F' ∧ Sl X.K F' ρ' σ' ∧ Holds X.K F' μ' H' ∧ Pv i ρ' μ', ⟨_, rfl, Nat.zero_le _, F1, ρ, μ1, Same.refl _, hsl.mono e1, h1, h0⟩, ?_⟩
  rintro i m σ' H' ⟨rfl, hle, F', ρ', μ', s1, sl, hh', pv⟩
  by_cases hlt : i < items.length
  · refine .inr ⟨wk.go i _ H' (s1.trans hh'.ex) (hG F' H' μ' s1 hh' (hkp _ _ _ pv)) hlt, fun σ2 H2 => ∃ F2 ρ2 μ2, Same F1 F2 ∧ Sl X.K F2 ρ2 σ2 ∧ Holds X.K F2 μ2 H2 ∧ Pv (i + 1) ρ2 μ2, fun σ2 H2 h2 => ⟨_, by omega, rfl, hlt, h2⟩, fun v H2 y => ?_⟩
    have hd' : items[i]? = some items[i] := by simp [hlt]
    obtain ⟨F2, s2, h2, r2⟩ := wk.yld i F' H' μ' v H2 _ s1 hh' (hG F' H' μ' s1 hh' (hkp _ _ _ pv)) hd' y
    obtain ⟨d1, d2, ed, hb⟩ := hs i _ ρ' μ' hd' pv
    rw [ed] at r2
    obtain ⟨t, us, et, ht, rt⟩ := r2
    obtain ⟨v1, r1, q1, ra, rb⟩ := rt
    obtain ⟨v2, r2', q2, rc, re⟩ := rb
    refine ⟨t, us, et, sqt_mono h2.ex ht, by rw [q1, q2, show r2' = [] from re]; rfl, v1, r1, q1, v2, r2', q2, show r2' = [] from re, ?_⟩
    refine hb.run (((sl.mono s2).set j (show Av X.K F2 (.d d1) v1 from ra)).set l (show Av X.K F2 (.d d2) v2 from rc)) h2 tk ⟨fun F3 H3 σ3 ρ3 μ3 s3 pv3 sl3 h3 => ⟨F3, ρ3, μ3, (s1.trans s2).trans s3, sl3, h3, pv3⟩, fun F3 H3 v3 x3 μ3 s3 => q.rt F3 H3 v3 x3 μ3 (((e1.trans s1).trans s2).trans s3),
      fun F3 H3 σ3 ρ3 μ3 s3 => q.nx F3 H3 σ3 ρ3 μ3 (((e1.trans s1).trans s2).trans s3), fun F3 H3 σ3 ρ3 μ3 s3 pv3 sl3 h3 => ⟨F3, ρ3, μ3, (s1.trans s2).trans s3, sl3, h3, pv3⟩,
      fun F3 H3 σ3 ρ3 c3 x3 μ3 dd u s3 => q.ex F3 H3 σ3 ρ3 c3 x3 μ3 dd u (((e1.trans s1).trans s2).trans s3)⟩
  · have ei : i = items.length := by omega
    subst ei
    exact .inl ⟨wk.stop _ _ H' (s1.trans hh'.ex) (hG F' H' μ' s1 hh' (hkp _ _ _ pv)) (Nat.le_refl _), q.nx F' H' σ' ρ' μ' (e1.trans s1) (hd ρ' μ' pv) sl hh'⟩
theorem as_while (g : Gd X k) (Pv : Nat → Rho → Mu → Prop) {m0 : Nat} (h0 : Pv m0 ρ μ)
    (hs : ∀ (m : Nat) (ρ' : Rho) (μ' : Mu), Pv m ρ' μ' → ∃ t μ'', AT X c ρ' μ' (.ok t μ'') ∧ (t = true → AS X body ρ' μ'' { R with nx := fun ρ2 μ2 => ∃ m', m' < m ∧ Pv m' ρ2 μ2, ct := fun ρ2 μ2 => ∃ m', m' < m ∧ Pv m' ρ2 μ2, bk := R.nx }) ∧ (t = false → R.nx ρ' μ'')) :
    AS1 X (.While c body [] pos) ρ μ R := by
  refine AS1.of (ps_while g.po pt_rd pss_rd) fun F H σ hsl hh Ds W tk q => ?_
  refine ⟨fun m σ' H' => ∃ F' ρ' μ', Same F F' ∧ Sl X.K F' ρ' σ' ∧ Holds X.K F' μ' H' ∧ Pv m ρ' μ', ⟨m0, F, ρ, μ, Same.refl _, hsl, hh, h0⟩, ?_⟩
  rintro m σ' H' ⟨F', ρ', μ', s1, sl, hh', pv⟩
  obtain ⟨t, μ'', hc, h1, h2⟩ := hs m ρ' μ' pv
  refine hc.go sl hh' tk fun F2 H2 e2 g2 => ?_
  cases t with
  | true =>
    refine ⟨fun σ3 H3 => ∃ m', m' < m ∧ ∃ F3 ρ3 μ3, Same F F3 ∧ Sl X.K F3 ρ3 σ3 ∧ Holds X.K F3 μ3 H3 ∧ Pv m' ρ3 μ3, fun σ3 H3 h3 => h3, ?_⟩
    exact (h1 rfl).run (sl.mono e2) g2 tk ⟨fun F3 H3 σ3 ρ3 μ3 s3 ⟨m', hm, pv3⟩ sl3 h3 => ⟨m', hm, F3, ρ3, μ3, (s1.trans e2).trans s3, sl3, h3, pv3⟩, fun F3 H3 v3 x3 μ3 s3 => q.rt F3 H3 v3 x3 μ3 ((s1.trans e2).trans s3),
      fun F3 H3 σ3 ρ3 μ3 s3 => q.nx F3 H3 σ3 ρ3 μ3 ((s1.trans e2).trans s3), fun F3 H3 σ3 ρ3 μ3 s3 ⟨m', hm, pv3⟩ sl3 h3 => ⟨m', hm, F3, ρ3, μ3, (s1.trans e2).trans s3, sl3, h3, pv3⟩,
      fun F3 H3 σ3 ρ3 c3 x3 μ3 dd u s3 => q.ex F3 H3 σ3 ρ3 c3 x3 μ3 dd u ((s1.trans e2).trans s3)⟩
  | false => exact q.nx F2 H2 σ' ρ' μ'' (s1.trans e2) (h2 rfl) (sl.mono e2) g2

/-! ### list comprehensions -/
/-- the block's context -/
abbrev Bk (X : Cx) (scope : Scope) (s : Shared) (H : Hp) (C : Addr) (cl : List (Str × Addr)) (fp : List Addr) : Cx := X.blk s H scope (compEnvC scope cl C X.env) fp
def rdBE (X : Cx) (scope : Scope) (e : Expr) : TE := fun σ H Q => ∀ (s : Shared) (H0 : Hp) (C : Addr) (cl : List (Str × Addr)) (fp : List Addr), rdE (Bk X scope s H0 C cl fp) e σ H Q
def rdBT (X : Cx) (scope : Scope) (e : Expr) : TT := fun σ H Q => ∀ (s : Shared) (H0 : Hp) (C : Addr) (cl : List (Str × Addr)) (fp : List Addr), rdT (Bk X scope s H0 C cl fp) e σ H Q
theorem pe_bk {scope : Scope} (s : Shared) (H : Hp) (C : Addr) (cl : List (Str × Addr)) (fp : List Addr) : PE (X.blk s H scope (compEnvC scope cl C X.env) fp) e (rdBE X scope e) := ⟨fun pins s' _ _ _ I h => h s H C cl fp pins s' I⟩
theorem pt_bk {scope : Scope} (s : Shared) (H : Hp) (C : Addr) (cl : List (Str × Addr)) (fp : List Addr) : PT (X.blk s H scope (compEnvC scope cl C X.env) fp) e (rdBT X scope e) := ⟨fun pins s' _ _ _ I h => h s H C cl fp pins s' I⟩
theorem set_wipe (σ : St) (j : Nat) (v : Option V) : wipe ((wipe σ [j]).set j v) [j] = wipe σ [j] := by
  show List.set (List.set (List.set σ j none) j v) j none = List.set σ j none
  rw [List.set_set, List.set_set]
theorem wipe_set (σ : St) (j : Nat) (v : Option V) : (wipe σ [j]).set j v = σ.set j v := by
  show List.set (List.set σ j none) j v = _
  rw [List.set_set]
/-- the list so far, its address, its items -/
structure Lc (X : Cx) (F1 : Hp) (ν : Mu) (D : Addr) (acc : List Dt) (H' : Hp) : Prop where
  h : ∃ F', Same F1 F' ∧ Holds X.K F' (upM ν D (.lst (acc.map AV.d))) H'
theorem upM_comm {μ : Mu} {p q : Addr} {o u : MO} (h : p ≠ q) : upM (upM μ p o) q u = upM (upM μ q u) p o := by
  funext r
  unfold upM
  by_cases h1 : r = q
  · by_cases h2 : r = p
    · exact absurd (h2.symm.trans h1) h
    · rw [if_pos h1, if_neg h2, if_pos h1]
  · rw [if_neg h1]
    by_cases h2 : r = p
    · rw [if_pos h2, if_pos h2]
    · rw [if_neg h2, if_neg h2, if_neg h1]
/-- the end of a comprehension -/
theorem lc_end {F1 H' : Hp} {ν : Mu} {D : Addr} {acc : List Dt} (hD : ν D = none) (h : Lc X F1 ν D acc H') : ∃ F2, Same F1 F2 ∧ Holds X.K F2 ν H' ∧ Rp X.K F2 (.lst acc) (.ref D) := by
  obtain ⟨F', s, hh⟩ := h
  obtain ⟨F2, s2, h2, r2⟩ := hh.freeze (μ' := ν) (p := D) (ds := acc) upM_same fun q o e => by
    have n : q ≠ D := fun z => by rw [z, hD] at e; cases e
    exact ⟨by rw [upM_ne n]; exact e, n⟩
  exact ⟨F2, s.trans s2, h2, r2⟩
variable {α : Type} {scope : Scope} {ifs : List Expr}
/-- [elt for n in iter]: elements that change nothing -/
theorem ae_lc (g : Gd X k) (j : Nat) (xs : List α) (enc : α → Dt) (f : α → Dt) {kp : Mu → Prop} (src : Src X (.Name n p) iter ρ μ (xs.map enc) μ1 kp) (hl : xs.length ≤ 10000000)
    (he : ∀ (i : Nat) (x : α) (ν : Mu) (s : Shared) (H : Hp) (C : Addr) (cl : List (Str × Addr)) (fp : List Addr), xs[i]? = some x → SubM μ1 ν → AE (Bk X scope s H C cl fp) elt (ρ.set j (some (.d (enc x)))) ν (.ok (.d (f x)) ν))
    (ok : BlkOk X.N X.env.scope scope [(n, j)] := by exact blkOk_by (by first | kernel_rfl | rfl | decide +kernel)) (hi : X.N[j]? = some n := by rfl) (hx : ∀ cl C, Loc (compEnvC scope cl C X.env).scope n := by first | exact fun _ _ => Or.inl rfl | exact fun _ _ => Or.inr rfl)
    (hf : ∀ (s : Shared) (H : Hp) (C : Addr) (cl : List (Str × Addr)) (fp : List Addr), (Bk X scope s H C cl fp).fn n = true ∨ (compEnvC scope cl C X.env).scope.names.lookup n = some .local := by first | exact fun _ _ _ _ _ => .inl rfl | exact fun _ _ _ _ _ => .inr rfl)
    (hfo : ∀ x, foldedSetIterable iter X.env x = pure x := by intro _; rfl) (hkp : ∀ ν, SubM μ1 ν → kp ν := by exact fun _ _ => True.intro) : AE X (.ListComp elt [⟨.Name n p, iter, [], 0⟩] scope pos) ρ μ (.ok (.d (.lst (xs.map f))) μ1) := by
  obtain ⟨wi, hpi, run⟩ := src.run
  refine AE.of (pe_lc (own := [(n, j)]) (g := gName j) (tt := tYes) g.calm g.nd hpi ok (fun s H C cl fp => pg_name g.nd hi (hx cl C) (hf s H C cl fp)) (fun _ _ _ _ _ => pts_nil) (fun s H C cl fp => pe_bk s H C cl fp) hfo) fun F H σ hsl hh Q W tk q => run F H σ hsl hh _ W tk fun J F1 H1 G e1 h1 hG wk => ?_
  intro D hD
  have hDm := h1.mnone hD
  have len : (xs.map enc).length = xs.length := List.length_map ..
  refine ⟨fun i m H' => m = xs.length - i ∧ i ≤ xs.length ∧ Lc X F1 μ1 D ((xs.take i).map f) H', ⟨_, rfl, Nat.zero_le _, ⟨F1, Same.refl _, h1.own hD rfl⟩⟩, ?_⟩
  rintro i m H' ⟨rfl, hle, L⟩
  by_cases hlt : i < xs.length
  · obtain ⟨F', s1, hh'⟩ := id L.h
    refine .inr ⟨wk.go i _ H' (s1.trans hh'.ex) (hG F' H' _ s1 hh' (hkp _ (SubM.up hDm))) (by rw [len]; exact hlt), fun H2 => Lc X F1 μ1 D ((xs.take (i + 1)).map f) H2, fun H2 h2 => ⟨_, by omega, rfl, hlt, h2⟩, fun v H2 y => ?_⟩
    have hx' : xs[i]? = some xs[i] := by simp [hlt]
    have hd' : (xs.map enc)[i]? = some (enc xs[i]) := by rw [List.getElem?_map, hx']; rfl
    obtain ⟨F2, s2, h2, r2⟩ := wk.yld i F' H' _ v H2 _ s1 hh' (hG F' H' _ s1 hh' (hkp _ (SubM.up hDm))) hd' y
    refine ⟨set_wipe σ j (some v), ?_⟩
    show rdBE X scope elt ((wipe σ [j]).set j (some v)) H2 _
    rw [wipe_set]
    intro s0 H0 C cl fp
    refine (he i xs[i] (upM μ1 D (.lst (((xs.take i).map f).map AV.d))) s0 H0 C cl fp hx' (SubM.up hDm)).go (((hsl.mono e1).mono (s1.trans s2)).set j r2) h2 takes_no fun F3 H3 w e3 h3 a3 => ?_
    obtain ⟨f0, vs, hv, av⟩ := h3.mu D _ upM_same
    refine ⟨vs, hv, by rw [av.length, List.length_map, List.length_map, List.length_take]; exact szl (by omega), ⟨F3, (s1.trans s2).trans e3, ?_⟩⟩
    have z := h3.put (o := .lst (((xs.take i).map f).map AV.d)) (p := D) (xs := ((xs.take (i + 1)).map f).map AV.d) upM_same (by
      rw [List.take_succ, hx', List.map_append, List.map_append]
      exact av.append ⟨w, [], rfl, a3, rfl⟩)
    rw [upM_upM] at z
    exact z
  · have ei : i = xs.length := by omega
    subst ei
    rw [List.take_length] at L
    obtain ⟨F2, s2, h2, r2⟩ := lc_end hDm L
    obtain ⟨F0, s0, hh0⟩ := id L.h
    exact .inl ⟨wk.stop _ F0 H' (s0.trans hh0.ex) (hG F0 H' _ s0 hh0 (hkp _ (SubM.up hDm))) (by rw [len]; exact Nat.le_refl _), q F2 H' _ (e1.trans s2) h2 r2⟩
/-- [elt for n in iter if c] -/
theorem ae_lcif (g : Gd X k) (j : Nat) (xs : List α) (enc : α → Dt) (t : α → Bool) (f : α → Dt) {kp : Mu → Prop} (src : Src X (.Name n p) iter ρ μ (xs.map enc) μ1 kp) (hl : xs.length ≤ 10000000)
    (ht : ∀ (i : Nat) (x : α) (ν : Mu) (s : Shared) (H : Hp) (C : Addr) (cl : List (Str × Addr)) (fp : List Addr), xs[i]? = some x → SubM μ1 ν → AT (Bk X scope s H C cl fp) c (ρ.set j (some (.d (enc x)))) ν (.ok (t x) ν))
    (he : ∀ (i : Nat) (x : α) (ν : Mu) (s : Shared) (H : Hp) (C : Addr) (cl : List (Str × Addr)) (fp : List Addr), xs[i]? = some x → t x = true → SubM μ1 ν → AE (Bk X scope s H C cl fp) elt (ρ.set j (some (.d (enc x)))) ν (.ok (.d (f x)) ν))
    (ok : BlkOk X.N X.env.scope scope [(n, j)] := by exact blkOk_by (by first | kernel_rfl | rfl | decide +kernel)) (hi : X.N[j]? = some n := by rfl) (hx : ∀ cl C, Loc (compEnvC scope cl C X.env).scope n := by first | exact fun _ _ => Or.inl rfl | exact fun _ _ => Or.inr rfl)
    (hf : ∀ (s : Shared) (H : Hp) (C : Addr) (cl : List (Str × Addr)) (fp : List Addr), (Bk X scope s H C cl fp).fn n = true ∨ (compEnvC scope cl C X.env).scope.names.lookup n = some .local := by first | exact fun _ _ _ _ _ => .inl rfl | exact fun _ _ _ _ _ => .inr rfl)
    (hfo : ∀ x, foldedSetIterable iter X.env x = pure x := by intro _; rfl) (hkp : ∀ ν, SubM μ1 ν → kp ν := by exact fun _ _ => True.intro) : AE X (.ListComp elt [⟨.Name n p, iter, [c], 0⟩] scope pos) ρ μ (.ok (.d (.lst ((xs.filter t).map f))) μ1) := by
  obtain ⟨wi, hpi, run⟩ := src.run
  refine AE.of (pe_lc (own := [(n, j)]) (g := gName j) (tt := rdBT X scope c) g.calm g.nd hpi ok (fun s H C cl fp => pg_name g.nd hi (hx cl C) (hf s H C cl fp)) (fun s H C cl fp => pts_one (pt_bk s H C cl fp)) (fun s H C cl fp => pe_bk s H C cl fp) hfo) fun F H σ hsl hh Q W tk q => run F H σ hsl hh _ W tk fun J F1 H1 G e1 h1 hG wk => ?_
  intro D hD
  have hDm := h1.mnone hD
  have len : (xs.map enc).length = xs.length := List.length_map ..
  refine ⟨fun i m H' => m = xs.length - i ∧ i ≤ xs.length ∧ Lc X F1 μ1 D (((xs.take i).filter t).map f) H', ⟨_, rfl, Nat.zero_le _, ⟨F1, Same.refl _, h1.own hD rfl⟩⟩, ?_⟩
  rintro i m H' ⟨rfl, hle, L⟩
  by_cases hlt : i < xs.length
  · obtain ⟨F', s1, hh'⟩ := id L.h
    refine .inr ⟨wk.go i _ H' (s1.trans hh'.ex) (hG F' H' _ s1 hh' (hkp _ (SubM.up hDm))) (by rw [len]; exact hlt), fun H2 => Lc X F1 μ1 D (((xs.take (i + 1)).filter t).map f) H2, fun H2 h2 => ⟨_, by omega, rfl, hlt, h2⟩, fun v H2 y => ?_⟩
    have hx' : xs[i]? = some xs[i] := by simp [hlt]
    have hd' : (xs.map enc)[i]? = some (enc xs[i]) := by rw [List.getElem?_map, hx']; rfl
    obtain ⟨F2, s2, h2, r2⟩ := wk.yld i F' H' _ v H2 _ s1 hh' (hG F' H' _ s1 hh' (hkp _ (SubM.up hDm))) hd' y
    refine ⟨set_wipe σ j (some v), ?_⟩
    show rdBT X scope c ((wipe σ [j]).set j (some v)) H2 _
    rw [wipe_set]
    intro s0 H0 C cl fp
    have sub := SubM.up (μ := μ1) (p := D) (o := .lst ((((xs.take i).filter t).map f).map AV.d)) hDm
    refine (ht i xs[i] _ s0 H0 C cl fp hx' sub).go (((hsl.mono e1).mono (s1.trans s2)).set j r2) h2 takes_no fun F3 H3 e3 h3 => ?_
    by_cases b : t xs[i] = true
    · rw [b]
      refine iteT ?_
      show rdBE X scope elt ((wipe σ [j]).set j (some v)) H3 _
      rw [wipe_set]
      intro s0 H0 C cl fp
      refine (he i xs[i] _ s0 H0 C cl fp hx' b sub).go (((hsl.mono e1).mono ((s1.trans s2).trans e3)).set j (Rp.mono e3 r2)) h3 takes_no fun F4 H4 w e4 h4 a4 => ?_
      obtain ⟨f0, vs, hv, av⟩ := h4.mu D _ upM_same
      refine ⟨vs, hv, ?_, ⟨F4, ((s1.trans s2).trans e3).trans e4, ?_⟩⟩
      · rw [av.length, List.length_map, List.length_map]
        have := List.length_filter_le t (xs.take i)
        rw [List.length_take] at this
        exact szl (by omega)
      have z := h4.put (o := .lst ((((xs.take i).filter t).map f).map AV.d)) (p := D) (xs := (((xs.take (i + 1)).filter t).map f).map AV.d) upM_same (by
        rw [List.take_succ, hx', List.filter_append, List.map_append, List.map_append]
        have ef : List.filter t (some xs[i]).toList = [xs[i]] := by simp [b]
        rw [ef]
        exact av.append ⟨w, [], rfl, a4, rfl⟩)
      rw [upM_upM] at z
      exact z
    · have b' : t xs[i] = false := by simpa using b
      rw [b']
      refine iteF ⟨F3, (s1.trans s2).trans e3, ?_⟩
      have ef : (xs.take (i + 1)).filter t = (xs.take i).filter t := by
        rw [List.take_succ, hx', List.filter_append]
        simp [b']
      rw [ef]
      exact h3
  · have ei : i = xs.length := by omega
    subst ei
    rw [List.take_length] at L
    obtain ⟨F2, s2, h2, r2⟩ := lc_end hDm L
    obtain ⟨F0, s0, hh0⟩ := id L.h
    exact .inl ⟨wk.stop _ F0 H' (s0.trans hh0.ex) (hG F0 H' _ s0 hh0 (hkp _ (SubM.up hDm))) (by rw [len]; exact Nat.le_refl _), q F2 H' _ (e1.trans s2) h2 r2⟩
/-- [elt for n in iter]: an object at c is changed turn by turn -/
theorem ae_lcG (g : Gd X k) (j : Nat) {cg : Addr} (G : Nat → MO) (f : Nat → Dt) {kp : Mu → Prop} (src : Src X (.Name n p) iter ρ μ items μ1 kp) (h0 : μ1 cg = some (G 0)) (hl : items.length ≤ 10000000)
    (he : ∀ (i : Nat) (d : Dt) (ν : Mu) (s : Shared) (H : Hp) (C : Addr) (cl : List (Str × Addr)) (fp : List Addr), items[i]? = some d → ν cg = some (G i) → (∀ q o, q ≠ cg → μ1 q = some o → ν q = some o) → AE (Bk X scope s H C cl fp) elt (ρ.set j (some (.d d))) ν (.ok (.d (f i)) (upM ν cg (G (i + 1)))))
    (ok : BlkOk X.N X.env.scope scope [(n, j)] := by exact blkOk_by (by first | kernel_rfl | rfl | decide +kernel)) (hi : X.N[j]? = some n := by rfl) (hx : ∀ cl C, Loc (compEnvC scope cl C X.env).scope n := by first | exact fun _ _ => Or.inl rfl | exact fun _ _ => Or.inr rfl)
    (hf : ∀ (s : Shared) (H : Hp) (C : Addr) (cl : List (Str × Addr)) (fp : List Addr), (Bk X scope s H C cl fp).fn n = true ∨ (compEnvC scope cl C X.env).scope.names.lookup n = some .local := by first | exact fun _ _ _ _ _ => .inl rfl | exact fun _ _ _ _ _ => .inr rfl)
    (hfo : ∀ x, foldedSetIterable iter X.env x = pure x := by intro _; rfl) (hkp : ∀ ν, (∀ q o, q ≠ cg → μ1 q = some o → ν q = some o) → kp ν := by exact fun _ _ => True.intro) : AE X (.ListComp elt [⟨.Name n p, iter, [], 0⟩] scope pos) ρ μ (.ok (.d (.lst ((List.range items.length).map f))) (upM μ1 cg (G items.length))) := by
  obtain ⟨wi, hpi, run⟩ := src.run
  refine AE.of (pe_lc (own := [(n, j)]) (g := gName j) (tt := tYes) g.calm g.nd hpi ok (fun s H C cl fp => pg_name g.nd hi (hx cl C) (hf s H C cl fp)) (fun _ _ _ _ _ => pts_nil) (fun s H C cl fp => pe_bk s H C cl fp) hfo) fun F H σ hsl hh Q W tk q => run F H σ hsl hh _ W tk fun J F1 H1 Gd e1 h1 hG wk => ?_
  intro D hD
  have hDm := h1.mnone hD
  have hDg : D ≠ cg := fun z => by rw [z, h0] at hDm; cases hDm
  have keepN : ∀ {i : Nat} {o : MO}, ∀ q u, q ≠ cg → μ1 q = some u → (upM (upM μ1 cg (G i)) D o) q = some u := fun {i o} q u nq eq => by
    have nD : q ≠ D := fun z => by rw [z, hDm] at eq; cases eq
    rw [upM_ne nD, upM_ne nq]
    exact eq
  have hDn : ∀ i, (upM μ1 cg (G i)) D = none := fun i => by rw [upM_ne hDg]; exact hDm
  refine ⟨fun i m H' => m = items.length - i ∧ i ≤ items.length ∧ Lc X F1 (upM μ1 cg (G i)) D ((List.range i).map f) H', ⟨_, rfl, Nat.zero_le _, ⟨F1, Same.refl _, ?_⟩⟩, ?_⟩
  · rw [upM_self h0]
    exact h1.own hD rfl
  rintro i m H' ⟨rfl, hle, L⟩
  by_cases hlt : i < items.length
  · obtain ⟨F', s1, hh'⟩ := id L.h
    refine .inr ⟨wk.go i _ H' (s1.trans hh'.ex) (hG F' H' _ s1 hh' (hkp _ keepN)) hlt, fun H2 => Lc X F1 (upM μ1 cg (G (i + 1))) D ((List.range (i + 1)).map f) H2, fun H2 h2 => ⟨_, by omega, rfl, hlt, h2⟩, fun v H2 y => ?_⟩
    have hd' : items[i]? = some items[i] := by simp [hlt]
    obtain ⟨F2, s2, h2, r2⟩ := wk.yld i F' H' _ v H2 _ s1 hh' (hG F' H' _ s1 hh' (hkp _ keepN)) hd' y
    refine ⟨set_wipe σ j (some v), ?_⟩
    show rdBE X scope elt ((wipe σ [j]).set j (some v)) H2 _
    rw [wipe_set]
    intro s0 H0 C cl fp
    refine (he i items[i] (upM (upM μ1 cg (G i)) D (.lst (((List.range i).map f).map AV.d))) s0 H0 C cl fp hd' (by rw [upM_ne (Ne.symm hDg), upM_same]) (fun q o nq eq => ?_)).go (((hsl.mono e1).mono (s1.trans s2)).set j r2) h2 takes_no fun F3 H3 w e3 h3 a3 => ?_
    · have nD : q ≠ D := fun z => by rw [z, hDm] at eq; cases eq
      rw [upM_ne nD, upM_ne nq]
      exact eq
    · rw [upM_comm hDg, upM_upM] at h3
      obtain ⟨f0, vs, hv, av⟩ := h3.mu D _ upM_same
      refine ⟨vs, hv, by rw [av.length, List.length_map, List.length_map, List.length_range]; exact szl (by omega), ⟨F3, (s1.trans s2).trans e3, ?_⟩⟩
      have z := h3.put (o := .lst (((List.range i).map f).map AV.d)) (p := D) (xs := ((List.range (i + 1)).map f).map AV.d) upM_same (by
        rw [List.range_succ, List.map_append, List.map_append]
        exact av.append ⟨w, [], rfl, a3, rfl⟩)
      rw [upM_upM] at z
      exact z
  · have ei : i = items.length := by omega
    subst ei
    obtain ⟨F2, s2, h2, r2⟩ := lc_end (hDn _) L
    obtain ⟨F0, s0, hh0⟩ := id L.h
    exact .inl ⟨wk.stop _ F0 H' (s0.trans hh0.ex) (hG F0 H' _ s0 hh0 (hkp _ keepN)) (Nat.le_refl _), q F2 H' _ (e1.trans s2) h2 r2⟩
end
end L2.DL
set_option maxHeartbeats 4000000
namespace L2.DL
open PySem PySem.Spec PyProof.Rows
/-- a promise that holds where nothing is being shown by repr -/
structure FnG (P : Program) (w : World) (K : PySem.W.Frag) (mg : Str → Option Value) (base : Heap) (k : Nat) (f : Addr) (fd : FuncData) (ps : List Str) (sp : Sp) : Prop where
  len : ∀ vs H Q E, sp vs H Q E → vs.length = ps.length
  run : ∀ (A : Around) (outer : List Env) (s : Shared) (H : Hp) (args : Args) (us : List Value) (vs : List V) (Q : VK) (E : XK), Room k A → A.guards = some [] → Env0 P w K mg base A outer s H → BindsTo s fd args (ps.zip us) → Vals vs us →
    sp vs H Q E → codeAny (model P w) A (.call (.ref f) args) (CR (L2.CX P w) outer P w H s Q E) s
theorem FnG.mono {P : Program} {w : World} {K : PySem.W.Frag} {mg : Str → Option Value} {base : Heap} {j k : Nat} {f : Addr} {fd : FuncData} {ps : List Str} {sp : Sp} (G : FnG P w K mg base j f fd ps sp) (h : j ≤ k) : FnG P w K mg base k f fd ps sp :=
  ⟨G.len, fun A outer s H args us vs Q E hr => G.run A outer s H args us vs Q E (hr.mono h)⟩
theorem FnG.imp {P : Program} {w : World} {K : PySem.W.Frag} {mg : Str → Option Value} {base : Heap} {k : Nat} {f : Addr} {fd : FuncData} {ps : List Str} {sp sp' : Sp} (G : FnG P w K mg base k f fd ps sp) (h : ∀ vs H Q E, sp' vs H Q E → sp vs H Q E) : FnG P w K mg base k f fd ps sp' :=
  ⟨fun vs H Q E q => G.len vs H Q E (h _ _ _ _ q), fun A outer s H args us vs Q E hr hg e0 hb hv q => G.run A outer s H args us vs Q E hr hg e0 hb hv (h _ _ _ _ q)⟩
/-- the context of a body -/
abbrev Bd (P : Program) (w : World) (K : PySem.W.Frag) (mg : Str → Option Value) (base : Heap) (N : List Str) (qual : Str) (st : Stmt) (f : Addr) (cdv : Value) (A : Around) (outer : List Env) (s : Shared) (H : Hp) (E : XK) : Cx :=
  cxOf (L2.CX P w) P w K mg base N qual (defScope st) f cdv A outer s H E
section
variable {P : Program} {w : World} {K : PySem.W.Frag} {mg : Str → Option Value} {base : Heap}
/-- a def keeps a promise by its body -/
theorem fnG_of {x qual : Str} {st : Stmt} {kws : List (Str × V)} {dvs : List V} {f : Addr} {fd : FuncData} {N ps : List Str} {k : Nat} {sp : Sp} (F : FunD K x qual (defArgs st) (defBody st) (defScope st) dvs kws f fd) (S : FnScope N ps (defScope st)) (len : ∀ vs H Q E, sp vs H Q E → vs.length = ps.length)
    (hb : ∀ (cdv : Value) (A : Around) (outer : List Env) (s : Shared) (H : Hp) (vs : List V) (Q : VK) (E : XK), Gd (Bd P w K mg base N qual st f cdv A outer s H E) k → sp vs H Q E →
      rdS (Bd P w K mg base N qual st f cdv A outer s H E) (defBody st) { nx := fun _ H' => Q .non H', rt := Q } (start N vs) H) : FnG P w K mg base (k + 1) f fd ps sp := by
  obtain ⟨oc, od, dV, kV, doc, pm, an, cdv, ct, osl, rfl, lk, hcd, _, _⟩ := F.ex
  refine ⟨len, ?_⟩
  intro A outer s H args us vs Q E hr hgu e0 bind rel hsp
  have lenv := len _ _ _ _ hsp
  have inK : K.In s.heap := e0.mod.kin.keeps (fun b o e => (e0.bs b o e).1)
  have nlim : s.heap.NoLimit := e0.mod.nolimit.keeps (fun b o e => (e0.bs b o e).1)
  have kinds : ∀ y ∈ ps.zip us, (defScope st).names.lookup y.1 = some .local ∨ ((defScope st).names.lookup y.1 = some .cell ∧ ((cellsFrom (s.heap.objs.size + 1) (defScope st).names []).lookup y.1).isSome = true) := by
    rintro ⟨n, v⟩ hy
    rcases S.par n (List.of_mem_zip hy).1 with q | q
    · exact .inl q
    · exact .inr ⟨q, PySem.W.cellsFrom_some _ _ _ (.inl q)⟩
  refine codeAny_call_function hr.depth (inK _ _ lk) rfl S.co S.gen rfl (PySem.W.codeRec_of inK hcd) (bind _ _ _ _ ?_)
  refine wpAny_newFunctionEnv_cells S.kind kinds (fun env he s1 ic => ?_)
  subst he
  refine ⟨nlim.keeps ic.toInCall.keep, codeAny_func ?_⟩
  have I := inv_start (CX := L2.CX P w) (E := E) S hr.hd e0 lenv rel ic
  have gd : Gd (Bd P w K mg base N qual st f cdv A outer s H E) k := ⟨rfl, S.nd, passes_of rfl, hr.deeper _, hgu⟩
  refine wpAny_mono (hb cdv A outer s H vs Q E gd hsp [] s1 I) (fun fl s' h => ?_) (fun e s' h => h)
  cases fl with
  | ret u =>
    obtain ⟨v, σ', H', J, rv, q⟩ := h
    exact ⟨v, H', J.os, J.bare, J.base, J.hok, rv, q⟩
  | next =>
    obtain ⟨σ', H', J, q⟩ := h
    exact ⟨V.non, H', J.os, J.bare, J.base, J.hok, rfl, q⟩
  | brk => obtain ⟨_, _, _, q⟩ := h; exact q.elim
  | cont => obtain ⟨_, _, _, q⟩ := h; exact q.elim
end

/-! ### contracts over data -/
abbrev Ct := List AV → Mu → ERes → Prop
def LkF (K : PySem.W.Frag) (F : Hp) (Q : VK) (E : XK) : ERes → Prop
  | .ok x μ' => ∀ (F' H' : Hp) (v : V), Same F F' → Holds K F' μ' H' → Av K F' x v → Q v H'
  | .exc c x μ' => ∀ (F' H' : Hp) (dd : Addr) (u : V), Same F F' → Holds K F' μ' H' → F' dd = some (.xd [("value", u)]) → Rp K F' x u → E (.ref c) (some dd) H'
  | .new xs μ' => ∀ (F' H' : Hp) (p : Addr), Same F F' → F' p = none → μ' p = none → Holds K F' (upM μ' p (.lst xs)) H' → Q (.ref p) H'
theorem LkF.mono {K : PySem.W.Frag} {F F1 : Hp} {Q : VK} {E : XK} {o : ERes} (s : Same F F1) (h : LkF K F Q E o) : LkF K F1 Q E o := by
  cases o with
  | ok x μ => exact fun F' H' v e => h F' H' v (s.trans e)
  | exc c x μ => exact fun F' H' dd u e => h F' H' dd u (s.trans e)
  | new xs μ => exact fun F' H' p e => h F' H' p (s.trans e)
def spOf (K : PySem.W.Frag) (n : Nat) (C : Ct) : Sp := fun vs H Q E => ∃ (F : Hp) (μ : Mu) (xs : List AV) (o : ERes), Holds K F μ H ∧ xs.length = n ∧ Avs K F xs vs ∧ C xs μ o ∧ LkF K F Q E o
/-- x, with the store μ, is what is promised -/
def Out (x : AV) (μ : Mu) (o : ERes) : Prop := ∀ (K : PySem.W.Frag) (F H : Hp) (v : V) (Q : VK) (E : XK), Holds K F μ H → Av K F x v → LkF K F Q E o → Q v H
theorem Out.mk {x : AV} {μ μ' : Mu} {o : ERes} (h : o = .ok x μ') (s : SubM μ' μ) : Out x μ o := fun K F H v Q E hh a l => by
  subst h
  exact l F H v (Same.refl _) (hh.sub s) a
theorem Out.frz {p : Addr} {ds : List Dt} {μ μ' : Mu} {o : ERes} (h : o = .ok (.d (.lst ds)) μ') (m : μ p = some (.lst (ds.map AV.d))) (s : SubM μ' μ) (n : μ' p = none) : Out (.l p) μ o := fun K F H v Q E hh a l => by
  obtain ⟨F', s1, h1, r1⟩ := hh.freeze (μ' := μ') m (fun q u e => ⟨s q u e, fun z => by rw [z, n] at e; cases e⟩)
  subst h
  rw [show v = V.ref p from a]
  exact l F' H _ s1 h1 r1
theorem Out.new {p : Addr} {xs : List AV} {μ μ' : Mu} {o : ERes} (h : o = .new xs μ') (m : μ p = some (.lst xs)) (s : SubM μ' μ) (n : μ' p = none) : Out (.l p) μ o := fun K F H v Q E hh a l => by
  subst h
  rw [show v = V.ref p from a]
  refine l F H p (Same.refl _) (hh.mu p _ m).1 n (hh.sub fun q u e => ?_)
  by_cases z : q = p
  · subst z
    rw [upM_same] at e
    rw [m, e]
  · rw [upM_ne z] at e
    exact s q u e
def Raised (c : Addr) (x : Dt) (μ : Mu) (o : ERes) : Prop := ∃ μ', o = .exc c x μ' ∧ SubM μ' μ
/-- what a body is to end in -/
def Ro (o : ERes) : Rs := { nx := fun _ μ' => Out (.d .non) μ' o, rt := fun x μ' => Out x μ' o, ex := fun _ c x μ' => Raised c x μ' o }
def rho0 (N : List Str) (xs : List AV) : Rho := xs.map some ++ List.replicate (N.length - xs.length) none
theorem sl_start {K : PySem.W.Frag} {F : Hp} {N : List Str} {xs : List AV} {vs : List V} (a : Avs K F xs vs) : Sl K F (rho0 N xs) (start N vs) := by
  have hl := a.length
  refine ⟨by simp [rho0, start, hl], fun i x e => ?_⟩
  unfold rho0 at e
  unfold start
  by_cases h : i < xs.length
  · rw [List.getElem?_append_left (by simpa using h), List.getElem?_map] at e
    cases q : xs[i]? with
    | none => rw [q] at e; cases e
    | some y =>
      rw [q] at e
      cases e
      obtain ⟨v, hv, av⟩ := a.get q
      refine ⟨v, ?_, av⟩
      rw [List.getElem?_append_left (by simpa [hl] using h), List.getElem?_map, hv]
      rfl
  · rw [List.getElem?_append_right (by simpa using h), List.getElem?_replicate] at e
    split at e <;> cases e
section
variable {P : Program} {w : World} {K : PySem.W.Frag} {mg : Str → Option Value} {base : Heap}
theorem spOf_len {C : Ct} {n : Nat} {vs : List V} {H : Hp} {Q : VK} {E : XK} (h : spOf K n C vs H Q E) : vs.length = n := by
  obtain ⟨F, μ, xs, o, _, h1, h2, _⟩ := h
  rw [h2.length, h1]
/-- THE RULE for a def: from the body over data -/
theorem fnG {x qual : Str} {st : Stmt} {kws : List (Str × V)} {dvs : List V} {f : Addr} {fd : FuncData} {N ps : List Str} {k : Nat} {C : Ct} (F : FunD K x qual (defArgs st) (defBody st) (defScope st) dvs kws f fd) (S : FnScope N ps (defScope st))
    (hb : ∀ (cdv : Value) (A : Around) (outer : List Env) (s : Shared) (H : Hp) (E : XK) (xs : List AV) (μ : Mu) (o : ERes), Gd (Bd P w K mg base N qual st f cdv A outer s H E) k → xs.length = ps.length → C xs μ o →
      AS (Bd P w K mg base N qual st f cdv A outer s H E) (defBody st) (rho0 N xs) μ (Ro o)) : FnG P w K mg base (k + 1) f fd ps (spOf K ps.length C) := by
  refine fnG_of F S (fun vs H Q E h => spOf_len h) fun cdv A outer s H vs Q E gd h => ?_
  obtain ⟨Fz, μ, xs, o, hh, hl, av, hc, lk⟩ := h
  refine (hb cdv A outer s H E xs μ o gd hl hc).run (sl_start av) hh (W := fun cls d _ H => E cls d H) (takes_of rfl rfl rfl rfl) ⟨?_, ?_, fun _ _ _ _ _ _ z => z.elim, fun _ _ _ _ _ _ z => z.elim, ?_⟩
  · exact fun F' H' σ' ρ' μ' s1 z sl h' => z K F' H' .non Q E h' rfl (lk.mono s1)
  · exact fun F' H' v y μ' s1 z h' a' => z K F' H' v Q E h' a' (lk.mono s1)
  · intro F' H' σ' ρ' c d μ' dd u s1 z sl h' e1 r1
    obtain ⟨μ'', e, s2⟩ := z
    subst e
    exact lk F' H' dd u s1 (h'.sub s2) e1 r1
/-- a weaker promise -/
theorem FnG.weak {k n : Nat} {f : Addr} {fd : FuncData} {ps : List Str} {C C' : Ct} (G : FnG P w K mg base k f fd ps (spOf K n C)) (h : ∀ xs μ o, C' xs μ o → C xs μ o) : FnG P w K mg base k f fd ps (spOf K n C') :=
  G.imp fun vs H Q E ⟨F, μ, xs, o, h1, h2, h3, h4, h5⟩ => ⟨F, μ, xs, o, h1, h2, h3, h _ _ _ h4, h5⟩
end

/-! ### calls -/
section
variable {X : Cx} {ρ : Rho} {μ μ1 μ2 : Mu} {e : Expr} {es : List Expr} {kws : List Keyword} {pos p : Pos} {n : Str} {k : Nat} {f : Addr} {fd : FuncData} {ps : List Str} {C : Ct} {xs zs : List AV} {o : ERes}
theorem runG {sp : Sp} {pins : List (Addr × Obj)} {σ : St} {H : Hp} {s : Shared} {Q : VK} {E : XK} {us : List Value} {kw : List (Str × Value)} {ws : List Value} {vs : List V} (G : FnG X.prog X.w X.K X.mg X.base k f fd ps sp) (hr : Room k X.A) (hgu : X.A.guards = some [])
    (hb : BindsTo s fd ⟨us, kw⟩ (ps.zip ws)) (hx : ∀ e s', L2.CX X.prog X.w X.stack H s E e s' → X.xe e s') (I : Inv X pins σ H s) (r : Vals vs ws) (h : sp vs H Q E) : wpAny (model X.prog X.w) X.A (call (.ref f) us kw) (EP X pins σ Q) X.xe s := by
  refine wpAny_call (codeAny_mono (G.run X.A X.stack s H ⟨us, kw⟩ ws vs Q E hr hgu I.env0 hb r h) ?_)
  intro r s' hq
  cases r with
  | error e => exact hx e s' hq
  | ok fl =>
    cases fl with
    | ret u => exact I.after hq
    | next => exact hq.elim
    | brk => exact hq.elim
    | cont => exact hq.elim
theorem go_call {Q : VK} {W : WX} {σ : St} {F0 F1 H1 : Hp} {vs : List V} (e1 : Same F0 F1) (h1 : Holds X.K F1 μ1 H1) (av : Avs X.K F1 xs vs) (hl : xs.length = ps.length) (hC : C xs μ1 o) (q : LkE X.K F0 σ Q W o) : spOf X.K ps.length C vs H1 Q (fun cls d H' => W cls d σ H') := by
  refine ⟨F1, μ1, xs, o, h1, hl, av, hC, ?_⟩
  cases o with
  | ok y μ' => exact fun F' H' v s => q F' H' v (e1.trans s)
  | exc c d μ' => exact fun F' H' dd u s => q F' H' dd u (e1.trans s)
  | new ys μ' => exact fun F' H' p s => q F' H' p (e1.trans s)
/-- f(e, ..) -/
theorem ae_call {j : Nat} (g : Gd X j) (G : FnG X.prog X.w X.K X.mg X.base k f fd ps (spOf X.K ps.length C)) (hm : X.mg n = some (.ref f)) (hk : PySem.W.keepIn X.K (.ref f) = true) (hb : Binds X.K fd ps []) (ha : AA X (e :: es) ρ μ (.ok xs μ1)) (hC : C xs μ1 o) (hl : xs.length = ps.length := by rfl) (hjk : k ≤ j := by decide) (hg : Gl X n := by rfl)
    (hdb : (n == ("__debug__" : Str)) = false := by decide) (he : starEach (e :: es) X.env = (false, eval e X.env) :: starEach es X.env := by rfl) (hpl : (backTo pos (starEach es X.env)).any (·.1) = false := by rfl) : AE X (.Call (.Name n p) (e :: es) [] pos) ρ μ o := by
  intro F H σ hs hh Q W tk q pins s I
  refine wpAny_Call_Name_kw (ld_glob I hg hm ?_ hdb)
  refine PySem.W.callWith_K (h₀ := X.base) I.ok.mod.kin hk (thn (pa_rd.run pos pins s σ H _ I (ha.go hs hh tk fun F1 H1 vs e1 h1 a1 => go_call (C := C) (ps := ps) e1 h1 a1 hl hC q)) fun us s1 ⟨vs, H1, I1, r, z⟩ => ⟨I1.kIn, ?_⟩) he hpl
  have lv : (us ++ []).length = ps.length := by rw [List.append_nil, ← r.length]; exact spOf_len z
  have hb' := hb s1 us I1.kIn lv
  rw [List.append_nil] at hb'
  exact runG G (g.hr.mono hjk) g.gu hb' (fun e s' c => tk e s' (XE.of_call I1 (fun _ _ _ w => w) c)) I1 r z
/-- f() -/
theorem ae_call0 {j : Nat} (g : Gd X j) (G : FnG X.prog X.w X.K X.mg X.base k f fd [] (spOf X.K 0 C)) (hm : X.mg n = some (.ref f)) (hk : PySem.W.keepIn X.K (.ref f) = true) (hb : Binds X.K fd [] []) (hC : C [] μ o) (hjk : k ≤ j := by decide) (hg : Gl X n := by rfl)
    (hdb : (n == ("__debug__" : Str)) = false := by decide) : AE X (.Call (.Name n p) [] [] pos) ρ μ o := by
  intro F H σ hs hh Q W tk q pins s I
  refine wpAny_Call_Name_kw (ld_glob I hg hm ?_ hdb)
  have z : spOf X.K 0 C [] H Q (fun cls d H' => W cls d σ H') := go_call (ps := []) (xs := []) (Same.refl _) hh rfl rfl hC q
  exact PySem.W.callWith_K0 I.kIn hk (runG (us := []) G (g.hr.mono hjk) g.gu (hb s [] I.kIn rfl) (fun e s' c => tk e s' (XE.of_call I (fun _ _ _ w => w) c)) I .nil z)
/-- f(k = e, ..): keywords alone; gg puts their values in the parameters' order -/
theorem ae_callK {j : Nat} {ks : List Str} (gg : {α : Type} → List α → List α) (g : Gd X j) (G : FnG X.prog X.w X.K X.mg X.base k f fd ps (spOf X.K ps.length C)) (hm : X.mg n = some (.ref f)) (hk : PySem.W.keepIn X.K (.ref f) = true)
    (hb : ∀ (s : Shared) (ws : List Value), ws.length = ks.length → BindsTo s fd ⟨[], ks.zip ws⟩ (ps.zip (gg ws))) (hrel : ∀ {vs : List V} {ws : List Value}, Vals vs ws → Vals (gg vs) (gg ws)) (hav : ∀ {F : Hp} {vs : List V}, Avs X.K F zs vs → Avs X.K F (gg zs) (gg vs))
    (ha : AK X kws ρ μ (.ok zs μ1)) (hC : C (gg zs) μ1 o) (hl : (gg zs).length = ps.length := by rfl) (hlk : zs.length = ks.length := by rfl) (hjk : k ≤ j := by decide) (hg : Gl X n := by rfl) (hall : (backToKw pos (keywordEach kws X.env)).all (·.1.isSome) = true := by rfl) (hks : (backToKw pos (keywordEach kws X.env)).filterMap (·.1) = ks := by rfl)
    (hdb : (n == ("__debug__" : Str)) = false := by decide) (hpl : ((backTo pos (starEach [] X.env)).any (·.1) || (backToKw pos (keywordEach kws X.env)).any (·.1.isNone)) = false := by rfl) : AE X (.Call (.Name n p) [] kws pos) ρ μ o := by
  intro F H σ hs hh Q W tk q pins s I
  refine wpAny_Call_Name_kw (ld_glob I hg hm ?_ hdb)
  refine PySem.W.callWith_KW0 (h₀ := X.base) I.ok.mod.kin hk hall ?_ hpl
  refine thn (pk_rd.run pos pins s σ H (fun vs H1 => vs.length = zs.length ∧ spOf X.K ps.length C (gg vs) H1 Q (fun cls d H' => W cls d σ H')) I (ha.go hs hh tk fun F1 H1 vs e1 h1 a1 => ⟨a1.length, go_call (C := C) (ps := ps) e1 h1 (hav a1) hl hC q⟩)) fun ws s2 ⟨vs, H2, I2, r, lv, z⟩ => ⟨I2.kIn, ?_⟩
  rw [hks]
  exact runG (us := [] ++ []) G (g.hr.mono hjk) g.gu (hb s2 ws (by rw [← r.length, lv, hlk])) (fun e s' c => tk e s' (XE.of_call I2 (fun _ _ _ w => w) c)) I2 (hrel r) z
end
end L2.DL
set_option maxHeartbeats 4000000
namespace L2.DL
open PySem PySem.Spec PyProof.Rows
/-- what a law promises: True, whatever the script -/
def CtLaw : Ct := fun xs μ o => ∃ ns : List Int, xs = [.d (.scr ns)] ∧ ns.length ≤ 63 ∧ o = .ok (.d (.bl true)) μ
/-- the law's call, where the script is known to stand at a -/
theorem enterG {P : Program} {w : World} {K : PySem.W.Frag} {mg mb : Str → Option Value} {k : Nat} {fa a : Addr} {fd : FuncData} {x : Str} {s1 : Shared} {vs : List Value} {ns : List Int} {H : Hp}
    (inK : K.In s1.heap) (hns : s1.heap.Ns mainGlobals mg) (hb : s1.heap.Ns builtinsNs mb) (hbb : ∀ x : Str, x ≠ "__name__" → mb x = bootBuiltins x) (hlim : s1.heap.NoLimit) (hg : s1.gens = #[])
    (ha : s1.heap.get? a = some { cls := .type "list", data := .seq vs.toArray }) (hl : ns.length ≤ 63) (hr : Room k callerA)
    (F : ∀ base : Heap, K.In base → base.Ns mainGlobals mg → FnG P w K mg base k fa fd [x] (spOf K 1 CtLaw)) (hbind : ∀ (s : Shared) (u : Value), BindsTo s fd ⟨[u], []⟩ [(x, u)])
    (hO : Only H) (hS : SqL K H a (ns.map V.int)) (hok : HOk P w H s1.heap) (hA : ∀ b u, H b = some u → b = a) (hK : ∀ u, H a = some u → K.lookup a = none) :
    codeAny (model P w) callerA (.call (.ref fa) ⟨[.ref a], []⟩) (fun r s' => r = .ok (.ret (.bool true)) ∧ OldK s1.heap s'.heap ∧ s'.os = s1.os ∧ AllBare s'.gens) s1 := by
  have dictFree : ∀ {b : Addr} {o : Obj} {es : Array DictEntry} {ep : Nat}, s1.heap.get? b = some o → o.data = .dict es ep → H b = none := by
    intro b o es ep e d
    cases q : H b with
    | none => rfl
    | some u =>
      have z := hA b u q
      rw [z, ha] at e
      cases e
      cases d
  have nsT : ∀ {b : Addr} {m : Str → Option Value}, s1.heap.Ns b m → (hidT s1.heap H).Ns b m := by
    rintro b m ⟨o, es, ep, e, d, r⟩
    exact ⟨o, es, ep, hidT_get e (dictFree e d), d, r⟩
  have inB : K.In (hidT s1.heap H) := by
    intro b o e
    refine hidT_get (inK b o e) ?_
    cases q : H b with
    | none => rfl
    | some u =>
      have z := hA b u q
      rw [z] at q e
      rw [hK u q] at e
      cases e
  have mod : Mod K mg (hidT s1.heap H) := ⟨inB, nsT hns, ⟨mb, nsT hb, hbb⟩, by obtain ⟨mc, h1, h2⟩ := hlim; exact ⟨mc, nsT h1, h2⟩⟩
  have noOuter : ∀ b, b ∉ frs ([] : List Env) := fun b hb => by
    have z : b ∈ ([] : List Addr) := hb
    cases z
  have e0 : Env0 P w K mg (hidT s1.heap H) callerA [] s1 H := ⟨rfl, mod, fun b o e => of_hidT e, Nat.le_of_eq (hidT_size _ _), trivial, fun b hb => absurd hb (noOuter b), hok, .of_eq hg⟩
  have sp : spOf K 1 CtLaw [.ref a] H (fun v _ => v = .bl true) (fun _ _ _ => False) :=
    ⟨H, fun _ => none, [.d (.scr ns)], _, ⟨Same.refl _, fun p o e => nomatch (show (none : Option MO) = some o from e)⟩, rfl, ⟨_, [], rfl, ⟨a, rfl, hS⟩, rfl⟩, ⟨ns, rfl, hl, rfl⟩, fun F' H' v _ _ av => av⟩
  refine codeAny_mono ((F _ inB (nsT hns)).run callerA [] s1 H ⟨[.ref a], []⟩ [.ref a] [.ref a] _ _ hr rfl e0 (hbind s1 (.ref a)) (.cons rfl .nil) sp) ?_
  intro r s' h
  cases r with
  | error e =>
    obtain ⟨_, _, _, _, _, _, _, _, _, _, _, _, z⟩ := h
    exact z.elim
  | ok fl =>
    cases fl with
    | next => exact h.elim
    | brk => exact h.elim
    | cont => exact h.elim
    | ret u =>
      obtain ⟨v, H', os, bare, un, hok', r', q⟩ := h
      have q' : v = .bl true := q
      subst q'
      obtain rfl : u = Value.bool true := r'
      refine ⟨rfl, OldK.of_keep (fun b o e => ?_), os, bare⟩
      cases q : H b with
      | none => exact un.keep b o e q (noOuter b) (fun z => nomatch z)
      | some u =>
        rcases hO b with z | ⟨ob, xs, z⟩
        · rw [q] at z; cases z
        · obtain ⟨e1, _⟩ := hok b _ z
          obtain ⟨e2, _⟩ := hok' b _ (un.frzs b ob _ z)
          rw [e] at e1; cases e1
          exact e2
/-- the goal that a head leaves -/
theorem walkG {l : PySem.W.OpenLaw} {k : Nat} {q : Program} {loose : List Str} {XP : (Str → Option Value) → Heap → Prop} {YP : World → Heap → Prop} {d : DefRec} {x : Str}
    (hn : l.most = some 63) (hdf : d.params.defaults = []) (hr : Room k callerA)
    (F : ∀ (w : World) (mg : Str → Option Value) (fa : Addr) (h : Heap), YP w h → h.Ns mainGlobals mg → mg d.name = some (.ref fa) →
      ∃ (K : PySem.W.Frag) (fd : FuncData), K.In h ∧ (∀ (s : Shared) (u : Value), BindsTo s fd ⟨[u], []⟩ [(x, u)]) ∧ ∀ base : Heap, K.In base → base.Ns mainGlobals mg → FnG l.prog w K mg base k fa fd [x] (spOf K 1 CtLaw)) :
    PySem.W.WalkO q loose XP YP l.row.toRowW d [] (fun f vs => PySem.call f vs) := by
  refine Att.attach_call hn hdf ?_
  intro w s0 s1 mg mb fa o pm cd doc a vs ns G Y ho hd hcd hmg hobj hints hlen hg
  obtain ⟨K, fd, inK, hb, hF⟩ := F w mg fa _ Y G.T.g hmg
  have rel := vals_ints hints
  have lv : vs.length = ns.length := hints.length
  have small : (ns.map V.int).length ≤ sizeLine := by rw [List.length_map]; exact Nat.le_trans hlen (by decide)
  cases hk : K.lookup a with
  | some ob =>
    have e := inK a ob hk
    rw [hobj] at e
    cases e
    exact enterG (H := fun _ => none) inK G.T.g G.T.b G.T.builtins G.T.nolimit hg hobj hlen hr hF hb (fun _ => .inl rfl) (.inr ⟨_, vs.toArray, _, hk, rfl, rfl, rfl, by rw [List.size_toArray, lv]; rw [List.length_map] at small; exact small, by simpa using rel⟩)
      (fun b u z => nomatch (show (none : Option HO) = some u from z)) (fun b u z => nomatch (show (none : Option HO) = some u from z)) (fun u z => nomatch (show (none : Option HO) = some u from z))
  | none =>
    refine enterG (H := fun b => if b = a then some (.frz { cls := .type "list", data := .seq vs.toArray } (.lst (ns.map V.int))) else none) inK G.T.g G.T.b G.T.builtins G.T.nolimit hg hobj hlen hr hF hb (fun b => ?_) (.inl (.inr ⟨{ cls := .type "list", data := .seq vs.toArray }, if_pos rfl⟩)) (fun b u z => ?_) (fun b u z => ?_) (fun _ _ => hk)
    · by_cases hb : b = a
      · exact .inr ⟨_, _, if_pos hb⟩
      · exact .inl (if_neg hb)
    · by_cases hb : b = a
      · have z' := (if_pos hb).symm.trans z
        cases z'
        subst hb
        exact ⟨hobj, small, vs, _, rel, hobj⟩
      · cases (if_neg hb).symm.trans z
    · by_cases hb : b = a
      · exact hb
      · cases (if_neg hb).symm.trans z
end L2.DL
set_option maxHeartbeats 4000000
namespace PySem
namespace FEx
open PySem.W PySem.Calls PyProof.Rows PySem.HandSPX
/-! ### own exceptions whose __init__ is: super().__init__(value); self.value = value -/
def inA (p1 p2 : Pos) (dv : Expr) : Arguments := { posonlyargs := [], args := [{ arg := "self", annotation := none, pos := p1 }, { arg := "value", annotation := none, pos := p2 }], vararg := none, kwonlyargs := [], kw_defaults := [], kwarg := none, defaults := [dv] }
def inB (q1 q2 q3 q4 q5 q6 q7 q8 q9 q10 : Pos) : List Stmt := [.Expr (.Call (.Attribute (.Call (.Name "super" q1) [] [] q2) "__init__" q3) [.Name "value" q4] [] q5) q6, .Assign [.Attribute (.Name "self" q7) "value" q8] (.Name "value" q9) q10]
def inS : Scope := { kind := .function, names := [("self", .local), ("value", .local), ("__class__", .free), ("super", .globalImplicit)], isGenerator := false, isCoroutine := false, more := [] }
/-- what the written part says of such a class, at C, and of its __init__, at fI -/
structure Txt (P : Program) (K : Frag) (C fI : Addr) : Prop where
  cls : ∃ nm q N bs bm sn sub ab col dd k0 k1 k2 k3 k5, K.lookup C = some (excClassObj nm q C N bs bm true sn sub ab col dd k0 k1 k2 k3 k5 "ValueError.__new__") ∧ refsVE bm = true
  sa : findIn K (.ref C) "__setattr__" = some (some (.builtin "object.__setattr__"))
  ga : findIn K (.ref C) "__getattribute__" = some (some (.builtin "BaseException.__getattribute__"))
  gg : findIn K (.ref C) "__getattr__" = some none
  noN : findIn K (.ref C) "value" = some none
  iC : findIn K (.ref C) "__init__" = some (some (.ref fI))
  tC : typeIn K (.ref fI) = some (.type "function")
  kC : keepIn K (.ref C) = true
  exC : subIn K (.ref C) (.type "BaseException") = some true
  tyC : typeIn K (.ref C) = some (.type "type")
  hdC : hasDictIn K C = true
  sVE : subIn K (.ref C) (.type "ValueError") = some true
  mC : mroIn K C (.ref C) = some true
  up : ks_superIn K C C "__init__" = some (some (.builtin "ValueError.__init__"))
  noS : nsIn K mainGlobals "super" = some none
  noO : nsIn K cStatics "thirdparty.any" = some none
  top : (P.main.scope.names.lookup ("super" : Str)).isSome = false
  fn : ∃ (q : Str) (oc : Value) (od : Option Addr) (dV doc pm : Value) (an : Option Addr) (cda : Addr) (ct : Value) (cc : Addr) (osl : Array (Option Value)) (p1 p2 q1 q2 q3 q4 q5 q6 q7 q8 q9 q10 : Pos) (dv : Expr),
    K.lookup fI = some ⟨oc, od, .func (ksFn "__init__" q (inA p1 p2 dv) (inB q1 q2 q3 q4 q5 q6 q7 q8 q9 q10) inS dV .none doc pm an (.ref cda) ct cc), osl⟩ ∧ codeIn K (.ref cda) q = true ∧ (q3.endLine == q5.line) = true ∧
    (∃ (T : Addr) (o : Obj) (n : Nat), dV = .ref T ∧ K.lookup T = some o ∧ o.data = .seq #[.none] n) ∧
    (∃ cl cld csl, K.lookup cc = some ⟨cl, cld, .cell (some (.ref C)), csl⟩) ∧
    (∃ ccl cdd vs ccs file tf, K.lookup cda = some ⟨ccl, cdd, .fields vs, ccs⟩ ∧ vs[2]? = some (.str file tf) ∧ ((P.main.file : Str) == file) = true)
/-- what __init__ leaves of a fresh exception at x -/
structure InitEnd (h h' : Heap) (x C dx t1 : Addr) (v : Value) : Prop where
  keep : ∀ b o, b ≠ x → h.get? b = some o → h'.get? b = some o
  obj : h'.get? x = some { cls := .ref C, dict := some dx, data := .fields #[.ref t1, .none, .none, .none, .bool false, .none] }
  dbig : h.objs.size ≤ dx
  dne : dx ≠ x
  ns : h'.Ns1 dx (fun y => if y = "value" then some v else none)
/-- a made one -/
structure Made (h h' : Heap) (e C d : Addr) (v : Value) : Prop where
  keep : ∀ b o, h.get? b = some o → h'.get? b = some o
  new : h.objs.size ≤ e
  obj : ∃ oe vs, h'.get? e = some oe ∧ oe.cls = .ref C ∧ oe.dict = some d ∧ oe.data = .fields vs ∧ vs[1]? = some .none
  dbig : h.objs.size ≤ d
  dne : d ≠ e
  ns : h'.Ns1 d (fun y => if y = "value" then some v else none)
theorem fits1 (v : Value) : [v].length ≤ sizeLine := by rw [sizeLine_eq]; exact (by decide : 1 ≤ 16777216)
section
variable {prog : Program} {w : World} {A : Around} {E : Value → Shared → Prop} {R : Result → Shared → Prop} {s : Shared} {K : Frag} {C fI : Addr}
/-- the bound built-in __init__ is called -/
theorem mw_init {h : Heap} {g : Array GenState} {d : Drawn} {t : Nat} {os : OsState} {u x t0 : Addr} {rest : List Value} {Q : Value → Shared → Prop} {nm q : Str} {N : Addr} {bs bm : List Value} {sn : List Str} {sub : List Value} {ab : Bool} {col : Option Bool} {dd : Option Addr} {k0 k1 k2 k3 k5 : Option Value}
    (hu : h.get? u = some (kxs_mw "ValueError.__init__" x)) (hC : h.get? C = some (excClassObj nm q C N bs bm true sn sub ab col dd k0 k1 k2 k3 k5 "ValueError.__new__")) (hx : h.get? x = some (excO C t0)) (hz : rest.length ≤ sizeLine)
    (hq : ∀ h' t1, (∀ b o, b ≠ x → h.get? b = some o → h'.get? b = some o) → h'.get? x = some (excO C t1) → Q .none ⟨h', g, d, t, os⟩) :
    wpAny (model prog w) A (call (.ref u) rest) Q E ⟨h, g, d, t, os⟩ := by
  have FB := F.excBase_ValueError
  refine wpAny_call (codeAny_of_tree ?_)
  show wpAny _ A.in1 (callAny (.ref u) ⟨rest, []⟩) _ _ _
  unfold callAny
  refine wpAny_bind (wpAny_load hu ?_)
  simp only [kxs_mw, show (Value.type "method-wrapper" == Value.type "method" || Value.type "method-wrapper" == Value.type "builtin_function_or_method" || Value.type "method-wrapper" == Value.type "method-wrapper") = true by decide, if_true]
  refine KFB.if_so (by decide) ?_
  refine wpAny_bind (check_bound_init FB.toExcCallFacts hC hx rfl ?_)
  refine wpAny_pure ⟨plainId_quiet FB.init.plain _, codeAny_builtin FB.initEntry ?_⟩
  exact exc_init_tree (cls := .ref C) (t0 := t0) (dv := none) (c2 := .none) (c3 := .none) (b4 := .bool false) hx hz fun h' k e' _ => hq h' _ k e'
theorem line_eval {o : Expr} {a b : Pos} {args : List Expr} {env : Env} {nm : Str} (hp : (a.endLine == b.line) = true) (hf : methodCallForm args.length (backTo b (starEach args env)) (backToKw b (keywordEach [] env)) = true) :
    eval (.Call (.Attribute o nm a) args [] b) env = (do
      let ov ← attributeBase o nm env (eval o env)
      standAt a.atName
      let (f, first) ← holding [ov] (getMethod ov nm (do return (← importBound o env).getD true))
      callWith b f first (backTo b (starEach args env)) []) := by
  have hpos : methodCallPos true o env a b = pure b := by unfold methodCallPos; simp [hp]
  rw [arm_eval_Call]
  unfold methodCall
  have hf' : methodCallForm (args.length + ([] : List Keyword).length) (backTo b (starEach args env)) (backToKw b (keywordEach [] env)) = true := hf
  simp only [hf', hpos, pure_bind]
  rfl
theorem init_runs (T : Txt prog K C fI) {x t0 : Addr} {v : Value} (X : K.In s.heap) (hlim : s.heap.NoLimit) {mg mb : Str → Option Value} (hg : s.heap.Ns mainGlobals mg) (hb : s.heap.Ns builtinsNs mb) (hbb : ∀ y : Str, y ≠ "__name__" → mb y = bootBuiltins y)
    (hx : s.heap.get? x = some (excO C t0)) (hnx : K.lookup x = none) (hroom : A.depth < recursionLimit)
    (hq : ∀ h' tk dx t1, InitEnd s.heap h' x C dx t1 v → R (.ok (.ret .none)) { s with heap := h', toks := tk }) :
    codeAny (model prog w) A (.call (.ref fI) ⟨[.ref x, v], []⟩) R s := by
  obtain ⟨q, oc, od, dV, doc, pm, an, cda, ct, cc, osl, p1, p2, q1, q2, q3, q4, q5, q6, q7, q8, q9, q10, dv, ho, hcd, hln, ⟨Td, od', nd, rfl, lT, oT⟩, ⟨cl, cld, csl, hcell⟩, ⟨ccl, cdd, vs, ccs, file, tf, hcode, hvs, hfile⟩⟩ := T.fn
  obtain ⟨nm, qq, N, bs, bm, sn, sub, ab, col, dd, k0, k1, k2, k3, k5, hC, hbm⟩ := T.cls
  have hcl : clsIn K C = some { name := nm, bases := bs, mro := .ref C :: bm, ns := N, qualname := qq, hasDict := true, slotNames := sn, subclasses := sub, abstract := ab, collection := col, hasDel := false } := by unfold clsIn; rw [hC] <;> rfl
  obtain ⟨hp, gs, dr, tk, os⟩ := s
  have F0 := X _ _ ho
  have hbind : BindsTo (⟨hp, gs, dr, tk, os⟩ : Shared) (ksFn "__init__" q (inA p1 p2 dv) (inB q1 q2 q3 q4 q5 q6 q7 q8 q9 q10) inS (.ref Td) .none doc pm an (.ref cda) ct cc) ⟨[.ref x, v], []⟩ [("self", .ref x), ("value", v)] := by
    refine L2.BindsTo.of_looks fun M => ?_
    obtain ⟨k, e1, e2⟩ : ∃ k, bindArgs (ksFn "__init__" q (inA p1 p2 dv) (inB q1 q2 q3 q4 q5 q6 q7 q8 q9 q10) inS (.ref Td) .none doc pm an (.ref cda) ct cc) ⟨[.ref x, v], []⟩ = seqItems? (.ref Td) >>= k ∧ k (some #[Value.none]) = pure ([("self", .ref x), ("value", v)] : List (Str × Value)) := ⟨_, rfl, by first | with_unfolding_all rfl | kernel_rfl⟩
    rw [e1]
    exact L2.looks_items X lT oT (.of_pure e2)
  refine ks_codeAny_call_defAt (args := ⟨[.ref x, v], []⟩) (fd := ksFn "__init__" q (inA p1 p2 dv) (inB q1 q2 q3 q4 q5 q6 q7 q8 q9 q10) inS (.ref Td) .none doc pm an (.ref cda) ct cc) (binds := [("self", .ref x), ("value", v)]) hroom F0 rfl hlim (codeRec_of X hcd) rfl
    hbind (by show ∀ y ∈ inS.names, _; decide) (locs (by rfl)) (fun h₁ hn k => ?_) rfl rfl rfl
  have X1 : K.In h₁ := X.keeps k
  have hL : hp.objs.size ≠ x := Nat.ne_of_gt (Heap.lt_size hx)
  have hx1 : h₁.get? x = some (excO C t0) := k _ _ hx
  have hC1 := X1 _ _ hC
  show _root_.PySem.wpAt _ _ _ (execs (inB q1 q2 q3 q4 q5 q6 q7 q8 q9 q10) _) _ _ _
  refine ks_wpAt_execs_cons (ks_wpAt_Expr_any (ks_wpAt_MethodCall ?_ (line_eval hln rfl)) rfl rfl)
  refine ks_wpAt_super_base rfl rfl rfl rfl (X1 _ _ ho) rfl rfl rfl (X1 _ _ hcode) rfl hvs hfile T.top ?_
  refine ks_loadName_global rfl rfl (loadGlobal_builtin (hg.keeps k) (mg_none_of X hg T.noS) (hb.keeps k) ((hbb _ (by decide +kernel)).trans PyProof.Rows.Boot.super) ⟨rfl, ?_⟩)
  refine wpAny_loadName_free rfl rfl rfl ⟨_, X1 _ _ hcell, rfl⟩ ?_
  refine wpAny_loadName_local (v := .ref x) rfl rfl hn (by first | rfl | kernel_rfl) ?_
  refine ks_wpAny_isType_cls hC1 rfl ⟨rfl, ?_⟩
  refine ks_wpAny_call_super hC1 rfl hx1 rfl (fun c e => by cases e) (looks_mroIn X1 T.mC) (fun h2 e2 k2 => ?_)
  have X2 : K.In h2 := X1.keeps k2
  have hx2 := k2 _ _ hx1
  have hxC : x ≠ C := fun z => by
    rw [z, hC1] at hx1
    cases hx1
  have hI : Looks (model prog w) h2 (isInstance (.ref x) (.type "ValueError")) true := InstAt.type (C := C) (od := none) ⟨hx2, rfl, rfl, trivial⟩ |>.andThen (looks_subIn X2 T.sVE)
  have up := T.up
  unfold ks_superIn at up
  rw [hcl] at up
  refine kxs_getMethod kxs_ValueError e2 (looks_opaque X2 T.noO) (l₀ := .ref C :: bm) ?_ rfl X2 up hI hxC (by decide) ?_
  · exact fun A Q E s k q => wpAny_bind ((looks_clsIn X2 hcl) A _ E s k (wpAny_pure q))
  have e3 : (h2.push (kxs_mw "ValueError.__init__" x)).get? h2.objs.size = some (kxs_mw "ValueError.__init__" x) := Heap.get?_push_at rfl rfl
  have k3' : ∀ b o, h2.get? b = some o → (h2.push (kxs_mw "ValueError.__init__" x)).get? b = some o := fun b o e => Heap.get?_push_of_some _ e
  have kk : ∀ b o, h₁.get? b = some o → (h2.push (kxs_mw "ValueError.__init__" x)).get? b = some o := fun b o e => k3' b o (k2 b o e)
  have hn3 := hn.keeps kk
  show wpAny _ _ (callWith q5 (.ref h2.objs.size) [] _ []) _ _ _
  refine kxs_callWith (i := "ValueError.__init__") (x := x) (by rfl) (evalArgs_plain ?_)
  refine spliced_more (wpAny_Name (wpAny_loadName_local (v := v) rfl rfl hn3 (by first | rfl | kernel_rfl) (spliced_none ?_)))
  refine ⟨e3, mw_init e3 (kk _ _ hC1) (kk _ _ hx1) (fits1 v) fun h4 t1 k4 hx4 => ?_⟩
  have X4 : K.In h4 := fun b o e => k4 b o (fun z => by rw [z, hnx] at e; cases e) (kk _ _ (X1 b o e))
  obtain ⟨oL, esL, epL, hL', rL⟩ := hn3
  have hL4 := k4 _ _ hL hL'
  have hn4 : h4.Ns hp.objs.size (fun y => List.lookup y ([("self", .ref x), ("value", v)] : List (Str × Value)).reverse) := ⟨oL, esL, epL, hL4, rL⟩
  -- self.value = value
  show _root_.PySem.wpAt _ _ _ _ _ _ _
  refine wpAt_of_wpAny ?_
  refine wpAny_execs_cons (plainObj_wpAny_Assign_Attribute ?_)
  refine wpAny_Name (wpAny_loadName_local (v := v) rfl rfl hn4 (by first | rfl | kernel_rfl) (wpAny_Name (wpAny_loadName_local (v := .ref x) rfl rfl hn4 (by first | rfl | kernel_rfl) ?_)))
  refine set_plain X4 (ox := excO C t1) (od := none) ⟨hx4, rfl, rfl, trivial⟩ T.sa ?_
  refine exc_osa X4 hx4 hcl (show refsVE (.ref C :: bm) = true from hbm) rfl T.noN (fun h5 tk5 dx k5' dn dne hx5 hn5 => ?_)
  have old : ∀ b o, b ≠ x → hp.get? b = some o → h5.get? b = some o := fun b o hb e => k5' b o hb (k4 b o hb (kk b o (k b o e)))
  have big : hp.objs.size ≤ h4.objs.size := Nat.le_of_lt (Heap.lt_size hL4)
  exact wpAny_execs_nil (hq h5 tk5 dx t1 ⟨old, hx5, Nat.le_trans big dn, dne, hn5⟩)
theorem made (T : Txt prog K C fI) {v : Value} (X : K.In s.heap) (hlim : s.heap.NoLimit) {mg mb : Str → Option Value} (hg : s.heap.Ns mainGlobals mg) (hb : s.heap.Ns builtinsNs mb) (hbb : ∀ y : Str, y ≠ "__name__" → mb y = bootBuiltins y) (hroom : A.depth + 1 < recursionLimit)
    (hq : ∀ h' tk e d, Made s.heap h' e C d v → R (.ok (.ret (.ref e))) { s with heap := h', toks := tk }) :
    codeAny (model prog w) A (.call (.ref C) ⟨[v], []⟩) R s := by
  obtain ⟨nm, q, N, bs, bm, sn, sub, ab, col, dd, k0, k1, k2, k3, k5, hC, hbm⟩ := T.cls
  obtain ⟨hp, g, dr, tk, os⟩ := s
  have k : ∀ b o, hp.get? b = some o → ((hp.push (kdv_tup [v])).push (excO C hp.objs.size)).get? b = some o := fun b o e => Heap.get?_push_of_some _ (Heap.get?_push_of_some _ e)
  have hget : ((hp.push (kdv_tup [v])).push (excO C hp.objs.size)).get? (hp.objs.size + 1) = some (excO C hp.objs.size) := by heap_get
  have hnx : K.lookup (hp.objs.size + 1) = none := by
    cases e : K.lookup (hp.objs.size + 1) with
    | none => rfl
    | some o =>
      have z : hp.get? (hp.objs.size + 1) = some o := X _ _ e
      exact absurd (Nat.lt_of_succ_lt (Heap.lt_size z)) (Nat.lt_irrefl _)
  refine call_own F.excBase_ValueError (fun X => refsVE_contains X bm hbm) (X _ _ hC) (looks_findIn X T.iC) (fun self => bind_fn X self T.tC) (fits1 v) ?_
  refine init_runs (s := ⟨(hp.push (kdv_tup [v])).push (excO C hp.objs.size), g, dr, tk, os⟩) T (X.keeps k) (hlim.keeps k) (hg.keeps k) (hb.keeps k) hbb hget hnx ?_ fun h' tk' dx t1 ⟨k', hx, dn, dne, hns⟩ => ?_
  · show A.depth + 1 < recursionLimit
    exact hroom
  · have old : ∀ b o, hp.get? b = some o → h'.get? b = some o := fun b o e => k' b o (Nat.ne_of_lt (Nat.lt_succ_of_lt (Heap.lt_size e))) (k b o e)
    have z : hp.objs.size + 1 + 1 ≤ dx := by
      have q := dn
      rw [Heap.size_push, Heap.size_push] at q
      exact q
    exact ⟨rfl, hq h' tk' (hp.objs.size + 1) dx ⟨old, Nat.le_succ _, ⟨_, _, hx, rfl, rfl, rfl, rfl⟩, Nat.le_trans (Nat.le_trans (Nat.le_succ _) (Nat.le_succ _)) z, dne, hns⟩⟩
end
end FEx
end PySem
namespace L2.DL
open PySem PySem.Spec PyProof.Rows
theorem relO_val {v : V} {v' : Value} (r : RelV v v') (f : Str) : RelO (List.lookup f [(("value" : Str), v)]) (if f = "value" then some v' else none) := by
  by_cases hw : f = "value"
  · subst hw
    rw [if_pos rfl, show List.lookup ("value" : Str) [(("value" : Str), v)] = some v by simp [List.lookup]]
    exact r
  · rw [if_neg hw]
    have qw : (f == ("value" : Str)) = false := by simpa using hw
    rw [show List.lookup f [(("value" : Str), v)] = none by simp [List.lookup, qw]]
    trivial
/-- C(e) -/
def tMk (C : Addr) (ta : TA) : St → Hp → XK → Prop := fun σ H Q => ta σ H fun vs H1 => ∃ v, vs = [v] ∧ ∀ d, H1 d = none → Q (.ref C) (some d) (upd H1 d (.xd [(("value" : Str), v)]))
section
variable {X : Cx} {C fI : Addr}
theorem pmk_own {a : Expr} {ta : TA} {n : Str} {p pos : Pos} {k : Nat} (T : PySem.FEx.Txt X.prog X.K C fI) (hm : X.mg n = some (.ref C)) (hr : Room k X.A) (ha : PA X [a] ta) (hg : Gl X n := by rfl) (hdb : (n == ("__debug__" : Str)) = false := by decide)
    (he : starEach (a :: []) X.env = (false, eval a X.env) :: starEach [] X.env := by rfl) (hpl : (backTo pos (starEach [] X.env)).any (·.1) = false := by rfl) :
    PMk X (.Call (.Name n p) [a] [] pos) (tMk C ta) := by
  intro pins s σ H Q I h
  refine wpAny_Call_Name_kw (ld_glob I hg hm ?_ hdb)
  refine PySem.W.callWith_K (h₀ := X.base) I.ok.mod.kin T.kC (thn (ha.run pos pins s σ H _ I h) fun us s1 hh => ?_) he hpl
  obtain ⟨vs, H1, I1, r1, v, ev, q1⟩ := hh
  subst ev
  refine ⟨I1.kIn, ?_⟩
  cases r1 with
  | cons rv rn =>
    rename_i v' us'
    cases rn
    show wpAny _ _ (call (.ref C) [v']) _ _ _
    have hlim := I1.nolimit
    obtain ⟨mb, hB, hBB⟩ := I1.ok.mod.blt
    obtain ⟨hp, g, dr, tk, os⟩ := s1
    refine wpAny_call (PySem.FEx.made T I1.kIn hlim (I1.ok.mod.glob.keeps I1.bk) (hB.keeps I1.bk) hBB (by have := hr.dp; omega) fun h' tk' e d M => ?_)
    show MkP X pins σ Q (.ref e) ⟨h', g, dr, tk', os⟩
    obtain ⟨oe, fv, hoe, hc, hd, hdat, h1⟩ := M.obj
    have hns := M.ns
    obtain ⟨G', g1, g2⟩ := restrict h' fun b => decide (b ≠ e)
    have gk : ∀ b, b ≠ e → G'.get? b = h'.get? b := fun b hb => g1 b (decide_eq_true hb)
    have ge : G'.get? e = none := g2 e (by simp)
    have old : ∀ b o, hp.get? b = some o → G'.get? b = some o := fun b o q => (gk b (Nat.ne_of_lt (Nat.lt_of_lt_of_le (Heap.lt_size q) M.new))).trans (M.keep b o q)
    have ob : ObjOk X.prog X.w (upd H1 d (.xd [(("value" : Str), v)])) G' d (.xd [(("value" : Str), v)]) :=
      ⟨_, hns.at (fun o q => (gk d M.dne).trans q), fun f => relO_val rv f⟩
    have J : Inv X pins σ (upd H1 d (.xd [(("value" : Str), v)])) ⟨G', g, dr, tk', os⟩ := I1.laid (t' := tk') old M.dbig ob
    refine ⟨e, oe, fv, ⟨G', g, dr, tk', os⟩, _, .ref C, some d, rfl, J, fun b o q => ?_, ge, hoe, ⟨hc, hd⟩, hdat, h1, ?_, rfl, I1.bare, raises_own T.exC T.tyC, q1 d (I1.hok.fresh M.dbig)⟩
    · by_cases hb : b = e
      · have q' : G'.get? b = some o := q
        rw [hb, ge] at q'; cases q'
      · exact (gk b hb).symm.trans q
    · rw [upd_ne (Ne.symm M.dne)]
      exact I1.hok.fresh M.new
variable {ρ : Rho} {μ μ1 : Mu} {R : Rs}
/-- raise C(e) -/
theorem as_raise {a : Expr} {x : Dt} {n : Str} {p pos pos2 : Pos} {k : Nat} (g : Gd X (k + 1)) (T : PySem.FEx.Txt X.prog X.K C fI) (hm : X.mg n = some (.ref C)) (ha : AE X a ρ μ (.ok (.d x) μ1)) (h : R.ex ρ C x μ1) (hg : Gl X n := by rfl) (hdb : (n == ("__debug__" : Str)) = false := by decide)
    (he : starEach (a :: []) X.env = (false, eval a X.env) :: starEach [] X.env := by rfl) (hpl : (backTo pos (starEach [] X.env)).any (·.1) = false := by rfl) :
    AS1 X (.Raise (some (.Call (.Name n p) [a] [] pos)) none pos2) ρ μ R := fun F H σ hs hh Ds W tk q => by
  have z := (ps_raise (pos := pos2) g.calm tk (pmk_own (p := p) (pos := pos) T hm g.hr (pa_cons pe_rd pa_nil he) hg hdb he hpl))
  intro pins s I
  refine z.run pins s σ H Ds I ?_
  refine ha.go hs hh tk fun F1 H1 v e1 h1 a1 => ⟨v, rfl, fun d hd => ?_⟩
  have f0 := h1.fnone hd
  exact q.ex _ _ σ ρ C x μ1 d v (e1.trans (same_new f0)) h (hs.mono (e1.trans (same_new f0))) (h1.new hd) upd_same (Rp.mono (same_new f0) a1)
end
end L2.DL
set_option maxHeartbeats 4000000
namespace L2.DL
open PySem PySem.Spec PyProof.Rows
theorem exT_ok {P : Program} {w : World} {H : Hp} {h : Heap} {a C dx : Addr} {oe : Obj} {vs : Array Value} (e : h.get? a = some oe) (z : Zc (.ref C) (some dx) oe) (d : oe.data = .fields vs) : ObjOk P w H h a (ExT C dx a) :=
  ⟨⟨oe, vs, e, z.1, z.2, d⟩, ⟨oe, e⟩, fun _ _ ⟨o, v, q, r⟩ k => ⟨o, v, k o q, r⟩⟩
section
variable {X : Cx} {pins : List (Addr × Obj)} {σ : St} {H : Hp} {s : Shared}
/-- an object that stands untracked, laid since the entry, is tracked from now on -/
theorem inv_track {a C dx : Addr} {oe : Obj} {vs : Array Value} (I : Inv X pins σ H s) (n0 : X.s_0.heap.get? a = none) (e : s.heap.get? a = some oe) (na : H a = none) (nL : a ≠ X.env.locals) (np : ∀ p ∈ X.pn ++ pins, p.1 ≠ a) (z : Zc (.ref C) (some dx) oe) (d : oe.data = .fields vs) :
    Inv X pins σ (upd H a (ExT C dx a)) s where
  ok := I.ok
  os := I.os
  bare := I.bare
  base := ⟨I.base.keep, I.base.slot, fun b o q1 q2 q3 => by rw [upd_ne (fun y => by rw [y, n0] at q1; cases q1)]; exact I.base.free b o q1 q2 q3, I.base.there,
    fun b xs q => by rw [upd_ne (ne_of_none (I.base.tups b xs q) na)]; exact I.base.tups b xs q, fun b o u q => by rw [upd_ne (ne_of_none (I.base.frzs b o u q) na)]; exact I.base.frzs b o u q,
    fun b ps q => by
      obtain ⟨m, y⟩ := I.base.tbls b ps q
      exact ⟨m, by rw [upd_ne (ne_of_none y na)]; exact y⟩⟩
  loc := I.loc
  cell := I.cell
  free := by rw [upd_ne (Ne.symm nL)]; exact I.free
  freeC := fun x c q => by
    rw [upd_ne (fun y => by
      obtain ⟨v, o, ho, hd⟩ := I.cell x c q
      rw [y, e] at ho
      cases ho
      rw [d] at hd
      cases hd)]
    exact I.freeC x c q
  pin := fun p hp => by
    obtain ⟨p1, p2, p3, p4, p5⟩ := I.pin p hp
    exact ⟨p1, by rw [upd_ne (np p hp)]; exact p2, p3, p4, p5⟩
  hok := fun b o q => by
    by_cases hb : b = a
    · subst hb
      rw [upd_same] at q
      cases q
      exact exT_ok e z d
    · rw [upd_ne hb] at q
      exact (I.hok b o q).stay (fun _ _ _ y => y) (fun c y => by rw [upd_ne (ne_of_none y na)]; exact y) fun c xs y => by rw [upd_ne (ne_of_none y na)]; exact y
  len := I.len
end
/-- what the clause wishes: the exception is kept, in slot j -/
def wVal (K : PySem.W.Frag) (c : Value) (i j : Nat) (Dn : St → Hp → Prop) : WX := fun cls d σ H => PySem.W.exmOne K cls c = some true ∧ (∃ v, σ[i]? = v) ∧
  ∃ C dd, cls = .ref C ∧ d = some dd ∧ ∀ a, H a = none → Dn ((σ.set j (some (.ref a))).set i none) (upd H a (ExT C dd a))
section
variable {X : Cx} {x n m : Str} {c : Value} {i j : Nat} {body : List Stmt} {np pos pos' p1 p2 p3 : Pos} {tb : WX → TS}
/-- try: body / except x as n: m = n -/
theorem ps_tryV (hex : X.ex = []) (hs : X.stack = X.env :: X.outer) (hf : X.env.frame = some X.env.locals) (hN : X.N.Nodup) (hi : X.N[i]? = some n) (hj : X.N[j]? = some m) (hij : i ≠ j) (hln : X.env.kindOf n = some .local) (hlm : X.env.kindOf m = some .local)
    (hvn : Vis X.env.scope n) (hd1 : (n == ("__debug__" : Str)) = false) (hd2 : (n == ("__classdict__" : Str)) = false) (hc : Names X x c)
    (hsw : swapsWith (.Name n p2) (some (.Name m p1)) p3.line X.env = pure false) (hlm' : X.env.scope.names.lookup m = some .local)
    (hb : ∀ (W : WX) (pn : List (Addr × Obj)) (xe : Value → Shared → Prop), Takes (X.tr pn xe) W → PassesOwn (model X.prog X.w) X.A X.env xe → PSs (X.tr pn xe) body (tb W)) :
    PS X (.Try body [.ExceptHandler (some (.Name x np)) (some n) [.Assign [.Name m p1] (.Name n p2) p3] pos'] [] [] pos) (fun D σ H => tb (wVal X.K c i j D.nx) D σ H) := by
  refine ⟨fun pins s σ H D I h => ?_⟩
  have okX := I.ok
  have frX : X.A.frames = some (X.env :: X.outer) := by rw [okX.frames, hs]
  refine wpAny_Try_except (wpAny_mono ((hb (wVal X.K c i j D.nx) (X.pn ++ pins) (fun e s₁ => wpAny (model X.prog X.w) X.A (noteFrame e X.env) (fun _ s₂ => wpAny (model X.prog X.w) X.A (setFlight e none) (fun _ s₃ =>
    wpAny (model X.prog X.w) X.A (handleBy e X.env [.ExceptHandler (some (.Name x np)) (some n) [.Assign [.Name m p1] (.Name n p2) p3] pos']) (SP X pins D) X.xe s₃) X.xe s₂) X.xe s₁) (fun u s' xx => ?_) PassesOwn.looking).run [] s σ H D (I.toTry _) h) (fun f s1 hsp => ?_) fun e s1 he => he)
  · obtain ⟨a, Gr, sI, pnI, σ', H', cls, dI, rfl, JI, nbI, upI, skI, na, osI, agI, hb1, _, C, dd, rfl, rfl, kN⟩ := xx
    have J : Inv X pins σ' H' sI := JI.ofTry okX
    have sk2 : Sky Gr (X.env :: X.outer) a (Zc (.ref C) (some dd)) X.env.locals s'.heap := by rw [← hs]; exact skI
    show wpAny (model X.prog X.w) X.A (noteFrame (.ref a) X.env) _ _ _
    refine Sky.land Zc.steady frX hf sk2 fun h3 fl3 up3 => ?_
    have J3 : Inv X pins σ' H' { s' with heap := h3 } := J.landed nbI fl3.1 (upI.trans up3) osI agI
    obtain ⟨oe3, vs3, ge3, zz3, dt3⟩ := fl3.there
    have outF : a ∉ frs (X.env :: X.outer) := fun hm => by
      obtain ⟨_, o', e', hnf⟩ := fl3.2.2.1.mem hm
      rw [ge3] at e'; cases e'
      exact hnf _ dt3
    have nL : a ≠ X.env.locals := fun y => outF (List.mem_filterMap.mpr ⟨X.env, List.mem_cons_self, by rw [hf, y]⟩)
    have nF : a ∉ X.fs := fun hm => by
      obtain ⟨e, he, q⟩ := List.mem_filterMap.mp hm
      exact outF (List.mem_filterMap.mpr ⟨e, List.mem_cons_of_mem _ he, q⟩)
    have nI : sI.heap.get? a = none := by
      cases y : sI.heap.get? a with
      | none => rfl
      | some o =>
        have y2 := nbI a o y (by rw [hs]; exact outF)
        rw [fl3.2.1] at y2
        cases y2
    have n0 : X.s_0.heap.get? a = none := by
      cases y : X.s_0.heap.get? a with
      | none => rfl
      | some o =>
        obtain ⟨o', y2⟩ := J.base.there a o y (by rw [hex]; exact fun q => nomatch q)
        rw [nI] at y2
        cases y2
    have nP : ∀ p ∈ X.pn ++ pins, p.1 ≠ a := fun p hp y => by
      obtain ⟨e, _⟩ := J.pin p hp
      rw [y, nI] at e
      cases e
    have S3 := J3.suite ge3 dt3 na nL nF
    refine wpAny_handleBy_cons (codeAny_handlers_test ?_) (by intro q; cases q)
    have LT : PySem.W.Looks (model X.prog X.w) h3 (typeOf (.ref a)) (.ref C) := fun A Q E s k q => wpAny_typeOf_ref (k _ _ ge3) (by rw [zz3.1]; exact q)
    have LM := PySem.W.exm_one (M := model X.prog X.w) J3.kIn LT hb1
    have look : ∀ {Q : Value → Shared → Prop} {E : Value → Shared → Prop}, Q c { s' with heap := h3 } → wpAny (model X.prog X.w) (X.A.mark (some (.ref a))) (eval (.Name x np) X.env) Q E { s' with heap := h3 } := fun {Q E} q => by
      obtain ⟨hg, hdbg, hm | ⟨hm, hv, hnn⟩⟩ := hc
      · exact ld_glob (X := X.suite a ((a, oe3) :: (X.pn ++ pins))) S3 hg hm q hdbg
      · exact ld_blt (X := X.suite a ((a, oe3) :: (X.pn ++ pins))) S3 hg hm hv q hnn hdbg
    refine look (LM.here (codeAny_handlers_suite_as (HandSPX.lands_againZ fl3 fun h4 fl4 up4 => ?_)))
    have J4 : Inv X pins σ' H' { s' with heap := h4 } := J.landed nbI fl4.1 ((upI.trans up3).trans up4) osI agI
    obtain ⟨oe4, vs4, ge4, zz4, dt4⟩ := fl4.there
    have S4 := J4.suite ge4 dt4 na nL nF
    refine store_ok (X := X.suite a ((a, oe4) :: (X.pn ++ pins))) (v := .ref a) S4 hN hi (.inl hln) rfl (fun s5 S5 => ?_) (.inr hln)
    have suiteR : PSs (X.suite a ((a, oe4) :: (X.pn ++ pins))) [.Assign [.Name m p1] (.Name n p2) p3] (tAsg (tVar i) (gName j)) :=
      pss_one (ps_set (X := X.suite a ((a, oe4) :: (X.pn ++ pins))) hN hj (.inl hlm) (pe_var (X := X.suite a ((a, oe4) :: (X.pn ++ pins))) hi hvn hd1 hd2) hsw (.inr hlm'))
    have lenI : i < σ'.length := by
      have q1 := (List.getElem?_eq_some_iff.mp hi).1
      have q2 := J4.len
      omega
    refine wpAny_mono (suiteR.run [] s5 _ H' { nx := fun σ6 H6 => σ6 = (σ'.set i (some (.ref a))).set j (some (.ref a)) ∧ H6 = H', rt := fun _ _ => False } S5 ⟨.ref a, List.getElem?_set_self lenI, rfl, rfl⟩) (fun f s6 hsp => ?_) (fun _ _ y => False.elim y)
    cases f with
    | next =>
      obtain ⟨σ6, H6, S6, rfl, rfl⟩ := hsp
      obtain ⟨ge6, _⟩ := S6.pin (a, oe4) (List.mem_append_left _ List.mem_cons_self)
      have T6 := inv_track (S6.unsuite (pins := pins) okX) n0 ge6 na nL nP zz4 dt4
      refine gone_ok T6 hN hi hln fun s7 J7 => ⟨_, _, J7, ?_⟩
      have eq : ((σ'.set i (some (V.ref a))).set j (some (.ref a))).set i none = (σ'.set j (some (.ref a))).set i none := by
        rw [List.set_comm _ _ hij, List.set_set]
      rw [eq]
      exact kN a na
    | brk => obtain ⟨_, _, _, q⟩ := hsp; exact q.elim
    | cont => obtain ⟨_, _, _, q⟩ := hsp; exact q.elim
    | ret u => obtain ⟨_, _, _, _, _, q⟩ := hsp; exact q.elim
  · cases f with
    | next => obtain ⟨σ', H', J', q⟩ := hsp; exact wpAny_execs_nil ⟨σ', H', J'.ofTry okX, q⟩
    | brk => obtain ⟨σ', H', J', q⟩ := hsp; exact ⟨σ', H', J'.ofTry okX, q⟩
    | cont => obtain ⟨σ', H', J', q⟩ := hsp; exact ⟨σ', H', J'.ofTry okX, q⟩
    | ret u => obtain ⟨v, σ', H', J', r, q⟩ := hsp; exact ⟨v, σ', H', J'.ofTry okX, r, q⟩
/-- try: body / except x as n: m = n, over data -/
theorem as_tryV {ρ : Rho} {μ : Mu} {R Rb : Rs} {k : Nat} (i j : Nat) (g : Gd X k) (hc : Names X x c) (hb : ∀ (pn : List (Addr × Obj)) (xe : Value → Shared → Prop), Gd (X.tr pn xe) k → AS (X.tr pn xe) body ρ μ Rb)
    (h1 : ∀ ρ' μ', Rb.nx ρ' μ' → R.nx ρ' μ') (h2 : ∀ ρ' C d μ', Rb.ex ρ' C d μ' → PySem.W.exmOne X.K (.ref C) c = some true ∧ R.nx ((ρ'.set j (some (.d (.exc C d)))).set i none) μ')
    (h3 : Rb.rt = fun _ _ => False) (h4 : Rb.bk = fun _ _ => False) (h5 : Rb.ct = fun _ _ => False) (hij : i ≠ j)
    (hex : X.ex = [] := by rfl) (hs : X.stack = X.env :: X.outer := by rfl) (hf : X.env.frame = some X.env.locals := by rfl) (hi : X.N[i]? = some n := by rfl) (hj : X.N[j]? = some m := by rfl) (hln : X.env.kindOf n = some .local := by rfl) (hlm : X.env.kindOf m = some .local := by rfl)
    (hvn : Vis X.env.scope n := by first | exact Or.inl rfl | exact Or.inr (Or.inl rfl) | exact Or.inr (Or.inr rfl)) (hd1 : (n == ("__debug__" : Str)) = false := by decide) (hd2 : (n == ("__classdict__" : Str)) = false := by decide)
    (hsw : swapsWith (.Name n p2) (some (.Name m p1)) p3.line X.env = pure false := by rfl) (hlm' : X.env.scope.names.lookup m = some .local := by rfl) :
    AS1 X (.Try body [.ExceptHandler (some (.Name x np)) (some n) [.Assign [.Name m p1] (.Name n p2) p3] pos'] [] [] pos) ρ μ R := fun F H σ hl hh Ds W tk q pins s I => by
  refine (ps_tryV (pos := pos) (pos' := pos') (np := np) (tb := fun W' => fun D σ H => (∀ (pn : List (Addr × Obj)) (xe : Value → Shared → Prop), True) ∧ Sl X.K F ρ σ ∧ Holds X.K F μ H ∧ Lk X.K F Rb D W') hex hs hf g.nd hi hj hij hln hlm hvn hd1 hd2 hc hsw hlm' ?_).run pins s σ H Ds I ⟨fun _ _ => True.intro, hl, hh, ?_⟩
  · intro W' pn xe tk' po'
    refine ⟨fun pins2 s2 σ2 H2 D2 I2 z => ?_⟩
    obtain ⟨_, z1, z2, z3⟩ := z
    exact hb pn xe ⟨g.calm, g.nd, po', g.hr, g.gu⟩ F H2 σ2 z1 z2 D2 W' tk' z3 pins2 s2 I2
  · refine ⟨fun F' H' σ' ρ' μ' s1 z => q.nx F' H' σ' ρ' μ' s1 (h1 _ _ z), fun F' H' v y μ' s1 z => ?_, fun F' H' σ' ρ' μ' s1 z => ?_, fun F' H' σ' ρ' μ' s1 z => ?_, ?_⟩
    · rw [h3] at z; exact z.elim
    · rw [h4] at z; exact z.elim
    · rw [h5] at z; exact z.elim
    · intro F' H' σ' ρ' C d μ' dd u s1 z sl hh' e1 r1
      obtain ⟨em, zn⟩ := h2 _ _ _ _ z
      refine ⟨em, ⟨_, rfl⟩, C, dd, rfl, rfl, fun a na => ?_⟩
      have f0 := hh'.fnone na
      have sm := same_new (o := ExT C dd a) f0
      refine q.nx (upd F' a (ExT C dd a)) _ _ _ μ' (s1.trans sm) zn (((sl.mono sm).set j ?_).unset i) (hh'.new na)
      exact ⟨a, dd, u, rfl, upd_same, sm _ _ e1, Rp.mono sm r1⟩
end
end L2.DL
set_option maxHeartbeats 4000000
namespace PySem.FEx
open PySem PySem.W PySem.Spec PySem.Calls PyProof.Rows
section
variable {prog : Program} {w : World} {A : Around} {E : Value → Shared → Prop} {s : Shared} {K : Frag} {x D : Addr} {ox od : Obj}
/-- what the class says of __class__ -/
structure Cl (K : Frag) (D : Addr) : Prop where
  ga : findIn K (.ref D) "__getattribute__" = some (some (.builtin "BaseException.__getattribute__"))
  gg : findIn K (.ref D) "__getattr__" = some none
  ex : subIn K (.ref D) (.type "BaseException") = some true
  hd : hasDictIn K D = true
  ca : findIn K (.ref D) "__class__" = some (some (.builtin "object.__class__"))
  cn : specialIn K (.builtin "object.__class__") "__get__" = some (some (.builtin "getset_descriptor.__get__"))
  ct : takesIn K (.builtin "object.__class__") = some true
  mo : mroIn K D (.type "object") = some true
theorem clsX {Q : Option Value → Shared → Prop} (c : Cl K D) (X : K.In s.heap) (I : InstAt s.heap x ox D (some od)) (h : Q (some (.ref D)) { s with toks := s.toks + 1 }) : wpAny (model prog w) A (getAttr? (.ref x) "__class__") Q E s := by
  have hf : findObj K D (some od) "__class__" = some (.bind (.builtin "getset_descriptor.__get__") (.builtin "object.__class__")) := findObj_data (by obtain ⟨cd, hc, _⟩ := any_some c.hd; rw [hc]; rfl) c.ca c.cn c.ct
  obtain ⟨hp, g, d, t, os⟩ := s
  have T0 := I.type (M := model prog w)
  have T1 := looks_findIn (M := model prog w) X c.ga
  have T2 := looks_findIn (M := model prog w) X c.gg
  have T3 := looks_find (M := model prog w) X I hf
  have isB : Looks (model prog w) hp (isInstance (.ref x) (.type "BaseException")) true := T0.andThen (looks_subIn X c.ex)
  have ne0 : (onTheHeap (Value.ref D) && Value.builtin "BaseException.__getattribute__" == Value.builtin "object.__getattribute__") = false := by
    have z : (Value.builtin "BaseException.__getattribute__" == Value.builtin "object.__getattribute__") = false := by decide +kernel
    rw [z]; rfl
  unfold getAttr? getAttrBy? getAttrBy
  refine wpAny_bind (wpAny_mkText (wpAny_bind (wpAny_attempt (wpAny_holding (wpAny_bind (T0.at (wpAny_bind (T1.at ?_))))))))
  show wpAny _ _ (ite ((onTheHeap (Value.ref D) && Value.builtin "BaseException.__getattribute__" == Value.builtin "object.__getattribute__") = true) _ _) _ _ _
  rw [ne0, if_neg Bool.false_ne_true]; unfold getAttrByItsOwn hookBefore
  refine wpAny_bind ?_
  rw [if_pos (show onTheHeap (Value.ref D) = true from rfl)]; refine T2.at (wpAny_bind (wpAny_attempt (wpAny_holding ?_)))
  unfold callGetattribute
  rw [show (false && onTheHeap (Value.builtin "BaseException.__getattribute__")) = false from rfl, if_neg Bool.false_ne_true]; unfold boundAndCalled
  rw [PySem.F.excAttr_ValueError.ga.bind (.ref x)]; refine wpAny_bind (wpAny_pure ?_)
  show wpAny _ _ (call (.builtin "BaseException.__getattribute__") [.ref x, Value.str "__class__" t]) _ _ _
  refine wpAny_call (codeAny_call_builtin F.excAttr_ValueError.ga.plain F.entry_bexc_ga (@check_slot (model prog w) _ _ ⟨hp, g, d, t + 1, os⟩ "BaseException.__getattribute__" "BaseException" "__getattribute__" (.ref x) [Value.str "__class__" t] [] _ (by decide +kernel) (by decide +kernel) isB (F.args_bexc_ga (.ref x) (.str "__class__" t)) ?_))
  unfold Builtin.«object.__getattribute__»; refine wpAny_bind (wpAny_of_eq (a := ((Value.ref x : Value), [Value.str "__class__" t])) (by first | rfl | (simp only [slotArgs]; rfl)) ?_)
  refine wpAny_bind (wpAny_pure (wpAny_bind (T0.at (wpAny_bind (T3.at ?_)))))
  show wpAny _ _ (holding [Value.builtin "object.__class__"] (call (.builtin "getset_descriptor.__get__") [.builtin "object.__class__", .ref x, Value.ref D]) >>= ret) _ _ _
  refine wpAny_bind (wpAny_holding (wpAny_call (class_get (s := ⟨hp, g, d, t + 1, os⟩) (ox := ox) (od := some od) X I c.mo ?_)))
  refine wpAny_pure ?_
  show wpAny _ _ (handedOut (Value.ref D)) _ _ _
  rw [handedOut_of (show handedIn (.ref D) = true from rfl)]
  first
    | exact wpAny_pure (wpAny_pure h)
    | exact wpAny_pure h
    | exact wpAny_pure (wpAny_bind (wpAny_pure (wpAny_pure h)))
theorem kitX_own (c : Cl K D) : KitX K (.ref x) (.ref D) (fun h => ∃ ox od, InstAt h x ox D (some od)) where
  ty := fun _ _ _ ⟨_, _, I⟩ => I.type
  it := fun _ _ X _ => by
    obtain ⟨cdD, hcD, _⟩ := any_some c.hd
    unfold clsIn at hcD
    split at hcD
    · rename_i c1 d1 cd1 sl1 ho
      exact fun A' Q' E' s' k q => by
        unfold isType loadHead
        exact wpAny_bind (wpAny_loadPart (k _ _ (X _ _ ho)) (wpAny_pure q))
    · cases hcD
  ne := fun h tp dd its n sl X htp => Bool.eq_false_iff.mpr fun q => by
    obtain ⟨cdD, hcD, _⟩ := any_some c.hd
    have e : D = tp := Value.ref.inj (beq_iff_eq.mp q)
    unfold clsIn at hcD
    split at hcD
    · rename_i c1 d1 cd1 sl1 ho
      rw [e] at ho
      have z := (X _ _ ho).symm.trans htp
      cases z
    · cases hcD
  ca := fun X ⟨_, _, I⟩ k => clsX c X I k
end
end PySem.FEx
namespace L2.DL
open PySem PySem.Spec PyProof.Rows
section
variable {X : Cx} {pins : List (Addr × Obj)} {σ : St} {H : Hp} {s : Shared} {C dx a : Addr} {u : V}
theorem exT_at (I : Inv X pins σ H s) (h1 : H a = some (ExT C dx a)) (h2 : H dx = some (.xd [("value", u)])) : ∃ oe od mA, PySem.W.InstAt s.heap a oe C (some od) ∧ s.heap.Ns1 dx mA ∧ s.heap.get? dx = some od ∧ ∀ f, RelO (List.lookup f [(("value" : Str), u)]) (mA f) := by
  have x1 : ObjOk X.prog X.w H s.heap a (ExT C dx a) := I.hok a _ h1
  obtain ⟨⟨oe, vs, e1, e2, e3, e4⟩, _, _⟩ := x1
  have x2 : ObjOk X.prog X.w H s.heap dx (.xd [("value", u)]) := I.hok dx _ h2
  obtain ⟨mA, hn, hr⟩ := x2
  obtain ⟨od, es, ep, ho, r⟩ := id hn
  exact ⟨oe, od, mA, ⟨e1, e2, by unfold PySem.W.notCls; rw [e4] <;> rfl, by rw [e3]; exact ho⟩, hn, ho, hr⟩
end
section
variable {X : Cx} {ρ : Rho} {μ μ1 μ2 : Mu} {e : Expr} {pos : Pos} {C : Addr} {x : Dt}
/-- e.value, e an exception of one's own that is held -/
theorem ae_value {fI : Addr} (T : PySem.FEx.Txt X.prog X.K C fI) (he : AE X e ρ μ (.ok (.d (.exc C x)) μ1)) (hb : attributeBase e "value" X.env (eval e X.env) = eval e X.env := by rfl) : AE X (.Attribute e "value" pos) ρ μ (.ok (.d x) μ1) := by
  refine AE.of (t := fun σ H Q => rdE X e σ H fun v H1 => ∃ a dx u, v = .ref a ∧ H1 a = some (ExT C dx a) ∧ H1 dx = some (.xd [("value", u)]) ∧ Q u H1) ⟨fun pins s σ H Q I h => ?_⟩ fun F H σ hs hh Q W tk q => he.go hs hh tk fun F1 H1 v e1 h1 a1 => ?_
  · refine attr_of hb (thn (pe_rd.run pins s σ H _ I h) fun u0 s1 hq => ?_)
    obtain ⟨v, H1, I1, r1, a, dx, u, rfl, ha, hd, q⟩ := hq
    obtain rfl : u0 = Value.ref a := r1
    obtain ⟨oe, od, mA, J, hn, ho, hr⟩ := exT_at I1 ha hd
    have l : List.lookup ("value" : Str) [(("value" : Str), u)] = some u := by simp [List.lookup]
    obtain ⟨u', hu, ru⟩ := RelO.some_of (v := u) (o := mA "value") (by rw [← l]; exact hr "value")
    obtain ⟨od2, ho2, hl⟩ := lookIn_ns hn
    rw [ho] at ho2
    cases ho2
    exact HandSPX.exc_get I1.kIn J T.ga T.gg T.exC (PySem.W.findObj_own T.hdC T.noN rfl (by rw [hl, hu])) (handed_of ru) ⟨u, H1, I1.tok _, ru, q⟩
  · obtain ⟨a, dx, u, ev, ha, hd, ru⟩ := a1
    exact ⟨a, dx, u, ev, h1.ex _ _ ha, h1.ex _ _ hd, q F1 H1 u e1 h1 ru⟩
end
/-! ### isinstance -/
/-- the type of data, as a built-in type's name -/
def tyD : Dt → String
  | .non => "NoneType"
  | .bl _ => "bool"
  | .int _ => "int"
  | .str _ => "str"
  | .lst _ => "list"
  | .tup _ => "tuple"
  | .dict _ _ => "dict"
  | .scr _ => "list"
  | .opq _ | .exc _ _ | .ex0 _ => ""
def rIsOwn (K : PySem.W.Frag) : List V → Hp → VK → Prop := fun xs H Q => ∃ (a C dx : Addr) (u : V) (D : Addr) (b : Bool), xs = [.ref a, .ref D] ∧ PySem.FEx.Cl K C ∧ H a = some (ExT C dx a) ∧ H dx = some (.xd [("value", u)]) ∧ PySem.W.kitOne K (.ref C) (.ref D) = some b ∧ Q (.bl b) H
theorem call_isOwn {X : Cx} : CallR X (.builtin "isinstance") (rIsOwn X.K) := by
  intro pins s σ H xs us Q I r h
  obtain ⟨a, C, dx, u, D, b, rfl, c, h1, h2, e, q⟩ := h
  obtain ⟨u1, u2, rfl, r1, r2⟩ := vals2 r
  obtain rfl : u1 = Value.ref a := r1
  obtain rfl : u2 = Value.ref D := r2
  obtain ⟨oe, od, mA, J, hn, ho, hr⟩ := exT_at I h1 h2
  exact PySem.W.kia_one (PySem.FEx.kitX_own c) I.kIn ⟨oe, od, J⟩ e (fun z => nomatch z) fun tk => ⟨.bl b, H, I.kept (t' := tk) fun _ _ z => z, rfl, q⟩
section
variable {K : PySem.W.Frag} {μ : Mu}
theorem bc_isOwn {C D : Addr} {x : Dt} {b : Bool} (c : PySem.FEx.Cl K C) (e : PySem.W.kitOne K (.ref C) (.ref D) = some b) : BC K (rIsOwn K) [.d (.exc C x), .d (.opq (.ref D))] μ (.d (.bl b)) μ :=
  bc_val fun F H vs hh a => by
    obtain ⟨v, u, e0, a1, a2⟩ := avs2 a
    obtain ⟨p, dx, w, ev, h1, h2, _⟩ := a1
    have e2 : u = V.ref D := a2
    exact ⟨.bl b, rfl, fun Q q => ⟨p, C, dx, w, D, b, by rw [e0, ev, e2], c, hh.ex _ _ h1, hh.ex _ _ h2, e, q⟩⟩
theorem bc_isD {T : String} {x : Dt} {b : Bool} (e : kitB (tyD x) T = some b) (hne : tyD x ≠ "" := by simp [tyD]) : BC K (rIsi K) [.d x, .d (.opq (.ty T))] μ (.d (.bl b)) μ :=
  bc_val fun F H vs hh a => by
    obtain ⟨v, u, e0, a1, a2⟩ := avs2 a
    have e2 : u = V.ty T := a2
    have ty : tyD x ≠ "" → TyX K H v (.type (tyD x)) := fun hne => by
      cases x with
      | non => rw [show v = V.non from a1]; exact .base .non
      | bl k => rw [show v = V.bl k from a1]; exact .base (.bl k)
      | int i => rw [show v = V.int i from a1]; exact .base (.int i)
      | str l => rw [show v = V.str (S l) from a1]; exact .base (.str _)
      | lst ds => obtain ⟨p, xs, ev, h1, _⟩ := a1; rw [ev]; exact .base (.lst (hh.ex _ _ h1))
      | tup ds =>
        obtain ⟨p, xs, ev, h1, _⟩ := a1
        rw [ev]
        rcases sqt_mono hh.ex h1 with (h | ⟨o, h⟩) | h
        · exact .base (.tup h)
        · exact .fTuple h
        · obtain ⟨o, its, n, q, q2, _⟩ := h
          exact .kTuple q q2
      | dict ks ds => obtain ⟨p, ys, ev, h1, _⟩ := a1; rw [ev]; exact .base (.dK (hh.ex _ _ h1))
      | scr ns =>
        obtain ⟨p, ev, h1⟩ := a1
        rw [ev]
        rcases Same.seq hh.ex h1 with (h | ⟨o, h⟩) | h
        · exact .base (.lst h)
        · exact .base (.frz h)
        · obtain ⟨o, its, n, q, q2, _⟩ := h
          exact .kList q q2
      | opq v => exact absurd rfl hne
      | exc C x => exact absurd rfl hne
      | ex0 C => exact absurd rfl hne
    exact ⟨.bl b, rfl, fun Q q => ⟨v, .ty T, _, _, b, by rw [e0, e2], .ty T, ty hne, kit_ty e, q⟩⟩
end
end L2.DL
set_option maxHeartbeats 4000000
namespace L2.DL
open PySem PySem.Spec PyProof.Rows
/-! ### repr of data; an empty dict may stand by itself or in a list of texts and the like -/
def isD0 : Dt → Bool
  | .dict [] [] => true
  | _ => false
def flatD : Dt → Bool
  | .non | .bl _ | .int _ | .str _ => true
  | .dict [] [] => true
  | _ => false
/-- may be shown -/
def shK : Dt → Bool
  | .lst ds => plainDs ds || ds.all flatD
  | .dict [] [] => true
  | d => plainD d
mutual
def shP : Dt → PyData
  | .non => .none
  | .bl b => .bool b
  | .int i => .int i
  | .str l => .str (S l)
  | .lst ds => .list (shPs ds)
  | .tup ds => .tuple (shPs ds)
  | .dict _ _ => .dict []
  | .opq _ | .exc _ _ | .ex0 _ | .scr _ => .none
def shPs : List Dt → List PyData
  | [] => []
  | d :: ds => shP d :: shPs ds
end
mutual
theorem shP_py : ∀ {d : Dt}, plainD d = true → shP d = py d
  | .non, _ => rfl
  | .bl _, _ => rfl
  | .int _, _ => rfl
  | .str _, _ => rfl
  | .lst _, h => congrArg PyData.list (shPs_py h)
  | .tup _, h => congrArg PyData.tuple (shPs_py h)
  | .opq _, p => by cases p
  | .dict _ _, p => by cases p
  | .exc _ _, p => by cases p
  | .ex0 _, p => by cases p
  | .scr _, p => by cases p
theorem shPs_py : ∀ {ds : List Dt}, plainDs ds = true → shPs ds = pys ds
  | [], _ => rfl
  | _ :: _, h => by
    obtain ⟨h1, h2⟩ := Bool.and_eq_true_iff.mp h
    show shP _ :: shPs _ = py _ :: pys _
    rw [shP_py h1, shPs_py h2]
end
/-- what it shows -/
def shT (d : Dt) : Str := (shP d).shown
def shOk (d : Dt) : Bool := shK d && decide (depD d ≤ 60) && (shP d).showable && decide ((shT d).length ≤ 10000000)
section
variable {X : Cx} {pins : List (Addr × Obj)} {σ : St} {H : Hp} {s : Shared}
theorem d0_reads (I : Inv X pins σ H s) {a : Addr} {ys : List (Key × V)} (h : H a = some (.dK ys)) (hy : ys = []) : Reads s.heap (.ref a) (.dict []) [a] ∧ a ≠ sysModules := by
  subst hy
  obtain ⟨_, hs, vs, kv, o, es, ep, ho, hx, hd, _, hp, _⟩ := (show ObjOk X.prog X.w H s.heap a (.dK []) from I.hok a _ h)
  have e1 : vs = [] := by
    cases kv
    rfl
  subst e1
  have e2 : es.toList = [] := by
    generalize hl : es.toList = l at hp
    cases hp
    rfl
  refine ⟨.dict (as := []) (bs := []) ho hx.1 hd (by rw [e2]; exact .nil) (by rw [e2]; exact .nil), fun z => ?_⟩
  rw [z] at hs
  simp at hs
theorem rds_flat (I : Inv X pins σ H s) : ∀ {ds : List Dt} {vs : List V} {us : List Value}, Rps X.K H ds vs → Vals vs us → ds.all flatD = true → ∃ as, ReadsAll s.heap us (shPs ds) as ∧ sysModules ∉ as
  | [], _, _, h, r, _ => by
    rw [show _ = [] from h] at r
    cases r
    exact ⟨[], .nil, fun z => nomatch z⟩
  | d :: ds, _, _, h, r, p => by
    obtain ⟨x, t, e, h1, h2⟩ := h
    subst e
    obtain ⟨p1, p2⟩ := Bool.and_eq_true_iff.mp (show (flatD d && ds.all flatD) = true from p)
    cases r with
    | cons r1 r2 =>
      rename_i u us
      obtain ⟨as, q1, q2⟩ := rds_flat I h2 r2 p2
      have one : ∃ bs, Reads s.heap u (shP d) bs ∧ sysModules ∉ bs := by
        cases d with
        | non => rw [show x = _ from h1] at r1; cases (show u = Value.none from r1); exact ⟨[], .none, fun z => nomatch z⟩
        | bl b => rw [show x = _ from h1] at r1; cases (show u = Value.bool b from r1); exact ⟨[], .bool b, fun z => nomatch z⟩
        | int i => rw [show x = _ from h1] at r1; obtain ⟨t, q⟩ := (show ∃ t, u = Value.int i t from r1); cases q; exact ⟨[], .int i t, fun z => nomatch z⟩
        | str l => rw [show x = _ from h1] at r1; obtain ⟨t, q⟩ := (show ∃ t, u = Value.str (S l) t from r1); cases q; exact ⟨[], .str _ t, fun z => nomatch z⟩
        | dict ks vs =>
          have e3 : ks = [] ∧ vs = [] := by
            cases ks <;> cases vs <;> first | exact ⟨rfl, rfl⟩ | cases p1
          obtain ⟨rfl, rfl⟩ := e3
          obtain ⟨a, ys, ev, hd, hk, _⟩ := h1
          rw [ev] at r1
          obtain rfl : u = Value.ref a := r1
          obtain ⟨q3, q4⟩ := d0_reads I hd (List.map_eq_nil_iff.mp hk)
          exact ⟨[a], q3, fun z => by simp at z; exact q4 z.symm⟩
        | lst _ => cases p1
        | tup _ => cases p1
        | opq _ => cases p1
        | exc _ _ => cases p1
        | ex0 _ => cases p1
        | scr _ => cases p1
      obtain ⟨bs, q3, q4⟩ := one
      exact ⟨bs ++ as, .cons q3 q1, fun z => (List.mem_append.mp z).elim q4 q2⟩
mutual
theorem dep_sh : ∀ (d : Dt), (shP d).depth ≤ depD d + 1
  | .non => by show 0 ≤ _; omega
  | .bl _ => by show 0 ≤ _; omega
  | .int _ => by show 0 ≤ _; omega
  | .str _ => by show 0 ≤ _; omega
  | .lst ds => Nat.succ_le_succ (dep_shs ds)
  | .tup ds => Nat.succ_le_succ (dep_shs ds)
  | .opq _ => by show 0 ≤ _; omega
  | .dict _ _ => by show (PyData.dict []).depth ≤ 1; decide
  | .exc _ _ => by show 0 ≤ _; omega
  | .ex0 _ => by show 0 ≤ _; omega
  | .scr _ => by show 0 ≤ _; omega
theorem dep_shs : ∀ (ds : List Dt), PyData.depthAll (shPs ds) ≤ depDs ds + 1
  | [] => by show 0 ≤ _; omega
  | d :: ds => by
    have h1 := dep_sh d
    have h2 := dep_shs ds
    show max (shP d).depth (PyData.depthAll (shPs ds)) ≤ max (depD d) (depDs ds) + 1
    omega
end
/-- repr(x) -/
def rRep (K : PySem.W.Frag) : List V → Hp → VK → Prop := fun xs H Q => ∃ (d : Dt) (x : V), xs = [x] ∧ Rp K H d x ∧ shOk d = true ∧ Q (.str (shT d)) H
theorem call_repr (hg : X.A.guards = some []) (hu : X.A.units + 80 < cLine) : CallR X (.builtin "repr") (rRep X.K) := by
  intro pins s σ H xs us Q I r h
  obtain ⟨d, x, rfl, hx, hok, q⟩ := h
  obtain ⟨hok, h4⟩ := Bool.and_eq_true_iff.mp hok
  obtain ⟨hok, h3⟩ := Bool.and_eq_true_iff.mp hok
  obtain ⟨h1, h2⟩ := Bool.and_eq_true_iff.mp hok
  have h4 := sz (of_decide_eq_true h4)
  have h2 := of_decide_eq_true h2
  have hdp := dep_sh d
  cases r with
  | cons r1 r2 =>
    cases r2
    rename_i u
    have viaR : ∀ {a : Addr} {as : List Addr}, u = .ref a → Reads s.heap (.ref a) (shP d) as → ((shP d).hasDict = true → sysModules ∉ as) → wpAny (model X.prog X.w) X.A (call (.builtin "repr") [u]) (EP X pins σ Q) X.xe s := fun {a as} e rd hn => by
      subst e
      exact repr_of_reads' rd h3 hn hg (by omega) (fun _ _ e => e) (fun h' u tk hk => ⟨.str (shT d), H, I.kept (t' := tk) hk, ⟨_, rfl⟩, q⟩) h4
    have viaP : plainD d = true → ∀ {a : Addr}, u = .ref a → wpAny (model X.prog X.w) X.A (call (.builtin "repr") [u]) (EP X pins σ Q) X.xe s := fun hp {a} e => by
      obtain ⟨as, rd⟩ := Dp.reads I _ x u (hx.dp hp) r1
      rw [← shP_py hp, e] at rd
      refine viaR e rd (PyData.noDict_hsm ?_)
      rw [shP_py hp]
      exact PyData.hasDict_of_canLay _ (canLay_of hp)
    cases d with
    | non => rw [show x = _ from hx] at r1; cases (show u = Value.none from r1); exact PySem.P.repr_of_none ⟨.str _, H, I.tok _, ⟨_, rfl⟩, q⟩
    | bl b => rw [show x = _ from hx] at r1; cases (show u = Value.bool b from r1); exact PySem.P.repr_of_bool ⟨.str _, H, I.tok _, ⟨_, rfl⟩, q⟩
    | int i => rw [show x = _ from hx] at r1; obtain ⟨t, e⟩ := (show ∃ t, u = Value.int i t from r1); cases e; exact PySem.P.repr_of_int (of_decide_eq_true (by simpa [shP, PyData.showable] using h3)) ⟨.str _, H, I.tok _, ⟨_, rfl⟩, q⟩
    | str l => rw [show x = _ from hx] at r1; obtain ⟨t, e⟩ := (show ∃ t, u = Value.str (S l) t from r1); cases e; exact PySem.P.repr_of_str ⟨.str _, H, I.tok _, ⟨_, rfl⟩, q⟩ h4
    | tup ds =>
      obtain ⟨a, _, ev, _⟩ := id hx
      rw [ev] at r1
      exact viaP h1 (show u = Value.ref a from r1)
    | dict ks vs =>
      have e3 : ks = [] ∧ vs = [] := by
        cases ks <;> cases vs <;> first | exact ⟨rfl, rfl⟩ | cases h1
      obtain ⟨rfl, rfl⟩ := e3
      obtain ⟨a, ys, ev, hd, hk, _⟩ := hx
      rw [ev] at r1
      obtain ⟨q3, q4⟩ := d0_reads I hd (List.map_eq_nil_iff.mp hk)
      exact viaR (show u = Value.ref a from r1) q3 fun _ z => by simp at z; exact q4 z.symm
    | lst ds =>
      obtain ⟨a, xs, ev, hl, hi⟩ := id hx
      rw [ev] at r1
      obtain rfl : u = Value.ref a := r1
      rcases Bool.or_eq_true_iff.mp (show (plainDs ds || ds.all flatD) = true from h1) with hp | hf
      · exact viaP hp rfl
      · obtain ⟨_, its, n, rv, hget⟩ := (show ObjOk X.prog X.w H s.heap a (.lst xs) from I.hok a _ hl)
        obtain ⟨as, rd, hno⟩ := rds_flat I hi rv hf
        have h4' : (listText (PyData.shownAll (shPs ds))).length ≤ sizeLine := h4
        have rdL : Reads s.heap (.ref a) (.list (shPs ds)) (a :: as) := .list hget rfl rfl (by simpa using rd)
        obtain ⟨bs, hb, hk⟩ := ReprAllK.of_readsAll (prog := X.prog) (w := X.w) rd h3 (fun _ => hno) (fun t ht => Nat.le_trans (listText_mem_le ht) h4')
        have hna : a ∉ bs := not_mem_of_deeper rdL (by simp only [PyData.depth]; omega) hb
        have hdl : PyData.depthAll (shPs ds) + 1 ≤ depD (.lst ds) + 1 := hdp
        refine call_repr_slot (by omega) ⟨_, hget, rfl⟩ F.slot_list_repr.toG ?_
        cases its with
        | nil =>
          have e0 : shPs ds = [] := by
            have rd' : ReadsAll s.heap [] (shPs ds) as := rd
            generalize shPs ds = l at rd'
            cases rd'
            rfl
          refine call_list_repr_empty ⟨_, hget, rfl⟩ hget rfl ⟨_, _, rfl, .str (shT (.lst ds)), H, I.tok _, ?_, q⟩
          show ∃ t, _ = Value.str (listText (PyData.shownAll (shPs ds))) t
          rw [e0]
          exact ⟨_, rfl⟩
        | cons y l =>
          exact call_list_reprK hget rfl rfl hna (by simpa using hk.length_eq) (fun i z e => hk.item i z (by simpa using e)) hg (fun b _ => Clear.nil b) (by show X.A.units + 1 + _ < _; omega) (fun _ _ e => e)
            (fun h' u tk hk => ⟨_, _, rfl, .str (shT (.lst ds)), H, I.kept (t' := tk) hk, ⟨_, rfl⟩, q⟩) h4'
    | opq _ => cases h1
    | exc _ _ => cases h1
    | ex0 _ => cases h1
    | scr _ => cases h1
end
end L2.DL
set_option maxHeartbeats 4000000
namespace L2.DL
open PySem PySem.Spec PyProof.Rows
section
variable {X : Cx} {ρ : Rho} {μ μ1 μ2 μ3 : Mu} {x y z : AV} {e a b c : Expr} {es : List Expr} {pos apos p p2 : Pos} {k : Nat} {K : PySem.W.Frag}
/-! ### great numbers -/
def CPowB (i j : Int) : Prop := 0 ≤ j ∧ (Builtin.Int.intBits i : Int) * j ≤ 134217728
theorem op_powB : OpR X (binaryOp .Pow) (rI CPowB fun i j => .int (i ^ j.toNat)) := opI fun _ _ _ _ _ _ _ hc q => pow_int hc.1 (Int.le_trans hc.2 (by decide)) q
theorem br_powB {i j : Int} (h : CPowB i j) : BR K (rI CPowB fun i j => .int (i ^ j.toNat)) (.d (.int i)) (.d (.int j)) μ (.d (.int (i ^ j.toNat))) μ := br_I h fun _ => rfl
theorem br_fdivW {i j : Int} (h : CDivW i j) : BR K (rI CDivW fun i j => .int (i / j)) (.d (.int i)) (.d (.int j)) μ (.d (.int (i / j))) μ := br_I h fun _ => rfl
theorem br_mulW {i j : Int} (h : CMulW i j) : BR K (rI CMulW fun i j => .int (i * j)) (.d (.int i)) (.d (.int j)) μ (.d (.int (i * j))) μ := br_I h fun _ => rfl
theorem ae_bits {i : Int} (h : AE X a ρ μ (.ok (.d (.int i)) μ1)) (hbase : attributeBase a "bit_length" X.env (eval a X.env) = eval a X.env := by rfl) (hline : (apos.endLine == pos.line) = true := by rfl) : AE X (.Call (.Attribute a "bit_length" apos) [] [] pos) ρ μ (.ok (.d (.int (Builtin.Int.intBits i : Nat))) μ1) :=
  AE.of (pe_bits pe_rd hbase hline) fun F H σ hs hh Q W tk q => h.go hs hh tk fun F1 H1 u e1 h1 a1 => ⟨i, a1, q F1 H1 _ e1 h1 rfl⟩
/-! ### texts -/
theorem mc_upper {l : List Nat} (h : l.length ≤ 5000000) (ha : l.all (· < 128) = true) : MC K (fun x xs H Q => ∃ a, x = .str a ∧ xs = [] ∧ a.length ≤ 5592405 ∧ Q (.str (Txt.upper a)) H) (.d (.str l)) [] μ (.d (.str (l.map PyProof.Rows.up1))) μ := by
  intro F H u vs Q hh a1 a2 q
  exact ⟨S l, a1, a2, by rw [S_len]; omega, q F H _ (Same.refl _) hh (congrArg V.str (SX.upper_S ha))⟩
theorem mc_lower {l : List Nat} (h : l.length ≤ 5000000) (ha : l.all (· < 128) = true) : MC K (fun x xs H Q => ∃ a, x = .str a ∧ xs = [] ∧ a.length ≤ 5592405 ∧ Q (.str (Txt.lower a)) H) (.d (.str l)) [] μ (.d (.str (l.map PyProof.Rows.lo1))) μ := by
  intro F H u vs Q hh a1 a2 q
  exact ⟨S l, a1, a2, by rw [S_len]; omega, q F H _ (Same.refl _) hh (congrArg V.str (SX.lower_S ha))⟩
theorem rps_strs {F : Hp} : ∀ {ls : List (List Nat)} {vs : List V}, Rps K F (ls.map Dt.str) vs → vs = (ls.map S).map V.str
  | [], _, h => h
  | l :: ls, _, h => by
    obtain ⟨v, r, e, h1, h2⟩ := h
    rw [e, show v = V.str (S l) from h1, rps_strs h2]
    rfl
/-- what "sep".join makes of texts -/
def joinD (l : List Nat) (ls : List (List Nat)) : List Nat := (Txt.join (S l) (ls.map S)).cps.toList
theorem mc_join {l : List Nat} {ls : List (List Nat)} (h : (ls.map List.length).sum + ls.length * l.length ≤ 16777216) : MC K (fun x xs H Q => ∃ a p, ∃ ys : List Str, x = .str a ∧ xs = [.ref p] ∧ (SqL K H p (ys.map V.str) ∨ SqT K H p (ys.map V.str)) ∧
    (ys.map (·.length)).sum + ys.length * a.length ≤ 16777216 ∧ Q (.str (Txt.join a ys)) H) (.d (.str l)) [.d (.lst (ls.map Dt.str))] μ (.d (.str (joinD l ls))) μ := by
  intro F H u vs Q hh a1 a2 q
  obtain ⟨v, e, a3⟩ := avs1 a2
  obtain ⟨p, us, ev, h1, r1⟩ := a3
  have eu := rps_strs r1
  subst eu
  refine ⟨S l, p, ls.map S, a1, by rw [e, ev], .inl (SqL.of (hh.ex _ _ h1)), ?_, q F H _ (Same.refl _) hh (congrArg V.str (S_of _).symm)⟩
  rw [List.map_map, List.length_map, S_len]
  have e2 : ((fun x : Str => x.length) ∘ S) = List.length := funext fun z => S_len z
  rw [e2]
  exact h
/-- one sign within a text -/
theorem br_inS {n : Nat} {l : List Nat} : BR K (fun x y H Q => ∃ (c : Nat) (z : Str), x = .str ⟨#[c]⟩ ∧ y = .str z ∧ Q (.bl (decide (c ∈ z.cps.toList))) H) (.d (.str [n])) (.d (.str l)) μ (.d (.bl (decide (n ∈ l)))) μ :=
  br_val fun F H u v _ a1 a2 => ⟨.bl (decide (n ∈ l)), rfl, fun Q q => ⟨n, S l, a1, a2, by rw [S_cps]; exact q⟩⟩
/-- the place of a text within another one -/
theorem mc_index {l m : List Nat} {i : Nat} {rest : List Nat} (h : Builtin.Str.occurrences (S l) (S m) 0 (S l).length 1 = i :: rest) : MC K (fun x xs H Q => ∃ a b i rest, x = .str a ∧ xs = [.str b] ∧ Builtin.Str.occurrences a b 0 a.length 1 = i :: rest ∧ Q (.int (i : Nat)) H) (.d (.str l)) [.d (.str m)] μ (.d (.int (i : Nat))) μ := by
  intro F H u vs Q hh a1 a2 q
  obtain ⟨v, e, a3⟩ := avs1 a2
  exact ⟨S l, S m, i, rest, a1, by rw [e]; exact congrArg (fun z => [z]) a3, h, q F H _ (Same.refl _) hh rfl⟩
/-- a text so many times -/
def repD {α : Type} (n : Nat) (l : List α) : List α := (List.replicate n l).flatten
def rMulS : R2 := fun x y H Q => ∃ (l : Str) (n : Int), x = .str l ∧ y = .int n ∧ 2 ≤ n ∧ n ≤ 100000 ∧ 1 ≤ l.length ∧ l.length ≤ 100 ∧ Q (.str ⟨(List.replicate n.toNat l.cps).foldl (· ++ ·) #[]⟩) H
theorem fold_app (n : Nat) (c acc : Array Nat) : ((List.replicate n c).foldl (· ++ ·) acc).toList = acc.toList ++ repD n c.toList := by
  induction n generalizing acc with
  | zero => simp [repD]
  | succ n ih =>
    rw [List.replicate_succ, List.foldl_cons, ih]
    simp [repD, List.replicate_succ]
theorem repD_len {α : Type} (n : Nat) (l : List α) : (repD n l).length = n * l.length := by
  unfold repD
  induction n with
  | zero => simp
  | succ n ih => rw [List.replicate_succ, List.flatten_cons, List.length_append, ih, Nat.succ_mul, Nat.add_comm]
theorem op_mulS : OpR X (binaryOp .Mult) rMulS := by
  intro pins s σ H x y v u Q I rx ry h
  obtain ⟨l, n, rfl, rfl, h1, h2, h3, h4, q⟩ := h
  obtain ⟨t, rfl⟩ := rx
  obtain ⟨t', rfl⟩ := ry
  have big : l.length * n.toNat ≤ 10000000 := Nat.le_trans (Nat.mul_le_mul h4 (show n.toNat ≤ 100000 by omega)) (by decide)
  have ne1 : (n == 1 || l.length == 0) = false := by
    have a1 : (n == 1) = false := by simp; omega
    have a2 : (l.length == 0) = false := by simp; omega
    rw [a1, a2]; rfl
  refine PySem.P.mul_str (by simp; omega) (fun _ _ => ?_) (fun _ _ => ?_) ?_
  · have q2 : (100 : Int) ≤ (2 ^ 63 - 1) / n := Int.le_ediv_of_mul_le (by omega) (by omega)
    have q3 : (l.length : Int) ≤ 100 := by omega
    omega
  · unfold Builtin.Str.tooLong
    exact decide_eq_false (by have := sz big; omega)
  · rw [if_neg (by omega), if_neg (by rw [ne1]; exact Bool.false_ne_true)]
    refine ⟨?_, .str _, H, I.tok _, ⟨_, rfl⟩, q⟩
    have e1 : ((List.replicate n.toNat l.cps).foldl (· ++ ·) #[]).size = l.length * n.toNat := by
      rw [← Array.length_toList, fold_app, List.length_append, repD_len, Nat.mul_comm]
      show 0 + _ = _
      rw [Nat.zero_add]
      rfl
    show ((List.replicate n.toNat l.cps).foldl (· ++ ·) #[]).size ≤ sizeLine
    rw [e1]
    exact sz big
theorem br_mulS {l : List Nat} {n : Nat} (h1 : 2 ≤ n ∧ n ≤ 100000) (h2 : 1 ≤ l.length ∧ l.length ≤ 100) : BR K rMulS (.d (.str l)) (.d (.int (n : Int))) μ (.d (.str (repD n l))) μ :=
  br_val fun F H u v _ a1 a2 => ⟨.str (S (repD n l)), rfl, fun Q q => ⟨S l, n, a1, a2, by omega, by omega, by rw [S_len]; exact h2.1, by rw [S_len]; exact h2.2, by
    have e : (⟨(List.replicate (n : Int).toNat (S l).cps).foldl (· ++ ·) #[]⟩ : Str) = S (repD n l) := by
      have e2 : ((List.replicate (n : Int).toNat (S l).cps).foldl (· ++ ·) #[]).toList = repD n l := by
        rw [fold_app, S_cps, Int.toNat_natCast]
        rfl
      show (⟨_⟩ : Str) = ⟨(repD n l).toArray⟩
      rw [← e2, Array.toArray_toList]
    rw [e]
    exact q⟩⟩
end
end L2.DL
set_option maxHeartbeats 4000000
namespace L2.DL
open PySem PySem.Spec PyProof.Rows
/-! ### s[::-1] -/
theorem rev_made (l : List Nat) (u : Tok) (t : Tok) : sliceMade (S l) t none none (some ((-1 : Int), u)) = .str (S l.reverse) := by
  unfold sliceMade
  have h1 : ¬ ((((some ((-1 : Int), u)).map (·.1)).getD 1 == 1 && (slicePicked (S l) none none (some ((-1 : Int), u))).length == (S l).length) = true) := by
    have z : (((some ((-1 : Int), u)).map (·.1)).getD 1 == 1) = false := rfl
    rw [z, Bool.false_and]
    exact Bool.false_ne_true
  rw [if_neg h1]
  have e : (slicePicked (S l) none none (some ((-1 : Int), u))) = (List.range l.length).map fun k => l.length - 1 - k := by
    show Builtin.Str.strSliceIndices none none (-1) (S l).length = _
    rw [picked_rev, S_len]
  rw [e]
  have e2 : ((List.range l.length).map fun k => l.length - 1 - k).filterMap ((S l).cps[·]?) = l.reverse := by
    rw [filterMap_get _ _ (fun i hi => by
      obtain ⟨j, hj, rfl⟩ := List.mem_map.mp hi
      have := List.mem_range.mp hj
      have z : (S l).cps.size = l.length := S_len l
      omega), List.map_map]
    apply List.ext_getElem
    · simp
    · intro i h1 h2
      have hi : i < l.length := by simpa using h1
      have hj : l.length - 1 - i < l.length := by omega
      simp [S, hj]
  show Made.str ⟨(((List.range l.length).map fun k => l.length - 1 - k).filterMap ((S l).cps[·]?)).toArray⟩ = _
  rw [e2]
section
variable {X : Cx} {ρ : Rho} {μ μ1 μ2 μ3 : Mu} {x y z : AV} {e a b c : Expr} {es : List Expr} {pos apos p p1 p2 p3 : Pos} {k : Nat} {K : PySem.W.Frag}
theorem ae_revS {l : List Nat} (he : AE X e ρ μ (.ok (.d (.str l)) μ1)) (hl : l.length ≤ 10000000)
    (hs : ∀ o i, subscripted (.Slice none none (some (.UnaryOp .USub (.Constant (.int 1) k p1) p2)) p3) false o i = operate [o, i] (getItem o i) := by intro _ _; with_unfolding_all rfl) : AE X (.Subscript e (.Slice none none (some (.UnaryOp .USub (.Constant (.int 1) k p1) p2)) p3) pos) ρ μ (.ok (.d (.str l.reverse)) μ1) := by
  refine AE.of (t := fun σ H Q => rdE X e σ H fun v H1 => v = .str (S l) ∧ Q (.str (S l.reverse)) H1) ⟨fun pins s σ H Q I h => ?_⟩ fun F H σ hsl hh Q W tk q => he.go hsl hh tk fun F1 H1 v e1 h1 a1 => ⟨a1, q F1 H1 _ e1 h1 rfl⟩
  refine Subscript_ (thn (pe_rd.run pins s σ H _ I h) fun v s1 ⟨x, H1, I1, r1, ex, q⟩ => ?_)
  subst ex
  obtain ⟨t, rfl⟩ := r1
  have hst : PO X (some (.UnaryOp .USub (.Constant (.int 1) k p1) p2)) (tPart (tUn (rU fun i => .int (-i)) (tC (.int 1)))) := po_some (pe_un un_neg pe_int)
  refine wpAny_Slice (thn (po_none.run pins s1 σ H1 (fun o H2 => o = none ∧ H2 = H1) I1 ⟨rfl, rfl⟩) fun vl s2 ⟨lo, H2, I2, pl, el, e2⟩ => ?_)
  subst el e2
  refine thn (po_none.run pins s2 σ H2 (fun o H3 => o = none ∧ H3 = H2) I2 ⟨rfl, rfl⟩) fun vu s3 ⟨u, H3, I3, pu, eu, e3⟩ => ?_
  subst eu e3
  refine thn (hst.run pins s3 σ H3 (fun o H4 => o = some (-1) ∧ H4 = H3) I3 ⟨1, rfl, -1, rfl, rfl, rfl⟩) fun vs s4 ⟨o, H4, I4, ps, eo, e4⟩ => ?_
  subst eo e4
  cases pl
  cases pu
  cases ps with
  | int i tv =>
    refine tail_any (ops := [.str (S l) t, .ref s4.heap.objs.size]) (typeIs_str _ _ _) PySem.F.slot_str_getitem.lookup ?_ (hs _ _)
    refine wpAny_getItem_str_slice (l := none) (u := none) (st := some ((-1 : Int), tv)) ⟨_, Heap.get?_push_size _ rfl, rfl, rfl⟩ rfl ?_
    rw [rev_made]
    refine ⟨by show l.reverse.toArray.size ≤ _; rw [List.size_toArray, List.length_reverse]; exact sz hl, .str (S l.reverse), H4, ?_, ⟨_, rfl⟩, q⟩
    exact I4.kept (t' := s4.toks + 1) fun b ob q => Heap.get?_push_of_some _ q
theorem rps_rev {F : Hp} {ds : List Dt} {vs : List V} (h : Rps K F ds vs) : Rps K F ds.reverse vs.reverse := by
  induction ds generalizing vs with
  | nil => rw [show vs = [] from h]; exact rfl
  | cons d ds ih =>
    obtain ⟨v, r, e, h1, h2⟩ := h
    rw [e, List.reverse_cons, List.reverse_cons]
    exact (ih h2).append ⟨v, [], rfl, h1, rfl⟩
theorem ae_revL {ds : List Dt} (he : AE X e ρ μ (.ok (.d (.lst ds)) μ1)) : AE X (.Subscript e (.Slice none none (some (.UnaryOp .USub (.Constant (.int 1) k p1) p2)) p3) pos) ρ μ (.ok (.d (.lst ds.reverse)) μ1) :=
  AE.of (pe_revL pe_rd) fun F H σ hs hh Q W tk q => he.go hs hh tk fun F1 H1 v e1 h1 a1 => by
    obtain ⟨p, us, ev, h2, r2⟩ := a1
    refine ⟨p, us, ev, SqL.of (h1.ex _ _ h2), fun l hl => ?_⟩
    have f0 := h1.fnone hl
    exact q _ _ _ (e1.trans (same_new f0)) (h1.new hl) ⟨l, _, rfl, upd_same, Rps.mono (same_new f0) (rps_rev r2)⟩
/-! ### o.replace(a, b): a a text just laid, b a text -/
/-- like a reading; behind it some text has been laid -/
def PEp (X : Cx) (e : Expr) (t : TE) : Prop := ∀ (pins : List (Addr × Obj)) (s : Shared) (σ : St) (H : Hp) (Q : VK), Inv X pins σ H s → t σ H Q → wpAny (model X.prog X.w) X.A (eval e X.env) (fun v s' => 0 < s'.toks ∧ EP X pins σ Q v s') X.xe s
def PEk (X : Cx) (e : Expr) (t : TE) : Prop := ∀ (pins : List (Addr × Obj)) (s : Shared) (σ : St) (H : Hp) (Q : VK), Inv X pins σ H s → t σ H Q → wpAny (model X.prog X.w) X.A (eval e X.env) (fun v s' => (∃ y u, v = .str y u ∧ u ≠ 0 ∧ u < s'.toks) ∧ EP X pins σ Q v s') X.xe s
theorem toks_ep {Y : Sem Value} {s : Shared} {P : Value → Shared → Prop} {E : Value → Shared → Prop} {M : Model} {A : Around} (h : wpAny M A Y P E s) : wpAny M A Y (fun v s' => s.toks ≤ s'.toks ∧ P v s') E s := wpAny_mono (wpAny_toks h) (fun _ _ q => q) fun _ _ q => q.2
theorem pep_upper {te : TE} (ho : PE X e te) (hbase : attributeBase e "upper" X.env (eval e X.env) = eval e X.env) (hline : (apos.endLine == pos.line) = true) :
    PEp X (.Call (.Attribute e "upper" apos) [] [] pos) (fun σ H Q => te σ H fun v H1 => ∃ a, v = .str a ∧ a.length ≤ 5000000 ∧ Q (.str (Txt.upper a)) H1) := by
  intro pins s σ H Q I h
  refine PySem.Call_method0 hbase hline (thn (ho.run pins s σ H _ I h) fun v s1 ⟨x, H1, I1, r1, a, ex, hl, q⟩ => ?_)
  subst ex
  obtain ⟨t, rfl⟩ := r1
  refine ⟨"str", _, PySem.F.plainAttrs_str, PySem.F.slot_str_upper, PySem.F.type_str_upper, typeIs_str _ _ _, (fun _ e => nomatch e), Calls.callWith_builtin rfl (PySem.evalArgs_none (PySem.SC.upper (PyProof.Rows.short24 (by have := PyProof.Rows.len_upper a; omega)) ⟨Nat.succ_pos _, .str _, H1, I1.tok _, ⟨_, rfl⟩, q⟩))⟩
def rCatK : R2 := fun x y H Q => ∃ i j, x = .str i ∧ y = .str j ∧ 1 ≤ i.length ∧ 1 ≤ j.length ∧ i.length + j.length ≤ 10000000 ∧ Q (.str (i ++ j)) H
theorem catK {pins : List (Addr × Obj)} {σ : St} {H : Hp} {s : Shared} {x y : V} {v u : Value} {Q : VK} (I : Inv X pins σ H s) (rx : RelV x v) (ry : RelV y u) (hp : 0 < s.toks) (h : rCatK x y H Q) :
    wpAny (model X.prog X.w) X.A (binaryOp .Add v u) (fun v s' => (∃ y u, v = .str y u ∧ u ≠ 0 ∧ u < s'.toks) ∧ EP X pins σ Q v s') X.xe s := by
  obtain ⟨i, j, rfl, rfl, h1, h2, h3, q⟩ := h
  obtain ⟨t, rfl⟩ := rx
  obtain ⟨t', rfl⟩ := ry
  refine PySem.P.add_str ?_
  have n1 : (i.length == 0) = false := by simp; omega
  have n2 : (j.length == 0) = false := by simp; omega
  rw [n1, n2, if_neg Bool.false_ne_true, if_neg Bool.false_ne_true]
  refine ⟨?_, ⟨_, _, rfl, Nat.pos_iff_ne_zero.mp hp, Nat.lt_succ_self _⟩, .str (i ++ j), H, I.tok _, ⟨_, rfl⟩, q⟩
  have e : (i ++ j).length = i.length + j.length := by show (Str.append i j).cps.size = _; simp [Str.append, Str.length]
  rw [e]
  exact sz h3
theorem pek_catR {ta tb : TE} (ha : PE X a ta) (hb : PEp X b tb) : PEk X (.BinOp a .Add b pos) (tOp rCatK ta tb) := by
  intro pins s σ H Q I h
  exact wpAny_BinOp (thn (ha.run pins s σ H _ I h) fun v s1 ⟨x, H1, I1, r1, q1⟩ => thn (hb pins s1 σ H1 _ I1 q1) fun u s2 ⟨hp, y, H2, I2, r2, q2⟩ => catK I2 r1 r2 hp q2)
theorem pek_catL {ta tb : TE} (ha : PEp X a ta) (hb : PE X b tb) : PEk X (.BinOp a .Add b pos) (tOp rCatK ta tb) := by
  intro pins s σ H Q I h
  exact wpAny_BinOp (thn (ha pins s σ H _ I h) fun v s1 ⟨hp, x, H1, I1, r1, q1⟩ => wpAny_mono (toks_ep (hb.run pins s1 σ H1 _ I1 q1)) (fun u s2 ⟨mt, y, H2, I2, r2, q2⟩ => catK I2 r1 r2 (by omega) q2) fun _ _ z => z)
end
end L2.DL
set_option maxHeartbeats 4000000
namespace L2.DL
open PySem PySem.Spec PyProof.Rows
section
variable {X : Cx} {ρ : Rho} {μ μ1 μ2 μ3 : Mu} {x y z : AV} {e a b c o : Expr} {es : List Expr} {pos apos p p1 p2 p3 c0 : Pos} {k j : Nat} {K : PySem.W.Frag}
/-- o.replace(a, "..") -/
theorem pe_replK {to ta : TE} {zz : Str} (ho : PE X o to) (ha : PEk X a ta) (hst : starEach [a, .Constant (.str zz) j c0] X.env = [(false, eval a X.env), (false, eval (.Constant (.str zz) j c0) X.env)])
    (hbase : attributeBase o "replace" X.env (eval o X.env) = eval o X.env) (hline : (apos.endLine == pos.line) = true) :
    PE X (.Call (.Attribute o "replace" apos) [a, .Constant (.str zz) j c0] [] pos) (fun σ H Q => to σ H fun v H1 => ∃ l : Str, v = .str l ∧ ta σ H1 fun u H2 => ∃ m : Str, u = .str m ∧ (m == zz) = false ∧ l.length + (l.length + 1) * zz.length ≤ 16777216 ∧ Q (.str (Txt.replace l m zz)) H2) := by
  refine ⟨fun pins s σ H Q I h => ?_⟩
  refine PySem.Call_method2 hbase hst hline (thn (ho.run pins s σ H _ I h) fun v s1 ⟨x, H1, I1, r1, l, ex, q1⟩ => ?_)
  subst ex
  obtain ⟨t, rfl⟩ := r1
  refine ⟨"str", _, PySem.F.plainAttrs_str, PySem.F.slot_str_replace, PySem.F.type_str_replace, typeIs_str _ _ _, (fun _ e => nomatch e), Calls.callWith_builtin rfl (Calls.evalArgs_plain (Calls.spliced_cons ?_))⟩
  refine wpAny_mono (ha pins s1 σ H1 _ I1 q1) (fun v s2 ⟨⟨m0, t2, ev, h0, hlt⟩, y, H2, I2, r2, m, ey, hne, hb, q2⟩ => ?_) fun _ _ z => z
  subst ev ey
  obtain ⟨t3, e3⟩ := (show ∃ t, Value.str m0 t2 = Value.str m t from r2)
  cases e3
  refine Calls.spliced_cons (Calls.Constant_str (Calls.spliced_nil ?_))
  exact PySem.SC.replace h0 (by show s2.toks ≠ 0; exact Nat.ne_of_gt (Nat.lt_of_le_of_lt (Nat.zero_le _) hlt)) (by show t2 ≠ s2.toks; exact Nat.ne_of_lt hlt) hne hb fun t' k => ⟨.str (Txt.replace l m0 zz), H2, I2.tok k, ⟨t', rfl⟩, q2⟩
/-- what replace makes, by lists -/
def replD (y z l : List Nat) : List Nat := StrLaws.replL y z l
theorem repl_S {l m zz : List Nat} (hm : 1 ≤ m.length) : Txt.replace (S l) (S m) (S zz) = S (replD m zz l) := by
  have h := StrLaws.replace_list (x := S l) (y := S m) (z := S zz) (by rw [S_len]; exact hm)
  rw [S_cps, S_cps, S_cps] at h
  have e := S_of (Txt.replace (S l) (S m) (S zz))
  rw [h] at e
  exact e.symm
/-- o.replace(a + b.upper(), "") -/
theorem ae_replR {l m n : List Nat} (ho : AE X o ρ μ (.ok (.d (.str l)) μ)) (ha : AE X a ρ μ (.ok (.d (.str m)) μ)) (hb : AE X b ρ μ (.ok (.d (.str n)) μ)) (hm : 1 ≤ m.length ∧ m.length ≤ 1000) (hn : 1 ≤ n.length ∧ n.length ≤ 1000) (ha2 : n.all (· < 128) = true) (hl : l.length ≤ 10000000) {q1 q2 q3 : Pos}
    (hst : starEach [.BinOp a .Add (.Call (.Attribute b "upper" q1) [] [] q2) q3, .Constant (.str ⟨#[]⟩) j c0] X.env = [(false, eval (.BinOp a .Add (.Call (.Attribute b "upper" q1) [] [] q2) q3) X.env), (false, eval (.Constant (.str ⟨#[]⟩) j c0) X.env)] := by rfl)
    (hbase : attributeBase o "replace" X.env (eval o X.env) = eval o X.env := by rfl) (hline : (apos.endLine == pos.line) = true := by rfl) (hbase2 : attributeBase b "upper" X.env (eval b X.env) = eval b X.env := by rfl) (hline2 : (q1.endLine == q2.line) = true := by rfl) :
    AE X (.Call (.Attribute o "replace" apos) [.BinOp a .Add (.Call (.Attribute b "upper" q1) [] [] q2) q3, .Constant (.str ⟨#[]⟩) j c0] [] pos) ρ μ (.ok (.d (.str (replD (m ++ n.map PyProof.Rows.up1) [] l))) μ) :=
  AE.of (pe_replK pe_rd (pek_catR pe_rd (pep_upper pe_rd hbase2 hline2)) hst hbase hline) fun F H σ hs hh Q W tk q => ho.go hs hh tk fun F1 H1 v e1 h1 a1 => ⟨S l, a1, ha.go (hs.mono e1) h1 tk fun F2 H2 u e2 h2 a2 => hb.go ((hs.mono e1).mono e2) h2 tk fun F3 H3 w e3 h3 a3 =>
    ⟨S n, a3, by rw [S_len]; omega, S m, Txt.upper (S n), a2, rfl, by rw [S_len]; exact hm.1, by rw [SX.upper_S ha2]; show 1 ≤ (S _).length; rw [S_len, List.length_map]; exact hn.1, by
      rw [SX.upper_S ha2]
      show (S m).length + (S _).length ≤ _
      rw [S_len, S_len, List.length_map]
      omega, S (m ++ n.map PyProof.Rows.up1), by
        rw [SX.upper_S ha2]
        exact congrArg V.str (S_app m (n.map PyProof.Rows.up1)), by
        cases m with
        | nil => simp at hm
        | cons c r => rfl, by
        show (S l).length + ((S l).length + 1) * 0 ≤ _
        rw [S_len]
        omega, by
        refine q F3 H3 _ ((e1.trans e2).trans e3) h3 ?_
        have e := repl_S (l := l) (m := m ++ n.map PyProof.Rows.up1) (zz := []) (by rw [List.length_append]; omega)
        exact congrArg V.str e⟩⟩
/-- o.replace(b.upper() + a, "") -/
theorem ae_replL {l m n : List Nat} (ho : AE X o ρ μ (.ok (.d (.str l)) μ)) (hb : AE X b ρ μ (.ok (.d (.str n)) μ)) (ha : AE X a ρ μ (.ok (.d (.str m)) μ)) (hm : 1 ≤ m.length ∧ m.length ≤ 1000) (hn : 1 ≤ n.length ∧ n.length ≤ 1000) (ha2 : n.all (· < 128) = true) (hl : l.length ≤ 10000000) {q1 q2 q3 : Pos}
    (hst : starEach [.BinOp (.Call (.Attribute b "upper" q1) [] [] q2) .Add a q3, .Constant (.str ⟨#[]⟩) j c0] X.env = [(false, eval (.BinOp (.Call (.Attribute b "upper" q1) [] [] q2) .Add a q3) X.env), (false, eval (.Constant (.str ⟨#[]⟩) j c0) X.env)] := by rfl)
    (hbase : attributeBase o "replace" X.env (eval o X.env) = eval o X.env := by rfl) (hline : (apos.endLine == pos.line) = true := by rfl) (hbase2 : attributeBase b "upper" X.env (eval b X.env) = eval b X.env := by rfl) (hline2 : (q1.endLine == q2.line) = true := by rfl) :
    AE X (.Call (.Attribute o "replace" apos) [.BinOp (.Call (.Attribute b "upper" q1) [] [] q2) .Add a q3, .Constant (.str ⟨#[]⟩) j c0] [] pos) ρ μ (.ok (.d (.str (replD (n.map PyProof.Rows.up1 ++ m) [] l))) μ) :=
  AE.of (pe_replK pe_rd (pek_catL (pep_upper pe_rd hbase2 hline2) pe_rd) hst hbase hline) fun F H σ hs hh Q W tk q => ho.go hs hh tk fun F1 H1 v e1 h1 a1 => ⟨S l, a1, hb.go (hs.mono e1) h1 tk fun F3 H3 w e3 h3 a3 => ⟨S n, a3, by rw [S_len]; omega, ha.go ((hs.mono e1).mono e3) h3 tk fun F2 H2 u e2 h2 a2 =>
    ⟨Txt.upper (S n), S m, rfl, a2, by rw [SX.upper_S ha2]; show 1 ≤ (S _).length; rw [S_len, List.length_map]; exact hn.1, by rw [S_len]; exact hm.1, by
      rw [SX.upper_S ha2]
      show (S _).length + (S m).length ≤ _
      rw [S_len, S_len, List.length_map]
      omega, S (n.map PyProof.Rows.up1 ++ m), by
        rw [SX.upper_S ha2]
        exact congrArg V.str (S_app (n.map PyProof.Rows.up1) m), by
        cases n with
        | nil => simp at hn
        | cons c r => rfl, by
        show (S l).length + ((S l).length + 1) * 0 ≤ _
        rw [S_len]
        omega, by
        refine q F2 H2 _ ((e1.trans e3).trans e2) h2 ?_
        have e := repl_S (l := l) (m := n.map PyProof.Rows.up1 ++ m) (zz := []) (by rw [List.length_append, List.length_map]; omega)
        exact congrArg V.str e⟩⟩⟩
end
end L2.DL
set_option maxHeartbeats 4000000
namespace L2.DL
open PySem PySem.Spec PyProof.Rows
/-! ### enumerate(a text) -/
def Ites (x : Str) : It := ⟨fun i _ => i < x.cps.size, fun i H v H' => ∃ T c, v = .ref T ∧ H T = none ∧ H' = upd H T (.tup [.int (i : Nat), .str ⟨#[c]⟩]) ∧ x.cps[i]? = some c, fun i _ => x.cps.size ≤ i⟩
theorem turn_enumS {P : Program} {w : World} {K : PySem.W.Frag} {elts : List Expr} {kk : Nat} {tpos : Pos} (e it : Addr) (x : Str) (t : Tok) (ty : String) (hty : ty = "str_ascii_iterator" ∨ ty = "str_iterator") :
    Turn P w K (.Tuple elts kk tpos) (Ites x) [e, it] e (fun i h => (∃ old, IsEnum h e it ((i : Nat) : Int) old) ∧ h.IsStrIter it ty x t i ∧ e ≠ it) where
  mem := by simp
  obj := fun i h st b hb => by
    obtain ⟨⟨old, he⟩, ⟨o, ho, hc, hd⟩, _⟩ := st
    rcases (show b = e ∨ b = it by simpa using hb) with z | z
    · rw [z]; exact ⟨_, he, fun v q => nomatch q⟩
    · rw [z]; exact ⟨o, ho, fun v q => by rw [hd] at q; cases q⟩
  keep := fun i h h' st k => by
    obtain ⟨⟨old, he⟩, ⟨o, ho, r⟩, hne⟩ := st
    exact ⟨⟨old, k e (by simp) _ he⟩, ⟨o, k it (by simp) o ho, r⟩, hne⟩
  item := by
    intro X hP hw hK hc i pins s σ H E I hf st hg
    subst hP hw hK
    obtain ⟨⟨old, he⟩, hit, hne⟩ := st
    have he1 : e < s.heap.objs.size := Heap.lt_size he
    have hi1 : it < s.heap.objs.size := by obtain ⟨_, q, _⟩ := hit; exact Heap.lt_size q
    have D : Draws X.prog X.w X.A.in1 it [it] x.cps.size (fun i v => ∃ c u, x.cps[i]? = some c ∧ v = .str ⟨#[c]⟩ u) (fun i h => h.IsStrIter it ty x t i) := by
      rcases hty with z | z
      · rw [z]; exact Draws.strAscii (A := X.A.in1) (show X.A.in1.handled = none from I.ok.hd hc) it x t
      · rw [z]; exact Draws.strWide (A := X.A.in1) (show X.A.in1.handled = none from I.ok.hd hc) it x t
    refine wpAny_pyNext_enum_itemD D he hit hg hne (by simpa using hne) fun xv h' tk hx ho hit' hT hsz hk => ?_
    obtain ⟨c, u, hcx, rfl⟩ := hx
    refine ⟨_, rfl, wpAny_letOwnedTupleGo_enum (s := { s with heap := h', toks := tk + 1 }) ho fun h2 he' sb => ?_⟩
    have hT2 : h2.get? s.heap.objs.size = some { cls := .type "tuple", data := .seq #[.int i tk, .str ⟨#[c]⟩ u] } := (sb.2 _ (Nat.ne_of_gt he1)).trans hT
    have new : ObjOk X.prog X.w (upd H s.heap.objs.size (.tup [.int (i : Nat), .str ⟨#[c]⟩])) h2 s.heap.objs.size (.tup [.int (i : Nat), .str ⟨#[c]⟩]) :=
      ⟨by show 2 ≤ sizeLine; decide, [.int i tk, .str ⟨#[c]⟩ u], .cons ⟨_, rfl⟩ (.cons ⟨_, rfl⟩ .nil), ⟨_, hT2, rfl, _, rfl⟩⟩
    have I1 : Inv X pins σ (upd H s.heap.objs.size (.tup [.int (i : Nat), .str ⟨#[c]⟩])) { s with heap := h2, toks := tk + 1 } :=
      I.turnedNew (ch := [e, it]) (fun b ob hb q => (sb.2 b (fun z => hb (by simp [z]))).trans (hk b ob (fun z => hb (by simp [z])) (fun z => hb (by simp [z])) q)) hf (Nat.le_refl _) new
    have hit2 : h2.IsStrIter it ty x t (i + 1) := by
      obtain ⟨o, ho, r⟩ := hit'
      exact ⟨o, (sb.2 it (Ne.symm hne)).trans ho, r⟩
    refine ⟨.ref s.heap.objs.size, _, I1, rfl, ⟨_, c, rfl, I.hok.fresh (Nat.le_refl _), rfl, hcx⟩, ⟨⟨.str ⟨#[c]⟩ u, ?_⟩, hit2, hne⟩, fun b hb => ?_⟩
    · rw [show ((i + 1 : Nat) : Int) = (i : Int) + 1 by omega]
      exact he'
    · have hb' : b < s.heap.objs.size := by
        rcases (show b = e ∨ b = it by simpa using hb) with z | z
        · rw [z]; exact he1
        · rw [z]; exact hi1
      rw [upd_ne (Nat.ne_of_lt hb')]
      exact (hf b hb).1
  done := by
    intro X hP hw hK hc i pins s σ H E I hf st hg
    subst hP hw hK
    obtain ⟨⟨old, he⟩, hit, hne⟩ := st
    obtain ⟨f0, f1, f2, f3, f4, f5⟩ := hf it (by simp)
    have D : Draws X.prog X.w X.A.in1 it [it] i (fun i v => True) (fun j h => h.IsStrIter it ty x t j ∧ j = i ∨ False) := {
      live := fun _ _ st => by
        obtain ⟨⟨o, ho, _⟩, _⟩ | z := st
        · exact ⟨o, ho⟩
        · exact z.elim
      frame := fun _ _ _ st hk => by
        obtain ⟨⟨o, ho, r⟩, q⟩ | z := st
        · exact .inl ⟨⟨o, hk it (by simp) o ho, r⟩, q⟩
        · exact z.elim
      item := fun j s Q E hj st hQ => by
        obtain ⟨_, q⟩ | z := st
        · exact absurd q (Nat.ne_of_lt hj)
        · exact z.elim
      done := fun s Q E st hE => by
        obtain ⟨st, _⟩ | z := st
        · have hx : x.cps[i]? = none := Array.getElem?_eq_none hg
          rcases hty with z | z
          · rw [z] at st; exact wpAny_nextOf_ascii_end (A := X.A.in1) (I.ok.hd hc) st hx hE
          · rw [z] at st; exact wpAny_nextOf_wide_end (A := X.A.in1) (I.ok.hd hc) st hx hE
        · exact z.elim }
    exact wpAny_pyNext_enum_endD D he (.inl ⟨hit, rfl⟩) fun h' eb => ⟨rfl, I.turned (t' := s.toks) (fun b o hb q => eb b o hb q) f0 f1 f3 f4 f5⟩
  self := fun A i s Q E st h => by
    obtain ⟨⟨_, he⟩, _⟩ := st
    exact wpAny_pyIter_enum he h
def iEnumS (ta : TA) : TI := fun σ H R => ta σ H fun vs H1 => ∃ x, vs = [.str x] ∧ R (Ites x) H1
theorem pi_enumS {X : Cx} {e : Expr} {ta : TA} {p pos tpos : Pos} {elts : List Expr} {kk : Nat} (hg : Gl X "enumerate") (hm : X.mg "enumerate" = none) (ha : PA X [e] ta) (hs : starEach [e] X.env = [(false, eval e X.env)] := by rfl) :
    PI X (.Tuple elts kk tpos) (.Call (.Name "enumerate" p) [e] [] pos) (iEnumS ta) := by
  refine ⟨fun pins s σ H R I h => ?_⟩
  refine Call_ (ld_blt I hg hm boot_enumerate (PyProof.Rows.callWith_type1 (thn (ha.run pos pins s σ H _ I h) fun us s1 ⟨vs, H1, I1, r1, x, ex, q⟩ => ?_) hs rfl))
  subst ex
  cases r1 with
  | cons r rr =>
    cases rr
    obtain ⟨t, rfl⟩ := (show ∃ t, _ = Value.str x t from r)
    refine call_enumerate_str fun h' he hit hsz hk => wpAny_pyIter_enum he ?_
    have I2 : Inv X pins σ H1 { s1 with heap := h' } := I1.kept (t' := s1.toks) hk
    have hty : strIterType x = "str_ascii_iterator" ∨ strIterType x = "str_iterator" := by unfold strIterType; split <;> first | exact .inl rfl | exact .inr rfl
    refine ⟨s1.heap.objs.size + 1, [s1.heap.objs.size + 1, s1.heap.objs.size], _, _, H1, rfl, I2, turn_enumS (s1.heap.objs.size + 1) s1.heap.objs.size x t _ hty, ⟨⟨.none, he⟩, hit, Nat.succ_ne_self _⟩, fun b hb => ?_, q⟩
    have hle : s1.heap.objs.size ≤ b := by
      rcases (show b = s1.heap.objs.size + 1 ∨ b = s1.heap.objs.size by simpa using hb) with z | z
      · rw [z]; exact Nat.le_add_right _ _
      · rw [z]; exact Nat.le_refl _
    exact I1.fpOk hle (I1.hok.fresh hle)
section
variable {X : Cx} {ρ : Rho} {μ μ1 μ2 μ3 : Mu} {x y z : AV} {e a b c o : Expr} {es : List Expr} {pos apos p p1 p2 p3 c0 tpos : Pos} {k j kk : Nat} {K : PySem.W.Frag} {elts : List Expr}
/-- the pairs of a list, numbered -/
def enD (ds : List Dt) : List Dt := (List.range ds.length).map fun i => .tup [.int (i : Nat), ds.getD i .non]
theorem src_enumS {l : List Nat} (hm : X.mg "enumerate" = none) (h : AA X [a] ρ μ (.ok [.d (.str l)] μ1)) (hg : Gl X "enumerate" := by rfl) (hse : starEach [a] X.env = [(false, eval a X.env)] := by rfl) : Src X (.Tuple elts kk tpos) (.Call (.Name "enumerate" p) [a] [] pos) ρ μ (enD (l.map fun c => .str [c])) μ1 :=
  ⟨_, pi_enumS hg hm pa_rd hse, fun F H σ hs hh Rr W tk q => h.go hs hh tk fun F1 H1 vs e1 h1 a1 => by
  obtain ⟨v, e2, av⟩ := avs1 a1
  have hsz : (S l).cps.size = l.length := S_len l
  refine ⟨S l, by rw [e2]; exact congrArg (fun z => [z]) av, q _ F1 H1 (fun _ _ => True) e1 h1 (fun _ _ _ _ _ _ => True.intro) ⟨fun i _ H' s _ z => ?_, fun i _ H' s _ z => ?_, fun i F' H2 μ' x H' d s g _ hd y => ?_⟩⟩
  · show (S l).cps.size ≤ i
    rw [hsz]; simpa [enD] using z
  · show i < (S l).cps.size
    rw [hsz]; simpa [enD] using z
  · obtain ⟨T, c, ex, hT, eh, hc⟩ := y
    subst ex eh
    have hi : i < l.length := by rw [← hsz]; exact (Array.getElem?_eq_some_iff.mp hc).1
    have hc' : l[i]? = some c := by simpa [S] using hc
    have ed : d = .tup [.int (i : Nat), .str [c]] := by
      unfold enD at hd
      rw [List.getElem?_map, List.getElem?_range (by simpa using hi)] at hd
      have z : (l.map fun c => Dt.str [c]).getD i .non = .str [c] := by simp [hc']
      rw [← z]
      exact (Option.some.inj hd).symm
    have f0 := g.fnone hT
    subst ed
    exact ⟨_, same_new f0, g.new hT, T, _, rfl, SqT.of upd_same, _, _, rfl, rfl, _, _, rfl, rfl, rfl⟩⟩
/-! ### dicts of texts -/
theorem rps_pairs {F : Hp} : ∀ {ps : List (List Nat × Dt)} {vs : List V}, Rps K F (ps.map fun q => .tup [.str q.1, q.2]) vs → ∃ (as : List Addr) (kvs : List (Key × V)), vs = as.map V.ref ∧ Paired (fun p kv => SqT K F p [kV kv.1, kv.2]) as kvs ∧ kvs.map (·.1) = ps.map (fun q => (Sum.inr (S q.1) : Key)) ∧ Rps K F (ps.map (·.2)) (kvs.map (·.2))
  | [], _, h => ⟨[], [], h, .nil, rfl, rfl⟩
  | q :: ps, _, h => by
    obtain ⟨v, r, e, h1, h2⟩ := h
    obtain ⟨as, kvs, e1, e2, e3, e4⟩ := rps_pairs h2
    obtain ⟨t, xs, et, ht, hr⟩ := h1
    obtain ⟨v1, r1, q1, q2, q3⟩ := hr
    obtain ⟨v2, r2, q4, q5, q6⟩ := q3
    refine ⟨t :: as, (.inr (S q.1), v2) :: kvs, by rw [e, e1, et]; rfl, .cons ?_ e2, by simp [e3], ⟨v2, _, rfl, q5, e4⟩⟩
    have z : xs = [kV (.inr (S q.1)), v2] := by
      rw [q1, show v1 = V.str (S q.1) from q2, q4, show r2 = [] from q6]
      rfl
    rw [← z]
    exact ht
theorem merge_nodup : ∀ {more kvs : List (Key × V)}, ((kvs ++ more).map (·.1)).Nodup → mergeK kvs more = kvs ++ more
  | [], kvs, _ => by rw [List.append_nil]; rfl
  | q :: more, kvs, h => by
    have e : putK kvs q.1 q.2 = kvs ++ [q] := by
      unfold putK
      rw [if_neg]
      intro z
      obtain ⟨u, hu, hq⟩ := List.any_eq_true.mp z
      rw [List.map_append, List.nodup_append] at h
      exact h.2.2 u.1 (List.mem_map_of_mem hu) q.1 (by simp) (of_decide_eq_true hq)
    show mergeK (putK kvs q.1 q.2) more = _
    rw [e, merge_nodup (by rw [List.append_assoc]; exact h), List.append_assoc]
    rfl
/-- dict(pairs), the keys texts, all unlike -/
theorem bc_dictP {ps : List (List Nat × Dt)} (hn : (ps.map fun q => q.1).Nodup) : BC K (fun xs H Q => ∃ (a : Addr) (ps : List Addr) (kvs : List (Key × V)), xs = [.ref a] ∧ SqL K H a (ps.map V.ref) ∧ Paired (fun p kv => SqT K H p [kV kv.1, kv.2]) ps kvs ∧
    ∀ p, H p = none → Q (.ref p) (upd H p (.dK (mergeK [] kvs)))) [.d (.lst (ps.map fun q => .tup [.str q.1, q.2]))] μ (.d (.dict (ps.map fun q => (Sum.inr (S q.1) : Key)) (ps.map (·.2)))) μ := by
  intro F H vs Q hh a q
  obtain ⟨v, e, a1⟩ := avs1 a
  obtain ⟨p, us, e1, h1, r1⟩ := a1
  obtain ⟨as, kvs, f1, f2, f3, f4⟩ := rps_pairs (Rps.mono hh.ex r1)
  have r1' := rps_pairs r1
  obtain ⟨as', kvs', g1, g2, g3, g4⟩ := r1'
  have nd : ((([] : List (Key × V)) ++ kvs').map (·.1)).Nodup := by
    rw [List.nil_append, g3]
    have inj : ∀ x y : List Nat, (Sum.inr (S x) : Key) = Sum.inr (S y) → x = y := fun x y z => by
      have z3 := congrArg (fun s : Str => s.cps.toList) (Sum.inr.inj z)
      simpa using z3
    have this : ((ps.map fun q => q.1).map fun l => (Sum.inr (S l) : Key)).Nodup := List.Pairwise.map _ (fun x y ne z => ne (inj x y z)) hn
    rwa [List.map_map] at this
  refine ⟨p, as', kvs', by rw [e, e1], SqL.of (by rw [← g1]; exact hh.ex _ _ h1), L2.Paired.mapP g2 (fun _ _ z => sqt_mono hh.ex z), fun l hl => ?_⟩
  have f0 := hh.fnone hl
  rw [merge_nodup nd, List.nil_append]
  exact q _ _ _ (same_new f0) (hh.new hl) ⟨l, kvs', rfl, upd_same, g3, Rps.mono (same_new f0) g4⟩
/-- d[key] -/
theorem ae_dget {j0 : Nat} {ks : List Key} {vs : List Dt} {l : List Nat} {d : Dt} (g : Gd X j0) (ha : AE X a ρ μ (.ok (.d (.dict ks vs)) μ1)) (hb : AE X b ρ μ1 (.ok (.d (.str l)) μ2)) (n : Nat) (hn : ks.Nodup) (hk : ks[n]? = some (.inr (S l))) (hv : vs[n]? = some d) (hs : NoSl b := by intro _ _; rfl) : AE X (.Subscript a b pos) ρ μ (.ok (.d d) μ2) :=
  AE.of (pe_dget (by have := g.hr.un; omega) pe_rd pe_rd hs) fun F H σ hs' hh Q W tk q => ha.go hs' hh tk fun F1 H1 v e1 h1 a1 => hb.go (hs'.mono e1) h1 tk fun F2 H2 u e2 h2 a2 => by
    obtain ⟨p, ys, ev, hp, hks, hr⟩ := a1
    obtain ⟨w, hw, rw'⟩ := hr.get' hv
    rw [List.getElem?_map] at hw
    cases hy : ys[n]? with
    | none => rw [hy] at hw; cases hw
    | some y =>
      rw [hy] at hw
      have ey : y.2 = w := Option.some.inj hw
      have ek : y.1 = .inr (S l) := by
        rw [← hks, List.getElem?_map, hy] at hk
        exact Option.some.inj hk
      have fnd : ∀ (zs : List (Key × V)) (m : Nat), (zs.map (·.1)).Nodup → zs[m]? = some y → valV zs (.inr (S l)) = some w := by
        intro zs
        induction zs with
        | nil => intro m _ hm; simp at hm
        | cons z zs ih =>
          intro m hnd hm
          cases m with
          | zero =>
            have ez : z = y := by simpa using hm
            rw [valV_pos (by rw [ez]; exact ek), ez, ey]
          | succ m =>
            have hm' : zs[m]? = some y := by simpa using hm
            have hnd' := List.nodup_cons.mp (show (z.1 :: zs.map (·.1)).Nodup from hnd)
            have ne : z.1 ≠ .inr (S l) := fun q => hnd'.1 (by rw [q, ← ek]; exact List.mem_map_of_mem (List.mem_of_getElem? hm'))
            have := ih m hnd'.2 hm'
            unfold valV at this ⊢
            rw [List.find?_cons, decide_eq_false ne]
            exact this
      refine ⟨p, w, ev, .inl ⟨ys, .inr (S l), .inl (h2.ex _ _ (e2 _ _ hp)), a2, (fnd ys n (by rw [hks]; exact hn) hy).symm⟩, q F2 H2 w (e1.trans e2) h2 (Rp.mono e2 rw')⟩
/-- max(a list of numbers) -/
def maxD : List Int → Int
  | [] => 0
  | [i] => i
  | i :: r => if maxD r ≤ i then i else maxD r
theorem maxD_le : ∀ {l : List Int} {m : Int}, m ∈ l → (∀ y ∈ l, y ≤ m) → m = maxD l
  | [i], m, h, _ => by simpa [maxD] using h
  | i :: j :: r, m, h, hb => by
    have e : maxD (i :: j :: r) = if maxD (j :: r) ≤ i then i else maxD (j :: r) := rfl
    have mem : maxD (j :: r) ∈ j :: r := maxD_mem _ (by simp)
    have hbi := hb i (by simp)
    have hbm := hb _ (List.mem_cons_of_mem _ mem)
    rw [e]
    rcases List.mem_cons.mp h with rfl | h2
    · rw [if_pos hbm]
    · have := maxD_le h2 (fun y hy => hb y (List.mem_cons_of_mem _ hy))
      split
      · omega
      · exact this
where
  maxD_mem : ∀ (l : List Int), l ≠ [] → maxD l ∈ l
    | [i], _ => by simp [maxD]
    | i :: j :: r, _ => by
      have e : maxD (i :: j :: r) = if maxD (j :: r) ≤ i then i else maxD (j :: r) := rfl
      rw [e]
      split
      · simp
      · exact List.mem_cons_of_mem _ (maxD_mem _ (by simp))
theorem bc_maxL {ns : List Int} (hn : ns ≠ []) : BC K (rMax K) [.d (.lst (ns.map Dt.int))] μ (.d (.int (maxD ns))) μ :=
  bc_val fun F H vs hh a => by
    obtain ⟨v, e, a1⟩ := avs1 a
    obtain ⟨p, us, e1, h1, r1⟩ := a1
    have := r1.ints
    subst this
    exact ⟨_, rfl, fun Q q => ⟨p, ns, by rw [e, e1], SqL.of (hh.ex _ _ h1), List.length_pos_iff.mpr hn, fun m hm hb => by rw [maxD_le hm hb]; exact q⟩⟩
/-- a list so many times -/
theorem br_repL {ds : List Dt} {n : Nat} (h : ds.length * n ≤ 10000000) (hn : n < 2 ^ 60) : BR K L2.rRep (.d (.lst ds)) (.d (.int (n : Int))) μ (.d (.lst (repD n ds))) μ := by
  intro F H u v Q hh a1 a2 q
  obtain ⟨a, us, e1, h1, r1⟩ := a1
  refine ⟨a, n, us, e1, a2, hh.ex _ _ h1, by omega, by omega, by rw [r1.length, Int.toNat_natCast]; exact sz h, fun p hp => ?_⟩
  have f0 := hh.fnone hp
  refine q _ _ _ (same_new f0) (hh.new hp) ⟨p, _, rfl, upd_same, Rps.mono (same_new f0) ?_⟩
  rw [Int.toNat_natCast]
  unfold repD
  clear h hn a2 q
  induction n with
  | zero => exact rfl
  | succ n ih =>
    rw [List.replicate_succ, List.replicate_succ, List.flatten_cons, List.flatten_cons]
    exact r1.append ih
end
end L2.DL
set_option maxHeartbeats 4000000
namespace L2.DL
open PySem PySem.Spec PyProof.Rows
/-- a list of data: frozen, or one's own -/
inductive LstV (μ : Mu) : AV → List Dt → Prop
  | d (ds : List Dt) : LstV μ (.d (.lst ds)) ds
  | l {p : Addr} {ds : List Dt} (h : μ p = some (.lst (ds.map AV.d))) : LstV μ (.l p) ds
theorem LstV.rd {K : PySem.W.Frag} {F H : Hp} {μ : Mu} {x : AV} {ds : List Dt} {v : V} (h : LstV μ x ds) (hh : Holds K F μ H) (a : Av K F x v) : ∃ p us, v = .ref p ∧ H p = some (.lst us) ∧ Rps K F ds us := by
  cases h with
  | d =>
    obtain ⟨p, us, e, h1, r⟩ := a
    exact ⟨p, us, e, hh.ex _ _ h1, r⟩
  | l m =>
    obtain ⟨f0, us, hv, av⟩ := hh.mu _ _ m
    exact ⟨_, us, a, hv, av.rps⟩
section
variable {X : Cx} {ρ : Rho} {μ μ1 μ2 μ3 : Mu} {x y z : AV} {e a b c o tg : Expr} {es : List Expr} {pos apos p p1 p2 p3 c0 : Pos} {k j : Nat} {K : PySem.W.Frag} {ds ds2 : List Dt}
/-- one's own list handed about without a look within -/
theorem ae_opq {q : Addr} (h : AE X e ρ μ (.ok (.l q) μ1)) : AE X e ρ μ (.ok (.d (.opq (.ref q))) μ1) := fun F H σ hs hh Q W tk qq => h F H σ hs hh Q W tk fun F' H' v s h' a => qq F' H' v s h' a
theorem bc_lenV (h : LstV μ x ds) : BC K (fun xs H Q => ∃ x n, xs = [x] ∧ LenV K x H n ∧ Q (.int (n : Nat)) H) [x] μ (.d (.int (ds.length : Nat))) μ :=
  bc_val fun F H vs hh a => by
    obtain ⟨v, e, a1⟩ := avs1 a
    obtain ⟨p, us, e1, h1, r1⟩ := h.rd hh a1
    subst e
    rw [e1]
    exact ⟨.int (ds.length : Nat), rfl, fun Q q => ⟨_, ds.length, rfl, .inl ⟨us, SqL.of h1, r1.length.symm⟩, q⟩⟩
theorem sc_lstV {lo hi : Option Int} (h : LstV μ x ds) : SC K (rSlL K) x lo hi μ (.d (.lst (cutD ds lo hi))) μ := by
  intro F H u Q hh a q
  obtain ⟨p, us, e1, h1, r1⟩ := h.rd hh a
  refine ⟨p, us, e1, SqL.of h1, fun l hl => ?_⟩
  have f0 := hh.fnone hl
  exact q _ _ _ (same_new f0) (hh.new hl) ⟨l, _, rfl, upd_same, Rps.mono (same_new f0) (cut_rps r1 lo hi)⟩
theorem br_ixV {i : Int} {d : Dt} (h : LstV μ x ds) (hi : atI ds i = some d) : BR K (rIxL K) x (.d (.int i)) μ (.d d) μ :=
  br_val fun F H u v hh a1 a2 => by
    obtain ⟨p, us, e1, h1, r1⟩ := h.rd hh a1
    obtain ⟨w, hw, rw'⟩ := atI_rps r1 hi
    exact ⟨w, rw', fun Q q => ⟨p, us, i, w, e1, a2, SqL.of h1, hw, q⟩⟩
theorem br_catV (h : LstV μ x ds) (h2 : LstV μ y ds2) (hl : ds.length + ds2.length ≤ 10000000) : BR K rCat x y μ (.d (.lst (ds ++ ds2))) μ := by
  intro F H u v Q hh a1 a2 q
  obtain ⟨p, us, e1, g1, r1⟩ := h.rd hh a1
  obtain ⟨r, ws, e2, g2, r2⟩ := h2.rd hh a2
  refine ⟨p, r, us, ws, e1, e2, g1, g2, by rw [r1.length, r2.length]; exact sz hl, fun l hp => ?_⟩
  have f0 := hh.fnone hp
  exact q _ _ _ (same_new f0) (hh.new hp) ⟨l, us ++ ws, rfl, upd_same, Rps.mono (same_new f0) (r1.append r2)⟩
theorem dpV {F H : Hp} {v : V} (h : LstV μ x ds) (hh : Holds K F μ H) (a : Av K F x v) (hp : okD (.lst ds) = true) : Dp K H v (py (.lst ds)) := by
  obtain ⟨p, us, e1, h1, r1⟩ := h.rd hh a
  rw [e1]
  exact .lst (SqL.of h1) ((Rps.mono hh.ex r1).dp (okD.plain hp))
theorem br_eqV (h : LstV μ x ds) (h2 : LstV μ y ds2) (hx : okD (.lst ds) = true) (hy : okD (.lst ds2) = true) : BR K (rEqD K) x y μ (.d (.bl (eqD (.lst ds) (.lst ds2)))) μ :=
  br_val fun F H u v hh a1 a2 => ⟨.bl (eqD (.lst ds) (.lst ds2)), rfl, fun Q q => ⟨py (.lst ds), py (.lst ds2), dpV h hh a1 hx, dpV h2 hh a2 hy, okD.shaped hx, okD.shaped hy, q⟩⟩
theorem br_neV (h : LstV μ x ds) (h2 : LstV μ y ds2) (hx : okD (.lst ds) = true) (hy : okD (.lst ds2) = true) : BR K (rNeD K) x y μ (.d (.bl (!eqD (.lst ds) (.lst ds2)))) μ :=
  br_val fun F H u v hh a1 a2 => ⟨.bl (!eqD (.lst ds) (.lst ds2)), rfl, fun Q q => ⟨py (.lst ds), py (.lst ds2), dpV h hh a1 hx, dpV h2 hh a2 hy, okD.shaped hx, okD.shaped hy, q⟩⟩
/-- what was handed about is looked at again -/
theorem br_neOpq {q : Addr} (m : μ q = some (.lst (ds.map AV.d))) (h2 : LstV μ y ds2) (hx : okD (.lst ds) = true) (hy : okD (.lst ds2) = true) : BR K (rNeD K) (.d (.opq (.ref q))) y μ (.d (.bl (!eqD (.lst ds) (.lst ds2)))) μ :=
  br_val fun F H u v hh a1 a2 => ⟨.bl (!eqD (.lst ds) (.lst ds2)), rfl, fun Q q => ⟨py (.lst ds), py (.lst ds2), dpV (LstV.l m) hh a1 hx, dpV h2 hh a2 hy, okD.shaped hx, okD.shaped hy, q⟩⟩
theorem mc_joinV {l : List Nat} {ls : List (List Nat)} (hv : LstV μ x (ls.map Dt.str)) (h : (ls.map List.length).sum + ls.length * l.length ≤ 16777216) : MC K (fun x xs H Q => ∃ a p, ∃ ys : List Str, x = .str a ∧ xs = [.ref p] ∧ (SqL K H p (ys.map V.str) ∨ SqT K H p (ys.map V.str)) ∧
    (ys.map (·.length)).sum + ys.length * a.length ≤ 16777216 ∧ Q (.str (Txt.join a ys)) H) (.d (.str l)) [x] μ (.d (.str (joinD l ls))) μ := by
  intro F H u vs Q hh a1 a2 q
  obtain ⟨v, e, a3⟩ := avs1 a2
  obtain ⟨p, us, ev, h1, r1⟩ := hv.rd hh a3
  have eu := rps_strs r1
  subst eu
  refine ⟨S l, p, ls.map S, a1, by rw [e, ev], .inl (SqL.of h1), ?_, q F H _ (Same.refl _) hh (congrArg V.str (S_of _).symm)⟩
  rw [List.map_map, List.length_map, S_len, show ((fun x : Str => x.length) ∘ S) = List.length from funext fun z => S_len z]
  exact h
theorem list_newV (h : LstV μ x ds) (F H : Hp) (vs : List V) (Q : VK) (hh : Holds K F μ H) (a : Avs K F [x] vs) (q : ∀ p us, H p = none → Avs K F (ds.map AV.d) us → Q (.ref p) (upd H p (.lst us))) : (fun xs H Q => ∃ p ys, xs = [V.ref p] ∧ (SqL K H p ys ∨ SqT K H p ys) ∧ ∀ l, H l = none → Q (V.ref l) (upd H l (.lst ys)) : List V → Hp → VK → Prop) vs H Q := by
  obtain ⟨v, e, a1⟩ := avs1 a
  obtain ⟨p, us, e1, h1, r1⟩ := h.rd hh a1
  exact ⟨p, us, by rw [e, e1], .inl (SqL.of h1), fun l hl => q l us hl (Avs.of_rps r1)⟩
theorem bc_isV {T : String} {b : Bool} (h : LstV μ x ds) (e : kitB "list" T = some b) : BC K (rIsi K) [x, .d (.opq (.ty T))] μ (.d (.bl b)) μ :=
  bc_val fun F H vs hh a => by
    obtain ⟨v, u, e0, a1, a2⟩ := avs2 a
    obtain ⟨p, us, e1, h1, r1⟩ := h.rd hh a1
    have e2 : u = V.ty T := a2
    exact ⟨.bl b, rfl, fun Q q => ⟨v, .ty T, _, _, b, by rw [e0, e2], .ty T, by rw [e1]; exact .base (.lst h1), kit_ty e, q⟩⟩
/-- walking such a list: what changes within must leave it as it is -/
theorem src_lstV (h : AE X e ρ μ (.ok x μ1)) (hv : LstV μ1 x ds) : Src X tg e ρ μ ds μ1 (fun ν => LstV ν x ds) := ⟨_, pi_list pe_rd, fun F H σ hs hh Rr W tk q => h.go hs hh tk fun F1 H1 v e1 h1 a1 => by
  obtain ⟨p, us, ep, hp, rp⟩ := hv.rd h1 a1
  have same : ∀ {F' H' : Hp} {ν : Mu}, Same F1 F' → Holds X.K F' ν H' → LstV ν x ds → ∃ us', H' p = some (.lst us') ∧ Rps X.K F' ds us' := fun {F' H' ν} s g k => by
    obtain ⟨p', us', ep', hp', rp'⟩ := k.rd g (a1.mono s)
    rw [ep] at ep'
    cases ep'
    exact ⟨us', hp', rp'⟩
  refine ⟨p, ep, ⟨us, SqL.of hp⟩, q _ F1 H1 (fun F' H' => ∃ us', H' p = some (.lst us') ∧ Rps X.K F' ds us') e1 h1 (fun F' H' ν s g k => same s g k) ⟨fun i F' H' s ⟨us', g1, g2⟩ l => ⟨us', SqL.of g1, by rw [g2.length]; exact l⟩, fun i F' H' s ⟨us', g1, g2⟩ l => ?_, fun i F' H2 μ' y H' d s g ⟨us', g1, g2⟩ hd z => ?_⟩⟩
  · have := g2.length
    exact ⟨us', us'[i]'(by omega), SqL.of g1, by simp [this, l]⟩
  · obtain ⟨w, hw, r⟩ := g2.get' hd
    obtain ⟨eh, yy⟩ := z
    subst eh
    have zz := yy us' (SqL.of g1)
    rw [hw] at zz
    cases zz
    exact ⟨F', Same.refl _, g, r⟩⟩
end
end L2.DL
set_option maxHeartbeats 4000000
namespace L2.DL
open PySem PySem.Spec PyProof.Rows L2 He
/-! ### the head's facts of the classes of errors -/
abbrev FnC : Type := Option (Str × Str × Arguments × FuncBody × Scope × Addr × Value × Addr)
def fnC (K : PySem.W.Frag) (p : Str × Option Str) : FnC := match K.lookup (fAd K p) with
  | some ⟨_, _, .func fd, _⟩ => some (fd.name, fd.qualname, fd.params, fd.body, fd.scope, fd.globals, fd.kwdefaults, fd.builtins)
  | _ => none
def cellB (K : PySem.W.Frag) (cc C : Addr) : Bool := match K.lookup cc with
  | some ⟨_, _, .cell (some (.ref D)), _⟩ => decide (D = C)
  | _ => false
def noneB (K : PySem.W.Frag) (dV : Value) : Bool := match dV with
  | .ref T => (match K.lookup T with
    | some ⟨_, _, .seq its _, _⟩ => (match its.toList with
      | [.none] => true
      | _ => false)
    | _ => false)
  | _ => false
def fileB (P : Program) (K : PySem.W.Frag) (cd : Value) : Bool := match cd with
  | .ref c => (match K.lookup c with
    | some ⟨_, _, .fields vs, _⟩ => (match (vs[2]? : Option Value) with
      | some (.str file _) => ((P.main.file : Str) == file)
      | _ => false)
    | _ => false)
  | _ => false
def closB (K : PySem.W.Frag) (C : Addr) (cl : List (Str × Addr)) : Bool := match cl with
  | [(n, cc)] => decide (n = ("__class__" : Str)) && cellB K cc C
  | _ => false
def initB (P : Program) (K : PySem.W.Frag) (C : Addr) (p : Str × Option Str) (q : Str) : Bool := match K.lookup (fAd K p) with
  | some ⟨_, _, .func fd, _⟩ => PySem.W.codeIn K fd.code q && (closB K C fd.closure && (noneB K fd.defaults && fileB P K fd.code))
  | _ => false
def clsB (K : PySem.W.Frag) (C : Addr) : Bool := match K.lookup C with
  | some ⟨.type "type", _, .cls cd, sl⟩ => (match cd.mro, sl.toList with
    | .ref C' :: bm, [_, _, _, _, some (.builtin n), _] => decide (C' = C) && (decide (n = "ValueError.__new__") && (!cd.hasDel && (cd.hasDict && PySem.HandSPX.refsVE bm)))
    | _, _ => false)
  | _ => false
/-- the class x, with its __init__ -/
def txtB (P : Program) (K : PySem.W.Frag) (x q : Str) : Bool :=
  clsB K (ga K x) && eqO (PySem.W.findIn K (.ref (ga K x)) "__setattr__") (some (some (.builtin "object.__setattr__"))) && eqO (PySem.W.findIn K (.ref (ga K x)) "__getattribute__") (some (some (.builtin "BaseException.__getattribute__"))) &&
  eqO (PySem.W.findIn K (.ref (ga K x)) "__getattr__") (some none) && eqO (PySem.W.findIn K (.ref (ga K x)) "value") (some none) && eqO (PySem.W.findIn K (.ref (ga K x)) "__init__") (some (some (.ref (ma K (ga K x) "__init__")))) &&
  decide (PySem.W.typeIn K (.ref (ma K (ga K x) "__init__")) = some (.type "function")) && PySem.W.keepIn K (.ref (ga K x)) && decide (PySem.W.subIn K (.ref (ga K x)) (.type "BaseException") = some true) && decide (PySem.W.typeIn K (.ref (ga K x)) = some (.type "type")) &&
  PySem.W.hasDictIn K (ga K x) && decide (PySem.W.subIn K (.ref (ga K x)) (.type "ValueError") = some true) && decide (PySem.W.mroIn K (ga K x) (.ref (ga K x)) = some true) && eqO (PySem.W.ks_superIn K (ga K x) (ga K x) "__init__") (some (some (.builtin "ValueError.__init__"))) &&
  eqO (PySem.W.nsIn K mainGlobals "super") (some none) && eqO (PySem.W.nsIn K cStatics "thirdparty.any") (some none) && !(P.main.scope.names.lookup ("super" : Str)).isSome && initB P K (ga K x) (x, some "__init__") q
theorem clsB_ok {K : PySem.W.Frag} {C : Addr} (h : clsB K C = true) : ∃ nm q N bs bm sn sub ab col dd k0 k1 k2 k3 k5, K.lookup C = some (excClassObj nm q C N bs bm true sn sub ab col dd k0 k1 k2 k3 k5 "ValueError.__new__") ∧ PySem.HandSPX.refsVE bm = true := by
  unfold clsB at h
  split at h
  · rename_i dd cd sl ho
    split at h
    · rename_i C' bm k0 k1 k2 k3 n k5 hm hs
      obtain ⟨h1, h⟩ := ba h
      obtain ⟨h2, h⟩ := ba h
      obtain ⟨h3, h⟩ := ba h
      obtain ⟨h4, h5⟩ := ba h
      have e1 := of_decide_eq_true h1
      have e2 := of_decide_eq_true h2
      subst e1 e2
      obtain ⟨nm, bs, mro, ns, qn, hd, sn, sub, ab, col, del⟩ := cd
      dsimp only at hm h3 h4
      subst hm h4
      have h3 : del = false := by simpa using h3
      subst h3
      have hsl : sl = #[k0, k1, k2, k3, some (.builtin "ValueError.__new__"), k5] := by
        rw [← hs, Array.toArray_toList]
      subst hsl
      exact ⟨nm, qn, ns, bs, bm, sn, sub, ab, col, dd, k0, k1, k2, k3, k5, ho, h5⟩
    · cases h
  · cases h
theorem noneB_ok {K : PySem.W.Frag} {dV : Value} (h : noneB K dV = true) : ∃ (T : Addr) (o : Obj) (n : Nat), dV = .ref T ∧ K.lookup T = some o ∧ o.data = .seq #[.none] n := by
  unfold noneB at h
  split at h
  · rename_i T
    split at h
    · rename_i its n sl q
      split at h
      · rename_i hl
        have e : its = #[Value.none] := by rw [← Array.toArray_toList (xs := its), hl]
        subst e
        exact ⟨_, _, _, rfl, q, rfl⟩
      · cases h
    · cases h
  · cases h
theorem fileB_ok {P : Program} {K : PySem.W.Frag} {cd : Value} (h : fileB P K cd = true) : ∃ cda, cd = .ref cda ∧ ∃ ccl cdd vs ccs file tf, K.lookup cda = some ⟨ccl, cdd, .fields vs, ccs⟩ ∧ vs[2]? = some (.str file tf) ∧ ((P.main.file : Str) == file) = true := by
  unfold fileB at h
  split at h
  · rename_i c
    split at h
    · rename_i a b vs d q
      split at h
      · rename_i file tf e
        exact ⟨_, rfl, _, _, _, _, _, _, q, e, h⟩
      · cases h
    · cases h
  · cases h
theorem cellB_ok {K : PySem.W.Frag} {cc C : Addr} (h : cellB K cc C = true) : ∃ cl cld csl, K.lookup cc = some ⟨cl, cld, .cell (some (.ref C)), csl⟩ := by
  unfold cellB at h
  split at h
  · rename_i a b D d q
    have e := of_decide_eq_true h
    subst e
    exact ⟨_, _, _, q⟩
  · cases h
theorem closB_ok {K : PySem.W.Frag} {C : Addr} {cl : List (Str × Addr)} (h : closB K C cl = true) : ∃ cc, cl = [(("__class__" : Str), cc)] ∧ cellB K cc C = true := by
  unfold closB at h
  split at h
  · rename_i n cc
    obtain ⟨h1, h2⟩ := ba h
    have e := of_decide_eq_true h1
    subst e
    exact ⟨cc, rfl, h2⟩
  · cases h
/-- an __init__ of the kind, by its statement -/
structure InitSt (st : Stmt) : Prop where
  ok : ∃ (p1 p2 q1 q2 q3 q4 q5 q6 q7 q8 q9 q10 : Pos) (dv : Expr), defArgs st = PySem.FEx.inA p1 p2 dv ∧ defBody st = PySem.FEx.inB q1 q2 q3 q4 q5 q6 q7 q8 q9 q10 ∧ defScope st = PySem.FEx.inS ∧ (q3.endLine == q5.line) = true
def fnCv (q : Str) (st : Stmt) : FnC := some (("__init__" : Str), q, defArgs st, .stmts (defBody st), defScope st, mainGlobals, .none, builtinsNs)
theorem txt_ok {P : Program} {K : PySem.W.Frag} {x q : Str} {st : Stmt} (h : txtB P K x q = true) (e : fnC K (x, some "__init__") = fnCv q st) (I : InitSt st) : PySem.FEx.Txt P K (ga K x) (ma K (ga K x) "__init__") := by
  unfold txtB at h
  obtain ⟨h, z18⟩ := ba h
  obtain ⟨h, z17⟩ := ba h
  obtain ⟨h, z16⟩ := ba h
  obtain ⟨h, z15⟩ := ba h
  obtain ⟨h, z14⟩ := ba h
  obtain ⟨h, z13⟩ := ba h
  obtain ⟨h, z12⟩ := ba h
  obtain ⟨h, z11⟩ := ba h
  obtain ⟨h, z10⟩ := ba h
  obtain ⟨h, z9⟩ := ba h
  obtain ⟨h, z8⟩ := ba h
  obtain ⟨h, z7⟩ := ba h
  obtain ⟨h, z6⟩ := ba h
  obtain ⟨h, z5⟩ := ba h
  obtain ⟨h, z4⟩ := ba h
  obtain ⟨h, z3⟩ := ba h
  obtain ⟨z1, z2⟩ := ba h
  refine ⟨clsB_ok z1, eqO_ok z2, eqO_ok z3, eqO_ok z4, eqO_ok z5, eqO_ok z6, of_decide_eq_true z7, z8, of_decide_eq_true z9, of_decide_eq_true z10, z11, of_decide_eq_true z12, of_decide_eq_true z13, eqO_ok z14, eqO_ok z15, eqO_ok z16, by simpa using z17, ?_⟩
  unfold initB at z18
  unfold fnC at e
  show ∃ q oc od dV doc pm an cda ct cc osl p1 p2 q1 q2 q3 q4 q5 q6 q7 q8 q9 q10 dv, K.lookup (fAd K (x, some "__init__")) = _ ∧ _
  cases lk : K.lookup (fAd K (x, some "__init__")) with
  | none => rw [lk] at z18; cases z18
  | some o =>
    obtain ⟨oc, od, dt, osl⟩ := o
    rw [lk] at z18 e
    cases dt with
    | func fd =>
      obtain ⟨n1, n2, n3, n4, n5, n6, n7, n8, n9, n10, n11, n12, n13, n14, n15⟩ := fd
      have e2 : (some (n1, n2, n3, n4, n5, n6, n9, n15) : FnC) = some (("__init__" : Str), q, defArgs st, .stmts (defBody st), defScope st, mainGlobals, .none, builtinsNs) := e
      simp only [Option.some.injEq, Prod.mk.injEq] at e2
      obtain ⟨f1, f2, f3, f4, f5, f6, f7, f8⟩ := e2
      subst f1 f2 f3 f4 f5 f6 f7 f8
      obtain ⟨y1, y⟩ := ba z18
      obtain ⟨y2, y⟩ := ba y
      obtain ⟨y3, y4⟩ := ba y
      obtain ⟨cc, ecl, hcell⟩ := closB_ok y2
      obtain ⟨cda, ecd, hfile⟩ := fileB_ok y4
      obtain ⟨p1, p2, q1, q2, q3, q4, q5, q6, q7, q8, q9, q10, dv, g1, g2, g3, g4⟩ := I.ok
      dsimp only at ecl ecd y1 y3
      subst ecl ecd
      rw [g1, g2, g3]
      exact ⟨_, oc, od, n8, n10, n11, n12, cda, n14, cc, osl, p1, p2, q1, q2, q3, q4, q5, q6, q7, q8, q9, q10, dv, rfl, y1, g4, noneB_ok y3, cellB_ok hcell, hfile⟩
    | _ => cases z18
def clB (K : PySem.W.Frag) (x : Str) : Bool :=
  eqO (PySem.W.findIn K (.ref (ga K x)) "__getattribute__") (some (some (.builtin "BaseException.__getattribute__"))) && eqO (PySem.W.findIn K (.ref (ga K x)) "__getattr__") (some none) && decide (PySem.W.subIn K (.ref (ga K x)) (.type "BaseException") = some true) && PySem.W.hasDictIn K (ga K x) &&
  eqO (PySem.W.findIn K (.ref (ga K x)) "__class__") (some (some (.builtin "object.__class__"))) && eqO (PySem.W.specialIn K (.builtin "object.__class__") "__get__") (some (some (.builtin "getset_descriptor.__get__"))) && decide (PySem.W.takesIn K (.builtin "object.__class__") = some true) && decide (PySem.W.mroIn K (ga K x) (.type "object") = some true)
theorem cl_ok {K : PySem.W.Frag} {x : Str} (h : clB K x = true) : PySem.FEx.Cl K (ga K x) := by
  unfold clB at h
  obtain ⟨h, z8⟩ := ba h
  obtain ⟨h, z7⟩ := ba h
  obtain ⟨h, z6⟩ := ba h
  obtain ⟨h, z5⟩ := ba h
  obtain ⟨h, z4⟩ := ba h
  obtain ⟨h, z3⟩ := ba h
  obtain ⟨z1, z2⟩ := ba h
  exact ⟨eqO_ok z1, eqO_ok z2, of_decide_eq_true z3, z4, eqO_ok z5, eqO_ok z6, of_decide_eq_true z7, of_decide_eq_true z8⟩
/-- isinstance of an error: of the class x, of y -/
def kitXB (K : PySem.W.Frag) (x y : Str) (b : Bool) : Bool := decide (PySem.W.kitOne K (.ref (ga K x)) (.ref (ga K y)) = some b)
theorem kitXB_ok {K : PySem.W.Frag} {x y : Str} {b : Bool} (h : kitXB K x y b = true) : PySem.W.kitOne K (.ref (ga K x)) (.ref (ga K y)) = some b := of_decide_eq_true h
/-! ### the hook -/
/-- a class of errors: its name, its __init__'s qualified name and statement -/
structure ErD where
  name : Str
  qual : Str
  init : Stmt
abbrev AlE : Type := AlD × Bool × List FnC
def obsW (P : Program) (fa : List Fa) (fn : List DefD) (er : List ErD) (ex : PySem.W.Frag → Bool) (K : PySem.W.Frag) : AlE := (obsD fa fn K, ex K && (er.all fun e => txtB P K e.name e.qual && clB K e.name), er.map fun e => fnC K (e.name, some "__init__"))
def valW (fn : List DefD) (er : List ErD) : AlE := (valD fn, true, er.map fun e => fnCv e.qual e.init)
structure SaysW (P : Program) (fa : List Fa) (fn : List DefD) (er : List ErD) (ex : PySem.W.Frag → Bool) (K : PySem.W.Frag) : Prop where
  d : SaysD fa fn K
  more : ex K = true
  er : ∀ e ∈ er, txtB P K e.name e.qual = true ∧ clB K e.name = true ∧ fnC K (e.name, some "__init__") = fnCv e.qual e.init
theorem saysW_of {P : Program} {fa : List Fa} {fn : List DefD} {er : List ErD} {ex : PySem.W.Frag → Bool} {K : PySem.W.Frag} (e : obsW P fa fn er ex K = valW fn er) : SaysW P fa fn er ex K := by
  have e1 : obsD fa fn K = valD fn := congrArg (fun z : AlE => z.1) e
  have e2 : (ex K && (er.all fun e => txtB P K e.name e.qual && clB K e.name)) = true := congrArg (fun z : AlE => z.2.1) e
  have e3 : (er.map fun e => fnC K (e.name, some "__init__")) = er.map fun e => fnCv e.qual e.init := congrArg (fun z : AlE => z.2.2) e
  obtain ⟨h1, h2⟩ := ba e2
  refine ⟨e1, h1, fun d hd => ?_⟩
  obtain ⟨h3, h4⟩ := ba (List.all_eq_true.mp h2 d hd)
  refine ⟨h3, h4, ?_⟩
  obtain ⟨i, hi, ed⟩ := List.mem_iff_getElem.mp hd
  have q : (er.map fun e => fnC K (e.name, some "__init__"))[i]? = (er.map fun e => fnCv e.qual e.init)[i]? := by rw [e3]
  rw [List.getElem?_map, List.getElem?_map, List.getElem?_eq_getElem hi, ed] at q
  exact Option.some.inj q
def hookW (P : Program) (n : Nat) (fa : List Fa) (fn : List DefD) (er : List ErD) (ex : PySem.W.Frag → Bool) : PySem.W.Hook where
  α := AlE
  obs := fun s => obsW P fa fn er ex (frG s.heap.get? (cStatics :: asD s.heap.get? n))
  val := fun _ => valW fn er
  says := fun _ h => ∃ K : PySem.W.Frag, K.In h ∧ SaysW P fa fn er ex K
  of := fun _ _ e => ⟨_, frG_in, saysW_of e⟩
  keeps := fun _ _ _ ⟨K, hK, c⟩ k => ⟨K, PySem.W.Frag.In.keeps hK k, c⟩
def obsWG (P : Program) (n : Nat) (fa : List Fa) (fn : List DefD) (er : List ErD) (ex : PySem.W.Frag → Bool) (g : Addr → Option Obj) : AlE := obsW P fa fn er ex (frG g (cStatics :: asD g n))
theorem obsWG_eq {P : Program} {n : Nat} {fa : List Fa} {fn : List DefD} {er : List ErD} {ex : PySem.W.Frag → Bool} {g : Addr → Option Obj} {s : Shared} (h : ∀ a, g a = s.heap.get? a) : obsWG P n fa fn er ex g = (hookW P n fa fn er ex).obs s := by
  have e : g = s.heap.get? := funext h
  rw [e] <;> rfl
end L2.DL
set_option maxHeartbeats 4000000
namespace L2.DL
open PySem PySem.Spec PyProof.Rows L2 He
/-- a def of the top, by its name -/
def FunAt (K : PySem.W.Frag) (mg : Str → Option Value) (n : Str) (st : Stmt) : Prop := ∃ f fd, FunD K n n (defArgs st) (defBody st) (defScope st) [] [] f fd ∧ mg n = some (.ref f)
/-- a def that keeps its contract -/
structure Fo (P : Program) (w : World) (K : PySem.W.Frag) (mg : Str → Option Value) (base : Heap) (n : Str) (st : Stmt) (k : Nat) (ps : List Str) (C : Ct) : Prop where
  ex : ∃ f fd, FunD K n n (defArgs st) (defBody st) (defScope st) [] [] f fd ∧ mg n = some (.ref f) ∧ FnG P w K mg base k f fd ps (spOf K ps.length C) ∧ Binds K fd ps []
section
variable {P : Program} {w : World} {K : PySem.W.Frag} {mg : Str → Option Value} {base : Heap} {n : Str} {st : Stmt} {k : Nat} {N ps : List Str} {C : Ct}
theorem fo (F : FunAt K mg n st) (S : FnScope N ps (defScope st)) (hbind : ∀ (kV doc pm : Value) (an : Option Addr) (cdv ct : Value) (us : List Value), us.length = ps.length → bindArgs (PySem.W.fnOf n n (defArgs st) (defBody st) (defScope st) .none kV doc pm an cdv ct) ⟨us, []⟩ = pure (ps.zip us))
    (hb : ∀ (f : Addr) (cdv : Value) (A : Around) (outer : List Env) (s : Shared) (H : Hp) (E : XK) (xs : List AV) (μ : Mu) (o : ERes), Gd (Bd P w K mg base N n st f cdv A outer s H E) k → xs.length = ps.length → C xs μ o →
      AS (Bd P w K mg base N n st f cdv A outer s H E) (defBody st) (rho0 N xs) μ (Ro o)) : Fo P w K mg base n st (k + 1) ps C := by
  obtain ⟨f, fd, F, hm⟩ := F
  exact ⟨f, fd, F, hm, fnG F S fun cdv A outer s H E xs μ o g l c => hb f cdv A outer s H E xs μ o g l c, F.bindsN hbind⟩
end
section
variable {X : Cx} {ρ : Rho} {μ μ1 μ2 : Mu} {e : Expr} {es : List Expr} {kws : List Keyword} {pos p : Pos} {n : Str} {st : Stmt} {k j : Nat} {ps : List Str} {C : Ct} {xs zs : List AV} {o : ERes}
theorem ae_fn (G : Fo X.prog X.w X.K X.mg X.base n st k ps C) (g : Gd X j) (ha : AA X (e :: es) ρ μ (.ok xs μ1)) (hC : C xs μ1 o) (hl : xs.length = ps.length := by rfl) (hjk : k ≤ j := by decide) (hg : Gl X n := by rfl)
    (hdb : (n == ("__debug__" : Str)) = false := by decide) (he : starEach (e :: es) X.env = (false, eval e X.env) :: starEach es X.env := by rfl) (hpl : (backTo pos (starEach es X.env)).any (·.1) = false := by rfl) : AE X (.Call (.Name n p) (e :: es) [] pos) ρ μ o := by
  obtain ⟨f, fd, F, hm, G, b⟩ := G.ex
  exact ae_call g G hm F.kp b ha hC hl hjk hg hdb he hpl
theorem ae_fn0 (G : Fo X.prog X.w X.K X.mg X.base n st k [] C) (g : Gd X j) (hC : C [] μ o) (hjk : k ≤ j := by decide) (hg : Gl X n := by rfl) (hdb : (n == ("__debug__" : Str)) = false := by decide) : AE X (.Call (.Name n p) [] [] pos) ρ μ o := by
  obtain ⟨f, fd, F, hm, G, b⟩ := G.ex
  exact ae_call0 g G hm F.kp b hC hjk hg hdb
/-- keywords alone -/
theorem ae_fnK {ks : List Str} (gg : {α : Type} → List α → List α) (G : Fo X.prog X.w X.K X.mg X.base n st k ps C) (g : Gd X j) (ha : AK X kws ρ μ (.ok zs μ1)) (hC : C (gg zs) μ1 o)
    (hb : ∀ (kV doc pm : Value) (an : Option Addr) (cdv ct : Value) (ws : List Value), ws.length = ks.length → bindArgs (PySem.W.fnOf n n (defArgs st) (defBody st) (defScope st) .none kV doc pm an cdv ct) ⟨[], ks.zip ws⟩ = pure (ps.zip (gg ws)))
    (hrel : ∀ {vs : List V} {ws : List Value}, Vals vs ws → Vals (gg vs) (gg ws)) (hav : ∀ {F : Hp} {vs : List V}, Avs X.K F zs vs → Avs X.K F (gg zs) (gg vs))
    (hl : (gg zs).length = ps.length := by rfl) (hlk : zs.length = ks.length := by rfl) (hjk : k ≤ j := by decide) (hg : Gl X n := by rfl) (hall : (backToKw pos (keywordEach kws X.env)).all (·.1.isSome) = true := by rfl) (hks : (backToKw pos (keywordEach kws X.env)).filterMap (·.1) = ks := by rfl)
    (hdb : (n == ("__debug__" : Str)) = false := by decide) (hpl : ((backTo pos (starEach [] X.env)).any (·.1) || (backToKw pos (keywordEach kws X.env)).any (·.1.isNone)) = false := by rfl) : AE X (.Call (.Name n p) [] kws pos) ρ μ o := by
  obtain ⟨f, fd, F, hm, G, b⟩ := G.ex
  refine ae_callK (ks := ks) (ps := ps) gg g G hm F.kp (fun s ws hw => ?_) hrel hav ha hC hl hlk hjk hg hall hks hdb hpl
  obtain ⟨oc, od, dV, kV, doc, pm, an, cdv, ct, osl, rfl, lk, hcd, hD, hK⟩ := F.ex
  rcases hD with ⟨_, rfl⟩ | ⟨hn, _⟩
  · exact BindsTo.of_eq (hb kV doc pm an cdv ct ws hw)
  · exact absurd rfl hn
/-- swap the two of two arguments -/
def swap2 : {α : Type} → List α → List α
  | _, [a, b] => [b, a]
  | _, l => l
theorem swap2_vals {vs : List V} {ws : List Value} (h : Vals vs ws) : Vals (swap2 vs) (swap2 ws) := by
  cases h with
  | nil => exact .nil
  | cons a h =>
    cases h with
    | nil => exact .cons a .nil
    | cons b h =>
      cases h with
      | nil => exact .cons b (.cons a .nil)
      | cons c h => exact .cons a (.cons b (.cons c h))
theorem swap2_avs {K : PySem.W.Frag} {F : Hp} {x y : AV} {vs : List V} (h : Avs K F [x, y] vs) : Avs K F (swap2 [x, y]) (swap2 vs) := by
  obtain ⟨v, u, e, h1, h2⟩ := avs2 h
  subst e
  exact ⟨u, [v], rfl, h2, v, [], rfl, h1, rfl⟩
/-- a built-in type by its name -/
theorem ae_ty {x : Str} {T : String} (hm : X.mg x = none) (hv : bootBuiltins x = some (.type T)) (hg : Gl X x := by rfl) (hn : x ≠ "__name__" := by decide) (hd : (x == ("__debug__" : Str)) = false := by decide) : AE X (.Name x pos) ρ μ (.ok (.d (.opq (.ty T))) μ) :=
  ae_val (v := .ty T) (pe_bltn (v := .ty T) hg hm hv rfl hn hd) (fun _ _ _ q => q) fun _ => rfl
theorem ae_cls {x : Str} {C : Addr} (hm : X.mg x = some (.ref C)) (hg : Gl X x := by rfl) (hd : (x == ("__debug__" : Str)) = false := by decide) : AE X (.Name x pos) ρ μ (.ok (.d (.opq (.ref C))) μ) := ae_glob (v := .ref C) hm rfl (fun _ => rfl) hg hd
theorem ae_gint {x : Str} {i : Int} (hm : ∃ t, X.mg x = some (.int i t)) (hg : Gl X x := by rfl) (hd : (x == ("__debug__" : Str)) = false := by decide) : AE X (.Name x pos) ρ μ (.ok (.d (.int i)) μ) := by
  obtain ⟨t, hm⟩ := hm
  exact ae_glob (v := .int i) hm ⟨t, rfl⟩ (fun _ => rfl) hg hd
theorem ae_gstr {x z : Str} (l : List Nat) (hm : ∃ t, X.mg x = some (.str z t)) (h : z = S l := by first | rfl | decide) (hg : Gl X x := by rfl) (hd : (x == ("__debug__" : Str)) = false := by decide) : AE X (.Name x pos) ρ μ (.ok (.d (.str l)) μ) := by
  obtain ⟨t, hm⟩ := hm
  subst h
  exact ae_glob (v := .str (S l)) hm ⟨t, rfl⟩ (fun _ => rfl) hg hd
/-- isinstance(e, T) -/
theorem ae_isT {T : Str} {Tn : String} {x : AV} {b : Bool} {p2 : Pos} (hm : X.mg "isinstance" = none) (hT : X.mg T = none) (hvT : bootBuiltins T = some (.type Tn)) (he : AE X e ρ μ (.ok x μ1)) (hr : BC X.K (rIsi X.K) [x, .d (.opq (.ty Tn))] μ1 (.d (.bl b)) μ1)
    (hg : Gl X "isinstance" := by rfl) (hgT : Gl X T := by rfl) (hnT : T ≠ "__name__" := by decide) (hdT : (T == ("__debug__" : Str)) = false := by decide) (hst : starEach (e :: [.Name T p2]) X.env = (false, eval e X.env) :: starEach [.Name T p2] X.env := by rfl) (hst2 : starEach [.Name T p2] X.env = (false, eval (.Name T p2) X.env) :: starEach [] X.env := by rfl)
    (hpl : (backTo pos (starEach [.Name T p2] X.env)).any (·.1) = false := by rfl) : AE X (.Call (.Name "isinstance" p) [e, .Name T p2] [] pos) ρ μ (.ok (.d (.bl b)) μ1) :=
  ae_callB call_isi hm PyProof.Rows.Boot.isinstance (aa_cons he (aa_cons (ae_ty hT hvT hgT hnT hdT) aa_nil hst2) hst) hr hg (by decide) (by decide) hst hpl
end
end L2.DL
set_option maxHeartbeats 4000000
namespace L2.DL
open PySem PySem.Spec PyProof.Rows L2 He
section
variable {X : Cx} {ρ : Rho} {μ μ1 μ2 μ3 : Mu} {y : AV} {e o i : Expr} {pos pos' : Pos} {R : Rs}
/-- o[i] = e, o a list of one's own -/
theorem as_setL {p : Addr} {k : Int} {xs : List AV} {j : Nat} (he : AE X e ρ μ (.ok y μ1)) (ho : AE X o ρ μ1 (.ok (.l p) μ2)) (hi : AE X i ρ μ2 (.ok (.d (.int k)) μ3)) (m : μ3 p = some (.lst xs)) (hj : ixN xs.length k = some j) (h : R.nx ρ (upM μ3 p (.lst (xs.set j y))))
    (ha : ∀ v, assign (.Subscript o i pos') X.env v = (do
      let ov ← holding [v] (eval o X.env)
      let iv ← holding [v, ov] (eval i X.env)
      standAt pos'
      holding [v, ov, iv] (setItem ov iv v)
      release [v, ov, iv] []) := by intro _; rfl) (hs : swapsWithSole [.Subscript o i pos'] e pos.line X.env = pure false := by rfl) (hw : swappedStores [.Subscript o i pos'] e X.env = pure none := by rfl)
    (h1 : (assignEach [.Subscript o i pos'] X.env).map (·.2) = [assign (.Subscript o i pos') X.env] := by rfl) : AS1 X (.Assign [.Subscript o i pos'] e pos) ρ μ R :=
  AS1.of (ps_asg pe_rd (pg_sub pe_rd pe_rd set_list ha) hs hw h1) fun F H σ hs hh Ds W tk q => he.go hs hh tk fun F1 H1 v e1 g1 a1 => ho.go (hs.mono e1) g1 tk fun F2 H2 u e2 g2 a2 => hi.go ((hs.mono e1).mono e2) g2 tk fun F3 H3 w e3 g3 a3 => by
    obtain ⟨f0, us, hv, av⟩ := g3.mu p _ m
    exact ⟨p, us, k, j, a2, a3, hv, by rw [av.length]; exact hj, q.nx F3 _ σ ρ _ ((e1.trans e2).trans e3) h (hs.mono ((e1.trans e2).trans e3)) (g3.put m (Avs.set ((a1.mono e2).mono e3) j av))⟩
end
end L2.DL
set_option maxHeartbeats 4000000
namespace L2.DL
open PySem PySem.Spec PyProof.Rows L2 He
theorem wipe2 (σ : St) (j l : Nat) : wipe σ [j, l] = (σ.set j none).set l none := by
  first
    | rfl
    | (show (σ.set l none).set j none = _; by_cases h : j = l; · rw [h]
       · exact List.set_comm _ _ (Ne.symm h))
theorem set_wipe2 (σ : St) {j l : Nat} (h : j ≠ l) (v u : Option V) : wipe (((wipe σ [j, l]).set j v).set l u) [j, l] = wipe σ [j, l] := by
  rw [wipe2, wipe2]
  apply List.ext_getElem?
  intro i
  simp only [List.getElem?_set, List.length_set]
  split <;> split <;> simp_all
theorem wipe_set2 (σ : St) {j l : Nat} (h : j ≠ l) (v u : Option V) : ((wipe σ [j, l]).set j v).set l u = (σ.set j v).set l u := by
  rw [wipe2]
  apply List.ext_getElem?
  intro i
  simp only [List.getElem?_set, List.length_set]
  split <;> split <;> simp_all
section
variable {X : Cx} {ρ : Rho} {μ μ1 μ2 μ3 : Mu} {x y z : AV} {e a b c iter elt : Expr} {es rest : List Expr} {pos p p1 p2 : Pos} {k : Nat} {n m : Str} {α : Type} {scope : Scope} {kt : Nat}
/-- [elt for n, m in iter]: elements that change nothing -/
theorem ae_lc2 (g : Gd X k) (j l : Nat) (hjl : j ≠ l) (xs : List α) (enc1 enc2 : α → Dt) (f : α → Dt) {kp : Mu → Prop} (src : Src X (.Tuple [.Name n p1, .Name m p2] kt p) iter ρ μ (xs.map fun x => .tup [enc1 x, enc2 x]) μ1 kp) (hl : xs.length ≤ 10000000)
    (he : ∀ (i : Nat) (x : α) (ν : Mu) (s : Shared) (H : Hp) (C : Addr) (cl : List (Str × Addr)) (fp : List Addr), xs[i]? = some x → SubM μ1 ν → AE (Bk X scope s H C cl fp) elt ((ρ.set j (some (.d (enc1 x)))).set l (some (.d (enc2 x)))) ν (.ok (.d (f x)) ν))
    (ok : BlkOk X.N X.env.scope scope [(n, j), (m, l)] := by exact blkOk_by (by first | kernel_rfl | rfl | decide +kernel)) (hi : X.N[j]? = some n := by rfl) (hi2 : X.N[l]? = some m := by rfl) (hx : ∀ cl C, Loc (compEnvC scope cl C X.env).scope n := by first | exact fun _ _ => Or.inl rfl | exact fun _ _ => Or.inr rfl) (hx2 : ∀ cl C, Loc (compEnvC scope cl C X.env).scope m := by first | exact fun _ _ => Or.inl rfl | exact fun _ _ => Or.inr rfl)
    (hf : ∀ (s : Shared) (H : Hp) (C : Addr) (cl : List (Str × Addr)) (fp : List Addr), (Bk X scope s H C cl fp).fn n = true ∨ (compEnvC scope cl C X.env).scope.names.lookup n = some .local := by first | exact fun _ _ _ _ _ => .inl rfl | exact fun _ _ _ _ _ => .inr rfl)
    (hf2 : ∀ (s : Shared) (H : Hp) (C : Addr) (cl : List (Str × Addr)) (fp : List Addr), (Bk X scope s H C cl fp).fn m = true ∨ (compEnvC scope cl C X.env).scope.names.lookup m = some .local := by first | exact fun _ _ _ _ _ => .inl rfl | exact fun _ _ _ _ _ => .inr rfl)
    (hfo : ∀ x, foldedSetIterable iter X.env x = pure x := by intro _; rfl) (hkp : ∀ ν, SubM μ1 ν → kp ν := by exact fun _ _ => True.intro) : AE X (.ListComp elt [⟨.Tuple [.Name n p1, .Name m p2] kt p, iter, [], 0⟩] scope pos) ρ μ (.ok (.d (.lst (xs.map f))) μ1) := by
  obtain ⟨wi, hpi, run⟩ := src.run
  refine AE.of (pe_lc (own := [(n, j), (m, l)]) (g := gTup X.K 2 (gCons (gName j) (gCons (gName l) gNil))) (tt := tYes) g.calm g.nd hpi ok (fun s H C cl fp => pg_tup (X := Bk X scope s H C cl fp) g.calm (pgs_cons (pg_name g.nd hi (hx cl C) (hf s H C cl fp)) (pgs_cons (pg_name g.nd hi2 (hx2 cl C) (hf2 s H C cl fp)) pgs_nil))) (fun _ _ _ _ _ => pts_nil) (fun s H C cl fp => pe_bk s H C cl fp) hfo) fun F H σ hsl hh Q W tk q => run F H σ hsl hh _ W tk fun J F1 H1 G e1 h1 hG wk => ?_
  intro D hD
  have hDm := h1.mnone hD
  have len : (xs.map fun x => Dt.tup [enc1 x, enc2 x]).length = xs.length := List.length_map ..
  refine ⟨fun i m H' => m = xs.length - i ∧ i ≤ xs.length ∧ Lc X F1 μ1 D ((xs.take i).map f) H', ⟨_, rfl, Nat.zero_le _, ⟨F1, Same.refl _, h1.own hD rfl⟩⟩, ?_⟩
  rintro i m H' ⟨rfl, hle, L⟩
  by_cases hlt : i < xs.length
  · obtain ⟨F', s1, hh'⟩ := id L.h
    refine .inr ⟨wk.go i F' H' (s1.trans hh'.ex) (hG F' H' _ s1 hh' (hkp _ (SubM.up hDm))) (by rw [len]; exact hlt), fun H2 => Lc X F1 μ1 D ((xs.take (i + 1)).map f) H2, fun H2 h2 => ⟨_, by omega, rfl, hlt, h2⟩, fun v H2 y => ?_⟩
    have hx' : xs[i]? = some xs[i] := by simp [hlt]
    have hd' : (xs.map fun x => Dt.tup [enc1 x, enc2 x])[i]? = some (.tup [enc1 xs[i], enc2 xs[i]]) := by rw [List.getElem?_map, hx']; rfl
    obtain ⟨F2, s2, h2, r2⟩ := wk.yld i F' H' _ v H2 _ s1 hh' (hG F' H' _ s1 hh' (hkp _ (SubM.up hDm))) hd' y
    obtain ⟨t, us, et, ht, rt⟩ := r2
    obtain ⟨v1, r1, q1, ra, rb⟩ := rt
    obtain ⟨v2, r2', q2, rc, re⟩ := rb
    refine ⟨t, us, et, sqt_mono h2.ex ht, by rw [q1, q2, show r2' = [] from re]; rfl, v1, r1, q1, v2, r2', q2, show r2' = [] from re, ?_⟩
    refine ⟨set_wipe2 σ hjl (some v1) (some v2), ?_⟩
    show rdBE X scope elt (((wipe σ [j, l]).set j (some v1)).set l (some v2)) H2 _
    rw [wipe_set2 σ hjl]
    intro s0 H0 C cl fp
    refine (he i xs[i] (upM μ1 D (.lst (((xs.take i).map f).map AV.d))) s0 H0 C cl fp hx' (SubM.up hDm)).go ((((hsl.mono e1).mono (s1.trans s2)).set j (show Av X.K F2 (.d (enc1 xs[i])) v1 from ra)).set l (show Av X.K F2 (.d (enc2 xs[i])) v2 from rc)) h2 takes_no fun F3 H3 w e3 h3 a3 => ?_
    obtain ⟨f0, vs, hv, av⟩ := h3.mu D _ upM_same
    refine ⟨vs, hv, by rw [av.length, List.length_map, List.length_map, List.length_take]; exact szl (by omega), ⟨F3, (s1.trans s2).trans e3, ?_⟩⟩
    have z := h3.put (o := .lst (((xs.take i).map f).map AV.d)) (p := D) (xs := ((xs.take (i + 1)).map f).map AV.d) upM_same (by
      rw [List.take_succ, hx', List.map_append, List.map_append]
      exact av.append ⟨w, [], rfl, a3, rfl⟩)
    rw [upM_upM] at z
    exact z
  · have ei : i = xs.length := by omega
    subst ei
    rw [List.take_length] at L
    obtain ⟨F2, s2, h2, r2⟩ := lc_end hDm L
    obtain ⟨F0, s0, hh0⟩ := id L.h
    exact .inl ⟨wk.stop _ F0 H' (s0.trans hh0.ex) (hG F0 H' _ s0 hh0 (hkp _ (SubM.up hDm))) (by rw [len]; exact Nat.le_refl _), q F2 H' _ (e1.trans s2) h2 r2⟩
end
end L2.DL
set_option maxHeartbeats 4000000
namespace L2.DL
open PySem PySem.Spec PyProof.Rows
/-- a list beside an empty list: != -/
def rNeNil (K : PySem.W.Frag) : R2 := fun x y H Q => ∃ a b xs, x = .ref a ∧ y = .ref b ∧ SqL K H a xs ∧ SqL K H b [] ∧ Q (.bl (!xs.isEmpty)) H
theorem op_neNil {X : Cx} (hu : X.A.units + 64 < cLine) : OpR X (compareOp .NotEq) (rNeNil X.K) := by
  intro pins s σ H x y v u Q I rx ry h
  obtain ⟨a, b, xs, rfl, rfl, h1, h2, q⟩ := h
  obtain rfl : v = Value.ref a := rx
  obtain rfl : u = Value.ref b := ry
  cases xs with
  | nil => exact op_neD hu pins s σ H (.ref a) (.ref b) (.ref a) (.ref b) Q I rfl rfl ⟨.list [], .list [], .lst h1 .nil, .lst h2 .nil, by decide, by decide, q⟩
  | cons x0 r =>
    obtain ⟨its, v1, p1, _⟩ := I.list h1
    obtain ⟨its2, v2, p2, _⟩ := I.list h2
    cases v2
    cases v1 with
    | cons r1 v1 =>
      exact SeqAt.RcNeAt.lists_lengths p1.isList p2.isList (by simp) (by omega) _ _ _ _ ⟨.bl true, H, I, rfl, q⟩
section
variable {K : PySem.W.Frag} {μ : Mu}
theorem br_neNil {ds : List Dt} : BR K (rNeNil K) (.d (.lst ds)) (.d (.lst [])) μ (.d (.bl (!ds.isEmpty))) μ :=
  br_val fun F H u v hh a1 a2 => by
    obtain ⟨p, us, e1, h1, r1⟩ := a1
    obtain ⟨p2, us2, e2, h2, r2⟩ := a2
    obtain rfl : us2 = [] := r2
    refine ⟨.bl (!ds.isEmpty), rfl, fun Q q => ⟨p, p2, us, e1, e2, SqL.of (hh.ex _ _ h1), SqL.of (hh.ex _ _ h2), ?_⟩⟩
    have e : us.isEmpty = ds.isEmpty := by
      have := r1.length
      cases us <;> cases ds <;> simp_all
    rw [e]
    exact q
end
section
variable {X : Cx} {ρ : Rho} {μ μ1 : Mu} {y : AV} {a b : Expr} {pos : Pos} {R : Rs}
/-- n, m = a, b, the first a new list of one's own -/
theorem as_parN {i j : Nat} {n m : Str} {px py pt : Pos} {kt k2 pt2} {xs : List AV} (hc : X.calm = true) (hN : X.N.Nodup) (ha : AE X a ρ μ (.new xs μ1)) (hb : ∀ ν, AE X b ρ ν (.ok y ν)) (h : ∀ q, μ1 q = none → R.nx ((ρ.set i (some (.l q))).set j (some y)) (upM μ1 q (.lst xs))) (hij : i ≠ j) (hi : X.N[i]? = some n := by rfl) (hj : X.N[j]? = some m := by rfl)
    (hx : X.env.scope.names.lookup n = some .local := by rfl) (hy : X.env.scope.names.lookup m = some .local := by rfl)
    (hse : starEach [a, b] X.env = (false, eval a X.env) :: starEach [b] X.env := by rfl) (hse2 : starEach [b] X.env = (false, eval b X.env) :: starEach [] X.env := by rfl)
    (hw : swappedStores [.Tuple [.Name n px, .Name m py] kt pt] (.Tuple [a, b] k2 pt2) X.env = pure (some [n, m]) := by rfl)
    (hs : swapsWithSole [.Tuple [.Name n px, .Name m py] kt pt] (.Tuple [a, b] k2 pt2) pos.line X.env = pure false := by rfl) :
    AS1 X (.Assign [.Tuple [.Name n px, .Name m py] kt pt] (.Tuple [a, b] k2 pt2) pos) ρ μ R :=
  AS1.of (ps_par hc hN hi hj hij hx hy (pa_cons pe_rd (pa_cons pe_rd pa_nil hse2) hse) hw hs) fun F H σ hs hh Ds W tk q => ha.goN hs hh tk fun F1 H1 p e1 f0 m0 h1 => (hb _).go (hs.mono e1) h1 tk fun F2 H2 u e2 h2 a2 =>
    ⟨.ref p, u, rfl, q.nx F2 H2 _ _ _ (e1.trans e2) (h p m0) (((hs.mono (e1.trans e2)).set i (show Av X.K F2 (.l p) (.ref p) from rfl)).set j a2) h2⟩
end
end L2.DL
set_option maxHeartbeats 4000000
namespace L2.DL
open PySem PySem.Spec PyProof.Rows Builtin Builtin.Str
/-! what repr makes of data: its length, its signs -/
def okC (x : Str) : Prop := ∀ c ∈ x.cps.toList, c < 0x110000
theorem char_lt (c : Char) : c.toNat < 0x110000 := by
  rcases c.valid with h | ⟨_, h⟩
  · exact Nat.lt_trans h (by decide)
  · exact h
theorem okC_lit (s : String) : okC (Str.ofString s) := by
  intro c hc
  rw [Str.ofString_eq_toList] at hc
  have hc2 : c ∈ s.toList.map Char.toNat := by simpa using hc
  obtain ⟨d, _, rfl⟩ := List.mem_map.mp hc2
  exact char_lt d
theorem okC_app {a b : Str} (ha : okC a) (hb : okC b) : okC (a ++ b) := by
  intro c hc
  have e : (a ++ b).cps.toList = a.cps.toList ++ b.cps.toList := by
    show (a.cps ++ b.cps).toList = _
    simp
  rw [e] at hc
  rcases List.mem_append.mp hc with q | q
  · exact ha c q
  · exact hb c q
theorem okC_textFrom : ∀ {ts : List Str} {k : Nat} {acc : Str}, okC acc → (∀ t ∈ ts, okC t) → okC (textFrom k acc ts)
  | [], _, _, h, _ => h
  | t :: ts, k, acc, h, ht => okC_textFrom (ts := ts) (k := k + 1) (acc := acc ++ ((if k > 0 then ", " else "" : String) : Str) ++ t) (okC_app (okC_app h (okC_lit _)) (ht t (by simp))) fun u hu => ht u (by simp [hu])
theorem okC_join {sep : Str} (hs : okC sep) : ∀ {ts : List Str}, (∀ t ∈ ts, okC t) → okC (Str.join sep ts)
  | [], _ => fun c hc => nomatch hc
  | [t], h => h t (by simp)
  | t :: u :: r, h => okC_app (okC_app (h t (by simp)) hs) (okC_join hs (ts := u :: r) fun x hx => h x (List.mem_cons_of_mem _ hx))
theorem reprChar_ok {q c : Nat} (hq : q < 0x110000) (hc : c < 0x110000) : ∀ d ∈ reprChar q c, d < 0x110000 := by
  have hex : ∀ w : Nat, ∀ d ∈ List.replicate (w - ((Nat.toDigits 16 c).map Char.toNat).length) 48 ++ (Nat.toDigits 16 c).map Char.toNat, d < 0x110000 := by
    intro w d hd
    rcases List.mem_append.mp hd with h | h
    · rw [(List.mem_replicate.mp h).2]; decide
    · obtain ⟨e, _, rfl⟩ := List.mem_map.mp h
      exact char_lt e
  intro d hd
  unfold reprChar at hd
  dsimp only at hd
  repeat' split at hd
  all_goals first
    | (rcases List.mem_append.mp hd with h | h
       · simp at h; omega
       · exact hex _ d h)
    | (simp at hd; omega)
theorem foldl_repr_ok {q : Nat} (hq : q < 0x110000) : ∀ (l : List Nat) (acc : Array Nat), (∀ c ∈ acc.toList, c < 0x110000) → (∀ c ∈ l, c < 0x110000) → ∀ c ∈ (l.foldl (fun out c => out ++ (reprChar q c).toArray) acc).toList, c < 0x110000
  | [], acc, ha, _ => ha
  | c :: r, acc, ha, h => foldl_repr_ok hq r _ (fun d hd => by
      have hd2 : d ∈ acc.toList ++ reprChar q c := by simpa using hd
      rcases List.mem_append.mp hd2 with z | z
      · exact ha d z
      · exact reprChar_ok hq (h c (by simp)) d z) fun d hd => h d (by simp [hd])
theorem okC_repr {x : Str} (h : okC x) : okC (reprText x) := by
  have hq : reprQuote x < 0x110000 := by
    unfold reprQuote
    split <;> decide
  intro c hc
  unfold reprText at hc
  rw [← Array.foldl_toList] at hc
  have hc2 : c ∈ (x.cps.toList.foldl (fun out c => out ++ (reprChar (reprQuote x) c).toArray) #[reprQuote x]).toList ++ [reprQuote x] := by simpa using hc
  rcases List.mem_append.mp hc2 with z | z
  · exact foldl_repr_ok hq _ _ (fun d hd => by
      have : d = reprQuote x := by simpa using hd
      rw [this]; exact hq) h c z
  · rw [List.mem_singleton.mp z]; exact hq
mutual
def chP : PyData → Bool
  | .none | .bool _ | .int _ => true
  | .str x => x.cps.toList.all (· < 0x110000)
  | .list xs | .tuple xs => chPs xs
  | .dict kvs => kvs.isEmpty
def chPs : List PyData → Bool
  | [] => true
  | x :: xs => chP x && chPs xs
end
mutual
theorem okC_shown : ∀ {d : PyData}, chP d = true → okC d.shown
  | .none, _ => by rw [PyData.shown]; exact okC_lit _
  | .bool b, _ => by rw [PyData.shown]; cases b <;> exact okC_lit _
  | .int i, _ => by rw [PyData.shown]; exact okC_lit _
  | .str x, h => by
    rw [PyData.shown]
    exact okC_repr fun c hc => of_decide_eq_true (List.all_eq_true.mp h c hc)
  | .list xs, h => by
    rw [PyData.shown]
    exact okC_app (okC_textFrom (okC_lit _) (okC_shownAll h)) (okC_lit _)
  | .tuple xs, h => by
    rw [PyData.shown]
    exact okC_app (okC_app (okC_lit _) (okC_join (okC_lit _) (okC_shownAll h))) (okC_lit _)
  | .dict kvs, h => by
    rw [PyData.shown]
    have e : kvs = [] := by simpa [chP] using h
    subst e
    exact okC_app (okC_app (okC_lit _) (okC_join (okC_lit _) (fun t ht => nomatch ht))) (okC_lit _)
theorem okC_shownAll : ∀ {xs : List PyData}, chPs xs = true → ∀ t ∈ PyData.shownAll xs, okC t
  | [], _ => fun t ht => nomatch ht
  | x :: xs, h => fun t ht => by
    obtain ⟨h1, h2⟩ := Bool.and_eq_true_iff.mp (show (chP x && chPs xs) = true from h)
    rcases List.mem_cons.mp (show t ∈ PyData.shown x :: PyData.shownAll xs from ht) with rfl | z
    · exact okC_shown h1
    · exact okC_shownAll h2 t z
end
/-- may be told of -/
def tellB (d : Dt) : Bool := shOk d && okD (.str (shT d).cps.toList)
/-- the same, without a look at the text -/
def tellS (d : Dt) : Bool := shK d && decide (depD d ≤ 60) && (shP d).showable && (shP d).leavesShort 13 && decide ((shP d).weight ≤ 600000) && chP (shP d)
theorem tell_of {d : Dt} (h : tellS d = true) : tellB d = true := by
  unfold tellS at h
  simp only [Bool.and_eq_true, decide_eq_true_eq] at h
  obtain ⟨⟨⟨⟨⟨h1, h2⟩, h3⟩, h4⟩, h5⟩, h6⟩ := h
  have hl := PyData.shown_le 13 (by decide) (shP d) h4
  refine Bool.and_eq_true_iff.mpr ⟨?_, ?_⟩
  · unfold shOk
    rw [h1, h3, decide_eq_true h2, decide_eq_true (show (shT d).length ≤ 10000000 from by unfold shT; omega)]
    rfl
  · refine Bool.and_eq_true_iff.mpr ⟨?_, rfl⟩
    show (shT d).cps.toList.all (· < 0x110000) = true
    exact List.all_eq_true.mpr fun c hc => decide_eq_true (okC_shown h6 c hc)
theorem tell_ok {d : Dt} (h : tellB d = true) : shOk d = true ∧ okD (.str (shT d).cps.toList) = true := Bool.and_eq_true_iff.mp h
end L2.DL
set_option maxHeartbeats 4000000
namespace L2.DL
open PySem PySem.Spec PyProof.Rows
/-- the same, of a reading -/
def AEt (X : Cx) (t : TE) (ρ : Rho) (μ : Mu) (o : ERes) : Prop :=
  ∀ (F H : Hp) (σ : St), Sl X.K F ρ σ → Holds X.K F μ H → ∀ (Q : VK) (W : WX), Takes X W → LkE X.K F σ Q W o → t σ H Q
theorem AEt.frz {X : Cx} {t : TE} {ρ : Rho} {μ μ' : Mu} {ds : List Dt} (h : AEt X t ρ μ (.new (ds.map AV.d) μ')) : AEt X t ρ μ (.ok (.d (.lst ds)) μ') := fun F H σ hs hh Q W tk q => h F H σ hs hh Q W tk fun F' H' p s f0 m0 h' => by
  obtain ⟨F2, s2, h2, r2⟩ := h'.freeze (μ' := μ') (p := p) (ds := ds) upM_same fun r o e => by
    have n : r ≠ p := fun z => by rw [z, m0] at e; cases e
    exact ⟨by rw [upM_ne n]; exact e, n⟩
  exact q F2 H' _ (s.trans s2) h2 r2
/-- what a comprehension is read as -/
def LcR (X : Cx) (n : Str) (p : Pos) (iter : Expr) (j : Nat) (tt : TT) (te : TE) (ρ : Rho) (μ : Mu) (o : ERes) : Prop := ∃ wi, PI X (.Name n p) iter wi ∧ AEt X (tLc wi (gName j) tt te [j]) ρ μ o
theorem LcR.frz {X : Cx} {n : Str} {p : Pos} {iter : Expr} {j : Nat} {tt : TT} {te : TE} {ρ : Rho} {μ μ' : Mu} {ds : List Dt} (h : LcR X n p iter j tt te ρ μ (.new (ds.map AV.d) μ')) : LcR X n p iter j tt te ρ μ (.ok (.d (.lst ds)) μ') := by
  obtain ⟨wi, h1, h2⟩ := h
  exact ⟨wi, h1, h2.frz⟩
theorem LcR.to {X : Cx} {n : Str} {p : Pos} {iter : Expr} {j : Nat} {tt : TT} {te : TE} {ρ : Rho} {μ μ' μ'' : Mu} {x x' : AV} (h : LcR X n p iter j tt te ρ μ (.ok x μ')) (ex : x = x') (em : μ' = μ'') : LcR X n p iter j tt te ρ μ (.ok x' μ'') := by rw [← ex, ← em]; exact h
section
variable {X : Cx} {ρ : Rho} {μ μ1 : Mu} {n m : Str} {p pos : Pos} {k : Nat} {iter elt c : Expr} {items : List Dt} {α : Type} {scope : Scope}
/-- [elt for n in iter]: elements that change nothing -/
theorem lct (g : Gd X k) (j : Nat) (xs : List α) (enc : α → Dt) (f : α → Dt) {kp : Mu → Prop} (src : Src X (.Name n p) iter ρ μ (xs.map enc) μ1 kp) (hl : xs.length ≤ 10000000)
    (he : ∀ (i : Nat) (x : α) (ν : Mu) (s : Shared) (H : Hp) (C : Addr) (cl : List (Str × Addr)) (fp : List Addr), xs[i]? = some x → SubM μ1 ν → AE (Bk X scope s H C cl fp) elt (ρ.set j (some (.d (enc x)))) ν (.ok (.d (f x)) ν))
    (ok : BlkOk X.N X.env.scope scope [(n, j)] := by exact blkOk_by (by first | kernel_rfl | rfl | decide +kernel)) (hi : X.N[j]? = some n := by rfl) (hx : ∀ cl C, Loc (compEnvC scope cl C X.env).scope n := by first | exact fun _ _ => Or.inl rfl | exact fun _ _ => Or.inr rfl)
    (hf : ∀ (s : Shared) (H : Hp) (C : Addr) (cl : List (Str × Addr)) (fp : List Addr), (Bk X scope s H C cl fp).fn n = true ∨ (compEnvC scope cl C X.env).scope.names.lookup n = some .local := by first | exact fun _ _ _ _ _ => .inl rfl | exact fun _ _ _ _ _ => .inr rfl)
    (hfo : ∀ x, foldedSetIterable iter X.env x = pure x := by intro _; rfl) (hkp : ∀ ν, SubM μ1 ν → kp ν := by exact fun _ _ => True.intro) : LcR X n p iter j tYes (rdBE X scope elt) ρ μ (.new ((xs.map f).map AV.d) μ1) := by
  obtain ⟨wi, hpi, run⟩ := src.run
  refine ⟨wi, hpi, fun F H σ hsl hh Q W tk q => run F H σ hsl hh _ W tk fun J F1 H1 G e1 h1 hG wk => ?_⟩
  intro D hD
  have hDm := h1.mnone hD
  have len : (xs.map enc).length = xs.length := List.length_map ..
  refine ⟨fun i m H' => m = xs.length - i ∧ i ≤ xs.length ∧ Lc X F1 μ1 D ((xs.take i).map f) H', ⟨_, rfl, Nat.zero_le _, ⟨F1, Same.refl _, h1.own hD rfl⟩⟩, ?_⟩
  rintro i m H' ⟨rfl, hle, L⟩
  by_cases hlt : i < xs.length
  · obtain ⟨F', s1, hh'⟩ := id L.h
    refine .inr ⟨wk.go i _ H' (s1.trans hh'.ex) (hG F' H' _ s1 hh' (hkp _ (SubM.up hDm))) (by rw [len]; exact hlt), fun H2 => Lc X F1 μ1 D ((xs.take (i + 1)).map f) H2, fun H2 h2 => ⟨_, by omega, rfl, hlt, h2⟩, fun v H2 y => ?_⟩
    have hx' : xs[i]? = some xs[i] := by simp [hlt]
    have hd' : (xs.map enc)[i]? = some (enc xs[i]) := by rw [List.getElem?_map, hx']; rfl
    obtain ⟨F2, s2, h2, r2⟩ := wk.yld i F' H' _ v H2 _ s1 hh' (hG F' H' _ s1 hh' (hkp _ (SubM.up hDm))) hd' y
    refine ⟨set_wipe σ j (some v), ?_⟩
    show rdBE X scope elt ((wipe σ [j]).set j (some v)) H2 _
    rw [wipe_set]
    intro s0 H0 C cl fp
    refine (he i xs[i] (upM μ1 D (.lst (((xs.take i).map f).map AV.d))) s0 H0 C cl fp hx' (SubM.up hDm)).go (((hsl.mono e1).mono (s1.trans s2)).set j r2) h2 takes_no fun F3 H3 w e3 h3 a3 => ?_
    obtain ⟨f0, vs, hv, av⟩ := h3.mu D _ upM_same
    refine ⟨vs, hv, by rw [av.length, List.length_map, List.length_map, List.length_take]; exact szl (by omega), ⟨F3, (s1.trans s2).trans e3, ?_⟩⟩
    have z := h3.put (o := .lst (((xs.take i).map f).map AV.d)) (p := D) (xs := ((xs.take (i + 1)).map f).map AV.d) upM_same (by
      rw [List.take_succ, hx', List.map_append, List.map_append]
      exact av.append ⟨w, [], rfl, a3, rfl⟩)
    rw [upM_upM] at z
    exact z
  · have ei : i = xs.length := by omega
    subst ei
    rw [List.take_length] at L
    obtain ⟨F0, s0, hh0⟩ := id L.h
    exact .inl ⟨wk.stop _ F0 H' (s0.trans hh0.ex) (hG F0 H' _ s0 hh0 (hkp _ (SubM.up hDm))) (by rw [len]; exact Nat.le_refl _), q F0 H' D (e1.trans s0) (hh0.mu D _ upM_same).1 hDm hh0⟩
/-- [elt for n in iter if c] -/
theorem lct_if (g : Gd X k) (j : Nat) (xs : List α) (enc : α → Dt) (t : α → Bool) (f : α → Dt) {kp : Mu → Prop} (src : Src X (.Name n p) iter ρ μ (xs.map enc) μ1 kp) (hl : xs.length ≤ 10000000)
    (ht : ∀ (i : Nat) (x : α) (ν : Mu) (s : Shared) (H : Hp) (C : Addr) (cl : List (Str × Addr)) (fp : List Addr), xs[i]? = some x → SubM μ1 ν → AT (Bk X scope s H C cl fp) c (ρ.set j (some (.d (enc x)))) ν (.ok (t x) ν))
    (he : ∀ (i : Nat) (x : α) (ν : Mu) (s : Shared) (H : Hp) (C : Addr) (cl : List (Str × Addr)) (fp : List Addr), xs[i]? = some x → t x = true → SubM μ1 ν → AE (Bk X scope s H C cl fp) elt (ρ.set j (some (.d (enc x)))) ν (.ok (.d (f x)) ν))
    (ok : BlkOk X.N X.env.scope scope [(n, j)] := by exact blkOk_by (by first | kernel_rfl | rfl | decide +kernel)) (hi : X.N[j]? = some n := by rfl) (hx : ∀ cl C, Loc (compEnvC scope cl C X.env).scope n := by first | exact fun _ _ => Or.inl rfl | exact fun _ _ => Or.inr rfl)
    (hf : ∀ (s : Shared) (H : Hp) (C : Addr) (cl : List (Str × Addr)) (fp : List Addr), (Bk X scope s H C cl fp).fn n = true ∨ (compEnvC scope cl C X.env).scope.names.lookup n = some .local := by first | exact fun _ _ _ _ _ => .inl rfl | exact fun _ _ _ _ _ => .inr rfl)
    (hfo : ∀ x, foldedSetIterable iter X.env x = pure x := by intro _; rfl) (hkp : ∀ ν, SubM μ1 ν → kp ν := by exact fun _ _ => True.intro) : LcR X n p iter j (rdBT X scope c) (rdBE X scope elt) ρ μ (.new (((xs.filter t).map f).map AV.d) μ1) := by
  obtain ⟨wi, hpi, run⟩ := src.run
  refine ⟨wi, hpi, fun F H σ hsl hh Q W tk q => run F H σ hsl hh _ W tk fun J F1 H1 G e1 h1 hG wk => ?_⟩
  intro D hD
  have hDm := h1.mnone hD
  have len : (xs.map enc).length = xs.length := List.length_map ..
  refine ⟨fun i m H' => m = xs.length - i ∧ i ≤ xs.length ∧ Lc X F1 μ1 D (((xs.take i).filter t).map f) H', ⟨_, rfl, Nat.zero_le _, ⟨F1, Same.refl _, h1.own hD rfl⟩⟩, ?_⟩
  rintro i m H' ⟨rfl, hle, L⟩
  by_cases hlt : i < xs.length
  · obtain ⟨F', s1, hh'⟩ := id L.h
    refine .inr ⟨wk.go i _ H' (s1.trans hh'.ex) (hG F' H' _ s1 hh' (hkp _ (SubM.up hDm))) (by rw [len]; exact hlt), fun H2 => Lc X F1 μ1 D (((xs.take (i + 1)).filter t).map f) H2, fun H2 h2 => ⟨_, by omega, rfl, hlt, h2⟩, fun v H2 y => ?_⟩
    have hx' : xs[i]? = some xs[i] := by simp [hlt]
    have hd' : (xs.map enc)[i]? = some (enc xs[i]) := by rw [List.getElem?_map, hx']; rfl
    obtain ⟨F2, s2, h2, r2⟩ := wk.yld i F' H' _ v H2 _ s1 hh' (hG F' H' _ s1 hh' (hkp _ (SubM.up hDm))) hd' y
    refine ⟨set_wipe σ j (some v), ?_⟩
    show rdBT X scope c ((wipe σ [j]).set j (some v)) H2 _
    rw [wipe_set]
    intro s0 H0 C cl fp
    have sub := SubM.up (μ := μ1) (p := D) (o := .lst ((((xs.take i).filter t).map f).map AV.d)) hDm
    refine (ht i xs[i] _ s0 H0 C cl fp hx' sub).go (((hsl.mono e1).mono (s1.trans s2)).set j r2) h2 takes_no fun F3 H3 e3 h3 => ?_
    by_cases b : t xs[i] = true
    · rw [b]
      refine iteT ?_
      intro s0 H0 C cl fp
      refine (he i xs[i] _ s0 H0 C cl fp hx' b sub).go (((hsl.mono e1).mono ((s1.trans s2).trans e3)).set j (Rp.mono e3 r2)) h3 takes_no fun F4 H4 w e4 h4 a4 => ?_
      obtain ⟨f0, vs, hv, av⟩ := h4.mu D _ upM_same
      refine ⟨vs, hv, ?_, ⟨F4, ((s1.trans s2).trans e3).trans e4, ?_⟩⟩
      · rw [av.length, List.length_map, List.length_map]
        have := List.length_filter_le t (xs.take i)
        rw [List.length_take] at this
        exact szl (by omega)
      have z := h4.put (o := .lst ((((xs.take i).filter t).map f).map AV.d)) (p := D) (xs := (((xs.take (i + 1)).filter t).map f).map AV.d) upM_same (by
        rw [List.take_succ, hx', List.filter_append, List.map_append, List.map_append]
        have ef : List.filter t (some xs[i]).toList = [xs[i]] := by simp [b]
        rw [ef]
        exact av.append ⟨w, [], rfl, a4, rfl⟩)
      rw [upM_upM] at z
      exact z
    · have b' : t xs[i] = false := by simpa using b
      rw [b']
      refine iteF ⟨F3, (s1.trans s2).trans e3, ?_⟩
      have ef : (xs.take (i + 1)).filter t = (xs.take i).filter t := by
        rw [List.take_succ, hx', List.filter_append]
        simp [b']
      rw [ef]
      exact h3
  · have ei : i = xs.length := by omega
    subst ei
    rw [List.take_length] at L
    obtain ⟨F0, s0, hh0⟩ := id L.h
    exact .inl ⟨wk.stop _ F0 H' (s0.trans hh0.ex) (hG F0 H' _ s0 hh0 (hkp _ (SubM.up hDm))) (by rw [len]; exact Nat.le_refl _), q F0 H' D (e1.trans s0) (hh0.mu D _ upM_same).1 hDm hh0⟩
/-- [elt for n in iter]: an object at c is changed turn by turn -/
theorem lct_G (g : Gd X k) (j : Nat) {cg : Addr} (G : Nat → MO) (f : Nat → Dt) {kp : Mu → Prop} (src : Src X (.Name n p) iter ρ μ items μ1 kp) (h0 : μ1 cg = some (G 0)) (hl : items.length ≤ 10000000)
    (he : ∀ (i : Nat) (d : Dt) (ν : Mu) (s : Shared) (H : Hp) (C : Addr) (cl : List (Str × Addr)) (fp : List Addr), items[i]? = some d → ν cg = some (G i) → (∀ q o, q ≠ cg → μ1 q = some o → ν q = some o) → AE (Bk X scope s H C cl fp) elt (ρ.set j (some (.d d))) ν (.ok (.d (f i)) (upM ν cg (G (i + 1)))))
    (ok : BlkOk X.N X.env.scope scope [(n, j)] := by exact blkOk_by (by first | kernel_rfl | rfl | decide +kernel)) (hi : X.N[j]? = some n := by rfl) (hx : ∀ cl C, Loc (compEnvC scope cl C X.env).scope n := by first | exact fun _ _ => Or.inl rfl | exact fun _ _ => Or.inr rfl)
    (hf : ∀ (s : Shared) (H : Hp) (C : Addr) (cl : List (Str × Addr)) (fp : List Addr), (Bk X scope s H C cl fp).fn n = true ∨ (compEnvC scope cl C X.env).scope.names.lookup n = some .local := by first | exact fun _ _ _ _ _ => .inl rfl | exact fun _ _ _ _ _ => .inr rfl)
    (hfo : ∀ x, foldedSetIterable iter X.env x = pure x := by intro _; rfl) (hkp : ∀ ν, (∀ q o, q ≠ cg → μ1 q = some o → ν q = some o) → kp ν := by exact fun _ _ => True.intro) : LcR X n p iter j tYes (rdBE X scope elt) ρ μ (.new (((List.range items.length).map f).map AV.d) (upM μ1 cg (G items.length))) := by
  obtain ⟨wi, hpi, run⟩ := src.run
  refine ⟨wi, hpi, fun F H σ hsl hh Q W tk q => run F H σ hsl hh _ W tk fun J F1 H1 Gd e1 h1 hG wk => ?_⟩
  intro D hD
  have hDm := h1.mnone hD
  have hDg : D ≠ cg := fun z => by rw [z, h0] at hDm; cases hDm
  have keepN : ∀ {i : Nat} {o : MO}, ∀ q u, q ≠ cg → μ1 q = some u → (upM (upM μ1 cg (G i)) D o) q = some u := fun {i o} q u nq eq => by
    have nD : q ≠ D := fun z => by rw [z, hDm] at eq; cases eq
    rw [upM_ne nD, upM_ne nq]
    exact eq
  have hDn : ∀ i, (upM μ1 cg (G i)) D = none := fun i => by rw [upM_ne hDg]; exact hDm
  refine ⟨fun i m H' => m = items.length - i ∧ i ≤ items.length ∧ Lc X F1 (upM μ1 cg (G i)) D ((List.range i).map f) H', ⟨_, rfl, Nat.zero_le _, ⟨F1, Same.refl _, ?_⟩⟩, ?_⟩
  · rw [upM_self h0]
    exact h1.own hD rfl
  rintro i m H' ⟨rfl, hle, L⟩
  by_cases hlt : i < items.length
  · obtain ⟨F', s1, hh'⟩ := id L.h
    refine .inr ⟨wk.go i _ H' (s1.trans hh'.ex) (hG F' H' _ s1 hh' (hkp _ keepN)) hlt, fun H2 => Lc X F1 (upM μ1 cg (G (i + 1))) D ((List.range (i + 1)).map f) H2, fun H2 h2 => ⟨_, by omega, rfl, hlt, h2⟩, fun v H2 y => ?_⟩
    have hd' : items[i]? = some items[i] := by simp [hlt]
    obtain ⟨F2, s2, h2, r2⟩ := wk.yld i F' H' _ v H2 _ s1 hh' (hG F' H' _ s1 hh' (hkp _ keepN)) hd' y
    refine ⟨set_wipe σ j (some v), ?_⟩
    show rdBE X scope elt ((wipe σ [j]).set j (some v)) H2 _
    rw [wipe_set]
    intro s0 H0 C cl fp
    refine (he i items[i] (upM (upM μ1 cg (G i)) D (.lst (((List.range i).map f).map AV.d))) s0 H0 C cl fp hd' (by rw [upM_ne (Ne.symm hDg), upM_same]) (fun q o nq eq => ?_)).go (((hsl.mono e1).mono (s1.trans s2)).set j r2) h2 takes_no fun F3 H3 w e3 h3 a3 => ?_
    · have nD : q ≠ D := fun z => by rw [z, hDm] at eq; cases eq
      rw [upM_ne nD, upM_ne nq]
      exact eq
    · rw [upM_comm hDg, upM_upM] at h3
      obtain ⟨f0, vs, hv, av⟩ := h3.mu D _ upM_same
      refine ⟨vs, hv, by rw [av.length, List.length_map, List.length_map, List.length_range]; exact szl (by omega), ⟨F3, (s1.trans s2).trans e3, ?_⟩⟩
      have z := h3.put (o := .lst (((List.range i).map f).map AV.d)) (p := D) (xs := ((List.range (i + 1)).map f).map AV.d) upM_same (by
        rw [List.range_succ, List.map_append, List.map_append]
        exact av.append ⟨w, [], rfl, a3, rfl⟩)
      rw [upM_upM] at z
      exact z
  · have ei : i = items.length := by omega
    subst ei
    obtain ⟨F0, s0, hh0⟩ := id L.h
    exact .inl ⟨wk.stop _ F0 H' (s0.trans hh0.ex) (hG F0 H' _ s0 hh0 (hkp _ keepN)) (Nat.le_refl _), q F0 H' D (e1.trans s0) (hh0.mu D _ upM_same).1 (hDn _) hh0⟩
/-- y = [elt for n in iter] on one line, kept as it is -/
theorem as_setLc {i j : Nat} {y : Str} {py spos : Pos} {x : AV} {R : Rs} (g : Gd X k) (h : LcR X n p iter j tYes (rdBE X scope elt) ρ μ (.ok x μ1)) (hn : R.nx (ρ.set i (some x)) μ1) (hy : X.N[i]? = some y := by rfl) (hyl : X.env.scope.names.lookup y = some .local := by rfl)
    (hsw : swapsWith (.ListComp elt [⟨.Name n p, iter, [], 0⟩] scope pos) (some (.Name y py)) spos.line X.env = pure true := by exact sw_true rfl rfl rfl (by rfl))
    (ok : BlkOk X.N X.env.scope scope [(n, j)] := by exact blkOk_by (by first | kernel_rfl | rfl | decide +kernel)) (hi : X.N[j]? = some n := by rfl) (hx : ∀ cl C, Loc (compEnvC scope cl C X.env).scope n := by first | exact fun _ _ => Or.inl rfl | exact fun _ _ => Or.inr rfl)
    (hf : ∀ (s : Shared) (H : Hp) (C : Addr) (cl : List (Str × Addr)) (fp : List Addr), (Bk X scope s H C cl fp).fn n = true ∨ (compEnvC scope cl C X.env).scope.names.lookup n = some .local := by first | exact fun _ _ _ _ _ => .inl rfl | exact fun _ _ _ _ _ => .inr rfl)
    (hfo : ∀ x, foldedSetIterable iter X.env x = pure x := by intro _; rfl) : AS1 X (.Assign [.Name y py] (.ListComp elt [⟨.Name n p, iter, [], 0⟩] scope pos) spos) ρ μ R := by
  obtain ⟨wi, hpi, h⟩ := h
  exact AS1.of (ps_setLc (own := [(n, j)]) (g := gName j) (tt := tYes) g.calm g.nd hy hyl hsw hpi ok (fun s H C cl fp => pg_name g.nd hi (hx cl C) (hf s H C cl fp)) (fun _ _ _ _ _ => pts_nil) (fun s H C cl fp => pe_bk s H C cl fp) hfo) fun F H σ hs hh Ds W tk q =>
    h F H σ hs hh _ W tk fun F1 H1 v e1 h1 a1 => q.nx F1 H1 _ _ _ e1 hn ((hs.mono e1).set i a1) h1
/-- y = [elt for n in iter] on one line, a list of one's own -/
theorem as_setLcN {i j : Nat} {y : Str} {py spos : Pos} {xs : List AV} {R : Rs} (g : Gd X k) (h : LcR X n p iter j tYes (rdBE X scope elt) ρ μ (.new xs μ1)) (hn : ∀ q, μ1 q = none → R.nx (ρ.set i (some (.l q))) (upM μ1 q (.lst xs))) (hy : X.N[i]? = some y := by rfl) (hyl : X.env.scope.names.lookup y = some .local := by rfl)
    (hsw : swapsWith (.ListComp elt [⟨.Name n p, iter, [], 0⟩] scope pos) (some (.Name y py)) spos.line X.env = pure true := by exact sw_true rfl rfl rfl (by rfl))
    (ok : BlkOk X.N X.env.scope scope [(n, j)] := by exact blkOk_by (by first | kernel_rfl | rfl | decide +kernel)) (hi : X.N[j]? = some n := by rfl) (hx : ∀ cl C, Loc (compEnvC scope cl C X.env).scope n := by first | exact fun _ _ => Or.inl rfl | exact fun _ _ => Or.inr rfl)
    (hf : ∀ (s : Shared) (H : Hp) (C : Addr) (cl : List (Str × Addr)) (fp : List Addr), (Bk X scope s H C cl fp).fn n = true ∨ (compEnvC scope cl C X.env).scope.names.lookup n = some .local := by first | exact fun _ _ _ _ _ => .inl rfl | exact fun _ _ _ _ _ => .inr rfl)
    (hfo : ∀ x, foldedSetIterable iter X.env x = pure x := by intro _; rfl) : AS1 X (.Assign [.Name y py] (.ListComp elt [⟨.Name n p, iter, [], 0⟩] scope pos) spos) ρ μ R := by
  obtain ⟨wi, hpi, h⟩ := h
  exact AS1.of (ps_setLc (own := [(n, j)]) (g := gName j) (tt := tYes) g.calm g.nd hy hyl hsw hpi ok (fun s H C cl fp => pg_name g.nd hi (hx cl C) (hf s H C cl fp)) (fun _ _ _ _ _ => pts_nil) (fun s H C cl fp => pe_bk s H C cl fp) hfo) fun F H σ hs hh Ds W tk q =>
    h F H σ hs hh _ W tk fun F1 H1 d e1 f0 m0 h1 => q.nx F1 H1 _ _ _ e1 (hn d m0) ((hs.mono e1).set i (show Av X.K F1 (.l d) (.ref d) from rfl)) h1
/-- a, b = e, e a tuple of two that is made first -/
theorem as_unp {i j : Nat} {n m : Str} {p1 p2 pt : Pos} {kt : Nat} {e : Expr} {d1 d2 : Dt} {R : Rs} (g : Gd X k) (he : AE X e ρ μ (.ok (.d (.tup [d1, d2])) μ1)) (h : R.nx ((ρ.set i (some (.d d1))).set j (some (.d d2))) μ1)
    (hi : X.N[i]? = some n := by rfl) (hx : Loc X.env.scope n := by first | exact Or.inl rfl | exact Or.inr rfl) (hj : X.N[j]? = some m := by rfl) (hx2 : Loc X.env.scope m := by first | exact Or.inl rfl | exact Or.inr rfl)
    (hf : X.fn n = true ∨ X.env.scope.names.lookup n = some .local := by first | exact .inl rfl | exact .inr rfl) (hf2 : X.fn m = true ∨ X.env.scope.names.lookup m = some .local := by first | exact .inl rfl | exact .inr rfl)
    (hs : swapsWithSole [.Tuple [.Name n p1, .Name m p2] kt pt] e pos.line X.env = pure false := by rfl) (hw : swappedStores [.Tuple [.Name n p1, .Name m p2] kt pt] e X.env = pure none := by rfl)
    (h1 : (assignEach [.Tuple [.Name n p1, .Name m p2] kt pt] X.env).map (·.2) = [assign (.Tuple [.Name n p1, .Name m p2] kt pt) X.env] := by rfl) : AS1 X (.Assign [.Tuple [.Name n p1, .Name m p2] kt pt] e pos) ρ μ R :=
  AS1.of (ps_asg pe_rd (pg_tup g.calm (pgs_cons (pg_name g.nd hi hx hf) (pgs_cons (pg_name g.nd hj hx2 hf2) pgs_nil))) hs hw h1) fun F H σ hsl hh Ds W tk q => he.go hsl hh tk fun F1 H1 v e1 h1 a1 => by
    obtain ⟨t, us, et, ht, rt⟩ := a1
    obtain ⟨v1, r1, q1, ra, rb⟩ := rt
    obtain ⟨v2, r2', q2, rc, re⟩ := rb
    exact ⟨t, us, et, sqt_mono h1.ex ht, by rw [q1, q2, show r2' = [] from re]; rfl, v1, r1, q1, v2, r2', q2, show r2' = [] from re, q.nx F1 H1 _ _ _ e1 h (((hsl.mono e1).set i (show Av X.K F1 (.d d1) v1 from ra)).set j (show Av X.K F1 (.d d2) v2 from rc)) h1⟩
end
end L2.DL
set_option maxHeartbeats 4000000
namespace L2.DL
open PySem PySem.Spec PyProof.Rows
/-! < of data that are alike; lists of numbers by their first unlike place -/
def rLtD (K : PySem.W.Frag) : R2 := fun x y H Q => ∃ d e, Dp K H x d ∧ Dp K H y e ∧ PySem.W.alike d e = true ∧ d ≠ .none ∧ d.depth ≤ 60 ∧ Q (.bl (PySem.W.dataLt d e)) H
theorem op_ltD {X : Cx} (hu : X.A.units + 64 < cLine) : OpR X (compareOp .Lt) (rLtD X.K) := by
  intro pins s σ H x y v u Q I rx ry h
  obtain ⟨d, e, hd, he, ha, hn, hdep, q⟩ := h
  obtain ⟨as, r1⟩ := Dp.reads I d x v hd rx
  obtain ⟨bs, r2⟩ := Dp.reads I e y u he ry
  exact PySem.W.rcLt_alike d e X.A s v u as bs r1 r2 ha hn (by
    have : min d.depth e.depth ≤ d.depth := Nat.min_le_left _ _
    omega) _ _ _ _ ⟨.bl _, H, I, rfl, q⟩
section
variable {K : PySem.W.Frag} {μ : Mu}
theorem br_ltD {x y : Dt} (hx : okD x = true) (hy : okD y = true) (ha : PySem.W.alike (py x) (py y) = true) (hn : py x ≠ .none) : BR K (rLtD K) (.d x) (.d y) μ (.d (.bl (PySem.W.dataLt (py x) (py y)))) μ :=
  br_val fun F H u v hh a1 a2 => ⟨.bl (PySem.W.dataLt (py x) (py y)), rfl, fun Q q => ⟨py x, py y, (Rp.mono hh.ex a1).dp (okD.plain hx), (Rp.mono hh.ex a2).dp (okD.plain hy), ha, hn, Nat.le_trans (depth_py x) (of_decide_eq_true (Bool.and_eq_true_iff.mp hx).2), q⟩⟩
end
/-- the first unlike place, or the shorter one -/
def ltI : List Int → List Int → Bool
  | [], [] => false
  | [], _ :: _ => true
  | _ :: _, [] => false
  | a :: as, b :: bs => if a = b then ltI as bs else decide (a < b)
def dInts (ns : List Int) : List Dt := ns.map Dt.int
theorem alike_ints : ∀ (as bs : List Int), PySem.W.alikeAll (pys (dInts as)) (pys (dInts bs)) = true
  | [], _ => rfl
  | a :: as, [] => rfl
  | a :: as, b :: bs => by
    show (PySem.W.alike (.int a) (.int b) && PySem.W.alikeAll (pys (dInts as)) (pys (dInts bs))) = true
    rw [alike_ints as bs]
    rfl
theorem toks_ints : ∀ (as bs : List Int), PyProof.Rows.lexLt PyProof.Rows.itemOrd (PySem.W.keyToksAll (pys (dInts as))) (PySem.W.keyToksAll (pys (dInts bs))) = ltI as bs
  | [], [] => by
    show PyProof.Rows.lexLt PyProof.Rows.itemOrd [.inl 0] [.inl 0] = false
    decide +kernel
  | [], b :: bs => by
    show PyProof.Rows.lexLt PyProof.Rows.itemOrd [.inl 0] (.inl 1 :: _) = true
    rw [PyProof.Rows.lex_diff (O := PyProof.Rows.itemOrd) (by decide)]
    decide +kernel
  | a :: as, [] => by
    show PyProof.Rows.lexLt PyProof.Rows.itemOrd (.inl 1 :: _) [.inl 0] = false
    rw [PyProof.Rows.lex_diff (O := PyProof.Rows.itemOrd) (by decide)]
    decide +kernel
  | a :: as, b :: bs => by
    have ih := toks_ints as bs
    show PyProof.Rows.lexLt PyProof.Rows.itemOrd (PySem.W.keyToksAll (.int a :: pys (dInts as))) (PySem.W.keyToksAll (.int b :: pys (dInts bs))) = if a = b then ltI as bs else decide (a < b)
    by_cases e : a = b
    · rw [if_pos e, PySem.W.dataLt_all_yes rfl (by subst e; exact SeqAt.eqv_refl (.int a) rfl), ih]
    · rw [if_neg e, PySem.W.dataLt_all_no rfl (by
        show (a == b) = false
        exact beq_eq_false_iff_ne.mpr e), PySem.W.dataLt_int]
theorem lt_list (as bs : List Int) : PySem.W.dataLt (py (.lst (dInts as))) (py (.lst (dInts bs))) = ltI as bs := toks_ints as bs
theorem lt_pair (a b : Int) (as bs : List Int) : PySem.W.dataLt (py (.tup [.int a, .lst (dInts as)])) (py (.tup [.int b, .lst (dInts bs)])) = ltI (a :: as) (b :: bs) := by
  show PyProof.Rows.lexLt PyProof.Rows.itemOrd (PySem.W.keyToksAll [.int a, .list (pys (dInts as))]) (PySem.W.keyToksAll [.int b, .list (pys (dInts bs))]) = if a = b then ltI as bs else decide (a < b)
  by_cases e : a = b
  · rw [if_pos e, PySem.W.dataLt_all_yes rfl (by subst e; exact SeqAt.eqv_refl (.int a) rfl)]
    have al : PySem.W.alike (.list (pys (dInts as))) (.list (pys (dInts bs))) = true := alike_ints as bs
    by_cases q : PyData.eqv (.list (pys (dInts as))) (.list (pys (dInts bs))) = true
    · rw [PySem.W.dataLt_all_yes al q]
      have z : as = bs := by
        have z : ∀ (as bs : List Int), PyData.eqvAll (pys (dInts as)) (pys (dInts bs)) = true → as = bs := by
          intro as
          induction as with
          | nil => intro bs h; cases bs with
            | nil => rfl
            | cons b bs => cases h
          | cons a as ih =>
            intro bs h
            cases bs with
            | nil => cases h
            | cons b bs =>
              obtain ⟨h1, h2⟩ := Bool.and_eq_true_iff.mp (show ((a == b) && PyData.eqvAll (pys (dInts as)) (pys (dInts bs))) = true from h)
              rw [beq_iff_eq.mp h1, ih bs h2]
        exact z as bs q
      subst z
      have irr : ∀ l : List Int, ltI l l = false := by
        intro l
        induction l with
        | nil => rfl
        | cons a l ih => show (if a = a then ltI l l else decide (a < a)) = false; rw [if_pos rfl, ih]
      rw [irr]
      show PyProof.Rows.lexLt PyProof.Rows.itemOrd [.inl 0] [.inl 0] = false
      decide +kernel
    · rw [PySem.W.dataLt_all_no al (by simpa using q), PySem.W.dataLt_list]
      exact toks_ints as bs
  · rw [if_neg e, PySem.W.dataLt_all_no rfl (by
      show (a == b) = false
      exact beq_eq_false_iff_ne.mpr e), PySem.W.dataLt_int]
theorem ltI_irr : ∀ l : List Int, ltI l l = false
  | [] => rfl
  | a :: l => by
    show (if a = a then ltI l l else decide (a < a)) = false
    rw [if_pos rfl, ltI_irr l]
/-- just one of two unlike ones is ahead -/
theorem ltI_tri : ∀ a b : List Int, ltI b a = (!ltI a b && !decide (a = b))
  | [], [] => rfl
  | [], _ :: _ => rfl
  | _ :: _, [] => by simp [ltI]
  | a :: as, b :: bs => by
    have ih := ltI_tri as bs
    show (if b = a then ltI bs as else decide (b < a)) = (!(if a = b then ltI as bs else decide (a < b)) && !decide (a :: as = b :: bs))
    by_cases e : a = b
    · subst e
      rw [if_pos rfl, if_pos rfl, ih]
      simp
    · rw [if_neg e, if_neg (fun q => e q.symm)]
      have : decide (a :: as = b :: bs) = false := decide_eq_false fun q => e (List.cons.inj q).1
      rw [this, Bool.eq_iff_iff]
      simp
      omega
/-- the last two of three the other way about -/
def swap23 : {α : Type} → List α → List α
  | _, [a, b, c] => [a, c, b]
  | _, l => l
theorem swap23_vals {vs : List V} {ws : List Value} (h : Vals vs ws) : Vals (swap23 vs) (swap23 ws) := by
  cases h with
  | nil => exact .nil
  | cons a h =>
    cases h with
    | nil => exact .cons a .nil
    | cons b h =>
      cases h with
      | nil => exact .cons a (.cons b .nil)
      | cons c h =>
        cases h with
        | nil => exact .cons a (.cons c (.cons b .nil))
        | cons d h => exact .cons a (.cons b (.cons c (.cons d h)))
theorem swap23_avs {K : PySem.W.Frag} {F : Hp} {x y z : AV} {vs : List V} (h : Avs K F [x, y, z] vs) : Avs K F (swap23 [x, y, z]) (swap23 vs) := by
  obtain ⟨v, r, e, h1, h2⟩ := h
  obtain ⟨u, t, e2, h3⟩ := avs2 h2
  subst e e2
  exact ⟨v, _, rfl, h1, t, _, rfl, h3.2, u, _, rfl, h3.1, rfl⟩
end L2.DL
set_option maxHeartbeats 4000000
namespace L2.DL
open PySem PySem.Spec PyProof.Rows
/-- a text so many times, also never and once -/
def rMulT : R2 := fun x y H Q => ∃ (l : Str) (n : Int), x = .str l ∧ y = .int n ∧ -100000 ≤ n ∧ n ≤ 100000 ∧ l.length * n.toNat ≤ 10000000 ∧ Q (.str (Txt.mul l n)) H
section
variable {X : Cx} {K : PySem.W.Frag} {μ : Mu}
theorem op_mulT : OpR X (binaryOp .Mult) rMulT := by
  intro pins s σ H x y v u Q I rx ry h
  obtain ⟨l, n, rfl, rfl, h1, h2, h3, q⟩ := h
  obtain ⟨t, rfl⟩ := rx
  obtain ⟨t', rfl⟩ := ry
  refine SB.mul ⟨by simp; omega, fun g1 g2 => ?_, fun g1 g2 => ?_⟩ fun t'' k => ⟨.str _, H, I.tok _, ⟨_, rfl⟩, q⟩
  · have hl : l.length ≤ 10000000 := by
      have : 1 ≤ n.toNat := by omega
      exact Nat.le_trans (Nat.le_mul_of_pos_right _ this) h3
    have q2 : (10000000 : Int) ≤ (2 ^ 63 - 1) / n := Int.le_ediv_of_mul_le (by omega) (by omega)
    omega
  · unfold Builtin.Str.tooLong
    exact decide_eq_false (by have := sz h3; omega)
theorem mul_S (l : List Nat) (n : Int) : Txt.mul (S l) n = S (repD n.toNat l) := by
  unfold Txt.mul
  by_cases h1 : n < 1
  · rw [if_pos h1, show n.toNat = 0 by omega]
    rfl
  · rw [if_neg h1]
    by_cases h2 : (n == 1 || (S l).length == 0) = true
    · rw [if_pos h2]
      rw [Bool.or_eq_true] at h2
      rcases h2 with h2 | h2
      · rw [beq_iff_eq.mp h2]
        unfold repD
        simp
      · have e : l = [] := List.length_eq_zero_iff.mp (by
          have := beq_iff_eq.mp h2
          rwa [S_len] at this)
        subst e
        unfold repD
        simp
    · rw [if_neg h2]
      have e2 : ((List.replicate n.toNat (S l).cps).foldl (· ++ ·) #[]).toList = repD n.toNat l := by
        rw [fold_app, S_cps]
        rfl
      show (⟨_⟩ : Str) = ⟨(repD n.toNat l).toArray⟩
      rw [← e2, Array.toArray_toList]
theorem br_mulT {l : List Nat} {n : Int} (h1 : -100000 ≤ n ∧ n ≤ 100000) (h2 : l.length * n.toNat ≤ 10000000) : BR K rMulT (.d (.str l)) (.d (.int n)) μ (.d (.str (repD n.toNat l))) μ :=
  br_val fun F H u v _ a1 a2 => ⟨.str (S (repD n.toNat l)), rfl, fun Q q => ⟨S l, n, a1, a2, h1.1, h1.2, by rw [S_len]; exact h2, by rw [mul_S]; exact q⟩⟩
end
end L2.DL
set_option maxHeartbeats 4000000
namespace L2.DL
open PySem PySem.Spec PyProof.Rows
section
variable {X : Cx} {ρ : Rho} {μ μ1 μ2 : Mu} {a b : Expr}
/-- list(range(a, b)) -/
theorem ae_listRg {k : Nat} {p1 p2 q1 q2 : Pos} {i j : Int} (g : Gd X k) (hl : X.mg "list" = none) (hr : X.mg "range" = none) (ha : AE X a ρ μ (.ok (.d (.int i)) μ1)) (hb : AE X b ρ μ1 (.ok (.d (.int j)) μ2)) (ok : RgOk i j) (hg : Gl X "list" := by rfl) (hg2 : Gl X "range" := by rfl)
    (na : starEach [a, b] X.env = (false, eval a X.env) :: starEach [b] X.env := by rfl) (nb : starEach [b] X.env = (false, eval b X.env) :: starEach [] X.env := by rfl) (hp : (backTo q2 (starEach [b] X.env)).any (·.1) = false := by rfl)
    (nc : starEach [.Call (.Name "range" q1) [a, b] [] q2] X.env = (false, eval (.Call (.Name "range" q1) [a, b] [] q2) X.env) :: starEach [] X.env := by rfl) : AE X (.Call (.Name "list" p1) [.Call (.Name "range" q1) [a, b] [] q2] [] p2) ρ μ (.ok (.d (.lst ((List.range (j - i).toNat).map fun (n : Nat) => .int (i + (n : Int))))) μ2) :=
  AE.of (pe_listRg g.calm hg hl (prg_2 hg2 hr pe_rd pe_rd na nb hp) nc) fun F H σ hs hh Q W tk q => ha.go hs hh tk fun F1 H1 v e1 h1 a1 => hb.go (hs.mono e1) h1 tk fun F2 H2 u e2 h2 a2 => ⟨i, j, a1, a2, ok, fun d hd => by
    have f0 := h2.fnone hd
    refine q (upd F2 d (.lst (rgV i j))) _ _ ((e1.trans e2).trans (same_new f0)) (h2.new hd) ⟨d, rgV i j, rfl, upd_same, ?_⟩
    have z : ∀ l : List Nat, Rps X.K (upd F2 d (.lst (rgV i j))) (l.map fun (n : Nat) => Dt.int (i + (n : Int))) (l.map fun n => V.int (i + (n : Nat))) := by
      intro l
      induction l with
      | nil => rfl
      | cons n l ih => exact ⟨_, _, rfl, rfl, ih⟩
    exact z _⟩
end
/-- three the other way about -/
def rev3 : {α : Type} → List α → List α
  | _, [a, b, c] => [c, b, a]
  | _, l => l
theorem rev3_vals {vs : List V} {ws : List Value} (h : Vals vs ws) : Vals (rev3 vs) (rev3 ws) := by
  cases h with
  | nil => exact .nil
  | cons a h =>
    cases h with
    | nil => exact .cons a .nil
    | cons b h =>
      cases h with
      | nil => exact .cons a (.cons b .nil)
      | cons c h =>
        cases h with
        | nil => exact .cons c (.cons b (.cons a .nil))
        | cons d h => exact .cons a (.cons b (.cons c (.cons d h)))
theorem rev3_avs {K : PySem.W.Frag} {F : Hp} {x y z : AV} {vs : List V} (h : Avs K F [x, y, z] vs) : Avs K F (rev3 [x, y, z]) (rev3 vs) := by
  obtain ⟨v, r, e, h1, h2⟩ := h
  obtain ⟨u, t, e2, h3⟩ := avs2 h2
  subst e e2
  exact ⟨t, _, rfl, h3.2, u, _, rfl, h3.1, v, _, rfl, h1, rfl⟩
end L2.DL
set_option maxHeartbeats 4000000
namespace L2.DL
open PySem PySem.Spec PyProof.Rows
section
variable {X : Cx} {ρ : Rho} {μ μ1 μ2 μ3 : Mu} {x y z : AV} {e a b c : Expr} {es : List Expr} {pos p tpos : Pos} {kk k : Nat} {elts : List Expr} {R : Rs}
/-- enumerate(a list) -/
theorem src_enumL {ds : List Dt} (hm : X.mg "enumerate" = none) (h : AA X [a] ρ μ (.ok [.d (.lst ds)] μ1)) (hg : Gl X "enumerate" := by rfl) (hse : starEach [a] X.env = [(false, eval a X.env)] := by rfl) : Src X (.Tuple elts kk tpos) (.Call (.Name "enumerate" p) [a] [] pos) ρ μ (enD ds) μ1 :=
  ⟨_, pi_enum hg hm pa_rd hse, fun F H σ hs hh Rr W tk q => h.go hs hh tk fun F1 H1 vs e1 h1 a1 => by
  obtain ⟨v, e2, av⟩ := avs1 a1
  obtain ⟨q0, us, ev, hp, rp⟩ := av
  have lus : us.length = ds.length := rp.length
  refine ⟨q0, us, by rw [e2, ev], SqL.of (h1.ex _ _ hp), q _ F1 H1 (fun _ _ => True) e1 h1 (fun _ _ _ _ _ _ => True.intro) ⟨fun i _ H' s _ z => ⟨us, SqL.of (s _ _ hp), by rw [lus]; simpa [enD] using z⟩, fun i _ H' s _ z => ?_, fun i F' H2 μ' x H' d s g _ hd y => ?_⟩⟩
  · have hi : i < us.length := by rw [lus]; simpa [enD] using z
    exact ⟨us, us[i], SqL.of (s _ _ hp), by simp [hi]⟩
  · obtain ⟨T, w, ex, hT, eh, hc⟩ := y
    subst ex eh
    have hw := hc us (SqL.of (g.ex _ _ (s _ _ hp)))
    obtain ⟨d0, hd0, r0⟩ := (Rps.mono s rp).get hw
    have hi : i < ds.length := (List.getElem?_eq_some_iff.mp hd0).1
    have ed : d = .tup [.int (i : Nat), d0] := by
      unfold enD at hd
      rw [List.getElem?_map, List.getElem?_range hi] at hd
      have z : ds.getD i .non = d0 := by
        rw [List.getD_eq_getElem?_getD, hd0]
        rfl
      rw [← z]
      exact (Option.some.inj hd).symm
    have f0 := g.fnone hT
    subst ed
    exact ⟨_, same_new f0, g.new hT, T, _, rfl, SqT.of upd_same, _, _, rfl, rfl, _, _, rfl, Rp.mono (same_new f0) r0, rfl⟩⟩
/-- n, m, l = a, b, c (three plain names) -/
theorem as_par3 {i j l : Nat} {n m o : Str} {px py pz pt : Pos} {kt k2 pt2} (hc : X.calm = true) (hN : X.N.Nodup) (ha : AA X [a, b, c] ρ μ (.ok [x, y, z] μ1)) (h : R.nx (((ρ.set i (some x)).set j (some y)).set l (some z)) μ1) (hij : i ≠ j) (hil : i ≠ l) (hjl : j ≠ l) (hi : X.N[i]? = some n := by rfl) (hj : X.N[j]? = some m := by rfl) (hl : X.N[l]? = some o := by rfl)
    (hx : X.env.scope.names.lookup n = some .local := by rfl) (hy : X.env.scope.names.lookup m = some .local := by rfl) (hz : X.env.scope.names.lookup o = some .local := by rfl)
    (hw : swappedStores [.Tuple [.Name n px, .Name m py, .Name o pz] kt pt] (.Tuple [a, b, c] k2 pt2) X.env = pure (some [n, m, o]) := by rfl)
    (hs : swapsWithSole [.Tuple [.Name n px, .Name m py, .Name o pz] kt pt] (.Tuple [a, b, c] k2 pt2) pos.line X.env = pure false := by rfl) :
    AS1 X (.Assign [.Tuple [.Name n px, .Name m py, .Name o pz] kt pt] (.Tuple [a, b, c] k2 pt2) pos) ρ μ R :=
  AS1.of (ps_par3 hc hN hi hj hl hij hil hjl hx hy hz pa_rd hw hs) fun F H σ hs hh Ds W tk q => ha.go hs hh tk fun F1 H1 vs e1 h1 a1 => by
    obtain ⟨v, r, e2, av, a2⟩ := a1
    obtain ⟨u, w, e3, au, aw⟩ := avs2 a2
    exact ⟨v, u, w, by rw [e2, e3], q.nx F1 H1 _ _ _ e1 h ((((hs.mono e1).set i av).set j au).set l aw) h1⟩
/-- a, b, c, d = e, e a tuple of four -/
theorem as_unp4 {i j l o : Nat} {n m n3 n4 : Str} {p1 p2 p3 p4 pt : Pos} {kt : Nat} {d1 d2 d3 d4 : Dt} (g : Gd X k) (he : AE X e ρ μ (.ok (.d (.tup [d1, d2, d3, d4])) μ1)) (h : R.nx ((((ρ.set i (some (.d d1))).set j (some (.d d2))).set l (some (.d d3))).set o (some (.d d4))) μ1)
    (hi : X.N[i]? = some n := by rfl) (hx : Loc X.env.scope n := by first | exact Or.inl rfl | exact Or.inr rfl) (hj : X.N[j]? = some m := by rfl) (hx2 : Loc X.env.scope m := by first | exact Or.inl rfl | exact Or.inr rfl)
    (hl : X.N[l]? = some n3 := by rfl) (hx3 : Loc X.env.scope n3 := by first | exact Or.inl rfl | exact Or.inr rfl) (ho : X.N[o]? = some n4 := by rfl) (hx4 : Loc X.env.scope n4 := by first | exact Or.inl rfl | exact Or.inr rfl)
    (hf : X.fn n = true ∨ X.env.scope.names.lookup n = some .local := by first | exact .inl rfl | exact .inr rfl) (hf2 : X.fn m = true ∨ X.env.scope.names.lookup m = some .local := by first | exact .inl rfl | exact .inr rfl)
    (hf3 : X.fn n3 = true ∨ X.env.scope.names.lookup n3 = some .local := by first | exact .inl rfl | exact .inr rfl) (hf4 : X.fn n4 = true ∨ X.env.scope.names.lookup n4 = some .local := by first | exact .inl rfl | exact .inr rfl)
    (hs : swapsWithSole [.Tuple [.Name n p1, .Name m p2, .Name n3 p3, .Name n4 p4] kt pt] e pos.line X.env = pure false := by rfl) (hw : swappedStores [.Tuple [.Name n p1, .Name m p2, .Name n3 p3, .Name n4 p4] kt pt] e X.env = pure none := by rfl)
    (h1 : (assignEach [.Tuple [.Name n p1, .Name m p2, .Name n3 p3, .Name n4 p4] kt pt] X.env).map (·.2) = [assign (.Tuple [.Name n p1, .Name m p2, .Name n3 p3, .Name n4 p4] kt pt) X.env] := by rfl) : AS1 X (.Assign [.Tuple [.Name n p1, .Name m p2, .Name n3 p3, .Name n4 p4] kt pt] e pos) ρ μ R :=
  AS1.of (ps_asg pe_rd (pg_tup g.calm (pgs_cons (pg_name g.nd hi hx hf) (pgs_cons (pg_name g.nd hj hx2 hf2) (pgs_cons (pg_name g.nd hl hx3 hf3) (pgs_cons (pg_name g.nd ho hx4 hf4) pgs_nil))))) hs hw h1) fun F H σ hsl hh Ds W tk q => he.go hsl hh tk fun F1 H1 v e1 h1 a1 => by
    obtain ⟨t, us, et, ht, rt⟩ := a1
    obtain ⟨v1, r1, q1, ra, rb⟩ := rt
    obtain ⟨v2, r2, q2, rc, rd⟩ := rb
    obtain ⟨v3, r3, q3, re, rf⟩ := rd
    obtain ⟨v4, r4, q4, rg, rh⟩ := rf
    have z4 : r4 = [] := rh
    exact ⟨t, us, et, sqt_mono h1.ex ht, by rw [q1, q2, q3, q4, z4]; rfl, v1, r1, q1, v2, r2, q2, v3, r3, q3, v4, r4, q4, z4, q.nx F1 H1 _ _ _ e1 h (((((hsl.mono e1).set i (show Av X.K F1 (.d d1) v1 from ra)).set j (show Av X.K F1 (.d d2) v2 from rc)).set l (show Av X.K F1 (.d d3) v3 from re)).set o (show Av X.K F1 (.d d4) v4 from rg)) h1⟩
end
end L2.DL
set_option maxHeartbeats 4000000
namespace L2.DL
open PySem PySem.Spec PyProof.Rows
section
variable {X : Cx} {ρ : Rho} {μ μ1 : Mu} {n : Str} {p pos : Pos} {k : Nat} {iter elt c : Expr} {items : List Dt} {scope : Scope}
/-- [elt for n in iter if c]: no item passes; an object at cg is changed turn by turn by the test -/
theorem ae_lcNo (g : Gd X k) (j : Nat) {cg : Addr} (G : Nat → MO) {kp : Mu → Prop} (src : Src X (.Name n p) iter ρ μ items μ1 kp) (h0 : μ1 cg = some (G 0))
    (ht : ∀ (i : Nat) (d : Dt) (ν : Mu) (s : Shared) (H : Hp) (C : Addr) (cl : List (Str × Addr)) (fp : List Addr), items[i]? = some d → ν cg = some (G i) → (∀ q o, q ≠ cg → μ1 q = some o → ν q = some o) → AT (Bk X scope s H C cl fp) c (ρ.set j (some (.d d))) ν (.ok false (upM ν cg (G (i + 1)))))
    (ok : BlkOk X.N X.env.scope scope [(n, j)] := by exact blkOk_by (by first | kernel_rfl | rfl | decide +kernel)) (hi : X.N[j]? = some n := by rfl) (hx : ∀ cl C, Loc (compEnvC scope cl C X.env).scope n := by first | exact fun _ _ => Or.inl rfl | exact fun _ _ => Or.inr rfl)
    (hf : ∀ (s : Shared) (H : Hp) (C : Addr) (cl : List (Str × Addr)) (fp : List Addr), (Bk X scope s H C cl fp).fn n = true ∨ (compEnvC scope cl C X.env).scope.names.lookup n = some .local := by first | exact fun _ _ _ _ _ => .inl rfl | exact fun _ _ _ _ _ => .inr rfl)
    (hfo : ∀ x, foldedSetIterable iter X.env x = pure x := by intro _; rfl) (hkp : ∀ ν, (∀ q o, q ≠ cg → μ1 q = some o → ν q = some o) → kp ν := by exact fun _ _ => True.intro) : AE X (.ListComp elt [⟨.Name n p, iter, [c], 0⟩] scope pos) ρ μ (.ok (.d (.lst [])) (upM μ1 cg (G items.length))) := by
  obtain ⟨wi, hpi, run⟩ := src.run
  refine AE.of (pe_lc (own := [(n, j)]) (g := gName j) (tt := rdBT X scope c) g.calm g.nd hpi ok (fun s H C cl fp => pg_name g.nd hi (hx cl C) (hf s H C cl fp)) (fun s H C cl fp => pts_one (pt_bk s H C cl fp)) (fun s H C cl fp => pe_bk s H C cl fp) hfo) fun F H σ hsl hh Q W tk q => run F H σ hsl hh _ W tk fun J F1 H1 Gd e1 h1 hG wk => ?_
  intro D hD
  have hDm := h1.mnone hD
  have hDg : D ≠ cg := fun z => by rw [z, h0] at hDm; cases hDm
  have keepN : ∀ {i : Nat} {o : MO}, ∀ q u, q ≠ cg → μ1 q = some u → (upM (upM μ1 cg (G i)) D o) q = some u := fun {i o} q u nq eq => by
    have nD : q ≠ D := fun z => by rw [z, hDm] at eq; cases eq
    rw [upM_ne nD, upM_ne nq]
    exact eq
  have hDn : ∀ i, (upM μ1 cg (G i)) D = none := fun i => by rw [upM_ne hDg]; exact hDm
  refine ⟨fun i m H' => m = items.length - i ∧ i ≤ items.length ∧ Lc X F1 (upM μ1 cg (G i)) D [] H', ⟨_, rfl, Nat.zero_le _, ⟨F1, Same.refl _, ?_⟩⟩, ?_⟩
  · rw [upM_self h0]
    exact h1.own hD rfl
  rintro i m H' ⟨rfl, hle, L⟩
  by_cases hlt : i < items.length
  · obtain ⟨F', s1, hh'⟩ := id L.h
    refine .inr ⟨wk.go i _ H' (s1.trans hh'.ex) (hG F' H' _ s1 hh' (hkp _ keepN)) hlt, fun H2 => Lc X F1 (upM μ1 cg (G (i + 1))) D [] H2, fun H2 h2 => ⟨_, by omega, rfl, hlt, h2⟩, fun v H2 y => ?_⟩
    have hd' : items[i]? = some items[i] := by simp [hlt]
    obtain ⟨F2, s2, h2, r2⟩ := wk.yld i F' H' _ v H2 _ s1 hh' (hG F' H' _ s1 hh' (hkp _ keepN)) hd' y
    refine ⟨set_wipe σ j (some v), ?_⟩
    show rdBT X scope c ((wipe σ [j]).set j (some v)) H2 _
    rw [wipe_set]
    intro s0 H0 C cl fp
    refine (ht i items[i] (upM (upM μ1 cg (G i)) D (.lst (([] : List Dt).map AV.d))) s0 H0 C cl fp hd' (by rw [upM_ne (Ne.symm hDg), upM_same]) (fun q o nq eq => ?_)).go (((hsl.mono e1).mono (s1.trans s2)).set j r2) h2 takes_no fun F3 H3 e3 h3 => ?_
    · have nD : q ≠ D := fun z => by rw [z, hDm] at eq; cases eq
      rw [upM_ne nD, upM_ne nq]
      exact eq
    · rw [upM_comm hDg, upM_upM] at h3
      exact iteF ⟨F3, (s1.trans s2).trans e3, h3⟩
  · have ei : i = items.length := by omega
    subst ei
    obtain ⟨F2, s2, h2, r2⟩ := lc_end (hDn _) L
    obtain ⟨F0, s0, hh0⟩ := id L.h
    exact .inl ⟨wk.stop _ F0 H' (s0.trans hh0.ex) (hG F0 H' _ s0 hh0 (hkp _ keepN)) (Nat.le_refl _), q F2 H' _ (e1.trans s2) h2 r2⟩
end
end L2.DL
set_option maxHeartbeats 4000000
namespace L2.DL
open PySem PySem.Spec PyProof.Rows
section
variable {X : Cx} {ρ : Rho} {μ μ1 μ2 : Mu} {a b : Expr}
/-- list(range(b)) -/
theorem ae_listRg1 {k : Nat} {p1 p2 q1 q2 : Pos} {j : Int} (g : Gd X k) (hl : X.mg "list" = none) (hr : X.mg "range" = none) (hb : AE X b ρ μ (.ok (.d (.int j)) μ2)) (ok : RgOk 0 j) (hg : Gl X "list" := by rfl) (hg2 : Gl X "range" := by rfl)
    (nb : starEach [b] X.env = (false, eval b X.env) :: starEach [] X.env := by rfl)
    (nc : starEach [.Call (.Name "range" q1) [b] [] q2] X.env = (false, eval (.Call (.Name "range" q1) [b] [] q2) X.env) :: starEach [] X.env := by rfl) : AE X (.Call (.Name "list" p1) [.Call (.Name "range" q1) [b] [] q2] [] p2) ρ μ (.ok (.d (.lst ((List.range j.toNat).map fun (n : Nat) => .int (n : Int)))) μ2) :=
  AE.of (pe_listRg g.calm hg hl (prg_1 hg2 hr pe_rd nb) nc) fun F H σ hs hh Q W tk q => hb.go hs hh tk fun F2 H2 u e2 h2 a2 => ⟨j, a2, ok, fun d hd => by
    have f0 := h2.fnone hd
    refine q (upd F2 d (.lst (rgV 0 j))) _ _ (e2.trans (same_new f0)) (h2.new hd) ⟨d, rgV 0 j, rfl, upd_same, ?_⟩
    have z : ∀ l : List Nat, Rps X.K (upd F2 d (.lst (rgV 0 j))) (l.map fun (n : Nat) => Dt.int (n : Int)) (l.map fun n => V.int (0 + (n : Nat))) := by
      intro l
      induction l with
      | nil => rfl
      | cons n l ih => exact ⟨_, _, rfl, congrArg V.int (Int.zero_add _), ih⟩
    have e : rgV 0 j = (List.range j.toNat).map fun n => V.int (0 + (n : Nat)) := by
      show (List.range (j - 0).toNat).map _ = _
      rw [Int.sub_zero]
    rw [e]
    rw [e] at z
    exact z _⟩
end
end L2.DL
set_option maxHeartbeats 4000000
/-! min(a list, key = a def of one's own). -/
namespace L2.DL
open PySem PySem.Spec PyProof.Rows
/-- which of two items has the lesser key -/
def ltKey (key : Dt → Dt) (ds : List Dt) (i j : Nat) : Bool := PySem.W.dataLt (py (key (ds.getD i .non))) (py (key (ds.getD j .non)))
def minKey (key : Dt → Dt) (ds : List Dt) : Dt := ds.getD (argBest (ltKey key ds) (ds.length - 1)) .non
theorem rps_at {K : PySem.W.Frag} {F : Hp} {ds : List Dt} {vs : List V} {i : Nat} {v : V} (h : Rps K F ds vs) (e : vs[i]? = some v) : Rp K F (ds.getD i .non) v := by
  obtain ⟨d, e2, r⟩ := h.get e
  rw [List.getD_eq_getElem?_getD, e2]
  exact r
theorem getD_mem {ds : List Dt} {i : Nat} (h : i < ds.length) : ds.getD i .non ∈ ds := by
  rw [List.getD_eq_getElem?_getD, List.getElem?_eq_getElem h]
  exact List.getElem_mem _
theorem best_lt {bt : Nat → Nat → Bool} : ∀ j, argBest bt j ≤ j
  | 0 => Nat.le_refl _
  | j + 1 => by
    have := best_lt (bt := bt) j
    simp only [argBest]
    split <;> omega
section
variable {X : Cx} {pins : List (Addr × Obj)} {σ : L2.St} {k : Nat} {f l it S : Addr} {fd : FuncData} {ps : List Str} {C : Ct} {ds : List Dt} {vs : List V} {key : Dt → Dt} {F1 : Hp} {μ : Mu} {R : Result → Shared → Prop} {kw : List (Str × Value)}
/-- the def's call, from within the loop -/
theorem mk_turn (G : FnG X.prog X.w X.K X.mg X.base k f fd ps (spOf X.K ps.length C)) (hps : ps.length = 1) (hb : Binds X.K fd ps []) (hr : Room k X.A.in1) (hgu : X.A.guards = some [])
    {d : Dt} (hC : C [.d d] μ (.ok (.d (key d)) μ)) {s : Shared} {H' F' : Hp} {v : V} {u : Value} {Q E : Value → Shared → Prop} (sm : Same F1 F') (hh : Holds X.K F' μ H') (I : Inv X pins σ H' s) (rv : RelV v u) (ra : Rp X.K F' d v)
    (hQ : ∀ s2 F2 H2 kv ku, Same F' F2 → Holds X.K F2 μ H2 → Inv X pins σ H2 s2 → Un (frs X.stack) [] H' H2 s.heap s2.heap → RelV kv ku → Rp X.K F2 (key d) kv → Q ku s2) : wpAny (model X.prog X.w) X.A.in1 (call (.ref f) [u]) Q E s := by
  have hb' := hb s [u] I.kIn (by rw [hps]; rfl)
  have hsp : spOf X.K ps.length C [v] H' (fun kv H2 => ∃ F2, Same F' F2 ∧ Holds X.K F2 μ H2 ∧ Rp X.K F2 (key d) kv) (fun _ _ _ => False) :=
    ⟨F', μ, [.d d], _, hh, hps.symm, ⟨v, [], rfl, ra, rfl⟩, hC, fun F2 H2 kv s2 h2 a2 => ⟨F2, s2, h2, a2⟩⟩
  refine wpAny_call (codeAny_mono (G.run X.A.in1 X.stack s H' ⟨[u], []⟩ ([u] ++ []) [v] _ _ hr hgu I.env0.in1 (by simpa using hb') (.cons rv .nil) hsp) ?_)
  intro r s' hq
  cases r with
  | error e =>
    obtain ⟨_, _, _, _, _, _, _, _, _, _, _, _, z⟩ := hq
    exact z.elim
  | ok fl =>
    cases fl with
    | ret ku =>
      obtain ⟨kv, H2, os, bare, un, hok, rk, F2, s2, h2, a2⟩ := hq
      exact hQ s' F2 H2 kv ku s2 h2 (I.call' os un hok bare (fun b y => absurd y List.not_mem_nil)) un rk a2
    | next => exact hq.elim
    | brk => exact hq.elim
    | cont => exact hq.elim
theorem mk_loop (G : FnG X.prog X.w X.K X.mg X.base k f fd ps (spOf X.K ps.length C)) (hps : ps.length = 1) (hb : Binds X.K fd ps []) (hr : Room k X.A.in1) (hgu : X.A.guards = some [])
    (hl : F1 l = some (.lst vs)) (rv : Rps X.K F1 ds vs) (hC : ∀ d ∈ ds, C [.d d] μ (.ok (.d (key d)) μ)) (hok : ∀ d ∈ ds, okD (key d) = true) (hal : ∀ d ∈ ds, ∀ e ∈ ds, PySem.W.alike (py (key d)) (py (key e)) = true) (hnn : ∀ d ∈ ds, py (key d) ≠ .none)
    (rI : FbM.Rec X pins it) (rS : FbM.Rec X pins S) (nIS : it ≠ S)
    (hR : ∀ F' H' v u s', Same F1 F' → Holds X.K F' μ H' → Inv X pins σ H' s' → RelV v u → Rp X.K F' (minKey key ds) v → R (.ok (.ret u)) s') :
    ∀ (m j : Nat) (s : Shared) (F' H' : Hp) (vb kb : V) (ub kub : Value) (c : Nat), ds.length - (j + 1) = m → j + 1 ≤ ds.length → Same F1 F' → Holds X.K F' μ H' → Inv X pins σ H' s → H' it = none → H' S = none → s.heap.IsListIter it l (j + 1) →
      RelV vb ub → Rp X.K F' (ds.getD (argBest (ltKey key ds) j) .non) vb → RelV kb kub → Rp X.K F' (key (ds.getD (argBest (ltKey key ds) j) .non)) kb → s.heap.get? S = some { cls := .type "list", dict := none, data := .seq #[ub, kub] c, slots := #[] } →
      codeAny (model X.prog X.w) X.A (.builtin "min.loop" ⟨[.ref it, .ref f, .ref S], kw⟩) R s := by
  have hname : (toString "min" ++ toString ".loop" : String) = "min.loop" := by decide
  have lenV := rv.length
  intro m
  induction m with
  | zero =>
    intro j s F' H' vb kb ub kub c hk hj sm hh I nI nS hit rb ab rk ak hS
    have hin : j + 1 = ds.length := by omega
    obtain ⟨its, rvs, pl, _⟩ := I.list (SqL.of (hh.ex _ _ (sm _ _ hl)))
    have hsz : its.length = ds.length := by rw [← rvs.length, lenV]
    refine codeAny_builtin F.entry_min_loop ?_
    rw [Around.under_plainId F.plain_min_loop _]
    show wpAny _ X.A.in1 (seqItems? (.ref S) >>= _) _ _ s
    refine wpAny_bind (wpAny_seqItems hS rfl ?_)
    show wpAny _ X.A.in1 (tryCatch (pyNext (.ref it)) _ >>= _) _ _ s
    refine wpAny_bind (wpAny_tryCatch (wpAny_pyNext_list_end (show X.A.in1.in1.handled = none from hr.hd) hit pl.isList (by simp [hsz, hin]) fun h' he => ?_))
    have hS' : h'.get? S = _ := he S _ (Ne.symm nIS) hS
    have I2 : Inv X pins σ H' { s with heap := h' } := rI.turn (t' := s.toks) I nI fun c o hc e => he c o hc e
    show wpAny _ X.A.in1 (updateSeq S (fun _ => #[]) >>= _) _ _ _
    refine wpAny_bind ?_
    refine wpAny_updateSeq hS' rfl (wpAny_bind (wpAny_letGo (wpAny_pure ?_)))
    have I3 : Inv X pins σ H' { s with heap := h'.update S (Obj.mapSeq fun _ => #[]) } := rS.turn (s := { s with heap := h' }) (t' := s.toks) I2 nS fun c o hc e => (Heap.get?_update_other _ _ (Ne.symm hc)).trans e
    refine hR F' H' vb ub _ sm hh I3 rb ?_
    unfold minKey
    rw [← hin]
    exact ab
  | succ m ih =>
    intro j s F' H' vb kb ub kub c hk hj sm hh I nI nS hit rb ab rk ak hS
    have hlt : j + 1 < ds.length := by omega
    obtain ⟨its, rvs, pl, _⟩ := I.list (SqL.of (hh.ex _ _ (sm _ _ hl)))
    obtain ⟨vx, hvx⟩ : ∃ v, vs[j + 1]? = some v := ⟨_, List.getElem?_eq_getElem (by omega)⟩
    obtain ⟨ux, hux, rx⟩ := rvs.get hvx
    have ax : Rp X.K F' (ds.getD (j + 1) .non) vx := Rp.mono sm (rps_at rv hvx)
    have memx := getD_mem hlt
    have memb := getD_mem (ds := ds) (Nat.lt_of_le_of_lt (best_lt (bt := ltKey key ds) j) (by omega : j < ds.length))
    refine codeAny_builtin F.entry_min_loop ?_
    rw [Around.under_plainId F.plain_min_loop _]
    show wpAny _ X.A.in1 (seqItems? (.ref S) >>= _) _ _ s
    refine wpAny_bind (wpAny_seqItems hS rfl ?_)
    show wpAny _ X.A.in1 (tryCatch (pyNext (.ref it)) _ >>= _) _ _ s
    refine wpAny_bind (wpAny_tryCatch (wpAny_pyNext_list_item hit pl.isList (x := ux) (by simpa using hux) fun h1 hit1 hs1 => ?_))
    have hS1 : h1.get? S = _ := hs1.extBut _ _ (Ne.symm nIS) hS
    have I1 : Inv X pins σ H' { s with heap := h1 } := rI.turn (t' := s.toks) I nI fun c o hc e => hs1.extBut c o hc e
    show wpAny _ X.A.in1 (tryCatch (holding [ux] (call (.ref f) [ux])) _ >>= _) _ _ _
    refine wpAny_bind (wpAny_tryCatch (wpAny_holding (mk_turn G hps hb hr hgu (hC _ memx) sm hh I1 rx ax fun s2 F2 H2 kv ku sm2 hh2 I2 un rkv akv => ?_)))
    obtain ⟨oi, hoi, hci, hdi⟩ := id hit1
    have hit2 : s2.heap.IsListIter it l (j + 1 + 1) := ⟨oi, un.keep _ _ hoi nI rI.fr List.not_mem_nil, hci, hdi⟩
    have hS2 := un.keep _ _ hS1 nS rS.fr List.not_mem_nil
    have nI2 : H2 it = none := un.free _ _ hoi nI List.not_mem_nil
    have nS2 : H2 S = none := un.free _ _ hS1 nS List.not_mem_nil
    obtain ⟨as, r1⟩ := Dp.reads I2 _ kv ku ((Rp.mono hh2.ex akv).dp (okD.plain (hok _ memx))) rkv
    obtain ⟨bs, r2⟩ := Dp.reads I2 _ kb kub ((Rp.mono hh2.ex (Rp.mono sm2 ak)).dp (okD.plain (hok _ memb))) rk
    show wpAny _ X.A.in1 (tryCatch (holding [ux, ku] (richCompare .Lt ku kub >>= _)) _ >>= _) _ _ _
    refine wpAny_bind (wpAny_tryCatch (wpAny_holding (wpAny_bind (PySem.W.rcLt_alike _ _ X.A.in1 s2 ku kub as bs r1 r2 (hal _ memx _ memb) (hnn _ memx) (by
      have h1 := Nat.le_trans (depth_py (key (ds.getD (j + 1) .non))) (of_decide_eq_true (Bool.and_eq_true_iff.mp (hok _ memx)).2)
      have h2 := hr.un
      have : min (py (key (ds.getD (j + 1) .non))).depth (py (key (ds.getD (argBest (ltKey key ds) j) .non))).depth ≤ (py (key (ds.getD (j + 1) .non))).depth := Nat.min_le_left _ _
      omega) _ _ _ _ ?_))))
    refine wpAny_bind (wpAny_holding (wpAny_truthy_bool ?_))
    refine wpAny_bind (wpAny_letGo (wpAny_pure ?_))
    cases hbt : PySem.W.dataLt (py (key (ds.getD (j + 1) .non))) (py (key (ds.getD (argBest (ltKey key ds) j) .non))) with
    | true =>
      have eb : argBest (ltKey key ds) (j + 1) = j + 1 := by
        simp only [argBest]
        exact if_pos hbt
      simp only [if_true]
      refine wpAny_bind ?_
      refine wpAny_updateSeq hS2 rfl (wpAny_bind (wpAny_letGo ?_))
      rw [hname]
      have I3 : Inv X pins σ H2 { s2 with heap := s2.heap.update S (Obj.mapSeq fun _ => #[ux, ku]) } := rS.turn (t' := s2.toks) I2 nS2 fun c o hc e => (Heap.get?_update_other _ _ (Ne.symm hc)).trans e
      obtain ⟨oi2, hoi2, hci2, hdi2⟩ := id hit2
      exact wpAny_pure ⟨plainId_quiet F.plain_min_loop _, ih (j + 1) _ F2 H2 vx kv ux ku _ (by omega) hlt (sm.trans sm2) hh2 I3 nI2 nS2 ⟨oi2, (Heap.get?_update_other _ _ (Ne.symm nIS)).trans hoi2, hci2, hdi2⟩ rx (by rw [eb]; exact Rp.mono sm2 ax) rkv (by rw [eb]; exact akv) (Heap.get?_update_self _ hS2 rfl)⟩
    | false =>
      have eb : argBest (ltKey key ds) (j + 1) = argBest (ltKey key ds) j := by
        simp only [argBest]
        exact if_neg (fun q => Bool.false_ne_true (hbt.symm.trans q))
      simp only [Bool.false_eq_true, if_false]
      refine wpAny_bind (wpAny_letGo ?_)
      rw [hname]
      exact wpAny_pure ⟨plainId_quiet F.plain_min_loop _, ih (j + 1) _ F2 H2 vb kb ub kub c (by omega) hlt (sm.trans sm2) hh2 I2 nI2 nS2 hit2 rb (by rw [eb]; exact Rp.mono sm2 ab) rk (by rw [eb]; exact Rp.mono sm2 ak) hS2⟩
/-- the first turn -/
theorem mk_first (G : FnG X.prog X.w X.K X.mg X.base k f fd ps (spOf X.K ps.length C)) (hps : ps.length = 1) (hb : Binds X.K fd ps []) (hr : Room k X.A.in1) (hgu : X.A.guards = some [])
    (hl : F1 l = some (.lst vs)) (rv : Rps X.K F1 ds vs) (hC : ∀ d ∈ ds, C [.d d] μ (.ok (.d (key d)) μ)) (hok : ∀ d ∈ ds, okD (key d) = true) (hal : ∀ d ∈ ds, ∀ e ∈ ds, PySem.W.alike (py (key d)) (py (key e)) = true) (hnn : ∀ d ∈ ds, py (key d) ≠ .none)
    (rI : FbM.Rec X pins it) (rS : FbM.Rec X pins S) (nIS : it ≠ S) (hne : 0 < ds.length)
    (hR : ∀ F' H' v u s', Same F1 F' → Holds X.K F' μ H' → Inv X pins σ H' s' → RelV v u → Rp X.K F' (minKey key ds) v → R (.ok (.ret u)) s')
    {s : Shared} {H' : Hp} {c : Nat} (hh : Holds X.K F1 μ H') (I : Inv X pins σ H' s) (nI : H' it = none) (nS : H' S = none) (hit : s.heap.IsListIter it l 0)
    (hS : s.heap.get? S = some { cls := .type "list", dict := none, data := .seq #[] c, slots := #[] }) : codeAny (model X.prog X.w) X.A (.builtin "min.loop" ⟨[.ref it, .ref f, .ref S], kw⟩) R s := by
  have hname : (toString "min" ++ toString ".loop" : String) = "min.loop" := by decide
  have lenV := rv.length
  obtain ⟨its, rvs, pl, _⟩ := I.list (SqL.of (hh.ex _ _ hl))
  obtain ⟨vx, hvx⟩ : ∃ v, vs[0]? = some v := ⟨_, List.getElem?_eq_getElem (by omega)⟩
  obtain ⟨ux, hux, rx⟩ := rvs.get hvx
  have ax : Rp X.K F1 (ds.getD 0 .non) vx := rps_at rv hvx
  have memx := getD_mem hne
  refine codeAny_builtin F.entry_min_loop ?_
  rw [Around.under_plainId F.plain_min_loop _]
  show wpAny _ X.A.in1 (seqItems? (.ref S) >>= _) _ _ s
  refine wpAny_bind (wpAny_seqItems hS rfl ?_)
  show wpAny _ X.A.in1 (tryCatch (pyNext (.ref it)) _ >>= _) _ _ s
  refine wpAny_bind (wpAny_tryCatch (wpAny_pyNext_list_item hit pl.isList (x := ux) (by simpa using hux) fun h1 hit1 hs1 => ?_))
  have hS1 : h1.get? S = _ := hs1.extBut _ _ (Ne.symm nIS) hS
  have I1 : Inv X pins σ H' { s with heap := h1 } := rI.turn (t' := s.toks) I nI fun c o hc e => hs1.extBut c o hc e
  show wpAny _ X.A.in1 (tryCatch (holding [ux] (call (.ref f) [ux])) _ >>= _) _ _ _
  refine wpAny_bind (wpAny_tryCatch (wpAny_holding (mk_turn G hps hb hr hgu (hC _ memx) (Same.refl _) hh I1 rx ax fun s2 F2 H2 kv ku sm2 hh2 I2 un rkv akv => ?_)))
  obtain ⟨oi, hoi, hci, hdi⟩ := id hit1
  have hoi2 := un.keep _ _ hoi nI rI.fr List.not_mem_nil
  have hS2 := un.keep _ _ hS1 nS rS.fr List.not_mem_nil
  have nI2 : H2 it = none := un.free _ _ hoi nI List.not_mem_nil
  have nS2 : H2 S = none := un.free _ _ hS1 nS List.not_mem_nil
  show wpAny _ X.A.in1 (updateSeq S (fun _ => #[ux, ku]) >>= _) _ _ _
  refine wpAny_bind ?_
  refine wpAny_updateSeq hS2 rfl ?_
  rw [hname]
  have I3 : Inv X pins σ H2 { s2 with heap := s2.heap.update S (Obj.mapSeq fun _ => #[ux, ku]) } := rS.turn (t' := s2.toks) I2 nS2 fun c o hc e => (Heap.get?_update_other _ _ (Ne.symm hc)).trans e
  exact wpAny_pure ⟨plainId_quiet F.plain_min_loop _, mk_loop G hps hb hr hgu hl rv hC hok hal hnn rI rS nIS hR _ 0 _ F2 H2 vx kv ux ku _ rfl hne sm2 hh2 I3 nI2 nS2 ⟨oi, (Heap.get?_update_other _ _ (Ne.symm nIS)).trans hoi2, hci, hdi⟩ rx (Rp.mono sm2 ax) rkv akv (Heap.get?_update_self _ hS2 rfl)⟩
/-- min(l, key=f) -/
theorem mk_call (G : FnG X.prog X.w X.K X.mg X.base k f fd ps (spOf X.K ps.length C)) (hps : ps.length = 1) (hb : Binds X.K fd ps []) (hr : Room k X.A.in1) (hgu : X.A.guards = some [])
    (hl : F1 l = some (.lst vs)) (rv : Rps X.K F1 ds vs) (hC : ∀ d ∈ ds, C [.d d] μ (.ok (.d (key d)) μ)) (hok : ∀ d ∈ ds, okD (key d) = true) (hal : ∀ d ∈ ds, ∀ e ∈ ds, PySem.W.alike (py (key d)) (py (key e)) = true) (hnn : ∀ d ∈ ds, py (key d) ≠ .none) (hne : 0 < ds.length)
    {Q : Value → Shared → Prop} {E : Value → Shared → Prop} (hR : ∀ F' H' v u s', Same F1 F' → Holds X.K F' μ H' → Inv X pins σ H' s' → RelV v u → Rp X.K F' (minKey key ds) v → Q u s')
    {s : Shared} {H' : Hp} (hh : Holds X.K F1 μ H') (I : Inv X pins σ H' s) : wpAny (model X.prog X.w) X.A (call (.builtin "min") [.ref l] [(Str.ofString "key", .ref f)]) Q E s := by
  have hname : (toString "min" ++ toString ".loop" : String) = "min.loop" := by decide
  obtain ⟨its, rvs, pl, _⟩ := I.list (SqL.of (hh.ex _ _ hl))
  refine PyProof.Rows.kmk_tree F.kind_min F.plain_min F.entry_min (PyProof.Rows.kmk_min_key _ _) ?_
  show wpAny _ X.A.in1 (Builtin.Builtins.bindParams "min" ["key", "default"] 0 ⟨[], [(Str.ofString "key", .ref f)]⟩ >>= _) _ _ s
  refine wpAny_bind (wpAny_of_eq (show Builtin.Builtins.bindParams "min" ["key", "default"] 0 ⟨[], [(Str.ofString "key", .ref f)]⟩ = pure [some (.ref f), none] from rfl) ?_)
  refine wpAny_bind (wpAny_pure ?_)
  refine wpAny_bind (wpAny_pyIter_list pl.isList ?_)
  refine wpAny_bind (wpAny_newObj_type ?_)
  rw [hname]
  have I1 : Inv X pins σ H' { s with heap := s.heap.push { cls := .type "list_iterator", data := .fields #[.ref l, .int 0 0] } } := I.kept (t' := s.toks) fun b o e => Heap.get?_push_of_some _ e
  have I2 : Inv X pins σ H' { s with heap := (s.heap.push { cls := .type "list_iterator", data := .fields #[.ref l, .int 0 0] }).push { cls := .type "list", data := .seq #[] 0 } } := I1.kept (t' := s.toks) fun b o e => Heap.get?_push_of_some _ e
  have ri := FbM.rec_new I (Nat.le_refl _)
  have rS := FbM.rec_new I1 (Nat.le_refl _)
  have ui : H' s.heap.objs.size = none := I.hok.fresh (Nat.le_refl _)
  have uS : H' (s.heap.push { cls := .type "list_iterator", data := .fields #[.ref l, .int 0 0] }).objs.size = none := I1.hok.fresh (Nat.le_refl _)
  have lt : s.heap.objs.size < (s.heap.push { cls := .type "list_iterator", data := .fields #[.ref l, .int 0 0] }).objs.size := Heap.lt_size (Heap.get?_push_size _ rfl)
  exact wpAny_pure ⟨plainId_quiet F.plain_min_loop _, mk_first G hps hb hr hgu hl rv hC hok hal hnn ri rS (Nat.ne_of_lt lt) hne hR hh I2 ui uS ⟨_, Heap.get?_push_of_some _ (Heap.get?_push_size _ rfl), rfl, rfl⟩ (Heap.get?_push_size _ rfl)⟩
end
/-- what min(l, key=f) asks -/
def rMinK (X : Cx) (k : Nat) (f : Addr) (fd : FuncData) (ps : List Str) (C : Ct) : List V → List V → Hp → VK → Prop := fun xs zs H Q => ∃ (F1 : Hp) (μ : Mu) (l : Addr) (vs : List V) (ds : List Dt) (key : Dt → Dt), xs = [.ref l] ∧ zs = [.ref f] ∧ F1 l = some (.lst vs) ∧ Rps X.K F1 ds vs ∧ Holds X.K F1 μ H ∧ 0 < ds.length ∧
  (∀ d ∈ ds, C [.d d] μ (.ok (.d (key d)) μ)) ∧ (∀ d ∈ ds, okD (key d) = true) ∧ (∀ d ∈ ds, ∀ e ∈ ds, PySem.W.alike (py (key d)) (py (key e)) = true) ∧ (∀ d ∈ ds, py (key d) ≠ .none) ∧ ∀ F' H' v, Same F1 F' → Holds X.K F' μ H' → Rp X.K F' (minKey key ds) v → Q v H'
theorem cr_minK {X : Cx} {k : Nat} {f : Addr} {fd : FuncData} {ps : List Str} {C : Ct} (G : FnG X.prog X.w X.K X.mg X.base k f fd ps (spOf X.K ps.length C)) (hps : ps.length = 1) (hb : Binds X.K fd ps []) (hr : Room k X.A.in1) (hgu : X.A.guards = some []) : CallRK X (.builtin "min") [Str.ofString "key"] (rMinK X k f fd ps C) := by
  intro pins s σ H xs zs us ws Q I rx rz h
  obtain ⟨F1, μ, l, vs, ds, key, rfl, rfl, hl, rv, hh, hne, hC, hok, hal, hnn, q⟩ := h
  obtain ⟨u, rfl, ru⟩ : ∃ u, us = [u] ∧ RelV (.ref l) u := by
    cases rx with
    | cons a h => cases h; exact ⟨_, rfl, a⟩
  obtain ⟨w, rfl, rw'⟩ : ∃ w, ws = [w] ∧ RelV (.ref f) w := by
    cases rz with
    | cons a h => cases h; exact ⟨_, rfl, a⟩
  cases (show u = Value.ref l from ru)
  cases (show w = Value.ref f from rw')
  exact mk_call G hps hb hr hgu hl rv hC hok hal hnn hne (fun F' H' v u s' sm h' I' r a => ⟨v, H', I', r, q F' H' v sm h' a⟩) hh I
section
variable {X : Cx} {ρ : Rho} {μ μ1 : Mu} {a : Expr} {pos p p2 kp : Pos} {n : Str} {st : Stmt} {k j : Nat} {ps : List Str} {C : Ct} {ds : List Dt} {key : Dt → Dt}
/-- min(a, key=n) -/
theorem ae_minKey (G : Fo X.prog X.w X.K X.mg X.base n st k ps C) (g : Gd X j) (hm : X.mg "min" = none) (ha : AE X a ρ μ (.ok (.d (.lst ds)) μ1)) (hne : 0 < ds.length)
    (hC : ∀ d ∈ ds, C [.d d] μ1 (.ok (.d (key d)) μ1)) (hok : ∀ d ∈ ds, okD (key d) = true) (hal : ∀ d ∈ ds, ∀ e ∈ ds, PySem.W.alike (py (key d)) (py (key e)) = true) (hnn : ∀ d ∈ ds, py (key d) ≠ .none)
    (hps : ps.length = 1 := by rfl) (hjk : k + 1 ≤ j := by decide) (hg : Gl X n := by rfl) (hgm : Gl X "min" := by rfl) (hdb : (n == ("__debug__" : Str)) = false := by decide)
    (hsa : starEach [a] X.env = (false, eval a X.env) :: starEach [] X.env := by rfl)
    (he : backTo pos (starEach [a] X.env) = (false, eval a X.env) :: backTo pos (starEach [] X.env) := by rfl) (hpl : (backTo pos (starEach [a] X.env)).any (·.1) = false := by rfl)
    (hall : (backToKw pos (keywordEach [⟨some "key", .Name n p2, kp⟩] X.env)).all (·.1.isSome) = true := by rfl) (hnone : (backToKw pos (keywordEach [⟨some "key", .Name n p2, kp⟩] X.env)).any (·.1.isNone) = false := by rfl) (hks : (backToKw pos (keywordEach [⟨some "key", .Name n p2, kp⟩] X.env)).filterMap (·.1) = [Str.ofString "key"] := by rfl) :
    AE X (.Call (.Name "min" p) [a] [⟨some "key", .Name n p2, kp⟩] pos) ρ μ (.ok (.d (minKey key ds)) μ1) := by
  obtain ⟨f, fd, F, hmf, G, b⟩ := G.ex
  have hr : Room (k + 1) X.A := g.hr.mono hjk
  have ak : AK X [⟨some "key", .Name n p2, kp⟩] ρ μ1 (.ok [.d (.opq (.ref f))] μ1) := ak_cons (ae_cls hmf hg hdb) ak_nil
  refine AE.of (pe_callBK (cr_minK G hps b hr.in1 g.gu) hgm hm PyProof.Rows.Boot.min pa_rd pk_rd (by decide) (by decide) he hpl hall hnone hks) fun F0 H σ hs hh Q W tk q => (aa_cons ha aa_nil hsa).go hs hh tk fun F1 H1 vs e1 h1 a1 => ak.go (hs.mono e1) h1 tk fun F2 H2 zs e2 h2 a2 => ?_
  obtain ⟨v, ev, av⟩ := avs1 a1
  obtain ⟨l, us, el, hl, rl⟩ := av
  obtain ⟨z, ez, az⟩ := avs1 a2
  exact ⟨F2, μ1, l, us, ds, key, by rw [ev, el], by rw [ez, show z = _ from az], e2 _ _ hl, Rps.mono e2 rl, h2, hne, hC, hok, hal, hnn, fun F' H' v sm h' a' => q F' H' v ((e1.trans e2).trans sm) h' a'⟩
end
end L2.DL
set_option maxHeartbeats 4000000
namespace L2.DL
open PySem PySem.Spec PyProof.Rows
section
variable {X : Cx} {ρ : Rho} {μ μ1 : Mu} {n m : Str} {p pos : Pos} {k : Nat} {iter elt c : Expr} {scope : Scope}
/-- y = [elt for n in iter if c] on one line, kept as it is -/
theorem as_setLcI {i j : Nat} {y : Str} {py spos : Pos} {x : AV} {R : Rs} (g : Gd X k) (h : LcR X n p iter j (rdBT X scope c) (rdBE X scope elt) ρ μ (.ok x μ1)) (hn : R.nx (ρ.set i (some x)) μ1) (hy : X.N[i]? = some y := by rfl) (hyl : X.env.scope.names.lookup y = some .local := by rfl)
    (hsw : swapsWith (.ListComp elt [⟨.Name n p, iter, [c], 0⟩] scope pos) (some (.Name y py)) spos.line X.env = pure true := by exact sw_true rfl rfl rfl (by rfl))
    (ok : BlkOk X.N X.env.scope scope [(n, j)] := by exact blkOk_by (by first | kernel_rfl | rfl | decide +kernel)) (hi : X.N[j]? = some n := by rfl) (hx : ∀ cl C, Loc (compEnvC scope cl C X.env).scope n := by first | exact fun _ _ => Or.inl rfl | exact fun _ _ => Or.inr rfl)
    (hf : ∀ (s : Shared) (H : Hp) (C : Addr) (cl : List (Str × Addr)) (fp : List Addr), (Bk X scope s H C cl fp).fn n = true ∨ (compEnvC scope cl C X.env).scope.names.lookup n = some .local := by first | exact fun _ _ _ _ _ => .inl rfl | exact fun _ _ _ _ _ => .inr rfl)
    (hfo : ∀ x, foldedSetIterable iter X.env x = pure x := by intro _; rfl) : AS1 X (.Assign [.Name y py] (.ListComp elt [⟨.Name n p, iter, [c], 0⟩] scope pos) spos) ρ μ R := by
  obtain ⟨wi, hpi, h⟩ := h
  exact AS1.of (ps_setLc (own := [(n, j)]) (g := gName j) (tt := rdBT X scope c) g.calm g.nd hy hyl hsw hpi ok (fun s H C cl fp => pg_name g.nd hi (hx cl C) (hf s H C cl fp)) (fun s H C cl fp => pts_one (pt_bk s H C cl fp)) (fun s H C cl fp => pe_bk s H C cl fp) hfo) fun F H σ hs hh Ds W tk q =>
    h F H σ hs hh _ W tk fun F1 H1 v e1 h1 a1 => q.nx F1 H1 _ _ _ e1 hn ((hs.mono e1).set i a1) h1
end
end L2.DL
set_option maxHeartbeats 4000000
namespace L2.DL
open PySem PySem.Spec PyProof.Rows
/-! <= of data that are alike -/
def rLeD (K : PySem.W.Frag) : R2 := fun x y H Q => ∃ d e, Dp K H x d ∧ Dp K H y e ∧ PySem.W.alike d e = true ∧ d ≠ .none ∧ d.depth ≤ 60 ∧ Q (.bl (!PySem.W.dataLt e d)) H
theorem op_leD {X : Cx} (hu : X.A.units + 64 < cLine) : OpR X (compareOp .LtE) (rLeD X.K) := by
  intro pins s σ H x y v u Q I rx ry h
  obtain ⟨d, e, hd, he, ha, hn, hdep, q⟩ := h
  obtain ⟨as, r1⟩ := Dp.reads I d x v hd rx
  obtain ⟨bs, r2⟩ := Dp.reads I e y u he ry
  exact PySem.W.rcLe_alike d e X.A s v u as bs r1 r2 ha hn (by
    have : min d.depth e.depth ≤ d.depth := Nat.min_le_left _ _
    omega) _ _ _ _ ⟨.bl _, H, I, rfl, q⟩
section
variable {K : PySem.W.Frag} {μ : Mu}
theorem br_leD {x y : Dt} (hx : okD x = true) (hy : okD y = true) (ha : PySem.W.alike (py x) (py y) = true) (hn : py x ≠ .none) : BR K (rLeD K) (.d x) (.d y) μ (.d (.bl (!PySem.W.dataLt (py y) (py x)))) μ :=
  br_val fun F H u v hh a1 a2 => ⟨.bl (!PySem.W.dataLt (py y) (py x)), rfl, fun Q q => ⟨py x, py y, (Rp.mono hh.ex a1).dp (okD.plain hx), (Rp.mono hh.ex a2).dp (okD.plain hy), ha, hn, Nat.le_trans (depth_py x) (of_decide_eq_true (Bool.and_eq_true_iff.mp hx).2), q⟩⟩
end
end L2.DL
set_option maxHeartbeats 4000000
namespace L2.DL
open PySem PySem.Spec PyProof.Rows
section
variable {X : Cx} {ρ : Rho} {μ μ1 : Mu} {e a : Expr} {pos : Pos} {cl : Addr} {d : Dt}
/-! tests that raise -/
theorem at_valX (h : AE X e ρ μ (.exc cl d μ1)) (he : ∀ whole, isTrue e X.env whole = (do let v ← whole; standAt e.pos; holding [v] (truthy v)) := by intro _; rfl) : AT X e ρ μ (.exc cl d μ1) :=
  AT.of (pt_val pe_rd he) fun F H σ hs hh Q W tk q => h.goX hs hh tk q
theorem at_notX (h : AT X a ρ μ (.exc cl d μ1)) : AT X (.UnaryOp .Not a pos) ρ μ (.exc cl d μ1) := AT.of (pt_not pt_rd) fun F H σ hs hh Q W tk q => h F H σ hs hh _ W tk q
/-- a, b, c = e, e a tuple of three -/
theorem as_unp3 {k : Nat} {i j l : Nat} {n m n3 : Str} {p1 p2 p3 pt : Pos} {kt : Nat} {d1 d2 d3 : Dt} {R : Rs} (g : Gd X k) (he : AE X e ρ μ (.ok (.d (.tup [d1, d2, d3])) μ1)) (h : R.nx (((ρ.set i (some (.d d1))).set j (some (.d d2))).set l (some (.d d3))) μ1)
    (hi : X.N[i]? = some n := by rfl) (hx : Loc X.env.scope n := by first | exact Or.inl rfl | exact Or.inr rfl) (hj : X.N[j]? = some m := by rfl) (hx2 : Loc X.env.scope m := by first | exact Or.inl rfl | exact Or.inr rfl)
    (hl : X.N[l]? = some n3 := by rfl) (hx3 : Loc X.env.scope n3 := by first | exact Or.inl rfl | exact Or.inr rfl)
    (hf : X.fn n = true ∨ X.env.scope.names.lookup n = some .local := by first | exact .inl rfl | exact .inr rfl) (hf2 : X.fn m = true ∨ X.env.scope.names.lookup m = some .local := by first | exact .inl rfl | exact .inr rfl)
    (hf3 : X.fn n3 = true ∨ X.env.scope.names.lookup n3 = some .local := by first | exact .inl rfl | exact .inr rfl)
    (hs : swapsWithSole [.Tuple [.Name n p1, .Name m p2, .Name n3 p3] kt pt] e pos.line X.env = pure false := by rfl) (hw : swappedStores [.Tuple [.Name n p1, .Name m p2, .Name n3 p3] kt pt] e X.env = pure none := by rfl)
    (h1 : (assignEach [.Tuple [.Name n p1, .Name m p2, .Name n3 p3] kt pt] X.env).map (·.2) = [assign (.Tuple [.Name n p1, .Name m p2, .Name n3 p3] kt pt) X.env] := by rfl) : AS1 X (.Assign [.Tuple [.Name n p1, .Name m p2, .Name n3 p3] kt pt] e pos) ρ μ R :=
  AS1.of (ps_asg pe_rd (pg_tup g.calm (pgs_cons (pg_name g.nd hi hx hf) (pgs_cons (pg_name g.nd hj hx2 hf2) (pgs_cons (pg_name g.nd hl hx3 hf3) pgs_nil)))) hs hw h1) fun F H σ hsl hh Ds W tk q => he.go hsl hh tk fun F1 H1 v e1 h1 a1 => by
    obtain ⟨t, us, et, ht, rt⟩ := a1
    obtain ⟨v1, r1, q1, ra, rb⟩ := rt
    obtain ⟨v2, r2, q2, rc, rd⟩ := rb
    obtain ⟨v3, r3, q3, re, rf⟩ := rd
    have z3 : r3 = [] := rf
    exact ⟨t, us, et, sqt_mono h1.ex ht, by rw [q1, q2, q3, z3]; rfl, v1, r1, q1, v2, r2, q2, v3, r3, q3, z3, q.nx F1 H1 _ _ _ e1 h ((((hsl.mono e1).set i (show Av X.K F1 (.d d1) v1 from ra)).set j (show Av X.K F1 (.d d2) v2 from rc)).set l (show Av X.K F1 (.d d3) v3 from re)) h1⟩
end
/-! keywords in another order -/
def rotL : {α : Type} → List α → List α
  | _, [a, b, c] => [b, c, a]
  | _, l => l
theorem rotL_vals {vs : List V} {ws : List Value} (h : Vals vs ws) : Vals (rotL vs) (rotL ws) := by
  cases h with
  | nil => exact .nil
  | cons a h =>
    cases h with
    | nil => exact .cons a .nil
    | cons b h =>
      cases h with
      | nil => exact .cons a (.cons b .nil)
      | cons c h =>
        cases h with
        | nil => exact .cons b (.cons c (.cons a .nil))
        | cons d h => exact .cons a (.cons b (.cons c (.cons d h)))
theorem rotL_avs {K : PySem.W.Frag} {F : Hp} {x y z : AV} {vs : List V} (h : Avs K F [x, y, z] vs) : Avs K F (rotL [x, y, z]) (rotL vs) := by
  obtain ⟨v, r, e, h1, h2⟩ := h
  obtain ⟨u, t, e2, h3⟩ := avs2 h2
  subst e e2
  exact ⟨u, _, rfl, h3.1, t, _, rfl, h3.2, v, _, rfl, h1, rfl⟩
def rotR : {α : Type} → List α → List α
  | _, [a, b, c] => [c, a, b]
  | _, l => l
theorem rotR_vals {vs : List V} {ws : List Value} (h : Vals vs ws) : Vals (rotR vs) (rotR ws) := by
  cases h with
  | nil => exact .nil
  | cons a h =>
    cases h with
    | nil => exact .cons a .nil
    | cons b h =>
      cases h with
      | nil => exact .cons a (.cons b .nil)
      | cons c h =>
        cases h with
        | nil => exact .cons c (.cons a (.cons b .nil))
        | cons d h => exact .cons a (.cons b (.cons c (.cons d h)))
theorem rotR_avs {K : PySem.W.Frag} {F : Hp} {x y z : AV} {vs : List V} (h : Avs K F [x, y, z] vs) : Avs K F (rotR [x, y, z]) (rotR vs) := by
  obtain ⟨v, r, e, h1, h2⟩ := h
  obtain ⟨u, t, e2, h3⟩ := avs2 h2
  subst e e2
  exact ⟨t, _, rfl, h3.2, v, _, rfl, h1, u, _, rfl, h3.1, rfl⟩
end L2.DL
set_option maxHeartbeats 4000000
namespace L2.DL
open PySem PySem.Spec PyProof.Rows
section
variable {X : Cx} {ρ : Rho} {μ : Mu} {R : Rs} {st : Stmt} {sts : List Stmt}
/-- a statement, and what holds behind it -/
theorem as_seq {Q : Rho → Mu → Prop} (h : AS1 X st ρ μ { R with nx := Q }) (h2 : ∀ ρ' μ', Q ρ' μ' → AS X sts ρ' μ' R) : AS X (st :: sts) ρ μ R := fun F H σ hs hh Ds W tk q pins s I =>
  (pss_cons ps_rd pss_rd).run pins s σ H Ds I (h F H σ hs hh { Ds with nx := rdS X sts Ds } W tk
    ⟨fun F' H' σ' ρ' μ' e1 n hs' hh' => h2 ρ' μ' n F' H' σ' hs' hh' Ds W tk (q.mono e1), q.rt, q.bk, q.ct, q.ex⟩)
end
end L2.DL
set_option maxHeartbeats 4000000
namespace L2.DL
open PySem PySem.Spec PyProof.Rows
section
variable {X : Cx} {ρ : Rho} {μ μ1 μ' : Mu} {e : Expr} {q : Addr} {ds : List Dt}
/-- a list of one's own, changed no more -/
theorem ae_frz (h : AE X e ρ μ (.ok (.l q) μ1)) (m : μ1 q = some (.lst (ds.map AV.d))) (s : SubM μ' μ1) (n : μ' q = none) : AE X e ρ μ (.ok (.d (.lst ds)) μ') := fun F H σ hs hh Q W tk qq => h F H σ hs hh Q W tk fun F1 H1 v s1 h1 a1 => by
  obtain ⟨F2, s2, h2, r2⟩ := h1.freeze (μ' := μ') m (fun r u e => ⟨s r u e, fun z => by rw [z, n] at e; cases e⟩)
  have ev : v = V.ref q := a1
  rw [ev]
  exact qq F2 H1 _ (s1.trans s2) h2 r2
end
end L2.DL
set_option maxHeartbeats 4000000
namespace L2.DL
open PySem PySem.Spec PyProof.Rows
section
variable {X : Cx} {ρ : Rho} {μ : Mu} {o : ERes} {n : Str} {p pos : Pos} {k : Nat} {iter elt c : Expr} {scope : Scope}
/-- a comprehension as an expression -/
theorem ae_lcr (g : Gd X k) (j : Nat) (h : LcR X n p iter j tYes (rdBE X scope elt) ρ μ o)
    (ok : BlkOk X.N X.env.scope scope [(n, j)] := by exact blkOk_by (by first | kernel_rfl | rfl | decide +kernel)) (hi : X.N[j]? = some n := by rfl) (hx : ∀ cl C, Loc (compEnvC scope cl C X.env).scope n := by first | exact fun _ _ => Or.inl rfl | exact fun _ _ => Or.inr rfl)
    (hf : ∀ (s : Shared) (H : Hp) (C : Addr) (cl : List (Str × Addr)) (fp : List Addr), (Bk X scope s H C cl fp).fn n = true ∨ (compEnvC scope cl C X.env).scope.names.lookup n = some .local := by first | exact fun _ _ _ _ _ => .inl rfl | exact fun _ _ _ _ _ => .inr rfl)
    (hfo : ∀ x, foldedSetIterable iter X.env x = pure x := by intro _; rfl) : AE X (.ListComp elt [⟨.Name n p, iter, [], 0⟩] scope pos) ρ μ o := by
  obtain ⟨wi, hpi, h⟩ := h
  exact AE.of (pe_lc (own := [(n, j)]) (g := gName j) (tt := tYes) g.calm g.nd hpi ok (fun s H C cl fp => pg_name g.nd hi (hx cl C) (hf s H C cl fp)) (fun _ _ _ _ _ => pts_nil) (fun s H C cl fp => pe_bk s H C cl fp) hfo) fun F H σ hs hh Q W tk q => h F H σ hs hh Q W tk q
/-- the same with a test -/
theorem ae_lcrI (g : Gd X k) (j : Nat) (h : LcR X n p iter j (rdBT X scope c) (rdBE X scope elt) ρ μ o)
    (ok : BlkOk X.N X.env.scope scope [(n, j)] := by exact blkOk_by (by first | kernel_rfl | rfl | decide +kernel)) (hi : X.N[j]? = some n := by rfl) (hx : ∀ cl C, Loc (compEnvC scope cl C X.env).scope n := by first | exact fun _ _ => Or.inl rfl | exact fun _ _ => Or.inr rfl)
    (hf : ∀ (s : Shared) (H : Hp) (C : Addr) (cl : List (Str × Addr)) (fp : List Addr), (Bk X scope s H C cl fp).fn n = true ∨ (compEnvC scope cl C X.env).scope.names.lookup n = some .local := by first | exact fun _ _ _ _ _ => .inl rfl | exact fun _ _ _ _ _ => .inr rfl)
    (hfo : ∀ x, foldedSetIterable iter X.env x = pure x := by intro _; rfl) : AE X (.ListComp elt [⟨.Name n p, iter, [c], 0⟩] scope pos) ρ μ o := by
  obtain ⟨wi, hpi, h⟩ := h
  exact AE.of (pe_lc (own := [(n, j)]) (g := gName j) (tt := rdBT X scope c) g.calm g.nd hpi ok (fun s H C cl fp => pg_name g.nd hi (hx cl C) (hf s H C cl fp)) (fun s H C cl fp => pts_one (pt_bk s H C cl fp)) (fun s H C cl fp => pe_bk s H C cl fp) hfo) fun F H σ hs hh Q W tk q => h F H σ hs hh Q W tk q
end
end L2.DL
set_option maxHeartbeats 4000000
namespace L2.DL
open PySem PySem.Spec PyProof.Rows
/-! min and max of two that are alike -/
theorem pair_at {α : Type} {a b v : α} {i : Nat} (h : #[a, b][i]? = some v) : (i = 0 ∧ v = a) ∨ (i = 1 ∧ v = b) := by
  match i, h with
  | 0, h => exact .inl ⟨rfl, by simpa using h.symm⟩
  | 1, h => exact .inr ⟨rfl, by simpa using h.symm⟩
  | i + 2, h => simp at h
def pickP (d e : PyData) (i : Nat) : PyData := if i = 0 then d else e
theorem min2_data {prog : Program} {w : World} {A : Around} {E : Value → Shared → Prop} {s : Shared} {a b : Value} {d e : PyData} {as bs : List Addr} {Q : Value → Shared → Prop} (hd : A.handled = none) (r1 : Reads s.heap a d as) (r2 : Reads s.heap b e bs)
    (al : ∀ i j, PySem.W.alike (pickP d e i) (pickP d e j) = true) (nn : ∀ i, pickP d e i ≠ .none) (dep : A.units + 1 + max d.depth e.depth < cLine)
    (hq : ∀ (h' : Heap) (tk : Nat), (∀ (c : Addr) (o : Obj), s.heap.get? c = some o → h'.get? c = some o) → Q (if PySem.W.dataLt e d = true then b else a) { heap := h', gens := s.gens, drawn := s.drawn, toks := tk, os := s.os }) :
    wpAny (model prog w) A (call (.builtin "min") [a, b]) Q E s := by
  have hname : (toString "min" ++ toString ".loop" : String) = "min.loop" := by decide
  refine PyProof.Rows.kmk_tree F.kind_min F.plain_min F.entry_min (F.args_min2 _ _) ?_
  show wpAny _ A.in1 (Builtin.Builtins.bindParams "min" ["key", "default"] 0 ⟨[], []⟩ >>= _) _ _ s
  refine wpAny_bind (wpAny_of_eq (show Builtin.Builtins.bindParams "min" ["key", "default"] 0 ⟨[], []⟩ = pure [none, none] from rfl) ?_)
  refine wpAny_bind ?_
  refine wpAny_newObj_type ?_
  have ht : ({ heap := s.heap.push { cls := .type "tuple", data := .seq #[a, b] }, gens := s.gens, drawn := s.drawn, toks := s.toks, os := s.os } : Shared).heap.IsTuple s.heap.objs.size #[a, b] := ⟨_, Heap.get?_push_size _ rfl, rfl, ⟨_, rfl⟩⟩
  refine wpAny_bind (PySem.W.iter_tupleW (show A.in1.handled = none from hd) ht fun s2 es2 wk st0 lt fr keep => ?_)
  refine wpAny_bind ?_
  refine wpAny_newObj_type ?_
  rw [hname]
  have keep0 : ∀ (c : Addr) (o : Obj), s.heap.get? c = some o → s2.heap.get? c = some o := fun c o h => keep c o (Heap.get?_push_of_some _ h)
  have keep1 : ∀ (c : Addr) (o : Obj), s.heap.get? c = some o → (s2.heap.push { cls := .type "list", data := .seq #[] }).get? c = some o := fun c o h => Heap.get?_push_of_some _ (keep0 c o h)
  have cmp : CmpIn prog w A.in1 .Lt s.heap (fun i v => #[a, b][i]? = some v) (fun i j => PySem.W.dataLt (pickP d e i) (pickP d e j)) := by
    intro i j vi vj s' Q' E' hk hi hj q
    have rd : ∀ {i : Nat} {v : Value}, #[a, b][i]? = some v → ∃ xs, Reads s'.heap v (pickP d e i) xs := fun {i v} h => by
      rcases pair_at h with ⟨rfl, rfl⟩ | ⟨rfl, rfl⟩
      · exact ⟨as, PySem.W.reads_keeps hk r1⟩
      · exact ⟨bs, PySem.W.reads_keeps hk r2⟩
    obtain ⟨xs, h1⟩ := rd hi
    obtain ⟨ys, h2⟩ := rd hj
    have dp : ∀ i, (pickP d e i).depth ≤ max d.depth e.depth := fun i => by
      unfold pickP
      split
      · exact Nat.le_max_left _ _
      · exact Nat.le_max_right _ _
    exact PySem.W.rcLt_alike _ _ A.in1 s' vi vj xs ys h1 h2 (al i j) (nn i) (by
      have h3 := dp i
      have h4 : min (pickP d e i).depth (pickP d e j).depth ≤ (pickP d e i).depth := Nat.min_le_left _ _
      have h5 : A.in1.units = A.units + 1 := rfl
      omega) _ _ _ _ q
  have frS : s.heap.get? s2.heap.objs.size = none := by
    cases h : s.heap.get? s2.heap.objs.size with
    | none => rfl
    | some o => exact absurd (Heap.lt_size (keep0 _ _ h)) (Nat.lt_irrefl _)
  have st1 := wk.frame 0 s2 (s2.heap.push { cls := .type "list", data := .seq #[] }) s2.toks st0 (Nat.le_refl _) fun b _ o h => Heap.get?_push_of_some _ h
  refine wpAny_pure ⟨plainId_quiet F.plain_min_loop _, codeAny_min_loop_firstH wk s.heap (fun c o h => fr c o (Heap.get?_push_of_some _ h)) _ cmp s2.heap.objs.size (fun h => Nat.lt_irrefl _ (lt _ h)) frS _ (show 0 < 2 by decide) keep1 st1 (Heap.get?_push_size _ rfl) fun v s' hv mv => ?_⟩
  have kp : ∀ (c : Addr) (o : Obj), s.heap.get? c = some o → s'.heap.get? c = some o := fun c o h => mv.heap c o (fun hm => by
    rcases List.mem_cons.mp hm with q | q
    · rw [q, frS] at h; cases h
    · exact fr c o (Heap.get?_push_of_some _ h) q) (keep1 c o h)
  have eg : s'.gens = s.gens := by
    have := mv.gens
    rw [es2] at this
    exact this
  have ed : s'.drawn = s.drawn := by
    have := mv.drawn
    rw [es2] at this
    exact this
  have eo : s'.os = s.os := by
    have := mv.os
    rw [es2] at this
    exact this
  have ev : v = if PySem.W.dataLt e d = true then b else a := by
    have hb : argBest (fun i j => PySem.W.dataLt (pickP d e i) (pickP d e j)) (2 - 1) = if PySem.W.dataLt e d = true then 1 else 0 := rfl
    have hv2 : #[a, b][argBest (fun i j => PySem.W.dataLt (pickP d e i) (pickP d e j)) (2 - 1)]? = some v := hv
    rw [hb] at hv2
    by_cases h : PySem.W.dataLt e d = true
    · rw [if_pos h] at hv2 ⊢
      simpa using hv2.symm
    · rw [if_neg h] at hv2 ⊢
      simpa using hv2.symm
  have := hq s'.heap s'.toks kp
  rw [← ev, ← eg, ← ed, ← eo] at this
  exact this
theorem max2_data {prog : Program} {w : World} {A : Around} {E : Value → Shared → Prop} {s : Shared} {a b : Value} {d e : PyData} {as bs : List Addr} {Q : Value → Shared → Prop} (hd : A.handled = none) (r1 : Reads s.heap a d as) (r2 : Reads s.heap b e bs)
    (al : ∀ i j, PySem.W.alike (pickP d e i) (pickP d e j) = true) (nn : ∀ i, pickP d e i ≠ .none) (dep : A.units + 1 + max d.depth e.depth < cLine)
    (hq : ∀ (h' : Heap) (tk : Nat), (∀ (c : Addr) (o : Obj), s.heap.get? c = some o → h'.get? c = some o) → Q (if PySem.W.dataLt d e = true then b else a) { heap := h', gens := s.gens, drawn := s.drawn, toks := tk, os := s.os }) :
    wpAny (model prog w) A (call (.builtin "max") [a, b]) Q E s := by
  have hname : (toString "max" ++ toString ".loop" : String) = "max.loop" := by decide
  refine PyProof.Rows.kmk_tree F.kind_max F.plain_max F.entry_max (F.args_max2 _ _) ?_
  show wpAny _ A.in1 (Builtin.Builtins.bindParams "max" ["key", "default"] 0 ⟨[], []⟩ >>= _) _ _ s
  refine wpAny_bind (wpAny_of_eq (show Builtin.Builtins.bindParams "max" ["key", "default"] 0 ⟨[], []⟩ = pure [none, none] from rfl) ?_)
  refine wpAny_bind ?_
  refine wpAny_newObj_type ?_
  have ht : ({ heap := s.heap.push { cls := .type "tuple", data := .seq #[a, b] }, gens := s.gens, drawn := s.drawn, toks := s.toks, os := s.os } : Shared).heap.IsTuple s.heap.objs.size #[a, b] := ⟨_, Heap.get?_push_size _ rfl, rfl, ⟨_, rfl⟩⟩
  refine wpAny_bind (PySem.W.iter_tupleW (show A.in1.handled = none from hd) ht fun s2 es2 wk st0 lt fr keep => ?_)
  refine wpAny_bind ?_
  refine wpAny_newObj_type ?_
  rw [hname]
  have keep0 : ∀ (c : Addr) (o : Obj), s.heap.get? c = some o → s2.heap.get? c = some o := fun c o h => keep c o (Heap.get?_push_of_some _ h)
  have keep1 : ∀ (c : Addr) (o : Obj), s.heap.get? c = some o → (s2.heap.push { cls := .type "list", data := .seq #[] }).get? c = some o := fun c o h => Heap.get?_push_of_some _ (keep0 c o h)
  have cmp : CmpIn prog w A.in1 .Gt s.heap (fun i v => #[a, b][i]? = some v) (fun i j => PySem.W.dataLt (pickP d e j) (pickP d e i)) := by
    intro i j vi vj s' Q' E' hk hi hj q
    have rd : ∀ {i : Nat} {v : Value}, #[a, b][i]? = some v → ∃ xs, Reads s'.heap v (pickP d e i) xs := fun {i v} h => by
      rcases pair_at h with ⟨rfl, rfl⟩ | ⟨rfl, rfl⟩
      · exact ⟨as, PySem.W.reads_keeps hk r1⟩
      · exact ⟨bs, PySem.W.reads_keeps hk r2⟩
    obtain ⟨xs, h1⟩ := rd hi
    obtain ⟨ys, h2⟩ := rd hj
    have dp : ∀ i, (pickP d e i).depth ≤ max d.depth e.depth := fun i => by
      unfold pickP
      split
      · exact Nat.le_max_left _ _
      · exact Nat.le_max_right _ _
    exact PySem.W.rcGt_alike _ _ A.in1 s' vi vj xs ys h1 h2 (al i j) (nn i) (by
      have h3 := dp i
      have h4 : min (pickP d e i).depth (pickP d e j).depth ≤ (pickP d e i).depth := Nat.min_le_left _ _
      have h5 : A.in1.units = A.units + 1 := rfl
      omega) _ _ _ _ q
  have frS : s.heap.get? s2.heap.objs.size = none := by
    cases h : s.heap.get? s2.heap.objs.size with
    | none => rfl
    | some o => exact absurd (Heap.lt_size (keep0 _ _ h)) (Nat.lt_irrefl _)
  have st1 := wk.frame 0 s2 (s2.heap.push { cls := .type "list", data := .seq #[] }) s2.toks st0 (Nat.le_refl _) fun b _ o h => Heap.get?_push_of_some _ h
  refine wpAny_pure ⟨plainId_quiet F.plain_max_loop _, codeAny_max_loop_firstH wk s.heap (fun c o h => fr c o (Heap.get?_push_of_some _ h)) _ cmp s2.heap.objs.size (fun h => Nat.lt_irrefl _ (lt _ h)) frS _ (show 0 < 2 by decide) keep1 st1 (Heap.get?_push_size _ rfl) fun v s' hv mv => ?_⟩
  have kp : ∀ (c : Addr) (o : Obj), s.heap.get? c = some o → s'.heap.get? c = some o := fun c o h => mv.heap c o (fun hm => by
    rcases List.mem_cons.mp hm with q | q
    · rw [q, frS] at h; cases h
    · exact fr c o (Heap.get?_push_of_some _ h) q) (keep1 c o h)
  have eg : s'.gens = s.gens := by
    have := mv.gens
    rw [es2] at this
    exact this
  have ed : s'.drawn = s.drawn := by
    have := mv.drawn
    rw [es2] at this
    exact this
  have eo : s'.os = s.os := by
    have := mv.os
    rw [es2] at this
    exact this
  have ev : v = if PySem.W.dataLt d e = true then b else a := by
    have hb : argBest (fun i j => PySem.W.dataLt (pickP d e j) (pickP d e i)) (2 - 1) = if PySem.W.dataLt d e = true then 1 else 0 := rfl
    have hv2 : #[a, b][argBest (fun i j => PySem.W.dataLt (pickP d e j) (pickP d e i)) (2 - 1)]? = some v := hv
    rw [hb] at hv2
    by_cases h : PySem.W.dataLt d e = true
    · rw [if_pos h] at hv2 ⊢
      simpa using hv2.symm
    · rw [if_neg h] at hv2 ⊢
      simpa using hv2.symm
  have := hq s'.heap s'.toks kp
  rw [← ev, ← eg, ← ed, ← eo] at this
  exact this
/-- what min of two asks -/
def rMin2D (K : PySem.W.Frag) : List V → Hp → VK → Prop := fun xs H Q => ∃ x y d e, xs = [x, y] ∧ Dp K H x d ∧ Dp K H y e ∧ (∀ i j, PySem.W.alike (pickP d e i) (pickP d e j) = true) ∧ (∀ i, pickP d e i ≠ .none) ∧ d.depth ≤ 60 ∧ e.depth ≤ 60 ∧ Q (if PySem.W.dataLt e d = true then y else x) H
def rMax2D (K : PySem.W.Frag) : List V → Hp → VK → Prop := fun xs H Q => ∃ x y d e, xs = [x, y] ∧ Dp K H x d ∧ Dp K H y e ∧ (∀ i j, PySem.W.alike (pickP d e i) (pickP d e j) = true) ∧ (∀ i, pickP d e i ≠ .none) ∧ d.depth ≤ 60 ∧ e.depth ≤ 60 ∧ Q (if PySem.W.dataLt d e = true then y else x) H
theorem call_min2D {X : Cx} (hc : X.A.handled = none) (hu : X.A.units + 66 < cLine) : CallR X (.builtin "min") (rMin2D X.K) := by
  intro pins s σ H xs us Q I rx h
  obtain ⟨x, y, d, e, rfl, hx, hy, al, nn, h1, h2, q⟩ := h
  obtain ⟨u, v, rfl, ru, rv⟩ : ∃ u v, us = [u, v] ∧ RelV x u ∧ RelV y v := by
    cases rx with
    | cons a h =>
      cases h with
      | cons b h => cases h; exact ⟨_, _, rfl, a, b⟩
  obtain ⟨as, r1⟩ := Dp.reads I d x u hx ru
  obtain ⟨bs, r2⟩ := Dp.reads I e y v hy rv
  refine min2_data hc r1 r2 al nn (by omega) fun h' tk keep => ?_
  refine ⟨_, H, I.kept (t' := tk) keep, ?_, q⟩
  by_cases hlt : PySem.W.dataLt e d = true
  · rw [if_pos hlt, if_pos hlt]; exact rv
  · rw [if_neg hlt, if_neg hlt]; exact ru
theorem call_max2D {X : Cx} (hc : X.A.handled = none) (hu : X.A.units + 66 < cLine) : CallR X (.builtin "max") (rMax2D X.K) := by
  intro pins s σ H xs us Q I rx h
  obtain ⟨x, y, d, e, rfl, hx, hy, al, nn, h1, h2, q⟩ := h
  obtain ⟨u, v, rfl, ru, rv⟩ : ∃ u v, us = [u, v] ∧ RelV x u ∧ RelV y v := by
    cases rx with
    | cons a h =>
      cases h with
      | cons b h => cases h; exact ⟨_, _, rfl, a, b⟩
  obtain ⟨as, r1⟩ := Dp.reads I d x u hx ru
  obtain ⟨bs, r2⟩ := Dp.reads I e y v hy rv
  refine max2_data hc r1 r2 al nn (by omega) fun h' tk keep => ?_
  refine ⟨_, H, I.kept (t' := tk) keep, ?_, q⟩
  by_cases hlt : PySem.W.dataLt d e = true
  · rw [if_pos hlt, if_pos hlt]; exact rv
  · rw [if_neg hlt, if_neg hlt]; exact ru
section
variable {K : PySem.W.Frag} {μ : Mu} {x y : Dt}
theorem pick_al (h1 : PySem.W.alike (py x) (py x) = true) (h2 : PySem.W.alike (py x) (py y) = true) (h3 : PySem.W.alike (py y) (py x) = true) (h4 : PySem.W.alike (py y) (py y) = true) : ∀ i j, PySem.W.alike (pickP (py x) (py y) i) (pickP (py x) (py y) j) = true := fun i j => by
  unfold pickP
  split <;> split <;> assumption
theorem bc_min2D (hx : okD x = true) (hy : okD y = true) (al : ∀ i j, PySem.W.alike (pickP (py x) (py y) i) (pickP (py x) (py y) j) = true) (n1 : py x ≠ .none) (n2 : py y ≠ .none) : BC K (rMin2D K) [.d x, .d y] μ (.d (if PySem.W.dataLt (py y) (py x) = true then y else x)) μ :=
  bc_val fun F H vs hh a => by
    obtain ⟨v, u, e, a1, a2⟩ := avs2 a
    refine ⟨if PySem.W.dataLt (py y) (py x) = true then u else v, ?_, fun Q q => ⟨v, u, py x, py y, e, (Rp.mono hh.ex a1).dp (okD.plain hx), (Rp.mono hh.ex a2).dp (okD.plain hy), al, fun i => by unfold pickP; split <;> assumption, Nat.le_trans (depth_py x) (of_decide_eq_true (Bool.and_eq_true_iff.mp hx).2), Nat.le_trans (depth_py y) (of_decide_eq_true (Bool.and_eq_true_iff.mp hy).2), q⟩⟩
    split
    · exact a2
    · exact a1
theorem bc_max2D (hx : okD x = true) (hy : okD y = true) (al : ∀ i j, PySem.W.alike (pickP (py x) (py y) i) (pickP (py x) (py y) j) = true) (n1 : py x ≠ .none) (n2 : py y ≠ .none) : BC K (rMax2D K) [.d x, .d y] μ (.d (if PySem.W.dataLt (py x) (py y) = true then y else x)) μ :=
  bc_val fun F H vs hh a => by
    obtain ⟨v, u, e, a1, a2⟩ := avs2 a
    refine ⟨if PySem.W.dataLt (py x) (py y) = true then u else v, ?_, fun Q q => ⟨v, u, py x, py y, e, (Rp.mono hh.ex a1).dp (okD.plain hx), (Rp.mono hh.ex a2).dp (okD.plain hy), al, fun i => by unfold pickP; split <;> assumption, Nat.le_trans (depth_py x) (of_decide_eq_true (Bool.and_eq_true_iff.mp hx).2), Nat.le_trans (depth_py y) (of_decide_eq_true (Bool.and_eq_true_iff.mp hy).2), q⟩⟩
    split
    · exact a2
    · exact a1
end
end L2.DL
set_option maxHeartbeats 4000000
namespace L2.DL
open PySem PySem.Spec PyProof.Rows
theorem rps_avs {K : PySem.W.Frag} {F : Hp} : ∀ {ds : List Dt} {vs : List V}, Rps K F ds vs → Avs K F (ds.map AV.d) vs
  | [], _, h => h
  | d :: ds, vs, h => by
    obtain ⟨v, r, e, h1, h2⟩ := h
    exact ⟨v, r, e, h1, rps_avs h2⟩
section
variable {X : Cx} {ρ : Rho} {μ μ1 μ2 μ3 : Mu} {a e o1 i1 o2 i2 : Expr} {pos p1 p2 pt : Pos} {R : Rs} {k kt : Nat}
/-- list(a), a list of data -/
theorem ae_listC {p : Pos} {ds : List Dt} (hm : X.mg "list" = none) (ha : AE X a ρ μ (.ok (.d (.lst ds)) μ1)) (hg : Gl X "list" := by rfl) (he : starEach [a] X.env = (false, eval a X.env) :: starEach [] X.env := by rfl) (hpl : (backTo pos (starEach [] X.env)).any (·.1) = false := by rfl) : AE X (.Call (.Name "list" p) [a] [] pos) ρ μ (.new (ds.map AV.d) μ1) :=
  ae_listN call_list_of hm PyProof.Rows.Boot.list (aa_cons ha aa_nil he) (fun F H vs Q hh av q => by
    obtain ⟨v, ev, av⟩ := avs1 av
    obtain ⟨t, us, et, ht, rt⟩ := av
    exact ⟨t, us, by rw [ev, et], .inl (SqL.of (hh.ex _ _ ht)), fun l hl => q l us hl (rps_avs rt)⟩) hg (by decide) (by decide) he hpl
/-- o1[i1], o2[i2] = e, both places in one list of one's own -/
theorem as_setP {p : Addr} {k1 k2 : Int} {xs : List AV} {j1 j2 : Nat} {d1 d2 : Dt} (g : Gd X k) (he : AE X e ρ μ (.ok (.d (.tup [d1, d2])) μ1)) (m : μ1 p = some (.lst xs)) (ho1 : AE X o1 ρ μ1 (.ok (.l p) μ1)) (hi1 : AE X i1 ρ μ1 (.ok (.d (.int k1)) μ1)) (hj1 : ixN xs.length k1 = some j1)
    (ho2 : AE X o2 ρ (upM μ1 p (.lst (xs.set j1 (.d d1)))) (.ok (.l p) (upM μ1 p (.lst (xs.set j1 (.d d1)))))) (hi2 : AE X i2 ρ (upM μ1 p (.lst (xs.set j1 (.d d1)))) (.ok (.d (.int k2)) (upM μ1 p (.lst (xs.set j1 (.d d1)))))) (hj2 : ixN xs.length k2 = some j2)
    (h : R.nx ρ (upM μ1 p (.lst ((xs.set j1 (.d d1)).set j2 (.d d2)))))
    (ha1 : ∀ v, assign (.Subscript o1 i1 p1) X.env v = (do
      let ov ← holding [v] (eval o1 X.env)
      let iv ← holding [v, ov] (eval i1 X.env)
      standAt p1
      holding [v, ov, iv] (setItem ov iv v)
      release [v, ov, iv] []) := by intro _; rfl)
    (ha2 : ∀ v, assign (.Subscript o2 i2 p2) X.env v = (do
      let ov ← holding [v] (eval o2 X.env)
      let iv ← holding [v, ov] (eval i2 X.env)
      standAt p2
      holding [v, ov, iv] (setItem ov iv v)
      release [v, ov, iv] []) := by intro _; rfl)
    (hs : swapsWithSole [.Tuple [.Subscript o1 i1 p1, .Subscript o2 i2 p2] kt pt] e pos.line X.env = pure false := by rfl) (hw : swappedStores [.Tuple [.Subscript o1 i1 p1, .Subscript o2 i2 p2] kt pt] e X.env = pure none := by rfl)
    (h1 : (assignEach [.Tuple [.Subscript o1 i1 p1, .Subscript o2 i2 p2] kt pt] X.env).map (·.2) = [assign (.Tuple [.Subscript o1 i1 p1, .Subscript o2 i2 p2] kt pt) X.env] := by rfl) : AS1 X (.Assign [.Tuple [.Subscript o1 i1 p1, .Subscript o2 i2 p2] kt pt] e pos) ρ μ R :=
  AS1.of (ps_asg pe_rd (pg_tup g.calm (pgs_cons (pg_sub pe_rd pe_rd set_list ha1) (pgs_cons (pg_sub pe_rd pe_rd set_list ha2) pgs_nil))) hs hw h1) fun F H σ hsl hh Ds W tk q => he.go hsl hh tk fun F1 H1 v e1 g1 a1 => by
    obtain ⟨t, us, et, ht, rt⟩ := a1
    obtain ⟨v1, r1, q1, ra, rb⟩ := rt
    obtain ⟨v2, r2', q2, rc, re⟩ := rb
    have z : r2' = [] := re
    refine ⟨t, us, et, sqt_mono g1.ex ht, by rw [q1, q2, z]; rfl, v1, r1, q1, ?_⟩
    refine ho1.go (hsl.mono e1) g1 tk fun F2 H2 u e2 g2 a2 => hi1.go ((hsl.mono e1).mono e2) g2 tk fun F3 H3 w e3 g3 a3 => ?_
    obtain ⟨f0, us1, hv, av⟩ := g3.mu p _ m
    refine ⟨p, us1, k1, j1, a2, a3, hv, by rw [av.length]; exact hj1, ?_⟩
    have ra' : Av X.K F3 (.d d1) v1 := Av.mono (e2.trans e3) (show Av X.K F1 (.d d1) v1 from ra)
    have g4 := g3.put m (Avs.set ra' j1 av)
    refine ⟨v2, r2', q2, ?_⟩
    refine ho2.go (hsl.mono ((e1.trans e2).trans e3)) g4 tk fun F5 H5 u5 e5 g5 a5 => hi2.go ((hsl.mono ((e1.trans e2).trans e3)).mono e5) g5 tk fun F6 H6 w6 e6 g6 a6 => ?_
    obtain ⟨f6, us6, hv6, av6⟩ := g6.mu p _ upM_same
    refine ⟨p, us6, k2, j2, a5, a6, hv6, by rw [av6.length, List.length_set]; exact hj2, ?_⟩
    have rc' : Av X.K F6 (.d d2) v2 := Av.mono (((e2.trans e3).trans e5).trans e6) (show Av X.K F1 (.d d2) v2 from rc)
    have g7 := g6.put upM_same (Avs.set rc' j2 av6)
    rw [upM_upM] at g7
    exact ⟨z, q.nx F6 _ σ ρ _ ((((e1.trans e2).trans e3).trans e5).trans e6) h (hsl.mono ((((e1.trans e2).trans e3).trans e5).trans e6)) g7⟩
end
section
variable {K : PySem.W.Frag} {μ : Mu}
theorem sc_tup {ds : List Dt} {lo hi : Option Int} (hn : ¬ (HT.sIx ds.length 0 lo = 0 ∧ HT.sIx ds.length ds.length hi = ds.length)) : SC K (rSlT K) (.d (.tup ds)) lo hi μ (.d (.tup (cutD ds lo hi))) μ := by
  intro F H u Q hh a q
  obtain ⟨p, us, e1, h1, r1⟩ := a
  refine ⟨p, us, e1, sqt_mono hh.ex h1, by rw [r1.length]; exact hn, fun l hl => ?_⟩
  have f0 := hh.fnone hl
  exact q _ _ _ (same_new f0) (hh.new hl) ⟨l, _, rfl, SqT.of upd_same, Rps.mono (same_new f0) (cut_rps r1 lo hi)⟩
/-- a text in a row of texts -/
theorem in_strs (l : List Nat) (ws : List (List Nat)) : ((ws.map S).map V.str).all flatV = true ∧ inV (V.str (S l)) ((ws.map S).map V.str) = decide (l ∈ ws) := by
  constructor
  · rw [List.all_eq_true]
    intro x hx
    obtain ⟨y, _, rfl⟩ := List.mem_map.mp hx
    rfl
  · unfold inV
    rw [Bool.eq_iff_iff, List.any_eq_true, decide_eq_true_iff]
    constructor
    · rintro ⟨x, hx, he⟩
      obtain ⟨z, hz, rfl⟩ := List.mem_map.mp hx
      obtain ⟨y, hy, rfl⟩ := List.mem_map.mp hz
      have : S y = S l := by simpa [eqV] using he
      have h2 : y = l := by
        have := congrArg (fun z => z.cps.toList) this
        simpa [S_cps] using this
      rw [← h2]
      exact hy
    · intro h
      exact ⟨V.str (S l), List.mem_map.mpr ⟨S l, List.mem_map.mpr ⟨l, h, rfl⟩, rfl⟩, by simp [eqV]⟩
theorem br_inL {l : List Nat} {ws : List (List Nat)} : BR K (rIn K false) (.d (.str l)) (.d (.lst (ws.map Dt.str))) μ (.d (.bl (decide (l ∈ ws)))) μ :=
  br_val fun F H u v hh a1 a2 => by
    obtain ⟨p, us, e, h1, r1⟩ := a2
    obtain ⟨f1, f2⟩ := in_strs l ws
    refine ⟨.bl (decide (l ∈ ws)), rfl, fun Q q => ⟨p, us, e, .inl (SqL.of (hh.ex _ _ h1)), by rw [show u = V.str (S l) from a1]; rfl, by rw [rps_strs r1]; exact f1, ?_⟩⟩
    rw [rps_strs r1, show u = V.str (S l) from a1]
    show Q (.bl (inV _ _)) H
    rw [f2]
    exact q
theorem br_inT {l : List Nat} {ws : List (List Nat)} : BR K (rIn K false) (.d (.str l)) (.d (.tup (ws.map Dt.str))) μ (.d (.bl (decide (l ∈ ws)))) μ :=
  br_val fun F H u v hh a1 a2 => by
    obtain ⟨p, us, e, h1, r1⟩ := a2
    obtain ⟨f1, f2⟩ := in_strs l ws
    refine ⟨.bl (decide (l ∈ ws)), rfl, fun Q q => ⟨p, us, e, .inr (sqt_mono hh.ex h1), by rw [show u = V.str (S l) from a1]; rfl, by rw [rps_strs r1]; exact f1, ?_⟩⟩
    rw [rps_strs r1, show u = V.str (S l) from a1]
    show Q (.bl (inV _ _)) H
    rw [f2]
    exact q
end
end L2.DL
set_option maxHeartbeats 4000000
namespace L2.DL
open PySem PySem.Spec PyProof.Rows
section
variable {X : Cx} {ρ : Rho} {μ μ1 μ2 μ3 μ4 μ5 : Mu} {a b c : Expr} {x y w : AV} {pos : Pos}
/-- a chain as a test -/
theorem at_chain {op op' : CmpOp} {r r' : R2} {k k' : Bool} (ho : OpR X (compareOp op) r) (ho' : OpR X (compareOp op') r') (ha : AE X a ρ μ (.ok x μ1)) (hb : AE X b ρ μ1 (.ok y μ2)) (hr : BR X.K r x y μ2 (.d (.bl k)) μ3)
    (hc : k = true → AE X c ρ μ3 (.ok w μ4)) (hr' : k = true → BR X.K r' y w μ4 (.d (.bl k')) μ5) (hk : k = false → k' = false ∧ μ3 = μ5) (hm : lastMarks [op, op'] [b, c] = false := by with_unfolding_all rfl) : AT X (.Compare a [op, op'] [b, c] pos) ρ μ (.ok k' μ5) :=
  AT.of (pt_chain ho ho' pe_rd pe_rd pe_rd hm) fun F H σ hs hh Q W tk q => ha.go hs hh tk fun F1 H1 u e1 h1 a1 => hb.go (hs.mono e1) h1 tk fun F2 H2 v e2 h2 a2 =>
    hr F2 H2 u v _ h2 (a1.mono e2) a2 fun F3 H3 w' e3 h3 a3 => by
      refine ⟨k, a3, ?_⟩
      cases k with
      | true =>
        refine (hc rfl).go (hs.mono ((e1.trans e2).trans e3)) h3 tk fun F4 H4 t e4 h4 a4 => ?_
        exact hr' rfl F4 H4 v t _ h4 (a2.mono (e3.trans e4)) a4 fun F5 H5 t' e5 h5 a5 => ⟨k', a5, q F5 H5 ((((e1.trans e2).trans e3).trans e4).trans e5) h5⟩
      | false =>
        obtain ⟨rfl, rfl⟩ := hk rfl
        exact ⟨false, rfl, q F3 H3 ((e1.trans e2).trans e3) h3⟩
end
/-- a tuple of anything beside the empty tuple: == -/
def rEqNilT (K : PySem.W.Frag) : R2 := fun x y H Q => ∃ a b xs, x = .ref a ∧ y = .ref b ∧ SqT K H a xs ∧ SqT K H b [] ∧ Q (.bl xs.isEmpty) H
theorem op_eqNilT {X : Cx} (hu : X.A.units + 64 < cLine) : OpR X (compareOp .Eq) (rEqNilT X.K) := by
  intro pins s σ H x y v u Q I rx ry h
  obtain ⟨a, b, xs, rfl, rfl, h1, h2, q⟩ := h
  obtain rfl : v = Value.ref a := rx
  obtain rfl : u = Value.ref b := ry
  obtain ⟨its, v1, p1⟩ := I.tuple h1
  obtain ⟨its2, v2, p2⟩ := I.tuple h2
  cases v2
  have e : ((List.range (min its.toArray.size (#[] : Array Value).size)).all (fun _ => true) && its.toArray.size == (#[] : Array Value).size) = xs.isEmpty := by
    cases v1 <;> simp
  have z := SeqAt.RcAt.tuples (A := X.A) (s := s) (e := fun _ => true) (items := its.toArray) (items2 := #[]) p1.1 p2.1 (by omega) (fun j h1 h2 => absurd h2 (by simp))
  rw [e] at z
  exact z _ _ _ _ ⟨.bl _, H, I, rfl, q⟩
section
variable {K : PySem.W.Frag} {μ : Mu}
theorem br_eqNilT {ds : List Dt} : BR K (rEqNilT K) (.d (.tup ds)) (.d (.tup [])) μ (.d (.bl ds.isEmpty)) μ :=
  br_val fun F H u v hh a1 a2 => by
    obtain ⟨p, us, e1, h1, r1⟩ := a1
    obtain ⟨p2, us2, e2, h2, r2⟩ := a2
    obtain rfl : us2 = [] := r2
    refine ⟨.bl ds.isEmpty, rfl, fun Q q => ⟨p, p2, us, e1, e2, sqt_mono hh.ex h1, sqt_mono hh.ex h2, ?_⟩⟩
    have e : us.isEmpty = ds.isEmpty := by
      have := r1.length
      cases us <;> cases ds <;> simp_all
    rw [e]
    exact q
end
end L2.DL
set_option maxHeartbeats 4000000
/-! The same judgements behind a structure: the elaborator does not look into the program's text (long lists of tuples). -/
namespace L2.DL
open PySem PySem.Spec PyProof.Rows
structure HE (X : Cx) (e : Expr) (ρ : Rho) (μ : Mu) (o : ERes) : Prop where
  go : AE X e ρ μ o
structure HA (X : Cx) (es : List Expr) (ρ : Rho) (μ : Mu) (o : ARes) : Prop where
  go : AA X es ρ μ o
structure HS1 (X : Cx) (st : Stmt) (ρ : Rho) (μ : Mu) (R : Rs) : Prop where
  go : AS1 X st ρ μ R
section
variable {X : Cx} {ρ : Rho} {μ μ1 μ2 μ3 : Mu} {x y z : AV} {xs : List AV} {e a b : Expr} {es : List Expr} {pos : Pos} {R : Rs} {st : Stmt} {sts : List Stmt} {items : List Dt}
theorem star1 {env : Env} (h : ∀ x p, e ≠ .Starred x p) : starEach (e :: es) env = (false, eval e env) :: starEach es env := by
  cases e <;> first | rfl | exact absurd rfl (h _ _)
theorem ha_nil : HA X [] ρ μ (.ok [] μ) := ⟨aa_nil⟩
theorem ha_c (h : HE X e ρ μ (.ok x μ1)) (hr : HA X es ρ μ1 (.ok xs μ2)) (hs : ∀ x p, e ≠ .Starred x p := by exact fun _ _ h => nomatch h) : HA X (e :: es) ρ μ (.ok (x :: xs) μ2) := ⟨aa_cons h.go hr.go (star1 hs)⟩
theorem he_lst {ds : List Dt} (h : HA X es ρ μ (.ok (ds.map AV.d) μ1)) (hl : ds.length ≤ 10000000) : HE X (.List es pos) ρ μ (.ok (.d (.lst ds)) μ1) := ⟨ae_lst h.go hl⟩
theorem he_tup {ds : List Dt} {j} (h : HA X es ρ μ (.ok (ds.map AV.d) μ1)) (hl : ds.length ≤ 10000000) : HE X (.Tuple es j pos) ρ μ (.ok (.d (.tup ds)) μ1) := ⟨ae_tup h.go hl⟩
theorem he_op {op : Operator} {r : R2} (ho : OpR X (binaryOp op) r) (ha : HE X a ρ μ (.ok x μ1)) (hb : HE X b ρ μ1 (.ok y μ2)) (hr : BR X.K r x y μ2 z μ3) : HE X (.BinOp a op b pos) ρ μ (.ok z μ3) := ⟨ae_op ho ha.go hb.go hr⟩
theorem hs_cons (h : HS1 X st ρ μ { R with nx := fun ρ' μ' => AS X sts ρ' μ' R }) : AS X (st :: sts) ρ μ R := as_cons h.go
theorem hs_one (h : HS1 X st ρ μ R) : AS X [st] ρ μ R := as_one h.go
theorem hs_asg (i : Nat) {n : Str} {p : Pos} (hN : X.N.Nodup) (he : HE X e ρ μ (.ok x μ1)) (h : R.nx (ρ.set i (some x)) μ1) (hi : X.N[i]? = some n := by rfl) (hx : Loc X.env.scope n := by first | exact Or.inl rfl | exact Or.inr rfl)
    (hs : swapsWith e (some (.Name n p)) pos.line X.env = pure false := by rfl) (hf : X.fn n = true ∨ X.env.scope.names.lookup n = some .local := by first | exact .inl rfl | exact .inr rfl) : HS1 X (.Assign [.Name n p] e pos) ρ μ R := ⟨as_asg i hN he.go h hi hx hs hf⟩
theorem hs_ret (he : HE X e ρ μ (.ok x μ1)) (h : R.rt x μ1) : HS1 X (.Return (some e) pos) ρ μ R := ⟨as_ret he.go h⟩
theorem hs_for {k : Nat} {n : Str} {p : Pos} {iter : Expr} {body : List Stmt} (g : Gd X k) (j : Nat) {kp : Mu → Prop} (src : Src X (.Name n p) iter ρ μ items μ1 kp) (Pv : Nat → Rho → Mu → Prop) (h0 : Pv 0 ρ μ1)
    (hs : ∀ (i : Nat) (d : Dt) (ρ' : Rho) (μ' : Mu), items[i]? = some d → Pv i ρ' μ' → AS X body (ρ'.set j (some (.d d))) μ' { R with nx := Pv (i + 1), ct := Pv (i + 1), bk := R.nx })
    (hd : ∀ (ρ' : Rho) (μ' : Mu), Pv items.length ρ' μ' → R.nx ρ' μ') (hi : X.N[j]? = some n := by rfl) (hx : Loc X.env.scope n := by first | exact Or.inl rfl | exact Or.inr rfl)
    (hf : X.fn n = true ∨ X.env.scope.names.lookup n = some .local := by first | exact .inl rfl | exact .inr rfl) (hfo : ∀ x, foldedSetIterable iter X.env x = pure x := by intro _; rfl) (hkp : ∀ i ρ' μ', Pv i ρ' μ' → kp μ' := by exact fun _ _ _ _ => True.intro) : HS1 X (.For (.Name n p) iter body [] pos) ρ μ R := ⟨as_for g j src Pv h0 hs hd hi hx hf hfo hkp⟩
theorem src_lstH {tg : Expr} {ds : List Dt} (h : HE X e ρ μ (.ok (.d (.lst ds)) μ1)) : Src X tg e ρ μ ds μ1 := src_lst h.go
end
end L2.DL
set_option maxHeartbeats 4000000
namespace L2.DL
open PySem PySem.Spec PyProof.Rows
section
variable {K : PySem.W.Frag} {μ : Mu}
/-- != of data beside a list of one's own whose items are data -/
theorem br_neR {p : Addr} {xs : List Dt} {x : Dt} (m : μ p = some (.lst (xs.map AV.d))) (hx : okD x = true) (hy : okD (.lst xs) = true) : BR K (rNeD K) (.d x) (.l p) μ (.d (.bl (!eqD x (.lst xs)))) μ :=
  br_val fun F H u v hh a1 a2 => by
    obtain ⟨f0, vs, hv, av⟩ := hh.mu p _ m
    have e : v = V.ref p := a2
    subst e
    exact ⟨.bl (!eqD x (.lst xs)), rfl, fun Q q => ⟨py x, py (.lst xs), (Rp.mono hh.ex a1).dp (okD.plain hx), .lst (SqL.of hv) ((Rps.mono hh.ex av.rps).dp (okD.plain hy)), okD.shaped hx, okD.shaped hy, q⟩⟩
end
section
variable {X : Cx} {x n m : Str} {c : Value} {body : List Stmt} {np pos pos' p1 p2 p3 pA : Pos} {C fI : Addr}
/-- try: body / except x as n: m = n.value, over data -/
theorem as_tryF {ρ : Rho} {μ : Mu} {R Rb : Rs} {k : Nat} (T : PySem.FEx.Txt X.prog X.K C fI) (i j : Nat) (g : Gd X k) (hc : Names X x c) (hb : ∀ (pn : List (Addr × Obj)) (xe : Value → Shared → Prop), Gd (X.tr pn xe) k → AS (X.tr pn xe) body ρ μ Rb)
    (h1 : ∀ ρ' μ', Rb.nx ρ' μ' → R.nx ρ' μ') (h2 : ∀ ρ' C' d μ', Rb.ex ρ' C' d μ' → C' = C ∧ i < ρ'.length ∧ PySem.W.exmOne X.K (.ref C) c = some true ∧ R.nx ((ρ'.set j (some (.d d))).set i none) μ')
    (h3 : Rb.rt = fun _ _ => False) (h4 : Rb.bk = fun _ _ => False) (h5 : Rb.ct = fun _ _ => False) (hij : i ≠ j)
    (hs : X.stack = X.env :: X.outer := by rfl) (hf : X.env.frame = some X.env.locals := by rfl) (hi : X.N[i]? = some n := by rfl) (hj : X.N[j]? = some m := by rfl) (hln : X.env.kindOf n = some .local := by rfl) (hlm : X.env.kindOf m = some .local := by rfl)
    (hvn : Vis X.env.scope n := by first | exact Or.inl rfl | exact Or.inr (Or.inl rfl) | exact Or.inr (Or.inr rfl)) (hd1 : (n == ("__debug__" : Str)) = false := by decide) (hd2 : (n == ("__classdict__" : Str)) = false := by decide)
    (hab : attributeBase (.Name n p2) "value" X.env (eval (.Name n p2) X.env) = eval (.Name n p2) X.env := by rfl)
    (hsw : swapsWith (.Attribute (.Name n p2) "value" pA) (some (.Name m p1)) p3.line X.env = pure false := by rfl) (hlm' : X.env.scope.names.lookup m = some .local := by rfl) :
    AS1 X (.Try body [.ExceptHandler (some (.Name x np)) (some n) [.Assign [.Name m p1] (.Attribute (.Name n p2) "value" pA) p3] pos'] [] [] pos) ρ μ R := fun F H σ hl hh Ds W tk q pins s I => by
  refine (ps_try_as (pos := pos) (pos' := pos') (np := np) (tb := fun W' => fun D σ H => (∀ (pn : List (Addr × Obj)) (xe : Value → Shared → Prop), True) ∧ Sl X.K F ρ σ ∧ Holds X.K F μ H ∧ Lk X.K F Rb D W') (ts := fun a cls d => tAsg (tXf a cls d C "value" (tVar i)) (gName j)) (Wout := fun _ _ _ _ => False) hs hf g.nd hi hln hc ?tk ?body ?suite).run pins s σ H Ds I ⟨fun _ _ => True.intro, hl, hh, ?_⟩
  case tk =>
    intro e s hx
    obtain ⟨_, _, _, _, _, _, _, _, _, _, _, _, _, _, _, _, z⟩ := hx
    exact z.elim
  case body =>
    intro W' pn xe tk' po'
    refine ⟨fun pins2 s2 σ2 H2 D2 I2 z => ?_⟩
    obtain ⟨_, z1, z2, z3⟩ := z
    exact hb pn xe ⟨g.calm, g.nd, po', g.hr, g.gu⟩ F H2 σ2 z1 z2 D2 W' tk' z3 pins2 s2 I2
  case suite =>
    intro a oe cls d pn hz hfv
    exact pss_one (ps_set (X := X.suite a ((a, oe) :: pn)) g.nd hj (.inl hlm) (pe_xf ⟨T.ga, T.gg, T.exC, T.hdC⟩ T.noN hz hfv (pe_var (X := X.suite a ((a, oe) :: pn)) hi hvn hd1 hd2) hab) hsw (.inr hlm'))
  · refine ⟨fun F' H' σ' ρ' μ' s1 z => q.nx F' H' σ' ρ' μ' s1 (h1 _ _ z), fun F' H' v y μ' s1 z => ?_, fun F' H' σ' ρ' μ' s1 z => ?_, fun F' H' σ' ρ' μ' s1 z => ?_, ?_⟩
    · rw [h3] at z; exact z.elim
    · rw [h4] at z; exact z.elim
    · rw [h5] at z; exact z.elim
    · intro F' H' σ' ρ' C' d μ' dd u s1 z sl hh' e1 r1
      obtain ⟨rfl, li, em, zn⟩ := h2 _ _ _ _ z
      refine ⟨true, em, fun _ a na => ?_, fun z => Bool.noConfusion z⟩
      have lenI : i < σ'.length := by rw [← sl.1]; exact li
      refine ⟨.ref a, List.getElem?_set_self lenI, rfl, rfl, dd, [("value", u)], u, rfl, hh'.ex _ _ e1, rfl, ?_⟩
      have eq : ((σ'.set i (some (V.ref a))).set j (some u)).set i none = (σ'.set j (some u)).set i none := by
        rw [List.set_comm _ _ hij, List.set_set]
      show Ds.nx (((σ'.set i (some (V.ref a))).set j (some u)).set i none) H'
      rw [eq]
      exact q.nx F' H' _ _ μ' s1 zn ((sl.set j (show Av X.K F' (.d d) u from r1)).unset i) hh'
end
section
variable {X : Cx} {ρ : Rho} {μ μ1 : Mu} {e : Expr} {pos p : Pos} {n pn : Str} {st : Stmt} {k j : Nat} {C : Ct} {ys : List AV} {o : ERes}
/-- n(e), e a new list of one's own -/
theorem ae_fnNew (G : Fo X.prog X.w X.K X.mg X.base n st k [pn] C) (g : Gd X j) (he0 : AE X e ρ μ (.new ys μ1)) (hC : ∀ q, μ1 q = none → C [.l q] (upM μ1 q (.lst ys)) o) (hjk : k ≤ j := by decide) (hg : Gl X n := by rfl)
    (hdb : (n == ("__debug__" : Str)) = false := by decide) (he : starEach [e] X.env = (false, eval e X.env) :: starEach [] X.env := by rfl) (hpl : (backTo pos (starEach [] X.env)).any (·.1) = false := by rfl) : AE X (.Call (.Name n p) [e] [] pos) ρ μ o := by
  obtain ⟨f, fd, F, hm, G, b⟩ := G.ex
  intro F' H σ hs hh Q W tk q pins s I
  refine wpAny_Call_Name_kw (ld_glob I hg hm ?_ hdb)
  refine PySem.W.callWith_K (h₀ := X.base) I.ok.mod.kin F.kp (thn ((pa_cons pe_rd pa_nil he).run pos pins s σ H (fun vs H' => spOf X.K [pn].length C vs H' Q fun cls d H'' => W cls d σ H'') I (he0.goN hs hh tk fun F1 H1 d e1 f0 m0 h1 => go_call (C := C) (ps := [pn]) (xs := [.l d]) (vs := [.ref d]) e1 h1 ⟨.ref d, [], rfl, rfl, rfl⟩ rfl (hC d m0) q)) fun us s1 ⟨vs, H1, I1, r, z⟩ => ⟨I1.kIn, ?_⟩) he hpl
  have lv : (us ++ []).length = [pn].length := by rw [List.append_nil, ← r.length]; exact spOf_len z
  have hb' := b s1 us I1.kIn lv
  rw [List.append_nil] at hb'
  exact runG G (g.hr.mono hjk) g.gu hb' (fun e s' c => tk e s' (XE.of_call I1 (fun _ _ _ w => w) c)) I1 r z
end
end L2.DL
set_option maxHeartbeats 4000000
/-! Exceptions of one's own, made and held. -/
namespace PySem
namespace FEx
open PySem.W PySem.Calls PyProof.Rows PySem.HandSPX
/-- the arguments are bound: self and value -/
def BindA (K : Frag) (s : Shared) (ar : Args) (x : Addr) (v : Value) : Prop :=
  ∀ (q : Str) (doc pm : Value) (an : Option Addr) (cda : Addr) (ct : Value) (cc : Addr) (p1 p2 q1 q2 q3 q4 q5 q6 q7 q8 q9 q10 : Pos) (dv : Expr) (Td : Addr) (o : Obj) (n : Nat), K.lookup Td = some o → o.data = .seq #[.none] n →
    BindsTo s (ksFn "__init__" q (inA p1 p2 dv) (inB q1 q2 q3 q4 q5 q6 q7 q8 q9 q10) inS (.ref Td) .none doc pm an (.ref cda) ct cc) ar [("self", .ref x), ("value", v)]
theorem bindA1 {K : Frag} {s : Shared} {x : Addr} {v : Value} (X : K.In s.heap) : BindA K s ⟨[.ref x, v], []⟩ x v := fun q doc pm an cda ct cc p1 p2 q1 q2 q3 q4 q5 q6 q7 q8 q9 q10 dv Td o n lT oT => by
  refine L2.BindsTo.of_looks fun M => ?_
  obtain ⟨k, e1, e2⟩ : ∃ k, bindArgs (ksFn "__init__" q (inA p1 p2 dv) (inB q1 q2 q3 q4 q5 q6 q7 q8 q9 q10) inS (.ref Td) .none doc pm an (.ref cda) ct cc) ⟨[.ref x, v], []⟩ = seqItems? (.ref Td) >>= k ∧ k (some #[Value.none]) = pure ([("self", .ref x), ("value", v)] : List (Str × Value)) := ⟨_, rfl, by first | with_unfolding_all rfl | kernel_rfl⟩
  rw [e1]
  exact L2.looks_items X lT oT (.of_pure e2)
theorem bindA0 {K : Frag} {s : Shared} {x : Addr} (X : K.In s.heap) : BindA K s ⟨[.ref x], []⟩ x .none := fun q doc pm an cda ct cc p1 p2 q1 q2 q3 q4 q5 q6 q7 q8 q9 q10 dv Td o n lT oT => by
  refine L2.BindsTo.of_looks fun M => ?_
  obtain ⟨k, e1, e2⟩ : ∃ k, bindArgs (ksFn "__init__" q (inA p1 p2 dv) (inB q1 q2 q3 q4 q5 q6 q7 q8 q9 q10) inS (.ref Td) .none doc pm an (.ref cda) ct cc) ⟨[.ref x], []⟩ = seqItems? (.ref Td) >>= k ∧ k (some #[Value.none]) = pure ([("self", .ref x), ("value", .none)] : List (Str × Value)) := ⟨_, rfl, by first | with_unfolding_all rfl | kernel_rfl⟩
  rw [e1]
  exact L2.looks_items X lT oT (.of_pure e2)
theorem bindAK {K : Frag} {s : Shared} {x : Addr} {v : Value} (X : K.In s.heap) : BindA K s ⟨[.ref x], [("value", v)]⟩ x v := fun q doc pm an cda ct cc p1 p2 q1 q2 q3 q4 q5 q6 q7 q8 q9 q10 dv Td o n lT oT => by
  refine L2.BindsTo.of_looks fun M => ?_
  obtain ⟨k, e1, e2⟩ : ∃ k, bindArgs (ksFn "__init__" q (inA p1 p2 dv) (inB q1 q2 q3 q4 q5 q6 q7 q8 q9 q10) inS (.ref Td) .none doc pm an (.ref cda) ct cc) ⟨[.ref x], [("value", v)]⟩ = seqItems? (.ref Td) >>= k ∧ k (some #[Value.none]) = pure ([("self", .ref x), ("value", v)] : List (Str × Value)) := ⟨_, rfl, by first | with_unfolding_all rfl | kernel_rfl⟩
  rw [e1]
  exact L2.looks_items X lT oT (.of_pure e2)
section
variable {prog : Program} {w : World} {A : Around} {E : Value → Shared → Prop} {R : Result → Shared → Prop} {s : Shared} {K : Frag} {C fI : Addr}
theorem init_runsA (T : Txt prog K C fI) {x t0 : Addr} {v : Value} {ar : Args} (bnd : BindA K s ar x v) (X : K.In s.heap) (hlim : s.heap.NoLimit) {mg mb : Str → Option Value} (hg : s.heap.Ns mainGlobals mg) (hb : s.heap.Ns builtinsNs mb) (hbb : ∀ y : Str, y ≠ "__name__" → mb y = bootBuiltins y)
    (hx : s.heap.get? x = some (excO C t0)) (hnx : K.lookup x = none) (hroom : A.depth < recursionLimit)
    (hq : ∀ h' tk dx t1, InitEnd s.heap h' x C dx t1 v → R (.ok (.ret .none)) { s with heap := h', toks := tk }) :
    codeAny (model prog w) A (.call (.ref fI) ar) R s := by
  obtain ⟨q, oc, od, dV, doc, pm, an, cda, ct, cc, osl, p1, p2, q1, q2, q3, q4, q5, q6, q7, q8, q9, q10, dv, ho, hcd, hln, ⟨Td, od', nd, rfl, lT, oT⟩, ⟨cl, cld, csl, hcell⟩, ⟨ccl, cdd, vs, ccs, file, tf, hcode, hvs, hfile⟩⟩ := T.fn
  obtain ⟨nm, qq, N, bs, bm, sn, sub, ab, col, dd, k0, k1, k2, k3, k5, hC, hbm⟩ := T.cls
  have hcl : clsIn K C = some { name := nm, bases := bs, mro := .ref C :: bm, ns := N, qualname := qq, hasDict := true, slotNames := sn, subclasses := sub, abstract := ab, collection := col, hasDel := false } := by unfold clsIn; rw [hC] <;> rfl
  obtain ⟨hp, gs, dr, tk, os⟩ := s
  have F0 := X _ _ ho
  have hbind : BindsTo (⟨hp, gs, dr, tk, os⟩ : Shared) (ksFn "__init__" q (inA p1 p2 dv) (inB q1 q2 q3 q4 q5 q6 q7 q8 q9 q10) inS (.ref Td) .none doc pm an (.ref cda) ct cc) ar [("self", .ref x), ("value", v)] := bnd q doc pm an cda ct cc p1 p2 q1 q2 q3 q4 q5 q6 q7 q8 q9 q10 dv Td od' nd lT oT
  refine ks_codeAny_call_defAt (args := ar) (fd := ksFn "__init__" q (inA p1 p2 dv) (inB q1 q2 q3 q4 q5 q6 q7 q8 q9 q10) inS (.ref Td) .none doc pm an (.ref cda) ct cc) (binds := [("self", .ref x), ("value", v)]) hroom F0 rfl hlim (codeRec_of X hcd) rfl
    hbind (by show ∀ y ∈ inS.names, _; decide) (locs (by rfl)) (fun h₁ hn k => ?_) rfl rfl rfl
  have X1 : K.In h₁ := X.keeps k
  have hL : hp.objs.size ≠ x := Nat.ne_of_gt (Heap.lt_size hx)
  have hx1 : h₁.get? x = some (excO C t0) := k _ _ hx
  have hC1 := X1 _ _ hC
  show _root_.PySem.wpAt _ _ _ (execs (inB q1 q2 q3 q4 q5 q6 q7 q8 q9 q10) _) _ _ _
  refine ks_wpAt_execs_cons (ks_wpAt_Expr_any (ks_wpAt_MethodCall ?_ (line_eval hln rfl)) rfl rfl)
  refine ks_wpAt_super_base rfl rfl rfl rfl (X1 _ _ ho) rfl rfl rfl (X1 _ _ hcode) rfl hvs hfile T.top ?_
  refine ks_loadName_global rfl rfl (loadGlobal_builtin (hg.keeps k) (mg_none_of X hg T.noS) (hb.keeps k) ((hbb _ (by decide +kernel)).trans PyProof.Rows.Boot.super) ⟨rfl, ?_⟩)
  refine wpAny_loadName_free rfl rfl rfl ⟨_, X1 _ _ hcell, rfl⟩ ?_
  refine wpAny_loadName_local (v := .ref x) rfl rfl hn (by first | rfl | kernel_rfl) ?_
  refine ks_wpAny_isType_cls hC1 rfl ⟨rfl, ?_⟩
  refine ks_wpAny_call_super hC1 rfl hx1 rfl (fun c e => by cases e) (looks_mroIn X1 T.mC) (fun h2 e2 k2 => ?_)
  have X2 : K.In h2 := X1.keeps k2
  have hx2 := k2 _ _ hx1
  have hxC : x ≠ C := fun z => by
    rw [z, hC1] at hx1
    cases hx1
  have hI : Looks (model prog w) h2 (isInstance (.ref x) (.type "ValueError")) true := InstAt.type (C := C) (od := none) ⟨hx2, rfl, rfl, trivial⟩ |>.andThen (looks_subIn X2 T.sVE)
  have up := T.up
  unfold ks_superIn at up
  rw [hcl] at up
  refine kxs_getMethod kxs_ValueError e2 (looks_opaque X2 T.noO) (l₀ := .ref C :: bm) ?_ rfl X2 up hI hxC (by decide) ?_
  · exact fun A Q E s k q => wpAny_bind ((looks_clsIn X2 hcl) A _ E s k (wpAny_pure q))
  have e3 : (h2.push (kxs_mw "ValueError.__init__" x)).get? h2.objs.size = some (kxs_mw "ValueError.__init__" x) := Heap.get?_push_at rfl rfl
  have k3' : ∀ b o, h2.get? b = some o → (h2.push (kxs_mw "ValueError.__init__" x)).get? b = some o := fun b o e => Heap.get?_push_of_some _ e
  have kk : ∀ b o, h₁.get? b = some o → (h2.push (kxs_mw "ValueError.__init__" x)).get? b = some o := fun b o e => k3' b o (k2 b o e)
  have hn3 := hn.keeps kk
  show wpAny _ _ (callWith q5 (.ref h2.objs.size) [] _ []) _ _ _
  refine kxs_callWith (i := "ValueError.__init__") (x := x) (by rfl) (evalArgs_plain ?_)
  refine spliced_more (wpAny_Name (wpAny_loadName_local (v := v) rfl rfl hn3 (by first | rfl | kernel_rfl) (spliced_none ?_)))
  refine ⟨e3, mw_init e3 (kk _ _ hC1) (kk _ _ hx1) (fits1 v) fun h4 t1 k4 hx4 => ?_⟩
  have X4 : K.In h4 := fun b o e => k4 b o (fun z => by rw [z, hnx] at e; cases e) (kk _ _ (X1 b o e))
  obtain ⟨oL, esL, epL, hL', rL⟩ := hn3
  have hL4 := k4 _ _ hL hL'
  have hn4 : h4.Ns hp.objs.size (fun y => List.lookup y ([("self", .ref x), ("value", v)] : List (Str × Value)).reverse) := ⟨oL, esL, epL, hL4, rL⟩
  -- self.value = value
  show _root_.PySem.wpAt _ _ _ _ _ _ _
  refine wpAt_of_wpAny ?_
  refine wpAny_execs_cons (plainObj_wpAny_Assign_Attribute ?_)
  refine wpAny_Name (wpAny_loadName_local (v := v) rfl rfl hn4 (by first | rfl | kernel_rfl) (wpAny_Name (wpAny_loadName_local (v := .ref x) rfl rfl hn4 (by first | rfl | kernel_rfl) ?_)))
  refine set_plain X4 (ox := excO C t1) (od := none) ⟨hx4, rfl, rfl, trivial⟩ T.sa ?_
  refine exc_osa X4 hx4 hcl (show refsVE (.ref C :: bm) = true from hbm) rfl T.noN (fun h5 tk5 dx k5' dn dne hx5 hn5 => ?_)
  have old : ∀ b o, b ≠ x → hp.get? b = some o → h5.get? b = some o := fun b o hb e => k5' b o hb (k4 b o hb (kk b o (k b o e)))
  have big : hp.objs.size ≤ h4.objs.size := Nat.le_of_lt (Heap.lt_size hL4)
  exact wpAny_execs_nil (hq h5 tk5 dx t1 ⟨old, hx5, Nat.le_trans big dn, dne, hn5⟩)
end
end FEx
end PySem
set_option maxHeartbeats 4000000
/-! C(value=v), C an exception class of one's own with __init__. -/
namespace PySem
namespace FEx
open PySem.W PySem.Calls PyProof.Rows PySem.HandSPX
section
variable {M : Model} {A : Around} {E : Value → Shared → Prop} {h : Heap} {g : Array GenState} {d : Drawn} {t : Nat} {os : OsState}
variable {nm q : Str} {C N : Addr} {bs bm bmB : List Value} {hdct : Bool} {sn : List Str} {sub : List Value} {ab : Bool} {col : Option Bool} {dd : Option Addr} {k0 k1 k2 k3 k5 : Option Value} {B newId initId : String}
theorem newK_check (F : ExcBaseFacts B newId initId bmB) (hT : ∀ X : String, bm.contains (.type X) = bmB.contains (.type X)) {v : Value} {Q : Unit → Shared → Prop} (cC : h.get? C = some (excClassObj nm q C N bs bm hdct sn sub ab col dd k0 k1 k2 k3 k5 newId)) (z : Q () ⟨h, g, d, t, os⟩) :
    wpAny M A (checkBuiltinCall newId ⟨[.ref C], [("value", v)]⟩) Q E ⟨h, g, d, t, os⟩ := by
  have inB : (Value.ref C :: bm).contains (.type B) = true := by rw [List.contains_cons, hT, F.hasB, Bool.or_true]
  have ns := F.noStar
  simp only [checkBuiltinCall, F.newKind, F.newSplit, F.newRow]
  repeat (first | refine wpAny_loadPart_at cC ?_ | (refine wpAny_isSubtype_exc cC ?_; rw [inB]) | refine wpAny_staticBase_exc cC ?_ | refine wpAny_madeBy_exc cC ?_ | simp only [bne_self_eq_false, Bool.false_eq_true, if_false] | wp_step)
  exact z
end
section
variable {prog : Program} {w : World} {A : Around} {E : Value → Shared → Prop} {R : Result → Shared → Prop} {h : Heap} {g : Array GenState} {d : Drawn} {t : Nat} {os : OsState}
variable {nm q : Str} {C N : Addr} {bs bm bmB : List Value} {hdct : Bool} {sn : List Str} {sub : List Value} {ab : Bool} {col : Option Bool} {dd : Option Addr} {k0 k1 k2 k3 k5 : Option Value} {B newId initId : String}
theorem newK_run (F : ExcBaseFacts B newId initId bmB) (hT : ∀ X : String, bm.contains (.type X) = bmB.contains (.type X)) {v : Value} (cC : h.get? C = some (excClassObj nm q C N bs bm hdct sn sub ab col dd k0 k1 k2 k3 k5 newId))
    (z : R (.ok (.ret (.ref (h.objs.size + 1)))) ⟨(h.push (kdv_tup [])).push (excO C h.objs.size), g, d, t, os⟩) : codeAny (model prog w) A (.builtin newId ⟨[.ref C], [("value", v)]⟩) R ⟨h, g, d, t, os⟩ := by
  have fe := F.ends
  have in1 : (Value.ref C :: bm).contains (.type B) = true := by rw [List.contains_cons, hT, F.hasB, Bool.or_true]
  have in2 : (Value.ref C :: bm).contains (.type "AttributeError") = false := by rw [List.contains_cons, hT, F.noAttr] <;> rfl
  have in3 : (Value.ref C :: bm).contains (.type "NameError") = false := by rw [List.contains_cons, hT, F.noName] <;> rfl
  have hrest : ([] : List Value).length ≤ sizeLine := Nat.zero_le _
  refine codeAny_builtinAt F.entry ?_
  unfold Builtin.«BaseException.__new__»
  refine wpAt_bind ?_
  show wpAt _ _ _ (stack >>= _) _ _ _
  refine wpAt_bind (wpAt_stack fun p below => wpAt_of_wpAny ?_)
  wp_walk
  refine wpAt_of_wpAny ?_
  rw [F.owner]
  repeat (first | with_reducible refine wpAny_madeHere_exc F.canon cC ?_ | with_reducible refine wpAny_loadPart_at cC ?_ | (with_reducible refine wpAny_isSubtype_exc cC ?_; first | rw [in1] | rw [in2] | rw [in3]) | wp_step)
  show R _ _
  rw [Heap.size_push]
  exact z
theorem callK_type (F : ExcBaseFacts B newId initId bmB) (hT : ∀ X : String, bm.contains (.type X) = bmB.contains (.type X)) {v : Value} {fI : Addr} {Q : Fin → Shared → Prop}
    (cC : h.get? C = some (excClassObj nm q C N bs bm hdct sn sub ab col dd k0 k1 k2 k3 k5 newId)) (iC : W.Looks (model prog w) h (typeLookup (.ref C) "__init__") (some (.ref fI))) (bC : ∀ self, W.Looks (model prog w) h (bindSpecial (.ref fI) self) (.ref fI, [self]))
    (z : codeAny (model prog w) A (.call (.ref fI) ⟨[.ref (h.objs.size + 1)], [("value", v)]⟩)
      (fun r s' => match r with | .ok (.ret y) => y = .none ∧ Q (.done (.ret (.ref (h.objs.size + 1)))) s' | .ok _ => False | .error e => E e s')
      ⟨(h.push (kdv_tup [])).push (excO C h.objs.size), g, d, t, os⟩) : wpAny (model prog w) A (Builtin.«type.__call__» ⟨[.ref C], [("value", v)]⟩) Q E ⟨h, g, d, t, os⟩ := by
  repeat (first | with_reducible refine wpAny_loadPart_at cC ?_ | with_reducible refine wpAny_madeBy_exc cC ?_ | wp_step)
  refine codeAny_call_builtin_code (Code.quiet_builtin _ F.quiet) (newK_check F hT cC ?_)
  refine newK_run F hT cC ?_
  show wpAny _ _ _ _ _ _
  have kp : ∀ b o, h.get? b = some o → ((h.push (kdv_tup [])).push (excO C h.objs.size)).get? b = some o := fun b o e => Heap.get?_push_of_some _ (Heap.get?_push_of_some _ e)
  have cC1 := kp _ _ cC
  have gx : ((h.push (kdv_tup [])).push (excO C h.objs.size)).get? (h.objs.size + 1) = some (excO C h.objs.size) := by heap_get
  have inC : (Value.ref C :: bm).contains (.ref C) = true := by simp
  have i1 := iC.keeps kp
  have b1 := (bC (.ref (h.objs.size + 1))).keeps kp
  unfold isInstance
  repeat (first | with_reducible refine wpAny_loadPart_at gx ?_ | (with_reducible refine wpAny_isSubtype_exc cC1 ?_; rw [inC]) | wp_step)
  show wpAny _ _ (typeLookup (.ref C) _) _ _ _
  refine i1.at ?_
  refine wpAny_holding (wpAny_bind (b1.at ?_))
  refine wpAny_bind (wpAny_call (codeAny_mono z fun r s' y => ?_))
  rcases r with e | (u | _ | _ | _) <;> first | exact y | exact y.elim | skip
  obtain ⟨rfl, y⟩ := y
  first
    | exact wpAny_pure (wpAny_pure y)
    | (wp_walk; exact y)
theorem callK (F : ExcBaseFacts B newId initId bmB) (hT : ∀ X : String, bm.contains (.type X) = bmB.contains (.type X)) {v : Value} {fI : Addr}
    (cC : h.get? C = some (excClassObj nm q C N bs bm hdct sn sub ab col dd k0 k1 k2 k3 k5 newId)) (iC : W.Looks (model prog w) h (typeLookup (.ref C) "__init__") (some (.ref fI))) (bC : ∀ self, W.Looks (model prog w) h (bindSpecial (.ref fI) self) (.ref fI, [self]))
    (z : codeAny (model prog w) (A.under (.builtin "type.__call__" ⟨[.ref C], [("value", v)]⟩)) (.call (.ref fI) ⟨[.ref (h.objs.size + 1)], [("value", v)]⟩) (W.InitBack (h.objs.size + 1) R) ⟨(h.push (kdv_tup [])).push (excO C h.objs.size), g, d, t, os⟩) :
    codeAny (model prog w) A (.call (.ref C) ⟨[], [("value", v)]⟩) R ⟨h, g, d, t, os⟩ := by
  have f1 := tc_lookup
  have f2 := tc_bind (.ref C)
  have ty : (⟨h, g, d, t, os⟩ : Shared).TypeIs (.ref C) "type" := ⟨_, cC, rfl⟩
  refine codeAny_of_tree ?_
  show wpAny _ _ (callAny (.ref C) _) _ _ _
  repeat (any_goals (first | assumption | with_reducible refine wpAny_loadPart_at cC ?_ | wp_step))
  refine ⟨rfl, ?_⟩
  refine codeAny_call_builtin_at (Code.quiet_builtin _ (by decide +kernel)) entry_typeCall ?_
  refine wpAny_check_type_call_sub cC (callK_type F hT cC iC bC ?_)
  refine codeAny_mono z fun r s' y => ?_
  rcases r with e | (u | _ | _ | _) <;> exact y
end
end FEx
end PySem
set_option maxHeartbeats 4000000
namespace PySem
namespace FEx
open PySem.W PySem.Calls PyProof.Rows PySem.HandSPX
section
variable {prog : Program} {w : World} {A : Around} {E : Value → Shared → Prop} {R : Result → Shared → Prop} {s : Shared} {K : Frag} {C fI : Addr}
/-- C() -/
theorem made0 (T : Txt prog K C fI) (X : K.In s.heap) (hlim : s.heap.NoLimit) {mg mb : Str → Option Value} (hg : s.heap.Ns mainGlobals mg) (hb : s.heap.Ns builtinsNs mb) (hbb : ∀ y : Str, y ≠ "__name__" → mb y = bootBuiltins y) (hroom : A.depth + 1 < recursionLimit)
    (hq : ∀ h' tk e d, Made s.heap h' e C d .none → R (.ok (.ret (.ref e))) { s with heap := h', toks := tk }) :
    codeAny (model prog w) A (.call (.ref C) ⟨[], []⟩) R s := by
  obtain ⟨nm, q, N, bs, bm, sn, sub, ab, col, dd, k0, k1, k2, k3, k5, hC, hbm⟩ := T.cls
  obtain ⟨hp, g, dr, tk, os⟩ := s
  have k : ∀ b o, hp.get? b = some o → ((hp.push (kdv_tup [])).push (excO C hp.objs.size)).get? b = some o := fun b o e => Heap.get?_push_of_some _ (Heap.get?_push_of_some _ e)
  have hget : ((hp.push (kdv_tup [])).push (excO C hp.objs.size)).get? (hp.objs.size + 1) = some (excO C hp.objs.size) := by heap_get
  have hnx : K.lookup (hp.objs.size + 1) = none := by
    cases e : K.lookup (hp.objs.size + 1) with
    | none => rfl
    | some o =>
      have z : hp.get? (hp.objs.size + 1) = some o := X _ _ e
      exact absurd (Nat.lt_of_succ_lt (Heap.lt_size z)) (Nat.lt_irrefl _)
  refine call_own F.excBase_ValueError (fun X => refsVE_contains X bm hbm) (X _ _ hC) (looks_findIn X T.iC) (fun self => bind_fn X self T.tC) (Nat.zero_le _) ?_
  refine init_runsA (s := ⟨(hp.push (kdv_tup [])).push (excO C hp.objs.size), g, dr, tk, os⟩) T (bindA0 (X.keeps k)) (X.keeps k) (hlim.keeps k) (hg.keeps k) (hb.keeps k) hbb hget hnx ?_ fun h' tk' dx t1 ⟨k', hx, dn, dne, hns⟩ => ?_
  · show A.depth + 1 < recursionLimit
    exact hroom
  · have old : ∀ b o, hp.get? b = some o → h'.get? b = some o := fun b o e => k' b o (Nat.ne_of_lt (Nat.lt_succ_of_lt (Heap.lt_size e))) (k b o e)
    have z : hp.objs.size + 1 + 1 ≤ dx := by
      have q := dn
      rw [Heap.size_push, Heap.size_push] at q
      exact q
    exact ⟨rfl, hq h' tk' (hp.objs.size + 1) dx ⟨old, Nat.le_succ _, ⟨_, _, hx, rfl, rfl, rfl, rfl⟩, Nat.le_trans (Nat.le_trans (Nat.le_succ _) (Nat.le_succ _)) z, dne, hns⟩⟩
/-- C(value=v) -/
theorem madeK (T : Txt prog K C fI) {v : Value} (X : K.In s.heap) (hlim : s.heap.NoLimit) {mg mb : Str → Option Value} (hg : s.heap.Ns mainGlobals mg) (hb : s.heap.Ns builtinsNs mb) (hbb : ∀ y : Str, y ≠ "__name__" → mb y = bootBuiltins y) (hroom : A.depth + 1 < recursionLimit)
    (hq : ∀ h' tk e d, Made s.heap h' e C d v → R (.ok (.ret (.ref e))) { s with heap := h', toks := tk }) :
    codeAny (model prog w) A (.call (.ref C) ⟨[], [("value", v)]⟩) R s := by
  obtain ⟨nm, q, N, bs, bm, sn, sub, ab, col, dd, k0, k1, k2, k3, k5, hC, hbm⟩ := T.cls
  obtain ⟨hp, g, dr, tk, os⟩ := s
  have k : ∀ b o, hp.get? b = some o → ((hp.push (kdv_tup [])).push (excO C hp.objs.size)).get? b = some o := fun b o e => Heap.get?_push_of_some _ (Heap.get?_push_of_some _ e)
  have hget : ((hp.push (kdv_tup [])).push (excO C hp.objs.size)).get? (hp.objs.size + 1) = some (excO C hp.objs.size) := by heap_get
  have hnx : K.lookup (hp.objs.size + 1) = none := by
    cases e : K.lookup (hp.objs.size + 1) with
    | none => rfl
    | some o =>
      have z : hp.get? (hp.objs.size + 1) = some o := X _ _ e
      exact absurd (Nat.lt_of_succ_lt (Heap.lt_size z)) (Nat.lt_irrefl _)
  refine callK F.excBase_ValueError (fun X => refsVE_contains X bm hbm) (X _ _ hC) (looks_findIn X T.iC) (fun self => bind_fn X self T.tC) ?_
  refine init_runsA (s := ⟨(hp.push (kdv_tup [])).push (excO C hp.objs.size), g, dr, tk, os⟩) T (bindAK (X.keeps k)) (X.keeps k) (hlim.keeps k) (hg.keeps k) (hb.keeps k) hbb hget hnx ?_ fun h' tk' dx t1 ⟨k', hx, dn, dne, hns⟩ => ?_
  · show A.depth + 1 < recursionLimit
    exact hroom
  · have old : ∀ b o, hp.get? b = some o → h'.get? b = some o := fun b o e => k' b o (Nat.ne_of_lt (Nat.lt_succ_of_lt (Heap.lt_size e))) (k b o e)
    have z : hp.objs.size + 1 + 1 ≤ dx := by
      have q := dn
      rw [Heap.size_push, Heap.size_push] at q
      exact q
    exact ⟨rfl, hq h' tk' (hp.objs.size + 1) dx ⟨old, Nat.le_succ _, ⟨_, _, hx, rfl, rfl, rfl, rfl⟩, Nat.le_trans (Nat.le_trans (Nat.le_succ _) (Nat.le_succ _)) z, dne, hns⟩⟩
end
end FEx
end PySem
namespace L2.DL
open PySem PySem.Spec PyProof.Rows
section
variable {X : Cx} {pins : List (Addr × Obj)} {σ : St} {H : Hp} {s : Shared} {h' : Heap}
/-- two new objects, the second one beyond the abstract heap's look -/
theorem inv_two {d e : Addr} {od oe : HO} {t' : Nat} (I : Inv X pins σ H s) (k : ∀ b u, s.heap.get? b = some u → h'.get? b = some u) (pd : s.heap.objs.size ≤ d) (pe : s.heap.objs.size ≤ e) (ne : d ≠ e) (o1 : ObjOk X.prog X.w (upd H d od) h' d od) (o2 : ∀ H', ObjOk X.prog X.w H' h' e oe) :
    Inv X pins σ (upd (upd H d od) e oe) { s with heap := h', toks := t' } := by
  have fd := I.hok.fresh pd
  have fe := I.hok.fresh pe
  have na : upd H d od e = none := by rw [upd_ne (Ne.symm ne)]; exact fe
  have nn : ∀ {b : Addr} {o : HO}, H b = some o → upd (upd H d od) e oe b = some o := fun {b o} q => by
    rw [upd_ne (ne_of_none q fe), upd_ne (ne_of_none q fd)]
    exact q
  have hk := I.hok.laid k pd o1
  refine I.un ⟨fun b u q _ _ _ => k b u q, fun b u q _ _ _ => ⟨u.slots, k b u q⟩, fun b u q n _ => ?_, fun b u q _ => ⟨u, k b u q⟩, fun b xs q => nn q, fun b u xs q => nn q, fun b ps q => ⟨#[], by rw [nn q]; simp⟩⟩ fun b o q => ?_
  · rw [upd_ne (Nat.ne_of_lt (Nat.lt_of_lt_of_le (Heap.lt_size q) pe)), upd_ne (Nat.ne_of_lt (Nat.lt_of_lt_of_le (Heap.lt_size q) pd))]
    exact n
  · by_cases hb : b = e
    · subst hb
      rw [upd_same] at q
      cases q
      exact o2 _
    · rw [upd_ne hb] at q
      exact (hk b o q).stay (fun _ _ _ y => y) (fun c y => by rw [upd_ne (ne_of_none y na)]; exact y) fun c xs y => by rw [upd_ne (ne_of_none y na)]; exact y
/-- what a made exception leaves -/
theorem inv_made {C e d : Addr} {v : V} {v' : Value} {t' : Nat} (I : Inv X pins σ H s) (M : PySem.FEx.Made s.heap h' e C d v') (rv : RelV v v') : Inv X pins σ (upd (upd H d (.xd [(("value" : Str), v)])) e (ExT C d e)) { s with heap := h', toks := t' } := by
  obtain ⟨oe, fv, hoe, hc, hd, hdat, h1⟩ := M.obj
  exact inv_two I M.keep M.dbig M.new M.dne ⟨_, M.ns, fun f => relO_val rv f⟩ fun H' => exT_ok hoe ⟨hc, hd⟩ hdat
end
/-- C(e), held -/
def tMkV (C : Addr) (ta : TA) : TE := fun σ H Q => ta σ H fun vs H1 => ∃ v, vs = [v] ∧ ∀ d e, H1 d = none → H1 e = none → d ≠ e → Q (.ref e) (upd (upd H1 d (.xd [(("value" : Str), v)])) e (ExT C d e))
def tMkV0 (C : Addr) : TE := fun σ H Q => ∀ d e, H d = none → H e = none → d ≠ e → Q (.ref e) (upd (upd H d (.xd [(("value" : Str), V.non)])) e (ExT C d e))
section
variable {X : Cx} {C fI : Addr}
theorem pe_mkV {a : Expr} {ta : TA} {n : Str} {p pos : Pos} {k : Nat} (T : PySem.FEx.Txt X.prog X.K C fI) (hm : X.mg n = some (.ref C)) (hr : Room k X.A) (ha : PA X [a] ta) (hg : Gl X n := by rfl) (hdb : (n == ("__debug__" : Str)) = false := by decide)
    (he : starEach (a :: []) X.env = (false, eval a X.env) :: starEach [] X.env := by rfl) (hpl : (backTo pos (starEach [] X.env)).any (·.1) = false := by rfl) :
    PE X (.Call (.Name n p) [a] [] pos) (tMkV C ta) := by
  refine ⟨fun pins s σ H Q I h => ?_⟩
  refine wpAny_Call_Name_kw (ld_glob I hg hm ?_ hdb)
  refine PySem.W.callWith_K (h₀ := X.base) I.ok.mod.kin T.kC (thn (ha.run pos pins s σ H _ I h) fun us s1 hh => ?_) he hpl
  obtain ⟨vs, H1, I1, r1, v, ev, q1⟩ := hh
  subst ev
  refine ⟨I1.kIn, ?_⟩
  cases r1 with
  | cons rv rn =>
    rename_i v' us'
    cases rn
    show wpAny _ _ (call (.ref C) [v']) _ _ _
    have hlim := I1.nolimit
    obtain ⟨mb, hB, hBB⟩ := I1.ok.mod.blt
    obtain ⟨hp, g, dr, tk, os⟩ := s1
    refine wpAny_call (PySem.FEx.made T I1.kIn hlim (I1.ok.mod.glob.keeps I1.bk) (hB.keeps I1.bk) hBB (by have := hr.dp; omega) fun h' tk' e d M => ?_)
    exact ⟨.ref e, _, inv_made (t' := tk') I1 M rv, rfl, q1 d e (I1.hok.fresh M.dbig) (I1.hok.fresh M.new) M.dne⟩
theorem pe_mkV0 {n : Str} {p pos : Pos} {k : Nat} (T : PySem.FEx.Txt X.prog X.K C fI) (hm : X.mg n = some (.ref C)) (hr : Room k X.A) (hg : Gl X n := by rfl) (hdb : (n == ("__debug__" : Str)) = false := by decide) : PE X (.Call (.Name n p) [] [] pos) (tMkV0 C) := by
  refine ⟨fun pins s σ H Q I h => ?_⟩
  refine wpAny_Call_Name_kw (ld_glob I hg hm ?_ hdb)
  refine PySem.W.callWith_K0 I.kIn T.kC ?_
  have hlim := I.nolimit
  obtain ⟨mb, hB, hBB⟩ := I.ok.mod.blt
  obtain ⟨hp, g, dr, tk, os⟩ := s
  refine wpAny_call (PySem.FEx.made0 T I.kIn hlim (I.ok.mod.glob.keeps I.bk) (hB.keeps I.bk) hBB (by have := hr.dp; omega) fun h' tk' e d M => ?_)
  exact ⟨.ref e, _, inv_made (v := .non) (t' := tk') I M rfl, rfl, h d e (I.hok.fresh M.dbig) (I.hok.fresh M.new) M.dne⟩
end
end L2.DL
set_option maxHeartbeats 4000000
namespace L2.DL
open PySem PySem.Spec PyProof.Rows
section
variable {X : Cx} {ρ : Rho} {μ μ1 : Mu} {a e : Expr} {pos p : Pos} {n : Str} {k : Nat} {C fI : Addr} {x : Dt} {kws : List Keyword}
/-- the two new objects stand for the exception -/
theorem hold_exc {K : PySem.W.Frag} {F H : Hp} {μ : Mu} {d e : Addr} {v : V} {x : Dt} (hh : Holds K F μ H) (r : Rp K F x v) (hd : H d = none) (he : H e = none) (ne : d ≠ e) :
    ∃ F', Same F F' ∧ Holds K F' μ (upd (upd H d (.xd [(("value" : Str), v)])) e (ExT C d e)) ∧ Rp K F' (.exc C x) (.ref e) := by
  have fd := hh.fnone hd
  have fe := hh.fnone he
  have s1 := same_new (o := HO.xd [(("value" : Str), v)]) fd
  have fe2 : upd F d (.xd [(("value" : Str), v)]) e = none := by rw [upd_ne (Ne.symm ne)]; exact fe
  have s2 := same_new (o := ExT C d e) fe2
  have he2 : upd H d (.xd [(("value" : Str), v)]) e = none := by rw [upd_ne (Ne.symm ne)]; exact he
  exact ⟨_, s1.trans s2, (hh.new hd).new he2, e, d, v, rfl, upd_same, by rw [upd_ne ne]; exact upd_same, Rp.mono (s1.trans s2) r⟩
/-- C(e), held -/
theorem ae_mk (T : PySem.FEx.Txt X.prog X.K C fI) (hm : X.mg n = some (.ref C)) (g : Gd X (k + 1)) (ha : AE X a ρ μ (.ok (.d x) μ1)) (hg : Gl X n := by rfl) (hdb : (n == ("__debug__" : Str)) = false := by decide)
    (he : starEach (a :: []) X.env = (false, eval a X.env) :: starEach [] X.env := by rfl) (hpl : (backTo pos (starEach [] X.env)).any (·.1) = false := by rfl) : AE X (.Call (.Name n p) [a] [] pos) ρ μ (.ok (.d (.exc C x)) μ1) :=
  AE.of (pe_mkV T hm g.hr (pa_cons pe_rd pa_nil he) hg hdb he hpl) fun F H σ hs hh Q W tk q => ha.go hs hh tk fun F1 H1 v e1 h1 a1 => ⟨v, rfl, fun d e hd he ne => by
    obtain ⟨F2, s2, h2, r2⟩ := hold_exc (C := C) h1 a1 hd he ne
    exact q F2 _ _ (e1.trans s2) h2 r2⟩
/-- C(), held -/
theorem ae_mk0 (T : PySem.FEx.Txt X.prog X.K C fI) (hm : X.mg n = some (.ref C)) (g : Gd X (k + 1)) (hg : Gl X n := by rfl) (hdb : (n == ("__debug__" : Str)) = false := by decide) : AE X (.Call (.Name n p) [] [] pos) ρ μ (.ok (.d (.exc C .non)) μ) :=
  AE.of (pe_mkV0 T hm g.hr hg hdb) fun F H σ hs hh Q W tk q => fun d e hd he ne => by
    obtain ⟨F2, s2, h2, r2⟩ := hold_exc (C := C) (x := .non) (v := .non) hh rfl hd he ne
    exact q F2 _ _ s2 h2 r2
/-- C(value=e), held -/
theorem ae_mkK (T : PySem.FEx.Txt X.prog X.K C fI) (hm : X.mg n = some (.ref C)) (g : Gd X (k + 1)) (ha : AK X kws ρ μ (.ok [.d x] μ1)) (hg : Gl X n := by rfl) (hall : (backToKw pos (keywordEach kws X.env)).all (·.1.isSome) = true := by rfl)
    (hks : (backToKw pos (keywordEach kws X.env)).filterMap (·.1) = (["value"] : List Str) := by rfl) (hdb : (n == ("__debug__" : Str)) = false := by decide) (hpl : ((backTo pos (starEach [] X.env)).any (·.1) || (backToKw pos (keywordEach kws X.env)).any (·.1.isNone)) = false := by rfl) : AE X (.Call (.Name n p) [] kws pos) ρ μ (.ok (.d (.exc C x)) μ1) := by
  intro F H σ hs hh Q W tk q pins s I
  refine wpAny_Call_Name_kw (ld_glob I hg hm ?_ hdb)
  refine PySem.W.callWith_KW0 (h₀ := X.base) I.ok.mod.kin T.kC hall ?_ hpl
  refine thn (pk_rd.run pos pins s σ H (fun vs H1 => ∃ v, vs = [v] ∧ ∃ F1, Same F F1 ∧ Holds X.K F1 μ1 H1 ∧ Rp X.K F1 x v) I (ha.go hs hh tk fun F1 H1 vs e1 h1 a1 => by
    obtain ⟨v, ev, av⟩ := avs1 a1
    exact ⟨v, ev, F1, e1, h1, av⟩)) fun ws s2 ⟨vs, H2, I2, r, v, ev, F1, e1, h1, rv⟩ => ⟨I2.kIn, ?_⟩
  rw [hks]
  subst ev
  obtain ⟨v', ew, ru⟩ : ∃ v', ws = [v'] ∧ RelV v v' := by
    cases r with
    | cons ru rn =>
      cases rn
      exact ⟨_, rfl, ru⟩
  subst ew
  show wpAny _ _ (call (.ref C) ([] ++ []) [("value", v')]) _ _ _
  have hlim := I2.nolimit
  obtain ⟨mb, hB, hBB⟩ := I2.ok.mod.blt
  obtain ⟨hp, g0, dr, tk0, os⟩ := s2
  refine wpAny_call (PySem.FEx.madeK T I2.kIn hlim (I2.ok.mod.glob.keeps I2.bk) (hB.keeps I2.bk) hBB (by have := g.hr.dp; omega) fun h' tk' e d M => ?_)
  obtain ⟨F2, s2, h2, r2⟩ := hold_exc (C := C) h1 rv (I2.hok.fresh M.dbig) (I2.hok.fresh M.new) M.dne
  exact ⟨.ref e, _, inv_made (t' := tk') I2 M ru, rfl, q F2 _ _ (e1.trans s2) h2 r2⟩
/-- an own list, told as a value -/
theorem ae_own {q : Addr} (h : AE X a ρ μ (.ok (.d (.opq (.ref q))) μ1)) : AE X a ρ μ (.ok (.l q) μ1) := AE.of pe_rd fun F H σ hs hh Q W tk z => h.go hs hh tk fun F1 H1 v e1 h1 a1 => z F1 H1 v e1 h1 a1
end
/-- C(), an exception class of one's own without __init__ -/
def veB : List Value := [.type "ValueError", .type "Exception", .type "BaseException", .type "object"]
section
variable {X : Cx} {ρ : Rho} {μ : Mu} {pos p : Pos} {n : Str} {C : Addr}
theorem ae_ex0 (q : PySem.W.excIn X.K C veB "ValueError.__new__" = true) (hm : X.mg n = some (.ref C)) (kC : PySem.W.keepIn X.K (.ref C) = true) (hg : Gl X n := by rfl) (hdb : (n == ("__debug__" : Str)) = false := by decide) : AE X (.Call (.Name n p) [] [] pos) ρ μ (.ok (.d (.ex0 C)) μ) := by
  refine AE.of (t := fun σ H Q => ∀ a, H a = none → Q (.ref a) (upd H a (ExO (.ref C) a))) ⟨fun pins s σ H Q I h => ?_⟩ fun F H σ hs hh Q W tk q => fun a ha => ?_
  · refine wpAny_Call_Name_kw (ld_glob I hg hm ?_ hdb)
    refine PySem.W.callWith_K0 I.kIn kC ?_
    show wpAny _ _ (call (.ref C) []) _ _ _
    obtain ⟨bm, N, nm, qn, bs, hdct, sn, sub, ab, col, dd, k0, k1, k2, k3, k5, mN, hC, hN, hni, T⟩ := exc_obj I.kIn q
    refine wpAny_call_exc_subT PySem.F.excBase_ValueError T hC hN hni (fun h' a hm => ?_) (Nat.zero_le _)
    have hn : H a = none := I.hok.gone hm.new
    obtain ⟨t, ht, _, _⟩ := hm.there
    exact ⟨.ref a, upd H a (ExO (.ref C) a), I.laidN hm.keeps hm.new hn (exO_ok ht ⟨rfl, rfl⟩ rfl rfl rfl (show 4 < 6 by decide)), rfl, h a hn⟩
  · have f0 := hh.fnone ha
    exact q _ _ _ (same_new f0) (hh.new ha) ⟨a, rfl, upd_same⟩
end
/-! isinstance(e, c), e held -/
def rIsX (K : PySem.W.Frag) : List V → Hp → VK → Prop := fun xs H Q => ∃ (a C : Addr) (c : V) (cv : Value) (b : Bool), xs = [.ref a, c] ∧ (∀ u, RelV c u → u = cv) ∧ PySem.FEx.Cl K C ∧ ((∃ dx u, H a = some (ExT C dx a) ∧ H dx = some (.xd [("value", u)])) ∨ H a = some (ExO (.ref C) a)) ∧ PySem.W.kitOne K (.ref C) cv = some b ∧ Q (.bl b) H
theorem call_isX {X : Cx} : CallR X (.builtin "isinstance") (rIsX X.K) := by
  intro pins s σ H xs us Q I r h
  obtain ⟨a, C, c, cv, b, rfl, hc, cl, hz, e, q⟩ := h
  obtain ⟨u1, u2, rfl, r1, r2⟩ := vals2 r
  obtain rfl : u1 = Value.ref a := r1
  obtain rfl := hc _ r2
  rcases hz with ⟨dx, u, h1, h2⟩ | h1
  · obtain ⟨oe, od, mA, J, hn, ho, hr⟩ := exT_at I h1 h2
    exact PySem.W.kia_one (PySem.FEx.kitX_own cl) I.kIn ⟨oe, od, J⟩ e (fun z => nomatch z) fun tk => ⟨.bl b, H, I.kept (t' := tk) fun _ _ z => z, rfl, q⟩
  · have x1 : ObjOk X.prog X.w H s.heap a (ExO (.ref C) a) := I.hok a _ h1
    obtain ⟨⟨oe, vs, e1, e2, e3, _⟩, _, _⟩ := x1
    have J : PySem.W.InstAt s.heap a oe C none := by
      obtain ⟨oc, od, oda, osl⟩ := oe
      obtain ⟨g1, g2⟩ := e2
      dsimp only at g1 g2 e3
      subst g1 g2 e3
      exact ⟨e1, rfl, rfl, trivial⟩
    exact PySem.W.kia_one (PySem.W.handS_kitx_exc cl.ga cl.gg cl.ex cl.hd cl.ca cl.cn cl.ct cl.mo) I.kIn J e (fun z => nomatch z) fun tk => ⟨.bl b, H, I.kept (t' := tk) fun _ _ z => z, rfl, q⟩
/-- a held exception: its class, what it bears -/
inductive IsX (C : Addr) : Dt → Prop where
  | a (x : Dt) : IsX C (.exc C x)
  | b : IsX C (.ex0 C)
section
variable {K : PySem.W.Frag} {μ : Mu}
theorem bc_isX {C : Addr} {d : Dt} {c : V} {cv : Value} {b : Bool} (hd : IsX C d) (cl : PySem.FEx.Cl K C) (hc : ∀ u, RelV c u → u = cv) (e : PySem.W.kitOne K (.ref C) cv = some b) : BC K (rIsX K) [.d d, .d (.opq c)] μ (.d (.bl b)) μ :=
  bc_val fun F H vs hh a => by
    obtain ⟨v, u, e0, a1, a2⟩ := avs2 a
    have e2 : u = c := a2
    cases hd with
    | a x =>
      obtain ⟨p, dx, w, ev, h1, h2, _⟩ := a1
      exact ⟨.bl b, rfl, fun Q q => ⟨p, C, c, cv, b, by rw [e0, ev, e2], hc, cl, .inl ⟨dx, w, hh.ex _ _ h1, hh.ex _ _ h2⟩, e, q⟩⟩
    | b =>
      obtain ⟨p, ev, h1⟩ := a1
      exact ⟨.bl b, rfl, fun Q q => ⟨p, C, c, cv, b, by rw [e0, ev, e2], hc, cl, .inr (hh.ex _ _ h1), e, q⟩⟩
end
end L2.DL
set_option maxHeartbeats 0
namespace K08
open PySem PySem.Spec PyProof.Rows L2 L2.DL
def top (i : Nat) : Stmt := PySem.Challenge.pw_signlanes_k08_errors_by_their_classes.main.body.getD i (.Pass ⟨0, 0, 0, 0⟩)
def inner (i : Nat) : Stmt := match top i with
  | .ClassDef _ _ _ b _ _ _ _ _ _ _ => b.getD 0 (.Pass ⟨0, 0, 0, 0⟩)
  | _ => .Pass ⟨0, 0, 0, 0⟩
abbrev s__law_hash : Stmt := top 24
abbrev s__law_generator : Stmt := top 25
abbrev s__law_random : Stmt := top 26
abbrev s__law_made : Stmt := top 27
abbrev s__law_first : Stmt := top 28
abbrev s__law_second : Stmt := top 29
abbrev s__law_third : Stmt := top 30
abbrev s__law_kinds : Stmt := top 31
abbrev s__law_empty : Stmt := top 32
abbrev s__law_named : Stmt := top 33
abbrev s__law_value : Stmt := top 34
abbrev s_law : Stmt := top 35
def d__law_hash : He.DefD := ⟨("_law_hash", none), "_law_hash", "_law_hash", defArgs s__law_hash, defBody s__law_hash, defScope s__law_hash, [], []⟩
def d__law_generator : He.DefD := ⟨("_law_generator", none), "_law_generator", "_law_generator", defArgs s__law_generator, defBody s__law_generator, defScope s__law_generator, [], []⟩
def d__law_random : He.DefD := ⟨("_law_random", none), "_law_random", "_law_random", defArgs s__law_random, defBody s__law_random, defScope s__law_random, [], []⟩
def d__law_made : He.DefD := ⟨("_law_made", none), "_law_made", "_law_made", defArgs s__law_made, defBody s__law_made, defScope s__law_made, [], []⟩
def d__law_first : He.DefD := ⟨("_law_first", none), "_law_first", "_law_first", defArgs s__law_first, defBody s__law_first, defScope s__law_first, [], []⟩
def d__law_second : He.DefD := ⟨("_law_second", none), "_law_second", "_law_second", defArgs s__law_second, defBody s__law_second, defScope s__law_second, [], []⟩
def d__law_third : He.DefD := ⟨("_law_third", none), "_law_third", "_law_third", defArgs s__law_third, defBody s__law_third, defScope s__law_third, [], []⟩
def d__law_kinds : He.DefD := ⟨("_law_kinds", none), "_law_kinds", "_law_kinds", defArgs s__law_kinds, defBody s__law_kinds, defScope s__law_kinds, [], []⟩
def d__law_empty : He.DefD := ⟨("_law_empty", none), "_law_empty", "_law_empty", defArgs s__law_empty, defBody s__law_empty, defScope s__law_empty, [], []⟩
def d__law_named : He.DefD := ⟨("_law_named", none), "_law_named", "_law_named", defArgs s__law_named, defBody s__law_named, defScope s__law_named, [], []⟩
def d__law_value : He.DefD := ⟨("_law_value", none), "_law_value", "_law_value", defArgs s__law_value, defBody s__law_value, defScope s__law_value, [], []⟩
def d_law : He.DefD := ⟨("law", none), "law", "law", defArgs s_law, defBody s_law, defScope s_law, [], []⟩
def fn : List He.DefD := [d__law_hash, d__law_generator, d__law_random, d__law_made, d__law_first, d__law_second, d__law_third, d__law_kinds, d__law_empty, d__law_named, d__law_value, d_law]
def fa : List He.Fa := [.glo "_law_hash",
  .glo "_law_generator",
  .glo "_law_random",
  .glo "_law_made",
  .glo "_law_first",
  .glo "_law_second",
  .glo "_law_third",
  .glo "_law_kinds",
  .glo "_law_empty",
  .glo "_law_named",
  .glo "_law_value",
  .glo "law",
  .glo "FoldError",
  .glo "InvalidNumber",
  .glo "InvalidWord",
  .glo "InvalidList",
  .glo "InvalidGroup",
  .glo "InvalidPicture",
  .glo "InvalidSketch",
  .glo "InvalidFold",
  .glo "InvalidPaper",
  .glo "InvalidMachine",
  .glo "InvalidMap",
  .glo "InvalidMove",
  .glo "InvalidRow",
  .glo "InvalidLines",
  .glo "InvalidDeed",
  .glo "InvalidFlag",
  .glo "InvalidBook",
  .glo "Unlike",
  .glo "TooLong",
  .glo "TooMany",
  .glo "NothingToUndo",
  .glo "NothingToRedo",
  .free "ValueError",
  .free "int",
  .free "isinstance",
  .free "len",
  .free "list",
  .free "max",
  .free "range",
  .free "sum",
  .free "super"]
def er : List ErD := [⟨"InvalidNumber", "InvalidNumber.__init__", inner 2⟩, ⟨"InvalidWord", "InvalidWord.__init__", inner 3⟩, ⟨"InvalidList", "InvalidList.__init__", inner 4⟩, ⟨"InvalidGroup", "InvalidGroup.__init__", inner 5⟩, ⟨"InvalidPicture", "InvalidPicture.__init__", inner 6⟩, ⟨"InvalidSketch", "InvalidSketch.__init__", inner 7⟩, ⟨"InvalidFold", "InvalidFold.__init__", inner 8⟩, ⟨"InvalidPaper", "InvalidPaper.__init__", inner 9⟩, ⟨"InvalidMachine", "InvalidMachine.__init__", inner 10⟩, ⟨"InvalidMap", "InvalidMap.__init__", inner 11⟩, ⟨"InvalidMove", "InvalidMove.__init__", inner 12⟩, ⟨"InvalidRow", "InvalidRow.__init__", inner 13⟩, ⟨"InvalidLines", "InvalidLines.__init__", inner 14⟩, ⟨"InvalidDeed", "InvalidDeed.__init__", inner 15⟩, ⟨"InvalidFlag", "InvalidFlag.__init__", inner 16⟩, ⟨"InvalidBook", "InvalidBook.__init__", inner 17⟩, ⟨"Unlike", "Unlike.__init__", inner 18⟩, ⟨"TooLong", "TooLong.__init__", inner 19⟩, ⟨"TooMany", "TooMany.__init__", inner 20⟩]
def eN : List Str := ["InvalidNumber", "InvalidWord", "InvalidList", "InvalidGroup", "InvalidPicture", "InvalidSketch", "InvalidFold", "InvalidPaper", "InvalidMachine", "InvalidMap", "InvalidMove", "InvalidRow", "InvalidLines", "InvalidDeed", "InvalidFlag", "InvalidBook", "Unlike", "TooLong", "TooMany", "NothingToUndo", "NothingToRedo"]
def nK (k : Nat) : Str := eN.getD k ""
/-- the k-th class -/
def clsK (K : PySem.W.Frag) (k : Nat) : Addr := He.ga K (nK k)
def exA (K : PySem.W.Frag) : Bool := (List.range 21).all fun k => (List.range 21).all fun j => decide (PySem.W.kitOne K (.ref (clsK K k)) (.ref (clsK K j)) = some (decide (j = k)))
def exB (K : PySem.W.Frag) : Bool := (List.range 21).all fun k => decide (PySem.W.kitOne K (.ref (clsK K k)) (.ref (He.ga K "FoldError")) = some true) && decide (PySem.W.kitOne K (.ref (clsK K k)) (.type "ValueError") = some true)
def exC (K : PySem.W.Frag) : Bool := (["FoldError", "NothingToUndo", "NothingToRedo"] : List Str).all fun x => clB K x && (PySem.W.excIn K (He.ga K x) veB "ValueError.__new__" && PySem.W.keepIn K (.ref (He.ga K x)))
def exD (K : PySem.W.Frag) : Bool := decide (PySem.W.kitOne K (.ref (He.ga K "FoldError")) (.type "ValueError") = some true)
def ex (K : PySem.W.Frag) : Bool := exA K && (exB K && (exC K && exD K))
abbrev R : PySem.W.OpenRow := PySem.W.OpenLaw.row PySem.Challenge.rw_signlanes_k08_errors_by_their_classes
abbrev Pw : Program := (PySem.Challenge.rw_signlanes_k08_errors_by_their_classes).prog
abbrev hk : PySem.W.Hook := hookW Pw 5 fa fn er ex
def ob (s : PySem.W.SharedT) : AlE := obsWG Pw 5 fa fn er ex (HandSHeadRun.getT s)
theorem ob_eq (s : PySem.W.SharedT) : ob s = hk.obs s.abs := obsWG_eq (HandSHeadRun.getT_eq s)
abbrev loose : List Str := (["FoldError", "InvalidNumber", "InvalidWord", "InvalidList", "InvalidGroup", "InvalidPicture", "InvalidSketch", "InvalidFold", "InvalidPaper", "InvalidMachine", "InvalidMap", "InvalidMove", "InvalidRow", "InvalidLines", "InvalidDeed", "InvalidFlag", "InvalidBook", "Unlike", "TooLong", "TooMany", "NothingToUndo", "NothingToRedo", "_law_hash", "_law_generator", "_law_random", "_law_made", "_law_first", "_law_second", "_law_third", "_law_kinds"] : List Str) ++ (["_law_empty", "_law_named", "_law_value"] : List Str)
theorem run (w : World) : HandSHeadRun.RunEq R (PySem.W.view R.prog [35]) hk ob 6000 loose w := by
  intro os
  kernel_rfl
end K08
/-! Mirrors of kinds.py, words.py: what their functions compute, in plain Lean. -/
namespace KM
open L2.DL
/-- the signs, by number -/
def sg : List Nat := [97, 65, 98, 66, 99, 67, 100, 68, 101, 69, 102, 70]
def isWhole : Dt → Bool
  | .int _ => true
  | _ => false
/-- a bound: none, or a number -/
def bnd : Option Int → Dt
  | none => .non
  | some i => .int i
def btw (x : Dt) (lo hi : Option Int) : Bool := match x with
  | .int i => (match lo with
    | none => true
    | some a => decide (a ≤ i)) && (match hi with
    | none => true
    | some b => decide (i ≤ b))
  | _ => false
def isMany (x : Dt) : Bool := btw x (some 1) (some 6)
def signsOf (m : Nat) : List Nat := sg.take (2 * m)
def okWord (m : Nat) (l : List Nat) : Bool := decide (l.length ≤ 1000) && l.all fun c => decide (c ∈ signsOf m)
def isWordFor (m : Nat) : Dt → Bool
  | .str l => okWord m l
  | _ => false
def num (c : Nat) : Nat := sg.idxOf c
def sgn (n : Nat) : Nat := sg.getD n 0
def nums (l : List Nat) : List Nat := l.map num
def wordFrom (ns : List Nat) : List Nat := ns.map sgn
def pstep (found : List Nat) (n : Nat) : List Nat := if found ≠ [] ∧ found.getLastD 0 = n ^^^ 1 then found.dropLast else found ++ [n]
def plainNums (ns : List Nat) : List Nat := ns.foldl pstep []
def plainOf (l : List Nat) : List Nat := wordFrom (plainNums (nums l))
def turned (ns : List Nat) : List Nat := ns.reverse.map (· ^^^ 1)
def oppOf (l : List Nat) : List Nat := wordFrom (plainNums (turned (nums l)))
end KM
/-! Mirrors of the law's helpers. -/
namespace KM
open L2.DL
def hsh (s i : Int) : Int :=
  let a := (s * 1299709 + 104729 * i * i + 31 * i + 7) % 2147483629
  let b := (a * a + 48271 * i + 15485863) % 2147483587
  (b * 69621) % 2147483647
abbrev G3 := Int × Int × Int
def seedOf (ns : List Int) (i : Nat) : Int := if i < ns.length then ns.getD i 0 else (ns.take 1).sum % 1000003
def gen0 (ns : List Int) (i : Nat) : G3 := (max (seedOf ns i - 10 ^ 18) 0 % (10 ^ 60) ^ 10, seedOf ns i % 2147483647, 1000 * (i : Int))
/-- a number below b, for small b -/
def rnd (g : G3) (b : Int) : Int × G3 := if 0 < g.1 then (g.1 % b, (g.1 / b, g.2.1, g.2.2)) else (hsh g.2.1 (g.2.2 + 1) % b, (g.1, g.2.1, g.2.2 + 1))
/-- the state is within bounds -/
def okG (n : Int) (g : G3) : Prop := 0 ≤ g.1 ∧ g.1 < (10 ^ 60) ^ 10 ∧ 0 ≤ g.2.1 ∧ g.2.1 < 2147483648 ∧ 0 ≤ g.2.2 ∧ g.2.2 ≤ n
theorem okG.mono {n m : Int} {g : G3} (h : okG n g) (l : n ≤ m) : okG m g := by
  obtain ⟨a, b, c, d, e, f⟩ := h
  exact ⟨a, b, c, d, e, by omega⟩
theorem rnd_ok {n : Int} {g : G3} {b : Int} (h : okG n g) (hb : 0 < b) : okG (n + 1) (rnd g b).2 := by
  obtain ⟨h1, h2, h3, h4, h5, h6⟩ := h
  unfold rnd
  split
  · refine ⟨Int.ediv_nonneg h1 (by omega), ?_, h3, h4, h5, by show g.2.2 ≤ n + 1; omega⟩
    exact Int.lt_of_le_of_lt (Int.ediv_le_self _ h1) h2
  · exact ⟨h1, h2, h3, h4, by show 0 ≤ g.2.2 + 1; omega, by show g.2.2 + 1 ≤ n + 1; omega⟩
theorem rnd_lt {g : G3} {b : Int} (hb : 0 < b) : 0 ≤ (rnd g b).1 ∧ (rnd g b).1 < b := by
  unfold rnd
  split
  · exact ⟨Int.emod_nonneg _ (by omega), Int.emod_lt_of_pos _ hb⟩
  · exact ⟨Int.emod_nonneg _ (by omega), Int.emod_lt_of_pos _ hb⟩
theorem gen0_ok (ns : List Int) (i : Nat) (hi : i ≤ 2) : okG 2000 (gen0 ns i) := by
  refine ⟨Int.emod_nonneg _ (by decide), Int.emod_lt_of_pos _ (by decide), Int.emod_nonneg _ (by decide), ?_, ?_, ?_⟩
  · have := Int.emod_lt_of_pos (seedOf ns i) (show (0 : Int) < 2147483647 by decide)
    show seedOf ns i % 2147483647 < 2147483648
    omega
  · show (0 : Int) ≤ 1000 * (i : Int)
    omega
  · show (1000 * (i : Int)) ≤ 2000
    omega
/-- n draws below b, one behind the other -/
def rnds (b : Int) : Nat → G3 → List Nat × G3
  | 0, g => ([], g)
  | n + 1, g => ((rnds b n g).1 ++ [(rnd (rnds b n g).2 b).1.toNat], (rnd (rnds b n g).2 b).2)
def upc (c : Nat) : Nat := PyProof.Rows.up1 c
def loc (c : Nat) : Nat := PyProof.Rows.lo1 c
def tsg (c : Nat) : Nat := if c = upc c then loc c else upc c
def other (l : List Nat) : List Nat := l.reverse.map tsg
def letters : List Nat := [97, 98, 99, 100, 101, 102]
def pass1 (l : List Nat) (c : Nat) : List Nat := replD ([upc c] ++ [c]) [] (replD ([c] ++ [upc c]) [] l)
def pass (l : List Nat) : List Nat := letters.foldl pass1 l
def lp (size : Nat) (l : List Nat) : List Nat := if l.length < size then lp l.length (pass l) else l
termination_by size
def shrunk (l : List Nat) : List Nat := lp (l.length + 1) l
def lwWord (g : G3) (many most : Nat) : List Nat × G3 :=
  let r := rnds (2 * many) (rnd g (most + 1)).1.toNat (rnd g (most + 1)).2
  (wordFrom r.1, r.2)
def looseStep (many : Nat) (st : List Nat × G3) : List Nat × G3 :=
  let r1 := rnd st.2 (st.1.length + 1)
  let r2 := rnd r1.2 (2 * many)
  (st.1.take r1.1.toNat ++ wordFrom [r2.1.toNat, r2.1.toNat ^^^ 1] ++ st.1.drop r1.1.toNat, r2.2)
def looseN (many : Nat) : Nat → List Nat × G3 → List Nat × G3
  | 0, st => st
  | n + 1, st => looseStep many (looseN many n st)
def lwLoose (g : G3) (many : Nat) (l : List Nat) : List Nat × G3 := looseN many (rnd g 5).1.toNat (l, (rnd g 5).2)
end KM
set_option maxHeartbeats 4000000
set_option exponentiation.threshold 5000
namespace KM
open L2.DL
def drawN (g : G3) : Nat → Int × G3
  | 0 => (0, g)
  | k + 1 => ((drawN g k).1 * 2147483587 + hsh (drawN g k).2.2.1 ((drawN g k).2.2.2 + 1), ((drawN g k).2.1, (drawN g k).2.2.1, (drawN g k).2.2.2 + 1))
/-- a number below b, for b of any size -/
def rndB (g : G3) (b : Int) : Int × G3 := if 0 < g.1 then (g.1 % b, (g.1 / b, g.2.1, g.2.2)) else ((drawN g (1 + PySem.Builtin.Int.intBits b / 30)).1 % b, (drawN g (1 + PySem.Builtin.Int.intBits b / 30)).2)
theorem drawN_ok {n : Int} {g : G3} (h : okG n g) : ∀ k : Nat, okG (n + k) (drawN g k).2
  | 0 => h.mono (by omega)
  | k + 1 => by
    obtain ⟨h1, h2, h3, h4, h5, h6⟩ := drawN_ok h k
    exact ⟨h1, h2, h3, h4, by show 0 ≤ _ + 1; omega, by show _ + 1 ≤ n + ((k + 1 : Nat) : Int); omega⟩
theorem rndB_ok {n : Int} {g : G3} {b : Int} (h : okG n g) (hb : 0 < b) (hk : PySem.Builtin.Int.intBits b ≤ 420) : okG (n + 15) (rndB g b).2 := by
  unfold rndB
  split
  · obtain ⟨h1, h2, h3, h4, h5, h6⟩ := h
    refine ⟨Int.ediv_nonneg h1 (by omega), ?_, h3, h4, h5, by show g.2.2 ≤ n + 15; omega⟩
    exact Int.lt_of_le_of_lt (Int.ediv_le_self _ h1) h2
  · exact (drawN_ok h _).mono (by omega)
theorem rndB_lt {g : G3} {b : Int} (hb : 0 < b) : 0 ≤ (rndB g b).1 ∧ (rndB g b).1 < b := by
  unfold rndB
  split
  · exact ⟨Int.emod_nonneg _ (by omega), Int.emod_lt_of_pos _ hb⟩
  · exact ⟨Int.emod_nonneg _ (by omega), Int.emod_lt_of_pos _ hb⟩
end KM
namespace K08
open PySem PySem.Spec PyProof.Rows L2 L2.DL KM
theorem at_ok {X : Cx} {e : Expr} {ρ : Rho} {μ μ1 : Mu} {k k' : Bool} (h : AT X e ρ μ (.ok k μ1)) (ek : k = k') : AT X e ρ μ (.ok k' μ1) := by rw [← ek]; exact h
def gL (g : G3) : MO := .lst [.d (.int g.1), .d (.int g.2.1), .d (.int g.2.2)]
def C_hash : Ct := fun xs μ o => ∃ s i : Int, xs = [.d (.int s), .d (.int i)] ∧ -(2 ^ 60) < i ∧ i < 2 ^ 60 ∧ o = .ok (.d (.int (hsh s i))) μ
def C_generator : Ct := fun xs μ o => ∃ (ns : List Int) (i : Nat), xs = [.d (.scr ns), .d (.int i)] ∧ i ≤ 2 ∧ o = .new [.d (.int (gen0 ns i).1), .d (.int (gen0 ns i).2.1), .d (.int (gen0 ns i).2.2)] μ
def C_randomB : Ct := fun xs μ o => ∃ (p : Addr) (g : G3) (b n : Int), xs = [.l p, .d (.int b)] ∧ μ p = some (gL g) ∧ okG n g ∧ n ≤ 2 ^ 59 ∧ 0 < b ∧ b < 2 ^ 420 ∧ o = .ok (.d (.int (rndB g b).1)) (upM μ p (gL (rndB g b).2))
section
variable {w : World} {K : PySem.W.Frag} {mg : Str → Option Value} {base : Heap}
theorem sc_hash : FnScope ["_law_seed", "_law_index", "_law_mixed"] ["_law_seed", "_law_index"] (defScope s__law_hash) := ⟨rfl, rfl, rfl, by decide +kernel, rfl, by decide +kernel, by decide +kernel⟩
theorem sc_generator : FnScope ["_law_script", "_law_index", "_law_seed"] ["_law_script", "_law_index"] (defScope s__law_generator) := ⟨rfl, rfl, rfl, by decide +kernel, rfl, by decide +kernel, by decide +kernel⟩
theorem sc_random : FnScope ["_law_generator_here", "_law_bound", "_law_drawn", "_law_turn"] ["_law_generator_here", "_law_bound"] (defScope s__law_random) := ⟨rfl, rfl, rfl, by decide +kernel, rfl, by decide +kernel, by decide +kernel⟩
theorem ok_hash (F : FunAt K mg "_law_hash" s__law_hash) (b1 : mg "int" = none) : Fo Pw w K mg base "_law_hash" s__law_hash 1 ["_law_seed", "_law_index"] C_hash := by
  refine fo F sc_hash (fun _ _ _ _ _ _ us hl => match us, hl with | [_, _], _ => rfl) ?_
  rintro f cdv A outer s H E xs μ o g hl ⟨sd, i, rfl, i1, i2, rfl⟩
  have hi : -(2 ^ 64) < i ∧ i < 2 ^ 64 := by omega
  refine as_cons (as_asg 2 g.nd (ae_op op_mod (ae_callTy call_int1 b1 PyProof.Rows.Boot.int (aa_cons (ae_op op_add (ae_op op_add (ae_op op_add (ae_op op_mul (ae_var 0 rfl) ae_int (br_mul (.inr ⟨by decide, by decide⟩))) (ae_op op_mul (ae_op op_mul ae_int (ae_var 1 rfl) (br_mul (.inl ⟨by decide, by decide⟩))) (ae_var 1 rfl) (br_mul (.inr hi))) br_add) (ae_op op_mul ae_int (ae_var 1 rfl) (br_mul (.inl ⟨by decide, by decide⟩))) br_add) ae_int br_add) aa_nil) bc_int) ae_int (br_mod (by decide))) ?_)
  have ha1 := Int.emod_nonneg (sd * 1299709 + 104729 * i * i + 31 * i + 7) (show (2147483629 : Int) ≠ 0 by decide)
  have ha2 := Int.emod_lt_of_pos (sd * 1299709 + 104729 * i * i + 31 * i + 7) (show (0 : Int) < 2147483629 by decide)
  refine as_cons (as_asg 2 g.nd (ae_op op_mod (ae_callTy call_int1 b1 PyProof.Rows.Boot.int (aa_cons (ae_op op_add (ae_op op_add (ae_op op_mul (ae_var 2 rfl) (ae_var 2 rfl) (br_mul (.inl ⟨by omega, by omega⟩))) (ae_op op_mul ae_int (ae_var 1 rfl) (br_mul (.inl ⟨by decide, by decide⟩))) br_add) ae_int br_add) aa_nil) bc_int) ae_int (br_mod (by decide))) ?_)
  exact as_one (as_ret (ae_op op_mod (ae_callTy call_int1 b1 PyProof.Rows.Boot.int (aa_cons (ae_op op_mul (ae_var 2 rfl) ae_int (br_mul (.inr ⟨by decide, by decide⟩))) aa_nil) bc_int) ae_int (br_mod (by decide))) (Out.mk rfl (SubM.refl _)))
theorem cut1 (ns : List Int) : L2.DL.cutD ns none (some 1) = ns.take 1 := by
  cases ns with
  | nil => rfl
  | cons a r =>
    have e : HT.sIx (a :: r).length (a :: r).length (some 1) - HT.sIx (a :: r).length 0 none = 1 := by
      have h1 : HT.sIx (a :: r).length 0 none = 0 := rfl
      have h2 : HT.sIx (a :: r).length (a :: r).length (some 1) = 1 := by
        unfold HT.sIx
        simp
      rw [h1, h2]
    unfold L2.DL.cutD
    rw [e]
    rfl
theorem ok_generator (F : FunAt K mg "_law_generator" s__law_generator) (b1 : mg "int" = none) (b2 : mg "len" = none) (b3 : mg "sum" = none) (b4 : mg "max" = none) : Fo Pw w K mg base "_law_generator" s__law_generator 1 ["_law_script", "_law_index"] C_generator := by
  refine fo F sc_generator (fun _ _ _ _ _ _ us hl => match us, hl with | [_, _], _ => rfl) ?_
  rintro f cdv A outer s H E xs μ o g hl ⟨ns, i, rfl, hi, rfl⟩
  refine as_cons (as_asg 2 (x := .d (.int (seedOf ns i))) (μ1 := μ) g.nd (ae_if (k := decide (i < ns.length)) (at_ok (at_cmp op_lt (ae_var 1 rfl) (ae_callB call_len b2 PyProof.Rows.Boot.len (aa_cons (ae_var 0 rfl) aa_nil) bc_lenScr) br_lt rfl) ?_) (fun e => ?_) (fun e => ?_)) ?_)
  · rw [Bool.eq_iff_iff]; simp
  · have e' := of_decide_eq_true e
    refine ae_ok (ae_ix ix_list (ae_var 0 rfl) (ae_var 1 rfl) (br_ixScr (n := ns.getD i 0) ?_)) ?_ rfl
    · unfold atI ixN
      rw [if_pos (by omega), if_pos (by omega)]
      simp [e']
    · unfold seedOf
      rw [if_pos e']
  · have e' := of_decide_eq_false e
    refine ae_ok (ae_op op_mod (ae_callB (cr_sum g.calm) b3 PyProof.Rows.Boot.sum (aa_cons (ae_slice sl_list (ae_var 0 rfl) AO.no (AO.some ae_int) sc_scr) aa_nil) bc_sum) ae_int (br_mod (by decide))) ?_ rfl
    unfold seedOf
    rw [if_neg e', cut1]
  · refine as_one (as_retNew (xs := [.d (.int (gen0 ns i).1), .d (.int (gen0 ns i).2.1), .d (.int (gen0 ns i).2.2)]) (ae_lstN (aa_cons (ae_ok (ae_op op_mod (ae_callTy call_int1 b1 PyProof.Rows.Boot.int (aa_cons (ae_callB (call_max2 g.calm) b4 PyProof.Rows.Boot.max (aa_cons (ae_op op_sub (ae_var 2 rfl) (ae_op op_pow ae_int ae_int (br_pow ⟨by decide, by decide, by decide⟩)) br_sub) (aa_cons ae_int aa_nil)) bc_max2) aa_nil) bc_int) (ae_op op_powB (ae_op op_pow ae_int ae_int (br_pow ⟨by decide, by decide, by decide⟩)) ae_int (br_powB ?_)) (br_mod ?_)) ?_ rfl)
      (aa_cons (ae_op op_mod (ae_callTy call_int1 b1 PyProof.Rows.Boot.int (aa_cons (ae_var 2 rfl) aa_nil) bc_int) ae_int (br_mod (by decide))) (aa_cons (ae_op op_mul ae_int (ae_var 1 rfl) (br_mul (.inl ⟨by decide, by decide⟩))) aa_nil))) (show 3 ≤ 10000000 by decide)) fun q hq => Out.new rfl upM_same (SubM.up hq) hq)
    · exact ⟨by decide, by decide +kernel⟩
    · decide +kernel
    · unfold gen0
      refine congrArg (fun z => AV.d (.int z)) ?_
      show (if (0 : Int) > seedOf ns i - 10 ^ 18 then 0 else seedOf ns i - 10 ^ 18) % _ = _
      congr 1
      omega
theorem ok_randomB (F : FunAt K mg "_law_random" s__law_random) (b1 : mg "int" = none) (b2 : mg "range" = none) (G1 : ∀ base, Fo Pw w K mg base "_law_hash" s__law_hash 1 ["_law_seed", "_law_index"] C_hash) : Fo Pw w K mg base "_law_random" s__law_random 2 ["_law_generator_here", "_law_bound"] C_randomB := by
  refine fo F sc_random (fun _ _ _ _ _ _ us hl => match us, hl with | [_, _], _ => rfl) ?_
  rintro f cdv A outer s H E xs μ o gd hl ⟨p, g, b, n, rfl, hm, hg, hn, hb, hb6, rfl⟩
  obtain ⟨g0, g1, g2⟩ := g
  obtain ⟨h1, h2, h3, h4, h5, h6⟩ := id hg
  dsimp only at h1 h2 h3 h4 h5 h6
  have hbits : Builtin.Int.intBits b ≤ 420 := PyProof.Rows.intBits_le (k := 420) (by
    have e2 := Int.natCast_pow 2 420
    have e3 : ((2 : Nat) : Int) = 2 := rfl
    rw [e3] at e2
    omega)
  by_cases e : 0 < g0
  · have er : rndB (g0, g1, g2) b = (g0 % b, (g0 / b, g1, g2)) := if_pos e
    rw [er]
    refine as_cons (as_if (k := true) (at_ok (at_cmp op_gt (ae_ix ix_list (ae_var 0 rfl) ae_int (br_ixO hm rfl)) ae_int br_gt rfl) (decide_eq_true e)) (fun _ => ?_) (fun z => Bool.noConfusion z))
    refine as_cons (as_asg 2 gd.nd (ae_op op_mod (ae_callTy call_int1 b1 PyProof.Rows.Boot.int (aa_cons (ae_ix ix_list (ae_var 0 rfl) ae_int (br_ixO hm rfl)) aa_nil) bc_int) (ae_var 1 rfl) (br_mod hb)) ?_)
    refine as_cons (as_setL (ae_op op_fdivW (ae_ix ix_list (ae_var 0 rfl) ae_int (br_ixO hm rfl)) (ae_var 1 rfl) (br_fdivW (wide_div (b := 420) hb (by
      have e2 := Int.natCast_pow 2 420
      have e3 : ((2 : Nat) : Int) = 2 := rfl
      rw [e3] at e2
      omega) (by decide) (by decide)))) (ae_var 0 rfl) ae_int hm rfl ?_)
    exact as_one (as_ret (ae_var 2 rfl) (Out.mk rfl (SubM.refl _)))
  · have er : rndB (g0, g1, g2) b = ((drawN (g0, g1, g2) (1 + Builtin.Int.intBits b / 30)).1 % b, (drawN (g0, g1, g2) (1 + Builtin.Int.intBits b / 30)).2) := if_neg e
    rw [er]
    refine as_cons (as_if (k := false) (at_ok (at_cmp op_gt (ae_ix ix_list (ae_var 0 rfl) ae_int (br_ixO hm rfl)) ae_int br_gt rfl) (decide_eq_false e)) (fun z => Bool.noConfusion z) (fun _ => as_nil ?_))
    refine as_cons (as_asg 2 gd.nd ae_int ?_)
    have hN : (1 + (Builtin.Int.intBits b : Int) / 30).toNat = 1 + Builtin.Int.intBits b / 30 := by omega
    have hd := drawN_ok hg
    refine as_cons (as_for gd 3 (src_range b2 (aa_cons (ae_op op_add ae_int (ae_op op_fdiv (ae_bits (ae_var 1 rfl)) ae_int (br_fdiv ⟨by decide, by decide⟩)) br_add) aa_nil) ⟨by omega, by omega⟩)
      (fun i ρ' μ' => ∃ v, ρ' = [some (.l p), some (.d (.int b)), some (.d (.int (drawN (g0, g1, g2) i).1)), v] ∧ μ' = upM μ p (gL (drawN (g0, g1, g2) i).2)) ⟨none, rfl, (upM_self hm).symm⟩ ?_ ?_)
    · rintro i d ρ' μ' hi ⟨v, rfl, rfl⟩
      have hi15 : i < 15 := by
        have := (List.getElem?_eq_some_iff.mp hi).1
        rw [List.length_map, List.length_range, hN] at this
        omega
      have hgi := hd i
      obtain ⟨q1, q2, q3, q4, q5, q6⟩ := hgi
      have hmi : (upM μ p (gL (drawN (g0, g1, g2) i).2)) p = some (gL (drawN (g0, g1, g2) i).2) := upM_same
      have hm2 : (upM (upM μ p (gL (drawN (g0, g1, g2) i).2)) p (gL (drawN (g0, g1, g2) (i + 1)).2)) p = some (gL (drawN (g0, g1, g2) (i + 1)).2) := upM_same
      refine as_cons (as_setL (ae_op op_add (ae_ix ix_list (ae_var 0 rfl) ae_int (br_ixO hmi rfl)) ae_int br_add) (ae_var 0 rfl) ae_int hmi rfl ?_)
      refine as_one (as_asg 2 (x := .d (.int (drawN (g0, g1, g2) (i + 1)).1)) (μ1 := upM μ p (gL (drawN (g0, g1, g2) (i + 1)).2)) gd.nd (ae_ok (ae_op op_add (ae_op op_mul (ae_var 2 rfl) ae_int (br_mul (.inr ⟨by decide, by decide⟩))) (ae_fn (G1 _) gd (aa_cons (ae_ix ix_list (ae_var 0 rfl) ae_int (br_ixO hm2 rfl)) (aa_cons (ae_ix ix_list (ae_var 0 rfl) ae_int (br_ixO hm2 rfl)) aa_nil)) ⟨(drawN (g0, g1, g2) i).2.2.1, (drawN (g0, g1, g2) i).2.2.2 + 1, rfl, by omega, by omega, rfl⟩) br_add) rfl (by rw [upM_upM]; rfl)) ⟨_, rfl, rfl⟩)
    · rintro ρ' μ' ⟨v, rfl, rfl⟩
      rw [List.length_map, List.length_range, hN]
      exact as_one (as_ret (ae_op op_mod (ae_callTy call_int1 b1 PyProof.Rows.Boot.int (aa_cons (ae_var 2 rfl) aa_nil) bc_int) (ae_var 1 rfl) (br_mod hb)) (Out.mk rfl (SubM.refl _)))
end
end K08
set_option maxHeartbeats 4000000
namespace K08
open PySem PySem.Spec PyProof.Rows L2 L2.DL KM
theorem eqD_self {d : Dt} (h : okD d = true) : eqD d d = true := SeqAt.eqv_refl (py d) (canLay_of (okD.plain h))
theorem eqI {a b : Int} : eqD (.int a) (.int b) = decide (a = b) := by
  show PyData.eqv (.int a) (.int b) = _
  simp only [PyData.eqv]
  rfl
section
variable {X : Cx} {ρ : Rho} {μ μ1 : Mu} {x y : Expr} {pos : Pos} {d d' : Dt}
theorem at_neD (hu : X.A.units + 64 < cLine) (ha : AE X x ρ μ (.ok (.d d) μ)) (hb : AE X y ρ μ (.ok (.d d') μ)) (e : d = d') (h : okD d = true) (hm : behindInMarks .NotEq y = false := by rfl) : AT X (.Compare x [.NotEq] [y] pos) ρ μ (.ok false μ) := by
  subst e
  exact at_ok (at_cmp (op_neD hu) ha hb (br_ne h h) hm) (by rw [eqD_self h]; rfl)
theorem ae_eqS (hu : X.A.units + 64 < cLine) (ha : AE X x ρ μ (.ok (.d d) μ)) (hb : AE X y ρ μ (.ok (.d d') μ)) (e : d = d') (h : okD d = true) (hm : behindInMarks .Eq y = false := by rfl) : AE X (.Compare x [.Eq] [y] pos) ρ μ (.ok (.d (.bl true)) μ) := by
  subst e
  exact ae_ok (ae_cmp (op_eqD hu) ha hb (br_eq h h) hm) (by rw [eqD_self h]) rfl
/-- two numbers: alike or not -/
theorem at_eqI {a b : Int} (hu : X.A.units + 64 < cLine) (ha : AE X x ρ μ (.ok (.d (.int a)) μ)) (hb : AE X y ρ μ (.ok (.d (.int b)) μ)) (hm : behindInMarks .Eq y = false := by rfl) : AT X (.Compare x [.Eq] [y] pos) ρ μ (.ok (decide (a = b)) μ) :=
  at_ok (at_cmp (op_eqD hu) ha hb (br_eq rfl rfl) hm) eqI
end
/-- a value as an exception bears it -/
def fld : AV → Dt
  | .d x => x
  | .l q => .opq (.ref q)
/-- what the head says of the classes -/
structure Cls (K : PySem.W.Frag) (mg : Str → Option Value) : Prop where
  txt : ∀ k < 19, ∃ fI, PySem.FEx.Txt Pw K (clsK K k) fI
  m : ∀ k < 21, mg (nK k) = some (.ref (clsK K k))
  cl : ∀ k < 21, PySem.FEx.Cl K (clsK K k)
  kit : ∀ k < 21, ∀ j < 21, PySem.W.kitOne K (.ref (clsK K k)) (.ref (clsK K j)) = some (decide (j = k))
  fe : ∀ k < 21, PySem.W.kitOne K (.ref (clsK K k)) (.ref (He.ga K "FoldError")) = some true
  ve : ∀ k < 21, PySem.W.kitOne K (.ref (clsK K k)) (.type "ValueError") = some true
  mF : mg "FoldError" = some (.ref (He.ga K "FoldError"))
  clF : PySem.FEx.Cl K (He.ga K "FoldError")
  veF : PySem.W.kitOne K (.ref (He.ga K "FoldError")) (.type "ValueError") = some true
  xF : PySem.W.excIn K (He.ga K "FoldError") veB "ValueError.__new__" = true ∧ PySem.W.keepIn K (.ref (He.ga K "FoldError")) = true
  x1 : PySem.W.excIn K (clsK K 19) veB "ValueError.__new__" = true ∧ PySem.W.keepIn K (.ref (clsK K 19)) = true
  x2 : PySem.W.excIn K (clsK K 20) veB "ValueError.__new__" = true ∧ PySem.W.keepIn K (.ref (clsK K 20)) = true
section
variable {X : Cx} {ρ : Rho} {μ μ1 : Mu} {e : Expr} {v : AV}
theorem ae_fld (h : AE X e ρ μ (.ok v μ1)) : AE X e ρ μ (.ok (.d (fld v)) μ1) := by
  cases v with
  | d x => exact h
  | l q => exact ae_opq h
theorem ae_unf (h : AE X e ρ μ (.ok (.d (fld v)) μ1)) : AE X e ρ μ (.ok v μ1) := by
  cases v with
  | d x => exact h
  | l q => exact ae_own h
end
def C_part (K : PySem.W.Frag) (lo hi : Nat) : Ct := fun xs μ o => ∃ (n : Nat) (v : AV), xs = [.d (.int n), v] ∧ n < 19 ∧ o = .ok (.d (if lo ≤ n ∧ n < hi then .exc (clsK K n) (fld v) else .non)) μ
def C_kinds (K : PySem.W.Frag) : Ct := fun xs μ o => ∃ (k : Nat) (d : Dt), xs = [.d d] ∧ k < 21 ∧ IsX (clsK K k) d ∧ o = .ok (.d (.lst ((List.range 21).map fun j => .bl (decide (j = k))))) μ
def C_named : Ct := fun xs μ o => ∃ v : AV, xs = [v] ∧ o = .ok (.d (.lst (List.replicate 19 (fld v)))) μ
def C_empty : Ct := fun xs μ o => xs = [] ∧ o = .ok (.d (.lst (List.replicate 19 .non))) μ
section
variable {w : World} {K : PySem.W.Frag} {mg : Str → Option Value} {base : Heap}
theorem sc_first : FnScope ["_law_number", "_law_value_here"] ["_law_number", "_law_value_here"] (defScope s__law_first) := ⟨rfl, rfl, rfl, by decide +kernel, rfl, by decide +kernel, by decide +kernel⟩
theorem ok_first (F : FunAt K mg "_law_first" s__law_first) (C : Cls K mg) : Fo Pw w K mg base "_law_first" s__law_first 2 ["_law_number", "_law_value_here"] (C_part K 0 7) := by
  refine fo F sc_first (fun _ _ _ _ _ _ us hl => match us, hl with | [_, _], _ => rfl) ?_
  rintro f cdv A outer s H E xs μ o gd hl ⟨n, v, rfl, hn, rfl⟩
  have hu := gd.hr.un
  have hu2 : (Bd Pw w K mg base ["_law_number", "_law_value_here"] "_law_first" s__law_first f cdv A outer s H E).A.units + 64 < cLine := by omega
  refine as_cons (as_if (k := decide (n = 0)) (at_ok (at_eqI hu2 (ae_var 0 rfl) ae_int) (decide_eq_decide.mpr (by omega))) (fun e => ?r0) (fun e0 => as_nil ?_))
  case r0 =>
    have e' := of_decide_eq_true e
    subst e'
    obtain ⟨fI, T⟩ := C.txt 0 (by decide)
    exact as_one (as_ret (ae_mk (k := 0) T (C.m 0 (by decide)) gd (ae_fld (ae_var 1 rfl))) (Out.mk (by rw [if_pos (by decide)]) (SubM.refl _)))
  refine as_cons (as_if (k := decide (n = 1)) (at_ok (at_eqI hu2 (ae_var 0 rfl) ae_int) (decide_eq_decide.mpr (by omega))) (fun e => ?r1) (fun e1 => as_nil ?_))
  case r1 =>
    have e' := of_decide_eq_true e
    subst e'
    obtain ⟨fI, T⟩ := C.txt 1 (by decide)
    exact as_one (as_ret (ae_mk (k := 0) T (C.m 1 (by decide)) gd (ae_fld (ae_var 1 rfl))) (Out.mk (by rw [if_pos (by decide)]) (SubM.refl _)))
  refine as_cons (as_if (k := decide (n = 2)) (at_ok (at_eqI hu2 (ae_var 0 rfl) ae_int) (decide_eq_decide.mpr (by omega))) (fun e => ?r2) (fun e2 => as_nil ?_))
  case r2 =>
    have e' := of_decide_eq_true e
    subst e'
    obtain ⟨fI, T⟩ := C.txt 2 (by decide)
    exact as_one (as_ret (ae_mk (k := 0) T (C.m 2 (by decide)) gd (ae_fld (ae_var 1 rfl))) (Out.mk (by rw [if_pos (by decide)]) (SubM.refl _)))
  refine as_cons (as_if (k := decide (n = 3)) (at_ok (at_eqI hu2 (ae_var 0 rfl) ae_int) (decide_eq_decide.mpr (by omega))) (fun e => ?r3) (fun e3 => as_nil ?_))
  case r3 =>
    have e' := of_decide_eq_true e
    subst e'
    obtain ⟨fI, T⟩ := C.txt 3 (by decide)
    exact as_one (as_ret (ae_mk (k := 0) T (C.m 3 (by decide)) gd (ae_fld (ae_var 1 rfl))) (Out.mk (by rw [if_pos (by decide)]) (SubM.refl _)))
  refine as_cons (as_if (k := decide (n = 4)) (at_ok (at_eqI hu2 (ae_var 0 rfl) ae_int) (decide_eq_decide.mpr (by omega))) (fun e => ?r4) (fun e4 => as_nil ?_))
  case r4 =>
    have e' := of_decide_eq_true e
    subst e'
    obtain ⟨fI, T⟩ := C.txt 4 (by decide)
    exact as_one (as_ret (ae_mk (k := 0) T (C.m 4 (by decide)) gd (ae_fld (ae_var 1 rfl))) (Out.mk (by rw [if_pos (by decide)]) (SubM.refl _)))
  refine as_cons (as_if (k := decide (n = 5)) (at_ok (at_eqI hu2 (ae_var 0 rfl) ae_int) (decide_eq_decide.mpr (by omega))) (fun e => ?r5) (fun e5 => as_nil ?_))
  case r5 =>
    have e' := of_decide_eq_true e
    subst e'
    obtain ⟨fI, T⟩ := C.txt 5 (by decide)
    exact as_one (as_ret (ae_mk (k := 0) T (C.m 5 (by decide)) gd (ae_fld (ae_var 1 rfl))) (Out.mk (by rw [if_pos (by decide)]) (SubM.refl _)))
  refine as_cons (as_if (k := decide (n = 6)) (at_ok (at_eqI hu2 (ae_var 0 rfl) ae_int) (decide_eq_decide.mpr (by omega))) (fun e => ?r6) (fun e6 => as_nil ?_))
  case r6 =>
    have e' := of_decide_eq_true e
    subst e'
    obtain ⟨fI, T⟩ := C.txt 6 (by decide)
    exact as_one (as_ret (ae_mk (k := 0) T (C.m 6 (by decide)) gd (ae_fld (ae_var 1 rfl))) (Out.mk (by rw [if_pos (by decide)]) (SubM.refl _)))
  refine as_one (as_ret ae_non (Out.mk ?_ (SubM.refl _)))
  rw [if_neg]
  rintro ⟨h1, h2⟩
  have z0 := of_decide_eq_false e0
  have z1 := of_decide_eq_false e1
  have z2 := of_decide_eq_false e2
  have z3 := of_decide_eq_false e3
  have z4 := of_decide_eq_false e4
  have z5 := of_decide_eq_false e5
  have z6 := of_decide_eq_false e6
  omega
theorem sc_second : FnScope ["_law_number", "_law_value_here"] ["_law_number", "_law_value_here"] (defScope s__law_second) := ⟨rfl, rfl, rfl, by decide +kernel, rfl, by decide +kernel, by decide +kernel⟩
theorem ok_second (F : FunAt K mg "_law_second" s__law_second) (C : Cls K mg) : Fo Pw w K mg base "_law_second" s__law_second 2 ["_law_number", "_law_value_here"] (C_part K 7 14) := by
  refine fo F sc_second (fun _ _ _ _ _ _ us hl => match us, hl with | [_, _], _ => rfl) ?_
  rintro f cdv A outer s H E xs μ o gd hl ⟨n, v, rfl, hn, rfl⟩
  have hu := gd.hr.un
  have hu2 : (Bd Pw w K mg base ["_law_number", "_law_value_here"] "_law_second" s__law_second f cdv A outer s H E).A.units + 64 < cLine := by omega
  refine as_cons (as_if (k := decide (n = 7)) (at_ok (at_eqI hu2 (ae_var 0 rfl) ae_int) (decide_eq_decide.mpr (by omega))) (fun e => ?r7) (fun e7 => as_nil ?_))
  case r7 =>
    have e' := of_decide_eq_true e
    subst e'
    obtain ⟨fI, T⟩ := C.txt 7 (by decide)
    exact as_one (as_ret (ae_mk (k := 0) T (C.m 7 (by decide)) gd (ae_fld (ae_var 1 rfl))) (Out.mk (by rw [if_pos (by decide)]) (SubM.refl _)))
  refine as_cons (as_if (k := decide (n = 8)) (at_ok (at_eqI hu2 (ae_var 0 rfl) ae_int) (decide_eq_decide.mpr (by omega))) (fun e => ?r8) (fun e8 => as_nil ?_))
  case r8 =>
    have e' := of_decide_eq_true e
    subst e'
    obtain ⟨fI, T⟩ := C.txt 8 (by decide)
    exact as_one (as_ret (ae_mk (k := 0) T (C.m 8 (by decide)) gd (ae_fld (ae_var 1 rfl))) (Out.mk (by rw [if_pos (by decide)]) (SubM.refl _)))
  refine as_cons (as_if (k := decide (n = 9)) (at_ok (at_eqI hu2 (ae_var 0 rfl) ae_int) (decide_eq_decide.mpr (by omega))) (fun e => ?r9) (fun e9 => as_nil ?_))
  case r9 =>
    have e' := of_decide_eq_true e
    subst e'
    obtain ⟨fI, T⟩ := C.txt 9 (by decide)
    exact as_one (as_ret (ae_mk (k := 0) T (C.m 9 (by decide)) gd (ae_fld (ae_var 1 rfl))) (Out.mk (by rw [if_pos (by decide)]) (SubM.refl _)))
  refine as_cons (as_if (k := decide (n = 10)) (at_ok (at_eqI hu2 (ae_var 0 rfl) ae_int) (decide_eq_decide.mpr (by omega))) (fun e => ?r10) (fun e10 => as_nil ?_))
  case r10 =>
    have e' := of_decide_eq_true e
    subst e'
    obtain ⟨fI, T⟩ := C.txt 10 (by decide)
    exact as_one (as_ret (ae_mk (k := 0) T (C.m 10 (by decide)) gd (ae_fld (ae_var 1 rfl))) (Out.mk (by rw [if_pos (by decide)]) (SubM.refl _)))
  refine as_cons (as_if (k := decide (n = 11)) (at_ok (at_eqI hu2 (ae_var 0 rfl) ae_int) (decide_eq_decide.mpr (by omega))) (fun e => ?r11) (fun e11 => as_nil ?_))
  case r11 =>
    have e' := of_decide_eq_true e
    subst e'
    obtain ⟨fI, T⟩ := C.txt 11 (by decide)
    exact as_one (as_ret (ae_mk (k := 0) T (C.m 11 (by decide)) gd (ae_fld (ae_var 1 rfl))) (Out.mk (by rw [if_pos (by decide)]) (SubM.refl _)))
  refine as_cons (as_if (k := decide (n = 12)) (at_ok (at_eqI hu2 (ae_var 0 rfl) ae_int) (decide_eq_decide.mpr (by omega))) (fun e => ?r12) (fun e12 => as_nil ?_))
  case r12 =>
    have e' := of_decide_eq_true e
    subst e'
    obtain ⟨fI, T⟩ := C.txt 12 (by decide)
    exact as_one (as_ret (ae_mk (k := 0) T (C.m 12 (by decide)) gd (ae_fld (ae_var 1 rfl))) (Out.mk (by rw [if_pos (by decide)]) (SubM.refl _)))
  refine as_cons (as_if (k := decide (n = 13)) (at_ok (at_eqI hu2 (ae_var 0 rfl) ae_int) (decide_eq_decide.mpr (by omega))) (fun e => ?r13) (fun e13 => as_nil ?_))
  case r13 =>
    have e' := of_decide_eq_true e
    subst e'
    obtain ⟨fI, T⟩ := C.txt 13 (by decide)
    exact as_one (as_ret (ae_mk (k := 0) T (C.m 13 (by decide)) gd (ae_fld (ae_var 1 rfl))) (Out.mk (by rw [if_pos (by decide)]) (SubM.refl _)))
  refine as_one (as_ret ae_non (Out.mk ?_ (SubM.refl _)))
  rw [if_neg]
  rintro ⟨h1, h2⟩
  have z7 := of_decide_eq_false e7
  have z8 := of_decide_eq_false e8
  have z9 := of_decide_eq_false e9
  have z10 := of_decide_eq_false e10
  have z11 := of_decide_eq_false e11
  have z12 := of_decide_eq_false e12
  have z13 := of_decide_eq_false e13
  omega
theorem sc_third : FnScope ["_law_number", "_law_value_here"] ["_law_number", "_law_value_here"] (defScope s__law_third) := ⟨rfl, rfl, rfl, by decide +kernel, rfl, by decide +kernel, by decide +kernel⟩
theorem ok_third (F : FunAt K mg "_law_third" s__law_third) (C : Cls K mg) : Fo Pw w K mg base "_law_third" s__law_third 2 ["_law_number", "_law_value_here"] (C_part K 14 19) := by
  refine fo F sc_third (fun _ _ _ _ _ _ us hl => match us, hl with | [_, _], _ => rfl) ?_
  rintro f cdv A outer s H E xs μ o gd hl ⟨n, v, rfl, hn, rfl⟩
  have hu := gd.hr.un
  have hu2 : (Bd Pw w K mg base ["_law_number", "_law_value_here"] "_law_third" s__law_third f cdv A outer s H E).A.units + 64 < cLine := by omega
  refine as_cons (as_if (k := decide (n = 14)) (at_ok (at_eqI hu2 (ae_var 0 rfl) ae_int) (decide_eq_decide.mpr (by omega))) (fun e => ?r14) (fun e14 => as_nil ?_))
  case r14 =>
    have e' := of_decide_eq_true e
    subst e'
    obtain ⟨fI, T⟩ := C.txt 14 (by decide)
    exact as_one (as_ret (ae_mk (k := 0) T (C.m 14 (by decide)) gd (ae_fld (ae_var 1 rfl))) (Out.mk (by rw [if_pos (by decide)]) (SubM.refl _)))
  refine as_cons (as_if (k := decide (n = 15)) (at_ok (at_eqI hu2 (ae_var 0 rfl) ae_int) (decide_eq_decide.mpr (by omega))) (fun e => ?r15) (fun e15 => as_nil ?_))
  case r15 =>
    have e' := of_decide_eq_true e
    subst e'
    obtain ⟨fI, T⟩ := C.txt 15 (by decide)
    exact as_one (as_ret (ae_mk (k := 0) T (C.m 15 (by decide)) gd (ae_fld (ae_var 1 rfl))) (Out.mk (by rw [if_pos (by decide)]) (SubM.refl _)))
  refine as_cons (as_if (k := decide (n = 16)) (at_ok (at_eqI hu2 (ae_var 0 rfl) ae_int) (decide_eq_decide.mpr (by omega))) (fun e => ?r16) (fun e16 => as_nil ?_))
  case r16 =>
    have e' := of_decide_eq_true e
    subst e'
    obtain ⟨fI, T⟩ := C.txt 16 (by decide)
    exact as_one (as_ret (ae_mk (k := 0) T (C.m 16 (by decide)) gd (ae_fld (ae_var 1 rfl))) (Out.mk (by rw [if_pos (by decide)]) (SubM.refl _)))
  refine as_cons (as_if (k := decide (n = 17)) (at_ok (at_eqI hu2 (ae_var 0 rfl) ae_int) (decide_eq_decide.mpr (by omega))) (fun e => ?r17) (fun e17 => as_nil ?_))
  case r17 =>
    have e' := of_decide_eq_true e
    subst e'
    obtain ⟨fI, T⟩ := C.txt 17 (by decide)
    exact as_one (as_ret (ae_mk (k := 0) T (C.m 17 (by decide)) gd (ae_fld (ae_var 1 rfl))) (Out.mk (by rw [if_pos (by decide)]) (SubM.refl _)))
  refine as_cons (as_if (k := decide (n = 18)) (at_ok (at_eqI hu2 (ae_var 0 rfl) ae_int) (decide_eq_decide.mpr (by omega))) (fun e => ?r18) (fun e18 => as_nil ?_))
  case r18 =>
    have e' := of_decide_eq_true e
    subst e'
    obtain ⟨fI, T⟩ := C.txt 18 (by decide)
    exact as_one (as_ret (ae_mk (k := 0) T (C.m 18 (by decide)) gd (ae_fld (ae_var 1 rfl))) (Out.mk (by rw [if_pos (by decide)]) (SubM.refl _)))
  refine as_one (as_ret ae_non (Out.mk ?_ (SubM.refl _)))
  rw [if_neg]
  rintro ⟨h1, h2⟩
  have z14 := of_decide_eq_false e14
  have z15 := of_decide_eq_false e15
  have z16 := of_decide_eq_false e16
  have z17 := of_decide_eq_false e17
  have z18 := of_decide_eq_false e18
  omega
theorem sc_kinds : FnScope ["_law_error", "_law_found"] ["_law_error"] (defScope s__law_kinds) := ⟨rfl, rfl, rfl, by decide +kernel, rfl, by decide +kernel, by decide +kernel⟩
theorem ok_kinds (F : FunAt K mg "_law_kinds" s__law_kinds) (b1 : mg "isinstance" = none) (C : Cls K mg) : Fo Pw w K mg base "_law_kinds" s__law_kinds 1 ["_law_error"] (C_kinds K) := by
  refine fo F sc_kinds (fun _ _ _ _ _ _ us hl => match us, hl with | [_], _ => rfl) ?_
  rintro f cdv A outer s H E xs μ o gd hl ⟨k, d, rfl, hk, hd, rfl⟩
  refine as_cons (as_asg 1 (x := .d (.lst [])) (μ1 := μ) gd.nd (ae_lst (ds := []) aa_nil (by decide)) ?_)
  refine as_cons (as_asg 1 (x := .d (.lst [.bl (decide (0 = k)), .bl (decide (1 = k)), .bl (decide (2 = k)), .bl (decide (3 = k))])) (μ1 := μ) gd.nd (ae_ok (ae_op op_cat (ae_var 1 rfl) (ae_lst (ds := [.bl (decide (0 = k)), .bl (decide (1 = k)), .bl (decide (2 = k)), .bl (decide (3 = k))]) (aa_cons (ae_callB call_isX b1 PyProof.Rows.Boot.isinstance (aa_cons (ae_var 0 rfl) (aa_cons (ae_cls (C.m 0 (by decide))) aa_nil)) (bc_isX hd (C.cl k hk) (fun u r => r) (C.kit k hk 0 (by decide)))) (aa_cons (ae_callB call_isX b1 PyProof.Rows.Boot.isinstance (aa_cons (ae_var 0 rfl) (aa_cons (ae_cls (C.m 1 (by decide))) aa_nil)) (bc_isX hd (C.cl k hk) (fun u r => r) (C.kit k hk 1 (by decide)))) (aa_cons (ae_callB call_isX b1 PyProof.Rows.Boot.isinstance (aa_cons (ae_var 0 rfl) (aa_cons (ae_cls (C.m 2 (by decide))) aa_nil)) (bc_isX hd (C.cl k hk) (fun u r => r) (C.kit k hk 2 (by decide)))) (aa_cons (ae_callB call_isX b1 PyProof.Rows.Boot.isinstance (aa_cons (ae_var 0 rfl) (aa_cons (ae_cls (C.m 3 (by decide))) aa_nil)) (bc_isX hd (C.cl k hk) (fun u r => r) (C.kit k hk 3 (by decide)))) aa_nil)))) (show 4 ≤ 10000000 by decide)) (br_cat (show 0 + 4 ≤ 10000000 by decide))) rfl rfl) ?_)
  refine as_cons (as_asg 1 (x := .d (.lst [.bl (decide (0 = k)), .bl (decide (1 = k)), .bl (decide (2 = k)), .bl (decide (3 = k)), .bl (decide (4 = k)), .bl (decide (5 = k)), .bl (decide (6 = k)), .bl (decide (7 = k))])) (μ1 := μ) gd.nd (ae_ok (ae_op op_cat (ae_var 1 rfl) (ae_lst (ds := [.bl (decide (4 = k)), .bl (decide (5 = k)), .bl (decide (6 = k)), .bl (decide (7 = k))]) (aa_cons (ae_callB call_isX b1 PyProof.Rows.Boot.isinstance (aa_cons (ae_var 0 rfl) (aa_cons (ae_cls (C.m 4 (by decide))) aa_nil)) (bc_isX hd (C.cl k hk) (fun u r => r) (C.kit k hk 4 (by decide)))) (aa_cons (ae_callB call_isX b1 PyProof.Rows.Boot.isinstance (aa_cons (ae_var 0 rfl) (aa_cons (ae_cls (C.m 5 (by decide))) aa_nil)) (bc_isX hd (C.cl k hk) (fun u r => r) (C.kit k hk 5 (by decide)))) (aa_cons (ae_callB call_isX b1 PyProof.Rows.Boot.isinstance (aa_cons (ae_var 0 rfl) (aa_cons (ae_cls (C.m 6 (by decide))) aa_nil)) (bc_isX hd (C.cl k hk) (fun u r => r) (C.kit k hk 6 (by decide)))) (aa_cons (ae_callB call_isX b1 PyProof.Rows.Boot.isinstance (aa_cons (ae_var 0 rfl) (aa_cons (ae_cls (C.m 7 (by decide))) aa_nil)) (bc_isX hd (C.cl k hk) (fun u r => r) (C.kit k hk 7 (by decide)))) aa_nil)))) (show 4 ≤ 10000000 by decide)) (br_cat (show 4 + 4 ≤ 10000000 by decide))) rfl rfl) ?_)
  refine as_cons (as_asg 1 (x := .d (.lst [.bl (decide (0 = k)), .bl (decide (1 = k)), .bl (decide (2 = k)), .bl (decide (3 = k)), .bl (decide (4 = k)), .bl (decide (5 = k)), .bl (decide (6 = k)), .bl (decide (7 = k)), .bl (decide (8 = k)), .bl (decide (9 = k)), .bl (decide (10 = k)), .bl (decide (11 = k))])) (μ1 := μ) gd.nd (ae_ok (ae_op op_cat (ae_var 1 rfl) (ae_lst (ds := [.bl (decide (8 = k)), .bl (decide (9 = k)), .bl (decide (10 = k)), .bl (decide (11 = k))]) (aa_cons (ae_callB call_isX b1 PyProof.Rows.Boot.isinstance (aa_cons (ae_var 0 rfl) (aa_cons (ae_cls (C.m 8 (by decide))) aa_nil)) (bc_isX hd (C.cl k hk) (fun u r => r) (C.kit k hk 8 (by decide)))) (aa_cons (ae_callB call_isX b1 PyProof.Rows.Boot.isinstance (aa_cons (ae_var 0 rfl) (aa_cons (ae_cls (C.m 9 (by decide))) aa_nil)) (bc_isX hd (C.cl k hk) (fun u r => r) (C.kit k hk 9 (by decide)))) (aa_cons (ae_callB call_isX b1 PyProof.Rows.Boot.isinstance (aa_cons (ae_var 0 rfl) (aa_cons (ae_cls (C.m 10 (by decide))) aa_nil)) (bc_isX hd (C.cl k hk) (fun u r => r) (C.kit k hk 10 (by decide)))) (aa_cons (ae_callB call_isX b1 PyProof.Rows.Boot.isinstance (aa_cons (ae_var 0 rfl) (aa_cons (ae_cls (C.m 11 (by decide))) aa_nil)) (bc_isX hd (C.cl k hk) (fun u r => r) (C.kit k hk 11 (by decide)))) aa_nil)))) (show 4 ≤ 10000000 by decide)) (br_cat (show 8 + 4 ≤ 10000000 by decide))) rfl rfl) ?_)
  refine as_cons (as_asg 1 (x := .d (.lst [.bl (decide (0 = k)), .bl (decide (1 = k)), .bl (decide (2 = k)), .bl (decide (3 = k)), .bl (decide (4 = k)), .bl (decide (5 = k)), .bl (decide (6 = k)), .bl (decide (7 = k)), .bl (decide (8 = k)), .bl (decide (9 = k)), .bl (decide (10 = k)), .bl (decide (11 = k)), .bl (decide (12 = k)), .bl (decide (13 = k)), .bl (decide (14 = k)), .bl (decide (15 = k))])) (μ1 := μ) gd.nd (ae_ok (ae_op op_cat (ae_var 1 rfl) (ae_lst (ds := [.bl (decide (12 = k)), .bl (decide (13 = k)), .bl (decide (14 = k)), .bl (decide (15 = k))]) (aa_cons (ae_callB call_isX b1 PyProof.Rows.Boot.isinstance (aa_cons (ae_var 0 rfl) (aa_cons (ae_cls (C.m 12 (by decide))) aa_nil)) (bc_isX hd (C.cl k hk) (fun u r => r) (C.kit k hk 12 (by decide)))) (aa_cons (ae_callB call_isX b1 PyProof.Rows.Boot.isinstance (aa_cons (ae_var 0 rfl) (aa_cons (ae_cls (C.m 13 (by decide))) aa_nil)) (bc_isX hd (C.cl k hk) (fun u r => r) (C.kit k hk 13 (by decide)))) (aa_cons (ae_callB call_isX b1 PyProof.Rows.Boot.isinstance (aa_cons (ae_var 0 rfl) (aa_cons (ae_cls (C.m 14 (by decide))) aa_nil)) (bc_isX hd (C.cl k hk) (fun u r => r) (C.kit k hk 14 (by decide)))) (aa_cons (ae_callB call_isX b1 PyProof.Rows.Boot.isinstance (aa_cons (ae_var 0 rfl) (aa_cons (ae_cls (C.m 15 (by decide))) aa_nil)) (bc_isX hd (C.cl k hk) (fun u r => r) (C.kit k hk 15 (by decide)))) aa_nil)))) (show 4 ≤ 10000000 by decide)) (br_cat (show 12 + 4 ≤ 10000000 by decide))) rfl rfl) ?_)
  refine as_cons (as_asg 1 (x := .d (.lst [.bl (decide (0 = k)), .bl (decide (1 = k)), .bl (decide (2 = k)), .bl (decide (3 = k)), .bl (decide (4 = k)), .bl (decide (5 = k)), .bl (decide (6 = k)), .bl (decide (7 = k)), .bl (decide (8 = k)), .bl (decide (9 = k)), .bl (decide (10 = k)), .bl (decide (11 = k)), .bl (decide (12 = k)), .bl (decide (13 = k)), .bl (decide (14 = k)), .bl (decide (15 = k)), .bl (decide (16 = k)), .bl (decide (17 = k)), .bl (decide (18 = k)), .bl (decide (19 = k))])) (μ1 := μ) gd.nd (ae_ok (ae_op op_cat (ae_var 1 rfl) (ae_lst (ds := [.bl (decide (16 = k)), .bl (decide (17 = k)), .bl (decide (18 = k)), .bl (decide (19 = k))]) (aa_cons (ae_callB call_isX b1 PyProof.Rows.Boot.isinstance (aa_cons (ae_var 0 rfl) (aa_cons (ae_cls (C.m 16 (by decide))) aa_nil)) (bc_isX hd (C.cl k hk) (fun u r => r) (C.kit k hk 16 (by decide)))) (aa_cons (ae_callB call_isX b1 PyProof.Rows.Boot.isinstance (aa_cons (ae_var 0 rfl) (aa_cons (ae_cls (C.m 17 (by decide))) aa_nil)) (bc_isX hd (C.cl k hk) (fun u r => r) (C.kit k hk 17 (by decide)))) (aa_cons (ae_callB call_isX b1 PyProof.Rows.Boot.isinstance (aa_cons (ae_var 0 rfl) (aa_cons (ae_cls (C.m 18 (by decide))) aa_nil)) (bc_isX hd (C.cl k hk) (fun u r => r) (C.kit k hk 18 (by decide)))) (aa_cons (ae_callB call_isX b1 PyProof.Rows.Boot.isinstance (aa_cons (ae_var 0 rfl) (aa_cons (ae_cls (C.m 19 (by decide))) aa_nil)) (bc_isX hd (C.cl k hk) (fun u r => r) (C.kit k hk 19 (by decide)))) aa_nil)))) (show 4 ≤ 10000000 by decide)) (br_cat (show 16 + 4 ≤ 10000000 by decide))) rfl rfl) ?_)
  refine as_cons (as_asg 1 (x := .d (.lst [.bl (decide (0 = k)), .bl (decide (1 = k)), .bl (decide (2 = k)), .bl (decide (3 = k)), .bl (decide (4 = k)), .bl (decide (5 = k)), .bl (decide (6 = k)), .bl (decide (7 = k)), .bl (decide (8 = k)), .bl (decide (9 = k)), .bl (decide (10 = k)), .bl (decide (11 = k)), .bl (decide (12 = k)), .bl (decide (13 = k)), .bl (decide (14 = k)), .bl (decide (15 = k)), .bl (decide (16 = k)), .bl (decide (17 = k)), .bl (decide (18 = k)), .bl (decide (19 = k)), .bl (decide (20 = k))])) (μ1 := μ) gd.nd (ae_ok (ae_op op_cat (ae_var 1 rfl) (ae_lst (ds := [.bl (decide (20 = k))]) (aa_cons (ae_callB call_isX b1 PyProof.Rows.Boot.isinstance (aa_cons (ae_var 0 rfl) (aa_cons (ae_cls (C.m 20 (by decide))) aa_nil)) (bc_isX hd (C.cl k hk) (fun u r => r) (C.kit k hk 20 (by decide)))) aa_nil) (show 1 ≤ 10000000 by decide)) (br_cat (show 20 + 1 ≤ 10000000 by decide))) rfl rfl) ?_)
  exact as_one (as_ret (ae_var 1 rfl) (Out.mk rfl (SubM.refl _)))
theorem sc_named : FnScope ["_law_value_here", "_law_found"] ["_law_value_here"] (defScope s__law_named) := ⟨rfl, rfl, rfl, by decide +kernel, rfl, by decide +kernel, by decide +kernel⟩
theorem ok_named (F : FunAt K mg "_law_named" s__law_named) (C : Cls K mg) : Fo Pw w K mg base "_law_named" s__law_named 2 ["_law_value_here"] C_named := by
  refine fo F sc_named (fun _ _ _ _ _ _ us hl => match us, hl with | [_], _ => rfl) ?_
  rintro f cdv A outer s H E xs μ o gd hl ⟨v, rfl, rfl⟩
  obtain ⟨f0, T0⟩ := C.txt 0 (by decide)
  obtain ⟨f1, T1⟩ := C.txt 1 (by decide)
  obtain ⟨f2, T2⟩ := C.txt 2 (by decide)
  obtain ⟨f3, T3⟩ := C.txt 3 (by decide)
  obtain ⟨f4, T4⟩ := C.txt 4 (by decide)
  obtain ⟨f5, T5⟩ := C.txt 5 (by decide)
  obtain ⟨f6, T6⟩ := C.txt 6 (by decide)
  obtain ⟨f7, T7⟩ := C.txt 7 (by decide)
  obtain ⟨f8, T8⟩ := C.txt 8 (by decide)
  obtain ⟨f9, T9⟩ := C.txt 9 (by decide)
  obtain ⟨f10, T10⟩ := C.txt 10 (by decide)
  obtain ⟨f11, T11⟩ := C.txt 11 (by decide)
  obtain ⟨f12, T12⟩ := C.txt 12 (by decide)
  obtain ⟨f13, T13⟩ := C.txt 13 (by decide)
  obtain ⟨f14, T14⟩ := C.txt 14 (by decide)
  obtain ⟨f15, T15⟩ := C.txt 15 (by decide)
  obtain ⟨f16, T16⟩ := C.txt 16 (by decide)
  obtain ⟨f17, T17⟩ := C.txt 17 (by decide)
  obtain ⟨f18, T18⟩ := C.txt 18 (by decide)
  refine as_cons (as_asg 1 (x := .d (.lst [])) (μ1 := μ) gd.nd (ae_lst (ds := []) aa_nil (by decide)) ?_)
  refine as_cons (as_asg 1 (x := .d (.lst [fld v, fld v, fld v, fld v])) (μ1 := μ) gd.nd (ae_ok (ae_op op_cat (ae_var 1 rfl) (ae_lst (ds := [fld v, fld v, fld v, fld v]) (aa_cons (ae_value T0 (ae_mkK (k := 0) T0 (C.m 0 (by decide)) gd (ak_cons (ae_fld (ae_var 0 rfl)) ak_nil))) (aa_cons (ae_value T1 (ae_mkK (k := 0) T1 (C.m 1 (by decide)) gd (ak_cons (ae_fld (ae_var 0 rfl)) ak_nil))) (aa_cons (ae_value T2 (ae_mkK (k := 0) T2 (C.m 2 (by decide)) gd (ak_cons (ae_fld (ae_var 0 rfl)) ak_nil))) (aa_cons (ae_value T3 (ae_mkK (k := 0) T3 (C.m 3 (by decide)) gd (ak_cons (ae_fld (ae_var 0 rfl)) ak_nil))) aa_nil)))) (show 4 ≤ 10000000 by decide)) (br_cat (show 0 + 4 ≤ 10000000 by decide))) rfl rfl) ?_)
  refine as_cons (as_asg 1 (x := .d (.lst [fld v, fld v, fld v, fld v, fld v, fld v, fld v, fld v])) (μ1 := μ) gd.nd (ae_ok (ae_op op_cat (ae_var 1 rfl) (ae_lst (ds := [fld v, fld v, fld v, fld v]) (aa_cons (ae_value T4 (ae_mkK (k := 0) T4 (C.m 4 (by decide)) gd (ak_cons (ae_fld (ae_var 0 rfl)) ak_nil))) (aa_cons (ae_value T5 (ae_mkK (k := 0) T5 (C.m 5 (by decide)) gd (ak_cons (ae_fld (ae_var 0 rfl)) ak_nil))) (aa_cons (ae_value T6 (ae_mkK (k := 0) T6 (C.m 6 (by decide)) gd (ak_cons (ae_fld (ae_var 0 rfl)) ak_nil))) (aa_cons (ae_value T7 (ae_mkK (k := 0) T7 (C.m 7 (by decide)) gd (ak_cons (ae_fld (ae_var 0 rfl)) ak_nil))) aa_nil)))) (show 4 ≤ 10000000 by decide)) (br_cat (show 4 + 4 ≤ 10000000 by decide))) rfl rfl) ?_)
  refine as_cons (as_asg 1 (x := .d (.lst [fld v, fld v, fld v, fld v, fld v, fld v, fld v, fld v, fld v, fld v, fld v, fld v])) (μ1 := μ) gd.nd (ae_ok (ae_op op_cat (ae_var 1 rfl) (ae_lst (ds := [fld v, fld v, fld v, fld v]) (aa_cons (ae_value T8 (ae_mkK (k := 0) T8 (C.m 8 (by decide)) gd (ak_cons (ae_fld (ae_var 0 rfl)) ak_nil))) (aa_cons (ae_value T9 (ae_mkK (k := 0) T9 (C.m 9 (by decide)) gd (ak_cons (ae_fld (ae_var 0 rfl)) ak_nil))) (aa_cons (ae_value T10 (ae_mkK (k := 0) T10 (C.m 10 (by decide)) gd (ak_cons (ae_fld (ae_var 0 rfl)) ak_nil))) (aa_cons (ae_value T11 (ae_mkK (k := 0) T11 (C.m 11 (by decide)) gd (ak_cons (ae_fld (ae_var 0 rfl)) ak_nil))) aa_nil)))) (show 4 ≤ 10000000 by decide)) (br_cat (show 8 + 4 ≤ 10000000 by decide))) rfl rfl) ?_)
  refine as_cons (as_asg 1 (x := .d (.lst [fld v, fld v, fld v, fld v, fld v, fld v, fld v, fld v, fld v, fld v, fld v, fld v, fld v, fld v, fld v, fld v])) (μ1 := μ) gd.nd (ae_ok (ae_op op_cat (ae_var 1 rfl) (ae_lst (ds := [fld v, fld v, fld v, fld v]) (aa_cons (ae_value T12 (ae_mkK (k := 0) T12 (C.m 12 (by decide)) gd (ak_cons (ae_fld (ae_var 0 rfl)) ak_nil))) (aa_cons (ae_value T13 (ae_mkK (k := 0) T13 (C.m 13 (by decide)) gd (ak_cons (ae_fld (ae_var 0 rfl)) ak_nil))) (aa_cons (ae_value T14 (ae_mkK (k := 0) T14 (C.m 14 (by decide)) gd (ak_cons (ae_fld (ae_var 0 rfl)) ak_nil))) (aa_cons (ae_value T15 (ae_mkK (k := 0) T15 (C.m 15 (by decide)) gd (ak_cons (ae_fld (ae_var 0 rfl)) ak_nil))) aa_nil)))) (show 4 ≤ 10000000 by decide)) (br_cat (show 12 + 4 ≤ 10000000 by decide))) rfl rfl) ?_)
  refine as_cons (as_asg 1 (x := .d (.lst [fld v, fld v, fld v, fld v, fld v, fld v, fld v, fld v, fld v, fld v, fld v, fld v, fld v, fld v, fld v, fld v, fld v, fld v, fld v])) (μ1 := μ) gd.nd (ae_ok (ae_op op_cat (ae_var 1 rfl) (ae_lst (ds := [fld v, fld v, fld v]) (aa_cons (ae_value T16 (ae_mkK (k := 0) T16 (C.m 16 (by decide)) gd (ak_cons (ae_fld (ae_var 0 rfl)) ak_nil))) (aa_cons (ae_value T17 (ae_mkK (k := 0) T17 (C.m 17 (by decide)) gd (ak_cons (ae_fld (ae_var 0 rfl)) ak_nil))) (aa_cons (ae_value T18 (ae_mkK (k := 0) T18 (C.m 18 (by decide)) gd (ak_cons (ae_fld (ae_var 0 rfl)) ak_nil))) aa_nil))) (show 3 ≤ 10000000 by decide)) (br_cat (show 16 + 3 ≤ 10000000 by decide))) rfl rfl) ?_)
  exact as_one (as_ret (ae_var 1 rfl) (Out.mk rfl (SubM.refl _)))
theorem sc_empty : FnScope ["_law_found"] [] (defScope s__law_empty) := ⟨rfl, rfl, rfl, by decide +kernel, rfl, by decide +kernel, by decide +kernel⟩
theorem ok_empty (F : FunAt K mg "_law_empty" s__law_empty) (C : Cls K mg) : Fo Pw w K mg base "_law_empty" s__law_empty 2 [] C_empty := by
  refine fo F sc_empty (fun _ _ _ _ _ _ us hl => match us, hl with | [], _ => rfl) ?_
  rintro f cdv A outer s H E xs μ o gd hl ⟨rfl, rfl⟩
  obtain ⟨f0, T0⟩ := C.txt 0 (by decide)
  obtain ⟨f1, T1⟩ := C.txt 1 (by decide)
  obtain ⟨f2, T2⟩ := C.txt 2 (by decide)
  obtain ⟨f3, T3⟩ := C.txt 3 (by decide)
  obtain ⟨f4, T4⟩ := C.txt 4 (by decide)
  obtain ⟨f5, T5⟩ := C.txt 5 (by decide)
  obtain ⟨f6, T6⟩ := C.txt 6 (by decide)
  obtain ⟨f7, T7⟩ := C.txt 7 (by decide)
  obtain ⟨f8, T8⟩ := C.txt 8 (by decide)
  obtain ⟨f9, T9⟩ := C.txt 9 (by decide)
  obtain ⟨f10, T10⟩ := C.txt 10 (by decide)
  obtain ⟨f11, T11⟩ := C.txt 11 (by decide)
  obtain ⟨f12, T12⟩ := C.txt 12 (by decide)
  obtain ⟨f13, T13⟩ := C.txt 13 (by decide)
  obtain ⟨f14, T14⟩ := C.txt 14 (by decide)
  obtain ⟨f15, T15⟩ := C.txt 15 (by decide)
  obtain ⟨f16, T16⟩ := C.txt 16 (by decide)
  obtain ⟨f17, T17⟩ := C.txt 17 (by decide)
  obtain ⟨f18, T18⟩ := C.txt 18 (by decide)
  refine as_cons (as_asg 0 (x := .d (.lst [])) (μ1 := μ) gd.nd (ae_lst (ds := []) aa_nil (by decide)) ?_)
  refine as_cons (as_asg 0 (x := .d (.lst [.non, .non, .non, .non, .non])) (μ1 := μ) gd.nd (ae_ok (ae_op op_cat (ae_var 0 rfl) (ae_lst (ds := [.non, .non, .non, .non, .non]) (aa_cons (ae_value T0 (ae_mk0 (k := 0) T0 (C.m 0 (by decide)) gd)) (aa_cons (ae_value T1 (ae_mk0 (k := 0) T1 (C.m 1 (by decide)) gd)) (aa_cons (ae_value T2 (ae_mk0 (k := 0) T2 (C.m 2 (by decide)) gd)) (aa_cons (ae_value T3 (ae_mk0 (k := 0) T3 (C.m 3 (by decide)) gd)) (aa_cons (ae_value T4 (ae_mk0 (k := 0) T4 (C.m 4 (by decide)) gd)) aa_nil))))) (show 5 ≤ 10000000 by decide)) (br_cat (show 0 + 5 ≤ 10000000 by decide))) rfl rfl) ?_)
  refine as_cons (as_asg 0 (x := .d (.lst [.non, .non, .non, .non, .non, .non, .non, .non, .non, .non])) (μ1 := μ) gd.nd (ae_ok (ae_op op_cat (ae_var 0 rfl) (ae_lst (ds := [.non, .non, .non, .non, .non]) (aa_cons (ae_value T5 (ae_mk0 (k := 0) T5 (C.m 5 (by decide)) gd)) (aa_cons (ae_value T6 (ae_mk0 (k := 0) T6 (C.m 6 (by decide)) gd)) (aa_cons (ae_value T7 (ae_mk0 (k := 0) T7 (C.m 7 (by decide)) gd)) (aa_cons (ae_value T8 (ae_mk0 (k := 0) T8 (C.m 8 (by decide)) gd)) (aa_cons (ae_value T9 (ae_mk0 (k := 0) T9 (C.m 9 (by decide)) gd)) aa_nil))))) (show 5 ≤ 10000000 by decide)) (br_cat (show 5 + 5 ≤ 10000000 by decide))) rfl rfl) ?_)
  refine as_cons (as_asg 0 (x := .d (.lst [.non, .non, .non, .non, .non, .non, .non, .non, .non, .non, .non, .non, .non, .non, .non])) (μ1 := μ) gd.nd (ae_ok (ae_op op_cat (ae_var 0 rfl) (ae_lst (ds := [.non, .non, .non, .non, .non]) (aa_cons (ae_value T10 (ae_mk0 (k := 0) T10 (C.m 10 (by decide)) gd)) (aa_cons (ae_value T11 (ae_mk0 (k := 0) T11 (C.m 11 (by decide)) gd)) (aa_cons (ae_value T12 (ae_mk0 (k := 0) T12 (C.m 12 (by decide)) gd)) (aa_cons (ae_value T13 (ae_mk0 (k := 0) T13 (C.m 13 (by decide)) gd)) (aa_cons (ae_value T14 (ae_mk0 (k := 0) T14 (C.m 14 (by decide)) gd)) aa_nil))))) (show 5 ≤ 10000000 by decide)) (br_cat (show 10 + 5 ≤ 10000000 by decide))) rfl rfl) ?_)
  refine as_cons (as_asg 0 (x := .d (.lst [.non, .non, .non, .non, .non, .non, .non, .non, .non, .non, .non, .non, .non, .non, .non, .non, .non, .non, .non])) (μ1 := μ) gd.nd (ae_ok (ae_op op_cat (ae_var 0 rfl) (ae_lst (ds := [.non, .non, .non, .non]) (aa_cons (ae_value T15 (ae_mk0 (k := 0) T15 (C.m 15 (by decide)) gd)) (aa_cons (ae_value T16 (ae_mk0 (k := 0) T16 (C.m 16 (by decide)) gd)) (aa_cons (ae_value T17 (ae_mk0 (k := 0) T17 (C.m 17 (by decide)) gd)) (aa_cons (ae_value T18 (ae_mk0 (k := 0) T18 (C.m 18 (by decide)) gd)) aa_nil)))) (show 4 ≤ 10000000 by decide)) (br_cat (show 15 + 4 ≤ 10000000 by decide))) rfl rfl) ?_)
  exact as_one (as_ret (ae_var 0 rfl) (Out.mk rfl (SubM.refl _)))
def C_made (K : PySem.W.Frag) : Ct := fun xs μ o => ∃ (n : Nat) (v : AV), xs = [.d (.int n), v] ∧ n < 19 ∧ o = .ok (.d (.exc (clsK K n) (fld v))) μ
theorem sc_made : FnScope ["_law_number", "_law_value_here", "_law_makers", "_law_error"] ["_law_number", "_law_value_here"] (defScope s__law_made) := ⟨rfl, rfl, rfl, by decide +kernel, rfl, by decide +kernel, by decide +kernel⟩
theorem ok_made (F : FunAt K mg "_law_made" s__law_made) (G1 : ∀ base, Fo Pw w K mg base "_law_first" s__law_first 2 ["_law_number", "_law_value_here"] (C_part K 0 7)) (G2 : ∀ base, Fo Pw w K mg base "_law_second" s__law_second 2 ["_law_number", "_law_value_here"] (C_part K 7 14)) (G3 : ∀ base, Fo Pw w K mg base "_law_third" s__law_third 2 ["_law_number", "_law_value_here"] (C_part K 14 19)) : Fo Pw w K mg base "_law_made" s__law_made 3 ["_law_number", "_law_value_here"] (C_made K) := by
  refine fo F sc_made (fun _ _ _ _ _ _ us hl => match us, hl with | [_, _], _ => rfl) ?_
  rintro f cdv A outer s H E xs μ o gd hl ⟨n, v, rfl, hn, rfl⟩
  refine as_cons (as_asg 2 (x := .d (.lst [if 0 ≤ n ∧ n < 7 then .exc (clsK K n) (fld v) else .non, if 7 ≤ n ∧ n < 14 then .exc (clsK K n) (fld v) else .non, if 14 ≤ n ∧ n < 19 then .exc (clsK K n) (fld v) else .non])) (μ1 := μ) gd.nd (ae_lst (ds := [if 0 ≤ n ∧ n < 7 then .exc (clsK K n) (fld v) else .non, if 7 ≤ n ∧ n < 14 then .exc (clsK K n) (fld v) else .non, if 14 ≤ n ∧ n < 19 then .exc (clsK K n) (fld v) else .non]) (aa_cons (ae_fn (G1 _) gd (aa_cons (ae_var 0 rfl) (aa_cons (ae_var 1 rfl) aa_nil)) ⟨n, v, rfl, hn, rfl⟩)
    (aa_cons (ae_fn (G2 _) gd (aa_cons (ae_var 0 rfl) (aa_cons (ae_var 1 rfl) aa_nil)) ⟨n, v, rfl, hn, rfl⟩) (aa_cons (ae_fn (G3 _) gd (aa_cons (ae_var 0 rfl) (aa_cons (ae_var 1 rfl) aa_nil)) ⟨n, v, rfl, hn, rfl⟩) aa_nil))) (show 3 ≤ 10000000 by decide)) ?_)
  generalize hds : [if 0 ≤ n ∧ n < 7 then Dt.exc (clsK K n) (fld v) else .non, if 7 ≤ n ∧ n < 14 then .exc (clsK K n) (fld v) else .non, if 14 ≤ n ∧ n < 19 then .exc (clsK K n) (fld v) else .non] = ds
  have hl3 : ds.length = 3 := by rw [← hds]; rfl
  have hfl : ds.filter (fun d => !L2.DL.isNon d) = [.exc (clsK K n) (fld v)] := by
    rw [← hds]
    rcases Nat.lt_or_ge n 7 with h | h
    · rw [if_pos ⟨Nat.zero_le _, h⟩, if_neg (by omega), if_neg (by omega)]
      rfl
    · rcases Nat.lt_or_ge n 14 with h2 | h2
      · rw [if_neg (by omega), if_pos ⟨h, h2⟩, if_neg (by omega)]
        rfl
      · rw [if_neg (by omega), if_neg (by omega), if_pos ⟨h2, hn⟩]
        rfl
  refine as_one (as_ret (ae_ix ix_list (ae_lcif gd 3 ds id (fun d => !L2.DL.isNon d) id (by rw [List.map_id]; exact src_lst (ae_var 2 rfl)) (by omega) ?tst ?elt) ae_int (br_ixL (d := .exc (clsK K n) (fld v)) (by rw [hfl]; rfl))) (Out.mk rfl (SubM.refl _)))
  case tst => exact fun i x ν s H C cl fp hx sub => at_cmp op_notN1 (ae_var 3 rfl) ae_non br_notN rfl
  case elt => exact fun i x ν s H C cl fp hx ht sub => ae_var 3 rfl
end
end K08
set_option maxHeartbeats 4000000
set_option exponentiation.threshold 5000
namespace K08
open PySem PySem.Spec PyProof.Rows L2 L2.DL KM
/-- the drawn value -/
def valO (g : G3) (p : Addr) (μ : Mu) : ERes :=
  if (rndB g 5).1 = 0 then .ok (.d (.int (rndB (rndB g 5).2 (10 ^ 30)).1)) (upM μ p (gL (rndB (rndB g 5).2 (10 ^ 30)).2))
  else if (rndB g 5).1 = 1 then .ok (.d (.str (repD (rndB (rndB g 5).2 3).1.toNat [97, 98]))) (upM μ p (gL (rndB (rndB g 5).2 3).2))
  else if (rndB g 5).1 = 2 then .new [.d (.int (rndB (rndB g 5).2 9).1), .d .non] (upM μ p (gL (rndB (rndB g 5).2 9).2))
  else if (rndB g 5).1 = 3 then .ok (.d .non) (upM μ p (gL (rndB g 5).2))
  else .ok (.d (.tup [.int (rndB (rndB g 5).2 9).1, .tup [.int 0, .int (-1)]])) (upM μ p (gL (rndB (rndB g 5).2 9).2))
def C_value : Ct := fun xs μ o => ∃ (p : Addr) (g : G3), xs = [.l p] ∧ μ p = some (gL g) ∧ okG 2000 g ∧ o = valO g p μ
section
variable {w : World} {K : PySem.W.Frag} {mg : Str → Option Value} {base : Heap}
theorem sc_value : FnScope ["_law_generator_here", "_law_kind"] ["_law_generator_here"] (defScope s__law_value) := ⟨rfl, rfl, rfl, by decide +kernel, rfl, by decide +kernel, by decide +kernel⟩
theorem ok_value (F : FunAt K mg "_law_value" s__law_value) (G : ∀ base, Fo Pw w K mg base "_law_random" s__law_random 2 ["_law_generator_here", "_law_bound"] C_randomB) : Fo Pw w K mg base "_law_value" s__law_value 3 ["_law_generator_here"] C_value := by
  refine fo F sc_value (fun _ _ _ _ _ _ us hl => match us, hl with | [_], _ => rfl) ?_
  rintro f cdv A outer s H E xs μ o gd hl ⟨p, g, rfl, hm, hg, rfl⟩
  have hu := gd.hr.un
  have hu2 : (Bd Pw w K mg base ["_law_generator_here", "_law_kind"] "_law_value" s__law_value f cdv A outer s H E).A.units + 64 < cLine := by omega
  have hg1 := rndB_ok hg (b := 5) (by decide) (PyProof.Rows.intBits_le (k := 420) (by decide))
  refine as_cons (as_asg 1 (x := .d (.int (rndB g 5).1)) (μ1 := upM μ p (gL (rndB g 5).2)) gd.nd (ae_fn (G _) gd (aa_cons (ae_var 0 rfl) (aa_cons ae_int aa_nil)) ⟨p, g, 5, 2000, rfl, hm, hg, by decide, by decide, by decide, rfl⟩) ?_)
  have m1 : (upM μ p (gL (rndB g 5).2)) p = some (gL (rndB g 5).2) := upM_same
  have hO : valO g p μ = valO g p μ := rfl
  conv at hO => rhs; unfold valO
  generalize valO g p μ = o at hO
  generalize (rndB g 5).1 = kd at hO
  generalize (rndB g 5).2 = g1 at hO m1 hg1
  have drawn : ∀ b : Int, 0 < b → b < 2 ^ 420 → C_randomB [.l p, .d (.int b)] (upM μ p (gL g1)) (.ok (.d (.int (rndB g1 b).1)) (upM μ p (gL (rndB g1 b).2))) := fun b h1 h2 => ⟨p, g1, b, _, rfl, m1, hg1, by decide, h1, h2, by rw [upM_upM]⟩
  refine as_cons (as_if (k := decide (kd = 0)) (at_eqI hu2 (ae_var 1 rfl) ae_int) (fun e => ?r0) (fun e0 => as_nil ?_))
  case r0 =>
    rw [if_pos (of_decide_eq_true e)] at hO
    subst hO
    exact as_one (as_ret (ae_fn (G _) gd (aa_cons (ae_var 0 rfl) (aa_cons (ae_op op_powB ae_int ae_int (br_powB ⟨by decide, by decide⟩)) aa_nil)) (drawn (10 ^ 30) (by decide) (by decide))) (Out.mk rfl (SubM.refl _)))
  rw [if_neg (of_decide_eq_false e0)] at hO
  refine as_cons (as_if (k := decide (kd = 1)) (at_eqI hu2 (ae_var 1 rfl) ae_int) (fun e => ?r1) (fun e1 => as_nil ?_))
  case r1 =>
    rw [if_pos (of_decide_eq_true e)] at hO
    subst hO
    have lt := rndB_lt (g := g1) (b := 3) (by decide)
    exact as_one (as_ret (ae_op op_mulT (ae_str [97, 98]) (ae_fn (G _) gd (aa_cons (ae_var 0 rfl) (aa_cons ae_int aa_nil)) (drawn 3 (by decide) (by decide))) (br_mulT ⟨by omega, by omega⟩ (by show 2 * _ ≤ _; omega))) (Out.mk rfl (SubM.refl _)))
  rw [if_neg (of_decide_eq_false e1)] at hO
  refine as_cons (as_if (k := decide (kd = 2)) (at_eqI hu2 (ae_var 1 rfl) ae_int) (fun e => ?r2) (fun e2 => as_nil ?_))
  case r2 =>
    rw [if_pos (of_decide_eq_true e)] at hO
    subst hO
    exact as_one (as_retNew (ae_lstN (xs := [.d (.int (rndB g1 9).1), .d .non]) (aa_cons (ae_fn (G _) gd (aa_cons (ae_var 0 rfl) (aa_cons ae_int aa_nil)) (drawn 9 (by decide) (by decide))) (aa_cons ae_non aa_nil)) (show 2 ≤ 10000000 by decide)) fun q hq => Out.new rfl upM_same (SubM.up hq) hq)
  rw [if_neg (of_decide_eq_false e2)] at hO
  by_cases e3 : kd = 3
  · rw [if_pos e3] at hO
    subst hO
    exact as_one (as_ret (ae_if (k := true) (at_ok (at_eqI hu2 (ae_var 1 rfl) ae_int) (decide_eq_true e3)) (fun _ => ae_non) (fun z => Bool.noConfusion z)) (Out.mk rfl (SubM.refl _)))
  · rw [if_neg e3] at hO
    subst hO
    exact as_one (as_ret (ae_if (k := false) (at_ok (at_eqI hu2 (ae_var 1 rfl) ae_int) (decide_eq_false e3)) (fun z => Bool.noConfusion z) (fun _ => ae_tup (ds := [.int (rndB g1 9).1, .tup [.int 0, .int (-1)]]) (aa_cons (ae_fn (G _) gd (aa_cons (ae_var 0 rfl) (aa_cons ae_int aa_nil)) (drawn 9 (by decide) (by decide))) (aa_cons (ae_tup (ds := [.int 0, .int (-1)]) (aa_cons ae_int (aa_cons (ae_neg ae_int) aa_nil)) (show 2 ≤ 10000000 by decide)) aa_nil)) (show 2 ≤ 10000000 by decide))) (Out.mk rfl (SubM.refl _)))
end
end K08
set_option maxHeartbeats 4000000
namespace K08
open PySem PySem.Spec PyProof.Rows L2 L2.DL KM
theorem plainDs_all {ds : List Dt} (h : ∀ d ∈ ds, plainD d = true) : plainDs ds = true := by
  induction ds with
  | nil => rfl
  | cons d ds ih => exact Bool.and_eq_true_iff.mpr ⟨h d (by simp), ih fun e he => h e (by simp [he])⟩
theorem depDs_all {ds : List Dt} (h : ∀ d ∈ ds, depD d = 0) : depDs ds = 0 := by
  induction ds with
  | nil => rfl
  | cons d ds ih => show max (depD d) (depDs ds) = 0; rw [h d (by simp), ih fun e he => h e (by simp [he])]; rfl
theorem okD_flat {ds : List Dt} (h : ∀ d ∈ ds, plainD d = true ∧ depD d = 0) : okD (.lst ds) = true := by
  refine Bool.and_eq_true_iff.mpr ⟨plainDs_all fun d hd => (h d hd).1, decide_eq_true ?_⟩
  show depDs ds + 1 ≤ 60
  rw [depDs_all fun d hd => (h d hd).2]
  omega
section
variable {X : Cx} {ρ : Rho} {μ : Mu} {R : Rs} {st : Stmt} {sts : List Stmt} {Q : Rho → Mu → Prop}
/-- a statement, what stands behind it, the rest -/
theorem as_mid (Q : Rho → Mu → Prop) (h : AS1 X st ρ μ { R with nx := Q }) (k : ∀ ρ' μ', Q ρ' μ' → AS X sts ρ' μ' R) : AS X (st :: sts) ρ μ R :=
  as_cons fun F H σ hs hh Ds W tk q => h F H σ hs hh Ds W tk ⟨fun F' H' σ' ρ' μ' s1 z => q.nx F' H' σ' ρ' μ' s1 (k _ _ z), q.rt, q.bk, q.ct, q.ex⟩
end
/-- values that are alike to themselves -/
inductive Good (n : Nat) (μ : Mu) : AV → Prop where
  | d (x : Dt) (h : okD x = true) (t : tyD x ≠ "") (k : kitB (tyD x) "list" = some false) : Good n μ (.d x)
  | l (q : Addr) (ds : List Dt) (m : μ q = some (.lst (ds.map AV.d))) (h : ∀ d ∈ ds, plainD d = true ∧ depD d = 0) (len : ds.length ≤ n) : Good n μ (.l q)
theorem Good.mono {n m : Nat} {μ ν : Mu} {v : AV} (h : Good n μ v) (l : n ≤ m) (s : SubM μ ν) : Good m ν v := by
  cases h with
  | d x h t k => exact .d x h t k
  | l q ds m h len => exact .l q ds (s _ _ m) h (Nat.le_trans len l)
theorem br_self {K : PySem.W.Frag} {n : Nat} {μ : Mu} {v : AV} (h : Good n μ v) : BR K (rEqD K) v v μ (.d (.bl true)) μ := by
  cases h with
  | d x h t k =>
    have := br_eq (K := K) (μ := μ) h h
    rwa [eqD_self h] at this
  | l q ds m h len =>
    have h2 := okD_flat h
    have := br_eqV (K := K) (LstV.l m) (LstV.l m) h2 h2
    rwa [eqD_self h2] at this
theorem rep_ab {r : Int} (h : 0 ≤ r ∧ r < 3) : okD (.str (repD r.toNat [97, 98])) = true := by
  rcases (show r.toNat = 0 ∨ r.toNat = 1 ∨ r.toNat = 2 by omega) with e | e | e <;> rw [e] <;> decide
theorem val_cases (g : G3) (p : Addr) (μ : Mu) : (∃ x g', valO g p μ = .ok (.d x) (upM μ p (gL g')) ∧ okD x = true ∧ tyD x ≠ "" ∧ kitB (tyD x) "list" = some false) ∨ ∃ r g', valO g p μ = .new [.d (.int r), .d .non] (upM μ p (gL g')) := by
  unfold valO
  split
  · exact .inl ⟨_, _, rfl, rfl, by simp [tyD], by kernel_rfl⟩
  · split
    · exact .inl ⟨_, _, rfl, rep_ab (rndB_lt (by decide)), by simp [tyD], by kernel_rfl⟩
    · split
      · exact .inr ⟨_, _, rfl⟩
      · split
        · exact .inl ⟨_, _, rfl, rfl, by simp [tyD], by kernel_rfl⟩
        · exact .inl ⟨_, _, rfl, rfl, by simp [tyD], by kernel_rfl⟩
structure Lib (w : World) (K : PySem.W.Frag) (mg : Str → Option Value) : Prop where
  cls : Cls K mg
  value : ∀ base, Fo Pw w K mg base "_law_value" s__law_value 3 ["_law_generator_here"] C_value
  made : ∀ base, Fo Pw w K mg base "_law_made" s__law_made 3 ["_law_number", "_law_value_here"] (C_made K)
  kinds : ∀ base, Fo Pw w K mg base "_law_kinds" s__law_kinds 1 ["_law_error"] (C_kinds K)
  named : ∀ base, Fo Pw w K mg base "_law_named" s__law_named 2 ["_law_value_here"] C_named
  empty : ∀ base, Fo Pw w K mg base "_law_empty" s__law_empty 2 [] C_empty
  generator : ∀ base, Fo Pw w K mg base "_law_generator" s__law_generator 1 ["_law_script", "_law_index"] C_generator
  bIs : mg "isinstance" = none
  bRange : mg "range" = none
  bList : mg "list" = none
  bVE : mg "ValueError" = none
theorem ok_bls {f : Nat → Bool} {n : Nat} : okD (.lst ((List.range n).map fun j => .bl (f j))) = true := okD_flat fun d hd => by
  obtain ⟨j, _, rfl⟩ := List.mem_map.mp hd
  exact ⟨rfl, rfl⟩
section
variable {w : World} {K : PySem.W.Frag} {mg : Str → Option Value} {base : Heap}
theorem sc_law : FnScope ["_law_script", "_law_generator_here", "_law_value_here", "_law_number", "_law_error", "_law_place", "_law_field"] ["_law_script"] (defScope s_law) := ⟨rfl, rfl, rfl, by decide +kernel, rfl, by decide +kernel, by decide +kernel⟩
theorem ok_law (F : FunAt K mg "law" s_law) (Z : Lib w K mg) : Fo Pw w K mg base "law" s_law 4 ["_law_script"] CtLaw := by
  have C := Z.cls
  refine fo F sc_law (fun _ _ _ _ _ _ us hl => match us, hl with | [_], _ => rfl) ?_
  rintro f cdv A outer s H E xs μ o gd hlen ⟨ns, rfl, hns, rfl⟩
  have hu := gd.hr.un
  have hu2 : (Bd Pw w K mg base ["_law_script", "_law_generator_here", "_law_value_here", "_law_number", "_law_error", "_law_place", "_law_field"] "law" s_law f cdv A outer s H E).A.units + 64 < cLine := by omega
  have eD : ∀ (l : List Dt), (List.filter (fun _ => false) l) = [] := fun l => by simp
  have hg0 := gen0_ok ns 0 (by decide)
  refine as_cons (as_asgN 1 (xs := [.d (.int (gen0 ns 0).1), .d (.int (gen0 ns 0).2.1), .d (.int (gen0 ns 0).2.2)]) (μ1 := μ) gd.nd (ae_fn (Z.generator _) gd (aa_cons (ae_var 0 rfl) (aa_cons ae_int aa_nil)) ⟨ns, 0, rfl, by decide, rfl⟩) ?_)
  intro p hp
  generalize gen0 ns 0 = g0 at hg0
  have mp : (upM μ p (.lst [.d (.int g0.1), .d (.int g0.2.1), .d (.int g0.2.2)])) p = some (gL g0) := upM_same
  have hs0 : ∀ g : G3, SubM μ (upM (upM μ p (.lst [.d (.int g0.1), .d (.int g0.2.1), .d (.int g0.2.2)])) p (gL g)) := fun g => by
    rw [upM_upM]
    exact SubM.up hp
  generalize upM μ p (.lst [.d (.int g0.1), .d (.int g0.2.1), .d (.int g0.2.2)]) = μ1 at mp hs0
  refine as_mid (fun ρ' ν => ∃ v, ρ' = [some (.d (.scr ns)), some (.l p), some v, none, none, none, none] ∧ Good 2 ν v ∧ SubM μ ν ∧ ∀ q, v = .l q → μ q = none) ?val ?_
  case val =>
    rcases val_cases g0 p μ1 with ⟨x, g', ev, h1, h2, h3⟩ | ⟨r, g', ev⟩
    · exact as_asg 2 (x := .d x) (μ1 := upM μ1 p (gL g')) gd.nd (ae_fn (Z.value _) gd (aa_cons (ae_var 1 rfl) aa_nil) ⟨p, g0, rfl, mp, hg0, ev.symm⟩) ⟨.d x, rfl, .d x h1 h2 h3, hs0 g', fun q e => nomatch e⟩
    · refine as_asgN 2 (xs := [.d (.int r), .d .non]) (μ1 := upM μ1 p (gL g')) gd.nd (ae_fn (Z.value _) gd (aa_cons (ae_var 1 rfl) aa_nil) ⟨p, g0, rfl, mp, hg0, ev.symm⟩) fun q hq => ?_
      have hq0 : μ q = none := by
        cases e : μ q with
        | none => rfl
        | some u => rw [hs0 g' q u e] at hq; cases hq
      exact ⟨.l q, rfl, .l q [.int r, .non] upM_same (fun d hd => by
        rcases List.mem_cons.mp hd with rfl | hd
        · exact ⟨rfl, rfl⟩
        · rw [List.mem_singleton.mp hd]
          exact ⟨rfl, rfl⟩) (Nat.le_refl _), (hs0 g').trans (SubM.up hq), fun q' e => by cases e; exact hq0⟩
  rintro ρ' ν ⟨v, rfl, hG, hS, hv⟩
  -- each class
  refine as_cons (as_for gd 3 (src_range Z.bRange (aa_cons ae_int aa_nil) ⟨by decide, by decide⟩) (fun i ρ' ν => ∃ v3 v4, ρ' = [some (.d (.scr ns)), some (.l p), some v, v3, v4, none, none] ∧ Good (2 + i) ν v ∧ SubM μ ν) ⟨none, none, rfl, hG, hS⟩ ?_ ?_)
  · rintro i d ρ' ν hi ⟨v3, v4, rfl, hG, hS⟩
    have hi19 : i < 19 := by
      have := (List.getElem?_eq_some_iff.mp hi).1
      rw [List.length_map, List.length_range] at this
      exact this
    have ed : d = .int ((i : Nat) : Int) := by
      rw [List.getElem?_map, List.getElem?_range (show i < (19 : Int).toNat from hi19)] at hi
      cases hi
      rfl
    subst ed
    obtain ⟨fI, T⟩ := C.txt i hi19
    have hi21 : i < 21 := by omega
    refine as_cons (as_asg 4 (x := .d (.exc (clsK K i) (fld v))) (μ1 := ν) gd.nd (ae_fn (Z.made _) gd (aa_cons (ae_var 3 rfl) (aa_cons (ae_var 2 rfl) aa_nil)) ⟨i, v, rfl, hi19, rfl⟩) ?_)
    refine as_cons (as_if (k := false) (AW.at (aw_or (k := false) (at_not (at_val (k := true) (ae_callB call_isX Z.bIs PyProof.Rows.Boot.isinstance (aa_cons (ae_var 4 rfl) (aa_cons (ae_cls C.mF) aa_nil)) (bc_isX (.a _) (C.cl i hi21) (fun u r => r) (C.fe i hi21)))))
      (fun _ => aw_or1 (at_not (at_val (k := true) (ae_callB call_isX Z.bIs PyProof.Rows.Boot.isinstance (aa_cons (ae_var 4 rfl) (aa_cons (ae_ty (T := "ValueError") Z.bVE (by decide +kernel)) aa_nil)) (bc_isX (.a _) (C.cl i hi21) (fun u r => r) (C.ve i hi21)))))) (fun e => Bool.noConfusion e))) (fun e => Bool.noConfusion e) (fun _ => as_nil ?_))
    refine as_cons (as_if (k := false) (at_neD hu2 (ae_fn (Z.kinds _) gd (aa_cons (ae_var 4 rfl) aa_nil) ⟨i, _, rfl, hi21, .a _, rfl⟩) (ae_lc gd 5 (List.range 21) (fun (n : Nat) => Dt.int (n : Int)) (fun j => .bl (decide (j = i))) (src_range Z.bRange (aa_cons ae_int aa_nil) ⟨by decide, by decide⟩) (by decide) ?lc) rfl ok_bls) (fun e => Bool.noConfusion e) (fun _ => as_nil ?_))
    case lc => exact fun a j ν' s H C' cl fp hx sub => ae_ok (ae_cmp (op_eqD hu2) (ae_var 5 rfl) (ae_var 3 rfl) (br_eq rfl rfl) rfl) (by rw [eqI]; exact congrArg (fun z => AV.d (.bl z)) (decide_eq_decide.mpr (by omega))) rfl
    refine as_mid (fun ρ' ν' => ρ' = [some (.d (.scr ns)), some (.l p), some v, some (.d (.int ((i : Nat) : Int))), some (.d (.exc (clsK K i) (fld v))), none, none] ∧ Good (2 + (i + 1)) ν' v ∧ SubM μ ν') ?app ?_
    case app =>
      cases hG with
      | d x h1 h2 h3 => exact as_if (k := false) (at_val (ae_isT Z.bIs Z.bList PyProof.Rows.Boot.list (ae_var 2 rfl) (bc_isD h3 h2))) (fun e => Bool.noConfusion e) (fun _ => as_nil ⟨rfl, .d x h1 h2 h3, hS⟩)
      | l q ds m h len =>
        refine as_if (k := true) (at_val (ae_isT Z.bIs Z.bList PyProof.Rows.Boot.list (ae_var 2 rfl) (bc_isV (LstV.l m) (by kernel_rfl)))) (fun _ => as_one (as_expr (ae_bm PySem.F.plainAttrs_list PySem.F.slot_list_append PySem.F.type_list_append mt_append (ae_var 2 rfl) (ty_own m) (aa_cons (ae_var 3 rfl) aa_nil) (mc_append m (by rw [List.length_map]; omega))) ⟨rfl, .l q (ds ++ [.int ((i : Nat) : Int)]) ?_ ?_ ?_, ?_⟩)) (fun e => Bool.noConfusion e)
        · rw [upM_same, List.map_append]
          rfl
        · intro d hd
          rcases List.mem_append.mp hd with hd | hd
          · exact h d hd
          · rw [List.mem_singleton.mp hd]
            exact ⟨rfl, rfl⟩
        · rw [List.length_append]
          show _ + 1 ≤ _
          omega
        · intro r u e
          have nr : r ≠ q := fun z => by rw [z, hv q rfl] at e; cases e
          rw [upM_ne nr]
          exact hS r u e
    rintro ρ' ν' ⟨rfl, hG', hS'⟩
    exact as_one (as_if (k := false) (AW.at (aw_or (k := false) (at_not (at_ok (at_cmp (op_eqD hu2) (ae_unf (ae_value T (ae_var 4 rfl))) (ae_var 2 rfl) (br_self hG') rfl) (k' := true) rfl))
      (fun _ => aw_or1 (at_neD (d := .bl (L2.DL.isNon (fld v))) (d' := .bl (L2.DL.isNon (fld v))) hu2 (ae_cmp op_isN1 (ae_value T (ae_var 4 rfl)) ae_non br_isN rfl) (ae_cmp op_isN1 (ae_fld (ae_var 2 rfl)) ae_non br_isN rfl) rfl rfl)) (fun e => Bool.noConfusion e))) (fun e => Bool.noConfusion e) (fun _ => as_nil ⟨_, _, rfl, hG', hS'⟩))
  rintro ρ' ν ⟨v3, v4, rfl, hG, hS⟩
  -- by name
  refine as_cons (as_if (k := false) (at_ok (at_cmp (op_neNil hu2) (ae_lcif gd 6 (List.replicate 19 (fld v)) id (fun _ => false) id (by rw [List.map_id]; exact src_lst (ae_fn (Z.named _) gd (aa_cons (ae_var 2 rfl) aa_nil) ⟨v, rfl, rfl⟩)) (by rw [List.length_replicate]; decide) ?tst ?elt) (ae_lst (ds := []) aa_nil (by decide)) br_neNil rfl) (k' := false) (by rw [eD]; rfl)) (fun e => Bool.noConfusion e) (fun _ => as_nil ?_))
  case elt => exact fun a x ν' s H C' cl fp hx ht sub => ae_var 6 rfl
  case tst =>
    intro a x ν' s H C' cl fp hx sub
    have ex : x = fld v := List.eq_of_mem_replicate (List.mem_of_getElem? hx)
    subst ex
    refine at_ok (k := !true) (at_not ?_) rfl
    exact at_ok (at_cmp (op_eqD hu2) (ae_unf (v := v) (ae_var 6 rfl)) (ae_var 2 rfl) (br_self (hG.mono (Nat.le_refl _) sub)) rfl) rfl
  -- the two without a field
  refine as_cons (as_for gd 3 (src_range Z.bRange (aa_cons ae_int aa_nil) ⟨by decide, by decide⟩) (fun i ρ' ν' => ∃ v3 v4, ρ' = [some (.d (.scr ns)), some (.l p), some v, v3, v4, none, none] ∧ ν' = ν) ⟨_, _, rfl, rfl⟩ ?_ ?_)
  · rintro i d ρ' ν' hi ⟨v3, v4, rfl, rfl⟩
    have hi2 : i < 2 := by
      have := (List.getElem?_eq_some_iff.mp hi).1
      rw [List.length_map, List.length_range] at this
      exact this
    have ed : d = .int ((i : Nat) : Int) := by
      rw [List.getElem?_map, List.getElem?_range (show i < (2 : Int).toNat from hi2)] at hi
      cases hi
      rfl
    subst ed
    have hk : 19 + i < 21 := by omega
    refine as_cons (as_asg 4 (x := .d (.ex0 (clsK K (19 + i)))) (μ1 := ν') gd.nd (ae_if (k := decide (i = 0)) (at_ok (at_eqI hu2 (ae_var 3 rfl) ae_int) (decide_eq_decide.mpr (by omega)))
      (fun e => ae_ok (ae_ex0 C.x1.1 (C.m 19 (by decide)) C.x1.2) (by rw [of_decide_eq_true e]) rfl) (fun e => ae_ok (ae_ex0 C.x2.1 (C.m 20 (by decide)) C.x2.2) (by rw [show i = 1 by have := of_decide_eq_false e; omega]) rfl)) ?_)
    refine as_one (as_if (k := false) (AW.at (aw_or (k := false) (at_not (at_val (k := true) (ae_callB call_isX Z.bIs PyProof.Rows.Boot.isinstance (aa_cons (ae_var 4 rfl) (aa_cons (ae_cls C.mF) aa_nil)) (bc_isX .b (C.cl (19 + i) hk) (fun u r => r) (C.fe (19 + i) hk)))))
      (fun _ => aw_or1 (at_neD hu2 (ae_fn (Z.kinds _) gd (aa_cons (ae_var 4 rfl) aa_nil) ⟨19 + i, _, rfl, hk, .b, rfl⟩) (ae_lc gd 5 (List.range 21) (fun (n : Nat) => Dt.int (n : Int)) (fun j => .bl (decide (j = 19 + i))) (src_range Z.bRange (aa_cons ae_int aa_nil) ⟨by decide, by decide⟩) (by decide) ?lc2) rfl ok_bls)) (fun e => Bool.noConfusion e))) (fun e => Bool.noConfusion e) (fun _ => as_nil ⟨_, _, rfl, rfl⟩))
    exact fun a j ν'' s H C' cl fp hx sub => ae_ok (ae_cmp (op_eqD hu2) (ae_var 5 rfl) (ae_op op_add ae_int (ae_var 3 rfl) br_add) (br_eq rfl rfl) rfl) (by rw [eqI]; exact congrArg (fun z => AV.d (.bl z)) (decide_eq_decide.mpr (by omega))) rfl
  rintro ρ' ν' ⟨v3, v4, rfl, rfl⟩
  refine as_one (as_ret (ae_and (k := true) (k' := true) (ae_eqS (d := .lst []) hu2 (ae_ok (ae_lcif gd 6 (List.replicate 19 Dt.non) id (fun d => !L2.DL.isNon d) id (by rw [List.map_id]; exact src_lst (ae_fn0 (Z.empty _) gd ⟨rfl, rfl⟩)) (by decide) ?tst2 ?elt2) (by rfl) rfl) (ae_lst (ds := []) aa_nil (by decide)) rfl rfl)
    (fun _ => ae_one (ae_callB call_isX Z.bIs PyProof.Rows.Boot.isinstance (aa_cons (ae_ex0 C.xF.1 C.mF C.xF.2) (aa_cons (ae_ty (T := "ValueError") Z.bVE (by decide +kernel)) aa_nil)) (bc_isX .b C.clF (fun u r => r) C.veF)))) (Out.mk rfl hS))
  case tst2 => exact fun i x ν s H C cl fp hx sub => at_cmp op_notN1 (ae_var 6 rfl) ae_non br_notN rfl
  case elt2 => exact fun i x ν s H C cl fp hx ht sub => ae_var 6 rfl
end
end K08
set_option maxHeartbeats 4000000
namespace K08
open PySem PySem.Spec PyProof.Rows L2 L2.DL KM
theorem funD_uniq {K : PySem.W.Frag} {n q : Str} {st : Stmt} {f : Addr} {fd fd' : FuncData} (F : FunD K n q (defArgs st) (defBody st) (defScope st) [] [] f fd) (F' : FunD K n q (defArgs st) (defBody st) (defScope st) [] [] f fd') : fd = fd' := by
  obtain ⟨_, _, _, _, _, _, _, _, _, _, rfl, lk, _⟩ := F.ex
  obtain ⟨_, _, _, _, _, _, _, _, _, _, rfl, lk', _⟩ := F'.ex
  rw [lk] at lk'
  have e := Option.some.inj lk'
  simp only [Obj.mk.injEq, Data.func.injEq] at e
  exact e.2.2.1
theorem facts {w : World} {K : PySem.W.Frag} {h : Heap} {mg : Str → Option Value} {f : Addr} (X : K.In h) (G : h.Ns mainGlobals mg) (hfa : mg ("law" : Str) = some (.ref f)) (c : SaysW Pw fa fn er ex K) :
    ∃ fd : FuncData, (∀ (s : Shared) (v : Value), BindsTo s fd ⟨[v], []⟩ [("_law_script", v)]) ∧ ∀ base : Heap, K.In base → base.Ns mainGlobals mg → FnG Pw w K mg base 4 f fd ["_law_script"] (spOf K 1 CtLaw) := by
  obtain ⟨tb0, cb0, eb0⟩ := c.er ⟨"InvalidNumber", "InvalidNumber.__init__", inner 2⟩ (List.mem_of_getElem? (i := 0) rfl)
  have T0 := txt_ok tb0 eb0 ⟨⟨_, _, _, _, _, _, _, _, _, _, _, _, _, rfl, rfl, rfl, rfl⟩⟩
  obtain ⟨tb1, cb1, eb1⟩ := c.er ⟨"InvalidWord", "InvalidWord.__init__", inner 3⟩ (List.mem_of_getElem? (i := 1) rfl)
  have T1 := txt_ok tb1 eb1 ⟨⟨_, _, _, _, _, _, _, _, _, _, _, _, _, rfl, rfl, rfl, rfl⟩⟩
  obtain ⟨tb2, cb2, eb2⟩ := c.er ⟨"InvalidList", "InvalidList.__init__", inner 4⟩ (List.mem_of_getElem? (i := 2) rfl)
  have T2 := txt_ok tb2 eb2 ⟨⟨_, _, _, _, _, _, _, _, _, _, _, _, _, rfl, rfl, rfl, rfl⟩⟩
  obtain ⟨tb3, cb3, eb3⟩ := c.er ⟨"InvalidGroup", "InvalidGroup.__init__", inner 5⟩ (List.mem_of_getElem? (i := 3) rfl)
  have T3 := txt_ok tb3 eb3 ⟨⟨_, _, _, _, _, _, _, _, _, _, _, _, _, rfl, rfl, rfl, rfl⟩⟩
  obtain ⟨tb4, cb4, eb4⟩ := c.er ⟨"InvalidPicture", "InvalidPicture.__init__", inner 6⟩ (List.mem_of_getElem? (i := 4) rfl)
  have T4 := txt_ok tb4 eb4 ⟨⟨_, _, _, _, _, _, _, _, _, _, _, _, _, rfl, rfl, rfl, rfl⟩⟩
  obtain ⟨tb5, cb5, eb5⟩ := c.er ⟨"InvalidSketch", "InvalidSketch.__init__", inner 7⟩ (List.mem_of_getElem? (i := 5) rfl)
  have T5 := txt_ok tb5 eb5 ⟨⟨_, _, _, _, _, _, _, _, _, _, _, _, _, rfl, rfl, rfl, rfl⟩⟩
  obtain ⟨tb6, cb6, eb6⟩ := c.er ⟨"InvalidFold", "InvalidFold.__init__", inner 8⟩ (List.mem_of_getElem? (i := 6) rfl)
  have T6 := txt_ok tb6 eb6 ⟨⟨_, _, _, _, _, _, _, _, _, _, _, _, _, rfl, rfl, rfl, rfl⟩⟩
  obtain ⟨tb7, cb7, eb7⟩ := c.er ⟨"InvalidPaper", "InvalidPaper.__init__", inner 9⟩ (List.mem_of_getElem? (i := 7) rfl)
  have T7 := txt_ok tb7 eb7 ⟨⟨_, _, _, _, _, _, _, _, _, _, _, _, _, rfl, rfl, rfl, rfl⟩⟩
  obtain ⟨tb8, cb8, eb8⟩ := c.er ⟨"InvalidMachine", "InvalidMachine.__init__", inner 10⟩ (List.mem_of_getElem? (i := 8) rfl)
  have T8 := txt_ok tb8 eb8 ⟨⟨_, _, _, _, _, _, _, _, _, _, _, _, _, rfl, rfl, rfl, rfl⟩⟩
  obtain ⟨tb9, cb9, eb9⟩ := c.er ⟨"InvalidMap", "InvalidMap.__init__", inner 11⟩ (List.mem_of_getElem? (i := 9) rfl)
  have T9 := txt_ok tb9 eb9 ⟨⟨_, _, _, _, _, _, _, _, _, _, _, _, _, rfl, rfl, rfl, rfl⟩⟩
  obtain ⟨tb10, cb10, eb10⟩ := c.er ⟨"InvalidMove", "InvalidMove.__init__", inner 12⟩ (List.mem_of_getElem? (i := 10) rfl)
  have T10 := txt_ok tb10 eb10 ⟨⟨_, _, _, _, _, _, _, _, _, _, _, _, _, rfl, rfl, rfl, rfl⟩⟩
  obtain ⟨tb11, cb11, eb11⟩ := c.er ⟨"InvalidRow", "InvalidRow.__init__", inner 13⟩ (List.mem_of_getElem? (i := 11) rfl)
  have T11 := txt_ok tb11 eb11 ⟨⟨_, _, _, _, _, _, _, _, _, _, _, _, _, rfl, rfl, rfl, rfl⟩⟩
  obtain ⟨tb12, cb12, eb12⟩ := c.er ⟨"InvalidLines", "InvalidLines.__init__", inner 14⟩ (List.mem_of_getElem? (i := 12) rfl)
  have T12 := txt_ok tb12 eb12 ⟨⟨_, _, _, _, _, _, _, _, _, _, _, _, _, rfl, rfl, rfl, rfl⟩⟩
  obtain ⟨tb13, cb13, eb13⟩ := c.er ⟨"InvalidDeed", "InvalidDeed.__init__", inner 15⟩ (List.mem_of_getElem? (i := 13) rfl)
  have T13 := txt_ok tb13 eb13 ⟨⟨_, _, _, _, _, _, _, _, _, _, _, _, _, rfl, rfl, rfl, rfl⟩⟩
  obtain ⟨tb14, cb14, eb14⟩ := c.er ⟨"InvalidFlag", "InvalidFlag.__init__", inner 16⟩ (List.mem_of_getElem? (i := 14) rfl)
  have T14 := txt_ok tb14 eb14 ⟨⟨_, _, _, _, _, _, _, _, _, _, _, _, _, rfl, rfl, rfl, rfl⟩⟩
  obtain ⟨tb15, cb15, eb15⟩ := c.er ⟨"InvalidBook", "InvalidBook.__init__", inner 17⟩ (List.mem_of_getElem? (i := 15) rfl)
  have T15 := txt_ok tb15 eb15 ⟨⟨_, _, _, _, _, _, _, _, _, _, _, _, _, rfl, rfl, rfl, rfl⟩⟩
  obtain ⟨tb16, cb16, eb16⟩ := c.er ⟨"Unlike", "Unlike.__init__", inner 18⟩ (List.mem_of_getElem? (i := 16) rfl)
  have T16 := txt_ok tb16 eb16 ⟨⟨_, _, _, _, _, _, _, _, _, _, _, _, _, rfl, rfl, rfl, rfl⟩⟩
  obtain ⟨tb17, cb17, eb17⟩ := c.er ⟨"TooLong", "TooLong.__init__", inner 19⟩ (List.mem_of_getElem? (i := 17) rfl)
  have T17 := txt_ok tb17 eb17 ⟨⟨_, _, _, _, _, _, _, _, _, _, _, _, _, rfl, rfl, rfl, rfl⟩⟩
  obtain ⟨tb18, cb18, eb18⟩ := c.er ⟨"TooMany", "TooMany.__init__", inner 20⟩ (List.mem_of_getElem? (i := 18) rfl)
  have T18 := txt_ok tb18 eb18 ⟨⟨_, _, _, _, _, _, _, _, _, _, _, _, _, rfl, rfl, rfl, rfl⟩⟩
  have m0 := He.glo_ok X G (c.d.fact 13 (f := .glo "InvalidNumber") rfl)
  have m1 := He.glo_ok X G (c.d.fact 14 (f := .glo "InvalidWord") rfl)
  have m2 := He.glo_ok X G (c.d.fact 15 (f := .glo "InvalidList") rfl)
  have m3 := He.glo_ok X G (c.d.fact 16 (f := .glo "InvalidGroup") rfl)
  have m4 := He.glo_ok X G (c.d.fact 17 (f := .glo "InvalidPicture") rfl)
  have m5 := He.glo_ok X G (c.d.fact 18 (f := .glo "InvalidSketch") rfl)
  have m6 := He.glo_ok X G (c.d.fact 19 (f := .glo "InvalidFold") rfl)
  have m7 := He.glo_ok X G (c.d.fact 20 (f := .glo "InvalidPaper") rfl)
  have m8 := He.glo_ok X G (c.d.fact 21 (f := .glo "InvalidMachine") rfl)
  have m9 := He.glo_ok X G (c.d.fact 22 (f := .glo "InvalidMap") rfl)
  have m10 := He.glo_ok X G (c.d.fact 23 (f := .glo "InvalidMove") rfl)
  have m11 := He.glo_ok X G (c.d.fact 24 (f := .glo "InvalidRow") rfl)
  have m12 := He.glo_ok X G (c.d.fact 25 (f := .glo "InvalidLines") rfl)
  have m13 := He.glo_ok X G (c.d.fact 26 (f := .glo "InvalidDeed") rfl)
  have m14 := He.glo_ok X G (c.d.fact 27 (f := .glo "InvalidFlag") rfl)
  have m15 := He.glo_ok X G (c.d.fact 28 (f := .glo "InvalidBook") rfl)
  have m16 := He.glo_ok X G (c.d.fact 29 (f := .glo "Unlike") rfl)
  have m17 := He.glo_ok X G (c.d.fact 30 (f := .glo "TooLong") rfl)
  have m18 := He.glo_ok X G (c.d.fact 31 (f := .glo "TooMany") rfl)
  have m19 := He.glo_ok X G (c.d.fact 32 (f := .glo "NothingToUndo") rfl)
  have m20 := He.glo_ok X G (c.d.fact 33 (f := .glo "NothingToRedo") rfl)
  have mF := He.glo_ok X G (c.d.fact 12 (f := .glo "FoldError") rfl)
  have F__law_hash : FunAt K mg "_law_hash" s__law_hash := by
    obtain ⟨fd, F⟩ := c.d.def_ 0 (d := d__law_hash) rfl
    exact ⟨_, fd, F, He.glo_ok X G (c.d.fact 0 (f := .glo "_law_hash") rfl)⟩
  have F__law_generator : FunAt K mg "_law_generator" s__law_generator := by
    obtain ⟨fd, F⟩ := c.d.def_ 1 (d := d__law_generator) rfl
    exact ⟨_, fd, F, He.glo_ok X G (c.d.fact 1 (f := .glo "_law_generator") rfl)⟩
  have F__law_random : FunAt K mg "_law_random" s__law_random := by
    obtain ⟨fd, F⟩ := c.d.def_ 2 (d := d__law_random) rfl
    exact ⟨_, fd, F, He.glo_ok X G (c.d.fact 2 (f := .glo "_law_random") rfl)⟩
  have F__law_made : FunAt K mg "_law_made" s__law_made := by
    obtain ⟨fd, F⟩ := c.d.def_ 3 (d := d__law_made) rfl
    exact ⟨_, fd, F, He.glo_ok X G (c.d.fact 3 (f := .glo "_law_made") rfl)⟩
  have F__law_first : FunAt K mg "_law_first" s__law_first := by
    obtain ⟨fd, F⟩ := c.d.def_ 4 (d := d__law_first) rfl
    exact ⟨_, fd, F, He.glo_ok X G (c.d.fact 4 (f := .glo "_law_first") rfl)⟩
  have F__law_second : FunAt K mg "_law_second" s__law_second := by
    obtain ⟨fd, F⟩ := c.d.def_ 5 (d := d__law_second) rfl
    exact ⟨_, fd, F, He.glo_ok X G (c.d.fact 5 (f := .glo "_law_second") rfl)⟩
  have F__law_third : FunAt K mg "_law_third" s__law_third := by
    obtain ⟨fd, F⟩ := c.d.def_ 6 (d := d__law_third) rfl
    exact ⟨_, fd, F, He.glo_ok X G (c.d.fact 6 (f := .glo "_law_third") rfl)⟩
  have F__law_kinds : FunAt K mg "_law_kinds" s__law_kinds := by
    obtain ⟨fd, F⟩ := c.d.def_ 7 (d := d__law_kinds) rfl
    exact ⟨_, fd, F, He.glo_ok X G (c.d.fact 7 (f := .glo "_law_kinds") rfl)⟩
  have F__law_empty : FunAt K mg "_law_empty" s__law_empty := by
    obtain ⟨fd, F⟩ := c.d.def_ 8 (d := d__law_empty) rfl
    exact ⟨_, fd, F, He.glo_ok X G (c.d.fact 8 (f := .glo "_law_empty") rfl)⟩
  have F__law_named : FunAt K mg "_law_named" s__law_named := by
    obtain ⟨fd, F⟩ := c.d.def_ 9 (d := d__law_named) rfl
    exact ⟨_, fd, F, He.glo_ok X G (c.d.fact 9 (f := .glo "_law_named") rfl)⟩
  have F__law_value : FunAt K mg "_law_value" s__law_value := by
    obtain ⟨fd, F⟩ := c.d.def_ 10 (d := d__law_value) rfl
    exact ⟨_, fd, F, He.glo_ok X G (c.d.fact 10 (f := .glo "_law_value") rfl)⟩
  have F_law : FunAt K mg "law" s_law := by
    obtain ⟨fd, F⟩ := c.d.def_ 11 (d := d_law) rfl
    exact ⟨_, fd, F, He.glo_ok X G (c.d.fact 11 (f := .glo "law") rfl)⟩
  have hex : exA K = true ∧ exB K = true ∧ exC K = true ∧ exD K = true := by
    have M := c.more
    unfold ex at M
    obtain ⟨h1, M⟩ := Bool.and_eq_true_iff.mp M
    obtain ⟨h2, M⟩ := Bool.and_eq_true_iff.mp M
    obtain ⟨h3, h4⟩ := Bool.and_eq_true_iff.mp M
    exact ⟨h1, h2, h3, h4⟩
  obtain ⟨hA, hB, hC, hD⟩ := hex
  have sC : ∀ x ∈ (["FoldError", "NothingToUndo", "NothingToRedo"] : List Str), PySem.FEx.Cl K (He.ga K x) ∧ (PySem.W.excIn K (He.ga K x) veB "ValueError.__new__" = true ∧ PySem.W.keepIn K (.ref (He.ga K x)) = true) := fun x hx => by
    obtain ⟨h1, h2⟩ := Bool.and_eq_true_iff.mp (List.all_eq_true.mp hC x hx)
    exact ⟨cl_ok h1, Bool.and_eq_true_iff.mp h2⟩
  have sF := sC "FoldError" (by simp)
  have s1 := sC "NothingToUndo" (by simp)
  have s2 := sC "NothingToRedo" (by simp)
  have C : Cls K mg := ⟨fun k hk => match k, hk with
    | 0, _ => ⟨_, T0⟩
    | 1, _ => ⟨_, T1⟩
    | 2, _ => ⟨_, T2⟩
    | 3, _ => ⟨_, T3⟩
    | 4, _ => ⟨_, T4⟩
    | 5, _ => ⟨_, T5⟩
    | 6, _ => ⟨_, T6⟩
    | 7, _ => ⟨_, T7⟩
    | 8, _ => ⟨_, T8⟩
    | 9, _ => ⟨_, T9⟩
    | 10, _ => ⟨_, T10⟩
    | 11, _ => ⟨_, T11⟩
    | 12, _ => ⟨_, T12⟩
    | 13, _ => ⟨_, T13⟩
    | 14, _ => ⟨_, T14⟩
    | 15, _ => ⟨_, T15⟩
    | 16, _ => ⟨_, T16⟩
    | 17, _ => ⟨_, T17⟩
    | 18, _ => ⟨_, T18⟩
    | k + 19, h => absurd h (by omega),
    fun k hk => match k, hk with
    | 0, _ => m0
    | 1, _ => m1
    | 2, _ => m2
    | 3, _ => m3
    | 4, _ => m4
    | 5, _ => m5
    | 6, _ => m6
    | 7, _ => m7
    | 8, _ => m8
    | 9, _ => m9
    | 10, _ => m10
    | 11, _ => m11
    | 12, _ => m12
    | 13, _ => m13
    | 14, _ => m14
    | 15, _ => m15
    | 16, _ => m16
    | 17, _ => m17
    | 18, _ => m18
    | 19, _ => m19
    | 20, _ => m20
    | k + 21, h => absurd h (by omega),
    fun k hk => match k, hk with
    | 0, _ => cl_ok cb0
    | 1, _ => cl_ok cb1
    | 2, _ => cl_ok cb2
    | 3, _ => cl_ok cb3
    | 4, _ => cl_ok cb4
    | 5, _ => cl_ok cb5
    | 6, _ => cl_ok cb6
    | 7, _ => cl_ok cb7
    | 8, _ => cl_ok cb8
    | 9, _ => cl_ok cb9
    | 10, _ => cl_ok cb10
    | 11, _ => cl_ok cb11
    | 12, _ => cl_ok cb12
    | 13, _ => cl_ok cb13
    | 14, _ => cl_ok cb14
    | 15, _ => cl_ok cb15
    | 16, _ => cl_ok cb16
    | 17, _ => cl_ok cb17
    | 18, _ => cl_ok cb18
    | 19, _ => s1.1
    | 20, _ => s2.1
    | k + 21, h => absurd h (by omega),
    fun k hk j hj => of_decide_eq_true (List.all_eq_true.mp (List.all_eq_true.mp hA k (List.mem_range.mpr hk)) j (List.mem_range.mpr hj)),
    fun k hk => of_decide_eq_true (Bool.and_eq_true_iff.mp (List.all_eq_true.mp hB k (List.mem_range.mpr hk))).1,
    fun k hk => of_decide_eq_true (Bool.and_eq_true_iff.mp (List.all_eq_true.mp hB k (List.mem_range.mpr hk))).2,
    mF, sF.1, of_decide_eq_true hD, sF.2, s1.2, s2.2⟩
  have H_hash := fun base => ok_hash (w := w) (base := base) F__law_hash (He.free_ok X G (c.d.fact 35 (f := .free "int") rfl))
  have H_gen := fun base => ok_generator (w := w) (base := base) F__law_generator (He.free_ok X G (c.d.fact 35 (f := .free "int") rfl)) (He.free_ok X G (c.d.fact 37 (f := .free "len") rfl)) (He.free_ok X G (c.d.fact 41 (f := .free "sum") rfl)) (He.free_ok X G (c.d.fact 39 (f := .free "max") rfl))
  have H_rnd := fun base => ok_randomB (w := w) (base := base) F__law_random (He.free_ok X G (c.d.fact 35 (f := .free "int") rfl)) (He.free_ok X G (c.d.fact 40 (f := .free "range") rfl)) H_hash
  have H_1 := fun base => ok_first (w := w) (base := base) F__law_first C
  have H_2 := fun base => ok_second (w := w) (base := base) F__law_second C
  have H_3 := fun base => ok_third (w := w) (base := base) F__law_third C
  have H_made := fun base => ok_made (w := w) (base := base) F__law_made H_1 H_2 H_3
  have H_kinds := fun base => ok_kinds (w := w) (base := base) F__law_kinds (He.free_ok X G (c.d.fact 36 (f := .free "isinstance") rfl)) C
  have H_named := fun base => ok_named (w := w) (base := base) F__law_named C
  have H_empty := fun base => ok_empty (w := w) (base := base) F__law_empty C
  have H_value := fun base => ok_value (w := w) (base := base) F__law_value H_rnd
  have Z : Lib w K mg := ⟨C, H_value, H_made, H_kinds, H_named, H_empty, H_gen, (He.free_ok X G (c.d.fact 36 (f := .free "isinstance") rfl)), (He.free_ok X G (c.d.fact 40 (f := .free "range") rfl)), (He.free_ok X G (c.d.fact 38 (f := .free "list") rfl)), (He.free_ok X G (c.d.fact 34 (f := .free "ValueError") rfl))⟩
  have L := fun base => ok_law (w := w) (base := base) F_law Z
  obtain ⟨fL, fdL, FL, hL⟩ := F_law
  have e := hfa.symm.trans hL
  cases e
  have b := FunD.bindsA (ps := ["_law_script"]) FL fun _ _ _ _ _ _ us hl => match us, hl with | [_], _ => rfl
  refine ⟨fdL, fun s v => b s [v] rfl, fun base _ _ => ?_⟩
  obtain ⟨f2, fd2, F2, hm2, G2, _⟩ := (L base).ex
  have e2 := hL.symm.trans hm2
  cases e2
  rw [funD_uniq FL F2]
  exact G2
end K08
set_option maxHeartbeats 0
open PySem PySem.W PySem.Calls PyProof.Rows
theorem PySem.Challenge.cw_signlanes_k08_errors_by_their_classes_holds : PySem.Challenge.rw_signlanes_k08_errors_by_their_classes.Holds := by
  w_on; o_law
  refine HandSHeadRun.head_any (r := OpenLaw.row PySem.Challenge.rw_signlanes_k08_errors_by_their_classes) (q := view (OpenLaw.row PySem.Challenge.rw_signlanes_k08_errors_by_their_classes).prog [35]) (H := K08.hk) (ob := K08.ob) (M := 6000) (loose := K08.loose) (d := HandSHeadRun.topDef (OpenLaw.row PySem.Challenge.rw_signlanes_k08_errors_by_their_classes).prog 35) (kwd := []) K08.ob_eq
    (by kernel_rfl) (fun s => by kernel_rfl) K08.run (by kernel_rfl) (by kernel_rfl) (by kernel_rfl) (by rfl) (by first | assumption | decide +kernel) (by decide +kernel) ⟨rfl, rfl, rfl, rfl, rfl, by decide +kernel⟩ ?hw ?hc
  case hw => w_witness2
  case hc =>
    refine L2.DL.walkG (l := PySem.Challenge.rw_signlanes_k08_errors_by_their_classes) (k := 4) (x := "_law_script") rfl (by kernel_rfl) ⟨rfl, by decide, by decide⟩ ?F
    intro w mg fa h Y G hmg0
    obtain ⟨K, KX, c⟩ := Y
    have hmg : mg ("law" : PySem.Str) = some (.ref fa) := by
      have e : (HandSHeadRun.topDef (OpenLaw.row PySem.Challenge.rw_signlanes_k08_errors_by_their_classes).prog 35).name = ("law" : PySem.Str) := by kernel_rfl
      rw [← e]
      exact hmg0
    obtain ⟨fd, hb, hF⟩ := K08.facts (w := w) KX G hmg c
    exact ⟨K, fd, KX, hb, hF⟩
