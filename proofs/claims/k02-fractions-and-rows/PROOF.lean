import PyProof.Rows.All
import Wide.All
import OpenK.AllK
import Wide.FinOn
import HandS.ForMost
import HandS.IsInst
import HandS.Gcd
import HandS.Wide
import HandS.Zip
import HandS.TupAny
import HandS.Flow
import HandS.Nested
import HandS.Style
import HandS.TupMul
import HandS.RaiseMore
import HandS.Text
import HandS.Conv
import KE.GoesNew
import HandS.Dict
import PySem.Challenge.RW_wheremade_k02_fractions_and_rows_of_any
set_option Elab.async false
set_option linter.all false
set_option maxRecDepth 100000
set_option autoImplicit false
section
set_option Elab.async false
set_option linter.all false
set_option maxRecDepth 100000
set_option autoImplicit false
/-! Fw1: the data layer. Values are plain data (PyData) or references to a few mutable objects; the heap of HandS stands behind them. -/
namespace Pz
open PySem PySem.Spec L2 LamX

abbrev D := PyData
/-- a value: data, or the n-th mutable object -/
inductive W where
  | d (x : D)
  | ref (n : Nat)
  | scr (ns : List Int)
  | fn (n : Nat) (cs : List W)
/-- a function is no item of a mutable object -/
def W.isFn : W → Bool
  | .fn _ _ => true
  | _ => false
/-- a mutable object: given up, a list, a dict with int and text keys, the table of a code object whose lambdas bear the name q -/
inductive Ob where
  | dead
  | lst (ws : List W)
  | dic (kws : List (Key × W))
  | tab (q : Str)
abbrev IH := List Ob
abbrev En := List (Option W)

def Ob.isLive : Ob → Bool
  | .dead => false
  | _ => true
def Live (m : List Addr) (ih : IH) (a : Addr) : Prop := ∃ (i : Nat) (o : Ob), m[i]? = some a ∧ ih[i]? = some o ∧ o.isLive = true

def keyD : Key → D
  | .inl i => .int i
  | .inr s => .str s

/-! ### data in the heap -/
mutual
def DR (K : PySem.W.Frag) (L : Addr → Prop) (H : Hp) : D → V → Prop
  | .none, v => v = .non
  | .bool b, v => v = .bl b
  | .int i, v => v = .int i
  | .str s, v => v = .str s
  | .tuple xs, v => ∃ a vs, v = .ref a ∧ SqT K H a vs ∧ DRs K L H xs vs
  | .list xs, v => ∃ a vs, v = .ref a ∧ H a = some (.lst vs) ∧ ¬ L a ∧ DRs K L H xs vs
  | .dict ks, v => ∃ a kvs, v = .ref a ∧ H a = some (.dK kvs) ∧ ¬ L a ∧ DRk K L H ks kvs
def DRs (K : PySem.W.Frag) (L : Addr → Prop) (H : Hp) : List D → List V → Prop
  | [], vs => vs = []
  | x :: xs, vs => ∃ v r, vs = v :: r ∧ DR K L H x v ∧ DRs K L H xs r
def DRk (K : PySem.W.Frag) (L : Addr → Prop) (H : Hp) : List (D × D) → List (Key × V) → Prop
  | [], vs => vs = []
  | (k, x) :: xs, vs => ∃ q v r, vs = (q, v) :: r ∧ keyD q = k ∧ DR K L H x v ∧ DRk K L H xs r
end

/-- what may follow: older objects that are nobody's stay -/
structure Xt (m : List Addr) (ih : IH) (H : Hp) (m' : List Addr) (ih' : IH) (H' : Hp) : Prop where
  pre : ∃ t, m' = m ++ t ∧ ∀ a ∈ t, H a = none
  keep : ∀ a o, H a = some o → ¬ Live m ih a → H' a = some o ∧ ¬ Live m' ih' a
  there : ∀ a, H' a = none → H a = none
/-- a word about states that all that may follow keeps -/
structure JT where
  hid : List Addr
  p : List Addr → IH → Hp → Prop
  cal : Nat → List W → Addr → Prop
  cl : ∀ m ih H m' ih' H', p m ih H → Xt m ih H m' ih' H' → p m' ih' H'
def JT.tt : JT := ⟨[], fun _ _ _ => True, fun _ _ _ => False, fun _ _ _ _ _ _ _ _ => True.intro⟩

/-- the addresses that no data may name: mutable objects, and what a comprehension is making -/
def Own (J : JT) (m : List Addr) (ih : IH) (a : Addr) : Prop := Live m ih a ∨ a ∈ J.hid

def WR (K : PySem.W.Frag) (J : JT) (m : List Addr) (ih : IH) (H : Hp) : W → V → Prop
  | .d x, v => DR K (Own J m ih) H x v
  | .ref n, v => ∃ a, m[n]? = some a ∧ v = .ref a
  | .scr ns, v => ∃ a, v = .ref a ∧ ((Rd H a (.lst (ns.map V.int)) ∧ ¬ Own J m ih a) ∨ ∀ H2, SqL K H2 a (ns.map V.int))
  | .fn n cs, v => ∃ f, v = .ref f ∧ J.cal n cs f
/-- an item of a mutable object -/
def WO (K : PySem.W.Frag) (J : JT) (m : List Addr) (ih : IH) (H : Hp) (w : W) (v : V) : Prop := w.isFn = false ∧ WR K J m ih H w v

def ObR (K : PySem.W.Frag) (J : JT) (m : List Addr) (ih : IH) (H : Hp) (a : Addr) : Ob → Prop
  | .dead => True
  | .lst ws => ∃ vs, H a = some (.lst vs) ∧ Paired (WO K J m ih H) ws vs
  | .dic kws => ∃ kvs, H a = some (.dK kvs) ∧ Paired (fun (p : Key × W) (q : Key × V) => p.1 = q.1 ∧ WO K J m ih H p.2 q.2) kws kvs
  | .tab q => ∃ ps, H a = some (.tbl ps) ∧ TriplesOk ps.toList ∧ ∀ pos cv, codeAmong pos ps.toList = some cv → ∃ c, cv = .ref c ∧ H c = some (CodeO c q) ∧ ¬ Own J m ih c

structure Sim (K : PySem.W.Frag) (J : JT) (m : List Addr) (ih : IH) (H : Hp) : Prop where
  j : J.p m ih H
  len : m.length = ih.length
  nd : m.Nodup
  th : ∀ a, a ∈ m → H a ≠ none
  hd : ∀ a, a ∈ J.hid → H a ≠ none ∧ ¬ Live m ih a
  ob : ∀ (i : Nat) (a : Addr) (o : Ob), m[i]? = some a → ih[i]? = some o → ObR K J m ih H a o

section
variable {K : PySem.W.Frag} {J : JT} {m m' m2 : List Addr} {ih ih' ih2 : IH} {H H' H2 : Hp}

theorem Xt.refl : Xt m ih H m ih H := ⟨⟨[], (List.append_nil m).symm, fun _ z => absurd z (by simp)⟩, fun _ _ e n => ⟨e, n⟩, fun _ e => e⟩
theorem Xt.trans (x : Xt m ih H m' ih' H') (y : Xt m' ih' H' m2 ih2 H2) : Xt m ih H m2 ih2 H2 := by
  refine ⟨?_, fun a o e n => ?_, fun a e => x.there a (y.there a e)⟩
  · obtain ⟨t, rfl, ft⟩ := x.pre
    obtain ⟨u, rfl, fu⟩ := y.pre
    exact ⟨t ++ u, List.append_assoc m t u, fun a h => (List.mem_append.mp h).elim (ft a) fun z => x.there a (fu a z)⟩
  · obtain ⟨e1, n1⟩ := x.keep a o e n
    exact y.keep a o e1 n1

/-- what a live object is not -/
def Mt (o : HO) : Prop := (∀ xs, o ≠ .tup xs) ∧ ∀ ob u, o ≠ .frz ob u
theorem Sim.live_mut (S : Sim K J m ih H) {a : Addr} (h : Live m ih a) : ∃ o, H a = some o ∧ Mt o := by
  obtain ⟨i, o, e1, e2, e3⟩ := h
  have q := S.ob i a o e1 e2
  cases o with
  | dead => cases e3
  | lst ws => obtain ⟨vs, e, _⟩ := q; exact ⟨_, e, (fun _ z => by cases z), (fun _ _ z => by cases z)⟩
  | dic ws => obtain ⟨vs, e, _⟩ := q; exact ⟨_, e, (fun _ z => by cases z), (fun _ _ z => by cases z)⟩
  | tab q' => obtain ⟨ps, e, _⟩ := q; exact ⟨_, e, (fun _ z => by cases z), (fun _ _ z => by cases z)⟩
theorem Sim.tup_free (S : Sim K J m ih H) {a : Addr} {xs : List V} (h : Rd H a (.tup xs)) : ¬ Live m ih a := fun l => by
  obtain ⟨o, e, mu⟩ := S.live_mut l
  rcases h with h | ⟨ob, h⟩
  · rw [h] at e; cases e; exact mu.1 _ rfl
  · rw [h] at e; cases e; exact mu.2 _ _ rfl
theorem Xt.rd (x : Xt m ih H m' ih' H') {a : Addr} {u : HO} (n : ¬ Live m ih a) (h : Rd H a u) : Rd H' a u := by
  rcases h with h | ⟨ob, h⟩
  · exact .inl (x.keep a _ h n).1
  · exact .inr ⟨ob, (x.keep a _ h n).1⟩
theorem Xt.dead (x : Xt m ih H m' ih' H') {a : Addr} {u : HO} (n : ¬ Live m ih a) (h : Rd H a u) : ¬ Live m' ih' a := by
  rcases h with h | ⟨ob, h⟩
  · exact (x.keep a _ h n).2
  · exact (x.keep a _ h n).2
theorem Xt.own (x : Xt m ih H m' ih' H') {a : Addr} {u : HO} (n : ¬ Own J m ih a) (h : H a = some u) : ¬ Own J m' ih' a := fun z =>
  z.elim (x.keep a u h fun y => n (.inl y)).2 fun y => n (.inr y)
theorem Sim.hd_mono (S : Sim K J m ih H) (x : Xt m ih H m' ih' H') : ∀ a, a ∈ J.hid → H' a ≠ none ∧ ¬ Live m' ih' a := fun a h => by
  obtain ⟨h1, h2⟩ := S.hd a h
  cases e : H a with
  | none => exact absurd e h1
  | some o =>
    obtain ⟨e1, e2⟩ := x.keep a o e h2
    exact ⟨(by rw [e1]; intro z; cases z), e2⟩
theorem Xt.seqT (S : Sim K J m ih H) (x : Xt m ih H m' ih' H') {a : Addr} {xs : List V} (h : SqT K H a xs) : SqT K H' a xs := by
  rcases h with h | h
  · exact .inl (x.rd (S.tup_free h) h)
  · exact .inr h

mutual
theorem DR.mono (S : Sim K J m ih H) (x : Xt m ih H m' ih' H') : ∀ (d : D) (v : V), DR K (Own J m ih) H d v → DR K (Own J m' ih') H' d v
  | .none, v, h => by unfold DR at h ⊢; exact h
  | .bool b, v, h => by unfold DR at h ⊢; exact h
  | .int i, v, h => by unfold DR at h ⊢; exact h
  | .str s, v, h => by unfold DR at h ⊢; exact h
  | .tuple xs, v, h => by
    unfold DR at h ⊢
    obtain ⟨a, vs, e, hs, hr⟩ := h
    exact ⟨a, vs, e, x.seqT S hs, DRs.mono S x xs vs hr⟩
  | .list xs, v, h => by
    unfold DR at h ⊢
    obtain ⟨a, vs, e, hs, hl, hr⟩ := h
    exact ⟨a, vs, e, (x.keep a _ hs fun z => hl (.inl z)).1, x.own hl hs, DRs.mono S x xs vs hr⟩
  | .dict ks, v, h => by
    unfold DR at h ⊢
    obtain ⟨a, vs, e, hs, hl, hr⟩ := h
    exact ⟨a, vs, e, (x.keep a _ hs fun z => hl (.inl z)).1, x.own hl hs, DRk.mono S x ks vs hr⟩
theorem DRs.mono (S : Sim K J m ih H) (x : Xt m ih H m' ih' H') : ∀ (ds : List D) (vs : List V), DRs K (Own J m ih) H ds vs → DRs K (Own J m' ih') H' ds vs
  | [], vs, h => by unfold DRs at h ⊢; exact h
  | d :: ds, vs, h => by
    unfold DRs at h ⊢
    obtain ⟨v, r, e, h1, h2⟩ := h
    exact ⟨v, r, e, DR.mono S x d v h1, DRs.mono S x ds r h2⟩
theorem DRk.mono (S : Sim K J m ih H) (x : Xt m ih H m' ih' H') : ∀ (ds : List (D × D)) (vs : List (Key × V)), DRk K (Own J m ih) H ds vs → DRk K (Own J m' ih') H' ds vs
  | [], vs, h => by unfold DRk at h ⊢; exact h
  | (k, d) :: ds, vs, h => by
    unfold DRk at h ⊢
    obtain ⟨q, v, r, e, e2, h1, h2⟩ := h
    exact ⟨q, v, r, e, e2, DR.mono S x d v h1, DRk.mono S x ds r h2⟩
end

theorem WR.mono (S : Sim K J m ih H) (x : Xt m ih H m' ih' H') : ∀ {w : W} {v : V}, WR K J m ih H w v → WR K J m' ih' H' w v
  | .d d, v, h => DR.mono S x d v h
  | .ref n, v, h => by
    obtain ⟨a, e, r⟩ := h
    obtain ⟨t, rfl, _⟩ := x.pre
    exact ⟨a, by rw [List.getElem?_append_left (List.getElem?_eq_some_iff.mp e).1]; exact e, r⟩
  | .scr ns, v, h => by
    obtain ⟨a, e, q⟩ := h
    rcases q with ⟨q, l⟩ | q
    · exact ⟨a, e, .inl ⟨x.rd (fun z => l (.inl z)) q, fun z => z.elim (x.dead (fun z => l (.inl z)) q) fun y => l (.inr y)⟩⟩
    · exact ⟨a, e, .inr q⟩
  | .fn n cs, v, h => h
theorem WO.mono (S : Sim K J m ih H) (x : Xt m ih H m' ih' H') {w : W} {v : V} (h : WO K J m ih H w v) : WO K J m' ih' H' w v := ⟨h.1, h.2.mono S x⟩
theorem paired_wr : ∀ {ws : List W} {vs : List V}, Paired (WO K J m ih H) ws vs → Paired (WR K J m ih H) ws vs
  | _, _, .nil => .nil
  | _, _, .cons r t => .cons r.2 (paired_wr t)
theorem paired_wo : ∀ {ws : List W} {vs : List V}, (∀ w ∈ ws, w.isFn = false) → Paired (WR K J m ih H) ws vs → Paired (WO K J m ih H) ws vs
  | _, _, _, .nil => .nil
  | _, _, h, .cons r t => .cons ⟨h _ (by simp), r⟩ (paired_wo (fun w z => h w (List.mem_cons_of_mem _ z)) t)

/-- the names: what env tells stands in the frame -/
structure EnvR (K : PySem.W.Frag) (J : JT) (m : List Addr) (ih : IH) (H : Hp) (env : En) (σ : St) : Prop where
  len : env.length = σ.length
  at_ : ∀ (i : Nat) (w : W), env[i]? = some (some w) → ∃ v, σ[i]? = some (some v) ∧ WR K J m ih H w v
theorem EnvR.mono {env : En} {σ : St} (S : Sim K J m ih H) (x : Xt m ih H m' ih' H') (e : EnvR K J m ih H env σ) : EnvR K J m' ih' H' env σ :=
  ⟨e.len, fun i w q => let ⟨v, q1, q2⟩ := e.at_ i w q; ⟨v, q1, q2.mono S x⟩⟩
theorem EnvR.set {env : En} {σ : St} {i : Nat} {w : W} {v : V} (e : EnvR K J m ih H env σ) (r : WR K J m ih H w v) : EnvR K J m ih H (env.set i (some w)) (σ.set i (some v)) := by
  refine ⟨by rw [List.length_set, List.length_set]; exact e.len, fun j u q => ?_⟩
  by_cases hj : i = j
  · subst hj
    have hlt : i < env.length := by
      have := (List.getElem?_eq_some_iff.mp q).1
      rwa [List.length_set] at this
    rw [List.getElem?_set_self hlt] at q
    cases q
    exact ⟨v, List.getElem?_set_self (by rw [← e.len]; exact hlt), r⟩
  · rw [List.getElem?_set_ne hj] at q
    obtain ⟨v', q1, q2⟩ := e.at_ j u q
    exact ⟨v', by rw [List.getElem?_set_ne hj]; exact q1, q2⟩

theorem DRs.len {L : Addr → Prop} : ∀ {ds : List D} {vs : List V}, DRs K L H ds vs → vs.length = ds.length
  | [], vs, h => by unfold DRs at h; subst h; rfl
  | d :: ds, vs, h => by
    unfold DRs at h
    obtain ⟨v, r, rfl, _, h2⟩ := h
    rw [List.length_cons, List.length_cons, DRs.len h2]
theorem DRs.get {L : Addr → Prop} : ∀ {ds : List D} {vs : List V} {i : Nat} {d : D}, DRs K L H ds vs → ds[i]? = some d → ∃ v, vs[i]? = some v ∧ DR K L H d v
  | [], vs, i, d, h, e => by simp at e
  | d' :: ds, vs, 0, d, h, e => by
    unfold DRs at h
    obtain ⟨v, r, rfl, h1, _⟩ := h
    simp at e
    subst e
    exact ⟨v, rfl, h1⟩
  | d' :: ds, vs, i + 1, d, h, e => by
    unfold DRs at h
    obtain ⟨v, r, rfl, _, h2⟩ := h
    obtain ⟨u, e1, h3⟩ := DRs.get (i := i) h2 (by simpa using e)
    exact ⟨u, by simpa using e1, h3⟩
theorem DRs.app {L : Addr → Prop} : ∀ {ds es : List D} {vs us : List V}, DRs K L H ds vs → DRs K L H es us → DRs K L H (ds ++ es) (vs ++ us)
  | [], es, vs, us, h, g => by
    unfold DRs at h
    subst h
    exact g
  | d :: ds, es, vs, us, h, g => by
    unfold DRs at h
    obtain ⟨v, r, rfl, h1, h2⟩ := h
    have ih := DRs.app h2 g
    rw [List.cons_append]
    unfold DRs
    exact ⟨v, r ++ us, rfl, h1, ih⟩
theorem DRs.drop {L : Addr → Prop} : ∀ {ds : List D} {vs : List V} (n : Nat), DRs K L H ds vs → DRs K L H (ds.drop n) (vs.drop n)
  | ds, vs, 0, h => h
  | [], vs, n + 1, h => by
    unfold DRs at h
    subst h
    simp only [List.drop_nil]
    unfold DRs
    rfl
  | d :: ds, vs, n + 1, h => by
    unfold DRs at h
    obtain ⟨v, r, rfl, h1, h2⟩ := h
    exact DRs.drop n h2
theorem DRs.take {L : Addr → Prop} : ∀ {ds : List D} {vs : List V} (n : Nat), DRs K L H ds vs → DRs K L H (ds.take n) (vs.take n)
  | ds, vs, 0, h => by
    simp only [List.take_zero]
    unfold DRs
    rfl
  | [], vs, n + 1, h => by
    unfold DRs at h
    subst h
    simp only [List.take_nil]
    unfold DRs
    rfl
  | d :: ds, vs, n + 1, h => by
    unfold DRs at h
    obtain ⟨v, r, rfl, h1, h2⟩ := h
    simp only [List.take_succ_cons]
    unfold DRs
    exact ⟨v, r.take n, rfl, h1, DRs.take n h2⟩
theorem DRs.nil {L : Addr → Prop} : DRs K L H [] [] := by unfold DRs; rfl
theorem DRs.cons {L : Addr → Prop} {d : D} {ds : List D} {v : V} {vs : List V} (h : DR K L H d v) (r : DRs K L H ds vs) : DRs K L H (d :: ds) (v :: vs) := by
  unfold DRs
  exact ⟨v, vs, rfl, h, r⟩
theorem DR.non {L : Addr → Prop} : DR K L H .none .non := by unfold DR; rfl
theorem DR.bl {L : Addr → Prop} {b : Bool} : DR K L H (.bool b) (.bl b) := by unfold DR; rfl
theorem DR.int {L : Addr → Prop} {i : Int} : DR K L H (.int i) (.int i) := by unfold DR; rfl
theorem DR.str {L : Addr → Prop} {s : Str} : DR K L H (.str s) (.str s) := by unfold DR; rfl
theorem DR.non' {L : Addr → Prop} {v : V} (h : DR K L H .none v) : v = .non := by unfold DR at h; exact h
theorem DR.bl' {L : Addr → Prop} {b : Bool} {v : V} (h : DR K L H (.bool b) v) : v = .bl b := by unfold DR at h; exact h
theorem DR.int' {L : Addr → Prop} {i : Int} {v : V} (h : DR K L H (.int i) v) : v = .int i := by unfold DR at h; exact h
theorem DR.str' {L : Addr → Prop} {s : Str} {v : V} (h : DR K L H (.str s) v) : v = .str s := by unfold DR at h; exact h
theorem DR.tup' {L : Addr → Prop} {xs : List D} {v : V} (h : DR K L H (.tuple xs) v) : ∃ a vs, v = .ref a ∧ SqT K H a vs ∧ DRs K L H xs vs := by unfold DR at h; exact h
theorem DR.lst' {L : Addr → Prop} {xs : List D} {v : V} (h : DR K L H (.list xs) v) : ∃ a vs, v = .ref a ∧ H a = some (.lst vs) ∧ ¬ L a ∧ DRs K L H xs vs := by unfold DR at h; exact h
theorem DR.dic' {L : Addr → Prop} {ks : List (D × D)} {v : V} (h : DR K L H (.dict ks) v) : ∃ a kvs, v = .ref a ∧ H a = some (.dK kvs) ∧ ¬ L a ∧ DRk K L H ks kvs := by unfold DR at h; exact h
theorem DR.tup {L : Addr → Prop} {xs : List D} {a : Addr} {vs : List V} (h : SqT K H a vs) (r : DRs K L H xs vs) : DR K L H (.tuple xs) (.ref a) := by
  unfold DR
  exact ⟨a, vs, rfl, h, r⟩
theorem DR.lst {L : Addr → Prop} {xs : List D} {a : Addr} {vs : List V} (h : H a = some (.lst vs)) (n : ¬ L a) (r : DRs K L H xs vs) : DR K L H (.list xs) (.ref a) := by
  unfold DR
  exact ⟨a, vs, rfl, h, n, r⟩
theorem DR.dic {L : Addr → Prop} {ks : List (D × D)} {a : Addr} {kvs : List (Key × V)} (h : H a = some (.dK kvs)) (n : ¬ L a) (r : DRk K L H ks kvs) : DR K L H (.dict ks) (.ref a) := by
  unfold DR
  exact ⟨a, kvs, rfl, h, n, r⟩

/-! ### a new object that is nobody's -/
theorem Live.lt (S : Sim K J m ih H) {a : Addr} (h : Live m ih a) : H a ≠ none := by
  obtain ⟨o, e, _⟩ := S.live_mut h
  rw [e]
  intro z
  cases z
theorem Paired.mapR {α β : Type} {F G : α → β → Prop} : ∀ {l1 : List α} {l2 : List β}, Paired F l1 l2 → (∀ a b, F a b → G a b) → Paired G l1 l2
  | _, _, .nil, _ => .nil
  | _, _, .cons r t, f => .cons (f _ _ r) (Paired.mapR t f)
/-- the objects hold in a later heap, if theirs stand -/
theorem ObR.mono (S : Sim K J m ih H) (x : Xt m ih H m' ih' H') {a : Addr} {o : Ob} (h : ObR K J m ih H a o) (he : H' a = H a) : ObR K J m' ih' H' a o := by
  cases o with
  | dead => exact True.intro
  | lst ws =>
    obtain ⟨vs, e, r⟩ := h
    exact ⟨vs, he.trans e, Paired.mapR r fun _ _ q => ⟨q.1, q.2.mono S x⟩⟩
  | dic ws =>
    obtain ⟨vs, e, r⟩ := h
    exact ⟨vs, he.trans e, Paired.mapR r fun _ _ q => ⟨q.1, q.2.mono S x⟩⟩
  | tab q =>
    obtain ⟨ps, e, ht, hc⟩ := h
    refine ⟨ps, he.trans e, ht, fun pos cv z => ?_⟩
    obtain ⟨c, e1, e2, n⟩ := hc pos cv z
    exact ⟨c, e1, (x.keep c _ e2 fun l => n (.inl l)).1, x.own n e2⟩
theorem Xt.new {p : Addr} {o : HO} (S : Sim K J m ih H) (hp : H p = none) : Xt m ih H m ih (upd H p o) :=
  ⟨⟨[], (List.append_nil m).symm, fun _ z => absurd z (by simp)⟩, fun a u e n => ⟨by rw [upd_ne (ne_of_none e hp)]; exact e, n⟩, fun a e => by
    by_cases h : a = p
    · rw [h]; exact hp
    · rwa [upd_ne h] at e⟩
theorem Sim.new {p : Addr} {o : HO} (S : Sim K J m ih H) (hp : H p = none) : Sim K J m ih (upd H p o) :=
  ⟨J.cl _ _ _ _ _ _ S.j (Xt.new S hp), S.len, S.nd, fun a h z => S.th a h ((Xt.new S hp).there a z), S.hd_mono (Xt.new S hp), fun i a u e1 e2 => by
    have q := S.ob i a u e1 e2
    cases hl : u.isLive with
    | true =>
      have l : Live m ih a := ⟨i, u, e1, e2, hl⟩
      exact q.mono S (Xt.new S hp) (upd_ne fun z => Live.lt S l (by rw [z]; exact hp))
    | false =>
      cases u with
      | dead => exact True.intro
      | lst _ => cases hl
      | dic _ => cases hl
      | tab _ => cases hl⟩
theorem Sim.new_free {p : Addr} (S : Sim K J m ih H) (hp : H p = none) : ¬ Own J m ih p := fun l => l.elim (fun z => Live.lt S z hp) fun z => (S.hd p z).1 hp
end
end Pz

end
section
set_option Elab.async false
set_option linter.all false
set_option maxRecDepth 100000
set_option autoImplicit false
/-! Fw2: expressions. Each Python expression has its reading over data (AE); EV says that it is one. -/
namespace Pz
open PySem PySem.Spec L2 LamX

abbrev QW := W → IH → Prop
abbrev AE := En → IH → QW → Prop
abbrev AT := En → IH → (Bool → IH → Prop) → Prop
abbrev AA := En → IH → (List W → IH → Prop) → Prop

section
variable (K : PySem.W.Frag) (J : JT) (m : List Addr) (ih : IH) (H : Hp)
/-- what is wanted over data brings what is wanted over the heap, in all that may follow -/
def Fu (Qa : QW) (Q : VK) : Prop := ∀ m1 ih1 H1 w v, Sim K J m1 ih1 H1 → Xt m ih H m1 ih1 H1 → WR K J m1 ih1 H1 w v → Qa w ih1 → Q v H1
def FuB (Qa : Bool → IH → Prop) (Q : Bool → Hp → Prop) : Prop := ∀ m1 ih1 H1 b, Sim K J m1 ih1 H1 → Xt m ih H m1 ih1 H1 → Qa b ih1 → Q b H1
def FuA (Qa : List W → IH → Prop) (Q : List V → Hp → Prop) : Prop := ∀ m1 ih1 H1 ws vs, Sim K J m1 ih1 H1 → Xt m ih H m1 ih1 H1 → Paired (WR K J m1 ih1 H1) ws vs → Qa ws ih1 → Q vs H1
end
/-- the promises of the functions that are handed about, the depths that they ask for, the tables of the code objects whose lambdas are made -/
structure Sig where
  ct : Nat → List W → List W → IH → QW → Prop
  lv : Nat → Nat
  Tb : List Addr
/-- J' says no less than J, and means the same functions -/
def JLe (J J' : JT) : Prop := (∀ m ih H, J'.p m ih H → J.p m ih H) ∧ (∀ n cs f, J'.cal n cs f ↔ J.cal n cs f) ∧ (∀ a ∈ J.hid, a ∈ J'.hid) ∧
  ∀ m0 ih0 H0, (∀ m ih H, J.p m ih H → Xt m0 ih0 H0 m ih H) → ∀ a ∈ J'.hid, a ∈ J.hid ∨ H0 a = none
theorem JLe.refl {J : JT} : JLe J J := ⟨fun _ _ _ h => h, fun _ _ _ => Iff.rfl, fun _ h => h, fun _ _ _ _ _ h => .inl h⟩
theorem JLe.trans {J J1 J2 : JT} (a : JLe J J1) (b : JLe J1 J2) : JLe J J2 := ⟨fun m ih H h => a.1 m ih H (b.1 m ih H h), fun n cs f => (b.2.1 n cs f).trans (a.2.1 n cs f), fun x h => b.2.2.1 x (a.2.2.1 x h), fun m0 ih0 H0 lo x h =>
  (b.2.2.2 m0 ih0 H0 (fun m ih H q => lo m ih H (a.1 m ih H q)) x h).elim (fun z => a.2.2.2 m0 ih0 H0 lo x z) .inr⟩
/-- the function at f, called in any state that J knows, does as the n-th promise says -/
structure CalOk (P : Program) (w : World) (K : PySem.W.Frag) (mg : Str → Option Value) (base : Heap) (S : Sig) (J : JT) (n : Nat) (cs : List W) (f : Addr) : Prop where
  at_ : ∀ (A : Around) (outer : List PySem.Env) (s : Shared) (H : Hp) (m : List Addr) (ih : IH), Env0 P w K mg base A outer s H → Sim K J m ih H → PySem.W.FnAt f s.heap
  run : ∀ (A : Around) (outer : List PySem.Env) (s : Shared) (H : Hp) (us : List Value) (vs : List V) (Q : VK) (m : List Addr) (ih : IH) (ws : List W) (Qa : QW), A.guards = some [] → Room (S.lv n) A → Env0 P w K mg base A outer s H → Vals vs us →
    Sim K J m ih H → Paired (WR K J m ih H) ws vs → S.ct n cs ws ih Qa → Fu K J m ih H Qa Q → codeAny (model P w) A (.call (.ref f) ⟨us, []⟩) (CR CX0 outer P w H s Q E0) s
/-- what a def may lean on -/
structure JOk (P : Program) (w : World) (K : PySem.W.Frag) (mg : Str → Option Value) (base : Heap) (S : Sig) (J : JT) : Prop where
  cal : ∀ J', JLe J J' → ∀ n cs f, J.cal n cs f → CalOk P w K mg base S J' n cs f
  tb : ∀ m ih H, J.p m ih H → ∃ t, m = S.Tb ++ t
theorem JOk.le {P : Program} {w : World} {K : PySem.W.Frag} {mg : Str → Option Value} {base : Heap} {S : Sig} {J J' : JT} (o : JOk P w K mg base S J) (h : JLe J J') : JOk P w K mg base S J' :=
  ⟨fun J2 h2 n cs f c => o.cal J2 (h.trans h2) n cs f ((h.2.1 n cs f).mp c), fun m ih H q => o.tb m ih H (h.1 m ih H q)⟩
/-- some contexts that share their names, scope, module and room: a def's body, or the blocks of its comprehensions -/
structure Fam where
  ok : Cx → Prop
  N : List Str
  sc : Scope
  P : Program
  w : World
  K : PySem.W.Frag
  mg : Str → Option Value
  base : Heap
  k : Nat
  S : Sig
  nd : N.Nodup
  hN : ∀ X, ok X → X.N = N
  hsc : ∀ X, ok X → X.env.scope = sc
  hP : ∀ X, ok X → X.prog = P
  hw : ∀ X, ok X → X.w = w
  hK : ∀ X, ok X → X.K = K
  hmg : ∀ X, ok X → X.mg = mg
  hbase : ∀ X, ok X → X.base = base
  calm : ∀ X, ok X → X.calm = true
  room : ∀ X, ok X → Room k X.A
  grd : ∀ X, ok X → X.A.guards = some []
  jk : JT → Prop
  jkc : ∀ J J', jk J → JLe J J' → jk J'
  jok : ∀ J, jk J → JOk P w K mg base S J
  po : ∀ X, ok X → PassesOwn (model X.prog X.w) X.A X.env X.xe
def RE (F : Fam) (t : TE) (ta : AE) : Prop := ∀ J, F.jk J → ∀ m ih H env σ Qa Q, Sim F.K J m ih H → EnvR F.K J m ih H env σ → ta env ih Qa → Fu F.K J m ih H Qa Q → t σ H Q
def RT (F : Fam) (t : TT) (ta : AT) : Prop := ∀ J, F.jk J → ∀ m ih H env σ Qa Q, Sim F.K J m ih H → EnvR F.K J m ih H env σ → ta env ih Qa → FuB F.K J m ih H Qa Q → t σ H Q
def RA (F : Fam) (t : TA) (ta : AA) : Prop := ∀ J, F.jk J → ∀ m ih H env σ Qa Q, Sim F.K J m ih H → EnvR F.K J m ih H env σ → ta env ih Qa → FuA F.K J m ih H Qa Q → t σ H Q
def Glb (F : Fam) (x : Str) : Prop := F.sc.names.lookup x = some .globalImplicit
theorem Fam.gl {F : Fam} {x : Str} {X : Cx} (hX : F.ok X) (h : Glb F x) : Gl X x := by
  show X.env.scope.names.lookup x = _
  rw [F.hsc X hX]
  exact h
theorem Fam.hu {F : Fam} {X : Cx} (hX : F.ok X) : X.A.units + 200 < cLine := by
  have := (F.room X hX).un
  omega
def EV (F : Fam) (e : Expr) (ta : AE) : Prop := ∃ t, (∀ X, F.ok X → PE X e t) ∧ RE F t ta
def TV (F : Fam) (e : Expr) (ta : AT) : Prop := ∃ t, (∀ X, F.ok X → PT X e t) ∧ RT F t ta
def WV (F : Fam) (e : Expr) (ta : AT) : Prop := ∃ t, (∀ X, F.ok X → PW X e t) ∧ RT F t ta
def AV (F : Fam) (es : List Expr) (ta : AA) : Prop := ∃ t, (∀ X, F.ok X → PA X es t) ∧ RA F t ta

section
variable {K : PySem.W.Frag} {J : JT} {m m1 : List Addr} {ih ih1 : IH} {H H1 : Hp}
theorem Fu.step {Qa : QW} {Q : VK} (x : Xt m ih H m1 ih1 H1) (f : Fu K J m ih H Qa Q) : Fu K J m1 ih1 H1 Qa Q := fun _ _ _ _ _ S y r q => f _ _ _ _ _ S (x.trans y) r q
theorem FuB.step {Qa : Bool → IH → Prop} {Q : Bool → Hp → Prop} (x : Xt m ih H m1 ih1 H1) (f : FuB K J m ih H Qa Q) : FuB K J m1 ih1 H1 Qa Q := fun _ _ _ _ S y q => f _ _ _ _ S (x.trans y) q
theorem FuA.step {Qa : List W → IH → Prop} {Q : List V → Hp → Prop} (x : Xt m ih H m1 ih1 H1) (f : FuA K J m ih H Qa Q) : FuA K J m1 ih1 H1 Qa Q := fun _ _ _ _ _ S y r q => f _ _ _ _ _ S (x.trans y) r q
theorem Fu.now {Qa : QW} {Q : VK} {w : W} {v : V} (f : Fu K J m ih H Qa Q) (S : Sim K J m ih H) (r : WR K J m ih H w v) (q : Qa w ih) : Q v H := f m ih H w v S Xt.refl r q
theorem FuB.now {Qa : Bool → IH → Prop} {Q : Bool → Hp → Prop} {b : Bool} (f : FuB K J m ih H Qa Q) (S : Sim K J m ih H) (q : Qa b ih) : Q b H := f m ih H b S Xt.refl q
/-- a new object that nobody changes -/
theorem Fu.new {Qa : QW} {Q : VK} {w : W} {v : V} {p : Addr} {o : HO} (f : Fu K J m ih H Qa Q) (S : Sim K J m ih H) (hp : H p = none) (r : WR K J m ih (upd H p o) w v) (q : Qa w ih) : Q v (upd H p o) :=
  f m ih (upd H p o) w v (S.new hp) (Xt.new S hp) r q
end

section
variable {K : PySem.W.Frag} {J : JT} {m : List Addr} {ih : IH} {H : Hp} {v : V}
theorem WR.non' (h : WR K J m ih H (.d .none) v) : v = .non := DR.non' (L := Own J m ih) (K := K) (H := H) h
theorem WR.bl' {b : Bool} (h : WR K J m ih H (.d (.bool b)) v) : v = .bl b := DR.bl' (L := Own J m ih) (K := K) (H := H) h
theorem WR.int' {i : Int} (h : WR K J m ih H (.d (.int i)) v) : v = .int i := DR.int' (L := Own J m ih) (K := K) (H := H) h
theorem WR.str' {x : Str} (h : WR K J m ih H (.d (.str x)) v) : v = .str x := DR.str' (L := Own J m ih) (K := K) (H := H) h
theorem WR.tup' {xs : List D} (h : WR K J m ih H (.d (.tuple xs)) v) : ∃ a vs, v = .ref a ∧ SqT K H a vs ∧ DRs K (Own J m ih) H xs vs := DR.tup' (L := Own J m ih) h
theorem WR.lst' {xs : List D} (h : WR K J m ih H (.d (.list xs)) v) : ∃ a vs, v = .ref a ∧ H a = some (.lst vs) ∧ ¬ Own J m ih a ∧ DRs K (Own J m ih) H xs vs := DR.lst' (L := Own J m ih) h
theorem WR.non : WR K J m ih H (.d .none) .non := DR.non (L := Own J m ih) (K := K) (H := H)
theorem WR.bl {b : Bool} : WR K J m ih H (.d (.bool b)) (.bl b) := DR.bl (L := Own J m ih) (K := K) (H := H)
theorem WR.int {i : Int} : WR K J m ih H (.d (.int i)) (.int i) := DR.int (L := Own J m ih) (K := K) (H := H)
theorem WR.str {x : Str} : WR K J m ih H (.d (.str x)) (.str x) := DR.str (L := Own J m ih) (K := K) (H := H)
end

section
variable {K : PySem.W.Frag} {J : JT} {m : List Addr} {ih : IH} {H : Hp} {Qa : QW} {Q : VK} {p : Addr} {ds : List D} {vs : List V}
theorem Fu.tup (f : Fu K J m ih H Qa Q) (S : Sim K J m ih H) (hp : H p = none) (d : DRs K (Own J m ih) H ds vs) (q : Qa (.d (.tuple ds)) ih) : Q (.ref p) (upd H p (.tup vs)) :=
  f.new S hp (w := .d (.tuple ds)) (show DR K (Own J m ih) (upd H p (.tup vs)) (.tuple ds) (.ref p) from DR.tup (SqT.of upd_same) (DRs.mono S (Xt.new S hp) ds vs d)) q
theorem Fu.lst (f : Fu K J m ih H Qa Q) (S : Sim K J m ih H) (hp : H p = none) (d : DRs K (Own J m ih) H ds vs) (q : Qa (.d (.list ds)) ih) : Q (.ref p) (upd H p (.lst vs)) :=
  f.new S hp (w := .d (.list ds)) (show DR K (Own J m ih) (upd H p (.lst vs)) (.list ds) (.ref p) from DR.lst upd_same (S.new_free hp) (DRs.mono S (Xt.new S hp) ds vs d)) q
end

/-! ### names, constants -/
def optW {α : Type} : Option α → (α → Prop) → Prop
  | some a, k => k a
  | none, _ => False
def aVar (i : Nat) : AE := fun env ih Q => optW (env[i]?.join) fun w => Q w ih
def aC (x : D) : AE := fun _ ih Q => Q (.d x) ih
section
variable {F : Fam} {pos : Pos} {e a b c : Expr} {es : List Expr}
theorem join_some {env : En} {i : Nat} {w : W} (h : env[i]?.join = some w) : env[i]? = some (some w) := by
  cases q : env[i]? with
  | none => rw [q] at h; cases h
  | some o =>
    rw [q] at h
    cases o with
    | none => cases h
    | some u => cases h; rfl
theorem re_var  (i : Nat) : RE F (tVar i) (aVar i) := fun J jk m ih H env σ Qa Q S E h f => by
  unfold aVar at h
  cases q : env[i]?.join with
  | none => rw [q] at h; exact h.elim
  | some w =>
    rw [q] at h
    obtain ⟨v, e1, r⟩ := E.at_ i w (join_some q)
    exact ⟨v, e1, f.now S r h⟩
theorem ev_var (i : Nat) {x : Str} (hN : F.N[i]? = some x := by rfl) (hv : Vis F.sc x := by first | exact Or.inl rfl | exact Or.inr (Or.inl rfl) | exact Or.inr (Or.inr rfl)) (hd : (x == ("__debug__" : Str)) = false := by decide)
    (hcd : (x == ("__classdict__" : Str)) = false := by decide) : EV F (.Name x pos) (aVar i) := ⟨_, fun X hX => pe_var (by rw [F.hN X hX]; exact hN) (by rw [F.hsc X hX]; exact hv) hd hcd, re_var i⟩
theorem re_c  {x : D} {v : V} (h : ∀ L H, DR F.K L H x v) : RE F (tC v) (aC x) := fun J jk m ih H env σ Qa Q S E hq f => f.now (w := .d x) S (h _ _) hq
theorem ev_int {i : Int} {j} : EV F (.Constant (.int i) j pos) (aC (.int i)) := ⟨_, fun _ _ => pe_int, re_c fun _ _ => DR.int⟩
theorem ev_bl {i : Bool} {j} : EV F (.Constant (.bool i) j pos) (aC (.bool i)) := ⟨_, fun _ _ => pe_bl, re_c fun _ _ => DR.bl⟩
theorem ev_non {j} : EV F (.Constant .none j pos) (aC .none) := ⟨_, fun _ _ => pe_non, re_c fun _ _ => DR.non⟩
theorem ev_str {x : Str} {j} : EV F (.Constant (.str x) j pos) (aC (.str x)) := ⟨_, fun _ _ => pe_str, re_c fun _ _ => DR.str⟩
/-- a constant of the module -/
theorem ev_glob {x : Str} {v : V} {u : Value} {dt : D} (hg : Glb F x) (hm : F.mg x = some u) (r : RelV v u) (hd : ∀ L H, DR F.K L H dt v) (hdb : (x == ("__debug__" : Str)) = false := by decide) : EV F (.Name x pos) (aC dt) :=
  ⟨_, fun X hX => pe_glob (Fam.gl hX hg) (by rw [F.hmg X hX]; exact hm) r hdb, re_c hd⟩

/-! ### lists of expressions; tuples and lists displayed -/
def aNil : AA := fun _ ih Q => Q [] ih
def aCons (ta : AE) (tr : AA) : AA := fun env ih Q => ta env ih fun x ih1 => tr env ih1 fun xs ih2 => Q (x :: xs) ih2
theorem av_nil : AV F [] aNil := ⟨_, fun _ _ => pa_nil, fun J jk m ih H env σ Qa Q S E h f => f m ih H [] [] S Xt.refl .nil h⟩
theorem ra_cons  {t : TE} {u : TA} {ta : AE} {tr : AA} (h1 : RE F t ta) (h2 : RA F u tr) : RA F (tCons t u) (aCons ta tr) := fun J jk m ih H env σ Qa Q S E h f => by
  refine h1 J jk m ih H env σ _ _ S E h fun m1 ih1 H1 w v S1 x1 r1 q1 => ?_
  refine h2 J jk m1 ih1 H1 env σ _ _ S1 (E.mono S x1) q1 fun m2 ih2 H2 ws vs S2 x2 r2 q2 => ?_
  exact f m2 ih2 H2 _ _ S2 (x1.trans x2) (.cons (r1.mono S1 x2) r2) q2
theorem av_cons {ta : AE} {tr : AA} (h1 : EV F e ta) (h2 : AV F es tr) (hs : ∀ env, starEach (e :: es) env = (false, eval e env) :: starEach es env := by intro _; rfl) : AV F (e :: es) (aCons ta tr) := by
  obtain ⟨t, p, r⟩ := h1
  obtain ⟨u, p2, r2⟩ := h2
  exact ⟨_, fun X hX => pa_cons (p X hX) (p2 X hX) (hs _), ra_cons r r2⟩

/-- all of some values are data -/
def allD : List W → Option (List D)
  | [] => some []
  | .d x :: r => (allD r).map (x :: ·)
  | _ :: _ => none
theorem allD_eq : ∀ {ws : List W} {ds : List D}, allD ws = some ds → ws = ds.map W.d
  | [], ds, h => by
    unfold allD at h
    cases h
    rfl
  | .d x :: r, ds, h => by
    unfold allD at h
    cases q : allD r with
    | none => rw [q] at h; cases h
    | some es =>
      rw [q] at h
      cases h
      rw [allD_eq q, List.map_cons]
  | .ref n :: r, ds, h => by unfold allD at h; cases h
  | .scr n :: r, ds, h => by unfold allD at h; cases h
  | .fn n cs :: r, ds, h => by unfold allD at h; cases h
theorem allD_map : ∀ ds : List D, allD (ds.map W.d) = some ds
  | [] => rfl
  | x :: r => by
    show (allD (r.map W.d)).map (x :: ·) = some (x :: r)
    rw [allD_map r] <;> rfl
theorem drs_of {K : PySem.W.Frag} {J : JT} {m : List Addr} {ih : IH} {H : Hp} : ∀ {ds : List D} {vs : List V}, Paired (WR K J m ih H) (ds.map W.d) vs → DRs K (Own J m ih) H ds vs
  | [], vs, h => by
    cases h
    exact DRs.nil
  | x :: r, vs, h => by
    cases h with
    | cons h1 h2 => exact DRs.cons h1 (drs_of h2)
theorem of_drs {K : PySem.W.Frag} {J : JT} {m : List Addr} {ih : IH} {H : Hp} : ∀ {ds : List D} {vs : List V}, DRs K (Own J m ih) H ds vs → Paired (WR K J m ih H) (ds.map W.d) vs
  | [], vs, h => by
    unfold DRs at h
    subst h
    exact .nil
  | x :: r, vs, h => by
    unfold DRs at h
    obtain ⟨v, s, rfl, h1, h2⟩ := h
    exact .cons h1 (of_drs h2)

def aTup (ta : AA) : AE := fun env ih Q => ta env ih fun ws ih1 => optW (allD ws) fun ds => ds.length ≤ sizeLine ∧ Q (.d (.tuple ds)) ih1
def aLst (ta : AA) : AE := fun env ih Q => ta env ih fun ws ih1 => optW (allD ws) fun ds => ds.length ≤ sizeLine ∧ Q (.d (.list ds)) ih1
theorem optW_some {α : Type} {o : Option α} {k : α → Prop} (h : optW o k) : ∃ a, o = some a ∧ k a := by
  cases o with
  | none => exact h.elim
  | some a => exact ⟨a, rfl, h⟩
theorem ev_tup {ta : AA} {x1} (h : AV F es ta) : EV F (.Tuple es x1 pos) (aTup ta) := by
  obtain ⟨t, p, r⟩ := h
  refine ⟨_, fun X hX => pe_tup (p X hX), fun J jk m ih H env σ Qa Q S E hq f => ?_⟩
  refine r J jk m ih H env σ _ _ S E hq fun m1 ih1 H1 ws vs S1 y1 rr q1 => ?_
  obtain ⟨ds, e1, hz, q⟩ := optW_some q1
  have e2 := allD_eq e1
  subst e2
  have hd := drs_of rr
  refine ⟨by rw [hd.len]; exact hz, fun p hp => ?_⟩
  refine (f.step y1).new S1 hp (w := .d (.tuple ds)) (DR.tup (SqT.of upd_same) ?_) q
  exact DRs.mono S1 (Xt.new S1 hp) ds vs hd
theorem ev_lst {ta : AA} (h : AV F es ta) : EV F (.List es pos) (aLst ta) := by
  obtain ⟨t, p, r⟩ := h
  refine ⟨_, fun X hX => pe_lst (p X hX), fun J jk m ih H env σ Qa Q S E hq f => ?_⟩
  refine r J jk m ih H env σ _ _ S E hq fun m1 ih1 H1 ws vs S1 y1 rr q1 => ?_
  obtain ⟨ds, e1, hz, q⟩ := optW_some q1
  have e2 := allD_eq e1
  subst e2
  have hd := drs_of rr
  refine ⟨by rw [hd.len]; exact hz, fun p hp => ?_⟩
  refine (f.step y1).new S1 hp (w := .d (.list ds)) (DR.lst upd_same (S1.new_free hp) ?_) q
  exact DRs.mono S1 (Xt.new S1 hp) ds vs hd

/-- a new mutable object comes -/
theorem Sim.notIn {K : PySem.W.Frag} {J : JT} {m : List Addr} {ih : IH} {H : Hp} {p : Addr} (S : Sim K J m ih H) (hp : H p = none) : p ∉ m := fun h => S.th p h hp
theorem live_add {m : List Addr} {ih : IH} {p a : Addr} {u : Ob} (hl : m.length = ih.length) (h : Live (m ++ [p]) (ih ++ [u]) a) : Live m ih a ∨ a = p := by
  obtain ⟨i, o, e1, e2, e3⟩ := h
  by_cases hi : i < m.length
  · rw [List.getElem?_append_left hi] at e1
    rw [List.getElem?_append_left (by omega)] at e2
    exact .inl ⟨i, o, e1, e2, e3⟩
  · rw [List.getElem?_append_right (by omega)] at e1
    have h0 : i - m.length = 0 := by
      have := (List.getElem?_eq_some_iff.mp e1).1
      simp at this
      omega
    rw [h0] at e1
    exact .inr (Option.some.inj e1).symm
theorem Xt.add {K : PySem.W.Frag} {J : JT} {m : List Addr} {ih : IH} {H : Hp} {p : Addr} {o : HO} {u : Ob} (S : Sim K J m ih H) (hp : H p = none) : Xt m ih H (m ++ [p]) (ih ++ [u]) (upd H p o) :=
  ⟨⟨[p], rfl, fun a h => by rw [List.mem_singleton.mp h]; exact hp⟩, fun a v e n => ⟨by rw [upd_ne (ne_of_none e hp)]; exact e, fun l => (live_add S.len l).elim n (ne_of_none e hp)⟩, (Xt.new (o := o) S hp).there⟩
theorem Sim.add {K : PySem.W.Frag} {J : JT} {m : List Addr} {ih : IH} {H : Hp} {p : Addr} {o : HO} {u : Ob} (S : Sim K J m ih H) (hp : H p = none)
    (hu : ObR K J (m ++ [p]) (ih ++ [u]) (upd H p o) p u) : Sim K J (m ++ [p]) (ih ++ [u]) (upd H p o) := by
  have x : Xt m ih H (m ++ [p]) (ih ++ [u]) (upd H p o) := Xt.add S hp
  refine ⟨J.cl _ _ _ _ _ _ S.j x, by rw [List.length_append, List.length_append, S.len]; rfl, ?_, fun a h z => ?_, S.hd_mono x, fun i a v e1 e2 => ?_⟩
  · refine List.nodup_append.mpr ⟨S.nd, by simp, fun a ha b hb => ?_⟩
    have e : b = p := by simpa using hb
    subst e
    intro z
    subst z
    exact S.notIn hp ha
  · rcases List.mem_append.mp h with h | h
    · exact S.th a h (x.there a z)
    · have e : a = p := by simpa using h
      subst e
      rw [upd_same] at z
      cases z
  · by_cases hi : i < m.length
    · rw [List.getElem?_append_left hi] at e1
      rw [List.getElem?_append_left (by rw [← S.len]; exact hi)] at e2
      exact (S.ob i a v e1 e2).mono S x (upd_ne fun z => S.th a (List.mem_of_getElem? e1) (by rw [z]; exact hp))
    · rw [List.getElem?_append_right (by omega)] at e1
      rw [List.getElem?_append_right (by rw [← S.len]; omega)] at e2
      have h0 : i - m.length = 0 := by
        have := (List.getElem?_eq_some_iff.mp e1).1
        simp at this
        omega
      rw [h0] at e1
      rw [← S.len, h0] at e2
      have e3 : p = a := Option.some.inj e1
      have e4 : u = v := Option.some.inj e2
      subst e3 e4
      exact hu
theorem paired_mono {K : PySem.W.Frag} {J : JT} {m m1 : List Addr} {ih ih1 : IH} {H H1 : Hp} {ws : List W} {vs : List V} (S : Sim K J m ih H) (x : Xt m ih H m1 ih1 H1) (h : Paired (WR K J m ih H) ws vs) : Paired (WR K J m1 ih1 H1) ws vs :=
  Paired.mapR h fun _ _ q => q.mono S x
theorem ref_last {K : PySem.W.Frag} {J : JT} {m : List Addr} {ih ih1 : IH} {H H1 : Hp} {p : Addr} (S : Sim K J m ih H) : WR K J (m ++ [p]) ih1 H1 (.ref ih.length) (.ref p) :=
  ⟨p, by rw [← S.len, List.getElem?_append_right (Nat.le_refl _), Nat.sub_self]; rfl, rfl⟩
/-- a list display that will be changed -/
def aLstM (ta : AA) : AE := fun env ih Q => ta env ih fun ws ih1 => (ws.length ≤ sizeLine ∧ ∀ w ∈ ws, w.isFn = false) ∧ Q (.ref ih1.length) (ih1 ++ [.lst ws])
theorem Paired.len2 {α β : Type} {F : α → β → Prop} : ∀ {xs : List α} {ys : List β}, Paired F xs ys → ys.length = xs.length
  | _, _, .nil => rfl
  | _, _, .cons _ t => by rw [List.length_cons, List.length_cons, Paired.len2 t]
theorem ev_lstM {ta : AA} (h : AV F es ta) : EV F (.List es pos) (aLstM ta) := by
  obtain ⟨t, p, r⟩ := h
  refine ⟨_, fun X hX => pe_lst (p X hX), fun J jk m ih H env σ Qa Q S E hq f => ?_⟩
  refine r J jk m ih H env σ _ _ S E hq fun m1 ih1 H1 ws vs S1 y1 rr q1 => ?_
  refine ⟨by rw [Paired.len2 rr]; exact q1.1.1, fun p hp => ?_⟩
  have y2 : Xt m1 ih1 H1 (m1 ++ [p]) (ih1 ++ [.lst ws]) (upd H1 p (.lst vs)) := Xt.add S1 hp
  exact f _ _ _ _ _ (S1.add (u := .lst ws) hp ⟨vs, upd_same, paired_wo q1.1.2 (paired_mono S1 y2 rr)⟩) (y1.trans y2) (ref_last S1) q1.2
end
end Pz

end
section
set_option Elab.async false
set_option linter.all false
set_option maxRecDepth 100000
set_option autoImplicit false
/-! Fw3: operators, comparisons, tests. -/
namespace Pz
open PySem PySem.Spec L2 LamX

abbrev AR2 := W → W → IH → QW → Prop
abbrev AR1 := W → IH → QW → Prop
abbrev ARC := List W → IH → QW → Prop
def RR2 (K : PySem.W.Frag) (r : R2) (ra : AR2) : Prop := ∀ J m ih H x y vx vy Qa Q, Sim K J m ih H → WR K J m ih H x vx → WR K J m ih H y vy → ra x y ih Qa → Fu K J m ih H Qa Q → r vx vy H Q
def RR1 (K : PySem.W.Frag) (r : V → Hp → VK → Prop) (ra : AR1) : Prop := ∀ J m ih H x vx Qa Q, Sim K J m ih H → WR K J m ih H x vx → ra x ih Qa → Fu K J m ih H Qa Q → r vx H Q
def RRC (K : PySem.W.Frag) (r : List V → Hp → VK → Prop) (ra : ARC) : Prop := ∀ J m ih H ws vs Qa Q, Sim K J m ih H → Paired (WR K J m ih H) ws vs → ra ws ih Qa → Fu K J m ih H Qa Q → r vs H Q
/-- an operator of the model with its meaning over data -/
def OV (F : Fam) (f : Value → Value → Sem Value) (ra : AR2) : Prop := ∃ r, (∀ X, F.ok X → OpR X f r) ∧ RR2 F.K r ra
def UV (F : Fam) (f : Value → Sem Value) (ra : AR1) : Prop := ∃ r, (∀ X, F.ok X → UnR X f r) ∧ RR1 F.K r ra
def CV (F : Fam) (f : Value) (ra : ARC) : Prop := ∃ r, (∀ X, F.ok X → CallR X f r) ∧ RRC F.K r ra
def aOp (ra : AR2) (ta tb : AE) : AE := fun env ih Q => ta env ih fun x ih1 => tb env ih1 fun y ih2 => ra x y ih2 Q
def aUn (ra : AR1) (ta : AE) : AE := fun env ih Q => ta env ih fun x ih1 => ra x ih1 Q
def aCB (ra : ARC) (ta : AA) : AE := fun env ih Q => ta env ih fun ws ih1 => ra ws ih1 Q

theorem re_op {F : Fam} {r : R2} {ra : AR2} {ta tb : TE} {aa ab : AE} (hr : RR2 F.K r ra) (h1 : RE F ta aa) (h2 : RE F tb ab) : RE F (tOp r ta tb) (aOp ra aa ab) := fun J jk m ih H env σ Qa Q S E h f => by
  refine h1 J jk m ih H env σ _ _ S E h fun m1 ih1 H1 w v S1 x1 r1 q1 => ?_
  refine h2 J jk m1 ih1 H1 env σ _ _ S1 (E.mono S x1) q1 fun m2 ih2 H2 u z S2 x2 r2 q2 => ?_
  exact hr J m2 ih2 H2 w u v z Qa Q S2 (r1.mono S1 x2) r2 q2 (f.step (x1.trans x2))
section
variable {F : Fam} {pos : Pos} {e a b c : Expr} {es : List Expr} {aa ab ac : AE}
theorem ev_op {op : Operator} {ra : AR2} (ho : OV F (binaryOp op) ra) (h1 : EV F a aa) (h2 : EV F b ab) : EV F (.BinOp a op b pos) (aOp ra aa ab) := by
  obtain ⟨r, p, q⟩ := ho
  obtain ⟨t1, p1, q1⟩ := h1
  obtain ⟨t2, p2, q2⟩ := h2
  exact ⟨_, fun X hX => pe_op (p X hX) (p1 X hX) (p2 X hX), re_op q q1 q2⟩
theorem ev_cmp {op : CmpOp} {ra : AR2} (ho : OV F (compareOp op) ra) (h1 : EV F a aa) (h2 : EV F b ab) (hm : behindInMarks op b = false := by first | exact nomark _ | rfl) : EV F (.Compare a [op] [b] pos) (aOp ra aa ab) := by
  obtain ⟨r, p, q⟩ := ho
  obtain ⟨t1, p1, q1⟩ := h1
  obtain ⟨t2, p2, q2⟩ := h2
  exact ⟨_, fun X hX => pe_cmpR (p X hX) (p1 X hX) (p2 X hX) hm, re_op q q1 q2⟩
theorem ev_un {op : UnaryOp} {ra : AR1} (ho : UV F (unaryOp op) ra) (h1 : EV F a aa) : EV F (.UnaryOp op a pos) (aUn ra aa) := by
  obtain ⟨r, p, q⟩ := ho
  obtain ⟨t1, p1, q1⟩ := h1
  refine ⟨_, fun X hX => pe_un (p X hX) (p1 X hX), fun J jk m ih H env σ Qa Q S E h f => ?_⟩
  refine q1 J jk m ih H env σ _ _ S E h fun m1 ih1 H1 w v S1 x1 r1 h1 => ?_
  exact q J m1 ih1 H1 w v Qa Q S1 r1 h1 (f.step x1)
/-- a built-in function, a built-in class -/
theorem re_cb  {r : List V → Hp → VK → Prop} {ra : ARC} {t : TA} {ta : AA} (hr : RRC F.K r ra) (h1 : RA F t ta) : RE F (tCB r t) (aCB ra ta) := fun J jk m ih H env σ Qa Q S E h f =>
  h1 J jk m ih H env σ _ _ S E h fun m1 ih1 H1 ws vs S1 x1 r1 q1 => hr J m1 ih1 H1 ws vs Qa Q S1 r1 q1 (f.step x1)
theorem ev_callB {x : Str} {id : String} {p : Pos} {ra : ARC} {ta : AA} (hc : CV F (.builtin id) ra) (hg : Glb F x) (hm : F.mg x = none) (hv : bootBuiltins x = some (.builtin id)) (ha : AV F (e :: es) ta) (hn : x ≠ "__name__" := by decide) (hdb : (x == ("__debug__" : Str)) = false := by decide)
    (he : ∀ env, starEach (e :: es) env = (false, eval e env) :: starEach es env := by intro _; rfl) (hpl : ∀ env, (backTo pos (starEach es env)).any (·.1) = false := by intro _; rfl) : EV F (.Call (.Name x p) (e :: es) [] pos) (aCB ra ta) := by
  obtain ⟨r, p1, q⟩ := hc
  obtain ⟨t, p2, q2⟩ := ha
  exact ⟨_, fun X hX => pe_callB (p1 X hX) (Fam.gl hX hg) (by rw [F.hmg X hX]; exact hm) hv (p2 X hX) hn hdb (he _) (hpl _), re_cb q q2⟩
theorem ev_callT {x : Str} {T : String} {p : Pos} {ra : ARC} {ta : AA} (hc : CV F (.type T) ra) (hg : Glb F x) (hm : F.mg x = none) (hv : bootBuiltins x = some (.type T)) (ha : AV F (e :: es) ta) (hn : x ≠ "__name__" := by decide) (hdb : (x == ("__debug__" : Str)) = false := by decide)
    (he : ∀ env, starEach (e :: es) env = (false, eval e env) :: starEach es env := by intro _; rfl) (hpl : ∀ env, (backTo pos (starEach es env)).any (·.1) = false := by intro _; rfl) : EV F (.Call (.Name x p) (e :: es) [] pos) (aCB ra ta) := by
  obtain ⟨r, p1, q⟩ := hc
  obtain ⟨t, p2, q2⟩ := ha
  exact ⟨_, fun X hX => pe_callTy (p1 X hX) (Fam.gl hX hg) (by rw [F.hmg X hX]; exact hm) hv (p2 X hX) hn hdb (he _) (hpl _), re_cb q q2⟩
/-- a module's name for a built-in function -/
theorem ev_callM {x : Str} {id : String} {p : Pos} {ra : ARC} {ta : AA} (hc : CV F (.builtin id) ra) (hg : Glb F x) (hm : F.mg x = some (.builtin id)) (ha : AV F (e :: es) ta) (hdb : (x == ("__debug__" : Str)) = false := by decide)
    (he : ∀ env, starEach (e :: es) env = (false, eval e env) :: starEach es env := by intro _; rfl) (hpl : ∀ env, (backTo pos (starEach es env)).any (·.1) = false := by intro _; rfl) : EV F (.Call (.Name x p) (e :: es) [] pos) (aCB ra ta) := by
  obtain ⟨r, p1, q⟩ := hc
  obtain ⟨t, p2, q2⟩ := ha
  exact ⟨_, fun X hX => pe_callBfun (p1 X hX) (Fam.gl hX hg) (by rw [F.hmg X hX]; exact hm) (p2 X hX) hdb (he _) (hpl _), re_cb q q2⟩

/-! ### tests -/
def aTst (ta : AE) : AT := fun env ih Q => ta env ih fun x ih1 => match x with
  | .d (.bool b) => Q b ih1
  | _ => False
theorem rt_tst  {t : TE} (h1 : RE F t aa) : RT F (tB t) (aTst aa) := fun J jk m ih H env σ Qa Q S E h f => by
  refine h1 J jk m ih H env σ _ _ S E h fun m1 ih1 H1 w v S1 x1 r1 q1 => ?_
  split at q1
  · exact ⟨_, WR.bl' r1, f m1 ih1 H1 _ S1 x1 q1⟩
  · exact q1.elim
theorem rt_tst2  {t : TE} (h1 : RE F t aa) : RT F (tTest t) (aTst aa) := rt_tst h1
theorem tv_val (h : EV F e aa) (he : ∀ env whole, isTrue e env whole = (do let v ← whole; standAt e.pos; holding [v] (truthy v)) := by intro _ _; rfl) : TV F e (aTst aa) := by
  obtain ⟨t, p, q⟩ := h
  exact ⟨_, fun X hX => pt_val (p X hX) (he _), rt_tst q⟩
theorem tv_cmp {op : CmpOp} {ra : AR2} (ho : OV F (compareOp op) ra) (h1 : EV F a aa) (h2 : EV F b ab) (hm : behindInMarks op b = false := by first | exact nomark _ | rfl) : TV F (.Compare a [op] [b] pos) (aTst (aOp ra aa ab)) := by
  obtain ⟨r, p, q⟩ := ho
  obtain ⟨t1, p1, q1⟩ := h1
  obtain ⟨t2, p2, q2⟩ := h2
  exact ⟨_, fun X hX => pt_cmpR (p X hX) (p1 X hX) (p2 X hX) hm, rt_tst2 (re_op q q1 q2)⟩
def aChain (ra rb : AR2) (ta tb tc : AE) : AE := fun env ih Q => ta env ih fun x ih1 => tb env ih1 fun y ih2 => ra x y ih2 fun z ih3 => match z with
  | .d (.bool true) => tc env ih3 fun u ih4 => rb y u ih4 Q
  | .d (.bool false) => Q (.d (.bool false)) ih3
  | _ => False
theorem re_chain  {r s : R2} {ra rb : AR2} {ta tb tc : TE} (hr : RR2 F.K r ra) (hs : RR2 F.K s rb) (h1 : RE F ta aa) (h2 : RE F tb ab) (h3 : RE F tc ac) : RE F (tChain r s ta tb tc) (aChain ra rb aa ab ac) := fun J jk m ih H env σ Qa Q S E h f => by
  refine h1 J jk m ih H env σ _ _ S E h fun m1 ih1 H1 w v S1 x1 r1 q1 => ?_
  refine h2 J jk m1 ih1 H1 env σ _ _ S1 (E.mono S x1) q1 fun m2 ih2 H2 u z S2 x2 r2 q2 => ?_
  refine hr J m2 ih2 H2 w u v z _ _ S2 (r1.mono S1 x2) r2 q2 fun m3 ih3 H3 k kv S3 x3 r3 q3 => ?_
  have x12 := (x1.trans x2).trans x3
  split at q3
  · refine ⟨true, WR.bl' r3, ?_⟩
    rw [if_pos rfl]
    refine h3 J jk m3 ih3 H3 env σ _ _ S3 (E.mono S x12) q3 fun m4 ih4 H4 y yv S4 x4 r4 q4 => ?_
    exact hs J m4 ih4 H4 u y z yv Qa Q S4 ((r2.mono S2 x3).mono S3 x4) r4 q4 (f.step (x12.trans x4))
  · refine ⟨false, WR.bl' r3, ?_⟩
    rw [if_neg Bool.false_ne_true]
    exact f m3 ih3 H3 (.d (.bool false)) _ S3 x12 WR.bl q3
  · exact q3.elim
theorem ev_chain {op op2 : CmpOp} {ra rb : AR2} (ho : OV F (compareOp op) ra) (ho2 : OV F (compareOp op2) rb) (h1 : EV F a aa) (h2 : EV F b ab) (h3 : EV F c ac)
    (hm : lastMarks [op, op2] [b, c] = false := by with_unfolding_all rfl) : EV F (.Compare a [op, op2] [b, c] pos) (aChain ra rb aa ab ac) := by
  obtain ⟨r, p, q⟩ := ho
  obtain ⟨s, p', q'⟩ := ho2
  obtain ⟨t1, p1, q1⟩ := h1
  obtain ⟨t2, p2, q2⟩ := h2
  obtain ⟨t3, p3, q3⟩ := h3
  exact ⟨_, fun X hX => pe_chain (p X hX) (p' X hX) (p1 X hX) (p2 X hX) (p3 X hX) hm, re_chain q q' q1 q2 q3⟩
theorem tv_chain {op op2 : CmpOp} {ra rb : AR2} (ho : OV F (compareOp op) ra) (ho2 : OV F (compareOp op2) rb) (h1 : EV F a aa) (h2 : EV F b ab) (h3 : EV F c ac)
    (hm : lastMarks [op, op2] [b, c] = false := by with_unfolding_all rfl) : TV F (.Compare a [op, op2] [b, c] pos) (aTst (aChain ra rb aa ab ac)) := by
  obtain ⟨r, p, q⟩ := ho
  obtain ⟨s, p', q'⟩ := ho2
  obtain ⟨t1, p1, q1⟩ := h1
  obtain ⟨t2, p2, q2⟩ := h2
  obtain ⟨t3, p3, q3⟩ := h3
  exact ⟨_, fun X hX => pt_chain (p X hX) (p' X hX) (p1 X hX) (p2 X hX) (p3 X hX) hm, rt_tst2 (re_chain q q' q1 q2 q3)⟩
/-- and, or, not: tests -/
def aAnd (t u : AT) : AT := fun env ih Q => t env ih fun k ih1 => if k = true then u env ih1 Q else Q false ih1
def aOr (t u : AT) : AT := fun env ih Q => t env ih fun k ih1 => if k = true then Q true ih1 else u env ih1 Q
def aNot (t : AT) : AT := fun env ih Q => t env ih fun k ih1 => Q (!k) ih1
theorem rt_and  {t u : TT} {ta ua : AT} (h1 : RT F t ta) (h2 : RT F u ua) : RT F (tAnd t u) (aAnd ta ua) := fun J jk m ih H env σ Qa Q S E h f => by
  refine h1 J jk m ih H env σ _ _ S E h fun m1 ih1 H1 k S1 x1 q1 => ?_
  cases k with
  | true =>
    rw [if_pos rfl] at q1 ⊢
    exact h2 J jk m1 ih1 H1 env σ _ _ S1 (E.mono S x1) q1 (f.step x1)
  | false =>
    rw [if_neg Bool.false_ne_true] at q1 ⊢
    exact f m1 ih1 H1 _ S1 x1 q1
theorem rt_or  {t u : TT} {ta ua : AT} (h1 : RT F t ta) (h2 : RT F u ua) : RT F (tOr t u) (aOr ta ua) := fun J jk m ih H env σ Qa Q S E h f => by
  refine h1 J jk m ih H env σ _ _ S E h fun m1 ih1 H1 k S1 x1 q1 => ?_
  cases k with
  | false =>
    rw [if_neg Bool.false_ne_true] at q1 ⊢
    exact h2 J jk m1 ih1 H1 env σ _ _ S1 (E.mono S x1) q1 (f.step x1)
  | true =>
    rw [if_pos rfl] at q1 ⊢
    exact f m1 ih1 H1 _ S1 x1 q1
variable {rest : List Expr} {ta tb : AT}
theorem wv_and1 (h : TV F a ta) : WV F (.BoolOp .And [a] pos) ta := let ⟨_, p, q⟩ := h; ⟨_, fun X hX => pw_and1 (p X hX), q⟩
theorem wv_or1 (h : TV F a ta) : WV F (.BoolOp .Or [a] pos) ta := let ⟨_, p, q⟩ := h; ⟨_, fun X hX => pw_or1 (p X hX), q⟩
theorem wv_and (h : TV F a ta) (h2 : WV F (.BoolOp .And (b :: rest) pos) tb) : WV F (.BoolOp .And (a :: b :: rest) pos) (aAnd ta tb) := let ⟨_, p, q⟩ := h; let ⟨_, p2, q2⟩ := h2; ⟨_, fun X hX => pw_and (p X hX) (p2 X hX), rt_and q q2⟩
theorem wv_or (h : TV F a ta) (h2 : WV F (.BoolOp .Or (b :: rest) pos) tb) : WV F (.BoolOp .Or (a :: b :: rest) pos) (aOr ta tb) := let ⟨_, p, q⟩ := h; let ⟨_, p2, q2⟩ := h2; ⟨_, fun X hX => pw_or (p X hX) (p2 X hX), rt_or q q2⟩
theorem WV.tv (h : WV F e ta) : TV F e ta := let ⟨_, p, q⟩ := h; ⟨_, fun X hX => (p X hX).pt, q⟩
theorem tv_not (h : TV F a ta) : TV F (.UnaryOp .Not a pos) (aNot ta) := by
  obtain ⟨t, p, q⟩ := h
  refine ⟨_, fun X hX => pt_not (p X hX), fun J jk m ih H env σ Qa Q S E hh f => ?_⟩
  exact q J jk m ih H env σ _ _ S E hh fun m1 ih1 H1 k S1 x1 q1 => f m1 ih1 H1 _ S1 x1 q1
/-- .. as values -/
def asB (k : Bool → Prop) : W → Prop
  | .d (.bool b) => k b
  | _ => False
theorem asB_some {k : Bool → Prop} {w : W} (h : asB k w) : ∃ b, w = .d (.bool b) ∧ k b := by
  unfold asB at h
  split at h
  · exact ⟨_, rfl, h⟩
  · exact h.elim
def aAndV (ta tb : AE) : AE := fun env ih Q => ta env ih fun x ih1 => asB (fun k => if k = true then tb env ih1 Q else Q (.d (.bool false)) ih1) x
def aOrV (ta tb : AE) : AE := fun env ih Q => ta env ih fun x ih1 => asB (fun k => if k = true then Q (.d (.bool true)) ih1 else tb env ih1 Q) x
def aNotV (ta : AE) : AE := fun env ih Q => ta env ih fun x ih1 => asB (fun k => Q (.d (.bool (!k))) ih1) x
theorem ev_one {op} (h : EV F a aa) : EV F (.BoolOp op [a] pos) aa := let ⟨_, p, q⟩ := h; ⟨_, fun X hX => pe_one (p X hX), q⟩
theorem ev_and (h1 : EV F a aa) (h2 : EV F (.BoolOp .And (b :: rest) pos) ab) : EV F (.BoolOp .And (a :: b :: rest) pos) (aAndV aa ab) := by
  obtain ⟨t, p, q⟩ := h1
  obtain ⟨t2, p2, q2⟩ := h2
  refine ⟨_, fun X hX => pe_and (p X hX) (p2 X hX), fun J jk m ih H env σ Qa Q S E hh f => ?_⟩
  refine q J jk m ih H env σ _ _ S E hh fun m1 ih1 H1 w v S1 x1 r1 k1 => ?_
  obtain ⟨k, rfl, k2⟩ := asB_some k1
  refine ⟨k, WR.bl' r1, ?_⟩
  cases k with
  | true =>
    rw [if_pos rfl] at k2 ⊢
    exact q2 J jk m1 ih1 H1 env σ _ _ S1 (E.mono S x1) k2 (f.step x1)
  | false =>
    rw [if_neg Bool.false_ne_true] at k2 ⊢
    exact f m1 ih1 H1 (.d (.bool false)) _ S1 x1 WR.bl k2
theorem ev_or (h1 : EV F a aa) (h2 : EV F (.BoolOp .Or (b :: rest) pos) ab) : EV F (.BoolOp .Or (a :: b :: rest) pos) (aOrV aa ab) := by
  obtain ⟨t, p, q⟩ := h1
  obtain ⟨t2, p2, q2⟩ := h2
  refine ⟨_, fun X hX => pe_or (p X hX) (p2 X hX), fun J jk m ih H env σ Qa Q S E hh f => ?_⟩
  refine q J jk m ih H env σ _ _ S E hh fun m1 ih1 H1 w v S1 x1 r1 k1 => ?_
  obtain ⟨k, rfl, k2⟩ := asB_some k1
  refine ⟨k, WR.bl' r1, ?_⟩
  cases k with
  | false =>
    rw [if_neg Bool.false_ne_true] at k2 ⊢
    exact q2 J jk m1 ih1 H1 env σ _ _ S1 (E.mono S x1) k2 (f.step x1)
  | true =>
    rw [if_pos rfl] at k2 ⊢
    exact f m1 ih1 H1 (.d (.bool true)) _ S1 x1 WR.bl k2
theorem ev_not (h1 : EV F a aa) : EV F (.UnaryOp .Not a pos) (aNotV aa) := by
  obtain ⟨t, p, q⟩ := h1
  refine ⟨_, fun X hX => pe_not (p X hX), fun J jk m ih H env σ Qa Q S E hh f => ?_⟩
  refine q J jk m ih H env σ _ _ S E hh fun m1 ih1 H1 w v S1 x1 r1 k1 => ?_
  obtain ⟨k, rfl, k2⟩ := asB_some k1
  exact ⟨k, WR.bl' r1, f m1 ih1 H1 (.d (.bool (!k))) _ S1 x1 WR.bl k2⟩
def aIf (t : AT) (ta tb : AE) : AE := fun env ih Q => t env ih fun k ih1 => if k = true then ta env ih1 Q else tb env ih1 Q
theorem ev_ifE {t : AT} (h0 : TV F c t) (h1 : EV F a aa) (h2 : EV F b ab) : EV F (.IfExp c a b pos) (aIf t aa ab) := by
  obtain ⟨t0, p0, q0⟩ := h0
  obtain ⟨t1, p, q⟩ := h1
  obtain ⟨t2, p2, q2⟩ := h2
  refine ⟨_, fun X hX => pe_ifExp (p0 X hX) (p X hX) (p2 X hX), fun J jk m ih H env σ Qa Q S E hh f => ?_⟩
  refine q0 J jk m ih H env σ _ _ S E hh fun m1 ih1 H1 k S1 x1 k1 => ?_
  cases k with
  | true =>
    rw [if_pos rfl] at k1 ⊢
    exact q J jk m1 ih1 H1 env σ _ _ S1 (E.mono S x1) k1 (f.step x1)
  | false =>
    rw [if_neg Bool.false_ne_true] at k1 ⊢
    exact q2 J jk m1 ih1 H1 env σ _ _ S1 (E.mono S x1) k1 (f.step x1)
end
end Pz

end
section
set_option Elab.async false
set_option linter.all false
set_option maxRecDepth 100000
set_option autoImplicit false
/-! Fw4: the operators over data. -/
namespace Pz
open PySem PySem.Spec L2 LamX

section
variable {F : Fam}

/-! ### what may be read as a list or a tuple -/
mutual
theorem DR.weak {K : PySem.W.Frag} {L : Addr → Prop} {H : Hp} : ∀ {x : D} {v : V}, DR K L H x v → x.hasDict = false → Dp K H v x
  | .none, v, h, _ => by rw [h.non']; exact .non
  | .bool b, v, h, _ => by rw [h.bl']; exact .bl b
  | .int i, v, h, _ => by rw [h.int']; exact .int i
  | .str s, v, h, _ => by rw [h.str']; exact .str s
  | .tuple xs, v, h, n => by
    obtain ⟨a, vs, rfl, hs, hr⟩ := h.tup'
    exact .tup hs (DRs.weak hr (by simpa [PyData.hasDict] using n))
  | .list xs, v, h, n => by
    obtain ⟨a, vs, rfl, hs, _, hr⟩ := h.lst'
    exact .lst (.of hs) (DRs.weak hr (by simpa [PyData.hasDict] using n))
  | .dict ks, v, h, n => by simp [PyData.hasDict] at n
theorem DRs.weak {K : PySem.W.Frag} {L : Addr → Prop} {H : Hp} : ∀ {xs : List D} {vs : List V}, DRs K L H xs vs → PyData.hasDictAll xs = false → DpAll K H vs xs
  | [], vs, h, _ => by
    unfold DRs at h
    subst h
    exact .nil
  | x :: xs, vs, h, n => by
    unfold DRs at h
    obtain ⟨v, r, rfl, h1, h2⟩ := h
    have n' : x.hasDict = false ∧ PyData.hasDictAll xs = false := by simpa [PyData.hasDictAll] using n
    exact .cons (DR.weak h1 n'.1) (DRs.weak h2 n'.2)
end
/-- a value as data: a mutable list of data too -/
def view (w : W) (ih : IH) : Option D := match w with
  | .d x => some x
  | .ref n => match ih[n]? with
    | some (.lst ws) => (allD ws).map .list
    | _ => none
  | .scr _ => none
  | .fn _ _ => none
theorem view_d (x : D) (ih : IH) : view (.d x) ih = some x := rfl
theorem view_dp {K : PySem.W.Frag} {J : JT} {m : List Addr} {ih : IH} {H : Hp} {w : W} {v : V} {x : D} (S : Sim K J m ih H) (r : WR K J m ih H w v) (h : view w ih = some x) (n : x.hasDict = false) : Dp K H v x := by
  unfold view at h
  split at h
  · cases h
    exact DR.weak (L := Own J m ih) r n
  · rename_i k
    split at h
    · rename_i ws e
      obtain ⟨a, e1, rfl⟩ := r
      cases q : allD ws with
      | none => rw [q] at h; cases h
      | some ds =>
        rw [q] at h
        cases h
        obtain ⟨vs, e2, rr⟩ := S.ob k a _ e1 e
        have rr := paired_wr rr
        rw [allD_eq q] at rr
        exact .lst (.of e2) (DRs.weak (drs_of rr) (by simpa [PyData.hasDict] using n))
    · cases h
  · cases h
  · cases h

theorem ovK {f : Value → Value → Sem Value} {ra : AR2} (r : PySem.W.Frag → R2) (h : ∀ X, F.ok X → OpR X f (r X.K)) (q : RR2 F.K (r F.K) ra) : OV F f ra := ⟨r F.K, fun X hX => by rw [← F.hK X hX]; exact h X hX, q⟩
theorem cvK {f : Value} {ra : ARC} (r : PySem.W.Frag → List V → Hp → VK → Prop) (h : ∀ X, F.ok X → CallR X f (r X.K)) (q : RRC F.K (r F.K) ra) : CV F f ra := ⟨r F.K, fun X hX => by rw [← F.hK X hX]; exact h X hX, q⟩
/-! ### whole numbers -/
def xI (g : Int → Int → D) : AR2 := fun x y ih Q => match x, y with
  | .d (.int i), .d (.int j) => Q (.d (g i j)) ih
  | _, _ => False
def xIc (C : Int → Int → Prop) (g : Int → Int → D) : AR2 := fun x y ih Q => match x, y with
  | .d (.int i), .d (.int j) => C i j ∧ Q (.d (g i j)) ih
  | _, _ => False
theorem rr_I {K : PySem.W.Frag} {g : Int → Int → V} {ga : Int → Int → D} (h : ∀ i j L H, DR K L H (ga i j) (g i j)) : RR2 K (rI0 g) (xI ga) := fun J m ih H x y vx vy Qa Q S rx ry hh f => by
  unfold xI at hh
  split at hh
  · exact ⟨_, _, rx.int', ry.int', f.now (w := .d _) S (h _ _ _ _) hh⟩
  · exact hh.elim
theorem rr_Ic {K : PySem.W.Frag} {C : Int → Int → Prop} {g : Int → Int → V} {ga : Int → Int → D} (h : ∀ i j L H, DR K L H (ga i j) (g i j)) : RR2 K (rI C g) (xIc C ga) := fun J m ih H x y vx vy Qa Q S rx ry hh f => by
  unfold xIc at hh
  split at hh
  · exact ⟨_, _, rx.int', ry.int', hh.1, f.now (w := .d _) S (h _ _ _ _) hh.2⟩
  · exact hh.elim
theorem ov_sub : OV F (binaryOp .Sub) (xI fun i j => .int (i - j)) := ⟨_, fun _ _ => op_sub, rr_I fun _ _ _ _ => DR.int⟩
/-- a bound for a product: few bits together -/
theorem ov_mul : OV F (binaryOp .Mult) (xIc CMulW fun i j => .int (i * j)) := ⟨_, fun _ _ => op_mulW, rr_Ic fun _ _ _ _ => DR.int⟩
def CDv (_ j : Int) : Prop := j ≠ 0 ∧ j.natAbs.log2 < 9000
theorem ov_mod : OV F (binaryOp .Mod) (xIc (fun _ j => j ≠ 0) fun i j => .int (i.fmod j)) := ⟨_, fun _ _ => op_modN, rr_Ic fun _ _ _ _ => DR.int⟩
theorem ov_pow : OV F (binaryOp .Pow) (xIc CPow fun i j => .int (i ^ j.toNat)) := ⟨_, fun _ _ => op_pow, rr_Ic fun _ _ _ _ => DR.int⟩
theorem ov_lt : OV F (compareOp .Lt) (xI fun i j => .bool (decide (i < j))) := ⟨_, fun _ _ => op_lt, rr_I fun _ _ _ _ => DR.bl⟩
theorem ov_le : OV F (compareOp .LtE) (xI fun i j => .bool (decide (i ≤ j))) := ⟨_, fun _ _ => op_le, rr_I fun _ _ _ _ => DR.bl⟩
theorem ov_gt : OV F (compareOp .Gt) (xI fun i j => .bool (decide (j < i))) := ⟨_, fun _ _ => op_gt, rr_I fun _ _ _ _ => DR.bl⟩
theorem ov_ge : OV F (compareOp .GtE) (xI fun i j => .bool (decide (j ≤ i))) := ⟨_, fun _ _ => op_ge, rr_I fun _ _ _ _ => DR.bl⟩
def xNeg : AR1 := fun x ih Q => match x with
  | .d (.int i) => Q (.d (.int (-i))) ih
  | _ => False
theorem uv_neg : UV F (unaryOp .USub) xNeg := ⟨_, fun _ _ => un_neg, fun J m ih H x vx Qa Q S rx hh f => by
  unfold xNeg at hh
  split at hh
  · exact ⟨_, rx.int', f.now (w := .d _) S WR.int hh⟩
  · exact hh.elim⟩

theorem DRs.nil_left {K : PySem.W.Frag} {L : Addr → Prop} {H : Hp} {ds : List D} (h : DRs K L H ds []) : ds = [] := by
  have := h.len
  cases ds with
  | nil => rfl
  | cons a b => simp at this
/-! ### + -/
def xAdd : AR2 := fun x y ih Q => match x, y with
  | .d (.int i), .d (.int j) => Q (.d (.int (i + j))) ih
  | .d (.str a), .d (.str b) => a.length + b.length ≤ sizeLine ∧ Q (.d (.str (a ++ b))) ih
  | .d (.tuple xs), .d (.tuple ys) => xs.length + ys.length ≤ sizeLine ∧ Q (.d (.tuple (xs ++ ys))) ih
  | .d (.list xs), .d (.list ys) => xs.length + ys.length ≤ sizeLine ∧ Q (.d (.list (xs ++ ys))) ih
  | _, _ => False
theorem ov_add : OV F (binaryOp .Add) xAdd := by
  refine ovK (fun K x y H Q => rI0 (fun i j => V.int (i + j)) x y H Q ∨ (∃ i j, x = .str i ∧ y = .str j ∧ i.length + j.length ≤ sizeLine ∧ Q (.str (i ++ j)) H) ∨ rCatA K x y H Q ∨ rCat x y H Q) (fun _ _ => op_add.or (op_add_str.or (op_catA.or op_cat))) fun J m ih H x y vx vy Qa Q S rx ry hh f => ?_
  unfold xAdd at hh
  split at hh
  · exact .inl ⟨_, _, rx.int', ry.int', f.now (w := .d _) S WR.int hh⟩
  · exact .inr (.inl ⟨_, _, rx.str', ry.str', hh.1, f.now (w := .d _) S WR.str hh.2⟩)
  · obtain ⟨a, us, rfl, h1, d1⟩ := rx.tup'
    obtain ⟨b, vs, rfl, h2, d2⟩ := ry.tup'
    refine .inr (.inr (.inl ⟨a, b, us, vs, rfl, rfl, h1, h2, by rw [d1.len, d2.len]; exact hh.1, fun e => ?_, fun _ e => ?_, fun _ _ p hp => ?_⟩))
    · subst e
      have e2 := DRs.nil_left d1
      subst e2
      exact f.now (w := .d _) S ry hh.2
    · subst e
      have e2 := DRs.nil_left d2
      subst e2
      rw [List.append_nil] at hh
      exact f.now (w := .d _) S rx hh.2
    · exact f.tup S hp (d1.app d2) hh.2
  · obtain ⟨a, us, rfl, h1, _, d1⟩ := rx.lst'
    obtain ⟨b, vs, rfl, h2, _, d2⟩ := ry.lst'
    exact .inr (.inr (.inr ⟨a, b, us, vs, rfl, rfl, h1, h2, by rw [d1.len, d2.len]; exact hh.1, fun p hp => f.lst S hp (d1.app d2) hh.2⟩))
  · exact hh.elim
/-! ### == and != -/
def seqOf : D → Bool
  | .tuple _ => true
  | .list _ => true
  | _ => false
/-- how two data are told apart: texts by themselves, all else as data -/
def eqD (x y : D) : Bool := match x, y with
  | .str a, .str b => decide (a = b)
  | x, y => PyData.eqv x y
def eqOk (x y : D) : Prop := match x, y with
  | .str _, .str _ => True
  | x, y => SeqAt.shaped x = true ∧ SeqAt.shaped y = true
def xEqB (g : Bool → Bool) : AR2 := fun x y ih Q => optW (view x ih) fun dx => optW (view y ih) fun dy => eqOk dx dy ∧ Q (.d (.bool (g (eqD dx dy)))) ih
theorem shaped_nd {x : D} (h : SeqAt.shaped x = true) : x.hasDict = false := by
  unfold SeqAt.shaped at h
  exact PyData.hasDict_of_canLay x (by simp only [Bool.and_eq_true] at h; exact h.1)
theorem eqOk.nd {x y : D} (h : eqOk x y) : x.hasDict = false ∧ y.hasDict = false := by
  unfold eqOk at h
  split at h
  · exact ⟨rfl, rfl⟩
  · exact ⟨shaped_nd h.1, shaped_nd h.2⟩
theorem eq_cases {x y : D} (h : eqOk x y) : (∃ a b, x = .str a ∧ y = .str b ∧ eqD x y = decide (a = b)) ∨ (SeqAt.shaped x = true ∧ SeqAt.shaped y = true ∧ eqD x y = PyData.eqv x y) := by
  unfold eqOk at h
  split at h
  · exact .inl ⟨_, _, rfl, rfl, rfl⟩
  · rename_i n
    refine .inr ⟨h.1, h.2, ?_⟩
    unfold eqD
    split
    · exact (n _ _ rfl rfl).elim
    · rfl
theorem ov_eq : OV F (compareOp .Eq) (xEqB id) := by
  refine ovK (fun K x y H Q => rEq x y H Q ∨ rEqD K x y H Q) (fun X hX => op_eq.or (op_eqD (by have := Fam.hu hX; omega))) fun J m ih H x y vx vy Qa Q S rx ry hh f => ?_
  obtain ⟨dx, e1, hh⟩ := optW_some hh
  obtain ⟨dy, e2, ok, hh⟩ := optW_some hh
  obtain ⟨n1, n2⟩ := ok.nd
  have p1 := view_dp S rx e1 n1
  have p2 := view_dp S ry e2 n2
  rcases eq_cases ok with ⟨a, b, rfl, rfl, e⟩ | ⟨s1, s2, e⟩
  · cases p1
    cases p2
    refine .inl ⟨rfl, ?_⟩
    rw [e] at hh
    have e3 : decide (V.str a = V.str b) = decide (a = b) := by by_cases h : a = b <;> simp [h]
    rw [e3]
    exact f.now (w := .d _) S WR.bl hh
  · rw [e] at hh
    exact .inr ⟨dx, dy, p1, p2, s1, s2, f.now (w := .d _) S WR.bl hh⟩
theorem ov_ne : OV F (compareOp .NotEq) (xEqB not) := by
  refine ovK (fun K x y H Q => rNe x y H Q ∨ rNeD K x y H Q) (fun X hX => op_ne.or (op_neD (by have := Fam.hu hX; omega))) fun J m ih H x y vx vy Qa Q S rx ry hh f => ?_
  obtain ⟨dx, e1, hh⟩ := optW_some hh
  obtain ⟨dy, e2, ok, hh⟩ := optW_some hh
  obtain ⟨n1, n2⟩ := ok.nd
  have p1 := view_dp S rx e1 n1
  have p2 := view_dp S ry e2 n2
  rcases eq_cases ok with ⟨a, b, rfl, rfl, e⟩ | ⟨s1, s2, e⟩
  · cases p1
    cases p2
    refine .inl ⟨rfl, ?_⟩
    rw [e] at hh
    have e3 : decide (V.str a = V.str b) = decide (a = b) := by by_cases h : a = b <;> simp [h]
    rw [e3]
    exact f.now (w := .d _) S WR.bl hh
  · rw [e] at hh
    exact .inr ⟨dx, dy, p1, p2, s1, s2, f.now (w := .d _) S WR.bl hh⟩
/-! ### is -/
/-- x is None: data alone -/
def xIs (g : Bool → Bool) : AR2 := fun x y ih Q => match x, y with
  | .d .none, .d .none => Q (.d (.bool (g true))) ih
  | .d (.bool a), .d (.bool b) => Q (.d (.bool (g (decide (a = b))))) ih
  | .d _, .d .none => Q (.d (.bool (g false))) ih
  | _, _ => False
theorem DR.not_non {K : PySem.W.Frag} {L : Addr → Prop} {H : Hp} {x : D} {v : V} (h : DR K L H x v) (n : x ≠ .none) : v ≠ .non := by
  cases x with
  | none => exact absurd rfl n
  | bool b => rw [h.bl']; intro z; cases z
  | int b => rw [h.int']; intro z; cases z
  | str b => rw [h.str']; intro z; cases z
  | tuple b => obtain ⟨_, _, rfl, _⟩ := h.tup'; intro z; cases z
  | list b => obtain ⟨_, _, rfl, _⟩ := h.lst'; intro z; cases z
  | dict b => obtain ⟨_, _, rfl, _⟩ := h.dic'; intro z; cases z
theorem ov_is : OV F (compareOp .Is) (xIs id) := by
  refine ⟨_, fun _ _ => op_isN.or op_isBl, fun J m ih H x y vx vy Qa Q S rx ry hh f => ?_⟩
  unfold xIs at hh
  split at hh
  · refine .inl ⟨ry.non', ?_⟩
    rw [rx.non', decide_eq_true rfl]
    exact f.now (w := .d _) S WR.bl hh
  · exact .inr ⟨_, _, rx.bl', ry.bl', f.now (w := .d _) S WR.bl hh⟩
  · refine .inl ⟨ry.non', ?_⟩
    rw [decide_eq_false (DR.not_non (L := Own J m ih) rx (by intro z; simp_all))]
    exact f.now (w := .d _) S WR.bl hh
  · exact hh.elim
theorem ov_isnt : OV F (compareOp .IsNot) (xIs not) := by
  refine ⟨_, fun _ _ => op_notN.or op_notBl, fun J m ih H x y vx vy Qa Q S rx ry hh f => ?_⟩
  unfold xIs at hh
  split at hh
  · refine .inl ⟨ry.non', ?_⟩
    rw [rx.non', decide_eq_true rfl]
    exact f.now (w := .d _) S WR.bl hh
  · exact .inr ⟨_, _, rx.bl', ry.bl', f.now (w := .d _) S WR.bl hh⟩
  · refine .inl ⟨ry.non', ?_⟩
    rw [decide_eq_false (DR.not_non (L := Own J m ih) rx (by intro z; simp_all))]
    exact f.now (w := .d _) S WR.bl hh
  · exact hh.elim
end
end Pz

end
section
set_option Elab.async false
set_option linter.all false
set_option maxRecDepth 100000
set_option autoImplicit false
/-! Fw5: division, items, slices, built-ins. -/
namespace Pz
open PySem PySem.Spec L2 LamX

section
variable {F : Fam} {pos p2 : Pos} {e a b c : Expr} {es : List Expr} {aa ab ac : AE}
theorem op_fdivX {X : Cx} : OpR X (binaryOp .FloorDiv) (rI CDv fun i j => .int (i.fdiv j)) := opI fun i j _ _ _ _ _ hc q => PyProof.Rows.floordiv_int hc.1 q (.inl (PyProof.noPylong_of_log2 hc.2))
theorem ov_fdiv : OV F (binaryOp .FloorDiv) (xIc CDv fun i j => .int (i.fdiv j)) := ⟨_, fun _ _ => op_fdivX, rr_Ic fun _ _ _ _ => DR.int⟩

/-! ### items -/
theorem atI_map {α β : Type} {xs : List α} {ys : List β} {i : Int} {x : α} (hl : xs.length = ys.length) (h : atI xs i = some x) : ∃ (j : Nat) (y : β), xs[j]? = some x ∧ ys[j]? = some y ∧ atI ys i = some y := by
  unfold atI at h ⊢
  cases q : ixN xs.length i with
  | none => rw [q] at h; cases h
  | some j =>
    rw [q] at h
    have h' : xs[j]? = some x := h
    have hj : j < ys.length := by rw [← hl]; exact (List.getElem?_eq_some_iff.mp h').1
    rw [← hl, q]
    exact ⟨j, ys[j], h', List.getElem?_eq_getElem hj, List.getElem?_eq_getElem hj⟩
theorem DRs.atI {K : PySem.W.Frag} {L : Addr → Prop} {H : Hp} {ds : List D} {vs : List V} {i : Int} {d : D} (h : DRs K L H ds vs) (e : L2.atI ds i = some d) : ∃ v, L2.atI vs i = some v ∧ DR K L H d v := by
  obtain ⟨j, v, e1, e2, e3⟩ := atI_map h.len.symm e
  obtain ⟨u, e4, r⟩ := h.get e1
  rw [e2] at e4
  cases e4
  exact ⟨v, e3, r⟩
theorem paired_at {K : PySem.W.Frag} {J : JT} {m : List Addr} {ih : IH} {H : Hp} {ws : List W} {vs : List V} {i : Int} {w : W} (h : Paired (WR K J m ih H) ws vs) (e : L2.atI ws i = some w) : ∃ v, L2.atI vs i = some v ∧ WR K J m ih H w v := by
  obtain ⟨j, v, e1, e2, e3⟩ := atI_map (Paired.len2 h).symm e
  obtain ⟨u, e4, r⟩ := paired_get h e1
  rw [e2] at e4
  cases e4
  exact ⟨v, e3, r⟩
def xIdx : AR2 := fun x y ih Q => match x, y with
  | .d (.tuple xs), .d (.int i) => optW (atI xs i) fun v => Q (.d v) ih
  | .d (.list xs), .d (.int i) => optW (atI xs i) fun v => Q (.d v) ih
  | .d (.str s), .d (.int i) => optW (atI s.cps.toList i) fun z => s.length ≤ sizeLine ∧ Q (.d (.str ⟨#[z]⟩)) ih
  | .ref n, .d (.int i) => optW (ih[n]?) fun o => match o with
    | .lst ws => optW (atI ws i) fun w => Q w ih
    | _ => False
  | _, _ => False
theorem ev_ix (h1 : EV F a aa) (h2 : EV F b ab) (hs : PlainIx b := by exact fun _ _ => rfl) : EV F (.Subscript a b pos) (aOp xIdx aa ab) := by
  obtain ⟨t1, p1, q1⟩ := h1
  obtain ⟨t2, p2, q2⟩ := h2
  refine ⟨tOp (rIx F.K) t1 t2, fun X hX => by rw [← F.hK X hX]; exact pe_ix ix_seq (p1 X hX) (p2 X hX) hs, re_op (fun J m ih H x y vx vy Qa Q S rx ry hh f => ?_) q1 q2⟩
  unfold xIdx at hh
  split at hh
  · obtain ⟨w, vs, rfl, hs, hr⟩ := rx.tup'
    obtain ⟨d, e, q⟩ := optW_some hh
    obtain ⟨v, e2, r⟩ := hr.atI e
    exact .inr (.inl ⟨w, vs, _, v, rfl, ry.int', hs, e2, f.now (w := .d d) S r q⟩)
  · obtain ⟨w, vs, rfl, hs, _, hr⟩ := rx.lst'
    obtain ⟨d, e, q⟩ := optW_some hh
    obtain ⟨v, e2, r⟩ := hr.atI e
    exact .inl ⟨w, vs, _, v, rfl, ry.int', .of hs, e2, f.now (w := .d d) S r q⟩
  · obtain ⟨z, e, hz, q⟩ := optW_some hh
    exact .inr (.inr ⟨_, _, z, rx.str', ry.int', hz, e, f.now (w := .d _) S WR.str q⟩)
  · obtain ⟨w, e1, rfl⟩ := rx
    obtain ⟨o, e, q⟩ := optW_some hh
    have so := S.ob _ w o e1 e
    cases o with
    | lst ws =>
      obtain ⟨vs, e2, rr⟩ := so
      obtain ⟨u, e3, q⟩ := optW_some q
      obtain ⟨v, e4, r⟩ := paired_at (paired_wr rr) e3
      exact .inl ⟨w, vs, _, v, rfl, ry.int', .of e2, e4, f.now S r q⟩
    | dead => exact q.elim
    | dic _ => exact q.elim
    | tab _ => exact q.elim
  · exact hh.elim

theorem view_lst {K : PySem.W.Frag} {J : JT} {m : List Addr} {ih : IH} {H : Hp} {w : W} {v : V} {ds : List D} (S : Sim K J m ih H) (r : WR K J m ih H w v) (h : view w ih = some (.list ds)) : ∃ g vs, v = .ref g ∧ H g = some (.lst vs) ∧ DRs K (Own J m ih) H ds vs := by
  unfold view at h
  split at h
  · cases h
    obtain ⟨g, vs, e, hs, _, hr⟩ := r.lst'
    exact ⟨g, vs, e, hs, hr⟩
  · rename_i k
    split at h
    · rename_i ws e
      obtain ⟨a, e1, rfl⟩ := r
      cases q : allD ws with
      | none => rw [q] at h; cases h
      | some es =>
        rw [q] at h
        cases h
        obtain ⟨vs, e2, rr⟩ := S.ob k a _ e1 e
        have rr := paired_wr rr
        rw [allD_eq q] at rr
        exact ⟨a, vs, rfl, e2, drs_of rr⟩
    · cases h
  · cases h
  · cases h
theorem view_ref {n : Nat} {ih : IH} {x : D} (h : view (.ref n) ih = some x) : ∃ ds, x = .list ds := by
  unfold view at h
  simp only at h
  split at h
  · cases q : allD _ with
    | none => rw [q] at h; cases h
    | some es => rw [q] at h; cases h; exact ⟨es, rfl⟩
  · cases h
theorem view_dat {w : W} {ih : IH} {x : D} (h : view w ih = some x) (n : ∀ ds, x ≠ .list ds) : w = .d x := by
  cases w with
  | d y => cases h; rfl
  | ref k => obtain ⟨ds, e⟩ := view_ref h; exact absurd e (n ds)
  | scr _ => cases h
  | fn _ _ => cases h
theorem view_tup {K : PySem.W.Frag} {J : JT} {m : List Addr} {ih : IH} {H : Hp} {w : W} {v : V} {ds : List D} (r : WR K J m ih H w v) (h : view w ih = some (.tuple ds)) : ∃ g vs, v = .ref g ∧ SqT K H g vs ∧ DRs K (Own J m ih) H ds vs := by
  have e := view_dat h (fun _ z => by cases z)
  subst e
  exact r.tup'
theorem view_str {K : PySem.W.Frag} {J : JT} {m : List Addr} {ih : IH} {H : Hp} {w : W} {v : V} {x : Str} (r : WR K J m ih H w v) (h : view w ih = some (.str x)) : v = .str x := by
  have e := view_dat h (fun _ z => by cases z)
  subst e
  exact r.str'
theorem view_dic {K : PySem.W.Frag} {J : JT} {m : List Addr} {ih : IH} {H : Hp} {w : W} {v : V} {ks : List (D × D)} (r : WR K J m ih H w v) (h : view w ih = some (.dict ks)) : ∃ g kvs, v = .ref g ∧ H g = some (.dK kvs) ∧ DRk K (Own J m ih) H ks kvs := by
  have e := view_dat h (fun _ z => by cases z)
  subst e
  obtain ⟨a, kvs, e, h1, _, h2⟩ := DR.dic' (L := Own J m ih) r
  exact ⟨a, kvs, e, h1, h2⟩

/-! ### slices -/
abbrev AO := En → IH → (Option Int → IH → Prop) → Prop
def RO (F : Fam) (t : TO) (ta : AO) : Prop := ∀ J, F.jk J → ∀ m ih H env σ Qa Q, Sim F.K J m ih H → EnvR F.K J m ih H env σ → ta env ih Qa →
  (∀ m1 ih1 H1 o, Sim F.K J m1 ih1 H1 → Xt m ih H m1 ih1 H1 → Qa o ih1 → Q o H1) → t σ H Q
def OV1 (F : Fam) (e : Option Expr) (ta : AO) : Prop := ∃ t, (∀ X, F.ok X → PO X e t) ∧ RO F t ta
def aNoP : AO := fun _ ih Q => Q none ih
def aSmP (ta : AE) : AO := fun env ih Q => ta env ih fun x ih1 => match x with
  | .d (.int i) => Q (some i) ih1
  | _ => False
theorem ov1_none : OV1 F none aNoP := ⟨_, fun _ _ => po_none, fun J jk m ih H env σ Qa Q S E h f => f m ih H none S Xt.refl h⟩
theorem ov1_some (h : EV F e aa) : OV1 F (some e) (aSmP aa) := by
  obtain ⟨t, p, q⟩ := h
  refine ⟨_, fun X hX => po_some (p X hX), fun J jk m ih H env σ Qa Q S E h f => ?_⟩
  refine q J jk m ih H env σ _ _ S E h fun m1 ih1 H1 w v S1 x1 r1 k1 => ?_
  split at k1
  · exact ⟨_, r1.int', f m1 ih1 H1 _ S1 x1 k1⟩
  · exact k1.elim
/-- a part of a list, of any items -/
def cut {α : Type} (xs : List α) (lo hi : Option Int) : List α := (xs.drop (HT.sIx xs.length 0 lo)).take (HT.sIx xs.length xs.length hi - HT.sIx xs.length 0 lo)
theorem DRs.cut {K : PySem.W.Frag} {L : Addr → Prop} {H : Hp} {ds : List D} {vs : List V} (lo hi : Option Int) (h : DRs K L H ds vs) : DRs K L H (Pz.cut ds lo hi) (cutV vs lo hi) := by
  unfold Pz.cut cutV
  rw [h.len]
  exact (h.drop _).take _
theorem ints_drs {K : PySem.W.Frag} {L : Addr → Prop} {H : Hp} : ∀ ns : List Int, DRs K L H (ns.map PyData.int) (ns.map V.int)
  | [] => DRs.nil
  | n :: ns => DRs.cons DR.int (ints_drs ns)
def xSl : W → Option Int → Option Int → IH → QW → Prop := fun x lo hi ih Q => match x with
  | .d (.tuple xs) => Q (.d (.tuple (cut xs lo hi))) ih
  | .d (.list xs) => Q (.d (.list (cut xs lo hi))) ih
  | .d (.str s) => s.length ≤ sizeLine ∧ Q (.d (.str (cutS s lo hi))) ih
  | .scr ns => Q (.d (.list (cut (ns.map .int) lo hi))) ih
  | .d _ => False
  | .ref n => optW (view (.ref n) ih) fun d => match d with
    | .list xs => Q (.d (.list (cut xs lo hi))) ih
    | _ => False
  | .fn _ _ => False
def aSl (ta : AE) (tl th : AO) : AE := fun env ih Q => ta env ih fun x ih1 => tl env ih1 fun l ih2 => th env ih2 fun u ih3 => xSl x l u ih3 Q
theorem cut_all {ds : List D} {lo hi : Option Int} (h : HT.sIx ds.length 0 lo = 0 ∧ HT.sIx ds.length ds.length hi = ds.length) : cut ds lo hi = ds := by
  unfold cut
  rw [h.1, h.2, List.drop_zero, Nat.sub_zero, List.take_length]
theorem ev_slice {lo hi : Option Expr} {al ah : AO} (h : EV F e aa) (hl : OV1 F lo al) (hu : OV1 F hi ah) : EV F (.Subscript e (.Slice lo hi none p2) pos) (aSl aa al ah) := by
  obtain ⟨t, p, q⟩ := h
  obtain ⟨tl, pl, ql⟩ := hl
  obtain ⟨th, ph, qh⟩ := hu
  refine ⟨tSl (fun x lo hi H Q => rSlA F.K x lo hi H Q ∨ rSlL F.K x lo hi H Q ∨ rSlS x lo hi H Q) t tl th, fun X hX => by rw [← F.hK X hX]; exact pe_slice (sl_tupA.or (sl_list.or sl_str)) (p X hX) (pl X hX) (ph X hX), fun J jk m ih H env σ Qa Q S E hh f => ?_⟩
  refine q J jk m ih H env σ _ _ S E hh fun m1 ih1 H1 w v S1 x1 r1 k1 => ?_
  refine ql J jk m1 ih1 H1 env σ _ _ S1 (E.mono S x1) k1 fun m2 ih2 H2 l S2 x2 k2 => ?_
  refine qh J jk m2 ih2 H2 env σ _ _ S2 (E.mono S (x1.trans x2)) k2 fun m3 ih3 H3 u S3 x3 k3 => ?_
  have r3 := r1.mono S1 (x2.trans x3)
  have f3 := f.step ((x1.trans x2).trans x3)
  unfold xSl at k3
  split at k3
  · obtain ⟨g, vs, rfl, hs, hr⟩ := r3.tup'
    refine .inl ⟨g, vs, rfl, hs, fun hw => ?_, fun hw p hp => f3.tup S3 hp (hr.cut l u) k3⟩
    rw [hr.len] at hw
    rw [cut_all hw] at k3
    exact f3.now (w := .d _) S3 r3 k3
  · obtain ⟨g, vs, rfl, hs, hn, hr⟩ := r3.lst'
    exact .inr (.inl ⟨g, vs, rfl, .of hs, fun p hp => f3.lst S3 hp (hr.cut l u) k3⟩)
  · exact .inr (.inr ⟨_, r3.str', k3.1, f3.now (w := .d _) S3 WR.str k3.2⟩)
  · obtain ⟨g, rfl, hs⟩ := r3
    have hs' : SqL F.K H3 g _ := hs.elim (fun z => .inl z.1) fun z => z H3
    exact .inr (.inl ⟨g, _, rfl, hs', fun p hp => f3.lst S3 hp ((ints_drs _).cut l u) k3⟩)
  · exact k3.elim
  · obtain ⟨d, e1, k3⟩ := optW_some k3
    split at k3
    · obtain ⟨g, vs, rfl, hs, hr⟩ := view_lst S3 r3 e1
      exact .inr (.inl ⟨g, vs, rfl, .of hs, fun p hp => f3.lst S3 hp (hr.cut l u) k3⟩)
    · exact k3.elim
  · exact k3.elim

/-! ### built-ins -/
def xLen : ARC := fun ws ih Q => match ws with
  | [w] => optW (view w ih) fun d => match d with
    | .tuple xs => Q (.d (.int xs.length)) ih
    | .list xs => Q (.d (.int xs.length)) ih
    | .str s => s.length ≤ sizeLine ∧ Q (.d (.int s.length)) ih
    | .dict ks => ks.length ≤ sizeLine ∧ Q (.d (.int ks.length)) ih
    | _ => False
  | _ => False
theorem paired1 {α β : Type} {F : α → β → Prop} {a : α} {vs : List β} (h : Paired F [a] vs) : ∃ v, vs = [v] ∧ F a v := by
  cases h with
  | cons r t => cases t; exact ⟨_, rfl, r⟩
theorem paired2 {α β : Type} {F : α → β → Prop} {a b : α} {vs : List β} (h : Paired F [a, b] vs) : ∃ v w, vs = [v, w] ∧ F a v ∧ F b w := by
  cases h with
  | cons r t =>
    obtain ⟨w, rfl, r2⟩ := paired1 t
    exact ⟨_, w, rfl, r, r2⟩
theorem DRk.len {K : PySem.W.Frag} {L : Addr → Prop} {H : Hp} : ∀ {ds : List (D × D)} {vs : List (Key × V)}, DRk K L H ds vs → vs.length = ds.length
  | [], vs, h => by unfold DRk at h; subst h; rfl
  | (k, d) :: ds, vs, h => by
    unfold DRk at h
    obtain ⟨q, v, r, rfl, _, _, h2⟩ := h
    rw [List.length_cons, List.length_cons, DRk.len h2]
theorem cv_len : CV F (.builtin "len") xLen := by
  refine cvK (fun K xs H Q => (∃ p ys, xs = [.ref p] ∧ (SqL K H p ys ∨ SqT K H p ys) ∧ Q (.int ys.length) H) ∨ (∃ z, xs = [.str z] ∧ z.length ≤ sizeLine ∧ Q (.int z.length) H) ∨ ∃ a kvs, xs = [V.ref a] ∧ H a = some (HO.dK kvs) ∧ Q (.int kvs.length) H) (fun _ _ => call_len_seq.or (call_len_str.or call_lenD)) fun J m ih H ws vs Qa Q S r hh f => ?_
  unfold xLen at hh
  split at hh
  · obtain ⟨v, rfl, r1⟩ := paired1 r
    obtain ⟨d, e, hh⟩ := optW_some hh
    split at hh
    · obtain ⟨g, us, rfl, hs, hr⟩ := view_tup r1 e
      exact .inl ⟨g, us, rfl, .inr hs, by rw [hr.len]; exact f.now (w := .d _) S WR.int hh⟩
    · obtain ⟨g, us, rfl, hs, hr⟩ := view_lst S r1 e
      exact .inl ⟨g, us, rfl, .inl (.of hs), by rw [hr.len]; exact f.now (w := .d _) S WR.int hh⟩
    · have e2 := view_str r1 e
      subst e2
      exact .inr (.inl ⟨_, rfl, hh.1, f.now (w := .d _) S WR.int hh.2⟩)
    · obtain ⟨g, us, rfl, hs, hr⟩ := view_dic r1 e
      refine .inr (.inr ⟨g, us, rfl, hs, ?_⟩)
      rw [hr.len]
      exact f.now (w := .d _) S WR.int hh.2
    · exact hh.elim
  · exact hh.elim
/-- int of an int or a bool -/
def xInt : ARC := fun ws ih Q => match ws with
  | [.d (.int i)] => Q (.d (.int i)) ih
  | [.d (.bool b)] => Q (.d (.int (if b then 1 else 0))) ih
  | _ => False
theorem cv_int : CV F (.type "int") xInt := by
  refine ⟨_, fun _ _ => call_int1, fun J m ih H ws vs Qa Q S r hh f => ?_⟩
  unfold xInt at hh
  split at hh
  · obtain ⟨v, rfl, r1⟩ := paired1 r
    rw [r1.int']
    exact .inl ⟨_, rfl, f.now (w := .d _) S WR.int hh⟩
  · obtain ⟨v, rfl, r1⟩ := paired1 r
    rw [r1.bl']
    exact .inr ⟨_, rfl, f.now (w := .d _) S WR.int hh⟩
  · exact hh.elim
def xAbs : ARC := fun ws ih Q => match ws with
  | [.d (.int i)] => Q (.d (.int (if i < 0 then -i else i))) ih
  | _ => False
theorem cv_abs : CV F (.builtin "abs") xAbs := by
  refine ⟨_, fun _ _ => call_abs, fun J m ih H ws vs Qa Q S r hh f => ?_⟩
  unfold xAbs at hh
  split at hh
  · obtain ⟨v, rfl, r1⟩ := paired1 r
    rw [r1.int']
    exact ⟨_, rfl, f.now (w := .d _) S WR.int hh⟩
  · exact hh.elim
/-- the ints of a list of data -/
def allI : List D → Option (List Int)
  | [] => some []
  | .int i :: r => (allI r).map (i :: ·)
  | _ :: _ => none
theorem allI_eq : ∀ {ds : List D} {ns : List Int}, allI ds = some ns → ds = ns.map PyData.int
  | [], ns, h => by unfold allI at h; cases h; rfl
  | d :: r, ns, h => by
    unfold allI at h
    split at h
    · rename_i e; cases e
    · rename_i i r' e
      cases e
      cases q : allI r with
      | none => rw [q] at h; cases h
      | some es =>
        rw [q] at h
        cases h
        rw [allI_eq q, List.map_cons]
    · cases h
theorem allI_map : ∀ ns : List Int, allI (ns.map PyData.int) = some ns
  | [] => rfl
  | n :: ns => by
    show (allI (ns.map PyData.int)).map (n :: ·) = some (n :: ns)
    rw [allI_map ns] <;> rfl
def allB : List D → Option (List Bool)
  | [] => some []
  | .bool i :: r => (allB r).map (i :: ·)
  | _ :: _ => none
theorem allB_eq : ∀ {ds : List D} {ns : List Bool}, allB ds = some ns → ds = ns.map PyData.bool
  | [], ns, h => by unfold allB at h; cases h; rfl
  | d :: r, ns, h => by
    unfold allB at h
    split at h
    · rename_i e; cases e
    · rename_i i r' e
      cases e
      cases q : allB r with
      | none => rw [q] at h; cases h
      | some es =>
        rw [q] at h
        cases h
        rw [allB_eq q, List.map_cons]
    · cases h
theorem allB_map : ∀ ns : List Bool, allB (ns.map PyData.bool) = some ns
  | [] => rfl
  | n :: ns => by
    show (allB (ns.map PyData.bool)).map (n :: ·) = some (n :: ns)
    rw [allB_map ns] <;> rfl
theorem drs_ints {K : PySem.W.Frag} {L : Addr → Prop} {H : Hp} : ∀ {ns : List Int} {vs : List V}, DRs K L H (ns.map PyData.int) vs → vs = ns.map V.int
  | [], vs, h => by unfold DRs at h; exact h
  | n :: ns, vs, h => by
    rw [List.map_cons] at h
    unfold DRs at h
    obtain ⟨v, r, rfl, h1, h2⟩ := h
    rw [h1.int', drs_ints h2, List.map_cons]
theorem drs_bools {K : PySem.W.Frag} {L : Addr → Prop} {H : Hp} : ∀ {ns : List Bool} {vs : List V}, DRs K L H (ns.map PyData.bool) vs → vs = ns.map V.bl
  | [], vs, h => by unfold DRs at h; exact h
  | n :: ns, vs, h => by
    rw [List.map_cons] at h
    unfold DRs at h
    obtain ⟨v, r, rfl, h1, h2⟩ := h
    rw [h1.bl', drs_bools h2, List.map_cons]
def lstOf : D → Option (List D)
  | .list xs => some xs
  | _ => none
/-- f of a list of ints -/
def xInts (k : List Int → QW → IH → Prop) : ARC := fun ws ih Q => match ws with
  | [w] => optW (view w ih) fun d => optW (lstOf d) fun xs => optW (allI xs) fun ns => k ns Q ih
  | _ => False
theorem xInts_some {k : List Int → QW → IH → Prop} {ws : List W} {ih : IH} {Qa : QW} {K : PySem.W.Frag} {J : JT} {m : List Addr} {H : Hp} {vs : List V} (S : Sim K J m ih H) (r : Paired (WR K J m ih H) ws vs) (h : xInts k ws ih Qa) :
    ∃ g ns, vs = [.ref g] ∧ H g = some (.lst (ns.map V.int)) ∧ k ns Qa ih := by
  unfold xInts at h
  split at h
  · obtain ⟨v, rfl, r1⟩ := paired1 r
    obtain ⟨d, e, h⟩ := optW_some h
    obtain ⟨xs, e2, h⟩ := optW_some h
    obtain ⟨ns, e3, h3⟩ := optW_some h
    unfold lstOf at e2
    split at e2
    · cases e2
      obtain ⟨g, us, rfl, hs, hr⟩ := view_lst S r1 e
      rw [allI_eq e3] at hr
      rw [drs_ints hr] at hs
      exact ⟨g, ns, rfl, hs, h3⟩
    · cases e2
  · exact h.elim
def xSum : ARC := xInts fun ns Q ih => Q (.d (.int ns.sum)) ih
theorem cv_sum : CV F (.builtin "sum") xSum := cvK rSum (fun X hX => cr_sum (F.calm X hX)) fun J m ih H ws vs Qa Q S r hh f => by
  obtain ⟨g, ns, rfl, hs, q⟩ := xInts_some S r hh
  exact ⟨g, ns, rfl, .of hs, f.now (w := .d _) S WR.int q⟩
/-- the greatest, the least: of two, of a list -/
def xMax : ARC := fun ws ih Q => match ws with
  | [.d (.int i), .d (.int j)] => Q (.d (.int (if j > i then j else i))) ih
  | ws => xInts (fun ns Q ih => 0 < ns.length ∧ ∀ k, k ∈ ns → (∀ y, y ∈ ns → y ≤ k) → Q (.d (.int k)) ih) ws ih Q
def xMin : ARC := fun ws ih Q => match ws with
  | [.d (.int i), .d (.int j)] => Q (.d (.int (if j < i then j else i))) ih
  | ws => xInts (fun ns Q ih => 0 < ns.length ∧ ∀ k, k ∈ ns → (∀ y, y ∈ ns → k ≤ y) → Q (.d (.int k)) ih) ws ih Q
theorem cv_max : CV F (.builtin "max") xMax := cvK (fun K xs H Q => (∃ i j, xs = [.int i, .int j] ∧ Q (.int (if j > i then j else i)) H) ∨ rMax K xs H Q) (fun X hX => (call_max2 (F.calm X hX)).or (cr_max (F.calm X hX))) fun J m ih H ws vs Qa Q S r hh f => by
  unfold xMax at hh
  split at hh
  · obtain ⟨v, u, rfl, r1, r2⟩ := paired2 r
    rw [r1.int', r2.int']
    exact .inl ⟨_, _, rfl, f.now (w := .d _) S WR.int hh⟩
  · obtain ⟨g, ns, rfl, hs, n, q⟩ := xInts_some S r hh
    exact .inr ⟨g, ns, rfl, .of hs, n, fun k h1 h2 => f.now (w := .d _) S WR.int (q k h1 h2)⟩
theorem cv_min : CV F (.builtin "min") xMin := cvK (fun K xs H Q => (∃ i j, xs = [.int i, .int j] ∧ Q (.int (if j < i then j else i)) H) ∨ rMin K xs H Q) (fun X hX => (call_min2 (F.calm X hX)).or (cr_min (F.calm X hX))) fun J m ih H ws vs Qa Q S r hh f => by
  unfold xMin at hh
  split at hh
  · obtain ⟨v, u, rfl, r1, r2⟩ := paired2 r
    rw [r1.int', r2.int']
    exact .inl ⟨_, _, rfl, f.now (w := .d _) S WR.int hh⟩
  · obtain ⟨g, ns, rfl, hs, n, q⟩ := xInts_some S r hh
    exact .inr ⟨g, ns, rfl, .of hs, n, fun k h1 h2 => f.now (w := .d _) S WR.int (q k h1 h2)⟩
def xBools (k : List Bool → Bool) : ARC := fun ws ih Q => match ws with
  | [w] => optW (view w ih) fun d => optW (lstOf d) fun xs => optW (allB xs) fun bs => Q (.d (.bool (k bs))) ih
  | _ => False
theorem xBools_some {k : List Bool → Bool} {ws : List W} {ih : IH} {Qa : QW} {K : PySem.W.Frag} {J : JT} {m : List Addr} {H : Hp} {vs : List V} (S : Sim K J m ih H) (r : Paired (WR K J m ih H) ws vs) (h : xBools k ws ih Qa) :
    ∃ g bs, vs = [.ref g] ∧ H g = some (.lst (bs.map V.bl)) ∧ Qa (.d (.bool (k bs))) ih := by
  unfold xBools at h
  split at h
  · obtain ⟨v, rfl, r1⟩ := paired1 r
    obtain ⟨d, e, h⟩ := optW_some h
    obtain ⟨xs, e2, h⟩ := optW_some h
    obtain ⟨ns, e3, h3⟩ := optW_some h
    unfold lstOf at e2
    split at e2
    · cases e2
      obtain ⟨g, us, rfl, hs, hr⟩ := view_lst S r1 e
      rw [allB_eq e3] at hr
      rw [drs_bools hr] at hs
      exact ⟨g, ns, rfl, hs, h3⟩
    · cases e2
  · exact h.elim
theorem cv_all : CV F (.builtin "all") (xBools fun bs => bs.all id) := cvK rAll (fun X hX => cr_all (F.calm X hX)) fun J m ih H ws vs Qa Q S r hh f => by
  obtain ⟨g, ns, rfl, hs, q⟩ := xBools_some S r hh
  exact ⟨g, ns, rfl, .of hs, f.now (w := .d _) S WR.bl q⟩
theorem cv_any : CV F (.builtin "any") (xBools fun bs => bs.any id) := cvK rAny (fun X hX => cr_any (F.calm X hX)) fun J m ih H ws vs Qa Q S r hh f => by
  obtain ⟨g, ns, rfl, hs, q⟩ := xBools_some S r hh
  exact ⟨g, ns, rfl, .of hs, f.now (w := .d _) S WR.bl q⟩
def xTupleOf : ARC := fun ws ih Q => match ws with
  | [w] => optW (view w ih) fun d => match d with
    | .tuple xs => Q (.d (.tuple xs)) ih
    | .list xs => Q (.d (.tuple xs)) ih
    | _ => False
  | _ => False
theorem cv_tuple : CV F (.type "tuple") xTupleOf := by
  refine cvK (fun K xs H Q => ∃ p ys, xs = [V.ref p] ∧ ((SqL K H p ys ∧ ∀ l, H l = none → Q (.ref l) (upd H l (.tup ys))) ∨ (SqT K H p ys ∧ Q (.ref p) H))) (fun _ _ => call_tuple_of) fun J m ih H ws vs Qa Q S r hh f => ?_
  unfold xTupleOf at hh
  split at hh
  · obtain ⟨v, rfl, r1⟩ := paired1 r
    obtain ⟨d, e, hh⟩ := optW_some hh
    split at hh
    · obtain ⟨g, us, rfl, hs, hr⟩ := view_tup r1 e
      exact ⟨g, us, rfl, .inr ⟨hs, f.now (w := .d (.tuple _)) S (show DR _ _ _ _ _ from DR.tup hs hr) hh⟩⟩
    · obtain ⟨g, us, rfl, hs, hr⟩ := view_lst S r1 e
      exact ⟨g, us, rfl, .inl ⟨.of hs, fun p hp => f.tup S hp hr hh⟩⟩
    · exact hh.elim
  · exact hh.elim
def xListOf : ARC := fun ws ih Q => match ws with
  | [w] => optW (view w ih) fun d => match d with
    | .tuple xs => Q (.d (.list xs)) ih
    | .list xs => Q (.d (.list xs)) ih
    | _ => False
  | _ => False
theorem cv_list : CV F (.type "list") xListOf := by
  refine cvK (fun K xs H Q => ∃ p ys, xs = [V.ref p] ∧ (SqL K H p ys ∨ SqT K H p ys) ∧ ∀ l, H l = none → Q (.ref l) (upd H l (.lst ys))) (fun _ _ => call_list_of) fun J m ih H ws vs Qa Q S r hh f => ?_
  unfold xListOf at hh
  split at hh
  · obtain ⟨v, rfl, r1⟩ := paired1 r
    obtain ⟨d, e, hh⟩ := optW_some hh
    split at hh
    · obtain ⟨g, us, rfl, hs, hr⟩ := view_tup r1 e
      exact ⟨g, us, rfl, .inr hs, fun p hp => f.lst S hp hr hh⟩
    · obtain ⟨g, us, rfl, hs, hr⟩ := view_lst S r1 e
      exact ⟨g, us, rfl, .inl (.of hs), fun p hp => f.lst S hp hr hh⟩
    · exact hh.elim
  · exact hh.elim
/-- list(..), to be changed -/
def xListOfM : ARC := fun ws ih Q => match ws with
  | [w] => optW (view w ih) fun d => match d with
    | .tuple xs => Q (.ref ih.length) (ih ++ [.lst (xs.map .d)])
    | .list xs => Q (.ref ih.length) (ih ++ [.lst (xs.map .d)])
    | _ => False
  | _ => False
theorem Fu.lstM {K : PySem.W.Frag} {J : JT} {m : List Addr} {ih : IH} {H : Hp} {Qa : QW} {Q : VK} {p : Addr} {ws : List D} {vs : List V} (f : Fu K J m ih H Qa Q) (S : Sim K J m ih H) (hp : H p = none) (d : Paired (WR K J m ih H) (ws.map .d) vs)
    (q : Qa (.ref ih.length) (ih ++ [.lst (ws.map .d)])) : Q (.ref p) (upd H p (.lst vs)) := by
  have y : Xt m ih H (m ++ [p]) (ih ++ [.lst (ws.map .d)]) (upd H p (.lst vs)) := Xt.add S hp
  exact f _ _ _ _ _ (S.add (u := .lst (ws.map .d)) hp ⟨vs, upd_same, paired_wo (by intro w hw; obtain ⟨x, _, rfl⟩ := List.mem_map.mp hw; rfl) (paired_mono S y d)⟩) y (ref_last S) q
theorem cv_listM : CV F (.type "list") xListOfM := by
  refine cvK (fun K xs H Q => ∃ p ys, xs = [V.ref p] ∧ (SqL K H p ys ∨ SqT K H p ys) ∧ ∀ l, H l = none → Q (.ref l) (upd H l (.lst ys))) (fun _ _ => call_list_of) fun J m ih H ws vs Qa Q S r hh f => ?_
  unfold xListOfM at hh
  split at hh
  · obtain ⟨v, rfl, r1⟩ := paired1 r
    obtain ⟨d, e, hh⟩ := optW_some hh
    split at hh
    · obtain ⟨g, us, rfl, hs, hr⟩ := view_tup r1 e
      exact ⟨g, us, rfl, .inr hs, fun p hp => f.lstM S hp (of_drs hr) hh⟩
    · obtain ⟨g, us, rfl, hs, hr⟩ := view_lst S r1 e
      exact ⟨g, us, rfl, .inl (.of hs), fun p hp => f.lstM S hp (of_drs hr) hh⟩
    · exact hh.elim
  · exact hh.elim
def xGcd : ARC := fun ws ih Q => match ws with
  | [.d (.int i), .d (.int j)] => Q (.d (.int ((Nat.gcd i.natAbs j.natAbs : Nat) : Int))) ih
  | _ => False
theorem cv_gcd : CV F (.builtin "math.gcd") xGcd := by
  refine ⟨_, fun _ _ => cr_gcd, fun J m ih H ws vs Qa Q S r hh f => ?_⟩
  unfold xGcd at hh
  split at hh
  · obtain ⟨v, u, rfl, r1, r2⟩ := paired2 r
    rw [r1.int', r2.int']
    exact ⟨_, _, rfl, f.now (w := .d _) S WR.int hh⟩
  · exact hh.elim
/-- repr of data that hold no dict -/
def xRepr : ARC := fun ws ih Q => match ws with
  | [w] => optW (view w ih) fun d => d.hasDict = false ∧ d.showable = true ∧ d.depth ≤ 60 ∧ d.shown.length ≤ sizeLine ∧ Q (.d (.str d.shown)) ih
  | _ => False
end
end Pz

end
section
set_option Elab.async false
set_option linter.all false
set_option maxRecDepth 100000
set_option autoImplicit false
/-! Fw6: isinstance, repr. -/
namespace Pz
open PySem PySem.Spec L2 LamX

inductive Ty6 where
  | int | bool | str | tuple | list | dict
def Ty6.nm : Ty6 → String
  | .int => "int" | .bool => "bool" | .str => "str" | .tuple => "tuple" | .list => "list" | .dict => "dict"
def tyN : D → String
  | .none => "NoneType" | .bool _ => "bool" | .int _ => "int" | .str _ => "str" | .list _ => "list" | .tuple _ => "tuple" | .dict _ => "dict"
def isT : Ty6 → D → Bool
  | .int, .int _ => true
  | .int, .bool _ => true
  | .bool, .bool _ => true
  | .str, .str _ => true
  | .tuple, .tuple _ => true
  | .list, .list _ => true
  | .dict, .dict _ => true
  | _, _ => false
inductive Ct where
  | none | bool | int | str | list | tuple | dict
def ctOf : D → Ct
  | .none => .none | .bool _ => .bool | .int _ => .int | .str _ => .str | .list _ => .list | .tuple _ => .tuple | .dict _ => .dict
def Ct.nm : Ct → String
  | .none => "NoneType" | .bool => "bool" | .int => "int" | .str => "str" | .list => "list" | .tuple => "tuple" | .dict => "dict"
def isC : Ty6 → Ct → Bool
  | .int, .int => true
  | .int, .bool => true
  | .bool, .bool => true
  | .str, .str => true
  | .tuple, .tuple => true
  | .list, .list => true
  | .dict, .dict => true
  | _, _ => false
theorem isC_kit (T : Ty6) (c : Ct) : kitB c.nm T.nm = some (isC T c) := by
  cases T <;> cases c <;> decide +kernel
theorem isT_kit (T : Ty6) (d : D) : kitB (tyN d) T.nm = some (isT T d) := by
  have h := isC_kit T (ctOf d)
  have e1 : (ctOf d).nm = tyN d := by cases d <;> rfl
  have e2 : isC T (ctOf d) = isT T d := by cases T <;> cases d <;> rfl
  rw [e1, e2] at h
  exact h
section
variable {F : Fam} {pos p : Pos} {e : Expr} {aa : AE}
theorem tyx_of {K : PySem.W.Frag} {L : Addr → Prop} {H : Hp} {d : D} {v : V} (h : DR K L H d v) : TyX K H v (.type (tyN d)) := by
  cases d with
  | none => rw [h.non']; exact .base .non
  | bool b => rw [h.bl']; exact .base (.bl b)
  | int i => rw [h.int']; exact .base (.int i)
  | str s => rw [h.str']; exact .base (.str s)
  | list xs => obtain ⟨a, vs, rfl, hs, _⟩ := h.lst'; exact .base (.lst hs)
  | dict ks => obtain ⟨a, vs, rfl, hs, _⟩ := h.dic'; exact .base (.dK hs)
  | tuple xs =>
    obtain ⟨a, vs, rfl, hs, _⟩ := h.tup'
    rcases hs with (hs | ⟨o, hs⟩) | ⟨o, its, n, k, c, _⟩
    · exact .base (.tup hs)
    · exact .fTuple hs
    · exact .kTuple k c
def aIsi (T : D → Bool) (ta : AE) : AE := fun env ih Q => ta env ih fun x ih1 => optW (view x ih1) fun d => Q (.d (.bool (T d))) ih1
theorem view_tyx {K : PySem.W.Frag} {J : JT} {m : List Addr} {ih : IH} {H : Hp} {w : W} {v : V} {d : D} (S : Sim K J m ih H) (r : WR K J m ih H w v) (h : view w ih = some d) : TyX K H v (.type (tyN d)) := by
  cases w with
  | d y => cases h; exact tyx_of (L := Own J m ih) r
  | scr _ => cases h
  | fn _ _ => cases h
  | ref n =>
    obtain ⟨ds, e⟩ := view_ref h
    subst e
    obtain ⟨g, vs, rfl, hs, _⟩ := view_lst S r h
    exact .base (.lst hs)
theorem ev_isi (T : Ty6) {x : Str} {p2 : Pos} (h : EV F e aa) (hg : Glb F "isinstance") (hm : F.mg "isinstance" = none) (hgT : Glb F x) (hmT : F.mg x = none) (hv : bootBuiltins x = some (.type T.nm)) (hb : bootBuiltins "isinstance" = some (.builtin "isinstance"))
    (hse : ∀ env es, starEach (e :: es) env = (false, eval e env) :: starEach es env := by intro _ _; rfl) (hn : x ≠ "__name__" := by decide) (hd : (x == ("__debug__" : Str)) = false := by decide) : EV F (.Call (.Name "isinstance" p) [e, .Name x p2] [] pos) (aIsi (isT T) aa) := by
  obtain ⟨t, q, r⟩ := h
  refine ⟨tCB (rIsi F.K) (tCons t (tCons (tC (.ty T.nm)) tNil)), fun X hX => ?_, fun J jk m ih H env σ Qa Q S E hh f => ?_⟩
  · rw [← F.hK X hX]
    exact pe_callB call_isi (Fam.gl hX hg) (by rw [F.hmg X hX]; exact hm) hb (pa_cons (q X hX) (pa_cons (pe_bltn (Fam.gl hX hgT) (by rw [F.hmg X hX]; exact hmT) hv (show RelV (.ty T.nm) (.type T.nm) from rfl) hn hd) pa_nil) (hse _ _)) (he := hse _ _)
  · refine r J jk m ih H env σ _ _ S E hh fun m1 ih1 H1 w v S1 x1 r1 k1 => ?_
    obtain ⟨d, e1, k1⟩ := optW_some k1
    exact ⟨v, .ty T.nm, .type (tyN d), .type T.nm, isT T d, rfl, .ty _, view_tyx S1 r1 e1, kit_ty (isT_kit T d), f m1 ih1 H1 (.d (.bool (isT T d))) _ S1 x1 WR.bl k1⟩
theorem kit_two (T U : Ty6) (d : D) {K : PySem.W.Frag} : PySem.W.kitAny K (.type (tyN d)) [.type T.nm, .type U.nm] = some (isT T d || isT U d) := by
  refine kitAny_cons (b := isT T d) (kit_ty (isT_kit T d)) (fun h => ?_) fun h => by rw [h]; rfl
  rw [h, Bool.false_or]
  exact kitAny_cons (b := isT U d) (kit_ty (isT_kit U d)) (fun h => by rw [h]; exact kitAny_nil) fun h => h
theorem ev_isi2 (T U : Ty6) {x y : Str} {p2 p3 p4 : Pos} {k4} (h : EV F e aa) (hg : Glb F "isinstance") (hm : F.mg "isinstance" = none) (hgT : Glb F x) (hmT : F.mg x = none) (hv : bootBuiltins x = some (.type T.nm)) (hgU : Glb F y) (hmU : F.mg y = none) (hvU : bootBuiltins y = some (.type U.nm))
    (hb : bootBuiltins "isinstance" = some (.builtin "isinstance")) (hn : x ≠ "__name__" := by decide) (hd : (x == ("__debug__" : Str)) = false := by decide) (hn2 : y ≠ "__name__" := by decide) (hd2 : (y == ("__debug__" : Str)) = false := by decide)
    (hse : ∀ env es, starEach (e :: es) env = (false, eval e env) :: starEach es env := by intro _ _; rfl) : EV F (.Call (.Name "isinstance" p) [e, .Tuple [.Name x p2, .Name y p3] k4 p4] [] pos) (aIsi (fun d => isT T d || isT U d) aa) := by
  obtain ⟨t, q, r⟩ := h
  refine ⟨tCB (rIsiT F.K) (tCons t (tCons (tTup (tCons (tC (.ty T.nm)) (tCons (tC (.ty U.nm)) tNil))) tNil)), fun X hX => ?_, fun J jk m ih H env σ Qa Q S E hh f => ?_⟩
  · rw [← F.hK X hX]
    exact pe_callB call_isiT (Fam.gl hX hg) (by rw [F.hmg X hX]; exact hm) hb (pa_cons (q X hX) (pa_cons (pe_tup (pa_cons (pe_bltn (Fam.gl hX hgT) (by rw [F.hmg X hX]; exact hmT) hv (show RelV (.ty T.nm) (.type T.nm) from rfl) hn hd)
      (pa_cons (pe_bltn (Fam.gl hX hgU) (by rw [F.hmg X hX]; exact hmU) hvU (show RelV (.ty U.nm) (.type U.nm) from rfl) hn2 hd2) pa_nil))) pa_nil) (hse _ _)) (he := hse _ _)
  · refine r J jk m ih H env σ _ _ S E hh fun m1 ih1 H1 w v S1 x1 r1 k1 => ?_
    obtain ⟨d, e1, k1⟩ := optW_some k1
    refine ⟨by show 2 ≤ sizeLine; decide, fun tp hp => ?_⟩
    have r2 := r1.mono S1 (Xt.new (o := .tup [V.ty T.nm, V.ty U.nm]) S1 hp)
    exact ⟨v, tp, _, .type (tyN d), [.type T.nm, .type U.nm], _, rfl, upd_same, .cons (.ty _) (.cons (.ty _) .nil), view_tyx (S1.new hp) r2 e1, kit_two T U d, f m1 ih1 _ (.d (.bool _)) _ (S1.new hp) (x1.trans (Xt.new S1 hp)) WR.bl k1⟩

/-! ### repr -/
def rRepr (K : PySem.W.Frag) : List V → Hp → VK → Prop := fun xs H Q => ∃ v d, xs = [v] ∧ Dp K H v d ∧ seqOf d = true ∧ d.hasDict = false ∧ d.showable = true ∧ d.depth ≤ 60 ∧ d.shown.length ≤ sizeLine ∧ Q (.str d.shown) H
theorem call_reprD {X : Cx} (hg : X.A.guards = some []) (hu : X.A.units + 200 < cLine) : CallR X (.builtin "repr") (rRepr X.K) := by
  intro pins s σ H xs us Q I r h
  obtain ⟨v, d, rfl, hd, hs, hn, hsh, hdp, hz, q⟩ := h
  obtain ⟨u, rfl, r1⟩ := vals1 r
  obtain ⟨as, rd⟩ := Dp.reads I d v u hd r1
  have go : ∀ a, u = .ref a → wpAny (model X.prog X.w) X.A (call (.builtin "repr") [u]) (EP X pins σ Q) X.xe s := fun a e => by
    subst e
    exact repr_of_reads' rd hsh (fun z => by rw [hn] at z; cases z) hg (by omega) (fun _ _ e => e) (fun h' t tk hk => ⟨.str d.shown, H, I.kept (t' := tk) hk, ⟨t, rfl⟩, q⟩) hz
  cases d with
  | tuple ds => cases hd; exact go _ r1
  | list ds => cases hd; exact go _ r1
  | none => cases hs
  | bool _ => cases hs
  | int _ => cases hs
  | str _ => cases hs
  | dict _ => cases hs
end
end Pz
namespace Pz
open PySem PySem.Spec L2 LamX
section
variable {F : Fam}
theorem cv_repr : CV F (.builtin "repr") (fun ws ih Q => match ws with
    | [w] => optW (view w ih) fun d => seqOf d = true ∧ d.hasDict = false ∧ d.showable = true ∧ d.depth ≤ 60 ∧ d.shown.length ≤ sizeLine ∧ Q (.d (.str d.shown)) ih
    | _ => False) := by
  refine cvK rRepr (fun X hX => call_reprD (F.grd X hX) (Fam.hu hX)) fun J m ih H ws vs Qa Q S r hh f => ?_
  split at hh
  · obtain ⟨v, rfl, r1⟩ := paired1 r
    obtain ⟨d, e, h1, h2, h3, h4, h5, q⟩ := optW_some hh
    exact ⟨v, d, rfl, view_dp S r1 e h2, h1, h2, h3, h4, h5, f.now (w := .d _) S WR.str q⟩
  · exact hh.elim
end
end Pz

end
section
set_option Elab.async false
set_option linter.all false
set_option maxRecDepth 100000
set_option autoImplicit false
/-! Fw7: statements, targets, loops, comprehensions. -/
namespace Pz
open PySem PySem.Spec L2 LamX

structure AEnds where
  nx : En → IH → Prop
  rt : QW
  bk : En → IH → Prop := fun _ _ => False
  ct : En → IH → Prop := fun _ _ => False
abbrev AS := AEnds → En → IH → Prop
abbrev AG := W → En → IH → (En → IH → Prop) → Prop
abbrev AGs := List W → En → IH → (En → IH → Prop) → Prop
abbrev AI := En → IH → (List D → IH → Prop) → Prop

section
variable (K : PySem.W.Frag) (J : JT) (m : List Addr) (ih : IH) (H : Hp)
def FuS (Qa : En → IH → Prop) (Q : L2.St → Hp → Prop) : Prop := ∀ m1 ih1 H1 env σ, Sim K J m1 ih1 H1 → Xt m ih H m1 ih1 H1 → EnvR K J m1 ih1 H1 env σ → Qa env ih1 → Q σ H1
structure Fd (Da : AEnds) (D : Ends) : Prop where
  nx : FuS K J m ih H Da.nx D.nx
  rt : Fu K J m ih H Da.rt D.rt
  bk : FuS K J m ih H Da.bk D.bk
  ct : FuS K J m ih H Da.ct D.ct
end
def RS (F : Fam) (t : TS) (ta : AS) : Prop := ∀ J, F.jk J → ∀ m ih H env σ Da D, Sim F.K J m ih H → EnvR F.K J m ih H env σ → ta Da env ih → Fd F.K J m ih H Da D → t D σ H
def RG (F : Fam) (g : TG) (ga : AG) : Prop := ∀ J, F.jk J → ∀ m ih H env σ w v Qa Q, Sim F.K J m ih H → EnvR F.K J m ih H env σ → WR F.K J m ih H w v → ga w env ih Qa → FuS F.K J m ih H Qa Q → g v σ H Q
def RGs (F : Fam) (g : TGs) (ga : AGs) : Prop := ∀ J, F.jk J → ∀ m ih H env σ ws vs Qa Q, Sim F.K J m ih H → EnvR F.K J m ih H env σ → Paired (WR F.K J m ih H) ws vs → ga ws env ih Qa → FuS F.K J m ih H Qa Q → g vs σ H Q
def SV (F : Fam) (st : Stmt) (ta : AS) : Prop := ∃ t, (∀ X, F.ok X → PS X st t) ∧ RS F t ta
def BV (F : Fam) (st : List Stmt) (ta : AS) : Prop := ∃ t, (∀ X, F.ok X → PSs X st t) ∧ RS F t ta
/-- a target changes the slots vs alone -/
def OnlyG (vs : List Nat) (g : TG) : Prop := ∀ v σ H (Q Q' : L2.St → Hp → Prop), g v σ H Q → (∀ σ2 H2, wipe σ2 vs = wipe σ vs → Q σ2 H2 → Q' σ2 H2) → g v σ H Q'
def OnlyGs (vs : List Nat) (g : TGs) : Prop := ∀ v σ H (Q Q' : L2.St → Hp → Prop), g v σ H Q → (∀ σ2 H2, wipe σ2 vs = wipe σ vs → Q σ2 H2 → Q' σ2 H2) → g v σ H Q'
def GV (F : Fam) (tg : Expr) (ga : AG) : Prop := ∃ g, (∀ X, F.ok X → PG X tg g) ∧ RG F g ga
def GW (F : Fam) (vs : List Nat) (tg : Expr) (ga : AG) : Prop := ∃ g, (∀ X, F.ok X → PG X tg g) ∧ RG F g ga ∧ OnlyG vs g
def GWs (F : Fam) (vs : List Nat) (tg : List Expr) (ga : AGs) : Prop := ∃ g, (∀ X, F.ok X → PGs X tg g) ∧ RGs F g ga ∧ OnlyGs vs g

section
variable {K : PySem.W.Frag} {J : JT} {m m1 : List Addr} {ih ih1 : IH} {H H1 : Hp}
theorem FuS.step {Qa : En → IH → Prop} {Q : L2.St → Hp → Prop} (x : Xt m ih H m1 ih1 H1) (f : FuS K J m ih H Qa Q) : FuS K J m1 ih1 H1 Qa Q := fun _ _ _ _ _ S y e q => f _ _ _ _ _ S (x.trans y) e q
theorem Fd.step {Da : AEnds} {D : Ends} (x : Xt m ih H m1 ih1 H1) (f : Fd K J m ih H Da D) : Fd K J m1 ih1 H1 Da D := ⟨f.nx.step x, f.rt.step x, f.bk.step x, f.ct.step x⟩
end

section
variable {F : Fam} {pos : Pos} {e : Expr} {st : Stmt} {rest : List Stmt} {aa : AE} {ta tb : AS}
/-! ### blocks -/
def aNx : AS := fun D env ih => D.nx env ih
def aSeq (t u : AS) : AS := fun D env ih => t { D with nx := u D } env ih
theorem bv_nil : BV F [] aNx := ⟨_, fun _ _ => pss_nil, fun J jk m ih H env σ Da D S E h f => f.nx m ih H env σ S Xt.refl E h⟩
theorem bv_cons (h1 : SV F st ta) (h2 : BV F rest tb) : BV F (st :: rest) (aSeq ta tb) := by
  obtain ⟨t, p, q⟩ := h1
  obtain ⟨u, p2, q2⟩ := h2
  refine ⟨_, fun X hX => pss_cons (p X hX) (p2 X hX), fun J jk m ih H env σ Da D S E h f => ?_⟩
  refine q J jk m ih H env σ _ _ S E h ⟨fun m1 ih1 H1 env1 σ1 S1 x1 E1 k1 => ?_, f.rt, f.bk, f.ct⟩
  exact q2 J jk m1 ih1 H1 env1 σ1 Da D S1 E1 k1 (f.step x1)
theorem bv_one (h : SV F st ta) : BV F [st] ta := let ⟨_, p, q⟩ := h; ⟨_, fun X hX => pss_one (p X hX), q⟩
def aBk : AS := fun D env ih => D.bk env ih
def aCt : AS := fun D env ih => D.ct env ih
theorem sv_pass : SV F (.Pass pos) aNx := ⟨_, fun _ _ => ps_pass, fun J jk m ih H env σ Da D S E h f => f.nx m ih H env σ S Xt.refl E h⟩
theorem sv_break : SV F (.Break pos) aBk := ⟨_, fun _ _ => ps_break, fun J jk m ih H env σ Da D S E h f => f.bk m ih H env σ S Xt.refl E h⟩
theorem sv_cont : SV F (.Continue pos) aCt := ⟨_, fun _ _ => ps_continue, fun J jk m ih H env σ Da D S E h f => f.ct m ih H env σ S Xt.refl E h⟩
def aDrop (t : AE) : AS := fun D env ih => t env ih fun _ ih1 => D.nx env ih1
theorem sv_expr (h : EV F e aa) (hs : ∀ env, swapsWith e none pos.line env = pure false := by intro _; rfl) : SV F (.Expr e pos) (aDrop aa) := by
  obtain ⟨t, p, q⟩ := h
  refine ⟨_, fun X hX => ps_expr (p X hX) (hs _), fun J jk m ih H env σ Da D S E h f => ?_⟩
  exact q J jk m ih H env σ _ _ S E h fun m1 ih1 H1 w v S1 x1 r1 k1 => f.nx m1 ih1 H1 env σ S1 x1 (E.mono S x1) k1
def aRet (t : AE) : AS := fun D env ih => t env ih D.rt
theorem sv_ret (h : EV F e aa) : SV F (.Return (some e) pos) (aRet aa) := by
  obtain ⟨t, p, q⟩ := h
  exact ⟨_, fun X hX => ps_ret (p X hX), fun J jk m ih H env σ Da D S E h f => q J jk m ih H env σ _ _ S E h f.rt⟩
def aRetN : AS := fun D env ih => D.rt (.d .none) ih
theorem sv_retN : SV F (.Return none pos) aRetN := ⟨_, fun _ _ => ps_retN, fun J jk m ih H env σ Da D S E h f => f.rt.now (w := .d .none) S WR.non h⟩
def aIfS (c : AT) (t u : AS) : AS := fun D env ih => c env ih fun b ih1 => if b = true then t D env ih1 else u D env ih1
theorem sv_if {c : Expr} {a b : List Stmt} {ac : AT} (hc : TV F c ac) (ha : BV F a ta) (hb : BV F b tb) : SV F (.If c a b pos) (aIfS ac ta tb) := by
  obtain ⟨t0, p0, q0⟩ := hc
  obtain ⟨t1, p1, q1⟩ := ha
  obtain ⟨t2, p2, q2⟩ := hb
  refine ⟨_, fun X hX => ps_if (p0 X hX) (p1 X hX) (p2 X hX), fun J jk m ih H env σ Da D S E h f => ?_⟩
  refine q0 J jk m ih H env σ _ _ S E h fun m1 ih1 H1 k S1 x1 k1 => ?_
  cases k with
  | true =>
    rw [if_pos rfl] at k1 ⊢
    exact q1 J jk m1 ih1 H1 env σ Da D S1 (E.mono S x1) k1 (f.step x1)
  | false =>
    rw [if_neg Bool.false_ne_true] at k1 ⊢
    exact q2 J jk m1 ih1 H1 env σ Da D S1 (E.mono S x1) k1 (f.step x1)
def aNever : AS := fun _ _ _ => False
theorem sv_never : SV F st aNever := ⟨_, fun _ _ => ps_never, fun J jk m ih H env σ Da D S E h f => h.elim⟩
theorem bv_never {sts : List Stmt} : BV F sts aNever := ⟨_, fun _ _ => pss_never, fun J jk m ih H env σ Da D S E h f => h.elim⟩

/-! ### targets -/
theorem wipe_set {σ : L2.St} {i : Nat} {v : Option V} : ∀ {vs : List Nat}, i ∈ vs → wipe (σ.set i v) vs = wipe σ vs
  | [], h => by cases h
  | j :: vs, h => by
    by_cases hj : i = j
    · subst hj
      by_cases hm : i ∈ vs
      · unfold wipe
        rw [wipe_set hm]
      · have e : ∀ (us : List Nat), i ∉ us → wipe (σ.set i v) us = (wipe σ us).set i v := fun us => by
          induction us with
          | nil => intro _; rfl
          | cons k us ih =>
            intro hn
            have h1 : i ≠ k := fun z => hn (by simp [z])
            have h2 : i ∉ us := fun z => hn (List.mem_cons_of_mem _ z)
            unfold wipe
            rw [ih h2, List.set_comm _ _ h1]
        unfold wipe
        rw [e vs hm, List.set_set]
    · have hm : i ∈ vs := (List.mem_cons.mp h).elim (fun z => absurd z hj) fun z => z
      unfold wipe
      rw [wipe_set hm]
theorem wipe_wipe (σ : L2.St) (vs : List Nat) : wipe (wipe σ vs) vs = wipe σ vs := by
  have gen : ∀ us : List Nat, (∀ i ∈ us, i ∈ vs) → wipe (wipe σ us) vs = wipe σ vs := fun us => by
    induction us with
    | nil => intro _; rfl
    | cons k us ih =>
      intro hs
      show wipe ((wipe σ us).set k none) vs = _
      rw [wipe_set (hs k (by simp)), ih fun i hi => hs i (List.mem_cons_of_mem _ hi)]
  exact gen vs fun _ h => h
def aGN (i : Nat) : AG := fun w env ih Q => Q (env.set i (some w)) ih
theorem gw_name (i : Nat) {vs : List Nat} {x : Str} (hi : F.N[i]? = some x := by rfl) (hx : F.sc.names.lookup x = some .local := by rfl) (hv : i ∈ vs := by decide) : GW F vs (.Name x pos) (aGN i) := by
  refine ⟨gName i, fun X hX => pg_name (by rw [F.hN X hX]; exact F.nd) (by rw [F.hN X hX]; exact hi) (.inl (by rw [F.hsc X hX]; exact hx)) (.inr (by rw [F.hsc X hX]; exact hx)), fun J jk m ih H env σ w v Qa Q S E r h f => ?_, fun v σ H Q Q' h k => k _ _ (wipe_set hv) h⟩
  exact f m ih H _ _ S Xt.refl (E.set r) h
/-- a name that a block within captures -/
theorem gv_nameC (i : Nat) {x : Str} (hi : F.N[i]? = some x := by rfl) (hx : F.sc.names.lookup x = some .cell := by rfl) (hf : ∀ X, F.ok X → X.fn x = true) : GV F (.Name x pos) (aGN i) := by
  refine ⟨gName i, fun X hX => pg_name (by rw [F.hN X hX]; exact F.nd) (by rw [F.hN X hX]; exact hi) (.inr (by rw [F.hsc X hX]; exact hx)) (.inl (hf X hX)), fun J jk m ih H env σ w v Qa Q S E r h f => ?_⟩
  exact f m ih H _ _ S Xt.refl (E.set r) h
theorem gv_name (i : Nat) {x : Str} (hi : F.N[i]? = some x := by rfl) (hx : F.sc.names.lookup x = some .local := by rfl) : GV F (.Name x pos) (aGN i) := by
  obtain ⟨g, p, q, _⟩ := gw_name (F := F) (pos := pos) (vs := [i]) i hi hx (by simp)
  exact ⟨g, p, q⟩
theorem GW.gv {vs : List Nat} {tg : Expr} {ga : AG} (h : GW F vs tg ga) : GV F tg ga := let ⟨g, p, q, _⟩ := h; ⟨g, p, q⟩
def aGnil : AGs := fun ws env ih Q => ws = [] ∧ Q env ih
def aGcons (t : AG) (u : AGs) : AGs := fun ws env ih Q => match ws with
  | w :: r => t w env ih fun env1 ih1 => u r env1 ih1 Q
  | [] => False
theorem gws_nil {vs : List Nat} : GWs F vs [] aGnil := by
  refine ⟨gNil, fun X hX => pgs_nil, fun J jk m ih H env σ ws vs Qa Q S E r h f => ?_, fun v σ H Q Q' h k => ⟨h.1, k _ _ rfl h.2⟩⟩
  obtain ⟨rfl, h⟩ := h
  cases r
  exact ⟨rfl, f m ih H env σ S Xt.refl E h⟩
theorem gws_cons {vs : List Nat} {es : List Expr} {t : AG} {u : AGs} (h1 : GW F vs e t) (h2 : GWs F vs es u)
    (hs : ∀ env, (assignEach (e :: es) env).map (·.2) = assign e env :: (assignEach es env).map (·.2) := by intro _; rfl) : GWs F vs (e :: es) (aGcons t u) := by
  obtain ⟨g, p, q, o⟩ := h1
  obtain ⟨g2, p2, q2, o2⟩ := h2
  refine ⟨gCons g g2, fun X hX => pgs_cons (p X hX) (p2 X hX) (hs _), fun J jk m ih H env σ ws vs Qa Q S E r h f => ?_, fun v σ H Q Q' h k => ?_⟩
  · unfold aGcons at h
    split at h
    · cases r with
      | cons r1 r2 =>
        refine ⟨_, _, rfl, q J jk m ih H env σ _ _ _ _ S E r1 h fun m1 ih1 H1 env1 σ1 S1 x1 E1 k1 => ?_⟩
        exact q2 J jk m1 ih1 H1 env1 σ1 _ _ Qa Q S1 E1 (paired_mono S x1 r2) k1 (f.step x1)
    · exact h.elim
  · obtain ⟨a, r, rfl, h⟩ := h
    exact ⟨a, r, rfl, o a σ H _ _ h fun σ1 H1 e1 h1 => o2 r σ1 H1 _ _ h1 fun σ2 H2 e2 q => k σ2 H2 (e2.trans e1) q⟩
/-- (a, b, ..): a tuple of that many data -/
def aGtup (n : Nat) (t : AGs) : AG := fun w env ih Q => match w with
  | .d (.tuple xs) => xs.length = n ∧ t (xs.map .d) env ih Q
  | _ => False
theorem gw_tup {vs : List Nat} {es : List Expr} {k : Nat} {t : AGs} {n : Nat} (h : GWs F vs es t) (hn : ∀ env, (assignEach es env).length = n := by intro _; rfl) (hst : ∀ env, (assignEach es env).findIdx? (·.1) = none := by intro _; rfl) : GW F vs (.Tuple es k pos) (aGtup n t) := by
  obtain ⟨g, p, q, o⟩ := h
  refine ⟨gTup F.K n g, fun X hX => by rw [← F.hK X hX]; exact pg_tup (F.calm X hX) (p X hX) (hn _) (hst _), fun J jk m ih H env σ w v Qa Q S E r h f => ?_, fun v σ H Q Q' h k => ?_⟩
  · unfold aGtup at h
    split at h
    · obtain ⟨a, us, rfl, hs, hr⟩ := r.tup'
      exact ⟨a, us, rfl, hs, by rw [hr.len]; exact h.1, q J jk m ih H env σ _ _ Qa Q S E (of_drs hr) h.2 f⟩
    · exact h.elim
  · obtain ⟨a, us, e, hs, hl, h⟩ := h
    exact ⟨a, us, e, hs, hl, o us σ H _ _ h k⟩

/-! ### assignments -/
def aAsg (t : AE) (g : AG) : AS := fun D env ih => t env ih fun x ih1 => g x env ih1 D.nx
theorem sv_asg {tg : Expr} {ga : AG} (h1 : EV F e aa) (h2 : GV F tg ga) (hs : ∀ env, swapsWithSole [tg] e pos.line env = pure false := by intro _; rfl) (hw : ∀ env, swappedStores [tg] e env = pure none := by intro _; rfl)
    (h3 : ∀ env, (assignEach [tg] env).map (·.2) = [assign tg env] := by intro _; rfl) : SV F (.Assign [tg] e pos) (aAsg aa ga) := by
  obtain ⟨t, p, q⟩ := h1
  obtain ⟨g, p2, q2⟩ := h2
  refine ⟨_, fun X hX => ps_asg (p X hX) (p2 X hX) (hs _) (hw _) (h3 _), fun J jk m ih H env σ Da D S E h f => ?_⟩
  refine q J jk m ih H env σ _ _ S E h fun m1 ih1 H1 w v S1 x1 r1 k1 => ?_
  exact q2 J jk m1 ih1 H1 env σ w v _ _ S1 (E.mono S x1) r1 k1 (f.nx.step x1)
theorem sv_set (i : Nat) {x : Str} {p' : Pos} (h1 : EV F e aa) (hi : F.N[i]? = some x := by rfl) (hx : F.sc.names.lookup x = some .local := by rfl) (hs : ∀ env, swapsWith e (some (.Name x p')) pos.line env = pure false := by intro _; rfl) :
    SV F (.Assign [.Name x p'] e pos) (aAsg aa (aGN i)) := by
  obtain ⟨t, p, q⟩ := h1
  refine ⟨tAsg t (gName i), fun X hX => ps_set (by rw [F.hN X hX]; exact F.nd) (by rw [F.hN X hX]; exact hi) (.inl (by rw [F.hsc X hX]; exact hx)) (p X hX) (hs _) (.inr (by rw [F.hsc X hX]; exact hx)), fun J jk m ih H env σ Da D S E h f => ?_⟩
  refine q J jk m ih H env σ _ _ S E h fun m1 ih1 H1 w v S1 x1 r1 k1 => ?_
  exact f.nx m1 ih1 H1 _ _ S1 x1 ((E.mono S x1).set r1) k1
/-- (a, b, ..) = (x, y, ..): the values need not be data -/
def aAsgT (n : Nat) (ta : AA) (gs : AGs) : AS := fun D env ih => ta env ih fun ws ih1 => (ws.length ≤ sizeLine ∧ ws.length = n) ∧ gs ws env ih1 D.nx
theorem sv_asgT {vs : List Nat} {ts es : List Expr} {k k2 : Nat} {p1 p2 : Pos} {al : AA} {gs : AGs} {n : Nat} (h1 : AV F es al) (h2 : GWs F vs ts gs) (hn : ∀ env, (assignEach ts env).length = n := by intro _; rfl) (hst : ∀ env, (assignEach ts env).findIdx? (·.1) = none := by intro _; rfl)
    (hs : ∀ env, swapsWithSole [.Tuple ts k p1] (.Tuple es k2 p2) pos.line env = pure false := by intro _; rfl) (hw : ∀ env, swappedStores [.Tuple ts k p1] (.Tuple es k2 p2) env = pure none := by intro _; rfl)
    (h3 : ∀ env, (assignEach [.Tuple ts k p1] env).map (·.2) = [assign (.Tuple ts k p1) env] := by intro _; rfl) : SV F (.Assign [.Tuple ts k p1] (.Tuple es k2 p2) pos) (aAsgT n al gs) := by
  obtain ⟨t, p, q⟩ := h1
  obtain ⟨g, p3, q3, _⟩ := h2
  refine ⟨tAsg (tTup t) (gTup F.K n g), fun X hX => by rw [← F.hK X hX]; exact ps_asg (pe_tup (p X hX)) (pg_tup (F.calm X hX) (p3 X hX) (hn _) (hst _)) (hs _) (hw _) (h3 _), fun J jk m ih H env σ Da D S E h f => ?_⟩
  refine q J jk m ih H env σ _ _ S E h fun m1 ih1 H1 ws us S1 x1 r1 k1 => ?_
  refine ⟨by rw [Paired.len2 r1]; exact k1.1.1, fun a ha => ?_⟩
  have x2 : Xt m1 ih1 H1 m1 ih1 (upd H1 a (.tup us)) := Xt.new S1 ha
  have S2 : Sim F.K J m1 ih1 (upd H1 a (.tup us)) := S1.new ha
  exact ⟨a, us, rfl, SqT.of upd_same, by rw [Paired.len2 r1]; exact k1.1.2, q3 J jk m1 ih1 _ env σ ws us _ _ S2 (E.mono S (x1.trans x2)) (paired_mono S1 x2 r1) k1.2 (f.nx.step (x1.trans x2))⟩
/-- a, b = x, y with two plain names -/
def aPar (i j : Nat) (ta : AA) : AS := fun D env ih => ta env ih fun ws ih1 => match ws with
  | [v, w] => D.nx ((env.set i (some v)).set j (some w)) ih1
  | _ => False
theorem sv_par (i j : Nat) {x y : Str} {a b : Expr} {al : AA} {px py pt : Pos} {kt k2 pt2} (ha : AV F [a, b] al) (hi : F.N[i]? = some x := by rfl) (hj : F.N[j]? = some y := by rfl) (hij : i ≠ j := by decide)
    (hx : F.sc.names.lookup x = some .local := by rfl) (hy : F.sc.names.lookup y = some .local := by rfl)
    (hw : ∀ env, env.scope = F.sc → swappedStores [.Tuple [.Name x px, .Name y py] kt pt] (.Tuple [a, b] k2 pt2) env = pure (some [x, y]))
    (hs : ∀ env, swapsWithSole [.Tuple [.Name x px, .Name y py] kt pt] (.Tuple [a, b] k2 pt2) pos.line env = pure false := by intro _; rfl) :
    SV F (.Assign [.Tuple [.Name x px, .Name y py] kt pt] (.Tuple [a, b] k2 pt2) pos) (aPar i j al) := by
  obtain ⟨t, p, q⟩ := ha
  refine ⟨tPar i j t, fun X hX => ps_par (F.calm X hX) (by rw [F.hN X hX]; exact F.nd) (by rw [F.hN X hX]; exact hi) (by rw [F.hN X hX]; exact hj) hij (by rw [F.hsc X hX]; exact hx) (by rw [F.hsc X hX]; exact hy) (p X hX) (hw _ (F.hsc X hX)) (hs _), fun J jk m ih H env σ Da D S E h f => ?_⟩
  refine q J jk m ih H env σ _ _ S E h fun m1 ih1 H1 ws us S1 x1 r1 k1 => ?_
  split at k1
  · obtain ⟨v1, v2, rfl, ra, rb⟩ := paired2 r1
    exact ⟨v1, v2, rfl, f.nx m1 ih1 H1 _ _ S1 x1 (((E.mono S x1).set ra).set rb) k1⟩
  · exact k1.elim
end
end Pz

end
section
set_option Elab.async false
set_option linter.all false
set_option maxRecDepth 100000
set_option autoImplicit false
/-! Fw8: loops, comprehensions. -/
namespace Pz
open PySem PySem.Spec L2 LamX

theorem paired3 {α β : Type} {G : α → β → Prop} {a b c : α} {vs : List β} (h : Paired G [a, b, c] vs) : ∃ v w u, vs = [v, w, u] ∧ G a v ∧ G b w ∧ G c u := by
  cases h with
  | cons r t =>
    obtain ⟨w, u, rfl, r2, r3⟩ := paired2 t
    exact ⟨_, w, u, rfl, r, r2, r3⟩
section
variable {F : Fam} {pos : Pos} {e : Expr} {aa : AE} {ta tb : AS}
def aPar3 (i j l : Nat) (ta : AA) : AS := fun D env ih => ta env ih fun ws ih1 => match ws with
  | [v, w, u] => D.nx (((env.set i (some v)).set j (some w)).set l (some u)) ih1
  | _ => False
theorem sv_par3 (i j l : Nat) {x y z : Str} {a b c : Expr} {al : AA} {px py pz pt : Pos} {kt k2 pt2} (ha : AV F [a, b, c] al) (hi : F.N[i]? = some x := by rfl) (hj : F.N[j]? = some y := by rfl) (hl : F.N[l]? = some z := by rfl)
    (hij : i ≠ j := by decide) (hil : i ≠ l := by decide) (hjl : j ≠ l := by decide)
    (hx : F.sc.names.lookup x = some .local := by rfl) (hy : F.sc.names.lookup y = some .local := by rfl) (hz : F.sc.names.lookup z = some .local := by rfl)
    (hw : ∀ env, env.scope = F.sc → swappedStores [.Tuple [.Name x px, .Name y py, .Name z pz] kt pt] (.Tuple [a, b, c] k2 pt2) env = pure (some [x, y, z]))
    (hs : ∀ env, swapsWithSole [.Tuple [.Name x px, .Name y py, .Name z pz] kt pt] (.Tuple [a, b, c] k2 pt2) pos.line env = pure false := by intro _; rfl) :
    SV F (.Assign [.Tuple [.Name x px, .Name y py, .Name z pz] kt pt] (.Tuple [a, b, c] k2 pt2) pos) (aPar3 i j l al) := by
  obtain ⟨t, p, q⟩ := ha
  refine ⟨tPar3 i j l t, fun X hX => ps_par3 (F.calm X hX) (by rw [F.hN X hX]; exact F.nd) (by rw [F.hN X hX]; exact hi) (by rw [F.hN X hX]; exact hj) (by rw [F.hN X hX]; exact hl) hij hil hjl (by rw [F.hsc X hX]; exact hx) (by rw [F.hsc X hX]; exact hy) (by rw [F.hsc X hX]; exact hz) (p X hX) (hw _ (F.hsc X hX)) (hs _), fun J jk m ih H env σ Da D S E h f => ?_⟩
  refine q J jk m ih H env σ _ _ S E h fun m1 ih1 H1 ws us S1 x1 r1 k1 => ?_
  split at k1
  · obtain ⟨v1, v2, v3, rfl, ra, rb, rc⟩ := paired3 r1
    exact ⟨v1, v2, v3, rfl, f.nx m1 ih1 H1 _ _ S1 x1 ((((E.mono S x1).set ra).set rb).set rc) k1⟩
  · exact k1.elim

/-! ### another set of hidden addresses -/
/-- what is hidden further on was hidden, or was not there -/
def HidOk (J J' : JT) (H : Hp) : Prop := (∀ a, a ∈ J'.hid → a ∈ J.hid ∨ H a = none) ∧ ∀ n cs f, J.cal n cs f → J'.cal n cs f
theorem HidOk.refl {J : JT} {H : Hp} : HidOk J J H := ⟨fun _ h => .inl h, fun _ _ _ h => h⟩
section
variable {K : PySem.W.Frag} {L L' : Addr → Prop} {H H' : Hp}
mutual
theorem DR.conv (hk : ∀ a o, H a = some o → ¬ L a → H' a = some o ∧ ¬ L' a) (ht : ∀ a xs, Rd H a (.tup xs) → Rd H' a (.tup xs)) : ∀ {d : D} {v : V}, DR K L H d v → DR K L' H' d v
  | .none, v, q => by rw [q.non']; exact DR.non
  | .bool b, v, q => by rw [q.bl']; exact DR.bl
  | .int i, v, q => by rw [q.int']; exact DR.int
  | .str s, v, q => by rw [q.str']; exact DR.str
  | .tuple xs, v, q => by
    obtain ⟨a, vs, rfl, hs, hr⟩ := q.tup'
    exact DR.tup (hs.elim (fun z => .inl (ht a vs z)) .inr) (DRs.conv hk ht hr)
  | .list xs, v, q => by
    obtain ⟨a, vs, rfl, hs, hn, hr⟩ := q.lst'
    exact DR.lst (hk a _ hs hn).1 (hk a _ hs hn).2 (DRs.conv hk ht hr)
  | .dict xs, v, q => by
    obtain ⟨a, vs, rfl, hs, hn, hr⟩ := q.dic'
    exact DR.dic (hk a _ hs hn).1 (hk a _ hs hn).2 (DRk.conv hk ht hr)
theorem DRs.conv (hk : ∀ a o, H a = some o → ¬ L a → H' a = some o ∧ ¬ L' a) (ht : ∀ a xs, Rd H a (.tup xs) → Rd H' a (.tup xs)) : ∀ {d : List D} {v : List V}, DRs K L H d v → DRs K L' H' d v
  | [], v, q => by unfold DRs at q ⊢; exact q
  | d :: ds, v, q => by
    unfold DRs at q ⊢
    obtain ⟨v, r, rfl, h1, h2⟩ := q
    exact ⟨v, r, rfl, DR.conv hk ht h1, DRs.conv hk ht h2⟩
theorem DRk.conv (hk : ∀ a o, H a = some o → ¬ L a → H' a = some o ∧ ¬ L' a) (ht : ∀ a xs, Rd H a (.tup xs) → Rd H' a (.tup xs)) : ∀ {d : List (D × D)} {v : List (Key × V)}, DRk K L H d v → DRk K L' H' d v
  | [], v, q => by unfold DRk at q ⊢; exact q
  | (k, d) :: ds, v, q => by
    unfold DRk at q ⊢
    obtain ⟨k', v, r, rfl, e, h1, h2⟩ := q
    exact ⟨k', v, r, rfl, e, DR.conv hk ht h1, DRk.conv hk ht h2⟩
end
end
section
variable {K : PySem.W.Frag} {J J' : JT} {m m' : List Addr} {ih ih' : IH} {H H' : Hp}
theorem hid_keep (x : Xt m ih H m' ih' H') (hh : HidOk J J' H) : ∀ a o, H a = some o → ¬ Own J m ih a → H' a = some o ∧ ¬ Own J' m' ih' a := fun a o e n => by
  obtain ⟨e1, n1⟩ := x.keep a o e fun z => n (.inl z)
  exact ⟨e1, fun z => z.elim n1 fun y => (hh.1 a y).elim (fun q => n (.inr q)) fun q => by rw [q] at e; cases e⟩
theorem DR.convX (S : Sim K J m ih H) (x : Xt m ih H m' ih' H') (hh : HidOk J J' H) {d : D} {v : V} (h : DR K (Own J m ih) H d v) : DR K (Own J' m' ih') H' d v :=
  DR.conv (hid_keep x hh) (fun a xs q => x.rd (S.tup_free q) q) h
theorem WR.convX (S : Sim K J m ih H) (x : Xt m ih H m' ih' H') (hh : HidOk J J' H) {w : W} {v : V} (h : WR K J m ih H w v) : WR K J' m' ih' H' w v := by
  cases w with
  | d y => exact DR.convX S x hh h
  | ref n =>
    obtain ⟨a, e, r⟩ := h
    obtain ⟨t, rfl, _⟩ := x.pre
    exact ⟨a, by rw [List.getElem?_append_left (List.getElem?_eq_some_iff.mp e).1]; exact e, r⟩
  | fn n cs =>
    obtain ⟨f, e, c⟩ := h
    exact ⟨f, e, hh.2 n cs f c⟩
  | scr ns =>
    obtain ⟨a, e, q⟩ := h
    rcases q with ⟨q, l⟩ | q
    · refine ⟨a, e, .inl ⟨x.rd (fun z => l (.inl z)) q, ?_⟩⟩
      rcases q with q | ⟨ob, q⟩
      · exact (hid_keep x hh a _ q l).2
      · exact (hid_keep x hh a _ q l).2
    · exact ⟨a, e, .inr q⟩
theorem EnvR.convX {env : En} {σ : L2.St} (S : Sim K J m ih H) (x : Xt m ih H m' ih' H') (hh : HidOk J J' H) (e : EnvR K J m ih H env σ) : EnvR K J' m' ih' H' env σ :=
  ⟨e.len, fun i w q => let ⟨v, q1, q2⟩ := e.at_ i w q; ⟨v, q1, q2.convX S x hh⟩⟩
theorem ObR.convX (S : Sim K J m ih H) (x : Xt m ih H m' ih' H') (hh : HidOk J J' H) {a : Addr} {o : Ob} (h : ObR K J m ih H a o) (he : H' a = H a) : ObR K J' m' ih' H' a o := by
  cases o with
  | dead => exact True.intro
  | lst ws =>
    obtain ⟨vs, e, r⟩ := h
    exact ⟨vs, he.trans e, Paired.mapR r fun _ _ q => ⟨q.1, q.2.convX S x hh⟩⟩
  | dic ws =>
    obtain ⟨vs, e, r⟩ := h
    exact ⟨vs, he.trans e, Paired.mapR r fun _ _ q => ⟨q.1, q.2.1, q.2.2.convX S x hh⟩⟩
  | tab q =>
    obtain ⟨ps, e, ht, hc⟩ := h
    refine ⟨ps, he.trans e, ht, fun pos cv z => ?_⟩
    obtain ⟨c, e1, e2, n⟩ := hc pos cv z
    obtain ⟨k1, k2⟩ := hid_keep x hh c _ e2 n
    exact ⟨c, e1, k1, k2⟩
end

/-! ### what is walked -/
/-- the iterator yields the data ds, one after the other -/
structure Yl (K : PySem.W.Frag) (J : JT) (m : List Addr) (ih : IH) (H : Hp) (T : It) (ds : List D) : Prop where
  go : ∀ m1 ih1 H1 i, Xt m ih H m1 ih1 H1 → i < ds.length → T.go i H1
  stop : ∀ m1 ih1 H1, Xt m ih H m1 ih1 H1 → T.stop ds.length H1
  yld : ∀ J' m1 ih1 H1 i x H2, HidOk J J' H → Sim K J' m1 ih1 H1 → Xt m ih H m1 ih1 H1 → i < ds.length → T.yld i H1 x H2 → Sim K J' m1 ih1 H2 ∧ Xt m1 ih1 H1 m1 ih1 H2 ∧ ∃ d, ds[i]? = some d ∧ WR K J' m1 ih1 H2 (.d d) x
def RI (F : Fam) (wi : TI) (ai : AI) : Prop := ∀ J, F.jk J → ∀ m ih H env σ Qa (R : It → Hp → Prop), Sim F.K J m ih H → EnvR F.K J m ih H env σ → ai env ih Qa →
  (∀ m1 ih1 H1 T ds, Sim F.K J m1 ih1 H1 → Xt m ih H m1 ih1 H1 → Yl F.K J m1 ih1 H1 T ds → Qa ds ih1 → R T H1) → wi σ H R
def IV (F : Fam) (tg iter : Expr) (ai : AI) : Prop := ∃ wi, (∀ X, F.ok X → PI X tg iter wi) ∧ RI F wi ai

section
variable {K : PySem.W.Frag} {J : JT} {m : List Addr} {ih : IH} {H : Hp}
theorem DRs.nth {L : Addr → Prop} {ds : List D} {vs : List V} {i : Nat} {v : V} (h : DRs K L H ds vs) (e : vs[i]? = some v) : ∃ d, ds[i]? = some d ∧ DR K L H d v := by
  have hi : i < ds.length := by rw [← h.len]; exact (List.getElem?_eq_some_iff.mp e).1
  obtain ⟨u, e2, r⟩ := h.get (List.getElem?_eq_getElem hi)
  rw [e] at e2
  cases e2
  exact ⟨_, List.getElem?_eq_getElem hi, r⟩
theorem DRs.some {L : Addr → Prop} {ds : List D} {vs : List V} {i : Nat} (h : DRs K L H ds vs) (hi : i < ds.length) : ∃ v, vs[i]? = some v := ⟨_, List.getElem?_eq_getElem (by rw [h.len]; exact hi)⟩
theorem yl_list {a : Addr} {ds : List D} {vs : List V} (S : Sim K J m ih H) (hs : H a = some (.lst vs)) (n : ¬ Own J m ih a) (hr : DRs K (Own J m ih) H ds vs) : Yl K J m ih H (Itl K a) ds where
  go := fun m1 ih1 H1 i x1 hi => by
    obtain ⟨v, e⟩ := hr.some hi
    exact ⟨vs, v, .of (x1.keep a _ hs fun z => n (.inl z)).1, e⟩
  stop := fun m1 ih1 H1 x1 => ⟨vs, .of (x1.keep a _ hs fun z => n (.inl z)).1, by rw [hr.len]; exact Nat.le_refl _⟩
  yld := fun J' m1 ih1 H1 i x H2 hh S1 x1 hi y => by
    obtain ⟨rfl, q⟩ := y
    obtain ⟨d, e, r⟩ := hr.nth (q vs (.of (x1.keep a _ hs fun z => n (.inl z)).1))
    exact ⟨S1, Xt.refl, d, e, DR.convX S x1 hh r⟩
theorem yl_tup {a : Addr} {ds : List D} {vs : List V} (S : Sim K J m ih H) (hs : SqT K H a vs) (hr : DRs K (Own J m ih) H ds vs) : Yl K J m ih H (Itt K a) ds where
  go := fun m1 ih1 H1 i x1 hi => by
    obtain ⟨v, e⟩ := hr.some hi
    exact ⟨vs, v, x1.seqT S hs, e⟩
  stop := fun m1 ih1 H1 x1 => ⟨vs, x1.seqT S hs, by rw [hr.len]; exact Nat.le_refl _⟩
  yld := fun J' m1 ih1 H1 i x H2 hh S1 x1 hi y => by
    obtain ⟨rfl, q⟩ := y
    obtain ⟨d, e, r⟩ := hr.nth (q vs (x1.seqT S hs))
    exact ⟨S1, Xt.refl, d, e, DR.convX S x1 hh r⟩
/-- the numbers lo, lo + 1, .. -/
def rng (lo : Int) (n : Nat) : List D := (List.range n).map fun (i : Nat) => PyData.int (lo + i)
theorem rng_len (lo : Int) (n : Nat) : (rng lo n).length = n := by unfold rng; rw [List.length_map, List.length_range]
theorem rng_get {lo : Int} {n i : Nat} (h : i < n) : (rng lo n)[i]? = some (.int (lo + i)) := by
  unfold rng
  rw [List.getElem?_map, List.getElem?_range h]
  rfl
theorem yl_rng {lo : Int} {n : Nat} : Yl K J m ih H (Itr lo n) (rng lo n) where
  go := fun m1 ih1 H1 i x1 hi => by rw [rng_len] at hi; exact hi
  stop := fun m1 ih1 H1 x1 => by rw [rng_len]; exact Nat.le_refl _
  yld := fun J' m1 ih1 H1 i x H2 hh S1 x1 hi y => by
    obtain ⟨rfl, rfl⟩ := y
    rw [rng_len] at hi
    exact ⟨S1, Xt.refl, _, rng_get hi, WR.int⟩
end
/-- over a list -/
def aIL (t : AE) : AI := fun env ih Q => t env ih fun w ih1 => match w with
  | .d (.list xs) => Q xs ih1
  | _ => False
def aIT (t : AE) : AI := fun env ih Q => t env ih fun w ih1 => match w with
  | .d (.tuple xs) => Q xs ih1
  | _ => False
variable {tg : Expr}
theorem iv_list (h : EV F e aa) : IV F tg e (aIL aa) := by
  obtain ⟨t, p, q⟩ := h
  refine ⟨iList F.K t, fun X hX => by rw [← F.hK X hX]; exact pi_list (p X hX), fun J jk m ih H env σ Qa R S E h f => ?_⟩
  refine q J jk m ih H env σ _ _ S E h fun m1 ih1 H1 w v S1 x1 r1 k1 => ?_
  split at k1
  · obtain ⟨a, vs, rfl, hs, n, hr⟩ := r1.lst'
    exact ⟨a, rfl, ⟨vs, .of hs⟩, f m1 ih1 H1 _ _ S1 x1 (yl_list S1 hs n hr) k1⟩
  · exact k1.elim
theorem iv_tup (h : EV F e aa) : IV F tg e (aIT aa) := by
  obtain ⟨t, p, q⟩ := h
  refine ⟨iTup F.K t, fun X hX => by rw [← F.hK X hX]; exact pi_tup (p X hX), fun J jk m ih H env σ Qa R S E h f => ?_⟩
  refine q J jk m ih H env σ _ _ S E h fun m1 ih1 H1 w v S1 x1 r1 k1 => ?_
  split at k1
  · obtain ⟨a, vs, rfl, hs, hr⟩ := r1.tup'
    exact ⟨a, rfl, ⟨vs, hs⟩, f m1 ih1 H1 _ _ S1 x1 (yl_tup S1 hs hr) k1⟩
  · exact k1.elim
def aIR1 (t : AA) : AI := fun env ih Q => t env ih fun ws ih1 => match ws with
  | [.d (.int j)] => -(2 ^ 62) ≤ j ∧ j < 2 ^ 62 ∧ Q (rng 0 j.toNat) ih1
  | _ => False
def aIR2 (t : AA) : AI := fun env ih Q => t env ih fun ws ih1 => match ws with
  | [.d (.int i), .d (.int j)] => (-(2 ^ 62) ≤ i ∧ i < 2 ^ 62 ∧ -(2 ^ 62) ≤ j ∧ j < 2 ^ 62) ∧ Q (rng i (j - i).toNat) ih1
  | _ => False
theorem iv_range1 {a : Expr} {al : AA} {p : Pos} (h : AV F [a] al) (hg : Glb F "range") (hm : F.mg "range" = none) (hs : ∀ env, starEach [a] env = [(false, eval a env)] := by intro _; rfl) : IV F tg (.Call (.Name "range" p) [a] [] pos) (aIR1 al) := by
  obtain ⟨t, q, r⟩ := h
  refine ⟨iRng1 t, fun X hX => pi_range1 (Fam.gl hX hg) (by rw [F.hmg X hX]; exact hm) (q X hX) (hs _), fun J jk m ih H env σ Qa R S E h f => ?_⟩
  refine r J jk m ih H env σ _ _ S E h fun m1 ih1 H1 ws vs S1 x1 r1 k1 => ?_
  split at k1
  · obtain ⟨v, rfl, r2⟩ := paired1 r1
    exact ⟨_, by rw [r2.int'], k1.1, k1.2.1, f m1 ih1 H1 _ _ S1 x1 yl_rng k1.2.2⟩
  · exact k1.elim
theorem iv_range2 {a b : Expr} {al : AA} {p : Pos} (h : AV F [a, b] al) (hg : Glb F "range") (hm : F.mg "range" = none) (hs : ∀ env, starEach [a, b] env = [(false, eval a env), (false, eval b env)] := by intro _; rfl) (hs2 : ∀ env, starEach [b] env = [(false, eval b env)] := by intro _; rfl) :
    IV F tg (.Call (.Name "range" p) [a, b] [] pos) (aIR2 al) := by
  obtain ⟨t, q, r⟩ := h
  refine ⟨iRng2 t, fun X hX => pi_range2 (Fam.gl hX hg) (by rw [F.hmg X hX]; exact hm) (q X hX) (hs _) (hs2 _), fun J jk m ih H env σ Qa R S E h f => ?_⟩
  refine r J jk m ih H env σ _ _ S E h fun m1 ih1 H1 ws vs S1 x1 r1 k1 => ?_
  split at k1
  · obtain ⟨v, u, rfl, r2, r3⟩ := paired2 r1
    exact ⟨_, _, by rw [r2.int', r3.int'], k1.1, f m1 ih1 H1 _ _ S1 x1 yl_rng k1.2⟩
  · exact k1.elim

/-! ### for, while -/
def aFor (ai : AI) (ga : AG) (body : AS) : AS := fun D env ih => ai env ih fun ds ih1 => ∃ Iv : Nat → En → IH → Prop, Iv 0 env ih1 ∧
  (∀ i d env2 ih2, ds[i]? = some d → Iv i env2 ih2 → ga (.d d) env2 ih2 fun env3 ih3 => body { D with nx := Iv (i + 1), ct := Iv (i + 1), bk := D.nx } env3 ih3) ∧ ∀ env2 ih2, Iv ds.length env2 ih2 → D.nx env2 ih2
theorem sv_for {iter : Expr} {body : List Stmt} {ai : AI} {ga : AG} (hi : IV F tg iter ai) (hg : GV F tg ga) (hb : BV F body ta) (hs : ∀ env x, foldedSetIterable iter env x = pure x := by intro _ _; rfl) : SV F (.For tg iter body [] pos) (aFor ai ga ta) := by
  obtain ⟨wi, p, q⟩ := hi
  obtain ⟨g, p2, q2⟩ := hg
  obtain ⟨t, p3, q3⟩ := hb
  refine ⟨tFor wi g t, fun X hX => ps_for (F.po X hX) (F.calm X hX) (p X hX) (p2 X hX) (p3 X hX) (hs _), fun J jk m ih H env σ Da D S E h f => ?_⟩
  refine q J jk m ih H env σ _ _ S E h fun m1 ih1 H1 T ds S1 x1 Y k1 => ?_
  obtain ⟨Iv, i0, turn, done⟩ := k1
  let W : Nat → Nat → L2.St → Hp → Prop := fun i k σ' H' => k = ds.length - i ∧ i ≤ ds.length ∧ ∃ m' ih' env', Sim F.K J m' ih' H' ∧ Xt m1 ih1 H1 m' ih' H' ∧ EnvR F.K J m' ih' H' env' σ' ∧ Iv i env' ih'
  refine ⟨W, ⟨ds.length, by simp, Nat.zero_le _, m1, ih1, env, S1, Xt.refl, E.mono S x1, i0⟩, ?_⟩
  rintro i k σ2 H2 ⟨rfl, hi, m2, ih2, env2, S2, x2, E2, v2⟩
  by_cases hlt : i < ds.length
  · refine .inr ⟨Y.go m2 ih2 H2 i x2 hlt, fun σ' H' => W (i + 1) (ds.length - (i + 1)) σ' H', fun σ' H' w => ⟨_, by omega, w⟩, fun x H3 y => ?_⟩
    obtain ⟨S3, x3, d, ed, rd⟩ := Y.yld J m2 ih2 H2 i x H3 HidOk.refl S2 x2 hlt y
    refine q2 J jk m2 ih2 H3 env2 σ2 (.d d) x _ _ S3 (E2.mono S2 x3) rd (turn i d env2 ih2 ed v2) fun m4 ih4 H4 env4 σ4 S4 x4 E4 k4 => ?_
    have x14 := (x2.trans x3).trans x4
    refine q3 J jk m4 ih4 H4 env4 σ4 _ _ S4 E4 k4 ⟨fun m5 ih5 H5 env5 σ5 S5 x5 E5 k5 => ?_, (f.step (x1.trans x14)).rt, (f.step (x1.trans x14)).nx, fun m5 ih5 H5 env5 σ5 S5 x5 E5 k5 => ?_⟩
    · exact ⟨rfl, hlt, m5, ih5, env5, S5, x14.trans x5, E5, k5⟩
    · exact ⟨rfl, hlt, m5, ih5, env5, S5, x14.trans x5, E5, k5⟩
  · have e1 : i = ds.length := by omega
    subst e1
    exact .inl ⟨Y.stop m2 ih2 H2 x2, f.nx m2 ih2 H2 env2 σ2 S2 (x1.trans x2) E2 (done env2 ih2 v2)⟩
def aWhile (c : AT) (body : AS) : AS := fun D env ih => ∃ Iv : Nat → En → IH → Prop, (∃ k, Iv k env ih) ∧ ∀ k env2 ih2, Iv k env2 ih2 →
  c env2 ih2 fun b ih3 => if b = true then body { D with nx := fun env4 ih4 => ∃ k', k' < k ∧ Iv k' env4 ih4, ct := fun env4 ih4 => ∃ k', k' < k ∧ Iv k' env4 ih4, bk := D.nx } env2 ih3 else D.nx env2 ih3
theorem sv_while {c : Expr} {body : List Stmt} {ac : AT} (hc : TV F c ac) (hb : BV F body ta) : SV F (.While c body [] pos) (aWhile ac ta) := by
  obtain ⟨t, p, q⟩ := hc
  obtain ⟨t2, p2, q2⟩ := hb
  refine ⟨tWhile t t2, fun X hX => ps_while (F.po X hX) (p X hX) (p2 X hX), fun J jk m ih H env σ Da D S E h f => ?_⟩
  obtain ⟨Iv, ⟨k0, i0⟩, turn⟩ := h
  let W : Nat → L2.St → Hp → Prop := fun k σ' H' => ∃ m' ih' env', Sim F.K J m' ih' H' ∧ Xt m ih H m' ih' H' ∧ EnvR F.K J m' ih' H' env' σ' ∧ Iv k env' ih'
  refine ⟨W, ⟨k0, m, ih, env, S, Xt.refl, E, i0⟩, ?_⟩
  rintro k σ2 H2 ⟨m2, ih2, env2, S2, x2, E2, v2⟩
  refine q J jk m2 ih2 H2 env2 σ2 _ _ S2 E2 (turn k env2 ih2 v2) fun m3 ih3 H3 b S3 x3 k3 => ?_
  have x13 := x2.trans x3
  cases b with
  | true =>
    rw [if_pos rfl] at k3 ⊢
    refine ⟨fun σ' H' => ∃ k', k' < k ∧ W k' σ' H', fun _ _ h => h, q2 J jk m3 ih3 H3 env2 σ2 _ _ S3 (E2.mono S2 x3) k3 ⟨fun m5 ih5 H5 env5 σ5 S5 x5 E5 k5 => ?_, (f.step x13).rt, (f.step x13).nx, fun m5 ih5 H5 env5 σ5 S5 x5 E5 k5 => ?_⟩⟩
    · obtain ⟨k', hk, v5⟩ := k5
      exact ⟨k', hk, m5, ih5, env5, S5, x13.trans x5, E5, v5⟩
    · obtain ⟨k', hk, v5⟩ := k5
      exact ⟨k', hk, m5, ih5, env5, S5, x13.trans x5, E5, v5⟩
  | false =>
    rw [if_neg Bool.false_ne_true] at k3 ⊢
    exact f.nx m3 ih3 H3 env2 σ2 S3 x13 (E2.mono S2 x3) k3
end
end Pz

end
section
set_option Elab.async false
set_option linter.all false
set_option maxRecDepth 100000
set_option autoImplicit false
/-! Fw9: defs and their promises over data. -/
namespace Pz
open PySem PySem.Spec L2 LamX

/-- what a def promises: of its arguments and the mutable objects, what is wanted behind -/
abbrev ASp := List W → IH → QW → Prop
def lift (P : Program) (w : World) (K : PySem.W.Frag) (mg : Str → Option Value) (base : Heap) (Sg : Sig) (sp : ASp) (vs : List V) (H : Hp) (Q : VK) : Prop := ∃ J m ih ws Qa, JOk P w K mg base Sg J ∧ Sim K J m ih H ∧ Paired (WR K J m ih H) ws vs ∧ sp ws ih Qa ∧ Fu K J m ih H Qa Q
structure FnG (P : Program) (w : World) (K : PySem.W.Frag) (mg : Str → Option Value) (base : Heap) (Sg : Sig) (k : Nat) (f : Addr) (fd : FuncData) (ps : List Str) (sp : ASp) : Prop where
  run : ∀ (A : Around) (outer : List PySem.Env) (s : Shared) (H : Hp) (args : Args) (us : List Value) (vs : List V) (Q : VK), A.guards = some [] → Room k A → Env0 P w K mg base A outer s H → BindsTo s fd args (ps.zip us) → Vals vs us → vs.length = ps.length →
    lift P w K mg base Sg sp vs H Q → codeAny (model P w) A (.call (.ref f) args) (CR CX0 outer P w H s Q E0) s
theorem FnG.mono {P : Program} {w : World} {K : PySem.W.Frag} {mg : Str → Option Value} {base : Heap} {Sg : Sig} {j k : Nat} {f : Addr} {fd : FuncData} {ps : List Str} {sp : ASp} (G : FnG P w K mg base Sg j f fd ps sp) (h : j ≤ k) : FnG P w K mg base Sg k f fd ps sp :=
  ⟨fun A outer s H args us vs Q hg hr => G.run A outer s H args us vs Q hg (hr.mono h)⟩
/-- a weaker promise -/
theorem FnG.imp {P : Program} {w : World} {K : PySem.W.Frag} {mg : Str → Option Value} {base : Heap} {Sg : Sig} {k : Nat} {f : Addr} {fd : FuncData} {ps : List Str} {sp sq : ASp} (G : FnG P w K mg base Sg k f fd ps sp) (h : ∀ ws ih Q, sq ws ih Q → sp ws ih Q) : FnG P w K mg base Sg k f fd ps sq :=
  ⟨fun A outer s H args us vs Q hg hr he hb hv hl ⟨J, m, ih, ws, Qa, jo, S, r, q, f⟩ => G.run A outer s H args us vs Q hg hr he hb hv hl ⟨J, m, ih, ws, Qa, jo, S, r, h _ _ _ q, f⟩⟩

section
variable {K : PySem.W.Frag} {J : JT} {m m1 : List Addr} {ih ih1 ex : IH} {H H1 : Hp}
mutual
theorem DR.less {L L1 : Addr → Prop} (h : ∀ a, L1 a → L a) : ∀ {d : D} {v : V}, DR K L H d v → DR K L1 H d v
  | .none, v, q => by rw [q.non']; exact DR.non
  | .bool b, v, q => by rw [q.bl']; exact DR.bl
  | .int i, v, q => by rw [q.int']; exact DR.int
  | .str s, v, q => by rw [q.str']; exact DR.str
  | .tuple xs, v, q => by
    obtain ⟨a, vs, rfl, hs, hr⟩ := q.tup'
    exact DR.tup hs (DRs.less h hr)
  | .list xs, v, q => by
    obtain ⟨a, vs, rfl, hs, hn, hr⟩ := q.lst'
    exact DR.lst hs (fun z => hn (h a z)) (DRs.less h hr)
  | .dict xs, v, q => by
    obtain ⟨a, vs, rfl, hs, hn, hr⟩ := q.dic'
    exact DR.dic hs (fun z => hn (h a z)) (DRk.less h hr)
theorem DRs.less {L L1 : Addr → Prop} (h : ∀ a, L1 a → L a) : ∀ {d : List D} {v : List V}, DRs K L H d v → DRs K L1 H d v
  | [], v, q => by unfold DRs at q ⊢; exact q
  | d :: ds, v, q => by
    unfold DRs at q ⊢
    obtain ⟨v, r, rfl, h1, h2⟩ := q
    exact ⟨v, r, rfl, DR.less h h1, DRs.less h h2⟩
theorem DRk.less {L L1 : Addr → Prop} (h : ∀ a, L1 a → L a) : ∀ {d : List (D × D)} {v : List (Key × V)}, DRk K L H d v → DRk K L1 H d v
  | [], v, q => by unfold DRk at q ⊢; exact q
  | (k, d) :: ds, v, q => by
    unfold DRk at q ⊢
    obtain ⟨k', v, r, rfl, e, h1, h2⟩ := q
    exact ⟨k', v, r, rfl, e, DR.less h h1, DRk.less h h2⟩
end
theorem live_sub {t : List Addr} {a : Addr} (h : Live m ih a) : Live (m ++ t) (ih ++ ex) a := by
  obtain ⟨i, o, e1, e2, e3⟩ := h
  exact ⟨i, o, by rw [List.getElem?_append_left (List.getElem?_eq_some_iff.mp e1).1]; exact e1, by rw [List.getElem?_append_left (List.getElem?_eq_some_iff.mp e2).1]; exact e2, e3⟩
theorem own_sub {t : List Addr} {a : Addr} (h : Own J m ih a) : Own J (m ++ t) (ih ++ ex) a := h.elim (fun z => .inl (live_sub z)) .inr
/-- the same value, with fewer objects at hand; the references were there -/
theorem WR.less {t : List Addr} {w : W} {v v0 : V} {H0 : Hp} (h : WR K J (m ++ t) (ih ++ ex) H w v) (h0 : WR K J m ih H0 w v0) : WR K J m ih H w v := by
  cases w with
  | d x => exact DR.less (L := Own J (m ++ t) (ih ++ ex)) (fun a z => own_sub z) h
  | ref n =>
    obtain ⟨a, e, rfl⟩ := h
    obtain ⟨b, e2, _⟩ := h0
    rw [List.getElem?_append_left (List.getElem?_eq_some_iff.mp e2).1] at e
    exact ⟨a, e, rfl⟩
  | fn n cs => exact h
  | scr ns =>
    obtain ⟨a, rfl, q⟩ := h
    exact ⟨a, rfl, q.elim (fun z => .inl ⟨z.1, fun l => z.2 (own_sub l)⟩) .inr⟩
theorem paired_less {t : List Addr} {H0 : Hp} : ∀ {ws : List W} {vs v0 : List V}, Paired (WO K J (m ++ t) (ih ++ ex) H) ws vs → Paired (WO K J m ih H0) ws v0 → Paired (WO K J m ih H) ws vs
  | _, _, _, .nil, _ => .nil
  | _, _, _, .cons r t, .cons r0 t0 => .cons ⟨r.1, r.2.less r0.2⟩ (paired_less t t0)
theorem pairedk_less {t : List Addr} {H0 : Hp} : ∀ {ws : List (Key × W)} {vs v0 : List (Key × V)}, Paired (fun (p : Key × W) (q : Key × V) => p.1 = q.1 ∧ WO K J (m ++ t) (ih ++ ex) H p.2 q.2) ws vs →
    Paired (fun (p : Key × W) (q : Key × V) => p.1 = q.1 ∧ WO K J m ih H0 p.2 q.2) ws v0 → Paired (fun (p : Key × W) (q : Key × V) => p.1 = q.1 ∧ WO K J m ih H p.2 q.2) ws vs
  | _, _, _, .nil, _ => .nil
  | _, _, _, .cons r t, .cons r0 t0 => .cons ⟨r.1, r.2.1, r.2.2.less r0.2.2⟩ (pairedk_less t t0)
/-- the objects that came within a call are forgotten behind it -/
theorem Sim.trunc (S : Sim K J m ih H) (S1 : Sim K J m1 (ih ++ ex) H1) (x : Xt m ih H m1 (ih ++ ex) H1) : Sim K J m ih H1 ∧ Xt m ih H m ih H1 := by
  obtain ⟨t, rfl, _⟩ := x.pre
  have y : Xt m ih H m ih H1 := ⟨⟨[], (List.append_nil m).symm, fun _ z => absurd z (by simp)⟩, fun a o e n => ⟨(x.keep a o e n).1, n⟩, x.there⟩
  refine ⟨⟨J.cl _ _ _ _ _ _ S.j y, S.len, S.nd, fun a h z => S1.th a (List.mem_append_left _ h) z, S.hd_mono y, fun i a o e1 e2 => ?_⟩, y⟩
  have q0 := S.ob i a o e1 e2
  have q1 := S1.ob i a o (by rw [List.getElem?_append_left (List.getElem?_eq_some_iff.mp e1).1]; exact e1) (by rw [List.getElem?_append_left (List.getElem?_eq_some_iff.mp e2).1]; exact e2)
  cases o with
  | dead => exact True.intro
  | lst ws =>
    obtain ⟨vs0, _, r0⟩ := q0
    obtain ⟨vs, e, r⟩ := q1
    exact ⟨vs, e, paired_less r r0⟩
  | dic ws =>
    obtain ⟨vs0, _, r0⟩ := q0
    obtain ⟨vs, e, r⟩ := q1
    exact ⟨vs, e, pairedk_less r r0⟩
  | tab q =>
    obtain ⟨ps, e, ht, hc⟩ := q1
    refine ⟨ps, e, ht, fun pos cv z => ?_⟩
    obtain ⟨c, e1, e2, n⟩ := hc pos cv z
    exact ⟨c, e1, e2, fun l => n (own_sub l)⟩
end

/-! ### a def's body -/
def startA (N : List Str) (ws : List W) : En := ws.map some ++ List.replicate (N.length - ws.length) none
theorem startA_env {K : PySem.W.Frag} {J : JT} {m : List Addr} {ih : IH} {H : Hp} {N : List Str} {ws : List W} {vs : List V} (r : Paired (WR K J m ih H) ws vs) : EnvR K J m ih H (startA N ws) (L2.start N vs) := by
  refine ⟨by unfold startA L2.start; simp [Paired.len2 r], fun i w e => ?_⟩
  unfold startA at e
  by_cases hi : i < ws.length
  · rw [List.getElem?_append_left (by simpa using hi), List.getElem?_map] at e
    cases q : ws[i]? with
    | none => rw [q] at e; cases e
    | some u =>
      rw [q] at e
      have eu : u = w := by simpa using e
      subst eu
      obtain ⟨v, e2, r2⟩ := paired_get r q
      refine ⟨v, ?_, r2⟩
      unfold L2.start
      rw [List.getElem?_append_left (by rw [List.length_map]; exact (List.getElem?_eq_some_iff.mp e2).1), List.getElem?_map, e2]
      rfl
  · rw [List.getElem?_append_right (by simpa using hi), List.getElem?_replicate] at e
    split at e <;> cases e
/-- behind a def's body: what it made for itself is forgotten; a list of its own that it hands back is data from then on -/
def finD (ih : IH) (Q : QW) : QW := fun w ih1 => match w with
  | .d x => (∃ ex, ih1 = ih ++ ex) ∧ Q (.d x) ih
  | .ref n => ih.length ≤ n ∧ (∃ ex, ih1 = ih ++ ex) ∧ optW (view (.ref n) ih1) fun x => Q (.d x) ih
  | .scr _ => False
  | .fn _ _ => False
theorem view_ob {n : Nat} {ih : IH} {x : D} (h : view (.ref n) ih = some x) : ∃ ws, ih[n]? = some (.lst ws) := by
  unfold view at h
  simp only at h
  split at h
  · exact ⟨_, by assumption⟩
  · cases h
theorem finD_fu {K : PySem.W.Frag} {J : JT} {m : List Addr} {ih : IH} {H : Hp} {Qa : QW} {Q : VK} (S : Sim K J m ih H) (f : Fu K J m ih H Qa Q) : Fu K J m ih H (finD ih Qa) Q := fun m1 ih1 H1 w v S1 x1 r1 q1 => by
  unfold finD at q1
  split at q1
  · obtain ⟨⟨ex, rfl⟩, q⟩ := q1
    obtain ⟨S2, x2⟩ := S.trunc S1 x1
    obtain ⟨t, rfl, _⟩ := x1.pre
    exact f m ih H1 (.d _) v S2 x2 (show DR _ _ _ _ _ from DR.less (L := Own J (m ++ t) (ih ++ ex)) (fun a z => own_sub z) r1) q
  · rename_i n
    obtain ⟨hn, ⟨ex, rfl⟩, q⟩ := q1
    obtain ⟨x, e, q⟩ := optW_some q
    obtain ⟨S2, x2⟩ := S.trunc S1 x1
    obtain ⟨ds, rfl⟩ := view_ref e
    obtain ⟨g, vs, rfl, hs, hr⟩ := view_lst S1 r1 e
    obtain ⟨g2, eg, e2⟩ := r1
    cases e2
    obtain ⟨t, rfl, _⟩ := x1.pre
    refine f m ih H1 (.d _) _ S2 x2 (show DR _ _ _ _ _ from DR.lst (L := Own J m ih) hs (fun l => l.elim (fun l => ?_) fun l => ?_) (DRs.less (L := Own J (m ++ t) (ih ++ ex)) (fun a z => own_sub z) hr)) q
    obtain ⟨i, o, e1, e2, _⟩ := l
    have hi : i < m.length := (List.getElem?_eq_some_iff.mp e1).1
    have e3 : (m ++ t)[i]? = some g := by rw [List.getElem?_append_left hi]; exact e1
    have hnd := S1.nd
    have : i = n := nd_ix hnd e3 eg
    have := S.len
    omega
    · obtain ⟨ws, e4⟩ := view_ob e
      exact (S1.hd g l).2 ⟨n, _, eg, e4, rfl⟩
  · exact q1.elim
  · exact q1.elim

section
variable {P : Program} {w : World} {K : PySem.W.Frag} {mg : Str → Option Value} {base : Heap} {Sg : Sig}
/-- the contexts of a def's body -/
def Fam.ofDef (P : Program) (w : World) (K : PySem.W.Frag) (mg : Str → Option Value) (base : Heap) (Sg : Sig) (k : Nat) (N : List Str) (sc : Scope) (qual : Str) (f : Addr) (cdv : Value) (nd : N.Nodup) : Fam where
  ok := fun X => ∃ (A : Around) (outer : List PySem.Env) (s : Shared) (H : Hp), A.guards = some [] ∧ Room k (A.deeper (PyProof.Rows.envOfC qual sc s.heap.objs.size f cdv)) ∧ X = (cxOf CX0 P w K mg base N qual sc f cdv A outer s H E0).nox
  N := N
  sc := sc
  P := P
  w := w
  K := K
  mg := mg
  base := base
  k := k
  S := Sg
  nd := nd
  hN := by rintro X ⟨A, o, s, H, g, r, rfl⟩; rfl
  hsc := by rintro X ⟨A, o, s, H, g, r, rfl⟩; rfl
  hP := by rintro X ⟨A, o, s, H, g, r, rfl⟩; rfl
  hw := by rintro X ⟨A, o, s, H, g, r, rfl⟩; rfl
  hK := by rintro X ⟨A, o, s, H, g, r, rfl⟩; rfl
  hmg := by rintro X ⟨A, o, s, H, g, r, rfl⟩; rfl
  hbase := by rintro X ⟨A, o, s, H, g, r, rfl⟩; rfl
  calm := by rintro X ⟨A, o, s, H, g, r, rfl⟩; rfl
  room := by rintro X ⟨A, o, s, H, g, r, rfl⟩; exact r
  grd := by rintro X ⟨A, o, s, H, g, r, rfl⟩; exact g
  jk := fun J => JOk P w K mg base Sg J
  jkc := fun _ _ o h => o.le h
  jok := fun _ o => o
  po := by rintro X ⟨A, o, s, H, g, r, rfl⟩; exact PassesOwn.never
/-- THE RULE for a def -/
theorem fnG_any {x qual : Str} {st : Stmt} {f : Addr} {fd : FuncData} {N ps : List Str} {k : Nat} {sp : ASp} {ta : AS} (G : Fun K x qual st f fd) (S : FnScope N ps (defScope st))
    (hb : BV (Fam.ofDef P w K mg base Sg k N (defScope st) qual f fd.code S.nd) (defBody st) ta)
    (hq : ∀ J ws m ih H Qa Q, ws.length = ps.length → Sim K J m ih H → sp ws ih Qa → Fu K J m ih H Qa Q → ∃ Da : AEnds, ta Da (startA N ws) ih ∧ Fd K J m ih H Da { nx := fun _ H' => Q .non H', rt := Q }) : FnG P w K mg base Sg (k + 1) f fd ps sp := by
  refine ⟨fun A outer s H args us vs Q hg hr he hbd hv hl ⟨J, m, ih, ws, Qa, jo, S0, r, q, fu⟩ => ?_⟩
  obtain ⟨oc, od, kV, doc, pm, an, cdv, ct, osl, rfl, lk, hcd⟩ := G.ex
  have KX : K.In s.heap := he.mod.kin.keeps fun b o e => (he.bs b o e).1
  have lim : s.heap.NoLimit := he.mod.nolimit.keeps fun b o e => (he.bs b o e).1
  have kinds : ∀ y ∈ ps.zip us, (defScope st).names.lookup y.1 = some .local ∨ ((defScope st).names.lookup y.1 = some .cell ∧ ((cellsFrom (s.heap.objs.size + 1) (defScope st).names []).lookup y.1).isSome = true) := fun y hy => by
    obtain ⟨n, u⟩ := y
    exact (S.par n (List.of_mem_zip hy).1).elim .inl fun z => .inr ⟨z, PySem.W.cellsFrom_some _ _ _ (.inl z)⟩
  refine codeAny_call_function hr.depth (KX _ _ lk) rfl S.co S.gen rfl (PySem.W.codeRec_of KX hcd) (hbd _ _ _ _ ?_)
  refine wpAny_newFunctionEnv_cells S.kind kinds fun env e2 s1 x => ?_
  subst e2
  refine ⟨lim.keeps x.toInCall.keep, codeAny_func ?_⟩
  obtain ⟨t, pt, rt⟩ := hb
  have I := inv_start (CX := CX0) (P := P) (w := w) (E := E0) (qual := qual) (f := f) (cd := cdv) S hr.hd he hl hv x
  obtain ⟨Da, h1, h2⟩ := hq J ws m ih H Qa Q (by rw [← hl, Paired.len2 r]) S0 q fu
  have body := (pt _ ⟨A, outer, s, H, hg, hr.deeper _, rfl⟩).nox
  refine wpAny_mono (body.run [] s1 (L2.start N vs) H _ I (rt J jo m ih H _ _ Da _ S0 (startA_env r) h1 h2)) (fun fl s' hs => ?_) fun e s' hs => hs
  cases fl with
  | ret u =>
    obtain ⟨v, σ', H', I', rv, q'⟩ := hs
    exact ⟨v, H', I'.os, I'.bare, I'.base, I'.hok, rv, q'⟩
  | next =>
    obtain ⟨σ', H', I', q'⟩ := hs
    exact ⟨.non, H', I'.os, I'.bare, I'.base, I'.hok, rfl, q'⟩
  | brk => obtain ⟨_, _, _, z⟩ := hs; exact False.elim z
  | cont => obtain ⟨_, _, _, z⟩ := hs; exact False.elim z
theorem fd_fn {J : JT} {m : List Addr} {ih : IH} {H : Hp} {Qa : QW} {Q : VK} (f : Fu K J m ih H Qa Q) : Fd K J m ih H { nx := fun _ ih' => Qa (.d .none) ih', rt := Qa } { nx := fun _ H' => Q .non H', rt := Q } :=
  ⟨fun m1 ih1 H1 env σ S1 x1 E1 k1 => f m1 ih1 H1 _ _ S1 x1 WR.non k1, f, fun m1 ih1 H1 env σ S1 x1 E1 k1 => k1, fun m1 ih1 H1 env σ S1 x1 E1 k1 => k1⟩
/-- .. that hands back data and leaves the objects that were there -/
theorem fnG_of {x qual : Str} {st : Stmt} {f : Addr} {fd : FuncData} {N ps : List Str} {k : Nat} {sp : ASp} {ta : AS} (G : Fun K x qual st f fd) (S : FnScope N ps (defScope st))
    (hb : BV (Fam.ofDef P w K mg base Sg k N (defScope st) qual f fd.code S.nd) (defBody st) ta)
    (hq : ∀ ws ih Qa, ws.length = ps.length → sp ws ih Qa → ta { nx := fun _ ih' => finD ih Qa (.d .none) ih', rt := finD ih Qa } (startA N ws) ih) : FnG P w K mg base Sg (k + 1) f fd ps sp :=
  fnG_any G S hb fun J ws m ih H Qa Q hl S0 q fu => ⟨_, hq ws ih Qa hl q, fd_fn (finD_fu S0 fu)⟩
/-- .. that hands back anything -/
theorem fnG_ofI {x qual : Str} {st : Stmt} {f : Addr} {fd : FuncData} {N ps : List Str} {k : Nat} {sp : ASp} {ta : AS} (G : Fun K x qual st f fd) (S : FnScope N ps (defScope st))
    (hb : BV (Fam.ofDef P w K mg base Sg k N (defScope st) qual f fd.code S.nd) (defBody st) ta)
    (hq : ∀ ws ih Qa, ws.length = ps.length → sp ws ih Qa → ta { nx := fun _ ih' => Qa (.d .none) ih', rt := Qa } (startA N ws) ih) : FnG P w K mg base Sg (k + 1) f fd ps sp :=
  fnG_any G S hb fun J ws m ih H Qa Q hl S0 q fu => ⟨_, hq ws ih Qa hl q, fd_fn fu⟩
end

/-! ### calls -/
def pick {α : Type} (is : List Nat) (xs : List α) : List α := is.filterMap fun i => xs[i]?
theorem pick_paired {α β : Type} {G : α → β → Prop} {xs : List α} {ys : List β} (h : Paired G xs ys) : ∀ is : List Nat, Paired G (pick is xs) (pick is ys)
  | [] => .nil
  | i :: is => by
    have r := pick_paired h is
    unfold pick at r ⊢
    rw [List.filterMap_cons, List.filterMap_cons]
    cases e : xs[i]? with
    | none =>
      have e2 : ys[i]? = none := List.getElem?_eq_none (by rw [Paired.len2 h]; exact List.getElem?_eq_none_iff.mp e)
      rw [e2]
      exact r
    | some a =>
      obtain ⟨b, e2, g⟩ := paired_get h e
      rw [e2]
      exact .cons g r
theorem paired_app {α β : Type} {G : α → β → Prop} : ∀ {xs zs : List α} {ys us : List β}, Paired G xs ys → Paired G zs us → Paired G (xs ++ zs) (ys ++ us)
  | _, _, _, _, .nil, h => h
  | _, _, _, _, .cons r t, h => .cons r (paired_app t h)
def KV1 (F : Fam) (kws : List Keyword) (ta : AA) : Prop := ∃ t, (∀ X, F.ok X → PK X kws t) ∧ RA F t ta
def aCall (n : Nat) (sp : ASp) (ta : AA) : AE := fun env ih Q => ta env ih fun ws ih1 => ws.length = n ∧ sp ws ih1 Q
def aCallK (a b : Nat) (is : List Nat) (sp : ASp) (ta tk : AA) : AE := fun env ih Q => ta env ih fun ws ih1 => tk env ih1 fun zs ih2 => ws.length = a ∧ zs.length = b ∧ sp (pick is (ws ++ zs)) ih2 Q
section
variable {F : Fam} {pos p kpos : Pos} {e : Expr} {es : List Expr} {kws : List Keyword} {aa : AE} {ta tk : AA} {x : Str} {f : Addr} {fd : FuncData} {ps ks : List Str} {sp : ASp} {j : Nat} {nm : Option Str}
theorem kv_nil : KV1 F [] aNil := ⟨_, fun _ _ => pk_nil, fun J jk m ih H env σ Qa Q S E h f => f m ih H [] [] S Xt.refl .nil h⟩
theorem kv_cons (h1 : EV F e aa) (h2 : KV1 F kws tk) : KV1 F (⟨nm, e, kpos⟩ :: kws) (aCons aa tk) := by
  obtain ⟨t, p, r⟩ := h1
  obtain ⟨u, p2, r2⟩ := h2
  exact ⟨_, fun X hX => pk_cons (p X hX) (p2 X hX), ra_cons r r2⟩
/-- the callee's promise brings the wish of the caller -/
theorem lift_of {P : Program} {w : World} {K : PySem.W.Frag} {mg : Str → Option Value} {base : Heap} {Sg : Sig} {J : JT} {m m1 : List Addr} {ih ih1 : IH} {H H1 : Hp} {ws : List W} {vs : List V} {Qa : QW} {Q : VK} (jo : JOk P w K mg base Sg J) (S1 : Sim K J m1 ih1 H1) (x1 : Xt m ih H m1 ih1 H1) (r1 : Paired (WR K J m1 ih1 H1) ws vs) (q : sp ws ih1 Qa) (f : Fu K J m ih H Qa Q) : lift P w K mg base Sg sp vs H1 Q :=
  ⟨J, m1, ih1, ws, Qa, jo, S1, r1, q, f.step x1⟩
theorem FnG.at_ {X : Cx} (hX : F.ok X) (G : FnG F.P F.w F.K F.mg F.base F.S j f fd ps sp) : FnG X.prog X.w X.K X.mg X.base F.S j f fd ps sp := by
  rw [F.hP X hX, F.hw X hX, F.hK X hX, F.hmg X hX, F.hbase X hX]
  exact G
theorem runG {X : Cx} (hX : F.ok X) (G : FnG F.P F.w F.K F.mg F.base F.S j f fd ps sp) (hj : j ≤ F.k) {pins : List (Addr × Obj)} {s : Shared} {σ : L2.St} {H : Hp} {Q : VK} {us ws bs : List Value} {vs : List V} (I : Inv X pins σ H s) (r : Vals vs bs) (hl : vs.length = ps.length)
    (hb : BindsTo s fd ⟨us, ks.zip ws⟩ (ps.zip bs)) (h : lift F.P F.w X.K F.mg F.base F.S sp vs H Q) : wpAny (model X.prog X.w) X.A (call (.ref f) us (ks.zip ws)) (EP X pins σ Q) X.xe s := by
  refine wpAny_call (codeAny_mono ((G.at_ hX).run X.A X.stack s H ⟨us, ks.zip ws⟩ bs vs Q (F.grd X hX) ((F.room X hX).mono hj) I.env0 hb r hl (by rw [F.hP X hX, F.hw X hX, F.hmg X hX, F.hbase X hX]; exact h)) fun z s' hz => ?_)
  cases z with
  | error e => exact False.elim hz
  | ok fl =>
    cases fl with
    | ret u => exact I.after hz
    | next => exact False.elim hz
    | brk => exact False.elim hz
    | cont => exact False.elim hz
theorem ev_call (G : FnG F.P F.w F.K F.mg F.base F.S j f fd ps sp) (hj : j ≤ F.k) (hg : Glb F x) (hm : F.mg x = some (.ref f)) (kp : PySem.W.keepIn F.K (.ref f) = true) (hb : Binds F.K fd ps []) (ha : AV F (e :: es) ta)
    (hdb : (x == ("__debug__" : Str)) = false := by decide) (he : ∀ env, starEach (e :: es) env = (false, eval e env) :: starEach es env := by intro _; rfl) (hpl : ∀ env, (backTo pos (starEach es env)).any (·.1) = false := by intro _; rfl) :
    EV F (.Call (.Name x p) (e :: es) [] pos) (aCall ps.length sp ta) := by
  obtain ⟨t, q, r⟩ := ha
  refine ⟨fun σ H Q => t σ H fun vs H1 => vs.length = ps.length ∧ lift F.P F.w F.K F.mg F.base F.S sp vs H1 Q, fun X hX => ?_, fun J jk m ih H env σ Qa Q S E h f => ?_⟩
  · rw [← F.hK X hX]
    refine ⟨fun pins s σ H Q I h => ?_⟩
    refine wpAny_Call_Name_kw (ld_glob I (Fam.gl hX hg) (by rw [F.hmg X hX]; exact hm) ?_ hdb)
    refine PySem.W.callWith_K (h₀ := X.base) I.ok.mod.kin (by rw [F.hK X hX]; exact kp) (thn ((q X hX).run pos pins s σ H _ I h) fun us s1 ⟨vs, H1, I1, rv, hl, q1⟩ => ⟨I1.kIn, ?_⟩) (he _) (hpl _)
    have b := hb s1 us (by have := I1.kIn; rwa [F.hK X hX] at this) (by rw [List.append_nil, ← rv.length]; exact hl)
    rw [List.append_nil] at b
    exact runG hX G hj (ks := []) (ws := []) I1 rv hl b q1
  · refine r J jk m ih H env σ _ _ S E h fun m1 ih1 H1 ws vs S1 x1 r1 q1 => ⟨by rw [Paired.len2 r1]; exact q1.1, lift_of (F.jok J jk) S1 x1 r1 q1.2 f⟩
theorem ev_call0 (G : FnG F.P F.w F.K F.mg F.base F.S j f fd [] sp) (hj : j ≤ F.k) (hg : Glb F x) (hm : F.mg x = some (.ref f)) (kp : PySem.W.keepIn F.K (.ref f) = true) (hb : Binds F.K fd [] []) (hdb : (x == ("__debug__" : Str)) = false := by decide) :
    EV F (.Call (.Name x p) [] [] pos) (aCall 0 sp aNil) := by
  refine ⟨fun σ H Q => lift F.P F.w F.K F.mg F.base F.S sp [] H Q, fun X hX => ?_, fun J jk m ih H env σ Qa Q S E h f => lift_of (F.jok J jk) S Xt.refl .nil h.2 f⟩
  rw [← F.hK X hX]
  refine ⟨fun pins s σ H Q I h => ?_⟩
  refine wpAny_Call_Name_kw (ld_glob I (Fam.gl hX hg) (by rw [F.hmg X hX]; exact hm) ?_ hdb)
  refine PySem.W.callWith_K0 I.kIn (by rw [F.hK X hX]; exact kp) ?_
  exact runG hX G hj (ks := []) (ws := []) (us := []) (bs := []) I .nil rfl (hb s [] (by have := I.kIn; rwa [F.hK X hX] at this) rfl) h
/-- how a call with keywords binds -/
def KB (fd : FuncData) (ps ks : List Str) (a b : Nat) (is : List Nat) : Prop := ∀ (s : Shared) (us ws : List Value), us.length = a → ws.length = b → (pick is (us ++ ws)).length = ps.length ∧ BindsTo s fd ⟨us, ks.zip ws⟩ (ps.zip (pick is (us ++ ws)))
theorem ev_callK {a b : Nat} {is : List Nat} (G : FnG F.P F.w F.K F.mg F.base F.S j f fd ps sp) (hj : j ≤ F.k) (hg : Glb F x) (hm : F.mg x = some (.ref f)) (kp : PySem.W.keepIn F.K (.ref f) = true) (hb : KB fd ps ks a b is) (ha : AV F (e :: es) ta) (hkw : KV1 F kws tk)
    (hall : ∀ env, (backToKw pos (keywordEach kws env)).all (·.1.isSome) = true := by intro _; rfl) (hks : ∀ env, (backToKw pos (keywordEach kws env)).filterMap (·.1) = ks := by intro _; rfl)
    (hdb : (x == ("__debug__" : Str)) = false := by decide) (he : ∀ env, starEach (e :: es) env = (false, eval e env) :: starEach es env := by intro _; rfl)
    (hpl : ∀ env, ((backTo pos (starEach (e :: es) env)).any (·.1) || (backToKw pos (keywordEach kws env)).any (·.1.isNone)) = false := by intro _; rfl) :
    EV F (.Call (.Name x p) (e :: es) kws pos) (aCallK a b is sp ta tk) := by
  obtain ⟨t, q, r⟩ := ha
  obtain ⟨u, q2, r2⟩ := hkw
  refine ⟨fun σ H Q => t σ H fun vs H1 => u σ H1 fun zs H2 => (vs.length = a ∧ zs.length = b) ∧ lift F.P F.w F.K F.mg F.base F.S sp (pick is (vs ++ zs)) H2 Q, fun X hX => ?_, fun J jk m ih H env σ Qa Q S E h f => ?_⟩
  · rw [← F.hK X hX]
    refine ⟨fun pins s σ H Q I h => ?_⟩
    refine wpAny_Call_Name_kw (ld_glob I (Fam.gl hX hg) (by rw [F.hmg X hX]; exact hm) ?_ hdb)
    refine PySem.W.callWith_KW (h₀ := X.base) I.ok.mod.kin (by rw [F.hK X hX]; exact kp) (hall _) (thn ((q X hX).run pos pins s σ H _ I h) fun us s1 ⟨vs, H1, I1, rv, q1⟩ => ?_) (hpl _) (he _)
    refine thn ((q2 X hX).run pos pins s1 σ H1 _ I1 q1) fun ws s2 ⟨zs, H2, I2, rz, hl, q3⟩ => ⟨I2.kIn, ?_⟩
    rw [hks]
    obtain ⟨e1, b1⟩ := hb s2 us ws (by rw [← rv.length]; exact hl.1) (by rw [← rz.length]; exact hl.2)
    have rp : Vals (pick is (vs ++ zs)) (pick is (us ++ ws)) := pick_paired (paired_app rv rz) is
    exact runG hX G hj I2 rp (by rw [rp.length]; exact e1) b1 q3
  · refine r J jk m ih H env σ _ _ S E h fun m1 ih1 H1 ws vs S1 x1 r1 q1 => ?_
    refine r2 J jk m1 ih1 H1 env σ _ _ S1 (E.mono S x1) q1 fun m2 ih2 H2 ws2 vs2 S2 x2 r2 q2 => ⟨⟨by rw [Paired.len2 r1]; exact q2.1, by rw [Paired.len2 r2]; exact q2.2.1⟩, lift_of (F.jok J jk) S2 (x1.trans x2) (pick_paired (paired_app (paired_mono S1 x2 r1) r2) is) q2.2.2 f⟩
theorem ev_callK0 {b : Nat} {is : List Nat} (G : FnG F.P F.w F.K F.mg F.base F.S j f fd ps sp) (hj : j ≤ F.k) (hg : Glb F x) (hm : F.mg x = some (.ref f)) (kp : PySem.W.keepIn F.K (.ref f) = true) (hb : KB fd ps ks 0 b is) (hkw : KV1 F kws tk)
    (hall : ∀ env, (backToKw pos (keywordEach kws env)).all (·.1.isSome) = true := by intro _; rfl) (hks : ∀ env, (backToKw pos (keywordEach kws env)).filterMap (·.1) = ks := by intro _; rfl)
    (hdb : (x == ("__debug__" : Str)) = false := by decide)
    (hpl : ∀ env, ((backTo pos (starEach [] env)).any (·.1) || (backToKw pos (keywordEach kws env)).any (·.1.isNone)) = false := by intro _; rfl) :
    EV F (.Call (.Name x p) [] kws pos) (aCallK 0 b is sp aNil tk) := by
  obtain ⟨u, q2, r2⟩ := hkw
  refine ⟨fun σ H Q => u σ H fun zs H2 => zs.length = b ∧ lift F.P F.w F.K F.mg F.base F.S sp (pick is ([] ++ zs)) H2 Q, fun X hX => ?_, fun J jk m ih H env σ Qa Q S E h f => ?_⟩
  · rw [← F.hK X hX]
    refine ⟨fun pins s σ H Q I h => ?_⟩
    refine wpAny_Call_Name_kw (ld_glob I (Fam.gl hX hg) (by rw [F.hmg X hX]; exact hm) ?_ hdb)
    refine PySem.W.callWith_KW0 (h₀ := X.base) I.ok.mod.kin (by rw [F.hK X hX]; exact kp) (hall _) ?_ (hpl _)
    refine thn ((q2 X hX).run pos pins s σ H _ I h) fun ws s2 ⟨zs, H2, I2, rz, hl, q3⟩ => ⟨I2.kIn, ?_⟩
    rw [hks]
    obtain ⟨e1, b1⟩ := hb s2 [] ws rfl (by rw [← rz.length]; exact hl)
    have rp : Vals (pick is ([] ++ zs)) (pick is ([] ++ ws)) := pick_paired (paired_app .nil rz) is
    exact runG hX G hj I2 rp (by rw [rp.length]; exact e1) b1 q3
  · refine r2 J jk m ih H env σ _ _ S E h fun m2 ih2 H2 ws2 vs2 S2 x2 r2 q2 => ⟨by rw [Paired.len2 r2]; exact q2.2.1, lift_of (F.jok J jk) S2 x2 (pick_paired (paired_app .nil r2) is) q2.2.2 f⟩
end
end Pz

end
section
set_option Elab.async false
set_option linter.all false
set_option maxRecDepth 100000
set_option autoImplicit false
/-! Fw10: comprehensions; zip, enumerate. -/
namespace Pz
open PySem PySem.Spec L2 LamX

/-- the blocks of a comprehension -/
def Fam.blk (F : Fam) (scope : Scope) : Fam where
  ok := fun Y => ∃ X s H C cl fp, F.ok X ∧ Y = X.blk s H scope (compEnvC scope cl C X.env) fp
  N := F.N
  sc := relS scope F.sc
  P := F.P
  w := F.w
  K := F.K
  mg := F.mg
  base := F.base
  k := F.k
  S := F.S
  nd := F.nd
  hN := by rintro Y ⟨X, s, H, C, cl, fp, h, rfl⟩; exact F.hN X h
  hsc := by rintro Y ⟨X, s, H, C, cl, fp, h, rfl⟩; rw [← F.hsc X h]; rfl
  hP := by rintro Y ⟨X, s, H, C, cl, fp, h, rfl⟩; exact F.hP X h
  hw := by rintro Y ⟨X, s, H, C, cl, fp, h, rfl⟩; exact F.hw X h
  hK := by rintro Y ⟨X, s, H, C, cl, fp, h, rfl⟩; exact F.hK X h
  hmg := by rintro Y ⟨X, s, H, C, cl, fp, h, rfl⟩; exact F.hmg X h
  hbase := by rintro Y ⟨X, s, H, C, cl, fp, h, rfl⟩; exact F.hbase X h
  calm := by rintro Y ⟨X, s, H, C, cl, fp, h, rfl⟩; exact F.calm X h
  room := by rintro Y ⟨X, s, H, C, cl, fp, h, rfl⟩; exact F.room X h
  grd := by rintro Y ⟨X, s, H, C, cl, fp, h, rfl⟩; exact F.grd X h
  jk := F.jk
  jkc := F.jkc
  jok := F.jok
  po := by rintro Y ⟨X, s, H, C, cl, fp, h, rfl⟩; exact PassesOwn.never

/-- the tests of a comprehension -/
def TVs (F : Fam) (es : List Expr) (ta : AT) : Prop := ∃ t, (∀ X, F.ok X → PTs X es t) ∧ RT F t ta
def aYes : AT := fun _ ih Q => Q true ih
section
variable {F : Fam}
theorem tvs_nil : TVs F [] aYes := ⟨tYes, fun _ _ => pts_nil, fun J jk m ih H env σ Qa Q S E h f => f.now S h⟩
theorem tvs_one {e : Expr} {ta : AT} (h : TV F e ta) : TVs F [e] ta := let ⟨_, p, q⟩ := h; ⟨_, fun X hX => pts_one (p X hX), q⟩
end
/-- the names of a comprehension forgotten -/
def wipeA (env : En) : List Nat → En
  | [] => env
  | v :: vs => (wipeA env vs).set v none
section
variable {K : PySem.W.Frag} {J : JT} {m : List Addr} {ih : IH} {H : Hp}
theorem EnvR.wipe {env : En} {σ : L2.St} (E : EnvR K J m ih H env σ) : ∀ vs : List Nat, EnvR K J m ih H (wipeA env vs) (L2.wipe σ vs)
  | [] => E
  | v :: vs => by
    have r := EnvR.wipe E vs
    refine ⟨by unfold wipeA L2.wipe; rw [List.length_set, List.length_set]; exact r.len, fun i w e => ?_⟩
    unfold wipeA at e
    unfold L2.wipe
    by_cases hi : v = i
    · subst hi
      by_cases hl : v < (wipeA env vs).length
      · rw [List.getElem?_set_self hl] at e; cases e
      · rw [List.getElem?_eq_none (by rw [List.length_set]; omega)] at e; cases e
    · rw [List.getElem?_set_ne hi] at e
      obtain ⟨u, e2, r2⟩ := r.at_ i w e
      exact ⟨u, by rw [List.getElem?_set_ne hi]; exact e2, r2⟩
end
/-- [elt for tg in iter if ..]: a word about the turn, what is made so far, and the mutable objects -/
def aLc (ai : AI) (ga : AG) (tt : AT) (te : AE) (vs : List Nat) : AE := fun env ih Q => ai env ih fun ds ih1 => ∃ Iv : Nat → List D → IH → Prop, Iv 0 [] ih1 ∧
  (∀ i d acc ih2, ds[i]? = some d → Iv i acc ih2 → acc.length ≤ i → ga (.d d) (wipeA env vs) ih2 fun env3 ih3 => tt env3 ih3 fun b ih4 =>
    if b = true then te env3 ih4 fun w ih5 => match w with
      | .d x => Iv (i + 1) (acc ++ [x]) ih5
      | _ => False
    else Iv (i + 1) acc ih4) ∧ ds.length ≤ sizeLine ∧ ∀ acc ih2, acc.length ≤ ds.length → Iv ds.length acc ih2 → Q (.d (.list acc)) ih2
/-- the state while a comprehension runs: its list stands at D -/
def jIn (J : JT) (m1 : List Addr) (ih1 : IH) (H1 : Hp) (D : Addr) : JT where
  hid := D :: J.hid
  p := fun m ih H => Xt m1 ih1 H1 m ih H ∧ J.p m ih H
  cal := J.cal
  cl := fun m ih H m' ih' H' h x => ⟨h.1.trans x, J.cl _ _ _ _ _ _ h.2 x⟩
section
variable {K : PySem.W.Frag} {J : JT} {m m1 : List Addr} {ih ih1 : IH} {H H1 : Hp} {D : Addr}
theorem jIn_ok (hD : H1 D = none) : HidOk J (jIn J m1 ih1 H1 D) H1 := ⟨fun a h => (List.mem_cons.mp h).elim (fun z => .inr (by rw [z]; exact hD)) .inl, fun _ _ _ h => h⟩
theorem jIn_le (hD : H1 D = none) (hp : J.p m1 ih1 H1) : JLe J (jIn J m1 ih1 H1 D) := ⟨fun _ _ _ h => h.2, fun _ _ _ => Iff.rfl, fun _ h => List.mem_cons_of_mem _ h, fun m0 ih0 H0 lo a h => (List.mem_cons.mp h).elim (fun z => .inr (by rw [z]; exact (lo _ _ _ hp).there D hD)) .inl⟩
/-- at the start -/
theorem Sim.hide (S : Sim K J m1 ih1 H1) (hD : H1 D = none) (o : HO) : Sim K (jIn J m1 ih1 H1 D) m1 ih1 (upd H1 D o) := by
  have x : Xt m1 ih1 H1 m1 ih1 (upd H1 D o) := Xt.new S hD
  refine ⟨⟨x, J.cl _ _ _ _ _ _ S.j x⟩, S.len, S.nd, fun a h z => S.th a h (x.there a z), fun a h => ?_, fun i a u e1 e2 => ?_⟩
  · rcases List.mem_cons.mp h with e | h
    · subst e
      exact ⟨(by rw [upd_same]; intro z; cases z), fun l => Live.lt S l hD⟩
    · exact S.hd_mono x a h
  · exact (S.ob i a u e1 e2).convX S x (jIn_ok hD) (upd_ne fun z => S.th a (List.mem_of_getElem? e1) (by rw [z]; exact hD))
/-- the list grows -/
theorem Sim.grow {o : HO} (S : Sim K J m ih H) (hm : D ∈ J.hid) (nt : ∀ xs, ¬ Rd H D (.tup xs)) (j : J.p m ih (upd H D o)) : Sim K J m ih (upd H D o) ∧ ∀ (d : Pz.D) (v : V), DR K (Own J m ih) H d v → DR K (Own J m ih) (upd H D o) d v := by
  have hk : ∀ a u, H a = some u → ¬ Own J m ih a → upd H D o a = some u ∧ ¬ Own J m ih a := fun a u e n => ⟨by rw [upd_ne fun z => n (.inr (by rw [z]; exact hm))]; exact e, n⟩
  have ht : ∀ a xs, Rd H a (.tup xs) → Rd (upd H D o) a (.tup xs) := fun a xs q => by
    have hne : a ≠ D := fun z => nt xs (by rw [← z]; exact q)
    rcases q with q | ⟨ob, q⟩
    · exact .inl (by rw [upd_ne hne]; exact q)
    · exact .inr ⟨ob, by rw [upd_ne hne]; exact q⟩
  have dr : ∀ (d : Pz.D) (v : V), DR K (Own J m ih) H d v → DR K (Own J m ih) (upd H D o) d v := fun d v h => DR.conv hk ht h
  have wr : ∀ (w : W) (v : V), WR K J m ih H w v → WR K J m ih (upd H D o) w v := fun w v h => by
    cases w with
    | d y => exact dr y v h
    | ref n => exact h
    | fn n cs => exact h
    | scr ns =>
      obtain ⟨a, e, q⟩ := h
      rcases q with ⟨q, l⟩ | q
      · have hne : a ≠ D := fun z => l (.inr (by rw [z]; exact hm))
        refine ⟨a, e, .inl ⟨?_, l⟩⟩
        rcases q with q | ⟨ob, q⟩
        · exact .inl (by rw [upd_ne hne]; exact q)
        · exact .inr ⟨ob, by rw [upd_ne hne]; exact q⟩
      · exact ⟨a, e, .inr q⟩
  refine ⟨⟨j, S.len, S.nd, fun a h z => ?_, fun a h => ⟨fun z => ?_, (S.hd a h).2⟩, fun i a u e1 e2 => ?_⟩, dr⟩
  · by_cases e : a = D
    · rw [e, upd_same] at z; cases z
    · rw [upd_ne e] at z; exact S.th a h z
  · by_cases e : a = D
    · rw [e, upd_same] at z; cases z
    · rw [upd_ne e] at z; exact (S.hd a h).1 z
  · have q := S.ob i a u e1 e2
    cases hl : u.isLive with
    | true =>
      have hne : a ≠ D := fun z => (S.hd D hm).2 (by rw [← z]; exact ⟨i, u, e1, e2, hl⟩)
      cases u with
      | dead => exact True.intro
      | lst ws =>
        obtain ⟨vs, e, r⟩ := q
        exact ⟨vs, by rw [upd_ne hne]; exact e, Paired.mapR r fun _ _ z => ⟨z.1, wr _ _ z.2⟩⟩
      | dic ws =>
        obtain ⟨vs, e, r⟩ := q
        exact ⟨vs, by rw [upd_ne hne]; exact e, Paired.mapR r fun _ _ z => ⟨z.1, z.2.1, wr _ _ z.2.2⟩⟩
      | tab q =>
        obtain ⟨ps, e, ht, hc⟩ := q
        refine ⟨ps, by rw [upd_ne hne]; exact e, ht, fun pos cv z => ?_⟩
        obtain ⟨c, e1, e2, n⟩ := hc pos cv z
        exact ⟨c, e1, by rw [upd_ne fun z => n (.inr (by rw [z]; exact hm))]; exact e2, n⟩
    | false =>
      cases u with
      | dead => exact True.intro
      | lst _ => cases hl
      | dic _ => cases hl
      | tab _ => cases hl
theorem drs_each {L : Addr → Prop} {H' : Hp} : ∀ {ds : List Pz.D} {vs : List V}, DRs K L H ds vs → (∀ (d : Pz.D) (v : V), DR K L H d v → DR K L H' d v) → DRs K L H' ds vs
  | [], vs, h, _ => by unfold DRs at h ⊢; exact h
  | d :: ds, vs, h, k => by
    unfold DRs at h ⊢
    obtain ⟨v, r, rfl, h1, h2⟩ := h
    exact ⟨v, r, rfl, k d v h1, drs_each h2 k⟩
/-- behind the comprehension: the outer set again -/
theorem WR.back (h : ∀ a, a ∈ J.hid → a ∈ (jIn J m1 ih1 H1 D).hid) {w : W} {v : V} (r : WR K (jIn J m1 ih1 H1 D) m ih H w v) : WR K J m ih H w v := by
  have sub : ∀ a, Own J m ih a → Own (jIn J m1 ih1 H1 D) m ih a := fun a z => z.elim .inl fun y => .inr (h a y)
  cases w with
  | d y => exact DR.less (L := Own (jIn J m1 ih1 H1 D) m ih) sub r
  | ref n => exact r
  | fn n cs => exact r
  | scr ns =>
    obtain ⟨a, e, q⟩ := r
    exact ⟨a, e, q.elim (fun z => .inl ⟨z.1, fun y => z.2 (sub a y)⟩) .inr⟩
theorem jIn_sub : ∀ a, a ∈ J.hid → a ∈ (jIn J m1 ih1 H1 D).hid := fun _ h => List.mem_cons_of_mem _ h
theorem Sim.back (S : Sim K (jIn J m1 ih1 H1 D) m ih H) : Sim K J m ih H := by
  refine ⟨S.j.2, S.len, S.nd, S.th, fun a h => S.hd a (jIn_sub a h), fun i a o e1 e2 => ?_⟩
  have q := S.ob i a o e1 e2
  cases o with
  | dead => exact True.intro
  | lst ws =>
    obtain ⟨vs, e, r⟩ := q
    exact ⟨vs, e, Paired.mapR r fun _ _ z => ⟨z.1, z.2.back jIn_sub⟩⟩
  | dic ws =>
    obtain ⟨vs, e, r⟩ := q
    exact ⟨vs, e, Paired.mapR r fun _ _ z => ⟨z.1, z.2.1, z.2.2.back jIn_sub⟩⟩
  | tab q' =>
    obtain ⟨ps, e, ht, hc⟩ := q
    refine ⟨ps, e, ht, fun pos cv z => ?_⟩
    obtain ⟨c, e1, e2, n⟩ := hc pos cv z
    exact ⟨c, e1, e2, fun l => n (l.elim .inl fun y => .inr (jIn_sub c y))⟩
end

section
variable {F : Fam} {pos : Pos} {elt tg iter : Expr} {ifs : List Expr} {scope : Scope} {own : List (Str × Nat)} {ai : AI} {ga : AG} {tt : AT} {te : AE}
/-- the reading of a comprehension -/
theorem re_lc {wi : TI} {g : TG} {t : TT} {u : TE} {vs : List Nat} (hi : RI F wi ai) (hg : RG (F.blk scope) g ga) (hog : OnlyG vs g) (ht : RT (F.blk scope) t tt) (he : RE (F.blk scope) u te) : RE F (tLc wi g t u vs) (aLc ai ga tt te vs) := fun J jk m ih H env σ Qa Q S E h f => by
  refine hi J jk m ih H env σ _ _ S E h fun m1 ih1 H1 T ds S1 x1 Y k1 => ?_
  obtain ⟨Iv, i0, turn, hz, done⟩ := k1
  intro D hD
  have E1 := E.mono S x1
  have jk' : (F.blk scope).jk (jIn J m1 ih1 H1 D) := F.jkc J _ jk (jIn_le hD S1.j)
  let St' : Nat → Hp → Prop := fun i H' => ∃ m' ih' acc accV, Sim F.K (jIn J m1 ih1 H1 D) m' ih' H' ∧ Xt m1 ih1 H1 m' ih' H' ∧ H' D = some (.lst accV) ∧ DRs F.K (Own (jIn J m1 ih1 H1 D) m' ih') H' acc accV ∧ Iv i acc ih' ∧ acc.length ≤ i
  refine ⟨fun i k H' => k = ds.length - i ∧ i ≤ ds.length ∧ St' i H', ⟨ds.length, by simp, Nat.zero_le _, m1, ih1, [], [], S1.hide hD _, Xt.new S1 hD, upd_same, DRs.nil, i0, Nat.zero_le _⟩, ?_⟩
  rintro i k H2 ⟨rfl, hi2, m2, ih2, acc, accV, S2, x2, d2, r2, v2, l2⟩
  by_cases hlt : i < ds.length
  · refine .inr ⟨Y.go m2 ih2 H2 i x2 hlt, fun H' => i + 1 ≤ ds.length ∧ St' (i + 1) H', fun H' w => ⟨ds.length - (i + 1), by omega, rfl, w.1, w.2⟩, fun x H3 y => ?_⟩
    obtain ⟨S3, x3, d, ed, rd⟩ := Y.yld (jIn J m1 ih1 H1 D) m2 ih2 H2 i x H3 (jIn_ok hD) S2 x2 hlt y
    have x13 := x2.trans x3
    have E3 : EnvR F.K (jIn J m1 ih1 H1 D) m2 ih2 H3 (wipeA env vs) (L2.wipe σ vs) := EnvR.wipe (E1.convX S1 x13 (jIn_ok hD)) vs
    have hgo : g x (L2.wipe σ vs) H3 fun σ4 H4 => t σ4 H4 fun b H5 => if b = true then u σ4 H5 fun y H6 => ∃ acc, H6 D = some (.lst acc) ∧ acc.length < sizeLine ∧ (fun H' => i + 1 ≤ ds.length ∧ St' (i + 1) H') (upd H6 D (.lst (acc ++ [y]))) else (fun H' => i + 1 ≤ ds.length ∧ St' (i + 1) H') H5 := by
      refine hg _ jk' m2 ih2 H3 _ _ (.d d) x _ _ S3 E3 rd (turn i d acc ih2 ed v2 l2) fun m4 ih4 H4 env4 σ4 S4 x4 E4 k4 => ?_
      refine ht _ jk' m4 ih4 H4 env4 σ4 _ _ S4 E4 k4 fun m5 ih5 H5 b S5 x5 k5 => ?_
      have x15 := (x13.trans x4).trans x5
      have xd := (x3.trans x4).trans x5
      have nl := (S2.hd D (by show D ∈ D :: J.hid; simp)).2
      cases b with
      | true =>
        rw [if_pos rfl] at k5 ⊢
        refine he _ jk' m5 ih5 H5 env4 σ4 _ _ S5 (E4.mono S4 x5) k5 fun m6 ih6 H6 w v S6 x6 r6 k6 => ?_
        have xd6 := xd.trans x6
        have e6 := (xd6.keep D _ d2 nl).1
        split at k6
        · rename_i y
          have acl : accV.length < sizeLine := by rw [r2.len]; omega
          refine ⟨accV, e6, acl, hlt, m6, ih6, acc ++ [y], accV ++ [v], ?_⟩
          have x16 : Xt m1 ih1 H1 m6 ih6 (upd H6 D (.lst (accV ++ [v]))) := by
            have q := x15.trans x6
            exact ⟨q.pre, fun a o e n => ⟨by rw [upd_ne (ne_of_none e hD)]; exact (q.keep a o e n).1, (q.keep a o e n).2⟩, fun a e => by
              by_cases ha : a = D
              · rw [ha]; exact hD
              · rw [upd_ne ha] at e; exact q.there a e⟩
          obtain ⟨S7, dr⟩ := S6.grow (D := D) (o := .lst (accV ++ [v])) (by show D ∈ D :: J.hid; simp) (fun xs q => by rcases q with q | ⟨ob, q⟩ <;> (rw [e6] at q; cases q)) ⟨x16, J.cl _ _ _ _ _ _ S1.j x16⟩
          refine ⟨S7, x16, upd_same, DRs.app ?_ (DRs.cons (dr _ _ r6) DRs.nil), k6, by rw [List.length_append]; simp; omega⟩
          have ra := DRs.mono S2 xd6 acc accV r2
          exact drs_each ra dr
        · exact k6.elim
      | false =>
        rw [if_neg Bool.false_ne_true] at k5 ⊢
        exact ⟨hlt, m5, ih5, acc, accV, S5, x15, (xd.keep D _ d2 nl).1, DRs.mono S2 xd acc accV r2, k5, by omega⟩
    exact hog x _ H3 _ _ hgo fun σ4 H4 e4 q4 => ⟨by rw [e4, wipe_wipe], q4⟩
  · have e1 : i = ds.length := by omega
    subst e1
    refine .inl ⟨Y.stop m2 ih2 H2 x2, f m2 ih2 H2 (.d (.list acc)) _ S2.back (x1.trans x2) ?_ (done acc ih2 l2 v2)⟩
    have nl := (S2.hd D (by show D ∈ D :: J.hid; simp)).2
    have nh : D ∉ J.hid := fun z => (S1.hd D z).1 hD
    exact DR.lst (L := Own J m2 ih2) d2 (fun z => z.elim nl nh) (DRs.less (L := Own (jIn J m1 ih1 H1 D) m2 ih2) (fun a z => z.elim .inl fun y => .inr (jIn_sub a y)) r2)
end
end Pz

end
section
set_option Elab.async false
set_option linter.all false
set_option maxRecDepth 100000
set_option autoImplicit false
/-! Fw11: comprehensions as expressions; zip, enumerate; changing lists and dicts. -/
namespace Pz
open PySem PySem.Spec L2 LamX RZ

section
variable {F : Fam} {pos spos p pt : Pos} {elt tg iter e e2 o i : Expr} {es elts : List Expr} {ifs : List Expr} {scope : Scope} {own : List (Str × Nat)} {ai : AI} {ga : AG} {tt : AT} {te aa ab ac : AE} {ta : AA}
theorem ev_lc (own : List (Str × Nat)) (hi : IV F tg iter ai) (ok : blkC F.N F.sc scope own = true) (hg : GW (F.blk scope) (own.map (·.2)) tg ga) (ht : TVs (F.blk scope) ifs tt) (he : EV (F.blk scope) elt te)
    (hs : ∀ env x, foldedSetIterable iter env x = pure x := by intro _ _; rfl) : EV F (.ListComp elt [⟨tg, iter, ifs, 0⟩] scope pos) (aLc ai ga tt te (own.map (·.2))) := by
  obtain ⟨wi, p1, q1⟩ := hi
  obtain ⟨g, p2, q2, og⟩ := hg
  obtain ⟨t, p3, q3⟩ := ht
  obtain ⟨u, p4, q4⟩ := he
  refine ⟨tLc wi g t u (own.map (·.2)), fun X hX => ?_, re_lc q1 q2 og q3 q4⟩
  exact pe_lc (F.calm X hX) (by rw [F.hN X hX]; exact F.nd) (p1 X hX) (blkOk_by (by rw [F.hN X hX, F.hsc X hX]; exact ok)) (fun s H C cl fp => p2 _ ⟨X, s, H, C, cl, fp, hX, rfl⟩) (fun s H C cl fp => p3 _ ⟨X, s, H, C, cl, fp, hX, rfl⟩) (fun s H C cl fp => p4 _ ⟨X, s, H, C, cl, fp, hX, rfl⟩) (hs _)
/-- x = [..] on one line -/
theorem sv_setLc (j : Nat) (own : List (Str × Nat)) {y : Str} {py : Pos} (hi : IV F tg iter ai) (ok : blkC F.N F.sc scope own = true) (hg : GW (F.blk scope) (own.map (·.2)) tg ga) (ht : TVs (F.blk scope) ifs tt) (he : EV (F.blk scope) elt te)
    (hsw : ∀ env, env.scope = F.sc → swapsWith (.ListComp elt [⟨tg, iter, ifs, 0⟩] scope pos) (some (.Name y py)) spos.line env = pure true) (hj : F.N[j]? = some y := by rfl) (hy : F.sc.names.lookup y = some .local := by rfl)
    (hs : ∀ env x, foldedSetIterable iter env x = pure x := by intro _ _; rfl) : SV F (.Assign [.Name y py] (.ListComp elt [⟨tg, iter, ifs, 0⟩] scope pos) spos) (aAsg (aLc ai ga tt te (own.map (·.2))) (aGN j)) := by
  obtain ⟨wi, p1, q1⟩ := hi
  obtain ⟨g, p2, q2, og⟩ := hg
  obtain ⟨t, p3, q3⟩ := ht
  obtain ⟨u, p4, q4⟩ := he
  refine ⟨tAsg (tLc wi g t u (own.map (·.2))) (gName j), fun X hX => ?_, fun J jk m ih H env σ Da D S E h f => ?_⟩
  · exact ps_setLc (F.calm X hX) (by rw [F.hN X hX]; exact F.nd) (by rw [F.hN X hX]; exact hj) (by rw [F.hsc X hX]; exact hy) (hsw _ (F.hsc X hX)) (p1 X hX) (blkOk_by (by rw [F.hN X hX, F.hsc X hX]; exact ok)) (fun s H C cl fp => p2 _ ⟨X, s, H, C, cl, fp, hX, rfl⟩) (fun s H C cl fp => p3 _ ⟨X, s, H, C, cl, fp, hX, rfl⟩) (fun s H C cl fp => p4 _ ⟨X, s, H, C, cl, fp, hX, rfl⟩) (hs _)
  · refine re_lc q1 q2 og q3 q4 J jk m ih H env σ _ _ S E h fun m1 ih1 H1 w v S1 x1 r1 k1 => ?_
    exact f.nx m1 ih1 H1 _ _ S1 x1 ((E.mono S x1).set r1) k1

/-! ### zip, enumerate -/
def zipD (xs ys : List D) : List D := List.zipWith (fun x y => PyData.tuple [x, y]) xs ys
theorem zipD_len (xs ys : List D) : (zipD xs ys).length = min xs.length ys.length := by unfold zipD; rw [List.length_zipWith]
theorem zipD_get {xs ys : List D} {k : Nat} {x y : D} (h1 : xs[k]? = some x) (h2 : ys[k]? = some y) : (zipD xs ys)[k]? = some (.tuple [x, y]) := by
  unfold zipD
  rw [List.getElem?_zipWith, h1, h2]
section
variable {K : PySem.W.Frag} {J : JT} {m : List Addr} {ih : IH} {H : Hp} {a b : Addr} {xs ys : List D} {us vs : List V}
theorem yld_pair {J' : JT} {m1 : List Addr} {ih1 : IH} {H1 : Hp} {T : Addr} {x y : V} {dx dy : D} (S1 : Sim K J' m1 ih1 H1) (hT : H1 T = none) (r1 : DR K (Own J' m1 ih1) H1 dx x) (r2 : DR K (Own J' m1 ih1) H1 dy y) :
    Sim K J' m1 ih1 (upd H1 T (.tup [x, y])) ∧ Xt m1 ih1 H1 m1 ih1 (upd H1 T (.tup [x, y])) ∧ WR K J' m1 ih1 (upd H1 T (.tup [x, y])) (.d (.tuple [dx, dy])) (.ref T) :=
  ⟨S1.new hT, Xt.new S1 hT, show DR _ _ _ _ _ from DR.tup (SqT.of upd_same) (DRs.mono S1 (Xt.new S1 hT) _ _ (DRs.cons r1 (DRs.cons r2 DRs.nil)))⟩
theorem yl_zipL (S : Sim K J m ih H) (h1 : H a = some (.lst us)) (n1 : ¬ Own J m ih a) (r1 : DRs K (Own J m ih) H xs us) (h2 : H b = some (.lst vs)) (n2 : ¬ Own J m ih b) (r2 : DRs K (Own J m ih) H ys vs) : Yl K J m ih H (Itz K a b) (zipD xs ys) where
  go := fun m1 ih1 H1 k x1 hk => by
    rw [zipD_len] at hk
    obtain ⟨v, e⟩ := r1.some (i := k) (by omega)
    obtain ⟨u, e2⟩ := r2.some (i := k) (by omega)
    exact ⟨us, vs, v, u, .of (x1.keep a _ h1 fun z => n1 (.inl z)).1, .of (x1.keep b _ h2 fun z => n2 (.inl z)).1, e, e2⟩
  stop := fun m1 ih1 H1 x1 => by
    rw [zipD_len]
    refine ⟨us, vs, .of (x1.keep a _ h1 fun z => n1 (.inl z)).1, .of (x1.keep b _ h2 fun z => n2 (.inl z)).1, ?_⟩
    rw [r1.len, r2.len]
    omega
  yld := fun J' m1 ih1 H1 k x H2 hh S1 x1 hk y => by
    obtain ⟨T, v, u, rfl, hT, rfl, q1, q2⟩ := y
    obtain ⟨d1, e1, s1⟩ := r1.nth (q1 us (.of (x1.keep a _ h1 fun z => n1 (.inl z)).1))
    obtain ⟨d2, e2, s2⟩ := r2.nth (q2 vs (.of (x1.keep b _ h2 fun z => n2 (.inl z)).1))
    obtain ⟨A, B, C⟩ := yld_pair S1 hT (DR.convX S x1 hh s1) (DR.convX S x1 hh s2)
    exact ⟨A, B, _, zipD_get e1 e2, C⟩
theorem yl_zipT (S : Sim K J m ih H) (h1 : SqT K H a us) (r1 : DRs K (Own J m ih) H xs us) (h2 : SqT K H b vs) (r2 : DRs K (Own J m ih) H ys vs) : Yl K J m ih H (ItzT K a b) (zipD xs ys) where
  go := fun m1 ih1 H1 k x1 hk => by
    rw [zipD_len] at hk
    obtain ⟨v, e⟩ := r1.some (i := k) (by omega)
    obtain ⟨u, e2⟩ := r2.some (i := k) (by omega)
    exact ⟨us, vs, v, u, x1.seqT S h1, x1.seqT S h2, e, e2⟩
  stop := fun m1 ih1 H1 x1 => by
    rw [zipD_len]
    refine ⟨us, vs, x1.seqT S h1, x1.seqT S h2, ?_⟩
    rw [r1.len, r2.len]
    omega
  yld := fun J' m1 ih1 H1 k x H2 hh S1 x1 hk y => by
    obtain ⟨T, v, u, rfl, hT, rfl, q1, q2⟩ := y
    obtain ⟨d1, e1, s1⟩ := r1.nth (q1 us (x1.seqT S h1))
    obtain ⟨d2, e2, s2⟩ := r2.nth (q2 vs (x1.seqT S h2))
    obtain ⟨A, B, C⟩ := yld_pair S1 hT (DR.convX S x1 hh s1) (DR.convX S x1 hh s2)
    exact ⟨A, B, _, zipD_get e1 e2, C⟩
end
def aIZ (t : AA) : AI := fun env ih Q => t env ih fun ws ih1 => match ws with
  | [.d (.list xs), .d (.list ys)] => Q (zipD xs ys) ih1
  | [.d (.tuple xs), .d (.tuple ys)] => Q (zipD xs ys) ih1
  | _ => False
theorem iv_zip {kk : Nat} {tpos : Pos} (h : AV F [e, e2] ta) (hg : Glb F "zip") (hm : F.mg "zip" = none) (hs : ∀ env, starEach [e, e2] env = (false, eval e env) :: starEach [e2] env := by intro _; rfl) (hpl : ∀ env, (backTo pos (starEach [e2] env)).any (·.1) = false := by intro _; rfl) :
    IV F (.Tuple elts kk tpos) (.Call (.Name "zip" p) [e, e2] [] pos) (aIZ ta) := by
  obtain ⟨t, q, r⟩ := h
  refine ⟨iZipA F.K t, fun X hX => by rw [← F.hK X hX]; exact pi_zipA (Fam.gl hX hg) (by rw [F.hmg X hX]; exact hm) (q X hX) (hs _) (hpl _), fun J jk m ih H env σ Qa R S E h f => ?_⟩
  refine r J jk m ih H env σ _ _ S E h fun m1 ih1 H1 ws vs S1 x1 r1 k1 => ?_
  split at k1
  · obtain ⟨v, u, rfl, ra, rb⟩ := paired2 r1
    obtain ⟨g1, us1, rfl, h1, n1, s1⟩ := ra.lst'
    obtain ⟨g2, us2, rfl, h2, n2, s2⟩ := rb.lst'
    exact ⟨g1, g2, us1, us2, rfl, .inl ⟨.of h1, .of h2, f m1 ih1 H1 _ _ S1 x1 (yl_zipL S1 h1 n1 s1 h2 n2 s2) k1⟩⟩
  · obtain ⟨v, u, rfl, ra, rb⟩ := paired2 r1
    obtain ⟨g1, us1, rfl, h1, s1⟩ := ra.tup'
    obtain ⟨g2, us2, rfl, h2, s2⟩ := rb.tup'
    exact ⟨g1, g2, us1, us2, rfl, .inr ⟨h1, h2, f m1 ih1 H1 _ _ S1 x1 (yl_zipT S1 h1 s1 h2 s2) k1⟩⟩
  · exact k1.elim
def enumD (xs : List D) : List D := (List.range xs.length).zipWith (fun (k : Nat) x => PyData.tuple [.int (k : Int), x]) xs
theorem enumD_len (xs : List D) : (enumD xs).length = xs.length := by unfold enumD; rw [List.length_zipWith, List.length_range]; omega
theorem enumD_get {xs : List D} {k : Nat} {x : D} (h : xs[k]? = some x) : (enumD xs)[k]? = some (.tuple [.int (k : Int), x]) := by
  unfold enumD
  have hk : k < xs.length := (List.getElem?_eq_some_iff.mp h).1
  rw [List.getElem?_zipWith, h, List.getElem?_range hk]
theorem yl_enum {K : PySem.W.Frag} {J : JT} {m : List Addr} {ih : IH} {H : Hp} {a : Addr} {xs : List D} {us : List V} (S : Sim K J m ih H) (h1 : H a = some (.lst us)) (n1 : ¬ Own J m ih a) (r1 : DRs K (Own J m ih) H xs us) : Yl K J m ih H (Ite K a) (enumD xs) where
  go := fun m1 ih1 H1 k x1 hk => by
    rw [enumD_len] at hk
    obtain ⟨v, e⟩ := r1.some hk
    exact ⟨us, v, .of (x1.keep a _ h1 fun z => n1 (.inl z)).1, e⟩
  stop := fun m1 ih1 H1 x1 => by
    rw [enumD_len]
    exact ⟨us, .of (x1.keep a _ h1 fun z => n1 (.inl z)).1, by rw [r1.len]; exact Nat.le_refl _⟩
  yld := fun J' m1 ih1 H1 k x H2 hh S1 x1 hk y => by
    obtain ⟨T, v, rfl, hT, rfl, q1⟩ := y
    obtain ⟨d1, e1, s1⟩ := r1.nth (q1 us (.of (x1.keep a _ h1 fun z => n1 (.inl z)).1))
    obtain ⟨A, B, C⟩ := yld_pair S1 hT (DR.int (i := (k : Int))) (DR.convX S x1 hh s1)
    exact ⟨A, B, _, enumD_get e1, C⟩
def aIE (t : AA) : AI := fun env ih Q => t env ih fun ws ih1 => match ws with
  | [.d (.list xs)] => Q (enumD xs) ih1
  | _ => False
theorem iv_enum {kk : Nat} {tpos : Pos} (h : AV F [e] ta) (hg : Glb F "enumerate") (hm : F.mg "enumerate" = none) (hs : ∀ env, starEach [e] env = [(false, eval e env)] := by intro _; rfl) :
    IV F (.Tuple elts kk tpos) (.Call (.Name "enumerate" p) [e] [] pos) (aIE ta) := by
  obtain ⟨t, q, r⟩ := h
  refine ⟨iEnum F.K t, fun X hX => by rw [← F.hK X hX]; exact pi_enum (Fam.gl hX hg) (by rw [F.hmg X hX]; exact hm) (q X hX) (hs _), fun J jk m ih H env σ Qa R S E h f => ?_⟩
  refine r J jk m ih H env σ _ _ S E h fun m1 ih1 H1 ws vs S1 x1 r1 k1 => ?_
  split at k1
  · obtain ⟨v, rfl, ra⟩ := paired1 r1
    obtain ⟨g1, us1, rfl, h1, n1, s1⟩ := ra.lst'
    exact ⟨g1, us1, rfl, .of h1, f m1 ih1 H1 _ _ S1 x1 (yl_enum S1 h1 n1 s1) k1⟩
  · exact k1.elim

/-! ### an object changes -/
theorem live_set {m : List Addr} {ih : IH} {n : Nat} {o u : Ob} {a : Addr} (h : ih[n]? = some o) (ho : o.isLive = true) (l : Live m (ih.set n u) a) : Live m ih a := by
  obtain ⟨k, v, e1, e2, e3⟩ := l
  by_cases hk : n = k
  · subst hk
    exact ⟨n, o, e1, h, ho⟩
  · rw [List.getElem?_set_ne hk] at e2
    exact ⟨k, v, e1, e2, e3⟩
theorem Xt.set {m : List Addr} {ih : IH} {H : Hp} {n : Nat} {o u : Ob} {a : Addr} {ho : HO} (hl : o.isLive = true) (h : ih[n]? = some o) (ha : m[n]? = some a) : Xt m ih H m (ih.set n u) (upd H a ho) :=
  ⟨⟨[], (List.append_nil m).symm, fun _ z => absurd z (by simp)⟩, fun b v e nl => ⟨by rw [upd_ne fun z => nl (by rw [z]; exact ⟨n, o, ha, h, hl⟩)]; exact e, fun z => nl (live_set h hl z)⟩, fun b e => by
    by_cases hb : b = a
    · rw [hb, upd_same] at e; cases e
    · rwa [upd_ne hb] at e⟩
theorem Sim.set {K : PySem.W.Frag} {J : JT} {m : List Addr} {ih : IH} {H : Hp} {n : Nat} {o u : Ob} {a : Addr} {ho : HO} (S : Sim K J m ih H) (hl : o.isLive = true) (h : ih[n]? = some o) (ha : m[n]? = some a) (hu : ObR K J m (ih.set n u) (upd H a ho) a u) :
    Sim K J m (ih.set n u) (upd H a ho) := by
  have x : Xt m ih H m (ih.set n u) (upd H a ho) := Xt.set hl h ha
  refine ⟨J.cl _ _ _ _ _ _ S.j x, by rw [List.length_set]; exact S.len, S.nd, fun b hb z => S.th b hb (x.there b z), S.hd_mono x, fun k b v e1 e2 => ?_⟩
  by_cases hk : n = k
  · subst hk
    rw [ha] at e1
    cases e1
    rw [List.getElem?_set_self (List.getElem?_eq_some_iff.mp h).1] at e2
    cases e2
    exact hu
  · rw [List.getElem?_set_ne hk] at e2
    have hne : b ≠ a := fun z => hk (nd_ix S.nd (z ▸ ha) (z ▸ e1))
    exact (S.ob k b v e1 e2).mono S x (upd_ne hne)
theorem Fu.set {K : PySem.W.Frag} {J : JT} {m : List Addr} {ih : IH} {H : Hp} {n : Nat} {o u : Ob} {a : Addr} {ho : HO} {Qa : QW} {Q : VK} {w : W} {v : V} (f : Fu K J m ih H Qa Q) (S : Sim K J m ih H) (hl : o.isLive = true) (h : ih[n]? = some o) (ha : m[n]? = some a)
    (hu : ObR K J m (ih.set n u) (upd H a ho) a u) (r : WR K J m ih H w v) (q : Qa w (ih.set n u)) : Q v (upd H a ho) :=
  f m (ih.set n u) (upd H a ho) w v (S.set hl h ha hu) (Xt.set hl h ha) (r.mono S (Xt.set hl h ha)) q
theorem paired_snoc {α β : Type} {G : α → β → Prop} {xs : List α} {ys : List β} {x : α} {y : β} (h : Paired G xs ys) (r : G x y) : Paired G (xs ++ [x]) (ys ++ [y]) := paired_app h (.cons r .nil)
theorem paired_dropLast {α β : Type} {G : α → β → Prop} : ∀ {xs : List α} {ys : List β}, Paired G xs ys → Paired G xs.dropLast ys.dropLast
  | _, _, .nil => .nil
  | _, _, .cons r .nil => .nil
  | _, _, .cons r (.cons r2 t) => .cons r (paired_dropLast (.cons r2 t))

/-! ### methods of built-in types -/
def RRM (K : PySem.W.Frag) (r : V → List V → Hp → VK → Prop) (ra : W → List W → IH → QW → Prop) : Prop := ∀ J m ih H x ws vx vs Qa Q, Sim K J m ih H → WR K J m ih H x vx → Paired (WR K J m ih H) ws vs → ra x ws ih Qa → Fu K J m ih H Qa Q → r vx vs H Q
def RTy (K : PySem.W.Frag) (T : String) (ck : W → IH → Prop) : Prop := ∀ J m ih H x vx, Sim K J m ih H → WR K J m ih H x vx → ck x ih → tyV K T vx H
def MV (F : Fam) (T id : String) (ck : W → IH → Prop) (ra : W → List W → IH → QW → Prop) : Prop := ∃ r, (∀ X, F.ok X → MtR X id r) ∧ RRM F.K r ra ∧ RTy F.K T ck
def aMt (ck : W → IH → Prop) (ra : W → List W → IH → QW → Prop) (to : AE) (ta : AA) : AE := fun env ih Q => to env ih fun x ih1 => ck x ih1 ∧ ta env ih1 fun ws ih2 => ra x ws ih2 Q
def aMt0 (ck : W → IH → Prop) (ra : W → List W → IH → QW → Prop) (to : AE) : AE := fun env ih Q => to env ih fun x ih1 => ck x ih1 ∧ ra x [] ih1 Q
theorem ev_mt {apos : Pos} {T id : String} {name : Str} {ck : W → IH → Prop} {ra : W → List W → IH → QW → Prop} (pa : PlainAttrs T) (slot : Slot T name id) (hty : typeOf (.builtin id) = pure (.type "method_descriptor")) (hm : MV F T id ck ra) (ho : EV F o aa) (ha : AV F (e :: es) ta)
    (hbase : ∀ env, attributeBase o name env (eval o env) = eval o env := by intro _; rfl)
    (hfew : ∀ env, ((backTo pos (starEach (e :: es) env)).all (fun x => !x.1) && (backToKw pos (keywordEach [] env)).all (fun x => x.1.isSome)
      && decide ((e :: es).length + ([] : List Keyword).length + (if ([] : List Keyword).isEmpty then 0 else 1) < 30)) = true := by intro _; rfl)
    (hline : (apos.endLine == pos.line) = true := by rfl) (hs : ∀ env, starEach (e :: es) env = (false, eval e env) :: starEach es env := by intro _; rfl) (hpl : ∀ env, (backTo pos (starEach es env)).any (·.1) = false := by intro _; rfl) :
    EV F (.Call (.Attribute o name apos) (e :: es) [] pos) (aMt ck ra aa ta) := by
  obtain ⟨t, p1, q1⟩ := ho
  obtain ⟨u, p2, q2⟩ := ha
  obtain ⟨r, p3, q3, q4⟩ := hm
  refine ⟨tBM F.K T r t u, fun X hX => ?_, fun J jk m ih H env σ Qa Q S E h f => ?_⟩
  · rw [← F.hK X hX]
    exact pe_bm pa slot hty (p3 X hX) (p1 X hX) (p2 X hX) (hbase _) (hfew _) hline (hs _) (hpl _)
  · refine q1 J jk m ih H env σ _ _ S E h fun m1 ih1 H1 w v S1 x1 r1 k1 => ⟨q4 J m1 ih1 H1 w v S1 r1 k1.1, ?_⟩
    refine q2 J jk m1 ih1 H1 env σ _ _ S1 (E.mono S x1) k1.2 fun m2 ih2 H2 ws vs S2 x2 r2 k2 => ?_
    exact q3 J m2 ih2 H2 w ws v vs Qa Q S2 (r1.mono S1 x2) r2 k2 (f.step (x1.trans x2))
theorem ev_mt0 {apos : Pos} {T id : String} {name : Str} {ck : W → IH → Prop} {ra : W → List W → IH → QW → Prop} (pa : PlainAttrs T) (slot : Slot T name id) (hty : typeOf (.builtin id) = pure (.type "method_descriptor")) (hm : MV F T id ck ra) (ho : EV F o aa)
    (hbase : ∀ env, attributeBase o name env (eval o env) = eval o env := by intro _; rfl) (hline : (apos.endLine == pos.line) = true := by rfl) : EV F (.Call (.Attribute o name apos) [] [] pos) (aMt0 ck ra aa) := by
  obtain ⟨t, p1, q1⟩ := ho
  obtain ⟨r, p3, q3, q4⟩ := hm
  refine ⟨tBM0 F.K T r t, fun X hX => ?_, fun J jk m ih H env σ Qa Q S E h f => ?_⟩
  · rw [← F.hK X hX]
    exact pe_bm0 pa slot hty (p3 X hX) (p1 X hX) (hbase _) hline
  · refine q1 J jk m ih H env σ _ _ S E h fun m1 ih1 H1 w v S1 x1 r1 k1 => ⟨q4 J m1 ih1 H1 w v S1 r1 k1.1, ?_⟩
    exact q3 J m1 ih1 H1 w [] v [] Qa Q S1 r1 .nil k1.2 (f.step x1)
/-- a list that may be changed -/
def isRL (w : W) (ih : IH) : Prop := match w with
  | .ref n => match ih[n]? with
    | some (.lst _) => True
    | _ => False
  | _ => False
theorem isRL_ty {K : PySem.W.Frag} : RTy K "list" isRL := fun J m ih H x vx S r h => by
  unfold isRL at h
  split at h
  · split at h
    · rename_i n o ws e
      obtain ⟨a, e1, rfl⟩ := r
      obtain ⟨vs, e2, _⟩ := S.ob n a _ e1 e
      exact .inl ⟨rfl, vs, .of e2⟩
    · exact h.elim
  · exact h.elim
def onRL (w : W) (ih : IH) (k : Nat → List W → Prop) : Prop := match w with
  | .ref n => match ih[n]? with
    | some (.lst ws) => k n ws
    | _ => False
  | _ => False
theorem onRL_some {w : W} {ih : IH} {k : Nat → List W → Prop} (h : onRL w ih k) : ∃ n ws, w = .ref n ∧ ih[n]? = some (.lst ws) ∧ k n ws := by
  unfold onRL at h
  split at h
  · split at h
    · exact ⟨_, _, rfl, by assumption, h⟩
    · exact h.elim
  · exact h.elim
theorem pwo_mono {K : PySem.W.Frag} {J : JT} {m m1 : List Addr} {ih ih1 : IH} {H H1 : Hp} {ws : List W} {vs : List V} (S : Sim K J m ih H) (x : Xt m ih H m1 ih1 H1) (h : Paired (WO K J m ih H) ws vs) : Paired (WO K J m1 ih1 H1) ws vs :=
  Paired.mapR h fun _ _ q => q.mono S x
def xApp (x : W) (ws : List W) (ih : IH) (Q : QW) : Prop := onRL x ih fun n us => match ws with
  | [y] => (us.length < sizeLine ∧ y.isFn = false) ∧ Q (.d .none) (ih.set n (.lst (us ++ [y])))
  | _ => False
theorem mv_app : MV F "list" "list.append" isRL xApp := by
  refine ⟨rAppend, fun X hX => mt_append, fun J m ih H x ws vx vs Qa Q S r rs h f => ?_, isRL_ty⟩
  obtain ⟨n, us, rfl, e, h⟩ := onRL_some h
  obtain ⟨a, e1, rfl⟩ := r
  obtain ⟨zs, e2, rz⟩ := S.ob n a _ e1 e
  split at h
  · obtain ⟨v, rfl, rv⟩ := paired1 rs
    refine ⟨a, zs, v, rfl, rfl, e2, by rw [Paired.len2 rz]; exact h.1.1, ?_⟩
    rename_i y _
    have x : Xt m ih H m (ih.set n (.lst (us ++ [y]))) (upd H a (.lst (zs ++ [v]))) := Xt.set (o := .lst us) (u := .lst (us ++ [y])) (H := H) rfl e e1
    exact f.set (o := .lst us) (u := .lst (us ++ [y])) (w := .d .none) S rfl e e1 ⟨_, upd_same, pwo_mono S x (paired_snoc rz ⟨h.1.2, rv⟩)⟩ WR.non h.2
  · exact h.elim
def xPop (x : W) (ws : List W) (ih : IH) (Q : QW) : Prop := onRL x ih fun n us => ws = [] ∧ optW (us[us.length - 1]?) fun y => Q y (ih.set n (.lst us.dropLast))
theorem mv_pop : MV F "list" "list.pop" isRL xPop := by
  refine ⟨rPop, fun X hX => mt_pop, fun J m ih H x ws vx vs Qa Q S r rs h f => ?_, isRL_ty⟩
  obtain ⟨n, us, rfl, e, hws, h1⟩ := onRL_some h
  clear h
  have h := h1
  clear h1
  subst hws
  obtain ⟨a, e1, rfl⟩ := r
  obtain ⟨zs, e2, rz⟩ := S.ob n a _ e1 e
  cases rs
  obtain ⟨y, ey, h⟩ := optW_some h
  obtain ⟨v, ev, rv⟩ := paired_get rz ey
  have x : Xt m ih H m (ih.set n (.lst us.dropLast)) (upd H a (.lst zs.dropLast)) := Xt.set (o := .lst us) rfl e e1
  refine ⟨a, zs, v, rfl, rfl, e2, by rw [Paired.len2 rz]; exact ev, ?_⟩
  exact f.set (o := .lst us) (u := .lst us.dropLast) S rfl e e1 ⟨_, upd_same, pwo_mono S x (paired_dropLast rz)⟩ rv.2 h
theorem paired_erase {α β : Type} {G : α → β → Prop} : ∀ {xs : List α} {ys : List β} (k : Nat), Paired G xs ys → Paired G (xs.eraseIdx k) (ys.eraseIdx k)
  | _, _, _, .nil => .nil
  | _, _, 0, .cons _ t => t
  | _, _, k + 1, .cons r t => .cons r (paired_erase k t)
/-- xs.pop(i) -/
def xPopAt (x : W) (ws : List W) (ih : IH) (Q : QW) : Prop := onRL x ih fun n us => match ws with
  | [.d (.int i)] => -(2 ^ 63) ≤ i ∧ i < 2 ^ 63 ∧ optW (seqIndex? i us.length) fun k => optW (us[k]?) fun y => Q y (ih.set n (.lst (us.eraseIdx k)))
  | _ => False
theorem mv_popAt : MV F "list" "list.pop" isRL xPopAt := by
  refine ⟨rPopAt, fun X hX => mt_popAt, fun J m ih H x ws vx vs Qa Q S r rs h f => ?_, isRL_ty⟩
  obtain ⟨n, us, rfl, e, h⟩ := onRL_some h
  obtain ⟨a, e1, rfl⟩ := r
  obtain ⟨zs, e2, rz⟩ := S.ob n a _ e1 e
  split at h
  · obtain ⟨v, rfl, ri⟩ := paired1 rs
    obtain ⟨h1, h2, h⟩ := h
    obtain ⟨k, ek, h⟩ := optW_some h
    obtain ⟨y, ey, h⟩ := optW_some h
    obtain ⟨v2, ev, rv⟩ := paired_get rz ey
    have x : Xt m ih H m (ih.set n (.lst (us.eraseIdx k))) (upd H a (.lst (zs.eraseIdx k))) := Xt.set (o := .lst us) rfl e e1
    refine ⟨a, zs, _, k, v2, rfl, by rw [ri.int'], e2, h1, h2, by rw [Paired.len2 rz]; exact ek, ev, ?_⟩
    exact f.set (o := .lst us) (u := .lst (us.eraseIdx k)) S rfl e e1 ⟨_, upd_same, pwo_mono S x (paired_erase k rz)⟩ rv.2 h
  · exact h.elim

/-! ### dicts that may be changed -/
def valW (kws : List (Key × W)) (k : Key) : Option W := (kws.find? fun q => decide (q.1 = k)).map (·.2)
def putW (kws : List (Key × W)) (k : Key) (w : W) : List (Key × W) :=
  if (kws.any fun q => decide (q.1 = k)) = true then kws.map (fun q => if q.1 = k then (q.1, w) else q) else kws ++ [(k, w)]
section
variable {K : PySem.W.Frag} {J : JT} {m : List Addr} {ih : IH} {H : Hp}
theorem valW_rel {kws : List (Key × W)} {kvs : List (Key × V)} {k : Key} {w : W} (r : Paired (fun (p : Key × W) (q : Key × V) => p.1 = q.1 ∧ WO K J m ih H p.2 q.2) kws kvs) (h : valW kws k = some w) : ∃ v, valV kvs k = some v ∧ WO K J m ih H w v := by
  induction r with
  | nil => cases h
  | @cons p q ps qs r t ih2 =>
    obtain ⟨e, r⟩ := r
    by_cases hk : p.1 = k
    · have e2 : valW (p :: ps) k = some p.2 := by simp [valW, List.find?_cons, hk]
      rw [e2] at h
      cases h
      exact ⟨q.2, valV_pos (by rw [← e]; exact hk), r⟩
    · have e2 : valW (p :: ps) k = valW ps k := by simp [valW, List.find?_cons, hk]
      rw [e2] at h
      obtain ⟨v, e3, r3⟩ := ih2 h
      exact ⟨v, by rw [valV_neg (by rw [← e]; exact hk)]; exact e3, r3⟩
theorem putW_rel {kws : List (Key × W)} {kvs : List (Key × V)} {k : Key} {w : W} {v : V} (r : Paired (fun (p : Key × W) (q : Key × V) => p.1 = q.1 ∧ WO K J m ih H p.2 q.2) kws kvs) (rw' : WO K J m ih H w v) :
    Paired (fun (p : Key × W) (q : Key × V) => p.1 = q.1 ∧ WO K J m ih H p.2 q.2) (putW kws k w) (putK kvs k v) := by
  have hany : (kws.any fun q => decide (q.1 = k)) = kvs.any fun q => decide (q.1 = k) := by
    induction r with
    | nil => rfl
    | cons r t ih2 => rw [List.any_cons, List.any_cons, ih2, r.1]
  unfold putW putK
  rw [hany]
  split
  · rename_i hz
    clear hany hz
    induction r with
    | nil => exact .nil
    | @cons p q ps qs r t ih2 =>
      rw [List.map_cons, List.map_cons]
      refine .cons ?_ ih2
      by_cases hk : p.1 = k
      · rw [if_pos hk, if_pos (by rw [← r.1]; exact hk)]
        exact ⟨r.1, rw'⟩
      · rw [if_neg hk, if_neg (by rw [← r.1]; exact hk)]
        exact r
  · exact paired_app r (.cons ⟨rfl, rw'⟩ .nil)
end
def keyOf : W → Option Key
  | .d (.int i) => some (.inl i)
  | .d (.str s) => some (.inr s)
  | _ => none
theorem keyOf_v {K : PySem.W.Frag} {J : JT} {m : List Addr} {ih : IH} {H : Hp} {w : W} {v : V} {k : Key} (r : WR K J m ih H w v) (h : keyOf w = some k) : v = kV k := by
  unfold keyOf at h
  split at h
  · cases h; exact r.int'
  · cases h; exact r.str'
  · cases h
/-- d[k], of a dict that may be changed -/
def aDget (to ti : AE) : AE := fun env ih Q => to env ih fun x ih1 => ti env ih1 fun y ih2 => match x with
  | .ref n => match ih2[n]? with
    | some (.dic kws) => optW (keyOf y) fun k => optW (valW kws k) fun w => Q w ih2
    | _ => False
  | _ => False
theorem ev_dget (h1 : EV F o aa) (h2 : EV F i ab) (hs : NoSl i := by exact fun _ _ => rfl) : EV F (.Subscript o i pos) (aDget aa ab) := by
  obtain ⟨t, p1, q1⟩ := h1
  obtain ⟨u, p2, q2⟩ := h2
  refine ⟨tDGet t u, fun X hX => pe_dget (by have := Fam.hu hX; omega) (p1 X hX) (p2 X hX) hs, fun J jk m ih H env σ Qa Q S E h f => ?_⟩
  refine q1 J jk m ih H env σ _ _ S E h fun m1 ih1 H1 w v S1 x1 r1 k1 => ?_
  refine q2 J jk m1 ih1 H1 env σ _ _ S1 (E.mono S x1) k1 fun m2 ih2 H2 y vy S2 x2 r2 k2 => ?_
  have r1' := r1.mono S1 x2
  split at k2
  · split at k2
    · rename_i n o kws e
      obtain ⟨k, ek, k2⟩ := optW_some k2
      obtain ⟨z, ez, k2⟩ := optW_some k2
      obtain ⟨a, e1, rfl⟩ := r1'
      obtain ⟨kvs, e2, rk⟩ := S2.ob n a _ e1 e
      obtain ⟨vz, e3, rz⟩ := valW_rel rk ez
      refine ⟨a, vz, rfl, ?_, (f.step (x1.trans x2)).now S2 rz.2 k2⟩
      rw [keyOf_v r2 ek, ← e3]
      exact DGet.k e2
    · exact k2.elim
  · exact k2.elim
/-- d[k] = v -/
def aDput (to ti tv : AE) : AS := fun D env ih => tv env ih fun w ih1 => to env ih1 fun x ih2 => ti env ih2 fun y ih3 => match x with
  | .ref n => match ih3[n]? with
    | some (.dic kws) => optW (keyOf y) fun k => (kws.length < sizeLine ∧ w.isFn = false) ∧ D.nx env (ih3.set n (.dic (putW kws k w)))
    | _ => False
  | _ => False
theorem sv_dput {value : Expr} {av : AE} (h1 : EV F o aa) (h2 : EV F i ab) (h3 : EV F value av) (hs : ∀ env, swapsWith value (some (.Subscript o i p)) pos.line env = pure false := by intro _; rfl) : SV F (.Assign [.Subscript o i p] value pos) (aDput aa ab av) := by
  obtain ⟨t, p1, q1⟩ := h1
  obtain ⟨u, p2, q2⟩ := h2
  obtain ⟨z, p3, q3⟩ := h3
  refine ⟨sDPut t u z, fun X hX => ps_dput (by have := Fam.hu hX; omega) (p1 X hX) (p2 X hX) (p3 X hX) (hs _), fun J jk m ih H env σ Da D S E h f => ?_⟩
  refine q3 J jk m ih H env σ _ _ S E h fun m1 ih1 H1 w v S1 x1 r1 k1 => ?_
  refine q1 J jk m1 ih1 H1 env σ _ _ S1 (E.mono S x1) k1 fun m2 ih2 H2 x vx S2 x2 r2 k2 => ?_
  refine q2 J jk m2 ih2 H2 env σ _ _ S2 (E.mono S (x1.trans x2)) k2 fun m3 ih3 H3 y vy S3 x3 r3 k3 => ?_
  have rx := r2.mono S2 x3
  have rw' := (r1.mono S1 x2).mono S2 x3
  split at k3
  · split at k3
    · rename_i n o kws e
      obtain ⟨k, ek, hl, k3⟩ := optW_some k3
      obtain ⟨a, e1, rfl⟩ := rx
      obtain ⟨kvs, e2, rk⟩ := S3.ob n a _ e1 e
      have x13 := (x1.trans x2).trans x3
      have xs : Xt m3 ih3 H3 m3 (ih3.set n (.dic (putW kws k w))) (upd H3 a (.dK (putK kvs k v))) := Xt.set (o := .dic kws) rfl e e1
      refine ⟨a, _, rfl, ?_, f.nx _ _ _ env σ (S3.set (o := .dic kws) (u := .dic (putW kws k w)) (ho := .dK (putK kvs k v)) rfl e e1 ⟨_, upd_same, ?_⟩) (x13.trans xs) (E.mono S (x13.trans xs)) k3⟩
      · rw [keyOf_v r3 ek]
        exact DPut.k e2 (by rw [Paired.len2 rk]; exact hl.1)
      · exact Paired.mapR (putW_rel rk ⟨hl.2, rw'⟩) fun _ _ q => ⟨q.1, q.2.mono S3 xs⟩
    · exact k3.elim
  · exact k3.elim

/-! ### a dict displayed, to be changed -/
def PPV (F : Fam) (pos : Pos) (keys : List (Option Expr)) (values : List Expr) (ks : List Key) (ta : AA) : Prop := ∃ trs, (∀ X, F.ok X → PPs X pos keys values trs) ∧
  ∀ J, F.jk J → ∀ m ih H env σ Qa (Q : List (V × V) → Hp → Prop), Sim F.K J m ih H → EnvR F.K J m ih H env σ → ta env ih Qa →
    (∀ m1 ih1 H1 ws vs, Sim F.K J m1 ih1 H1 → Xt m ih H m1 ih1 H1 → Paired (WR F.K J m1 ih1 H1) ws vs → vs.length = ks.length → Qa ws ih1 → Q ((ks.map kV).zip vs) H1) → tPairs trs σ H Q
theorem ppv_nil : PPV F pos [] [] [] aNil := ⟨[], fun X _ => pps_nil, fun J jk m ih H env σ Qa Q S E h f => f m ih H [] [] S Xt.refl .nil rfl h⟩
theorem ppv_cons {x : Str} {k2 : Nat} {kp : Pos} {keys : List (Option Expr)} {values : List Expr} {ks : List Key} (h1 : EV F e aa) (h2 : PPV F pos keys values ks ta) : PPV F pos (some (.Constant (.str x) k2 kp) :: keys) (e :: values) (.inr x :: ks) (aCons aa ta) := by
  obtain ⟨t, p1, q1⟩ := h1
  obtain ⟨trs, p2, q2⟩ := h2
  refine ⟨(tC (.str x), t) :: trs, fun X hX => pps_cons pe_str (p1 X hX) (p2 X hX), fun J jk m ih H env σ Qa Q S E h f => ?_⟩
  refine q1 J jk m ih H env σ _ _ S E h fun m1 ih1 H1 w v S1 x1 r1 k1 => ?_
  refine q2 J jk m1 ih1 H1 env σ _ _ S1 (E.mono S x1) k1 fun m2 ih2 H2 ws vs S2 x2 r2 hl k2 => ?_
  exact f m2 ih2 H2 (w :: ws) (v :: vs) S2 (x1.trans x2) (.cons (r1.mono S1 x2) r2) (by rw [List.length_cons, List.length_cons, hl]) k2
def aDispM (ks : List Key) (ta : AA) : AE := fun env ih Q => ta env ih fun ws ih1 => ks.Nodup ∧ (ks.length ≤ 15 ∧ ∀ w ∈ ws, w.isFn = false) ∧ Q (.ref ih1.length) (ih1 ++ [.dic (ks.zip ws)])
theorem putK_new' {k : Key} {v : V} : ∀ {kvs : List (Key × V)}, k ∉ kvs.map (·.1) → putK kvs k v = kvs ++ [(k, v)] := fun {kvs} h => by
  unfold putK
  rw [if_neg]
  intro z
  obtain ⟨q, hq, e⟩ := List.any_eq_true.mp z
  exact h (List.mem_map.mpr ⟨q, hq, of_decide_eq_true e⟩)
theorem mergeK_nodup : ∀ (more kvs : List (Key × V)), ((kvs ++ more).map (·.1)).Nodup → mergeK kvs more = kvs ++ more
  | [], kvs, _ => by unfold mergeK; simp
  | q :: more, kvs, h => by
    have hn : q.1 ∉ kvs.map (·.1) := fun z => by
      rw [List.map_append, List.map_cons] at h
      exact (List.nodup_append.mp h).2.2 q.1 z q.1 (by simp) rfl
    have e : putK kvs q.1 q.2 = kvs ++ [q] := putK_new' hn
    show mergeK (putK kvs q.1 q.2) more = _
    rw [e, mergeK_nodup more (kvs ++ [q]) (by rw [List.append_assoc]; exact h), List.append_assoc]
    rfl
/-- what was hidden becomes an object of its own -/
theorem Sim.bring {K : PySem.W.Frag} {J : JT} {m m1 : List Addr} {ih ih1 : IH} {H H1 : Hp} {D : Addr} {o o1 : HO} {u : Ob} (hD : H D = none) (S : Sim K (jIn J m ih H D) m1 ih1 H1) (x : Xt m ih (upd H D o) m1 ih1 H1) (Dm : D ∉ m) (nt : ∀ xs, ¬ Rd H1 D (.tup xs)) (S0 : Sim K J m ih H)
    (hu : (∀ (w : W) (v : V), WR K (jIn J m ih H D) m1 ih1 H1 w v → WR K J (m1 ++ [D]) (ih1 ++ [u]) (upd H1 D o1) w v) → ObR K J (m1 ++ [D]) (ih1 ++ [u]) (upd H1 D o1) D u) :
    Xt m ih H (m1 ++ [D]) (ih1 ++ [u]) (upd H1 D o1) ∧ Sim K J (m1 ++ [D]) (ih1 ++ [u]) (upd H1 D o1) := by
  have hm : D ∈ (jIn J m ih H D).hid := by show D ∈ D :: J.hid; simp
  have nD : D ∉ m1 := fun z => by
    obtain ⟨t, rfl, ft⟩ := x.pre
    rcases List.mem_append.mp z with z | z
    · exact Dm z
    · have := ft D z
      rw [upd_same] at this
      cases this
  have nh : D ∉ J.hid := fun z => (S0.hd D z).1 hD
  have x' : Xt m ih H (m1 ++ [D]) (ih1 ++ [u]) (upd H1 D o1) := by
    refine ⟨?_, fun a v e n => ?_, fun a e => ?_⟩
    · obtain ⟨t, rfl, ft⟩ := x.pre
      refine ⟨t ++ [D], List.append_assoc m t [D], fun a h => ?_⟩
      rcases List.mem_append.mp h with h | h
      · have q := ft a h
        by_cases e : a = D
        · rw [e]; exact hD
        · rwa [upd_ne e] at q
      · rw [List.mem_singleton.mp h]; exact hD
    · have ne : a ≠ D := ne_of_none e hD
      obtain ⟨q1, q2⟩ := x.keep a v (by rw [upd_ne ne]; exact e) n
      exact ⟨by rw [upd_ne ne]; exact q1, fun l => (live_add S.len l).elim q2 ne⟩
    · by_cases h : a = D
      · rw [h]; exact hD
      · rw [upd_ne h] at e
        have q := x.there a e
        rwa [upd_ne h] at q
  have oo : ∀ a, Own J (m1 ++ [D]) (ih1 ++ [u]) a → Own (jIn J m ih H D) m1 ih1 a := fun a l => l.elim (fun z => (live_add S.len z).elim .inl fun e => .inr (by rw [e]; exact hm)) fun z => .inr (jIn_sub a z)
  have ht : ∀ a xs, Rd H1 a (.tup xs) → Rd (upd H1 D o1) a (.tup xs) := fun a xs q => by
    have hne : a ≠ D := fun z => nt xs (by rw [← z]; exact q)
    rcases q with q | ⟨ob, q⟩
    · exact .inl (by rw [upd_ne hne]; exact q)
    · exact .inr ⟨ob, by rw [upd_ne hne]; exact q⟩
  have hk : ∀ a v, H1 a = some v → ¬ Own (jIn J m ih H D) m1 ih1 a → upd H1 D o1 a = some v ∧ ¬ Own J (m1 ++ [D]) (ih1 ++ [u]) a := fun a v e n =>
    ⟨by rw [upd_ne fun z => n (.inr (by rw [z]; exact hm))]; exact e, fun l => n (oo a l)⟩
  have wr : ∀ (w : W) (v : V), WR K (jIn J m ih H D) m1 ih1 H1 w v → WR K J (m1 ++ [D]) (ih1 ++ [u]) (upd H1 D o1) w v := fun w v h => by
    cases w with
    | d y => exact DR.conv hk ht h
    | ref n =>
      obtain ⟨a, e, r⟩ := h
      exact ⟨a, by rw [List.getElem?_append_left (List.getElem?_eq_some_iff.mp e).1]; exact e, r⟩
    | fn n cs => exact h
    | scr ns =>
      obtain ⟨a, e, q⟩ := h
      rcases q with ⟨q, l⟩ | q
      · have hne : a ≠ D := fun z => l (.inr (by rw [z]; exact hm))
        refine ⟨a, e, .inl ⟨?_, fun z => l (oo a z)⟩⟩
        rcases q with q | ⟨ob, q⟩
        · exact .inl (by rw [upd_ne hne]; exact q)
        · exact .inr ⟨ob, by rw [upd_ne hne]; exact q⟩
      · exact ⟨a, e, .inr q⟩
  refine ⟨x', J.cl _ _ _ _ _ _ S0.j x', by rw [List.length_append, List.length_append, S.len]; rfl, ?_, fun a h z => ?_, S0.hd_mono x', fun i a v e1 e2 => ?_⟩
  · refine List.nodup_append.mpr ⟨S.nd, by simp, fun a ha b hb => ?_⟩
    have e : b = D := by simpa using hb
    subst e
    intro z
    subst z
    exact nD ha
  · by_cases e : a = D
    · rw [e, upd_same] at z; cases z
    · rw [upd_ne e] at z
      rcases List.mem_append.mp h with h | h
      · exact S.th a h z
      · exact e (by simpa using h)
  · by_cases hi : i < m1.length
    · rw [List.getElem?_append_left hi] at e1
      rw [List.getElem?_append_left (by rw [← S.len]; exact hi)] at e2
      have hne : a ≠ D := fun z => nD (by rw [← z]; exact List.mem_of_getElem? e1)
      have q := S.ob i a v e1 e2
      cases v with
      | dead => exact True.intro
      | lst ws =>
        obtain ⟨vs, e, r⟩ := q
        exact ⟨vs, by rw [upd_ne hne]; exact e, Paired.mapR r fun _ _ z => ⟨z.1, wr _ _ z.2⟩⟩
      | dic ws =>
        obtain ⟨vs, e, r⟩ := q
        exact ⟨vs, by rw [upd_ne hne]; exact e, Paired.mapR r fun _ _ z => ⟨z.1, z.2.1, wr _ _ z.2.2⟩⟩
      | tab q' =>
        obtain ⟨ps, e, ht, hc⟩ := q
        refine ⟨ps, by rw [upd_ne hne]; exact e, ht, fun pos cv z => ?_⟩
        obtain ⟨c, e1, e2, n⟩ := hc pos cv z
        obtain ⟨k1, k2⟩ := hk c _ e2 n
        exact ⟨c, e1, k1, k2⟩
    · rw [List.getElem?_append_right (by omega)] at e1
      rw [List.getElem?_append_right (by rw [← S.len]; omega)] at e2
      have h0 : i - m1.length = 0 := by
        have := (List.getElem?_eq_some_iff.mp e1).1
        simp at this
        omega
      rw [h0] at e1
      have h1 : i - ih1.length = 0 := by rw [← S.len]; exact h0
      rw [h1] at e2
      cases e1
      cases e2
      exact hu wr
theorem ev_dispM {keys : List (Option Expr)} {values : List Expr} {ks : List Key} (h : PPV F pos keys values ks ta) (hall : keys.all (·.isSome) = true := by rfl) (hl : keys.length = values.length := by rfl) (h0 : keys ≠ [] := by intro z; cases z) (h15 : keys.length ≤ 15 := by decide) :
    EV F (.Dict keys values pos) (aDispM ks ta) := by
  obtain ⟨trs, p, q⟩ := h
  refine ⟨tDisp trs, fun X hX => pe_disp (p X hX) hall hl h0 h15, fun J jk m ih H env σ Qa Q S E h f => ?_⟩
  intro pd hp
  have x0 : Xt m ih H m ih (upd H pd (.dK [])) := Xt.new S hp
  have S0 : Sim F.K (jIn J m ih H pd) m ih (upd H pd (.dK [])) := S.hide hp _
  refine q (jIn J m ih H pd) (F.jkc J _ jk (jIn_le hp S.j)) m ih _ env σ _ _ S0 (E.convX S x0 (jIn_ok hp)) h fun m1 ih1 H1 ws vs S1 x1 r1 hlen k1 => ?_
  have nl := (S0.hd pd (by show pd ∈ pd :: J.hid; simp)).2
  have e1 := (x1.keep pd _ upd_same nl).1
  have hz : ∀ (ks : List Key) (vs : List V), (ks.map kV).zip vs = (ks.zip vs).map fun q => (kV q.1, q.2) := fun ks => by
    induction ks with
    | nil => intro vs; rfl
    | cons k ks ih => intro vs; cases vs with
      | nil => rfl
      | cons v vs => rw [List.map_cons, List.zip_cons_cons, List.zip_cons_cons, List.map_cons, ih]
  have hmap : (ks.zip vs).map (·.1) = ks := by rw [List.map_fst_zip]; omega
  have hm : mergeK [] (ks.zip vs) = ks.zip vs := mergeK_nodup _ _ (by rw [List.nil_append, hmap]; exact k1.1)
  refine ⟨e1, ks.zip vs, hz ks vs, by rw [List.length_zip]; have := k1.2.1.1; omega, ?_⟩
  rw [hm]
  have len1 : ih1.length = m1.length := S1.len.symm
  have gen : ∀ (ks : List Key) (ws : List W) (vs : List V), Paired (WO F.K (jIn J m ih H pd) m1 ih1 H1) ws vs → Paired (fun (p : Key × W) (q : Key × V) => p.1 = q.1 ∧ WO F.K (jIn J m ih H pd) m1 ih1 H1 p.2 q.2) (ks.zip ws) (ks.zip vs) := fun ks => by
    induction ks with
    | nil => intro ws vs r; exact .nil
    | cons k ks ih => intro ws vs r; cases r with
      | nil => exact .nil
      | cons r t => exact .cons ⟨rfl, r⟩ (ih _ _ t)
  obtain ⟨x2, S2⟩ := Sim.bring (o1 := .dK (ks.zip vs)) (u := .dic (ks.zip ws)) hp S1 x1 (S.notIn hp) (fun xs q => by rcases q with q | ⟨ob, q⟩ <;> (rw [e1] at q; cases q)) S fun wr => ⟨ks.zip vs, upd_same, Paired.mapR (gen ks ws vs (paired_wo k1.2.1.2 r1)) fun _ _ q => ⟨q.1, q.2.1, wr _ _ q.2.2⟩⟩
  exact f _ _ _ (.ref ih1.length) _ S2 x2 ⟨pd, by rw [len1]; simp, rfl⟩ k1.2.2
end
end Pz

end
section
set_option Elab.async false
set_option linter.all false
set_option maxRecDepth 100000
set_option autoImplicit false
/-! Fw12: turned lists; a law's end. -/
namespace Pz
open PySem PySem.Spec PyProof.Rows L2 LamX

section
variable {F : Fam} {pos p1 p2 p3 : Pos} {e : Expr} {aa : AE}
/-- xs[::-1] of a list, to be changed -/
def aRevM (t : AE) : AE := fun env ih Q => t env ih fun x ih1 => optW (view x ih1) fun d => match d with
  | .list xs => Q (.ref ih1.length) (ih1 ++ [.lst (xs.reverse.map .d)])
  | _ => False
theorem drs_rev {K : PySem.W.Frag} {L : Addr → Prop} {H : Hp} : ∀ {ds : List D} {vs : List V}, DRs K L H ds vs → DRs K L H ds.reverse vs.reverse
  | [], vs, h => by unfold DRs at h; subst h; exact DRs.nil
  | d :: ds, vs, h => by
    unfold DRs at h
    obtain ⟨v, r, rfl, h1, h2⟩ := h
    rw [List.reverse_cons, List.reverse_cons]
    exact DRs.app (drs_rev h2) (DRs.cons h1 DRs.nil)
theorem ev_revM {k : Nat} (h : EV F e aa) : EV F (.Subscript e (.Slice none none (some (.UnaryOp .USub (.Constant (.int 1) k p1) p2)) p3) pos) (aRevM aa) := by
  obtain ⟨t, p, q⟩ := h
  refine ⟨tRevL F.K t, fun X hX => by rw [← F.hK X hX]; exact pe_revL (p X hX), fun J jk m ih H env σ Qa Q S E hh f => ?_⟩
  refine q J jk m ih H env σ _ _ S E hh fun m1 ih1 H1 w v S1 x1 r1 k1 => ?_
  obtain ⟨d, e1, k1⟩ := optW_some k1
  split at k1
  · obtain ⟨g, us, rfl, hs, hr⟩ := view_lst S1 r1 e1
    exact ⟨g, us, rfl, .of hs, fun p hp => (f.step x1).lstM S1 hp (of_drs (drs_rev hr)) k1⟩
  · exact k1.elim
/-- xs[::-1] of a list, as data -/
def aRevD (t : AE) : AE := fun env ih Q => t env ih fun x ih1 => optW (view x ih1) fun d => match d with
  | .list xs => Q (.d (.list xs.reverse)) ih1
  | _ => False
theorem ev_revD {k : Nat} (h : EV F e aa) : EV F (.Subscript e (.Slice none none (some (.UnaryOp .USub (.Constant (.int 1) k p1) p2)) p3) pos) (aRevD aa) := by
  obtain ⟨t, p, q⟩ := h
  refine ⟨tRevL F.K t, fun X hX => by rw [← F.hK X hX]; exact pe_revL (p X hX), fun J jk m ih H env σ Qa Q S E hh f => ?_⟩
  refine q J jk m ih H env σ _ _ S E hh fun m1 ih1 H1 w v S1 x1 r1 k1 => ?_
  obtain ⟨d, e1, k1⟩ := optW_some k1
  split at k1
  · obtain ⟨g, us, rfl, hs, hr⟩ := view_lst S1 r1 e1
    exact ⟨g, us, rfl, .of hs, fun p hp => (f.step x1).lst S1 hp (drs_rev hr) k1⟩
  · exact k1.elim
end

/-! ### the end of a law -/
/-- the heap that stands when a law is called: the script, perhaps, and the empty tables of some code objects -/
def h0 (sc : Option HO) (a : Addr) (T : List Addr) : Hp := fun b => if b ∈ T then some (.tbl #[]) else if b = a then sc else none
section
variable {sc : Option HO} {a : Addr} {T : List Addr}
theorem h0_tab {b : Addr} (h : b ∈ T) : h0 sc a T b = some (.tbl #[]) := if_pos h
theorem h0_scr (h : a ∉ T) : h0 sc a T a = sc := by unfold h0; rw [if_neg h, if_pos rfl]
theorem h0_none {b : Addr} (h : b ∉ T) (n : b ≠ a) : h0 sc a T b = none := by unfold h0; rw [if_neg h, if_neg n]
theorem h0_in {b : Addr} (h : h0 sc a T b ≠ none) : b ∈ T ∨ b = a := by
  by_cases h1 : b ∈ T
  · exact .inl h1
  · by_cases h2 : b = a
    · exact .inr h2
    · exact absurd (h0_none h1 h2) h
end
theorem goG {P : Program} {w : World} {K : PySem.W.Frag} {mg mb : Str → Option Value} {Sg : Sig} {k : Nat} {fa a : Addr} {fd : FuncData} {x : Str} {sp : ASp} {st : Shared} {us : List Value} {sc : Option HO} {cs : List (Addr × Addr)}
    (kin : K.In st.heap) (gl : st.heap.Ns mainGlobals mg) (bi : st.heap.Ns builtinsNs mb) (bi2 : ∀ y : Str, y ≠ "__name__" → mb y = bootBuiltins y) (nl : st.heap.NoLimit) (ng : st.gens = #[])
    (la : st.heap.get? a = some { cls := .type "list", data := .seq us.toArray }) (room : Room k callerA) (bd : ∀ (s : Shared) (u : Value), BindsTo s fd ⟨[u], []⟩ [(x, u)])
    (hT : ∀ p ∈ cs, st.heap.get? p.2 = some { cls := .none, data := .fields #[] }) (nT : ∀ p ∈ cs, K.lookup p.2 = none) (C : ∀ p ∈ cs, PySem.W.CodeHd st.heap p.1 p.2)
    (bm : ∃ (b : Addr) (ob : Obj), mg "__builtins__" = some (.ref b) ∧ b ≠ builtinsNs ∧ st.heap.get? b = some ob ∧ ob.cls = .type "module" ∧ ob.dict = some builtinsNs ∧ ob.data = .plain)
    (low : ∃ mm, st.heap.Ns sysModules mm)
    (G : ∀ base : Heap, K.In base → base.Ns mainGlobals mg → (∃ o, base.get? sysModules = some o) → (∀ p ∈ cs, TabB base mg p.1 p.2) → FnG P w K mg base Sg k fa fd [x] sp)
    (hsc : ∀ u, sc = some u → ∃ o xs, u = .frz o (.lst xs)) (hok : HOk P w (h0 sc a (cs.map (·.2))) st.heap) (free : sc ≠ none → K.lookup a = none)
    (hs : ∀ base : Heap, lift P w K mg base Sg sp [.ref a] (h0 sc a (cs.map (·.2))) fun v _ => v = .bl true) :
    codeAny (model P w) callerA (.call (.ref fa) ⟨[.ref a], []⟩) (fun r s2 => r = .ok (.ret (.bool true)) ∧ OldK st.heap s2.heap ∧ s2.os = st.os ∧ AllBare s2.gens) st := by
  have inT : ∀ {p : Addr × Addr}, p ∈ cs → p.2 ∈ cs.map (·.2) := fun h => List.mem_map.mpr ⟨_, h, rfl⟩
  have tabAt : ∀ b, b ∈ cs.map (·.2) → st.heap.get? b = some { cls := .none, data := .fields #[] } := fun b h => by
    obtain ⟨p, hp, rfl⟩ := List.mem_map.mp h
    exact hT p hp
  have aT : a ∉ cs.map (·.2) := fun h => by
    have z := tabAt a h
    rw [la] at z
    cases (show Data.seq us.toArray _ = Data.fields #[] from congrArg Obj.data (Option.some.inj z))
  generalize hH : h0 sc a (cs.map (·.2)) = H at hok hs
  have inH : ∀ b, H b ≠ none → b ∈ cs.map (·.2) ∨ b = a := fun b h => h0_in (by rw [hH]; exact h)
  have seen : ∀ {b : Addr} {o : Obj}, st.heap.get? b = some o → H b = none → (hidT st.heap H).get? b = some o := fun g n => hidT_get g n
  have off : ∀ {b : Addr} {o : Obj}, st.heap.get? b = some o → (∀ vs n, o.data ≠ .seq vs n) → o.data ≠ .fields #[] → H b = none := fun {b o} g n1 n2 => by
    by_cases z : H b = none
    · exact z
    · rcases inH b z with h | h
      · rw [tabAt b h] at g
        cases g
        exact (n2 rfl).elim
      · rw [h, la] at g
        cases g
        exact (n1 _ _ rfl).elim
  have carry : ∀ {b : Addr} {mm : Str → Option Value}, st.heap.Ns b mm → (hidT st.heap H).Ns b mm := fun {b mm} ⟨o, es, ep, g, dd, rr⟩ =>
    ⟨o, es, ep, seen g (off g (fun _ _ z => by rw [dd] at z; cases z) (fun z => by rw [dd] at z; cases z)), dd, rr⟩
  have kin2 : K.In (hidT st.heap H) := fun b o g => seen (kin b o g) (by
    by_cases z : H b = none
    · exact z
    · rcases inH b z with h | h
      · obtain ⟨p, hp, e⟩ := List.mem_map.mp h
        rw [← e, nT p hp] at g
        cases g
      · have hs2 : sc ≠ none := fun y => z (by rw [← hH, h, h0_scr aT]; exact y)
        rw [h, free hs2] at g
        cases g)
  have md : L2.Mod K mg (hidT st.heap H) := ⟨kin2, carry gl, ⟨mb, carry bi, bi2⟩, let ⟨mc, n1, n2⟩ := nl; ⟨mc, carry n1, n2⟩⟩
  have tabB : ∀ p ∈ cs, TabB (hidT st.heap H) mg p.1 p.2 := fun p hp => by
    have own := hT p hp
    refine ⟨?_, ?_, fun z => ?_⟩
    · obtain ⟨o, us, file, tf, flags, tg, inF, text, tt, e1, r1, r2, r3, rest⟩ := C p hp
      refine ⟨o, us, file, tf, flags, tg, inF, text, tt, seen e1 (off e1 (fun vs n z => ?_) fun z => ?_), r1, r2, r3, rest⟩
      · rw [r2] at z; cases z
      · rw [r2] at z
        cases z
        simp at r3
    · obtain ⟨b, ob, b1, b2, b3, b4, b5, b6⟩ := bm
      refine ⟨b, ob, b1, b2, fun q => ?_, fun q => ?_, seen b3 (off b3 (fun vs n z => by rw [b6] at z; cases z) fun z => by rw [b6] at z; cases z), b4, b5, b6⟩
      · obtain ⟨o, es, ep, e, dd, _⟩ := gl
        rw [q, e] at b3
        cases b3
        rw [dd] at b6
        cases b6
      · rw [q, own] at b3
        cases b3
        cases b6
    · obtain ⟨o, es, ep, e, dd, _⟩ := gl
      rw [z, own] at e
      cases e
      cases dd
  have env0 : Env0 P w K mg (hidT st.heap H) callerA [] st H := ⟨rfl, md, fun b o g => of_hidT g, Nat.le_of_eq (hidT_size _ _), trivial, fun b hb => (List.not_mem_nil hb).elim, hok, .of_eq ng⟩
  refine codeAny_mono ((G _ kin2 (carry gl) (let ⟨_, hm⟩ := low; let ⟨o, _, _, e, _⟩ := carry hm; ⟨o, e⟩) tabB).run callerA [] st H ⟨[.ref a], []⟩ [.ref a] [.ref a] _ rfl room env0 (bd st (.ref a)) (.cons rfl .nil) rfl (hs _)) fun r s2 z => ?_
  rcases r with er | fl
  · exact False.elim z
  · cases fl with
    | ret u =>
      obtain ⟨v, H2, oss, bare, un, hok2, rel, hv⟩ := z
      have hv2 : v = .bl true := hv
      subst hv2
      obtain rfl : u = Value.bool true := rel
      have stays : ∀ b o, b ∉ cs.map (·.2) → st.heap.get? b = some o → s2.heap.get? b = some o := fun b o nb g => by
        cases q : H b with
        | none => exact un.keep b o g q (fun y => List.not_mem_nil (show b ∈ ([] : List Addr) from y)) (by simp)
        | some u =>
          rcases inH b (by rw [q]; simp) with h | h
          · exact absurd h nb
          · have e : sc = some u := by rw [← h0_scr (sc := sc) aT, hH, ← h]; exact q
            obtain ⟨ob, xs, rfl⟩ := hsc u e
            obtain ⟨g1, _⟩ := hok b _ q
            obtain ⟨g2, _⟩ := hok2 b _ (un.frzs b ob _ q)
            rw [g] at g1
            cases g1
            exact g2
      have grew : ∀ p ∈ cs, ∃ more : Array Value, s2.heap.get? p.2 = some { cls := .none, data := .fields more } := fun p hp => by
        obtain ⟨more, z⟩ := un.tbls p.2 #[] (by rw [← hH]; exact h0_tab (inT hp))
        exact ⟨_, hok2 p.2 _ z⟩
      refine ⟨rfl, ⟨fun b o g => ?_, fun b o g => ?_⟩, oss, bare⟩
      · by_cases h : b ∈ cs.map (·.2)
        · obtain ⟨p, hp, rfl⟩ := List.mem_map.mp h
          obtain ⟨more, hm⟩ := grew p hp
          rw [hT p hp] at g
          cases g
          exact .inr (.inl ⟨((C p hp).tab (hT p hp)).isCodeTable, rfl, #[], more, rfl, by rw [Array.empty_append]; exact hm⟩)
        · exact .inl (stays b o h g)
      · by_cases h : b ∈ cs.map (·.2)
        · obtain ⟨p, hp, rfl⟩ := List.mem_map.mp h
          obtain ⟨more, hm⟩ := grew p hp
          exact ⟨_, hm⟩
        · exact ⟨o, stays b o h g⟩
    | next => exact False.elim z
    | brk => exact False.elim z
    | cont => exact False.elim z
/-- what a law promises: of a script of at most 63 whole numbers it says True; qs: the names of the lambdas in the tables -/
def spLaw (qs : List Str) : ASp := fun ws ih Q => ∃ ns : List Int, ws = [.scr ns] ∧ ih = qs.map .tab ∧ ns.length ≤ 63 ∧ ∀ ih2, Q (.d (.bool true)) ih2
/-- the state at the start -/
def jT (T : List Addr) : JT := ⟨[], fun m _ _ => ∃ t, m = T ++ t, fun _ _ _ => False, fun m ih H m' ih' H' h x => by
  obtain ⟨t, rfl⟩ := h
  obtain ⟨u, rfl, _⟩ := x.pre
  exact ⟨t ++ u, List.append_assoc T t u⟩⟩
theorem jT_ok {P : Program} {w : World} {K : PySem.W.Frag} {mg : Str → Option Value} {base : Heap} {Sg : Sig} : JOk P w K mg base Sg (jT Sg.Tb) := ⟨fun _ _ _ _ _ c => False.elim c, fun _ _ _ h => h⟩
theorem live_tabs {T : List Addr} {ih : IH} {b : Addr} (h : Live T ih b) : b ∈ T := let ⟨_, _, e, _⟩ := h; List.mem_of_getElem? e
theorem sim_start {K : PySem.W.Frag} {sc : Option HO} {a : Addr} {T : List Addr} {qs : List Str} (nd : T.Nodup) (hl : T.length = qs.length) : Sim K (jT T) T (qs.map .tab) (h0 sc a T) := by
  refine ⟨⟨[], (List.append_nil T).symm⟩, by rw [List.length_map]; exact hl, nd, fun b hb => (by rw [h0_tab hb]; intro z; cases z), fun b hb => absurd hb (by simp [jT]), fun i b o e1 e2 => ?_⟩
  rw [List.getElem?_map] at e2
  cases q : qs[i]? with
  | none => rw [q] at e2; cases e2
  | some x =>
    rw [q] at e2
    cases e2
    exact ⟨#[], h0_tab (List.mem_of_getElem? e1), True.intro, fun pos cv z => by
      have z2 : codeAmong pos [] = some cv := z
      simp [codeAmong] at z2⟩
theorem law_walk {l : PySem.W.OpenLaw} {k : Nat} {q : Program} {loose : List Str} {XP : (Str → Option Value) → Heap → Prop} {YP : World → Heap → Prop} {d : DefRec} {K : Params → PySem.W.Frag} {x : Str} {ct : Nat → List W → List W → IH → QW → Prop} {lv : Nat → Nat} {xs : List Str} {qs : List Str} (hl : xs.length = qs.length)
    (hn : l.most = some 63) (hdf : d.params.defaults = []) (room : Room k callerA) (hY : ∀ (w : World) (h : Heap), YP w h → (K w.params).In h) (hi : PyProof.Rows.importsNone q = true) (hr : ∀ y ∈ xs, ∃ r, (recsOf q).find? (fun e => e.name == y) = some r)
    (G : ∀ (w : World) (mg : Str → Option Value) (fa : Addr) (h : Heap), (K w.params).In h → h.Ns mainGlobals mg → mg d.name = some (.ref fa) →
      ∃ (fd : FuncData) (cs : List (Addr × Addr)), cs.map some = xs.map (PySem.W.tabIn (K w.params)) ∧ (∀ p ∈ cs, (K w.params).lookup p.2 = none) ∧ (cs.map (·.2)).Nodup ∧ (∀ (s : Shared) (u : Value), BindsTo s fd ⟨[u], []⟩ [(x, u)]) ∧
        ∀ base : Heap, (K w.params).In base → base.Ns mainGlobals mg → (∃ o, base.get? sysModules = some o) → (∀ p ∈ cs, TabB base mg p.1 p.2) → FnG l.prog w (K w.params) mg base ⟨ct, lv, cs.map (·.2)⟩ k fa fd [x] (spLaw qs)) :
    PySem.W.WalkO q loose XP YP l.row.toRowW d [] (fun f vs => PySem.call f vs) := by
  refine Att.attach_call hn hdf fun w st0 st mg mb fa o pm cd doc a us ns T Y ho hd hcd hmg la hints hlen ng => ?_
  have kin := hY w _ Y
  obtain ⟨fd, cs, ecs, nT, nd, bd, G2⟩ := G w mg fa _ kin T.T.g hmg
  have both : ∀ p ∈ cs, PySem.W.CodeHd st.heap p.1 p.2 ∧ st.heap.get? p.2 = some (PySem.W.tabObj #[]) := fun p hp => by
    have h1 : some p ∈ xs.map (PySem.W.tabIn (K w.params)) := by rw [← ecs]; exact List.mem_map.mpr ⟨p, hp, rfl⟩
    obtain ⟨y, hy, e⟩ := List.mem_map.mp h1
    obtain ⟨r, er⟩ := hr y hy
    exact PySem.W.tab_of T.T kin er e
  have lenT : (cs.map (·.2)).length = qs.length := by
    rw [List.length_map, ← hl]
    have := congrArg List.length ecs
    rwa [List.length_map, List.length_map] at this
  have rel := vals_ints hints
  have lenU := hints.length
  have big : ns.length ≤ sizeLine := Nat.le_trans hlen (by decide)
  have aT : a ∉ cs.map (·.2) := fun h => by
    obtain ⟨p, hp, e⟩ := List.mem_map.mp h
    have z := (both p hp).2
    rw [e, la] at z
    cases (show Data.seq us.toArray _ = Data.fields #[] from congrArg Obj.data (Option.some.inj z))
  have fin : ∀ sc : Option HO, WR (K w.params) (jT (cs.map (·.2))) (cs.map (·.2)) (qs.map .tab) (h0 sc a (cs.map (·.2))) (.scr ns) (.ref a) → ∀ base, lift l.prog w (K w.params) mg base ⟨ct, lv, cs.map (·.2)⟩ (spLaw qs) [.ref a] (h0 sc a (cs.map (·.2))) fun v _ => v = .bl true := fun sc r base =>
    ⟨jT (cs.map (·.2)), cs.map (·.2), qs.map .tab, [.scr ns], fun y _ => y = .d (.bool true), jT_ok (Sg := ⟨ct, lv, cs.map (·.2)⟩), sim_start nd lenT, .cons r .nil, ⟨ns, rfl, rfl, hlen, fun _ => rfl⟩, fun m1 ih1 H1 y v S1 x1 r1 e1 => by subst e1; exact r1.bl'⟩
  cases hk : (K w.params).lookup a with
  | some ob =>
    have g := kin a ob hk
    rw [la] at g
    cases g
    refine goG kin T.T.g T.T.b T.T.builtins T.T.nolimit ng la room bd (fun p hp => (both p hp).2) nT (fun p hp => (both p hp).1) T.T.bmain (let ⟨mm, h, _⟩ := (T.T.seer hi).mods; ⟨mm, h⟩) G2 (sc := none) (fun u z => by cases z) (fun b u z => ?_) (fun z => absurd rfl z) (fin none ⟨a, rfl, .inr fun H2 => ?_⟩)
    · rcases h0_in (show h0 none a (cs.map (·.2)) b ≠ none by rw [z]; simp) with h | h
      · rw [h0_tab h] at z
        cases z
        obtain ⟨p, hp, e⟩ := List.mem_map.mp h
        rw [← e]
        exact (both p hp).2
      · rw [h, h0_scr aT] at z
        cases z
    · exact .inr ⟨_, us.toArray, _, hk, rfl, rfl, rfl, by rw [List.size_toArray, lenU]; exact big, by simpa using rel⟩
  | none =>
    refine goG kin T.T.g T.T.b T.T.builtins T.T.nolimit ng la room bd (fun p hp => (both p hp).2) nT (fun p hp => (both p hp).1) T.T.bmain (let ⟨mm, h, _⟩ := (T.T.seer hi).mods; ⟨mm, h⟩) G2 (sc := some (.frz { cls := .type "list", data := .seq us.toArray } (.lst (ns.map V.int)))) (fun u z => by cases z; exact ⟨_, _, rfl⟩) (fun b u z => ?_) (fun _ => hk)
      (fin _ ⟨a, rfl, .inl ⟨.inr ⟨_, h0_scr aT⟩, fun l => l.elim (fun l => aT (live_tabs l)) fun l => absurd l (by simp [jT])⟩⟩)
    rcases h0_in (show h0 _ a (cs.map (·.2)) b ≠ none by rw [z]; simp) with h | h
    · rw [h0_tab h] at z
      cases z
      obtain ⟨p, hp, e⟩ := List.mem_map.mp h
      rw [← e]
      exact (both p hp).2
    · rw [h, h0_scr aT] at z
      cases z
      rw [h]
      exact ⟨la, by rw [List.length_map]; exact big, us, _, rel, la⟩
end Pz

end
section
set_option Elab.async false
set_option linter.all false
set_option maxRecDepth 100000
set_option autoImplicit false
/-! Fw13: the defs of a module, their calls. -/
namespace Pz
open PySem PySem.Spec PyProof.Rows L2 LamX

abbrev Sty := List Str × Nat × Nat × List Nat
/-- a def of the module -/
def Df (K : PySem.W.Frag) (mg : Str → Option Value) (x : Str) (st : Stmt) (ps : List Str) (sty : List Sty) : Prop :=
  ∃ (f : Addr) (fd : FuncData), mg x = some (.ref f) ∧ PySem.W.nsIn K mainGlobals x = some (some (.ref f)) ∧ (∀ (s : Shared) (us : List Value), us.length = ps.length → BindsTo s fd ⟨us, []⟩ (ps.zip us)) ∧ (∀ s ∈ sty, KB fd ps s.1 s.2.1 s.2.2.1 s.2.2.2) ∧ Fun K x x st f fd
/-- .. with what it promises -/
def Fdf (P : Program) (w : World) (K : PySem.W.Frag) (mg : Str → Option Value) (base : Heap) (Sg : Sig) (k : Nat) (x : Str) (ps : List Str) (sty : List Sty) (sp : ASp) : Prop :=
  ∃ (f : Addr) (fd : FuncData), mg x = some (.ref f) ∧ PySem.W.keepIn K (.ref f) = true ∧ Binds K fd ps [] ∧ (∀ s ∈ sty, KB fd ps s.1 s.2.1 s.2.2.1 s.2.2.2) ∧ FnG P w K mg base Sg k f fd ps sp
section
variable {P : Program} {w : World} {K : PySem.W.Frag} {mg : Str → Option Value} {base : Heap} {Sg : Sig} {k : Nat} {x : Str} {st : Stmt} {ps : List Str} {sty : List Sty} {sp sq : ASp}
theorem Df.fd (D : Df K mg x st ps sty) (h : ∀ f fd, Fun K x x st f fd → FnG P w K mg base Sg k f fd ps sp) : Fdf P w K mg base Sg k x ps sty sp := by
  obtain ⟨f, fd, e, _, nb, kb, Fn⟩ := D
  exact ⟨f, fd, e, Fn.kp, fun s us _ hl => by rw [List.append_nil] at hl ⊢; exact nb s us hl, kb, h f fd Fn⟩
theorem Df.none (D : Df K mg x st ps sty) (h : ∀ ws ih Q, ¬ sp ws ih Q) : Fdf P w K mg base Sg k x ps sty sp :=
  D.fd fun f fd _ => ⟨fun A outer s H args us vs Q hg hr he hb hv hl ⟨J, m, ih, ws, Qa, jo, S0, r, q, f⟩ => (h _ _ _ q).elim⟩
theorem Fdf.imp (D : Fdf P w K mg base Sg k x ps sty sp) (h : ∀ ws ih Q, sq ws ih Q → sp ws ih Q) : Fdf P w K mg base Sg k x ps sty sq := by
  obtain ⟨f, fd, e, kp, b, kb, G⟩ := D
  exact ⟨f, fd, e, kp, b, kb, G.imp h⟩
/-- the facts of the head make a def -/
theorem Df.mk {h : Heap} {f : Addr} {oc : Value} {od an : Option Addr} {osl : Array (Option Value)} {kV doc pm cdv ct : Value} (X : K.In h) (G : h.Ns mainGlobals mg)
    (nb : ∀ (kV doc pm : Value) (an : Option Addr) (cdv ct : Value) (s : Shared) (us : List Value), us.length = ps.length → BindsTo s (PySem.W.fnOf x x (defArgs st) (defBody st) (defScope st) .none kV doc pm an cdv ct) ⟨us, []⟩ (ps.zip us))
    (kb : ∀ (kV doc pm : Value) (an : Option Addr) (cdv ct : Value), ∀ s ∈ sty, KB (PySem.W.fnOf x x (defArgs st) (defBody st) (defScope st) .none kV doc pm an cdv ct) ps s.1 s.2.1 s.2.2.1 s.2.2.2)
    (a : PySem.W.nsIn K mainGlobals x = some (some (.ref f))) (l : K.lookup f = some ⟨oc, od, .func (PySem.W.fnOf x x (defArgs st) (defBody st) (defScope st) .none kV doc pm an cdv ct), osl⟩)
    (c : PySem.W.codeIn K cdv x = true) (kp : PySem.W.keepIn K (.ref f) = true) : Df K mg x st ps sty :=
  ⟨f, _, PySem.W.mg_of X G a, a, nb kV doc pm an cdv ct, kb kV doc pm an cdv ct, fun_mk l c kp⟩
end

section
variable {F : Fam} {pos p : Pos} {e : Expr} {es : List Expr} {kws : List Keyword} {ta tk : AA} {x : Str} {ps ks : List Str} {sty : List Sty} {sp : ASp} {j : Nat}
theorem evc (G : Fdf F.P F.w F.K F.mg F.base F.S j x ps sty sp) (hj : j ≤ F.k) (hg : Glb F x) (ha : AV F (e :: es) ta)
    (hdb : (x == ("__debug__" : Str)) = false := by decide) (he : ∀ env, starEach (e :: es) env = (false, eval e env) :: starEach es env := by intro _; rfl) (hpl : ∀ env, (backTo pos (starEach es env)).any (·.1) = false := by intro _; rfl) :
    EV F (.Call (.Name x p) (e :: es) [] pos) (aCall ps.length sp ta) := by
  obtain ⟨f, fd, e1, kp, b, _, g⟩ := G
  exact ev_call g hj hg e1 kp b ha hdb he hpl
theorem evc0 (G : Fdf F.P F.w F.K F.mg F.base F.S j x [] sty sp) (hj : j ≤ F.k) (hg : Glb F x) (hdb : (x == ("__debug__" : Str)) = false := by decide) : EV F (.Call (.Name x p) [] [] pos) (aCall 0 sp aNil) := by
  obtain ⟨f, fd, e1, kp, b, _, g⟩ := G
  exact ev_call0 g hj hg e1 kp b hdb
theorem evk {a b : Nat} {is : List Nat} (G : Fdf F.P F.w F.K F.mg F.base F.S j x ps sty sp) (hj : j ≤ F.k) (hg : Glb F x) (hs : (ks, a, b, is) ∈ sty) (ha : AV F (e :: es) ta) (hkw : KV1 F kws tk)
    (hall : ∀ env, (backToKw pos (keywordEach kws env)).all (·.1.isSome) = true := by intro _; rfl) (hks : ∀ env, (backToKw pos (keywordEach kws env)).filterMap (·.1) = ks := by intro _; rfl)
    (hdb : (x == ("__debug__" : Str)) = false := by decide) (he : ∀ env, starEach (e :: es) env = (false, eval e env) :: starEach es env := by intro _; rfl)
    (hpl : ∀ env, ((backTo pos (starEach (e :: es) env)).any (·.1) || (backToKw pos (keywordEach kws env)).any (·.1.isNone)) = false := by intro _; rfl) :
    EV F (.Call (.Name x p) (e :: es) kws pos) (aCallK a b is sp ta tk) := by
  obtain ⟨f, fd, e1, kp, _, kb, g⟩ := G
  exact ev_callK g hj hg e1 kp (kb _ hs) ha hkw hall hks hdb he hpl
theorem evk0 {b : Nat} {is : List Nat} (G : Fdf F.P F.w F.K F.mg F.base F.S j x ps sty sp) (hj : j ≤ F.k) (hg : Glb F x) (hs : (ks, 0, b, is) ∈ sty) (hkw : KV1 F kws tk)
    (hall : ∀ env, (backToKw pos (keywordEach kws env)).all (·.1.isSome) = true := by intro _; rfl) (hks : ∀ env, (backToKw pos (keywordEach kws env)).filterMap (·.1) = ks := by intro _; rfl)
    (hdb : (x == ("__debug__" : Str)) = false := by decide)
    (hpl : ∀ env, ((backTo pos (starEach [] env)).any (·.1) || (backToKw pos (keywordEach kws env)).any (·.1.isNone)) = false := by intro _; rfl) :
    EV F (.Call (.Name x p) [] kws pos) (aCallK 0 b is sp aNil tk) := by
  obtain ⟨f, fd, e1, kp, _, kb, g⟩ := G
  exact ev_callK0 g hj hg e1 kp (kb _ hs) hkw hall hks hdb hpl
/-- a constant that the module has made -/
def Gc (K : PySem.W.Frag) (mg : Str → Option Value) (x : Str) (dt : D) : Prop := ∃ v u, mg x = some u ∧ RelV v u ∧ ∀ L H, DR K L H dt v
theorem ev_globC {dt : D} (hg : Glb F x) (h : Gc F.K F.mg x dt) (hdb : (x == ("__debug__" : Str)) = false := by decide) : EV F (.Name x p) (aC dt) := by
  obtain ⟨v, u, hm, r, hd⟩ := h
  exact ev_glob hg hm r hd hdb
/-- x = e where x is a name that a comprehension reads -/
theorem sv_setC (i : Nat) {p' : Pos} {aa : AE} (h1 : EV F e aa) (hf : ∀ X, F.ok X → X.fn x = true) (hi : F.N[i]? = some x := by rfl) (hx : F.sc.names.lookup x = some .cell := by rfl) (hs : ∀ env, swapsWith e (some (.Name x p')) pos.line env = pure false := by intro _; rfl) :
    SV F (.Assign [.Name x p'] e pos) (aAsg aa (aGN i)) := by
  obtain ⟨t, p, q⟩ := h1
  refine ⟨tAsg t (gName i), fun X hX => ps_set (by rw [F.hN X hX]; exact F.nd) (by rw [F.hN X hX]; exact hi) (.inr (by rw [F.hsc X hX]; exact hx)) (p X hX) (hs _) (.inl (hf X hX)), fun J jk m ih H env σ Da D S E h f => ?_⟩
  refine q J jk m ih H env σ _ _ S E h fun m1 ih1 H1 w v S1 x1 r1 k1 => ?_
  exact f.nx m1 ih1 H1 _ _ S1 x1 ((E.mono S x1).set r1) k1
end
theorem fn_def {P : Program} {w : World} {K : PySem.W.Frag} {mg : Str → Option Value} {base : Heap} {Sg : Sig} {k : Nat} {N : List Str} {sc : Scope} {qual : Str} {f : Addr} {cdv : Value} {nd : N.Nodup} {x : Str} :
    ∀ X, (Fam.ofDef P w K mg base Sg k N sc qual f cdv nd).ok X → X.fn x = true := by
  rintro X ⟨A, o, s, H, g, r, rfl⟩
  rfl
/-- a def whose code object's table is known -/
theorem Df.fdc {P : Program} {w : World} {K : PySem.W.Frag} {mg : Str → Option Value} {base : Heap} {Sg : Sig} {k : Nat} {x : Str} {st : Stmt} {ps : List Str} {sty : List Sty} {sp : ASp} {c T : Addr} (D : Df K mg x st ps sty) (t : PySem.W.tabIn K x = some (c, T))
    (h : ∀ f fd, Fun K x x st f fd → fd.code = .ref c → FnG P w K mg base Sg k f fd ps sp) : Fdf P w K mg base Sg k x ps sty sp := by
  obtain ⟨f, fd, e, a, nb, kb, Fn⟩ := D
  refine ⟨f, fd, e, Fn.kp, fun s us _ hl => by rw [List.append_nil] at hl ⊢; exact nb s us hl, kb, h f fd Fn ?_⟩
  obtain ⟨oc, od, kV, doc, pm, an, cdv, ct, osl, rfl, lk, _⟩ := Fn.ex
  unfold PySem.W.tabIn at t
  rw [a] at t
  simp only [lk] at t
  show cdv = .ref c
  split at t
  · split at t
    · split at t
      · cases t
        rfl
      · cases t
    · cases t
  · cases t
/-- a law's end -/
theorem law_fin {l : PySem.W.OpenLaw} {w : World} {K : PySem.W.Frag} {mg : Str → Option Value} {fa : Addr} {Sg : Sig} {k : Nat} {st : Stmt} {qs : List Str} {cs : List (Addr × Addr)} (D : Df K mg "law" st ["script"] []) (hfa : mg "law" = some (.ref fa))
    (h : ∀ base : Heap, (∃ o, base.get? sysModules = some o) → (∀ p ∈ cs, TabB base mg p.1 p.2) → ∀ f fd, Fun K "law" "law" st f fd → FnG l.prog w K mg base Sg k f fd ["script"] (spLaw qs)) :
    ∃ fd : FuncData, (∀ (s : Shared) (u : Value), BindsTo s fd ⟨[u], []⟩ [("script", u)]) ∧ ∀ base : Heap, K.In base → base.Ns mainGlobals mg → (∃ o, base.get? sysModules = some o) → (∀ p ∈ cs, TabB base mg p.1 p.2) → FnG l.prog w K mg base Sg k fa fd ["script"] (spLaw qs) := by
  obtain ⟨f, fd, e, _, nb, _, Fn⟩ := D
  rw [hfa] at e
  cases e
  exact ⟨fd, fun s u => nb s [u] rfl, fun base _ _ lw tb => h base lw tb _ _ Fn⟩
end Pz

end
section
set_option Elab.async false
set_option linter.all false
set_option maxRecDepth 100000
set_option autoImplicit false
/-! Fw14: built-in names; sizes of whole numbers; the deck of a law. -/
namespace Pz
open PySem PySem.Spec PyProof.Rows L2 LamX
theorem bt_len : bootBuiltins "len" = some (.builtin "len") := by decide +kernel
theorem bt_abs : bootBuiltins "abs" = some (.builtin "abs") := by decide +kernel
theorem bt_max : bootBuiltins "max" = some (.builtin "max") := by decide +kernel
theorem bt_min : bootBuiltins "min" = some (.builtin "min") := by decide +kernel
theorem bt_sum : bootBuiltins "sum" = some (.builtin "sum") := by decide +kernel
theorem bt_all : bootBuiltins "all" = some (.builtin "all") := by decide +kernel
theorem bt_any : bootBuiltins "any" = some (.builtin "any") := by decide +kernel
theorem bt_repr : bootBuiltins "repr" = some (.builtin "repr") := by decide +kernel
theorem bt_sorted : bootBuiltins "sorted" = some (.builtin "sorted") := by decide +kernel
theorem bt_isinstance : bootBuiltins "isinstance" = some (.builtin "isinstance") := by decide +kernel
theorem bt_int : bootBuiltins "int" = some (.type "int") := by decide +kernel
theorem bt_str : bootBuiltins "str" = some (.type "str") := by decide +kernel
theorem bt_bool : bootBuiltins "bool" = some (.type "bool") := by decide +kernel
theorem bt_list : bootBuiltins "list" = some (.type "list") := by decide +kernel
theorem bt_tuple : bootBuiltins "tuple" = some (.type "tuple") := by decide +kernel
theorem bt_dict : bootBuiltins "dict" = some (.type "dict") := by decide +kernel
theorem bt_set : bootBuiltins "set" = some (.type "set") := by decide +kernel

/-! ### sizes -/
/-- a whole number of at most k bits -/
def Bd (k : Nat) (i : Int) : Prop := i.natAbs < 2 ^ k
instance Bd.dec {k : Nat} {i : Int} : Decidable (Bd k i) := inferInstanceAs (Decidable (i.natAbs < 2 ^ k))
theorem Bd.mono {a b : Nat} {i : Int} (h : Bd a i) (hl : a ≤ b) : Bd b i := Nat.lt_of_lt_of_le h (Nat.pow_le_pow_right (by decide) hl)
theorem Bd.neg {a : Nat} {i : Int} (h : Bd a i) : Bd a (-i) := by unfold Bd; rw [Int.natAbs_neg]; exact h
theorem Bd.mul {a b : Nat} {i j : Int} (h : Bd a i) (g : Bd b j) : Bd (a + b) (i * j) := by
  unfold Bd at *
  rw [Int.natAbs_mul, Nat.pow_add]
  exact Nat.mul_lt_mul_of_lt_of_le h (Nat.le_of_lt g) (Nat.lt_of_le_of_lt (Nat.zero_le _) g)
theorem Bd.add {a : Nat} {i j : Int} (h : Bd a i) (g : Bd a j) : Bd (a + 1) (i + j) := by
  unfold Bd at *
  have := Int.natAbs_add_le i j
  rw [Nat.pow_succ]
  omega
theorem Bd.sub {a : Nat} {i j : Int} (h : Bd a i) (g : Bd a j) : Bd (a + 1) (i - j) := by
  rw [Int.sub_eq_add_neg]
  exact h.add g.neg
theorem Bd.le {a : Nat} {i j : Int} (h : Bd a i) (g : j.natAbs ≤ i.natAbs) : Bd a j := Nat.lt_of_le_of_lt g h
theorem Bd.log {a : Nat} {i : Int} (h : Bd a i) : i.natAbs.log2 ≤ a := by
  unfold Bd at h
  by_cases h0 : i.natAbs = 0
  · rw [h0]; simp
  · exact Nat.le_of_lt ((Nat.log2_lt h0).mpr h)
theorem Bd.cmul {a b : Nat} {i j : Int} (h : Bd a i) (g : Bd b j) (hl : a + b < 1000000) : CMulW i j := by
  unfold CMulW
  have := h.log
  have := g.log
  omega
theorem Bd.cdv {a : Nat} {i j : Int} (g : Bd a j) (h0 : j ≠ 0) (hl : a < 9000) : CDv i j := ⟨h0, Nat.lt_of_le_of_lt g.log hl⟩
theorem Bd.of {k : Nat} {i : Int} (h1 : -(2 ^ k : Int) < i) (h2 : i < (2 ^ k : Int)) : Bd k i := by
  unfold Bd
  have e : ((2 ^ k : Nat) : Int) = (2 ^ k : Int) := by simp
  omega
theorem Bd.abs {a : Nat} {i : Int} (h : Bd a i) : Bd a (i.natAbs : Int) := by unfold Bd; rw [Int.natAbs_natCast]; exact h
theorem Bd.lt {a : Nat} {i : Int} (h : Bd a i) : i < (2 ^ a : Int) ∧ -(2 ^ a : Int) < i := by
  unfold Bd at h
  have e : ((2 ^ a : Nat) : Int) = (2 ^ a : Int) := by simp
  omega
theorem natAbs_fdiv_le (i j : Int) (hj : 0 < j) (hd : j ∣ i) : (i.fdiv j).natAbs ≤ i.natAbs := by
  obtain ⟨k, rfl⟩ := hd
  rw [Int.mul_comm, Int.mul_fdiv_cancel _ (by omega), Int.natAbs_mul]
  exact Nat.le_mul_of_pos_right _ (by omega)

/-! ### the deck -/
def DK (pre : IH) (c : List Int) (x z : Int) (r : IH) : IH := pre ++ (.lst (c.map fun i => .d (.int i)) :: .dic [(.inr "cells", .ref pre.length), (.inr "mixed", .d (.int x)), (.inr "draws", .d (.int z))] :: r)
/-- a deck stands behind pre, from which at most b have been drawn -/
def Dk (pre : IH) (b : Nat) (r ih : IH) : Prop := ∃ c x z, ih = DK pre c x z r ∧ c.length ≤ 63 ∧ 0 ≤ x ∧ x < 2147483629 ∧ 0 ≤ z ∧ z ≤ b
theorem Dk.mono {pre : IH} {a b : Nat} {r ih : IH} (h : Dk pre a r ih) (l : a ≤ b) : Dk pre b r ih := by
  obtain ⟨c, x, z, e, h1, h2, h3, h4, h5⟩ := h
  exact ⟨c, x, z, e, h1, h2, h3, h4, by omega⟩
theorem ifd {b : Bool} {inst : Decidable (b = true)} {p q : Prop} (h1 : b = true → p) (h2 : b = false → q) : @ite Prop (b = true) inst p q := by
  cases b with
  | true => rw [if_pos rfl]; exact h1 rfl
  | false => rw [if_neg Bool.false_ne_true]; exact h2 rfl
theorem rng_in {lo : Int} {n i : Nat} {d : D} (h : (rng lo n)[i]? = some d) : i < n ∧ d = .int (lo + i) := by
  have hi : i < n := by have := (List.getElem?_eq_some_iff.mp h).1; rwa [rng_len] at this
  rw [rng_get hi] at h
  cases h
  exact ⟨hi, rfl⟩
theorem shaped_ints (c : List Int) : SeqAt.shaped (.list (c.map .int)) = true := by
  have h1 : ∀ c : List Int, PyData.canLayAll0 (c.map .int) = true := fun c => by
    induction c with
    | nil => rfl
    | cons a r ih => show (PyData.canLay0 (.int a) && PyData.canLayAll0 (r.map .int)) = true; rw [ih]; rfl
  have h2 : ∀ c : List Int, PyData.depthAll (c.map .int) = 0 := fun c => by
    induction c with
    | nil => rfl
    | cons a r ih => show max (PyData.depth (.int a)) (PyData.depthAll (r.map .int)) = 0; rw [ih]; rfl
  show (PyData.canLayAll0 (c.map .int) && decide (PyData.depthAll (c.map .int) + 1 ≤ 64)) = true
  rw [h1, h2]
  rfl
theorem allD_ints (c : List Int) : allD (c.map fun i => W.d (.int i)) = some (c.map .int) := by
  have e : (c.map fun i => W.d (.int i)) = (c.map PyData.int).map W.d := by rw [List.map_map]; rfl
  rw [e, allD_map]
theorem eqv_nil (c : List Int) : PyData.eqv (.list (c.map .int)) (.list []) = c.isEmpty := by
  cases c <;> rfl
/-! ### shapes -/
theorem sqm (mid : En → IH → Prop) {t u : AS} {D : AEnds} {env : En} {ih : IH} (h2 : ∀ env2 ih2, mid env2 ih2 → u D env2 ih2) (h : ∀ R : En → IH → Prop, (∀ env2 ih2, mid env2 ih2 → R env2 ih2) → t { D with nx := R } env ih) : aSeq t u D env ih := h (u D) h2
theorem sq {t u : AS} {D : AEnds} {env : En} {ih : IH} (h : t { D with nx := u D } env ih) : aSeq t u D env ih := h
theorem atI_0 {α : Type} {a : α} {r : List α} : atI (a :: r) 0 = some a := by
  unfold atI ixN
  rw [if_pos (by decide), if_pos (by rw [List.length_cons]; omega)]
  rfl
theorem atI_1 {α : Type} {a b : α} {r : List α} : atI (a :: b :: r) 1 = some b := by
  unfold atI ixN
  rw [if_pos (by decide), if_pos (by rw [List.length_cons, List.length_cons]; omega)]
  rfl
theorem size0 : (0 ≤ sizeLine) = True := eq_true (by decide)
theorem size1 : (1 ≤ sizeLine) = True := eq_true (by decide)
theorem size2 : (2 ≤ sizeLine) = True := eq_true (by decide)
theorem size3 : (3 ≤ sizeLine) = True := eq_true (by decide)
theorem ex_app {α : Type} {l : List α} : (∃ ex, l = l ++ ex) = True := eq_true ⟨[], by simp⟩
theorem ex_app2 {α : Type} {l r : List α} : (∃ ex, l ++ r = l ++ ex) = True := eq_true ⟨r, rfl⟩
theorem ite_tt {α : Sort _} {a b : α} : (if (true = true) then a else b) = a := if_pos rfl
theorem ite_ft {α : Sort _} {a b : α} : (if (false = true) then a else b) = b := if_neg Bool.false_ne_true
theorem eqOk_int {a b : Int} : eqOk (.int a) (.int b) = True := eq_true ⟨rfl, rfl⟩
theorem eqD_int {a b : Int} : eqD (.int a) (.int b) = decide (a = b) := rfl
theorem eqOk_str {a b : Str} : eqOk (.str a) (.str b) = True := rfl
theorem eqD_str {a b : Str} : eqD (.str a) (.str b) = decide (a = b) := rfl
theorem eqOk_fr {a b c d : Int} : eqOk (.tuple [.int a, .int b]) (.tuple [.int c, .int d]) = True := eq_true ⟨rfl, rfl⟩
theorem eqD_fr {a b c d : Int} : eqD (.tuple [.int a, .int b]) (.tuple [.int c, .int d]) = (decide (a = c) && (decide (b = d) && true)) := rfl
theorem lo_ws1 : ([0] : List Nat) = [0] := rfl
theorem lo_ws2 : ([0] : List Nat) = [0] := rfl
theorem lo_ws3 : ([0] : List Nat) = [0] := rfl
theorem cut_map {α β : Type} (f : α → β) (xs : List α) (lo hi : Option Int) : cut (xs.map f) lo hi = (cut xs lo hi).map f := by
  unfold cut
  rw [List.length_map, List.map_take, List.map_drop]
theorem cut_len {α : Type} (xs : List α) (lo hi : Option Int) : (cut xs lo hi).length ≤ xs.length := by
  unfold cut
  rw [List.length_take, List.length_drop]
  omega
theorem map_get {α β : Type} {f : α → β} {xs : List α} {i : Nat} {d : β} (h : (xs.map f)[i]? = some d) : ∃ a, xs[i]? = some a ∧ d = f a := by
  rw [List.getElem?_map] at h
  cases q : xs[i]? with
  | none => rw [q] at h; cases h
  | some a => rw [q] at h; cases h; exact ⟨a, rfl, rfl⟩
theorem fmod_in (a b : Int) (h : 0 < b) : 0 ≤ a.fmod b ∧ a.fmod b < b := by
  rw [Int.fmod_eq_emod_of_nonneg _ (by omega)]
  exact ⟨Int.emod_nonneg _ (by omega), Int.emod_lt_of_pos _ h⟩
theorem bd31 {i : Int} (h1 : 0 ≤ i) (h2 : i < 2147483648) : Bd 31 i := Bd.of (by omega) (by omega)
/-- the dict of a deck -/
def dk3 (a b e : W) : List (Key × W) := [(.inr "cells", a), (.inr "mixed", b), (.inr "draws", e)]
theorem n_cm : ¬ ((Sum.inr ("cells" : Str) : Key) = Sum.inr ("mixed" : Str)) := by decide +kernel
theorem n_cd : ¬ ((Sum.inr ("cells" : Str) : Key) = Sum.inr ("draws" : Str)) := by decide +kernel
theorem n_md : ¬ ((Sum.inr ("mixed" : Str) : Key) = Sum.inr ("draws" : Str)) := by decide +kernel
theorem val_cells {a b e : W} : valW (dk3 a b e) (.inr ("cells" : Str)) = some a := by
  unfold valW dk3
  rw [List.find?_cons_of_pos (by simp)]
  rfl
theorem val_mixed {a b e : W} : valW (dk3 a b e) (.inr ("mixed" : Str)) = some b := by
  unfold valW dk3
  rw [List.find?_cons_of_neg (by simpa using n_cm), List.find?_cons_of_pos (by simp)]
  rfl
theorem val_draws {a b e : W} : valW (dk3 a b e) (.inr ("draws" : Str)) = some e := by
  unfold valW dk3
  rw [List.find?_cons_of_neg (by simpa using n_cd), List.find?_cons_of_neg (by simpa using n_md), List.find?_cons_of_pos (by simp)]
  rfl
theorem put_draws {a b e v : W} : putW (dk3 a b e) (.inr ("draws" : Str)) v = dk3 a b v := by
  unfold putW dk3
  rw [if_pos (by simp)]
  simp only [List.map_cons, List.map_nil, if_neg n_cd, if_neg n_md, if_true]
theorem dk3_len {a b e : W} : ((dk3 a b e).length < sizeLine) = True := eq_true (by show 3 < sizeLine; decide)
theorem dk3_eq (pre : IH) (c : List Int) (x z : Int) (r : IH) : DK pre c x z r = pre ++ (.lst (c.map fun i => .d (.int i)) :: .dic (dk3 (.ref pre.length) (.d (.int x)) (.d (.int z))) :: r) := rfl
theorem pop_get {c : List Int} {y : Int} : ((c ++ [y]).map fun i => W.d (PyData.int i))[((c ++ [y]).map fun i => W.d (PyData.int i)).length - 1]? = some (.d (.int y)) := by
  rw [List.length_map, List.length_append, List.map_append]
  simp
theorem pop_drop {c : List Int} {y : Int} : ((c ++ [y]).map fun i => W.d (PyData.int i)).dropLast = c.map fun i => W.d (PyData.int i) := by
  rw [List.map_append, List.map_cons, List.map_nil, List.dropLast_concat]
theorem atI_in {α : Type} (xs : List α) (k : Int) (h0 : 0 ≤ k) (h1 : k < (xs.length : Int)) : ∃ y, atI xs k = some y ∧ y ∈ xs := by
  have hk : k.toNat < xs.length := by omega
  refine ⟨xs[k.toNat], ?_, List.getElem_mem _⟩
  unfold atI ixN
  rw [if_pos h0, if_pos h1]
  exact List.getElem?_eq_getElem hk
/-- data of at most that depth, with no dict -/
def sameOk : Nat → D → Bool
  | 0, _ => false
  | n + 1, x => match x with
    | .tuple xs => xs.all (sameOk n) && decide (xs.length ≤ 1000000)
    | .list xs => xs.all (sameOk n) && decide (xs.length ≤ 1000000)
    | .dict _ => false
    | .none => false
    | _ => true
theorem eqOk_bool {a b : Bool} : eqOk (.bool a) (.bool b) = True := eq_true ⟨rfl, rfl⟩
theorem eqD_bool {a b : Bool} : eqD (.bool a) (.bool b) = decide (a = b) := by cases a <;> cases b <;> rfl
theorem zipD_self {xs : List D} {i : Nat} {d : D} (h : (zipD xs xs)[i]? = some d) : ∃ y, xs[i]? = some y ∧ d = .tuple [y, y] := by
  unfold zipD at h
  rw [List.getElem?_zipWith] at h
  cases q : xs[i]? with
  | none => rw [q] at h; cases h
  | some y => rw [q] at h; cases h; exact ⟨y, rfl, rfl⟩
section
variable {g : Bool → Bool} {ih : IH} {Q : QW} {a b : Bool} {i : Int} {s : Str} {xs : List D}
theorem xIs_nn : xIs g (.d .none) (.d .none) ih Q = Q (.d (.bool (g true))) ih := rfl
theorem xIs_bb : xIs g (.d (.bool a)) (.d (.bool b)) ih Q = Q (.d (.bool (g (decide (a = b))))) ih := rfl
theorem xIs_bn : xIs g (.d (.bool a)) (.d .none) ih Q = Q (.d (.bool (g false))) ih := rfl
theorem xIs_in : xIs g (.d (.int i)) (.d .none) ih Q = Q (.d (.bool (g false))) ih := rfl
theorem xIs_sn : xIs g (.d (.str s)) (.d .none) ih Q = Q (.d (.bool (g false))) ih := rfl
theorem xIs_tn : xIs g (.d (.tuple xs)) (.d .none) ih Q = Q (.d (.bool (g false))) ih := rfl
theorem xIs_ln : xIs g (.d (.list xs)) (.d .none) ih Q = Q (.d (.bool (g false))) ih := rfl
end
theorem pow10_le {a b : Nat} (h : a ≤ b) : (10 : Int) ^ a ≤ 10 ^ b := by
  have : (10 : Nat) ^ a ≤ 10 ^ b := Nat.pow_le_pow_right (by decide) h
  exact_mod_cast this
/-! ### what repr asks -/
theorem shown_le {d : PyData} (h : d.leavesShort 1921 = true) (hb : d.bulk ≤ 8000) : d.shown.length ≤ sizeLine := by
  have := PyData.shown_le_bulk 1921 (by decide) d h
  have e : (1921 + 2) * d.bulk ≤ 1923 * 8000 := Nat.mul_le_mul_left _ hb
  have s : sizeLine = 16777216 := by decide
  omega
theorem Bd.show {i : Int} {k : Nat} (h : Bd k i) (hk : k < 1920) : PyData.showable (.int i) = true ∧ PyData.leavesShort 1921 (.int i) = true := by
  have l : i.natAbs.log2 < 1920 := Nat.lt_of_le_of_lt h.log hk
  exact ⟨decide_eq_true l, decide_eq_true (int_text_len_1921 l)⟩
end Pz

end
section
set_option Elab.async false
set_option linter.all false
set_option maxRecDepth 100000
set_option autoImplicit false
/-! Fw15: lambdas: what is known of some heap objects while a call runs; the making of a lambda. -/
namespace Pz
open PySem PySem.Spec PyProof.Rows L2 LamX NdefX

/-! ### some heap objects told for a while -/
def sure (o : Obj) : HO := .frz o (.ext fun _ => True)
def trk (H : Hp) (L : List (Addr × Obj)) : Hp := fun b => match L.lookup b with
  | some o => some (sure o)
  | none => H b
def utk (H : Hp) (L : List (Addr × Obj)) : Hp := fun b => match L.lookup b with
  | some _ => none
  | none => H b
section
variable {H H' : Hp} {L : List (Addr × Obj)} {b : Addr} {o : Obj} {u : HO}
theorem trk_in (h : L.lookup b = some o) : trk H L b = some (sure o) := by unfold trk; rw [h]
theorem trk_out (h : L.lookup b = none) : trk H L b = H b := by unfold trk; rw [h]
theorem utk_in (h : L.lookup b = some o) : utk H L b = none := by unfold utk; rw [h]
theorem utk_out (h : L.lookup b = none) : utk H L b = H b := by unfold utk; rw [h]
theorem lk_cases (L : List (Addr × Obj)) (b : Addr) : (∃ o, L.lookup b = some o) ∨ L.lookup b = none := by
  cases h : L.lookup b with
  | none => exact .inr rfl
  | some o => exact .inl ⟨o, rfl⟩
end
section
variable {P : Program} {w : World} {K : PySem.W.Frag} {mg : Str → Option Value} {base : Heap} {A : Around} {outer : List PySem.Env} {s s' : Shared} {H : Hp} {L : List (Addr × Obj)}
/-- objects that nobody tracks are told -/
structure Tell (base : Heap) (outer : List PySem.Env) (h : Heap) (H : Hp) (L : List (Addr × Obj)) : Prop where
  at_ : ∀ b o, L.lookup b = some o → h.get? b = some o
  no : ∀ b o, L.lookup b = some o → H b = none
  fr : ∀ b o, L.lookup b = some o → b ∉ frs outer
  bs : ∀ b o, L.lookup b = some o → base.get? b = none
theorem hok_trk (ok : HOk P w H s.heap) (T : ∀ b o, L.lookup b = some o → s.heap.get? b = some o) (no : ∀ b o, L.lookup b = some o → H b = none) : HOk P w (trk H L) s.heap := fun b u e => by
  rcases lk_cases L b with ⟨o, h⟩ | h
  · rw [trk_in h] at e
    cases e
    exact ⟨T b o h, True.intro, ⟨o, T b o h⟩, fun _ _ _ _ => True.intro⟩
  · rw [trk_out h] at e
    refine (ok b u e).stay (fun _ _ _ q => q) (fun d q => ?_) fun d xs q => ?_
    · rcases lk_cases L d with ⟨o, h2⟩ | h2
      · rw [no d o h2] at q; cases q
      · rw [trk_out h2]; exact q
    · rcases lk_cases L d with ⟨o, h2⟩ | h2
      · rw [no d o h2] at q; cases q
      · rw [trk_out h2]; exact q
theorem hok_utk (ok : HOk P w H s.heap) (T : ∀ b o, L.lookup b = some o → H b = some (sure o)) : HOk P w (utk H L) s.heap := fun b u e => by
  rcases lk_cases L b with ⟨o, h⟩ | h
  · rw [utk_in h] at e; cases e
  · rw [utk_out h] at e
    refine (ok b u e).stay (fun _ _ _ q => q) (fun d q => ?_) fun d xs q => ?_
    · rcases lk_cases L d with ⟨o, h2⟩ | h2
      · rw [T d o h2] at q; cases q
      · rw [utk_out h2]; exact q
    · rcases lk_cases L d with ⟨o, h2⟩ | h2
      · rw [T d o h2] at q; cases q
      · rw [utk_out h2]; exact q
theorem env_trk (e : Env0 P w K mg base A outer s H) (T : Tell base outer s.heap H L) : Env0 P w K mg base A outer s (trk H L) := by
  refine ⟨e.frames, e.mod, fun b o g => ?_, e.bsz, e.funs, fun b hb => ?_, hok_trk e.hok T.at_ T.no, e.bare⟩
  · obtain ⟨g1, g2⟩ := e.bs b o g
    rcases lk_cases L b with ⟨u, h⟩ | h
    · rw [T.bs b u h] at g; cases g
    · exact ⟨g1, by rw [trk_out h]; exact g2⟩
  · rcases lk_cases L b with ⟨u, h⟩ | h
    · exact absurd hb (T.fr b u h)
    · rw [trk_out h]; exact e.frf b hb
theorem env_utk (e : Env0 P w K mg base A outer s H) (T : ∀ b o, L.lookup b = some o → H b = some (sure o)) : Env0 P w K mg base A outer s (utk H L) := by
  have no : ∀ b, H b = none → utk H L b = none := fun b h => by
    rcases lk_cases L b with ⟨o, h2⟩ | h2
    · exact utk_in h2
    · rw [utk_out h2]; exact h
  exact ⟨e.frames, e.mod, fun b o g => ⟨(e.bs b o g).1, no b (e.bs b o g).2⟩, e.bsz, e.funs, fun b hb => no b (e.frf b hb), hok_utk e.hok T, e.bare⟩
/-- behind the call: told no longer -/
theorem ce_utk {Q Q' : VK} {u : Value} (T : Tell base outer s.heap H L) (c : CE outer P w (trk H L) s Q' u s') (h : ∀ v H', (∀ b o, L.lookup b = some o → H' b = some (sure o)) → Q' v H' → Q v (utk H' L)) : CE outer P w H s Q u s' := by
  obtain ⟨v, H', os, bare, un, ok, r, q⟩ := c
  have still : ∀ b o, L.lookup b = some o → H' b = some (sure o) := fun b o e => un.frzs b o _ (trk_in e)
  refine ⟨v, utk H' L, os, bare, ⟨fun b o g n f x => ?_, fun b o g n f x => ?_, fun b o g n x => ?_, un.there, fun b xs e => ?_, fun b o u e => ?_, fun b ps e => ?_⟩, hok_utk ok still, r, h v H' still q⟩
  · rcases lk_cases L b with ⟨o2, h2⟩ | h2
    · obtain ⟨g2, _⟩ := ok b _ (still b o2 h2)
      rw [T.at_ b o2 h2] at g
      cases g
      exact g2
    · exact un.keep b o g (by rw [trk_out h2]; exact n) f x
  · rcases lk_cases L b with ⟨o2, h2⟩ | h2
    · exact absurd f (T.fr b o2 h2)
    · exact un.slot b o g (by rw [trk_out h2]; exact n) f x
  · rcases lk_cases L b with ⟨o2, h2⟩ | h2
    · exact utk_in h2
    · rw [utk_out h2]; exact un.free b o g (by rw [trk_out h2]; exact n) x
  · rcases lk_cases L b with ⟨o2, h2⟩ | h2
    · rw [T.no b o2 h2] at e; cases e
    · rw [utk_out h2]; exact un.tups b xs (by rw [trk_out h2]; exact e)
  · rcases lk_cases L b with ⟨o2, h2⟩ | h2
    · rw [T.no b o2 h2] at e; cases e
    · rw [utk_out h2]; exact un.frzs b o u (by rw [trk_out h2]; exact e)
  · rcases lk_cases L b with ⟨o2, h2⟩ | h2
    · rw [T.no b o2 h2] at e; cases e
    · rw [utk_out h2]; exact un.tbls b ps (by rw [trk_out h2]; exact e)
/-- behind a run that did not know of them: told again -/
theorem ce_trk {Q Q' : VK} {u : Value} (e0 : Env0 P w K mg base A outer s H) (T : ∀ b o, L.lookup b = some o → H b = some (sure o)) (c : CE outer P w (utk H L) s Q' u s') (h : ∀ v H', (∀ b o, L.lookup b = some o → H' b = none) → Q' v H' → Q v (trk H' L)) : CE outer P w H s Q u s' := by
  obtain ⟨v, H', os, bare, un, ok, r, q⟩ := c
  have here : ∀ b o, L.lookup b = some o → s.heap.get? b = some o := fun b o e => (e0.hok b _ (T b o e)).1
  have nofr : ∀ b o, L.lookup b = some o → b ∉ frs outer := fun b o e z => by
    have := e0.frf b z
    rw [T b o e] at this
    cases this
  have gone : ∀ b o, L.lookup b = some o → H' b = none := fun b o e => un.free b o (here b o e) (utk_in e) (by simp)
  have there' : ∀ b o, L.lookup b = some o → s'.heap.get? b = some o := fun b o e => un.keep b o (here b o e) (utk_in e) (nofr b o e) (by simp)
  have out : ∀ b, H b = none → L.lookup b = none := fun b n => by
    rcases lk_cases L b with ⟨o2, h2⟩ | h2
    · rw [T b o2 h2] at n; cases n
    · exact h2
  refine ⟨v, trk H' L, os, bare, ⟨fun b o g n f x => ?_, fun b o g n f x => ?_, fun b o g n x => ?_, un.there, fun b xs e => ?_, fun b o u e => ?_, fun b ps e => ?_⟩, hok_trk ok there' gone, r, h v H' gone q⟩
  · exact un.keep b o g (by rw [utk_out (out b n)]; exact n) f x
  · exact un.slot b o g (by rw [utk_out (out b n)]; exact n) f x
  · rw [trk_out (out b n)]; exact un.free b o g (by rw [utk_out (out b n)]; exact n) x
  · rcases lk_cases L b with ⟨o2, h2⟩ | h2
    · rw [T b o2 h2] at e; cases e
    · rw [trk_out h2]; exact un.tups b xs (by rw [utk_out h2]; exact e)
  · rcases lk_cases L b with ⟨o2, h2⟩ | h2
    · rw [T b o2 h2] at e
      rw [trk_in h2]; exact e
    · rw [trk_out h2]; exact un.frzs b o u (by rw [utk_out h2]; exact e)
  · rcases lk_cases L b with ⟨o2, h2⟩ | h2
    · rw [T b o2 h2] at e; cases e
    · rw [trk_out h2]; exact un.tbls b ps (by rw [utk_out h2]; exact e)
end

/-! ### the making of a lambda -/
structure LF where
  params : Arguments
  body : Expr
  scope : Scope
  q : Str
  cl : List (Str × Addr)
  c : Addr
/-- the object at f is that lambda -/
def LamO (f : Addr) (L : LF) : HO := .ext fun h => ∃ pm ctv, h.get? f = some (PySem.W.kla_obj "<lambda>" L.q L.params L.body L.scope L.cl pm L.c ctv)
theorem set_same {α : Type} {l : List α} {t : Nat} {o : α} (h : l[t]? = some o) : l.set t o = l := by
  apply List.ext_getElem?
  intro i
  by_cases hi : t = i
  · subst hi
    rw [List.getElem?_set_self (List.getElem?_eq_some_iff.mp h).1, h]
  · rw [List.getElem?_set_ne hi]
theorem upd_comm {H : Hp} {a b : Addr} {o u : HO} (h : a ≠ b) : upd (upd H a o) b u = upd (upd H b u) a o := by
  funext x
  unfold upd
  by_cases h1 : x = a
  · by_cases h2 : x = b
    · exact absurd (h1.symm.trans h2) h
    · rw [if_neg h2, if_pos h1, if_pos h1]
  · by_cases h2 : x = b
    · rw [if_pos h2, if_neg h1, if_pos h2]
    · rw [if_neg h2, if_neg h1, if_neg h1, if_neg h2]
section
variable {X : Cx} {pins : List (Addr × Obj)} {σ : L2.St} {H : Hp} {s : Shared}
theorem inv_lam {L : LF} {pm ctv : Value} {t' : Nat} (I : Inv X pins σ H s) :
    Inv X pins σ (upd H s.heap.objs.size (LamO s.heap.objs.size L)) { s with heap := s.heap.push (PySem.W.kla_obj "<lambda>" L.q L.params L.body L.scope L.cl pm L.c ctv), toks := t' } := by
  refine I.laid (a := s.heap.objs.size) (fun b u e => Heap.get?_push_of_some _ e) (Nat.le_refl _) ?_
  have e : (s.heap.push (PySem.W.kla_obj "<lambda>" L.q L.params L.body L.scope L.cl pm L.c ctv)).get? s.heap.objs.size = some (PySem.W.kla_obj "<lambda>" L.q L.params L.body L.scope L.cl pm L.c ctv) := Heap.get?_push_size _ rfl
  exact ⟨⟨pm, ctv, e⟩, ⟨_, e⟩, fun h1 h2 ⟨p, c, z⟩ st => ⟨p, c, st _ z⟩⟩
theorem lam_new {J : JT} {m : List Addr} {ih : IH} {t : Nat} {c P : Addr} {params : Arguments} {body : Expr} {scope : Scope} {pos : Pos} {E : Value → Shared → Prop} {Q : Value → Shared → Prop} (I : Inv X pins σ H s) (TB : TabB X.base X.mg c P) (hcode : X.env.code = .ref c)
    (S : Sim X.K J m ih H) (hm : m[t]? = some P) (hi : ih[t]? = some (.tab (X.env.qual ++ "<lambda>"))) (hdef : defaultsOf params X.env = ([], [])) (hfree : ∀ y ∈ scope.names, y.2 = .free → ∃ c, X.env.cells.lookup y.1 = some c)
    (h : ∀ (f c' : Addr) (H1 : Hp) (s' : Shared), Inv X pins σ H1 s' → Sim X.K J m ih H1 → Xt m ih H m ih H1 → s.heap.objs.size ≤ f → H1 f = some (LamO f ⟨params, body, scope, X.env.qual ++ "<lambda>", cloFrom X.env.cells scope.names [], c'⟩) → ¬ Own J m ih f →
      H1 c' = some (CodeO c' (X.env.qual ++ "<lambda>")) → ¬ Own J m ih c' → (∀ b, H b = none → H1 b ≠ none → s.heap.objs.size ≤ b) → Q (.ref f) s') :
    wpAny (model X.prog X.w) X.A (eval (.Lambda params body scope pos) X.env) Q E s := by
  obtain ⟨ps, hP, ht, ha⟩ := S.ob t P _ hm hi
  refine PySem.W.kla_eval hdef ?_
  have bP : s.heap.BuiltinsAt X.mg P := TB.bm.keeps I.bk
  have hP' : s.heap.get? P = some { cls := .none, data := .fields ps } := I.hok P _ hP
  cases hc : codeAmong pos ps.toList with
  | none =>
    refine PySem.W.kla_makeFunction (mg := X.mg) (c := c) (P := P) (ps := ps) (closure_ok hfree) I.ok.glob (I.mod.glob.keeps I.bk) hcode (TB.code.keeps I.bk) hP' ht hc TB.gP bP fun c' ctv h' tk grow ge lt rec tab => ?_
    obtain ⟨c2, oc, vs, tt, e2, hoc, hd, hv⟩ := rec
    cases e2
    have nc : H c' = none := I.hok.fresh ge
    have nPc : P ≠ c' := ne_of_none hP nc
    have I1 := inv_table (t' := tk) (more := #[rawInt pos.line, rawInt pos.col, .ref c']) (h' := h') I hP (fun b o hb e => grow b o hb e) tab ge ⟨oc, vs, tt, hoc, hd, hv⟩
    have eH : upd (upd H P (.tbl (ps ++ #[rawInt pos.line, rawInt pos.col, .ref c']))) c' (CodeO c' (X.env.qual ++ "<lambda>")) = upd (upd H c' (CodeO c' (X.env.qual ++ "<lambda>"))) P (.tbl (ps ++ #[rawInt pos.line, rawInt pos.col, .ref c'])) := upd_comm nPc
    rw [eH] at I1
    have ownc : ¬ Own J m ih c' := S.new_free nc
    have S1 : Sim X.K J m ih (upd H c' (CodeO c' (X.env.qual ++ "<lambda>"))) := S.new nc
    have x1 : Xt m ih H m ih (upd H c' (CodeO c' (X.env.qual ++ "<lambda>"))) := Xt.new S nc
    have eL : (ps ++ #[rawInt pos.line, rawInt pos.col, .ref c']).toList = ps.toList ++ [rawInt pos.line, rawInt pos.col, .ref c'] := by simp
    have obP : ObR X.K J m (ih.set t (.tab (X.env.qual ++ "<lambda>"))) (upd (upd H c' (CodeO c' (X.env.qual ++ "<lambda>"))) P (.tbl (ps ++ #[rawInt pos.line, rawInt pos.col, .ref c']))) P (.tab (X.env.qual ++ "<lambda>")) := by
      rw [set_same hi]
      refine ⟨_, upd_same, by rw [eL]; exact PySem.TriplesOk_snoc _ _ _ _ ht, fun p' cv z => ?_⟩
      rw [eL] at z
      rcases among_app _ ht z with z | z
      · obtain ⟨c0, e1, e2, n⟩ := ha p' cv z
        exact ⟨c0, e1, by rw [upd_ne (ne_of e2 hP (codeO_ne _)), upd_ne (ne_of_none e2 nc)]; exact e2, n⟩
      · exact ⟨c', z, by rw [upd_ne nPc.symm, upd_same], ownc⟩
    have hl : (Ob.tab (X.env.qual ++ "<lambda>")).isLive = true := rfl
    have S2 := S1.set (u := .tab (X.env.qual ++ "<lambda>")) (ho := .tbl (ps ++ #[rawInt pos.line, rawInt pos.col, .ref c'])) hl hi hm obP
    have x2 : Xt m ih (upd H c' (CodeO c' (X.env.qual ++ "<lambda>"))) m (ih.set t (.tab (X.env.qual ++ "<lambda>"))) (upd (upd H c' (CodeO c' (X.env.qual ++ "<lambda>"))) P (.tbl (ps ++ #[rawInt pos.line, rawInt pos.col, .ref c']))) := Xt.set hl hi hm
    rw [set_same hi] at S2 x2
    have nf := I1.hok.fresh (Nat.le_refl _)
    have I2 := inv_lam (L := ⟨params, body, scope, X.env.qual ++ "<lambda>", cloFrom X.env.cells scope.names [], c'⟩) (pm := (X.mg "__name__").getD .none) (ctv := ctv) (t' := tk) I1
    have big : s.heap.objs.size ≤ h'.objs.size := Nat.le_trans ge (Nat.le_of_lt lt)
    refine h h'.objs.size c' _ _ I2 (S2.new nf) ((x1.trans x2).trans (Xt.new S2 nf)) big upd_same (S2.new_free nf) ?_ ownc fun b n y => ?_
    · rw [upd_ne (Nat.ne_of_lt lt), upd_ne nPc.symm, upd_same]
    · by_cases h1 : b = h'.objs.size
      · rw [h1]; exact big
      · by_cases h2 : b = c'
        · rw [h2]; exact ge
        · refine absurd ?_ y
          have h3 : b ≠ P := fun z => by rw [z, hP] at n; cases n
          show upd (upd (upd H c' _) P _) h'.objs.size _ b = none
          rw [upd_ne h1, upd_ne h3, upd_ne h2]
          exact n
  | some cv =>
    obtain ⟨c', e, hco, ownc⟩ := ha pos cv hc
    subst e
    refine PySem.W.kla_makeFunctionHit (mg := X.mg) (c := c) (P := P) (ps := ps) (closure_ok hfree) I.ok.glob (I.mod.glob.keeps I.bk) hcode (TB.code.keeps I.bk) hP' ht hc bP fun ctv h' tk grow big => ?_
    have I1 : Inv X pins σ H { s with heap := h', toks := tk } := I.kept grow
    have nf : H h'.objs.size = none := I1.hok.fresh (Nat.le_refl _)
    have I2 := inv_lam (L := ⟨params, body, scope, X.env.qual ++ "<lambda>", cloFrom X.env.cells scope.names [], c'⟩) (pm := (X.mg "__name__").getD .none) (ctv := ctv) (t' := tk) I1
    refine h h'.objs.size c' _ _ I2 (S.new nf) (Xt.new S nf) big upd_same (S.new_free nf) ?_ ownc fun b n y => ?_
    · exact (upd_ne (ne_of_none hco nf)).trans hco
    · by_cases h1 : b = h'.objs.size
      · rw [h1]; exact big
      · exact absurd ((upd_ne h1).trans n) y
end
end Pz

end
section
set_option Elab.async false
set_option linter.all false
set_option maxRecDepth 100000
set_option autoImplicit false
/-! Fw16: a lambda called; a def called with a lambda. -/
namespace Pz
open PySem PySem.Spec PyProof.Rows L2 LamX NdefX

abbrev LF.nf (L : LF) : NF := ⟨"<lambda>", L.q, L.params, [], L.scope, L.cl, L.c⟩
section
variable {P : Program} {w : World} {K : PySem.W.Frag} {mg : Str → Option Value} {base : Heap}
/-- the lambda's body is run from the state of the call -/
theorem lam_call {k : Nat} {A : Around} {outer : List PySem.Env} {s : Shared} {H : Hp} {f : Addr} {L : LF} {N ps fr : List Str} {wsc : List (Option V)} {vs : List V} {us : List Value} {Q : VK} {t : TE} (Sn : NScope N ps fr L.scope)
    (hb : ∀ (pm ctv : Value) (us : List Value), us.length = ps.length → bindArgs (PySem.W.kla_fn "<lambda>" L.q L.params L.body L.scope L.cl pm (.ref L.c) ctv) ⟨us, []⟩ = pure (ps.zip us))
    (hr : Room (k + 1) A) (e0 : Env0 P w K mg base A outer s H) (hf : ∃ pm ctv, s.heap.get? f = some (PySem.W.kla_obj "<lambda>" L.q L.params L.body L.scope L.cl pm L.c ctv)) (hc : s.heap.CodeRec (.ref L.c) L.q) (C : CellsAt L.cl fr wsc s.heap H) (r : Vals vs us) (hl : vs.length = ps.length)
    (body : PE (ncx CX0 P w K mg base N L.nf f A outer s H E0) L.body t) (q : t (startF N vs wsc) H Q) : codeAny (model P w) A (.call (.ref f) ⟨us, []⟩) (CR CX0 outer P w H s Q E0) s := by
  have lim : s.heap.NoLimit := e0.mod.nolimit.keeps fun b o e => (e0.bs b o e).1
  obtain ⟨pm, ctv, ho⟩ := hf
  refine PySem.W.kla_callFunE hr.depth ho rfl Sn.co Sn.gen rfl hc ?_
  rw [hb pm ctv us (by rw [← r.length]; exact hl)]
  refine wpAny_pure (wpAny_newFunctionEnv Sn.nocell (fun ⟨n, _⟩ hy => Sn.par n (List.of_mem_zip hy).1) (fun h1 hns hsb => ⟨lim.fresh _ hsb, ?_⟩) Sn.kind)
  show codeAny _ _ (.expr L.body (envF L.nf f s.heap.objs.size)) _ _
  have kp : ∀ b o, s.heap.get? b = some o → h1.get? b = some o := fun b o e => hsb.extBut b o (Nat.ne_of_lt (Heap.lt_size e)) (Heap.get?_push_of_some _ e)
  have I : Inv (ncx CX0 P w K mg base N L.nf f A outer s H E0) [] (startF N vs wsc) H { s with heap := h1, toks := s.toks + (ps.zip us).length } := inv_startN (F := L.nf) Sn hr.hd e0 hl r C hns kp
  refine PySem.W.kla_codeExpr (wpAny_mono (body.run [] _ _ H Q I q) (fun v s2 hq => ?_) fun e s2 hq => hq)
  obtain ⟨v2, H2, I2, rv, q2⟩ := hq
  exact ⟨v2, H2, I2.os, I2.bare, I2.base, I2.hok, rv, q2⟩
/-- the contexts of a lambda's body -/
def Fam.lam (P : Program) (w : World) (K : PySem.W.Frag) (mg : Str → Option Value) (base : Heap) (Sg : Sig) (k : Nat) (N : List Str) (L : LF) (f : Addr) (nd : N.Nodup) : Fam where
  ok := fun X => ∃ (A : Around) (outer : List PySem.Env) (s : Shared) (H : Hp), A.guards = some [] ∧ Room k (A.deeper (envF L.nf f s.heap.objs.size)) ∧ X = (ncx CX0 P w K mg base N L.nf f A outer s H E0).nox
  N := N
  sc := L.scope
  P := P
  w := w
  K := K
  mg := mg
  base := base
  k := k
  S := Sg
  nd := nd
  hN := by rintro X ⟨A, o, s, H, g, r, rfl⟩; rfl
  hsc := by rintro X ⟨A, o, s, H, g, r, rfl⟩; rfl
  hP := by rintro X ⟨A, o, s, H, g, r, rfl⟩; rfl
  hw := by rintro X ⟨A, o, s, H, g, r, rfl⟩; rfl
  hK := by rintro X ⟨A, o, s, H, g, r, rfl⟩; rfl
  hmg := by rintro X ⟨A, o, s, H, g, r, rfl⟩; rfl
  hbase := by rintro X ⟨A, o, s, H, g, r, rfl⟩; rfl
  calm := by rintro X ⟨A, o, s, H, g, r, rfl⟩; rfl
  room := by rintro X ⟨A, o, s, H, g, r, rfl⟩; exact r
  grd := by rintro X ⟨A, o, s, H, g, r, rfl⟩; exact g
  jk := fun J => JOk P w K mg base Sg J
  jkc := fun _ _ o h => o.le h
  jok := fun _ o => o
  po := by rintro X ⟨A, o, s, H, g, r, rfl⟩; exact PassesOwn.never
end

/-! ### what J tells while the callee has the lambda -/
section
variable {K : PySem.W.Frag} {J J' : JT} {m m2 : List Addr} {ih ih2 : IH} {H H2 : Hp} {L : List (Addr × Obj)}
theorem xt_trk (S : Sim K J m ih H) (no : ∀ b o, L.lookup b = some o → H b = none) : Xt m ih H m ih (trk H L) :=
  ⟨⟨[], (List.append_nil m).symm, fun _ z => absurd z (by simp)⟩, fun a o e n => by
    rcases lk_cases L a with ⟨u, h⟩ | h
    · rw [no a u h] at e; cases e
    · exact ⟨by rw [trk_out h]; exact e, n⟩, fun a e => by
    rcases lk_cases L a with ⟨u, h⟩ | h
    · rw [trk_in h] at e; cases e
    · rwa [trk_out h] at e⟩
/-- items, without the functions' part -/
def HidK (J J' : JT) (H : Hp) : Prop := ∀ a, a ∈ J'.hid → a ∈ J.hid ∨ H a = none
theorem DR.convK (S : Sim K J m ih H) (x : Xt m ih H m2 ih2 H2) (hh : HidK J J' H) {d : D} {v : V} (h : DR K (Own J m ih) H d v) : DR K (Own J' m2 ih2) H2 d v :=
  DR.conv (fun a o e n => by
    obtain ⟨e1, n1⟩ := x.keep a o e fun z => n (.inl z)
    exact ⟨e1, fun z => z.elim n1 fun y => (hh a y).elim (fun q => n (.inr q)) fun q => by rw [q] at e; cases e⟩) (fun a xs q => x.rd (S.tup_free q) q) h
theorem WO.convK (S : Sim K J m ih H) (x : Xt m ih H m2 ih2 H2) (hh : HidK J J' H) {w : W} {v : V} (h : WO K J m ih H w v) : WO K J' m2 ih2 H2 w v := by
  obtain ⟨nf, h⟩ := h
  refine ⟨nf, ?_⟩
  cases w with
  | d y => exact DR.convK S x hh h
  | ref n =>
    obtain ⟨a, e, r⟩ := h
    obtain ⟨t, rfl, _⟩ := x.pre
    exact ⟨a, by rw [List.getElem?_append_left (List.getElem?_eq_some_iff.mp e).1]; exact e, r⟩
  | fn n cs => cases nf
  | scr ns =>
    obtain ⟨a, e, q⟩ := h
    rcases q with ⟨q, l⟩ | q
    · have kk : ∀ u, H a = some u → ¬ Own J' m2 ih2 a := fun u e => fun z => z.elim (x.keep a u e fun y => l (.inl y)).2 fun y => (hh a y).elim (fun q => l (.inr q)) fun q => by rw [q] at e; cases e
      refine ⟨a, e, .inl ⟨x.rd (fun z => l (.inl z)) q, ?_⟩⟩
      rcases q with q | ⟨ob, q⟩
      · exact kk _ q
      · exact kk _ q
    · exact ⟨a, e, .inr q⟩
theorem ObR.convK (S : Sim K J m ih H) (x : Xt m ih H m2 ih2 H2) (hh : HidK J J' H) {a : Addr} {o : Ob} (h : ObR K J m ih H a o) (he : H2 a = H a) : ObR K J' m2 ih2 H2 a o := by
  cases o with
  | dead => exact True.intro
  | lst ws =>
    obtain ⟨vs, e, r⟩ := h
    exact ⟨vs, he.trans e, Paired.mapR r fun _ _ q => q.convK S x hh⟩
  | dic ws =>
    obtain ⟨vs, e, r⟩ := h
    exact ⟨vs, he.trans e, Paired.mapR r fun _ _ q => ⟨q.1, q.2.convK S x hh⟩⟩
  | tab q =>
    obtain ⟨ps, e, ht, hc⟩ := h
    refine ⟨ps, he.trans e, ht, fun pos cv z => ?_⟩
    obtain ⟨c, e1, e2, n⟩ := hc pos cv z
    obtain ⟨k1, k2⟩ := x.keep c _ e2 fun l => n (.inl l)
    exact ⟨c, e1, k1, fun z => z.elim k2 fun y => (hh c y).elim (fun q => n (.inr q)) fun q => by rw [q] at e2; cases e2⟩
/-- what J says while some objects are told and f is the function (n, cs) -/
def jL (J : JT) (m : List Addr) (ih : IH) (H : Hp) (L : List (Addr × Obj)) (n : Nat) (cs : List W) (f : Addr) : JT where
  hid := L.map (·.1) ++ J.hid
  p := fun m2 ih2 H2 => Xt m ih (trk H L) m2 ih2 H2
  cal := fun n' cs' f' => n' = n ∧ cs' = cs ∧ f' = f
  cl := fun _ _ _ _ _ _ a b => a.trans b
theorem lk_mem {b : Addr} (h : b ∈ L.map (·.1)) : ∃ o, L.lookup b = some o := by
  induction L with
  | nil => cases h
  | cons p r ih =>
    rw [List.lookup_cons]
    by_cases e : b = p.1
    · exact ⟨p.2, by rw [e]; simp⟩
    · have e2 : (b == p.1) = false := by simpa using e
      rw [e2]
      exact ih ((List.mem_cons.mp h).elim (fun z => absurd z e) id)
theorem mem_lk {b : Addr} {o : Obj} (h : L.lookup b = some o) : b ∈ L.map (·.1) := by
  induction L with
  | nil => cases h
  | cons p r ih =>
    rw [List.lookup_cons] at h
    by_cases e : b = p.1
    · rw [e]; exact List.mem_cons_self ..
    · have e2 : (b == p.1) = false := by simpa using e
      rw [e2] at h
      exact List.mem_cons_of_mem _ (ih h)
theorem jL_hid (no : ∀ b o, L.lookup b = some o → H b = none) {n : Nat} {cs : List W} {f : Addr} : HidK J (jL J m ih H L n cs f) H := fun a h => (List.mem_append.mp h).elim (fun z => let ⟨o, e⟩ := lk_mem z; .inr (no a o e)) .inl
theorem sim_jL (S : Sim K J m ih H) (no : ∀ b o, L.lookup b = some o → H b = none) {n : Nat} {cs : List W} {f : Addr} : Sim K (jL J m ih H L n cs f) m ih (trk H L) := by
  have x := xt_trk S no
  refine ⟨Xt.refl, S.len, S.nd, fun a h z => S.th a h (x.there a z), fun a h => ?_, fun i a o e1 e2 => ?_⟩
  · rcases List.mem_append.mp h with h | h
    · obtain ⟨o, e⟩ := lk_mem h
      exact ⟨(by rw [trk_in e]; intro z; cases z), fun l => Live.lt S l (no a o e)⟩
    · exact S.hd_mono x a h
  · refine (S.ob i a o e1 e2).convK S x (jL_hid no) ?_
    rcases lk_cases L a with ⟨u, h⟩ | h
    · exact absurd (no a u h) (S.th a (List.mem_of_getElem? e1))
    · exact trk_out h
/-- behind the call -/
theorem xt_utk (S : Sim K J m ih H) (no : ∀ b o, L.lookup b = some o → H b = none) (x : Xt m ih (trk H L) m2 ih2 H2) : Xt m ih H m2 ih2 (utk H2 L) := by
  have x0 := xt_trk S no
  have y := x0.trans x
  refine ⟨y.pre, fun a o e n => ?_, fun a e => ?_⟩
  · obtain ⟨e1, n1⟩ := y.keep a o e n
    rcases lk_cases L a with ⟨u, h⟩ | h
    · rw [no a u h] at e; cases e
    · exact ⟨by rw [utk_out h]; exact e1, n1⟩
  · rcases lk_cases L a with ⟨u, h⟩ | h
    · exact no a u h
    · rw [utk_out h] at e; exact y.there a e
theorem back_rel (T : ∀ b o, L.lookup b = some o → H2 b = some (sure o)) {n : Nat} {cs : List W} {f : Addr} {d : D} {v : V} (h : DR K (Own (jL J m ih H L n cs f) m2 ih2) H2 d v) : DR K (Own J m2 ih2) (utk H2 L) d v := by
  have out : ∀ a, a ∉ L.map (·.1) → L.lookup a = none := fun a h => (lk_cases L a).elim (fun ⟨o, e⟩ => absurd (mem_lk e) h) id
  refine DR.conv (fun a o e nn => ?_) (fun a xs q => ?_) h
  · have h1 : a ∉ L.map (·.1) := fun z => nn (.inr (List.mem_append_left _ z))
    exact ⟨by rw [utk_out (out a h1)]; exact e, fun z => nn (z.elim .inl fun y => .inr (List.mem_append_right _ y))⟩
  · have h1 : L.lookup a = none := by
      rcases lk_cases L a with ⟨u, e⟩ | e
      · have z := T a u e
        rcases q with q | ⟨ob, q⟩
        · rw [z] at q; cases q
        · rw [z] at q; cases q
      · exact e
    rcases q with q | ⟨ob, q⟩
    · exact .inl (by rw [utk_out h1]; exact q)
    · exact .inr ⟨ob, by rw [utk_out h1]; exact q⟩
theorem sim_back (S : Sim K J m ih H) (no : ∀ b o, L.lookup b = some o → H b = none) {n : Nat} {cs : List W} {f : Addr} (T : ∀ b o, L.lookup b = some o → H2 b = some (sure o)) (S2 : Sim K (jL J m ih H L n cs f) m2 ih2 H2) : Sim K J m2 ih2 (utk H2 L) ∧ Xt m ih H m2 ih2 (utk H2 L) := by
  have x : Xt m ih H m2 ih2 (utk H2 L) := xt_utk S no S2.j
  have out : ∀ a, a ∉ L.map (·.1) → L.lookup a = none := fun a h => (lk_cases L a).elim (fun ⟨o, e⟩ => absurd (mem_lk e) h) id
  have live_out : ∀ a, Live m2 ih2 a → L.lookup a = none := fun a l => out a fun z => (S2.hd a (List.mem_append_left _ z)).2 l
  have wo : ∀ (w : W) (v : V), WO K (jL J m ih H L n cs f) m2 ih2 H2 w v → WO K J m2 ih2 (utk H2 L) w v := fun w v h => by
    obtain ⟨nf, h⟩ := h
    refine ⟨nf, ?_⟩
    cases w with
    | d y => exact back_rel T h
    | ref n => exact h
    | fn n cs => cases nf
    | scr ns =>
      obtain ⟨a, e, q⟩ := h
      refine ⟨a, e, q.elim (fun z => .inl ?_) .inr⟩
      obtain ⟨z1, z2⟩ := z
      have h1 := out a fun z => z2 (.inr (List.mem_append_left _ z))
      refine ⟨?_, fun l => z2 (l.elim .inl fun y => .inr (List.mem_append_right _ y))⟩
      rcases z1 with q | ⟨ob, q⟩
      · exact .inl (by rw [utk_out h1]; exact q)
      · exact .inr ⟨ob, by rw [utk_out h1]; exact q⟩
  refine ⟨⟨J.cl _ _ _ _ _ _ S.j x, S2.len, S2.nd, fun a h z => ?_, S.hd_mono x, fun i a o e1 e2 => ?_⟩, x⟩
  · rcases lk_cases L a with ⟨u, e⟩ | e
    · obtain ⟨t, rfl, ft⟩ := (show Xt m ih (trk H L) m2 ih2 H2 from S2.j).pre
      rcases List.mem_append.mp h with h | h
      · exact S.th a h (no a u e)
      · have := ft a h
        rw [trk_in e] at this
        cases this
    · rw [utk_out e] at z
      exact S2.th a h z
  · have q := S2.ob i a o e1 e2
    cases hl : o.isLive with
    | false =>
      cases o with
      | dead => exact True.intro
      | lst _ => cases hl
      | dic _ => cases hl
      | tab _ => cases hl
    | true =>
      have e3 := live_out a ⟨i, o, e1, e2, hl⟩
      cases o with
      | dead => exact True.intro
      | lst ws =>
        obtain ⟨vs, e, r⟩ := q
        exact ⟨vs, by rw [utk_out e3]; exact e, Paired.mapR r fun _ _ z => wo _ _ z⟩
      | dic ws =>
        obtain ⟨vs, e, r⟩ := q
        exact ⟨vs, by rw [utk_out e3]; exact e, Paired.mapR r fun _ _ z => ⟨z.1, wo _ _ z.2⟩⟩
      | tab q' =>
        obtain ⟨ps, e, ht, hc⟩ := q
        refine ⟨ps, by rw [utk_out e3]; exact e, ht, fun pos cv z => ?_⟩
        obtain ⟨c, e4, e5, nn⟩ := hc pos cv z
        exact ⟨c, e4, by rw [utk_out (out c fun z => nn (.inr (List.mem_append_left _ z)))]; exact e5, fun l => nn (l.elim .inl fun y => .inr (List.mem_append_right _ y))⟩
end
end Pz

end
section
set_option Elab.async false
set_option linter.all false
set_option maxRecDepth 100000
set_option autoImplicit false
/-! Fw17: a lambda keeps its promise. -/
namespace Pz
open PySem PySem.Spec PyProof.Rows L2 LamX NdefX

/-- the names of a lambda's body at its start -/
def startL (N : List Str) (ws cap : List W) : En := ws.map some ++ (cap.map some ++ List.replicate (N.length - ws.length - cap.length) none)
/-- the state in which a lambda's body runs -/
def jB (J : JT) (L : List (Addr × Obj)) (m : List Addr) (ih : IH) (H : Hp) : JT where
  hid := J.hid.filter fun a => (L.lookup a).isNone
  p := fun m2 ih2 H2 => Xt m ih H m2 ih2 H2
  cal := fun _ _ _ => False
  cl := fun _ _ _ _ _ _ a b => a.trans b
section
variable {K : PySem.W.Frag} {J : JT} {m m3 : List Addr} {ih ih3 : IH} {H H3 : Hp} {L : List (Addr × Obj)}
theorem jB_hid {a : Addr} : a ∈ (jB J L m ih H).hid ↔ a ∈ J.hid ∧ L.lookup a = none := by
  show a ∈ J.hid.filter _ ↔ _
  rw [List.mem_filter]
  constructor
  · intro h
    refine ⟨h.1, ?_⟩
    have := h.2
    cases e : L.lookup a with
    | none => rfl
    | some o => rw [e] at this; cases this
  · intro h
    exact ⟨h.1, by rw [h.2]; rfl⟩
/-- the objects in L belong to J, and are told -/
structure Held (J : JT) (m : List Addr) (H : Hp) (L : List (Addr × Obj)) : Prop where
  nm : ∀ b o, L.lookup b = some o → b ∉ m
  at_ : ∀ b o, L.lookup b = some o → H b = some (sure o)
  hid : ∀ b o, L.lookup b = some o → b ∈ J.hid
theorem own_out (T : Held J m H L) {a : Addr} (n : ¬ Own J m ih a) : L.lookup a = none := (lk_cases L a).elim (fun ⟨o, e⟩ => absurd (Or.inr (T.hid a o e)) n) id
theorem own_jB {a : Addr} (n : ¬ Own J m ih a) : ¬ Own (jB J L m ih (utk H L)) m ih a := fun z => n (z.elim .inl fun y => .inr (jB_hid.mp y).1)
theorem rd_out (T : Held J m H L) {a : Addr} {u : HO} (n : ∀ o, sure o ≠ u) (n2 : ∀ o ob, sure o ≠ .frz ob u) (q : Rd H a u) : L.lookup a = none := by
  rcases lk_cases L a with ⟨o, e⟩ | e
  · have z := T.at_ a o e
    rcases q with q | ⟨ob, q⟩
    · rw [z] at q; exact absurd (Option.some.inj q) (n o)
    · rw [z] at q; exact absurd (Option.some.inj q) (n2 o ob)
  · exact e
theorem rd_utk {a : Addr} {u : HO} (e : L.lookup a = none) (q : Rd H a u) : Rd (utk H L) a u := by
  rcases q with q | ⟨ob, q⟩
  · exact .inl (by rw [utk_out e]; exact q)
  · exact .inr ⟨ob, by rw [utk_out e]; exact q⟩
theorem dr_jB (T : Held J m H L) {d : D} {v : V} (h : DR K (Own J m ih) H d v) : DR K (Own (jB J L m ih (utk H L)) m ih) (utk H L) d v :=
  DR.conv (fun a o e n => ⟨by rw [utk_out (own_out T n)]; exact e, own_jB n⟩) (fun a xs q => rd_utk (rd_out T (fun o z => by cases z) (fun o ob z => by cases z) q) q) h
theorem wo_jB (T : Held J m H L) {w : W} {v : V} (h : WO K J m ih H w v) : WO K (jB J L m ih (utk H L)) m ih (utk H L) w v := by
  obtain ⟨nf, h⟩ := h
  refine ⟨nf, ?_⟩
  cases w with
  | d y => exact dr_jB T h
  | ref n => exact h
  | fn n cs => cases nf
  | scr ns =>
    obtain ⟨a, e, q⟩ := h
    refine ⟨a, e, q.elim (fun z => .inl ⟨rd_utk (own_out T z.2) z.1, own_jB z.2⟩) .inr⟩
theorem sim_jB (S : Sim K J m ih H) (T : Held J m H L) : Sim K (jB J L m ih (utk H L)) m ih (utk H L) := by
  have lo : ∀ a, Live m ih a → L.lookup a = none := fun a l => by
    obtain ⟨o, e, mt⟩ := S.live_mut l
    rcases lk_cases L a with ⟨u, h⟩ | h
    · rw [T.at_ a u h] at e
      cases e
      exact absurd rfl (mt.2 _ _)
    · exact h
  refine ⟨Xt.refl, S.len, S.nd, fun a h z => ?_, fun a h => ?_, fun i a o e1 e2 => ?_⟩
  · rcases lk_cases L a with ⟨u, e⟩ | e
    · exact absurd h (T.nm a u e)
    · rw [utk_out e] at z
      exact S.th a h z
  · obtain ⟨h1, h2⟩ := jB_hid.mp h
    exact ⟨(by rw [utk_out h2]; exact (S.hd a h1).1), (S.hd a h1).2⟩
  · have q := S.ob i a o e1 e2
    cases hl : o.isLive with
    | false =>
      cases o with
      | dead => exact True.intro
      | lst _ => cases hl
      | dic _ => cases hl
      | tab _ => cases hl
    | true =>
      have e3 := lo a ⟨i, o, e1, e2, hl⟩
      cases o with
      | dead => exact True.intro
      | lst ws =>
        obtain ⟨vs, e, r⟩ := q
        exact ⟨vs, by rw [utk_out e3]; exact e, Paired.mapR r fun _ _ z => wo_jB T z⟩
      | dic ws =>
        obtain ⟨vs, e, r⟩ := q
        exact ⟨vs, by rw [utk_out e3]; exact e, Paired.mapR r fun _ _ z => ⟨z.1, wo_jB T z.2⟩⟩
      | tab q' =>
        obtain ⟨ps, e, ht, hc⟩ := q
        refine ⟨ps, by rw [utk_out e3]; exact e, ht, fun pos cv z => ?_⟩
        obtain ⟨c, e4, e5, nn⟩ := hc pos cv z
        exact ⟨c, e4, by rw [utk_out (own_out T nn)]; exact e5, own_jB nn⟩
/-- behind the body: back in the caller's words -/
theorem dr_back (gone : ∀ b o, L.lookup b = some o → H3 b = none) {d : D} {v : V} (h : DR K (Own (jB J L m ih (utk H L)) m ih) H3 d v) : DR K (Own J m ih) (trk H3 L) d v := by
  have out : ∀ a o, H3 a = some o → L.lookup a = none := fun a o e => (lk_cases L a).elim (fun ⟨u, q⟩ => by rw [gone a u q] at e; cases e) id
  refine DR.conv (fun a o e n => ⟨by rw [trk_out (out a o e)]; exact e, fun z => n (z.elim .inl fun y => .inr (jB_hid.mpr ⟨y, out a o e⟩))⟩) (fun a xs q => ?_) h
  rcases q with q | ⟨ob, q⟩
  · exact .inl (by rw [trk_out (out a _ q)]; exact q)
  · exact .inr ⟨ob, by rw [trk_out (out a _ q)]; exact q⟩
theorem sim_jBack (S : Sim K J m ih H) (T : Held J m H L) (gone : ∀ b o, L.lookup b = some o → H3 b = none) (S3 : Sim K (jB J L m ih (utk H L)) m ih H3) : Sim K J m ih (trk H3 L) ∧ Xt m ih H m ih (trk H3 L) := by
  have out : ∀ a o, H3 a = some o → L.lookup a = none := fun a o e => (lk_cases L a).elim (fun ⟨u, q⟩ => by rw [gone a u q] at e; cases e) id
  have x3 : Xt m ih (utk H L) m ih H3 := S3.j
  have x : Xt m ih H m ih (trk H3 L) := ⟨⟨[], (List.append_nil m).symm, fun _ z => absurd z (by simp)⟩, fun a o e n => by
    rcases lk_cases L a with ⟨u, q⟩ | q
    · rw [T.at_ a u q] at e
      exact ⟨by rw [trk_in q]; exact e, n⟩
    · exact ⟨by rw [trk_out q]; exact (x3.keep a o (by rw [utk_out q]; exact e) n).1, n⟩, fun a e => by
    rcases lk_cases L a with ⟨u, q⟩ | q
    · rw [trk_in q] at e; cases e
    · rw [trk_out q] at e
      have := x3.there a e
      rwa [utk_out q] at this⟩
  have wo : ∀ (w : W) (v : V), WO K (jB J L m ih (utk H L)) m ih H3 w v → WO K J m ih (trk H3 L) w v := fun w v h => by
    obtain ⟨nf, h⟩ := h
    refine ⟨nf, ?_⟩
    cases w with
    | d y => exact dr_back gone h
    | ref n => exact h
    | fn n cs => cases nf
    | scr ns =>
      obtain ⟨a, e, q⟩ := h
      refine ⟨a, e, q.elim (fun z => .inl ?_) .inr⟩
      obtain ⟨z1, z2⟩ := z
      rcases z1 with q | ⟨ob, q⟩
      · exact ⟨.inl (by rw [trk_out (out a _ q)]; exact q), fun l => z2 (l.elim .inl fun y => .inr (jB_hid.mpr ⟨y, out a _ q⟩))⟩
      · exact ⟨.inr ⟨ob, by rw [trk_out (out a _ q)]; exact q⟩, fun l => z2 (l.elim .inl fun y => .inr (jB_hid.mpr ⟨y, out a _ q⟩))⟩
  refine ⟨⟨J.cl _ _ _ _ _ _ S.j x, S.len, S.nd, fun a h z => S.th a h (x.there a z), S.hd_mono x, fun i a o e1 e2 => ?_⟩, x⟩
  have q := S3.ob i a o e1 e2
  cases o with
  | dead => exact True.intro
  | lst ws =>
    obtain ⟨vs, e, r⟩ := q
    exact ⟨vs, by rw [trk_out (out a _ e)]; exact e, Paired.mapR r fun _ _ z => wo _ _ z⟩
  | dic ws =>
    obtain ⟨vs, e, r⟩ := q
    exact ⟨vs, by rw [trk_out (out a _ e)]; exact e, Paired.mapR r fun _ _ z => ⟨z.1, wo _ _ z.2⟩⟩
  | tab q' =>
    obtain ⟨ps, e, ht, hc⟩ := q
    refine ⟨ps, by rw [trk_out (out a _ e)]; exact e, ht, fun pos cv z => ?_⟩
    obtain ⟨c, e4, e5, nn⟩ := hc pos cv z
    exact ⟨c, e4, by rw [trk_out (out c _ e5)]; exact e5, fun l => nn (l.elim .inl fun y => .inr (jB_hid.mpr ⟨y, out c _ e5⟩))⟩
theorem startL_env {N : List Str} {ws cap : List W} {vs : List V} {wsc : List (Option V)} (r : Paired (WO K J m ih H) ws vs) (c : Paired (fun w ov => ∃ v, ov = some v ∧ WO K J m ih H w v) cap wsc) : EnvR K J m ih H (startL N ws cap) (startF N vs wsc) := by
  have l1 := Paired.len2 r
  have l2 := Paired.len2 c
  refine ⟨by unfold startL startF; simp [l1, l2], fun i w e => ?_⟩
  unfold startL at e
  unfold startF
  by_cases hi : i < ws.length
  · rw [List.getElem?_append_left (by simpa using hi), List.getElem?_map] at e
    cases q : ws[i]? with
    | none => rw [q] at e; cases e
    | some u =>
      rw [q] at e
      have eu : u = w := by simpa using e
      subst eu
      obtain ⟨v, e2, r2⟩ := paired_get r q
      exact ⟨v, by rw [List.getElem?_append_left (by rw [List.length_map, l1]; exact hi), List.getElem?_map, e2]; rfl, r2.2⟩
  · rw [List.getElem?_append_right (by simpa using hi)] at e
    rw [List.getElem?_append_right (by rw [List.length_map, l1]; omega), List.length_map, l1]
    rw [List.length_map] at e
    by_cases hj : i - ws.length < cap.length
    · rw [List.getElem?_append_left (by simpa using hj), List.getElem?_map] at e
      cases q : cap[i - ws.length]? with
      | none => rw [q] at e; cases e
      | some u =>
        rw [q] at e
        have eu : u = w := by simpa using e
        subst eu
        obtain ⟨ov, e2, v, rfl, r2⟩ := paired_get c q
        exact ⟨v, by rw [List.getElem?_append_left (by rw [l2]; exact hj), e2], r2.2⟩
    · rw [List.getElem?_append_right (by simpa using hj), List.getElem?_replicate] at e
      split at e <;> cases e
end
/-- THE LAMBDA KEEPS ITS PROMISE while its captured cells are told -/
theorem lam_ok {P : Program} {w : World} {K : PySem.W.Frag} {mg : Str → Option Value} {base : Heap} {Sg : Sig} {J : JT} {m : List Addr} {ih : IH} {H : Hp} {h : Heap} {L : List (Addr × Obj)} {n k : Nat} {cap : List W} {f : Addr} {Lf : LF} {N ps fr : List Str} {wsc : List (Option V)} {te : AE}
    (S : Sim K J m ih H) (jo : JOk P w K mg base Sg J) (no : ∀ b o, L.lookup b = some o → H b = none) (at_ : ∀ b o, L.lookup b = some o → h.get? b = some o) (cov : ∀ y c, Lf.cl.lookup y = some c → ∃ o, L.lookup c = some o)
    (hf : H f = some (LamO f Lf)) (nf : ¬ Own J m ih f) (hc : H Lf.c = some (CodeO Lf.c Lf.q)) (nc : ¬ Own J m ih Lf.c) (C : CellsAt Lf.cl fr wsc h H) (cp : Paired (fun w ov => ∃ v, ov = some v ∧ WO K J m ih H w v) cap wsc)
    (Sn : NScope N ps fr Lf.scope) (hb : ∀ (pm ctv : Value) (us : List Value), us.length = ps.length → bindArgs (PySem.W.kla_fn "<lambda>" Lf.q Lf.params Lf.body Lf.scope Lf.cl pm (.ref Lf.c) ctv) ⟨us, []⟩ = pure (ps.zip us))
    (body : EV (Fam.lam P w K mg base Sg k N Lf f Sn.nd) Lf.body te) (lv : Sg.lv n = k + 1)
    (ct : ∀ ws ih2 Qa, Sg.ct n cap ws ih2 Qa → ws.length = ps.length ∧ (∀ y ∈ ws, y.isFn = false) ∧ te (startL N ws cap) ih2 fun y ih3 => ih3 = ih2 ∧ ∃ x, y = .d x ∧ Qa (.d x) ih2) : JOk P w K mg base Sg (jL J m ih H L n cap f) := by
  obtain ⟨t1, et1⟩ := jo.tb m ih H S.j
  have x0 := xt_trk S no
  have fL : L.lookup f = none := (lk_cases L f).elim (fun ⟨o, e⟩ => by rw [no f o e] at hf; cases hf) id
  have cL : L.lookup Lf.c = none := (lk_cases L Lf.c).elim (fun ⟨o, e⟩ => by rw [no _ o e] at hc; cases hc) id
  have tbl : ∀ {m2 : List Addr} {ih2 : IH} {H2 : Hp}, Xt m ih (trk H L) m2 ih2 H2 → ∃ t, m2 = Sg.Tb ++ t := fun x => by
    obtain ⟨t, rfl, _⟩ := x.pre
    exact ⟨t1 ++ t, by rw [et1, List.append_assoc]⟩
  have lamAt : ∀ {m2 : List Addr} {ih2 : IH} {H2 : Hp} {s : Shared}, Xt m ih (trk H L) m2 ih2 H2 → HOk P w H2 s.heap → ∃ pm ctv, s.heap.get? f = some (PySem.W.kla_obj "<lambda>" Lf.q Lf.params Lf.body Lf.scope Lf.cl pm Lf.c ctv) := fun {m2 ih2 H2 s} x ok => by
    have e := (x.keep f _ (by rw [trk_out fL]; exact hf) fun l => nf (.inl l)).1
    exact (ok f _ e).1
  refine ⟨fun J2 le n' cs' f' hcal => ?_, fun m2 ih2 H2 x => tbl x⟩
  obtain ⟨rfl, rfl, rfl⟩ := hcal
  refine ⟨fun A outer s H2 m2 ih2 e0 S2 => ?_, fun A outer s H2 us vs Q m2 ih2 ws Qa hg hr e0 rv S2 rw hct fu => ?_⟩
  · obtain ⟨pm, ctv, e⟩ := lamAt (le.1 _ _ _ S2.j) e0.hok
    exact ⟨_, _, _, _, e⟩
  · have x : Xt m ih (trk H L) m2 ih2 H2 := le.1 _ _ _ S2.j
    obtain ⟨hl, nfn, hte⟩ := ct ws ih2 Qa hct
    have told : ∀ b o, L.lookup b = some o → H2 b = some (sure o) := fun b o e => (x.keep b _ (trk_in e) fun l => Live.lt S l (no b o e)).1
    have T : Held J2 m2 H2 L := ⟨fun b o e z => by
      obtain ⟨t, rfl, ft⟩ := x.pre
      rcases List.mem_append.mp z with z | z
      · exact S.th b z (no b o e)
      · have := ft b z
        rw [trk_in e] at this
        exact (by cases this), told, fun b o e => le.2.2.1 b (List.mem_append_left _ (mem_lk e))⟩
    have e1 : Env0 P w K mg base A outer s (utk H2 L) := env_utk e0 told
    have here : ∀ b o, L.lookup b = some o → s.heap.get? b = some o := fun b o e => (e0.hok b _ (told b o e)).1
    have C2 : CellsAt Lf.cl fr wsc s.heap (utk H2 L) := by
      refine ⟨C.len, fun y c e => ?_, C.inj, fun i y e => ?_⟩
      · obtain ⟨o, eo⟩ := cov y c e
        obtain ⟨_, v, o2, g, d⟩ := C.all y c e
        rw [at_ c o eo] at g
        cases g
        exact ⟨utk_in eo, v, o, here c o eo, d⟩
      · obtain ⟨c, e2, hv⟩ := C.has i y e
        refine ⟨c, e2, fun v ev => ?_⟩
        obtain ⟨u, r, o2, g, d⟩ := hv v ev
        obtain ⟨o, eo⟩ := cov y c e2
        rw [at_ c o eo] at g
        have eq2 := Option.some.inj g
        subst eq2
        exact ⟨u, r, o, here c o eo, d⟩
    have code : s.heap.CodeRec (.ref Lf.c) Lf.q := codeO_at e0.hok (x.keep _ _ (by rw [trk_out cL]; exact hc) fun l => nc (.inl l)).1
    have hk : HidK J J2 H := fun a ha => by
      rcases le.2.2.2 m ih (trk H L) (fun _ _ _ q => q) a ha with z | z
      · exact jL_hid no a z
      · rcases lk_cases L a with ⟨o, e⟩ | e
        · rw [trk_in e] at z; cases z
        · rw [trk_out e] at z; exact .inr z
    have joB : JOk P w K mg base Sg (jB J2 L m2 ih2 (utk H2 L)) := ⟨fun _ _ _ _ _ c => False.elim c, fun m3 ih3 H3 x3 => by
      obtain ⟨t, rfl, _⟩ := (show Xt m2 ih2 (utk H2 L) m3 ih3 H3 from x3).pre
      obtain ⟨t2, e2⟩ := tbl x
      exact ⟨t2 ++ t, by rw [e2, List.append_assoc]⟩⟩
    have rws : Paired (WO K (jB J2 L m2 ih2 (utk H2 L)) m2 ih2 (utk H2 L)) ws vs := Paired.mapR (paired_wo nfn rw) fun _ _ q => wo_jB T q
    have caps : Paired (fun w ov => ∃ v, ov = some v ∧ WO K (jB J2 L m2 ih2 (utk H2 L)) m2 ih2 (utk H2 L) w v) cs' wsc := Paired.mapR cp fun _ _ ⟨v, e, q⟩ => ⟨v, e, wo_jB T (q.convK S (x0.trans x) hk)⟩
    obtain ⟨t, pt, rt⟩ := body
    have hvs : vs.length = ps.length := by rw [Paired.len2 rw]; exact hl
    rw [lv] at hr
    let QL : VK := fun v H3 => ∃ m3 ih3 y, Sim K (jB J2 L m2 ih2 (utk H2 L)) m3 ih3 H3 ∧ Xt m2 ih2 (utk H2 L) m3 ih3 H3 ∧ WR K (jB J2 L m2 ih2 (utk H2 L)) m3 ih3 H3 y v ∧ ih3 = ih2 ∧ ∃ x, y = .d x ∧ Qa (.d x) ih2
    have q : t (startF N vs wsc) (utk H2 L) QL := rt _ joB m2 ih2 (utk H2 L) (startL N ws cs') (startF N vs wsc) _ QL (sim_jB S2 T) (startL_env rws caps) hte fun m3 ih3 H3 y v S3 x3 r3 k3 => ⟨m3, ih3, y, S3, x3, r3, k3.1, k3.2⟩
    refine codeAny_mono (lam_call (Q := QL) Sn hb hr e1 (lamAt x e0.hok) code C2 rv hvs (pt _ ⟨A, outer, s, utk H2 L, hg, hr.deeper _, rfl⟩).nox q) fun r s2 z => ?_
    cases r with
    | error e => exact False.elim z
    | ok fl =>
      cases fl with
      | next => exact False.elim z
      | brk => exact False.elim z
      | cont => exact False.elim z
      | ret u =>
        refine ce_trk (Q' := QL) e0 told z fun v H3 gone hq => ?_
        obtain ⟨m3, ih3, y, S3, x3, r3, rfl, d, rfl, qa⟩ := hq
        have em : m3 = m2 := by
          obtain ⟨t, rfl, _⟩ := x3.pre
          have l1 := S3.len
          have l2 := S2.len
          rw [List.length_append] at l1
          have : t.length = 0 := by omega
          rw [List.length_eq_zero_iff.mp this, List.append_nil]
        subst em
        obtain ⟨S4, x4⟩ := sim_jBack S2 T gone S3
        exact fu _ _ _ (.d d) v S4 x4 (dr_back gone r3) qa
end Pz

end
section
set_option Elab.async false
set_option linter.all false
set_option maxRecDepth 100000
set_option autoImplicit false
/-! Fw18: calls of local names; defs called with a lambda, with a def. -/
namespace Pz
open PySem PySem.Spec PyProof.Rows L2 LamX NdefX

/-! ### x(..), x a local name that holds a function -/
def aCallV (Sg : Sig) (k i : Nat) (ta : AA) : AE := fun env ih Q => optW (env[i]?.join) fun w => match w with
  | .fn n cs => Sg.lv n ≤ k ∧ ta env ih fun ws ih1 => Sg.ct n cs ws ih1 Q
  | _ => False
section
variable {F : Fam} {pos p : Pos} {e : Expr} {es : List Expr} {ta : AA} {x : Str}
theorem ev_callV (i : Nat) (ha : AV F (e :: es) ta) (hN : F.N[i]? = some x := by rfl) (hv : Vis F.sc x := by first | exact Or.inl rfl | exact Or.inr (Or.inl rfl) | exact Or.inr (Or.inr rfl)) (hd : (x == ("__debug__" : Str)) = false := by decide)
    (hcd : (x == ("__classdict__" : Str)) = false := by decide) (he : ∀ env, starEach (e :: es) env = (false, eval e env) :: starEach es env := by intro _; rfl) (hpl : ∀ env, (backTo pos (starEach es env)).any (·.1) = false := by intro _; rfl) :
    EV F (.Call (.Name x p) (e :: es) [] pos) (aCallV F.S F.k i ta) := by
  obtain ⟨t, q, r⟩ := ha
  refine ⟨fun σ H Q => ∃ J m ih n cs f, σ[i]? = some (some (.ref f)) ∧ JOk F.P F.w F.K F.mg F.base F.S J ∧ Sim F.K J m ih H ∧ J.cal n cs f ∧ F.S.lv n ≤ F.k ∧ t σ H fun vs H1 => ∃ m1 ih1 ws Qa, Sim F.K J m1 ih1 H1 ∧ Paired (WR F.K J m1 ih1 H1) ws vs ∧ F.S.ct n cs ws ih1 Qa ∧ Fu F.K J m1 ih1 H1 Qa Q,
    fun X hX => ⟨fun pins s σ H Q I h => ?_⟩, fun J jk m ih H env σ Qa Q S E h f => ?_⟩
  · obtain ⟨J, m, ih, n, cs, f, hs, jo, S, hc, hl, ht⟩ := h
    have pv := pe_var (X := X) (i := i) (pos := p) (by rw [F.hN X hX]; exact hN) (by rw [F.hsc X hX]; exact hv) hd hcd
    refine wpAny_Call_Name_kw (thn (pv.run pins s σ H (fun v H1 => v = .ref f ∧ H1 = H) I ⟨.ref f, hs, rfl, rfl⟩) fun u s1 ⟨v, H1, I1, r1, q1⟩ => ?_)
    obtain ⟨rfl, rfl⟩ := q1
    obtain rfl : u = Value.ref f := r1
    have co := jo.cal J JLe.refl n cs f hc
    have env : ∀ {pins : List (Addr × Obj)} {s : Shared} {σ : L2.St} {H : Hp}, Inv X pins σ H s → Env0 F.P F.w F.K F.mg F.base X.A X.stack s H := fun I => by
      have e := I.env0
      rwa [F.hP X hX, F.hw X hX, F.hK X hX, F.hmg X hX, F.hbase X hX] at e
    refine PySem.W.callWith_F (first := []) (co.at_ _ _ _ _ _ _ (env I1) S) (thn ((q X hX).run pos pins s1 σ _ _ I1 ht) fun us s2 ⟨vs, H2, I2, rv, m1, ih1, ws, Qa, S2, rw, hct, fu⟩ => ⟨co.at_ _ _ _ _ _ _ (env I2) S2, ?_⟩) (he _) (hpl _)
    show wpAny _ _ (call (.ref f) us) _ _ _
    have run := co.run X.A X.stack s2 H2 us vs Q m1 ih1 ws Qa (F.grd X hX) ((F.room X hX).mono hl) (env I2) rv S2 rw hct fu
    rw [← F.hP X hX, ← F.hw X hX] at run
    refine wpAny_call (codeAny_mono run fun z s' hz => ?_)
    cases z with
    | error e => exact False.elim hz
    | ok fl =>
      cases fl with
      | ret u => exact I2.after hz
      | next => exact False.elim hz
      | brk => exact False.elim hz
      | cont => exact False.elim hz
  · unfold aCallV at h
    obtain ⟨w, ew, h⟩ := optW_some h
    split at h
    · rename_i n cs
      obtain ⟨v, e1, f', rfl, c⟩ := E.at_ i _ (join_some ew)
      refine ⟨J, m, ih, n, cs, f', e1, F.jok J jk, S, c, h.1, ?_⟩
      refine r J jk m ih H env σ _ _ S E h.2 fun m1 ih1 H1 ws vs S1 x1 r1 k1 => ⟨m1, ih1, ws, Qa, S1, r1, k1, f.step x1⟩
    · exact h.elim
end

/-! ### x(e, lambda ..) -/
/-- the values of some slots -/
def capOf (env : En) : List Nat → Option (List W)
  | [] => some []
  | j :: js => match env[j]?.join, capOf env js with
    | some w, some r => if w.isFn = true then none else some (w :: r)
    | _, _ => none
def onlyD (Q : QW) : QW := fun y ih => ∃ x, y = .d x ∧ Q (.d x) ih
def aCallL (Sg : Sig) (n : Nat) (js : List Nat) (t : Nat) (q : Str) (te : AE) (N : List Str) (np : Nat) (sp : ASp) (ta : AE) : AE := fun env ih Q => ta env ih fun w ih1 => w.isFn = false ∧ optW (capOf env js) fun cap => ih1[t]? = some (.tab q) ∧
  (∀ ws ih2 Qa, Sg.ct n cap ws ih2 Qa → ws.length = np ∧ (∀ y ∈ ws, y.isFn = false) ∧ te (startL N ws cap) ih2 fun y ih3 => ih3 = ih2 ∧ ∃ x, y = .d x ∧ Qa (.d x) ih2) ∧ sp [w, .fn n cap] ih1 (onlyD Q)
theorem cap_rel {K : PySem.W.Frag} {J : JT} {m : List Addr} {ih : IH} {H : Hp} {env : En} {σ : L2.St} (E : EnvR K J m ih H env σ) : ∀ {js : List Nat} {cap : List W}, capOf env js = some cap → Paired (fun w ov => ∃ v, ov = some v ∧ WO K J m ih H w v) cap (js.map (NdefX.slotAt σ))
  | [], cap, h => by
    cases h
    exact .nil
  | j :: js, cap, h => by
    unfold capOf at h
    split at h
    · rename_i w r e1 e2
      split at h
      · cases h
      · rename_i nf
        cases h
        obtain ⟨v, e3, rv⟩ := E.at_ j w (join_some e1)
        exact .cons ⟨v, slotAt_of' e3, by simpa using nf, rv⟩ (cap_rel E e2)
    · cases h
where
  slotAt_of' {σ : L2.St} {j : Nat} {v : V} (h : σ[j]? = some (some v)) : NdefX.slotAt σ j = some v := by
    unfold NdefX.slotAt
    rw [h]
/-- the captured cells as they stand -/
def cellL (cl : List (Str × Addr)) (h : Heap) : List (Addr × Obj) := cl.filterMap fun p => (cl.lookup p.1).bind fun c => (h.get? c).map fun o => (c, o)
theorem lk_of_all {L : List (Addr × Obj)} {c : Addr} {o : Obj} (hm : (c, o) ∈ L) (all : ∀ o', (c, o') ∈ L → o' = o) : L.lookup c = some o := by
  induction L with
  | nil => cases hm
  | cons p r ih =>
    rw [List.lookup_cons]
    by_cases e : c = p.1
    · have hp : p = (c, p.2) := by rw [e]
      have : p.2 = o := all p.2 (by rw [← hp]; exact List.mem_cons_self ..)
      have e2 : (c == p.1) = true := by simpa using e
      rw [e2, this]
    · have e2 : (c == p.1) = false := by simpa using e
      rw [e2]
      refine ih ((List.mem_cons.mp hm).elim (fun z => absurd (by rw [← z]) e) id) fun o' h' => all o' (List.mem_cons_of_mem _ h')
theorem pair_mem {L : List (Addr × Obj)} {b : Addr} {o : Obj} (h : L.lookup b = some o) : (b, o) ∈ L := by
  induction L with
  | nil => cases h
  | cons p r ih =>
    rw [List.lookup_cons] at h
    by_cases e : b = p.1
    · have e2 : (b == p.1) = true := by simpa using e
      rw [e2] at h
      have e3 : p.2 = o := Option.some.inj h
      rw [e, ← e3]
      exact List.mem_cons_self ..
    · have e2 : (b == p.1) = false := by simpa using e
      rw [e2] at h
      exact List.mem_cons_of_mem _ (ih h)
theorem cellL_in {cl : List (Str × Addr)} {h : Heap} {b : Addr} {o : Obj} (e : (cellL cl h).lookup b = some o) : (∃ y, cl.lookup y = some b) ∧ h.get? b = some o := by
  have hm := pair_mem e
  obtain ⟨p, _, e2⟩ := List.mem_filterMap.mp hm
  cases e3 : cl.lookup p.1 with
  | none => rw [e3] at e2; cases e2
  | some c =>
    rw [e3] at e2
    cases e4 : h.get? c with
    | none => simp [e4] at e2
    | some o2 =>
      simp [e4] at e2
      obtain ⟨rfl, rfl⟩ := e2
      exact ⟨⟨p.1, e3⟩, e4⟩
theorem cellL_of {cl : List (Str × Addr)} {h : Heap} {y : Str} {c : Addr} {o : Obj} (e : cl.lookup y = some c) (g : h.get? c = some o) : (cellL cl h).lookup c = some o := by
  refine lk_of_all (List.mem_filterMap.mpr ⟨(y, c), PySem.mem_of_lookup e, by simp [e, g]⟩) fun o' h' => ?_
  obtain ⟨p, _, e2⟩ := List.mem_filterMap.mp h'
  cases e3 : cl.lookup p.1 with
  | none => rw [e3] at e2; cases e2
  | some c2 =>
    rw [e3] at e2
    cases e4 : h.get? c2 with
    | none => simp [e4] at e2
    | some o2 =>
      simp [e4] at e2
      obtain ⟨rfl, rfl⟩ := e2
      rw [g] at e4
      exact (Option.some.inj e4).symm
section
variable {F : Fam} {pos p lpos : Pos} {e : Expr} {aa te : AE} {x a b q : Str} {sty : List Sty} {sp : ASp} {j : Nat} {params : Arguments} {body : Expr} {scope : Scope}
theorem tell_cells {X : Cx} {pins : List (Addr × Obj)} {σ : L2.St} {H : Hp} {s : Shared} (I : Inv X pins σ H s) (hfn : ∀ y, X.fn y = true) {cl : List (Str × Addr)} (sub : ∀ y c, cl.lookup y = some c → X.env.cells.lookup y = some c) : Tell X.base X.stack s.heap H (cellL cl s.heap) := by
  have old : ∀ b o, (cellL cl s.heap).lookup b = some o → X.s_0.heap.objs.size ≤ b := fun b o e => by
    obtain ⟨⟨y, hy⟩, _⟩ := cellL_in e
    exact I.ok.cab y b (hfn y) (sub y b hy)
  refine ⟨fun b o e => (cellL_in e).2, fun b o e => ?_, fun b o e hb => ?_, fun b o e => ?_⟩
  · obtain ⟨⟨y, hy⟩, _⟩ := cellL_in e
    exact I.freeC y b (sub y b hy)
  · obtain ⟨⟨y, hy⟩, g⟩ := cellL_in e
    rcases List.mem_cons.mp (I.stkSub b hb) with z | z
    · obtain ⟨mm, ⟨o1, es, ep, g1, d1, _⟩, _⟩ := I.loc
      obtain ⟨v, o2, g2, d2⟩ := I.cell y b (sub y b hy)
      rw [z, g1] at g2
      cases g2
      rw [d1] at d2
      cases d2
    · obtain ⟨_, o1, g1, _⟩ := I.ok.funs.mem z
      exact absurd (Heap.lt_size g1) (Nat.not_lt.mpr (old b o e))
  · cases q : X.base.get? b with
    | none => rfl
    | some o2 => exact absurd (Heap.lt_size (I.ok.bs b o2 q).1) (Nat.not_lt.mpr (old b o e))
theorem evc_lam (n : Nat) (js : List Nat) (t : Nat) {c T : Addr} {k2 : Nat} {N ps fr : List Str} (G : Fdf F.P F.w F.K F.mg F.base F.S j x [a, b] sty sp) (hj : j ≤ F.k) (hg : Glb F x) (h1 : EV F e aa) (TB : TabB F.base F.mg c T) (hT : F.S.Tb[t]? = some T)
    (hcode : ∀ X, F.ok X → X.env.code = .ref c) (hq : ∀ X, F.ok X → X.env.qual ++ "<lambda>" = q) (hfn : ∀ X, F.ok X → ∀ y, X.fn y = true) (Sn : NScope N ps fr scope) (hlv : F.S.lv n = k2 + 1)
    (hbody : ∀ (cl : List (Str × Addr)) (c' f : Addr), EV (Fam.lam F.P F.w F.K F.mg F.base F.S k2 N ⟨params, body, scope, q, cl, c'⟩ f Sn.nd) body te)
    (hfree : ∀ y ∈ scope.names, y.2 = .free → F.sc.names.lookup y.1 = some .cell ∨ F.sc.names.lookup y.1 = some .free) (hfr : ∀ y ∈ fr, (y, NameKind.free) ∈ scope.names) (hjs : js.map (fun j => F.N[j]?) = fr.map some)
    (hb : ∀ (cl : List (Str × Addr)) (pm cv ctv : Value) (us : List Value), us.length = ps.length → bindArgs (PySem.W.kla_fn "<lambda>" q params body scope cl pm cv ctv) ⟨us, []⟩ = pure (ps.zip us))
    (hdef : ∀ env, defaultsOf params env = ([], []) := by intro _; rfl) (hdb : (x == ("__debug__" : Str)) = false := by decide)
    (he : ∀ env, starEach [e, .Lambda params body scope lpos] env = (false, eval e env) :: starEach [.Lambda params body scope lpos] env := by intro _; rfl) :
    EV F (.Call (.Name x p) [e, .Lambda params body scope lpos] [] pos) (aCallL F.S n js t q te N ps.length sp aa) := by
  obtain ⟨g, fd, hm, kp, bnd, _, G⟩ := G
  obtain ⟨t1, p1, r1⟩ := h1
  refine ⟨fun σ H Q => t1 σ H fun v H1 => ∃ J m ih w cap Qa, JOk F.P F.w F.K F.mg F.base F.S J ∧ Sim F.K J m ih H1 ∧ WO F.K J m ih H1 w v ∧ Paired (fun w ov => ∃ v, ov = some v ∧ WO F.K J m ih H1 w v) cap (js.map (NdefX.slotAt σ)) ∧ ih[t]? = some (.tab q) ∧
    (∀ ws ih2 Qa, F.S.ct n cap ws ih2 Qa → ws.length = ps.length ∧ (∀ y ∈ ws, y.isFn = false) ∧ te (startL N ws cap) ih2 fun y ih3 => ih3 = ih2 ∧ ∃ x, y = .d x ∧ Qa (.d x) ih2) ∧ sp [w, .fn n cap] ih (onlyD Qa) ∧ Fu F.K J m ih H1 Qa Q,
    fun X hX => ⟨fun pins s σ H Q I h => ?_⟩, fun J jk m ih H env σ Qa Q S E h f => ?_⟩
  · refine wpAny_Call_Name_kw (ld_glob I (Fam.gl hX hg) (by rw [F.hmg X hX]; exact hm) ?_ hdb)
    refine PySem.W.callWith_K (h₀ := X.base) I.ok.mod.kin (by rw [F.hK X hX]; exact kp) ?_ (he _) (by rfl)
    rw [he X.env]
    refine Calls.spliced_cons (thn ((p1 X hX).run pins s σ H _ I h) fun u1 s1 ⟨v, H1, I1, rv, J, m, ih, w, cap, Qa, jo, S1, rw, cp, hi, pr, hsp, fu⟩ => ?_)
    show wpAny _ _ (spliced ((false, eval (.Lambda params body scope lpos) X.env) :: [])) _ _ s1
    obtain ⟨t2, em⟩ := jo.tb m ih H1 S1.j
    have hm2 : m[t]? = some T := by rw [em, List.getElem?_append_left (List.getElem?_eq_some_iff.mp hT).1]; exact hT
    have hq2 := hq X hX
    have S1' : Sim X.K J m ih H1 := by rw [F.hK X hX]; exact S1
    have hfr2 : ∀ y ∈ scope.names, y.2 = .free → X.env.scope.names.lookup y.1 = some .cell ∨ X.env.scope.names.lookup y.1 = some .free := fun y hy e => by
      have := hfree y hy e
      rw [← F.hsc X hX] at this
      exact this
    have hfr3 : ∀ y ∈ scope.names, y.2 = .free → ∃ c, X.env.cells.lookup y.1 = some c := fun y hy e => (hfr2 y hy e).elim (fun z => I1.ok.has y.1 (.inl z)) fun z => I1.ok.has y.1 (.inr z)
    refine Calls.spliced_cons (lam_new (t := t) (c := c) (P := T) I1 (by rw [F.hbase X hX, F.hmg X hX]; exact TB) (hcode X hX) S1' hm2 (by rw [hq2]; exact hi) (hdef _) hfr3 fun f c' H2 s2 I2 S2 x2 big hf nf hc nc fresh => ?_)
    refine Calls.spliced_nil ⟨I2.kIn, ?_⟩
    rw [hq2] at hf hc
    rw [F.hK X hX] at S2
    have capsX := Caps.made (scope := scope) (fr := fr) (js := js) I2.ok hfr2 hfr (by rw [F.hN X hX]; exact hjs)
    have C := cells_of I2 capsX
    have T1 := tell_cells I2 (hfn X hX) capsX.sub
    have env2 : Env0 F.P F.w F.K F.mg F.base X.A X.stack s2 H2 := by
      have e := I2.env0
      rwa [F.hP X hX, F.hw X hX, F.hK X hX, F.hmg X hX, F.hbase X hX] at e
    rw [F.hbase X hX] at T1
    have no := T1.no
    have cov : ∀ y cc, (cloFrom X.env.cells scope.names []).lookup y = some cc → ∃ o, (cellL (cloFrom X.env.cells scope.names []) s2.heap).lookup cc = some o := fun y cc e => by
      obtain ⟨v, o, g, _⟩ := I2.cell y cc (capsX.sub y cc e)
      exact ⟨o, cellL_of e g⟩
    have cp2 : Paired (fun w ov => ∃ v, ov = some v ∧ WO F.K J m ih H2 w v) cap (js.map (NdefX.slotAt σ)) := Paired.mapR cp fun _ _ ⟨v, e, r⟩ => ⟨v, e, r.mono S1 x2⟩
    have jo2 := lam_ok (n := n) (k := k2) (cap := cap) (f := f) (Lf := ⟨params, body, scope, q, cloFrom X.env.cells scope.names [], c'⟩) S2 jo no T1.at_ cov hf nf hc nc C cp2 Sn (fun pm ctv us hl => hb _ pm _ ctv us hl) (hbody _ _ _) hlv pr
    have rw2 : WO F.K J m ih H2 w v := rw.mono S1 x2
    let L := cellL (cloFrom X.env.cells scope.names []) s2.heap
    let J2 := jL J m ih H2 L n cap f
    let Q2 : VK := fun v H3 => ∃ m3 ih3 y, Sim F.K J2 m3 ih3 H3 ∧ WR F.K J2 m3 ih3 H3 y v ∧ onlyD Qa y ih3
    have li : lift F.P F.w F.K F.mg F.base F.S sp [v, .ref f] (trk H2 L) Q2 :=
      ⟨J2, m, ih, [w, .fn n cap], onlyD Qa, jo2, sim_jL S2 no, .cons (rw2.convK S2 (xt_trk S2 no) (jL_hid no)).2 (.cons ⟨f, rfl, rfl, rfl, rfl⟩ .nil), hsp, fun m3 ih3 H3 y v S3 x3 r3 k3 => ⟨m3, ih3, y, S3, r3, k3⟩⟩
    have kin2 : F.K.In s2.heap := by have := I2.kIn; rwa [F.hK X hX] at this
    have bd := bnd s2 [u1, .ref f] kin2 rfl
    rw [List.append_nil] at bd
    have run := G.run X.A X.stack s2 (trk H2 L) ⟨[u1, .ref f], []⟩ [u1, .ref f] [v, .ref f] Q2 (F.grd X hX) ((F.room X hX).mono hj) (env_trk env2 T1) bd (.cons rv (.cons rfl .nil)) rfl li
    refine wpAny_call (codeAny_mono (by rw [F.hP X hX, F.hw X hX]; exact run) fun z s3 hz => ?_)
    cases z with
    | error e => exact False.elim hz
    | ok fl =>
      cases fl with
      | next => exact False.elim hz
      | brk => exact False.elim hz
      | cont => exact False.elim hz
      | ret u =>
        refine I2.after ?_
        rw [F.hP X hX, F.hw X hX]
        refine ce_utk T1 hz fun v3 H3 told ⟨m3, ih3, y, S3, r3, d, ey, qa⟩ => ?_
        subst ey
        obtain ⟨S4, x4⟩ := sim_back S2 no told S3
        exact fu m3 ih3 _ (.d d) v3 S4 (x2.trans x4) (back_rel told r3) qa
  · refine r1 J jk m ih H env σ _ _ S E h fun m1 ih1 H1 w v S1 x1 r1 k1 => ?_
    obtain ⟨nf, k1⟩ := k1
    obtain ⟨cap, ec, k1⟩ := optW_some k1
    exact ⟨J, m1, ih1, w, cap, Qa, F.jok J jk, S1, ⟨nf, r1⟩, cap_rel (E.mono S x1) ec, k1.1, k1.2.1, k1.2.2, f.step x1⟩
end
theorem forall_nil {α : Type} {p : α → Prop} : (∀ x ∈ ([] : List α), p x) = True := eq_true fun _ h => absurd h (by simp)
end Pz

end
section
set_option Elab.async false
set_option linter.all false
set_option maxRecDepth 100000
set_option autoImplicit false
set_option maxHeartbeats 1000000
/-! Fw19: in; * of lists and tuples; str; upper. -/
namespace Pz
open PySem PySem.Spec PyProof.Rows L2 LamX

section
variable {F : Fam}
/-! ### x in a list or tuple of texts -/
def allS : List D → Option (List Str)
  | [] => some []
  | .str x :: r => (allS r).map (x :: ·)
  | _ :: _ => none
theorem allS_eq : ∀ {ds : List D} {ss : List Str}, allS ds = some ss → ds = ss.map PyData.str
  | [], ss, h => by unfold allS at h; cases h; rfl
  | .str x :: r, ss, h => by
    unfold allS at h
    cases q : allS r with
    | none => rw [q] at h; cases h
    | some es => rw [q] at h; cases h; rw [allS_eq q, List.map_cons]
  | .none :: r, ss, h => by unfold allS at h; cases h
  | .bool _ :: r, ss, h => by unfold allS at h; cases h
  | .int _ :: r, ss, h => by unfold allS at h; cases h
  | .tuple _ :: r, ss, h => by unfold allS at h; cases h
  | .list _ :: r, ss, h => by unfold allS at h; cases h
  | .dict _ :: r, ss, h => by unfold allS at h; cases h
theorem drs_strs {K : PySem.W.Frag} {L : Addr → Prop} {H : Hp} : ∀ {ss : List Str} {vs : List V}, DRs K L H (ss.map PyData.str) vs → vs = ss.map V.str
  | [], vs, h => by unfold DRs at h; exact h
  | s :: ss, vs, h => by
    rw [List.map_cons] at h
    unfold DRs at h
    obtain ⟨v, r, rfl, h1, h2⟩ := h
    rw [h1.str', drs_strs h2] <;> rfl
theorem inV_strs {x : Str} {ss : List Str} : inV (.str x) (ss.map V.str) = ss.contains x := by
  unfold inV
  induction ss with
  | nil => rfl
  | cons a r ih =>
    rw [List.map_cons, List.any_cons, ih, List.contains_cons]
    show (a == x || _) = (x == a || _)
    rw [show (a == x) = (x == a) from by
      by_cases e : a = x
      · rw [e]
      · rw [beq_eq_false_iff_ne.mpr e, beq_eq_false_iff_ne.mpr fun z => e z.symm]]
theorem flat_strs {ss : List Str} : (ss.map V.str).all flatV = true := by
  rw [List.all_eq_true]
  intro v hv
  obtain ⟨s, _, rfl⟩ := List.mem_map.mp hv
  rfl
def xIn (g : Bool → Bool) : AR2 := fun x y ih Q => match x, y with
  | .d (.str s), .d (.tuple ts) => optW (allS ts) fun ss => Q (.d (.bool (g (ss.contains s)))) ih
  | .d (.str s), .d (.list ts) => optW (allS ts) fun ss => Q (.d (.bool (g (ss.contains s)))) ih
  | _, _ => False
theorem ov_in : OV F (compareOp .In) (xIn id) := by
  refine ovK (fun K => rIn K false) (fun _ _ => op_in_seq) fun J m ih H x y vx vy Qa Q S rx ry hh f => ?_
  unfold xIn at hh
  split at hh
  · obtain ⟨ss, e, h2⟩ := optW_some hh
    clear hh
    have hh := h2
    clear h2
    have e2 := allS_eq e
    subst e2
    obtain ⟨a, vs, rfl, hs, hr⟩ := ry.tup'
    have ev := drs_strs hr
    subst ev
    rw [rx.str']
    exact ⟨a, _, rfl, .inr hs, rfl, flat_strs, by rw [if_neg Bool.false_ne_true, inV_strs]; exact f.now (w := .d _) S WR.bl hh⟩
  · obtain ⟨ss, e, h2⟩ := optW_some hh
    clear hh
    have hh := h2
    clear h2
    have e2 := allS_eq e
    subst e2
    obtain ⟨a, vs, rfl, hs, _, hr⟩ := ry.lst'
    have ev := drs_strs hr
    subst ev
    rw [rx.str']
    exact ⟨a, _, rfl, .inl (.of hs), rfl, flat_strs, by rw [if_neg Bool.false_ne_true, inV_strs]; exact f.now (w := .d _) S WR.bl hh⟩
  · exact hh.elim

/-! ### * -/
theorem drs_rep {K : PySem.W.Frag} {L : Addr → Prop} {H : Hp} {ds : List D} {vs : List V} (h : DRs K L H ds vs) : ∀ n : Nat, DRs K L H (List.replicate n ds).flatten (List.replicate n vs).flatten
  | 0 => DRs.nil
  | n + 1 => by
    rw [List.replicate_succ, List.replicate_succ, List.flatten_cons, List.flatten_cons]
    exact DRs.app h (drs_rep h n)
def xMulA : AR2 := fun x y ih Q => match x, y with
  | .d (.int i), .d (.int j) => CMulW i j ∧ Q (.d (.int (i * j))) ih
  | .d (.list xs), .d (.int k) => (-(2 ^ 63) ≤ k ∧ k < 2 ^ 63 ∧ xs.length * k.toNat ≤ sizeLine) ∧ Q (.d (.list (List.replicate k.toNat xs).flatten)) ih
  | .d (.tuple xs), .d (.int k) => (xs ≠ [] ∧ 2 ≤ k ∧ k ≤ 1000 ∧ xs.length ≤ 1000) ∧ Q (.d (.tuple (List.replicate k.toNat xs).flatten)) ih
  | _, _ => False
theorem ov_mulA : OV F (binaryOp .Mult) xMulA := by
  refine ovK (fun K x y H Q => rI CMulW (fun i j => V.int (i * j)) x y H Q ∨ rRep x y H Q ∨ rRepT K x y H Q) (fun _ _ => op_mulW.or (op_rep.or op_repT)) fun J m ih H x y vx vy Qa Q S rx ry hh f => ?_
  unfold xMulA at hh
  split at hh
  · exact .inl ⟨_, _, rx.int', ry.int', hh.1, f.now (w := .d _) S WR.int hh.2⟩
  · obtain ⟨a, vs, rfl, hs, _, hr⟩ := rx.lst'
    obtain ⟨⟨h1, h2, h3⟩, hh⟩ := hh
    exact .inr (.inl ⟨a, _, vs, rfl, ry.int', hs, h1, h2, by rw [hr.len]; exact h3, fun p hp => f.lst S hp (drs_rep hr _) hh⟩)
  · obtain ⟨a, vs, rfl, hs, hr⟩ := rx.tup'
    obtain ⟨⟨h1, h2, h3, h4⟩, hh⟩ := hh
    refine .inr (.inr ⟨a, _, vs, rfl, ry.int', hs, fun z => h1 ?_, h2, h3, by rw [hr.len]; exact h4, fun p hp => f.tup S hp (drs_rep hr _) hh⟩)
    subst z
    exact DRs.nil_left hr
  · exact hh.elim

/-! ### str, upper -/
def xStr : ARC := fun ws ih Q => match ws with
  | [.d (.int i)] => i.natAbs.log2 < 1920 ∧ Q (.d (.str (toString i))) ih
  | [.d (.str s)] => Q (.d (.str s)) ih
  | _ => False
theorem cv_str : CV F (.type "str") xStr := by
  refine ⟨_, fun _ _ => call_str_int.or SkE.call_str_str, fun J m ih H ws vs Qa Q S r hh f => ?_⟩
  unfold xStr at hh
  split at hh
  · obtain ⟨v, rfl, r1⟩ := paired1 r
    rw [r1.int']
    exact .inl ⟨_, rfl, hh.1, f.now (w := .d _) S WR.str hh.2⟩
  · obtain ⟨v, rfl, r1⟩ := paired1 r
    rw [r1.str']
    exact .inr ⟨_, rfl, f.now (w := .d _) S WR.str hh⟩
  · exact hh.elim
def isStrW (w : W) (_ : IH) : Prop := match w with
  | .d (.str _) => True
  | _ => False
theorem isStrW_ty {K : PySem.W.Frag} : RTy K "str" isStrW := fun J m ih H x vx S r h => by
  unfold isStrW at h
  split at h
  · rename_i s
    rw [show vx = .str s from r.str']
    exact rfl
  · exact h.elim
def xUpper (x : W) (ws : List W) (ih : IH) (Q : QW) : Prop := match x, ws with
  | .d (.str s), [] => s.length ≤ 5592405 ∧ Q (.d (.str (Txt.upper s))) ih
  | _, _ => False
theorem mv_upper : MV F "str" "str.upper" isStrW xUpper := by
  refine ⟨_, fun X hX => mt_upper, fun J m ih H x ws vx vs Qa Q S r rs h f => ?_, isStrW_ty⟩
  unfold xUpper at h
  split at h
  · cases rs
    exact ⟨_, r.str', rfl, h.1, f.now (w := .d _) S WR.str h.2⟩
  · exact h.elim
end
end Pz

end
section
set_option Elab.async false
set_option linter.all false
set_option maxRecDepth 100000
set_option autoImplicit false
set_option maxHeartbeats 1000000
/-! Fw20: list(range(..)). -/
namespace Pz
open PySem PySem.Spec PyProof.Rows L2 LamX
section
variable {F : Fam} {pos p p2 pos2 : Pos} {a b : Expr} {aa ab : AE}
def aLRg1 (ta : AE) : AE := fun env ih Q => ta env ih fun x ih1 => match x with
  | .d (.int n) => RgOk 0 n ∧ Q (.d (.list (rng 0 n.toNat))) ih1
  | _ => False
theorem rgV_drs {K : PySem.W.Frag} {L : Addr → Prop} {H : Hp} (lo hi : Int) : DRs K L H (rng lo (hi - lo).toNat) (rgV lo hi) := by
  unfold rng rgV
  have gen : ∀ (is : List Nat), DRs K L H (is.map fun (i : Nat) => PyData.int (lo + i)) (is.map fun (i : Nat) => V.int (lo + (i : Nat))) := fun is => by
    induction is with
    | nil => exact DRs.nil
    | cons i r ih => exact DRs.cons DR.int ih
  exact gen _
theorem ev_listRg1 (hg : Glb F "list") (hm : F.mg "list" = none) (hg2 : Glb F "range") (hm2 : F.mg "range" = none) (h : EV F a aa) (hs : ∀ env, starEach [a] env = (false, eval a env) :: starEach [] env := by intro _; rfl) : EV F (.Call (.Name "list" p) [.Call (.Name "range" p2) [a] [] pos2] [] pos) (aLRg1 aa) := by
  obtain ⟨t, q, r⟩ := h
  refine ⟨_, fun X hX => pe_listRg (F.calm X hX) (Fam.gl hX hg) (by rw [F.hmg X hX]; exact hm) (prg_1 (Fam.gl hX hg2) (by rw [F.hmg X hX]; exact hm2) (q X hX) (na := hs _)), fun J jk m ih H env σ Qa Q S E hh f => ?_⟩
  refine r J jk m ih H env σ _ _ S E hh fun m1 ih1 H1 w v S1 x1 r1 k1 => ?_
  split at k1
  · rename_i n
    refine ⟨n, r1.int', k1.1, fun g hp => ?_⟩
    have d := rgV_drs (K := F.K) (L := Own J m1 ih1) (H := H1) 0 n
    rw [Int.sub_zero] at d
    exact (f.step x1).lst S1 hp d k1.2
  · exact k1.elim
end
end Pz

end
section
set_option Elab.async false
set_option linter.all false
set_option maxRecDepth 100000
set_option autoImplicit false
set_option maxHeartbeats 1000000
/-! Fw21: zip of any two of lists and tuples. -/
namespace Pz
open PySem PySem.Spec PyProof.Rows L2 LamX

def SqB (l : Bool) (K : PySem.W.Frag) (H : Hp) (a : Addr) (xs : List V) : Prop := match l with
  | true => SqL K H a xs
  | false => SqT K H a xs
def ItB (l : Bool) (h : Heap) (i a : Addr) (k : Nat) : Prop := match l with
  | true => h.IsListIter i a k
  | false => h.IsTupleIter i a k
def AtB (l : Bool) (h : Heap) (a : Addr) (its : Array Value) : Prop := match l with
  | true => h.IsList a its
  | false => h.IsTuple a its
def obB (l : Bool) (a : Addr) : Obj := match l with
  | true => { cls := .type "list_iterator", data := .fields #[.ref a, .int 0 0] }
  | false => { cls := .type "tuple_iterator", data := .fields #[.ref a, .int 0 0] }
theorem beginsB (l : Bool) (a : Addr) (its : Array Value) : Begins (.ref a) (obB l a) fun h => AtB l h a its := by
  cases l with
  | true => exact begins_list a its
  | false => exact begins_tuple a its
theorem ItB.keep {l : Bool} {h h2 : Heap} {i a : Addr} {k : Nat} (x : ItB l h i a k) (e : ∀ o, h.get? i = some o → h2.get? i = some o) : ItB l h2 i a k := by
  cases l with
  | true => exact Heap.IsListIter.at x e
  | false => exact Heap.IsTupleIter.at x e
theorem ItB.obj {l : Bool} {h : Heap} {i a : Addr} {k : Nat} (x : ItB l h i a k) : ∃ o, h.get? i = some o ∧ ∀ v, o.data ≠ .cell v := by
  cases l with
  | true =>
    obtain ⟨o, e, _, d⟩ := (show h.IsListIter i a k from x)
    exact ⟨o, e, fun v q => by rw [d] at q; cases q⟩
  | false =>
    obtain ⟨o, e, _, d⟩ := (show h.IsTupleIter i a k from x)
    exact ⟨o, e, fun v q => by rw [d] at q; cases q⟩
theorem drawsB {P : Program} {w : World} {A : Around} (l : Bool) (hh : A.handled = none) (it a : Addr) (ne : a ≠ it) (its : Array Value) : Draws P w A it [it, a] its.size (fun i v => its[i]? = some v) (fun i h => ItB l h it a i ∧ AtB l h a its) := by
  cases l with
  | true => exact Draws.list hh it a ne its
  | false => exact Draws.tuple hh it a ne its
section
variable {X : Cx} {pins : List (Addr × Obj)} {σ : L2.St} {H : Hp} {s : Shared} {a : Addr} {xs ys : List V}
theorem itemsB {l : Bool} (I : Inv X pins σ H s) (h : SqB l X.K H a xs) : ∃ its : List Value, Vals xs its ∧ AtB l s.heap a its.toArray ∧ a < s.heap.objs.size := by
  cases l with
  | true =>
    obtain ⟨its, r, p, _⟩ := I.list h
    exact ⟨its, r, p.isList, p.lt⟩
  | false =>
    obtain ⟨its, r, p, _⟩ := I.tuple h
    obtain ⟨o, e, _⟩ := id p
    exact ⟨its, r, p, Heap.lt_size e⟩
theorem SqB.inj {l : Bool} (I : Inv X pins σ H s) (h : SqB l X.K H a xs) (h' : SqB l X.K H a ys) : xs = ys := by
  cases l with
  | true => exact I.list_inj h h'
  | false => exact I.tuple_inj h h'
end
/-- what the two hand out: new pairs -/
def ItzB (l r : Bool) (K : PySem.W.Frag) (a b : Addr) : It :=
  ⟨fun i H => ∃ (xs ys : List V) (x y : V), SqB l K H a xs ∧ SqB r K H b ys ∧ xs[i]? = some x ∧ ys[i]? = some y,
    fun i H v H' => ∃ T x y, v = .ref T ∧ H T = none ∧ H' = upd H T (.tup [x, y]) ∧ (∀ xs, SqB l K H a xs → xs[i]? = some x) ∧ ∀ ys, SqB r K H b ys → ys[i]? = some y,
    fun i H => ∃ xs ys : List V, SqB l K H a xs ∧ SqB r K H b ys ∧ min xs.length ys.length = i⟩
theorem turn_zipB {P : Program} {w : World} {K : PySem.W.Frag} {elts : List Expr} {kk : Nat} {tpos : Pos} {l r : Bool} {a b z TI TO i1 i2 : Addr} (D : ZipSep2 z TI TO i1 i2 [i1, a] [i2, b]) (n1 : a ≠ i1) (n2 : b ≠ i2) :
    Turn P w K (.Tuple elts kk tpos) (ItzB l r K a b) [z, TI, TO, i1, i2] z (fun i h => IsZip h z TI TO .none ∧ IsTupOf2 h TI (.ref i1) (.ref i2) ∧ (∃ x y, IsTupOf2 h TO x y) ∧ ItB l h i1 a i ∧ ItB r h i2 b i) := by
  have ob : ∀ i h, (IsZip h z TI TO .none ∧ IsTupOf2 h TI (.ref i1) (.ref i2) ∧ (∃ x y, IsTupOf2 h TO x y) ∧ ItB l h i1 a i ∧ ItB r h i2 b i) → ∀ c ∈ [z, TI, TO, i1, i2], ∃ o, h.get? c = some o ∧ ∀ v, o.data ≠ .cell v := fun i h st c hc => by
    obtain ⟨hz, hTI, ⟨x, y, hTO⟩, h1, h2⟩ := st
    simp only [List.mem_cons, List.not_mem_nil, or_false] at hc
    rcases hc with rfl | rfl | rfl | rfl | rfl
    · exact ⟨_, hz, fun v q => nomatch q⟩
    · exact ⟨_, hTI, fun v q => nomatch q⟩
    · exact ⟨_, hTO, fun v q => nomatch q⟩
    · exact h1.obj
    · exact h2.obj
  refine ⟨by simp, ob, fun i h h' st k => ?_, ?_, ?_, fun A i s Q E st h => wpAny_pyIter_zip st.1 h⟩
  · obtain ⟨hz, hTI, ⟨x, y, hTO⟩, h1, h2⟩ := st
    exact ⟨k z (by simp) _ hz, k TI (by simp) _ hTI, ⟨x, y, k TO (by simp) _ hTO⟩, h1.keep fun o q => k i1 (by simp) o q, h2.keep fun o q => k i2 (by simp) o q⟩
  · intro X hP hw hK hc i pins s σ H E I hf st hg
    subst hP hw hK
    obtain ⟨xs, ys, x, y, hqx, hqy, hx, hy⟩ := hg
    obtain ⟨its, rv, p, _⟩ := itemsB I hqx
    obtain ⟨its2, rv2, p2, _⟩ := itemsB I hqy
    obtain ⟨u, hu, ru⟩ := rv.get hx
    obtain ⟨u2, hu2, ru2⟩ := rv2.get hy
    have hh : X.A.in1.handled = none := I.ok.hd hc
    have G := GoesN.zip2 (A := X.A) (elts := elts) (x1 := kk) (pos := tpos) D (drawsB (P := X.prog) (w := X.w) l hh i1 a n1 its.toArray) (drawsB (P := X.prog) (w := X.w) r hh i2 b n2 its2.toArray)
    have hi : i < min its.toArray.size its2.toArray.size := by
      have a1 := (List.getElem?_eq_some_iff.mp hu).1
      have a2 := (List.getElem?_eq_some_iff.mp hu2).1
      rw [List.size_toArray, List.size_toArray]
      omega
    have st0 := st
    obtain ⟨hz, hTI, hTO, h1, h2⟩ := st
    refine G.goes i s _ E hi ⟨hz, hTI, hTO, ⟨h1, p⟩, ⟨h2, p2⟩⟩ fun v h' tk hY st' hk htk => ?_
    obtain ⟨T, v1, v2, rfl, big, e1, e2, hT⟩ := hY
    have q1 : v1 = u := by
      have : its.toArray[i]? = some u := by simpa using hu
      rw [e1] at this
      exact Option.some.inj this
    have q2 : v2 = u2 := by
      have : its2.toArray[i]? = some u2 := by simpa using hu2
      rw [e2] at this
      exact Option.some.inj this
    subst q1 q2
    have new : ObjOk X.prog X.w (upd H T (.tup [x, y])) h' T (.tup [x, y]) := ⟨by show 2 ≤ sizeLine; decide, [v1, v2], .cons ru (.cons ru2 .nil), hT⟩
    have kk2 : ∀ c o, c ∉ [z, TI, TO, i1, i2] → s.heap.get? c = some o → h'.get? c = some o := fun c o hb q => hk c o (fun z2 => hb (by
      simp only [List.mem_cons, List.not_mem_nil, or_false] at z2 ⊢
      rcases z2 with q | q | q | q
      · exact .inl q
      · exact .inr (.inr (.inl q))
      · exact .inr (.inr (.inr (.inl q)))
      · exact .inr (.inr (.inr (.inr q))))) q
    have I1 : Inv X pins σ (upd H T (.tup [x, y])) { s with heap := h', toks := tk } := I.turnedNew (t' := tk) (ch := [z, TI, TO, i1, i2]) kk2 hf big new
    refine ⟨.ref T, _, I1, rfl, ⟨T, x, y, rfl, I.hok.fresh big, rfl, fun m hm => by rw [SqB.inj I hm hqx]; exact hx, fun m hm => by rw [SqB.inj I hm hqy]; exact hy⟩, ⟨st'.1, st'.2.1, st'.2.2.1, st'.2.2.2.1.1, st'.2.2.2.2.1⟩, fun c hcm => ?_⟩
    obtain ⟨o, e, _⟩ := ob i s.heap st0 c hcm
    rw [upd_ne (Nat.ne_of_lt (Nat.lt_of_lt_of_le (Heap.lt_size e) big))]
    exact (hf c hcm).1
  · intro X hP hw hK hc i pins s σ H E I hf st hg
    subst hP hw hK
    obtain ⟨xs, ys, hqx, hqy, hend⟩ := hg
    obtain ⟨its, rv, p, _⟩ := itemsB I hqx
    obtain ⟨its2, rv2, p2, _⟩ := itemsB I hqy
    have hh : X.A.in1.handled = none := I.ok.hd hc
    have G := GoesN.zip2 (A := X.A) (elts := elts) (x1 := kk) (pos := tpos) D (drawsB (P := X.prog) (w := X.w) l hh i1 a n1 its.toArray) (drawsB (P := X.prog) (w := X.w) r hh i2 b n2 its2.toArray)
    have hn : min its.toArray.size its2.toArray.size = i := by
      rw [List.size_toArray, List.size_toArray, ← rv.length, ← rv2.length]
      exact hend
    obtain ⟨hz, hTI, hTO, h1, h2⟩ := st
    refine G.stops s _ E (by rw [hn]; exact ⟨hz, hTI, hTO, ⟨h1, p⟩, ⟨h2, p2⟩⟩) fun h' tk hk htk => ?_
    exact I.turnedL (t' := tk) (ch := [z, TI, TO, i1, i2]) (fun c o hb q => hk c o (fun z2 => hb (by
      simp only [List.mem_cons, List.not_mem_nil, or_false] at z2 ⊢
      rcases z2 with q | q | q | q
      · exact .inl q
      · exact .inr (.inr (.inl q))
      · exact .inr (.inr (.inr (.inl q)))
      · exact .inr (.inr (.inr (.inr q))))) q) hf
theorem sepB {n a b : Nat} (ha : a < n) (hb : b < n) : ZipSep2 (n + 4) (n + 2) (n + 3) n (n + 1) [n, a] [n + 1, b] := by
  have no : ∀ x y z : Nat, x ≠ y → x ≠ z → x ∉ [y, z] := fun x y z h1 h2 h => by
    simp only [List.mem_cons, List.not_mem_nil, or_false] at h
    omega
  have d : ∀ i j : Nat, i ≠ j → n + i ≠ n + j := fun i j h => by omega
  have d0 : ∀ i : Nat, i ≠ 0 → n + i ≠ n := fun i h => by omega
  have da : ∀ i : Nat, n + i ≠ a := fun i => by omega
  have db : ∀ i : Nat, n + i ≠ b := fun i => by omega
  have db0 : n ≠ b := by omega
  have d1 : n ≠ n + 1 := by omega
  exact ⟨d 2 4 (by decide), d 3 4 (by decide), d 2 3 (by decide), d0 2 (by decide), List.mem_cons_self .., no _ _ _ (d0 4 (by decide)) (da 4), no _ _ _ (d0 3 (by decide)) (da 3), d 2 1 (by decide), List.mem_cons_self .., no _ _ _ (d 4 1 (by decide)) (db 4), no _ _ _ (d 3 1 (by decide)) (db 3), no _ _ _ d1 db0, no _ _ _ (d0 1 (by decide)) (da 1)⟩
def iZipB (K : PySem.W.Frag) (ta : TA) : TI := fun σ H R => ta σ H fun vs H1 => ∃ l r a b xs ys, vs = [.ref a, .ref b] ∧ SqB l K H1 a xs ∧ SqB r K H1 b ys ∧ R (ItzB l r K a b) H1
theorem pi_zipB {X : Cx} {e e2 : Expr} {ta : TA} {p pos tpos : Pos} {elts : List Expr} {kk : Nat} (hg : Gl X "zip") (hm : X.mg "zip" = none) (ha : PA X [e, e2] ta) (hs : starEach [e, e2] X.env = (false, eval e X.env) :: starEach [e2] X.env)
    (hpl : (backTo pos (starEach [e2] X.env)).any (·.1) = false) : PI X (.Tuple elts kk tpos) (.Call (.Name "zip" p) [e, e2] [] pos) (iZipB X.K ta) := by
  refine ⟨fun pins s σ H R I h => ?_⟩
  refine Call_ (ld_blt I hg hm PyProof.Rows.boot_zip (PyProof.Rows.callWith_type1 (thn (ha.run pos pins s σ H _ I h) fun us s1 ⟨vs, H1, I1, rv, l, r, a, b, xs, ys, ev, hx, hy, q⟩ => ?_) hs hpl))
  subst ev
  obtain ⟨u, rv2⟩ : ∃ u, us = u := ⟨_, rfl⟩
  cases rv with
  | cons ra rr =>
    cases rr with
    | cons rb rr =>
      cases rr
      cases ra
      cases rb
      obtain ⟨its, _, p1, la⟩ := itemsB I1 hx
      obtain ⟨its2, _, p2, lb⟩ := itemsB I1 hy
      have new5 : ∀ c, c ∈ [s1.heap.objs.size + 4, s1.heap.objs.size + 2, s1.heap.objs.size + 3, s1.heap.objs.size, s1.heap.objs.size + 1] → FpOk X pins H1 c := fun c hc => by
        have le : s1.heap.objs.size ≤ c := by
          simp only [List.mem_cons, List.not_mem_nil, or_false] at hc
          omega
        exact I1.fpOk le (I1.hok.fresh le)
      refine zip_begins2 (beginsB l a its.toArray) (beginsB r b its2.toArray) p1 p2 fun h' hz hTI hTO g1 g2 hsz hk => wpAny_pyIter_zip hz ?_
      have I2 : Inv X pins σ H1 { s1 with heap := h' } := I1.kept (t' := s1.toks) hk
      have it1 : ItB l h' s1.heap.objs.size a 0 := by
        cases l with
        | true => exact ⟨_, g1, rfl, rfl⟩
        | false => exact ⟨_, g1, rfl, rfl⟩
      have it2 : ItB r h' (s1.heap.objs.size + 1) b 0 := by
        cases r with
        | true => exact ⟨_, g2, rfl, rfl⟩
        | false => exact ⟨_, g2, rfl, rfl⟩
      exact ⟨s1.heap.objs.size + 4, [s1.heap.objs.size + 4, s1.heap.objs.size + 2, s1.heap.objs.size + 3, s1.heap.objs.size, s1.heap.objs.size + 1], _, _, H1, rfl, I2, turn_zipB (sepB la lb) (Nat.ne_of_lt la) (Nat.ne_of_lt (Nat.lt_succ_of_lt lb)), ⟨hz, hTI, ⟨_, _, hTO⟩, it1, it2⟩, new5, q⟩
/-- the sequence's items -/
def sqD : D → Option (Bool × List D)
  | .list xs => some (true, xs)
  | .tuple xs => some (false, xs)
  | _ => none
theorem sqB_of {K : PySem.W.Frag} {J : JT} {m : List Addr} {ih : IH} {H : Hp} {x : D} {v : V} {l : Bool} {xs : List D} (h : WR K J m ih H (.d x) v) (e : sqD x = some (l, xs)) : ∃ a vs, v = .ref a ∧ DRs K (Own J m ih) H xs vs ∧ ∀ {m1 : List Addr} {ih1 : IH} {H1 : Hp}, Sim K J m ih H → Xt m ih H m1 ih1 H1 → SqB l K H1 a vs := by
  unfold sqD at e
  split at e
  · cases e
    obtain ⟨a, vs, rfl, h1, n1, s1⟩ := h.lst'
    exact ⟨a, vs, rfl, s1, fun _ x => .of (x.keep a _ h1 fun z => n1 (.inl z)).1⟩
  · cases e
    obtain ⟨a, vs, rfl, h1, s1⟩ := h.tup'
    exact ⟨a, vs, rfl, s1, fun S x => x.seqT S h1⟩
  · cases e
theorem yl_zipB {K : PySem.W.Frag} {J : JT} {m : List Addr} {ih : IH} {H : Hp} {a b : Addr} {xs ys : List D} {us vs : List V} {l r : Bool} (S : Sim K J m ih H) (h1 : ∀ {m1 : List Addr} {ih1 : IH} {H1 : Hp}, Sim K J m ih H → Xt m ih H m1 ih1 H1 → SqB l K H1 a us) (r1 : DRs K (Own J m ih) H xs us)
    (h2 : ∀ {m1 : List Addr} {ih1 : IH} {H1 : Hp}, Sim K J m ih H → Xt m ih H m1 ih1 H1 → SqB r K H1 b vs) (r2 : DRs K (Own J m ih) H ys vs) : Yl K J m ih H (ItzB l r K a b) (zipD xs ys) where
  go := fun m1 ih1 H1 k x1 hk => by
    rw [zipD_len] at hk
    obtain ⟨v, e⟩ := r1.some (i := k) (by omega)
    obtain ⟨u, e2⟩ := r2.some (i := k) (by omega)
    exact ⟨us, vs, v, u, h1 S x1, h2 S x1, e, e2⟩
  stop := fun m1 ih1 H1 x1 => ⟨us, vs, h1 S x1, h2 S x1, by rw [zipD_len, r1.len, r2.len]⟩
  yld := fun J' m1 ih1 H1 k x H2 hh S1 x1 hk y => by
    obtain ⟨T, v, u, rfl, hT, rfl, q1, q2⟩ := y
    obtain ⟨d1, e1, s1⟩ := r1.nth (q1 us (h1 S x1))
    obtain ⟨d2, e2, s2⟩ := r2.nth (q2 vs (h2 S x1))
    obtain ⟨A, B, C⟩ := yld_pair S1 hT (DR.convX S x1 hh s1) (DR.convX S x1 hh s2)
    exact ⟨A, B, _, zipD_get e1 e2, C⟩
def aIZB (t : AA) : AI := fun env ih Q => t env ih fun ws ih1 => match ws with
  | [.d x, .d y] => optW (sqD x) fun p => optW (sqD y) fun q => Q (zipD p.2 q.2) ih1
  | _ => False
theorem iv_zipB {F : Fam} {pos p tpos : Pos} {e e2 : Expr} {elts : List Expr} {ta : AA} {kk : Nat} (h : AV F [e, e2] ta) (hg : Glb F "zip") (hm : F.mg "zip" = none) (hs : ∀ env, starEach [e, e2] env = (false, eval e env) :: starEach [e2] env := by intro _; rfl)
    (hpl : ∀ env, (backTo pos (starEach [e2] env)).any (·.1) = false := by intro _; rfl) : IV F (.Tuple elts kk tpos) (.Call (.Name "zip" p) [e, e2] [] pos) (aIZB ta) := by
  obtain ⟨t, q, r⟩ := h
  refine ⟨iZipB F.K t, fun X hX => by rw [← F.hK X hX]; exact pi_zipB (Fam.gl hX hg) (by rw [F.hmg X hX]; exact hm) (q X hX) (hs _) (hpl _), fun J jk m ih H env σ Qa R S E h f => ?_⟩
  refine r J jk m ih H env σ _ _ S E h fun m1 ih1 H1 ws vs S1 x1 r1 k1 => ?_
  split at k1
  · obtain ⟨v, u, rfl, ra, rb⟩ := paired2 r1
    obtain ⟨⟨l, xs⟩, ex, k1⟩ := optW_some k1
    obtain ⟨⟨r', ys⟩, ey, k1⟩ := optW_some k1
    obtain ⟨g1, us1, rfl, s1, q1⟩ := sqB_of ra ex
    obtain ⟨g2, us2, rfl, s2, q2⟩ := sqB_of rb ey
    exact ⟨l, r', g1, g2, us1, us2, rfl, q1 S1 Xt.refl, q2 S1 Xt.refl, f m1 ih1 H1 _ _ S1 x1 (yl_zipB S1 q1 s1 q2 s2) k1⟩
  · exact k1.elim
end Pz

end
section
set_option Elab.async false
set_option linter.all false
set_option maxRecDepth 100000
set_option maxHeartbeats 4000000
set_option autoImplicit false
/-! Fw22: a tuple times any whole number; a tuple backwards. -/
namespace HT
open PySem PySem.Spec PyProof.Rows L2
section
variable {prog : Program} {w : World} {A : Around} {E : Value → Shared → Prop} {s : Shared}
theorem places_rev (n : Nat) : Builtin.Slice.sliceAdjust none none (-1) (n : Int) = ((n : Int) - 1, -1) := by
  unfold Builtin.Slice.sliceAdjust
  simp
theorem places_rev2 (n : Nat) : Builtin.Slice.slicePlaces ((n : Int) - 1) (-1) (-1) = n := by
  unfold Builtin.Slice.slicePlaces
  have h1 : ¬ ((-1 : Int) > 0) := by omega
  have e : ((n : Int) - 1 - -1 - 1) / (- -1) = (n : Int) - 1 := by
    rw [show (- -1 : Int) = 1 by decide, Int.ediv_one]
    omega
  simp only [h1, if_false, e]
  split <;> omega
theorem sliceApplied_rev {sl : Addr} {vs : Value} {n : Nat} {Q : Int × Int × Nat → Shared → Prop} (hs : s.heap.IsSliceOf sl .none .none vs) (ps : IsPart vs (some (-1)))
    (h : Q ((n : Int) - 1, -1, n) s) : wpAny (model prog w) A (Builtin.Slice.sliceApplied (.ref sl) (pure (n : Int))) Q E s := by
  obtain ⟨os, hos, hcs, hds⟩ := id hs
  unfold Builtin.Slice.sliceApplied Builtin.Slice.sliceFields
  refine wpAny_bind (wpAny_bind (wpAny_field hos hds (x := .none) rfl (wpAny_bind (wpAny_field hos hds (x := .none) rfl (wpAny_bind (wpAny_field hos hds (x := vs) rfl (wpAny_pure ?_)))))))
  refine wpAny_bind (slicePart_ ps ?_)
  show wpAny _ _ (if ((-1 : Int) == 0) = true then _ else _) _ _ s
  rw [if_neg (by decide)]
  refine wpAny_bind (slicePart_none (wpAny_bind (slicePart_none (wpAny_bind (wpAny_pure ?_)))))
  show wpAny _ _ (match Builtin.Slice.sliceAdjust none none (-1) (n : Int) with | (lo, hi) => pure (lo, (-1 : Int), Builtin.Slice.slicePlaces lo hi (-1))) _ _ s
  rw [places_rev n]
  show wpAny _ _ (pure ((n : Int) - 1, (-1 : Int), Builtin.Slice.slicePlaces ((n : Int) - 1) (-1) (-1))) _ _ s
  rw [places_rev2]
  exact wpAny_pure h
theorem pick_rev (xs : Array Value) : ((List.range xs.size).filterMap fun (m : Nat) => xs[((xs.size : Int) - 1 + (m : Int) * -1).toNat]?).toArray = xs.toList.reverse.toArray := by
  have e : (List.range xs.size).filterMap (fun (m : Nat) => xs[((xs.size : Int) - 1 + (m : Int) * -1).toNat]?) = ((List.range xs.size).map fun m => xs.size - 1 - m).filterMap (xs[·]?) := by
    rw [List.filterMap_map]
    have : ∀ l : List Nat, (∀ m ∈ l, m < xs.size) → l.filterMap (fun (m : Nat) => xs[((xs.size : Int) - 1 + (m : Int) * -1).toNat]?) = l.filterMap ((xs[·]?) ∘ fun m => xs.size - 1 - m) := fun l => by
      induction l with
      | nil => intro _; rfl
      | cons a r ih =>
        intro h
        have ha := h a (List.mem_cons_self ..)
        have q : ((xs.size : Int) - 1 + (a : Int) * -1).toNat = xs.size - 1 - a := by omega
        rw [List.filterMap_cons, List.filterMap_cons, ih fun m hm => h m (List.mem_cons_of_mem _ hm), q]
        rfl
    exact this _ fun m hm => List.mem_range.mp hm
  rw [e, PySem.W.krv_range, List.filterMap_reverse, PySem.W.krv_all]
theorem getItem_tuple_rev {t sl : Addr} {items : Array Value} {vs : Value} {Q : Value → Shared → Prop} (ht : IsTup s.heap t items) (hs : s.heap.IsSliceOf sl .none .none vs) (ps : IsPart vs (some (-1)))
    (h : Q (.ref s.heap.objs.size) { s with heap := s.heap.push { cls := .type "tuple", data := .seq items.toList.reverse.toArray } })
    (hsz : items.size ≤ sizeLine) : wpAny (model prog w) A (getItem (.ref t) (.ref sl)) Q E s := by
  have htake : sizeOk (.seq items.toList.reverse.toArray) := by
    show (items.toList.reverse.toArray).size ≤ sizeLine
    rw [List.size_toArray, List.length_reverse, Array.length_toList]
    exact hsz
  obtain ⟨os, hos, hcs, hds⟩ := id hs
  have hTs : s.TypeIs (.ref sl) "slice" := ⟨os, hos, hcs⟩
  unfold getItem
  try with_reducible refine wpAny_holding ?_
  first | refine wpAny_bind (wpAny_pure ?_) | skip
  refine wpAny_bind (wpAny_sequenceKey ht.typeIs (by decide) ?_)
  refine wpAny_bind (wpAny_callSpecial?_slot (name := Str.ofString "__getitem__") ht.typeIs PyProof.Rows.slot_tuple_getitem
    (wpAny_call_entry PyProof.Rows.slot_tuple_getitem ht.typeIs entry_tuple_getitem ?_ (args_tuple_getitem _ _)))
  show wpAny _ _ (Builtin.Tuple.tupleItemsOf (.ref t) >>= _) _ _ s
  refine wpAny_bind (tupleItemsOf_ ht ?_)
  refine wpAny_bind (wpAny_typeOf hTs ?_)
  rw [if_pos (by decide)]
  refine wpAny_bind (sliceApplied_rev hs ps ?_)
  have hno : ¬ ((((items.size : Int) - 1) == 0 && (-1 : Int) == 1 && items.size == items.size) = true) := by
    simp
  show wpAny _ _ (if (((items.size : Int) - 1) == 0 && (-1 : Int) == 1 && items.size == items.size) = true then _ else _) _ _ s
  rw [if_neg hno, pick_rev]
  first
    | exact wpAny_bind (m := Builtin.Tuple.tupleExact _) (wpAny_newObj_type (wpAny_pure ⟨_, rfl, wpAny_pure h⟩) htake)
    | exact wpAny_bind (m := Builtin.Tuple.tupleExact _) (wpAny_newObj_type (wpAny_bind (wpAny_pure (wpAny_pure ⟨_, rfl, wpAny_pure h⟩))) htake)
    | exact wpAny_bind (wpAny_bind (m := Builtin.Tuple.tupleExact _) (wpAny_newObj_type (wpAny_pure (wpAny_pure ⟨_, rfl, wpAny_pure h⟩)) htake))
    | exact wpAny_bind (wpAny_bind (m := Builtin.Tuple.tupleExact _) (wpAny_newObj_type (wpAny_pure ⟨_, rfl, wpAny_pure h⟩) htake))
end
end HT
namespace L2
open PySem PySem.Spec PyProof.Rows
def tRevT (K : PySem.W.Frag) (te : TE) : TE := fun σ H Q => te σ H fun x H1 => ∃ a xs, x = .ref a ∧ SqT K H1 a xs ∧ ∀ p, H1 p = none → Q (.ref p) (upd H1 p (.tup xs.reverse))
theorem pe_revT {X : Cx} {e : Expr} {te : TE} {k : Nat} {p1 p2 p3 pos : Pos} (he : PE X e te) : PE X (.Subscript e (.Slice none none (some (.UnaryOp .USub (.Constant (.int 1) k p1) p2)) p3) pos) (tRevT X.K te) := by
  refine ⟨fun pins s σ H Q I h => ?_⟩
  refine Subscript_ (thn (he.run pins s σ H _ I h) fun v s1 ⟨x, H1, I1, r1, q1⟩ => ?_)
  obtain ⟨a, xs, ex, hx, q⟩ := q1
  subst ex
  cases r1
  have hst : PO X (some (.UnaryOp .USub (.Constant (.int 1) k p1) p2)) (tPart (tUn (rU fun i => .int (-i)) (tC (.int 1)))) := po_some (pe_un un_neg pe_int)
  refine wpAny_Slice (thn (po_none.run pins s1 σ H1 (fun o H2 => o = none ∧ H2 = H1) I1 ⟨rfl, rfl⟩) fun vl s2 ⟨l, H2, I2, pl, el, e2⟩ => ?_)
  subst el e2
  refine thn (po_none.run pins s2 σ H2 (fun o H3 => o = none ∧ H3 = H2) I2 ⟨rfl, rfl⟩) fun vu s3 ⟨u, H3, I3, pu, eu, e3⟩ => ?_
  subst eu e3
  refine thn (hst.run pins s3 σ H3 (fun o H4 => o = some (-1) ∧ H4 = H3) I3 ⟨1, rfl, -1, rfl, rfl, rfl⟩) fun vs s4 ⟨o, H4, I4, ps, eo, e4⟩ => ?_
  subst eo e4
  cases pl
  cases pu
  have I5 : Inv X pins σ H4 { s4 with heap := s4.heap.push { cls := .type "slice", data := .fields #[.none, .none, vs] } } := I4.kept (t' := s4.toks) fun b ob q => Heap.get?_push_of_some _ q
  obtain ⟨its, r, ht, hz⟩ := I5.tuple hx
  have hlen := r.length
  show wpAny (model X.prog X.w) X.A (subscriptTail e (.Slice none none (some (.UnaryOp .USub (.Constant (.int 1) k p1) p2)) p3) (.ref a) (.ref s4.heap.objs.size)) (EP X pins σ Q) X.xe { s4 with heap := s4.heap.push { cls := .type "slice", data := .fields #[.none, .none, vs] } }
  refine tail_any (ops := [.ref a, .ref s4.heap.objs.size]) ht.typeIs PyProof.Rows.slot_tuple_getitem.lookup ?_ (by with_unfolding_all rfl)
  refine HT.getItem_tuple_rev ht (Heap.IsSliceOf.new _ .none .none vs) ps ?_ (by rw [List.size_toArray]; omega)
  refine ⟨.ref _, _, I5.laid (t' := s4.toks) (o := .tup xs.reverse) (fun b ob q => Heap.get?_push_of_some _ q) (Nat.le_refl _) ?_, rfl, q _ (I5.hok.fresh (Nat.le_refl _))⟩
  exact ⟨by rw [List.length_reverse]; exact hz, _, r.reverse, IsTup.new _ _⟩
end L2
namespace Pz
open PySem PySem.Spec PyProof.Rows L2 LamX
section
variable {F : Fam} {e : Expr} {aa : AE} {p1 p2 p3 pos : Pos}
def aRevT (t : AE) : AE := fun env ih Q => t env ih fun x ih1 => match x with
  | .d (.tuple xs) => Q (.d (.tuple xs.reverse)) ih1
  | _ => False
theorem ev_revT {k : Nat} (h : EV F e aa) : EV F (.Subscript e (.Slice none none (some (.UnaryOp .USub (.Constant (.int 1) k p1) p2)) p3) pos) (aRevT aa) := by
  obtain ⟨t, q, r⟩ := h
  refine ⟨tRevT F.K t, fun X hX => by rw [← F.hK X hX]; exact pe_revT (q X hX), fun J jk m ih H env σ Qa Q S E h f => ?_⟩
  refine r J jk m ih H env σ _ _ S E h fun m1 ih1 H1 w v S1 x1 r1 k1 => ?_
  split at k1
  · rename_i xs
    obtain ⟨a, vs, rfl, hs, hr⟩ := r1.tup'
    exact ⟨a, vs, rfl, hs, fun p hp => (f.step x1).tup S1 hp (drs_rev hr) k1⟩
  · exact k1.elim
end
end Pz

namespace L2
open PySem PySem.Spec PyProof.Rows
theorem tuple_mul1 (l : Addr) (items : Array Value) (n : Nat) (dd : Option Addr) (sl : Array (Option Value)) (u : Tok) :
    Meets (Builtin.«tuple.__mul__» ⟨[.ref l, .int 1 u], []⟩) (fun _ R s => s.heap.get? l = some { cls := .type "tuple", dict := dd, data := .seq items n, slots := sl } ∧
      R (.ok (.ret (.ref l))) s) :=
  .of_wp fun prog w A R s h => by
    obtain ⟨hp, g, d, tk, os⟩ := s
    obtain ⟨hl, h⟩ := h
    have f1 := AutoSeq1.idx_int
    have c0 : (decide ((1 : Int) < -(2 ^ 63)) || decide ((1 : Int) ≥ 2 ^ 63)) = false := by decide
    have c1 : (items.isEmpty || (1 : Int) == 1) = true := by rw [show ((1 : Int) == 1) = true from rfl, Bool.or_true]
    wp_walk using wpAny_loadPart' hl
    repeat (first
      | (refine wpAny_ite_false (decide_eq_false (by rw [c0]; exact Bool.false_ne_true)) ?_; wp_walk using wpAny_loadPart' hl)
      | (refine wpAny_ite_true (decide_eq_true c1) ?_; wp_walk using wpAny_loadPart' hl))
    exact ⟨_, rfl, h⟩
def rRep1 (K : PySem.W.Frag) : R2 := fun x y H Q => ∃ l xs, x = .ref l ∧ y = .int 1 ∧ SqT K H l xs ∧ Q (.ref l) H
theorem op_rep1 {X : Cx} : OpR X (binaryOp .Mult) (rRep1 X.K) := by
  intro pins s σ H x y v u Q I rx ry h
  obtain ⟨l, xs, rfl, rfl, hT, q⟩ := h
  cases rx
  obtain ⟨t, rfl⟩ := ry
  obtain ⟨its, r, ⟨⟨cls, dd, data, sl⟩, ho, hc, n, hd⟩, hs⟩ := I.tuple hT
  simp only at hc hd
  subst hc hd
  exact wpAny_binaryOp_repeat_ref (T := "tuple") (U := "int") (by decide) ⟨_, ho, rfl⟩ (fun s' => typeIs_int s' 1 t) noFill_tuple_mul F.fills_int_mul F.slot_int_rmul repeat_tuple F.slot_int_index.lookup
    (call_meets F.slot_int_rmul (typeIs_int s 1 t) F.entry_int_rmul (F.args_int_rmul_2 _ _) (int_rmul_tuple 1 t l its.toArray n dd sl)
      ⟨ho, rfl, ⟨_, ho, rfl⟩, call_meets F.slot_tuple_mul ⟨_, ho, rfl⟩ F.entry_tuple_mul (F.args_tuple_mul_2 _ _) (tuple_mul1 l its.toArray n dd sl t) ⟨ho, ⟨.ref l, H, I, rfl, q⟩⟩⟩)
end L2
namespace Pz
open PySem PySem.Spec PyProof.Rows L2 LamX
def xMulB : AR2 := fun x y ih Q => match x, y with
  | .d (.int i), .d (.int j) => CMulW i j ∧ Q (.d (.int (i * j))) ih
  | .d (.list xs), .d (.int k) => (-(2 ^ 63) ≤ k ∧ k < 2 ^ 63 ∧ xs.length * k.toNat ≤ sizeLine) ∧ Q (.d (.list (List.replicate k.toNat xs).flatten)) ih
  | .d (.tuple xs), .d (.int k) => (xs ≠ [] ∧ 1 ≤ k ∧ k ≤ 1000 ∧ xs.length ≤ 1000) ∧ Q (.d (.tuple (List.replicate k.toNat xs).flatten)) ih
  | _, _ => False
theorem ov_mulB {F : Fam} : OV F (binaryOp .Mult) xMulB := by
  refine ovK (fun K x y H Q => rI CMulW (fun i j => V.int (i * j)) x y H Q ∨ rRep x y H Q ∨ rRep1 K x y H Q ∨ rRepT K x y H Q) (fun _ _ => op_mulW.or (op_rep.or (op_rep1.or op_repT))) fun J m ih H x y vx vy Qa Q S rx ry hh f => ?_
  unfold xMulB at hh
  split at hh
  · exact .inl ⟨_, _, rx.int', ry.int', hh.1, f.now (w := .d _) S WR.int hh.2⟩
  · obtain ⟨a, vs, rfl, hs, _, hr⟩ := rx.lst'
    obtain ⟨⟨h1, h2, h3⟩, hh⟩ := hh
    exact .inr (.inl ⟨a, _, vs, rfl, ry.int', hs, h1, h2, by rw [hr.len]; exact h3, fun p hp => f.lst S hp (drs_rep hr _) hh⟩)
  · rename_i xs k
    obtain ⟨⟨h1, h2, h3, h4⟩, hh⟩ := hh
    by_cases hk : k = 1
    · subst hk
      have rx' := rx
      obtain ⟨a, vs, rfl, hs, hr⟩ := rx.tup'
      have e : (List.replicate (1 : Int).toNat xs).flatten = xs := by show (List.replicate 1 xs).flatten = xs; simp
      rw [e] at hh
      exact .inr (.inr (.inl ⟨a, vs, rfl, ry.int', hs, f.now (w := .d _) S rx' hh⟩))
    · obtain ⟨a, vs, rfl, hs, hr⟩ := rx.tup'
      refine .inr (.inr (.inr ⟨a, _, vs, rfl, ry.int', hs, fun z => h1 ?_, by omega, h3, by rw [hr.len]; exact h4, fun p hp => f.tup S hp (drs_rep hr _) hh⟩))
      subst z
      exact DRs.nil_left hr
  · exact hh.elim
end Pz

end
section
set_option Elab.async false
set_option linter.all false
set_option maxRecDepth 100000
set_option autoImplicit false
/-! Fw23: the size of data; comprehensions that leave the objects. -/
namespace Pz
open PySem PySem.Spec PyProof.Rows L2 LamX

/-! ### size -/
/-- data with no dict, of at most that depth, that many signs and items, whole numbers that can be shown -/
structure Sz (n B : Nat) (x : D) : Prop where
  nd : x.hasDict = false
  sh : x.showable = true
  lv : x.leavesShort 1921 = true
  dp : x.depth ≤ n
  bk : x.bulk ≤ B
theorem Sz.mono {n m B C : Nat} {x : D} (h : Sz n B x) (a : n ≤ m) (b : B ≤ C) : Sz m C x := ⟨h.nd, h.sh, h.lv, Nat.le_trans h.dp a, Nat.le_trans h.bk b⟩
theorem Sz.int {n B k : Nat} {i : Int} (h : Bd k i) (hk : k < 1920) : Sz n B (.int i) := ⟨rfl, (h.show hk).1, (h.show hk).2, Nat.zero_le _, Nat.zero_le _⟩
theorem Sz.bool {n B : Nat} {b : Bool} : Sz n B (.bool b) := ⟨rfl, rfl, by cases b <;> decide, Nat.zero_le _, Nat.zero_le _⟩
theorem Sz.none {n B : Nat} : Sz n B .none := ⟨rfl, rfl, by decide, Nat.zero_le _, Nat.zero_le _⟩
/-- a text of at most that many signs, each a sign -/
def Sst (B : Nat) (s : Str) : Prop := s.cps.size ≤ B ∧ ∀ c ∈ s.cps.toList, c < 16 ^ 8
instance Sst.dec {B : Nat} {s : Str} : Decidable (Sst B s) := inferInstanceAs (Decidable (_ ∧ _))
theorem Sz.str {n B : Nat} {s : Str} (h : Sst B s) : Sz n B (.str s) := ⟨rfl, rfl, by simp only [PyData.leavesShort, List.all_eq_true, decide_eq_true_eq]; exact h.2, Nat.zero_le _, h.1⟩
def SzA (n b : Nat) (xs : List D) : Prop := PyData.hasDictAll xs = false ∧ PyData.showableAll xs = true ∧ PyData.leavesShortAll 1921 xs = true ∧ PyData.depthAll xs ≤ n ∧ PyData.bulkAll xs ≤ xs.length * (b + 1)
theorem SzA.of {n b : Nat} : ∀ {xs : List D}, (∀ x ∈ xs, Sz n b x) → SzA n b xs
  | [], _ => ⟨rfl, rfl, rfl, Nat.zero_le _, Nat.zero_le _⟩
  | x :: r, h => by
    have h1 := h x (List.mem_cons_self ..)
    have h2 := SzA.of fun y hy => h y (List.mem_cons_of_mem _ hy)
    refine ⟨?_, ?_, ?_, ?_, ?_⟩
    · show (x.hasDict || PyData.hasDictAll r) = false
      rw [h1.nd, h2.1] <;> rfl
    · show (x.showable && PyData.showableAll r) = true
      rw [h1.sh, h2.2.1] <;> rfl
    · show (x.leavesShort 1921 && PyData.leavesShortAll 1921 r) = true
      rw [h1.lv, h2.2.2.1] <;> rfl
    · show max x.depth (PyData.depthAll r) ≤ n
      exact Nat.max_le.mpr ⟨h1.dp, h2.2.2.2.1⟩
    · show x.bulk + 1 + PyData.bulkAll r ≤ (r.length + 1) * (b + 1)
      have := h2.2.2.2.2
      have := h1.bk
      rw [Nat.add_mul]
      omega
theorem SzA.len : ∀ {xs : List D}, xs.length ≤ PyData.bulkAll xs
  | [] => Nat.zero_le _
  | x :: r => by
    show r.length + 1 ≤ x.bulk + 1 + PyData.bulkAll r
    have := SzA.len (xs := r)
    omega
theorem Sz.all {n B : Nat} : ∀ {xs : List D}, PyData.hasDictAll xs = false → PyData.showableAll xs = true → PyData.leavesShortAll 1921 xs = true → PyData.depthAll xs ≤ n → PyData.bulkAll xs ≤ B → ∀ x ∈ xs, Sz n B x
  | [], _, _, _, _, _, x, hx => absurd hx (by simp)
  | y :: r, h1, h2, h3, h4, h5, x, hx => by
    have e1 : (y.hasDict || PyData.hasDictAll r) = false := h1
    have e2 : (y.showable && PyData.showableAll r) = true := h2
    have e3 : (y.leavesShort 1921 && PyData.leavesShortAll 1921 r) = true := h3
    have e4 : max y.depth (PyData.depthAll r) ≤ n := h4
    have e5 : y.bulk + 1 + PyData.bulkAll r ≤ B := h5
    rw [Bool.or_eq_false_iff] at e1
    rw [Bool.and_eq_true] at e2 e3
    have e6 := Nat.max_le.mp e4
    rcases List.mem_cons.mp hx with rfl | hx
    · exact ⟨e1.1, e2.1, e3.1, e6.1, by omega⟩
    · exact Sz.all e1.2 e2.2 e3.2 e6.2 (by omega) x hx
theorem Sz.tuple {n b B : Nat} {xs : List D} (h : ∀ x ∈ xs, Sz n b x) (hl : xs.length * (b + 1) ≤ B) : Sz (n + 1) B (.tuple xs) :=
  let ⟨a, c, d, e, f⟩ := SzA.of h
  ⟨a, c, d, by show PyData.depthAll xs + 1 ≤ n + 1; omega, Nat.le_trans f hl⟩
theorem Sz.list {n b B : Nat} {xs : List D} (h : ∀ x ∈ xs, Sz n b x) (hl : xs.length * (b + 1) ≤ B) : Sz (n + 1) B (.list xs) :=
  let ⟨a, c, d, e, f⟩ := SzA.of h
  ⟨a, c, d, by show PyData.depthAll xs + 1 ≤ n + 1; omega, Nat.le_trans f hl⟩
theorem Sz.tupI {n B : Nat} {xs : List D} (h : Sz n B (.tuple xs)) : xs.length ≤ B ∧ ∀ x ∈ xs, Sz n B x :=
  ⟨Nat.le_trans SzA.len h.bk, Sz.all h.nd h.sh h.lv (by have := h.dp; have e : PyData.depth (.tuple xs) = PyData.depthAll xs + 1 := rfl; omega) h.bk⟩
theorem Sz.lstI {n B : Nat} {xs : List D} (h : Sz n B (.list xs)) : xs.length ≤ B ∧ ∀ x ∈ xs, Sz n B x :=
  ⟨Nat.le_trans SzA.len h.bk, Sz.all h.nd h.sh h.lv (by have := h.dp; have e : PyData.depth (.list xs) = PyData.depthAll xs + 1 := rfl; omega) h.bk⟩
theorem Sz.intI {n B : Nat} {i : Int} (h : Sz n B (.int i)) : i.natAbs.log2 < 1920 := of_decide_eq_true h.sh
theorem Sz.cmul {n m B C : Nat} {i j : Int} (h : Sz n B (.int i)) (g : Sz m C (.int j)) : CMulW i j := by
  unfold CMulW
  have := h.intI
  have := g.intI
  omega
theorem Sz.size {n B : Nat} {x : D} (h : Sz n B x) (hB : B ≤ 8000) : x.shown.length ≤ sizeLine := shown_le h.lv (Nat.le_trans h.bk hB)

/-! ### [.. for .. in .. if ..] that leaves the objects -/
theorem lc_pure {ai : AI} {ga : AG} {tt : AT} {te : AE} {vs : List Nat} {env : En} {ih : IH} {Q : QW} (ds : List D) (g : D → Option D) (hi : ∀ R : List D → IH → Prop, R ds ih → ai env ih R) (hl : ds.length ≤ sizeLine)
    (hb : ∀ d ∈ ds, ∀ (K1 : D → IH → Prop) (K0 : IH → Prop), (∀ x, g d = some x → K1 x ih) → (g d = none → K0 ih) → ga (.d d) (wipeA env vs) ih fun env3 ih3 => tt env3 ih3 fun b ih4 => if b = true then te env3 ih4 fun w ih5 => match w with
      | .d x => K1 x ih5
      | _ => False
    else K0 ih4) (hq : Q (.d (.list (ds.filterMap g))) ih) : aLc ai ga tt te vs env ih Q := by
  refine hi _ ⟨fun i acc ih2 => acc = (ds.take i).filterMap g ∧ ih2 = ih, ⟨rfl, rfl⟩, ?_, hl, ?_⟩
  · rintro i d acc ih2 hd ⟨rfl, rfl⟩ _
    have hm := List.mem_of_getElem? hd
    have et : (ds.take (i + 1)).filterMap g = (ds.take i).filterMap g ++ (g d).toList := by
      rw [List.take_add_one, hd, List.filterMap_append]
      have e2 : ((some d).toList).filterMap g = (g d).toList := by cases e : g d <;> simp [e]
      rw [e2]
    exact hb d hm (fun x ih5 => (ds.take i).filterMap g ++ [x] = (ds.take (i + 1)).filterMap g ∧ ih5 = ih2) (fun ih4 => (ds.take i).filterMap g = (ds.take (i + 1)).filterMap g ∧ ih4 = ih2) (fun x e => ⟨by rw [et, e]; rfl, rfl⟩) fun e => ⟨by rw [et, e]; simp, rfl⟩
  · rintro acc ih2 _ ⟨rfl, rfl⟩
    rw [List.take_length]
    exact hq
theorem filterMap_some' {α β : Type} (f : α → β) : ∀ xs : List α, xs.filterMap (fun x => some (f x)) = xs.map f
  | [] => rfl
  | x :: r => by rw [List.filterMap_cons, List.map_cons, filterMap_some' f r]
/-- .. with no test -/
theorem lc_map {ai : AI} {ga : AG} {te : AE} {vs : List Nat} {env : En} {ih : IH} {Q : QW} (ds : List D) (g : D → D) (hi : ∀ R : List D → IH → Prop, R ds ih → ai env ih R) (hl : ds.length ≤ sizeLine)
    (hb : ∀ d ∈ ds, ∀ (K1 : D → IH → Prop), K1 (g d) ih → ga (.d d) (wipeA env vs) ih fun env3 ih3 => te env3 ih3 fun w ih5 => match w with
      | .d x => K1 x ih5
      | _ => False) (hq : Q (.d (.list (ds.map g))) ih) : aLc ai ga aYes te vs env ih Q := by
  refine lc_pure ds (fun d => some (g d)) hi hl (fun d hd K1 K0 h1 _ => ?_) (by rw [filterMap_some']; exact hq)
  exact hb d hd K1 (h1 _ rfl)
theorem ones_eq (p : D → Bool) : ∀ ds : List D, ds.filterMap (fun d => if p d = true then some (PyData.int 1) else none) = (ds.filter p).map fun _ => .int 1
  | [] => rfl
  | a :: r => by
    rw [List.filterMap_cons, List.filter_cons]
    cases q : p a with
    | true => simp only [if_true, List.map_cons, ones_eq p r]
    | false => simp only [Bool.false_eq_true, if_false, ones_eq p r]
/-- [1 for .. if ..] -/
theorem lc_count {ai : AI} {ga : AG} {tt : AT} {vs : List Nat} {env : En} {ih : IH} {Q : QW} (ds : List D) (p : D → Bool) (hi : ∀ R : List D → IH → Prop, R ds ih → ai env ih R) (hl : ds.length ≤ sizeLine)
    (hb : ∀ d ∈ ds, ∀ (K : Bool → IH → Prop), K (p d) ih → ga (.d d) (wipeA env vs) ih fun env3 ih3 => tt env3 ih3 K) (hq : Q (.d (.list ((ds.filter p).map fun _ => .int 1))) ih) : aLc ai ga tt (aC (.int 1)) vs env ih Q := by
  refine lc_pure ds (fun d => if p d = true then some (.int 1) else none) hi hl (fun d hd K1 K0 h1 h0 => ?_) ?_
  · refine hb d hd (fun b ih4 => if b = true then K1 (.int 1) ih4 else K0 ih4) ?_
    cases e : p d with
    | true => exact h1 _ (if_pos e)
    | false =>
      rw [if_neg Bool.false_ne_true]
      exact h0 (if_neg (by rw [e]; exact Bool.false_ne_true))
  · rw [ones_eq]
    exact hq
end Pz

end
section
set_option Elab.async false
set_option linter.all false
set_option maxRecDepth 100000
set_option autoImplicit false
/-! Fw24: a comprehension whose list will be changed. -/
namespace Pz
open PySem PySem.Spec L2 LamX
section
variable {K : PySem.W.Frag} {J : JT} {m m' m1 : List Addr} {ih ih' ih1 : IH} {H H' H1 : Hp} {D : Addr}
theorem Xt.notin (x : Xt m ih H m' ih' H') (h : H D ≠ none) (n : D ∉ m) : D ∉ m' := fun z => by
  obtain ⟨t, rfl, ft⟩ := x.pre
  exact (List.mem_append.mp z).elim n fun y => h (ft D y)
theorem Sim.adopt {acc : List Pz.D} {vs : List V} (S1 : Sim K J m1 ih1 H1) (hD : H1 D = none) (S : Sim K (jIn J m1 ih1 H1 D) m ih H) (x : Xt m1 ih1 H1 m ih H) (hl : H D = some (.lst vs)) (r : DRs K (Own (jIn J m1 ih1 H1 D) m ih) H acc vs) (n : D ∉ m) :
    Sim K J (m ++ [D]) (ih ++ [.lst (acc.map W.d)]) H ∧ Xt m1 ih1 H1 (m ++ [D]) (ih ++ [.lst (acc.map W.d)]) H ∧ WR K J (m ++ [D]) (ih ++ [.lst (acc.map W.d)]) H (.ref ih.length) (.ref D) := by
  have sub : ∀ a, Own J (m ++ [D]) (ih ++ [.lst (acc.map W.d)]) a → Own (jIn J m1 ih1 H1 D) m ih a := fun a z => z.elim (fun l => (live_add S.len l).elim .inl fun e => .inr (by rw [e]; show D ∈ D :: J.hid; simp)) fun y => .inr (jIn_sub a y)
  have wr : ∀ {w : W} {v : V}, WR K (jIn J m1 ih1 H1 D) m ih H w v → WR K J (m ++ [D]) (ih ++ [.lst (acc.map W.d)]) H w v := fun {w v} r => by
    cases w with
    | d y => exact DR.less (L := Own (jIn J m1 ih1 H1 D) m ih) sub r
    | ref k =>
      obtain ⟨a, e, e2⟩ := r
      exact ⟨a, by rw [List.getElem?_append_left (List.getElem?_eq_some_iff.mp e).1]; exact e, e2⟩
    | fn k cs => exact r
    | scr ns =>
      obtain ⟨a, e, q⟩ := r
      exact ⟨a, e, q.elim (fun z => .inl ⟨z.1, fun y => z.2 (sub a y)⟩) .inr⟩
  have x9 : Xt m1 ih1 H1 (m ++ [D]) (ih ++ [.lst (acc.map W.d)]) H := by
    refine ⟨?_, fun a o e nl => ⟨(x.keep a o e nl).1, fun l => (live_add S.len l).elim (x.keep a o e nl).2 fun z => by rw [z, hD] at e; cases e⟩, x.there⟩
    obtain ⟨t, e, ft⟩ := x.pre
    exact ⟨t ++ [D], by rw [e, List.append_assoc], fun a h => (List.mem_append.mp h).elim (ft a) fun z => by rw [List.mem_singleton.mp z]; exact hD⟩
  refine ⟨⟨J.cl _ _ _ _ _ _ S1.j x9, by rw [List.length_append, List.length_append, S.len]; rfl, ?_, fun a h => ?_, S1.hd_mono x9, fun i a v e1 e2 => ?_⟩, x9, ref_last S.back⟩
  · refine List.nodup_append.mpr ⟨S.nd, by simp, fun a ha b hb => ?_⟩
    have e : b = D := by simpa using hb
    subst e
    intro z
    subst z
    exact n ha
  · rcases List.mem_append.mp h with h | h
    · exact S.th a h
    · have e : a = D := by simpa using h
      subst e
      rw [hl]
      intro z
      cases z
  · by_cases hi : i < m.length
    · rw [List.getElem?_append_left hi] at e1
      rw [List.getElem?_append_left (by rw [← S.len]; exact hi)] at e2
      have q := S.ob i a v e1 e2
      cases v with
      | dead => exact True.intro
      | lst ws =>
        obtain ⟨vs, e, r⟩ := q
        exact ⟨vs, e, Paired.mapR r fun _ _ z => ⟨z.1, wr z.2⟩⟩
      | dic ws =>
        obtain ⟨vs, e, r⟩ := q
        exact ⟨vs, e, Paired.mapR r fun _ _ z => ⟨z.1, z.2.1, wr z.2.2⟩⟩
      | tab q' =>
        obtain ⟨ps, e, ht, hc⟩ := q
        refine ⟨ps, e, ht, fun pos cv z => ?_⟩
        obtain ⟨c, e1, e2, nn⟩ := hc pos cv z
        exact ⟨c, e1, e2, fun l => nn (sub c l)⟩
    · rw [List.getElem?_append_right (by omega)] at e1
      rw [List.getElem?_append_right (by rw [← S.len]; omega)] at e2
      have h0 : i - m.length = 0 := by
        have := (List.getElem?_eq_some_iff.mp e1).1
        simp at this
        omega
      rw [h0] at e1
      rw [← S.len, h0] at e2
      have e3 : D = a := Option.some.inj e1
      have e4 : Ob.lst (acc.map W.d) = v := Option.some.inj e2
      subst e3 e4
      refine ⟨vs, hl, ?_⟩
      have go : ∀ {acc0 : List Pz.D} {vs0 : List V}, DRs K (Own (jIn J m1 ih1 H1 D) m ih) H acc0 vs0 → Paired (WO K J (m ++ [D]) (ih ++ [.lst (acc.map W.d)]) H) (acc0.map W.d) vs0 := fun {acc0} => by
        induction acc0 with
        | nil => intro vs0 h; unfold DRs at h; subst h; exact .nil
        | cons y r ihh =>
          intro vs0 h
          unfold DRs at h
          obtain ⟨v, r2, rfl, h1, h2⟩ := h
          exact .cons ⟨rfl, wr (w := .d y) h1⟩ (ihh h2)
      exact go r
end
/-- [elt for tg in iter if ..], a list that will be changed -/
def aLcM (ai : AI) (ga : AG) (tt : AT) (te : AE) (vs : List Nat) : AE := fun env ih Q => ai env ih fun ds ih1 => ∃ Iv : Nat → List D → IH → Prop, Iv 0 [] ih1 ∧
  (∀ i d acc ih2, ds[i]? = some d → Iv i acc ih2 → acc.length ≤ i → ga (.d d) (wipeA env vs) ih2 fun env3 ih3 => tt env3 ih3 fun b ih4 =>
    if b = true then te env3 ih4 fun w ih5 => match w with
      | .d x => Iv (i + 1) (acc ++ [x]) ih5
      | _ => False
    else Iv (i + 1) acc ih4) ∧ ds.length ≤ sizeLine ∧ ∀ acc ih2, acc.length ≤ ds.length → Iv ds.length acc ih2 → Q (.ref ih2.length) (ih2 ++ [.lst (acc.map W.d)])
section
variable {F : Fam} {pos : Pos} {elt tg iter : Expr} {ifs : List Expr} {scope : Scope} {own : List (Str × Nat)} {ai : AI} {ga : AG} {tt : AT} {te : AE}
/-- the reading of a comprehension -/
theorem re_lcM {wi : TI} {g : TG} {t : TT} {u : TE} {vs : List Nat} (hi : RI F wi ai) (hg : RG (F.blk scope) g ga) (hog : OnlyG vs g) (ht : RT (F.blk scope) t tt) (he : RE (F.blk scope) u te) : RE F (tLc wi g t u vs) (aLcM ai ga tt te vs) := fun J jk m ih H env σ Qa Q S E h f => by
  refine hi J jk m ih H env σ _ _ S E h fun m1 ih1 H1 T ds S1 x1 Y k1 => ?_
  obtain ⟨Iv, i0, turn, hz, done⟩ := k1
  intro D hD
  have E1 := E.mono S x1
  have jk' : (F.blk scope).jk (jIn J m1 ih1 H1 D) := F.jkc J _ jk (jIn_le hD S1.j)
  let St' : Nat → Hp → Prop := fun i H' => ∃ m' ih' acc accV, Sim F.K (jIn J m1 ih1 H1 D) m' ih' H' ∧ Xt m1 ih1 H1 m' ih' H' ∧ H' D = some (.lst accV) ∧ DRs F.K (Own (jIn J m1 ih1 H1 D) m' ih') H' acc accV ∧ Iv i acc ih' ∧ acc.length ≤ i ∧ D ∉ m'
  refine ⟨fun i k H' => k = ds.length - i ∧ i ≤ ds.length ∧ St' i H', ⟨ds.length, by simp, Nat.zero_le _, m1, ih1, [], [], S1.hide hD _, Xt.new S1 hD, upd_same, DRs.nil, i0, Nat.zero_le _, fun z => S1.th D z hD⟩, ?_⟩
  rintro i k H2 ⟨rfl, hi2, m2, ih2, acc, accV, S2, x2, d2, r2, v2, l2, n2⟩
  by_cases hlt : i < ds.length
  · refine .inr ⟨Y.go m2 ih2 H2 i x2 hlt, fun H' => i + 1 ≤ ds.length ∧ St' (i + 1) H', fun H' w => ⟨ds.length - (i + 1), by omega, rfl, w.1, w.2⟩, fun x H3 y => ?_⟩
    obtain ⟨S3, x3, d, ed, rd⟩ := Y.yld (jIn J m1 ih1 H1 D) m2 ih2 H2 i x H3 (jIn_ok hD) S2 x2 hlt y
    have x13 := x2.trans x3
    have E3 : EnvR F.K (jIn J m1 ih1 H1 D) m2 ih2 H3 (wipeA env vs) (L2.wipe σ vs) := EnvR.wipe (E1.convX S1 x13 (jIn_ok hD)) vs
    have hgo : g x (L2.wipe σ vs) H3 fun σ4 H4 => t σ4 H4 fun b H5 => if b = true then u σ4 H5 fun y H6 => ∃ acc, H6 D = some (.lst acc) ∧ acc.length < sizeLine ∧ (fun H' => i + 1 ≤ ds.length ∧ St' (i + 1) H') (upd H6 D (.lst (acc ++ [y]))) else (fun H' => i + 1 ≤ ds.length ∧ St' (i + 1) H') H5 := by
      refine hg _ jk' m2 ih2 H3 _ _ (.d d) x _ _ S3 E3 rd (turn i d acc ih2 ed v2 l2) fun m4 ih4 H4 env4 σ4 S4 x4 E4 k4 => ?_
      refine ht _ jk' m4 ih4 H4 env4 σ4 _ _ S4 E4 k4 fun m5 ih5 H5 b S5 x5 k5 => ?_
      have x15 := (x13.trans x4).trans x5
      have xd := (x3.trans x4).trans x5
      have nl := (S2.hd D (by show D ∈ D :: J.hid; simp)).2
      cases b with
      | true =>
        rw [if_pos rfl] at k5 ⊢
        refine he _ jk' m5 ih5 H5 env4 σ4 _ _ S5 (E4.mono S4 x5) k5 fun m6 ih6 H6 w v S6 x6 r6 k6 => ?_
        have xd6 := xd.trans x6
        have e6 := (xd6.keep D _ d2 nl).1
        split at k6
        · rename_i y
          have acl : accV.length < sizeLine := by rw [r2.len]; omega
          refine ⟨accV, e6, acl, hlt, m6, ih6, acc ++ [y], accV ++ [v], ?_⟩
          have x16 : Xt m1 ih1 H1 m6 ih6 (upd H6 D (.lst (accV ++ [v]))) := by
            have q := x15.trans x6
            exact ⟨q.pre, fun a o e n => ⟨by rw [upd_ne (ne_of_none e hD)]; exact (q.keep a o e n).1, (q.keep a o e n).2⟩, fun a e => by
              by_cases ha : a = D
              · rw [ha]; exact hD
              · rw [upd_ne ha] at e; exact q.there a e⟩
          obtain ⟨S7, dr⟩ := S6.grow (D := D) (o := .lst (accV ++ [v])) (by show D ∈ D :: J.hid; simp) (fun xs q => by rcases q with q | ⟨ob, q⟩ <;> (rw [e6] at q; cases q)) ⟨x16, J.cl _ _ _ _ _ _ S1.j x16⟩
          refine ⟨S7, x16, upd_same, DRs.app ?_ (DRs.cons (dr _ _ r6) DRs.nil), k6, by rw [List.length_append]; simp; omega, xd6.notin (by rw [d2]; intro z; cases z) n2⟩
          have ra := DRs.mono S2 xd6 acc accV r2
          exact drs_each ra dr
        · exact k6.elim
      | false =>
        rw [if_neg Bool.false_ne_true] at k5 ⊢
        exact ⟨hlt, m5, ih5, acc, accV, S5, x15, (xd.keep D _ d2 nl).1, DRs.mono S2 xd acc accV r2, k5, by omega, xd.notin (by rw [d2]; intro z; cases z) n2⟩
    exact hog x _ H3 _ _ hgo fun σ4 H4 e4 q4 => ⟨by rw [e4, wipe_wipe], q4⟩
  · have e1 : i = ds.length := by omega
    subst e1
    obtain ⟨S9, x9, r9⟩ := Sim.adopt S1 hD S2 x2 d2 r2 n2
    exact .inl ⟨Y.stop m2 ih2 H2 x2, f _ _ _ (.ref ih2.length) _ S9 (x1.trans x9) r9 (done acc ih2 l2 v2)⟩
end
section
variable {F : Fam} {pos spos p pt : Pos} {elt tg iter e e2 o i : Expr} {es elts : List Expr} {ifs : List Expr} {scope : Scope} {own : List (Str × Nat)} {ai : AI} {ga : AG} {tt : AT} {te aa ab ac : AE} {ta : AA}
theorem ev_lcM (own : List (Str × Nat)) (hi : IV F tg iter ai) (ok : blkC F.N F.sc scope own = true) (hg : GW (F.blk scope) (own.map (·.2)) tg ga) (ht : TVs (F.blk scope) ifs tt) (he : EV (F.blk scope) elt te)
    (hs : ∀ env x, foldedSetIterable iter env x = pure x := by intro _ _; rfl) : EV F (.ListComp elt [⟨tg, iter, ifs, 0⟩] scope pos) (aLcM ai ga tt te (own.map (·.2))) := by
  obtain ⟨wi, p1, q1⟩ := hi
  obtain ⟨g, p2, q2, og⟩ := hg
  obtain ⟨t, p3, q3⟩ := ht
  obtain ⟨u, p4, q4⟩ := he
  refine ⟨tLc wi g t u (own.map (·.2)), fun X hX => ?_, re_lcM q1 q2 og q3 q4⟩
  exact pe_lc (F.calm X hX) (by rw [F.hN X hX]; exact F.nd) (p1 X hX) (blkOk_by (by rw [F.hN X hX, F.hsc X hX]; exact ok)) (fun s H C cl fp => p2 _ ⟨X, s, H, C, cl, fp, hX, rfl⟩) (fun s H C cl fp => p3 _ ⟨X, s, H, C, cl, fp, hX, rfl⟩) (fun s H C cl fp => p4 _ ⟨X, s, H, C, cl, fp, hX, rfl⟩) (hs _)
/-- x = [..] on one line -/
theorem sv_setLcM (j : Nat) (own : List (Str × Nat)) {y : Str} {py : Pos} (hi : IV F tg iter ai) (ok : blkC F.N F.sc scope own = true) (hg : GW (F.blk scope) (own.map (·.2)) tg ga) (ht : TVs (F.blk scope) ifs tt) (he : EV (F.blk scope) elt te)
    (hsw : ∀ env, env.scope = F.sc → swapsWith (.ListComp elt [⟨tg, iter, ifs, 0⟩] scope pos) (some (.Name y py)) spos.line env = pure true) (hj : F.N[j]? = some y := by rfl) (hy : F.sc.names.lookup y = some .local := by rfl)
    (hs : ∀ env x, foldedSetIterable iter env x = pure x := by intro _ _; rfl) : SV F (.Assign [.Name y py] (.ListComp elt [⟨tg, iter, ifs, 0⟩] scope pos) spos) (aAsg (aLcM ai ga tt te (own.map (·.2))) (aGN j)) := by
  obtain ⟨wi, p1, q1⟩ := hi
  obtain ⟨g, p2, q2, og⟩ := hg
  obtain ⟨t, p3, q3⟩ := ht
  obtain ⟨u, p4, q4⟩ := he
  refine ⟨tAsg (tLc wi g t u (own.map (·.2))) (gName j), fun X hX => ?_, fun J jk m ih H env σ Da D S E h f => ?_⟩
  · exact ps_setLc (F.calm X hX) (by rw [F.hN X hX]; exact F.nd) (by rw [F.hN X hX]; exact hj) (by rw [F.hsc X hX]; exact hy) (hsw _ (F.hsc X hX)) (p1 X hX) (blkOk_by (by rw [F.hN X hX, F.hsc X hX]; exact ok)) (fun s H C cl fp => p2 _ ⟨X, s, H, C, cl, fp, hX, rfl⟩) (fun s H C cl fp => p3 _ ⟨X, s, H, C, cl, fp, hX, rfl⟩) (fun s H C cl fp => p4 _ ⟨X, s, H, C, cl, fp, hX, rfl⟩) (hs _)
  · refine re_lcM q1 q2 og q3 q4 J jk m ih H env σ _ _ S E h fun m1 ih1 H1 w v S1 x1 r1 k1 => ?_
    exact f.nx m1 ih1 H1 _ _ S1 x1 ((E.mono S x1).set r1) k1

end
end Pz

end
section
set_option Elab.async false
set_option linter.all false
set_option maxRecDepth 100000
set_option autoImplicit false
/-! Fw25: iteration over a list that may be changed, and isn't meanwhile. -/
namespace Pz
open PySem PySem.Spec PyProof.Rows L2 LamX
structure YlG (K : PySem.W.Frag) (J : JT) (m : List Addr) (ih : IH) (H : Hp) (T : It) (ds : List D) (G : IH → Prop) : Prop where
  go : ∀ J' m1 ih1 H1 i, HidOk J J' H → Sim K J' m1 ih1 H1 → Xt m ih H m1 ih1 H1 → G ih1 → i < ds.length → T.go i H1
  stop : ∀ J' m1 ih1 H1, HidOk J J' H → Sim K J' m1 ih1 H1 → Xt m ih H m1 ih1 H1 → G ih1 → T.stop ds.length H1
  yld : ∀ J' m1 ih1 H1 i x H2, HidOk J J' H → Sim K J' m1 ih1 H1 → Xt m ih H m1 ih1 H1 → G ih1 → i < ds.length → T.yld i H1 x H2 → Sim K J' m1 ih1 H2 ∧ Xt m1 ih1 H1 m1 ih1 H2 ∧ ∃ d, ds[i]? = some d ∧ WR K J' m1 ih1 H2 (.d d) x
abbrev AIG := En → IH → (List D → (IH → Prop) → IH → Prop) → Prop
def RIG (F : Fam) (wi : TI) (ai : AIG) : Prop := ∀ J, F.jk J → ∀ m ih H env σ Qa (R : It → Hp → Prop), Sim F.K J m ih H → EnvR F.K J m ih H env σ → ai env ih Qa →
  (∀ m1 ih1 H1 T ds G, Sim F.K J m1 ih1 H1 → Xt m ih H m1 ih1 H1 → YlG F.K J m1 ih1 H1 T ds G → Qa ds G ih1 → R T H1) → wi σ H R
def IVG (F : Fam) (tg iter : Expr) (ai : AIG) : Prop := ∃ wi, (∀ X, F.ok X → PI X tg iter wi) ∧ RIG F wi ai
/-- a sequence that stands while G holds -/
def SrcG (K : PySem.W.Frag) (J : JT) (m : List Addr) (ih : IH) (H : Hp) (l : Bool) (a : Addr) (xs : List D) (G : IH → Prop) : Prop :=
  ∀ J' m1 ih1 H1, HidOk J J' H → Sim K J' m1 ih1 H1 → Xt m ih H m1 ih1 H1 → G ih1 → ∃ vs, SqB l K H1 a vs ∧ DRs K (Own J' m1 ih1) H1 xs vs
def seqG (w : W) (ih : IH) : Option (Bool × List D × (IH → Prop)) := match w with
  | .d (.list xs) => some (true, xs, fun _ => True)
  | .d (.tuple xs) => some (false, xs, fun _ => True)
  | .ref n => match ih[n]? with
    | some (.lst ws) => (allD ws).map fun xs => (true, xs, fun ih2 => ih2[n]? = some (.lst ws))
    | _ => none
  | _ => none
section
variable {K : PySem.W.Frag} {J : JT} {m : List Addr} {ih : IH} {H : Hp}
theorem drs_conv {L L' : Addr → Prop} {H' : Hp} (f : ∀ (d : D) (v : V), DR K L H d v → DR K L' H' d v) : ∀ {ds : List D} {vs : List V}, DRs K L H ds vs → DRs K L' H' ds vs
  | [], vs, h => by unfold DRs at h ⊢; exact h
  | d :: ds, vs, h => by
    unfold DRs at h ⊢
    obtain ⟨v, r, rfl, h1, h2⟩ := h
    exact ⟨v, r, rfl, f d v h1, drs_conv f h2⟩
theorem drs_paired {J' : JT} {m1 : List Addr} {ih1 : IH} {H1 : Hp} : ∀ {xs : List D} {vs : List V}, Paired (WO K J' m1 ih1 H1) (xs.map W.d) vs → DRs K (Own J' m1 ih1) H1 xs vs
  | [], _, .nil => DRs.nil
  | x :: xs, _, .cons r t => DRs.cons r.2 (drs_paired t)
theorem src_of {w : W} {v : V} {l : Bool} {xs : List D} {G : IH → Prop} (S : Sim K J m ih H) (r : WR K J m ih H w v) (e : seqG w ih = some (l, xs, G)) : ∃ a, v = .ref a ∧ SrcG K J m ih H l a xs G ∧ G ih := by
  unfold seqG at e
  split at e
  · cases e
    obtain ⟨a, vs, rfl, h1, n1, s1⟩ := r.lst'
    exact ⟨a, rfl, fun J' m1 ih1 H1 hh S1 x _ => ⟨vs, SqL.of (x.keep a _ h1 fun z => n1 (.inl z)).1, drs_conv (fun d v q => DR.convX S x hh q) s1⟩, True.intro⟩
  · cases e
    obtain ⟨a, vs, rfl, h1, s1⟩ := r.tup'
    exact ⟨a, rfl, fun J' m1 ih1 H1 hh S1 x _ => ⟨vs, x.seqT S h1, drs_conv (fun d v q => DR.convX S x hh q) s1⟩, True.intro⟩
  · rename_i n
    split at e
    · rename_i ws e1
      cases q : allD ws with
      | none => rw [q] at e; cases e
      | some ys =>
        rw [q] at e
        cases e
        obtain ⟨a, e2, rfl⟩ := r
        refine ⟨a, rfl, fun J' m1 ih1 H1 hh S1 x g => ?_, e1⟩
        obtain ⟨t, rfl, _⟩ := x.pre
        have e3 : (m ++ t)[n]? = some a := by rw [List.getElem?_append_left (List.getElem?_eq_some_iff.mp e2).1]; exact e2
        obtain ⟨vs, h1, p⟩ := S1.ob n a _ e3 g
        rw [allD_eq q] at p
        exact ⟨vs, SqL.of h1, drs_paired p⟩
    · cases e
  · cases e
theorem ylg_zip {a b : Addr} {l r : Bool} {xs ys : List D} {G1 G2 : IH → Prop} (h1 : SrcG K J m ih H l a xs G1) (h2 : SrcG K J m ih H r b ys G2) : YlG K J m ih H (ItzB l r K a b) (zipD xs ys) (fun i => G1 i ∧ G2 i) where
  go := fun J' m1 ih1 H1 k hh S1 x1 g hk => by
    rw [zipD_len] at hk
    obtain ⟨us, s1, r1⟩ := h1 J' m1 ih1 H1 hh S1 x1 g.1
    obtain ⟨vs, s2, r2⟩ := h2 J' m1 ih1 H1 hh S1 x1 g.2
    obtain ⟨v, e⟩ := r1.some (i := k) (by omega)
    obtain ⟨u, e2⟩ := r2.some (i := k) (by omega)
    exact ⟨us, vs, v, u, s1, s2, e, e2⟩
  stop := fun J' m1 ih1 H1 hh S1 x1 g => by
    obtain ⟨us, s1, r1⟩ := h1 J' m1 ih1 H1 hh S1 x1 g.1
    obtain ⟨vs, s2, r2⟩ := h2 J' m1 ih1 H1 hh S1 x1 g.2
    exact ⟨us, vs, s1, s2, by rw [zipD_len, r1.len, r2.len]⟩
  yld := fun J' m1 ih1 H1 k x H2 hh S1 x1 g hk y => by
    obtain ⟨us, s1, r1⟩ := h1 J' m1 ih1 H1 hh S1 x1 g.1
    obtain ⟨vs, s2, r2⟩ := h2 J' m1 ih1 H1 hh S1 x1 g.2
    obtain ⟨T, v, u, rfl, hT, rfl, q1, q2⟩ := y
    obtain ⟨d1, e1, t1⟩ := r1.nth (q1 us s1)
    obtain ⟨d2, e2, t2⟩ := r2.nth (q2 vs s2)
    obtain ⟨A, B, C⟩ := yld_pair S1 hT t1 t2
    exact ⟨A, B, _, zipD_get e1 e2, C⟩
theorem ylg_list {a : Addr} {xs : List D} {G : IH → Prop} (h : SrcG K J m ih H true a xs G) : YlG K J m ih H (Itl K a) xs G where
  go := fun J' m1 ih1 H1 i hh S1 x1 g hi => by
    obtain ⟨vs, s1, r1⟩ := h J' m1 ih1 H1 hh S1 x1 g
    obtain ⟨v, e⟩ := r1.some hi
    exact ⟨vs, v, s1, e⟩
  stop := fun J' m1 ih1 H1 hh S1 x1 g => by
    obtain ⟨vs, s1, r1⟩ := h J' m1 ih1 H1 hh S1 x1 g
    exact ⟨vs, s1, by rw [r1.len]; exact Nat.le_refl _⟩
  yld := fun J' m1 ih1 H1 i x H2 hh S1 x1 g hi y => by
    obtain ⟨vs, s1, r1⟩ := h J' m1 ih1 H1 hh S1 x1 g
    obtain ⟨eH, q⟩ := y
    obtain ⟨d, e, r⟩ := r1.nth (q vs s1)
    rw [eH]
    exact ⟨S1, Xt.refl, d, e, r⟩
end
/-- zip of two -/
def aIZG (t : AA) : AIG := fun env ih Q => t env ih fun ws ih1 => match ws with
  | [x, y] => optW (seqG x ih1) fun p => optW (seqG y ih1) fun q => Q (zipD p.2.1 q.2.1) (fun i => p.2.2 i ∧ q.2.2 i) ih1
  | _ => False
theorem iv_zipG {F : Fam} {pos p tpos : Pos} {e e2 : Expr} {elts : List Expr} {ta : AA} {kk : Nat} (h : AV F [e, e2] ta) (hg : Glb F "zip") (hm : F.mg "zip" = none) (hs : ∀ env, starEach [e, e2] env = (false, eval e env) :: starEach [e2] env := by intro _; rfl)
    (hpl : ∀ env, (backTo pos (starEach [e2] env)).any (·.1) = false := by intro _; rfl) : IVG F (.Tuple elts kk tpos) (.Call (.Name "zip" p) [e, e2] [] pos) (aIZG ta) := by
  obtain ⟨t, q, r⟩ := h
  refine ⟨iZipB F.K t, fun X hX => by rw [← F.hK X hX]; exact pi_zipB (Fam.gl hX hg) (by rw [F.hmg X hX]; exact hm) (q X hX) (hs _) (hpl _), fun J jk m ih H env σ Qa R S E h f => ?_⟩
  refine r J jk m ih H env σ _ _ S E h fun m1 ih1 H1 ws vs S1 x1 r1 k1 => ?_
  split at k1
  · obtain ⟨v, u, rfl, ra, rb⟩ := paired2 r1
    obtain ⟨⟨l, xs, G1⟩, ex, k1⟩ := optW_some k1
    obtain ⟨⟨r', ys, G2⟩, ey, k1⟩ := optW_some k1
    obtain ⟨g1, rfl, q1, a1⟩ := src_of S1 ra ex
    obtain ⟨g2, rfl, q2, a2⟩ := src_of S1 rb ey
    obtain ⟨us1, s1, _⟩ := q1 J m1 ih1 H1 HidOk.refl S1 Xt.refl a1
    obtain ⟨us2, s2, _⟩ := q2 J m1 ih1 H1 HidOk.refl S1 Xt.refl a2
    exact ⟨l, r', g1, g2, us1, us2, rfl, s1, s2, f m1 ih1 H1 _ _ _ S1 x1 (ylg_zip q1 q2) k1⟩
  · exact k1.elim
/-- a list -/
def aILG (t : AE) : AIG := fun env ih Q => t env ih fun w ih1 => optW (seqG w ih1) fun p => p.1 = true ∧ Q p.2.1 p.2.2 ih1
theorem iv_listG {F : Fam} {tg e : Expr} {aa : AE} (h : EV F e aa) : IVG F tg e (aILG aa) := by
  obtain ⟨t, p, q⟩ := h
  refine ⟨iList F.K t, fun X hX => by rw [← F.hK X hX]; exact pi_list (p X hX), fun J jk m ih H env σ Qa R S E h f => ?_⟩
  refine q J jk m ih H env σ _ _ S E h fun m1 ih1 H1 w v S1 x1 r1 k1 => ?_
  obtain ⟨⟨l, xs, G⟩, ex, k1⟩ := optW_some k1
  obtain ⟨el, k1⟩ := k1
  have el : l = true := el
  subst el
  obtain ⟨a, rfl, q1, a1⟩ := src_of S1 r1 ex
  obtain ⟨us, s1, _⟩ := q1 J m1 ih1 H1 HidOk.refl S1 Xt.refl a1
  exact ⟨a, rfl, ⟨us, s1⟩, f m1 ih1 H1 _ _ _ S1 x1 (ylg_list q1) k1⟩
/-- [elt for tg in iter if ..] -/
def aLcG (ai : AIG) (ga : AG) (tt : AT) (te : AE) (vs : List Nat) : AE := fun env ih Q => ai env ih fun ds G ih1 => ∃ Iv : Nat → List D → IH → Prop, Iv 0 [] ih1 ∧ (∀ i acc ih2, Iv i acc ih2 → G ih2) ∧
  (∀ i d acc ih2, ds[i]? = some d → Iv i acc ih2 → acc.length ≤ i → ga (.d d) (wipeA env vs) ih2 fun env3 ih3 => tt env3 ih3 fun b ih4 =>
    if b = true then te env3 ih4 fun w ih5 => match w with
      | .d x => Iv (i + 1) (acc ++ [x]) ih5
      | _ => False
    else Iv (i + 1) acc ih4) ∧ ds.length ≤ sizeLine ∧ ∀ acc ih2, acc.length ≤ ds.length → Iv ds.length acc ih2 → Q (.d (.list acc)) ih2
section
variable {F : Fam} {pos : Pos} {elt tg iter : Expr} {ifs : List Expr} {scope : Scope} {own : List (Str × Nat)} {ai : AIG} {ga : AG} {tt : AT} {te : AE}
/-- the reading of a comprehension -/
theorem re_lcG {wi : TI} {g : TG} {t : TT} {u : TE} {vs : List Nat} (hi : RIG F wi ai) (hg : RG (F.blk scope) g ga) (hog : OnlyG vs g) (ht : RT (F.blk scope) t tt) (he : RE (F.blk scope) u te) : RE F (tLc wi g t u vs) (aLcG ai ga tt te vs) := fun J jk m ih H env σ Qa Q S E h f => by
  refine hi J jk m ih H env σ _ _ S E h fun m1 ih1 H1 T ds G S1 x1 Y k1 => ?_
  obtain ⟨Iv, i0, grd, turn, hz, done⟩ := k1
  intro D hD
  have E1 := E.mono S x1
  have jk' : (F.blk scope).jk (jIn J m1 ih1 H1 D) := F.jkc J _ jk (jIn_le hD S1.j)
  let St' : Nat → Hp → Prop := fun i H' => ∃ m' ih' acc accV, Sim F.K (jIn J m1 ih1 H1 D) m' ih' H' ∧ Xt m1 ih1 H1 m' ih' H' ∧ H' D = some (.lst accV) ∧ DRs F.K (Own (jIn J m1 ih1 H1 D) m' ih') H' acc accV ∧ Iv i acc ih' ∧ acc.length ≤ i
  refine ⟨fun i k H' => k = ds.length - i ∧ i ≤ ds.length ∧ St' i H', ⟨ds.length, by simp, Nat.zero_le _, m1, ih1, [], [], S1.hide hD _, Xt.new S1 hD, upd_same, DRs.nil, i0, Nat.zero_le _⟩, ?_⟩
  rintro i k H2 ⟨rfl, hi2, m2, ih2, acc, accV, S2, x2, d2, r2, v2, l2⟩
  by_cases hlt : i < ds.length
  · refine .inr ⟨Y.go _ m2 ih2 H2 i (jIn_ok hD) S2 x2 (grd _ _ _ v2) hlt, fun H' => i + 1 ≤ ds.length ∧ St' (i + 1) H', fun H' w => ⟨ds.length - (i + 1), by omega, rfl, w.1, w.2⟩, fun x H3 y => ?_⟩
    obtain ⟨S3, x3, d, ed, rd⟩ := Y.yld (jIn J m1 ih1 H1 D) m2 ih2 H2 i x H3 (jIn_ok hD) S2 x2 (grd _ _ _ v2) hlt y
    have x13 := x2.trans x3
    have E3 : EnvR F.K (jIn J m1 ih1 H1 D) m2 ih2 H3 (wipeA env vs) (L2.wipe σ vs) := EnvR.wipe (E1.convX S1 x13 (jIn_ok hD)) vs
    have hgo : g x (L2.wipe σ vs) H3 fun σ4 H4 => t σ4 H4 fun b H5 => if b = true then u σ4 H5 fun y H6 => ∃ acc, H6 D = some (.lst acc) ∧ acc.length < sizeLine ∧ (fun H' => i + 1 ≤ ds.length ∧ St' (i + 1) H') (upd H6 D (.lst (acc ++ [y]))) else (fun H' => i + 1 ≤ ds.length ∧ St' (i + 1) H') H5 := by
      refine hg _ jk' m2 ih2 H3 _ _ (.d d) x _ _ S3 E3 rd (turn i d acc ih2 ed v2 l2) fun m4 ih4 H4 env4 σ4 S4 x4 E4 k4 => ?_
      refine ht _ jk' m4 ih4 H4 env4 σ4 _ _ S4 E4 k4 fun m5 ih5 H5 b S5 x5 k5 => ?_
      have x15 := (x13.trans x4).trans x5
      have xd := (x3.trans x4).trans x5
      have nl := (S2.hd D (by show D ∈ D :: J.hid; simp)).2
      cases b with
      | true =>
        rw [if_pos rfl] at k5 ⊢
        refine he _ jk' m5 ih5 H5 env4 σ4 _ _ S5 (E4.mono S4 x5) k5 fun m6 ih6 H6 w v S6 x6 r6 k6 => ?_
        have xd6 := xd.trans x6
        have e6 := (xd6.keep D _ d2 nl).1
        split at k6
        · rename_i y
          have acl : accV.length < sizeLine := by rw [r2.len]; omega
          refine ⟨accV, e6, acl, hlt, m6, ih6, acc ++ [y], accV ++ [v], ?_⟩
          have x16 : Xt m1 ih1 H1 m6 ih6 (upd H6 D (.lst (accV ++ [v]))) := by
            have q := x15.trans x6
            exact ⟨q.pre, fun a o e n => ⟨by rw [upd_ne (ne_of_none e hD)]; exact (q.keep a o e n).1, (q.keep a o e n).2⟩, fun a e => by
              by_cases ha : a = D
              · rw [ha]; exact hD
              · rw [upd_ne ha] at e; exact q.there a e⟩
          obtain ⟨S7, dr⟩ := S6.grow (D := D) (o := .lst (accV ++ [v])) (by show D ∈ D :: J.hid; simp) (fun xs q => by rcases q with q | ⟨ob, q⟩ <;> (rw [e6] at q; cases q)) ⟨x16, J.cl _ _ _ _ _ _ S1.j x16⟩
          refine ⟨S7, x16, upd_same, DRs.app ?_ (DRs.cons (dr _ _ r6) DRs.nil), k6, by rw [List.length_append]; simp; omega⟩
          have ra := DRs.mono S2 xd6 acc accV r2
          exact drs_each ra dr
        · exact k6.elim
      | false =>
        rw [if_neg Bool.false_ne_true] at k5 ⊢
        exact ⟨hlt, m5, ih5, acc, accV, S5, x15, (xd.keep D _ d2 nl).1, DRs.mono S2 xd acc accV r2, k5, by omega⟩
    exact hog x _ H3 _ _ hgo fun σ4 H4 e4 q4 => ⟨by rw [e4, wipe_wipe], q4⟩
  · have e1 : i = ds.length := by omega
    subst e1
    refine .inl ⟨Y.stop _ m2 ih2 H2 (jIn_ok hD) S2 x2 (grd _ _ _ v2), f m2 ih2 H2 (.d (.list acc)) _ S2.back (x1.trans x2) ?_ (done acc ih2 l2 v2)⟩
    have nl := (S2.hd D (by show D ∈ D :: J.hid; simp)).2
    have nh : D ∉ J.hid := fun z => (S1.hd D z).1 hD
    exact DR.lst (L := Own J m2 ih2) d2 (fun z => z.elim nl nh) (DRs.less (L := Own (jIn J m1 ih1 H1 D) m2 ih2) (fun a z => z.elim .inl fun y => .inr (jIn_sub a y)) r2)
end
section
variable {F : Fam} {pos spos p pt : Pos} {elt tg iter e e2 o i : Expr} {es elts : List Expr} {ifs : List Expr} {scope : Scope} {own : List (Str × Nat)} {ai : AIG} {ga : AG} {tt : AT} {te aa ab ac : AE} {ta : AA}
theorem ev_lcG (own : List (Str × Nat)) (hi : IVG F tg iter ai) (ok : blkC F.N F.sc scope own = true) (hg : GW (F.blk scope) (own.map (·.2)) tg ga) (ht : TVs (F.blk scope) ifs tt) (he : EV (F.blk scope) elt te)
    (hs : ∀ env x, foldedSetIterable iter env x = pure x := by intro _ _; rfl) : EV F (.ListComp elt [⟨tg, iter, ifs, 0⟩] scope pos) (aLcG ai ga tt te (own.map (·.2))) := by
  obtain ⟨wi, p1, q1⟩ := hi
  obtain ⟨g, p2, q2, og⟩ := hg
  obtain ⟨t, p3, q3⟩ := ht
  obtain ⟨u, p4, q4⟩ := he
  refine ⟨tLc wi g t u (own.map (·.2)), fun X hX => ?_, re_lcG q1 q2 og q3 q4⟩
  exact pe_lc (F.calm X hX) (by rw [F.hN X hX]; exact F.nd) (p1 X hX) (blkOk_by (by rw [F.hN X hX, F.hsc X hX]; exact ok)) (fun s H C cl fp => p2 _ ⟨X, s, H, C, cl, fp, hX, rfl⟩) (fun s H C cl fp => p3 _ ⟨X, s, H, C, cl, fp, hX, rfl⟩) (fun s H C cl fp => p4 _ ⟨X, s, H, C, cl, fp, hX, rfl⟩) (hs _)
end
/-- .. that leaves the objects -/
theorem lcG_pure {ai : AIG} {ga : AG} {tt : AT} {te : AE} {vs : List Nat} {env : En} {ih : IH} {Q : QW} (ds : List D) (g : D → Option D) (hi : ∀ R : List D → (IH → Prop) → IH → Prop, (∀ G, G ih → R ds G ih) → ai env ih R) (hl : ds.length ≤ sizeLine)
    (hb : ∀ d ∈ ds, ∀ (K1 : D → IH → Prop) (K0 : IH → Prop), (∀ x, g d = some x → K1 x ih) → (g d = none → K0 ih) → ga (.d d) (wipeA env vs) ih fun env3 ih3 => tt env3 ih3 fun b ih4 => if b = true then te env3 ih4 fun w ih5 => match w with
      | .d x => K1 x ih5
      | _ => False
    else K0 ih4) (hq : Q (.d (.list (ds.filterMap g))) ih) : aLcG ai ga tt te vs env ih Q := by
  refine hi _ fun G gih => ⟨fun i acc ih2 => acc = (ds.take i).filterMap g ∧ ih2 = ih, ⟨rfl, rfl⟩, fun i acc ih2 h => by rw [h.2]; exact gih, ?_, hl, ?_⟩
  · rintro i d acc ih2 hd ⟨rfl, rfl⟩ _
    have hm := List.mem_of_getElem? hd
    have et : (ds.take (i + 1)).filterMap g = (ds.take i).filterMap g ++ (g d).toList := by
      rw [List.take_add_one, hd, List.filterMap_append]
      have e2 : ((some d).toList).filterMap g = (g d).toList := by cases e : g d <;> simp [e]
      rw [e2]
    exact hb d hm (fun x ih5 => (ds.take i).filterMap g ++ [x] = (ds.take (i + 1)).filterMap g ∧ ih5 = ih2) (fun ih4 => (ds.take i).filterMap g = (ds.take (i + 1)).filterMap g ∧ ih4 = ih2) (fun x e => ⟨by rw [et, e]; rfl, rfl⟩) fun e => ⟨by rw [et, e]; simp, rfl⟩
  · rintro acc ih2 _ ⟨rfl, rfl⟩
    rw [List.take_length]
    exact hq
theorem lcG_map {ai : AIG} {ga : AG} {te : AE} {vs : List Nat} {env : En} {ih : IH} {Q : QW} (ds : List D) (g : D → D) (hi : ∀ R : List D → (IH → Prop) → IH → Prop, (∀ G, G ih → R ds G ih) → ai env ih R) (hl : ds.length ≤ sizeLine)
    (hb : ∀ d ∈ ds, ∀ (K1 : D → IH → Prop), K1 (g d) ih → ga (.d d) (wipeA env vs) ih fun env3 ih3 => te env3 ih3 fun w ih5 => match w with
      | .d x => K1 x ih5
      | _ => False) (hq : Q (.d (.list (ds.map g))) ih) : aLcG ai ga aYes te vs env ih Q := by
  refine lcG_pure ds (fun d => some (g d)) hi hl (fun d hd K1 K0 h1 _ => ?_) (by rw [filterMap_some']; exact hq)
  exact hb d hd K1 (h1 _ rfl)
/-- for -/
def aForG (ai : AIG) (ga : AG) (body : AS) : AS := fun D env ih => ai env ih fun ds G ih1 => ∃ Iv : Nat → En → IH → Prop, Iv 0 env ih1 ∧ (∀ i env2 ih2, Iv i env2 ih2 → G ih2) ∧
  (∀ i d env2 ih2, ds[i]? = some d → Iv i env2 ih2 → ga (.d d) env2 ih2 fun env3 ih3 => body { D with nx := Iv (i + 1), ct := Iv (i + 1), bk := D.nx } env3 ih3) ∧ ∀ env2 ih2, Iv ds.length env2 ih2 → D.nx env2 ih2
section
variable {F : Fam} {pos : Pos} {tg : Expr} {ta : AS}
theorem sv_forG {iter : Expr} {body : List Stmt} {ai : AIG} {ga : AG} (hi : IVG F tg iter ai) (hg : GV F tg ga) (hb : BV F body ta) (hs : ∀ env x, foldedSetIterable iter env x = pure x := by intro _ _; rfl) : SV F (.For tg iter body [] pos) (aForG ai ga ta) := by
  obtain ⟨wi, p, q⟩ := hi
  obtain ⟨g, p2, q2⟩ := hg
  obtain ⟨t, p3, q3⟩ := hb
  refine ⟨tFor wi g t, fun X hX => ps_for (F.po X hX) (F.calm X hX) (p X hX) (p2 X hX) (p3 X hX) (hs _), fun J jk m ih H env σ Da D S E h f => ?_⟩
  refine q J jk m ih H env σ _ _ S E h fun m1 ih1 H1 T ds G S1 x1 Y k1 => ?_
  obtain ⟨Iv, i0, grd, turn, done⟩ := k1
  let W : Nat → Nat → L2.St → Hp → Prop := fun i k σ' H' => k = ds.length - i ∧ i ≤ ds.length ∧ ∃ m' ih' env', Sim F.K J m' ih' H' ∧ Xt m1 ih1 H1 m' ih' H' ∧ EnvR F.K J m' ih' H' env' σ' ∧ Iv i env' ih'
  refine ⟨W, ⟨ds.length, by simp, Nat.zero_le _, m1, ih1, env, S1, Xt.refl, E.mono S x1, i0⟩, ?_⟩
  rintro i k σ2 H2 ⟨rfl, hi, m2, ih2, env2, S2, x2, E2, v2⟩
  by_cases hlt : i < ds.length
  · refine .inr ⟨Y.go _ m2 ih2 H2 i HidOk.refl S2 x2 (grd _ _ _ v2) hlt, fun σ' H' => W (i + 1) (ds.length - (i + 1)) σ' H', fun σ' H' w => ⟨_, by omega, w⟩, fun x H3 y => ?_⟩
    obtain ⟨S3, x3, d, ed, rd⟩ := Y.yld J m2 ih2 H2 i x H3 HidOk.refl S2 x2 (grd _ _ _ v2) hlt y
    refine q2 J jk m2 ih2 H3 env2 σ2 (.d d) x _ _ S3 (E2.mono S2 x3) rd (turn i d env2 ih2 ed v2) fun m4 ih4 H4 env4 σ4 S4 x4 E4 k4 => ?_
    have x14 := (x2.trans x3).trans x4
    refine q3 J jk m4 ih4 H4 env4 σ4 _ _ S4 E4 k4 ⟨fun m5 ih5 H5 env5 σ5 S5 x5 E5 k5 => ?_, (f.step (x1.trans x14)).rt, (f.step (x1.trans x14)).nx, fun m5 ih5 H5 env5 σ5 S5 x5 E5 k5 => ?_⟩
    · exact ⟨rfl, hlt, m5, ih5, env5, S5, x14.trans x5, E5, k5⟩
    · exact ⟨rfl, hlt, m5, ih5, env5, S5, x14.trans x5, E5, k5⟩
  · have e1 : i = ds.length := by omega
    subst e1
    exact .inl ⟨Y.stop _ m2 ih2 H2 HidOk.refl S2 x2 (grd _ _ _ v2), f.nx m2 ih2 H2 env2 σ2 S2 (x1.trans x2) E2 (done env2 ih2 v2)⟩
end
end Pz

end
section
set_option Elab.async false
set_option linter.all false
set_option maxRecDepth 100000
set_option autoImplicit false
/-! Fw26: a def that changes objects and hands back data: what it made for itself is forgotten. -/
namespace Pz
open PySem PySem.Spec PyProof.Rows L2 LamX
def W.lo (n : Nat) : W → Prop
  | .ref k => k < n
  | _ => True
/-- names no object from n on -/
def Ob.clo (n : Nat) : Ob → Prop
  | .lst ws => ∀ w ∈ ws, w.lo n
  | .dic kws => ∀ p ∈ kws, p.2.lo n
  | _ => True
/-- of each object: as it was, or it names older objects alone -/
def Clo (ih ih2 : IH) : Prop := ∀ (i : Nat) (o : Ob), ih2[i]? = some o → ih[i]? = some o ∨ o.clo ih.length
section
variable {K : PySem.W.Frag} {J : JT} {m m1 : List Addr} {ih ih2 ex : IH} {H H1 : Hp}
theorem wo_cut {t : List Addr} {w : W} {v : V} (hl : ih2.length = m.length) (r : WO K J (m ++ t) (ih2 ++ ex) H1 w v) (c : w.lo m.length) : WO K J m ih2 H1 w v := by
  refine ⟨r.1, ?_⟩
  have r := r.2
  cases w with
  | d x => exact DR.less (L := Own J (m ++ t) (ih2 ++ ex)) (fun a z => own_sub z) r
  | ref n =>
    obtain ⟨a, e, e2⟩ := r
    exact ⟨a, by rw [List.getElem?_append_left c] at e; exact e, e2⟩
  | fn n cs => exact r
  | scr ns =>
    obtain ⟨a, e, q⟩ := r
    exact ⟨a, e, q.elim (fun z => .inl ⟨z.1, fun l => z.2 (own_sub l)⟩) .inr⟩
theorem wo_lo {w : W} {v : V} (r : WO K J m ih H w v) : w.lo m.length := by
  have r := r.2
  cases w with
  | ref n =>
    obtain ⟨a, e, _⟩ := r
    exact (List.getElem?_eq_some_iff.mp e).1
  | d _ => exact True.intro
  | scr _ => exact True.intro
  | fn _ _ => exact True.intro
theorem paired_lo : ∀ {ws : List W} {vs : List V}, Paired (WO K J m ih H) ws vs → ∀ w ∈ ws, w.lo m.length
  | _, _, .nil, w, h => absurd h (by simp)
  | _, _, .cons r t, w, h => (List.mem_cons.mp h).elim (fun e => by rw [e]; exact wo_lo r) (paired_lo t w)
theorem pairedk_lo : ∀ {ws : List (Key × W)} {vs : List (Key × V)}, Paired (fun (p : Key × W) (q : Key × V) => p.1 = q.1 ∧ WO K J m ih H p.2 q.2) ws vs → ∀ p ∈ ws, p.2.lo m.length
  | _, _, .nil, w, h => absurd h (by simp)
  | _, _, .cons r t, w, h => (List.mem_cons.mp h).elim (fun e => by rw [e]; exact wo_lo r.2) (pairedk_lo t w)
theorem Sim.obs_lo (S : Sim K J m ih H) {i : Nat} {o : Ob} (e : ih[i]? = some o) : o.clo m.length := by
  have hi : i < m.length := by rw [S.len]; exact (List.getElem?_eq_some_iff.mp e).1
  have q := S.ob i _ o (List.getElem?_eq_getElem hi) e
  cases o with
  | dead => exact True.intro
  | lst ws => obtain ⟨vs, _, r⟩ := q; exact paired_lo r
  | dic ws => obtain ⟨vs, _, r⟩ := q; exact pairedk_lo r
  | tab q => exact True.intro
theorem paired_cut {t : List Addr} (hl : ih2.length = m.length) : ∀ {ws : List W} {vs : List V}, Paired (WO K J (m ++ t) (ih2 ++ ex) H1) ws vs → (∀ w ∈ ws, w.lo m.length) → Paired (WO K J m ih2 H1) ws vs
  | _, _, .nil, _ => .nil
  | _, _, .cons r q, h => .cons (wo_cut hl r (h _ (List.mem_cons_self ..))) (paired_cut hl q fun w z => h w (List.mem_cons_of_mem _ z))
theorem pairedk_cut {t : List Addr} (hl : ih2.length = m.length) : ∀ {ws : List (Key × W)} {vs : List (Key × V)}, Paired (fun (p : Key × W) (q : Key × V) => p.1 = q.1 ∧ WO K J (m ++ t) (ih2 ++ ex) H1 p.2 q.2) ws vs → (∀ p ∈ ws, p.2.lo m.length) →
    Paired (fun (p : Key × W) (q : Key × V) => p.1 = q.1 ∧ WO K J m ih2 H1 p.2 q.2) ws vs
  | _, _, .nil, _ => .nil
  | _, _, .cons r q, h => .cons ⟨r.1, wo_cut hl r.2 (h _ (List.mem_cons_self ..))⟩ (pairedk_cut hl q fun w z => h w (List.mem_cons_of_mem _ z))
theorem Sim.truncC (S : Sim K J m ih H) (S1 : Sim K J m1 (ih2 ++ ex) H1) (x : Xt m ih H m1 (ih2 ++ ex) H1) (hl : ih2.length = ih.length) (c : Clo ih ih2) : Sim K J m ih2 H1 ∧ Xt m ih H m ih2 H1 := by
  obtain ⟨t, rfl, _⟩ := x.pre
  have hm : ih2.length = m.length := by rw [hl, S.len]
  have sub : ∀ a, Live m ih2 a → Live (m ++ t) (ih2 ++ ex) a := fun a ⟨i, o, e1, e2, e3⟩ => ⟨i, o, by rw [List.getElem?_append_left (List.getElem?_eq_some_iff.mp e1).1]; exact e1, by rw [List.getElem?_append_left (List.getElem?_eq_some_iff.mp e2).1]; exact e2, e3⟩
  have y : Xt m ih H m ih2 H1 := ⟨⟨[], (List.append_nil m).symm, fun _ z => absurd z (by simp)⟩, fun a o e n => ⟨(x.keep a o e n).1, fun l => (x.keep a o e n).2 (sub a l)⟩, x.there⟩
  refine ⟨⟨J.cl _ _ _ _ _ _ S.j y, hm.symm, S.nd, fun a h z => S1.th a (List.mem_append_left _ h) z, S.hd_mono y, fun i a o e1 e2 => ?_⟩, y⟩
  have q1 := S1.ob i a o (by rw [List.getElem?_append_left (List.getElem?_eq_some_iff.mp e1).1]; exact e1) (by rw [List.getElem?_append_left (List.getElem?_eq_some_iff.mp e2).1]; exact e2)
  have cl : o.clo m.length := (c i o e2).elim (fun z => S.obs_lo z) fun z => by rw [S.len]; exact z
  cases o with
  | dead => exact True.intro
  | lst ws =>
    obtain ⟨vs, e, r⟩ := q1
    exact ⟨vs, e, paired_cut hm r cl⟩
  | dic ws =>
    obtain ⟨vs, e, r⟩ := q1
    exact ⟨vs, e, pairedk_cut hm r cl⟩
  | tab q =>
    obtain ⟨ps, e, ht, hc⟩ := q1
    refine ⟨ps, e, ht, fun pos cv z => ?_⟩
    obtain ⟨c, e1, e2, n⟩ := hc pos cv z
    exact ⟨c, e1, e2, fun l => n (own_sub l)⟩
/-- behind such a def's body -/
def finT (ih : IH) (Q : QW) : QW := fun w ih1 => ∃ ih2 ex, ih1 = ih2 ++ ex ∧ ih2.length = ih.length ∧ Clo ih ih2 ∧ match w with
  | .d x => Q (.d x) ih2
  | .ref n => ih.length ≤ n ∧ optW (view (.ref n) ih1) fun x => Q (.d x) ih2
  | .scr _ => False
  | .fn _ _ => False
theorem finT_fu {Qa : QW} {Q : VK} (S : Sim K J m ih H) (f : Fu K J m ih H Qa Q) : Fu K J m ih H (finT ih Qa) Q := fun m1 ih1 H1 w v S1 x1 r1 q1 => by
  obtain ⟨ih2, ex, rfl, hl, c, q1⟩ := q1
  obtain ⟨S2, x2⟩ := S.truncC S1 x1 hl c
  split at q1
  · obtain ⟨t, rfl, _⟩ := x1.pre
    exact f m ih2 H1 (.d _) v S2 x2 (show DR _ _ _ _ _ from DR.less (L := Own J (m ++ t) (ih2 ++ ex)) (fun a z => own_sub z) r1) q1
  · rename_i n
    obtain ⟨hn, q⟩ := q1
    obtain ⟨x, e, q⟩ := optW_some q
    obtain ⟨ds, rfl⟩ := view_ref e
    obtain ⟨g, vs, rfl, hs, hr⟩ := view_lst S1 r1 e
    obtain ⟨g2, eg, e2⟩ := r1
    cases e2
    obtain ⟨t, rfl, _⟩ := x1.pre
    refine f m ih2 H1 (.d _) _ S2 x2 (show DR _ _ _ _ _ from DR.lst (L := Own J m ih2) hs (fun l => l.elim (fun l => ?_) fun l => ?_) (DRs.less (L := Own J (m ++ t) (ih2 ++ ex)) (fun a z => own_sub z) hr)) q
    · obtain ⟨i, o, e1, e2, _⟩ := l
      have hi : i < m.length := (List.getElem?_eq_some_iff.mp e1).1
      have e3 : (m ++ t)[i]? = some g := by rw [List.getElem?_append_left hi]; exact e1
      have hnd := S1.nd
      have : i = n := nd_ix hnd e3 eg
      have := S.len
      omega
    · obtain ⟨ws, e4⟩ := view_ob e
      exact (S1.hd g l).2 ⟨n, _, eg, e4, rfl⟩
  · exact q1.elim
  · exact q1.elim
end
section
variable {P : Program} {w : World} {K : PySem.W.Frag} {mg : Str → Option Value} {base : Heap} {Sg : Sig}
theorem fnG_ofT {x qual : Str} {st : Stmt} {f : Addr} {fd : FuncData} {N ps : List Str} {k : Nat} {sp : ASp} {ta : AS} (G : Fun K x qual st f fd) (S : FnScope N ps (defScope st))
    (hb : BV (Fam.ofDef P w K mg base Sg k N (defScope st) qual f fd.code S.nd) (defBody st) ta)
    (hq : ∀ ws ih Qa, ws.length = ps.length → sp ws ih Qa → ta { nx := fun _ ih' => finT ih Qa (.d .none) ih', rt := finT ih Qa } (startA N ws) ih) : FnG P w K mg base Sg (k + 1) f fd ps sp :=
  fnG_any G S hb fun J ws m ih H Qa Q hl S0 q fu => ⟨_, hq ws ih Qa hl q, fd_fn (finT_fu S0 fu)⟩
end
/-! ### decks -/
theorem Dk.len {pre r ih : IH} {b : Nat} (h : Dk pre b r ih) : ih.length = pre.length + 2 + r.length := by
  obtain ⟨c, x, z, rfl, _⟩ := h
  unfold DK
  simp only [List.length_append, List.length_cons]
  omega
theorem Dk.app {pre r ih : IH} {b : Nat} (h : Dk pre b r ih) (ex : IH) : Dk pre b (r ++ ex) (ih ++ ex) := by
  obtain ⟨c, x, z, rfl, q⟩ := h
  exact ⟨c, x, z, by unfold DK; simp, q⟩
theorem Dk.at_ {pre r ih : IH} {b : Nat} (h : Dk pre b r ih) (i : Nat) : ih[pre.length + 2 + i]? = r[i]? := by
  obtain ⟨c, x, z, rfl, q⟩ := h
  unfold DK
  rw [List.getElem?_append_right (by omega)]
  have e : pre.length + 2 + i - pre.length = i + 2 := by omega
  rw [e]
  rfl
theorem Dk.set {pre r ih : IH} {b : Nat} (h : Dk pre b r ih) (i : Nat) (o : Ob) : Dk pre b (r.set i o) (ih.set (pre.length + 2 + i) o) := by
  obtain ⟨c, x, z, rfl, q⟩ := h
  refine ⟨c, x, z, ?_, q⟩
  unfold DK
  rw [List.set_append_right _ _ (by omega)]
  have e : pre.length + 2 + i - pre.length = i + 2 := by omega
  rw [e]
  rfl
theorem Dk.split {pre r ex ih : IH} {b : Nat} (h : Dk pre b (r ++ ex) ih) : ∃ ih2, ih = ih2 ++ ex ∧ Dk pre b r ih2 := by
  obtain ⟨c, x, z, rfl, q⟩ := h
  exact ⟨DK pre c x z r, by unfold DK; simp, c, x, z, rfl, q⟩
theorem Dk.clo {pre r ih ih2 : IH} {a b : Nat} (h : Dk pre a r ih) (h2 : Dk pre b r ih2) : Clo ih ih2 := by
  obtain ⟨c, x, z, rfl, q⟩ := h
  obtain ⟨c2, x2, z2, rfl, q2⟩ := h2
  intro i o e
  unfold DK at e ⊢
  by_cases hi : i < pre.length
  · rw [List.getElem?_append_left hi] at e ⊢
    exact .inl e
  · rw [List.getElem?_append_right (by omega)] at e ⊢
    match hj : i - pre.length with
    | 0 =>
      rw [hj] at e
      cases e
      exact .inr fun w hw => by
        obtain ⟨k, _, rfl⟩ := List.mem_map.mp hw
        exact True.intro
    | 1 =>
      rw [hj] at e
      cases e
      refine .inr fun p hp => ?_
      simp only [List.mem_cons, List.not_mem_nil, or_false] at hp
      rcases hp with rfl | rfl | rfl
      · show pre.length < _
        simp only [List.length_append, List.length_cons]
        omega
      · exact True.intro
      · exact True.intro
    | j + 2 =>
      rw [hj] at e
      exact .inl e
/-- data handed back behind a deck's change -/
theorem finT_d {pre r ih ex ih1 : IH} {a b : Nat} {Q : QW} {x : D} (h : Dk pre a r ih) (h1 : Dk pre b (r ++ ex) ih1) (q : ∀ ih2, Dk pre b r ih2 → Q (.d x) ih2) : finT ih Q (.d x) ih1 := by
  obtain ⟨ih2, rfl, h2⟩ := h1.split
  exact ⟨ih2, ex, rfl, by rw [h2.len, h.len], h.clo h2, q ih2 h2⟩
theorem finT_d0 {pre r ih ih1 : IH} {a b : Nat} {Q : QW} {x : D} (h : Dk pre a r ih) (h1 : Dk pre b r ih1) (q : ∀ ih2, Dk pre b r ih2 → Q (.d x) ih2) : finT ih Q (.d x) ih1 :=
  finT_d (ex := []) h (by rw [List.append_nil]; exact h1) q
/-- a list of its own handed back -/
theorem finT_r {pre r ih ex ih1 : IH} {a b j : Nat} {Q : QW} {xs : List D} (h : Dk pre a r ih) (h1 : Dk pre b (r ++ ex) ih1) (e : ex[j]? = some (.lst (xs.map .d))) (q : ∀ ih2, Dk pre b r ih2 → Q (.d (.list xs)) ih2) : finT ih Q (.ref (ih.length + j)) ih1 := by
  have e1 : ih1[ih.length + j]? = some (.lst (xs.map .d)) := by
    have := h1.at_ (r.length + j)
    rw [h.len, show pre.length + 2 + r.length + j = pre.length + 2 + (r.length + j) by omega, this, List.getElem?_append_right (by omega), show r.length + j - r.length = j by omega]
    exact e
  obtain ⟨ih2, rfl, h2⟩ := h1.split
  refine ⟨ih2, ex, rfl, by rw [h2.len, h.len], h.clo h2, Nat.le_add_right _ _, ?_⟩
  have : view (.ref (ih.length + j)) (ih2 ++ ex) = some (.list xs) := by
    unfold view
    simp only [e1]
    rw [allD_map]
    rfl
  rw [this]
  exact q ih2 h2
end Pz

end
section
set_option Elab.async false
set_option linter.all false
set_option maxRecDepth 100000
set_option autoImplicit false
/-! Fw27: odds and ends. -/
namespace Pz
open PySem PySem.Spec PyProof.Rows L2 LamX
theorem ite_none {α : Type} {c : Prop} [Decidable c] {a b : α} (h : b = a) : (if c then a else b) = a := by
  by_cases hc : c
  · rw [if_pos hc]
  · rw [if_neg hc]; exact h
example (env : PySem.Env) (p : Pos) (x y : Str) : swappedStores [.Tuple [.Name x p, .Name y p] 0 p] (.Tuple [.Constant (.int 1) 0 p, .Tuple [.Constant (.int 1) 0 p] 0 p] 0 p) env = pure none := by
  unfold swappedStores
  repeat (first | rfl | refine ite_none ?_)
theorem tabIn_mk {K : PySem.W.Frag} {x : Str} {u c P : Addr} {oc oc2 : Value} {od od2 : Option Addr} {fd : FuncData} {sl sl2 : Array (Option Value)} {vs : Array Value} (a : PySem.W.nsIn K mainGlobals x = some (some (.ref u))) (l : K.lookup u = some ⟨oc, od, .func fd, sl⟩)
    (hc : fd.code = .ref c) (l2 : K.lookup c = some ⟨oc2, od2, .fields vs, sl2⟩) (hv : (vs[11]? : Option Value) = some (.ref P)) : PySem.W.tabIn K x = some (c, P) := by
  unfold PySem.W.tabIn
  rw [a]
  simp only [l, hc, l2, hv]
end Pz

end
section
set_option Elab.async false
set_option linter.all false
set_option maxRecDepth 100000
set_option autoImplicit false
/-! Fw28: dicts as data: {}, dict(pairs), repr of any data. -/
namespace Pz
open PySem PySem.Spec PyProof.Rows L2 LamX
section
variable {X : Cx} {pins : List (Addr × Obj)} {σ : L2.St} {H : Hp} {s : Shared} {L : Addr → Prop}
theorem ne_low (I : Inv X pins σ H s) (low : ∃ o, X.base.get? sysModules = some o) {a : Addr} (e : H a ≠ none) : a ≠ sysModules := fun z => by
  obtain ⟨o, g⟩ := low
  rw [z] at e
  exact e (I.env0.bs _ _ g).2
theorem pairs_reads {P : Program} {w : World} {h : Heap} : ∀ {es : List DictEntry} {kvs : List (Key × Value)}, Pairs (mixKind P w) es kvs → ReadsAll h (es.map (·.key)) (kvs.map fun p => keyD p.1) [] ∧ es.map (·.val) = kvs.map (·.2)
  | _, _, .nil => ⟨.nil, rfl⟩
  | _, _, .cons (e := e) (kv := kv) h1 h2 t => by
    obtain ⟨a, b⟩ := pairs_reads (h := h) t
    refine ⟨?_, by rw [List.map_cons, List.map_cons, h2, b]⟩
    rw [List.map_cons, List.map_cons]
    have q : Reads h e.key (keyD kv.1) [] := by
      rcases keyIs_shape h1 with ⟨i, t, e1, e2⟩ | ⟨x, t, e1, e2⟩
      · rw [e1, e2]; exact Reads.int i t
      · rw [e1, e2]; exact Reads.str x t
    exact ReadsAll.cons (as := []) (bs := []) q a
mutual
theorem dr_reads (I : Inv X pins σ H s) (low : ∃ o, X.base.get? sysModules = some o) : ∀ (d : D) (v : V) (u : Value), DR X.K L H d v → RelV v u → ∃ as, Reads s.heap u d as ∧ sysModules ∉ as
  | .none, _, _, h, r => by
    rw [h.non'] at r
    cases r
    exact ⟨_, Reads.none, by simp⟩
  | .bool b, _, _, h, r => by
    rw [h.bl'] at r
    cases r
    exact ⟨_, Reads.bool b, by simp⟩
  | .int i, _, _, h, r => by
    rw [h.int'] at r
    obtain ⟨t, rfl⟩ := r
    exact ⟨_, Reads.int i t, by simp⟩
  | .str x, _, _, h, r => by
    rw [h.str'] at r
    obtain ⟨t, rfl⟩ := r
    exact ⟨_, Reads.str x t, by simp⟩
  | .list ds, _, _, h, r => by
    obtain ⟨a, vs, rfl, hs, _, hr⟩ := h.lst'
    cases r
    obtain ⟨its, rv, ⟨o, n, ho, hc, _, hd⟩, _⟩ := I.list (SqL.of hs)
    obtain ⟨as, hr2, hn⟩ := drs_reads I low ds _ its hr rv
    refine ⟨_, Reads.list ho hc hd hr2, fun z => (List.mem_cons.mp z).elim (fun e => ne_low I low (by rw [hs]; simp) e.symm) hn⟩
  | .tuple ds, _, _, h, r => by
    obtain ⟨a, vs, rfl, hs, hr⟩ := h.tup'
    cases r
    obtain ⟨its, rv, ⟨o, ho, hc, n, hd⟩, _⟩ := I.tuple hs
    obtain ⟨as, hr2, hn⟩ := drs_reads I low ds _ its hr rv
    exact ⟨_, Reads.tuple ho hc hd hr2, hn⟩
  | .dict ks, _, _, h, r => by
    obtain ⟨a, kvs, rfl, hs, _, hr⟩ := h.dic'
    cases r
    obtain ⟨_, _, vs, kv, o, es, ep, ho, hx, hd, _, pr, _⟩ := (show ObjOk X.prog X.w H s.heap a (.dK kvs) from I.hok a _ hs)
    obtain ⟨r1, r2⟩ := pairs_reads (h := s.heap) pr
    obtain ⟨bs, r3, hn, ek⟩ := drk_reads I low ks _ vs hr kv
    refine ⟨_, Reads.dict (as := []) ho hx.1 hd (by rw [ek]; exact r1) (by rw [r2]; exact r3), fun z => ?_⟩
    exact (List.mem_cons.mp z).elim (fun e => ne_low I low (by rw [hs]; simp) e.symm) hn
theorem drs_reads (I : Inv X pins σ H s) (low : ∃ o, X.base.get? sysModules = some o) : ∀ (ds : List D) (vs : List V) (us : List Value), DRs X.K L H ds vs → Vals vs us → ∃ as, ReadsAll s.heap us ds as ∧ sysModules ∉ as
  | [], _, _, h, r => by
    unfold DRs at h
    subst h
    cases r
    exact ⟨_, ReadsAll.nil, by simp⟩
  | d :: ds, _, _, h, r => by
    unfold DRs at h
    obtain ⟨v, vr, rfl, h1, h2⟩ := h
    cases r with
    | cons r1 r2 =>
      obtain ⟨as, q1, n1⟩ := dr_reads I low d v _ h1 r1
      obtain ⟨bs, q2, n2⟩ := drs_reads I low ds vr _ h2 r2
      exact ⟨_, ReadsAll.cons q1 q2, fun z => (List.mem_append.mp z).elim n1 n2⟩
theorem drk_reads (I : Inv X pins σ H s) (low : ∃ o, X.base.get? sysModules = some o) : ∀ (ks : List (D × D)) (kvs : List (Key × V)) (us : List (Key × Value)), DRk X.K L H ks kvs → KV kvs us → ∃ as, ReadsAll s.heap (us.map (·.2)) (ks.map (·.2)) as ∧ sysModules ∉ as ∧ ks.map (·.1) = us.map fun p => keyD p.1
  | [], _, _, h, r => by
    unfold DRk at h
    subst h
    cases r
    exact ⟨_, ReadsAll.nil, by simp, rfl⟩
  | (k, d) :: ds, _, _, h, r => by
    unfold DRk at h
    obtain ⟨q, v, vr, rfl, e, h1, h2⟩ := h
    cases r with
    | cons r1 r2 =>
      obtain ⟨as, q1, n1⟩ := dr_reads I low d v _ h1 r1.2
      obtain ⟨bs, q2, n2, e2⟩ := drk_reads I low ds vr _ h2 r2
      refine ⟨_, ReadsAll.cons q1 q2, fun z => (List.mem_append.mp z).elim n1 n2, ?_⟩
      rw [List.map_cons, List.map_cons, e2, ← r1.1, e]
end
end
/-! ### repr of any data -/
def rReprA (K : PySem.W.Frag) : List V → Hp → VK → Prop := fun xs H Q => ∃ v d L, xs = [v] ∧ DR K L H d v ∧ d.showable = true ∧ d.depth ≤ 60 ∧ d.shown.length ≤ sizeLine ∧ Q (.str d.shown) H
theorem shown_int (i : Int) : PyData.shown (.int i) = Str.ofString (toString i) := by first | rfl | (unfold PyData.shown; rfl)
theorem shown_str (x : Str) : PyData.shown (.str x) = reprText x := by first | rfl | (unfold PyData.shown; rfl)
theorem shown_none : PyData.shown .none = "None" := by first | rfl | (unfold PyData.shown; rfl)
theorem shown_bool (b : Bool) : PyData.shown (.bool b) = (if b = true then ("True" : Str) else ("False" : Str)) := by cases b <;> first | rfl | (unfold PyData.shown; rfl)
theorem call_reprA {X : Cx} (low : ∃ o, X.base.get? sysModules = some o) (hg : X.A.guards = some []) (hu : X.A.units + 200 < cLine) : CallR X (.builtin "repr") (rReprA X.K) := by
  intro pins s σ H xs us Q I r h
  obtain ⟨v, d, L, rfl, hd, hsh, hdp, hz, q⟩ := h
  obtain ⟨u, rfl, r1⟩ := vals1 r
  obtain ⟨as, rd, hn⟩ := dr_reads I low d v u hd r1
  have go : ∀ a, u = .ref a → wpAny (model X.prog X.w) X.A (call (.builtin "repr") [u]) (EP X pins σ Q) X.xe s := fun a e => by
    subst e
    exact repr_of_reads' rd hsh (fun _ => hn) hg (by omega) (fun _ _ e => e) (fun h' t tk hk => ⟨.str d.shown, H, I.kept (t' := tk) hk, ⟨t, rfl⟩, q⟩) hz
  cases d with
  | tuple ds => obtain ⟨a, _, rfl, _⟩ := hd.tup'; exact go _ r1
  | list ds => obtain ⟨a, _, rfl, _⟩ := hd.lst'; exact go _ r1
  | dict ds => obtain ⟨a, _, rfl, _⟩ := hd.dic'; exact go _ r1
  | none =>
    rw [hd.non'] at r1
    cases r1
    rw [shown_none] at q
    exact P.repr_of_none ⟨.str "None", H, I.tok _, ⟨_, rfl⟩, q⟩
  | bool b =>
    rw [hd.bl'] at r1
    cases r1
    rw [shown_bool] at q
    exact P.repr_of_bool ⟨.str _, H, I.tok _, ⟨_, rfl⟩, q⟩
  | int i =>
    rw [hd.int'] at r1
    obtain ⟨t, rfl⟩ := r1
    rw [shown_int] at q
    exact P.repr_of_int (of_decide_eq_true hsh) ⟨.str _, H, I.tok _, ⟨_, rfl⟩, q⟩
  | str x =>
    rw [hd.str'] at r1
    obtain ⟨t, rfl⟩ := r1
    rw [shown_str] at q hz
    exact P.repr_of_str ⟨.str _, H, I.tok _, ⟨_, rfl⟩, q⟩ hz
def xReprA : ARC := fun ws ih Q => match ws with
  | [.d d] => d.showable = true ∧ d.depth ≤ 60 ∧ d.shown.length ≤ sizeLine ∧ Q (.d (.str d.shown)) ih
  | _ => False
theorem cv_reprA {F : Fam} (low : ∃ o, F.base.get? sysModules = some o) : CV F (.builtin "repr") xReprA := by
  refine cvK rReprA (fun X hX => call_reprA (by rw [F.hbase X hX]; exact low) (F.grd X hX) (Fam.hu hX)) fun J m ih H ws vs Qa Q S r hh f => ?_
  unfold xReprA at hh
  split at hh
  · obtain ⟨v, rfl, r1⟩ := paired1 r
    exact ⟨v, _, _, rfl, r1, hh.1, hh.2.1, hh.2.2.1, f.now (w := .d _) S WR.str hh.2.2.2⟩
  · exact hh.elim
/-! ### {} -/
def aDic0 : AE := fun _ ih Q => Q (.d (.dict [])) ih
theorem ev_dic0 {F : Fam} {pos : Pos} : EV F (.Dict [] [] pos) aDic0 := ⟨tDNewK, fun X hX => pe_dnewK, fun J jk m ih H env σ Qa Q S E h f p hp => by
  refine f m ih _ (.d (.dict [])) (.ref p) (S.new hp) (Xt.new S hp) ?_ h
  exact DR.dic upd_same (S.new_free hp) (by unfold DRk; rfl)⟩
/-! ### dict(pairs) -/
theorem nodup_map {α β : Type} (f : α → β) (inj : ∀ a b, f a = f b → a = b) : ∀ {l : List α}, l.Nodup → (l.map f).Nodup
  | [], _ => List.nodup_nil
  | a :: r, h => by
    rw [List.nodup_cons] at h
    rw [List.map_cons, List.nodup_cons]
    exact ⟨fun z => by
      obtain ⟨b, hb, e⟩ := List.mem_map.mp z
      rw [inj _ _ e] at hb
      exact h.1 hb, nodup_map f inj h.2⟩
theorem merge_nodup : ∀ (kvs acc : List (Key × V)), ((acc ++ kvs).map (·.1)).Nodup → kvs.foldl (fun acc kv => putK acc kv.1 kv.2) acc = acc ++ kvs
  | [], acc, _ => (List.append_nil _).symm
  | (k, v) :: r, acc, h => by
    have hk : (acc.any fun kv => decide (kv.1 = k)) = false := by
      rw [List.any_eq_false]
      intro p hp e
      rw [List.map_append] at h
      have := (List.nodup_append.mp h).2.2 p.1 (List.mem_map.mpr ⟨p, hp, rfl⟩) k (by simp)
      exact this (of_decide_eq_true e)
    have e : putK acc k v = acc ++ [(k, v)] := by
      unfold putK
      rw [hk]
      rfl
    rw [List.foldl_cons]
    show List.foldl _ (putK acc k v) r = _
    rw [e, merge_nodup r (acc ++ [(k, v)]) (by rw [List.append_assoc]; exact h), List.append_assoc]
    rfl
theorem dict_args {K : PySem.W.Frag} {L : Addr → Prop} {H : Hp} : ∀ {kvs : List (Str × D)} {vs : List V}, DRs K L H (kvs.map fun p => .tuple [.str p.1, p.2]) vs →
    ∃ (ps : List Addr) (kv : List (Key × V)), vs = ps.map V.ref ∧ Paired (fun p (kv : Key × V) => SqT K H p [kV kv.1, kv.2]) ps kv ∧ DRk K L H (kvs.map fun p => (.str p.1, p.2)) kv ∧ kv.map (·.1) = kvs.map fun p => .inr p.1
  | [], vs, h => by
    have h : vs = [] := by unfold DRs at h; exact h
    subst h
    exact ⟨[], [], rfl, .nil, by unfold DRk; rfl, rfl⟩
  | (k, x) :: r, vs, h => by
    rw [List.map_cons] at h
    unfold DRs at h
    obtain ⟨v, vr, rfl, h1, h2⟩ := h
    obtain ⟨ps, kv, rfl, h3, h4, h5⟩ := dict_args h2
    obtain ⟨a, us, rfl, hs, hr⟩ := h1.tup'
    unfold DRs at hr
    obtain ⟨u1, ur, rfl, q1, q2⟩ := hr
    unfold DRs at q2
    obtain ⟨u2, ur2, rfl, q3, q4⟩ := q2
    have q4 : ur2 = [] := by unfold DRs at q4; exact q4
    subst q4
    rw [q1.str'] at hs
    refine ⟨a :: ps, (.inr k, u2) :: kv, rfl, .cons hs h3, ?_, by rw [List.map_cons, List.map_cons, h5]⟩
    rw [List.map_cons]
    unfold DRk
    exact ⟨.inr k, u2, kv, rfl, rfl, q3, h4⟩
def xDictP : ARC := fun ws ih Q => match ws with
  | [.d (.list ps)] => ∃ kvs : List (Str × D), ps = kvs.map (fun p => .tuple [.str p.1, p.2]) ∧ (kvs.map (·.1)).Nodup ∧ Q (.d (.dict (kvs.map fun p => (.str p.1, p.2)))) ih
  | _ => False
theorem cv_dictP {F : Fam} : CV F (.type "dict") xDictP := by
  refine cvK (fun K xs H Q => ∃ a ps kvs, xs = [V.ref a] ∧ SqL K H a (List.map V.ref ps) ∧ Paired (fun p (kv : Key × V) => SqT K H p [kV kv.1, kv.2]) ps kvs ∧ ∀ p, H p = none → Q (V.ref p) (upd H p (HO.dK (mergeK [] kvs)))) (fun X hX => call_dictP (F.calm X hX)) fun J m ih H ws vs Qa Q S r hh f => ?_
  unfold xDictP at hh
  split at hh
  · obtain ⟨v, rfl, r1⟩ := paired1 r
    obtain ⟨kvs, rfl, nd, q⟩ := hh
    obtain ⟨a, us, rfl, hs, _, hr⟩ := r1.lst'
    obtain ⟨ps, kv, rfl, h3, h4, h5⟩ := dict_args hr
    refine ⟨a, ps, kv, rfl, SqL.of hs, h3, fun p hp => ?_⟩
    have nd2 : ((([] : List (Key × V)) ++ kv).map (·.1)).Nodup := by
      rw [List.nil_append, h5]
      have e : (kvs.map fun p => (Sum.inr p.1 : Key)) = (kvs.map (·.1)).map Sum.inr := by rw [List.map_map]; rfl
      rw [e]
      exact nodup_map _ (fun a b e => Sum.inr.inj e) nd
    have em : mergeK [] kv = kv := merge_nodup kv [] nd2
    rw [em]
    exact f m ih _ (.d (.dict _)) (.ref p) (S.new hp) (Xt.new S hp) (DR.dic upd_same (S.new_free hp) (DRk.mono S (Xt.new S hp) _ _ h4)) q
  · exact hh.elim
end Pz

end
section
set_option Elab.async false
set_option linter.all false
set_option maxRecDepth 100000
set_option autoImplicit false
/-! Fw29: the size of data that may hold dicts. -/
namespace Pz
open PySem PySem.Spec PyProof.Rows L2 LamX
structure Sd (n B : Nat) (x : D) : Prop where
  sh : x.showable = true
  lv : x.leavesShort 1921 = true
  dp : x.depth ≤ n
  bk : x.bulk ≤ B
theorem Sz.sd {n B : Nat} {x : D} (h : Sz n B x) : Sd n B x := ⟨h.sh, h.lv, h.dp, h.bk⟩
theorem Sd.mono {n m B C : Nat} {x : D} (h : Sd n B x) (a : n ≤ m) (b : B ≤ C) : Sd m C x := ⟨h.sh, h.lv, Nat.le_trans h.dp a, Nat.le_trans h.bk b⟩
theorem Sd.int {n B k : Nat} {i : Int} (h : Bd k i) (hk : k < 1920) : Sd n B (.int i) := (Sz.int h hk).sd
theorem Sd.bool {n B : Nat} {b : Bool} : Sd n B (.bool b) := Sz.bool.sd
theorem Sd.none {n B : Nat} : Sd n B .none := Sz.none.sd
theorem Sd.str {n B : Nat} {s : Str} (h : Sst B s) : Sd n B (.str s) := (Sz.str h).sd
def SdA (n b : Nat) (xs : List D) : Prop := PyData.showableAll xs = true ∧ PyData.leavesShortAll 1921 xs = true ∧ PyData.depthAll xs ≤ n ∧ PyData.bulkAll xs ≤ xs.length * (b + 1)
theorem SdA.of {n b : Nat} : ∀ {xs : List D}, (∀ x ∈ xs, Sd n b x) → SdA n b xs
  | [], _ => ⟨rfl, rfl, Nat.zero_le _, Nat.zero_le _⟩
  | x :: r, h => by
    have h1 := h x (List.mem_cons_self ..)
    have h2 := SdA.of fun y hy => h y (List.mem_cons_of_mem _ hy)
    refine ⟨?_, ?_, ?_, ?_⟩
    · show (x.showable && PyData.showableAll r) = true
      rw [h1.sh, h2.1] <;> rfl
    · show (x.leavesShort 1921 && PyData.leavesShortAll 1921 r) = true
      rw [h1.lv, h2.2.1] <;> rfl
    · show max x.depth (PyData.depthAll r) ≤ n
      exact Nat.max_le.mpr ⟨h1.dp, h2.2.2.1⟩
    · show x.bulk + 1 + PyData.bulkAll r ≤ (r.length + 1) * (b + 1)
      have := h2.2.2.2
      have := h1.bk
      rw [Nat.add_mul]
      omega
theorem Sd.tuple {n b B : Nat} {xs : List D} (h : ∀ x ∈ xs, Sd n b x) (hl : xs.length * (b + 1) ≤ B) : Sd (n + 1) B (.tuple xs) :=
  let ⟨c, d, e, f⟩ := SdA.of h
  ⟨c, d, by show PyData.depthAll xs + 1 ≤ n + 1; omega, Nat.le_trans f hl⟩
theorem Sd.list {n b B : Nat} {xs : List D} (h : ∀ x ∈ xs, Sd n b x) (hl : xs.length * (b + 1) ≤ B) : Sd (n + 1) B (.list xs) :=
  let ⟨c, d, e, f⟩ := SdA.of h
  ⟨c, d, by show PyData.depthAll xs + 1 ≤ n + 1; omega, Nat.le_trans f hl⟩
def SdK (n a b : Nat) (xs : List (D × D)) : Prop := PyData.showableKv xs = true ∧ PyData.leavesShortKv 1921 xs = true ∧ PyData.depthKv xs ≤ n ∧ PyData.bulkKv xs ≤ xs.length * (a + b + 2)
theorem SdK.of {n a b : Nat} : ∀ {xs : List (D × D)}, (∀ x ∈ xs, Sd n a x.1 ∧ Sd n b x.2) → SdK n a b xs
  | [], _ => ⟨rfl, rfl, Nat.zero_le _, Nat.zero_le _⟩
  | x :: r, h => by
    obtain ⟨k, v⟩ := x
    have h1 := h (k, v) (List.mem_cons_self ..)
    have h2 := SdK.of fun y hy => h y (List.mem_cons_of_mem _ hy)
    refine ⟨?_, ?_, ?_, ?_⟩
    · show (k.showable && v.showable && PyData.showableKv r) = true
      rw [h1.1.sh, h1.2.sh, h2.1] <;> rfl
    · show (k.leavesShort 1921 && v.leavesShort 1921 && PyData.leavesShortKv 1921 r) = true
      rw [h1.1.lv, h1.2.lv, h2.2.1] <;> rfl
    · show max (max k.depth v.depth) (PyData.depthKv r) ≤ n
      exact Nat.max_le.mpr ⟨Nat.max_le.mpr ⟨h1.1.dp, h1.2.dp⟩, h2.2.2.1⟩
    · show k.bulk + v.bulk + 2 + PyData.bulkKv r ≤ (r.length + 1) * (a + b + 2)
      have := h2.2.2.2
      have b1 : k.bulk ≤ a := h1.1.bk
      have b2 : v.bulk ≤ b := h1.2.bk
      rw [Nat.add_mul]
      omega
theorem Sd.dict {n a b B : Nat} {xs : List (D × D)} (h : ∀ x ∈ xs, Sd n a x.1 ∧ Sd n b x.2) (hl : xs.length * (a + b + 2) ≤ B) : Sd (n + 1) B (.dict xs) :=
  let ⟨c, d, e, f⟩ := SdK.of h
  ⟨c, d, by show PyData.depthKv xs + 1 ≤ n + 1; omega, Nat.le_trans f hl⟩
theorem Sd.all {n B : Nat} : ∀ {xs : List D}, PyData.showableAll xs = true → PyData.leavesShortAll 1921 xs = true → PyData.depthAll xs ≤ n → PyData.bulkAll xs ≤ B → ∀ x ∈ xs, Sd n B x
  | [], _, _, _, _, x, hx => absurd hx (by simp)
  | y :: r, h2, h3, h4, h5, x, hx => by
    have e2 : (y.showable && PyData.showableAll r) = true := h2
    have e3 : (y.leavesShort 1921 && PyData.leavesShortAll 1921 r) = true := h3
    have e4 : max y.depth (PyData.depthAll r) ≤ n := h4
    have e5 : y.bulk + 1 + PyData.bulkAll r ≤ B := h5
    rw [Bool.and_eq_true] at e2 e3
    have e6 := Nat.max_le.mp e4
    rcases List.mem_cons.mp hx with rfl | hx
    · exact ⟨e2.1, e3.1, e6.1, by omega⟩
    · exact Sd.all e2.2 e3.2 e6.2 (by omega) x hx
theorem Sd.tupI {n B : Nat} {xs : List D} (h : Sd n B (.tuple xs)) : xs.length ≤ B ∧ ∀ x ∈ xs, Sd n B x :=
  ⟨Nat.le_trans SzA.len h.bk, Sd.all h.sh h.lv (by have := h.dp; have e : PyData.depth (.tuple xs) = PyData.depthAll xs + 1 := rfl; omega) h.bk⟩
theorem Sd.intI {n B : Nat} {i : Int} (h : Sd n B (.int i)) : i.natAbs.log2 < 1920 := of_decide_eq_true h.sh
theorem Sd.size {n B : Nat} {x : D} (h : Sd n B x) (hB : B ≤ 8000) : x.shown.length ≤ sizeLine := by
  have := PyData.shown_le_bulk 1921 (by decide) x h.lv
  have e : (1921 + 2) * x.bulk ≤ 1923 * 8000 := Nat.mul_le_mul_left _ (Nat.le_trans h.bk hB)
  have s : sizeLine = 16777216 := by decide
  omega
theorem Sd.rep {n B : Nat} {x : D} (h : Sd n B x) (hB : B ≤ 8000) (hn : n ≤ 60) : x.showable = true ∧ (x.depth ≤ 60) = True ∧ (x.shown.length ≤ sizeLine) = True := ⟨h.sh, eq_true (Nat.le_trans h.dp hn), eq_true (h.size hB)⟩
end Pz

end
section
set_option Elab.async false
set_option linter.all false
set_option maxRecDepth 100000
set_option autoImplicit false
/-! Fw30: readings of operators by the kinds of what they meet (so that no open match is unfolded under a binder). -/
namespace Pz
open PySem PySem.Spec PyProof.Rows L2 LamX
section
variable {i j : Int} {a b s : Str} {xs ys : List D} {ih : IH} {Q : QW} {lo hi : Option Int} {ns : List Int} {n : Nat}
theorem xAdd_i : xAdd (.d (.int i)) (.d (.int j)) ih Q = Q (.d (.int (i + j))) ih := rfl
theorem xAdd_s : xAdd (.d (.str a)) (.d (.str b)) ih Q = (a.length + b.length ≤ sizeLine ∧ Q (.d (.str (a ++ b))) ih) := rfl
theorem xAdd_t : xAdd (.d (.tuple xs)) (.d (.tuple ys)) ih Q = (xs.length + ys.length ≤ sizeLine ∧ Q (.d (.tuple (xs ++ ys))) ih) := rfl
theorem xAdd_l : xAdd (.d (.list xs)) (.d (.list ys)) ih Q = (xs.length + ys.length ≤ sizeLine ∧ Q (.d (.list (xs ++ ys))) ih) := rfl
theorem xSl_t : xSl (.d (.tuple xs)) lo hi ih Q = Q (.d (.tuple (cut xs lo hi))) ih := rfl
theorem xSl_l : xSl (.d (.list xs)) lo hi ih Q = Q (.d (.list (cut xs lo hi))) ih := rfl
theorem xSl_s : xSl (.d (.str s)) lo hi ih Q = (s.length ≤ sizeLine ∧ Q (.d (.str (cutS s lo hi))) ih) := rfl
theorem xSl_scr : xSl (.scr ns) lo hi ih Q = Q (.d (.list (cut (ns.map .int) lo hi))) ih := rfl
theorem xListOf_t : xListOf [.d (.tuple xs)] ih Q = Q (.d (.list xs)) ih := rfl
theorem xListOf_l : xListOf [.d (.list xs)] ih Q = Q (.d (.list xs)) ih := rfl
theorem xIdx_t : xIdx (.d (.tuple xs)) (.d (.int i)) ih Q = optW (atI xs i) fun v => Q (.d v) ih := rfl
theorem xIdx_l : xIdx (.d (.list xs)) (.d (.int i)) ih Q = optW (atI xs i) fun v => Q (.d v) ih := rfl
theorem xIdx_s : xIdx (.d (.str s)) (.d (.int i)) ih Q = optW (atI s.cps.toList i) fun z => s.length ≤ sizeLine ∧ Q (.d (.str ⟨#[z]⟩)) ih := rfl
theorem xIdx_r : xIdx (.ref n) (.d (.int i)) ih Q = optW (ih[n]?) fun o => match o with
    | .lst ws => optW (atI ws i) fun w => Q w ih
    | _ => False := rfl
theorem xMulB_i : xMulB (.d (.int i)) (.d (.int j)) ih Q = (CMulW i j ∧ Q (.d (.int (i * j))) ih) := rfl
end
end Pz

end
set_option Elab.async false
set_option linter.all false
set_option maxRecDepth 100000
set_option autoImplicit false
set_option maxHeartbeats 1000000
namespace Pz
open PySem PySem.Spec PyProof.Rows L2 LamX
def tp (i : Nat) : Stmt := PySem.Challenge.pw_wheremade_k02_fractions_and_rows_of_any.main.body.getD i (.Pass ⟨0, 0, 0, 0⟩)
abbrev st_is_int : Stmt := tp 5
theorem sc_is_int : FnScope ["thing"] ["thing"] (defScope st_is_int) := ⟨rfl, rfl, rfl, by decide +kernel, rfl, by decide +kernel, by decide +kernel⟩
abbrev st_is_from : Stmt := tp 6
theorem sc_is_from : FnScope ["thing", "least"] ["thing", "least"] (defScope st_is_from) := ⟨rfl, rfl, rfl, by decide +kernel, rfl, by decide +kernel, by decide +kernel⟩
abbrev st_is_bool : Stmt := tp 7
theorem sc_is_bool : FnScope ["thing"] ["thing"] (defScope st_is_bool) := ⟨rfl, rfl, rfl, by decide +kernel, rfl, by decide +kernel, by decide +kernel⟩
abbrev st_is_row : Stmt := tp 8
theorem sc_is_row : FnScope ["thing", "many"] ["thing", "many"] (defScope st_is_row) := ⟨rfl, rfl, rfl, by decide +kernel, rfl, by decide +kernel, by decide +kernel⟩
abbrev st_is_tuple_of : Stmt := tp 9
theorem sc_is_tuple_of : FnScope ["thing", "look", "item"] ["thing", "look"] (defScope st_is_tuple_of) := ⟨rfl, rfl, rfl, by decide +kernel, rfl, by decide +kernel, by decide +kernel⟩
abbrev st_are_numbers : Stmt := tp 11
theorem sc_are_numbers : FnScope ["many", "thing", "number"] ["many", "thing"] (defScope st_are_numbers) := ⟨rfl, rfl, rfl, by decide +kernel, rfl, by decide +kernel, by decide +kernel⟩
abbrev st_is_strict_row : Stmt := tp 12
theorem sc_is_strict_row : FnScope ["many", "thing"] ["many", "thing"] (defScope st_is_strict_row) := ⟨rfl, rfl, rfl, by decide +kernel, rfl, by decide +kernel, by decide +kernel⟩
abbrev st_are_rows : Stmt := tp 13
theorem sc_are_rows : FnScope ["many", "thing"] ["many", "thing"] (defScope st_are_rows) := ⟨rfl, rfl, rfl, by decide +kernel, rfl, by decide +kernel, by decide +kernel⟩
abbrev st_need_many : Stmt := tp 14
theorem sc_need_many : FnScope ["many"] ["many"] (defScope st_need_many) := ⟨rfl, rfl, rfl, by decide +kernel, rfl, by decide +kernel, by decide +kernel⟩
abbrev st_is_rows : Stmt := tp 16
theorem sc_is_rows : FnScope ["many", "thing"] ["many", "thing"] (defScope st_is_rows) := ⟨rfl, rfl, rfl, by decide +kernel, rfl, by decide +kernel, by decide +kernel⟩
abbrev st_is_fraction_value : Stmt := tp 18
theorem sc_is_fraction_value : FnScope ["thing"] ["thing"] (defScope st_is_fraction_value) := ⟨rfl, rfl, rfl, by decide +kernel, rfl, by decide +kernel, by decide +kernel⟩
abbrev st_is_fraction : Stmt := tp 19
theorem sc_is_fraction : FnScope ["thing"] ["thing"] (defScope st_is_fraction) := ⟨rfl, rfl, rfl, by decide +kernel, rfl, by decide +kernel, by decide +kernel⟩
abbrev st__law_deck : Stmt := tp 21
theorem sc__law_deck : FnScope ["script", "seed", "cell"] ["script"] (defScope st__law_deck) := ⟨rfl, rfl, rfl, by decide +kernel, rfl, by decide +kernel, by decide +kernel⟩
abbrev st__law_draw : Stmt := tp 22
theorem sc__law_draw : FnScope ["deck", "many", "number", "cell"] ["deck", "many"] (defScope st__law_draw) := ⟨rfl, rfl, rfl, by decide +kernel, rfl, by decide +kernel, by decide +kernel⟩
abbrev st__law_pick : Stmt := tp 23
theorem sc__law_pick : FnScope ["deck", "some"] ["deck", "some"] (defScope st__law_pick) := ⟨rfl, rfl, rfl, by decide +kernel, rfl, by decide +kernel, by decide +kernel⟩
abbrev st__law_divisor : Stmt := tp 24
theorem sc__law_divisor : FnScope ["one", "other"] ["one", "other"] (defScope st__law_divisor) := ⟨rfl, rfl, rfl, by decide +kernel, rfl, by decide +kernel, by decide +kernel⟩
abbrev st__law_lowest : Stmt := tp 25
theorem sc__law_lowest : FnScope ["n", "d", "by"] ["n", "d"] (defScope st__law_lowest) := ⟨rfl, rfl, rfl, by decide +kernel, rfl, by decide +kernel, by decide +kernel⟩
abbrev st__law_same : Stmt := tp 26
theorem sc__law_same : FnScope ["told", "due", "x", "y"] ["told", "due"] (defScope st__law_same) := ⟨rfl, rfl, rfl, by decide +kernel, rfl, by decide +kernel, by decide +kernel⟩
abbrev st__law_is_int : Stmt := tp 27
theorem sc__law_is_int : FnScope ["thing"] ["thing"] (defScope st__law_is_int) := ⟨rfl, rfl, rfl, by decide +kernel, rfl, by decide +kernel, by decide +kernel⟩
abbrev st__law_int : Stmt := tp 28
theorem sc__law_int : FnScope ["deck", "most", "way", "number", "turn"] ["deck", "most"] (defScope st__law_int) := ⟨rfl, rfl, rfl, by decide +kernel, rfl, by decide +kernel, by decide +kernel⟩
abbrev st__law_is_fraction : Stmt := tp 29
theorem sc__law_is_fraction : FnScope ["thing"] ["thing"] (defScope st__law_is_fraction) := ⟨rfl, rfl, rfl, by decide +kernel, rfl, by decide +kernel, by decide +kernel⟩
abbrev st__law_fraction : Stmt := tp 30
theorem sc__law_fraction : FnScope ["deck", "most", "way"] ["deck", "most"] (defScope st__law_fraction) := ⟨rfl, rfl, rfl, by decide +kernel, rfl, by decide +kernel, by decide +kernel⟩
abbrev st__law_any : Stmt := tp 31
theorem sc__law_any : FnScope ["deck", "deep", "way", "some", "parts", "turn", "at", "part"] ["deck", "deep"] (defScope st__law_any) := ⟨rfl, rfl, rfl, by decide +kernel, rfl, by decide +kernel, by decide +kernel⟩
abbrev st__law_are_ints : Stmt := tp 32
theorem sc__law_are_ints : FnScope ["thing", "many", "least", "it"] ["thing", "many", "least"] (defScope st__law_are_ints) := ⟨rfl, rfl, rfl, by decide +kernel, rfl, by decide +kernel, by decide +kernel⟩
abbrev st__law_sum_of : Stmt := tp 33
theorem sc__law_sum_of : FnScope ["numbers", "point", "one", "other"] ["numbers", "point"] (defScope st__law_sum_of) := ⟨rfl, rfl, rfl, by decide +kernel, rfl, by decide +kernel, by decide +kernel⟩
abbrev st__law_numbers : Stmt := tp 34
theorem sc__law_numbers : FnScope ["deck", "many", "most", "way", "found", "at", "number"] ["deck", "many", "most"] (defScope st__law_numbers) := ⟨rfl, rfl, rfl, by decide +kernel, rfl, by decide +kernel, by decide +kernel⟩
abbrev st__law_rows_with_point : Stmt := tp 35
theorem sc__law_rows_with_point : FnScope ["deck", "many", "count", "most", "point", "found", "turn", "numbers", "strict", "by", "at", "number"] ["deck", "many", "count", "most"] (defScope st__law_rows_with_point) := ⟨rfl, rfl, rfl, by decide +kernel, rfl, by decide +kernel, by decide +kernel⟩
abbrev st__law_are_rows : Stmt := tp 36
theorem sc__law_are_rows : FnScope ["many", "thing", "row"] ["many", "thing"] (defScope st__law_are_rows) := ⟨rfl, rfl, rfl, by decide +kernel, rfl, by decide +kernel, by decide +kernel⟩
abbrev st__law_bent_rows : Stmt := tp 37
theorem sc__law_bent_rows : FnScope ["deck", "rows", "at", "numbers", "strict", "spot", "way", "row", "odd", "some"] ["deck", "rows"] (defScope st__law_bent_rows) := ⟨rfl, rfl, rfl, by decide +kernel, rfl, by decide +kernel, by decide +kernel⟩
abbrev st__law_near_fraction : Stmt := tp 38
theorem sc__law_near_fraction : FnScope ["deck", "one", "n", "d", "some"] ["deck", "one"] (defScope st__law_near_fraction) := ⟨rfl, rfl, rfl, by decide +kernel, rfl, by decide +kernel, by decide +kernel⟩
abbrev st_law : Stmt := tp 39
theorem sc_law : FnScope ["script", "deck", "turn", "one", "many", "rows", "thing", "due", "text", "size", "some"] ["script"] (defScope st_law) := ⟨rfl, rfl, rfl, by decide +kernel, rfl, by decide +kernel, by decide +kernel⟩
structure Tx (K : PySem.W.Frag) (mg : Str → Option Value) : Prop where
  m_gcd : mg "gcd" = some (.builtin "math.gcd")
  b_abs : mg "abs" = none
  b_all : mg "all" = none
  b_bool : mg "bool" = none
  b_dict : mg "dict" = none
  b_enumerate : mg "enumerate" = none
  b_int : mg "int" = none
  b_isinstance : mg "isinstance" = none
  b_len : mg "len" = none
  b_list : mg "list" = none
  b_max : mg "max" = none
  b_range : mg "range" = none
  b_repr : mg "repr" = none
  b_str : mg "str" = none
  b_sum : mg "sum" = none
  b_tuple : mg "tuple" = none
  b_zip : mg "zip" = none
  d_is_int : Df K mg "is_int" st_is_int ["thing"] []
  d_is_from : Df K mg "is_from" st_is_from ["thing", "least"] []
  d_is_bool : Df K mg "is_bool" st_is_bool ["thing"] []
  d_is_row : Df K mg "is_row" st_is_row ["thing", "many"] []
  d_is_tuple_of : Df K mg "is_tuple_of" st_is_tuple_of ["thing", "look"] []
  d_are_numbers : Df K mg "are_numbers" st_are_numbers ["many", "thing"] []
  d_is_strict_row : Df K mg "is_strict_row" st_is_strict_row ["many", "thing"] []
  d_are_rows : Df K mg "are_rows" st_are_rows ["many", "thing"] []
  d_need_many : Df K mg "need_many" st_need_many ["many"] []
  d_is_rows : Df K mg "is_rows" st_is_rows ["many", "thing"] [(["thing", "many"], 0, 2, [1, 0])]
  d_is_fraction_value : Df K mg "is_fraction_value" st_is_fraction_value ["thing"] []
  d_is_fraction : Df K mg "is_fraction" st_is_fraction ["thing"] [(["thing"], 0, 1, [0])]
  d__law_deck : Df K mg "_law_deck" st__law_deck ["script"] []
  d__law_draw : Df K mg "_law_draw" st__law_draw ["deck", "many"] []
  d__law_pick : Df K mg "_law_pick" st__law_pick ["deck", "some"] []
  d__law_divisor : Df K mg "_law_divisor" st__law_divisor ["one", "other"] []
  d__law_lowest : Df K mg "_law_lowest" st__law_lowest ["n", "d"] []
  d__law_same : Df K mg "_law_same" st__law_same ["told", "due"] []
  d__law_is_int : Df K mg "_law_is_int" st__law_is_int ["thing"] []
  d__law_int : Df K mg "_law_int" st__law_int ["deck", "most"] []
  d__law_is_fraction : Df K mg "_law_is_fraction" st__law_is_fraction ["thing"] []
  d__law_fraction : Df K mg "_law_fraction" st__law_fraction ["deck", "most"] []
  d__law_any : Df K mg "_law_any" st__law_any ["deck", "deep"] []
  d__law_are_ints : Df K mg "_law_are_ints" st__law_are_ints ["thing", "many", "least"] []
  d__law_sum_of : Df K mg "_law_sum_of" st__law_sum_of ["numbers", "point"] []
  d__law_numbers : Df K mg "_law_numbers" st__law_numbers ["deck", "many", "most"] []
  d__law_rows_with_point : Df K mg "_law_rows_with_point" st__law_rows_with_point ["deck", "many", "count", "most"] []
  d__law_are_rows : Df K mg "_law_are_rows" st__law_are_rows ["many", "thing"] []
  d__law_bent_rows : Df K mg "_law_bent_rows" st__law_bent_rows ["deck", "rows"] []
  d__law_near_fraction : Df K mg "_law_near_fraction" st__law_near_fraction ["deck", "one"] []
  d_law : Df K mg "law" st_law ["script"] []
structure Ty (K : PySem.W.Frag) (mg : Str → Option Value) (base : Heap) (Tb : List Addr) : Prop extends Tx K mg where
  low : ∃ o, base.get? sysModules = some o
  l_0 : ∃ c P, PySem.W.tabIn K "are_rows" = some (c, P) ∧ TabB base mg c P ∧ Tb[0]? = some P
section
variable {P : Program} {w : World} {K : PySem.W.Frag} {mg : Str → Option Value} {base : Heap} {Tb : List Addr}
/-- rows of numbers with their mark -/
abbrev Rows := List (List Int × Bool)
def rowD (r : List Int × Bool) : D := .tuple [.tuple (r.1.map .int), .bool r.2]
def rowsD (R : Rows) : D := .tuple (R.map rowD)
structure RowsOk (m : Nat) (R : Rows) : Prop where
  m1 : 1 ≤ m
  m2 : m ≤ 100
  l : R.length ≤ 100
  m3 : m ≤ 20
  l3 : R.length ≤ 10
  r : ∀ r ∈ R, r.1.length = m ∧ ∀ i ∈ r.1, Bd 64 i
def isI : D → Bool
  | .int _ => true
  | _ => false
def tupN (x : D) (m : Int) : Bool := match x with
  | .tuple xs => decide ((xs.length : Int) = m)
  | _ => false
def intV : D → Int
  | .int i => i
  | _ => 0
def items : D → List D
  | .tuple xs => xs
  | _ => []
def frI (x : D) (k : Int) : Bool := isI x && decide (k ≤ intV x)
def amt (m : Int) (x : D) : Bool := tupN x m && (items x).all fun y => frI y 0
def intsX (x : D) : List Int := (items x).map intV
def b2i (b : Bool) : Int := if b then 1 else 0
def dot (a b : List Int) : Int := ((a.zip b).map fun p => p.1 * p.2).sum
def ful (R : Rows) (as : List Int) : Bool := R.all fun r => decide (b2i r.2 ≤ dot r.1 as)
def colS (R : Rows) (ws : List Int) (k : Nat) : Int := ((R.zip ws).map fun p => p.2 * p.1.1.getD k 0).sum
def anyS (R : Rows) (ws : List Int) : Bool := (R.zip ws).any fun p => p.1.2 && decide (0 < p.2)
def barred (m : Nat) (R : Rows) (x : D) : Bool := amt R.length x && anyS R (intsX x) && (List.range m).all fun k => decide (colS R (intsX x) k ≤ 0)
def paper (m : Nat) (R : Rows) (x : D) : Bool := match x with
  | .tuple [.str s, y] => if s = "point" then amt m y && ful R (intsX y) else if s = "sums" then barred m R y else false
  | _ => false
def isBo : D → Bool
  | .bool _ => true
  | _ => false
def fNums (m : Int) (x : D) : Bool := tupN x m && (items x).all isI
def fStrict (m : Int) (x : D) : Bool := match x with
  | .tuple [a, b] => fNums m a && isBo b
  | _ => false
def fRows (m : Int) (x : D) : Bool := match x with
  | .tuple xs => xs.all (fStrict m)
  | _ => false
def fFr (x : D) : Bool := match x with
  | .tuple [.int n, .int d] => decide (1 ≤ d) && decide (((Nat.gcd n.natAbs d.natAbs : Nat) : Int) = 1)
  | _ => false
/-- the lambda of are_rows: is_strict_row(many, row) -/
def CTL : Nat → List W → List W → IH → QW → Prop := fun n cs ws ih Q => n = 0 ∧ ∃ (m : Nat) (x : D), cs = [.d (.int m)] ∧ ws = [.d x] ∧ Sd 60 8000 x ∧ Q (.d (.bool (fStrict m x))) ih
def LVL : Nat → Nat := fun _ => 4
abbrev SG (Tb : List Addr) : Sig := ⟨CTL, LVL, Tb⟩
theorem tup2 {x : D} (e : tupN x 2 = true) : ∃ y z, x = .tuple [y, z] := by
  cases x with
  | tuple xs =>
    have h : xs.length = 2 := by have := of_decide_eq_true e; omega
    match xs, h with
    | [y, z], _ => exact ⟨y, z, rfl⟩
  | _ => cases e
theorem strict_no {m : Int} {x : D} (e : tupN x 2 = false) : fStrict m x = false := by
  unfold fStrict
  split
  · cases e
  · rfl
theorem fFr_no {x : D} (e : tupN x 2 = false) : fFr x = false := by
  unfold fFr
  split
  · cases e
  · rfl
theorem tup_len {α : Type} (f : α → D) (l : List α) (m : Nat) (h : l.length = m) : tupN (.tuple (l.map f)) m = true := by
  show decide (((l.map f).length : Int) = m) = true
  rw [List.length_map, h]
  exact decide_eq_true rfl
/-! ### comprehensions over mapped lists -/
section
variable {ai : AI} {ga : AG} {tt : AT} {te : AE} {vs : List Nat} {env : En} {ih : IH} {Q : QW} {α : Type}
theorem lc_mapL (L : List α) (f g : α → D) (hi : ∀ R : List D → IH → Prop, R (L.map f) ih → ai env ih R) (hl : L.length ≤ sizeLine)
    (hb : ∀ a ∈ L, ∀ (K1 : D → IH → Prop), K1 (g a) ih → ga (.d (f a)) (wipeA env vs) ih fun env3 ih3 => te env3 ih3 fun w ih5 => match w with
      | .d x => K1 x ih5
      | _ => False) (hq : Q (.d (.list (L.map g))) ih) : aLc ai ga aYes te vs env ih Q := by
  refine hi _ ⟨fun i acc ih2 => acc = (L.take i).map g ∧ ih2 = ih, ⟨rfl, rfl⟩, ?_, by rw [List.length_map]; exact hl, ?_⟩
  · rintro i d acc ih2 hd ⟨rfl, rfl⟩ _
    obtain ⟨a, ha, rfl⟩ := map_get hd
    refine hb a (List.mem_of_getElem? ha) (fun x ih5 => (L.take i).map g ++ [x] = (L.take (i + 1)).map g ∧ ih5 = ih2) ⟨?_, rfl⟩
    rw [List.take_add_one, ha, List.map_append]
    rfl
  · rintro acc ih2 _ ⟨rfl, rfl⟩
    rw [List.length_map, List.take_length]
    exact hq
theorem ones_L (p : α → Bool) (L : List α) (i : Nat) (a : α) (h : L[i]? = some a) : ((L.take (i + 1)).filter p) = if p a = true then (L.take i).filter p ++ [a] else (L.take i).filter p := by
  rw [List.take_add_one, h, List.filter_append]
  cases e : p a with
  | true => simp [e]
  | false => simp [e]
theorem lc_countL (L : List α) (f : α → D) (p : α → Bool) (hi : ∀ R : List D → IH → Prop, R (L.map f) ih → ai env ih R) (hl : L.length ≤ sizeLine)
    (hb : ∀ a ∈ L, ∀ (K : Bool → IH → Prop), K (p a) ih → ga (.d (f a)) (wipeA env vs) ih fun env3 ih3 => tt env3 ih3 K) (hq : Q (.d (.list ((L.filter p).map fun _ => .int 1))) ih) : aLc ai ga tt (aC (.int 1)) vs env ih Q := by
  refine hi _ ⟨fun i acc ih2 => acc = ((L.take i).filter p).map (fun _ => PyData.int 1) ∧ ih2 = ih, ⟨rfl, rfl⟩, ?_, by rw [List.length_map]; exact hl, ?_⟩
  · rintro i d acc ih2 hd ⟨rfl, rfl⟩ _
    obtain ⟨a, ha, rfl⟩ := map_get hd
    have e := ones_L p L i a ha
    refine hb a (List.mem_of_getElem? ha) (fun b ih4 => if b = true then ((L.take i).filter p).map (fun _ => PyData.int 1) ++ [PyData.int 1] = ((L.take (i + 1)).filter p).map (fun _ => PyData.int 1) ∧ ih4 = ih2 else ((L.take i).filter p).map (fun _ => PyData.int 1) = ((L.take (i + 1)).filter p).map (fun _ => PyData.int 1) ∧ ih4 = ih2) ?_
    cases q : p a with
    | true =>
      rw [q, if_pos rfl] at e
      rw [if_pos rfl, e, List.map_append]
      exact ⟨rfl, rfl⟩
    | false =>
      rw [q, if_neg Bool.false_ne_true] at e
      rw [if_neg Bool.false_ne_true, e]
      exact ⟨rfl, rfl⟩
  · rintro acc ih2 _ ⟨rfl, rfl⟩
    rw [List.length_map, List.take_length]
    exact hq
end
theorem ones_ok {α : Type} (l : List α) : eqOk (.list (l.map fun _ => .int 1)) (.list []) = True := by
  have e : (l.map fun _ => PyData.int 1) = (l.map fun _ => (1 : Int)).map .int := by rw [List.map_map]; rfl
  rw [e]
  exact eq_true ⟨shaped_ints _, rfl⟩
theorem ones_eqD {α : Type} (l : List α) : eqD (.list (l.map fun _ => .int 1)) (.list []) = l.isEmpty := by cases l <;> rfl
theorem filt_all {α : Type} (p : α → Bool) : ∀ L : List α, (L.filter p).isEmpty = L.all fun a => !p a
  | [] => rfl
  | a :: r => by
    rw [List.filter_cons, List.all_cons]
    cases e : p a with
    | true => simp [e]
    | false => simp [e, filt_all p r]
theorem filt_any {α : Type} (p : α → Bool) (L : List α) : (!(L.filter p).isEmpty) = L.any p := by
  rw [filt_all]
  induction L with
  | nil => rfl
  | cons a r ih => rw [List.all_cons, List.any_cons, Bool.not_and, ih, Bool.not_not]
theorem allBm {α : Type} (f : α → Bool) : ∀ L : List α, allB (L.map fun a => .bool (f a)) = some (L.map f)
  | [] => rfl
  | a :: r => by
    show (allB (r.map fun a => .bool (f a))).map (f a :: ·) = _
    rw [allBm f r]
    rfl
theorem allIm {α : Type} (f : α → Int) : ∀ L : List α, allI (L.map fun a => .int (f a)) = some (L.map f)
  | [] => rfl
  | a :: r => by
    show (allI (r.map fun a => .int (f a))).map (f a :: ·) = _
    rw [allIm f r]
    rfl
theorem all_id {α : Type} (f : α → Bool) (L : List α) : (L.map f).all id = L.all f := by rw [List.all_map]; rfl
theorem any_id {α : Type} (f : α → Bool) (L : List α) : (L.map f).any id = L.any f := by rw [List.any_map]; rfl
theorem zipD_map {α β : Type} (f : α → D) (g : β → D) : ∀ (L : List α) (M : List β), zipD (L.map f) (M.map g) = (L.zip M).map fun p => .tuple [f p.1, g p.2]
  | [], _ => by cases ‹List β› <;> rfl
  | _ :: _, [] => rfl
  | a :: r, b :: s => by
    show _ :: zipD (r.map f) (s.map g) = _
    rw [zipD_map f g r s]
    rfl
theorem atI_ints {ns : List Int} {k : Nat} (h : k < ns.length) : atI (ns.map PyData.int) (k : Int) = some (.int (ns.getD k 0)) := by
  unfold atI ixN
  rw [if_pos (by omega), List.length_map, if_pos (by omega), Int.toNat_natCast]
  show (ns.map PyData.int)[k]? = _
  rw [List.getElem?_map, List.getElem?_eq_getElem h]
  show some (PyData.int _) = _
  rw [List.getD_eq_getElem?_getD, List.getElem?_eq_getElem h]
  rfl
theorem zip_sw {α β : Type} : ∀ (L : List α) (M : List β), M.zip L = (L.zip M).map fun p => (p.2, p.1)
  | [], [] => rfl
  | [], _ :: _ => rfl
  | _ :: _, [] => rfl
  | a :: r, b :: s => by
    show (b, a) :: s.zip r = _
    rw [zip_sw r s]
    rfl
theorem len_le {n B : Nat} {xs : List D} (h : Sd n B (.tuple xs)) (hB : B ≤ 8000) : xs.length ≤ sizeLine := Nat.le_trans h.tupI.1 (Nat.le_trans hB (by decide))
/-- numbers that can be multiplied -/
def Sm (i : Int) : Prop := i.natAbs.log2 < 1920
theorem Sm.cmul {i j : Int} (h : Sm i) (g : Sm j) : CMulW i j := by
  unfold Sm at h g
  unfold CMulW
  omega
theorem Bd.sm {k : Nat} {i : Int} (h : Bd k i) (hk : k < 1920) : Sm i := Nat.lt_of_le_of_lt h.log hk
theorem mem_zip {α β : Type} : ∀ {L : List α} {M : List β} {p : α × β}, p ∈ L.zip M → p.1 ∈ L ∧ p.2 ∈ M := fun {L M p} h => ⟨(List.of_mem_zip (a := p.1) (b := p.2) h).1, (List.of_mem_zip (a := p.1) (b := p.2) h).2⟩
theorem rng0 (m : Nat) : rng 0 ((m : Int).toNat) = (List.range m).map fun (i : Nat) => PyData.int (i : Int) := by
  unfold rng
  rw [Int.toNat_natCast]
  exact List.map_congr_left fun i _ => by rw [Int.zero_add]
/-- a fraction in lowest terms -/
structure Fr (k : Nat) (n d : Int) : Prop where
  pos : 0 < d
  gcd : Int.gcd n d = 1
  bn : Bd k n
  bd : Bd k d
/-- p over q is n over d in lowest terms -/
structure Low (n d p q : Int) : Prop where
  pos : 0 < q
  gcd : Int.gcd p q = 1
  eq : p * d = n * q
  ln : p.natAbs ≤ n.natAbs
  ld : q.natAbs ≤ d.natAbs
theorem Low.fr {k : Nat} {n d p q : Int} (h : Low n d p q) (a : Bd k n) (b : Bd k d) : Fr k p q := ⟨h.pos, h.gcd, a.le h.ln, b.le h.ld⟩
theorem Fr.mono {a b : Nat} {n d : Int} (h : Fr a n d) (l : a ≤ b) : Fr b n d := ⟨h.pos, h.gcd, h.bn.mono l, h.bd.mono l⟩
theorem low_mk {n d g : Int} (hd : d ≠ 0) (hg : g = if 0 < d then ((Nat.gcd n.natAbs d.natAbs : Nat) : Int) else -((Nat.gcd n.natAbs d.natAbs : Nat) : Int)) : Low n d (n.fdiv g) (d.fdiv g) := by
  have h0 : 0 < Nat.gcd n.natAbs d.natAbs := Nat.gcd_pos_of_pos_right _ (by omega)
  have hgn : g ≠ 0 := by rw [hg]; split <;> omega
  have gn : g.natAbs = Nat.gcd n.natAbs d.natAbs := by rw [hg]; split <;> omega
  have d1 : g ∣ n := Int.natAbs_dvd_natAbs.mp (by rw [gn]; exact Nat.gcd_dvd_left _ _)
  have d2 : g ∣ d := Int.natAbs_dvd_natAbs.mp (by rw [gn]; exact Nat.gcd_dvd_right _ _)
  obtain ⟨p, hp⟩ := d1
  obtain ⟨q, hq⟩ := d2
  have e1 : n.fdiv g = p := by rw [hp, Int.mul_comm]; exact Int.mul_fdiv_cancel _ hgn
  have e2 : d.fdiv g = q := by rw [hq, Int.mul_comm]; exact Int.mul_fdiv_cancel _ hgn
  rw [e1, e2]
  have hng : 0 < g.natAbs := by omega
  have an : n.natAbs = g.natAbs * p.natAbs := by rw [hp, Int.natAbs_mul]
  have ad : d.natAbs = g.natAbs * q.natAbs := by rw [hq, Int.natAbs_mul]
  have q0 : q ≠ 0 := fun z => hd (by rw [hq, z, Int.mul_zero])
  refine ⟨?_, ?_, ?_, ?_, ?_⟩
  · rcases Int.lt_trichotomy d 0 with h | h | h
    · have g1 : g < 0 := by rw [hg, if_neg (by omega)]; omega
      rcases Int.lt_trichotomy q 0 with k | k | k
      · have := Int.mul_pos_of_neg_of_neg g1 k
        omega
      · exact absurd k q0
      · exact k
    · exact absurd h hd
    · have g1 : 0 < g := by rw [hg, if_pos h]; omega
      rcases Int.lt_trichotomy q 0 with k | k | k
      · have := Int.mul_neg_of_pos_of_neg g1 k
        omega
      · exact absurd k q0
      · exact k
  · show Nat.gcd p.natAbs q.natAbs = 1
    have e : g.natAbs * Nat.gcd p.natAbs q.natAbs = g.natAbs * 1 := by rw [← Nat.gcd_mul_left, ← an, ← ad, Nat.mul_one, gn]
    exact Nat.eq_of_mul_eq_mul_left hng e
  · rw [hp, hq, Int.mul_comm g q, ← Int.mul_assoc, Int.mul_comm p q, Int.mul_comm (q * p) g, Int.mul_comm q p, ← Int.mul_assoc]
  · rw [an]; exact Nat.le_mul_of_pos_left _ hng
  · rw [ad]; exact Nat.le_mul_of_pos_left _ hng
/-- lowest terms are one -/
theorem low_uniq {a b p q : Int} (hb : 0 < b) (hq : 0 < q) (g1 : Int.gcd a b = 1) (g2 : Int.gcd p q = 1) (e : p * b = a * q) : p = a ∧ q = b := by
  have c1 : Nat.Coprime q.natAbs p.natAbs := by show Nat.gcd _ _ = 1; rw [Nat.gcd_comm]; exact g2
  have c2 : Nat.Coprime b.natAbs a.natAbs := by show Nat.gcd _ _ = 1; rw [Nat.gcd_comm]; exact g1
  have en : p.natAbs * b.natAbs = a.natAbs * q.natAbs := by rw [← Int.natAbs_mul, ← Int.natAbs_mul, e]
  have h1 : q.natAbs ∣ b.natAbs := c1.dvd_of_dvd_mul_left ⟨a.natAbs, by rw [en, Nat.mul_comm]⟩
  have h2 : b.natAbs ∣ q.natAbs := c2.dvd_of_dvd_mul_left ⟨p.natAbs, by rw [← en, Nat.mul_comm]⟩
  have h3 : q.natAbs = b.natAbs := Nat.dvd_antisymm h1 h2
  have h4 : q = b := by omega
  subst h4
  exact ⟨Int.eq_of_mul_eq_mul_right (by omega) e, rfl⟩
theorem Low.uniq {n d p q a b : Int} (h : Low n d p q) (hd : d ≠ 0) (hb : 0 < b) (g : Int.gcd a b = 1) (e : a * d = n * b) : p = a ∧ q = b := by
  refine low_uniq hb h.pos g h.gcd ?_
  have h1 : (p * b) * d = (a * q) * d := by
    rw [Int.mul_assoc, Int.mul_comm b d, ← Int.mul_assoc, h.eq, Int.mul_assoc a q d, Int.mul_comm q d, ← Int.mul_assoc a d q, e, Int.mul_assoc, Int.mul_assoc, Int.mul_comm q b]
  exact Int.eq_of_mul_eq_mul_right hd h1
def sp_is_int : ASp := fun ws ih Q => ∃ x : D, ws = [.d x] ∧ Q (.d (.bool (isI x))) ih
theorem g_is_int (T : Ty K mg base Tb) {f : Addr} {fd : FuncData} (Fn : Fun K "is_int" "is_int" st_is_int f fd) : FnG P w K mg base (SG Tb) 1 f fd ["thing"] sp_is_int := by
  refine fnG_of Fn sc_is_int ((bv_one (sv_ret (ev_and (ev_isi .int (ev_var 0) rfl T.b_isinstance rfl T.b_int bt_int bt_isinstance) (ev_one (ev_not (ev_isi .bool (ev_var 0) rfl T.b_isinstance rfl T.b_bool bt_bool bt_isinstance))))))) fun ws ob Qa hl h => ?_
  obtain ⟨x, rfl, q⟩ := h
  cases x <;> simp only [aAnd, aAndV, aAsg, aAsgT, aBk, aC, aCB, aCall, aCallK, aChain, aCons, aCt, aDget, aDispM, aDput, aDrop, aGN, aGcons, aGnil, aGtup, aIE, aIL, aIR1, aIR2, aIT, aIZ, aIf, aIfS, aIsi, aLst, aLstM, aMt, aMt0, aNever, aNil, aNoP, aNot, aNotV, aNx, aOp, aOr, aOrV, aPar, aPar3, aRet, aRetN, aRevD, aRevM, aSeq, aSl, aSmP, aTst, aTup, aUn, aVar, aYes, xAbs, xApp, xBools, xEqB, xGcd, xI, xIc, xInt, xInts, xIs_nn, xIs_bb, xIs_bn, xIs_in, xIs_sn, xIs_tn, xIs_ln, xLen, xListOfM, xMax, xMin, xNeg, xPop, xSum, xTupleOf, optW, view, W.isFn, List.forall_mem_cons, forall_nil, asB, onRL, isRL, pick, keyOf, val_cells, val_mixed, val_draws, put_draws, allD, finD, startA, List.map_cons, List.map_nil, List.length_cons, List.length_nil, List.replicate, List.cons_append, List.nil_append, List.append_nil, List.getElem?_cons_zero, List.getElem?_cons_succ, List.set_cons_zero, List.set_cons_succ, Option.join_some, Option.map_some, List.filterMap_cons, List.filterMap_nil, List.take, Nat.sub_self, Nat.add_one_sub_one, Nat.reduceSub, Nat.reduceAdd, List.replicate_zero, isT, atI_0, atI_1, size2, size1, size3, size0, true_and, and_true, Bool.true_eq_false, Bool.false_eq_true, if_true, if_false, ite_true, ite_false, reduceIte, eq_self, ex_app, ex_app2, ite_tt, ite_ft, List.cons.injEq, W.d.injEq, PyData.int.injEq, PyData.tuple.injEq, exists_eq_left', and_assoc, exists_and_left, eqOk_int, eqD_int, eqOk_fr, eqD_fr, eqOk_str, eqD_str, id, lo_ws1, lo_ws2, lo_ws3, Bool.not_true, Bool.not_false, Bool.and_true, Bool.and_false, Bool.true_and, Bool.false_and, Bool.or_true, Bool.or_false, Bool.true_or, Bool.false_or, aCallV, aCallL, capOf, onlyD, startL, aIZB, sqD, xIn, allS, xMulB, xStr, isStrW, xUpper, aLRg1, aRevT, rowD, rowsD, exists_eq_left, aIZG, seqG, SG, wipeA, lstOf, allBm, allIm, all_id, any_id, ones_ok, ones_eqD, aDic0, xReprA, xAdd_i, xAdd_s, xAdd_t, xAdd_l, xSl_t, xSl_l, xSl_s, xSl_scr, xListOf_t, xListOf_l, xIdx_t, xIdx_l, xIdx_s, xIdx_r] <;> exact q
theorem ok_is_int (T : Ty K mg base Tb) : Fdf P w K mg base (SG Tb) 1 "is_int" ["thing"] [] sp_is_int := T.d_is_int.fd fun f fd Fn => g_is_int T Fn
def sp_is_from : ASp := fun ws ih Q => ∃ (x : D) (k : Int), ws = [.d x, .d (.int k)] ∧ Q (.d (.bool (frI x k))) ih
theorem g_is_from (T : Ty K mg base Tb) {f : Addr} {fd : FuncData} (Fn : Fun K "is_from" "is_from" st_is_from f fd) : FnG P w K mg base (SG Tb) 2 f fd ["thing", "least"] sp_is_from := by
  refine fnG_of Fn sc_is_from ((bv_one (sv_ret (ev_and (evc (ok_is_int T) (Nat.le_of_ble_eq_true rfl) rfl (av_cons (ev_var 0) av_nil)) (ev_one (ev_cmp ov_ge (ev_var 0) (ev_var 1))))))) fun ws ob Qa hl h => ?_
  obtain ⟨x, k, rfl, q⟩ := h
  cases x <;> simp only [aAnd, aAndV, aAsg, aAsgT, aBk, aC, aCB, aCall, aCallK, aChain, aCons, aCt, aDget, aDispM, aDput, aDrop, aGN, aGcons, aGnil, aGtup, aIE, aIL, aIR1, aIR2, aIT, aIZ, aIf, aIfS, aIsi, aLst, aLstM, aMt, aMt0, aNever, aNil, aNoP, aNot, aNotV, aNx, aOp, aOr, aOrV, aPar, aPar3, aRet, aRetN, aRevD, aRevM, aSeq, aSl, aSmP, aTst, aTup, aUn, aVar, aYes, xAbs, xApp, xBools, xEqB, xGcd, xI, xIc, xInt, xInts, xIs_nn, xIs_bb, xIs_bn, xIs_in, xIs_sn, xIs_tn, xIs_ln, xLen, xListOfM, xMax, xMin, xNeg, xPop, xSum, xTupleOf, optW, view, W.isFn, List.forall_mem_cons, forall_nil, asB, onRL, isRL, pick, keyOf, val_cells, val_mixed, val_draws, put_draws, allD, finD, startA, List.map_cons, List.map_nil, List.length_cons, List.length_nil, List.replicate, List.cons_append, List.nil_append, List.append_nil, List.getElem?_cons_zero, List.getElem?_cons_succ, List.set_cons_zero, List.set_cons_succ, Option.join_some, Option.map_some, List.filterMap_cons, List.filterMap_nil, List.take, Nat.sub_self, Nat.add_one_sub_one, Nat.reduceSub, Nat.reduceAdd, List.replicate_zero, isT, atI_0, atI_1, size2, size1, size3, size0, true_and, and_true, Bool.true_eq_false, Bool.false_eq_true, if_true, if_false, ite_true, ite_false, reduceIte, eq_self, ex_app, ex_app2, ite_tt, ite_ft, List.cons.injEq, W.d.injEq, PyData.int.injEq, PyData.tuple.injEq, exists_eq_left', and_assoc, exists_and_left, eqOk_int, eqD_int, eqOk_fr, eqD_fr, eqOk_str, eqD_str, id, lo_ws1, lo_ws2, lo_ws3, Bool.not_true, Bool.not_false, Bool.and_true, Bool.and_false, Bool.true_and, Bool.false_and, Bool.or_true, Bool.or_false, Bool.true_or, Bool.false_or, aCallV, aCallL, capOf, onlyD, startL, aIZB, sqD, xIn, allS, xMulB, xStr, isStrW, xUpper, aLRg1, aRevT, rowD, rowsD, exists_eq_left, aIZG, seqG, SG, wipeA, lstOf, allBm, allIm, all_id, any_id, ones_ok, ones_eqD, aDic0, xReprA, xAdd_i, xAdd_s, xAdd_t, xAdd_l, xSl_t, xSl_l, xSl_s, xSl_scr, xListOf_t, xListOf_l, xIdx_t, xIdx_l, xIdx_s, xIdx_r, sp_is_int, isI] <;> exact q
theorem ok_is_from (T : Ty K mg base Tb) : Fdf P w K mg base (SG Tb) 2 "is_from" ["thing", "least"] [] sp_is_from := T.d_is_from.fd fun f fd Fn => g_is_from T Fn
def sp_is_row : ASp := fun ws ih Q => ∃ (x : D) (k : Int), ws = [.d x, .d (.int k)] ∧ Q (.d (.bool (tupN x k))) ih
theorem g_is_row (T : Ty K mg base Tb) {f : Addr} {fd : FuncData} (Fn : Fun K "is_row" "is_row" st_is_row f fd) : FnG P w K mg base (SG Tb) 1 f fd ["thing", "many"] sp_is_row := by
  refine fnG_of Fn sc_is_row ((bv_one (sv_ret (ev_and (ev_isi .tuple (ev_var 0) rfl T.b_isinstance rfl T.b_tuple bt_tuple bt_isinstance) (ev_one (ev_cmp ov_eq (ev_callB cv_len rfl T.b_len bt_len (av_cons (ev_var 0) av_nil)) (ev_var 1))))))) fun ws ob Qa hl h => ?_
  obtain ⟨x, k, rfl, q⟩ := h
  cases x <;> simp only [aAnd, aAndV, aAsg, aAsgT, aBk, aC, aCB, aCall, aCallK, aChain, aCons, aCt, aDget, aDispM, aDput, aDrop, aGN, aGcons, aGnil, aGtup, aIE, aIL, aIR1, aIR2, aIT, aIZ, aIf, aIfS, aIsi, aLst, aLstM, aMt, aMt0, aNever, aNil, aNoP, aNot, aNotV, aNx, aOp, aOr, aOrV, aPar, aPar3, aRet, aRetN, aRevD, aRevM, aSeq, aSl, aSmP, aTst, aTup, aUn, aVar, aYes, xAbs, xApp, xBools, xEqB, xGcd, xI, xIc, xInt, xInts, xIs_nn, xIs_bb, xIs_bn, xIs_in, xIs_sn, xIs_tn, xIs_ln, xLen, xListOfM, xMax, xMin, xNeg, xPop, xSum, xTupleOf, optW, view, W.isFn, List.forall_mem_cons, forall_nil, asB, onRL, isRL, pick, keyOf, val_cells, val_mixed, val_draws, put_draws, allD, finD, startA, List.map_cons, List.map_nil, List.length_cons, List.length_nil, List.replicate, List.cons_append, List.nil_append, List.append_nil, List.getElem?_cons_zero, List.getElem?_cons_succ, List.set_cons_zero, List.set_cons_succ, Option.join_some, Option.map_some, List.filterMap_cons, List.filterMap_nil, List.take, Nat.sub_self, Nat.add_one_sub_one, Nat.reduceSub, Nat.reduceAdd, List.replicate_zero, isT, atI_0, atI_1, size2, size1, size3, size0, true_and, and_true, Bool.true_eq_false, Bool.false_eq_true, if_true, if_false, ite_true, ite_false, reduceIte, eq_self, ex_app, ex_app2, ite_tt, ite_ft, List.cons.injEq, W.d.injEq, PyData.int.injEq, PyData.tuple.injEq, exists_eq_left', and_assoc, exists_and_left, eqOk_int, eqD_int, eqOk_fr, eqD_fr, eqOk_str, eqD_str, id, lo_ws1, lo_ws2, lo_ws3, Bool.not_true, Bool.not_false, Bool.and_true, Bool.and_false, Bool.true_and, Bool.false_and, Bool.or_true, Bool.or_false, Bool.true_or, Bool.false_or, aCallV, aCallL, capOf, onlyD, startL, aIZB, sqD, xIn, allS, xMulB, xStr, isStrW, xUpper, aLRg1, aRevT, rowD, rowsD, exists_eq_left, aIZG, seqG, SG, wipeA, lstOf, allBm, allIm, all_id, any_id, ones_ok, ones_eqD, aDic0, xReprA, xAdd_i, xAdd_s, xAdd_t, xAdd_l, xSl_t, xSl_l, xSl_s, xSl_scr, xListOf_t, xListOf_l, xIdx_t, xIdx_l, xIdx_s, xIdx_r, xEqB] <;> exact q
theorem ok_is_row (T : Ty K mg base Tb) : Fdf P w K mg base (SG Tb) 1 "is_row" ["thing", "many"] [] sp_is_row := T.d_is_row.fd fun f fd Fn => g_is_row T Fn
def sp_is_bool : ASp := fun ws ih Q => ∃ x : D, ws = [.d x] ∧ Q (.d (.bool (isBo x))) ih
theorem g_is_bool (T : Ty K mg base Tb) {f : Addr} {fd : FuncData} (Fn : Fun K "is_bool" "is_bool" st_is_bool f fd) : FnG P w K mg base (SG Tb) 1 f fd ["thing"] sp_is_bool := by
  refine fnG_of Fn sc_is_bool ((bv_one (sv_ret (ev_isi .bool (ev_var 0) rfl T.b_isinstance rfl T.b_bool bt_bool bt_isinstance)))) fun ws ob Qa hl h => ?_
  obtain ⟨x, rfl, q⟩ := h
  cases x <;> simp only [aAnd, aAndV, aAsg, aAsgT, aBk, aC, aCB, aCall, aCallK, aChain, aCons, aCt, aDget, aDispM, aDput, aDrop, aGN, aGcons, aGnil, aGtup, aIE, aIL, aIR1, aIR2, aIT, aIZ, aIf, aIfS, aIsi, aLst, aLstM, aMt, aMt0, aNever, aNil, aNoP, aNot, aNotV, aNx, aOp, aOr, aOrV, aPar, aPar3, aRet, aRetN, aRevD, aRevM, aSeq, aSl, aSmP, aTst, aTup, aUn, aVar, aYes, xAbs, xApp, xBools, xEqB, xGcd, xI, xIc, xInt, xInts, xIs_nn, xIs_bb, xIs_bn, xIs_in, xIs_sn, xIs_tn, xIs_ln, xLen, xListOfM, xMax, xMin, xNeg, xPop, xSum, xTupleOf, optW, view, W.isFn, List.forall_mem_cons, forall_nil, asB, onRL, isRL, pick, keyOf, val_cells, val_mixed, val_draws, put_draws, allD, finD, startA, List.map_cons, List.map_nil, List.length_cons, List.length_nil, List.replicate, List.cons_append, List.nil_append, List.append_nil, List.getElem?_cons_zero, List.getElem?_cons_succ, List.set_cons_zero, List.set_cons_succ, Option.join_some, Option.map_some, List.filterMap_cons, List.filterMap_nil, List.take, Nat.sub_self, Nat.add_one_sub_one, Nat.reduceSub, Nat.reduceAdd, List.replicate_zero, isT, atI_0, atI_1, size2, size1, size3, size0, true_and, and_true, Bool.true_eq_false, Bool.false_eq_true, if_true, if_false, ite_true, ite_false, reduceIte, eq_self, ex_app, ex_app2, ite_tt, ite_ft, List.cons.injEq, W.d.injEq, PyData.int.injEq, PyData.tuple.injEq, exists_eq_left', and_assoc, exists_and_left, eqOk_int, eqD_int, eqOk_fr, eqD_fr, eqOk_str, eqD_str, id, lo_ws1, lo_ws2, lo_ws3, Bool.not_true, Bool.not_false, Bool.and_true, Bool.and_false, Bool.true_and, Bool.false_and, Bool.or_true, Bool.or_false, Bool.true_or, Bool.false_or, aCallV, aCallL, capOf, onlyD, startL, aIZB, sqD, xIn, allS, xMulB, xStr, isStrW, xUpper, aLRg1, aRevT, rowD, rowsD, exists_eq_left, aIZG, seqG, SG, wipeA, lstOf, allBm, allIm, all_id, any_id, ones_ok, ones_eqD, aDic0, xReprA, xAdd_i, xAdd_s, xAdd_t, xAdd_l, xSl_t, xSl_l, xSl_s, xSl_scr, xListOf_t, xListOf_l, xIdx_t, xIdx_l, xIdx_s, xIdx_r] <;> exact q
theorem ok_is_bool (T : Ty K mg base Tb) : Fdf P w K mg base (SG Tb) 1 "is_bool" ["thing"] [] sp_is_bool := T.d_is_bool.fd fun f fd Fn => g_is_bool T Fn
def sp_are_numbers : ASp := fun ws ih Q => ∃ (m : Nat) (x : D), ws = [.d (.int m), .d x] ∧ Sd 60 8000 x ∧ Q (.d (.bool (fNums m x))) ih
theorem g_are_numbers (T : Ty K mg base Tb) {f : Addr} {fd : FuncData} (Fn : Fun K "are_numbers" "are_numbers" st_are_numbers f fd) : FnG P w K mg base (SG Tb) 2 f fd ["many", "thing"] sp_are_numbers := by
  refine fnG_of Fn sc_are_numbers ((bv_one (sv_ret (ev_and (evc (ok_is_row T) (Nat.le_of_ble_eq_true rfl) rfl (av_cons (ev_var 1) (av_cons (ev_var 0) av_nil))) (ev_one (ev_callB cv_all rfl T.b_all bt_all (av_cons (ev_lc [("number", 2)] (iv_tup (ev_var 1)) (by show blkC ["many", "thing", "number"] (defScope st_are_numbers) _ _ = true; decide +kernel) (gw_name 2) tvs_nil (evc (ok_is_int T) (Nat.le_of_ble_eq_true rfl) rfl (av_cons (ev_var 2) av_nil))) av_nil))))))) fun ws ob Qa hl h => ?_
  obtain ⟨m, x, rfl, hz, q⟩ := h
  simp only [aAnd, aAndV, aAsg, aAsgT, aBk, aC, aCB, aCall, aCallK, aChain, aCons, aCt, aDget, aDispM, aDput, aDrop, aGN, aGcons, aGnil, aGtup, aIE, aIL, aIR1, aIR2, aIT, aIZ, aIf, aIfS, aIsi, aLst, aLstM, aMt, aMt0, aNever, aNil, aNoP, aNot, aNotV, aNx, aOp, aOr, aOrV, aPar, aPar3, aRet, aRetN, aRevD, aRevM, aSeq, aSl, aSmP, aTst, aTup, aUn, aVar, aYes, xAbs, xApp, xBools, xEqB, xGcd, xI, xIc, xInt, xInts, xIs_nn, xIs_bb, xIs_bn, xIs_in, xIs_sn, xIs_tn, xIs_ln, xLen, xListOfM, xMax, xMin, xNeg, xPop, xSum, xTupleOf, optW, view, W.isFn, List.forall_mem_cons, forall_nil, asB, onRL, isRL, pick, keyOf, val_cells, val_mixed, val_draws, put_draws, allD, finD, startA, List.map_cons, List.map_nil, List.length_cons, List.length_nil, List.replicate, List.cons_append, List.nil_append, List.append_nil, List.getElem?_cons_zero, List.getElem?_cons_succ, List.set_cons_zero, List.set_cons_succ, Option.join_some, Option.map_some, List.filterMap_cons, List.filterMap_nil, List.take, Nat.sub_self, Nat.add_one_sub_one, Nat.reduceSub, Nat.reduceAdd, List.replicate_zero, isT, atI_0, atI_1, size2, size1, size3, size0, true_and, and_true, Bool.true_eq_false, Bool.false_eq_true, if_true, if_false, ite_true, ite_false, reduceIte, eq_self, ex_app, ex_app2, ite_tt, ite_ft, List.cons.injEq, W.d.injEq, PyData.int.injEq, PyData.tuple.injEq, exists_eq_left', and_assoc, exists_and_left, eqOk_int, eqD_int, eqOk_fr, eqD_fr, eqOk_str, eqD_str, id, lo_ws1, lo_ws2, lo_ws3, Bool.not_true, Bool.not_false, Bool.and_true, Bool.and_false, Bool.true_and, Bool.false_and, Bool.or_true, Bool.or_false, Bool.true_or, Bool.false_or, aCallV, aCallL, capOf, onlyD, startL, aIZB, sqD, xIn, allS, xMulB, xStr, isStrW, xUpper, aLRg1, aRevT, rowD, rowsD, exists_eq_left, aIZG, seqG, SG, wipeA, lstOf, allBm, allIm, all_id, any_id, ones_ok, ones_eqD, aDic0, xReprA, xAdd_i, xAdd_s, xAdd_t, xAdd_l, xSl_t, xSl_l, xSl_s, xSl_scr, xListOf_t, xListOf_l, xIdx_t, xIdx_l, xIdx_s, xIdx_r, sp_is_row]
  cases x with
  | tuple xs =>
    refine ifd (fun e => ?_) fun e => ?_
    · refine lc_mapL xs id (fun y => .bool (isI y)) (fun R hR => by rw [List.map_id] at hR; exact hR) (len_le hz (Nat.le_refl _)) (fun a ha K1 hK => ?_) ?_
      · simp only [aAnd, aAndV, aAsg, aAsgT, aBk, aC, aCB, aCall, aCallK, aChain, aCons, aCt, aDget, aDispM, aDput, aDrop, aGN, aGcons, aGnil, aGtup, aIE, aIL, aIR1, aIR2, aIT, aIZ, aIf, aIfS, aIsi, aLst, aLstM, aMt, aMt0, aNever, aNil, aNoP, aNot, aNotV, aNx, aOp, aOr, aOrV, aPar, aPar3, aRet, aRetN, aRevD, aRevM, aSeq, aSl, aSmP, aTst, aTup, aUn, aVar, aYes, xAbs, xApp, xBools, xEqB, xGcd, xI, xIc, xInt, xInts, xIs_nn, xIs_bb, xIs_bn, xIs_in, xIs_sn, xIs_tn, xIs_ln, xLen, xListOfM, xMax, xMin, xNeg, xPop, xSum, xTupleOf, optW, view, W.isFn, List.forall_mem_cons, forall_nil, asB, onRL, isRL, pick, keyOf, val_cells, val_mixed, val_draws, put_draws, allD, finD, startA, List.map_cons, List.map_nil, List.length_cons, List.length_nil, List.replicate, List.cons_append, List.nil_append, List.append_nil, List.getElem?_cons_zero, List.getElem?_cons_succ, List.set_cons_zero, List.set_cons_succ, Option.join_some, Option.map_some, List.filterMap_cons, List.filterMap_nil, List.take, Nat.sub_self, Nat.add_one_sub_one, Nat.reduceSub, Nat.reduceAdd, List.replicate_zero, isT, atI_0, atI_1, size2, size1, size3, size0, true_and, and_true, Bool.true_eq_false, Bool.false_eq_true, if_true, if_false, ite_true, ite_false, reduceIte, eq_self, ex_app, ex_app2, ite_tt, ite_ft, List.cons.injEq, W.d.injEq, PyData.int.injEq, PyData.tuple.injEq, exists_eq_left', and_assoc, exists_and_left, eqOk_int, eqD_int, eqOk_fr, eqD_fr, eqOk_str, eqD_str, id, lo_ws1, lo_ws2, lo_ws3, Bool.not_true, Bool.not_false, Bool.and_true, Bool.and_false, Bool.true_and, Bool.false_and, Bool.or_true, Bool.or_false, Bool.true_or, Bool.false_or, aCallV, aCallL, capOf, onlyD, startL, aIZB, sqD, xIn, allS, xMulB, xStr, isStrW, xUpper, aLRg1, aRevT, rowD, rowsD, exists_eq_left, aIZG, seqG, SG, wipeA, lstOf, allBm, allIm, all_id, any_id, ones_ok, ones_eqD, aDic0, xReprA, xAdd_i, xAdd_s, xAdd_t, xAdd_l, xSl_t, xSl_l, xSl_s, xSl_scr, xListOf_t, xListOf_l, xIdx_t, xIdx_l, xIdx_s, xIdx_r, sp_is_int]
        exact hK
      · simp only [aAnd, aAndV, aAsg, aAsgT, aBk, aC, aCB, aCall, aCallK, aChain, aCons, aCt, aDget, aDispM, aDput, aDrop, aGN, aGcons, aGnil, aGtup, aIE, aIL, aIR1, aIR2, aIT, aIZ, aIf, aIfS, aIsi, aLst, aLstM, aMt, aMt0, aNever, aNil, aNoP, aNot, aNotV, aNx, aOp, aOr, aOrV, aPar, aPar3, aRet, aRetN, aRevD, aRevM, aSeq, aSl, aSmP, aTst, aTup, aUn, aVar, aYes, xAbs, xApp, xBools, xEqB, xGcd, xI, xIc, xInt, xInts, xIs_nn, xIs_bb, xIs_bn, xIs_in, xIs_sn, xIs_tn, xIs_ln, xLen, xListOfM, xMax, xMin, xNeg, xPop, xSum, xTupleOf, optW, view, W.isFn, List.forall_mem_cons, forall_nil, asB, onRL, isRL, pick, keyOf, val_cells, val_mixed, val_draws, put_draws, allD, finD, startA, List.map_cons, List.map_nil, List.length_cons, List.length_nil, List.replicate, List.cons_append, List.nil_append, List.append_nil, List.getElem?_cons_zero, List.getElem?_cons_succ, List.set_cons_zero, List.set_cons_succ, Option.join_some, Option.map_some, List.filterMap_cons, List.filterMap_nil, List.take, Nat.sub_self, Nat.add_one_sub_one, Nat.reduceSub, Nat.reduceAdd, List.replicate_zero, isT, atI_0, atI_1, size2, size1, size3, size0, true_and, and_true, Bool.true_eq_false, Bool.false_eq_true, if_true, if_false, ite_true, ite_false, reduceIte, eq_self, ex_app, ex_app2, ite_tt, ite_ft, List.cons.injEq, W.d.injEq, PyData.int.injEq, PyData.tuple.injEq, exists_eq_left', and_assoc, exists_and_left, eqOk_int, eqD_int, eqOk_fr, eqD_fr, eqOk_str, eqD_str, id, lo_ws1, lo_ws2, lo_ws3, Bool.not_true, Bool.not_false, Bool.and_true, Bool.and_false, Bool.true_and, Bool.false_and, Bool.or_true, Bool.or_false, Bool.true_or, Bool.false_or, aCallV, aCallL, capOf, onlyD, startL, aIZB, sqD, xIn, allS, xMulB, xStr, isStrW, xUpper, aLRg1, aRevT, rowD, rowsD, exists_eq_left, aIZG, seqG, SG, wipeA, lstOf, allBm, allIm, all_id, any_id, ones_ok, ones_eqD, aDic0, xReprA, xAdd_i, xAdd_s, xAdd_t, xAdd_l, xSl_t, xSl_l, xSl_s, xSl_scr, xListOf_t, xListOf_l, xIdx_t, xIdx_l, xIdx_s, xIdx_r]
        unfold fNums at q
        rw [e] at q
        exact q
    · unfold fNums at q
      rw [e] at q
      exact q
  | _ => exact q
theorem ok_are_numbers (T : Ty K mg base Tb) : Fdf P w K mg base (SG Tb) 2 "are_numbers" ["many", "thing"] [] sp_are_numbers := T.d_are_numbers.fd fun f fd Fn => g_are_numbers T Fn
def sp_is_strict_row : ASp := fun ws ih Q => ∃ (m : Nat) (x : D), ws = [.d (.int m), .d x] ∧ Sd 60 8000 x ∧ Q (.d (.bool (fStrict m x))) ih
theorem g_is_strict_row (T : Ty K mg base Tb) {f : Addr} {fd : FuncData} (Fn : Fun K "is_strict_row" "is_strict_row" st_is_strict_row f fd) : FnG P w K mg base (SG Tb) 3 f fd ["many", "thing"] sp_is_strict_row := by
  refine fnG_of Fn sc_is_strict_row ((bv_one (sv_ret (ev_and (evc (ok_is_row T) (Nat.le_of_ble_eq_true rfl) rfl (av_cons (ev_var 1) (av_cons ev_int av_nil))) (ev_and (evc (ok_are_numbers T) (Nat.le_of_ble_eq_true rfl) rfl (av_cons (ev_var 0) (av_cons (ev_ix (ev_var 1) ev_int) av_nil))) (ev_one (evc (ok_is_bool T) (Nat.le_of_ble_eq_true rfl) rfl (av_cons (ev_ix (ev_var 1) ev_int) av_nil)))))))) fun ws ob Qa hl h => ?_
  obtain ⟨m, x, rfl, hz, q⟩ := h
  simp only [aAnd, aAndV, aAsg, aAsgT, aBk, aC, aCB, aCall, aCallK, aChain, aCons, aCt, aDget, aDispM, aDput, aDrop, aGN, aGcons, aGnil, aGtup, aIE, aIL, aIR1, aIR2, aIT, aIZ, aIf, aIfS, aIsi, aLst, aLstM, aMt, aMt0, aNever, aNil, aNoP, aNot, aNotV, aNx, aOp, aOr, aOrV, aPar, aPar3, aRet, aRetN, aRevD, aRevM, aSeq, aSl, aSmP, aTst, aTup, aUn, aVar, aYes, xAbs, xApp, xBools, xEqB, xGcd, xI, xIc, xInt, xInts, xIs_nn, xIs_bb, xIs_bn, xIs_in, xIs_sn, xIs_tn, xIs_ln, xLen, xListOfM, xMax, xMin, xNeg, xPop, xSum, xTupleOf, optW, view, W.isFn, List.forall_mem_cons, forall_nil, asB, onRL, isRL, pick, keyOf, val_cells, val_mixed, val_draws, put_draws, allD, finD, startA, List.map_cons, List.map_nil, List.length_cons, List.length_nil, List.replicate, List.cons_append, List.nil_append, List.append_nil, List.getElem?_cons_zero, List.getElem?_cons_succ, List.set_cons_zero, List.set_cons_succ, Option.join_some, Option.map_some, List.filterMap_cons, List.filterMap_nil, List.take, Nat.sub_self, Nat.add_one_sub_one, Nat.reduceSub, Nat.reduceAdd, List.replicate_zero, isT, atI_0, atI_1, size2, size1, size3, size0, true_and, and_true, Bool.true_eq_false, Bool.false_eq_true, if_true, if_false, ite_true, ite_false, reduceIte, eq_self, ex_app, ex_app2, ite_tt, ite_ft, List.cons.injEq, W.d.injEq, PyData.int.injEq, PyData.tuple.injEq, exists_eq_left', and_assoc, exists_and_left, eqOk_int, eqD_int, eqOk_fr, eqD_fr, eqOk_str, eqD_str, id, lo_ws1, lo_ws2, lo_ws3, Bool.not_true, Bool.not_false, Bool.and_true, Bool.and_false, Bool.true_and, Bool.false_and, Bool.or_true, Bool.or_false, Bool.true_or, Bool.false_or, aCallV, aCallL, capOf, onlyD, startL, aIZB, sqD, xIn, allS, xMulB, xStr, isStrW, xUpper, aLRg1, aRevT, rowD, rowsD, exists_eq_left, aIZG, seqG, SG, wipeA, lstOf, allBm, allIm, all_id, any_id, ones_ok, ones_eqD, aDic0, xReprA, xAdd_i, xAdd_s, xAdd_t, xAdd_l, xSl_t, xSl_l, xSl_s, xSl_scr, xListOf_t, xListOf_l, xIdx_t, xIdx_l, xIdx_s, xIdx_r, sp_is_row]
  by_cases e : tupN x 2 = true
  · obtain ⟨y, z, rfl⟩ := tup2 e
    simp only [aAnd, aAndV, aAsg, aAsgT, aBk, aC, aCB, aCall, aCallK, aChain, aCons, aCt, aDget, aDispM, aDput, aDrop, aGN, aGcons, aGnil, aGtup, aIE, aIL, aIR1, aIR2, aIT, aIZ, aIf, aIfS, aIsi, aLst, aLstM, aMt, aMt0, aNever, aNil, aNoP, aNot, aNotV, aNx, aOp, aOr, aOrV, aPar, aPar3, aRet, aRetN, aRevD, aRevM, aSeq, aSl, aSmP, aTst, aTup, aUn, aVar, aYes, xAbs, xApp, xBools, xEqB, xGcd, xI, xIc, xInt, xInts, xIs_nn, xIs_bb, xIs_bn, xIs_in, xIs_sn, xIs_tn, xIs_ln, xLen, xListOfM, xMax, xMin, xNeg, xPop, xSum, xTupleOf, optW, view, W.isFn, List.forall_mem_cons, forall_nil, asB, onRL, isRL, pick, keyOf, val_cells, val_mixed, val_draws, put_draws, allD, finD, startA, List.map_cons, List.map_nil, List.length_cons, List.length_nil, List.replicate, List.cons_append, List.nil_append, List.append_nil, List.getElem?_cons_zero, List.getElem?_cons_succ, List.set_cons_zero, List.set_cons_succ, Option.join_some, Option.map_some, List.filterMap_cons, List.filterMap_nil, List.take, Nat.sub_self, Nat.add_one_sub_one, Nat.reduceSub, Nat.reduceAdd, List.replicate_zero, isT, atI_0, atI_1, size2, size1, size3, size0, true_and, and_true, Bool.true_eq_false, Bool.false_eq_true, if_true, if_false, ite_true, ite_false, reduceIte, eq_self, ex_app, ex_app2, ite_tt, ite_ft, List.cons.injEq, W.d.injEq, PyData.int.injEq, PyData.tuple.injEq, exists_eq_left', and_assoc, exists_and_left, eqOk_int, eqD_int, eqOk_fr, eqD_fr, eqOk_str, eqD_str, id, lo_ws1, lo_ws2, lo_ws3, Bool.not_true, Bool.not_false, Bool.and_true, Bool.and_false, Bool.true_and, Bool.false_and, Bool.or_true, Bool.or_false, Bool.true_or, Bool.false_or, aCallV, aCallL, capOf, onlyD, startL, aIZB, sqD, xIn, allS, xMulB, xStr, isStrW, xUpper, aLRg1, aRevT, rowD, rowsD, exists_eq_left, aIZG, seqG, SG, wipeA, lstOf, allBm, allIm, all_id, any_id, ones_ok, ones_eqD, aDic0, xReprA, xAdd_i, xAdd_s, xAdd_t, xAdd_l, xSl_t, xSl_l, xSl_s, xSl_scr, xListOf_t, xListOf_l, xIdx_t, xIdx_l, xIdx_s, xIdx_r, e, sp_are_numbers, sp_is_bool]
    refine ⟨m, rfl, hz.tupI.2 y (by simp), ?_⟩
    unfold fStrict at q
    simp only at q
    refine ifd (fun e => ?_) fun e => ?_
    · rw [e] at q
      exact q
    · rw [e] at q
      exact q
  · rw [Bool.not_eq_true] at e
    rw [strict_no e] at q
    simp only [aAnd, aAndV, aAsg, aAsgT, aBk, aC, aCB, aCall, aCallK, aChain, aCons, aCt, aDget, aDispM, aDput, aDrop, aGN, aGcons, aGnil, aGtup, aIE, aIL, aIR1, aIR2, aIT, aIZ, aIf, aIfS, aIsi, aLst, aLstM, aMt, aMt0, aNever, aNil, aNoP, aNot, aNotV, aNx, aOp, aOr, aOrV, aPar, aPar3, aRet, aRetN, aRevD, aRevM, aSeq, aSl, aSmP, aTst, aTup, aUn, aVar, aYes, xAbs, xApp, xBools, xEqB, xGcd, xI, xIc, xInt, xInts, xIs_nn, xIs_bb, xIs_bn, xIs_in, xIs_sn, xIs_tn, xIs_ln, xLen, xListOfM, xMax, xMin, xNeg, xPop, xSum, xTupleOf, optW, view, W.isFn, List.forall_mem_cons, forall_nil, asB, onRL, isRL, pick, keyOf, val_cells, val_mixed, val_draws, put_draws, allD, finD, startA, List.map_cons, List.map_nil, List.length_cons, List.length_nil, List.replicate, List.cons_append, List.nil_append, List.append_nil, List.getElem?_cons_zero, List.getElem?_cons_succ, List.set_cons_zero, List.set_cons_succ, Option.join_some, Option.map_some, List.filterMap_cons, List.filterMap_nil, List.take, Nat.sub_self, Nat.add_one_sub_one, Nat.reduceSub, Nat.reduceAdd, List.replicate_zero, isT, atI_0, atI_1, size2, size1, size3, size0, true_and, and_true, Bool.true_eq_false, Bool.false_eq_true, if_true, if_false, ite_true, ite_false, reduceIte, eq_self, ex_app, ex_app2, ite_tt, ite_ft, List.cons.injEq, W.d.injEq, PyData.int.injEq, PyData.tuple.injEq, exists_eq_left', and_assoc, exists_and_left, eqOk_int, eqD_int, eqOk_fr, eqD_fr, eqOk_str, eqD_str, id, lo_ws1, lo_ws2, lo_ws3, Bool.not_true, Bool.not_false, Bool.and_true, Bool.and_false, Bool.true_and, Bool.false_and, Bool.or_true, Bool.or_false, Bool.true_or, Bool.false_or, aCallV, aCallL, capOf, onlyD, startL, aIZB, sqD, xIn, allS, xMulB, xStr, isStrW, xUpper, aLRg1, aRevT, rowD, rowsD, exists_eq_left, aIZG, seqG, SG, wipeA, lstOf, allBm, allIm, all_id, any_id, ones_ok, ones_eqD, aDic0, xReprA, xAdd_i, xAdd_s, xAdd_t, xAdd_l, xSl_t, xSl_l, xSl_s, xSl_scr, xListOf_t, xListOf_l, xIdx_t, xIdx_l, xIdx_s, xIdx_r, e]
    exact q
theorem ok_is_strict_row (T : Ty K mg base Tb) : Fdf P w K mg base (SG Tb) 3 "is_strict_row" ["many", "thing"] [] sp_is_strict_row := T.d_is_strict_row.fd fun f fd Fn => g_is_strict_row T Fn
def sp_is_tuple_of : ASp := fun ws ih Q => ∃ (m : Nat) (x : D), ws = [.d x, .fn 0 [.d (.int m)]] ∧ Sd 60 8000 x ∧ Q (.d (.bool (fRows m x))) ih
theorem g_is_tuple_of (T : Ty K mg base Tb) {f : Addr} {fd : FuncData} (Fn : Fun K "is_tuple_of" "is_tuple_of" st_is_tuple_of f fd) : FnG P w K mg base (SG Tb) 5 f fd ["thing", "look"] sp_is_tuple_of := by
  refine fnG_of Fn sc_is_tuple_of ((bv_one (sv_ret (ev_and (ev_isi .tuple (ev_var 0) rfl T.b_isinstance rfl T.b_tuple bt_tuple bt_isinstance) (ev_one (ev_callB cv_all rfl T.b_all bt_all (av_cons (ev_lc [("item", 2)] (iv_tup (ev_var 0)) (by show blkC ["thing", "look", "item"] (defScope st_is_tuple_of) _ _ = true; decide +kernel) (gw_name 2) tvs_nil (ev_callV 1 (av_cons (ev_var 2) av_nil))) av_nil))))))) fun ws ob Qa hl h => ?_
  obtain ⟨m, x, rfl, hz, q⟩ := h
  cases x with
  | tuple xs =>
    simp only [aAnd, aAndV, aAsg, aAsgT, aBk, aC, aCB, aCall, aCallK, aChain, aCons, aCt, aDget, aDispM, aDput, aDrop, aGN, aGcons, aGnil, aGtup, aIE, aIL, aIR1, aIR2, aIT, aIZ, aIf, aIfS, aIsi, aLst, aLstM, aMt, aMt0, aNever, aNil, aNoP, aNot, aNotV, aNx, aOp, aOr, aOrV, aPar, aPar3, aRet, aRetN, aRevD, aRevM, aSeq, aSl, aSmP, aTst, aTup, aUn, aVar, aYes, xAbs, xApp, xBools, xEqB, xGcd, xI, xIc, xInt, xInts, xIs_nn, xIs_bb, xIs_bn, xIs_in, xIs_sn, xIs_tn, xIs_ln, xLen, xListOfM, xMax, xMin, xNeg, xPop, xSum, xTupleOf, optW, view, W.isFn, List.forall_mem_cons, forall_nil, asB, onRL, isRL, pick, keyOf, val_cells, val_mixed, val_draws, put_draws, allD, finD, startA, List.map_cons, List.map_nil, List.length_cons, List.length_nil, List.replicate, List.cons_append, List.nil_append, List.append_nil, List.getElem?_cons_zero, List.getElem?_cons_succ, List.set_cons_zero, List.set_cons_succ, Option.join_some, Option.map_some, List.filterMap_cons, List.filterMap_nil, List.take, Nat.sub_self, Nat.add_one_sub_one, Nat.reduceSub, Nat.reduceAdd, List.replicate_zero, isT, atI_0, atI_1, size2, size1, size3, size0, true_and, and_true, Bool.true_eq_false, Bool.false_eq_true, if_true, if_false, ite_true, ite_false, reduceIte, eq_self, ex_app, ex_app2, ite_tt, ite_ft, List.cons.injEq, W.d.injEq, PyData.int.injEq, PyData.tuple.injEq, exists_eq_left', and_assoc, exists_and_left, eqOk_int, eqD_int, eqOk_fr, eqD_fr, eqOk_str, eqD_str, id, lo_ws1, lo_ws2, lo_ws3, Bool.not_true, Bool.not_false, Bool.and_true, Bool.and_false, Bool.true_and, Bool.false_and, Bool.or_true, Bool.or_false, Bool.true_or, Bool.false_or, aCallV, aCallL, capOf, onlyD, startL, aIZB, sqD, xIn, allS, xMulB, xStr, isStrW, xUpper, aLRg1, aRevT, rowD, rowsD, exists_eq_left, aIZG, seqG, SG, wipeA, lstOf, allBm, allIm, all_id, any_id, ones_ok, ones_eqD, aDic0, xReprA, xAdd_i, xAdd_s, xAdd_t, xAdd_l, xSl_t, xSl_l, xSl_s, xSl_scr, xListOf_t, xListOf_l, xIdx_t, xIdx_l, xIdx_s, xIdx_r]
    refine lc_mapL xs id (fun y => .bool (fStrict m y)) (fun R hR => by rw [List.map_id] at hR; exact hR) (len_le hz (Nat.le_refl _)) (fun a ha K1 hK => ?_) ?_
    · simp only [aAnd, aAndV, aAsg, aAsgT, aBk, aC, aCB, aCall, aCallK, aChain, aCons, aCt, aDget, aDispM, aDput, aDrop, aGN, aGcons, aGnil, aGtup, aIE, aIL, aIR1, aIR2, aIT, aIZ, aIf, aIfS, aIsi, aLst, aLstM, aMt, aMt0, aNever, aNil, aNoP, aNot, aNotV, aNx, aOp, aOr, aOrV, aPar, aPar3, aRet, aRetN, aRevD, aRevM, aSeq, aSl, aSmP, aTst, aTup, aUn, aVar, aYes, xAbs, xApp, xBools, xEqB, xGcd, xI, xIc, xInt, xInts, xIs_nn, xIs_bb, xIs_bn, xIs_in, xIs_sn, xIs_tn, xIs_ln, xLen, xListOfM, xMax, xMin, xNeg, xPop, xSum, xTupleOf, optW, view, W.isFn, List.forall_mem_cons, forall_nil, asB, onRL, isRL, pick, keyOf, val_cells, val_mixed, val_draws, put_draws, allD, finD, startA, List.map_cons, List.map_nil, List.length_cons, List.length_nil, List.replicate, List.cons_append, List.nil_append, List.append_nil, List.getElem?_cons_zero, List.getElem?_cons_succ, List.set_cons_zero, List.set_cons_succ, Option.join_some, Option.map_some, List.filterMap_cons, List.filterMap_nil, List.take, Nat.sub_self, Nat.add_one_sub_one, Nat.reduceSub, Nat.reduceAdd, List.replicate_zero, isT, atI_0, atI_1, size2, size1, size3, size0, true_and, and_true, Bool.true_eq_false, Bool.false_eq_true, if_true, if_false, ite_true, ite_false, reduceIte, eq_self, ex_app, ex_app2, ite_tt, ite_ft, List.cons.injEq, W.d.injEq, PyData.int.injEq, PyData.tuple.injEq, exists_eq_left', and_assoc, exists_and_left, eqOk_int, eqD_int, eqOk_fr, eqD_fr, eqOk_str, eqD_str, id, lo_ws1, lo_ws2, lo_ws3, Bool.not_true, Bool.not_false, Bool.and_true, Bool.and_false, Bool.true_and, Bool.false_and, Bool.or_true, Bool.or_false, Bool.true_or, Bool.false_or, aCallV, aCallL, capOf, onlyD, startL, aIZB, sqD, xIn, allS, xMulB, xStr, isStrW, xUpper, aLRg1, aRevT, rowD, rowsD, exists_eq_left, aIZG, seqG, SG, wipeA, lstOf, allBm, allIm, all_id, any_id, ones_ok, ones_eqD, aDic0, xReprA, xAdd_i, xAdd_s, xAdd_t, xAdd_l, xSl_t, xSl_l, xSl_s, xSl_scr, xListOf_t, xListOf_l, xIdx_t, xIdx_l, xIdx_s, xIdx_r]
      exact ⟨by show (4 : Nat) ≤ 4; omega, rfl, m, a, rfl, rfl, hz.tupI.2 a ha, hK⟩
    · simp only [aAnd, aAndV, aAsg, aAsgT, aBk, aC, aCB, aCall, aCallK, aChain, aCons, aCt, aDget, aDispM, aDput, aDrop, aGN, aGcons, aGnil, aGtup, aIE, aIL, aIR1, aIR2, aIT, aIZ, aIf, aIfS, aIsi, aLst, aLstM, aMt, aMt0, aNever, aNil, aNoP, aNot, aNotV, aNx, aOp, aOr, aOrV, aPar, aPar3, aRet, aRetN, aRevD, aRevM, aSeq, aSl, aSmP, aTst, aTup, aUn, aVar, aYes, xAbs, xApp, xBools, xEqB, xGcd, xI, xIc, xInt, xInts, xIs_nn, xIs_bb, xIs_bn, xIs_in, xIs_sn, xIs_tn, xIs_ln, xLen, xListOfM, xMax, xMin, xNeg, xPop, xSum, xTupleOf, optW, view, W.isFn, List.forall_mem_cons, forall_nil, asB, onRL, isRL, pick, keyOf, val_cells, val_mixed, val_draws, put_draws, allD, finD, startA, List.map_cons, List.map_nil, List.length_cons, List.length_nil, List.replicate, List.cons_append, List.nil_append, List.append_nil, List.getElem?_cons_zero, List.getElem?_cons_succ, List.set_cons_zero, List.set_cons_succ, Option.join_some, Option.map_some, List.filterMap_cons, List.filterMap_nil, List.take, Nat.sub_self, Nat.add_one_sub_one, Nat.reduceSub, Nat.reduceAdd, List.replicate_zero, isT, atI_0, atI_1, size2, size1, size3, size0, true_and, and_true, Bool.true_eq_false, Bool.false_eq_true, if_true, if_false, ite_true, ite_false, reduceIte, eq_self, ex_app, ex_app2, ite_tt, ite_ft, List.cons.injEq, W.d.injEq, PyData.int.injEq, PyData.tuple.injEq, exists_eq_left', and_assoc, exists_and_left, eqOk_int, eqD_int, eqOk_fr, eqD_fr, eqOk_str, eqD_str, id, lo_ws1, lo_ws2, lo_ws3, Bool.not_true, Bool.not_false, Bool.and_true, Bool.and_false, Bool.true_and, Bool.false_and, Bool.or_true, Bool.or_false, Bool.true_or, Bool.false_or, aCallV, aCallL, capOf, onlyD, startL, aIZB, sqD, xIn, allS, xMulB, xStr, isStrW, xUpper, aLRg1, aRevT, rowD, rowsD, exists_eq_left, aIZG, seqG, SG, wipeA, lstOf, allBm, allIm, all_id, any_id, ones_ok, ones_eqD, aDic0, xReprA, xAdd_i, xAdd_s, xAdd_t, xAdd_l, xSl_t, xSl_l, xSl_s, xSl_scr, xListOf_t, xListOf_l, xIdx_t, xIdx_l, xIdx_s, xIdx_r]
      exact q
  | _ => simp only [aAnd, aAndV, aAsg, aAsgT, aBk, aC, aCB, aCall, aCallK, aChain, aCons, aCt, aDget, aDispM, aDput, aDrop, aGN, aGcons, aGnil, aGtup, aIE, aIL, aIR1, aIR2, aIT, aIZ, aIf, aIfS, aIsi, aLst, aLstM, aMt, aMt0, aNever, aNil, aNoP, aNot, aNotV, aNx, aOp, aOr, aOrV, aPar, aPar3, aRet, aRetN, aRevD, aRevM, aSeq, aSl, aSmP, aTst, aTup, aUn, aVar, aYes, xAbs, xApp, xBools, xEqB, xGcd, xI, xIc, xInt, xInts, xIs_nn, xIs_bb, xIs_bn, xIs_in, xIs_sn, xIs_tn, xIs_ln, xLen, xListOfM, xMax, xMin, xNeg, xPop, xSum, xTupleOf, optW, view, W.isFn, List.forall_mem_cons, forall_nil, asB, onRL, isRL, pick, keyOf, val_cells, val_mixed, val_draws, put_draws, allD, finD, startA, List.map_cons, List.map_nil, List.length_cons, List.length_nil, List.replicate, List.cons_append, List.nil_append, List.append_nil, List.getElem?_cons_zero, List.getElem?_cons_succ, List.set_cons_zero, List.set_cons_succ, Option.join_some, Option.map_some, List.filterMap_cons, List.filterMap_nil, List.take, Nat.sub_self, Nat.add_one_sub_one, Nat.reduceSub, Nat.reduceAdd, List.replicate_zero, isT, atI_0, atI_1, size2, size1, size3, size0, true_and, and_true, Bool.true_eq_false, Bool.false_eq_true, if_true, if_false, ite_true, ite_false, reduceIte, eq_self, ex_app, ex_app2, ite_tt, ite_ft, List.cons.injEq, W.d.injEq, PyData.int.injEq, PyData.tuple.injEq, exists_eq_left', and_assoc, exists_and_left, eqOk_int, eqD_int, eqOk_fr, eqD_fr, eqOk_str, eqD_str, id, lo_ws1, lo_ws2, lo_ws3, Bool.not_true, Bool.not_false, Bool.and_true, Bool.and_false, Bool.true_and, Bool.false_and, Bool.or_true, Bool.or_false, Bool.true_or, Bool.false_or, aCallV, aCallL, capOf, onlyD, startL, aIZB, sqD, xIn, allS, xMulB, xStr, isStrW, xUpper, aLRg1, aRevT, rowD, rowsD, exists_eq_left, aIZG, seqG, SG, wipeA, lstOf, allBm, allIm, all_id, any_id, ones_ok, ones_eqD, aDic0, xReprA, xAdd_i, xAdd_s, xAdd_t, xAdd_l, xSl_t, xSl_l, xSl_s, xSl_scr, xListOf_t, xListOf_l, xIdx_t, xIdx_l, xIdx_s, xIdx_r]; exact q
theorem ok_is_tuple_of (T : Ty K mg base Tb) : Fdf P w K mg base (SG Tb) 5 "is_tuple_of" ["thing", "look"] [] sp_is_tuple_of := T.d_is_tuple_of.fd fun f fd Fn => g_is_tuple_of T Fn
def sp_are_rows : ASp := fun ws ih Q => ∃ (m : Nat) (x : D), ws = [.d (.int m), .d x] ∧ Sd 60 8000 x ∧ ih[0]? = some (.tab "are_rows.<locals>.<lambda>") ∧ Q (.d (.bool (fRows m x))) ih
theorem g_are_rows (T : Ty K mg base Tb) {f : Addr} {fd : FuncData} (Fn : Fun K "are_rows" "are_rows" st_are_rows f fd) {c tP : Addr} (hcd : fd.code = .ref c) (tb : TabB base mg c tP) (hT : Tb[0]? = some tP) : FnG P w K mg base (SG Tb) 6 f fd ["many", "thing"] sp_are_rows := by
  refine fnG_of Fn sc_are_rows ((bv_one (sv_ret (evc_lam (N := ["row", "many"]) (ps := ["row"]) (fr := ["many"]) (k2 := 3) (q := "are_rows.<locals>.<lambda>") 0 [0] 0 (ok_is_tuple_of T) (Nat.le_of_ble_eq_true rfl) rfl (ev_var 1) tb hT (fun X hX => by obtain ⟨A, o, s, H, g, r, rfl⟩ := hX; exact hcd) (fun X hX => by obtain ⟨A, o, s, H, g, r, rfl⟩ := hX; rfl) (fun X hX y => fn_def X hX) (NdefX.nscope_by (by decide +kernel)) rfl (fun cl c f => (evc (ok_is_strict_row T) (Nat.le_of_ble_eq_true rfl) rfl (av_cons (ev_var 1) (av_cons (ev_var 0) av_nil)))) (by show ∀ y : Str × NameKind, y ∈ _ → y.2 = NameKind.free → List.lookup y.1 (defScope st_are_rows).names = _ ∨ List.lookup y.1 (defScope st_are_rows).names = _; decide +kernel) (by decide +kernel) rfl (fun _ _ _ _ us hl => match us, hl with | [_], _ => rfl))))) fun ws ob Qa hl h => ?_
  obtain ⟨m, x, rfl, hz, ht, q⟩ := h
  simp only [aAnd, aAndV, aAsg, aAsgT, aBk, aC, aCB, aCall, aCallK, aChain, aCons, aCt, aDget, aDispM, aDput, aDrop, aGN, aGcons, aGnil, aGtup, aIE, aIL, aIR1, aIR2, aIT, aIZ, aIf, aIfS, aIsi, aLst, aLstM, aMt, aMt0, aNever, aNil, aNoP, aNot, aNotV, aNx, aOp, aOr, aOrV, aPar, aPar3, aRet, aRetN, aRevD, aRevM, aSeq, aSl, aSmP, aTst, aTup, aUn, aVar, aYes, xAbs, xApp, xBools, xEqB, xGcd, xI, xIc, xInt, xInts, xIs_nn, xIs_bb, xIs_bn, xIs_in, xIs_sn, xIs_tn, xIs_ln, xLen, xListOfM, xMax, xMin, xNeg, xPop, xSum, xTupleOf, optW, view, W.isFn, List.forall_mem_cons, forall_nil, asB, onRL, isRL, pick, keyOf, val_cells, val_mixed, val_draws, put_draws, allD, finD, startA, List.map_cons, List.map_nil, List.length_cons, List.length_nil, List.replicate, List.cons_append, List.nil_append, List.append_nil, List.getElem?_cons_zero, List.getElem?_cons_succ, List.set_cons_zero, List.set_cons_succ, Option.join_some, Option.map_some, List.filterMap_cons, List.filterMap_nil, List.take, Nat.sub_self, Nat.add_one_sub_one, Nat.reduceSub, Nat.reduceAdd, List.replicate_zero, isT, atI_0, atI_1, size2, size1, size3, size0, true_and, and_true, Bool.true_eq_false, Bool.false_eq_true, if_true, if_false, ite_true, ite_false, reduceIte, eq_self, ex_app, ex_app2, ite_tt, ite_ft, List.cons.injEq, W.d.injEq, PyData.int.injEq, PyData.tuple.injEq, exists_eq_left', and_assoc, exists_and_left, eqOk_int, eqD_int, eqOk_fr, eqD_fr, eqOk_str, eqD_str, id, lo_ws1, lo_ws2, lo_ws3, Bool.not_true, Bool.not_false, Bool.and_true, Bool.and_false, Bool.true_and, Bool.false_and, Bool.or_true, Bool.or_false, Bool.true_or, Bool.false_or, aCallV, aCallL, capOf, onlyD, startL, aIZB, sqD, xIn, allS, xMulB, xStr, isStrW, xUpper, aLRg1, aRevT, rowD, rowsD, exists_eq_left, aIZG, seqG, SG, wipeA, lstOf, allBm, allIm, all_id, any_id, ones_ok, ones_eqD, aDic0, xReprA, xAdd_i, xAdd_s, xAdd_t, xAdd_l, xSl_t, xSl_l, xSl_s, xSl_scr, xListOf_t, xListOf_l, xIdx_t, xIdx_l, xIdx_s, xIdx_r, sp_is_tuple_of]
  refine ⟨ht, fun ws ih2 Qb h => ?_, m, rfl, hz, q⟩
  obtain ⟨_, m', y, e, rfl, h1, h2⟩ := h
  have em : (m : Int) = m' := by
    have := List.cons.inj e
    cases this.1
    rfl
  refine ⟨rfl, fun y hy => by rw [List.mem_singleton.mp hy], ?_⟩
  simp only [aAnd, aAndV, aAsg, aAsgT, aBk, aC, aCB, aCall, aCallK, aChain, aCons, aCt, aDget, aDispM, aDput, aDrop, aGN, aGcons, aGnil, aGtup, aIE, aIL, aIR1, aIR2, aIT, aIZ, aIf, aIfS, aIsi, aLst, aLstM, aMt, aMt0, aNever, aNil, aNoP, aNot, aNotV, aNx, aOp, aOr, aOrV, aPar, aPar3, aRet, aRetN, aRevD, aRevM, aSeq, aSl, aSmP, aTst, aTup, aUn, aVar, aYes, xAbs, xApp, xBools, xEqB, xGcd, xI, xIc, xInt, xInts, xIs_nn, xIs_bb, xIs_bn, xIs_in, xIs_sn, xIs_tn, xIs_ln, xLen, xListOfM, xMax, xMin, xNeg, xPop, xSum, xTupleOf, optW, view, W.isFn, List.forall_mem_cons, forall_nil, asB, onRL, isRL, pick, keyOf, val_cells, val_mixed, val_draws, put_draws, allD, finD, startA, List.map_cons, List.map_nil, List.length_cons, List.length_nil, List.replicate, List.cons_append, List.nil_append, List.append_nil, List.getElem?_cons_zero, List.getElem?_cons_succ, List.set_cons_zero, List.set_cons_succ, Option.join_some, Option.map_some, List.filterMap_cons, List.filterMap_nil, List.take, Nat.sub_self, Nat.add_one_sub_one, Nat.reduceSub, Nat.reduceAdd, List.replicate_zero, isT, atI_0, atI_1, size2, size1, size3, size0, true_and, and_true, Bool.true_eq_false, Bool.false_eq_true, if_true, if_false, ite_true, ite_false, reduceIte, eq_self, ex_app, ex_app2, ite_tt, ite_ft, List.cons.injEq, W.d.injEq, PyData.int.injEq, PyData.tuple.injEq, exists_eq_left', and_assoc, exists_and_left, eqOk_int, eqD_int, eqOk_fr, eqD_fr, eqOk_str, eqD_str, id, lo_ws1, lo_ws2, lo_ws3, Bool.not_true, Bool.not_false, Bool.and_true, Bool.and_false, Bool.true_and, Bool.false_and, Bool.or_true, Bool.or_false, Bool.true_or, Bool.false_or, aCallV, aCallL, capOf, onlyD, startL, aIZB, sqD, xIn, allS, xMulB, xStr, isStrW, xUpper, aLRg1, aRevT, rowD, rowsD, exists_eq_left, aIZG, seqG, SG, wipeA, lstOf, allBm, allIm, all_id, any_id, ones_ok, ones_eqD, aDic0, xReprA, xAdd_i, xAdd_s, xAdd_t, xAdd_l, xSl_t, xSl_l, xSl_s, xSl_scr, xListOf_t, xListOf_l, xIdx_t, xIdx_l, xIdx_s, xIdx_r, sp_is_strict_row]
  exact ⟨m', em, h1, h2⟩
theorem ok_are_rows (T : Ty K mg base Tb) : Fdf P w K mg base (SG Tb) 6 "are_rows" ["many", "thing"] [] sp_are_rows := by
  obtain ⟨c, tP, h1, h2, h3⟩ := T.l_0
  exact T.d_are_rows.fdc h1 fun f fd Fn hcd => g_are_rows T Fn hcd h2 h3
def sp_need_many : ASp := fun ws ih Q => ∃ (m : Nat), ws = [.d (.int m)] ∧ 1 ≤ m ∧ Q (.d .none) ih
theorem g_need_many (T : Ty K mg base Tb) {f : Addr} {fd : FuncData} (Fn : Fun K "need_many" "need_many" st_need_many f fd) : FnG P w K mg base (SG Tb) 3 f fd ["many"] sp_need_many := by
  refine fnG_of Fn sc_need_many ((bv_one (sv_if (tv_not (tv_val (evc (ok_is_from T) (Nat.le_of_ble_eq_true rfl) rfl (av_cons (ev_var 0) (av_cons ev_int av_nil))))) (bv_one sv_never) bv_nil))) fun ws ob Qa hl h => ?_
  obtain ⟨m, rfl, hm, q⟩ := h
  have e : frI (.int m) 1 = true := by show decide ((1 : Int) ≤ (m : Int)) = true; exact decide_eq_true (by omega)
  simp only [aAnd, aAndV, aAsg, aAsgT, aBk, aC, aCB, aCall, aCallK, aChain, aCons, aCt, aDget, aDispM, aDput, aDrop, aGN, aGcons, aGnil, aGtup, aIE, aIL, aIR1, aIR2, aIT, aIZ, aIf, aIfS, aIsi, aLst, aLstM, aMt, aMt0, aNever, aNil, aNoP, aNot, aNotV, aNx, aOp, aOr, aOrV, aPar, aPar3, aRet, aRetN, aRevD, aRevM, aSeq, aSl, aSmP, aTst, aTup, aUn, aVar, aYes, xAbs, xApp, xBools, xEqB, xGcd, xI, xIc, xInt, xInts, xIs_nn, xIs_bb, xIs_bn, xIs_in, xIs_sn, xIs_tn, xIs_ln, xLen, xListOfM, xMax, xMin, xNeg, xPop, xSum, xTupleOf, optW, view, W.isFn, List.forall_mem_cons, forall_nil, asB, onRL, isRL, pick, keyOf, val_cells, val_mixed, val_draws, put_draws, allD, finD, startA, List.map_cons, List.map_nil, List.length_cons, List.length_nil, List.replicate, List.cons_append, List.nil_append, List.append_nil, List.getElem?_cons_zero, List.getElem?_cons_succ, List.set_cons_zero, List.set_cons_succ, Option.join_some, Option.map_some, List.filterMap_cons, List.filterMap_nil, List.take, Nat.sub_self, Nat.add_one_sub_one, Nat.reduceSub, Nat.reduceAdd, List.replicate_zero, isT, atI_0, atI_1, size2, size1, size3, size0, true_and, and_true, Bool.true_eq_false, Bool.false_eq_true, if_true, if_false, ite_true, ite_false, reduceIte, eq_self, ex_app, ex_app2, ite_tt, ite_ft, List.cons.injEq, W.d.injEq, PyData.int.injEq, PyData.tuple.injEq, exists_eq_left', and_assoc, exists_and_left, eqOk_int, eqD_int, eqOk_fr, eqD_fr, eqOk_str, eqD_str, id, lo_ws1, lo_ws2, lo_ws3, Bool.not_true, Bool.not_false, Bool.and_true, Bool.and_false, Bool.true_and, Bool.false_and, Bool.or_true, Bool.or_false, Bool.true_or, Bool.false_or, aCallV, aCallL, capOf, onlyD, startL, aIZB, sqD, xIn, allS, xMulB, xStr, isStrW, xUpper, aLRg1, aRevT, rowD, rowsD, exists_eq_left, aIZG, seqG, SG, wipeA, lstOf, allBm, allIm, all_id, any_id, ones_ok, ones_eqD, aDic0, xReprA, xAdd_i, xAdd_s, xAdd_t, xAdd_l, xSl_t, xSl_l, xSl_s, xSl_scr, xListOf_t, xListOf_l, xIdx_t, xIdx_l, xIdx_s, xIdx_r, sp_is_from, e]
  exact q
theorem ok_need_many (T : Ty K mg base Tb) : Fdf P w K mg base (SG Tb) 3 "need_many" ["many"] [] sp_need_many := T.d_need_many.fd fun f fd Fn => g_need_many T Fn
def sp_is_rows : ASp := fun ws ih Q => ∃ (m : Nat) (x : D), ws = [.d (.int m), .d x] ∧ 1 ≤ m ∧ Sd 60 8000 x ∧ ih[0]? = some (.tab "are_rows.<locals>.<lambda>") ∧ Q (.d (.bool (fRows m x))) ih
theorem g_is_rows (T : Ty K mg base Tb) {f : Addr} {fd : FuncData} (Fn : Fun K "is_rows" "is_rows" st_is_rows f fd) : FnG P w K mg base (SG Tb) 7 f fd ["many", "thing"] sp_is_rows := by
  refine fnG_of Fn sc_is_rows ((bv_cons (sv_expr (evc (ok_need_many T) (Nat.le_of_ble_eq_true rfl) rfl (av_cons (ev_var 0) av_nil)))
      (bv_one (sv_ret (evc (ok_are_rows T) (Nat.le_of_ble_eq_true rfl) rfl (av_cons (ev_var 0) (av_cons (ev_var 1) av_nil))))))) fun ws ob Qa hl h => ?_
  obtain ⟨m, x, rfl, hm, hz, ht, q⟩ := h
  simp only [aAnd, aAndV, aAsg, aAsgT, aBk, aC, aCB, aCall, aCallK, aChain, aCons, aCt, aDget, aDispM, aDput, aDrop, aGN, aGcons, aGnil, aGtup, aIE, aIL, aIR1, aIR2, aIT, aIZ, aIf, aIfS, aIsi, aLst, aLstM, aMt, aMt0, aNever, aNil, aNoP, aNot, aNotV, aNx, aOp, aOr, aOrV, aPar, aPar3, aRet, aRetN, aRevD, aRevM, aSeq, aSl, aSmP, aTst, aTup, aUn, aVar, aYes, xAbs, xApp, xBools, xEqB, xGcd, xI, xIc, xInt, xInts, xIs_nn, xIs_bb, xIs_bn, xIs_in, xIs_sn, xIs_tn, xIs_ln, xLen, xListOfM, xMax, xMin, xNeg, xPop, xSum, xTupleOf, optW, view, W.isFn, List.forall_mem_cons, forall_nil, asB, onRL, isRL, pick, keyOf, val_cells, val_mixed, val_draws, put_draws, allD, finD, startA, List.map_cons, List.map_nil, List.length_cons, List.length_nil, List.replicate, List.cons_append, List.nil_append, List.append_nil, List.getElem?_cons_zero, List.getElem?_cons_succ, List.set_cons_zero, List.set_cons_succ, Option.join_some, Option.map_some, List.filterMap_cons, List.filterMap_nil, List.take, Nat.sub_self, Nat.add_one_sub_one, Nat.reduceSub, Nat.reduceAdd, List.replicate_zero, isT, atI_0, atI_1, size2, size1, size3, size0, true_and, and_true, Bool.true_eq_false, Bool.false_eq_true, if_true, if_false, ite_true, ite_false, reduceIte, eq_self, ex_app, ex_app2, ite_tt, ite_ft, List.cons.injEq, W.d.injEq, PyData.int.injEq, PyData.tuple.injEq, exists_eq_left', and_assoc, exists_and_left, eqOk_int, eqD_int, eqOk_fr, eqD_fr, eqOk_str, eqD_str, id, lo_ws1, lo_ws2, lo_ws3, Bool.not_true, Bool.not_false, Bool.and_true, Bool.and_false, Bool.true_and, Bool.false_and, Bool.or_true, Bool.or_false, Bool.true_or, Bool.false_or, aCallV, aCallL, capOf, onlyD, startL, aIZB, sqD, xIn, allS, xMulB, xStr, isStrW, xUpper, aLRg1, aRevT, rowD, rowsD, exists_eq_left, aIZG, seqG, SG, wipeA, lstOf, allBm, allIm, all_id, any_id, ones_ok, ones_eqD, aDic0, xReprA, xAdd_i, xAdd_s, xAdd_t, xAdd_l, xSl_t, xSl_l, xSl_s, xSl_scr, xListOf_t, xListOf_l, xIdx_t, xIdx_l, xIdx_s, xIdx_r, sp_need_many, sp_are_rows]
  exact ⟨m, rfl, hm, m, rfl, hz, ht, q⟩
theorem ok_is_rows (T : Ty K mg base Tb) : Fdf P w K mg base (SG Tb) 7 "is_rows" ["many", "thing"] [(["thing", "many"], 0, 2, [1, 0])] sp_is_rows := T.d_is_rows.fd fun f fd Fn => g_is_rows T Fn
def sp_is_fraction_value : ASp := fun ws ih Q => ∃ x : D, ws = [.d x] ∧ Q (.d (.bool (fFr x))) ih
theorem g_is_fraction_value (T : Ty K mg base Tb) {f : Addr} {fd : FuncData} (Fn : Fun K "is_fraction_value" "is_fraction_value" st_is_fraction_value f fd) : FnG P w K mg base (SG Tb) 3 f fd ["thing"] sp_is_fraction_value := by
  refine fnG_of Fn sc_is_fraction_value ((bv_one (sv_ret (ev_and (evc (ok_is_row T) (Nat.le_of_ble_eq_true rfl) rfl (av_cons (ev_var 0) (av_cons ev_int av_nil))) (ev_and (evc (ok_is_int T) (Nat.le_of_ble_eq_true rfl) rfl (av_cons (ev_ix (ev_var 0) ev_int) av_nil)) (ev_and (evc (ok_is_from T) (Nat.le_of_ble_eq_true rfl) rfl (av_cons (ev_ix (ev_var 0) ev_int) (av_cons ev_int av_nil))) (ev_one (ev_cmp ov_eq (ev_callM cv_gcd rfl T.m_gcd (av_cons (ev_ix (ev_var 0) ev_int) (av_cons (ev_ix (ev_var 0) ev_int) av_nil))) ev_int)))))))) fun ws ob Qa hl h => ?_
  obtain ⟨x, rfl, q⟩ := h
  simp only [aAnd, aAndV, aAsg, aAsgT, aBk, aC, aCB, aCall, aCallK, aChain, aCons, aCt, aDget, aDispM, aDput, aDrop, aGN, aGcons, aGnil, aGtup, aIE, aIL, aIR1, aIR2, aIT, aIZ, aIf, aIfS, aIsi, aLst, aLstM, aMt, aMt0, aNever, aNil, aNoP, aNot, aNotV, aNx, aOp, aOr, aOrV, aPar, aPar3, aRet, aRetN, aRevD, aRevM, aSeq, aSl, aSmP, aTst, aTup, aUn, aVar, aYes, xAbs, xApp, xBools, xEqB, xGcd, xI, xIc, xInt, xInts, xIs_nn, xIs_bb, xIs_bn, xIs_in, xIs_sn, xIs_tn, xIs_ln, xLen, xListOfM, xMax, xMin, xNeg, xPop, xSum, xTupleOf, optW, view, W.isFn, List.forall_mem_cons, forall_nil, asB, onRL, isRL, pick, keyOf, val_cells, val_mixed, val_draws, put_draws, allD, finD, startA, List.map_cons, List.map_nil, List.length_cons, List.length_nil, List.replicate, List.cons_append, List.nil_append, List.append_nil, List.getElem?_cons_zero, List.getElem?_cons_succ, List.set_cons_zero, List.set_cons_succ, Option.join_some, Option.map_some, List.filterMap_cons, List.filterMap_nil, List.take, Nat.sub_self, Nat.add_one_sub_one, Nat.reduceSub, Nat.reduceAdd, List.replicate_zero, isT, atI_0, atI_1, size2, size1, size3, size0, true_and, and_true, Bool.true_eq_false, Bool.false_eq_true, if_true, if_false, ite_true, ite_false, reduceIte, eq_self, ex_app, ex_app2, ite_tt, ite_ft, List.cons.injEq, W.d.injEq, PyData.int.injEq, PyData.tuple.injEq, exists_eq_left', and_assoc, exists_and_left, eqOk_int, eqD_int, eqOk_fr, eqD_fr, eqOk_str, eqD_str, id, lo_ws1, lo_ws2, lo_ws3, Bool.not_true, Bool.not_false, Bool.and_true, Bool.and_false, Bool.true_and, Bool.false_and, Bool.or_true, Bool.or_false, Bool.true_or, Bool.false_or, aCallV, aCallL, capOf, onlyD, startL, aIZB, sqD, xIn, allS, xMulB, xStr, isStrW, xUpper, aLRg1, aRevT, rowD, rowsD, exists_eq_left, aIZG, seqG, SG, wipeA, lstOf, allBm, allIm, all_id, any_id, ones_ok, ones_eqD, aDic0, xReprA, xAdd_i, xAdd_s, xAdd_t, xAdd_l, xSl_t, xSl_l, xSl_s, xSl_scr, xListOf_t, xListOf_l, xIdx_t, xIdx_l, xIdx_s, xIdx_r, sp_is_row]
  by_cases e : tupN x 2 = true
  · obtain ⟨y, z, rfl⟩ := tup2 e
    simp only [aAnd, aAndV, aAsg, aAsgT, aBk, aC, aCB, aCall, aCallK, aChain, aCons, aCt, aDget, aDispM, aDput, aDrop, aGN, aGcons, aGnil, aGtup, aIE, aIL, aIR1, aIR2, aIT, aIZ, aIf, aIfS, aIsi, aLst, aLstM, aMt, aMt0, aNever, aNil, aNoP, aNot, aNotV, aNx, aOp, aOr, aOrV, aPar, aPar3, aRet, aRetN, aRevD, aRevM, aSeq, aSl, aSmP, aTst, aTup, aUn, aVar, aYes, xAbs, xApp, xBools, xEqB, xGcd, xI, xIc, xInt, xInts, xIs_nn, xIs_bb, xIs_bn, xIs_in, xIs_sn, xIs_tn, xIs_ln, xLen, xListOfM, xMax, xMin, xNeg, xPop, xSum, xTupleOf, optW, view, W.isFn, List.forall_mem_cons, forall_nil, asB, onRL, isRL, pick, keyOf, val_cells, val_mixed, val_draws, put_draws, allD, finD, startA, List.map_cons, List.map_nil, List.length_cons, List.length_nil, List.replicate, List.cons_append, List.nil_append, List.append_nil, List.getElem?_cons_zero, List.getElem?_cons_succ, List.set_cons_zero, List.set_cons_succ, Option.join_some, Option.map_some, List.filterMap_cons, List.filterMap_nil, List.take, Nat.sub_self, Nat.add_one_sub_one, Nat.reduceSub, Nat.reduceAdd, List.replicate_zero, isT, atI_0, atI_1, size2, size1, size3, size0, true_and, and_true, Bool.true_eq_false, Bool.false_eq_true, if_true, if_false, ite_true, ite_false, reduceIte, eq_self, ex_app, ex_app2, ite_tt, ite_ft, List.cons.injEq, W.d.injEq, PyData.int.injEq, PyData.tuple.injEq, exists_eq_left', and_assoc, exists_and_left, eqOk_int, eqD_int, eqOk_fr, eqD_fr, eqOk_str, eqD_str, id, lo_ws1, lo_ws2, lo_ws3, Bool.not_true, Bool.not_false, Bool.and_true, Bool.and_false, Bool.true_and, Bool.false_and, Bool.or_true, Bool.or_false, Bool.true_or, Bool.false_or, aCallV, aCallL, capOf, onlyD, startL, aIZB, sqD, xIn, allS, xMulB, xStr, isStrW, xUpper, aLRg1, aRevT, rowD, rowsD, exists_eq_left, aIZG, seqG, SG, wipeA, lstOf, allBm, allIm, all_id, any_id, ones_ok, ones_eqD, aDic0, xReprA, xAdd_i, xAdd_s, xAdd_t, xAdd_l, xSl_t, xSl_l, xSl_s, xSl_scr, xListOf_t, xListOf_l, xIdx_t, xIdx_l, xIdx_s, xIdx_r, e, sp_is_int, sp_is_from]
    cases y with
    | int n =>
      cases z with
      | int d =>
        unfold fFr at q
        simp only at q
        by_cases h1 : 1 ≤ d
        · simp only [h1, decide_true, Bool.true_and] at q
          simp only [aAnd, aAndV, aAsg, aAsgT, aBk, aC, aCB, aCall, aCallK, aChain, aCons, aCt, aDget, aDispM, aDput, aDrop, aGN, aGcons, aGnil, aGtup, aIE, aIL, aIR1, aIR2, aIT, aIZ, aIf, aIfS, aIsi, aLst, aLstM, aMt, aMt0, aNever, aNil, aNoP, aNot, aNotV, aNx, aOp, aOr, aOrV, aPar, aPar3, aRet, aRetN, aRevD, aRevM, aSeq, aSl, aSmP, aTst, aTup, aUn, aVar, aYes, xAbs, xApp, xBools, xEqB, xGcd, xI, xIc, xInt, xInts, xIs_nn, xIs_bb, xIs_bn, xIs_in, xIs_sn, xIs_tn, xIs_ln, xLen, xListOfM, xMax, xMin, xNeg, xPop, xSum, xTupleOf, optW, view, W.isFn, List.forall_mem_cons, forall_nil, asB, onRL, isRL, pick, keyOf, val_cells, val_mixed, val_draws, put_draws, allD, finD, startA, List.map_cons, List.map_nil, List.length_cons, List.length_nil, List.replicate, List.cons_append, List.nil_append, List.append_nil, List.getElem?_cons_zero, List.getElem?_cons_succ, List.set_cons_zero, List.set_cons_succ, Option.join_some, Option.map_some, List.filterMap_cons, List.filterMap_nil, List.take, Nat.sub_self, Nat.add_one_sub_one, Nat.reduceSub, Nat.reduceAdd, List.replicate_zero, isT, atI_0, atI_1, size2, size1, size3, size0, true_and, and_true, Bool.true_eq_false, Bool.false_eq_true, if_true, if_false, ite_true, ite_false, reduceIte, eq_self, ex_app, ex_app2, ite_tt, ite_ft, List.cons.injEq, W.d.injEq, PyData.int.injEq, PyData.tuple.injEq, exists_eq_left', and_assoc, exists_and_left, eqOk_int, eqD_int, eqOk_fr, eqD_fr, eqOk_str, eqD_str, id, lo_ws1, lo_ws2, lo_ws3, Bool.not_true, Bool.not_false, Bool.and_true, Bool.and_false, Bool.true_and, Bool.false_and, Bool.or_true, Bool.or_false, Bool.true_or, Bool.false_or, aCallV, aCallL, capOf, onlyD, startL, aIZB, sqD, xIn, allS, xMulB, xStr, isStrW, xUpper, aLRg1, aRevT, rowD, rowsD, exists_eq_left, aIZG, seqG, SG, wipeA, lstOf, allBm, allIm, all_id, any_id, ones_ok, ones_eqD, aDic0, xReprA, xAdd_i, xAdd_s, xAdd_t, xAdd_l, xSl_t, xSl_l, xSl_s, xSl_scr, xListOf_t, xListOf_l, xIdx_t, xIdx_l, xIdx_s, xIdx_r, isI, frI, intV, h1, decide_true]
          exact q
        · simp only [h1, decide_false, Bool.false_and] at q
          simp only [aAnd, aAndV, aAsg, aAsgT, aBk, aC, aCB, aCall, aCallK, aChain, aCons, aCt, aDget, aDispM, aDput, aDrop, aGN, aGcons, aGnil, aGtup, aIE, aIL, aIR1, aIR2, aIT, aIZ, aIf, aIfS, aIsi, aLst, aLstM, aMt, aMt0, aNever, aNil, aNoP, aNot, aNotV, aNx, aOp, aOr, aOrV, aPar, aPar3, aRet, aRetN, aRevD, aRevM, aSeq, aSl, aSmP, aTst, aTup, aUn, aVar, aYes, xAbs, xApp, xBools, xEqB, xGcd, xI, xIc, xInt, xInts, xIs_nn, xIs_bb, xIs_bn, xIs_in, xIs_sn, xIs_tn, xIs_ln, xLen, xListOfM, xMax, xMin, xNeg, xPop, xSum, xTupleOf, optW, view, W.isFn, List.forall_mem_cons, forall_nil, asB, onRL, isRL, pick, keyOf, val_cells, val_mixed, val_draws, put_draws, allD, finD, startA, List.map_cons, List.map_nil, List.length_cons, List.length_nil, List.replicate, List.cons_append, List.nil_append, List.append_nil, List.getElem?_cons_zero, List.getElem?_cons_succ, List.set_cons_zero, List.set_cons_succ, Option.join_some, Option.map_some, List.filterMap_cons, List.filterMap_nil, List.take, Nat.sub_self, Nat.add_one_sub_one, Nat.reduceSub, Nat.reduceAdd, List.replicate_zero, isT, atI_0, atI_1, size2, size1, size3, size0, true_and, and_true, Bool.true_eq_false, Bool.false_eq_true, if_true, if_false, ite_true, ite_false, reduceIte, eq_self, ex_app, ex_app2, ite_tt, ite_ft, List.cons.injEq, W.d.injEq, PyData.int.injEq, PyData.tuple.injEq, exists_eq_left', and_assoc, exists_and_left, eqOk_int, eqD_int, eqOk_fr, eqD_fr, eqOk_str, eqD_str, id, lo_ws1, lo_ws2, lo_ws3, Bool.not_true, Bool.not_false, Bool.and_true, Bool.and_false, Bool.true_and, Bool.false_and, Bool.or_true, Bool.or_false, Bool.true_or, Bool.false_or, aCallV, aCallL, capOf, onlyD, startL, aIZB, sqD, xIn, allS, xMulB, xStr, isStrW, xUpper, aLRg1, aRevT, rowD, rowsD, exists_eq_left, aIZG, seqG, SG, wipeA, lstOf, allBm, allIm, all_id, any_id, ones_ok, ones_eqD, aDic0, xReprA, xAdd_i, xAdd_s, xAdd_t, xAdd_l, xSl_t, xSl_l, xSl_s, xSl_scr, xListOf_t, xListOf_l, xIdx_t, xIdx_l, xIdx_s, xIdx_r, isI, frI, intV, h1, decide_false]
          exact q
      | _ => exact q
    | _ => exact q
  · rw [Bool.not_eq_true] at e
    rw [fFr_no e] at q
    simp only [aAnd, aAndV, aAsg, aAsgT, aBk, aC, aCB, aCall, aCallK, aChain, aCons, aCt, aDget, aDispM, aDput, aDrop, aGN, aGcons, aGnil, aGtup, aIE, aIL, aIR1, aIR2, aIT, aIZ, aIf, aIfS, aIsi, aLst, aLstM, aMt, aMt0, aNever, aNil, aNoP, aNot, aNotV, aNx, aOp, aOr, aOrV, aPar, aPar3, aRet, aRetN, aRevD, aRevM, aSeq, aSl, aSmP, aTst, aTup, aUn, aVar, aYes, xAbs, xApp, xBools, xEqB, xGcd, xI, xIc, xInt, xInts, xIs_nn, xIs_bb, xIs_bn, xIs_in, xIs_sn, xIs_tn, xIs_ln, xLen, xListOfM, xMax, xMin, xNeg, xPop, xSum, xTupleOf, optW, view, W.isFn, List.forall_mem_cons, forall_nil, asB, onRL, isRL, pick, keyOf, val_cells, val_mixed, val_draws, put_draws, allD, finD, startA, List.map_cons, List.map_nil, List.length_cons, List.length_nil, List.replicate, List.cons_append, List.nil_append, List.append_nil, List.getElem?_cons_zero, List.getElem?_cons_succ, List.set_cons_zero, List.set_cons_succ, Option.join_some, Option.map_some, List.filterMap_cons, List.filterMap_nil, List.take, Nat.sub_self, Nat.add_one_sub_one, Nat.reduceSub, Nat.reduceAdd, List.replicate_zero, isT, atI_0, atI_1, size2, size1, size3, size0, true_and, and_true, Bool.true_eq_false, Bool.false_eq_true, if_true, if_false, ite_true, ite_false, reduceIte, eq_self, ex_app, ex_app2, ite_tt, ite_ft, List.cons.injEq, W.d.injEq, PyData.int.injEq, PyData.tuple.injEq, exists_eq_left', and_assoc, exists_and_left, eqOk_int, eqD_int, eqOk_fr, eqD_fr, eqOk_str, eqD_str, id, lo_ws1, lo_ws2, lo_ws3, Bool.not_true, Bool.not_false, Bool.and_true, Bool.and_false, Bool.true_and, Bool.false_and, Bool.or_true, Bool.or_false, Bool.true_or, Bool.false_or, aCallV, aCallL, capOf, onlyD, startL, aIZB, sqD, xIn, allS, xMulB, xStr, isStrW, xUpper, aLRg1, aRevT, rowD, rowsD, exists_eq_left, aIZG, seqG, SG, wipeA, lstOf, allBm, allIm, all_id, any_id, ones_ok, ones_eqD, aDic0, xReprA, xAdd_i, xAdd_s, xAdd_t, xAdd_l, xSl_t, xSl_l, xSl_s, xSl_scr, xListOf_t, xListOf_l, xIdx_t, xIdx_l, xIdx_s, xIdx_r, e]
    exact q
theorem ok_is_fraction_value (T : Ty K mg base Tb) : Fdf P w K mg base (SG Tb) 3 "is_fraction_value" ["thing"] [] sp_is_fraction_value := T.d_is_fraction_value.fd fun f fd Fn => g_is_fraction_value T Fn
def sp_is_fraction : ASp := fun ws ih Q => ∃ x : D, ws = [.d x] ∧ Q (.d (.bool (fFr x))) ih
theorem g_is_fraction (T : Ty K mg base Tb) {f : Addr} {fd : FuncData} (Fn : Fun K "is_fraction" "is_fraction" st_is_fraction f fd) : FnG P w K mg base (SG Tb) 4 f fd ["thing"] sp_is_fraction := by
  refine fnG_of Fn sc_is_fraction ((bv_one (sv_ret (evc (ok_is_fraction_value T) (Nat.le_of_ble_eq_true rfl) rfl (av_cons (ev_var 0) av_nil))))) fun ws ob Qa hl h => ?_
  obtain ⟨x, rfl, q⟩ := h
  simp only [aAnd, aAndV, aAsg, aAsgT, aBk, aC, aCB, aCall, aCallK, aChain, aCons, aCt, aDget, aDispM, aDput, aDrop, aGN, aGcons, aGnil, aGtup, aIE, aIL, aIR1, aIR2, aIT, aIZ, aIf, aIfS, aIsi, aLst, aLstM, aMt, aMt0, aNever, aNil, aNoP, aNot, aNotV, aNx, aOp, aOr, aOrV, aPar, aPar3, aRet, aRetN, aRevD, aRevM, aSeq, aSl, aSmP, aTst, aTup, aUn, aVar, aYes, xAbs, xApp, xBools, xEqB, xGcd, xI, xIc, xInt, xInts, xIs_nn, xIs_bb, xIs_bn, xIs_in, xIs_sn, xIs_tn, xIs_ln, xLen, xListOfM, xMax, xMin, xNeg, xPop, xSum, xTupleOf, optW, view, W.isFn, List.forall_mem_cons, forall_nil, asB, onRL, isRL, pick, keyOf, val_cells, val_mixed, val_draws, put_draws, allD, finD, startA, List.map_cons, List.map_nil, List.length_cons, List.length_nil, List.replicate, List.cons_append, List.nil_append, List.append_nil, List.getElem?_cons_zero, List.getElem?_cons_succ, List.set_cons_zero, List.set_cons_succ, Option.join_some, Option.map_some, List.filterMap_cons, List.filterMap_nil, List.take, Nat.sub_self, Nat.add_one_sub_one, Nat.reduceSub, Nat.reduceAdd, List.replicate_zero, isT, atI_0, atI_1, size2, size1, size3, size0, true_and, and_true, Bool.true_eq_false, Bool.false_eq_true, if_true, if_false, ite_true, ite_false, reduceIte, eq_self, ex_app, ex_app2, ite_tt, ite_ft, List.cons.injEq, W.d.injEq, PyData.int.injEq, PyData.tuple.injEq, exists_eq_left', and_assoc, exists_and_left, eqOk_int, eqD_int, eqOk_fr, eqD_fr, eqOk_str, eqD_str, id, lo_ws1, lo_ws2, lo_ws3, Bool.not_true, Bool.not_false, Bool.and_true, Bool.and_false, Bool.true_and, Bool.false_and, Bool.or_true, Bool.or_false, Bool.true_or, Bool.false_or, aCallV, aCallL, capOf, onlyD, startL, aIZB, sqD, xIn, allS, xMulB, xStr, isStrW, xUpper, aLRg1, aRevT, rowD, rowsD, exists_eq_left, aIZG, seqG, SG, wipeA, lstOf, allBm, allIm, all_id, any_id, ones_ok, ones_eqD, aDic0, xReprA, xAdd_i, xAdd_s, xAdd_t, xAdd_l, xSl_t, xSl_l, xSl_s, xSl_scr, xListOf_t, xListOf_l, xIdx_t, xIdx_l, xIdx_s, xIdx_r, sp_is_fraction_value]
  exact q
theorem ok_is_fraction (T : Ty K mg base Tb) : Fdf P w K mg base (SG Tb) 4 "is_fraction" ["thing"] [(["thing"], 0, 1, [0])] sp_is_fraction := T.d_is_fraction.fd fun f fd Fn => g_is_fraction T Fn
/-- the state of the first loop -/
def iv_deck (ns : List Int) : Nat → En → IH → Prop := fun i env ih => ∃ s c, env = [some (.scr ns), some (.d (.int s)), c] ∧ ih = ([.tab "are_rows.<locals>.<lambda>"] : IH) ∧ 0 ≤ s ∧ s < 2147483587
def sp__law_deck : ASp := fun ws ih Q => ∃ ns : List Int, ws = [.scr ns] ∧ ih = ([.tab "are_rows.<locals>.<lambda>"] : IH) ∧ ns.length ≤ 63 ∧ ∀ ih2, Dk ([.tab "are_rows.<locals>.<lambda>"] : IH) 0 [] ih2 → Q (.ref 2) ih2
theorem g__law_deck (T : Ty K mg base Tb) {f : Addr} {fd : FuncData} (Fn : Fun K "_law_deck" "_law_deck" st__law_deck f fd) : FnG P w K mg base (SG Tb) 1 f fd ["script"] sp__law_deck := by
  refine fnG_ofI Fn sc__law_deck ((bv_cons (sv_set 1 ev_int)
      (bv_cons (sv_for (iv_list (ev_slice (ev_var 0) ov1_none (ov1_some ev_int))) (GW.gv (vs := [2]) (gw_name 2)) (bv_one (sv_set 1 (ev_op ov_mod (ev_callT cv_int rfl T.b_int bt_int (av_cons (ev_op ov_add (ev_op ov_add (ev_op ov_mul (ev_var 1) ev_int) (ev_op ov_mod (ev_callT cv_int rfl T.b_int bt_int (av_cons (ev_var 2) av_nil)) ev_int)) ev_int) av_nil)) ev_int))))
      (bv_one (sv_ret (ev_dispM (ppv_cons (ev_revM (ev_callT cv_list rfl T.b_list bt_list (av_cons (ev_slice (ev_var 0) ov1_none (ov1_some ev_int)) av_nil))) (ppv_cons (ev_var 1) (ppv_cons ev_int ppv_nil))))))))) fun ws ob Qa hl h => ?_
  obtain ⟨ns, rfl, rfl, hn, q⟩ := h
  have b1 : Bd 31 48271 := bd31 (by decide) (by decide)
  simp only [aAnd, aAndV, aAsg, aAsgT, aBk, aC, aCB, aCall, aCallK, aChain, aCons, aCt, aDget, aDispM, aDput, aDrop, aGN, aGcons, aGnil, aGtup, aIE, aIL, aIR1, aIR2, aIT, aIZ, aIf, aIfS, aIsi, aLst, aLstM, aMt, aMt0, aNever, aNil, aNoP, aNot, aNotV, aNx, aOp, aOr, aOrV, aPar, aPar3, aRet, aRetN, aRevD, aRevM, aSeq, aSl, aSmP, aTst, aTup, aUn, aVar, aYes, xAbs, xApp, xBools, xEqB, xGcd, xI, xIc, xInt, xInts, xIs_nn, xIs_bb, xIs_bn, xIs_in, xIs_sn, xIs_tn, xIs_ln, xLen, xListOfM, xMax, xMin, xNeg, xPop, xSum, xTupleOf, optW, view, W.isFn, List.forall_mem_cons, forall_nil, asB, onRL, isRL, pick, keyOf, val_cells, val_mixed, val_draws, put_draws, allD, finD, startA, List.map_cons, List.map_nil, List.length_cons, List.length_nil, List.replicate, List.cons_append, List.nil_append, List.append_nil, List.getElem?_cons_zero, List.getElem?_cons_succ, List.set_cons_zero, List.set_cons_succ, Option.join_some, Option.map_some, List.filterMap_cons, List.filterMap_nil, List.take, Nat.sub_self, Nat.add_one_sub_one, Nat.reduceSub, Nat.reduceAdd, List.replicate_zero, isT, atI_0, atI_1, size2, size1, size3, size0, true_and, and_true, Bool.true_eq_false, Bool.false_eq_true, if_true, if_false, ite_true, ite_false, reduceIte, eq_self, ex_app, ex_app2, ite_tt, ite_ft, List.cons.injEq, W.d.injEq, PyData.int.injEq, PyData.tuple.injEq, exists_eq_left', and_assoc, exists_and_left, eqOk_int, eqD_int, eqOk_fr, eqD_fr, eqOk_str, eqD_str, id, lo_ws1, lo_ws2, lo_ws3, Bool.not_true, Bool.not_false, Bool.and_true, Bool.and_false, Bool.true_and, Bool.false_and, Bool.or_true, Bool.or_false, Bool.true_or, Bool.false_or, aCallV, aCallL, capOf, onlyD, startL, aIZB, sqD, xIn, allS, xMulB, xStr, isStrW, xUpper, aLRg1, aRevT, rowD, rowsD, exists_eq_left, aIZG, seqG, SG, wipeA, lstOf, allBm, allIm, all_id, any_id, ones_ok, ones_eqD, aDic0, xReprA, xAdd_i, xAdd_s, xAdd_t, xAdd_l, xSl_t, xSl_l, xSl_s, xSl_scr, xListOf_t, xListOf_l, xIdx_t, xIdx_l, xIdx_s, xIdx_r, aFor, cut_map]
  refine ⟨iv_deck ns, ⟨_, _, rfl, rfl, by decide, by decide⟩, ?_, ?_⟩
  · rintro i d env ih hd ⟨s, c, rfl, rfl, h0, h1⟩
    obtain ⟨n, _, rfl⟩ := map_get hd
    simp only [aAnd, aAndV, aAsg, aAsgT, aBk, aC, aCB, aCall, aCallK, aChain, aCons, aCt, aDget, aDispM, aDput, aDrop, aGN, aGcons, aGnil, aGtup, aIE, aIL, aIR1, aIR2, aIT, aIZ, aIf, aIfS, aIsi, aLst, aLstM, aMt, aMt0, aNever, aNil, aNoP, aNot, aNotV, aNx, aOp, aOr, aOrV, aPar, aPar3, aRet, aRetN, aRevD, aRevM, aSeq, aSl, aSmP, aTst, aTup, aUn, aVar, aYes, xAbs, xApp, xBools, xEqB, xGcd, xI, xIc, xInt, xInts, xIs_nn, xIs_bb, xIs_bn, xIs_in, xIs_sn, xIs_tn, xIs_ln, xLen, xListOfM, xMax, xMin, xNeg, xPop, xSum, xTupleOf, optW, view, W.isFn, List.forall_mem_cons, forall_nil, asB, onRL, isRL, pick, keyOf, val_cells, val_mixed, val_draws, put_draws, allD, finD, startA, List.map_cons, List.map_nil, List.length_cons, List.length_nil, List.replicate, List.cons_append, List.nil_append, List.append_nil, List.getElem?_cons_zero, List.getElem?_cons_succ, List.set_cons_zero, List.set_cons_succ, Option.join_some, Option.map_some, List.filterMap_cons, List.filterMap_nil, List.take, Nat.sub_self, Nat.add_one_sub_one, Nat.reduceSub, Nat.reduceAdd, List.replicate_zero, isT, atI_0, atI_1, size2, size1, size3, size0, true_and, and_true, Bool.true_eq_false, Bool.false_eq_true, if_true, if_false, ite_true, ite_false, reduceIte, eq_self, ex_app, ex_app2, ite_tt, ite_ft, List.cons.injEq, W.d.injEq, PyData.int.injEq, PyData.tuple.injEq, exists_eq_left', and_assoc, exists_and_left, eqOk_int, eqD_int, eqOk_fr, eqD_fr, eqOk_str, eqD_str, id, lo_ws1, lo_ws2, lo_ws3, Bool.not_true, Bool.not_false, Bool.and_true, Bool.and_false, Bool.true_and, Bool.false_and, Bool.or_true, Bool.or_false, Bool.true_or, Bool.false_or, aCallV, aCallL, capOf, onlyD, startL, aIZB, sqD, xIn, allS, xMulB, xStr, isStrW, xUpper, aLRg1, aRevT, rowD, rowsD, exists_eq_left, aIZG, seqG, SG, wipeA, lstOf, allBm, allIm, all_id, any_id, ones_ok, ones_eqD, aDic0, xReprA, xAdd_i, xAdd_s, xAdd_t, xAdd_l, xSl_t, xSl_l, xSl_s, xSl_scr, xListOf_t, xListOf_l, xIdx_t, xIdx_l, xIdx_s, xIdx_r]
    exact ⟨(bd31 h0 (by omega)).cmul b1 (by decide), by decide, by decide, _, _, rfl, rfl, fmod_in _ _ (by decide)⟩
  · rintro env ih ⟨s, c, rfl, rfl, h0, h1⟩
    simp only [aAnd, aAndV, aAsg, aAsgT, aBk, aC, aCB, aCall, aCallK, aChain, aCons, aCt, aDget, aDispM, aDput, aDrop, aGN, aGcons, aGnil, aGtup, aIE, aIL, aIR1, aIR2, aIT, aIZ, aIf, aIfS, aIsi, aLst, aLstM, aMt, aMt0, aNever, aNil, aNoP, aNot, aNotV, aNx, aOp, aOr, aOrV, aPar, aPar3, aRet, aRetN, aRevD, aRevM, aSeq, aSl, aSmP, aTst, aTup, aUn, aVar, aYes, xAbs, xApp, xBools, xEqB, xGcd, xI, xIc, xInt, xInts, xIs_nn, xIs_bb, xIs_bn, xIs_in, xIs_sn, xIs_tn, xIs_ln, xLen, xListOfM, xMax, xMin, xNeg, xPop, xSum, xTupleOf, optW, view, W.isFn, List.forall_mem_cons, forall_nil, asB, onRL, isRL, pick, keyOf, val_cells, val_mixed, val_draws, put_draws, allD, finD, startA, List.map_cons, List.map_nil, List.length_cons, List.length_nil, List.replicate, List.cons_append, List.nil_append, List.append_nil, List.getElem?_cons_zero, List.getElem?_cons_succ, List.set_cons_zero, List.set_cons_succ, Option.join_some, Option.map_some, List.filterMap_cons, List.filterMap_nil, List.take, Nat.sub_self, Nat.add_one_sub_one, Nat.reduceSub, Nat.reduceAdd, List.replicate_zero, isT, atI_0, atI_1, size2, size1, size3, size0, true_and, and_true, Bool.true_eq_false, Bool.false_eq_true, if_true, if_false, ite_true, ite_false, reduceIte, eq_self, ex_app, ex_app2, ite_tt, ite_ft, List.cons.injEq, W.d.injEq, PyData.int.injEq, PyData.tuple.injEq, exists_eq_left', and_assoc, exists_and_left, eqOk_int, eqD_int, eqOk_fr, eqD_fr, eqOk_str, eqD_str, id, lo_ws1, lo_ws2, lo_ws3, Bool.not_true, Bool.not_false, Bool.and_true, Bool.and_false, Bool.true_and, Bool.false_and, Bool.or_true, Bool.or_false, Bool.true_or, Bool.false_or, aCallV, aCallL, capOf, onlyD, startL, aIZB, sqD, xIn, allS, xMulB, xStr, isStrW, xUpper, aLRg1, aRevT, rowD, rowsD, exists_eq_left, aIZG, seqG, SG, wipeA, lstOf, allBm, allIm, all_id, any_id, ones_ok, ones_eqD, aDic0, xReprA, xAdd_i, xAdd_s, xAdd_t, xAdd_l, xSl_t, xSl_l, xSl_s, xSl_scr, xListOf_t, xListOf_l, xIdx_t, xIdx_l, xIdx_s, xIdx_r, cut_map]
    refine ⟨by decide +kernel, by decide, q _ ⟨(cut ns none (some 63)).reverse, s, 0, ?_, ?_, h0, by omega, Int.le_refl _, Int.le_refl _⟩⟩
    · unfold DK
      rw [← List.map_reverse, List.map_map]
      rfl
    · rw [List.length_reverse]
      exact Nat.le_trans (cut_len _ _ _) hn
theorem ok__law_deck (T : Ty K mg base Tb) : Fdf P w K mg base (SG Tb) 1 "_law_deck" ["script"] [] sp__law_deck := T.d__law_deck.fd fun f fd Fn => g__law_deck T Fn
def md_draw (m x z : Int) (r : IH) : En → IH → Prop := fun env ih => ∃ (c : List Int) (n : Int) (v : Option W), env = [some (.ref 2), some (.d (.int m)), some (.d (.int n)), v] ∧ ih = ([.tab "are_rows.<locals>.<lambda>"] : IH) ++ .lst (c.map fun i => .d (.int i)) :: .dic (dk3 (.ref 1) (.d (.int x)) (.d (.int z))) :: r ∧ c.length ≤ 63 ∧ Bd 70 n
theorem bz {z : Int} (k : Int) (h1 : 0 ≤ z + k) (h2 : z + k < 2147483648) : Bd 31 (z + k) := bd31 h1 h2
def sp__law_draw : ASp := fun ws ih Q => ∃ (m : Int) (b : Nat) (r : IH), ws = [.ref 2, .d (.int m)] ∧ Dk ([.tab "are_rows.<locals>.<lambda>"] : IH) b r ih ∧ b ≤ 1000000 ∧ 0 < m ∧ m < 2 ^ 64 ∧ ∀ k ih2, 0 ≤ k → k < m → Dk ([.tab "are_rows.<locals>.<lambda>"] : IH) (b + 1) r ih2 → Q (.d (.int k)) ih2
theorem g__law_draw (T : Ty K mg base Tb) {f : Addr} {fd : FuncData} (Fn : Fun K "_law_draw" "_law_draw" st__law_draw f fd) : FnG P w K mg base (SG Tb) 1 f fd ["deck", "many"] sp__law_draw := by
  refine fnG_ofI Fn sc__law_draw ((bv_cons (sv_dput (ev_var 0) ev_str (ev_op ov_add (ev_dget (ev_var 0) ev_str) ev_int))
      (bv_cons (sv_set 2 (ev_op ov_add (ev_dget (ev_var 0) ev_str) (ev_op ov_mul ev_int (ev_dget (ev_var 0) ev_str))))
      (bv_cons (sv_if (tv_cmp ov_ne (ev_dget (ev_var 0) ev_str) (ev_lst av_nil)) (bv_cons (sv_set 3 (ev_mt0 F.plainAttrs_list F.slot_list_pop F.type_list_pop mv_pop (ev_dget (ev_var 0) ev_str)))
      (bv_cons (sv_if (tv_cmp ov_ge (ev_var 3) (ev_op ov_pow ev_int ev_int)) (bv_cons (sv_expr (ev_mt F.plainAttrs_list F.slot_list_append F.type_list_append mv_app (ev_dget (ev_var 0) ev_str) (av_cons (ev_op ov_fdiv (ev_var 3) (ev_callB cv_max rfl T.b_max bt_max (av_cons ev_int (av_cons (ev_var 1) av_nil)))) av_nil)))
      (bv_one (sv_ret (ev_op ov_mod (ev_callT cv_int rfl T.b_int bt_int (av_cons (ev_var 3) av_nil)) (ev_var 1))))) bv_nil)
      (bv_one (sv_set 2 (ev_op ov_add (ev_var 2) (ev_op ov_mod (ev_callT cv_int rfl T.b_int bt_int (av_cons (ev_var 3) av_nil)) ev_int)))))) bv_nil)
      (bv_cons (sv_set 2 (ev_op ov_mod (ev_callT cv_int rfl T.b_int bt_int (av_cons (ev_op ov_add (ev_op ov_mul (ev_var 2) ev_int) ev_int) av_nil)) ev_int))
      (bv_cons (sv_set 2 (ev_op ov_mod (ev_callT cv_int rfl T.b_int bt_int (av_cons (ev_op ov_add (ev_op ov_add (ev_op ov_mul (ev_var 2) (ev_var 2)) (ev_op ov_mul ev_int (ev_dget (ev_var 0) ev_str))) ev_int) av_nil)) ev_int))
      (bv_cons (sv_set 2 (ev_op ov_mod (ev_callT cv_int rfl T.b_int bt_int (av_cons (ev_op ov_mul (ev_var 2) ev_int) av_nil)) ev_int))
      (bv_one (sv_ret (ev_op ov_mod (ev_callT cv_int rfl T.b_int bt_int (av_cons (ev_op ov_fdiv (ev_var 2) ev_int) av_nil)) (ev_var 1))))))))))) fun ws ob Qa hl h => ?_
  obtain ⟨m, b, r, rfl, ⟨c, x, z, rfl, hc, x0, x1, z0, z1⟩, hb, m0, m1, q⟩ := h
  refine sq ?_
  simp only [aAnd, aAndV, aAsg, aAsgT, aBk, aC, aCB, aCall, aCallK, aChain, aCons, aCt, aDget, aDispM, aDput, aDrop, aGN, aGcons, aGnil, aGtup, aIE, aIL, aIR1, aIR2, aIT, aIZ, aIf, aIfS, aIsi, aLst, aLstM, aMt, aMt0, aNever, aNil, aNoP, aNot, aNotV, aNx, aOp, aOr, aOrV, aPar, aPar3, aRet, aRetN, aRevD, aRevM, aSl, aSmP, aTst, aTup, aUn, aVar, aYes, xAbs, xApp, xBools, xEqB, xGcd, xI, xIc, xInt, xInts, xIs_nn, xIs_bb, xIs_bn, xIs_in, xIs_sn, xIs_tn, xIs_ln, xLen, xListOfM, xMax, xMin, xNeg, xPop, xSum, xTupleOf, optW, view, W.isFn, List.forall_mem_cons, forall_nil, asB, onRL, isRL, pick, keyOf, val_cells, val_mixed, val_draws, put_draws, allD, finD, startA, List.map_cons, List.map_nil, List.length_cons, List.length_nil, List.replicate, List.cons_append, List.nil_append, List.append_nil, List.getElem?_cons_zero, List.getElem?_cons_succ, List.set_cons_zero, List.set_cons_succ, Option.join_some, Option.map_some, List.filterMap_cons, List.filterMap_nil, List.take, Nat.sub_self, Nat.add_one_sub_one, Nat.reduceSub, Nat.reduceAdd, List.replicate_zero, isT, atI_0, atI_1, size2, size1, size3, size0, true_and, and_true, Bool.true_eq_false, Bool.false_eq_true, if_true, if_false, ite_true, ite_false, reduceIte, eq_self, ex_app, ex_app2, ite_tt, ite_ft, List.cons.injEq, W.d.injEq, PyData.int.injEq, PyData.tuple.injEq, exists_eq_left', and_assoc, exists_and_left, eqOk_int, eqD_int, eqOk_fr, eqD_fr, eqOk_str, eqD_str, id, lo_ws1, lo_ws2, lo_ws3, Bool.not_true, Bool.not_false, Bool.and_true, Bool.and_false, Bool.true_and, Bool.false_and, Bool.or_true, Bool.or_false, Bool.true_or, Bool.false_or, aCallV, aCallL, capOf, onlyD, startL, aIZB, sqD, xIn, allS, xMulB, xStr, isStrW, xUpper, aLRg1, aRevT, rowD, rowsD, exists_eq_left, aIZG, seqG, SG, wipeA, lstOf, allBm, allIm, all_id, any_id, ones_ok, ones_eqD, aDic0, xReprA, xAdd_i, xAdd_s, xAdd_t, xAdd_l, xSl_t, xSl_l, xSl_s, xSl_scr, xListOf_t, xListOf_l, xIdx_t, xIdx_l, xIdx_s, xIdx_r, dk3_eq, dk3_len]
  refine sq ?_
  simp only [aAnd, aAndV, aAsg, aAsgT, aBk, aC, aCB, aCall, aCallK, aChain, aCons, aCt, aDget, aDispM, aDput, aDrop, aGN, aGcons, aGnil, aGtup, aIE, aIL, aIR1, aIR2, aIT, aIZ, aIf, aIfS, aIsi, aLst, aLstM, aMt, aMt0, aNever, aNil, aNoP, aNot, aNotV, aNx, aOp, aOr, aOrV, aPar, aPar3, aRet, aRetN, aRevD, aRevM, aSl, aSmP, aTst, aTup, aUn, aVar, aYes, xAbs, xApp, xBools, xEqB, xGcd, xI, xIc, xInt, xInts, xIs_nn, xIs_bb, xIs_bn, xIs_in, xIs_sn, xIs_tn, xIs_ln, xLen, xListOfM, xMax, xMin, xNeg, xPop, xSum, xTupleOf, optW, view, W.isFn, List.forall_mem_cons, forall_nil, asB, onRL, isRL, pick, keyOf, val_cells, val_mixed, val_draws, put_draws, allD, finD, startA, List.map_cons, List.map_nil, List.length_cons, List.length_nil, List.replicate, List.cons_append, List.nil_append, List.append_nil, List.getElem?_cons_zero, List.getElem?_cons_succ, List.set_cons_zero, List.set_cons_succ, Option.join_some, Option.map_some, List.filterMap_cons, List.filterMap_nil, List.take, Nat.sub_self, Nat.add_one_sub_one, Nat.reduceSub, Nat.reduceAdd, List.replicate_zero, isT, atI_0, atI_1, size2, size1, size3, size0, true_and, and_true, Bool.true_eq_false, Bool.false_eq_true, if_true, if_false, ite_true, ite_false, reduceIte, eq_self, ex_app, ex_app2, ite_tt, ite_ft, List.cons.injEq, W.d.injEq, PyData.int.injEq, PyData.tuple.injEq, exists_eq_left', and_assoc, exists_and_left, eqOk_int, eqD_int, eqOk_fr, eqD_fr, eqOk_str, eqD_str, id, lo_ws1, lo_ws2, lo_ws3, Bool.not_true, Bool.not_false, Bool.and_true, Bool.and_false, Bool.true_and, Bool.false_and, Bool.or_true, Bool.or_false, Bool.true_or, Bool.false_or, aCallV, aCallL, capOf, onlyD, startL, aIZB, sqD, xIn, allS, xMulB, xStr, isStrW, xUpper, aLRg1, aRevT, rowD, rowsD, exists_eq_left, aIZG, seqG, SG, wipeA, lstOf, allBm, allIm, all_id, any_id, ones_ok, ones_eqD, aDic0, xReprA, xAdd_i, xAdd_s, xAdd_t, xAdd_l, xSl_t, xSl_l, xSl_s, xSl_scr, xListOf_t, xListOf_l, xIdx_t, xIdx_l, xIdx_s, xIdx_r, dk3_eq, dk3_len]
  refine ⟨(bd31 (by decide) (by decide) : Bd 31 62089).cmul (bz 1 (by omega) (by omega)) (by decide), ?_⟩
  refine sqm (md_draw m x (z + 1) r) ?_ ?_
  · rintro env ih ⟨c', n, v, rfl, rfl, hc', bn⟩
    simp only [aAnd, aAndV, aAsg, aAsgT, aBk, aC, aCB, aCall, aCallK, aChain, aCons, aCt, aDget, aDispM, aDput, aDrop, aGN, aGcons, aGnil, aGtup, aIE, aIL, aIR1, aIR2, aIT, aIZ, aIf, aIfS, aIsi, aLst, aLstM, aMt, aMt0, aNever, aNil, aNoP, aNot, aNotV, aNx, aOp, aOr, aOrV, aPar, aPar3, aRet, aRetN, aRevD, aRevM, aSeq, aSl, aSmP, aTst, aTup, aUn, aVar, aYes, xAbs, xApp, xBools, xEqB, xGcd, xI, xIc, xInt, xInts, xIs_nn, xIs_bb, xIs_bn, xIs_in, xIs_sn, xIs_tn, xIs_ln, xLen, xListOfM, xMax, xMin, xNeg, xPop, xSum, xTupleOf, optW, view, W.isFn, List.forall_mem_cons, forall_nil, asB, onRL, isRL, pick, keyOf, val_cells, val_mixed, val_draws, put_draws, allD, finD, startA, List.map_cons, List.map_nil, List.length_cons, List.length_nil, List.replicate, List.cons_append, List.nil_append, List.append_nil, List.getElem?_cons_zero, List.getElem?_cons_succ, List.set_cons_zero, List.set_cons_succ, Option.join_some, Option.map_some, List.filterMap_cons, List.filterMap_nil, List.take, Nat.sub_self, Nat.add_one_sub_one, Nat.reduceSub, Nat.reduceAdd, List.replicate_zero, isT, atI_0, atI_1, size2, size1, size3, size0, true_and, and_true, Bool.true_eq_false, Bool.false_eq_true, if_true, if_false, ite_true, ite_false, reduceIte, eq_self, ex_app, ex_app2, ite_tt, ite_ft, List.cons.injEq, W.d.injEq, PyData.int.injEq, PyData.tuple.injEq, exists_eq_left', and_assoc, exists_and_left, eqOk_int, eqD_int, eqOk_fr, eqD_fr, eqOk_str, eqD_str, id, lo_ws1, lo_ws2, lo_ws3, Bool.not_true, Bool.not_false, Bool.and_true, Bool.and_false, Bool.true_and, Bool.false_and, Bool.or_true, Bool.or_false, Bool.true_or, Bool.false_or, aCallV, aCallL, capOf, onlyD, startL, aIZB, sqD, xIn, allS, xMulB, xStr, isStrW, xUpper, aLRg1, aRevT, rowD, rowsD, exists_eq_left, aIZG, seqG, SG, wipeA, lstOf, allBm, allIm, all_id, any_id, ones_ok, ones_eqD, aDic0, xReprA, xAdd_i, xAdd_s, xAdd_t, xAdd_l, xSl_t, xSl_l, xSl_s, xSl_scr, xListOf_t, xListOf_l, xIdx_t, xIdx_l, xIdx_s, xIdx_r, dk3_len]
    have b1 : Bd 31 40014 := bd31 (by decide) (by decide)
    have b2 : Bd 31 53668 := bd31 (by decide) (by decide)
    have b3 : Bd 31 40692 := bd31 (by decide) (by decide)
    have f1 := fmod_in (n * 40014 + 91) 2147483563 (by decide)
    generalize (n * 40014 + 91).fmod 2147483563 = n1 at f1 ⊢
    have f2 := fmod_in (n1 * n1 + 53668 * (z + 1) + 17) 2147483399 (by decide)
    generalize (n1 * n1 + 53668 * (z + 1) + 17).fmod 2147483399 = n2 at f2 ⊢
    have e1 : Bd 31 n1 := bd31 f1.1 (by omega)
    have e2 : Bd 31 n2 := bd31 f2.1 (by omega)
    have e3 : CDv ((n2 * 40692).fmod 2147483647) 64 := (bd31 (by decide) (by decide) : Bd 31 64).cdv (by decide) (by decide)
    have f3 := fmod_in (((n2 * 40692).fmod 2147483647).fdiv 64) m m0
    exact ⟨bn.cmul b1 (by decide), by decide, e1.cmul e1 (by decide), b2.cmul (bz 1 (by omega) (by omega)) (by decide), by decide, e2.cmul b3 (by decide), by decide, e3, by omega, q _ _ f3.1 f3.2 ⟨c', x, z + 1, rfl, hc', x0, x1, by omega, by omega⟩⟩
  · intro R hR
    have bx : Bd 62 (x + 62089 * (z + 1)) := Bd.of (by omega) (by omega)
    simp only [aAnd, aAndV, aAsg, aAsgT, aBk, aC, aCB, aCall, aCallK, aChain, aCons, aCt, aDget, aDispM, aDput, aDrop, aGN, aGcons, aGnil, aGtup, aIE, aIL, aIR1, aIR2, aIT, aIZ, aIf, aIfS, aIsi, aLst, aLstM, aMt, aMt0, aNever, aNil, aNoP, aNot, aNotV, aNx, aOp, aOr, aOrV, aPar, aPar3, aRet, aRetN, aRevD, aRevM, aSl, aSmP, aTst, aTup, aUn, aVar, aYes, xAbs, xApp, xBools, xEqB, xGcd, xI, xIc, xInt, xInts, xIs_nn, xIs_bb, xIs_bn, xIs_in, xIs_sn, xIs_tn, xIs_ln, xLen, xListOfM, xMax, xMin, xNeg, xPop, xSum, xTupleOf, optW, view, W.isFn, List.forall_mem_cons, forall_nil, asB, onRL, isRL, pick, keyOf, val_cells, val_mixed, val_draws, put_draws, allD, finD, startA, List.map_cons, List.map_nil, List.length_cons, List.length_nil, List.replicate, List.cons_append, List.nil_append, List.append_nil, List.getElem?_cons_zero, List.getElem?_cons_succ, List.set_cons_zero, List.set_cons_succ, Option.join_some, Option.map_some, List.filterMap_cons, List.filterMap_nil, List.take, Nat.sub_self, Nat.add_one_sub_one, Nat.reduceSub, Nat.reduceAdd, List.replicate_zero, isT, atI_0, atI_1, size2, size1, size3, size0, true_and, and_true, Bool.true_eq_false, Bool.false_eq_true, if_true, if_false, ite_true, ite_false, reduceIte, eq_self, ex_app, ex_app2, ite_tt, ite_ft, List.cons.injEq, W.d.injEq, PyData.int.injEq, PyData.tuple.injEq, exists_eq_left', and_assoc, exists_and_left, eqOk_int, eqD_int, eqOk_fr, eqD_fr, eqOk_str, eqD_str, id, lo_ws1, lo_ws2, lo_ws3, Bool.not_true, Bool.not_false, Bool.and_true, Bool.and_false, Bool.true_and, Bool.false_and, Bool.or_true, Bool.or_false, Bool.true_or, Bool.false_or, aCallV, aCallL, capOf, onlyD, startL, aIZB, sqD, xIn, allS, xMulB, xStr, isStrW, xUpper, aLRg1, aRevT, rowD, rowsD, exists_eq_left, aIZG, seqG, SG, wipeA, lstOf, allBm, allIm, all_id, any_id, ones_ok, ones_eqD, aDic0, xReprA, xAdd_i, xAdd_s, xAdd_t, xAdd_l, xSl_t, xSl_l, xSl_s, xSl_scr, xListOf_t, xListOf_l, xIdx_t, xIdx_l, xIdx_s, xIdx_r, allD_ints, eqOk, shaped_ints, eqD, eqv_nil]
    refine ⟨by decide, ?_⟩
    rcases List.eq_nil_or_concat c with rfl | ⟨c', y, rfl⟩
    · simp only [aAnd, aAndV, aAsg, aAsgT, aBk, aC, aCB, aCall, aCallK, aChain, aCons, aCt, aDget, aDispM, aDput, aDrop, aGN, aGcons, aGnil, aGtup, aIE, aIL, aIR1, aIR2, aIT, aIZ, aIf, aIfS, aIsi, aLst, aLstM, aMt, aMt0, aNever, aNil, aNoP, aNot, aNotV, aNx, aOp, aOr, aOrV, aPar, aPar3, aRet, aRetN, aRevD, aRevM, aSl, aSmP, aTst, aTup, aUn, aVar, aYes, xAbs, xApp, xBools, xEqB, xGcd, xI, xIc, xInt, xInts, xIs_nn, xIs_bb, xIs_bn, xIs_in, xIs_sn, xIs_tn, xIs_ln, xLen, xListOfM, xMax, xMin, xNeg, xPop, xSum, xTupleOf, optW, view, W.isFn, List.forall_mem_cons, forall_nil, asB, onRL, isRL, pick, keyOf, val_cells, val_mixed, val_draws, put_draws, allD, finD, startA, List.map_cons, List.map_nil, List.length_cons, List.length_nil, List.replicate, List.cons_append, List.nil_append, List.append_nil, List.getElem?_cons_zero, List.getElem?_cons_succ, List.set_cons_zero, List.set_cons_succ, Option.join_some, Option.map_some, List.filterMap_cons, List.filterMap_nil, List.take, Nat.sub_self, Nat.add_one_sub_one, Nat.reduceSub, Nat.reduceAdd, List.replicate_zero, isT, atI_0, atI_1, size2, size1, size3, size0, true_and, and_true, Bool.true_eq_false, Bool.false_eq_true, if_true, if_false, ite_true, ite_false, reduceIte, eq_self, ex_app, ex_app2, ite_tt, ite_ft, List.cons.injEq, W.d.injEq, PyData.int.injEq, PyData.tuple.injEq, exists_eq_left', and_assoc, exists_and_left, eqOk_int, eqD_int, eqOk_fr, eqD_fr, eqOk_str, eqD_str, id, lo_ws1, lo_ws2, lo_ws3, Bool.not_true, Bool.not_false, Bool.and_true, Bool.and_false, Bool.true_and, Bool.false_and, Bool.or_true, Bool.or_false, Bool.true_or, Bool.false_or, aCallV, aCallL, capOf, onlyD, startL, aIZB, sqD, xIn, allS, xMulB, xStr, isStrW, xUpper, aLRg1, aRevT, rowD, rowsD, exists_eq_left, aIZG, seqG, SG, wipeA, lstOf, allBm, allIm, all_id, any_id, ones_ok, ones_eqD, aDic0, xReprA, xAdd_i, xAdd_s, xAdd_t, xAdd_l, xSl_t, xSl_l, xSl_s, xSl_scr, xListOf_t, xListOf_l, xIdx_t, xIdx_l, xIdx_s, xIdx_r, List.isEmpty_nil]
      exact hR _ _ ⟨[], _, _, rfl, rfl, by decide, bx.mono (by decide)⟩
    · rw [List.concat_eq_append] at hc ⊢
      rw [List.length_append] at hc
      have ne : (c' ++ [y]).isEmpty = false := by cases c' <;> rfl
      simp only [ne, Bool.not_false, ite_tt, if_true]
      refine sq ?_
      simp only [aAnd, aAndV, aAsg, aAsgT, aBk, aC, aCB, aCall, aCallK, aChain, aCons, aCt, aDget, aDispM, aDput, aDrop, aGN, aGcons, aGnil, aGtup, aIE, aIL, aIR1, aIR2, aIT, aIZ, aIf, aIfS, aIsi, aLst, aLstM, aMt, aMt0, aNever, aNil, aNoP, aNot, aNotV, aNx, aOp, aOr, aOrV, aPar, aPar3, aRet, aRetN, aRevD, aRevM, aSl, aSmP, aTst, aTup, aUn, aVar, aYes, xAbs, xApp, xBools, xEqB, xGcd, xI, xIc, xInt, xInts, xIs_nn, xIs_bb, xIs_bn, xIs_in, xIs_sn, xIs_tn, xIs_ln, xLen, xListOfM, xMax, xMin, xNeg, xPop, xSum, xTupleOf, optW, view, W.isFn, List.forall_mem_cons, forall_nil, asB, onRL, isRL, pick, keyOf, val_cells, val_mixed, val_draws, put_draws, allD, finD, startA, List.map_cons, List.map_nil, List.length_cons, List.length_nil, List.replicate, List.cons_append, List.nil_append, List.append_nil, List.getElem?_cons_zero, List.getElem?_cons_succ, List.set_cons_zero, List.set_cons_succ, Option.join_some, Option.map_some, List.filterMap_cons, List.filterMap_nil, List.take, Nat.sub_self, Nat.add_one_sub_one, Nat.reduceSub, Nat.reduceAdd, List.replicate_zero, isT, atI_0, atI_1, size2, size1, size3, size0, true_and, and_true, Bool.true_eq_false, Bool.false_eq_true, if_true, if_false, ite_true, ite_false, reduceIte, eq_self, ex_app, ex_app2, ite_tt, ite_ft, List.cons.injEq, W.d.injEq, PyData.int.injEq, PyData.tuple.injEq, exists_eq_left', and_assoc, exists_and_left, eqOk_int, eqD_int, eqOk_fr, eqD_fr, eqOk_str, eqD_str, id, lo_ws1, lo_ws2, lo_ws3, Bool.not_true, Bool.not_false, Bool.and_true, Bool.and_false, Bool.true_and, Bool.false_and, Bool.or_true, Bool.or_false, Bool.true_or, Bool.false_or, aCallV, aCallL, capOf, onlyD, startL, aIZB, sqD, xIn, allS, xMulB, xStr, isStrW, xUpper, aLRg1, aRevT, rowD, rowsD, exists_eq_left, aIZG, seqG, SG, wipeA, lstOf, allBm, allIm, all_id, any_id, ones_ok, ones_eqD, aDic0, xReprA, xAdd_i, xAdd_s, xAdd_t, xAdd_l, xSl_t, xSl_l, xSl_s, xSl_scr, xListOf_t, xListOf_l, xIdx_t, xIdx_l, xIdx_s, xIdx_r, pop_get, pop_drop, xPop]
      refine sq ?_
      have f0 := fmod_in y 2147483629 (by decide)
      by_cases hy : (1000000000000000000 : Int) ≤ y
      · have e18 : ((10 : Int) ^ (18 : Int).toNat) = 1000000000000000000 := by decide
        have cp : CPow 10 18 := ⟨by decide, by decide, by decide⟩
        have cd : CDv y (if m > 2 then m else 2) := (Bd.of (k := 64) (by split <;> omega) (by split <;> omega) : Bd 64 (if m > 2 then m else 2)).cdv (by split <;> omega) (by decide)
        have l1 : (c'.map fun i => W.d (PyData.int i)).length < sizeLine := by rw [List.length_map]; exact Nat.lt_of_le_of_lt (Nat.le_trans (Nat.le_add_right _ _) hc) (by decide)
        have f3 := fmod_in y m m0
        simp only [aAnd, aAndV, aAsg, aAsgT, aBk, aC, aCB, aCall, aCallK, aChain, aCons, aCt, aDget, aDispM, aDput, aDrop, aGN, aGcons, aGnil, aGtup, aIE, aIL, aIR1, aIR2, aIT, aIZ, aIf, aIfS, aIsi, aLst, aLstM, aMt, aMt0, aNever, aNil, aNoP, aNot, aNotV, aNx, aOp, aOr, aOrV, aPar, aPar3, aRet, aRetN, aRevD, aRevM, aSeq, aSl, aSmP, aTst, aTup, aUn, aVar, aYes, xAbs, xApp, xBools, xEqB, xGcd, xI, xIc, xInt, xInts, xIs_nn, xIs_bb, xIs_bn, xIs_in, xIs_sn, xIs_tn, xIs_ln, xLen, xListOfM, xMax, xMin, xNeg, xPop, xSum, xTupleOf, optW, view, W.isFn, List.forall_mem_cons, forall_nil, asB, onRL, isRL, pick, keyOf, val_cells, val_mixed, val_draws, put_draws, allD, finD, startA, List.map_cons, List.map_nil, List.length_cons, List.length_nil, List.replicate, List.cons_append, List.nil_append, List.append_nil, List.getElem?_cons_zero, List.getElem?_cons_succ, List.set_cons_zero, List.set_cons_succ, Option.join_some, Option.map_some, List.filterMap_cons, List.filterMap_nil, List.take, Nat.sub_self, Nat.add_one_sub_one, Nat.reduceSub, Nat.reduceAdd, List.replicate_zero, isT, atI_0, atI_1, size2, size1, size3, size0, true_and, and_true, Bool.true_eq_false, Bool.false_eq_true, if_true, if_false, ite_true, ite_false, reduceIte, eq_self, ex_app, ex_app2, ite_tt, ite_ft, List.cons.injEq, W.d.injEq, PyData.int.injEq, PyData.tuple.injEq, exists_eq_left', and_assoc, exists_and_left, eqOk_int, eqD_int, eqOk_fr, eqD_fr, eqOk_str, eqD_str, id, lo_ws1, lo_ws2, lo_ws3, Bool.not_true, Bool.not_false, Bool.and_true, Bool.and_false, Bool.true_and, Bool.false_and, Bool.or_true, Bool.or_false, Bool.true_or, Bool.false_or, aCallV, aCallL, capOf, onlyD, startL, aIZB, sqD, xIn, allS, xMulB, xStr, isStrW, xUpper, aLRg1, aRevT, rowD, rowsD, exists_eq_left, aIZG, seqG, SG, wipeA, lstOf, allBm, allIm, all_id, any_id, ones_ok, ones_eqD, aDic0, xReprA, xAdd_i, xAdd_s, xAdd_t, xAdd_l, xSl_t, xSl_l, xSl_s, xSl_scr, xListOf_t, xListOf_l, xIdx_t, xIdx_l, xIdx_s, xIdx_r, e18, cp, hy, decide_true, xMax, cd, l1]
        refine ⟨by omega, q _ _ f3.1 f3.2 ⟨c' ++ [y.fdiv (if m > 2 then m else 2)], x, z + 1, ?_, by rw [List.length_append]; exact hc, x0, x1, by omega, by omega⟩⟩
        unfold DK dk3
        rw [List.map_append]
        rfl
      · have e18 : ((10 : Int) ^ (18 : Int).toNat) = 1000000000000000000 := by decide
        have cp : CPow 10 18 := ⟨by decide, by decide, by decide⟩
        simp only [aAnd, aAndV, aAsg, aAsgT, aBk, aC, aCB, aCall, aCallK, aChain, aCons, aCt, aDget, aDispM, aDput, aDrop, aGN, aGcons, aGnil, aGtup, aIE, aIL, aIR1, aIR2, aIT, aIZ, aIf, aIfS, aIsi, aLst, aLstM, aMt, aMt0, aNever, aNil, aNoP, aNot, aNotV, aNx, aOp, aOr, aOrV, aPar, aPar3, aRet, aRetN, aRevD, aRevM, aSeq, aSl, aSmP, aTst, aTup, aUn, aVar, aYes, xAbs, xApp, xBools, xEqB, xGcd, xI, xIc, xInt, xInts, xIs_nn, xIs_bb, xIs_bn, xIs_in, xIs_sn, xIs_tn, xIs_ln, xLen, xListOfM, xMax, xMin, xNeg, xPop, xSum, xTupleOf, optW, view, W.isFn, List.forall_mem_cons, forall_nil, asB, onRL, isRL, pick, keyOf, val_cells, val_mixed, val_draws, put_draws, allD, finD, startA, List.map_cons, List.map_nil, List.length_cons, List.length_nil, List.replicate, List.cons_append, List.nil_append, List.append_nil, List.getElem?_cons_zero, List.getElem?_cons_succ, List.set_cons_zero, List.set_cons_succ, Option.join_some, Option.map_some, List.filterMap_cons, List.filterMap_nil, List.take, Nat.sub_self, Nat.add_one_sub_one, Nat.reduceSub, Nat.reduceAdd, List.replicate_zero, isT, atI_0, atI_1, size2, size1, size3, size0, true_and, and_true, Bool.true_eq_false, Bool.false_eq_true, if_true, if_false, ite_true, ite_false, reduceIte, eq_self, ex_app, ex_app2, ite_tt, ite_ft, List.cons.injEq, W.d.injEq, PyData.int.injEq, PyData.tuple.injEq, exists_eq_left', and_assoc, exists_and_left, eqOk_int, eqD_int, eqOk_fr, eqD_fr, eqOk_str, eqD_str, id, lo_ws1, lo_ws2, lo_ws3, Bool.not_true, Bool.not_false, Bool.and_true, Bool.and_false, Bool.true_and, Bool.false_and, Bool.or_true, Bool.or_false, Bool.true_or, Bool.false_or, aCallV, aCallL, capOf, onlyD, startL, aIZB, sqD, xIn, allS, xMulB, xStr, isStrW, xUpper, aLRg1, aRevT, rowD, rowsD, exists_eq_left, aIZG, seqG, SG, wipeA, lstOf, allBm, allIm, all_id, any_id, ones_ok, ones_eqD, aDic0, xReprA, xAdd_i, xAdd_s, xAdd_t, xAdd_l, xSl_t, xSl_l, xSl_s, xSl_scr, xListOf_t, xListOf_l, xIdx_t, xIdx_l, xIdx_s, xIdx_r, e18, cp, hy, decide_false]
        refine ⟨by decide, hR _ _ ⟨c', _, _, rfl, rfl, by omega, (bx.add ((bd31 f0.1 (by omega)).mono (by decide))).mono (by decide)⟩⟩
theorem ok__law_draw (T : Ty K mg base Tb) : Fdf P w K mg base (SG Tb) 1 "_law_draw" ["deck", "many"] [] sp__law_draw := T.d__law_draw.fd fun f fd Fn => g__law_draw T Fn
def sp__law_pick : ASp := fun ws ih Q => ∃ (xs : List D) (b : Nat) (r : IH), ws = [.ref 2, .d (.list xs)] ∧ Dk ([.tab "are_rows.<locals>.<lambda>"] : IH) b r ih ∧ b ≤ 1000000 ∧ 0 < xs.length ∧ xs.length < 2 ^ 60 ∧ ∀ x ih2, x ∈ xs → Dk ([.tab "are_rows.<locals>.<lambda>"] : IH) (b + 1) r ih2 → Q (.d x) ih2
theorem g__law_pick (T : Ty K mg base Tb) {f : Addr} {fd : FuncData} (Fn : Fun K "_law_pick" "_law_pick" st__law_pick f fd) : FnG P w K mg base (SG Tb) 2 f fd ["deck", "some"] sp__law_pick := by
  refine fnG_ofI Fn sc__law_pick ((bv_one (sv_ret (ev_ix (ev_var 1) (evc (ok__law_draw T) (Nat.le_of_ble_eq_true rfl) rfl (av_cons (ev_var 0) (av_cons (ev_callB cv_len rfl T.b_len bt_len (av_cons (ev_var 1) av_nil)) av_nil))))))) fun ws ob Qa hl h => ?_
  obtain ⟨xs, b, r, rfl, hd, hb, h0, h1, q⟩ := h
  simp only [aAnd, aAndV, aAsg, aAsgT, aBk, aC, aCB, aCall, aCallK, aChain, aCons, aCt, aDget, aDispM, aDput, aDrop, aGN, aGcons, aGnil, aGtup, aIE, aIL, aIR1, aIR2, aIT, aIZ, aIf, aIfS, aIsi, aLst, aLstM, aMt, aMt0, aNever, aNil, aNoP, aNot, aNotV, aNx, aOp, aOr, aOrV, aPar, aPar3, aRet, aRetN, aRevD, aRevM, aSeq, aSl, aSmP, aTst, aTup, aUn, aVar, aYes, xAbs, xApp, xBools, xEqB, xGcd, xI, xIc, xInt, xInts, xIs_nn, xIs_bb, xIs_bn, xIs_in, xIs_sn, xIs_tn, xIs_ln, xLen, xListOfM, xMax, xMin, xNeg, xPop, xSum, xTupleOf, optW, view, W.isFn, List.forall_mem_cons, forall_nil, asB, onRL, isRL, pick, keyOf, val_cells, val_mixed, val_draws, put_draws, allD, finD, startA, List.map_cons, List.map_nil, List.length_cons, List.length_nil, List.replicate, List.cons_append, List.nil_append, List.append_nil, List.getElem?_cons_zero, List.getElem?_cons_succ, List.set_cons_zero, List.set_cons_succ, Option.join_some, Option.map_some, List.filterMap_cons, List.filterMap_nil, List.take, Nat.sub_self, Nat.add_one_sub_one, Nat.reduceSub, Nat.reduceAdd, List.replicate_zero, isT, atI_0, atI_1, size2, size1, size3, size0, true_and, and_true, Bool.true_eq_false, Bool.false_eq_true, if_true, if_false, ite_true, ite_false, reduceIte, eq_self, ex_app, ex_app2, ite_tt, ite_ft, List.cons.injEq, W.d.injEq, PyData.int.injEq, PyData.tuple.injEq, exists_eq_left', and_assoc, exists_and_left, eqOk_int, eqD_int, eqOk_fr, eqD_fr, eqOk_str, eqD_str, id, lo_ws1, lo_ws2, lo_ws3, Bool.not_true, Bool.not_false, Bool.and_true, Bool.and_false, Bool.true_and, Bool.false_and, Bool.or_true, Bool.or_false, Bool.true_or, Bool.false_or, aCallV, aCallL, capOf, onlyD, startL, aIZB, sqD, xIn, allS, xMulB, xStr, isStrW, xUpper, aLRg1, aRevT, rowD, rowsD, exists_eq_left, aIZG, seqG, SG, wipeA, lstOf, allBm, allIm, all_id, any_id, ones_ok, ones_eqD, aDic0, xReprA, xAdd_i, xAdd_s, xAdd_t, xAdd_l, xSl_t, xSl_l, xSl_s, xSl_scr, xListOf_t, xListOf_l, xIdx_t, xIdx_l, xIdx_s, xIdx_r]
  refine ⟨_, _, _, rfl, hd, hb, by omega, by omega, fun k ih2 k0 k1 hd2 => ?_⟩
  obtain ⟨y, hy, hm⟩ := atI_in xs k k0 k1
  simp only [aAnd, aAndV, aAsg, aAsgT, aBk, aC, aCB, aCall, aCallK, aChain, aCons, aCt, aDget, aDispM, aDput, aDrop, aGN, aGcons, aGnil, aGtup, aIE, aIL, aIR1, aIR2, aIT, aIZ, aIf, aIfS, aIsi, aLst, aLstM, aMt, aMt0, aNever, aNil, aNoP, aNot, aNotV, aNx, aOp, aOr, aOrV, aPar, aPar3, aRet, aRetN, aRevD, aRevM, aSeq, aSl, aSmP, aTst, aTup, aUn, aVar, aYes, xAbs, xApp, xBools, xEqB, xGcd, xI, xIc, xInt, xInts, xIs_nn, xIs_bb, xIs_bn, xIs_in, xIs_sn, xIs_tn, xIs_ln, xLen, xListOfM, xMax, xMin, xNeg, xPop, xSum, xTupleOf, optW, view, W.isFn, List.forall_mem_cons, forall_nil, asB, onRL, isRL, pick, keyOf, val_cells, val_mixed, val_draws, put_draws, allD, finD, startA, List.map_cons, List.map_nil, List.length_cons, List.length_nil, List.replicate, List.cons_append, List.nil_append, List.append_nil, List.getElem?_cons_zero, List.getElem?_cons_succ, List.set_cons_zero, List.set_cons_succ, Option.join_some, Option.map_some, List.filterMap_cons, List.filterMap_nil, List.take, Nat.sub_self, Nat.add_one_sub_one, Nat.reduceSub, Nat.reduceAdd, List.replicate_zero, isT, atI_0, atI_1, size2, size1, size3, size0, true_and, and_true, Bool.true_eq_false, Bool.false_eq_true, if_true, if_false, ite_true, ite_false, reduceIte, eq_self, ex_app, ex_app2, ite_tt, ite_ft, List.cons.injEq, W.d.injEq, PyData.int.injEq, PyData.tuple.injEq, exists_eq_left', and_assoc, exists_and_left, eqOk_int, eqD_int, eqOk_fr, eqD_fr, eqOk_str, eqD_str, id, lo_ws1, lo_ws2, lo_ws3, Bool.not_true, Bool.not_false, Bool.and_true, Bool.and_false, Bool.true_and, Bool.false_and, Bool.or_true, Bool.or_false, Bool.true_or, Bool.false_or, aCallV, aCallL, capOf, onlyD, startL, aIZB, sqD, xIn, allS, xMulB, xStr, isStrW, xUpper, aLRg1, aRevT, rowD, rowsD, exists_eq_left, aIZG, seqG, SG, wipeA, lstOf, allBm, allIm, all_id, any_id, ones_ok, ones_eqD, aDic0, xReprA, xAdd_i, xAdd_s, xAdd_t, xAdd_l, xSl_t, xSl_l, xSl_s, xSl_scr, xListOf_t, xListOf_l, xIdx_t, xIdx_l, xIdx_s, xIdx_r, hy]
  exact q _ _ hm hd2
theorem ok__law_pick (T : Ty K mg base Tb) : Fdf P w K mg base (SG Tb) 2 "_law_pick" ["deck", "some"] [] sp__law_pick := T.d__law_pick.fd fun f fd Fn => g__law_pick T Fn
def iv_div (a b : Int) (ob : IH) : Nat → En → IH → Prop := fun k env ih => ∃ x y : Int, env = [some (.d (.int x)), some (.d (.int y))] ∧ ih = ob ∧ 0 ≤ x ∧ 0 ≤ y ∧ Nat.gcd x.natAbs y.natAbs = Nat.gcd a.natAbs b.natAbs ∧ y.toNat = k
def sp__law_divisor : ASp := fun ws ih Q => ∃ a b : Int, ws = [.d (.int a), .d (.int b)] ∧ Q (.d (.int ((Nat.gcd a.natAbs b.natAbs : Nat) : Int))) ih
theorem g__law_divisor (T : Ty K mg base Tb) {f : Addr} {fd : FuncData} (Fn : Fun K "_law_divisor" "_law_divisor" st__law_divisor f fd) : FnG P w K mg base (SG Tb) 1 f fd ["one", "other"] sp__law_divisor := by
  refine fnG_of Fn sc__law_divisor ((bv_cons (sv_par 0 1 (av_cons (ev_callB cv_abs rfl T.b_abs bt_abs (av_cons (ev_var 0) av_nil)) (av_cons (ev_callB cv_abs rfl T.b_abs bt_abs (av_cons (ev_var 1) av_nil)) av_nil)) (hw := fun env h => by cases env; subst h; rfl))
      (bv_cons (sv_while (tv_cmp ov_gt (ev_var 1) ev_int) (bv_one (sv_par 0 1 (av_cons (ev_var 1) (av_cons (ev_op ov_mod (ev_callT cv_int rfl T.b_int bt_int (av_cons (ev_var 0) av_nil)) (ev_var 1)) av_nil)) (hw := fun env h => by cases env; subst h; rfl))))
      (bv_one (sv_ret (ev_var 0)))))) fun ws ob Qa hl h => ?_
  obtain ⟨a, b, rfl, q⟩ := h
  simp only [aAnd, aAndV, aAsg, aAsgT, aBk, aC, aCB, aCall, aCallK, aChain, aCons, aCt, aDget, aDispM, aDput, aDrop, aGN, aGcons, aGnil, aGtup, aIE, aIL, aIR1, aIR2, aIT, aIZ, aIf, aIfS, aIsi, aLst, aLstM, aMt, aMt0, aNever, aNil, aNoP, aNot, aNotV, aNx, aOp, aOr, aOrV, aPar, aPar3, aRet, aRetN, aRevD, aRevM, aSeq, aSl, aSmP, aTst, aTup, aUn, aVar, aYes, xAbs, xApp, xBools, xEqB, xGcd, xI, xIc, xInt, xInts, xIs_nn, xIs_bb, xIs_bn, xIs_in, xIs_sn, xIs_tn, xIs_ln, xLen, xListOfM, xMax, xMin, xNeg, xPop, xSum, xTupleOf, optW, view, W.isFn, List.forall_mem_cons, forall_nil, asB, onRL, isRL, pick, keyOf, val_cells, val_mixed, val_draws, put_draws, allD, finD, startA, List.map_cons, List.map_nil, List.length_cons, List.length_nil, List.replicate, List.cons_append, List.nil_append, List.append_nil, List.getElem?_cons_zero, List.getElem?_cons_succ, List.set_cons_zero, List.set_cons_succ, Option.join_some, Option.map_some, List.filterMap_cons, List.filterMap_nil, List.take, Nat.sub_self, Nat.add_one_sub_one, Nat.reduceSub, Nat.reduceAdd, List.replicate_zero, isT, atI_0, atI_1, size2, size1, size3, size0, true_and, and_true, Bool.true_eq_false, Bool.false_eq_true, if_true, if_false, ite_true, ite_false, reduceIte, eq_self, ex_app, ex_app2, ite_tt, ite_ft, List.cons.injEq, W.d.injEq, PyData.int.injEq, PyData.tuple.injEq, exists_eq_left', and_assoc, exists_and_left, eqOk_int, eqD_int, eqOk_fr, eqD_fr, eqOk_str, eqD_str, id, lo_ws1, lo_ws2, lo_ws3, Bool.not_true, Bool.not_false, Bool.and_true, Bool.and_false, Bool.true_and, Bool.false_and, Bool.or_true, Bool.or_false, Bool.true_or, Bool.false_or, aCallV, aCallL, capOf, onlyD, startL, aIZB, sqD, xIn, allS, xMulB, xStr, isStrW, xUpper, aLRg1, aRevT, rowD, rowsD, exists_eq_left, aIZG, seqG, SG, wipeA, lstOf, allBm, allIm, all_id, any_id, ones_ok, ones_eqD, aDic0, xReprA, xAdd_i, xAdd_s, xAdd_t, xAdd_l, xSl_t, xSl_l, xSl_s, xSl_scr, xListOf_t, xListOf_l, xIdx_t, xIdx_l, xIdx_s, xIdx_r]
  refine ⟨iv_div a b ob, ⟨_, _, _, rfl, rfl, by split <;> omega, by split <;> omega, ?_, rfl⟩, ?_⟩
  · have e : ∀ i : Int, (if i < 0 then -i else i).natAbs = i.natAbs := fun i => by split <;> omega
    rw [e, e]
  · rintro k env ih ⟨x, y, rfl, rfl, x0, y0, g, rfl⟩
    simp only [aAnd, aAndV, aAsg, aAsgT, aBk, aC, aCB, aCall, aCallK, aChain, aCons, aCt, aDget, aDispM, aDput, aDrop, aGN, aGcons, aGnil, aGtup, aIE, aIL, aIR1, aIR2, aIT, aIZ, aIf, aIfS, aIsi, aLst, aLstM, aMt, aMt0, aNever, aNil, aNoP, aNot, aNotV, aNx, aOp, aOr, aOrV, aPar, aPar3, aRet, aRetN, aRevD, aRevM, aSeq, aSl, aSmP, aTst, aTup, aUn, aVar, aYes, xAbs, xApp, xBools, xEqB, xGcd, xI, xIc, xInt, xInts, xIs_nn, xIs_bb, xIs_bn, xIs_in, xIs_sn, xIs_tn, xIs_ln, xLen, xListOfM, xMax, xMin, xNeg, xPop, xSum, xTupleOf, optW, view, W.isFn, List.forall_mem_cons, forall_nil, asB, onRL, isRL, pick, keyOf, val_cells, val_mixed, val_draws, put_draws, allD, finD, startA, List.map_cons, List.map_nil, List.length_cons, List.length_nil, List.replicate, List.cons_append, List.nil_append, List.append_nil, List.getElem?_cons_zero, List.getElem?_cons_succ, List.set_cons_zero, List.set_cons_succ, Option.join_some, Option.map_some, List.filterMap_cons, List.filterMap_nil, List.take, Nat.sub_self, Nat.add_one_sub_one, Nat.reduceSub, Nat.reduceAdd, List.replicate_zero, isT, atI_0, atI_1, size2, size1, size3, size0, true_and, and_true, Bool.true_eq_false, Bool.false_eq_true, if_true, if_false, ite_true, ite_false, reduceIte, eq_self, ex_app, ex_app2, ite_tt, ite_ft, List.cons.injEq, W.d.injEq, PyData.int.injEq, PyData.tuple.injEq, exists_eq_left', and_assoc, exists_and_left, eqOk_int, eqD_int, eqOk_fr, eqD_fr, eqOk_str, eqD_str, id, lo_ws1, lo_ws2, lo_ws3, Bool.not_true, Bool.not_false, Bool.and_true, Bool.and_false, Bool.true_and, Bool.false_and, Bool.or_true, Bool.or_false, Bool.true_or, Bool.false_or, aCallV, aCallL, capOf, onlyD, startL, aIZB, sqD, xIn, allS, xMulB, xStr, isStrW, xUpper, aLRg1, aRevT, rowD, rowsD, exists_eq_left, aIZG, seqG, SG, wipeA, lstOf, allBm, allIm, all_id, any_id, ones_ok, ones_eqD, aDic0, xReprA, xAdd_i, xAdd_s, xAdd_t, xAdd_l, xSl_t, xSl_l, xSl_s, xSl_scr, xListOf_t, xListOf_l, xIdx_t, xIdx_l, xIdx_s, xIdx_r]
    by_cases hy : 0 < y
    · simp only [hy, decide_true, ite_tt, if_true]
      have f := fmod_in x y hy
      refine ⟨by omega, (x.fmod y).toNat, by omega, y, x.fmod y, rfl, rfl, by omega, f.1, ?_, rfl⟩
      rw [← g, Int.fmod_eq_emod_of_nonneg _ (by omega)]
      have e : (x % y).natAbs = x.natAbs % y.natAbs := by
        rw [Int.natAbs_emod_of_nonneg x0]
      rw [e, Nat.gcd_comm, Nat.gcd_comm x.natAbs, ← Nat.gcd_rec]
    · simp only [hy, decide_false, ite_ft, Bool.false_eq_true, if_false]
      have hz : y = 0 := by omega
      subst hz
      rw [show (0 : Int).natAbs = 0 from rfl, Nat.gcd_zero_right] at g
      have e : x = ((Nat.gcd a.natAbs b.natAbs : Nat) : Int) := by omega
      rw [e]
      exact q
theorem ok__law_divisor (T : Ty K mg base Tb) : Fdf P w K mg base (SG Tb) 1 "_law_divisor" ["one", "other"] [] sp__law_divisor := T.d__law_divisor.fd fun f fd Fn => g__law_divisor T Fn
def sp__law_lowest : ASp := fun ws ih Q => ∃ n d : Int, ws = [.d (.int n), .d (.int d)] ∧ d ≠ 0 ∧ Bd 3000 n ∧ Bd 3000 d ∧ ∀ p q, Low n d p q → Q (.d (.tuple [.int p, .int q])) ih
theorem g__law_lowest (T : Ty K mg base Tb) {f : Addr} {fd : FuncData} (Fn : Fun K "_law_lowest" "_law_lowest" st__law_lowest f fd) : FnG P w K mg base (SG Tb) 2 f fd ["n", "d"] sp__law_lowest := by
  refine fnG_of Fn sc__law_lowest ((bv_cons (sv_set 2 (ev_ifE (tv_cmp ov_gt (ev_var 1) ev_int) (evc (ok__law_divisor T) (Nat.le_of_ble_eq_true rfl) rfl (av_cons (ev_var 0) (av_cons (ev_var 1) av_nil))) (ev_un uv_neg (evc (ok__law_divisor T) (Nat.le_of_ble_eq_true rfl) rfl (av_cons (ev_var 0) (av_cons (ev_var 1) av_nil))))))
      (bv_one (sv_ret (ev_tup (av_cons (ev_op ov_fdiv (ev_var 0) (ev_var 2)) (av_cons (ev_op ov_fdiv (ev_var 1) (ev_var 2)) av_nil))))))) fun ws ob Qa hl h => ?_
  obtain ⟨n, d, rfl, hd, bn, bd, q⟩ := h
  have hg0 : 0 < Nat.gcd n.natAbs d.natAbs := Nat.gcd_pos_of_pos_right _ (by omega)
  have bg : Bd 3000 ((Nat.gcd n.natAbs d.natAbs : Nat) : Int) := bd.le (by rw [Int.natAbs_natCast]; exact Nat.le_of_dvd (by omega) (Nat.gcd_dvd_right _ _))
  simp only [aAnd, aAndV, aAsg, aAsgT, aBk, aC, aCB, aCall, aCallK, aChain, aCons, aCt, aDget, aDispM, aDput, aDrop, aGN, aGcons, aGnil, aGtup, aIE, aIL, aIR1, aIR2, aIT, aIZ, aIf, aIfS, aIsi, aLst, aLstM, aMt, aMt0, aNever, aNil, aNoP, aNot, aNotV, aNx, aOp, aOr, aOrV, aPar, aPar3, aRet, aRetN, aRevD, aRevM, aSeq, aSl, aSmP, aTst, aTup, aUn, aVar, aYes, xAbs, xApp, xBools, xEqB, xGcd, xI, xIc, xInt, xInts, xIs_nn, xIs_bb, xIs_bn, xIs_in, xIs_sn, xIs_tn, xIs_ln, xLen, xListOfM, xMax, xMin, xNeg, xPop, xSum, xTupleOf, optW, view, W.isFn, List.forall_mem_cons, forall_nil, asB, onRL, isRL, pick, keyOf, val_cells, val_mixed, val_draws, put_draws, allD, finD, startA, List.map_cons, List.map_nil, List.length_cons, List.length_nil, List.replicate, List.cons_append, List.nil_append, List.append_nil, List.getElem?_cons_zero, List.getElem?_cons_succ, List.set_cons_zero, List.set_cons_succ, Option.join_some, Option.map_some, List.filterMap_cons, List.filterMap_nil, List.take, Nat.sub_self, Nat.add_one_sub_one, Nat.reduceSub, Nat.reduceAdd, List.replicate_zero, isT, atI_0, atI_1, size2, size1, size3, size0, true_and, and_true, Bool.true_eq_false, Bool.false_eq_true, if_true, if_false, ite_true, ite_false, reduceIte, eq_self, ex_app, ex_app2, ite_tt, ite_ft, List.cons.injEq, W.d.injEq, PyData.int.injEq, PyData.tuple.injEq, exists_eq_left', and_assoc, exists_and_left, eqOk_int, eqD_int, eqOk_fr, eqD_fr, eqOk_str, eqD_str, id, lo_ws1, lo_ws2, lo_ws3, Bool.not_true, Bool.not_false, Bool.and_true, Bool.and_false, Bool.true_and, Bool.false_and, Bool.or_true, Bool.or_false, Bool.true_or, Bool.false_or, aCallV, aCallL, capOf, onlyD, startL, aIZB, sqD, xIn, allS, xMulB, xStr, isStrW, xUpper, aLRg1, aRevT, rowD, rowsD, exists_eq_left, aIZG, seqG, SG, wipeA, lstOf, allBm, allIm, all_id, any_id, ones_ok, ones_eqD, aDic0, xReprA, xAdd_i, xAdd_s, xAdd_t, xAdd_l, xSl_t, xSl_l, xSl_s, xSl_scr, xListOf_t, xListOf_l, xIdx_t, xIdx_l, xIdx_s, xIdx_r, sp__law_divisor]
  split
  · rename_i h1
    exact ⟨bg.cdv (by omega) (by decide), bg.cdv (by omega) (by decide), q _ _ (low_mk hd (by rw [if_pos (of_decide_eq_true h1)]))⟩
  · rename_i h1
    exact ⟨bg.neg.cdv (by omega) (by decide), bg.neg.cdv (by omega) (by decide), q _ _ (low_mk hd (by rw [if_neg fun z => h1 (decide_eq_true z)]))⟩
theorem ok__law_lowest (T : Ty K mg base Tb) : Fdf P w K mg base (SG Tb) 2 "_law_lowest" ["n", "d"] [] sp__law_lowest := T.d__law_lowest.fd fun f fd Fn => g__law_lowest T Fn
def sp__law_same (n : Nat) : ASp := fun ws ih Q => ∃ x : D, ws = [.d x, .d x] ∧ sameOk n x = true ∧ Q (.d (.bool true)) ih
theorem nil__law_same (ws : List W) (ih : IH) (Q : QW) : ¬ sp__law_same 0 ws ih Q := fun ⟨x, _, h, _⟩ => by simp [sameOk] at h

theorem rc__law_same (T : Ty K mg base Tb) : ∀ n : Nat, Fdf P w K mg base (SG Tb) n "_law_same" ["told", "due"] [] (sp__law_same n)
  | 0 => Df.none T.d__law_same fun ws ih Q => nil__law_same ws ih Q
  | n + 1 => T.d__law_same.fd fun f fd Fn => by
    have ih := rc__law_same T n
    refine fnG_of Fn sc__law_same ((bv_cons (sv_if (tv_val (ev_isi2 .tuple .list (ev_var 1) rfl T.b_isinstance rfl T.b_tuple bt_tuple rfl T.b_list bt_list bt_isinstance)) (bv_cons (sv_if (WV.tv (wv_or (tv_cmp ov_ne (ev_isi .tuple (ev_var 0) rfl T.b_isinstance rfl T.b_tuple bt_tuple bt_isinstance) (ev_isi .tuple (ev_var 1) rfl T.b_isinstance rfl T.b_tuple bt_tuple bt_isinstance)) (wv_or1 (tv_cmp ov_ne (ev_isi .list (ev_var 0) rfl T.b_isinstance rfl T.b_list bt_list bt_isinstance) (ev_isi .list (ev_var 1) rfl T.b_isinstance rfl T.b_list bt_list bt_isinstance))))) (bv_one (sv_ret ev_bl)) bv_nil)
      (bv_one (sv_ret (ev_and (ev_cmp ov_eq (ev_callB cv_len rfl T.b_len bt_len (av_cons (ev_var 0) av_nil)) (ev_callB cv_len rfl T.b_len bt_len (av_cons (ev_var 1) av_nil))) (ev_one (ev_cmp ov_eq (ev_lc [("x", 2), ("y", 3)] (iv_zipB (av_cons (ev_var 0) (av_cons (ev_var 1) av_nil)) rfl T.b_zip) (by show blkC ["told", "due", "x", "y"] (defScope st__law_same) _ _ = true; decide +kernel) (gw_tup (n := 2) (gws_cons (gw_name 2) (gws_cons (gw_name 3) gws_nil))) (tvs_one (tv_not (tv_val (evc ih (Nat.le_refl _) rfl (av_cons (ev_var 2) (av_cons (ev_var 3) av_nil)))))) ev_int) (ev_lst av_nil))))))) bv_nil)
      (bv_cons (sv_if (WV.tv (wv_or (tv_val (ev_isi .bool (ev_var 1) rfl T.b_isinstance rfl T.b_bool bt_bool bt_isinstance)) (wv_or1 (tv_cmp ov_is (ev_var 1) ev_non)))) (bv_one (sv_ret (ev_ifE (tv_cmp ov_is (ev_var 1) ev_bl) (ev_cmp ov_is (ev_var 0) ev_bl) (ev_ifE (tv_cmp ov_is (ev_var 1) ev_bl) (ev_cmp ov_is (ev_var 0) ev_bl) (ev_cmp ov_is (ev_var 0) ev_non))))) bv_nil)
      (bv_cons (sv_if (tv_val (ev_isi .str (ev_var 1) rfl T.b_isinstance rfl T.b_str bt_str bt_isinstance)) (bv_one (sv_ret (ev_and (ev_isi .str (ev_var 0) rfl T.b_isinstance rfl T.b_str bt_str bt_isinstance) (ev_one (ev_cmp ov_eq (ev_var 0) (ev_var 1)))))) bv_nil)
      (bv_one (sv_ret (ev_and (ev_isi .int (ev_var 0) rfl T.b_isinstance rfl T.b_int bt_int bt_isinstance) (ev_and (ev_not (ev_isi .bool (ev_var 0) rfl T.b_isinstance rfl T.b_bool bt_bool bt_isinstance)) (ev_one (ev_cmp ov_eq (ev_var 0) (ev_var 1))))))))))) fun ws ob Qa hl h => ?_
    obtain ⟨x, rfl, hx, q⟩ := h
    cases x with
    | none => cases hx
    | bool b =>
      cases b
      · simp only [aAnd, aAndV, aAsg, aAsgT, aBk, aC, aCB, aCall, aCallK, aChain, aCons, aCt, aDget, aDispM, aDput, aDrop, aGN, aGcons, aGnil, aGtup, aIE, aIL, aIR1, aIR2, aIT, aIZ, aIf, aIfS, aIsi, aLst, aLstM, aMt, aMt0, aNever, aNil, aNoP, aNot, aNotV, aNx, aOp, aOr, aOrV, aPar, aPar3, aRet, aRetN, aRevD, aRevM, aSeq, aSl, aSmP, aTst, aTup, aUn, aVar, aYes, xAbs, xApp, xBools, xEqB, xGcd, xI, xIc, xInt, xInts, xIs_nn, xIs_bb, xIs_bn, xIs_in, xIs_sn, xIs_tn, xIs_ln, xLen, xListOfM, xMax, xMin, xNeg, xPop, xSum, xTupleOf, optW, view, W.isFn, List.forall_mem_cons, forall_nil, asB, onRL, isRL, pick, keyOf, val_cells, val_mixed, val_draws, put_draws, allD, finD, startA, List.map_cons, List.map_nil, List.length_cons, List.length_nil, List.replicate, List.cons_append, List.nil_append, List.append_nil, List.getElem?_cons_zero, List.getElem?_cons_succ, List.set_cons_zero, List.set_cons_succ, Option.join_some, Option.map_some, List.filterMap_cons, List.filterMap_nil, List.take, Nat.sub_self, Nat.add_one_sub_one, Nat.reduceSub, Nat.reduceAdd, List.replicate_zero, isT, atI_0, atI_1, size2, size1, size3, size0, true_and, and_true, Bool.true_eq_false, Bool.false_eq_true, if_true, if_false, ite_true, ite_false, reduceIte, eq_self, ex_app, ex_app2, ite_tt, ite_ft, List.cons.injEq, W.d.injEq, PyData.int.injEq, PyData.tuple.injEq, exists_eq_left', and_assoc, exists_and_left, eqOk_int, eqD_int, eqOk_fr, eqD_fr, eqOk_str, eqD_str, id, lo_ws1, lo_ws2, lo_ws3, Bool.not_true, Bool.not_false, Bool.and_true, Bool.and_false, Bool.true_and, Bool.false_and, Bool.or_true, Bool.or_false, Bool.true_or, Bool.false_or, aCallV, aCallL, capOf, onlyD, startL, aIZB, sqD, xIn, allS, xMulB, xStr, isStrW, xUpper, aLRg1, aRevT, rowD, rowsD, exists_eq_left, aIZG, seqG, SG, wipeA, lstOf, allBm, allIm, all_id, any_id, ones_ok, ones_eqD, aDic0, xReprA, xAdd_i, xAdd_s, xAdd_t, xAdd_l, xSl_t, xSl_l, xSl_s, xSl_scr, xListOf_t, xListOf_l, xIdx_t, xIdx_l, xIdx_s, xIdx_r, decide_true, decide_false]
        exact q
      · simp only [aAnd, aAndV, aAsg, aAsgT, aBk, aC, aCB, aCall, aCallK, aChain, aCons, aCt, aDget, aDispM, aDput, aDrop, aGN, aGcons, aGnil, aGtup, aIE, aIL, aIR1, aIR2, aIT, aIZ, aIf, aIfS, aIsi, aLst, aLstM, aMt, aMt0, aNever, aNil, aNoP, aNot, aNotV, aNx, aOp, aOr, aOrV, aPar, aPar3, aRet, aRetN, aRevD, aRevM, aSeq, aSl, aSmP, aTst, aTup, aUn, aVar, aYes, xAbs, xApp, xBools, xEqB, xGcd, xI, xIc, xInt, xInts, xIs_nn, xIs_bb, xIs_bn, xIs_in, xIs_sn, xIs_tn, xIs_ln, xLen, xListOfM, xMax, xMin, xNeg, xPop, xSum, xTupleOf, optW, view, W.isFn, List.forall_mem_cons, forall_nil, asB, onRL, isRL, pick, keyOf, val_cells, val_mixed, val_draws, put_draws, allD, finD, startA, List.map_cons, List.map_nil, List.length_cons, List.length_nil, List.replicate, List.cons_append, List.nil_append, List.append_nil, List.getElem?_cons_zero, List.getElem?_cons_succ, List.set_cons_zero, List.set_cons_succ, Option.join_some, Option.map_some, List.filterMap_cons, List.filterMap_nil, List.take, Nat.sub_self, Nat.add_one_sub_one, Nat.reduceSub, Nat.reduceAdd, List.replicate_zero, isT, atI_0, atI_1, size2, size1, size3, size0, true_and, and_true, Bool.true_eq_false, Bool.false_eq_true, if_true, if_false, ite_true, ite_false, reduceIte, eq_self, ex_app, ex_app2, ite_tt, ite_ft, List.cons.injEq, W.d.injEq, PyData.int.injEq, PyData.tuple.injEq, exists_eq_left', and_assoc, exists_and_left, eqOk_int, eqD_int, eqOk_fr, eqD_fr, eqOk_str, eqD_str, id, lo_ws1, lo_ws2, lo_ws3, Bool.not_true, Bool.not_false, Bool.and_true, Bool.and_false, Bool.true_and, Bool.false_and, Bool.or_true, Bool.or_false, Bool.true_or, Bool.false_or, aCallV, aCallL, capOf, onlyD, startL, aIZB, sqD, xIn, allS, xMulB, xStr, isStrW, xUpper, aLRg1, aRevT, rowD, rowsD, exists_eq_left, aIZG, seqG, SG, wipeA, lstOf, allBm, allIm, all_id, any_id, ones_ok, ones_eqD, aDic0, xReprA, xAdd_i, xAdd_s, xAdd_t, xAdd_l, xSl_t, xSl_l, xSl_s, xSl_scr, xListOf_t, xListOf_l, xIdx_t, xIdx_l, xIdx_s, xIdx_r, decide_true, decide_false]
        exact q
    | int i =>
      simp only [aAnd, aAndV, aAsg, aAsgT, aBk, aC, aCB, aCall, aCallK, aChain, aCons, aCt, aDget, aDispM, aDput, aDrop, aGN, aGcons, aGnil, aGtup, aIE, aIL, aIR1, aIR2, aIT, aIZ, aIf, aIfS, aIsi, aLst, aLstM, aMt, aMt0, aNever, aNil, aNoP, aNot, aNotV, aNx, aOp, aOr, aOrV, aPar, aPar3, aRet, aRetN, aRevD, aRevM, aSeq, aSl, aSmP, aTst, aTup, aUn, aVar, aYes, xAbs, xApp, xBools, xEqB, xGcd, xI, xIc, xInt, xInts, xIs_nn, xIs_bb, xIs_bn, xIs_in, xIs_sn, xIs_tn, xIs_ln, xLen, xListOfM, xMax, xMin, xNeg, xPop, xSum, xTupleOf, optW, view, W.isFn, List.forall_mem_cons, forall_nil, asB, onRL, isRL, pick, keyOf, val_cells, val_mixed, val_draws, put_draws, allD, finD, startA, List.map_cons, List.map_nil, List.length_cons, List.length_nil, List.replicate, List.cons_append, List.nil_append, List.append_nil, List.getElem?_cons_zero, List.getElem?_cons_succ, List.set_cons_zero, List.set_cons_succ, Option.join_some, Option.map_some, List.filterMap_cons, List.filterMap_nil, List.take, Nat.sub_self, Nat.add_one_sub_one, Nat.reduceSub, Nat.reduceAdd, List.replicate_zero, isT, atI_0, atI_1, size2, size1, size3, size0, true_and, and_true, Bool.true_eq_false, Bool.false_eq_true, if_true, if_false, ite_true, ite_false, reduceIte, eq_self, ex_app, ex_app2, ite_tt, ite_ft, List.cons.injEq, W.d.injEq, PyData.int.injEq, PyData.tuple.injEq, exists_eq_left', and_assoc, exists_and_left, eqOk_int, eqD_int, eqOk_fr, eqD_fr, eqOk_str, eqD_str, id, lo_ws1, lo_ws2, lo_ws3, Bool.not_true, Bool.not_false, Bool.and_true, Bool.and_false, Bool.true_and, Bool.false_and, Bool.or_true, Bool.or_false, Bool.true_or, Bool.false_or, aCallV, aCallL, capOf, onlyD, startL, aIZB, sqD, xIn, allS, xMulB, xStr, isStrW, xUpper, aLRg1, aRevT, rowD, rowsD, exists_eq_left, aIZG, seqG, SG, wipeA, lstOf, allBm, allIm, all_id, any_id, ones_ok, ones_eqD, aDic0, xReprA, xAdd_i, xAdd_s, xAdd_t, xAdd_l, xSl_t, xSl_l, xSl_s, xSl_scr, xListOf_t, xListOf_l, xIdx_t, xIdx_l, xIdx_s, xIdx_r, xEqB, eqOk_bool, eqD_bool, decide_true]
      exact q
    | str i =>
      simp only [aAnd, aAndV, aAsg, aAsgT, aBk, aC, aCB, aCall, aCallK, aChain, aCons, aCt, aDget, aDispM, aDput, aDrop, aGN, aGcons, aGnil, aGtup, aIE, aIL, aIR1, aIR2, aIT, aIZ, aIf, aIfS, aIsi, aLst, aLstM, aMt, aMt0, aNever, aNil, aNoP, aNot, aNotV, aNx, aOp, aOr, aOrV, aPar, aPar3, aRet, aRetN, aRevD, aRevM, aSeq, aSl, aSmP, aTst, aTup, aUn, aVar, aYes, xAbs, xApp, xBools, xEqB, xGcd, xI, xIc, xInt, xInts, xIs_nn, xIs_bb, xIs_bn, xIs_in, xIs_sn, xIs_tn, xIs_ln, xLen, xListOfM, xMax, xMin, xNeg, xPop, xSum, xTupleOf, optW, view, W.isFn, List.forall_mem_cons, forall_nil, asB, onRL, isRL, pick, keyOf, val_cells, val_mixed, val_draws, put_draws, allD, finD, startA, List.map_cons, List.map_nil, List.length_cons, List.length_nil, List.replicate, List.cons_append, List.nil_append, List.append_nil, List.getElem?_cons_zero, List.getElem?_cons_succ, List.set_cons_zero, List.set_cons_succ, Option.join_some, Option.map_some, List.filterMap_cons, List.filterMap_nil, List.take, Nat.sub_self, Nat.add_one_sub_one, Nat.reduceSub, Nat.reduceAdd, List.replicate_zero, isT, atI_0, atI_1, size2, size1, size3, size0, true_and, and_true, Bool.true_eq_false, Bool.false_eq_true, if_true, if_false, ite_true, ite_false, reduceIte, eq_self, ex_app, ex_app2, ite_tt, ite_ft, List.cons.injEq, W.d.injEq, PyData.int.injEq, PyData.tuple.injEq, exists_eq_left', and_assoc, exists_and_left, eqOk_int, eqD_int, eqOk_fr, eqD_fr, eqOk_str, eqD_str, id, lo_ws1, lo_ws2, lo_ws3, Bool.not_true, Bool.not_false, Bool.and_true, Bool.and_false, Bool.true_and, Bool.false_and, Bool.or_true, Bool.or_false, Bool.true_or, Bool.false_or, aCallV, aCallL, capOf, onlyD, startL, aIZB, sqD, xIn, allS, xMulB, xStr, isStrW, xUpper, aLRg1, aRevT, rowD, rowsD, exists_eq_left, aIZG, seqG, SG, wipeA, lstOf, allBm, allIm, all_id, any_id, ones_ok, ones_eqD, aDic0, xReprA, xAdd_i, xAdd_s, xAdd_t, xAdd_l, xSl_t, xSl_l, xSl_s, xSl_scr, xListOf_t, xListOf_l, xIdx_t, xIdx_l, xIdx_s, xIdx_r, xEqB, eqOk_bool, eqD_bool, decide_true]
      exact q
    | tuple xs =>
      simp only [sameOk, Bool.and_eq_true, decide_eq_true_eq, List.all_eq_true] at hx
      simp only [aAnd, aAndV, aAsg, aAsgT, aBk, aC, aCB, aCall, aCallK, aChain, aCons, aCt, aDget, aDispM, aDput, aDrop, aGN, aGcons, aGnil, aGtup, aIE, aIL, aIR1, aIR2, aIT, aIZ, aIf, aIfS, aIsi, aLst, aLstM, aMt, aMt0, aNever, aNil, aNoP, aNot, aNotV, aNx, aOp, aOr, aOrV, aPar, aPar3, aRet, aRetN, aRevD, aRevM, aSeq, aSl, aSmP, aTst, aTup, aUn, aVar, aYes, xAbs, xApp, xBools, xEqB, xGcd, xI, xIc, xInt, xInts, xIs_nn, xIs_bb, xIs_bn, xIs_in, xIs_sn, xIs_tn, xIs_ln, xLen, xListOfM, xMax, xMin, xNeg, xPop, xSum, xTupleOf, optW, view, W.isFn, List.forall_mem_cons, forall_nil, asB, onRL, isRL, pick, keyOf, val_cells, val_mixed, val_draws, put_draws, allD, finD, startA, List.map_cons, List.map_nil, List.length_cons, List.length_nil, List.replicate, List.cons_append, List.nil_append, List.append_nil, List.getElem?_cons_zero, List.getElem?_cons_succ, List.set_cons_zero, List.set_cons_succ, Option.join_some, Option.map_some, List.filterMap_cons, List.filterMap_nil, List.take, Nat.sub_self, Nat.add_one_sub_one, Nat.reduceSub, Nat.reduceAdd, List.replicate_zero, isT, atI_0, atI_1, size2, size1, size3, size0, true_and, and_true, Bool.true_eq_false, Bool.false_eq_true, if_true, if_false, ite_true, ite_false, reduceIte, eq_self, ex_app, ex_app2, ite_tt, ite_ft, List.cons.injEq, W.d.injEq, PyData.int.injEq, PyData.tuple.injEq, exists_eq_left', and_assoc, exists_and_left, eqOk_int, eqD_int, eqOk_fr, eqD_fr, eqOk_str, eqD_str, id, lo_ws1, lo_ws2, lo_ws3, Bool.not_true, Bool.not_false, Bool.and_true, Bool.and_false, Bool.true_and, Bool.false_and, Bool.or_true, Bool.or_false, Bool.true_or, Bool.false_or, aCallV, aCallL, capOf, onlyD, startL, aIZB, sqD, xIn, allS, xMulB, xStr, isStrW, xUpper, aLRg1, aRevT, rowD, rowsD, exists_eq_left, aIZG, seqG, SG, wipeA, lstOf, allBm, allIm, all_id, any_id, ones_ok, ones_eqD, aDic0, xReprA, xAdd_i, xAdd_s, xAdd_t, xAdd_l, xSl_t, xSl_l, xSl_s, xSl_scr, xListOf_t, xListOf_l, xIdx_t, xIdx_l, xIdx_s, xIdx_r, aLc, xEqB, eqOk_bool, eqD_bool, decide_true]
      refine ⟨fun i acc ih => acc = [] ∧ ih = ob, ⟨rfl, rfl⟩, ?_, ?_, ?_⟩
      · rintro i d acc ih2 hd ⟨rfl, rfl⟩ _
        obtain ⟨y, hy, rfl⟩ := zipD_self hd
        simp only [aAnd, aAndV, aAsg, aAsgT, aBk, aC, aCB, aCall, aCallK, aChain, aCons, aCt, aDget, aDispM, aDput, aDrop, aGN, aGcons, aGnil, aGtup, aIE, aIL, aIR1, aIR2, aIT, aIZ, aIf, aIfS, aIsi, aLst, aLstM, aMt, aMt0, aNever, aNil, aNoP, aNot, aNotV, aNx, aOp, aOr, aOrV, aPar, aPar3, aRet, aRetN, aRevD, aRevM, aSeq, aSl, aSmP, aTst, aTup, aUn, aVar, aYes, xAbs, xApp, xBools, xEqB, xGcd, xI, xIc, xInt, xInts, xIs_nn, xIs_bb, xIs_bn, xIs_in, xIs_sn, xIs_tn, xIs_ln, xLen, xListOfM, xMax, xMin, xNeg, xPop, xSum, xTupleOf, optW, view, W.isFn, List.forall_mem_cons, forall_nil, asB, onRL, isRL, pick, keyOf, val_cells, val_mixed, val_draws, put_draws, allD, finD, startA, List.map_cons, List.map_nil, List.length_cons, List.length_nil, List.replicate, List.cons_append, List.nil_append, List.append_nil, List.getElem?_cons_zero, List.getElem?_cons_succ, List.set_cons_zero, List.set_cons_succ, Option.join_some, Option.map_some, List.filterMap_cons, List.filterMap_nil, List.take, Nat.sub_self, Nat.add_one_sub_one, Nat.reduceSub, Nat.reduceAdd, List.replicate_zero, isT, atI_0, atI_1, size2, size1, size3, size0, true_and, and_true, Bool.true_eq_false, Bool.false_eq_true, if_true, if_false, ite_true, ite_false, reduceIte, eq_self, ex_app, ex_app2, ite_tt, ite_ft, List.cons.injEq, W.d.injEq, PyData.int.injEq, PyData.tuple.injEq, exists_eq_left', and_assoc, exists_and_left, eqOk_int, eqD_int, eqOk_fr, eqD_fr, eqOk_str, eqD_str, id, lo_ws1, lo_ws2, lo_ws3, Bool.not_true, Bool.not_false, Bool.and_true, Bool.and_false, Bool.true_and, Bool.false_and, Bool.or_true, Bool.or_false, Bool.true_or, Bool.false_or, aCallV, aCallL, capOf, onlyD, startL, aIZB, sqD, xIn, allS, xMulB, xStr, isStrW, xUpper, aLRg1, aRevT, rowD, rowsD, exists_eq_left, aIZG, seqG, SG, wipeA, lstOf, allBm, allIm, all_id, any_id, ones_ok, ones_eqD, aDic0, xReprA, xAdd_i, xAdd_s, xAdd_t, xAdd_l, xSl_t, xSl_l, xSl_s, xSl_scr, xListOf_t, xListOf_l, xIdx_t, xIdx_l, xIdx_s, xIdx_r, wipeA]
        refine ⟨y, rfl, hx.1 y (List.mem_of_getElem? hy), ?_⟩
        simp only [aAnd, aAndV, aAsg, aAsgT, aBk, aC, aCB, aCall, aCallK, aChain, aCons, aCt, aDget, aDispM, aDput, aDrop, aGN, aGcons, aGnil, aGtup, aIE, aIL, aIR1, aIR2, aIT, aIZ, aIf, aIfS, aIsi, aLst, aLstM, aMt, aMt0, aNever, aNil, aNoP, aNot, aNotV, aNx, aOp, aOr, aOrV, aPar, aPar3, aRet, aRetN, aRevD, aRevM, aSeq, aSl, aSmP, aTst, aTup, aUn, aVar, aYes, xAbs, xApp, xBools, xEqB, xGcd, xI, xIc, xInt, xInts, xIs_nn, xIs_bb, xIs_bn, xIs_in, xIs_sn, xIs_tn, xIs_ln, xLen, xListOfM, xMax, xMin, xNeg, xPop, xSum, xTupleOf, optW, view, W.isFn, List.forall_mem_cons, forall_nil, asB, onRL, isRL, pick, keyOf, val_cells, val_mixed, val_draws, put_draws, allD, finD, startA, List.map_cons, List.map_nil, List.length_cons, List.length_nil, List.replicate, List.cons_append, List.nil_append, List.append_nil, List.getElem?_cons_zero, List.getElem?_cons_succ, List.set_cons_zero, List.set_cons_succ, Option.join_some, Option.map_some, List.filterMap_cons, List.filterMap_nil, List.take, Nat.sub_self, Nat.add_one_sub_one, Nat.reduceSub, Nat.reduceAdd, List.replicate_zero, isT, atI_0, atI_1, size2, size1, size3, size0, true_and, and_true, Bool.true_eq_false, Bool.false_eq_true, if_true, if_false, ite_true, ite_false, reduceIte, eq_self, ex_app, ex_app2, ite_tt, ite_ft, List.cons.injEq, W.d.injEq, PyData.int.injEq, PyData.tuple.injEq, exists_eq_left', and_assoc, exists_and_left, eqOk_int, eqD_int, eqOk_fr, eqD_fr, eqOk_str, eqD_str, id, lo_ws1, lo_ws2, lo_ws3, Bool.not_true, Bool.not_false, Bool.and_true, Bool.and_false, Bool.true_and, Bool.false_and, Bool.or_true, Bool.or_false, Bool.true_or, Bool.false_or, aCallV, aCallL, capOf, onlyD, startL, aIZB, sqD, xIn, allS, xMulB, xStr, isStrW, xUpper, aLRg1, aRevT, rowD, rowsD, exists_eq_left, aIZG, seqG, SG, wipeA, lstOf, allBm, allIm, all_id, any_id, ones_ok, ones_eqD, aDic0, xReprA, xAdd_i, xAdd_s, xAdd_t, xAdd_l, xSl_t, xSl_l, xSl_s, xSl_scr, xListOf_t, xListOf_l, xIdx_t, xIdx_l, xIdx_s, xIdx_r]
      · rw [zipD_len, Nat.min_self]
        exact Nat.le_trans hx.2 (by decide)
      · rintro acc ih2 _ ⟨rfl, rfl⟩
        exact ⟨⟨rfl, rfl⟩, ⟨[], (List.append_nil _).symm⟩, q⟩
    | list xs =>
      simp only [sameOk, Bool.and_eq_true, decide_eq_true_eq, List.all_eq_true] at hx
      simp only [aAnd, aAndV, aAsg, aAsgT, aBk, aC, aCB, aCall, aCallK, aChain, aCons, aCt, aDget, aDispM, aDput, aDrop, aGN, aGcons, aGnil, aGtup, aIE, aIL, aIR1, aIR2, aIT, aIZ, aIf, aIfS, aIsi, aLst, aLstM, aMt, aMt0, aNever, aNil, aNoP, aNot, aNotV, aNx, aOp, aOr, aOrV, aPar, aPar3, aRet, aRetN, aRevD, aRevM, aSeq, aSl, aSmP, aTst, aTup, aUn, aVar, aYes, xAbs, xApp, xBools, xEqB, xGcd, xI, xIc, xInt, xInts, xIs_nn, xIs_bb, xIs_bn, xIs_in, xIs_sn, xIs_tn, xIs_ln, xLen, xListOfM, xMax, xMin, xNeg, xPop, xSum, xTupleOf, optW, view, W.isFn, List.forall_mem_cons, forall_nil, asB, onRL, isRL, pick, keyOf, val_cells, val_mixed, val_draws, put_draws, allD, finD, startA, List.map_cons, List.map_nil, List.length_cons, List.length_nil, List.replicate, List.cons_append, List.nil_append, List.append_nil, List.getElem?_cons_zero, List.getElem?_cons_succ, List.set_cons_zero, List.set_cons_succ, Option.join_some, Option.map_some, List.filterMap_cons, List.filterMap_nil, List.take, Nat.sub_self, Nat.add_one_sub_one, Nat.reduceSub, Nat.reduceAdd, List.replicate_zero, isT, atI_0, atI_1, size2, size1, size3, size0, true_and, and_true, Bool.true_eq_false, Bool.false_eq_true, if_true, if_false, ite_true, ite_false, reduceIte, eq_self, ex_app, ex_app2, ite_tt, ite_ft, List.cons.injEq, W.d.injEq, PyData.int.injEq, PyData.tuple.injEq, exists_eq_left', and_assoc, exists_and_left, eqOk_int, eqD_int, eqOk_fr, eqD_fr, eqOk_str, eqD_str, id, lo_ws1, lo_ws2, lo_ws3, Bool.not_true, Bool.not_false, Bool.and_true, Bool.and_false, Bool.true_and, Bool.false_and, Bool.or_true, Bool.or_false, Bool.true_or, Bool.false_or, aCallV, aCallL, capOf, onlyD, startL, aIZB, sqD, xIn, allS, xMulB, xStr, isStrW, xUpper, aLRg1, aRevT, rowD, rowsD, exists_eq_left, aIZG, seqG, SG, wipeA, lstOf, allBm, allIm, all_id, any_id, ones_ok, ones_eqD, aDic0, xReprA, xAdd_i, xAdd_s, xAdd_t, xAdd_l, xSl_t, xSl_l, xSl_s, xSl_scr, xListOf_t, xListOf_l, xIdx_t, xIdx_l, xIdx_s, xIdx_r, aLc, xEqB, eqOk_bool, eqD_bool, decide_true]
      refine ⟨fun i acc ih => acc = [] ∧ ih = ob, ⟨rfl, rfl⟩, ?_, ?_, ?_⟩
      · rintro i d acc ih2 hd ⟨rfl, rfl⟩ _
        obtain ⟨y, hy, rfl⟩ := zipD_self hd
        simp only [aAnd, aAndV, aAsg, aAsgT, aBk, aC, aCB, aCall, aCallK, aChain, aCons, aCt, aDget, aDispM, aDput, aDrop, aGN, aGcons, aGnil, aGtup, aIE, aIL, aIR1, aIR2, aIT, aIZ, aIf, aIfS, aIsi, aLst, aLstM, aMt, aMt0, aNever, aNil, aNoP, aNot, aNotV, aNx, aOp, aOr, aOrV, aPar, aPar3, aRet, aRetN, aRevD, aRevM, aSeq, aSl, aSmP, aTst, aTup, aUn, aVar, aYes, xAbs, xApp, xBools, xEqB, xGcd, xI, xIc, xInt, xInts, xIs_nn, xIs_bb, xIs_bn, xIs_in, xIs_sn, xIs_tn, xIs_ln, xLen, xListOfM, xMax, xMin, xNeg, xPop, xSum, xTupleOf, optW, view, W.isFn, List.forall_mem_cons, forall_nil, asB, onRL, isRL, pick, keyOf, val_cells, val_mixed, val_draws, put_draws, allD, finD, startA, List.map_cons, List.map_nil, List.length_cons, List.length_nil, List.replicate, List.cons_append, List.nil_append, List.append_nil, List.getElem?_cons_zero, List.getElem?_cons_succ, List.set_cons_zero, List.set_cons_succ, Option.join_some, Option.map_some, List.filterMap_cons, List.filterMap_nil, List.take, Nat.sub_self, Nat.add_one_sub_one, Nat.reduceSub, Nat.reduceAdd, List.replicate_zero, isT, atI_0, atI_1, size2, size1, size3, size0, true_and, and_true, Bool.true_eq_false, Bool.false_eq_true, if_true, if_false, ite_true, ite_false, reduceIte, eq_self, ex_app, ex_app2, ite_tt, ite_ft, List.cons.injEq, W.d.injEq, PyData.int.injEq, PyData.tuple.injEq, exists_eq_left', and_assoc, exists_and_left, eqOk_int, eqD_int, eqOk_fr, eqD_fr, eqOk_str, eqD_str, id, lo_ws1, lo_ws2, lo_ws3, Bool.not_true, Bool.not_false, Bool.and_true, Bool.and_false, Bool.true_and, Bool.false_and, Bool.or_true, Bool.or_false, Bool.true_or, Bool.false_or, aCallV, aCallL, capOf, onlyD, startL, aIZB, sqD, xIn, allS, xMulB, xStr, isStrW, xUpper, aLRg1, aRevT, rowD, rowsD, exists_eq_left, aIZG, seqG, SG, wipeA, lstOf, allBm, allIm, all_id, any_id, ones_ok, ones_eqD, aDic0, xReprA, xAdd_i, xAdd_s, xAdd_t, xAdd_l, xSl_t, xSl_l, xSl_s, xSl_scr, xListOf_t, xListOf_l, xIdx_t, xIdx_l, xIdx_s, xIdx_r, wipeA]
        refine ⟨y, rfl, hx.1 y (List.mem_of_getElem? hy), ?_⟩
        simp only [aAnd, aAndV, aAsg, aAsgT, aBk, aC, aCB, aCall, aCallK, aChain, aCons, aCt, aDget, aDispM, aDput, aDrop, aGN, aGcons, aGnil, aGtup, aIE, aIL, aIR1, aIR2, aIT, aIZ, aIf, aIfS, aIsi, aLst, aLstM, aMt, aMt0, aNever, aNil, aNoP, aNot, aNotV, aNx, aOp, aOr, aOrV, aPar, aPar3, aRet, aRetN, aRevD, aRevM, aSeq, aSl, aSmP, aTst, aTup, aUn, aVar, aYes, xAbs, xApp, xBools, xEqB, xGcd, xI, xIc, xInt, xInts, xIs_nn, xIs_bb, xIs_bn, xIs_in, xIs_sn, xIs_tn, xIs_ln, xLen, xListOfM, xMax, xMin, xNeg, xPop, xSum, xTupleOf, optW, view, W.isFn, List.forall_mem_cons, forall_nil, asB, onRL, isRL, pick, keyOf, val_cells, val_mixed, val_draws, put_draws, allD, finD, startA, List.map_cons, List.map_nil, List.length_cons, List.length_nil, List.replicate, List.cons_append, List.nil_append, List.append_nil, List.getElem?_cons_zero, List.getElem?_cons_succ, List.set_cons_zero, List.set_cons_succ, Option.join_some, Option.map_some, List.filterMap_cons, List.filterMap_nil, List.take, Nat.sub_self, Nat.add_one_sub_one, Nat.reduceSub, Nat.reduceAdd, List.replicate_zero, isT, atI_0, atI_1, size2, size1, size3, size0, true_and, and_true, Bool.true_eq_false, Bool.false_eq_true, if_true, if_false, ite_true, ite_false, reduceIte, eq_self, ex_app, ex_app2, ite_tt, ite_ft, List.cons.injEq, W.d.injEq, PyData.int.injEq, PyData.tuple.injEq, exists_eq_left', and_assoc, exists_and_left, eqOk_int, eqD_int, eqOk_fr, eqD_fr, eqOk_str, eqD_str, id, lo_ws1, lo_ws2, lo_ws3, Bool.not_true, Bool.not_false, Bool.and_true, Bool.and_false, Bool.true_and, Bool.false_and, Bool.or_true, Bool.or_false, Bool.true_or, Bool.false_or, aCallV, aCallL, capOf, onlyD, startL, aIZB, sqD, xIn, allS, xMulB, xStr, isStrW, xUpper, aLRg1, aRevT, rowD, rowsD, exists_eq_left, aIZG, seqG, SG, wipeA, lstOf, allBm, allIm, all_id, any_id, ones_ok, ones_eqD, aDic0, xReprA, xAdd_i, xAdd_s, xAdd_t, xAdd_l, xSl_t, xSl_l, xSl_s, xSl_scr, xListOf_t, xListOf_l, xIdx_t, xIdx_l, xIdx_s, xIdx_r]
      · rw [zipD_len, Nat.min_self]
        exact Nat.le_trans hx.2 (by decide)
      · rintro acc ih2 _ ⟨rfl, rfl⟩
        exact ⟨⟨rfl, rfl⟩, ⟨[], (List.append_nil _).symm⟩, q⟩
    | dict i => cases hx
theorem ok__law_same (T : Ty K mg base Tb) : Fdf P w K mg base (SG Tb) 8 "_law_same" ["told", "due"] [] (sp__law_same 8) := rc__law_same T 8
def sp__law_is_int : ASp := fun ws ih Q => ∃ x : D, ws = [.d x] ∧ Q (.d (.bool (isI x))) ih
theorem g__law_is_int (T : Ty K mg base Tb) {f : Addr} {fd : FuncData} (Fn : Fun K "_law_is_int" "_law_is_int" st__law_is_int f fd) : FnG P w K mg base (SG Tb) 1 f fd ["thing"] sp__law_is_int := by
  refine fnG_of Fn sc__law_is_int ((bv_one (sv_ret (ev_and (ev_isi .int (ev_var 0) rfl T.b_isinstance rfl T.b_int bt_int bt_isinstance) (ev_one (ev_not (ev_isi .bool (ev_var 0) rfl T.b_isinstance rfl T.b_bool bt_bool bt_isinstance))))))) fun ws ob Qa hl h => ?_
  obtain ⟨x, rfl, q⟩ := h
  cases x <;> simp only [aAnd, aAndV, aAsg, aAsgT, aBk, aC, aCB, aCall, aCallK, aChain, aCons, aCt, aDget, aDispM, aDput, aDrop, aGN, aGcons, aGnil, aGtup, aIE, aIL, aIR1, aIR2, aIT, aIZ, aIf, aIfS, aIsi, aLst, aLstM, aMt, aMt0, aNever, aNil, aNoP, aNot, aNotV, aNx, aOp, aOr, aOrV, aPar, aPar3, aRet, aRetN, aRevD, aRevM, aSeq, aSl, aSmP, aTst, aTup, aUn, aVar, aYes, xAbs, xApp, xBools, xEqB, xGcd, xI, xIc, xInt, xInts, xIs_nn, xIs_bb, xIs_bn, xIs_in, xIs_sn, xIs_tn, xIs_ln, xLen, xListOfM, xMax, xMin, xNeg, xPop, xSum, xTupleOf, optW, view, W.isFn, List.forall_mem_cons, forall_nil, asB, onRL, isRL, pick, keyOf, val_cells, val_mixed, val_draws, put_draws, allD, finD, startA, List.map_cons, List.map_nil, List.length_cons, List.length_nil, List.replicate, List.cons_append, List.nil_append, List.append_nil, List.getElem?_cons_zero, List.getElem?_cons_succ, List.set_cons_zero, List.set_cons_succ, Option.join_some, Option.map_some, List.filterMap_cons, List.filterMap_nil, List.take, Nat.sub_self, Nat.add_one_sub_one, Nat.reduceSub, Nat.reduceAdd, List.replicate_zero, isT, atI_0, atI_1, size2, size1, size3, size0, true_and, and_true, Bool.true_eq_false, Bool.false_eq_true, if_true, if_false, ite_true, ite_false, reduceIte, eq_self, ex_app, ex_app2, ite_tt, ite_ft, List.cons.injEq, W.d.injEq, PyData.int.injEq, PyData.tuple.injEq, exists_eq_left', and_assoc, exists_and_left, eqOk_int, eqD_int, eqOk_fr, eqD_fr, eqOk_str, eqD_str, id, lo_ws1, lo_ws2, lo_ws3, Bool.not_true, Bool.not_false, Bool.and_true, Bool.and_false, Bool.true_and, Bool.false_and, Bool.or_true, Bool.or_false, Bool.true_or, Bool.false_or, aCallV, aCallL, capOf, onlyD, startL, aIZB, sqD, xIn, allS, xMulB, xStr, isStrW, xUpper, aLRg1, aRevT, rowD, rowsD, exists_eq_left, aIZG, seqG, SG, wipeA, lstOf, allBm, allIm, all_id, any_id, ones_ok, ones_eqD, aDic0, xReprA, xAdd_i, xAdd_s, xAdd_t, xAdd_l, xSl_t, xSl_l, xSl_s, xSl_scr, xListOf_t, xListOf_l, xIdx_t, xIdx_l, xIdx_s, xIdx_r] <;> exact q
theorem ok__law_is_int (T : Ty K mg base Tb) : Fdf P w K mg base (SG Tb) 1 "_law_is_int" ["thing"] [] sp__law_is_int := T.d__law_is_int.fd fun f fd Fn => g__law_is_int T Fn
def iv_int1 (m way : Int) (b : Nat) (r : IH) : Nat → En → IH → Prop := fun i env ih => ∃ (n : Int) (t : Option W), env = [some (.ref 2), some (.d (.int m)), some (.d (.int way)), some (.d (.int n)), t] ∧ 0 ≤ n ∧ n < 10 ^ (9 * i) ∧ Dk ([.tab "are_rows.<locals>.<lambda>"] : IH) (b + i) r ih
def iv_int2 (m way : Int) (b : Nat) (r : IH) : Nat → En → IH → Prop := fun i env ih => ∃ (n : Int) (t : Option W), env = [some (.ref 2), some (.d (.int m)), some (.d (.int way)), some (.d (.int n)), t] ∧ 0 ≤ n ∧ n < 10 ^ 99 ∧ Dk ([.tab "are_rows.<locals>.<lambda>"] : IH) b r ih
theorem bd330 {n : Int} (h0 : 0 ≤ n) (h : n < 10 ^ 99) : Bd 330 n := Bd.of (Int.lt_of_lt_of_le (by decide) h0) (Int.lt_trans h (by decide +kernel))
def sp__law_int : ASp := fun ws ih Q => ∃ (m : Int) (b : Nat) (r : IH), ws = [.ref 2, .d (.int m)] ∧ Dk ([.tab "are_rows.<locals>.<lambda>"] : IH) b r ih ∧ b ≤ 100000 ∧ 1 ≤ m ∧ m ≤ 90 ∧ ∀ i ih2 b2, Bd 340 i → b2 ≤ b + 20 → Dk ([.tab "are_rows.<locals>.<lambda>"] : IH) b2 r ih2 → Q (.d (.int i)) ih2
theorem g__law_int (T : Ty K mg base Tb) {f : Addr} {fd : FuncData} (Fn : Fun K "_law_int" "_law_int" st__law_int f fd) : FnG P w K mg base (SG Tb) 3 f fd ["deck", "most"] sp__law_int := by
  refine fnG_ofI Fn sc__law_int ((bv_cons (sv_par 2 3 (av_cons (evc (ok__law_draw T) (Nat.le_of_ble_eq_true rfl) rfl (av_cons (ev_var 0) (av_cons ev_int av_nil))) (av_cons ev_int av_nil)) (hw := fun env h => by cases env; subst h; rfl))
      (bv_cons (sv_if (tv_cmp ov_lt (ev_var 2) ev_int) (bv_one (sv_ret (ev_op ov_sub (evc (ok__law_draw T) (Nat.le_of_ble_eq_true rfl) rfl (av_cons (ev_var 0) (av_cons ev_int av_nil))) ev_int))) bv_nil)
      (bv_cons (sv_for (iv_range1 (av_cons (ev_op ov_add ev_int (ev_op ov_fdiv (ev_var 1) ev_int)) av_nil) rfl T.b_range) (GW.gv (vs := [4]) (gw_name 4)) (bv_one (sv_set 3 (ev_op ov_add (ev_op ov_mul (ev_var 3) (ev_op ov_pow ev_int ev_int)) (evc (ok__law_draw T) (Nat.le_of_ble_eq_true rfl) rfl (av_cons (ev_var 0) (av_cons (ev_op ov_pow ev_int ev_int) av_nil)))))))
      (bv_cons (sv_for (iv_range1 (av_cons (evc (ok__law_draw T) (Nat.le_of_ble_eq_true rfl) rfl (av_cons (ev_var 0) (av_cons (ev_var 1) av_nil))) av_nil) rfl T.b_range) (GW.gv (vs := [4]) (gw_name 4)) (bv_one (sv_set 3 (ev_op ov_fdiv (ev_var 3) ev_int))))
      (bv_cons (sv_set 3 (ev_op ov_mul (ev_var 3) (evc (ok__law_pick T) (Nat.le_of_ble_eq_true rfl) rfl (av_cons (ev_var 0) (av_cons (ev_lst (av_cons ev_int (av_cons ev_int (av_cons ev_int (av_cons ev_int (av_cons ev_int (av_cons ev_int av_nil))))))) av_nil)))))
      (bv_one (sv_ret (ev_ifE (tv_cmp ov_eq (evc (ok__law_draw T) (Nat.le_of_ble_eq_true rfl) rfl (av_cons (ev_var 0) (av_cons ev_int av_nil))) ev_int) (ev_un uv_neg (ev_var 3)) (ev_var 3)))))))))) fun ws ob Qa hl h => ?_
  obtain ⟨m, b, r, rfl, hd, hb, m0, m1, q⟩ := h
  have e9 : ((10 : Int) ^ (9 : Int).toNat) = 1000000000 := by decide
  have cp : CPow 10 9 := ⟨by decide, by decide, by decide⟩
  refine sq ?_
  simp only [aAnd, aAndV, aAsg, aAsgT, aBk, aC, aCB, aCall, aCallK, aChain, aCons, aCt, aDget, aDispM, aDput, aDrop, aGN, aGcons, aGnil, aGtup, aIE, aIL, aIR1, aIR2, aIT, aIZ, aIf, aIfS, aIsi, aLst, aLstM, aMt, aMt0, aNever, aNil, aNoP, aNot, aNotV, aNx, aOp, aOr, aOrV, aPar, aPar3, aRet, aRetN, aRevD, aRevM, aSl, aSmP, aTst, aTup, aUn, aVar, aYes, xAbs, xApp, xBools, xEqB, xGcd, xI, xIc, xInt, xInts, xIs_nn, xIs_bb, xIs_bn, xIs_in, xIs_sn, xIs_tn, xIs_ln, xLen, xListOfM, xMax, xMin, xNeg, xPop, xSum, xTupleOf, optW, view, W.isFn, List.forall_mem_cons, forall_nil, asB, onRL, isRL, pick, keyOf, val_cells, val_mixed, val_draws, put_draws, allD, finD, startA, List.map_cons, List.map_nil, List.length_cons, List.length_nil, List.replicate, List.cons_append, List.nil_append, List.append_nil, List.getElem?_cons_zero, List.getElem?_cons_succ, List.set_cons_zero, List.set_cons_succ, Option.join_some, Option.map_some, List.filterMap_cons, List.filterMap_nil, List.take, Nat.sub_self, Nat.add_one_sub_one, Nat.reduceSub, Nat.reduceAdd, List.replicate_zero, isT, atI_0, atI_1, size2, size1, size3, size0, true_and, and_true, Bool.true_eq_false, Bool.false_eq_true, if_true, if_false, ite_true, ite_false, reduceIte, eq_self, ex_app, ex_app2, ite_tt, ite_ft, List.cons.injEq, W.d.injEq, PyData.int.injEq, PyData.tuple.injEq, exists_eq_left', and_assoc, exists_and_left, eqOk_int, eqD_int, eqOk_fr, eqD_fr, eqOk_str, eqD_str, id, lo_ws1, lo_ws2, lo_ws3, Bool.not_true, Bool.not_false, Bool.and_true, Bool.and_false, Bool.true_and, Bool.false_and, Bool.or_true, Bool.or_false, Bool.true_or, Bool.false_or, aCallV, aCallL, capOf, onlyD, startL, aIZB, sqD, xIn, allS, xMulB, xStr, isStrW, xUpper, aLRg1, aRevT, rowD, rowsD, exists_eq_left, aIZG, seqG, SG, wipeA, lstOf, allBm, allIm, all_id, any_id, ones_ok, ones_eqD, aDic0, xReprA, xAdd_i, xAdd_s, xAdd_t, xAdd_l, xSl_t, xSl_l, xSl_s, xSl_scr, xListOf_t, xListOf_l, xIdx_t, xIdx_l, xIdx_s, xIdx_r, sp__law_draw]
  refine ⟨b, r, hd, by omega, by decide, by decide, fun way o1 w0 w1 hd1 => ?_⟩
  refine sq ?_
  by_cases hw : way < 3
  · simp only [aAnd, aAndV, aAsg, aAsgT, aBk, aC, aCB, aCall, aCallK, aChain, aCons, aCt, aDget, aDispM, aDput, aDrop, aGN, aGcons, aGnil, aGtup, aIE, aIL, aIR1, aIR2, aIT, aIZ, aIf, aIfS, aIsi, aLst, aLstM, aMt, aMt0, aNever, aNil, aNoP, aNot, aNotV, aNx, aOp, aOr, aOrV, aPar, aPar3, aRet, aRetN, aRevD, aRevM, aSl, aSmP, aTst, aTup, aUn, aVar, aYes, xAbs, xApp, xBools, xEqB, xGcd, xI, xIc, xInt, xInts, xIs_nn, xIs_bb, xIs_bn, xIs_in, xIs_sn, xIs_tn, xIs_ln, xLen, xListOfM, xMax, xMin, xNeg, xPop, xSum, xTupleOf, optW, view, W.isFn, List.forall_mem_cons, forall_nil, asB, onRL, isRL, pick, keyOf, val_cells, val_mixed, val_draws, put_draws, allD, finD, startA, List.map_cons, List.map_nil, List.length_cons, List.length_nil, List.replicate, List.cons_append, List.nil_append, List.append_nil, List.getElem?_cons_zero, List.getElem?_cons_succ, List.set_cons_zero, List.set_cons_succ, Option.join_some, Option.map_some, List.filterMap_cons, List.filterMap_nil, List.take, Nat.sub_self, Nat.add_one_sub_one, Nat.reduceSub, Nat.reduceAdd, List.replicate_zero, isT, atI_0, atI_1, size2, size1, size3, size0, true_and, and_true, Bool.true_eq_false, Bool.false_eq_true, if_true, if_false, ite_true, ite_false, reduceIte, eq_self, ex_app, ex_app2, ite_tt, ite_ft, List.cons.injEq, W.d.injEq, PyData.int.injEq, PyData.tuple.injEq, exists_eq_left', and_assoc, exists_and_left, eqOk_int, eqD_int, eqOk_fr, eqD_fr, eqOk_str, eqD_str, id, lo_ws1, lo_ws2, lo_ws3, Bool.not_true, Bool.not_false, Bool.and_true, Bool.and_false, Bool.true_and, Bool.false_and, Bool.or_true, Bool.or_false, Bool.true_or, Bool.false_or, aCallV, aCallL, capOf, onlyD, startL, aIZB, sqD, xIn, allS, xMulB, xStr, isStrW, xUpper, aLRg1, aRevT, rowD, rowsD, exists_eq_left, aIZG, seqG, SG, wipeA, lstOf, allBm, allIm, all_id, any_id, ones_ok, ones_eqD, aDic0, xReprA, xAdd_i, xAdd_s, xAdd_t, xAdd_l, xSl_t, xSl_l, xSl_s, xSl_scr, xListOf_t, xListOf_l, xIdx_t, xIdx_l, xIdx_s, xIdx_r, sp__law_draw, hw, decide_true]
    exact ⟨_, r, hd1, by omega, by decide, by decide, fun k o2 k0 k1 hd2 => q _ _ _ (Bd.of (by omega) (by omega)) (by omega) hd2⟩
  · simp only [aAnd, aAndV, aAsg, aAsgT, aBk, aC, aCB, aCall, aCallK, aChain, aCons, aCt, aDget, aDispM, aDput, aDrop, aGN, aGcons, aGnil, aGtup, aIE, aIL, aIR1, aIR2, aIT, aIZ, aIf, aIfS, aIsi, aLst, aLstM, aMt, aMt0, aNever, aNil, aNoP, aNot, aNotV, aNx, aOp, aOr, aOrV, aPar, aPar3, aRet, aRetN, aRevD, aRevM, aSl, aSmP, aTst, aTup, aUn, aVar, aYes, xAbs, xApp, xBools, xEqB, xGcd, xI, xIc, xInt, xInts, xIs_nn, xIs_bb, xIs_bn, xIs_in, xIs_sn, xIs_tn, xIs_ln, xLen, xListOfM, xMax, xMin, xNeg, xPop, xSum, xTupleOf, optW, view, W.isFn, List.forall_mem_cons, forall_nil, asB, onRL, isRL, pick, keyOf, val_cells, val_mixed, val_draws, put_draws, allD, finD, startA, List.map_cons, List.map_nil, List.length_cons, List.length_nil, List.replicate, List.cons_append, List.nil_append, List.append_nil, List.getElem?_cons_zero, List.getElem?_cons_succ, List.set_cons_zero, List.set_cons_succ, Option.join_some, Option.map_some, List.filterMap_cons, List.filterMap_nil, List.take, Nat.sub_self, Nat.add_one_sub_one, Nat.reduceSub, Nat.reduceAdd, List.replicate_zero, isT, atI_0, atI_1, size2, size1, size3, size0, true_and, and_true, Bool.true_eq_false, Bool.false_eq_true, if_true, if_false, ite_true, ite_false, reduceIte, eq_self, ex_app, ex_app2, ite_tt, ite_ft, List.cons.injEq, W.d.injEq, PyData.int.injEq, PyData.tuple.injEq, exists_eq_left', and_assoc, exists_and_left, eqOk_int, eqD_int, eqOk_fr, eqD_fr, eqOk_str, eqD_str, id, lo_ws1, lo_ws2, lo_ws3, Bool.not_true, Bool.not_false, Bool.and_true, Bool.and_false, Bool.true_and, Bool.false_and, Bool.or_true, Bool.or_false, Bool.true_or, Bool.false_or, aCallV, aCallL, capOf, onlyD, startL, aIZB, sqD, xIn, allS, xMulB, xStr, isStrW, xUpper, aLRg1, aRevT, rowD, rowsD, exists_eq_left, aIZG, seqG, SG, wipeA, lstOf, allBm, allIm, all_id, any_id, ones_ok, ones_eqD, aDic0, xReprA, xAdd_i, xAdd_s, xAdd_t, xAdd_l, xSl_t, xSl_l, xSl_s, xSl_scr, xListOf_t, xListOf_l, xIdx_t, xIdx_l, xIdx_s, xIdx_r, hw, decide_false]
    refine sq ?_
    simp only [aAnd, aAndV, aAsg, aAsgT, aBk, aC, aCB, aCall, aCallK, aChain, aCons, aCt, aDget, aDispM, aDput, aDrop, aGN, aGcons, aGnil, aGtup, aIE, aIL, aIR1, aIR2, aIT, aIZ, aIf, aIfS, aIsi, aLst, aLstM, aMt, aMt0, aNever, aNil, aNoP, aNot, aNotV, aNx, aOp, aOr, aOrV, aPar, aPar3, aRet, aRetN, aRevD, aRevM, aSl, aSmP, aTst, aTup, aUn, aVar, aYes, xAbs, xApp, xBools, xEqB, xGcd, xI, xIc, xInt, xInts, xIs_nn, xIs_bb, xIs_bn, xIs_in, xIs_sn, xIs_tn, xIs_ln, xLen, xListOfM, xMax, xMin, xNeg, xPop, xSum, xTupleOf, optW, view, W.isFn, List.forall_mem_cons, forall_nil, asB, onRL, isRL, pick, keyOf, val_cells, val_mixed, val_draws, put_draws, allD, finD, startA, List.map_cons, List.map_nil, List.length_cons, List.length_nil, List.replicate, List.cons_append, List.nil_append, List.append_nil, List.getElem?_cons_zero, List.getElem?_cons_succ, List.set_cons_zero, List.set_cons_succ, Option.join_some, Option.map_some, List.filterMap_cons, List.filterMap_nil, List.take, Nat.sub_self, Nat.add_one_sub_one, Nat.reduceSub, Nat.reduceAdd, List.replicate_zero, isT, atI_0, atI_1, size2, size1, size3, size0, true_and, and_true, Bool.true_eq_false, Bool.false_eq_true, if_true, if_false, ite_true, ite_false, reduceIte, eq_self, ex_app, ex_app2, ite_tt, ite_ft, List.cons.injEq, W.d.injEq, PyData.int.injEq, PyData.tuple.injEq, exists_eq_left', and_assoc, exists_and_left, eqOk_int, eqD_int, eqOk_fr, eqD_fr, eqOk_str, eqD_str, id, lo_ws1, lo_ws2, lo_ws3, Bool.not_true, Bool.not_false, Bool.and_true, Bool.and_false, Bool.true_and, Bool.false_and, Bool.or_true, Bool.or_false, Bool.true_or, Bool.false_or, aCallV, aCallL, capOf, onlyD, startL, aIZB, sqD, xIn, allS, xMulB, xStr, isStrW, xUpper, aLRg1, aRevT, rowD, rowsD, exists_eq_left, aIZG, seqG, SG, wipeA, lstOf, allBm, allIm, all_id, any_id, ones_ok, ones_eqD, aDic0, xReprA, xAdd_i, xAdd_s, xAdd_t, xAdd_l, xSl_t, xSl_l, xSl_s, xSl_scr, xListOf_t, xListOf_l, xIdx_t, xIdx_l, xIdx_s, xIdx_r, aFor]
    have em : m.fdiv 9 = m / 9 := Int.fdiv_eq_ediv_of_nonneg _ (by decide)
    refine ⟨(bd31 (by decide) (by decide) : Bd 31 9).cdv (by decide) (by decide), by rw [em]; omega, by rw [em]; omega, iv_int1 m way (b + 1) r, ⟨_, _, rfl, by decide, by decide, hd1⟩, ?_, ?_⟩
    · rintro i d env ih hi ⟨n, t, rfl, n0, n1, hd2⟩
      obtain ⟨hi, rfl⟩ := rng_in hi
      have hi2 : i < 11 := by rw [em] at hi; omega
      simp only [aAnd, aAndV, aAsg, aAsgT, aBk, aC, aCB, aCall, aCallK, aChain, aCons, aCt, aDget, aDispM, aDput, aDrop, aGN, aGcons, aGnil, aGtup, aIE, aIL, aIR1, aIR2, aIT, aIZ, aIf, aIfS, aIsi, aLst, aLstM, aMt, aMt0, aNever, aNil, aNoP, aNot, aNotV, aNx, aOp, aOr, aOrV, aPar, aPar3, aRet, aRetN, aRevD, aRevM, aSeq, aSl, aSmP, aTst, aTup, aUn, aVar, aYes, xAbs, xApp, xBools, xEqB, xGcd, xI, xIc, xInt, xInts, xIs_nn, xIs_bb, xIs_bn, xIs_in, xIs_sn, xIs_tn, xIs_ln, xLen, xListOfM, xMax, xMin, xNeg, xPop, xSum, xTupleOf, optW, view, W.isFn, List.forall_mem_cons, forall_nil, asB, onRL, isRL, pick, keyOf, val_cells, val_mixed, val_draws, put_draws, allD, finD, startA, List.map_cons, List.map_nil, List.length_cons, List.length_nil, List.replicate, List.cons_append, List.nil_append, List.append_nil, List.getElem?_cons_zero, List.getElem?_cons_succ, List.set_cons_zero, List.set_cons_succ, Option.join_some, Option.map_some, List.filterMap_cons, List.filterMap_nil, List.take, Nat.sub_self, Nat.add_one_sub_one, Nat.reduceSub, Nat.reduceAdd, List.replicate_zero, isT, atI_0, atI_1, size2, size1, size3, size0, true_and, and_true, Bool.true_eq_false, Bool.false_eq_true, if_true, if_false, ite_true, ite_false, reduceIte, eq_self, ex_app, ex_app2, ite_tt, ite_ft, List.cons.injEq, W.d.injEq, PyData.int.injEq, PyData.tuple.injEq, exists_eq_left', and_assoc, exists_and_left, eqOk_int, eqD_int, eqOk_fr, eqD_fr, eqOk_str, eqD_str, id, lo_ws1, lo_ws2, lo_ws3, Bool.not_true, Bool.not_false, Bool.and_true, Bool.and_false, Bool.true_and, Bool.false_and, Bool.or_true, Bool.or_false, Bool.true_or, Bool.false_or, aCallV, aCallL, capOf, onlyD, startL, aIZB, sqD, xIn, allS, xMulB, xStr, isStrW, xUpper, aLRg1, aRevT, rowD, rowsD, exists_eq_left, aIZG, seqG, SG, wipeA, lstOf, allBm, allIm, all_id, any_id, ones_ok, ones_eqD, aDic0, xReprA, xAdd_i, xAdd_s, xAdd_t, xAdd_l, xSl_t, xSl_l, xSl_s, xSl_scr, xListOf_t, xListOf_l, xIdx_t, xIdx_l, xIdx_s, xIdx_r, sp__law_draw, e9, cp]
      refine ⟨(bd330 n0 (Int.lt_of_lt_of_le n1 (pow10_le (by omega)))).cmul (bd31 (by decide) (by decide) : Bd 31 1000000000) (by decide), _, r, hd2, by omega, by decide, by decide, fun k o2 k0 k1 hd3 => ⟨_, _, rfl, by omega, ?_, hd3⟩⟩
      rw [Nat.mul_succ, Int.pow_add]
      omega
    · rintro env ih ⟨n, t, rfl, n0, n1, hd2⟩
      rw [rng_len] at n1 hd2
      have n2 : n < 10 ^ 99 := Int.lt_of_lt_of_le n1 (pow10_le (by rw [em]; omega))
      have hd3 : Dk ([.tab "are_rows.<locals>.<lambda>"] : IH) (b + 12) r ih := hd2.mono (by rw [em]; omega)
      refine sq ?_
      simp only [aAnd, aAndV, aAsg, aAsgT, aBk, aC, aCB, aCall, aCallK, aChain, aCons, aCt, aDget, aDispM, aDput, aDrop, aGN, aGcons, aGnil, aGtup, aIE, aIL, aIR1, aIR2, aIT, aIZ, aIf, aIfS, aIsi, aLst, aLstM, aMt, aMt0, aNever, aNil, aNoP, aNot, aNotV, aNx, aOp, aOr, aOrV, aPar, aPar3, aRet, aRetN, aRevD, aRevM, aSl, aSmP, aTst, aTup, aUn, aVar, aYes, xAbs, xApp, xBools, xEqB, xGcd, xI, xIc, xInt, xInts, xIs_nn, xIs_bb, xIs_bn, xIs_in, xIs_sn, xIs_tn, xIs_ln, xLen, xListOfM, xMax, xMin, xNeg, xPop, xSum, xTupleOf, optW, view, W.isFn, List.forall_mem_cons, forall_nil, asB, onRL, isRL, pick, keyOf, val_cells, val_mixed, val_draws, put_draws, allD, finD, startA, List.map_cons, List.map_nil, List.length_cons, List.length_nil, List.replicate, List.cons_append, List.nil_append, List.append_nil, List.getElem?_cons_zero, List.getElem?_cons_succ, List.set_cons_zero, List.set_cons_succ, Option.join_some, Option.map_some, List.filterMap_cons, List.filterMap_nil, List.take, Nat.sub_self, Nat.add_one_sub_one, Nat.reduceSub, Nat.reduceAdd, List.replicate_zero, isT, atI_0, atI_1, size2, size1, size3, size0, true_and, and_true, Bool.true_eq_false, Bool.false_eq_true, if_true, if_false, ite_true, ite_false, reduceIte, eq_self, ex_app, ex_app2, ite_tt, ite_ft, List.cons.injEq, W.d.injEq, PyData.int.injEq, PyData.tuple.injEq, exists_eq_left', and_assoc, exists_and_left, eqOk_int, eqD_int, eqOk_fr, eqD_fr, eqOk_str, eqD_str, id, lo_ws1, lo_ws2, lo_ws3, Bool.not_true, Bool.not_false, Bool.and_true, Bool.and_false, Bool.true_and, Bool.false_and, Bool.or_true, Bool.or_false, Bool.true_or, Bool.false_or, aCallV, aCallL, capOf, onlyD, startL, aIZB, sqD, xIn, allS, xMulB, xStr, isStrW, xUpper, aLRg1, aRevT, rowD, rowsD, exists_eq_left, aIZG, seqG, SG, wipeA, lstOf, allBm, allIm, all_id, any_id, ones_ok, ones_eqD, aDic0, xReprA, xAdd_i, xAdd_s, xAdd_t, xAdd_l, xSl_t, xSl_l, xSl_s, xSl_scr, xListOf_t, xListOf_l, xIdx_t, xIdx_l, xIdx_s, xIdx_r, aFor, sp__law_draw]
      refine ⟨_, r, hd3, by omega, by omega, by omega, fun k o2 k0 k1 hd4 => ⟨by omega, by omega, iv_int2 m way (b + 13) r, ⟨_, _, rfl, n0, n2, hd4⟩, ?_, ?_⟩⟩
      · rintro i d env ih hi ⟨n, t, rfl, n0, n1, hd2⟩
        simp only [aAnd, aAndV, aAsg, aAsgT, aBk, aC, aCB, aCall, aCallK, aChain, aCons, aCt, aDget, aDispM, aDput, aDrop, aGN, aGcons, aGnil, aGtup, aIE, aIL, aIR1, aIR2, aIT, aIZ, aIf, aIfS, aIsi, aLst, aLstM, aMt, aMt0, aNever, aNil, aNoP, aNot, aNotV, aNx, aOp, aOr, aOrV, aPar, aPar3, aRet, aRetN, aRevD, aRevM, aSeq, aSl, aSmP, aTst, aTup, aUn, aVar, aYes, xAbs, xApp, xBools, xEqB, xGcd, xI, xIc, xInt, xInts, xIs_nn, xIs_bb, xIs_bn, xIs_in, xIs_sn, xIs_tn, xIs_ln, xLen, xListOfM, xMax, xMin, xNeg, xPop, xSum, xTupleOf, optW, view, W.isFn, List.forall_mem_cons, forall_nil, asB, onRL, isRL, pick, keyOf, val_cells, val_mixed, val_draws, put_draws, allD, finD, startA, List.map_cons, List.map_nil, List.length_cons, List.length_nil, List.replicate, List.cons_append, List.nil_append, List.append_nil, List.getElem?_cons_zero, List.getElem?_cons_succ, List.set_cons_zero, List.set_cons_succ, Option.join_some, Option.map_some, List.filterMap_cons, List.filterMap_nil, List.take, Nat.sub_self, Nat.add_one_sub_one, Nat.reduceSub, Nat.reduceAdd, List.replicate_zero, isT, atI_0, atI_1, size2, size1, size3, size0, true_and, and_true, Bool.true_eq_false, Bool.false_eq_true, if_true, if_false, ite_true, ite_false, reduceIte, eq_self, ex_app, ex_app2, ite_tt, ite_ft, List.cons.injEq, W.d.injEq, PyData.int.injEq, PyData.tuple.injEq, exists_eq_left', and_assoc, exists_and_left, eqOk_int, eqD_int, eqOk_fr, eqD_fr, eqOk_str, eqD_str, id, lo_ws1, lo_ws2, lo_ws3, Bool.not_true, Bool.not_false, Bool.and_true, Bool.and_false, Bool.true_and, Bool.false_and, Bool.or_true, Bool.or_false, Bool.true_or, Bool.false_or, aCallV, aCallL, capOf, onlyD, startL, aIZB, sqD, xIn, allS, xMulB, xStr, isStrW, xUpper, aLRg1, aRevT, rowD, rowsD, exists_eq_left, aIZG, seqG, SG, wipeA, lstOf, allBm, allIm, all_id, any_id, ones_ok, ones_eqD, aDic0, xReprA, xAdd_i, xAdd_s, xAdd_t, xAdd_l, xSl_t, xSl_l, xSl_s, xSl_scr, xListOf_t, xListOf_l, xIdx_t, xIdx_l, xIdx_s, xIdx_r]
        have en : n.fdiv 10 = n / 10 := Int.fdiv_eq_ediv_of_nonneg _ (by decide)
        exact ⟨(bd31 (by decide) (by decide) : Bd 31 10).cdv (by decide) (by decide), _, _, rfl, by rw [en]; omega, by rw [en]; omega, hd2⟩
      · rintro env ih ⟨n, t, rfl, n0, n1, hd2⟩
        refine sq ?_
        have sz : (6 : Nat) ≤ sizeLine := by decide
        simp only [aAnd, aAndV, aAsg, aAsgT, aBk, aC, aCB, aCall, aCallK, aChain, aCons, aCt, aDget, aDispM, aDput, aDrop, aGN, aGcons, aGnil, aGtup, aIE, aIL, aIR1, aIR2, aIT, aIZ, aIf, aIfS, aIsi, aLst, aLstM, aMt, aMt0, aNever, aNil, aNoP, aNot, aNotV, aNx, aOp, aOr, aOrV, aPar, aPar3, aRet, aRetN, aRevD, aRevM, aSl, aSmP, aTst, aTup, aUn, aVar, aYes, xAbs, xApp, xBools, xEqB, xGcd, xI, xIc, xInt, xInts, xIs_nn, xIs_bb, xIs_bn, xIs_in, xIs_sn, xIs_tn, xIs_ln, xLen, xListOfM, xMax, xMin, xNeg, xPop, xSum, xTupleOf, optW, view, W.isFn, List.forall_mem_cons, forall_nil, asB, onRL, isRL, pick, keyOf, val_cells, val_mixed, val_draws, put_draws, allD, finD, startA, List.map_cons, List.map_nil, List.length_cons, List.length_nil, List.replicate, List.cons_append, List.nil_append, List.append_nil, List.getElem?_cons_zero, List.getElem?_cons_succ, List.set_cons_zero, List.set_cons_succ, Option.join_some, Option.map_some, List.filterMap_cons, List.filterMap_nil, List.take, Nat.sub_self, Nat.add_one_sub_one, Nat.reduceSub, Nat.reduceAdd, List.replicate_zero, isT, atI_0, atI_1, size2, size1, size3, size0, true_and, and_true, Bool.true_eq_false, Bool.false_eq_true, if_true, if_false, ite_true, ite_false, reduceIte, eq_self, ex_app, ex_app2, ite_tt, ite_ft, List.cons.injEq, W.d.injEq, PyData.int.injEq, PyData.tuple.injEq, exists_eq_left', and_assoc, exists_and_left, eqOk_int, eqD_int, eqOk_fr, eqD_fr, eqOk_str, eqD_str, id, lo_ws1, lo_ws2, lo_ws3, Bool.not_true, Bool.not_false, Bool.and_true, Bool.and_false, Bool.true_and, Bool.false_and, Bool.or_true, Bool.or_false, Bool.true_or, Bool.false_or, aCallV, aCallL, capOf, onlyD, startL, aIZB, sqD, xIn, allS, xMulB, xStr, isStrW, xUpper, aLRg1, aRevT, rowD, rowsD, exists_eq_left, aIZG, seqG, SG, wipeA, lstOf, allBm, allIm, all_id, any_id, ones_ok, ones_eqD, aDic0, xReprA, xAdd_i, xAdd_s, xAdd_t, xAdd_l, xSl_t, xSl_l, xSl_s, xSl_scr, xListOf_t, xListOf_l, xIdx_t, xIdx_l, xIdx_s, xIdx_r, sp__law_pick, sz, PyData.list.injEq]
        refine ⟨_, r, hd2, by omega, by decide, by decide, fun x o3 hx hd5 => ?_⟩
        obtain ⟨z, rfl, z0, z1⟩ : ∃ z : Int, x = .int z ∧ 0 ≤ z ∧ z < 1024 := by
          simp only [List.mem_cons, List.not_mem_nil, or_false] at hx
          rcases hx with rfl | rfl | rfl | rfl | rfl | rfl <;> exact ⟨_, rfl, by decide, by decide⟩
        have bz : Bd 10 z := Bd.of (by omega) (by omega)
        have bn := bd330 n0 n1
        simp only [aAnd, aAndV, aAsg, aAsgT, aBk, aC, aCB, aCall, aCallK, aChain, aCons, aCt, aDget, aDispM, aDput, aDrop, aGN, aGcons, aGnil, aGtup, aIE, aIL, aIR1, aIR2, aIT, aIZ, aIf, aIfS, aIsi, aLst, aLstM, aMt, aMt0, aNever, aNil, aNoP, aNot, aNotV, aNx, aOp, aOr, aOrV, aPar, aPar3, aRet, aRetN, aRevD, aRevM, aSeq, aSl, aSmP, aTst, aTup, aUn, aVar, aYes, xAbs, xApp, xBools, xEqB, xGcd, xI, xIc, xInt, xInts, xIs_nn, xIs_bb, xIs_bn, xIs_in, xIs_sn, xIs_tn, xIs_ln, xLen, xListOfM, xMax, xMin, xNeg, xPop, xSum, xTupleOf, optW, view, W.isFn, List.forall_mem_cons, forall_nil, asB, onRL, isRL, pick, keyOf, val_cells, val_mixed, val_draws, put_draws, allD, finD, startA, List.map_cons, List.map_nil, List.length_cons, List.length_nil, List.replicate, List.cons_append, List.nil_append, List.append_nil, List.getElem?_cons_zero, List.getElem?_cons_succ, List.set_cons_zero, List.set_cons_succ, Option.join_some, Option.map_some, List.filterMap_cons, List.filterMap_nil, List.take, Nat.sub_self, Nat.add_one_sub_one, Nat.reduceSub, Nat.reduceAdd, List.replicate_zero, isT, atI_0, atI_1, size2, size1, size3, size0, true_and, and_true, Bool.true_eq_false, Bool.false_eq_true, if_true, if_false, ite_true, ite_false, reduceIte, eq_self, ex_app, ex_app2, ite_tt, ite_ft, List.cons.injEq, W.d.injEq, PyData.int.injEq, PyData.tuple.injEq, exists_eq_left', and_assoc, exists_and_left, eqOk_int, eqD_int, eqOk_fr, eqD_fr, eqOk_str, eqD_str, id, lo_ws1, lo_ws2, lo_ws3, Bool.not_true, Bool.not_false, Bool.and_true, Bool.and_false, Bool.true_and, Bool.false_and, Bool.or_true, Bool.or_false, Bool.true_or, Bool.false_or, aCallV, aCallL, capOf, onlyD, startL, aIZB, sqD, xIn, allS, xMulB, xStr, isStrW, xUpper, aLRg1, aRevT, rowD, rowsD, exists_eq_left, aIZG, seqG, SG, wipeA, lstOf, allBm, allIm, all_id, any_id, ones_ok, ones_eqD, aDic0, xReprA, xAdd_i, xAdd_s, xAdd_t, xAdd_l, xSl_t, xSl_l, xSl_s, xSl_scr, xListOf_t, xListOf_l, xIdx_t, xIdx_l, xIdx_s, xIdx_r, sp__law_draw]
        refine ⟨bn.cmul bz (by decide), _, r, hd5, by omega, by decide, by decide, fun k2 o4 k0 k1 hd6 => ?_⟩
        by_cases hk : k2 = 0
        · simp only [aAnd, aAndV, aAsg, aAsgT, aBk, aC, aCB, aCall, aCallK, aChain, aCons, aCt, aDget, aDispM, aDput, aDrop, aGN, aGcons, aGnil, aGtup, aIE, aIL, aIR1, aIR2, aIT, aIZ, aIf, aIfS, aIsi, aLst, aLstM, aMt, aMt0, aNever, aNil, aNoP, aNot, aNotV, aNx, aOp, aOr, aOrV, aPar, aPar3, aRet, aRetN, aRevD, aRevM, aSeq, aSl, aSmP, aTst, aTup, aUn, aVar, aYes, xAbs, xApp, xBools, xEqB, xGcd, xI, xIc, xInt, xInts, xIs_nn, xIs_bb, xIs_bn, xIs_in, xIs_sn, xIs_tn, xIs_ln, xLen, xListOfM, xMax, xMin, xNeg, xPop, xSum, xTupleOf, optW, view, W.isFn, List.forall_mem_cons, forall_nil, asB, onRL, isRL, pick, keyOf, val_cells, val_mixed, val_draws, put_draws, allD, finD, startA, List.map_cons, List.map_nil, List.length_cons, List.length_nil, List.replicate, List.cons_append, List.nil_append, List.append_nil, List.getElem?_cons_zero, List.getElem?_cons_succ, List.set_cons_zero, List.set_cons_succ, Option.join_some, Option.map_some, List.filterMap_cons, List.filterMap_nil, List.take, Nat.sub_self, Nat.add_one_sub_one, Nat.reduceSub, Nat.reduceAdd, List.replicate_zero, isT, atI_0, atI_1, size2, size1, size3, size0, true_and, and_true, Bool.true_eq_false, Bool.false_eq_true, if_true, if_false, ite_true, ite_false, reduceIte, eq_self, ex_app, ex_app2, ite_tt, ite_ft, List.cons.injEq, W.d.injEq, PyData.int.injEq, PyData.tuple.injEq, exists_eq_left', and_assoc, exists_and_left, eqOk_int, eqD_int, eqOk_fr, eqD_fr, eqOk_str, eqD_str, id, lo_ws1, lo_ws2, lo_ws3, Bool.not_true, Bool.not_false, Bool.and_true, Bool.and_false, Bool.true_and, Bool.false_and, Bool.or_true, Bool.or_false, Bool.true_or, Bool.false_or, aCallV, aCallL, capOf, onlyD, startL, aIZB, sqD, xIn, allS, xMulB, xStr, isStrW, xUpper, aLRg1, aRevT, rowD, rowsD, exists_eq_left, aIZG, seqG, SG, wipeA, lstOf, allBm, allIm, all_id, any_id, ones_ok, ones_eqD, aDic0, xReprA, xAdd_i, xAdd_s, xAdd_t, xAdd_l, xSl_t, xSl_l, xSl_s, xSl_scr, xListOf_t, xListOf_l, xIdx_t, xIdx_l, xIdx_s, xIdx_r, hk, decide_true]
          exact q _ _ _ (bn.mul bz).neg (by omega) hd6
        · simp only [aAnd, aAndV, aAsg, aAsgT, aBk, aC, aCB, aCall, aCallK, aChain, aCons, aCt, aDget, aDispM, aDput, aDrop, aGN, aGcons, aGnil, aGtup, aIE, aIL, aIR1, aIR2, aIT, aIZ, aIf, aIfS, aIsi, aLst, aLstM, aMt, aMt0, aNever, aNil, aNoP, aNot, aNotV, aNx, aOp, aOr, aOrV, aPar, aPar3, aRet, aRetN, aRevD, aRevM, aSeq, aSl, aSmP, aTst, aTup, aUn, aVar, aYes, xAbs, xApp, xBools, xEqB, xGcd, xI, xIc, xInt, xInts, xIs_nn, xIs_bb, xIs_bn, xIs_in, xIs_sn, xIs_tn, xIs_ln, xLen, xListOfM, xMax, xMin, xNeg, xPop, xSum, xTupleOf, optW, view, W.isFn, List.forall_mem_cons, forall_nil, asB, onRL, isRL, pick, keyOf, val_cells, val_mixed, val_draws, put_draws, allD, finD, startA, List.map_cons, List.map_nil, List.length_cons, List.length_nil, List.replicate, List.cons_append, List.nil_append, List.append_nil, List.getElem?_cons_zero, List.getElem?_cons_succ, List.set_cons_zero, List.set_cons_succ, Option.join_some, Option.map_some, List.filterMap_cons, List.filterMap_nil, List.take, Nat.sub_self, Nat.add_one_sub_one, Nat.reduceSub, Nat.reduceAdd, List.replicate_zero, isT, atI_0, atI_1, size2, size1, size3, size0, true_and, and_true, Bool.true_eq_false, Bool.false_eq_true, if_true, if_false, ite_true, ite_false, reduceIte, eq_self, ex_app, ex_app2, ite_tt, ite_ft, List.cons.injEq, W.d.injEq, PyData.int.injEq, PyData.tuple.injEq, exists_eq_left', and_assoc, exists_and_left, eqOk_int, eqD_int, eqOk_fr, eqD_fr, eqOk_str, eqD_str, id, lo_ws1, lo_ws2, lo_ws3, Bool.not_true, Bool.not_false, Bool.and_true, Bool.and_false, Bool.true_and, Bool.false_and, Bool.or_true, Bool.or_false, Bool.true_or, Bool.false_or, aCallV, aCallL, capOf, onlyD, startL, aIZB, sqD, xIn, allS, xMulB, xStr, isStrW, xUpper, aLRg1, aRevT, rowD, rowsD, exists_eq_left, aIZG, seqG, SG, wipeA, lstOf, allBm, allIm, all_id, any_id, ones_ok, ones_eqD, aDic0, xReprA, xAdd_i, xAdd_s, xAdd_t, xAdd_l, xSl_t, xSl_l, xSl_s, xSl_scr, xListOf_t, xListOf_l, xIdx_t, xIdx_l, xIdx_s, xIdx_r, hk, decide_false]
          exact q _ _ _ (bn.mul bz) (by omega) hd6
theorem ok__law_int (T : Ty K mg base Tb) : Fdf P w K mg base (SG Tb) 3 "_law_int" ["deck", "most"] [] sp__law_int := T.d__law_int.fd fun f fd Fn => g__law_int T Fn
def sp__law_is_fraction : ASp := fun ws ih Q => ∃ x : D, ws = [.d x] ∧ Q (.d (.bool (fFr x))) ih
theorem g__law_is_fraction (T : Ty K mg base Tb) {f : Addr} {fd : FuncData} (Fn : Fun K "_law_is_fraction" "_law_is_fraction" st__law_is_fraction f fd) : FnG P w K mg base (SG Tb) 2 f fd ["thing"] sp__law_is_fraction := by
  refine fnG_of Fn sc__law_is_fraction ((bv_cons (sv_if (WV.tv (wv_or (tv_not (tv_val (ev_isi .tuple (ev_var 0) rfl T.b_isinstance rfl T.b_tuple bt_tuple bt_isinstance))) (wv_or (tv_cmp ov_ne (ev_callB cv_len rfl T.b_len bt_len (av_cons (ev_var 0) av_nil)) ev_int) (wv_or (tv_not (tv_val (evc (ok__law_is_int T) (Nat.le_of_ble_eq_true rfl) rfl (av_cons (ev_ix (ev_var 0) ev_int) av_nil)))) (wv_or1 (tv_not (tv_val (evc (ok__law_is_int T) (Nat.le_of_ble_eq_true rfl) rfl (av_cons (ev_ix (ev_var 0) ev_int) av_nil))))))))) (bv_one (sv_ret ev_bl)) bv_nil)
      (bv_one (sv_ret (ev_and (ev_cmp ov_ge (ev_ix (ev_var 0) ev_int) ev_int) (ev_one (ev_cmp ov_eq (evc (ok__law_divisor T) (Nat.le_of_ble_eq_true rfl) rfl (av_cons (ev_ix (ev_var 0) ev_int) (av_cons (ev_ix (ev_var 0) ev_int) av_nil))) ev_int))))))) fun ws ob Qa hl h => ?_
  obtain ⟨x, rfl, q⟩ := h
  by_cases e : tupN x 2 = true
  · obtain ⟨y, z, rfl⟩ := tup2 e
    have e2 : decide (((2 : Nat) : Int) = 2) = true := rfl
    simp only [aAnd, aAndV, aAsg, aAsgT, aBk, aC, aCB, aCall, aCallK, aChain, aCons, aCt, aDget, aDispM, aDput, aDrop, aGN, aGcons, aGnil, aGtup, aIE, aIL, aIR1, aIR2, aIT, aIZ, aIf, aIfS, aIsi, aLst, aLstM, aMt, aMt0, aNever, aNil, aNoP, aNot, aNotV, aNx, aOp, aOr, aOrV, aPar, aPar3, aRet, aRetN, aRevD, aRevM, aSeq, aSl, aSmP, aTst, aTup, aUn, aVar, aYes, xAbs, xApp, xBools, xEqB, xGcd, xI, xIc, xInt, xInts, xIs_nn, xIs_bb, xIs_bn, xIs_in, xIs_sn, xIs_tn, xIs_ln, xLen, xListOfM, xMax, xMin, xNeg, xPop, xSum, xTupleOf, optW, view, W.isFn, List.forall_mem_cons, forall_nil, asB, onRL, isRL, pick, keyOf, val_cells, val_mixed, val_draws, put_draws, allD, finD, startA, List.map_cons, List.map_nil, List.length_cons, List.length_nil, List.replicate, List.cons_append, List.nil_append, List.append_nil, List.getElem?_cons_zero, List.getElem?_cons_succ, List.set_cons_zero, List.set_cons_succ, Option.join_some, Option.map_some, List.filterMap_cons, List.filterMap_nil, List.take, Nat.sub_self, Nat.add_one_sub_one, Nat.reduceSub, Nat.reduceAdd, List.replicate_zero, isT, atI_0, atI_1, size2, size1, size3, size0, true_and, and_true, Bool.true_eq_false, Bool.false_eq_true, if_true, if_false, ite_true, ite_false, reduceIte, eq_self, ex_app, ex_app2, ite_tt, ite_ft, List.cons.injEq, W.d.injEq, PyData.int.injEq, PyData.tuple.injEq, exists_eq_left', and_assoc, exists_and_left, eqOk_int, eqD_int, eqOk_fr, eqD_fr, eqOk_str, eqD_str, id, lo_ws1, lo_ws2, lo_ws3, Bool.not_true, Bool.not_false, Bool.and_true, Bool.and_false, Bool.true_and, Bool.false_and, Bool.or_true, Bool.or_false, Bool.true_or, Bool.false_or, aCallV, aCallL, capOf, onlyD, startL, aIZB, sqD, xIn, allS, xMulB, xStr, isStrW, xUpper, aLRg1, aRevT, rowD, rowsD, exists_eq_left, aIZG, seqG, SG, wipeA, lstOf, allBm, allIm, all_id, any_id, ones_ok, ones_eqD, aDic0, xReprA, xAdd_i, xAdd_s, xAdd_t, xAdd_l, xSl_t, xSl_l, xSl_s, xSl_scr, xListOf_t, xListOf_l, xIdx_t, xIdx_l, xIdx_s, xIdx_r, xEqB, e2, sp__law_is_int]
    cases y with
    | int n =>
      cases z with
      | int d =>
        unfold fFr at q
        simp only at q
        by_cases h1 : 1 ≤ d
        · simp only [h1, decide_true, Bool.true_and] at q
          simp only [aAnd, aAndV, aAsg, aAsgT, aBk, aC, aCB, aCall, aCallK, aChain, aCons, aCt, aDget, aDispM, aDput, aDrop, aGN, aGcons, aGnil, aGtup, aIE, aIL, aIR1, aIR2, aIT, aIZ, aIf, aIfS, aIsi, aLst, aLstM, aMt, aMt0, aNever, aNil, aNoP, aNot, aNotV, aNx, aOp, aOr, aOrV, aPar, aPar3, aRet, aRetN, aRevD, aRevM, aSeq, aSl, aSmP, aTst, aTup, aUn, aVar, aYes, xAbs, xApp, xBools, xEqB, xGcd, xI, xIc, xInt, xInts, xIs_nn, xIs_bb, xIs_bn, xIs_in, xIs_sn, xIs_tn, xIs_ln, xLen, xListOfM, xMax, xMin, xNeg, xPop, xSum, xTupleOf, optW, view, W.isFn, List.forall_mem_cons, forall_nil, asB, onRL, isRL, pick, keyOf, val_cells, val_mixed, val_draws, put_draws, allD, finD, startA, List.map_cons, List.map_nil, List.length_cons, List.length_nil, List.replicate, List.cons_append, List.nil_append, List.append_nil, List.getElem?_cons_zero, List.getElem?_cons_succ, List.set_cons_zero, List.set_cons_succ, Option.join_some, Option.map_some, List.filterMap_cons, List.filterMap_nil, List.take, Nat.sub_self, Nat.add_one_sub_one, Nat.reduceSub, Nat.reduceAdd, List.replicate_zero, isT, atI_0, atI_1, size2, size1, size3, size0, true_and, and_true, Bool.true_eq_false, Bool.false_eq_true, if_true, if_false, ite_true, ite_false, reduceIte, eq_self, ex_app, ex_app2, ite_tt, ite_ft, List.cons.injEq, W.d.injEq, PyData.int.injEq, PyData.tuple.injEq, exists_eq_left', and_assoc, exists_and_left, eqOk_int, eqD_int, eqOk_fr, eqD_fr, eqOk_str, eqD_str, id, lo_ws1, lo_ws2, lo_ws3, Bool.not_true, Bool.not_false, Bool.and_true, Bool.and_false, Bool.true_and, Bool.false_and, Bool.or_true, Bool.or_false, Bool.true_or, Bool.false_or, aCallV, aCallL, capOf, onlyD, startL, aIZB, sqD, xIn, allS, xMulB, xStr, isStrW, xUpper, aLRg1, aRevT, rowD, rowsD, exists_eq_left, aIZG, seqG, SG, wipeA, lstOf, allBm, allIm, all_id, any_id, ones_ok, ones_eqD, aDic0, xReprA, xAdd_i, xAdd_s, xAdd_t, xAdd_l, xSl_t, xSl_l, xSl_s, xSl_scr, xListOf_t, xListOf_l, xIdx_t, xIdx_l, xIdx_s, xIdx_r, isI, sp__law_divisor, xEqB, h1, decide_true]
          exact q
        · simp only [h1, decide_false, Bool.false_and] at q
          simp only [aAnd, aAndV, aAsg, aAsgT, aBk, aC, aCB, aCall, aCallK, aChain, aCons, aCt, aDget, aDispM, aDput, aDrop, aGN, aGcons, aGnil, aGtup, aIE, aIL, aIR1, aIR2, aIT, aIZ, aIf, aIfS, aIsi, aLst, aLstM, aMt, aMt0, aNever, aNil, aNoP, aNot, aNotV, aNx, aOp, aOr, aOrV, aPar, aPar3, aRet, aRetN, aRevD, aRevM, aSeq, aSl, aSmP, aTst, aTup, aUn, aVar, aYes, xAbs, xApp, xBools, xEqB, xGcd, xI, xIc, xInt, xInts, xIs_nn, xIs_bb, xIs_bn, xIs_in, xIs_sn, xIs_tn, xIs_ln, xLen, xListOfM, xMax, xMin, xNeg, xPop, xSum, xTupleOf, optW, view, W.isFn, List.forall_mem_cons, forall_nil, asB, onRL, isRL, pick, keyOf, val_cells, val_mixed, val_draws, put_draws, allD, finD, startA, List.map_cons, List.map_nil, List.length_cons, List.length_nil, List.replicate, List.cons_append, List.nil_append, List.append_nil, List.getElem?_cons_zero, List.getElem?_cons_succ, List.set_cons_zero, List.set_cons_succ, Option.join_some, Option.map_some, List.filterMap_cons, List.filterMap_nil, List.take, Nat.sub_self, Nat.add_one_sub_one, Nat.reduceSub, Nat.reduceAdd, List.replicate_zero, isT, atI_0, atI_1, size2, size1, size3, size0, true_and, and_true, Bool.true_eq_false, Bool.false_eq_true, if_true, if_false, ite_true, ite_false, reduceIte, eq_self, ex_app, ex_app2, ite_tt, ite_ft, List.cons.injEq, W.d.injEq, PyData.int.injEq, PyData.tuple.injEq, exists_eq_left', and_assoc, exists_and_left, eqOk_int, eqD_int, eqOk_fr, eqD_fr, eqOk_str, eqD_str, id, lo_ws1, lo_ws2, lo_ws3, Bool.not_true, Bool.not_false, Bool.and_true, Bool.and_false, Bool.true_and, Bool.false_and, Bool.or_true, Bool.or_false, Bool.true_or, Bool.false_or, aCallV, aCallL, capOf, onlyD, startL, aIZB, sqD, xIn, allS, xMulB, xStr, isStrW, xUpper, aLRg1, aRevT, rowD, rowsD, exists_eq_left, aIZG, seqG, SG, wipeA, lstOf, allBm, allIm, all_id, any_id, ones_ok, ones_eqD, aDic0, xReprA, xAdd_i, xAdd_s, xAdd_t, xAdd_l, xSl_t, xSl_l, xSl_s, xSl_scr, xListOf_t, xListOf_l, xIdx_t, xIdx_l, xIdx_s, xIdx_r, isI, sp__law_divisor, xEqB, h1, decide_false]
          exact q
      | _ => exact q
    | _ => exact q
  · rw [Bool.not_eq_true] at e
    rw [fFr_no e] at q
    cases x with
    | tuple xs =>
      have e1 : decide ((xs.length : Int) = 2) = false := e
      simp only [aAnd, aAndV, aAsg, aAsgT, aBk, aC, aCB, aCall, aCallK, aChain, aCons, aCt, aDget, aDispM, aDput, aDrop, aGN, aGcons, aGnil, aGtup, aIE, aIL, aIR1, aIR2, aIT, aIZ, aIf, aIfS, aIsi, aLst, aLstM, aMt, aMt0, aNever, aNil, aNoP, aNot, aNotV, aNx, aOp, aOr, aOrV, aPar, aPar3, aRet, aRetN, aRevD, aRevM, aSeq, aSl, aSmP, aTst, aTup, aUn, aVar, aYes, xAbs, xApp, xBools, xEqB, xGcd, xI, xIc, xInt, xInts, xIs_nn, xIs_bb, xIs_bn, xIs_in, xIs_sn, xIs_tn, xIs_ln, xLen, xListOfM, xMax, xMin, xNeg, xPop, xSum, xTupleOf, optW, view, W.isFn, List.forall_mem_cons, forall_nil, asB, onRL, isRL, pick, keyOf, val_cells, val_mixed, val_draws, put_draws, allD, finD, startA, List.map_cons, List.map_nil, List.length_cons, List.length_nil, List.replicate, List.cons_append, List.nil_append, List.append_nil, List.getElem?_cons_zero, List.getElem?_cons_succ, List.set_cons_zero, List.set_cons_succ, Option.join_some, Option.map_some, List.filterMap_cons, List.filterMap_nil, List.take, Nat.sub_self, Nat.add_one_sub_one, Nat.reduceSub, Nat.reduceAdd, List.replicate_zero, isT, atI_0, atI_1, size2, size1, size3, size0, true_and, and_true, Bool.true_eq_false, Bool.false_eq_true, if_true, if_false, ite_true, ite_false, reduceIte, eq_self, ex_app, ex_app2, ite_tt, ite_ft, List.cons.injEq, W.d.injEq, PyData.int.injEq, PyData.tuple.injEq, exists_eq_left', and_assoc, exists_and_left, eqOk_int, eqD_int, eqOk_fr, eqD_fr, eqOk_str, eqD_str, id, lo_ws1, lo_ws2, lo_ws3, Bool.not_true, Bool.not_false, Bool.and_true, Bool.and_false, Bool.true_and, Bool.false_and, Bool.or_true, Bool.or_false, Bool.true_or, Bool.false_or, aCallV, aCallL, capOf, onlyD, startL, aIZB, sqD, xIn, allS, xMulB, xStr, isStrW, xUpper, aLRg1, aRevT, rowD, rowsD, exists_eq_left, aIZG, seqG, SG, wipeA, lstOf, allBm, allIm, all_id, any_id, ones_ok, ones_eqD, aDic0, xReprA, xAdd_i, xAdd_s, xAdd_t, xAdd_l, xSl_t, xSl_l, xSl_s, xSl_scr, xListOf_t, xListOf_l, xIdx_t, xIdx_l, xIdx_s, xIdx_r, xEqB, e1]
      exact q
    | _ => simp only [aAnd, aAndV, aAsg, aAsgT, aBk, aC, aCB, aCall, aCallK, aChain, aCons, aCt, aDget, aDispM, aDput, aDrop, aGN, aGcons, aGnil, aGtup, aIE, aIL, aIR1, aIR2, aIT, aIZ, aIf, aIfS, aIsi, aLst, aLstM, aMt, aMt0, aNever, aNil, aNoP, aNot, aNotV, aNx, aOp, aOr, aOrV, aPar, aPar3, aRet, aRetN, aRevD, aRevM, aSeq, aSl, aSmP, aTst, aTup, aUn, aVar, aYes, xAbs, xApp, xBools, xEqB, xGcd, xI, xIc, xInt, xInts, xIs_nn, xIs_bb, xIs_bn, xIs_in, xIs_sn, xIs_tn, xIs_ln, xLen, xListOfM, xMax, xMin, xNeg, xPop, xSum, xTupleOf, optW, view, W.isFn, List.forall_mem_cons, forall_nil, asB, onRL, isRL, pick, keyOf, val_cells, val_mixed, val_draws, put_draws, allD, finD, startA, List.map_cons, List.map_nil, List.length_cons, List.length_nil, List.replicate, List.cons_append, List.nil_append, List.append_nil, List.getElem?_cons_zero, List.getElem?_cons_succ, List.set_cons_zero, List.set_cons_succ, Option.join_some, Option.map_some, List.filterMap_cons, List.filterMap_nil, List.take, Nat.sub_self, Nat.add_one_sub_one, Nat.reduceSub, Nat.reduceAdd, List.replicate_zero, isT, atI_0, atI_1, size2, size1, size3, size0, true_and, and_true, Bool.true_eq_false, Bool.false_eq_true, if_true, if_false, ite_true, ite_false, reduceIte, eq_self, ex_app, ex_app2, ite_tt, ite_ft, List.cons.injEq, W.d.injEq, PyData.int.injEq, PyData.tuple.injEq, exists_eq_left', and_assoc, exists_and_left, eqOk_int, eqD_int, eqOk_fr, eqD_fr, eqOk_str, eqD_str, id, lo_ws1, lo_ws2, lo_ws3, Bool.not_true, Bool.not_false, Bool.and_true, Bool.and_false, Bool.true_and, Bool.false_and, Bool.or_true, Bool.or_false, Bool.true_or, Bool.false_or, aCallV, aCallL, capOf, onlyD, startL, aIZB, sqD, xIn, allS, xMulB, xStr, isStrW, xUpper, aLRg1, aRevT, rowD, rowsD, exists_eq_left, aIZG, seqG, SG, wipeA, lstOf, allBm, allIm, all_id, any_id, ones_ok, ones_eqD, aDic0, xReprA, xAdd_i, xAdd_s, xAdd_t, xAdd_l, xSl_t, xSl_l, xSl_s, xSl_scr, xListOf_t, xListOf_l, xIdx_t, xIdx_l, xIdx_s, xIdx_r]; exact q
theorem ok__law_is_fraction (T : Ty K mg base Tb) : Fdf P w K mg base (SG Tb) 2 "_law_is_fraction" ["thing"] [] sp__law_is_fraction := T.d__law_is_fraction.fd fun f fd Fn => g__law_is_fraction T Fn
theorem fr_one (k : Nat) (n : Int) (h : Bd k n) (hk : 1 ≤ k) : Fr k n 1 := ⟨by decide, by simp, h, Bd.mono (a := 1) (by decide) hk⟩
def sp__law_fraction : ASp := fun ws ih Q => ∃ (m : Int) (b : Nat) (r : IH), ws = [.ref 2, .d (.int m)] ∧ Dk ([.tab "are_rows.<locals>.<lambda>"] : IH) b r ih ∧ b ≤ 90000 ∧ 1 ≤ m ∧ m ≤ 90 ∧ ∀ n d ih2 b2, Fr 341 n d → b2 ≤ b + 42 → Dk ([.tab "are_rows.<locals>.<lambda>"] : IH) b2 r ih2 → Q (.d (.tuple [.int n, .int d])) ih2
theorem g__law_fraction (T : Ty K mg base Tb) {f : Addr} {fd : FuncData} (Fn : Fun K "_law_fraction" "_law_fraction" st__law_fraction f fd) : FnG P w K mg base (SG Tb) 4 f fd ["deck", "most"] sp__law_fraction := by
  refine fnG_ofI Fn sc__law_fraction ((bv_cons (sv_set 2 (evc (ok__law_draw T) (Nat.le_of_ble_eq_true rfl) rfl (av_cons (ev_var 0) (av_cons ev_int av_nil))))
      (bv_cons (sv_if (tv_cmp ov_lt (ev_var 2) ev_int) (bv_one (sv_ret (evc (ok__law_pick T) (Nat.le_of_ble_eq_true rfl) rfl (av_cons (ev_var 0) (av_cons (ev_lst (av_cons (ev_tup (av_cons ev_int (av_cons ev_int av_nil))) (av_cons (ev_tup (av_cons ev_int (av_cons ev_int av_nil))) (av_cons (ev_tup (av_cons (ev_un uv_neg ev_int) (av_cons ev_int av_nil))) (av_cons (ev_tup (av_cons ev_int (av_cons ev_int av_nil))) (av_cons (ev_tup (av_cons (ev_un uv_neg ev_int) (av_cons ev_int av_nil))) (av_cons (ev_tup (av_cons ev_int (av_cons ev_int av_nil))) (av_cons (ev_tup (av_cons (ev_un uv_neg ev_int) (av_cons ev_int av_nil))) (av_cons (ev_tup (av_cons ev_int (av_cons ev_int av_nil))) (av_cons (ev_tup (av_cons ev_int (av_cons ev_int av_nil))) (av_cons (ev_tup (av_cons ev_int (av_cons ev_int av_nil))) (av_cons (ev_tup (av_cons (ev_un uv_neg ev_int) (av_cons ev_int av_nil))) av_nil)))))))))))) av_nil))))) bv_nil)
      (bv_cons (sv_if (tv_cmp ov_eq (ev_var 2) ev_int) (bv_one (sv_ret (ev_tup (av_cons (evc (ok__law_int T) (Nat.le_of_ble_eq_true rfl) rfl (av_cons (ev_var 0) (av_cons (ev_var 1) av_nil))) (av_cons ev_int av_nil))))) bv_nil)
      (bv_one (sv_ret (evc (ok__law_lowest T) (Nat.le_of_ble_eq_true rfl) rfl (av_cons (evc (ok__law_int T) (Nat.le_of_ble_eq_true rfl) rfl (av_cons (ev_var 0) (av_cons (ev_var 1) av_nil))) (av_cons (ev_op ov_add (ev_callB cv_abs rfl T.b_abs bt_abs (av_cons (evc (ok__law_int T) (Nat.le_of_ble_eq_true rfl) rfl (av_cons (ev_var 0) (av_cons (ev_var 1) av_nil))) av_nil)) ev_int) av_nil))))))))) fun ws ob Qa hl h => ?_
  obtain ⟨m, b, r, rfl, hd, hb, m0, m1, q⟩ := h
  refine sq ?_
  simp only [aAnd, aAndV, aAsg, aAsgT, aBk, aC, aCB, aCall, aCallK, aChain, aCons, aCt, aDget, aDispM, aDput, aDrop, aGN, aGcons, aGnil, aGtup, aIE, aIL, aIR1, aIR2, aIT, aIZ, aIf, aIfS, aIsi, aLst, aLstM, aMt, aMt0, aNever, aNil, aNoP, aNot, aNotV, aNx, aOp, aOr, aOrV, aPar, aPar3, aRet, aRetN, aRevD, aRevM, aSl, aSmP, aTst, aTup, aUn, aVar, aYes, xAbs, xApp, xBools, xEqB, xGcd, xI, xIc, xInt, xInts, xIs_nn, xIs_bb, xIs_bn, xIs_in, xIs_sn, xIs_tn, xIs_ln, xLen, xListOfM, xMax, xMin, xNeg, xPop, xSum, xTupleOf, optW, view, W.isFn, List.forall_mem_cons, forall_nil, asB, onRL, isRL, pick, keyOf, val_cells, val_mixed, val_draws, put_draws, allD, finD, startA, List.map_cons, List.map_nil, List.length_cons, List.length_nil, List.replicate, List.cons_append, List.nil_append, List.append_nil, List.getElem?_cons_zero, List.getElem?_cons_succ, List.set_cons_zero, List.set_cons_succ, Option.join_some, Option.map_some, List.filterMap_cons, List.filterMap_nil, List.take, Nat.sub_self, Nat.add_one_sub_one, Nat.reduceSub, Nat.reduceAdd, List.replicate_zero, isT, atI_0, atI_1, size2, size1, size3, size0, true_and, and_true, Bool.true_eq_false, Bool.false_eq_true, if_true, if_false, ite_true, ite_false, reduceIte, eq_self, ex_app, ex_app2, ite_tt, ite_ft, List.cons.injEq, W.d.injEq, PyData.int.injEq, PyData.tuple.injEq, exists_eq_left', and_assoc, exists_and_left, eqOk_int, eqD_int, eqOk_fr, eqD_fr, eqOk_str, eqD_str, id, lo_ws1, lo_ws2, lo_ws3, Bool.not_true, Bool.not_false, Bool.and_true, Bool.and_false, Bool.true_and, Bool.false_and, Bool.or_true, Bool.or_false, Bool.true_or, Bool.false_or, aCallV, aCallL, capOf, onlyD, startL, aIZB, sqD, xIn, allS, xMulB, xStr, isStrW, xUpper, aLRg1, aRevT, rowD, rowsD, exists_eq_left, aIZG, seqG, SG, wipeA, lstOf, allBm, allIm, all_id, any_id, ones_ok, ones_eqD, aDic0, xReprA, xAdd_i, xAdd_s, xAdd_t, xAdd_l, xSl_t, xSl_l, xSl_s, xSl_scr, xListOf_t, xListOf_l, xIdx_t, xIdx_l, xIdx_s, xIdx_r, sp__law_draw]
  refine ⟨b, r, hd, by omega, by decide, by decide, fun way o1 w0 w1 hd1 => ?_⟩
  refine sq ?_
  by_cases hw : way < 2
  · have sz : (11 : Nat) ≤ sizeLine := by decide
    simp only [aAnd, aAndV, aAsg, aAsgT, aBk, aC, aCB, aCall, aCallK, aChain, aCons, aCt, aDget, aDispM, aDput, aDrop, aGN, aGcons, aGnil, aGtup, aIE, aIL, aIR1, aIR2, aIT, aIZ, aIf, aIfS, aIsi, aLst, aLstM, aMt, aMt0, aNever, aNil, aNoP, aNot, aNotV, aNx, aOp, aOr, aOrV, aPar, aPar3, aRet, aRetN, aRevD, aRevM, aSl, aSmP, aTst, aTup, aUn, aVar, aYes, xAbs, xApp, xBools, xEqB, xGcd, xI, xIc, xInt, xInts, xIs_nn, xIs_bb, xIs_bn, xIs_in, xIs_sn, xIs_tn, xIs_ln, xLen, xListOfM, xMax, xMin, xNeg, xPop, xSum, xTupleOf, optW, view, W.isFn, List.forall_mem_cons, forall_nil, asB, onRL, isRL, pick, keyOf, val_cells, val_mixed, val_draws, put_draws, allD, finD, startA, List.map_cons, List.map_nil, List.length_cons, List.length_nil, List.replicate, List.cons_append, List.nil_append, List.append_nil, List.getElem?_cons_zero, List.getElem?_cons_succ, List.set_cons_zero, List.set_cons_succ, Option.join_some, Option.map_some, List.filterMap_cons, List.filterMap_nil, List.take, Nat.sub_self, Nat.add_one_sub_one, Nat.reduceSub, Nat.reduceAdd, List.replicate_zero, isT, atI_0, atI_1, size2, size1, size3, size0, true_and, and_true, Bool.true_eq_false, Bool.false_eq_true, if_true, if_false, ite_true, ite_false, reduceIte, eq_self, ex_app, ex_app2, ite_tt, ite_ft, List.cons.injEq, W.d.injEq, PyData.int.injEq, PyData.tuple.injEq, exists_eq_left', and_assoc, exists_and_left, eqOk_int, eqD_int, eqOk_fr, eqD_fr, eqOk_str, eqD_str, id, lo_ws1, lo_ws2, lo_ws3, Bool.not_true, Bool.not_false, Bool.and_true, Bool.and_false, Bool.true_and, Bool.false_and, Bool.or_true, Bool.or_false, Bool.true_or, Bool.false_or, aCallV, aCallL, capOf, onlyD, startL, aIZB, sqD, xIn, allS, xMulB, xStr, isStrW, xUpper, aLRg1, aRevT, rowD, rowsD, exists_eq_left, aIZG, seqG, SG, wipeA, lstOf, allBm, allIm, all_id, any_id, ones_ok, ones_eqD, aDic0, xReprA, xAdd_i, xAdd_s, xAdd_t, xAdd_l, xSl_t, xSl_l, xSl_s, xSl_scr, xListOf_t, xListOf_l, xIdx_t, xIdx_l, xIdx_s, xIdx_r, sp__law_pick, hw, decide_true, sz, PyData.list.injEq]
    refine ⟨_, r, hd1, by omega, by decide, by decide, fun x o3 hx hd5 => ?_⟩
    obtain ⟨n, d, rfl, F⟩ : ∃ n d : Int, x = .tuple [.int n, .int d] ∧ Fr 7 n d := by
      simp only [List.mem_cons, List.not_mem_nil, or_false] at hx
      rcases hx with rfl | rfl | rfl | rfl | rfl | rfl | rfl | rfl | rfl | rfl | rfl <;> exact ⟨_, _, rfl, ⟨by decide, by decide, by decide, by decide⟩⟩
    exact q _ _ _ _ (F.mono (by decide)) (by omega) hd5
  · simp only [aAnd, aAndV, aAsg, aAsgT, aBk, aC, aCB, aCall, aCallK, aChain, aCons, aCt, aDget, aDispM, aDput, aDrop, aGN, aGcons, aGnil, aGtup, aIE, aIL, aIR1, aIR2, aIT, aIZ, aIf, aIfS, aIsi, aLst, aLstM, aMt, aMt0, aNever, aNil, aNoP, aNot, aNotV, aNx, aOp, aOr, aOrV, aPar, aPar3, aRet, aRetN, aRevD, aRevM, aSl, aSmP, aTst, aTup, aUn, aVar, aYes, xAbs, xApp, xBools, xEqB, xGcd, xI, xIc, xInt, xInts, xIs_nn, xIs_bb, xIs_bn, xIs_in, xIs_sn, xIs_tn, xIs_ln, xLen, xListOfM, xMax, xMin, xNeg, xPop, xSum, xTupleOf, optW, view, W.isFn, List.forall_mem_cons, forall_nil, asB, onRL, isRL, pick, keyOf, val_cells, val_mixed, val_draws, put_draws, allD, finD, startA, List.map_cons, List.map_nil, List.length_cons, List.length_nil, List.replicate, List.cons_append, List.nil_append, List.append_nil, List.getElem?_cons_zero, List.getElem?_cons_succ, List.set_cons_zero, List.set_cons_succ, Option.join_some, Option.map_some, List.filterMap_cons, List.filterMap_nil, List.take, Nat.sub_self, Nat.add_one_sub_one, Nat.reduceSub, Nat.reduceAdd, List.replicate_zero, isT, atI_0, atI_1, size2, size1, size3, size0, true_and, and_true, Bool.true_eq_false, Bool.false_eq_true, if_true, if_false, ite_true, ite_false, reduceIte, eq_self, ex_app, ex_app2, ite_tt, ite_ft, List.cons.injEq, W.d.injEq, PyData.int.injEq, PyData.tuple.injEq, exists_eq_left', and_assoc, exists_and_left, eqOk_int, eqD_int, eqOk_fr, eqD_fr, eqOk_str, eqD_str, id, lo_ws1, lo_ws2, lo_ws3, Bool.not_true, Bool.not_false, Bool.and_true, Bool.and_false, Bool.true_and, Bool.false_and, Bool.or_true, Bool.or_false, Bool.true_or, Bool.false_or, aCallV, aCallL, capOf, onlyD, startL, aIZB, sqD, xIn, allS, xMulB, xStr, isStrW, xUpper, aLRg1, aRevT, rowD, rowsD, exists_eq_left, aIZG, seqG, SG, wipeA, lstOf, allBm, allIm, all_id, any_id, ones_ok, ones_eqD, aDic0, xReprA, xAdd_i, xAdd_s, xAdd_t, xAdd_l, xSl_t, xSl_l, xSl_s, xSl_scr, xListOf_t, xListOf_l, xIdx_t, xIdx_l, xIdx_s, xIdx_r, hw, decide_false]
    refine sq ?_
    by_cases hw2 : way = 2
    · simp only [aAnd, aAndV, aAsg, aAsgT, aBk, aC, aCB, aCall, aCallK, aChain, aCons, aCt, aDget, aDispM, aDput, aDrop, aGN, aGcons, aGnil, aGtup, aIE, aIL, aIR1, aIR2, aIT, aIZ, aIf, aIfS, aIsi, aLst, aLstM, aMt, aMt0, aNever, aNil, aNoP, aNot, aNotV, aNx, aOp, aOr, aOrV, aPar, aPar3, aRet, aRetN, aRevD, aRevM, aSl, aSmP, aTst, aTup, aUn, aVar, aYes, xAbs, xApp, xBools, xEqB, xGcd, xI, xIc, xInt, xInts, xIs_nn, xIs_bb, xIs_bn, xIs_in, xIs_sn, xIs_tn, xIs_ln, xLen, xListOfM, xMax, xMin, xNeg, xPop, xSum, xTupleOf, optW, view, W.isFn, List.forall_mem_cons, forall_nil, asB, onRL, isRL, pick, keyOf, val_cells, val_mixed, val_draws, put_draws, allD, finD, startA, List.map_cons, List.map_nil, List.length_cons, List.length_nil, List.replicate, List.cons_append, List.nil_append, List.append_nil, List.getElem?_cons_zero, List.getElem?_cons_succ, List.set_cons_zero, List.set_cons_succ, Option.join_some, Option.map_some, List.filterMap_cons, List.filterMap_nil, List.take, Nat.sub_self, Nat.add_one_sub_one, Nat.reduceSub, Nat.reduceAdd, List.replicate_zero, isT, atI_0, atI_1, size2, size1, size3, size0, true_and, and_true, Bool.true_eq_false, Bool.false_eq_true, if_true, if_false, ite_true, ite_false, reduceIte, eq_self, ex_app, ex_app2, ite_tt, ite_ft, List.cons.injEq, W.d.injEq, PyData.int.injEq, PyData.tuple.injEq, exists_eq_left', and_assoc, exists_and_left, eqOk_int, eqD_int, eqOk_fr, eqD_fr, eqOk_str, eqD_str, id, lo_ws1, lo_ws2, lo_ws3, Bool.not_true, Bool.not_false, Bool.and_true, Bool.and_false, Bool.true_and, Bool.false_and, Bool.or_true, Bool.or_false, Bool.true_or, Bool.false_or, aCallV, aCallL, capOf, onlyD, startL, aIZB, sqD, xIn, allS, xMulB, xStr, isStrW, xUpper, aLRg1, aRevT, rowD, rowsD, exists_eq_left, aIZG, seqG, SG, wipeA, lstOf, allBm, allIm, all_id, any_id, ones_ok, ones_eqD, aDic0, xReprA, xAdd_i, xAdd_s, xAdd_t, xAdd_l, xSl_t, xSl_l, xSl_s, xSl_scr, xListOf_t, xListOf_l, xIdx_t, xIdx_l, xIdx_s, xIdx_r, hw2, decide_true, sp__law_int]
      exact ⟨_, r, hd1, by omega, m0, m1, fun i o2 b2 hi hb2 hd2 => q _ _ _ _ (fr_one _ _ (hi.mono (by decide)) (by decide)) (by omega) hd2⟩
    · simp only [aAnd, aAndV, aAsg, aAsgT, aBk, aC, aCB, aCall, aCallK, aChain, aCons, aCt, aDget, aDispM, aDput, aDrop, aGN, aGcons, aGnil, aGtup, aIE, aIL, aIR1, aIR2, aIT, aIZ, aIf, aIfS, aIsi, aLst, aLstM, aMt, aMt0, aNever, aNil, aNoP, aNot, aNotV, aNx, aOp, aOr, aOrV, aPar, aPar3, aRet, aRetN, aRevD, aRevM, aSl, aSmP, aTst, aTup, aUn, aVar, aYes, xAbs, xApp, xBools, xEqB, xGcd, xI, xIc, xInt, xInts, xIs_nn, xIs_bb, xIs_bn, xIs_in, xIs_sn, xIs_tn, xIs_ln, xLen, xListOfM, xMax, xMin, xNeg, xPop, xSum, xTupleOf, optW, view, W.isFn, List.forall_mem_cons, forall_nil, asB, onRL, isRL, pick, keyOf, val_cells, val_mixed, val_draws, put_draws, allD, finD, startA, List.map_cons, List.map_nil, List.length_cons, List.length_nil, List.replicate, List.cons_append, List.nil_append, List.append_nil, List.getElem?_cons_zero, List.getElem?_cons_succ, List.set_cons_zero, List.set_cons_succ, Option.join_some, Option.map_some, List.filterMap_cons, List.filterMap_nil, List.take, Nat.sub_self, Nat.add_one_sub_one, Nat.reduceSub, Nat.reduceAdd, List.replicate_zero, isT, atI_0, atI_1, size2, size1, size3, size0, true_and, and_true, Bool.true_eq_false, Bool.false_eq_true, if_true, if_false, ite_true, ite_false, reduceIte, eq_self, ex_app, ex_app2, ite_tt, ite_ft, List.cons.injEq, W.d.injEq, PyData.int.injEq, PyData.tuple.injEq, exists_eq_left', and_assoc, exists_and_left, eqOk_int, eqD_int, eqOk_fr, eqD_fr, eqOk_str, eqD_str, id, lo_ws1, lo_ws2, lo_ws3, Bool.not_true, Bool.not_false, Bool.and_true, Bool.and_false, Bool.true_and, Bool.false_and, Bool.or_true, Bool.or_false, Bool.true_or, Bool.false_or, aCallV, aCallL, capOf, onlyD, startL, aIZB, sqD, xIn, allS, xMulB, xStr, isStrW, xUpper, aLRg1, aRevT, rowD, rowsD, exists_eq_left, aIZG, seqG, SG, wipeA, lstOf, allBm, allIm, all_id, any_id, ones_ok, ones_eqD, aDic0, xReprA, xAdd_i, xAdd_s, xAdd_t, xAdd_l, xSl_t, xSl_l, xSl_s, xSl_scr, xListOf_t, xListOf_l, xIdx_t, xIdx_l, xIdx_s, xIdx_r, hw2, decide_false, sp__law_int, sp__law_lowest]
      refine ⟨_, r, hd1, by omega, m0, m1, fun i o2 b2 hi hb2 hd2 => ⟨_, r, hd2, by omega, m0, m1, fun j o3 b3 hj hb3 hd3 => ?_⟩⟩
      have e1 : (if j < 0 then -j else j) = (j.natAbs : Int) := by split <;> omega
      have b1 : Bd 341 ((j.natAbs : Int) + 1) := hj.abs.add (Bd.mono (a := 1) (by decide) (by decide))
      simp only [aAnd, aAndV, aAsg, aAsgT, aBk, aC, aCB, aCall, aCallK, aChain, aCons, aCt, aDget, aDispM, aDput, aDrop, aGN, aGcons, aGnil, aGtup, aIE, aIL, aIR1, aIR2, aIT, aIZ, aIf, aIfS, aIsi, aLst, aLstM, aMt, aMt0, aNever, aNil, aNoP, aNot, aNotV, aNx, aOp, aOr, aOrV, aPar, aPar3, aRet, aRetN, aRevD, aRevM, aSeq, aSl, aSmP, aTst, aTup, aUn, aVar, aYes, xAbs, xApp, xBools, xEqB, xGcd, xI, xIc, xInt, xInts, xIs_nn, xIs_bb, xIs_bn, xIs_in, xIs_sn, xIs_tn, xIs_ln, xLen, xListOfM, xMax, xMin, xNeg, xPop, xSum, xTupleOf, optW, view, W.isFn, List.forall_mem_cons, forall_nil, asB, onRL, isRL, pick, keyOf, val_cells, val_mixed, val_draws, put_draws, allD, finD, startA, List.map_cons, List.map_nil, List.length_cons, List.length_nil, List.replicate, List.cons_append, List.nil_append, List.append_nil, List.getElem?_cons_zero, List.getElem?_cons_succ, List.set_cons_zero, List.set_cons_succ, Option.join_some, Option.map_some, List.filterMap_cons, List.filterMap_nil, List.take, Nat.sub_self, Nat.add_one_sub_one, Nat.reduceSub, Nat.reduceAdd, List.replicate_zero, isT, atI_0, atI_1, size2, size1, size3, size0, true_and, and_true, Bool.true_eq_false, Bool.false_eq_true, if_true, if_false, ite_true, ite_false, reduceIte, eq_self, ex_app, ex_app2, ite_tt, ite_ft, List.cons.injEq, W.d.injEq, PyData.int.injEq, PyData.tuple.injEq, exists_eq_left', and_assoc, exists_and_left, eqOk_int, eqD_int, eqOk_fr, eqD_fr, eqOk_str, eqD_str, id, lo_ws1, lo_ws2, lo_ws3, Bool.not_true, Bool.not_false, Bool.and_true, Bool.and_false, Bool.true_and, Bool.false_and, Bool.or_true, Bool.or_false, Bool.true_or, Bool.false_or, aCallV, aCallL, capOf, onlyD, startL, aIZB, sqD, xIn, allS, xMulB, xStr, isStrW, xUpper, aLRg1, aRevT, rowD, rowsD, exists_eq_left, aIZG, seqG, SG, wipeA, lstOf, allBm, allIm, all_id, any_id, ones_ok, ones_eqD, aDic0, xReprA, xAdd_i, xAdd_s, xAdd_t, xAdd_l, xSl_t, xSl_l, xSl_s, xSl_scr, xListOf_t, xListOf_l, xIdx_t, xIdx_l, xIdx_s, xIdx_r, e1]
      exact ⟨by omega, hi.mono (by decide), b1.mono (by decide), fun p z hl => q _ _ _ _ (hl.fr (hi.mono (by decide)) b1) (by omega) hd3⟩
theorem ok__law_fraction (T : Ty K mg base Tb) : Fdf P w K mg base (SG Tb) 4 "_law_fraction" ["deck", "most"] [] sp__law_fraction := T.d__law_fraction.fd fun f fd Fn => g__law_fraction T Fn
theorem sst_int {i : Int} (h : Bd 64 i) : Sst 30 (Str.ofString (toString i)) := by
  refine ⟨?_, fun c hc => ?_⟩
  · show (Str.ofString (toString i)).length ≤ 30
    rw [PySem.ofString_length]
    have := PySem.int_text_length_le10 (a := i) (k := 20) (by decide) (Nat.lt_trans (show i.natAbs < 2 ^ 64 from h) (by decide))
    omega
  · rw [Str.ofString_eq_toList] at hc
    have hc : c ∈ (toString i).toList.map Char.toNat := by simpa using hc
    obtain ⟨ch, _, rfl⟩ := List.mem_map.mp hc
    exact ch.val.toNat_lt
theorem all_1 {α : Type} {P : α → Prop} {a : α} (h : P a) : ∀ x ∈ [a], P x := fun x hx => by rw [List.mem_singleton.mp hx]; exact h
theorem all_2 {α : Type} {P : α → Prop} {a b : α} (h : P a) (g : P b) : ∀ x ∈ [a, b], P x := fun x hx => (List.mem_cons.mp hx).elim (fun e => by rw [e]; exact h) (all_1 g x)
theorem all_3 {α : Type} {P : α → Prop} {a b c : α} (h : P a) (g : P b) (k : P c) : ∀ x ∈ [a, b, c], P x := fun x hx => (List.mem_cons.mp hx).elim (fun e => by rw [e]; exact h) (all_2 g k x)
theorem cut_pre {α : Type} (xs : List α) (k : Nat) (h : k ≤ xs.length) : cut xs none (some (k : Int)) = xs.take k := by
  unfold cut
  rw [HT.sIx_none, HT.sIx_nat, Nat.min_eq_left h, Nat.sub_zero, List.drop_zero]
theorem cut_suf {α : Type} (xs : List α) (k : Nat) (h : k ≤ xs.length) : cut xs (some (k : Int)) none = xs.drop k := by
  unfold cut
  rw [HT.sIx_none, HT.sIx_nat, Nat.min_eq_left h]
  exact List.take_of_length_le (by rw [List.length_drop]; exact Nat.le_refl _)
theorem cut_mem {α : Type} {xs : List α} {lo hi : Option Int} {x : α} (h : x ∈ cut xs lo hi) : x ∈ xs := List.mem_of_mem_drop (List.mem_of_mem_take h)
theorem e39 : ((10 : Int) ^ (39 : Int).toNat) = 1000000000000000000000000000000000000000 := by decide
theorem cp39 : CPow 10 39 := ⟨by decide, by decide, by decide⟩
theorem sst_leaf : Sst 10 ("" : Str) ∧ Sst 10 ("point" : Str) ∧ Sst 10 ("sums" : Str) ∧ Sst 10 ("a b~" : Str) ∧ Sst 10 ("x\n" : Str) := by decide +kernel
theorem any_leaf (x : D) (h : x ∈ [PyData.int 0, .int 1, .int (-1), .int 7, .int 100, .int 1000000000000000000000000000000000000000, .bool true, .bool false, .none, .str "", .str "point", .str "sums", .str "a b~", .str "x\n", .tuple [], .list [], .dict [], .tuple [.int 0, .int 1]]) : Sd 2 20 x := by
  have bi : ∀ i : Int, Bd 140 i → Sd 2 20 (.int i) := fun i hi => Sd.int hi (by decide)
  simp only [List.mem_cons, List.not_mem_nil, or_false] at h
  rcases h with rfl | rfl | rfl | rfl | rfl | rfl | rfl | rfl | rfl | rfl | rfl | rfl | rfl | rfl | rfl | rfl | rfl | rfl
  · exact bi _ (by decide)
  · exact bi _ (by decide)
  · exact bi _ (by decide)
  · exact bi _ (by decide)
  · exact bi _ (by decide)
  · exact bi _ (by decide)
  · exact Sd.bool
  · exact Sd.bool
  · exact Sd.none
  · exact (Sd.str sst_leaf.1).mono (Nat.le_refl _) (by decide)
  · exact (Sd.str sst_leaf.2.1).mono (Nat.le_refl _) (by decide)
  · exact (Sd.str sst_leaf.2.2.1).mono (Nat.le_refl _) (by decide)
  · exact (Sd.str sst_leaf.2.2.2.1).mono (Nat.le_refl _) (by decide)
  · exact (Sd.str sst_leaf.2.2.2.2).mono (Nat.le_refl _) (by decide)
  · exact Sd.tuple (n := 1) (b := 0) (fun x hx => absurd hx (by simp)) (by simp)
  · exact Sd.list (n := 1) (b := 0) (fun x hx => absurd hx (by simp)) (by simp)
  · exact Sd.dict (n := 1) (a := 0) (b := 0) (fun x hx => absurd hx (by simp)) (by simp)
  · exact Sd.tuple (n := 1) (b := 0) (all_2 (Sd.int (by decide : Bd 2 0) (by decide)) (Sd.int (by decide : Bd 2 1) (by decide))) (by simp)
def keyS (i : Nat) : Str := Str.ofString (toString (i : Int))
def enumS (xs : List D) : List (Str × D) := (List.range xs.length).zipWith (fun i x => (keyS i, x)) xs
theorem enumS_get {xs : List D} {i : Nat} {x : D} (h : xs[i]? = some x) : (enumS xs)[i]? = some (keyS i, x) := by
  have hi : i < xs.length := (List.getElem?_eq_some_iff.mp h).1
  unfold enumS
  rw [List.getElem?_zipWith, List.getElem?_range hi, h]
theorem enumS_len (xs : List D) : (enumS xs).length = xs.length := by unfold enumS; rw [List.length_zipWith, List.length_range, Nat.min_self]
theorem enumS_keys (xs : List D) : (enumS xs).map (·.1) = (List.range xs.length).map keyS := by
  refine List.ext_getElem (by rw [List.length_map, enumS_len, List.length_map, List.length_range]) fun i h1 h2 => ?_
  rw [List.length_map, enumS_len] at h1
  have e := enumS_get (List.getElem?_eq_getElem h1)
  have e2 := (List.getElem?_eq_some_iff.mp e).2
  rw [List.getElem_map, List.getElem_map, List.getElem_range, e2]
theorem enumS_nodup {xs : List D} (h : xs.length ≤ 3) : ((enumS xs).map (·.1)).Nodup := by
  rw [enumS_keys]
  have : xs.length = 0 ∨ xs.length = 1 ∨ xs.length = 2 ∨ xs.length = 3 := by omega
  rcases this with e | e | e | e <;> rw [e] <;> decide +kernel
theorem enumS_mem {xs : List D} {p : Str × D} (h : p ∈ enumS xs) : ∃ i, i < xs.length ∧ p.1 = keyS i ∧ p.2 ∈ xs := by
  obtain ⟨i, hi, e⟩ := List.getElem_of_mem h
  rw [enumS_len] at hi
  have e2 := enumS_get (List.getElem?_eq_getElem hi)
  have e3 := (List.getElem?_eq_some_iff.mp e2).2
  rw [e] at e3
  exact ⟨i, hi, by rw [e3], by rw [e3]; exact List.getElem_mem hi⟩
theorem enum_in {xs : List D} {i : Nat} {d : D} (h : (enumD xs)[i]? = some d) : ∃ x, xs[i]? = some x ∧ d = .tuple [.int (i : Int), x] := by
  have hi : i < xs.length := by have := (List.getElem?_eq_some_iff.mp h).1; rwa [enumD_len] at this
  refine ⟨xs[i], List.getElem?_eq_getElem hi, ?_⟩
  rw [enumD_get (List.getElem?_eq_getElem hi)] at h
  exact (Option.some.inj h).symm
def sp__law_any (n : Nat) : ASp := fun ws ih Q => ∃ (deep : Nat) (b : Nat) (r : IH), ws = [.ref 2, .d (.int deep)] ∧ deep < n ∧ Dk ([.tab "are_rows.<locals>.<lambda>"] : IH) b r ih ∧ b + 10 * 4 ^ deep ≤ 600000 ∧ deep ≤ 5 ∧ ∀ (x : D) (ih2 : IH), Sd (2 + deep) (100 * 4 ^ deep) x → Dk ([.tab "are_rows.<locals>.<lambda>"] : IH) (b + 10 * 4 ^ deep) r ih2 → Q (.d x) ih2
theorem nil__law_any (ws : List W) (ih : IH) (Q : QW) : ¬ sp__law_any 0 ws ih Q := fun ⟨_, _, _, _, h, _⟩ => absurd h (Nat.not_lt_zero _)

theorem rc__law_any (T : Ty K mg base Tb) : ∀ n : Nat, Fdf P w K mg base (SG Tb) (n + 2) "_law_any" ["deck", "deep"] [] (sp__law_any n)
  | 0 => Df.none T.d__law_any fun ws ih Q => nil__law_any ws ih Q
  | n + 1 => T.d__law_any.fd fun f fd Fn => by
    have ih := rc__law_any T n
    refine fnG_ofT Fn sc__law_any ((bv_cons (sv_set 2 (evc (ok__law_draw T) (Nat.le_trans (m := 2) (Nat.le_of_ble_eq_true rfl) (Nat.le_add_left _ _)) rfl (av_cons (ev_var 0) (av_cons ev_int av_nil))))
      (bv_cons (sv_if (WV.tv (wv_or (tv_cmp ov_lt (ev_var 2) ev_int) (wv_or1 (tv_cmp ov_eq (ev_var 1) ev_int)))) (bv_cons (sv_set 3 (ev_lst (av_cons ev_int (av_cons ev_int (av_cons (ev_un uv_neg ev_int) (av_cons ev_int (av_cons ev_int (av_cons (ev_op ov_pow ev_int ev_int) (av_cons ev_bl (av_cons ev_bl (av_cons ev_non (av_cons ev_str (av_cons ev_str (av_cons ev_str (av_cons ev_str (av_cons ev_str (av_cons (ev_tup av_nil) (av_cons (ev_lst av_nil) (av_cons ev_dic0 (av_cons (ev_tup (av_cons ev_int (av_cons ev_int av_nil))) av_nil))))))))))))))))))))
      (bv_one (sv_ret (evc (ok__law_pick T) (Nat.le_trans (m := 2) (Nat.le_of_ble_eq_true rfl) (Nat.le_add_left _ _)) rfl (av_cons (ev_var 0) (av_cons (ev_var 3) av_nil)))))) bv_nil)
      (bv_cons (sv_setLc 4 [("turn", 5)] (iv_range1 (av_cons (evc (ok__law_draw T) (Nat.le_trans (m := 2) (Nat.le_of_ble_eq_true rfl) (Nat.le_add_left _ _)) rfl (av_cons (ev_var 0) (av_cons ev_int av_nil))) av_nil) rfl T.b_range) (by show blkC ["deck", "deep", "way", "some", "parts", "turn", "at", "part"] (defScope st__law_any) _ _ = true; decide +kernel) (gw_name 5) tvs_nil (evc ih (Nat.le_refl _) rfl (av_cons (ev_var 0) (av_cons (ev_op ov_sub (ev_var 1) ev_int) av_nil))) (fun _ h => sw_true (by rw [h]; rfl) (by rw [h]; rfl) rfl (by decide +kernel)))
      (bv_cons (sv_if (tv_cmp ov_lt (ev_var 2) ev_int) (bv_one (sv_ret (ev_callT cv_tuple rfl T.b_tuple bt_tuple (av_cons (ev_var 4) av_nil)))) bv_nil)
      (bv_one (sv_ret (ev_ifE (tv_cmp ov_lt (ev_var 2) ev_int) (ev_var 4) (ev_callT cv_dictP rfl T.b_dict bt_dict (av_cons (ev_lc [("at", 6), ("part", 7)] (iv_enum (av_cons (ev_var 4) av_nil) rfl T.b_enumerate) (by show blkC ["deck", "deep", "way", "some", "parts", "turn", "at", "part"] (defScope st__law_any) _ _ = true; decide +kernel) (gw_tup (n := 2) (gws_cons (gw_name 6) (gws_cons (gw_name 7) gws_nil))) tvs_nil (ev_tup (av_cons (ev_callT cv_str rfl T.b_str bt_str (av_cons (ev_var 6) av_nil)) (av_cons (ev_var 7) av_nil)))) av_nil)))))))))) fun ws ob Qa hl h => ?_
    obtain ⟨deep, b, r, rfl, hn, hd, hb, h5, q⟩ := h
    have p4 : 1 ≤ 4 ^ deep := Nat.one_le_pow _ _ (by decide)
    refine sq ?_
    simp only [aAnd, aAndV, aAsg, aAsgT, aBk, aC, aCB, aCall, aCallK, aChain, aCons, aCt, aDget, aDispM, aDput, aDrop, aGN, aGcons, aGnil, aGtup, aIE, aIL, aIR1, aIR2, aIT, aIZ, aIf, aIfS, aIsi, aLst, aLstM, aMt, aMt0, aNever, aNil, aNoP, aNot, aNotV, aNx, aOp, aOr, aOrV, aPar, aPar3, aRet, aRetN, aRevD, aRevM, aSl, aSmP, aTst, aTup, aUn, aVar, aYes, xAbs, xApp, xBools, xEqB, xGcd, xI, xIc, xInt, xInts, xIs_nn, xIs_bb, xIs_bn, xIs_in, xIs_sn, xIs_tn, xIs_ln, xLen, xListOfM, xMax, xMin, xNeg, xPop, xSum, xTupleOf, optW, view, W.isFn, List.forall_mem_cons, forall_nil, asB, onRL, isRL, pick, keyOf, val_cells, val_mixed, val_draws, put_draws, allD, finD, startA, List.map_cons, List.map_nil, List.length_cons, List.length_nil, List.replicate, List.cons_append, List.nil_append, List.append_nil, List.getElem?_cons_zero, List.getElem?_cons_succ, List.set_cons_zero, List.set_cons_succ, Option.join_some, Option.map_some, List.filterMap_cons, List.filterMap_nil, List.take, Nat.sub_self, Nat.add_one_sub_one, Nat.reduceSub, Nat.reduceAdd, List.replicate_zero, isT, atI_0, atI_1, size2, size1, size3, size0, true_and, and_true, Bool.true_eq_false, Bool.false_eq_true, if_true, if_false, ite_true, ite_false, reduceIte, eq_self, ex_app, ex_app2, ite_tt, ite_ft, List.cons.injEq, W.d.injEq, PyData.int.injEq, PyData.tuple.injEq, exists_eq_left', and_assoc, exists_and_left, eqOk_int, eqD_int, eqOk_fr, eqD_fr, eqOk_str, eqD_str, id, lo_ws1, lo_ws2, lo_ws3, Bool.not_true, Bool.not_false, Bool.and_true, Bool.and_false, Bool.true_and, Bool.false_and, Bool.or_true, Bool.or_false, Bool.true_or, Bool.false_or, aCallV, aCallL, capOf, onlyD, startL, aIZB, sqD, xIn, allS, xMulB, xStr, isStrW, xUpper, aLRg1, aRevT, rowD, rowsD, exists_eq_left, aIZG, seqG, SG, wipeA, lstOf, allBm, allIm, all_id, any_id, ones_ok, ones_eqD, aDic0, xReprA, xAdd_i, xAdd_s, xAdd_t, xAdd_l, xSl_t, xSl_l, xSl_s, xSl_scr, xListOf_t, xListOf_l, xIdx_t, xIdx_l, xIdx_s, xIdx_r, sp__law_draw]
    refine ⟨_, _, hd, by omega, by decide, by decide, fun way o1 w0 w1 hd1 => ?_⟩
    refine sq ?_
    by_cases hw : way < 3
    · simp only [aAnd, aAndV, aAsg, aAsgT, aBk, aC, aCB, aCall, aCallK, aChain, aCons, aCt, aDget, aDispM, aDput, aDrop, aGN, aGcons, aGnil, aGtup, aIE, aIL, aIR1, aIR2, aIT, aIZ, aIf, aIfS, aIsi, aLst, aLstM, aMt, aMt0, aNever, aNil, aNoP, aNot, aNotV, aNx, aOp, aOr, aOrV, aPar, aPar3, aRet, aRetN, aRevD, aRevM, aSl, aSmP, aTst, aTup, aUn, aVar, aYes, xAbs, xApp, xBools, xEqB, xGcd, xI, xIc, xInt, xInts, xIs_nn, xIs_bb, xIs_bn, xIs_in, xIs_sn, xIs_tn, xIs_ln, xLen, xListOfM, xMax, xMin, xNeg, xPop, xSum, xTupleOf, optW, view, W.isFn, List.forall_mem_cons, forall_nil, asB, onRL, isRL, pick, keyOf, val_cells, val_mixed, val_draws, put_draws, allD, finD, startA, List.map_cons, List.map_nil, List.length_cons, List.length_nil, List.replicate, List.cons_append, List.nil_append, List.append_nil, List.getElem?_cons_zero, List.getElem?_cons_succ, List.set_cons_zero, List.set_cons_succ, Option.join_some, Option.map_some, List.filterMap_cons, List.filterMap_nil, List.take, Nat.sub_self, Nat.add_one_sub_one, Nat.reduceSub, Nat.reduceAdd, List.replicate_zero, isT, atI_0, atI_1, size2, size1, size3, size0, true_and, and_true, Bool.true_eq_false, Bool.false_eq_true, if_true, if_false, ite_true, ite_false, reduceIte, eq_self, ex_app, ex_app2, ite_tt, ite_ft, List.cons.injEq, W.d.injEq, PyData.int.injEq, PyData.tuple.injEq, exists_eq_left', and_assoc, exists_and_left, eqOk_int, eqD_int, eqOk_fr, eqD_fr, eqOk_str, eqD_str, id, lo_ws1, lo_ws2, lo_ws3, Bool.not_true, Bool.not_false, Bool.and_true, Bool.and_false, Bool.true_and, Bool.false_and, Bool.or_true, Bool.or_false, Bool.true_or, Bool.false_or, aCallV, aCallL, capOf, onlyD, startL, aIZB, sqD, xIn, allS, xMulB, xStr, isStrW, xUpper, aLRg1, aRevT, rowD, rowsD, exists_eq_left, aIZG, seqG, SG, wipeA, lstOf, allBm, allIm, all_id, any_id, ones_ok, ones_eqD, aDic0, xReprA, xAdd_i, xAdd_s, xAdd_t, xAdd_l, xSl_t, xSl_l, xSl_s, xSl_scr, xListOf_t, xListOf_l, xIdx_t, xIdx_l, xIdx_s, xIdx_r, hw, decide_true]
      refine sq ?_
      simp only [aAnd, aAndV, aAsg, aAsgT, aBk, aC, aCB, aCall, aCallK, aChain, aCons, aCt, aDget, aDispM, aDput, aDrop, aGN, aGcons, aGnil, aGtup, aIE, aIL, aIR1, aIR2, aIT, aIZ, aIf, aIfS, aIsi, aLst, aLstM, aMt, aMt0, aNever, aNil, aNoP, aNot, aNotV, aNx, aOp, aOr, aOrV, aPar, aPar3, aRet, aRetN, aRevD, aRevM, aSl, aSmP, aTst, aTup, aUn, aVar, aYes, xAbs, xApp, xBools, xEqB, xGcd, xI, xIc, xInt, xInts, xIs_nn, xIs_bb, xIs_bn, xIs_in, xIs_sn, xIs_tn, xIs_ln, xLen, xListOfM, xMax, xMin, xNeg, xPop, xSum, xTupleOf, optW, view, W.isFn, List.forall_mem_cons, forall_nil, asB, onRL, isRL, pick, keyOf, val_cells, val_mixed, val_draws, put_draws, allD, finD, startA, List.map_cons, List.map_nil, List.length_cons, List.length_nil, List.replicate, List.cons_append, List.nil_append, List.append_nil, List.getElem?_cons_zero, List.getElem?_cons_succ, List.set_cons_zero, List.set_cons_succ, Option.join_some, Option.map_some, List.filterMap_cons, List.filterMap_nil, List.take, Nat.sub_self, Nat.add_one_sub_one, Nat.reduceSub, Nat.reduceAdd, List.replicate_zero, isT, atI_0, atI_1, size2, size1, size3, size0, true_and, and_true, Bool.true_eq_false, Bool.false_eq_true, if_true, if_false, ite_true, ite_false, reduceIte, eq_self, ex_app, ex_app2, ite_tt, ite_ft, List.cons.injEq, W.d.injEq, PyData.int.injEq, PyData.tuple.injEq, exists_eq_left', and_assoc, exists_and_left, eqOk_int, eqD_int, eqOk_fr, eqD_fr, eqOk_str, eqD_str, id, lo_ws1, lo_ws2, lo_ws3, Bool.not_true, Bool.not_false, Bool.and_true, Bool.and_false, Bool.true_and, Bool.false_and, Bool.or_true, Bool.or_false, Bool.true_or, Bool.false_or, aCallV, aCallL, capOf, onlyD, startL, aIZB, sqD, xIn, allS, xMulB, xStr, isStrW, xUpper, aLRg1, aRevT, rowD, rowsD, exists_eq_left, aIZG, seqG, SG, wipeA, lstOf, allBm, allIm, all_id, any_id, ones_ok, ones_eqD, aDic0, xReprA, xAdd_i, xAdd_s, xAdd_t, xAdd_l, xSl_t, xSl_l, xSl_s, xSl_scr, xListOf_t, xListOf_l, xIdx_t, xIdx_l, xIdx_s, xIdx_r, sp__law_pick, e39, cp39, PyData.list.injEq]
      refine ⟨by decide, _, _, hd1, by omega, by decide, by decide, fun x o2 hx hd2 => finT_d0 hd hd2 fun o3 hd3 => q _ _ ?_ (hd3.mono (by omega))⟩
      exact (any_leaf x hx).mono (by omega) (Nat.le_trans (by decide) (Nat.mul_le_mul_left 100 p4))
    · rcases Nat.eq_zero_or_pos deep with h0 | h0
      · subst h0
        have ez : decide (((0 : Nat) : Int) = 0) = true := rfl
        simp only [aAnd, aAndV, aAsg, aAsgT, aBk, aC, aCB, aCall, aCallK, aChain, aCons, aCt, aDget, aDispM, aDput, aDrop, aGN, aGcons, aGnil, aGtup, aIE, aIL, aIR1, aIR2, aIT, aIZ, aIf, aIfS, aIsi, aLst, aLstM, aMt, aMt0, aNever, aNil, aNoP, aNot, aNotV, aNx, aOp, aOr, aOrV, aPar, aPar3, aRet, aRetN, aRevD, aRevM, aSl, aSmP, aTst, aTup, aUn, aVar, aYes, xAbs, xApp, xBools, xEqB, xGcd, xI, xIc, xInt, xInts, xIs_nn, xIs_bb, xIs_bn, xIs_in, xIs_sn, xIs_tn, xIs_ln, xLen, xListOfM, xMax, xMin, xNeg, xPop, xSum, xTupleOf, optW, view, W.isFn, List.forall_mem_cons, forall_nil, asB, onRL, isRL, pick, keyOf, val_cells, val_mixed, val_draws, put_draws, allD, finD, startA, List.map_cons, List.map_nil, List.length_cons, List.length_nil, List.replicate, List.cons_append, List.nil_append, List.append_nil, List.getElem?_cons_zero, List.getElem?_cons_succ, List.set_cons_zero, List.set_cons_succ, Option.join_some, Option.map_some, List.filterMap_cons, List.filterMap_nil, List.take, Nat.sub_self, Nat.add_one_sub_one, Nat.reduceSub, Nat.reduceAdd, List.replicate_zero, isT, atI_0, atI_1, size2, size1, size3, size0, true_and, and_true, Bool.true_eq_false, Bool.false_eq_true, if_true, if_false, ite_true, ite_false, reduceIte, eq_self, ex_app, ex_app2, ite_tt, ite_ft, List.cons.injEq, W.d.injEq, PyData.int.injEq, PyData.tuple.injEq, exists_eq_left', and_assoc, exists_and_left, eqOk_int, eqD_int, eqOk_fr, eqD_fr, eqOk_str, eqD_str, id, lo_ws1, lo_ws2, lo_ws3, Bool.not_true, Bool.not_false, Bool.and_true, Bool.and_false, Bool.true_and, Bool.false_and, Bool.or_true, Bool.or_false, Bool.true_or, Bool.false_or, aCallV, aCallL, capOf, onlyD, startL, aIZB, sqD, xIn, allS, xMulB, xStr, isStrW, xUpper, aLRg1, aRevT, rowD, rowsD, exists_eq_left, aIZG, seqG, SG, wipeA, lstOf, allBm, allIm, all_id, any_id, ones_ok, ones_eqD, aDic0, xReprA, xAdd_i, xAdd_s, xAdd_t, xAdd_l, xSl_t, xSl_l, xSl_s, xSl_scr, xListOf_t, xListOf_l, xIdx_t, xIdx_l, xIdx_s, xIdx_r, hw, xEqB, ez, decide_false]
        refine sq ?_
        simp only [aAnd, aAndV, aAsg, aAsgT, aBk, aC, aCB, aCall, aCallK, aChain, aCons, aCt, aDget, aDispM, aDput, aDrop, aGN, aGcons, aGnil, aGtup, aIE, aIL, aIR1, aIR2, aIT, aIZ, aIf, aIfS, aIsi, aLst, aLstM, aMt, aMt0, aNever, aNil, aNoP, aNot, aNotV, aNx, aOp, aOr, aOrV, aPar, aPar3, aRet, aRetN, aRevD, aRevM, aSl, aSmP, aTst, aTup, aUn, aVar, aYes, xAbs, xApp, xBools, xEqB, xGcd, xI, xIc, xInt, xInts, xIs_nn, xIs_bb, xIs_bn, xIs_in, xIs_sn, xIs_tn, xIs_ln, xLen, xListOfM, xMax, xMin, xNeg, xPop, xSum, xTupleOf, optW, view, W.isFn, List.forall_mem_cons, forall_nil, asB, onRL, isRL, pick, keyOf, val_cells, val_mixed, val_draws, put_draws, allD, finD, startA, List.map_cons, List.map_nil, List.length_cons, List.length_nil, List.replicate, List.cons_append, List.nil_append, List.append_nil, List.getElem?_cons_zero, List.getElem?_cons_succ, List.set_cons_zero, List.set_cons_succ, Option.join_some, Option.map_some, List.filterMap_cons, List.filterMap_nil, List.take, Nat.sub_self, Nat.add_one_sub_one, Nat.reduceSub, Nat.reduceAdd, List.replicate_zero, isT, atI_0, atI_1, size2, size1, size3, size0, true_and, and_true, Bool.true_eq_false, Bool.false_eq_true, if_true, if_false, ite_true, ite_false, reduceIte, eq_self, ex_app, ex_app2, ite_tt, ite_ft, List.cons.injEq, W.d.injEq, PyData.int.injEq, PyData.tuple.injEq, exists_eq_left', and_assoc, exists_and_left, eqOk_int, eqD_int, eqOk_fr, eqD_fr, eqOk_str, eqD_str, id, lo_ws1, lo_ws2, lo_ws3, Bool.not_true, Bool.not_false, Bool.and_true, Bool.and_false, Bool.true_and, Bool.false_and, Bool.or_true, Bool.or_false, Bool.true_or, Bool.false_or, aCallV, aCallL, capOf, onlyD, startL, aIZB, sqD, xIn, allS, xMulB, xStr, isStrW, xUpper, aLRg1, aRevT, rowD, rowsD, exists_eq_left, aIZG, seqG, SG, wipeA, lstOf, allBm, allIm, all_id, any_id, ones_ok, ones_eqD, aDic0, xReprA, xAdd_i, xAdd_s, xAdd_t, xAdd_l, xSl_t, xSl_l, xSl_s, xSl_scr, xListOf_t, xListOf_l, xIdx_t, xIdx_l, xIdx_s, xIdx_r, sp__law_pick, e39, cp39, PyData.list.injEq]
        refine ⟨by decide, _, _, hd1, by omega, by decide, by decide, fun x o2 hx hd2 => finT_d0 hd hd2 fun o3 hd3 => q _ _ ?_ (hd3.mono (by omega))⟩
        exact (any_leaf x hx).mono (by omega) (Nat.le_trans (by decide) (Nat.mul_le_mul_left 100 p4))
      · obtain ⟨d', rfl⟩ : ∃ d', deep = d' + 1 := ⟨deep - 1, by omega⟩
        have ez : decide (((d' + 1 : Nat) : Int) = 0) = false := decide_eq_false (by omega)
        have e1 : (((d' + 1 : Nat) : Int) - 1) = (d' : Int) := by omega
        have pp : (4 : Nat) ^ (d' + 1) = 4 * 4 ^ d' := by rw [Nat.pow_succ, Nat.mul_comm]
        simp only [aAnd, aAndV, aAsg, aAsgT, aBk, aC, aCB, aCall, aCallK, aChain, aCons, aCt, aDget, aDispM, aDput, aDrop, aGN, aGcons, aGnil, aGtup, aIE, aIL, aIR1, aIR2, aIT, aIZ, aIf, aIfS, aIsi, aLst, aLstM, aMt, aMt0, aNever, aNil, aNoP, aNot, aNotV, aNx, aOp, aOr, aOrV, aPar, aPar3, aRet, aRetN, aRevD, aRevM, aSl, aSmP, aTst, aTup, aUn, aVar, aYes, xAbs, xApp, xBools, xEqB, xGcd, xI, xIc, xInt, xInts, xIs_nn, xIs_bb, xIs_bn, xIs_in, xIs_sn, xIs_tn, xIs_ln, xLen, xListOfM, xMax, xMin, xNeg, xPop, xSum, xTupleOf, optW, view, W.isFn, List.forall_mem_cons, forall_nil, asB, onRL, isRL, pick, keyOf, val_cells, val_mixed, val_draws, put_draws, allD, finD, startA, List.map_cons, List.map_nil, List.length_cons, List.length_nil, List.replicate, List.cons_append, List.nil_append, List.append_nil, List.getElem?_cons_zero, List.getElem?_cons_succ, List.set_cons_zero, List.set_cons_succ, Option.join_some, Option.map_some, List.filterMap_cons, List.filterMap_nil, List.take, Nat.sub_self, Nat.add_one_sub_one, Nat.reduceSub, Nat.reduceAdd, List.replicate_zero, isT, atI_0, atI_1, size2, size1, size3, size0, true_and, and_true, Bool.true_eq_false, Bool.false_eq_true, if_true, if_false, ite_true, ite_false, reduceIte, eq_self, ex_app, ex_app2, ite_tt, ite_ft, List.cons.injEq, W.d.injEq, PyData.int.injEq, PyData.tuple.injEq, exists_eq_left', and_assoc, exists_and_left, eqOk_int, eqD_int, eqOk_fr, eqD_fr, eqOk_str, eqD_str, id, lo_ws1, lo_ws2, lo_ws3, Bool.not_true, Bool.not_false, Bool.and_true, Bool.and_false, Bool.true_and, Bool.false_and, Bool.or_true, Bool.or_false, Bool.true_or, Bool.false_or, aCallV, aCallL, capOf, onlyD, startL, aIZB, sqD, xIn, allS, xMulB, xStr, isStrW, xUpper, aLRg1, aRevT, rowD, rowsD, exists_eq_left, aIZG, seqG, SG, wipeA, lstOf, allBm, allIm, all_id, any_id, ones_ok, ones_eqD, aDic0, xReprA, xAdd_i, xAdd_s, xAdd_t, xAdd_l, xSl_t, xSl_l, xSl_s, xSl_scr, xListOf_t, xListOf_l, xIdx_t, xIdx_l, xIdx_s, xIdx_r, hw, xEqB, ez, decide_false]
        refine sq ?_
        simp only [aAnd, aAndV, aAsg, aAsgT, aBk, aC, aCB, aCall, aCallK, aChain, aCons, aCt, aDget, aDispM, aDput, aDrop, aGN, aGcons, aGnil, aGtup, aIE, aIL, aIR1, aIR2, aIT, aIZ, aIf, aIfS, aIsi, aLst, aLstM, aMt, aMt0, aNever, aNil, aNoP, aNot, aNotV, aNx, aOp, aOr, aOrV, aPar, aPar3, aRet, aRetN, aRevD, aRevM, aSl, aSmP, aTst, aTup, aUn, aVar, aYes, xAbs, xApp, xBools, xEqB, xGcd, xI, xIc, xInt, xInts, xIs_nn, xIs_bb, xIs_bn, xIs_in, xIs_sn, xIs_tn, xIs_ln, xLen, xListOfM, xMax, xMin, xNeg, xPop, xSum, xTupleOf, optW, view, W.isFn, List.forall_mem_cons, forall_nil, asB, onRL, isRL, pick, keyOf, val_cells, val_mixed, val_draws, put_draws, allD, finD, startA, List.map_cons, List.map_nil, List.length_cons, List.length_nil, List.replicate, List.cons_append, List.nil_append, List.append_nil, List.getElem?_cons_zero, List.getElem?_cons_succ, List.set_cons_zero, List.set_cons_succ, Option.join_some, Option.map_some, List.filterMap_cons, List.filterMap_nil, List.take, Nat.sub_self, Nat.add_one_sub_one, Nat.reduceSub, Nat.reduceAdd, List.replicate_zero, isT, atI_0, atI_1, size2, size1, size3, size0, true_and, and_true, Bool.true_eq_false, Bool.false_eq_true, if_true, if_false, ite_true, ite_false, reduceIte, eq_self, ex_app, ex_app2, ite_tt, ite_ft, List.cons.injEq, W.d.injEq, PyData.int.injEq, PyData.tuple.injEq, exists_eq_left', and_assoc, exists_and_left, eqOk_int, eqD_int, eqOk_fr, eqD_fr, eqOk_str, eqD_str, id, lo_ws1, lo_ws2, lo_ws3, Bool.not_true, Bool.not_false, Bool.and_true, Bool.and_false, Bool.true_and, Bool.false_and, Bool.or_true, Bool.or_false, Bool.true_or, Bool.false_or, aCallV, aCallL, capOf, onlyD, startL, aIZB, sqD, xIn, allS, xMulB, xStr, isStrW, xUpper, aLRg1, aRevT, rowD, rowsD, exists_eq_left, aIZG, seqG, SG, wipeA, lstOf, allBm, allIm, all_id, any_id, ones_ok, ones_eqD, aDic0, xReprA, xAdd_i, xAdd_s, xAdd_t, xAdd_l, xSl_t, xSl_l, xSl_s, xSl_scr, xListOf_t, xListOf_l, xIdx_t, xIdx_l, xIdx_s, xIdx_r, aLc, sp__law_draw, sp__law_any, e1]
        refine ⟨_, _, hd1, by omega, by decide, by decide, fun k o2 k0 k1 hd2 => ?_⟩
        refine ⟨by omega, by omega, fun i acc ih => acc.length = i ∧ (∀ x ∈ acc, Sd (2 + d') (100 * 4 ^ d') x) ∧ Dk ([.tab "are_rows.<locals>.<lambda>"] : IH) (b + 2 + i * (10 * 4 ^ d')) r ih, ⟨rfl, fun x hx => absurd hx (by simp), hd2.mono (by omega)⟩, ?_, by rw [rng_len]; exact Nat.le_trans (show k.toNat ≤ 100 by omega) (by decide), ?_⟩
        · rintro i d acc ih2 hdd ⟨hl, ha, hd3⟩ _
          have hi3 : i < 3 := by have := (rng_in hdd).1; omega
          have i0 : i = 0 ∨ i = 1 ∨ i = 2 := by omega
          refine ⟨d', rfl, by omega, _, _, hd3, by rcases i0 with rfl | rfl | rfl <;> omega, by omega, fun x ih3 hx hd4 => ⟨by rw [List.length_append, hl]; rfl, fun y hy => (List.mem_append.mp hy).elim (ha y) fun e => by rw [List.mem_singleton.mp e]; exact hx, hd4.mono (by rcases i0 with rfl | rfl | rfl <;> omega)⟩⟩
        · rintro acc ih2 _ ⟨hl, ha, hd3⟩
          rw [rng_len] at hl hd3
          have k3 : k.toNat = 0 ∨ k.toNat = 1 ∨ k.toNat = 2 ∨ k.toNat = 3 := by omega
          have hd5 : Dk ([.tab "are_rows.<locals>.<lambda>"] : IH) (b + 10 * 4 ^ (d' + 1)) r ih2 := hd3.mono (by rcases k3 with e | e | e | e <;> rw [e] <;> omega)
          have l3 : acc.length ≤ 3 := by omega
          have big : acc.length * (100 * 4 ^ d' + 1) ≤ 100 * 4 ^ (d' + 1) := by
            rw [hl]
            rcases k3 with e | e | e | e <;> rw [e] <;> omega
          refine sq ?_
          by_cases w6 : way < 6
          · simp only [aAnd, aAndV, aAsg, aAsgT, aBk, aC, aCB, aCall, aCallK, aChain, aCons, aCt, aDget, aDispM, aDput, aDrop, aGN, aGcons, aGnil, aGtup, aIE, aIL, aIR1, aIR2, aIT, aIZ, aIf, aIfS, aIsi, aLst, aLstM, aMt, aMt0, aNever, aNil, aNoP, aNot, aNotV, aNx, aOp, aOr, aOrV, aPar, aPar3, aRet, aRetN, aRevD, aRevM, aSl, aSmP, aTst, aTup, aUn, aVar, aYes, xAbs, xApp, xBools, xEqB, xGcd, xI, xIc, xInt, xInts, xIs_nn, xIs_bb, xIs_bn, xIs_in, xIs_sn, xIs_tn, xIs_ln, xLen, xListOfM, xMax, xMin, xNeg, xPop, xSum, xTupleOf, optW, view, W.isFn, List.forall_mem_cons, forall_nil, asB, onRL, isRL, pick, keyOf, val_cells, val_mixed, val_draws, put_draws, allD, finD, startA, List.map_cons, List.map_nil, List.length_cons, List.length_nil, List.replicate, List.cons_append, List.nil_append, List.append_nil, List.getElem?_cons_zero, List.getElem?_cons_succ, List.set_cons_zero, List.set_cons_succ, Option.join_some, Option.map_some, List.filterMap_cons, List.filterMap_nil, List.take, Nat.sub_self, Nat.add_one_sub_one, Nat.reduceSub, Nat.reduceAdd, List.replicate_zero, isT, atI_0, atI_1, size2, size1, size3, size0, true_and, and_true, Bool.true_eq_false, Bool.false_eq_true, if_true, if_false, ite_true, ite_false, reduceIte, eq_self, ex_app, ex_app2, ite_tt, ite_ft, List.cons.injEq, W.d.injEq, PyData.int.injEq, PyData.tuple.injEq, exists_eq_left', and_assoc, exists_and_left, eqOk_int, eqD_int, eqOk_fr, eqD_fr, eqOk_str, eqD_str, id, lo_ws1, lo_ws2, lo_ws3, Bool.not_true, Bool.not_false, Bool.and_true, Bool.and_false, Bool.true_and, Bool.false_and, Bool.or_true, Bool.or_false, Bool.true_or, Bool.false_or, aCallV, aCallL, capOf, onlyD, startL, aIZB, sqD, xIn, allS, xMulB, xStr, isStrW, xUpper, aLRg1, aRevT, rowD, rowsD, exists_eq_left, aIZG, seqG, SG, wipeA, lstOf, allBm, allIm, all_id, any_id, ones_ok, ones_eqD, aDic0, xReprA, xAdd_i, xAdd_s, xAdd_t, xAdd_l, xSl_t, xSl_l, xSl_s, xSl_scr, xListOf_t, xListOf_l, xIdx_t, xIdx_l, xIdx_s, xIdx_r, w6, decide_true]
            exact finT_d0 hd hd5 fun ih3 hd6 => q _ _ ((Sd.tuple ha big).mono (by omega) (Nat.le_refl _)) hd6
          · by_cases w8 : way < 8
            · simp only [aAnd, aAndV, aAsg, aAsgT, aBk, aC, aCB, aCall, aCallK, aChain, aCons, aCt, aDget, aDispM, aDput, aDrop, aGN, aGcons, aGnil, aGtup, aIE, aIL, aIR1, aIR2, aIT, aIZ, aIf, aIfS, aIsi, aLst, aLstM, aMt, aMt0, aNever, aNil, aNoP, aNot, aNotV, aNx, aOp, aOr, aOrV, aPar, aPar3, aRet, aRetN, aRevD, aRevM, aSl, aSmP, aTst, aTup, aUn, aVar, aYes, xAbs, xApp, xBools, xEqB, xGcd, xI, xIc, xInt, xInts, xIs_nn, xIs_bb, xIs_bn, xIs_in, xIs_sn, xIs_tn, xIs_ln, xLen, xListOfM, xMax, xMin, xNeg, xPop, xSum, xTupleOf, optW, view, W.isFn, List.forall_mem_cons, forall_nil, asB, onRL, isRL, pick, keyOf, val_cells, val_mixed, val_draws, put_draws, allD, finD, startA, List.map_cons, List.map_nil, List.length_cons, List.length_nil, List.replicate, List.cons_append, List.nil_append, List.append_nil, List.getElem?_cons_zero, List.getElem?_cons_succ, List.set_cons_zero, List.set_cons_succ, Option.join_some, Option.map_some, List.filterMap_cons, List.filterMap_nil, List.take, Nat.sub_self, Nat.add_one_sub_one, Nat.reduceSub, Nat.reduceAdd, List.replicate_zero, isT, atI_0, atI_1, size2, size1, size3, size0, true_and, and_true, Bool.true_eq_false, Bool.false_eq_true, if_true, if_false, ite_true, ite_false, reduceIte, eq_self, ex_app, ex_app2, ite_tt, ite_ft, List.cons.injEq, W.d.injEq, PyData.int.injEq, PyData.tuple.injEq, exists_eq_left', and_assoc, exists_and_left, eqOk_int, eqD_int, eqOk_fr, eqD_fr, eqOk_str, eqD_str, id, lo_ws1, lo_ws2, lo_ws3, Bool.not_true, Bool.not_false, Bool.and_true, Bool.and_false, Bool.true_and, Bool.false_and, Bool.or_true, Bool.or_false, Bool.true_or, Bool.false_or, aCallV, aCallL, capOf, onlyD, startL, aIZB, sqD, xIn, allS, xMulB, xStr, isStrW, xUpper, aLRg1, aRevT, rowD, rowsD, exists_eq_left, aIZG, seqG, SG, wipeA, lstOf, allBm, allIm, all_id, any_id, ones_ok, ones_eqD, aDic0, xReprA, xAdd_i, xAdd_s, xAdd_t, xAdd_l, xSl_t, xSl_l, xSl_s, xSl_scr, xListOf_t, xListOf_l, xIdx_t, xIdx_l, xIdx_s, xIdx_r, w6, w8, decide_true, decide_false]
              exact finT_d0 hd hd5 fun ih3 hd6 => q _ _ ((Sd.list ha big).mono (by omega) (Nat.le_refl _)) hd6
            · simp only [aAnd, aAndV, aAsg, aAsgT, aBk, aC, aCB, aCall, aCallK, aChain, aCons, aCt, aDget, aDispM, aDput, aDrop, aGN, aGcons, aGnil, aGtup, aIE, aIL, aIR1, aIR2, aIT, aIZ, aIf, aIfS, aIsi, aLst, aLstM, aMt, aMt0, aNever, aNil, aNoP, aNot, aNotV, aNx, aOp, aOr, aOrV, aPar, aPar3, aRet, aRetN, aRevD, aRevM, aSl, aSmP, aTst, aTup, aUn, aVar, aYes, xAbs, xApp, xBools, xEqB, xGcd, xI, xIc, xInt, xInts, xIs_nn, xIs_bb, xIs_bn, xIs_in, xIs_sn, xIs_tn, xIs_ln, xLen, xListOfM, xMax, xMin, xNeg, xPop, xSum, xTupleOf, optW, view, W.isFn, List.forall_mem_cons, forall_nil, asB, onRL, isRL, pick, keyOf, val_cells, val_mixed, val_draws, put_draws, allD, finD, startA, List.map_cons, List.map_nil, List.length_cons, List.length_nil, List.replicate, List.cons_append, List.nil_append, List.append_nil, List.getElem?_cons_zero, List.getElem?_cons_succ, List.set_cons_zero, List.set_cons_succ, Option.join_some, Option.map_some, List.filterMap_cons, List.filterMap_nil, List.take, Nat.sub_self, Nat.add_one_sub_one, Nat.reduceSub, Nat.reduceAdd, List.replicate_zero, isT, atI_0, atI_1, size2, size1, size3, size0, true_and, and_true, Bool.true_eq_false, Bool.false_eq_true, if_true, if_false, ite_true, ite_false, reduceIte, eq_self, ex_app, ex_app2, ite_tt, ite_ft, List.cons.injEq, W.d.injEq, PyData.int.injEq, PyData.tuple.injEq, exists_eq_left', and_assoc, exists_and_left, eqOk_int, eqD_int, eqOk_fr, eqD_fr, eqOk_str, eqD_str, id, lo_ws1, lo_ws2, lo_ws3, Bool.not_true, Bool.not_false, Bool.and_true, Bool.and_false, Bool.true_and, Bool.false_and, Bool.or_true, Bool.or_false, Bool.true_or, Bool.false_or, aCallV, aCallL, capOf, onlyD, startL, aIZB, sqD, xIn, allS, xMulB, xStr, isStrW, xUpper, aLRg1, aRevT, rowD, rowsD, exists_eq_left, aIZG, seqG, SG, wipeA, lstOf, allBm, allIm, all_id, any_id, ones_ok, ones_eqD, aDic0, xReprA, xAdd_i, xAdd_s, xAdd_t, xAdd_l, xSl_t, xSl_l, xSl_s, xSl_scr, xListOf_t, xListOf_l, xIdx_t, xIdx_l, xIdx_s, xIdx_r, w6, w8, decide_false, aLc]
              refine ⟨fun i a2 ih => a2 = ((enumS acc).take i).map (fun p => .tuple [.str p.1, p.2]) ∧ ih = ih2, ⟨rfl, rfl⟩, ?_, by rw [enumD_len]; exact Nat.le_trans l3 (by decide), ?_⟩
              · rintro i d a2 ih hdd ⟨rfl, rfl⟩ _
                obtain ⟨x, hx, rfl⟩ := enum_in hdd
                simp only [aAnd, aAndV, aAsg, aAsgT, aBk, aC, aCB, aCall, aCallK, aChain, aCons, aCt, aDget, aDispM, aDput, aDrop, aGN, aGcons, aGnil, aGtup, aIE, aIL, aIR1, aIR2, aIT, aIZ, aIf, aIfS, aIsi, aLst, aLstM, aMt, aMt0, aNever, aNil, aNoP, aNot, aNotV, aNx, aOp, aOr, aOrV, aPar, aPar3, aRet, aRetN, aRevD, aRevM, aSl, aSmP, aTst, aTup, aUn, aVar, aYes, xAbs, xApp, xBools, xEqB, xGcd, xI, xIc, xInt, xInts, xIs_nn, xIs_bb, xIs_bn, xIs_in, xIs_sn, xIs_tn, xIs_ln, xLen, xListOfM, xMax, xMin, xNeg, xPop, xSum, xTupleOf, optW, view, W.isFn, List.forall_mem_cons, forall_nil, asB, onRL, isRL, pick, keyOf, val_cells, val_mixed, val_draws, put_draws, allD, finD, startA, List.map_cons, List.map_nil, List.length_cons, List.length_nil, List.replicate, List.cons_append, List.nil_append, List.append_nil, List.getElem?_cons_zero, List.getElem?_cons_succ, List.set_cons_zero, List.set_cons_succ, Option.join_some, Option.map_some, List.filterMap_cons, List.filterMap_nil, List.take, Nat.sub_self, Nat.add_one_sub_one, Nat.reduceSub, Nat.reduceAdd, List.replicate_zero, isT, atI_0, atI_1, size2, size1, size3, size0, true_and, and_true, Bool.true_eq_false, Bool.false_eq_true, if_true, if_false, ite_true, ite_false, reduceIte, eq_self, ex_app, ex_app2, ite_tt, ite_ft, List.cons.injEq, W.d.injEq, PyData.int.injEq, PyData.tuple.injEq, exists_eq_left', and_assoc, exists_and_left, eqOk_int, eqD_int, eqOk_fr, eqD_fr, eqOk_str, eqD_str, id, lo_ws1, lo_ws2, lo_ws3, Bool.not_true, Bool.not_false, Bool.and_true, Bool.and_false, Bool.true_and, Bool.false_and, Bool.or_true, Bool.or_false, Bool.true_or, Bool.false_or, aCallV, aCallL, capOf, onlyD, startL, aIZB, sqD, xIn, allS, xMulB, xStr, isStrW, xUpper, aLRg1, aRevT, rowD, rowsD, exists_eq_left, aIZG, seqG, SG, wipeA, lstOf, allBm, allIm, all_id, any_id, ones_ok, ones_eqD, aDic0, xReprA, xAdd_i, xAdd_s, xAdd_t, xAdd_l, xSl_t, xSl_l, xSl_s, xSl_scr, xListOf_t, xListOf_l, xIdx_t, xIdx_l, xIdx_s, xIdx_r]
                have hi : i < 3 := by have := (List.getElem?_eq_some_iff.mp hx).1; omega
                refine ⟨((Bd.of (by omega) (by omega) : Bd 64 (i : Int)).sm (by decide) : Sm (i : Int)), ?_⟩
                rw [List.take_add_one, enumS_get hx, List.map_append]
                rfl
              · rintro a2 ih _ ⟨rfl, rfl⟩
                rw [enumD_len, ← enumS_len, List.take_length]
                simp only [aAnd, aAndV, aAsg, aAsgT, aBk, aC, aCB, aCall, aCallK, aChain, aCons, aCt, aDget, aDispM, aDput, aDrop, aGN, aGcons, aGnil, aGtup, aIE, aIL, aIR1, aIR2, aIT, aIZ, aIf, aIfS, aIsi, aLst, aLstM, aMt, aMt0, aNever, aNil, aNoP, aNot, aNotV, aNx, aOp, aOr, aOrV, aPar, aPar3, aRet, aRetN, aRevD, aRevM, aSl, aSmP, aTst, aTup, aUn, aVar, aYes, xAbs, xApp, xBools, xEqB, xGcd, xI, xIc, xInt, xInts, xIs_nn, xIs_bb, xIs_bn, xIs_in, xIs_sn, xIs_tn, xIs_ln, xLen, xListOfM, xMax, xMin, xNeg, xPop, xSum, xTupleOf, optW, view, W.isFn, List.forall_mem_cons, forall_nil, asB, onRL, isRL, pick, keyOf, val_cells, val_mixed, val_draws, put_draws, allD, finD, startA, List.map_cons, List.map_nil, List.length_cons, List.length_nil, List.replicate, List.cons_append, List.nil_append, List.append_nil, List.getElem?_cons_zero, List.getElem?_cons_succ, List.set_cons_zero, List.set_cons_succ, Option.join_some, Option.map_some, List.filterMap_cons, List.filterMap_nil, List.take, Nat.sub_self, Nat.add_one_sub_one, Nat.reduceSub, Nat.reduceAdd, List.replicate_zero, isT, atI_0, atI_1, size2, size1, size3, size0, true_and, and_true, Bool.true_eq_false, Bool.false_eq_true, if_true, if_false, ite_true, ite_false, reduceIte, eq_self, ex_app, ex_app2, ite_tt, ite_ft, List.cons.injEq, W.d.injEq, PyData.int.injEq, PyData.tuple.injEq, exists_eq_left', and_assoc, exists_and_left, eqOk_int, eqD_int, eqOk_fr, eqD_fr, eqOk_str, eqD_str, id, lo_ws1, lo_ws2, lo_ws3, Bool.not_true, Bool.not_false, Bool.and_true, Bool.and_false, Bool.true_and, Bool.false_and, Bool.or_true, Bool.or_false, Bool.true_or, Bool.false_or, aCallV, aCallL, capOf, onlyD, startL, aIZB, sqD, xIn, allS, xMulB, xStr, isStrW, xUpper, aLRg1, aRevT, rowD, rowsD, exists_eq_left, aIZG, seqG, SG, wipeA, lstOf, allBm, allIm, all_id, any_id, ones_ok, ones_eqD, aDic0, xReprA, xAdd_i, xAdd_s, xAdd_t, xAdd_l, xSl_t, xSl_l, xSl_s, xSl_scr, xListOf_t, xListOf_l, xIdx_t, xIdx_l, xIdx_s, xIdx_r, xDictP]
                refine ⟨enumS acc, rfl, enumS_nodup l3, finT_d0 hd hd5 fun ih3 hd6 => q _ _ ((Sd.dict (n := 2 + d') (a := 30) (b := 100 * 4 ^ d') (fun x hx => ?_) ?_).mono (by omega) (Nat.le_refl _)) hd6⟩
                · obtain ⟨p, hp, rfl⟩ := List.mem_map.mp hx
                  obtain ⟨i, hi, e1, e2⟩ := enumS_mem hp
                  refine ⟨?_, ha _ e2⟩
                  show Sd _ _ (.str p.1)
                  rw [e1]
                  exact (Sd.str (n := 0) (sst_int (Bd.of (by omega) (by omega)))).mono (Nat.zero_le _) (Nat.le_refl _)
                · rw [List.length_map, enumS_len, hl]
                  rcases k3 with e | e | e | e <;> rw [e] <;> omega
theorem ok__law_any (T : Ty K mg base Tb) : Fdf P w K mg base (SG Tb) 6 "_law_any" ["deck", "deep"] [] (sp__law_any 4) := rc__law_any T 4
theorem rowD_sd {m : Nat} {R : Rows} (h : RowsOk m R) : Sd 4 500 (rowsD R) := by
  refine Sd.tuple (n := 3) (b := 42) (fun x hx => ?_) (by rw [List.length_map]; have := h.l3; omega)
  obtain ⟨r, hr, rfl⟩ := List.mem_map.mp hx
  have h1 := h.r r hr
  have h3 := h.m3
  refine Sd.tuple (n := 2) (b := 20) (all_2 ?_ Sd.bool) (by simp)
  refine (Sd.tuple (n := 1) (b := 0) (fun y hy => ?_) (by rw [List.length_map]; omega)).mono (Nat.le_refl _) (Nat.le_refl _)
  obtain ⟨i, hi, rfl⟩ := List.mem_map.mp hy
  exact Sd.int (h1.2 i hi) (by decide)
theorem all_isI {xs : List D} (h : (xs.any fun y => !isI y) = false) : ∀ y ∈ xs, ∃ i, y = .int i := fun y hy => by
  have e := (List.any_eq_false.mp h) y hy
  cases y with
  | int i => exact ⟨i, rfl⟩
  | _ => exact absurd rfl e
theorem any_isI {xs : List D} : (xs.any fun y => !isI y) = !(xs.all isI) := by
  induction xs with
  | nil => rfl
  | cons a r ih => rw [List.any_cons, List.all_cons, ih, Bool.not_and]
def sp__law_are_ints : ASp := fun ws ih Q => ∃ (x : D) (m : Nat), ws = [.d x, .d (.int m), .d .none] ∧ Sd 60 8000 x ∧ Q (.d (.bool (fNums m x))) ih
theorem g__law_are_ints (T : Ty K mg base Tb) {f : Addr} {fd : FuncData} (Fn : Fun K "_law_are_ints" "_law_are_ints" st__law_are_ints f fd) : FnG P w K mg base (SG Tb) 2 f fd ["thing", "many", "least"] sp__law_are_ints := by
  refine fnG_of Fn sc__law_are_ints ((bv_cons (sv_if (WV.tv (wv_or (tv_not (tv_val (ev_isi .tuple (ev_var 0) rfl T.b_isinstance rfl T.b_tuple bt_tuple bt_isinstance))) (wv_or (tv_cmp ov_ne (ev_callB cv_len rfl T.b_len bt_len (av_cons (ev_var 0) av_nil)) (ev_var 1)) (wv_or1 (tv_cmp ov_ne (ev_lc [("it", 3)] (iv_tup (ev_var 0)) (by show blkC ["thing", "many", "least", "it"] (defScope st__law_are_ints) _ _ = true; decide +kernel) (gw_name 3) (tvs_one (tv_not (tv_val (evc (ok__law_is_int T) (Nat.le_of_ble_eq_true rfl) rfl (av_cons (ev_var 3) av_nil))))) ev_int) (ev_lst av_nil)))))) (bv_one (sv_ret ev_bl)) bv_nil)
      (bv_one (sv_ret (ev_or (ev_cmp ov_is (ev_var 2) ev_non) (ev_one (ev_cmp ov_eq (ev_lc [("it", 3)] (iv_tup (ev_var 0)) (by show blkC ["thing", "many", "least", "it"] (defScope st__law_are_ints) _ _ = true; decide +kernel) (gw_name 3) (tvs_one (tv_cmp ov_lt (ev_var 3) (ev_var 2))) ev_int) (ev_lst av_nil)))))))) fun ws ob Qa hl h => ?_
  obtain ⟨x, m, rfl, hz, q⟩ := h
  cases x with
  | tuple xs =>
    simp only [aAnd, aAndV, aAsg, aAsgT, aBk, aC, aCB, aCall, aCallK, aChain, aCons, aCt, aDget, aDispM, aDput, aDrop, aGN, aGcons, aGnil, aGtup, aIE, aIL, aIR1, aIR2, aIT, aIZ, aIf, aIfS, aIsi, aLst, aLstM, aMt, aMt0, aNever, aNil, aNoP, aNot, aNotV, aNx, aOp, aOr, aOrV, aPar, aPar3, aRet, aRetN, aRevD, aRevM, aSeq, aSl, aSmP, aTst, aTup, aUn, aVar, aYes, xAbs, xApp, xBools, xEqB, xGcd, xI, xIc, xInt, xInts, xIs_nn, xIs_bb, xIs_bn, xIs_in, xIs_sn, xIs_tn, xIs_ln, xLen, xListOfM, xMax, xMin, xNeg, xPop, xSum, xTupleOf, optW, view, W.isFn, List.forall_mem_cons, forall_nil, asB, onRL, isRL, pick, keyOf, val_cells, val_mixed, val_draws, put_draws, allD, finD, startA, List.map_cons, List.map_nil, List.length_cons, List.length_nil, List.replicate, List.cons_append, List.nil_append, List.append_nil, List.getElem?_cons_zero, List.getElem?_cons_succ, List.set_cons_zero, List.set_cons_succ, Option.join_some, Option.map_some, List.filterMap_cons, List.filterMap_nil, List.take, Nat.sub_self, Nat.add_one_sub_one, Nat.reduceSub, Nat.reduceAdd, List.replicate_zero, isT, atI_0, atI_1, size2, size1, size3, size0, true_and, and_true, Bool.true_eq_false, Bool.false_eq_true, if_true, if_false, ite_true, ite_false, reduceIte, eq_self, ex_app, ex_app2, ite_tt, ite_ft, List.cons.injEq, W.d.injEq, PyData.int.injEq, PyData.tuple.injEq, exists_eq_left', and_assoc, exists_and_left, eqOk_int, eqD_int, eqOk_fr, eqD_fr, eqOk_str, eqD_str, id, lo_ws1, lo_ws2, lo_ws3, Bool.not_true, Bool.not_false, Bool.and_true, Bool.and_false, Bool.true_and, Bool.false_and, Bool.or_true, Bool.or_false, Bool.true_or, Bool.false_or, aCallV, aCallL, capOf, onlyD, startL, aIZB, sqD, xIn, allS, xMulB, xStr, isStrW, xUpper, aLRg1, aRevT, rowD, rowsD, exists_eq_left, aIZG, seqG, SG, wipeA, lstOf, allBm, allIm, all_id, any_id, ones_ok, ones_eqD, aDic0, xReprA, xAdd_i, xAdd_s, xAdd_t, xAdd_l, xSl_t, xSl_l, xSl_s, xSl_scr, xListOf_t, xListOf_l, xIdx_t, xIdx_l, xIdx_s, xIdx_r, xEqB]
    cases e : tupN (.tuple xs) m with
    | false =>
      have e1 : decide ((xs.length : Int) = (m : Int)) = false := e
      unfold fNums at q
      rw [e] at q
      simp only [aAnd, aAndV, aAsg, aAsgT, aBk, aC, aCB, aCall, aCallK, aChain, aCons, aCt, aDget, aDispM, aDput, aDrop, aGN, aGcons, aGnil, aGtup, aIE, aIL, aIR1, aIR2, aIT, aIZ, aIf, aIfS, aIsi, aLst, aLstM, aMt, aMt0, aNever, aNil, aNoP, aNot, aNotV, aNx, aOp, aOr, aOrV, aPar, aPar3, aRet, aRetN, aRevD, aRevM, aSeq, aSl, aSmP, aTst, aTup, aUn, aVar, aYes, xAbs, xApp, xBools, xEqB, xGcd, xI, xIc, xInt, xInts, xIs_nn, xIs_bb, xIs_bn, xIs_in, xIs_sn, xIs_tn, xIs_ln, xLen, xListOfM, xMax, xMin, xNeg, xPop, xSum, xTupleOf, optW, view, W.isFn, List.forall_mem_cons, forall_nil, asB, onRL, isRL, pick, keyOf, val_cells, val_mixed, val_draws, put_draws, allD, finD, startA, List.map_cons, List.map_nil, List.length_cons, List.length_nil, List.replicate, List.cons_append, List.nil_append, List.append_nil, List.getElem?_cons_zero, List.getElem?_cons_succ, List.set_cons_zero, List.set_cons_succ, Option.join_some, Option.map_some, List.filterMap_cons, List.filterMap_nil, List.take, Nat.sub_self, Nat.add_one_sub_one, Nat.reduceSub, Nat.reduceAdd, List.replicate_zero, isT, atI_0, atI_1, size2, size1, size3, size0, true_and, and_true, Bool.true_eq_false, Bool.false_eq_true, if_true, if_false, ite_true, ite_false, reduceIte, eq_self, ex_app, ex_app2, ite_tt, ite_ft, List.cons.injEq, W.d.injEq, PyData.int.injEq, PyData.tuple.injEq, exists_eq_left', and_assoc, exists_and_left, eqOk_int, eqD_int, eqOk_fr, eqD_fr, eqOk_str, eqD_str, id, lo_ws1, lo_ws2, lo_ws3, Bool.not_true, Bool.not_false, Bool.and_true, Bool.and_false, Bool.true_and, Bool.false_and, Bool.or_true, Bool.or_false, Bool.true_or, Bool.false_or, aCallV, aCallL, capOf, onlyD, startL, aIZB, sqD, xIn, allS, xMulB, xStr, isStrW, xUpper, aLRg1, aRevT, rowD, rowsD, exists_eq_left, aIZG, seqG, SG, wipeA, lstOf, allBm, allIm, all_id, any_id, ones_ok, ones_eqD, aDic0, xReprA, xAdd_i, xAdd_s, xAdd_t, xAdd_l, xSl_t, xSl_l, xSl_s, xSl_scr, xListOf_t, xListOf_l, xIdx_t, xIdx_l, xIdx_s, xIdx_r, e1]
      exact q
    | true =>
      have e1 : decide ((xs.length : Int) = (m : Int)) = true := e
      unfold fNums at q
      rw [e] at q
      simp only [aAnd, aAndV, aAsg, aAsgT, aBk, aC, aCB, aCall, aCallK, aChain, aCons, aCt, aDget, aDispM, aDput, aDrop, aGN, aGcons, aGnil, aGtup, aIE, aIL, aIR1, aIR2, aIT, aIZ, aIf, aIfS, aIsi, aLst, aLstM, aMt, aMt0, aNever, aNil, aNoP, aNot, aNotV, aNx, aOp, aOr, aOrV, aPar, aPar3, aRet, aRetN, aRevD, aRevM, aSeq, aSl, aSmP, aTst, aTup, aUn, aVar, aYes, xAbs, xApp, xBools, xEqB, xGcd, xI, xIc, xInt, xInts, xIs_nn, xIs_bb, xIs_bn, xIs_in, xIs_sn, xIs_tn, xIs_ln, xLen, xListOfM, xMax, xMin, xNeg, xPop, xSum, xTupleOf, optW, view, W.isFn, List.forall_mem_cons, forall_nil, asB, onRL, isRL, pick, keyOf, val_cells, val_mixed, val_draws, put_draws, allD, finD, startA, List.map_cons, List.map_nil, List.length_cons, List.length_nil, List.replicate, List.cons_append, List.nil_append, List.append_nil, List.getElem?_cons_zero, List.getElem?_cons_succ, List.set_cons_zero, List.set_cons_succ, Option.join_some, Option.map_some, List.filterMap_cons, List.filterMap_nil, List.take, Nat.sub_self, Nat.add_one_sub_one, Nat.reduceSub, Nat.reduceAdd, List.replicate_zero, isT, atI_0, atI_1, size2, size1, size3, size0, true_and, and_true, Bool.true_eq_false, Bool.false_eq_true, if_true, if_false, ite_true, ite_false, reduceIte, eq_self, ex_app, ex_app2, ite_tt, ite_ft, List.cons.injEq, W.d.injEq, PyData.int.injEq, PyData.tuple.injEq, exists_eq_left', and_assoc, exists_and_left, eqOk_int, eqD_int, eqOk_fr, eqD_fr, eqOk_str, eqD_str, id, lo_ws1, lo_ws2, lo_ws3, Bool.not_true, Bool.not_false, Bool.and_true, Bool.and_false, Bool.true_and, Bool.false_and, Bool.or_true, Bool.or_false, Bool.true_or, Bool.false_or, aCallV, aCallL, capOf, onlyD, startL, aIZB, sqD, xIn, allS, xMulB, xStr, isStrW, xUpper, aLRg1, aRevT, rowD, rowsD, exists_eq_left, aIZG, seqG, SG, wipeA, lstOf, allBm, allIm, all_id, any_id, ones_ok, ones_eqD, aDic0, xReprA, xAdd_i, xAdd_s, xAdd_t, xAdd_l, xSl_t, xSl_l, xSl_s, xSl_scr, xListOf_t, xListOf_l, xIdx_t, xIdx_l, xIdx_s, xIdx_r, e1]
      refine lc_countL xs id (fun y => !isI y) (fun R hR => by rw [List.map_id] at hR; exact hR) (len_le hz (Nat.le_refl _)) (fun a ha K1 hK => ?_) ?_
      · simp only [aAnd, aAndV, aAsg, aAsgT, aBk, aC, aCB, aCall, aCallK, aChain, aCons, aCt, aDget, aDispM, aDput, aDrop, aGN, aGcons, aGnil, aGtup, aIE, aIL, aIR1, aIR2, aIT, aIZ, aIf, aIfS, aIsi, aLst, aLstM, aMt, aMt0, aNever, aNil, aNoP, aNot, aNotV, aNx, aOp, aOr, aOrV, aPar, aPar3, aRet, aRetN, aRevD, aRevM, aSeq, aSl, aSmP, aTst, aTup, aUn, aVar, aYes, xAbs, xApp, xBools, xEqB, xGcd, xI, xIc, xInt, xInts, xIs_nn, xIs_bb, xIs_bn, xIs_in, xIs_sn, xIs_tn, xIs_ln, xLen, xListOfM, xMax, xMin, xNeg, xPop, xSum, xTupleOf, optW, view, W.isFn, List.forall_mem_cons, forall_nil, asB, onRL, isRL, pick, keyOf, val_cells, val_mixed, val_draws, put_draws, allD, finD, startA, List.map_cons, List.map_nil, List.length_cons, List.length_nil, List.replicate, List.cons_append, List.nil_append, List.append_nil, List.getElem?_cons_zero, List.getElem?_cons_succ, List.set_cons_zero, List.set_cons_succ, Option.join_some, Option.map_some, List.filterMap_cons, List.filterMap_nil, List.take, Nat.sub_self, Nat.add_one_sub_one, Nat.reduceSub, Nat.reduceAdd, List.replicate_zero, isT, atI_0, atI_1, size2, size1, size3, size0, true_and, and_true, Bool.true_eq_false, Bool.false_eq_true, if_true, if_false, ite_true, ite_false, reduceIte, eq_self, ex_app, ex_app2, ite_tt, ite_ft, List.cons.injEq, W.d.injEq, PyData.int.injEq, PyData.tuple.injEq, exists_eq_left', and_assoc, exists_and_left, eqOk_int, eqD_int, eqOk_fr, eqD_fr, eqOk_str, eqD_str, id, lo_ws1, lo_ws2, lo_ws3, Bool.not_true, Bool.not_false, Bool.and_true, Bool.and_false, Bool.true_and, Bool.false_and, Bool.or_true, Bool.or_false, Bool.true_or, Bool.false_or, aCallV, aCallL, capOf, onlyD, startL, aIZB, sqD, xIn, allS, xMulB, xStr, isStrW, xUpper, aLRg1, aRevT, rowD, rowsD, exists_eq_left, aIZG, seqG, SG, wipeA, lstOf, allBm, allIm, all_id, any_id, ones_ok, ones_eqD, aDic0, xReprA, xAdd_i, xAdd_s, xAdd_t, xAdd_l, xSl_t, xSl_l, xSl_s, xSl_scr, xListOf_t, xListOf_l, xIdx_t, xIdx_l, xIdx_s, xIdx_r, sp__law_is_int]
        exact hK
      · simp only [aAnd, aAndV, aAsg, aAsgT, aBk, aC, aCB, aCall, aCallK, aChain, aCons, aCt, aDget, aDispM, aDput, aDrop, aGN, aGcons, aGnil, aGtup, aIE, aIL, aIR1, aIR2, aIT, aIZ, aIf, aIfS, aIsi, aLst, aLstM, aMt, aMt0, aNever, aNil, aNoP, aNot, aNotV, aNx, aOp, aOr, aOrV, aPar, aPar3, aRet, aRetN, aRevD, aRevM, aSeq, aSl, aSmP, aTst, aTup, aUn, aVar, aYes, xAbs, xApp, xBools, xEqB, xGcd, xI, xIc, xInt, xInts, xIs_nn, xIs_bb, xIs_bn, xIs_in, xIs_sn, xIs_tn, xIs_ln, xLen, xListOfM, xMax, xMin, xNeg, xPop, xSum, xTupleOf, optW, view, W.isFn, List.forall_mem_cons, forall_nil, asB, onRL, isRL, pick, keyOf, val_cells, val_mixed, val_draws, put_draws, allD, finD, startA, List.map_cons, List.map_nil, List.length_cons, List.length_nil, List.replicate, List.cons_append, List.nil_append, List.append_nil, List.getElem?_cons_zero, List.getElem?_cons_succ, List.set_cons_zero, List.set_cons_succ, Option.join_some, Option.map_some, List.filterMap_cons, List.filterMap_nil, List.take, Nat.sub_self, Nat.add_one_sub_one, Nat.reduceSub, Nat.reduceAdd, List.replicate_zero, isT, atI_0, atI_1, size2, size1, size3, size0, true_and, and_true, Bool.true_eq_false, Bool.false_eq_true, if_true, if_false, ite_true, ite_false, reduceIte, eq_self, ex_app, ex_app2, ite_tt, ite_ft, List.cons.injEq, W.d.injEq, PyData.int.injEq, PyData.tuple.injEq, exists_eq_left', and_assoc, exists_and_left, eqOk_int, eqD_int, eqOk_fr, eqD_fr, eqOk_str, eqD_str, id, lo_ws1, lo_ws2, lo_ws3, Bool.not_true, Bool.not_false, Bool.and_true, Bool.and_false, Bool.true_and, Bool.false_and, Bool.or_true, Bool.or_false, Bool.true_or, Bool.false_or, aCallV, aCallL, capOf, onlyD, startL, aIZB, sqD, xIn, allS, xMulB, xStr, isStrW, xUpper, aLRg1, aRevT, rowD, rowsD, exists_eq_left, aIZG, seqG, SG, wipeA, lstOf, allBm, allIm, all_id, any_id, ones_ok, ones_eqD, aDic0, xReprA, xAdd_i, xAdd_s, xAdd_t, xAdd_l, xSl_t, xSl_l, xSl_s, xSl_scr, xListOf_t, xListOf_l, xIdx_t, xIdx_l, xIdx_s, xIdx_r, xEqB, filt_any, any_isI]
        have q : Qa (.d (.bool (xs.all isI))) ob := q
        cases e3 : xs.all isI with
        | true =>
          rw [e3] at q
          simp only [aAnd, aAndV, aAsg, aAsgT, aBk, aC, aCB, aCall, aCallK, aChain, aCons, aCt, aDget, aDispM, aDput, aDrop, aGN, aGcons, aGnil, aGtup, aIE, aIL, aIR1, aIR2, aIT, aIZ, aIf, aIfS, aIsi, aLst, aLstM, aMt, aMt0, aNever, aNil, aNoP, aNot, aNotV, aNx, aOp, aOr, aOrV, aPar, aPar3, aRet, aRetN, aRevD, aRevM, aSeq, aSl, aSmP, aTst, aTup, aUn, aVar, aYes, xAbs, xApp, xBools, xEqB, xGcd, xI, xIc, xInt, xInts, xIs_nn, xIs_bb, xIs_bn, xIs_in, xIs_sn, xIs_tn, xIs_ln, xLen, xListOfM, xMax, xMin, xNeg, xPop, xSum, xTupleOf, optW, view, W.isFn, List.forall_mem_cons, forall_nil, asB, onRL, isRL, pick, keyOf, val_cells, val_mixed, val_draws, put_draws, allD, finD, startA, List.map_cons, List.map_nil, List.length_cons, List.length_nil, List.replicate, List.cons_append, List.nil_append, List.append_nil, List.getElem?_cons_zero, List.getElem?_cons_succ, List.set_cons_zero, List.set_cons_succ, Option.join_some, Option.map_some, List.filterMap_cons, List.filterMap_nil, List.take, Nat.sub_self, Nat.add_one_sub_one, Nat.reduceSub, Nat.reduceAdd, List.replicate_zero, isT, atI_0, atI_1, size2, size1, size3, size0, true_and, and_true, Bool.true_eq_false, Bool.false_eq_true, if_true, if_false, ite_true, ite_false, reduceIte, eq_self, ex_app, ex_app2, ite_tt, ite_ft, List.cons.injEq, W.d.injEq, PyData.int.injEq, PyData.tuple.injEq, exists_eq_left', and_assoc, exists_and_left, eqOk_int, eqD_int, eqOk_fr, eqD_fr, eqOk_str, eqD_str, id, lo_ws1, lo_ws2, lo_ws3, Bool.not_true, Bool.not_false, Bool.and_true, Bool.and_false, Bool.true_and, Bool.false_and, Bool.or_true, Bool.or_false, Bool.true_or, Bool.false_or, aCallV, aCallL, capOf, onlyD, startL, aIZB, sqD, xIn, allS, xMulB, xStr, isStrW, xUpper, aLRg1, aRevT, rowD, rowsD, exists_eq_left, aIZG, seqG, SG, wipeA, lstOf, allBm, allIm, all_id, any_id, ones_ok, ones_eqD, aDic0, xReprA, xAdd_i, xAdd_s, xAdd_t, xAdd_l, xSl_t, xSl_l, xSl_s, xSl_scr, xListOf_t, xListOf_l, xIdx_t, xIdx_l, xIdx_s, xIdx_r]
          exact q
        | false =>
          rw [e3] at q
          simp only [aAnd, aAndV, aAsg, aAsgT, aBk, aC, aCB, aCall, aCallK, aChain, aCons, aCt, aDget, aDispM, aDput, aDrop, aGN, aGcons, aGnil, aGtup, aIE, aIL, aIR1, aIR2, aIT, aIZ, aIf, aIfS, aIsi, aLst, aLstM, aMt, aMt0, aNever, aNil, aNoP, aNot, aNotV, aNx, aOp, aOr, aOrV, aPar, aPar3, aRet, aRetN, aRevD, aRevM, aSeq, aSl, aSmP, aTst, aTup, aUn, aVar, aYes, xAbs, xApp, xBools, xEqB, xGcd, xI, xIc, xInt, xInts, xIs_nn, xIs_bb, xIs_bn, xIs_in, xIs_sn, xIs_tn, xIs_ln, xLen, xListOfM, xMax, xMin, xNeg, xPop, xSum, xTupleOf, optW, view, W.isFn, List.forall_mem_cons, forall_nil, asB, onRL, isRL, pick, keyOf, val_cells, val_mixed, val_draws, put_draws, allD, finD, startA, List.map_cons, List.map_nil, List.length_cons, List.length_nil, List.replicate, List.cons_append, List.nil_append, List.append_nil, List.getElem?_cons_zero, List.getElem?_cons_succ, List.set_cons_zero, List.set_cons_succ, Option.join_some, Option.map_some, List.filterMap_cons, List.filterMap_nil, List.take, Nat.sub_self, Nat.add_one_sub_one, Nat.reduceSub, Nat.reduceAdd, List.replicate_zero, isT, atI_0, atI_1, size2, size1, size3, size0, true_and, and_true, Bool.true_eq_false, Bool.false_eq_true, if_true, if_false, ite_true, ite_false, reduceIte, eq_self, ex_app, ex_app2, ite_tt, ite_ft, List.cons.injEq, W.d.injEq, PyData.int.injEq, PyData.tuple.injEq, exists_eq_left', and_assoc, exists_and_left, eqOk_int, eqD_int, eqOk_fr, eqD_fr, eqOk_str, eqD_str, id, lo_ws1, lo_ws2, lo_ws3, Bool.not_true, Bool.not_false, Bool.and_true, Bool.and_false, Bool.true_and, Bool.false_and, Bool.or_true, Bool.or_false, Bool.true_or, Bool.false_or, aCallV, aCallL, capOf, onlyD, startL, aIZB, sqD, xIn, allS, xMulB, xStr, isStrW, xUpper, aLRg1, aRevT, rowD, rowsD, exists_eq_left, aIZG, seqG, SG, wipeA, lstOf, allBm, allIm, all_id, any_id, ones_ok, ones_eqD, aDic0, xReprA, xAdd_i, xAdd_s, xAdd_t, xAdd_l, xSl_t, xSl_l, xSl_s, xSl_scr, xListOf_t, xListOf_l, xIdx_t, xIdx_l, xIdx_s, xIdx_r]
          exact q
  | _ => simp only [aAnd, aAndV, aAsg, aAsgT, aBk, aC, aCB, aCall, aCallK, aChain, aCons, aCt, aDget, aDispM, aDput, aDrop, aGN, aGcons, aGnil, aGtup, aIE, aIL, aIR1, aIR2, aIT, aIZ, aIf, aIfS, aIsi, aLst, aLstM, aMt, aMt0, aNever, aNil, aNoP, aNot, aNotV, aNx, aOp, aOr, aOrV, aPar, aPar3, aRet, aRetN, aRevD, aRevM, aSeq, aSl, aSmP, aTst, aTup, aUn, aVar, aYes, xAbs, xApp, xBools, xEqB, xGcd, xI, xIc, xInt, xInts, xIs_nn, xIs_bb, xIs_bn, xIs_in, xIs_sn, xIs_tn, xIs_ln, xLen, xListOfM, xMax, xMin, xNeg, xPop, xSum, xTupleOf, optW, view, W.isFn, List.forall_mem_cons, forall_nil, asB, onRL, isRL, pick, keyOf, val_cells, val_mixed, val_draws, put_draws, allD, finD, startA, List.map_cons, List.map_nil, List.length_cons, List.length_nil, List.replicate, List.cons_append, List.nil_append, List.append_nil, List.getElem?_cons_zero, List.getElem?_cons_succ, List.set_cons_zero, List.set_cons_succ, Option.join_some, Option.map_some, List.filterMap_cons, List.filterMap_nil, List.take, Nat.sub_self, Nat.add_one_sub_one, Nat.reduceSub, Nat.reduceAdd, List.replicate_zero, isT, atI_0, atI_1, size2, size1, size3, size0, true_and, and_true, Bool.true_eq_false, Bool.false_eq_true, if_true, if_false, ite_true, ite_false, reduceIte, eq_self, ex_app, ex_app2, ite_tt, ite_ft, List.cons.injEq, W.d.injEq, PyData.int.injEq, PyData.tuple.injEq, exists_eq_left', and_assoc, exists_and_left, eqOk_int, eqD_int, eqOk_fr, eqD_fr, eqOk_str, eqD_str, id, lo_ws1, lo_ws2, lo_ws3, Bool.not_true, Bool.not_false, Bool.and_true, Bool.and_false, Bool.true_and, Bool.false_and, Bool.or_true, Bool.or_false, Bool.true_or, Bool.false_or, aCallV, aCallL, capOf, onlyD, startL, aIZB, sqD, xIn, allS, xMulB, xStr, isStrW, xUpper, aLRg1, aRevT, rowD, rowsD, exists_eq_left, aIZG, seqG, SG, wipeA, lstOf, allBm, allIm, all_id, any_id, ones_ok, ones_eqD, aDic0, xReprA, xAdd_i, xAdd_s, xAdd_t, xAdd_l, xSl_t, xSl_l, xSl_s, xSl_scr, xListOf_t, xListOf_l, xIdx_t, xIdx_l, xIdx_s, xIdx_r]; exact q
theorem ok__law_are_ints (T : Ty K mg base Tb) : Fdf P w K mg base (SG Tb) 2 "_law_are_ints" ["thing", "many", "least"] [] sp__law_are_ints := T.d__law_are_ints.fd fun f fd Fn => g__law_are_ints T Fn
def sp__law_sum_of : ASp := fun ws ih Q => ∃ (s : D) (a b : List Int), ws = [.d s, .d (.tuple (b.map .int))] ∧ (s = .list (a.map .int) ∨ s = .tuple (a.map .int)) ∧ a.length ≤ 1000 ∧ (∀ i ∈ a, Sm i) ∧ (∀ i ∈ b, Sm i) ∧ Q (.d (.int (dot a b))) ih
theorem g__law_sum_of (T : Ty K mg base Tb) {f : Addr} {fd : FuncData} (Fn : Fun K "_law_sum_of" "_law_sum_of" st__law_sum_of f fd) : FnG P w K mg base (SG Tb) 1 f fd ["numbers", "point"] sp__law_sum_of := by
  refine fnG_of Fn sc__law_sum_of ((bv_one (sv_ret (ev_callB cv_sum rfl T.b_sum bt_sum (av_cons (ev_lc [("one", 2), ("other", 3)] (iv_zipB (av_cons (ev_var 0) (av_cons (ev_var 1) av_nil)) rfl T.b_zip) (by show blkC ["numbers", "point", "one", "other"] (defScope st__law_sum_of) _ _ = true; decide +kernel) (gw_tup (n := 2) (gws_cons (gw_name 2) (gws_cons (gw_name 3) gws_nil))) tvs_nil (ev_op ov_mul (ev_var 2) (ev_var 3))) av_nil))))) fun ws ob Qa hl h => ?_
  obtain ⟨s, a, b, rfl, hs, hla, ha, hb, q⟩ := h
  clear hl
  rcases hs with rfl | rfl
  all_goals
    simp only [aAnd, aAndV, aAsg, aAsgT, aBk, aC, aCB, aCall, aCallK, aChain, aCons, aCt, aDget, aDispM, aDput, aDrop, aGN, aGcons, aGnil, aGtup, aIE, aIL, aIR1, aIR2, aIT, aIZ, aIf, aIfS, aIsi, aLst, aLstM, aMt, aMt0, aNever, aNil, aNoP, aNot, aNotV, aNx, aOp, aOr, aOrV, aPar, aPar3, aRet, aRetN, aRevD, aRevM, aSeq, aSl, aSmP, aTst, aTup, aUn, aVar, aYes, xAbs, xApp, xBools, xEqB, xGcd, xI, xIc, xInt, xInts, xIs_nn, xIs_bb, xIs_bn, xIs_in, xIs_sn, xIs_tn, xIs_ln, xLen, xListOfM, xMax, xMin, xNeg, xPop, xSum, xTupleOf, optW, view, W.isFn, List.forall_mem_cons, forall_nil, asB, onRL, isRL, pick, keyOf, val_cells, val_mixed, val_draws, put_draws, allD, finD, startA, List.map_cons, List.map_nil, List.length_cons, List.length_nil, List.replicate, List.cons_append, List.nil_append, List.append_nil, List.getElem?_cons_zero, List.getElem?_cons_succ, List.set_cons_zero, List.set_cons_succ, Option.join_some, Option.map_some, List.filterMap_cons, List.filterMap_nil, List.take, Nat.sub_self, Nat.add_one_sub_one, Nat.reduceSub, Nat.reduceAdd, List.replicate_zero, isT, atI_0, atI_1, size2, size1, size3, size0, true_and, and_true, Bool.true_eq_false, Bool.false_eq_true, if_true, if_false, ite_true, ite_false, reduceIte, eq_self, ex_app, ex_app2, ite_tt, ite_ft, List.cons.injEq, W.d.injEq, PyData.int.injEq, PyData.tuple.injEq, exists_eq_left', and_assoc, exists_and_left, eqOk_int, eqD_int, eqOk_fr, eqD_fr, eqOk_str, eqD_str, id, lo_ws1, lo_ws2, lo_ws3, Bool.not_true, Bool.not_false, Bool.and_true, Bool.and_false, Bool.true_and, Bool.false_and, Bool.or_true, Bool.or_false, Bool.true_or, Bool.false_or, aCallV, aCallL, capOf, onlyD, startL, aIZB, sqD, xIn, allS, xMulB, xStr, isStrW, xUpper, aLRg1, aRevT, rowD, rowsD, exists_eq_left, aIZG, seqG, SG, wipeA, lstOf, allBm, allIm, all_id, any_id, ones_ok, ones_eqD, aDic0, xReprA, xAdd_i, xAdd_s, xAdd_t, xAdd_l, xSl_t, xSl_l, xSl_s, xSl_scr, xListOf_t, xListOf_l, xIdx_t, xIdx_l, xIdx_s, xIdx_r]
    refine lc_mapL (a.zip b) (fun p => .tuple [.int p.1, .int p.2]) (fun p => .int (p.1 * p.2)) (fun R hR => ?_) (by rw [List.length_zip]; exact Nat.le_trans (Nat.min_le_left _ _) (Nat.le_trans hla (by decide))) (fun p hp K1 hK => ?_) ?_
    · simp only [aAnd, aAndV, aAsg, aAsgT, aBk, aC, aCB, aCall, aCallK, aChain, aCons, aCt, aDget, aDispM, aDput, aDrop, aGN, aGcons, aGnil, aGtup, aIE, aIL, aIR1, aIR2, aIT, aIZ, aIf, aIfS, aIsi, aLst, aLstM, aMt, aMt0, aNever, aNil, aNoP, aNot, aNotV, aNx, aOp, aOr, aOrV, aPar, aPar3, aRet, aRetN, aRevD, aRevM, aSeq, aSl, aSmP, aTst, aTup, aUn, aVar, aYes, xAbs, xApp, xBools, xEqB, xGcd, xI, xIc, xInt, xInts, xIs_nn, xIs_bb, xIs_bn, xIs_in, xIs_sn, xIs_tn, xIs_ln, xLen, xListOfM, xMax, xMin, xNeg, xPop, xSum, xTupleOf, optW, view, W.isFn, List.forall_mem_cons, forall_nil, asB, onRL, isRL, pick, keyOf, val_cells, val_mixed, val_draws, put_draws, allD, finD, startA, List.map_cons, List.map_nil, List.length_cons, List.length_nil, List.replicate, List.cons_append, List.nil_append, List.append_nil, List.getElem?_cons_zero, List.getElem?_cons_succ, List.set_cons_zero, List.set_cons_succ, Option.join_some, Option.map_some, List.filterMap_cons, List.filterMap_nil, List.take, Nat.sub_self, Nat.add_one_sub_one, Nat.reduceSub, Nat.reduceAdd, List.replicate_zero, isT, atI_0, atI_1, size2, size1, size3, size0, true_and, and_true, Bool.true_eq_false, Bool.false_eq_true, if_true, if_false, ite_true, ite_false, reduceIte, eq_self, ex_app, ex_app2, ite_tt, ite_ft, List.cons.injEq, W.d.injEq, PyData.int.injEq, PyData.tuple.injEq, exists_eq_left', and_assoc, exists_and_left, eqOk_int, eqD_int, eqOk_fr, eqD_fr, eqOk_str, eqD_str, id, lo_ws1, lo_ws2, lo_ws3, Bool.not_true, Bool.not_false, Bool.and_true, Bool.and_false, Bool.true_and, Bool.false_and, Bool.or_true, Bool.or_false, Bool.true_or, Bool.false_or, aCallV, aCallL, capOf, onlyD, startL, aIZB, sqD, xIn, allS, xMulB, xStr, isStrW, xUpper, aLRg1, aRevT, rowD, rowsD, exists_eq_left, aIZG, seqG, SG, wipeA, lstOf, allBm, allIm, all_id, any_id, ones_ok, ones_eqD, aDic0, xReprA, xAdd_i, xAdd_s, xAdd_t, xAdd_l, xSl_t, xSl_l, xSl_s, xSl_scr, xListOf_t, xListOf_l, xIdx_t, xIdx_l, xIdx_s, xIdx_r, zipD_map]
      exact hR
    · simp only [aAnd, aAndV, aAsg, aAsgT, aBk, aC, aCB, aCall, aCallK, aChain, aCons, aCt, aDget, aDispM, aDput, aDrop, aGN, aGcons, aGnil, aGtup, aIE, aIL, aIR1, aIR2, aIT, aIZ, aIf, aIfS, aIsi, aLst, aLstM, aMt, aMt0, aNever, aNil, aNoP, aNot, aNotV, aNx, aOp, aOr, aOrV, aPar, aPar3, aRet, aRetN, aRevD, aRevM, aSeq, aSl, aSmP, aTst, aTup, aUn, aVar, aYes, xAbs, xApp, xBools, xEqB, xGcd, xI, xIc, xInt, xInts, xIs_nn, xIs_bb, xIs_bn, xIs_in, xIs_sn, xIs_tn, xIs_ln, xLen, xListOfM, xMax, xMin, xNeg, xPop, xSum, xTupleOf, optW, view, W.isFn, List.forall_mem_cons, forall_nil, asB, onRL, isRL, pick, keyOf, val_cells, val_mixed, val_draws, put_draws, allD, finD, startA, List.map_cons, List.map_nil, List.length_cons, List.length_nil, List.replicate, List.cons_append, List.nil_append, List.append_nil, List.getElem?_cons_zero, List.getElem?_cons_succ, List.set_cons_zero, List.set_cons_succ, Option.join_some, Option.map_some, List.filterMap_cons, List.filterMap_nil, List.take, Nat.sub_self, Nat.add_one_sub_one, Nat.reduceSub, Nat.reduceAdd, List.replicate_zero, isT, atI_0, atI_1, size2, size1, size3, size0, true_and, and_true, Bool.true_eq_false, Bool.false_eq_true, if_true, if_false, ite_true, ite_false, reduceIte, eq_self, ex_app, ex_app2, ite_tt, ite_ft, List.cons.injEq, W.d.injEq, PyData.int.injEq, PyData.tuple.injEq, exists_eq_left', and_assoc, exists_and_left, eqOk_int, eqD_int, eqOk_fr, eqD_fr, eqOk_str, eqD_str, id, lo_ws1, lo_ws2, lo_ws3, Bool.not_true, Bool.not_false, Bool.and_true, Bool.and_false, Bool.true_and, Bool.false_and, Bool.or_true, Bool.or_false, Bool.true_or, Bool.false_or, aCallV, aCallL, capOf, onlyD, startL, aIZB, sqD, xIn, allS, xMulB, xStr, isStrW, xUpper, aLRg1, aRevT, rowD, rowsD, exists_eq_left, aIZG, seqG, SG, wipeA, lstOf, allBm, allIm, all_id, any_id, ones_ok, ones_eqD, aDic0, xReprA, xAdd_i, xAdd_s, xAdd_t, xAdd_l, xSl_t, xSl_l, xSl_s, xSl_scr, xListOf_t, xListOf_l, xIdx_t, xIdx_l, xIdx_s, xIdx_r]
      exact ⟨(ha _ (mem_zip hp).1).cmul (hb _ (mem_zip hp).2), hK⟩
    · simp only [aAnd, aAndV, aAsg, aAsgT, aBk, aC, aCB, aCall, aCallK, aChain, aCons, aCt, aDget, aDispM, aDput, aDrop, aGN, aGcons, aGnil, aGtup, aIE, aIL, aIR1, aIR2, aIT, aIZ, aIf, aIfS, aIsi, aLst, aLstM, aMt, aMt0, aNever, aNil, aNoP, aNot, aNotV, aNx, aOp, aOr, aOrV, aPar, aPar3, aRet, aRetN, aRevD, aRevM, aSeq, aSl, aSmP, aTst, aTup, aUn, aVar, aYes, xAbs, xApp, xBools, xEqB, xGcd, xI, xIc, xInt, xInts, xIs_nn, xIs_bb, xIs_bn, xIs_in, xIs_sn, xIs_tn, xIs_ln, xLen, xListOfM, xMax, xMin, xNeg, xPop, xSum, xTupleOf, optW, view, W.isFn, List.forall_mem_cons, forall_nil, asB, onRL, isRL, pick, keyOf, val_cells, val_mixed, val_draws, put_draws, allD, finD, startA, List.map_cons, List.map_nil, List.length_cons, List.length_nil, List.replicate, List.cons_append, List.nil_append, List.append_nil, List.getElem?_cons_zero, List.getElem?_cons_succ, List.set_cons_zero, List.set_cons_succ, Option.join_some, Option.map_some, List.filterMap_cons, List.filterMap_nil, List.take, Nat.sub_self, Nat.add_one_sub_one, Nat.reduceSub, Nat.reduceAdd, List.replicate_zero, isT, atI_0, atI_1, size2, size1, size3, size0, true_and, and_true, Bool.true_eq_false, Bool.false_eq_true, if_true, if_false, ite_true, ite_false, reduceIte, eq_self, ex_app, ex_app2, ite_tt, ite_ft, List.cons.injEq, W.d.injEq, PyData.int.injEq, PyData.tuple.injEq, exists_eq_left', and_assoc, exists_and_left, eqOk_int, eqD_int, eqOk_fr, eqD_fr, eqOk_str, eqD_str, id, lo_ws1, lo_ws2, lo_ws3, Bool.not_true, Bool.not_false, Bool.and_true, Bool.and_false, Bool.true_and, Bool.false_and, Bool.or_true, Bool.or_false, Bool.true_or, Bool.false_or, aCallV, aCallL, capOf, onlyD, startL, aIZB, sqD, xIn, allS, xMulB, xStr, isStrW, xUpper, aLRg1, aRevT, rowD, rowsD, exists_eq_left, aIZG, seqG, SG, wipeA, lstOf, allBm, allIm, all_id, any_id, ones_ok, ones_eqD, aDic0, xReprA, xAdd_i, xAdd_s, xAdd_t, xAdd_l, xSl_t, xSl_l, xSl_s, xSl_scr, xListOf_t, xListOf_l, xIdx_t, xIdx_l, xIdx_s, xIdx_r]
      exact q
theorem ok__law_sum_of (T : Ty K mg base Tb) : Fdf P w K mg base (SG Tb) 1 "_law_sum_of" ["numbers", "point"] [] sp__law_sum_of := T.d__law_sum_of.fd fun f fd Fn => g__law_sum_of T Fn
def iv_nums (m : Nat) (most w : Int) (n b : Nat) (r : IH) : Nat → En → IH → Prop := fun i env ih => ∃ (acc : List Int) (x y : Option W), env = [some (.ref 2), some (.d (.int m)), some (.d (.int most)), some (.d (.int w)), some (.ref n), x, y] ∧ acc.length = i ∧ (∀ k ∈ acc, Bd 20 k) ∧ Dk ([.tab "are_rows.<locals>.<lambda>"] : IH) (b + 2 * i) (r ++ [.lst (acc.map fun k => .d (.int k))]) ih
def md_nums (m : Nat) (most w : Int) (n b : Nat) (r : IH) (acc : List Int) : En → IH → Prop := fun env ih => ∃ (x : Option W) (k : Int), env = [some (.ref 2), some (.d (.int m)), some (.d (.int most)), some (.d (.int w)), some (.ref n), x, some (.d (.int k))] ∧ Bd 20 k ∧ Dk ([.tab "are_rows.<locals>.<lambda>"] : IH) (b + 2 * acc.length + 1) (r ++ [.lst (acc.map fun k => .d (.int k))]) ih
def sp__law_numbers : ASp := fun ws ih Q => ∃ (m : Nat) (most : Int) (b : Nat) (r : IH), ws = [.ref 2, .d (.int m), .d (.int most)] ∧ Dk ([.tab "are_rows.<locals>.<lambda>"] : IH) b r ih ∧ b ≤ 900000 ∧ m ≤ 100 ∧ 1 ≤ most ∧ most ≤ 1000000 ∧
  ∀ (ns : List Int) (ih2 : IH), ns.length = m → (∀ i ∈ ns, Bd 20 i) → Dk ([.tab "are_rows.<locals>.<lambda>"] : IH) (b + 1000) r ih2 → Q (.d (.list (ns.map .int))) ih2
theorem g__law_numbers (T : Ty K mg base Tb) {f : Addr} {fd : FuncData} (Fn : Fun K "_law_numbers" "_law_numbers" st__law_numbers f fd) : FnG P w K mg base (SG Tb) 2 f fd ["deck", "many", "most"] sp__law_numbers := by
  refine fnG_ofT Fn sc__law_numbers ((bv_cons (sv_par 3 4 (av_cons (evc (ok__law_draw T) (Nat.le_of_ble_eq_true rfl) rfl (av_cons (ev_var 0) (av_cons ev_int av_nil))) (av_cons (ev_lstM av_nil) av_nil)) (hw := fun env h => by cases env; subst h; rfl))
      (bv_cons (sv_for (iv_range1 (av_cons (ev_var 1) av_nil) rfl T.b_range) (GW.gv (vs := [5]) (gw_name 5)) (bv_cons (sv_set 6 (ev_ifE (tv_cmp ov_lt (ev_var 3) ev_int) (ev_op ov_sub (evc (ok__law_draw T) (Nat.le_of_ble_eq_true rfl) rfl (av_cons (ev_var 0) (av_cons ev_int av_nil))) ev_int) (ev_op ov_sub (evc (ok__law_draw T) (Nat.le_of_ble_eq_true rfl) rfl (av_cons (ev_var 0) (av_cons (ev_op ov_add (ev_op ov_mul ev_int (ev_var 2)) ev_int) av_nil))) (ev_var 2))))
      (bv_one (sv_expr (ev_mt F.plainAttrs_list F.slot_list_append F.type_list_append mv_app (ev_var 4) (av_cons (ev_ifE (WV.tv (wv_and (tv_cmp ov_eq (ev_op ov_mod (ev_var 3) ev_int) ev_int) (wv_and1 (tv_cmp ov_eq (evc (ok__law_draw T) (Nat.le_of_ble_eq_true rfl) rfl (av_cons (ev_var 0) (av_cons ev_int av_nil))) ev_int)))) ev_int (ev_var 6)) av_nil))))))
      (bv_one (sv_ret (ev_var 4)))))) fun ws ob Qa hl h => ?_
  obtain ⟨m, most, b, r, rfl, hd, hb, hm, o1, o2, q⟩ := h
  have hlen := hd.len
  refine sq ?_
  simp only [aAnd, aAndV, aAsg, aAsgT, aBk, aC, aCB, aCall, aCallK, aChain, aCons, aCt, aDget, aDispM, aDput, aDrop, aGN, aGcons, aGnil, aGtup, aIE, aIL, aIR1, aIR2, aIT, aIZ, aIf, aIfS, aIsi, aLst, aLstM, aMt, aMt0, aNever, aNil, aNoP, aNot, aNotV, aNx, aOp, aOr, aOrV, aPar, aPar3, aRet, aRetN, aRevD, aRevM, aSl, aSmP, aTst, aTup, aUn, aVar, aYes, xAbs, xApp, xBools, xEqB, xGcd, xI, xIc, xInt, xInts, xIs_nn, xIs_bb, xIs_bn, xIs_in, xIs_sn, xIs_tn, xIs_ln, xLen, xListOfM, xMax, xMin, xNeg, xPop, xSum, xTupleOf, optW, view, W.isFn, List.forall_mem_cons, forall_nil, asB, onRL, isRL, pick, keyOf, val_cells, val_mixed, val_draws, put_draws, allD, finD, startA, List.map_cons, List.map_nil, List.length_cons, List.length_nil, List.replicate, List.cons_append, List.nil_append, List.append_nil, List.getElem?_cons_zero, List.getElem?_cons_succ, List.set_cons_zero, List.set_cons_succ, Option.join_some, Option.map_some, List.filterMap_cons, List.filterMap_nil, List.take, Nat.sub_self, Nat.add_one_sub_one, Nat.reduceSub, Nat.reduceAdd, List.replicate_zero, isT, atI_0, atI_1, size2, size1, size3, size0, true_and, and_true, Bool.true_eq_false, Bool.false_eq_true, if_true, if_false, ite_true, ite_false, reduceIte, eq_self, ex_app, ex_app2, ite_tt, ite_ft, List.cons.injEq, W.d.injEq, PyData.int.injEq, PyData.tuple.injEq, exists_eq_left', and_assoc, exists_and_left, eqOk_int, eqD_int, eqOk_fr, eqD_fr, eqOk_str, eqD_str, id, lo_ws1, lo_ws2, lo_ws3, Bool.not_true, Bool.not_false, Bool.and_true, Bool.and_false, Bool.true_and, Bool.false_and, Bool.or_true, Bool.or_false, Bool.true_or, Bool.false_or, aCallV, aCallL, capOf, onlyD, startL, aIZB, sqD, xIn, allS, xMulB, xStr, isStrW, xUpper, aLRg1, aRevT, rowD, rowsD, exists_eq_left, aIZG, seqG, SG, wipeA, lstOf, allBm, allIm, all_id, any_id, ones_ok, ones_eqD, aDic0, xReprA, xAdd_i, xAdd_s, xAdd_t, xAdd_l, xSl_t, xSl_l, xSl_s, xSl_scr, xListOf_t, xListOf_l, xIdx_t, xIdx_l, xIdx_s, xIdx_r, sp__law_draw]
  refine ⟨b, r, hd, by omega, by decide, by decide, fun w ih2 w0 w1 hd2 => ?_⟩
  have hlen2 := hd2.len
  refine sq ?_
  simp only [aAnd, aAndV, aAsg, aAsgT, aBk, aC, aCB, aCall, aCallK, aChain, aCons, aCt, aDget, aDispM, aDput, aDrop, aGN, aGcons, aGnil, aGtup, aIE, aIL, aIR1, aIR2, aIT, aIZ, aIf, aIfS, aIsi, aLst, aLstM, aMt, aMt0, aNever, aNil, aNoP, aNot, aNotV, aNx, aOp, aOr, aOrV, aPar, aPar3, aRet, aRetN, aRevD, aRevM, aSl, aSmP, aTst, aTup, aUn, aVar, aYes, xAbs, xApp, xBools, xEqB, xGcd, xI, xIc, xInt, xInts, xIs_nn, xIs_bb, xIs_bn, xIs_in, xIs_sn, xIs_tn, xIs_ln, xLen, xListOfM, xMax, xMin, xNeg, xPop, xSum, xTupleOf, optW, view, W.isFn, List.forall_mem_cons, forall_nil, asB, onRL, isRL, pick, keyOf, val_cells, val_mixed, val_draws, put_draws, allD, finD, startA, List.map_cons, List.map_nil, List.length_cons, List.length_nil, List.replicate, List.cons_append, List.nil_append, List.append_nil, List.getElem?_cons_zero, List.getElem?_cons_succ, List.set_cons_zero, List.set_cons_succ, Option.join_some, Option.map_some, List.filterMap_cons, List.filterMap_nil, List.take, Nat.sub_self, Nat.add_one_sub_one, Nat.reduceSub, Nat.reduceAdd, List.replicate_zero, isT, atI_0, atI_1, size2, size1, size3, size0, true_and, and_true, Bool.true_eq_false, Bool.false_eq_true, if_true, if_false, ite_true, ite_false, reduceIte, eq_self, ex_app, ex_app2, ite_tt, ite_ft, List.cons.injEq, W.d.injEq, PyData.int.injEq, PyData.tuple.injEq, exists_eq_left', and_assoc, exists_and_left, eqOk_int, eqD_int, eqOk_fr, eqD_fr, eqOk_str, eqD_str, id, lo_ws1, lo_ws2, lo_ws3, Bool.not_true, Bool.not_false, Bool.and_true, Bool.and_false, Bool.true_and, Bool.false_and, Bool.or_true, Bool.or_false, Bool.true_or, Bool.false_or, aCallV, aCallL, capOf, onlyD, startL, aIZB, sqD, xIn, allS, xMulB, xStr, isStrW, xUpper, aLRg1, aRevT, rowD, rowsD, exists_eq_left, aIZG, seqG, SG, wipeA, lstOf, allBm, allIm, all_id, any_id, ones_ok, ones_eqD, aDic0, xReprA, xAdd_i, xAdd_s, xAdd_t, xAdd_l, xSl_t, xSl_l, xSl_s, xSl_scr, xListOf_t, xListOf_l, xIdx_t, xIdx_l, xIdx_s, xIdx_r, aFor]
  refine ⟨by omega, by omega, iv_nums m most w ih2.length (b + 1) r, ⟨[], _, _, rfl, rfl, fun k hk => absurd hk (by simp), hd2.app _⟩, ?_, ?_⟩
  · rintro i d env ih3 hdd ⟨acc, x, y, rfl, hi, hacc, hd3⟩
    obtain ⟨hin, rfl⟩ := rng_in hdd
    rw [Int.toNat_natCast] at hin
    subst hi
    simp only [aAnd, aAndV, aAsg, aAsgT, aBk, aC, aCB, aCall, aCallK, aChain, aCons, aCt, aDget, aDispM, aDput, aDrop, aGN, aGcons, aGnil, aGtup, aIE, aIL, aIR1, aIR2, aIT, aIZ, aIf, aIfS, aIsi, aLst, aLstM, aMt, aMt0, aNever, aNil, aNoP, aNot, aNotV, aNx, aOp, aOr, aOrV, aPar, aPar3, aRet, aRetN, aRevD, aRevM, aSl, aSmP, aTst, aTup, aUn, aVar, aYes, xAbs, xApp, xBools, xEqB, xGcd, xI, xIc, xInt, xInts, xIs_nn, xIs_bb, xIs_bn, xIs_in, xIs_sn, xIs_tn, xIs_ln, xLen, xListOfM, xMax, xMin, xNeg, xPop, xSum, xTupleOf, optW, view, W.isFn, List.forall_mem_cons, forall_nil, asB, onRL, isRL, pick, keyOf, val_cells, val_mixed, val_draws, put_draws, allD, finD, startA, List.map_cons, List.map_nil, List.length_cons, List.length_nil, List.replicate, List.cons_append, List.nil_append, List.append_nil, List.getElem?_cons_zero, List.getElem?_cons_succ, List.set_cons_zero, List.set_cons_succ, Option.join_some, Option.map_some, List.filterMap_cons, List.filterMap_nil, List.take, Nat.sub_self, Nat.add_one_sub_one, Nat.reduceSub, Nat.reduceAdd, List.replicate_zero, isT, atI_0, atI_1, size2, size1, size3, size0, true_and, and_true, Bool.true_eq_false, Bool.false_eq_true, if_true, if_false, ite_true, ite_false, reduceIte, eq_self, ex_app, ex_app2, ite_tt, ite_ft, List.cons.injEq, W.d.injEq, PyData.int.injEq, PyData.tuple.injEq, exists_eq_left', and_assoc, exists_and_left, eqOk_int, eqD_int, eqOk_fr, eqD_fr, eqOk_str, eqD_str, id, lo_ws1, lo_ws2, lo_ws3, Bool.not_true, Bool.not_false, Bool.and_true, Bool.and_false, Bool.true_and, Bool.false_and, Bool.or_true, Bool.or_false, Bool.true_or, Bool.false_or, aCallV, aCallL, capOf, onlyD, startL, aIZB, sqD, xIn, allS, xMulB, xStr, isStrW, xUpper, aLRg1, aRevT, rowD, rowsD, exists_eq_left, aIZG, seqG, SG, wipeA, lstOf, allBm, allIm, all_id, any_id, ones_ok, ones_eqD, aDic0, xReprA, xAdd_i, xAdd_s, xAdd_t, xAdd_l, xSl_t, xSl_l, xSl_s, xSl_scr, xListOf_t, xListOf_l, xIdx_t, xIdx_l, xIdx_s, xIdx_r]
    refine sqm (md_nums m most w ih2.length (b + 1) r acc) ?_ ?_
    · rintro env2 ih4 ⟨x2, k, rfl, hk, hd4⟩
      have at1 : ∀ (c : Nat) (ih5 : IH), Dk ([.tab "are_rows.<locals>.<lambda>"] : IH) c (r ++ [.lst (acc.map fun k => .d (.int k))]) ih5 → ih5[ih2.length]? = some (.lst (acc.map fun k => .d (.int k))) := fun c ih5 h5 => by
        rw [hlen2, h5.at_ r.length, List.getElem?_append_right (Nat.le_refl _), Nat.sub_self]
        rfl
      have fin : ∀ (c : Nat) (ih5 : IH) (k' : Int), Bd 20 k' → c ≤ b + 1 + 2 * (acc.length + 1) → Dk ([.tab "are_rows.<locals>.<lambda>"] : IH) c (r ++ [.lst (acc.map fun k => .d (.int k))]) ih5 → (acc.map fun k => W.d (.int k)).length < sizeLine ∧ iv_nums m most w ih2.length (b + 1) r (acc.length + 1)
          [some (.ref 2), some (.d (.int m)), some (.d (.int most)), some (.d (.int w)), some (.ref ih2.length), x2, some (.d (.int k))] (ih5.set ih2.length (.lst ((acc.map fun k => .d (.int k)) ++ [.d (.int k')]))) := fun c ih5 k' hk' hc h5 => by
        refine ⟨by rw [List.length_map]; exact Nat.lt_of_lt_of_le hin (Nat.le_trans hm (by decide)), acc ++ [k'], _, _, rfl, by rw [List.length_append]; rfl, fun z hz => (List.mem_append.mp hz).elim (hacc z) fun e => by rw [List.mem_singleton.mp e]; exact hk', ?_⟩
        have := h5.set r.length (.lst ((acc.map fun k => .d (.int k)) ++ [.d (.int k')]))
        rw [List.set_append_right _ _ (Nat.le_refl _), Nat.sub_self] at this
        rw [hlen2, List.map_append]
        exact this.mono hc
      simp only [aAnd, aAndV, aAsg, aAsgT, aBk, aC, aCB, aCall, aCallK, aChain, aCons, aCt, aDget, aDispM, aDput, aDrop, aGN, aGcons, aGnil, aGtup, aIE, aIL, aIR1, aIR2, aIT, aIZ, aIf, aIfS, aIsi, aLst, aLstM, aMt, aMt0, aNever, aNil, aNoP, aNot, aNotV, aNx, aOp, aOr, aOrV, aPar, aPar3, aRet, aRetN, aRevD, aRevM, aSeq, aSl, aSmP, aTst, aTup, aUn, aVar, aYes, xAbs, xApp, xBools, xEqB, xGcd, xI, xIc, xInt, xInts, xIs_nn, xIs_bb, xIs_bn, xIs_in, xIs_sn, xIs_tn, xIs_ln, xLen, xListOfM, xMax, xMin, xNeg, xPop, xSum, xTupleOf, optW, view, W.isFn, List.forall_mem_cons, forall_nil, asB, onRL, isRL, pick, keyOf, val_cells, val_mixed, val_draws, put_draws, allD, finD, startA, List.map_cons, List.map_nil, List.length_cons, List.length_nil, List.replicate, List.cons_append, List.nil_append, List.append_nil, List.getElem?_cons_zero, List.getElem?_cons_succ, List.set_cons_zero, List.set_cons_succ, Option.join_some, Option.map_some, List.filterMap_cons, List.filterMap_nil, List.take, Nat.sub_self, Nat.add_one_sub_one, Nat.reduceSub, Nat.reduceAdd, List.replicate_zero, isT, atI_0, atI_1, size2, size1, size3, size0, true_and, and_true, Bool.true_eq_false, Bool.false_eq_true, if_true, if_false, ite_true, ite_false, reduceIte, eq_self, ex_app, ex_app2, ite_tt, ite_ft, List.cons.injEq, W.d.injEq, PyData.int.injEq, PyData.tuple.injEq, exists_eq_left', and_assoc, exists_and_left, eqOk_int, eqD_int, eqOk_fr, eqD_fr, eqOk_str, eqD_str, id, lo_ws1, lo_ws2, lo_ws3, Bool.not_true, Bool.not_false, Bool.and_true, Bool.and_false, Bool.true_and, Bool.false_and, Bool.or_true, Bool.or_false, Bool.true_or, Bool.false_or, aCallV, aCallL, capOf, onlyD, startL, aIZB, sqD, xIn, allS, xMulB, xStr, isStrW, xUpper, aLRg1, aRevT, rowD, rowsD, exists_eq_left, aIZG, seqG, SG, wipeA, lstOf, allBm, allIm, all_id, any_id, ones_ok, ones_eqD, aDic0, xReprA, xAdd_i, xAdd_s, xAdd_t, xAdd_l, xSl_t, xSl_l, xSl_s, xSl_scr, xListOf_t, xListOf_l, xIdx_t, xIdx_l, xIdx_s, xIdx_r, sp__law_draw, at1 _ _ hd4]
      refine ⟨by decide, ?_⟩
      refine ifd (fun _ => ⟨_, _, hd4, by omega, by decide, by decide, fun k1 ih5 k0 k1l hd5 => ?_⟩) fun _ => fin _ _ k hk (by omega) hd4
      simp only [aAnd, aAndV, aAsg, aAsgT, aBk, aC, aCB, aCall, aCallK, aChain, aCons, aCt, aDget, aDispM, aDput, aDrop, aGN, aGcons, aGnil, aGtup, aIE, aIL, aIR1, aIR2, aIT, aIZ, aIf, aIfS, aIsi, aLst, aLstM, aMt, aMt0, aNever, aNil, aNoP, aNot, aNotV, aNx, aOp, aOr, aOrV, aPar, aPar3, aRet, aRetN, aRevD, aRevM, aSeq, aSl, aSmP, aTst, aTup, aUn, aVar, aYes, xAbs, xApp, xBools, xEqB, xGcd, xI, xIc, xInt, xInts, xIs_nn, xIs_bb, xIs_bn, xIs_in, xIs_sn, xIs_tn, xIs_ln, xLen, xListOfM, xMax, xMin, xNeg, xPop, xSum, xTupleOf, optW, view, W.isFn, List.forall_mem_cons, forall_nil, asB, onRL, isRL, pick, keyOf, val_cells, val_mixed, val_draws, put_draws, allD, finD, startA, List.map_cons, List.map_nil, List.length_cons, List.length_nil, List.replicate, List.cons_append, List.nil_append, List.append_nil, List.getElem?_cons_zero, List.getElem?_cons_succ, List.set_cons_zero, List.set_cons_succ, Option.join_some, Option.map_some, List.filterMap_cons, List.filterMap_nil, List.take, Nat.sub_self, Nat.add_one_sub_one, Nat.reduceSub, Nat.reduceAdd, List.replicate_zero, isT, atI_0, atI_1, size2, size1, size3, size0, true_and, and_true, Bool.true_eq_false, Bool.false_eq_true, if_true, if_false, ite_true, ite_false, reduceIte, eq_self, ex_app, ex_app2, ite_tt, ite_ft, List.cons.injEq, W.d.injEq, PyData.int.injEq, PyData.tuple.injEq, exists_eq_left', and_assoc, exists_and_left, eqOk_int, eqD_int, eqOk_fr, eqD_fr, eqOk_str, eqD_str, id, lo_ws1, lo_ws2, lo_ws3, Bool.not_true, Bool.not_false, Bool.and_true, Bool.and_false, Bool.true_and, Bool.false_and, Bool.or_true, Bool.or_false, Bool.true_or, Bool.false_or, aCallV, aCallL, capOf, onlyD, startL, aIZB, sqD, xIn, allS, xMulB, xStr, isStrW, xUpper, aLRg1, aRevT, rowD, rowsD, exists_eq_left, aIZG, seqG, SG, wipeA, lstOf, allBm, allIm, all_id, any_id, ones_ok, ones_eqD, aDic0, xReprA, xAdd_i, xAdd_s, xAdd_t, xAdd_l, xSl_t, xSl_l, xSl_s, xSl_scr, xListOf_t, xListOf_l, xIdx_t, xIdx_l, xIdx_s, xIdx_r, at1 _ _ hd5]
      exact ifd (fun _ => fin _ _ 0 (by decide) (by omega) hd5) fun _ => fin _ _ k hk (by omega) hd5
    · intro R hR
      simp only [aAnd, aAndV, aAsg, aAsgT, aBk, aC, aCB, aCall, aCallK, aChain, aCons, aCt, aDget, aDispM, aDput, aDrop, aGN, aGcons, aGnil, aGtup, aIE, aIL, aIR1, aIR2, aIT, aIZ, aIf, aIfS, aIsi, aLst, aLstM, aMt, aMt0, aNever, aNil, aNoP, aNot, aNotV, aNx, aOp, aOr, aOrV, aPar, aPar3, aRet, aRetN, aRevD, aRevM, aSeq, aSl, aSmP, aTst, aTup, aUn, aVar, aYes, xAbs, xApp, xBools, xEqB, xGcd, xI, xIc, xInt, xInts, xIs_nn, xIs_bb, xIs_bn, xIs_in, xIs_sn, xIs_tn, xIs_ln, xLen, xListOfM, xMax, xMin, xNeg, xPop, xSum, xTupleOf, optW, view, W.isFn, List.forall_mem_cons, forall_nil, asB, onRL, isRL, pick, keyOf, val_cells, val_mixed, val_draws, put_draws, allD, finD, startA, List.map_cons, List.map_nil, List.length_cons, List.length_nil, List.replicate, List.cons_append, List.nil_append, List.append_nil, List.getElem?_cons_zero, List.getElem?_cons_succ, List.set_cons_zero, List.set_cons_succ, Option.join_some, Option.map_some, List.filterMap_cons, List.filterMap_nil, List.take, Nat.sub_self, Nat.add_one_sub_one, Nat.reduceSub, Nat.reduceAdd, List.replicate_zero, isT, atI_0, atI_1, size2, size1, size3, size0, true_and, and_true, Bool.true_eq_false, Bool.false_eq_true, if_true, if_false, ite_true, ite_false, reduceIte, eq_self, ex_app, ex_app2, ite_tt, ite_ft, List.cons.injEq, W.d.injEq, PyData.int.injEq, PyData.tuple.injEq, exists_eq_left', and_assoc, exists_and_left, eqOk_int, eqD_int, eqOk_fr, eqD_fr, eqOk_str, eqD_str, id, lo_ws1, lo_ws2, lo_ws3, Bool.not_true, Bool.not_false, Bool.and_true, Bool.and_false, Bool.true_and, Bool.false_and, Bool.or_true, Bool.or_false, Bool.true_or, Bool.false_or, aCallV, aCallL, capOf, onlyD, startL, aIZB, sqD, xIn, allS, xMulB, xStr, isStrW, xUpper, aLRg1, aRevT, rowD, rowsD, exists_eq_left, aIZG, seqG, SG, wipeA, lstOf, allBm, allIm, all_id, any_id, ones_ok, ones_eqD, aDic0, xReprA, xAdd_i, xAdd_s, xAdd_t, xAdd_l, xSl_t, xSl_l, xSl_s, xSl_scr, xListOf_t, xListOf_l, xIdx_t, xIdx_l, xIdx_s, xIdx_r, sp__law_draw]
      refine ifd (fun _ => ⟨_, _, hd3, by omega, by decide, by decide, fun k1 ih5 k0 k1l hd5 => ?_⟩) fun _ => ?_
      · exact hR _ _ ⟨_, k1 - 3, rfl, Bd.of (by omega) (by omega), hd5⟩
      · refine ⟨(Bd.of (by omega) (by omega) : Bd 2 2).cmul (Bd.of (by omega) (by omega) : Bd 20 most) (by decide), _, _, hd3, by omega, by omega, by omega, fun k1 ih5 k0 k1l hd5 => ?_⟩
        exact hR _ _ ⟨_, k1 - most, rfl, Bd.of (by omega) (by omega), hd5⟩
  · rintro env ih3 ⟨acc, x, y, rfl, hi, hacc, hd3⟩
    rw [rng_len, Int.toNat_natCast] at hi hd3
    simp only [aAnd, aAndV, aAsg, aAsgT, aBk, aC, aCB, aCall, aCallK, aChain, aCons, aCt, aDget, aDispM, aDput, aDrop, aGN, aGcons, aGnil, aGtup, aIE, aIL, aIR1, aIR2, aIT, aIZ, aIf, aIfS, aIsi, aLst, aLstM, aMt, aMt0, aNever, aNil, aNoP, aNot, aNotV, aNx, aOp, aOr, aOrV, aPar, aPar3, aRet, aRetN, aRevD, aRevM, aSeq, aSl, aSmP, aTst, aTup, aUn, aVar, aYes, xAbs, xApp, xBools, xEqB, xGcd, xI, xIc, xInt, xInts, xIs_nn, xIs_bb, xIs_bn, xIs_in, xIs_sn, xIs_tn, xIs_ln, xLen, xListOfM, xMax, xMin, xNeg, xPop, xSum, xTupleOf, optW, view, W.isFn, List.forall_mem_cons, forall_nil, asB, onRL, isRL, pick, keyOf, val_cells, val_mixed, val_draws, put_draws, allD, finD, startA, List.map_cons, List.map_nil, List.length_cons, List.length_nil, List.replicate, List.cons_append, List.nil_append, List.append_nil, List.getElem?_cons_zero, List.getElem?_cons_succ, List.set_cons_zero, List.set_cons_succ, Option.join_some, Option.map_some, List.filterMap_cons, List.filterMap_nil, List.take, Nat.sub_self, Nat.add_one_sub_one, Nat.reduceSub, Nat.reduceAdd, List.replicate_zero, isT, atI_0, atI_1, size2, size1, size3, size0, true_and, and_true, Bool.true_eq_false, Bool.false_eq_true, if_true, if_false, ite_true, ite_false, reduceIte, eq_self, ex_app, ex_app2, ite_tt, ite_ft, List.cons.injEq, W.d.injEq, PyData.int.injEq, PyData.tuple.injEq, exists_eq_left', and_assoc, exists_and_left, eqOk_int, eqD_int, eqOk_fr, eqD_fr, eqOk_str, eqD_str, id, lo_ws1, lo_ws2, lo_ws3, Bool.not_true, Bool.not_false, Bool.and_true, Bool.and_false, Bool.true_and, Bool.false_and, Bool.or_true, Bool.or_false, Bool.true_or, Bool.false_or, aCallV, aCallL, capOf, onlyD, startL, aIZB, sqD, xIn, allS, xMulB, xStr, isStrW, xUpper, aLRg1, aRevT, rowD, rowsD, exists_eq_left, aIZG, seqG, SG, wipeA, lstOf, allBm, allIm, all_id, any_id, ones_ok, ones_eqD, aDic0, xReprA, xAdd_i, xAdd_s, xAdd_t, xAdd_l, xSl_t, xSl_l, xSl_s, xSl_scr, xListOf_t, xListOf_l, xIdx_t, xIdx_l, xIdx_s, xIdx_r]
    rw [show ih2.length = ob.length + 0 by omega]
    refine finT_r (xs := acc.map .int) hd hd3 (by rw [List.map_map]; rfl) fun ih4 hd4 => q acc ih4 hi hacc (hd4.mono (by omega))
theorem ok__law_numbers (T : Ty K mg base Tb) : Fdf P w K mg base (SG Tb) 2 "_law_numbers" ["deck", "many", "most"] [] sp__law_numbers := T.d__law_numbers.fd fun f fd Fn => g__law_numbers T Fn
/-- rows drawn so far -/
structure RowsIn (m : Nat) (R : Rows) : Prop where
  r : ∀ r ∈ R, r.1.length = m ∧ ∀ i ∈ r.1, Bd 60 i
theorem RowsIn.ok {m : Nat} {R : Rows} (h : RowsIn m R) (m1 : 1 ≤ m) (m2 : m ≤ 20) (l : R.length ≤ 10) : RowsOk m R := ⟨m1, by omega, by omega, m2, l, fun r hr => ⟨(h.r r hr).1, fun i hi => ((h.r r hr).2 i hi).mono (by decide)⟩⟩
theorem RowsIn.app {m : Nat} {R : Rows} {a : List Int} {s : Bool} (h : RowsIn m R) (h1 : a.length = m) (h2 : ∀ i ∈ a, Bd 60 i) : RowsIn m (R ++ [(a, s)]) := ⟨fun r hr => (List.mem_append.mp hr).elim (h.r r) fun e => by rw [List.mem_singleton.mp e]; exact ⟨h1, h2⟩⟩
theorem dot_neg : ∀ a b : List Int, dot (a.map fun x => -x) b = -dot a b
  | [], b => rfl
  | x :: r, [] => rfl
  | x :: r, y :: s => by
    have := dot_neg r s
    unfold dot at this ⊢
    simp only [List.map_cons, List.zip_cons_cons, List.sum_cons, this]
    rw [Int.neg_mul, Int.neg_add]
def iv_pts (m b : Nat) (r : IH) : Nat → List D → IH → Prop := fun i acc ih => ∃ pt : List Int, acc = pt.map .int ∧ pt.length = i ∧ (∀ k ∈ pt, 0 ≤ k ∧ k ≤ 50) ∧ Dk ([.tab "are_rows.<locals>.<lambda>"] : IH) (b + 2 * i) r ih
def iv_rp (m c : Nat) (most : Int) (pt : List Int) (n b : Nat) (r : IH) : Nat → En → IH → Prop := fun i env ih => ∃ (R : Rows) (x1 x2 x3 x4 x5 x6 : Option W), env = [some (.ref 2), some (.d (.int m)), some (.d (.int c)), some (.d (.int most)), some (.d (.tuple (pt.map .int))), some (.ref n), x1, x2, x3, x4, x5, x6] ∧
  R.length = i ∧ RowsIn m R ∧ ful R pt = true ∧ Dk ([.tab "are_rows.<locals>.<lambda>"] : IH) (b + 1001 * i) (r ++ [.lst (R.map fun k => .d (rowD k))]) ih
def sp__law_rows_with_point : ASp := fun ws ih Q => ∃ (m c : Nat) (most : Int) (b : Nat) (r : IH), ws = [.ref 2, .d (.int m), .d (.int c), .d (.int most)] ∧ Dk ([.tab "are_rows.<locals>.<lambda>"] : IH) b r ih ∧ b ≤ 500000 ∧ 1 ≤ m ∧ m ≤ 20 ∧ c ≤ 10 ∧ 1 ≤ most ∧ most ≤ 1000000 ∧
  ∀ (R : Rows) (pt : List Int) (ih2 : IH), RowsOk m R → R.length = c → pt.length = m → (∀ i ∈ pt, 0 ≤ i ∧ i ≤ 50) → ful R pt = true → Dk ([.tab "are_rows.<locals>.<lambda>"] : IH) (b + 11000) r ih2 → Q (.d (.tuple [rowsD R, .tuple (pt.map .int)])) ih2
theorem g__law_rows_with_point (T : Ty K mg base Tb) {f : Addr} {fd : FuncData} (Fn : Fun K "_law_rows_with_point" "_law_rows_with_point" st__law_rows_with_point f fd) : FnG P w K mg base (SG Tb) 3 f fd ["deck", "many", "count", "most"] sp__law_rows_with_point := by
  refine fnG_ofT Fn sc__law_rows_with_point ((bv_cons (sv_par 4 5 (av_cons (ev_callT cv_tuple rfl T.b_tuple bt_tuple (av_cons (ev_lc [("at", 10)] (iv_range1 (av_cons (ev_var 1) av_nil) rfl T.b_range) (by show blkC ["deck", "many", "count", "most", "point", "found", "turn", "numbers", "strict", "by", "at", "number"] (defScope st__law_rows_with_point) _ _ = true; decide +kernel) (gw_name 10) tvs_nil (evc (ok__law_pick T) (Nat.le_of_ble_eq_true rfl) rfl (av_cons (ev_var 0) (av_cons (ev_lst (av_cons ev_int (av_cons ev_int (av_cons ev_int (av_cons ev_int (av_cons (ev_op ov_add ev_int (evc (ok__law_draw T) (Nat.le_of_ble_eq_true rfl) rfl (av_cons (ev_var 0) (av_cons ev_int av_nil)))) av_nil)))))) av_nil)))) av_nil)) (av_cons (ev_lstM av_nil) av_nil)) (hw := fun env h => by cases env; subst h; rfl))
      (bv_cons (sv_for (iv_range1 (av_cons (ev_var 2) av_nil) rfl T.b_range) (GW.gv (vs := [6]) (gw_name 6)) (bv_cons (sv_par 7 8 (av_cons (evc (ok__law_numbers T) (Nat.le_of_ble_eq_true rfl) rfl (av_cons (ev_var 0) (av_cons (ev_var 1) (av_cons (ev_var 3) av_nil)))) (av_cons (ev_cmp ov_eq (evc (ok__law_draw T) (Nat.le_of_ble_eq_true rfl) rfl (av_cons (ev_var 0) (av_cons ev_int av_nil))) ev_int) av_nil)) (hw := fun env h => by cases env; subst h; rfl))
      (bv_cons (sv_set 9 (evc (ok__law_sum_of T) (Nat.le_of_ble_eq_true rfl) rfl (av_cons (ev_var 7) (av_cons (ev_var 4) av_nil))))
      (bv_cons (sv_set 7 (ev_ifE (tv_cmp ov_lt (ev_var 9) ev_int) (ev_lc [("number", 11)] (iv_list (ev_var 7)) (by show blkC ["deck", "many", "count", "most", "point", "found", "turn", "numbers", "strict", "by", "at", "number"] (defScope st__law_rows_with_point) _ _ = true; decide +kernel) (gw_name 11) tvs_nil (ev_un uv_neg (ev_var 11))) (ev_var 7)))
      (bv_one (sv_expr (ev_mt F.plainAttrs_list F.slot_list_append F.type_list_append mv_app (ev_var 5) (av_cons (ev_tup (av_cons (ev_callT cv_tuple rfl T.b_tuple bt_tuple (av_cons (ev_var 7) av_nil)) (av_cons (ev_and (ev_var 8) (ev_one (ev_cmp ov_ne (ev_var 9) ev_int))) av_nil))) av_nil))))))))
      (bv_one (sv_ret (ev_tup (av_cons (ev_callT cv_tuple rfl T.b_tuple bt_tuple (av_cons (ev_var 5) av_nil)) (av_cons (ev_var 4) av_nil)))))))) fun ws ob Qa hl h => ?_
  obtain ⟨m, c, most, b, r, rfl, hd, hb, m1, m2, c2, o1, o2, q⟩ := h
  have hlen := hd.len
  refine sq ?_
  simp only [aAnd, aAndV, aAsg, aAsgT, aBk, aC, aCB, aCall, aCallK, aChain, aCons, aCt, aDget, aDispM, aDput, aDrop, aGN, aGcons, aGnil, aGtup, aIE, aIL, aIR1, aIR2, aIT, aIZ, aIf, aIfS, aIsi, aLst, aLstM, aMt, aMt0, aNever, aNil, aNoP, aNot, aNotV, aNx, aOp, aOr, aOrV, aPar, aPar3, aRet, aRetN, aRevD, aRevM, aSl, aSmP, aTst, aTup, aUn, aVar, aYes, xAbs, xApp, xBools, xEqB, xGcd, xI, xIc, xInt, xInts, xIs_nn, xIs_bb, xIs_bn, xIs_in, xIs_sn, xIs_tn, xIs_ln, xLen, xListOfM, xMax, xMin, xNeg, xPop, xSum, xTupleOf, optW, view, W.isFn, List.forall_mem_cons, forall_nil, asB, onRL, isRL, pick, keyOf, val_cells, val_mixed, val_draws, put_draws, allD, finD, startA, List.map_cons, List.map_nil, List.length_cons, List.length_nil, List.replicate, List.cons_append, List.nil_append, List.append_nil, List.getElem?_cons_zero, List.getElem?_cons_succ, List.set_cons_zero, List.set_cons_succ, Option.join_some, Option.map_some, List.filterMap_cons, List.filterMap_nil, List.take, Nat.sub_self, Nat.add_one_sub_one, Nat.reduceSub, Nat.reduceAdd, List.replicate_zero, isT, atI_0, atI_1, size2, size1, size3, size0, true_and, and_true, Bool.true_eq_false, Bool.false_eq_true, if_true, if_false, ite_true, ite_false, reduceIte, eq_self, ex_app, ex_app2, ite_tt, ite_ft, List.cons.injEq, W.d.injEq, PyData.int.injEq, PyData.tuple.injEq, exists_eq_left', and_assoc, exists_and_left, eqOk_int, eqD_int, eqOk_fr, eqD_fr, eqOk_str, eqD_str, id, lo_ws1, lo_ws2, lo_ws3, Bool.not_true, Bool.not_false, Bool.and_true, Bool.and_false, Bool.true_and, Bool.false_and, Bool.or_true, Bool.or_false, Bool.true_or, Bool.false_or, aCallV, aCallL, capOf, onlyD, startL, aIZB, sqD, xIn, allS, xMulB, xStr, isStrW, xUpper, aLRg1, aRevT, rowD, rowsD, exists_eq_left, aIZG, seqG, SG, wipeA, lstOf, allBm, allIm, all_id, any_id, ones_ok, ones_eqD, aDic0, xReprA, xAdd_i, xAdd_s, xAdd_t, xAdd_l, xSl_t, xSl_l, xSl_s, xSl_scr, xListOf_t, xListOf_l, xIdx_t, xIdx_l, xIdx_s, xIdx_r, aLc, sp__law_pick, sp__law_draw]
  refine ⟨by omega, by omega, iv_pts m b r, ⟨[], rfl, rfl, fun k hk => absurd hk (by simp), hd⟩, ?_, by rw [rng_len, Int.toNat_natCast]; exact Nat.le_trans m2 (by decide), ?_⟩
  · rintro i d acc ih2 hdd ⟨pt, rfl, hi, hpt, hd2⟩ _
    obtain ⟨hin, rfl⟩ := rng_in hdd
    rw [Int.toNat_natCast] at hin
    refine ⟨_, _, hd2, by omega, by decide, by decide, fun k ih3 k0 k1 hd3 => ?_⟩
    refine ⟨by decide, _, rfl, _, _, hd3, by omega, Nat.zero_lt_succ _, by simp, fun x ih4 hx hd4 => ?_⟩
    have : ∃ j : Int, x = .int j ∧ 0 ≤ j ∧ j ≤ 50 := by
      simp only [List.mem_cons, List.not_mem_nil, or_false] at hx
      rcases hx with rfl | rfl | rfl | rfl | rfl
      · exact ⟨_, rfl, by decide, by decide⟩
      · exact ⟨_, rfl, by decide, by decide⟩
      · exact ⟨_, rfl, by decide, by decide⟩
      · exact ⟨_, rfl, by decide, by decide⟩
      · exact ⟨_, rfl, by omega, by omega⟩
    obtain ⟨j, rfl, j0, j1⟩ := this
    exact ⟨pt ++ [j], by rw [List.map_append]; rfl, by rw [List.length_append, hi]; rfl, fun z hz => (List.mem_append.mp hz).elim (hpt z) fun e => by rw [List.mem_singleton.mp e]; exact ⟨j0, j1⟩, hd4.mono (by omega)⟩
  · rintro acc ih2 _ ⟨pt, rfl, hi, hpt, hd2⟩
    rw [rng_len, Int.toNat_natCast] at hi hd2
    have hlen2 := hd2.len
    refine sq ?_
    simp only [aAnd, aAndV, aAsg, aAsgT, aBk, aC, aCB, aCall, aCallK, aChain, aCons, aCt, aDget, aDispM, aDput, aDrop, aGN, aGcons, aGnil, aGtup, aIE, aIL, aIR1, aIR2, aIT, aIZ, aIf, aIfS, aIsi, aLst, aLstM, aMt, aMt0, aNever, aNil, aNoP, aNot, aNotV, aNx, aOp, aOr, aOrV, aPar, aPar3, aRet, aRetN, aRevD, aRevM, aSl, aSmP, aTst, aTup, aUn, aVar, aYes, xAbs, xApp, xBools, xEqB, xGcd, xI, xIc, xInt, xInts, xIs_nn, xIs_bb, xIs_bn, xIs_in, xIs_sn, xIs_tn, xIs_ln, xLen, xListOfM, xMax, xMin, xNeg, xPop, xSum, xTupleOf, optW, view, W.isFn, List.forall_mem_cons, forall_nil, asB, onRL, isRL, pick, keyOf, val_cells, val_mixed, val_draws, put_draws, allD, finD, startA, List.map_cons, List.map_nil, List.length_cons, List.length_nil, List.replicate, List.cons_append, List.nil_append, List.append_nil, List.getElem?_cons_zero, List.getElem?_cons_succ, List.set_cons_zero, List.set_cons_succ, Option.join_some, Option.map_some, List.filterMap_cons, List.filterMap_nil, List.take, Nat.sub_self, Nat.add_one_sub_one, Nat.reduceSub, Nat.reduceAdd, List.replicate_zero, isT, atI_0, atI_1, size2, size1, size3, size0, true_and, and_true, Bool.true_eq_false, Bool.false_eq_true, if_true, if_false, ite_true, ite_false, reduceIte, eq_self, ex_app, ex_app2, ite_tt, ite_ft, List.cons.injEq, W.d.injEq, PyData.int.injEq, PyData.tuple.injEq, exists_eq_left', and_assoc, exists_and_left, eqOk_int, eqD_int, eqOk_fr, eqD_fr, eqOk_str, eqD_str, id, lo_ws1, lo_ws2, lo_ws3, Bool.not_true, Bool.not_false, Bool.and_true, Bool.and_false, Bool.true_and, Bool.false_and, Bool.or_true, Bool.or_false, Bool.true_or, Bool.false_or, aCallV, aCallL, capOf, onlyD, startL, aIZB, sqD, xIn, allS, xMulB, xStr, isStrW, xUpper, aLRg1, aRevT, rowD, rowsD, exists_eq_left, aIZG, seqG, SG, wipeA, lstOf, allBm, allIm, all_id, any_id, ones_ok, ones_eqD, aDic0, xReprA, xAdd_i, xAdd_s, xAdd_t, xAdd_l, xSl_t, xSl_l, xSl_s, xSl_scr, xListOf_t, xListOf_l, xIdx_t, xIdx_l, xIdx_s, xIdx_r, aFor]
    refine ⟨by omega, by omega, iv_rp m c most pt ih2.length (b + 2 * m) r, ⟨[], _, _, _, _, _, _, rfl, rfl, ⟨fun r hr => absurd hr (by simp)⟩, rfl, hd2.app _⟩, ?_, ?_⟩
    · rintro i d env ih3 hdd ⟨R, x1, x2, x3, x4, x5, x6, rfl, hRl, hR, hf, hd3⟩
      obtain ⟨hin, rfl⟩ := rng_in hdd
      rw [Int.toNat_natCast] at hin
      refine sq ?_
      simp only [aAnd, aAndV, aAsg, aAsgT, aBk, aC, aCB, aCall, aCallK, aChain, aCons, aCt, aDget, aDispM, aDput, aDrop, aGN, aGcons, aGnil, aGtup, aIE, aIL, aIR1, aIR2, aIT, aIZ, aIf, aIfS, aIsi, aLst, aLstM, aMt, aMt0, aNever, aNil, aNoP, aNot, aNotV, aNx, aOp, aOr, aOrV, aPar, aPar3, aRet, aRetN, aRevD, aRevM, aSl, aSmP, aTst, aTup, aUn, aVar, aYes, xAbs, xApp, xBools, xEqB, xGcd, xI, xIc, xInt, xInts, xIs_nn, xIs_bb, xIs_bn, xIs_in, xIs_sn, xIs_tn, xIs_ln, xLen, xListOfM, xMax, xMin, xNeg, xPop, xSum, xTupleOf, optW, view, W.isFn, List.forall_mem_cons, forall_nil, asB, onRL, isRL, pick, keyOf, val_cells, val_mixed, val_draws, put_draws, allD, finD, startA, List.map_cons, List.map_nil, List.length_cons, List.length_nil, List.replicate, List.cons_append, List.nil_append, List.append_nil, List.getElem?_cons_zero, List.getElem?_cons_succ, List.set_cons_zero, List.set_cons_succ, Option.join_some, Option.map_some, List.filterMap_cons, List.filterMap_nil, List.take, Nat.sub_self, Nat.add_one_sub_one, Nat.reduceSub, Nat.reduceAdd, List.replicate_zero, isT, atI_0, atI_1, size2, size1, size3, size0, true_and, and_true, Bool.true_eq_false, Bool.false_eq_true, if_true, if_false, ite_true, ite_false, reduceIte, eq_self, ex_app, ex_app2, ite_tt, ite_ft, List.cons.injEq, W.d.injEq, PyData.int.injEq, PyData.tuple.injEq, exists_eq_left', and_assoc, exists_and_left, eqOk_int, eqD_int, eqOk_fr, eqD_fr, eqOk_str, eqD_str, id, lo_ws1, lo_ws2, lo_ws3, Bool.not_true, Bool.not_false, Bool.and_true, Bool.and_false, Bool.true_and, Bool.false_and, Bool.or_true, Bool.or_false, Bool.true_or, Bool.false_or, aCallV, aCallL, capOf, onlyD, startL, aIZB, sqD, xIn, allS, xMulB, xStr, isStrW, xUpper, aLRg1, aRevT, rowD, rowsD, exists_eq_left, aIZG, seqG, SG, wipeA, lstOf, allBm, allIm, all_id, any_id, ones_ok, ones_eqD, aDic0, xReprA, xAdd_i, xAdd_s, xAdd_t, xAdd_l, xSl_t, xSl_l, xSl_s, xSl_scr, xListOf_t, xListOf_l, xIdx_t, xIdx_l, xIdx_s, xIdx_r, sp__law_numbers, sp__law_draw]
      refine ⟨m, rfl, _, _, hd3, by omega, by omega, o1, o2, fun ns ih4 hns bns hd4 => ?_⟩
      refine ⟨_, _, hd4, by omega, by decide, by decide, fun k ih5 k0 k1 hd5 => ?_⟩
      refine sq ?_
      simp only [aAnd, aAndV, aAsg, aAsgT, aBk, aC, aCB, aCall, aCallK, aChain, aCons, aCt, aDget, aDispM, aDput, aDrop, aGN, aGcons, aGnil, aGtup, aIE, aIL, aIR1, aIR2, aIT, aIZ, aIf, aIfS, aIsi, aLst, aLstM, aMt, aMt0, aNever, aNil, aNoP, aNot, aNotV, aNx, aOp, aOr, aOrV, aPar, aPar3, aRet, aRetN, aRevD, aRevM, aSl, aSmP, aTst, aTup, aUn, aVar, aYes, xAbs, xApp, xBools, xEqB, xGcd, xI, xIc, xInt, xInts, xIs_nn, xIs_bb, xIs_bn, xIs_in, xIs_sn, xIs_tn, xIs_ln, xLen, xListOfM, xMax, xMin, xNeg, xPop, xSum, xTupleOf, optW, view, W.isFn, List.forall_mem_cons, forall_nil, asB, onRL, isRL, pick, keyOf, val_cells, val_mixed, val_draws, put_draws, allD, finD, startA, List.map_cons, List.map_nil, List.length_cons, List.length_nil, List.replicate, List.cons_append, List.nil_append, List.append_nil, List.getElem?_cons_zero, List.getElem?_cons_succ, List.set_cons_zero, List.set_cons_succ, Option.join_some, Option.map_some, List.filterMap_cons, List.filterMap_nil, List.take, Nat.sub_self, Nat.add_one_sub_one, Nat.reduceSub, Nat.reduceAdd, List.replicate_zero, isT, atI_0, atI_1, size2, size1, size3, size0, true_and, and_true, Bool.true_eq_false, Bool.false_eq_true, if_true, if_false, ite_true, ite_false, reduceIte, eq_self, ex_app, ex_app2, ite_tt, ite_ft, List.cons.injEq, W.d.injEq, PyData.int.injEq, PyData.tuple.injEq, exists_eq_left', and_assoc, exists_and_left, eqOk_int, eqD_int, eqOk_fr, eqD_fr, eqOk_str, eqD_str, id, lo_ws1, lo_ws2, lo_ws3, Bool.not_true, Bool.not_false, Bool.and_true, Bool.and_false, Bool.true_and, Bool.false_and, Bool.or_true, Bool.or_false, Bool.true_or, Bool.false_or, aCallV, aCallL, capOf, onlyD, startL, aIZB, sqD, xIn, allS, xMulB, xStr, isStrW, xUpper, aLRg1, aRevT, rowD, rowsD, exists_eq_left, aIZG, seqG, SG, wipeA, lstOf, allBm, allIm, all_id, any_id, ones_ok, ones_eqD, aDic0, xReprA, xAdd_i, xAdd_s, xAdd_t, xAdd_l, xSl_t, xSl_l, xSl_s, xSl_scr, xListOf_t, xListOf_l, xIdx_t, xIdx_l, xIdx_s, xIdx_r, sp__law_sum_of]
      refine ⟨ns, pt, rfl, .inl rfl, by omega, fun i hi => (bns i hi).sm (by decide), fun i hi => (Bd.of (by have := hpt i hi; omega) (by have := hpt i hi; omega) : Bd 10 i).sm (by decide), ?_⟩
      have bns2 : ∀ i ∈ ns, Bd 60 i := fun i hi => (bns i hi).mono (by decide)
      have e : ih5[ih2.length]? = some (.lst (R.map fun k => .d (rowD k))) := by
        rw [hlen2, hd5.at_ r.length, List.getElem?_append_right (Nat.le_refl _), Nat.sub_self]
        rfl
      have fin : ∀ (a : List Int) (s : Bool) (y1 y2 y3 y4 y5 y6 : Option W), a.length = m → (∀ i ∈ a, Bd 60 i) → b2i s ≤ dot a pt → (R.map fun k => W.d (rowD k)).length < sizeLine ∧ iv_rp m c most pt ih2.length (b + 2 * m) r (i + 1)
          [some (.ref 2), some (.d (.int m)), some (.d (.int c)), some (.d (.int most)), some (.d (.tuple (pt.map .int))), some (.ref ih2.length), y1, y2, y3, y4, y5, y6]
          (ih5.set ih2.length (.lst ((R.map fun k => .d (rowD k)) ++ [.d (.tuple [.tuple (a.map .int), .bool s])]))) := fun a s y1 y2 y3 y4 y5 y6 ha hba hs => by
        refine ⟨by rw [List.length_map, hRl]; exact Nat.lt_of_lt_of_le hin (Nat.le_trans c2 (by decide)), R ++ [(a, s)], _, _, _, _, _, _, rfl, by rw [List.length_append, hRl]; rfl, hR.app ha hba, ?_, ?_⟩
        · unfold ful at hf ⊢
          rw [List.all_append, hf, Bool.true_and, List.all_cons, List.all_nil, Bool.and_true]
          exact decide_eq_true hs
        · have := hd5.set r.length (.lst ((R.map fun k => .d (rowD k)) ++ [.d (.tuple [.tuple (a.map .int), .bool s])]))
          rw [List.set_append_right _ _ (Nat.le_refl _), Nat.sub_self] at this
          rw [hlen2, List.map_append]
          exact this.mono (by omega)
      generalize decide (k = 0) = st
      by_cases hneg : dot ns pt < 0
      · simp only [aAnd, aAndV, aAsg, aAsgT, aBk, aC, aCB, aCall, aCallK, aChain, aCons, aCt, aDget, aDispM, aDput, aDrop, aGN, aGcons, aGnil, aGtup, aIE, aIL, aIR1, aIR2, aIT, aIZ, aIf, aIfS, aIsi, aLst, aLstM, aMt, aMt0, aNever, aNil, aNoP, aNot, aNotV, aNx, aOp, aOr, aOrV, aPar, aPar3, aRet, aRetN, aRevD, aRevM, aSeq, aSl, aSmP, aTst, aTup, aUn, aVar, aYes, xAbs, xApp, xBools, xEqB, xGcd, xI, xIc, xInt, xInts, xIs_nn, xIs_bb, xIs_bn, xIs_in, xIs_sn, xIs_tn, xIs_ln, xLen, xListOfM, xMax, xMin, xNeg, xPop, xSum, xTupleOf, optW, view, W.isFn, List.forall_mem_cons, forall_nil, asB, onRL, isRL, pick, keyOf, val_cells, val_mixed, val_draws, put_draws, allD, finD, startA, List.map_cons, List.map_nil, List.length_cons, List.length_nil, List.replicate, List.cons_append, List.nil_append, List.append_nil, List.getElem?_cons_zero, List.getElem?_cons_succ, List.set_cons_zero, List.set_cons_succ, Option.join_some, Option.map_some, List.filterMap_cons, List.filterMap_nil, List.take, Nat.sub_self, Nat.add_one_sub_one, Nat.reduceSub, Nat.reduceAdd, List.replicate_zero, isT, atI_0, atI_1, size2, size1, size3, size0, true_and, and_true, Bool.true_eq_false, Bool.false_eq_true, if_true, if_false, ite_true, ite_false, reduceIte, eq_self, ex_app, ex_app2, ite_tt, ite_ft, List.cons.injEq, W.d.injEq, PyData.int.injEq, PyData.tuple.injEq, exists_eq_left', and_assoc, exists_and_left, eqOk_int, eqD_int, eqOk_fr, eqD_fr, eqOk_str, eqD_str, id, lo_ws1, lo_ws2, lo_ws3, Bool.not_true, Bool.not_false, Bool.and_true, Bool.and_false, Bool.true_and, Bool.false_and, Bool.or_true, Bool.or_false, Bool.true_or, Bool.false_or, aCallV, aCallL, capOf, onlyD, startL, aIZB, sqD, xIn, allS, xMulB, xStr, isStrW, xUpper, aLRg1, aRevT, rowD, rowsD, exists_eq_left, aIZG, seqG, SG, wipeA, lstOf, allBm, allIm, all_id, any_id, ones_ok, ones_eqD, aDic0, xReprA, xAdd_i, xAdd_s, xAdd_t, xAdd_l, xSl_t, xSl_l, xSl_s, xSl_scr, xListOf_t, xListOf_l, xIdx_t, xIdx_l, xIdx_s, xIdx_r, hneg, decide_true]
        refine lc_mapL ns .int (fun x => .int (-x)) (fun Z hZ => hZ) (by rw [hns]; exact Nat.le_trans m2 (by decide)) (fun x hx K1 hK => ?_) ?_
        · simp only [aAnd, aAndV, aAsg, aAsgT, aBk, aC, aCB, aCall, aCallK, aChain, aCons, aCt, aDget, aDispM, aDput, aDrop, aGN, aGcons, aGnil, aGtup, aIE, aIL, aIR1, aIR2, aIT, aIZ, aIf, aIfS, aIsi, aLst, aLstM, aMt, aMt0, aNever, aNil, aNoP, aNot, aNotV, aNx, aOp, aOr, aOrV, aPar, aPar3, aRet, aRetN, aRevD, aRevM, aSeq, aSl, aSmP, aTst, aTup, aUn, aVar, aYes, xAbs, xApp, xBools, xEqB, xGcd, xI, xIc, xInt, xInts, xIs_nn, xIs_bb, xIs_bn, xIs_in, xIs_sn, xIs_tn, xIs_ln, xLen, xListOfM, xMax, xMin, xNeg, xPop, xSum, xTupleOf, optW, view, W.isFn, List.forall_mem_cons, forall_nil, asB, onRL, isRL, pick, keyOf, val_cells, val_mixed, val_draws, put_draws, allD, finD, startA, List.map_cons, List.map_nil, List.length_cons, List.length_nil, List.replicate, List.cons_append, List.nil_append, List.append_nil, List.getElem?_cons_zero, List.getElem?_cons_succ, List.set_cons_zero, List.set_cons_succ, Option.join_some, Option.map_some, List.filterMap_cons, List.filterMap_nil, List.take, Nat.sub_self, Nat.add_one_sub_one, Nat.reduceSub, Nat.reduceAdd, List.replicate_zero, isT, atI_0, atI_1, size2, size1, size3, size0, true_and, and_true, Bool.true_eq_false, Bool.false_eq_true, if_true, if_false, ite_true, ite_false, reduceIte, eq_self, ex_app, ex_app2, ite_tt, ite_ft, List.cons.injEq, W.d.injEq, PyData.int.injEq, PyData.tuple.injEq, exists_eq_left', and_assoc, exists_and_left, eqOk_int, eqD_int, eqOk_fr, eqD_fr, eqOk_str, eqD_str, id, lo_ws1, lo_ws2, lo_ws3, Bool.not_true, Bool.not_false, Bool.and_true, Bool.and_false, Bool.true_and, Bool.false_and, Bool.or_true, Bool.or_false, Bool.true_or, Bool.false_or, aCallV, aCallL, capOf, onlyD, startL, aIZB, sqD, xIn, allS, xMulB, xStr, isStrW, xUpper, aLRg1, aRevT, rowD, rowsD, exists_eq_left, aIZG, seqG, SG, wipeA, lstOf, allBm, allIm, all_id, any_id, ones_ok, ones_eqD, aDic0, xReprA, xAdd_i, xAdd_s, xAdd_t, xAdd_l, xSl_t, xSl_l, xSl_s, xSl_scr, xListOf_t, xListOf_l, xIdx_t, xIdx_l, xIdx_s, xIdx_r]
          exact hK
        · have em : (ns.map fun x => PyData.int (-x)) = (ns.map fun x => -x).map .int := by rw [List.map_map]; rfl
          have hb2 : ∀ i ∈ ns.map fun x => -x, Bd 60 i := fun i hi => by
            obtain ⟨x, hx, rfl⟩ := List.mem_map.mp hi
            exact (bns2 x hx).neg
          simp only [aAnd, aAndV, aAsg, aAsgT, aBk, aC, aCB, aCall, aCallK, aChain, aCons, aCt, aDget, aDispM, aDput, aDrop, aGN, aGcons, aGnil, aGtup, aIE, aIL, aIR1, aIR2, aIT, aIZ, aIf, aIfS, aIsi, aLst, aLstM, aMt, aMt0, aNever, aNil, aNoP, aNot, aNotV, aNx, aOp, aOr, aOrV, aPar, aPar3, aRet, aRetN, aRevD, aRevM, aSeq, aSl, aSmP, aTst, aTup, aUn, aVar, aYes, xAbs, xApp, xBools, xEqB, xGcd, xI, xIc, xInt, xInts, xIs_nn, xIs_bb, xIs_bn, xIs_in, xIs_sn, xIs_tn, xIs_ln, xLen, xListOfM, xMax, xMin, xNeg, xPop, xSum, xTupleOf, optW, view, W.isFn, List.forall_mem_cons, forall_nil, asB, onRL, isRL, pick, keyOf, val_cells, val_mixed, val_draws, put_draws, allD, finD, startA, List.map_cons, List.map_nil, List.length_cons, List.length_nil, List.replicate, List.cons_append, List.nil_append, List.append_nil, List.getElem?_cons_zero, List.getElem?_cons_succ, List.set_cons_zero, List.set_cons_succ, Option.join_some, Option.map_some, List.filterMap_cons, List.filterMap_nil, List.take, Nat.sub_self, Nat.add_one_sub_one, Nat.reduceSub, Nat.reduceAdd, List.replicate_zero, isT, atI_0, atI_1, size2, size1, size3, size0, true_and, and_true, Bool.true_eq_false, Bool.false_eq_true, if_true, if_false, ite_true, ite_false, reduceIte, eq_self, ex_app, ex_app2, ite_tt, ite_ft, List.cons.injEq, W.d.injEq, PyData.int.injEq, PyData.tuple.injEq, exists_eq_left', and_assoc, exists_and_left, eqOk_int, eqD_int, eqOk_fr, eqD_fr, eqOk_str, eqD_str, id, lo_ws1, lo_ws2, lo_ws3, Bool.not_true, Bool.not_false, Bool.and_true, Bool.and_false, Bool.true_and, Bool.false_and, Bool.or_true, Bool.or_false, Bool.true_or, Bool.false_or, aCallV, aCallL, capOf, onlyD, startL, aIZB, sqD, xIn, allS, xMulB, xStr, isStrW, xUpper, aLRg1, aRevT, rowD, rowsD, exists_eq_left, aIZG, seqG, SG, wipeA, lstOf, allBm, allIm, all_id, any_id, ones_ok, ones_eqD, aDic0, xReprA, xAdd_i, xAdd_s, xAdd_t, xAdd_l, xSl_t, xSl_l, xSl_s, xSl_scr, xListOf_t, xListOf_l, xIdx_t, xIdx_l, xIdx_s, xIdx_r, e, em]
          cases st with
          | true =>
            have h0 : dot ns pt ≠ 0 := by omega
            simp only [aAnd, aAndV, aAsg, aAsgT, aBk, aC, aCB, aCall, aCallK, aChain, aCons, aCt, aDget, aDispM, aDput, aDrop, aGN, aGcons, aGnil, aGtup, aIE, aIL, aIR1, aIR2, aIT, aIZ, aIf, aIfS, aIsi, aLst, aLstM, aMt, aMt0, aNever, aNil, aNoP, aNot, aNotV, aNx, aOp, aOr, aOrV, aPar, aPar3, aRet, aRetN, aRevD, aRevM, aSeq, aSl, aSmP, aTst, aTup, aUn, aVar, aYes, xAbs, xApp, xBools, xEqB, xGcd, xI, xIc, xInt, xInts, xIs_nn, xIs_bb, xIs_bn, xIs_in, xIs_sn, xIs_tn, xIs_ln, xLen, xListOfM, xMax, xMin, xNeg, xPop, xSum, xTupleOf, optW, view, W.isFn, List.forall_mem_cons, forall_nil, asB, onRL, isRL, pick, keyOf, val_cells, val_mixed, val_draws, put_draws, allD, finD, startA, List.map_cons, List.map_nil, List.length_cons, List.length_nil, List.replicate, List.cons_append, List.nil_append, List.append_nil, List.getElem?_cons_zero, List.getElem?_cons_succ, List.set_cons_zero, List.set_cons_succ, Option.join_some, Option.map_some, List.filterMap_cons, List.filterMap_nil, List.take, Nat.sub_self, Nat.add_one_sub_one, Nat.reduceSub, Nat.reduceAdd, List.replicate_zero, isT, atI_0, atI_1, size2, size1, size3, size0, true_and, and_true, Bool.true_eq_false, Bool.false_eq_true, if_true, if_false, ite_true, ite_false, reduceIte, eq_self, ex_app, ex_app2, ite_tt, ite_ft, List.cons.injEq, W.d.injEq, PyData.int.injEq, PyData.tuple.injEq, exists_eq_left', and_assoc, exists_and_left, eqOk_int, eqD_int, eqOk_fr, eqD_fr, eqOk_str, eqD_str, id, lo_ws1, lo_ws2, lo_ws3, Bool.not_true, Bool.not_false, Bool.and_true, Bool.and_false, Bool.true_and, Bool.false_and, Bool.or_true, Bool.or_false, Bool.true_or, Bool.false_or, aCallV, aCallL, capOf, onlyD, startL, aIZB, sqD, xIn, allS, xMulB, xStr, isStrW, xUpper, aLRg1, aRevT, rowD, rowsD, exists_eq_left, aIZG, seqG, SG, wipeA, lstOf, allBm, allIm, all_id, any_id, ones_ok, ones_eqD, aDic0, xReprA, xAdd_i, xAdd_s, xAdd_t, xAdd_l, xSl_t, xSl_l, xSl_s, xSl_scr, xListOf_t, xListOf_l, xIdx_t, xIdx_l, xIdx_s, xIdx_r, xEqB, h0, decide_false]
            exact fin _ true _ _ _ _ _ _ (by rw [List.length_map, hns]) hb2 (by rw [dot_neg]; show (1 : Int) ≤ _; omega)
          | false =>
            simp only [aAnd, aAndV, aAsg, aAsgT, aBk, aC, aCB, aCall, aCallK, aChain, aCons, aCt, aDget, aDispM, aDput, aDrop, aGN, aGcons, aGnil, aGtup, aIE, aIL, aIR1, aIR2, aIT, aIZ, aIf, aIfS, aIsi, aLst, aLstM, aMt, aMt0, aNever, aNil, aNoP, aNot, aNotV, aNx, aOp, aOr, aOrV, aPar, aPar3, aRet, aRetN, aRevD, aRevM, aSeq, aSl, aSmP, aTst, aTup, aUn, aVar, aYes, xAbs, xApp, xBools, xEqB, xGcd, xI, xIc, xInt, xInts, xIs_nn, xIs_bb, xIs_bn, xIs_in, xIs_sn, xIs_tn, xIs_ln, xLen, xListOfM, xMax, xMin, xNeg, xPop, xSum, xTupleOf, optW, view, W.isFn, List.forall_mem_cons, forall_nil, asB, onRL, isRL, pick, keyOf, val_cells, val_mixed, val_draws, put_draws, allD, finD, startA, List.map_cons, List.map_nil, List.length_cons, List.length_nil, List.replicate, List.cons_append, List.nil_append, List.append_nil, List.getElem?_cons_zero, List.getElem?_cons_succ, List.set_cons_zero, List.set_cons_succ, Option.join_some, Option.map_some, List.filterMap_cons, List.filterMap_nil, List.take, Nat.sub_self, Nat.add_one_sub_one, Nat.reduceSub, Nat.reduceAdd, List.replicate_zero, isT, atI_0, atI_1, size2, size1, size3, size0, true_and, and_true, Bool.true_eq_false, Bool.false_eq_true, if_true, if_false, ite_true, ite_false, reduceIte, eq_self, ex_app, ex_app2, ite_tt, ite_ft, List.cons.injEq, W.d.injEq, PyData.int.injEq, PyData.tuple.injEq, exists_eq_left', and_assoc, exists_and_left, eqOk_int, eqD_int, eqOk_fr, eqD_fr, eqOk_str, eqD_str, id, lo_ws1, lo_ws2, lo_ws3, Bool.not_true, Bool.not_false, Bool.and_true, Bool.and_false, Bool.true_and, Bool.false_and, Bool.or_true, Bool.or_false, Bool.true_or, Bool.false_or, aCallV, aCallL, capOf, onlyD, startL, aIZB, sqD, xIn, allS, xMulB, xStr, isStrW, xUpper, aLRg1, aRevT, rowD, rowsD, exists_eq_left, aIZG, seqG, SG, wipeA, lstOf, allBm, allIm, all_id, any_id, ones_ok, ones_eqD, aDic0, xReprA, xAdd_i, xAdd_s, xAdd_t, xAdd_l, xSl_t, xSl_l, xSl_s, xSl_scr, xListOf_t, xListOf_l, xIdx_t, xIdx_l, xIdx_s, xIdx_r]
            exact fin _ false _ _ _ _ _ _ (by rw [List.length_map, hns]) hb2 (by rw [dot_neg]; show (0 : Int) ≤ _; omega)
      · simp only [aAnd, aAndV, aAsg, aAsgT, aBk, aC, aCB, aCall, aCallK, aChain, aCons, aCt, aDget, aDispM, aDput, aDrop, aGN, aGcons, aGnil, aGtup, aIE, aIL, aIR1, aIR2, aIT, aIZ, aIf, aIfS, aIsi, aLst, aLstM, aMt, aMt0, aNever, aNil, aNoP, aNot, aNotV, aNx, aOp, aOr, aOrV, aPar, aPar3, aRet, aRetN, aRevD, aRevM, aSeq, aSl, aSmP, aTst, aTup, aUn, aVar, aYes, xAbs, xApp, xBools, xEqB, xGcd, xI, xIc, xInt, xInts, xIs_nn, xIs_bb, xIs_bn, xIs_in, xIs_sn, xIs_tn, xIs_ln, xLen, xListOfM, xMax, xMin, xNeg, xPop, xSum, xTupleOf, optW, view, W.isFn, List.forall_mem_cons, forall_nil, asB, onRL, isRL, pick, keyOf, val_cells, val_mixed, val_draws, put_draws, allD, finD, startA, List.map_cons, List.map_nil, List.length_cons, List.length_nil, List.replicate, List.cons_append, List.nil_append, List.append_nil, List.getElem?_cons_zero, List.getElem?_cons_succ, List.set_cons_zero, List.set_cons_succ, Option.join_some, Option.map_some, List.filterMap_cons, List.filterMap_nil, List.take, Nat.sub_self, Nat.add_one_sub_one, Nat.reduceSub, Nat.reduceAdd, List.replicate_zero, isT, atI_0, atI_1, size2, size1, size3, size0, true_and, and_true, Bool.true_eq_false, Bool.false_eq_true, if_true, if_false, ite_true, ite_false, reduceIte, eq_self, ex_app, ex_app2, ite_tt, ite_ft, List.cons.injEq, W.d.injEq, PyData.int.injEq, PyData.tuple.injEq, exists_eq_left', and_assoc, exists_and_left, eqOk_int, eqD_int, eqOk_fr, eqD_fr, eqOk_str, eqD_str, id, lo_ws1, lo_ws2, lo_ws3, Bool.not_true, Bool.not_false, Bool.and_true, Bool.and_false, Bool.true_and, Bool.false_and, Bool.or_true, Bool.or_false, Bool.true_or, Bool.false_or, aCallV, aCallL, capOf, onlyD, startL, aIZB, sqD, xIn, allS, xMulB, xStr, isStrW, xUpper, aLRg1, aRevT, rowD, rowsD, exists_eq_left, aIZG, seqG, SG, wipeA, lstOf, allBm, allIm, all_id, any_id, ones_ok, ones_eqD, aDic0, xReprA, xAdd_i, xAdd_s, xAdd_t, xAdd_l, xSl_t, xSl_l, xSl_s, xSl_scr, xListOf_t, xListOf_l, xIdx_t, xIdx_l, xIdx_s, xIdx_r, hneg, decide_false, e]
        cases st with
        | true =>
          simp only [aAnd, aAndV, aAsg, aAsgT, aBk, aC, aCB, aCall, aCallK, aChain, aCons, aCt, aDget, aDispM, aDput, aDrop, aGN, aGcons, aGnil, aGtup, aIE, aIL, aIR1, aIR2, aIT, aIZ, aIf, aIfS, aIsi, aLst, aLstM, aMt, aMt0, aNever, aNil, aNoP, aNot, aNotV, aNx, aOp, aOr, aOrV, aPar, aPar3, aRet, aRetN, aRevD, aRevM, aSeq, aSl, aSmP, aTst, aTup, aUn, aVar, aYes, xAbs, xApp, xBools, xEqB, xGcd, xI, xIc, xInt, xInts, xIs_nn, xIs_bb, xIs_bn, xIs_in, xIs_sn, xIs_tn, xIs_ln, xLen, xListOfM, xMax, xMin, xNeg, xPop, xSum, xTupleOf, optW, view, W.isFn, List.forall_mem_cons, forall_nil, asB, onRL, isRL, pick, keyOf, val_cells, val_mixed, val_draws, put_draws, allD, finD, startA, List.map_cons, List.map_nil, List.length_cons, List.length_nil, List.replicate, List.cons_append, List.nil_append, List.append_nil, List.getElem?_cons_zero, List.getElem?_cons_succ, List.set_cons_zero, List.set_cons_succ, Option.join_some, Option.map_some, List.filterMap_cons, List.filterMap_nil, List.take, Nat.sub_self, Nat.add_one_sub_one, Nat.reduceSub, Nat.reduceAdd, List.replicate_zero, isT, atI_0, atI_1, size2, size1, size3, size0, true_and, and_true, Bool.true_eq_false, Bool.false_eq_true, if_true, if_false, ite_true, ite_false, reduceIte, eq_self, ex_app, ex_app2, ite_tt, ite_ft, List.cons.injEq, W.d.injEq, PyData.int.injEq, PyData.tuple.injEq, exists_eq_left', and_assoc, exists_and_left, eqOk_int, eqD_int, eqOk_fr, eqD_fr, eqOk_str, eqD_str, id, lo_ws1, lo_ws2, lo_ws3, Bool.not_true, Bool.not_false, Bool.and_true, Bool.and_false, Bool.true_and, Bool.false_and, Bool.or_true, Bool.or_false, Bool.true_or, Bool.false_or, aCallV, aCallL, capOf, onlyD, startL, aIZB, sqD, xIn, allS, xMulB, xStr, isStrW, xUpper, aLRg1, aRevT, rowD, rowsD, exists_eq_left, aIZG, seqG, SG, wipeA, lstOf, allBm, allIm, all_id, any_id, ones_ok, ones_eqD, aDic0, xReprA, xAdd_i, xAdd_s, xAdd_t, xAdd_l, xSl_t, xSl_l, xSl_s, xSl_scr, xListOf_t, xListOf_l, xIdx_t, xIdx_l, xIdx_s, xIdx_r, xEqB]
          refine fin ns (!decide (dot ns pt = 0)) _ _ _ _ _ _ hns bns2 ?_
          by_cases h0 : dot ns pt = 0
          · rw [decide_eq_true h0]; show (0 : Int) ≤ _; omega
          · rw [decide_eq_false h0]; show (1 : Int) ≤ _; omega
        | false =>
          simp only [aAnd, aAndV, aAsg, aAsgT, aBk, aC, aCB, aCall, aCallK, aChain, aCons, aCt, aDget, aDispM, aDput, aDrop, aGN, aGcons, aGnil, aGtup, aIE, aIL, aIR1, aIR2, aIT, aIZ, aIf, aIfS, aIsi, aLst, aLstM, aMt, aMt0, aNever, aNil, aNoP, aNot, aNotV, aNx, aOp, aOr, aOrV, aPar, aPar3, aRet, aRetN, aRevD, aRevM, aSeq, aSl, aSmP, aTst, aTup, aUn, aVar, aYes, xAbs, xApp, xBools, xEqB, xGcd, xI, xIc, xInt, xInts, xIs_nn, xIs_bb, xIs_bn, xIs_in, xIs_sn, xIs_tn, xIs_ln, xLen, xListOfM, xMax, xMin, xNeg, xPop, xSum, xTupleOf, optW, view, W.isFn, List.forall_mem_cons, forall_nil, asB, onRL, isRL, pick, keyOf, val_cells, val_mixed, val_draws, put_draws, allD, finD, startA, List.map_cons, List.map_nil, List.length_cons, List.length_nil, List.replicate, List.cons_append, List.nil_append, List.append_nil, List.getElem?_cons_zero, List.getElem?_cons_succ, List.set_cons_zero, List.set_cons_succ, Option.join_some, Option.map_some, List.filterMap_cons, List.filterMap_nil, List.take, Nat.sub_self, Nat.add_one_sub_one, Nat.reduceSub, Nat.reduceAdd, List.replicate_zero, isT, atI_0, atI_1, size2, size1, size3, size0, true_and, and_true, Bool.true_eq_false, Bool.false_eq_true, if_true, if_false, ite_true, ite_false, reduceIte, eq_self, ex_app, ex_app2, ite_tt, ite_ft, List.cons.injEq, W.d.injEq, PyData.int.injEq, PyData.tuple.injEq, exists_eq_left', and_assoc, exists_and_left, eqOk_int, eqD_int, eqOk_fr, eqD_fr, eqOk_str, eqD_str, id, lo_ws1, lo_ws2, lo_ws3, Bool.not_true, Bool.not_false, Bool.and_true, Bool.and_false, Bool.true_and, Bool.false_and, Bool.or_true, Bool.or_false, Bool.true_or, Bool.false_or, aCallV, aCallL, capOf, onlyD, startL, aIZB, sqD, xIn, allS, xMulB, xStr, isStrW, xUpper, aLRg1, aRevT, rowD, rowsD, exists_eq_left, aIZG, seqG, SG, wipeA, lstOf, allBm, allIm, all_id, any_id, ones_ok, ones_eqD, aDic0, xReprA, xAdd_i, xAdd_s, xAdd_t, xAdd_l, xSl_t, xSl_l, xSl_s, xSl_scr, xListOf_t, xListOf_l, xIdx_t, xIdx_l, xIdx_s, xIdx_r]
          exact fin ns false _ _ _ _ _ _ hns bns2 (by show (0 : Int) ≤ _; omega)
    · rintro env ih3 ⟨R, x1, x2, x3, x4, x5, x6, rfl, hRl, hR, hf, hd3⟩
      rw [rng_len, Int.toNat_natCast] at hRl hd3
      have e : ih3[ih2.length]? = some (.lst ((R.map rowD).map .d)) := by
        rw [hlen2, hd3.at_ r.length, List.getElem?_append_right (Nat.le_refl _), Nat.sub_self, List.map_map]
        rfl
      simp only [aAnd, aAndV, aAsg, aAsgT, aBk, aC, aCB, aCall, aCallK, aChain, aCons, aCt, aDget, aDispM, aDput, aDrop, aGN, aGcons, aGnil, aGtup, aIE, aIL, aIR1, aIR2, aIT, aIZ, aIf, aIfS, aIsi, aLst, aLstM, aMt, aMt0, aNever, aNil, aNoP, aNot, aNotV, aNx, aOp, aOr, aOrV, aPar, aPar3, aRet, aRetN, aRevD, aRevM, aSl, aSmP, aTst, aTup, aUn, aVar, aYes, xAbs, xApp, xBools, xEqB, xGcd, xI, xIc, xInt, xInts, xIs_nn, xIs_bb, xIs_bn, xIs_in, xIs_sn, xIs_tn, xIs_ln, xLen, xListOfM, xMax, xMin, xNeg, xPop, xSum, xTupleOf, optW, view, W.isFn, List.forall_mem_cons, forall_nil, asB, onRL, isRL, pick, keyOf, val_cells, val_mixed, val_draws, put_draws, allD, finD, startA, List.map_cons, List.map_nil, List.length_cons, List.length_nil, List.replicate, List.cons_append, List.nil_append, List.append_nil, List.getElem?_cons_zero, List.getElem?_cons_succ, List.set_cons_zero, List.set_cons_succ, Option.join_some, Option.map_some, List.filterMap_cons, List.filterMap_nil, List.take, Nat.sub_self, Nat.add_one_sub_one, Nat.reduceSub, Nat.reduceAdd, List.replicate_zero, isT, atI_0, atI_1, size2, size1, size3, size0, true_and, and_true, Bool.true_eq_false, Bool.false_eq_true, if_true, if_false, ite_true, ite_false, reduceIte, eq_self, ex_app, ex_app2, ite_tt, ite_ft, List.cons.injEq, W.d.injEq, PyData.int.injEq, PyData.tuple.injEq, exists_eq_left', and_assoc, exists_and_left, eqOk_int, eqD_int, eqOk_fr, eqD_fr, eqOk_str, eqD_str, id, lo_ws1, lo_ws2, lo_ws3, Bool.not_true, Bool.not_false, Bool.and_true, Bool.and_false, Bool.true_and, Bool.false_and, Bool.or_true, Bool.or_false, Bool.true_or, Bool.false_or, aCallV, aCallL, capOf, onlyD, startL, aIZB, sqD, xIn, allS, xMulB, xStr, isStrW, xUpper, aLRg1, aRevT, rowD, rowsD, exists_eq_left, aIZG, seqG, SG, wipeA, lstOf, allBm, allIm, all_id, any_id, ones_ok, ones_eqD, aDic0, xReprA, xAdd_i, xAdd_s, xAdd_t, xAdd_l, xSl_t, xSl_l, xSl_s, xSl_scr, xListOf_t, xListOf_l, xIdx_t, xIdx_l, xIdx_s, xIdx_r, e, allD_map]
      exact finT_d hd hd3 fun ih4 hd4 => q R pt ih4 (hR.ok m1 m2 (by omega)) hRl hi hpt hf (hd4.mono (by omega))
theorem ok__law_rows_with_point (T : Ty K mg base Tb) : Fdf P w K mg base (SG Tb) 3 "_law_rows_with_point" ["deck", "many", "count", "most"] [] sp__law_rows_with_point := T.d__law_rows_with_point.fd fun f fd Fn => g__law_rows_with_point T Fn
def iv_ar (m : Nat) (xs : List D) (ob : IH) : Nat → En → IH → Prop := fun i env ih => ∃ y : Option W, env = [some (.d (.int m)), some (.d (.tuple xs)), y] ∧ ih = ob ∧ (xs.take i).all (fStrict m) = true
def sp__law_are_rows : ASp := fun ws ih Q => ∃ (m : Nat) (x : D), ws = [.d (.int m), .d x] ∧ Sd 60 8000 x ∧ Q (.d (.bool (fRows m x))) ih
theorem g__law_are_rows (T : Ty K mg base Tb) {f : Addr} {fd : FuncData} (Fn : Fun K "_law_are_rows" "_law_are_rows" st__law_are_rows f fd) : FnG P w K mg base (SG Tb) 3 f fd ["many", "thing"] sp__law_are_rows := by
  refine fnG_of Fn sc__law_are_rows ((bv_cons (sv_if (tv_not (tv_val (ev_isi .tuple (ev_var 1) rfl T.b_isinstance rfl T.b_tuple bt_tuple bt_isinstance))) (bv_one (sv_ret ev_bl)) bv_nil)
      (bv_cons (sv_for (iv_tup (ev_var 1)) (GW.gv (vs := [2]) (gw_name 2)) (bv_one (sv_if (WV.tv (wv_or (tv_not (tv_val (ev_isi .tuple (ev_var 2) rfl T.b_isinstance rfl T.b_tuple bt_tuple bt_isinstance))) (wv_or (tv_cmp ov_ne (ev_callB cv_len rfl T.b_len bt_len (av_cons (ev_var 2) av_nil)) ev_int) (wv_or (tv_not (tv_val (ev_isi .bool (ev_ix (ev_var 2) ev_int) rfl T.b_isinstance rfl T.b_bool bt_bool bt_isinstance))) (wv_or1 (tv_not (tv_val (evc (ok__law_are_ints T) (Nat.le_of_ble_eq_true rfl) rfl (av_cons (ev_ix (ev_var 2) ev_int) (av_cons (ev_var 0) (av_cons ev_non av_nil))))))))))) (bv_one (sv_ret ev_bl)) bv_nil)))
      (bv_one (sv_ret ev_bl))))) fun ws ob Qa hl h => ?_
  obtain ⟨m, x, rfl, hz, q⟩ := h
  cases x with
  | tuple xs =>
    simp only [aAnd, aAndV, aAsg, aAsgT, aBk, aC, aCB, aCall, aCallK, aChain, aCons, aCt, aDget, aDispM, aDput, aDrop, aGN, aGcons, aGnil, aGtup, aIE, aIL, aIR1, aIR2, aIT, aIZ, aIf, aIfS, aIsi, aLst, aLstM, aMt, aMt0, aNever, aNil, aNoP, aNot, aNotV, aNx, aOp, aOr, aOrV, aPar, aPar3, aRet, aRetN, aRevD, aRevM, aSeq, aSl, aSmP, aTst, aTup, aUn, aVar, aYes, xAbs, xApp, xBools, xEqB, xGcd, xI, xIc, xInt, xInts, xIs_nn, xIs_bb, xIs_bn, xIs_in, xIs_sn, xIs_tn, xIs_ln, xLen, xListOfM, xMax, xMin, xNeg, xPop, xSum, xTupleOf, optW, view, W.isFn, List.forall_mem_cons, forall_nil, asB, onRL, isRL, pick, keyOf, val_cells, val_mixed, val_draws, put_draws, allD, finD, startA, List.map_cons, List.map_nil, List.length_cons, List.length_nil, List.replicate, List.cons_append, List.nil_append, List.append_nil, List.getElem?_cons_zero, List.getElem?_cons_succ, List.set_cons_zero, List.set_cons_succ, Option.join_some, Option.map_some, List.filterMap_cons, List.filterMap_nil, List.take, Nat.sub_self, Nat.add_one_sub_one, Nat.reduceSub, Nat.reduceAdd, List.replicate_zero, isT, atI_0, atI_1, size2, size1, size3, size0, true_and, and_true, Bool.true_eq_false, Bool.false_eq_true, if_true, if_false, ite_true, ite_false, reduceIte, eq_self, ex_app, ex_app2, ite_tt, ite_ft, List.cons.injEq, W.d.injEq, PyData.int.injEq, PyData.tuple.injEq, exists_eq_left', and_assoc, exists_and_left, eqOk_int, eqD_int, eqOk_fr, eqD_fr, eqOk_str, eqD_str, id, lo_ws1, lo_ws2, lo_ws3, Bool.not_true, Bool.not_false, Bool.and_true, Bool.and_false, Bool.true_and, Bool.false_and, Bool.or_true, Bool.or_false, Bool.true_or, Bool.false_or, aCallV, aCallL, capOf, onlyD, startL, aIZB, sqD, xIn, allS, xMulB, xStr, isStrW, xUpper, aLRg1, aRevT, rowD, rowsD, exists_eq_left, aIZG, seqG, SG, wipeA, lstOf, allBm, allIm, all_id, any_id, ones_ok, ones_eqD, aDic0, xReprA, xAdd_i, xAdd_s, xAdd_t, xAdd_l, xSl_t, xSl_l, xSl_s, xSl_scr, xListOf_t, xListOf_l, xIdx_t, xIdx_l, xIdx_s, xIdx_r, aFor]
    refine ⟨iv_ar m xs ob, ⟨_, rfl, rfl, rfl⟩, ?_, ?_⟩
    · rintro i d env ih hd ⟨y, rfl, rfl, hk⟩
      have hm := List.mem_of_getElem? hd
      have fin : fStrict m d = false → fRows m (.tuple xs) = false := fun e => List.all_eq_false.mpr ⟨d, hm, by rw [e]; exact Bool.false_ne_true⟩
      have nxt : fStrict m d = true → ∀ y', iv_ar m xs ih (i + 1) [some (.d (.int m)), some (.d (.tuple xs)), y'] ih := fun e y' => ⟨y', rfl, rfl, by rw [List.take_add_one, hd, List.all_append, hk]; simp [e]⟩
      by_cases e : tupN d 2 = true
      · obtain ⟨a, b, rfl⟩ := tup2 e
        have e2 : decide (((2 : Nat) : Int) = 2) = true := rfl
        have za := (hz.tupI.2 _ hm).tupI.2 a (by simp)
        cases b with
        | bool s =>
          simp only [aAnd, aAndV, aAsg, aAsgT, aBk, aC, aCB, aCall, aCallK, aChain, aCons, aCt, aDget, aDispM, aDput, aDrop, aGN, aGcons, aGnil, aGtup, aIE, aIL, aIR1, aIR2, aIT, aIZ, aIf, aIfS, aIsi, aLst, aLstM, aMt, aMt0, aNever, aNil, aNoP, aNot, aNotV, aNx, aOp, aOr, aOrV, aPar, aPar3, aRet, aRetN, aRevD, aRevM, aSeq, aSl, aSmP, aTst, aTup, aUn, aVar, aYes, xAbs, xApp, xBools, xEqB, xGcd, xI, xIc, xInt, xInts, xIs_nn, xIs_bb, xIs_bn, xIs_in, xIs_sn, xIs_tn, xIs_ln, xLen, xListOfM, xMax, xMin, xNeg, xPop, xSum, xTupleOf, optW, view, W.isFn, List.forall_mem_cons, forall_nil, asB, onRL, isRL, pick, keyOf, val_cells, val_mixed, val_draws, put_draws, allD, finD, startA, List.map_cons, List.map_nil, List.length_cons, List.length_nil, List.replicate, List.cons_append, List.nil_append, List.append_nil, List.getElem?_cons_zero, List.getElem?_cons_succ, List.set_cons_zero, List.set_cons_succ, Option.join_some, Option.map_some, List.filterMap_cons, List.filterMap_nil, List.take, Nat.sub_self, Nat.add_one_sub_one, Nat.reduceSub, Nat.reduceAdd, List.replicate_zero, isT, atI_0, atI_1, size2, size1, size3, size0, true_and, and_true, Bool.true_eq_false, Bool.false_eq_true, if_true, if_false, ite_true, ite_false, reduceIte, eq_self, ex_app, ex_app2, ite_tt, ite_ft, List.cons.injEq, W.d.injEq, PyData.int.injEq, PyData.tuple.injEq, exists_eq_left', and_assoc, exists_and_left, eqOk_int, eqD_int, eqOk_fr, eqD_fr, eqOk_str, eqD_str, id, lo_ws1, lo_ws2, lo_ws3, Bool.not_true, Bool.not_false, Bool.and_true, Bool.and_false, Bool.true_and, Bool.false_and, Bool.or_true, Bool.or_false, Bool.true_or, Bool.false_or, aCallV, aCallL, capOf, onlyD, startL, aIZB, sqD, xIn, allS, xMulB, xStr, isStrW, xUpper, aLRg1, aRevT, rowD, rowsD, exists_eq_left, aIZG, seqG, SG, wipeA, lstOf, allBm, allIm, all_id, any_id, ones_ok, ones_eqD, aDic0, xReprA, xAdd_i, xAdd_s, xAdd_t, xAdd_l, xSl_t, xSl_l, xSl_s, xSl_scr, xListOf_t, xListOf_l, xIdx_t, xIdx_l, xIdx_s, xIdx_r, xEqB, e2, sp__law_are_ints]
          refine ⟨m, rfl, za, ?_⟩
          have es : fStrict m (.tuple [a, .bool s]) = fNums m a := by unfold fStrict isBo; simp only; rw [Bool.and_true]
          rw [es] at fin nxt
          cases e5 : fNums m a with
          | true => simp only [aAnd, aAndV, aAsg, aAsgT, aBk, aC, aCB, aCall, aCallK, aChain, aCons, aCt, aDget, aDispM, aDput, aDrop, aGN, aGcons, aGnil, aGtup, aIE, aIL, aIR1, aIR2, aIT, aIZ, aIf, aIfS, aIsi, aLst, aLstM, aMt, aMt0, aNever, aNil, aNoP, aNot, aNotV, aNx, aOp, aOr, aOrV, aPar, aPar3, aRet, aRetN, aRevD, aRevM, aSeq, aSl, aSmP, aTst, aTup, aUn, aVar, aYes, xAbs, xApp, xBools, xEqB, xGcd, xI, xIc, xInt, xInts, xIs_nn, xIs_bb, xIs_bn, xIs_in, xIs_sn, xIs_tn, xIs_ln, xLen, xListOfM, xMax, xMin, xNeg, xPop, xSum, xTupleOf, optW, view, W.isFn, List.forall_mem_cons, forall_nil, asB, onRL, isRL, pick, keyOf, val_cells, val_mixed, val_draws, put_draws, allD, finD, startA, List.map_cons, List.map_nil, List.length_cons, List.length_nil, List.replicate, List.cons_append, List.nil_append, List.append_nil, List.getElem?_cons_zero, List.getElem?_cons_succ, List.set_cons_zero, List.set_cons_succ, Option.join_some, Option.map_some, List.filterMap_cons, List.filterMap_nil, List.take, Nat.sub_self, Nat.add_one_sub_one, Nat.reduceSub, Nat.reduceAdd, List.replicate_zero, isT, atI_0, atI_1, size2, size1, size3, size0, true_and, and_true, Bool.true_eq_false, Bool.false_eq_true, if_true, if_false, ite_true, ite_false, reduceIte, eq_self, ex_app, ex_app2, ite_tt, ite_ft, List.cons.injEq, W.d.injEq, PyData.int.injEq, PyData.tuple.injEq, exists_eq_left', and_assoc, exists_and_left, eqOk_int, eqD_int, eqOk_fr, eqD_fr, eqOk_str, eqD_str, id, lo_ws1, lo_ws2, lo_ws3, Bool.not_true, Bool.not_false, Bool.and_true, Bool.and_false, Bool.true_and, Bool.false_and, Bool.or_true, Bool.or_false, Bool.true_or, Bool.false_or, aCallV, aCallL, capOf, onlyD, startL, aIZB, sqD, xIn, allS, xMulB, xStr, isStrW, xUpper, aLRg1, aRevT, rowD, rowsD, exists_eq_left, aIZG, seqG, SG, wipeA, lstOf, allBm, allIm, all_id, any_id, ones_ok, ones_eqD, aDic0, xReprA, xAdd_i, xAdd_s, xAdd_t, xAdd_l, xSl_t, xSl_l, xSl_s, xSl_scr, xListOf_t, xListOf_l, xIdx_t, xIdx_l, xIdx_s, xIdx_r]; exact nxt e5 _
          | false => rw [fin e5] at q; simp only [aAnd, aAndV, aAsg, aAsgT, aBk, aC, aCB, aCall, aCallK, aChain, aCons, aCt, aDget, aDispM, aDput, aDrop, aGN, aGcons, aGnil, aGtup, aIE, aIL, aIR1, aIR2, aIT, aIZ, aIf, aIfS, aIsi, aLst, aLstM, aMt, aMt0, aNever, aNil, aNoP, aNot, aNotV, aNx, aOp, aOr, aOrV, aPar, aPar3, aRet, aRetN, aRevD, aRevM, aSeq, aSl, aSmP, aTst, aTup, aUn, aVar, aYes, xAbs, xApp, xBools, xEqB, xGcd, xI, xIc, xInt, xInts, xIs_nn, xIs_bb, xIs_bn, xIs_in, xIs_sn, xIs_tn, xIs_ln, xLen, xListOfM, xMax, xMin, xNeg, xPop, xSum, xTupleOf, optW, view, W.isFn, List.forall_mem_cons, forall_nil, asB, onRL, isRL, pick, keyOf, val_cells, val_mixed, val_draws, put_draws, allD, finD, startA, List.map_cons, List.map_nil, List.length_cons, List.length_nil, List.replicate, List.cons_append, List.nil_append, List.append_nil, List.getElem?_cons_zero, List.getElem?_cons_succ, List.set_cons_zero, List.set_cons_succ, Option.join_some, Option.map_some, List.filterMap_cons, List.filterMap_nil, List.take, Nat.sub_self, Nat.add_one_sub_one, Nat.reduceSub, Nat.reduceAdd, List.replicate_zero, isT, atI_0, atI_1, size2, size1, size3, size0, true_and, and_true, Bool.true_eq_false, Bool.false_eq_true, if_true, if_false, ite_true, ite_false, reduceIte, eq_self, ex_app, ex_app2, ite_tt, ite_ft, List.cons.injEq, W.d.injEq, PyData.int.injEq, PyData.tuple.injEq, exists_eq_left', and_assoc, exists_and_left, eqOk_int, eqD_int, eqOk_fr, eqD_fr, eqOk_str, eqD_str, id, lo_ws1, lo_ws2, lo_ws3, Bool.not_true, Bool.not_false, Bool.and_true, Bool.and_false, Bool.true_and, Bool.false_and, Bool.or_true, Bool.or_false, Bool.true_or, Bool.false_or, aCallV, aCallL, capOf, onlyD, startL, aIZB, sqD, xIn, allS, xMulB, xStr, isStrW, xUpper, aLRg1, aRevT, rowD, rowsD, exists_eq_left, aIZG, seqG, SG, wipeA, lstOf, allBm, allIm, all_id, any_id, ones_ok, ones_eqD, aDic0, xReprA, xAdd_i, xAdd_s, xAdd_t, xAdd_l, xSl_t, xSl_l, xSl_s, xSl_scr, xListOf_t, xListOf_l, xIdx_t, xIdx_l, xIdx_s, xIdx_r]; exact q
        | _ =>
          rw [fin (by unfold fStrict isBo; simp only; rw [Bool.and_false])] at q
          simp only [aAnd, aAndV, aAsg, aAsgT, aBk, aC, aCB, aCall, aCallK, aChain, aCons, aCt, aDget, aDispM, aDput, aDrop, aGN, aGcons, aGnil, aGtup, aIE, aIL, aIR1, aIR2, aIT, aIZ, aIf, aIfS, aIsi, aLst, aLstM, aMt, aMt0, aNever, aNil, aNoP, aNot, aNotV, aNx, aOp, aOr, aOrV, aPar, aPar3, aRet, aRetN, aRevD, aRevM, aSeq, aSl, aSmP, aTst, aTup, aUn, aVar, aYes, xAbs, xApp, xBools, xEqB, xGcd, xI, xIc, xInt, xInts, xIs_nn, xIs_bb, xIs_bn, xIs_in, xIs_sn, xIs_tn, xIs_ln, xLen, xListOfM, xMax, xMin, xNeg, xPop, xSum, xTupleOf, optW, view, W.isFn, List.forall_mem_cons, forall_nil, asB, onRL, isRL, pick, keyOf, val_cells, val_mixed, val_draws, put_draws, allD, finD, startA, List.map_cons, List.map_nil, List.length_cons, List.length_nil, List.replicate, List.cons_append, List.nil_append, List.append_nil, List.getElem?_cons_zero, List.getElem?_cons_succ, List.set_cons_zero, List.set_cons_succ, Option.join_some, Option.map_some, List.filterMap_cons, List.filterMap_nil, List.take, Nat.sub_self, Nat.add_one_sub_one, Nat.reduceSub, Nat.reduceAdd, List.replicate_zero, isT, atI_0, atI_1, size2, size1, size3, size0, true_and, and_true, Bool.true_eq_false, Bool.false_eq_true, if_true, if_false, ite_true, ite_false, reduceIte, eq_self, ex_app, ex_app2, ite_tt, ite_ft, List.cons.injEq, W.d.injEq, PyData.int.injEq, PyData.tuple.injEq, exists_eq_left', and_assoc, exists_and_left, eqOk_int, eqD_int, eqOk_fr, eqD_fr, eqOk_str, eqD_str, id, lo_ws1, lo_ws2, lo_ws3, Bool.not_true, Bool.not_false, Bool.and_true, Bool.and_false, Bool.true_and, Bool.false_and, Bool.or_true, Bool.or_false, Bool.true_or, Bool.false_or, aCallV, aCallL, capOf, onlyD, startL, aIZB, sqD, xIn, allS, xMulB, xStr, isStrW, xUpper, aLRg1, aRevT, rowD, rowsD, exists_eq_left, aIZG, seqG, SG, wipeA, lstOf, allBm, allIm, all_id, any_id, ones_ok, ones_eqD, aDic0, xReprA, xAdd_i, xAdd_s, xAdd_t, xAdd_l, xSl_t, xSl_l, xSl_s, xSl_scr, xListOf_t, xListOf_l, xIdx_t, xIdx_l, xIdx_s, xIdx_r, xEqB, e2]
          exact q
      · rw [Bool.not_eq_true] at e
        rw [fin (strict_no e)] at q
        cases d with
        | tuple ys =>
          have e1 : decide ((ys.length : Int) = 2) = false := e
          simp only [aAnd, aAndV, aAsg, aAsgT, aBk, aC, aCB, aCall, aCallK, aChain, aCons, aCt, aDget, aDispM, aDput, aDrop, aGN, aGcons, aGnil, aGtup, aIE, aIL, aIR1, aIR2, aIT, aIZ, aIf, aIfS, aIsi, aLst, aLstM, aMt, aMt0, aNever, aNil, aNoP, aNot, aNotV, aNx, aOp, aOr, aOrV, aPar, aPar3, aRet, aRetN, aRevD, aRevM, aSeq, aSl, aSmP, aTst, aTup, aUn, aVar, aYes, xAbs, xApp, xBools, xEqB, xGcd, xI, xIc, xInt, xInts, xIs_nn, xIs_bb, xIs_bn, xIs_in, xIs_sn, xIs_tn, xIs_ln, xLen, xListOfM, xMax, xMin, xNeg, xPop, xSum, xTupleOf, optW, view, W.isFn, List.forall_mem_cons, forall_nil, asB, onRL, isRL, pick, keyOf, val_cells, val_mixed, val_draws, put_draws, allD, finD, startA, List.map_cons, List.map_nil, List.length_cons, List.length_nil, List.replicate, List.cons_append, List.nil_append, List.append_nil, List.getElem?_cons_zero, List.getElem?_cons_succ, List.set_cons_zero, List.set_cons_succ, Option.join_some, Option.map_some, List.filterMap_cons, List.filterMap_nil, List.take, Nat.sub_self, Nat.add_one_sub_one, Nat.reduceSub, Nat.reduceAdd, List.replicate_zero, isT, atI_0, atI_1, size2, size1, size3, size0, true_and, and_true, Bool.true_eq_false, Bool.false_eq_true, if_true, if_false, ite_true, ite_false, reduceIte, eq_self, ex_app, ex_app2, ite_tt, ite_ft, List.cons.injEq, W.d.injEq, PyData.int.injEq, PyData.tuple.injEq, exists_eq_left', and_assoc, exists_and_left, eqOk_int, eqD_int, eqOk_fr, eqD_fr, eqOk_str, eqD_str, id, lo_ws1, lo_ws2, lo_ws3, Bool.not_true, Bool.not_false, Bool.and_true, Bool.and_false, Bool.true_and, Bool.false_and, Bool.or_true, Bool.or_false, Bool.true_or, Bool.false_or, aCallV, aCallL, capOf, onlyD, startL, aIZB, sqD, xIn, allS, xMulB, xStr, isStrW, xUpper, aLRg1, aRevT, rowD, rowsD, exists_eq_left, aIZG, seqG, SG, wipeA, lstOf, allBm, allIm, all_id, any_id, ones_ok, ones_eqD, aDic0, xReprA, xAdd_i, xAdd_s, xAdd_t, xAdd_l, xSl_t, xSl_l, xSl_s, xSl_scr, xListOf_t, xListOf_l, xIdx_t, xIdx_l, xIdx_s, xIdx_r, xEqB, e1]
          exact q
        | _ => simp only [aAnd, aAndV, aAsg, aAsgT, aBk, aC, aCB, aCall, aCallK, aChain, aCons, aCt, aDget, aDispM, aDput, aDrop, aGN, aGcons, aGnil, aGtup, aIE, aIL, aIR1, aIR2, aIT, aIZ, aIf, aIfS, aIsi, aLst, aLstM, aMt, aMt0, aNever, aNil, aNoP, aNot, aNotV, aNx, aOp, aOr, aOrV, aPar, aPar3, aRet, aRetN, aRevD, aRevM, aSeq, aSl, aSmP, aTst, aTup, aUn, aVar, aYes, xAbs, xApp, xBools, xEqB, xGcd, xI, xIc, xInt, xInts, xIs_nn, xIs_bb, xIs_bn, xIs_in, xIs_sn, xIs_tn, xIs_ln, xLen, xListOfM, xMax, xMin, xNeg, xPop, xSum, xTupleOf, optW, view, W.isFn, List.forall_mem_cons, forall_nil, asB, onRL, isRL, pick, keyOf, val_cells, val_mixed, val_draws, put_draws, allD, finD, startA, List.map_cons, List.map_nil, List.length_cons, List.length_nil, List.replicate, List.cons_append, List.nil_append, List.append_nil, List.getElem?_cons_zero, List.getElem?_cons_succ, List.set_cons_zero, List.set_cons_succ, Option.join_some, Option.map_some, List.filterMap_cons, List.filterMap_nil, List.take, Nat.sub_self, Nat.add_one_sub_one, Nat.reduceSub, Nat.reduceAdd, List.replicate_zero, isT, atI_0, atI_1, size2, size1, size3, size0, true_and, and_true, Bool.true_eq_false, Bool.false_eq_true, if_true, if_false, ite_true, ite_false, reduceIte, eq_self, ex_app, ex_app2, ite_tt, ite_ft, List.cons.injEq, W.d.injEq, PyData.int.injEq, PyData.tuple.injEq, exists_eq_left', and_assoc, exists_and_left, eqOk_int, eqD_int, eqOk_fr, eqD_fr, eqOk_str, eqD_str, id, lo_ws1, lo_ws2, lo_ws3, Bool.not_true, Bool.not_false, Bool.and_true, Bool.and_false, Bool.true_and, Bool.false_and, Bool.or_true, Bool.or_false, Bool.true_or, Bool.false_or, aCallV, aCallL, capOf, onlyD, startL, aIZB, sqD, xIn, allS, xMulB, xStr, isStrW, xUpper, aLRg1, aRevT, rowD, rowsD, exists_eq_left, aIZG, seqG, SG, wipeA, lstOf, allBm, allIm, all_id, any_id, ones_ok, ones_eqD, aDic0, xReprA, xAdd_i, xAdd_s, xAdd_t, xAdd_l, xSl_t, xSl_l, xSl_s, xSl_scr, xListOf_t, xListOf_l, xIdx_t, xIdx_l, xIdx_s, xIdx_r]; exact q
    · rintro env ih ⟨y, rfl, rfl, hk⟩
      rw [List.take_length] at hk
      have : fRows m (.tuple xs) = true := hk
      rw [this] at q
      simp only [aAnd, aAndV, aAsg, aAsgT, aBk, aC, aCB, aCall, aCallK, aChain, aCons, aCt, aDget, aDispM, aDput, aDrop, aGN, aGcons, aGnil, aGtup, aIE, aIL, aIR1, aIR2, aIT, aIZ, aIf, aIfS, aIsi, aLst, aLstM, aMt, aMt0, aNever, aNil, aNoP, aNot, aNotV, aNx, aOp, aOr, aOrV, aPar, aPar3, aRet, aRetN, aRevD, aRevM, aSeq, aSl, aSmP, aTst, aTup, aUn, aVar, aYes, xAbs, xApp, xBools, xEqB, xGcd, xI, xIc, xInt, xInts, xIs_nn, xIs_bb, xIs_bn, xIs_in, xIs_sn, xIs_tn, xIs_ln, xLen, xListOfM, xMax, xMin, xNeg, xPop, xSum, xTupleOf, optW, view, W.isFn, List.forall_mem_cons, forall_nil, asB, onRL, isRL, pick, keyOf, val_cells, val_mixed, val_draws, put_draws, allD, finD, startA, List.map_cons, List.map_nil, List.length_cons, List.length_nil, List.replicate, List.cons_append, List.nil_append, List.append_nil, List.getElem?_cons_zero, List.getElem?_cons_succ, List.set_cons_zero, List.set_cons_succ, Option.join_some, Option.map_some, List.filterMap_cons, List.filterMap_nil, List.take, Nat.sub_self, Nat.add_one_sub_one, Nat.reduceSub, Nat.reduceAdd, List.replicate_zero, isT, atI_0, atI_1, size2, size1, size3, size0, true_and, and_true, Bool.true_eq_false, Bool.false_eq_true, if_true, if_false, ite_true, ite_false, reduceIte, eq_self, ex_app, ex_app2, ite_tt, ite_ft, List.cons.injEq, W.d.injEq, PyData.int.injEq, PyData.tuple.injEq, exists_eq_left', and_assoc, exists_and_left, eqOk_int, eqD_int, eqOk_fr, eqD_fr, eqOk_str, eqD_str, id, lo_ws1, lo_ws2, lo_ws3, Bool.not_true, Bool.not_false, Bool.and_true, Bool.and_false, Bool.true_and, Bool.false_and, Bool.or_true, Bool.or_false, Bool.true_or, Bool.false_or, aCallV, aCallL, capOf, onlyD, startL, aIZB, sqD, xIn, allS, xMulB, xStr, isStrW, xUpper, aLRg1, aRevT, rowD, rowsD, exists_eq_left, aIZG, seqG, SG, wipeA, lstOf, allBm, allIm, all_id, any_id, ones_ok, ones_eqD, aDic0, xReprA, xAdd_i, xAdd_s, xAdd_t, xAdd_l, xSl_t, xSl_l, xSl_s, xSl_scr, xListOf_t, xListOf_l, xIdx_t, xIdx_l, xIdx_s, xIdx_r]
      exact q
  | _ => simp only [aAnd, aAndV, aAsg, aAsgT, aBk, aC, aCB, aCall, aCallK, aChain, aCons, aCt, aDget, aDispM, aDput, aDrop, aGN, aGcons, aGnil, aGtup, aIE, aIL, aIR1, aIR2, aIT, aIZ, aIf, aIfS, aIsi, aLst, aLstM, aMt, aMt0, aNever, aNil, aNoP, aNot, aNotV, aNx, aOp, aOr, aOrV, aPar, aPar3, aRet, aRetN, aRevD, aRevM, aSeq, aSl, aSmP, aTst, aTup, aUn, aVar, aYes, xAbs, xApp, xBools, xEqB, xGcd, xI, xIc, xInt, xInts, xIs_nn, xIs_bb, xIs_bn, xIs_in, xIs_sn, xIs_tn, xIs_ln, xLen, xListOfM, xMax, xMin, xNeg, xPop, xSum, xTupleOf, optW, view, W.isFn, List.forall_mem_cons, forall_nil, asB, onRL, isRL, pick, keyOf, val_cells, val_mixed, val_draws, put_draws, allD, finD, startA, List.map_cons, List.map_nil, List.length_cons, List.length_nil, List.replicate, List.cons_append, List.nil_append, List.append_nil, List.getElem?_cons_zero, List.getElem?_cons_succ, List.set_cons_zero, List.set_cons_succ, Option.join_some, Option.map_some, List.filterMap_cons, List.filterMap_nil, List.take, Nat.sub_self, Nat.add_one_sub_one, Nat.reduceSub, Nat.reduceAdd, List.replicate_zero, isT, atI_0, atI_1, size2, size1, size3, size0, true_and, and_true, Bool.true_eq_false, Bool.false_eq_true, if_true, if_false, ite_true, ite_false, reduceIte, eq_self, ex_app, ex_app2, ite_tt, ite_ft, List.cons.injEq, W.d.injEq, PyData.int.injEq, PyData.tuple.injEq, exists_eq_left', and_assoc, exists_and_left, eqOk_int, eqD_int, eqOk_fr, eqD_fr, eqOk_str, eqD_str, id, lo_ws1, lo_ws2, lo_ws3, Bool.not_true, Bool.not_false, Bool.and_true, Bool.and_false, Bool.true_and, Bool.false_and, Bool.or_true, Bool.or_false, Bool.true_or, Bool.false_or, aCallV, aCallL, capOf, onlyD, startL, aIZB, sqD, xIn, allS, xMulB, xStr, isStrW, xUpper, aLRg1, aRevT, rowD, rowsD, exists_eq_left, aIZG, seqG, SG, wipeA, lstOf, allBm, allIm, all_id, any_id, ones_ok, ones_eqD, aDic0, xReprA, xAdd_i, xAdd_s, xAdd_t, xAdd_l, xSl_t, xSl_l, xSl_s, xSl_scr, xListOf_t, xListOf_l, xIdx_t, xIdx_l, xIdx_s, xIdx_r]; exact q
theorem ok__law_are_rows (T : Ty K mg base Tb) : Fdf P w K mg base (SG Tb) 3 "_law_are_rows" ["many", "thing"] [] sp__law_are_rows := T.d__law_are_rows.fd fun f fd Fn => g__law_are_rows T Fn
theorem rows_eqOk (R : Rows) {m : Nat} (h : RowsOk m R) : eqOk (.tuple (R.map rowD)) (.tuple []) = True := by
  have h1 : ∀ c : List Int, PyData.canLayAll0 (c.map .int) = true := fun c => by
    induction c with
    | nil => rfl
    | cons a r ih => show (PyData.canLay0 (.int a) && PyData.canLayAll0 (r.map .int)) = true; rw [ih]; rfl
  have h2 : ∀ R : Rows, PyData.canLayAll0 (R.map rowD) = true := fun R => by
    induction R with
    | nil => rfl
    | cons a r ih =>
      show (PyData.canLay0 (rowD a) && PyData.canLayAll0 (r.map rowD)) = true
      rw [ih, Bool.and_true]
      show (PyData.canLayAll0 (a.1.map .int) && (PyData.canLay0 (.bool a.2) && true)) = true
      rw [h1]
      rfl
  have h3 := (rowD_sd h).dp
  have e : PyData.depth (rowsD R) = PyData.depthAll (R.map rowD) + 1 := rfl
  refine eq_true ⟨?_, rfl⟩
  show (PyData.canLayAll0 (R.map rowD) && decide (PyData.depthAll (R.map rowD) + 1 ≤ 64)) = true
  rw [h2, Bool.true_and]
  exact decide_eq_true (by omega)
theorem rows_eqD (R : Rows) : eqD (.tuple (R.map rowD)) (.tuple []) = R.isEmpty := by cases R <;> rfl
theorem rows_mem {m : Nat} {R : Rows} (h : RowsOk m R) : ∀ x ∈ R.map rowD, Sd 3 42 x := fun x hx => by
  obtain ⟨r, hr, rfl⟩ := List.mem_map.mp hx
  have h1 := h.r r hr
  have h3 := h.m3
  refine Sd.tuple (n := 2) (b := 20) (all_2 ?_ Sd.bool) (by simp)
  refine (Sd.tuple (n := 1) (b := 0) (fun y hy => ?_) (by rw [List.length_map]; omega)).mono (Nat.le_refl _) (Nat.le_refl _)
  obtain ⟨i, hi, rfl⟩ := List.mem_map.mp hy
  exact Sd.int (h1.2 i hi) (by decide)
theorem nu_sd {m : Nat} {nu : List Int} (hl : nu.length = m) (hm : m ≤ 20) (hb : ∀ i ∈ nu, Bd 64 i) : (∀ x ∈ nu.map PyData.int, Sd 0 0 x) ∧ Sd 1 20 (.tuple (nu.map .int)) := by
  have z : ∀ x ∈ nu.map PyData.int, Sd 0 0 x := fun x hx => by
    obtain ⟨i, hi, rfl⟩ := List.mem_map.mp hx
    exact Sd.int (hb i hi) (by decide)
  exact ⟨z, Sd.tuple z (by rw [List.length_map]; omega)⟩
theorem sst_tr : Sst 4 ("True" : Str) ∧ Sst 4 ("1" : Str) := by decide +kernel
theorem sd_pair {x y : D} (h : Sd 4 100 x) (g : Sd 4 100 y) : Sd 6 400 (.tuple [x, y]) := (Sd.tuple (n := 4) (b := 100) (B := 202) (all_2 h g) (by simp)).mono (by decide) (by decide)
theorem sd_i {n B : Nat} (i : Int) (h : Bd 140 i) : Sd n B (.int i) := Sd.int h (by decide)
theorem sd_tup {l : List D} (h : ∀ x ∈ l, Sd 6 400 x) (hl : l.length ≤ 14) : Sd 10 6000 (.tuple l) := (Sd.tuple (n := 6) (b := 400) (B := 6000) h (by omega)).mono (by decide) (Nat.le_refl _)
theorem mem_app {α : Type} {P : α → Prop} {l m : List α} (h : ∀ x ∈ l, P x) (g : ∀ x ∈ m, P x) : ∀ x ∈ l ++ m, P x := fun x hx => (List.mem_append.mp hx).elim (h x) (g x)
theorem atI_nat {α : Type} {l : List α} {k : Nat} (h : k < l.length) : atI l (k : Int) = l[k]? := by
  unfold atI ixN
  rw [if_pos (by omega), if_pos (by omega), Int.toNat_natCast]
  rfl
theorem getD_at {α : Type} {l : List α} {k : Nat} {d : α} (h : k < l.length) : l[k]? = some (l.getD k d) := by
  rw [List.getD_eq_getElem?_getD, List.getElem?_eq_getElem h]
  rfl
def bentL (R : Rows) : List D := [.list (R.map rowD), .tuple (R.map rowD ++ [.tuple []]), .tuple [.tuple (R.map rowD)], .tuple (R.map rowD ++ [.none]), .dict [], .str "rows", .tuple (R.map rowD ++ R.map rowD), .tuple (cut (R.map rowD) none (some 1))]
theorem sst_rows : Sst 10 ("rows" : Str) := by decide +kernel
theorem bent_leaf {m : Nat} {R : Rows} (hR : RowsOk m R) (x : D) (hx : x ∈ bentL R) : Sd 10 6000 x := by
  have l10 := hR.l3
  have zr := rows_mem hR
  have zr6 : ∀ x ∈ R.map rowD, Sd 6 400 x := fun x hx => (zr x hx).mono (by decide) (by decide)
  have lm : (R.map rowD).length ≤ 10 := by rw [List.length_map]; exact l10
  unfold bentL at hx
  simp only [List.mem_cons, List.not_mem_nil, or_false] at hx
  have z0 : Sd 6 400 (.tuple []) := (Sd.tuple (n := 0) (b := 0) (B := 0) (fun x hx => absurd hx (by simp)) (Nat.le_refl _)).mono (by decide) (by decide)
  rcases hx with rfl | rfl | rfl | rfl | rfl | rfl | rfl | rfl
  · exact (Sd.list (n := 3) (b := 42) (B := 430) zr (by omega)).mono (by decide) (by decide)
  · exact sd_tup (mem_app zr6 (all_1 z0)) (by rw [List.length_append, List.length_singleton]; omega)
  · exact (Sd.tuple (n := 4) (b := 500) (B := 501) (all_1 (rowD_sd hR)) (by simp)).mono (by decide) (by decide)
  · exact sd_tup (mem_app zr6 (all_1 Sd.none)) (by rw [List.length_append, List.length_singleton]; omega)
  · exact (Sd.dict (n := 1) (a := 0) (b := 0) (B := 0) (fun x hx => absurd hx (by simp)) (Nat.le_refl _)).mono (by decide) (by decide)
  · exact (Sd.str (n := 0) sst_rows).mono (by decide) (by decide)
  · exact (Sd.tuple (n := 3) (b := 42) (B := 860) (mem_app zr zr) (by rw [List.length_append]; omega)).mono (by decide) (by decide)
  · exact sd_tup (fun x hx => zr6 x (List.mem_of_mem_drop (List.mem_of_mem_take hx))) (Nat.le_trans (cut_len _ _ _) (by omega))
def md_bent (m : Nat) (R : Rows) (k b : Nat) (r : IH) : En → IH → Prop := fun env ih => ∃ (a3 a4 a5 a6 a8 a9 : Option W) (x : D), env = [some (.ref 2), some (.d (rowsD R)), some (.d (.int k)), a3, a4, a5, a6, some (.d x), a8, a9] ∧ Sd 6 400 x ∧ Dk ([.tab "are_rows.<locals>.<lambda>"] : IH) b r ih
def sp__law_bent_rows : ASp := fun ws ih Q => ∃ (m : Nat) (R : Rows) (b : Nat) (r : IH), ws = [.ref 2, .d (rowsD R)] ∧ RowsOk m R ∧ Dk ([.tab "are_rows.<locals>.<lambda>"] : IH) b r ih ∧ b ≤ 900000 ∧ ∀ (x : D) (ih2 : IH), Sd 10 6000 x → Dk ([.tab "are_rows.<locals>.<lambda>"] : IH) (b + 10) r ih2 → Q (.d x) ih2
theorem g__law_bent_rows (T : Ty K mg base Tb) {f : Addr} {fd : FuncData} (Fn : Fun K "_law_bent_rows" "_law_bent_rows" st__law_bent_rows f fd) : FnG P w K mg base (SG Tb) 3 f fd ["deck", "rows"] sp__law_bent_rows := by
  refine fnG_ofT Fn sc__law_bent_rows ((bv_cons (sv_if (WV.tv (wv_or (tv_cmp ov_eq (ev_var 1) (ev_tup av_nil)) (wv_or1 (tv_cmp ov_eq (evc (ok__law_draw T) (Nat.le_of_ble_eq_true rfl) rfl (av_cons (ev_var 0) (av_cons ev_int av_nil))) ev_int)))) (bv_one (sv_ret (evc (ok__law_pick T) (Nat.le_of_ble_eq_true rfl) rfl (av_cons (ev_var 0) (av_cons (ev_lst (av_cons (ev_callT cv_list rfl T.b_list bt_list (av_cons (ev_var 1) av_nil)) (av_cons (ev_op ov_add (ev_var 1) (ev_tup (av_cons (ev_tup av_nil) av_nil))) (av_cons (ev_tup (av_cons (ev_var 1) av_nil)) (av_cons (ev_op ov_add (ev_var 1) (ev_tup (av_cons ev_non av_nil))) (av_cons ev_dic0 (av_cons ev_str (av_cons (ev_op ov_add (ev_var 1) (ev_var 1)) (av_cons (ev_slice (ev_var 1) ov1_none (ov1_some ev_int)) av_nil))))))))) av_nil))))) bv_nil)
      (bv_cons (sv_set 2 (evc (ok__law_draw T) (Nat.le_of_ble_eq_true rfl) rfl (av_cons (ev_var 0) (av_cons (ev_callB cv_len rfl T.b_len bt_len (av_cons (ev_var 1) av_nil)) av_nil))))
      (bv_cons (sv_asg (ev_ix (ev_var 1) (ev_var 2)) (GW.gv (vs := [3, 4]) (gw_tup (n := 2) (gws_cons (gw_name 3) (gws_cons (gw_name 4) gws_nil)))))
      (bv_cons (sv_par 5 6 (av_cons (evc (ok__law_draw T) (Nat.le_of_ble_eq_true rfl) rfl (av_cons (ev_var 0) (av_cons (ev_callB cv_len rfl T.b_len bt_len (av_cons (ev_var 3) av_nil)) av_nil))) (av_cons (evc (ok__law_draw T) (Nat.le_of_ble_eq_true rfl) rfl (av_cons (ev_var 0) (av_cons ev_int av_nil))) av_nil)) (hw := fun env h => by cases env; subst h; rfl))
      (bv_cons (sv_if (tv_cmp ov_eq (ev_var 6) ev_int) (bv_one (sv_set 7 (ev_tup (av_cons (ev_var 3) (av_cons (evc (ok__law_pick T) (Nat.le_of_ble_eq_true rfl) rfl (av_cons (ev_var 0) (av_cons (ev_lst (av_cons (ev_callT cv_int rfl T.b_int bt_int (av_cons (ev_var 4) av_nil)) (av_cons ev_non (av_cons ev_str (av_cons (ev_tup (av_cons (ev_var 4) av_nil)) (av_cons (ev_not (ev_var 4)) (av_cons ev_int (av_cons ev_int av_nil)))))))) av_nil))) av_nil))))) (bv_one (sv_if (tv_cmp ov_eq (ev_var 6) ev_int) (bv_cons (sv_set 8 (evc (ok__law_pick T) (Nat.le_of_ble_eq_true rfl) rfl (av_cons (ev_var 0) (av_cons (ev_lst (av_cons ev_bl (av_cons ev_bl (av_cons ev_non (av_cons ev_str (av_cons (ev_tup (av_cons ev_int (av_cons ev_int av_nil))) (av_cons (ev_op ov_pow ev_int ev_int) (av_cons (ev_lst (av_cons ev_int av_nil)) (av_cons (ev_un uv_neg (ev_ix (ev_var 3) (ev_var 5))) av_nil))))))))) av_nil))))
      (bv_one (sv_set 7 (ev_tup (av_cons (ev_op ov_add (ev_op ov_add (ev_slice (ev_var 3) ov1_none (ov1_some (ev_var 5))) (ev_tup (av_cons (ev_var 8) av_nil))) (ev_slice (ev_var 3) (ov1_some (ev_op ov_add (ev_var 5) ev_int)) ov1_none)) (av_cons (ev_var 4) av_nil)))))) (bv_one (sv_if (tv_cmp ov_eq (ev_var 6) ev_int) (bv_cons (sv_set 9 (ev_lst (av_cons (ev_slice (ev_var 3) (ov1_some ev_int) ov1_none) (av_cons (ev_op ov_add (ev_var 3) (ev_tup (av_cons ev_int av_nil))) (av_cons (ev_callT cv_list rfl T.b_list bt_list (av_cons (ev_var 3) av_nil)) (av_cons (ev_revT (ev_var 3)) (av_cons (ev_tup av_nil) (av_cons (ev_ix (ev_var 3) ev_int) (av_cons (ev_tup (av_cons (ev_var 3) av_nil)) av_nil)))))))))
      (bv_one (sv_set 7 (ev_tup (av_cons (evc (ok__law_pick T) (Nat.le_of_ble_eq_true rfl) rfl (av_cons (ev_var 0) (av_cons (ev_var 9) av_nil))) (av_cons (ev_var 4) av_nil)))))) (bv_one (sv_set 7 (evc (ok__law_pick T) (Nat.le_of_ble_eq_true rfl) rfl (av_cons (ev_var 0) (av_cons (ev_lst (av_cons (ev_tup (av_cons (ev_var 4) (av_cons (ev_var 3) av_nil))) (av_cons (ev_tup (av_cons (ev_var 3) av_nil)) (av_cons (ev_tup (av_cons (ev_var 3) (av_cons (ev_var 4) (av_cons ev_int av_nil)))) (av_cons (ev_callT cv_list rfl T.b_list bt_list (av_cons (ev_ix (ev_var 1) (ev_var 2)) av_nil)) (av_cons (ev_var 3) (av_cons (ev_tup av_nil) av_nil))))))) av_nil))))))))))
      (bv_one (sv_ret (ev_op ov_add (ev_op ov_add (ev_slice (ev_var 1) ov1_none (ov1_some (ev_var 2))) (ev_tup (av_cons (ev_var 7) av_nil))) (ev_slice (ev_var 1) (ov1_some (ev_op ov_add (ev_var 2) ev_int)) ov1_none)))))))))) fun ws ob Qa hl h => ?_
  obtain ⟨m, R, b, r, rfl, hR, hd, hb, q⟩ := h
  have l10 := hR.l3
  have big : (100 : Nat) ≤ sizeLine := by decide
  have zr := rows_mem hR
  have zr6 : ∀ x ∈ R.map rowD, Sd 6 400 x := fun x hx => (zr x hx).mono (by decide) (by decide)
  have lm : (R.map rowD).length ≤ 10 := by rw [List.length_map]; exact l10
  refine sq ?_
  simp only [aAnd, aAndV, aAsg, aAsgT, aBk, aC, aCB, aCall, aCallK, aChain, aCons, aCt, aDget, aDispM, aDput, aDrop, aGN, aGcons, aGnil, aGtup, aIE, aIL, aIR1, aIR2, aIT, aIZ, aIf, aIfS, aIsi, aLst, aLstM, aMt, aMt0, aNever, aNil, aNoP, aNot, aNotV, aNx, aOp, aOr, aOrV, aPar, aPar3, aRet, aRetN, aRevD, aRevM, aSl, aSmP, aTst, aTup, aUn, aVar, aYes, xAbs, xApp, xBools, xEqB, xGcd, xI, xIc, xInt, xInts, xIs_nn, xIs_bb, xIs_bn, xIs_in, xIs_sn, xIs_tn, xIs_ln, xLen, xListOfM, xMax, xMin, xNeg, xPop, xSum, xTupleOf, optW, view, W.isFn, List.forall_mem_cons, forall_nil, asB, onRL, isRL, pick, keyOf, val_cells, val_mixed, val_draws, put_draws, allD, finD, startA, List.map_cons, List.map_nil, List.length_cons, List.length_nil, List.replicate, List.cons_append, List.nil_append, List.append_nil, List.getElem?_cons_zero, List.getElem?_cons_succ, List.set_cons_zero, List.set_cons_succ, Option.join_some, Option.map_some, List.filterMap_cons, List.filterMap_nil, List.take, Nat.sub_self, Nat.add_one_sub_one, Nat.reduceSub, Nat.reduceAdd, List.replicate_zero, isT, atI_0, atI_1, size2, size1, size3, size0, true_and, and_true, Bool.true_eq_false, Bool.false_eq_true, if_true, if_false, ite_true, ite_false, reduceIte, eq_self, ex_app, ex_app2, ite_tt, ite_ft, List.cons.injEq, W.d.injEq, PyData.int.injEq, PyData.tuple.injEq, exists_eq_left', and_assoc, exists_and_left, eqOk_int, eqD_int, eqOk_fr, eqD_fr, eqOk_str, eqD_str, id, lo_ws1, lo_ws2, lo_ws3, Bool.not_true, Bool.not_false, Bool.and_true, Bool.and_false, Bool.true_and, Bool.false_and, Bool.or_true, Bool.or_false, Bool.true_or, Bool.false_or, aCallV, aCallL, capOf, onlyD, startL, aIZB, sqD, xIn, allS, xMulB, xStr, isStrW, xUpper, aLRg1, aRevT, rowD, rowsD, exists_eq_left, aIZG, seqG, SG, wipeA, lstOf, allBm, allIm, all_id, any_id, ones_ok, ones_eqD, aDic0, xReprA, xAdd_i, xAdd_s, xAdd_t, xAdd_l, xSl_t, xSl_l, xSl_s, xSl_scr, xListOf_t, xListOf_l, xIdx_t, xIdx_l, xIdx_s, xIdx_r, xEqB, rows_eqOk R hR, rows_eqD, sp__law_draw]
  have PICK : ∀ (c : Nat), c ≤ b + 2 → ∀ x o2, x ∈ bentL R → Dk ([.tab "are_rows.<locals>.<lambda>"] : IH) c r o2 → finT ob Qa (.d x) o2 := fun c hc x o2 hx h2 => finT_d0 hd h2 fun o3 h3 => q _ _ (bent_leaf hR x hx) (h3.mono (by omega))
  refine ifd (fun e => ?_) fun e => ?_
  · simp only [aAnd, aAndV, aAsg, aAsgT, aBk, aC, aCB, aCall, aCallK, aChain, aCons, aCt, aDget, aDispM, aDput, aDrop, aGN, aGcons, aGnil, aGtup, aIE, aIL, aIR1, aIR2, aIT, aIZ, aIf, aIfS, aIsi, aLst, aLstM, aMt, aMt0, aNever, aNil, aNoP, aNot, aNotV, aNx, aOp, aOr, aOrV, aPar, aPar3, aRet, aRetN, aRevD, aRevM, aSl, aSmP, aTst, aTup, aUn, aVar, aYes, xAbs, xApp, xBools, xEqB, xGcd, xI, xIc, xInt, xInts, xIs_nn, xIs_bb, xIs_bn, xIs_in, xIs_sn, xIs_tn, xIs_ln, xLen, xListOfM, xMax, xMin, xNeg, xPop, xSum, xTupleOf, optW, view, W.isFn, List.forall_mem_cons, forall_nil, asB, onRL, isRL, pick, keyOf, val_cells, val_mixed, val_draws, put_draws, allD, finD, startA, List.map_cons, List.map_nil, List.length_cons, List.length_nil, List.replicate, List.cons_append, List.nil_append, List.append_nil, List.getElem?_cons_zero, List.getElem?_cons_succ, List.set_cons_zero, List.set_cons_succ, Option.join_some, Option.map_some, List.filterMap_cons, List.filterMap_nil, List.take, Nat.sub_self, Nat.add_one_sub_one, Nat.reduceSub, Nat.reduceAdd, List.replicate_zero, isT, atI_0, atI_1, size2, size1, size3, size0, true_and, and_true, Bool.true_eq_false, Bool.false_eq_true, if_true, if_false, ite_true, ite_false, reduceIte, eq_self, ex_app, ex_app2, ite_tt, ite_ft, List.cons.injEq, W.d.injEq, PyData.int.injEq, PyData.tuple.injEq, exists_eq_left', and_assoc, exists_and_left, eqOk_int, eqD_int, eqOk_fr, eqD_fr, eqOk_str, eqD_str, id, lo_ws1, lo_ws2, lo_ws3, Bool.not_true, Bool.not_false, Bool.and_true, Bool.and_false, Bool.true_and, Bool.false_and, Bool.or_true, Bool.or_false, Bool.true_or, Bool.false_or, aCallV, aCallL, capOf, onlyD, startL, aIZB, sqD, xIn, allS, xMulB, xStr, isStrW, xUpper, aLRg1, aRevT, rowD, rowsD, exists_eq_left, aIZG, seqG, SG, wipeA, lstOf, allBm, allIm, all_id, any_id, ones_ok, ones_eqD, aDic0, xReprA, xAdd_i, xAdd_s, xAdd_t, xAdd_l, xSl_t, xSl_l, xSl_s, xSl_scr, xListOf_t, xListOf_l, xIdx_t, xIdx_l, xIdx_s, xIdx_r, sp__law_pick, PyData.list.injEq]
    refine ⟨Nat.le_trans (Nat.add_le_add_right lm 1) (by decide), Nat.le_trans (Nat.add_le_add_right lm 1) (by decide), Nat.le_trans (Nat.add_le_add lm lm) (by decide), by decide, _, _, hd, by omega, by simp, by simp, fun x o2 hx hd2 => PICK _ (by omega) x o2 hx hd2⟩
  · refine ⟨_, _, hd, by omega, by decide, by decide, fun k0 o1 k0a k0b hd1 => ?_⟩
    by_cases hk0 : k0 = 0
    · simp only [aAnd, aAndV, aAsg, aAsgT, aBk, aC, aCB, aCall, aCallK, aChain, aCons, aCt, aDget, aDispM, aDput, aDrop, aGN, aGcons, aGnil, aGtup, aIE, aIL, aIR1, aIR2, aIT, aIZ, aIf, aIfS, aIsi, aLst, aLstM, aMt, aMt0, aNever, aNil, aNoP, aNot, aNotV, aNx, aOp, aOr, aOrV, aPar, aPar3, aRet, aRetN, aRevD, aRevM, aSl, aSmP, aTst, aTup, aUn, aVar, aYes, xAbs, xApp, xBools, xEqB, xGcd, xI, xIc, xInt, xInts, xIs_nn, xIs_bb, xIs_bn, xIs_in, xIs_sn, xIs_tn, xIs_ln, xLen, xListOfM, xMax, xMin, xNeg, xPop, xSum, xTupleOf, optW, view, W.isFn, List.forall_mem_cons, forall_nil, asB, onRL, isRL, pick, keyOf, val_cells, val_mixed, val_draws, put_draws, allD, finD, startA, List.map_cons, List.map_nil, List.length_cons, List.length_nil, List.replicate, List.cons_append, List.nil_append, List.append_nil, List.getElem?_cons_zero, List.getElem?_cons_succ, List.set_cons_zero, List.set_cons_succ, Option.join_some, Option.map_some, List.filterMap_cons, List.filterMap_nil, List.take, Nat.sub_self, Nat.add_one_sub_one, Nat.reduceSub, Nat.reduceAdd, List.replicate_zero, isT, atI_0, atI_1, size2, size1, size3, size0, true_and, and_true, Bool.true_eq_false, Bool.false_eq_true, if_true, if_false, ite_true, ite_false, reduceIte, eq_self, ex_app, ex_app2, ite_tt, ite_ft, List.cons.injEq, W.d.injEq, PyData.int.injEq, PyData.tuple.injEq, exists_eq_left', and_assoc, exists_and_left, eqOk_int, eqD_int, eqOk_fr, eqD_fr, eqOk_str, eqD_str, id, lo_ws1, lo_ws2, lo_ws3, Bool.not_true, Bool.not_false, Bool.and_true, Bool.and_false, Bool.true_and, Bool.false_and, Bool.or_true, Bool.or_false, Bool.true_or, Bool.false_or, aCallV, aCallL, capOf, onlyD, startL, aIZB, sqD, xIn, allS, xMulB, xStr, isStrW, xUpper, aLRg1, aRevT, rowD, rowsD, exists_eq_left, aIZG, seqG, SG, wipeA, lstOf, allBm, allIm, all_id, any_id, ones_ok, ones_eqD, aDic0, xReprA, xAdd_i, xAdd_s, xAdd_t, xAdd_l, xSl_t, xSl_l, xSl_s, xSl_scr, xListOf_t, xListOf_l, xIdx_t, xIdx_l, xIdx_s, xIdx_r, hk0, decide_true, sp__law_pick, PyData.list.injEq]
      exact ⟨Nat.le_trans (Nat.add_le_add_right lm 1) (by decide), Nat.le_trans (Nat.add_le_add_right lm 1) (by decide), Nat.le_trans (Nat.add_le_add lm lm) (by decide), by decide, _, _, hd1, by omega, by simp, by simp, fun x o2 hx hd2 => PICK _ (by omega) x o2 hx hd2⟩
    · simp only [aAnd, aAndV, aAsg, aAsgT, aBk, aC, aCB, aCall, aCallK, aChain, aCons, aCt, aDget, aDispM, aDput, aDrop, aGN, aGcons, aGnil, aGtup, aIE, aIL, aIR1, aIR2, aIT, aIZ, aIf, aIfS, aIsi, aLst, aLstM, aMt, aMt0, aNever, aNil, aNoP, aNot, aNotV, aNx, aOp, aOr, aOrV, aPar, aPar3, aRet, aRetN, aRevD, aRevM, aSl, aSmP, aTst, aTup, aUn, aVar, aYes, xAbs, xApp, xBools, xEqB, xGcd, xI, xIc, xInt, xInts, xIs_nn, xIs_bb, xIs_bn, xIs_in, xIs_sn, xIs_tn, xIs_ln, xLen, xListOfM, xMax, xMin, xNeg, xPop, xSum, xTupleOf, optW, view, W.isFn, List.forall_mem_cons, forall_nil, asB, onRL, isRL, pick, keyOf, val_cells, val_mixed, val_draws, put_draws, allD, finD, startA, List.map_cons, List.map_nil, List.length_cons, List.length_nil, List.replicate, List.cons_append, List.nil_append, List.append_nil, List.getElem?_cons_zero, List.getElem?_cons_succ, List.set_cons_zero, List.set_cons_succ, Option.join_some, Option.map_some, List.filterMap_cons, List.filterMap_nil, List.take, Nat.sub_self, Nat.add_one_sub_one, Nat.reduceSub, Nat.reduceAdd, List.replicate_zero, isT, atI_0, atI_1, size2, size1, size3, size0, true_and, and_true, Bool.true_eq_false, Bool.false_eq_true, if_true, if_false, ite_true, ite_false, reduceIte, eq_self, ex_app, ex_app2, ite_tt, ite_ft, List.cons.injEq, W.d.injEq, PyData.int.injEq, PyData.tuple.injEq, exists_eq_left', and_assoc, exists_and_left, eqOk_int, eqD_int, eqOk_fr, eqD_fr, eqOk_str, eqD_str, id, lo_ws1, lo_ws2, lo_ws3, Bool.not_true, Bool.not_false, Bool.and_true, Bool.and_false, Bool.true_and, Bool.false_and, Bool.or_true, Bool.or_false, Bool.true_or, Bool.false_or, aCallV, aCallL, capOf, onlyD, startL, aIZB, sqD, xIn, allS, xMulB, xStr, isStrW, xUpper, aLRg1, aRevT, rowD, rowsD, exists_eq_left, aIZG, seqG, SG, wipeA, lstOf, allBm, allIm, all_id, any_id, ones_ok, ones_eqD, aDic0, xReprA, xAdd_i, xAdd_s, xAdd_t, xAdd_l, xSl_t, xSl_l, xSl_s, xSl_scr, xListOf_t, xListOf_l, xIdx_t, xIdx_l, xIdx_s, xIdx_r, hk0, decide_false]
      refine sq ?_
      simp only [aAnd, aAndV, aAsg, aAsgT, aBk, aC, aCB, aCall, aCallK, aChain, aCons, aCt, aDget, aDispM, aDput, aDrop, aGN, aGcons, aGnil, aGtup, aIE, aIL, aIR1, aIR2, aIT, aIZ, aIf, aIfS, aIsi, aLst, aLstM, aMt, aMt0, aNever, aNil, aNoP, aNot, aNotV, aNx, aOp, aOr, aOrV, aPar, aPar3, aRet, aRetN, aRevD, aRevM, aSl, aSmP, aTst, aTup, aUn, aVar, aYes, xAbs, xApp, xBools, xEqB, xGcd, xI, xIc, xInt, xInts, xIs_nn, xIs_bb, xIs_bn, xIs_in, xIs_sn, xIs_tn, xIs_ln, xLen, xListOfM, xMax, xMin, xNeg, xPop, xSum, xTupleOf, optW, view, W.isFn, List.forall_mem_cons, forall_nil, asB, onRL, isRL, pick, keyOf, val_cells, val_mixed, val_draws, put_draws, allD, finD, startA, List.map_cons, List.map_nil, List.length_cons, List.length_nil, List.replicate, List.cons_append, List.nil_append, List.append_nil, List.getElem?_cons_zero, List.getElem?_cons_succ, List.set_cons_zero, List.set_cons_succ, Option.join_some, Option.map_some, List.filterMap_cons, List.filterMap_nil, List.take, Nat.sub_self, Nat.add_one_sub_one, Nat.reduceSub, Nat.reduceAdd, List.replicate_zero, isT, atI_0, atI_1, size2, size1, size3, size0, true_and, and_true, Bool.true_eq_false, Bool.false_eq_true, if_true, if_false, ite_true, ite_false, reduceIte, eq_self, ex_app, ex_app2, ite_tt, ite_ft, List.cons.injEq, W.d.injEq, PyData.int.injEq, PyData.tuple.injEq, exists_eq_left', and_assoc, exists_and_left, eqOk_int, eqD_int, eqOk_fr, eqD_fr, eqOk_str, eqD_str, id, lo_ws1, lo_ws2, lo_ws3, Bool.not_true, Bool.not_false, Bool.and_true, Bool.and_false, Bool.true_and, Bool.false_and, Bool.or_true, Bool.or_false, Bool.true_or, Bool.false_or, aCallV, aCallL, capOf, onlyD, startL, aIZB, sqD, xIn, allS, xMulB, xStr, isStrW, xUpper, aLRg1, aRevT, rowD, rowsD, exists_eq_left, aIZG, seqG, SG, wipeA, lstOf, allBm, allIm, all_id, any_id, ones_ok, ones_eqD, aDic0, xReprA, xAdd_i, xAdd_s, xAdd_t, xAdd_l, xSl_t, xSl_l, xSl_s, xSl_scr, xListOf_t, xListOf_l, xIdx_t, xIdx_l, xIdx_s, xIdx_r, sp__law_draw, List.length_map]
      have lR : R.length ≠ 0 := fun z => by rw [List.length_eq_zero_iff.mp z] at e; cases e
      refine ⟨_, _, hd1, by omega, by omega, by omega, fun k o2 k0 k1 hd2 => ?_⟩
      obtain ⟨k, rfl⟩ : ∃ k' : Nat, k = k' := ⟨k.toNat, by omega⟩
      have hk : k < R.length := by omega
      have eA : atI (R.map rowD) (k : Int) = some (rowD R[k]) := by rw [atI_nat (by rw [List.length_map]; exact hk), List.getElem?_map, List.getElem?_eq_getElem hk]; rfl
      have hr := hR.r R[k] (List.getElem_mem hk)
      generalize hNS : R[k] = ns at eA hr
      obtain ⟨nu, st⟩ := ns
      have hm1 := hR.m1
      have hm3 := hR.m3
      refine sq ?_
      simp only [aAnd, aAndV, aAsg, aAsgT, aBk, aC, aCB, aCall, aCallK, aChain, aCons, aCt, aDget, aDispM, aDput, aDrop, aGN, aGcons, aGnil, aGtup, aIE, aIL, aIR1, aIR2, aIT, aIZ, aIf, aIfS, aIsi, aLst, aLstM, aMt, aMt0, aNever, aNil, aNoP, aNot, aNotV, aNx, aOp, aOr, aOrV, aPar, aPar3, aRet, aRetN, aRevD, aRevM, aSl, aSmP, aTst, aTup, aUn, aVar, aYes, xAbs, xApp, xBools, xEqB, xGcd, xI, xIc, xInt, xInts, xIs_nn, xIs_bb, xIs_bn, xIs_in, xIs_sn, xIs_tn, xIs_ln, xLen, xListOfM, xMax, xMin, xNeg, xPop, xSum, xTupleOf, optW, view, W.isFn, List.forall_mem_cons, forall_nil, asB, onRL, isRL, pick, keyOf, val_cells, val_mixed, val_draws, put_draws, allD, finD, startA, List.map_cons, List.map_nil, List.length_cons, List.length_nil, List.replicate, List.cons_append, List.nil_append, List.append_nil, List.getElem?_cons_zero, List.getElem?_cons_succ, List.set_cons_zero, List.set_cons_succ, Option.join_some, Option.map_some, List.filterMap_cons, List.filterMap_nil, List.take, Nat.sub_self, Nat.add_one_sub_one, Nat.reduceSub, Nat.reduceAdd, List.replicate_zero, isT, atI_0, atI_1, size2, size1, size3, size0, true_and, and_true, Bool.true_eq_false, Bool.false_eq_true, if_true, if_false, ite_true, ite_false, reduceIte, eq_self, ex_app, ex_app2, ite_tt, ite_ft, List.cons.injEq, W.d.injEq, PyData.int.injEq, PyData.tuple.injEq, exists_eq_left', and_assoc, exists_and_left, eqOk_int, eqD_int, eqOk_fr, eqD_fr, eqOk_str, eqD_str, id, lo_ws1, lo_ws2, lo_ws3, Bool.not_true, Bool.not_false, Bool.and_true, Bool.and_false, Bool.true_and, Bool.false_and, Bool.or_true, Bool.or_false, Bool.true_or, Bool.false_or, aCallV, aCallL, capOf, onlyD, startL, aIZB, sqD, xIn, allS, xMulB, xStr, isStrW, xUpper, aLRg1, aRevT, rowD, rowsD, exists_eq_left, aIZG, seqG, SG, wipeA, lstOf, allBm, allIm, all_id, any_id, ones_ok, ones_eqD, aDic0, xReprA, xAdd_i, xAdd_s, xAdd_t, xAdd_l, xSl_t, xSl_l, xSl_s, xSl_scr, xListOf_t, xListOf_l, xIdx_t, xIdx_l, xIdx_s, xIdx_r, eA]
      refine sq ?_
      simp only [aAnd, aAndV, aAsg, aAsgT, aBk, aC, aCB, aCall, aCallK, aChain, aCons, aCt, aDget, aDispM, aDput, aDrop, aGN, aGcons, aGnil, aGtup, aIE, aIL, aIR1, aIR2, aIT, aIZ, aIf, aIfS, aIsi, aLst, aLstM, aMt, aMt0, aNever, aNil, aNoP, aNot, aNotV, aNx, aOp, aOr, aOrV, aPar, aPar3, aRet, aRetN, aRevD, aRevM, aSl, aSmP, aTst, aTup, aUn, aVar, aYes, xAbs, xApp, xBools, xEqB, xGcd, xI, xIc, xInt, xInts, xIs_nn, xIs_bb, xIs_bn, xIs_in, xIs_sn, xIs_tn, xIs_ln, xLen, xListOfM, xMax, xMin, xNeg, xPop, xSum, xTupleOf, optW, view, W.isFn, List.forall_mem_cons, forall_nil, asB, onRL, isRL, pick, keyOf, val_cells, val_mixed, val_draws, put_draws, allD, finD, startA, List.map_cons, List.map_nil, List.length_cons, List.length_nil, List.replicate, List.cons_append, List.nil_append, List.append_nil, List.getElem?_cons_zero, List.getElem?_cons_succ, List.set_cons_zero, List.set_cons_succ, Option.join_some, Option.map_some, List.filterMap_cons, List.filterMap_nil, List.take, Nat.sub_self, Nat.add_one_sub_one, Nat.reduceSub, Nat.reduceAdd, List.replicate_zero, isT, atI_0, atI_1, size2, size1, size3, size0, true_and, and_true, Bool.true_eq_false, Bool.false_eq_true, if_true, if_false, ite_true, ite_false, reduceIte, eq_self, ex_app, ex_app2, ite_tt, ite_ft, List.cons.injEq, W.d.injEq, PyData.int.injEq, PyData.tuple.injEq, exists_eq_left', and_assoc, exists_and_left, eqOk_int, eqD_int, eqOk_fr, eqD_fr, eqOk_str, eqD_str, id, lo_ws1, lo_ws2, lo_ws3, Bool.not_true, Bool.not_false, Bool.and_true, Bool.and_false, Bool.true_and, Bool.false_and, Bool.or_true, Bool.or_false, Bool.true_or, Bool.false_or, aCallV, aCallL, capOf, onlyD, startL, aIZB, sqD, xIn, allS, xMulB, xStr, isStrW, xUpper, aLRg1, aRevT, rowD, rowsD, exists_eq_left, aIZG, seqG, SG, wipeA, lstOf, allBm, allIm, all_id, any_id, ones_ok, ones_eqD, aDic0, xReprA, xAdd_i, xAdd_s, xAdd_t, xAdd_l, xSl_t, xSl_l, xSl_s, xSl_scr, xListOf_t, xListOf_l, xIdx_t, xIdx_l, xIdx_s, xIdx_r, sp__law_draw, List.length_map, hr.1]
      refine ⟨_, _, hd2, by omega, by omega, by omega, fun sp o3 sp0 sp1 hd3 => ?_⟩
      obtain ⟨sp, rfl⟩ : ∃ k' : Nat, sp = k' := ⟨sp.toNat, by omega⟩
      refine ⟨_, _, hd3, by omega, by decide, by decide, fun way o4 w0 w1 hd4 => ?_⟩
      refine sqm (md_bent m R k (b + 6) r) ?_ ?_
      · rintro env o5 ⟨a3, a4, a5, a6, a8, a9, x, rfl, zx, hd5⟩
        have e5 : cut (R.map rowD) (some ((k : Int) + 1)) none = (R.map rowD).drop (k + 1) := cut_suf _ (k + 1) (by rw [List.length_map]; omega)
        have e6 : cut (R.map rowD) none (some (k : Int)) = (R.map rowD).take k := cut_pre _ k (by rw [List.length_map]; omega)
        simp only [aAnd, aAndV, aAsg, aAsgT, aBk, aC, aCB, aCall, aCallK, aChain, aCons, aCt, aDget, aDispM, aDput, aDrop, aGN, aGcons, aGnil, aGtup, aIE, aIL, aIR1, aIR2, aIT, aIZ, aIf, aIfS, aIsi, aLst, aLstM, aMt, aMt0, aNever, aNil, aNoP, aNot, aNotV, aNx, aOp, aOr, aOrV, aPar, aPar3, aRet, aRetN, aRevD, aRevM, aSeq, aSl, aSmP, aTst, aTup, aUn, aVar, aYes, xAbs, xApp, xBools, xEqB, xGcd, xI, xIc, xInt, xInts, xIs_nn, xIs_bb, xIs_bn, xIs_in, xIs_sn, xIs_tn, xIs_ln, xLen, xListOfM, xMax, xMin, xNeg, xPop, xSum, xTupleOf, optW, view, W.isFn, List.forall_mem_cons, forall_nil, asB, onRL, isRL, pick, keyOf, val_cells, val_mixed, val_draws, put_draws, allD, finD, startA, List.map_cons, List.map_nil, List.length_cons, List.length_nil, List.replicate, List.cons_append, List.nil_append, List.append_nil, List.getElem?_cons_zero, List.getElem?_cons_succ, List.set_cons_zero, List.set_cons_succ, Option.join_some, Option.map_some, List.filterMap_cons, List.filterMap_nil, List.take, Nat.sub_self, Nat.add_one_sub_one, Nat.reduceSub, Nat.reduceAdd, List.replicate_zero, isT, atI_0, atI_1, size2, size1, size3, size0, true_and, and_true, Bool.true_eq_false, Bool.false_eq_true, if_true, if_false, ite_true, ite_false, reduceIte, eq_self, ex_app, ex_app2, ite_tt, ite_ft, List.cons.injEq, W.d.injEq, PyData.int.injEq, PyData.tuple.injEq, exists_eq_left', and_assoc, exists_and_left, eqOk_int, eqD_int, eqOk_fr, eqD_fr, eqOk_str, eqD_str, id, lo_ws1, lo_ws2, lo_ws3, Bool.not_true, Bool.not_false, Bool.and_true, Bool.and_false, Bool.true_and, Bool.false_and, Bool.or_true, Bool.or_false, Bool.true_or, Bool.false_or, aCallV, aCallL, capOf, onlyD, startL, aIZB, sqD, xIn, allS, xMulB, xStr, isStrW, xUpper, aLRg1, aRevT, rowD, rowsD, exists_eq_left, aIZG, seqG, SG, wipeA, lstOf, allBm, allIm, all_id, any_id, ones_ok, ones_eqD, aDic0, xReprA, xAdd_i, xAdd_s, xAdd_t, xAdd_l, xSl_t, xSl_l, xSl_s, xSl_scr, xListOf_t, xListOf_l, xIdx_t, xIdx_l, xIdx_s, xIdx_r, e5, e6]
        have c1 : ((R.map rowD).take k).length ≤ 10 := by rw [List.length_take]; omega
        have c2 : ((R.map rowD).drop (k + 1)).length ≤ 10 := by rw [List.length_drop]; omega
        have c3 : ((R.map rowD).take k ++ [x] ++ (R.map rowD).drop (k + 1)).length ≤ 14 := by rw [List.length_append, List.length_append, List.length_singleton, List.length_take, List.length_drop]; omega
        refine ⟨Nat.le_trans (Nat.add_le_add_right c1 1) (by decide), Nat.le_trans (Nat.add_le_add (show ((R.map rowD).take k ++ [x]).length ≤ 11 by rw [List.length_append, List.length_singleton]; omega) c2) (by decide), ?_⟩
        exact finT_d0 hd hd5 fun o6 hd6 => q _ _ (sd_tup (mem_app (mem_app (fun y hy => zr6 y (List.mem_of_mem_take hy)) (all_1 zx)) fun y hy => zr6 y (List.mem_of_mem_drop hy)) c3) (hd6.mono (by omega))
      · intro R' hR'
        have zn := nu_sd hr.1 hm3 hr.2
        have zN : Sd 4 100 (.tuple (nu.map .int)) := zn.2.mono (by decide) (by decide)
        have z0 : ∀ {n B : Nat}, Sd (n + 1) B (.tuple []) := fun {n B} => (Sd.tuple (n := n) (b := 0) (B := 0) (fun x hx => absurd hx (by simp)) (Nat.le_refl _)).mono (Nat.le_refl _) (Nat.zero_le _)
        have b1 : Bd 140 0 := by decide
        have b2 : Bd 140 1 := by decide
        have w4 : way = 0 ∨ way = 1 ∨ way = 2 ∨ way = 3 := by omega
        rcases w4 with rfl | rfl | rfl | rfl
        · simp only [aAnd, aAndV, aAsg, aAsgT, aBk, aC, aCB, aCall, aCallK, aChain, aCons, aCt, aDget, aDispM, aDput, aDrop, aGN, aGcons, aGnil, aGtup, aIE, aIL, aIR1, aIR2, aIT, aIZ, aIf, aIfS, aIsi, aLst, aLstM, aMt, aMt0, aNever, aNil, aNoP, aNot, aNotV, aNx, aOp, aOr, aOrV, aPar, aPar3, aRet, aRetN, aRevD, aRevM, aSl, aSmP, aTst, aTup, aUn, aVar, aYes, xAbs, xApp, xBools, xEqB, xGcd, xI, xIc, xInt, xInts, xIs_nn, xIs_bb, xIs_bn, xIs_in, xIs_sn, xIs_tn, xIs_ln, xLen, xListOfM, xMax, xMin, xNeg, xPop, xSum, xTupleOf, optW, view, W.isFn, List.forall_mem_cons, forall_nil, asB, onRL, isRL, pick, keyOf, val_cells, val_mixed, val_draws, put_draws, allD, finD, startA, List.map_cons, List.map_nil, List.length_cons, List.length_nil, List.replicate, List.cons_append, List.nil_append, List.append_nil, List.getElem?_cons_zero, List.getElem?_cons_succ, List.set_cons_zero, List.set_cons_succ, Option.join_some, Option.map_some, List.filterMap_cons, List.filterMap_nil, List.take, Nat.sub_self, Nat.add_one_sub_one, Nat.reduceSub, Nat.reduceAdd, List.replicate_zero, isT, atI_0, atI_1, size2, size1, size3, size0, true_and, and_true, Bool.true_eq_false, Bool.false_eq_true, if_true, if_false, ite_true, ite_false, reduceIte, eq_self, ex_app, ex_app2, ite_tt, ite_ft, List.cons.injEq, W.d.injEq, PyData.int.injEq, PyData.tuple.injEq, exists_eq_left', and_assoc, exists_and_left, eqOk_int, eqD_int, eqOk_fr, eqD_fr, eqOk_str, eqD_str, id, lo_ws1, lo_ws2, lo_ws3, Bool.not_true, Bool.not_false, Bool.and_true, Bool.and_false, Bool.true_and, Bool.false_and, Bool.or_true, Bool.or_false, Bool.true_or, Bool.false_or, aCallV, aCallL, capOf, onlyD, startL, aIZB, sqD, xIn, allS, xMulB, xStr, isStrW, xUpper, aLRg1, aRevT, rowD, rowsD, exists_eq_left, aIZG, seqG, SG, wipeA, lstOf, allBm, allIm, all_id, any_id, ones_ok, ones_eqD, aDic0, xReprA, xAdd_i, xAdd_s, xAdd_t, xAdd_l, xSl_t, xSl_l, xSl_s, xSl_scr, xListOf_t, xListOf_l, xIdx_t, xIdx_l, xIdx_s, xIdx_r, xEqB, sp__law_pick, decide_true]
          refine ⟨by decide, _, rfl, _, _, hd4, by omega, by simp, by simp, fun x o5 hx hd5 => hR' _ _ ⟨_, _, _, _, _, _, _, rfl, sd_pair zN ?_, hd5.mono (by omega)⟩⟩
          simp only [List.mem_cons, List.not_mem_nil, or_false] at hx
          rcases hx with rfl | rfl | rfl | rfl | rfl | rfl | rfl
          · exact sd_i _ (by split <;> decide)
          · exact Sd.none
          · exact (Sd.str (n := 0) sst_tr.1).mono (by decide) (by decide)
          · exact (Sd.tuple (n := 1) (b := 0) (B := 1) (all_1 Sd.bool) (by simp)).mono (by decide) (by decide)
          · exact Sd.bool
          · exact sd_i _ b2
          · exact sd_i _ b1
        · have f1 : decide ((1 : Int) = 0) = false := rfl
          have hsp : sp < nu.length := by rw [hr.1]; omega
          have bs : Bd 64 (nu.getD sp 0) := hr.2 _ (by rw [List.getD_eq_getElem?_getD, List.getElem?_eq_getElem hsp]; exact List.getElem_mem _)
          have e5 : cut (nu.map PyData.int) (some ((sp : Int) + 1)) none = (nu.map PyData.int).drop (sp + 1) := cut_suf _ (sp + 1) (by rw [List.length_map]; omega)
          have e6 : cut (nu.map PyData.int) none (some (sp : Int)) = (nu.map PyData.int).take sp := cut_pre _ sp (by rw [List.length_map]; omega)
          have lN : (nu.map PyData.int).length ≤ 20 := by rw [List.length_map, hr.1]; exact hm3
          simp only [aAnd, aAndV, aAsg, aAsgT, aBk, aC, aCB, aCall, aCallK, aChain, aCons, aCt, aDget, aDispM, aDput, aDrop, aGN, aGcons, aGnil, aGtup, aIE, aIL, aIR1, aIR2, aIT, aIZ, aIf, aIfS, aIsi, aLst, aLstM, aMt, aMt0, aNever, aNil, aNoP, aNot, aNotV, aNx, aOp, aOr, aOrV, aPar, aPar3, aRet, aRetN, aRevD, aRevM, aSl, aSmP, aTst, aTup, aUn, aVar, aYes, xAbs, xApp, xBools, xEqB, xGcd, xI, xIc, xInt, xInts, xIs_nn, xIs_bb, xIs_bn, xIs_in, xIs_sn, xIs_tn, xIs_ln, xLen, xListOfM, xMax, xMin, xNeg, xPop, xSum, xTupleOf, optW, view, W.isFn, List.forall_mem_cons, forall_nil, asB, onRL, isRL, pick, keyOf, val_cells, val_mixed, val_draws, put_draws, allD, finD, startA, List.map_cons, List.map_nil, List.length_cons, List.length_nil, List.replicate, List.cons_append, List.nil_append, List.append_nil, List.getElem?_cons_zero, List.getElem?_cons_succ, List.set_cons_zero, List.set_cons_succ, Option.join_some, Option.map_some, List.filterMap_cons, List.filterMap_nil, List.take, Nat.sub_self, Nat.add_one_sub_one, Nat.reduceSub, Nat.reduceAdd, List.replicate_zero, isT, atI_0, atI_1, size2, size1, size3, size0, true_and, and_true, Bool.true_eq_false, Bool.false_eq_true, if_true, if_false, ite_true, ite_false, reduceIte, eq_self, ex_app, ex_app2, ite_tt, ite_ft, List.cons.injEq, W.d.injEq, PyData.int.injEq, PyData.tuple.injEq, exists_eq_left', and_assoc, exists_and_left, eqOk_int, eqD_int, eqOk_fr, eqD_fr, eqOk_str, eqD_str, id, lo_ws1, lo_ws2, lo_ws3, Bool.not_true, Bool.not_false, Bool.and_true, Bool.and_false, Bool.true_and, Bool.false_and, Bool.or_true, Bool.or_false, Bool.true_or, Bool.false_or, aCallV, aCallL, capOf, onlyD, startL, aIZB, sqD, xIn, allS, xMulB, xStr, isStrW, xUpper, aLRg1, aRevT, rowD, rowsD, exists_eq_left, aIZG, seqG, SG, wipeA, lstOf, allBm, allIm, all_id, any_id, ones_ok, ones_eqD, aDic0, xReprA, xAdd_i, xAdd_s, xAdd_t, xAdd_l, xSl_t, xSl_l, xSl_s, xSl_scr, xListOf_t, xListOf_l, xIdx_t, xIdx_l, xIdx_s, xIdx_r, xEqB, f1, decide_true]
          refine sq ?_
          simp only [aAnd, aAndV, aAsg, aAsgT, aBk, aC, aCB, aCall, aCallK, aChain, aCons, aCt, aDget, aDispM, aDput, aDrop, aGN, aGcons, aGnil, aGtup, aIE, aIL, aIR1, aIR2, aIT, aIZ, aIf, aIfS, aIsi, aLst, aLstM, aMt, aMt0, aNever, aNil, aNoP, aNot, aNotV, aNx, aOp, aOr, aOrV, aPar, aPar3, aRet, aRetN, aRevD, aRevM, aSl, aSmP, aTst, aTup, aUn, aVar, aYes, xAbs, xApp, xBools, xEqB, xGcd, xI, xIc, xInt, xInts, xIs_nn, xIs_bb, xIs_bn, xIs_in, xIs_sn, xIs_tn, xIs_ln, xLen, xListOfM, xMax, xMin, xNeg, xPop, xSum, xTupleOf, optW, view, W.isFn, List.forall_mem_cons, forall_nil, asB, onRL, isRL, pick, keyOf, val_cells, val_mixed, val_draws, put_draws, allD, finD, startA, List.map_cons, List.map_nil, List.length_cons, List.length_nil, List.replicate, List.cons_append, List.nil_append, List.append_nil, List.getElem?_cons_zero, List.getElem?_cons_succ, List.set_cons_zero, List.set_cons_succ, Option.join_some, Option.map_some, List.filterMap_cons, List.filterMap_nil, List.take, Nat.sub_self, Nat.add_one_sub_one, Nat.reduceSub, Nat.reduceAdd, List.replicate_zero, isT, atI_0, atI_1, size2, size1, size3, size0, true_and, and_true, Bool.true_eq_false, Bool.false_eq_true, if_true, if_false, ite_true, ite_false, reduceIte, eq_self, ex_app, ex_app2, ite_tt, ite_ft, List.cons.injEq, W.d.injEq, PyData.int.injEq, PyData.tuple.injEq, exists_eq_left', and_assoc, exists_and_left, eqOk_int, eqD_int, eqOk_fr, eqD_fr, eqOk_str, eqD_str, id, lo_ws1, lo_ws2, lo_ws3, Bool.not_true, Bool.not_false, Bool.and_true, Bool.and_false, Bool.true_and, Bool.false_and, Bool.or_true, Bool.or_false, Bool.true_or, Bool.false_or, aCallV, aCallL, capOf, onlyD, startL, aIZB, sqD, xIn, allS, xMulB, xStr, isStrW, xUpper, aLRg1, aRevT, rowD, rowsD, exists_eq_left, aIZG, seqG, SG, wipeA, lstOf, allBm, allIm, all_id, any_id, ones_ok, ones_eqD, aDic0, xReprA, xAdd_i, xAdd_s, xAdd_t, xAdd_l, xSl_t, xSl_l, xSl_s, xSl_scr, xListOf_t, xListOf_l, xIdx_t, xIdx_l, xIdx_s, xIdx_r, sp__law_pick, e39, cp39, atI_ints hsp]
          refine ⟨by decide, _, rfl, _, _, hd4, by omega, by simp, by simp, fun x o5 hx hd5 => ?_⟩
          have zx : Sd 2 3 x := by
            simp only [List.mem_cons, List.not_mem_nil, or_false] at hx
            rcases hx with rfl | rfl | rfl | rfl | rfl | rfl | rfl | rfl
            · exact Sd.bool
            · exact Sd.bool
            · exact Sd.none
            · exact Sd.str (n := 2) (B := 3) (by decide +kernel)
            · exact (Sd.tuple (n := 0) (b := 0) (B := 2) (all_2 (sd_i _ b2) (sd_i _ b2)) (by simp)).mono (by decide) (by decide)
            · exact sd_i _ (by decide)
            · exact (Sd.list (n := 0) (b := 0) (B := 1) (all_1 (sd_i _ b1)) (by simp)).mono (by decide) (by decide)
            · exact sd_i _ (bs.neg.mono (by decide))
          rw [e5, e6]
          have c1 : ((nu.map PyData.int).take sp).length ≤ 20 := by rw [List.length_take]; omega
          have c2 : ((nu.map PyData.int).drop (sp + 1)).length ≤ 20 := by rw [List.length_drop]; omega
          have c3 : ((nu.map PyData.int).take sp ++ [x] ++ (nu.map PyData.int).drop (sp + 1)).length ≤ 20 := by
            have lE : (nu.map PyData.int).length = m := by rw [List.length_map]; exact hr.1
            have hr1 : nu.length = m := hr.1
            rw [List.length_append, List.length_append, List.length_singleton, List.length_take, List.length_drop]
            omega
          refine ⟨Nat.le_trans (Nat.add_le_add_right c1 1) (by decide), Nat.le_trans (Nat.add_le_add (show ((nu.map PyData.int).take sp ++ [x]).length ≤ 21 by rw [List.length_append, List.length_singleton]; omega) c2) (by decide), hR' _ _ ⟨_, _, _, _, _, _, _, rfl, sd_pair ?_ Sd.bool, hd5.mono (by omega)⟩⟩
          have zz : ∀ y ∈ nu.map PyData.int, Sd 2 3 y := fun y hy => (zn.1 y hy).mono (by decide) (by decide)
          exact (Sd.tuple (n := 2) (b := 3) (B := 80) (mem_app (mem_app (fun y hy => zz y (List.mem_of_mem_take hy)) (all_1 zx)) fun y hy => zz y (List.mem_of_mem_drop hy)) (by omega)).mono (by decide) (by decide)
        · have f1 : decide ((2 : Int) = 0) = false := rfl
          have f2 : decide ((2 : Int) = 1) = false := rfl
          have e0 : atI (nu.map PyData.int) 0 = some (.int (nu.getD 0 0)) := atI_ints (k := 0) (by rw [hr.1]; omega)
          have lN : (nu.map PyData.int).length ≤ 20 := by rw [List.length_map, hr.1]; exact hm3
          simp only [aAnd, aAndV, aAsg, aAsgT, aBk, aC, aCB, aCall, aCallK, aChain, aCons, aCt, aDget, aDispM, aDput, aDrop, aGN, aGcons, aGnil, aGtup, aIE, aIL, aIR1, aIR2, aIT, aIZ, aIf, aIfS, aIsi, aLst, aLstM, aMt, aMt0, aNever, aNil, aNoP, aNot, aNotV, aNx, aOp, aOr, aOrV, aPar, aPar3, aRet, aRetN, aRevD, aRevM, aSl, aSmP, aTst, aTup, aUn, aVar, aYes, xAbs, xApp, xBools, xEqB, xGcd, xI, xIc, xInt, xInts, xIs_nn, xIs_bb, xIs_bn, xIs_in, xIs_sn, xIs_tn, xIs_ln, xLen, xListOfM, xMax, xMin, xNeg, xPop, xSum, xTupleOf, optW, view, W.isFn, List.forall_mem_cons, forall_nil, asB, onRL, isRL, pick, keyOf, val_cells, val_mixed, val_draws, put_draws, allD, finD, startA, List.map_cons, List.map_nil, List.length_cons, List.length_nil, List.replicate, List.cons_append, List.nil_append, List.append_nil, List.getElem?_cons_zero, List.getElem?_cons_succ, List.set_cons_zero, List.set_cons_succ, Option.join_some, Option.map_some, List.filterMap_cons, List.filterMap_nil, List.take, Nat.sub_self, Nat.add_one_sub_one, Nat.reduceSub, Nat.reduceAdd, List.replicate_zero, isT, atI_0, atI_1, size2, size1, size3, size0, true_and, and_true, Bool.true_eq_false, Bool.false_eq_true, if_true, if_false, ite_true, ite_false, reduceIte, eq_self, ex_app, ex_app2, ite_tt, ite_ft, List.cons.injEq, W.d.injEq, PyData.int.injEq, PyData.tuple.injEq, exists_eq_left', and_assoc, exists_and_left, eqOk_int, eqD_int, eqOk_fr, eqD_fr, eqOk_str, eqD_str, id, lo_ws1, lo_ws2, lo_ws3, Bool.not_true, Bool.not_false, Bool.and_true, Bool.and_false, Bool.true_and, Bool.false_and, Bool.or_true, Bool.or_false, Bool.true_or, Bool.false_or, aCallV, aCallL, capOf, onlyD, startL, aIZB, sqD, xIn, allS, xMulB, xStr, isStrW, xUpper, aLRg1, aRevT, rowD, rowsD, exists_eq_left, aIZG, seqG, SG, wipeA, lstOf, allBm, allIm, all_id, any_id, ones_ok, ones_eqD, aDic0, xReprA, xAdd_i, xAdd_s, xAdd_t, xAdd_l, xSl_t, xSl_l, xSl_s, xSl_scr, xListOf_t, xListOf_l, xIdx_t, xIdx_l, xIdx_s, xIdx_r, xEqB, f1, f2, decide_true]
          refine sq ?_
          simp only [aAnd, aAndV, aAsg, aAsgT, aBk, aC, aCB, aCall, aCallK, aChain, aCons, aCt, aDget, aDispM, aDput, aDrop, aGN, aGcons, aGnil, aGtup, aIE, aIL, aIR1, aIR2, aIT, aIZ, aIf, aIfS, aIsi, aLst, aLstM, aMt, aMt0, aNever, aNil, aNoP, aNot, aNotV, aNx, aOp, aOr, aOrV, aPar, aPar3, aRet, aRetN, aRevD, aRevM, aSl, aSmP, aTst, aTup, aUn, aVar, aYes, xAbs, xApp, xBools, xEqB, xGcd, xI, xIc, xInt, xInts, xIs_nn, xIs_bb, xIs_bn, xIs_in, xIs_sn, xIs_tn, xIs_ln, xLen, xListOfM, xMax, xMin, xNeg, xPop, xSum, xTupleOf, optW, view, W.isFn, List.forall_mem_cons, forall_nil, asB, onRL, isRL, pick, keyOf, val_cells, val_mixed, val_draws, put_draws, allD, finD, startA, List.map_cons, List.map_nil, List.length_cons, List.length_nil, List.replicate, List.cons_append, List.nil_append, List.append_nil, List.getElem?_cons_zero, List.getElem?_cons_succ, List.set_cons_zero, List.set_cons_succ, Option.join_some, Option.map_some, List.filterMap_cons, List.filterMap_nil, List.take, Nat.sub_self, Nat.add_one_sub_one, Nat.reduceSub, Nat.reduceAdd, List.replicate_zero, isT, atI_0, atI_1, size2, size1, size3, size0, true_and, and_true, Bool.true_eq_false, Bool.false_eq_true, if_true, if_false, ite_true, ite_false, reduceIte, eq_self, ex_app, ex_app2, ite_tt, ite_ft, List.cons.injEq, W.d.injEq, PyData.int.injEq, PyData.tuple.injEq, exists_eq_left', and_assoc, exists_and_left, eqOk_int, eqD_int, eqOk_fr, eqD_fr, eqOk_str, eqD_str, id, lo_ws1, lo_ws2, lo_ws3, Bool.not_true, Bool.not_false, Bool.and_true, Bool.and_false, Bool.true_and, Bool.false_and, Bool.or_true, Bool.or_false, Bool.true_or, Bool.false_or, aCallV, aCallL, capOf, onlyD, startL, aIZB, sqD, xIn, allS, xMulB, xStr, isStrW, xUpper, aLRg1, aRevT, rowD, rowsD, exists_eq_left, aIZG, seqG, SG, wipeA, lstOf, allBm, allIm, all_id, any_id, ones_ok, ones_eqD, aDic0, xReprA, xAdd_i, xAdd_s, xAdd_t, xAdd_l, xSl_t, xSl_l, xSl_s, xSl_scr, xListOf_t, xListOf_l, xIdx_t, xIdx_l, xIdx_s, xIdx_r, e0, sp__law_pick]
          refine ⟨Nat.le_trans (Nat.add_le_add_right lN 1) (by decide), by decide, _, rfl, _, _, hd4, by omega, by simp, by simp, fun x o5 hx hd5 => hR' _ _ ⟨_, _, _, _, _, _, _, rfl, sd_pair ?_ Sd.bool, hd5.mono (by omega)⟩⟩
          have l0 : 0 < nu.length := by rw [hr.1]; omega
          have b0 : Bd 64 (nu.getD 0 0) := hr.2 _ (by rw [List.getD_eq_getElem?_getD, List.getElem?_eq_getElem l0]; exact List.getElem_mem _)
          simp only [List.mem_cons, List.not_mem_nil, or_false] at hx
          rcases hx with rfl | rfl | rfl | rfl | rfl | rfl | rfl
          · exact (Sd.tuple (n := 0) (b := 0) (B := 20) (fun y hy => zn.1 y (cut_mem hy)) (Nat.le_trans (Nat.le_of_eq (Nat.mul_one _)) (Nat.le_trans (cut_len _ _ _) lN))).mono (by decide) (by decide)
          · exact (Sd.tuple (n := 0) (b := 0) (B := 21) (mem_app zn.1 (all_1 (sd_i _ b1))) (by rw [List.length_append, List.length_singleton]; exact Nat.le_trans (Nat.le_of_eq (Nat.mul_one _)) (Nat.add_le_add_right lN 1))).mono (by decide) (by decide)
          · exact (Sd.list (n := 0) (b := 0) (B := 20) zn.1 (Nat.le_trans (Nat.le_of_eq (Nat.mul_one _)) lN)).mono (by decide) (by decide)
          · exact (Sd.tuple (n := 0) (b := 0) (B := 20) (fun y hy => zn.1 y (List.mem_reverse.mp hy)) (by rw [List.length_reverse]; exact Nat.le_trans (Nat.le_of_eq (Nat.mul_one _)) lN)).mono (by decide) (by decide)
          · exact z0
          · exact sd_i _ (b0.mono (by decide))
          · exact (Sd.tuple (n := 1) (b := 20) (B := 21) (all_1 zn.2) (by simp)).mono (by decide) (by decide)
        · have f1 : decide ((3 : Int) = 0) = false := rfl
          have f2 : decide ((3 : Int) = 1) = false := rfl
          have f3 : decide ((3 : Int) = 2) = false := rfl
          simp only [aAnd, aAndV, aAsg, aAsgT, aBk, aC, aCB, aCall, aCallK, aChain, aCons, aCt, aDget, aDispM, aDput, aDrop, aGN, aGcons, aGnil, aGtup, aIE, aIL, aIR1, aIR2, aIT, aIZ, aIf, aIfS, aIsi, aLst, aLstM, aMt, aMt0, aNever, aNil, aNoP, aNot, aNotV, aNx, aOp, aOr, aOrV, aPar, aPar3, aRet, aRetN, aRevD, aRevM, aSl, aSmP, aTst, aTup, aUn, aVar, aYes, xAbs, xApp, xBools, xEqB, xGcd, xI, xIc, xInt, xInts, xIs_nn, xIs_bb, xIs_bn, xIs_in, xIs_sn, xIs_tn, xIs_ln, xLen, xListOfM, xMax, xMin, xNeg, xPop, xSum, xTupleOf, optW, view, W.isFn, List.forall_mem_cons, forall_nil, asB, onRL, isRL, pick, keyOf, val_cells, val_mixed, val_draws, put_draws, allD, finD, startA, List.map_cons, List.map_nil, List.length_cons, List.length_nil, List.replicate, List.cons_append, List.nil_append, List.append_nil, List.getElem?_cons_zero, List.getElem?_cons_succ, List.set_cons_zero, List.set_cons_succ, Option.join_some, Option.map_some, List.filterMap_cons, List.filterMap_nil, List.take, Nat.sub_self, Nat.add_one_sub_one, Nat.reduceSub, Nat.reduceAdd, List.replicate_zero, isT, atI_0, atI_1, size2, size1, size3, size0, true_and, and_true, Bool.true_eq_false, Bool.false_eq_true, if_true, if_false, ite_true, ite_false, reduceIte, eq_self, ex_app, ex_app2, ite_tt, ite_ft, List.cons.injEq, W.d.injEq, PyData.int.injEq, PyData.tuple.injEq, exists_eq_left', and_assoc, exists_and_left, eqOk_int, eqD_int, eqOk_fr, eqD_fr, eqOk_str, eqD_str, id, lo_ws1, lo_ws2, lo_ws3, Bool.not_true, Bool.not_false, Bool.and_true, Bool.and_false, Bool.true_and, Bool.false_and, Bool.or_true, Bool.or_false, Bool.true_or, Bool.false_or, aCallV, aCallL, capOf, onlyD, startL, aIZB, sqD, xIn, allS, xMulB, xStr, isStrW, xUpper, aLRg1, aRevT, rowD, rowsD, exists_eq_left, aIZG, seqG, SG, wipeA, lstOf, allBm, allIm, all_id, any_id, ones_ok, ones_eqD, aDic0, xReprA, xAdd_i, xAdd_s, xAdd_t, xAdd_l, xSl_t, xSl_l, xSl_s, xSl_scr, xListOf_t, xListOf_l, xIdx_t, xIdx_l, xIdx_s, xIdx_r, xEqB, f1, f2, f3, sp__law_pick, eA]
          refine ⟨by decide, _, rfl, _, _, hd4, by omega, by simp, by simp, fun x o5 hx hd5 => hR' _ _ ⟨_, _, _, _, _, _, _, rfl, ?_, hd5.mono (by omega)⟩⟩
          simp only [List.mem_cons, List.not_mem_nil, or_false] at hx
          rcases hx with rfl | rfl | rfl | rfl | rfl | rfl
          · exact sd_pair Sd.bool zN
          · exact (Sd.tuple (n := 4) (b := 100) (B := 101) (all_1 zN) (by simp)).mono (by decide) (by decide)
          · exact (Sd.tuple (n := 4) (b := 100) (B := 303) (all_3 zN Sd.bool (sd_i _ b1)) (by simp)).mono (by decide) (by decide)
          · exact (Sd.list (n := 4) (b := 100) (B := 202) (all_2 zN Sd.bool) (by simp)).mono (by decide) (by decide)
          · exact zN.mono (by decide) (by decide)
          · exact z0
theorem ok__law_bent_rows (T : Ty K mg base Tb) : Fdf P w K mg base (SG Tb) 3 "_law_bent_rows" ["deck", "rows"] [] sp__law_bent_rows := T.d__law_bent_rows.fd fun f fd Fn => g__law_bent_rows T Fn
theorem sst_big {i : Int} {k : Nat} (h : Bd 341 i) : Sst 110 (Str.ofString (toString i)) := by
  refine ⟨?_, fun c hc => ?_⟩
  · show (Str.ofString (toString i)).length ≤ 110
    rw [PySem.ofString_length]
    have := PySem.int_text_length_le10 (a := i) (k := 103) (by decide) (Nat.lt_trans (show i.natAbs < 2 ^ 341 from h) (by decide +kernel))
    omega
  · rw [Str.ofString_eq_toList] at hc
    have hc : c ∈ (toString i).toList.map Char.toNat := by simpa using hc
    obtain ⟨ch, _, rfl⟩ := List.mem_map.mp hc
    exact ch.val.toNat_lt
theorem sst_app {A B : Nat} {a b : Str} (h : Sst A a) (g : Sst B b) : Sst (A + B) (a ++ b) := by
  refine ⟨?_, fun c hc => ?_⟩
  · show (a.cps ++ b.cps).size ≤ A + B
    rw [Array.size_append]
    have := h.1
    have := g.1
    omega
  · have hc : c ∈ (a.cps ++ b.cps).toList := hc
    rw [Array.toList_append] at hc
    exact (List.mem_append.mp hc).elim (h.2 c) (g.2 c)
theorem sst_slash : Sst 1 ("/" : Str) := by decide +kernel
def sp__law_near_fraction : ASp := fun ws ih Q => ∃ (n d : Int) (b : Nat) (r : IH), ws = [.ref 2, .d (.tuple [.int n, .int d])] ∧ Bd 341 n ∧ Bd 341 d ∧ Dk ([.tab "are_rows.<locals>.<lambda>"] : IH) b r ih ∧ b ≤ 900000 ∧ ∀ (x : D) (ih2 : IH), Sd 10 6000 x → Dk ([.tab "are_rows.<locals>.<lambda>"] : IH) (b + 10) r ih2 → Q (.d x) ih2
theorem g__law_near_fraction (T : Ty K mg base Tb) {f : Addr} {fd : FuncData} (Fn : Fun K "_law_near_fraction" "_law_near_fraction" st__law_near_fraction f fd) : FnG P w K mg base (SG Tb) 3 f fd ["deck", "one"] sp__law_near_fraction := by
  refine fnG_ofT Fn sc__law_near_fraction ((bv_cons (sv_asg (ev_var 1) (GW.gv (vs := [2, 3]) (gw_tup (n := 2) (gws_cons (gw_name 2) (gws_cons (gw_name 3) gws_nil)))))
      (bv_cons (sv_set 4 (ev_lst (av_cons (ev_tup (av_cons (ev_var 2) (av_cons (ev_un uv_neg (ev_var 3)) av_nil))) (av_cons (ev_tup (av_cons (ev_un uv_neg (ev_var 2)) (av_cons (ev_var 3) av_nil))) (av_cons (ev_tup (av_cons (ev_op ov_mul ev_int (ev_var 2)) (av_cons (ev_op ov_mul ev_int (ev_var 3)) av_nil))) (av_cons (ev_tup (av_cons (ev_var 2) (av_cons ev_int av_nil))) (av_cons (ev_lst (av_cons (ev_var 2) (av_cons (ev_var 3) av_nil))) (av_cons (ev_tup (av_cons (ev_var 2) av_nil)) (av_cons (ev_tup (av_cons (ev_var 2) (av_cons (ev_var 3) (av_cons ev_int av_nil)))) (av_cons (ev_tup (av_cons (ev_var 3) (av_cons (ev_var 2) av_nil))) (av_cons (ev_tup (av_cons ev_int (av_cons (ev_var 3) av_nil))) (av_cons (ev_tup (av_cons (ev_cmp ov_eq (ev_var 2) ev_int) (av_cons (ev_var 3) av_nil))) (av_cons (ev_tup (av_cons (ev_var 2) (av_cons (ev_cmp ov_eq (ev_var 3) ev_int) av_nil))) av_nil)))))))))))))
      (bv_cons (sv_set 4 (ev_op ov_add (ev_var 4) (ev_lst (av_cons (ev_tup (av_cons (ev_callT cv_str rfl T.b_str bt_str (av_cons (ev_var 2) av_nil)) (av_cons (ev_var 3) av_nil))) (av_cons (ev_tup (av_cons (ev_var 2) (av_cons ev_non av_nil))) (av_cons (ev_tup (av_cons (ev_tup (av_cons (ev_var 2) av_nil)) (av_cons (ev_var 3) av_nil))) (av_cons (ev_var 2) (av_cons (ev_op ov_add (ev_op ov_add (ev_callT cv_str rfl T.b_str bt_str (av_cons (ev_var 2) av_nil)) ev_str) (ev_callT cv_str rfl T.b_str bt_str (av_cons (ev_var 3) av_nil))) (av_cons (ev_tup (av_cons (ev_op ov_add (ev_var 2) (ev_var 3)) (av_cons (ev_var 3) av_nil))) (av_cons (ev_var 1) (av_cons (ev_tup (av_cons (ev_var 1) av_nil)) av_nil)))))))))))
      (bv_one (sv_ret (evc (ok__law_pick T) (Nat.le_of_ble_eq_true rfl) rfl (av_cons (ev_var 0) (av_cons (ev_var 4) av_nil))))))))) fun ws ob Qa hl h => ?_
  obtain ⟨n, d, b, r, rfl, bn, bd, hd, hb, q⟩ := h
  refine sq ?_
  simp only [aAnd, aAndV, aAsg, aAsgT, aBk, aC, aCB, aCall, aCallK, aChain, aCons, aCt, aDget, aDispM, aDput, aDrop, aGN, aGcons, aGnil, aGtup, aIE, aIL, aIR1, aIR2, aIT, aIZ, aIf, aIfS, aIsi, aLst, aLstM, aMt, aMt0, aNever, aNil, aNoP, aNot, aNotV, aNx, aOp, aOr, aOrV, aPar, aPar3, aRet, aRetN, aRevD, aRevM, aSl, aSmP, aTst, aTup, aUn, aVar, aYes, xAbs, xApp, xBools, xEqB, xGcd, xI, xIc, xInt, xInts, xIs_nn, xIs_bb, xIs_bn, xIs_in, xIs_sn, xIs_tn, xIs_ln, xLen, xListOfM, xMax, xMin, xNeg, xPop, xSum, xTupleOf, optW, view, W.isFn, List.forall_mem_cons, forall_nil, asB, onRL, isRL, pick, keyOf, val_cells, val_mixed, val_draws, put_draws, allD, finD, startA, List.map_cons, List.map_nil, List.length_cons, List.length_nil, List.replicate, List.cons_append, List.nil_append, List.append_nil, List.getElem?_cons_zero, List.getElem?_cons_succ, List.set_cons_zero, List.set_cons_succ, Option.join_some, Option.map_some, List.filterMap_cons, List.filterMap_nil, List.take, Nat.sub_self, Nat.add_one_sub_one, Nat.reduceSub, Nat.reduceAdd, List.replicate_zero, isT, atI_0, atI_1, size2, size1, size3, size0, true_and, and_true, Bool.true_eq_false, Bool.false_eq_true, if_true, if_false, ite_true, ite_false, reduceIte, eq_self, ex_app, ex_app2, ite_tt, ite_ft, List.cons.injEq, W.d.injEq, PyData.int.injEq, PyData.tuple.injEq, exists_eq_left', and_assoc, exists_and_left, eqOk_int, eqD_int, eqOk_fr, eqD_fr, eqOk_str, eqD_str, id, lo_ws1, lo_ws2, lo_ws3, Bool.not_true, Bool.not_false, Bool.and_true, Bool.and_false, Bool.true_and, Bool.false_and, Bool.or_true, Bool.or_false, Bool.true_or, Bool.false_or, aCallV, aCallL, capOf, onlyD, startL, aIZB, sqD, xIn, allS, xMulB, xStr, isStrW, xUpper, aLRg1, aRevT, rowD, rowsD, exists_eq_left, aIZG, seqG, SG, wipeA, lstOf, allBm, allIm, all_id, any_id, ones_ok, ones_eqD, aDic0, xReprA, xAdd_i, xAdd_s, xAdd_t, xAdd_l, xSl_t, xSl_l, xSl_s, xSl_scr, xListOf_t, xListOf_l, xIdx_t, xIdx_l, xIdx_s, xIdx_r]
  refine sq ?_
  simp only [aAnd, aAndV, aAsg, aAsgT, aBk, aC, aCB, aCall, aCallK, aChain, aCons, aCt, aDget, aDispM, aDput, aDrop, aGN, aGcons, aGnil, aGtup, aIE, aIL, aIR1, aIR2, aIT, aIZ, aIf, aIfS, aIsi, aLst, aLstM, aMt, aMt0, aNever, aNil, aNoP, aNot, aNotV, aNx, aOp, aOr, aOrV, aPar, aPar3, aRet, aRetN, aRevD, aRevM, aSl, aSmP, aTst, aTup, aUn, aVar, aYes, xAbs, xApp, xBools, xEqB, xGcd, xI, xIc, xInt, xInts, xIs_nn, xIs_bb, xIs_bn, xIs_in, xIs_sn, xIs_tn, xIs_ln, xLen, xListOfM, xMax, xMin, xNeg, xPop, xSum, xTupleOf, optW, view, W.isFn, List.forall_mem_cons, forall_nil, asB, onRL, isRL, pick, keyOf, val_cells, val_mixed, val_draws, put_draws, allD, finD, startA, List.map_cons, List.map_nil, List.length_cons, List.length_nil, List.replicate, List.cons_append, List.nil_append, List.append_nil, List.getElem?_cons_zero, List.getElem?_cons_succ, List.set_cons_zero, List.set_cons_succ, Option.join_some, Option.map_some, List.filterMap_cons, List.filterMap_nil, List.take, Nat.sub_self, Nat.add_one_sub_one, Nat.reduceSub, Nat.reduceAdd, List.replicate_zero, isT, atI_0, atI_1, size2, size1, size3, size0, true_and, and_true, Bool.true_eq_false, Bool.false_eq_true, if_true, if_false, ite_true, ite_false, reduceIte, eq_self, ex_app, ex_app2, ite_tt, ite_ft, List.cons.injEq, W.d.injEq, PyData.int.injEq, PyData.tuple.injEq, exists_eq_left', and_assoc, exists_and_left, eqOk_int, eqD_int, eqOk_fr, eqD_fr, eqOk_str, eqD_str, id, lo_ws1, lo_ws2, lo_ws3, Bool.not_true, Bool.not_false, Bool.and_true, Bool.and_false, Bool.true_and, Bool.false_and, Bool.or_true, Bool.or_false, Bool.true_or, Bool.false_or, aCallV, aCallL, capOf, onlyD, startL, aIZB, sqD, xIn, allS, xMulB, xStr, isStrW, xUpper, aLRg1, aRevT, rowD, rowsD, exists_eq_left, aIZG, seqG, SG, wipeA, lstOf, allBm, allIm, all_id, any_id, ones_ok, ones_eqD, aDic0, xReprA, xAdd_i, xAdd_s, xAdd_t, xAdd_l, xSl_t, xSl_l, xSl_s, xSl_scr, xListOf_t, xListOf_l, xIdx_t, xIdx_l, xIdx_s, xIdx_r, xEqB]
  refine ⟨(by decide : Bd 2 2).cmul bn (by decide), (by decide : Bd 2 2).cmul bd (by decide), by decide, ?_⟩
  have sn : Sm n := bn.sm (by decide)
  have sd : Sm d := bd.sm (by decide)
  refine sq ?_
  simp only [aAnd, aAndV, aAsg, aAsgT, aBk, aC, aCB, aCall, aCallK, aChain, aCons, aCt, aDget, aDispM, aDput, aDrop, aGN, aGcons, aGnil, aGtup, aIE, aIL, aIR1, aIR2, aIT, aIZ, aIf, aIfS, aIsi, aLst, aLstM, aMt, aMt0, aNever, aNil, aNoP, aNot, aNotV, aNx, aOp, aOr, aOrV, aPar, aPar3, aRet, aRetN, aRevD, aRevM, aSl, aSmP, aTst, aTup, aUn, aVar, aYes, xAbs, xApp, xBools, xEqB, xGcd, xI, xIc, xInt, xInts, xIs_nn, xIs_bb, xIs_bn, xIs_in, xIs_sn, xIs_tn, xIs_ln, xLen, xListOfM, xMax, xMin, xNeg, xPop, xSum, xTupleOf, optW, view, W.isFn, List.forall_mem_cons, forall_nil, asB, onRL, isRL, pick, keyOf, val_cells, val_mixed, val_draws, put_draws, allD, finD, startA, List.map_cons, List.map_nil, List.length_cons, List.length_nil, List.replicate, List.cons_append, List.nil_append, List.append_nil, List.getElem?_cons_zero, List.getElem?_cons_succ, List.set_cons_zero, List.set_cons_succ, Option.join_some, Option.map_some, List.filterMap_cons, List.filterMap_nil, List.take, Nat.sub_self, Nat.add_one_sub_one, Nat.reduceSub, Nat.reduceAdd, List.replicate_zero, isT, atI_0, atI_1, size2, size1, size3, size0, true_and, and_true, Bool.true_eq_false, Bool.false_eq_true, if_true, if_false, ite_true, ite_false, reduceIte, eq_self, ex_app, ex_app2, ite_tt, ite_ft, List.cons.injEq, W.d.injEq, PyData.int.injEq, PyData.tuple.injEq, exists_eq_left', and_assoc, exists_and_left, eqOk_int, eqD_int, eqOk_fr, eqD_fr, eqOk_str, eqD_str, id, lo_ws1, lo_ws2, lo_ws3, Bool.not_true, Bool.not_false, Bool.and_true, Bool.and_false, Bool.true_and, Bool.false_and, Bool.or_true, Bool.or_false, Bool.true_or, Bool.false_or, aCallV, aCallL, capOf, onlyD, startL, aIZB, sqD, xIn, allS, xMulB, xStr, isStrW, xUpper, aLRg1, aRevT, rowD, rowsD, exists_eq_left, aIZG, seqG, SG, wipeA, lstOf, allBm, allIm, all_id, any_id, ones_ok, ones_eqD, aDic0, xReprA, xAdd_i, xAdd_s, xAdd_t, xAdd_l, xSl_t, xSl_l, xSl_s, xSl_scr, xListOf_t, xListOf_l, xIdx_t, xIdx_l, xIdx_s, xIdx_r, sp__law_pick]
  have s1 := sst_big (k := 0) bn
  have s2 := sst_big (k := 0) bd
  have s3 := sst_app s1 sst_slash
  have s4 := sst_app s3 s2
  have n2 : Bd 343 (2 * n) := ((by decide : Bd 2 2).mul bn).mono (by decide)
  have d2 : Bd 343 (2 * d) := ((by decide : Bd 2 2).mul bd).mono (by decide)
  have nd : Bd 343 (n + d) := (bn.add bd).mono (by decide)
  have iS : ∀ {i : Int}, Bd 343 i → Sd 4 300 (.int i) := fun {i} h => Sd.int h (by decide)
  have wn : Sd 4 300 (.int n) := iS (bn.mono (by decide))
  have wd : Sd 4 300 (.int d) := iS (bd.mono (by decide))
  have i0 : Sd 4 300 (.int 0) := iS (by decide)
  have i1 : Sd 4 300 (.int 1) := iS (by decide)
  have T1 : ∀ {x : D}, Sd 4 300 x → Sd 10 6000 (.tuple [x]) := fun {x} h => (Sd.tuple (n := 4) (b := 300) (B := 301) (all_1 h) (by simp)).mono (by decide) (by decide)
  have T2 : ∀ {x y : D}, Sd 4 300 x → Sd 4 300 y → Sd 10 6000 (.tuple [x, y]) := fun {x y} h g => (Sd.tuple (n := 4) (b := 300) (B := 602) (all_2 h g) (by simp)).mono (by decide) (by decide)
  refine ⟨sn, sn, ?_, sd, ?_, by decide, by decide, _, rfl, _, _, hd, by omega, Nat.zero_lt_succ _, by simp, fun x o2 hx hd2 => finT_d0 hd hd2 fun o3 hd3 => q _ _ ?_ (hd3.mono (by omega))⟩
  · exact Nat.le_trans (Nat.add_le_add s1.1 sst_slash.1) (by decide)
  · exact Nat.le_trans (Nat.add_le_add s3.1 s2.1) (by decide)
  · simp only [List.mem_cons, List.not_mem_nil, or_false] at hx
    rcases hx with rfl | rfl | rfl | rfl | rfl | rfl | rfl | rfl | rfl | rfl | rfl | rfl | rfl | rfl | rfl | rfl | rfl | rfl | rfl
    · exact T2 wn (iS (bd.neg.mono (by decide)))
    · exact T2 (iS (bn.neg.mono (by decide))) wd
    · exact T2 (iS n2) (iS d2)
    · exact T2 wn i0
    · exact (Sd.list (n := 4) (b := 300) (B := 602) (all_2 wn wd) (by simp)).mono (by decide) (by decide)
    · exact T1 wn
    · exact (Sd.tuple (n := 4) (b := 300) (B := 903) (all_3 wn wd i1) (by simp)).mono (by decide) (by decide)
    · exact T2 wd wn
    · exact T2 i0 wd
    · exact T2 Sd.bool wd
    · exact T2 wn Sd.bool
    · exact T2 ((Sd.str (n := 0) s1).mono (by decide) (by decide)) wd
    · exact T2 wn Sd.none
    · exact T2 ((Sd.tuple (n := 0) (b := 0) (B := 1) (all_1 (Sd.int (bn.mono (by decide : 341 ≤ 341)) (by decide))) (by simp)).mono (by decide) (by decide)) wd
    · exact wn.mono (by decide) (by decide)
    · exact (Sd.str (n := 0) s4).mono (by decide) (by decide)
    · exact T2 (iS nd) wd
    · exact T2 wn wd
    · exact T1 ((Sd.tuple (n := 0) (b := 0) (B := 2) (all_2 (Sd.int (bn.mono (by decide : 341 ≤ 341)) (by decide)) (Sd.int (bd.mono (by decide : 341 ≤ 341)) (by decide))) (by simp)).mono (by decide) (by decide))
theorem ok__law_near_fraction (T : Ty K mg base Tb) : Fdf P w K mg base (SG Tb) 3 "_law_near_fraction" ["deck", "one"] [] sp__law_near_fraction := T.d__law_near_fraction.fd fun f fd Fn => g__law_near_fraction T Fn
theorem Dk.tab {b : Nat} {r ih : IH} (h : Dk ([.tab "are_rows.<locals>.<lambda>"] : IH) b r ih) : ih[0]? = some (.tab "are_rows.<locals>.<lambda>") := by
  obtain ⟨c, x, z, rfl, _⟩ := h
  rfl
theorem Dk.ext {b : Nat} {r ih : IH} (h : Dk ([.tab "are_rows.<locals>.<lambda>"] : IH) b r ih) : ∃ ex, ih = ([.tab "are_rows.<locals>.<lambda>"] : IH) ++ ex := by
  obtain ⟨c, x, z, rfl, _⟩ := h
  exact ⟨_, rfl⟩
theorem same2 (v : Bool) : sameOk 8 (.tuple [.bool v, .bool v]) = true := by cases v <;> rfl
def iv_law (ns : List Int) : Nat → En → IH → Prop := fun i env ih => ∃ a b c d e f g h j : Option W, env = [some (.scr ns), some (.ref 2), a, b, c, d, e, f, g, h, j] ∧ Dk ([.tab "are_rows.<locals>.<lambda>"] : IH) (12000 * i) [] ih
abbrev sp_law : ASp := spLaw ["are_rows.<locals>.<lambda>"]
theorem g_law (T : Ty K mg base Tb) {f : Addr} {fd : FuncData} (Fn : Fun K "law" "law" st_law f fd) : FnG P w K mg base (SG Tb) 10 f fd ["script"] sp_law := by
  refine fnG_of Fn sc_law ((bv_cons (sv_set 1 (evc (ok__law_deck T) (Nat.le_of_ble_eq_true rfl) rfl (av_cons (ev_var 0) av_nil)))
      (bv_cons (sv_for (iv_range1 (av_cons ev_int av_nil) rfl T.b_range) (GW.gv (vs := [2]) (gw_name 2)) (bv_cons (sv_par 3 4 (av_cons (evc (ok__law_fraction T) (Nat.le_of_ble_eq_true rfl) rfl (av_cons (ev_var 1) (av_cons ev_int av_nil))) (av_cons (ev_op ov_add ev_int (evc (ok__law_draw T) (Nat.le_of_ble_eq_true rfl) rfl (av_cons (ev_var 1) (av_cons ev_int av_nil)))) av_nil)) (hw := fun env h => by cases env; subst h; rfl))
      (bv_cons (sv_set 5 (ev_ix (evc (ok__law_rows_with_point T) (Nat.le_of_ble_eq_true rfl) rfl (av_cons (ev_var 1) (av_cons (ev_var 4) (av_cons (evc (ok__law_draw T) (Nat.le_of_ble_eq_true rfl) rfl (av_cons (ev_var 1) (av_cons ev_int av_nil))) (av_cons (evc (ok__law_pick T) (Nat.le_of_ble_eq_true rfl) rfl (av_cons (ev_var 1) (av_cons (ev_lst (av_cons ev_int (av_cons (ev_op ov_pow ev_int ev_int) av_nil))) av_nil))) av_nil))))) ev_int))
      (bv_cons (sv_for (iv_tup (ev_tup (av_cons (ev_var 3) (av_cons (evc (ok__law_near_fraction T) (Nat.le_of_ble_eq_true rfl) rfl (av_cons (ev_var 1) (av_cons (ev_var 3) av_nil))) (av_cons (evc (ok__law_any T) (Nat.le_of_ble_eq_true rfl) rfl (av_cons (ev_var 1) (av_cons ev_int av_nil))) av_nil))))) (GW.gv (vs := [6]) (gw_name 6)) (bv_cons (sv_par 7 8 (av_cons (evc (ok__law_is_fraction T) (Nat.le_of_ble_eq_true rfl) rfl (av_cons (ev_var 6) av_nil)) (av_cons (ev_callB (cv_reprA T.low) rfl T.b_repr bt_repr (av_cons (ev_var 6) av_nil)) av_nil)) (hw := fun env h => by cases env; subst h; rfl))
      (bv_one (sv_if (WV.tv (wv_or (tv_not (tv_val (evc (ok__law_same T) (Nat.le_of_ble_eq_true rfl) rfl (av_cons (ev_tup (av_cons (evc (ok_is_fraction T) (Nat.le_of_ble_eq_true rfl) rfl (av_cons (ev_var 6) av_nil)) (av_cons (evk0 (ks := ["thing"]) (b := 1) (is := [0]) (ok_is_fraction T) (Nat.le_of_ble_eq_true rfl) rfl (by simp) (kv_cons (ev_var 6) kv_nil)) av_nil))) (av_cons (ev_tup (av_cons (ev_var 7) (av_cons (ev_var 7) av_nil))) av_nil))))) (wv_or1 (tv_cmp ov_ne (ev_callB (cv_reprA T.low) rfl T.b_repr bt_repr (av_cons (ev_var 6) av_nil)) (ev_var 8))))) (bv_one (sv_ret ev_bl)) bv_nil))))
      (bv_one (sv_for (iv_tup (ev_tup (av_cons (ev_var 5) (av_cons (evc (ok__law_bent_rows T) (Nat.le_of_ble_eq_true rfl) rfl (av_cons (ev_var 1) (av_cons (ev_var 5) av_nil))) (av_cons (evc (ok__law_bent_rows T) (Nat.le_of_ble_eq_true rfl) rfl (av_cons (ev_var 1) (av_cons (ev_var 5) av_nil))) (av_cons (evc (ok__law_any T) (Nat.le_of_ble_eq_true rfl) rfl (av_cons (ev_var 1) (av_cons ev_int av_nil))) av_nil)))))) (GW.gv (vs := [6]) (gw_name 6)) (bv_one (sv_for (iv_tup (ev_tup (av_cons (ev_var 4) (av_cons (evc (ok__law_pick T) (Nat.le_of_ble_eq_true rfl) rfl (av_cons (ev_var 1) (av_cons (ev_lst (av_cons ev_int (av_cons ev_int (av_cons (ev_op ov_add (ev_var 4) ev_int) av_nil)))) av_nil))) av_nil)))) (GW.gv (vs := [9]) (gw_name 9)) (bv_cons (sv_par 7 8 (av_cons (evc (ok__law_are_rows T) (Nat.le_of_ble_eq_true rfl) rfl (av_cons (ev_var 9) (av_cons (ev_var 6) av_nil))) (av_cons (ev_callB (cv_reprA T.low) rfl T.b_repr bt_repr (av_cons (ev_var 6) av_nil)) av_nil)) (hw := fun env h => by cases env; subst h; rfl))
      (bv_one (sv_if (WV.tv (wv_or (tv_not (tv_val (evc (ok__law_same T) (Nat.le_of_ble_eq_true rfl) rfl (av_cons (ev_tup (av_cons (evc (ok_is_rows T) (Nat.le_of_ble_eq_true rfl) rfl (av_cons (ev_var 9) (av_cons (ev_var 6) av_nil))) (av_cons (evk0 (ks := ["thing", "many"]) (b := 2) (is := [1, 0]) (ok_is_rows T) (Nat.le_of_ble_eq_true rfl) rfl (by simp) (kv_cons (ev_var 6) (kv_cons (ev_var 9) kv_nil))) av_nil))) (av_cons (ev_tup (av_cons (ev_var 7) (av_cons (ev_var 7) av_nil))) av_nil))))) (wv_or1 (tv_cmp ov_ne (ev_callB (cv_reprA T.low) rfl T.b_repr bt_repr (av_cons (ev_var 6) av_nil)) (ev_var 8))))) (bv_one (sv_ret ev_bl)) bv_nil)))))))))))
      (bv_cons (sv_set 10 (ev_tup (av_cons (ev_tup (av_cons (ev_tup (av_cons (ev_tup (av_cons ev_int av_nil)) (av_cons ev_bl av_nil))) av_nil)) (av_cons (ev_tup (av_cons (ev_tup (av_cons (ev_tup (av_cons ev_int av_nil)) (av_cons ev_int av_nil))) av_nil)) (av_cons (ev_tup (av_cons (ev_tup (av_cons (ev_tup (av_cons ev_bl av_nil)) (av_cons ev_bl av_nil))) av_nil)) (av_cons (ev_lst (av_cons (ev_tup (av_cons (ev_tup (av_cons ev_int av_nil)) (av_cons ev_bl av_nil))) av_nil)) (av_cons (ev_tup av_nil) av_nil)))))))
      (bv_one (sv_ret (evc (ok__law_same T) (Nat.le_of_ble_eq_true rfl) rfl (av_cons (ev_lc [("thing", 6)] (iv_tup (ev_var 10)) (by show blkC ["script", "deck", "turn", "one", "many", "rows", "thing", "due", "text", "size", "some"] (defScope st_law) _ _ = true; decide +kernel) (gw_name 6) tvs_nil (evc (ok_is_rows T) (Nat.le_of_ble_eq_true rfl) rfl (av_cons ev_int (av_cons (ev_var 6) av_nil)))) (av_cons (ev_lst (av_cons ev_bl (av_cons ev_bl (av_cons ev_bl (av_cons ev_bl (av_cons ev_bl av_nil)))))) av_nil))))))))) fun ws ob Qa hl h => ?_
  obtain ⟨ns, rfl, rfl, hn, q⟩ := h
  refine sq ?_
  simp only [aAnd, aAndV, aAsg, aAsgT, aBk, aC, aCB, aCall, aCallK, aChain, aCons, aCt, aDget, aDispM, aDput, aDrop, aGN, aGcons, aGnil, aGtup, aIE, aIL, aIR1, aIR2, aIT, aIZ, aIf, aIfS, aIsi, aLst, aLstM, aMt, aMt0, aNever, aNil, aNoP, aNot, aNotV, aNx, aOp, aOr, aOrV, aPar, aPar3, aRet, aRetN, aRevD, aRevM, aSl, aSmP, aTst, aTup, aUn, aVar, aYes, xAbs, xApp, xBools, xEqB, xGcd, xI, xIc, xInt, xInts, xIs_nn, xIs_bb, xIs_bn, xIs_in, xIs_sn, xIs_tn, xIs_ln, xLen, xListOfM, xMax, xMin, xNeg, xPop, xSum, xTupleOf, optW, view, W.isFn, List.forall_mem_cons, forall_nil, asB, onRL, isRL, pick, keyOf, val_cells, val_mixed, val_draws, put_draws, allD, finD, startA, List.map_cons, List.map_nil, List.length_cons, List.length_nil, List.replicate, List.cons_append, List.nil_append, List.append_nil, List.getElem?_cons_zero, List.getElem?_cons_succ, List.set_cons_zero, List.set_cons_succ, Option.join_some, Option.map_some, List.filterMap_cons, List.filterMap_nil, List.take, Nat.sub_self, Nat.add_one_sub_one, Nat.reduceSub, Nat.reduceAdd, List.replicate_zero, isT, atI_0, atI_1, size2, size1, size3, size0, true_and, and_true, Bool.true_eq_false, Bool.false_eq_true, if_true, if_false, ite_true, ite_false, reduceIte, eq_self, ex_app, ex_app2, ite_tt, ite_ft, List.cons.injEq, W.d.injEq, PyData.int.injEq, PyData.tuple.injEq, exists_eq_left', and_assoc, exists_and_left, eqOk_int, eqD_int, eqOk_fr, eqD_fr, eqOk_str, eqD_str, id, lo_ws1, lo_ws2, lo_ws3, Bool.not_true, Bool.not_false, Bool.and_true, Bool.and_false, Bool.true_and, Bool.false_and, Bool.or_true, Bool.or_false, Bool.true_or, Bool.false_or, aCallV, aCallL, capOf, onlyD, startL, aIZB, sqD, xIn, allS, xMulB, xStr, isStrW, xUpper, aLRg1, aRevT, rowD, rowsD, exists_eq_left, aIZG, seqG, SG, wipeA, lstOf, allBm, allIm, all_id, any_id, ones_ok, ones_eqD, aDic0, xReprA, xAdd_i, xAdd_s, xAdd_t, xAdd_l, xSl_t, xSl_l, xSl_s, xSl_scr, xListOf_t, xListOf_l, xIdx_t, xIdx_l, xIdx_s, xIdx_r, sp__law_deck]
  refine ⟨_, rfl, hn, fun o1 hd => ?_⟩
  refine sq ?_
  simp only [aAnd, aAndV, aAsg, aAsgT, aBk, aC, aCB, aCall, aCallK, aChain, aCons, aCt, aDget, aDispM, aDput, aDrop, aGN, aGcons, aGnil, aGtup, aIE, aIL, aIR1, aIR2, aIT, aIZ, aIf, aIfS, aIsi, aLst, aLstM, aMt, aMt0, aNever, aNil, aNoP, aNot, aNotV, aNx, aOp, aOr, aOrV, aPar, aPar3, aRet, aRetN, aRevD, aRevM, aSl, aSmP, aTst, aTup, aUn, aVar, aYes, xAbs, xApp, xBools, xEqB, xGcd, xI, xIc, xInt, xInts, xIs_nn, xIs_bb, xIs_bn, xIs_in, xIs_sn, xIs_tn, xIs_ln, xLen, xListOfM, xMax, xMin, xNeg, xPop, xSum, xTupleOf, optW, view, W.isFn, List.forall_mem_cons, forall_nil, asB, onRL, isRL, pick, keyOf, val_cells, val_mixed, val_draws, put_draws, allD, finD, startA, List.map_cons, List.map_nil, List.length_cons, List.length_nil, List.replicate, List.cons_append, List.nil_append, List.append_nil, List.getElem?_cons_zero, List.getElem?_cons_succ, List.set_cons_zero, List.set_cons_succ, Option.join_some, Option.map_some, List.filterMap_cons, List.filterMap_nil, List.take, Nat.sub_self, Nat.add_one_sub_one, Nat.reduceSub, Nat.reduceAdd, List.replicate_zero, isT, atI_0, atI_1, size2, size1, size3, size0, true_and, and_true, Bool.true_eq_false, Bool.false_eq_true, if_true, if_false, ite_true, ite_false, reduceIte, eq_self, ex_app, ex_app2, ite_tt, ite_ft, List.cons.injEq, W.d.injEq, PyData.int.injEq, PyData.tuple.injEq, exists_eq_left', and_assoc, exists_and_left, eqOk_int, eqD_int, eqOk_fr, eqD_fr, eqOk_str, eqD_str, id, lo_ws1, lo_ws2, lo_ws3, Bool.not_true, Bool.not_false, Bool.and_true, Bool.and_false, Bool.true_and, Bool.false_and, Bool.or_true, Bool.or_false, Bool.true_or, Bool.false_or, aCallV, aCallL, capOf, onlyD, startL, aIZB, sqD, xIn, allS, xMulB, xStr, isStrW, xUpper, aLRg1, aRevT, rowD, rowsD, exists_eq_left, aIZG, seqG, SG, wipeA, lstOf, allBm, allIm, all_id, any_id, ones_ok, ones_eqD, aDic0, xReprA, xAdd_i, xAdd_s, xAdd_t, xAdd_l, xSl_t, xSl_l, xSl_s, xSl_scr, xListOf_t, xListOf_l, xIdx_t, xIdx_l, xIdx_s, xIdx_r, aFor]
  refine ⟨by decide, by decide, iv_law ns, ⟨_, _, _, _, _, _, _, _, _, rfl, hd⟩, ?_, ?_⟩
  · rintro i d env ih hi ⟨a, b, c, d, e, f, g, h, j, rfl, hd⟩
    obtain ⟨hi, rfl⟩ := rng_in hi
    have hi2 : i < 6 := by assumption
    have e6 : ((10 : Int) ^ (6 : Int).toNat) = 1000000 := by decide
    have cp : CPow 10 6 := ⟨by decide, by decide, by decide⟩
    refine sq ?_
    simp only [aAnd, aAndV, aAsg, aAsgT, aBk, aC, aCB, aCall, aCallK, aChain, aCons, aCt, aDget, aDispM, aDput, aDrop, aGN, aGcons, aGnil, aGtup, aIE, aIL, aIR1, aIR2, aIT, aIZ, aIf, aIfS, aIsi, aLst, aLstM, aMt, aMt0, aNever, aNil, aNoP, aNot, aNotV, aNx, aOp, aOr, aOrV, aPar, aPar3, aRet, aRetN, aRevD, aRevM, aSl, aSmP, aTst, aTup, aUn, aVar, aYes, xAbs, xApp, xBools, xEqB, xGcd, xI, xIc, xInt, xInts, xIs_nn, xIs_bb, xIs_bn, xIs_in, xIs_sn, xIs_tn, xIs_ln, xLen, xListOfM, xMax, xMin, xNeg, xPop, xSum, xTupleOf, optW, view, W.isFn, List.forall_mem_cons, forall_nil, asB, onRL, isRL, pick, keyOf, val_cells, val_mixed, val_draws, put_draws, allD, finD, startA, List.map_cons, List.map_nil, List.length_cons, List.length_nil, List.replicate, List.cons_append, List.nil_append, List.append_nil, List.getElem?_cons_zero, List.getElem?_cons_succ, List.set_cons_zero, List.set_cons_succ, Option.join_some, Option.map_some, List.filterMap_cons, List.filterMap_nil, List.take, Nat.sub_self, Nat.add_one_sub_one, Nat.reduceSub, Nat.reduceAdd, List.replicate_zero, isT, atI_0, atI_1, size2, size1, size3, size0, true_and, and_true, Bool.true_eq_false, Bool.false_eq_true, if_true, if_false, ite_true, ite_false, reduceIte, eq_self, ex_app, ex_app2, ite_tt, ite_ft, List.cons.injEq, W.d.injEq, PyData.int.injEq, PyData.tuple.injEq, exists_eq_left', and_assoc, exists_and_left, eqOk_int, eqD_int, eqOk_fr, eqD_fr, eqOk_str, eqD_str, id, lo_ws1, lo_ws2, lo_ws3, Bool.not_true, Bool.not_false, Bool.and_true, Bool.and_false, Bool.true_and, Bool.false_and, Bool.or_true, Bool.or_false, Bool.true_or, Bool.false_or, aCallV, aCallL, capOf, onlyD, startL, aIZB, sqD, xIn, allS, xMulB, xStr, isStrW, xUpper, aLRg1, aRevT, rowD, rowsD, exists_eq_left, aIZG, seqG, SG, wipeA, lstOf, allBm, allIm, all_id, any_id, ones_ok, ones_eqD, aDic0, xReprA, xAdd_i, xAdd_s, xAdd_t, xAdd_l, xSl_t, xSl_l, xSl_s, xSl_scr, xListOf_t, xListOf_l, xIdx_t, xIdx_l, xIdx_s, xIdx_r, sp__law_draw, sp__law_fraction]
    refine ⟨_, _, hd, by omega, by decide, by decide, fun fn fd o2 b2 F hb2 hd2 => ?_⟩
    refine ⟨_, _, hd2, by omega, by decide, by decide, fun m0 o3 m0a m0b hd3 => ?_⟩
    obtain ⟨mm, em⟩ : ∃ k : Nat, 1 + m0 = k := ⟨(1 + m0).toNat, by omega⟩
    rw [em]
    refine sq ?_
    simp only [aAnd, aAndV, aAsg, aAsgT, aBk, aC, aCB, aCall, aCallK, aChain, aCons, aCt, aDget, aDispM, aDput, aDrop, aGN, aGcons, aGnil, aGtup, aIE, aIL, aIR1, aIR2, aIT, aIZ, aIf, aIfS, aIsi, aLst, aLstM, aMt, aMt0, aNever, aNil, aNoP, aNot, aNotV, aNx, aOp, aOr, aOrV, aPar, aPar3, aRet, aRetN, aRevD, aRevM, aSl, aSmP, aTst, aTup, aUn, aVar, aYes, xAbs, xApp, xBools, xEqB, xGcd, xI, xIc, xInt, xInts, xIs_nn, xIs_bb, xIs_bn, xIs_in, xIs_sn, xIs_tn, xIs_ln, xLen, xListOfM, xMax, xMin, xNeg, xPop, xSum, xTupleOf, optW, view, W.isFn, List.forall_mem_cons, forall_nil, asB, onRL, isRL, pick, keyOf, val_cells, val_mixed, val_draws, put_draws, allD, finD, startA, List.map_cons, List.map_nil, List.length_cons, List.length_nil, List.replicate, List.cons_append, List.nil_append, List.append_nil, List.getElem?_cons_zero, List.getElem?_cons_succ, List.set_cons_zero, List.set_cons_succ, Option.join_some, Option.map_some, List.filterMap_cons, List.filterMap_nil, List.take, Nat.sub_self, Nat.add_one_sub_one, Nat.reduceSub, Nat.reduceAdd, List.replicate_zero, isT, atI_0, atI_1, size2, size1, size3, size0, true_and, and_true, Bool.true_eq_false, Bool.false_eq_true, if_true, if_false, ite_true, ite_false, reduceIte, eq_self, ex_app, ex_app2, ite_tt, ite_ft, List.cons.injEq, W.d.injEq, PyData.int.injEq, PyData.tuple.injEq, exists_eq_left', and_assoc, exists_and_left, eqOk_int, eqD_int, eqOk_fr, eqD_fr, eqOk_str, eqD_str, id, lo_ws1, lo_ws2, lo_ws3, Bool.not_true, Bool.not_false, Bool.and_true, Bool.and_false, Bool.true_and, Bool.false_and, Bool.or_true, Bool.or_false, Bool.true_or, Bool.false_or, aCallV, aCallL, capOf, onlyD, startL, aIZB, sqD, xIn, allS, xMulB, xStr, isStrW, xUpper, aLRg1, aRevT, rowD, rowsD, exists_eq_left, aIZG, seqG, SG, wipeA, lstOf, allBm, allIm, all_id, any_id, ones_ok, ones_eqD, aDic0, xReprA, xAdd_i, xAdd_s, xAdd_t, xAdd_l, xSl_t, xSl_l, xSl_s, xSl_scr, xListOf_t, xListOf_l, xIdx_t, xIdx_l, xIdx_s, xIdx_r, sp__law_draw, sp__law_pick, sp__law_rows_with_point, e6, cp]
    refine ⟨_, _, hd3, by omega, by decide, by decide, fun c0 o4 c0a c0b hd4 => ?_⟩
    obtain ⟨cc, rfl⟩ : ∃ k : Nat, c0 = k := ⟨c0.toNat, by omega⟩
    refine ⟨_, rfl, _, _, hd4, by omega, by decide, by decide, fun x o5 hx hd5 => ?_⟩
    obtain ⟨mo, rfl, s1, s2⟩ : ∃ j : Int, x = .int j ∧ 1 ≤ j ∧ j ≤ 1000000 := by
      simp only [List.mem_cons, List.not_mem_nil, or_false] at hx
      rcases hx with rfl | rfl <;> exact ⟨_, rfl, by decide, by decide⟩
    refine ⟨mm, rfl, cc, rfl, mo, rfl, _, _, hd5, by omega, by omega, by omega, by omega, s1, s2, fun R pt o6 hR hRl hpl hpp hf hd6 => ?_⟩
    refine sq ?_
    simp only [aAnd, aAndV, aAsg, aAsgT, aBk, aC, aCB, aCall, aCallK, aChain, aCons, aCt, aDget, aDispM, aDput, aDrop, aGN, aGcons, aGnil, aGtup, aIE, aIL, aIR1, aIR2, aIT, aIZ, aIf, aIfS, aIsi, aLst, aLstM, aMt, aMt0, aNever, aNil, aNoP, aNot, aNotV, aNx, aOp, aOr, aOrV, aPar, aPar3, aRet, aRetN, aRevD, aRevM, aSl, aSmP, aTst, aTup, aUn, aVar, aYes, xAbs, xApp, xBools, xEqB, xGcd, xI, xIc, xInt, xInts, xIs_nn, xIs_bb, xIs_bn, xIs_in, xIs_sn, xIs_tn, xIs_ln, xLen, xListOfM, xMax, xMin, xNeg, xPop, xSum, xTupleOf, optW, view, W.isFn, List.forall_mem_cons, forall_nil, asB, onRL, isRL, pick, keyOf, val_cells, val_mixed, val_draws, put_draws, allD, finD, startA, List.map_cons, List.map_nil, List.length_cons, List.length_nil, List.replicate, List.cons_append, List.nil_append, List.append_nil, List.getElem?_cons_zero, List.getElem?_cons_succ, List.set_cons_zero, List.set_cons_succ, Option.join_some, Option.map_some, List.filterMap_cons, List.filterMap_nil, List.take, Nat.sub_self, Nat.add_one_sub_one, Nat.reduceSub, Nat.reduceAdd, List.replicate_zero, isT, atI_0, atI_1, size2, size1, size3, size0, true_and, and_true, Bool.true_eq_false, Bool.false_eq_true, if_true, if_false, ite_true, ite_false, reduceIte, eq_self, ex_app, ex_app2, ite_tt, ite_ft, List.cons.injEq, W.d.injEq, PyData.int.injEq, PyData.tuple.injEq, exists_eq_left', and_assoc, exists_and_left, eqOk_int, eqD_int, eqOk_fr, eqD_fr, eqOk_str, eqD_str, id, lo_ws1, lo_ws2, lo_ws3, Bool.not_true, Bool.not_false, Bool.and_true, Bool.and_false, Bool.true_and, Bool.false_and, Bool.or_true, Bool.or_false, Bool.true_or, Bool.false_or, aCallV, aCallL, capOf, onlyD, startL, aIZB, sqD, xIn, allS, xMulB, xStr, isStrW, xUpper, aLRg1, aRevT, rowD, rowsD, exists_eq_left, aIZG, seqG, SG, wipeA, lstOf, allBm, allIm, all_id, any_id, ones_ok, ones_eqD, aDic0, xReprA, xAdd_i, xAdd_s, xAdd_t, xAdd_l, xSl_t, xSl_l, xSl_s, xSl_scr, xListOf_t, xListOf_l, xIdx_t, xIdx_l, xIdx_s, xIdx_r, aFor, sp__law_near_fraction, sp__law_any]
    refine ⟨F.bn, F.bd, _, _, hd6, by omega, fun x1 o7 zx1 hd7 => ?_⟩
    refine ⟨2, rfl, by decide, _, _, hd7, by omega, by decide, fun x2 o8 zx2 hd8 => ?_⟩
    have z1 : Sd 60 8000 (.tuple [.int fn, .int fd]) := (Sd.tuple (n := 0) (b := 0) (B := 2) (all_2 (Sd.int F.bn (by decide)) (Sd.int F.bd (by decide))) (by simp)).mono (by decide) (by decide)
    have zA : ∀ x ∈ [PyData.tuple [.int fn, .int fd], x1, x2], Sd 60 8000 x := all_3 z1 (zx1.mono (by decide) (by decide)) (zx2.mono (by decide) (by decide))
    refine ⟨fun _ env ih => ∃ a6 a7 a8 a9 a10 : Option W, env = [some (.scr ns), some (.ref 2), some (.d (.int (0 + (i : Nat)))), some (.d (.tuple [.int fn, .int fd])), some (.d (.int mm)), some (.d (rowsD R)), a6, a7, a8, a9, a10] ∧ ih = o8, ⟨_, _, _, _, _, rfl, rfl⟩, ?_, ?_⟩
    · rintro t1 x env ih hdd ⟨a6, a7, a8, a9, a10, rfl, rfl⟩
      have zx := zA x (List.mem_of_getElem? hdd)
      obtain ⟨r1, r2, r3⟩ := zx.rep (Nat.le_refl _) (Nat.le_refl _)
      have so := same2 (fFr x)
      refine sq ?_
      simp only [aAnd, aAndV, aAsg, aAsgT, aBk, aC, aCB, aCall, aCallK, aChain, aCons, aCt, aDget, aDispM, aDput, aDrop, aGN, aGcons, aGnil, aGtup, aIE, aIL, aIR1, aIR2, aIT, aIZ, aIf, aIfS, aIsi, aLst, aLstM, aMt, aMt0, aNever, aNil, aNoP, aNot, aNotV, aNx, aOp, aOr, aOrV, aPar, aPar3, aRet, aRetN, aRevD, aRevM, aSl, aSmP, aTst, aTup, aUn, aVar, aYes, xAbs, xApp, xBools, xEqB, xGcd, xI, xIc, xInt, xInts, xIs_nn, xIs_bb, xIs_bn, xIs_in, xIs_sn, xIs_tn, xIs_ln, xLen, xListOfM, xMax, xMin, xNeg, xPop, xSum, xTupleOf, optW, view, W.isFn, List.forall_mem_cons, forall_nil, asB, onRL, isRL, pick, keyOf, val_cells, val_mixed, val_draws, put_draws, allD, finD, startA, List.map_cons, List.map_nil, List.length_cons, List.length_nil, List.replicate, List.cons_append, List.nil_append, List.append_nil, List.getElem?_cons_zero, List.getElem?_cons_succ, List.set_cons_zero, List.set_cons_succ, Option.join_some, Option.map_some, List.filterMap_cons, List.filterMap_nil, List.take, Nat.sub_self, Nat.add_one_sub_one, Nat.reduceSub, Nat.reduceAdd, List.replicate_zero, isT, atI_0, atI_1, size2, size1, size3, size0, true_and, and_true, Bool.true_eq_false, Bool.false_eq_true, if_true, if_false, ite_true, ite_false, reduceIte, eq_self, ex_app, ex_app2, ite_tt, ite_ft, List.cons.injEq, W.d.injEq, PyData.int.injEq, PyData.tuple.injEq, exists_eq_left', and_assoc, exists_and_left, eqOk_int, eqD_int, eqOk_fr, eqD_fr, eqOk_str, eqD_str, id, lo_ws1, lo_ws2, lo_ws3, Bool.not_true, Bool.not_false, Bool.and_true, Bool.and_false, Bool.true_and, Bool.false_and, Bool.or_true, Bool.or_false, Bool.true_or, Bool.false_or, aCallV, aCallL, capOf, onlyD, startL, aIZB, sqD, xIn, allS, xMulB, xStr, isStrW, xUpper, aLRg1, aRevT, rowD, rowsD, exists_eq_left, aIZG, seqG, SG, wipeA, lstOf, allBm, allIm, all_id, any_id, ones_ok, ones_eqD, aDic0, xReprA, xAdd_i, xAdd_s, xAdd_t, xAdd_l, xSl_t, xSl_l, xSl_s, xSl_scr, xListOf_t, xListOf_l, xIdx_t, xIdx_l, xIdx_s, xIdx_r, sp__law_is_fraction, r1, r2, r3]
      simp only [aAnd, aAndV, aAsg, aAsgT, aBk, aC, aCB, aCall, aCallK, aChain, aCons, aCt, aDget, aDispM, aDput, aDrop, aGN, aGcons, aGnil, aGtup, aIE, aIL, aIR1, aIR2, aIT, aIZ, aIf, aIfS, aIsi, aLst, aLstM, aMt, aMt0, aNever, aNil, aNoP, aNot, aNotV, aNx, aOp, aOr, aOrV, aPar, aPar3, aRet, aRetN, aRevD, aRevM, aSl, aSmP, aTst, aTup, aUn, aVar, aYes, xAbs, xApp, xBools, xEqB, xGcd, xI, xIc, xInt, xInts, xIs_nn, xIs_bb, xIs_bn, xIs_in, xIs_sn, xIs_tn, xIs_ln, xLen, xListOfM, xMax, xMin, xNeg, xPop, xSum, xTupleOf, optW, view, W.isFn, List.forall_mem_cons, forall_nil, asB, onRL, isRL, pick, keyOf, val_cells, val_mixed, val_draws, put_draws, allD, finD, startA, List.map_cons, List.map_nil, List.length_cons, List.length_nil, List.replicate, List.cons_append, List.nil_append, List.append_nil, List.getElem?_cons_zero, List.getElem?_cons_succ, List.set_cons_zero, List.set_cons_succ, Option.join_some, Option.map_some, List.filterMap_cons, List.filterMap_nil, List.take, Nat.sub_self, Nat.add_one_sub_one, Nat.reduceSub, Nat.reduceAdd, List.replicate_zero, isT, atI_0, atI_1, size2, size1, size3, size0, true_and, and_true, Bool.true_eq_false, Bool.false_eq_true, if_true, if_false, ite_true, ite_false, reduceIte, eq_self, ex_app, ex_app2, ite_tt, ite_ft, List.cons.injEq, W.d.injEq, PyData.int.injEq, PyData.tuple.injEq, exists_eq_left', and_assoc, exists_and_left, eqOk_int, eqD_int, eqOk_fr, eqD_fr, eqOk_str, eqD_str, id, lo_ws1, lo_ws2, lo_ws3, Bool.not_true, Bool.not_false, Bool.and_true, Bool.and_false, Bool.true_and, Bool.false_and, Bool.or_true, Bool.or_false, Bool.true_or, Bool.false_or, aCallV, aCallL, capOf, onlyD, startL, aIZB, sqD, xIn, allS, xMulB, xStr, isStrW, xUpper, aLRg1, aRevT, rowD, rowsD, exists_eq_left, aIZG, seqG, SG, wipeA, lstOf, allBm, allIm, all_id, any_id, ones_ok, ones_eqD, aDic0, xReprA, xAdd_i, xAdd_s, xAdd_t, xAdd_l, xSl_t, xSl_l, xSl_s, xSl_scr, xListOf_t, xListOf_l, xIdx_t, xIdx_l, xIdx_s, xIdx_r, sp_is_fraction, sp__law_same, so, r1, r2, r3, xEqB, decide_true]
    · rintro env ih ⟨a6, a7, a8, a9, a10, rfl, rfl⟩
      simp only [aAnd, aAndV, aAsg, aAsgT, aBk, aC, aCB, aCall, aCallK, aChain, aCons, aCt, aDget, aDispM, aDput, aDrop, aGN, aGcons, aGnil, aGtup, aIE, aIL, aIR1, aIR2, aIT, aIZ, aIf, aIfS, aIsi, aLst, aLstM, aMt, aMt0, aNever, aNil, aNoP, aNot, aNotV, aNx, aOp, aOr, aOrV, aPar, aPar3, aRet, aRetN, aRevD, aRevM, aSl, aSmP, aTst, aTup, aUn, aVar, aYes, xAbs, xApp, xBools, xEqB, xGcd, xI, xIc, xInt, xInts, xIs_nn, xIs_bb, xIs_bn, xIs_in, xIs_sn, xIs_tn, xIs_ln, xLen, xListOfM, xMax, xMin, xNeg, xPop, xSum, xTupleOf, optW, view, W.isFn, List.forall_mem_cons, forall_nil, asB, onRL, isRL, pick, keyOf, val_cells, val_mixed, val_draws, put_draws, allD, finD, startA, List.map_cons, List.map_nil, List.length_cons, List.length_nil, List.replicate, List.cons_append, List.nil_append, List.append_nil, List.getElem?_cons_zero, List.getElem?_cons_succ, List.set_cons_zero, List.set_cons_succ, Option.join_some, Option.map_some, List.filterMap_cons, List.filterMap_nil, List.take, Nat.sub_self, Nat.add_one_sub_one, Nat.reduceSub, Nat.reduceAdd, List.replicate_zero, isT, atI_0, atI_1, size2, size1, size3, size0, true_and, and_true, Bool.true_eq_false, Bool.false_eq_true, if_true, if_false, ite_true, ite_false, reduceIte, eq_self, ex_app, ex_app2, ite_tt, ite_ft, List.cons.injEq, W.d.injEq, PyData.int.injEq, PyData.tuple.injEq, exists_eq_left', and_assoc, exists_and_left, eqOk_int, eqD_int, eqOk_fr, eqD_fr, eqOk_str, eqD_str, id, lo_ws1, lo_ws2, lo_ws3, Bool.not_true, Bool.not_false, Bool.and_true, Bool.and_false, Bool.true_and, Bool.false_and, Bool.or_true, Bool.or_false, Bool.true_or, Bool.false_or, aCallV, aCallL, capOf, onlyD, startL, aIZB, sqD, xIn, allS, xMulB, xStr, isStrW, xUpper, aLRg1, aRevT, rowD, rowsD, exists_eq_left, aIZG, seqG, SG, wipeA, lstOf, allBm, allIm, all_id, any_id, ones_ok, ones_eqD, aDic0, xReprA, xAdd_i, xAdd_s, xAdd_t, xAdd_l, xSl_t, xSl_l, xSl_s, xSl_scr, xListOf_t, xListOf_l, xIdx_t, xIdx_l, xIdx_s, xIdx_r, sp__law_bent_rows, sp__law_any, aFor]
      refine ⟨mm, R, rfl, hR, _, _, hd8, by omega, fun y1 p1 zy1 hp1 => ?_⟩
      refine ⟨mm, R, rfl, hR, _, _, hp1, by omega, fun y2 p2 zy2 hp2 => ?_⟩
      refine ⟨3, rfl, by decide, _, _, hp2, by omega, by decide, fun y3 p3 zy3 hp3 => ?_⟩
      have zB : ∀ x ∈ [PyData.tuple (R.map rowD), y1, y2, y3], Sd 60 8000 x := fun x hx => (List.mem_cons.mp hx).elim (fun e => by rw [e]; exact (rowD_sd hR).mono (by decide) (by decide)) (all_3 (zy1.mono (by decide) (by decide)) (zy2.mono (by decide) (by decide)) (zy3.mono (by decide) (by decide)) x)
      have m1 := hR.m1
      refine ⟨by decide, fun t env ih2 => ∃ a6 a7 a8 a9 a10 : Option W, env = [some (.scr ns), some (.ref 2), some (.d (.int (0 + (i : Nat)))), some (.d (.tuple [.int fn, .int fd])), some (.d (.int mm)), some (.d (rowsD R)), a6, a7, a8, a9, a10] ∧ Dk ([.tab "are_rows.<locals>.<lambda>"] : IH) (12000 * i + 11900 + t) [] ih2, ⟨_, _, _, _, _, rfl, hp3.mono (by omega)⟩, ?_, ?_⟩
      · rintro t2 x env ih2 hdd ⟨a6, a7, a8, a9, a10, rfl, hd9⟩
        have ht : t2 < 4 := (List.getElem?_eq_some_iff.mp hdd).1
        have zx := zB x (List.mem_of_getElem? hdd)
        obtain ⟨r1, r2, r3⟩ := zx.rep (Nat.le_refl _) (Nat.le_refl _)
        simp only [aAnd, aAndV, aAsg, aAsgT, aBk, aC, aCB, aCall, aCallK, aChain, aCons, aCt, aDget, aDispM, aDput, aDrop, aGN, aGcons, aGnil, aGtup, aIE, aIL, aIR1, aIR2, aIT, aIZ, aIf, aIfS, aIsi, aLst, aLstM, aMt, aMt0, aNever, aNil, aNoP, aNot, aNotV, aNx, aOp, aOr, aOrV, aPar, aPar3, aRet, aRetN, aRevD, aRevM, aSl, aSmP, aTst, aTup, aUn, aVar, aYes, xAbs, xApp, xBools, xEqB, xGcd, xI, xIc, xInt, xInts, xIs_nn, xIs_bb, xIs_bn, xIs_in, xIs_sn, xIs_tn, xIs_ln, xLen, xListOfM, xMax, xMin, xNeg, xPop, xSum, xTupleOf, optW, view, W.isFn, List.forall_mem_cons, forall_nil, asB, onRL, isRL, pick, keyOf, val_cells, val_mixed, val_draws, put_draws, allD, finD, startA, List.map_cons, List.map_nil, List.length_cons, List.length_nil, List.replicate, List.cons_append, List.nil_append, List.append_nil, List.getElem?_cons_zero, List.getElem?_cons_succ, List.set_cons_zero, List.set_cons_succ, Option.join_some, Option.map_some, List.filterMap_cons, List.filterMap_nil, List.take, Nat.sub_self, Nat.add_one_sub_one, Nat.reduceSub, Nat.reduceAdd, List.replicate_zero, isT, atI_0, atI_1, size2, size1, size3, size0, true_and, and_true, Bool.true_eq_false, Bool.false_eq_true, if_true, if_false, ite_true, ite_false, reduceIte, eq_self, ex_app, ex_app2, ite_tt, ite_ft, List.cons.injEq, W.d.injEq, PyData.int.injEq, PyData.tuple.injEq, exists_eq_left', and_assoc, exists_and_left, eqOk_int, eqD_int, eqOk_fr, eqD_fr, eqOk_str, eqD_str, id, lo_ws1, lo_ws2, lo_ws3, Bool.not_true, Bool.not_false, Bool.and_true, Bool.and_false, Bool.true_and, Bool.false_and, Bool.or_true, Bool.or_false, Bool.true_or, Bool.false_or, aCallV, aCallL, capOf, onlyD, startL, aIZB, sqD, xIn, allS, xMulB, xStr, isStrW, xUpper, aLRg1, aRevT, rowD, rowsD, exists_eq_left, aIZG, seqG, SG, wipeA, lstOf, allBm, allIm, all_id, any_id, ones_ok, ones_eqD, aDic0, xReprA, xAdd_i, xAdd_s, xAdd_t, xAdd_l, xSl_t, xSl_l, xSl_s, xSl_scr, xListOf_t, xListOf_l, xIdx_t, xIdx_l, xIdx_s, xIdx_r, sp__law_pick]
        refine ⟨_, rfl, _, _, hd9, by omega, Nat.zero_lt_succ _, by simp, fun z o10 hz hd10 => ?_⟩
        obtain ⟨sz, rfl, sz1⟩ : ∃ k : Nat, z = .int k ∧ 1 ≤ k := by
          simp only [List.mem_cons, List.not_mem_nil, or_false] at hz
          rcases hz with rfl | rfl | rfl
          · exact ⟨1, rfl, by decide⟩
          · exact ⟨2, rfl, by decide⟩
          · exact ⟨mm + 1, rfl, by omega⟩
        refine ⟨fun _ env ih3 => ∃ a7 a8 a9 a10 : Option W, env = [some (.scr ns), some (.ref 2), some (.d (.int (0 + (i : Nat)))), some (.d (.tuple [.int fn, .int fd])), some (.d (.int mm)), some (.d (rowsD R)), some (.d x), a7, a8, a9, a10] ∧ ih3 = o10, ⟨_, _, _, _, rfl, rfl⟩, ?_, ?_⟩
        · rintro t3 y env ih3 hdd3 ⟨a7, a8, a9, a10, rfl, rfl⟩
          obtain ⟨ss, rfl, ss1⟩ : ∃ k : Nat, y = .int k ∧ 1 ≤ k := by
            have := List.mem_of_getElem? hdd3
            simp only [List.mem_cons, List.not_mem_nil, or_false] at this
            rcases this with rfl | rfl
            · exact ⟨mm, rfl, m1⟩
            · exact ⟨sz, rfl, sz1⟩
          have tb := hd10.tab
          have so := same2 (fRows ss x)
          refine sq ?_
          simp only [aAnd, aAndV, aAsg, aAsgT, aBk, aC, aCB, aCall, aCallK, aChain, aCons, aCt, aDget, aDispM, aDput, aDrop, aGN, aGcons, aGnil, aGtup, aIE, aIL, aIR1, aIR2, aIT, aIZ, aIf, aIfS, aIsi, aLst, aLstM, aMt, aMt0, aNever, aNil, aNoP, aNot, aNotV, aNx, aOp, aOr, aOrV, aPar, aPar3, aRet, aRetN, aRevD, aRevM, aSl, aSmP, aTst, aTup, aUn, aVar, aYes, xAbs, xApp, xBools, xEqB, xGcd, xI, xIc, xInt, xInts, xIs_nn, xIs_bb, xIs_bn, xIs_in, xIs_sn, xIs_tn, xIs_ln, xLen, xListOfM, xMax, xMin, xNeg, xPop, xSum, xTupleOf, optW, view, W.isFn, List.forall_mem_cons, forall_nil, asB, onRL, isRL, pick, keyOf, val_cells, val_mixed, val_draws, put_draws, allD, finD, startA, List.map_cons, List.map_nil, List.length_cons, List.length_nil, List.replicate, List.cons_append, List.nil_append, List.append_nil, List.getElem?_cons_zero, List.getElem?_cons_succ, List.set_cons_zero, List.set_cons_succ, Option.join_some, Option.map_some, List.filterMap_cons, List.filterMap_nil, List.take, Nat.sub_self, Nat.add_one_sub_one, Nat.reduceSub, Nat.reduceAdd, List.replicate_zero, isT, atI_0, atI_1, size2, size1, size3, size0, true_and, and_true, Bool.true_eq_false, Bool.false_eq_true, if_true, if_false, ite_true, ite_false, reduceIte, eq_self, ex_app, ex_app2, ite_tt, ite_ft, List.cons.injEq, W.d.injEq, PyData.int.injEq, PyData.tuple.injEq, exists_eq_left', and_assoc, exists_and_left, eqOk_int, eqD_int, eqOk_fr, eqD_fr, eqOk_str, eqD_str, id, lo_ws1, lo_ws2, lo_ws3, Bool.not_true, Bool.not_false, Bool.and_true, Bool.and_false, Bool.true_and, Bool.false_and, Bool.or_true, Bool.or_false, Bool.true_or, Bool.false_or, aCallV, aCallL, capOf, onlyD, startL, aIZB, sqD, xIn, allS, xMulB, xStr, isStrW, xUpper, aLRg1, aRevT, rowD, rowsD, exists_eq_left, aIZG, seqG, SG, wipeA, lstOf, allBm, allIm, all_id, any_id, ones_ok, ones_eqD, aDic0, xReprA, xAdd_i, xAdd_s, xAdd_t, xAdd_l, xSl_t, xSl_l, xSl_s, xSl_scr, xListOf_t, xListOf_l, xIdx_t, xIdx_l, xIdx_s, xIdx_r, sp__law_are_rows, r1, r2, r3]
          refine ⟨ss, rfl, zx, ?_⟩
          simp only [aAnd, aAndV, aAsg, aAsgT, aBk, aC, aCB, aCall, aCallK, aChain, aCons, aCt, aDget, aDispM, aDput, aDrop, aGN, aGcons, aGnil, aGtup, aIE, aIL, aIR1, aIR2, aIT, aIZ, aIf, aIfS, aIsi, aLst, aLstM, aMt, aMt0, aNever, aNil, aNoP, aNot, aNotV, aNx, aOp, aOr, aOrV, aPar, aPar3, aRet, aRetN, aRevD, aRevM, aSl, aSmP, aTst, aTup, aUn, aVar, aYes, xAbs, xApp, xBools, xEqB, xGcd, xI, xIc, xInt, xInts, xIs_nn, xIs_bb, xIs_bn, xIs_in, xIs_sn, xIs_tn, xIs_ln, xLen, xListOfM, xMax, xMin, xNeg, xPop, xSum, xTupleOf, optW, view, W.isFn, List.forall_mem_cons, forall_nil, asB, onRL, isRL, pick, keyOf, val_cells, val_mixed, val_draws, put_draws, allD, finD, startA, List.map_cons, List.map_nil, List.length_cons, List.length_nil, List.replicate, List.cons_append, List.nil_append, List.append_nil, List.getElem?_cons_zero, List.getElem?_cons_succ, List.set_cons_zero, List.set_cons_succ, Option.join_some, Option.map_some, List.filterMap_cons, List.filterMap_nil, List.take, Nat.sub_self, Nat.add_one_sub_one, Nat.reduceSub, Nat.reduceAdd, List.replicate_zero, isT, atI_0, atI_1, size2, size1, size3, size0, true_and, and_true, Bool.true_eq_false, Bool.false_eq_true, if_true, if_false, ite_true, ite_false, reduceIte, eq_self, ex_app, ex_app2, ite_tt, ite_ft, List.cons.injEq, W.d.injEq, PyData.int.injEq, PyData.tuple.injEq, exists_eq_left', and_assoc, exists_and_left, eqOk_int, eqD_int, eqOk_fr, eqD_fr, eqOk_str, eqD_str, id, lo_ws1, lo_ws2, lo_ws3, Bool.not_true, Bool.not_false, Bool.and_true, Bool.and_false, Bool.true_and, Bool.false_and, Bool.or_true, Bool.or_false, Bool.true_or, Bool.false_or, aCallV, aCallL, capOf, onlyD, startL, aIZB, sqD, xIn, allS, xMulB, xStr, isStrW, xUpper, aLRg1, aRevT, rowD, rowsD, exists_eq_left, aIZG, seqG, SG, wipeA, lstOf, allBm, allIm, all_id, any_id, ones_ok, ones_eqD, aDic0, xReprA, xAdd_i, xAdd_s, xAdd_t, xAdd_l, xSl_t, xSl_l, xSl_s, xSl_scr, xListOf_t, xListOf_l, xIdx_t, xIdx_l, xIdx_s, xIdx_r, sp_is_rows, sp__law_same, so, decide_true]
          refine ⟨ss, rfl, ss1, zx, tb, ss, rfl, ss1, zx, tb, ?_⟩
          simp only [aAnd, aAndV, aAsg, aAsgT, aBk, aC, aCB, aCall, aCallK, aChain, aCons, aCt, aDget, aDispM, aDput, aDrop, aGN, aGcons, aGnil, aGtup, aIE, aIL, aIR1, aIR2, aIT, aIZ, aIf, aIfS, aIsi, aLst, aLstM, aMt, aMt0, aNever, aNil, aNoP, aNot, aNotV, aNx, aOp, aOr, aOrV, aPar, aPar3, aRet, aRetN, aRevD, aRevM, aSl, aSmP, aTst, aTup, aUn, aVar, aYes, xAbs, xApp, xBools, xEqB, xGcd, xI, xIc, xInt, xInts, xIs_nn, xIs_bb, xIs_bn, xIs_in, xIs_sn, xIs_tn, xIs_ln, xLen, xListOfM, xMax, xMin, xNeg, xPop, xSum, xTupleOf, optW, view, W.isFn, List.forall_mem_cons, forall_nil, asB, onRL, isRL, pick, keyOf, val_cells, val_mixed, val_draws, put_draws, allD, finD, startA, List.map_cons, List.map_nil, List.length_cons, List.length_nil, List.replicate, List.cons_append, List.nil_append, List.append_nil, List.getElem?_cons_zero, List.getElem?_cons_succ, List.set_cons_zero, List.set_cons_succ, Option.join_some, Option.map_some, List.filterMap_cons, List.filterMap_nil, List.take, Nat.sub_self, Nat.add_one_sub_one, Nat.reduceSub, Nat.reduceAdd, List.replicate_zero, isT, atI_0, atI_1, size2, size1, size3, size0, true_and, and_true, Bool.true_eq_false, Bool.false_eq_true, if_true, if_false, ite_true, ite_false, reduceIte, eq_self, ex_app, ex_app2, ite_tt, ite_ft, List.cons.injEq, W.d.injEq, PyData.int.injEq, PyData.tuple.injEq, exists_eq_left', and_assoc, exists_and_left, eqOk_int, eqD_int, eqOk_fr, eqD_fr, eqOk_str, eqD_str, id, lo_ws1, lo_ws2, lo_ws3, Bool.not_true, Bool.not_false, Bool.and_true, Bool.and_false, Bool.true_and, Bool.false_and, Bool.or_true, Bool.or_false, Bool.true_or, Bool.false_or, aCallV, aCallL, capOf, onlyD, startL, aIZB, sqD, xIn, allS, xMulB, xStr, isStrW, xUpper, aLRg1, aRevT, rowD, rowsD, exists_eq_left, aIZG, seqG, SG, wipeA, lstOf, allBm, allIm, all_id, any_id, ones_ok, ones_eqD, aDic0, xReprA, xAdd_i, xAdd_s, xAdd_t, xAdd_l, xSl_t, xSl_l, xSl_s, xSl_scr, xListOf_t, xListOf_l, xIdx_t, xIdx_l, xIdx_s, xIdx_r, sp__law_same, so, decide_true]
        · rintro env ih3 ⟨a7, a8, a9, a10, rfl, rfl⟩
          exact ⟨_, _, _, _, _, rfl, hd10.mono (by omega)⟩
      · rintro env ih2 ⟨a6, a7, a8, a9, a10, rfl, hd9⟩
        exact ⟨_, _, _, _, _, _, _, _, _, rfl, hd9.mono (by show 12000 * i + 11900 + 4 ≤ _; omega)⟩
  · rintro env ih ⟨a, b, c, d, e, f, g, h, j, rfl, hd⟩
    have tb := hd.tab
    refine sq ?_
    simp only [aAnd, aAndV, aAsg, aAsgT, aBk, aC, aCB, aCall, aCallK, aChain, aCons, aCt, aDget, aDispM, aDput, aDrop, aGN, aGcons, aGnil, aGtup, aIE, aIL, aIR1, aIR2, aIT, aIZ, aIf, aIfS, aIsi, aLst, aLstM, aMt, aMt0, aNever, aNil, aNoP, aNot, aNotV, aNx, aOp, aOr, aOrV, aPar, aPar3, aRet, aRetN, aRevD, aRevM, aSl, aSmP, aTst, aTup, aUn, aVar, aYes, xAbs, xApp, xBools, xEqB, xGcd, xI, xIc, xInt, xInts, xIs_nn, xIs_bb, xIs_bn, xIs_in, xIs_sn, xIs_tn, xIs_ln, xLen, xListOfM, xMax, xMin, xNeg, xPop, xSum, xTupleOf, optW, view, W.isFn, List.forall_mem_cons, forall_nil, asB, onRL, isRL, pick, keyOf, val_cells, val_mixed, val_draws, put_draws, allD, finD, startA, List.map_cons, List.map_nil, List.length_cons, List.length_nil, List.replicate, List.cons_append, List.nil_append, List.append_nil, List.getElem?_cons_zero, List.getElem?_cons_succ, List.set_cons_zero, List.set_cons_succ, Option.join_some, Option.map_some, List.filterMap_cons, List.filterMap_nil, List.take, Nat.sub_self, Nat.add_one_sub_one, Nat.reduceSub, Nat.reduceAdd, List.replicate_zero, isT, atI_0, atI_1, size2, size1, size3, size0, true_and, and_true, Bool.true_eq_false, Bool.false_eq_true, if_true, if_false, ite_true, ite_false, reduceIte, eq_self, ex_app, ex_app2, ite_tt, ite_ft, List.cons.injEq, W.d.injEq, PyData.int.injEq, PyData.tuple.injEq, exists_eq_left', and_assoc, exists_and_left, eqOk_int, eqD_int, eqOk_fr, eqD_fr, eqOk_str, eqD_str, id, lo_ws1, lo_ws2, lo_ws3, Bool.not_true, Bool.not_false, Bool.and_true, Bool.and_false, Bool.true_and, Bool.false_and, Bool.or_true, Bool.or_false, Bool.true_or, Bool.false_or, aCallV, aCallL, capOf, onlyD, startL, aIZB, sqD, xIn, allS, xMulB, xStr, isStrW, xUpper, aLRg1, aRevT, rowD, rowsD, exists_eq_left, aIZG, seqG, SG, wipeA, lstOf, allBm, allIm, all_id, any_id, ones_ok, ones_eqD, aDic0, xReprA, xAdd_i, xAdd_s, xAdd_t, xAdd_l, xSl_t, xSl_l, xSl_s, xSl_scr, xListOf_t, xListOf_l, xIdx_t, xIdx_l, xIdx_s, xIdx_r]
    refine ⟨by decide, ?_⟩
    have i1 : ∀ {n : Nat}, Sd n 0 (.int 1) := fun {n} => Sd.int (by decide : Bd 2 1) (by decide)
    have zS : ∀ x ∈ [PyData.tuple [.tuple [.tuple [.int 1], .bool true]], .tuple [.tuple [.tuple [.int 1], .int 1]], .tuple [.tuple [.tuple [.bool true], .bool true]], .list [.tuple [.tuple [.int 1], .bool true]], .tuple []], Sd 60 8000 x := fun x hx => by
      have t1 : ∀ {y : D}, Sd 0 0 y → Sd 1 1 (.tuple [y]) := fun {y} h => Sd.tuple (n := 0) (b := 0) (all_1 h) (by simp)
      have t2 : ∀ {y z : D}, Sd 1 1 y → Sd 1 1 z → Sd 2 4 (.tuple [y, z]) := fun {y z} h g => Sd.tuple (n := 1) (b := 1) (all_2 h g) (by simp)
      have t3 : ∀ {y : D}, Sd 2 4 y → Sd 60 8000 (.tuple [y]) := fun {y} h => (Sd.tuple (n := 2) (b := 4) (B := 5) (all_1 h) (by simp)).mono (by decide) (by decide)
      simp only [List.mem_cons, List.not_mem_nil, or_false] at hx
      rcases hx with rfl | rfl | rfl | rfl | rfl
      · exact t3 (t2 (t1 i1) Sd.bool)
      · exact t3 (t2 (t1 i1) (Sd.int (by decide : Bd 2 1) (by decide)))
      · exact t3 (t2 (t1 Sd.bool) Sd.bool)
      · exact (Sd.list (n := 2) (b := 4) (B := 5) (all_1 (t2 (t1 i1) Sd.bool)) (by simp)).mono (by decide) (by decide)
      · exact (Sd.tuple (n := 0) (b := 0) (B := 0) (fun x hx => absurd hx (by simp)) (Nat.le_refl _)).mono (by decide) (by decide)
    refine lc_mapL [PyData.tuple [.tuple [.tuple [.int 1], .bool true]], .tuple [.tuple [.tuple [.int 1], .int 1]], .tuple [.tuple [.tuple [.bool true], .bool true]], .list [.tuple [.tuple [.int 1], .bool true]], .tuple []] id (fun x => .bool (fRows 1 x)) (fun Z hZ => by rw [List.map_id] at hZ; exact hZ) (by decide) (fun x hx K1 hK => ?_) ?_
    · simp only [aAnd, aAndV, aAsg, aAsgT, aBk, aC, aCB, aCall, aCallK, aChain, aCons, aCt, aDget, aDispM, aDput, aDrop, aGN, aGcons, aGnil, aGtup, aIE, aIL, aIR1, aIR2, aIT, aIZ, aIf, aIfS, aIsi, aLst, aLstM, aMt, aMt0, aNever, aNil, aNoP, aNot, aNotV, aNx, aOp, aOr, aOrV, aPar, aPar3, aRet, aRetN, aRevD, aRevM, aSl, aSmP, aTst, aTup, aUn, aVar, aYes, xAbs, xApp, xBools, xEqB, xGcd, xI, xIc, xInt, xInts, xIs_nn, xIs_bb, xIs_bn, xIs_in, xIs_sn, xIs_tn, xIs_ln, xLen, xListOfM, xMax, xMin, xNeg, xPop, xSum, xTupleOf, optW, view, W.isFn, List.forall_mem_cons, forall_nil, asB, onRL, isRL, pick, keyOf, val_cells, val_mixed, val_draws, put_draws, allD, finD, startA, List.map_cons, List.map_nil, List.length_cons, List.length_nil, List.replicate, List.cons_append, List.nil_append, List.append_nil, List.getElem?_cons_zero, List.getElem?_cons_succ, List.set_cons_zero, List.set_cons_succ, Option.join_some, Option.map_some, List.filterMap_cons, List.filterMap_nil, List.take, Nat.sub_self, Nat.add_one_sub_one, Nat.reduceSub, Nat.reduceAdd, List.replicate_zero, isT, atI_0, atI_1, size2, size1, size3, size0, true_and, and_true, Bool.true_eq_false, Bool.false_eq_true, if_true, if_false, ite_true, ite_false, reduceIte, eq_self, ex_app, ex_app2, ite_tt, ite_ft, List.cons.injEq, W.d.injEq, PyData.int.injEq, PyData.tuple.injEq, exists_eq_left', and_assoc, exists_and_left, eqOk_int, eqD_int, eqOk_fr, eqD_fr, eqOk_str, eqD_str, id, lo_ws1, lo_ws2, lo_ws3, Bool.not_true, Bool.not_false, Bool.and_true, Bool.and_false, Bool.true_and, Bool.false_and, Bool.or_true, Bool.or_false, Bool.true_or, Bool.false_or, aCallV, aCallL, capOf, onlyD, startL, aIZB, sqD, xIn, allS, xMulB, xStr, isStrW, xUpper, aLRg1, aRevT, rowD, rowsD, exists_eq_left, aIZG, seqG, SG, wipeA, lstOf, allBm, allIm, all_id, any_id, ones_ok, ones_eqD, aDic0, xReprA, xAdd_i, xAdd_s, xAdd_t, xAdd_l, xSl_t, xSl_l, xSl_s, xSl_scr, xListOf_t, xListOf_l, xIdx_t, xIdx_l, xIdx_s, xIdx_r, sp_is_rows]
      exact ⟨1, rfl, by decide, zS x hx, tb, hK⟩
    · have e1 : fRows 1 (.tuple [.tuple [.tuple [.int 1], .bool true]]) = true := by decide +kernel
      have e2 : fRows 1 (.tuple [.tuple [.tuple [.int 1], .int 1]]) = false := by decide +kernel
      have e3 : fRows 1 (.tuple [.tuple [.tuple [.bool true], .bool true]]) = false := by decide +kernel
      have e4 : fRows 1 (.list [.tuple [.tuple [.int 1], .bool true]]) = false := by decide +kernel
      have e5 : fRows 1 (.tuple []) = true := by decide +kernel
      simp only [aAnd, aAndV, aAsg, aAsgT, aBk, aC, aCB, aCall, aCallK, aChain, aCons, aCt, aDget, aDispM, aDput, aDrop, aGN, aGcons, aGnil, aGtup, aIE, aIL, aIR1, aIR2, aIT, aIZ, aIf, aIfS, aIsi, aLst, aLstM, aMt, aMt0, aNever, aNil, aNoP, aNot, aNotV, aNx, aOp, aOr, aOrV, aPar, aPar3, aRet, aRetN, aRevD, aRevM, aSl, aSmP, aTst, aTup, aUn, aVar, aYes, xAbs, xApp, xBools, xEqB, xGcd, xI, xIc, xInt, xInts, xIs_nn, xIs_bb, xIs_bn, xIs_in, xIs_sn, xIs_tn, xIs_ln, xLen, xListOfM, xMax, xMin, xNeg, xPop, xSum, xTupleOf, optW, view, W.isFn, List.forall_mem_cons, forall_nil, asB, onRL, isRL, pick, keyOf, val_cells, val_mixed, val_draws, put_draws, allD, finD, startA, List.map_cons, List.map_nil, List.length_cons, List.length_nil, List.replicate, List.cons_append, List.nil_append, List.append_nil, List.getElem?_cons_zero, List.getElem?_cons_succ, List.set_cons_zero, List.set_cons_succ, Option.join_some, Option.map_some, List.filterMap_cons, List.filterMap_nil, List.take, Nat.sub_self, Nat.add_one_sub_one, Nat.reduceSub, Nat.reduceAdd, List.replicate_zero, isT, atI_0, atI_1, size2, size1, size3, size0, true_and, and_true, Bool.true_eq_false, Bool.false_eq_true, if_true, if_false, ite_true, ite_false, reduceIte, eq_self, ex_app, ex_app2, ite_tt, ite_ft, List.cons.injEq, W.d.injEq, PyData.int.injEq, PyData.tuple.injEq, exists_eq_left', and_assoc, exists_and_left, eqOk_int, eqD_int, eqOk_fr, eqD_fr, eqOk_str, eqD_str, id, lo_ws1, lo_ws2, lo_ws3, Bool.not_true, Bool.not_false, Bool.and_true, Bool.and_false, Bool.true_and, Bool.false_and, Bool.or_true, Bool.or_false, Bool.true_or, Bool.false_or, aCallV, aCallL, capOf, onlyD, startL, aIZB, sqD, xIn, allS, xMulB, xStr, isStrW, xUpper, aLRg1, aRevT, rowD, rowsD, exists_eq_left, aIZG, seqG, SG, wipeA, lstOf, allBm, allIm, all_id, any_id, ones_ok, ones_eqD, aDic0, xReprA, xAdd_i, xAdd_s, xAdd_t, xAdd_l, xSl_t, xSl_l, xSl_s, xSl_scr, xListOf_t, xListOf_l, xIdx_t, xIdx_l, xIdx_s, xIdx_r, e1, e2, e3, e4, e5, sp__law_same]
      exact ⟨by decide, by decide, hd.ext, q _⟩

end
theorem mkTx {K : PySem.W.Frag} {h : Heap} {mg : Str → Option Value} (X : K.In h) (G : h.Ns mainGlobals mg)
    {f0 : Addr} {oc0 kV0 dc0 pm0 cd0 ct0 : Value} {od0 an0 : Option Addr} {sl0 : Array (Option Value)}
    {f1 : Addr} {oc1 kV1 dc1 pm1 cd1 ct1 : Value} {od1 an1 : Option Addr} {sl1 : Array (Option Value)}
    {f2 : Addr} {oc2 kV2 dc2 pm2 cd2 ct2 : Value} {od2 an2 : Option Addr} {sl2 : Array (Option Value)}
    {f3 : Addr} {oc3 kV3 dc3 pm3 cd3 ct3 : Value} {od3 an3 : Option Addr} {sl3 : Array (Option Value)}
    {f4 : Addr} {oc4 kV4 dc4 pm4 cd4 ct4 : Value} {od4 an4 : Option Addr} {sl4 : Array (Option Value)}
    {f5 : Addr} {oc5 kV5 dc5 pm5 cd5 ct5 : Value} {od5 an5 : Option Addr} {sl5 : Array (Option Value)}
    {f6 : Addr} {oc6 kV6 dc6 pm6 cd6 ct6 : Value} {od6 an6 : Option Addr} {sl6 : Array (Option Value)}
    {f7 : Addr} {oc7 kV7 dc7 pm7 cd7 ct7 : Value} {od7 an7 : Option Addr} {sl7 : Array (Option Value)}
    {f8 : Addr} {oc8 kV8 dc8 pm8 cd8 ct8 : Value} {od8 an8 : Option Addr} {sl8 : Array (Option Value)}
    {f9 : Addr} {oc9 kV9 dc9 pm9 cd9 ct9 : Value} {od9 an9 : Option Addr} {sl9 : Array (Option Value)}
    {f10 : Addr} {oc10 kV10 dc10 pm10 cd10 ct10 : Value} {od10 an10 : Option Addr} {sl10 : Array (Option Value)}
    {f11 : Addr} {oc11 kV11 dc11 pm11 cd11 ct11 : Value} {od11 an11 : Option Addr} {sl11 : Array (Option Value)}
    {f12 : Addr} {oc12 kV12 dc12 pm12 cd12 ct12 : Value} {od12 an12 : Option Addr} {sl12 : Array (Option Value)}
    {f13 : Addr} {oc13 kV13 dc13 pm13 cd13 ct13 : Value} {od13 an13 : Option Addr} {sl13 : Array (Option Value)}
    {f14 : Addr} {oc14 kV14 dc14 pm14 cd14 ct14 : Value} {od14 an14 : Option Addr} {sl14 : Array (Option Value)}
    {f15 : Addr} {oc15 kV15 dc15 pm15 cd15 ct15 : Value} {od15 an15 : Option Addr} {sl15 : Array (Option Value)}
    {f16 : Addr} {oc16 kV16 dc16 pm16 cd16 ct16 : Value} {od16 an16 : Option Addr} {sl16 : Array (Option Value)}
    {f17 : Addr} {oc17 kV17 dc17 pm17 cd17 ct17 : Value} {od17 an17 : Option Addr} {sl17 : Array (Option Value)}
    {f18 : Addr} {oc18 kV18 dc18 pm18 cd18 ct18 : Value} {od18 an18 : Option Addr} {sl18 : Array (Option Value)}
    {f19 : Addr} {oc19 kV19 dc19 pm19 cd19 ct19 : Value} {od19 an19 : Option Addr} {sl19 : Array (Option Value)}
    {f20 : Addr} {oc20 kV20 dc20 pm20 cd20 ct20 : Value} {od20 an20 : Option Addr} {sl20 : Array (Option Value)}
    {f21 : Addr} {oc21 kV21 dc21 pm21 cd21 ct21 : Value} {od21 an21 : Option Addr} {sl21 : Array (Option Value)}
    {f22 : Addr} {oc22 kV22 dc22 pm22 cd22 ct22 : Value} {od22 an22 : Option Addr} {sl22 : Array (Option Value)}
    {f23 : Addr} {oc23 kV23 dc23 pm23 cd23 ct23 : Value} {od23 an23 : Option Addr} {sl23 : Array (Option Value)}
    {f24 : Addr} {oc24 kV24 dc24 pm24 cd24 ct24 : Value} {od24 an24 : Option Addr} {sl24 : Array (Option Value)}
    {f25 : Addr} {oc25 kV25 dc25 pm25 cd25 ct25 : Value} {od25 an25 : Option Addr} {sl25 : Array (Option Value)}
    {f26 : Addr} {oc26 kV26 dc26 pm26 cd26 ct26 : Value} {od26 an26 : Option Addr} {sl26 : Array (Option Value)}
    {f27 : Addr} {oc27 kV27 dc27 pm27 cd27 ct27 : Value} {od27 an27 : Option Addr} {sl27 : Array (Option Value)}
    {f28 : Addr} {oc28 kV28 dc28 pm28 cd28 ct28 : Value} {od28 an28 : Option Addr} {sl28 : Array (Option Value)}
    {f29 : Addr} {oc29 kV29 dc29 pm29 cd29 ct29 : Value} {od29 an29 : Option Addr} {sl29 : Array (Option Value)}
    {f30 : Addr} {oc30 kV30 dc30 pm30 cd30 ct30 : Value} {od30 an30 : Option Addr} {sl30 : Array (Option Value)}
    (a0 : PySem.W.nsIn K mainGlobals "is_int" = some (some (.ref f0)))
    (l0 : K.lookup f0 = some ⟨oc0, od0, .func (PySem.W.fnOf "is_int" "is_int" (defArgs st_is_int) (defBody st_is_int) (defScope st_is_int) .none kV0 dc0 pm0 an0 cd0 ct0), sl0⟩)
    (c0 : PySem.W.codeIn K cd0 "is_int" = true)
    (k0 : PySem.W.keepIn K (.ref f0) = true)
    (a1 : PySem.W.nsIn K mainGlobals "is_from" = some (some (.ref f1)))
    (l1 : K.lookup f1 = some ⟨oc1, od1, .func (PySem.W.fnOf "is_from" "is_from" (defArgs st_is_from) (defBody st_is_from) (defScope st_is_from) .none kV1 dc1 pm1 an1 cd1 ct1), sl1⟩)
    (c1 : PySem.W.codeIn K cd1 "is_from" = true)
    (k1 : PySem.W.keepIn K (.ref f1) = true)
    (a2 : PySem.W.nsIn K mainGlobals "is_bool" = some (some (.ref f2)))
    (l2 : K.lookup f2 = some ⟨oc2, od2, .func (PySem.W.fnOf "is_bool" "is_bool" (defArgs st_is_bool) (defBody st_is_bool) (defScope st_is_bool) .none kV2 dc2 pm2 an2 cd2 ct2), sl2⟩)
    (c2 : PySem.W.codeIn K cd2 "is_bool" = true)
    (k2 : PySem.W.keepIn K (.ref f2) = true)
    (a3 : PySem.W.nsIn K mainGlobals "is_row" = some (some (.ref f3)))
    (l3 : K.lookup f3 = some ⟨oc3, od3, .func (PySem.W.fnOf "is_row" "is_row" (defArgs st_is_row) (defBody st_is_row) (defScope st_is_row) .none kV3 dc3 pm3 an3 cd3 ct3), sl3⟩)
    (c3 : PySem.W.codeIn K cd3 "is_row" = true)
    (k3 : PySem.W.keepIn K (.ref f3) = true)
    (a4 : PySem.W.nsIn K mainGlobals "is_tuple_of" = some (some (.ref f4)))
    (l4 : K.lookup f4 = some ⟨oc4, od4, .func (PySem.W.fnOf "is_tuple_of" "is_tuple_of" (defArgs st_is_tuple_of) (defBody st_is_tuple_of) (defScope st_is_tuple_of) .none kV4 dc4 pm4 an4 cd4 ct4), sl4⟩)
    (c4 : PySem.W.codeIn K cd4 "is_tuple_of" = true)
    (k4 : PySem.W.keepIn K (.ref f4) = true)
    (a5 : PySem.W.nsIn K mainGlobals "are_numbers" = some (some (.ref f5)))
    (l5 : K.lookup f5 = some ⟨oc5, od5, .func (PySem.W.fnOf "are_numbers" "are_numbers" (defArgs st_are_numbers) (defBody st_are_numbers) (defScope st_are_numbers) .none kV5 dc5 pm5 an5 cd5 ct5), sl5⟩)
    (c5 : PySem.W.codeIn K cd5 "are_numbers" = true)
    (k5 : PySem.W.keepIn K (.ref f5) = true)
    (a6 : PySem.W.nsIn K mainGlobals "is_strict_row" = some (some (.ref f6)))
    (l6 : K.lookup f6 = some ⟨oc6, od6, .func (PySem.W.fnOf "is_strict_row" "is_strict_row" (defArgs st_is_strict_row) (defBody st_is_strict_row) (defScope st_is_strict_row) .none kV6 dc6 pm6 an6 cd6 ct6), sl6⟩)
    (c6 : PySem.W.codeIn K cd6 "is_strict_row" = true)
    (k6 : PySem.W.keepIn K (.ref f6) = true)
    (a7 : PySem.W.nsIn K mainGlobals "are_rows" = some (some (.ref f7)))
    (l7 : K.lookup f7 = some ⟨oc7, od7, .func (PySem.W.fnOf "are_rows" "are_rows" (defArgs st_are_rows) (defBody st_are_rows) (defScope st_are_rows) .none kV7 dc7 pm7 an7 cd7 ct7), sl7⟩)
    (c7 : PySem.W.codeIn K cd7 "are_rows" = true)
    (k7 : PySem.W.keepIn K (.ref f7) = true)
    (a8 : PySem.W.nsIn K mainGlobals "need_many" = some (some (.ref f8)))
    (l8 : K.lookup f8 = some ⟨oc8, od8, .func (PySem.W.fnOf "need_many" "need_many" (defArgs st_need_many) (defBody st_need_many) (defScope st_need_many) .none kV8 dc8 pm8 an8 cd8 ct8), sl8⟩)
    (c8 : PySem.W.codeIn K cd8 "need_many" = true)
    (k8 : PySem.W.keepIn K (.ref f8) = true)
    (a9 : PySem.W.nsIn K mainGlobals "is_rows" = some (some (.ref f9)))
    (l9 : K.lookup f9 = some ⟨oc9, od9, .func (PySem.W.fnOf "is_rows" "is_rows" (defArgs st_is_rows) (defBody st_is_rows) (defScope st_is_rows) .none kV9 dc9 pm9 an9 cd9 ct9), sl9⟩)
    (c9 : PySem.W.codeIn K cd9 "is_rows" = true)
    (k9 : PySem.W.keepIn K (.ref f9) = true)
    (a10 : PySem.W.nsIn K mainGlobals "is_fraction_value" = some (some (.ref f10)))
    (l10 : K.lookup f10 = some ⟨oc10, od10, .func (PySem.W.fnOf "is_fraction_value" "is_fraction_value" (defArgs st_is_fraction_value) (defBody st_is_fraction_value) (defScope st_is_fraction_value) .none kV10 dc10 pm10 an10 cd10 ct10), sl10⟩)
    (c10 : PySem.W.codeIn K cd10 "is_fraction_value" = true)
    (k10 : PySem.W.keepIn K (.ref f10) = true)
    (a11 : PySem.W.nsIn K mainGlobals "is_fraction" = some (some (.ref f11)))
    (l11 : K.lookup f11 = some ⟨oc11, od11, .func (PySem.W.fnOf "is_fraction" "is_fraction" (defArgs st_is_fraction) (defBody st_is_fraction) (defScope st_is_fraction) .none kV11 dc11 pm11 an11 cd11 ct11), sl11⟩)
    (c11 : PySem.W.codeIn K cd11 "is_fraction" = true)
    (k11 : PySem.W.keepIn K (.ref f11) = true)
    (a12 : PySem.W.nsIn K mainGlobals "_law_deck" = some (some (.ref f12)))
    (l12 : K.lookup f12 = some ⟨oc12, od12, .func (PySem.W.fnOf "_law_deck" "_law_deck" (defArgs st__law_deck) (defBody st__law_deck) (defScope st__law_deck) .none kV12 dc12 pm12 an12 cd12 ct12), sl12⟩)
    (c12 : PySem.W.codeIn K cd12 "_law_deck" = true)
    (k12 : PySem.W.keepIn K (.ref f12) = true)
    (a13 : PySem.W.nsIn K mainGlobals "_law_draw" = some (some (.ref f13)))
    (l13 : K.lookup f13 = some ⟨oc13, od13, .func (PySem.W.fnOf "_law_draw" "_law_draw" (defArgs st__law_draw) (defBody st__law_draw) (defScope st__law_draw) .none kV13 dc13 pm13 an13 cd13 ct13), sl13⟩)
    (c13 : PySem.W.codeIn K cd13 "_law_draw" = true)
    (k13 : PySem.W.keepIn K (.ref f13) = true)
    (a14 : PySem.W.nsIn K mainGlobals "_law_pick" = some (some (.ref f14)))
    (l14 : K.lookup f14 = some ⟨oc14, od14, .func (PySem.W.fnOf "_law_pick" "_law_pick" (defArgs st__law_pick) (defBody st__law_pick) (defScope st__law_pick) .none kV14 dc14 pm14 an14 cd14 ct14), sl14⟩)
    (c14 : PySem.W.codeIn K cd14 "_law_pick" = true)
    (k14 : PySem.W.keepIn K (.ref f14) = true)
    (a15 : PySem.W.nsIn K mainGlobals "_law_divisor" = some (some (.ref f15)))
    (l15 : K.lookup f15 = some ⟨oc15, od15, .func (PySem.W.fnOf "_law_divisor" "_law_divisor" (defArgs st__law_divisor) (defBody st__law_divisor) (defScope st__law_divisor) .none kV15 dc15 pm15 an15 cd15 ct15), sl15⟩)
    (c15 : PySem.W.codeIn K cd15 "_law_divisor" = true)
    (k15 : PySem.W.keepIn K (.ref f15) = true)
    (a16 : PySem.W.nsIn K mainGlobals "_law_lowest" = some (some (.ref f16)))
    (l16 : K.lookup f16 = some ⟨oc16, od16, .func (PySem.W.fnOf "_law_lowest" "_law_lowest" (defArgs st__law_lowest) (defBody st__law_lowest) (defScope st__law_lowest) .none kV16 dc16 pm16 an16 cd16 ct16), sl16⟩)
    (c16 : PySem.W.codeIn K cd16 "_law_lowest" = true)
    (k16 : PySem.W.keepIn K (.ref f16) = true)
    (a17 : PySem.W.nsIn K mainGlobals "_law_same" = some (some (.ref f17)))
    (l17 : K.lookup f17 = some ⟨oc17, od17, .func (PySem.W.fnOf "_law_same" "_law_same" (defArgs st__law_same) (defBody st__law_same) (defScope st__law_same) .none kV17 dc17 pm17 an17 cd17 ct17), sl17⟩)
    (c17 : PySem.W.codeIn K cd17 "_law_same" = true)
    (k17 : PySem.W.keepIn K (.ref f17) = true)
    (a18 : PySem.W.nsIn K mainGlobals "_law_is_int" = some (some (.ref f18)))
    (l18 : K.lookup f18 = some ⟨oc18, od18, .func (PySem.W.fnOf "_law_is_int" "_law_is_int" (defArgs st__law_is_int) (defBody st__law_is_int) (defScope st__law_is_int) .none kV18 dc18 pm18 an18 cd18 ct18), sl18⟩)
    (c18 : PySem.W.codeIn K cd18 "_law_is_int" = true)
    (k18 : PySem.W.keepIn K (.ref f18) = true)
    (a19 : PySem.W.nsIn K mainGlobals "_law_int" = some (some (.ref f19)))
    (l19 : K.lookup f19 = some ⟨oc19, od19, .func (PySem.W.fnOf "_law_int" "_law_int" (defArgs st__law_int) (defBody st__law_int) (defScope st__law_int) .none kV19 dc19 pm19 an19 cd19 ct19), sl19⟩)
    (c19 : PySem.W.codeIn K cd19 "_law_int" = true)
    (k19 : PySem.W.keepIn K (.ref f19) = true)
    (a20 : PySem.W.nsIn K mainGlobals "_law_is_fraction" = some (some (.ref f20)))
    (l20 : K.lookup f20 = some ⟨oc20, od20, .func (PySem.W.fnOf "_law_is_fraction" "_law_is_fraction" (defArgs st__law_is_fraction) (defBody st__law_is_fraction) (defScope st__law_is_fraction) .none kV20 dc20 pm20 an20 cd20 ct20), sl20⟩)
    (c20 : PySem.W.codeIn K cd20 "_law_is_fraction" = true)
    (k20 : PySem.W.keepIn K (.ref f20) = true)
    (a21 : PySem.W.nsIn K mainGlobals "_law_fraction" = some (some (.ref f21)))
    (l21 : K.lookup f21 = some ⟨oc21, od21, .func (PySem.W.fnOf "_law_fraction" "_law_fraction" (defArgs st__law_fraction) (defBody st__law_fraction) (defScope st__law_fraction) .none kV21 dc21 pm21 an21 cd21 ct21), sl21⟩)
    (c21 : PySem.W.codeIn K cd21 "_law_fraction" = true)
    (k21 : PySem.W.keepIn K (.ref f21) = true)
    (a22 : PySem.W.nsIn K mainGlobals "_law_any" = some (some (.ref f22)))
    (l22 : K.lookup f22 = some ⟨oc22, od22, .func (PySem.W.fnOf "_law_any" "_law_any" (defArgs st__law_any) (defBody st__law_any) (defScope st__law_any) .none kV22 dc22 pm22 an22 cd22 ct22), sl22⟩)
    (c22 : PySem.W.codeIn K cd22 "_law_any" = true)
    (k22 : PySem.W.keepIn K (.ref f22) = true)
    (a23 : PySem.W.nsIn K mainGlobals "_law_are_ints" = some (some (.ref f23)))
    (l23 : K.lookup f23 = some ⟨oc23, od23, .func (PySem.W.fnOf "_law_are_ints" "_law_are_ints" (defArgs st__law_are_ints) (defBody st__law_are_ints) (defScope st__law_are_ints) .none kV23 dc23 pm23 an23 cd23 ct23), sl23⟩)
    (c23 : PySem.W.codeIn K cd23 "_law_are_ints" = true)
    (k23 : PySem.W.keepIn K (.ref f23) = true)
    (a24 : PySem.W.nsIn K mainGlobals "_law_sum_of" = some (some (.ref f24)))
    (l24 : K.lookup f24 = some ⟨oc24, od24, .func (PySem.W.fnOf "_law_sum_of" "_law_sum_of" (defArgs st__law_sum_of) (defBody st__law_sum_of) (defScope st__law_sum_of) .none kV24 dc24 pm24 an24 cd24 ct24), sl24⟩)
    (c24 : PySem.W.codeIn K cd24 "_law_sum_of" = true)
    (k24 : PySem.W.keepIn K (.ref f24) = true)
    (a25 : PySem.W.nsIn K mainGlobals "_law_numbers" = some (some (.ref f25)))
    (l25 : K.lookup f25 = some ⟨oc25, od25, .func (PySem.W.fnOf "_law_numbers" "_law_numbers" (defArgs st__law_numbers) (defBody st__law_numbers) (defScope st__law_numbers) .none kV25 dc25 pm25 an25 cd25 ct25), sl25⟩)
    (c25 : PySem.W.codeIn K cd25 "_law_numbers" = true)
    (k25 : PySem.W.keepIn K (.ref f25) = true)
    (a26 : PySem.W.nsIn K mainGlobals "_law_rows_with_point" = some (some (.ref f26)))
    (l26 : K.lookup f26 = some ⟨oc26, od26, .func (PySem.W.fnOf "_law_rows_with_point" "_law_rows_with_point" (defArgs st__law_rows_with_point) (defBody st__law_rows_with_point) (defScope st__law_rows_with_point) .none kV26 dc26 pm26 an26 cd26 ct26), sl26⟩)
    (c26 : PySem.W.codeIn K cd26 "_law_rows_with_point" = true)
    (k26 : PySem.W.keepIn K (.ref f26) = true)
    (a27 : PySem.W.nsIn K mainGlobals "_law_are_rows" = some (some (.ref f27)))
    (l27 : K.lookup f27 = some ⟨oc27, od27, .func (PySem.W.fnOf "_law_are_rows" "_law_are_rows" (defArgs st__law_are_rows) (defBody st__law_are_rows) (defScope st__law_are_rows) .none kV27 dc27 pm27 an27 cd27 ct27), sl27⟩)
    (c27 : PySem.W.codeIn K cd27 "_law_are_rows" = true)
    (k27 : PySem.W.keepIn K (.ref f27) = true)
    (a28 : PySem.W.nsIn K mainGlobals "_law_bent_rows" = some (some (.ref f28)))
    (l28 : K.lookup f28 = some ⟨oc28, od28, .func (PySem.W.fnOf "_law_bent_rows" "_law_bent_rows" (defArgs st__law_bent_rows) (defBody st__law_bent_rows) (defScope st__law_bent_rows) .none kV28 dc28 pm28 an28 cd28 ct28), sl28⟩)
    (c28 : PySem.W.codeIn K cd28 "_law_bent_rows" = true)
    (k28 : PySem.W.keepIn K (.ref f28) = true)
    (a29 : PySem.W.nsIn K mainGlobals "_law_near_fraction" = some (some (.ref f29)))
    (l29 : K.lookup f29 = some ⟨oc29, od29, .func (PySem.W.fnOf "_law_near_fraction" "_law_near_fraction" (defArgs st__law_near_fraction) (defBody st__law_near_fraction) (defScope st__law_near_fraction) .none kV29 dc29 pm29 an29 cd29 ct29), sl29⟩)
    (c29 : PySem.W.codeIn K cd29 "_law_near_fraction" = true)
    (k29 : PySem.W.keepIn K (.ref f29) = true)
    (a30 : PySem.W.nsIn K mainGlobals "law" = some (some (.ref f30)))
    (l30 : K.lookup f30 = some ⟨oc30, od30, .func (PySem.W.fnOf "law" "law" (defArgs st_law) (defBody st_law) (defScope st_law) .none kV30 dc30 pm30 an30 cd30 ct30), sl30⟩)
    (c30 : PySem.W.codeIn K cd30 "law" = true)
    (k30 : PySem.W.keepIn K (.ref f30) = true)
    (z_gcd : PySem.W.nsIn K mainGlobals "gcd" = some (some (.builtin "math.gcd")))
    (z_abs : PySem.W.nsIn K mainGlobals "abs" = some none)
    (z_all : PySem.W.nsIn K mainGlobals "all" = some none)
    (z_bool : PySem.W.nsIn K mainGlobals "bool" = some none)
    (z_dict : PySem.W.nsIn K mainGlobals "dict" = some none)
    (z_enumerate : PySem.W.nsIn K mainGlobals "enumerate" = some none)
    (z_int : PySem.W.nsIn K mainGlobals "int" = some none)
    (z_isinstance : PySem.W.nsIn K mainGlobals "isinstance" = some none)
    (z_len : PySem.W.nsIn K mainGlobals "len" = some none)
    (z_list : PySem.W.nsIn K mainGlobals "list" = some none)
    (z_max : PySem.W.nsIn K mainGlobals "max" = some none)
    (z_range : PySem.W.nsIn K mainGlobals "range" = some none)
    (z_repr : PySem.W.nsIn K mainGlobals "repr" = some none)
    (z_str : PySem.W.nsIn K mainGlobals "str" = some none)
    (z_sum : PySem.W.nsIn K mainGlobals "sum" = some none)
    (z_tuple : PySem.W.nsIn K mainGlobals "tuple" = some none)
    (z_zip : PySem.W.nsIn K mainGlobals "zip" = some none) : Tx K mg where
    m_gcd := PySem.W.mg_of X G z_gcd
    b_abs := PySem.W.mg_none_of X G z_abs
    b_all := PySem.W.mg_none_of X G z_all
    b_bool := PySem.W.mg_none_of X G z_bool
    b_dict := PySem.W.mg_none_of X G z_dict
    b_enumerate := PySem.W.mg_none_of X G z_enumerate
    b_int := PySem.W.mg_none_of X G z_int
    b_isinstance := PySem.W.mg_none_of X G z_isinstance
    b_len := PySem.W.mg_none_of X G z_len
    b_list := PySem.W.mg_none_of X G z_list
    b_max := PySem.W.mg_none_of X G z_max
    b_range := PySem.W.mg_none_of X G z_range
    b_repr := PySem.W.mg_none_of X G z_repr
    b_str := PySem.W.mg_none_of X G z_str
    b_sum := PySem.W.mg_none_of X G z_sum
    b_tuple := PySem.W.mg_none_of X G z_tuple
    b_zip := PySem.W.mg_none_of X G z_zip
    d_is_int := Df.mk X G (fun _ _ _ _ _ _ s us hl => match us, hl with | [_], _ => .of_eq rfl) (fun _ _ _ _ _ _ s hs => (List.not_mem_nil hs).elim) a0 l0 c0 k0
    d_is_from := Df.mk X G (fun _ _ _ _ _ _ s us hl => match us, hl with | [_, _], _ => .of_eq rfl) (fun _ _ _ _ _ _ s hs => (List.not_mem_nil hs).elim) a1 l1 c1 k1
    d_is_bool := Df.mk X G (fun _ _ _ _ _ _ s us hl => match us, hl with | [_], _ => .of_eq rfl) (fun _ _ _ _ _ _ s hs => (List.not_mem_nil hs).elim) a2 l2 c2 k2
    d_is_row := Df.mk X G (fun _ _ _ _ _ _ s us hl => match us, hl with | [_, _], _ => .of_eq rfl) (fun _ _ _ _ _ _ s hs => (List.not_mem_nil hs).elim) a3 l3 c3 k3
    d_is_tuple_of := Df.mk X G (fun _ _ _ _ _ _ s us hl => match us, hl with | [_, _], _ => .of_eq rfl) (fun _ _ _ _ _ _ s hs => (List.not_mem_nil hs).elim) a4 l4 c4 k4
    d_are_numbers := Df.mk X G (fun _ _ _ _ _ _ s us hl => match us, hl with | [_, _], _ => .of_eq rfl) (fun _ _ _ _ _ _ s hs => (List.not_mem_nil hs).elim) a5 l5 c5 k5
    d_is_strict_row := Df.mk X G (fun _ _ _ _ _ _ s us hl => match us, hl with | [_, _], _ => .of_eq rfl) (fun _ _ _ _ _ _ s hs => (List.not_mem_nil hs).elim) a6 l6 c6 k6
    d_are_rows := Df.mk X G (fun _ _ _ _ _ _ s us hl => match us, hl with | [_, _], _ => .of_eq rfl) (fun _ _ _ _ _ _ s hs => (List.not_mem_nil hs).elim) a7 l7 c7 k7
    d_need_many := Df.mk X G (fun _ _ _ _ _ _ s us hl => match us, hl with | [_], _ => .of_eq rfl) (fun _ _ _ _ _ _ s hs => (List.not_mem_nil hs).elim) a8 l8 c8 k8
    d_is_rows := Df.mk X G (fun _ _ _ _ _ _ s us hl => match us, hl with | [_, _], _ => .of_eq rfl) (fun kV doc pm an cdv ct s hs => by
      simp only [List.mem_cons, List.not_mem_nil, or_false] at hs
      subst hs
      exact fun s us ws hu hw => match us, ws, hu, hw with | [], [_, _], _, _ => ⟨rfl, .of_eq rfl⟩) a9 l9 c9 k9
    d_is_fraction_value := Df.mk X G (fun _ _ _ _ _ _ s us hl => match us, hl with | [_], _ => .of_eq rfl) (fun _ _ _ _ _ _ s hs => (List.not_mem_nil hs).elim) a10 l10 c10 k10
    d_is_fraction := Df.mk X G (fun _ _ _ _ _ _ s us hl => match us, hl with | [_], _ => .of_eq rfl) (fun kV doc pm an cdv ct s hs => by
      simp only [List.mem_cons, List.not_mem_nil, or_false] at hs
      subst hs
      exact fun s us ws hu hw => match us, ws, hu, hw with | [], [_], _, _ => ⟨rfl, .of_eq rfl⟩) a11 l11 c11 k11
    d__law_deck := Df.mk X G (fun _ _ _ _ _ _ s us hl => match us, hl with | [_], _ => .of_eq rfl) (fun _ _ _ _ _ _ s hs => (List.not_mem_nil hs).elim) a12 l12 c12 k12
    d__law_draw := Df.mk X G (fun _ _ _ _ _ _ s us hl => match us, hl with | [_, _], _ => .of_eq rfl) (fun _ _ _ _ _ _ s hs => (List.not_mem_nil hs).elim) a13 l13 c13 k13
    d__law_pick := Df.mk X G (fun _ _ _ _ _ _ s us hl => match us, hl with | [_, _], _ => .of_eq rfl) (fun _ _ _ _ _ _ s hs => (List.not_mem_nil hs).elim) a14 l14 c14 k14
    d__law_divisor := Df.mk X G (fun _ _ _ _ _ _ s us hl => match us, hl with | [_, _], _ => .of_eq rfl) (fun _ _ _ _ _ _ s hs => (List.not_mem_nil hs).elim) a15 l15 c15 k15
    d__law_lowest := Df.mk X G (fun _ _ _ _ _ _ s us hl => match us, hl with | [_, _], _ => .of_eq rfl) (fun _ _ _ _ _ _ s hs => (List.not_mem_nil hs).elim) a16 l16 c16 k16
    d__law_same := Df.mk X G (fun _ _ _ _ _ _ s us hl => match us, hl with | [_, _], _ => .of_eq rfl) (fun _ _ _ _ _ _ s hs => (List.not_mem_nil hs).elim) a17 l17 c17 k17
    d__law_is_int := Df.mk X G (fun _ _ _ _ _ _ s us hl => match us, hl with | [_], _ => .of_eq rfl) (fun _ _ _ _ _ _ s hs => (List.not_mem_nil hs).elim) a18 l18 c18 k18
    d__law_int := Df.mk X G (fun _ _ _ _ _ _ s us hl => match us, hl with | [_, _], _ => .of_eq rfl) (fun _ _ _ _ _ _ s hs => (List.not_mem_nil hs).elim) a19 l19 c19 k19
    d__law_is_fraction := Df.mk X G (fun _ _ _ _ _ _ s us hl => match us, hl with | [_], _ => .of_eq rfl) (fun _ _ _ _ _ _ s hs => (List.not_mem_nil hs).elim) a20 l20 c20 k20
    d__law_fraction := Df.mk X G (fun _ _ _ _ _ _ s us hl => match us, hl with | [_, _], _ => .of_eq rfl) (fun _ _ _ _ _ _ s hs => (List.not_mem_nil hs).elim) a21 l21 c21 k21
    d__law_any := Df.mk X G (fun _ _ _ _ _ _ s us hl => match us, hl with | [_, _], _ => .of_eq rfl) (fun _ _ _ _ _ _ s hs => (List.not_mem_nil hs).elim) a22 l22 c22 k22
    d__law_are_ints := Df.mk X G (fun _ _ _ _ _ _ s us hl => match us, hl with | [_, _, _], _ => .of_eq rfl) (fun _ _ _ _ _ _ s hs => (List.not_mem_nil hs).elim) a23 l23 c23 k23
    d__law_sum_of := Df.mk X G (fun _ _ _ _ _ _ s us hl => match us, hl with | [_, _], _ => .of_eq rfl) (fun _ _ _ _ _ _ s hs => (List.not_mem_nil hs).elim) a24 l24 c24 k24
    d__law_numbers := Df.mk X G (fun _ _ _ _ _ _ s us hl => match us, hl with | [_, _, _], _ => .of_eq rfl) (fun _ _ _ _ _ _ s hs => (List.not_mem_nil hs).elim) a25 l25 c25 k25
    d__law_rows_with_point := Df.mk X G (fun _ _ _ _ _ _ s us hl => match us, hl with | [_, _, _, _], _ => .of_eq rfl) (fun _ _ _ _ _ _ s hs => (List.not_mem_nil hs).elim) a26 l26 c26 k26
    d__law_are_rows := Df.mk X G (fun _ _ _ _ _ _ s us hl => match us, hl with | [_, _], _ => .of_eq rfl) (fun _ _ _ _ _ _ s hs => (List.not_mem_nil hs).elim) a27 l27 c27 k27
    d__law_bent_rows := Df.mk X G (fun _ _ _ _ _ _ s us hl => match us, hl with | [_, _], _ => .of_eq rfl) (fun _ _ _ _ _ _ s hs => (List.not_mem_nil hs).elim) a28 l28 c28 k28
    d__law_near_fraction := Df.mk X G (fun _ _ _ _ _ _ s us hl => match us, hl with | [_, _], _ => .of_eq rfl) (fun _ _ _ _ _ _ s hs => (List.not_mem_nil hs).elim) a29 l29 c29 k29
    d_law := Df.mk X G (fun _ _ _ _ _ _ s us hl => match us, hl with | [_], _ => .of_eq rfl) (fun _ _ _ _ _ _ s hs => (List.not_mem_nil hs).elim) a30 l30 c30 k30
theorem law_go {w : World} {K : PySem.W.Frag} {mg : Str → Option Value} {fa : Addr} {c_0 T_0 : Addr} (t_0 : PySem.W.tabIn K "are_rows" = some (c_0, T_0)) (o_0 : K.lookup T_0 = none) (T : Tx K mg) (hfa : mg "law" = some (.ref fa)) :
    ∃ (fd : FuncData) (cs : List (Addr × Addr)), cs.map some = (["are_rows"] : List Str).map (PySem.W.tabIn K) ∧ (∀ p ∈ cs, K.lookup p.2 = none) ∧ (cs.map (·.2)).Nodup ∧ (∀ (s : Shared) (u : Value), BindsTo s fd ⟨[u], []⟩ [("script", u)]) ∧ ∀ base : Heap, K.In base → base.Ns mainGlobals mg → (∃ o, base.get? sysModules = some o) → (∀ p ∈ cs, TabB base mg p.1 p.2) → FnG PySem.Challenge.rw_wheremade_k02_fractions_and_rows_of_any.prog w K mg base ⟨Pz.CTL, Pz.LVL, cs.map (·.2)⟩ 10 fa fd ["script"] (spLaw ["are_rows.<locals>.<lambda>"]) := by
  obtain ⟨fd, h1, h2⟩ := law_fin (l := PySem.Challenge.rw_wheremade_k02_fractions_and_rows_of_any) (cs := [(c_0, T_0)]) (qs := ["are_rows.<locals>.<lambda>"]) (k := 10) (Sg := ⟨Pz.CTL, Pz.LVL, ([(c_0, T_0)] : List (Addr × Addr)).map (·.2)⟩) T.d_law hfa fun base low tb f fd Fn => g_law (Ty.mk T low ⟨c_0, T_0, t_0, tb (c_0, T_0) (by simp), rfl⟩) Fn
  exact ⟨fd, [(c_0, T_0)], by simp [t_0], (fun p hp => by simp only [List.mem_cons, List.not_mem_nil, or_false] at hp; subst hp; exact o_0), (by simp), h1, h2⟩
end Pz
open PySem PySem.W PyProof.Rows
set_option maxRecDepth 100000 in
set_option maxHeartbeats 0 in
theorem PySem.Challenge.cw_wheremade_k02_fractions_and_rows_of_any_holds : PySem.Challenge.rw_wheremade_k02_fractions_and_rows_of_any.Holds := by
  w_on; o_law; k_head; (case hw => w_witness2)
  k_fill
  refine Pz.law_walk (l := PySem.Challenge.rw_wheremade_k02_fractions_and_rows_of_any) (k := 10) (x := "script") (ct := Pz.CTL) (lv := Pz.LVL) (xs := ["are_rows"]) (qs := ["are_rows.<locals>.<lambda>"]) rfl rfl rfl ⟨rfl, by decide, by decide⟩ (fun w h Y => Y.1) (by rfl) (fun y hy => by simp only [List.mem_cons, List.not_mem_nil, or_false] at hy; subst hy; exact ⟨_, rfl⟩) ?F
  case F =>
    intro w mg fa h KX G hmg
    replace hmg : mg "law" = some (.ref fa) := hmg
    refine' Pz.law_go (Pz.tabIn_mk ?a_0 ?l_0 ?h_0 ?m_0 ?v_0) ?o_0 ?T hmg
    (case a_0 => k_is); (case l_0 => k_is); (case h_0 => rfl); (case m_0 => k_is); (case v_0 => rfl); (case o_0 => exact rfl)
    case T =>
      refine' Pz.mkTx KX G ?a0 ?l0 ?c0 ?k0 ?a1 ?l1 ?c1 ?k1 ?a2 ?l2 ?c2 ?k2 ?a3 ?l3 ?c3 ?k3 ?a4 ?l4 ?c4 ?k4 ?a5 ?l5 ?c5 ?k5 ?a6 ?l6 ?c6 ?k6 ?a7 ?l7 ?c7 ?k7 ?a8 ?l8 ?c8 ?k8 ?a9 ?l9 ?c9 ?k9 ?a10 ?l10 ?c10 ?k10 ?a11 ?l11 ?c11 ?k11 ?a12 ?l12 ?c12 ?k12 ?a13 ?l13 ?c13 ?k13 ?a14 ?l14 ?c14 ?k14 ?a15 ?l15 ?c15 ?k15 ?a16 ?l16 ?c16 ?k16 ?a17 ?l17 ?c17 ?k17 ?a18 ?l18 ?c18 ?k18 ?a19 ?l19 ?c19 ?k19 ?a20 ?l20 ?c20 ?k20 ?a21 ?l21 ?c21 ?k21 ?a22 ?l22 ?c22 ?k22 ?a23 ?l23 ?c23 ?k23 ?a24 ?l24 ?c24 ?k24 ?a25 ?l25 ?c25 ?k25 ?a26 ?l26 ?c26 ?k26 ?a27 ?l27 ?c27 ?k27 ?a28 ?l28 ?c28 ?k28 ?a29 ?l29 ?c29 ?k29 ?a30 ?l30 ?c30 ?k30 ?z_gcd ?z_abs ?z_all ?z_bool ?z_dict ?z_enumerate ?z_int ?z_isinstance ?z_len ?z_list ?z_max ?z_range ?z_repr ?z_str ?z_sum ?z_tuple ?z_zip
      (case a0 => k_is)
      (case l0 => k_is)
      (case c0 => k_is)
      (case k0 => k_is)
      (case a1 => k_is)
      (case l1 => k_is)
      (case c1 => k_is)
      (case k1 => k_is)
      (case a2 => k_is)
      (case l2 => k_is)
      (case c2 => k_is)
      (case k2 => k_is)
      (case a3 => k_is)
      (case l3 => k_is)
      (case c3 => k_is)
      (case k3 => k_is)
      (case a4 => k_is)
      (case l4 => k_is)
      (case c4 => k_is)
      (case k4 => k_is)
      (case a5 => k_is)
      (case l5 => k_is)
      (case c5 => k_is)
      (case k5 => k_is)
      (case a6 => k_is)
      (case l6 => k_is)
      (case c6 => k_is)
      (case k6 => k_is)
      (case a7 => k_is)
      (case l7 => k_is)
      (case c7 => k_is)
      (case k7 => k_is)
      (case a8 => k_is)
      (case l8 => k_is)
      (case c8 => k_is)
      (case k8 => k_is)
      (case a9 => k_is)
      (case l9 => k_is)
      (case c9 => k_is)
      (case k9 => k_is)
      (case a10 => k_is)
      (case l10 => k_is)
      (case c10 => k_is)
      (case k10 => k_is)
      (case a11 => k_is)
      (case l11 => k_is)
      (case c11 => k_is)
      (case k11 => k_is)
      (case a12 => k_is)
      (case l12 => k_is)
      (case c12 => k_is)
      (case k12 => k_is)
      (case a13 => k_is)
      (case l13 => k_is)
      (case c13 => k_is)
      (case k13 => k_is)
      (case a14 => k_is)
      (case l14 => k_is)
      (case c14 => k_is)
      (case k14 => k_is)
      (case a15 => k_is)
      (case l15 => k_is)
      (case c15 => k_is)
      (case k15 => k_is)
      (case a16 => k_is)
      (case l16 => k_is)
      (case c16 => k_is)
      (case k16 => k_is)
      (case a17 => k_is)
      (case l17 => k_is)
      (case c17 => k_is)
      (case k17 => k_is)
      (case a18 => k_is)
      (case l18 => k_is)
      (case c18 => k_is)
      (case k18 => k_is)
      (case a19 => k_is)
      (case l19 => k_is)
      (case c19 => k_is)
      (case k19 => k_is)
      (case a20 => k_is)
      (case l20 => k_is)
      (case c20 => k_is)
      (case k20 => k_is)
      (case a21 => k_is)
      (case l21 => k_is)
      (case c21 => k_is)
      (case k21 => k_is)
      (case a22 => k_is)
      (case l22 => k_is)
      (case c22 => k_is)
      (case k22 => k_is)
      (case a23 => k_is)
      (case l23 => k_is)
      (case c23 => k_is)
      (case k23 => k_is)
      (case a24 => k_is)
      (case l24 => k_is)
      (case c24 => k_is)
      (case k24 => k_is)
      (case a25 => k_is)
      (case l25 => k_is)
      (case c25 => k_is)
      (case k25 => k_is)
      (case a26 => k_is)
      (case l26 => k_is)
      (case c26 => k_is)
      (case k26 => k_is)
      (case a27 => k_is)
      (case l27 => k_is)
      (case c27 => k_is)
      (case k27 => k_is)
      (case a28 => k_is)
      (case l28 => k_is)
      (case c28 => k_is)
      (case k28 => k_is)
      (case a29 => k_is)
      (case l29 => k_is)
      (case c29 => k_is)
      (case k29 => k_is)
      (case a30 => k_is)
      (case l30 => k_is)
      (case c30 => k_is)
      (case k30 => k_is)
      (case z_gcd => k_is)
      (case z_abs => k_is)
      (case z_all => k_is)
      (case z_bool => k_is)
      (case z_dict => k_is)
      (case z_enumerate => k_is)
      (case z_int => k_is)
      (case z_isinstance => k_is)
      (case z_len => k_is)
      (case z_list => k_is)
      (case z_max => k_is)
      (case z_range => k_is)
      (case z_repr => k_is)
      (case z_str => k_is)
      (case z_sum => k_is)
      (case z_tuple => k_is)
      (case z_zip => k_is)
