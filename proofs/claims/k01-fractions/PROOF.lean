import PyProof.Rows.All
import Wide.All
import OpenK.AllK
import Wide.FinOn
import HandS.ForMost
import HandS.IsInst
import HandS.Gcd
import HandS.Wide
import HandS.Zip
import HandS.TupAny
import HandS.Flow
import HandS.Style
import PySem.Challenge.RW_wheremade_k01_fractions_by_cross_product
set_option Elab.async false
set_option linter.all false
set_option maxRecDepth 100000
set_option autoImplicit false
section
set_option Elab.async false
set_option linter.all false
set_option maxRecDepth 100000
set_option autoImplicit false
/-! Fw1: the data layer. Values are plain data (PyData) or references to a few mutable objects; the heap of HandS stands behind them. -/
namespace Pz
open PySem PySem.Spec L2

abbrev D := PyData
/-- a value: data, or the n-th mutable object -/
inductive W where
  | d (x : D)
  | ref (n : Nat)
  | scr (ns : List Int)
/-- a mutable object: given up, a list, a dict with int and text keys, anything of which only a word is known -/
inductive Ob where
  | dead
  | lst (ws : List W)
  | dic (kws : List (Key × W))
  | any (n : Nat) (phi : List Addr → HO → Prop)
abbrev IH := List Ob
abbrev En := List (Option W)

def Ob.isLive : Ob → Bool
  | .dead => false
  | _ => true
def Live (m : List Addr) (ih : IH) (a : Addr) : Prop := ∃ (i : Nat) (o : Ob), m[i]? = some a ∧ ih[i]? = some o ∧ o.isLive = true

def keyD : Key → D
  | .inl i => .int i
  | .inr s => .str s

/-! ### data in the heap -/
mutual
def DR (K : PySem.W.Frag) (L : Addr → Prop) (H : Hp) : D → V → Prop
  | .none, v => v = .non
  | .bool b, v => v = .bl b
  | .int i, v => v = .int i
  | .str s, v => v = .str s
  | .tuple xs, v => ∃ a vs, v = .ref a ∧ SqT K H a vs ∧ DRs K L H xs vs
  | .list xs, v => ∃ a vs, v = .ref a ∧ H a = some (.lst vs) ∧ ¬ L a ∧ DRs K L H xs vs
  | .dict ks, v => ∃ a kvs, v = .ref a ∧ H a = some (.dK kvs) ∧ ¬ L a ∧ DRk K L H ks kvs
def DRs (K : PySem.W.Frag) (L : Addr → Prop) (H : Hp) : List D → List V → Prop
  | [], vs => vs = []
  | x :: xs, vs => ∃ v r, vs = v :: r ∧ DR K L H x v ∧ DRs K L H xs r
def DRk (K : PySem.W.Frag) (L : Addr → Prop) (H : Hp) : List (D × D) → List (Key × V) → Prop
  | [], vs => vs = []
  | (k, x) :: xs, vs => ∃ q v r, vs = (q, v) :: r ∧ keyD q = k ∧ DR K L H x v ∧ DRk K L H xs r
end

/-- what may follow: older objects that are nobody's stay -/
structure Xt (m : List Addr) (ih : IH) (H : Hp) (m' : List Addr) (ih' : IH) (H' : Hp) : Prop where
  pre : ∃ t, m' = m ++ t ∧ ∀ a ∈ t, H a = none
  keep : ∀ a o, H a = some o → ¬ Live m ih a → H' a = some o ∧ ¬ Live m' ih' a
  there : ∀ a, H' a = none → H a = none
/-- a word about states that all that may follow keeps -/
structure JT where
  hid : List Addr
  p : List Addr → IH → Hp → Prop
  cl : ∀ m ih H m' ih' H', p m ih H → Xt m ih H m' ih' H' → p m' ih' H'
def JT.tt : JT := ⟨[], fun _ _ _ => True, fun _ _ _ _ _ _ _ _ => True.intro⟩

/-- the addresses that no data may name: mutable objects, and what a comprehension is making -/
def Own (J : JT) (m : List Addr) (ih : IH) (a : Addr) : Prop := Live m ih a ∨ a ∈ J.hid

def WR (K : PySem.W.Frag) (J : JT) (m : List Addr) (ih : IH) (H : Hp) : W → V → Prop
  | .d x, v => DR K (Own J m ih) H x v
  | .ref n, v => ∃ a, m[n]? = some a ∧ v = .ref a
  | .scr ns, v => ∃ a, v = .ref a ∧ ((Rd H a (.lst (ns.map V.int)) ∧ ¬ Own J m ih a) ∨ ∀ H2, SqL K H2 a (ns.map V.int))

def ObR (K : PySem.W.Frag) (J : JT) (m : List Addr) (ih : IH) (H : Hp) (a : Addr) : Ob → Prop
  | .dead => True
  | .lst ws => ∃ vs, H a = some (.lst vs) ∧ Paired (WR K J m ih H) ws vs
  | .dic kws => ∃ kvs, H a = some (.dK kvs) ∧ Paired (fun (p : Key × W) (q : Key × V) => p.1 = q.1 ∧ WR K J m ih H p.2 q.2) kws kvs
  | .any n phi => ∃ o, H a = some o ∧ Mut (some o) ∧ n ≤ m.length ∧ phi (m.take n) o

structure Sim (K : PySem.W.Frag) (J : JT) (m : List Addr) (ih : IH) (H : Hp) : Prop where
  j : J.p m ih H
  len : m.length = ih.length
  nd : m.Nodup
  th : ∀ a, a ∈ m → H a ≠ none
  hd : ∀ a, a ∈ J.hid → H a ≠ none ∧ ¬ Live m ih a
  ob : ∀ (i : Nat) (a : Addr) (o : Ob), m[i]? = some a → ih[i]? = some o → ObR K J m ih H a o

section
variable {K : PySem.W.Frag} {J : JT} {m m' m2 : List Addr} {ih ih' ih2 : IH} {H H' H2 : Hp}

theorem Xt.refl : Xt m ih H m ih H := ⟨⟨[], (List.append_nil m).symm, fun _ z => absurd z (by simp)⟩, fun _ _ e n => ⟨e, n⟩, fun _ e => e⟩
theorem Xt.trans (x : Xt m ih H m' ih' H') (y : Xt m' ih' H' m2 ih2 H2) : Xt m ih H m2 ih2 H2 := by
  refine ⟨?_, fun a o e n => ?_, fun a e => x.there a (y.there a e)⟩
  · obtain ⟨t, rfl, ft⟩ := x.pre
    obtain ⟨u, rfl, fu⟩ := y.pre
    exact ⟨t ++ u, List.append_assoc m t u, fun a h => (List.mem_append.mp h).elim (ft a) fun z => x.there a (fu a z)⟩
  · obtain ⟨e1, n1⟩ := x.keep a o e n
    exact y.keep a o e1 n1

theorem Sim.live_mut (S : Sim K J m ih H) {a : Addr} (h : Live m ih a) : ∃ o, H a = some o ∧ Mut (some o) := by
  obtain ⟨i, o, e1, e2, e3⟩ := h
  have q := S.ob i a o e1 e2
  cases o with
  | dead => cases e3
  | lst ws => obtain ⟨vs, e, _⟩ := q; exact ⟨_, e, True.intro⟩
  | dic ws => obtain ⟨vs, e, _⟩ := q; exact ⟨_, e, True.intro⟩
  | any n phi => obtain ⟨o, e, mu, _⟩ := q; exact ⟨o, e, mu⟩
theorem Sim.tup_free (S : Sim K J m ih H) {a : Addr} {xs : List V} (h : Rd H a (.tup xs)) : ¬ Live m ih a := fun l => by
  obtain ⟨o, e, mu⟩ := S.live_mut l
  rcases h with h | ⟨ob, h⟩
  · rw [h] at e; cases e; exact mu
  · rw [h] at e; cases e; exact mu
theorem Xt.rd (x : Xt m ih H m' ih' H') {a : Addr} {u : HO} (n : ¬ Live m ih a) (h : Rd H a u) : Rd H' a u := by
  rcases h with h | ⟨ob, h⟩
  · exact .inl (x.keep a _ h n).1
  · exact .inr ⟨ob, (x.keep a _ h n).1⟩
theorem Xt.dead (x : Xt m ih H m' ih' H') {a : Addr} {u : HO} (n : ¬ Live m ih a) (h : Rd H a u) : ¬ Live m' ih' a := by
  rcases h with h | ⟨ob, h⟩
  · exact (x.keep a _ h n).2
  · exact (x.keep a _ h n).2
theorem Xt.own (x : Xt m ih H m' ih' H') {a : Addr} {u : HO} (n : ¬ Own J m ih a) (h : H a = some u) : ¬ Own J m' ih' a := fun z =>
  z.elim (x.keep a u h fun y => n (.inl y)).2 fun y => n (.inr y)
theorem Sim.hd_mono (S : Sim K J m ih H) (x : Xt m ih H m' ih' H') : ∀ a, a ∈ J.hid → H' a ≠ none ∧ ¬ Live m' ih' a := fun a h => by
  obtain ⟨h1, h2⟩ := S.hd a h
  cases e : H a with
  | none => exact absurd e h1
  | some o =>
    obtain ⟨e1, e2⟩ := x.keep a o e h2
    exact ⟨(by rw [e1]; intro z; cases z), e2⟩
theorem Xt.seqT (S : Sim K J m ih H) (x : Xt m ih H m' ih' H') {a : Addr} {xs : List V} (h : SqT K H a xs) : SqT K H' a xs := by
  rcases h with h | h
  · exact .inl (x.rd (S.tup_free h) h)
  · exact .inr h

mutual
theorem DR.mono (S : Sim K J m ih H) (x : Xt m ih H m' ih' H') : ∀ (d : D) (v : V), DR K (Own J m ih) H d v → DR K (Own J m' ih') H' d v
  | .none, v, h => by unfold DR at h ⊢; exact h
  | .bool b, v, h => by unfold DR at h ⊢; exact h
  | .int i, v, h => by unfold DR at h ⊢; exact h
  | .str s, v, h => by unfold DR at h ⊢; exact h
  | .tuple xs, v, h => by
    unfold DR at h ⊢
    obtain ⟨a, vs, e, hs, hr⟩ := h
    exact ⟨a, vs, e, x.seqT S hs, DRs.mono S x xs vs hr⟩
  | .list xs, v, h => by
    unfold DR at h ⊢
    obtain ⟨a, vs, e, hs, hl, hr⟩ := h
    exact ⟨a, vs, e, (x.keep a _ hs fun z => hl (.inl z)).1, x.own hl hs, DRs.mono S x xs vs hr⟩
  | .dict ks, v, h => by
    unfold DR at h ⊢
    obtain ⟨a, vs, e, hs, hl, hr⟩ := h
    exact ⟨a, vs, e, (x.keep a _ hs fun z => hl (.inl z)).1, x.own hl hs, DRk.mono S x ks vs hr⟩
theorem DRs.mono (S : Sim K J m ih H) (x : Xt m ih H m' ih' H') : ∀ (ds : List D) (vs : List V), DRs K (Own J m ih) H ds vs → DRs K (Own J m' ih') H' ds vs
  | [], vs, h => by unfold DRs at h ⊢; exact h
  | d :: ds, vs, h => by
    unfold DRs at h ⊢
    obtain ⟨v, r, e, h1, h2⟩ := h
    exact ⟨v, r, e, DR.mono S x d v h1, DRs.mono S x ds r h2⟩
theorem DRk.mono (S : Sim K J m ih H) (x : Xt m ih H m' ih' H') : ∀ (ds : List (D × D)) (vs : List (Key × V)), DRk K (Own J m ih) H ds vs → DRk K (Own J m' ih') H' ds vs
  | [], vs, h => by unfold DRk at h ⊢; exact h
  | (k, d) :: ds, vs, h => by
    unfold DRk at h ⊢
    obtain ⟨q, v, r, e, e2, h1, h2⟩ := h
    exact ⟨q, v, r, e, e2, DR.mono S x d v h1, DRk.mono S x ds r h2⟩
end

theorem WR.mono (S : Sim K J m ih H) (x : Xt m ih H m' ih' H') : ∀ {w : W} {v : V}, WR K J m ih H w v → WR K J m' ih' H' w v
  | .d d, v, h => DR.mono S x d v h
  | .ref n, v, h => by
    obtain ⟨a, e, r⟩ := h
    obtain ⟨t, rfl, _⟩ := x.pre
    exact ⟨a, by rw [List.getElem?_append_left (List.getElem?_eq_some_iff.mp e).1]; exact e, r⟩
  | .scr ns, v, h => by
    obtain ⟨a, e, q⟩ := h
    rcases q with ⟨q, l⟩ | q
    · exact ⟨a, e, .inl ⟨x.rd (fun z => l (.inl z)) q, fun z => z.elim (x.dead (fun z => l (.inl z)) q) fun y => l (.inr y)⟩⟩
    · exact ⟨a, e, .inr q⟩

/-- the names: what env tells stands in the frame -/
structure EnvR (K : PySem.W.Frag) (J : JT) (m : List Addr) (ih : IH) (H : Hp) (env : En) (σ : St) : Prop where
  len : env.length = σ.length
  at_ : ∀ (i : Nat) (w : W), env[i]? = some (some w) → ∃ v, σ[i]? = some (some v) ∧ WR K J m ih H w v
theorem EnvR.mono {env : En} {σ : St} (S : Sim K J m ih H) (x : Xt m ih H m' ih' H') (e : EnvR K J m ih H env σ) : EnvR K J m' ih' H' env σ :=
  ⟨e.len, fun i w q => let ⟨v, q1, q2⟩ := e.at_ i w q; ⟨v, q1, q2.mono S x⟩⟩
theorem EnvR.set {env : En} {σ : St} {i : Nat} {w : W} {v : V} (e : EnvR K J m ih H env σ) (r : WR K J m ih H w v) : EnvR K J m ih H (env.set i (some w)) (σ.set i (some v)) := by
  refine ⟨by rw [List.length_set, List.length_set]; exact e.len, fun j u q => ?_⟩
  by_cases hj : i = j
  · subst hj
    have hlt : i < env.length := by
      have := (List.getElem?_eq_some_iff.mp q).1
      rwa [List.length_set] at this
    rw [List.getElem?_set_self hlt] at q
    cases q
    exact ⟨v, List.getElem?_set_self (by rw [← e.len]; exact hlt), r⟩
  · rw [List.getElem?_set_ne hj] at q
    obtain ⟨v', q1, q2⟩ := e.at_ j u q
    exact ⟨v', by rw [List.getElem?_set_ne hj]; exact q1, q2⟩

theorem DRs.len {L : Addr → Prop} : ∀ {ds : List D} {vs : List V}, DRs K L H ds vs → vs.length = ds.length
  | [], vs, h => by unfold DRs at h; subst h; rfl
  | d :: ds, vs, h => by
    unfold DRs at h
    obtain ⟨v, r, rfl, _, h2⟩ := h
    rw [List.length_cons, List.length_cons, DRs.len h2]
theorem DRs.get {L : Addr → Prop} : ∀ {ds : List D} {vs : List V} {i : Nat} {d : D}, DRs K L H ds vs → ds[i]? = some d → ∃ v, vs[i]? = some v ∧ DR K L H d v
  | [], vs, i, d, h, e => by simp at e
  | d' :: ds, vs, 0, d, h, e => by
    unfold DRs at h
    obtain ⟨v, r, rfl, h1, _⟩ := h
    simp at e
    subst e
    exact ⟨v, rfl, h1⟩
  | d' :: ds, vs, i + 1, d, h, e => by
    unfold DRs at h
    obtain ⟨v, r, rfl, _, h2⟩ := h
    obtain ⟨u, e1, h3⟩ := DRs.get (i := i) h2 (by simpa using e)
    exact ⟨u, by simpa using e1, h3⟩
theorem DRs.app {L : Addr → Prop} : ∀ {ds es : List D} {vs us : List V}, DRs K L H ds vs → DRs K L H es us → DRs K L H (ds ++ es) (vs ++ us)
  | [], es, vs, us, h, g => by
    unfold DRs at h
    subst h
    exact g
  | d :: ds, es, vs, us, h, g => by
    unfold DRs at h
    obtain ⟨v, r, rfl, h1, h2⟩ := h
    have ih := DRs.app h2 g
    rw [List.cons_append]
    unfold DRs
    exact ⟨v, r ++ us, rfl, h1, ih⟩
theorem DRs.drop {L : Addr → Prop} : ∀ {ds : List D} {vs : List V} (n : Nat), DRs K L H ds vs → DRs K L H (ds.drop n) (vs.drop n)
  | ds, vs, 0, h => h
  | [], vs, n + 1, h => by
    unfold DRs at h
    subst h
    simp only [List.drop_nil]
    unfold DRs
    rfl
  | d :: ds, vs, n + 1, h => by
    unfold DRs at h
    obtain ⟨v, r, rfl, h1, h2⟩ := h
    exact DRs.drop n h2
theorem DRs.take {L : Addr → Prop} : ∀ {ds : List D} {vs : List V} (n : Nat), DRs K L H ds vs → DRs K L H (ds.take n) (vs.take n)
  | ds, vs, 0, h => by
    simp only [List.take_zero]
    unfold DRs
    rfl
  | [], vs, n + 1, h => by
    unfold DRs at h
    subst h
    simp only [List.take_nil]
    unfold DRs
    rfl
  | d :: ds, vs, n + 1, h => by
    unfold DRs at h
    obtain ⟨v, r, rfl, h1, h2⟩ := h
    simp only [List.take_succ_cons]
    unfold DRs
    exact ⟨v, r.take n, rfl, h1, DRs.take n h2⟩
theorem DRs.nil {L : Addr → Prop} : DRs K L H [] [] := by unfold DRs; rfl
theorem DRs.cons {L : Addr → Prop} {d : D} {ds : List D} {v : V} {vs : List V} (h : DR K L H d v) (r : DRs K L H ds vs) : DRs K L H (d :: ds) (v :: vs) := by
  unfold DRs
  exact ⟨v, vs, rfl, h, r⟩
theorem DR.non {L : Addr → Prop} : DR K L H .none .non := by unfold DR; rfl
theorem DR.bl {L : Addr → Prop} {b : Bool} : DR K L H (.bool b) (.bl b) := by unfold DR; rfl
theorem DR.int {L : Addr → Prop} {i : Int} : DR K L H (.int i) (.int i) := by unfold DR; rfl
theorem DR.str {L : Addr → Prop} {s : Str} : DR K L H (.str s) (.str s) := by unfold DR; rfl
theorem DR.non' {L : Addr → Prop} {v : V} (h : DR K L H .none v) : v = .non := by unfold DR at h; exact h
theorem DR.bl' {L : Addr → Prop} {b : Bool} {v : V} (h : DR K L H (.bool b) v) : v = .bl b := by unfold DR at h; exact h
theorem DR.int' {L : Addr → Prop} {i : Int} {v : V} (h : DR K L H (.int i) v) : v = .int i := by unfold DR at h; exact h
theorem DR.str' {L : Addr → Prop} {s : Str} {v : V} (h : DR K L H (.str s) v) : v = .str s := by unfold DR at h; exact h
theorem DR.tup' {L : Addr → Prop} {xs : List D} {v : V} (h : DR K L H (.tuple xs) v) : ∃ a vs, v = .ref a ∧ SqT K H a vs ∧ DRs K L H xs vs := by unfold DR at h; exact h
theorem DR.lst' {L : Addr → Prop} {xs : List D} {v : V} (h : DR K L H (.list xs) v) : ∃ a vs, v = .ref a ∧ H a = some (.lst vs) ∧ ¬ L a ∧ DRs K L H xs vs := by unfold DR at h; exact h
theorem DR.dic' {L : Addr → Prop} {ks : List (D × D)} {v : V} (h : DR K L H (.dict ks) v) : ∃ a kvs, v = .ref a ∧ H a = some (.dK kvs) ∧ ¬ L a ∧ DRk K L H ks kvs := by unfold DR at h; exact h
theorem DR.tup {L : Addr → Prop} {xs : List D} {a : Addr} {vs : List V} (h : SqT K H a vs) (r : DRs K L H xs vs) : DR K L H (.tuple xs) (.ref a) := by
  unfold DR
  exact ⟨a, vs, rfl, h, r⟩
theorem DR.lst {L : Addr → Prop} {xs : List D} {a : Addr} {vs : List V} (h : H a = some (.lst vs)) (n : ¬ L a) (r : DRs K L H xs vs) : DR K L H (.list xs) (.ref a) := by
  unfold DR
  exact ⟨a, vs, rfl, h, n, r⟩
theorem DR.dic {L : Addr → Prop} {ks : List (D × D)} {a : Addr} {kvs : List (Key × V)} (h : H a = some (.dK kvs)) (n : ¬ L a) (r : DRk K L H ks kvs) : DR K L H (.dict ks) (.ref a) := by
  unfold DR
  exact ⟨a, kvs, rfl, h, n, r⟩

/-! ### a new object that is nobody's -/
theorem Live.lt (S : Sim K J m ih H) {a : Addr} (h : Live m ih a) : H a ≠ none := by
  obtain ⟨o, e, _⟩ := S.live_mut h
  rw [e]
  intro z
  cases z
theorem Paired.mapR {α β : Type} {F G : α → β → Prop} : ∀ {l1 : List α} {l2 : List β}, Paired F l1 l2 → (∀ a b, F a b → G a b) → Paired G l1 l2
  | _, _, .nil, _ => .nil
  | _, _, .cons r t, f => .cons (f _ _ r) (Paired.mapR t f)
/-- the objects hold in a later heap, if theirs stand -/
theorem ObR.mono (S : Sim K J m ih H) (x : Xt m ih H m' ih' H') {a : Addr} {o : Ob} (h : ObR K J m ih H a o) (he : H' a = H a) : ObR K J m' ih' H' a o := by
  cases o with
  | dead => exact True.intro
  | lst ws =>
    obtain ⟨vs, e, r⟩ := h
    exact ⟨vs, he.trans e, Paired.mapR r fun _ _ q => q.mono S x⟩
  | dic ws =>
    obtain ⟨vs, e, r⟩ := h
    exact ⟨vs, he.trans e, Paired.mapR r fun _ _ q => ⟨q.1, q.2.mono S x⟩⟩
  | any n phi =>
    obtain ⟨o, e, mu, hn, q⟩ := h
    obtain ⟨t, rfl, _⟩ := x.pre
    exact ⟨o, he.trans e, mu, by rw [List.length_append]; omega, by rw [List.take_append_of_le_length hn]; exact q⟩
theorem Xt.new {p : Addr} {o : HO} (S : Sim K J m ih H) (hp : H p = none) : Xt m ih H m ih (upd H p o) :=
  ⟨⟨[], (List.append_nil m).symm, fun _ z => absurd z (by simp)⟩, fun a u e n => ⟨by rw [upd_ne (ne_of_none e hp)]; exact e, n⟩, fun a e => by
    by_cases h : a = p
    · rw [h]; exact hp
    · rwa [upd_ne h] at e⟩
theorem Sim.new {p : Addr} {o : HO} (S : Sim K J m ih H) (hp : H p = none) : Sim K J m ih (upd H p o) :=
  ⟨J.cl _ _ _ _ _ _ S.j (Xt.new S hp), S.len, S.nd, fun a h z => S.th a h ((Xt.new S hp).there a z), S.hd_mono (Xt.new S hp), fun i a u e1 e2 => by
    have q := S.ob i a u e1 e2
    cases hl : u.isLive with
    | true =>
      have l : Live m ih a := ⟨i, u, e1, e2, hl⟩
      exact q.mono S (Xt.new S hp) (upd_ne fun z => Live.lt S l (by rw [z]; exact hp))
    | false =>
      cases u with
      | dead => exact True.intro
      | lst _ => cases hl
      | dic _ => cases hl
      | any _ _ => cases hl⟩
theorem Sim.new_free {p : Addr} (S : Sim K J m ih H) (hp : H p = none) : ¬ Own J m ih p := fun l => l.elim (fun z => Live.lt S z hp) fun z => (S.hd p z).1 hp
end
end Pz

end
section
set_option Elab.async false
set_option linter.all false
set_option maxRecDepth 100000
set_option autoImplicit false
/-! Fw2: expressions. Each Python expression has its reading over data (AE); EV says that it is one. -/
namespace Pz
open PySem PySem.Spec L2

abbrev QW := W → IH → Prop
abbrev AE := En → IH → QW → Prop
abbrev AT := En → IH → (Bool → IH → Prop) → Prop
abbrev AA := En → IH → (List W → IH → Prop) → Prop

section
variable (K : PySem.W.Frag) (J : JT) (m : List Addr) (ih : IH) (H : Hp)
/-- what is wanted over data brings what is wanted over the heap, in all that may follow -/
def Fu (Qa : QW) (Q : VK) : Prop := ∀ m1 ih1 H1 w v, Sim K J m1 ih1 H1 → Xt m ih H m1 ih1 H1 → WR K J m1 ih1 H1 w v → Qa w ih1 → Q v H1
def FuB (Qa : Bool → IH → Prop) (Q : Bool → Hp → Prop) : Prop := ∀ m1 ih1 H1 b, Sim K J m1 ih1 H1 → Xt m ih H m1 ih1 H1 → Qa b ih1 → Q b H1
def FuA (Qa : List W → IH → Prop) (Q : List V → Hp → Prop) : Prop := ∀ m1 ih1 H1 ws vs, Sim K J m1 ih1 H1 → Xt m ih H m1 ih1 H1 → Paired (WR K J m1 ih1 H1) ws vs → Qa ws ih1 → Q vs H1
end
/-- some contexts that share their names, scope, module and room: a def's body, or the blocks of its comprehensions -/
structure Fam where
  ok : Cx → Prop
  N : List Str
  sc : Scope
  P : Program
  w : World
  K : PySem.W.Frag
  mg : Str → Option Value
  base : Heap
  k : Nat
  nd : N.Nodup
  hN : ∀ X, ok X → X.N = N
  hsc : ∀ X, ok X → X.env.scope = sc
  hP : ∀ X, ok X → X.prog = P
  hw : ∀ X, ok X → X.w = w
  hK : ∀ X, ok X → X.K = K
  hmg : ∀ X, ok X → X.mg = mg
  hbase : ∀ X, ok X → X.base = base
  calm : ∀ X, ok X → X.calm = true
  room : ∀ X, ok X → Room k X.A
  grd : ∀ X, ok X → X.A.guards = some []
  jk : JT → Prop
  jkc : ∀ J J', jk J → (∀ m ih H, J'.p m ih H → J.p m ih H) → jk J'
  po : ∀ X, ok X → PassesOwn (model X.prog X.w) X.A X.env X.xe
def RE (F : Fam) (t : TE) (ta : AE) : Prop := ∀ J, F.jk J → ∀ m ih H env σ Qa Q, Sim F.K J m ih H → EnvR F.K J m ih H env σ → ta env ih Qa → Fu F.K J m ih H Qa Q → t σ H Q
def RT (F : Fam) (t : TT) (ta : AT) : Prop := ∀ J, F.jk J → ∀ m ih H env σ Qa Q, Sim F.K J m ih H → EnvR F.K J m ih H env σ → ta env ih Qa → FuB F.K J m ih H Qa Q → t σ H Q
def RA (F : Fam) (t : TA) (ta : AA) : Prop := ∀ J, F.jk J → ∀ m ih H env σ Qa Q, Sim F.K J m ih H → EnvR F.K J m ih H env σ → ta env ih Qa → FuA F.K J m ih H Qa Q → t σ H Q
def Glb (F : Fam) (x : Str) : Prop := F.sc.names.lookup x = some .globalImplicit
theorem Fam.gl {F : Fam} {x : Str} {X : Cx} (hX : F.ok X) (h : Glb F x) : Gl X x := by
  show X.env.scope.names.lookup x = _
  rw [F.hsc X hX]
  exact h
theorem Fam.hu {F : Fam} {X : Cx} (hX : F.ok X) : X.A.units + 200 < cLine := by
  have := (F.room X hX).un
  omega
def EV (F : Fam) (e : Expr) (ta : AE) : Prop := ∃ t, (∀ X, F.ok X → PE X e t) ∧ RE F t ta
def TV (F : Fam) (e : Expr) (ta : AT) : Prop := ∃ t, (∀ X, F.ok X → PT X e t) ∧ RT F t ta
def WV (F : Fam) (e : Expr) (ta : AT) : Prop := ∃ t, (∀ X, F.ok X → PW X e t) ∧ RT F t ta
def AV (F : Fam) (es : List Expr) (ta : AA) : Prop := ∃ t, (∀ X, F.ok X → PA X es t) ∧ RA F t ta

section
variable {K : PySem.W.Frag} {J : JT} {m m1 : List Addr} {ih ih1 : IH} {H H1 : Hp}
theorem Fu.step {Qa : QW} {Q : VK} (x : Xt m ih H m1 ih1 H1) (f : Fu K J m ih H Qa Q) : Fu K J m1 ih1 H1 Qa Q := fun _ _ _ _ _ S y r q => f _ _ _ _ _ S (x.trans y) r q
theorem FuB.step {Qa : Bool → IH → Prop} {Q : Bool → Hp → Prop} (x : Xt m ih H m1 ih1 H1) (f : FuB K J m ih H Qa Q) : FuB K J m1 ih1 H1 Qa Q := fun _ _ _ _ S y q => f _ _ _ _ S (x.trans y) q
theorem FuA.step {Qa : List W → IH → Prop} {Q : List V → Hp → Prop} (x : Xt m ih H m1 ih1 H1) (f : FuA K J m ih H Qa Q) : FuA K J m1 ih1 H1 Qa Q := fun _ _ _ _ _ S y r q => f _ _ _ _ _ S (x.trans y) r q
theorem Fu.now {Qa : QW} {Q : VK} {w : W} {v : V} (f : Fu K J m ih H Qa Q) (S : Sim K J m ih H) (r : WR K J m ih H w v) (q : Qa w ih) : Q v H := f m ih H w v S Xt.refl r q
theorem FuB.now {Qa : Bool → IH → Prop} {Q : Bool → Hp → Prop} {b : Bool} (f : FuB K J m ih H Qa Q) (S : Sim K J m ih H) (q : Qa b ih) : Q b H := f m ih H b S Xt.refl q
/-- a new object that nobody changes -/
theorem Fu.new {Qa : QW} {Q : VK} {w : W} {v : V} {p : Addr} {o : HO} (f : Fu K J m ih H Qa Q) (S : Sim K J m ih H) (hp : H p = none) (r : WR K J m ih (upd H p o) w v) (q : Qa w ih) : Q v (upd H p o) :=
  f m ih (upd H p o) w v (S.new hp) (Xt.new S hp) r q
end

section
variable {K : PySem.W.Frag} {J : JT} {m : List Addr} {ih : IH} {H : Hp} {v : V}
theorem WR.non' (h : WR K J m ih H (.d .none) v) : v = .non := DR.non' (L := Own J m ih) (K := K) (H := H) h
theorem WR.bl' {b : Bool} (h : WR K J m ih H (.d (.bool b)) v) : v = .bl b := DR.bl' (L := Own J m ih) (K := K) (H := H) h
theorem WR.int' {i : Int} (h : WR K J m ih H (.d (.int i)) v) : v = .int i := DR.int' (L := Own J m ih) (K := K) (H := H) h
theorem WR.str' {x : Str} (h : WR K J m ih H (.d (.str x)) v) : v = .str x := DR.str' (L := Own J m ih) (K := K) (H := H) h
theorem WR.tup' {xs : List D} (h : WR K J m ih H (.d (.tuple xs)) v) : ∃ a vs, v = .ref a ∧ SqT K H a vs ∧ DRs K (Own J m ih) H xs vs := DR.tup' (L := Own J m ih) h
theorem WR.lst' {xs : List D} (h : WR K J m ih H (.d (.list xs)) v) : ∃ a vs, v = .ref a ∧ H a = some (.lst vs) ∧ ¬ Own J m ih a ∧ DRs K (Own J m ih) H xs vs := DR.lst' (L := Own J m ih) h
theorem WR.non : WR K J m ih H (.d .none) .non := DR.non (L := Own J m ih) (K := K) (H := H)
theorem WR.bl {b : Bool} : WR K J m ih H (.d (.bool b)) (.bl b) := DR.bl (L := Own J m ih) (K := K) (H := H)
theorem WR.int {i : Int} : WR K J m ih H (.d (.int i)) (.int i) := DR.int (L := Own J m ih) (K := K) (H := H)
theorem WR.str {x : Str} : WR K J m ih H (.d (.str x)) (.str x) := DR.str (L := Own J m ih) (K := K) (H := H)
end

section
variable {K : PySem.W.Frag} {J : JT} {m : List Addr} {ih : IH} {H : Hp} {Qa : QW} {Q : VK} {p : Addr} {ds : List D} {vs : List V}
theorem Fu.tup (f : Fu K J m ih H Qa Q) (S : Sim K J m ih H) (hp : H p = none) (d : DRs K (Own J m ih) H ds vs) (q : Qa (.d (.tuple ds)) ih) : Q (.ref p) (upd H p (.tup vs)) :=
  f.new S hp (w := .d (.tuple ds)) (show DR K (Own J m ih) (upd H p (.tup vs)) (.tuple ds) (.ref p) from DR.tup (SqT.of upd_same) (DRs.mono S (Xt.new S hp) ds vs d)) q
theorem Fu.lst (f : Fu K J m ih H Qa Q) (S : Sim K J m ih H) (hp : H p = none) (d : DRs K (Own J m ih) H ds vs) (q : Qa (.d (.list ds)) ih) : Q (.ref p) (upd H p (.lst vs)) :=
  f.new S hp (w := .d (.list ds)) (show DR K (Own J m ih) (upd H p (.lst vs)) (.list ds) (.ref p) from DR.lst upd_same (S.new_free hp) (DRs.mono S (Xt.new S hp) ds vs d)) q
end

/-! ### names, constants -/
def optW {α : Type} : Option α → (α → Prop) → Prop
  | some a, k => k a
  | none, _ => False
def aVar (i : Nat) : AE := fun env ih Q => optW (env[i]?.join) fun w => Q w ih
def aC (x : D) : AE := fun _ ih Q => Q (.d x) ih
section
variable {F : Fam} {pos : Pos} {e a b c : Expr} {es : List Expr}
theorem join_some {env : En} {i : Nat} {w : W} (h : env[i]?.join = some w) : env[i]? = some (some w) := by
  cases q : env[i]? with
  | none => rw [q] at h; cases h
  | some o =>
    rw [q] at h
    cases o with
    | none => cases h
    | some u => cases h; rfl
theorem re_var  (i : Nat) : RE F (tVar i) (aVar i) := fun J jk m ih H env σ Qa Q S E h f => by
  unfold aVar at h
  cases q : env[i]?.join with
  | none => rw [q] at h; exact h.elim
  | some w =>
    rw [q] at h
    obtain ⟨v, e1, r⟩ := E.at_ i w (join_some q)
    exact ⟨v, e1, f.now S r h⟩
theorem ev_var (i : Nat) {x : Str} (hN : F.N[i]? = some x := by rfl) (hv : Vis F.sc x := by first | exact Or.inl rfl | exact Or.inr (Or.inl rfl) | exact Or.inr (Or.inr rfl)) (hd : (x == ("__debug__" : Str)) = false := by decide)
    (hcd : (x == ("__classdict__" : Str)) = false := by decide) : EV F (.Name x pos) (aVar i) := ⟨_, fun X hX => pe_var (by rw [F.hN X hX]; exact hN) (by rw [F.hsc X hX]; exact hv) hd hcd, re_var i⟩
theorem re_c  {x : D} {v : V} (h : ∀ L H, DR F.K L H x v) : RE F (tC v) (aC x) := fun J jk m ih H env σ Qa Q S E hq f => f.now (w := .d x) S (h _ _) hq
theorem ev_int {i : Int} {j} : EV F (.Constant (.int i) j pos) (aC (.int i)) := ⟨_, fun _ _ => pe_int, re_c fun _ _ => DR.int⟩
theorem ev_bl {i : Bool} {j} : EV F (.Constant (.bool i) j pos) (aC (.bool i)) := ⟨_, fun _ _ => pe_bl, re_c fun _ _ => DR.bl⟩
theorem ev_non {j} : EV F (.Constant .none j pos) (aC .none) := ⟨_, fun _ _ => pe_non, re_c fun _ _ => DR.non⟩
theorem ev_str {x : Str} {j} : EV F (.Constant (.str x) j pos) (aC (.str x)) := ⟨_, fun _ _ => pe_str, re_c fun _ _ => DR.str⟩
/-- a constant of the module -/
theorem ev_glob {x : Str} {v : V} {u : Value} {dt : D} (hg : Glb F x) (hm : F.mg x = some u) (r : RelV v u) (hd : ∀ L H, DR F.K L H dt v) (hdb : (x == ("__debug__" : Str)) = false := by decide) : EV F (.Name x pos) (aC dt) :=
  ⟨_, fun X hX => pe_glob (Fam.gl hX hg) (by rw [F.hmg X hX]; exact hm) r hdb, re_c hd⟩

/-! ### lists of expressions; tuples and lists displayed -/
def aNil : AA := fun _ ih Q => Q [] ih
def aCons (ta : AE) (tr : AA) : AA := fun env ih Q => ta env ih fun x ih1 => tr env ih1 fun xs ih2 => Q (x :: xs) ih2
theorem av_nil : AV F [] aNil := ⟨_, fun _ _ => pa_nil, fun J jk m ih H env σ Qa Q S E h f => f m ih H [] [] S Xt.refl .nil h⟩
theorem ra_cons  {t : TE} {u : TA} {ta : AE} {tr : AA} (h1 : RE F t ta) (h2 : RA F u tr) : RA F (tCons t u) (aCons ta tr) := fun J jk m ih H env σ Qa Q S E h f => by
  refine h1 J jk m ih H env σ _ _ S E h fun m1 ih1 H1 w v S1 x1 r1 q1 => ?_
  refine h2 J jk m1 ih1 H1 env σ _ _ S1 (E.mono S x1) q1 fun m2 ih2 H2 ws vs S2 x2 r2 q2 => ?_
  exact f m2 ih2 H2 _ _ S2 (x1.trans x2) (.cons (r1.mono S1 x2) r2) q2
theorem av_cons {ta : AE} {tr : AA} (h1 : EV F e ta) (h2 : AV F es tr) (hs : ∀ env, starEach (e :: es) env = (false, eval e env) :: starEach es env := by intro _; rfl) : AV F (e :: es) (aCons ta tr) := by
  obtain ⟨t, p, r⟩ := h1
  obtain ⟨u, p2, r2⟩ := h2
  exact ⟨_, fun X hX => pa_cons (p X hX) (p2 X hX) (hs _), ra_cons r r2⟩

/-- all of some values are data -/
def allD : List W → Option (List D)
  | [] => some []
  | .d x :: r => (allD r).map (x :: ·)
  | _ :: _ => none
theorem allD_eq : ∀ {ws : List W} {ds : List D}, allD ws = some ds → ws = ds.map W.d
  | [], ds, h => by
    unfold allD at h
    cases h
    rfl
  | .d x :: r, ds, h => by
    unfold allD at h
    cases q : allD r with
    | none => rw [q] at h; cases h
    | some es =>
      rw [q] at h
      cases h
      rw [allD_eq q, List.map_cons]
  | .ref n :: r, ds, h => by unfold allD at h; cases h
  | .scr n :: r, ds, h => by unfold allD at h; cases h
theorem allD_map : ∀ ds : List D, allD (ds.map W.d) = some ds
  | [] => rfl
  | x :: r => by
    show (allD (r.map W.d)).map (x :: ·) = some (x :: r)
    rw [allD_map r] <;> rfl
theorem drs_of {K : PySem.W.Frag} {J : JT} {m : List Addr} {ih : IH} {H : Hp} : ∀ {ds : List D} {vs : List V}, Paired (WR K J m ih H) (ds.map W.d) vs → DRs K (Own J m ih) H ds vs
  | [], vs, h => by
    cases h
    exact DRs.nil
  | x :: r, vs, h => by
    cases h with
    | cons h1 h2 => exact DRs.cons h1 (drs_of h2)
theorem of_drs {K : PySem.W.Frag} {J : JT} {m : List Addr} {ih : IH} {H : Hp} : ∀ {ds : List D} {vs : List V}, DRs K (Own J m ih) H ds vs → Paired (WR K J m ih H) (ds.map W.d) vs
  | [], vs, h => by
    unfold DRs at h
    subst h
    exact .nil
  | x :: r, vs, h => by
    unfold DRs at h
    obtain ⟨v, s, rfl, h1, h2⟩ := h
    exact .cons h1 (of_drs h2)

def aTup (ta : AA) : AE := fun env ih Q => ta env ih fun ws ih1 => optW (allD ws) fun ds => ds.length ≤ sizeLine ∧ Q (.d (.tuple ds)) ih1
def aLst (ta : AA) : AE := fun env ih Q => ta env ih fun ws ih1 => optW (allD ws) fun ds => ds.length ≤ sizeLine ∧ Q (.d (.list ds)) ih1
theorem optW_some {α : Type} {o : Option α} {k : α → Prop} (h : optW o k) : ∃ a, o = some a ∧ k a := by
  cases o with
  | none => exact h.elim
  | some a => exact ⟨a, rfl, h⟩
theorem ev_tup {ta : AA} {x1} (h : AV F es ta) : EV F (.Tuple es x1 pos) (aTup ta) := by
  obtain ⟨t, p, r⟩ := h
  refine ⟨_, fun X hX => pe_tup (p X hX), fun J jk m ih H env σ Qa Q S E hq f => ?_⟩
  refine r J jk m ih H env σ _ _ S E hq fun m1 ih1 H1 ws vs S1 y1 rr q1 => ?_
  obtain ⟨ds, e1, hz, q⟩ := optW_some q1
  have e2 := allD_eq e1
  subst e2
  have hd := drs_of rr
  refine ⟨by rw [hd.len]; exact hz, fun p hp => ?_⟩
  refine (f.step y1).new S1 hp (w := .d (.tuple ds)) (DR.tup (SqT.of upd_same) ?_) q
  exact DRs.mono S1 (Xt.new S1 hp) ds vs hd
theorem ev_lst {ta : AA} (h : AV F es ta) : EV F (.List es pos) (aLst ta) := by
  obtain ⟨t, p, r⟩ := h
  refine ⟨_, fun X hX => pe_lst (p X hX), fun J jk m ih H env σ Qa Q S E hq f => ?_⟩
  refine r J jk m ih H env σ _ _ S E hq fun m1 ih1 H1 ws vs S1 y1 rr q1 => ?_
  obtain ⟨ds, e1, hz, q⟩ := optW_some q1
  have e2 := allD_eq e1
  subst e2
  have hd := drs_of rr
  refine ⟨by rw [hd.len]; exact hz, fun p hp => ?_⟩
  refine (f.step y1).new S1 hp (w := .d (.list ds)) (DR.lst upd_same (S1.new_free hp) ?_) q
  exact DRs.mono S1 (Xt.new S1 hp) ds vs hd

/-- a new mutable object comes -/
theorem Sim.notIn {K : PySem.W.Frag} {J : JT} {m : List Addr} {ih : IH} {H : Hp} {p : Addr} (S : Sim K J m ih H) (hp : H p = none) : p ∉ m := fun h => S.th p h hp
theorem live_add {m : List Addr} {ih : IH} {p a : Addr} {u : Ob} (hl : m.length = ih.length) (h : Live (m ++ [p]) (ih ++ [u]) a) : Live m ih a ∨ a = p := by
  obtain ⟨i, o, e1, e2, e3⟩ := h
  by_cases hi : i < m.length
  · rw [List.getElem?_append_left hi] at e1
    rw [List.getElem?_append_left (by omega)] at e2
    exact .inl ⟨i, o, e1, e2, e3⟩
  · rw [List.getElem?_append_right (by omega)] at e1
    have h0 : i - m.length = 0 := by
      have := (List.getElem?_eq_some_iff.mp e1).1
      simp at this
      omega
    rw [h0] at e1
    exact .inr (Option.some.inj e1).symm
theorem Xt.add {K : PySem.W.Frag} {J : JT} {m : List Addr} {ih : IH} {H : Hp} {p : Addr} {o : HO} {u : Ob} (S : Sim K J m ih H) (hp : H p = none) : Xt m ih H (m ++ [p]) (ih ++ [u]) (upd H p o) :=
  ⟨⟨[p], rfl, fun a h => by rw [List.mem_singleton.mp h]; exact hp⟩, fun a v e n => ⟨by rw [upd_ne (ne_of_none e hp)]; exact e, fun l => (live_add S.len l).elim n (ne_of_none e hp)⟩, (Xt.new (o := o) S hp).there⟩
theorem Sim.add {K : PySem.W.Frag} {J : JT} {m : List Addr} {ih : IH} {H : Hp} {p : Addr} {o : HO} {u : Ob} (S : Sim K J m ih H) (hp : H p = none)
    (hu : ObR K J (m ++ [p]) (ih ++ [u]) (upd H p o) p u) : Sim K J (m ++ [p]) (ih ++ [u]) (upd H p o) := by
  have x : Xt m ih H (m ++ [p]) (ih ++ [u]) (upd H p o) := Xt.add S hp
  refine ⟨J.cl _ _ _ _ _ _ S.j x, by rw [List.length_append, List.length_append, S.len]; rfl, ?_, fun a h z => ?_, S.hd_mono x, fun i a v e1 e2 => ?_⟩
  · refine List.nodup_append.mpr ⟨S.nd, by simp, fun a ha b hb => ?_⟩
    have e : b = p := by simpa using hb
    subst e
    intro z
    subst z
    exact S.notIn hp ha
  · rcases List.mem_append.mp h with h | h
    · exact S.th a h (x.there a z)
    · have e : a = p := by simpa using h
      subst e
      rw [upd_same] at z
      cases z
  · by_cases hi : i < m.length
    · rw [List.getElem?_append_left hi] at e1
      rw [List.getElem?_append_left (by rw [← S.len]; exact hi)] at e2
      exact (S.ob i a v e1 e2).mono S x (upd_ne fun z => S.th a (List.mem_of_getElem? e1) (by rw [z]; exact hp))
    · rw [List.getElem?_append_right (by omega)] at e1
      rw [List.getElem?_append_right (by rw [← S.len]; omega)] at e2
      have h0 : i - m.length = 0 := by
        have := (List.getElem?_eq_some_iff.mp e1).1
        simp at this
        omega
      rw [h0] at e1
      rw [← S.len, h0] at e2
      have e3 : p = a := Option.some.inj e1
      have e4 : u = v := Option.some.inj e2
      subst e3 e4
      exact hu
theorem paired_mono {K : PySem.W.Frag} {J : JT} {m m1 : List Addr} {ih ih1 : IH} {H H1 : Hp} {ws : List W} {vs : List V} (S : Sim K J m ih H) (x : Xt m ih H m1 ih1 H1) (h : Paired (WR K J m ih H) ws vs) : Paired (WR K J m1 ih1 H1) ws vs :=
  Paired.mapR h fun _ _ q => q.mono S x
theorem ref_last {K : PySem.W.Frag} {J : JT} {m : List Addr} {ih ih1 : IH} {H H1 : Hp} {p : Addr} (S : Sim K J m ih H) : WR K J (m ++ [p]) ih1 H1 (.ref ih.length) (.ref p) :=
  ⟨p, by rw [← S.len, List.getElem?_append_right (Nat.le_refl _), Nat.sub_self]; rfl, rfl⟩
/-- a list display that will be changed -/
def aLstM (ta : AA) : AE := fun env ih Q => ta env ih fun ws ih1 => ws.length ≤ sizeLine ∧ Q (.ref ih1.length) (ih1 ++ [.lst ws])
theorem Paired.len2 {α β : Type} {F : α → β → Prop} : ∀ {xs : List α} {ys : List β}, Paired F xs ys → ys.length = xs.length
  | _, _, .nil => rfl
  | _, _, .cons _ t => by rw [List.length_cons, List.length_cons, Paired.len2 t]
theorem ev_lstM {ta : AA} (h : AV F es ta) : EV F (.List es pos) (aLstM ta) := by
  obtain ⟨t, p, r⟩ := h
  refine ⟨_, fun X hX => pe_lst (p X hX), fun J jk m ih H env σ Qa Q S E hq f => ?_⟩
  refine r J jk m ih H env σ _ _ S E hq fun m1 ih1 H1 ws vs S1 y1 rr q1 => ?_
  refine ⟨by rw [Paired.len2 rr]; exact q1.1, fun p hp => ?_⟩
  have y2 : Xt m1 ih1 H1 (m1 ++ [p]) (ih1 ++ [.lst ws]) (upd H1 p (.lst vs)) := Xt.add S1 hp
  exact f _ _ _ _ _ (S1.add (u := .lst ws) hp ⟨vs, upd_same, paired_mono S1 y2 rr⟩) (y1.trans y2) (ref_last S1) q1.2
end
end Pz

end
section
set_option Elab.async false
set_option linter.all false
set_option maxRecDepth 100000
set_option autoImplicit false
/-! Fw3: operators, comparisons, tests. -/
namespace Pz
open PySem PySem.Spec L2

abbrev AR2 := W → W → IH → QW → Prop
abbrev AR1 := W → IH → QW → Prop
abbrev ARC := List W → IH → QW → Prop
def RR2 (K : PySem.W.Frag) (r : R2) (ra : AR2) : Prop := ∀ J m ih H x y vx vy Qa Q, Sim K J m ih H → WR K J m ih H x vx → WR K J m ih H y vy → ra x y ih Qa → Fu K J m ih H Qa Q → r vx vy H Q
def RR1 (K : PySem.W.Frag) (r : V → Hp → VK → Prop) (ra : AR1) : Prop := ∀ J m ih H x vx Qa Q, Sim K J m ih H → WR K J m ih H x vx → ra x ih Qa → Fu K J m ih H Qa Q → r vx H Q
def RRC (K : PySem.W.Frag) (r : List V → Hp → VK → Prop) (ra : ARC) : Prop := ∀ J m ih H ws vs Qa Q, Sim K J m ih H → Paired (WR K J m ih H) ws vs → ra ws ih Qa → Fu K J m ih H Qa Q → r vs H Q
/-- an operator of the model with its meaning over data -/
def OV (F : Fam) (f : Value → Value → Sem Value) (ra : AR2) : Prop := ∃ r, (∀ X, F.ok X → OpR X f r) ∧ RR2 F.K r ra
def UV (F : Fam) (f : Value → Sem Value) (ra : AR1) : Prop := ∃ r, (∀ X, F.ok X → UnR X f r) ∧ RR1 F.K r ra
def CV (F : Fam) (f : Value) (ra : ARC) : Prop := ∃ r, (∀ X, F.ok X → CallR X f r) ∧ RRC F.K r ra
def aOp (ra : AR2) (ta tb : AE) : AE := fun env ih Q => ta env ih fun x ih1 => tb env ih1 fun y ih2 => ra x y ih2 Q
def aUn (ra : AR1) (ta : AE) : AE := fun env ih Q => ta env ih fun x ih1 => ra x ih1 Q
def aCB (ra : ARC) (ta : AA) : AE := fun env ih Q => ta env ih fun ws ih1 => ra ws ih1 Q

theorem re_op {F : Fam} {r : R2} {ra : AR2} {ta tb : TE} {aa ab : AE} (hr : RR2 F.K r ra) (h1 : RE F ta aa) (h2 : RE F tb ab) : RE F (tOp r ta tb) (aOp ra aa ab) := fun J jk m ih H env σ Qa Q S E h f => by
  refine h1 J jk m ih H env σ _ _ S E h fun m1 ih1 H1 w v S1 x1 r1 q1 => ?_
  refine h2 J jk m1 ih1 H1 env σ _ _ S1 (E.mono S x1) q1 fun m2 ih2 H2 u z S2 x2 r2 q2 => ?_
  exact hr J m2 ih2 H2 w u v z Qa Q S2 (r1.mono S1 x2) r2 q2 (f.step (x1.trans x2))
section
variable {F : Fam} {pos : Pos} {e a b c : Expr} {es : List Expr} {aa ab ac : AE}
theorem ev_op {op : Operator} {ra : AR2} (ho : OV F (binaryOp op) ra) (h1 : EV F a aa) (h2 : EV F b ab) : EV F (.BinOp a op b pos) (aOp ra aa ab) := by
  obtain ⟨r, p, q⟩ := ho
  obtain ⟨t1, p1, q1⟩ := h1
  obtain ⟨t2, p2, q2⟩ := h2
  exact ⟨_, fun X hX => pe_op (p X hX) (p1 X hX) (p2 X hX), re_op q q1 q2⟩
theorem ev_cmp {op : CmpOp} {ra : AR2} (ho : OV F (compareOp op) ra) (h1 : EV F a aa) (h2 : EV F b ab) (hm : behindInMarks op b = false := by first | exact nomark _ | rfl) : EV F (.Compare a [op] [b] pos) (aOp ra aa ab) := by
  obtain ⟨r, p, q⟩ := ho
  obtain ⟨t1, p1, q1⟩ := h1
  obtain ⟨t2, p2, q2⟩ := h2
  exact ⟨_, fun X hX => pe_cmpR (p X hX) (p1 X hX) (p2 X hX) hm, re_op q q1 q2⟩
theorem ev_un {op : UnaryOp} {ra : AR1} (ho : UV F (unaryOp op) ra) (h1 : EV F a aa) : EV F (.UnaryOp op a pos) (aUn ra aa) := by
  obtain ⟨r, p, q⟩ := ho
  obtain ⟨t1, p1, q1⟩ := h1
  refine ⟨_, fun X hX => pe_un (p X hX) (p1 X hX), fun J jk m ih H env σ Qa Q S E h f => ?_⟩
  refine q1 J jk m ih H env σ _ _ S E h fun m1 ih1 H1 w v S1 x1 r1 h1 => ?_
  exact q J m1 ih1 H1 w v Qa Q S1 r1 h1 (f.step x1)
/-- a built-in function, a built-in class -/
theorem re_cb  {r : List V → Hp → VK → Prop} {ra : ARC} {t : TA} {ta : AA} (hr : RRC F.K r ra) (h1 : RA F t ta) : RE F (tCB r t) (aCB ra ta) := fun J jk m ih H env σ Qa Q S E h f =>
  h1 J jk m ih H env σ _ _ S E h fun m1 ih1 H1 ws vs S1 x1 r1 q1 => hr J m1 ih1 H1 ws vs Qa Q S1 r1 q1 (f.step x1)
theorem ev_callB {x : Str} {id : String} {p : Pos} {ra : ARC} {ta : AA} (hc : CV F (.builtin id) ra) (hg : Glb F x) (hm : F.mg x = none) (hv : bootBuiltins x = some (.builtin id)) (ha : AV F (e :: es) ta) (hn : x ≠ "__name__" := by decide) (hdb : (x == ("__debug__" : Str)) = false := by decide)
    (he : ∀ env, starEach (e :: es) env = (false, eval e env) :: starEach es env := by intro _; rfl) (hpl : ∀ env, (backTo pos (starEach es env)).any (·.1) = false := by intro _; rfl) : EV F (.Call (.Name x p) (e :: es) [] pos) (aCB ra ta) := by
  obtain ⟨r, p1, q⟩ := hc
  obtain ⟨t, p2, q2⟩ := ha
  exact ⟨_, fun X hX => pe_callB (p1 X hX) (Fam.gl hX hg) (by rw [F.hmg X hX]; exact hm) hv (p2 X hX) hn hdb (he _) (hpl _), re_cb q q2⟩
theorem ev_callT {x : Str} {T : String} {p : Pos} {ra : ARC} {ta : AA} (hc : CV F (.type T) ra) (hg : Glb F x) (hm : F.mg x = none) (hv : bootBuiltins x = some (.type T)) (ha : AV F (e :: es) ta) (hn : x ≠ "__name__" := by decide) (hdb : (x == ("__debug__" : Str)) = false := by decide)
    (he : ∀ env, starEach (e :: es) env = (false, eval e env) :: starEach es env := by intro _; rfl) (hpl : ∀ env, (backTo pos (starEach es env)).any (·.1) = false := by intro _; rfl) : EV F (.Call (.Name x p) (e :: es) [] pos) (aCB ra ta) := by
  obtain ⟨r, p1, q⟩ := hc
  obtain ⟨t, p2, q2⟩ := ha
  exact ⟨_, fun X hX => pe_callTy (p1 X hX) (Fam.gl hX hg) (by rw [F.hmg X hX]; exact hm) hv (p2 X hX) hn hdb (he _) (hpl _), re_cb q q2⟩
/-- a module's name for a built-in function -/
theorem ev_callM {x : Str} {id : String} {p : Pos} {ra : ARC} {ta : AA} (hc : CV F (.builtin id) ra) (hg : Glb F x) (hm : F.mg x = some (.builtin id)) (ha : AV F (e :: es) ta) (hdb : (x == ("__debug__" : Str)) = false := by decide)
    (he : ∀ env, starEach (e :: es) env = (false, eval e env) :: starEach es env := by intro _; rfl) (hpl : ∀ env, (backTo pos (starEach es env)).any (·.1) = false := by intro _; rfl) : EV F (.Call (.Name x p) (e :: es) [] pos) (aCB ra ta) := by
  obtain ⟨r, p1, q⟩ := hc
  obtain ⟨t, p2, q2⟩ := ha
  exact ⟨_, fun X hX => pe_callBfun (p1 X hX) (Fam.gl hX hg) (by rw [F.hmg X hX]; exact hm) (p2 X hX) hdb (he _) (hpl _), re_cb q q2⟩

/-! ### tests -/
def aTst (ta : AE) : AT := fun env ih Q => ta env ih fun x ih1 => match x with
  | .d (.bool b) => Q b ih1
  | _ => False
theorem rt_tst  {t : TE} (h1 : RE F t aa) : RT F (tB t) (aTst aa) := fun J jk m ih H env σ Qa Q S E h f => by
  refine h1 J jk m ih H env σ _ _ S E h fun m1 ih1 H1 w v S1 x1 r1 q1 => ?_
  split at q1
  · exact ⟨_, WR.bl' r1, f m1 ih1 H1 _ S1 x1 q1⟩
  · exact q1.elim
theorem rt_tst2  {t : TE} (h1 : RE F t aa) : RT F (tTest t) (aTst aa) := rt_tst h1
theorem tv_val (h : EV F e aa) (he : ∀ env whole, isTrue e env whole = (do let v ← whole; standAt e.pos; holding [v] (truthy v)) := by intro _ _; rfl) : TV F e (aTst aa) := by
  obtain ⟨t, p, q⟩ := h
  exact ⟨_, fun X hX => pt_val (p X hX) (he _), rt_tst q⟩
theorem tv_cmp {op : CmpOp} {ra : AR2} (ho : OV F (compareOp op) ra) (h1 : EV F a aa) (h2 : EV F b ab) (hm : behindInMarks op b = false := by first | exact nomark _ | rfl) : TV F (.Compare a [op] [b] pos) (aTst (aOp ra aa ab)) := by
  obtain ⟨r, p, q⟩ := ho
  obtain ⟨t1, p1, q1⟩ := h1
  obtain ⟨t2, p2, q2⟩ := h2
  exact ⟨_, fun X hX => pt_cmpR (p X hX) (p1 X hX) (p2 X hX) hm, rt_tst2 (re_op q q1 q2)⟩
def aChain (ra rb : AR2) (ta tb tc : AE) : AE := fun env ih Q => ta env ih fun x ih1 => tb env ih1 fun y ih2 => ra x y ih2 fun z ih3 => match z with
  | .d (.bool true) => tc env ih3 fun u ih4 => rb y u ih4 Q
  | .d (.bool false) => Q (.d (.bool false)) ih3
  | _ => False
theorem re_chain  {r s : R2} {ra rb : AR2} {ta tb tc : TE} (hr : RR2 F.K r ra) (hs : RR2 F.K s rb) (h1 : RE F ta aa) (h2 : RE F tb ab) (h3 : RE F tc ac) : RE F (tChain r s ta tb tc) (aChain ra rb aa ab ac) := fun J jk m ih H env σ Qa Q S E h f => by
  refine h1 J jk m ih H env σ _ _ S E h fun m1 ih1 H1 w v S1 x1 r1 q1 => ?_
  refine h2 J jk m1 ih1 H1 env σ _ _ S1 (E.mono S x1) q1 fun m2 ih2 H2 u z S2 x2 r2 q2 => ?_
  refine hr J m2 ih2 H2 w u v z _ _ S2 (r1.mono S1 x2) r2 q2 fun m3 ih3 H3 k kv S3 x3 r3 q3 => ?_
  have x12 := (x1.trans x2).trans x3
  split at q3
  · refine ⟨true, WR.bl' r3, ?_⟩
    rw [if_pos rfl]
    refine h3 J jk m3 ih3 H3 env σ _ _ S3 (E.mono S x12) q3 fun m4 ih4 H4 y yv S4 x4 r4 q4 => ?_
    exact hs J m4 ih4 H4 u y z yv Qa Q S4 ((r2.mono S2 x3).mono S3 x4) r4 q4 (f.step (x12.trans x4))
  · refine ⟨false, WR.bl' r3, ?_⟩
    rw [if_neg Bool.false_ne_true]
    exact f m3 ih3 H3 (.d (.bool false)) _ S3 x12 WR.bl q3
  · exact q3.elim
theorem ev_chain {op op2 : CmpOp} {ra rb : AR2} (ho : OV F (compareOp op) ra) (ho2 : OV F (compareOp op2) rb) (h1 : EV F a aa) (h2 : EV F b ab) (h3 : EV F c ac)
    (hm : lastMarks [op, op2] [b, c] = false := by with_unfolding_all rfl) : EV F (.Compare a [op, op2] [b, c] pos) (aChain ra rb aa ab ac) := by
  obtain ⟨r, p, q⟩ := ho
  obtain ⟨s, p', q'⟩ := ho2
  obtain ⟨t1, p1, q1⟩ := h1
  obtain ⟨t2, p2, q2⟩ := h2
  obtain ⟨t3, p3, q3⟩ := h3
  exact ⟨_, fun X hX => pe_chain (p X hX) (p' X hX) (p1 X hX) (p2 X hX) (p3 X hX) hm, re_chain q q' q1 q2 q3⟩
theorem tv_chain {op op2 : CmpOp} {ra rb : AR2} (ho : OV F (compareOp op) ra) (ho2 : OV F (compareOp op2) rb) (h1 : EV F a aa) (h2 : EV F b ab) (h3 : EV F c ac)
    (hm : lastMarks [op, op2] [b, c] = false := by with_unfolding_all rfl) : TV F (.Compare a [op, op2] [b, c] pos) (aTst (aChain ra rb aa ab ac)) := by
  obtain ⟨r, p, q⟩ := ho
  obtain ⟨s, p', q'⟩ := ho2
  obtain ⟨t1, p1, q1⟩ := h1
  obtain ⟨t2, p2, q2⟩ := h2
  obtain ⟨t3, p3, q3⟩ := h3
  exact ⟨_, fun X hX => pt_chain (p X hX) (p' X hX) (p1 X hX) (p2 X hX) (p3 X hX) hm, rt_tst2 (re_chain q q' q1 q2 q3)⟩
/-- and, or, not: tests -/
def aAnd (t u : AT) : AT := fun env ih Q => t env ih fun k ih1 => if k = true then u env ih1 Q else Q false ih1
def aOr (t u : AT) : AT := fun env ih Q => t env ih fun k ih1 => if k = true then Q true ih1 else u env ih1 Q
def aNot (t : AT) : AT := fun env ih Q => t env ih fun k ih1 => Q (!k) ih1
theorem rt_and  {t u : TT} {ta ua : AT} (h1 : RT F t ta) (h2 : RT F u ua) : RT F (tAnd t u) (aAnd ta ua) := fun J jk m ih H env σ Qa Q S E h f => by
  refine h1 J jk m ih H env σ _ _ S E h fun m1 ih1 H1 k S1 x1 q1 => ?_
  cases k with
  | true =>
    rw [if_pos rfl] at q1 ⊢
    exact h2 J jk m1 ih1 H1 env σ _ _ S1 (E.mono S x1) q1 (f.step x1)
  | false =>
    rw [if_neg Bool.false_ne_true] at q1 ⊢
    exact f m1 ih1 H1 _ S1 x1 q1
theorem rt_or  {t u : TT} {ta ua : AT} (h1 : RT F t ta) (h2 : RT F u ua) : RT F (tOr t u) (aOr ta ua) := fun J jk m ih H env σ Qa Q S E h f => by
  refine h1 J jk m ih H env σ _ _ S E h fun m1 ih1 H1 k S1 x1 q1 => ?_
  cases k with
  | false =>
    rw [if_neg Bool.false_ne_true] at q1 ⊢
    exact h2 J jk m1 ih1 H1 env σ _ _ S1 (E.mono S x1) q1 (f.step x1)
  | true =>
    rw [if_pos rfl] at q1 ⊢
    exact f m1 ih1 H1 _ S1 x1 q1
variable {rest : List Expr} {ta tb : AT}
theorem wv_and1 (h : TV F a ta) : WV F (.BoolOp .And [a] pos) ta := let ⟨_, p, q⟩ := h; ⟨_, fun X hX => pw_and1 (p X hX), q⟩
theorem wv_or1 (h : TV F a ta) : WV F (.BoolOp .Or [a] pos) ta := let ⟨_, p, q⟩ := h; ⟨_, fun X hX => pw_or1 (p X hX), q⟩
theorem wv_and (h : TV F a ta) (h2 : WV F (.BoolOp .And (b :: rest) pos) tb) : WV F (.BoolOp .And (a :: b :: rest) pos) (aAnd ta tb) := let ⟨_, p, q⟩ := h; let ⟨_, p2, q2⟩ := h2; ⟨_, fun X hX => pw_and (p X hX) (p2 X hX), rt_and q q2⟩
theorem wv_or (h : TV F a ta) (h2 : WV F (.BoolOp .Or (b :: rest) pos) tb) : WV F (.BoolOp .Or (a :: b :: rest) pos) (aOr ta tb) := let ⟨_, p, q⟩ := h; let ⟨_, p2, q2⟩ := h2; ⟨_, fun X hX => pw_or (p X hX) (p2 X hX), rt_or q q2⟩
theorem WV.tv (h : WV F e ta) : TV F e ta := let ⟨_, p, q⟩ := h; ⟨_, fun X hX => (p X hX).pt, q⟩
theorem tv_not (h : TV F a ta) : TV F (.UnaryOp .Not a pos) (aNot ta) := by
  obtain ⟨t, p, q⟩ := h
  refine ⟨_, fun X hX => pt_not (p X hX), fun J jk m ih H env σ Qa Q S E hh f => ?_⟩
  exact q J jk m ih H env σ _ _ S E hh fun m1 ih1 H1 k S1 x1 q1 => f m1 ih1 H1 _ S1 x1 q1
/-- .. as values -/
def asB (k : Bool → Prop) : W → Prop
  | .d (.bool b) => k b
  | _ => False
theorem asB_some {k : Bool → Prop} {w : W} (h : asB k w) : ∃ b, w = .d (.bool b) ∧ k b := by
  unfold asB at h
  split at h
  · exact ⟨_, rfl, h⟩
  · exact h.elim
def aAndV (ta tb : AE) : AE := fun env ih Q => ta env ih fun x ih1 => asB (fun k => if k = true then tb env ih1 Q else Q (.d (.bool false)) ih1) x
def aOrV (ta tb : AE) : AE := fun env ih Q => ta env ih fun x ih1 => asB (fun k => if k = true then Q (.d (.bool true)) ih1 else tb env ih1 Q) x
def aNotV (ta : AE) : AE := fun env ih Q => ta env ih fun x ih1 => asB (fun k => Q (.d (.bool (!k))) ih1) x
theorem ev_one {op} (h : EV F a aa) : EV F (.BoolOp op [a] pos) aa := let ⟨_, p, q⟩ := h; ⟨_, fun X hX => pe_one (p X hX), q⟩
theorem ev_and (h1 : EV F a aa) (h2 : EV F (.BoolOp .And (b :: rest) pos) ab) : EV F (.BoolOp .And (a :: b :: rest) pos) (aAndV aa ab) := by
  obtain ⟨t, p, q⟩ := h1
  obtain ⟨t2, p2, q2⟩ := h2
  refine ⟨_, fun X hX => pe_and (p X hX) (p2 X hX), fun J jk m ih H env σ Qa Q S E hh f => ?_⟩
  refine q J jk m ih H env σ _ _ S E hh fun m1 ih1 H1 w v S1 x1 r1 k1 => ?_
  obtain ⟨k, rfl, k2⟩ := asB_some k1
  refine ⟨k, WR.bl' r1, ?_⟩
  cases k with
  | true =>
    rw [if_pos rfl] at k2 ⊢
    exact q2 J jk m1 ih1 H1 env σ _ _ S1 (E.mono S x1) k2 (f.step x1)
  | false =>
    rw [if_neg Bool.false_ne_true] at k2 ⊢
    exact f m1 ih1 H1 (.d (.bool false)) _ S1 x1 WR.bl k2
theorem ev_or (h1 : EV F a aa) (h2 : EV F (.BoolOp .Or (b :: rest) pos) ab) : EV F (.BoolOp .Or (a :: b :: rest) pos) (aOrV aa ab) := by
  obtain ⟨t, p, q⟩ := h1
  obtain ⟨t2, p2, q2⟩ := h2
  refine ⟨_, fun X hX => pe_or (p X hX) (p2 X hX), fun J jk m ih H env σ Qa Q S E hh f => ?_⟩
  refine q J jk m ih H env σ _ _ S E hh fun m1 ih1 H1 w v S1 x1 r1 k1 => ?_
  obtain ⟨k, rfl, k2⟩ := asB_some k1
  refine ⟨k, WR.bl' r1, ?_⟩
  cases k with
  | false =>
    rw [if_neg Bool.false_ne_true] at k2 ⊢
    exact q2 J jk m1 ih1 H1 env σ _ _ S1 (E.mono S x1) k2 (f.step x1)
  | true =>
    rw [if_pos rfl] at k2 ⊢
    exact f m1 ih1 H1 (.d (.bool true)) _ S1 x1 WR.bl k2
theorem ev_not (h1 : EV F a aa) : EV F (.UnaryOp .Not a pos) (aNotV aa) := by
  obtain ⟨t, p, q⟩ := h1
  refine ⟨_, fun X hX => pe_not (p X hX), fun J jk m ih H env σ Qa Q S E hh f => ?_⟩
  refine q J jk m ih H env σ _ _ S E hh fun m1 ih1 H1 w v S1 x1 r1 k1 => ?_
  obtain ⟨k, rfl, k2⟩ := asB_some k1
  exact ⟨k, WR.bl' r1, f m1 ih1 H1 (.d (.bool (!k))) _ S1 x1 WR.bl k2⟩
def aIf (t : AT) (ta tb : AE) : AE := fun env ih Q => t env ih fun k ih1 => if k = true then ta env ih1 Q else tb env ih1 Q
theorem ev_ifE {t : AT} (h0 : TV F c t) (h1 : EV F a aa) (h2 : EV F b ab) : EV F (.IfExp c a b pos) (aIf t aa ab) := by
  obtain ⟨t0, p0, q0⟩ := h0
  obtain ⟨t1, p, q⟩ := h1
  obtain ⟨t2, p2, q2⟩ := h2
  refine ⟨_, fun X hX => pe_ifExp (p0 X hX) (p X hX) (p2 X hX), fun J jk m ih H env σ Qa Q S E hh f => ?_⟩
  refine q0 J jk m ih H env σ _ _ S E hh fun m1 ih1 H1 k S1 x1 k1 => ?_
  cases k with
  | true =>
    rw [if_pos rfl] at k1 ⊢
    exact q J jk m1 ih1 H1 env σ _ _ S1 (E.mono S x1) k1 (f.step x1)
  | false =>
    rw [if_neg Bool.false_ne_true] at k1 ⊢
    exact q2 J jk m1 ih1 H1 env σ _ _ S1 (E.mono S x1) k1 (f.step x1)
end
end Pz

end
section
set_option Elab.async false
set_option linter.all false
set_option maxRecDepth 100000
set_option autoImplicit false
/-! Fw4: the operators over data. -/
namespace Pz
open PySem PySem.Spec L2

section
variable {F : Fam}

/-! ### what may be read as a list or a tuple -/
mutual
theorem DR.weak {K : PySem.W.Frag} {L : Addr → Prop} {H : Hp} : ∀ {x : D} {v : V}, DR K L H x v → x.hasDict = false → Dp K H v x
  | .none, v, h, _ => by rw [h.non']; exact .non
  | .bool b, v, h, _ => by rw [h.bl']; exact .bl b
  | .int i, v, h, _ => by rw [h.int']; exact .int i
  | .str s, v, h, _ => by rw [h.str']; exact .str s
  | .tuple xs, v, h, n => by
    obtain ⟨a, vs, rfl, hs, hr⟩ := h.tup'
    exact .tup hs (DRs.weak hr (by simpa [PyData.hasDict] using n))
  | .list xs, v, h, n => by
    obtain ⟨a, vs, rfl, hs, _, hr⟩ := h.lst'
    exact .lst (.of hs) (DRs.weak hr (by simpa [PyData.hasDict] using n))
  | .dict ks, v, h, n => by simp [PyData.hasDict] at n
theorem DRs.weak {K : PySem.W.Frag} {L : Addr → Prop} {H : Hp} : ∀ {xs : List D} {vs : List V}, DRs K L H xs vs → PyData.hasDictAll xs = false → DpAll K H vs xs
  | [], vs, h, _ => by
    unfold DRs at h
    subst h
    exact .nil
  | x :: xs, vs, h, n => by
    unfold DRs at h
    obtain ⟨v, r, rfl, h1, h2⟩ := h
    have n' : x.hasDict = false ∧ PyData.hasDictAll xs = false := by simpa [PyData.hasDictAll] using n
    exact .cons (DR.weak h1 n'.1) (DRs.weak h2 n'.2)
end
/-- a value as data: a mutable list of data too -/
def view (w : W) (ih : IH) : Option D := match w with
  | .d x => some x
  | .ref n => match ih[n]? with
    | some (.lst ws) => (allD ws).map .list
    | _ => none
  | .scr _ => none
theorem view_d (x : D) (ih : IH) : view (.d x) ih = some x := rfl
theorem view_dp {K : PySem.W.Frag} {J : JT} {m : List Addr} {ih : IH} {H : Hp} {w : W} {v : V} {x : D} (S : Sim K J m ih H) (r : WR K J m ih H w v) (h : view w ih = some x) (n : x.hasDict = false) : Dp K H v x := by
  unfold view at h
  split at h
  · cases h
    exact DR.weak (L := Own J m ih) r n
  · rename_i k
    split at h
    · rename_i ws e
      obtain ⟨a, e1, rfl⟩ := r
      cases q : allD ws with
      | none => rw [q] at h; cases h
      | some ds =>
        rw [q] at h
        cases h
        obtain ⟨vs, e2, rr⟩ := S.ob k a _ e1 e
        rw [allD_eq q] at rr
        exact .lst (.of e2) (DRs.weak (drs_of rr) (by simpa [PyData.hasDict] using n))
    · cases h
  · cases h

theorem ovK {f : Value → Value → Sem Value} {ra : AR2} (r : PySem.W.Frag → R2) (h : ∀ X, F.ok X → OpR X f (r X.K)) (q : RR2 F.K (r F.K) ra) : OV F f ra := ⟨r F.K, fun X hX => by rw [← F.hK X hX]; exact h X hX, q⟩
theorem cvK {f : Value} {ra : ARC} (r : PySem.W.Frag → List V → Hp → VK → Prop) (h : ∀ X, F.ok X → CallR X f (r X.K)) (q : RRC F.K (r F.K) ra) : CV F f ra := ⟨r F.K, fun X hX => by rw [← F.hK X hX]; exact h X hX, q⟩
/-! ### whole numbers -/
def xI (g : Int → Int → D) : AR2 := fun x y ih Q => match x, y with
  | .d (.int i), .d (.int j) => Q (.d (g i j)) ih
  | _, _ => False
def xIc (C : Int → Int → Prop) (g : Int → Int → D) : AR2 := fun x y ih Q => match x, y with
  | .d (.int i), .d (.int j) => C i j ∧ Q (.d (g i j)) ih
  | _, _ => False
theorem rr_I {K : PySem.W.Frag} {g : Int → Int → V} {ga : Int → Int → D} (h : ∀ i j L H, DR K L H (ga i j) (g i j)) : RR2 K (rI0 g) (xI ga) := fun J m ih H x y vx vy Qa Q S rx ry hh f => by
  unfold xI at hh
  split at hh
  · exact ⟨_, _, rx.int', ry.int', f.now (w := .d _) S (h _ _ _ _) hh⟩
  · exact hh.elim
theorem rr_Ic {K : PySem.W.Frag} {C : Int → Int → Prop} {g : Int → Int → V} {ga : Int → Int → D} (h : ∀ i j L H, DR K L H (ga i j) (g i j)) : RR2 K (rI C g) (xIc C ga) := fun J m ih H x y vx vy Qa Q S rx ry hh f => by
  unfold xIc at hh
  split at hh
  · exact ⟨_, _, rx.int', ry.int', hh.1, f.now (w := .d _) S (h _ _ _ _) hh.2⟩
  · exact hh.elim
theorem ov_sub : OV F (binaryOp .Sub) (xI fun i j => .int (i - j)) := ⟨_, fun _ _ => op_sub, rr_I fun _ _ _ _ => DR.int⟩
/-- a bound for a product: few bits together -/
theorem ov_mul : OV F (binaryOp .Mult) (xIc CMulW fun i j => .int (i * j)) := ⟨_, fun _ _ => op_mulW, rr_Ic fun _ _ _ _ => DR.int⟩
def CDv (_ j : Int) : Prop := j ≠ 0 ∧ j.natAbs.log2 < 9000
theorem ov_mod : OV F (binaryOp .Mod) (xIc (fun _ j => j ≠ 0) fun i j => .int (i.fmod j)) := ⟨_, fun _ _ => op_modN, rr_Ic fun _ _ _ _ => DR.int⟩
theorem ov_pow : OV F (binaryOp .Pow) (xIc CPow fun i j => .int (i ^ j.toNat)) := ⟨_, fun _ _ => op_pow, rr_Ic fun _ _ _ _ => DR.int⟩
theorem ov_lt : OV F (compareOp .Lt) (xI fun i j => .bool (decide (i < j))) := ⟨_, fun _ _ => op_lt, rr_I fun _ _ _ _ => DR.bl⟩
theorem ov_le : OV F (compareOp .LtE) (xI fun i j => .bool (decide (i ≤ j))) := ⟨_, fun _ _ => op_le, rr_I fun _ _ _ _ => DR.bl⟩
theorem ov_gt : OV F (compareOp .Gt) (xI fun i j => .bool (decide (j < i))) := ⟨_, fun _ _ => op_gt, rr_I fun _ _ _ _ => DR.bl⟩
theorem ov_ge : OV F (compareOp .GtE) (xI fun i j => .bool (decide (j ≤ i))) := ⟨_, fun _ _ => op_ge, rr_I fun _ _ _ _ => DR.bl⟩
def xNeg : AR1 := fun x ih Q => match x with
  | .d (.int i) => Q (.d (.int (-i))) ih
  | _ => False
theorem uv_neg : UV F (unaryOp .USub) xNeg := ⟨_, fun _ _ => un_neg, fun J m ih H x vx Qa Q S rx hh f => by
  unfold xNeg at hh
  split at hh
  · exact ⟨_, rx.int', f.now (w := .d _) S WR.int hh⟩
  · exact hh.elim⟩

theorem DRs.nil_left {K : PySem.W.Frag} {L : Addr → Prop} {H : Hp} {ds : List D} (h : DRs K L H ds []) : ds = [] := by
  have := h.len
  cases ds with
  | nil => rfl
  | cons a b => simp at this
/-! ### + -/
def xAdd : AR2 := fun x y ih Q => match x, y with
  | .d (.int i), .d (.int j) => Q (.d (.int (i + j))) ih
  | .d (.str a), .d (.str b) => a.length + b.length ≤ sizeLine ∧ Q (.d (.str (a ++ b))) ih
  | .d (.tuple xs), .d (.tuple ys) => xs.length + ys.length ≤ sizeLine ∧ Q (.d (.tuple (xs ++ ys))) ih
  | .d (.list xs), .d (.list ys) => xs.length + ys.length ≤ sizeLine ∧ Q (.d (.list (xs ++ ys))) ih
  | _, _ => False
theorem ov_add : OV F (binaryOp .Add) xAdd := by
  refine ovK (fun K x y H Q => rI0 (fun i j => V.int (i + j)) x y H Q ∨ (∃ i j, x = .str i ∧ y = .str j ∧ i.length + j.length ≤ sizeLine ∧ Q (.str (i ++ j)) H) ∨ rCatA K x y H Q ∨ rCat x y H Q) (fun _ _ => op_add.or (op_add_str.or (op_catA.or op_cat))) fun J m ih H x y vx vy Qa Q S rx ry hh f => ?_
  unfold xAdd at hh
  split at hh
  · exact .inl ⟨_, _, rx.int', ry.int', f.now (w := .d _) S WR.int hh⟩
  · exact .inr (.inl ⟨_, _, rx.str', ry.str', hh.1, f.now (w := .d _) S WR.str hh.2⟩)
  · obtain ⟨a, us, rfl, h1, d1⟩ := rx.tup'
    obtain ⟨b, vs, rfl, h2, d2⟩ := ry.tup'
    refine .inr (.inr (.inl ⟨a, b, us, vs, rfl, rfl, h1, h2, by rw [d1.len, d2.len]; exact hh.1, fun e => ?_, fun _ e => ?_, fun _ _ p hp => ?_⟩))
    · subst e
      have e2 := DRs.nil_left d1
      subst e2
      exact f.now (w := .d _) S ry hh.2
    · subst e
      have e2 := DRs.nil_left d2
      subst e2
      rw [List.append_nil] at hh
      exact f.now (w := .d _) S rx hh.2
    · exact f.tup S hp (d1.app d2) hh.2
  · obtain ⟨a, us, rfl, h1, _, d1⟩ := rx.lst'
    obtain ⟨b, vs, rfl, h2, _, d2⟩ := ry.lst'
    exact .inr (.inr (.inr ⟨a, b, us, vs, rfl, rfl, h1, h2, by rw [d1.len, d2.len]; exact hh.1, fun p hp => f.lst S hp (d1.app d2) hh.2⟩))
  · exact hh.elim
/-! ### == and != -/
def seqOf : D → Bool
  | .tuple _ => true
  | .list _ => true
  | _ => false
/-- how two data are told apart: texts by themselves, all else as data -/
def eqD (x y : D) : Bool := match x, y with
  | .str a, .str b => decide (a = b)
  | x, y => PyData.eqv x y
def eqOk (x y : D) : Prop := match x, y with
  | .str _, .str _ => True
  | x, y => SeqAt.shaped x = true ∧ SeqAt.shaped y = true
def xEqB (g : Bool → Bool) : AR2 := fun x y ih Q => optW (view x ih) fun dx => optW (view y ih) fun dy => eqOk dx dy ∧ Q (.d (.bool (g (eqD dx dy)))) ih
theorem shaped_nd {x : D} (h : SeqAt.shaped x = true) : x.hasDict = false := by
  unfold SeqAt.shaped at h
  exact PyData.hasDict_of_canLay x (by simp only [Bool.and_eq_true] at h; exact h.1)
theorem eqOk.nd {x y : D} (h : eqOk x y) : x.hasDict = false ∧ y.hasDict = false := by
  unfold eqOk at h
  split at h
  · exact ⟨rfl, rfl⟩
  · exact ⟨shaped_nd h.1, shaped_nd h.2⟩
theorem eq_cases {x y : D} (h : eqOk x y) : (∃ a b, x = .str a ∧ y = .str b ∧ eqD x y = decide (a = b)) ∨ (SeqAt.shaped x = true ∧ SeqAt.shaped y = true ∧ eqD x y = PyData.eqv x y) := by
  unfold eqOk at h
  split at h
  · exact .inl ⟨_, _, rfl, rfl, rfl⟩
  · rename_i n
    refine .inr ⟨h.1, h.2, ?_⟩
    unfold eqD
    split
    · exact (n _ _ rfl rfl).elim
    · rfl
theorem ov_eq : OV F (compareOp .Eq) (xEqB id) := by
  refine ovK (fun K x y H Q => rEq x y H Q ∨ rEqD K x y H Q) (fun X hX => op_eq.or (op_eqD (by have := Fam.hu hX; omega))) fun J m ih H x y vx vy Qa Q S rx ry hh f => ?_
  obtain ⟨dx, e1, hh⟩ := optW_some hh
  obtain ⟨dy, e2, ok, hh⟩ := optW_some hh
  obtain ⟨n1, n2⟩ := ok.nd
  have p1 := view_dp S rx e1 n1
  have p2 := view_dp S ry e2 n2
  rcases eq_cases ok with ⟨a, b, rfl, rfl, e⟩ | ⟨s1, s2, e⟩
  · cases p1
    cases p2
    refine .inl ⟨rfl, ?_⟩
    rw [e] at hh
    have e3 : decide (V.str a = V.str b) = decide (a = b) := by by_cases h : a = b <;> simp [h]
    rw [e3]
    exact f.now (w := .d _) S WR.bl hh
  · rw [e] at hh
    exact .inr ⟨dx, dy, p1, p2, s1, s2, f.now (w := .d _) S WR.bl hh⟩
theorem ov_ne : OV F (compareOp .NotEq) (xEqB not) := by
  refine ovK (fun K x y H Q => rNe x y H Q ∨ rNeD K x y H Q) (fun X hX => op_ne.or (op_neD (by have := Fam.hu hX; omega))) fun J m ih H x y vx vy Qa Q S rx ry hh f => ?_
  obtain ⟨dx, e1, hh⟩ := optW_some hh
  obtain ⟨dy, e2, ok, hh⟩ := optW_some hh
  obtain ⟨n1, n2⟩ := ok.nd
  have p1 := view_dp S rx e1 n1
  have p2 := view_dp S ry e2 n2
  rcases eq_cases ok with ⟨a, b, rfl, rfl, e⟩ | ⟨s1, s2, e⟩
  · cases p1
    cases p2
    refine .inl ⟨rfl, ?_⟩
    rw [e] at hh
    have e3 : decide (V.str a = V.str b) = decide (a = b) := by by_cases h : a = b <;> simp [h]
    rw [e3]
    exact f.now (w := .d _) S WR.bl hh
  · rw [e] at hh
    exact .inr ⟨dx, dy, p1, p2, s1, s2, f.now (w := .d _) S WR.bl hh⟩
/-! ### is -/
/-- x is None: data alone -/
def xIs (g : Bool → Bool) : AR2 := fun x y ih Q => match x, y with
  | .d .none, .d .none => Q (.d (.bool (g true))) ih
  | .d (.bool a), .d (.bool b) => Q (.d (.bool (g (decide (a = b))))) ih
  | .d _, .d .none => Q (.d (.bool (g false))) ih
  | _, _ => False
theorem DR.not_non {K : PySem.W.Frag} {L : Addr → Prop} {H : Hp} {x : D} {v : V} (h : DR K L H x v) (n : x ≠ .none) : v ≠ .non := by
  cases x with
  | none => exact absurd rfl n
  | bool b => rw [h.bl']; intro z; cases z
  | int b => rw [h.int']; intro z; cases z
  | str b => rw [h.str']; intro z; cases z
  | tuple b => obtain ⟨_, _, rfl, _⟩ := h.tup'; intro z; cases z
  | list b => obtain ⟨_, _, rfl, _⟩ := h.lst'; intro z; cases z
  | dict b => obtain ⟨_, _, rfl, _⟩ := h.dic'; intro z; cases z
theorem ov_is : OV F (compareOp .Is) (xIs id) := by
  refine ⟨_, fun _ _ => op_isN.or op_isBl, fun J m ih H x y vx vy Qa Q S rx ry hh f => ?_⟩
  unfold xIs at hh
  split at hh
  · refine .inl ⟨ry.non', ?_⟩
    rw [rx.non', decide_eq_true rfl]
    exact f.now (w := .d _) S WR.bl hh
  · exact .inr ⟨_, _, rx.bl', ry.bl', f.now (w := .d _) S WR.bl hh⟩
  · refine .inl ⟨ry.non', ?_⟩
    rw [decide_eq_false (DR.not_non (L := Own J m ih) rx (by intro z; simp_all))]
    exact f.now (w := .d _) S WR.bl hh
  · exact hh.elim
theorem ov_isnt : OV F (compareOp .IsNot) (xIs not) := by
  refine ⟨_, fun _ _ => op_notN.or op_notBl, fun J m ih H x y vx vy Qa Q S rx ry hh f => ?_⟩
  unfold xIs at hh
  split at hh
  · refine .inl ⟨ry.non', ?_⟩
    rw [rx.non', decide_eq_true rfl]
    exact f.now (w := .d _) S WR.bl hh
  · exact .inr ⟨_, _, rx.bl', ry.bl', f.now (w := .d _) S WR.bl hh⟩
  · refine .inl ⟨ry.non', ?_⟩
    rw [decide_eq_false (DR.not_non (L := Own J m ih) rx (by intro z; simp_all))]
    exact f.now (w := .d _) S WR.bl hh
  · exact hh.elim
end
end Pz

end
section
set_option Elab.async false
set_option linter.all false
set_option maxRecDepth 100000
set_option autoImplicit false
/-! Fw5: division, items, slices, built-ins. -/
namespace Pz
open PySem PySem.Spec L2

section
variable {F : Fam} {pos p2 : Pos} {e a b c : Expr} {es : List Expr} {aa ab ac : AE}
theorem op_fdivX {X : Cx} : OpR X (binaryOp .FloorDiv) (rI CDv fun i j => .int (i.fdiv j)) := opI fun i j _ _ _ _ _ hc q => PyProof.Rows.floordiv_int hc.1 q (.inl (PyProof.noPylong_of_log2 hc.2))
theorem ov_fdiv : OV F (binaryOp .FloorDiv) (xIc CDv fun i j => .int (i.fdiv j)) := ⟨_, fun _ _ => op_fdivX, rr_Ic fun _ _ _ _ => DR.int⟩

/-! ### items -/
theorem atI_map {α β : Type} {xs : List α} {ys : List β} {i : Int} {x : α} (hl : xs.length = ys.length) (h : atI xs i = some x) : ∃ (j : Nat) (y : β), xs[j]? = some x ∧ ys[j]? = some y ∧ atI ys i = some y := by
  unfold atI at h ⊢
  cases q : ixN xs.length i with
  | none => rw [q] at h; cases h
  | some j =>
    rw [q] at h
    have h' : xs[j]? = some x := h
    have hj : j < ys.length := by rw [← hl]; exact (List.getElem?_eq_some_iff.mp h').1
    rw [← hl, q]
    exact ⟨j, ys[j], h', List.getElem?_eq_getElem hj, List.getElem?_eq_getElem hj⟩
theorem DRs.atI {K : PySem.W.Frag} {L : Addr → Prop} {H : Hp} {ds : List D} {vs : List V} {i : Int} {d : D} (h : DRs K L H ds vs) (e : L2.atI ds i = some d) : ∃ v, L2.atI vs i = some v ∧ DR K L H d v := by
  obtain ⟨j, v, e1, e2, e3⟩ := atI_map h.len.symm e
  obtain ⟨u, e4, r⟩ := h.get e1
  rw [e2] at e4
  cases e4
  exact ⟨v, e3, r⟩
theorem paired_at {K : PySem.W.Frag} {J : JT} {m : List Addr} {ih : IH} {H : Hp} {ws : List W} {vs : List V} {i : Int} {w : W} (h : Paired (WR K J m ih H) ws vs) (e : L2.atI ws i = some w) : ∃ v, L2.atI vs i = some v ∧ WR K J m ih H w v := by
  obtain ⟨j, v, e1, e2, e3⟩ := atI_map (Paired.len2 h).symm e
  obtain ⟨u, e4, r⟩ := paired_get h e1
  rw [e2] at e4
  cases e4
  exact ⟨v, e3, r⟩
def xIdx : AR2 := fun x y ih Q => match x, y with
  | .d (.tuple xs), .d (.int i) => optW (atI xs i) fun v => Q (.d v) ih
  | .d (.list xs), .d (.int i) => optW (atI xs i) fun v => Q (.d v) ih
  | .d (.str s), .d (.int i) => optW (atI s.cps.toList i) fun z => s.length ≤ sizeLine ∧ Q (.d (.str ⟨#[z]⟩)) ih
  | .ref n, .d (.int i) => optW (ih[n]?) fun o => match o with
    | .lst ws => optW (atI ws i) fun w => Q w ih
    | _ => False
  | _, _ => False
theorem ev_ix (h1 : EV F a aa) (h2 : EV F b ab) (hs : PlainIx b := by exact fun _ _ => rfl) : EV F (.Subscript a b pos) (aOp xIdx aa ab) := by
  obtain ⟨t1, p1, q1⟩ := h1
  obtain ⟨t2, p2, q2⟩ := h2
  refine ⟨tOp (rIx F.K) t1 t2, fun X hX => by rw [← F.hK X hX]; exact pe_ix ix_seq (p1 X hX) (p2 X hX) hs, re_op (fun J m ih H x y vx vy Qa Q S rx ry hh f => ?_) q1 q2⟩
  unfold xIdx at hh
  split at hh
  · obtain ⟨w, vs, rfl, hs, hr⟩ := rx.tup'
    obtain ⟨d, e, q⟩ := optW_some hh
    obtain ⟨v, e2, r⟩ := hr.atI e
    exact .inr (.inl ⟨w, vs, _, v, rfl, ry.int', hs, e2, f.now (w := .d d) S r q⟩)
  · obtain ⟨w, vs, rfl, hs, _, hr⟩ := rx.lst'
    obtain ⟨d, e, q⟩ := optW_some hh
    obtain ⟨v, e2, r⟩ := hr.atI e
    exact .inl ⟨w, vs, _, v, rfl, ry.int', .of hs, e2, f.now (w := .d d) S r q⟩
  · obtain ⟨z, e, hz, q⟩ := optW_some hh
    exact .inr (.inr ⟨_, _, z, rx.str', ry.int', hz, e, f.now (w := .d _) S WR.str q⟩)
  · obtain ⟨w, e1, rfl⟩ := rx
    obtain ⟨o, e, q⟩ := optW_some hh
    have so := S.ob _ w o e1 e
    cases o with
    | lst ws =>
      obtain ⟨vs, e2, rr⟩ := so
      obtain ⟨u, e3, q⟩ := optW_some q
      obtain ⟨v, e4, r⟩ := paired_at rr e3
      exact .inl ⟨w, vs, _, v, rfl, ry.int', .of e2, e4, f.now S r q⟩
    | dead => exact q.elim
    | dic _ => exact q.elim
    | any _ _ => exact q.elim
  · exact hh.elim

theorem view_lst {K : PySem.W.Frag} {J : JT} {m : List Addr} {ih : IH} {H : Hp} {w : W} {v : V} {ds : List D} (S : Sim K J m ih H) (r : WR K J m ih H w v) (h : view w ih = some (.list ds)) : ∃ g vs, v = .ref g ∧ H g = some (.lst vs) ∧ DRs K (Own J m ih) H ds vs := by
  unfold view at h
  split at h
  · cases h
    obtain ⟨g, vs, e, hs, _, hr⟩ := r.lst'
    exact ⟨g, vs, e, hs, hr⟩
  · rename_i k
    split at h
    · rename_i ws e
      obtain ⟨a, e1, rfl⟩ := r
      cases q : allD ws with
      | none => rw [q] at h; cases h
      | some es =>
        rw [q] at h
        cases h
        obtain ⟨vs, e2, rr⟩ := S.ob k a _ e1 e
        rw [allD_eq q] at rr
        exact ⟨a, vs, rfl, e2, drs_of rr⟩
    · cases h
  · cases h
theorem view_ref {n : Nat} {ih : IH} {x : D} (h : view (.ref n) ih = some x) : ∃ ds, x = .list ds := by
  unfold view at h
  simp only at h
  split at h
  · cases q : allD _ with
    | none => rw [q] at h; cases h
    | some es => rw [q] at h; cases h; exact ⟨es, rfl⟩
  · cases h
theorem view_dat {w : W} {ih : IH} {x : D} (h : view w ih = some x) (n : ∀ ds, x ≠ .list ds) : w = .d x := by
  cases w with
  | d y => cases h; rfl
  | ref k => obtain ⟨ds, e⟩ := view_ref h; exact absurd e (n ds)
  | scr _ => cases h
theorem view_tup {K : PySem.W.Frag} {J : JT} {m : List Addr} {ih : IH} {H : Hp} {w : W} {v : V} {ds : List D} (r : WR K J m ih H w v) (h : view w ih = some (.tuple ds)) : ∃ g vs, v = .ref g ∧ SqT K H g vs ∧ DRs K (Own J m ih) H ds vs := by
  have e := view_dat h (fun _ z => by cases z)
  subst e
  exact r.tup'
theorem view_str {K : PySem.W.Frag} {J : JT} {m : List Addr} {ih : IH} {H : Hp} {w : W} {v : V} {x : Str} (r : WR K J m ih H w v) (h : view w ih = some (.str x)) : v = .str x := by
  have e := view_dat h (fun _ z => by cases z)
  subst e
  exact r.str'
theorem view_dic {K : PySem.W.Frag} {J : JT} {m : List Addr} {ih : IH} {H : Hp} {w : W} {v : V} {ks : List (D × D)} (r : WR K J m ih H w v) (h : view w ih = some (.dict ks)) : ∃ g kvs, v = .ref g ∧ H g = some (.dK kvs) ∧ DRk K (Own J m ih) H ks kvs := by
  have e := view_dat h (fun _ z => by cases z)
  subst e
  obtain ⟨a, kvs, e, h1, _, h2⟩ := DR.dic' (L := Own J m ih) r
  exact ⟨a, kvs, e, h1, h2⟩

/-! ### slices -/
abbrev AO := En → IH → (Option Int → IH → Prop) → Prop
def RO (F : Fam) (t : TO) (ta : AO) : Prop := ∀ J, F.jk J → ∀ m ih H env σ Qa Q, Sim F.K J m ih H → EnvR F.K J m ih H env σ → ta env ih Qa →
  (∀ m1 ih1 H1 o, Sim F.K J m1 ih1 H1 → Xt m ih H m1 ih1 H1 → Qa o ih1 → Q o H1) → t σ H Q
def OV1 (F : Fam) (e : Option Expr) (ta : AO) : Prop := ∃ t, (∀ X, F.ok X → PO X e t) ∧ RO F t ta
def aNoP : AO := fun _ ih Q => Q none ih
def aSmP (ta : AE) : AO := fun env ih Q => ta env ih fun x ih1 => match x with
  | .d (.int i) => Q (some i) ih1
  | _ => False
theorem ov1_none : OV1 F none aNoP := ⟨_, fun _ _ => po_none, fun J jk m ih H env σ Qa Q S E h f => f m ih H none S Xt.refl h⟩
theorem ov1_some (h : EV F e aa) : OV1 F (some e) (aSmP aa) := by
  obtain ⟨t, p, q⟩ := h
  refine ⟨_, fun X hX => po_some (p X hX), fun J jk m ih H env σ Qa Q S E h f => ?_⟩
  refine q J jk m ih H env σ _ _ S E h fun m1 ih1 H1 w v S1 x1 r1 k1 => ?_
  split at k1
  · exact ⟨_, r1.int', f m1 ih1 H1 _ S1 x1 k1⟩
  · exact k1.elim
/-- a part of a list, of any items -/
def cut {α : Type} (xs : List α) (lo hi : Option Int) : List α := (xs.drop (HT.sIx xs.length 0 lo)).take (HT.sIx xs.length xs.length hi - HT.sIx xs.length 0 lo)
theorem DRs.cut {K : PySem.W.Frag} {L : Addr → Prop} {H : Hp} {ds : List D} {vs : List V} (lo hi : Option Int) (h : DRs K L H ds vs) : DRs K L H (Pz.cut ds lo hi) (cutV vs lo hi) := by
  unfold Pz.cut cutV
  rw [h.len]
  exact (h.drop _).take _
theorem ints_drs {K : PySem.W.Frag} {L : Addr → Prop} {H : Hp} : ∀ ns : List Int, DRs K L H (ns.map PyData.int) (ns.map V.int)
  | [] => DRs.nil
  | n :: ns => DRs.cons DR.int (ints_drs ns)
def xSl : W → Option Int → Option Int → IH → QW → Prop := fun x lo hi ih Q => match x with
  | .d (.tuple xs) => Q (.d (.tuple (cut xs lo hi))) ih
  | .d (.list xs) => Q (.d (.list (cut xs lo hi))) ih
  | .d (.str s) => s.length ≤ sizeLine ∧ Q (.d (.str (cutS s lo hi))) ih
  | .scr ns => Q (.d (.list (cut (ns.map .int) lo hi))) ih
  | .d _ => False
  | .ref n => optW (view (.ref n) ih) fun d => match d with
    | .list xs => Q (.d (.list (cut xs lo hi))) ih
    | _ => False
def aSl (ta : AE) (tl th : AO) : AE := fun env ih Q => ta env ih fun x ih1 => tl env ih1 fun l ih2 => th env ih2 fun u ih3 => xSl x l u ih3 Q
theorem cut_all {ds : List D} {lo hi : Option Int} (h : HT.sIx ds.length 0 lo = 0 ∧ HT.sIx ds.length ds.length hi = ds.length) : cut ds lo hi = ds := by
  unfold cut
  rw [h.1, h.2, List.drop_zero, Nat.sub_zero, List.take_length]
theorem ev_slice {lo hi : Option Expr} {al ah : AO} (h : EV F e aa) (hl : OV1 F lo al) (hu : OV1 F hi ah) : EV F (.Subscript e (.Slice lo hi none p2) pos) (aSl aa al ah) := by
  obtain ⟨t, p, q⟩ := h
  obtain ⟨tl, pl, ql⟩ := hl
  obtain ⟨th, ph, qh⟩ := hu
  refine ⟨tSl (fun x lo hi H Q => rSlA F.K x lo hi H Q ∨ rSlL F.K x lo hi H Q ∨ rSlS x lo hi H Q) t tl th, fun X hX => by rw [← F.hK X hX]; exact pe_slice (sl_tupA.or (sl_list.or sl_str)) (p X hX) (pl X hX) (ph X hX), fun J jk m ih H env σ Qa Q S E hh f => ?_⟩
  refine q J jk m ih H env σ _ _ S E hh fun m1 ih1 H1 w v S1 x1 r1 k1 => ?_
  refine ql J jk m1 ih1 H1 env σ _ _ S1 (E.mono S x1) k1 fun m2 ih2 H2 l S2 x2 k2 => ?_
  refine qh J jk m2 ih2 H2 env σ _ _ S2 (E.mono S (x1.trans x2)) k2 fun m3 ih3 H3 u S3 x3 k3 => ?_
  have r3 := r1.mono S1 (x2.trans x3)
  have f3 := f.step ((x1.trans x2).trans x3)
  unfold xSl at k3
  split at k3
  · obtain ⟨g, vs, rfl, hs, hr⟩ := r3.tup'
    refine .inl ⟨g, vs, rfl, hs, fun hw => ?_, fun hw p hp => f3.tup S3 hp (hr.cut l u) k3⟩
    rw [hr.len] at hw
    rw [cut_all hw] at k3
    exact f3.now (w := .d _) S3 r3 k3
  · obtain ⟨g, vs, rfl, hs, hn, hr⟩ := r3.lst'
    exact .inr (.inl ⟨g, vs, rfl, .of hs, fun p hp => f3.lst S3 hp (hr.cut l u) k3⟩)
  · exact .inr (.inr ⟨_, r3.str', k3.1, f3.now (w := .d _) S3 WR.str k3.2⟩)
  · obtain ⟨g, rfl, hs⟩ := r3
    have hs' : SqL F.K H3 g _ := hs.elim (fun z => .inl z.1) fun z => z H3
    exact .inr (.inl ⟨g, _, rfl, hs', fun p hp => f3.lst S3 hp ((ints_drs _).cut l u) k3⟩)
  · exact k3.elim
  · obtain ⟨d, e1, k3⟩ := optW_some k3
    split at k3
    · obtain ⟨g, vs, rfl, hs, hr⟩ := view_lst S3 r3 e1
      exact .inr (.inl ⟨g, vs, rfl, .of hs, fun p hp => f3.lst S3 hp (hr.cut l u) k3⟩)
    · exact k3.elim

/-! ### built-ins -/
def xLen : ARC := fun ws ih Q => match ws with
  | [w] => optW (view w ih) fun d => match d with
    | .tuple xs => Q (.d (.int xs.length)) ih
    | .list xs => Q (.d (.int xs.length)) ih
    | .str s => s.length ≤ sizeLine ∧ Q (.d (.int s.length)) ih
    | .dict ks => ks.length ≤ sizeLine ∧ Q (.d (.int ks.length)) ih
    | _ => False
  | _ => False
theorem paired1 {α β : Type} {F : α → β → Prop} {a : α} {vs : List β} (h : Paired F [a] vs) : ∃ v, vs = [v] ∧ F a v := by
  cases h with
  | cons r t => cases t; exact ⟨_, rfl, r⟩
theorem paired2 {α β : Type} {F : α → β → Prop} {a b : α} {vs : List β} (h : Paired F [a, b] vs) : ∃ v w, vs = [v, w] ∧ F a v ∧ F b w := by
  cases h with
  | cons r t =>
    obtain ⟨w, rfl, r2⟩ := paired1 t
    exact ⟨_, w, rfl, r, r2⟩
theorem DRk.len {K : PySem.W.Frag} {L : Addr → Prop} {H : Hp} : ∀ {ds : List (D × D)} {vs : List (Key × V)}, DRk K L H ds vs → vs.length = ds.length
  | [], vs, h => by unfold DRk at h; subst h; rfl
  | (k, d) :: ds, vs, h => by
    unfold DRk at h
    obtain ⟨q, v, r, rfl, _, _, h2⟩ := h
    rw [List.length_cons, List.length_cons, DRk.len h2]
theorem cv_len : CV F (.builtin "len") xLen := by
  refine cvK (fun K xs H Q => (∃ p ys, xs = [.ref p] ∧ (SqL K H p ys ∨ SqT K H p ys) ∧ Q (.int ys.length) H) ∨ (∃ z, xs = [.str z] ∧ z.length ≤ sizeLine ∧ Q (.int z.length) H) ∨ ∃ a kvs, xs = [V.ref a] ∧ H a = some (HO.dK kvs) ∧ Q (.int kvs.length) H) (fun _ _ => call_len_seq.or (call_len_str.or call_lenD)) fun J m ih H ws vs Qa Q S r hh f => ?_
  unfold xLen at hh
  split at hh
  · obtain ⟨v, rfl, r1⟩ := paired1 r
    obtain ⟨d, e, hh⟩ := optW_some hh
    split at hh
    · obtain ⟨g, us, rfl, hs, hr⟩ := view_tup r1 e
      exact .inl ⟨g, us, rfl, .inr hs, by rw [hr.len]; exact f.now (w := .d _) S WR.int hh⟩
    · obtain ⟨g, us, rfl, hs, hr⟩ := view_lst S r1 e
      exact .inl ⟨g, us, rfl, .inl (.of hs), by rw [hr.len]; exact f.now (w := .d _) S WR.int hh⟩
    · have e2 := view_str r1 e
      subst e2
      exact .inr (.inl ⟨_, rfl, hh.1, f.now (w := .d _) S WR.int hh.2⟩)
    · obtain ⟨g, us, rfl, hs, hr⟩ := view_dic r1 e
      refine .inr (.inr ⟨g, us, rfl, hs, ?_⟩)
      rw [hr.len]
      exact f.now (w := .d _) S WR.int hh.2
    · exact hh.elim
  · exact hh.elim
/-- int of an int or a bool -/
def xInt : ARC := fun ws ih Q => match ws with
  | [.d (.int i)] => Q (.d (.int i)) ih
  | [.d (.bool b)] => Q (.d (.int (if b then 1 else 0))) ih
  | _ => False
theorem cv_int : CV F (.type "int") xInt := by
  refine ⟨_, fun _ _ => call_int1, fun J m ih H ws vs Qa Q S r hh f => ?_⟩
  unfold xInt at hh
  split at hh
  · obtain ⟨v, rfl, r1⟩ := paired1 r
    rw [r1.int']
    exact .inl ⟨_, rfl, f.now (w := .d _) S WR.int hh⟩
  · obtain ⟨v, rfl, r1⟩ := paired1 r
    rw [r1.bl']
    exact .inr ⟨_, rfl, f.now (w := .d _) S WR.int hh⟩
  · exact hh.elim
def xAbs : ARC := fun ws ih Q => match ws with
  | [.d (.int i)] => Q (.d (.int (if i < 0 then -i else i))) ih
  | _ => False
theorem cv_abs : CV F (.builtin "abs") xAbs := by
  refine ⟨_, fun _ _ => call_abs, fun J m ih H ws vs Qa Q S r hh f => ?_⟩
  unfold xAbs at hh
  split at hh
  · obtain ⟨v, rfl, r1⟩ := paired1 r
    rw [r1.int']
    exact ⟨_, rfl, f.now (w := .d _) S WR.int hh⟩
  · exact hh.elim
/-- the ints of a list of data -/
def allI : List D → Option (List Int)
  | [] => some []
  | .int i :: r => (allI r).map (i :: ·)
  | _ :: _ => none
theorem allI_eq : ∀ {ds : List D} {ns : List Int}, allI ds = some ns → ds = ns.map PyData.int
  | [], ns, h => by unfold allI at h; cases h; rfl
  | d :: r, ns, h => by
    unfold allI at h
    split at h
    · rename_i e; cases e
    · rename_i i r' e
      cases e
      cases q : allI r with
      | none => rw [q] at h; cases h
      | some es =>
        rw [q] at h
        cases h
        rw [allI_eq q, List.map_cons]
    · cases h
theorem allI_map : ∀ ns : List Int, allI (ns.map PyData.int) = some ns
  | [] => rfl
  | n :: ns => by
    show (allI (ns.map PyData.int)).map (n :: ·) = some (n :: ns)
    rw [allI_map ns] <;> rfl
def allB : List D → Option (List Bool)
  | [] => some []
  | .bool i :: r => (allB r).map (i :: ·)
  | _ :: _ => none
theorem allB_eq : ∀ {ds : List D} {ns : List Bool}, allB ds = some ns → ds = ns.map PyData.bool
  | [], ns, h => by unfold allB at h; cases h; rfl
  | d :: r, ns, h => by
    unfold allB at h
    split at h
    · rename_i e; cases e
    · rename_i i r' e
      cases e
      cases q : allB r with
      | none => rw [q] at h; cases h
      | some es =>
        rw [q] at h
        cases h
        rw [allB_eq q, List.map_cons]
    · cases h
theorem allB_map : ∀ ns : List Bool, allB (ns.map PyData.bool) = some ns
  | [] => rfl
  | n :: ns => by
    show (allB (ns.map PyData.bool)).map (n :: ·) = some (n :: ns)
    rw [allB_map ns] <;> rfl
theorem drs_ints {K : PySem.W.Frag} {L : Addr → Prop} {H : Hp} : ∀ {ns : List Int} {vs : List V}, DRs K L H (ns.map PyData.int) vs → vs = ns.map V.int
  | [], vs, h => by unfold DRs at h; exact h
  | n :: ns, vs, h => by
    rw [List.map_cons] at h
    unfold DRs at h
    obtain ⟨v, r, rfl, h1, h2⟩ := h
    rw [h1.int', drs_ints h2, List.map_cons]
theorem drs_bools {K : PySem.W.Frag} {L : Addr → Prop} {H : Hp} : ∀ {ns : List Bool} {vs : List V}, DRs K L H (ns.map PyData.bool) vs → vs = ns.map V.bl
  | [], vs, h => by unfold DRs at h; exact h
  | n :: ns, vs, h => by
    rw [List.map_cons] at h
    unfold DRs at h
    obtain ⟨v, r, rfl, h1, h2⟩ := h
    rw [h1.bl', drs_bools h2, List.map_cons]
def lstOf : D → Option (List D)
  | .list xs => some xs
  | _ => none
/-- f of a list of ints -/
def xInts (k : List Int → QW → IH → Prop) : ARC := fun ws ih Q => match ws with
  | [w] => optW (view w ih) fun d => optW (lstOf d) fun xs => optW (allI xs) fun ns => k ns Q ih
  | _ => False
theorem xInts_some {k : List Int → QW → IH → Prop} {ws : List W} {ih : IH} {Qa : QW} {K : PySem.W.Frag} {J : JT} {m : List Addr} {H : Hp} {vs : List V} (S : Sim K J m ih H) (r : Paired (WR K J m ih H) ws vs) (h : xInts k ws ih Qa) :
    ∃ g ns, vs = [.ref g] ∧ H g = some (.lst (ns.map V.int)) ∧ k ns Qa ih := by
  unfold xInts at h
  split at h
  · obtain ⟨v, rfl, r1⟩ := paired1 r
    obtain ⟨d, e, h⟩ := optW_some h
    obtain ⟨xs, e2, h⟩ := optW_some h
    obtain ⟨ns, e3, h3⟩ := optW_some h
    unfold lstOf at e2
    split at e2
    · cases e2
      obtain ⟨g, us, rfl, hs, hr⟩ := view_lst S r1 e
      rw [allI_eq e3] at hr
      rw [drs_ints hr] at hs
      exact ⟨g, ns, rfl, hs, h3⟩
    · cases e2
  · exact h.elim
def xSum : ARC := xInts fun ns Q ih => Q (.d (.int ns.sum)) ih
theorem cv_sum : CV F (.builtin "sum") xSum := cvK rSum (fun X hX => cr_sum (F.calm X hX)) fun J m ih H ws vs Qa Q S r hh f => by
  obtain ⟨g, ns, rfl, hs, q⟩ := xInts_some S r hh
  exact ⟨g, ns, rfl, .of hs, f.now (w := .d _) S WR.int q⟩
/-- the greatest, the least: of two, of a list -/
def xMax : ARC := fun ws ih Q => match ws with
  | [.d (.int i), .d (.int j)] => Q (.d (.int (if j > i then j else i))) ih
  | ws => xInts (fun ns Q ih => 0 < ns.length ∧ ∀ k, k ∈ ns → (∀ y, y ∈ ns → y ≤ k) → Q (.d (.int k)) ih) ws ih Q
def xMin : ARC := fun ws ih Q => match ws with
  | [.d (.int i), .d (.int j)] => Q (.d (.int (if j < i then j else i))) ih
  | ws => xInts (fun ns Q ih => 0 < ns.length ∧ ∀ k, k ∈ ns → (∀ y, y ∈ ns → k ≤ y) → Q (.d (.int k)) ih) ws ih Q
theorem cv_max : CV F (.builtin "max") xMax := cvK (fun K xs H Q => (∃ i j, xs = [.int i, .int j] ∧ Q (.int (if j > i then j else i)) H) ∨ rMax K xs H Q) (fun X hX => (call_max2 (F.calm X hX)).or (cr_max (F.calm X hX))) fun J m ih H ws vs Qa Q S r hh f => by
  unfold xMax at hh
  split at hh
  · obtain ⟨v, u, rfl, r1, r2⟩ := paired2 r
    rw [r1.int', r2.int']
    exact .inl ⟨_, _, rfl, f.now (w := .d _) S WR.int hh⟩
  · obtain ⟨g, ns, rfl, hs, n, q⟩ := xInts_some S r hh
    exact .inr ⟨g, ns, rfl, .of hs, n, fun k h1 h2 => f.now (w := .d _) S WR.int (q k h1 h2)⟩
theorem cv_min : CV F (.builtin "min") xMin := cvK (fun K xs H Q => (∃ i j, xs = [.int i, .int j] ∧ Q (.int (if j < i then j else i)) H) ∨ rMin K xs H Q) (fun X hX => (call_min2 (F.calm X hX)).or (cr_min (F.calm X hX))) fun J m ih H ws vs Qa Q S r hh f => by
  unfold xMin at hh
  split at hh
  · obtain ⟨v, u, rfl, r1, r2⟩ := paired2 r
    rw [r1.int', r2.int']
    exact .inl ⟨_, _, rfl, f.now (w := .d _) S WR.int hh⟩
  · obtain ⟨g, ns, rfl, hs, n, q⟩ := xInts_some S r hh
    exact .inr ⟨g, ns, rfl, .of hs, n, fun k h1 h2 => f.now (w := .d _) S WR.int (q k h1 h2)⟩
def xBools (k : List Bool → Bool) : ARC := fun ws ih Q => match ws with
  | [w] => optW (view w ih) fun d => optW (lstOf d) fun xs => optW (allB xs) fun bs => Q (.d (.bool (k bs))) ih
  | _ => False
theorem xBools_some {k : List Bool → Bool} {ws : List W} {ih : IH} {Qa : QW} {K : PySem.W.Frag} {J : JT} {m : List Addr} {H : Hp} {vs : List V} (S : Sim K J m ih H) (r : Paired (WR K J m ih H) ws vs) (h : xBools k ws ih Qa) :
    ∃ g bs, vs = [.ref g] ∧ H g = some (.lst (bs.map V.bl)) ∧ Qa (.d (.bool (k bs))) ih := by
  unfold xBools at h
  split at h
  · obtain ⟨v, rfl, r1⟩ := paired1 r
    obtain ⟨d, e, h⟩ := optW_some h
    obtain ⟨xs, e2, h⟩ := optW_some h
    obtain ⟨ns, e3, h3⟩ := optW_some h
    unfold lstOf at e2
    split at e2
    · cases e2
      obtain ⟨g, us, rfl, hs, hr⟩ := view_lst S r1 e
      rw [allB_eq e3] at hr
      rw [drs_bools hr] at hs
      exact ⟨g, ns, rfl, hs, h3⟩
    · cases e2
  · exact h.elim
theorem cv_all : CV F (.builtin "all") (xBools fun bs => bs.all id) := cvK rAll (fun X hX => cr_all (F.calm X hX)) fun J m ih H ws vs Qa Q S r hh f => by
  obtain ⟨g, ns, rfl, hs, q⟩ := xBools_some S r hh
  exact ⟨g, ns, rfl, .of hs, f.now (w := .d _) S WR.bl q⟩
theorem cv_any : CV F (.builtin "any") (xBools fun bs => bs.any id) := cvK rAny (fun X hX => cr_any (F.calm X hX)) fun J m ih H ws vs Qa Q S r hh f => by
  obtain ⟨g, ns, rfl, hs, q⟩ := xBools_some S r hh
  exact ⟨g, ns, rfl, .of hs, f.now (w := .d _) S WR.bl q⟩
def xTupleOf : ARC := fun ws ih Q => match ws with
  | [w] => optW (view w ih) fun d => match d with
    | .tuple xs => Q (.d (.tuple xs)) ih
    | .list xs => Q (.d (.tuple xs)) ih
    | _ => False
  | _ => False
theorem cv_tuple : CV F (.type "tuple") xTupleOf := by
  refine cvK (fun K xs H Q => ∃ p ys, xs = [V.ref p] ∧ ((SqL K H p ys ∧ ∀ l, H l = none → Q (.ref l) (upd H l (.tup ys))) ∨ (SqT K H p ys ∧ Q (.ref p) H))) (fun _ _ => call_tuple_of) fun J m ih H ws vs Qa Q S r hh f => ?_
  unfold xTupleOf at hh
  split at hh
  · obtain ⟨v, rfl, r1⟩ := paired1 r
    obtain ⟨d, e, hh⟩ := optW_some hh
    split at hh
    · obtain ⟨g, us, rfl, hs, hr⟩ := view_tup r1 e
      exact ⟨g, us, rfl, .inr ⟨hs, f.now (w := .d (.tuple _)) S (show DR _ _ _ _ _ from DR.tup hs hr) hh⟩⟩
    · obtain ⟨g, us, rfl, hs, hr⟩ := view_lst S r1 e
      exact ⟨g, us, rfl, .inl ⟨.of hs, fun p hp => f.tup S hp hr hh⟩⟩
    · exact hh.elim
  · exact hh.elim
def xListOf : ARC := fun ws ih Q => match ws with
  | [w] => optW (view w ih) fun d => match d with
    | .tuple xs => Q (.d (.list xs)) ih
    | .list xs => Q (.d (.list xs)) ih
    | _ => False
  | _ => False
theorem cv_list : CV F (.type "list") xListOf := by
  refine cvK (fun K xs H Q => ∃ p ys, xs = [V.ref p] ∧ (SqL K H p ys ∨ SqT K H p ys) ∧ ∀ l, H l = none → Q (.ref l) (upd H l (.lst ys))) (fun _ _ => call_list_of) fun J m ih H ws vs Qa Q S r hh f => ?_
  unfold xListOf at hh
  split at hh
  · obtain ⟨v, rfl, r1⟩ := paired1 r
    obtain ⟨d, e, hh⟩ := optW_some hh
    split at hh
    · obtain ⟨g, us, rfl, hs, hr⟩ := view_tup r1 e
      exact ⟨g, us, rfl, .inr hs, fun p hp => f.lst S hp hr hh⟩
    · obtain ⟨g, us, rfl, hs, hr⟩ := view_lst S r1 e
      exact ⟨g, us, rfl, .inl (.of hs), fun p hp => f.lst S hp hr hh⟩
    · exact hh.elim
  · exact hh.elim
/-- list(..), to be changed -/
def xListOfM : ARC := fun ws ih Q => match ws with
  | [w] => optW (view w ih) fun d => match d with
    | .tuple xs => Q (.ref ih.length) (ih ++ [.lst (xs.map .d)])
    | .list xs => Q (.ref ih.length) (ih ++ [.lst (xs.map .d)])
    | _ => False
  | _ => False
theorem Fu.lstM {K : PySem.W.Frag} {J : JT} {m : List Addr} {ih : IH} {H : Hp} {Qa : QW} {Q : VK} {p : Addr} {ws : List W} {vs : List V} (f : Fu K J m ih H Qa Q) (S : Sim K J m ih H) (hp : H p = none) (d : Paired (WR K J m ih H) ws vs)
    (q : Qa (.ref ih.length) (ih ++ [.lst ws])) : Q (.ref p) (upd H p (.lst vs)) := by
  have y : Xt m ih H (m ++ [p]) (ih ++ [.lst ws]) (upd H p (.lst vs)) := Xt.add S hp
  exact f _ _ _ _ _ (S.add (u := .lst ws) hp ⟨vs, upd_same, paired_mono S y d⟩) y (ref_last S) q
theorem cv_listM : CV F (.type "list") xListOfM := by
  refine cvK (fun K xs H Q => ∃ p ys, xs = [V.ref p] ∧ (SqL K H p ys ∨ SqT K H p ys) ∧ ∀ l, H l = none → Q (.ref l) (upd H l (.lst ys))) (fun _ _ => call_list_of) fun J m ih H ws vs Qa Q S r hh f => ?_
  unfold xListOfM at hh
  split at hh
  · obtain ⟨v, rfl, r1⟩ := paired1 r
    obtain ⟨d, e, hh⟩ := optW_some hh
    split at hh
    · obtain ⟨g, us, rfl, hs, hr⟩ := view_tup r1 e
      exact ⟨g, us, rfl, .inr hs, fun p hp => f.lstM S hp (of_drs hr) hh⟩
    · obtain ⟨g, us, rfl, hs, hr⟩ := view_lst S r1 e
      exact ⟨g, us, rfl, .inl (.of hs), fun p hp => f.lstM S hp (of_drs hr) hh⟩
    · exact hh.elim
  · exact hh.elim
def xGcd : ARC := fun ws ih Q => match ws with
  | [.d (.int i), .d (.int j)] => Q (.d (.int ((Nat.gcd i.natAbs j.natAbs : Nat) : Int))) ih
  | _ => False
theorem cv_gcd : CV F (.builtin "math.gcd") xGcd := by
  refine ⟨_, fun _ _ => cr_gcd, fun J m ih H ws vs Qa Q S r hh f => ?_⟩
  unfold xGcd at hh
  split at hh
  · obtain ⟨v, u, rfl, r1, r2⟩ := paired2 r
    rw [r1.int', r2.int']
    exact ⟨_, _, rfl, f.now (w := .d _) S WR.int hh⟩
  · exact hh.elim
/-- repr of data that hold no dict -/
def xRepr : ARC := fun ws ih Q => match ws with
  | [w] => optW (view w ih) fun d => d.hasDict = false ∧ d.showable = true ∧ d.depth ≤ 60 ∧ d.shown.length ≤ sizeLine ∧ Q (.d (.str d.shown)) ih
  | _ => False
end
end Pz

end
section
set_option Elab.async false
set_option linter.all false
set_option maxRecDepth 100000
set_option autoImplicit false
/-! Fw6: isinstance, repr. -/
namespace Pz
open PySem PySem.Spec L2

inductive Ty6 where
  | int | bool | str | tuple | list | dict
def Ty6.nm : Ty6 → String
  | .int => "int" | .bool => "bool" | .str => "str" | .tuple => "tuple" | .list => "list" | .dict => "dict"
def tyN : D → String
  | .none => "NoneType" | .bool _ => "bool" | .int _ => "int" | .str _ => "str" | .list _ => "list" | .tuple _ => "tuple" | .dict _ => "dict"
def isT : Ty6 → D → Bool
  | .int, .int _ => true
  | .int, .bool _ => true
  | .bool, .bool _ => true
  | .str, .str _ => true
  | .tuple, .tuple _ => true
  | .list, .list _ => true
  | .dict, .dict _ => true
  | _, _ => false
inductive Ct where
  | none | bool | int | str | list | tuple | dict
def ctOf : D → Ct
  | .none => .none | .bool _ => .bool | .int _ => .int | .str _ => .str | .list _ => .list | .tuple _ => .tuple | .dict _ => .dict
def Ct.nm : Ct → String
  | .none => "NoneType" | .bool => "bool" | .int => "int" | .str => "str" | .list => "list" | .tuple => "tuple" | .dict => "dict"
def isC : Ty6 → Ct → Bool
  | .int, .int => true
  | .int, .bool => true
  | .bool, .bool => true
  | .str, .str => true
  | .tuple, .tuple => true
  | .list, .list => true
  | .dict, .dict => true
  | _, _ => false
theorem isC_kit (T : Ty6) (c : Ct) : kitB c.nm T.nm = some (isC T c) := by
  cases T <;> cases c <;> decide +kernel
theorem isT_kit (T : Ty6) (d : D) : kitB (tyN d) T.nm = some (isT T d) := by
  have h := isC_kit T (ctOf d)
  have e1 : (ctOf d).nm = tyN d := by cases d <;> rfl
  have e2 : isC T (ctOf d) = isT T d := by cases T <;> cases d <;> rfl
  rw [e1, e2] at h
  exact h
section
variable {F : Fam} {pos p : Pos} {e : Expr} {aa : AE}
theorem tyx_of {K : PySem.W.Frag} {L : Addr → Prop} {H : Hp} {d : D} {v : V} (h : DR K L H d v) : TyX K H v (.type (tyN d)) := by
  cases d with
  | none => rw [h.non']; exact .base .non
  | bool b => rw [h.bl']; exact .base (.bl b)
  | int i => rw [h.int']; exact .base (.int i)
  | str s => rw [h.str']; exact .base (.str s)
  | list xs => obtain ⟨a, vs, rfl, hs, _⟩ := h.lst'; exact .base (.lst hs)
  | dict ks => obtain ⟨a, vs, rfl, hs, _⟩ := h.dic'; exact .base (.dK hs)
  | tuple xs =>
    obtain ⟨a, vs, rfl, hs, _⟩ := h.tup'
    rcases hs with (hs | ⟨o, hs⟩) | ⟨o, its, n, k, c, _⟩
    · exact .base (.tup hs)
    · exact .fTuple hs
    · exact .kTuple k c
def aIsi (T : D → Bool) (ta : AE) : AE := fun env ih Q => ta env ih fun x ih1 => optW (view x ih1) fun d => Q (.d (.bool (T d))) ih1
theorem view_tyx {K : PySem.W.Frag} {J : JT} {m : List Addr} {ih : IH} {H : Hp} {w : W} {v : V} {d : D} (S : Sim K J m ih H) (r : WR K J m ih H w v) (h : view w ih = some d) : TyX K H v (.type (tyN d)) := by
  cases w with
  | d y => cases h; exact tyx_of (L := Own J m ih) r
  | scr _ => cases h
  | ref n =>
    obtain ⟨ds, e⟩ := view_ref h
    subst e
    obtain ⟨g, vs, rfl, hs, _⟩ := view_lst S r h
    exact .base (.lst hs)
theorem ev_isi (T : Ty6) {x : Str} {p2 : Pos} (h : EV F e aa) (hg : Glb F "isinstance") (hm : F.mg "isinstance" = none) (hgT : Glb F x) (hmT : F.mg x = none) (hv : bootBuiltins x = some (.type T.nm)) (hb : bootBuiltins "isinstance" = some (.builtin "isinstance"))
    (hse : ∀ env es, starEach (e :: es) env = (false, eval e env) :: starEach es env := by intro _ _; rfl) (hn : x ≠ "__name__" := by decide) (hd : (x == ("__debug__" : Str)) = false := by decide) : EV F (.Call (.Name "isinstance" p) [e, .Name x p2] [] pos) (aIsi (isT T) aa) := by
  obtain ⟨t, q, r⟩ := h
  refine ⟨tCB (rIsi F.K) (tCons t (tCons (tC (.ty T.nm)) tNil)), fun X hX => ?_, fun J jk m ih H env σ Qa Q S E hh f => ?_⟩
  · rw [← F.hK X hX]
    exact pe_callB call_isi (Fam.gl hX hg) (by rw [F.hmg X hX]; exact hm) hb (pa_cons (q X hX) (pa_cons (pe_bltn (Fam.gl hX hgT) (by rw [F.hmg X hX]; exact hmT) hv (show RelV (.ty T.nm) (.type T.nm) from rfl) hn hd) pa_nil) (hse _ _)) (he := hse _ _)
  · refine r J jk m ih H env σ _ _ S E hh fun m1 ih1 H1 w v S1 x1 r1 k1 => ?_
    obtain ⟨d, e1, k1⟩ := optW_some k1
    exact ⟨v, .ty T.nm, .type (tyN d), .type T.nm, isT T d, rfl, .ty _, view_tyx S1 r1 e1, kit_ty (isT_kit T d), f m1 ih1 H1 (.d (.bool (isT T d))) _ S1 x1 WR.bl k1⟩
theorem kit_two (T U : Ty6) (d : D) {K : PySem.W.Frag} : PySem.W.kitAny K (.type (tyN d)) [.type T.nm, .type U.nm] = some (isT T d || isT U d) := by
  refine kitAny_cons (b := isT T d) (kit_ty (isT_kit T d)) (fun h => ?_) fun h => by rw [h]; rfl
  rw [h, Bool.false_or]
  exact kitAny_cons (b := isT U d) (kit_ty (isT_kit U d)) (fun h => by rw [h]; exact kitAny_nil) fun h => h
theorem ev_isi2 (T U : Ty6) {x y : Str} {p2 p3 p4 : Pos} {k4} (h : EV F e aa) (hg : Glb F "isinstance") (hm : F.mg "isinstance" = none) (hgT : Glb F x) (hmT : F.mg x = none) (hv : bootBuiltins x = some (.type T.nm)) (hgU : Glb F y) (hmU : F.mg y = none) (hvU : bootBuiltins y = some (.type U.nm))
    (hb : bootBuiltins "isinstance" = some (.builtin "isinstance")) (hn : x ≠ "__name__" := by decide) (hd : (x == ("__debug__" : Str)) = false := by decide) (hn2 : y ≠ "__name__" := by decide) (hd2 : (y == ("__debug__" : Str)) = false := by decide)
    (hse : ∀ env es, starEach (e :: es) env = (false, eval e env) :: starEach es env := by intro _ _; rfl) : EV F (.Call (.Name "isinstance" p) [e, .Tuple [.Name x p2, .Name y p3] k4 p4] [] pos) (aIsi (fun d => isT T d || isT U d) aa) := by
  obtain ⟨t, q, r⟩ := h
  refine ⟨tCB (rIsiT F.K) (tCons t (tCons (tTup (tCons (tC (.ty T.nm)) (tCons (tC (.ty U.nm)) tNil))) tNil)), fun X hX => ?_, fun J jk m ih H env σ Qa Q S E hh f => ?_⟩
  · rw [← F.hK X hX]
    exact pe_callB call_isiT (Fam.gl hX hg) (by rw [F.hmg X hX]; exact hm) hb (pa_cons (q X hX) (pa_cons (pe_tup (pa_cons (pe_bltn (Fam.gl hX hgT) (by rw [F.hmg X hX]; exact hmT) hv (show RelV (.ty T.nm) (.type T.nm) from rfl) hn hd)
      (pa_cons (pe_bltn (Fam.gl hX hgU) (by rw [F.hmg X hX]; exact hmU) hvU (show RelV (.ty U.nm) (.type U.nm) from rfl) hn2 hd2) pa_nil))) pa_nil) (hse _ _)) (he := hse _ _)
  · refine r J jk m ih H env σ _ _ S E hh fun m1 ih1 H1 w v S1 x1 r1 k1 => ?_
    obtain ⟨d, e1, k1⟩ := optW_some k1
    refine ⟨by show 2 ≤ sizeLine; decide, fun tp hp => ?_⟩
    have r2 := r1.mono S1 (Xt.new (o := .tup [V.ty T.nm, V.ty U.nm]) S1 hp)
    exact ⟨v, tp, _, .type (tyN d), [.type T.nm, .type U.nm], _, rfl, upd_same, .cons (.ty _) (.cons (.ty _) .nil), view_tyx (S1.new hp) r2 e1, kit_two T U d, f m1 ih1 _ (.d (.bool _)) _ (S1.new hp) (x1.trans (Xt.new S1 hp)) WR.bl k1⟩

/-! ### repr -/
def rRepr (K : PySem.W.Frag) : List V → Hp → VK → Prop := fun xs H Q => ∃ v d, xs = [v] ∧ Dp K H v d ∧ seqOf d = true ∧ d.hasDict = false ∧ d.showable = true ∧ d.depth ≤ 60 ∧ d.shown.length ≤ sizeLine ∧ Q (.str d.shown) H
theorem call_reprD {X : Cx} (hg : X.A.guards = some []) (hu : X.A.units + 200 < cLine) : CallR X (.builtin "repr") (rRepr X.K) := by
  intro pins s σ H xs us Q I r h
  obtain ⟨v, d, rfl, hd, hs, hn, hsh, hdp, hz, q⟩ := h
  obtain ⟨u, rfl, r1⟩ := vals1 r
  obtain ⟨as, rd⟩ := Dp.reads I d v u hd r1
  have go : ∀ a, u = .ref a → wpAny (model X.prog X.w) X.A (call (.builtin "repr") [u]) (EP X pins σ Q) X.xe s := fun a e => by
    subst e
    exact repr_of_reads' rd hsh (fun z => by rw [hn] at z; cases z) hg (by omega) (fun _ _ e => e) (fun h' t tk hk => ⟨.str d.shown, H, I.kept (t' := tk) hk, ⟨t, rfl⟩, q⟩) hz
  cases d with
  | tuple ds => cases hd; exact go _ r1
  | list ds => cases hd; exact go _ r1
  | none => cases hs
  | bool _ => cases hs
  | int _ => cases hs
  | str _ => cases hs
  | dict _ => cases hs
end
end Pz
namespace Pz
open PySem PySem.Spec L2
section
variable {F : Fam}
theorem cv_repr : CV F (.builtin "repr") (fun ws ih Q => match ws with
    | [w] => optW (view w ih) fun d => seqOf d = true ∧ d.hasDict = false ∧ d.showable = true ∧ d.depth ≤ 60 ∧ d.shown.length ≤ sizeLine ∧ Q (.d (.str d.shown)) ih
    | _ => False) := by
  refine cvK rRepr (fun X hX => call_reprD (F.grd X hX) (Fam.hu hX)) fun J m ih H ws vs Qa Q S r hh f => ?_
  split at hh
  · obtain ⟨v, rfl, r1⟩ := paired1 r
    obtain ⟨d, e, h1, h2, h3, h4, h5, q⟩ := optW_some hh
    exact ⟨v, d, rfl, view_dp S r1 e h2, h1, h2, h3, h4, h5, f.now (w := .d _) S WR.str q⟩
  · exact hh.elim
end
end Pz

end
section
set_option Elab.async false
set_option linter.all false
set_option maxRecDepth 100000
set_option autoImplicit false
/-! Fw7: statements, targets, loops, comprehensions. -/
namespace Pz
open PySem PySem.Spec L2

structure AEnds where
  nx : En → IH → Prop
  rt : QW
  bk : En → IH → Prop := fun _ _ => False
  ct : En → IH → Prop := fun _ _ => False
abbrev AS := AEnds → En → IH → Prop
abbrev AG := W → En → IH → (En → IH → Prop) → Prop
abbrev AGs := List W → En → IH → (En → IH → Prop) → Prop
abbrev AI := En → IH → (List D → IH → Prop) → Prop

section
variable (K : PySem.W.Frag) (J : JT) (m : List Addr) (ih : IH) (H : Hp)
def FuS (Qa : En → IH → Prop) (Q : L2.St → Hp → Prop) : Prop := ∀ m1 ih1 H1 env σ, Sim K J m1 ih1 H1 → Xt m ih H m1 ih1 H1 → EnvR K J m1 ih1 H1 env σ → Qa env ih1 → Q σ H1
structure Fd (Da : AEnds) (D : Ends) : Prop where
  nx : FuS K J m ih H Da.nx D.nx
  rt : Fu K J m ih H Da.rt D.rt
  bk : FuS K J m ih H Da.bk D.bk
  ct : FuS K J m ih H Da.ct D.ct
end
def RS (F : Fam) (t : TS) (ta : AS) : Prop := ∀ J, F.jk J → ∀ m ih H env σ Da D, Sim F.K J m ih H → EnvR F.K J m ih H env σ → ta Da env ih → Fd F.K J m ih H Da D → t D σ H
def RG (F : Fam) (g : TG) (ga : AG) : Prop := ∀ J, F.jk J → ∀ m ih H env σ w v Qa Q, Sim F.K J m ih H → EnvR F.K J m ih H env σ → WR F.K J m ih H w v → ga w env ih Qa → FuS F.K J m ih H Qa Q → g v σ H Q
def RGs (F : Fam) (g : TGs) (ga : AGs) : Prop := ∀ J, F.jk J → ∀ m ih H env σ ws vs Qa Q, Sim F.K J m ih H → EnvR F.K J m ih H env σ → Paired (WR F.K J m ih H) ws vs → ga ws env ih Qa → FuS F.K J m ih H Qa Q → g vs σ H Q
def SV (F : Fam) (st : Stmt) (ta : AS) : Prop := ∃ t, (∀ X, F.ok X → PS X st t) ∧ RS F t ta
def BV (F : Fam) (st : List Stmt) (ta : AS) : Prop := ∃ t, (∀ X, F.ok X → PSs X st t) ∧ RS F t ta
/-- a target changes the slots vs alone -/
def OnlyG (vs : List Nat) (g : TG) : Prop := ∀ v σ H (Q Q' : L2.St → Hp → Prop), g v σ H Q → (∀ σ2 H2, wipe σ2 vs = wipe σ vs → Q σ2 H2 → Q' σ2 H2) → g v σ H Q'
def OnlyGs (vs : List Nat) (g : TGs) : Prop := ∀ v σ H (Q Q' : L2.St → Hp → Prop), g v σ H Q → (∀ σ2 H2, wipe σ2 vs = wipe σ vs → Q σ2 H2 → Q' σ2 H2) → g v σ H Q'
def GV (F : Fam) (tg : Expr) (ga : AG) : Prop := ∃ g, (∀ X, F.ok X → PG X tg g) ∧ RG F g ga
def GW (F : Fam) (vs : List Nat) (tg : Expr) (ga : AG) : Prop := ∃ g, (∀ X, F.ok X → PG X tg g) ∧ RG F g ga ∧ OnlyG vs g
def GWs (F : Fam) (vs : List Nat) (tg : List Expr) (ga : AGs) : Prop := ∃ g, (∀ X, F.ok X → PGs X tg g) ∧ RGs F g ga ∧ OnlyGs vs g

section
variable {K : PySem.W.Frag} {J : JT} {m m1 : List Addr} {ih ih1 : IH} {H H1 : Hp}
theorem FuS.step {Qa : En → IH → Prop} {Q : L2.St → Hp → Prop} (x : Xt m ih H m1 ih1 H1) (f : FuS K J m ih H Qa Q) : FuS K J m1 ih1 H1 Qa Q := fun _ _ _ _ _ S y e q => f _ _ _ _ _ S (x.trans y) e q
theorem Fd.step {Da : AEnds} {D : Ends} (x : Xt m ih H m1 ih1 H1) (f : Fd K J m ih H Da D) : Fd K J m1 ih1 H1 Da D := ⟨f.nx.step x, f.rt.step x, f.bk.step x, f.ct.step x⟩
end

section
variable {F : Fam} {pos : Pos} {e : Expr} {st : Stmt} {rest : List Stmt} {aa : AE} {ta tb : AS}
/-! ### blocks -/
def aNx : AS := fun D env ih => D.nx env ih
def aSeq (t u : AS) : AS := fun D env ih => t { D with nx := u D } env ih
theorem bv_nil : BV F [] aNx := ⟨_, fun _ _ => pss_nil, fun J jk m ih H env σ Da D S E h f => f.nx m ih H env σ S Xt.refl E h⟩
theorem bv_cons (h1 : SV F st ta) (h2 : BV F rest tb) : BV F (st :: rest) (aSeq ta tb) := by
  obtain ⟨t, p, q⟩ := h1
  obtain ⟨u, p2, q2⟩ := h2
  refine ⟨_, fun X hX => pss_cons (p X hX) (p2 X hX), fun J jk m ih H env σ Da D S E h f => ?_⟩
  refine q J jk m ih H env σ _ _ S E h ⟨fun m1 ih1 H1 env1 σ1 S1 x1 E1 k1 => ?_, f.rt, f.bk, f.ct⟩
  exact q2 J jk m1 ih1 H1 env1 σ1 Da D S1 E1 k1 (f.step x1)
theorem bv_one (h : SV F st ta) : BV F [st] ta := let ⟨_, p, q⟩ := h; ⟨_, fun X hX => pss_one (p X hX), q⟩
def aBk : AS := fun D env ih => D.bk env ih
def aCt : AS := fun D env ih => D.ct env ih
theorem sv_pass : SV F (.Pass pos) aNx := ⟨_, fun _ _ => ps_pass, fun J jk m ih H env σ Da D S E h f => f.nx m ih H env σ S Xt.refl E h⟩
theorem sv_break : SV F (.Break pos) aBk := ⟨_, fun _ _ => ps_break, fun J jk m ih H env σ Da D S E h f => f.bk m ih H env σ S Xt.refl E h⟩
theorem sv_cont : SV F (.Continue pos) aCt := ⟨_, fun _ _ => ps_continue, fun J jk m ih H env σ Da D S E h f => f.ct m ih H env σ S Xt.refl E h⟩
def aDrop (t : AE) : AS := fun D env ih => t env ih fun _ ih1 => D.nx env ih1
theorem sv_expr (h : EV F e aa) (hs : ∀ env, swapsWith e none pos.line env = pure false := by intro _; rfl) : SV F (.Expr e pos) (aDrop aa) := by
  obtain ⟨t, p, q⟩ := h
  refine ⟨_, fun X hX => ps_expr (p X hX) (hs _), fun J jk m ih H env σ Da D S E h f => ?_⟩
  exact q J jk m ih H env σ _ _ S E h fun m1 ih1 H1 w v S1 x1 r1 k1 => f.nx m1 ih1 H1 env σ S1 x1 (E.mono S x1) k1
def aRet (t : AE) : AS := fun D env ih => t env ih D.rt
theorem sv_ret (h : EV F e aa) : SV F (.Return (some e) pos) (aRet aa) := by
  obtain ⟨t, p, q⟩ := h
  exact ⟨_, fun X hX => ps_ret (p X hX), fun J jk m ih H env σ Da D S E h f => q J jk m ih H env σ _ _ S E h f.rt⟩
def aRetN : AS := fun D env ih => D.rt (.d .none) ih
theorem sv_retN : SV F (.Return none pos) aRetN := ⟨_, fun _ _ => ps_retN, fun J jk m ih H env σ Da D S E h f => f.rt.now (w := .d .none) S WR.non h⟩
def aIfS (c : AT) (t u : AS) : AS := fun D env ih => c env ih fun b ih1 => if b = true then t D env ih1 else u D env ih1
theorem sv_if {c : Expr} {a b : List Stmt} {ac : AT} (hc : TV F c ac) (ha : BV F a ta) (hb : BV F b tb) : SV F (.If c a b pos) (aIfS ac ta tb) := by
  obtain ⟨t0, p0, q0⟩ := hc
  obtain ⟨t1, p1, q1⟩ := ha
  obtain ⟨t2, p2, q2⟩ := hb
  refine ⟨_, fun X hX => ps_if (p0 X hX) (p1 X hX) (p2 X hX), fun J jk m ih H env σ Da D S E h f => ?_⟩
  refine q0 J jk m ih H env σ _ _ S E h fun m1 ih1 H1 k S1 x1 k1 => ?_
  cases k with
  | true =>
    rw [if_pos rfl] at k1 ⊢
    exact q1 J jk m1 ih1 H1 env σ Da D S1 (E.mono S x1) k1 (f.step x1)
  | false =>
    rw [if_neg Bool.false_ne_true] at k1 ⊢
    exact q2 J jk m1 ih1 H1 env σ Da D S1 (E.mono S x1) k1 (f.step x1)
def aNever : AS := fun _ _ _ => False
theorem sv_never : SV F st aNever := ⟨_, fun _ _ => ps_never, fun J jk m ih H env σ Da D S E h f => h.elim⟩
theorem bv_never {sts : List Stmt} : BV F sts aNever := ⟨_, fun _ _ => pss_never, fun J jk m ih H env σ Da D S E h f => h.elim⟩

/-! ### targets -/
theorem wipe_set {σ : L2.St} {i : Nat} {v : Option V} : ∀ {vs : List Nat}, i ∈ vs → wipe (σ.set i v) vs = wipe σ vs
  | [], h => by cases h
  | j :: vs, h => by
    by_cases hj : i = j
    · subst hj
      by_cases hm : i ∈ vs
      · unfold wipe
        rw [wipe_set hm]
      · have e : ∀ (us : List Nat), i ∉ us → wipe (σ.set i v) us = (wipe σ us).set i v := fun us => by
          induction us with
          | nil => intro _; rfl
          | cons k us ih =>
            intro hn
            have h1 : i ≠ k := fun z => hn (by simp [z])
            have h2 : i ∉ us := fun z => hn (List.mem_cons_of_mem _ z)
            unfold wipe
            rw [ih h2, List.set_comm _ _ h1]
        unfold wipe
        rw [e vs hm, List.set_set]
    · have hm : i ∈ vs := (List.mem_cons.mp h).elim (fun z => absurd z hj) fun z => z
      unfold wipe
      rw [wipe_set hm]
theorem wipe_wipe (σ : L2.St) (vs : List Nat) : wipe (wipe σ vs) vs = wipe σ vs := by
  have gen : ∀ us : List Nat, (∀ i ∈ us, i ∈ vs) → wipe (wipe σ us) vs = wipe σ vs := fun us => by
    induction us with
    | nil => intro _; rfl
    | cons k us ih =>
      intro hs
      show wipe ((wipe σ us).set k none) vs = _
      rw [wipe_set (hs k (by simp)), ih fun i hi => hs i (List.mem_cons_of_mem _ hi)]
  exact gen vs fun _ h => h
def aGN (i : Nat) : AG := fun w env ih Q => Q (env.set i (some w)) ih
theorem gw_name (i : Nat) {vs : List Nat} {x : Str} (hi : F.N[i]? = some x := by rfl) (hx : F.sc.names.lookup x = some .local := by rfl) (hv : i ∈ vs := by decide) : GW F vs (.Name x pos) (aGN i) := by
  refine ⟨gName i, fun X hX => pg_name (by rw [F.hN X hX]; exact F.nd) (by rw [F.hN X hX]; exact hi) (.inl (by rw [F.hsc X hX]; exact hx)) (.inr (by rw [F.hsc X hX]; exact hx)), fun J jk m ih H env σ w v Qa Q S E r h f => ?_, fun v σ H Q Q' h k => k _ _ (wipe_set hv) h⟩
  exact f m ih H _ _ S Xt.refl (E.set r) h
/-- a name that a block within captures -/
theorem gv_nameC (i : Nat) {x : Str} (hi : F.N[i]? = some x := by rfl) (hx : F.sc.names.lookup x = some .cell := by rfl) (hf : ∀ X, F.ok X → X.fn x = true) : GV F (.Name x pos) (aGN i) := by
  refine ⟨gName i, fun X hX => pg_name (by rw [F.hN X hX]; exact F.nd) (by rw [F.hN X hX]; exact hi) (.inr (by rw [F.hsc X hX]; exact hx)) (.inl (hf X hX)), fun J jk m ih H env σ w v Qa Q S E r h f => ?_⟩
  exact f m ih H _ _ S Xt.refl (E.set r) h
theorem gv_name (i : Nat) {x : Str} (hi : F.N[i]? = some x := by rfl) (hx : F.sc.names.lookup x = some .local := by rfl) : GV F (.Name x pos) (aGN i) := by
  obtain ⟨g, p, q, _⟩ := gw_name (F := F) (pos := pos) (vs := [i]) i hi hx (by simp)
  exact ⟨g, p, q⟩
theorem GW.gv {vs : List Nat} {tg : Expr} {ga : AG} (h : GW F vs tg ga) : GV F tg ga := let ⟨g, p, q, _⟩ := h; ⟨g, p, q⟩
def aGnil : AGs := fun ws env ih Q => ws = [] ∧ Q env ih
def aGcons (t : AG) (u : AGs) : AGs := fun ws env ih Q => match ws with
  | w :: r => t w env ih fun env1 ih1 => u r env1 ih1 Q
  | [] => False
theorem gws_nil {vs : List Nat} : GWs F vs [] aGnil := by
  refine ⟨gNil, fun X hX => pgs_nil, fun J jk m ih H env σ ws vs Qa Q S E r h f => ?_, fun v σ H Q Q' h k => ⟨h.1, k _ _ rfl h.2⟩⟩
  obtain ⟨rfl, h⟩ := h
  cases r
  exact ⟨rfl, f m ih H env σ S Xt.refl E h⟩
theorem gws_cons {vs : List Nat} {es : List Expr} {t : AG} {u : AGs} (h1 : GW F vs e t) (h2 : GWs F vs es u)
    (hs : ∀ env, (assignEach (e :: es) env).map (·.2) = assign e env :: (assignEach es env).map (·.2) := by intro _; rfl) : GWs F vs (e :: es) (aGcons t u) := by
  obtain ⟨g, p, q, o⟩ := h1
  obtain ⟨g2, p2, q2, o2⟩ := h2
  refine ⟨gCons g g2, fun X hX => pgs_cons (p X hX) (p2 X hX) (hs _), fun J jk m ih H env σ ws vs Qa Q S E r h f => ?_, fun v σ H Q Q' h k => ?_⟩
  · unfold aGcons at h
    split at h
    · cases r with
      | cons r1 r2 =>
        refine ⟨_, _, rfl, q J jk m ih H env σ _ _ _ _ S E r1 h fun m1 ih1 H1 env1 σ1 S1 x1 E1 k1 => ?_⟩
        exact q2 J jk m1 ih1 H1 env1 σ1 _ _ Qa Q S1 E1 (paired_mono S x1 r2) k1 (f.step x1)
    · exact h.elim
  · obtain ⟨a, r, rfl, h⟩ := h
    exact ⟨a, r, rfl, o a σ H _ _ h fun σ1 H1 e1 h1 => o2 r σ1 H1 _ _ h1 fun σ2 H2 e2 q => k σ2 H2 (e2.trans e1) q⟩
/-- (a, b, ..): a tuple of that many data -/
def aGtup (n : Nat) (t : AGs) : AG := fun w env ih Q => match w with
  | .d (.tuple xs) => xs.length = n ∧ t (xs.map .d) env ih Q
  | _ => False
theorem gw_tup {vs : List Nat} {es : List Expr} {k : Nat} {t : AGs} {n : Nat} (h : GWs F vs es t) (hn : ∀ env, (assignEach es env).length = n := by intro _; rfl) (hst : ∀ env, (assignEach es env).findIdx? (·.1) = none := by intro _; rfl) : GW F vs (.Tuple es k pos) (aGtup n t) := by
  obtain ⟨g, p, q, o⟩ := h
  refine ⟨gTup F.K n g, fun X hX => by rw [← F.hK X hX]; exact pg_tup (F.calm X hX) (p X hX) (hn _) (hst _), fun J jk m ih H env σ w v Qa Q S E r h f => ?_, fun v σ H Q Q' h k => ?_⟩
  · unfold aGtup at h
    split at h
    · obtain ⟨a, us, rfl, hs, hr⟩ := r.tup'
      exact ⟨a, us, rfl, hs, by rw [hr.len]; exact h.1, q J jk m ih H env σ _ _ Qa Q S E (of_drs hr) h.2 f⟩
    · exact h.elim
  · obtain ⟨a, us, e, hs, hl, h⟩ := h
    exact ⟨a, us, e, hs, hl, o us σ H _ _ h k⟩

/-! ### assignments -/
def aAsg (t : AE) (g : AG) : AS := fun D env ih => t env ih fun x ih1 => g x env ih1 D.nx
theorem sv_asg {tg : Expr} {ga : AG} (h1 : EV F e aa) (h2 : GV F tg ga) (hs : ∀ env, swapsWithSole [tg] e pos.line env = pure false := by intro _; rfl) (hw : ∀ env, swappedStores [tg] e env = pure none := by intro _; rfl)
    (h3 : ∀ env, (assignEach [tg] env).map (·.2) = [assign tg env] := by intro _; rfl) : SV F (.Assign [tg] e pos) (aAsg aa ga) := by
  obtain ⟨t, p, q⟩ := h1
  obtain ⟨g, p2, q2⟩ := h2
  refine ⟨_, fun X hX => ps_asg (p X hX) (p2 X hX) (hs _) (hw _) (h3 _), fun J jk m ih H env σ Da D S E h f => ?_⟩
  refine q J jk m ih H env σ _ _ S E h fun m1 ih1 H1 w v S1 x1 r1 k1 => ?_
  exact q2 J jk m1 ih1 H1 env σ w v _ _ S1 (E.mono S x1) r1 k1 (f.nx.step x1)
theorem sv_set (i : Nat) {x : Str} {p' : Pos} (h1 : EV F e aa) (hi : F.N[i]? = some x := by rfl) (hx : F.sc.names.lookup x = some .local := by rfl) (hs : ∀ env, swapsWith e (some (.Name x p')) pos.line env = pure false := by intro _; rfl) :
    SV F (.Assign [.Name x p'] e pos) (aAsg aa (aGN i)) := by
  obtain ⟨t, p, q⟩ := h1
  refine ⟨tAsg t (gName i), fun X hX => ps_set (by rw [F.hN X hX]; exact F.nd) (by rw [F.hN X hX]; exact hi) (.inl (by rw [F.hsc X hX]; exact hx)) (p X hX) (hs _) (.inr (by rw [F.hsc X hX]; exact hx)), fun J jk m ih H env σ Da D S E h f => ?_⟩
  refine q J jk m ih H env σ _ _ S E h fun m1 ih1 H1 w v S1 x1 r1 k1 => ?_
  exact f.nx m1 ih1 H1 _ _ S1 x1 ((E.mono S x1).set r1) k1
/-- (a, b, ..) = (x, y, ..): the values need not be data -/
def aAsgT (n : Nat) (ta : AA) (gs : AGs) : AS := fun D env ih => ta env ih fun ws ih1 => (ws.length ≤ sizeLine ∧ ws.length = n) ∧ gs ws env ih1 D.nx
theorem sv_asgT {vs : List Nat} {ts es : List Expr} {k k2 : Nat} {p1 p2 : Pos} {al : AA} {gs : AGs} {n : Nat} (h1 : AV F es al) (h2 : GWs F vs ts gs) (hn : ∀ env, (assignEach ts env).length = n := by intro _; rfl) (hst : ∀ env, (assignEach ts env).findIdx? (·.1) = none := by intro _; rfl)
    (hs : ∀ env, swapsWithSole [.Tuple ts k p1] (.Tuple es k2 p2) pos.line env = pure false := by intro _; rfl) (hw : ∀ env, swappedStores [.Tuple ts k p1] (.Tuple es k2 p2) env = pure none := by intro _; rfl)
    (h3 : ∀ env, (assignEach [.Tuple ts k p1] env).map (·.2) = [assign (.Tuple ts k p1) env] := by intro _; rfl) : SV F (.Assign [.Tuple ts k p1] (.Tuple es k2 p2) pos) (aAsgT n al gs) := by
  obtain ⟨t, p, q⟩ := h1
  obtain ⟨g, p3, q3, _⟩ := h2
  refine ⟨tAsg (tTup t) (gTup F.K n g), fun X hX => by rw [← F.hK X hX]; exact ps_asg (pe_tup (p X hX)) (pg_tup (F.calm X hX) (p3 X hX) (hn _) (hst _)) (hs _) (hw _) (h3 _), fun J jk m ih H env σ Da D S E h f => ?_⟩
  refine q J jk m ih H env σ _ _ S E h fun m1 ih1 H1 ws us S1 x1 r1 k1 => ?_
  refine ⟨by rw [Paired.len2 r1]; exact k1.1.1, fun a ha => ?_⟩
  have x2 : Xt m1 ih1 H1 m1 ih1 (upd H1 a (.tup us)) := Xt.new S1 ha
  have S2 : Sim F.K J m1 ih1 (upd H1 a (.tup us)) := S1.new ha
  exact ⟨a, us, rfl, SqT.of upd_same, by rw [Paired.len2 r1]; exact k1.1.2, q3 J jk m1 ih1 _ env σ ws us _ _ S2 (E.mono S (x1.trans x2)) (paired_mono S1 x2 r1) k1.2 (f.nx.step (x1.trans x2))⟩
/-- a, b = x, y with two plain names -/
def aPar (i j : Nat) (ta : AA) : AS := fun D env ih => ta env ih fun ws ih1 => match ws with
  | [v, w] => D.nx ((env.set i (some v)).set j (some w)) ih1
  | _ => False
theorem sv_par (i j : Nat) {x y : Str} {a b : Expr} {al : AA} {px py pt : Pos} {kt k2 pt2} (ha : AV F [a, b] al) (hi : F.N[i]? = some x := by rfl) (hj : F.N[j]? = some y := by rfl) (hij : i ≠ j := by decide)
    (hx : F.sc.names.lookup x = some .local := by rfl) (hy : F.sc.names.lookup y = some .local := by rfl)
    (hw : ∀ env, env.scope = F.sc → swappedStores [.Tuple [.Name x px, .Name y py] kt pt] (.Tuple [a, b] k2 pt2) env = pure (some [x, y]))
    (hs : ∀ env, swapsWithSole [.Tuple [.Name x px, .Name y py] kt pt] (.Tuple [a, b] k2 pt2) pos.line env = pure false := by intro _; rfl) :
    SV F (.Assign [.Tuple [.Name x px, .Name y py] kt pt] (.Tuple [a, b] k2 pt2) pos) (aPar i j al) := by
  obtain ⟨t, p, q⟩ := ha
  refine ⟨tPar i j t, fun X hX => ps_par (F.calm X hX) (by rw [F.hN X hX]; exact F.nd) (by rw [F.hN X hX]; exact hi) (by rw [F.hN X hX]; exact hj) hij (by rw [F.hsc X hX]; exact hx) (by rw [F.hsc X hX]; exact hy) (p X hX) (hw _ (F.hsc X hX)) (hs _), fun J jk m ih H env σ Da D S E h f => ?_⟩
  refine q J jk m ih H env σ _ _ S E h fun m1 ih1 H1 ws us S1 x1 r1 k1 => ?_
  split at k1
  · obtain ⟨v1, v2, rfl, ra, rb⟩ := paired2 r1
    exact ⟨v1, v2, rfl, f.nx m1 ih1 H1 _ _ S1 x1 (((E.mono S x1).set ra).set rb) k1⟩
  · exact k1.elim
end
end Pz

end
section
set_option Elab.async false
set_option linter.all false
set_option maxRecDepth 100000
set_option autoImplicit false
/-! Fw8: loops, comprehensions. -/
namespace Pz
open PySem PySem.Spec L2

theorem paired3 {α β : Type} {G : α → β → Prop} {a b c : α} {vs : List β} (h : Paired G [a, b, c] vs) : ∃ v w u, vs = [v, w, u] ∧ G a v ∧ G b w ∧ G c u := by
  cases h with
  | cons r t =>
    obtain ⟨w, u, rfl, r2, r3⟩ := paired2 t
    exact ⟨_, w, u, rfl, r, r2, r3⟩
section
variable {F : Fam} {pos : Pos} {e : Expr} {aa : AE} {ta tb : AS}
def aPar3 (i j l : Nat) (ta : AA) : AS := fun D env ih => ta env ih fun ws ih1 => match ws with
  | [v, w, u] => D.nx (((env.set i (some v)).set j (some w)).set l (some u)) ih1
  | _ => False
theorem sv_par3 (i j l : Nat) {x y z : Str} {a b c : Expr} {al : AA} {px py pz pt : Pos} {kt k2 pt2} (ha : AV F [a, b, c] al) (hi : F.N[i]? = some x := by rfl) (hj : F.N[j]? = some y := by rfl) (hl : F.N[l]? = some z := by rfl)
    (hij : i ≠ j := by decide) (hil : i ≠ l := by decide) (hjl : j ≠ l := by decide)
    (hx : F.sc.names.lookup x = some .local := by rfl) (hy : F.sc.names.lookup y = some .local := by rfl) (hz : F.sc.names.lookup z = some .local := by rfl)
    (hw : ∀ env, env.scope = F.sc → swappedStores [.Tuple [.Name x px, .Name y py, .Name z pz] kt pt] (.Tuple [a, b, c] k2 pt2) env = pure (some [x, y, z]))
    (hs : ∀ env, swapsWithSole [.Tuple [.Name x px, .Name y py, .Name z pz] kt pt] (.Tuple [a, b, c] k2 pt2) pos.line env = pure false := by intro _; rfl) :
    SV F (.Assign [.Tuple [.Name x px, .Name y py, .Name z pz] kt pt] (.Tuple [a, b, c] k2 pt2) pos) (aPar3 i j l al) := by
  obtain ⟨t, p, q⟩ := ha
  refine ⟨tPar3 i j l t, fun X hX => ps_par3 (F.calm X hX) (by rw [F.hN X hX]; exact F.nd) (by rw [F.hN X hX]; exact hi) (by rw [F.hN X hX]; exact hj) (by rw [F.hN X hX]; exact hl) hij hil hjl (by rw [F.hsc X hX]; exact hx) (by rw [F.hsc X hX]; exact hy) (by rw [F.hsc X hX]; exact hz) (p X hX) (hw _ (F.hsc X hX)) (hs _), fun J jk m ih H env σ Da D S E h f => ?_⟩
  refine q J jk m ih H env σ _ _ S E h fun m1 ih1 H1 ws us S1 x1 r1 k1 => ?_
  split at k1
  · obtain ⟨v1, v2, v3, rfl, ra, rb, rc⟩ := paired3 r1
    exact ⟨v1, v2, v3, rfl, f.nx m1 ih1 H1 _ _ S1 x1 ((((E.mono S x1).set ra).set rb).set rc) k1⟩
  · exact k1.elim

/-! ### another set of hidden addresses -/
/-- what is hidden further on was hidden, or was not there -/
def HidOk (J J' : JT) (H : Hp) : Prop := ∀ a, a ∈ J'.hid → a ∈ J.hid ∨ H a = none
theorem HidOk.refl {J : JT} {H : Hp} : HidOk J J H := fun _ h => .inl h
section
variable {K : PySem.W.Frag} {L L' : Addr → Prop} {H H' : Hp}
mutual
theorem DR.conv (hk : ∀ a o, H a = some o → ¬ L a → H' a = some o ∧ ¬ L' a) (ht : ∀ a xs, Rd H a (.tup xs) → Rd H' a (.tup xs)) : ∀ {d : D} {v : V}, DR K L H d v → DR K L' H' d v
  | .none, v, q => by rw [q.non']; exact DR.non
  | .bool b, v, q => by rw [q.bl']; exact DR.bl
  | .int i, v, q => by rw [q.int']; exact DR.int
  | .str s, v, q => by rw [q.str']; exact DR.str
  | .tuple xs, v, q => by
    obtain ⟨a, vs, rfl, hs, hr⟩ := q.tup'
    exact DR.tup (hs.elim (fun z => .inl (ht a vs z)) .inr) (DRs.conv hk ht hr)
  | .list xs, v, q => by
    obtain ⟨a, vs, rfl, hs, hn, hr⟩ := q.lst'
    exact DR.lst (hk a _ hs hn).1 (hk a _ hs hn).2 (DRs.conv hk ht hr)
  | .dict xs, v, q => by
    obtain ⟨a, vs, rfl, hs, hn, hr⟩ := q.dic'
    exact DR.dic (hk a _ hs hn).1 (hk a _ hs hn).2 (DRk.conv hk ht hr)
theorem DRs.conv (hk : ∀ a o, H a = some o → ¬ L a → H' a = some o ∧ ¬ L' a) (ht : ∀ a xs, Rd H a (.tup xs) → Rd H' a (.tup xs)) : ∀ {d : List D} {v : List V}, DRs K L H d v → DRs K L' H' d v
  | [], v, q => by unfold DRs at q ⊢; exact q
  | d :: ds, v, q => by
    unfold DRs at q ⊢
    obtain ⟨v, r, rfl, h1, h2⟩ := q
    exact ⟨v, r, rfl, DR.conv hk ht h1, DRs.conv hk ht h2⟩
theorem DRk.conv (hk : ∀ a o, H a = some o → ¬ L a → H' a = some o ∧ ¬ L' a) (ht : ∀ a xs, Rd H a (.tup xs) → Rd H' a (.tup xs)) : ∀ {d : List (D × D)} {v : List (Key × V)}, DRk K L H d v → DRk K L' H' d v
  | [], v, q => by unfold DRk at q ⊢; exact q
  | (k, d) :: ds, v, q => by
    unfold DRk at q ⊢
    obtain ⟨k', v, r, rfl, e, h1, h2⟩ := q
    exact ⟨k', v, r, rfl, e, DR.conv hk ht h1, DRk.conv hk ht h2⟩
end
end
section
variable {K : PySem.W.Frag} {J J' : JT} {m m' : List Addr} {ih ih' : IH} {H H' : Hp}
theorem hid_keep (x : Xt m ih H m' ih' H') (hh : HidOk J J' H) : ∀ a o, H a = some o → ¬ Own J m ih a → H' a = some o ∧ ¬ Own J' m' ih' a := fun a o e n => by
  obtain ⟨e1, n1⟩ := x.keep a o e fun z => n (.inl z)
  exact ⟨e1, fun z => z.elim n1 fun y => (hh a y).elim (fun q => n (.inr q)) fun q => by rw [q] at e; cases e⟩
theorem DR.convX (S : Sim K J m ih H) (x : Xt m ih H m' ih' H') (hh : HidOk J J' H) {d : D} {v : V} (h : DR K (Own J m ih) H d v) : DR K (Own J' m' ih') H' d v :=
  DR.conv (hid_keep x hh) (fun a xs q => x.rd (S.tup_free q) q) h
theorem WR.convX (S : Sim K J m ih H) (x : Xt m ih H m' ih' H') (hh : HidOk J J' H) {w : W} {v : V} (h : WR K J m ih H w v) : WR K J' m' ih' H' w v := by
  cases w with
  | d y => exact DR.convX S x hh h
  | ref n =>
    obtain ⟨a, e, r⟩ := h
    obtain ⟨t, rfl, _⟩ := x.pre
    exact ⟨a, by rw [List.getElem?_append_left (List.getElem?_eq_some_iff.mp e).1]; exact e, r⟩
  | scr ns =>
    obtain ⟨a, e, q⟩ := h
    rcases q with ⟨q, l⟩ | q
    · refine ⟨a, e, .inl ⟨x.rd (fun z => l (.inl z)) q, ?_⟩⟩
      rcases q with q | ⟨ob, q⟩
      · exact (hid_keep x hh a _ q l).2
      · exact (hid_keep x hh a _ q l).2
    · exact ⟨a, e, .inr q⟩
theorem EnvR.convX {env : En} {σ : L2.St} (S : Sim K J m ih H) (x : Xt m ih H m' ih' H') (hh : HidOk J J' H) (e : EnvR K J m ih H env σ) : EnvR K J' m' ih' H' env σ :=
  ⟨e.len, fun i w q => let ⟨v, q1, q2⟩ := e.at_ i w q; ⟨v, q1, q2.convX S x hh⟩⟩
theorem ObR.convX (S : Sim K J m ih H) (x : Xt m ih H m' ih' H') (hh : HidOk J J' H) {a : Addr} {o : Ob} (h : ObR K J m ih H a o) (he : H' a = H a) : ObR K J' m' ih' H' a o := by
  cases o with
  | dead => exact True.intro
  | lst ws =>
    obtain ⟨vs, e, r⟩ := h
    exact ⟨vs, he.trans e, Paired.mapR r fun _ _ q => q.convX S x hh⟩
  | dic ws =>
    obtain ⟨vs, e, r⟩ := h
    exact ⟨vs, he.trans e, Paired.mapR r fun _ _ q => ⟨q.1, q.2.convX S x hh⟩⟩
  | any n phi =>
    obtain ⟨o, e, mu, hn, q⟩ := h
    obtain ⟨t, rfl, _⟩ := x.pre
    exact ⟨o, he.trans e, mu, by rw [List.length_append]; omega, by rw [List.take_append_of_le_length hn]; exact q⟩
end

/-! ### what is walked -/
/-- the iterator yields the data ds, one after the other -/
structure Yl (K : PySem.W.Frag) (J : JT) (m : List Addr) (ih : IH) (H : Hp) (T : It) (ds : List D) : Prop where
  go : ∀ m1 ih1 H1 i, Xt m ih H m1 ih1 H1 → i < ds.length → T.go i H1
  stop : ∀ m1 ih1 H1, Xt m ih H m1 ih1 H1 → T.stop ds.length H1
  yld : ∀ J' m1 ih1 H1 i x H2, HidOk J J' H → Sim K J' m1 ih1 H1 → Xt m ih H m1 ih1 H1 → i < ds.length → T.yld i H1 x H2 → Sim K J' m1 ih1 H2 ∧ Xt m1 ih1 H1 m1 ih1 H2 ∧ ∃ d, ds[i]? = some d ∧ WR K J' m1 ih1 H2 (.d d) x
def RI (F : Fam) (wi : TI) (ai : AI) : Prop := ∀ J, F.jk J → ∀ m ih H env σ Qa (R : It → Hp → Prop), Sim F.K J m ih H → EnvR F.K J m ih H env σ → ai env ih Qa →
  (∀ m1 ih1 H1 T ds, Sim F.K J m1 ih1 H1 → Xt m ih H m1 ih1 H1 → Yl F.K J m1 ih1 H1 T ds → Qa ds ih1 → R T H1) → wi σ H R
def IV (F : Fam) (tg iter : Expr) (ai : AI) : Prop := ∃ wi, (∀ X, F.ok X → PI X tg iter wi) ∧ RI F wi ai

section
variable {K : PySem.W.Frag} {J : JT} {m : List Addr} {ih : IH} {H : Hp}
theorem DRs.nth {L : Addr → Prop} {ds : List D} {vs : List V} {i : Nat} {v : V} (h : DRs K L H ds vs) (e : vs[i]? = some v) : ∃ d, ds[i]? = some d ∧ DR K L H d v := by
  have hi : i < ds.length := by rw [← h.len]; exact (List.getElem?_eq_some_iff.mp e).1
  obtain ⟨u, e2, r⟩ := h.get (List.getElem?_eq_getElem hi)
  rw [e] at e2
  cases e2
  exact ⟨_, List.getElem?_eq_getElem hi, r⟩
theorem DRs.some {L : Addr → Prop} {ds : List D} {vs : List V} {i : Nat} (h : DRs K L H ds vs) (hi : i < ds.length) : ∃ v, vs[i]? = some v := ⟨_, List.getElem?_eq_getElem (by rw [h.len]; exact hi)⟩
theorem yl_list {a : Addr} {ds : List D} {vs : List V} (S : Sim K J m ih H) (hs : H a = some (.lst vs)) (n : ¬ Own J m ih a) (hr : DRs K (Own J m ih) H ds vs) : Yl K J m ih H (Itl K a) ds where
  go := fun m1 ih1 H1 i x1 hi => by
    obtain ⟨v, e⟩ := hr.some hi
    exact ⟨vs, v, .of (x1.keep a _ hs fun z => n (.inl z)).1, e⟩
  stop := fun m1 ih1 H1 x1 => ⟨vs, .of (x1.keep a _ hs fun z => n (.inl z)).1, by rw [hr.len]; exact Nat.le_refl _⟩
  yld := fun J' m1 ih1 H1 i x H2 hh S1 x1 hi y => by
    obtain ⟨rfl, q⟩ := y
    obtain ⟨d, e, r⟩ := hr.nth (q vs (.of (x1.keep a _ hs fun z => n (.inl z)).1))
    exact ⟨S1, Xt.refl, d, e, DR.convX S x1 hh r⟩
theorem yl_tup {a : Addr} {ds : List D} {vs : List V} (S : Sim K J m ih H) (hs : SqT K H a vs) (hr : DRs K (Own J m ih) H ds vs) : Yl K J m ih H (Itt K a) ds where
  go := fun m1 ih1 H1 i x1 hi => by
    obtain ⟨v, e⟩ := hr.some hi
    exact ⟨vs, v, x1.seqT S hs, e⟩
  stop := fun m1 ih1 H1 x1 => ⟨vs, x1.seqT S hs, by rw [hr.len]; exact Nat.le_refl _⟩
  yld := fun J' m1 ih1 H1 i x H2 hh S1 x1 hi y => by
    obtain ⟨rfl, q⟩ := y
    obtain ⟨d, e, r⟩ := hr.nth (q vs (x1.seqT S hs))
    exact ⟨S1, Xt.refl, d, e, DR.convX S x1 hh r⟩
/-- the numbers lo, lo + 1, .. -/
def rng (lo : Int) (n : Nat) : List D := (List.range n).map fun (i : Nat) => PyData.int (lo + i)
theorem rng_len (lo : Int) (n : Nat) : (rng lo n).length = n := by unfold rng; rw [List.length_map, List.length_range]
theorem rng_get {lo : Int} {n i : Nat} (h : i < n) : (rng lo n)[i]? = some (.int (lo + i)) := by
  unfold rng
  rw [List.getElem?_map, List.getElem?_range h]
  rfl
theorem yl_rng {lo : Int} {n : Nat} : Yl K J m ih H (Itr lo n) (rng lo n) where
  go := fun m1 ih1 H1 i x1 hi => by rw [rng_len] at hi; exact hi
  stop := fun m1 ih1 H1 x1 => by rw [rng_len]; exact Nat.le_refl _
  yld := fun J' m1 ih1 H1 i x H2 hh S1 x1 hi y => by
    obtain ⟨rfl, rfl⟩ := y
    rw [rng_len] at hi
    exact ⟨S1, Xt.refl, _, rng_get hi, WR.int⟩
end
/-- over a list -/
def aIL (t : AE) : AI := fun env ih Q => t env ih fun w ih1 => match w with
  | .d (.list xs) => Q xs ih1
  | _ => False
def aIT (t : AE) : AI := fun env ih Q => t env ih fun w ih1 => match w with
  | .d (.tuple xs) => Q xs ih1
  | _ => False
variable {tg : Expr}
theorem iv_list (h : EV F e aa) : IV F tg e (aIL aa) := by
  obtain ⟨t, p, q⟩ := h
  refine ⟨iList F.K t, fun X hX => by rw [← F.hK X hX]; exact pi_list (p X hX), fun J jk m ih H env σ Qa R S E h f => ?_⟩
  refine q J jk m ih H env σ _ _ S E h fun m1 ih1 H1 w v S1 x1 r1 k1 => ?_
  split at k1
  · obtain ⟨a, vs, rfl, hs, n, hr⟩ := r1.lst'
    exact ⟨a, rfl, ⟨vs, .of hs⟩, f m1 ih1 H1 _ _ S1 x1 (yl_list S1 hs n hr) k1⟩
  · exact k1.elim
theorem iv_tup (h : EV F e aa) : IV F tg e (aIT aa) := by
  obtain ⟨t, p, q⟩ := h
  refine ⟨iTup F.K t, fun X hX => by rw [← F.hK X hX]; exact pi_tup (p X hX), fun J jk m ih H env σ Qa R S E h f => ?_⟩
  refine q J jk m ih H env σ _ _ S E h fun m1 ih1 H1 w v S1 x1 r1 k1 => ?_
  split at k1
  · obtain ⟨a, vs, rfl, hs, hr⟩ := r1.tup'
    exact ⟨a, rfl, ⟨vs, hs⟩, f m1 ih1 H1 _ _ S1 x1 (yl_tup S1 hs hr) k1⟩
  · exact k1.elim
def aIR1 (t : AA) : AI := fun env ih Q => t env ih fun ws ih1 => match ws with
  | [.d (.int j)] => -(2 ^ 62) ≤ j ∧ j < 2 ^ 62 ∧ Q (rng 0 j.toNat) ih1
  | _ => False
def aIR2 (t : AA) : AI := fun env ih Q => t env ih fun ws ih1 => match ws with
  | [.d (.int i), .d (.int j)] => (-(2 ^ 62) ≤ i ∧ i < 2 ^ 62 ∧ -(2 ^ 62) ≤ j ∧ j < 2 ^ 62) ∧ Q (rng i (j - i).toNat) ih1
  | _ => False
theorem iv_range1 {a : Expr} {al : AA} {p : Pos} (h : AV F [a] al) (hg : Glb F "range") (hm : F.mg "range" = none) (hs : ∀ env, starEach [a] env = [(false, eval a env)] := by intro _; rfl) : IV F tg (.Call (.Name "range" p) [a] [] pos) (aIR1 al) := by
  obtain ⟨t, q, r⟩ := h
  refine ⟨iRng1 t, fun X hX => pi_range1 (Fam.gl hX hg) (by rw [F.hmg X hX]; exact hm) (q X hX) (hs _), fun J jk m ih H env σ Qa R S E h f => ?_⟩
  refine r J jk m ih H env σ _ _ S E h fun m1 ih1 H1 ws vs S1 x1 r1 k1 => ?_
  split at k1
  · obtain ⟨v, rfl, r2⟩ := paired1 r1
    exact ⟨_, by rw [r2.int'], k1.1, k1.2.1, f m1 ih1 H1 _ _ S1 x1 yl_rng k1.2.2⟩
  · exact k1.elim
theorem iv_range2 {a b : Expr} {al : AA} {p : Pos} (h : AV F [a, b] al) (hg : Glb F "range") (hm : F.mg "range" = none) (hs : ∀ env, starEach [a, b] env = [(false, eval a env), (false, eval b env)] := by intro _; rfl) (hs2 : ∀ env, starEach [b] env = [(false, eval b env)] := by intro _; rfl) :
    IV F tg (.Call (.Name "range" p) [a, b] [] pos) (aIR2 al) := by
  obtain ⟨t, q, r⟩ := h
  refine ⟨iRng2 t, fun X hX => pi_range2 (Fam.gl hX hg) (by rw [F.hmg X hX]; exact hm) (q X hX) (hs _) (hs2 _), fun J jk m ih H env σ Qa R S E h f => ?_⟩
  refine r J jk m ih H env σ _ _ S E h fun m1 ih1 H1 ws vs S1 x1 r1 k1 => ?_
  split at k1
  · obtain ⟨v, u, rfl, r2, r3⟩ := paired2 r1
    exact ⟨_, _, by rw [r2.int', r3.int'], k1.1, f m1 ih1 H1 _ _ S1 x1 yl_rng k1.2⟩
  · exact k1.elim

/-! ### for, while -/
def aFor (ai : AI) (ga : AG) (body : AS) : AS := fun D env ih => ai env ih fun ds ih1 => ∃ Iv : Nat → En → IH → Prop, Iv 0 env ih1 ∧
  (∀ i d env2 ih2, ds[i]? = some d → Iv i env2 ih2 → ga (.d d) env2 ih2 fun env3 ih3 => body { D with nx := Iv (i + 1), ct := Iv (i + 1), bk := D.nx } env3 ih3) ∧ ∀ env2 ih2, Iv ds.length env2 ih2 → D.nx env2 ih2
theorem sv_for {iter : Expr} {body : List Stmt} {ai : AI} {ga : AG} (hi : IV F tg iter ai) (hg : GV F tg ga) (hb : BV F body ta) (hs : ∀ env x, foldedSetIterable iter env x = pure x := by intro _ _; rfl) : SV F (.For tg iter body [] pos) (aFor ai ga ta) := by
  obtain ⟨wi, p, q⟩ := hi
  obtain ⟨g, p2, q2⟩ := hg
  obtain ⟨t, p3, q3⟩ := hb
  refine ⟨tFor wi g t, fun X hX => ps_for (F.po X hX) (F.calm X hX) (p X hX) (p2 X hX) (p3 X hX) (hs _), fun J jk m ih H env σ Da D S E h f => ?_⟩
  refine q J jk m ih H env σ _ _ S E h fun m1 ih1 H1 T ds S1 x1 Y k1 => ?_
  obtain ⟨Iv, i0, turn, done⟩ := k1
  let W : Nat → Nat → L2.St → Hp → Prop := fun i k σ' H' => k = ds.length - i ∧ i ≤ ds.length ∧ ∃ m' ih' env', Sim F.K J m' ih' H' ∧ Xt m1 ih1 H1 m' ih' H' ∧ EnvR F.K J m' ih' H' env' σ' ∧ Iv i env' ih'
  refine ⟨W, ⟨ds.length, by simp, Nat.zero_le _, m1, ih1, env, S1, Xt.refl, E.mono S x1, i0⟩, ?_⟩
  rintro i k σ2 H2 ⟨rfl, hi, m2, ih2, env2, S2, x2, E2, v2⟩
  by_cases hlt : i < ds.length
  · refine .inr ⟨Y.go m2 ih2 H2 i x2 hlt, fun σ' H' => W (i + 1) (ds.length - (i + 1)) σ' H', fun σ' H' w => ⟨_, by omega, w⟩, fun x H3 y => ?_⟩
    obtain ⟨S3, x3, d, ed, rd⟩ := Y.yld J m2 ih2 H2 i x H3 HidOk.refl S2 x2 hlt y
    refine q2 J jk m2 ih2 H3 env2 σ2 (.d d) x _ _ S3 (E2.mono S2 x3) rd (turn i d env2 ih2 ed v2) fun m4 ih4 H4 env4 σ4 S4 x4 E4 k4 => ?_
    have x14 := (x2.trans x3).trans x4
    refine q3 J jk m4 ih4 H4 env4 σ4 _ _ S4 E4 k4 ⟨fun m5 ih5 H5 env5 σ5 S5 x5 E5 k5 => ?_, (f.step (x1.trans x14)).rt, (f.step (x1.trans x14)).nx, fun m5 ih5 H5 env5 σ5 S5 x5 E5 k5 => ?_⟩
    · exact ⟨rfl, hlt, m5, ih5, env5, S5, x14.trans x5, E5, k5⟩
    · exact ⟨rfl, hlt, m5, ih5, env5, S5, x14.trans x5, E5, k5⟩
  · have e1 : i = ds.length := by omega
    subst e1
    exact .inl ⟨Y.stop m2 ih2 H2 x2, f.nx m2 ih2 H2 env2 σ2 S2 (x1.trans x2) E2 (done env2 ih2 v2)⟩
def aWhile (c : AT) (body : AS) : AS := fun D env ih => ∃ Iv : Nat → En → IH → Prop, (∃ k, Iv k env ih) ∧ ∀ k env2 ih2, Iv k env2 ih2 →
  c env2 ih2 fun b ih3 => if b = true then body { D with nx := fun env4 ih4 => ∃ k', k' < k ∧ Iv k' env4 ih4, ct := fun env4 ih4 => ∃ k', k' < k ∧ Iv k' env4 ih4, bk := D.nx } env2 ih3 else D.nx env2 ih3
theorem sv_while {c : Expr} {body : List Stmt} {ac : AT} (hc : TV F c ac) (hb : BV F body ta) : SV F (.While c body [] pos) (aWhile ac ta) := by
  obtain ⟨t, p, q⟩ := hc
  obtain ⟨t2, p2, q2⟩ := hb
  refine ⟨tWhile t t2, fun X hX => ps_while (F.po X hX) (p X hX) (p2 X hX), fun J jk m ih H env σ Da D S E h f => ?_⟩
  obtain ⟨Iv, ⟨k0, i0⟩, turn⟩ := h
  let W : Nat → L2.St → Hp → Prop := fun k σ' H' => ∃ m' ih' env', Sim F.K J m' ih' H' ∧ Xt m ih H m' ih' H' ∧ EnvR F.K J m' ih' H' env' σ' ∧ Iv k env' ih'
  refine ⟨W, ⟨k0, m, ih, env, S, Xt.refl, E, i0⟩, ?_⟩
  rintro k σ2 H2 ⟨m2, ih2, env2, S2, x2, E2, v2⟩
  refine q J jk m2 ih2 H2 env2 σ2 _ _ S2 E2 (turn k env2 ih2 v2) fun m3 ih3 H3 b S3 x3 k3 => ?_
  have x13 := x2.trans x3
  cases b with
  | true =>
    rw [if_pos rfl] at k3 ⊢
    refine ⟨fun σ' H' => ∃ k', k' < k ∧ W k' σ' H', fun _ _ h => h, q2 J jk m3 ih3 H3 env2 σ2 _ _ S3 (E2.mono S2 x3) k3 ⟨fun m5 ih5 H5 env5 σ5 S5 x5 E5 k5 => ?_, (f.step x13).rt, (f.step x13).nx, fun m5 ih5 H5 env5 σ5 S5 x5 E5 k5 => ?_⟩⟩
    · obtain ⟨k', hk, v5⟩ := k5
      exact ⟨k', hk, m5, ih5, env5, S5, x13.trans x5, E5, v5⟩
    · obtain ⟨k', hk, v5⟩ := k5
      exact ⟨k', hk, m5, ih5, env5, S5, x13.trans x5, E5, v5⟩
  | false =>
    rw [if_neg Bool.false_ne_true] at k3 ⊢
    exact f.nx m3 ih3 H3 env2 σ2 S3 x13 (E2.mono S2 x3) k3
end
end Pz

end
section
set_option Elab.async false
set_option linter.all false
set_option maxRecDepth 100000
set_option autoImplicit false
/-! Fw9: defs and their promises over data. -/
namespace Pz
open PySem PySem.Spec L2

/-- what a def promises: of its arguments and the mutable objects, what is wanted behind -/
abbrev ASp := List W → IH → QW → Prop
def lift (K : PySem.W.Frag) (sp : ASp) (vs : List V) (H : Hp) (Q : VK) : Prop := ∃ J m ih ws Qa, Sim K J m ih H ∧ Paired (WR K J m ih H) ws vs ∧ sp ws ih Qa ∧ Fu K J m ih H Qa Q
structure FnG (P : Program) (w : World) (K : PySem.W.Frag) (mg : Str → Option Value) (base : Heap) (k : Nat) (f : Addr) (fd : FuncData) (ps : List Str) (sp : ASp) : Prop where
  run : ∀ (A : Around) (outer : List PySem.Env) (s : Shared) (H : Hp) (args : Args) (us : List Value) (vs : List V) (Q : VK), A.guards = some [] → Room k A → Env0 P w K mg base A outer s H → BindsTo s fd args (ps.zip us) → Vals vs us → vs.length = ps.length →
    lift K sp vs H Q → codeAny (model P w) A (.call (.ref f) args) (CR CX0 outer P w H s Q E0) s
theorem FnG.mono {P : Program} {w : World} {K : PySem.W.Frag} {mg : Str → Option Value} {base : Heap} {j k : Nat} {f : Addr} {fd : FuncData} {ps : List Str} {sp : ASp} (G : FnG P w K mg base j f fd ps sp) (h : j ≤ k) : FnG P w K mg base k f fd ps sp :=
  ⟨fun A outer s H args us vs Q hg hr => G.run A outer s H args us vs Q hg (hr.mono h)⟩
/-- a weaker promise -/
theorem FnG.imp {P : Program} {w : World} {K : PySem.W.Frag} {mg : Str → Option Value} {base : Heap} {k : Nat} {f : Addr} {fd : FuncData} {ps : List Str} {sp sq : ASp} (G : FnG P w K mg base k f fd ps sp) (h : ∀ ws ih Q, sq ws ih Q → sp ws ih Q) : FnG P w K mg base k f fd ps sq :=
  ⟨fun A outer s H args us vs Q hg hr he hb hv hl ⟨J, m, ih, ws, Qa, S, r, q, f⟩ => G.run A outer s H args us vs Q hg hr he hb hv hl ⟨J, m, ih, ws, Qa, S, r, h _ _ _ q, f⟩⟩

section
variable {K : PySem.W.Frag} {J : JT} {m m1 : List Addr} {ih ih1 ex : IH} {H H1 : Hp}
mutual
theorem DR.less {L L1 : Addr → Prop} (h : ∀ a, L1 a → L a) : ∀ {d : D} {v : V}, DR K L H d v → DR K L1 H d v
  | .none, v, q => by rw [q.non']; exact DR.non
  | .bool b, v, q => by rw [q.bl']; exact DR.bl
  | .int i, v, q => by rw [q.int']; exact DR.int
  | .str s, v, q => by rw [q.str']; exact DR.str
  | .tuple xs, v, q => by
    obtain ⟨a, vs, rfl, hs, hr⟩ := q.tup'
    exact DR.tup hs (DRs.less h hr)
  | .list xs, v, q => by
    obtain ⟨a, vs, rfl, hs, hn, hr⟩ := q.lst'
    exact DR.lst hs (fun z => hn (h a z)) (DRs.less h hr)
  | .dict xs, v, q => by
    obtain ⟨a, vs, rfl, hs, hn, hr⟩ := q.dic'
    exact DR.dic hs (fun z => hn (h a z)) (DRk.less h hr)
theorem DRs.less {L L1 : Addr → Prop} (h : ∀ a, L1 a → L a) : ∀ {d : List D} {v : List V}, DRs K L H d v → DRs K L1 H d v
  | [], v, q => by unfold DRs at q ⊢; exact q
  | d :: ds, v, q => by
    unfold DRs at q ⊢
    obtain ⟨v, r, rfl, h1, h2⟩ := q
    exact ⟨v, r, rfl, DR.less h h1, DRs.less h h2⟩
theorem DRk.less {L L1 : Addr → Prop} (h : ∀ a, L1 a → L a) : ∀ {d : List (D × D)} {v : List (Key × V)}, DRk K L H d v → DRk K L1 H d v
  | [], v, q => by unfold DRk at q ⊢; exact q
  | (k, d) :: ds, v, q => by
    unfold DRk at q ⊢
    obtain ⟨k', v, r, rfl, e, h1, h2⟩ := q
    exact ⟨k', v, r, rfl, e, DR.less h h1, DRk.less h h2⟩
end
theorem live_sub {t : List Addr} {a : Addr} (h : Live m ih a) : Live (m ++ t) (ih ++ ex) a := by
  obtain ⟨i, o, e1, e2, e3⟩ := h
  exact ⟨i, o, by rw [List.getElem?_append_left (List.getElem?_eq_some_iff.mp e1).1]; exact e1, by rw [List.getElem?_append_left (List.getElem?_eq_some_iff.mp e2).1]; exact e2, e3⟩
theorem own_sub {t : List Addr} {a : Addr} (h : Own J m ih a) : Own J (m ++ t) (ih ++ ex) a := h.elim (fun z => .inl (live_sub z)) .inr
/-- the same value, with fewer objects at hand; the references were there -/
theorem WR.less {t : List Addr} {w : W} {v v0 : V} {H0 : Hp} (h : WR K J (m ++ t) (ih ++ ex) H w v) (h0 : WR K J m ih H0 w v0) : WR K J m ih H w v := by
  cases w with
  | d x => exact DR.less (L := Own J (m ++ t) (ih ++ ex)) (fun a z => own_sub z) h
  | ref n =>
    obtain ⟨a, e, rfl⟩ := h
    obtain ⟨b, e2, _⟩ := h0
    rw [List.getElem?_append_left (List.getElem?_eq_some_iff.mp e2).1] at e
    exact ⟨a, e, rfl⟩
  | scr ns =>
    obtain ⟨a, rfl, q⟩ := h
    exact ⟨a, rfl, q.elim (fun z => .inl ⟨z.1, fun l => z.2 (own_sub l)⟩) .inr⟩
theorem paired_less {t : List Addr} {H0 : Hp} : ∀ {ws : List W} {vs v0 : List V}, Paired (WR K J (m ++ t) (ih ++ ex) H) ws vs → Paired (WR K J m ih H0) ws v0 → Paired (WR K J m ih H) ws vs
  | _, _, _, .nil, _ => .nil
  | _, _, _, .cons r t, .cons r0 t0 => .cons (r.less r0) (paired_less t t0)
theorem pairedk_less {t : List Addr} {H0 : Hp} : ∀ {ws : List (Key × W)} {vs v0 : List (Key × V)}, Paired (fun (p : Key × W) (q : Key × V) => p.1 = q.1 ∧ WR K J (m ++ t) (ih ++ ex) H p.2 q.2) ws vs →
    Paired (fun (p : Key × W) (q : Key × V) => p.1 = q.1 ∧ WR K J m ih H0 p.2 q.2) ws v0 → Paired (fun (p : Key × W) (q : Key × V) => p.1 = q.1 ∧ WR K J m ih H p.2 q.2) ws vs
  | _, _, _, .nil, _ => .nil
  | _, _, _, .cons r t, .cons r0 t0 => .cons ⟨r.1, r.2.less r0.2⟩ (pairedk_less t t0)
/-- the objects that came within a call are forgotten behind it -/
theorem Sim.trunc (S : Sim K J m ih H) (S1 : Sim K J m1 (ih ++ ex) H1) (x : Xt m ih H m1 (ih ++ ex) H1) : Sim K J m ih H1 ∧ Xt m ih H m ih H1 := by
  obtain ⟨t, rfl, _⟩ := x.pre
  have y : Xt m ih H m ih H1 := ⟨⟨[], (List.append_nil m).symm, fun _ z => absurd z (by simp)⟩, fun a o e n => ⟨(x.keep a o e n).1, n⟩, x.there⟩
  refine ⟨⟨J.cl _ _ _ _ _ _ S.j y, S.len, S.nd, fun a h z => S1.th a (List.mem_append_left _ h) z, S.hd_mono y, fun i a o e1 e2 => ?_⟩, y⟩
  have q0 := S.ob i a o e1 e2
  have q1 := S1.ob i a o (by rw [List.getElem?_append_left (List.getElem?_eq_some_iff.mp e1).1]; exact e1) (by rw [List.getElem?_append_left (List.getElem?_eq_some_iff.mp e2).1]; exact e2)
  cases o with
  | dead => exact True.intro
  | lst ws =>
    obtain ⟨vs0, _, r0⟩ := q0
    obtain ⟨vs, e, r⟩ := q1
    exact ⟨vs, e, paired_less r r0⟩
  | dic ws =>
    obtain ⟨vs0, _, r0⟩ := q0
    obtain ⟨vs, e, r⟩ := q1
    exact ⟨vs, e, pairedk_less r r0⟩
  | any n phi =>
    obtain ⟨_, _, _, hn, _⟩ := q0
    obtain ⟨o, e, mu, _, p⟩ := q1
    exact ⟨o, e, mu, hn, by rw [List.take_append_of_le_length hn] at p; exact p⟩
end

/-! ### a def's body -/
def startA (N : List Str) (ws : List W) : En := ws.map some ++ List.replicate (N.length - ws.length) none
theorem startA_env {K : PySem.W.Frag} {J : JT} {m : List Addr} {ih : IH} {H : Hp} {N : List Str} {ws : List W} {vs : List V} (r : Paired (WR K J m ih H) ws vs) : EnvR K J m ih H (startA N ws) (L2.start N vs) := by
  refine ⟨by unfold startA L2.start; simp [Paired.len2 r], fun i w e => ?_⟩
  unfold startA at e
  by_cases hi : i < ws.length
  · rw [List.getElem?_append_left (by simpa using hi), List.getElem?_map] at e
    cases q : ws[i]? with
    | none => rw [q] at e; cases e
    | some u =>
      rw [q] at e
      have eu : u = w := by simpa using e
      subst eu
      obtain ⟨v, e2, r2⟩ := paired_get r q
      refine ⟨v, ?_, r2⟩
      unfold L2.start
      rw [List.getElem?_append_left (by rw [List.length_map]; exact (List.getElem?_eq_some_iff.mp e2).1), List.getElem?_map, e2]
      rfl
  · rw [List.getElem?_append_right (by simpa using hi), List.getElem?_replicate] at e
    split at e <;> cases e
/-- behind a def's body: what it made for itself is forgotten; a list of its own that it hands back is data from then on -/
def finD (ih : IH) (Q : QW) : QW := fun w ih1 => match w with
  | .d x => (∃ ex, ih1 = ih ++ ex) ∧ Q (.d x) ih
  | .ref n => ih.length ≤ n ∧ (∃ ex, ih1 = ih ++ ex) ∧ optW (view (.ref n) ih1) fun x => Q (.d x) ih
  | .scr _ => False
theorem view_ob {n : Nat} {ih : IH} {x : D} (h : view (.ref n) ih = some x) : ∃ ws, ih[n]? = some (.lst ws) := by
  unfold view at h
  simp only at h
  split at h
  · exact ⟨_, by assumption⟩
  · cases h
theorem finD_fu {K : PySem.W.Frag} {J : JT} {m : List Addr} {ih : IH} {H : Hp} {Qa : QW} {Q : VK} (S : Sim K J m ih H) (f : Fu K J m ih H Qa Q) : Fu K J m ih H (finD ih Qa) Q := fun m1 ih1 H1 w v S1 x1 r1 q1 => by
  unfold finD at q1
  split at q1
  · obtain ⟨⟨ex, rfl⟩, q⟩ := q1
    obtain ⟨S2, x2⟩ := S.trunc S1 x1
    obtain ⟨t, rfl, _⟩ := x1.pre
    exact f m ih H1 (.d _) v S2 x2 (show DR _ _ _ _ _ from DR.less (L := Own J (m ++ t) (ih ++ ex)) (fun a z => own_sub z) r1) q
  · rename_i n
    obtain ⟨hn, ⟨ex, rfl⟩, q⟩ := q1
    obtain ⟨x, e, q⟩ := optW_some q
    obtain ⟨S2, x2⟩ := S.trunc S1 x1
    obtain ⟨ds, rfl⟩ := view_ref e
    obtain ⟨g, vs, rfl, hs, hr⟩ := view_lst S1 r1 e
    obtain ⟨g2, eg, e2⟩ := r1
    cases e2
    obtain ⟨t, rfl, _⟩ := x1.pre
    refine f m ih H1 (.d _) _ S2 x2 (show DR _ _ _ _ _ from DR.lst (L := Own J m ih) hs (fun l => l.elim (fun l => ?_) fun l => ?_) (DRs.less (L := Own J (m ++ t) (ih ++ ex)) (fun a z => own_sub z) hr)) q
    obtain ⟨i, o, e1, e2, _⟩ := l
    have hi : i < m.length := (List.getElem?_eq_some_iff.mp e1).1
    have e3 : (m ++ t)[i]? = some g := by rw [List.getElem?_append_left hi]; exact e1
    have hnd := S1.nd
    have : i = n := nd_ix hnd e3 eg
    have := S.len
    omega
    · obtain ⟨ws, e4⟩ := view_ob e
      exact (S1.hd g l).2 ⟨n, _, eg, e4, rfl⟩
  · exact q1.elim

section
variable {P : Program} {w : World} {K : PySem.W.Frag} {mg : Str → Option Value} {base : Heap}
/-- the contexts of a def's body -/
def Fam.ofDef (P : Program) (w : World) (K : PySem.W.Frag) (mg : Str → Option Value) (base : Heap) (k : Nat) (N : List Str) (sc : Scope) (qual : Str) (f : Addr) (cdv : Value) (nd : N.Nodup) : Fam where
  ok := fun X => ∃ (A : Around) (outer : List PySem.Env) (s : Shared) (H : Hp), A.guards = some [] ∧ Room k (A.deeper (PyProof.Rows.envOfC qual sc s.heap.objs.size f cdv)) ∧ X = (cxOf CX0 P w K mg base N qual sc f cdv A outer s H E0).nox
  N := N
  sc := sc
  P := P
  w := w
  K := K
  mg := mg
  base := base
  k := k
  nd := nd
  hN := by rintro X ⟨A, o, s, H, g, r, rfl⟩; rfl
  hsc := by rintro X ⟨A, o, s, H, g, r, rfl⟩; rfl
  hP := by rintro X ⟨A, o, s, H, g, r, rfl⟩; rfl
  hw := by rintro X ⟨A, o, s, H, g, r, rfl⟩; rfl
  hK := by rintro X ⟨A, o, s, H, g, r, rfl⟩; rfl
  hmg := by rintro X ⟨A, o, s, H, g, r, rfl⟩; rfl
  hbase := by rintro X ⟨A, o, s, H, g, r, rfl⟩; rfl
  calm := by rintro X ⟨A, o, s, H, g, r, rfl⟩; rfl
  room := by rintro X ⟨A, o, s, H, g, r, rfl⟩; exact r
  grd := by rintro X ⟨A, o, s, H, g, r, rfl⟩; exact g
  jk := fun _ => True
  jkc := fun _ _ _ _ => True.intro
  po := by rintro X ⟨A, o, s, H, g, r, rfl⟩; exact PassesOwn.never
/-- THE RULE for a def -/
theorem fnG_any {x qual : Str} {st : Stmt} {f : Addr} {fd : FuncData} {N ps : List Str} {k : Nat} {sp : ASp} {ta : AS} (G : Fun K x qual st f fd) (S : FnScope N ps (defScope st))
    (hb : ∀ cdv, BV (Fam.ofDef P w K mg base k N (defScope st) qual f cdv S.nd) (defBody st) ta)
    (hq : ∀ J ws m ih H Qa Q, ws.length = ps.length → Sim K J m ih H → sp ws ih Qa → Fu K J m ih H Qa Q → ∃ Da : AEnds, ta Da (startA N ws) ih ∧ Fd K J m ih H Da { nx := fun _ H' => Q .non H', rt := Q }) : FnG P w K mg base (k + 1) f fd ps sp := by
  refine ⟨fun A outer s H args us vs Q hg hr he hbd hv hl ⟨J, m, ih, ws, Qa, S0, r, q, fu⟩ => ?_⟩
  obtain ⟨oc, od, kV, doc, pm, an, cdv, ct, osl, rfl, lk, hcd⟩ := G.ex
  have KX : K.In s.heap := he.mod.kin.keeps fun b o e => (he.bs b o e).1
  have lim : s.heap.NoLimit := he.mod.nolimit.keeps fun b o e => (he.bs b o e).1
  have kinds : ∀ y ∈ ps.zip us, (defScope st).names.lookup y.1 = some .local ∨ ((defScope st).names.lookup y.1 = some .cell ∧ ((cellsFrom (s.heap.objs.size + 1) (defScope st).names []).lookup y.1).isSome = true) := fun y hy => by
    obtain ⟨n, u⟩ := y
    exact (S.par n (List.of_mem_zip hy).1).elim .inl fun z => .inr ⟨z, PySem.W.cellsFrom_some _ _ _ (.inl z)⟩
  refine codeAny_call_function hr.depth (KX _ _ lk) rfl S.co S.gen rfl (PySem.W.codeRec_of KX hcd) (hbd _ _ _ _ ?_)
  refine wpAny_newFunctionEnv_cells S.kind kinds fun env e2 s1 x => ?_
  subst e2
  refine ⟨lim.keeps x.toInCall.keep, codeAny_func ?_⟩
  obtain ⟨t, pt, rt⟩ := hb cdv
  have I := inv_start (CX := CX0) (P := P) (w := w) (E := E0) (qual := qual) (f := f) (cd := cdv) S hr.hd he hl hv x
  obtain ⟨Da, h1, h2⟩ := hq J ws m ih H Qa Q (by rw [← hl, Paired.len2 r]) S0 q fu
  have body := (pt _ ⟨A, outer, s, H, hg, hr.deeper _, rfl⟩).nox
  refine wpAny_mono (body.run [] s1 (L2.start N vs) H _ I (rt J True.intro m ih H _ _ Da _ S0 (startA_env r) h1 h2)) (fun fl s' hs => ?_) fun e s' hs => hs
  cases fl with
  | ret u =>
    obtain ⟨v, σ', H', I', rv, q'⟩ := hs
    exact ⟨v, H', I'.os, I'.bare, I'.base, I'.hok, rv, q'⟩
  | next =>
    obtain ⟨σ', H', I', q'⟩ := hs
    exact ⟨.non, H', I'.os, I'.bare, I'.base, I'.hok, rfl, q'⟩
  | brk => obtain ⟨_, _, _, z⟩ := hs; exact False.elim z
  | cont => obtain ⟨_, _, _, z⟩ := hs; exact False.elim z
theorem fd_fn {J : JT} {m : List Addr} {ih : IH} {H : Hp} {Qa : QW} {Q : VK} (f : Fu K J m ih H Qa Q) : Fd K J m ih H { nx := fun _ ih' => Qa (.d .none) ih', rt := Qa } { nx := fun _ H' => Q .non H', rt := Q } :=
  ⟨fun m1 ih1 H1 env σ S1 x1 E1 k1 => f m1 ih1 H1 _ _ S1 x1 WR.non k1, f, fun m1 ih1 H1 env σ S1 x1 E1 k1 => k1, fun m1 ih1 H1 env σ S1 x1 E1 k1 => k1⟩
/-- .. that hands back data and leaves the objects that were there -/
theorem fnG_of {x qual : Str} {st : Stmt} {f : Addr} {fd : FuncData} {N ps : List Str} {k : Nat} {sp : ASp} {ta : AS} (G : Fun K x qual st f fd) (S : FnScope N ps (defScope st))
    (hb : ∀ cdv, BV (Fam.ofDef P w K mg base k N (defScope st) qual f cdv S.nd) (defBody st) ta)
    (hq : ∀ ws ih Qa, ws.length = ps.length → sp ws ih Qa → ta { nx := fun _ ih' => finD ih Qa (.d .none) ih', rt := finD ih Qa } (startA N ws) ih) : FnG P w K mg base (k + 1) f fd ps sp :=
  fnG_any G S hb fun J ws m ih H Qa Q hl S0 q fu => ⟨_, hq ws ih Qa hl q, fd_fn (finD_fu S0 fu)⟩
/-- .. that hands back anything -/
theorem fnG_ofI {x qual : Str} {st : Stmt} {f : Addr} {fd : FuncData} {N ps : List Str} {k : Nat} {sp : ASp} {ta : AS} (G : Fun K x qual st f fd) (S : FnScope N ps (defScope st))
    (hb : ∀ cdv, BV (Fam.ofDef P w K mg base k N (defScope st) qual f cdv S.nd) (defBody st) ta)
    (hq : ∀ ws ih Qa, ws.length = ps.length → sp ws ih Qa → ta { nx := fun _ ih' => Qa (.d .none) ih', rt := Qa } (startA N ws) ih) : FnG P w K mg base (k + 1) f fd ps sp :=
  fnG_any G S hb fun J ws m ih H Qa Q hl S0 q fu => ⟨_, hq ws ih Qa hl q, fd_fn fu⟩
end

/-! ### calls -/
def pick {α : Type} (is : List Nat) (xs : List α) : List α := is.filterMap fun i => xs[i]?
theorem pick_paired {α β : Type} {G : α → β → Prop} {xs : List α} {ys : List β} (h : Paired G xs ys) : ∀ is : List Nat, Paired G (pick is xs) (pick is ys)
  | [] => .nil
  | i :: is => by
    have r := pick_paired h is
    unfold pick at r ⊢
    rw [List.filterMap_cons, List.filterMap_cons]
    cases e : xs[i]? with
    | none =>
      have e2 : ys[i]? = none := List.getElem?_eq_none (by rw [Paired.len2 h]; exact List.getElem?_eq_none_iff.mp e)
      rw [e2]
      exact r
    | some a =>
      obtain ⟨b, e2, g⟩ := paired_get h e
      rw [e2]
      exact .cons g r
theorem paired_app {α β : Type} {G : α → β → Prop} : ∀ {xs zs : List α} {ys us : List β}, Paired G xs ys → Paired G zs us → Paired G (xs ++ zs) (ys ++ us)
  | _, _, _, _, .nil, h => h
  | _, _, _, _, .cons r t, h => .cons r (paired_app t h)
def KV1 (F : Fam) (kws : List Keyword) (ta : AA) : Prop := ∃ t, (∀ X, F.ok X → PK X kws t) ∧ RA F t ta
def aCall (n : Nat) (sp : ASp) (ta : AA) : AE := fun env ih Q => ta env ih fun ws ih1 => ws.length = n ∧ sp ws ih1 Q
def aCallK (a b : Nat) (is : List Nat) (sp : ASp) (ta tk : AA) : AE := fun env ih Q => ta env ih fun ws ih1 => tk env ih1 fun zs ih2 => ws.length = a ∧ zs.length = b ∧ sp (pick is (ws ++ zs)) ih2 Q
section
variable {F : Fam} {pos p kpos : Pos} {e : Expr} {es : List Expr} {kws : List Keyword} {aa : AE} {ta tk : AA} {x : Str} {f : Addr} {fd : FuncData} {ps ks : List Str} {sp : ASp} {j : Nat} {nm : Option Str}
theorem kv_nil : KV1 F [] aNil := ⟨_, fun _ _ => pk_nil, fun J jk m ih H env σ Qa Q S E h f => f m ih H [] [] S Xt.refl .nil h⟩
theorem kv_cons (h1 : EV F e aa) (h2 : KV1 F kws tk) : KV1 F (⟨nm, e, kpos⟩ :: kws) (aCons aa tk) := by
  obtain ⟨t, p, r⟩ := h1
  obtain ⟨u, p2, r2⟩ := h2
  exact ⟨_, fun X hX => pk_cons (p X hX) (p2 X hX), ra_cons r r2⟩
/-- the callee's promise brings the wish of the caller -/
theorem lift_of {K : PySem.W.Frag} {J : JT} {m m1 : List Addr} {ih ih1 : IH} {H H1 : Hp} {ws : List W} {vs : List V} {Qa : QW} {Q : VK} (S1 : Sim K J m1 ih1 H1) (x1 : Xt m ih H m1 ih1 H1) (r1 : Paired (WR K J m1 ih1 H1) ws vs) (q : sp ws ih1 Qa) (f : Fu K J m ih H Qa Q) : lift K sp vs H1 Q :=
  ⟨J, m1, ih1, ws, Qa, S1, r1, q, f.step x1⟩
theorem FnG.at_ {X : Cx} (hX : F.ok X) (G : FnG F.P F.w F.K F.mg F.base j f fd ps sp) : FnG X.prog X.w X.K X.mg X.base j f fd ps sp := by
  rw [F.hP X hX, F.hw X hX, F.hK X hX, F.hmg X hX, F.hbase X hX]
  exact G
theorem runG {X : Cx} (hX : F.ok X) (G : FnG F.P F.w F.K F.mg F.base j f fd ps sp) (hj : j ≤ F.k) {pins : List (Addr × Obj)} {s : Shared} {σ : L2.St} {H : Hp} {Q : VK} {us ws bs : List Value} {vs : List V} (I : Inv X pins σ H s) (r : Vals vs bs) (hl : vs.length = ps.length)
    (hb : BindsTo s fd ⟨us, ks.zip ws⟩ (ps.zip bs)) (h : lift X.K sp vs H Q) : wpAny (model X.prog X.w) X.A (call (.ref f) us (ks.zip ws)) (EP X pins σ Q) X.xe s := by
  refine wpAny_call (codeAny_mono ((G.at_ hX).run X.A X.stack s H ⟨us, ks.zip ws⟩ bs vs Q (F.grd X hX) ((F.room X hX).mono hj) I.env0 hb r hl h) fun z s' hz => ?_)
  cases z with
  | error e => exact False.elim hz
  | ok fl =>
    cases fl with
    | ret u => exact I.after hz
    | next => exact False.elim hz
    | brk => exact False.elim hz
    | cont => exact False.elim hz
theorem ev_call (G : FnG F.P F.w F.K F.mg F.base j f fd ps sp) (hj : j ≤ F.k) (hg : Glb F x) (hm : F.mg x = some (.ref f)) (kp : PySem.W.keepIn F.K (.ref f) = true) (hb : Binds F.K fd ps []) (ha : AV F (e :: es) ta)
    (hdb : (x == ("__debug__" : Str)) = false := by decide) (he : ∀ env, starEach (e :: es) env = (false, eval e env) :: starEach es env := by intro _; rfl) (hpl : ∀ env, (backTo pos (starEach es env)).any (·.1) = false := by intro _; rfl) :
    EV F (.Call (.Name x p) (e :: es) [] pos) (aCall ps.length sp ta) := by
  obtain ⟨t, q, r⟩ := ha
  refine ⟨fun σ H Q => t σ H fun vs H1 => vs.length = ps.length ∧ lift F.K sp vs H1 Q, fun X hX => ?_, fun J jk m ih H env σ Qa Q S E h f => ?_⟩
  · rw [← F.hK X hX]
    refine ⟨fun pins s σ H Q I h => ?_⟩
    refine wpAny_Call_Name_kw (ld_glob I (Fam.gl hX hg) (by rw [F.hmg X hX]; exact hm) ?_ hdb)
    refine PySem.W.callWith_K (h₀ := X.base) I.ok.mod.kin (by rw [F.hK X hX]; exact kp) (thn ((q X hX).run pos pins s σ H _ I h) fun us s1 ⟨vs, H1, I1, rv, hl, q1⟩ => ⟨I1.kIn, ?_⟩) (he _) (hpl _)
    have b := hb s1 us (by have := I1.kIn; rwa [F.hK X hX] at this) (by rw [List.append_nil, ← rv.length]; exact hl)
    rw [List.append_nil] at b
    exact runG hX G hj (ks := []) (ws := []) I1 rv hl b q1
  · refine r J jk m ih H env σ _ _ S E h fun m1 ih1 H1 ws vs S1 x1 r1 q1 => ⟨by rw [Paired.len2 r1]; exact q1.1, lift_of S1 x1 r1 q1.2 f⟩
theorem ev_call0 (G : FnG F.P F.w F.K F.mg F.base j f fd [] sp) (hj : j ≤ F.k) (hg : Glb F x) (hm : F.mg x = some (.ref f)) (kp : PySem.W.keepIn F.K (.ref f) = true) (hb : Binds F.K fd [] []) (hdb : (x == ("__debug__" : Str)) = false := by decide) :
    EV F (.Call (.Name x p) [] [] pos) (aCall 0 sp aNil) := by
  refine ⟨fun σ H Q => lift F.K sp [] H Q, fun X hX => ?_, fun J jk m ih H env σ Qa Q S E h f => lift_of S Xt.refl .nil h.2 f⟩
  rw [← F.hK X hX]
  refine ⟨fun pins s σ H Q I h => ?_⟩
  refine wpAny_Call_Name_kw (ld_glob I (Fam.gl hX hg) (by rw [F.hmg X hX]; exact hm) ?_ hdb)
  refine PySem.W.callWith_K0 I.kIn (by rw [F.hK X hX]; exact kp) ?_
  exact runG hX G hj (ks := []) (ws := []) (us := []) (bs := []) I .nil rfl (hb s [] (by have := I.kIn; rwa [F.hK X hX] at this) rfl) h
/-- how a call with keywords binds -/
def KB (fd : FuncData) (ps ks : List Str) (a b : Nat) (is : List Nat) : Prop := ∀ (s : Shared) (us ws : List Value), us.length = a → ws.length = b → (pick is (us ++ ws)).length = ps.length ∧ BindsTo s fd ⟨us, ks.zip ws⟩ (ps.zip (pick is (us ++ ws)))
theorem ev_callK {a b : Nat} {is : List Nat} (G : FnG F.P F.w F.K F.mg F.base j f fd ps sp) (hj : j ≤ F.k) (hg : Glb F x) (hm : F.mg x = some (.ref f)) (kp : PySem.W.keepIn F.K (.ref f) = true) (hb : KB fd ps ks a b is) (ha : AV F (e :: es) ta) (hkw : KV1 F kws tk)
    (hall : ∀ env, (backToKw pos (keywordEach kws env)).all (·.1.isSome) = true := by intro _; rfl) (hks : ∀ env, (backToKw pos (keywordEach kws env)).filterMap (·.1) = ks := by intro _; rfl)
    (hdb : (x == ("__debug__" : Str)) = false := by decide) (he : ∀ env, starEach (e :: es) env = (false, eval e env) :: starEach es env := by intro _; rfl)
    (hpl : ∀ env, ((backTo pos (starEach (e :: es) env)).any (·.1) || (backToKw pos (keywordEach kws env)).any (·.1.isNone)) = false := by intro _; rfl) :
    EV F (.Call (.Name x p) (e :: es) kws pos) (aCallK a b is sp ta tk) := by
  obtain ⟨t, q, r⟩ := ha
  obtain ⟨u, q2, r2⟩ := hkw
  refine ⟨fun σ H Q => t σ H fun vs H1 => u σ H1 fun zs H2 => (vs.length = a ∧ zs.length = b) ∧ lift F.K sp (pick is (vs ++ zs)) H2 Q, fun X hX => ?_, fun J jk m ih H env σ Qa Q S E h f => ?_⟩
  · rw [← F.hK X hX]
    refine ⟨fun pins s σ H Q I h => ?_⟩
    refine wpAny_Call_Name_kw (ld_glob I (Fam.gl hX hg) (by rw [F.hmg X hX]; exact hm) ?_ hdb)
    refine PySem.W.callWith_KW (h₀ := X.base) I.ok.mod.kin (by rw [F.hK X hX]; exact kp) (hall _) (thn ((q X hX).run pos pins s σ H _ I h) fun us s1 ⟨vs, H1, I1, rv, q1⟩ => ?_) (hpl _) (he _)
    refine thn ((q2 X hX).run pos pins s1 σ H1 _ I1 q1) fun ws s2 ⟨zs, H2, I2, rz, hl, q3⟩ => ⟨I2.kIn, ?_⟩
    rw [hks]
    obtain ⟨e1, b1⟩ := hb s2 us ws (by rw [← rv.length]; exact hl.1) (by rw [← rz.length]; exact hl.2)
    have rp : Vals (pick is (vs ++ zs)) (pick is (us ++ ws)) := pick_paired (paired_app rv rz) is
    exact runG hX G hj I2 rp (by rw [rp.length]; exact e1) b1 q3
  · refine r J jk m ih H env σ _ _ S E h fun m1 ih1 H1 ws vs S1 x1 r1 q1 => ?_
    refine r2 J jk m1 ih1 H1 env σ _ _ S1 (E.mono S x1) q1 fun m2 ih2 H2 ws2 vs2 S2 x2 r2 q2 => ⟨⟨by rw [Paired.len2 r1]; exact q2.1, by rw [Paired.len2 r2]; exact q2.2.1⟩, lift_of S2 (x1.trans x2) (pick_paired (paired_app (paired_mono S1 x2 r1) r2) is) q2.2.2 f⟩
theorem ev_callK0 {b : Nat} {is : List Nat} (G : FnG F.P F.w F.K F.mg F.base j f fd ps sp) (hj : j ≤ F.k) (hg : Glb F x) (hm : F.mg x = some (.ref f)) (kp : PySem.W.keepIn F.K (.ref f) = true) (hb : KB fd ps ks 0 b is) (hkw : KV1 F kws tk)
    (hall : ∀ env, (backToKw pos (keywordEach kws env)).all (·.1.isSome) = true := by intro _; rfl) (hks : ∀ env, (backToKw pos (keywordEach kws env)).filterMap (·.1) = ks := by intro _; rfl)
    (hdb : (x == ("__debug__" : Str)) = false := by decide)
    (hpl : ∀ env, ((backTo pos (starEach [] env)).any (·.1) || (backToKw pos (keywordEach kws env)).any (·.1.isNone)) = false := by intro _; rfl) :
    EV F (.Call (.Name x p) [] kws pos) (aCallK 0 b is sp aNil tk) := by
  obtain ⟨u, q2, r2⟩ := hkw
  refine ⟨fun σ H Q => u σ H fun zs H2 => zs.length = b ∧ lift F.K sp (pick is ([] ++ zs)) H2 Q, fun X hX => ?_, fun J jk m ih H env σ Qa Q S E h f => ?_⟩
  · rw [← F.hK X hX]
    refine ⟨fun pins s σ H Q I h => ?_⟩
    refine wpAny_Call_Name_kw (ld_glob I (Fam.gl hX hg) (by rw [F.hmg X hX]; exact hm) ?_ hdb)
    refine PySem.W.callWith_KW0 (h₀ := X.base) I.ok.mod.kin (by rw [F.hK X hX]; exact kp) (hall _) ?_ (hpl _)
    refine thn ((q2 X hX).run pos pins s σ H _ I h) fun ws s2 ⟨zs, H2, I2, rz, hl, q3⟩ => ⟨I2.kIn, ?_⟩
    rw [hks]
    obtain ⟨e1, b1⟩ := hb s2 [] ws rfl (by rw [← rz.length]; exact hl)
    have rp : Vals (pick is ([] ++ zs)) (pick is ([] ++ ws)) := pick_paired (paired_app .nil rz) is
    exact runG hX G hj I2 rp (by rw [rp.length]; exact e1) b1 q3
  · refine r2 J jk m ih H env σ _ _ S E h fun m2 ih2 H2 ws2 vs2 S2 x2 r2 q2 => ⟨by rw [Paired.len2 r2]; exact q2.2.1, lift_of S2 x2 (pick_paired (paired_app .nil r2) is) q2.2.2 f⟩
end
end Pz

end
section
set_option Elab.async false
set_option linter.all false
set_option maxRecDepth 100000
set_option autoImplicit false
/-! Fw10: comprehensions; zip, enumerate. -/
namespace Pz
open PySem PySem.Spec L2

/-- the blocks of a comprehension -/
def Fam.blk (F : Fam) (scope : Scope) : Fam where
  ok := fun Y => ∃ X s H C cl fp, F.ok X ∧ Y = X.blk s H scope (compEnvC scope cl C X.env) fp
  N := F.N
  sc := relS scope F.sc
  P := F.P
  w := F.w
  K := F.K
  mg := F.mg
  base := F.base
  k := F.k
  nd := F.nd
  hN := by rintro Y ⟨X, s, H, C, cl, fp, h, rfl⟩; exact F.hN X h
  hsc := by rintro Y ⟨X, s, H, C, cl, fp, h, rfl⟩; rw [← F.hsc X h]; rfl
  hP := by rintro Y ⟨X, s, H, C, cl, fp, h, rfl⟩; exact F.hP X h
  hw := by rintro Y ⟨X, s, H, C, cl, fp, h, rfl⟩; exact F.hw X h
  hK := by rintro Y ⟨X, s, H, C, cl, fp, h, rfl⟩; exact F.hK X h
  hmg := by rintro Y ⟨X, s, H, C, cl, fp, h, rfl⟩; exact F.hmg X h
  hbase := by rintro Y ⟨X, s, H, C, cl, fp, h, rfl⟩; exact F.hbase X h
  calm := by rintro Y ⟨X, s, H, C, cl, fp, h, rfl⟩; exact F.calm X h
  room := by rintro Y ⟨X, s, H, C, cl, fp, h, rfl⟩; exact F.room X h
  grd := by rintro Y ⟨X, s, H, C, cl, fp, h, rfl⟩; exact F.grd X h
  jk := F.jk
  jkc := F.jkc
  po := by rintro Y ⟨X, s, H, C, cl, fp, h, rfl⟩; exact PassesOwn.never

/-- the tests of a comprehension -/
def TVs (F : Fam) (es : List Expr) (ta : AT) : Prop := ∃ t, (∀ X, F.ok X → PTs X es t) ∧ RT F t ta
def aYes : AT := fun _ ih Q => Q true ih
section
variable {F : Fam}
theorem tvs_nil : TVs F [] aYes := ⟨tYes, fun _ _ => pts_nil, fun J jk m ih H env σ Qa Q S E h f => f.now S h⟩
theorem tvs_one {e : Expr} {ta : AT} (h : TV F e ta) : TVs F [e] ta := let ⟨_, p, q⟩ := h; ⟨_, fun X hX => pts_one (p X hX), q⟩
end
/-- the names of a comprehension forgotten -/
def wipeA (env : En) : List Nat → En
  | [] => env
  | v :: vs => (wipeA env vs).set v none
section
variable {K : PySem.W.Frag} {J : JT} {m : List Addr} {ih : IH} {H : Hp}
theorem EnvR.wipe {env : En} {σ : L2.St} (E : EnvR K J m ih H env σ) : ∀ vs : List Nat, EnvR K J m ih H (wipeA env vs) (L2.wipe σ vs)
  | [] => E
  | v :: vs => by
    have r := EnvR.wipe E vs
    refine ⟨by unfold wipeA L2.wipe; rw [List.length_set, List.length_set]; exact r.len, fun i w e => ?_⟩
    unfold wipeA at e
    unfold L2.wipe
    by_cases hi : v = i
    · subst hi
      by_cases hl : v < (wipeA env vs).length
      · rw [List.getElem?_set_self hl] at e; cases e
      · rw [List.getElem?_eq_none (by rw [List.length_set]; omega)] at e; cases e
    · rw [List.getElem?_set_ne hi] at e
      obtain ⟨u, e2, r2⟩ := r.at_ i w e
      exact ⟨u, by rw [List.getElem?_set_ne hi]; exact e2, r2⟩
end
/-- [elt for tg in iter if ..]: a word about the turn, what is made so far, and the mutable objects -/
def aLc (ai : AI) (ga : AG) (tt : AT) (te : AE) (vs : List Nat) : AE := fun env ih Q => ai env ih fun ds ih1 => ∃ Iv : Nat → List D → IH → Prop, Iv 0 [] ih1 ∧
  (∀ i d acc ih2, ds[i]? = some d → Iv i acc ih2 → acc.length ≤ i → ga (.d d) (wipeA env vs) ih2 fun env3 ih3 => tt env3 ih3 fun b ih4 =>
    if b = true then te env3 ih4 fun w ih5 => match w with
      | .d x => Iv (i + 1) (acc ++ [x]) ih5
      | _ => False
    else Iv (i + 1) acc ih4) ∧ ds.length ≤ sizeLine ∧ ∀ acc ih2, acc.length ≤ ds.length → Iv ds.length acc ih2 → Q (.d (.list acc)) ih2
/-- the state while a comprehension runs: its list stands at D -/
def jIn (J : JT) (m1 : List Addr) (ih1 : IH) (H1 : Hp) (D : Addr) : JT where
  hid := D :: J.hid
  p := fun m ih H => Xt m1 ih1 H1 m ih H ∧ J.p m ih H
  cl := fun m ih H m' ih' H' h x => ⟨h.1.trans x, J.cl _ _ _ _ _ _ h.2 x⟩
section
variable {K : PySem.W.Frag} {J : JT} {m m1 : List Addr} {ih ih1 : IH} {H H1 : Hp} {D : Addr}
theorem jIn_ok (hD : H1 D = none) : HidOk J (jIn J m1 ih1 H1 D) H1 := fun a h => (List.mem_cons.mp h).elim (fun z => .inr (by rw [z]; exact hD)) .inl
/-- at the start -/
theorem Sim.hide (S : Sim K J m1 ih1 H1) (hD : H1 D = none) (o : HO) : Sim K (jIn J m1 ih1 H1 D) m1 ih1 (upd H1 D o) := by
  have x : Xt m1 ih1 H1 m1 ih1 (upd H1 D o) := Xt.new S hD
  refine ⟨⟨x, J.cl _ _ _ _ _ _ S.j x⟩, S.len, S.nd, fun a h z => S.th a h (x.there a z), fun a h => ?_, fun i a u e1 e2 => ?_⟩
  · rcases List.mem_cons.mp h with e | h
    · subst e
      exact ⟨(by rw [upd_same]; intro z; cases z), fun l => Live.lt S l hD⟩
    · exact S.hd_mono x a h
  · exact (S.ob i a u e1 e2).convX S x (jIn_ok hD) (upd_ne fun z => S.th a (List.mem_of_getElem? e1) (by rw [z]; exact hD))
/-- the list grows -/
theorem Sim.grow {o : HO} (S : Sim K J m ih H) (hm : D ∈ J.hid) (nt : ∀ xs, ¬ Rd H D (.tup xs)) (j : J.p m ih (upd H D o)) : Sim K J m ih (upd H D o) ∧ ∀ (d : Pz.D) (v : V), DR K (Own J m ih) H d v → DR K (Own J m ih) (upd H D o) d v := by
  have hk : ∀ a u, H a = some u → ¬ Own J m ih a → upd H D o a = some u ∧ ¬ Own J m ih a := fun a u e n => ⟨by rw [upd_ne fun z => n (.inr (by rw [z]; exact hm))]; exact e, n⟩
  have ht : ∀ a xs, Rd H a (.tup xs) → Rd (upd H D o) a (.tup xs) := fun a xs q => by
    have hne : a ≠ D := fun z => nt xs (by rw [← z]; exact q)
    rcases q with q | ⟨ob, q⟩
    · exact .inl (by rw [upd_ne hne]; exact q)
    · exact .inr ⟨ob, by rw [upd_ne hne]; exact q⟩
  have dr : ∀ (d : Pz.D) (v : V), DR K (Own J m ih) H d v → DR K (Own J m ih) (upd H D o) d v := fun d v h => DR.conv hk ht h
  have wr : ∀ (w : W) (v : V), WR K J m ih H w v → WR K J m ih (upd H D o) w v := fun w v h => by
    cases w with
    | d y => exact dr y v h
    | ref n => exact h
    | scr ns =>
      obtain ⟨a, e, q⟩ := h
      rcases q with ⟨q, l⟩ | q
      · have hne : a ≠ D := fun z => l (.inr (by rw [z]; exact hm))
        refine ⟨a, e, .inl ⟨?_, l⟩⟩
        rcases q with q | ⟨ob, q⟩
        · exact .inl (by rw [upd_ne hne]; exact q)
        · exact .inr ⟨ob, by rw [upd_ne hne]; exact q⟩
      · exact ⟨a, e, .inr q⟩
  refine ⟨⟨j, S.len, S.nd, fun a h z => ?_, fun a h => ⟨fun z => ?_, (S.hd a h).2⟩, fun i a u e1 e2 => ?_⟩, dr⟩
  · by_cases e : a = D
    · rw [e, upd_same] at z; cases z
    · rw [upd_ne e] at z; exact S.th a h z
  · by_cases e : a = D
    · rw [e, upd_same] at z; cases z
    · rw [upd_ne e] at z; exact (S.hd a h).1 z
  · have q := S.ob i a u e1 e2
    cases hl : u.isLive with
    | true =>
      have hne : a ≠ D := fun z => (S.hd D hm).2 (by rw [← z]; exact ⟨i, u, e1, e2, hl⟩)
      cases u with
      | dead => exact True.intro
      | lst ws =>
        obtain ⟨vs, e, r⟩ := q
        exact ⟨vs, by rw [upd_ne hne]; exact e, Paired.mapR r fun _ _ z => wr _ _ z⟩
      | dic ws =>
        obtain ⟨vs, e, r⟩ := q
        exact ⟨vs, by rw [upd_ne hne]; exact e, Paired.mapR r fun _ _ z => ⟨z.1, wr _ _ z.2⟩⟩
      | any n phi =>
        obtain ⟨o, e, r⟩ := q
        exact ⟨o, by rw [upd_ne hne]; exact e, r⟩
    | false =>
      cases u with
      | dead => exact True.intro
      | lst _ => cases hl
      | dic _ => cases hl
      | any _ _ => cases hl
theorem drs_each {L : Addr → Prop} {H' : Hp} : ∀ {ds : List Pz.D} {vs : List V}, DRs K L H ds vs → (∀ (d : Pz.D) (v : V), DR K L H d v → DR K L H' d v) → DRs K L H' ds vs
  | [], vs, h, _ => by unfold DRs at h ⊢; exact h
  | d :: ds, vs, h, k => by
    unfold DRs at h ⊢
    obtain ⟨v, r, rfl, h1, h2⟩ := h
    exact ⟨v, r, rfl, k d v h1, drs_each h2 k⟩
/-- behind the comprehension: the outer set again -/
theorem WR.back (h : ∀ a, a ∈ J.hid → a ∈ (jIn J m1 ih1 H1 D).hid) {w : W} {v : V} (r : WR K (jIn J m1 ih1 H1 D) m ih H w v) : WR K J m ih H w v := by
  have sub : ∀ a, Own J m ih a → Own (jIn J m1 ih1 H1 D) m ih a := fun a z => z.elim .inl fun y => .inr (h a y)
  cases w with
  | d y => exact DR.less (L := Own (jIn J m1 ih1 H1 D) m ih) sub r
  | ref n => exact r
  | scr ns =>
    obtain ⟨a, e, q⟩ := r
    exact ⟨a, e, q.elim (fun z => .inl ⟨z.1, fun y => z.2 (sub a y)⟩) .inr⟩
theorem jIn_sub : ∀ a, a ∈ J.hid → a ∈ (jIn J m1 ih1 H1 D).hid := fun _ h => List.mem_cons_of_mem _ h
theorem Sim.back (S : Sim K (jIn J m1 ih1 H1 D) m ih H) : Sim K J m ih H := by
  refine ⟨S.j.2, S.len, S.nd, S.th, fun a h => S.hd a (jIn_sub a h), fun i a o e1 e2 => ?_⟩
  have q := S.ob i a o e1 e2
  cases o with
  | dead => exact True.intro
  | lst ws =>
    obtain ⟨vs, e, r⟩ := q
    exact ⟨vs, e, Paired.mapR r fun _ _ z => z.back jIn_sub⟩
  | dic ws =>
    obtain ⟨vs, e, r⟩ := q
    exact ⟨vs, e, Paired.mapR r fun _ _ z => ⟨z.1, z.2.back jIn_sub⟩⟩
  | any n phi => exact q
end

section
variable {F : Fam} {pos : Pos} {elt tg iter : Expr} {ifs : List Expr} {scope : Scope} {own : List (Str × Nat)} {ai : AI} {ga : AG} {tt : AT} {te : AE}
/-- the reading of a comprehension -/
theorem re_lc {wi : TI} {g : TG} {t : TT} {u : TE} {vs : List Nat} (hi : RI F wi ai) (hg : RG (F.blk scope) g ga) (hog : OnlyG vs g) (ht : RT (F.blk scope) t tt) (he : RE (F.blk scope) u te) : RE F (tLc wi g t u vs) (aLc ai ga tt te vs) := fun J jk m ih H env σ Qa Q S E h f => by
  refine hi J jk m ih H env σ _ _ S E h fun m1 ih1 H1 T ds S1 x1 Y k1 => ?_
  obtain ⟨Iv, i0, turn, hz, done⟩ := k1
  intro D hD
  have E1 := E.mono S x1
  have jk' : (F.blk scope).jk (jIn J m1 ih1 H1 D) := F.jkc J _ jk fun _ _ _ h => h.2
  let St' : Nat → Hp → Prop := fun i H' => ∃ m' ih' acc accV, Sim F.K (jIn J m1 ih1 H1 D) m' ih' H' ∧ Xt m1 ih1 H1 m' ih' H' ∧ H' D = some (.lst accV) ∧ DRs F.K (Own (jIn J m1 ih1 H1 D) m' ih') H' acc accV ∧ Iv i acc ih' ∧ acc.length ≤ i
  refine ⟨fun i k H' => k = ds.length - i ∧ i ≤ ds.length ∧ St' i H', ⟨ds.length, by simp, Nat.zero_le _, m1, ih1, [], [], S1.hide hD _, Xt.new S1 hD, upd_same, DRs.nil, i0, Nat.zero_le _⟩, ?_⟩
  rintro i k H2 ⟨rfl, hi2, m2, ih2, acc, accV, S2, x2, d2, r2, v2, l2⟩
  by_cases hlt : i < ds.length
  · refine .inr ⟨Y.go m2 ih2 H2 i x2 hlt, fun H' => i + 1 ≤ ds.length ∧ St' (i + 1) H', fun H' w => ⟨ds.length - (i + 1), by omega, rfl, w.1, w.2⟩, fun x H3 y => ?_⟩
    obtain ⟨S3, x3, d, ed, rd⟩ := Y.yld (jIn J m1 ih1 H1 D) m2 ih2 H2 i x H3 (jIn_ok hD) S2 x2 hlt y
    have x13 := x2.trans x3
    have E3 : EnvR F.K (jIn J m1 ih1 H1 D) m2 ih2 H3 (wipeA env vs) (L2.wipe σ vs) := EnvR.wipe (E1.convX S1 x13 (jIn_ok hD)) vs
    have hgo : g x (L2.wipe σ vs) H3 fun σ4 H4 => t σ4 H4 fun b H5 => if b = true then u σ4 H5 fun y H6 => ∃ acc, H6 D = some (.lst acc) ∧ acc.length < sizeLine ∧ (fun H' => i + 1 ≤ ds.length ∧ St' (i + 1) H') (upd H6 D (.lst (acc ++ [y]))) else (fun H' => i + 1 ≤ ds.length ∧ St' (i + 1) H') H5 := by
      refine hg _ jk' m2 ih2 H3 _ _ (.d d) x _ _ S3 E3 rd (turn i d acc ih2 ed v2 l2) fun m4 ih4 H4 env4 σ4 S4 x4 E4 k4 => ?_
      refine ht _ jk' m4 ih4 H4 env4 σ4 _ _ S4 E4 k4 fun m5 ih5 H5 b S5 x5 k5 => ?_
      have x15 := (x13.trans x4).trans x5
      have xd := (x3.trans x4).trans x5
      have nl := (S2.hd D (by show D ∈ D :: J.hid; simp)).2
      cases b with
      | true =>
        rw [if_pos rfl] at k5 ⊢
        refine he _ jk' m5 ih5 H5 env4 σ4 _ _ S5 (E4.mono S4 x5) k5 fun m6 ih6 H6 w v S6 x6 r6 k6 => ?_
        have xd6 := xd.trans x6
        have e6 := (xd6.keep D _ d2 nl).1
        split at k6
        · rename_i y
          have acl : accV.length < sizeLine := by rw [r2.len]; omega
          refine ⟨accV, e6, acl, hlt, m6, ih6, acc ++ [y], accV ++ [v], ?_⟩
          have x16 : Xt m1 ih1 H1 m6 ih6 (upd H6 D (.lst (accV ++ [v]))) := by
            have q := x15.trans x6
            exact ⟨q.pre, fun a o e n => ⟨by rw [upd_ne (ne_of_none e hD)]; exact (q.keep a o e n).1, (q.keep a o e n).2⟩, fun a e => by
              by_cases ha : a = D
              · rw [ha]; exact hD
              · rw [upd_ne ha] at e; exact q.there a e⟩
          obtain ⟨S7, dr⟩ := S6.grow (D := D) (o := .lst (accV ++ [v])) (by show D ∈ D :: J.hid; simp) (fun xs q => by rcases q with q | ⟨ob, q⟩ <;> (rw [e6] at q; cases q)) ⟨x16, J.cl _ _ _ _ _ _ S1.j x16⟩
          refine ⟨S7, x16, upd_same, DRs.app ?_ (DRs.cons (dr _ _ r6) DRs.nil), k6, by rw [List.length_append]; simp; omega⟩
          have ra := DRs.mono S2 xd6 acc accV r2
          exact drs_each ra dr
        · exact k6.elim
      | false =>
        rw [if_neg Bool.false_ne_true] at k5 ⊢
        exact ⟨hlt, m5, ih5, acc, accV, S5, x15, (xd.keep D _ d2 nl).1, DRs.mono S2 xd acc accV r2, k5, by omega⟩
    exact hog x _ H3 _ _ hgo fun σ4 H4 e4 q4 => ⟨by rw [e4, wipe_wipe], q4⟩
  · have e1 : i = ds.length := by omega
    subst e1
    refine .inl ⟨Y.stop m2 ih2 H2 x2, f m2 ih2 H2 (.d (.list acc)) _ S2.back (x1.trans x2) ?_ (done acc ih2 l2 v2)⟩
    have nl := (S2.hd D (by show D ∈ D :: J.hid; simp)).2
    have nh : D ∉ J.hid := fun z => (S1.hd D z).1 hD
    exact DR.lst (L := Own J m2 ih2) d2 (fun z => z.elim nl nh) (DRs.less (L := Own (jIn J m1 ih1 H1 D) m2 ih2) (fun a z => z.elim .inl fun y => .inr (jIn_sub a y)) r2)
end
end Pz

end
section
set_option Elab.async false
set_option linter.all false
set_option maxRecDepth 100000
set_option autoImplicit false
/-! Fw11: comprehensions as expressions; zip, enumerate; changing lists and dicts. -/
namespace Pz
open PySem PySem.Spec L2 RZ

section
variable {F : Fam} {pos spos p pt : Pos} {elt tg iter e e2 o i : Expr} {es elts : List Expr} {ifs : List Expr} {scope : Scope} {own : List (Str × Nat)} {ai : AI} {ga : AG} {tt : AT} {te aa ab ac : AE} {ta : AA}
theorem ev_lc (own : List (Str × Nat)) (hi : IV F tg iter ai) (ok : blkC F.N F.sc scope own = true) (hg : GW (F.blk scope) (own.map (·.2)) tg ga) (ht : TVs (F.blk scope) ifs tt) (he : EV (F.blk scope) elt te)
    (hs : ∀ env x, foldedSetIterable iter env x = pure x := by intro _ _; rfl) : EV F (.ListComp elt [⟨tg, iter, ifs, 0⟩] scope pos) (aLc ai ga tt te (own.map (·.2))) := by
  obtain ⟨wi, p1, q1⟩ := hi
  obtain ⟨g, p2, q2, og⟩ := hg
  obtain ⟨t, p3, q3⟩ := ht
  obtain ⟨u, p4, q4⟩ := he
  refine ⟨tLc wi g t u (own.map (·.2)), fun X hX => ?_, re_lc q1 q2 og q3 q4⟩
  exact pe_lc (F.calm X hX) (by rw [F.hN X hX]; exact F.nd) (p1 X hX) (blkOk_by (by rw [F.hN X hX, F.hsc X hX]; exact ok)) (fun s H C cl fp => p2 _ ⟨X, s, H, C, cl, fp, hX, rfl⟩) (fun s H C cl fp => p3 _ ⟨X, s, H, C, cl, fp, hX, rfl⟩) (fun s H C cl fp => p4 _ ⟨X, s, H, C, cl, fp, hX, rfl⟩) (hs _)
/-- x = [..] on one line -/
theorem sv_setLc (j : Nat) (own : List (Str × Nat)) {y : Str} {py : Pos} (hi : IV F tg iter ai) (ok : blkC F.N F.sc scope own = true) (hg : GW (F.blk scope) (own.map (·.2)) tg ga) (ht : TVs (F.blk scope) ifs tt) (he : EV (F.blk scope) elt te)
    (hsw : ∀ env, env.scope = F.sc → swapsWith (.ListComp elt [⟨tg, iter, ifs, 0⟩] scope pos) (some (.Name y py)) spos.line env = pure true) (hj : F.N[j]? = some y := by rfl) (hy : F.sc.names.lookup y = some .local := by rfl)
    (hs : ∀ env x, foldedSetIterable iter env x = pure x := by intro _ _; rfl) : SV F (.Assign [.Name y py] (.ListComp elt [⟨tg, iter, ifs, 0⟩] scope pos) spos) (aAsg (aLc ai ga tt te (own.map (·.2))) (aGN j)) := by
  obtain ⟨wi, p1, q1⟩ := hi
  obtain ⟨g, p2, q2, og⟩ := hg
  obtain ⟨t, p3, q3⟩ := ht
  obtain ⟨u, p4, q4⟩ := he
  refine ⟨tAsg (tLc wi g t u (own.map (·.2))) (gName j), fun X hX => ?_, fun J jk m ih H env σ Da D S E h f => ?_⟩
  · exact ps_setLc (F.calm X hX) (by rw [F.hN X hX]; exact F.nd) (by rw [F.hN X hX]; exact hj) (by rw [F.hsc X hX]; exact hy) (hsw _ (F.hsc X hX)) (p1 X hX) (blkOk_by (by rw [F.hN X hX, F.hsc X hX]; exact ok)) (fun s H C cl fp => p2 _ ⟨X, s, H, C, cl, fp, hX, rfl⟩) (fun s H C cl fp => p3 _ ⟨X, s, H, C, cl, fp, hX, rfl⟩) (fun s H C cl fp => p4 _ ⟨X, s, H, C, cl, fp, hX, rfl⟩) (hs _)
  · refine re_lc q1 q2 og q3 q4 J jk m ih H env σ _ _ S E h fun m1 ih1 H1 w v S1 x1 r1 k1 => ?_
    exact f.nx m1 ih1 H1 _ _ S1 x1 ((E.mono S x1).set r1) k1

/-! ### zip, enumerate -/
def zipD (xs ys : List D) : List D := List.zipWith (fun x y => PyData.tuple [x, y]) xs ys
theorem zipD_len (xs ys : List D) : (zipD xs ys).length = min xs.length ys.length := by unfold zipD; rw [List.length_zipWith]
theorem zipD_get {xs ys : List D} {k : Nat} {x y : D} (h1 : xs[k]? = some x) (h2 : ys[k]? = some y) : (zipD xs ys)[k]? = some (.tuple [x, y]) := by
  unfold zipD
  rw [List.getElem?_zipWith, h1, h2]
section
variable {K : PySem.W.Frag} {J : JT} {m : List Addr} {ih : IH} {H : Hp} {a b : Addr} {xs ys : List D} {us vs : List V}
theorem yld_pair {J' : JT} {m1 : List Addr} {ih1 : IH} {H1 : Hp} {T : Addr} {x y : V} {dx dy : D} (S1 : Sim K J' m1 ih1 H1) (hT : H1 T = none) (r1 : DR K (Own J' m1 ih1) H1 dx x) (r2 : DR K (Own J' m1 ih1) H1 dy y) :
    Sim K J' m1 ih1 (upd H1 T (.tup [x, y])) ∧ Xt m1 ih1 H1 m1 ih1 (upd H1 T (.tup [x, y])) ∧ WR K J' m1 ih1 (upd H1 T (.tup [x, y])) (.d (.tuple [dx, dy])) (.ref T) :=
  ⟨S1.new hT, Xt.new S1 hT, show DR _ _ _ _ _ from DR.tup (SqT.of upd_same) (DRs.mono S1 (Xt.new S1 hT) _ _ (DRs.cons r1 (DRs.cons r2 DRs.nil)))⟩
theorem yl_zipL (S : Sim K J m ih H) (h1 : H a = some (.lst us)) (n1 : ¬ Own J m ih a) (r1 : DRs K (Own J m ih) H xs us) (h2 : H b = some (.lst vs)) (n2 : ¬ Own J m ih b) (r2 : DRs K (Own J m ih) H ys vs) : Yl K J m ih H (Itz K a b) (zipD xs ys) where
  go := fun m1 ih1 H1 k x1 hk => by
    rw [zipD_len] at hk
    obtain ⟨v, e⟩ := r1.some (i := k) (by omega)
    obtain ⟨u, e2⟩ := r2.some (i := k) (by omega)
    exact ⟨us, vs, v, u, .of (x1.keep a _ h1 fun z => n1 (.inl z)).1, .of (x1.keep b _ h2 fun z => n2 (.inl z)).1, e, e2⟩
  stop := fun m1 ih1 H1 x1 => by
    rw [zipD_len]
    refine ⟨us, vs, .of (x1.keep a _ h1 fun z => n1 (.inl z)).1, .of (x1.keep b _ h2 fun z => n2 (.inl z)).1, ?_⟩
    rw [r1.len, r2.len]
    omega
  yld := fun J' m1 ih1 H1 k x H2 hh S1 x1 hk y => by
    obtain ⟨T, v, u, rfl, hT, rfl, q1, q2⟩ := y
    obtain ⟨d1, e1, s1⟩ := r1.nth (q1 us (.of (x1.keep a _ h1 fun z => n1 (.inl z)).1))
    obtain ⟨d2, e2, s2⟩ := r2.nth (q2 vs (.of (x1.keep b _ h2 fun z => n2 (.inl z)).1))
    obtain ⟨A, B, C⟩ := yld_pair S1 hT (DR.convX S x1 hh s1) (DR.convX S x1 hh s2)
    exact ⟨A, B, _, zipD_get e1 e2, C⟩
theorem yl_zipT (S : Sim K J m ih H) (h1 : SqT K H a us) (r1 : DRs K (Own J m ih) H xs us) (h2 : SqT K H b vs) (r2 : DRs K (Own J m ih) H ys vs) : Yl K J m ih H (ItzT K a b) (zipD xs ys) where
  go := fun m1 ih1 H1 k x1 hk => by
    rw [zipD_len] at hk
    obtain ⟨v, e⟩ := r1.some (i := k) (by omega)
    obtain ⟨u, e2⟩ := r2.some (i := k) (by omega)
    exact ⟨us, vs, v, u, x1.seqT S h1, x1.seqT S h2, e, e2⟩
  stop := fun m1 ih1 H1 x1 => by
    rw [zipD_len]
    refine ⟨us, vs, x1.seqT S h1, x1.seqT S h2, ?_⟩
    rw [r1.len, r2.len]
    omega
  yld := fun J' m1 ih1 H1 k x H2 hh S1 x1 hk y => by
    obtain ⟨T, v, u, rfl, hT, rfl, q1, q2⟩ := y
    obtain ⟨d1, e1, s1⟩ := r1.nth (q1 us (x1.seqT S h1))
    obtain ⟨d2, e2, s2⟩ := r2.nth (q2 vs (x1.seqT S h2))
    obtain ⟨A, B, C⟩ := yld_pair S1 hT (DR.convX S x1 hh s1) (DR.convX S x1 hh s2)
    exact ⟨A, B, _, zipD_get e1 e2, C⟩
end
def aIZ (t : AA) : AI := fun env ih Q => t env ih fun ws ih1 => match ws with
  | [.d (.list xs), .d (.list ys)] => Q (zipD xs ys) ih1
  | [.d (.tuple xs), .d (.tuple ys)] => Q (zipD xs ys) ih1
  | _ => False
theorem iv_zip {kk : Nat} {tpos : Pos} (h : AV F [e, e2] ta) (hg : Glb F "zip") (hm : F.mg "zip" = none) (hs : ∀ env, starEach [e, e2] env = (false, eval e env) :: starEach [e2] env := by intro _; rfl) (hpl : ∀ env, (backTo pos (starEach [e2] env)).any (·.1) = false := by intro _; rfl) :
    IV F (.Tuple elts kk tpos) (.Call (.Name "zip" p) [e, e2] [] pos) (aIZ ta) := by
  obtain ⟨t, q, r⟩ := h
  refine ⟨iZipA F.K t, fun X hX => by rw [← F.hK X hX]; exact pi_zipA (Fam.gl hX hg) (by rw [F.hmg X hX]; exact hm) (q X hX) (hs _) (hpl _), fun J jk m ih H env σ Qa R S E h f => ?_⟩
  refine r J jk m ih H env σ _ _ S E h fun m1 ih1 H1 ws vs S1 x1 r1 k1 => ?_
  split at k1
  · obtain ⟨v, u, rfl, ra, rb⟩ := paired2 r1
    obtain ⟨g1, us1, rfl, h1, n1, s1⟩ := ra.lst'
    obtain ⟨g2, us2, rfl, h2, n2, s2⟩ := rb.lst'
    exact ⟨g1, g2, us1, us2, rfl, .inl ⟨.of h1, .of h2, f m1 ih1 H1 _ _ S1 x1 (yl_zipL S1 h1 n1 s1 h2 n2 s2) k1⟩⟩
  · obtain ⟨v, u, rfl, ra, rb⟩ := paired2 r1
    obtain ⟨g1, us1, rfl, h1, s1⟩ := ra.tup'
    obtain ⟨g2, us2, rfl, h2, s2⟩ := rb.tup'
    exact ⟨g1, g2, us1, us2, rfl, .inr ⟨h1, h2, f m1 ih1 H1 _ _ S1 x1 (yl_zipT S1 h1 s1 h2 s2) k1⟩⟩
  · exact k1.elim
def enumD (xs : List D) : List D := (List.range xs.length).zipWith (fun (k : Nat) x => PyData.tuple [.int (k : Int), x]) xs
theorem enumD_len (xs : List D) : (enumD xs).length = xs.length := by unfold enumD; rw [List.length_zipWith, List.length_range]; omega
theorem enumD_get {xs : List D} {k : Nat} {x : D} (h : xs[k]? = some x) : (enumD xs)[k]? = some (.tuple [.int (k : Int), x]) := by
  unfold enumD
  have hk : k < xs.length := (List.getElem?_eq_some_iff.mp h).1
  rw [List.getElem?_zipWith, h, List.getElem?_range hk]
theorem yl_enum {K : PySem.W.Frag} {J : JT} {m : List Addr} {ih : IH} {H : Hp} {a : Addr} {xs : List D} {us : List V} (S : Sim K J m ih H) (h1 : H a = some (.lst us)) (n1 : ¬ Own J m ih a) (r1 : DRs K (Own J m ih) H xs us) : Yl K J m ih H (Ite K a) (enumD xs) where
  go := fun m1 ih1 H1 k x1 hk => by
    rw [enumD_len] at hk
    obtain ⟨v, e⟩ := r1.some hk
    exact ⟨us, v, .of (x1.keep a _ h1 fun z => n1 (.inl z)).1, e⟩
  stop := fun m1 ih1 H1 x1 => by
    rw [enumD_len]
    exact ⟨us, .of (x1.keep a _ h1 fun z => n1 (.inl z)).1, by rw [r1.len]; exact Nat.le_refl _⟩
  yld := fun J' m1 ih1 H1 k x H2 hh S1 x1 hk y => by
    obtain ⟨T, v, rfl, hT, rfl, q1⟩ := y
    obtain ⟨d1, e1, s1⟩ := r1.nth (q1 us (.of (x1.keep a _ h1 fun z => n1 (.inl z)).1))
    obtain ⟨A, B, C⟩ := yld_pair S1 hT (DR.int (i := (k : Int))) (DR.convX S x1 hh s1)
    exact ⟨A, B, _, enumD_get e1, C⟩
def aIE (t : AA) : AI := fun env ih Q => t env ih fun ws ih1 => match ws with
  | [.d (.list xs)] => Q (enumD xs) ih1
  | _ => False
theorem iv_enum {kk : Nat} {tpos : Pos} (h : AV F [e] ta) (hg : Glb F "enumerate") (hm : F.mg "enumerate" = none) (hs : ∀ env, starEach [e] env = [(false, eval e env)] := by intro _; rfl) :
    IV F (.Tuple elts kk tpos) (.Call (.Name "enumerate" p) [e] [] pos) (aIE ta) := by
  obtain ⟨t, q, r⟩ := h
  refine ⟨iEnum F.K t, fun X hX => by rw [← F.hK X hX]; exact pi_enum (Fam.gl hX hg) (by rw [F.hmg X hX]; exact hm) (q X hX) (hs _), fun J jk m ih H env σ Qa R S E h f => ?_⟩
  refine r J jk m ih H env σ _ _ S E h fun m1 ih1 H1 ws vs S1 x1 r1 k1 => ?_
  split at k1
  · obtain ⟨v, rfl, ra⟩ := paired1 r1
    obtain ⟨g1, us1, rfl, h1, n1, s1⟩ := ra.lst'
    exact ⟨g1, us1, rfl, .of h1, f m1 ih1 H1 _ _ S1 x1 (yl_enum S1 h1 n1 s1) k1⟩
  · exact k1.elim

/-! ### an object changes -/
theorem live_set {m : List Addr} {ih : IH} {n : Nat} {o u : Ob} {a : Addr} (h : ih[n]? = some o) (ho : o.isLive = true) (l : Live m (ih.set n u) a) : Live m ih a := by
  obtain ⟨k, v, e1, e2, e3⟩ := l
  by_cases hk : n = k
  · subst hk
    exact ⟨n, o, e1, h, ho⟩
  · rw [List.getElem?_set_ne hk] at e2
    exact ⟨k, v, e1, e2, e3⟩
theorem Xt.set {m : List Addr} {ih : IH} {H : Hp} {n : Nat} {o u : Ob} {a : Addr} {ho : HO} (hl : o.isLive = true) (h : ih[n]? = some o) (ha : m[n]? = some a) : Xt m ih H m (ih.set n u) (upd H a ho) :=
  ⟨⟨[], (List.append_nil m).symm, fun _ z => absurd z (by simp)⟩, fun b v e nl => ⟨by rw [upd_ne fun z => nl (by rw [z]; exact ⟨n, o, ha, h, hl⟩)]; exact e, fun z => nl (live_set h hl z)⟩, fun b e => by
    by_cases hb : b = a
    · rw [hb, upd_same] at e; cases e
    · rwa [upd_ne hb] at e⟩
theorem Sim.set {K : PySem.W.Frag} {J : JT} {m : List Addr} {ih : IH} {H : Hp} {n : Nat} {o u : Ob} {a : Addr} {ho : HO} (S : Sim K J m ih H) (hl : o.isLive = true) (h : ih[n]? = some o) (ha : m[n]? = some a) (hu : ObR K J m (ih.set n u) (upd H a ho) a u) :
    Sim K J m (ih.set n u) (upd H a ho) := by
  have x : Xt m ih H m (ih.set n u) (upd H a ho) := Xt.set hl h ha
  refine ⟨J.cl _ _ _ _ _ _ S.j x, by rw [List.length_set]; exact S.len, S.nd, fun b hb z => S.th b hb (x.there b z), S.hd_mono x, fun k b v e1 e2 => ?_⟩
  by_cases hk : n = k
  · subst hk
    rw [ha] at e1
    cases e1
    rw [List.getElem?_set_self (List.getElem?_eq_some_iff.mp h).1] at e2
    cases e2
    exact hu
  · rw [List.getElem?_set_ne hk] at e2
    have hne : b ≠ a := fun z => hk (nd_ix S.nd (z ▸ ha) (z ▸ e1))
    exact (S.ob k b v e1 e2).mono S x (upd_ne hne)
theorem Fu.set {K : PySem.W.Frag} {J : JT} {m : List Addr} {ih : IH} {H : Hp} {n : Nat} {o u : Ob} {a : Addr} {ho : HO} {Qa : QW} {Q : VK} {w : W} {v : V} (f : Fu K J m ih H Qa Q) (S : Sim K J m ih H) (hl : o.isLive = true) (h : ih[n]? = some o) (ha : m[n]? = some a)
    (hu : ObR K J m (ih.set n u) (upd H a ho) a u) (r : WR K J m ih H w v) (q : Qa w (ih.set n u)) : Q v (upd H a ho) :=
  f m (ih.set n u) (upd H a ho) w v (S.set hl h ha hu) (Xt.set hl h ha) (r.mono S (Xt.set hl h ha)) q
theorem paired_snoc {α β : Type} {G : α → β → Prop} {xs : List α} {ys : List β} {x : α} {y : β} (h : Paired G xs ys) (r : G x y) : Paired G (xs ++ [x]) (ys ++ [y]) := paired_app h (.cons r .nil)
theorem paired_dropLast {α β : Type} {G : α → β → Prop} : ∀ {xs : List α} {ys : List β}, Paired G xs ys → Paired G xs.dropLast ys.dropLast
  | _, _, .nil => .nil
  | _, _, .cons r .nil => .nil
  | _, _, .cons r (.cons r2 t) => .cons r (paired_dropLast (.cons r2 t))

/-! ### methods of built-in types -/
def RRM (K : PySem.W.Frag) (r : V → List V → Hp → VK → Prop) (ra : W → List W → IH → QW → Prop) : Prop := ∀ J m ih H x ws vx vs Qa Q, Sim K J m ih H → WR K J m ih H x vx → Paired (WR K J m ih H) ws vs → ra x ws ih Qa → Fu K J m ih H Qa Q → r vx vs H Q
def RTy (K : PySem.W.Frag) (T : String) (ck : W → IH → Prop) : Prop := ∀ J m ih H x vx, Sim K J m ih H → WR K J m ih H x vx → ck x ih → tyV K T vx H
def MV (F : Fam) (T id : String) (ck : W → IH → Prop) (ra : W → List W → IH → QW → Prop) : Prop := ∃ r, (∀ X, F.ok X → MtR X id r) ∧ RRM F.K r ra ∧ RTy F.K T ck
def aMt (ck : W → IH → Prop) (ra : W → List W → IH → QW → Prop) (to : AE) (ta : AA) : AE := fun env ih Q => to env ih fun x ih1 => ck x ih1 ∧ ta env ih1 fun ws ih2 => ra x ws ih2 Q
def aMt0 (ck : W → IH → Prop) (ra : W → List W → IH → QW → Prop) (to : AE) : AE := fun env ih Q => to env ih fun x ih1 => ck x ih1 ∧ ra x [] ih1 Q
theorem ev_mt {apos : Pos} {T id : String} {name : Str} {ck : W → IH → Prop} {ra : W → List W → IH → QW → Prop} (pa : PlainAttrs T) (slot : Slot T name id) (hty : typeOf (.builtin id) = pure (.type "method_descriptor")) (hm : MV F T id ck ra) (ho : EV F o aa) (ha : AV F (e :: es) ta)
    (hbase : ∀ env, attributeBase o name env (eval o env) = eval o env := by intro _; rfl)
    (hfew : ∀ env, ((backTo pos (starEach (e :: es) env)).all (fun x => !x.1) && (backToKw pos (keywordEach [] env)).all (fun x => x.1.isSome)
      && decide ((e :: es).length + ([] : List Keyword).length + (if ([] : List Keyword).isEmpty then 0 else 1) < 30)) = true := by intro _; rfl)
    (hline : (apos.endLine == pos.line) = true := by rfl) (hs : ∀ env, starEach (e :: es) env = (false, eval e env) :: starEach es env := by intro _; rfl) (hpl : ∀ env, (backTo pos (starEach es env)).any (·.1) = false := by intro _; rfl) :
    EV F (.Call (.Attribute o name apos) (e :: es) [] pos) (aMt ck ra aa ta) := by
  obtain ⟨t, p1, q1⟩ := ho
  obtain ⟨u, p2, q2⟩ := ha
  obtain ⟨r, p3, q3, q4⟩ := hm
  refine ⟨tBM F.K T r t u, fun X hX => ?_, fun J jk m ih H env σ Qa Q S E h f => ?_⟩
  · rw [← F.hK X hX]
    exact pe_bm pa slot hty (p3 X hX) (p1 X hX) (p2 X hX) (hbase _) (hfew _) hline (hs _) (hpl _)
  · refine q1 J jk m ih H env σ _ _ S E h fun m1 ih1 H1 w v S1 x1 r1 k1 => ⟨q4 J m1 ih1 H1 w v S1 r1 k1.1, ?_⟩
    refine q2 J jk m1 ih1 H1 env σ _ _ S1 (E.mono S x1) k1.2 fun m2 ih2 H2 ws vs S2 x2 r2 k2 => ?_
    exact q3 J m2 ih2 H2 w ws v vs Qa Q S2 (r1.mono S1 x2) r2 k2 (f.step (x1.trans x2))
theorem ev_mt0 {apos : Pos} {T id : String} {name : Str} {ck : W → IH → Prop} {ra : W → List W → IH → QW → Prop} (pa : PlainAttrs T) (slot : Slot T name id) (hty : typeOf (.builtin id) = pure (.type "method_descriptor")) (hm : MV F T id ck ra) (ho : EV F o aa)
    (hbase : ∀ env, attributeBase o name env (eval o env) = eval o env := by intro _; rfl) (hline : (apos.endLine == pos.line) = true := by rfl) : EV F (.Call (.Attribute o name apos) [] [] pos) (aMt0 ck ra aa) := by
  obtain ⟨t, p1, q1⟩ := ho
  obtain ⟨r, p3, q3, q4⟩ := hm
  refine ⟨tBM0 F.K T r t, fun X hX => ?_, fun J jk m ih H env σ Qa Q S E h f => ?_⟩
  · rw [← F.hK X hX]
    exact pe_bm0 pa slot hty (p3 X hX) (p1 X hX) (hbase _) hline
  · refine q1 J jk m ih H env σ _ _ S E h fun m1 ih1 H1 w v S1 x1 r1 k1 => ⟨q4 J m1 ih1 H1 w v S1 r1 k1.1, ?_⟩
    exact q3 J m1 ih1 H1 w [] v [] Qa Q S1 r1 .nil k1.2 (f.step x1)
/-- a list that may be changed -/
def isRL (w : W) (ih : IH) : Prop := match w with
  | .ref n => match ih[n]? with
    | some (.lst _) => True
    | _ => False
  | _ => False
theorem isRL_ty {K : PySem.W.Frag} : RTy K "list" isRL := fun J m ih H x vx S r h => by
  unfold isRL at h
  split at h
  · split at h
    · rename_i n o ws e
      obtain ⟨a, e1, rfl⟩ := r
      obtain ⟨vs, e2, _⟩ := S.ob n a _ e1 e
      exact .inl ⟨rfl, vs, .of e2⟩
    · exact h.elim
  · exact h.elim
def onRL (w : W) (ih : IH) (k : Nat → List W → Prop) : Prop := match w with
  | .ref n => match ih[n]? with
    | some (.lst ws) => k n ws
    | _ => False
  | _ => False
theorem onRL_some {w : W} {ih : IH} {k : Nat → List W → Prop} (h : onRL w ih k) : ∃ n ws, w = .ref n ∧ ih[n]? = some (.lst ws) ∧ k n ws := by
  unfold onRL at h
  split at h
  · split at h
    · exact ⟨_, _, rfl, by assumption, h⟩
    · exact h.elim
  · exact h.elim
def xApp (x : W) (ws : List W) (ih : IH) (Q : QW) : Prop := onRL x ih fun n us => match ws with
  | [y] => us.length < sizeLine ∧ Q (.d .none) (ih.set n (.lst (us ++ [y])))
  | _ => False
theorem mv_app : MV F "list" "list.append" isRL xApp := by
  refine ⟨rAppend, fun X hX => mt_append, fun J m ih H x ws vx vs Qa Q S r rs h f => ?_, isRL_ty⟩
  obtain ⟨n, us, rfl, e, h⟩ := onRL_some h
  obtain ⟨a, e1, rfl⟩ := r
  obtain ⟨zs, e2, rz⟩ := S.ob n a _ e1 e
  split at h
  · obtain ⟨v, rfl, rv⟩ := paired1 rs
    refine ⟨a, zs, v, rfl, rfl, e2, by rw [Paired.len2 rz]; exact h.1, ?_⟩
    rename_i y _
    have x : Xt m ih H m (ih.set n (.lst (us ++ [y]))) (upd H a (.lst (zs ++ [v]))) := Xt.set (o := .lst us) (u := .lst (us ++ [y])) (H := H) rfl e e1
    exact f.set (o := .lst us) (u := .lst (us ++ [y])) (w := .d .none) S rfl e e1 ⟨_, upd_same, paired_mono S x (paired_snoc rz rv)⟩ WR.non h.2
  · exact h.elim
def xPop (x : W) (ws : List W) (ih : IH) (Q : QW) : Prop := onRL x ih fun n us => ws = [] ∧ optW (us[us.length - 1]?) fun y => Q y (ih.set n (.lst us.dropLast))
theorem mv_pop : MV F "list" "list.pop" isRL xPop := by
  refine ⟨rPop, fun X hX => mt_pop, fun J m ih H x ws vx vs Qa Q S r rs h f => ?_, isRL_ty⟩
  obtain ⟨n, us, rfl, e, hws, h1⟩ := onRL_some h
  clear h
  have h := h1
  clear h1
  subst hws
  obtain ⟨a, e1, rfl⟩ := r
  obtain ⟨zs, e2, rz⟩ := S.ob n a _ e1 e
  cases rs
  obtain ⟨y, ey, h⟩ := optW_some h
  obtain ⟨v, ev, rv⟩ := paired_get rz ey
  have x : Xt m ih H m (ih.set n (.lst us.dropLast)) (upd H a (.lst zs.dropLast)) := Xt.set (o := .lst us) rfl e e1
  refine ⟨a, zs, v, rfl, rfl, e2, by rw [Paired.len2 rz]; exact ev, ?_⟩
  exact f.set (o := .lst us) (u := .lst us.dropLast) S rfl e e1 ⟨_, upd_same, paired_mono S x (paired_dropLast rz)⟩ rv h
theorem paired_erase {α β : Type} {G : α → β → Prop} : ∀ {xs : List α} {ys : List β} (k : Nat), Paired G xs ys → Paired G (xs.eraseIdx k) (ys.eraseIdx k)
  | _, _, _, .nil => .nil
  | _, _, 0, .cons _ t => t
  | _, _, k + 1, .cons r t => .cons r (paired_erase k t)
/-- xs.pop(i) -/
def xPopAt (x : W) (ws : List W) (ih : IH) (Q : QW) : Prop := onRL x ih fun n us => match ws with
  | [.d (.int i)] => -(2 ^ 63) ≤ i ∧ i < 2 ^ 63 ∧ optW (seqIndex? i us.length) fun k => optW (us[k]?) fun y => Q y (ih.set n (.lst (us.eraseIdx k)))
  | _ => False
theorem mv_popAt : MV F "list" "list.pop" isRL xPopAt := by
  refine ⟨rPopAt, fun X hX => mt_popAt, fun J m ih H x ws vx vs Qa Q S r rs h f => ?_, isRL_ty⟩
  obtain ⟨n, us, rfl, e, h⟩ := onRL_some h
  obtain ⟨a, e1, rfl⟩ := r
  obtain ⟨zs, e2, rz⟩ := S.ob n a _ e1 e
  split at h
  · obtain ⟨v, rfl, ri⟩ := paired1 rs
    obtain ⟨h1, h2, h⟩ := h
    obtain ⟨k, ek, h⟩ := optW_some h
    obtain ⟨y, ey, h⟩ := optW_some h
    obtain ⟨v2, ev, rv⟩ := paired_get rz ey
    have x : Xt m ih H m (ih.set n (.lst (us.eraseIdx k))) (upd H a (.lst (zs.eraseIdx k))) := Xt.set (o := .lst us) rfl e e1
    refine ⟨a, zs, _, k, v2, rfl, by rw [ri.int'], e2, h1, h2, by rw [Paired.len2 rz]; exact ek, ev, ?_⟩
    exact f.set (o := .lst us) (u := .lst (us.eraseIdx k)) S rfl e e1 ⟨_, upd_same, paired_mono S x (paired_erase k rz)⟩ rv h
  · exact h.elim

/-! ### dicts that may be changed -/
def valW (kws : List (Key × W)) (k : Key) : Option W := (kws.find? fun q => decide (q.1 = k)).map (·.2)
def putW (kws : List (Key × W)) (k : Key) (w : W) : List (Key × W) :=
  if (kws.any fun q => decide (q.1 = k)) = true then kws.map (fun q => if q.1 = k then (q.1, w) else q) else kws ++ [(k, w)]
section
variable {K : PySem.W.Frag} {J : JT} {m : List Addr} {ih : IH} {H : Hp}
theorem valW_rel {kws : List (Key × W)} {kvs : List (Key × V)} {k : Key} {w : W} (r : Paired (fun (p : Key × W) (q : Key × V) => p.1 = q.1 ∧ WR K J m ih H p.2 q.2) kws kvs) (h : valW kws k = some w) : ∃ v, valV kvs k = some v ∧ WR K J m ih H w v := by
  induction r with
  | nil => cases h
  | @cons p q ps qs r t ih2 =>
    obtain ⟨e, r⟩ := r
    by_cases hk : p.1 = k
    · have e2 : valW (p :: ps) k = some p.2 := by simp [valW, List.find?_cons, hk]
      rw [e2] at h
      cases h
      exact ⟨q.2, valV_pos (by rw [← e]; exact hk), r⟩
    · have e2 : valW (p :: ps) k = valW ps k := by simp [valW, List.find?_cons, hk]
      rw [e2] at h
      obtain ⟨v, e3, r3⟩ := ih2 h
      exact ⟨v, by rw [valV_neg (by rw [← e]; exact hk)]; exact e3, r3⟩
theorem putW_rel {kws : List (Key × W)} {kvs : List (Key × V)} {k : Key} {w : W} {v : V} (r : Paired (fun (p : Key × W) (q : Key × V) => p.1 = q.1 ∧ WR K J m ih H p.2 q.2) kws kvs) (rw' : WR K J m ih H w v) :
    Paired (fun (p : Key × W) (q : Key × V) => p.1 = q.1 ∧ WR K J m ih H p.2 q.2) (putW kws k w) (putK kvs k v) := by
  have hany : (kws.any fun q => decide (q.1 = k)) = kvs.any fun q => decide (q.1 = k) := by
    induction r with
    | nil => rfl
    | cons r t ih2 => rw [List.any_cons, List.any_cons, ih2, r.1]
  unfold putW putK
  rw [hany]
  split
  · rename_i hz
    clear hany hz
    induction r with
    | nil => exact .nil
    | @cons p q ps qs r t ih2 =>
      rw [List.map_cons, List.map_cons]
      refine .cons ?_ ih2
      by_cases hk : p.1 = k
      · rw [if_pos hk, if_pos (by rw [← r.1]; exact hk)]
        exact ⟨r.1, rw'⟩
      · rw [if_neg hk, if_neg (by rw [← r.1]; exact hk)]
        exact r
  · exact paired_app r (.cons ⟨rfl, rw'⟩ .nil)
end
def keyOf : W → Option Key
  | .d (.int i) => some (.inl i)
  | .d (.str s) => some (.inr s)
  | _ => none
theorem keyOf_v {K : PySem.W.Frag} {J : JT} {m : List Addr} {ih : IH} {H : Hp} {w : W} {v : V} {k : Key} (r : WR K J m ih H w v) (h : keyOf w = some k) : v = kV k := by
  unfold keyOf at h
  split at h
  · cases h; exact r.int'
  · cases h; exact r.str'
  · cases h
/-- d[k], of a dict that may be changed -/
def aDget (to ti : AE) : AE := fun env ih Q => to env ih fun x ih1 => ti env ih1 fun y ih2 => match x with
  | .ref n => match ih2[n]? with
    | some (.dic kws) => optW (keyOf y) fun k => optW (valW kws k) fun w => Q w ih2
    | _ => False
  | _ => False
theorem ev_dget (h1 : EV F o aa) (h2 : EV F i ab) (hs : NoSl i := by exact fun _ _ => rfl) : EV F (.Subscript o i pos) (aDget aa ab) := by
  obtain ⟨t, p1, q1⟩ := h1
  obtain ⟨u, p2, q2⟩ := h2
  refine ⟨tDGet t u, fun X hX => pe_dget (by have := Fam.hu hX; omega) (p1 X hX) (p2 X hX) hs, fun J jk m ih H env σ Qa Q S E h f => ?_⟩
  refine q1 J jk m ih H env σ _ _ S E h fun m1 ih1 H1 w v S1 x1 r1 k1 => ?_
  refine q2 J jk m1 ih1 H1 env σ _ _ S1 (E.mono S x1) k1 fun m2 ih2 H2 y vy S2 x2 r2 k2 => ?_
  have r1' := r1.mono S1 x2
  split at k2
  · split at k2
    · rename_i n o kws e
      obtain ⟨k, ek, k2⟩ := optW_some k2
      obtain ⟨z, ez, k2⟩ := optW_some k2
      obtain ⟨a, e1, rfl⟩ := r1'
      obtain ⟨kvs, e2, rk⟩ := S2.ob n a _ e1 e
      obtain ⟨vz, e3, rz⟩ := valW_rel rk ez
      refine ⟨a, vz, rfl, ?_, (f.step (x1.trans x2)).now S2 rz k2⟩
      rw [keyOf_v r2 ek, ← e3]
      exact DGet.k e2
    · exact k2.elim
  · exact k2.elim
/-- d[k] = v -/
def aDput (to ti tv : AE) : AS := fun D env ih => tv env ih fun w ih1 => to env ih1 fun x ih2 => ti env ih2 fun y ih3 => match x with
  | .ref n => match ih3[n]? with
    | some (.dic kws) => optW (keyOf y) fun k => kws.length < sizeLine ∧ D.nx env (ih3.set n (.dic (putW kws k w)))
    | _ => False
  | _ => False
theorem sv_dput {value : Expr} {av : AE} (h1 : EV F o aa) (h2 : EV F i ab) (h3 : EV F value av) (hs : ∀ env, swapsWith value (some (.Subscript o i p)) pos.line env = pure false := by intro _; rfl) : SV F (.Assign [.Subscript o i p] value pos) (aDput aa ab av) := by
  obtain ⟨t, p1, q1⟩ := h1
  obtain ⟨u, p2, q2⟩ := h2
  obtain ⟨z, p3, q3⟩ := h3
  refine ⟨sDPut t u z, fun X hX => ps_dput (by have := Fam.hu hX; omega) (p1 X hX) (p2 X hX) (p3 X hX) (hs _), fun J jk m ih H env σ Da D S E h f => ?_⟩
  refine q3 J jk m ih H env σ _ _ S E h fun m1 ih1 H1 w v S1 x1 r1 k1 => ?_
  refine q1 J jk m1 ih1 H1 env σ _ _ S1 (E.mono S x1) k1 fun m2 ih2 H2 x vx S2 x2 r2 k2 => ?_
  refine q2 J jk m2 ih2 H2 env σ _ _ S2 (E.mono S (x1.trans x2)) k2 fun m3 ih3 H3 y vy S3 x3 r3 k3 => ?_
  have rx := r2.mono S2 x3
  have rw' := (r1.mono S1 x2).mono S2 x3
  split at k3
  · split at k3
    · rename_i n o kws e
      obtain ⟨k, ek, hl, k3⟩ := optW_some k3
      obtain ⟨a, e1, rfl⟩ := rx
      obtain ⟨kvs, e2, rk⟩ := S3.ob n a _ e1 e
      have x13 := (x1.trans x2).trans x3
      have xs : Xt m3 ih3 H3 m3 (ih3.set n (.dic (putW kws k w))) (upd H3 a (.dK (putK kvs k v))) := Xt.set (o := .dic kws) rfl e e1
      refine ⟨a, _, rfl, ?_, f.nx _ _ _ env σ (S3.set (o := .dic kws) (u := .dic (putW kws k w)) (ho := .dK (putK kvs k v)) rfl e e1 ⟨_, upd_same, ?_⟩) (x13.trans xs) (E.mono S (x13.trans xs)) k3⟩
      · rw [keyOf_v r3 ek]
        exact DPut.k e2 (by rw [Paired.len2 rk]; exact hl)
      · exact Paired.mapR (putW_rel rk rw') fun _ _ q => ⟨q.1, q.2.mono S3 xs⟩
    · exact k3.elim
  · exact k3.elim

/-! ### a dict displayed, to be changed -/
def PPV (F : Fam) (pos : Pos) (keys : List (Option Expr)) (values : List Expr) (ks : List Key) (ta : AA) : Prop := ∃ trs, (∀ X, F.ok X → PPs X pos keys values trs) ∧
  ∀ J, F.jk J → ∀ m ih H env σ Qa (Q : List (V × V) → Hp → Prop), Sim F.K J m ih H → EnvR F.K J m ih H env σ → ta env ih Qa →
    (∀ m1 ih1 H1 ws vs, Sim F.K J m1 ih1 H1 → Xt m ih H m1 ih1 H1 → Paired (WR F.K J m1 ih1 H1) ws vs → vs.length = ks.length → Qa ws ih1 → Q ((ks.map kV).zip vs) H1) → tPairs trs σ H Q
theorem ppv_nil : PPV F pos [] [] [] aNil := ⟨[], fun X _ => pps_nil, fun J jk m ih H env σ Qa Q S E h f => f m ih H [] [] S Xt.refl .nil rfl h⟩
theorem ppv_cons {x : Str} {k2 : Nat} {kp : Pos} {keys : List (Option Expr)} {values : List Expr} {ks : List Key} (h1 : EV F e aa) (h2 : PPV F pos keys values ks ta) : PPV F pos (some (.Constant (.str x) k2 kp) :: keys) (e :: values) (.inr x :: ks) (aCons aa ta) := by
  obtain ⟨t, p1, q1⟩ := h1
  obtain ⟨trs, p2, q2⟩ := h2
  refine ⟨(tC (.str x), t) :: trs, fun X hX => pps_cons pe_str (p1 X hX) (p2 X hX), fun J jk m ih H env σ Qa Q S E h f => ?_⟩
  refine q1 J jk m ih H env σ _ _ S E h fun m1 ih1 H1 w v S1 x1 r1 k1 => ?_
  refine q2 J jk m1 ih1 H1 env σ _ _ S1 (E.mono S x1) k1 fun m2 ih2 H2 ws vs S2 x2 r2 hl k2 => ?_
  exact f m2 ih2 H2 (w :: ws) (v :: vs) S2 (x1.trans x2) (.cons (r1.mono S1 x2) r2) (by rw [List.length_cons, List.length_cons, hl]) k2
def aDispM (ks : List Key) (ta : AA) : AE := fun env ih Q => ta env ih fun ws ih1 => ks.Nodup ∧ ks.length ≤ 15 ∧ Q (.ref ih1.length) (ih1 ++ [.dic (ks.zip ws)])
theorem putK_new' {k : Key} {v : V} : ∀ {kvs : List (Key × V)}, k ∉ kvs.map (·.1) → putK kvs k v = kvs ++ [(k, v)] := fun {kvs} h => by
  unfold putK
  rw [if_neg]
  intro z
  obtain ⟨q, hq, e⟩ := List.any_eq_true.mp z
  exact h (List.mem_map.mpr ⟨q, hq, of_decide_eq_true e⟩)
theorem mergeK_nodup : ∀ (more kvs : List (Key × V)), ((kvs ++ more).map (·.1)).Nodup → mergeK kvs more = kvs ++ more
  | [], kvs, _ => by unfold mergeK; simp
  | q :: more, kvs, h => by
    have hn : q.1 ∉ kvs.map (·.1) := fun z => by
      rw [List.map_append, List.map_cons] at h
      exact (List.nodup_append.mp h).2.2 q.1 z q.1 (by simp) rfl
    have e : putK kvs q.1 q.2 = kvs ++ [q] := putK_new' hn
    show mergeK (putK kvs q.1 q.2) more = _
    rw [e, mergeK_nodup more (kvs ++ [q]) (by rw [List.append_assoc]; exact h), List.append_assoc]
    rfl
/-- what was hidden becomes an object of its own -/
theorem Sim.bring {K : PySem.W.Frag} {J : JT} {m m1 : List Addr} {ih ih1 : IH} {H H1 : Hp} {D : Addr} {o o1 : HO} {u : Ob} (hD : H D = none) (S : Sim K (jIn J m ih H D) m1 ih1 H1) (x : Xt m ih (upd H D o) m1 ih1 H1) (Dm : D ∉ m) (nt : ∀ xs, ¬ Rd H1 D (.tup xs)) (S0 : Sim K J m ih H)
    (hu : (∀ (w : W) (v : V), WR K (jIn J m ih H D) m1 ih1 H1 w v → WR K J (m1 ++ [D]) (ih1 ++ [u]) (upd H1 D o1) w v) → ObR K J (m1 ++ [D]) (ih1 ++ [u]) (upd H1 D o1) D u) :
    Xt m ih H (m1 ++ [D]) (ih1 ++ [u]) (upd H1 D o1) ∧ Sim K J (m1 ++ [D]) (ih1 ++ [u]) (upd H1 D o1) := by
  have hm : D ∈ (jIn J m ih H D).hid := by show D ∈ D :: J.hid; simp
  have nD : D ∉ m1 := fun z => by
    obtain ⟨t, rfl, ft⟩ := x.pre
    rcases List.mem_append.mp z with z | z
    · exact Dm z
    · have := ft D z
      rw [upd_same] at this
      cases this
  have nh : D ∉ J.hid := fun z => (S0.hd D z).1 hD
  have x' : Xt m ih H (m1 ++ [D]) (ih1 ++ [u]) (upd H1 D o1) := by
    refine ⟨?_, fun a v e n => ?_, fun a e => ?_⟩
    · obtain ⟨t, rfl, ft⟩ := x.pre
      refine ⟨t ++ [D], List.append_assoc m t [D], fun a h => ?_⟩
      rcases List.mem_append.mp h with h | h
      · have q := ft a h
        by_cases e : a = D
        · rw [e]; exact hD
        · rwa [upd_ne e] at q
      · rw [List.mem_singleton.mp h]; exact hD
    · have ne : a ≠ D := ne_of_none e hD
      obtain ⟨q1, q2⟩ := x.keep a v (by rw [upd_ne ne]; exact e) n
      exact ⟨by rw [upd_ne ne]; exact q1, fun l => (live_add S.len l).elim q2 ne⟩
    · by_cases h : a = D
      · rw [h]; exact hD
      · rw [upd_ne h] at e
        have q := x.there a e
        rwa [upd_ne h] at q
  have oo : ∀ a, Own J (m1 ++ [D]) (ih1 ++ [u]) a → Own (jIn J m ih H D) m1 ih1 a := fun a l => l.elim (fun z => (live_add S.len z).elim .inl fun e => .inr (by rw [e]; exact hm)) fun z => .inr (jIn_sub a z)
  have ht : ∀ a xs, Rd H1 a (.tup xs) → Rd (upd H1 D o1) a (.tup xs) := fun a xs q => by
    have hne : a ≠ D := fun z => nt xs (by rw [← z]; exact q)
    rcases q with q | ⟨ob, q⟩
    · exact .inl (by rw [upd_ne hne]; exact q)
    · exact .inr ⟨ob, by rw [upd_ne hne]; exact q⟩
  have hk : ∀ a v, H1 a = some v → ¬ Own (jIn J m ih H D) m1 ih1 a → upd H1 D o1 a = some v ∧ ¬ Own J (m1 ++ [D]) (ih1 ++ [u]) a := fun a v e n =>
    ⟨by rw [upd_ne fun z => n (.inr (by rw [z]; exact hm))]; exact e, fun l => n (oo a l)⟩
  have wr : ∀ (w : W) (v : V), WR K (jIn J m ih H D) m1 ih1 H1 w v → WR K J (m1 ++ [D]) (ih1 ++ [u]) (upd H1 D o1) w v := fun w v h => by
    cases w with
    | d y => exact DR.conv hk ht h
    | ref n =>
      obtain ⟨a, e, r⟩ := h
      exact ⟨a, by rw [List.getElem?_append_left (List.getElem?_eq_some_iff.mp e).1]; exact e, r⟩
    | scr ns =>
      obtain ⟨a, e, q⟩ := h
      rcases q with ⟨q, l⟩ | q
      · have hne : a ≠ D := fun z => l (.inr (by rw [z]; exact hm))
        refine ⟨a, e, .inl ⟨?_, fun z => l (oo a z)⟩⟩
        rcases q with q | ⟨ob, q⟩
        · exact .inl (by rw [upd_ne hne]; exact q)
        · exact .inr ⟨ob, by rw [upd_ne hne]; exact q⟩
      · exact ⟨a, e, .inr q⟩
  refine ⟨x', J.cl _ _ _ _ _ _ S0.j x', by rw [List.length_append, List.length_append, S.len]; rfl, ?_, fun a h z => ?_, S0.hd_mono x', fun i a v e1 e2 => ?_⟩
  · refine List.nodup_append.mpr ⟨S.nd, by simp, fun a ha b hb => ?_⟩
    have e : b = D := by simpa using hb
    subst e
    intro z
    subst z
    exact nD ha
  · by_cases e : a = D
    · rw [e, upd_same] at z; cases z
    · rw [upd_ne e] at z
      rcases List.mem_append.mp h with h | h
      · exact S.th a h z
      · exact e (by simpa using h)
  · by_cases hi : i < m1.length
    · rw [List.getElem?_append_left hi] at e1
      rw [List.getElem?_append_left (by rw [← S.len]; exact hi)] at e2
      have hne : a ≠ D := fun z => nD (by rw [← z]; exact List.mem_of_getElem? e1)
      have q := S.ob i a v e1 e2
      cases v with
      | dead => exact True.intro
      | lst ws =>
        obtain ⟨vs, e, r⟩ := q
        exact ⟨vs, by rw [upd_ne hne]; exact e, Paired.mapR r fun _ _ z => wr _ _ z⟩
      | dic ws =>
        obtain ⟨vs, e, r⟩ := q
        exact ⟨vs, by rw [upd_ne hne]; exact e, Paired.mapR r fun _ _ z => ⟨z.1, wr _ _ z.2⟩⟩
      | any n phi =>
        obtain ⟨o, e, mu, hn, r⟩ := q
        exact ⟨o, by rw [upd_ne hne]; exact e, mu, by rw [List.length_append]; omega, by rw [List.take_append_of_le_length hn]; exact r⟩
    · rw [List.getElem?_append_right (by omega)] at e1
      rw [List.getElem?_append_right (by rw [← S.len]; omega)] at e2
      have h0 : i - m1.length = 0 := by
        have := (List.getElem?_eq_some_iff.mp e1).1
        simp at this
        omega
      rw [h0] at e1
      have h1 : i - ih1.length = 0 := by rw [← S.len]; exact h0
      rw [h1] at e2
      cases e1
      cases e2
      exact hu wr
theorem ev_dispM {keys : List (Option Expr)} {values : List Expr} {ks : List Key} (h : PPV F pos keys values ks ta) (hall : keys.all (·.isSome) = true := by rfl) (hl : keys.length = values.length := by rfl) (h0 : keys ≠ [] := by intro z; cases z) (h15 : keys.length ≤ 15 := by decide) :
    EV F (.Dict keys values pos) (aDispM ks ta) := by
  obtain ⟨trs, p, q⟩ := h
  refine ⟨tDisp trs, fun X hX => pe_disp (p X hX) hall hl h0 h15, fun J jk m ih H env σ Qa Q S E h f => ?_⟩
  intro pd hp
  have x0 : Xt m ih H m ih (upd H pd (.dK [])) := Xt.new S hp
  have S0 : Sim F.K (jIn J m ih H pd) m ih (upd H pd (.dK [])) := S.hide hp _
  refine q (jIn J m ih H pd) (F.jkc J _ jk fun _ _ _ h => h.2) m ih _ env σ _ _ S0 (E.convX S x0 (jIn_ok hp)) h fun m1 ih1 H1 ws vs S1 x1 r1 hlen k1 => ?_
  have nl := (S0.hd pd (by show pd ∈ pd :: J.hid; simp)).2
  have e1 := (x1.keep pd _ upd_same nl).1
  have hz : ∀ (ks : List Key) (vs : List V), (ks.map kV).zip vs = (ks.zip vs).map fun q => (kV q.1, q.2) := fun ks => by
    induction ks with
    | nil => intro vs; rfl
    | cons k ks ih => intro vs; cases vs with
      | nil => rfl
      | cons v vs => rw [List.map_cons, List.zip_cons_cons, List.zip_cons_cons, List.map_cons, ih]
  have hmap : (ks.zip vs).map (·.1) = ks := by rw [List.map_fst_zip]; omega
  have hm : mergeK [] (ks.zip vs) = ks.zip vs := mergeK_nodup _ _ (by rw [List.nil_append, hmap]; exact k1.1)
  refine ⟨e1, ks.zip vs, hz ks vs, by rw [List.length_zip]; have := k1.2.1; omega, ?_⟩
  rw [hm]
  have len1 : ih1.length = m1.length := S1.len.symm
  have gen : ∀ (ks : List Key) (ws : List W) (vs : List V), Paired (WR F.K (jIn J m ih H pd) m1 ih1 H1) ws vs → Paired (fun (p : Key × W) (q : Key × V) => p.1 = q.1 ∧ WR F.K (jIn J m ih H pd) m1 ih1 H1 p.2 q.2) (ks.zip ws) (ks.zip vs) := fun ks => by
    induction ks with
    | nil => intro ws vs r; exact .nil
    | cons k ks ih => intro ws vs r; cases r with
      | nil => exact .nil
      | cons r t => exact .cons ⟨rfl, r⟩ (ih _ _ t)
  obtain ⟨x2, S2⟩ := Sim.bring (o1 := .dK (ks.zip vs)) (u := .dic (ks.zip ws)) hp S1 x1 (S.notIn hp) (fun xs q => by rcases q with q | ⟨ob, q⟩ <;> (rw [e1] at q; cases q)) S fun wr => ⟨ks.zip vs, upd_same, Paired.mapR (gen ks ws vs r1) fun _ _ q => ⟨q.1, wr _ _ q.2⟩⟩
  exact f _ _ _ (.ref ih1.length) _ S2 x2 ⟨pd, by rw [len1]; simp, rfl⟩ k1.2.2
end
end Pz

end
section
set_option Elab.async false
set_option linter.all false
set_option maxRecDepth 100000
set_option autoImplicit false
/-! Fw12: turned lists; a law's end. -/
namespace Pz
open PySem PySem.Spec PyProof.Rows L2

section
variable {F : Fam} {pos p1 p2 p3 : Pos} {e : Expr} {aa : AE}
/-- xs[::-1] of a list, to be changed -/
def aRevM (t : AE) : AE := fun env ih Q => t env ih fun x ih1 => optW (view x ih1) fun d => match d with
  | .list xs => Q (.ref ih1.length) (ih1 ++ [.lst (xs.reverse.map .d)])
  | _ => False
theorem drs_rev {K : PySem.W.Frag} {L : Addr → Prop} {H : Hp} : ∀ {ds : List D} {vs : List V}, DRs K L H ds vs → DRs K L H ds.reverse vs.reverse
  | [], vs, h => by unfold DRs at h; subst h; exact DRs.nil
  | d :: ds, vs, h => by
    unfold DRs at h
    obtain ⟨v, r, rfl, h1, h2⟩ := h
    rw [List.reverse_cons, List.reverse_cons]
    exact DRs.app (drs_rev h2) (DRs.cons h1 DRs.nil)
theorem ev_revM {k : Nat} (h : EV F e aa) : EV F (.Subscript e (.Slice none none (some (.UnaryOp .USub (.Constant (.int 1) k p1) p2)) p3) pos) (aRevM aa) := by
  obtain ⟨t, p, q⟩ := h
  refine ⟨tRevL F.K t, fun X hX => by rw [← F.hK X hX]; exact pe_revL (p X hX), fun J jk m ih H env σ Qa Q S E hh f => ?_⟩
  refine q J jk m ih H env σ _ _ S E hh fun m1 ih1 H1 w v S1 x1 r1 k1 => ?_
  obtain ⟨d, e1, k1⟩ := optW_some k1
  split at k1
  · obtain ⟨g, us, rfl, hs, hr⟩ := view_lst S1 r1 e1
    exact ⟨g, us, rfl, .of hs, fun p hp => (f.step x1).lstM S1 hp (of_drs (drs_rev hr)) k1⟩
  · exact k1.elim
/-- xs[::-1] of a list, as data -/
def aRevD (t : AE) : AE := fun env ih Q => t env ih fun x ih1 => optW (view x ih1) fun d => match d with
  | .list xs => Q (.d (.list xs.reverse)) ih1
  | _ => False
theorem ev_revD {k : Nat} (h : EV F e aa) : EV F (.Subscript e (.Slice none none (some (.UnaryOp .USub (.Constant (.int 1) k p1) p2)) p3) pos) (aRevD aa) := by
  obtain ⟨t, p, q⟩ := h
  refine ⟨tRevL F.K t, fun X hX => by rw [← F.hK X hX]; exact pe_revL (p X hX), fun J jk m ih H env σ Qa Q S E hh f => ?_⟩
  refine q J jk m ih H env σ _ _ S E hh fun m1 ih1 H1 w v S1 x1 r1 k1 => ?_
  obtain ⟨d, e1, k1⟩ := optW_some k1
  split at k1
  · obtain ⟨g, us, rfl, hs, hr⟩ := view_lst S1 r1 e1
    exact ⟨g, us, rfl, .of hs, fun p hp => (f.step x1).lst S1 hp (drs_rev hr) k1⟩
  · exact k1.elim
end

/-! ### the end of a law -/
/-- the heap that stands when a law is called -/
structure Lone (H : Hp) (a : Addr) : Prop where
  only : ∀ b, H b ≠ none → b = a
  frz : ∀ b, H b = none ∨ ∃ o xs, H b = some (.frz o (.lst xs))
theorem goG {P : Program} {w : World} {K : PySem.W.Frag} {mg mb : Str → Option Value} {k : Nat} {fa a : Addr} {fd : FuncData} {x : Str} {sp : ASp} {st : Shared} {us : List Value} {H : Hp}
    (kin : K.In st.heap) (gl : st.heap.Ns mainGlobals mg) (bi : st.heap.Ns builtinsNs mb) (bi2 : ∀ y : Str, y ≠ "__name__" → mb y = bootBuiltins y) (nl : st.heap.NoLimit) (ng : st.gens = #[])
    (la : st.heap.get? a = some { cls := .type "list", data := .seq us.toArray }) (room : Room k callerA) (G : ∀ base : Heap, K.In base → base.Ns mainGlobals mg → FnG P w K mg base k fa fd [x] sp) (bd : ∀ (s : Shared) (u : Value), BindsTo s fd ⟨[u], []⟩ [(x, u)])
    (lo : Lone H a) (hok : HOk P w H st.heap) (free : H a ≠ none → K.lookup a = none) (hs : lift K sp [.ref a] H fun v _ => v = .bl true) :
    codeAny (model P w) callerA (.call (.ref fa) ⟨[.ref a], []⟩) (fun r s2 => r = .ok (.ret (.bool true)) ∧ OldK st.heap s2.heap ∧ s2.os = st.os ∧ AllBare s2.gens) st := by
  have seen : ∀ {b : Addr} {o : Obj}, st.heap.get? b = some o → H b = none → (hidT st.heap H).get? b = some o := fun g n => hidT_get g n
  have dict_free : ∀ {b : Addr} {o : Obj} {es : Array DictEntry} {ep : Nat}, st.heap.get? b = some o → o.data = .dict es ep → H b = none := fun {b o es ep} g dd => by
    by_cases z : H b = none
    · exact z
    · have hb := lo.only b z
      rw [hb, la] at g
      cases g
      cases (show Data.seq us.toArray _ = Data.dict es ep from dd)
  have carry : ∀ {b : Addr} {mm : Str → Option Value}, st.heap.Ns b mm → (hidT st.heap H).Ns b mm := fun {b mm} ⟨o, es, ep, g, dd, rr⟩ => ⟨o, es, ep, seen g (dict_free g dd), dd, rr⟩
  have kin2 : K.In (hidT st.heap H) := fun b o g => seen (kin b o g) (by
    by_cases z : H b = none
    · exact z
    · have hb := lo.only b z
      rw [hb, free (by rw [← hb]; exact z)] at g
      cases g)
  have md : Mod K mg (hidT st.heap H) := ⟨kin2, carry gl, ⟨mb, carry bi, bi2⟩, let ⟨mc, n1, n2⟩ := nl; ⟨mc, carry n1, n2⟩⟩
  have env0 : Env0 P w K mg (hidT st.heap H) callerA [] st H := ⟨rfl, md, fun b o g => of_hidT g, Nat.le_of_eq (hidT_size _ _), trivial, fun b hb => (List.not_mem_nil hb).elim, hok, .of_eq ng⟩
  refine codeAny_mono ((G _ kin2 (carry gl)).run callerA [] st H ⟨[.ref a], []⟩ [.ref a] [.ref a] _ rfl room env0 (bd st (.ref a)) (.cons rfl .nil) rfl hs) fun r s2 z => ?_
  rcases r with er | fl
  · exact False.elim z
  · cases fl with
    | ret u =>
      obtain ⟨v, H2, oss, bare, un, hok2, rel, hv⟩ := z
      have hv2 : v = .bl true := hv
      subst hv2
      obtain rfl : u = Value.bool true := rel
      refine ⟨rfl, OldK.of_keep fun b o g => ?_, oss, bare⟩
      rcases lo.frz b with n | ⟨ob, xs, f⟩
      · exact un.keep b o g n (fun y => List.not_mem_nil (show b ∈ ([] : List Addr) from y)) (by simp)
      · obtain ⟨g1, _⟩ := hok b _ f
        obtain ⟨g2, _⟩ := hok2 b _ (un.frzs b ob _ f)
        rw [g] at g1
        cases g1
        exact g2
    | next => exact False.elim z
    | brk => exact False.elim z
    | cont => exact False.elim z
/-- what a law promises: of a script of at most 63 whole numbers it says True -/
def spLaw : ASp := fun ws ih Q => ∃ ns : List Int, ws = [.scr ns] ∧ ih = [] ∧ ns.length ≤ 63 ∧ ∀ ih2, Q (.d (.bool true)) ih2
theorem sim_none {K : PySem.W.Frag} {H : Hp} : Sim K JT.tt [] [] H := ⟨True.intro, rfl, List.nodup_nil, fun _ h => absurd h (by simp), fun _ h => absurd h (by simp [JT.tt]), fun i a o h => by simp at h⟩
theorem own_none {a : Addr} : ¬ Own JT.tt [] [] a := fun l => l.elim (fun ⟨i, o, h, _⟩ => by simp at h) fun z => by simp [JT.tt] at z
theorem law_walk {l : PySem.W.OpenLaw} {k : Nat} {q : Program} {loose : List Str} {XP : (Str → Option Value) → Heap → Prop} {YP : World → Heap → Prop} {d : DefRec} {K : Params → PySem.W.Frag} {x : Str}
    (hn : l.most = some 63) (hdf : d.params.defaults = []) (room : Room k callerA) (hY : ∀ (w : World) (h : Heap), YP w h → (K w.params).In h)
    (G : ∀ (w : World) (mg : Str → Option Value) (fa : Addr) (h : Heap), (K w.params).In h → h.Ns mainGlobals mg → mg d.name = some (.ref fa) →
      ∃ fd : FuncData, (∀ (s : Shared) (u : Value), BindsTo s fd ⟨[u], []⟩ [(x, u)]) ∧ ∀ base : Heap, (K w.params).In base → base.Ns mainGlobals mg → FnG l.prog w (K w.params) mg base k fa fd [x] spLaw) :
    PySem.W.WalkO q loose XP YP l.row.toRowW d [] (fun f vs => PySem.call f vs) := by
  refine Att.attach_call hn hdf fun w st0 st mg mb fa o pm cd doc a us ns T Y ho hd hcd hmg la hints hlen ng => ?_
  have kin := hY w _ Y
  obtain ⟨fd, bd, G2⟩ := G w mg fa _ kin T.T.g hmg
  have rel := vals_ints hints
  have lenU := hints.length
  have big : ns.length ≤ sizeLine := Nat.le_trans hlen (by decide)
  have fin : ∀ H : Hp, WR (K w.params) JT.tt [] [] H (.scr ns) (.ref a) → lift (K w.params) spLaw [.ref a] H fun v _ => v = .bl true := fun H r =>
    ⟨JT.tt, [], [], [.scr ns], fun y _ => y = .d (.bool true), sim_none, .cons r .nil, ⟨ns, rfl, rfl, hlen, fun _ => rfl⟩, fun m1 ih1 H1 y v S1 x1 r1 e1 => by subst e1; exact r1.bl'⟩
  cases hk : (K w.params).lookup a with
  | some ob =>
    have g := kin a ob hk
    rw [la] at g
    cases g
    refine goG kin T.T.g T.T.b T.T.builtins T.T.nolimit ng la room G2 bd (H := fun _ => none) ⟨fun b z => absurd rfl z, fun b => .inl rfl⟩ (fun b u z => by cases (show (none : Option HO) = some u from z)) (fun z => absurd rfl z) (fin _ ⟨a, rfl, .inr fun H2 => ?_⟩)
    exact .inr ⟨_, us.toArray, _, hk, rfl, rfl, rfl, by rw [List.size_toArray, lenU]; exact big, by simpa using rel⟩
  | none =>
    have here : (fun b => if b = a then some (HO.frz { cls := .type "list", data := .seq us.toArray } (.lst (ns.map V.int))) else none) a = some (HO.frz { cls := .type "list", data := .seq us.toArray } (.lst (ns.map V.int))) := if_pos rfl
    refine goG kin T.T.g T.T.b T.T.builtins T.T.nolimit ng la room G2 bd (H := fun b => if b = a then some (.frz { cls := .type "list", data := .seq us.toArray } (.lst (ns.map V.int))) else none) ⟨fun b z => ?_, fun b => ?_⟩ (fun b u z => ?_) (fun _ => hk) (fin _ ⟨a, rfl, .inl ⟨.inr ⟨_, here⟩, own_none⟩⟩)
    · by_cases hb : b = a
      · exact hb
      · exact absurd (if_neg hb) z
    · by_cases hb : b = a
      · exact .inr ⟨_, _, if_pos hb⟩
      · exact .inl (if_neg hb)
    · by_cases hb : b = a
      · have y := (if_pos hb).symm.trans z
        cases y
        rw [hb]
        exact ⟨la, by rw [List.length_map]; exact big, us, _, rel, la⟩
      · have y := (if_neg hb).symm.trans z
        cases y
end Pz

end
section
set_option Elab.async false
set_option linter.all false
set_option maxRecDepth 100000
set_option autoImplicit false
/-! Fw13: the defs of a module, their calls. -/
namespace Pz
open PySem PySem.Spec PyProof.Rows L2

abbrev Sty := List Str × Nat × Nat × List Nat
/-- a def of the module -/
def Df (K : PySem.W.Frag) (mg : Str → Option Value) (x : Str) (st : Stmt) (ps : List Str) (sty : List Sty) : Prop :=
  ∃ (f : Addr) (fd : FuncData), mg x = some (.ref f) ∧ (∀ (s : Shared) (us : List Value), us.length = ps.length → BindsTo s fd ⟨us, []⟩ (ps.zip us)) ∧ (∀ s ∈ sty, KB fd ps s.1 s.2.1 s.2.2.1 s.2.2.2) ∧ Fun K x x st f fd
/-- .. with what it promises -/
def Fdf (P : Program) (w : World) (K : PySem.W.Frag) (mg : Str → Option Value) (base : Heap) (k : Nat) (x : Str) (ps : List Str) (sty : List Sty) (sp : ASp) : Prop :=
  ∃ (f : Addr) (fd : FuncData), mg x = some (.ref f) ∧ PySem.W.keepIn K (.ref f) = true ∧ Binds K fd ps [] ∧ (∀ s ∈ sty, KB fd ps s.1 s.2.1 s.2.2.1 s.2.2.2) ∧ FnG P w K mg base k f fd ps sp
section
variable {P : Program} {w : World} {K : PySem.W.Frag} {mg : Str → Option Value} {base : Heap} {k : Nat} {x : Str} {st : Stmt} {ps : List Str} {sty : List Sty} {sp sq : ASp}
theorem Df.fd (D : Df K mg x st ps sty) (h : ∀ f fd, Fun K x x st f fd → FnG P w K mg base k f fd ps sp) : Fdf P w K mg base k x ps sty sp := by
  obtain ⟨f, fd, e, nb, kb, Fn⟩ := D
  exact ⟨f, fd, e, Fn.kp, fun s us _ hl => by rw [List.append_nil] at hl ⊢; exact nb s us hl, kb, h f fd Fn⟩
theorem Df.none (D : Df K mg x st ps sty) (h : ∀ ws ih Q, ¬ sp ws ih Q) : Fdf P w K mg base k x ps sty sp :=
  D.fd fun f fd _ => ⟨fun A outer s H args us vs Q hg hr he hb hv hl ⟨J, m, ih, ws, Qa, S0, r, q, f⟩ => (h _ _ _ q).elim⟩
theorem Fdf.imp (D : Fdf P w K mg base k x ps sty sp) (h : ∀ ws ih Q, sq ws ih Q → sp ws ih Q) : Fdf P w K mg base k x ps sty sq := by
  obtain ⟨f, fd, e, kp, b, kb, G⟩ := D
  exact ⟨f, fd, e, kp, b, kb, G.imp h⟩
/-- the facts of the head make a def -/
theorem Df.mk {h : Heap} {f : Addr} {oc : Value} {od an : Option Addr} {osl : Array (Option Value)} {kV doc pm cdv ct : Value} (X : K.In h) (G : h.Ns mainGlobals mg)
    (nb : ∀ (kV doc pm : Value) (an : Option Addr) (cdv ct : Value) (s : Shared) (us : List Value), us.length = ps.length → BindsTo s (PySem.W.fnOf x x (defArgs st) (defBody st) (defScope st) .none kV doc pm an cdv ct) ⟨us, []⟩ (ps.zip us))
    (kb : ∀ (kV doc pm : Value) (an : Option Addr) (cdv ct : Value), ∀ s ∈ sty, KB (PySem.W.fnOf x x (defArgs st) (defBody st) (defScope st) .none kV doc pm an cdv ct) ps s.1 s.2.1 s.2.2.1 s.2.2.2)
    (a : PySem.W.nsIn K mainGlobals x = some (some (.ref f))) (l : K.lookup f = some ⟨oc, od, .func (PySem.W.fnOf x x (defArgs st) (defBody st) (defScope st) .none kV doc pm an cdv ct), osl⟩)
    (c : PySem.W.codeIn K cdv x = true) (kp : PySem.W.keepIn K (.ref f) = true) : Df K mg x st ps sty :=
  ⟨f, _, PySem.W.mg_of X G a, nb kV doc pm an cdv ct, kb kV doc pm an cdv ct, fun_mk l c kp⟩
end

section
variable {F : Fam} {pos p : Pos} {e : Expr} {es : List Expr} {kws : List Keyword} {ta tk : AA} {x : Str} {ps ks : List Str} {sty : List Sty} {sp : ASp} {j : Nat}
theorem evc (G : Fdf F.P F.w F.K F.mg F.base j x ps sty sp) (hj : j ≤ F.k) (hg : Glb F x) (ha : AV F (e :: es) ta)
    (hdb : (x == ("__debug__" : Str)) = false := by decide) (he : ∀ env, starEach (e :: es) env = (false, eval e env) :: starEach es env := by intro _; rfl) (hpl : ∀ env, (backTo pos (starEach es env)).any (·.1) = false := by intro _; rfl) :
    EV F (.Call (.Name x p) (e :: es) [] pos) (aCall ps.length sp ta) := by
  obtain ⟨f, fd, e1, kp, b, _, g⟩ := G
  exact ev_call g hj hg e1 kp b ha hdb he hpl
theorem evc0 (G : Fdf F.P F.w F.K F.mg F.base j x [] sty sp) (hj : j ≤ F.k) (hg : Glb F x) (hdb : (x == ("__debug__" : Str)) = false := by decide) : EV F (.Call (.Name x p) [] [] pos) (aCall 0 sp aNil) := by
  obtain ⟨f, fd, e1, kp, b, _, g⟩ := G
  exact ev_call0 g hj hg e1 kp b hdb
theorem evk {a b : Nat} {is : List Nat} (G : Fdf F.P F.w F.K F.mg F.base j x ps sty sp) (hj : j ≤ F.k) (hg : Glb F x) (hs : (ks, a, b, is) ∈ sty) (ha : AV F (e :: es) ta) (hkw : KV1 F kws tk)
    (hall : ∀ env, (backToKw pos (keywordEach kws env)).all (·.1.isSome) = true := by intro _; rfl) (hks : ∀ env, (backToKw pos (keywordEach kws env)).filterMap (·.1) = ks := by intro _; rfl)
    (hdb : (x == ("__debug__" : Str)) = false := by decide) (he : ∀ env, starEach (e :: es) env = (false, eval e env) :: starEach es env := by intro _; rfl)
    (hpl : ∀ env, ((backTo pos (starEach (e :: es) env)).any (·.1) || (backToKw pos (keywordEach kws env)).any (·.1.isNone)) = false := by intro _; rfl) :
    EV F (.Call (.Name x p) (e :: es) kws pos) (aCallK a b is sp ta tk) := by
  obtain ⟨f, fd, e1, kp, _, kb, g⟩ := G
  exact ev_callK g hj hg e1 kp (kb _ hs) ha hkw hall hks hdb he hpl
theorem evk0 {b : Nat} {is : List Nat} (G : Fdf F.P F.w F.K F.mg F.base j x ps sty sp) (hj : j ≤ F.k) (hg : Glb F x) (hs : (ks, 0, b, is) ∈ sty) (hkw : KV1 F kws tk)
    (hall : ∀ env, (backToKw pos (keywordEach kws env)).all (·.1.isSome) = true := by intro _; rfl) (hks : ∀ env, (backToKw pos (keywordEach kws env)).filterMap (·.1) = ks := by intro _; rfl)
    (hdb : (x == ("__debug__" : Str)) = false := by decide)
    (hpl : ∀ env, ((backTo pos (starEach [] env)).any (·.1) || (backToKw pos (keywordEach kws env)).any (·.1.isNone)) = false := by intro _; rfl) :
    EV F (.Call (.Name x p) [] kws pos) (aCallK 0 b is sp aNil tk) := by
  obtain ⟨f, fd, e1, kp, _, kb, g⟩ := G
  exact ev_callK0 g hj hg e1 kp (kb _ hs) hkw hall hks hdb hpl
/-- a constant that the module has made -/
def Gc (K : PySem.W.Frag) (mg : Str → Option Value) (x : Str) (dt : D) : Prop := ∃ v u, mg x = some u ∧ RelV v u ∧ ∀ L H, DR K L H dt v
theorem ev_globC {dt : D} (hg : Glb F x) (h : Gc F.K F.mg x dt) (hdb : (x == ("__debug__" : Str)) = false := by decide) : EV F (.Name x p) (aC dt) := by
  obtain ⟨v, u, hm, r, hd⟩ := h
  exact ev_glob hg hm r hd hdb
/-- x = e where x is a name that a comprehension reads -/
theorem sv_setC (i : Nat) {p' : Pos} {aa : AE} (h1 : EV F e aa) (hf : ∀ X, F.ok X → X.fn x = true) (hi : F.N[i]? = some x := by rfl) (hx : F.sc.names.lookup x = some .cell := by rfl) (hs : ∀ env, swapsWith e (some (.Name x p')) pos.line env = pure false := by intro _; rfl) :
    SV F (.Assign [.Name x p'] e pos) (aAsg aa (aGN i)) := by
  obtain ⟨t, p, q⟩ := h1
  refine ⟨tAsg t (gName i), fun X hX => ps_set (by rw [F.hN X hX]; exact F.nd) (by rw [F.hN X hX]; exact hi) (.inr (by rw [F.hsc X hX]; exact hx)) (p X hX) (hs _) (.inl (hf X hX)), fun J jk m ih H env σ Da D S E h f => ?_⟩
  refine q J jk m ih H env σ _ _ S E h fun m1 ih1 H1 w v S1 x1 r1 k1 => ?_
  exact f.nx m1 ih1 H1 _ _ S1 x1 ((E.mono S x1).set r1) k1
end
theorem fn_def {P : Program} {w : World} {K : PySem.W.Frag} {mg : Str → Option Value} {base : Heap} {k : Nat} {N : List Str} {sc : Scope} {qual : Str} {f : Addr} {cdv : Value} {nd : N.Nodup} {x : Str} :
    ∀ X, (Fam.ofDef P w K mg base k N sc qual f cdv nd).ok X → X.fn x = true := by
  rintro X ⟨A, o, s, H, g, r, rfl⟩
  rfl
/-- a law's end -/
theorem law_fin {l : PySem.W.OpenLaw} {w : World} {K : PySem.W.Frag} {mg : Str → Option Value} {fa : Addr} {k : Nat} {st : Stmt} (D : Df K mg "law" st ["script"] []) (hfa : mg "law" = some (.ref fa))
    (h : ∀ base : Heap, ∀ f fd, Fun K "law" "law" st f fd → FnG l.prog w K mg base k f fd ["script"] spLaw) :
    ∃ fd : FuncData, (∀ (s : Shared) (u : Value), BindsTo s fd ⟨[u], []⟩ [("script", u)]) ∧ ∀ base : Heap, K.In base → base.Ns mainGlobals mg → FnG l.prog w K mg base k fa fd ["script"] spLaw := by
  obtain ⟨f, fd, e, nb, _, Fn⟩ := D
  rw [hfa] at e
  cases e
  exact ⟨fd, fun s u => nb s [u] rfl, fun base _ _ => h base _ _ Fn⟩
end Pz

end
section
set_option Elab.async false
set_option linter.all false
set_option maxRecDepth 100000
set_option autoImplicit false
/-! Fw14: built-in names; sizes of whole numbers; the deck of a law. -/
namespace Pz
open PySem PySem.Spec PyProof.Rows L2
theorem bt_len : bootBuiltins "len" = some (.builtin "len") := by decide +kernel
theorem bt_abs : bootBuiltins "abs" = some (.builtin "abs") := by decide +kernel
theorem bt_max : bootBuiltins "max" = some (.builtin "max") := by decide +kernel
theorem bt_min : bootBuiltins "min" = some (.builtin "min") := by decide +kernel
theorem bt_sum : bootBuiltins "sum" = some (.builtin "sum") := by decide +kernel
theorem bt_all : bootBuiltins "all" = some (.builtin "all") := by decide +kernel
theorem bt_any : bootBuiltins "any" = some (.builtin "any") := by decide +kernel
theorem bt_repr : bootBuiltins "repr" = some (.builtin "repr") := by decide +kernel
theorem bt_sorted : bootBuiltins "sorted" = some (.builtin "sorted") := by decide +kernel
theorem bt_isinstance : bootBuiltins "isinstance" = some (.builtin "isinstance") := by decide +kernel
theorem bt_int : bootBuiltins "int" = some (.type "int") := by decide +kernel
theorem bt_str : bootBuiltins "str" = some (.type "str") := by decide +kernel
theorem bt_bool : bootBuiltins "bool" = some (.type "bool") := by decide +kernel
theorem bt_list : bootBuiltins "list" = some (.type "list") := by decide +kernel
theorem bt_tuple : bootBuiltins "tuple" = some (.type "tuple") := by decide +kernel
theorem bt_dict : bootBuiltins "dict" = some (.type "dict") := by decide +kernel
theorem bt_set : bootBuiltins "set" = some (.type "set") := by decide +kernel

/-! ### sizes -/
/-- a whole number of at most k bits -/
def Bd (k : Nat) (i : Int) : Prop := i.natAbs < 2 ^ k
instance Bd.dec {k : Nat} {i : Int} : Decidable (Bd k i) := inferInstanceAs (Decidable (i.natAbs < 2 ^ k))
theorem Bd.mono {a b : Nat} {i : Int} (h : Bd a i) (hl : a ≤ b) : Bd b i := Nat.lt_of_lt_of_le h (Nat.pow_le_pow_right (by decide) hl)
theorem Bd.neg {a : Nat} {i : Int} (h : Bd a i) : Bd a (-i) := by unfold Bd; rw [Int.natAbs_neg]; exact h
theorem Bd.mul {a b : Nat} {i j : Int} (h : Bd a i) (g : Bd b j) : Bd (a + b) (i * j) := by
  unfold Bd at *
  rw [Int.natAbs_mul, Nat.pow_add]
  exact Nat.mul_lt_mul_of_lt_of_le h (Nat.le_of_lt g) (Nat.lt_of_le_of_lt (Nat.zero_le _) g)
theorem Bd.add {a : Nat} {i j : Int} (h : Bd a i) (g : Bd a j) : Bd (a + 1) (i + j) := by
  unfold Bd at *
  have := Int.natAbs_add_le i j
  rw [Nat.pow_succ]
  omega
theorem Bd.sub {a : Nat} {i j : Int} (h : Bd a i) (g : Bd a j) : Bd (a + 1) (i - j) := by
  rw [Int.sub_eq_add_neg]
  exact h.add g.neg
theorem Bd.le {a : Nat} {i j : Int} (h : Bd a i) (g : j.natAbs ≤ i.natAbs) : Bd a j := Nat.lt_of_le_of_lt g h
theorem Bd.log {a : Nat} {i : Int} (h : Bd a i) : i.natAbs.log2 ≤ a := by
  unfold Bd at h
  by_cases h0 : i.natAbs = 0
  · rw [h0]; simp
  · exact Nat.le_of_lt ((Nat.log2_lt h0).mpr h)
theorem Bd.cmul {a b : Nat} {i j : Int} (h : Bd a i) (g : Bd b j) (hl : a + b < 1000000) : CMulW i j := by
  unfold CMulW
  have := h.log
  have := g.log
  omega
theorem Bd.cdv {a : Nat} {i j : Int} (g : Bd a j) (h0 : j ≠ 0) (hl : a < 9000) : CDv i j := ⟨h0, Nat.lt_of_le_of_lt g.log hl⟩
theorem Bd.of {k : Nat} {i : Int} (h1 : -(2 ^ k : Int) < i) (h2 : i < (2 ^ k : Int)) : Bd k i := by
  unfold Bd
  have e : ((2 ^ k : Nat) : Int) = (2 ^ k : Int) := by simp
  omega
theorem Bd.abs {a : Nat} {i : Int} (h : Bd a i) : Bd a (i.natAbs : Int) := by unfold Bd; rw [Int.natAbs_natCast]; exact h
theorem Bd.lt {a : Nat} {i : Int} (h : Bd a i) : i < (2 ^ a : Int) ∧ -(2 ^ a : Int) < i := by
  unfold Bd at h
  have e : ((2 ^ a : Nat) : Int) = (2 ^ a : Int) := by simp
  omega
theorem natAbs_fdiv_le (i j : Int) (hj : 0 < j) (hd : j ∣ i) : (i.fdiv j).natAbs ≤ i.natAbs := by
  obtain ⟨k, rfl⟩ := hd
  rw [Int.mul_comm, Int.mul_fdiv_cancel _ (by omega), Int.natAbs_mul]
  exact Nat.le_mul_of_pos_right _ (by omega)

/-! ### the deck -/
def DK (c : List Int) (x z : Int) (r : IH) : IH := .lst (c.map fun i => .d (.int i)) :: .dic [(.inr "cells", .ref 0), (.inr "mixed", .d (.int x)), (.inr "draws", .d (.int z))] :: r
/-- a deck stands, from which at most b have been drawn -/
def Dk (b : Nat) (r ih : IH) : Prop := ∃ c x z, ih = DK c x z r ∧ c.length ≤ 63 ∧ 0 ≤ x ∧ x < 2147483629 ∧ 0 ≤ z ∧ z ≤ b
theorem shaped_ints (c : List Int) : SeqAt.shaped (.list (c.map .int)) = true := by
  have h1 : ∀ c : List Int, PyData.canLayAll0 (c.map .int) = true := fun c => by
    induction c with
    | nil => rfl
    | cons a r ih => show (PyData.canLay0 (.int a) && PyData.canLayAll0 (r.map .int)) = true; rw [ih]; rfl
  have h2 : ∀ c : List Int, PyData.depthAll (c.map .int) = 0 := fun c => by
    induction c with
    | nil => rfl
    | cons a r ih => show max (PyData.depth (.int a)) (PyData.depthAll (r.map .int)) = 0; rw [ih]; rfl
  show (PyData.canLayAll0 (c.map .int) && decide (PyData.depthAll (c.map .int) + 1 ≤ 64)) = true
  rw [h1, h2]
  rfl
theorem allD_ints (c : List Int) : allD (c.map fun i => W.d (.int i)) = some (c.map .int) := by
  have e : (c.map fun i => W.d (.int i)) = (c.map PyData.int).map W.d := by rw [List.map_map]; rfl
  rw [e, allD_map]
theorem eqv_nil (c : List Int) : PyData.eqv (.list (c.map .int)) (.list []) = c.isEmpty := by
  cases c <;> rfl
/-! ### shapes -/
theorem sqm (mid : En → IH → Prop) {t u : AS} {D : AEnds} {env : En} {ih : IH} (h2 : ∀ env2 ih2, mid env2 ih2 → u D env2 ih2) (h : ∀ R : En → IH → Prop, (∀ env2 ih2, mid env2 ih2 → R env2 ih2) → t { D with nx := R } env ih) : aSeq t u D env ih := h (u D) h2
theorem sq {t u : AS} {D : AEnds} {env : En} {ih : IH} (h : t { D with nx := u D } env ih) : aSeq t u D env ih := h
theorem atI_0 {α : Type} {a : α} {r : List α} : atI (a :: r) 0 = some a := by
  unfold atI ixN
  rw [if_pos (by decide), if_pos (by rw [List.length_cons]; omega)]
  rfl
theorem atI_1 {α : Type} {a b : α} {r : List α} : atI (a :: b :: r) 1 = some b := by
  unfold atI ixN
  rw [if_pos (by decide), if_pos (by rw [List.length_cons, List.length_cons]; omega)]
  rfl
theorem size0 : (0 ≤ sizeLine) = True := eq_true (by decide)
theorem size1 : (1 ≤ sizeLine) = True := eq_true (by decide)
theorem size2 : (2 ≤ sizeLine) = True := eq_true (by decide)
theorem size3 : (3 ≤ sizeLine) = True := eq_true (by decide)
theorem ex_app {α : Type} {l : List α} : (∃ ex, l = l ++ ex) = True := eq_true ⟨[], by simp⟩
theorem ex_app2 {α : Type} {l r : List α} : (∃ ex, l ++ r = l ++ ex) = True := eq_true ⟨r, rfl⟩
theorem ite_tt {α : Sort _} {a b : α} : (if (true = true) then a else b) = a := if_pos rfl
theorem ite_ft {α : Sort _} {a b : α} : (if (false = true) then a else b) = b := if_neg Bool.false_ne_true
theorem eqOk_int {a b : Int} : eqOk (.int a) (.int b) = True := eq_true ⟨rfl, rfl⟩
theorem eqD_int {a b : Int} : eqD (.int a) (.int b) = decide (a = b) := rfl
theorem eqOk_str {a b : Str} : eqOk (.str a) (.str b) = True := rfl
theorem eqD_str {a b : Str} : eqD (.str a) (.str b) = decide (a = b) := rfl
theorem eqOk_fr {a b c d : Int} : eqOk (.tuple [.int a, .int b]) (.tuple [.int c, .int d]) = True := eq_true ⟨rfl, rfl⟩
theorem eqD_fr {a b c d : Int} : eqD (.tuple [.int a, .int b]) (.tuple [.int c, .int d]) = (decide (a = c) && (decide (b = d) && true)) := rfl
theorem lo_ws1 : ([0] : List Nat) = [0] := rfl
theorem lo_ws2 : ([0] : List Nat) = [0] := rfl
theorem lo_ws3 : ([0] : List Nat) = [0] := rfl
theorem cut_map {α β : Type} (f : α → β) (xs : List α) (lo hi : Option Int) : cut (xs.map f) lo hi = (cut xs lo hi).map f := by
  unfold cut
  rw [List.length_map, List.map_take, List.map_drop]
theorem cut_len {α : Type} (xs : List α) (lo hi : Option Int) : (cut xs lo hi).length ≤ xs.length := by
  unfold cut
  rw [List.length_take, List.length_drop]
  omega
theorem map_get {α β : Type} {f : α → β} {xs : List α} {i : Nat} {d : β} (h : (xs.map f)[i]? = some d) : ∃ a, xs[i]? = some a ∧ d = f a := by
  rw [List.getElem?_map] at h
  cases q : xs[i]? with
  | none => rw [q] at h; cases h
  | some a => rw [q] at h; cases h; exact ⟨a, rfl, rfl⟩
theorem fmod_in (a b : Int) (h : 0 < b) : 0 ≤ a.fmod b ∧ a.fmod b < b := by
  rw [Int.fmod_eq_emod_of_nonneg _ (by omega)]
  exact ⟨Int.emod_nonneg _ (by omega), Int.emod_lt_of_pos _ h⟩
theorem bd31 {i : Int} (h1 : 0 ≤ i) (h2 : i < 2147483648) : Bd 31 i := Bd.of (by omega) (by omega)
/-- the dict of a deck -/
def dk3 (a b e : W) : List (Key × W) := [(.inr "cells", a), (.inr "mixed", b), (.inr "draws", e)]
theorem n_cm : ¬ ((Sum.inr ("cells" : Str) : Key) = Sum.inr ("mixed" : Str)) := by decide +kernel
theorem n_cd : ¬ ((Sum.inr ("cells" : Str) : Key) = Sum.inr ("draws" : Str)) := by decide +kernel
theorem n_md : ¬ ((Sum.inr ("mixed" : Str) : Key) = Sum.inr ("draws" : Str)) := by decide +kernel
theorem val_cells {a b e : W} : valW (dk3 a b e) (.inr ("cells" : Str)) = some a := by
  unfold valW dk3
  rw [List.find?_cons_of_pos (by simp)]
  rfl
theorem val_mixed {a b e : W} : valW (dk3 a b e) (.inr ("mixed" : Str)) = some b := by
  unfold valW dk3
  rw [List.find?_cons_of_neg (by simpa using n_cm), List.find?_cons_of_pos (by simp)]
  rfl
theorem val_draws {a b e : W} : valW (dk3 a b e) (.inr ("draws" : Str)) = some e := by
  unfold valW dk3
  rw [List.find?_cons_of_neg (by simpa using n_cd), List.find?_cons_of_neg (by simpa using n_md), List.find?_cons_of_pos (by simp)]
  rfl
theorem put_draws {a b e v : W} : putW (dk3 a b e) (.inr ("draws" : Str)) v = dk3 a b v := by
  unfold putW dk3
  rw [if_pos (by simp)]
  simp only [List.map_cons, List.map_nil, if_neg n_cd, if_neg n_md, if_true]
theorem dk3_len {a b e : W} : ((dk3 a b e).length < sizeLine) = True := eq_true (by show 3 < sizeLine; decide)
theorem dk3_eq (c : List Int) (x z : Int) (r : IH) : DK c x z r = .lst (c.map fun i => .d (.int i)) :: .dic (dk3 (.ref 0) (.d (.int x)) (.d (.int z))) :: r := rfl
theorem pop_get {c : List Int} {y : Int} : ((c ++ [y]).map fun i => W.d (PyData.int i))[((c ++ [y]).map fun i => W.d (PyData.int i)).length - 1]? = some (.d (.int y)) := by
  rw [List.length_map, List.length_append, List.map_append]
  simp
theorem pop_drop {c : List Int} {y : Int} : ((c ++ [y]).map fun i => W.d (PyData.int i)).dropLast = c.map fun i => W.d (PyData.int i) := by
  rw [List.map_append, List.map_cons, List.map_nil, List.dropLast_concat]
theorem atI_in {α : Type} (xs : List α) (k : Int) (h0 : 0 ≤ k) (h1 : k < (xs.length : Int)) : ∃ y, atI xs k = some y ∧ y ∈ xs := by
  have hk : k.toNat < xs.length := by omega
  refine ⟨xs[k.toNat], ?_, List.getElem_mem _⟩
  unfold atI ixN
  rw [if_pos h0, if_pos h1]
  exact List.getElem?_eq_getElem hk
/-- data of at most that depth, with no dict -/
def sameOk : Nat → D → Bool
  | 0, _ => false
  | n + 1, x => match x with
    | .tuple xs => xs.all (sameOk n) && decide (xs.length ≤ 1000000)
    | .list xs => xs.all (sameOk n) && decide (xs.length ≤ 1000000)
    | .dict _ => false
    | .none => false
    | _ => true
theorem eqOk_bool {a b : Bool} : eqOk (.bool a) (.bool b) = True := eq_true ⟨rfl, rfl⟩
theorem eqD_bool {a b : Bool} : eqD (.bool a) (.bool b) = decide (a = b) := by cases a <;> cases b <;> rfl
theorem zipD_self {xs : List D} {i : Nat} {d : D} (h : (zipD xs xs)[i]? = some d) : ∃ y, xs[i]? = some y ∧ d = .tuple [y, y] := by
  unfold zipD at h
  rw [List.getElem?_zipWith] at h
  cases q : xs[i]? with
  | none => rw [q] at h; cases h
  | some y => rw [q] at h; cases h; exact ⟨y, rfl, rfl⟩
section
variable {g : Bool → Bool} {ih : IH} {Q : QW} {a b : Bool} {i : Int} {s : Str} {xs : List D}
theorem xIs_nn : xIs g (.d .none) (.d .none) ih Q = Q (.d (.bool (g true))) ih := rfl
theorem xIs_bb : xIs g (.d (.bool a)) (.d (.bool b)) ih Q = Q (.d (.bool (g (decide (a = b))))) ih := rfl
theorem xIs_bn : xIs g (.d (.bool a)) (.d .none) ih Q = Q (.d (.bool (g false))) ih := rfl
theorem xIs_in : xIs g (.d (.int i)) (.d .none) ih Q = Q (.d (.bool (g false))) ih := rfl
theorem xIs_sn : xIs g (.d (.str s)) (.d .none) ih Q = Q (.d (.bool (g false))) ih := rfl
theorem xIs_tn : xIs g (.d (.tuple xs)) (.d .none) ih Q = Q (.d (.bool (g false))) ih := rfl
theorem xIs_ln : xIs g (.d (.list xs)) (.d .none) ih Q = Q (.d (.bool (g false))) ih := rfl
end
theorem pow10_le {a b : Nat} (h : a ≤ b) : (10 : Int) ^ a ≤ 10 ^ b := by
  have : (10 : Nat) ^ a ≤ 10 ^ b := Nat.pow_le_pow_right (by decide) h
  exact_mod_cast this
/-! ### what repr asks -/
theorem shown_le {d : PyData} (h : d.leavesShort 1921 = true) (hb : d.bulk ≤ 8000) : d.shown.length ≤ sizeLine := by
  have := PyData.shown_le_bulk 1921 (by decide) d h
  have e : (1921 + 2) * d.bulk ≤ 1923 * 8000 := Nat.mul_le_mul_left _ hb
  have s : sizeLine = 16777216 := by decide
  omega
theorem Bd.show {i : Int} {k : Nat} (h : Bd k i) (hk : k < 1920) : PyData.showable (.int i) = true ∧ PyData.leavesShort 1921 (.int i) = true := by
  have l : i.natAbs.log2 < 1920 := Nat.lt_of_le_of_lt h.log hk
  exact ⟨decide_eq_true l, decide_eq_true (int_text_len_1921 l)⟩
end Pz

end
set_option Elab.async false
set_option linter.all false
set_option maxRecDepth 100000
set_option autoImplicit false
set_option maxHeartbeats 1000000
namespace Pz
open PySem PySem.Spec PyProof.Rows L2
def tp (i : Nat) : Stmt := PySem.Challenge.pw_wheremade_k01_fractions_by_cross_product.main.body.getD i (.Pass ⟨0, 0, 0, 0⟩)
abbrev st_is_int : Stmt := tp 5
theorem sc_is_int : FnScope ["thing"] ["thing"] (defScope st_is_int) := ⟨rfl, rfl, rfl, by decide +kernel, rfl, by decide +kernel, by decide +kernel⟩
abbrev st_is_from : Stmt := tp 6
theorem sc_is_from : FnScope ["thing", "least"] ["thing", "least"] (defScope st_is_from) := ⟨rfl, rfl, rfl, by decide +kernel, rfl, by decide +kernel, by decide +kernel⟩
abbrev st_is_row : Stmt := tp 7
theorem sc_is_row : FnScope ["thing", "many"] ["thing", "many"] (defScope st_is_row) := ⟨rfl, rfl, rfl, by decide +kernel, rfl, by decide +kernel, by decide +kernel⟩
abbrev st_is_fraction_value : Stmt := tp 10
theorem sc_is_fraction_value : FnScope ["thing"] ["thing"] (defScope st_is_fraction_value) := ⟨rfl, rfl, rfl, by decide +kernel, rfl, by decide +kernel, by decide +kernel⟩
abbrev st_low : Stmt := tp 11
theorem sc_low : FnScope ["n", "d", "common"] ["n", "d"] (defScope st_low) := ⟨rfl, rfl, rfl, by decide +kernel, rfl, by decide +kernel, by decide +kernel⟩
abbrev st_as_f : Stmt := tp 12
theorem sc_as_f : FnScope ["n"] ["n"] (defScope st_as_f) := ⟨rfl, rfl, rfl, by decide +kernel, rfl, by decide +kernel, by decide +kernel⟩
abbrev st_plus_f : Stmt := tp 13
theorem sc_plus_f : FnScope ["one", "other"] ["one", "other"] (defScope st_plus_f) := ⟨rfl, rfl, rfl, by decide +kernel, rfl, by decide +kernel, by decide +kernel⟩
abbrev st_minus_f : Stmt := tp 14
theorem sc_minus_f : FnScope ["one", "other"] ["one", "other"] (defScope st_minus_f) := ⟨rfl, rfl, rfl, by decide +kernel, rfl, by decide +kernel, by decide +kernel⟩
abbrev st_times_f : Stmt := tp 15
theorem sc_times_f : FnScope ["one", "other"] ["one", "other"] (defScope st_times_f) := ⟨rfl, rfl, rfl, by decide +kernel, rfl, by decide +kernel, by decide +kernel⟩
abbrev st_over_f : Stmt := tp 16
theorem sc_over_f : FnScope ["one", "other"] ["one", "other"] (defScope st_over_f) := ⟨rfl, rfl, rfl, by decide +kernel, rfl, by decide +kernel, by decide +kernel⟩
abbrev st_compared_f : Stmt := tp 17
theorem sc_compared_f : FnScope ["one", "other", "near", "far"] ["one", "other"] (defScope st_compared_f) := ⟨rfl, rfl, rfl, by decide +kernel, rfl, by decide +kernel, by decide +kernel⟩
abbrev st_need_fraction : Stmt := tp 18
theorem sc_need_fraction : FnScope ["thing"] ["thing"] (defScope st_need_fraction) := ⟨rfl, rfl, rfl, by decide +kernel, rfl, by decide +kernel, by decide +kernel⟩
abbrev st_need_two : Stmt := tp 19
theorem sc_need_two : FnScope ["one", "other"] ["one", "other"] (defScope st_need_two) := ⟨rfl, rfl, rfl, by decide +kernel, rfl, by decide +kernel, by decide +kernel⟩
abbrev st_lowest : Stmt := tp 20
theorem sc_lowest : FnScope ["n", "d"] ["n", "d"] (defScope st_lowest) := ⟨rfl, rfl, rfl, by decide +kernel, rfl, by decide +kernel, by decide +kernel⟩
abbrev st_as_fraction : Stmt := tp 21
theorem sc_as_fraction : FnScope ["n"] ["n"] (defScope st_as_fraction) := ⟨rfl, rfl, rfl, by decide +kernel, rfl, by decide +kernel, by decide +kernel⟩
abbrev st_plus : Stmt := tp 22
theorem sc_plus : FnScope ["one", "other"] ["one", "other"] (defScope st_plus) := ⟨rfl, rfl, rfl, by decide +kernel, rfl, by decide +kernel, by decide +kernel⟩
abbrev st_minus : Stmt := tp 23
theorem sc_minus : FnScope ["one", "other"] ["one", "other"] (defScope st_minus) := ⟨rfl, rfl, rfl, by decide +kernel, rfl, by decide +kernel, by decide +kernel⟩
abbrev st_times : Stmt := tp 24
theorem sc_times : FnScope ["one", "other"] ["one", "other"] (defScope st_times) := ⟨rfl, rfl, rfl, by decide +kernel, rfl, by decide +kernel, by decide +kernel⟩
abbrev st_over : Stmt := tp 25
theorem sc_over : FnScope ["one", "other"] ["one", "other"] (defScope st_over) := ⟨rfl, rfl, rfl, by decide +kernel, rfl, by decide +kernel, by decide +kernel⟩
abbrev st_compared : Stmt := tp 26
theorem sc_compared : FnScope ["one", "other"] ["one", "other"] (defScope st_compared) := ⟨rfl, rfl, rfl, by decide +kernel, rfl, by decide +kernel, by decide +kernel⟩
abbrev st_floor_of : Stmt := tp 27
theorem sc_floor_of : FnScope ["one"] ["one"] (defScope st_floor_of) := ⟨rfl, rfl, rfl, by decide +kernel, rfl, by decide +kernel, by decide +kernel⟩
abbrev st_ceiling_of : Stmt := tp 28
theorem sc_ceiling_of : FnScope ["one"] ["one"] (defScope st_ceiling_of) := ⟨rfl, rfl, rfl, by decide +kernel, rfl, by decide +kernel, by decide +kernel⟩
abbrev st__law_deck : Stmt := tp 30
theorem sc__law_deck : FnScope ["script", "seed", "cell"] ["script"] (defScope st__law_deck) := ⟨rfl, rfl, rfl, by decide +kernel, rfl, by decide +kernel, by decide +kernel⟩
abbrev st__law_draw : Stmt := tp 31
theorem sc__law_draw : FnScope ["deck", "many", "number", "cell"] ["deck", "many"] (defScope st__law_draw) := ⟨rfl, rfl, rfl, by decide +kernel, rfl, by decide +kernel, by decide +kernel⟩
abbrev st__law_pick : Stmt := tp 32
theorem sc__law_pick : FnScope ["deck", "some"] ["deck", "some"] (defScope st__law_pick) := ⟨rfl, rfl, rfl, by decide +kernel, rfl, by decide +kernel, by decide +kernel⟩
abbrev st__law_divisor : Stmt := tp 33
theorem sc__law_divisor : FnScope ["one", "other"] ["one", "other"] (defScope st__law_divisor) := ⟨rfl, rfl, rfl, by decide +kernel, rfl, by decide +kernel, by decide +kernel⟩
abbrev st__law_lowest : Stmt := tp 34
theorem sc__law_lowest : FnScope ["n", "d", "by"] ["n", "d"] (defScope st__law_lowest) := ⟨rfl, rfl, rfl, by decide +kernel, rfl, by decide +kernel, by decide +kernel⟩
abbrev st__law_same : Stmt := tp 35
theorem sc__law_same : FnScope ["told", "due", "x", "y"] ["told", "due"] (defScope st__law_same) := ⟨rfl, rfl, rfl, by decide +kernel, rfl, by decide +kernel, by decide +kernel⟩
abbrev st__law_is_int : Stmt := tp 36
theorem sc__law_is_int : FnScope ["thing"] ["thing"] (defScope st__law_is_int) := ⟨rfl, rfl, rfl, by decide +kernel, rfl, by decide +kernel, by decide +kernel⟩
abbrev st__law_int : Stmt := tp 37
theorem sc__law_int : FnScope ["deck", "most", "way", "number", "turn"] ["deck", "most"] (defScope st__law_int) := ⟨rfl, rfl, rfl, by decide +kernel, rfl, by decide +kernel, by decide +kernel⟩
abbrev st__law_is_fraction : Stmt := tp 38
theorem sc__law_is_fraction : FnScope ["thing"] ["thing"] (defScope st__law_is_fraction) := ⟨rfl, rfl, rfl, by decide +kernel, rfl, by decide +kernel, by decide +kernel⟩
abbrev st__law_fraction : Stmt := tp 39
theorem sc__law_fraction : FnScope ["deck", "most", "way"] ["deck", "most"] (defScope st__law_fraction) := ⟨rfl, rfl, rfl, by decide +kernel, rfl, by decide +kernel, by decide +kernel⟩
abbrev st__law_is_for : Stmt := tp 40
theorem sc__law_is_for : FnScope ["told", "top", "bottom"] ["told", "top", "bottom"] (defScope st__law_is_for) := ⟨rfl, rfl, rfl, by decide +kernel, rfl, by decide +kernel, by decide +kernel⟩
abbrev st__law_second : Stmt := tp 41
theorem sc__law_second : FnScope ["deck", "one", "most", "n", "d", "some"] ["deck", "one", "most"] (defScope st__law_second) := ⟨rfl, rfl, rfl, by decide +kernel, rfl, by decide +kernel, by decide +kernel⟩
abbrev st__law_are_sums_right : Stmt := tp 42
theorem sc__law_are_sums_right : FnScope ["one", "other", "a", "b", "c", "d"] ["one", "other"] (defScope st__law_are_sums_right) := ⟨rfl, rfl, rfl, by decide +kernel, rfl, by decide +kernel, by decide +kernel⟩
abbrev st__law_near : Stmt := tp 43
theorem sc__law_near : FnScope ["deck", "one", "n", "d", "far", "some", "near"] ["deck", "one"] (defScope st__law_near) := ⟨rfl, rfl, rfl, by decide +kernel, rfl, by decide +kernel, by decide +kernel⟩
abbrev st__law_are_floors_right : Stmt := tp 44
theorem sc__law_are_floors_right : FnScope ["one", "other", "low_v", "high", "near", "due"] ["one", "other"] (defScope st__law_are_floors_right) := ⟨rfl, rfl, rfl, by decide +kernel, rfl, by decide +kernel, by decide +kernel⟩
abbrev st_law : Stmt := tp 45
theorem sc_law : FnScope ["script", "deck", "turn", "most", "n", "d", "by", "one", "other", "text"] ["script"] (defScope st_law) := ⟨rfl, rfl, rfl, by decide +kernel, rfl, by decide +kernel, by decide +kernel⟩
structure Tx (K : PySem.W.Frag) (mg : Str → Option Value) : Prop where
  m_gcd : mg "gcd" = some (.builtin "math.gcd")
  b_abs : mg "abs" = none
  b_bool : mg "bool" = none
  b_int : mg "int" = none
  b_isinstance : mg "isinstance" = none
  b_len : mg "len" = none
  b_list : mg "list" = none
  b_max : mg "max" = none
  b_range : mg "range" = none
  b_repr : mg "repr" = none
  b_str : mg "str" = none
  b_tuple : mg "tuple" = none
  b_zip : mg "zip" = none
  c_NOUGHT : Gc K mg "NOUGHT" (.tuple [.int (0), .int (1)])
  d_is_int : Df K mg "is_int" st_is_int ["thing"] []
  d_is_from : Df K mg "is_from" st_is_from ["thing", "least"] []
  d_is_row : Df K mg "is_row" st_is_row ["thing", "many"] []
  d_is_fraction_value : Df K mg "is_fraction_value" st_is_fraction_value ["thing"] []
  d_low : Df K mg "low" st_low ["n", "d"] []
  d_as_f : Df K mg "as_f" st_as_f ["n"] []
  d_plus_f : Df K mg "plus_f" st_plus_f ["one", "other"] []
  d_minus_f : Df K mg "minus_f" st_minus_f ["one", "other"] []
  d_times_f : Df K mg "times_f" st_times_f ["one", "other"] []
  d_over_f : Df K mg "over_f" st_over_f ["one", "other"] []
  d_compared_f : Df K mg "compared_f" st_compared_f ["one", "other"] []
  d_need_fraction : Df K mg "need_fraction" st_need_fraction ["thing"] []
  d_need_two : Df K mg "need_two" st_need_two ["one", "other"] []
  d_lowest : Df K mg "lowest" st_lowest ["n", "d"] [(["d", "n"], 0, 2, [1, 0])]
  d_as_fraction : Df K mg "as_fraction" st_as_fraction ["n"] [(["n"], 0, 1, [0])]
  d_plus : Df K mg "plus" st_plus ["one", "other"] [(["other", "one"], 0, 2, [1, 0])]
  d_minus : Df K mg "minus" st_minus ["one", "other"] [(["other", "one"], 0, 2, [1, 0])]
  d_times : Df K mg "times" st_times ["one", "other"] [(["other", "one"], 0, 2, [1, 0])]
  d_over : Df K mg "over" st_over ["one", "other"] [(["other", "one"], 0, 2, [1, 0])]
  d_compared : Df K mg "compared" st_compared ["one", "other"] [(["other", "one"], 0, 2, [1, 0])]
  d_floor_of : Df K mg "floor_of" st_floor_of ["one"] [(["one"], 0, 1, [0])]
  d_ceiling_of : Df K mg "ceiling_of" st_ceiling_of ["one"] [(["one"], 0, 1, [0])]
  d__law_deck : Df K mg "_law_deck" st__law_deck ["script"] []
  d__law_draw : Df K mg "_law_draw" st__law_draw ["deck", "many"] []
  d__law_pick : Df K mg "_law_pick" st__law_pick ["deck", "some"] []
  d__law_divisor : Df K mg "_law_divisor" st__law_divisor ["one", "other"] []
  d__law_lowest : Df K mg "_law_lowest" st__law_lowest ["n", "d"] []
  d__law_same : Df K mg "_law_same" st__law_same ["told", "due"] []
  d__law_is_int : Df K mg "_law_is_int" st__law_is_int ["thing"] []
  d__law_int : Df K mg "_law_int" st__law_int ["deck", "most"] []
  d__law_is_fraction : Df K mg "_law_is_fraction" st__law_is_fraction ["thing"] []
  d__law_fraction : Df K mg "_law_fraction" st__law_fraction ["deck", "most"] []
  d__law_is_for : Df K mg "_law_is_for" st__law_is_for ["told", "top", "bottom"] []
  d__law_second : Df K mg "_law_second" st__law_second ["deck", "one", "most"] []
  d__law_are_sums_right : Df K mg "_law_are_sums_right" st__law_are_sums_right ["one", "other"] []
  d__law_near : Df K mg "_law_near" st__law_near ["deck", "one"] []
  d__law_are_floors_right : Df K mg "_law_are_floors_right" st__law_are_floors_right ["one", "other"] []
  d_law : Df K mg "law" st_law ["script"] []
section
variable {P : Program} {w : World} {K : PySem.W.Frag} {mg : Str → Option Value} {base : Heap}
/-- a fraction in lowest terms -/
structure Fr (k : Nat) (n d : Int) : Prop where
  pos : 0 < d
  gcd : Int.gcd n d = 1
  bn : Bd k n
  bd : Bd k d
/-- p over q is n over d in lowest terms -/
structure Low (n d p q : Int) : Prop where
  pos : 0 < q
  gcd : Int.gcd p q = 1
  eq : p * d = n * q
  ln : p.natAbs ≤ n.natAbs
  ld : q.natAbs ≤ d.natAbs
theorem Low.fr {k : Nat} {n d p q : Int} (h : Low n d p q) (a : Bd k n) (b : Bd k d) : Fr k p q := ⟨h.pos, h.gcd, a.le h.ln, b.le h.ld⟩
theorem Fr.mono {a b : Nat} {n d : Int} (h : Fr a n d) (l : a ≤ b) : Fr b n d := ⟨h.pos, h.gcd, h.bn.mono l, h.bd.mono l⟩
theorem low_mk {n d g : Int} (hd : d ≠ 0) (hg : g = if 0 < d then ((Nat.gcd n.natAbs d.natAbs : Nat) : Int) else -((Nat.gcd n.natAbs d.natAbs : Nat) : Int)) : Low n d (n.fdiv g) (d.fdiv g) := by
  have h0 : 0 < Nat.gcd n.natAbs d.natAbs := Nat.gcd_pos_of_pos_right _ (by omega)
  have hgn : g ≠ 0 := by rw [hg]; split <;> omega
  have gn : g.natAbs = Nat.gcd n.natAbs d.natAbs := by rw [hg]; split <;> omega
  have d1 : g ∣ n := Int.natAbs_dvd_natAbs.mp (by rw [gn]; exact Nat.gcd_dvd_left _ _)
  have d2 : g ∣ d := Int.natAbs_dvd_natAbs.mp (by rw [gn]; exact Nat.gcd_dvd_right _ _)
  obtain ⟨p, hp⟩ := d1
  obtain ⟨q, hq⟩ := d2
  have e1 : n.fdiv g = p := by rw [hp, Int.mul_comm]; exact Int.mul_fdiv_cancel _ hgn
  have e2 : d.fdiv g = q := by rw [hq, Int.mul_comm]; exact Int.mul_fdiv_cancel _ hgn
  rw [e1, e2]
  have hng : 0 < g.natAbs := by omega
  have an : n.natAbs = g.natAbs * p.natAbs := by rw [hp, Int.natAbs_mul]
  have ad : d.natAbs = g.natAbs * q.natAbs := by rw [hq, Int.natAbs_mul]
  have q0 : q ≠ 0 := fun z => hd (by rw [hq, z, Int.mul_zero])
  refine ⟨?_, ?_, ?_, ?_, ?_⟩
  · rcases Int.lt_trichotomy d 0 with h | h | h
    · have g1 : g < 0 := by rw [hg, if_neg (by omega)]; omega
      rcases Int.lt_trichotomy q 0 with k | k | k
      · have := Int.mul_pos_of_neg_of_neg g1 k
        omega
      · exact absurd k q0
      · exact k
    · exact absurd h hd
    · have g1 : 0 < g := by rw [hg, if_pos h]; omega
      rcases Int.lt_trichotomy q 0 with k | k | k
      · have := Int.mul_neg_of_pos_of_neg g1 k
        omega
      · exact absurd k q0
      · exact k
  · show Nat.gcd p.natAbs q.natAbs = 1
    have e : g.natAbs * Nat.gcd p.natAbs q.natAbs = g.natAbs * 1 := by rw [← Nat.gcd_mul_left, ← an, ← ad, Nat.mul_one, gn]
    exact Nat.eq_of_mul_eq_mul_left hng e
  · rw [hp, hq, Int.mul_comm g q, ← Int.mul_assoc, Int.mul_comm p q, Int.mul_comm (q * p) g, Int.mul_comm q p, ← Int.mul_assoc]
  · rw [an]; exact Nat.le_mul_of_pos_left _ hng
  · rw [ad]; exact Nat.le_mul_of_pos_left _ hng
/-- lowest terms are one -/
theorem low_uniq {a b p q : Int} (hb : 0 < b) (hq : 0 < q) (g1 : Int.gcd a b = 1) (g2 : Int.gcd p q = 1) (e : p * b = a * q) : p = a ∧ q = b := by
  have c1 : Nat.Coprime q.natAbs p.natAbs := by show Nat.gcd _ _ = 1; rw [Nat.gcd_comm]; exact g2
  have c2 : Nat.Coprime b.natAbs a.natAbs := by show Nat.gcd _ _ = 1; rw [Nat.gcd_comm]; exact g1
  have en : p.natAbs * b.natAbs = a.natAbs * q.natAbs := by rw [← Int.natAbs_mul, ← Int.natAbs_mul, e]
  have h1 : q.natAbs ∣ b.natAbs := c1.dvd_of_dvd_mul_left ⟨a.natAbs, by rw [en, Nat.mul_comm]⟩
  have h2 : b.natAbs ∣ q.natAbs := c2.dvd_of_dvd_mul_left ⟨p.natAbs, by rw [← en, Nat.mul_comm]⟩
  have h3 : q.natAbs = b.natAbs := Nat.dvd_antisymm h1 h2
  have h4 : q = b := by omega
  subst h4
  exact ⟨Int.eq_of_mul_eq_mul_right (by omega) e, rfl⟩
theorem Low.uniq {n d p q a b : Int} (h : Low n d p q) (hd : d ≠ 0) (hb : 0 < b) (g : Int.gcd a b = 1) (e : a * d = n * b) : p = a ∧ q = b := by
  refine low_uniq hb h.pos g h.gcd ?_
  have h1 : (p * b) * d = (a * q) * d := by
    rw [Int.mul_assoc, Int.mul_comm b d, ← Int.mul_assoc, h.eq, Int.mul_assoc a q d, Int.mul_comm q d, ← Int.mul_assoc a d q, e, Int.mul_assoc, Int.mul_assoc, Int.mul_comm q b]
  exact Int.eq_of_mul_eq_mul_right hd h1
def sp_is_int : ASp := fun ws ih Q => ∃ x : Int, ws = [.d (.int x)] ∧ Q (.d (.bool true)) ih
theorem g_is_int (T : Tx K mg) {f : Addr} {fd : FuncData} (Fn : Fun K "is_int" "is_int" st_is_int f fd) : FnG P w K mg base 1 f fd ["thing"] sp_is_int := by
  refine fnG_of Fn sc_is_int (fun cdv => (bv_one (sv_ret (ev_and (ev_isi .int (ev_var 0) rfl T.b_isinstance rfl T.b_int bt_int bt_isinstance) (ev_one (ev_not (ev_isi .bool (ev_var 0) rfl T.b_isinstance rfl T.b_bool bt_bool bt_isinstance))))))) fun ws ob Qa hl h => ?_
  obtain ⟨x, rfl, q⟩ := h
  simp only [aAnd, aAndV, aAsg, aAsgT, aBk, aC, aCB, aCall, aCallK, aChain, aCons, aCt, aDget, aDispM, aDput, aDrop, aGN, aGcons, aGnil, aGtup, aIE, aIL, aIR1, aIR2, aIT, aIZ, aIf, aIfS, aIsi, aLst, aLstM, aMt, aMt0, aNever, aNil, aNoP, aNot, aNotV, aNx, aOp, aOr, aOrV, aPar, aPar3, aRet, aRetN, aRevD, aRevM, aSeq, aSl, aSmP, aTst, aTup, aUn, aVar, aYes, xAbs, xAdd, xApp, xBools, xEqB, xGcd, xI, xIc, xIdx, xInt, xInts, xIs_nn, xIs_bb, xIs_bn, xIs_in, xIs_sn, xIs_tn, xIs_ln, xLen, xListOf, xListOfM, xMax, xMin, xNeg, xPop, xSl, xSum, xTupleOf, optW, view, asB, onRL, isRL, pick, keyOf, val_cells, val_mixed, val_draws, put_draws, allD, finD, startA, List.map_cons, List.map_nil, List.length_cons, List.length_nil, List.replicate, List.cons_append, List.nil_append, List.append_nil, List.getElem?_cons_zero, List.getElem?_cons_succ, List.set_cons_zero, List.set_cons_succ, Option.join_some, Option.map_some, List.filterMap_cons, List.filterMap_nil, List.take, Nat.sub_self, Nat.add_one_sub_one, Nat.reduceSub, Nat.reduceAdd, List.replicate_zero, isT, atI_0, atI_1, size2, size1, size3, size0, true_and, and_true, Bool.true_eq_false, Bool.false_eq_true, if_true, if_false, ite_true, ite_false, reduceIte, eq_self, ex_app, ex_app2, ite_tt, ite_ft, List.cons.injEq, W.d.injEq, PyData.int.injEq, PyData.tuple.injEq, exists_eq_left', and_assoc, exists_and_left, eqOk_int, eqD_int, eqOk_fr, eqD_fr, eqOk_str, eqD_str, id, lo_ws1, lo_ws2, lo_ws3, Bool.not_true, Bool.not_false, Bool.and_true, Bool.and_false, Bool.true_and, Bool.false_and, Bool.or_true, Bool.or_false, Bool.true_or, Bool.false_or]
  exact q
theorem ok_is_int (T : Tx K mg) : Fdf P w K mg base 1 "is_int" ["thing"] [] sp_is_int := T.d_is_int.fd fun f fd Fn => g_is_int T Fn
def sp_is_from : ASp := fun ws ih Q => ∃ x y : Int, ws = [.d (.int x), .d (.int y)] ∧ Q (.d (.bool (decide (y ≤ x)))) ih
theorem g_is_from (T : Tx K mg) {f : Addr} {fd : FuncData} (Fn : Fun K "is_from" "is_from" st_is_from f fd) : FnG P w K mg base 2 f fd ["thing", "least"] sp_is_from := by
  refine fnG_of Fn sc_is_from (fun cdv => (bv_one (sv_ret (ev_and (evc (ok_is_int T) (Nat.le_of_ble_eq_true rfl) rfl (av_cons (ev_var 0) av_nil)) (ev_one (ev_cmp ov_ge (ev_var 0) (ev_var 1))))))) fun ws ob Qa hl h => ?_
  obtain ⟨x, y, rfl, q⟩ := h
  simp only [aAnd, aAndV, aAsg, aAsgT, aBk, aC, aCB, aCall, aCallK, aChain, aCons, aCt, aDget, aDispM, aDput, aDrop, aGN, aGcons, aGnil, aGtup, aIE, aIL, aIR1, aIR2, aIT, aIZ, aIf, aIfS, aIsi, aLst, aLstM, aMt, aMt0, aNever, aNil, aNoP, aNot, aNotV, aNx, aOp, aOr, aOrV, aPar, aPar3, aRet, aRetN, aRevD, aRevM, aSeq, aSl, aSmP, aTst, aTup, aUn, aVar, aYes, xAbs, xAdd, xApp, xBools, xEqB, xGcd, xI, xIc, xIdx, xInt, xInts, xIs_nn, xIs_bb, xIs_bn, xIs_in, xIs_sn, xIs_tn, xIs_ln, xLen, xListOf, xListOfM, xMax, xMin, xNeg, xPop, xSl, xSum, xTupleOf, optW, view, asB, onRL, isRL, pick, keyOf, val_cells, val_mixed, val_draws, put_draws, allD, finD, startA, List.map_cons, List.map_nil, List.length_cons, List.length_nil, List.replicate, List.cons_append, List.nil_append, List.append_nil, List.getElem?_cons_zero, List.getElem?_cons_succ, List.set_cons_zero, List.set_cons_succ, Option.join_some, Option.map_some, List.filterMap_cons, List.filterMap_nil, List.take, Nat.sub_self, Nat.add_one_sub_one, Nat.reduceSub, Nat.reduceAdd, List.replicate_zero, isT, atI_0, atI_1, size2, size1, size3, size0, true_and, and_true, Bool.true_eq_false, Bool.false_eq_true, if_true, if_false, ite_true, ite_false, reduceIte, eq_self, ex_app, ex_app2, ite_tt, ite_ft, List.cons.injEq, W.d.injEq, PyData.int.injEq, PyData.tuple.injEq, exists_eq_left', and_assoc, exists_and_left, eqOk_int, eqD_int, eqOk_fr, eqD_fr, eqOk_str, eqD_str, id, lo_ws1, lo_ws2, lo_ws3, Bool.not_true, Bool.not_false, Bool.and_true, Bool.and_false, Bool.true_and, Bool.false_and, Bool.or_true, Bool.or_false, Bool.true_or, Bool.false_or, sp_is_int]
  exact q
theorem ok_is_from (T : Tx K mg) : Fdf P w K mg base 2 "is_from" ["thing", "least"] [] sp_is_from := T.d_is_from.fd fun f fd Fn => g_is_from T Fn
def sp_is_row : ASp := fun ws ih Q => ∃ x y : D, ws = [.d (.tuple [x, y]), .d (.int 2)] ∧ Q (.d (.bool true)) ih
theorem g_is_row (T : Tx K mg) {f : Addr} {fd : FuncData} (Fn : Fun K "is_row" "is_row" st_is_row f fd) : FnG P w K mg base 1 f fd ["thing", "many"] sp_is_row := by
  refine fnG_of Fn sc_is_row (fun cdv => (bv_one (sv_ret (ev_and (ev_isi .tuple (ev_var 0) rfl T.b_isinstance rfl T.b_tuple bt_tuple bt_isinstance) (ev_one (ev_cmp ov_eq (ev_callB cv_len rfl T.b_len bt_len (av_cons (ev_var 0) av_nil)) (ev_var 1))))))) fun ws ob Qa hl h => ?_
  obtain ⟨x, y, rfl, q⟩ := h
  simp only [aAnd, aAndV, aAsg, aAsgT, aBk, aC, aCB, aCall, aCallK, aChain, aCons, aCt, aDget, aDispM, aDput, aDrop, aGN, aGcons, aGnil, aGtup, aIE, aIL, aIR1, aIR2, aIT, aIZ, aIf, aIfS, aIsi, aLst, aLstM, aMt, aMt0, aNever, aNil, aNoP, aNot, aNotV, aNx, aOp, aOr, aOrV, aPar, aPar3, aRet, aRetN, aRevD, aRevM, aSeq, aSl, aSmP, aTst, aTup, aUn, aVar, aYes, xAbs, xAdd, xApp, xBools, xEqB, xGcd, xI, xIc, xIdx, xInt, xInts, xIs_nn, xIs_bb, xIs_bn, xIs_in, xIs_sn, xIs_tn, xIs_ln, xLen, xListOf, xListOfM, xMax, xMin, xNeg, xPop, xSl, xSum, xTupleOf, optW, view, asB, onRL, isRL, pick, keyOf, val_cells, val_mixed, val_draws, put_draws, allD, finD, startA, List.map_cons, List.map_nil, List.length_cons, List.length_nil, List.replicate, List.cons_append, List.nil_append, List.append_nil, List.getElem?_cons_zero, List.getElem?_cons_succ, List.set_cons_zero, List.set_cons_succ, Option.join_some, Option.map_some, List.filterMap_cons, List.filterMap_nil, List.take, Nat.sub_self, Nat.add_one_sub_one, Nat.reduceSub, Nat.reduceAdd, List.replicate_zero, isT, atI_0, atI_1, size2, size1, size3, size0, true_and, and_true, Bool.true_eq_false, Bool.false_eq_true, if_true, if_false, ite_true, ite_false, reduceIte, eq_self, ex_app, ex_app2, ite_tt, ite_ft, List.cons.injEq, W.d.injEq, PyData.int.injEq, PyData.tuple.injEq, exists_eq_left', and_assoc, exists_and_left, eqOk_int, eqD_int, eqOk_fr, eqD_fr, eqOk_str, eqD_str, id, lo_ws1, lo_ws2, lo_ws3, Bool.not_true, Bool.not_false, Bool.and_true, Bool.and_false, Bool.true_and, Bool.false_and, Bool.or_true, Bool.or_false, Bool.true_or, Bool.false_or]
  exact q
theorem ok_is_row (T : Tx K mg) : Fdf P w K mg base 1 "is_row" ["thing", "many"] [] sp_is_row := T.d_is_row.fd fun f fd Fn => g_is_row T Fn
def sp_is_fraction_value : ASp := fun ws ih Q => ∃ n d : Int, ws = [.d (.tuple [.int n, .int d])] ∧ 0 < d ∧ Int.gcd n d = 1 ∧ Q (.d (.bool true)) ih
theorem g_is_fraction_value (T : Tx K mg) {f : Addr} {fd : FuncData} (Fn : Fun K "is_fraction_value" "is_fraction_value" st_is_fraction_value f fd) : FnG P w K mg base 3 f fd ["thing"] sp_is_fraction_value := by
  refine fnG_of Fn sc_is_fraction_value (fun cdv => (bv_one (sv_ret (ev_and (evc (ok_is_row T) (Nat.le_of_ble_eq_true rfl) rfl (av_cons (ev_var 0) (av_cons ev_int av_nil))) (ev_and (evc (ok_is_int T) (Nat.le_of_ble_eq_true rfl) rfl (av_cons (ev_ix (ev_var 0) ev_int) av_nil)) (ev_and (evc (ok_is_from T) (Nat.le_of_ble_eq_true rfl) rfl (av_cons (ev_ix (ev_var 0) ev_int) (av_cons ev_int av_nil))) (ev_one (ev_cmp ov_eq (ev_callM cv_gcd rfl T.m_gcd (av_cons (ev_ix (ev_var 0) ev_int) (av_cons (ev_ix (ev_var 0) ev_int) av_nil))) ev_int)))))))) fun ws ob Qa hl h => ?_
  obtain ⟨n, d, rfl, hd, hg, q⟩ := h
  have h1 : decide (1 ≤ d) = true := decide_eq_true (by omega)
  have h2 : decide (((Nat.gcd n.natAbs d.natAbs : Nat) : Int) = 1) = true := decide_eq_true (by have : Nat.gcd n.natAbs d.natAbs = 1 := hg; omega)
  simp only [aAnd, aAndV, aAsg, aAsgT, aBk, aC, aCB, aCall, aCallK, aChain, aCons, aCt, aDget, aDispM, aDput, aDrop, aGN, aGcons, aGnil, aGtup, aIE, aIL, aIR1, aIR2, aIT, aIZ, aIf, aIfS, aIsi, aLst, aLstM, aMt, aMt0, aNever, aNil, aNoP, aNot, aNotV, aNx, aOp, aOr, aOrV, aPar, aPar3, aRet, aRetN, aRevD, aRevM, aSeq, aSl, aSmP, aTst, aTup, aUn, aVar, aYes, xAbs, xAdd, xApp, xBools, xEqB, xGcd, xI, xIc, xIdx, xInt, xInts, xIs_nn, xIs_bb, xIs_bn, xIs_in, xIs_sn, xIs_tn, xIs_ln, xLen, xListOf, xListOfM, xMax, xMin, xNeg, xPop, xSl, xSum, xTupleOf, optW, view, asB, onRL, isRL, pick, keyOf, val_cells, val_mixed, val_draws, put_draws, allD, finD, startA, List.map_cons, List.map_nil, List.length_cons, List.length_nil, List.replicate, List.cons_append, List.nil_append, List.append_nil, List.getElem?_cons_zero, List.getElem?_cons_succ, List.set_cons_zero, List.set_cons_succ, Option.join_some, Option.map_some, List.filterMap_cons, List.filterMap_nil, List.take, Nat.sub_self, Nat.add_one_sub_one, Nat.reduceSub, Nat.reduceAdd, List.replicate_zero, isT, atI_0, atI_1, size2, size1, size3, size0, true_and, and_true, Bool.true_eq_false, Bool.false_eq_true, if_true, if_false, ite_true, ite_false, reduceIte, eq_self, ex_app, ex_app2, ite_tt, ite_ft, List.cons.injEq, W.d.injEq, PyData.int.injEq, PyData.tuple.injEq, exists_eq_left', and_assoc, exists_and_left, eqOk_int, eqD_int, eqOk_fr, eqD_fr, eqOk_str, eqD_str, id, lo_ws1, lo_ws2, lo_ws3, Bool.not_true, Bool.not_false, Bool.and_true, Bool.and_false, Bool.true_and, Bool.false_and, Bool.or_true, Bool.or_false, Bool.true_or, Bool.false_or, sp_is_int, sp_is_from, sp_is_row, h1, h2]
  exact q
theorem ok_is_fraction_value (T : Tx K mg) : Fdf P w K mg base 3 "is_fraction_value" ["thing"] [] sp_is_fraction_value := T.d_is_fraction_value.fd fun f fd Fn => g_is_fraction_value T Fn
def sp_low : ASp := fun ws ih Q => ∃ n d : Int, ws = [.d (.int n), .d (.int d)] ∧ d ≠ 0 ∧ Bd 3000 n ∧ Bd 3000 d ∧ ∀ p q, Low n d p q → Q (.d (.tuple [.int p, .int q])) ih
theorem g_low (T : Tx K mg) {f : Addr} {fd : FuncData} (Fn : Fun K "low" "low" st_low f fd) : FnG P w K mg base 1 f fd ["n", "d"] sp_low := by
  refine fnG_of Fn sc_low (fun cdv => (bv_cons (sv_set 2 (ev_ifE (tv_cmp ov_gt (ev_var 1) ev_int) (ev_callM cv_gcd rfl T.m_gcd (av_cons (ev_var 0) (av_cons (ev_var 1) av_nil))) (ev_un uv_neg (ev_callM cv_gcd rfl T.m_gcd (av_cons (ev_var 0) (av_cons (ev_var 1) av_nil))))))
      (bv_one (sv_ret (ev_tup (av_cons (ev_op ov_fdiv (ev_var 0) (ev_var 2)) (av_cons (ev_op ov_fdiv (ev_var 1) (ev_var 2)) av_nil))))))) fun ws ob Qa hl h => ?_
  obtain ⟨n, d, rfl, hd, bn, bd, q⟩ := h
  have hg0 : 0 < Nat.gcd n.natAbs d.natAbs := Nat.gcd_pos_of_pos_right _ (by omega)
  have bg : Bd 3000 ((Nat.gcd n.natAbs d.natAbs : Nat) : Int) := bd.le (by rw [Int.natAbs_natCast]; exact Nat.le_of_dvd (by omega) (Nat.gcd_dvd_right _ _))
  simp only [aAnd, aAndV, aAsg, aAsgT, aBk, aC, aCB, aCall, aCallK, aChain, aCons, aCt, aDget, aDispM, aDput, aDrop, aGN, aGcons, aGnil, aGtup, aIE, aIL, aIR1, aIR2, aIT, aIZ, aIf, aIfS, aIsi, aLst, aLstM, aMt, aMt0, aNever, aNil, aNoP, aNot, aNotV, aNx, aOp, aOr, aOrV, aPar, aPar3, aRet, aRetN, aRevD, aRevM, aSeq, aSl, aSmP, aTst, aTup, aUn, aVar, aYes, xAbs, xAdd, xApp, xBools, xEqB, xGcd, xI, xIc, xIdx, xInt, xInts, xIs_nn, xIs_bb, xIs_bn, xIs_in, xIs_sn, xIs_tn, xIs_ln, xLen, xListOf, xListOfM, xMax, xMin, xNeg, xPop, xSl, xSum, xTupleOf, optW, view, asB, onRL, isRL, pick, keyOf, val_cells, val_mixed, val_draws, put_draws, allD, finD, startA, List.map_cons, List.map_nil, List.length_cons, List.length_nil, List.replicate, List.cons_append, List.nil_append, List.append_nil, List.getElem?_cons_zero, List.getElem?_cons_succ, List.set_cons_zero, List.set_cons_succ, Option.join_some, Option.map_some, List.filterMap_cons, List.filterMap_nil, List.take, Nat.sub_self, Nat.add_one_sub_one, Nat.reduceSub, Nat.reduceAdd, List.replicate_zero, isT, atI_0, atI_1, size2, size1, size3, size0, true_and, and_true, Bool.true_eq_false, Bool.false_eq_true, if_true, if_false, ite_true, ite_false, reduceIte, eq_self, ex_app, ex_app2, ite_tt, ite_ft, List.cons.injEq, W.d.injEq, PyData.int.injEq, PyData.tuple.injEq, exists_eq_left', and_assoc, exists_and_left, eqOk_int, eqD_int, eqOk_fr, eqD_fr, eqOk_str, eqD_str, id, lo_ws1, lo_ws2, lo_ws3, Bool.not_true, Bool.not_false, Bool.and_true, Bool.and_false, Bool.true_and, Bool.false_and, Bool.or_true, Bool.or_false, Bool.true_or, Bool.false_or]
  split
  · rename_i h1
    exact ⟨bg.cdv (by omega) (by decide), bg.cdv (by omega) (by decide), q _ _ (low_mk hd (by rw [if_pos (of_decide_eq_true h1)]))⟩
  · rename_i h1
    exact ⟨bg.neg.cdv (by omega) (by decide), bg.neg.cdv (by omega) (by decide), q _ _ (low_mk hd (by rw [if_neg fun z => h1 (decide_eq_true z)]))⟩
theorem ok_low (T : Tx K mg) : Fdf P w K mg base 1 "low" ["n", "d"] [] sp_low := T.d_low.fd fun f fd Fn => g_low T Fn
def sp_as_f : ASp := fun ws ih Q => ∃ n : Int, ws = [.d (.int n)] ∧ Q (.d (.tuple [.int n, .int 1])) ih
theorem g_as_f (T : Tx K mg) {f : Addr} {fd : FuncData} (Fn : Fun K "as_f" "as_f" st_as_f f fd) : FnG P w K mg base 1 f fd ["n"] sp_as_f := by
  refine fnG_of Fn sc_as_f (fun cdv => (bv_one (sv_ret (ev_tup (av_cons (ev_var 0) (av_cons ev_int av_nil)))))) fun ws ob Qa hl h => ?_
  obtain ⟨n, rfl, q⟩ := h
  simp only [aAnd, aAndV, aAsg, aAsgT, aBk, aC, aCB, aCall, aCallK, aChain, aCons, aCt, aDget, aDispM, aDput, aDrop, aGN, aGcons, aGnil, aGtup, aIE, aIL, aIR1, aIR2, aIT, aIZ, aIf, aIfS, aIsi, aLst, aLstM, aMt, aMt0, aNever, aNil, aNoP, aNot, aNotV, aNx, aOp, aOr, aOrV, aPar, aPar3, aRet, aRetN, aRevD, aRevM, aSeq, aSl, aSmP, aTst, aTup, aUn, aVar, aYes, xAbs, xAdd, xApp, xBools, xEqB, xGcd, xI, xIc, xIdx, xInt, xInts, xIs_nn, xIs_bb, xIs_bn, xIs_in, xIs_sn, xIs_tn, xIs_ln, xLen, xListOf, xListOfM, xMax, xMin, xNeg, xPop, xSl, xSum, xTupleOf, optW, view, asB, onRL, isRL, pick, keyOf, val_cells, val_mixed, val_draws, put_draws, allD, finD, startA, List.map_cons, List.map_nil, List.length_cons, List.length_nil, List.replicate, List.cons_append, List.nil_append, List.append_nil, List.getElem?_cons_zero, List.getElem?_cons_succ, List.set_cons_zero, List.set_cons_succ, Option.join_some, Option.map_some, List.filterMap_cons, List.filterMap_nil, List.take, Nat.sub_self, Nat.add_one_sub_one, Nat.reduceSub, Nat.reduceAdd, List.replicate_zero, isT, atI_0, atI_1, size2, size1, size3, size0, true_and, and_true, Bool.true_eq_false, Bool.false_eq_true, if_true, if_false, ite_true, ite_false, reduceIte, eq_self, ex_app, ex_app2, ite_tt, ite_ft, List.cons.injEq, W.d.injEq, PyData.int.injEq, PyData.tuple.injEq, exists_eq_left', and_assoc, exists_and_left, eqOk_int, eqD_int, eqOk_fr, eqD_fr, eqOk_str, eqD_str, id, lo_ws1, lo_ws2, lo_ws3, Bool.not_true, Bool.not_false, Bool.and_true, Bool.and_false, Bool.true_and, Bool.false_and, Bool.or_true, Bool.or_false, Bool.true_or, Bool.false_or]
  exact q
theorem ok_as_f (T : Tx K mg) : Fdf P w K mg base 1 "as_f" ["n"] [] sp_as_f := T.d_as_f.fd fun f fd Fn => g_as_f T Fn
def sp_plus_f : ASp := fun ws ih Q => ∃ a b c d : Int, ws = [.d (.tuple [.int a, .int b]), .d (.tuple [.int c, .int d])] ∧ Fr 1400 a b ∧ Fr 1400 c d ∧ ∀ p q, Low (a * d + c * b) (b * d) p q → Q (.d (.tuple [.int p, .int q])) ih
theorem g_plus_f (T : Tx K mg) {f : Addr} {fd : FuncData} (Fn : Fun K "plus_f" "plus_f" st_plus_f f fd) : FnG P w K mg base 2 f fd ["one", "other"] sp_plus_f := by
  refine fnG_of Fn sc_plus_f (fun cdv => (bv_cons (sv_if (WV.tv (wv_and (tv_cmp ov_eq (ev_ix (ev_var 0) ev_int) ev_int) (wv_and1 (tv_cmp ov_eq (ev_ix (ev_var 1) ev_int) ev_int)))) (bv_one (sv_ret (ev_tup (av_cons (ev_op ov_add (ev_ix (ev_var 0) ev_int) (ev_ix (ev_var 1) ev_int)) (av_cons ev_int av_nil))))) bv_nil)
      (bv_one (sv_ret (evc (ok_low T) (Nat.le_of_ble_eq_true rfl) rfl (av_cons (ev_op ov_add (ev_op ov_mul (ev_ix (ev_var 0) ev_int) (ev_ix (ev_var 1) ev_int)) (ev_op ov_mul (ev_ix (ev_var 1) ev_int) (ev_ix (ev_var 0) ev_int))) (av_cons (ev_op ov_mul (ev_ix (ev_var 0) ev_int) (ev_ix (ev_var 1) ev_int)) av_nil))))))) fun ws ob Qa hl h => ?_
  obtain ⟨a, b, c, d, rfl, F1, F2, q⟩ := h
  have nz : b * d ≠ 0 := Int.mul_ne_zero (by have := F1.pos; omega) (by have := F2.pos; omega)
  have s1 : CMulW a d := F1.bn.cmul F2.bd (by decide)
  have s2 : CMulW c b := F2.bn.cmul F1.bd (by decide)
  have s3 : CMulW b d := F1.bd.cmul F2.bd (by decide)
  have t1 : Bd 3000 (a * d + c * b) := ((F1.bn.mul F2.bd).add (F2.bn.mul F1.bd)).mono (by decide)
  have t2 : Bd 3000 (b * d) := (F1.bd.mul F2.bd).mono (by decide)
  simp only [aAnd, aAndV, aAsg, aAsgT, aBk, aC, aCB, aCall, aCallK, aChain, aCons, aCt, aDget, aDispM, aDput, aDrop, aGN, aGcons, aGnil, aGtup, aIE, aIL, aIR1, aIR2, aIT, aIZ, aIf, aIfS, aIsi, aLst, aLstM, aMt, aMt0, aNever, aNil, aNoP, aNot, aNotV, aNx, aOp, aOr, aOrV, aPar, aPar3, aRet, aRetN, aRevD, aRevM, aSeq, aSl, aSmP, aTst, aTup, aUn, aVar, aYes, xAbs, xAdd, xApp, xBools, xEqB, xGcd, xI, xIc, xIdx, xInt, xInts, xIs_nn, xIs_bb, xIs_bn, xIs_in, xIs_sn, xIs_tn, xIs_ln, xLen, xListOf, xListOfM, xMax, xMin, xNeg, xPop, xSl, xSum, xTupleOf, optW, view, asB, onRL, isRL, pick, keyOf, val_cells, val_mixed, val_draws, put_draws, allD, finD, startA, List.map_cons, List.map_nil, List.length_cons, List.length_nil, List.replicate, List.cons_append, List.nil_append, List.append_nil, List.getElem?_cons_zero, List.getElem?_cons_succ, List.set_cons_zero, List.set_cons_succ, Option.join_some, Option.map_some, List.filterMap_cons, List.filterMap_nil, List.take, Nat.sub_self, Nat.add_one_sub_one, Nat.reduceSub, Nat.reduceAdd, List.replicate_zero, isT, atI_0, atI_1, size2, size1, size3, size0, true_and, and_true, Bool.true_eq_false, Bool.false_eq_true, if_true, if_false, ite_true, ite_false, reduceIte, eq_self, ex_app, ex_app2, ite_tt, ite_ft, List.cons.injEq, W.d.injEq, PyData.int.injEq, PyData.tuple.injEq, exists_eq_left', and_assoc, exists_and_left, eqOk_int, eqD_int, eqOk_fr, eqD_fr, eqOk_str, eqD_str, id, lo_ws1, lo_ws2, lo_ws3, Bool.not_true, Bool.not_false, Bool.and_true, Bool.and_false, Bool.true_and, Bool.false_and, Bool.or_true, Bool.or_false, Bool.true_or, Bool.false_or, sp_low, s1, s2, s3]
  by_cases hb : b = 1
  · by_cases hd : d = 1
    · simp only [aAnd, aAndV, aAsg, aAsgT, aBk, aC, aCB, aCall, aCallK, aChain, aCons, aCt, aDget, aDispM, aDput, aDrop, aGN, aGcons, aGnil, aGtup, aIE, aIL, aIR1, aIR2, aIT, aIZ, aIf, aIfS, aIsi, aLst, aLstM, aMt, aMt0, aNever, aNil, aNoP, aNot, aNotV, aNx, aOp, aOr, aOrV, aPar, aPar3, aRet, aRetN, aRevD, aRevM, aSeq, aSl, aSmP, aTst, aTup, aUn, aVar, aYes, xAbs, xAdd, xApp, xBools, xEqB, xGcd, xI, xIc, xIdx, xInt, xInts, xIs_nn, xIs_bb, xIs_bn, xIs_in, xIs_sn, xIs_tn, xIs_ln, xLen, xListOf, xListOfM, xMax, xMin, xNeg, xPop, xSl, xSum, xTupleOf, optW, view, asB, onRL, isRL, pick, keyOf, val_cells, val_mixed, val_draws, put_draws, allD, finD, startA, List.map_cons, List.map_nil, List.length_cons, List.length_nil, List.replicate, List.cons_append, List.nil_append, List.append_nil, List.getElem?_cons_zero, List.getElem?_cons_succ, List.set_cons_zero, List.set_cons_succ, Option.join_some, Option.map_some, List.filterMap_cons, List.filterMap_nil, List.take, Nat.sub_self, Nat.add_one_sub_one, Nat.reduceSub, Nat.reduceAdd, List.replicate_zero, isT, atI_0, atI_1, size2, size1, size3, size0, true_and, and_true, Bool.true_eq_false, Bool.false_eq_true, if_true, if_false, ite_true, ite_false, reduceIte, eq_self, ex_app, ex_app2, ite_tt, ite_ft, List.cons.injEq, W.d.injEq, PyData.int.injEq, PyData.tuple.injEq, exists_eq_left', and_assoc, exists_and_left, eqOk_int, eqD_int, eqOk_fr, eqD_fr, eqOk_str, eqD_str, id, lo_ws1, lo_ws2, lo_ws3, Bool.not_true, Bool.not_false, Bool.and_true, Bool.and_false, Bool.true_and, Bool.false_and, Bool.or_true, Bool.or_false, Bool.true_or, Bool.false_or, hb, hd, decide_true]
      exact q _ _ (by rw [hb, hd, Int.mul_one, Int.mul_one, Int.mul_one]; exact ⟨by decide, by simp, by omega, Nat.le_refl _, Nat.le_refl _⟩)
    · simp only [aAnd, aAndV, aAsg, aAsgT, aBk, aC, aCB, aCall, aCallK, aChain, aCons, aCt, aDget, aDispM, aDput, aDrop, aGN, aGcons, aGnil, aGtup, aIE, aIL, aIR1, aIR2, aIT, aIZ, aIf, aIfS, aIsi, aLst, aLstM, aMt, aMt0, aNever, aNil, aNoP, aNot, aNotV, aNx, aOp, aOr, aOrV, aPar, aPar3, aRet, aRetN, aRevD, aRevM, aSeq, aSl, aSmP, aTst, aTup, aUn, aVar, aYes, xAbs, xAdd, xApp, xBools, xEqB, xGcd, xI, xIc, xIdx, xInt, xInts, xIs_nn, xIs_bb, xIs_bn, xIs_in, xIs_sn, xIs_tn, xIs_ln, xLen, xListOf, xListOfM, xMax, xMin, xNeg, xPop, xSl, xSum, xTupleOf, optW, view, asB, onRL, isRL, pick, keyOf, val_cells, val_mixed, val_draws, put_draws, allD, finD, startA, List.map_cons, List.map_nil, List.length_cons, List.length_nil, List.replicate, List.cons_append, List.nil_append, List.append_nil, List.getElem?_cons_zero, List.getElem?_cons_succ, List.set_cons_zero, List.set_cons_succ, Option.join_some, Option.map_some, List.filterMap_cons, List.filterMap_nil, List.take, Nat.sub_self, Nat.add_one_sub_one, Nat.reduceSub, Nat.reduceAdd, List.replicate_zero, isT, atI_0, atI_1, size2, size1, size3, size0, true_and, and_true, Bool.true_eq_false, Bool.false_eq_true, if_true, if_false, ite_true, ite_false, reduceIte, eq_self, ex_app, ex_app2, ite_tt, ite_ft, List.cons.injEq, W.d.injEq, PyData.int.injEq, PyData.tuple.injEq, exists_eq_left', and_assoc, exists_and_left, eqOk_int, eqD_int, eqOk_fr, eqD_fr, eqOk_str, eqD_str, id, lo_ws1, lo_ws2, lo_ws3, Bool.not_true, Bool.not_false, Bool.and_true, Bool.and_false, Bool.true_and, Bool.false_and, Bool.or_true, Bool.or_false, Bool.true_or, Bool.false_or, hb, hd, decide_true, decide_false]
      rw [hb] at nz t1 t2 q
      exact ⟨nz, t1, t2, q⟩
  · simp only [aAnd, aAndV, aAsg, aAsgT, aBk, aC, aCB, aCall, aCallK, aChain, aCons, aCt, aDget, aDispM, aDput, aDrop, aGN, aGcons, aGnil, aGtup, aIE, aIL, aIR1, aIR2, aIT, aIZ, aIf, aIfS, aIsi, aLst, aLstM, aMt, aMt0, aNever, aNil, aNoP, aNot, aNotV, aNx, aOp, aOr, aOrV, aPar, aPar3, aRet, aRetN, aRevD, aRevM, aSeq, aSl, aSmP, aTst, aTup, aUn, aVar, aYes, xAbs, xAdd, xApp, xBools, xEqB, xGcd, xI, xIc, xIdx, xInt, xInts, xIs_nn, xIs_bb, xIs_bn, xIs_in, xIs_sn, xIs_tn, xIs_ln, xLen, xListOf, xListOfM, xMax, xMin, xNeg, xPop, xSl, xSum, xTupleOf, optW, view, asB, onRL, isRL, pick, keyOf, val_cells, val_mixed, val_draws, put_draws, allD, finD, startA, List.map_cons, List.map_nil, List.length_cons, List.length_nil, List.replicate, List.cons_append, List.nil_append, List.append_nil, List.getElem?_cons_zero, List.getElem?_cons_succ, List.set_cons_zero, List.set_cons_succ, Option.join_some, Option.map_some, List.filterMap_cons, List.filterMap_nil, List.take, Nat.sub_self, Nat.add_one_sub_one, Nat.reduceSub, Nat.reduceAdd, List.replicate_zero, isT, atI_0, atI_1, size2, size1, size3, size0, true_and, and_true, Bool.true_eq_false, Bool.false_eq_true, if_true, if_false, ite_true, ite_false, reduceIte, eq_self, ex_app, ex_app2, ite_tt, ite_ft, List.cons.injEq, W.d.injEq, PyData.int.injEq, PyData.tuple.injEq, exists_eq_left', and_assoc, exists_and_left, eqOk_int, eqD_int, eqOk_fr, eqD_fr, eqOk_str, eqD_str, id, lo_ws1, lo_ws2, lo_ws3, Bool.not_true, Bool.not_false, Bool.and_true, Bool.and_false, Bool.true_and, Bool.false_and, Bool.or_true, Bool.or_false, Bool.true_or, Bool.false_or, hb, decide_true, decide_false]
    exact ⟨nz, t1, t2, q⟩
theorem ok_plus_f (T : Tx K mg) : Fdf P w K mg base 2 "plus_f" ["one", "other"] [] sp_plus_f := T.d_plus_f.fd fun f fd Fn => g_plus_f T Fn
def sp_minus_f : ASp := fun ws ih Q => ∃ a b c d : Int, ws = [.d (.tuple [.int a, .int b]), .d (.tuple [.int c, .int d])] ∧ Fr 1400 a b ∧ Fr 1400 c d ∧ ∀ p q, Low (a * d - c * b) (b * d) p q → Q (.d (.tuple [.int p, .int q])) ih
theorem g_minus_f (T : Tx K mg) {f : Addr} {fd : FuncData} (Fn : Fun K "minus_f" "minus_f" st_minus_f f fd) : FnG P w K mg base 3 f fd ["one", "other"] sp_minus_f := by
  refine fnG_of Fn sc_minus_f (fun cdv => (bv_one (sv_ret (evc (ok_plus_f T) (Nat.le_of_ble_eq_true rfl) rfl (av_cons (ev_var 0) (av_cons (ev_tup (av_cons (ev_un uv_neg (ev_ix (ev_var 1) ev_int)) (av_cons (ev_ix (ev_var 1) ev_int) av_nil))) av_nil)))))) fun ws ob Qa hl h => ?_
  obtain ⟨a, b, c, d, rfl, F1, F2, q⟩ := h
  simp only [aAnd, aAndV, aAsg, aAsgT, aBk, aC, aCB, aCall, aCallK, aChain, aCons, aCt, aDget, aDispM, aDput, aDrop, aGN, aGcons, aGnil, aGtup, aIE, aIL, aIR1, aIR2, aIT, aIZ, aIf, aIfS, aIsi, aLst, aLstM, aMt, aMt0, aNever, aNil, aNoP, aNot, aNotV, aNx, aOp, aOr, aOrV, aPar, aPar3, aRet, aRetN, aRevD, aRevM, aSeq, aSl, aSmP, aTst, aTup, aUn, aVar, aYes, xAbs, xAdd, xApp, xBools, xEqB, xGcd, xI, xIc, xIdx, xInt, xInts, xIs_nn, xIs_bb, xIs_bn, xIs_in, xIs_sn, xIs_tn, xIs_ln, xLen, xListOf, xListOfM, xMax, xMin, xNeg, xPop, xSl, xSum, xTupleOf, optW, view, asB, onRL, isRL, pick, keyOf, val_cells, val_mixed, val_draws, put_draws, allD, finD, startA, List.map_cons, List.map_nil, List.length_cons, List.length_nil, List.replicate, List.cons_append, List.nil_append, List.append_nil, List.getElem?_cons_zero, List.getElem?_cons_succ, List.set_cons_zero, List.set_cons_succ, Option.join_some, Option.map_some, List.filterMap_cons, List.filterMap_nil, List.take, Nat.sub_self, Nat.add_one_sub_one, Nat.reduceSub, Nat.reduceAdd, List.replicate_zero, isT, atI_0, atI_1, size2, size1, size3, size0, true_and, and_true, Bool.true_eq_false, Bool.false_eq_true, if_true, if_false, ite_true, ite_false, reduceIte, eq_self, ex_app, ex_app2, ite_tt, ite_ft, List.cons.injEq, W.d.injEq, PyData.int.injEq, PyData.tuple.injEq, exists_eq_left', and_assoc, exists_and_left, eqOk_int, eqD_int, eqOk_fr, eqD_fr, eqOk_str, eqD_str, id, lo_ws1, lo_ws2, lo_ws3, Bool.not_true, Bool.not_false, Bool.and_true, Bool.and_false, Bool.true_and, Bool.false_and, Bool.or_true, Bool.or_false, Bool.true_or, Bool.false_or]
  refine ⟨a, b, -c, d, rfl, F1, ⟨F2.pos, by rw [Int.neg_gcd]; exact F2.gcd, F2.bn.neg, F2.bd⟩, fun p r hl => ?_⟩
  simp only [aAnd, aAndV, aAsg, aAsgT, aBk, aC, aCB, aCall, aCallK, aChain, aCons, aCt, aDget, aDispM, aDput, aDrop, aGN, aGcons, aGnil, aGtup, aIE, aIL, aIR1, aIR2, aIT, aIZ, aIf, aIfS, aIsi, aLst, aLstM, aMt, aMt0, aNever, aNil, aNoP, aNot, aNotV, aNx, aOp, aOr, aOrV, aPar, aPar3, aRet, aRetN, aRevD, aRevM, aSeq, aSl, aSmP, aTst, aTup, aUn, aVar, aYes, xAbs, xAdd, xApp, xBools, xEqB, xGcd, xI, xIc, xIdx, xInt, xInts, xIs_nn, xIs_bb, xIs_bn, xIs_in, xIs_sn, xIs_tn, xIs_ln, xLen, xListOf, xListOfM, xMax, xMin, xNeg, xPop, xSl, xSum, xTupleOf, optW, view, asB, onRL, isRL, pick, keyOf, val_cells, val_mixed, val_draws, put_draws, allD, finD, startA, List.map_cons, List.map_nil, List.length_cons, List.length_nil, List.replicate, List.cons_append, List.nil_append, List.append_nil, List.getElem?_cons_zero, List.getElem?_cons_succ, List.set_cons_zero, List.set_cons_succ, Option.join_some, Option.map_some, List.filterMap_cons, List.filterMap_nil, List.take, Nat.sub_self, Nat.add_one_sub_one, Nat.reduceSub, Nat.reduceAdd, List.replicate_zero, isT, atI_0, atI_1, size2, size1, size3, size0, true_and, and_true, Bool.true_eq_false, Bool.false_eq_true, if_true, if_false, ite_true, ite_false, reduceIte, eq_self, ex_app, ex_app2, ite_tt, ite_ft, List.cons.injEq, W.d.injEq, PyData.int.injEq, PyData.tuple.injEq, exists_eq_left', and_assoc, exists_and_left, eqOk_int, eqD_int, eqOk_fr, eqD_fr, eqOk_str, eqD_str, id, lo_ws1, lo_ws2, lo_ws3, Bool.not_true, Bool.not_false, Bool.and_true, Bool.and_false, Bool.true_and, Bool.false_and, Bool.or_true, Bool.or_false, Bool.true_or, Bool.false_or]
  exact q _ _ (by rw [Int.neg_mul, ← Int.sub_eq_add_neg] at hl; exact hl)
theorem ok_minus_f (T : Tx K mg) : Fdf P w K mg base 3 "minus_f" ["one", "other"] [] sp_minus_f := T.d_minus_f.fd fun f fd Fn => g_minus_f T Fn
def sp_times_f : ASp := fun ws ih Q => ∃ a b c d : Int, ws = [.d (.tuple [.int a, .int b]), .d (.tuple [.int c, .int d])] ∧ Fr 1400 a b ∧ Fr 1400 c d ∧ ∀ p q, Low (a * c) (b * d) p q → Q (.d (.tuple [.int p, .int q])) ih
theorem g_times_f (T : Tx K mg) {f : Addr} {fd : FuncData} (Fn : Fun K "times_f" "times_f" st_times_f f fd) : FnG P w K mg base 2 f fd ["one", "other"] sp_times_f := by
  refine fnG_of Fn sc_times_f (fun cdv => (bv_cons (sv_if (WV.tv (wv_and (tv_cmp ov_eq (ev_ix (ev_var 0) ev_int) ev_int) (wv_and1 (tv_cmp ov_eq (ev_ix (ev_var 1) ev_int) ev_int)))) (bv_one (sv_ret (ev_tup (av_cons (ev_op ov_mul (ev_ix (ev_var 0) ev_int) (ev_ix (ev_var 1) ev_int)) (av_cons ev_int av_nil))))) bv_nil)
      (bv_one (sv_ret (evc (ok_low T) (Nat.le_of_ble_eq_true rfl) rfl (av_cons (ev_op ov_mul (ev_ix (ev_var 0) ev_int) (ev_ix (ev_var 1) ev_int)) (av_cons (ev_op ov_mul (ev_ix (ev_var 0) ev_int) (ev_ix (ev_var 1) ev_int)) av_nil))))))) fun ws ob Qa hl h => ?_
  obtain ⟨a, b, c, d, rfl, F1, F2, q⟩ := h
  have nz : b * d ≠ 0 := Int.mul_ne_zero (by have := F1.pos; omega) (by have := F2.pos; omega)
  have s1 : CMulW a c := F1.bn.cmul F2.bn (by decide)
  have s3 : CMulW b d := F1.bd.cmul F2.bd (by decide)
  have t1 : Bd 3000 (a * c) := (F1.bn.mul F2.bn).mono (by decide)
  have t2 : Bd 3000 (b * d) := (F1.bd.mul F2.bd).mono (by decide)
  simp only [aAnd, aAndV, aAsg, aAsgT, aBk, aC, aCB, aCall, aCallK, aChain, aCons, aCt, aDget, aDispM, aDput, aDrop, aGN, aGcons, aGnil, aGtup, aIE, aIL, aIR1, aIR2, aIT, aIZ, aIf, aIfS, aIsi, aLst, aLstM, aMt, aMt0, aNever, aNil, aNoP, aNot, aNotV, aNx, aOp, aOr, aOrV, aPar, aPar3, aRet, aRetN, aRevD, aRevM, aSeq, aSl, aSmP, aTst, aTup, aUn, aVar, aYes, xAbs, xAdd, xApp, xBools, xEqB, xGcd, xI, xIc, xIdx, xInt, xInts, xIs_nn, xIs_bb, xIs_bn, xIs_in, xIs_sn, xIs_tn, xIs_ln, xLen, xListOf, xListOfM, xMax, xMin, xNeg, xPop, xSl, xSum, xTupleOf, optW, view, asB, onRL, isRL, pick, keyOf, val_cells, val_mixed, val_draws, put_draws, allD, finD, startA, List.map_cons, List.map_nil, List.length_cons, List.length_nil, List.replicate, List.cons_append, List.nil_append, List.append_nil, List.getElem?_cons_zero, List.getElem?_cons_succ, List.set_cons_zero, List.set_cons_succ, Option.join_some, Option.map_some, List.filterMap_cons, List.filterMap_nil, List.take, Nat.sub_self, Nat.add_one_sub_one, Nat.reduceSub, Nat.reduceAdd, List.replicate_zero, isT, atI_0, atI_1, size2, size1, size3, size0, true_and, and_true, Bool.true_eq_false, Bool.false_eq_true, if_true, if_false, ite_true, ite_false, reduceIte, eq_self, ex_app, ex_app2, ite_tt, ite_ft, List.cons.injEq, W.d.injEq, PyData.int.injEq, PyData.tuple.injEq, exists_eq_left', and_assoc, exists_and_left, eqOk_int, eqD_int, eqOk_fr, eqD_fr, eqOk_str, eqD_str, id, lo_ws1, lo_ws2, lo_ws3, Bool.not_true, Bool.not_false, Bool.and_true, Bool.and_false, Bool.true_and, Bool.false_and, Bool.or_true, Bool.or_false, Bool.true_or, Bool.false_or, sp_low, s1, s3]
  by_cases hb : b = 1
  · by_cases hd : d = 1
    · simp only [aAnd, aAndV, aAsg, aAsgT, aBk, aC, aCB, aCall, aCallK, aChain, aCons, aCt, aDget, aDispM, aDput, aDrop, aGN, aGcons, aGnil, aGtup, aIE, aIL, aIR1, aIR2, aIT, aIZ, aIf, aIfS, aIsi, aLst, aLstM, aMt, aMt0, aNever, aNil, aNoP, aNot, aNotV, aNx, aOp, aOr, aOrV, aPar, aPar3, aRet, aRetN, aRevD, aRevM, aSeq, aSl, aSmP, aTst, aTup, aUn, aVar, aYes, xAbs, xAdd, xApp, xBools, xEqB, xGcd, xI, xIc, xIdx, xInt, xInts, xIs_nn, xIs_bb, xIs_bn, xIs_in, xIs_sn, xIs_tn, xIs_ln, xLen, xListOf, xListOfM, xMax, xMin, xNeg, xPop, xSl, xSum, xTupleOf, optW, view, asB, onRL, isRL, pick, keyOf, val_cells, val_mixed, val_draws, put_draws, allD, finD, startA, List.map_cons, List.map_nil, List.length_cons, List.length_nil, List.replicate, List.cons_append, List.nil_append, List.append_nil, List.getElem?_cons_zero, List.getElem?_cons_succ, List.set_cons_zero, List.set_cons_succ, Option.join_some, Option.map_some, List.filterMap_cons, List.filterMap_nil, List.take, Nat.sub_self, Nat.add_one_sub_one, Nat.reduceSub, Nat.reduceAdd, List.replicate_zero, isT, atI_0, atI_1, size2, size1, size3, size0, true_and, and_true, Bool.true_eq_false, Bool.false_eq_true, if_true, if_false, ite_true, ite_false, reduceIte, eq_self, ex_app, ex_app2, ite_tt, ite_ft, List.cons.injEq, W.d.injEq, PyData.int.injEq, PyData.tuple.injEq, exists_eq_left', and_assoc, exists_and_left, eqOk_int, eqD_int, eqOk_fr, eqD_fr, eqOk_str, eqD_str, id, lo_ws1, lo_ws2, lo_ws3, Bool.not_true, Bool.not_false, Bool.and_true, Bool.and_false, Bool.true_and, Bool.false_and, Bool.or_true, Bool.or_false, Bool.true_or, Bool.false_or, hb, hd, decide_true]
      exact q _ _ (by rw [hb, hd, Int.mul_one]; exact ⟨by decide, by simp, by omega, Nat.le_refl _, Nat.le_refl _⟩)
    · simp only [aAnd, aAndV, aAsg, aAsgT, aBk, aC, aCB, aCall, aCallK, aChain, aCons, aCt, aDget, aDispM, aDput, aDrop, aGN, aGcons, aGnil, aGtup, aIE, aIL, aIR1, aIR2, aIT, aIZ, aIf, aIfS, aIsi, aLst, aLstM, aMt, aMt0, aNever, aNil, aNoP, aNot, aNotV, aNx, aOp, aOr, aOrV, aPar, aPar3, aRet, aRetN, aRevD, aRevM, aSeq, aSl, aSmP, aTst, aTup, aUn, aVar, aYes, xAbs, xAdd, xApp, xBools, xEqB, xGcd, xI, xIc, xIdx, xInt, xInts, xIs_nn, xIs_bb, xIs_bn, xIs_in, xIs_sn, xIs_tn, xIs_ln, xLen, xListOf, xListOfM, xMax, xMin, xNeg, xPop, xSl, xSum, xTupleOf, optW, view, asB, onRL, isRL, pick, keyOf, val_cells, val_mixed, val_draws, put_draws, allD, finD, startA, List.map_cons, List.map_nil, List.length_cons, List.length_nil, List.replicate, List.cons_append, List.nil_append, List.append_nil, List.getElem?_cons_zero, List.getElem?_cons_succ, List.set_cons_zero, List.set_cons_succ, Option.join_some, Option.map_some, List.filterMap_cons, List.filterMap_nil, List.take, Nat.sub_self, Nat.add_one_sub_one, Nat.reduceSub, Nat.reduceAdd, List.replicate_zero, isT, atI_0, atI_1, size2, size1, size3, size0, true_and, and_true, Bool.true_eq_false, Bool.false_eq_true, if_true, if_false, ite_true, ite_false, reduceIte, eq_self, ex_app, ex_app2, ite_tt, ite_ft, List.cons.injEq, W.d.injEq, PyData.int.injEq, PyData.tuple.injEq, exists_eq_left', and_assoc, exists_and_left, eqOk_int, eqD_int, eqOk_fr, eqD_fr, eqOk_str, eqD_str, id, lo_ws1, lo_ws2, lo_ws3, Bool.not_true, Bool.not_false, Bool.and_true, Bool.and_false, Bool.true_and, Bool.false_and, Bool.or_true, Bool.or_false, Bool.true_or, Bool.false_or, hb, hd, decide_true, decide_false]
      rw [hb] at nz t2 q
      exact ⟨nz, t1, t2, q⟩
  · simp only [aAnd, aAndV, aAsg, aAsgT, aBk, aC, aCB, aCall, aCallK, aChain, aCons, aCt, aDget, aDispM, aDput, aDrop, aGN, aGcons, aGnil, aGtup, aIE, aIL, aIR1, aIR2, aIT, aIZ, aIf, aIfS, aIsi, aLst, aLstM, aMt, aMt0, aNever, aNil, aNoP, aNot, aNotV, aNx, aOp, aOr, aOrV, aPar, aPar3, aRet, aRetN, aRevD, aRevM, aSeq, aSl, aSmP, aTst, aTup, aUn, aVar, aYes, xAbs, xAdd, xApp, xBools, xEqB, xGcd, xI, xIc, xIdx, xInt, xInts, xIs_nn, xIs_bb, xIs_bn, xIs_in, xIs_sn, xIs_tn, xIs_ln, xLen, xListOf, xListOfM, xMax, xMin, xNeg, xPop, xSl, xSum, xTupleOf, optW, view, asB, onRL, isRL, pick, keyOf, val_cells, val_mixed, val_draws, put_draws, allD, finD, startA, List.map_cons, List.map_nil, List.length_cons, List.length_nil, List.replicate, List.cons_append, List.nil_append, List.append_nil, List.getElem?_cons_zero, List.getElem?_cons_succ, List.set_cons_zero, List.set_cons_succ, Option.join_some, Option.map_some, List.filterMap_cons, List.filterMap_nil, List.take, Nat.sub_self, Nat.add_one_sub_one, Nat.reduceSub, Nat.reduceAdd, List.replicate_zero, isT, atI_0, atI_1, size2, size1, size3, size0, true_and, and_true, Bool.true_eq_false, Bool.false_eq_true, if_true, if_false, ite_true, ite_false, reduceIte, eq_self, ex_app, ex_app2, ite_tt, ite_ft, List.cons.injEq, W.d.injEq, PyData.int.injEq, PyData.tuple.injEq, exists_eq_left', and_assoc, exists_and_left, eqOk_int, eqD_int, eqOk_fr, eqD_fr, eqOk_str, eqD_str, id, lo_ws1, lo_ws2, lo_ws3, Bool.not_true, Bool.not_false, Bool.and_true, Bool.and_false, Bool.true_and, Bool.false_and, Bool.or_true, Bool.or_false, Bool.true_or, Bool.false_or, hb, decide_true, decide_false]
    exact ⟨nz, t1, t2, q⟩
theorem ok_times_f (T : Tx K mg) : Fdf P w K mg base 2 "times_f" ["one", "other"] [] sp_times_f := T.d_times_f.fd fun f fd Fn => g_times_f T Fn
def sp_over_f : ASp := fun ws ih Q => ∃ a b c d : Int, ws = [.d (.tuple [.int a, .int b]), .d (.tuple [.int c, .int d])] ∧ Fr 1400 a b ∧ Fr 1400 c d ∧ c ≠ 0 ∧ ∀ p q, Low (a * d) (b * c) p q → Q (.d (.tuple [.int p, .int q])) ih
theorem g_over_f (T : Tx K mg) {f : Addr} {fd : FuncData} (Fn : Fun K "over_f" "over_f" st_over_f f fd) : FnG P w K mg base 2 f fd ["one", "other"] sp_over_f := by
  refine fnG_of Fn sc_over_f (fun cdv => (bv_one (sv_ret (evc (ok_low T) (Nat.le_of_ble_eq_true rfl) rfl (av_cons (ev_op ov_mul (ev_ix (ev_var 0) ev_int) (ev_ix (ev_var 1) ev_int)) (av_cons (ev_op ov_mul (ev_ix (ev_var 0) ev_int) (ev_ix (ev_var 1) ev_int)) av_nil)))))) fun ws ob Qa hl h => ?_
  obtain ⟨a, b, c, d, rfl, F1, F2, hc, q⟩ := h
  have nz : b * c ≠ 0 := Int.mul_ne_zero (by have := F1.pos; omega) hc
  have s1 : CMulW a d := F1.bn.cmul F2.bd (by decide)
  have s3 : CMulW b c := F1.bd.cmul F2.bn (by decide)
  have t1 : Bd 3000 (a * d) := (F1.bn.mul F2.bd).mono (by decide)
  have t2 : Bd 3000 (b * c) := (F1.bd.mul F2.bn).mono (by decide)
  simp only [aAnd, aAndV, aAsg, aAsgT, aBk, aC, aCB, aCall, aCallK, aChain, aCons, aCt, aDget, aDispM, aDput, aDrop, aGN, aGcons, aGnil, aGtup, aIE, aIL, aIR1, aIR2, aIT, aIZ, aIf, aIfS, aIsi, aLst, aLstM, aMt, aMt0, aNever, aNil, aNoP, aNot, aNotV, aNx, aOp, aOr, aOrV, aPar, aPar3, aRet, aRetN, aRevD, aRevM, aSeq, aSl, aSmP, aTst, aTup, aUn, aVar, aYes, xAbs, xAdd, xApp, xBools, xEqB, xGcd, xI, xIc, xIdx, xInt, xInts, xIs_nn, xIs_bb, xIs_bn, xIs_in, xIs_sn, xIs_tn, xIs_ln, xLen, xListOf, xListOfM, xMax, xMin, xNeg, xPop, xSl, xSum, xTupleOf, optW, view, asB, onRL, isRL, pick, keyOf, val_cells, val_mixed, val_draws, put_draws, allD, finD, startA, List.map_cons, List.map_nil, List.length_cons, List.length_nil, List.replicate, List.cons_append, List.nil_append, List.append_nil, List.getElem?_cons_zero, List.getElem?_cons_succ, List.set_cons_zero, List.set_cons_succ, Option.join_some, Option.map_some, List.filterMap_cons, List.filterMap_nil, List.take, Nat.sub_self, Nat.add_one_sub_one, Nat.reduceSub, Nat.reduceAdd, List.replicate_zero, isT, atI_0, atI_1, size2, size1, size3, size0, true_and, and_true, Bool.true_eq_false, Bool.false_eq_true, if_true, if_false, ite_true, ite_false, reduceIte, eq_self, ex_app, ex_app2, ite_tt, ite_ft, List.cons.injEq, W.d.injEq, PyData.int.injEq, PyData.tuple.injEq, exists_eq_left', and_assoc, exists_and_left, eqOk_int, eqD_int, eqOk_fr, eqD_fr, eqOk_str, eqD_str, id, lo_ws1, lo_ws2, lo_ws3, Bool.not_true, Bool.not_false, Bool.and_true, Bool.and_false, Bool.true_and, Bool.false_and, Bool.or_true, Bool.or_false, Bool.true_or, Bool.false_or, sp_low, s1, s3]
  exact ⟨nz, t1, t2, q⟩
theorem ok_over_f (T : Tx K mg) : Fdf P w K mg base 2 "over_f" ["one", "other"] [] sp_over_f := T.d_over_f.fd fun f fd Fn => g_over_f T Fn
def sp_compared_f : ASp := fun ws ih Q => ∃ a b c d : Int, ws = [.d (.tuple [.int a, .int b]), .d (.tuple [.int c, .int d])] ∧ Fr 1400 a b ∧ Fr 1400 c d ∧ Q (.d (.int (if a * d < c * b then -1 else if c * b < a * d then 1 else 0))) ih
theorem g_compared_f (T : Tx K mg) {f : Addr} {fd : FuncData} (Fn : Fun K "compared_f" "compared_f" st_compared_f f fd) : FnG P w K mg base 1 f fd ["one", "other"] sp_compared_f := by
  refine fnG_of Fn sc_compared_f (fun cdv => (bv_cons (sv_par 2 3 (av_cons (ev_op ov_mul (ev_ix (ev_var 0) ev_int) (ev_ix (ev_var 1) ev_int)) (av_cons (ev_op ov_mul (ev_ix (ev_var 1) ev_int) (ev_ix (ev_var 0) ev_int)) av_nil)) (hw := fun env h => by cases env; subst h; rfl))
      (bv_one (sv_ret (ev_ifE (tv_cmp ov_lt (ev_var 2) (ev_var 3)) (ev_un uv_neg ev_int) (ev_callT cv_int rfl T.b_int bt_int (av_cons (ev_cmp ov_gt (ev_var 2) (ev_var 3)) av_nil))))))) fun ws ob Qa hl h => ?_
  obtain ⟨a, b, c, d, rfl, F1, F2, q⟩ := h
  have s1 : CMulW a d := F1.bn.cmul F2.bd (by decide)
  have s2 : CMulW c b := F2.bn.cmul F1.bd (by decide)
  simp only [aAnd, aAndV, aAsg, aAsgT, aBk, aC, aCB, aCall, aCallK, aChain, aCons, aCt, aDget, aDispM, aDput, aDrop, aGN, aGcons, aGnil, aGtup, aIE, aIL, aIR1, aIR2, aIT, aIZ, aIf, aIfS, aIsi, aLst, aLstM, aMt, aMt0, aNever, aNil, aNoP, aNot, aNotV, aNx, aOp, aOr, aOrV, aPar, aPar3, aRet, aRetN, aRevD, aRevM, aSeq, aSl, aSmP, aTst, aTup, aUn, aVar, aYes, xAbs, xAdd, xApp, xBools, xEqB, xGcd, xI, xIc, xIdx, xInt, xInts, xIs_nn, xIs_bb, xIs_bn, xIs_in, xIs_sn, xIs_tn, xIs_ln, xLen, xListOf, xListOfM, xMax, xMin, xNeg, xPop, xSl, xSum, xTupleOf, optW, view, asB, onRL, isRL, pick, keyOf, val_cells, val_mixed, val_draws, put_draws, allD, finD, startA, List.map_cons, List.map_nil, List.length_cons, List.length_nil, List.replicate, List.cons_append, List.nil_append, List.append_nil, List.getElem?_cons_zero, List.getElem?_cons_succ, List.set_cons_zero, List.set_cons_succ, Option.join_some, Option.map_some, List.filterMap_cons, List.filterMap_nil, List.take, Nat.sub_self, Nat.add_one_sub_one, Nat.reduceSub, Nat.reduceAdd, List.replicate_zero, isT, atI_0, atI_1, size2, size1, size3, size0, true_and, and_true, Bool.true_eq_false, Bool.false_eq_true, if_true, if_false, ite_true, ite_false, reduceIte, eq_self, ex_app, ex_app2, ite_tt, ite_ft, List.cons.injEq, W.d.injEq, PyData.int.injEq, PyData.tuple.injEq, exists_eq_left', and_assoc, exists_and_left, eqOk_int, eqD_int, eqOk_fr, eqD_fr, eqOk_str, eqD_str, id, lo_ws1, lo_ws2, lo_ws3, Bool.not_true, Bool.not_false, Bool.and_true, Bool.and_false, Bool.true_and, Bool.false_and, Bool.or_true, Bool.or_false, Bool.true_or, Bool.false_or, s1, s2]
  by_cases h1 : a * d < c * b
  · rw [if_pos h1] at q
    simp only [aAnd, aAndV, aAsg, aAsgT, aBk, aC, aCB, aCall, aCallK, aChain, aCons, aCt, aDget, aDispM, aDput, aDrop, aGN, aGcons, aGnil, aGtup, aIE, aIL, aIR1, aIR2, aIT, aIZ, aIf, aIfS, aIsi, aLst, aLstM, aMt, aMt0, aNever, aNil, aNoP, aNot, aNotV, aNx, aOp, aOr, aOrV, aPar, aPar3, aRet, aRetN, aRevD, aRevM, aSeq, aSl, aSmP, aTst, aTup, aUn, aVar, aYes, xAbs, xAdd, xApp, xBools, xEqB, xGcd, xI, xIc, xIdx, xInt, xInts, xIs_nn, xIs_bb, xIs_bn, xIs_in, xIs_sn, xIs_tn, xIs_ln, xLen, xListOf, xListOfM, xMax, xMin, xNeg, xPop, xSl, xSum, xTupleOf, optW, view, asB, onRL, isRL, pick, keyOf, val_cells, val_mixed, val_draws, put_draws, allD, finD, startA, List.map_cons, List.map_nil, List.length_cons, List.length_nil, List.replicate, List.cons_append, List.nil_append, List.append_nil, List.getElem?_cons_zero, List.getElem?_cons_succ, List.set_cons_zero, List.set_cons_succ, Option.join_some, Option.map_some, List.filterMap_cons, List.filterMap_nil, List.take, Nat.sub_self, Nat.add_one_sub_one, Nat.reduceSub, Nat.reduceAdd, List.replicate_zero, isT, atI_0, atI_1, size2, size1, size3, size0, true_and, and_true, Bool.true_eq_false, Bool.false_eq_true, if_true, if_false, ite_true, ite_false, reduceIte, eq_self, ex_app, ex_app2, ite_tt, ite_ft, List.cons.injEq, W.d.injEq, PyData.int.injEq, PyData.tuple.injEq, exists_eq_left', and_assoc, exists_and_left, eqOk_int, eqD_int, eqOk_fr, eqD_fr, eqOk_str, eqD_str, id, lo_ws1, lo_ws2, lo_ws3, Bool.not_true, Bool.not_false, Bool.and_true, Bool.and_false, Bool.true_and, Bool.false_and, Bool.or_true, Bool.or_false, Bool.true_or, Bool.false_or, h1, decide_true]
    exact q
  · rw [if_neg h1] at q
    by_cases h2 : c * b < a * d
    · rw [if_pos h2] at q
      simp only [aAnd, aAndV, aAsg, aAsgT, aBk, aC, aCB, aCall, aCallK, aChain, aCons, aCt, aDget, aDispM, aDput, aDrop, aGN, aGcons, aGnil, aGtup, aIE, aIL, aIR1, aIR2, aIT, aIZ, aIf, aIfS, aIsi, aLst, aLstM, aMt, aMt0, aNever, aNil, aNoP, aNot, aNotV, aNx, aOp, aOr, aOrV, aPar, aPar3, aRet, aRetN, aRevD, aRevM, aSeq, aSl, aSmP, aTst, aTup, aUn, aVar, aYes, xAbs, xAdd, xApp, xBools, xEqB, xGcd, xI, xIc, xIdx, xInt, xInts, xIs_nn, xIs_bb, xIs_bn, xIs_in, xIs_sn, xIs_tn, xIs_ln, xLen, xListOf, xListOfM, xMax, xMin, xNeg, xPop, xSl, xSum, xTupleOf, optW, view, asB, onRL, isRL, pick, keyOf, val_cells, val_mixed, val_draws, put_draws, allD, finD, startA, List.map_cons, List.map_nil, List.length_cons, List.length_nil, List.replicate, List.cons_append, List.nil_append, List.append_nil, List.getElem?_cons_zero, List.getElem?_cons_succ, List.set_cons_zero, List.set_cons_succ, Option.join_some, Option.map_some, List.filterMap_cons, List.filterMap_nil, List.take, Nat.sub_self, Nat.add_one_sub_one, Nat.reduceSub, Nat.reduceAdd, List.replicate_zero, isT, atI_0, atI_1, size2, size1, size3, size0, true_and, and_true, Bool.true_eq_false, Bool.false_eq_true, if_true, if_false, ite_true, ite_false, reduceIte, eq_self, ex_app, ex_app2, ite_tt, ite_ft, List.cons.injEq, W.d.injEq, PyData.int.injEq, PyData.tuple.injEq, exists_eq_left', and_assoc, exists_and_left, eqOk_int, eqD_int, eqOk_fr, eqD_fr, eqOk_str, eqD_str, id, lo_ws1, lo_ws2, lo_ws3, Bool.not_true, Bool.not_false, Bool.and_true, Bool.and_false, Bool.true_and, Bool.false_and, Bool.or_true, Bool.or_false, Bool.true_or, Bool.false_or, h1, h2, decide_true, decide_false]
      exact q
    · rw [if_neg h2] at q
      simp only [aAnd, aAndV, aAsg, aAsgT, aBk, aC, aCB, aCall, aCallK, aChain, aCons, aCt, aDget, aDispM, aDput, aDrop, aGN, aGcons, aGnil, aGtup, aIE, aIL, aIR1, aIR2, aIT, aIZ, aIf, aIfS, aIsi, aLst, aLstM, aMt, aMt0, aNever, aNil, aNoP, aNot, aNotV, aNx, aOp, aOr, aOrV, aPar, aPar3, aRet, aRetN, aRevD, aRevM, aSeq, aSl, aSmP, aTst, aTup, aUn, aVar, aYes, xAbs, xAdd, xApp, xBools, xEqB, xGcd, xI, xIc, xIdx, xInt, xInts, xIs_nn, xIs_bb, xIs_bn, xIs_in, xIs_sn, xIs_tn, xIs_ln, xLen, xListOf, xListOfM, xMax, xMin, xNeg, xPop, xSl, xSum, xTupleOf, optW, view, asB, onRL, isRL, pick, keyOf, val_cells, val_mixed, val_draws, put_draws, allD, finD, startA, List.map_cons, List.map_nil, List.length_cons, List.length_nil, List.replicate, List.cons_append, List.nil_append, List.append_nil, List.getElem?_cons_zero, List.getElem?_cons_succ, List.set_cons_zero, List.set_cons_succ, Option.join_some, Option.map_some, List.filterMap_cons, List.filterMap_nil, List.take, Nat.sub_self, Nat.add_one_sub_one, Nat.reduceSub, Nat.reduceAdd, List.replicate_zero, isT, atI_0, atI_1, size2, size1, size3, size0, true_and, and_true, Bool.true_eq_false, Bool.false_eq_true, if_true, if_false, ite_true, ite_false, reduceIte, eq_self, ex_app, ex_app2, ite_tt, ite_ft, List.cons.injEq, W.d.injEq, PyData.int.injEq, PyData.tuple.injEq, exists_eq_left', and_assoc, exists_and_left, eqOk_int, eqD_int, eqOk_fr, eqD_fr, eqOk_str, eqD_str, id, lo_ws1, lo_ws2, lo_ws3, Bool.not_true, Bool.not_false, Bool.and_true, Bool.and_false, Bool.true_and, Bool.false_and, Bool.or_true, Bool.or_false, Bool.true_or, Bool.false_or, h1, h2, decide_true, decide_false]
      exact q
theorem ok_compared_f (T : Tx K mg) : Fdf P w K mg base 1 "compared_f" ["one", "other"] [] sp_compared_f := T.d_compared_f.fd fun f fd Fn => g_compared_f T Fn
def sp_need_fraction : ASp := fun ws ih Q => ∃ n d : Int, ws = [.d (.tuple [.int n, .int d])] ∧ 0 < d ∧ Int.gcd n d = 1 ∧ Q (.d .none) ih
theorem g_need_fraction (T : Tx K mg) {f : Addr} {fd : FuncData} (Fn : Fun K "need_fraction" "need_fraction" st_need_fraction f fd) : FnG P w K mg base 4 f fd ["thing"] sp_need_fraction := by
  refine fnG_of Fn sc_need_fraction (fun cdv => (bv_one (sv_if (tv_not (tv_val (evc (ok_is_fraction_value T) (Nat.le_of_ble_eq_true rfl) rfl (av_cons (ev_var 0) av_nil)))) (bv_one sv_never) bv_nil))) fun ws ob Qa hl h => ?_
  obtain ⟨n, d, rfl, h1, h2, q⟩ := h
  simp only [aAnd, aAndV, aAsg, aAsgT, aBk, aC, aCB, aCall, aCallK, aChain, aCons, aCt, aDget, aDispM, aDput, aDrop, aGN, aGcons, aGnil, aGtup, aIE, aIL, aIR1, aIR2, aIT, aIZ, aIf, aIfS, aIsi, aLst, aLstM, aMt, aMt0, aNever, aNil, aNoP, aNot, aNotV, aNx, aOp, aOr, aOrV, aPar, aPar3, aRet, aRetN, aRevD, aRevM, aSeq, aSl, aSmP, aTst, aTup, aUn, aVar, aYes, xAbs, xAdd, xApp, xBools, xEqB, xGcd, xI, xIc, xIdx, xInt, xInts, xIs_nn, xIs_bb, xIs_bn, xIs_in, xIs_sn, xIs_tn, xIs_ln, xLen, xListOf, xListOfM, xMax, xMin, xNeg, xPop, xSl, xSum, xTupleOf, optW, view, asB, onRL, isRL, pick, keyOf, val_cells, val_mixed, val_draws, put_draws, allD, finD, startA, List.map_cons, List.map_nil, List.length_cons, List.length_nil, List.replicate, List.cons_append, List.nil_append, List.append_nil, List.getElem?_cons_zero, List.getElem?_cons_succ, List.set_cons_zero, List.set_cons_succ, Option.join_some, Option.map_some, List.filterMap_cons, List.filterMap_nil, List.take, Nat.sub_self, Nat.add_one_sub_one, Nat.reduceSub, Nat.reduceAdd, List.replicate_zero, isT, atI_0, atI_1, size2, size1, size3, size0, true_and, and_true, Bool.true_eq_false, Bool.false_eq_true, if_true, if_false, ite_true, ite_false, reduceIte, eq_self, ex_app, ex_app2, ite_tt, ite_ft, List.cons.injEq, W.d.injEq, PyData.int.injEq, PyData.tuple.injEq, exists_eq_left', and_assoc, exists_and_left, eqOk_int, eqD_int, eqOk_fr, eqD_fr, eqOk_str, eqD_str, id, lo_ws1, lo_ws2, lo_ws3, Bool.not_true, Bool.not_false, Bool.and_true, Bool.and_false, Bool.true_and, Bool.false_and, Bool.or_true, Bool.or_false, Bool.true_or, Bool.false_or, sp_is_fraction_value]
  exact ⟨h1, h2, q⟩
theorem ok_need_fraction (T : Tx K mg) : Fdf P w K mg base 4 "need_fraction" ["thing"] [] sp_need_fraction := T.d_need_fraction.fd fun f fd Fn => g_need_fraction T Fn
def sp_need_two : ASp := fun ws ih Q => ∃ a b c d : Int, ws = [.d (.tuple [.int a, .int b]), .d (.tuple [.int c, .int d])] ∧ Fr 1400 a b ∧ Fr 1400 c d ∧ Q (.d .none) ih
theorem g_need_two (T : Tx K mg) {f : Addr} {fd : FuncData} (Fn : Fun K "need_two" "need_two" st_need_two f fd) : FnG P w K mg base 5 f fd ["one", "other"] sp_need_two := by
  refine fnG_of Fn sc_need_two (fun cdv => (bv_cons (sv_expr (evc (ok_need_fraction T) (Nat.le_of_ble_eq_true rfl) rfl (av_cons (ev_var 0) av_nil)))
      (bv_one (sv_expr (evc (ok_need_fraction T) (Nat.le_of_ble_eq_true rfl) rfl (av_cons (ev_var 1) av_nil)))))) fun ws ob Qa hl h => ?_
  obtain ⟨a, b, c, d, rfl, F1, F2, q⟩ := h
  simp only [aAnd, aAndV, aAsg, aAsgT, aBk, aC, aCB, aCall, aCallK, aChain, aCons, aCt, aDget, aDispM, aDput, aDrop, aGN, aGcons, aGnil, aGtup, aIE, aIL, aIR1, aIR2, aIT, aIZ, aIf, aIfS, aIsi, aLst, aLstM, aMt, aMt0, aNever, aNil, aNoP, aNot, aNotV, aNx, aOp, aOr, aOrV, aPar, aPar3, aRet, aRetN, aRevD, aRevM, aSeq, aSl, aSmP, aTst, aTup, aUn, aVar, aYes, xAbs, xAdd, xApp, xBools, xEqB, xGcd, xI, xIc, xIdx, xInt, xInts, xIs_nn, xIs_bb, xIs_bn, xIs_in, xIs_sn, xIs_tn, xIs_ln, xLen, xListOf, xListOfM, xMax, xMin, xNeg, xPop, xSl, xSum, xTupleOf, optW, view, asB, onRL, isRL, pick, keyOf, val_cells, val_mixed, val_draws, put_draws, allD, finD, startA, List.map_cons, List.map_nil, List.length_cons, List.length_nil, List.replicate, List.cons_append, List.nil_append, List.append_nil, List.getElem?_cons_zero, List.getElem?_cons_succ, List.set_cons_zero, List.set_cons_succ, Option.join_some, Option.map_some, List.filterMap_cons, List.filterMap_nil, List.take, Nat.sub_self, Nat.add_one_sub_one, Nat.reduceSub, Nat.reduceAdd, List.replicate_zero, isT, atI_0, atI_1, size2, size1, size3, size0, true_and, and_true, Bool.true_eq_false, Bool.false_eq_true, if_true, if_false, ite_true, ite_false, reduceIte, eq_self, ex_app, ex_app2, ite_tt, ite_ft, List.cons.injEq, W.d.injEq, PyData.int.injEq, PyData.tuple.injEq, exists_eq_left', and_assoc, exists_and_left, eqOk_int, eqD_int, eqOk_fr, eqD_fr, eqOk_str, eqD_str, id, lo_ws1, lo_ws2, lo_ws3, Bool.not_true, Bool.not_false, Bool.and_true, Bool.and_false, Bool.true_and, Bool.false_and, Bool.or_true, Bool.or_false, Bool.true_or, Bool.false_or, sp_need_fraction]
  exact ⟨F1.pos, F1.gcd, F2.pos, F2.gcd, q⟩
theorem ok_need_two (T : Tx K mg) : Fdf P w K mg base 5 "need_two" ["one", "other"] [] sp_need_two := T.d_need_two.fd fun f fd Fn => g_need_two T Fn
def sp_lowest : ASp := fun ws ih Q => ∃ n d : Int, ws = [.d (.int n), .d (.int d)] ∧ d ≠ 0 ∧ Bd 3000 n ∧ Bd 3000 d ∧ ∀ p q, Low n d p q → Q (.d (.tuple [.int p, .int q])) ih
theorem g_lowest (T : Tx K mg) {f : Addr} {fd : FuncData} (Fn : Fun K "lowest" "lowest" st_lowest f fd) : FnG P w K mg base 2 f fd ["n", "d"] sp_lowest := by
  refine fnG_of Fn sc_lowest (fun cdv => (bv_cons (sv_if (WV.tv (wv_or (tv_not (tv_val (evc (ok_is_int T) (Nat.le_of_ble_eq_true rfl) rfl (av_cons (ev_var 0) av_nil)))) (wv_or (tv_not (tv_val (evc (ok_is_int T) (Nat.le_of_ble_eq_true rfl) rfl (av_cons (ev_var 1) av_nil)))) (wv_or1 (tv_cmp ov_eq (ev_var 1) ev_int))))) (bv_one sv_never) bv_nil)
      (bv_one (sv_ret (evc (ok_low T) (Nat.le_of_ble_eq_true rfl) rfl (av_cons (ev_var 0) (av_cons (ev_var 1) av_nil))))))) fun ws ob Qa hl h => ?_
  obtain ⟨n, d, rfl, hd, bn, bd, q⟩ := h
  simp only [aAnd, aAndV, aAsg, aAsgT, aBk, aC, aCB, aCall, aCallK, aChain, aCons, aCt, aDget, aDispM, aDput, aDrop, aGN, aGcons, aGnil, aGtup, aIE, aIL, aIR1, aIR2, aIT, aIZ, aIf, aIfS, aIsi, aLst, aLstM, aMt, aMt0, aNever, aNil, aNoP, aNot, aNotV, aNx, aOp, aOr, aOrV, aPar, aPar3, aRet, aRetN, aRevD, aRevM, aSeq, aSl, aSmP, aTst, aTup, aUn, aVar, aYes, xAbs, xAdd, xApp, xBools, xEqB, xGcd, xI, xIc, xIdx, xInt, xInts, xIs_nn, xIs_bb, xIs_bn, xIs_in, xIs_sn, xIs_tn, xIs_ln, xLen, xListOf, xListOfM, xMax, xMin, xNeg, xPop, xSl, xSum, xTupleOf, optW, view, asB, onRL, isRL, pick, keyOf, val_cells, val_mixed, val_draws, put_draws, allD, finD, startA, List.map_cons, List.map_nil, List.length_cons, List.length_nil, List.replicate, List.cons_append, List.nil_append, List.append_nil, List.getElem?_cons_zero, List.getElem?_cons_succ, List.set_cons_zero, List.set_cons_succ, Option.join_some, Option.map_some, List.filterMap_cons, List.filterMap_nil, List.take, Nat.sub_self, Nat.add_one_sub_one, Nat.reduceSub, Nat.reduceAdd, List.replicate_zero, isT, atI_0, atI_1, size2, size1, size3, size0, true_and, and_true, Bool.true_eq_false, Bool.false_eq_true, if_true, if_false, ite_true, ite_false, reduceIte, eq_self, ex_app, ex_app2, ite_tt, ite_ft, List.cons.injEq, W.d.injEq, PyData.int.injEq, PyData.tuple.injEq, exists_eq_left', and_assoc, exists_and_left, eqOk_int, eqD_int, eqOk_fr, eqD_fr, eqOk_str, eqD_str, id, lo_ws1, lo_ws2, lo_ws3, Bool.not_true, Bool.not_false, Bool.and_true, Bool.and_false, Bool.true_and, Bool.false_and, Bool.or_true, Bool.or_false, Bool.true_or, Bool.false_or, sp_is_int, sp_low, hd, decide_false]
  exact ⟨hd, bn, bd, q⟩
theorem ok_lowest (T : Tx K mg) : Fdf P w K mg base 2 "lowest" ["n", "d"] [(["d", "n"], 0, 2, [1, 0])] sp_lowest := T.d_lowest.fd fun f fd Fn => g_lowest T Fn
def sp_as_fraction : ASp := fun ws ih Q => ∃ n : Int, ws = [.d (.int n)] ∧ Q (.d (.tuple [.int n, .int 1])) ih
theorem g_as_fraction (T : Tx K mg) {f : Addr} {fd : FuncData} (Fn : Fun K "as_fraction" "as_fraction" st_as_fraction f fd) : FnG P w K mg base 2 f fd ["n"] sp_as_fraction := by
  refine fnG_of Fn sc_as_fraction (fun cdv => (bv_cons (sv_if (tv_not (tv_val (evc (ok_is_int T) (Nat.le_of_ble_eq_true rfl) rfl (av_cons (ev_var 0) av_nil)))) (bv_one sv_never) bv_nil)
      (bv_one (sv_ret (evc (ok_as_f T) (Nat.le_of_ble_eq_true rfl) rfl (av_cons (ev_var 0) av_nil)))))) fun ws ob Qa hl h => ?_
  obtain ⟨n, rfl, q⟩ := h
  simp only [aAnd, aAndV, aAsg, aAsgT, aBk, aC, aCB, aCall, aCallK, aChain, aCons, aCt, aDget, aDispM, aDput, aDrop, aGN, aGcons, aGnil, aGtup, aIE, aIL, aIR1, aIR2, aIT, aIZ, aIf, aIfS, aIsi, aLst, aLstM, aMt, aMt0, aNever, aNil, aNoP, aNot, aNotV, aNx, aOp, aOr, aOrV, aPar, aPar3, aRet, aRetN, aRevD, aRevM, aSeq, aSl, aSmP, aTst, aTup, aUn, aVar, aYes, xAbs, xAdd, xApp, xBools, xEqB, xGcd, xI, xIc, xIdx, xInt, xInts, xIs_nn, xIs_bb, xIs_bn, xIs_in, xIs_sn, xIs_tn, xIs_ln, xLen, xListOf, xListOfM, xMax, xMin, xNeg, xPop, xSl, xSum, xTupleOf, optW, view, asB, onRL, isRL, pick, keyOf, val_cells, val_mixed, val_draws, put_draws, allD, finD, startA, List.map_cons, List.map_nil, List.length_cons, List.length_nil, List.replicate, List.cons_append, List.nil_append, List.append_nil, List.getElem?_cons_zero, List.getElem?_cons_succ, List.set_cons_zero, List.set_cons_succ, Option.join_some, Option.map_some, List.filterMap_cons, List.filterMap_nil, List.take, Nat.sub_self, Nat.add_one_sub_one, Nat.reduceSub, Nat.reduceAdd, List.replicate_zero, isT, atI_0, atI_1, size2, size1, size3, size0, true_and, and_true, Bool.true_eq_false, Bool.false_eq_true, if_true, if_false, ite_true, ite_false, reduceIte, eq_self, ex_app, ex_app2, ite_tt, ite_ft, List.cons.injEq, W.d.injEq, PyData.int.injEq, PyData.tuple.injEq, exists_eq_left', and_assoc, exists_and_left, eqOk_int, eqD_int, eqOk_fr, eqD_fr, eqOk_str, eqD_str, id, lo_ws1, lo_ws2, lo_ws3, Bool.not_true, Bool.not_false, Bool.and_true, Bool.and_false, Bool.true_and, Bool.false_and, Bool.or_true, Bool.or_false, Bool.true_or, Bool.false_or, sp_is_int, sp_as_f]
  exact q
theorem ok_as_fraction (T : Tx K mg) : Fdf P w K mg base 2 "as_fraction" ["n"] [(["n"], 0, 1, [0])] sp_as_fraction := T.d_as_fraction.fd fun f fd Fn => g_as_fraction T Fn
def sp_plus : ASp := sp_plus_f
theorem g_plus (T : Tx K mg) {f : Addr} {fd : FuncData} (Fn : Fun K "plus" "plus" st_plus f fd) : FnG P w K mg base 6 f fd ["one", "other"] sp_plus := by
  refine fnG_of Fn sc_plus (fun cdv => (bv_cons (sv_expr (evc (ok_need_two T) (Nat.le_of_ble_eq_true rfl) rfl (av_cons (ev_var 0) (av_cons (ev_var 1) av_nil))))
      (bv_one (sv_ret (evc (ok_plus_f T) (Nat.le_of_ble_eq_true rfl) rfl (av_cons (ev_var 0) (av_cons (ev_var 1) av_nil))))))) fun ws ob Qa hl h => ?_
  obtain ⟨a, b, c, d, rfl, F1, F2, q⟩ := h
  simp only [aAnd, aAndV, aAsg, aAsgT, aBk, aC, aCB, aCall, aCallK, aChain, aCons, aCt, aDget, aDispM, aDput, aDrop, aGN, aGcons, aGnil, aGtup, aIE, aIL, aIR1, aIR2, aIT, aIZ, aIf, aIfS, aIsi, aLst, aLstM, aMt, aMt0, aNever, aNil, aNoP, aNot, aNotV, aNx, aOp, aOr, aOrV, aPar, aPar3, aRet, aRetN, aRevD, aRevM, aSeq, aSl, aSmP, aTst, aTup, aUn, aVar, aYes, xAbs, xAdd, xApp, xBools, xEqB, xGcd, xI, xIc, xIdx, xInt, xInts, xIs_nn, xIs_bb, xIs_bn, xIs_in, xIs_sn, xIs_tn, xIs_ln, xLen, xListOf, xListOfM, xMax, xMin, xNeg, xPop, xSl, xSum, xTupleOf, optW, view, asB, onRL, isRL, pick, keyOf, val_cells, val_mixed, val_draws, put_draws, allD, finD, startA, List.map_cons, List.map_nil, List.length_cons, List.length_nil, List.replicate, List.cons_append, List.nil_append, List.append_nil, List.getElem?_cons_zero, List.getElem?_cons_succ, List.set_cons_zero, List.set_cons_succ, Option.join_some, Option.map_some, List.filterMap_cons, List.filterMap_nil, List.take, Nat.sub_self, Nat.add_one_sub_one, Nat.reduceSub, Nat.reduceAdd, List.replicate_zero, isT, atI_0, atI_1, size2, size1, size3, size0, true_and, and_true, Bool.true_eq_false, Bool.false_eq_true, if_true, if_false, ite_true, ite_false, reduceIte, eq_self, ex_app, ex_app2, ite_tt, ite_ft, List.cons.injEq, W.d.injEq, PyData.int.injEq, PyData.tuple.injEq, exists_eq_left', and_assoc, exists_and_left, eqOk_int, eqD_int, eqOk_fr, eqD_fr, eqOk_str, eqD_str, id, lo_ws1, lo_ws2, lo_ws3, Bool.not_true, Bool.not_false, Bool.and_true, Bool.and_false, Bool.true_and, Bool.false_and, Bool.or_true, Bool.or_false, Bool.true_or, Bool.false_or, sp_need_two, sp_plus_f]
  exact ⟨F1, F2, F1, F2, q⟩
theorem ok_plus (T : Tx K mg) : Fdf P w K mg base 6 "plus" ["one", "other"] [(["other", "one"], 0, 2, [1, 0])] sp_plus := T.d_plus.fd fun f fd Fn => g_plus T Fn
def sp_minus : ASp := sp_minus_f
theorem g_minus (T : Tx K mg) {f : Addr} {fd : FuncData} (Fn : Fun K "minus" "minus" st_minus f fd) : FnG P w K mg base 6 f fd ["one", "other"] sp_minus := by
  refine fnG_of Fn sc_minus (fun cdv => (bv_cons (sv_expr (evc (ok_need_two T) (Nat.le_of_ble_eq_true rfl) rfl (av_cons (ev_var 0) (av_cons (ev_var 1) av_nil))))
      (bv_one (sv_ret (evc (ok_minus_f T) (Nat.le_of_ble_eq_true rfl) rfl (av_cons (ev_var 0) (av_cons (ev_var 1) av_nil))))))) fun ws ob Qa hl h => ?_
  obtain ⟨a, b, c, d, rfl, F1, F2, q⟩ := h
  simp only [aAnd, aAndV, aAsg, aAsgT, aBk, aC, aCB, aCall, aCallK, aChain, aCons, aCt, aDget, aDispM, aDput, aDrop, aGN, aGcons, aGnil, aGtup, aIE, aIL, aIR1, aIR2, aIT, aIZ, aIf, aIfS, aIsi, aLst, aLstM, aMt, aMt0, aNever, aNil, aNoP, aNot, aNotV, aNx, aOp, aOr, aOrV, aPar, aPar3, aRet, aRetN, aRevD, aRevM, aSeq, aSl, aSmP, aTst, aTup, aUn, aVar, aYes, xAbs, xAdd, xApp, xBools, xEqB, xGcd, xI, xIc, xIdx, xInt, xInts, xIs_nn, xIs_bb, xIs_bn, xIs_in, xIs_sn, xIs_tn, xIs_ln, xLen, xListOf, xListOfM, xMax, xMin, xNeg, xPop, xSl, xSum, xTupleOf, optW, view, asB, onRL, isRL, pick, keyOf, val_cells, val_mixed, val_draws, put_draws, allD, finD, startA, List.map_cons, List.map_nil, List.length_cons, List.length_nil, List.replicate, List.cons_append, List.nil_append, List.append_nil, List.getElem?_cons_zero, List.getElem?_cons_succ, List.set_cons_zero, List.set_cons_succ, Option.join_some, Option.map_some, List.filterMap_cons, List.filterMap_nil, List.take, Nat.sub_self, Nat.add_one_sub_one, Nat.reduceSub, Nat.reduceAdd, List.replicate_zero, isT, atI_0, atI_1, size2, size1, size3, size0, true_and, and_true, Bool.true_eq_false, Bool.false_eq_true, if_true, if_false, ite_true, ite_false, reduceIte, eq_self, ex_app, ex_app2, ite_tt, ite_ft, List.cons.injEq, W.d.injEq, PyData.int.injEq, PyData.tuple.injEq, exists_eq_left', and_assoc, exists_and_left, eqOk_int, eqD_int, eqOk_fr, eqD_fr, eqOk_str, eqD_str, id, lo_ws1, lo_ws2, lo_ws3, Bool.not_true, Bool.not_false, Bool.and_true, Bool.and_false, Bool.true_and, Bool.false_and, Bool.or_true, Bool.or_false, Bool.true_or, Bool.false_or, sp_need_two, sp_minus_f]
  exact ⟨F1, F2, F1, F2, q⟩
theorem ok_minus (T : Tx K mg) : Fdf P w K mg base 6 "minus" ["one", "other"] [(["other", "one"], 0, 2, [1, 0])] sp_minus := T.d_minus.fd fun f fd Fn => g_minus T Fn
def sp_times : ASp := sp_times_f
theorem g_times (T : Tx K mg) {f : Addr} {fd : FuncData} (Fn : Fun K "times" "times" st_times f fd) : FnG P w K mg base 6 f fd ["one", "other"] sp_times := by
  refine fnG_of Fn sc_times (fun cdv => (bv_cons (sv_expr (evc (ok_need_two T) (Nat.le_of_ble_eq_true rfl) rfl (av_cons (ev_var 0) (av_cons (ev_var 1) av_nil))))
      (bv_one (sv_ret (evc (ok_times_f T) (Nat.le_of_ble_eq_true rfl) rfl (av_cons (ev_var 0) (av_cons (ev_var 1) av_nil))))))) fun ws ob Qa hl h => ?_
  obtain ⟨a, b, c, d, rfl, F1, F2, q⟩ := h
  simp only [aAnd, aAndV, aAsg, aAsgT, aBk, aC, aCB, aCall, aCallK, aChain, aCons, aCt, aDget, aDispM, aDput, aDrop, aGN, aGcons, aGnil, aGtup, aIE, aIL, aIR1, aIR2, aIT, aIZ, aIf, aIfS, aIsi, aLst, aLstM, aMt, aMt0, aNever, aNil, aNoP, aNot, aNotV, aNx, aOp, aOr, aOrV, aPar, aPar3, aRet, aRetN, aRevD, aRevM, aSeq, aSl, aSmP, aTst, aTup, aUn, aVar, aYes, xAbs, xAdd, xApp, xBools, xEqB, xGcd, xI, xIc, xIdx, xInt, xInts, xIs_nn, xIs_bb, xIs_bn, xIs_in, xIs_sn, xIs_tn, xIs_ln, xLen, xListOf, xListOfM, xMax, xMin, xNeg, xPop, xSl, xSum, xTupleOf, optW, view, asB, onRL, isRL, pick, keyOf, val_cells, val_mixed, val_draws, put_draws, allD, finD, startA, List.map_cons, List.map_nil, List.length_cons, List.length_nil, List.replicate, List.cons_append, List.nil_append, List.append_nil, List.getElem?_cons_zero, List.getElem?_cons_succ, List.set_cons_zero, List.set_cons_succ, Option.join_some, Option.map_some, List.filterMap_cons, List.filterMap_nil, List.take, Nat.sub_self, Nat.add_one_sub_one, Nat.reduceSub, Nat.reduceAdd, List.replicate_zero, isT, atI_0, atI_1, size2, size1, size3, size0, true_and, and_true, Bool.true_eq_false, Bool.false_eq_true, if_true, if_false, ite_true, ite_false, reduceIte, eq_self, ex_app, ex_app2, ite_tt, ite_ft, List.cons.injEq, W.d.injEq, PyData.int.injEq, PyData.tuple.injEq, exists_eq_left', and_assoc, exists_and_left, eqOk_int, eqD_int, eqOk_fr, eqD_fr, eqOk_str, eqD_str, id, lo_ws1, lo_ws2, lo_ws3, Bool.not_true, Bool.not_false, Bool.and_true, Bool.and_false, Bool.true_and, Bool.false_and, Bool.or_true, Bool.or_false, Bool.true_or, Bool.false_or, sp_need_two, sp_times_f]
  exact ⟨F1, F2, F1, F2, q⟩
theorem ok_times (T : Tx K mg) : Fdf P w K mg base 6 "times" ["one", "other"] [(["other", "one"], 0, 2, [1, 0])] sp_times := T.d_times.fd fun f fd Fn => g_times T Fn
def sp_over : ASp := sp_over_f
theorem g_over (T : Tx K mg) {f : Addr} {fd : FuncData} (Fn : Fun K "over" "over" st_over f fd) : FnG P w K mg base 6 f fd ["one", "other"] sp_over := by
  refine fnG_of Fn sc_over (fun cdv => (bv_cons (sv_expr (evc (ok_need_two T) (Nat.le_of_ble_eq_true rfl) rfl (av_cons (ev_var 0) (av_cons (ev_var 1) av_nil))))
      (bv_cons (sv_if (tv_cmp ov_eq (ev_var 1) (ev_globC rfl T.c_NOUGHT)) (bv_one sv_never) bv_nil)
      (bv_one (sv_ret (evc (ok_over_f T) (Nat.le_of_ble_eq_true rfl) rfl (av_cons (ev_var 0) (av_cons (ev_var 1) av_nil)))))))) fun ws ob Qa hl h => ?_
  obtain ⟨a, b, c, d, rfl, F1, F2, hc, q⟩ := h
  simp only [aAnd, aAndV, aAsg, aAsgT, aBk, aC, aCB, aCall, aCallK, aChain, aCons, aCt, aDget, aDispM, aDput, aDrop, aGN, aGcons, aGnil, aGtup, aIE, aIL, aIR1, aIR2, aIT, aIZ, aIf, aIfS, aIsi, aLst, aLstM, aMt, aMt0, aNever, aNil, aNoP, aNot, aNotV, aNx, aOp, aOr, aOrV, aPar, aPar3, aRet, aRetN, aRevD, aRevM, aSeq, aSl, aSmP, aTst, aTup, aUn, aVar, aYes, xAbs, xAdd, xApp, xBools, xEqB, xGcd, xI, xIc, xIdx, xInt, xInts, xIs_nn, xIs_bb, xIs_bn, xIs_in, xIs_sn, xIs_tn, xIs_ln, xLen, xListOf, xListOfM, xMax, xMin, xNeg, xPop, xSl, xSum, xTupleOf, optW, view, asB, onRL, isRL, pick, keyOf, val_cells, val_mixed, val_draws, put_draws, allD, finD, startA, List.map_cons, List.map_nil, List.length_cons, List.length_nil, List.replicate, List.cons_append, List.nil_append, List.append_nil, List.getElem?_cons_zero, List.getElem?_cons_succ, List.set_cons_zero, List.set_cons_succ, Option.join_some, Option.map_some, List.filterMap_cons, List.filterMap_nil, List.take, Nat.sub_self, Nat.add_one_sub_one, Nat.reduceSub, Nat.reduceAdd, List.replicate_zero, isT, atI_0, atI_1, size2, size1, size3, size0, true_and, and_true, Bool.true_eq_false, Bool.false_eq_true, if_true, if_false, ite_true, ite_false, reduceIte, eq_self, ex_app, ex_app2, ite_tt, ite_ft, List.cons.injEq, W.d.injEq, PyData.int.injEq, PyData.tuple.injEq, exists_eq_left', and_assoc, exists_and_left, eqOk_int, eqD_int, eqOk_fr, eqD_fr, eqOk_str, eqD_str, id, lo_ws1, lo_ws2, lo_ws3, Bool.not_true, Bool.not_false, Bool.and_true, Bool.and_false, Bool.true_and, Bool.false_and, Bool.or_true, Bool.or_false, Bool.true_or, Bool.false_or, sp_need_two, sp_over_f, hc, decide_false]
  exact ⟨F1, F2, F1, F2, hc, q⟩
theorem ok_over (T : Tx K mg) : Fdf P w K mg base 6 "over" ["one", "other"] [(["other", "one"], 0, 2, [1, 0])] sp_over := T.d_over.fd fun f fd Fn => g_over T Fn
def sp_compared : ASp := sp_compared_f
theorem g_compared (T : Tx K mg) {f : Addr} {fd : FuncData} (Fn : Fun K "compared" "compared" st_compared f fd) : FnG P w K mg base 6 f fd ["one", "other"] sp_compared := by
  refine fnG_of Fn sc_compared (fun cdv => (bv_cons (sv_expr (evc (ok_need_two T) (Nat.le_of_ble_eq_true rfl) rfl (av_cons (ev_var 0) (av_cons (ev_var 1) av_nil))))
      (bv_one (sv_ret (evc (ok_compared_f T) (Nat.le_of_ble_eq_true rfl) rfl (av_cons (ev_var 0) (av_cons (ev_var 1) av_nil))))))) fun ws ob Qa hl h => ?_
  obtain ⟨a, b, c, d, rfl, F1, F2, q⟩ := h
  simp only [aAnd, aAndV, aAsg, aAsgT, aBk, aC, aCB, aCall, aCallK, aChain, aCons, aCt, aDget, aDispM, aDput, aDrop, aGN, aGcons, aGnil, aGtup, aIE, aIL, aIR1, aIR2, aIT, aIZ, aIf, aIfS, aIsi, aLst, aLstM, aMt, aMt0, aNever, aNil, aNoP, aNot, aNotV, aNx, aOp, aOr, aOrV, aPar, aPar3, aRet, aRetN, aRevD, aRevM, aSeq, aSl, aSmP, aTst, aTup, aUn, aVar, aYes, xAbs, xAdd, xApp, xBools, xEqB, xGcd, xI, xIc, xIdx, xInt, xInts, xIs_nn, xIs_bb, xIs_bn, xIs_in, xIs_sn, xIs_tn, xIs_ln, xLen, xListOf, xListOfM, xMax, xMin, xNeg, xPop, xSl, xSum, xTupleOf, optW, view, asB, onRL, isRL, pick, keyOf, val_cells, val_mixed, val_draws, put_draws, allD, finD, startA, List.map_cons, List.map_nil, List.length_cons, List.length_nil, List.replicate, List.cons_append, List.nil_append, List.append_nil, List.getElem?_cons_zero, List.getElem?_cons_succ, List.set_cons_zero, List.set_cons_succ, Option.join_some, Option.map_some, List.filterMap_cons, List.filterMap_nil, List.take, Nat.sub_self, Nat.add_one_sub_one, Nat.reduceSub, Nat.reduceAdd, List.replicate_zero, isT, atI_0, atI_1, size2, size1, size3, size0, true_and, and_true, Bool.true_eq_false, Bool.false_eq_true, if_true, if_false, ite_true, ite_false, reduceIte, eq_self, ex_app, ex_app2, ite_tt, ite_ft, List.cons.injEq, W.d.injEq, PyData.int.injEq, PyData.tuple.injEq, exists_eq_left', and_assoc, exists_and_left, eqOk_int, eqD_int, eqOk_fr, eqD_fr, eqOk_str, eqD_str, id, lo_ws1, lo_ws2, lo_ws3, Bool.not_true, Bool.not_false, Bool.and_true, Bool.and_false, Bool.true_and, Bool.false_and, Bool.or_true, Bool.or_false, Bool.true_or, Bool.false_or, sp_need_two, sp_compared_f]
  exact ⟨F1, F2, F1, F2, q⟩
theorem ok_compared (T : Tx K mg) : Fdf P w K mg base 6 "compared" ["one", "other"] [(["other", "one"], 0, 2, [1, 0])] sp_compared := T.d_compared.fd fun f fd Fn => g_compared T Fn
def sp_floor_of : ASp := fun ws ih Q => ∃ a b : Int, ws = [.d (.tuple [.int a, .int b])] ∧ Fr 1400 a b ∧ Q (.d (.int (a.fdiv b))) ih
theorem g_floor_of (T : Tx K mg) {f : Addr} {fd : FuncData} (Fn : Fun K "floor_of" "floor_of" st_floor_of f fd) : FnG P w K mg base 5 f fd ["one"] sp_floor_of := by
  refine fnG_of Fn sc_floor_of (fun cdv => (bv_cons (sv_expr (evc (ok_need_fraction T) (Nat.le_of_ble_eq_true rfl) rfl (av_cons (ev_var 0) av_nil)))
      (bv_one (sv_ret (ev_op ov_fdiv (ev_ix (ev_var 0) ev_int) (ev_ix (ev_var 0) ev_int)))))) fun ws ob Qa hl h => ?_
  obtain ⟨a, b, rfl, F1, q⟩ := h
  simp only [aAnd, aAndV, aAsg, aAsgT, aBk, aC, aCB, aCall, aCallK, aChain, aCons, aCt, aDget, aDispM, aDput, aDrop, aGN, aGcons, aGnil, aGtup, aIE, aIL, aIR1, aIR2, aIT, aIZ, aIf, aIfS, aIsi, aLst, aLstM, aMt, aMt0, aNever, aNil, aNoP, aNot, aNotV, aNx, aOp, aOr, aOrV, aPar, aPar3, aRet, aRetN, aRevD, aRevM, aSeq, aSl, aSmP, aTst, aTup, aUn, aVar, aYes, xAbs, xAdd, xApp, xBools, xEqB, xGcd, xI, xIc, xIdx, xInt, xInts, xIs_nn, xIs_bb, xIs_bn, xIs_in, xIs_sn, xIs_tn, xIs_ln, xLen, xListOf, xListOfM, xMax, xMin, xNeg, xPop, xSl, xSum, xTupleOf, optW, view, asB, onRL, isRL, pick, keyOf, val_cells, val_mixed, val_draws, put_draws, allD, finD, startA, List.map_cons, List.map_nil, List.length_cons, List.length_nil, List.replicate, List.cons_append, List.nil_append, List.append_nil, List.getElem?_cons_zero, List.getElem?_cons_succ, List.set_cons_zero, List.set_cons_succ, Option.join_some, Option.map_some, List.filterMap_cons, List.filterMap_nil, List.take, Nat.sub_self, Nat.add_one_sub_one, Nat.reduceSub, Nat.reduceAdd, List.replicate_zero, isT, atI_0, atI_1, size2, size1, size3, size0, true_and, and_true, Bool.true_eq_false, Bool.false_eq_true, if_true, if_false, ite_true, ite_false, reduceIte, eq_self, ex_app, ex_app2, ite_tt, ite_ft, List.cons.injEq, W.d.injEq, PyData.int.injEq, PyData.tuple.injEq, exists_eq_left', and_assoc, exists_and_left, eqOk_int, eqD_int, eqOk_fr, eqD_fr, eqOk_str, eqD_str, id, lo_ws1, lo_ws2, lo_ws3, Bool.not_true, Bool.not_false, Bool.and_true, Bool.and_false, Bool.true_and, Bool.false_and, Bool.or_true, Bool.or_false, Bool.true_or, Bool.false_or, sp_need_fraction]
  exact ⟨F1.pos, F1.gcd, F1.bd.cdv (by have := F1.pos; omega) (by decide), q⟩
theorem ok_floor_of (T : Tx K mg) : Fdf P w K mg base 5 "floor_of" ["one"] [(["one"], 0, 1, [0])] sp_floor_of := T.d_floor_of.fd fun f fd Fn => g_floor_of T Fn
def sp_ceiling_of : ASp := fun ws ih Q => ∃ a b : Int, ws = [.d (.tuple [.int a, .int b])] ∧ Fr 1400 a b ∧ Q (.d (.int (-((-a).fdiv b)))) ih
theorem g_ceiling_of (T : Tx K mg) {f : Addr} {fd : FuncData} (Fn : Fun K "ceiling_of" "ceiling_of" st_ceiling_of f fd) : FnG P w K mg base 5 f fd ["one"] sp_ceiling_of := by
  refine fnG_of Fn sc_ceiling_of (fun cdv => (bv_cons (sv_expr (evc (ok_need_fraction T) (Nat.le_of_ble_eq_true rfl) rfl (av_cons (ev_var 0) av_nil)))
      (bv_one (sv_ret (ev_un uv_neg (ev_op ov_fdiv (ev_un uv_neg (ev_ix (ev_var 0) ev_int)) (ev_ix (ev_var 0) ev_int))))))) fun ws ob Qa hl h => ?_
  obtain ⟨a, b, rfl, F1, q⟩ := h
  simp only [aAnd, aAndV, aAsg, aAsgT, aBk, aC, aCB, aCall, aCallK, aChain, aCons, aCt, aDget, aDispM, aDput, aDrop, aGN, aGcons, aGnil, aGtup, aIE, aIL, aIR1, aIR2, aIT, aIZ, aIf, aIfS, aIsi, aLst, aLstM, aMt, aMt0, aNever, aNil, aNoP, aNot, aNotV, aNx, aOp, aOr, aOrV, aPar, aPar3, aRet, aRetN, aRevD, aRevM, aSeq, aSl, aSmP, aTst, aTup, aUn, aVar, aYes, xAbs, xAdd, xApp, xBools, xEqB, xGcd, xI, xIc, xIdx, xInt, xInts, xIs_nn, xIs_bb, xIs_bn, xIs_in, xIs_sn, xIs_tn, xIs_ln, xLen, xListOf, xListOfM, xMax, xMin, xNeg, xPop, xSl, xSum, xTupleOf, optW, view, asB, onRL, isRL, pick, keyOf, val_cells, val_mixed, val_draws, put_draws, allD, finD, startA, List.map_cons, List.map_nil, List.length_cons, List.length_nil, List.replicate, List.cons_append, List.nil_append, List.append_nil, List.getElem?_cons_zero, List.getElem?_cons_succ, List.set_cons_zero, List.set_cons_succ, Option.join_some, Option.map_some, List.filterMap_cons, List.filterMap_nil, List.take, Nat.sub_self, Nat.add_one_sub_one, Nat.reduceSub, Nat.reduceAdd, List.replicate_zero, isT, atI_0, atI_1, size2, size1, size3, size0, true_and, and_true, Bool.true_eq_false, Bool.false_eq_true, if_true, if_false, ite_true, ite_false, reduceIte, eq_self, ex_app, ex_app2, ite_tt, ite_ft, List.cons.injEq, W.d.injEq, PyData.int.injEq, PyData.tuple.injEq, exists_eq_left', and_assoc, exists_and_left, eqOk_int, eqD_int, eqOk_fr, eqD_fr, eqOk_str, eqD_str, id, lo_ws1, lo_ws2, lo_ws3, Bool.not_true, Bool.not_false, Bool.and_true, Bool.and_false, Bool.true_and, Bool.false_and, Bool.or_true, Bool.or_false, Bool.true_or, Bool.false_or, sp_need_fraction]
  exact ⟨F1.pos, F1.gcd, F1.bd.cdv (by have := F1.pos; omega) (by decide), q⟩
theorem ok_ceiling_of (T : Tx K mg) : Fdf P w K mg base 5 "ceiling_of" ["one"] [(["one"], 0, 1, [0])] sp_ceiling_of := T.d_ceiling_of.fd fun f fd Fn => g_ceiling_of T Fn
/-- the state of the first loop -/
def iv_deck (ns : List Int) : Nat → En → IH → Prop := fun i env ih => ∃ s c, env = [some (.scr ns), some (.d (.int s)), c] ∧ ih = [] ∧ 0 ≤ s ∧ s < 2147483587
def sp__law_deck : ASp := fun ws ih Q => ∃ ns : List Int, ws = [.scr ns] ∧ ih = [] ∧ ns.length ≤ 63 ∧ ∀ ih2, Dk 0 [] ih2 → Q (.ref 1) ih2
theorem g__law_deck (T : Tx K mg) {f : Addr} {fd : FuncData} (Fn : Fun K "_law_deck" "_law_deck" st__law_deck f fd) : FnG P w K mg base 1 f fd ["script"] sp__law_deck := by
  refine fnG_ofI Fn sc__law_deck (fun cdv => (bv_cons (sv_set 1 ev_int)
      (bv_cons (sv_for (iv_list (ev_slice (ev_var 0) ov1_none (ov1_some ev_int))) (GW.gv (vs := [2]) (gw_name 2)) (bv_one (sv_set 1 (ev_op ov_mod (ev_callT cv_int rfl T.b_int bt_int (av_cons (ev_op ov_add (ev_op ov_add (ev_op ov_mul (ev_var 1) ev_int) (ev_op ov_mod (ev_callT cv_int rfl T.b_int bt_int (av_cons (ev_var 2) av_nil)) ev_int)) ev_int) av_nil)) ev_int))))
      (bv_one (sv_ret (ev_dispM (ppv_cons (ev_revM (ev_callT cv_list rfl T.b_list bt_list (av_cons (ev_slice (ev_var 0) ov1_none (ov1_some ev_int)) av_nil))) (ppv_cons (ev_var 1) (ppv_cons ev_int ppv_nil))))))))) fun ws ob Qa hl h => ?_
  obtain ⟨ns, rfl, rfl, hn, q⟩ := h
  have b1 : Bd 31 48271 := bd31 (by decide) (by decide)
  simp only [aAnd, aAndV, aAsg, aAsgT, aBk, aC, aCB, aCall, aCallK, aChain, aCons, aCt, aDget, aDispM, aDput, aDrop, aGN, aGcons, aGnil, aGtup, aIE, aIL, aIR1, aIR2, aIT, aIZ, aIf, aIfS, aIsi, aLst, aLstM, aMt, aMt0, aNever, aNil, aNoP, aNot, aNotV, aNx, aOp, aOr, aOrV, aPar, aPar3, aRet, aRetN, aRevD, aRevM, aSeq, aSl, aSmP, aTst, aTup, aUn, aVar, aYes, xAbs, xAdd, xApp, xBools, xEqB, xGcd, xI, xIc, xIdx, xInt, xInts, xIs_nn, xIs_bb, xIs_bn, xIs_in, xIs_sn, xIs_tn, xIs_ln, xLen, xListOf, xListOfM, xMax, xMin, xNeg, xPop, xSl, xSum, xTupleOf, optW, view, asB, onRL, isRL, pick, keyOf, val_cells, val_mixed, val_draws, put_draws, allD, finD, startA, List.map_cons, List.map_nil, List.length_cons, List.length_nil, List.replicate, List.cons_append, List.nil_append, List.append_nil, List.getElem?_cons_zero, List.getElem?_cons_succ, List.set_cons_zero, List.set_cons_succ, Option.join_some, Option.map_some, List.filterMap_cons, List.filterMap_nil, List.take, Nat.sub_self, Nat.add_one_sub_one, Nat.reduceSub, Nat.reduceAdd, List.replicate_zero, isT, atI_0, atI_1, size2, size1, size3, size0, true_and, and_true, Bool.true_eq_false, Bool.false_eq_true, if_true, if_false, ite_true, ite_false, reduceIte, eq_self, ex_app, ex_app2, ite_tt, ite_ft, List.cons.injEq, W.d.injEq, PyData.int.injEq, PyData.tuple.injEq, exists_eq_left', and_assoc, exists_and_left, eqOk_int, eqD_int, eqOk_fr, eqD_fr, eqOk_str, eqD_str, id, lo_ws1, lo_ws2, lo_ws3, Bool.not_true, Bool.not_false, Bool.and_true, Bool.and_false, Bool.true_and, Bool.false_and, Bool.or_true, Bool.or_false, Bool.true_or, Bool.false_or, aFor, cut_map]
  refine ⟨iv_deck ns, ⟨_, _, rfl, rfl, by decide, by decide⟩, ?_, ?_⟩
  · rintro i d env ih hd ⟨s, c, rfl, rfl, h0, h1⟩
    obtain ⟨n, _, rfl⟩ := map_get hd
    simp only [aAnd, aAndV, aAsg, aAsgT, aBk, aC, aCB, aCall, aCallK, aChain, aCons, aCt, aDget, aDispM, aDput, aDrop, aGN, aGcons, aGnil, aGtup, aIE, aIL, aIR1, aIR2, aIT, aIZ, aIf, aIfS, aIsi, aLst, aLstM, aMt, aMt0, aNever, aNil, aNoP, aNot, aNotV, aNx, aOp, aOr, aOrV, aPar, aPar3, aRet, aRetN, aRevD, aRevM, aSeq, aSl, aSmP, aTst, aTup, aUn, aVar, aYes, xAbs, xAdd, xApp, xBools, xEqB, xGcd, xI, xIc, xIdx, xInt, xInts, xIs_nn, xIs_bb, xIs_bn, xIs_in, xIs_sn, xIs_tn, xIs_ln, xLen, xListOf, xListOfM, xMax, xMin, xNeg, xPop, xSl, xSum, xTupleOf, optW, view, asB, onRL, isRL, pick, keyOf, val_cells, val_mixed, val_draws, put_draws, allD, finD, startA, List.map_cons, List.map_nil, List.length_cons, List.length_nil, List.replicate, List.cons_append, List.nil_append, List.append_nil, List.getElem?_cons_zero, List.getElem?_cons_succ, List.set_cons_zero, List.set_cons_succ, Option.join_some, Option.map_some, List.filterMap_cons, List.filterMap_nil, List.take, Nat.sub_self, Nat.add_one_sub_one, Nat.reduceSub, Nat.reduceAdd, List.replicate_zero, isT, atI_0, atI_1, size2, size1, size3, size0, true_and, and_true, Bool.true_eq_false, Bool.false_eq_true, if_true, if_false, ite_true, ite_false, reduceIte, eq_self, ex_app, ex_app2, ite_tt, ite_ft, List.cons.injEq, W.d.injEq, PyData.int.injEq, PyData.tuple.injEq, exists_eq_left', and_assoc, exists_and_left, eqOk_int, eqD_int, eqOk_fr, eqD_fr, eqOk_str, eqD_str, id, lo_ws1, lo_ws2, lo_ws3, Bool.not_true, Bool.not_false, Bool.and_true, Bool.and_false, Bool.true_and, Bool.false_and, Bool.or_true, Bool.or_false, Bool.true_or, Bool.false_or]
    exact ⟨(bd31 h0 (by omega)).cmul b1 (by decide), by decide, by decide, _, _, rfl, rfl, fmod_in _ _ (by decide)⟩
  · rintro env ih ⟨s, c, rfl, rfl, h0, h1⟩
    simp only [aAnd, aAndV, aAsg, aAsgT, aBk, aC, aCB, aCall, aCallK, aChain, aCons, aCt, aDget, aDispM, aDput, aDrop, aGN, aGcons, aGnil, aGtup, aIE, aIL, aIR1, aIR2, aIT, aIZ, aIf, aIfS, aIsi, aLst, aLstM, aMt, aMt0, aNever, aNil, aNoP, aNot, aNotV, aNx, aOp, aOr, aOrV, aPar, aPar3, aRet, aRetN, aRevD, aRevM, aSeq, aSl, aSmP, aTst, aTup, aUn, aVar, aYes, xAbs, xAdd, xApp, xBools, xEqB, xGcd, xI, xIc, xIdx, xInt, xInts, xIs_nn, xIs_bb, xIs_bn, xIs_in, xIs_sn, xIs_tn, xIs_ln, xLen, xListOf, xListOfM, xMax, xMin, xNeg, xPop, xSl, xSum, xTupleOf, optW, view, asB, onRL, isRL, pick, keyOf, val_cells, val_mixed, val_draws, put_draws, allD, finD, startA, List.map_cons, List.map_nil, List.length_cons, List.length_nil, List.replicate, List.cons_append, List.nil_append, List.append_nil, List.getElem?_cons_zero, List.getElem?_cons_succ, List.set_cons_zero, List.set_cons_succ, Option.join_some, Option.map_some, List.filterMap_cons, List.filterMap_nil, List.take, Nat.sub_self, Nat.add_one_sub_one, Nat.reduceSub, Nat.reduceAdd, List.replicate_zero, isT, atI_0, atI_1, size2, size1, size3, size0, true_and, and_true, Bool.true_eq_false, Bool.false_eq_true, if_true, if_false, ite_true, ite_false, reduceIte, eq_self, ex_app, ex_app2, ite_tt, ite_ft, List.cons.injEq, W.d.injEq, PyData.int.injEq, PyData.tuple.injEq, exists_eq_left', and_assoc, exists_and_left, eqOk_int, eqD_int, eqOk_fr, eqD_fr, eqOk_str, eqD_str, id, lo_ws1, lo_ws2, lo_ws3, Bool.not_true, Bool.not_false, Bool.and_true, Bool.and_false, Bool.true_and, Bool.false_and, Bool.or_true, Bool.or_false, Bool.true_or, Bool.false_or]
    refine ⟨by decide +kernel, by decide, q _ ⟨(cut ns none (some 63)).reverse, s, 0, ?_, ?_, h0, by omega, Int.le_refl _, Int.le_refl _⟩⟩
    · unfold DK
      rw [← List.map_reverse, List.map_map]
      rfl
    · rw [List.length_reverse]
      exact Nat.le_trans (cut_len _ _ _) hn
theorem ok__law_deck (T : Tx K mg) : Fdf P w K mg base 1 "_law_deck" ["script"] [] sp__law_deck := T.d__law_deck.fd fun f fd Fn => g__law_deck T Fn
def md_draw (m x z : Int) (r : IH) : En → IH → Prop := fun env ih => ∃ (c : List Int) (n : Int) (v : Option W), env = [some (.ref 1), some (.d (.int m)), some (.d (.int n)), v] ∧ ih = .lst (c.map fun i => .d (.int i)) :: .dic (dk3 (.ref 0) (.d (.int x)) (.d (.int z))) :: r ∧ c.length ≤ 63 ∧ Bd 70 n
theorem bz {z : Int} (k : Int) (h1 : 0 ≤ z + k) (h2 : z + k < 2147483648) : Bd 31 (z + k) := bd31 h1 h2
def sp__law_draw : ASp := fun ws ih Q => ∃ (m : Int) (b : Nat) (r : IH), ws = [.ref 1, .d (.int m)] ∧ Dk b r ih ∧ b ≤ 1000000 ∧ 0 < m ∧ m < 2 ^ 64 ∧ ∀ k ih2, 0 ≤ k → k < m → Dk (b + 1) r ih2 → Q (.d (.int k)) ih2
theorem g__law_draw (T : Tx K mg) {f : Addr} {fd : FuncData} (Fn : Fun K "_law_draw" "_law_draw" st__law_draw f fd) : FnG P w K mg base 1 f fd ["deck", "many"] sp__law_draw := by
  refine fnG_ofI Fn sc__law_draw (fun cdv => (bv_cons (sv_dput (ev_var 0) ev_str (ev_op ov_add (ev_dget (ev_var 0) ev_str) ev_int))
      (bv_cons (sv_set 2 (ev_op ov_add (ev_dget (ev_var 0) ev_str) (ev_op ov_mul ev_int (ev_dget (ev_var 0) ev_str))))
      (bv_cons (sv_if (tv_cmp ov_ne (ev_dget (ev_var 0) ev_str) (ev_lst av_nil)) (bv_cons (sv_set 3 (ev_mt0 F.plainAttrs_list F.slot_list_pop F.type_list_pop mv_pop (ev_dget (ev_var 0) ev_str)))
      (bv_cons (sv_if (tv_cmp ov_ge (ev_var 3) (ev_op ov_pow ev_int ev_int)) (bv_cons (sv_expr (ev_mt F.plainAttrs_list F.slot_list_append F.type_list_append mv_app (ev_dget (ev_var 0) ev_str) (av_cons (ev_op ov_fdiv (ev_var 3) (ev_callB cv_max rfl T.b_max bt_max (av_cons ev_int (av_cons (ev_var 1) av_nil)))) av_nil)))
      (bv_one (sv_ret (ev_op ov_mod (ev_callT cv_int rfl T.b_int bt_int (av_cons (ev_var 3) av_nil)) (ev_var 1))))) bv_nil)
      (bv_one (sv_set 2 (ev_op ov_add (ev_var 2) (ev_op ov_mod (ev_callT cv_int rfl T.b_int bt_int (av_cons (ev_var 3) av_nil)) ev_int)))))) bv_nil)
      (bv_cons (sv_set 2 (ev_op ov_mod (ev_callT cv_int rfl T.b_int bt_int (av_cons (ev_op ov_add (ev_op ov_mul (ev_var 2) ev_int) ev_int) av_nil)) ev_int))
      (bv_cons (sv_set 2 (ev_op ov_mod (ev_callT cv_int rfl T.b_int bt_int (av_cons (ev_op ov_add (ev_op ov_add (ev_op ov_mul (ev_var 2) (ev_var 2)) (ev_op ov_mul ev_int (ev_dget (ev_var 0) ev_str))) ev_int) av_nil)) ev_int))
      (bv_cons (sv_set 2 (ev_op ov_mod (ev_callT cv_int rfl T.b_int bt_int (av_cons (ev_op ov_mul (ev_var 2) ev_int) av_nil)) ev_int))
      (bv_one (sv_ret (ev_op ov_mod (ev_callT cv_int rfl T.b_int bt_int (av_cons (ev_op ov_fdiv (ev_var 2) ev_int) av_nil)) (ev_var 1))))))))))) fun ws ob Qa hl h => ?_
  obtain ⟨m, b, r, rfl, ⟨c, x, z, rfl, hc, x0, x1, z0, z1⟩, hb, m0, m1, q⟩ := h
  refine sq ?_
  simp only [aAnd, aAndV, aAsg, aAsgT, aBk, aC, aCB, aCall, aCallK, aChain, aCons, aCt, aDget, aDispM, aDput, aDrop, aGN, aGcons, aGnil, aGtup, aIE, aIL, aIR1, aIR2, aIT, aIZ, aIf, aIfS, aIsi, aLst, aLstM, aMt, aMt0, aNever, aNil, aNoP, aNot, aNotV, aNx, aOp, aOr, aOrV, aPar, aPar3, aRet, aRetN, aRevD, aRevM, aSl, aSmP, aTst, aTup, aUn, aVar, aYes, xAbs, xAdd, xApp, xBools, xEqB, xGcd, xI, xIc, xIdx, xInt, xInts, xIs_nn, xIs_bb, xIs_bn, xIs_in, xIs_sn, xIs_tn, xIs_ln, xLen, xListOf, xListOfM, xMax, xMin, xNeg, xPop, xSl, xSum, xTupleOf, optW, view, asB, onRL, isRL, pick, keyOf, val_cells, val_mixed, val_draws, put_draws, allD, finD, startA, List.map_cons, List.map_nil, List.length_cons, List.length_nil, List.replicate, List.cons_append, List.nil_append, List.append_nil, List.getElem?_cons_zero, List.getElem?_cons_succ, List.set_cons_zero, List.set_cons_succ, Option.join_some, Option.map_some, List.filterMap_cons, List.filterMap_nil, List.take, Nat.sub_self, Nat.add_one_sub_one, Nat.reduceSub, Nat.reduceAdd, List.replicate_zero, isT, atI_0, atI_1, size2, size1, size3, size0, true_and, and_true, Bool.true_eq_false, Bool.false_eq_true, if_true, if_false, ite_true, ite_false, reduceIte, eq_self, ex_app, ex_app2, ite_tt, ite_ft, List.cons.injEq, W.d.injEq, PyData.int.injEq, PyData.tuple.injEq, exists_eq_left', and_assoc, exists_and_left, eqOk_int, eqD_int, eqOk_fr, eqD_fr, eqOk_str, eqD_str, id, lo_ws1, lo_ws2, lo_ws3, Bool.not_true, Bool.not_false, Bool.and_true, Bool.and_false, Bool.true_and, Bool.false_and, Bool.or_true, Bool.or_false, Bool.true_or, Bool.false_or, dk3_eq, dk3_len]
  refine sq ?_
  simp only [aAnd, aAndV, aAsg, aAsgT, aBk, aC, aCB, aCall, aCallK, aChain, aCons, aCt, aDget, aDispM, aDput, aDrop, aGN, aGcons, aGnil, aGtup, aIE, aIL, aIR1, aIR2, aIT, aIZ, aIf, aIfS, aIsi, aLst, aLstM, aMt, aMt0, aNever, aNil, aNoP, aNot, aNotV, aNx, aOp, aOr, aOrV, aPar, aPar3, aRet, aRetN, aRevD, aRevM, aSl, aSmP, aTst, aTup, aUn, aVar, aYes, xAbs, xAdd, xApp, xBools, xEqB, xGcd, xI, xIc, xIdx, xInt, xInts, xIs_nn, xIs_bb, xIs_bn, xIs_in, xIs_sn, xIs_tn, xIs_ln, xLen, xListOf, xListOfM, xMax, xMin, xNeg, xPop, xSl, xSum, xTupleOf, optW, view, asB, onRL, isRL, pick, keyOf, val_cells, val_mixed, val_draws, put_draws, allD, finD, startA, List.map_cons, List.map_nil, List.length_cons, List.length_nil, List.replicate, List.cons_append, List.nil_append, List.append_nil, List.getElem?_cons_zero, List.getElem?_cons_succ, List.set_cons_zero, List.set_cons_succ, Option.join_some, Option.map_some, List.filterMap_cons, List.filterMap_nil, List.take, Nat.sub_self, Nat.add_one_sub_one, Nat.reduceSub, Nat.reduceAdd, List.replicate_zero, isT, atI_0, atI_1, size2, size1, size3, size0, true_and, and_true, Bool.true_eq_false, Bool.false_eq_true, if_true, if_false, ite_true, ite_false, reduceIte, eq_self, ex_app, ex_app2, ite_tt, ite_ft, List.cons.injEq, W.d.injEq, PyData.int.injEq, PyData.tuple.injEq, exists_eq_left', and_assoc, exists_and_left, eqOk_int, eqD_int, eqOk_fr, eqD_fr, eqOk_str, eqD_str, id, lo_ws1, lo_ws2, lo_ws3, Bool.not_true, Bool.not_false, Bool.and_true, Bool.and_false, Bool.true_and, Bool.false_and, Bool.or_true, Bool.or_false, Bool.true_or, Bool.false_or, dk3_eq, dk3_len]
  refine ⟨(bd31 (by decide) (by decide) : Bd 31 62089).cmul (bz 1 (by omega) (by omega)) (by decide), ?_⟩
  refine sqm (md_draw m x (z + 1) r) ?_ ?_
  · rintro env ih ⟨c', n, v, rfl, rfl, hc', bn⟩
    simp only [aAnd, aAndV, aAsg, aAsgT, aBk, aC, aCB, aCall, aCallK, aChain, aCons, aCt, aDget, aDispM, aDput, aDrop, aGN, aGcons, aGnil, aGtup, aIE, aIL, aIR1, aIR2, aIT, aIZ, aIf, aIfS, aIsi, aLst, aLstM, aMt, aMt0, aNever, aNil, aNoP, aNot, aNotV, aNx, aOp, aOr, aOrV, aPar, aPar3, aRet, aRetN, aRevD, aRevM, aSeq, aSl, aSmP, aTst, aTup, aUn, aVar, aYes, xAbs, xAdd, xApp, xBools, xEqB, xGcd, xI, xIc, xIdx, xInt, xInts, xIs_nn, xIs_bb, xIs_bn, xIs_in, xIs_sn, xIs_tn, xIs_ln, xLen, xListOf, xListOfM, xMax, xMin, xNeg, xPop, xSl, xSum, xTupleOf, optW, view, asB, onRL, isRL, pick, keyOf, val_cells, val_mixed, val_draws, put_draws, allD, finD, startA, List.map_cons, List.map_nil, List.length_cons, List.length_nil, List.replicate, List.cons_append, List.nil_append, List.append_nil, List.getElem?_cons_zero, List.getElem?_cons_succ, List.set_cons_zero, List.set_cons_succ, Option.join_some, Option.map_some, List.filterMap_cons, List.filterMap_nil, List.take, Nat.sub_self, Nat.add_one_sub_one, Nat.reduceSub, Nat.reduceAdd, List.replicate_zero, isT, atI_0, atI_1, size2, size1, size3, size0, true_and, and_true, Bool.true_eq_false, Bool.false_eq_true, if_true, if_false, ite_true, ite_false, reduceIte, eq_self, ex_app, ex_app2, ite_tt, ite_ft, List.cons.injEq, W.d.injEq, PyData.int.injEq, PyData.tuple.injEq, exists_eq_left', and_assoc, exists_and_left, eqOk_int, eqD_int, eqOk_fr, eqD_fr, eqOk_str, eqD_str, id, lo_ws1, lo_ws2, lo_ws3, Bool.not_true, Bool.not_false, Bool.and_true, Bool.and_false, Bool.true_and, Bool.false_and, Bool.or_true, Bool.or_false, Bool.true_or, Bool.false_or, dk3_len]
    have b1 : Bd 31 40014 := bd31 (by decide) (by decide)
    have b2 : Bd 31 53668 := bd31 (by decide) (by decide)
    have b3 : Bd 31 40692 := bd31 (by decide) (by decide)
    have f1 := fmod_in (n * 40014 + 91) 2147483563 (by decide)
    generalize (n * 40014 + 91).fmod 2147483563 = n1 at f1 ⊢
    have f2 := fmod_in (n1 * n1 + 53668 * (z + 1) + 17) 2147483399 (by decide)
    generalize (n1 * n1 + 53668 * (z + 1) + 17).fmod 2147483399 = n2 at f2 ⊢
    have e1 : Bd 31 n1 := bd31 f1.1 (by omega)
    have e2 : Bd 31 n2 := bd31 f2.1 (by omega)
    have e3 : CDv ((n2 * 40692).fmod 2147483647) 64 := (bd31 (by decide) (by decide) : Bd 31 64).cdv (by decide) (by decide)
    have f3 := fmod_in (((n2 * 40692).fmod 2147483647).fdiv 64) m m0
    exact ⟨bn.cmul b1 (by decide), by decide, e1.cmul e1 (by decide), b2.cmul (bz 1 (by omega) (by omega)) (by decide), by decide, e2.cmul b3 (by decide), by decide, e3, by omega, q _ _ f3.1 f3.2 ⟨c', x, z + 1, rfl, hc', x0, x1, by omega, by omega⟩⟩
  · intro R hR
    have bx : Bd 62 (x + 62089 * (z + 1)) := Bd.of (by omega) (by omega)
    simp only [aAnd, aAndV, aAsg, aAsgT, aBk, aC, aCB, aCall, aCallK, aChain, aCons, aCt, aDget, aDispM, aDput, aDrop, aGN, aGcons, aGnil, aGtup, aIE, aIL, aIR1, aIR2, aIT, aIZ, aIf, aIfS, aIsi, aLst, aLstM, aMt, aMt0, aNever, aNil, aNoP, aNot, aNotV, aNx, aOp, aOr, aOrV, aPar, aPar3, aRet, aRetN, aRevD, aRevM, aSl, aSmP, aTst, aTup, aUn, aVar, aYes, xAbs, xAdd, xApp, xBools, xEqB, xGcd, xI, xIc, xIdx, xInt, xInts, xIs_nn, xIs_bb, xIs_bn, xIs_in, xIs_sn, xIs_tn, xIs_ln, xLen, xListOf, xListOfM, xMax, xMin, xNeg, xPop, xSl, xSum, xTupleOf, optW, view, asB, onRL, isRL, pick, keyOf, val_cells, val_mixed, val_draws, put_draws, allD, finD, startA, List.map_cons, List.map_nil, List.length_cons, List.length_nil, List.replicate, List.cons_append, List.nil_append, List.append_nil, List.getElem?_cons_zero, List.getElem?_cons_succ, List.set_cons_zero, List.set_cons_succ, Option.join_some, Option.map_some, List.filterMap_cons, List.filterMap_nil, List.take, Nat.sub_self, Nat.add_one_sub_one, Nat.reduceSub, Nat.reduceAdd, List.replicate_zero, isT, atI_0, atI_1, size2, size1, size3, size0, true_and, and_true, Bool.true_eq_false, Bool.false_eq_true, if_true, if_false, ite_true, ite_false, reduceIte, eq_self, ex_app, ex_app2, ite_tt, ite_ft, List.cons.injEq, W.d.injEq, PyData.int.injEq, PyData.tuple.injEq, exists_eq_left', and_assoc, exists_and_left, eqOk_int, eqD_int, eqOk_fr, eqD_fr, eqOk_str, eqD_str, id, lo_ws1, lo_ws2, lo_ws3, Bool.not_true, Bool.not_false, Bool.and_true, Bool.and_false, Bool.true_and, Bool.false_and, Bool.or_true, Bool.or_false, Bool.true_or, Bool.false_or, allD_ints, eqOk, shaped_ints, eqD, eqv_nil]
    refine ⟨by decide, ?_⟩
    rcases List.eq_nil_or_concat c with rfl | ⟨c', y, rfl⟩
    · simp only [aAnd, aAndV, aAsg, aAsgT, aBk, aC, aCB, aCall, aCallK, aChain, aCons, aCt, aDget, aDispM, aDput, aDrop, aGN, aGcons, aGnil, aGtup, aIE, aIL, aIR1, aIR2, aIT, aIZ, aIf, aIfS, aIsi, aLst, aLstM, aMt, aMt0, aNever, aNil, aNoP, aNot, aNotV, aNx, aOp, aOr, aOrV, aPar, aPar3, aRet, aRetN, aRevD, aRevM, aSl, aSmP, aTst, aTup, aUn, aVar, aYes, xAbs, xAdd, xApp, xBools, xEqB, xGcd, xI, xIc, xIdx, xInt, xInts, xIs_nn, xIs_bb, xIs_bn, xIs_in, xIs_sn, xIs_tn, xIs_ln, xLen, xListOf, xListOfM, xMax, xMin, xNeg, xPop, xSl, xSum, xTupleOf, optW, view, asB, onRL, isRL, pick, keyOf, val_cells, val_mixed, val_draws, put_draws, allD, finD, startA, List.map_cons, List.map_nil, List.length_cons, List.length_nil, List.replicate, List.cons_append, List.nil_append, List.append_nil, List.getElem?_cons_zero, List.getElem?_cons_succ, List.set_cons_zero, List.set_cons_succ, Option.join_some, Option.map_some, List.filterMap_cons, List.filterMap_nil, List.take, Nat.sub_self, Nat.add_one_sub_one, Nat.reduceSub, Nat.reduceAdd, List.replicate_zero, isT, atI_0, atI_1, size2, size1, size3, size0, true_and, and_true, Bool.true_eq_false, Bool.false_eq_true, if_true, if_false, ite_true, ite_false, reduceIte, eq_self, ex_app, ex_app2, ite_tt, ite_ft, List.cons.injEq, W.d.injEq, PyData.int.injEq, PyData.tuple.injEq, exists_eq_left', and_assoc, exists_and_left, eqOk_int, eqD_int, eqOk_fr, eqD_fr, eqOk_str, eqD_str, id, lo_ws1, lo_ws2, lo_ws3, Bool.not_true, Bool.not_false, Bool.and_true, Bool.and_false, Bool.true_and, Bool.false_and, Bool.or_true, Bool.or_false, Bool.true_or, Bool.false_or, List.isEmpty_nil]
      exact hR _ _ ⟨[], _, _, rfl, rfl, by decide, bx.mono (by decide)⟩
    · rw [List.concat_eq_append] at hc ⊢
      rw [List.length_append] at hc
      have ne : (c' ++ [y]).isEmpty = false := by cases c' <;> rfl
      simp only [ne, Bool.not_false, ite_tt, if_true]
      refine sq ?_
      simp only [aAnd, aAndV, aAsg, aAsgT, aBk, aC, aCB, aCall, aCallK, aChain, aCons, aCt, aDget, aDispM, aDput, aDrop, aGN, aGcons, aGnil, aGtup, aIE, aIL, aIR1, aIR2, aIT, aIZ, aIf, aIfS, aIsi, aLst, aLstM, aMt, aMt0, aNever, aNil, aNoP, aNot, aNotV, aNx, aOp, aOr, aOrV, aPar, aPar3, aRet, aRetN, aRevD, aRevM, aSl, aSmP, aTst, aTup, aUn, aVar, aYes, xAbs, xAdd, xApp, xBools, xEqB, xGcd, xI, xIc, xIdx, xInt, xInts, xIs_nn, xIs_bb, xIs_bn, xIs_in, xIs_sn, xIs_tn, xIs_ln, xLen, xListOf, xListOfM, xMax, xMin, xNeg, xPop, xSl, xSum, xTupleOf, optW, view, asB, onRL, isRL, pick, keyOf, val_cells, val_mixed, val_draws, put_draws, allD, finD, startA, List.map_cons, List.map_nil, List.length_cons, List.length_nil, List.replicate, List.cons_append, List.nil_append, List.append_nil, List.getElem?_cons_zero, List.getElem?_cons_succ, List.set_cons_zero, List.set_cons_succ, Option.join_some, Option.map_some, List.filterMap_cons, List.filterMap_nil, List.take, Nat.sub_self, Nat.add_one_sub_one, Nat.reduceSub, Nat.reduceAdd, List.replicate_zero, isT, atI_0, atI_1, size2, size1, size3, size0, true_and, and_true, Bool.true_eq_false, Bool.false_eq_true, if_true, if_false, ite_true, ite_false, reduceIte, eq_self, ex_app, ex_app2, ite_tt, ite_ft, List.cons.injEq, W.d.injEq, PyData.int.injEq, PyData.tuple.injEq, exists_eq_left', and_assoc, exists_and_left, eqOk_int, eqD_int, eqOk_fr, eqD_fr, eqOk_str, eqD_str, id, lo_ws1, lo_ws2, lo_ws3, Bool.not_true, Bool.not_false, Bool.and_true, Bool.and_false, Bool.true_and, Bool.false_and, Bool.or_true, Bool.or_false, Bool.true_or, Bool.false_or, pop_get, pop_drop, xPop]
      refine sq ?_
      have f0 := fmod_in y 2147483629 (by decide)
      by_cases hy : (1000000000000000000 : Int) ≤ y
      · have e18 : ((10 : Int) ^ (18 : Int).toNat) = 1000000000000000000 := by decide
        have cp : CPow 10 18 := ⟨by decide, by decide, by decide⟩
        have cd : CDv y (if m > 2 then m else 2) := (Bd.of (k := 64) (by split <;> omega) (by split <;> omega) : Bd 64 (if m > 2 then m else 2)).cdv (by split <;> omega) (by decide)
        have l1 : (c'.map fun i => W.d (PyData.int i)).length < sizeLine := by rw [List.length_map]; exact Nat.lt_of_le_of_lt (Nat.le_trans (Nat.le_add_right _ _) hc) (by decide)
        have f3 := fmod_in y m m0
        simp only [aAnd, aAndV, aAsg, aAsgT, aBk, aC, aCB, aCall, aCallK, aChain, aCons, aCt, aDget, aDispM, aDput, aDrop, aGN, aGcons, aGnil, aGtup, aIE, aIL, aIR1, aIR2, aIT, aIZ, aIf, aIfS, aIsi, aLst, aLstM, aMt, aMt0, aNever, aNil, aNoP, aNot, aNotV, aNx, aOp, aOr, aOrV, aPar, aPar3, aRet, aRetN, aRevD, aRevM, aSeq, aSl, aSmP, aTst, aTup, aUn, aVar, aYes, xAbs, xAdd, xApp, xBools, xEqB, xGcd, xI, xIc, xIdx, xInt, xInts, xIs_nn, xIs_bb, xIs_bn, xIs_in, xIs_sn, xIs_tn, xIs_ln, xLen, xListOf, xListOfM, xMax, xMin, xNeg, xPop, xSl, xSum, xTupleOf, optW, view, asB, onRL, isRL, pick, keyOf, val_cells, val_mixed, val_draws, put_draws, allD, finD, startA, List.map_cons, List.map_nil, List.length_cons, List.length_nil, List.replicate, List.cons_append, List.nil_append, List.append_nil, List.getElem?_cons_zero, List.getElem?_cons_succ, List.set_cons_zero, List.set_cons_succ, Option.join_some, Option.map_some, List.filterMap_cons, List.filterMap_nil, List.take, Nat.sub_self, Nat.add_one_sub_one, Nat.reduceSub, Nat.reduceAdd, List.replicate_zero, isT, atI_0, atI_1, size2, size1, size3, size0, true_and, and_true, Bool.true_eq_false, Bool.false_eq_true, if_true, if_false, ite_true, ite_false, reduceIte, eq_self, ex_app, ex_app2, ite_tt, ite_ft, List.cons.injEq, W.d.injEq, PyData.int.injEq, PyData.tuple.injEq, exists_eq_left', and_assoc, exists_and_left, eqOk_int, eqD_int, eqOk_fr, eqD_fr, eqOk_str, eqD_str, id, lo_ws1, lo_ws2, lo_ws3, Bool.not_true, Bool.not_false, Bool.and_true, Bool.and_false, Bool.true_and, Bool.false_and, Bool.or_true, Bool.or_false, Bool.true_or, Bool.false_or, e18, cp, hy, decide_true, xMax, cd, l1]
        refine ⟨by omega, q _ _ f3.1 f3.2 ⟨c' ++ [y.fdiv (if m > 2 then m else 2)], x, z + 1, ?_, by rw [List.length_append]; exact hc, x0, x1, by omega, by omega⟩⟩
        unfold DK dk3
        rw [List.map_append]
        rfl
      · have e18 : ((10 : Int) ^ (18 : Int).toNat) = 1000000000000000000 := by decide
        have cp : CPow 10 18 := ⟨by decide, by decide, by decide⟩
        simp only [aAnd, aAndV, aAsg, aAsgT, aBk, aC, aCB, aCall, aCallK, aChain, aCons, aCt, aDget, aDispM, aDput, aDrop, aGN, aGcons, aGnil, aGtup, aIE, aIL, aIR1, aIR2, aIT, aIZ, aIf, aIfS, aIsi, aLst, aLstM, aMt, aMt0, aNever, aNil, aNoP, aNot, aNotV, aNx, aOp, aOr, aOrV, aPar, aPar3, aRet, aRetN, aRevD, aRevM, aSeq, aSl, aSmP, aTst, aTup, aUn, aVar, aYes, xAbs, xAdd, xApp, xBools, xEqB, xGcd, xI, xIc, xIdx, xInt, xInts, xIs_nn, xIs_bb, xIs_bn, xIs_in, xIs_sn, xIs_tn, xIs_ln, xLen, xListOf, xListOfM, xMax, xMin, xNeg, xPop, xSl, xSum, xTupleOf, optW, view, asB, onRL, isRL, pick, keyOf, val_cells, val_mixed, val_draws, put_draws, allD, finD, startA, List.map_cons, List.map_nil, List.length_cons, List.length_nil, List.replicate, List.cons_append, List.nil_append, List.append_nil, List.getElem?_cons_zero, List.getElem?_cons_succ, List.set_cons_zero, List.set_cons_succ, Option.join_some, Option.map_some, List.filterMap_cons, List.filterMap_nil, List.take, Nat.sub_self, Nat.add_one_sub_one, Nat.reduceSub, Nat.reduceAdd, List.replicate_zero, isT, atI_0, atI_1, size2, size1, size3, size0, true_and, and_true, Bool.true_eq_false, Bool.false_eq_true, if_true, if_false, ite_true, ite_false, reduceIte, eq_self, ex_app, ex_app2, ite_tt, ite_ft, List.cons.injEq, W.d.injEq, PyData.int.injEq, PyData.tuple.injEq, exists_eq_left', and_assoc, exists_and_left, eqOk_int, eqD_int, eqOk_fr, eqD_fr, eqOk_str, eqD_str, id, lo_ws1, lo_ws2, lo_ws3, Bool.not_true, Bool.not_false, Bool.and_true, Bool.and_false, Bool.true_and, Bool.false_and, Bool.or_true, Bool.or_false, Bool.true_or, Bool.false_or, e18, cp, hy, decide_false]
        refine ⟨by decide, hR _ _ ⟨c', _, _, rfl, rfl, by omega, (bx.add ((bd31 f0.1 (by omega)).mono (by decide))).mono (by decide)⟩⟩
theorem ok__law_draw (T : Tx K mg) : Fdf P w K mg base 1 "_law_draw" ["deck", "many"] [] sp__law_draw := T.d__law_draw.fd fun f fd Fn => g__law_draw T Fn
def sp__law_pick : ASp := fun ws ih Q => ∃ (xs : List D) (b : Nat) (r : IH), ws = [.ref 1, .d (.list xs)] ∧ Dk b r ih ∧ b ≤ 1000000 ∧ 0 < xs.length ∧ xs.length < 2 ^ 60 ∧ ∀ x ih2, x ∈ xs → Dk (b + 1) r ih2 → Q (.d x) ih2
theorem g__law_pick (T : Tx K mg) {f : Addr} {fd : FuncData} (Fn : Fun K "_law_pick" "_law_pick" st__law_pick f fd) : FnG P w K mg base 2 f fd ["deck", "some"] sp__law_pick := by
  refine fnG_ofI Fn sc__law_pick (fun cdv => (bv_one (sv_ret (ev_ix (ev_var 1) (evc (ok__law_draw T) (Nat.le_of_ble_eq_true rfl) rfl (av_cons (ev_var 0) (av_cons (ev_callB cv_len rfl T.b_len bt_len (av_cons (ev_var 1) av_nil)) av_nil))))))) fun ws ob Qa hl h => ?_
  obtain ⟨xs, b, r, rfl, hd, hb, h0, h1, q⟩ := h
  simp only [aAnd, aAndV, aAsg, aAsgT, aBk, aC, aCB, aCall, aCallK, aChain, aCons, aCt, aDget, aDispM, aDput, aDrop, aGN, aGcons, aGnil, aGtup, aIE, aIL, aIR1, aIR2, aIT, aIZ, aIf, aIfS, aIsi, aLst, aLstM, aMt, aMt0, aNever, aNil, aNoP, aNot, aNotV, aNx, aOp, aOr, aOrV, aPar, aPar3, aRet, aRetN, aRevD, aRevM, aSeq, aSl, aSmP, aTst, aTup, aUn, aVar, aYes, xAbs, xAdd, xApp, xBools, xEqB, xGcd, xI, xIc, xIdx, xInt, xInts, xIs_nn, xIs_bb, xIs_bn, xIs_in, xIs_sn, xIs_tn, xIs_ln, xLen, xListOf, xListOfM, xMax, xMin, xNeg, xPop, xSl, xSum, xTupleOf, optW, view, asB, onRL, isRL, pick, keyOf, val_cells, val_mixed, val_draws, put_draws, allD, finD, startA, List.map_cons, List.map_nil, List.length_cons, List.length_nil, List.replicate, List.cons_append, List.nil_append, List.append_nil, List.getElem?_cons_zero, List.getElem?_cons_succ, List.set_cons_zero, List.set_cons_succ, Option.join_some, Option.map_some, List.filterMap_cons, List.filterMap_nil, List.take, Nat.sub_self, Nat.add_one_sub_one, Nat.reduceSub, Nat.reduceAdd, List.replicate_zero, isT, atI_0, atI_1, size2, size1, size3, size0, true_and, and_true, Bool.true_eq_false, Bool.false_eq_true, if_true, if_false, ite_true, ite_false, reduceIte, eq_self, ex_app, ex_app2, ite_tt, ite_ft, List.cons.injEq, W.d.injEq, PyData.int.injEq, PyData.tuple.injEq, exists_eq_left', and_assoc, exists_and_left, eqOk_int, eqD_int, eqOk_fr, eqD_fr, eqOk_str, eqD_str, id, lo_ws1, lo_ws2, lo_ws3, Bool.not_true, Bool.not_false, Bool.and_true, Bool.and_false, Bool.true_and, Bool.false_and, Bool.or_true, Bool.or_false, Bool.true_or, Bool.false_or]
  refine ⟨_, _, _, rfl, hd, hb, by omega, by omega, fun k ih2 k0 k1 hd2 => ?_⟩
  obtain ⟨y, hy, hm⟩ := atI_in xs k k0 k1
  simp only [aAnd, aAndV, aAsg, aAsgT, aBk, aC, aCB, aCall, aCallK, aChain, aCons, aCt, aDget, aDispM, aDput, aDrop, aGN, aGcons, aGnil, aGtup, aIE, aIL, aIR1, aIR2, aIT, aIZ, aIf, aIfS, aIsi, aLst, aLstM, aMt, aMt0, aNever, aNil, aNoP, aNot, aNotV, aNx, aOp, aOr, aOrV, aPar, aPar3, aRet, aRetN, aRevD, aRevM, aSeq, aSl, aSmP, aTst, aTup, aUn, aVar, aYes, xAbs, xAdd, xApp, xBools, xEqB, xGcd, xI, xIc, xIdx, xInt, xInts, xIs_nn, xIs_bb, xIs_bn, xIs_in, xIs_sn, xIs_tn, xIs_ln, xLen, xListOf, xListOfM, xMax, xMin, xNeg, xPop, xSl, xSum, xTupleOf, optW, view, asB, onRL, isRL, pick, keyOf, val_cells, val_mixed, val_draws, put_draws, allD, finD, startA, List.map_cons, List.map_nil, List.length_cons, List.length_nil, List.replicate, List.cons_append, List.nil_append, List.append_nil, List.getElem?_cons_zero, List.getElem?_cons_succ, List.set_cons_zero, List.set_cons_succ, Option.join_some, Option.map_some, List.filterMap_cons, List.filterMap_nil, List.take, Nat.sub_self, Nat.add_one_sub_one, Nat.reduceSub, Nat.reduceAdd, List.replicate_zero, isT, atI_0, atI_1, size2, size1, size3, size0, true_and, and_true, Bool.true_eq_false, Bool.false_eq_true, if_true, if_false, ite_true, ite_false, reduceIte, eq_self, ex_app, ex_app2, ite_tt, ite_ft, List.cons.injEq, W.d.injEq, PyData.int.injEq, PyData.tuple.injEq, exists_eq_left', and_assoc, exists_and_left, eqOk_int, eqD_int, eqOk_fr, eqD_fr, eqOk_str, eqD_str, id, lo_ws1, lo_ws2, lo_ws3, Bool.not_true, Bool.not_false, Bool.and_true, Bool.and_false, Bool.true_and, Bool.false_and, Bool.or_true, Bool.or_false, Bool.true_or, Bool.false_or, hy]
  exact q _ _ hm hd2
theorem ok__law_pick (T : Tx K mg) : Fdf P w K mg base 2 "_law_pick" ["deck", "some"] [] sp__law_pick := T.d__law_pick.fd fun f fd Fn => g__law_pick T Fn
def iv_div (a b : Int) (ob : IH) : Nat → En → IH → Prop := fun k env ih => ∃ x y : Int, env = [some (.d (.int x)), some (.d (.int y))] ∧ ih = ob ∧ 0 ≤ x ∧ 0 ≤ y ∧ Nat.gcd x.natAbs y.natAbs = Nat.gcd a.natAbs b.natAbs ∧ y.toNat = k
def sp__law_divisor : ASp := fun ws ih Q => ∃ a b : Int, ws = [.d (.int a), .d (.int b)] ∧ Q (.d (.int ((Nat.gcd a.natAbs b.natAbs : Nat) : Int))) ih
theorem g__law_divisor (T : Tx K mg) {f : Addr} {fd : FuncData} (Fn : Fun K "_law_divisor" "_law_divisor" st__law_divisor f fd) : FnG P w K mg base 1 f fd ["one", "other"] sp__law_divisor := by
  refine fnG_of Fn sc__law_divisor (fun cdv => (bv_cons (sv_par 0 1 (av_cons (ev_callB cv_abs rfl T.b_abs bt_abs (av_cons (ev_var 0) av_nil)) (av_cons (ev_callB cv_abs rfl T.b_abs bt_abs (av_cons (ev_var 1) av_nil)) av_nil)) (hw := fun env h => by cases env; subst h; rfl))
      (bv_cons (sv_while (tv_cmp ov_gt (ev_var 1) ev_int) (bv_one (sv_par 0 1 (av_cons (ev_var 1) (av_cons (ev_op ov_mod (ev_callT cv_int rfl T.b_int bt_int (av_cons (ev_var 0) av_nil)) (ev_var 1)) av_nil)) (hw := fun env h => by cases env; subst h; rfl))))
      (bv_one (sv_ret (ev_var 0)))))) fun ws ob Qa hl h => ?_
  obtain ⟨a, b, rfl, q⟩ := h
  simp only [aAnd, aAndV, aAsg, aAsgT, aBk, aC, aCB, aCall, aCallK, aChain, aCons, aCt, aDget, aDispM, aDput, aDrop, aGN, aGcons, aGnil, aGtup, aIE, aIL, aIR1, aIR2, aIT, aIZ, aIf, aIfS, aIsi, aLst, aLstM, aMt, aMt0, aNever, aNil, aNoP, aNot, aNotV, aNx, aOp, aOr, aOrV, aPar, aPar3, aRet, aRetN, aRevD, aRevM, aSeq, aSl, aSmP, aTst, aTup, aUn, aVar, aYes, xAbs, xAdd, xApp, xBools, xEqB, xGcd, xI, xIc, xIdx, xInt, xInts, xIs_nn, xIs_bb, xIs_bn, xIs_in, xIs_sn, xIs_tn, xIs_ln, xLen, xListOf, xListOfM, xMax, xMin, xNeg, xPop, xSl, xSum, xTupleOf, optW, view, asB, onRL, isRL, pick, keyOf, val_cells, val_mixed, val_draws, put_draws, allD, finD, startA, List.map_cons, List.map_nil, List.length_cons, List.length_nil, List.replicate, List.cons_append, List.nil_append, List.append_nil, List.getElem?_cons_zero, List.getElem?_cons_succ, List.set_cons_zero, List.set_cons_succ, Option.join_some, Option.map_some, List.filterMap_cons, List.filterMap_nil, List.take, Nat.sub_self, Nat.add_one_sub_one, Nat.reduceSub, Nat.reduceAdd, List.replicate_zero, isT, atI_0, atI_1, size2, size1, size3, size0, true_and, and_true, Bool.true_eq_false, Bool.false_eq_true, if_true, if_false, ite_true, ite_false, reduceIte, eq_self, ex_app, ex_app2, ite_tt, ite_ft, List.cons.injEq, W.d.injEq, PyData.int.injEq, PyData.tuple.injEq, exists_eq_left', and_assoc, exists_and_left, eqOk_int, eqD_int, eqOk_fr, eqD_fr, eqOk_str, eqD_str, id, lo_ws1, lo_ws2, lo_ws3, Bool.not_true, Bool.not_false, Bool.and_true, Bool.and_false, Bool.true_and, Bool.false_and, Bool.or_true, Bool.or_false, Bool.true_or, Bool.false_or]
  refine ⟨iv_div a b ob, ⟨_, _, _, rfl, rfl, by split <;> omega, by split <;> omega, ?_, rfl⟩, ?_⟩
  · have e : ∀ i : Int, (if i < 0 then -i else i).natAbs = i.natAbs := fun i => by split <;> omega
    rw [e, e]
  · rintro k env ih ⟨x, y, rfl, rfl, x0, y0, g, rfl⟩
    simp only [aAnd, aAndV, aAsg, aAsgT, aBk, aC, aCB, aCall, aCallK, aChain, aCons, aCt, aDget, aDispM, aDput, aDrop, aGN, aGcons, aGnil, aGtup, aIE, aIL, aIR1, aIR2, aIT, aIZ, aIf, aIfS, aIsi, aLst, aLstM, aMt, aMt0, aNever, aNil, aNoP, aNot, aNotV, aNx, aOp, aOr, aOrV, aPar, aPar3, aRet, aRetN, aRevD, aRevM, aSeq, aSl, aSmP, aTst, aTup, aUn, aVar, aYes, xAbs, xAdd, xApp, xBools, xEqB, xGcd, xI, xIc, xIdx, xInt, xInts, xIs_nn, xIs_bb, xIs_bn, xIs_in, xIs_sn, xIs_tn, xIs_ln, xLen, xListOf, xListOfM, xMax, xMin, xNeg, xPop, xSl, xSum, xTupleOf, optW, view, asB, onRL, isRL, pick, keyOf, val_cells, val_mixed, val_draws, put_draws, allD, finD, startA, List.map_cons, List.map_nil, List.length_cons, List.length_nil, List.replicate, List.cons_append, List.nil_append, List.append_nil, List.getElem?_cons_zero, List.getElem?_cons_succ, List.set_cons_zero, List.set_cons_succ, Option.join_some, Option.map_some, List.filterMap_cons, List.filterMap_nil, List.take, Nat.sub_self, Nat.add_one_sub_one, Nat.reduceSub, Nat.reduceAdd, List.replicate_zero, isT, atI_0, atI_1, size2, size1, size3, size0, true_and, and_true, Bool.true_eq_false, Bool.false_eq_true, if_true, if_false, ite_true, ite_false, reduceIte, eq_self, ex_app, ex_app2, ite_tt, ite_ft, List.cons.injEq, W.d.injEq, PyData.int.injEq, PyData.tuple.injEq, exists_eq_left', and_assoc, exists_and_left, eqOk_int, eqD_int, eqOk_fr, eqD_fr, eqOk_str, eqD_str, id, lo_ws1, lo_ws2, lo_ws3, Bool.not_true, Bool.not_false, Bool.and_true, Bool.and_false, Bool.true_and, Bool.false_and, Bool.or_true, Bool.or_false, Bool.true_or, Bool.false_or]
    by_cases hy : 0 < y
    · simp only [hy, decide_true, ite_tt, if_true]
      have f := fmod_in x y hy
      refine ⟨by omega, (x.fmod y).toNat, by omega, y, x.fmod y, rfl, rfl, by omega, f.1, ?_, rfl⟩
      rw [← g, Int.fmod_eq_emod_of_nonneg _ (by omega)]
      have e : (x % y).natAbs = x.natAbs % y.natAbs := by
        rw [Int.natAbs_emod_of_nonneg x0]
      rw [e, Nat.gcd_comm, Nat.gcd_comm x.natAbs, ← Nat.gcd_rec]
    · simp only [hy, decide_false, ite_ft, Bool.false_eq_true, if_false]
      have hz : y = 0 := by omega
      subst hz
      rw [show (0 : Int).natAbs = 0 from rfl, Nat.gcd_zero_right] at g
      have e : x = ((Nat.gcd a.natAbs b.natAbs : Nat) : Int) := by omega
      rw [e]
      exact q
theorem ok__law_divisor (T : Tx K mg) : Fdf P w K mg base 1 "_law_divisor" ["one", "other"] [] sp__law_divisor := T.d__law_divisor.fd fun f fd Fn => g__law_divisor T Fn
def sp__law_lowest : ASp := fun ws ih Q => ∃ n d : Int, ws = [.d (.int n), .d (.int d)] ∧ d ≠ 0 ∧ Bd 3000 n ∧ Bd 3000 d ∧ ∀ p q, Low n d p q → Q (.d (.tuple [.int p, .int q])) ih
theorem g__law_lowest (T : Tx K mg) {f : Addr} {fd : FuncData} (Fn : Fun K "_law_lowest" "_law_lowest" st__law_lowest f fd) : FnG P w K mg base 2 f fd ["n", "d"] sp__law_lowest := by
  refine fnG_of Fn sc__law_lowest (fun cdv => (bv_cons (sv_set 2 (ev_ifE (tv_cmp ov_gt (ev_var 1) ev_int) (evc (ok__law_divisor T) (Nat.le_of_ble_eq_true rfl) rfl (av_cons (ev_var 0) (av_cons (ev_var 1) av_nil))) (ev_un uv_neg (evc (ok__law_divisor T) (Nat.le_of_ble_eq_true rfl) rfl (av_cons (ev_var 0) (av_cons (ev_var 1) av_nil))))))
      (bv_one (sv_ret (ev_tup (av_cons (ev_op ov_fdiv (ev_var 0) (ev_var 2)) (av_cons (ev_op ov_fdiv (ev_var 1) (ev_var 2)) av_nil))))))) fun ws ob Qa hl h => ?_
  obtain ⟨n, d, rfl, hd, bn, bd, q⟩ := h
  have hg0 : 0 < Nat.gcd n.natAbs d.natAbs := Nat.gcd_pos_of_pos_right _ (by omega)
  have bg : Bd 3000 ((Nat.gcd n.natAbs d.natAbs : Nat) : Int) := bd.le (by rw [Int.natAbs_natCast]; exact Nat.le_of_dvd (by omega) (Nat.gcd_dvd_right _ _))
  simp only [aAnd, aAndV, aAsg, aAsgT, aBk, aC, aCB, aCall, aCallK, aChain, aCons, aCt, aDget, aDispM, aDput, aDrop, aGN, aGcons, aGnil, aGtup, aIE, aIL, aIR1, aIR2, aIT, aIZ, aIf, aIfS, aIsi, aLst, aLstM, aMt, aMt0, aNever, aNil, aNoP, aNot, aNotV, aNx, aOp, aOr, aOrV, aPar, aPar3, aRet, aRetN, aRevD, aRevM, aSeq, aSl, aSmP, aTst, aTup, aUn, aVar, aYes, xAbs, xAdd, xApp, xBools, xEqB, xGcd, xI, xIc, xIdx, xInt, xInts, xIs_nn, xIs_bb, xIs_bn, xIs_in, xIs_sn, xIs_tn, xIs_ln, xLen, xListOf, xListOfM, xMax, xMin, xNeg, xPop, xSl, xSum, xTupleOf, optW, view, asB, onRL, isRL, pick, keyOf, val_cells, val_mixed, val_draws, put_draws, allD, finD, startA, List.map_cons, List.map_nil, List.length_cons, List.length_nil, List.replicate, List.cons_append, List.nil_append, List.append_nil, List.getElem?_cons_zero, List.getElem?_cons_succ, List.set_cons_zero, List.set_cons_succ, Option.join_some, Option.map_some, List.filterMap_cons, List.filterMap_nil, List.take, Nat.sub_self, Nat.add_one_sub_one, Nat.reduceSub, Nat.reduceAdd, List.replicate_zero, isT, atI_0, atI_1, size2, size1, size3, size0, true_and, and_true, Bool.true_eq_false, Bool.false_eq_true, if_true, if_false, ite_true, ite_false, reduceIte, eq_self, ex_app, ex_app2, ite_tt, ite_ft, List.cons.injEq, W.d.injEq, PyData.int.injEq, PyData.tuple.injEq, exists_eq_left', and_assoc, exists_and_left, eqOk_int, eqD_int, eqOk_fr, eqD_fr, eqOk_str, eqD_str, id, lo_ws1, lo_ws2, lo_ws3, Bool.not_true, Bool.not_false, Bool.and_true, Bool.and_false, Bool.true_and, Bool.false_and, Bool.or_true, Bool.or_false, Bool.true_or, Bool.false_or, sp__law_divisor]
  split
  · rename_i h1
    exact ⟨bg.cdv (by omega) (by decide), bg.cdv (by omega) (by decide), q _ _ (low_mk hd (by rw [if_pos (of_decide_eq_true h1)]))⟩
  · rename_i h1
    exact ⟨bg.neg.cdv (by omega) (by decide), bg.neg.cdv (by omega) (by decide), q _ _ (low_mk hd (by rw [if_neg fun z => h1 (decide_eq_true z)]))⟩
theorem ok__law_lowest (T : Tx K mg) : Fdf P w K mg base 2 "_law_lowest" ["n", "d"] [] sp__law_lowest := T.d__law_lowest.fd fun f fd Fn => g__law_lowest T Fn
def sp__law_same (n : Nat) : ASp := fun ws ih Q => ∃ x : D, ws = [.d x, .d x] ∧ sameOk n x = true ∧ Q (.d (.bool true)) ih
theorem nil__law_same (ws : List W) (ih : IH) (Q : QW) : ¬ sp__law_same 0 ws ih Q := fun ⟨x, _, h, _⟩ => by simp [sameOk] at h

theorem rc__law_same (T : Tx K mg) : ∀ n : Nat, Fdf P w K mg base n "_law_same" ["told", "due"] [] (sp__law_same n)
  | 0 => Df.none T.d__law_same fun ws ih Q => nil__law_same ws ih Q
  | n + 1 => T.d__law_same.fd fun f fd Fn => by
    have ih := rc__law_same T n
    refine fnG_of Fn sc__law_same (fun cdv => (bv_cons (sv_if (tv_val (ev_isi2 .tuple .list (ev_var 1) rfl T.b_isinstance rfl T.b_tuple bt_tuple rfl T.b_list bt_list bt_isinstance)) (bv_cons (sv_if (WV.tv (wv_or (tv_cmp ov_ne (ev_isi .tuple (ev_var 0) rfl T.b_isinstance rfl T.b_tuple bt_tuple bt_isinstance) (ev_isi .tuple (ev_var 1) rfl T.b_isinstance rfl T.b_tuple bt_tuple bt_isinstance)) (wv_or1 (tv_cmp ov_ne (ev_isi .list (ev_var 0) rfl T.b_isinstance rfl T.b_list bt_list bt_isinstance) (ev_isi .list (ev_var 1) rfl T.b_isinstance rfl T.b_list bt_list bt_isinstance))))) (bv_one (sv_ret ev_bl)) bv_nil)
      (bv_one (sv_ret (ev_and (ev_cmp ov_eq (ev_callB cv_len rfl T.b_len bt_len (av_cons (ev_var 0) av_nil)) (ev_callB cv_len rfl T.b_len bt_len (av_cons (ev_var 1) av_nil))) (ev_one (ev_cmp ov_eq (ev_lc [("x", 2), ("y", 3)] (iv_zip (av_cons (ev_var 0) (av_cons (ev_var 1) av_nil)) rfl T.b_zip) (by show blkC ["told", "due", "x", "y"] (defScope st__law_same) _ _ = true; decide +kernel) (gw_tup (n := 2) (gws_cons (gw_name 2) (gws_cons (gw_name 3) gws_nil))) (tvs_one (tv_not (tv_val (evc ih (Nat.le_refl _) rfl (av_cons (ev_var 2) (av_cons (ev_var 3) av_nil)))))) ev_int) (ev_lst av_nil))))))) bv_nil)
      (bv_cons (sv_if (WV.tv (wv_or (tv_val (ev_isi .bool (ev_var 1) rfl T.b_isinstance rfl T.b_bool bt_bool bt_isinstance)) (wv_or1 (tv_cmp ov_is (ev_var 1) ev_non)))) (bv_one (sv_ret (ev_ifE (tv_cmp ov_is (ev_var 1) ev_bl) (ev_cmp ov_is (ev_var 0) ev_bl) (ev_ifE (tv_cmp ov_is (ev_var 1) ev_bl) (ev_cmp ov_is (ev_var 0) ev_bl) (ev_cmp ov_is (ev_var 0) ev_non))))) bv_nil)
      (bv_cons (sv_if (tv_val (ev_isi .str (ev_var 1) rfl T.b_isinstance rfl T.b_str bt_str bt_isinstance)) (bv_one (sv_ret (ev_and (ev_isi .str (ev_var 0) rfl T.b_isinstance rfl T.b_str bt_str bt_isinstance) (ev_one (ev_cmp ov_eq (ev_var 0) (ev_var 1)))))) bv_nil)
      (bv_one (sv_ret (ev_and (ev_isi .int (ev_var 0) rfl T.b_isinstance rfl T.b_int bt_int bt_isinstance) (ev_and (ev_not (ev_isi .bool (ev_var 0) rfl T.b_isinstance rfl T.b_bool bt_bool bt_isinstance)) (ev_one (ev_cmp ov_eq (ev_var 0) (ev_var 1))))))))))) fun ws ob Qa hl h => ?_
    obtain ⟨x, rfl, hx, q⟩ := h
    cases x with
    | none => cases hx
    | bool b =>
      cases b
      · simp only [aAnd, aAndV, aAsg, aAsgT, aBk, aC, aCB, aCall, aCallK, aChain, aCons, aCt, aDget, aDispM, aDput, aDrop, aGN, aGcons, aGnil, aGtup, aIE, aIL, aIR1, aIR2, aIT, aIZ, aIf, aIfS, aIsi, aLst, aLstM, aMt, aMt0, aNever, aNil, aNoP, aNot, aNotV, aNx, aOp, aOr, aOrV, aPar, aPar3, aRet, aRetN, aRevD, aRevM, aSeq, aSl, aSmP, aTst, aTup, aUn, aVar, aYes, xAbs, xAdd, xApp, xBools, xEqB, xGcd, xI, xIc, xIdx, xInt, xInts, xIs_nn, xIs_bb, xIs_bn, xIs_in, xIs_sn, xIs_tn, xIs_ln, xLen, xListOf, xListOfM, xMax, xMin, xNeg, xPop, xSl, xSum, xTupleOf, optW, view, asB, onRL, isRL, pick, keyOf, val_cells, val_mixed, val_draws, put_draws, allD, finD, startA, List.map_cons, List.map_nil, List.length_cons, List.length_nil, List.replicate, List.cons_append, List.nil_append, List.append_nil, List.getElem?_cons_zero, List.getElem?_cons_succ, List.set_cons_zero, List.set_cons_succ, Option.join_some, Option.map_some, List.filterMap_cons, List.filterMap_nil, List.take, Nat.sub_self, Nat.add_one_sub_one, Nat.reduceSub, Nat.reduceAdd, List.replicate_zero, isT, atI_0, atI_1, size2, size1, size3, size0, true_and, and_true, Bool.true_eq_false, Bool.false_eq_true, if_true, if_false, ite_true, ite_false, reduceIte, eq_self, ex_app, ex_app2, ite_tt, ite_ft, List.cons.injEq, W.d.injEq, PyData.int.injEq, PyData.tuple.injEq, exists_eq_left', and_assoc, exists_and_left, eqOk_int, eqD_int, eqOk_fr, eqD_fr, eqOk_str, eqD_str, id, lo_ws1, lo_ws2, lo_ws3, Bool.not_true, Bool.not_false, Bool.and_true, Bool.and_false, Bool.true_and, Bool.false_and, Bool.or_true, Bool.or_false, Bool.true_or, Bool.false_or, decide_true, decide_false]
        exact q
      · simp only [aAnd, aAndV, aAsg, aAsgT, aBk, aC, aCB, aCall, aCallK, aChain, aCons, aCt, aDget, aDispM, aDput, aDrop, aGN, aGcons, aGnil, aGtup, aIE, aIL, aIR1, aIR2, aIT, aIZ, aIf, aIfS, aIsi, aLst, aLstM, aMt, aMt0, aNever, aNil, aNoP, aNot, aNotV, aNx, aOp, aOr, aOrV, aPar, aPar3, aRet, aRetN, aRevD, aRevM, aSeq, aSl, aSmP, aTst, aTup, aUn, aVar, aYes, xAbs, xAdd, xApp, xBools, xEqB, xGcd, xI, xIc, xIdx, xInt, xInts, xIs_nn, xIs_bb, xIs_bn, xIs_in, xIs_sn, xIs_tn, xIs_ln, xLen, xListOf, xListOfM, xMax, xMin, xNeg, xPop, xSl, xSum, xTupleOf, optW, view, asB, onRL, isRL, pick, keyOf, val_cells, val_mixed, val_draws, put_draws, allD, finD, startA, List.map_cons, List.map_nil, List.length_cons, List.length_nil, List.replicate, List.cons_append, List.nil_append, List.append_nil, List.getElem?_cons_zero, List.getElem?_cons_succ, List.set_cons_zero, List.set_cons_succ, Option.join_some, Option.map_some, List.filterMap_cons, List.filterMap_nil, List.take, Nat.sub_self, Nat.add_one_sub_one, Nat.reduceSub, Nat.reduceAdd, List.replicate_zero, isT, atI_0, atI_1, size2, size1, size3, size0, true_and, and_true, Bool.true_eq_false, Bool.false_eq_true, if_true, if_false, ite_true, ite_false, reduceIte, eq_self, ex_app, ex_app2, ite_tt, ite_ft, List.cons.injEq, W.d.injEq, PyData.int.injEq, PyData.tuple.injEq, exists_eq_left', and_assoc, exists_and_left, eqOk_int, eqD_int, eqOk_fr, eqD_fr, eqOk_str, eqD_str, id, lo_ws1, lo_ws2, lo_ws3, Bool.not_true, Bool.not_false, Bool.and_true, Bool.and_false, Bool.true_and, Bool.false_and, Bool.or_true, Bool.or_false, Bool.true_or, Bool.false_or, decide_true, decide_false]
        exact q
    | int i =>
      simp only [aAnd, aAndV, aAsg, aAsgT, aBk, aC, aCB, aCall, aCallK, aChain, aCons, aCt, aDget, aDispM, aDput, aDrop, aGN, aGcons, aGnil, aGtup, aIE, aIL, aIR1, aIR2, aIT, aIZ, aIf, aIfS, aIsi, aLst, aLstM, aMt, aMt0, aNever, aNil, aNoP, aNot, aNotV, aNx, aOp, aOr, aOrV, aPar, aPar3, aRet, aRetN, aRevD, aRevM, aSeq, aSl, aSmP, aTst, aTup, aUn, aVar, aYes, xAbs, xAdd, xApp, xBools, xEqB, xGcd, xI, xIc, xIdx, xInt, xInts, xIs_nn, xIs_bb, xIs_bn, xIs_in, xIs_sn, xIs_tn, xIs_ln, xLen, xListOf, xListOfM, xMax, xMin, xNeg, xPop, xSl, xSum, xTupleOf, optW, view, asB, onRL, isRL, pick, keyOf, val_cells, val_mixed, val_draws, put_draws, allD, finD, startA, List.map_cons, List.map_nil, List.length_cons, List.length_nil, List.replicate, List.cons_append, List.nil_append, List.append_nil, List.getElem?_cons_zero, List.getElem?_cons_succ, List.set_cons_zero, List.set_cons_succ, Option.join_some, Option.map_some, List.filterMap_cons, List.filterMap_nil, List.take, Nat.sub_self, Nat.add_one_sub_one, Nat.reduceSub, Nat.reduceAdd, List.replicate_zero, isT, atI_0, atI_1, size2, size1, size3, size0, true_and, and_true, Bool.true_eq_false, Bool.false_eq_true, if_true, if_false, ite_true, ite_false, reduceIte, eq_self, ex_app, ex_app2, ite_tt, ite_ft, List.cons.injEq, W.d.injEq, PyData.int.injEq, PyData.tuple.injEq, exists_eq_left', and_assoc, exists_and_left, eqOk_int, eqD_int, eqOk_fr, eqD_fr, eqOk_str, eqD_str, id, lo_ws1, lo_ws2, lo_ws3, Bool.not_true, Bool.not_false, Bool.and_true, Bool.and_false, Bool.true_and, Bool.false_and, Bool.or_true, Bool.or_false, Bool.true_or, Bool.false_or, xEqB, eqOk_bool, eqD_bool, decide_true]
      exact q
    | str i =>
      simp only [aAnd, aAndV, aAsg, aAsgT, aBk, aC, aCB, aCall, aCallK, aChain, aCons, aCt, aDget, aDispM, aDput, aDrop, aGN, aGcons, aGnil, aGtup, aIE, aIL, aIR1, aIR2, aIT, aIZ, aIf, aIfS, aIsi, aLst, aLstM, aMt, aMt0, aNever, aNil, aNoP, aNot, aNotV, aNx, aOp, aOr, aOrV, aPar, aPar3, aRet, aRetN, aRevD, aRevM, aSeq, aSl, aSmP, aTst, aTup, aUn, aVar, aYes, xAbs, xAdd, xApp, xBools, xEqB, xGcd, xI, xIc, xIdx, xInt, xInts, xIs_nn, xIs_bb, xIs_bn, xIs_in, xIs_sn, xIs_tn, xIs_ln, xLen, xListOf, xListOfM, xMax, xMin, xNeg, xPop, xSl, xSum, xTupleOf, optW, view, asB, onRL, isRL, pick, keyOf, val_cells, val_mixed, val_draws, put_draws, allD, finD, startA, List.map_cons, List.map_nil, List.length_cons, List.length_nil, List.replicate, List.cons_append, List.nil_append, List.append_nil, List.getElem?_cons_zero, List.getElem?_cons_succ, List.set_cons_zero, List.set_cons_succ, Option.join_some, Option.map_some, List.filterMap_cons, List.filterMap_nil, List.take, Nat.sub_self, Nat.add_one_sub_one, Nat.reduceSub, Nat.reduceAdd, List.replicate_zero, isT, atI_0, atI_1, size2, size1, size3, size0, true_and, and_true, Bool.true_eq_false, Bool.false_eq_true, if_true, if_false, ite_true, ite_false, reduceIte, eq_self, ex_app, ex_app2, ite_tt, ite_ft, List.cons.injEq, W.d.injEq, PyData.int.injEq, PyData.tuple.injEq, exists_eq_left', and_assoc, exists_and_left, eqOk_int, eqD_int, eqOk_fr, eqD_fr, eqOk_str, eqD_str, id, lo_ws1, lo_ws2, lo_ws3, Bool.not_true, Bool.not_false, Bool.and_true, Bool.and_false, Bool.true_and, Bool.false_and, Bool.or_true, Bool.or_false, Bool.true_or, Bool.false_or, xEqB, eqOk_bool, eqD_bool, decide_true]
      exact q
    | tuple xs =>
      simp only [sameOk, Bool.and_eq_true, decide_eq_true_eq, List.all_eq_true] at hx
      simp only [aAnd, aAndV, aAsg, aAsgT, aBk, aC, aCB, aCall, aCallK, aChain, aCons, aCt, aDget, aDispM, aDput, aDrop, aGN, aGcons, aGnil, aGtup, aIE, aIL, aIR1, aIR2, aIT, aIZ, aIf, aIfS, aIsi, aLst, aLstM, aMt, aMt0, aNever, aNil, aNoP, aNot, aNotV, aNx, aOp, aOr, aOrV, aPar, aPar3, aRet, aRetN, aRevD, aRevM, aSeq, aSl, aSmP, aTst, aTup, aUn, aVar, aYes, xAbs, xAdd, xApp, xBools, xEqB, xGcd, xI, xIc, xIdx, xInt, xInts, xIs_nn, xIs_bb, xIs_bn, xIs_in, xIs_sn, xIs_tn, xIs_ln, xLen, xListOf, xListOfM, xMax, xMin, xNeg, xPop, xSl, xSum, xTupleOf, optW, view, asB, onRL, isRL, pick, keyOf, val_cells, val_mixed, val_draws, put_draws, allD, finD, startA, List.map_cons, List.map_nil, List.length_cons, List.length_nil, List.replicate, List.cons_append, List.nil_append, List.append_nil, List.getElem?_cons_zero, List.getElem?_cons_succ, List.set_cons_zero, List.set_cons_succ, Option.join_some, Option.map_some, List.filterMap_cons, List.filterMap_nil, List.take, Nat.sub_self, Nat.add_one_sub_one, Nat.reduceSub, Nat.reduceAdd, List.replicate_zero, isT, atI_0, atI_1, size2, size1, size3, size0, true_and, and_true, Bool.true_eq_false, Bool.false_eq_true, if_true, if_false, ite_true, ite_false, reduceIte, eq_self, ex_app, ex_app2, ite_tt, ite_ft, List.cons.injEq, W.d.injEq, PyData.int.injEq, PyData.tuple.injEq, exists_eq_left', and_assoc, exists_and_left, eqOk_int, eqD_int, eqOk_fr, eqD_fr, eqOk_str, eqD_str, id, lo_ws1, lo_ws2, lo_ws3, Bool.not_true, Bool.not_false, Bool.and_true, Bool.and_false, Bool.true_and, Bool.false_and, Bool.or_true, Bool.or_false, Bool.true_or, Bool.false_or, aLc, xEqB, eqOk_bool, eqD_bool, decide_true]
      refine ⟨fun i acc ih => acc = [] ∧ ih = ob, ⟨rfl, rfl⟩, ?_, ?_, ?_⟩
      · rintro i d acc ih2 hd ⟨rfl, rfl⟩ _
        obtain ⟨y, hy, rfl⟩ := zipD_self hd
        simp only [aAnd, aAndV, aAsg, aAsgT, aBk, aC, aCB, aCall, aCallK, aChain, aCons, aCt, aDget, aDispM, aDput, aDrop, aGN, aGcons, aGnil, aGtup, aIE, aIL, aIR1, aIR2, aIT, aIZ, aIf, aIfS, aIsi, aLst, aLstM, aMt, aMt0, aNever, aNil, aNoP, aNot, aNotV, aNx, aOp, aOr, aOrV, aPar, aPar3, aRet, aRetN, aRevD, aRevM, aSeq, aSl, aSmP, aTst, aTup, aUn, aVar, aYes, xAbs, xAdd, xApp, xBools, xEqB, xGcd, xI, xIc, xIdx, xInt, xInts, xIs_nn, xIs_bb, xIs_bn, xIs_in, xIs_sn, xIs_tn, xIs_ln, xLen, xListOf, xListOfM, xMax, xMin, xNeg, xPop, xSl, xSum, xTupleOf, optW, view, asB, onRL, isRL, pick, keyOf, val_cells, val_mixed, val_draws, put_draws, allD, finD, startA, List.map_cons, List.map_nil, List.length_cons, List.length_nil, List.replicate, List.cons_append, List.nil_append, List.append_nil, List.getElem?_cons_zero, List.getElem?_cons_succ, List.set_cons_zero, List.set_cons_succ, Option.join_some, Option.map_some, List.filterMap_cons, List.filterMap_nil, List.take, Nat.sub_self, Nat.add_one_sub_one, Nat.reduceSub, Nat.reduceAdd, List.replicate_zero, isT, atI_0, atI_1, size2, size1, size3, size0, true_and, and_true, Bool.true_eq_false, Bool.false_eq_true, if_true, if_false, ite_true, ite_false, reduceIte, eq_self, ex_app, ex_app2, ite_tt, ite_ft, List.cons.injEq, W.d.injEq, PyData.int.injEq, PyData.tuple.injEq, exists_eq_left', and_assoc, exists_and_left, eqOk_int, eqD_int, eqOk_fr, eqD_fr, eqOk_str, eqD_str, id, lo_ws1, lo_ws2, lo_ws3, Bool.not_true, Bool.not_false, Bool.and_true, Bool.and_false, Bool.true_and, Bool.false_and, Bool.or_true, Bool.or_false, Bool.true_or, Bool.false_or, wipeA]
        refine ⟨y, rfl, hx.1 y (List.mem_of_getElem? hy), ?_⟩
        simp only [aAnd, aAndV, aAsg, aAsgT, aBk, aC, aCB, aCall, aCallK, aChain, aCons, aCt, aDget, aDispM, aDput, aDrop, aGN, aGcons, aGnil, aGtup, aIE, aIL, aIR1, aIR2, aIT, aIZ, aIf, aIfS, aIsi, aLst, aLstM, aMt, aMt0, aNever, aNil, aNoP, aNot, aNotV, aNx, aOp, aOr, aOrV, aPar, aPar3, aRet, aRetN, aRevD, aRevM, aSeq, aSl, aSmP, aTst, aTup, aUn, aVar, aYes, xAbs, xAdd, xApp, xBools, xEqB, xGcd, xI, xIc, xIdx, xInt, xInts, xIs_nn, xIs_bb, xIs_bn, xIs_in, xIs_sn, xIs_tn, xIs_ln, xLen, xListOf, xListOfM, xMax, xMin, xNeg, xPop, xSl, xSum, xTupleOf, optW, view, asB, onRL, isRL, pick, keyOf, val_cells, val_mixed, val_draws, put_draws, allD, finD, startA, List.map_cons, List.map_nil, List.length_cons, List.length_nil, List.replicate, List.cons_append, List.nil_append, List.append_nil, List.getElem?_cons_zero, List.getElem?_cons_succ, List.set_cons_zero, List.set_cons_succ, Option.join_some, Option.map_some, List.filterMap_cons, List.filterMap_nil, List.take, Nat.sub_self, Nat.add_one_sub_one, Nat.reduceSub, Nat.reduceAdd, List.replicate_zero, isT, atI_0, atI_1, size2, size1, size3, size0, true_and, and_true, Bool.true_eq_false, Bool.false_eq_true, if_true, if_false, ite_true, ite_false, reduceIte, eq_self, ex_app, ex_app2, ite_tt, ite_ft, List.cons.injEq, W.d.injEq, PyData.int.injEq, PyData.tuple.injEq, exists_eq_left', and_assoc, exists_and_left, eqOk_int, eqD_int, eqOk_fr, eqD_fr, eqOk_str, eqD_str, id, lo_ws1, lo_ws2, lo_ws3, Bool.not_true, Bool.not_false, Bool.and_true, Bool.and_false, Bool.true_and, Bool.false_and, Bool.or_true, Bool.or_false, Bool.true_or, Bool.false_or]
      · rw [zipD_len, Nat.min_self]
        exact Nat.le_trans hx.2 (by decide)
      · rintro acc ih2 _ ⟨rfl, rfl⟩
        exact ⟨⟨rfl, rfl⟩, ⟨[], (List.append_nil _).symm⟩, q⟩
    | list xs =>
      simp only [sameOk, Bool.and_eq_true, decide_eq_true_eq, List.all_eq_true] at hx
      simp only [aAnd, aAndV, aAsg, aAsgT, aBk, aC, aCB, aCall, aCallK, aChain, aCons, aCt, aDget, aDispM, aDput, aDrop, aGN, aGcons, aGnil, aGtup, aIE, aIL, aIR1, aIR2, aIT, aIZ, aIf, aIfS, aIsi, aLst, aLstM, aMt, aMt0, aNever, aNil, aNoP, aNot, aNotV, aNx, aOp, aOr, aOrV, aPar, aPar3, aRet, aRetN, aRevD, aRevM, aSeq, aSl, aSmP, aTst, aTup, aUn, aVar, aYes, xAbs, xAdd, xApp, xBools, xEqB, xGcd, xI, xIc, xIdx, xInt, xInts, xIs_nn, xIs_bb, xIs_bn, xIs_in, xIs_sn, xIs_tn, xIs_ln, xLen, xListOf, xListOfM, xMax, xMin, xNeg, xPop, xSl, xSum, xTupleOf, optW, view, asB, onRL, isRL, pick, keyOf, val_cells, val_mixed, val_draws, put_draws, allD, finD, startA, List.map_cons, List.map_nil, List.length_cons, List.length_nil, List.replicate, List.cons_append, List.nil_append, List.append_nil, List.getElem?_cons_zero, List.getElem?_cons_succ, List.set_cons_zero, List.set_cons_succ, Option.join_some, Option.map_some, List.filterMap_cons, List.filterMap_nil, List.take, Nat.sub_self, Nat.add_one_sub_one, Nat.reduceSub, Nat.reduceAdd, List.replicate_zero, isT, atI_0, atI_1, size2, size1, size3, size0, true_and, and_true, Bool.true_eq_false, Bool.false_eq_true, if_true, if_false, ite_true, ite_false, reduceIte, eq_self, ex_app, ex_app2, ite_tt, ite_ft, List.cons.injEq, W.d.injEq, PyData.int.injEq, PyData.tuple.injEq, exists_eq_left', and_assoc, exists_and_left, eqOk_int, eqD_int, eqOk_fr, eqD_fr, eqOk_str, eqD_str, id, lo_ws1, lo_ws2, lo_ws3, Bool.not_true, Bool.not_false, Bool.and_true, Bool.and_false, Bool.true_and, Bool.false_and, Bool.or_true, Bool.or_false, Bool.true_or, Bool.false_or, aLc, xEqB, eqOk_bool, eqD_bool, decide_true]
      refine ⟨fun i acc ih => acc = [] ∧ ih = ob, ⟨rfl, rfl⟩, ?_, ?_, ?_⟩
      · rintro i d acc ih2 hd ⟨rfl, rfl⟩ _
        obtain ⟨y, hy, rfl⟩ := zipD_self hd
        simp only [aAnd, aAndV, aAsg, aAsgT, aBk, aC, aCB, aCall, aCallK, aChain, aCons, aCt, aDget, aDispM, aDput, aDrop, aGN, aGcons, aGnil, aGtup, aIE, aIL, aIR1, aIR2, aIT, aIZ, aIf, aIfS, aIsi, aLst, aLstM, aMt, aMt0, aNever, aNil, aNoP, aNot, aNotV, aNx, aOp, aOr, aOrV, aPar, aPar3, aRet, aRetN, aRevD, aRevM, aSeq, aSl, aSmP, aTst, aTup, aUn, aVar, aYes, xAbs, xAdd, xApp, xBools, xEqB, xGcd, xI, xIc, xIdx, xInt, xInts, xIs_nn, xIs_bb, xIs_bn, xIs_in, xIs_sn, xIs_tn, xIs_ln, xLen, xListOf, xListOfM, xMax, xMin, xNeg, xPop, xSl, xSum, xTupleOf, optW, view, asB, onRL, isRL, pick, keyOf, val_cells, val_mixed, val_draws, put_draws, allD, finD, startA, List.map_cons, List.map_nil, List.length_cons, List.length_nil, List.replicate, List.cons_append, List.nil_append, List.append_nil, List.getElem?_cons_zero, List.getElem?_cons_succ, List.set_cons_zero, List.set_cons_succ, Option.join_some, Option.map_some, List.filterMap_cons, List.filterMap_nil, List.take, Nat.sub_self, Nat.add_one_sub_one, Nat.reduceSub, Nat.reduceAdd, List.replicate_zero, isT, atI_0, atI_1, size2, size1, size3, size0, true_and, and_true, Bool.true_eq_false, Bool.false_eq_true, if_true, if_false, ite_true, ite_false, reduceIte, eq_self, ex_app, ex_app2, ite_tt, ite_ft, List.cons.injEq, W.d.injEq, PyData.int.injEq, PyData.tuple.injEq, exists_eq_left', and_assoc, exists_and_left, eqOk_int, eqD_int, eqOk_fr, eqD_fr, eqOk_str, eqD_str, id, lo_ws1, lo_ws2, lo_ws3, Bool.not_true, Bool.not_false, Bool.and_true, Bool.and_false, Bool.true_and, Bool.false_and, Bool.or_true, Bool.or_false, Bool.true_or, Bool.false_or, wipeA]
        refine ⟨y, rfl, hx.1 y (List.mem_of_getElem? hy), ?_⟩
        simp only [aAnd, aAndV, aAsg, aAsgT, aBk, aC, aCB, aCall, aCallK, aChain, aCons, aCt, aDget, aDispM, aDput, aDrop, aGN, aGcons, aGnil, aGtup, aIE, aIL, aIR1, aIR2, aIT, aIZ, aIf, aIfS, aIsi, aLst, aLstM, aMt, aMt0, aNever, aNil, aNoP, aNot, aNotV, aNx, aOp, aOr, aOrV, aPar, aPar3, aRet, aRetN, aRevD, aRevM, aSeq, aSl, aSmP, aTst, aTup, aUn, aVar, aYes, xAbs, xAdd, xApp, xBools, xEqB, xGcd, xI, xIc, xIdx, xInt, xInts, xIs_nn, xIs_bb, xIs_bn, xIs_in, xIs_sn, xIs_tn, xIs_ln, xLen, xListOf, xListOfM, xMax, xMin, xNeg, xPop, xSl, xSum, xTupleOf, optW, view, asB, onRL, isRL, pick, keyOf, val_cells, val_mixed, val_draws, put_draws, allD, finD, startA, List.map_cons, List.map_nil, List.length_cons, List.length_nil, List.replicate, List.cons_append, List.nil_append, List.append_nil, List.getElem?_cons_zero, List.getElem?_cons_succ, List.set_cons_zero, List.set_cons_succ, Option.join_some, Option.map_some, List.filterMap_cons, List.filterMap_nil, List.take, Nat.sub_self, Nat.add_one_sub_one, Nat.reduceSub, Nat.reduceAdd, List.replicate_zero, isT, atI_0, atI_1, size2, size1, size3, size0, true_and, and_true, Bool.true_eq_false, Bool.false_eq_true, if_true, if_false, ite_true, ite_false, reduceIte, eq_self, ex_app, ex_app2, ite_tt, ite_ft, List.cons.injEq, W.d.injEq, PyData.int.injEq, PyData.tuple.injEq, exists_eq_left', and_assoc, exists_and_left, eqOk_int, eqD_int, eqOk_fr, eqD_fr, eqOk_str, eqD_str, id, lo_ws1, lo_ws2, lo_ws3, Bool.not_true, Bool.not_false, Bool.and_true, Bool.and_false, Bool.true_and, Bool.false_and, Bool.or_true, Bool.or_false, Bool.true_or, Bool.false_or]
      · rw [zipD_len, Nat.min_self]
        exact Nat.le_trans hx.2 (by decide)
      · rintro acc ih2 _ ⟨rfl, rfl⟩
        exact ⟨⟨rfl, rfl⟩, ⟨[], (List.append_nil _).symm⟩, q⟩
    | dict i => cases hx
theorem ok__law_same (T : Tx K mg) : Fdf P w K mg base 8 "_law_same" ["told", "due"] [] (sp__law_same 8) := rc__law_same T 8
def sp__law_is_int : ASp := fun ws ih Q => ∃ x : Int, ws = [.d (.int x)] ∧ Q (.d (.bool true)) ih
theorem g__law_is_int (T : Tx K mg) {f : Addr} {fd : FuncData} (Fn : Fun K "_law_is_int" "_law_is_int" st__law_is_int f fd) : FnG P w K mg base 1 f fd ["thing"] sp__law_is_int := by
  refine fnG_of Fn sc__law_is_int (fun cdv => (bv_one (sv_ret (ev_and (ev_isi .int (ev_var 0) rfl T.b_isinstance rfl T.b_int bt_int bt_isinstance) (ev_one (ev_not (ev_isi .bool (ev_var 0) rfl T.b_isinstance rfl T.b_bool bt_bool bt_isinstance))))))) fun ws ob Qa hl h => ?_
  obtain ⟨x, rfl, q⟩ := h
  simp only [aAnd, aAndV, aAsg, aAsgT, aBk, aC, aCB, aCall, aCallK, aChain, aCons, aCt, aDget, aDispM, aDput, aDrop, aGN, aGcons, aGnil, aGtup, aIE, aIL, aIR1, aIR2, aIT, aIZ, aIf, aIfS, aIsi, aLst, aLstM, aMt, aMt0, aNever, aNil, aNoP, aNot, aNotV, aNx, aOp, aOr, aOrV, aPar, aPar3, aRet, aRetN, aRevD, aRevM, aSeq, aSl, aSmP, aTst, aTup, aUn, aVar, aYes, xAbs, xAdd, xApp, xBools, xEqB, xGcd, xI, xIc, xIdx, xInt, xInts, xIs_nn, xIs_bb, xIs_bn, xIs_in, xIs_sn, xIs_tn, xIs_ln, xLen, xListOf, xListOfM, xMax, xMin, xNeg, xPop, xSl, xSum, xTupleOf, optW, view, asB, onRL, isRL, pick, keyOf, val_cells, val_mixed, val_draws, put_draws, allD, finD, startA, List.map_cons, List.map_nil, List.length_cons, List.length_nil, List.replicate, List.cons_append, List.nil_append, List.append_nil, List.getElem?_cons_zero, List.getElem?_cons_succ, List.set_cons_zero, List.set_cons_succ, Option.join_some, Option.map_some, List.filterMap_cons, List.filterMap_nil, List.take, Nat.sub_self, Nat.add_one_sub_one, Nat.reduceSub, Nat.reduceAdd, List.replicate_zero, isT, atI_0, atI_1, size2, size1, size3, size0, true_and, and_true, Bool.true_eq_false, Bool.false_eq_true, if_true, if_false, ite_true, ite_false, reduceIte, eq_self, ex_app, ex_app2, ite_tt, ite_ft, List.cons.injEq, W.d.injEq, PyData.int.injEq, PyData.tuple.injEq, exists_eq_left', and_assoc, exists_and_left, eqOk_int, eqD_int, eqOk_fr, eqD_fr, eqOk_str, eqD_str, id, lo_ws1, lo_ws2, lo_ws3, Bool.not_true, Bool.not_false, Bool.and_true, Bool.and_false, Bool.true_and, Bool.false_and, Bool.or_true, Bool.or_false, Bool.true_or, Bool.false_or]
  exact q
theorem ok__law_is_int (T : Tx K mg) : Fdf P w K mg base 1 "_law_is_int" ["thing"] [] sp__law_is_int := T.d__law_is_int.fd fun f fd Fn => g__law_is_int T Fn
def iv_int1 (m way : Int) (b : Nat) (r : IH) : Nat → En → IH → Prop := fun i env ih => ∃ (n : Int) (t : Option W), env = [some (.ref 1), some (.d (.int m)), some (.d (.int way)), some (.d (.int n)), t] ∧ 0 ≤ n ∧ n < 10 ^ (9 * i) ∧ Dk (b + i) r ih
def iv_int2 (m way : Int) (b : Nat) (r : IH) : Nat → En → IH → Prop := fun i env ih => ∃ (n : Int) (t : Option W), env = [some (.ref 1), some (.d (.int m)), some (.d (.int way)), some (.d (.int n)), t] ∧ 0 ≤ n ∧ n < 10 ^ 99 ∧ Dk b r ih
theorem Dk.mono {a b : Nat} {r ih : IH} (h : Dk a r ih) (l : a ≤ b) : Dk b r ih := by
  obtain ⟨c, x, z, e, h1, h2, h3, h4, h5⟩ := h
  exact ⟨c, x, z, e, h1, h2, h3, h4, by omega⟩
theorem rng_in {lo : Int} {n i : Nat} {d : D} (h : (rng lo n)[i]? = some d) : i < n ∧ d = .int (lo + i) := by
  have hi : i < n := by have := (List.getElem?_eq_some_iff.mp h).1; rwa [rng_len] at this
  rw [rng_get hi] at h
  cases h
  exact ⟨hi, rfl⟩
theorem bd330 {n : Int} (h0 : 0 ≤ n) (h : n < 10 ^ 99) : Bd 330 n := Bd.of (Int.lt_of_lt_of_le (by decide) h0) (Int.lt_trans h (by decide +kernel))
def sp__law_int : ASp := fun ws ih Q => ∃ (m : Int) (b : Nat) (r : IH), ws = [.ref 1, .d (.int m)] ∧ Dk b r ih ∧ b ≤ 100000 ∧ 1 ≤ m ∧ m ≤ 90 ∧ ∀ i ih2 b2, Bd 340 i → b2 ≤ b + 20 → Dk b2 r ih2 → Q (.d (.int i)) ih2
theorem g__law_int (T : Tx K mg) {f : Addr} {fd : FuncData} (Fn : Fun K "_law_int" "_law_int" st__law_int f fd) : FnG P w K mg base 3 f fd ["deck", "most"] sp__law_int := by
  refine fnG_ofI Fn sc__law_int (fun cdv => (bv_cons (sv_par 2 3 (av_cons (evc (ok__law_draw T) (Nat.le_of_ble_eq_true rfl) rfl (av_cons (ev_var 0) (av_cons ev_int av_nil))) (av_cons ev_int av_nil)) (hw := fun env h => by cases env; subst h; rfl))
      (bv_cons (sv_if (tv_cmp ov_lt (ev_var 2) ev_int) (bv_one (sv_ret (ev_op ov_sub (evc (ok__law_draw T) (Nat.le_of_ble_eq_true rfl) rfl (av_cons (ev_var 0) (av_cons ev_int av_nil))) ev_int))) bv_nil)
      (bv_cons (sv_for (iv_range1 (av_cons (ev_op ov_add ev_int (ev_op ov_fdiv (ev_var 1) ev_int)) av_nil) rfl T.b_range) (GW.gv (vs := [4]) (gw_name 4)) (bv_one (sv_set 3 (ev_op ov_add (ev_op ov_mul (ev_var 3) (ev_op ov_pow ev_int ev_int)) (evc (ok__law_draw T) (Nat.le_of_ble_eq_true rfl) rfl (av_cons (ev_var 0) (av_cons (ev_op ov_pow ev_int ev_int) av_nil)))))))
      (bv_cons (sv_for (iv_range1 (av_cons (evc (ok__law_draw T) (Nat.le_of_ble_eq_true rfl) rfl (av_cons (ev_var 0) (av_cons (ev_var 1) av_nil))) av_nil) rfl T.b_range) (GW.gv (vs := [4]) (gw_name 4)) (bv_one (sv_set 3 (ev_op ov_fdiv (ev_var 3) ev_int))))
      (bv_cons (sv_set 3 (ev_op ov_mul (ev_var 3) (evc (ok__law_pick T) (Nat.le_of_ble_eq_true rfl) rfl (av_cons (ev_var 0) (av_cons (ev_lst (av_cons ev_int (av_cons ev_int (av_cons ev_int (av_cons ev_int (av_cons ev_int (av_cons ev_int av_nil))))))) av_nil)))))
      (bv_one (sv_ret (ev_ifE (tv_cmp ov_eq (evc (ok__law_draw T) (Nat.le_of_ble_eq_true rfl) rfl (av_cons (ev_var 0) (av_cons ev_int av_nil))) ev_int) (ev_un uv_neg (ev_var 3)) (ev_var 3)))))))))) fun ws ob Qa hl h => ?_
  obtain ⟨m, b, r, rfl, hd, hb, m0, m1, q⟩ := h
  have e9 : ((10 : Int) ^ (9 : Int).toNat) = 1000000000 := by decide
  have cp : CPow 10 9 := ⟨by decide, by decide, by decide⟩
  refine sq ?_
  simp only [aAnd, aAndV, aAsg, aAsgT, aBk, aC, aCB, aCall, aCallK, aChain, aCons, aCt, aDget, aDispM, aDput, aDrop, aGN, aGcons, aGnil, aGtup, aIE, aIL, aIR1, aIR2, aIT, aIZ, aIf, aIfS, aIsi, aLst, aLstM, aMt, aMt0, aNever, aNil, aNoP, aNot, aNotV, aNx, aOp, aOr, aOrV, aPar, aPar3, aRet, aRetN, aRevD, aRevM, aSl, aSmP, aTst, aTup, aUn, aVar, aYes, xAbs, xAdd, xApp, xBools, xEqB, xGcd, xI, xIc, xIdx, xInt, xInts, xIs_nn, xIs_bb, xIs_bn, xIs_in, xIs_sn, xIs_tn, xIs_ln, xLen, xListOf, xListOfM, xMax, xMin, xNeg, xPop, xSl, xSum, xTupleOf, optW, view, asB, onRL, isRL, pick, keyOf, val_cells, val_mixed, val_draws, put_draws, allD, finD, startA, List.map_cons, List.map_nil, List.length_cons, List.length_nil, List.replicate, List.cons_append, List.nil_append, List.append_nil, List.getElem?_cons_zero, List.getElem?_cons_succ, List.set_cons_zero, List.set_cons_succ, Option.join_some, Option.map_some, List.filterMap_cons, List.filterMap_nil, List.take, Nat.sub_self, Nat.add_one_sub_one, Nat.reduceSub, Nat.reduceAdd, List.replicate_zero, isT, atI_0, atI_1, size2, size1, size3, size0, true_and, and_true, Bool.true_eq_false, Bool.false_eq_true, if_true, if_false, ite_true, ite_false, reduceIte, eq_self, ex_app, ex_app2, ite_tt, ite_ft, List.cons.injEq, W.d.injEq, PyData.int.injEq, PyData.tuple.injEq, exists_eq_left', and_assoc, exists_and_left, eqOk_int, eqD_int, eqOk_fr, eqD_fr, eqOk_str, eqD_str, id, lo_ws1, lo_ws2, lo_ws3, Bool.not_true, Bool.not_false, Bool.and_true, Bool.and_false, Bool.true_and, Bool.false_and, Bool.or_true, Bool.or_false, Bool.true_or, Bool.false_or, sp__law_draw]
  refine ⟨b, r, hd, by omega, by decide, by decide, fun way o1 w0 w1 hd1 => ?_⟩
  refine sq ?_
  by_cases hw : way < 3
  · simp only [aAnd, aAndV, aAsg, aAsgT, aBk, aC, aCB, aCall, aCallK, aChain, aCons, aCt, aDget, aDispM, aDput, aDrop, aGN, aGcons, aGnil, aGtup, aIE, aIL, aIR1, aIR2, aIT, aIZ, aIf, aIfS, aIsi, aLst, aLstM, aMt, aMt0, aNever, aNil, aNoP, aNot, aNotV, aNx, aOp, aOr, aOrV, aPar, aPar3, aRet, aRetN, aRevD, aRevM, aSl, aSmP, aTst, aTup, aUn, aVar, aYes, xAbs, xAdd, xApp, xBools, xEqB, xGcd, xI, xIc, xIdx, xInt, xInts, xIs_nn, xIs_bb, xIs_bn, xIs_in, xIs_sn, xIs_tn, xIs_ln, xLen, xListOf, xListOfM, xMax, xMin, xNeg, xPop, xSl, xSum, xTupleOf, optW, view, asB, onRL, isRL, pick, keyOf, val_cells, val_mixed, val_draws, put_draws, allD, finD, startA, List.map_cons, List.map_nil, List.length_cons, List.length_nil, List.replicate, List.cons_append, List.nil_append, List.append_nil, List.getElem?_cons_zero, List.getElem?_cons_succ, List.set_cons_zero, List.set_cons_succ, Option.join_some, Option.map_some, List.filterMap_cons, List.filterMap_nil, List.take, Nat.sub_self, Nat.add_one_sub_one, Nat.reduceSub, Nat.reduceAdd, List.replicate_zero, isT, atI_0, atI_1, size2, size1, size3, size0, true_and, and_true, Bool.true_eq_false, Bool.false_eq_true, if_true, if_false, ite_true, ite_false, reduceIte, eq_self, ex_app, ex_app2, ite_tt, ite_ft, List.cons.injEq, W.d.injEq, PyData.int.injEq, PyData.tuple.injEq, exists_eq_left', and_assoc, exists_and_left, eqOk_int, eqD_int, eqOk_fr, eqD_fr, eqOk_str, eqD_str, id, lo_ws1, lo_ws2, lo_ws3, Bool.not_true, Bool.not_false, Bool.and_true, Bool.and_false, Bool.true_and, Bool.false_and, Bool.or_true, Bool.or_false, Bool.true_or, Bool.false_or, sp__law_draw, hw, decide_true]
    exact ⟨_, r, hd1, by omega, by decide, by decide, fun k o2 k0 k1 hd2 => q _ _ _ (Bd.of (by omega) (by omega)) (by omega) hd2⟩
  · simp only [aAnd, aAndV, aAsg, aAsgT, aBk, aC, aCB, aCall, aCallK, aChain, aCons, aCt, aDget, aDispM, aDput, aDrop, aGN, aGcons, aGnil, aGtup, aIE, aIL, aIR1, aIR2, aIT, aIZ, aIf, aIfS, aIsi, aLst, aLstM, aMt, aMt0, aNever, aNil, aNoP, aNot, aNotV, aNx, aOp, aOr, aOrV, aPar, aPar3, aRet, aRetN, aRevD, aRevM, aSl, aSmP, aTst, aTup, aUn, aVar, aYes, xAbs, xAdd, xApp, xBools, xEqB, xGcd, xI, xIc, xIdx, xInt, xInts, xIs_nn, xIs_bb, xIs_bn, xIs_in, xIs_sn, xIs_tn, xIs_ln, xLen, xListOf, xListOfM, xMax, xMin, xNeg, xPop, xSl, xSum, xTupleOf, optW, view, asB, onRL, isRL, pick, keyOf, val_cells, val_mixed, val_draws, put_draws, allD, finD, startA, List.map_cons, List.map_nil, List.length_cons, List.length_nil, List.replicate, List.cons_append, List.nil_append, List.append_nil, List.getElem?_cons_zero, List.getElem?_cons_succ, List.set_cons_zero, List.set_cons_succ, Option.join_some, Option.map_some, List.filterMap_cons, List.filterMap_nil, List.take, Nat.sub_self, Nat.add_one_sub_one, Nat.reduceSub, Nat.reduceAdd, List.replicate_zero, isT, atI_0, atI_1, size2, size1, size3, size0, true_and, and_true, Bool.true_eq_false, Bool.false_eq_true, if_true, if_false, ite_true, ite_false, reduceIte, eq_self, ex_app, ex_app2, ite_tt, ite_ft, List.cons.injEq, W.d.injEq, PyData.int.injEq, PyData.tuple.injEq, exists_eq_left', and_assoc, exists_and_left, eqOk_int, eqD_int, eqOk_fr, eqD_fr, eqOk_str, eqD_str, id, lo_ws1, lo_ws2, lo_ws3, Bool.not_true, Bool.not_false, Bool.and_true, Bool.and_false, Bool.true_and, Bool.false_and, Bool.or_true, Bool.or_false, Bool.true_or, Bool.false_or, hw, decide_false]
    refine sq ?_
    simp only [aAnd, aAndV, aAsg, aAsgT, aBk, aC, aCB, aCall, aCallK, aChain, aCons, aCt, aDget, aDispM, aDput, aDrop, aGN, aGcons, aGnil, aGtup, aIE, aIL, aIR1, aIR2, aIT, aIZ, aIf, aIfS, aIsi, aLst, aLstM, aMt, aMt0, aNever, aNil, aNoP, aNot, aNotV, aNx, aOp, aOr, aOrV, aPar, aPar3, aRet, aRetN, aRevD, aRevM, aSl, aSmP, aTst, aTup, aUn, aVar, aYes, xAbs, xAdd, xApp, xBools, xEqB, xGcd, xI, xIc, xIdx, xInt, xInts, xIs_nn, xIs_bb, xIs_bn, xIs_in, xIs_sn, xIs_tn, xIs_ln, xLen, xListOf, xListOfM, xMax, xMin, xNeg, xPop, xSl, xSum, xTupleOf, optW, view, asB, onRL, isRL, pick, keyOf, val_cells, val_mixed, val_draws, put_draws, allD, finD, startA, List.map_cons, List.map_nil, List.length_cons, List.length_nil, List.replicate, List.cons_append, List.nil_append, List.append_nil, List.getElem?_cons_zero, List.getElem?_cons_succ, List.set_cons_zero, List.set_cons_succ, Option.join_some, Option.map_some, List.filterMap_cons, List.filterMap_nil, List.take, Nat.sub_self, Nat.add_one_sub_one, Nat.reduceSub, Nat.reduceAdd, List.replicate_zero, isT, atI_0, atI_1, size2, size1, size3, size0, true_and, and_true, Bool.true_eq_false, Bool.false_eq_true, if_true, if_false, ite_true, ite_false, reduceIte, eq_self, ex_app, ex_app2, ite_tt, ite_ft, List.cons.injEq, W.d.injEq, PyData.int.injEq, PyData.tuple.injEq, exists_eq_left', and_assoc, exists_and_left, eqOk_int, eqD_int, eqOk_fr, eqD_fr, eqOk_str, eqD_str, id, lo_ws1, lo_ws2, lo_ws3, Bool.not_true, Bool.not_false, Bool.and_true, Bool.and_false, Bool.true_and, Bool.false_and, Bool.or_true, Bool.or_false, Bool.true_or, Bool.false_or, aFor]
    have em : m.fdiv 9 = m / 9 := Int.fdiv_eq_ediv_of_nonneg _ (by decide)
    refine ⟨(bd31 (by decide) (by decide) : Bd 31 9).cdv (by decide) (by decide), by rw [em]; omega, by rw [em]; omega, iv_int1 m way (b + 1) r, ⟨_, _, rfl, by decide, by decide, hd1⟩, ?_, ?_⟩
    · rintro i d env ih hi ⟨n, t, rfl, n0, n1, hd2⟩
      obtain ⟨hi, rfl⟩ := rng_in hi
      have hi2 : i < 11 := by rw [em] at hi; omega
      simp only [aAnd, aAndV, aAsg, aAsgT, aBk, aC, aCB, aCall, aCallK, aChain, aCons, aCt, aDget, aDispM, aDput, aDrop, aGN, aGcons, aGnil, aGtup, aIE, aIL, aIR1, aIR2, aIT, aIZ, aIf, aIfS, aIsi, aLst, aLstM, aMt, aMt0, aNever, aNil, aNoP, aNot, aNotV, aNx, aOp, aOr, aOrV, aPar, aPar3, aRet, aRetN, aRevD, aRevM, aSeq, aSl, aSmP, aTst, aTup, aUn, aVar, aYes, xAbs, xAdd, xApp, xBools, xEqB, xGcd, xI, xIc, xIdx, xInt, xInts, xIs_nn, xIs_bb, xIs_bn, xIs_in, xIs_sn, xIs_tn, xIs_ln, xLen, xListOf, xListOfM, xMax, xMin, xNeg, xPop, xSl, xSum, xTupleOf, optW, view, asB, onRL, isRL, pick, keyOf, val_cells, val_mixed, val_draws, put_draws, allD, finD, startA, List.map_cons, List.map_nil, List.length_cons, List.length_nil, List.replicate, List.cons_append, List.nil_append, List.append_nil, List.getElem?_cons_zero, List.getElem?_cons_succ, List.set_cons_zero, List.set_cons_succ, Option.join_some, Option.map_some, List.filterMap_cons, List.filterMap_nil, List.take, Nat.sub_self, Nat.add_one_sub_one, Nat.reduceSub, Nat.reduceAdd, List.replicate_zero, isT, atI_0, atI_1, size2, size1, size3, size0, true_and, and_true, Bool.true_eq_false, Bool.false_eq_true, if_true, if_false, ite_true, ite_false, reduceIte, eq_self, ex_app, ex_app2, ite_tt, ite_ft, List.cons.injEq, W.d.injEq, PyData.int.injEq, PyData.tuple.injEq, exists_eq_left', and_assoc, exists_and_left, eqOk_int, eqD_int, eqOk_fr, eqD_fr, eqOk_str, eqD_str, id, lo_ws1, lo_ws2, lo_ws3, Bool.not_true, Bool.not_false, Bool.and_true, Bool.and_false, Bool.true_and, Bool.false_and, Bool.or_true, Bool.or_false, Bool.true_or, Bool.false_or, sp__law_draw, e9, cp]
      refine ⟨(bd330 n0 (Int.lt_of_lt_of_le n1 (pow10_le (by omega)))).cmul (bd31 (by decide) (by decide) : Bd 31 1000000000) (by decide), _, r, hd2, by omega, by decide, by decide, fun k o2 k0 k1 hd3 => ⟨_, _, rfl, by omega, ?_, hd3⟩⟩
      rw [Nat.mul_succ, Int.pow_add]
      omega
    · rintro env ih ⟨n, t, rfl, n0, n1, hd2⟩
      rw [rng_len] at n1 hd2
      have n2 : n < 10 ^ 99 := Int.lt_of_lt_of_le n1 (pow10_le (by rw [em]; omega))
      have hd3 : Dk (b + 12) r ih := hd2.mono (by rw [em]; omega)
      refine sq ?_
      simp only [aAnd, aAndV, aAsg, aAsgT, aBk, aC, aCB, aCall, aCallK, aChain, aCons, aCt, aDget, aDispM, aDput, aDrop, aGN, aGcons, aGnil, aGtup, aIE, aIL, aIR1, aIR2, aIT, aIZ, aIf, aIfS, aIsi, aLst, aLstM, aMt, aMt0, aNever, aNil, aNoP, aNot, aNotV, aNx, aOp, aOr, aOrV, aPar, aPar3, aRet, aRetN, aRevD, aRevM, aSl, aSmP, aTst, aTup, aUn, aVar, aYes, xAbs, xAdd, xApp, xBools, xEqB, xGcd, xI, xIc, xIdx, xInt, xInts, xIs_nn, xIs_bb, xIs_bn, xIs_in, xIs_sn, xIs_tn, xIs_ln, xLen, xListOf, xListOfM, xMax, xMin, xNeg, xPop, xSl, xSum, xTupleOf, optW, view, asB, onRL, isRL, pick, keyOf, val_cells, val_mixed, val_draws, put_draws, allD, finD, startA, List.map_cons, List.map_nil, List.length_cons, List.length_nil, List.replicate, List.cons_append, List.nil_append, List.append_nil, List.getElem?_cons_zero, List.getElem?_cons_succ, List.set_cons_zero, List.set_cons_succ, Option.join_some, Option.map_some, List.filterMap_cons, List.filterMap_nil, List.take, Nat.sub_self, Nat.add_one_sub_one, Nat.reduceSub, Nat.reduceAdd, List.replicate_zero, isT, atI_0, atI_1, size2, size1, size3, size0, true_and, and_true, Bool.true_eq_false, Bool.false_eq_true, if_true, if_false, ite_true, ite_false, reduceIte, eq_self, ex_app, ex_app2, ite_tt, ite_ft, List.cons.injEq, W.d.injEq, PyData.int.injEq, PyData.tuple.injEq, exists_eq_left', and_assoc, exists_and_left, eqOk_int, eqD_int, eqOk_fr, eqD_fr, eqOk_str, eqD_str, id, lo_ws1, lo_ws2, lo_ws3, Bool.not_true, Bool.not_false, Bool.and_true, Bool.and_false, Bool.true_and, Bool.false_and, Bool.or_true, Bool.or_false, Bool.true_or, Bool.false_or, aFor, sp__law_draw]
      refine ⟨_, r, hd3, by omega, by omega, by omega, fun k o2 k0 k1 hd4 => ⟨by omega, by omega, iv_int2 m way (b + 13) r, ⟨_, _, rfl, n0, n2, hd4⟩, ?_, ?_⟩⟩
      · rintro i d env ih hi ⟨n, t, rfl, n0, n1, hd2⟩
        simp only [aAnd, aAndV, aAsg, aAsgT, aBk, aC, aCB, aCall, aCallK, aChain, aCons, aCt, aDget, aDispM, aDput, aDrop, aGN, aGcons, aGnil, aGtup, aIE, aIL, aIR1, aIR2, aIT, aIZ, aIf, aIfS, aIsi, aLst, aLstM, aMt, aMt0, aNever, aNil, aNoP, aNot, aNotV, aNx, aOp, aOr, aOrV, aPar, aPar3, aRet, aRetN, aRevD, aRevM, aSeq, aSl, aSmP, aTst, aTup, aUn, aVar, aYes, xAbs, xAdd, xApp, xBools, xEqB, xGcd, xI, xIc, xIdx, xInt, xInts, xIs_nn, xIs_bb, xIs_bn, xIs_in, xIs_sn, xIs_tn, xIs_ln, xLen, xListOf, xListOfM, xMax, xMin, xNeg, xPop, xSl, xSum, xTupleOf, optW, view, asB, onRL, isRL, pick, keyOf, val_cells, val_mixed, val_draws, put_draws, allD, finD, startA, List.map_cons, List.map_nil, List.length_cons, List.length_nil, List.replicate, List.cons_append, List.nil_append, List.append_nil, List.getElem?_cons_zero, List.getElem?_cons_succ, List.set_cons_zero, List.set_cons_succ, Option.join_some, Option.map_some, List.filterMap_cons, List.filterMap_nil, List.take, Nat.sub_self, Nat.add_one_sub_one, Nat.reduceSub, Nat.reduceAdd, List.replicate_zero, isT, atI_0, atI_1, size2, size1, size3, size0, true_and, and_true, Bool.true_eq_false, Bool.false_eq_true, if_true, if_false, ite_true, ite_false, reduceIte, eq_self, ex_app, ex_app2, ite_tt, ite_ft, List.cons.injEq, W.d.injEq, PyData.int.injEq, PyData.tuple.injEq, exists_eq_left', and_assoc, exists_and_left, eqOk_int, eqD_int, eqOk_fr, eqD_fr, eqOk_str, eqD_str, id, lo_ws1, lo_ws2, lo_ws3, Bool.not_true, Bool.not_false, Bool.and_true, Bool.and_false, Bool.true_and, Bool.false_and, Bool.or_true, Bool.or_false, Bool.true_or, Bool.false_or]
        have en : n.fdiv 10 = n / 10 := Int.fdiv_eq_ediv_of_nonneg _ (by decide)
        exact ⟨(bd31 (by decide) (by decide) : Bd 31 10).cdv (by decide) (by decide), _, _, rfl, by rw [en]; omega, by rw [en]; omega, hd2⟩
      · rintro env ih ⟨n, t, rfl, n0, n1, hd2⟩
        refine sq ?_
        have sz : (6 : Nat) ≤ sizeLine := by decide
        simp only [aAnd, aAndV, aAsg, aAsgT, aBk, aC, aCB, aCall, aCallK, aChain, aCons, aCt, aDget, aDispM, aDput, aDrop, aGN, aGcons, aGnil, aGtup, aIE, aIL, aIR1, aIR2, aIT, aIZ, aIf, aIfS, aIsi, aLst, aLstM, aMt, aMt0, aNever, aNil, aNoP, aNot, aNotV, aNx, aOp, aOr, aOrV, aPar, aPar3, aRet, aRetN, aRevD, aRevM, aSl, aSmP, aTst, aTup, aUn, aVar, aYes, xAbs, xAdd, xApp, xBools, xEqB, xGcd, xI, xIc, xIdx, xInt, xInts, xIs_nn, xIs_bb, xIs_bn, xIs_in, xIs_sn, xIs_tn, xIs_ln, xLen, xListOf, xListOfM, xMax, xMin, xNeg, xPop, xSl, xSum, xTupleOf, optW, view, asB, onRL, isRL, pick, keyOf, val_cells, val_mixed, val_draws, put_draws, allD, finD, startA, List.map_cons, List.map_nil, List.length_cons, List.length_nil, List.replicate, List.cons_append, List.nil_append, List.append_nil, List.getElem?_cons_zero, List.getElem?_cons_succ, List.set_cons_zero, List.set_cons_succ, Option.join_some, Option.map_some, List.filterMap_cons, List.filterMap_nil, List.take, Nat.sub_self, Nat.add_one_sub_one, Nat.reduceSub, Nat.reduceAdd, List.replicate_zero, isT, atI_0, atI_1, size2, size1, size3, size0, true_and, and_true, Bool.true_eq_false, Bool.false_eq_true, if_true, if_false, ite_true, ite_false, reduceIte, eq_self, ex_app, ex_app2, ite_tt, ite_ft, List.cons.injEq, W.d.injEq, PyData.int.injEq, PyData.tuple.injEq, exists_eq_left', and_assoc, exists_and_left, eqOk_int, eqD_int, eqOk_fr, eqD_fr, eqOk_str, eqD_str, id, lo_ws1, lo_ws2, lo_ws3, Bool.not_true, Bool.not_false, Bool.and_true, Bool.and_false, Bool.true_and, Bool.false_and, Bool.or_true, Bool.or_false, Bool.true_or, Bool.false_or, sp__law_pick, sz, PyData.list.injEq]
        refine ⟨_, r, hd2, by omega, by decide, by decide, fun x o3 hx hd5 => ?_⟩
        obtain ⟨z, rfl, z0, z1⟩ : ∃ z : Int, x = .int z ∧ 0 ≤ z ∧ z < 1024 := by
          simp only [List.mem_cons, List.not_mem_nil, or_false] at hx
          rcases hx with rfl | rfl | rfl | rfl | rfl | rfl <;> exact ⟨_, rfl, by decide, by decide⟩
        have bz : Bd 10 z := Bd.of (by omega) (by omega)
        have bn := bd330 n0 n1
        simp only [aAnd, aAndV, aAsg, aAsgT, aBk, aC, aCB, aCall, aCallK, aChain, aCons, aCt, aDget, aDispM, aDput, aDrop, aGN, aGcons, aGnil, aGtup, aIE, aIL, aIR1, aIR2, aIT, aIZ, aIf, aIfS, aIsi, aLst, aLstM, aMt, aMt0, aNever, aNil, aNoP, aNot, aNotV, aNx, aOp, aOr, aOrV, aPar, aPar3, aRet, aRetN, aRevD, aRevM, aSeq, aSl, aSmP, aTst, aTup, aUn, aVar, aYes, xAbs, xAdd, xApp, xBools, xEqB, xGcd, xI, xIc, xIdx, xInt, xInts, xIs_nn, xIs_bb, xIs_bn, xIs_in, xIs_sn, xIs_tn, xIs_ln, xLen, xListOf, xListOfM, xMax, xMin, xNeg, xPop, xSl, xSum, xTupleOf, optW, view, asB, onRL, isRL, pick, keyOf, val_cells, val_mixed, val_draws, put_draws, allD, finD, startA, List.map_cons, List.map_nil, List.length_cons, List.length_nil, List.replicate, List.cons_append, List.nil_append, List.append_nil, List.getElem?_cons_zero, List.getElem?_cons_succ, List.set_cons_zero, List.set_cons_succ, Option.join_some, Option.map_some, List.filterMap_cons, List.filterMap_nil, List.take, Nat.sub_self, Nat.add_one_sub_one, Nat.reduceSub, Nat.reduceAdd, List.replicate_zero, isT, atI_0, atI_1, size2, size1, size3, size0, true_and, and_true, Bool.true_eq_false, Bool.false_eq_true, if_true, if_false, ite_true, ite_false, reduceIte, eq_self, ex_app, ex_app2, ite_tt, ite_ft, List.cons.injEq, W.d.injEq, PyData.int.injEq, PyData.tuple.injEq, exists_eq_left', and_assoc, exists_and_left, eqOk_int, eqD_int, eqOk_fr, eqD_fr, eqOk_str, eqD_str, id, lo_ws1, lo_ws2, lo_ws3, Bool.not_true, Bool.not_false, Bool.and_true, Bool.and_false, Bool.true_and, Bool.false_and, Bool.or_true, Bool.or_false, Bool.true_or, Bool.false_or, sp__law_draw]
        refine ⟨bn.cmul bz (by decide), _, r, hd5, by omega, by decide, by decide, fun k2 o4 k0 k1 hd6 => ?_⟩
        by_cases hk : k2 = 0
        · simp only [aAnd, aAndV, aAsg, aAsgT, aBk, aC, aCB, aCall, aCallK, aChain, aCons, aCt, aDget, aDispM, aDput, aDrop, aGN, aGcons, aGnil, aGtup, aIE, aIL, aIR1, aIR2, aIT, aIZ, aIf, aIfS, aIsi, aLst, aLstM, aMt, aMt0, aNever, aNil, aNoP, aNot, aNotV, aNx, aOp, aOr, aOrV, aPar, aPar3, aRet, aRetN, aRevD, aRevM, aSeq, aSl, aSmP, aTst, aTup, aUn, aVar, aYes, xAbs, xAdd, xApp, xBools, xEqB, xGcd, xI, xIc, xIdx, xInt, xInts, xIs_nn, xIs_bb, xIs_bn, xIs_in, xIs_sn, xIs_tn, xIs_ln, xLen, xListOf, xListOfM, xMax, xMin, xNeg, xPop, xSl, xSum, xTupleOf, optW, view, asB, onRL, isRL, pick, keyOf, val_cells, val_mixed, val_draws, put_draws, allD, finD, startA, List.map_cons, List.map_nil, List.length_cons, List.length_nil, List.replicate, List.cons_append, List.nil_append, List.append_nil, List.getElem?_cons_zero, List.getElem?_cons_succ, List.set_cons_zero, List.set_cons_succ, Option.join_some, Option.map_some, List.filterMap_cons, List.filterMap_nil, List.take, Nat.sub_self, Nat.add_one_sub_one, Nat.reduceSub, Nat.reduceAdd, List.replicate_zero, isT, atI_0, atI_1, size2, size1, size3, size0, true_and, and_true, Bool.true_eq_false, Bool.false_eq_true, if_true, if_false, ite_true, ite_false, reduceIte, eq_self, ex_app, ex_app2, ite_tt, ite_ft, List.cons.injEq, W.d.injEq, PyData.int.injEq, PyData.tuple.injEq, exists_eq_left', and_assoc, exists_and_left, eqOk_int, eqD_int, eqOk_fr, eqD_fr, eqOk_str, eqD_str, id, lo_ws1, lo_ws2, lo_ws3, Bool.not_true, Bool.not_false, Bool.and_true, Bool.and_false, Bool.true_and, Bool.false_and, Bool.or_true, Bool.or_false, Bool.true_or, Bool.false_or, hk, decide_true]
          exact q _ _ _ (bn.mul bz).neg (by omega) hd6
        · simp only [aAnd, aAndV, aAsg, aAsgT, aBk, aC, aCB, aCall, aCallK, aChain, aCons, aCt, aDget, aDispM, aDput, aDrop, aGN, aGcons, aGnil, aGtup, aIE, aIL, aIR1, aIR2, aIT, aIZ, aIf, aIfS, aIsi, aLst, aLstM, aMt, aMt0, aNever, aNil, aNoP, aNot, aNotV, aNx, aOp, aOr, aOrV, aPar, aPar3, aRet, aRetN, aRevD, aRevM, aSeq, aSl, aSmP, aTst, aTup, aUn, aVar, aYes, xAbs, xAdd, xApp, xBools, xEqB, xGcd, xI, xIc, xIdx, xInt, xInts, xIs_nn, xIs_bb, xIs_bn, xIs_in, xIs_sn, xIs_tn, xIs_ln, xLen, xListOf, xListOfM, xMax, xMin, xNeg, xPop, xSl, xSum, xTupleOf, optW, view, asB, onRL, isRL, pick, keyOf, val_cells, val_mixed, val_draws, put_draws, allD, finD, startA, List.map_cons, List.map_nil, List.length_cons, List.length_nil, List.replicate, List.cons_append, List.nil_append, List.append_nil, List.getElem?_cons_zero, List.getElem?_cons_succ, List.set_cons_zero, List.set_cons_succ, Option.join_some, Option.map_some, List.filterMap_cons, List.filterMap_nil, List.take, Nat.sub_self, Nat.add_one_sub_one, Nat.reduceSub, Nat.reduceAdd, List.replicate_zero, isT, atI_0, atI_1, size2, size1, size3, size0, true_and, and_true, Bool.true_eq_false, Bool.false_eq_true, if_true, if_false, ite_true, ite_false, reduceIte, eq_self, ex_app, ex_app2, ite_tt, ite_ft, List.cons.injEq, W.d.injEq, PyData.int.injEq, PyData.tuple.injEq, exists_eq_left', and_assoc, exists_and_left, eqOk_int, eqD_int, eqOk_fr, eqD_fr, eqOk_str, eqD_str, id, lo_ws1, lo_ws2, lo_ws3, Bool.not_true, Bool.not_false, Bool.and_true, Bool.and_false, Bool.true_and, Bool.false_and, Bool.or_true, Bool.or_false, Bool.true_or, Bool.false_or, hk, decide_false]
          exact q _ _ _ (bn.mul bz) (by omega) hd6
theorem ok__law_int (T : Tx K mg) : Fdf P w K mg base 3 "_law_int" ["deck", "most"] [] sp__law_int := T.d__law_int.fd fun f fd Fn => g__law_int T Fn
def sp__law_is_fraction : ASp := fun ws ih Q => ∃ n d : Int, ws = [.d (.tuple [.int n, .int d])] ∧ 0 < d ∧ Int.gcd n d = 1 ∧ Q (.d (.bool true)) ih
theorem g__law_is_fraction (T : Tx K mg) {f : Addr} {fd : FuncData} (Fn : Fun K "_law_is_fraction" "_law_is_fraction" st__law_is_fraction f fd) : FnG P w K mg base 2 f fd ["thing"] sp__law_is_fraction := by
  refine fnG_of Fn sc__law_is_fraction (fun cdv => (bv_cons (sv_if (WV.tv (wv_or (tv_not (tv_val (ev_isi .tuple (ev_var 0) rfl T.b_isinstance rfl T.b_tuple bt_tuple bt_isinstance))) (wv_or (tv_cmp ov_ne (ev_callB cv_len rfl T.b_len bt_len (av_cons (ev_var 0) av_nil)) ev_int) (wv_or (tv_not (tv_val (evc (ok__law_is_int T) (Nat.le_of_ble_eq_true rfl) rfl (av_cons (ev_ix (ev_var 0) ev_int) av_nil)))) (wv_or1 (tv_not (tv_val (evc (ok__law_is_int T) (Nat.le_of_ble_eq_true rfl) rfl (av_cons (ev_ix (ev_var 0) ev_int) av_nil))))))))) (bv_one (sv_ret ev_bl)) bv_nil)
      (bv_one (sv_ret (ev_and (ev_cmp ov_ge (ev_ix (ev_var 0) ev_int) ev_int) (ev_one (ev_cmp ov_eq (evc (ok__law_divisor T) (Nat.le_of_ble_eq_true rfl) rfl (av_cons (ev_ix (ev_var 0) ev_int) (av_cons (ev_ix (ev_var 0) ev_int) av_nil))) ev_int))))))) fun ws ob Qa hl h => ?_
  obtain ⟨n, d, rfl, hd, hg, q⟩ := h
  have h1 : decide (1 ≤ d) = true := decide_eq_true (by omega)
  have h2 : decide (((Nat.gcd n.natAbs d.natAbs : Nat) : Int) = 1) = true := decide_eq_true (by have : Nat.gcd n.natAbs d.natAbs = 1 := hg; omega)
  simp only [aAnd, aAndV, aAsg, aAsgT, aBk, aC, aCB, aCall, aCallK, aChain, aCons, aCt, aDget, aDispM, aDput, aDrop, aGN, aGcons, aGnil, aGtup, aIE, aIL, aIR1, aIR2, aIT, aIZ, aIf, aIfS, aIsi, aLst, aLstM, aMt, aMt0, aNever, aNil, aNoP, aNot, aNotV, aNx, aOp, aOr, aOrV, aPar, aPar3, aRet, aRetN, aRevD, aRevM, aSeq, aSl, aSmP, aTst, aTup, aUn, aVar, aYes, xAbs, xAdd, xApp, xBools, xEqB, xGcd, xI, xIc, xIdx, xInt, xInts, xIs_nn, xIs_bb, xIs_bn, xIs_in, xIs_sn, xIs_tn, xIs_ln, xLen, xListOf, xListOfM, xMax, xMin, xNeg, xPop, xSl, xSum, xTupleOf, optW, view, asB, onRL, isRL, pick, keyOf, val_cells, val_mixed, val_draws, put_draws, allD, finD, startA, List.map_cons, List.map_nil, List.length_cons, List.length_nil, List.replicate, List.cons_append, List.nil_append, List.append_nil, List.getElem?_cons_zero, List.getElem?_cons_succ, List.set_cons_zero, List.set_cons_succ, Option.join_some, Option.map_some, List.filterMap_cons, List.filterMap_nil, List.take, Nat.sub_self, Nat.add_one_sub_one, Nat.reduceSub, Nat.reduceAdd, List.replicate_zero, isT, atI_0, atI_1, size2, size1, size3, size0, true_and, and_true, Bool.true_eq_false, Bool.false_eq_true, if_true, if_false, ite_true, ite_false, reduceIte, eq_self, ex_app, ex_app2, ite_tt, ite_ft, List.cons.injEq, W.d.injEq, PyData.int.injEq, PyData.tuple.injEq, exists_eq_left', and_assoc, exists_and_left, eqOk_int, eqD_int, eqOk_fr, eqD_fr, eqOk_str, eqD_str, id, lo_ws1, lo_ws2, lo_ws3, Bool.not_true, Bool.not_false, Bool.and_true, Bool.and_false, Bool.true_and, Bool.false_and, Bool.or_true, Bool.or_false, Bool.true_or, Bool.false_or, sp__law_is_int, sp__law_divisor, h1, h2]
  trace_state
  exact q
theorem ok__law_is_fraction (T : Tx K mg) : Fdf P w K mg base 2 "_law_is_fraction" ["thing"] [] sp__law_is_fraction := T.d__law_is_fraction.fd fun f fd Fn => g__law_is_fraction T Fn
theorem fr_one (k : Nat) (n : Int) (h : Bd k n) (hk : 1 ≤ k) : Fr k n 1 := ⟨by decide, by simp, h, Bd.mono (a := 1) (by decide) hk⟩
def sp__law_fraction : ASp := fun ws ih Q => ∃ (m : Int) (b : Nat) (r : IH), ws = [.ref 1, .d (.int m)] ∧ Dk b r ih ∧ b ≤ 90000 ∧ 1 ≤ m ∧ m ≤ 90 ∧ ∀ n d ih2 b2, Fr 341 n d → b2 ≤ b + 42 → Dk b2 r ih2 → Q (.d (.tuple [.int n, .int d])) ih2
theorem g__law_fraction (T : Tx K mg) {f : Addr} {fd : FuncData} (Fn : Fun K "_law_fraction" "_law_fraction" st__law_fraction f fd) : FnG P w K mg base 4 f fd ["deck", "most"] sp__law_fraction := by
  refine fnG_ofI Fn sc__law_fraction (fun cdv => (bv_cons (sv_set 2 (evc (ok__law_draw T) (Nat.le_of_ble_eq_true rfl) rfl (av_cons (ev_var 0) (av_cons ev_int av_nil))))
      (bv_cons (sv_if (tv_cmp ov_lt (ev_var 2) ev_int) (bv_one (sv_ret (evc (ok__law_pick T) (Nat.le_of_ble_eq_true rfl) rfl (av_cons (ev_var 0) (av_cons (ev_lst (av_cons (ev_tup (av_cons ev_int (av_cons ev_int av_nil))) (av_cons (ev_tup (av_cons ev_int (av_cons ev_int av_nil))) (av_cons (ev_tup (av_cons (ev_un uv_neg ev_int) (av_cons ev_int av_nil))) (av_cons (ev_tup (av_cons ev_int (av_cons ev_int av_nil))) (av_cons (ev_tup (av_cons (ev_un uv_neg ev_int) (av_cons ev_int av_nil))) (av_cons (ev_tup (av_cons ev_int (av_cons ev_int av_nil))) (av_cons (ev_tup (av_cons (ev_un uv_neg ev_int) (av_cons ev_int av_nil))) (av_cons (ev_tup (av_cons ev_int (av_cons ev_int av_nil))) (av_cons (ev_tup (av_cons ev_int (av_cons ev_int av_nil))) (av_cons (ev_tup (av_cons ev_int (av_cons ev_int av_nil))) (av_cons (ev_tup (av_cons (ev_un uv_neg ev_int) (av_cons ev_int av_nil))) av_nil)))))))))))) av_nil))))) bv_nil)
      (bv_cons (sv_if (tv_cmp ov_eq (ev_var 2) ev_int) (bv_one (sv_ret (ev_tup (av_cons (evc (ok__law_int T) (Nat.le_of_ble_eq_true rfl) rfl (av_cons (ev_var 0) (av_cons (ev_var 1) av_nil))) (av_cons ev_int av_nil))))) bv_nil)
      (bv_one (sv_ret (evc (ok__law_lowest T) (Nat.le_of_ble_eq_true rfl) rfl (av_cons (evc (ok__law_int T) (Nat.le_of_ble_eq_true rfl) rfl (av_cons (ev_var 0) (av_cons (ev_var 1) av_nil))) (av_cons (ev_op ov_add (ev_callB cv_abs rfl T.b_abs bt_abs (av_cons (evc (ok__law_int T) (Nat.le_of_ble_eq_true rfl) rfl (av_cons (ev_var 0) (av_cons (ev_var 1) av_nil))) av_nil)) ev_int) av_nil))))))))) fun ws ob Qa hl h => ?_
  obtain ⟨m, b, r, rfl, hd, hb, m0, m1, q⟩ := h
  refine sq ?_
  simp only [aAnd, aAndV, aAsg, aAsgT, aBk, aC, aCB, aCall, aCallK, aChain, aCons, aCt, aDget, aDispM, aDput, aDrop, aGN, aGcons, aGnil, aGtup, aIE, aIL, aIR1, aIR2, aIT, aIZ, aIf, aIfS, aIsi, aLst, aLstM, aMt, aMt0, aNever, aNil, aNoP, aNot, aNotV, aNx, aOp, aOr, aOrV, aPar, aPar3, aRet, aRetN, aRevD, aRevM, aSl, aSmP, aTst, aTup, aUn, aVar, aYes, xAbs, xAdd, xApp, xBools, xEqB, xGcd, xI, xIc, xIdx, xInt, xInts, xIs_nn, xIs_bb, xIs_bn, xIs_in, xIs_sn, xIs_tn, xIs_ln, xLen, xListOf, xListOfM, xMax, xMin, xNeg, xPop, xSl, xSum, xTupleOf, optW, view, asB, onRL, isRL, pick, keyOf, val_cells, val_mixed, val_draws, put_draws, allD, finD, startA, List.map_cons, List.map_nil, List.length_cons, List.length_nil, List.replicate, List.cons_append, List.nil_append, List.append_nil, List.getElem?_cons_zero, List.getElem?_cons_succ, List.set_cons_zero, List.set_cons_succ, Option.join_some, Option.map_some, List.filterMap_cons, List.filterMap_nil, List.take, Nat.sub_self, Nat.add_one_sub_one, Nat.reduceSub, Nat.reduceAdd, List.replicate_zero, isT, atI_0, atI_1, size2, size1, size3, size0, true_and, and_true, Bool.true_eq_false, Bool.false_eq_true, if_true, if_false, ite_true, ite_false, reduceIte, eq_self, ex_app, ex_app2, ite_tt, ite_ft, List.cons.injEq, W.d.injEq, PyData.int.injEq, PyData.tuple.injEq, exists_eq_left', and_assoc, exists_and_left, eqOk_int, eqD_int, eqOk_fr, eqD_fr, eqOk_str, eqD_str, id, lo_ws1, lo_ws2, lo_ws3, Bool.not_true, Bool.not_false, Bool.and_true, Bool.and_false, Bool.true_and, Bool.false_and, Bool.or_true, Bool.or_false, Bool.true_or, Bool.false_or, sp__law_draw]
  refine ⟨b, r, hd, by omega, by decide, by decide, fun way o1 w0 w1 hd1 => ?_⟩
  refine sq ?_
  by_cases hw : way < 2
  · have sz : (11 : Nat) ≤ sizeLine := by decide
    simp only [aAnd, aAndV, aAsg, aAsgT, aBk, aC, aCB, aCall, aCallK, aChain, aCons, aCt, aDget, aDispM, aDput, aDrop, aGN, aGcons, aGnil, aGtup, aIE, aIL, aIR1, aIR2, aIT, aIZ, aIf, aIfS, aIsi, aLst, aLstM, aMt, aMt0, aNever, aNil, aNoP, aNot, aNotV, aNx, aOp, aOr, aOrV, aPar, aPar3, aRet, aRetN, aRevD, aRevM, aSl, aSmP, aTst, aTup, aUn, aVar, aYes, xAbs, xAdd, xApp, xBools, xEqB, xGcd, xI, xIc, xIdx, xInt, xInts, xIs_nn, xIs_bb, xIs_bn, xIs_in, xIs_sn, xIs_tn, xIs_ln, xLen, xListOf, xListOfM, xMax, xMin, xNeg, xPop, xSl, xSum, xTupleOf, optW, view, asB, onRL, isRL, pick, keyOf, val_cells, val_mixed, val_draws, put_draws, allD, finD, startA, List.map_cons, List.map_nil, List.length_cons, List.length_nil, List.replicate, List.cons_append, List.nil_append, List.append_nil, List.getElem?_cons_zero, List.getElem?_cons_succ, List.set_cons_zero, List.set_cons_succ, Option.join_some, Option.map_some, List.filterMap_cons, List.filterMap_nil, List.take, Nat.sub_self, Nat.add_one_sub_one, Nat.reduceSub, Nat.reduceAdd, List.replicate_zero, isT, atI_0, atI_1, size2, size1, size3, size0, true_and, and_true, Bool.true_eq_false, Bool.false_eq_true, if_true, if_false, ite_true, ite_false, reduceIte, eq_self, ex_app, ex_app2, ite_tt, ite_ft, List.cons.injEq, W.d.injEq, PyData.int.injEq, PyData.tuple.injEq, exists_eq_left', and_assoc, exists_and_left, eqOk_int, eqD_int, eqOk_fr, eqD_fr, eqOk_str, eqD_str, id, lo_ws1, lo_ws2, lo_ws3, Bool.not_true, Bool.not_false, Bool.and_true, Bool.and_false, Bool.true_and, Bool.false_and, Bool.or_true, Bool.or_false, Bool.true_or, Bool.false_or, sp__law_pick, hw, decide_true, sz, PyData.list.injEq]
    refine ⟨_, r, hd1, by omega, by decide, by decide, fun x o3 hx hd5 => ?_⟩
    obtain ⟨n, d, rfl, F⟩ : ∃ n d : Int, x = .tuple [.int n, .int d] ∧ Fr 7 n d := by
      simp only [List.mem_cons, List.not_mem_nil, or_false] at hx
      rcases hx with rfl | rfl | rfl | rfl | rfl | rfl | rfl | rfl | rfl | rfl | rfl <;> exact ⟨_, _, rfl, ⟨by decide, by decide, by decide, by decide⟩⟩
    exact q _ _ _ _ (F.mono (by decide)) (by omega) hd5
  · simp only [aAnd, aAndV, aAsg, aAsgT, aBk, aC, aCB, aCall, aCallK, aChain, aCons, aCt, aDget, aDispM, aDput, aDrop, aGN, aGcons, aGnil, aGtup, aIE, aIL, aIR1, aIR2, aIT, aIZ, aIf, aIfS, aIsi, aLst, aLstM, aMt, aMt0, aNever, aNil, aNoP, aNot, aNotV, aNx, aOp, aOr, aOrV, aPar, aPar3, aRet, aRetN, aRevD, aRevM, aSl, aSmP, aTst, aTup, aUn, aVar, aYes, xAbs, xAdd, xApp, xBools, xEqB, xGcd, xI, xIc, xIdx, xInt, xInts, xIs_nn, xIs_bb, xIs_bn, xIs_in, xIs_sn, xIs_tn, xIs_ln, xLen, xListOf, xListOfM, xMax, xMin, xNeg, xPop, xSl, xSum, xTupleOf, optW, view, asB, onRL, isRL, pick, keyOf, val_cells, val_mixed, val_draws, put_draws, allD, finD, startA, List.map_cons, List.map_nil, List.length_cons, List.length_nil, List.replicate, List.cons_append, List.nil_append, List.append_nil, List.getElem?_cons_zero, List.getElem?_cons_succ, List.set_cons_zero, List.set_cons_succ, Option.join_some, Option.map_some, List.filterMap_cons, List.filterMap_nil, List.take, Nat.sub_self, Nat.add_one_sub_one, Nat.reduceSub, Nat.reduceAdd, List.replicate_zero, isT, atI_0, atI_1, size2, size1, size3, size0, true_and, and_true, Bool.true_eq_false, Bool.false_eq_true, if_true, if_false, ite_true, ite_false, reduceIte, eq_self, ex_app, ex_app2, ite_tt, ite_ft, List.cons.injEq, W.d.injEq, PyData.int.injEq, PyData.tuple.injEq, exists_eq_left', and_assoc, exists_and_left, eqOk_int, eqD_int, eqOk_fr, eqD_fr, eqOk_str, eqD_str, id, lo_ws1, lo_ws2, lo_ws3, Bool.not_true, Bool.not_false, Bool.and_true, Bool.and_false, Bool.true_and, Bool.false_and, Bool.or_true, Bool.or_false, Bool.true_or, Bool.false_or, hw, decide_false]
    refine sq ?_
    by_cases hw2 : way = 2
    · simp only [aAnd, aAndV, aAsg, aAsgT, aBk, aC, aCB, aCall, aCallK, aChain, aCons, aCt, aDget, aDispM, aDput, aDrop, aGN, aGcons, aGnil, aGtup, aIE, aIL, aIR1, aIR2, aIT, aIZ, aIf, aIfS, aIsi, aLst, aLstM, aMt, aMt0, aNever, aNil, aNoP, aNot, aNotV, aNx, aOp, aOr, aOrV, aPar, aPar3, aRet, aRetN, aRevD, aRevM, aSl, aSmP, aTst, aTup, aUn, aVar, aYes, xAbs, xAdd, xApp, xBools, xEqB, xGcd, xI, xIc, xIdx, xInt, xInts, xIs_nn, xIs_bb, xIs_bn, xIs_in, xIs_sn, xIs_tn, xIs_ln, xLen, xListOf, xListOfM, xMax, xMin, xNeg, xPop, xSl, xSum, xTupleOf, optW, view, asB, onRL, isRL, pick, keyOf, val_cells, val_mixed, val_draws, put_draws, allD, finD, startA, List.map_cons, List.map_nil, List.length_cons, List.length_nil, List.replicate, List.cons_append, List.nil_append, List.append_nil, List.getElem?_cons_zero, List.getElem?_cons_succ, List.set_cons_zero, List.set_cons_succ, Option.join_some, Option.map_some, List.filterMap_cons, List.filterMap_nil, List.take, Nat.sub_self, Nat.add_one_sub_one, Nat.reduceSub, Nat.reduceAdd, List.replicate_zero, isT, atI_0, atI_1, size2, size1, size3, size0, true_and, and_true, Bool.true_eq_false, Bool.false_eq_true, if_true, if_false, ite_true, ite_false, reduceIte, eq_self, ex_app, ex_app2, ite_tt, ite_ft, List.cons.injEq, W.d.injEq, PyData.int.injEq, PyData.tuple.injEq, exists_eq_left', and_assoc, exists_and_left, eqOk_int, eqD_int, eqOk_fr, eqD_fr, eqOk_str, eqD_str, id, lo_ws1, lo_ws2, lo_ws3, Bool.not_true, Bool.not_false, Bool.and_true, Bool.and_false, Bool.true_and, Bool.false_and, Bool.or_true, Bool.or_false, Bool.true_or, Bool.false_or, hw2, decide_true, sp__law_int]
      exact ⟨_, r, hd1, by omega, m0, m1, fun i o2 b2 hi hb2 hd2 => q _ _ _ _ (fr_one _ _ (hi.mono (by decide)) (by decide)) (by omega) hd2⟩
    · simp only [aAnd, aAndV, aAsg, aAsgT, aBk, aC, aCB, aCall, aCallK, aChain, aCons, aCt, aDget, aDispM, aDput, aDrop, aGN, aGcons, aGnil, aGtup, aIE, aIL, aIR1, aIR2, aIT, aIZ, aIf, aIfS, aIsi, aLst, aLstM, aMt, aMt0, aNever, aNil, aNoP, aNot, aNotV, aNx, aOp, aOr, aOrV, aPar, aPar3, aRet, aRetN, aRevD, aRevM, aSl, aSmP, aTst, aTup, aUn, aVar, aYes, xAbs, xAdd, xApp, xBools, xEqB, xGcd, xI, xIc, xIdx, xInt, xInts, xIs_nn, xIs_bb, xIs_bn, xIs_in, xIs_sn, xIs_tn, xIs_ln, xLen, xListOf, xListOfM, xMax, xMin, xNeg, xPop, xSl, xSum, xTupleOf, optW, view, asB, onRL, isRL, pick, keyOf, val_cells, val_mixed, val_draws, put_draws, allD, finD, startA, List.map_cons, List.map_nil, List.length_cons, List.length_nil, List.replicate, List.cons_append, List.nil_append, List.append_nil, List.getElem?_cons_zero, List.getElem?_cons_succ, List.set_cons_zero, List.set_cons_succ, Option.join_some, Option.map_some, List.filterMap_cons, List.filterMap_nil, List.take, Nat.sub_self, Nat.add_one_sub_one, Nat.reduceSub, Nat.reduceAdd, List.replicate_zero, isT, atI_0, atI_1, size2, size1, size3, size0, true_and, and_true, Bool.true_eq_false, Bool.false_eq_true, if_true, if_false, ite_true, ite_false, reduceIte, eq_self, ex_app, ex_app2, ite_tt, ite_ft, List.cons.injEq, W.d.injEq, PyData.int.injEq, PyData.tuple.injEq, exists_eq_left', and_assoc, exists_and_left, eqOk_int, eqD_int, eqOk_fr, eqD_fr, eqOk_str, eqD_str, id, lo_ws1, lo_ws2, lo_ws3, Bool.not_true, Bool.not_false, Bool.and_true, Bool.and_false, Bool.true_and, Bool.false_and, Bool.or_true, Bool.or_false, Bool.true_or, Bool.false_or, hw2, decide_false, sp__law_int, sp__law_lowest]
      refine ⟨_, r, hd1, by omega, m0, m1, fun i o2 b2 hi hb2 hd2 => ⟨_, r, hd2, by omega, m0, m1, fun j o3 b3 hj hb3 hd3 => ?_⟩⟩
      have e1 : (if j < 0 then -j else j) = (j.natAbs : Int) := by split <;> omega
      have b1 : Bd 341 ((j.natAbs : Int) + 1) := hj.abs.add (Bd.mono (a := 1) (by decide) (by decide))
      simp only [aAnd, aAndV, aAsg, aAsgT, aBk, aC, aCB, aCall, aCallK, aChain, aCons, aCt, aDget, aDispM, aDput, aDrop, aGN, aGcons, aGnil, aGtup, aIE, aIL, aIR1, aIR2, aIT, aIZ, aIf, aIfS, aIsi, aLst, aLstM, aMt, aMt0, aNever, aNil, aNoP, aNot, aNotV, aNx, aOp, aOr, aOrV, aPar, aPar3, aRet, aRetN, aRevD, aRevM, aSeq, aSl, aSmP, aTst, aTup, aUn, aVar, aYes, xAbs, xAdd, xApp, xBools, xEqB, xGcd, xI, xIc, xIdx, xInt, xInts, xIs_nn, xIs_bb, xIs_bn, xIs_in, xIs_sn, xIs_tn, xIs_ln, xLen, xListOf, xListOfM, xMax, xMin, xNeg, xPop, xSl, xSum, xTupleOf, optW, view, asB, onRL, isRL, pick, keyOf, val_cells, val_mixed, val_draws, put_draws, allD, finD, startA, List.map_cons, List.map_nil, List.length_cons, List.length_nil, List.replicate, List.cons_append, List.nil_append, List.append_nil, List.getElem?_cons_zero, List.getElem?_cons_succ, List.set_cons_zero, List.set_cons_succ, Option.join_some, Option.map_some, List.filterMap_cons, List.filterMap_nil, List.take, Nat.sub_self, Nat.add_one_sub_one, Nat.reduceSub, Nat.reduceAdd, List.replicate_zero, isT, atI_0, atI_1, size2, size1, size3, size0, true_and, and_true, Bool.true_eq_false, Bool.false_eq_true, if_true, if_false, ite_true, ite_false, reduceIte, eq_self, ex_app, ex_app2, ite_tt, ite_ft, List.cons.injEq, W.d.injEq, PyData.int.injEq, PyData.tuple.injEq, exists_eq_left', and_assoc, exists_and_left, eqOk_int, eqD_int, eqOk_fr, eqD_fr, eqOk_str, eqD_str, id, lo_ws1, lo_ws2, lo_ws3, Bool.not_true, Bool.not_false, Bool.and_true, Bool.and_false, Bool.true_and, Bool.false_and, Bool.or_true, Bool.or_false, Bool.true_or, Bool.false_or, e1]
      exact ⟨by omega, hi.mono (by decide), b1.mono (by decide), fun p z hl => q _ _ _ _ (hl.fr (hi.mono (by decide)) b1) (by omega) hd3⟩
theorem ok__law_fraction (T : Tx K mg) : Fdf P w K mg base 4 "_law_fraction" ["deck", "most"] [] sp__law_fraction := T.d__law_fraction.fd fun f fd Fn => g__law_fraction T Fn
def sp__law_is_for : ASp := fun ws ih Q => ∃ p z t b : Int, ws = [.d (.tuple [.int p, .int z]), .d (.int t), .d (.int b)] ∧ Low t b p z ∧ Bd 5000 t ∧ Bd 5000 b ∧ Q (.d (.bool true)) ih
theorem g__law_is_for (T : Tx K mg) {f : Addr} {fd : FuncData} (Fn : Fun K "_law_is_for" "_law_is_for" st__law_is_for f fd) : FnG P w K mg base 3 f fd ["told", "top", "bottom"] sp__law_is_for := by
  refine fnG_of Fn sc__law_is_for (fun cdv => (bv_one (sv_ret (ev_and (evc (ok__law_is_fraction T) (Nat.le_of_ble_eq_true rfl) rfl (av_cons (ev_var 0) av_nil)) (ev_one (ev_cmp ov_eq (ev_op ov_mul (ev_ix (ev_var 0) ev_int) (ev_var 2)) (ev_op ov_mul (ev_var 1) (ev_ix (ev_var 0) ev_int)))))))) fun ws ob Qa hl h => ?_
  obtain ⟨p, z, t, b, rfl, hl, ht, hb, q⟩ := h
  have s1 : CMulW p b := (ht.le hl.ln).cmul hb (by decide)
  have s2 : CMulW t z := ht.cmul (hb.le hl.ld) (by decide)
  have e : decide (p * b = t * z) = true := decide_eq_true hl.eq
  simp only [aAnd, aAndV, aAsg, aAsgT, aBk, aC, aCB, aCall, aCallK, aChain, aCons, aCt, aDget, aDispM, aDput, aDrop, aGN, aGcons, aGnil, aGtup, aIE, aIL, aIR1, aIR2, aIT, aIZ, aIf, aIfS, aIsi, aLst, aLstM, aMt, aMt0, aNever, aNil, aNoP, aNot, aNotV, aNx, aOp, aOr, aOrV, aPar, aPar3, aRet, aRetN, aRevD, aRevM, aSeq, aSl, aSmP, aTst, aTup, aUn, aVar, aYes, xAbs, xAdd, xApp, xBools, xEqB, xGcd, xI, xIc, xIdx, xInt, xInts, xIs_nn, xIs_bb, xIs_bn, xIs_in, xIs_sn, xIs_tn, xIs_ln, xLen, xListOf, xListOfM, xMax, xMin, xNeg, xPop, xSl, xSum, xTupleOf, optW, view, asB, onRL, isRL, pick, keyOf, val_cells, val_mixed, val_draws, put_draws, allD, finD, startA, List.map_cons, List.map_nil, List.length_cons, List.length_nil, List.replicate, List.cons_append, List.nil_append, List.append_nil, List.getElem?_cons_zero, List.getElem?_cons_succ, List.set_cons_zero, List.set_cons_succ, Option.join_some, Option.map_some, List.filterMap_cons, List.filterMap_nil, List.take, Nat.sub_self, Nat.add_one_sub_one, Nat.reduceSub, Nat.reduceAdd, List.replicate_zero, isT, atI_0, atI_1, size2, size1, size3, size0, true_and, and_true, Bool.true_eq_false, Bool.false_eq_true, if_true, if_false, ite_true, ite_false, reduceIte, eq_self, ex_app, ex_app2, ite_tt, ite_ft, List.cons.injEq, W.d.injEq, PyData.int.injEq, PyData.tuple.injEq, exists_eq_left', and_assoc, exists_and_left, eqOk_int, eqD_int, eqOk_fr, eqD_fr, eqOk_str, eqD_str, id, lo_ws1, lo_ws2, lo_ws3, Bool.not_true, Bool.not_false, Bool.and_true, Bool.and_false, Bool.true_and, Bool.false_and, Bool.or_true, Bool.or_false, Bool.true_or, Bool.false_or, sp__law_is_fraction, s1, s2, e]
  exact ⟨hl.pos, hl.gcd, q⟩
theorem ok__law_is_for (T : Tx K mg) : Fdf P w K mg base 3 "_law_is_for" ["told", "top", "bottom"] [] sp__law_is_for := T.d__law_is_for.fd fun f fd Fn => g__law_is_for T Fn
def sp__law_second : ASp := fun ws ih Q => ∃ (m n d : Int) (b : Nat) (r : IH), ws = [.ref 1, .d (.tuple [.int n, .int d]), .d (.int m)] ∧ Dk b r ih ∧ b ≤ 80000 ∧ 1 ≤ m ∧ m ≤ 90 ∧ Fr 341 n d ∧ ∀ n d ih2 b2, Fr 345 n d → b2 ≤ b + 43 → Dk b2 r ih2 → Q (.d (.tuple [.int n, .int d])) ih2
theorem g__law_second (T : Tx K mg) {f : Addr} {fd : FuncData} (Fn : Fun K "_law_second" "_law_second" st__law_second f fd) : FnG P w K mg base 5 f fd ["deck", "one", "most"] sp__law_second := by
  refine fnG_ofI Fn sc__law_second (fun cdv => (bv_cons (sv_asg (ev_var 1) (GW.gv (vs := [3, 4]) (gw_tup (n := 2) (gws_cons (gw_name 3) (gws_cons (gw_name 4) gws_nil)))))
      (bv_cons (sv_set 5 (ev_lst (av_cons (ev_var 1) (av_cons (ev_tup (av_cons (ev_un uv_neg (ev_var 3)) (av_cons (ev_var 4) av_nil))) (av_cons (ev_tup (av_cons (ev_op ov_add (ev_var 3) (ev_var 4)) (av_cons (ev_var 4) av_nil))) (av_cons (evc (ok__law_lowest T) (Nat.le_of_ble_eq_true rfl) rfl (av_cons (ev_var 4) (av_cons (ev_ifE (tv_cmp ov_ne (ev_var 3) ev_int) (ev_var 3) ev_int) av_nil))) (av_cons (evc (ok__law_lowest T) (Nat.le_of_ble_eq_true rfl) rfl (av_cons (ev_var 3) (av_cons (ev_op ov_mul ev_int (ev_var 4)) av_nil))) (av_cons (evc (ok__law_lowest T) (Nat.le_of_ble_eq_true rfl) rfl (av_cons (ev_op ov_mul ev_int (ev_var 3)) (av_cons (ev_var 4) av_nil))) av_nil))))))))
      (bv_one (sv_ret (ev_ifE (tv_cmp ov_eq (evc (ok__law_draw T) (Nat.le_of_ble_eq_true rfl) rfl (av_cons (ev_var 0) (av_cons ev_int av_nil))) ev_int) (evc (ok__law_pick T) (Nat.le_of_ble_eq_true rfl) rfl (av_cons (ev_var 0) (av_cons (ev_var 5) av_nil))) (evc (ok__law_fraction T) (Nat.le_of_ble_eq_true rfl) rfl (av_cons (ev_var 0) (av_cons (ev_var 2) av_nil))))))))) fun ws ob Qa hl h => ?_
  obtain ⟨m, n, d, b, r, rfl, hd, hb, m0, m1, F, q⟩ := h
  have sz : (6 : Nat) ≤ sizeLine := by decide
  have c6 : CMulW 6 n := (Bd.mono (a := 3) (by decide) (Nat.le_refl _)).cmul F.bn (by decide)
  have c2 : CMulW 2 d := (Bd.mono (a := 2) (by decide) (Nat.le_refl _)).cmul F.bd (by decide)
  have b6 : Bd 344 (6 * n) := (Bd.mul (a := 3) (by decide) F.bn)
  have b2 : Bd 343 (2 * d) := (Bd.mul (a := 2) (by decide) F.bd)
  have p0 := F.pos
  refine sq ?_
  simp only [aAnd, aAndV, aAsg, aAsgT, aBk, aC, aCB, aCall, aCallK, aChain, aCons, aCt, aDget, aDispM, aDput, aDrop, aGN, aGcons, aGnil, aGtup, aIE, aIL, aIR1, aIR2, aIT, aIZ, aIf, aIfS, aIsi, aLst, aLstM, aMt, aMt0, aNever, aNil, aNoP, aNot, aNotV, aNx, aOp, aOr, aOrV, aPar, aPar3, aRet, aRetN, aRevD, aRevM, aSl, aSmP, aTst, aTup, aUn, aVar, aYes, xAbs, xAdd, xApp, xBools, xEqB, xGcd, xI, xIc, xIdx, xInt, xInts, xIs_nn, xIs_bb, xIs_bn, xIs_in, xIs_sn, xIs_tn, xIs_ln, xLen, xListOf, xListOfM, xMax, xMin, xNeg, xPop, xSl, xSum, xTupleOf, optW, view, asB, onRL, isRL, pick, keyOf, val_cells, val_mixed, val_draws, put_draws, allD, finD, startA, List.map_cons, List.map_nil, List.length_cons, List.length_nil, List.replicate, List.cons_append, List.nil_append, List.append_nil, List.getElem?_cons_zero, List.getElem?_cons_succ, List.set_cons_zero, List.set_cons_succ, Option.join_some, Option.map_some, List.filterMap_cons, List.filterMap_nil, List.take, Nat.sub_self, Nat.add_one_sub_one, Nat.reduceSub, Nat.reduceAdd, List.replicate_zero, isT, atI_0, atI_1, size2, size1, size3, size0, true_and, and_true, Bool.true_eq_false, Bool.false_eq_true, if_true, if_false, ite_true, ite_false, reduceIte, eq_self, ex_app, ex_app2, ite_tt, ite_ft, List.cons.injEq, W.d.injEq, PyData.int.injEq, PyData.tuple.injEq, exists_eq_left', and_assoc, exists_and_left, eqOk_int, eqD_int, eqOk_fr, eqD_fr, eqOk_str, eqD_str, id, lo_ws1, lo_ws2, lo_ws3, Bool.not_true, Bool.not_false, Bool.and_true, Bool.and_false, Bool.true_and, Bool.false_and, Bool.or_true, Bool.or_false, Bool.true_or, Bool.false_or]
  have fin : ∀ x o, ∀ p1 q1 p2 q2 p3 q3 : Int, Fr 342 p1 q1 → Fr 343 p2 q2 → Fr 344 p3 q3 → x ∈ [PyData.tuple [.int n, .int d], .tuple [.int (-n), .int d], .tuple [.int (n + d), .int d], .tuple [.int p1, .int q1], .tuple [.int p2, .int q2], .tuple [.int p3, .int q3]] → Dk (b + 2) r o → Qa (.d x) o := by
    intro x o p1 q1 p2 q2 p3 q3 f1 f2 f3 hx hd5
    obtain ⟨n, d, rfl, F⟩ : ∃ n d : Int, x = .tuple [.int n, .int d] ∧ Fr 345 n d := by
      simp only [List.mem_cons, List.not_mem_nil, or_false] at hx
      rcases hx with rfl | rfl | rfl | rfl | rfl | rfl
      · exact ⟨_, _, rfl, F.mono (by decide)⟩
      · exact ⟨_, _, rfl, F.pos, by rw [Int.neg_gcd]; exact F.gcd, F.bn.neg.mono (by decide), F.bd.mono (by decide)⟩
      · exact ⟨_, _, rfl, F.pos, by rw [Int.gcd_add_self_left]; exact F.gcd, (F.bn.add F.bd).mono (by decide), F.bd.mono (by decide)⟩
      · exact ⟨_, _, rfl, f1.mono (by decide)⟩
      · exact ⟨_, _, rfl, f2.mono (by decide)⟩
      · exact ⟨_, _, rfl, f3.mono (by decide)⟩
    exact q _ _ _ _ F (by omega) hd5
  refine sqm (fun env ih => ih = ob ∧ ∃ p1 q1 p2 q2 p3 q3 : Int, Fr 342 p1 q1 ∧ Fr 343 p2 q2 ∧ Fr 344 p3 q3 ∧ env = [some (.ref 1), some (.d (.tuple [.int n, .int d])), some (.d (.int m)), some (.d (.int n)), some (.d (.int d)), some (.d (.list [.tuple [.int n, .int d], .tuple [.int (-n), .int d], .tuple [.int (n + d), .int d], .tuple [.int p1, .int q1], .tuple [.int p2, .int q2], .tuple [.int p3, .int q3]]))]) ?_ ?_
  · rintro env ih ⟨rfl, p1, q1, p2, q2, p3, q3, f1, f2, f3, rfl⟩
    simp only [aAnd, aAndV, aAsg, aAsgT, aBk, aC, aCB, aCall, aCallK, aChain, aCons, aCt, aDget, aDispM, aDput, aDrop, aGN, aGcons, aGnil, aGtup, aIE, aIL, aIR1, aIR2, aIT, aIZ, aIf, aIfS, aIsi, aLst, aLstM, aMt, aMt0, aNever, aNil, aNoP, aNot, aNotV, aNx, aOp, aOr, aOrV, aPar, aPar3, aRet, aRetN, aRevD, aRevM, aSeq, aSl, aSmP, aTst, aTup, aUn, aVar, aYes, xAbs, xAdd, xApp, xBools, xEqB, xGcd, xI, xIc, xIdx, xInt, xInts, xIs_nn, xIs_bb, xIs_bn, xIs_in, xIs_sn, xIs_tn, xIs_ln, xLen, xListOf, xListOfM, xMax, xMin, xNeg, xPop, xSl, xSum, xTupleOf, optW, view, asB, onRL, isRL, pick, keyOf, val_cells, val_mixed, val_draws, put_draws, allD, finD, startA, List.map_cons, List.map_nil, List.length_cons, List.length_nil, List.replicate, List.cons_append, List.nil_append, List.append_nil, List.getElem?_cons_zero, List.getElem?_cons_succ, List.set_cons_zero, List.set_cons_succ, Option.join_some, Option.map_some, List.filterMap_cons, List.filterMap_nil, List.take, Nat.sub_self, Nat.add_one_sub_one, Nat.reduceSub, Nat.reduceAdd, List.replicate_zero, isT, atI_0, atI_1, size2, size1, size3, size0, true_and, and_true, Bool.true_eq_false, Bool.false_eq_true, if_true, if_false, ite_true, ite_false, reduceIte, eq_self, ex_app, ex_app2, ite_tt, ite_ft, List.cons.injEq, W.d.injEq, PyData.int.injEq, PyData.tuple.injEq, exists_eq_left', and_assoc, exists_and_left, eqOk_int, eqD_int, eqOk_fr, eqD_fr, eqOk_str, eqD_str, id, lo_ws1, lo_ws2, lo_ws3, Bool.not_true, Bool.not_false, Bool.and_true, Bool.and_false, Bool.true_and, Bool.false_and, Bool.or_true, Bool.or_false, Bool.true_or, Bool.false_or, sp__law_draw, sp__law_pick, sp__law_fraction, PyData.list.injEq]
    refine ⟨b, r, hd, by omega, by decide, by decide, fun k2 o1 k0 k1 hd1 => ?_⟩
    by_cases hk : k2 = 0
    · simp only [aAnd, aAndV, aAsg, aAsgT, aBk, aC, aCB, aCall, aCallK, aChain, aCons, aCt, aDget, aDispM, aDput, aDrop, aGN, aGcons, aGnil, aGtup, aIE, aIL, aIR1, aIR2, aIT, aIZ, aIf, aIfS, aIsi, aLst, aLstM, aMt, aMt0, aNever, aNil, aNoP, aNot, aNotV, aNx, aOp, aOr, aOrV, aPar, aPar3, aRet, aRetN, aRevD, aRevM, aSeq, aSl, aSmP, aTst, aTup, aUn, aVar, aYes, xAbs, xAdd, xApp, xBools, xEqB, xGcd, xI, xIc, xIdx, xInt, xInts, xIs_nn, xIs_bb, xIs_bn, xIs_in, xIs_sn, xIs_tn, xIs_ln, xLen, xListOf, xListOfM, xMax, xMin, xNeg, xPop, xSl, xSum, xTupleOf, optW, view, asB, onRL, isRL, pick, keyOf, val_cells, val_mixed, val_draws, put_draws, allD, finD, startA, List.map_cons, List.map_nil, List.length_cons, List.length_nil, List.replicate, List.cons_append, List.nil_append, List.append_nil, List.getElem?_cons_zero, List.getElem?_cons_succ, List.set_cons_zero, List.set_cons_succ, Option.join_some, Option.map_some, List.filterMap_cons, List.filterMap_nil, List.take, Nat.sub_self, Nat.add_one_sub_one, Nat.reduceSub, Nat.reduceAdd, List.replicate_zero, isT, atI_0, atI_1, size2, size1, size3, size0, true_and, and_true, Bool.true_eq_false, Bool.false_eq_true, if_true, if_false, ite_true, ite_false, reduceIte, eq_self, ex_app, ex_app2, ite_tt, ite_ft, List.cons.injEq, W.d.injEq, PyData.int.injEq, PyData.tuple.injEq, exists_eq_left', and_assoc, exists_and_left, eqOk_int, eqD_int, eqOk_fr, eqD_fr, eqOk_str, eqD_str, id, lo_ws1, lo_ws2, lo_ws3, Bool.not_true, Bool.not_false, Bool.and_true, Bool.and_false, Bool.true_and, Bool.false_and, Bool.or_true, Bool.or_false, Bool.true_or, Bool.false_or, hk, decide_true]
      exact ⟨_, r, hd1, by omega, by decide, by decide, fun x o hx hd2 => fin x o p1 q1 p2 q2 p3 q3 f1 f2 f3 hx hd2⟩
    · simp only [aAnd, aAndV, aAsg, aAsgT, aBk, aC, aCB, aCall, aCallK, aChain, aCons, aCt, aDget, aDispM, aDput, aDrop, aGN, aGcons, aGnil, aGtup, aIE, aIL, aIR1, aIR2, aIT, aIZ, aIf, aIfS, aIsi, aLst, aLstM, aMt, aMt0, aNever, aNil, aNoP, aNot, aNotV, aNx, aOp, aOr, aOrV, aPar, aPar3, aRet, aRetN, aRevD, aRevM, aSeq, aSl, aSmP, aTst, aTup, aUn, aVar, aYes, xAbs, xAdd, xApp, xBools, xEqB, xGcd, xI, xIc, xIdx, xInt, xInts, xIs_nn, xIs_bb, xIs_bn, xIs_in, xIs_sn, xIs_tn, xIs_ln, xLen, xListOf, xListOfM, xMax, xMin, xNeg, xPop, xSl, xSum, xTupleOf, optW, view, asB, onRL, isRL, pick, keyOf, val_cells, val_mixed, val_draws, put_draws, allD, finD, startA, List.map_cons, List.map_nil, List.length_cons, List.length_nil, List.replicate, List.cons_append, List.nil_append, List.append_nil, List.getElem?_cons_zero, List.getElem?_cons_succ, List.set_cons_zero, List.set_cons_succ, Option.join_some, Option.map_some, List.filterMap_cons, List.filterMap_nil, List.take, Nat.sub_self, Nat.add_one_sub_one, Nat.reduceSub, Nat.reduceAdd, List.replicate_zero, isT, atI_0, atI_1, size2, size1, size3, size0, true_and, and_true, Bool.true_eq_false, Bool.false_eq_true, if_true, if_false, ite_true, ite_false, reduceIte, eq_self, ex_app, ex_app2, ite_tt, ite_ft, List.cons.injEq, W.d.injEq, PyData.int.injEq, PyData.tuple.injEq, exists_eq_left', and_assoc, exists_and_left, eqOk_int, eqD_int, eqOk_fr, eqD_fr, eqOk_str, eqD_str, id, lo_ws1, lo_ws2, lo_ws3, Bool.not_true, Bool.not_false, Bool.and_true, Bool.and_false, Bool.true_and, Bool.false_and, Bool.or_true, Bool.or_false, Bool.true_or, Bool.false_or, hk, decide_false]
      exact ⟨_, r, hd1, by omega, m0, m1, fun n d o b2 F hb2 hd2 => q _ _ _ _ (F.mono (by decide)) (by omega) hd2⟩
  · intro R hR
    have cs : (n = 0 ∧ decide (n = 0) = true) ∨ (n ≠ 0 ∧ decide (n = 0) = false) := by
      by_cases hn : n = 0
      · exact .inl ⟨hn, decide_eq_true hn⟩
      · exact .inr ⟨hn, decide_eq_false hn⟩
    rcases cs with ⟨hn, hk⟩ | ⟨hn, hk⟩
    all_goals
      simp only [aAnd, aAndV, aAsg, aAsgT, aBk, aC, aCB, aCall, aCallK, aChain, aCons, aCt, aDget, aDispM, aDput, aDrop, aGN, aGcons, aGnil, aGtup, aIE, aIL, aIR1, aIR2, aIT, aIZ, aIf, aIfS, aIsi, aLst, aLstM, aMt, aMt0, aNever, aNil, aNoP, aNot, aNotV, aNx, aOp, aOr, aOrV, aPar, aPar3, aRet, aRetN, aRevD, aRevM, aSl, aSmP, aTst, aTup, aUn, aVar, aYes, xAbs, xAdd, xApp, xBools, xEqB, xGcd, xI, xIc, xIdx, xInt, xInts, xIs_nn, xIs_bb, xIs_bn, xIs_in, xIs_sn, xIs_tn, xIs_ln, xLen, xListOf, xListOfM, xMax, xMin, xNeg, xPop, xSl, xSum, xTupleOf, optW, view, asB, onRL, isRL, pick, keyOf, val_cells, val_mixed, val_draws, put_draws, allD, finD, startA, List.map_cons, List.map_nil, List.length_cons, List.length_nil, List.replicate, List.cons_append, List.nil_append, List.append_nil, List.getElem?_cons_zero, List.getElem?_cons_succ, List.set_cons_zero, List.set_cons_succ, Option.join_some, Option.map_some, List.filterMap_cons, List.filterMap_nil, List.take, Nat.sub_self, Nat.add_one_sub_one, Nat.reduceSub, Nat.reduceAdd, List.replicate_zero, isT, atI_0, atI_1, size2, size1, size3, size0, true_and, and_true, Bool.true_eq_false, Bool.false_eq_true, if_true, if_false, ite_true, ite_false, reduceIte, eq_self, ex_app, ex_app2, ite_tt, ite_ft, List.cons.injEq, W.d.injEq, PyData.int.injEq, PyData.tuple.injEq, exists_eq_left', and_assoc, exists_and_left, eqOk_int, eqD_int, eqOk_fr, eqD_fr, eqOk_str, eqD_str, id, lo_ws1, lo_ws2, lo_ws3, Bool.not_true, Bool.not_false, Bool.and_true, Bool.and_false, Bool.true_and, Bool.false_and, Bool.or_true, Bool.or_false, Bool.true_or, Bool.false_or, sp__law_lowest, c6, c2, sz, hk]
      refine ⟨by omega, F.bd.mono (by decide), by first | exact F.bn.mono (by decide) | decide, fun p1 q1 l1 => ?_⟩
      refine ⟨by omega, by first | exact F.bn.mono (by decide) | decide, b2.mono (by decide), fun p2 q2 l2 => ?_⟩
      refine ⟨by omega, by first | exact b6.mono (by decide) | decide, F.bd.mono (by decide), fun p3 q3 l3 => ?_⟩
      refine hR _ _ ⟨rfl, p1, q1, p2, q2, p3, q3, ?_, ?_, ?_, ?_⟩
      · first | exact l1.fr (F.bd.mono (by decide)) (F.bn.mono (by decide)) | exact l1.fr (F.bd.mono (by decide)) (by decide)
      · first | exact l2.fr (F.bn.mono (by decide)) b2 | exact l2.fr (by decide) b2
      · first | exact l3.fr b6 (F.bd.mono (by decide)) | exact l3.fr (by decide) (F.bd.mono (by decide))
      · rfl
theorem ok__law_second (T : Tx K mg) : Fdf P w K mg base 5 "_law_second" ["deck", "one", "most"] [] sp__law_second := T.d__law_second.fd fun f fd Fn => g__law_second T Fn
theorem fdiv_abs (n d : Int) (h : 0 < d) : (n.fdiv d).natAbs ≤ n.natAbs := by
  rw [Int.fdiv_eq_ediv_of_nonneg _ (by omega)]
  exact Int.natAbs_ediv_le_natAbs n d
theorem Low.as {n d n2 d2 p q : Int} (h : Low n d p q) (e : n = n2) (e2 : d = d2) : Low n2 d2 p q := by subst e e2; exact h
def sp__law_are_sums_right : ASp := fun ws ih Q => ∃ a b c d : Int, ws = [.d (.tuple [.int a, .int b]), .d (.tuple [.int c, .int d])] ∧ Fr 500 a b ∧ Fr 500 c d ∧ Q (.d (.bool true)) ih
theorem g__law_are_sums_right (T : Tx K mg) {f : Addr} {fd : FuncData} (Fn : Fun K "_law_are_sums_right" "_law_are_sums_right" st__law_are_sums_right f fd) : FnG P w K mg base 7 f fd ["one", "other"] sp__law_are_sums_right := by
  refine fnG_of Fn sc__law_are_sums_right (fun cdv => (bv_cons (sv_asgT (n := 2) (vs := [2, 3, 4, 5]) (av_cons (ev_var 0) (av_cons (ev_var 1) av_nil)) (gws_cons (gw_tup (n := 2) (gws_cons (gw_name 2) (gws_cons (gw_name 3) gws_nil))) (gws_cons (gw_tup (n := 2) (gws_cons (gw_name 4) (gws_cons (gw_name 5) gws_nil))) gws_nil)) (hw := fun env => by unfold swappedStores; generalize (env.blockKind != .function) = bb; cases bb <;> rfl))
      (bv_cons (sv_if (WV.tv (wv_or (tv_not (tv_val (evc (ok__law_is_for T) (Nat.le_of_ble_eq_true rfl) rfl (av_cons (evc (ok_plus T) (Nat.le_of_ble_eq_true rfl) rfl (av_cons (ev_var 0) (av_cons (ev_var 1) av_nil))) (av_cons (ev_op ov_add (ev_op ov_mul (ev_var 2) (ev_var 5)) (ev_op ov_mul (ev_var 4) (ev_var 3))) (av_cons (ev_op ov_mul (ev_var 3) (ev_var 5)) av_nil)))))) (wv_or1 (tv_not (tv_val (evc (ok__law_is_for T) (Nat.le_of_ble_eq_true rfl) rfl (av_cons (evk0 (ks := ["other", "one"]) (b := 2) (is := [1, 0]) (ok_plus T) (Nat.le_of_ble_eq_true rfl) rfl (by simp) (kv_cons (ev_var 0) (kv_cons (ev_var 1) kv_nil))) (av_cons (ev_op ov_add (ev_op ov_mul (ev_var 2) (ev_var 5)) (ev_op ov_mul (ev_var 4) (ev_var 3))) (av_cons (ev_op ov_mul (ev_var 3) (ev_var 5)) av_nil))))))))) (bv_one (sv_ret ev_bl)) bv_nil)
      (bv_cons (sv_if (WV.tv (wv_or (tv_not (tv_val (evc (ok__law_is_for T) (Nat.le_of_ble_eq_true rfl) rfl (av_cons (evc (ok_minus T) (Nat.le_of_ble_eq_true rfl) rfl (av_cons (ev_var 0) (av_cons (ev_var 1) av_nil))) (av_cons (ev_op ov_sub (ev_op ov_mul (ev_var 2) (ev_var 5)) (ev_op ov_mul (ev_var 4) (ev_var 3))) (av_cons (ev_op ov_mul (ev_var 3) (ev_var 5)) av_nil)))))) (wv_or1 (tv_not (tv_val (evc (ok__law_is_for T) (Nat.le_of_ble_eq_true rfl) rfl (av_cons (evk0 (ks := ["other", "one"]) (b := 2) (is := [1, 0]) (ok_minus T) (Nat.le_of_ble_eq_true rfl) rfl (by simp) (kv_cons (ev_var 0) (kv_cons (ev_var 1) kv_nil))) (av_cons (ev_op ov_sub (ev_op ov_mul (ev_var 4) (ev_var 3)) (ev_op ov_mul (ev_var 2) (ev_var 5))) (av_cons (ev_op ov_mul (ev_var 3) (ev_var 5)) av_nil))))))))) (bv_one (sv_ret ev_bl)) bv_nil)
      (bv_cons (sv_if (WV.tv (wv_or (tv_not (tv_val (evc (ok__law_is_for T) (Nat.le_of_ble_eq_true rfl) rfl (av_cons (evc (ok_times T) (Nat.le_of_ble_eq_true rfl) rfl (av_cons (ev_var 0) (av_cons (ev_var 1) av_nil))) (av_cons (ev_op ov_mul (ev_var 2) (ev_var 4)) (av_cons (ev_op ov_mul (ev_var 3) (ev_var 5)) av_nil)))))) (wv_or1 (tv_not (tv_val (evc (ok__law_is_for T) (Nat.le_of_ble_eq_true rfl) rfl (av_cons (evk0 (ks := ["other", "one"]) (b := 2) (is := [1, 0]) (ok_times T) (Nat.le_of_ble_eq_true rfl) rfl (by simp) (kv_cons (ev_var 0) (kv_cons (ev_var 1) kv_nil))) (av_cons (ev_op ov_mul (ev_var 2) (ev_var 4)) (av_cons (ev_op ov_mul (ev_var 3) (ev_var 5)) av_nil))))))))) (bv_one (sv_ret ev_bl)) bv_nil)
      (bv_cons (sv_if (WV.tv (wv_and (tv_cmp ov_ne (ev_var 4) ev_int) (wv_and1 (tv_not (tv_val (evc (ok__law_is_for T) (Nat.le_of_ble_eq_true rfl) rfl (av_cons (evc (ok_over T) (Nat.le_of_ble_eq_true rfl) rfl (av_cons (ev_var 0) (av_cons (ev_var 1) av_nil))) (av_cons (ev_op ov_mul (ev_var 2) (ev_var 5)) (av_cons (ev_op ov_mul (ev_var 3) (ev_var 4)) av_nil))))))))) (bv_one (sv_ret ev_bl)) bv_nil)
      (bv_one (sv_ret (ev_or (ev_cmp ov_eq (ev_var 2) ev_int) (ev_one (evc (ok__law_is_for T) (Nat.le_of_ble_eq_true rfl) rfl (av_cons (evk0 (ks := ["other", "one"]) (b := 2) (is := [1, 0]) (ok_over T) (Nat.le_of_ble_eq_true rfl) rfl (by simp) (kv_cons (ev_var 0) (kv_cons (ev_var 1) kv_nil))) (av_cons (ev_op ov_mul (ev_var 4) (ev_var 3)) (av_cons (ev_op ov_mul (ev_var 5) (ev_var 2)) av_nil)))))))))))))) fun ws ob Qa hl h => ?_
  obtain ⟨a, b, c, d, rfl, F1, F2, q⟩ := h
  have G1 : Fr 1400 a b := F1.mono (by decide)
  have G2 : Fr 1400 c d := F2.mono (by decide)
  have s1 : CMulW a d := F1.bn.cmul F2.bd (by decide)
  have s2 : CMulW c b := F2.bn.cmul F1.bd (by decide)
  have s3 : CMulW b d := F1.bd.cmul F2.bd (by decide)
  have s4 : CMulW a c := F1.bn.cmul F2.bn (by decide)
  have s5 : CMulW b c := F1.bd.cmul F2.bn (by decide)
  have s6 : CMulW d a := F2.bd.cmul F1.bn (by decide)
  have t1 : Bd 5000 (a * d + c * b) := ((F1.bn.mul F2.bd).add (F2.bn.mul F1.bd)).mono (by decide)
  have t2 : Bd 5000 (b * d) := (F1.bd.mul F2.bd).mono (by decide)
  have t3 : Bd 5000 (a * d - c * b) := ((F1.bn.mul F2.bd).sub (F2.bn.mul F1.bd)).mono (by decide)
  have t4 : Bd 5000 (c * b - a * d) := ((F2.bn.mul F1.bd).sub (F1.bn.mul F2.bd)).mono (by decide)
  have t5 : Bd 5000 (a * c) := (F1.bn.mul F2.bn).mono (by decide)
  have t6 : Bd 5000 (a * d) := (F1.bn.mul F2.bd).mono (by decide)
  have t7 : Bd 5000 (b * c) := (F1.bd.mul F2.bn).mono (by decide)
  have t8 : Bd 5000 (c * b) := (F2.bn.mul F1.bd).mono (by decide)
  have t9 : Bd 5000 (d * a) := (F2.bd.mul F1.bn).mono (by decide)
  refine sq ?_
  simp only [aAnd, aAndV, aAsg, aAsgT, aBk, aC, aCB, aCall, aCallK, aChain, aCons, aCt, aDget, aDispM, aDput, aDrop, aGN, aGcons, aGnil, aGtup, aIE, aIL, aIR1, aIR2, aIT, aIZ, aIf, aIfS, aIsi, aLst, aLstM, aMt, aMt0, aNever, aNil, aNoP, aNot, aNotV, aNx, aOp, aOr, aOrV, aPar, aPar3, aRet, aRetN, aRevD, aRevM, aSl, aSmP, aTst, aTup, aUn, aVar, aYes, xAbs, xAdd, xApp, xBools, xEqB, xGcd, xI, xIc, xIdx, xInt, xInts, xIs_nn, xIs_bb, xIs_bn, xIs_in, xIs_sn, xIs_tn, xIs_ln, xLen, xListOf, xListOfM, xMax, xMin, xNeg, xPop, xSl, xSum, xTupleOf, optW, view, asB, onRL, isRL, pick, keyOf, val_cells, val_mixed, val_draws, put_draws, allD, finD, startA, List.map_cons, List.map_nil, List.length_cons, List.length_nil, List.replicate, List.cons_append, List.nil_append, List.append_nil, List.getElem?_cons_zero, List.getElem?_cons_succ, List.set_cons_zero, List.set_cons_succ, Option.join_some, Option.map_some, List.filterMap_cons, List.filterMap_nil, List.take, Nat.sub_self, Nat.add_one_sub_one, Nat.reduceSub, Nat.reduceAdd, List.replicate_zero, isT, atI_0, atI_1, size2, size1, size3, size0, true_and, and_true, Bool.true_eq_false, Bool.false_eq_true, if_true, if_false, ite_true, ite_false, reduceIte, eq_self, ex_app, ex_app2, ite_tt, ite_ft, List.cons.injEq, W.d.injEq, PyData.int.injEq, PyData.tuple.injEq, exists_eq_left', and_assoc, exists_and_left, eqOk_int, eqD_int, eqOk_fr, eqD_fr, eqOk_str, eqD_str, id, lo_ws1, lo_ws2, lo_ws3, Bool.not_true, Bool.not_false, Bool.and_true, Bool.and_false, Bool.true_and, Bool.false_and, Bool.or_true, Bool.or_false, Bool.true_or, Bool.false_or]
  refine sq ?_
  simp only [aAnd, aAndV, aAsg, aAsgT, aBk, aC, aCB, aCall, aCallK, aChain, aCons, aCt, aDget, aDispM, aDput, aDrop, aGN, aGcons, aGnil, aGtup, aIE, aIL, aIR1, aIR2, aIT, aIZ, aIf, aIfS, aIsi, aLst, aLstM, aMt, aMt0, aNever, aNil, aNoP, aNot, aNotV, aNx, aOp, aOr, aOrV, aPar, aPar3, aRet, aRetN, aRevD, aRevM, aSl, aSmP, aTst, aTup, aUn, aVar, aYes, xAbs, xAdd, xApp, xBools, xEqB, xGcd, xI, xIc, xIdx, xInt, xInts, xIs_nn, xIs_bb, xIs_bn, xIs_in, xIs_sn, xIs_tn, xIs_ln, xLen, xListOf, xListOfM, xMax, xMin, xNeg, xPop, xSl, xSum, xTupleOf, optW, view, asB, onRL, isRL, pick, keyOf, val_cells, val_mixed, val_draws, put_draws, allD, finD, startA, List.map_cons, List.map_nil, List.length_cons, List.length_nil, List.replicate, List.cons_append, List.nil_append, List.append_nil, List.getElem?_cons_zero, List.getElem?_cons_succ, List.set_cons_zero, List.set_cons_succ, Option.join_some, Option.map_some, List.filterMap_cons, List.filterMap_nil, List.take, Nat.sub_self, Nat.add_one_sub_one, Nat.reduceSub, Nat.reduceAdd, List.replicate_zero, isT, atI_0, atI_1, size2, size1, size3, size0, true_and, and_true, Bool.true_eq_false, Bool.false_eq_true, if_true, if_false, ite_true, ite_false, reduceIte, eq_self, ex_app, ex_app2, ite_tt, ite_ft, List.cons.injEq, W.d.injEq, PyData.int.injEq, PyData.tuple.injEq, exists_eq_left', and_assoc, exists_and_left, eqOk_int, eqD_int, eqOk_fr, eqD_fr, eqOk_str, eqD_str, id, lo_ws1, lo_ws2, lo_ws3, Bool.not_true, Bool.not_false, Bool.and_true, Bool.and_false, Bool.true_and, Bool.false_and, Bool.or_true, Bool.or_false, Bool.true_or, Bool.false_or, sp_plus, sp_plus_f, sp__law_is_for, s1, s2, s3, t1, t2, G1, G2]
  intro p z h1
  refine ⟨h1, fun p z h2 => ⟨h2.as (Int.add_comm _ _) (Int.mul_comm _ _), ?_⟩⟩
  refine sq ?_
  simp only [aAnd, aAndV, aAsg, aAsgT, aBk, aC, aCB, aCall, aCallK, aChain, aCons, aCt, aDget, aDispM, aDput, aDrop, aGN, aGcons, aGnil, aGtup, aIE, aIL, aIR1, aIR2, aIT, aIZ, aIf, aIfS, aIsi, aLst, aLstM, aMt, aMt0, aNever, aNil, aNoP, aNot, aNotV, aNx, aOp, aOr, aOrV, aPar, aPar3, aRet, aRetN, aRevD, aRevM, aSl, aSmP, aTst, aTup, aUn, aVar, aYes, xAbs, xAdd, xApp, xBools, xEqB, xGcd, xI, xIc, xIdx, xInt, xInts, xIs_nn, xIs_bb, xIs_bn, xIs_in, xIs_sn, xIs_tn, xIs_ln, xLen, xListOf, xListOfM, xMax, xMin, xNeg, xPop, xSl, xSum, xTupleOf, optW, view, asB, onRL, isRL, pick, keyOf, val_cells, val_mixed, val_draws, put_draws, allD, finD, startA, List.map_cons, List.map_nil, List.length_cons, List.length_nil, List.replicate, List.cons_append, List.nil_append, List.append_nil, List.getElem?_cons_zero, List.getElem?_cons_succ, List.set_cons_zero, List.set_cons_succ, Option.join_some, Option.map_some, List.filterMap_cons, List.filterMap_nil, List.take, Nat.sub_self, Nat.add_one_sub_one, Nat.reduceSub, Nat.reduceAdd, List.replicate_zero, isT, atI_0, atI_1, size2, size1, size3, size0, true_and, and_true, Bool.true_eq_false, Bool.false_eq_true, if_true, if_false, ite_true, ite_false, reduceIte, eq_self, ex_app, ex_app2, ite_tt, ite_ft, List.cons.injEq, W.d.injEq, PyData.int.injEq, PyData.tuple.injEq, exists_eq_left', and_assoc, exists_and_left, eqOk_int, eqD_int, eqOk_fr, eqD_fr, eqOk_str, eqD_str, id, lo_ws1, lo_ws2, lo_ws3, Bool.not_true, Bool.not_false, Bool.and_true, Bool.and_false, Bool.true_and, Bool.false_and, Bool.or_true, Bool.or_false, Bool.true_or, Bool.false_or, sp_minus, sp_minus_f, sp__law_is_for, s1, s2, s3, t2, t3, t4, G1, G2]
  intro p z h1
  refine ⟨h1, fun p z h2 => ⟨h2.as rfl (Int.mul_comm _ _), ?_⟩⟩
  refine sq ?_
  simp only [aAnd, aAndV, aAsg, aAsgT, aBk, aC, aCB, aCall, aCallK, aChain, aCons, aCt, aDget, aDispM, aDput, aDrop, aGN, aGcons, aGnil, aGtup, aIE, aIL, aIR1, aIR2, aIT, aIZ, aIf, aIfS, aIsi, aLst, aLstM, aMt, aMt0, aNever, aNil, aNoP, aNot, aNotV, aNx, aOp, aOr, aOrV, aPar, aPar3, aRet, aRetN, aRevD, aRevM, aSl, aSmP, aTst, aTup, aUn, aVar, aYes, xAbs, xAdd, xApp, xBools, xEqB, xGcd, xI, xIc, xIdx, xInt, xInts, xIs_nn, xIs_bb, xIs_bn, xIs_in, xIs_sn, xIs_tn, xIs_ln, xLen, xListOf, xListOfM, xMax, xMin, xNeg, xPop, xSl, xSum, xTupleOf, optW, view, asB, onRL, isRL, pick, keyOf, val_cells, val_mixed, val_draws, put_draws, allD, finD, startA, List.map_cons, List.map_nil, List.length_cons, List.length_nil, List.replicate, List.cons_append, List.nil_append, List.append_nil, List.getElem?_cons_zero, List.getElem?_cons_succ, List.set_cons_zero, List.set_cons_succ, Option.join_some, Option.map_some, List.filterMap_cons, List.filterMap_nil, List.take, Nat.sub_self, Nat.add_one_sub_one, Nat.reduceSub, Nat.reduceAdd, List.replicate_zero, isT, atI_0, atI_1, size2, size1, size3, size0, true_and, and_true, Bool.true_eq_false, Bool.false_eq_true, if_true, if_false, ite_true, ite_false, reduceIte, eq_self, ex_app, ex_app2, ite_tt, ite_ft, List.cons.injEq, W.d.injEq, PyData.int.injEq, PyData.tuple.injEq, exists_eq_left', and_assoc, exists_and_left, eqOk_int, eqD_int, eqOk_fr, eqD_fr, eqOk_str, eqD_str, id, lo_ws1, lo_ws2, lo_ws3, Bool.not_true, Bool.not_false, Bool.and_true, Bool.and_false, Bool.true_and, Bool.false_and, Bool.or_true, Bool.or_false, Bool.true_or, Bool.false_or, sp_times, sp_times_f, sp__law_is_for, s3, s4, t2, t5, G1, G2]
  intro p z h1
  refine ⟨h1, fun p z h2 => ⟨h2.as (Int.mul_comm _ _) (Int.mul_comm _ _), ?_⟩⟩
  refine sq ?_
  have last : aRet (aOrV (aOp (xEqB id) (aVar 2) (aC (.int 0))) (aCall 3 sp__law_is_for (aCons (aCallK 0 2 [1, 0] sp_over aNil (aCons (aVar 0) (aCons (aVar 1) aNil))) (aCons (aOp (xIc CMulW fun i j => .int (i * j)) (aVar 4) (aVar 3)) (aCons (aOp (xIc CMulW fun i j => .int (i * j)) (aVar 5) (aVar 2)) aNil)))))
      { nx := fun x ih' => finD ob Qa (.d .none) ih', rt := finD ob Qa } [some (.d (.tuple [.int a, .int b])), some (.d (.tuple [.int c, .int d])), some (.d (.int a)), some (.d (.int b)), some (.d (.int c)), some (.d (.int d))] ob := by
    by_cases ha : a = 0
    · simp only [aAnd, aAndV, aAsg, aAsgT, aBk, aC, aCB, aCall, aCallK, aChain, aCons, aCt, aDget, aDispM, aDput, aDrop, aGN, aGcons, aGnil, aGtup, aIE, aIL, aIR1, aIR2, aIT, aIZ, aIf, aIfS, aIsi, aLst, aLstM, aMt, aMt0, aNever, aNil, aNoP, aNot, aNotV, aNx, aOp, aOr, aOrV, aPar, aPar3, aRet, aRetN, aRevD, aRevM, aSeq, aSl, aSmP, aTst, aTup, aUn, aVar, aYes, xAbs, xAdd, xApp, xBools, xEqB, xGcd, xI, xIc, xIdx, xInt, xInts, xIs_nn, xIs_bb, xIs_bn, xIs_in, xIs_sn, xIs_tn, xIs_ln, xLen, xListOf, xListOfM, xMax, xMin, xNeg, xPop, xSl, xSum, xTupleOf, optW, view, asB, onRL, isRL, pick, keyOf, val_cells, val_mixed, val_draws, put_draws, allD, finD, startA, List.map_cons, List.map_nil, List.length_cons, List.length_nil, List.replicate, List.cons_append, List.nil_append, List.append_nil, List.getElem?_cons_zero, List.getElem?_cons_succ, List.set_cons_zero, List.set_cons_succ, Option.join_some, Option.map_some, List.filterMap_cons, List.filterMap_nil, List.take, Nat.sub_self, Nat.add_one_sub_one, Nat.reduceSub, Nat.reduceAdd, List.replicate_zero, isT, atI_0, atI_1, size2, size1, size3, size0, true_and, and_true, Bool.true_eq_false, Bool.false_eq_true, if_true, if_false, ite_true, ite_false, reduceIte, eq_self, ex_app, ex_app2, ite_tt, ite_ft, List.cons.injEq, W.d.injEq, PyData.int.injEq, PyData.tuple.injEq, exists_eq_left', and_assoc, exists_and_left, eqOk_int, eqD_int, eqOk_fr, eqD_fr, eqOk_str, eqD_str, id, lo_ws1, lo_ws2, lo_ws3, Bool.not_true, Bool.not_false, Bool.and_true, Bool.and_false, Bool.true_and, Bool.false_and, Bool.or_true, Bool.or_false, Bool.true_or, Bool.false_or, ha, decide_true]
      exact q
    · simp only [aAnd, aAndV, aAsg, aAsgT, aBk, aC, aCB, aCall, aCallK, aChain, aCons, aCt, aDget, aDispM, aDput, aDrop, aGN, aGcons, aGnil, aGtup, aIE, aIL, aIR1, aIR2, aIT, aIZ, aIf, aIfS, aIsi, aLst, aLstM, aMt, aMt0, aNever, aNil, aNoP, aNot, aNotV, aNx, aOp, aOr, aOrV, aPar, aPar3, aRet, aRetN, aRevD, aRevM, aSeq, aSl, aSmP, aTst, aTup, aUn, aVar, aYes, xAbs, xAdd, xApp, xBools, xEqB, xGcd, xI, xIc, xIdx, xInt, xInts, xIs_nn, xIs_bb, xIs_bn, xIs_in, xIs_sn, xIs_tn, xIs_ln, xLen, xListOf, xListOfM, xMax, xMin, xNeg, xPop, xSl, xSum, xTupleOf, optW, view, asB, onRL, isRL, pick, keyOf, val_cells, val_mixed, val_draws, put_draws, allD, finD, startA, List.map_cons, List.map_nil, List.length_cons, List.length_nil, List.replicate, List.cons_append, List.nil_append, List.append_nil, List.getElem?_cons_zero, List.getElem?_cons_succ, List.set_cons_zero, List.set_cons_succ, Option.join_some, Option.map_some, List.filterMap_cons, List.filterMap_nil, List.take, Nat.sub_self, Nat.add_one_sub_one, Nat.reduceSub, Nat.reduceAdd, List.replicate_zero, isT, atI_0, atI_1, size2, size1, size3, size0, true_and, and_true, Bool.true_eq_false, Bool.false_eq_true, if_true, if_false, ite_true, ite_false, reduceIte, eq_self, ex_app, ex_app2, ite_tt, ite_ft, List.cons.injEq, W.d.injEq, PyData.int.injEq, PyData.tuple.injEq, exists_eq_left', and_assoc, exists_and_left, eqOk_int, eqD_int, eqOk_fr, eqD_fr, eqOk_str, eqD_str, id, lo_ws1, lo_ws2, lo_ws3, Bool.not_true, Bool.not_false, Bool.and_true, Bool.and_false, Bool.true_and, Bool.false_and, Bool.or_true, Bool.or_false, Bool.true_or, Bool.false_or, ha, decide_false, sp_over, sp_over_f, sp__law_is_for, s2, s6, t8, t9, G1, G2]
      exact ⟨ha, fun p z h => ⟨h, q⟩⟩
  by_cases hc : c = 0
  · simp only [aAnd, aAndV, aAsg, aAsgT, aBk, aC, aCB, aCall, aCallK, aChain, aCons, aCt, aDget, aDispM, aDput, aDrop, aGN, aGcons, aGnil, aGtup, aIE, aIL, aIR1, aIR2, aIT, aIZ, aIf, aIfS, aIsi, aLst, aLstM, aMt, aMt0, aNever, aNil, aNoP, aNot, aNotV, aNx, aOp, aOr, aOrV, aPar, aPar3, aRet, aRetN, aRevD, aRevM, aSl, aSmP, aTst, aTup, aUn, aVar, aYes, xAbs, xAdd, xApp, xBools, xEqB, xGcd, xI, xIc, xIdx, xInt, xInts, xIs_nn, xIs_bb, xIs_bn, xIs_in, xIs_sn, xIs_tn, xIs_ln, xLen, xListOf, xListOfM, xMax, xMin, xNeg, xPop, xSl, xSum, xTupleOf, optW, view, asB, onRL, isRL, pick, keyOf, val_cells, val_mixed, val_draws, put_draws, allD, finD, startA, List.map_cons, List.map_nil, List.length_cons, List.length_nil, List.replicate, List.cons_append, List.nil_append, List.append_nil, List.getElem?_cons_zero, List.getElem?_cons_succ, List.set_cons_zero, List.set_cons_succ, Option.join_some, Option.map_some, List.filterMap_cons, List.filterMap_nil, List.take, Nat.sub_self, Nat.add_one_sub_one, Nat.reduceSub, Nat.reduceAdd, List.replicate_zero, isT, atI_0, atI_1, size2, size1, size3, size0, true_and, and_true, Bool.true_eq_false, Bool.false_eq_true, if_true, if_false, ite_true, ite_false, reduceIte, eq_self, ex_app, ex_app2, ite_tt, ite_ft, List.cons.injEq, W.d.injEq, PyData.int.injEq, PyData.tuple.injEq, exists_eq_left', and_assoc, exists_and_left, eqOk_int, eqD_int, eqOk_fr, eqD_fr, eqOk_str, eqD_str, id, lo_ws1, lo_ws2, lo_ws3, Bool.not_true, Bool.not_false, Bool.and_true, Bool.and_false, Bool.true_and, Bool.false_and, Bool.or_true, Bool.or_false, Bool.true_or, Bool.false_or, hc, decide_true]
    rw [hc] at last
    simp only [aAnd, aAndV, aAsg, aAsgT, aBk, aC, aCB, aCall, aCallK, aChain, aCons, aCt, aDget, aDispM, aDput, aDrop, aGN, aGcons, aGnil, aGtup, aIE, aIL, aIR1, aIR2, aIT, aIZ, aIf, aIfS, aIsi, aLst, aLstM, aMt, aMt0, aNever, aNil, aNoP, aNot, aNotV, aNx, aOp, aOr, aOrV, aPar, aPar3, aRet, aRetN, aRevD, aRevM, aSl, aSmP, aTst, aTup, aUn, aVar, aYes, xAbs, xAdd, xApp, xBools, xEqB, xGcd, xI, xIc, xIdx, xInt, xInts, xIs_nn, xIs_bb, xIs_bn, xIs_in, xIs_sn, xIs_tn, xIs_ln, xLen, xListOf, xListOfM, xMax, xMin, xNeg, xPop, xSl, xSum, xTupleOf, optW, view, asB, onRL, isRL, pick, keyOf, val_cells, val_mixed, val_draws, put_draws, allD, finD, startA, List.map_cons, List.map_nil, List.length_cons, List.length_nil, List.replicate, List.cons_append, List.nil_append, List.append_nil, List.getElem?_cons_zero, List.getElem?_cons_succ, List.set_cons_zero, List.set_cons_succ, Option.join_some, Option.map_some, List.filterMap_cons, List.filterMap_nil, List.take, Nat.sub_self, Nat.add_one_sub_one, Nat.reduceSub, Nat.reduceAdd, List.replicate_zero, isT, atI_0, atI_1, size2, size1, size3, size0, true_and, and_true, Bool.true_eq_false, Bool.false_eq_true, if_true, if_false, ite_true, ite_false, reduceIte, eq_self, ex_app, ex_app2, ite_tt, ite_ft, List.cons.injEq, W.d.injEq, PyData.int.injEq, PyData.tuple.injEq, exists_eq_left', and_assoc, exists_and_left, eqOk_int, eqD_int, eqOk_fr, eqD_fr, eqOk_str, eqD_str, id, lo_ws1, lo_ws2, lo_ws3, Bool.not_true, Bool.not_false, Bool.and_true, Bool.and_false, Bool.true_and, Bool.false_and, Bool.or_true, Bool.or_false, Bool.true_or, Bool.false_or] at last
    exact last
  · simp only [aAnd, aAndV, aAsg, aAsgT, aBk, aC, aCB, aCall, aCallK, aChain, aCons, aCt, aDget, aDispM, aDput, aDrop, aGN, aGcons, aGnil, aGtup, aIE, aIL, aIR1, aIR2, aIT, aIZ, aIf, aIfS, aIsi, aLst, aLstM, aMt, aMt0, aNever, aNil, aNoP, aNot, aNotV, aNx, aOp, aOr, aOrV, aPar, aPar3, aRet, aRetN, aRevD, aRevM, aSl, aSmP, aTst, aTup, aUn, aVar, aYes, xAbs, xAdd, xApp, xBools, xEqB, xGcd, xI, xIc, xIdx, xInt, xInts, xIs_nn, xIs_bb, xIs_bn, xIs_in, xIs_sn, xIs_tn, xIs_ln, xLen, xListOf, xListOfM, xMax, xMin, xNeg, xPop, xSl, xSum, xTupleOf, optW, view, asB, onRL, isRL, pick, keyOf, val_cells, val_mixed, val_draws, put_draws, allD, finD, startA, List.map_cons, List.map_nil, List.length_cons, List.length_nil, List.replicate, List.cons_append, List.nil_append, List.append_nil, List.getElem?_cons_zero, List.getElem?_cons_succ, List.set_cons_zero, List.set_cons_succ, Option.join_some, Option.map_some, List.filterMap_cons, List.filterMap_nil, List.take, Nat.sub_self, Nat.add_one_sub_one, Nat.reduceSub, Nat.reduceAdd, List.replicate_zero, isT, atI_0, atI_1, size2, size1, size3, size0, true_and, and_true, Bool.true_eq_false, Bool.false_eq_true, if_true, if_false, ite_true, ite_false, reduceIte, eq_self, ex_app, ex_app2, ite_tt, ite_ft, List.cons.injEq, W.d.injEq, PyData.int.injEq, PyData.tuple.injEq, exists_eq_left', and_assoc, exists_and_left, eqOk_int, eqD_int, eqOk_fr, eqD_fr, eqOk_str, eqD_str, id, lo_ws1, lo_ws2, lo_ws3, Bool.not_true, Bool.not_false, Bool.and_true, Bool.and_false, Bool.true_and, Bool.false_and, Bool.or_true, Bool.or_false, Bool.true_or, Bool.false_or, hc, decide_false, sp_over, sp_over_f, sp__law_is_for, s1, s5, t6, t7, G1, G2, s2, s6, t8, t9]
    simp only [aAnd, aAndV, aAsg, aAsgT, aBk, aC, aCB, aCall, aCallK, aChain, aCons, aCt, aDget, aDispM, aDput, aDrop, aGN, aGcons, aGnil, aGtup, aIE, aIL, aIR1, aIR2, aIT, aIZ, aIf, aIfS, aIsi, aLst, aLstM, aMt, aMt0, aNever, aNil, aNoP, aNot, aNotV, aNx, aOp, aOr, aOrV, aPar, aPar3, aRet, aRetN, aRevD, aRevM, aSl, aSmP, aTst, aTup, aUn, aVar, aYes, xAbs, xAdd, xApp, xBools, xEqB, xGcd, xI, xIc, xIdx, xInt, xInts, xIs_nn, xIs_bb, xIs_bn, xIs_in, xIs_sn, xIs_tn, xIs_ln, xLen, xListOf, xListOfM, xMax, xMin, xNeg, xPop, xSl, xSum, xTupleOf, optW, view, asB, onRL, isRL, pick, keyOf, val_cells, val_mixed, val_draws, put_draws, allD, finD, startA, List.map_cons, List.map_nil, List.length_cons, List.length_nil, List.replicate, List.cons_append, List.nil_append, List.append_nil, List.getElem?_cons_zero, List.getElem?_cons_succ, List.set_cons_zero, List.set_cons_succ, Option.join_some, Option.map_some, List.filterMap_cons, List.filterMap_nil, List.take, Nat.sub_self, Nat.add_one_sub_one, Nat.reduceSub, Nat.reduceAdd, List.replicate_zero, isT, atI_0, atI_1, size2, size1, size3, size0, true_and, and_true, Bool.true_eq_false, Bool.false_eq_true, if_true, if_false, ite_true, ite_false, reduceIte, eq_self, ex_app, ex_app2, ite_tt, ite_ft, List.cons.injEq, W.d.injEq, PyData.int.injEq, PyData.tuple.injEq, exists_eq_left', and_assoc, exists_and_left, eqOk_int, eqD_int, eqOk_fr, eqD_fr, eqOk_str, eqD_str, id, lo_ws1, lo_ws2, lo_ws3, Bool.not_true, Bool.not_false, Bool.and_true, Bool.and_false, Bool.true_and, Bool.false_and, Bool.or_true, Bool.or_false, Bool.true_or, Bool.false_or, sp_over, sp_over_f, sp__law_is_for, s2, s6, t8, t9, G1, G2] at last
    exact ⟨hc, fun p z h => ⟨h, last⟩⟩
theorem ok__law_are_sums_right (T : Tx K mg) : Fdf P w K mg base 7 "_law_are_sums_right" ["one", "other"] [] sp__law_are_sums_right := T.d__law_are_sums_right.fd fun f fd Fn => g__law_are_sums_right T Fn
def sp__law_near : ASp := fun ws ih Q => ∃ (n d : Int) (b : Nat) (r : IH), ws = [.ref 1, .d (.tuple [.int n, .int d])] ∧ Dk b r ih ∧ b ≤ 80000 ∧ Fr 341 n d ∧ ∀ n d ih2 b2, Fr 480 n d → b2 ≤ b + 2 → Dk b2 r ih2 → Q (.d (.tuple [.int n, .int d])) ih2
theorem g__law_near (T : Tx K mg) {f : Addr} {fd : FuncData} (Fn : Fun K "_law_near" "_law_near" st__law_near f fd) : FnG P w K mg base 3 f fd ["deck", "one"] sp__law_near := by
  refine fnG_ofI Fn sc__law_near (fun cdv => (bv_cons (sv_asg (ev_var 1) (GW.gv (vs := [2, 3]) (gw_tup (n := 2) (gws_cons (gw_name 2) (gws_cons (gw_name 3) gws_nil)))))
      (bv_cons (sv_set 4 (evc (ok__law_pick T) (Nat.le_of_ble_eq_true rfl) rfl (av_cons (ev_var 0) (av_cons (ev_lst (av_cons ev_int (av_cons (ev_op ov_pow ev_int ev_int) (av_cons (ev_op ov_pow ev_int ev_int) (av_cons (ev_op ov_pow ev_int ev_int) av_nil))))) av_nil))))
      (bv_cons (sv_set 5 (ev_lst (av_cons (ev_var 1) (av_cons (ev_tup (av_cons (ev_op ov_fdiv (ev_var 2) (ev_var 3)) (av_cons ev_int av_nil))) (av_cons (ev_tup (av_cons (ev_op ov_add (ev_op ov_fdiv (ev_var 2) (ev_var 3)) ev_int) (av_cons ev_int av_nil))) (av_cons (ev_tup (av_cons (ev_op ov_add (ev_op ov_mul (ev_var 2) (ev_var 4)) ev_int) (av_cons (ev_op ov_mul (ev_var 3) (ev_var 4)) av_nil))) (av_cons (ev_tup (av_cons (ev_op ov_sub (ev_op ov_mul (ev_var 2) (ev_var 4)) ev_int) (av_cons (ev_op ov_mul (ev_var 3) (ev_var 4)) av_nil))) (av_cons (ev_tup (av_cons (ev_un uv_neg (ev_var 2)) (av_cons (ev_var 3) av_nil))) av_nil))))))))
      (bv_cons (sv_set 6 (evc (ok__law_pick T) (Nat.le_of_ble_eq_true rfl) rfl (av_cons (ev_var 0) (av_cons (ev_var 5) av_nil))))
      (bv_one (sv_ret (evc (ok__law_lowest T) (Nat.le_of_ble_eq_true rfl) rfl (av_cons (ev_ix (ev_var 6) ev_int) (av_cons (ev_ix (ev_var 6) ev_int) av_nil)))))))))) fun ws ob Qa hl h => ?_
  obtain ⟨n, d, b, r, rfl, hd, hb, F, q⟩ := h
  refine sq ?_
  simp only [aAnd, aAndV, aAsg, aAsgT, aBk, aC, aCB, aCall, aCallK, aChain, aCons, aCt, aDget, aDispM, aDput, aDrop, aGN, aGcons, aGnil, aGtup, aIE, aIL, aIR1, aIR2, aIT, aIZ, aIf, aIfS, aIsi, aLst, aLstM, aMt, aMt0, aNever, aNil, aNoP, aNot, aNotV, aNx, aOp, aOr, aOrV, aPar, aPar3, aRet, aRetN, aRevD, aRevM, aSl, aSmP, aTst, aTup, aUn, aVar, aYes, xAbs, xAdd, xApp, xBools, xEqB, xGcd, xI, xIc, xIdx, xInt, xInts, xIs_nn, xIs_bb, xIs_bn, xIs_in, xIs_sn, xIs_tn, xIs_ln, xLen, xListOf, xListOfM, xMax, xMin, xNeg, xPop, xSl, xSum, xTupleOf, optW, view, asB, onRL, isRL, pick, keyOf, val_cells, val_mixed, val_draws, put_draws, allD, finD, startA, List.map_cons, List.map_nil, List.length_cons, List.length_nil, List.replicate, List.cons_append, List.nil_append, List.append_nil, List.getElem?_cons_zero, List.getElem?_cons_succ, List.set_cons_zero, List.set_cons_succ, Option.join_some, Option.map_some, List.filterMap_cons, List.filterMap_nil, List.take, Nat.sub_self, Nat.add_one_sub_one, Nat.reduceSub, Nat.reduceAdd, List.replicate_zero, isT, atI_0, atI_1, size2, size1, size3, size0, true_and, and_true, Bool.true_eq_false, Bool.false_eq_true, if_true, if_false, ite_true, ite_false, reduceIte, eq_self, ex_app, ex_app2, ite_tt, ite_ft, List.cons.injEq, W.d.injEq, PyData.int.injEq, PyData.tuple.injEq, exists_eq_left', and_assoc, exists_and_left, eqOk_int, eqD_int, eqOk_fr, eqD_fr, eqOk_str, eqD_str, id, lo_ws1, lo_ws2, lo_ws3, Bool.not_true, Bool.not_false, Bool.and_true, Bool.and_false, Bool.true_and, Bool.false_and, Bool.or_true, Bool.or_false, Bool.true_or, Bool.false_or]
  refine sq ?_
  have sz : (4 : Nat) ≤ sizeLine := by decide
  have c1 : CPow 10 9 := ⟨by decide, by decide, by decide⟩
  have c2 : CPow 10 30 := ⟨by decide, by decide, by decide⟩
  have c3 : CPow 10 39 := ⟨by decide, by decide, by decide⟩
  simp only [aAnd, aAndV, aAsg, aAsgT, aBk, aC, aCB, aCall, aCallK, aChain, aCons, aCt, aDget, aDispM, aDput, aDrop, aGN, aGcons, aGnil, aGtup, aIE, aIL, aIR1, aIR2, aIT, aIZ, aIf, aIfS, aIsi, aLst, aLstM, aMt, aMt0, aNever, aNil, aNoP, aNot, aNotV, aNx, aOp, aOr, aOrV, aPar, aPar3, aRet, aRetN, aRevD, aRevM, aSl, aSmP, aTst, aTup, aUn, aVar, aYes, xAbs, xAdd, xApp, xBools, xEqB, xGcd, xI, xIc, xIdx, xInt, xInts, xIs_nn, xIs_bb, xIs_bn, xIs_in, xIs_sn, xIs_tn, xIs_ln, xLen, xListOf, xListOfM, xMax, xMin, xNeg, xPop, xSl, xSum, xTupleOf, optW, view, asB, onRL, isRL, pick, keyOf, val_cells, val_mixed, val_draws, put_draws, allD, finD, startA, List.map_cons, List.map_nil, List.length_cons, List.length_nil, List.replicate, List.cons_append, List.nil_append, List.append_nil, List.getElem?_cons_zero, List.getElem?_cons_succ, List.set_cons_zero, List.set_cons_succ, Option.join_some, Option.map_some, List.filterMap_cons, List.filterMap_nil, List.take, Nat.sub_self, Nat.add_one_sub_one, Nat.reduceSub, Nat.reduceAdd, List.replicate_zero, isT, atI_0, atI_1, size2, size1, size3, size0, true_and, and_true, Bool.true_eq_false, Bool.false_eq_true, if_true, if_false, ite_true, ite_false, reduceIte, eq_self, ex_app, ex_app2, ite_tt, ite_ft, List.cons.injEq, W.d.injEq, PyData.int.injEq, PyData.tuple.injEq, exists_eq_left', and_assoc, exists_and_left, eqOk_int, eqD_int, eqOk_fr, eqD_fr, eqOk_str, eqD_str, id, lo_ws1, lo_ws2, lo_ws3, Bool.not_true, Bool.not_false, Bool.and_true, Bool.and_false, Bool.true_and, Bool.false_and, Bool.or_true, Bool.or_false, Bool.true_or, Bool.false_or, sp__law_pick, sz, c1, c2, c3, PyData.list.injEq]
  refine ⟨_, r, hd, by omega, by decide, by decide, fun x o1 hx hd1 => ?_⟩
  obtain ⟨far, rfl, bf, f0⟩ : ∃ f : Int, x = .int f ∧ Bd 130 f ∧ 0 < f := by
    simp only [List.mem_cons, List.not_mem_nil, or_false] at hx
    rcases hx with rfl | rfl | rfl | rfl <;> exact ⟨_, rfl, by decide +kernel, by decide +kernel⟩
  refine sq ?_
  have p0 := F.pos
  have sz : (6 : Nat) ≤ sizeLine := by decide
  have v1 : CDv n d := F.bd.cdv (by omega) (by decide)
  have m1 : CMulW n far := F.bn.cmul bf (by decide)
  have m2 : CMulW d far := F.bd.cmul bf (by decide)
  have b1 : Bd 471 (n * far) := F.bn.mul bf
  have b2 : Bd 471 (d * far) := F.bd.mul bf
  have b3 : Bd 341 (n.fdiv d) := F.bn.le (fdiv_abs n d p0)
  have o : ∀ k : Nat, 1 ≤ k → Bd k 1 := fun k hk => Bd.mono (a := 1) (by decide) hk
  simp only [aAnd, aAndV, aAsg, aAsgT, aBk, aC, aCB, aCall, aCallK, aChain, aCons, aCt, aDget, aDispM, aDput, aDrop, aGN, aGcons, aGnil, aGtup, aIE, aIL, aIR1, aIR2, aIT, aIZ, aIf, aIfS, aIsi, aLst, aLstM, aMt, aMt0, aNever, aNil, aNoP, aNot, aNotV, aNx, aOp, aOr, aOrV, aPar, aPar3, aRet, aRetN, aRevD, aRevM, aSl, aSmP, aTst, aTup, aUn, aVar, aYes, xAbs, xAdd, xApp, xBools, xEqB, xGcd, xI, xIc, xIdx, xInt, xInts, xIs_nn, xIs_bb, xIs_bn, xIs_in, xIs_sn, xIs_tn, xIs_ln, xLen, xListOf, xListOfM, xMax, xMin, xNeg, xPop, xSl, xSum, xTupleOf, optW, view, asB, onRL, isRL, pick, keyOf, val_cells, val_mixed, val_draws, put_draws, allD, finD, startA, List.map_cons, List.map_nil, List.length_cons, List.length_nil, List.replicate, List.cons_append, List.nil_append, List.append_nil, List.getElem?_cons_zero, List.getElem?_cons_succ, List.set_cons_zero, List.set_cons_succ, Option.join_some, Option.map_some, List.filterMap_cons, List.filterMap_nil, List.take, Nat.sub_self, Nat.add_one_sub_one, Nat.reduceSub, Nat.reduceAdd, List.replicate_zero, isT, atI_0, atI_1, size2, size1, size3, size0, true_and, and_true, Bool.true_eq_false, Bool.false_eq_true, if_true, if_false, ite_true, ite_false, reduceIte, eq_self, ex_app, ex_app2, ite_tt, ite_ft, List.cons.injEq, W.d.injEq, PyData.int.injEq, PyData.tuple.injEq, exists_eq_left', and_assoc, exists_and_left, eqOk_int, eqD_int, eqOk_fr, eqD_fr, eqOk_str, eqD_str, id, lo_ws1, lo_ws2, lo_ws3, Bool.not_true, Bool.not_false, Bool.and_true, Bool.and_false, Bool.true_and, Bool.false_and, Bool.or_true, Bool.or_false, Bool.true_or, Bool.false_or, v1, m1, m2, sz]
  refine sq ?_
  simp only [aAnd, aAndV, aAsg, aAsgT, aBk, aC, aCB, aCall, aCallK, aChain, aCons, aCt, aDget, aDispM, aDput, aDrop, aGN, aGcons, aGnil, aGtup, aIE, aIL, aIR1, aIR2, aIT, aIZ, aIf, aIfS, aIsi, aLst, aLstM, aMt, aMt0, aNever, aNil, aNoP, aNot, aNotV, aNx, aOp, aOr, aOrV, aPar, aPar3, aRet, aRetN, aRevD, aRevM, aSl, aSmP, aTst, aTup, aUn, aVar, aYes, xAbs, xAdd, xApp, xBools, xEqB, xGcd, xI, xIc, xIdx, xInt, xInts, xIs_nn, xIs_bb, xIs_bn, xIs_in, xIs_sn, xIs_tn, xIs_ln, xLen, xListOf, xListOfM, xMax, xMin, xNeg, xPop, xSl, xSum, xTupleOf, optW, view, asB, onRL, isRL, pick, keyOf, val_cells, val_mixed, val_draws, put_draws, allD, finD, startA, List.map_cons, List.map_nil, List.length_cons, List.length_nil, List.replicate, List.cons_append, List.nil_append, List.append_nil, List.getElem?_cons_zero, List.getElem?_cons_succ, List.set_cons_zero, List.set_cons_succ, Option.join_some, Option.map_some, List.filterMap_cons, List.filterMap_nil, List.take, Nat.sub_self, Nat.add_one_sub_one, Nat.reduceSub, Nat.reduceAdd, List.replicate_zero, isT, atI_0, atI_1, size2, size1, size3, size0, true_and, and_true, Bool.true_eq_false, Bool.false_eq_true, if_true, if_false, ite_true, ite_false, reduceIte, eq_self, ex_app, ex_app2, ite_tt, ite_ft, List.cons.injEq, W.d.injEq, PyData.int.injEq, PyData.tuple.injEq, exists_eq_left', and_assoc, exists_and_left, eqOk_int, eqD_int, eqOk_fr, eqD_fr, eqOk_str, eqD_str, id, lo_ws1, lo_ws2, lo_ws3, Bool.not_true, Bool.not_false, Bool.and_true, Bool.and_false, Bool.true_and, Bool.false_and, Bool.or_true, Bool.or_false, Bool.true_or, Bool.false_or, sp__law_pick, PyData.list.injEq]
  refine ⟨_, r, hd1, by omega, by decide, by decide, fun x o2 hx hd2 => ?_⟩
  obtain ⟨p, z, rfl, z0, bp, bz⟩ : ∃ p z : Int, x = .tuple [.int p, .int z] ∧ z ≠ 0 ∧ Bd 475 p ∧ Bd 475 z := by
    simp only [List.mem_cons, List.not_mem_nil, or_false] at hx
    rcases hx with rfl | rfl | rfl | rfl | rfl | rfl
    · exact ⟨_, _, rfl, by omega, F.bn.mono (by decide), F.bd.mono (by decide)⟩
    · exact ⟨_, _, rfl, by decide, b3.mono (by decide), o _ (by decide)⟩
    · exact ⟨_, _, rfl, by decide, (b3.add (o _ (by decide))).mono (by decide), o _ (by decide)⟩
    · exact ⟨_, _, rfl, Int.mul_ne_zero (by omega) (by omega), (b1.add (o _ (by decide))).mono (by decide), b2.mono (by decide)⟩
    · exact ⟨_, _, rfl, Int.mul_ne_zero (by omega) (by omega), (b1.sub (o _ (by decide))).mono (by decide), b2.mono (by decide)⟩
    · exact ⟨_, _, rfl, by omega, F.bn.neg.mono (by decide), F.bd.mono (by decide)⟩
  simp only [aAnd, aAndV, aAsg, aAsgT, aBk, aC, aCB, aCall, aCallK, aChain, aCons, aCt, aDget, aDispM, aDput, aDrop, aGN, aGcons, aGnil, aGtup, aIE, aIL, aIR1, aIR2, aIT, aIZ, aIf, aIfS, aIsi, aLst, aLstM, aMt, aMt0, aNever, aNil, aNoP, aNot, aNotV, aNx, aOp, aOr, aOrV, aPar, aPar3, aRet, aRetN, aRevD, aRevM, aSl, aSmP, aTst, aTup, aUn, aVar, aYes, xAbs, xAdd, xApp, xBools, xEqB, xGcd, xI, xIc, xIdx, xInt, xInts, xIs_nn, xIs_bb, xIs_bn, xIs_in, xIs_sn, xIs_tn, xIs_ln, xLen, xListOf, xListOfM, xMax, xMin, xNeg, xPop, xSl, xSum, xTupleOf, optW, view, asB, onRL, isRL, pick, keyOf, val_cells, val_mixed, val_draws, put_draws, allD, finD, startA, List.map_cons, List.map_nil, List.length_cons, List.length_nil, List.replicate, List.cons_append, List.nil_append, List.append_nil, List.getElem?_cons_zero, List.getElem?_cons_succ, List.set_cons_zero, List.set_cons_succ, Option.join_some, Option.map_some, List.filterMap_cons, List.filterMap_nil, List.take, Nat.sub_self, Nat.add_one_sub_one, Nat.reduceSub, Nat.reduceAdd, List.replicate_zero, isT, atI_0, atI_1, size2, size1, size3, size0, true_and, and_true, Bool.true_eq_false, Bool.false_eq_true, if_true, if_false, ite_true, ite_false, reduceIte, eq_self, ex_app, ex_app2, ite_tt, ite_ft, List.cons.injEq, W.d.injEq, PyData.int.injEq, PyData.tuple.injEq, exists_eq_left', and_assoc, exists_and_left, eqOk_int, eqD_int, eqOk_fr, eqD_fr, eqOk_str, eqD_str, id, lo_ws1, lo_ws2, lo_ws3, Bool.not_true, Bool.not_false, Bool.and_true, Bool.and_false, Bool.true_and, Bool.false_and, Bool.or_true, Bool.or_false, Bool.true_or, Bool.false_or, sp__law_lowest]
  exact ⟨z0, bp.mono (by decide), bz.mono (by decide), fun p2 z2 hl => q _ _ _ _ (hl.fr (bp.mono (by decide)) (bz.mono (by decide))) (by omega) hd2⟩
theorem ok__law_near (T : Tx K mg) : Fdf P w K mg base 3 "_law_near" ["deck", "one"] [] sp__law_near := T.d__law_near.fd fun f fd Fn => g__law_near T Fn
def sp__law_are_floors_right : ASp := fun ws ih Q => ∃ a b c d : Int, ws = [.d (.tuple [.int a, .int b]), .d (.tuple [.int c, .int d])] ∧ Fr 500 a b ∧ Fr 500 c d ∧ Q (.d (.bool true)) ih
theorem g__law_are_floors_right (T : Tx K mg) {f : Addr} {fd : FuncData} (Fn : Fun K "_law_are_floors_right" "_law_are_floors_right" st__law_are_floors_right f fd) : FnG P w K mg base 10 f fd ["one", "other"] sp__law_are_floors_right := by
  refine fnG_of Fn sc__law_are_floors_right (fun cdv => (bv_cons (sv_par3 2 3 4 (av_cons (evc (ok_floor_of T) (Nat.le_of_ble_eq_true rfl) rfl (av_cons (ev_var 0) av_nil)) (av_cons (evk0 (ks := ["one"]) (b := 1) (is := [0]) (ok_ceiling_of T) (Nat.le_of_ble_eq_true rfl) rfl (by simp) (kv_cons (ev_var 0) kv_nil)) (av_cons (ev_op ov_sub (ev_op ov_mul (ev_ix (ev_var 0) ev_int) (ev_ix (ev_var 1) ev_int)) (ev_op ov_mul (ev_ix (ev_var 1) ev_int) (ev_ix (ev_var 0) ev_int))) av_nil))) (hw := fun env h => by cases env; subst h; rfl))
      (bv_cons (sv_if (WV.tv (wv_or (tv_not (tv_val (evc (ok__law_is_int T) (Nat.le_of_ble_eq_true rfl) rfl (av_cons (ev_var 2) av_nil)))) (wv_or (tv_not (tv_val (evc (ok__law_is_int T) (Nat.le_of_ble_eq_true rfl) rfl (av_cons (ev_var 3) av_nil)))) (wv_or1 (tv_not (tv_chain ov_le ov_lt (ev_op ov_mul (ev_var 2) (ev_ix (ev_var 0) ev_int)) (ev_ix (ev_var 0) ev_int) (ev_op ov_mul (ev_op ov_add (ev_var 2) ev_int) (ev_ix (ev_var 0) ev_int)))))))) (bv_one (sv_ret ev_bl)) bv_nil)
      (bv_cons (sv_if (WV.tv (wv_or (tv_not (tv_chain ov_lt ov_le (ev_op ov_mul (ev_op ov_sub (ev_var 3) ev_int) (ev_ix (ev_var 0) ev_int)) (ev_ix (ev_var 0) ev_int) (ev_op ov_mul (ev_var 3) (ev_ix (ev_var 0) ev_int)))) (wv_or1 (tv_not (tv_val (evc (ok__law_same T) (Nat.le_of_ble_eq_true rfl) rfl (av_cons (ev_tup (av_cons (evk0 (ks := ["one"]) (b := 1) (is := [0]) (ok_floor_of T) (Nat.le_of_ble_eq_true rfl) rfl (by simp) (kv_cons (ev_var 0) kv_nil)) (av_cons (evc (ok_ceiling_of T) (Nat.le_of_ble_eq_true rfl) rfl (av_cons (ev_var 0) av_nil)) av_nil))) (av_cons (ev_tup (av_cons (ev_var 2) (av_cons (ev_var 3) av_nil))) av_nil)))))))) (bv_one (sv_ret ev_bl)) bv_nil)
      (bv_cons (sv_set 5 (ev_ifE (tv_cmp ov_eq (ev_var 4) ev_int) ev_int (ev_ifE (tv_cmp ov_gt (ev_var 4) ev_int) ev_int (ev_un uv_neg ev_int))))
      (bv_one (sv_ret (evc (ok__law_same T) (Nat.le_of_ble_eq_true rfl) rfl (av_cons (ev_tup (av_cons (evc (ok_compared T) (Nat.le_of_ble_eq_true rfl) rfl (av_cons (ev_var 0) (av_cons (ev_var 1) av_nil))) (av_cons (evk0 (ks := ["other", "one"]) (b := 2) (is := [1, 0]) (ok_compared T) (Nat.le_of_ble_eq_true rfl) rfl (by simp) (kv_cons (ev_var 0) (kv_cons (ev_var 1) kv_nil))) (av_cons (evc (ok_compared T) (Nat.le_of_ble_eq_true rfl) rfl (av_cons (ev_var 0) (av_cons (ev_var 0) av_nil))) av_nil)))) (av_cons (ev_tup (av_cons (ev_var 5) (av_cons (ev_un uv_neg (ev_var 5)) (av_cons ev_int av_nil)))) av_nil)))))))))) fun ws ob Qa hl h => ?_
  obtain ⟨a, b, c, d, rfl, F1, F2, q⟩ := h
  have G1 : Fr 1400 a b := F1.mono (by decide)
  have G2 : Fr 1400 c d := F2.mono (by decide)
  have s1 : CMulW a d := F1.bn.cmul F2.bd (by decide)
  have s2 : CMulW c b := F2.bn.cmul F1.bd (by decide)
  refine sq ?_
  simp only [aAnd, aAndV, aAsg, aAsgT, aBk, aC, aCB, aCall, aCallK, aChain, aCons, aCt, aDget, aDispM, aDput, aDrop, aGN, aGcons, aGnil, aGtup, aIE, aIL, aIR1, aIR2, aIT, aIZ, aIf, aIfS, aIsi, aLst, aLstM, aMt, aMt0, aNever, aNil, aNoP, aNot, aNotV, aNx, aOp, aOr, aOrV, aPar, aPar3, aRet, aRetN, aRevD, aRevM, aSl, aSmP, aTst, aTup, aUn, aVar, aYes, xAbs, xAdd, xApp, xBools, xEqB, xGcd, xI, xIc, xIdx, xInt, xInts, xIs_nn, xIs_bb, xIs_bn, xIs_in, xIs_sn, xIs_tn, xIs_ln, xLen, xListOf, xListOfM, xMax, xMin, xNeg, xPop, xSl, xSum, xTupleOf, optW, view, asB, onRL, isRL, pick, keyOf, val_cells, val_mixed, val_draws, put_draws, allD, finD, startA, List.map_cons, List.map_nil, List.length_cons, List.length_nil, List.replicate, List.cons_append, List.nil_append, List.append_nil, List.getElem?_cons_zero, List.getElem?_cons_succ, List.set_cons_zero, List.set_cons_succ, Option.join_some, Option.map_some, List.filterMap_cons, List.filterMap_nil, List.take, Nat.sub_self, Nat.add_one_sub_one, Nat.reduceSub, Nat.reduceAdd, List.replicate_zero, isT, atI_0, atI_1, size2, size1, size3, size0, true_and, and_true, Bool.true_eq_false, Bool.false_eq_true, if_true, if_false, ite_true, ite_false, reduceIte, eq_self, ex_app, ex_app2, ite_tt, ite_ft, List.cons.injEq, W.d.injEq, PyData.int.injEq, PyData.tuple.injEq, exists_eq_left', and_assoc, exists_and_left, eqOk_int, eqD_int, eqOk_fr, eqD_fr, eqOk_str, eqD_str, id, lo_ws1, lo_ws2, lo_ws3, Bool.not_true, Bool.not_false, Bool.and_true, Bool.and_false, Bool.true_and, Bool.false_and, Bool.or_true, Bool.or_false, Bool.true_or, Bool.false_or, sp_floor_of, sp_ceiling_of, G1, G2, s1, s2]
  have b0 := F1.pos
  have l1 : a.fdiv b * b ≤ a := by
    rw [Int.fdiv_eq_ediv_of_nonneg _ (by omega)]
    exact Int.ediv_mul_le a (by omega)
  have l2 : a < (a.fdiv b + 1) * b := by
    rw [Int.fdiv_eq_ediv_of_nonneg _ (by omega)]
    exact Int.lt_ediv_add_one_mul_self a b0
  have l3 : (-a).fdiv b * b ≤ -a := by
    rw [Int.fdiv_eq_ediv_of_nonneg _ (by omega)]
    exact Int.ediv_mul_le (-a) (by omega)
  have l4 : -a < ((-a).fdiv b + 1) * b := by
    rw [Int.fdiv_eq_ediv_of_nonneg _ (by omega)]
    exact Int.lt_ediv_add_one_mul_self (-a) b0
  have n1 : Bd 500 (a.fdiv b) := F1.bn.le (fdiv_abs a b b0)
  have n2 : Bd 500 (-((-a).fdiv b)) := by
    refine Bd.neg (F1.bn.neg.le ?_)
    exact fdiv_abs (-a) b b0
  have m3 : (-((-a).fdiv b) - 1) * b < a := by
    rw [Int.sub_mul, Int.neg_mul]
    rw [Int.add_mul] at l4
    omega
  have m4 : a ≤ -((-a).fdiv b) * b := by
    rw [Int.neg_mul]
    omega
  generalize ehi : -((-a).fdiv b) = hi at n2 m3 m4 ⊢
  generalize elo : a.fdiv b = lo at n1 l1 l2 ⊢
  have o : ∀ k : Nat, 1 ≤ k → Bd k 1 := fun k hk => Bd.mono (a := 1) (by decide) hk
  have u1 : CMulW lo b := n1.cmul F1.bd (by decide)
  have u2 : CMulW (lo + 1) b := (n1.add (o _ (by decide))).cmul F1.bd (by decide)
  have u3 : CMulW (hi - 1) b := (n2.sub (o _ (by decide))).cmul F1.bd (by decide)
  have u4 : CMulW hi b := n2.cmul F1.bd (by decide)
  refine sq ?_
  simp only [aAnd, aAndV, aAsg, aAsgT, aBk, aC, aCB, aCall, aCallK, aChain, aCons, aCt, aDget, aDispM, aDput, aDrop, aGN, aGcons, aGnil, aGtup, aIE, aIL, aIR1, aIR2, aIT, aIZ, aIf, aIfS, aIsi, aLst, aLstM, aMt, aMt0, aNever, aNil, aNoP, aNot, aNotV, aNx, aOp, aOr, aOrV, aPar, aPar3, aRet, aRetN, aRevD, aRevM, aSl, aSmP, aTst, aTup, aUn, aVar, aYes, xAbs, xAdd, xApp, xBools, xEqB, xGcd, xI, xIc, xIdx, xInt, xInts, xIs_nn, xIs_bb, xIs_bn, xIs_in, xIs_sn, xIs_tn, xIs_ln, xLen, xListOf, xListOfM, xMax, xMin, xNeg, xPop, xSl, xSum, xTupleOf, optW, view, asB, onRL, isRL, pick, keyOf, val_cells, val_mixed, val_draws, put_draws, allD, finD, startA, List.map_cons, List.map_nil, List.length_cons, List.length_nil, List.replicate, List.cons_append, List.nil_append, List.append_nil, List.getElem?_cons_zero, List.getElem?_cons_succ, List.set_cons_zero, List.set_cons_succ, Option.join_some, Option.map_some, List.filterMap_cons, List.filterMap_nil, List.take, Nat.sub_self, Nat.add_one_sub_one, Nat.reduceSub, Nat.reduceAdd, List.replicate_zero, isT, atI_0, atI_1, size2, size1, size3, size0, true_and, and_true, Bool.true_eq_false, Bool.false_eq_true, if_true, if_false, ite_true, ite_false, reduceIte, eq_self, ex_app, ex_app2, ite_tt, ite_ft, List.cons.injEq, W.d.injEq, PyData.int.injEq, PyData.tuple.injEq, exists_eq_left', and_assoc, exists_and_left, eqOk_int, eqD_int, eqOk_fr, eqD_fr, eqOk_str, eqD_str, id, lo_ws1, lo_ws2, lo_ws3, Bool.not_true, Bool.not_false, Bool.and_true, Bool.and_false, Bool.true_and, Bool.false_and, Bool.or_true, Bool.or_false, Bool.true_or, Bool.false_or, sp__law_is_int, u1, u2, l1, l2, decide_true]
  refine sq ?_
  have ok1 : sameOk 8 (.tuple [.int lo, .int hi]) = true := rfl
  simp only [aAnd, aAndV, aAsg, aAsgT, aBk, aC, aCB, aCall, aCallK, aChain, aCons, aCt, aDget, aDispM, aDput, aDrop, aGN, aGcons, aGnil, aGtup, aIE, aIL, aIR1, aIR2, aIT, aIZ, aIf, aIfS, aIsi, aLst, aLstM, aMt, aMt0, aNever, aNil, aNoP, aNot, aNotV, aNx, aOp, aOr, aOrV, aPar, aPar3, aRet, aRetN, aRevD, aRevM, aSl, aSmP, aTst, aTup, aUn, aVar, aYes, xAbs, xAdd, xApp, xBools, xEqB, xGcd, xI, xIc, xIdx, xInt, xInts, xIs_nn, xIs_bb, xIs_bn, xIs_in, xIs_sn, xIs_tn, xIs_ln, xLen, xListOf, xListOfM, xMax, xMin, xNeg, xPop, xSl, xSum, xTupleOf, optW, view, asB, onRL, isRL, pick, keyOf, val_cells, val_mixed, val_draws, put_draws, allD, finD, startA, List.map_cons, List.map_nil, List.length_cons, List.length_nil, List.replicate, List.cons_append, List.nil_append, List.append_nil, List.getElem?_cons_zero, List.getElem?_cons_succ, List.set_cons_zero, List.set_cons_succ, Option.join_some, Option.map_some, List.filterMap_cons, List.filterMap_nil, List.take, Nat.sub_self, Nat.add_one_sub_one, Nat.reduceSub, Nat.reduceAdd, List.replicate_zero, isT, atI_0, atI_1, size2, size1, size3, size0, true_and, and_true, Bool.true_eq_false, Bool.false_eq_true, if_true, if_false, ite_true, ite_false, reduceIte, eq_self, ex_app, ex_app2, ite_tt, ite_ft, List.cons.injEq, W.d.injEq, PyData.int.injEq, PyData.tuple.injEq, exists_eq_left', and_assoc, exists_and_left, eqOk_int, eqD_int, eqOk_fr, eqD_fr, eqOk_str, eqD_str, id, lo_ws1, lo_ws2, lo_ws3, Bool.not_true, Bool.not_false, Bool.and_true, Bool.and_false, Bool.true_and, Bool.false_and, Bool.or_true, Bool.or_false, Bool.true_or, Bool.false_or, u3, u4, m3, m4, decide_true, sp_floor_of, sp_ceiling_of, sp__law_same, G1]
  refine ⟨elo.symm, ehi.symm, rfl, ?_⟩
  have ok2 : ∀ x y z : Int, sameOk 8 (.tuple [.int x, .int y, .int z]) = true := fun _ _ _ => rfl
  rcases Int.lt_trichotomy (a * d) (c * b) with h | h | h
  · have e1 : ¬ (a * d - c * b = 0) := by omega
    have e2 : ¬ (0 < a * d - c * b) := by omega
    have e3 : ¬ (c * b < a * d) := by omega
    simp only [aAnd, aAndV, aAsg, aAsgT, aBk, aC, aCB, aCall, aCallK, aChain, aCons, aCt, aDget, aDispM, aDput, aDrop, aGN, aGcons, aGnil, aGtup, aIE, aIL, aIR1, aIR2, aIT, aIZ, aIf, aIfS, aIsi, aLst, aLstM, aMt, aMt0, aNever, aNil, aNoP, aNot, aNotV, aNx, aOp, aOr, aOrV, aPar, aPar3, aRet, aRetN, aRevD, aRevM, aSeq, aSl, aSmP, aTst, aTup, aUn, aVar, aYes, xAbs, xAdd, xApp, xBools, xEqB, xGcd, xI, xIc, xIdx, xInt, xInts, xIs_nn, xIs_bb, xIs_bn, xIs_in, xIs_sn, xIs_tn, xIs_ln, xLen, xListOf, xListOfM, xMax, xMin, xNeg, xPop, xSl, xSum, xTupleOf, optW, view, asB, onRL, isRL, pick, keyOf, val_cells, val_mixed, val_draws, put_draws, allD, finD, startA, List.map_cons, List.map_nil, List.length_cons, List.length_nil, List.replicate, List.cons_append, List.nil_append, List.append_nil, List.getElem?_cons_zero, List.getElem?_cons_succ, List.set_cons_zero, List.set_cons_succ, Option.join_some, Option.map_some, List.filterMap_cons, List.filterMap_nil, List.take, Nat.sub_self, Nat.add_one_sub_one, Nat.reduceSub, Nat.reduceAdd, List.replicate_zero, isT, atI_0, atI_1, size2, size1, size3, size0, true_and, and_true, Bool.true_eq_false, Bool.false_eq_true, if_true, if_false, ite_true, ite_false, reduceIte, eq_self, ex_app, ex_app2, ite_tt, ite_ft, List.cons.injEq, W.d.injEq, PyData.int.injEq, PyData.tuple.injEq, exists_eq_left', and_assoc, exists_and_left, eqOk_int, eqD_int, eqOk_fr, eqD_fr, eqOk_str, eqD_str, id, lo_ws1, lo_ws2, lo_ws3, Bool.not_true, Bool.not_false, Bool.and_true, Bool.and_false, Bool.true_and, Bool.false_and, Bool.or_true, Bool.or_false, Bool.true_or, Bool.false_or, sp_compared, sp_compared_f, sp__law_same, G1, G2, e1, e2, h, e3, decide_false, Int.lt_irrefl, ok2]
    exact ⟨rfl, q⟩
  · simp only [aAnd, aAndV, aAsg, aAsgT, aBk, aC, aCB, aCall, aCallK, aChain, aCons, aCt, aDget, aDispM, aDput, aDrop, aGN, aGcons, aGnil, aGtup, aIE, aIL, aIR1, aIR2, aIT, aIZ, aIf, aIfS, aIsi, aLst, aLstM, aMt, aMt0, aNever, aNil, aNoP, aNot, aNotV, aNx, aOp, aOr, aOrV, aPar, aPar3, aRet, aRetN, aRevD, aRevM, aSeq, aSl, aSmP, aTst, aTup, aUn, aVar, aYes, xAbs, xAdd, xApp, xBools, xEqB, xGcd, xI, xIc, xIdx, xInt, xInts, xIs_nn, xIs_bb, xIs_bn, xIs_in, xIs_sn, xIs_tn, xIs_ln, xLen, xListOf, xListOfM, xMax, xMin, xNeg, xPop, xSl, xSum, xTupleOf, optW, view, asB, onRL, isRL, pick, keyOf, val_cells, val_mixed, val_draws, put_draws, allD, finD, startA, List.map_cons, List.map_nil, List.length_cons, List.length_nil, List.replicate, List.cons_append, List.nil_append, List.append_nil, List.getElem?_cons_zero, List.getElem?_cons_succ, List.set_cons_zero, List.set_cons_succ, Option.join_some, Option.map_some, List.filterMap_cons, List.filterMap_nil, List.take, Nat.sub_self, Nat.add_one_sub_one, Nat.reduceSub, Nat.reduceAdd, List.replicate_zero, isT, atI_0, atI_1, size2, size1, size3, size0, true_and, and_true, Bool.true_eq_false, Bool.false_eq_true, if_true, if_false, ite_true, ite_false, reduceIte, eq_self, ex_app, ex_app2, ite_tt, ite_ft, List.cons.injEq, W.d.injEq, PyData.int.injEq, PyData.tuple.injEq, exists_eq_left', and_assoc, exists_and_left, eqOk_int, eqD_int, eqOk_fr, eqD_fr, eqOk_str, eqD_str, id, lo_ws1, lo_ws2, lo_ws3, Bool.not_true, Bool.not_false, Bool.and_true, Bool.and_false, Bool.true_and, Bool.false_and, Bool.or_true, Bool.or_false, Bool.true_or, Bool.false_or, sp_compared, sp_compared_f, sp__law_same, G1, G2, h, Int.sub_self, decide_true, Int.lt_irrefl, ok2]
    exact ⟨rfl, q⟩
  · have e1 : ¬ (a * d - c * b = 0) := by omega
    have e2 : 0 < a * d - c * b := by omega
    have e3 : ¬ (a * d < c * b) := by omega
    simp only [aAnd, aAndV, aAsg, aAsgT, aBk, aC, aCB, aCall, aCallK, aChain, aCons, aCt, aDget, aDispM, aDput, aDrop, aGN, aGcons, aGnil, aGtup, aIE, aIL, aIR1, aIR2, aIT, aIZ, aIf, aIfS, aIsi, aLst, aLstM, aMt, aMt0, aNever, aNil, aNoP, aNot, aNotV, aNx, aOp, aOr, aOrV, aPar, aPar3, aRet, aRetN, aRevD, aRevM, aSeq, aSl, aSmP, aTst, aTup, aUn, aVar, aYes, xAbs, xAdd, xApp, xBools, xEqB, xGcd, xI, xIc, xIdx, xInt, xInts, xIs_nn, xIs_bb, xIs_bn, xIs_in, xIs_sn, xIs_tn, xIs_ln, xLen, xListOf, xListOfM, xMax, xMin, xNeg, xPop, xSl, xSum, xTupleOf, optW, view, asB, onRL, isRL, pick, keyOf, val_cells, val_mixed, val_draws, put_draws, allD, finD, startA, List.map_cons, List.map_nil, List.length_cons, List.length_nil, List.replicate, List.cons_append, List.nil_append, List.append_nil, List.getElem?_cons_zero, List.getElem?_cons_succ, List.set_cons_zero, List.set_cons_succ, Option.join_some, Option.map_some, List.filterMap_cons, List.filterMap_nil, List.take, Nat.sub_self, Nat.add_one_sub_one, Nat.reduceSub, Nat.reduceAdd, List.replicate_zero, isT, atI_0, atI_1, size2, size1, size3, size0, true_and, and_true, Bool.true_eq_false, Bool.false_eq_true, if_true, if_false, ite_true, ite_false, reduceIte, eq_self, ex_app, ex_app2, ite_tt, ite_ft, List.cons.injEq, W.d.injEq, PyData.int.injEq, PyData.tuple.injEq, exists_eq_left', and_assoc, exists_and_left, eqOk_int, eqD_int, eqOk_fr, eqD_fr, eqOk_str, eqD_str, id, lo_ws1, lo_ws2, lo_ws3, Bool.not_true, Bool.not_false, Bool.and_true, Bool.and_false, Bool.true_and, Bool.false_and, Bool.or_true, Bool.or_false, Bool.true_or, Bool.false_or, sp_compared, sp_compared_f, sp__law_same, G1, G2, e1, e2, h, e3, decide_true, decide_false, Int.lt_irrefl, ok2]
    exact q
theorem ok__law_are_floors_right (T : Tx K mg) : Fdf P w K mg base 10 "_law_are_floors_right" ["one", "other"] [] sp__law_are_floors_right := T.d__law_are_floors_right.fd fun f fd Fn => g__law_are_floors_right T Fn
theorem ifd {b : Bool} {inst : Decidable (b = true)} {p q : Prop} (h1 : b = true → p) (h2 : b = false → q) : @ite Prop (b = true) inst p q := by
  cases b with
  | true => rw [if_pos rfl]; exact h1 rfl
  | false => rw [if_neg Bool.false_ne_true]; exact h2 rfl
theorem repr4 {a b c d : Int} (h1 : Bd 500 a) (h2 : Bd 500 b) (h3 : Bd 500 c) (h4 : Bd 500 d) : seqOf (.tuple [.tuple [.int a, .int b], .tuple [.int c, .int d]]) = true ∧ PyData.hasDict (.tuple [.tuple [.int a, .int b], .tuple [.int c, .int d]]) = false ∧
    PyData.showable (.tuple [.tuple [.int a, .int b], .tuple [.int c, .int d]]) = true ∧ (PyData.depth (.tuple [.tuple [.int a, .int b], .tuple [.int c, .int d]]) ≤ 60) = True ∧ ((PyData.shown (.tuple [.tuple [.int a, .int b], .tuple [.int c, .int d]])).length ≤ sizeLine) = True := by
  obtain ⟨x1, y1⟩ := h1.show (by decide)
  obtain ⟨x2, y2⟩ := h2.show (by decide)
  obtain ⟨x3, y3⟩ := h3.show (by decide)
  obtain ⟨x4, y4⟩ := h4.show (by decide)
  refine ⟨rfl, rfl, ?_, eq_true (by show 2 ≤ 60; decide), eq_true (shown_le ?_ (by show 6 ≤ 8000; decide))⟩
  · simp only [PyData.showable, PyData.showableAll] at x1 x2 x3 x4 ⊢
    simp only [x1, x2, x3, x4, Bool.and_true]
  · simp only [PyData.leavesShort, PyData.leavesShortAll] at y1 y2 y3 y4 ⊢
    simp only [y1, y2, y3, y4, Bool.and_true]
theorem pm_eq {a b c e p q : Int} (h : p * (b * e) = (a * e + c * b) * q) : a * (q * e) = (p * e - c * q) * b := by grind
def lw (ns : List Int) (B : Nat) (p : List (Option W) → Prop) : En → IH → Prop := fun env ih => ∃ l, env = some (.scr ns) :: some (.ref 1) :: l ∧ p l ∧ Dk B [] ih
def iv_law (ns : List Int) : Nat → En → IH → Prop := fun i => lw ns (400 * i) fun l => ∃ t m n d y o u x : Option W, l = [t, m, n, d, y, o, u, x]
abbrev sp_law : ASp := spLaw
theorem g_law (T : Tx K mg) {f : Addr} {fd : FuncData} (Fn : Fun K "law" "law" st_law f fd) : FnG P w K mg base 11 f fd ["script"] sp_law := by
  refine fnG_of Fn sc_law (fun cdv => (bv_cons (sv_set 1 (evc (ok__law_deck T) (Nat.le_of_ble_eq_true rfl) rfl (av_cons (ev_var 0) av_nil)))
      (bv_cons (sv_for (iv_range1 (av_cons ev_int av_nil) rfl T.b_range) (GW.gv (vs := [2]) (gw_name 2)) (bv_cons (sv_set 3 (ev_ifE (tv_cmp ov_eq (evc (ok__law_draw T) (Nat.le_of_ble_eq_true rfl) rfl (av_cons (ev_var 1) (av_cons ev_int av_nil))) ev_int) ev_int ev_int))
      (bv_cons (sv_par3 4 5 6 (av_cons (evc (ok__law_int T) (Nat.le_of_ble_eq_true rfl) rfl (av_cons (ev_var 1) (av_cons (ev_var 3) av_nil))) (av_cons (evc (ok__law_int T) (Nat.le_of_ble_eq_true rfl) rfl (av_cons (ev_var 1) (av_cons (ev_var 3) av_nil))) (av_cons (evc (ok__law_int T) (Nat.le_of_ble_eq_true rfl) rfl (av_cons (ev_var 1) (av_cons ev_int av_nil))) av_nil))) (hw := fun env h => by cases env; subst h; rfl))
      (bv_cons (sv_asg (ev_ifE (WV.tv (wv_and (tv_cmp ov_ne (ev_var 6) ev_int) (wv_and1 (tv_cmp ov_eq (evc (ok__law_draw T) (Nat.le_of_ble_eq_true rfl) rfl (av_cons (ev_var 1) (av_cons ev_int av_nil))) ev_int)))) (ev_tup (av_cons (ev_op ov_mul (ev_var 4) (ev_var 6)) (av_cons (ev_op ov_mul (ev_var 5) (ev_var 6)) av_nil))) (ev_tup (av_cons (ev_var 4) (av_cons (ev_var 5) av_nil)))) (GW.gv (vs := [4, 5]) (gw_tup (n := 2) (gws_cons (gw_name 4) (gws_cons (gw_name 5) gws_nil)))))
      (bv_cons (sv_set 5 (ev_ifE (tv_cmp ov_ne (ev_var 5) ev_int) (ev_var 5) (evc (ok__law_pick T) (Nat.le_of_ble_eq_true rfl) rfl (av_cons (ev_var 1) (av_cons (ev_lst (av_cons ev_int (av_cons (ev_un uv_neg ev_int) (av_cons ev_int (av_cons (ev_un uv_neg ev_int) av_nil))))) av_nil)))))
      (bv_cons (sv_if (WV.tv (wv_or (tv_not (tv_val (evc (ok__law_is_for T) (Nat.le_of_ble_eq_true rfl) rfl (av_cons (evc (ok_lowest T) (Nat.le_of_ble_eq_true rfl) rfl (av_cons (ev_var 4) (av_cons (ev_var 5) av_nil))) (av_cons (ev_var 4) (av_cons (ev_var 5) av_nil)))))) (wv_or1 (tv_not (tv_val (evc (ok__law_is_for T) (Nat.le_of_ble_eq_true rfl) rfl (av_cons (evk0 (ks := ["d", "n"]) (b := 2) (is := [1, 0]) (ok_lowest T) (Nat.le_of_ble_eq_true rfl) rfl (by simp) (kv_cons (ev_un uv_neg (ev_var 5)) (kv_cons (ev_var 4) kv_nil))) (av_cons (ev_var 4) (av_cons (ev_un uv_neg (ev_var 5)) av_nil))))))))) (bv_one (sv_ret ev_bl)) bv_nil)
      (bv_cons (sv_if (tv_not (tv_val (evc (ok__law_same T) (Nat.le_of_ble_eq_true rfl) rfl (av_cons (ev_tup (av_cons (evc (ok_as_fraction T) (Nat.le_of_ble_eq_true rfl) rfl (av_cons (ev_var 4) av_nil)) (av_cons (evk0 (ks := ["n"]) (b := 1) (is := [0]) (ok_as_fraction T) (Nat.le_of_ble_eq_true rfl) rfl (by simp) (kv_cons (ev_var 5) kv_nil)) (av_cons (evc (ok_lowest T) (Nat.le_of_ble_eq_true rfl) rfl (av_cons ev_int (av_cons (ev_var 5) av_nil))) av_nil)))) (av_cons (ev_tup (av_cons (ev_tup (av_cons (ev_var 4) (av_cons ev_int av_nil))) (av_cons (ev_tup (av_cons (ev_var 5) (av_cons ev_int av_nil))) (av_cons (ev_tup (av_cons ev_int (av_cons ev_int av_nil))) av_nil)))) av_nil))))) (bv_one (sv_ret ev_bl)) bv_nil)
      (bv_cons (sv_set 7 (evc (ok__law_fraction T) (Nat.le_of_ble_eq_true rfl) rfl (av_cons (ev_var 1) (av_cons (ev_var 3) av_nil))))
      (bv_cons (sv_set 8 (ev_ifE (tv_cmp ov_eq (evc (ok__law_draw T) (Nat.le_of_ble_eq_true rfl) rfl (av_cons (ev_var 1) (av_cons ev_int av_nil))) ev_int) (evc (ok__law_second T) (Nat.le_of_ble_eq_true rfl) rfl (av_cons (ev_var 1) (av_cons (ev_var 7) (av_cons (ev_var 3) av_nil)))) (evc (ok__law_near T) (Nat.le_of_ble_eq_true rfl) rfl (av_cons (ev_var 1) (av_cons (ev_var 7) av_nil)))))
      (bv_cons (sv_set 9 (ev_callB cv_repr rfl T.b_repr bt_repr (av_cons (ev_tup (av_cons (ev_var 7) (av_cons (ev_var 8) av_nil))) av_nil)))
      (bv_cons (sv_if (WV.tv (wv_or (tv_not (tv_val (evc (ok__law_are_sums_right T) (Nat.le_of_ble_eq_true rfl) rfl (av_cons (ev_var 7) (av_cons (ev_var 8) av_nil))))) (wv_or1 (tv_not (tv_val (evc (ok__law_are_floors_right T) (Nat.le_of_ble_eq_true rfl) rfl (av_cons (ev_var 7) (av_cons (ev_var 8) av_nil)))))))) (bv_one (sv_ret ev_bl)) bv_nil)
      (bv_one (sv_if (WV.tv (wv_or (tv_not (tv_val (evc (ok__law_same T) (Nat.le_of_ble_eq_true rfl) rfl (av_cons (ev_tup (av_cons (evc (ok_minus T) (Nat.le_of_ble_eq_true rfl) rfl (av_cons (evc (ok_plus T) (Nat.le_of_ble_eq_true rfl) rfl (av_cons (ev_var 7) (av_cons (ev_var 8) av_nil))) (av_cons (ev_var 8) av_nil))) (av_cons (evc (ok_times T) (Nat.le_of_ble_eq_true rfl) rfl (av_cons (ev_var 7) (av_cons (ev_tup (av_cons ev_int (av_cons ev_int av_nil))) av_nil))) av_nil))) (av_cons (ev_tup (av_cons (ev_var 7) (av_cons (ev_var 7) av_nil))) av_nil))))) (wv_or1 (tv_cmp ov_ne (ev_callB cv_repr rfl T.b_repr bt_repr (av_cons (ev_tup (av_cons (ev_var 7) (av_cons (ev_var 8) av_nil))) av_nil)) (ev_var 9))))) (bv_one (sv_ret ev_bl)) bv_nil)))))))))))))
      (bv_one (sv_ret (evc (ok__law_same T) (Nat.le_of_ble_eq_true rfl) rfl (av_cons (ev_tup (av_cons (evc (ok_lowest T) (Nat.le_of_ble_eq_true rfl) rfl (av_cons ev_int (av_cons (ev_un uv_neg ev_int) av_nil))) (av_cons (evc (ok_plus T) (Nat.le_of_ble_eq_true rfl) rfl (av_cons (ev_tup (av_cons ev_int (av_cons ev_int av_nil))) (av_cons (ev_tup (av_cons ev_int (av_cons ev_int av_nil))) av_nil))) (av_cons (evc (ok_floor_of T) (Nat.le_of_ble_eq_true rfl) rfl (av_cons (ev_tup (av_cons (ev_un uv_neg ev_int) (av_cons ev_int av_nil))) av_nil)) (av_cons (evc (ok_ceiling_of T) (Nat.le_of_ble_eq_true rfl) rfl (av_cons (ev_tup (av_cons (ev_un uv_neg ev_int) (av_cons ev_int av_nil))) av_nil)) av_nil))))) (av_cons (ev_tup (av_cons (ev_tup (av_cons (ev_un uv_neg ev_int) (av_cons ev_int av_nil))) (av_cons (ev_tup (av_cons ev_int (av_cons ev_int av_nil))) (av_cons (ev_un uv_neg ev_int) (av_cons (ev_un uv_neg ev_int) av_nil))))) av_nil)))))))) fun ws ob Qa hl h => ?_
  obtain ⟨ns, rfl, rfl, hn, q⟩ := h
  refine sq ?_
  simp only [aAnd, aAndV, aAsg, aAsgT, aBk, aC, aCB, aCall, aCallK, aChain, aCons, aCt, aDget, aDispM, aDput, aDrop, aGN, aGcons, aGnil, aGtup, aIE, aIL, aIR1, aIR2, aIT, aIZ, aIf, aIfS, aIsi, aLst, aLstM, aMt, aMt0, aNever, aNil, aNoP, aNot, aNotV, aNx, aOp, aOr, aOrV, aPar, aPar3, aRet, aRetN, aRevD, aRevM, aSl, aSmP, aTst, aTup, aUn, aVar, aYes, xAbs, xAdd, xApp, xBools, xEqB, xGcd, xI, xIc, xIdx, xInt, xInts, xIs_nn, xIs_bb, xIs_bn, xIs_in, xIs_sn, xIs_tn, xIs_ln, xLen, xListOf, xListOfM, xMax, xMin, xNeg, xPop, xSl, xSum, xTupleOf, optW, view, asB, onRL, isRL, pick, keyOf, val_cells, val_mixed, val_draws, put_draws, allD, finD, startA, List.map_cons, List.map_nil, List.length_cons, List.length_nil, List.replicate, List.cons_append, List.nil_append, List.append_nil, List.getElem?_cons_zero, List.getElem?_cons_succ, List.set_cons_zero, List.set_cons_succ, Option.join_some, Option.map_some, List.filterMap_cons, List.filterMap_nil, List.take, Nat.sub_self, Nat.add_one_sub_one, Nat.reduceSub, Nat.reduceAdd, List.replicate_zero, isT, atI_0, atI_1, size2, size1, size3, size0, true_and, and_true, Bool.true_eq_false, Bool.false_eq_true, if_true, if_false, ite_true, ite_false, reduceIte, eq_self, ex_app, ex_app2, ite_tt, ite_ft, List.cons.injEq, W.d.injEq, PyData.int.injEq, PyData.tuple.injEq, exists_eq_left', and_assoc, exists_and_left, eqOk_int, eqD_int, eqOk_fr, eqD_fr, eqOk_str, eqD_str, id, lo_ws1, lo_ws2, lo_ws3, Bool.not_true, Bool.not_false, Bool.and_true, Bool.and_false, Bool.true_and, Bool.false_and, Bool.or_true, Bool.or_false, Bool.true_or, Bool.false_or, sp__law_deck]
  refine ⟨_, rfl, hn, fun o1 hd => ?_⟩
  refine sq ?_
  simp only [aAnd, aAndV, aAsg, aAsgT, aBk, aC, aCB, aCall, aCallK, aChain, aCons, aCt, aDget, aDispM, aDput, aDrop, aGN, aGcons, aGnil, aGtup, aIE, aIL, aIR1, aIR2, aIT, aIZ, aIf, aIfS, aIsi, aLst, aLstM, aMt, aMt0, aNever, aNil, aNoP, aNot, aNotV, aNx, aOp, aOr, aOrV, aPar, aPar3, aRet, aRetN, aRevD, aRevM, aSl, aSmP, aTst, aTup, aUn, aVar, aYes, xAbs, xAdd, xApp, xBools, xEqB, xGcd, xI, xIc, xIdx, xInt, xInts, xIs_nn, xIs_bb, xIs_bn, xIs_in, xIs_sn, xIs_tn, xIs_ln, xLen, xListOf, xListOfM, xMax, xMin, xNeg, xPop, xSl, xSum, xTupleOf, optW, view, asB, onRL, isRL, pick, keyOf, val_cells, val_mixed, val_draws, put_draws, allD, finD, startA, List.map_cons, List.map_nil, List.length_cons, List.length_nil, List.replicate, List.cons_append, List.nil_append, List.append_nil, List.getElem?_cons_zero, List.getElem?_cons_succ, List.set_cons_zero, List.set_cons_succ, Option.join_some, Option.map_some, List.filterMap_cons, List.filterMap_nil, List.take, Nat.sub_self, Nat.add_one_sub_one, Nat.reduceSub, Nat.reduceAdd, List.replicate_zero, isT, atI_0, atI_1, size2, size1, size3, size0, true_and, and_true, Bool.true_eq_false, Bool.false_eq_true, if_true, if_false, ite_true, ite_false, reduceIte, eq_self, ex_app, ex_app2, ite_tt, ite_ft, List.cons.injEq, W.d.injEq, PyData.int.injEq, PyData.tuple.injEq, exists_eq_left', and_assoc, exists_and_left, eqOk_int, eqD_int, eqOk_fr, eqD_fr, eqOk_str, eqD_str, id, lo_ws1, lo_ws2, lo_ws3, Bool.not_true, Bool.not_false, Bool.and_true, Bool.and_false, Bool.true_and, Bool.false_and, Bool.or_true, Bool.or_false, Bool.true_or, Bool.false_or, aFor]
  refine ⟨by decide, by decide, iv_law ns, ⟨_, rfl, ⟨_, _, _, _, _, _, _, _, rfl⟩, hd⟩, ?_, ?_⟩
  · rintro i d env ih hi ⟨_, rfl, ⟨t, m, n, d, y, o, u, x, rfl⟩, hd⟩
    obtain ⟨hi, rfl⟩ := rng_in hi
    have hi8 : i < 8 := by assumption
    simp only [aAnd, aAndV, aAsg, aAsgT, aBk, aC, aCB, aCall, aCallK, aChain, aCons, aCt, aDget, aDispM, aDput, aDrop, aGN, aGcons, aGnil, aGtup, aIE, aIL, aIR1, aIR2, aIT, aIZ, aIf, aIfS, aIsi, aLst, aLstM, aMt, aMt0, aNever, aNil, aNoP, aNot, aNotV, aNx, aOp, aOr, aOrV, aPar, aPar3, aRet, aRetN, aRevD, aRevM, aSl, aSmP, aTst, aTup, aUn, aVar, aYes, xAbs, xAdd, xApp, xBools, xEqB, xGcd, xI, xIc, xIdx, xInt, xInts, xIs_nn, xIs_bb, xIs_bn, xIs_in, xIs_sn, xIs_tn, xIs_ln, xLen, xListOf, xListOfM, xMax, xMin, xNeg, xPop, xSl, xSum, xTupleOf, optW, view, asB, onRL, isRL, pick, keyOf, val_cells, val_mixed, val_draws, put_draws, allD, finD, startA, List.map_cons, List.map_nil, List.length_cons, List.length_nil, List.replicate, List.cons_append, List.nil_append, List.append_nil, List.getElem?_cons_zero, List.getElem?_cons_succ, List.set_cons_zero, List.set_cons_succ, Option.join_some, Option.map_some, List.filterMap_cons, List.filterMap_nil, List.take, Nat.sub_self, Nat.add_one_sub_one, Nat.reduceSub, Nat.reduceAdd, List.replicate_zero, isT, atI_0, atI_1, size2, size1, size3, size0, true_and, and_true, Bool.true_eq_false, Bool.false_eq_true, if_true, if_false, ite_true, ite_false, reduceIte, eq_self, ex_app, ex_app2, ite_tt, ite_ft, List.cons.injEq, W.d.injEq, PyData.int.injEq, PyData.tuple.injEq, exists_eq_left', and_assoc, exists_and_left, eqOk_int, eqD_int, eqOk_fr, eqD_fr, eqOk_str, eqD_str, id, lo_ws1, lo_ws2, lo_ws3, Bool.not_true, Bool.not_false, Bool.and_true, Bool.and_false, Bool.true_and, Bool.false_and, Bool.or_true, Bool.or_false, Bool.true_or, Bool.false_or]
    refine sqm (lw ns (400 * i + 1) fun l => ∃ (t : Option W) (mo : Int), 1 ≤ mo ∧ mo ≤ 90 ∧ l = [t, some (.d (.int mo)), n, d, y, o, u, x]) ?_ ?_
    rotate_left
    · intro R hR
      simp only [aAnd, aAndV, aAsg, aAsgT, aBk, aC, aCB, aCall, aCallK, aChain, aCons, aCt, aDget, aDispM, aDput, aDrop, aGN, aGcons, aGnil, aGtup, aIE, aIL, aIR1, aIR2, aIT, aIZ, aIf, aIfS, aIsi, aLst, aLstM, aMt, aMt0, aNever, aNil, aNoP, aNot, aNotV, aNx, aOp, aOr, aOrV, aPar, aPar3, aRet, aRetN, aRevD, aRevM, aSl, aSmP, aTst, aTup, aUn, aVar, aYes, xAbs, xAdd, xApp, xBools, xEqB, xGcd, xI, xIc, xIdx, xInt, xInts, xIs_nn, xIs_bb, xIs_bn, xIs_in, xIs_sn, xIs_tn, xIs_ln, xLen, xListOf, xListOfM, xMax, xMin, xNeg, xPop, xSl, xSum, xTupleOf, optW, view, asB, onRL, isRL, pick, keyOf, val_cells, val_mixed, val_draws, put_draws, allD, finD, startA, List.map_cons, List.map_nil, List.length_cons, List.length_nil, List.replicate, List.cons_append, List.nil_append, List.append_nil, List.getElem?_cons_zero, List.getElem?_cons_succ, List.set_cons_zero, List.set_cons_succ, Option.join_some, Option.map_some, List.filterMap_cons, List.filterMap_nil, List.take, Nat.sub_self, Nat.add_one_sub_one, Nat.reduceSub, Nat.reduceAdd, List.replicate_zero, isT, atI_0, atI_1, size2, size1, size3, size0, true_and, and_true, Bool.true_eq_false, Bool.false_eq_true, if_true, if_false, ite_true, ite_false, reduceIte, eq_self, ex_app, ex_app2, ite_tt, ite_ft, List.cons.injEq, W.d.injEq, PyData.int.injEq, PyData.tuple.injEq, exists_eq_left', and_assoc, exists_and_left, eqOk_int, eqD_int, eqOk_fr, eqD_fr, eqOk_str, eqD_str, id, lo_ws1, lo_ws2, lo_ws3, Bool.not_true, Bool.not_false, Bool.and_true, Bool.and_false, Bool.true_and, Bool.false_and, Bool.or_true, Bool.or_false, Bool.true_or, Bool.false_or, sp__law_draw]
      refine ⟨_, _, hd, by omega, by decide, by decide, fun k o2 k0 k1 hd2 => ?_⟩
      refine ifd (fun _ => ?_) fun _ => ?_
      · exact hR _ _ ⟨_, rfl, ⟨_, _, by decide, by decide, rfl⟩, hd2⟩
      · exact hR _ _ ⟨_, rfl, ⟨_, _, by decide, by decide, rfl⟩, hd2⟩
    clear hd
    rintro env o1 ⟨_, rfl, ⟨t, mo, m0, m1, rfl⟩, hd⟩
    refine sq ?_
    simp only [aAnd, aAndV, aAsg, aAsgT, aBk, aC, aCB, aCall, aCallK, aChain, aCons, aCt, aDget, aDispM, aDput, aDrop, aGN, aGcons, aGnil, aGtup, aIE, aIL, aIR1, aIR2, aIT, aIZ, aIf, aIfS, aIsi, aLst, aLstM, aMt, aMt0, aNever, aNil, aNoP, aNot, aNotV, aNx, aOp, aOr, aOrV, aPar, aPar3, aRet, aRetN, aRevD, aRevM, aSl, aSmP, aTst, aTup, aUn, aVar, aYes, xAbs, xAdd, xApp, xBools, xEqB, xGcd, xI, xIc, xIdx, xInt, xInts, xIs_nn, xIs_bb, xIs_bn, xIs_in, xIs_sn, xIs_tn, xIs_ln, xLen, xListOf, xListOfM, xMax, xMin, xNeg, xPop, xSl, xSum, xTupleOf, optW, view, asB, onRL, isRL, pick, keyOf, val_cells, val_mixed, val_draws, put_draws, allD, finD, startA, List.map_cons, List.map_nil, List.length_cons, List.length_nil, List.replicate, List.cons_append, List.nil_append, List.append_nil, List.getElem?_cons_zero, List.getElem?_cons_succ, List.set_cons_zero, List.set_cons_succ, Option.join_some, Option.map_some, List.filterMap_cons, List.filterMap_nil, List.take, Nat.sub_self, Nat.add_one_sub_one, Nat.reduceSub, Nat.reduceAdd, List.replicate_zero, isT, atI_0, atI_1, size2, size1, size3, size0, true_and, and_true, Bool.true_eq_false, Bool.false_eq_true, if_true, if_false, ite_true, ite_false, reduceIte, eq_self, ex_app, ex_app2, ite_tt, ite_ft, List.cons.injEq, W.d.injEq, PyData.int.injEq, PyData.tuple.injEq, exists_eq_left', and_assoc, exists_and_left, eqOk_int, eqD_int, eqOk_fr, eqD_fr, eqOk_str, eqD_str, id, lo_ws1, lo_ws2, lo_ws3, Bool.not_true, Bool.not_false, Bool.and_true, Bool.and_false, Bool.true_and, Bool.false_and, Bool.or_true, Bool.or_false, Bool.true_or, Bool.false_or, sp__law_int]
    refine ⟨_, _, hd, by omega, m0, m1, fun n1 o2 b2 hn1 hb2 hd2 => ⟨_, _, hd2, by omega, m0, m1, fun d1 o3 b3 hd1 hb3 hd3 => ⟨_, _, hd3, by omega, by decide, by decide, fun y1 o4 b4 hy1 hb4 hd4 => ?_⟩⟩⟩
    refine sqm (lw ns (400 * i + 62) fun l => ∃ (t y o u x : Option W) (n d : Int), Bd 680 n ∧ Bd 680 d ∧ l = [t, some (.d (.int mo)), some (.d (.int n)), some (.d (.int d)), y, o, u, x]) ?_ ?_
    rotate_left
    · intro R hR
      have c1 : CMulW n1 y1 := hn1.cmul hy1 (by decide)
      have c2 : CMulW d1 y1 := hd1.cmul hy1 (by decide)
      by_cases hy : y1 = 0
      · simp only [aAnd, aAndV, aAsg, aAsgT, aBk, aC, aCB, aCall, aCallK, aChain, aCons, aCt, aDget, aDispM, aDput, aDrop, aGN, aGcons, aGnil, aGtup, aIE, aIL, aIR1, aIR2, aIT, aIZ, aIf, aIfS, aIsi, aLst, aLstM, aMt, aMt0, aNever, aNil, aNoP, aNot, aNotV, aNx, aOp, aOr, aOrV, aPar, aPar3, aRet, aRetN, aRevD, aRevM, aSl, aSmP, aTst, aTup, aUn, aVar, aYes, xAbs, xAdd, xApp, xBools, xEqB, xGcd, xI, xIc, xIdx, xInt, xInts, xIs_nn, xIs_bb, xIs_bn, xIs_in, xIs_sn, xIs_tn, xIs_ln, xLen, xListOf, xListOfM, xMax, xMin, xNeg, xPop, xSl, xSum, xTupleOf, optW, view, asB, onRL, isRL, pick, keyOf, val_cells, val_mixed, val_draws, put_draws, allD, finD, startA, List.map_cons, List.map_nil, List.length_cons, List.length_nil, List.replicate, List.cons_append, List.nil_append, List.append_nil, List.getElem?_cons_zero, List.getElem?_cons_succ, List.set_cons_zero, List.set_cons_succ, Option.join_some, Option.map_some, List.filterMap_cons, List.filterMap_nil, List.take, Nat.sub_self, Nat.add_one_sub_one, Nat.reduceSub, Nat.reduceAdd, List.replicate_zero, isT, atI_0, atI_1, size2, size1, size3, size0, true_and, and_true, Bool.true_eq_false, Bool.false_eq_true, if_true, if_false, ite_true, ite_false, reduceIte, eq_self, ex_app, ex_app2, ite_tt, ite_ft, List.cons.injEq, W.d.injEq, PyData.int.injEq, PyData.tuple.injEq, exists_eq_left', and_assoc, exists_and_left, eqOk_int, eqD_int, eqOk_fr, eqD_fr, eqOk_str, eqD_str, id, lo_ws1, lo_ws2, lo_ws3, Bool.not_true, Bool.not_false, Bool.and_true, Bool.and_false, Bool.true_and, Bool.false_and, Bool.or_true, Bool.or_false, Bool.true_or, Bool.false_or, hy, decide_true]
        exact hR _ _ ⟨_, rfl, ⟨_, _, _, _, _, _, _, hn1.mono (by decide), hd1.mono (by decide), rfl⟩, hd4.mono (by omega)⟩
      · simp only [aAnd, aAndV, aAsg, aAsgT, aBk, aC, aCB, aCall, aCallK, aChain, aCons, aCt, aDget, aDispM, aDput, aDrop, aGN, aGcons, aGnil, aGtup, aIE, aIL, aIR1, aIR2, aIT, aIZ, aIf, aIfS, aIsi, aLst, aLstM, aMt, aMt0, aNever, aNil, aNoP, aNot, aNotV, aNx, aOp, aOr, aOrV, aPar, aPar3, aRet, aRetN, aRevD, aRevM, aSl, aSmP, aTst, aTup, aUn, aVar, aYes, xAbs, xAdd, xApp, xBools, xEqB, xGcd, xI, xIc, xIdx, xInt, xInts, xIs_nn, xIs_bb, xIs_bn, xIs_in, xIs_sn, xIs_tn, xIs_ln, xLen, xListOf, xListOfM, xMax, xMin, xNeg, xPop, xSl, xSum, xTupleOf, optW, view, asB, onRL, isRL, pick, keyOf, val_cells, val_mixed, val_draws, put_draws, allD, finD, startA, List.map_cons, List.map_nil, List.length_cons, List.length_nil, List.replicate, List.cons_append, List.nil_append, List.append_nil, List.getElem?_cons_zero, List.getElem?_cons_succ, List.set_cons_zero, List.set_cons_succ, Option.join_some, Option.map_some, List.filterMap_cons, List.filterMap_nil, List.take, Nat.sub_self, Nat.add_one_sub_one, Nat.reduceSub, Nat.reduceAdd, List.replicate_zero, isT, atI_0, atI_1, size2, size1, size3, size0, true_and, and_true, Bool.true_eq_false, Bool.false_eq_true, if_true, if_false, ite_true, ite_false, reduceIte, eq_self, ex_app, ex_app2, ite_tt, ite_ft, List.cons.injEq, W.d.injEq, PyData.int.injEq, PyData.tuple.injEq, exists_eq_left', and_assoc, exists_and_left, eqOk_int, eqD_int, eqOk_fr, eqD_fr, eqOk_str, eqD_str, id, lo_ws1, lo_ws2, lo_ws3, Bool.not_true, Bool.not_false, Bool.and_true, Bool.and_false, Bool.true_and, Bool.false_and, Bool.or_true, Bool.or_false, Bool.true_or, Bool.false_or, hy, decide_false, sp__law_draw, c1, c2]
        refine ⟨_, _, hd4, by omega, by decide, by decide, fun k o5 k0 k1 hd5 => ?_⟩
        refine ifd (fun _ => ?_) fun _ => ?_
        · exact hR _ _ ⟨_, rfl, ⟨_, _, _, _, _, _, _, (hn1.mul hy1), (hd1.mul hy1), rfl⟩, hd5.mono (by omega)⟩
        · exact hR _ _ ⟨_, rfl, ⟨_, _, _, _, _, _, _, hn1.mono (by decide), hd1.mono (by decide), rfl⟩, hd5.mono (by omega)⟩
    clear hn1 hd1 hy1 hd hd2 hd3 hd4
    rintro env o5 ⟨_, rfl, ⟨t, y, o, u, x, n, d, bn, bd, rfl⟩, hd⟩
    refine sqm (lw ns (400 * i + 63) fun l => ∃ (t y o u x : Option W) (n d : Int), Bd 680 n ∧ Bd 680 d ∧ d ≠ 0 ∧ l = [t, some (.d (.int mo)), some (.d (.int n)), some (.d (.int d)), y, o, u, x]) ?_ ?_
    rotate_left
    · intro R hR
      by_cases hz : d = 0
      · have sz : (4 : Nat) ≤ sizeLine := by decide
        simp only [aAnd, aAndV, aAsg, aAsgT, aBk, aC, aCB, aCall, aCallK, aChain, aCons, aCt, aDget, aDispM, aDput, aDrop, aGN, aGcons, aGnil, aGtup, aIE, aIL, aIR1, aIR2, aIT, aIZ, aIf, aIfS, aIsi, aLst, aLstM, aMt, aMt0, aNever, aNil, aNoP, aNot, aNotV, aNx, aOp, aOr, aOrV, aPar, aPar3, aRet, aRetN, aRevD, aRevM, aSl, aSmP, aTst, aTup, aUn, aVar, aYes, xAbs, xAdd, xApp, xBools, xEqB, xGcd, xI, xIc, xIdx, xInt, xInts, xIs_nn, xIs_bb, xIs_bn, xIs_in, xIs_sn, xIs_tn, xIs_ln, xLen, xListOf, xListOfM, xMax, xMin, xNeg, xPop, xSl, xSum, xTupleOf, optW, view, asB, onRL, isRL, pick, keyOf, val_cells, val_mixed, val_draws, put_draws, allD, finD, startA, List.map_cons, List.map_nil, List.length_cons, List.length_nil, List.replicate, List.cons_append, List.nil_append, List.append_nil, List.getElem?_cons_zero, List.getElem?_cons_succ, List.set_cons_zero, List.set_cons_succ, Option.join_some, Option.map_some, List.filterMap_cons, List.filterMap_nil, List.take, Nat.sub_self, Nat.add_one_sub_one, Nat.reduceSub, Nat.reduceAdd, List.replicate_zero, isT, atI_0, atI_1, size2, size1, size3, size0, true_and, and_true, Bool.true_eq_false, Bool.false_eq_true, if_true, if_false, ite_true, ite_false, reduceIte, eq_self, ex_app, ex_app2, ite_tt, ite_ft, List.cons.injEq, W.d.injEq, PyData.int.injEq, PyData.tuple.injEq, exists_eq_left', and_assoc, exists_and_left, eqOk_int, eqD_int, eqOk_fr, eqD_fr, eqOk_str, eqD_str, id, lo_ws1, lo_ws2, lo_ws3, Bool.not_true, Bool.not_false, Bool.and_true, Bool.and_false, Bool.true_and, Bool.false_and, Bool.or_true, Bool.or_false, Bool.true_or, Bool.false_or, hz, decide_true, sp__law_pick, sz, PyData.list.injEq]
        refine ⟨_, _, hd, by omega, by decide, by decide, fun x o6 hx hd6 => ?_⟩
        obtain ⟨d2, rfl, z2, b2⟩ : ∃ d : Int, x = .int d ∧ d ≠ 0 ∧ Bd 6 d := by
          simp only [List.mem_cons, List.not_mem_nil, or_false] at hx
          rcases hx with rfl | rfl | rfl | rfl <;> exact ⟨_, rfl, by decide, by decide⟩
        exact hR _ _ ⟨_, rfl, ⟨_, _, _, _, _, _, _, bn, b2.mono (by decide), z2, rfl⟩, hd6⟩
      · simp only [aAnd, aAndV, aAsg, aAsgT, aBk, aC, aCB, aCall, aCallK, aChain, aCons, aCt, aDget, aDispM, aDput, aDrop, aGN, aGcons, aGnil, aGtup, aIE, aIL, aIR1, aIR2, aIT, aIZ, aIf, aIfS, aIsi, aLst, aLstM, aMt, aMt0, aNever, aNil, aNoP, aNot, aNotV, aNx, aOp, aOr, aOrV, aPar, aPar3, aRet, aRetN, aRevD, aRevM, aSl, aSmP, aTst, aTup, aUn, aVar, aYes, xAbs, xAdd, xApp, xBools, xEqB, xGcd, xI, xIc, xIdx, xInt, xInts, xIs_nn, xIs_bb, xIs_bn, xIs_in, xIs_sn, xIs_tn, xIs_ln, xLen, xListOf, xListOfM, xMax, xMin, xNeg, xPop, xSl, xSum, xTupleOf, optW, view, asB, onRL, isRL, pick, keyOf, val_cells, val_mixed, val_draws, put_draws, allD, finD, startA, List.map_cons, List.map_nil, List.length_cons, List.length_nil, List.replicate, List.cons_append, List.nil_append, List.append_nil, List.getElem?_cons_zero, List.getElem?_cons_succ, List.set_cons_zero, List.set_cons_succ, Option.join_some, Option.map_some, List.filterMap_cons, List.filterMap_nil, List.take, Nat.sub_self, Nat.add_one_sub_one, Nat.reduceSub, Nat.reduceAdd, List.replicate_zero, isT, atI_0, atI_1, size2, size1, size3, size0, true_and, and_true, Bool.true_eq_false, Bool.false_eq_true, if_true, if_false, ite_true, ite_false, reduceIte, eq_self, ex_app, ex_app2, ite_tt, ite_ft, List.cons.injEq, W.d.injEq, PyData.int.injEq, PyData.tuple.injEq, exists_eq_left', and_assoc, exists_and_left, eqOk_int, eqD_int, eqOk_fr, eqD_fr, eqOk_str, eqD_str, id, lo_ws1, lo_ws2, lo_ws3, Bool.not_true, Bool.not_false, Bool.and_true, Bool.and_false, Bool.true_and, Bool.false_and, Bool.or_true, Bool.or_false, Bool.true_or, Bool.false_or, hz, decide_false]
        exact hR _ _ ⟨_, rfl, ⟨_, _, _, _, _, _, _, bn, bd, hz, rfl⟩, hd.mono (by omega)⟩
    clear bn bd hd
    rintro env o6 ⟨_, rfl, ⟨t, y, o, u, x, n, d, bn, bd, hz, rfl⟩, hd⟩
    have w1 : Bd 3000 n := bn.mono (by decide)
    have w2 : Bd 3000 d := bd.mono (by decide)
    have w3 : Bd 5000 n := bn.mono (by decide)
    have w4 : Bd 5000 d := bd.mono (by decide)
    have z2 : -d ≠ 0 := by omega
    refine sq ?_
    simp only [aAnd, aAndV, aAsg, aAsgT, aBk, aC, aCB, aCall, aCallK, aChain, aCons, aCt, aDget, aDispM, aDput, aDrop, aGN, aGcons, aGnil, aGtup, aIE, aIL, aIR1, aIR2, aIT, aIZ, aIf, aIfS, aIsi, aLst, aLstM, aMt, aMt0, aNever, aNil, aNoP, aNot, aNotV, aNx, aOp, aOr, aOrV, aPar, aPar3, aRet, aRetN, aRevD, aRevM, aSl, aSmP, aTst, aTup, aUn, aVar, aYes, xAbs, xAdd, xApp, xBools, xEqB, xGcd, xI, xIc, xIdx, xInt, xInts, xIs_nn, xIs_bb, xIs_bn, xIs_in, xIs_sn, xIs_tn, xIs_ln, xLen, xListOf, xListOfM, xMax, xMin, xNeg, xPop, xSl, xSum, xTupleOf, optW, view, asB, onRL, isRL, pick, keyOf, val_cells, val_mixed, val_draws, put_draws, allD, finD, startA, List.map_cons, List.map_nil, List.length_cons, List.length_nil, List.replicate, List.cons_append, List.nil_append, List.append_nil, List.getElem?_cons_zero, List.getElem?_cons_succ, List.set_cons_zero, List.set_cons_succ, Option.join_some, Option.map_some, List.filterMap_cons, List.filterMap_nil, List.take, Nat.sub_self, Nat.add_one_sub_one, Nat.reduceSub, Nat.reduceAdd, List.replicate_zero, isT, atI_0, atI_1, size2, size1, size3, size0, true_and, and_true, Bool.true_eq_false, Bool.false_eq_true, if_true, if_false, ite_true, ite_false, reduceIte, eq_self, ex_app, ex_app2, ite_tt, ite_ft, List.cons.injEq, W.d.injEq, PyData.int.injEq, PyData.tuple.injEq, exists_eq_left', and_assoc, exists_and_left, eqOk_int, eqD_int, eqOk_fr, eqD_fr, eqOk_str, eqD_str, id, lo_ws1, lo_ws2, lo_ws3, Bool.not_true, Bool.not_false, Bool.and_true, Bool.and_false, Bool.true_and, Bool.false_and, Bool.or_true, Bool.or_false, Bool.true_or, Bool.false_or, sp_lowest, sp__law_is_for, w1, w2, w3, w4, w2.neg, w4.neg, hz, z2, ne_eq, not_false_eq_true]
    intro p z l1
    refine ⟨l1, fun p z l2 => ⟨l2, ?_⟩⟩
    refine sq ?_
    have z0 : Bd 3000 0 := Bd.mono (a := 1) (by decide) (by decide)
    simp only [aAnd, aAndV, aAsg, aAsgT, aBk, aC, aCB, aCall, aCallK, aChain, aCons, aCt, aDget, aDispM, aDput, aDrop, aGN, aGcons, aGnil, aGtup, aIE, aIL, aIR1, aIR2, aIT, aIZ, aIf, aIfS, aIsi, aLst, aLstM, aMt, aMt0, aNever, aNil, aNoP, aNot, aNotV, aNx, aOp, aOr, aOrV, aPar, aPar3, aRet, aRetN, aRevD, aRevM, aSl, aSmP, aTst, aTup, aUn, aVar, aYes, xAbs, xAdd, xApp, xBools, xEqB, xGcd, xI, xIc, xIdx, xInt, xInts, xIs_nn, xIs_bb, xIs_bn, xIs_in, xIs_sn, xIs_tn, xIs_ln, xLen, xListOf, xListOfM, xMax, xMin, xNeg, xPop, xSl, xSum, xTupleOf, optW, view, asB, onRL, isRL, pick, keyOf, val_cells, val_mixed, val_draws, put_draws, allD, finD, startA, List.map_cons, List.map_nil, List.length_cons, List.length_nil, List.replicate, List.cons_append, List.nil_append, List.append_nil, List.getElem?_cons_zero, List.getElem?_cons_succ, List.set_cons_zero, List.set_cons_succ, Option.join_some, Option.map_some, List.filterMap_cons, List.filterMap_nil, List.take, Nat.sub_self, Nat.add_one_sub_one, Nat.reduceSub, Nat.reduceAdd, List.replicate_zero, isT, atI_0, atI_1, size2, size1, size3, size0, true_and, and_true, Bool.true_eq_false, Bool.false_eq_true, if_true, if_false, ite_true, ite_false, reduceIte, eq_self, ex_app, ex_app2, ite_tt, ite_ft, List.cons.injEq, W.d.injEq, PyData.int.injEq, PyData.tuple.injEq, exists_eq_left', and_assoc, exists_and_left, eqOk_int, eqD_int, eqOk_fr, eqD_fr, eqOk_str, eqD_str, id, lo_ws1, lo_ws2, lo_ws3, Bool.not_true, Bool.not_false, Bool.and_true, Bool.and_false, Bool.true_and, Bool.false_and, Bool.or_true, Bool.or_false, Bool.true_or, Bool.false_or, sp_lowest, sp_as_fraction, sp__law_same, w2, hz, ne_eq, not_false_eq_true, z0]
    intro p z l3
    obtain ⟨rfl, rfl⟩ := l3.uniq (a := 0) (b := 1) hz (by decide) (by decide) (by simp)
    refine ⟨rfl, rfl, rfl, ?_⟩
    refine sq ?_
    simp only [aAnd, aAndV, aAsg, aAsgT, aBk, aC, aCB, aCall, aCallK, aChain, aCons, aCt, aDget, aDispM, aDput, aDrop, aGN, aGcons, aGnil, aGtup, aIE, aIL, aIR1, aIR2, aIT, aIZ, aIf, aIfS, aIsi, aLst, aLstM, aMt, aMt0, aNever, aNil, aNoP, aNot, aNotV, aNx, aOp, aOr, aOrV, aPar, aPar3, aRet, aRetN, aRevD, aRevM, aSl, aSmP, aTst, aTup, aUn, aVar, aYes, xAbs, xAdd, xApp, xBools, xEqB, xGcd, xI, xIc, xIdx, xInt, xInts, xIs_nn, xIs_bb, xIs_bn, xIs_in, xIs_sn, xIs_tn, xIs_ln, xLen, xListOf, xListOfM, xMax, xMin, xNeg, xPop, xSl, xSum, xTupleOf, optW, view, asB, onRL, isRL, pick, keyOf, val_cells, val_mixed, val_draws, put_draws, allD, finD, startA, List.map_cons, List.map_nil, List.length_cons, List.length_nil, List.replicate, List.cons_append, List.nil_append, List.append_nil, List.getElem?_cons_zero, List.getElem?_cons_succ, List.set_cons_zero, List.set_cons_succ, Option.join_some, Option.map_some, List.filterMap_cons, List.filterMap_nil, List.take, Nat.sub_self, Nat.add_one_sub_one, Nat.reduceSub, Nat.reduceAdd, List.replicate_zero, isT, atI_0, atI_1, size2, size1, size3, size0, true_and, and_true, Bool.true_eq_false, Bool.false_eq_true, if_true, if_false, ite_true, ite_false, reduceIte, eq_self, ex_app, ex_app2, ite_tt, ite_ft, List.cons.injEq, W.d.injEq, PyData.int.injEq, PyData.tuple.injEq, exists_eq_left', and_assoc, exists_and_left, eqOk_int, eqD_int, eqOk_fr, eqD_fr, eqOk_str, eqD_str, id, lo_ws1, lo_ws2, lo_ws3, Bool.not_true, Bool.not_false, Bool.and_true, Bool.and_false, Bool.true_and, Bool.false_and, Bool.or_true, Bool.or_false, Bool.true_or, Bool.false_or, sp__law_fraction]
    refine ⟨_, _, hd, by omega, m0, m1, fun a b o7 b7 F hb7 hd7 => ?_⟩
    refine sqm (lw ns (400 * i + 160) fun l => ∃ (t n d y x : Option W) (c e : Int), Fr 480 c e ∧ l = [t, some (.d (.int mo)), n, d, y, some (.d (.tuple [.int a, .int b])), some (.d (.tuple [.int c, .int e])), x]) ?_ ?_
    rotate_left
    · intro R hR
      simp only [aAnd, aAndV, aAsg, aAsgT, aBk, aC, aCB, aCall, aCallK, aChain, aCons, aCt, aDget, aDispM, aDput, aDrop, aGN, aGcons, aGnil, aGtup, aIE, aIL, aIR1, aIR2, aIT, aIZ, aIf, aIfS, aIsi, aLst, aLstM, aMt, aMt0, aNever, aNil, aNoP, aNot, aNotV, aNx, aOp, aOr, aOrV, aPar, aPar3, aRet, aRetN, aRevD, aRevM, aSl, aSmP, aTst, aTup, aUn, aVar, aYes, xAbs, xAdd, xApp, xBools, xEqB, xGcd, xI, xIc, xIdx, xInt, xInts, xIs_nn, xIs_bb, xIs_bn, xIs_in, xIs_sn, xIs_tn, xIs_ln, xLen, xListOf, xListOfM, xMax, xMin, xNeg, xPop, xSl, xSum, xTupleOf, optW, view, asB, onRL, isRL, pick, keyOf, val_cells, val_mixed, val_draws, put_draws, allD, finD, startA, List.map_cons, List.map_nil, List.length_cons, List.length_nil, List.replicate, List.cons_append, List.nil_append, List.append_nil, List.getElem?_cons_zero, List.getElem?_cons_succ, List.set_cons_zero, List.set_cons_succ, Option.join_some, Option.map_some, List.filterMap_cons, List.filterMap_nil, List.take, Nat.sub_self, Nat.add_one_sub_one, Nat.reduceSub, Nat.reduceAdd, List.replicate_zero, isT, atI_0, atI_1, size2, size1, size3, size0, true_and, and_true, Bool.true_eq_false, Bool.false_eq_true, if_true, if_false, ite_true, ite_false, reduceIte, eq_self, ex_app, ex_app2, ite_tt, ite_ft, List.cons.injEq, W.d.injEq, PyData.int.injEq, PyData.tuple.injEq, exists_eq_left', and_assoc, exists_and_left, eqOk_int, eqD_int, eqOk_fr, eqD_fr, eqOk_str, eqD_str, id, lo_ws1, lo_ws2, lo_ws3, Bool.not_true, Bool.not_false, Bool.and_true, Bool.and_false, Bool.true_and, Bool.false_and, Bool.or_true, Bool.or_false, Bool.true_or, Bool.false_or, sp__law_draw, sp__law_second, sp__law_near]
      refine ⟨_, _, hd7, by omega, by decide, by decide, fun k o8 k0 k1 hd8 => ?_⟩
      refine ifd (fun _ => ?_) fun _ => ?_
      · refine ⟨_, _, hd8, by omega, m0, m1, F, fun c e o9 b9 F2 hb9 hd9 => ?_⟩
        exact hR _ _ ⟨_, rfl, ⟨_, _, _, _, _, _, _, F2.mono (by decide), rfl⟩, hd9.mono (by omega)⟩
      · refine ⟨_, _, hd8, by omega, F, fun c e o9 b9 F2 hb9 hd9 => ?_⟩
        exact hR _ _ ⟨_, rfl, ⟨_, _, _, _, _, _, _, F2, rfl⟩, hd9.mono (by omega)⟩
    clear hd hd7
    rintro env o8 ⟨_, rfl, ⟨t, n, d, y, x, c, e, F2, rfl⟩, hd⟩
    have G1 : Fr 500 a b := F.mono (by decide)
    have G2 : Fr 500 c e := F2.mono (by decide)
    have H1 : Fr 1400 a b := F.mono (by decide)
    have H2 : Fr 1400 c e := F2.mono (by decide)
    have O1 : Fr 1400 1 1 := ⟨by decide, by decide, Bd.mono (a := 1) (by decide) (by decide), Bd.mono (a := 1) (by decide) (by decide)⟩
    obtain ⟨r1, r2, r3, r4, r5⟩ := repr4 G1.bn G1.bd G2.bn G2.bd
    refine sq ?_
    simp only [aAnd, aAndV, aAsg, aAsgT, aBk, aC, aCB, aCall, aCallK, aChain, aCons, aCt, aDget, aDispM, aDput, aDrop, aGN, aGcons, aGnil, aGtup, aIE, aIL, aIR1, aIR2, aIT, aIZ, aIf, aIfS, aIsi, aLst, aLstM, aMt, aMt0, aNever, aNil, aNoP, aNot, aNotV, aNx, aOp, aOr, aOrV, aPar, aPar3, aRet, aRetN, aRevD, aRevM, aSl, aSmP, aTst, aTup, aUn, aVar, aYes, xAbs, xAdd, xApp, xBools, xEqB, xGcd, xI, xIc, xIdx, xInt, xInts, xIs_nn, xIs_bb, xIs_bn, xIs_in, xIs_sn, xIs_tn, xIs_ln, xLen, xListOf, xListOfM, xMax, xMin, xNeg, xPop, xSl, xSum, xTupleOf, optW, view, asB, onRL, isRL, pick, keyOf, val_cells, val_mixed, val_draws, put_draws, allD, finD, startA, List.map_cons, List.map_nil, List.length_cons, List.length_nil, List.replicate, List.cons_append, List.nil_append, List.append_nil, List.getElem?_cons_zero, List.getElem?_cons_succ, List.set_cons_zero, List.set_cons_succ, Option.join_some, Option.map_some, List.filterMap_cons, List.filterMap_nil, List.take, Nat.sub_self, Nat.add_one_sub_one, Nat.reduceSub, Nat.reduceAdd, List.replicate_zero, isT, atI_0, atI_1, size2, size1, size3, size0, true_and, and_true, Bool.true_eq_false, Bool.false_eq_true, if_true, if_false, ite_true, ite_false, reduceIte, eq_self, ex_app, ex_app2, ite_tt, ite_ft, List.cons.injEq, W.d.injEq, PyData.int.injEq, PyData.tuple.injEq, exists_eq_left', and_assoc, exists_and_left, eqOk_int, eqD_int, eqOk_fr, eqD_fr, eqOk_str, eqD_str, id, lo_ws1, lo_ws2, lo_ws3, Bool.not_true, Bool.not_false, Bool.and_true, Bool.and_false, Bool.true_and, Bool.false_and, Bool.or_true, Bool.or_false, Bool.true_or, Bool.false_or, r1, r2, r3, r4, r5]
    refine sq ?_
    simp only [aAnd, aAndV, aAsg, aAsgT, aBk, aC, aCB, aCall, aCallK, aChain, aCons, aCt, aDget, aDispM, aDput, aDrop, aGN, aGcons, aGnil, aGtup, aIE, aIL, aIR1, aIR2, aIT, aIZ, aIf, aIfS, aIsi, aLst, aLstM, aMt, aMt0, aNever, aNil, aNoP, aNot, aNotV, aNx, aOp, aOr, aOrV, aPar, aPar3, aRet, aRetN, aRevD, aRevM, aSl, aSmP, aTst, aTup, aUn, aVar, aYes, xAbs, xAdd, xApp, xBools, xEqB, xGcd, xI, xIc, xIdx, xInt, xInts, xIs_nn, xIs_bb, xIs_bn, xIs_in, xIs_sn, xIs_tn, xIs_ln, xLen, xListOf, xListOfM, xMax, xMin, xNeg, xPop, xSl, xSum, xTupleOf, optW, view, asB, onRL, isRL, pick, keyOf, val_cells, val_mixed, val_draws, put_draws, allD, finD, startA, List.map_cons, List.map_nil, List.length_cons, List.length_nil, List.replicate, List.cons_append, List.nil_append, List.append_nil, List.getElem?_cons_zero, List.getElem?_cons_succ, List.set_cons_zero, List.set_cons_succ, Option.join_some, Option.map_some, List.filterMap_cons, List.filterMap_nil, List.take, Nat.sub_self, Nat.add_one_sub_one, Nat.reduceSub, Nat.reduceAdd, List.replicate_zero, isT, atI_0, atI_1, size2, size1, size3, size0, true_and, and_true, Bool.true_eq_false, Bool.false_eq_true, if_true, if_false, ite_true, ite_false, reduceIte, eq_self, ex_app, ex_app2, ite_tt, ite_ft, List.cons.injEq, W.d.injEq, PyData.int.injEq, PyData.tuple.injEq, exists_eq_left', and_assoc, exists_and_left, eqOk_int, eqD_int, eqOk_fr, eqD_fr, eqOk_str, eqD_str, id, lo_ws1, lo_ws2, lo_ws3, Bool.not_true, Bool.not_false, Bool.and_true, Bool.and_false, Bool.true_and, Bool.false_and, Bool.or_true, Bool.or_false, Bool.true_or, Bool.false_or, sp__law_are_sums_right, sp__law_are_floors_right, G1, G2]
    have nz : b * e ≠ 0 := Int.mul_ne_zero (by have := F.pos; omega) (by have := F2.pos; omega)
    simp only [aAnd, aAndV, aAsg, aAsgT, aBk, aC, aCB, aCall, aCallK, aChain, aCons, aCt, aDget, aDispM, aDput, aDrop, aGN, aGcons, aGnil, aGtup, aIE, aIL, aIR1, aIR2, aIT, aIZ, aIf, aIfS, aIsi, aLst, aLstM, aMt, aMt0, aNever, aNil, aNoP, aNot, aNotV, aNx, aOp, aOr, aOrV, aPar, aPar3, aRet, aRetN, aRevD, aRevM, aSeq, aSl, aSmP, aTst, aTup, aUn, aVar, aYes, xAbs, xAdd, xApp, xBools, xEqB, xGcd, xI, xIc, xIdx, xInt, xInts, xIs_nn, xIs_bb, xIs_bn, xIs_in, xIs_sn, xIs_tn, xIs_ln, xLen, xListOf, xListOfM, xMax, xMin, xNeg, xPop, xSl, xSum, xTupleOf, optW, view, asB, onRL, isRL, pick, keyOf, val_cells, val_mixed, val_draws, put_draws, allD, finD, startA, List.map_cons, List.map_nil, List.length_cons, List.length_nil, List.replicate, List.cons_append, List.nil_append, List.append_nil, List.getElem?_cons_zero, List.getElem?_cons_succ, List.set_cons_zero, List.set_cons_succ, Option.join_some, Option.map_some, List.filterMap_cons, List.filterMap_nil, List.take, Nat.sub_self, Nat.add_one_sub_one, Nat.reduceSub, Nat.reduceAdd, List.replicate_zero, isT, atI_0, atI_1, size2, size1, size3, size0, true_and, and_true, Bool.true_eq_false, Bool.false_eq_true, if_true, if_false, ite_true, ite_false, reduceIte, eq_self, ex_app, ex_app2, ite_tt, ite_ft, List.cons.injEq, W.d.injEq, PyData.int.injEq, PyData.tuple.injEq, exists_eq_left', and_assoc, exists_and_left, eqOk_int, eqD_int, eqOk_fr, eqD_fr, eqOk_str, eqD_str, id, lo_ws1, lo_ws2, lo_ws3, Bool.not_true, Bool.not_false, Bool.and_true, Bool.and_false, Bool.true_and, Bool.false_and, Bool.or_true, Bool.or_false, Bool.true_or, Bool.false_or, sp_plus, sp_plus_f, sp_minus, sp_minus_f, sp_times, sp_times_f, sp__law_same, H1, H2, O1, r1, r2, r3, r4, r5]
    intro p z l1
    have t1 : Bd 1400 (a * e + c * b) := ((G1.bn.mul G2.bd).add (G2.bn.mul G1.bd)).mono (by decide)
    have t2 : Bd 1400 (b * e) := (G1.bd.mul G2.bd).mono (by decide)
    refine ⟨l1.fr t1 t2, fun p2 z2 l2 p3 z3 l3 => ?_⟩
    obtain ⟨rfl, rfl⟩ := l3.uniq (a := a) (b := b) (by rw [Int.mul_one]; have := F.pos; omega) F.pos F.gcd (by rw [Int.mul_one, Int.mul_one])
    have zp := l1.pos
    obtain ⟨rfl, rfl⟩ := l2.uniq (a := p3) (b := z3) (Int.mul_ne_zero (by omega) (by have := F2.pos; omega)) F.pos F.gcd (pm_eq l1.eq)
    refine ⟨rfl, rfl, rfl, rfl, rfl, ?_⟩
    simp only [decide_true, Bool.not_true, Bool.false_eq_true, if_false]
    exact ⟨_, rfl, ⟨_, _, _, _, _, _, _, _, rfl⟩, hd.mono (by omega)⟩
  · rintro env ih ⟨_, rfl, ⟨t, m, n, d, y, o, u, x, rfl⟩, hd⟩
    have b6 : Bd 3000 6 := Bd.mono (a := 3) (by decide) (by decide)
    have b4 : Bd 3000 (-4) := Bd.mono (a := 3) (by decide) (by decide)
    have f1 : Fr 1400 1 2 := ⟨by decide, by decide, Bd.mono (a := 2) (by decide) (by decide), Bd.mono (a := 2) (by decide) (by decide)⟩
    have f2 : Fr 1400 1 3 := ⟨by decide, by decide, Bd.mono (a := 2) (by decide) (by decide), Bd.mono (a := 2) (by decide) (by decide)⟩
    have f3 : Fr 1400 (-3) 2 := ⟨by decide, by decide, Bd.mono (a := 2) (by decide) (by decide), Bd.mono (a := 2) (by decide) (by decide)⟩
    have n4 : (-4 : Int) ≠ 0 := by decide
    simp only [aAnd, aAndV, aAsg, aAsgT, aBk, aC, aCB, aCall, aCallK, aChain, aCons, aCt, aDget, aDispM, aDput, aDrop, aGN, aGcons, aGnil, aGtup, aIE, aIL, aIR1, aIR2, aIT, aIZ, aIf, aIfS, aIsi, aLst, aLstM, aMt, aMt0, aNever, aNil, aNoP, aNot, aNotV, aNx, aOp, aOr, aOrV, aPar, aPar3, aRet, aRetN, aRevD, aRevM, aSeq, aSl, aSmP, aTst, aTup, aUn, aVar, aYes, xAbs, xAdd, xApp, xBools, xEqB, xGcd, xI, xIc, xIdx, xInt, xInts, xIs_nn, xIs_bb, xIs_bn, xIs_in, xIs_sn, xIs_tn, xIs_ln, xLen, xListOf, xListOfM, xMax, xMin, xNeg, xPop, xSl, xSum, xTupleOf, optW, view, asB, onRL, isRL, pick, keyOf, val_cells, val_mixed, val_draws, put_draws, allD, finD, startA, List.map_cons, List.map_nil, List.length_cons, List.length_nil, List.replicate, List.cons_append, List.nil_append, List.append_nil, List.getElem?_cons_zero, List.getElem?_cons_succ, List.set_cons_zero, List.set_cons_succ, Option.join_some, Option.map_some, List.filterMap_cons, List.filterMap_nil, List.take, Nat.sub_self, Nat.add_one_sub_one, Nat.reduceSub, Nat.reduceAdd, List.replicate_zero, isT, atI_0, atI_1, size2, size1, size3, size0, true_and, and_true, Bool.true_eq_false, Bool.false_eq_true, if_true, if_false, ite_true, ite_false, reduceIte, eq_self, ex_app, ex_app2, ite_tt, ite_ft, List.cons.injEq, W.d.injEq, PyData.int.injEq, PyData.tuple.injEq, exists_eq_left', and_assoc, exists_and_left, eqOk_int, eqD_int, eqOk_fr, eqD_fr, eqOk_str, eqD_str, id, lo_ws1, lo_ws2, lo_ws3, Bool.not_true, Bool.not_false, Bool.and_true, Bool.and_false, Bool.true_and, Bool.false_and, Bool.or_true, Bool.or_false, Bool.true_or, Bool.false_or, sp_lowest, sp_plus, sp_plus_f, sp_floor_of, sp_ceiling_of, sp__law_same, b6, b4, f1, f2, f3, n4, ne_eq, not_false_eq_true]
    intro p z l1 p2 z2 l2
    obtain ⟨rfl, rfl⟩ := l1.uniq (a := -3) (b := 2) (by decide) (by decide) (by decide) (by decide)
    obtain ⟨rfl, rfl⟩ := l2.uniq (a := 5) (b := 6) (by decide) (by decide) (by decide) (by decide)
    exact ⟨by decide, by decide, rfl, rfl, rfl, rfl, by decide, by decide, rfl, ⟨_, rfl⟩, q _⟩
end
theorem mkTx {K : PySem.W.Frag} {h : Heap} {mg : Str → Option Value} (X : K.In h) (G : h.Ns mainGlobals mg)
    {f0 : Addr} {oc0 kV0 dc0 pm0 cd0 ct0 : Value} {od0 an0 : Option Addr} {sl0 : Array (Option Value)}
    {f1 : Addr} {oc1 kV1 dc1 pm1 cd1 ct1 : Value} {od1 an1 : Option Addr} {sl1 : Array (Option Value)}
    {f2 : Addr} {oc2 kV2 dc2 pm2 cd2 ct2 : Value} {od2 an2 : Option Addr} {sl2 : Array (Option Value)}
    {f3 : Addr} {oc3 kV3 dc3 pm3 cd3 ct3 : Value} {od3 an3 : Option Addr} {sl3 : Array (Option Value)}
    {f4 : Addr} {oc4 kV4 dc4 pm4 cd4 ct4 : Value} {od4 an4 : Option Addr} {sl4 : Array (Option Value)}
    {f5 : Addr} {oc5 kV5 dc5 pm5 cd5 ct5 : Value} {od5 an5 : Option Addr} {sl5 : Array (Option Value)}
    {f6 : Addr} {oc6 kV6 dc6 pm6 cd6 ct6 : Value} {od6 an6 : Option Addr} {sl6 : Array (Option Value)}
    {f7 : Addr} {oc7 kV7 dc7 pm7 cd7 ct7 : Value} {od7 an7 : Option Addr} {sl7 : Array (Option Value)}
    {f8 : Addr} {oc8 kV8 dc8 pm8 cd8 ct8 : Value} {od8 an8 : Option Addr} {sl8 : Array (Option Value)}
    {f9 : Addr} {oc9 kV9 dc9 pm9 cd9 ct9 : Value} {od9 an9 : Option Addr} {sl9 : Array (Option Value)}
    {f10 : Addr} {oc10 kV10 dc10 pm10 cd10 ct10 : Value} {od10 an10 : Option Addr} {sl10 : Array (Option Value)}
    {f11 : Addr} {oc11 kV11 dc11 pm11 cd11 ct11 : Value} {od11 an11 : Option Addr} {sl11 : Array (Option Value)}
    {f12 : Addr} {oc12 kV12 dc12 pm12 cd12 ct12 : Value} {od12 an12 : Option Addr} {sl12 : Array (Option Value)}
    {f13 : Addr} {oc13 kV13 dc13 pm13 cd13 ct13 : Value} {od13 an13 : Option Addr} {sl13 : Array (Option Value)}
    {f14 : Addr} {oc14 kV14 dc14 pm14 cd14 ct14 : Value} {od14 an14 : Option Addr} {sl14 : Array (Option Value)}
    {f15 : Addr} {oc15 kV15 dc15 pm15 cd15 ct15 : Value} {od15 an15 : Option Addr} {sl15 : Array (Option Value)}
    {f16 : Addr} {oc16 kV16 dc16 pm16 cd16 ct16 : Value} {od16 an16 : Option Addr} {sl16 : Array (Option Value)}
    {f17 : Addr} {oc17 kV17 dc17 pm17 cd17 ct17 : Value} {od17 an17 : Option Addr} {sl17 : Array (Option Value)}
    {f18 : Addr} {oc18 kV18 dc18 pm18 cd18 ct18 : Value} {od18 an18 : Option Addr} {sl18 : Array (Option Value)}
    {f19 : Addr} {oc19 kV19 dc19 pm19 cd19 ct19 : Value} {od19 an19 : Option Addr} {sl19 : Array (Option Value)}
    {f20 : Addr} {oc20 kV20 dc20 pm20 cd20 ct20 : Value} {od20 an20 : Option Addr} {sl20 : Array (Option Value)}
    {f21 : Addr} {oc21 kV21 dc21 pm21 cd21 ct21 : Value} {od21 an21 : Option Addr} {sl21 : Array (Option Value)}
    {f22 : Addr} {oc22 kV22 dc22 pm22 cd22 ct22 : Value} {od22 an22 : Option Addr} {sl22 : Array (Option Value)}
    {f23 : Addr} {oc23 kV23 dc23 pm23 cd23 ct23 : Value} {od23 an23 : Option Addr} {sl23 : Array (Option Value)}
    {f24 : Addr} {oc24 kV24 dc24 pm24 cd24 ct24 : Value} {od24 an24 : Option Addr} {sl24 : Array (Option Value)}
    {f25 : Addr} {oc25 kV25 dc25 pm25 cd25 ct25 : Value} {od25 an25 : Option Addr} {sl25 : Array (Option Value)}
    {f26 : Addr} {oc26 kV26 dc26 pm26 cd26 ct26 : Value} {od26 an26 : Option Addr} {sl26 : Array (Option Value)}
    {f27 : Addr} {oc27 kV27 dc27 pm27 cd27 ct27 : Value} {od27 an27 : Option Addr} {sl27 : Array (Option Value)}
    {f28 : Addr} {oc28 kV28 dc28 pm28 cd28 ct28 : Value} {od28 an28 : Option Addr} {sl28 : Array (Option Value)}
    {f29 : Addr} {oc29 kV29 dc29 pm29 cd29 ct29 : Value} {od29 an29 : Option Addr} {sl29 : Array (Option Value)}
    {f30 : Addr} {oc30 kV30 dc30 pm30 cd30 ct30 : Value} {od30 an30 : Option Addr} {sl30 : Array (Option Value)}
    {f31 : Addr} {oc31 kV31 dc31 pm31 cd31 ct31 : Value} {od31 an31 : Option Addr} {sl31 : Array (Option Value)}
    {f32 : Addr} {oc32 kV32 dc32 pm32 cd32 ct32 : Value} {od32 an32 : Option Addr} {sl32 : Array (Option Value)}
    {f33 : Addr} {oc33 kV33 dc33 pm33 cd33 ct33 : Value} {od33 an33 : Option Addr} {sl33 : Array (Option Value)}
    {f34 : Addr} {oc34 kV34 dc34 pm34 cd34 ct34 : Value} {od34 an34 : Option Addr} {sl34 : Array (Option Value)}
    {f35 : Addr} {oc35 kV35 dc35 pm35 cd35 ct35 : Value} {od35 an35 : Option Addr} {sl35 : Array (Option Value)}
    {f36 : Addr} {oc36 kV36 dc36 pm36 cd36 ct36 : Value} {od36 an36 : Option Addr} {sl36 : Array (Option Value)}
    {f37 : Addr} {oc37 kV37 dc37 pm37 cd37 ct37 : Value} {od37 an37 : Option Addr} {sl37 : Array (Option Value)}
    {g_NOUGHT : Addr} {y_NOUGHT : Option Addr} {i_NOUGHT : Array Value} {n_NOUGHT : Nat} {u_NOUGHT : Array (Option Value)}
    (a0 : PySem.W.nsIn K mainGlobals "is_int" = some (some (.ref f0)))
    (l0 : K.lookup f0 = some ⟨oc0, od0, .func (PySem.W.fnOf "is_int" "is_int" (defArgs st_is_int) (defBody st_is_int) (defScope st_is_int) .none kV0 dc0 pm0 an0 cd0 ct0), sl0⟩)
    (c0 : PySem.W.codeIn K cd0 "is_int" = true)
    (k0 : PySem.W.keepIn K (.ref f0) = true)
    (a1 : PySem.W.nsIn K mainGlobals "is_from" = some (some (.ref f1)))
    (l1 : K.lookup f1 = some ⟨oc1, od1, .func (PySem.W.fnOf "is_from" "is_from" (defArgs st_is_from) (defBody st_is_from) (defScope st_is_from) .none kV1 dc1 pm1 an1 cd1 ct1), sl1⟩)
    (c1 : PySem.W.codeIn K cd1 "is_from" = true)
    (k1 : PySem.W.keepIn K (.ref f1) = true)
    (a2 : PySem.W.nsIn K mainGlobals "is_row" = some (some (.ref f2)))
    (l2 : K.lookup f2 = some ⟨oc2, od2, .func (PySem.W.fnOf "is_row" "is_row" (defArgs st_is_row) (defBody st_is_row) (defScope st_is_row) .none kV2 dc2 pm2 an2 cd2 ct2), sl2⟩)
    (c2 : PySem.W.codeIn K cd2 "is_row" = true)
    (k2 : PySem.W.keepIn K (.ref f2) = true)
    (a3 : PySem.W.nsIn K mainGlobals "is_fraction_value" = some (some (.ref f3)))
    (l3 : K.lookup f3 = some ⟨oc3, od3, .func (PySem.W.fnOf "is_fraction_value" "is_fraction_value" (defArgs st_is_fraction_value) (defBody st_is_fraction_value) (defScope st_is_fraction_value) .none kV3 dc3 pm3 an3 cd3 ct3), sl3⟩)
    (c3 : PySem.W.codeIn K cd3 "is_fraction_value" = true)
    (k3 : PySem.W.keepIn K (.ref f3) = true)
    (a4 : PySem.W.nsIn K mainGlobals "low" = some (some (.ref f4)))
    (l4 : K.lookup f4 = some ⟨oc4, od4, .func (PySem.W.fnOf "low" "low" (defArgs st_low) (defBody st_low) (defScope st_low) .none kV4 dc4 pm4 an4 cd4 ct4), sl4⟩)
    (c4 : PySem.W.codeIn K cd4 "low" = true)
    (k4 : PySem.W.keepIn K (.ref f4) = true)
    (a5 : PySem.W.nsIn K mainGlobals "as_f" = some (some (.ref f5)))
    (l5 : K.lookup f5 = some ⟨oc5, od5, .func (PySem.W.fnOf "as_f" "as_f" (defArgs st_as_f) (defBody st_as_f) (defScope st_as_f) .none kV5 dc5 pm5 an5 cd5 ct5), sl5⟩)
    (c5 : PySem.W.codeIn K cd5 "as_f" = true)
    (k5 : PySem.W.keepIn K (.ref f5) = true)
    (a6 : PySem.W.nsIn K mainGlobals "plus_f" = some (some (.ref f6)))
    (l6 : K.lookup f6 = some ⟨oc6, od6, .func (PySem.W.fnOf "plus_f" "plus_f" (defArgs st_plus_f) (defBody st_plus_f) (defScope st_plus_f) .none kV6 dc6 pm6 an6 cd6 ct6), sl6⟩)
    (c6 : PySem.W.codeIn K cd6 "plus_f" = true)
    (k6 : PySem.W.keepIn K (.ref f6) = true)
    (a7 : PySem.W.nsIn K mainGlobals "minus_f" = some (some (.ref f7)))
    (l7 : K.lookup f7 = some ⟨oc7, od7, .func (PySem.W.fnOf "minus_f" "minus_f" (defArgs st_minus_f) (defBody st_minus_f) (defScope st_minus_f) .none kV7 dc7 pm7 an7 cd7 ct7), sl7⟩)
    (c7 : PySem.W.codeIn K cd7 "minus_f" = true)
    (k7 : PySem.W.keepIn K (.ref f7) = true)
    (a8 : PySem.W.nsIn K mainGlobals "times_f" = some (some (.ref f8)))
    (l8 : K.lookup f8 = some ⟨oc8, od8, .func (PySem.W.fnOf "times_f" "times_f" (defArgs st_times_f) (defBody st_times_f) (defScope st_times_f) .none kV8 dc8 pm8 an8 cd8 ct8), sl8⟩)
    (c8 : PySem.W.codeIn K cd8 "times_f" = true)
    (k8 : PySem.W.keepIn K (.ref f8) = true)
    (a9 : PySem.W.nsIn K mainGlobals "over_f" = some (some (.ref f9)))
    (l9 : K.lookup f9 = some ⟨oc9, od9, .func (PySem.W.fnOf "over_f" "over_f" (defArgs st_over_f) (defBody st_over_f) (defScope st_over_f) .none kV9 dc9 pm9 an9 cd9 ct9), sl9⟩)
    (c9 : PySem.W.codeIn K cd9 "over_f" = true)
    (k9 : PySem.W.keepIn K (.ref f9) = true)
    (a10 : PySem.W.nsIn K mainGlobals "compared_f" = some (some (.ref f10)))
    (l10 : K.lookup f10 = some ⟨oc10, od10, .func (PySem.W.fnOf "compared_f" "compared_f" (defArgs st_compared_f) (defBody st_compared_f) (defScope st_compared_f) .none kV10 dc10 pm10 an10 cd10 ct10), sl10⟩)
    (c10 : PySem.W.codeIn K cd10 "compared_f" = true)
    (k10 : PySem.W.keepIn K (.ref f10) = true)
    (a11 : PySem.W.nsIn K mainGlobals "need_fraction" = some (some (.ref f11)))
    (l11 : K.lookup f11 = some ⟨oc11, od11, .func (PySem.W.fnOf "need_fraction" "need_fraction" (defArgs st_need_fraction) (defBody st_need_fraction) (defScope st_need_fraction) .none kV11 dc11 pm11 an11 cd11 ct11), sl11⟩)
    (c11 : PySem.W.codeIn K cd11 "need_fraction" = true)
    (k11 : PySem.W.keepIn K (.ref f11) = true)
    (a12 : PySem.W.nsIn K mainGlobals "need_two" = some (some (.ref f12)))
    (l12 : K.lookup f12 = some ⟨oc12, od12, .func (PySem.W.fnOf "need_two" "need_two" (defArgs st_need_two) (defBody st_need_two) (defScope st_need_two) .none kV12 dc12 pm12 an12 cd12 ct12), sl12⟩)
    (c12 : PySem.W.codeIn K cd12 "need_two" = true)
    (k12 : PySem.W.keepIn K (.ref f12) = true)
    (a13 : PySem.W.nsIn K mainGlobals "lowest" = some (some (.ref f13)))
    (l13 : K.lookup f13 = some ⟨oc13, od13, .func (PySem.W.fnOf "lowest" "lowest" (defArgs st_lowest) (defBody st_lowest) (defScope st_lowest) .none kV13 dc13 pm13 an13 cd13 ct13), sl13⟩)
    (c13 : PySem.W.codeIn K cd13 "lowest" = true)
    (k13 : PySem.W.keepIn K (.ref f13) = true)
    (a14 : PySem.W.nsIn K mainGlobals "as_fraction" = some (some (.ref f14)))
    (l14 : K.lookup f14 = some ⟨oc14, od14, .func (PySem.W.fnOf "as_fraction" "as_fraction" (defArgs st_as_fraction) (defBody st_as_fraction) (defScope st_as_fraction) .none kV14 dc14 pm14 an14 cd14 ct14), sl14⟩)
    (c14 : PySem.W.codeIn K cd14 "as_fraction" = true)
    (k14 : PySem.W.keepIn K (.ref f14) = true)
    (a15 : PySem.W.nsIn K mainGlobals "plus" = some (some (.ref f15)))
    (l15 : K.lookup f15 = some ⟨oc15, od15, .func (PySem.W.fnOf "plus" "plus" (defArgs st_plus) (defBody st_plus) (defScope st_plus) .none kV15 dc15 pm15 an15 cd15 ct15), sl15⟩)
    (c15 : PySem.W.codeIn K cd15 "plus" = true)
    (k15 : PySem.W.keepIn K (.ref f15) = true)
    (a16 : PySem.W.nsIn K mainGlobals "minus" = some (some (.ref f16)))
    (l16 : K.lookup f16 = some ⟨oc16, od16, .func (PySem.W.fnOf "minus" "minus" (defArgs st_minus) (defBody st_minus) (defScope st_minus) .none kV16 dc16 pm16 an16 cd16 ct16), sl16⟩)
    (c16 : PySem.W.codeIn K cd16 "minus" = true)
    (k16 : PySem.W.keepIn K (.ref f16) = true)
    (a17 : PySem.W.nsIn K mainGlobals "times" = some (some (.ref f17)))
    (l17 : K.lookup f17 = some ⟨oc17, od17, .func (PySem.W.fnOf "times" "times" (defArgs st_times) (defBody st_times) (defScope st_times) .none kV17 dc17 pm17 an17 cd17 ct17), sl17⟩)
    (c17 : PySem.W.codeIn K cd17 "times" = true)
    (k17 : PySem.W.keepIn K (.ref f17) = true)
    (a18 : PySem.W.nsIn K mainGlobals "over" = some (some (.ref f18)))
    (l18 : K.lookup f18 = some ⟨oc18, od18, .func (PySem.W.fnOf "over" "over" (defArgs st_over) (defBody st_over) (defScope st_over) .none kV18 dc18 pm18 an18 cd18 ct18), sl18⟩)
    (c18 : PySem.W.codeIn K cd18 "over" = true)
    (k18 : PySem.W.keepIn K (.ref f18) = true)
    (a19 : PySem.W.nsIn K mainGlobals "compared" = some (some (.ref f19)))
    (l19 : K.lookup f19 = some ⟨oc19, od19, .func (PySem.W.fnOf "compared" "compared" (defArgs st_compared) (defBody st_compared) (defScope st_compared) .none kV19 dc19 pm19 an19 cd19 ct19), sl19⟩)
    (c19 : PySem.W.codeIn K cd19 "compared" = true)
    (k19 : PySem.W.keepIn K (.ref f19) = true)
    (a20 : PySem.W.nsIn K mainGlobals "floor_of" = some (some (.ref f20)))
    (l20 : K.lookup f20 = some ⟨oc20, od20, .func (PySem.W.fnOf "floor_of" "floor_of" (defArgs st_floor_of) (defBody st_floor_of) (defScope st_floor_of) .none kV20 dc20 pm20 an20 cd20 ct20), sl20⟩)
    (c20 : PySem.W.codeIn K cd20 "floor_of" = true)
    (k20 : PySem.W.keepIn K (.ref f20) = true)
    (a21 : PySem.W.nsIn K mainGlobals "ceiling_of" = some (some (.ref f21)))
    (l21 : K.lookup f21 = some ⟨oc21, od21, .func (PySem.W.fnOf "ceiling_of" "ceiling_of" (defArgs st_ceiling_of) (defBody st_ceiling_of) (defScope st_ceiling_of) .none kV21 dc21 pm21 an21 cd21 ct21), sl21⟩)
    (c21 : PySem.W.codeIn K cd21 "ceiling_of" = true)
    (k21 : PySem.W.keepIn K (.ref f21) = true)
    (a22 : PySem.W.nsIn K mainGlobals "_law_deck" = some (some (.ref f22)))
    (l22 : K.lookup f22 = some ⟨oc22, od22, .func (PySem.W.fnOf "_law_deck" "_law_deck" (defArgs st__law_deck) (defBody st__law_deck) (defScope st__law_deck) .none kV22 dc22 pm22 an22 cd22 ct22), sl22⟩)
    (c22 : PySem.W.codeIn K cd22 "_law_deck" = true)
    (k22 : PySem.W.keepIn K (.ref f22) = true)
    (a23 : PySem.W.nsIn K mainGlobals "_law_draw" = some (some (.ref f23)))
    (l23 : K.lookup f23 = some ⟨oc23, od23, .func (PySem.W.fnOf "_law_draw" "_law_draw" (defArgs st__law_draw) (defBody st__law_draw) (defScope st__law_draw) .none kV23 dc23 pm23 an23 cd23 ct23), sl23⟩)
    (c23 : PySem.W.codeIn K cd23 "_law_draw" = true)
    (k23 : PySem.W.keepIn K (.ref f23) = true)
    (a24 : PySem.W.nsIn K mainGlobals "_law_pick" = some (some (.ref f24)))
    (l24 : K.lookup f24 = some ⟨oc24, od24, .func (PySem.W.fnOf "_law_pick" "_law_pick" (defArgs st__law_pick) (defBody st__law_pick) (defScope st__law_pick) .none kV24 dc24 pm24 an24 cd24 ct24), sl24⟩)
    (c24 : PySem.W.codeIn K cd24 "_law_pick" = true)
    (k24 : PySem.W.keepIn K (.ref f24) = true)
    (a25 : PySem.W.nsIn K mainGlobals "_law_divisor" = some (some (.ref f25)))
    (l25 : K.lookup f25 = some ⟨oc25, od25, .func (PySem.W.fnOf "_law_divisor" "_law_divisor" (defArgs st__law_divisor) (defBody st__law_divisor) (defScope st__law_divisor) .none kV25 dc25 pm25 an25 cd25 ct25), sl25⟩)
    (c25 : PySem.W.codeIn K cd25 "_law_divisor" = true)
    (k25 : PySem.W.keepIn K (.ref f25) = true)
    (a26 : PySem.W.nsIn K mainGlobals "_law_lowest" = some (some (.ref f26)))
    (l26 : K.lookup f26 = some ⟨oc26, od26, .func (PySem.W.fnOf "_law_lowest" "_law_lowest" (defArgs st__law_lowest) (defBody st__law_lowest) (defScope st__law_lowest) .none kV26 dc26 pm26 an26 cd26 ct26), sl26⟩)
    (c26 : PySem.W.codeIn K cd26 "_law_lowest" = true)
    (k26 : PySem.W.keepIn K (.ref f26) = true)
    (a27 : PySem.W.nsIn K mainGlobals "_law_same" = some (some (.ref f27)))
    (l27 : K.lookup f27 = some ⟨oc27, od27, .func (PySem.W.fnOf "_law_same" "_law_same" (defArgs st__law_same) (defBody st__law_same) (defScope st__law_same) .none kV27 dc27 pm27 an27 cd27 ct27), sl27⟩)
    (c27 : PySem.W.codeIn K cd27 "_law_same" = true)
    (k27 : PySem.W.keepIn K (.ref f27) = true)
    (a28 : PySem.W.nsIn K mainGlobals "_law_is_int" = some (some (.ref f28)))
    (l28 : K.lookup f28 = some ⟨oc28, od28, .func (PySem.W.fnOf "_law_is_int" "_law_is_int" (defArgs st__law_is_int) (defBody st__law_is_int) (defScope st__law_is_int) .none kV28 dc28 pm28 an28 cd28 ct28), sl28⟩)
    (c28 : PySem.W.codeIn K cd28 "_law_is_int" = true)
    (k28 : PySem.W.keepIn K (.ref f28) = true)
    (a29 : PySem.W.nsIn K mainGlobals "_law_int" = some (some (.ref f29)))
    (l29 : K.lookup f29 = some ⟨oc29, od29, .func (PySem.W.fnOf "_law_int" "_law_int" (defArgs st__law_int) (defBody st__law_int) (defScope st__law_int) .none kV29 dc29 pm29 an29 cd29 ct29), sl29⟩)
    (c29 : PySem.W.codeIn K cd29 "_law_int" = true)
    (k29 : PySem.W.keepIn K (.ref f29) = true)
    (a30 : PySem.W.nsIn K mainGlobals "_law_is_fraction" = some (some (.ref f30)))
    (l30 : K.lookup f30 = some ⟨oc30, od30, .func (PySem.W.fnOf "_law_is_fraction" "_law_is_fraction" (defArgs st__law_is_fraction) (defBody st__law_is_fraction) (defScope st__law_is_fraction) .none kV30 dc30 pm30 an30 cd30 ct30), sl30⟩)
    (c30 : PySem.W.codeIn K cd30 "_law_is_fraction" = true)
    (k30 : PySem.W.keepIn K (.ref f30) = true)
    (a31 : PySem.W.nsIn K mainGlobals "_law_fraction" = some (some (.ref f31)))
    (l31 : K.lookup f31 = some ⟨oc31, od31, .func (PySem.W.fnOf "_law_fraction" "_law_fraction" (defArgs st__law_fraction) (defBody st__law_fraction) (defScope st__law_fraction) .none kV31 dc31 pm31 an31 cd31 ct31), sl31⟩)
    (c31 : PySem.W.codeIn K cd31 "_law_fraction" = true)
    (k31 : PySem.W.keepIn K (.ref f31) = true)
    (a32 : PySem.W.nsIn K mainGlobals "_law_is_for" = some (some (.ref f32)))
    (l32 : K.lookup f32 = some ⟨oc32, od32, .func (PySem.W.fnOf "_law_is_for" "_law_is_for" (defArgs st__law_is_for) (defBody st__law_is_for) (defScope st__law_is_for) .none kV32 dc32 pm32 an32 cd32 ct32), sl32⟩)
    (c32 : PySem.W.codeIn K cd32 "_law_is_for" = true)
    (k32 : PySem.W.keepIn K (.ref f32) = true)
    (a33 : PySem.W.nsIn K mainGlobals "_law_second" = some (some (.ref f33)))
    (l33 : K.lookup f33 = some ⟨oc33, od33, .func (PySem.W.fnOf "_law_second" "_law_second" (defArgs st__law_second) (defBody st__law_second) (defScope st__law_second) .none kV33 dc33 pm33 an33 cd33 ct33), sl33⟩)
    (c33 : PySem.W.codeIn K cd33 "_law_second" = true)
    (k33 : PySem.W.keepIn K (.ref f33) = true)
    (a34 : PySem.W.nsIn K mainGlobals "_law_are_sums_right" = some (some (.ref f34)))
    (l34 : K.lookup f34 = some ⟨oc34, od34, .func (PySem.W.fnOf "_law_are_sums_right" "_law_are_sums_right" (defArgs st__law_are_sums_right) (defBody st__law_are_sums_right) (defScope st__law_are_sums_right) .none kV34 dc34 pm34 an34 cd34 ct34), sl34⟩)
    (c34 : PySem.W.codeIn K cd34 "_law_are_sums_right" = true)
    (k34 : PySem.W.keepIn K (.ref f34) = true)
    (a35 : PySem.W.nsIn K mainGlobals "_law_near" = some (some (.ref f35)))
    (l35 : K.lookup f35 = some ⟨oc35, od35, .func (PySem.W.fnOf "_law_near" "_law_near" (defArgs st__law_near) (defBody st__law_near) (defScope st__law_near) .none kV35 dc35 pm35 an35 cd35 ct35), sl35⟩)
    (c35 : PySem.W.codeIn K cd35 "_law_near" = true)
    (k35 : PySem.W.keepIn K (.ref f35) = true)
    (a36 : PySem.W.nsIn K mainGlobals "_law_are_floors_right" = some (some (.ref f36)))
    (l36 : K.lookup f36 = some ⟨oc36, od36, .func (PySem.W.fnOf "_law_are_floors_right" "_law_are_floors_right" (defArgs st__law_are_floors_right) (defBody st__law_are_floors_right) (defScope st__law_are_floors_right) .none kV36 dc36 pm36 an36 cd36 ct36), sl36⟩)
    (c36 : PySem.W.codeIn K cd36 "_law_are_floors_right" = true)
    (k36 : PySem.W.keepIn K (.ref f36) = true)
    (a37 : PySem.W.nsIn K mainGlobals "law" = some (some (.ref f37)))
    (l37 : K.lookup f37 = some ⟨oc37, od37, .func (PySem.W.fnOf "law" "law" (defArgs st_law) (defBody st_law) (defScope st_law) .none kV37 dc37 pm37 an37 cd37 ct37), sl37⟩)
    (c37 : PySem.W.codeIn K cd37 "law" = true)
    (k37 : PySem.W.keepIn K (.ref f37) = true)
    (z_gcd : PySem.W.nsIn K mainGlobals "gcd" = some (some (.builtin "math.gcd")))
    (z_abs : PySem.W.nsIn K mainGlobals "abs" = some none)
    (z_bool : PySem.W.nsIn K mainGlobals "bool" = some none)
    (z_int : PySem.W.nsIn K mainGlobals "int" = some none)
    (z_isinstance : PySem.W.nsIn K mainGlobals "isinstance" = some none)
    (z_len : PySem.W.nsIn K mainGlobals "len" = some none)
    (z_list : PySem.W.nsIn K mainGlobals "list" = some none)
    (z_max : PySem.W.nsIn K mainGlobals "max" = some none)
    (z_range : PySem.W.nsIn K mainGlobals "range" = some none)
    (z_repr : PySem.W.nsIn K mainGlobals "repr" = some none)
    (z_str : PySem.W.nsIn K mainGlobals "str" = some none)
    (z_tuple : PySem.W.nsIn K mainGlobals "tuple" = some none)
    (z_zip : PySem.W.nsIn K mainGlobals "zip" = some none)
    (q_NOUGHT : PySem.W.nsIn K mainGlobals "NOUGHT" = some (some (.ref g_NOUGHT)))
    (p_NOUGHT : K.lookup g_NOUGHT = some ⟨.type "tuple", y_NOUGHT, .seq i_NOUGHT n_NOUGHT, u_NOUGHT⟩)
    (s_NOUGHT : i_NOUGHT.size ≤ sizeLine)
    (v_NOUGHT : Vals [.int (0), .int (1)] i_NOUGHT.toList) : Tx K mg where
    m_gcd := PySem.W.mg_of X G z_gcd
    b_abs := PySem.W.mg_none_of X G z_abs
    b_bool := PySem.W.mg_none_of X G z_bool
    b_int := PySem.W.mg_none_of X G z_int
    b_isinstance := PySem.W.mg_none_of X G z_isinstance
    b_len := PySem.W.mg_none_of X G z_len
    b_list := PySem.W.mg_none_of X G z_list
    b_max := PySem.W.mg_none_of X G z_max
    b_range := PySem.W.mg_none_of X G z_range
    b_repr := PySem.W.mg_none_of X G z_repr
    b_str := PySem.W.mg_none_of X G z_str
    b_tuple := PySem.W.mg_none_of X G z_tuple
    b_zip := PySem.W.mg_none_of X G z_zip
    c_NOUGHT := ⟨.ref g_NOUGHT, _, PySem.W.mg_of X G q_NOUGHT, rfl, fun L H => DR.tup (.inr ⟨_, _, _, p_NOUGHT, rfl, rfl, s_NOUGHT, v_NOUGHT⟩) (DRs.cons DR.int (DRs.cons DR.int DRs.nil))⟩
    d_is_int := Df.mk X G (fun _ _ _ _ _ _ s us hl => match us, hl with | [_], _ => .of_eq rfl) (fun _ _ _ _ _ _ s hs => (List.not_mem_nil hs).elim) a0 l0 c0 k0
    d_is_from := Df.mk X G (fun _ _ _ _ _ _ s us hl => match us, hl with | [_, _], _ => .of_eq rfl) (fun _ _ _ _ _ _ s hs => (List.not_mem_nil hs).elim) a1 l1 c1 k1
    d_is_row := Df.mk X G (fun _ _ _ _ _ _ s us hl => match us, hl with | [_, _], _ => .of_eq rfl) (fun _ _ _ _ _ _ s hs => (List.not_mem_nil hs).elim) a2 l2 c2 k2
    d_is_fraction_value := Df.mk X G (fun _ _ _ _ _ _ s us hl => match us, hl with | [_], _ => .of_eq rfl) (fun _ _ _ _ _ _ s hs => (List.not_mem_nil hs).elim) a3 l3 c3 k3
    d_low := Df.mk X G (fun _ _ _ _ _ _ s us hl => match us, hl with | [_, _], _ => .of_eq rfl) (fun _ _ _ _ _ _ s hs => (List.not_mem_nil hs).elim) a4 l4 c4 k4
    d_as_f := Df.mk X G (fun _ _ _ _ _ _ s us hl => match us, hl with | [_], _ => .of_eq rfl) (fun _ _ _ _ _ _ s hs => (List.not_mem_nil hs).elim) a5 l5 c5 k5
    d_plus_f := Df.mk X G (fun _ _ _ _ _ _ s us hl => match us, hl with | [_, _], _ => .of_eq rfl) (fun _ _ _ _ _ _ s hs => (List.not_mem_nil hs).elim) a6 l6 c6 k6
    d_minus_f := Df.mk X G (fun _ _ _ _ _ _ s us hl => match us, hl with | [_, _], _ => .of_eq rfl) (fun _ _ _ _ _ _ s hs => (List.not_mem_nil hs).elim) a7 l7 c7 k7
    d_times_f := Df.mk X G (fun _ _ _ _ _ _ s us hl => match us, hl with | [_, _], _ => .of_eq rfl) (fun _ _ _ _ _ _ s hs => (List.not_mem_nil hs).elim) a8 l8 c8 k8
    d_over_f := Df.mk X G (fun _ _ _ _ _ _ s us hl => match us, hl with | [_, _], _ => .of_eq rfl) (fun _ _ _ _ _ _ s hs => (List.not_mem_nil hs).elim) a9 l9 c9 k9
    d_compared_f := Df.mk X G (fun _ _ _ _ _ _ s us hl => match us, hl with | [_, _], _ => .of_eq rfl) (fun _ _ _ _ _ _ s hs => (List.not_mem_nil hs).elim) a10 l10 c10 k10
    d_need_fraction := Df.mk X G (fun _ _ _ _ _ _ s us hl => match us, hl with | [_], _ => .of_eq rfl) (fun _ _ _ _ _ _ s hs => (List.not_mem_nil hs).elim) a11 l11 c11 k11
    d_need_two := Df.mk X G (fun _ _ _ _ _ _ s us hl => match us, hl with | [_, _], _ => .of_eq rfl) (fun _ _ _ _ _ _ s hs => (List.not_mem_nil hs).elim) a12 l12 c12 k12
    d_lowest := Df.mk X G (fun _ _ _ _ _ _ s us hl => match us, hl with | [_, _], _ => .of_eq rfl) (fun kV doc pm an cdv ct s hs => by
      simp only [List.mem_cons, List.not_mem_nil, or_false] at hs
      subst hs
      exact fun s us ws hu hw => match us, ws, hu, hw with | [], [_, _], _, _ => ⟨rfl, .of_eq rfl⟩) a13 l13 c13 k13
    d_as_fraction := Df.mk X G (fun _ _ _ _ _ _ s us hl => match us, hl with | [_], _ => .of_eq rfl) (fun kV doc pm an cdv ct s hs => by
      simp only [List.mem_cons, List.not_mem_nil, or_false] at hs
      subst hs
      exact fun s us ws hu hw => match us, ws, hu, hw with | [], [_], _, _ => ⟨rfl, .of_eq rfl⟩) a14 l14 c14 k14
    d_plus := Df.mk X G (fun _ _ _ _ _ _ s us hl => match us, hl with | [_, _], _ => .of_eq rfl) (fun kV doc pm an cdv ct s hs => by
      simp only [List.mem_cons, List.not_mem_nil, or_false] at hs
      subst hs
      exact fun s us ws hu hw => match us, ws, hu, hw with | [], [_, _], _, _ => ⟨rfl, .of_eq rfl⟩) a15 l15 c15 k15
    d_minus := Df.mk X G (fun _ _ _ _ _ _ s us hl => match us, hl with | [_, _], _ => .of_eq rfl) (fun kV doc pm an cdv ct s hs => by
      simp only [List.mem_cons, List.not_mem_nil, or_false] at hs
      subst hs
      exact fun s us ws hu hw => match us, ws, hu, hw with | [], [_, _], _, _ => ⟨rfl, .of_eq rfl⟩) a16 l16 c16 k16
    d_times := Df.mk X G (fun _ _ _ _ _ _ s us hl => match us, hl with | [_, _], _ => .of_eq rfl) (fun kV doc pm an cdv ct s hs => by
      simp only [List.mem_cons, List.not_mem_nil, or_false] at hs
      subst hs
      exact fun s us ws hu hw => match us, ws, hu, hw with | [], [_, _], _, _ => ⟨rfl, .of_eq rfl⟩) a17 l17 c17 k17
    d_over := Df.mk X G (fun _ _ _ _ _ _ s us hl => match us, hl with | [_, _], _ => .of_eq rfl) (fun kV doc pm an cdv ct s hs => by
      simp only [List.mem_cons, List.not_mem_nil, or_false] at hs
      subst hs
      exact fun s us ws hu hw => match us, ws, hu, hw with | [], [_, _], _, _ => ⟨rfl, .of_eq rfl⟩) a18 l18 c18 k18
    d_compared := Df.mk X G (fun _ _ _ _ _ _ s us hl => match us, hl with | [_, _], _ => .of_eq rfl) (fun kV doc pm an cdv ct s hs => by
      simp only [List.mem_cons, List.not_mem_nil, or_false] at hs
      subst hs
      exact fun s us ws hu hw => match us, ws, hu, hw with | [], [_, _], _, _ => ⟨rfl, .of_eq rfl⟩) a19 l19 c19 k19
    d_floor_of := Df.mk X G (fun _ _ _ _ _ _ s us hl => match us, hl with | [_], _ => .of_eq rfl) (fun kV doc pm an cdv ct s hs => by
      simp only [List.mem_cons, List.not_mem_nil, or_false] at hs
      subst hs
      exact fun s us ws hu hw => match us, ws, hu, hw with | [], [_], _, _ => ⟨rfl, .of_eq rfl⟩) a20 l20 c20 k20
    d_ceiling_of := Df.mk X G (fun _ _ _ _ _ _ s us hl => match us, hl with | [_], _ => .of_eq rfl) (fun kV doc pm an cdv ct s hs => by
      simp only [List.mem_cons, List.not_mem_nil, or_false] at hs
      subst hs
      exact fun s us ws hu hw => match us, ws, hu, hw with | [], [_], _, _ => ⟨rfl, .of_eq rfl⟩) a21 l21 c21 k21
    d__law_deck := Df.mk X G (fun _ _ _ _ _ _ s us hl => match us, hl with | [_], _ => .of_eq rfl) (fun _ _ _ _ _ _ s hs => (List.not_mem_nil hs).elim) a22 l22 c22 k22
    d__law_draw := Df.mk X G (fun _ _ _ _ _ _ s us hl => match us, hl with | [_, _], _ => .of_eq rfl) (fun _ _ _ _ _ _ s hs => (List.not_mem_nil hs).elim) a23 l23 c23 k23
    d__law_pick := Df.mk X G (fun _ _ _ _ _ _ s us hl => match us, hl with | [_, _], _ => .of_eq rfl) (fun _ _ _ _ _ _ s hs => (List.not_mem_nil hs).elim) a24 l24 c24 k24
    d__law_divisor := Df.mk X G (fun _ _ _ _ _ _ s us hl => match us, hl with | [_, _], _ => .of_eq rfl) (fun _ _ _ _ _ _ s hs => (List.not_mem_nil hs).elim) a25 l25 c25 k25
    d__law_lowest := Df.mk X G (fun _ _ _ _ _ _ s us hl => match us, hl with | [_, _], _ => .of_eq rfl) (fun _ _ _ _ _ _ s hs => (List.not_mem_nil hs).elim) a26 l26 c26 k26
    d__law_same := Df.mk X G (fun _ _ _ _ _ _ s us hl => match us, hl with | [_, _], _ => .of_eq rfl) (fun _ _ _ _ _ _ s hs => (List.not_mem_nil hs).elim) a27 l27 c27 k27
    d__law_is_int := Df.mk X G (fun _ _ _ _ _ _ s us hl => match us, hl with | [_], _ => .of_eq rfl) (fun _ _ _ _ _ _ s hs => (List.not_mem_nil hs).elim) a28 l28 c28 k28
    d__law_int := Df.mk X G (fun _ _ _ _ _ _ s us hl => match us, hl with | [_, _], _ => .of_eq rfl) (fun _ _ _ _ _ _ s hs => (List.not_mem_nil hs).elim) a29 l29 c29 k29
    d__law_is_fraction := Df.mk X G (fun _ _ _ _ _ _ s us hl => match us, hl with | [_], _ => .of_eq rfl) (fun _ _ _ _ _ _ s hs => (List.not_mem_nil hs).elim) a30 l30 c30 k30
    d__law_fraction := Df.mk X G (fun _ _ _ _ _ _ s us hl => match us, hl with | [_, _], _ => .of_eq rfl) (fun _ _ _ _ _ _ s hs => (List.not_mem_nil hs).elim) a31 l31 c31 k31
    d__law_is_for := Df.mk X G (fun _ _ _ _ _ _ s us hl => match us, hl with | [_, _, _], _ => .of_eq rfl) (fun _ _ _ _ _ _ s hs => (List.not_mem_nil hs).elim) a32 l32 c32 k32
    d__law_second := Df.mk X G (fun _ _ _ _ _ _ s us hl => match us, hl with | [_, _, _], _ => .of_eq rfl) (fun _ _ _ _ _ _ s hs => (List.not_mem_nil hs).elim) a33 l33 c33 k33
    d__law_are_sums_right := Df.mk X G (fun _ _ _ _ _ _ s us hl => match us, hl with | [_, _], _ => .of_eq rfl) (fun _ _ _ _ _ _ s hs => (List.not_mem_nil hs).elim) a34 l34 c34 k34
    d__law_near := Df.mk X G (fun _ _ _ _ _ _ s us hl => match us, hl with | [_, _], _ => .of_eq rfl) (fun _ _ _ _ _ _ s hs => (List.not_mem_nil hs).elim) a35 l35 c35 k35
    d__law_are_floors_right := Df.mk X G (fun _ _ _ _ _ _ s us hl => match us, hl with | [_, _], _ => .of_eq rfl) (fun _ _ _ _ _ _ s hs => (List.not_mem_nil hs).elim) a36 l36 c36 k36
    d_law := Df.mk X G (fun _ _ _ _ _ _ s us hl => match us, hl with | [_], _ => .of_eq rfl) (fun _ _ _ _ _ _ s hs => (List.not_mem_nil hs).elim) a37 l37 c37 k37
theorem law_go {w : World} {K : PySem.W.Frag} {mg : Str → Option Value} {fa : Addr} (T : Tx K mg) (hfa : mg "law" = some (.ref fa)) :
    ∃ fd : FuncData, (∀ (s : Shared) (u : Value), BindsTo s fd ⟨[u], []⟩ [("script", u)]) ∧ ∀ base : Heap, K.In base → base.Ns mainGlobals mg → FnG PySem.Challenge.rw_wheremade_k01_fractions_by_cross_product.prog w K mg base 11 fa fd ["script"] spLaw :=
  law_fin (l := PySem.Challenge.rw_wheremade_k01_fractions_by_cross_product) T.d_law hfa fun base f fd Fn => g_law T Fn
end Pz
open PySem PySem.W PyProof.Rows
set_option maxRecDepth 100000 in
set_option maxHeartbeats 0 in
theorem PySem.Challenge.cw_wheremade_k01_fractions_by_cross_product_holds : PySem.Challenge.rw_wheremade_k01_fractions_by_cross_product.Holds := by
  w_on; o_law; k_head; (case hw => w_witness2)
  k_fill
  refine Pz.law_walk (l := PySem.Challenge.rw_wheremade_k01_fractions_by_cross_product) (k := 11) (x := "script") rfl rfl ⟨rfl, by decide, by decide⟩ (fun w h Y => PySem.W.kIn_of Y) ?F
  case F =>
    intro w mg fa h KX G hmg
    refine Pz.law_go ?T hmg
    case T =>
      refine' Pz.mkTx KX G ?a0 ?l0 ?c0 ?k0 ?a1 ?l1 ?c1 ?k1 ?a2 ?l2 ?c2 ?k2 ?a3 ?l3 ?c3 ?k3 ?a4 ?l4 ?c4 ?k4 ?a5 ?l5 ?c5 ?k5 ?a6 ?l6 ?c6 ?k6 ?a7 ?l7 ?c7 ?k7 ?a8 ?l8 ?c8 ?k8 ?a9 ?l9 ?c9 ?k9 ?a10 ?l10 ?c10 ?k10 ?a11 ?l11 ?c11 ?k11 ?a12 ?l12 ?c12 ?k12 ?a13 ?l13 ?c13 ?k13 ?a14 ?l14 ?c14 ?k14 ?a15 ?l15 ?c15 ?k15 ?a16 ?l16 ?c16 ?k16 ?a17 ?l17 ?c17 ?k17 ?a18 ?l18 ?c18 ?k18 ?a19 ?l19 ?c19 ?k19 ?a20 ?l20 ?c20 ?k20 ?a21 ?l21 ?c21 ?k21 ?a22 ?l22 ?c22 ?k22 ?a23 ?l23 ?c23 ?k23 ?a24 ?l24 ?c24 ?k24 ?a25 ?l25 ?c25 ?k25 ?a26 ?l26 ?c26 ?k26 ?a27 ?l27 ?c27 ?k27 ?a28 ?l28 ?c28 ?k28 ?a29 ?l29 ?c29 ?k29 ?a30 ?l30 ?c30 ?k30 ?a31 ?l31 ?c31 ?k31 ?a32 ?l32 ?c32 ?k32 ?a33 ?l33 ?c33 ?k33 ?a34 ?l34 ?c34 ?k34 ?a35 ?l35 ?c35 ?k35 ?a36 ?l36 ?c36 ?k36 ?a37 ?l37 ?c37 ?k37 ?z_gcd ?z_abs ?z_bool ?z_int ?z_isinstance ?z_len ?z_list ?z_max ?z_range ?z_repr ?z_str ?z_tuple ?z_zip ?q_NOUGHT ?p_NOUGHT ?s_NOUGHT ?v_NOUGHT
      (case a0 => k_is)
      (case l0 => k_is)
      (case c0 => k_is)
      (case k0 => k_is)
      (case a1 => k_is)
      (case l1 => k_is)
      (case c1 => k_is)
      (case k1 => k_is)
      (case a2 => k_is)
      (case l2 => k_is)
      (case c2 => k_is)
      (case k2 => k_is)
      (case a3 => k_is)
      (case l3 => k_is)
      (case c3 => k_is)
      (case k3 => k_is)
      (case a4 => k_is)
      (case l4 => k_is)
      (case c4 => k_is)
      (case k4 => k_is)
      (case a5 => k_is)
      (case l5 => k_is)
      (case c5 => k_is)
      (case k5 => k_is)
      (case a6 => k_is)
      (case l6 => k_is)
      (case c6 => k_is)
      (case k6 => k_is)
      (case a7 => k_is)
      (case l7 => k_is)
      (case c7 => k_is)
      (case k7 => k_is)
      (case a8 => k_is)
      (case l8 => k_is)
      (case c8 => k_is)
      (case k8 => k_is)
      (case a9 => k_is)
      (case l9 => k_is)
      (case c9 => k_is)
      (case k9 => k_is)
      (case a10 => k_is)
      (case l10 => k_is)
      (case c10 => k_is)
      (case k10 => k_is)
      (case a11 => k_is)
      (case l11 => k_is)
      (case c11 => k_is)
      (case k11 => k_is)
      (case a12 => k_is)
      (case l12 => k_is)
      (case c12 => k_is)
      (case k12 => k_is)
      (case a13 => k_is)
      (case l13 => k_is)
      (case c13 => k_is)
      (case k13 => k_is)
      (case a14 => k_is)
      (case l14 => k_is)
      (case c14 => k_is)
      (case k14 => k_is)
      (case a15 => k_is)
      (case l15 => k_is)
      (case c15 => k_is)
      (case k15 => k_is)
      (case a16 => k_is)
      (case l16 => k_is)
      (case c16 => k_is)
      (case k16 => k_is)
      (case a17 => k_is)
      (case l17 => k_is)
      (case c17 => k_is)
      (case k17 => k_is)
      (case a18 => k_is)
      (case l18 => k_is)
      (case c18 => k_is)
      (case k18 => k_is)
      (case a19 => k_is)
      (case l19 => k_is)
      (case c19 => k_is)
      (case k19 => k_is)
      (case a20 => k_is)
      (case l20 => k_is)
      (case c20 => k_is)
      (case k20 => k_is)
      (case a21 => k_is)
      (case l21 => k_is)
      (case c21 => k_is)
      (case k21 => k_is)
      (case a22 => k_is)
      (case l22 => k_is)
      (case c22 => k_is)
      (case k22 => k_is)
      (case a23 => k_is)
      (case l23 => k_is)
      (case c23 => k_is)
      (case k23 => k_is)
      (case a24 => k_is)
      (case l24 => k_is)
      (case c24 => k_is)
      (case k24 => k_is)
      (case a25 => k_is)
      (case l25 => k_is)
      (case c25 => k_is)
      (case k25 => k_is)
      (case a26 => k_is)
      (case l26 => k_is)
      (case c26 => k_is)
      (case k26 => k_is)
      (case a27 => k_is)
      (case l27 => k_is)
      (case c27 => k_is)
      (case k27 => k_is)
      (case a28 => k_is)
      (case l28 => k_is)
      (case c28 => k_is)
      (case k28 => k_is)
      (case a29 => k_is)
      (case l29 => k_is)
      (case c29 => k_is)
      (case k29 => k_is)
      (case a30 => k_is)
      (case l30 => k_is)
      (case c30 => k_is)
      (case k30 => k_is)
      (case a31 => k_is)
      (case l31 => k_is)
      (case c31 => k_is)
      (case k31 => k_is)
      (case a32 => k_is)
      (case l32 => k_is)
      (case c32 => k_is)
      (case k32 => k_is)
      (case a33 => k_is)
      (case l33 => k_is)
      (case c33 => k_is)
      (case k33 => k_is)
      (case a34 => k_is)
      (case l34 => k_is)
      (case c34 => k_is)
      (case k34 => k_is)
      (case a35 => k_is)
      (case l35 => k_is)
      (case c35 => k_is)
      (case k35 => k_is)
      (case a36 => k_is)
      (case l36 => k_is)
      (case c36 => k_is)
      (case k36 => k_is)
      (case a37 => k_is)
      (case l37 => k_is)
      (case c37 => k_is)
      (case k37 => k_is)
      (case z_gcd => k_is)
      (case z_abs => k_is)
      (case z_bool => k_is)
      (case z_int => k_is)
      (case z_isinstance => k_is)
      (case z_len => k_is)
      (case z_list => k_is)
      (case z_max => k_is)
      (case z_range => k_is)
      (case z_repr => k_is)
      (case z_str => k_is)
      (case z_tuple => k_is)
      (case z_zip => k_is)
      (case q_NOUGHT => k_is)
      (case p_NOUGHT => k_is)
      (case s_NOUGHT => decide)
      (case v_NOUGHT => exact (.cons ⟨_, rfl⟩ (.cons ⟨_, rfl⟩ .nil)))
