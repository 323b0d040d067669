import PyProof.Rows.All
import Wide.All
import OpenK.AllK
import Wide.FinOn
import HandS.ForMost
import HandS.ForExc
import HandS.IsInst
import HandS.Wide
import HandS.Flow
import HandS.Deep
import HandS.Zip
import HandS.Style
import HandS.TupAny
import HandS.Steps
import HandS.Walk
import HandS.NoneIn
import HandS.Defaults
import HandS.HeadEnd
import HandS.RevRange
import HandS.HeadHook1
import HandS.HeadHook2
import HandS.HeadHook3
import HandS.HeadHook4
import HandS.Zip0
import HandS.Head0
import HandS.Head1
import HandS.Head2
import HandS.Words
import HandS.WordsExc
import PySem.Challenge.RW_codemill_k75_whole_packed
set_option Elab.async false
set_option linter.all false
set_option maxRecDepth 100000
set_option maxHeartbeats 0
set_option autoImplicit false
/-! DL: Python on plain data. The core: frozen data, owned objects, worlds, steps. -/
namespace DL
open PySem PySem.Spec PyProof.Rows L2

abbrev D := PyData
abbrev En := List (Option D)

/-- kinds of slots -/
inductive Kd where
  | fz | ow | io | lk | li
  deriving DecidableEq
def Kd.own : Kd → Bool
  | .fz => false
  | _ => true
def Kd.pin : Kd → Bool
  | .io => true
  | .lk => true
  | .li => true
  | _ => false
def Kd.lock : Kd → Bool
  | .lk => true
  | .li => true
  | _ => false
theorem Kd.pin_of {k : Kd} (h : k.lock = true) : k.pin = true := by
  cases k <;> first | rfl | cases h
theorem Kd.own_of {k : Kd} (h : k.lock = true) : k.own = true := by
  cases k <;> first | rfl | cases h
/-- kinds of results: frozen, owned and new, a slot lent -/
inductive Ak where
  | fz | ow | br (i : Nat)
  deriving DecidableEq

def kD : Key → D
  | .inl i => .int i
  | .inr x => .str x

mutual
/-- v is d, as long as what is frozen stays -/
def Rp (K : PySem.W.Frag) (F : Hp) : D → V → Prop
  | .none, v => v = .non
  | .bool b, v => v = .bl b
  | .int i, v => v = .int i
  | .str x, v => v = .str x
  | .list ds, v => ∃ a xs, v = .ref a ∧ SqL K F a xs ∧ RpA K F ds xs
  | .tuple ds, v => ∃ a xs, v = .ref a ∧ SqT K F a xs ∧ RpA K F ds xs
  | .dict kvs, v => ∃ a vs, v = .ref a ∧ Rd F a (.dK vs) ∧ RpD K F kvs vs
def RpA (K : PySem.W.Frag) (F : Hp) : List D → List V → Prop
  | [], xs => xs = []
  | d :: ds, xs => ∃ v vs, xs = v :: vs ∧ Rp K F d v ∧ RpA K F ds vs
def RpD (K : PySem.W.Frag) (F : Hp) : List (D × D) → List (Key × V) → Prop
  | [], vs => vs = []
  | (k, d) :: r, vs => ∃ q v vr, vs = (q, v) :: vr ∧ k = kD q ∧ Rp K F d v ∧ RpD K F r vr
end

theorem same_rd {F F' : Hp} (e : Same F F') {a : Addr} {o : HO} (h : Rd F a o) : Rd F' a o := by
  rcases h with h | ⟨u, h⟩
  · exact .inl (e _ _ h)
  · exact .inr ⟨u, e _ _ h⟩
theorem same_sqt {K : PySem.W.Frag} {F F' : Hp} (e : Same F F') {a : Addr} {xs : List V} (h : SqT K F a xs) : SqT K F' a xs := by
  rcases h with h | h
  · exact .inl (same_rd e h)
  · exact .inr h

mutual
theorem Rp.mono {K : PySem.W.Frag} {F F' : Hp} (e : Same F F') : ∀ (d : D) (v : V), Rp K F d v → Rp K F' d v
  | .none, _, h => h
  | .bool _, _, h => h
  | .int _, _, h => h
  | .str _, _, h => h
  | .list ds, _, h => by
    obtain ⟨a, xs, h1, h2, h3⟩ := h
    exact ⟨a, xs, h1, e.seq h2, RpA.mono e ds xs h3⟩
  | .tuple ds, _, h => by
    obtain ⟨a, xs, h1, h2, h3⟩ := h
    exact ⟨a, xs, h1, same_sqt e h2, RpA.mono e ds xs h3⟩
  | .dict kvs, _, h => by
    obtain ⟨a, vs, h1, h2, h3⟩ := h
    exact ⟨a, vs, h1, same_rd e h2, RpD.mono e kvs vs h3⟩
theorem RpA.mono {K : PySem.W.Frag} {F F' : Hp} (e : Same F F') : ∀ (ds : List D) (vs : List V), RpA K F ds vs → RpA K F' ds vs
  | [], _, h => h
  | d :: ds, _, h => by
    obtain ⟨v, vs, h1, h2, h3⟩ := h
    exact ⟨v, vs, h1, Rp.mono e d v h2, RpA.mono e ds vs h3⟩
theorem RpD.mono {K : PySem.W.Frag} {F F' : Hp} (e : Same F F') : ∀ (ds : List (D × D)) (vs : List (Key × V)), RpD K F ds vs → RpD K F' ds vs
  | [], _, h => h
  | (k, d) :: r, _, h => by
    obtain ⟨q, v, vr, h1, h2, h3, h4⟩ := h
    exact ⟨q, v, vr, h1, h2, Rp.mono e d v h3, RpD.mono e r vr h4⟩
end

section
variable {K : PySem.W.Frag} {F : Hp}
theorem RpA.length : ∀ {ds : List D} {vs : List V}, RpA K F ds vs → vs.length = ds.length
  | [], _, h => by
    have h : _ = [] := h
    rw [h]
    rfl
  | d :: ds, _, h => by
    obtain ⟨v, vs, h1, h2, h3⟩ := h
    rw [h1, List.length_cons, List.length_cons, RpA.length h3]
theorem RpA.nil : RpA K F [] [] := rfl
theorem RpA.cons {d : D} {v : V} {ds : List D} {vs : List V} (h : Rp K F d v) (t : RpA K F ds vs) : RpA K F (d :: ds) (v :: vs) := ⟨v, vs, rfl, h, t⟩
theorem RpA.inv_cons {d : D} {v : V} {ds : List D} {vs : List V} (h : RpA K F (d :: ds) (v :: vs)) : Rp K F d v ∧ RpA K F ds vs := by
  obtain ⟨v', vs', h1, h2, h3⟩ := h
  injection h1 with e1 e2
  subst e1 e2
  exact ⟨h2, h3⟩
theorem RpA.append : ∀ {ds es : List D} {vs us : List V}, RpA K F ds vs → RpA K F es us → RpA K F (ds ++ es) (vs ++ us)
  | [], es, vs, us, h, g => by
    have h : vs = [] := h
    rw [h]
    exact g
  | d :: ds, es, _, us, h, g => by
    obtain ⟨v, vs, h1, h2, h3⟩ := h
    rw [h1]
    exact .cons h2 (RpA.append h3 g)
theorem RpA.get : ∀ {ds : List D} {vs : List V} {i : Nat} {d : D}, RpA K F ds vs → ds[i]? = some d → ∃ v, vs[i]? = some v ∧ Rp K F d v
  | [], _, _, _, _, e => by simp at e
  | d :: ds, _, 0, d', h, e => by
    obtain ⟨v, vs, h1, h2, h3⟩ := h
    have e : d = d' := by simpa using e
    subst e h1
    exact ⟨v, rfl, h2⟩
  | d :: ds, _, i + 1, d', h, e => by
    obtain ⟨v, vs, h1, h2, h3⟩ := h
    subst h1
    obtain ⟨u, q1, q2⟩ := RpA.get (i := i) (d := d') h3 (by simpa using e)
    exact ⟨u, by simpa using q1, q2⟩
theorem RpA.getV {ds : List D} {vs : List V} {i : Nat} {v : V} (h : RpA K F ds vs) (e : vs[i]? = some v) : ∃ d, ds[i]? = some d ∧ Rp K F d v := by
  have hl := h.length
  have hi : i < ds.length := by
    have := (List.getElem?_eq_some_iff.mp e).1
    omega
  obtain ⟨u, q1, q2⟩ := h.get (List.getElem?_eq_getElem hi)
  rw [e] at q1
  cases q1
  exact ⟨_, List.getElem?_eq_getElem hi, q2⟩
theorem RpA.set {d : D} {v : V} (g : Rp K F d v) : ∀ {ds : List D} {vs : List V} (i : Nat), RpA K F ds vs → RpA K F (ds.set i d) (vs.set i v)
  | [], vs, i, h => by
    have h : vs = [] := h
    rw [h]
    exact rfl
  | _ :: ds, _, 0, h => by
    obtain ⟨v, vs, h1, h2, h3⟩ := h
    rw [h1]
    exact .cons g h3
  | _ :: ds, _, i + 1, h => by
    obtain ⟨v, vs, h1, h2, h3⟩ := h
    rw [h1]
    exact .cons h2 (RpA.set g i h3)
theorem RpA.take : ∀ {ds : List D} {vs : List V} (n : Nat), RpA K F ds vs → RpA K F (ds.take n) (vs.take n)
  | [], vs, n, h => by
    have h : vs = [] := h
    rw [h, List.take_nil, List.take_nil]
    exact rfl
  | d :: ds, _, 0, h => by
    rw [List.take_zero, List.take_zero]
    exact rfl
  | d :: ds, _, n + 1, h => by
    obtain ⟨v, vs, h1, h2, h3⟩ := h
    rw [h1]
    exact .cons h2 (RpA.take n h3)
theorem RpA.drop : ∀ {ds : List D} {vs : List V} (n : Nat), RpA K F ds vs → RpA K F (ds.drop n) (vs.drop n)
  | [], vs, n, h => by
    have h : vs = [] := h
    rw [h, List.drop_nil, List.drop_nil]
    exact rfl
  | d :: ds, _, 0, h => h
  | d :: ds, _, n + 1, h => by
    obtain ⟨v, vs, h1, h2, h3⟩ := h
    rw [h1]
    exact RpA.drop n h3
theorem RpA.reverse : ∀ {ds : List D} {vs : List V}, RpA K F ds vs → RpA K F ds.reverse vs.reverse
  | [], vs, h => by
    have h : vs = [] := h
    rw [h]
    exact rfl
  | d :: ds, _, h => by
    obtain ⟨v, vs, h1, h2, h3⟩ := h
    rw [h1, List.reverse_cons, List.reverse_cons]
    exact (RpA.reverse h3).append (.cons h2 .nil)
theorem RpA.one {d : D} {vs : List V} (h : RpA K F [d] vs) : ∃ v, vs = [v] ∧ Rp K F d v := by
  obtain ⟨v, vs, h1, h2, h3⟩ := h
  have h3 : vs = [] := h3
  rw [h3] at h1
  exact ⟨v, h1, h2⟩
theorem RpA.two {d e : D} {vs : List V} (h : RpA K F [d, e] vs) : ∃ v u, vs = [v, u] ∧ Rp K F d v ∧ Rp K F e u := by
  obtain ⟨v, vs, h1, h2, h3⟩ := h
  obtain ⟨u, rfl, h4⟩ := h3.one
  exact ⟨v, u, h1, h2, h4⟩
end

/-! ### what is owned -/
/-- the content of an owned object -/
def OwnC (K : PySem.W.Frag) (F : Hp) (o : HO) : D → Prop
  | .list ds => ∃ xs, o = .lst xs ∧ RpA K F ds xs
  | .dict kvs => ∃ vs, o = .dK vs ∧ RpD K F kvs vs
  | _ => False
def OwnO (K : PySem.W.Frag) (F H : Hp) (p : Addr) (d : D) : Prop := ∃ o, H p = some o ∧ OwnC K F o d
theorem OwnC.mono {K : PySem.W.Frag} {F F' : Hp} (e : Same F F') {o : HO} : ∀ {d : D}, OwnC K F o d → OwnC K F' o d
  | .none, h => h
  | .bool _, h => h
  | .int _, h => h
  | .str _, h => h
  | .tuple _, h => h
  | .list ds, ⟨xs, h1, h2⟩ => ⟨xs, h1, h2.mono e⟩
  | .dict kvs, ⟨xs, h1, h2⟩ => ⟨xs, h1, h2.mono e⟩
theorem OwnO.mono {K : PySem.W.Frag} {F F' H H' : Hp} {p : Addr} {d : D} (e : Same F F') (h : OwnO K F H p d) (k : ∀ o, H p = some o → H' p = some o) : OwnO K F' H' p d := by
  obtain ⟨o, h1, h2⟩ := h
  exact ⟨o, k o h1, h2.mono e⟩
/-- frozen from now on -/
theorem OwnC.rp {K : PySem.W.Frag} {F : Hp} {p : Addr} {o : HO} (hp : F p = some o) : ∀ {d : D}, OwnC K F o d → Rp K F d (.ref p)
  | .none, h => h.elim
  | .bool _, h => h.elim
  | .int _, h => h.elim
  | .str _, h => h.elim
  | .tuple _, h => h.elim
  | .list ds, ⟨xs, h1, h2⟩ => ⟨p, xs, rfl, .inl (.inl (by rw [hp, h1])), h2⟩
  | .dict kvs, ⟨xs, h1, h2⟩ => ⟨p, xs, rfl, .inl (by rw [hp, h1]), h2⟩

/-! ### worlds -/
structure Wd where
  F : Hp
  H : Hp
  σ : L2.St
  ρ : En
def OwnAt (O : List Kd) (w : Wd) (i : Nat) (p : Addr) : Prop := ∃ (k : Kd) (d : D), O[i]? = some k ∧ k.own = true ∧ w.ρ[i]? = some (some d) ∧ w.σ[i]? = some (some (.ref p))
def Fp (O : List Kd) (w : Wd) (p : Addr) : Prop := ∃ i, OwnAt O w i p
structure Ok (K : PySem.W.Frag) (O : List Kd) (w : Wd) : Prop where
  sub : Same w.F w.H
  ls : w.σ.length = O.length
  lr : w.ρ.length = O.length
  fz : ∀ (i : Nat) (d : D), O[i]? = some Kd.fz → w.ρ[i]? = some (some d) → ∃ v : V, w.σ[i]? = some (some v) ∧ Rp K w.F d v
  ow : ∀ (i : Nat) (k : Kd) (d : D), O[i]? = some k → k.own = true → w.ρ[i]? = some (some d) → ∃ p : Addr, w.σ[i]? = some (some (.ref p)) ∧ w.F p = none ∧ OwnO K w.F w.H p d
  ap : ∀ i j p, OwnAt O w i p → OwnAt O w j p → i = j
structure Stp (O : List Kd) (w w' : Wd) : Prop where
  ex : Same w.F w'.F
  kp : ∀ b o, w.H b = some o → ¬ Fp O w b → w'.H b = some o
  nw : ∀ b o, w.H b = some o → ¬ Fp O w b → w.F b = none → w'.F b = none
  fp : ∀ b, Fp O w' b → Fp O w b ∨ w.H b = none
  pn : ∀ (i : Nat) (k : Kd), O[i]? = some k → k.pin = true → w'.σ[i]? = w.σ[i]?
  lk : ∀ (i : Nat) (k : Kd), O[i]? = some k → k.lock = true → w'.ρ[i]? = w.ρ[i]?
  lo : ∀ (i : Nat) (k : Kd) (p : Addr) (d : D), O[i]? = some k → k.lock = true → w.ρ[i]? = some (some d) → w.σ[i]? = some (some (.ref p)) → w'.H p = w.H p
/-- how a result stands -/
def Rs (K : PySem.W.Frag) (O : List Kd) (w w' : Wd) (k : Ak) (d : D) (v : V) : Prop := match k with
  | .fz => Rp K w'.F d v
  | .ow => ∃ p : Addr, v = .ref p ∧ w'.F p = none ∧ OwnO K w'.F w'.H p d ∧ ¬ Fp O w' p ∧ (Fp O w p ∨ w.H p = none)
  | .br i => w'.σ[i]? = some (some v) ∧ ∃ q : Kd, O[i]? = some q ∧ q.own = true

section
variable {K : PySem.W.Frag} {O : List Kd} {w w1 w2 : Wd}
theorem Ok.ownF (ok : Ok K O w) {p : Addr} (h : Fp O w p) : w.F p = none ∧ ∃ o, w.H p = some o := by
  obtain ⟨i, k, d, h1, h2, h3, h4⟩ := h
  obtain ⟨q, e1, e2, o, e3, e4⟩ := ok.ow i k d h1 h2 h3
  rw [h4] at e1
  cases e1
  exact ⟨e2, o, e3⟩
theorem Stp.refl (O : List Kd) (w : Wd) : Stp O w w := ⟨Same.refl _, fun _ _ h _ => h, fun _ _ _ _ h => h, fun _ h => .inl h, fun _ _ _ _ => rfl, fun _ _ _ _ => rfl, fun _ _ _ _ _ _ _ _ => rfl⟩
theorem Stp.back (a : Stp O w w1) {b : Addr} (h : w1.H b = none) : Fp O w b ∨ w.H b = none := by
  cases e : w.H b with
  | none => exact .inr rfl
  | some o =>
    refine .inl (Classical.byContradiction fun z => ?_)
    rw [a.kp b o e z] at h
    cases h
theorem Stp.nofp (a : Stp O w w1) {b : Addr} {o : HO} (h : w.H b = some o) (z : ¬ Fp O w b) : ¬ Fp O w1 b := fun q => by
  rcases a.fp b q with q | q
  · exact z q
  · rw [h] at q
    cases q
theorem Stp.trans (a : Stp O w w1) (b : Stp O w1 w2) : Stp O w w2 where
  ex := a.ex.trans b.ex
  kp := fun c o h z => b.kp c o (a.kp c o h z) (a.nofp h z)
  nw := fun c o h z f => b.nw c o (a.kp c o h z) (a.nofp h z) (a.nw c o h z f)
  fp := fun c h => by
    rcases b.fp c h with h | h
    · exact a.fp c h
    · exact a.back h
  pn := fun i k h1 h2 => (b.pn i k h1 h2).trans (a.pn i k h1 h2)
  lk := fun i k h1 h2 => (b.lk i k h1 h2).trans (a.lk i k h1 h2)
  lo := fun i k p d h1 h2 h3 h4 => (b.lo i k p d h1 h2 ((a.lk i k h1 h2).trans h3) ((a.pn i k h1 (Kd.pin_of h2)).trans h4)).trans (a.lo i k p d h1 h2 h3 h4)
/-- a result stays through a further step -/
theorem Rs.step {k : Ak} {d : D} {v : V} (h : Rs K O w w1 k d v) (b : Stp O w1 w2) (hs : w2.σ = w1.σ) : Rs K O w w2 k d v := by
  cases k with
  | fz => exact Rp.mono b.ex _ _ h
  | ow =>
    obtain ⟨p, e, h1, h2, h3, h4⟩ := h
    obtain ⟨o, e1, e2⟩ := h2
    exact ⟨p, e, b.nw p o e1 h3 h1, ⟨o, b.kp p o e1 h3, e2.mono b.ex⟩, b.nofp e1 h3, h4⟩
  | br i =>
    obtain ⟨h1, h2⟩ := h
    exact ⟨by rw [hs]; exact h1, h2⟩
/-- .. and counts from an earlier world -/
theorem Rs.pre {k : Ak} {d : D} {v : V} (a : Stp O w w1) (h : Rs K O w1 w2 k d v) : Rs K O w w2 k d v := by
  cases k with
  | fz => exact h
  | ow =>
    obtain ⟨p, e, h1, h2, h3, h4⟩ := h
    refine ⟨p, e, h1, h2, h3, ?_⟩
    rcases h4 with h4 | h4
    · exact a.fp p h4
    · exact a.back h4
  | br i => exact h
/-- nothing but new objects: what holds behind -/
structure Pur (F H F' H' : Hp) : Prop where
  ex : Same F F'
  hh : Same H H'
  sub : Same F' H'
  nw : ∀ b o, H b = some o → F b = none → F' b = none
theorem Pur.refl {F H : Hp} (s : Same F H) : Pur F H F H := ⟨.refl _, .refl _, s, fun _ _ _ h => h⟩
theorem Ok.pur {F' H' : Hp} (ok : Ok K O w) (p : Pur w.F w.H F' H') : Ok K O ⟨F', H', w.σ, w.ρ⟩ ∧ Stp O w ⟨F', H', w.σ, w.ρ⟩ := by
  have hF : ∀ b, Fp O ⟨F', H', w.σ, w.ρ⟩ b ↔ Fp O w b := fun b => Iff.rfl
  refine ⟨⟨p.sub, ok.ls, ok.lr, fun i d h1 h2 => ?_, fun i k d h1 h2 h3 => ?_, ok.ap⟩, ⟨p.ex, fun b o h _ => p.hh b o h, fun b o h _ f => p.nw b o h f, fun b h => .inl h, fun _ _ _ _ => rfl, fun _ _ _ _ => rfl, fun i k q d h1 h2 h3 h4 => by
    obtain ⟨q', e, f, o, e1, e2⟩ := ok.ow i k d h1 (Kd.own_of h2) h3
    rw [h4] at e
    cases e
    show H' q = w.H q
    rw [e1]
    exact p.hh q o e1⟩⟩
  · obtain ⟨v, e, r⟩ := ok.fz i d h1 h2
    exact ⟨v, e, r.mono p.ex⟩
  · obtain ⟨q, e, f, o, e1, e2⟩ := ok.ow i k d h1 h2 h3
    exact ⟨q, e, p.nw q o e1 f, o, p.hh q o e1, e2.mono p.ex⟩
end
end DL

/-! DL2: readings of expressions by functions on slots. -/
namespace DL
open PySem PySem.Spec PyProof.Rows L2

abbrev M := En → Option (D × En)
abbrev MT := En → Option (Bool × En)
abbrev MA := En → Option (List D × En)

def Rss (K : PySem.W.Frag) (O : List Kd) (w w' : Wd) : List Ak → List D → List V → Prop
  | [], ds, vs => ds = [] ∧ vs = []
  | k :: ks, ds, vs => ∃ d ds' v vs', ds = d :: ds' ∧ vs = v :: vs' ∧ Rs K O w w' k d v ∧ Rss K O w w' ks ds' vs'
theorem Rss.step {K : PySem.W.Frag} {O : List Kd} {w w1 w2 : Wd} (b : Stp O w1 w2) (hs : w2.σ = w1.σ) : ∀ {ks : List Ak} {ds : List D} {vs : List V}, Rss K O w w1 ks ds vs → Rss K O w w2 ks ds vs
  | [], _, _, h => h
  | k :: ks, _, _, ⟨d, ds', v, vs', e1, e2, h1, h2⟩ => ⟨d, ds', v, vs', e1, e2, h1.step b hs, h2.step b hs⟩
theorem Rss.pre {K : PySem.W.Frag} {O : List Kd} {w w1 w2 : Wd} (a : Stp O w w1) : ∀ {ks : List Ak} {ds : List D} {vs : List V}, Rss K O w1 w2 ks ds vs → Rss K O w w2 ks ds vs
  | [], _, _, h => h
  | k :: ks, _, _, ⟨d, ds', v, vs', e1, e2, h1, h2⟩ => ⟨d, ds', v, vs', e1, e2, h1.pre a, h2.pre a⟩

def tE (K : PySem.W.Frag) (O : List Kd) (m : M) (k : Ak) : TE := fun σ H Q => ∃ F ρ d ρ', Ok K O ⟨F, H, σ, ρ⟩ ∧ m ρ = some (d, ρ') ∧
  ∀ v F' H', Ok K O ⟨F', H', σ, ρ'⟩ → Stp O ⟨F, H, σ, ρ⟩ ⟨F', H', σ, ρ'⟩ → Rs K O ⟨F, H, σ, ρ⟩ ⟨F', H', σ, ρ'⟩ k d v → Q v H'
def tT (K : PySem.W.Frag) (O : List Kd) (m : MT) : TT := fun σ H Q => ∃ F ρ b ρ', Ok K O ⟨F, H, σ, ρ⟩ ∧ m ρ = some (b, ρ') ∧
  ∀ F' H', Ok K O ⟨F', H', σ, ρ'⟩ → Stp O ⟨F, H, σ, ρ⟩ ⟨F', H', σ, ρ'⟩ → Q b H'
def tA (K : PySem.W.Frag) (O : List Kd) (m : MA) (ks : List Ak) : TA := fun σ H Q => ∃ F ρ ds ρ', Ok K O ⟨F, H, σ, ρ⟩ ∧ m ρ = some (ds, ρ') ∧
  ∀ vs F' H', Ok K O ⟨F', H', σ, ρ'⟩ → Stp O ⟨F, H, σ, ρ⟩ ⟨F', H', σ, ρ'⟩ → Rss K O ⟨F, H, σ, ρ⟩ ⟨F', H', σ, ρ'⟩ ks ds vs → Q vs H'

/-! ### weakening -/
section
variable {X : Cx} {e : Expr} {es : List Expr}
theorem PEi {t t' : TE} (h : PE X e t) (k : ∀ σ H Q, t' σ H Q → t σ H Q) : PE X e t' := ⟨fun pins s σ H Q I q => h.run pins s σ H Q I (k σ H Q q)⟩
theorem PTi {t t' : TT} (h : PT X e t) (k : ∀ σ H Q, t' σ H Q → t σ H Q) : PT X e t' := ⟨fun pins s σ H Q I q => h.run pins s σ H Q I (k σ H Q q)⟩
theorem PWi {t t' : TT} (h : PW X e t) (k : ∀ σ H Q, t' σ H Q → t σ H Q) : PW X e t' := ⟨fun wh pins s σ H Q I q => h.run wh pins s σ H Q I (k σ H Q q)⟩
theorem PAi {t t' : TA} (h : PA X es t) (k : ∀ σ H Q, t' σ H Q → t σ H Q) : PA X es t' := ⟨fun pos pins s σ H Q I q => h.run pos pins s σ H Q I (k σ H Q q)⟩
end

/-! ### names, constants -/
def mVar (i : Nat) : M := fun ρ => match ρ[i]? with
  | some (some d) => some (d, ρ)
  | _ => none
def mMv (i : Nat) : M := fun ρ => match ρ[i]? with
  | some (some d) => some (d, ρ.set i none)
  | _ => none
def mBr (i : Nat) : M := fun ρ => match ρ[i]? with
  | some (some _) => some (.none, ρ)
  | _ => none
def mC (d : D) : M := fun ρ => some (d, ρ)
theorem slot_some {ρ : En} {i : Nat} {α : Type} {f : D → Option α} {x : α} (h : (match ρ[i]? with | some (some d) => f d | _ => none) = some x) : ∃ d, ρ[i]? = some (some d) ∧ f d = some x := by
  split at h
  · exact ⟨_, by assumption, h⟩
  · cases h
section
variable {K : PySem.W.Frag} {O : List Kd} {w : Wd} {i : Nat}
theorem own_unset (p : Addr) {σ : L2.St} {ρ : En} {F H F' H' : Hp} (j : Nat) (h : OwnAt O ⟨F', H', σ, ρ.set i none⟩ j p) : OwnAt O ⟨F, H, σ, ρ⟩ j p ∧ j ≠ i := by
  obtain ⟨k, d, h1, h2, h3, h4⟩ := h
  by_cases e : i = j
  · subst e
    have h3 : (ρ.set i none)[i]? = some (some d) := h3
    rw [List.getElem?_set] at h3
    split at h3
    · split at h3 <;> cases h3
    · contradiction
  · have h3 : (ρ.set i none)[j]? = some (some d) := h3
    rw [List.getElem?_set_ne e] at h3
    exact ⟨⟨k, d, h1, h2, h3, h4⟩, fun z => e z.symm⟩
theorem Ok.unset (ok : Ok K O w) (i : Nat) : Ok K O ⟨w.F, w.H, w.σ, w.ρ.set i none⟩ := by
  refine ⟨ok.sub, ok.ls, by show (w.ρ.set i none).length = _; rw [List.length_set]; exact ok.lr, fun j d h1 h2 => ?_, fun j k d h1 h2 h3 => ?_, fun a b p h1 h2 => ok.ap a b p (own_unset p a h1).1 (own_unset p b h2).1⟩
  · have h2 : (w.ρ.set i none)[j]? = some (some d) := h2
    by_cases e : i = j
    · subst e
      rw [List.getElem?_set] at h2
      split at h2
      · split at h2 <;> cases h2
      · contradiction
    · rw [List.getElem?_set_ne e] at h2
      exact ok.fz j d h1 h2
  · have h3 : (w.ρ.set i none)[j]? = some (some d) := h3
    by_cases e : i = j
    · subst e
      rw [List.getElem?_set] at h3
      split at h3
      · split at h3 <;> cases h3
      · contradiction
    · rw [List.getElem?_set_ne e] at h3
      exact ok.ow j k d h1 h2 h3
end

section
variable {X : Cx} {O : List Kd} {x : Str} {pos : Pos} {i : Nat}
theorem e_var (i : Nat) (hO : O[i]? = some Kd.fz := by rfl) (hN : X.N[i]? = some x := by rfl) (hv : Vis X.env.scope x := by first | exact Or.inl rfl | exact Or.inr (Or.inl rfl) | exact Or.inr (Or.inr rfl)) (hd : (x == ("__debug__" : Str)) = false := by decide)
    (hcd : (x == ("__classdict__" : Str)) = false := by decide) : PE X (.Name x pos) (tE X.K O (mVar i) .fz) := by
  refine PEi (pe_var hN hv hd hcd) fun σ H Q h => ?_
  obtain ⟨F, ρ, d, ρ', ok, hm, k⟩ := h
  obtain ⟨d', e1, e2⟩ := slot_some hm
  cases e2
  obtain ⟨v, e3, r⟩ := ok.fz i _ hO e1
  exact ⟨v, e3, k v F H ok (.refl _ _) r⟩
theorem e_mv (i : Nat) (hO : O[i]? = some Kd.ow := by rfl) (hN : X.N[i]? = some x := by rfl) (hv : Vis X.env.scope x := by first | exact Or.inl rfl | exact Or.inr (Or.inl rfl) | exact Or.inr (Or.inr rfl)) (hd : (x == ("__debug__" : Str)) = false := by decide)
    (hcd : (x == ("__classdict__" : Str)) = false := by decide) : PE X (.Name x pos) (tE X.K O (mMv i) .ow) := by
  refine PEi (pe_var hN hv hd hcd) fun σ H Q h => ?_
  obtain ⟨F, ρ, d, ρ', ok, hm, k⟩ := h
  obtain ⟨d', e1, e2⟩ := slot_some hm
  cases e2
  obtain ⟨p, e3, f, r⟩ := ok.ow i Kd.ow _ hO rfl e1
  have at_i : OwnAt O ⟨F, H, σ, ρ⟩ i p := ⟨Kd.ow, d, hO, rfl, e1, e3⟩
  refine ⟨.ref p, e3, k _ F H (ok.unset i) ⟨Same.refl _, fun _ _ h _ => h, fun _ _ _ _ h => h, fun b h => ?_, fun _ _ _ _ => rfl, fun j q h1 h2 => ?_, fun _ _ _ _ _ _ _ _ => rfl⟩ ⟨p, rfl, f, r, fun z => ?_, .inl ⟨i, at_i⟩⟩⟩
  · obtain ⟨j, h⟩ := h
    exact .inl ⟨j, (own_unset b j h).1⟩
  · have e : i ≠ j := fun z => by
      subst z
      rw [hO] at h1
      cases h1
      cases h2
    exact List.getElem?_set_ne e
  · obtain ⟨j, h⟩ := z
    obtain ⟨h1, h2⟩ := own_unset (F := F) (H := H) p j h
    exact h2 (ok.ap j i p h1 at_i)
theorem e_br (i : Nat) (hO : ∃ q : Kd, O[i]? = some q ∧ q.own = true := by exact ⟨_, rfl, rfl⟩) (hN : X.N[i]? = some x := by rfl) (hv : Vis X.env.scope x := by first | exact Or.inl rfl | exact Or.inr (Or.inl rfl) | exact Or.inr (Or.inr rfl)) (hd : (x == ("__debug__" : Str)) = false := by decide)
    (hcd : (x == ("__classdict__" : Str)) = false := by decide) : PE X (.Name x pos) (tE X.K O (mBr i) (.br i)) := by
  refine PEi (pe_var hN hv hd hcd) fun σ H Q h => ?_
  obtain ⟨F, ρ, d, ρ', ok, hm, k⟩ := h
  obtain ⟨d', e1, e2⟩ := slot_some hm
  cases e2
  obtain ⟨q, h1, h2⟩ := hO
  obtain ⟨p, e3, f, r⟩ := ok.ow i q _ h1 h2 e1
  exact ⟨.ref p, e3, k _ F H ok (.refl _ _) ⟨e3, q, h1, h2⟩⟩
/-- anything that is data wherever it stands -/
theorem e_const {e : Expr} {v : V} {d : D} (h : PE X e (tC v)) (r : ∀ F : Hp, Rp X.K F d v) : PE X e (tE X.K O (mC d) .fz) := by
  refine PEi h fun σ H Q q => ?_
  obtain ⟨F, ρ, d', ρ', ok, hm, k⟩ := q
  cases hm
  exact k v F H ok (.refl _ _) (r F)
theorem e_int {n : Int} {j : Nat} : PE X (.Constant (.int n) j pos) (tE X.K O (mC (.int n)) .fz) := e_const pe_int fun _ => rfl
theorem e_bl {b : Bool} {j : Nat} : PE X (.Constant (.bool b) j pos) (tE X.K O (mC (.bool b)) .fz) := e_const pe_bl fun _ => rfl
theorem e_non {j : Nat} : PE X (.Constant .none j pos) (tE X.K O (mC .none) .fz) := e_const pe_non fun _ => rfl
theorem e_str {z : Str} {j : Nat} : PE X (.Constant (.str z) j pos) (tE X.K O (mC (.str z)) .fz) := e_const pe_str fun _ => rfl
/-- what is owned and new is frozen -/
theorem frz_out {K : PySem.W.Frag} {w w' : Wd} {d : D} {v : V} (ok : Ok K O w') (st : Stp O w w') (r : Rs K O w w' .ow d v) : ∃ F', Ok K O ⟨F', w'.H, w'.σ, w'.ρ⟩ ∧ Stp O w ⟨F', w'.H, w'.σ, w'.ρ⟩ ∧ Rs K O w ⟨F', w'.H, w'.σ, w'.ρ⟩ .fz d v := by
  obtain ⟨p, rfl, h1, ⟨o, h2, h3⟩, h4, h5⟩ := r
  have e' : Same w'.F (upd w'.F p o) := fun b u hb => by
    rw [upd_ne (ne_of_none hb h1)]
    exact hb
  refine ⟨upd w'.F p o, ⟨fun b u hb => ?_, ok.ls, ok.lr, fun i d g1 g2 => ?_, fun i q d g1 g2 g3 => ?_, ok.ap⟩, ⟨st.ex.trans e', st.kp, fun b u hb z f => ?_, st.fp, st.pn, st.lk, st.lo⟩, (h3.mono e').rp upd_same⟩
  · by_cases e : b = p
    · subst e
      have hb : upd w'.F b o b = some u := hb
      rw [upd_same] at hb
      cases hb
      exact h2
    · have hb : upd w'.F p o b = some u := hb
      rw [upd_ne e] at hb
      exact ok.sub b u hb
  · obtain ⟨v, e, r⟩ := ok.fz i d g1 g2
    exact ⟨v, e, r.mono e'⟩
  · obtain ⟨c, e, f, r⟩ := ok.ow i q d g1 g2 g3
    refine ⟨c, e, ?_, r.mono e' fun _ z => z⟩
    have hc : c ≠ p := fun z => by
      subst z
      exact h4 ⟨i, q, d, g1, g2, g3, e⟩
    show upd w'.F p o c = none
    rw [upd_ne hc]
    exact f
  · have hc : b ≠ p := fun y => by
      subst y
      rcases h5 with h5 | h5
      · exact z h5
      · rw [h5] at hb
        cases hb
    show upd w'.F p o b = none
    rw [upd_ne hc]
    exact st.nw b u hb z f
theorem e_frz {e : Expr} {m : M} (h : PE X e (tE X.K O m .ow)) : PE X e (tE X.K O m .fz) := by
  refine PEi h fun σ H Q q => ?_
  obtain ⟨F, ρ, d, ρ', ok, hm, k⟩ := q
  refine ⟨F, ρ, d, ρ', ok, hm, fun v F' H' ok' st r => ?_⟩
  obtain ⟨F2, a, b, c⟩ := frz_out ok' st r
  exact k v F2 H' a b c
end
/-! ### argument lists -/
def maNil : MA := fun ρ => some ([], ρ)
def maCons (m : M) (r : MA) : MA := fun ρ => (m ρ).bind fun p => (r p.2).bind fun q => some (p.1 :: q.1, q.2)
section
variable {X : Cx} {O : List Kd} {e : Expr} {es : List Expr} {σ : L2.St} {H : Hp}
theorem tA_nil {Q : List V → Hp → Prop} (h : tA X.K O maNil [] σ H Q) : tNil σ H Q := by
  obtain ⟨F, ρ, d, ρ', ok, hm, k⟩ := h
  cases hm
  exact k [] F H ok (.refl _ _) ⟨rfl, rfl⟩
theorem bind_some {α β : Type} {o : Option α} {f : α → Option β} {x : β} (h : o.bind f = some x) : ∃ a, o = some a ∧ f a = some x := by
  cases o with
  | none => cases h
  | some a => exact ⟨a, rfl, h⟩
theorem map_some {α β : Type} {o : Option α} {f : α → β} {x : β} (h : o.map f = some x) : ∃ a, o = some a ∧ f a = x := by
  cases o with
  | none => cases h
  | some a => exact ⟨a, rfl, Option.some.inj h⟩
theorem tA_cons {K : PySem.W.Frag} {m : M} {r : MA} {k : Ak} {ks : List Ak} {Q : List V → Hp → Prop} (h : tA K O (maCons m r) (k :: ks) σ H Q) : tCons (tE K O m k) (tA K O r ks) σ H Q := by
  obtain ⟨F, ρ, ds, ρ', ok, hm, q⟩ := h
  obtain ⟨⟨d, ρ1⟩, h1, h2⟩ := bind_some hm
  obtain ⟨⟨ds', ρ2⟩, h3, h4⟩ := bind_some h2
  cases h4
  refine ⟨F, ρ, d, ρ1, ok, h1, fun v F1 H1 ok1 st1 r1 => ⟨F1, ρ1, ds', ρ2, ok1, h3, fun vs F2 H2 ok2 st2 r2 => ?_⟩⟩
  exact q (v :: vs) F2 H2 ok2 (st1.trans st2) ⟨d, ds', v, vs, rfl, rfl, r1.step st2 rfl, r2.pre st1⟩
theorem a_nil : PA X [] (tA X.K O maNil []) := PAi pa_nil fun _ _ _ h => tA_nil h
theorem a_cons {m : M} {r : MA} {k : Ak} {ks : List Ak} (h : PE X e (tE X.K O m k)) (t : PA X es (tA X.K O r ks)) (hs : starEach (e :: es) X.env = (false, eval e X.env) :: starEach es X.env := by rfl) : PA X (e :: es) (tA X.K O (maCons m r) (k :: ks)) :=
  PAi (pa_cons h t hs) fun _ _ _ h => tA_cons h
end
/-! ### operands seen -/
mutual
/-- v is seen as d: what d's outermost list or dict holds may change later -/
def Vw (K : PySem.W.Frag) (F H : Hp) (d : D) (v : V) : Prop := match d with
  | .list ds => ∃ a xs, v = .ref a ∧ SqL K H a xs ∧ RpA K F ds xs
  | .dict kvs => ∃ a vs, v = .ref a ∧ Rd H a (.dK vs) ∧ RpD K F kvs vs
  | d => Rp K F d v
end
def VwA (K : PySem.W.Frag) (F H : Hp) : List D → List V → Prop
  | [], vs => vs = []
  | d :: ds, vs => ∃ v r, vs = v :: r ∧ Vw K F H d v ∧ VwA K F H ds r
theorem Rp.vw {K : PySem.W.Frag} {F H : Hp} (s : Same F H) : ∀ {d : D} {v : V}, Rp K F d v → Vw K F H d v
  | .none, _, h => h
  | .bool _, _, h => h
  | .int _, _, h => h
  | .str _, _, h => h
  | .tuple _, _, h => h
  | .list ds, _, ⟨a, xs, e, h1, h2⟩ => ⟨a, xs, e, s.seq h1, h2⟩
  | .dict ds, _, ⟨a, xs, e, h1, h2⟩ => ⟨a, xs, e, same_rd s h1, h2⟩
theorem OwnO.vw {K : PySem.W.Frag} {F H : Hp} {p : Addr} : ∀ {d : D}, OwnO K F H p d → Vw K F H d (.ref p)
  | .none, ⟨_, _, h⟩ => h.elim
  | .bool _, ⟨_, _, h⟩ => h.elim
  | .int _, ⟨_, _, h⟩ => h.elim
  | .str _, ⟨_, _, h⟩ => h.elim
  | .tuple _, ⟨_, _, h⟩ => h.elim
  | .list ds, ⟨o, h1, xs, h2, h3⟩ => ⟨p, xs, rfl, .inl (.inl (by rw [h1, h2])), h3⟩
  | .dict ds, ⟨o, h1, xs, h2, h3⟩ => ⟨p, xs, rfl, .inl (by rw [h1, h2]), h3⟩
def fill : List Ak → List D → En → Option (List D)
  | [], [], _ => some []
  | .br i :: ks, _ :: ds, ρ => (match ρ[i]? with
    | some (some d) => (fill ks ds ρ).map (d :: ·)
    | _ => none)
  | .fz :: ks, d :: ds, ρ => (fill ks ds ρ).map (d :: ·)
  | .ow :: ks, d :: ds, ρ => (fill ks ds ρ).map (d :: ·)
  | _, _, _ => none
theorem Rss.views {K : PySem.W.Frag} {O : List Kd} {w w' : Wd} (ok : Ok K O w') : ∀ {ks : List Ak} {ds : List D} {vs : List V} {es : List D}, Rss K O w w' ks ds vs → fill ks ds w'.ρ = some es → VwA K w'.F w'.H es vs
  | [], _, _, _, ⟨h1, h2⟩, hf => by
    subst h1 h2
    cases hf
    rfl
  | .br i :: ks, _, _, _, ⟨d, ds', v, vs', h1, h2, h3, h4⟩, hf => by
    subst h1 h2
    obtain ⟨d', e1, e2⟩ := slot_some hf
    obtain ⟨es', e3, e4⟩ := map_some e2
    subst e4
    obtain ⟨g1, q, g2, g3⟩ := h3
    obtain ⟨p, r1, r2, r3⟩ := ok.ow i q d' g2 g3 e1
    rw [g1] at r1
    cases r1
    exact ⟨.ref p, vs', rfl, r3.vw, h4.views ok e3⟩
  | .fz :: ks, _, _, _, ⟨d, ds', v, vs', h1, h2, h3, h4⟩, hf => by
    subst h1 h2
    obtain ⟨es', e3, e4⟩ := map_some hf
    subst e4
    exact ⟨v, vs', rfl, Rp.vw ok.sub h3, h4.views ok e3⟩
  | .ow :: ks, _, _, _, ⟨d, ds', v, vs', h1, h2, h3, h4⟩, hf => by
    subst h1 h2
    obtain ⟨es', e3, e4⟩ := map_some hf
    subst e4
    obtain ⟨p, rfl, g1, g2, g3, g4⟩ := h3
    exact ⟨.ref p, vs', rfl, g2.vw, h4.views ok e3⟩

/-! ### operations by values -/
def mOp (ks : List Ak) (ma : MA) (op : List D → Option D) : M := fun ρ => (ma ρ).bind fun p => (fill ks p.1 p.2).bind fun ds => (op ds).map fun d => (d, p.2)
/-- a result that stands over new objects alone -/
def Rs1 (K : PySem.W.Frag) (H F' H' : Hp) (k : Ak) (d : D) (v : V) : Prop := match k with
  | .fz => Rp K F' d v
  | .ow => ∃ p, v = .ref p ∧ F' p = none ∧ OwnO K F' H' p d ∧ H p = none
  | .br _ => False
def Post (K : PySem.W.Frag) (F H : Hp) (k : Ak) (d : D) (Q : VK) : Prop := ∀ v F' H', Pur F H F' H' → Rs1 K H F' H' k d v → Q v H'
/-- an operation on values as a function on data -/
def LSem (K : PySem.W.Frag) (r : List V → Hp → VK → Prop) (op : List D → Option D) (k : Ak) : Prop := ∀ (F H : Hp) (ds : List D) (vs : List V) (d : D) (Q : VK), Same F H → VwA K F H ds vs → op ds = some d → Post K F H k d Q → r vs H Q
section
variable {K : PySem.W.Frag} {O : List Kd} {w : Wd}
theorem Rs1.rs {k : Ak} {d : D} {v : V} {F' H' : Hp} (ok : Ok K O w) (h : Rs1 K w.H F' H' k d v) : Rs K O w ⟨F', H', w.σ, w.ρ⟩ k d v := by
  cases k with
  | fz => exact h
  | ow =>
    obtain ⟨p, e, h1, h2, h3⟩ := h
    refine ⟨p, e, h1, h2, fun z => ?_, .inr h3⟩
    obtain ⟨_, o, z⟩ := ok.ownF (p := p) z
    rw [h3] at z
    cases z
  | br i => exact h.elim
/-- the arguments are there: what the operation makes -/
theorem tA_op {ks : List Ak} {ma : MA} {op : List D → Option D} {r : List V → Hp → VK → Prop} {k : Ak} {σ : L2.St} {H : Hp} {Q : VK} (hs : LSem K r op k) (h : tE K O (mOp ks ma op) k σ H Q) : tA K O ma ks σ H fun vs H1 => r vs H1 Q := by
  obtain ⟨F, ρ, d, ρ', ok, hm, q⟩ := h
  obtain ⟨⟨ds, ρ1⟩, h1, h2⟩ := bind_some hm
  obtain ⟨es, h3, h4⟩ := bind_some h2
  obtain ⟨d', h5, h6⟩ := map_some h4
  cases h6
  refine ⟨F, ρ, ds, ρ1, ok, h1, fun vs F1 H1 ok1 st1 r1 => ?_⟩
  refine hs F1 H1 es vs d Q ok1.sub (r1.views ok1 h3) h5 fun v F2 H2 pu r2 => ?_
  obtain ⟨ok2, st2⟩ := ok1.pur pu
  exact q v F2 H2 ok2 (st1.trans st2) ((r2.rs ok1).pre st1)
end
section
variable {X : Cx} {O : List Kd} {e a b : Expr} {es : List Expr} {ma mb : M} {ka kb k : Ak} {op : List D → Option D} {σ : L2.St} {H : Hp} {Q : VK}
def m2 (ka kb : Ak) (ma mb : M) (op : List D → Option D) : M := mOp [ka, kb] (maCons ma (maCons mb maNil)) op
def m1 (ka : Ak) (ma : M) (op : List D → Option D) : M := mOp [ka] (maCons ma maNil) op
/-- a relation of two values, of one, as one of lists -/
def rL2 (r : R2) : List V → Hp → VK → Prop := fun vs H Q => ∃ x y, vs = [x, y] ∧ r x y H Q
def rL1 (r : V → Hp → VK → Prop) : List V → Hp → VK → Prop := fun vs H Q => ∃ x, vs = [x] ∧ r x H Q
theorem tOp_of {K : PySem.W.Frag} {r : R2} (hs : LSem K (rL2 r) op k) (h : tE K O (m2 ka kb ma mb op) k σ H Q) : tOp r (tE K O ma ka) (tE K O mb kb) σ H Q := by
  have q := tA_cons (tA_op hs h)
  obtain ⟨F, ρ, d, ρ', ok, hm, q⟩ := q
  refine ⟨F, ρ, d, ρ', ok, hm, fun v F1 H1 ok1 st1 r1 => ?_⟩
  have q1 := tA_cons (q v F1 H1 ok1 st1 r1)
  obtain ⟨F2, ρ2, d2, ρ2', ok2, hm2, q2⟩ := q1
  refine ⟨F2, ρ2, d2, ρ2', ok2, hm2, fun v2 F3 H3 ok3 st3 r3 => ?_⟩
  obtain ⟨F4, ρ4, ds, ρ4', ok4, hm4, q4⟩ := q2 v2 F3 H3 ok3 st3 r3
  cases hm4
  obtain ⟨x, y, e1, z⟩ := q4 [] F4 H3 ok4 (.refl _ _) ⟨rfl, rfl⟩
  cases e1
  exact z
theorem tUn_of {K : PySem.W.Frag} {r : V → Hp → VK → Prop} (hs : LSem K (rL1 r) op k) (h : tE K O (m1 ka ma op) k σ H Q) : tUn r (tE K O ma ka) σ H Q := by
  have q := tA_cons (tA_op hs h)
  obtain ⟨F, ρ, d, ρ', ok, hm, q⟩ := q
  refine ⟨F, ρ, d, ρ', ok, hm, fun v F1 H1 ok1 st1 r1 => ?_⟩
  obtain ⟨F4, ρ4, ds, ρ4', ok4, hm4, q4⟩ := q v F1 H1 ok1 st1 r1
  cases hm4
  obtain ⟨x, e1, z⟩ := q4 [] F4 H1 ok4 (.refl _ _) ⟨rfl, rfl⟩
  cases e1
  exact z
theorem e_op {bo : Operator} {r : R2} {pos : Pos} (ho : OpR X (binaryOp bo) r) (hs : LSem X.K (rL2 r) op k) (ha : PE X a (tE X.K O ma ka)) (hb : PE X b (tE X.K O mb kb)) : PE X (.BinOp a bo b pos) (tE X.K O (m2 ka kb ma mb op) k) :=
  PEi (pe_op ho ha hb) fun _ _ _ h => tOp_of hs h
theorem e_cmp {co : CmpOp} {r : R2} {pos : Pos} (ho : OpR X (compareOp co) r) (hs : LSem X.K (rL2 r) op k) (ha : PE X a (tE X.K O ma ka)) (hb : PE X b (tE X.K O mb kb)) (hm : behindInMarks co b = false := by first | exact nomark _ | rfl | with_unfolding_all rfl) :
    PE X (.Compare a [co] [b] pos) (tE X.K O (m2 ka kb ma mb op) k) := PEi (pe_cmpR ho ha hb hm) fun _ _ _ h => tOp_of hs h
theorem e_un {uo : UnaryOp} {r : V → Hp → VK → Prop} {pos : Pos} (ho : UnR X (unaryOp uo) r) (hs : LSem X.K (rL1 r) op k) (ha : PE X a (tE X.K O ma ka)) : PE X (.UnaryOp uo a pos) (tE X.K O (m1 ka ma op) k) :=
  PEi (pe_un ho ha) fun _ _ _ h => tUn_of hs h
/-- a truth as a test -/
def mTr (m : M) : MT := fun ρ => (m ρ).bind fun p => match p.1 with
  | .bool b => some (b, p.2)
  | _ => none
theorem tr_some {m : M} {ρ : En} {b : Bool} {ρ' : En} (h : mTr m ρ = some (b, ρ')) : m ρ = some (.bool b, ρ') := by
  obtain ⟨⟨d, ρ1⟩, h1, h2⟩ := bind_some h
  cases d <;> cases h2
  exact h1
theorem tTr {K : PySem.W.Frag} {m : M} {Q : Bool → Hp → Prop} (h : tT K O (mTr m) σ H Q) : tE K O m .fz σ H fun x H1 => ∃ c, x = .bl c ∧ Q c H1 := by
  obtain ⟨F, ρ, b, ρ', ok, hm, q⟩ := h
  exact ⟨F, ρ, _, ρ', ok, tr_some hm, fun v F1 H1 ok1 st1 r1 => ⟨b, r1, q F1 H1 ok1 st1⟩⟩
theorem t_cmp {co : CmpOp} {r : R2} {pos : Pos} (ho : OpR X (compareOp co) r) (hs : LSem X.K (rL2 r) op .fz) (ha : PE X a (tE X.K O ma ka)) (hb : PE X b (tE X.K O mb kb)) (hm : behindInMarks co b = false := by first | exact nomark _ | rfl | with_unfolding_all rfl) :
    PT X (.Compare a [co] [b] pos) (tT X.K O (mTr (m2 ka kb ma mb op))) := PTi (pt_cmpR ho ha hb hm) fun _ _ _ h => tOp_of hs (tTr h)
theorem t_val {m : M} (h : PE X e (tE X.K O m .fz)) (he : ∀ whole, isTrue e X.env whole = (do let v ← whole; standAt e.pos; holding [v] (truthy v)) := by intro _; rfl) : PT X e (tT X.K O (mTr m)) :=
  PTi (pt_val h he) fun _ _ _ h => tTr h
/-! ### and, or, not -/
variable {ta tb : MT} {rest : List Expr} {pos : Pos}
def mAnd (a b : MT) : MT := fun ρ => (a ρ).bind fun p => if p.1 = true then b p.2 else some (false, p.2)
def mOr (a b : MT) : MT := fun ρ => (a ρ).bind fun p => if p.1 = true then some (true, p.2) else b p.2
def mNot (a : MT) : MT := fun ρ => (a ρ).map fun p => (!p.1, p.2)
theorem w_and1 (ha : PT X a (tT X.K O ta)) : PW X (.BoolOp .And [a] pos) (tT X.K O ta) := pw_and1 ha
theorem w_or1 (ha : PT X a (tT X.K O ta)) : PW X (.BoolOp .Or [a] pos) (tT X.K O ta) := pw_or1 ha
theorem w_and (ha : PT X a (tT X.K O ta)) (hb : PW X (.BoolOp .And (b :: rest) pos) (tT X.K O tb)) : PW X (.BoolOp .And (a :: b :: rest) pos) (tT X.K O (mAnd ta tb)) := by
  refine PWi (pw_and ha hb) fun σ H Q h => ?_
  obtain ⟨F, ρ, c, ρ', ok, hm, q⟩ := h
  obtain ⟨⟨c1, ρ1⟩, h1, h2⟩ := bind_some hm
  refine ⟨F, ρ, c1, ρ1, ok, h1, fun F1 H1 ok1 st1 => ?_⟩
  cases c1 with
  | true =>
    rw [if_pos rfl] at h2 ⊢
    exact ⟨F1, ρ1, c, ρ', ok1, h2, fun F2 H2 ok2 st2 => q F2 H2 ok2 (st1.trans st2)⟩
  | false =>
    rw [if_neg Bool.false_ne_true] at h2 ⊢
    cases h2
    exact q F1 H1 ok1 st1
theorem w_or (ha : PT X a (tT X.K O ta)) (hb : PW X (.BoolOp .Or (b :: rest) pos) (tT X.K O tb)) : PW X (.BoolOp .Or (a :: b :: rest) pos) (tT X.K O (mOr ta tb)) := by
  refine PWi (pw_or ha hb) fun σ H Q h => ?_
  obtain ⟨F, ρ, c, ρ', ok, hm, q⟩ := h
  obtain ⟨⟨c1, ρ1⟩, h1, h2⟩ := bind_some hm
  refine ⟨F, ρ, c1, ρ1, ok, h1, fun F1 H1 ok1 st1 => ?_⟩
  cases c1 with
  | false =>
    rw [if_neg Bool.false_ne_true] at h2 ⊢
    exact ⟨F1, ρ1, c, ρ', ok1, h2, fun F2 H2 ok2 st2 => q F2 H2 ok2 (st1.trans st2)⟩
  | true =>
    rw [if_pos rfl] at h2 ⊢
    cases h2
    exact q F1 H1 ok1 st1
theorem t_not (ha : PT X a (tT X.K O ta)) : PT X (.UnaryOp .Not a pos) (tT X.K O (mNot ta)) := by
  refine PTi (pt_not ha) fun σ H Q h => ?_
  obtain ⟨F, ρ, c, ρ', ok, hm, q⟩ := h
  obtain ⟨⟨c1, ρ1⟩, h1, h2⟩ := map_some hm
  cases h2
  exact ⟨F, ρ, c1, ρ1, ok, h1, fun F1 H1 ok1 st1 => q F1 H1 ok1 st1⟩
/-- as values, truths all -/
def mAndV (a b : M) : M := fun ρ => (mTr a ρ).bind fun p => if p.1 = true then b p.2 else some (.bool false, p.2)
def mOrV (a b : M) : M := fun ρ => (mTr a ρ).bind fun p => if p.1 = true then some (.bool true, p.2) else b p.2
def mNotV (a : M) : M := fun ρ => (mTr a ρ).map fun p => (.bool (!p.1), p.2)
theorem e_one {bo} (h : PE X a (tE X.K O ma .fz)) : PE X (.BoolOp bo [a] pos) (tE X.K O ma .fz) := pe_one h
theorem e_and (ha : PE X a (tE X.K O ma .fz)) (hb : PE X (.BoolOp .And (b :: rest) pos) (tE X.K O mb .fz)) : PE X (.BoolOp .And (a :: b :: rest) pos) (tE X.K O (mAndV ma mb) .fz) := by
  refine PEi (pe_and ha hb) fun σ H Q h => ?_
  obtain ⟨F, ρ, d, ρ', ok, hm, q⟩ := h
  obtain ⟨⟨c1, ρ1⟩, h1, h2⟩ := bind_some hm
  refine ⟨F, ρ, _, ρ1, ok, tr_some h1, fun v F1 H1 ok1 st1 r1 => ⟨c1, r1, ?_⟩⟩
  cases c1 with
  | true =>
    rw [if_pos rfl] at h2 ⊢
    exact ⟨F1, ρ1, d, ρ', ok1, h2, fun v F2 H2 ok2 st2 r2 => q v F2 H2 ok2 (st1.trans st2) (r2.pre st1)⟩
  | false =>
    rw [if_neg Bool.false_ne_true] at h2 ⊢
    cases h2
    exact q _ F1 H1 ok1 st1 rfl
theorem e_or (ha : PE X a (tE X.K O ma .fz)) (hb : PE X (.BoolOp .Or (b :: rest) pos) (tE X.K O mb .fz)) : PE X (.BoolOp .Or (a :: b :: rest) pos) (tE X.K O (mOrV ma mb) .fz) := by
  refine PEi (pe_or ha hb) fun σ H Q h => ?_
  obtain ⟨F, ρ, d, ρ', ok, hm, q⟩ := h
  obtain ⟨⟨c1, ρ1⟩, h1, h2⟩ := bind_some hm
  refine ⟨F, ρ, _, ρ1, ok, tr_some h1, fun v F1 H1 ok1 st1 r1 => ⟨c1, r1, ?_⟩⟩
  cases c1 with
  | false =>
    rw [if_neg Bool.false_ne_true] at h2 ⊢
    exact ⟨F1, ρ1, d, ρ', ok1, h2, fun v F2 H2 ok2 st2 r2 => q v F2 H2 ok2 (st1.trans st2) (r2.pre st1)⟩
  | true =>
    rw [if_pos rfl] at h2 ⊢
    cases h2
    exact q _ F1 H1 ok1 st1 rfl
theorem e_not (ha : PE X a (tE X.K O ma .fz)) : PE X (.UnaryOp .Not a pos) (tE X.K O (mNotV ma) .fz) := by
  refine PEi (pe_not ha) fun σ H Q h => ?_
  obtain ⟨F, ρ, d, ρ', ok, hm, q⟩ := h
  obtain ⟨⟨c1, ρ1⟩, h1, h2⟩ := map_some hm
  cases h2
  exact ⟨F, ρ, _, ρ1, ok, tr_some h1, fun v F1 H1 ok1 st1 r1 => ⟨c1, r1, q _ F1 H1 ok1 st1 rfl⟩⟩
/-- a if t else b -/
def mIf (t : MT) (a b : M) : M := fun ρ => (t ρ).bind fun p => if p.1 = true then a p.2 else b p.2
theorem e_if {c : Expr} (hc : PT X c (tT X.K O ta)) (ha : PE X a (tE X.K O ma k)) (hb : PE X b (tE X.K O mb k)) : PE X (.IfExp c a b pos) (tE X.K O (mIf ta ma mb) k) := by
  refine PEi (pe_ifExp hc ha hb) fun σ H Q h => ?_
  obtain ⟨F, ρ, d, ρ', ok, hm, q⟩ := h
  obtain ⟨⟨c1, ρ1⟩, h1, h2⟩ := bind_some hm
  refine ⟨F, ρ, c1, ρ1, ok, h1, fun F1 H1 ok1 st1 => ?_⟩
  cases c1 with
  | true =>
    rw [if_pos rfl] at h2 ⊢
    exact ⟨F1, ρ1, d, ρ', ok1, h2, fun v F2 H2 ok2 st2 r2 => q v F2 H2 ok2 (st1.trans st2) (r2.pre st1)⟩
  | false =>
    rw [if_neg Bool.false_ne_true] at h2 ⊢
    exact ⟨F1, ρ1, d, ρ', ok1, h2, fun v F2 H2 ok2 st2 r2 => q v F2 H2 ok2 (st1.trans st2) (r2.pre st1)⟩
end
end DL

/-! DL3: displays, operators, subscripts, built-ins on data. -/
namespace DL
open PySem PySem.Spec PyProof.Rows L2

/-! ### new objects -/
section
variable {K : PySem.W.Frag} {F H : Hp}
theorem Pur.frozen (s : Same F H) {p : Addr} (hp : H p = none) (o : HO) : Pur F H (upd F p o) (upd H p o) := by
  have fp : F p = none := s.free hp
  refine ⟨fun b u e => ?_, fun b u e => ?_, fun b u e => ?_, fun b u e f => ?_⟩
  · rw [upd_ne (ne_of_none e fp)]
    exact e
  · rw [upd_ne (ne_of_none e hp)]
    exact e
  · by_cases z : b = p
    · subst z
      rw [upd_same] at e ⊢
      exact e
    · rw [upd_ne z] at e ⊢
      exact s b u e
  · rw [upd_ne (ne_of_none e hp)]
    exact f
theorem Pur.owned (s : Same F H) {p : Addr} (hp : H p = none) (o : HO) : Pur F H F (upd H p o) := by
  refine ⟨.refl _, fun b u e => ?_, fun b u e => ?_, fun b u e f => f⟩
  · rw [upd_ne (ne_of_none e hp)]
    exact e
  · rw [upd_ne (ne_of_none e (s.free hp))]
    exact s b u e
theorem Post.now {d : D} {v : V} {Q : VK} (s : Same F H) (q : Post K F H .fz d Q) (r : Rp K F d v) : Q v H := q v F H (.refl s) r
theorem Post.tup {ds : List D} {vs : List V} {Q : VK} (s : Same F H) (q : Post K F H .fz (.tuple ds) Q) (r : RpA K F ds vs) : ∀ p, H p = none → Q (.ref p) (upd H p (.tup vs)) := fun p hp => by
  have pu := Pur.frozen s hp (.tup vs)
  exact q (.ref p) _ _ pu ⟨p, vs, rfl, .inl (.inl upd_same), r.mono pu.ex⟩
theorem Post.lst {ds : List D} {vs : List V} {Q : VK} (s : Same F H) (q : Post K F H .ow (.list ds) Q) (r : RpA K F ds vs) : ∀ p, H p = none → Q (.ref p) (upd H p (.lst vs)) := fun p hp => by
  have pu := Pur.owned s hp (.lst vs)
  exact q (.ref p) _ _ pu ⟨p, rfl, s.free hp, ⟨.lst vs, upd_same, vs, rfl, r⟩, hp⟩
theorem Post.dic {ds : List (D × D)} {vs : List (Key × V)} {Q : VK} (s : Same F H) (q : Post K F H .ow (.dict ds) Q) (r : RpD K F ds vs) : ∀ p, H p = none → Q (.ref p) (upd H p (.dK vs)) := fun p hp => by
  have pu := Pur.owned s hp (.dK vs)
  exact q (.ref p) _ _ pu ⟨p, rfl, s.free hp, ⟨.dK vs, upd_same, vs, rfl, r⟩, hp⟩
theorem VwA.one {d : D} {vs : List V} (h : VwA K F H [d] vs) : ∃ v, vs = [v] ∧ Vw K F H d v := by
  obtain ⟨v, r, e, h1, h2⟩ := h
  have h2 : r = [] := h2
  rw [h2] at e
  exact ⟨v, e, h1⟩
theorem VwA.two {d e : D} {vs : List V} (h : VwA K F H [d, e] vs) : ∃ v u, vs = [v, u] ∧ Vw K F H d v ∧ Vw K F H e u := by
  obtain ⟨v, r, e1, h1, h2⟩ := h
  obtain ⟨u, rfl, h3⟩ := h2.one
  exact ⟨v, u, e1, h1, h3⟩
theorem VwA.three {d e f : D} {vs : List V} (h : VwA K F H [d, e, f] vs) : ∃ v u t, vs = [v, u, t] ∧ Vw K F H d v ∧ Vw K F H e u ∧ Vw K F H f t := by
  obtain ⟨v, r, e1, h1, h2⟩ := h
  obtain ⟨u, t, rfl, h3, h4⟩ := h2.two
  exact ⟨v, u, t, e1, h1, h3, h4⟩
end

/-! ### displays -/
def allFz : List Ak → Bool
  | [] => true
  | k :: ks => decide (k = .fz) && allFz ks
theorem Rss.fz {K : PySem.W.Frag} {O : List Kd} {w w' : Wd} : ∀ {ks : List Ak} {ds : List D} {vs : List V}, allFz ks = true → Rss K O w w' ks ds vs → RpA K w'.F ds vs ∧ ks.length = vs.length
  | [], _, _, _, ⟨h1, h2⟩ => by
    subst h1 h2
    exact ⟨rfl, rfl⟩
  | k :: ks, _, _, h, ⟨d, ds', v, vs', h1, h2, h3, h4⟩ => by
    subst h1 h2
    have hb := Bool.and_eq_true_iff.mp (show (decide (k = .fz) && allFz ks) = true from h)
    have e := of_decide_eq_true hb.1
    subst e
    obtain ⟨r1, r2⟩ := h4.fz hb.2
    exact ⟨.cons h3 r1, by rw [List.length_cons, List.length_cons, r2]⟩
def mTup (ma : MA) : M := fun ρ => (ma ρ).map fun p => (.tuple p.1, p.2)
def mLst (ma : MA) : M := fun ρ => (ma ρ).map fun p => (.list p.1, p.2)
section
variable {X : Cx} {O : List Kd} {es : List Expr} {e a b : Expr} {ma : MA} {m mb : M} {ks : List Ak} {pos : Pos}
theorem e_tup {c} (h : PA X es (tA X.K O ma ks)) (hk : allFz ks = true := by rfl) (hn : ks.length ≤ 1000 := by decide) : PE X (.Tuple es c pos) (tE X.K O (mTup ma) .fz) := by
  refine PEi (pe_tup h) fun σ H Q q => ?_
  obtain ⟨F, ρ, d, ρ', ok, hm, q⟩ := q
  obtain ⟨⟨ds, ρ1⟩, h1, h2⟩ := map_some hm
  cases h2
  refine ⟨F, ρ, ds, ρ1, ok, h1, fun vs F1 H1 ok1 st1 r1 => ?_⟩
  obtain ⟨r, hl⟩ := r1.fz hk
  refine ⟨Nat.le_trans (by omega : vs.length ≤ 1000) (by decide), Post.tup (K := X.K) (ds := ds) ok1.sub (fun v F2 H2 pu r2 => ?_) r⟩
  obtain ⟨ok2, st2⟩ := ok1.pur pu
  exact q v F2 H2 ok2 (st1.trans st2) ((r2.rs ok1).pre st1)
theorem e_lst (h : PA X es (tA X.K O ma ks)) (hk : allFz ks = true := by rfl) (hn : ks.length ≤ 1000 := by decide) : PE X (.List es pos) (tE X.K O (mLst ma) .ow) := by
  refine PEi (pe_lst h) fun σ H Q q => ?_
  obtain ⟨F, ρ, d, ρ', ok, hm, q⟩ := q
  obtain ⟨⟨ds, ρ1⟩, h1, h2⟩ := map_some hm
  cases h2
  refine ⟨F, ρ, ds, ρ1, ok, h1, fun vs F1 H1 ok1 st1 r1 => ?_⟩
  obtain ⟨r, hl⟩ := r1.fz hk
  refine ⟨Nat.le_trans (by omega : vs.length ≤ 1000) (by decide), Post.lst (K := X.K) (ds := ds) ok1.sub (fun v F2 H2 pu r2 => ?_) r⟩
  obtain ⟨ok2, st2⟩ := ok1.pur pu
  exact q v F2 H2 ok2 (st1.trans st2) ((r2.rs ok1).pre st1)
end

/-! ### operators on ints -/
section
variable {K : PySem.W.Frag}
theorem vInt {F H : Hp} {d : D} {v : V} {i : Int} (e : d = .int i) (h : Vw K F H d v) : v = .int i := by
  subst e
  exact h
def opI (f : Int → Int → D) : List D → Option D
  | [.int i, .int j] => some (f i j)
  | _ => none
/-- .. with a condition -/
def opIc (c : Int → Int → Bool) (f : Int → Int → D) : List D → Option D
  | [.int i, .int j] => if c i j = true then some (f i j) else none
  | _ => none
theorem sI0 {g : Int → Int → V} {f : Int → Int → D} (hg : ∀ F i j, Rp K F (f i j) (g i j)) : LSem K (rL2 (rI0 g)) (opI f) .fz := by
  intro F H ds vs d Q s hv ho q
  unfold opI at ho
  split at ho
  · rename_i i j
    cases ho
    obtain ⟨v, u, e, h1, h2⟩ := hv.two
    exact ⟨v, u, e, i, j, h1, h2, q.now s (hg F i j)⟩
  · cases ho
theorem sIc {C : Int → Int → Prop} {c : Int → Int → Bool} {g : Int → Int → V} {f : Int → Int → D} (hc : ∀ i j, c i j = true → C i j) (hg : ∀ F i j, Rp K F (f i j) (g i j)) : LSem K (rL2 (rI C g)) (opIc c f) .fz := by
  intro F H ds vs d Q s hv ho q
  unfold opIc at ho
  split at ho
  · rename_i i j
    split at ho
    · rename_i hij
      cases ho
      obtain ⟨v, u, e, h1, h2⟩ := hv.two
      exact ⟨v, u, e, i, j, h1, h2, hc i j hij, q.now s (hg F i j)⟩
    · cases ho
  · cases ho
def dAdd := opI fun i j => .int (i + j)
def dSub := opI fun i j => .int (i - j)
def dMul := opIc (fun i j => decide (i.natAbs.log2 + j.natAbs.log2 < 1000000)) fun i j => .int (i * j)
def dDiv := opIc (fun i j => decide (j ≠ 0 ∧ j.natAbs < 1073741824)) fun i j => .int (i.fdiv j)
def dDivW := opIc (fun i j => decide (0 < j ∧ j.natAbs.log2 < 9000)) fun i j => .int (i / j)
def dMod := opIc (fun i j => decide (j ≠ 0)) fun i j => .int (i.fmod j)
def dPow := opIc (fun i j => decide (0 ≤ j ∧ j ≤ 1000000 ∧ i.natAbs < 2 ^ 64)) fun i j => .int (i ^ j.toNat)
def dLt := opI fun i j => .bool (decide (i < j))
def dLe := opI fun i j => .bool (decide (i ≤ j))
def dGt := opI fun i j => .bool (decide (j < i))
def dGe := opI fun i j => .bool (decide (j ≤ i))
theorem s_add : LSem K (rL2 (rI0 fun i j => .int (i + j))) dAdd .fz := sI0 fun _ _ _ => rfl
theorem s_sub : LSem K (rL2 (rI0 fun i j => .int (i - j))) dSub .fz := sI0 fun _ _ _ => rfl
theorem s_mul : LSem K (rL2 (rI CMulW fun i j => .int (i * j))) dMul .fz := sIc (fun i j h => of_decide_eq_true (p := i.natAbs.log2 + j.natAbs.log2 < 1000000) h) fun _ _ _ => rfl
theorem s_div : LSem K (rL2 (rI CDivN fun i j => .int (i.fdiv j))) dDiv .fz := sIc (fun i j h => of_decide_eq_true (p := j ≠ 0 ∧ j.natAbs < 1073741824) h) fun _ _ _ => rfl
theorem s_divW : LSem K (rL2 (rI CDivW fun i j => .int (i / j))) dDivW .fz := sIc (fun i j h => of_decide_eq_true (p := 0 < j ∧ j.natAbs.log2 < 9000) h) fun _ _ _ => rfl
theorem s_mod : LSem K (rL2 (rI (fun _ j => j ≠ 0) fun i j => .int (i.fmod j))) dMod .fz := sIc (fun _ _ h => of_decide_eq_true h) fun _ _ _ => rfl
theorem s_pow : LSem K (rL2 (rI CPow fun i j => .int (i ^ j.toNat))) dPow .fz := sIc (fun i j h => of_decide_eq_true (p := 0 ≤ j ∧ j ≤ 1000000 ∧ i.natAbs < 2 ^ 64) h) fun _ _ _ => rfl
theorem s_lt : LSem K (rL2 (rI0 fun i j => .bl (decide (i < j)))) dLt .fz := sI0 fun _ _ _ => rfl
theorem s_le : LSem K (rL2 (rI0 fun i j => .bl (decide (i ≤ j)))) dLe .fz := sI0 fun _ _ _ => rfl
theorem s_gt : LSem K (rL2 (rI0 fun i j => .bl (decide (j < i)))) dGt .fz := sI0 fun _ _ _ => rfl
theorem s_ge : LSem K (rL2 (rI0 fun i j => .bl (decide (j ≤ i)))) dGe .fz := sI0 fun _ _ _ => rfl
/-! ### == and != of data -/
mutual
theorem Rp.dp {F : Hp} : ∀ (d : D) (v : V), d.hasDict = false → Rp K F d v → Dp K F v d
  | .none, _, _, h => by
    have h : _ = V.non := h
    rw [h]
    exact .non
  | .bool b, _, _, h => by
    have h : _ = V.bl b := h
    rw [h]
    exact .bl b
  | .int i, _, _, h => by
    have h : _ = V.int i := h
    rw [h]
    exact .int i
  | .str x, _, _, h => by
    have h : _ = V.str x := h
    rw [h]
    exact .str x
  | .list ds, _, z, ⟨a, xs, e, h1, h2⟩ => by
    rw [e]
    exact .lst h1 (RpA.dp ds xs (by simpa [PyData.hasDict] using z) h2)
  | .tuple ds, _, z, ⟨a, xs, e, h1, h2⟩ => by
    rw [e]
    exact .tup h1 (RpA.dp ds xs (by simpa [PyData.hasDict] using z) h2)
  | .dict _, _, z, _ => by simp [PyData.hasDict] at z
theorem RpA.dp {F : Hp} : ∀ (ds : List D) (vs : List V), PyData.hasDictAll ds = false → RpA K F ds vs → DpAll K F vs ds
  | [], _, _, h => by
    have h : _ = [] := h
    rw [h]
    exact .nil
  | d :: ds, _, z, ⟨v, vs, e, h1, h2⟩ => by
    rw [e]
    have z2 : d.hasDict = false ∧ PyData.hasDictAll ds = false := by simpa [PyData.hasDictAll] using z
    exact .cons (Rp.dp d v z2.1 h1) (RpA.dp ds vs z2.2 h2)
end
mutual
theorem dp_mono {F H : Hp} (s : Same F H) : ∀ (d : D) (v : V), Dp K F v d → Dp K H v d
  | .none, _, h => by cases h; exact .non
  | .bool b, _, h => by cases h; exact .bl b
  | .int i, _, h => by cases h; exact .int i
  | .str x, _, h => by cases h; exact .str x
  | .list ds, _, h => by
    cases h with
    | lst h1 h2 => exact .lst (s.seq h1) (dpa_mono s ds _ h2)
  | .tuple ds, _, h => by
    cases h with
    | tup h1 h2 => exact .tup (same_sqt s h1) (dpa_mono s ds _ h2)
  | .dict _, _, h => by cases h
theorem dpa_mono {F H : Hp} (s : Same F H) : ∀ (ds : List D) (vs : List V), DpAll K F vs ds → DpAll K H vs ds
  | [], _, h => by cases h; exact .nil
  | d :: ds, _, h => by
    cases h with
    | cons h1 h2 => exact .cons (dp_mono s d _ h1) (dpa_mono s ds _ h2)
end
theorem Vw.dp {F H : Hp} (s : Same F H) : ∀ {d : D} {v : V}, d.hasDict = false → Vw K F H d v → Dp K H v d
  | .none, _, z, h => dp_mono s _ _ (Rp.dp _ _ z h)
  | .bool b, _, z, h => dp_mono s _ _ (Rp.dp _ _ z h)
  | .int i, _, z, h => dp_mono s _ _ (Rp.dp _ _ z h)
  | .str x, _, z, h => dp_mono s _ _ (Rp.dp _ _ z h)
  | .tuple ds, _, z, h => dp_mono s _ _ (Rp.dp _ _ z h)
  | .dict _, _, z, _ => by simp [PyData.hasDict] at z
  | .list ds, _, z, ⟨a, xs, e, h1, h2⟩ => by
    rw [e]
    exact .lst h1 (dpa_mono s ds xs (RpA.dp ds xs (by simpa [PyData.hasDict] using z) h2))
/-- fit for ==: no dicts, not too deep -/
def eqOk (d : D) : Bool := SeqAt.shaped d && !d.hasDict
def dEq : List D → Option D
  | [a, b] => if (eqOk a && eqOk b) = true then some (.bool (PyData.eqv a b)) else none
  | _ => none
def dNe : List D → Option D
  | [a, b] => if (eqOk a && eqOk b) = true then some (.bool (!PyData.eqv a b)) else none
  | _ => none
theorem eqOk_of {d : D} (h : eqOk d = true) : SeqAt.shaped d = true ∧ d.hasDict = false := by
  obtain ⟨h1, h2⟩ := Bool.and_eq_true_iff.mp h
  exact ⟨h1, by simpa using h2⟩
theorem s_eq : LSem K (rL2 (rEqD K)) dEq .fz := by
  intro F H ds vs d Q s hv ho q
  unfold dEq at ho
  split at ho
  · rename_i a b
    split at ho
    · rename_i h
      cases ho
      obtain ⟨v, u, e, h1, h2⟩ := hv.two
      obtain ⟨ha, hb⟩ := Bool.and_eq_true_iff.mp h
      obtain ⟨a1, a2⟩ := eqOk_of ha
      obtain ⟨b1, b2⟩ := eqOk_of hb
      exact ⟨v, u, e, a, b, h1.dp s a2, h2.dp s b2, a1, b1, q.now s rfl⟩
    · cases ho
  · cases ho
theorem s_ne : LSem K (rL2 (rNeD K)) dNe .fz := by
  intro F H ds vs d Q s hv ho q
  unfold dNe at ho
  split at ho
  · rename_i a b
    split at ho
    · rename_i h
      cases ho
      obtain ⟨v, u, e, h1, h2⟩ := hv.two
      obtain ⟨ha, hb⟩ := Bool.and_eq_true_iff.mp h
      obtain ⟨a1, a2⟩ := eqOk_of ha
      obtain ⟨b1, b2⟩ := eqOk_of hb
      exact ⟨v, u, e, a, b, h1.dp s a2, h2.dp s b2, a1, b1, q.now s rfl⟩
    · cases ho
  · cases ho
/-! ### is None -/
def dIsN : List D → Option D
  | [d, .none] => some (.bool (match d with | .none => true | _ => false))
  | _ => none
def dNotN : List D → Option D
  | [d, .none] => some (.bool (match d with | .none => false | _ => true))
  | _ => none
theorem vw_non {F H : Hp} : ∀ {d : D} {v : V}, Vw K F H d v → decide (v = V.non) = (match d with | .none => true | _ => false)
  | .none, _, h => by
    have h : _ = V.non := h
    rw [h]
    rfl
  | .bool b, _, h => by
    have h : _ = V.bl b := h
    rw [h]
    rfl
  | .int i, _, h => by
    have h : _ = V.int i := h
    rw [h]
    rfl
  | .str x, _, h => by
    have h : _ = V.str x := h
    rw [h]
    rfl
  | .list ds, _, ⟨a, xs, e, _⟩ => by
    rw [e]
    rfl
  | .tuple ds, _, ⟨a, xs, e, _⟩ => by
    rw [e]
    rfl
  | .dict ds, _, ⟨a, xs, e, _⟩ => by
    rw [e]
    rfl
theorem s_isN : LSem K (rL2 rIsN) dIsN .fz := by
  intro F H ds vs d Q s hv ho q
  unfold dIsN at ho
  split at ho
  · rename_i a
    cases ho
    obtain ⟨v, u, e, h1, h2⟩ := hv.two
    refine ⟨v, u, e, h2, q.now s ?_⟩
    show V.bl _ = V.bl _
    rw [vw_non h1]
  · cases ho
theorem s_notN : LSem K (rL2 rNotN) dNotN .fz := by
  intro F H ds vs d Q s hv ho q
  unfold dNotN at ho
  split at ho
  · rename_i a
    cases ho
    obtain ⟨v, u, e, h1, h2⟩ := hv.two
    refine ⟨v, u, e, h2, q.now s ?_⟩
    show V.bl _ = V.bl _
    rw [vw_non h1]
    cases a <;> rfl
  · cases ho
end
end DL

/-! DL4: stores, statements, loops. -/
namespace DL
open PySem PySem.Spec PyProof.Rows L2

inductive Fl where
  | nx | bk | ct | rt (d : D)
abbrev MS := En → Option (Fl × En)
abbrev MG := D → En → Option En
abbrev MI := En → Option (List D × En)

/-! ### stores -/
section
variable {K : PySem.W.Frag} {O : List Kd} {w : Wd} {i : Nat} {d : D} {v : V}
theorem set_get {α : Type} {l : List α} {i j : Nat} {a b : α} (h : (l.set i a)[j]? = some b) : (i = j ∧ b = a) ∨ (i ≠ j ∧ l[j]? = some b) := by
  by_cases e : i = j
  · subst e
    rw [List.getElem?_set] at h
    split at h
    · split at h
      · exact .inl ⟨rfl, (Option.some.inj h).symm⟩
      · cases h
    · contradiction
  · rw [List.getElem?_set_ne e] at h
    exact .inr ⟨e, h⟩
theorem own_set {p : Addr} {j : Nat} {σ : L2.St} {ρ : En} {F H F' H' : Hp} (h : OwnAt O ⟨F', H', σ.set i (some v), ρ.set i (some d)⟩ j p) : (j = i ∧ v = .ref p ∧ ∃ k : Kd, O[i]? = some k ∧ k.own = true) ∨ (j ≠ i ∧ OwnAt O ⟨F, H, σ, ρ⟩ j p) := by
  obtain ⟨k, d', h1, h2, h3, h4⟩ := h
  rcases set_get (show (σ.set i (some v))[j]? = _ from h4) with ⟨e, q⟩ | ⟨e, q⟩
  · subst e
    exact .inl ⟨rfl, (Option.some.inj q).symm, k, h1, h2⟩
  · refine .inr ⟨fun z => e z.symm, k, d', h1, h2, ?_, q⟩
    have h3 : (ρ.set i (some d))[j]? = some (some d') := h3
    rw [List.getElem?_set_ne e] at h3
    exact h3
/-- frozen data into a slot -/
theorem Ok.setFz (ok : Ok K O w) (hi : O[i]? = some Kd.fz) (r : Rp K w.F d v) : Ok K O ⟨w.F, w.H, w.σ.set i (some v), w.ρ.set i (some d)⟩ ∧ Stp O w ⟨w.F, w.H, w.σ.set i (some v), w.ρ.set i (some d)⟩ := by
  have noi : ∀ {p : Addr} {j : Nat}, OwnAt O ⟨w.F, w.H, w.σ.set i (some v), w.ρ.set i (some d)⟩ j p → OwnAt O w j p := fun {p j} h => by
    rcases own_set (F := w.F) (H := w.H) h with ⟨_, _, k, h1, h2⟩ | ⟨_, h⟩
    · rw [hi] at h1
      cases h1
      cases h2
    · exact h
  refine ⟨⟨ok.sub, by show (w.σ.set i _).length = _; rw [List.length_set]; exact ok.ls, by show (w.ρ.set i _).length = _; rw [List.length_set]; exact ok.lr, fun j d' h1 h2 => ?_, fun j k d' h1 h2 h3 => ?_, fun a b p h1 h2 => ok.ap a b p (noi h1) (noi h2)⟩,
    ⟨.refl _, fun _ _ h _ => h, fun _ _ _ _ h => h, fun b ⟨j, h⟩ => .inl ⟨j, noi h⟩, fun j k h1 h2 => ?_, fun j k h1 h2 => ?_, fun _ _ _ _ _ _ _ _ => rfl⟩⟩
  · have hl : i < w.σ.length := by
      rw [ok.ls]
      exact (List.getElem?_eq_some_iff.mp hi).1
    rcases set_get (show (w.ρ.set i (some d))[j]? = _ from h2) with ⟨e, q⟩ | ⟨e, q⟩
    · subst e
      cases q
      exact ⟨v, by show (w.σ.set i (some v))[i]? = _; rw [List.getElem?_set_self hl], r⟩
    · obtain ⟨u, g1, g2⟩ := ok.fz j d' h1 q
      exact ⟨u, by show (w.σ.set i (some v))[j]? = _; rw [List.getElem?_set_ne e]; exact g1, g2⟩
  · rcases set_get (show (w.ρ.set i (some d))[j]? = _ from h3) with ⟨e, q⟩ | ⟨e, q⟩
    · subst e
      rw [hi] at h1
      cases h1
      cases h2
    · obtain ⟨p, g1, g2⟩ := ok.ow j k d' h1 h2 q
      exact ⟨p, by show (w.σ.set i (some v))[j]? = _; rw [List.getElem?_set_ne e]; exact g1, g2⟩
  · have e : i ≠ j := fun z => by
      subst z
      rw [hi] at h1
      cases h1
      cases h2
    exact List.getElem?_set_ne e
  · have e : i ≠ j := fun z => by
      subst z
      rw [hi] at h1
      cases h1
      cases h2
    exact List.getElem?_set_ne e
/-- a new owned object into a slot -/
theorem Ok.setOw {p : Addr} (ok : Ok K O w) (hi : O[i]? = some Kd.ow) (hF : w.F p = none) (r : OwnO K w.F w.H p d) (np : ¬ Fp O w p) :
    Ok K O ⟨w.F, w.H, w.σ.set i (some (.ref p)), w.ρ.set i (some d)⟩ ∧ (∀ b, Fp O ⟨w.F, w.H, w.σ.set i (some (.ref p)), w.ρ.set i (some d)⟩ b → b = p ∨ Fp O w b) ∧
    (∀ (j : Nat) (k : Kd), O[j]? = some k → k.pin = true → (w.σ.set i (some (.ref p)))[j]? = w.σ[j]? ∧ (w.ρ.set i (some d))[j]? = w.ρ[j]?) := by
  have hl : i < w.σ.length := by
    rw [ok.ls]
    exact (List.getElem?_eq_some_iff.mp hi).1
  refine ⟨⟨ok.sub, by show (w.σ.set i _).length = _; rw [List.length_set]; exact ok.ls, by show (w.ρ.set i _).length = _; rw [List.length_set]; exact ok.lr, fun j d' h1 h2 => ?_, fun j k d' h1 h2 h3 => ?_, fun a b q h1 h2 => ?_⟩, fun b ⟨j, h⟩ => ?_, fun j k h1 h2 => ?_⟩
  · rcases set_get (show (w.ρ.set i (some d))[j]? = _ from h2) with ⟨e, q⟩ | ⟨e, q⟩
    · subst e
      rw [hi] at h1
      cases h1
    · obtain ⟨u, g1, g2⟩ := ok.fz j d' h1 q
      exact ⟨u, by show (w.σ.set i _)[j]? = _; rw [List.getElem?_set_ne e]; exact g1, g2⟩
  · rcases set_get (show (w.ρ.set i (some d))[j]? = _ from h3) with ⟨e, q⟩ | ⟨e, q⟩
    · subst e
      cases q
      exact ⟨p, by show (w.σ.set i _)[i]? = _; rw [List.getElem?_set_self hl], hF, r⟩
    · obtain ⟨c, g1, g2⟩ := ok.ow j k d' h1 h2 q
      exact ⟨c, by show (w.σ.set i _)[j]? = _; rw [List.getElem?_set_ne e]; exact g1, g2⟩
  · rcases own_set (F := w.F) (H := w.H) h1 with ⟨e1, q1, _⟩ | ⟨e1, q1⟩ <;> rcases own_set (F := w.F) (H := w.H) h2 with ⟨e2, q2, _⟩ | ⟨e2, q2⟩
    · rw [e1, e2]
    · cases q1
      exact (np ⟨b, q2⟩).elim
    · cases q2
      exact (np ⟨a, q1⟩).elim
    · exact ok.ap a b q q1 q2
  · rcases own_set (F := w.F) (H := w.H) h with ⟨_, q, _⟩ | ⟨_, q⟩
    · cases q
      exact .inl rfl
    · exact .inr ⟨j, q⟩
  · have e : i ≠ j := fun z => by
      subst z
      rw [hi] at h1
      cases h1
      cases h2
    exact ⟨List.getElem?_set_ne e, List.getElem?_set_ne e⟩
/-- an owned object changed in its place -/
theorem Ok.chg {p : Addr} {o : HO} {d0 : D} {k : Kd} (ok : Ok K O w) (hi : O[i]? = some k) (hk : k.own = true) (hl : k.lock = false) (h0 : w.ρ[i]? = some (some d0)) (hs : w.σ[i]? = some (some (.ref p))) (hF : w.F p = none) (r : OwnC K w.F o d) :
    Ok K O ⟨w.F, upd w.H p o, w.σ, w.ρ.set i (some d)⟩ ∧ Stp O w ⟨w.F, upd w.H p o, w.σ, w.ρ.set i (some d)⟩ := by
  have at_i : OwnAt O w i p := ⟨k, d0, hi, hk, h0, hs⟩
  have hlen : i < w.ρ.length := (List.getElem?_eq_some_iff.mp h0).1
  have back : ∀ {q : Addr} {j : Nat}, OwnAt O ⟨w.F, upd w.H p o, w.σ, w.ρ.set i (some d)⟩ j q → OwnAt O w j q := fun {q j} ⟨k', d', h1, h2, h3, h4⟩ => by
    rcases set_get (show (w.ρ.set i (some d))[j]? = _ from h3) with ⟨e, z⟩ | ⟨e, z⟩
    · subst e
      exact ⟨k', d0, h1, h2, h0, h4⟩
    · exact ⟨k', d', h1, h2, z, h4⟩
  refine ⟨⟨fun b u hb => ?_, ok.ls, by show (w.ρ.set i _).length = _; rw [List.length_set]; exact ok.lr, fun j d' h1 h2 => ?_, fun j k' d' h1 h2 h3 => ?_, fun a b q h1 h2 => ok.ap a b q (back h1) (back h2)⟩,
    ⟨.refl _, fun b u hb z => ?_, fun _ _ _ _ h => h, fun b ⟨j, h⟩ => .inl ⟨j, back h⟩, fun _ _ _ _ => rfl, fun j k' h1 h2 => ?_, fun j k' q d' h1 h2 h3 h4 => ?_⟩⟩
  · show upd w.H p o b = some u
    rw [upd_ne (ne_of_none hb hF)]
    exact ok.sub b u hb
  · rcases set_get (show (w.ρ.set i (some d))[j]? = _ from h2) with ⟨e, z⟩ | ⟨e, z⟩
    · subst e
      rw [hi] at h1
      cases h1
      cases hk
    · exact ok.fz j d' h1 z
  · rcases set_get (show (w.ρ.set i (some d))[j]? = _ from h3) with ⟨e, z⟩ | ⟨e, z⟩
    · subst e
      cases z
      exact ⟨p, hs, hF, o, upd_same, r⟩
    · obtain ⟨c, g1, g2, u, g3, g4⟩ := ok.ow j k' d' h1 h2 z
      have hc : c ≠ p := fun y => by
        subst y
        exact e (ok.ap i j c at_i ⟨k', d', h1, h2, z, g1⟩)
      exact ⟨c, g1, g2, u, by show upd w.H p o c = _; rw [upd_ne hc]; exact g3, g4⟩
  · show upd w.H p o b = some u
    have hc : b ≠ p := fun y => by
      subst y
      exact z ⟨i, at_i⟩
    rw [upd_ne hc]
    exact hb
  · have e : i ≠ j := fun y => by
      subst y
      rw [hi] at h1
      cases h1
      rw [hl] at h2
      cases h2
    exact List.getElem?_set_ne e
  · have hq : q ≠ p := fun y => by
      subst y
      have e := ok.ap j i q ⟨k', d', h1, Kd.own_of h2, h3, h4⟩ at_i
      subst e
      rw [hi] at h1
      cases h1
      rw [hl] at h2
      cases h2
    exact upd_ne hq
end

/-! ### targets -/
def tG (K : PySem.W.Frag) (O : List Kd) (g : MG) (is : List Nat) : TG := fun v σ H Q => ∃ F ρ d ρ', Ok K O ⟨F, H, σ, ρ⟩ ∧ Rp K F d v ∧ g d ρ = some ρ' ∧
  ∀ σ', Ok K O ⟨F, H, σ', ρ'⟩ → Stp O ⟨F, H, σ, ρ⟩ ⟨F, H, σ', ρ'⟩ → (∀ j, j ∉ is → σ'[j]? = σ[j]?) → Q σ' H
def tGs (K : PySem.W.Frag) (O : List Kd) (g : List D → En → Option En) (is : List Nat) : TGs := fun vs σ H Q => ∃ F ρ ds ρ', Ok K O ⟨F, H, σ, ρ⟩ ∧ RpA K F ds vs ∧ g ds ρ = some ρ' ∧
  ∀ σ', Ok K O ⟨F, H, σ', ρ'⟩ → Stp O ⟨F, H, σ, ρ⟩ ⟨F, H, σ', ρ'⟩ → (∀ j, j ∉ is → σ'[j]? = σ[j]?) → Q σ' H
def mgN (i : Nat) : MG := fun d ρ => some (ρ.set i (some d))
def mgNil : List D → En → Option En := fun ds ρ => match ds with
  | [] => some ρ
  | _ => none
def mgCons (g : MG) (r : List D → En → Option En) : List D → En → Option En := fun ds ρ => match ds with
  | d :: ds => (g d ρ).bind (r ds)
  | _ => none
/-- a tuple taken apart -/
def mgT (n : Nat) (r : List D → En → Option En) : MG := fun d ρ => match d with
  | .tuple ds => if ds.length = n then r ds ρ else none
  | _ => none
/-- a list taken apart -/
def mgL (n : Nat) (r : List D → En → Option En) : MG := fun d ρ => match d with
  | .list ds => if ds.length = n then r ds ρ else none
  | _ => none
section
variable {X : Cx} {O : List Kd} {e : Expr} {es : List Expr} {x : Str} {pos : Pos} {g : MG} {gs : List D → En → Option En} {is js : List Nat}
theorem PGi {t t' : TG} {tg : Expr} (h : PG X tg t) (k : ∀ v σ H Q, t' v σ H Q → t v σ H Q) : PG X tg t' := ⟨fun pins s σ H v u Q I r q => h.run pins s σ H v u Q I r (k v σ H Q q)⟩
theorem PGsi {t t' : TGs} {tg : List Expr} (h : PGs X tg t) (k : ∀ v σ H Q, t' v σ H Q → t v σ H Q) : PGs X tg t' := ⟨fun pins s σ H v u Q I r q => h.run pins s σ H v u Q I r (k v σ H Q q)⟩
theorem g_name (i : Nat) (hN : X.N.Nodup) (hO : O[i]? = some Kd.fz := by rfl) (hi : X.N[i]? = some x := by rfl) (hx : Loc X.env.scope x := by first | exact Or.inl rfl | exact Or.inr rfl) (hf : X.fn x = true ∨ X.env.scope.names.lookup x = some .local := by first | exact .inl rfl | exact .inr rfl | assumption) :
    PG X (.Name x pos) (tG X.K O (mgN i) [i]) := by
  refine PGi (pg_name hN hi hx hf) fun v σ H Q q => ?_
  obtain ⟨F, ρ, d, ρ', ok, r, hg, k⟩ := q
  cases hg
  obtain ⟨h1, h2⟩ := ok.setFz hO r
  exact k _ h1 h2 fun j hj => List.getElem?_set_ne fun e => hj (by rw [e]; exact List.mem_singleton.mpr rfl)
theorem gs_nil : PGs X [] (tGs X.K O mgNil []) := by
  refine PGsi pgs_nil fun v σ H Q q => ?_
  obtain ⟨F, ρ, ds, ρ', ok, r, hg, k⟩ := q
  cases ds with
  | nil =>
    cases hg
    exact ⟨r, k σ ok (.refl _ _) fun _ _ => rfl⟩
  | cons d ds => cases hg
theorem gs_cons (h1 : PG X e (tG X.K O g is)) (h2 : PGs X es (tGs X.K O gs js)) (hs : (assignEach (e :: es) X.env).map (·.2) = assign e X.env :: (assignEach es X.env).map (·.2) := by rfl) : PGs X (e :: es) (tGs X.K O (mgCons g gs) (is ++ js)) := by
  refine PGsi (pgs_cons h1 h2 hs) fun v σ H Q q => ?_
  obtain ⟨F, ρ, ds, ρ', ok, r, hg, k⟩ := q
  cases ds with
  | nil => cases hg
  | cons d ds =>
    obtain ⟨v1, vs, e1, r1, r2⟩ := r
    obtain ⟨ρ1, g1, g2⟩ := bind_some hg
    refine ⟨v1, vs, e1, F, ρ, d, ρ1, ok, r1, g1, fun σ1 ok1 st1 c1 => ⟨F, ρ1, ds, ρ', ok1, r2, g2, fun σ2 ok2 st2 c2 => k σ2 ok2 (st1.trans st2) fun j hj => ?_⟩⟩
    rw [c2 j fun z => hj (List.mem_append_right _ z), c1 j fun z => hj (List.mem_append_left _ z)]
theorem g_tup {n c : Nat} (hc : X.calm = true) (h : PGs X es (tGs X.K O gs is)) (hn : (assignEach es X.env).length = n := by rfl) (hst : (assignEach es X.env).findIdx? (·.1) = none := by rfl) : PG X (.Tuple es c pos) (tG X.K O (mgT n gs) is) := by
  refine PGi (pg_tup hc h hn hst) fun v σ H Q q => ?_
  obtain ⟨F, ρ, d, ρ', ok, r, hg, k⟩ := q
  unfold mgT at hg
  split at hg
  · rename_i ds
    split at hg
    · rename_i hl
      obtain ⟨a, xs, e1, h1, h2⟩ := r
      exact ⟨a, xs, e1, same_sqt ok.sub h1, by rw [h2.length]; exact hl, F, ρ, ds, ρ', ok, h2, hg, k⟩
    · cases hg
  · cases hg
theorem g_unl {n c : Nat} (hc : X.calm = true) (h : PGs X es (tGs X.K O gs is)) (hn : (assignEach es X.env).length = n := by rfl) (hst : (assignEach es X.env).findIdx? (·.1) = none := by rfl) : PG X (.Tuple es c pos) (tG X.K O (mgL n gs) is) := by
  refine PGi (pg_unl hc h hn hst) fun v σ H Q q => ?_
  obtain ⟨F, ρ, d, ρ', ok, r, hg, k⟩ := q
  unfold mgL at hg
  split at hg
  · rename_i ds
    split at hg
    · rename_i hl
      obtain ⟨a, xs, e1, h1, h2⟩ := r
      exact ⟨a, xs, e1, ok.sub.seq h1, by rw [h2.length]; exact hl, F, ρ, ds, ρ', ok, h2, hg, k⟩
    · cases hg
  · cases hg
end

/-! ### statements -/
def tS (K : PySem.W.Frag) (O : List Kd) (m : MS) (r : Ak) : TS := fun Dn σ H => ∃ F ρ fl ρ', Ok K O ⟨F, H, σ, ρ⟩ ∧ m ρ = some (fl, ρ') ∧ (match fl with
  | .nx => ∀ σ' F' H', Ok K O ⟨F', H', σ', ρ'⟩ → Stp O ⟨F, H, σ, ρ⟩ ⟨F', H', σ', ρ'⟩ → Dn.nx σ' H'
  | .bk => ∀ σ' F' H', Ok K O ⟨F', H', σ', ρ'⟩ → Stp O ⟨F, H, σ, ρ⟩ ⟨F', H', σ', ρ'⟩ → Dn.bk σ' H'
  | .ct => ∀ σ' F' H', Ok K O ⟨F', H', σ', ρ'⟩ → Stp O ⟨F, H, σ, ρ⟩ ⟨F', H', σ', ρ'⟩ → Dn.ct σ' H'
  | .rt d => ∀ v σ' F' H', Ok K O ⟨F', H', σ', ρ'⟩ → Stp O ⟨F, H, σ, ρ⟩ ⟨F', H', σ', ρ'⟩ → Rs K O ⟨F, H, σ, ρ⟩ ⟨F', H', σ', ρ'⟩ r d v → Dn.rt v H')
theorem PSi {X : Cx} {st : Stmt} {t t' : TS} (h : PS X st t) (k : ∀ Dn σ H, t' Dn σ H → t Dn σ H) : PS X st t' := ⟨fun pins s σ H Dn I q => h.run pins s σ H Dn I (k Dn σ H q)⟩
theorem PSsi {X : Cx} {st : List Stmt} {t t' : TS} (h : PSs X st t) (k : ∀ Dn σ H, t' Dn σ H → t Dn σ H) : PSs X st t' := ⟨fun pins s σ H Dn I q => h.run pins s σ H Dn I (k Dn σ H q)⟩
def mSkip : MS := fun ρ => some (.nx, ρ)
def mBreak : MS := fun ρ => some (.bk, ρ)
def mCont : MS := fun ρ => some (.ct, ρ)
def mSeq (a b : MS) : MS := fun ρ => (a ρ).bind fun p => match p.1 with
  | .nx => b p.2
  | f => some (f, p.2)
def mDrop (m : M) : MS := fun ρ => (m ρ).map fun p => (.nx, p.2)
def mRet (m : M) : MS := fun ρ => (m ρ).map fun p => (.rt p.1, p.2)
def mIte (c : MT) (a b : MS) : MS := fun ρ => (c ρ).bind fun p => if p.1 = true then a p.2 else b p.2
def mSet (i : Nat) (m : M) : MS := fun ρ => (m ρ).map fun p => (.nx, p.2.set i (some p.1))
def mAsg (g : MG) (m : M) : MS := fun ρ => (m ρ).bind fun p => (g p.1 p.2).map fun ρ' => (.nx, ρ')
/-- never come to -/
def mNever : MS := fun _ => none
section
variable {X : Cx} {O : List Kd} {r : Ak} {st : Stmt} {rest : List Stmt} {e : Expr} {m : M} {a b : MS} {c : MT} {k : Ak} {pos : Pos} {x : Str} {i : Nat} {g : MG} {is : List Nat}
theorem s_nil : PSs X [] (tS X.K O mSkip r) := PSsi pss_nil fun Dn σ H ⟨F, ρ, fl, ρ', ok, hm, q⟩ => by
  cases hm
  exact q σ F H ok (.refl _ _)
theorem s_pass : PS X (.Pass pos) (tS X.K O mSkip r) := PSi ps_pass fun Dn σ H ⟨F, ρ, fl, ρ', ok, hm, q⟩ => by
  cases hm
  exact q σ F H ok (.refl _ _)
theorem s_break : PS X (.Break pos) (tS X.K O mBreak r) := PSi ps_break fun Dn σ H ⟨F, ρ, fl, ρ', ok, hm, q⟩ => by
  cases hm
  exact q σ F H ok (.refl _ _)
theorem s_continue : PS X (.Continue pos) (tS X.K O mCont r) := PSi ps_continue fun Dn σ H ⟨F, ρ, fl, ρ', ok, hm, q⟩ => by
  cases hm
  exact q σ F H ok (.refl _ _)
theorem s_never : PS X st (tS X.K O mNever r) := PSi ps_never fun Dn σ H ⟨F, ρ, fl, ρ', ok, hm, q⟩ => by cases hm
theorem Rs.prew {K : PySem.W.Frag} {w w1 w2 : Wd} {d : D} {v : V} (a : Stp O w w1) (h : Rs K O w1 w2 k d v) : Rs K O w w2 k d v := h.pre a
theorem s_cons (h1 : PS X st (tS X.K O a r)) (h2 : PSs X rest (tS X.K O b r)) : PSs X (st :: rest) (tS X.K O (mSeq a b) r) := by
  refine PSsi (pss_cons h1 h2) fun Dn σ H ⟨F, ρ, fl, ρ', ok, hm, q⟩ => ?_
  obtain ⟨⟨f1, ρ1⟩, e1, e2⟩ := bind_some hm
  refine ⟨F, ρ, f1, ρ1, ok, e1, ?_⟩
  cases f1 with
  | nx =>
    intro σ1 F1 H1 ok1 st1
    refine ⟨F1, ρ1, fl, ρ', ok1, e2, ?_⟩
    cases fl with
    | nx => exact fun σ2 F2 H2 ok2 st2 => q σ2 F2 H2 ok2 (st1.trans st2)
    | bk => exact fun σ2 F2 H2 ok2 st2 => q σ2 F2 H2 ok2 (st1.trans st2)
    | ct => exact fun σ2 F2 H2 ok2 st2 => q σ2 F2 H2 ok2 (st1.trans st2)
    | rt d => exact fun v σ2 F2 H2 ok2 st2 r2 => q v σ2 F2 H2 ok2 (st1.trans st2) (r2.pre st1)
  | bk =>
    cases e2
    exact q
  | ct =>
    cases e2
    exact q
  | rt d =>
    cases e2
    exact q
theorem s_one (h1 : PS X st (tS X.K O a r)) : PSs X [st] (tS X.K O a r) := pss_one h1
theorem s_expr (h : PE X e (tE X.K O m k)) (hs : swapsWith e none pos.line X.env = pure false := by rfl) : PS X (.Expr e pos) (tS X.K O (mDrop m) r) := by
  refine PSi (ps_expr h hs) fun Dn σ H ⟨F, ρ, fl, ρ', ok, hm, q⟩ => ?_
  obtain ⟨⟨d, ρ1⟩, e1, e2⟩ := map_some hm
  cases e2
  exact ⟨F, ρ, d, ρ1, ok, e1, fun v F1 H1 ok1 st1 _ => q σ F1 H1 ok1 st1⟩
theorem s_ret (h : PE X e (tE X.K O m r)) : PS X (.Return (some e) pos) (tS X.K O (mRet m) r) := by
  refine PSi (ps_ret h) fun Dn σ H ⟨F, ρ, fl, ρ', ok, hm, q⟩ => ?_
  obtain ⟨⟨d, ρ1⟩, e1, e2⟩ := map_some hm
  cases e2
  exact ⟨F, ρ, d, ρ1, ok, e1, fun v F1 H1 ok1 st1 r1 => q v σ F1 H1 ok1 st1 r1⟩
theorem s_retN : PS X (.Return none pos) (tS X.K O (mRet (mC .none)) .fz) := PSi ps_retN fun Dn σ H ⟨F, ρ, fl, ρ', ok, hm, q⟩ => by
  cases hm
  exact q .non σ F H ok (.refl _ _) rfl
theorem s_if {tc : Expr} {sa sb : List Stmt} (hc : PT X tc (tT X.K O c)) (ha : PSs X sa (tS X.K O a r)) (hb : PSs X sb (tS X.K O b r)) : PS X (.If tc sa sb pos) (tS X.K O (mIte c a b) r) := by
  refine PSi (ps_if hc ha hb) fun Dn σ H ⟨F, ρ, fl, ρ', ok, hm, q⟩ => ?_
  obtain ⟨⟨t, ρ1⟩, e1, e2⟩ := bind_some hm
  refine ⟨F, ρ, t, ρ1, ok, e1, fun F1 H1 ok1 st1 => ?_⟩
  cases t with
  | true =>
    rw [if_pos rfl] at e2 ⊢
    refine ⟨F1, ρ1, fl, ρ', ok1, e2, ?_⟩
    cases fl with
    | nx => exact fun σ2 F2 H2 ok2 st2 => q σ2 F2 H2 ok2 (st1.trans st2)
    | bk => exact fun σ2 F2 H2 ok2 st2 => q σ2 F2 H2 ok2 (st1.trans st2)
    | ct => exact fun σ2 F2 H2 ok2 st2 => q σ2 F2 H2 ok2 (st1.trans st2)
    | rt d => exact fun v σ2 F2 H2 ok2 st2 r2 => q v σ2 F2 H2 ok2 (st1.trans st2) (r2.pre st1)
  | false =>
    rw [if_neg Bool.false_ne_true] at e2 ⊢
    refine ⟨F1, ρ1, fl, ρ', ok1, e2, ?_⟩
    cases fl with
    | nx => exact fun σ2 F2 H2 ok2 st2 => q σ2 F2 H2 ok2 (st1.trans st2)
    | bk => exact fun σ2 F2 H2 ok2 st2 => q σ2 F2 H2 ok2 (st1.trans st2)
    | ct => exact fun σ2 F2 H2 ok2 st2 => q σ2 F2 H2 ok2 (st1.trans st2)
    | rt d => exact fun v σ2 F2 H2 ok2 st2 r2 => q v σ2 F2 H2 ok2 (st1.trans st2) (r2.pre st1)
theorem asgFz {K : PySem.W.Frag} {Dn : Ends} {σ : L2.St} {H : Hp} (hO : O[i]? = some Kd.fz) (h : tS K O (mSet i m) r Dn σ H) : tAsg (tE K O m .fz) (gName i) Dn σ H := by
  obtain ⟨F, ρ, fl, ρ', ok, hm, q⟩ := h
  obtain ⟨⟨d, ρ1⟩, e1, e2⟩ := map_some hm
  cases e2
  refine ⟨F, ρ, d, ρ1, ok, e1, fun v F1 H1 ok1 st1 r1 => ?_⟩
  obtain ⟨h1, h2⟩ := ok1.setFz hO r1
  exact q _ F1 H1 h1 (st1.trans h2)
theorem asgOw {K : PySem.W.Frag} {Dn : Ends} {σ : L2.St} {H : Hp} (hO : O[i]? = some Kd.ow) (h : tS K O (mSet i m) r Dn σ H) : tAsg (tE K O m .ow) (gName i) Dn σ H := by
  obtain ⟨F, ρ, fl, ρ', ok, hm, q⟩ := h
  obtain ⟨⟨d, ρ1⟩, e1, e2⟩ := map_some hm
  cases e2
  refine ⟨F, ρ, d, ρ1, ok, e1, fun v F1 H1 ok1 st1 r1 => ?_⟩
  obtain ⟨p, rfl, r1, r2, r3, r4⟩ := r1
  obtain ⟨h1, h2, h3⟩ := ok1.setOw (p := p) hO r1 r2 r3
  refine q _ F1 H1 h1 ⟨st1.ex, st1.kp, st1.nw, fun b hb => ?_, fun j kk g1 g2 => (h3 j kk g1 g2).1.trans (st1.pn j kk g1 g2), fun j kk g1 g2 => ?_, st1.lo⟩
  · rcases h2 b hb with z | z
    · rw [z]
      exact r4
    · exact st1.fp b z
  · have gp : kk.pin = true := by
      cases kk <;> first | rfl | cases g2
    exact (h3 j kk g1 gp).2.trans (st1.lk j kk g1 g2)
theorem s_setF (i : Nat) {pos' : Pos} (hN : X.N.Nodup) (he : PE X e (tE X.K O m .fz)) (hO : O[i]? = some Kd.fz := by rfl) (hi : X.N[i]? = some x := by rfl) (hx : Loc X.env.scope x := by first | exact Or.inl rfl | exact Or.inr rfl) (hs : swapsWith e (some (.Name x pos')) pos.line X.env = pure false := by rfl) (hf : X.fn x = true ∨ X.env.scope.names.lookup x = some .local := by first | exact .inl rfl | exact .inr rfl | assumption) :
    PS X (.Assign [.Name x pos'] e pos) (tS X.K O (mSet i m) r) := PSi (ps_set hN hi hx he hs hf) fun _ _ _ h => asgFz hO h
theorem s_setO (i : Nat) {pos' : Pos} (hN : X.N.Nodup) (he : PE X e (tE X.K O m .ow)) (hO : O[i]? = some Kd.ow := by rfl) (hi : X.N[i]? = some x := by rfl) (hx : Loc X.env.scope x := by first | exact Or.inl rfl | exact Or.inr rfl) (hs : swapsWith e (some (.Name x pos')) pos.line X.env = pure false := by rfl) (hf : X.fn x = true ∨ X.env.scope.names.lookup x = some .local := by first | exact .inl rfl | exact .inr rfl | assumption) :
    PS X (.Assign [.Name x pos'] e pos) (tS X.K O (mSet i m) r) := PSi (ps_set hN hi hx he hs hf) fun _ _ _ h => asgOw hO h
/-- a target of any form -/
theorem s_asg {tg : Expr} (he : PE X e (tE X.K O m .fz)) (hg : PG X tg (tG X.K O g is)) (hs : swapsWithSole [tg] e pos.line X.env = pure false := by rfl) (hw : swappedStores [tg] e X.env = pure none := by rfl)
    (h1 : (assignEach [tg] X.env).map (·.2) = [assign tg X.env] := by rfl) : PS X (.Assign [tg] e pos) (tS X.K O (mAsg g m) r) := by
  refine PSi (ps_asg he hg hs hw h1) fun Dn σ H ⟨F, ρ, fl, ρ', ok, hm, q⟩ => ?_
  obtain ⟨⟨d, ρ1⟩, e1, e2⟩ := bind_some hm
  obtain ⟨ρ2, e3, e4⟩ := map_some e2
  cases e4
  exact ⟨F, ρ, d, ρ1, ok, e1, fun v F1 H1 ok1 st1 r1 => ⟨F1, ρ1, d, ρ', ok1, r1, e3, fun σ2 ok2 st2 _ => q σ2 F1 H1 ok2 (st1.trans st2)⟩⟩
/-- x op= e on frozen values -/
def mAug (i : Nat) (m : M) (op : List D → Option D) : MS := fun ρ => match ρ[i]? with
  | some (some d) => (m ρ).bind fun p => (op [d, p.1]).map fun z => (.nx, p.2.set i (some z))
  | _ => none
theorem s_aug (i : Nat) {bo : Operator} {rr : R2} {op : List D → Option D} {pos' : Pos} (hN : X.N.Nodup) (ho : OpR X (inplaceOp bo) rr) (hl : LSem X.K (rL2 rr) op .fz) (he : PE X e (tE X.K O m .fz)) (hO : O[i]? = some Kd.fz := by rfl) (hi : X.N[i]? = some x := by rfl) (hx : Loc X.env.scope x := by first | exact Or.inl rfl | exact Or.inr rfl)
    (hf : X.fn x = true ∨ X.env.scope.names.lookup x = some .local := by first | exact .inl rfl | exact .inr rfl | assumption) : PS X (.AugAssign (.Name x pos') bo e pos) (tS X.K O (mAug i m op) r) := by
  refine PSi (ps_aug hN hi hx he (fun pins s σ H x y v u Q I rx ry h => ho pins s σ H x y v u Q I rx ry h) hf) fun Dn σ H ⟨F, ρ, fl, ρ', ok, hm, q⟩ => ?_
  obtain ⟨d, e1, e2⟩ := slot_some hm
  obtain ⟨⟨d2, ρ1⟩, e3, e4⟩ := bind_some e2
  obtain ⟨z, e5, e6⟩ := map_some e4
  cases e6
  obtain ⟨v, g1, g2⟩ := ok.fz i d hO e1
  refine ⟨v, g1, F, ρ, d2, ρ1, ok, e3, fun u F1 H1 ok1 st1 r1 => ?_⟩
  have key : rL2 rr [v, u] H1 fun zv H2 => Dn.nx (σ.set i (some zv)) H2 := by
    refine hl F1 H1 [d, d2] [v, u] z _ ok1.sub ⟨v, [u], rfl, Rp.vw ok1.sub (g2.mono st1.ex), u, [], rfl, Rp.vw ok1.sub r1, rfl⟩ e5 fun zv F2 H2 pu r2 => ?_
    obtain ⟨ok2, st2⟩ := ok1.pur pu
    obtain ⟨h1, h2⟩ := ok2.setFz hO r2
    exact q _ F2 H2 h1 ((st1.trans st2).trans h2)
  obtain ⟨x', y', ee, kk⟩ := key
  cases ee
  exact kk
end
end DL

/-! DL5: what is walked, for, while. -/
namespace DL
open PySem PySem.Spec PyProof.Rows L2

/-! ### slots lent for the time of a loop -/
def lkOf : List Kd → List Kd → Bool
  | [], [] => true
  | a :: as, b :: bs => (decide (a = b) || (decide (a = .ow) && decide (b = .lk)) || (decide (a = .io) && decide (b = .li))) && lkOf as bs
  | _, _ => false
def Lk1 (a b : Kd) : Prop := a = b ∨ (a = .ow ∧ b = .lk) ∨ (a = .io ∧ b = .li)
theorem lk_get : ∀ {O L : List Kd} {i : Nat}, lkOf O L = true → (∀ a, O[i]? = some a → ∃ b, L[i]? = some b ∧ Lk1 a b) ∧ (∀ b, L[i]? = some b → ∃ a, O[i]? = some a ∧ Lk1 a b)
  | [], [], i, _ => ⟨fun a h => by simp at h, fun b h => by simp at h⟩
  | a :: as, b :: bs, i, h => by
    obtain ⟨h1, h2⟩ := Bool.and_eq_true_iff.mp (show (_ && lkOf as bs) = true from h)
    have e : Lk1 a b := by
      unfold Lk1
      simpa [or_assoc] using h1
    cases i with
    | zero =>
      refine ⟨fun c hc => ?_, fun c hc => ?_⟩
      · have hc : a = c := by simpa using hc
        subst hc
        exact ⟨b, by simp, e⟩
      · have hc : b = c := by simpa using hc
        subst hc
        exact ⟨a, by simp, e⟩
    | succ i =>
      have q := lk_get (i := i) h2
      simpa using q
  | [], b :: bs, _, h => by cases h
  | a :: as, [], _, h => by cases h
theorem lk_len : ∀ {O L : List Kd}, lkOf O L = true → O.length = L.length
  | [], [], _ => rfl
  | a :: as, b :: bs, h => by
    obtain ⟨h1, h2⟩ := Bool.and_eq_true_iff.mp (show (_ && lkOf as bs) = true from h)
    rw [List.length_cons, List.length_cons, lk_len h2]
  | [], b :: bs, h => by cases h
  | a :: as, [], h => by cases h
theorem Lk1.own {a b : Kd} (h : Lk1 a b) : a.own = b.own := by
  rcases h with h | ⟨h1, h2⟩ | ⟨h1, h2⟩
  · rw [h]
  · rw [h1, h2] <;> rfl
  · rw [h1, h2] <;> rfl
theorem Lk1.pin {a b : Kd} (h : Lk1 a b) (p : a.pin = true) : b.pin = true := by
  rcases h with h | ⟨h1, h2⟩ | ⟨h1, h2⟩
  · rw [← h]
    exact p
  · rw [h2] <;> rfl
  · rw [h2] <;> rfl
theorem Lk1.lock {a b : Kd} (h : Lk1 a b) (p : a.lock = true) : b.lock = true := by
  rcases h with h | ⟨h1, h2⟩ | ⟨h1, h2⟩
  · rw [← h]
    exact p
  · rw [h2] <;> rfl
  · rw [h2] <;> rfl
section
variable {K : PySem.W.Frag} {O L : List Kd} {w w' : Wd}
theorem lk_at (hl : lkOf O L = true) {i : Nat} {p : Addr} : OwnAt L w i p ↔ OwnAt O w i p := by
  constructor
  · rintro ⟨k, d, h1, h2, h3, h4⟩
    obtain ⟨a, g1, g2⟩ := (lk_get hl).2 k h1
    exact ⟨a, d, g1, g2.own.trans h2, h3, h4⟩
  · rintro ⟨k, d, h1, h2, h3, h4⟩
    obtain ⟨a, g1, g2⟩ := (lk_get hl).1 k h1
    exact ⟨a, d, g1, g2.own.symm.trans h2, h3, h4⟩
theorem lk_fp (hl : lkOf O L = true) {p : Addr} : Fp L w p ↔ Fp O w p :=
  ⟨fun ⟨i, h⟩ => ⟨i, (lk_at hl).mp h⟩, fun ⟨i, h⟩ => ⟨i, (lk_at hl).mpr h⟩⟩
theorem Ok.lock (hl : lkOf O L = true) (ok : Ok K O w) : Ok K L w := by
  refine ⟨ok.sub, ok.ls.trans (lk_len hl), ok.lr.trans (lk_len hl), fun i d h1 h2 => ?_, fun i k d h1 h2 h3 => ?_, fun i j p h1 h2 => ok.ap i j p ((lk_at hl).mp h1) ((lk_at hl).mp h2)⟩
  · obtain ⟨a, g1, g2⟩ := (lk_get hl).2 _ h1
    rcases g2 with g2 | ⟨g2, g3⟩ | ⟨g2, g3⟩
    · rw [g2] at g1
      exact ok.fz i d g1 h2
    · cases g3
    · cases g3
  · obtain ⟨a, g1, g2⟩ := (lk_get hl).2 _ h1
    exact ok.ow i a d g1 (g2.own.trans h2) h3
theorem Ok.unlock (hl : lkOf O L = true) (ok : Ok K L w) : Ok K O w := by
  refine ⟨ok.sub, ok.ls.trans (lk_len hl).symm, ok.lr.trans (lk_len hl).symm, fun i d h1 h2 => ?_, fun i k d h1 h2 h3 => ?_, fun i j p h1 h2 => ok.ap i j p ((lk_at hl).mpr h1) ((lk_at hl).mpr h2)⟩
  · obtain ⟨a, g1, g2⟩ := (lk_get hl).1 _ h1
    rcases g2 with g2 | ⟨g2, g3⟩ | ⟨g2, g3⟩
    · rw [← g2] at g1
      exact ok.fz i d g1 h2
    · cases g2
    · cases g2
  · obtain ⟨a, g1, g2⟩ := (lk_get hl).1 _ h1
    exact ok.ow i a d g1 (g2.own.symm.trans h2) h3
theorem Stp.unlock (hl : lkOf O L = true) (st : Stp L w w') : Stp O w w' where
  ex := st.ex
  kp := fun b o h z => st.kp b o h fun q => z ((lk_fp hl).mp q)
  nw := fun b o h z => st.nw b o h fun q => z ((lk_fp hl).mp q)
  fp := fun b h => by
    rcases st.fp b ((lk_fp hl).mpr h) with q | q
    · exact .inl ((lk_fp hl).mp q)
    · exact .inr q
  pn := fun i k h1 h2 => by
    obtain ⟨a, g1, g2⟩ := (lk_get hl).1 k h1
    exact st.pn i a g1 (g2.pin h2)
  lk := fun i k h1 h2 => by
    obtain ⟨a, g1, g2⟩ := (lk_get hl).1 k h1
    exact st.lk i a g1 (g2.lock h2)
  lo := fun i k p d h1 h2 => by
    obtain ⟨a, g1, g2⟩ := (lk_get hl).1 k h1
    exact st.lo i a p d g1 (g2.lock h2)
theorem Rs.unlock (hl : lkOf O L = true) {k : Ak} {d : D} {v : V} (h : Rs K L w w' k d v) : Rs K O w w' k d v := by
  cases k with
  | fz => exact h
  | ow =>
    obtain ⟨p, e, h1, h2, h3, h4⟩ := h
    refine ⟨p, e, h1, h2, fun z => h3 ((lk_fp hl).mpr z), ?_⟩
    rcases h4 with h4 | h4
    · exact .inl ((lk_fp hl).mp h4)
    · exact .inr h4
  | br i =>
    obtain ⟨h1, q, h2, h3⟩ := h
    obtain ⟨a, g1, g2⟩ := (lk_get hl).2 q h2
    exact ⟨h1, a, g1, g2.own.trans h3⟩
theorem lk_refl : ∀ O : List Kd, lkOf O O = true
  | [] => rfl
  | a :: as => by
    show ((decide (a = a) || _ || _) && lkOf as as) = true
    rw [lk_refl as, decide_eq_true rfl] <;> rfl
end

/-! ### what is walked -/
/-- the turn i gives the i-th of ds -/
def YD (K : PySem.W.Frag) (F0 : Hp) (ds : List D) : Nat → Hp → V → Hp → Prop := fun i H x H' => ∀ F, Same F0 F → Same F H → ∃ F', Pur F H F' H' ∧ ∃ d, ds[i]? = some d ∧ Rp K F' d x
/-- a step, but for what Z tells -/
structure Stq (O : List Kd) (Z : Addr → Prop) (w w' : Wd) : Prop where
  ex : Same w.F w'.F
  kp : ∀ b o, ¬ Z b → w.H b = some o → ¬ Fp O w b → w'.H b = some o ∧ ¬ Fp O w' b
  pn : ∀ (i : Nat) (k : Kd), O[i]? = some k → k.pin = true → w'.σ[i]? = w.σ[i]?
  lk : ∀ (i : Nat) (k : Kd), O[i]? = some k → k.lock = true → w'.ρ[i]? = w.ρ[i]?
  lo : ∀ (i : Nat) (k : Kd) (p : Addr) (d : D), O[i]? = some k → k.lock = true → w.ρ[i]? = some (some d) → w.σ[i]? = some (some (.ref p)) → w'.H p = w.H p
theorem Stp.q {O : List Kd} {w w' : Wd} (st : Stp O w w') (Z : Addr → Prop) : Stq O Z w w' := ⟨st.ex, fun b o _ h n => ⟨st.kp b o h n, st.nofp h n⟩, st.pn, st.lk, st.lo⟩
theorem Stq.step {O : List Kd} {Z : Addr → Prop} {w w1 w2 : Wd} (a : Stq O Z w w1) (b : Stp O w1 w2) : Stq O Z w w2 where
  ex := a.ex.trans b.ex
  kp := fun c o z h n => by
    obtain ⟨h1, h2⟩ := a.kp c o z h n
    exact ⟨b.kp c o h1 h2, b.nofp h1 h2⟩
  pn := fun i k h1 h2 => (b.pn i k h1 h2).trans (a.pn i k h1 h2)
  lk := fun i k h1 h2 => (b.lk i k h1 h2).trans (a.lk i k h1 h2)
  lo := fun i k p d h1 h2 h3 h4 => (b.lo i k p d h1 h2 ((a.lk i k h1 h2).trans h3) ((a.pn i k h1 (Kd.pin_of h2)).trans h4)).trans (a.lo i k p d h1 h2 h3 h4)
theorem Stq.unlock {K : PySem.W.Frag} {O L : List Kd} {Z : Addr → Prop} {w w' : Wd} (hl : lkOf O L = true) (st : Stq L Z w w') : Stq O Z w w' where
  ex := st.ex
  kp := fun b o z h n => by
    obtain ⟨h1, h2⟩ := st.kp b o z h fun q => n ((lk_fp hl).mp q)
    exact ⟨h1, fun q => h2 ((lk_fp hl).mpr q)⟩
  pn := fun i k h1 h2 => by
    obtain ⟨a, g1, g2⟩ := (lk_get hl).1 k h1
    exact st.pn i a g1 (g2.pin h2)
  lk := fun i k h1 h2 => by
    obtain ⟨a, g1, g2⟩ := (lk_get hl).1 k h1
    exact st.lk i a g1 (g2.lock h2)
  lo := fun i k p d h1 h2 => by
    obtain ⟨a, g1, g2⟩ := (lk_get hl).1 k h1
    exact st.lo i a p d g1 (g2.lock h2)
/-- what Z may tell of: there at the start, neither frozen nor a slot's -/
def Zok (O : List Kd) (w : Wd) (Z : Addr → Prop) : Prop := ∀ b, Z b → (∃ o, w.H b = some o) ∧ w.F b = none ∧ ¬ Fp O w b
def Zno : Addr → Prop := fun _ => False
theorem zno {O : List Kd} {w : Wd} : Zok O w Zno := fun _ h => h.elim
def tI (K : PySem.W.Frag) (O L : List Kd) (m : MI) : TI := fun σ H R => ∃ F ρ ds ρ', Ok K O ⟨F, H, σ, ρ⟩ ∧ m ρ = some (ds, ρ') ∧
  ∀ J F' H' G, Ok K O ⟨F', H', σ, ρ'⟩ → Stp O ⟨F, H, σ, ρ⟩ ⟨F', H', σ, ρ'⟩ → Walk J ds.length G (YD K F' ds) → (∀ Z, Zok O ⟨F, H, σ, ρ⟩ Z → ∀ w2, Ok K L w2 → Stq L Z ⟨F', H', σ, ρ'⟩ w2 → G w2.H) → R J H'
def mForL : List D → MG → MS → MS
  | [], _, _ => fun ρ => some (.nx, ρ)
  | d :: ds, g, b => fun ρ => (g d ρ).bind fun ρ1 => (b ρ1).bind fun p => match p.1 with
    | .nx => mForL ds g b p.2
    | .ct => mForL ds g b p.2
    | .bk => some (.nx, p.2)
    | .rt d => some (.rt d, p.2)
def mFor (mi : MI) (g : MG) (b : MS) : MS := fun ρ => (mi ρ).bind fun p => mForL p.1 g b p.2
section
variable {X : Cx} {O L : List Kd} {tg iter e : Expr} {mi : MI} {g : MG} {is : List Nat} {b : MS} {r : Ak} {body : List Stmt} {pos : Pos}
theorem PIi {w w' : TI} (h : PI X tg e w) (k : ∀ σ H R, w' σ H R → w σ H R) : PI X tg e w' := ⟨fun pins s σ H R I q => h.run pins s σ H R I (k σ H R q)⟩
theorem drop_get {ds : List D} {i : Nat} {d : D} (h : ds[i]? = some d) : ds.drop i = d :: ds.drop (i + 1) := by
  obtain ⟨hi, e⟩ := List.getElem?_eq_some_iff.mp h
  rw [List.drop_eq_getElem_cons hi, e]
theorem s_for (hp : PassesOwn (model X.prog X.w) X.A X.env X.xe) (hc : X.calm = true) (hi : PI X tg iter (tI X.K O L mi)) (hg : PG X tg (tG X.K L g is)) (hb : PSs X body (tS X.K L b r)) (hl : lkOf O L = true := by rfl)
    (hs : ∀ x, foldedSetIterable iter X.env x = pure x := by intro _; rfl) : PS X (.For tg iter body [] pos) (tS X.K O (mFor mi g b) r) := by
  refine PSi (ps_for hp hc hi hg hb hs) fun Dn σ H ⟨F, ρ, fl, ρ', ok, hm, q⟩ => ?_
  obtain ⟨⟨ds, ρ1⟩, e1, e2⟩ := bind_some hm
  refine ⟨F, ρ, ds, ρ1, ok, e1, fun J F1 H1 G ok1 st1 wk hG => ?_⟩
  have e2 : mForL ds g b ρ1 = some (fl, ρ') := e2
  refine for_it wk (fun i σ2 H2 => ∃ F2 ρ2, Ok X.K L ⟨F2, H2, σ2, ρ2⟩ ∧ Stp L ⟨F1, H1, σ, ρ1⟩ ⟨F2, H2, σ2, ρ2⟩ ∧ mForL (ds.drop i) g b ρ2 = some (fl, ρ'))
    ⟨F1, ρ1, ok1.lock hl, .refl _ _, e2⟩ (fun i σ2 H2 _ ⟨F2, ρ2, ok2, st2, _⟩ => hG Zno zno _ ok2 (st2.q _)) (fun i x σ2 H2 H3 hi ⟨F2, ρ2, ok2, st2, m2⟩ y => ?_) fun σ2 H2 ⟨F2, ρ2, ok2, st2, m2⟩ => ?_
  · obtain ⟨F3, pu, d, hd, rp⟩ := y F2 st2.ex ok2.sub
    rw [drop_get hd] at m2
    obtain ⟨ρ3, g1, g2⟩ := bind_some m2
    obtain ⟨⟨f, ρ4⟩, g3, g4⟩ := bind_some g2
    obtain ⟨ok3, st3⟩ := ok2.pur pu
    refine ⟨F3, ρ2, d, ρ3, ok3, rp, g1, fun σ3 ok4 st4 _ => ⟨F3, ρ3, f, ρ4, ok4, g3, ?_⟩⟩
    have go := (st2.trans st3).trans st4
    cases f with
    | nx => exact fun σ5 F5 H5 ok5 st5 => ⟨F5, ρ4, ok5, go.trans st5, g4⟩
    | ct => exact fun σ5 F5 H5 ok5 st5 => ⟨F5, ρ4, ok5, go.trans st5, g4⟩
    | bk =>
      cases g4
      exact fun σ5 F5 H5 ok5 st5 => q σ5 F5 H5 (ok5.unlock hl) (st1.trans ((go.trans st5).unlock hl))
    | rt d =>
      cases g4
      exact fun v σ5 F5 H5 ok5 st5 r5 => q v σ5 F5 H5 (ok5.unlock hl) (st1.trans ((go.trans st5).unlock hl)) (((r5.pre go).unlock hl).pre st1)
  · rw [List.drop_length] at m2
    cases m2
    exact q σ2 F2 H2 (ok2.unlock hl) (st1.trans (st2.unlock hl))

/-! ### what is walked, by kinds -/
def mItL (m : M) : MI := fun ρ => (m ρ).bind fun p => match p.1 with
  | .list ds => some (ds, p.2)
  | _ => none
def mItT (m : M) : MI := fun ρ => (m ρ).bind fun p => match p.1 with
  | .tuple ds => some (ds, p.2)
  | _ => none
/-- a slot's own list -/
def mItB (i : Nat) : MI := fun ρ => match ρ[i]? with
  | some (some (.list ds)) => some (ds, ρ)
  | _ => none
theorem itL_some {m : M} {ρ ρ' : En} {ds : List D} (h : mItL m ρ = some (ds, ρ')) : m ρ = some (.list ds, ρ') := by
  obtain ⟨⟨d, ρ1⟩, h1, h2⟩ := bind_some h
  cases d <;> cases h2
  exact h1
theorem itT_some {m : M} {ρ ρ' : En} {ds : List D} (h : mItT m ρ = some (ds, ρ')) : m ρ = some (.tuple ds, ρ') := by
  obtain ⟨⟨d, ρ1⟩, h1, h2⟩ := bind_some h
  cases d <;> cases h2
  exact h1
theorem yd_at {K : PySem.W.Frag} {F0 : Hp} {ds : List D} {xs : List V} (r : RpA K F0 ds xs) {i : Nat} {H : Hp} {x : V} {H' : Hp} (y : YAt xs i H x H') : YD K F0 ds i H x H' := fun F e s => by
  obtain ⟨rfl, y⟩ := y
  obtain ⟨d, h1, h2⟩ := r.getV y
  exact ⟨F, .refl s, d, h1, h2.mono e⟩
theorem walk_of_list {K : PySem.W.Frag} {F0 : Hp} {ds : List D} {xs : List V} {a : Addr} (r : RpA K F0 ds xs) : Walk (Itl K a) ds.length (fun H => SqL K H a xs) (YD K F0 ds) := by
  rw [← r.length]
  exact walk_list.mono (fun _ h => h) fun i H x H' _ _ y => yd_at r y
theorem walk_of_tup {K : PySem.W.Frag} {F0 : Hp} {ds : List D} {xs : List V} {a : Addr} (r : RpA K F0 ds xs) : Walk (Itt K a) ds.length (fun H => SqT K H a xs) (YD K F0 ds) := by
  rw [← r.length]
  exact walk_tup.mono (fun _ h => h) fun i H x H' _ _ y => yd_at r y
theorem i_list {m : M} (h : PE X e (tE X.K O m .fz)) : PI X tg e (tI X.K O L (mItL m)) := by
  refine PIi (pi_list h) fun σ H R ⟨F, ρ, ds, ρ', ok, hm, q⟩ => ?_
  refine ⟨F, ρ, _, ρ', ok, itL_some hm, fun v F1 H1 ok1 st1 r1 => ?_⟩
  obtain ⟨a, xs, e1, h1, h2⟩ := r1
  refine ⟨a, e1, ⟨xs, ok1.sub.seq h1⟩, q _ F1 H1 _ ok1 st1 (walk_of_list h2) fun Z _ w2 ok2 st2 => ok2.sub.seq (st2.ex.seq h1)⟩
theorem i_tup {m : M} (h : PE X e (tE X.K O m .fz)) : PI X tg e (tI X.K O L (mItT m)) := by
  refine PIi (pi_tup h) fun σ H R ⟨F, ρ, ds, ρ', ok, hm, q⟩ => ?_
  refine ⟨F, ρ, _, ρ', ok, itT_some hm, fun v F1 H1 ok1 st1 r1 => ?_⟩
  obtain ⟨a, xs, e1, h1, h2⟩ := r1
  exact ⟨a, e1, ⟨xs, same_sqt ok1.sub h1⟩, q _ F1 H1 _ ok1 st1 (walk_of_tup h2) fun Z _ w2 ok2 st2 => same_sqt ok2.sub (same_sqt st2.ex h1)⟩
theorem i_br (i : Nat) (h : PE X e (tE X.K O (mBr i) (.br i))) (hL : ∃ k : Kd, L[i]? = some k ∧ k.lock = true := by exact ⟨_, rfl, rfl⟩) (hl : lkOf O L = true := by rfl) : PI X tg e (tI X.K O L (mItB i)) := by
  refine PIi (pi_list h) fun σ H R ⟨F, ρ, ds, ρ', ok, hm, q⟩ => ?_
  have hm2 : ρ[i]? = some (some (.list ds)) ∧ ρ' = ρ := by
    unfold mItB at hm
    split at hm
    · rename_i ds' e1
      cases hm
      exact ⟨e1, rfl⟩
    · cases hm
  obtain ⟨g1, rfl⟩ := hm2
  refine ⟨F, ρ', .none, ρ', ok, by unfold mBr; rw [g1], fun v F1 H1 ok1 st1 r1 => ?_⟩
  obtain ⟨r1, k0, r2, r3⟩ := r1
  obtain ⟨p, e1, e2, o, e3, xs, e4, e5⟩ := ok1.ow i k0 _ r2 r3 g1
  have r1 : σ[i]? = some (some v) := r1
  have e1 : σ[i]? = some (some (.ref p)) := e1
  rw [e1] at r1
  cases r1
  subst e4
  obtain ⟨k, k1, k2⟩ := hL
  refine ⟨p, rfl, ⟨xs, .inl (.inl e3)⟩, q _ F1 H1 _ ok1 st1 (walk_of_list (xs := xs) (a := p) e5) fun Z _ w2 ok2 st2 => .inl (.inl ?_)⟩
  rw [st2.lo i k p _ k1 k2 g1 e1]
  exact e3
theorem i_ow {m : M} (h : PE X e (tE X.K O m .ow)) (hl : lkOf O L = true := by rfl) : PI X tg e (tI X.K O L (mItL m)) := by
  refine PIi (pi_list h) fun σ H R ⟨F, ρ, ds, ρ', ok, hm, q⟩ => ?_
  refine ⟨F, ρ, _, ρ', ok, itL_some hm, fun v F1 H1 ok1 st1 r1 => ?_⟩
  obtain ⟨p, rfl, h1, ⟨o, h2, xs, h3, h4⟩, h5, h6⟩ := r1
  subst h3
  refine ⟨p, rfl, ⟨xs, .inl (.inl h2)⟩, q _ F1 H1 _ ok1 st1 (walk_of_list (xs := xs) (a := p) h4) fun Z hz w2 ok2 st2 => .inl (.inl ((Stq.unlock (K := X.K) hl st2).kp p _ (fun z => ?_) h2 h5).1)⟩
  obtain ⟨⟨o, z1⟩, _, z3⟩ := hz p z
  rcases h6 with h6 | h6
  · exact z3 h6
  · rw [h6] at z1
    cases z1
/-! ### ranges -/
def dRng (lo : Int) (n : Nat) : List D := (List.range n).map fun (i : Nat) => PyData.int (lo + (i : Int))
theorem dRng_get {lo : Int} {n i : Nat} (h : i < n) : (dRng lo n)[i]? = some (.int (lo + (i : Int))) := by
  unfold dRng
  rw [List.getElem?_map, List.getElem?_range h]
  rfl
theorem dRng_len {lo : Int} {n : Nat} : (dRng lo n).length = n := by
  unfold dRng
  rw [List.length_map, List.length_range]
def mRng1 (ma : MA) : MI := fun ρ => (ma ρ).bind fun p => match p.1 with
  | [.int j] => if -(2 ^ 62) ≤ j ∧ j < 2 ^ 62 then some (dRng 0 j.toNat, p.2) else none
  | _ => none
def mRng2 (ma : MA) : MI := fun ρ => (ma ρ).bind fun p => match p.1 with
  | [.int i, .int j] => if -(2 ^ 62) ≤ i ∧ i < 2 ^ 62 ∧ -(2 ^ 62) ≤ j ∧ j < 2 ^ 62 then some (dRng i (j - i).toNat, p.2) else none
  | _ => none
theorem walk_of_range {K : PySem.W.Frag} {F0 : Hp} {lo : Int} {n : Nat} : Walk (Itr lo n) (dRng lo n).length (fun _ => True) (YD K F0 (dRng lo n)) := by
  rw [dRng_len]
  refine walk_range.mono (fun _ h => h) fun i H x H' hi _ y F e s => ?_
  obtain ⟨rfl, rfl⟩ := y
  exact ⟨F, .refl s, _, dRng_get hi, rfl⟩
theorem i_rng1 {a : Expr} {ma : MA} {p : Pos} (hm : X.mg "range" = none) (ha : PA X [a] (tA X.K O ma [.fz])) (hg : Gl X "range" := by rfl) (hs : starEach [a] X.env = [(false, eval a X.env)] := by rfl) : PI X tg (.Call (.Name "range" p) [a] [] pos) (tI X.K O L (mRng1 ma)) := by
  refine PIi (pi_range1 hg hm ha hs) fun σ H R ⟨F, ρ, ds, ρ', ok, hm, q⟩ => ?_
  obtain ⟨⟨as, ρ1⟩, e1, e2⟩ := bind_some hm
  refine ⟨F, ρ, as, ρ1, ok, e1, fun vs F1 H1 ok1 st1 r1 => ?_⟩
  dsimp only at e2
  split at e2
  · rename_i j
    split at e2
    · rename_i hj
      cases e2
      obtain ⟨r, _⟩ := r1.fz rfl
      obtain ⟨v, rfl, hv⟩ := r.one
      have hv : v = .int j := hv
      subst hv
      exact ⟨j, rfl, hj.1, hj.2, q _ F1 H1 _ ok1 st1 walk_of_range fun _ _ _ _ _ => trivial⟩
    · cases e2
  · cases e2
theorem i_rng2 {a c : Expr} {ma : MA} {p : Pos} (hm : X.mg "range" = none) (ha : PA X [a, c] (tA X.K O ma [.fz, .fz])) (hg : Gl X "range" := by rfl) (hs : starEach [a, c] X.env = [(false, eval a X.env), (false, eval c X.env)] := by rfl) (hs2 : starEach [c] X.env = [(false, eval c X.env)] := by rfl) :
    PI X tg (.Call (.Name "range" p) [a, c] [] pos) (tI X.K O L (mRng2 ma)) := by
  refine PIi (pi_range2 hg hm ha hs hs2) fun σ H R ⟨F, ρ, ds, ρ', ok, hm, q⟩ => ?_
  obtain ⟨⟨as, ρ1⟩, e1, e2⟩ := bind_some hm
  refine ⟨F, ρ, as, ρ1, ok, e1, fun vs F1 H1 ok1 st1 r1 => ?_⟩
  dsimp only at e2
  split at e2
  · rename_i i j
    split at e2
    · rename_i hj
      cases e2
      obtain ⟨r, _⟩ := r1.fz rfl
      obtain ⟨v, u, rfl, hv, hu⟩ := r.two
      have hv : v = .int i := hv
      have hu : u = .int j := hu
      subst hv hu
      exact ⟨i, j, rfl, hj, q _ F1 H1 _ ok1 st1 walk_of_range fun _ _ _ _ _ => trivial⟩
    · cases e2
  · cases e2
end

/-! ### while -/
def whN (c : MT) (b : MS) : Nat → MS
  | 0 => fun _ => none
  | n + 1 => fun ρ => (c ρ).bind fun p => if p.1 = true then (b p.2).bind fun q => match q.1 with
      | .nx => whN c b n q.2
      | .ct => whN c b n q.2
      | .bk => some (.nx, q.2)
      | .rt d => some (.rt d, q.2)
    else some (.nx, p.2)
theorem whN_more {c : MT} {b : MS} : ∀ {n : Nat} {ρ : En} {x : Fl × En}, whN c b n ρ = some x → whN c b (n + 1) ρ = some x
  | 0, _, _, h => by cases h
  | n + 1, ρ, x, h => by
    obtain ⟨⟨t, ρ1⟩, h1, h2⟩ := bind_some h
    show (c ρ).bind _ = some x
    rw [h1]
    show (if t = true then _ else _) = some x
    have h2 : (if t = true then _ else _) = some x := h2
    cases t with
    | false => exact h2
    | true =>
      rw [if_pos rfl] at h2 ⊢
      obtain ⟨⟨f, ρ2⟩, h3, h4⟩ := bind_some h2
      rw [show b ρ1 = _ from h3]
      clear h3 h2
      cases f with
      | nx => exact whN_more h4
      | ct => exact whN_more h4
      | bk => exact h4
      | rt d => exact h4
theorem whN_le {c : MT} {b : MS} {ρ : En} {x : Fl × En} : ∀ {n m : Nat}, n ≤ m → whN c b n ρ = some x → whN c b m ρ = some x := fun {n m} h q => by
  induction h with
  | refl => exact q
  | step _ ih => exact whN_more ih
open Classical in
noncomputable def mWhile (c : MT) (b : MS) : MS := fun ρ => if h : ∃ x n, whN c b n ρ = some x then some h.choose else none
theorem mWhile_of {c : MT} {b : MS} {n : Nat} {ρ : En} {x : Fl × En} (h : whN c b n ρ = some x) : mWhile c b ρ = some x := by
  have h0 : ∃ x n, whN c b n ρ = some x := ⟨x, n, h⟩
  unfold mWhile
  rw [dif_pos h0]
  obtain ⟨m, hm⟩ := h0.choose_spec
  have a1 := whN_le (Nat.le_max_left n m) h
  have a2 := whN_le (Nat.le_max_right n m) hm
  rw [a1] at a2
  exact a2.symm
theorem mWhile_some {c : MT} {b : MS} {ρ : En} {x : Fl × En} (h : mWhile c b ρ = some x) : ∃ n, whN c b n ρ = some x := by
  unfold mWhile at h
  split at h
  · rename_i h0
    cases h
    exact h0.choose_spec
  · cases h
section
variable {X : Cx} {O : List Kd} {e : Expr} {c : MT} {b : MS} {r : Ak} {body : List Stmt} {pos : Pos}
theorem s_while (hp : PassesOwn (model X.prog X.w) X.A X.env X.xe) (hc : PT X e (tT X.K O c)) (hb : PSs X body (tS X.K O b r)) : PS X (.While e body [] pos) (tS X.K O (mWhile c b) r) := by
  refine PSi (ps_while hp hc hb) fun Dn σ H ⟨F, ρ, fl, ρ', ok, hm, q⟩ => ?_
  obtain ⟨n, hn⟩ := mWhile_some hm
  refine ⟨fun m σ2 H2 => ∃ F2 ρ2, Ok X.K O ⟨F2, H2, σ2, ρ2⟩ ∧ Stp O ⟨F, H, σ, ρ⟩ ⟨F2, H2, σ2, ρ2⟩ ∧ whN c b m ρ2 = some (fl, ρ'), ⟨n, F, ρ, ok, .refl _ _, hn⟩, fun m σ2 H2 ⟨F2, ρ2, ok2, st2, m2⟩ => ?_⟩
  cases m with
  | zero => cases m2
  | succ m =>
    obtain ⟨⟨t, ρ3⟩, h1, h2⟩ := bind_some m2
    refine ⟨F2, ρ2, t, ρ3, ok2, h1, fun F3 H3 ok3 st3 => ?_⟩
    have go := st2.trans st3
    cases t with
    | false =>
      dsimp only at h2 ⊢
      rw [if_neg Bool.false_ne_true] at h2 ⊢
      cases h2
      exact q σ2 F3 H3 ok3 go
    | true =>
      dsimp only at h2 ⊢
      rw [if_pos rfl] at h2 ⊢
      obtain ⟨⟨f, ρ4⟩, h3, h4⟩ := bind_some h2
      refine ⟨_, fun _ _ z => z, ?_⟩
      refine ⟨F3, ρ3, f, ρ4, ok3, h3, ?_⟩
      cases f with
      | nx => exact fun σ5 F5 H5 ok5 st5 => ⟨m, Nat.lt_succ_self m, F5, ρ4, ok5, go.trans st5, h4⟩
      | ct => exact fun σ5 F5 H5 ok5 st5 => ⟨m, Nat.lt_succ_self m, F5, ρ4, ok5, go.trans st5, h4⟩
      | bk =>
        cases h4
        exact fun σ5 F5 H5 ok5 st5 => q σ5 F5 H5 ok5 (go.trans st5)
      | rt d =>
        cases h4
        exact fun v σ5 F5 H5 ok5 st5 r5 => q v σ5 F5 H5 ok5 (go.trans st5) (r5.pre go)
end
end DL

/-! DL6: defs and their calls; no recursion guard is up while a def of the text runs. -/
namespace DL
open PySem PySem.Spec PyProof.Rows L2

/-- a def keeps its promise, as long as no repr is under way -/
structure FnG (P : Program) (w : World) (K : PySem.W.Frag) (mg : Str → Option Value) (base : Heap) (CX : CXT) (k : Nat) (f : Addr) (fd : FuncData) (ps : List Str) (sp : Sp) : Prop where
  ar : ∀ vs H Q E, sp vs H Q E → vs.length = ps.length
  go : ∀ (A : Around) (outer : List Env) (s : Shared) (H : Hp) (args : Args) (us : List Value) (vs : List V) (Q : VK) (E : XK), A.guards = some [] → Room k A → Env0 P w K mg base A outer s H → BindsTo s fd args (ps.zip us) →
    Vals vs us → sp vs H Q E → codeAny (model P w) A (.call (.ref f) args) (CR CX outer P w H s Q E) s
section
variable {P : Program} {w : World} {K : PySem.W.Frag} {mg : Str → Option Value} {base : Heap} {CX : CXT} {f : Addr} {fd : FuncData}
theorem FnG.up {j k : Nat} {ps : List Str} {sp : Sp} (G : FnG P w K mg base CX j f fd ps sp) (h : j ≤ k) : FnG P w K mg base CX k f fd ps sp :=
  ⟨G.ar, fun A outer s H args us vs Q E g hr => G.go A outer s H args us vs Q E g (hr.mono h)⟩
theorem FnG.imp {k : Nat} {ps : List Str} {sp sp' : Sp} (G : FnG P w K mg base CX k f fd ps sp) (h : ∀ vs H Q E, sp' vs H Q E → sp vs H Q E) : FnG P w K mg base CX k f fd ps sp' :=
  ⟨fun vs H Q E z => G.ar vs H Q E (h _ _ _ _ z), fun A outer s H args us vs Q E g hr e hb r z => G.go A outer s H args us vs Q E g hr e hb r (h _ _ _ _ z)⟩
/-- from the body -/
theorem fnG_of {x qual : Str} {params : Arguments} {body : List Stmt} {scope : Scope} {dvs : List V} {kws : List (Str × V)} {N ps : List Str} {k : Nat} {sp : Sp} (F : FunD K x qual params body scope dvs kws f fd) (S : FnScope N ps scope)
    (ar : ∀ vs H Q E, sp vs H Q E → vs.length = ps.length)
    (hb : ∀ (cd : Value) (A : Around) (outer : List Env) (s : Shared) (H : Hp) (vs : List V) (Q : VK) (E : XK), A.guards = some [] → Room k (A.deeper (envOfC qual scope s.heap.objs.size f cd)) → sp vs H Q E →
      ∃ t, PSs (cxOf CX P w K mg base N qual scope f cd A outer s H E) body t ∧ t { nx := fun _ H' => Q .non H', rt := Q } (L2.start N vs) H) : FnG P w K mg base CX (k + 1) f fd ps sp := by
  obtain ⟨oc, od, dV, kV, doc, pm, an, cd, ct, osl, rfl, lk, code, _, _⟩ := F.ex
  refine ⟨ar, fun A outer s H args us vs Q E g hr e bt rv z => ?_⟩
  have cnt := ar _ _ _ _ z
  have inS : K.In s.heap := e.mod.kin.keeps fun b o h => (e.bs b o h).1
  have noLim : s.heap.NoLimit := e.mod.nolimit.keeps fun b o h => (e.bs b o h).1
  have kinds : ∀ y ∈ ps.zip us, scope.names.lookup y.1 = some .local ∨
      (scope.names.lookup y.1 = some .cell ∧ ((cellsFrom (s.heap.objs.size + 1) scope.names []).lookup y.1).isSome = true) := by
    rintro ⟨n, v⟩ hy
    rcases S.par n (List.of_mem_zip hy).1 with h | h
    · exact Or.inl h
    · exact Or.inr ⟨h, PySem.W.cellsFrom_some _ _ _ (Or.inl h)⟩
  refine codeAny_call_function hr.depth (inS _ _ lk) rfl S.co S.gen rfl (PySem.W.codeRec_of inS code) (bt _ _ _ _ ?_)
  refine wpAny_newFunctionEnv_cells S.kind kinds fun en he s1 q => ?_
  subst he
  refine ⟨noLim.keeps q.toInCall.keep, codeAny_func ?_⟩
  obtain ⟨t, ht, h0⟩ := hb cd A outer s H vs Q E g (hr.deeper _) z
  have I := inv_start (CX := CX) (E := E) (f := f) (cd := cd) (A := A) (outer := outer) (P := P) (w := w) (base := base) S hr.hd e cnt rv q
  refine wpAny_mono (ht.run [] s1 (L2.start N vs) H _ I h0) (fun fl s' hs => ?_) fun _ _ hs => hs
  cases fl with
  | ret u =>
    obtain ⟨v, σ', H', J, r, h⟩ := hs
    exact ⟨v, H', J.os, J.bare, J.base, J.hok, r, h⟩
  | next =>
    obtain ⟨σ', H', J, h⟩ := hs
    exact ⟨V.non, H', J.os, J.bare, J.base, J.hok, rfl, h⟩
  | brk =>
    obtain ⟨_, _, _, h⟩ := hs
    exact h.elim
  | cont =>
    obtain ⟨_, _, _, h⟩ := hs
    exact h.elim
end
section
variable {X : Cx} {CX : CXT} {k : Nat} {f : Addr} {fd : FuncData} {ps : List Str} {sp : Sp} {dvs : List V} {ds : List Value} {E : XK} {x : Str} {p pos : Pos} {e : Expr} {es : List Expr} {t : TA}
theorem goFn {pins : List (Addr × Obj)} {σ : L2.St} {H : Hp} {s : Shared} {Q : VK} {us : List Value} {vs : List V} (G : FnG X.prog X.w X.K X.mg X.base CX k f fd ps sp) (hgd : X.A.guards = some []) (hr : Room k X.A) (hb : Binds X.K fd ps ds) (hd : Vals dvs ds)
    (hx : Passes CX X E) (I : Inv X pins σ H s) (r : Vals vs us) (h : sp (vs ++ dvs) H Q E) : wpAny (model X.prog X.w) X.A (call (.ref f) us) (EP X pins σ Q) X.xe s := by
  have both : Vals (vs ++ dvs) (us ++ ds) := r.append hd
  have cnt : (us ++ ds).length = ps.length := both.length.symm.trans (G.ar _ _ _ _ h)
  refine wpAny_call (codeAny_mono (G.go X.A X.stack s H ⟨us, []⟩ (us ++ ds) (vs ++ dvs) Q E hgd hr I.env0 (hb s us I.kIn cnt) both h) fun res s' hq => ?_)
  rcases res with e | fl
  · exact hx pins σ H s e s' I hq
  · cases fl with
    | ret u => exact I.after hq
    | next => exact hq.elim
    | brk => exact hq.elim
    | cont => exact hq.elim
theorem pe_callG (G : FnG X.prog X.w X.K X.mg X.base CX k f fd ps sp) (hgd : X.A.guards = some []) (hr : Room k X.A) (hm : X.mg x = some (.ref f)) (hk : PySem.W.keepIn X.K (.ref f) = true) (hb : Binds X.K fd ps ds) (hd : Vals dvs ds) (hx : Passes CX X E)
    (ha : PA X (e :: es) t) (hg : Gl X x := by rfl) (hdb : (x == ("__debug__" : Str)) = false := by decide) (he : starEach (e :: es) X.env = (false, eval e X.env) :: starEach es X.env := by rfl) (hpl : (backTo pos (starEach es X.env)).any (·.1) = false := by rfl) :
    PE X (.Call (.Name x p) (e :: es) [] pos) (tCall sp dvs E t) := ⟨fun pins s σ H Q I h => wpAny_Call_Name_kw (ld_glob I hg hm
      (PySem.W.callWith_K (h₀ := X.base) I.ok.mod.kin hk (thn (ha.run pos pins s σ H _ I h) fun us s1 ⟨vs, H1, I1, r, q⟩ => ⟨I1.kIn, goFn G hgd hr hb hd hx I1 r q⟩) he hpl) hdb)⟩
end

/-! ### the promise of a function on data -/
def outE : List Kd → En → En
  | [], _ => []
  | k :: ks, [] => none :: outE ks []
  | k :: ks, r :: ρ => (if k = .io then r else none) :: outE ks ρ
theorem outE_get : ∀ {ks : List Kd} {ρ : En} {i : Nat} {d : D}, (outE ks ρ)[i]? = some (some d) → ks[i]? = some Kd.io ∧ ρ[i]? = some (some d)
  | [], _, _, _, h => by
    unfold outE at h
    simp at h
  | k :: ks, [], 0, _, h => by
    have h : (none :: outE ks [])[0]? = _ := h
    simp at h
  | k :: ks, [], i + 1, d, h => by
    have h : (none :: outE ks [])[i + 1]? = _ := h
    rw [List.getElem?_cons_succ] at h
    have z := (outE_get h).2
    simp at z
  | k :: ks, r :: ρ, 0, d, h => by
    have h : ((if k = .io then r else none) :: outE ks ρ)[0]? = _ := h
    rw [List.getElem?_cons_zero] at h
    by_cases e : k = .io
    · rw [if_pos e] at h
      rw [e]
      exact ⟨rfl, h⟩
    · rw [if_neg e] at h
      cases h
  | k :: ks, r :: ρ, i + 1, d, h => by
    have h : ((if k = .io then r else none) :: outE ks ρ)[i + 1]? = _ := h
    rw [List.getElem?_cons_succ] at h
    have z := outE_get h
    simpa using z
theorem outE_len : ∀ {ks : List Kd} {ρ : En}, (outE ks ρ).length = ks.length
  | [], _ => rfl
  | k :: ks, [] => by
    show (none :: outE ks []).length = _
    rw [List.length_cons, outE_len, List.length_cons]
  | k :: ks, r :: ρ => by
    show (_ :: outE ks ρ).length = _
    rw [List.length_cons, outE_len, List.length_cons]
/-- a body as a function on its parameters -/
def mFun (Oi : List Kd) (n : Nat) (r : Ak) (b : MS) : En → Option (D × En) := fun ρ => (b (ρ ++ List.replicate n none)).bind fun p => match p.1 with
  | .rt d => some (d, outE Oi p.2)
  | .nx => (match r with
    | .fz => some (.none, outE Oi p.2)
    | _ => none)
  | _ => none
def noLk : List Kd → Bool
  | [] => true
  | k :: ks => !k.lock && noLk ks
theorem noLk_get : ∀ {ks : List Kd} {i : Nat} {k : Kd}, noLk ks = true → ks[i]? = some k → k.lock = false
  | [], _, _, _, h => by simp at h
  | a :: ks, 0, k, h, e => by
    have e : a = k := by simpa using e
    subst e
    have h := (Bool.and_eq_true_iff.mp (show (!a.lock && noLk ks) = true from h)).1
    simpa using h
  | a :: ks, i + 1, k, h, e => noLk_get (Bool.and_eq_true_iff.mp (show (!a.lock && noLk ks) = true from h)).2 (by simpa using e)
def spF (K : PySem.W.Frag) (Oi : List Kd) (mf : En → Option (D × En)) (r : Ak) : Sp := fun vs H Q _ => tE K Oi mf r (vs.map some) H Q
theorem spF_len {K : PySem.W.Frag} {Oi : List Kd} {mf : En → Option (D × En)} {r : Ak} {vs : List V} {H : Hp} {Q : VK} {E : XK} (h : spF K Oi mf r vs H Q E) : vs.length = Oi.length := by
  obtain ⟨F, ρ, d, ρ', ok, _⟩ := h
  have h : (vs.map some).length = Oi.length := ok.ls
  rw [List.length_map] at h
  exact h
section
variable {K : PySem.W.Frag} {Oi Ol : List Kd} {N : List Str} {vs : List V} {F H : Hp} {ρ : En}
theorem start_get {i : Nat} (hi : i < vs.length) : (L2.start N vs)[i]? = (vs.map some)[i]? := by
  unfold L2.start
  rw [List.getElem?_append_left (by rw [List.length_map]; exact hi)]
theorem ent_own {σ : L2.St} (hl : ρ.length = Oi.length) (hs : σ.length = Oi.length) {σl : L2.St} {m : Nat} {i : Nat} {p : Addr} : OwnAt (Oi ++ Ol) ⟨F, H, σ ++ σl, ρ ++ List.replicate m none⟩ i p ↔ OwnAt Oi ⟨F, H, σ, ρ⟩ i p := by
  constructor
  · rintro ⟨k, d, h1, h2, h3, h4⟩
    have h3 : (ρ ++ List.replicate m none)[i]? = some (some d) := h3
    have hi : i < ρ.length := by
      by_cases z : i < ρ.length
      · exact z
      · rw [List.getElem?_append_right (Nat.le_of_not_lt z), List.getElem?_replicate] at h3
        split at h3 <;> cases h3
    rw [List.getElem?_append_left hi] at h3
    rw [List.getElem?_append_left (by omega)] at h1
    have h4 : (σ ++ σl)[i]? = some (some (.ref p)) := h4
    rw [List.getElem?_append_left (by omega)] at h4
    exact ⟨k, d, h1, h2, h3, h4⟩
  · rintro ⟨k, d, h1, h2, h3, h4⟩
    have h3 : ρ[i]? = some (some d) := h3
    have hi : i < ρ.length := (List.getElem?_eq_some_iff.mp h3).1
    refine ⟨k, d, ?_, h2, ?_, ?_⟩
    · rw [List.getElem?_append_left (by omega)]
      exact h1
    · show (ρ ++ List.replicate m none)[i]? = _
      rw [List.getElem?_append_left hi]
      exact h3
    · show (σ ++ σl)[i]? = _
      rw [List.getElem?_append_left (by omega)]
      exact h4
theorem ent_ok {σ : L2.St} {σl : L2.St} (ok : Ok K Oi ⟨F, H, σ, ρ⟩) (hσ : σl.length = Ol.length) : Ok K (Oi ++ Ol) ⟨F, H, σ ++ σl, ρ ++ List.replicate Ol.length none⟩ := by
  have hl : ρ.length = Oi.length := ok.lr
  have hs : σ.length = Oi.length := ok.ls
  have low : ∀ {i : Nat} {d : D}, (ρ ++ List.replicate Ol.length none)[i]? = some (some d) → i < ρ.length ∧ ρ[i]? = some (some d) := fun {i d} h => by
    have hi : i < ρ.length := by
      by_cases z : i < ρ.length
      · exact z
      · rw [List.getElem?_append_right (Nat.le_of_not_lt z), List.getElem?_replicate] at h
        split at h <;> cases h
    rw [List.getElem?_append_left hi] at h
    exact ⟨hi, h⟩
  refine ⟨ok.sub, ?_, ?_, fun i d h1 h2 => ?_, fun i k d h1 h2 h3 => ?_, fun i j p h1 h2 => ok.ap i j p ((ent_own hl hs).mp h1) ((ent_own hl hs).mp h2)⟩
  · show (σ ++ σl).length = _
    rw [List.length_append, List.length_append, hs, hσ]
  · show (ρ ++ _).length = _
    rw [List.length_append, List.length_append, List.length_replicate, hl]
  · obtain ⟨hi, h3⟩ := low h2
    rw [List.getElem?_append_left (by omega)] at h1
    obtain ⟨v, g1, g2⟩ := ok.fz i d h1 h3
    exact ⟨v, by show (σ ++ σl)[i]? = _; rw [List.getElem?_append_left (by omega)]; exact g1, g2⟩
  · obtain ⟨hi, h4⟩ := low h3
    rw [List.getElem?_append_left (by omega)] at h1
    obtain ⟨p, g1, g2⟩ := ok.ow i k d h1 h2 h4
    exact ⟨p, by show (σ ++ σl)[i]? = _; rw [List.getElem?_append_left (by omega)]; exact g1, g2⟩
/-- behind the body: what the caller gets -/
theorem ext_ok {σ σ' : L2.St} {σl : L2.St} {F' H' : Hp} {ρ' : En} {r : Ak} {d : D} {v : V} (hnl : noLk Oi = true) (hr : ∀ i, r ≠ .br i) (ok : Ok K Oi ⟨F, H, σ, ρ⟩) (ok' : Ok K (Oi ++ Ol) ⟨F', H', σ', ρ'⟩)
    (st : Stp (Oi ++ Ol) ⟨F, H, σ ++ σl, ρ ++ List.replicate Ol.length none⟩ ⟨F', H', σ', ρ'⟩) (rs : Rs K (Oi ++ Ol) ⟨F, H, σ ++ σl, ρ ++ List.replicate Ol.length none⟩ ⟨F', H', σ', ρ'⟩ r d v) :
    Ok K Oi ⟨F', H', σ, outE Oi ρ'⟩ ∧ Stp Oi ⟨F, H, σ, ρ⟩ ⟨F', H', σ, outE Oi ρ'⟩ ∧ Rs K Oi ⟨F, H, σ, ρ⟩ ⟨F', H', σ, outE Oi ρ'⟩ r d v := by
  have hl : ρ.length = Oi.length := ok.lr
  have hs : σ.length = Oi.length := ok.ls
  have fp : ∀ {b : Addr}, Fp (Oi ++ Ol) ⟨F, H, σ ++ σl, ρ ++ List.replicate Ol.length none⟩ b ↔ Fp Oi ⟨F, H, σ, ρ⟩ b := ⟨fun ⟨i, h⟩ => ⟨i, (ent_own hl hs).mp h⟩, fun ⟨i, h⟩ => ⟨i, (ent_own hl hs).mpr h⟩⟩
  have at_ : ∀ {i : Nat}, Oi[i]? = some Kd.io → (Oi ++ Ol)[i]? = some Kd.io ∧ σ'[i]? = σ[i]? := fun {i} h => by
    have hi : i < Oi.length := (List.getElem?_eq_some_iff.mp h).1
    have h' : (Oi ++ Ol)[i]? = some Kd.io := by
      rw [List.getElem?_append_left hi]
      exact h
    have z := st.pn i _ h' rfl
    have z : σ'[i]? = (σ ++ σl)[i]? := z
    rw [List.getElem?_append_left (by omega)] at z
    exact ⟨h', z⟩
  have back : ∀ {i : Nat} {p : Addr}, OwnAt Oi ⟨F', H', σ, outE Oi ρ'⟩ i p → OwnAt (Oi ++ Ol) ⟨F', H', σ', ρ'⟩ i p := fun {i p} ⟨k, d', h1, h2, h3, h4⟩ => by
    obtain ⟨g1, g2⟩ := outE_get h3
    obtain ⟨e1, e2⟩ := at_ g1
    exact ⟨_, d', e1, rfl, g2, e2.trans h4⟩
  refine ⟨⟨ok'.sub, hs, outE_len, fun i d' h1 h2 => ?_, fun i k d' h1 h2 h3 => ?_, fun i j p h1 h2 => ok'.ap i j p (back h1) (back h2)⟩,
    ⟨st.ex, fun b o h z => st.kp b o h fun q => z (fp.mp q), fun b o h z => st.nw b o h fun q => z (fp.mp q), fun b ⟨i, h⟩ => ?_, fun _ _ _ _ => rfl, fun i k h1 h2 => ?_, fun i k p d' h1 h2 => ?_⟩, ?_⟩
  · have := (outE_get h2).1
    rw [h1] at this
    cases this
  · obtain ⟨g1, g2⟩ := outE_get h3
    obtain ⟨e1, e2⟩ := at_ g1
    obtain ⟨p, q1, q2⟩ := ok'.ow i _ d' e1 rfl g2
    exact ⟨p, e2.symm.trans q1, q2⟩
  · rcases st.fp b ⟨i, back h⟩ with q | q
    · exact .inl (fp.mp q)
    · exact .inr q
  · rw [noLk_get hnl h1] at h2
    cases h2
  · rw [noLk_get hnl h1] at h2
    cases h2
  · cases r with
    | fz => exact rs
    | ow =>
      obtain ⟨p, e, h1, h2, h3, h4⟩ := rs
      refine ⟨p, e, h1, h2, fun ⟨i, z⟩ => h3 ⟨i, back z⟩, ?_⟩
      rcases h4 with h4 | h4
      · exact .inl (fp.mp h4)
      · exact .inr h4
    | br i => exact (hr i rfl).elim
end
section
variable {P : Program} {w : World} {K : PySem.W.Frag} {mg : Str → Option Value} {base : Heap} {f : Addr} {fd : FuncData}
/-- a def of the text as a function on data -/
theorem fn_data {x qual : Str} {params : Arguments} {body : List Stmt} {scope : Scope} {dvs : List V} {kws : List (Str × V)} {N ps : List Str} {k : Nat} {Oi Ol : List Kd} {b : MS} {r : Ak} (F : FunD K x qual params body scope dvs kws f fd) (S : FnScope N ps scope)
    (hi : Oi.length = ps.length) (hN : N.length = Oi.length + Ol.length) (hnl : noLk Oi = true) (hr : ∀ i, r ≠ .br i)
    (hb : ∀ (cd : Value) (A : Around) (outer : List Env) (s : Shared) (H : Hp) (E : XK), A.guards = some [] → Room k (A.deeper (envOfC qual scope s.heap.objs.size f cd)) →
      PSs (cxOf CX0 P w K mg base N qual scope f cd A outer s H E).nox body (tS K (Oi ++ Ol) b r)) : FnG P w K mg base CX0 (k + 1) f fd ps (spF K Oi (mFun Oi Ol.length r b) r) := by
  refine fnG_of F S (fun vs H Q E h => (spF_len h).trans hi) fun cd A outer s H vs Q E g hr' h => ?_
  refine ⟨_, (hb cd A outer s H E g hr').nox, ?_⟩
  have hv := spF_len h
  obtain ⟨Fz, ρ, d, ρ', ok, hm, q⟩ := h
  obtain ⟨⟨fl, ρ1⟩, h1, h2⟩ := bind_some hm
  have hst : L2.start N vs = vs.map some ++ List.replicate Ol.length none := by
    unfold L2.start
    rw [hN, hv, Nat.add_sub_cancel_left]
  rw [hst]
  refine ⟨Fz, _, fl, ρ1, ent_ok (Ol := Ol) ok (List.length_replicate), h1, ?_⟩
  cases fl with
  | nx =>
    cases r with
    | ow => cases h2
    | br i => cases h2
    | fz =>
    cases h2
    intro σ' F' H' ok' st
    obtain ⟨o1, o2, o3⟩ := ext_ok (d := .none) (v := .non) (r := .fz) hnl (fun _ z => by cases z) ok ok' st rfl
    exact q .non F' H' o1 o2 o3
  | rt d' =>
    cases h2
    intro v σ' F' H' ok' st rs
    obtain ⟨o1, o2, o3⟩ := ext_ok hnl hr ok ok' st rs
    exact q v F' H' o1 o2 o3
  | bk => cases h2
  | ct => cases h2
end
end DL

/-! DL7: calls of defs; the law's own end. -/
namespace DL
open PySem PySem.Spec PyProof.Rows L2

/-! ### arguments against parameters -/
def brs : List Ak → List Nat
  | [] => []
  | .br i :: ks => i :: brs ks
  | .fz :: ks => brs ks
  | .ow :: ks => brs ks
def ows : List Ak → Nat
  | [] => 0
  | .ow :: ks => ows ks + 1
  | .fz :: ks => ows ks
  | .br _ :: ks => ows ks
def mutK : Option Kd → Bool
  | some .ow => true
  | some .io => true
  | _ => false
def sig1 (O : List Kd) : List Ak → List Kd → Bool
  | [], oi => oi.all fun k => decide (k = .fz)
  | .fz :: ks, .fz :: oi => sig1 O ks oi
  | .ow :: ks, .ow :: oi => sig1 O ks oi
  | .br i :: ks, .io :: oi => mutK O[i]? && sig1 O ks oi
  | _, _ => false
def sigOk (O : List Kd) (ks : List Ak) (oi : List Kd) : Bool := sig1 O ks oi && (decide (brs ks).Nodup && decide (ows ks ≤ 1))
def putB : List Ak → En → En → En
  | [], _, ρ => ρ
  | .br i :: ks, o :: os, ρ => putB ks os (ρ.set i o)
  | .fz :: ks, _ :: os, ρ => putB ks os ρ
  | .ow :: ks, _ :: os, ρ => putB ks os ρ
  | _ :: _, [], ρ => ρ
def mCall (mf : En → Option (D × En)) (ks : List Ak) (dd : List D) (ma : MA) : M := fun ρ => (ma ρ).bind fun p => (fill ks p.1 p.2).bind fun ds => (mf ((ds ++ dd).map some)).bind fun z => some (z.1, putB ks z.2 p.2)
theorem putB_len : ∀ {ks : List Ak} {os ρ : En}, (putB ks os ρ).length = ρ.length
  | [], _, _ => rfl
  | .br i :: ks, o :: os, ρ => by
    show (putB ks os (ρ.set i o)).length = _
    rw [putB_len, List.length_set]
  | .fz :: ks, o :: os, ρ => putB_len (ks := ks) (os := os)
  | .ow :: ks, o :: os, ρ => putB_len (ks := ks) (os := os)
  | .br i :: ks, [], ρ => rfl
  | .fz :: ks, [], ρ => rfl
  | .ow :: ks, [], ρ => rfl
/-- a slot behind a call: as it was, or handed back -/
theorem putB_get : ∀ {ks : List Ak} {os ρ : En} {i : Nat}, (brs ks).Nodup → (i ∉ brs ks ∧ (putB ks os ρ)[i]? = ρ[i]?) ∨ (i ∈ brs ks ∧ ∃ j : Nat, ks[j]? = some (.br i) ∧ ((∃ o, os[j]? = some o ∧ (putB ks os ρ)[i]? = (ρ.set i o)[i]?) ∨ (os[j]? = none ∧ (putB ks os ρ)[i]? = ρ[i]?)))
  | [], _, _, i, _ => .inl ⟨by simp [brs], rfl⟩
  | .br n :: ks, o :: os, ρ, i, h => by
    have hn : n ∉ brs ks ∧ (brs ks).Nodup := List.nodup_cons.mp h
    have ih := putB_get (ks := ks) (os := os) (ρ := ρ.set n o) (i := i) hn.2
    by_cases e : n = i
    · subst e
      rcases ih with ⟨_, q⟩ | ⟨z, _⟩
      · exact .inr ⟨List.mem_cons_self, 0, rfl, .inl ⟨o, rfl, q⟩⟩
      · exact (hn.1 z).elim
    · rcases ih with ⟨z, q⟩ | ⟨z, j, j1, j2⟩
      · refine .inl ⟨fun m => ?_, ?_⟩
        · rcases List.mem_cons.mp m with m | m
          · exact e m.symm
          · exact z m
        · show (putB ks os (ρ.set n o))[i]? = _
          rw [q, List.getElem?_set_ne e]
      · refine .inr ⟨List.mem_cons_of_mem _ z, j + 1, j1, ?_⟩
        rcases j2 with ⟨o', j2, j3⟩ | ⟨j2, j3⟩
        · refine .inl ⟨o', by simpa using j2, ?_⟩
          show (putB ks os (ρ.set n o))[i]? = _
          rw [j3]
          by_cases hl : i < ρ.length
          · rw [List.getElem?_set_self (by rw [List.length_set]; exact hl), List.getElem?_set_self hl]
          · rw [List.getElem?_eq_none (by rw [List.length_set, List.length_set]; omega), List.getElem?_eq_none (by rw [List.length_set]; omega)]
        · refine .inr ⟨by simpa using j2, ?_⟩
          show (putB ks os (ρ.set n o))[i]? = _
          rw [j3, List.getElem?_set_ne e]
  | .br n :: ks, [], ρ, i, h => by
    have hn : n ∉ brs ks ∧ (brs ks).Nodup := List.nodup_cons.mp h
    by_cases m : i ∈ brs (.br n :: ks)
    · refine .inr ⟨m, ?_⟩
      have key : ∀ {ks : List Ak}, i ∈ brs ks → ∃ j : Nat, ks[j]? = some (.br i) := fun {ks} => by
        induction ks with
        | nil => exact fun h => by simp [brs] at h
        | cons a ks ih =>
          intro h
          cases a with
          | br n =>
            rcases List.mem_cons.mp h with e | e
            · exact ⟨0, by rw [e]; rfl⟩
            · obtain ⟨j, q⟩ := ih e
              exact ⟨j + 1, by simpa using q⟩
          | fz =>
            obtain ⟨j, q⟩ := ih h
            exact ⟨j + 1, by simpa using q⟩
          | ow =>
            obtain ⟨j, q⟩ := ih h
            exact ⟨j + 1, by simpa using q⟩
      obtain ⟨j, q⟩ := key m
      exact ⟨j, q, .inr ⟨by simp, rfl⟩⟩
    · exact .inl ⟨m, rfl⟩
  | .fz :: ks, o :: os, ρ, i, h => by
    rcases putB_get (ks := ks) (os := os) (ρ := ρ) (i := i) h with ⟨z, q⟩ | ⟨z, j, j1, j2⟩
    · exact .inl ⟨z, q⟩
    · exact .inr ⟨z, j + 1, by simpa using j1, by simpa [putB] using j2⟩
  | .ow :: ks, o :: os, ρ, i, h => by
    rcases putB_get (ks := ks) (os := os) (ρ := ρ) (i := i) h with ⟨z, q⟩ | ⟨z, j, j1, j2⟩
    · exact .inl ⟨z, q⟩
    · exact .inr ⟨z, j + 1, by simpa using j1, by simpa [putB] using j2⟩
  | .fz :: ks, [], ρ, i, h => by
    by_cases m : i ∈ brs (.fz :: ks)
    · have key : ∀ {ks : List Ak}, i ∈ brs ks → ∃ j : Nat, ks[j]? = some (.br i) := fun {ks} => by
        induction ks with
        | nil => exact fun h => by simp [brs] at h
        | cons a ks ih =>
          intro h
          cases a with
          | br n =>
            rcases List.mem_cons.mp h with e | e
            · exact ⟨0, by rw [e]; rfl⟩
            · obtain ⟨j, q⟩ := ih e
              exact ⟨j + 1, by simpa using q⟩
          | fz =>
            obtain ⟨j, q⟩ := ih h
            exact ⟨j + 1, by simpa using q⟩
          | ow =>
            obtain ⟨j, q⟩ := ih h
            exact ⟨j + 1, by simpa using q⟩
      obtain ⟨j, q⟩ := key m
      exact .inr ⟨m, j, q, .inr ⟨by simp, rfl⟩⟩
    · exact .inl ⟨m, rfl⟩
  | .ow :: ks, [], ρ, i, h => by
    by_cases m : i ∈ brs (.ow :: ks)
    · have key : ∀ {ks : List Ak}, i ∈ brs ks → ∃ j : Nat, ks[j]? = some (.br i) := fun {ks} => by
        induction ks with
        | nil => exact fun h => by simp [brs] at h
        | cons a ks ih =>
          intro h
          cases a with
          | br n =>
            rcases List.mem_cons.mp h with e | e
            · exact ⟨0, by rw [e]; rfl⟩
            · obtain ⟨j, q⟩ := ih e
              exact ⟨j + 1, by simpa using q⟩
          | fz =>
            obtain ⟨j, q⟩ := ih h
            exact ⟨j + 1, by simpa using q⟩
          | ow =>
            obtain ⟨j, q⟩ := ih h
            exact ⟨j + 1, by simpa using q⟩
      obtain ⟨j, q⟩ := key m
      exact .inr ⟨m, j, q, .inr ⟨by simp, rfl⟩⟩
    · exact .inl ⟨m, rfl⟩
theorem brs_mem {i : Nat} : ∀ {ks : List Ak} {j : Nat}, ks[j]? = some (.br i) → i ∈ brs ks
  | [], _, h => by simp at h
  | a :: ks, 0, h => by
    have h : a = .br i := by simpa using h
    rw [h]
    exact List.mem_cons_self
  | a :: ks, j + 1, h => by
    have q := brs_mem (ks := ks) (j := j) (by simpa using h)
    cases a with
    | br n => exact List.mem_cons_of_mem _ q
    | fz => exact q
    | ow => exact q
theorem brs_inj {i : Nat} : ∀ {ks : List Ak} {j j' : Nat}, (brs ks).Nodup → ks[j]? = some (.br i) → ks[j']? = some (.br i) → j = j'
  | [], _, _, _, h, _ => by simp at h
  | a :: ks, 0, 0, _, _, _ => rfl
  | a :: ks, 0, j' + 1, hn, h, h' => by
    have h : a = .br i := by simpa using h
    subst h
    exact ((List.nodup_cons.mp (show (i :: brs ks).Nodup from hn)).1 (brs_mem (by simpa using h'))).elim
  | a :: ks, j + 1, 0, hn, h, h' => by
    have h' : a = .br i := by simpa using h'
    subst h'
    exact ((List.nodup_cons.mp (show (i :: brs ks).Nodup from hn)).1 (brs_mem (by simpa using h))).elim
  | a :: ks, j + 1, j' + 1, hn, h, h' => by
    have hn' : (brs ks).Nodup := by
      cases a with
      | br n => exact (List.nodup_cons.mp (show (n :: brs ks).Nodup from hn)).2
      | fz => exact hn
      | ow => exact hn
    exact congrArg (· + 1) (brs_inj (ks := ks) (j := j) (j' := j') hn' (by simpa using h) (by simpa using h'))
theorem ows_pos : ∀ {ks : List Ak} {j : Nat}, ks[j]? = some .ow → 0 < ows ks
  | [], _, h => by simp at h
  | a :: ks, 0, h => by
    have h : a = .ow := by simpa using h
    rw [h]
    exact Nat.succ_pos _
  | a :: ks, j + 1, h => by
    have q := ows_pos (ks := ks) (j := j) (by simpa using h)
    cases a with
    | br n => exact q
    | fz => exact q
    | ow => exact Nat.succ_pos _
theorem ows_inj : ∀ {ks : List Ak} {j j' : Nat}, ows ks ≤ 1 → ks[j]? = some .ow → ks[j']? = some .ow → j = j'
  | [], _, _, _, h, _ => by simp at h
  | a :: ks, 0, 0, _, _, _ => rfl
  | a :: ks, 0, j' + 1, hn, h, h' => by
    have h : a = .ow := by simpa using h
    subst h
    have q := ows_pos (ks := ks) (j := j') (by simpa using h')
    have hn : ows ks + 1 ≤ 1 := hn
    omega
  | a :: ks, j + 1, 0, hn, h, h' => by
    have h' : a = .ow := by simpa using h'
    subst h'
    have q := ows_pos (ks := ks) (j := j) (by simpa using h)
    have hn : ows ks + 1 ≤ 1 := hn
    omega
  | a :: ks, j + 1, j' + 1, hn, h, h' => by
    have hn' : ows ks ≤ 1 := by
      cases a with
      | br n => exact hn
      | fz => exact hn
      | ow =>
        have hn : ows ks + 1 ≤ 1 := hn
        omega
    exact congrArg (· + 1) (ows_inj (ks := ks) (j := j) (j' := j') hn' (by simpa using h) (by simpa using h'))
theorem sig1_get {O : List Kd} : ∀ {ks : List Ak} {oi : List Kd} {j : Nat} {q : Kd}, sig1 O ks oi = true → oi[j]? = some q →
    (ks[j]? = none ∧ q = .fz) ∨ (ks[j]? = some .fz ∧ q = .fz) ∨ (ks[j]? = some .ow ∧ q = .ow) ∨ ∃ i, ks[j]? = some (.br i) ∧ q = .io ∧ mutK O[i]? = true
  | [], oi, j, q, h, e => .inl ⟨by simp, by
    have h : (oi.all fun k => decide (k = .fz)) = true := h
    exact of_decide_eq_true (List.all_eq_true.mp h q (List.mem_of_getElem? e))⟩
  | .fz :: ks, .fz :: oi, 0, q, h, e => .inr (.inl ⟨rfl, by simpa using e.symm⟩)
  | .fz :: ks, .fz :: oi, j + 1, q, h, e => by simpa using sig1_get (ks := ks) (oi := oi) (j := j) h (by simpa using e)
  | .ow :: ks, .ow :: oi, 0, q, h, e => .inr (.inr (.inl ⟨rfl, by simpa using e.symm⟩))
  | .ow :: ks, .ow :: oi, j + 1, q, h, e => by simpa using sig1_get (ks := ks) (oi := oi) (j := j) h (by simpa using e)
  | .br i :: ks, .io :: oi, 0, q, h, e => .inr (.inr (.inr ⟨i, rfl, by simpa using e.symm, (Bool.and_eq_true_iff.mp h).1⟩))
  | .br i :: ks, .io :: oi, j + 1, q, h, e => by simpa using sig1_get (ks := ks) (oi := oi) (j := j) (Bool.and_eq_true_iff.mp h).2 (by simpa using e)
  | .fz :: ks, [], _, _, h, _ => by cases h
  | .ow :: ks, [], _, _, h, _ => by cases h
  | .br _ :: ks, [], _, _, h, _ => by cases h
  | .fz :: ks, .ow :: oi, _, _, h, _ => by cases h
  | .fz :: ks, .io :: oi, _, _, h, _ => by cases h
  | .fz :: ks, .lk :: oi, _, _, h, _ => by cases h
  | .fz :: ks, .li :: oi, _, _, h, _ => by cases h
  | .ow :: ks, .fz :: oi, _, _, h, _ => by cases h
  | .ow :: ks, .io :: oi, _, _, h, _ => by cases h
  | .ow :: ks, .lk :: oi, _, _, h, _ => by cases h
  | .ow :: ks, .li :: oi, _, _, h, _ => by cases h
  | .br _ :: ks, .fz :: oi, _, _, h, _ => by cases h
  | .br _ :: ks, .ow :: oi, _, _, h, _ => by cases h
  | .br _ :: ks, .lk :: oi, _, _, h, _ => by cases h
  | .br _ :: ks, .li :: oi, _, _, h, _ => by cases h
/-- an argument at its place -/
theorem Rss.at {K : PySem.W.Frag} {O : List Kd} {w w' : Wd} : ∀ {ks : List Ak} {ds es : List D} {vs : List V} {ρ : En} {j : Nat} {k : Ak}, Rss K O w w' ks ds vs → fill ks ds ρ = some es → ks[j]? = some k →
    ∃ d v e, vs[j]? = some v ∧ es[j]? = some e ∧ Rs K O w w' k d v ∧ (k = .fz ∨ k = .ow → e = d) ∧ ∀ i, k = .br i → ρ[i]? = some (some e)
  | [], _, _, _, _, _, _, _, _, h => by simp at h
  | .br i :: ks, _, es, _, ρ, j, k, ⟨d, ds', v, vs', h1, h2, h3, h4⟩, hf, hj => by
    subst h1 h2
    obtain ⟨d', e1, e2⟩ := slot_some hf
    obtain ⟨es', e3, e4⟩ := map_some e2
    subst e4
    cases j with
    | zero =>
      have hj : .br i = k := by simpa using hj
      subst hj
      refine ⟨d, v, d', rfl, rfl, h3, fun z => ?_, fun n z => ?_⟩
      · rcases z with z | z <;> cases z
      · cases z
        exact e1
    | succ j =>
      obtain ⟨d2, v2, e, g1, g2, g3⟩ := h4.at e3 (j := j) (by simpa using hj)
      exact ⟨d2, v2, e, by simpa using g1, by simpa using g2, g3⟩
  | .fz :: ks, _, es, _, ρ, j, k, ⟨d, ds', v, vs', h1, h2, h3, h4⟩, hf, hj => by
    subst h1 h2
    obtain ⟨es', e3, e4⟩ := map_some hf
    subst e4
    cases j with
    | zero =>
      have hj : .fz = k := by simpa using hj
      subst hj
      exact ⟨d, v, d, rfl, rfl, h3, fun _ => rfl, fun n z => by cases z⟩
    | succ j =>
      obtain ⟨d2, v2, e, g1, g2, g3⟩ := h4.at e3 (j := j) (by simpa using hj)
      exact ⟨d2, v2, e, by simpa using g1, by simpa using g2, g3⟩
  | .ow :: ks, _, es, _, ρ, j, k, ⟨d, ds', v, vs', h1, h2, h3, h4⟩, hf, hj => by
    subst h1 h2
    obtain ⟨es', e3, e4⟩ := map_some hf
    subst e4
    cases j with
    | zero =>
      have hj : .ow = k := by simpa using hj
      subst hj
      exact ⟨d, v, d, rfl, rfl, h3, fun _ => rfl, fun n z => by cases z⟩
    | succ j =>
      obtain ⟨d2, v2, e, g1, g2, g3⟩ := h4.at e3 (j := j) (by simpa using hj)
      exact ⟨d2, v2, e, by simpa using g1, by simpa using g2, g3⟩
theorem Rss.len {K : PySem.W.Frag} {O : List Kd} {w w' : Wd} : ∀ {ks : List Ak} {ds es : List D} {vs : List V} {ρ : En}, Rss K O w w' ks ds vs → fill ks ds ρ = some es → vs.length = ks.length ∧ es.length = ks.length
  | [], _, _, _, _, ⟨h1, h2⟩, hf => by
    subst h1 h2
    cases hf
    exact ⟨rfl, rfl⟩
  | .br i :: ks, _, es, _, ρ, ⟨d, ds', v, vs', h1, h2, h3, h4⟩, hf => by
    subst h1 h2
    obtain ⟨d', e1, e2⟩ := slot_some hf
    obtain ⟨es', e3, e4⟩ := map_some e2
    subst e4
    obtain ⟨a, b⟩ := h4.len e3
    exact ⟨by simp [a], by simp [b]⟩
  | .fz :: ks, _, es, _, ρ, ⟨d, ds', v, vs', h1, h2, h3, h4⟩, hf => by
    subst h1 h2
    obtain ⟨es', e3, e4⟩ := map_some hf
    subst e4
    obtain ⟨a, b⟩ := h4.len e3
    exact ⟨by simp [a], by simp [b]⟩
  | .ow :: ks, _, es, _, ρ, ⟨d, ds', v, vs', h1, h2, h3, h4⟩, hf => by
    subst h1 h2
    obtain ⟨es', e3, e4⟩ := map_some hf
    subst e4
    obtain ⟨a, b⟩ := h4.len e3
    exact ⟨by simp [a], by simp [b]⟩
end DL

/-! DL8: the rule for a call of a def; the law's own end. -/
namespace DL
open PySem PySem.Spec PyProof.Rows L2

section
variable {K : PySem.W.Frag} {O Oi : List Kd} {ks : List Ak} {dd : List D} {dvs : List V}
/-- the callee's world -/
theorem call_ok {w w1 : Wd} {ds es : List D} {vs : List V} (hl : es.length + dd.length = Oi.length) (hs : sigOk O ks Oi = true) (hdd : ∀ F : Hp, RpA K F dd dvs) (st : Stp O w w1) (ok : Ok K O w1) (r : Rss K O w w1 ks ds vs) (hf : fill ks ds w1.ρ = some es) :
    Ok K Oi ⟨w1.F, w1.H, (vs ++ dvs).map some, (es ++ dd).map some⟩ ∧
    (∀ (j : Nat) (p : Addr), OwnAt Oi ⟨w1.F, w1.H, (vs ++ dvs).map some, (es ++ dd).map some⟩ j p → (∃ i, ks[j]? = some (.br i) ∧ OwnAt O w1 i p) ∨ (ks[j]? = some .ow ∧ ¬ Fp O w1 p ∧ (Fp O w p ∨ w.H p = none))) := by
  obtain ⟨h1, h2⟩ := Bool.and_eq_true_iff.mp hs
  obtain ⟨h2, h3⟩ := Bool.and_eq_true_iff.mp h2
  have h2 := of_decide_eq_true h2
  have h3 := of_decide_eq_true h3
  obtain ⟨l1, l2⟩ := r.len hf
  have ld : dvs.length = dd.length := (hdd fun _ => none).length
  have inL : ∀ {j : Nat} {v : V}, vs[j]? = some v → ((vs ++ dvs).map some)[j]? = some (some v) := fun {j v} e => by
    have hj := (List.getElem?_eq_some_iff.mp e).1
    rw [List.getElem?_map, List.getElem?_append_left hj, e]
    rfl
  have inD : ∀ {j : Nat} {d : D}, es[j]? = some d → ((es ++ dd).map some)[j]? = some (some d) := fun {j d} e => by
    have hj := (List.getElem?_eq_some_iff.mp e).1
    rw [List.getElem?_map, List.getElem?_append_left hj, e]
    rfl
  have own : ∀ (j : Nat) (p : Addr), OwnAt Oi ⟨w1.F, w1.H, (vs ++ dvs).map some, (es ++ dd).map some⟩ j p → (∃ i, ks[j]? = some (.br i) ∧ OwnAt O w1 i p) ∨ (ks[j]? = some .ow ∧ ¬ Fp O w1 p ∧ (Fp O w p ∨ w.H p = none)) := by
    rintro j p ⟨k, d, g1, g2, g3, g4⟩
    rcases sig1_get h1 g1 with ⟨_, e⟩ | ⟨_, e⟩ | ⟨e1, e⟩ | ⟨i, e1, e, e2⟩
    · rw [e] at g2
      cases g2
    · rw [e] at g2
      cases g2
    · obtain ⟨d', v, e', q1, q2, q3, q4, q5⟩ := r.at hf e1
      have g4 : ((vs ++ dvs).map some)[j]? = some (some (.ref p)) := g4
      rw [inL q1] at g4
      cases g4
      obtain ⟨p', z1, z2, z3, z4, z5⟩ := q3
      cases z1
      exact .inr ⟨e1, z4, z5⟩
    · obtain ⟨d', v, e', q1, q2, q3, q4, q5⟩ := r.at hf e1
      have g4 : ((vs ++ dvs).map some)[j]? = some (some (.ref p)) := g4
      rw [inL q1] at g4
      cases g4
      obtain ⟨z1, q, z2, z3⟩ := q3
      exact .inl ⟨i, e1, q, e', z2, z3, q5 i rfl, z1⟩
  refine ⟨⟨ok.sub, ?_, ?_, fun j d g1 g2 => ?_, fun j k d g1 g2 g3 => ?_, fun j j' p g1 g2 => ?_⟩, own⟩
  · show ((vs ++ dvs).map some).length = _
    rw [List.length_map, List.length_append]
    omega
  · show ((es ++ dd).map some).length = _
    rw [List.length_map, List.length_append]
    exact hl
  · have g2 : ((es ++ dd).map some)[j]? = some (some d) := g2
    by_cases hj : j < es.length
    · rcases sig1_get h1 g1 with ⟨e1, e⟩ | ⟨e1, e⟩ | ⟨e1, e⟩ | ⟨i, e1, e, e2⟩
      · rw [List.getElem?_eq_none_iff] at e1
        omega
      · obtain ⟨d', v, e', q1, q2, q3, q4, q5⟩ := r.at hf e1
        rw [inD q2] at g2
        cases g2
        have := q4 (.inl rfl)
        subst this
        exact ⟨v, inL q1, q3⟩
      · cases e
      · cases e
    · rw [List.getElem?_map, List.getElem?_append_right (Nat.le_of_not_lt hj)] at g2
      cases e : dd[j - es.length]? with
      | none =>
        rw [e] at g2
        cases g2
      | some d' =>
        rw [e] at g2
        cases g2
        obtain ⟨v, q1, q2⟩ := (hdd w1.F).get e
        refine ⟨v, ?_, q2⟩
        show ((vs ++ dvs).map some)[j]? = _
        rw [List.getElem?_map, List.getElem?_append_right (by omega), show j - vs.length = j - es.length by omega, q1]
        rfl
  · have g3 : ((es ++ dd).map some)[j]? = some (some d) := g3
    rcases sig1_get h1 g1 with ⟨_, e⟩ | ⟨_, e⟩ | ⟨e1, e⟩ | ⟨i, e1, e, e2⟩
    · rw [e] at g2
      cases g2
    · rw [e] at g2
      cases g2
    · obtain ⟨d', v, e', q1, q2, q3, q4, q5⟩ := r.at hf e1
      rw [inD q2] at g3
      cases g3
      have := q4 (.inr rfl)
      subst this
      obtain ⟨p, rfl, z2, z3, z4⟩ := q3
      exact ⟨p, inL q1, z2, z3⟩
    · obtain ⟨d', v, e', q1, q2, q3, q4, q5⟩ := r.at hf e1
      rw [inD q2] at g3
      cases g3
      obtain ⟨z1, q, z2, z3⟩ := q3
      obtain ⟨p, y1, y2, y3⟩ := ok.ow i q _ z2 z3 (q5 i rfl)
      rw [z1] at y1
      cases y1
      exact ⟨p, inL q1, y2, y3⟩
  · rcases own j p g1 with ⟨i, e1, o1⟩ | ⟨e1, n1, _⟩ <;> rcases own j' p g2 with ⟨i', e2, o2⟩ | ⟨e2, n2, _⟩
    · have := ok.ap i i' p o1 o2
      subst this
      exact brs_inj h2 e1 e2
    · exact (n2 ⟨i, o1⟩).elim
    · exact (n1 ⟨i', o2⟩).elim
    · exact ows_inj h3 e1 e2
/-- behind the call -/
theorem call_back {w w1 : Wd} {es : List D} {vs : List V} {F2 H2 : Hp} {out : En} {r : Ak} {d : D} {v : V} (hs : sigOk O ks Oi = true) (hnl : noLk Oi = true) (hr : ∀ i, r ≠ .br i) (st : Stp O w w1) (ok : Ok K O w1)
    (okc : Ok K Oi ⟨w1.F, w1.H, (vs ++ dvs).map some, (es ++ dd).map some⟩)
    (own : ∀ (j : Nat) (p : Addr), OwnAt Oi ⟨w1.F, w1.H, (vs ++ dvs).map some, (es ++ dd).map some⟩ j p → (∃ i, ks[j]? = some (.br i) ∧ OwnAt O w1 i p) ∨ (ks[j]? = some .ow ∧ ¬ Fp O w1 p ∧ (Fp O w p ∨ w.H p = none)))
    (hbr : ∀ (j i : Nat), ks[j]? = some (.br i) → ∃ v', ((vs ++ dvs).map some)[j]? = some (some v') ∧ w1.σ[i]? = some (some v'))
    (okr : Ok K Oi ⟨F2, H2, (vs ++ dvs).map some, out⟩) (str : Stp Oi ⟨w1.F, w1.H, (vs ++ dvs).map some, (es ++ dd).map some⟩ ⟨F2, H2, (vs ++ dvs).map some, out⟩)
    (rs : Rs K Oi ⟨w1.F, w1.H, (vs ++ dvs).map some, (es ++ dd).map some⟩ ⟨F2, H2, (vs ++ dvs).map some, out⟩ r d v) (hlk : ks.length ≤ Oi.length) :
    Ok K O ⟨F2, H2, w1.σ, putB ks out w1.ρ⟩ ∧ Stp O w ⟨F2, H2, w1.σ, putB ks out w1.ρ⟩ ∧ Rs K O w ⟨F2, H2, w1.σ, putB ks out w1.ρ⟩ r d v := by
  obtain ⟨h1, h2⟩ := Bool.and_eq_true_iff.mp hs
  obtain ⟨h2, h3⟩ := Bool.and_eq_true_iff.mp h2
  have h2 := of_decide_eq_true h2
  have hio : ∀ {j i : Nat}, ks[j]? = some (.br i) → Oi[j]? = some Kd.io ∧ mutK O[i]? = true := fun {j i} e => by
    have hj : j < Oi.length := Nat.lt_of_lt_of_le (List.getElem?_eq_some_iff.mp e).1 hlk
    rcases sig1_get h1 (List.getElem?_eq_getElem hj) with ⟨e1, _⟩ | ⟨e1, _⟩ | ⟨e1, _⟩ | ⟨i', e1, e2, e3⟩
    · rw [e] at e1
      cases e1
    · rw [e] at e1
      cases e1
    · rw [e] at e1
      cases e1
    · rw [e] at e1
      cases e1
      exact ⟨by rw [List.getElem?_eq_getElem hj, e2], e3⟩
  -- the callee's footprint
  have fpc : ∀ {b : Addr}, Fp Oi ⟨w1.F, w1.H, (vs ++ dvs).map some, (es ++ dd).map some⟩ b → Fp O w b ∨ w.H b = none := fun {b} ⟨j, h⟩ => by
    rcases own j b h with ⟨i, _, o⟩ | ⟨_, _, o⟩
    · exact st.fp b ⟨i, o⟩
    · exact o
  have nfpc : ∀ {b : Addr} {o : HO}, w.H b = some o → ¬ Fp O w b → ¬ Fp Oi ⟨w1.F, w1.H, (vs ++ dvs).map some, (es ++ dd).map some⟩ b := fun {b o} e z q => by
    rcases fpc q with q | q
    · exact z q
    · rw [e] at q
      cases q
  -- a slot's owner behind the call
  have slot : ∀ {i : Nat} {d' : D}, (putB ks out w1.ρ)[i]? = some (some d') → (i ∉ brs ks ∧ w1.ρ[i]? = some (some d')) ∨ (∃ j : Nat, ks[j]? = some (Ak.br i) ∧ out[j]? = some (some d')) := fun {i d'} e => by
    rcases putB_get (ks := ks) (os := out) (ρ := w1.ρ) (i := i) h2 with ⟨z, q⟩ | ⟨z, j, j1, ⟨o, j2, j3⟩ | ⟨j2, j3⟩⟩
    · rw [q] at e
      exact .inl ⟨z, e⟩
    · rw [j3] at e
      rcases set_get e with ⟨_, q⟩ | ⟨q, _⟩
      · subst q
        exact .inr ⟨j, j1, j2⟩
      · exact (q rfl).elim
    · have hj : j < Oi.length := Nat.lt_of_lt_of_le (List.getElem?_eq_some_iff.mp j1).1 hlk
      rw [List.getElem?_eq_none_iff] at j2
      have : out.length = Oi.length := okr.lr
      omega
  have back : ∀ {i : Nat} {p : Addr}, OwnAt O ⟨F2, H2, w1.σ, putB ks out w1.ρ⟩ i p → (i ∉ brs ks ∧ OwnAt O w1 i p) ∨ (∃ j, ks[j]? = some (.br i) ∧ OwnAt Oi ⟨F2, H2, (vs ++ dvs).map some, out⟩ j p) := fun {i p} ⟨k, d', e1, e2, e3, e4⟩ => by
    rcases slot e3 with ⟨z, q⟩ | ⟨j, q1, q2⟩
    · exact .inl ⟨z, k, d', e1, e2, q, e4⟩
    · obtain ⟨v', u1, u2⟩ := hbr j i q1
      have e4 : w1.σ[i]? = some (some (.ref p)) := e4
      rw [u2] at e4
      cases e4
      exact .inr ⟨j, q1, _, d', (hio q1).1, rfl, q2, u1⟩
  -- what was owned by a slot that was not lent stands as it stood
  have keepO : ∀ {i : Nat} {p : Addr}, i ∉ brs ks → OwnAt O w1 i p → ¬ Fp Oi ⟨w1.F, w1.H, (vs ++ dvs).map some, (es ++ dd).map some⟩ p := fun {i p} z o ⟨j, h⟩ => by
    rcases own j p h with ⟨i', e, o'⟩ | ⟨_, n, _⟩
    · have := ok.ap i i' p o o'
      subst this
      exact z (brs_mem e)
    · exact n ⟨i, o⟩
  have fpr : ∀ {b : Addr}, Fp O ⟨F2, H2, w1.σ, putB ks out w1.ρ⟩ b → Fp O w1 b ∨ w1.H b = none ∨ Fp Oi ⟨w1.F, w1.H, (vs ++ dvs).map some, (es ++ dd).map some⟩ b := fun {b} ⟨i, h⟩ => by
    rcases back h with ⟨z, q⟩ | ⟨j, q1, q2⟩
    · exact .inl ⟨i, q⟩
    · rcases str.fp b ⟨j, q2⟩ with q | q
      · exact .inr (.inr q)
      · exact .inr (.inl q)
  have okO : Ok K O ⟨F2, H2, w1.σ, putB ks out w1.ρ⟩ := by
    refine ⟨okr.sub, ok.ls, by show (putB ks out w1.ρ).length = _; rw [putB_len]; exact ok.lr, fun i d' e1 e2 => ?_, fun i k d' e1 e2 e3 => ?_, fun i i' p e1 e2 => ?_⟩
    · rcases slot e2 with ⟨z, q⟩ | ⟨j, q1, q2⟩
      · obtain ⟨u, u1, u2⟩ := ok.fz i d' e1 q
        exact ⟨u, u1, u2.mono str.ex⟩
      · have := (hio q1).2
        rw [e1] at this
        cases this
    · rcases slot e3 with ⟨z, q⟩ | ⟨j, q1, q2⟩
      · obtain ⟨p, u1, u2, o, u3, u4⟩ := ok.ow i k d' e1 e2 q
        have np := keepO z ⟨k, d', e1, e2, q, u1⟩
        exact ⟨p, u1, str.nw p o u3 np u2, o, str.kp p o u3 np, u4.mono str.ex⟩
      · obtain ⟨v', y1, y2⟩ := hbr j i q1
        obtain ⟨p, u1, u2, u3⟩ := okr.ow j _ d' (hio q1).1 rfl q2
        have u1 : ((vs ++ dvs).map some)[j]? = some (some (.ref p)) := u1
        rw [y1] at u1
        cases u1
        exact ⟨p, y2, u2, u3⟩
    · rcases back e1 with ⟨z, q⟩ | ⟨j, q1, q2⟩ <;> rcases back e2 with ⟨z', q'⟩ | ⟨j', q1', q2'⟩
      · exact ok.ap i i' p q q'
      · obtain ⟨_, o, u⟩ := ok.ownF ⟨i, q⟩
        rcases str.fp p ⟨j', q2'⟩ with y | y
        · exact (keepO z q y).elim
        · rw [show w1.H p = none from y] at u
          cases u
      · obtain ⟨_, o, u⟩ := ok.ownF ⟨i', q'⟩
        rcases str.fp p ⟨j, q2⟩ with y | y
        · exact (keepO z' q' y).elim
        · rw [show w1.H p = none from y] at u
          cases u
      · have := okr.ap j j' p q2 q2'
        subst this
        rw [q1] at q1'
        cases q1'
        rfl
  refine ⟨okO, ⟨st.ex.trans str.ex, fun b o e z => str.kp b o (st.kp b o e z) (nfpc e z), fun b o e z f => str.nw b o (st.kp b o e z) (nfpc e z) (st.nw b o e z f), fun b h => ?_, fun i k e1 e2 => st.pn i k e1 e2, fun i k e1 e2 => ?_, fun i k p d' e1 e2 e3 e4 => ?_⟩, ?_⟩
  · rcases fpr h with q | q | q
    · exact st.fp b q
    · exact st.back q
    · exact fpc q
  · have hi : i ∉ brs ks := fun m => by
      rcases putB_get (ks := ks) (os := out) (ρ := w1.ρ) (i := i) h2 with ⟨z, _⟩ | ⟨_, j, j1, _⟩
      · exact z m
      · have := (hio j1).2
        rw [e1] at this
        cases k <;> first | (cases e2; done) | (cases this; done)
    rcases putB_get (ks := ks) (os := out) (ρ := w1.ρ) (i := i) h2 with ⟨_, q⟩ | ⟨m, _⟩
    · exact q.trans (st.lk i k e1 e2)
    · exact (hi m).elim
  · have hi : i ∉ brs ks := fun m => by
      rcases putB_get (ks := ks) (os := out) (ρ := w1.ρ) (i := i) h2 with ⟨z, _⟩ | ⟨_, j, j1, _⟩
      · exact z m
      · have := (hio j1).2
        rw [e1] at this
        cases k <;> first | (cases e2; done) | (cases this; done)
    have o1 : OwnAt O w1 i p := ⟨k, d', e1, Kd.own_of e2, (st.lk i k e1 e2).trans e3, (st.pn i k e1 (Kd.pin_of e2)).trans e4⟩
    obtain ⟨_, o, u⟩ := ok.ownF ⟨i, o1⟩
    have a1 : H2 p = some o := str.kp p o u (keepO hi o1)
    have a2 := st.lo i k p d' e1 e2 e3 e4
    show H2 p = w.H p
    rw [a1, ← a2, u]
  · cases r with
    | fz => exact rs
    | ow =>
      obtain ⟨p, e, g1, g2, g3, g4⟩ := rs
      refine ⟨p, e, g1, g2, fun ⟨i, h⟩ => ?_, ?_⟩
      · rcases back h with ⟨z, q⟩ | ⟨j, q1, q2⟩
        · obtain ⟨_, o, u⟩ := ok.ownF ⟨i, q⟩
          rcases g4 with y | y
          · exact keepO z q y
          · rw [show w1.H p = none from y] at u
            cases u
        · exact g3 ⟨j, q2⟩
      · rcases g4 with y | y
        · exact fpc y
        · exact st.back y
    | br i => exact (hr i rfl).elim
end
section
variable {X : Cx} {k : Nat} {f : Addr} {fd : FuncData} {ps : List Str} {O Oi : List Kd} {mf : En → Option (D × En)} {r : Ak} {dd : List D} {dvs : List V} {ds : List Value} {x : Str} {p pos : Pos} {e : Expr} {es : List Expr} {ma : MA} {ks : List Ak}
/-- f(e, ..), defaults behind -/
theorem e_callD (G : FnG X.prog X.w X.K X.mg X.base CX0 k f fd ps (spF X.K Oi mf r)) (hgd : X.A.guards = some []) (hr : Room k X.A) (hm : X.mg x = some (.ref f)) (hk : PySem.W.keepIn X.K (.ref f) = true) (hb : Binds X.K fd ps ds) (hd : Vals dvs ds) (hdd : ∀ F : Hp, RpA X.K F dd dvs)
    (ha : PA X (e :: es) (tA X.K O ma ks)) (hs : sigOk O ks Oi = true := by rfl) (hln : ks.length + dd.length = Oi.length := by rfl) (hnl : noLk Oi = true := by rfl) (hrr : ∀ i, r ≠ .br i := by exact fun _ z => by cases z) (hg : Gl X x := by rfl) (hdb : (x == ("__debug__" : Str)) = false := by decide)
    (he : starEach (e :: es) X.env = (false, eval e X.env) :: starEach es X.env := by rfl) (hpl : (backTo pos (starEach es X.env)).any (·.1) = false := by rfl) :
    PE X (.Call (.Name x p) (e :: es) [] pos) (tE X.K O (mCall mf ks dd ma) r) := by
  refine PEi (pe_callG G hgd hr hm hk hb hd (pass0 (X := X)) ha hg hdb he hpl) fun σ H Q ⟨F, ρ, d, ρ', ok, hm, q⟩ => ?_
  obtain ⟨⟨ds0, ρ1⟩, h1, h2⟩ := bind_some hm
  obtain ⟨es0, h3, h4⟩ := bind_some h2
  obtain ⟨⟨d1, out⟩, h5, h6⟩ := bind_some h4
  cases h6
  refine ⟨F, ρ, ds0, ρ1, ok, h1, fun vs F1 H1 ok1 st1 r1 => ?_⟩
  have hl := (r1.len h3).2
  obtain ⟨okc, own⟩ := call_ok (K := X.K) (O := O) (Oi := Oi) (dd := dd) (dvs := dvs) (by omega) hs hdd st1 ok1 r1 h3
  refine ⟨F1, _, d1, out, okc, h5, fun v F2 H2 okr str rs => ?_⟩
  have hbr : ∀ (j i : Nat), ks[j]? = some (.br i) → ∃ v', ((vs ++ dvs).map some)[j]? = some (some v') ∧ σ[i]? = some (some v') := fun j i ej => by
    obtain ⟨d', v', e', q1, q2, q3, _⟩ := r1.at h3 ej
    have hj := (List.getElem?_eq_some_iff.mp q1).1
    refine ⟨v', ?_, q3.1⟩
    rw [List.getElem?_map, List.getElem?_append_left hj, q1]
    rfl
  obtain ⟨a, b, c⟩ := call_back (K := X.K) (O := O) (Oi := Oi) (ks := ks) hs hnl hrr st1 ok1 okc own hbr okr str rs (by omega)
  exact q v F2 H2 a b c
theorem e_call (G : FnG X.prog X.w X.K X.mg X.base CX0 k f fd ps (spF X.K Oi mf r)) (hgd : X.A.guards = some []) (hr : Room k X.A) (hm : X.mg x = some (.ref f)) (hk : PySem.W.keepIn X.K (.ref f) = true) (hb : Binds X.K fd ps [])
    (ha : PA X (e :: es) (tA X.K O ma ks)) (hs : sigOk O ks Oi = true := by rfl) (hln : ks.length + 0 = Oi.length := by rfl) (hnl : noLk Oi = true := by rfl) (hrr : ∀ i, r ≠ .br i := by exact fun _ z => by cases z) (hg : Gl X x := by rfl) (hdb : (x == ("__debug__" : Str)) = false := by decide)
    (he : starEach (e :: es) X.env = (false, eval e X.env) :: starEach es X.env := by rfl) (hpl : (backTo pos (starEach es X.env)).any (·.1) = false := by rfl) :
    PE X (.Call (.Name x p) (e :: es) [] pos) (tE X.K O (mCall mf ks [] ma) r) := e_callD (dd := []) (dvs := []) G hgd hr hm hk hb .nil (fun _ => rfl) ha hs hln hnl hrr hg hdb he hpl
end

/-! ### the law's own end -/
theorem law_goes {P : Program} {w : World} {K : PySem.W.Frag} {mg mb : Str → Option Value} {k : Nat} {fa a : Addr} {fd : FuncData} {x : Str} {sp : Sp} {s1 : Shared} {its : List Value} {ns : List Int} (inS : K.In s1.heap) (hM : s1.heap.Ns mainGlobals mg) (hB : s1.heap.Ns builtinsNs mb)
    (hv : ∀ y : Str, y ≠ "__name__" → mb y = bootBuiltins y) (noLim : s1.heap.NoLimit) (noGen : s1.gens = #[]) (hA : s1.heap.get? a = some { cls := .type "list", data := .seq its.toArray }) (hin : IntsAre its ns) (small : ns.length ≤ sizeLine) (hr : Room k callerA)
    (G : ∀ base : Heap, K.In base → base.Ns mainGlobals mg → FnG P w K mg base CX0 k fa fd [x] sp) (bt : ∀ (s : Shared) (u : Value), BindsTo s fd ⟨[u], []⟩ [(x, u)])
    (hsp : ∀ H : Hp, SqL K H a (ns.map V.int) → sp [.ref a] H (fun v _ => v = .bl true) fun _ _ _ => False) :
    codeAny (model P w) callerA (.call (.ref fa) ⟨[.ref a], []⟩) (fun r s' => r = .ok (.ret (.bool true)) ∧ OldK s1.heap s'.heap ∧ s'.os = s1.os ∧ AllBare s'.gens) s1 := by
  have rv := vals_ints hin
  have cnt := hin.length
  -- H tracks at most the script, and that as a locked list
  have main : ∀ H : Hp, (∀ b u, H b = some u → b = a ∧ ∃ o xs, u = .frz o (.lst xs)) → SqL K H a (ns.map V.int) → HOk P w H s1.heap → (H a ≠ none → K.lookup a = none) →
      codeAny (model P w) callerA (.call (.ref fa) ⟨[.ref a], []⟩) (fun r s' => r = .ok (.ret (.bool true)) ∧ OldK s1.heap s'.heap ∧ s'.os = s1.os ∧ AllBare s'.gens) s1 := by
    intro H only hS hok hK
    have untr : ∀ {b : Addr} {o : Obj}, s1.heap.get? b = some o → (b = a → False) → H b = none := fun {b o} _ ne => by
      cases q : H b with
      | none => rfl
      | some u => exact (ne (only b u q).1).elim
    have hid : ∀ {b : Addr} {m : Str → Option Value}, s1.heap.Ns b m → (hidT s1.heap H).Ns b m := by
      rintro b m ⟨o, en, ep, g1, g2, g3⟩
      refine ⟨o, en, ep, hidT_get g1 (untr g1 fun z => ?_), g2, g3⟩
      subst z
      rw [hA] at g1
      cases g1
      cases g2
    have inB : K.In (hidT s1.heap H) := fun b o g => by
      refine hidT_get (inS b o g) ?_
      cases q : H b with
      | none => rfl
      | some u =>
        obtain ⟨z, _⟩ := only b u q
        subst z
        have y := hK (by rw [q]; exact fun z => by cases z)
        rw [y] at g
        cases g
    obtain ⟨mc, c1, c2⟩ := noLim
    have env0 : Env0 P w K mg (hidT s1.heap H) callerA [] s1 H :=
      { frames := rfl, mod := ⟨inB, hid hM, ⟨mb, hid hB, hv⟩, ⟨mc, hid c1, c2⟩⟩, bs := fun b o g => of_hidT g, bsz := Nat.le_of_eq (hidT_size _ _), funs := trivial, frf := fun b z => (List.not_mem_nil z).elim, hok := hok, bare := .of_eq noGen }
    refine codeAny_mono ((G _ inB (hid hM)).go callerA [] s1 H ⟨[.ref a], []⟩ [.ref a] [.ref a] _ _ rfl hr env0 (bt s1 (.ref a)) (.cons rfl .nil) (hsp H hS)) fun res s' h => ?_
    rcases res with e | fl
    · exact (h : False).elim
    · cases fl with
      | next => exact (h : False).elim
      | brk => exact (h : False).elim
      | cont => exact (h : False).elim
      | ret u =>
        obtain ⟨v, H', os, bare, un, hok', r', q⟩ := h
        have q : v = .bl true := q
        subst q
        have r' : u = Value.bool true := r'
        subst r'
        refine ⟨rfl, OldK.of_keep fun b o g => ?_, os, bare⟩
        cases q : H b with
        | none => exact un.keep b o g q (fun z => by cases z) (fun z => by cases z)
        | some u =>
          obtain ⟨_, ob, xs, z⟩ := only b u q
          subst z
          obtain ⟨e1, _⟩ := hok b _ q
          obtain ⟨e2, _⟩ := hok' b _ (un.frzs b ob _ q)
          rw [g] at e1
          cases e1
          exact e2
  cases hk : K.lookup a with
  | some o =>
    have g := inS a o hk
    rw [hA] at g
    cases g
    exact main (fun _ => none) (fun b u z => by cases z) (.inr ⟨_, its.toArray, _, hk, rfl, rfl, rfl, by rw [List.size_toArray, cnt]; exact small, by simpa using rv⟩) (fun b u z => by cases z) fun z => (z rfl).elim
  | none =>
    have at_a : (fun b => if b = a then some (HO.frz { cls := .type "list", data := .seq its.toArray } (.lst (ns.map V.int))) else none) a = some (HO.frz { cls := .type "list", data := .seq its.toArray } (.lst (ns.map V.int))) := if_pos rfl
    refine main (fun b => if b = a then some (.frz { cls := .type "list", data := .seq its.toArray } (.lst (ns.map V.int))) else none) (fun b u z => ?_) (.inl (.inr ⟨_, at_a⟩)) (fun b u z => ?_) fun _ => hk
    · by_cases hb : b = a
      · have z := (if_pos hb).symm.trans z
        cases z
        exact ⟨hb, _, _, rfl⟩
      · have z := (if_neg hb).symm.trans z
        cases z
    · by_cases hb : b = a
      · have z := (if_pos hb).symm.trans z
        cases z
        subst hb
        exact ⟨hA, by rw [List.length_map]; exact small, its, _, rv, hA⟩
      · have z := (if_neg hb).symm.trans z
        cases z
theorem walk_law {l : PySem.W.OpenLaw} {n k : Nat} {q : Program} {loose : List Str} {XP : (Str → Option Value) → Heap → Prop} {YP : World → Heap → Prop} {d : DefRec} {x : Str} (hn : l.most = some n) (small : n ≤ sizeLine) (hdf : d.params.defaults = []) (hr : Room k callerA)
    (G : ∀ (w : World) (mg : Str → Option Value) (fa : Addr) (h : Heap), YP w h → h.Ns mainGlobals mg → mg d.name = some (.ref fa) → ∃ (K : PySem.W.Frag) (fd : FuncData) (sp : Sp), K.In h ∧ (∀ (s : Shared) (u : Value), BindsTo s fd ⟨[u], []⟩ [(x, u)]) ∧
      (∀ (H : Hp) (a : Addr) (ns : List Int), ns.length ≤ n → SqL K H a (ns.map V.int) → sp [.ref a] H (fun v _ => v = .bl true) fun _ _ _ => False) ∧ ∀ base : Heap, K.In base → base.Ns mainGlobals mg → FnG l.prog w K mg base CX0 k fa fd [x] sp) :
    PySem.W.WalkO q loose XP YP l.row.toRowW d [] (fun f vs => PySem.call f vs) := by
  refine Att.attach_call hn hdf fun w s0 s1 mg mb fa o pm cd doc a its ns Gr Y ho hd hcd hmg hobj hints hlen hg => ?_
  obtain ⟨K, fd, sp, inS, bt, hsp, hF⟩ := G w mg fa _ Y Gr.T.g hmg
  exact law_goes inS Gr.T.g Gr.T.b Gr.T.builtins Gr.T.nolimit hg hobj hints (Nat.le_trans hlen small) hr hF bt fun H hS => hsp H a ns hlen hS
end DL

/-! DL9: list comprehensions of one clause and of two. -/
namespace DL
open PySem PySem.Spec PyProof.Rows L2

def wipeE (ρ : En) : List Nat → En
  | [] => ρ
  | v :: vs => (wipeE ρ vs).set v none
def restE (ρ0 : En) : List Nat → En → En
  | [], ρ => ρ
  | v :: vs, ρ => (restE ρ0 vs ρ).set v (ρ0.getD v none)
theorem wipeE_len {ρ : En} : ∀ {vs : List Nat}, (wipeE ρ vs).length = ρ.length
  | [] => rfl
  | v :: vs => by
    show ((wipeE ρ vs).set v none).length = _
    rw [List.length_set, wipeE_len]
theorem restE_len {ρ0 ρ : En} : ∀ {vs : List Nat}, (restE ρ0 vs ρ).length = ρ.length
  | [] => rfl
  | v :: vs => by
    show ((restE ρ0 vs ρ).set v _).length = _
    rw [List.length_set, restE_len]
theorem wipeE_get {ρ : En} {i : Nat} {d : D} : ∀ {vs : List Nat}, (wipeE ρ vs)[i]? = some (some d) → ρ[i]? = some (some d) ∧ i ∉ vs
  | [], h => ⟨h, by simp⟩
  | v :: vs, h => by
    rcases set_get (show ((wipeE ρ vs).set v none)[i]? = _ from h) with ⟨_, q⟩ | ⟨e, q⟩
    · cases q
    · obtain ⟨a, b⟩ := wipeE_get q
      exact ⟨a, fun z => by
        rcases List.mem_cons.mp z with z | z
        · exact e z.symm
        · exact b z⟩
theorem wipeE_out {ρ : En} {i : Nat} : ∀ {vs : List Nat}, i ∉ vs → (wipeE ρ vs)[i]? = ρ[i]?
  | [], _ => rfl
  | v :: vs, h => by
    show ((wipeE ρ vs).set v none)[i]? = _
    rw [List.getElem?_set_ne fun z => h (by rw [z]; exact List.mem_cons_self), wipeE_out fun z => h (List.mem_cons_of_mem _ z)]
theorem restE_get {ρ0 ρ : En} {i : Nat} {d : D} : ∀ {vs : List Nat}, (restE ρ0 vs ρ)[i]? = some (some d) → (i ∈ vs ∧ ρ0[i]? = some (some d)) ∨ (i ∉ vs ∧ ρ[i]? = some (some d))
  | [], h => .inr ⟨by simp, h⟩
  | v :: vs, h => by
    rcases set_get (show ((restE ρ0 vs ρ).set v (ρ0.getD v none))[i]? = _ from h) with ⟨e, q⟩ | ⟨e, q⟩
    · subst e
      refine .inl ⟨List.mem_cons_self, ?_⟩
      rw [List.getD_eq_getElem?_getD] at q
      cases z : ρ0[v]? with
      | none =>
        rw [z] at q
        cases q
      | some o =>
        rw [z] at q
        exact congrArg some q.symm
    · rcases restE_get q with ⟨a, b⟩ | ⟨a, b⟩
      · exact .inl ⟨List.mem_cons_of_mem _ a, b⟩
      · exact .inr ⟨fun z => by
          rcases List.mem_cons.mp z with z | z
          · exact e z.symm
          · exact a z, b⟩
theorem restE_out {ρ0 ρ : En} {i : Nat} : ∀ {vs : List Nat}, i ∉ vs → (restE ρ0 vs ρ)[i]? = ρ[i]?
  | [], _ => rfl
  | v :: vs, h => by
    show ((restE ρ0 vs ρ).set v _)[i]? = _
    rw [List.getElem?_set_ne fun z => h (by rw [z]; exact List.mem_cons_self), restE_out fun z => h (List.mem_cons_of_mem _ z)]
theorem wipeE_in {ρ : En} {i : Nat} (hi : i < ρ.length) : ∀ {vs : List Nat}, i ∈ vs → (wipeE ρ vs)[i]? = some none
  | [], h => by simp at h
  | v :: vs, h => by
    show ((wipeE ρ vs).set v none)[i]? = _
    by_cases e : v = i
    · subst e
      rw [List.getElem?_set_self (by rw [wipeE_len]; exact hi)]
    · rw [List.getElem?_set_ne e]
      rcases List.mem_cons.mp h with z | z
      · exact (e z.symm).elim
      · exact wipeE_in hi z
theorem wipeE_sub {ρ : En} {us vs : List Nat} (h : ∀ i, i ∈ us → i ∈ vs) : wipeE (wipeE ρ us) vs = wipeE ρ vs := by
  refine List.ext_getElem? fun i => ?_
  by_cases m : i ∈ vs
  · by_cases hi : i < ρ.length
    · rw [wipeE_in hi m, wipeE_in (by rw [wipeE_len]; exact hi) m]
    · rw [List.getElem?_eq_none (by rw [wipeE_len, wipeE_len]; omega), List.getElem?_eq_none (by rw [wipeE_len]; omega)]
  · rw [wipeE_out m, wipeE_out m, wipeE_out fun z => m (h i z)]
/-- the names of the block are frozen slots -/
def fzAt (O : List Kd) : List Nat → Bool
  | [] => true
  | v :: vs => decide (O[v]? = some .fz) && fzAt O vs
theorem fzAt_get {O : List Kd} {v : Nat} : ∀ {vs : List Nat}, fzAt O vs = true → v ∈ vs → O[v]? = some .fz
  | [], _, h => by simp at h
  | a :: vs, h, m => by
    obtain ⟨h1, h2⟩ := Bool.and_eq_true_iff.mp (show (decide (O[a]? = some .fz) && fzAt O vs) = true from h)
    rcases List.mem_cons.mp m with e | e
    · rw [e]
      exact of_decide_eq_true h1
    · exact fzAt_get h2 e
section
variable {K : PySem.W.Frag} {O : List Kd} {F H : Hp} {σ : L2.St} {ρ : En} {vs : List Nat}
theorem wipe_get_out {i : Nat} : ∀ {vs : List Nat}, i ∉ vs → (wipe σ vs)[i]? = σ[i]?
  | [], _ => rfl
  | v :: vs, h => by
    show ((wipe σ vs).set v none)[i]? = _
    rw [List.getElem?_set_ne fun z => h (by rw [z]; exact List.mem_cons_self), wipe_get_out fun z => h (List.mem_cons_of_mem _ z)]
theorem wipe_get_in {i : Nat} (hi : i < σ.length) : ∀ {vs : List Nat}, i ∈ vs → (wipe σ vs)[i]? = some none
  | [], h => by simp at h
  | v :: vs, h => by
    show ((wipe σ vs).set v none)[i]? = _
    by_cases e : v = i
    · subst e
      rw [List.getElem?_set_self (by rw [wipe_length]; exact hi)]
    · rw [List.getElem?_set_ne e]
      rcases List.mem_cons.mp h with z | z
      · exact (e z.symm).elim
      · exact wipe_get_in hi z
theorem wipe_eq {σ' : L2.St} (hl : σ'.length = σ.length) (h : ∀ j, j ∉ vs → σ'[j]? = σ[j]?) : wipe σ' vs = wipe σ vs := by
  refine List.ext_getElem? fun i => ?_
  by_cases m : i ∈ vs
  · by_cases hi : i < σ.length
    · rw [wipe_get_in hi m, wipe_get_in (by omega) m]
    · rw [List.getElem?_eq_none (by rw [wipe_length]; omega), List.getElem?_eq_none (by rw [wipe_length]; omega)]
  · rw [wipe_get_out m, wipe_get_out m, h i m]
theorem wipe_idem : wipe (wipe σ vs) vs = wipe σ vs := wipe_eq (wipe_length σ vs) fun j hj => wipe_get_out hj
theorem own_wipe (hv : fzAt O vs = true) {F' H' : Hp} {i : Nat} {p : Addr} : OwnAt O ⟨F', H', wipe σ vs, wipeE ρ vs⟩ i p ↔ OwnAt O ⟨F, H, σ, ρ⟩ i p := by
  have ni : ∀ {k : Kd}, O[i]? = some k → k.own = true → i ∉ vs := fun {k} h1 h2 m => by
    rw [fzAt_get hv m] at h1
    cases h1
    cases h2
  constructor
  · rintro ⟨k, d, h1, h2, h3, h4⟩
    have z := ni h1 h2
    have h3 : (wipeE ρ vs)[i]? = _ := h3
    have h4 : (wipe σ vs)[i]? = _ := h4
    rw [wipeE_out z] at h3
    rw [wipe_get_out z] at h4
    exact ⟨k, d, h1, h2, h3, h4⟩
  · rintro ⟨k, d, h1, h2, h3, h4⟩
    have z := ni h1 h2
    exact ⟨k, d, h1, h2, by show (wipeE ρ vs)[i]? = _; rw [wipeE_out z]; exact h3, by show (wipe σ vs)[i]? = _; rw [wipe_get_out z]; exact h4⟩
theorem Ok.wipe (hv : fzAt O vs = true) (ok : Ok K O ⟨F, H, σ, ρ⟩) : Ok K O ⟨F, H, wipe σ vs, wipeE ρ vs⟩ := by
  refine ⟨ok.sub, (wipe_length σ vs).trans ok.ls, wipeE_len.trans ok.lr, fun i d h1 h2 => ?_, fun i k d h1 h2 h3 => ?_, fun i j p h1 h2 => ok.ap i j p ((own_wipe hv).mp h1) ((own_wipe hv).mp h2)⟩
  · obtain ⟨g1, g2⟩ := wipeE_get h2
    obtain ⟨v, g3, g4⟩ := ok.fz i d h1 g1
    exact ⟨v, by show (L2.wipe σ vs)[i]? = _; rw [wipe_get_out g2]; exact g3, g4⟩
  · obtain ⟨g1, g2⟩ := wipeE_get h3
    obtain ⟨p, g3, g4⟩ := ok.ow i k d h1 h2 g1
    exact ⟨p, by show (L2.wipe σ vs)[i]? = _; rw [wipe_get_out g2]; exact g3, g4⟩
theorem Stp.wipe (hv : fzAt O vs = true) {w : Wd} (st : Stp O w ⟨F, H, σ, ρ⟩) : Stp O w ⟨F, H, wipe σ vs, wipeE ρ vs⟩ := by
  have ni : ∀ {i : Nat} {k : Kd}, O[i]? = some k → k.pin = true → i ∉ vs := fun {i k} h1 h2 m => by
    rw [fzAt_get hv m] at h1
    cases h1
    cases h2
  refine ⟨st.ex, st.kp, st.nw, fun b ⟨i, h⟩ => st.fp b ⟨i, (own_wipe hv).mp h⟩, fun i k h1 h2 => ?_, fun i k h1 h2 => ?_, st.lo⟩
  · show (L2.wipe σ vs)[i]? = _
    rw [wipe_get_out (ni h1 h2)]
    exact st.pn i k h1 h2
  · show (wipeE ρ vs)[i]? = _
    rw [wipeE_out (ni h1 (Kd.pin_of h2))]
    exact st.lk i k h1 h2
end
/-- the new list at Dl on the way: what it holds so far -/
structure Acc (K : PySem.W.Frag) (L : List Kd) (w1 : Wd) (Dl : Addr) (w : Wd) (acc : List D) : Prop where
  ok : Ok K L w
  st : Stp L w1 w
  at_ : ∃ xs, w.H Dl = some (.lst xs) ∧ RpA K w.F acc xs
  nf : w.F Dl = none
  np : ¬ Fp L w Dl
  fr : w1.H Dl = none
section
variable {K : PySem.W.Frag} {L : List Kd} {w1 w w' : Wd} {Dl : Addr} {acc : List D}
theorem Acc.step (a : Acc K L w1 Dl w acc) (ok : Ok K L w') (st : Stp L w w') : Acc K L w1 Dl w' acc := by
  obtain ⟨xs, h1, h2⟩ := a.at_
  exact ⟨ok, a.st.trans st, ⟨xs, st.kp _ _ h1 a.np, h2.mono st.ex⟩, st.nw _ _ h1 a.np a.nf, st.nofp h1 a.np, a.fr⟩
theorem Acc.wipe {vs : List Nat} (hv : fzAt L vs = true) (a : Acc K L w1 Dl w acc) : Acc K L w1 Dl ⟨w.F, w.H, wipe w.σ vs, wipeE w.ρ vs⟩ acc :=
  ⟨a.ok.wipe hv, a.st.wipe hv, a.at_, a.nf, fun ⟨i, h⟩ => a.np ⟨i, (own_wipe hv).mp h⟩, a.fr⟩
/-- another content of what no slot owns -/
theorem Acc.push {d : D} {v : V} {xs : List V} (a : Acc K L w1 Dl w acc) (hx : w.H Dl = some (.lst xs)) (r : Rp K w.F d v) : Acc K L w1 Dl ⟨w.F, upd w.H Dl (.lst (xs ++ [v])), w.σ, w.ρ⟩ (acc ++ [d]) := by
  obtain ⟨ys, h1, h2⟩ := a.at_
  rw [hx] at h1
  cases h1
  have hne : ∀ {b : Addr}, Fp L w b → b ≠ Dl := fun {b} h z => a.np (by rw [← z]; exact h)
  refine ⟨⟨fun b u hb => ?_, a.ok.ls, a.ok.lr, a.ok.fz, fun i k d' e1 e2 e3 => ?_, a.ok.ap⟩, ⟨a.st.ex, fun b o hb z => ?_, fun b o hb z f => a.st.nw b o hb z f, a.st.fp, a.st.pn, a.st.lk, fun i k p d' e1 e2 e3 e4 => ?_⟩, ⟨xs ++ [v], upd_same, h2.append (.cons r .nil)⟩, a.nf, a.np, a.fr⟩
  · show upd w.H Dl _ b = _
    rw [upd_ne (ne_of_none hb a.nf)]
    exact a.ok.sub b u hb
  · obtain ⟨p, g1, g2, o, g3, g4⟩ := a.ok.ow i k d' e1 e2 e3
    exact ⟨p, g1, g2, o, by show upd w.H Dl _ p = _; rw [upd_ne (hne ⟨i, k, d', e1, e2, e3, g1⟩)]; exact g3, g4⟩
  · show upd w.H Dl _ b = _
    rw [upd_ne (ne_of_none hb a.fr)]
    exact a.st.kp b o hb z
  · have g := a.st.lo i k p d' e1 e2 e3 e4
    show upd w.H Dl _ p = _
    rw [upd_ne (hne ⟨i, k, d', e1, Kd.own_of e2, (a.st.lk i k e1 e2).trans e3, (a.st.pn i k e1 (Kd.pin_of e2)).trans e4⟩)]
    exact g
theorem Acc.new (ok : Ok K L w) (st : Stp L w1 w) (h : w.H Dl = none) (h1 : w1.H Dl = none) : Acc K L w1 Dl ⟨w.F, upd w.H Dl (.lst []), w.σ, w.ρ⟩ [] := by
  have pu := Pur.owned (F := w.F) ok.sub h (.lst [])
  obtain ⟨a, b⟩ := ok.pur pu
  exact ⟨a, st.trans b, ⟨[], upd_same, rfl⟩, ok.sub.free h, fun z => (by
    obtain ⟨_, o, q⟩ := ok.ownF (p := Dl) z
    rw [h] at q
    cases q), h1⟩
end
/-- a loop by turns: Pv by the turn and the heap -/
theorem in_it {J : It} {n : Nat} {G : Hp → Prop} {Y : Nat → Hp → V → Hp → Prop} (w : Walk J n G Y) {Nx : Hp → Prop} {Body : (Hp → Prop) → V → Hp → Prop} {H : Hp} (Pv : Nat → Hp → Prop) (h0 : Pv 0 H) (hG : ∀ i H, i ≤ n → Pv i H → G H)
    (hs : ∀ i x H H', i < n → Pv i H → Y i H x H' → Body (Pv (i + 1)) x H') (hd : ∀ H, Pv n H → Nx H) :
    ∃ W : Nat → Nat → Hp → Prop, (∃ m, W 0 m H) ∧ ∀ i m H, W i m H → (J.stop i H ∧ Nx H) ∨ (J.go i H ∧ ∃ N : Hp → Prop, (∀ H', N H' → ∃ m', m' < m ∧ W (i + 1) m' H') ∧ ∀ x H', J.yld i H x H' → Body N x H') := by
  refine ⟨fun i m H => m = n - i ∧ i ≤ n ∧ Pv i H, ⟨n, rfl, Nat.zero_le _, h0⟩, ?_⟩
  rintro i m H ⟨rfl, hi, p⟩
  have g := hG i H hi p
  by_cases lt : i < n
  · exact .inr ⟨w.goes i H lt g, Pv (i + 1), fun H' p' => ⟨n - (i + 1), by omega, rfl, lt, p'⟩, fun x H' y => hs i x H H' lt p (w.yields i H x H' lt g y)⟩
  · have e : i = n := by omega
    subst e
    exact .inl ⟨w.stops H g, hd H p⟩

def mYes : MT := fun ρ => some (true, ρ)
/-- the turns of a clause: target, tests, element -/
def mLcL : List D → MG → MT → M → List Nat → List D → En → Option (List D × En)
  | [], _, _, _, _, acc, ρ => some (acc, ρ)
  | d :: ds, g, t, e, vs, acc, ρ => (g d (wipeE ρ vs)).bind fun ρ1 => (t ρ1).bind fun p => if p.1 = true then (e p.2).bind fun q => if acc.length < 1000000 then mLcL ds g t e vs (acc ++ [q.1]) q.2 else none
      else mLcL ds g t e vs acc p.2
def mLc (mi : MI) (g : MG) (t : MT) (e : M) (vs : List Nat) : M := fun ρ => (mi ρ).bind fun p => (mLcL p.1 g t e vs [] p.2).map fun q => (.list q.1, restE p.2 vs q.2)
def mLc2L : List D → MG → MT → MI → MG → MT → M → List Nat → List Nat → List D → En → Option (List D × En)
  | [], _, _, _, _, _, _, _, _, acc, ρ => some (acc, ρ)
  | d :: ds, g, t, mi1, g1, t1, e, vs, vs1, acc, ρ => (g d (wipeE ρ vs)).bind fun ρ1 => (t ρ1).bind fun p => if p.1 = true then (mi1 p.2).bind fun z => (mLcL z.1 g1 t1 e vs1 acc z.2).bind fun q => mLc2L ds g t mi1 g1 t1 e vs vs1 q.1 q.2
      else mLc2L ds g t mi1 g1 t1 e vs vs1 acc p.2
def mLc2 (mi : MI) (g : MG) (t : MT) (mi1 : MI) (g1 : MG) (t1 : MT) (e : M) (vs vs1 : List Nat) : M := fun ρ => (mi ρ).bind fun p => (mLc2L p.1 g t mi1 g1 t1 e vs vs1 [] p.2).map fun q => (.list q.1, restE p.2 vs q.2)
def subL (is vs : List Nat) : Bool := is.all fun i => decide (i ∈ vs)
section
variable {K : PySem.W.Frag} {O L : List Kd} {g g1 : MG} {t t1 : MT} {e : M} {vs vs1 is is1 : List Nat} {σ : L2.St} {H : Hp} {Q : VK} {mi mi1 : MI}
/-- test and element of one turn -/
theorem turn_elt {w1 w : Wd} {Dl : Addr} {acc acc' : List D} {ρ' : En} {ds : List D} {Nx : Hp → Prop} (a : Acc K L w1 Dl w acc)
    (hm : ((t w.ρ).bind fun p => if p.1 = true then (e p.2).bind fun q => if acc.length < 1000000 then mLcL ds g t e vs (acc ++ [q.1]) q.2 else none else mLcL ds g t e vs acc p.2) = some (acc', ρ'))
    (I : Wd → Prop) (i0 : I w) (hI : ∀ u u', I u → Stp L u u' → I u') (hP : ∀ u xs, I u → ¬ Fp L u Dl → I ⟨u.F, upd u.H Dl (.lst xs), u.σ, u.ρ⟩)
    (k : ∀ w2 acc2, Acc K L w1 Dl w2 acc2 → I w2 → w2.σ = w.σ → mLcL ds g t e vs acc2 w2.ρ = some (acc', ρ') → Nx w2.H) :
    tT K L t w.σ w.H fun b H3 => if b = true then tE K L e .fz w.σ H3 fun y H4 => ∃ xs, H4 Dl = some (.lst xs) ∧ xs.length < sizeLine ∧ Nx (upd H4 Dl (.lst (xs ++ [y]))) else Nx H3 := by
  obtain ⟨⟨b, ρ2⟩, e1, e2⟩ := bind_some hm
  refine ⟨w.F, w.ρ, b, ρ2, a.ok, e1, fun F3 H3 ok3 st3 => ?_⟩
  have a3 := a.step ok3 st3
  have i3 := hI _ _ i0 st3
  cases b with
  | false =>
    dsimp only at e2 ⊢
    rw [if_neg Bool.false_ne_true] at e2 ⊢
    exact k _ _ a3 i3 rfl e2
  | true =>
    dsimp only at e2 ⊢
    rw [if_pos rfl] at e2 ⊢
    obtain ⟨⟨d, ρ3⟩, e3, e4⟩ := bind_some e2
    dsimp only at e4
    split at e4
    · rename_i hlt
      refine ⟨F3, ρ2, d, ρ3, ok3, e3, fun v F4 H4 ok4 st4 r4 => ?_⟩
      have a4 := a3.step ok4 st4
      obtain ⟨xs, x1, x2⟩ := a4.at_
      refine ⟨xs, x1, ?_, k _ _ (a4.push x1 r4) (hP _ _ (hI _ _ i3 st4) a4.np) rfl e4⟩
      rw [x2.length]
      exact Nat.lt_of_lt_of_le hlt (by decide)
    · cases e4
theorem lc_fin {F F1 H1 F2 H2 : Hp} {ρ ρ1 ρe : En} {Dl : Addr} {acc : List D} (hv : fzAt L vs = true) (hl : lkOf O L = true) (ok1 : Ok K O ⟨F1, H1, σ, ρ1⟩) (st1 : Stp O ⟨F, H, σ, ρ⟩ ⟨F1, H1, σ, ρ1⟩) (hD : H1 Dl = none)
    (a2 : Acc K L ⟨F1, H1, σ, ρ1⟩ Dl ⟨F2, H2, wipe σ vs, wipeE ρe vs⟩ acc) (l2 : ρe.length = O.length)
    (q : ∀ v F' H', Ok K O ⟨F', H', σ, restE ρ1 vs ρe⟩ → Stp O ⟨F, H, σ, ρ⟩ ⟨F', H', σ, restE ρ1 vs ρe⟩ → Rs K O ⟨F, H, σ, ρ⟩ ⟨F', H', σ, restE ρ1 vs ρe⟩ .ow (.list acc) v → Q v H') : Q (.ref Dl) H2 := by
  obtain ⟨xs, x1, x2⟩ := a2.at_
  have l1 : ρ1.length = O.length := ok1.lr
  have ow_of : ∀ {i : Nat} {p : Addr}, OwnAt O ⟨F2, H2, σ, restE ρ1 vs ρe⟩ i p → OwnAt L ⟨F2, H2, wipe σ vs, wipeE ρe vs⟩ i p := fun {i p} ⟨k, d', h1, h2, h3, h4⟩ => by
    have o : OwnAt L ⟨F2, H2, σ, restE ρ1 vs ρe⟩ i p := (lk_at hl).mpr ⟨k, d', h1, h2, h3, h4⟩
    obtain ⟨k, d', h1, h2, h3, h4⟩ := o
    have ni : i ∉ vs := fun m => by
      rw [fzAt_get hv m] at h1
      cases h1
      cases h2
    refine (own_wipe (F := F2) (H := H2) hv).mpr ⟨k, d', h1, h2, ?_, h4⟩
    have h3 : (restE ρ1 vs ρe)[i]? = _ := h3
    rw [restE_out ni] at h3
    exact h3
  have st2 := a2.st.unlock hl
  refine q (.ref Dl) F2 H2 ⟨a2.ok.sub, ok1.ls, by show (restE ρ1 vs ρe).length = _; rw [restE_len]; exact l2, fun i d' h1 h2 => ?_, fun i k d' h1 h2 h3 => ?_, fun i j p h1 h2 => a2.ok.ap i j p (ow_of h1) (ow_of h2)⟩
    (st1.trans ⟨a2.st.ex, st2.kp, st2.nw, fun b ⟨i, h⟩ => ?_, fun _ _ _ _ => rfl, fun i k h1 h2 => ?_, st2.lo⟩) ⟨Dl, rfl, a2.nf, ⟨_, x1, xs, rfl, x2⟩, fun ⟨i, h⟩ => a2.np ⟨i, ow_of h⟩, st1.back hD⟩
  · rcases restE_get h2 with ⟨m, z⟩ | ⟨m, z⟩
    · obtain ⟨v, g1, g2⟩ := ok1.fz i d' h1 z
      exact ⟨v, g1, g2.mono a2.st.ex⟩
    · obtain ⟨a', u1, u2⟩ := (lk_get hl).1 _ h1
      have u3 : L[i]? = some Kd.fz := by
        rcases u2 with u2 | ⟨u2, _⟩ | ⟨u2, _⟩
        · rw [u2]
          exact u1
        · cases u2
        · cases u2
      obtain ⟨v, g1, g2⟩ := a2.ok.fz i d' u3 (show (wipeE ρe vs)[i]? = _ by rw [wipeE_out m]; exact z)
      have g1 : (wipe σ vs)[i]? = _ := g1
      rw [wipe_get_out m] at g1
      exact ⟨v, g1, g2⟩
  · obtain ⟨a', u1, u2⟩ := (lk_get hl).1 _ h1
    have ni : i ∉ vs := fun m => by
      have z := fzAt_get hv m
      rw [u1] at z
      cases z
      rw [u2.own] at h2
      cases h2
    have h3 : (restE ρ1 vs ρe)[i]? = _ := h3
    rw [restE_out ni] at h3
    obtain ⟨p, g1, g2⟩ := a2.ok.ow i a' d' u1 (u2.own.symm.trans h2) (show (wipeE ρe vs)[i]? = _ by rw [wipeE_out ni]; exact h3)
    have g1 : (wipe σ vs)[i]? = _ := g1
    rw [wipe_get_out ni] at g1
    exact ⟨p, g1, g2⟩
  · exact st2.fp b ((lk_fp hl).mp ⟨i, ow_of h⟩)
  · obtain ⟨a', u1, u2⟩ := (lk_get hl).1 _ h1
    have ni : i ∉ vs := fun m => by
      have z := fzAt_get hv m
      rw [u1] at z
      cases z
      have := u2.lock h2
      cases this
    have z := st2.lk i k h1 h2
    show (restE ρ1 vs ρe)[i]? = _
    rw [restE_out ni]
    have z : (wipeE ρe vs)[i]? = ρ1[i]? := z
    rw [wipeE_out ni] at z
    exact z
theorem tLc_of (hv : fzAt L vs = true) (hl : lkOf O L = true) (his : subL is vs = true) (h : tE K O (mLc mi g t e vs) .ow σ H Q) : tLc (tI K O L mi) (tG K L g is) (tT K L t) (tE K L e .fz) vs σ H Q := by
  obtain ⟨F, ρ, d, ρ', ok, hm, q⟩ := h
  obtain ⟨⟨ds, ρ1⟩, e1, e2⟩ := bind_some hm
  obtain ⟨⟨acc, ρe⟩, e3, e4⟩ := map_some e2
  cases e4
  refine ⟨F, ρ, ds, ρ1, ok, e1, fun J F1 H1 G ok1 st1 wk hG Dl hD => ?_⟩
  have sub : ∀ i, i ∈ is → i ∈ vs := fun i hi => of_decide_eq_true (List.all_eq_true.mp his i hi)
  have okL := ok1.lock hl
  have a0 : Acc K L ⟨F1, H1, σ, ρ1⟩ Dl ⟨F1, upd H1 Dl (.lst []), wipe σ vs, wipeE ρ1 vs⟩ [] := (Acc.new okL (.refl _ _) hD hD).wipe hv
  refine in_it wk (fun i H2 => ∃ F2 ρ2 a, Acc K L ⟨F1, H1, σ, ρ1⟩ Dl ⟨F2, H2, wipe σ vs, wipeE ρ2 vs⟩ a ∧ ρ2.length = O.length ∧ mLcL (ds.drop i) g t e vs a ρ2 = some (acc, ρe))
    ⟨F1, ρ1, [], a0, ok1.lr, e3⟩ (fun i H2 _ ⟨F2, ρ2, a, a2, _, _⟩ => hG Zno zno _ a2.ok (a2.st.q _)) (fun i x H2 H3 hi ⟨F2, ρ2, a, a2, l2, m2⟩ y => ?_) fun H2 ⟨F2, ρ2, a, a2, l2, m2⟩ => ?_
  · obtain ⟨F3, pu, d, hd, rp⟩ := y F2 a2.st.ex a2.ok.sub
    rw [drop_get hd] at m2
    obtain ⟨ρ3, g1, g2⟩ := bind_some m2
    obtain ⟨ok3, st3⟩ := a2.ok.pur pu
    have a3 := a2.step ok3 st3
    refine ⟨F3, wipeE ρ2 vs, d, ρ3, ok3, rp, g1, fun σ4 ok4 st4 cov => ?_⟩
    have a4 := a3.step ok4 st4
    have hw : wipe σ4 vs = wipe σ vs := by
      have l4 : σ4.length = (wipe σ vs).length := ok4.ls.trans ok3.ls.symm
      rw [wipe_eq l4 fun j hj => cov j fun z => hj (sub j z), wipe_idem]
    refine ⟨hw, turn_elt a4 g2 (fun _ => True) trivial (fun _ _ _ _ => trivial) (fun _ _ _ _ => trivial) fun w2 acc2 a5 _ hs m5 => ⟨w2.F, w2.ρ, acc2, ?_, (a5.ok.lr).trans (lk_len hl).symm, m5⟩⟩
    have a6 := a5.wipe hv
    rw [hs, hw] at a6
    exact a6
  · rw [List.drop_length] at m2
    cases m2
    exact lc_fin hv hl ok1 st1 hD a2 l2 q
theorem tLc2_of (hv : fzAt L vs = true) (hl : lkOf O L = true) (his : subL is vs = true) (his1 : subL is1 vs1 = true) (hv1 : subL vs1 vs = true) (h : tE K O (mLc2 mi g t mi1 g1 t1 e vs vs1) .ow σ H Q) :
    tLc2 (tI K O L mi) (tG K L g is) (tT K L t) (tI K L L mi1) (tG K L g1 is1) (tT K L t1) (tE K L e .fz) vs vs1 σ H Q := by
  obtain ⟨F, ρ, d, ρ', ok, hm, q⟩ := h
  obtain ⟨⟨ds, ρ1⟩, e1, e2⟩ := bind_some hm
  obtain ⟨⟨acc, ρe⟩, e3, e4⟩ := map_some e2
  cases e4
  refine ⟨F, ρ, ds, ρ1, ok, e1, fun J F1 H1 G ok1 st1 wk hG Dl hD => ?_⟩
  have sub : ∀ i, i ∈ is → i ∈ vs := fun i hi => of_decide_eq_true (List.all_eq_true.mp his i hi)
  have sub1 : ∀ i, i ∈ is1 → i ∈ vs1 := fun i hi => of_decide_eq_true (List.all_eq_true.mp his1 i hi)
  have subv : ∀ i, i ∈ vs1 → i ∈ vs := fun i hi => of_decide_eq_true (List.all_eq_true.mp hv1 i hi)
  have fz1 : fzAt L vs1 = true := by
    have key : ∀ l : List Nat, (∀ i, i ∈ l → i ∈ vs) → fzAt L l = true := fun l => by
      induction l with
      | nil => exact fun _ => rfl
      | cons a l ih => exact fun z => Bool.and_eq_true_iff.mpr ⟨decide_eq_true (fzAt_get hv (z a List.mem_cons_self)), ih fun i hi => z i (List.mem_cons_of_mem _ hi)⟩
    exact key vs1 subv
  have okL := ok1.lock hl
  have a0 : Acc K L ⟨F1, H1, σ, ρ1⟩ Dl ⟨F1, upd H1 Dl (.lst []), wipe σ vs, wipeE ρ1 vs⟩ [] := (Acc.new okL (.refl _ _) hD hD).wipe hv
  refine in_it wk (fun i H2 => ∃ F2 ρ2 a, Acc K L ⟨F1, H1, σ, ρ1⟩ Dl ⟨F2, H2, wipe σ vs, wipeE ρ2 vs⟩ a ∧ ρ2.length = O.length ∧ mLc2L (ds.drop i) g t mi1 g1 t1 e vs vs1 a ρ2 = some (acc, ρe))
    ⟨F1, ρ1, [], a0, ok1.lr, e3⟩ (fun i H2 _ ⟨F2, ρ2, a, a2, _, _⟩ => hG Zno zno _ a2.ok (a2.st.q _)) (fun i x H2 H3 hi ⟨F2, ρ2, a, a2, l2, m2⟩ y => ?_) fun H2 ⟨F2, ρ2, a, a2, l2, m2⟩ => ?_
  · obtain ⟨F3, pu, d, hd, rp⟩ := y F2 a2.st.ex a2.ok.sub
    rw [drop_get hd] at m2
    obtain ⟨ρ3, q1, q2⟩ := bind_some m2
    obtain ⟨⟨b, ρ4⟩, q3, q4⟩ := bind_some q2
    obtain ⟨ok3, st3⟩ := a2.ok.pur pu
    have a3 := a2.step ok3 st3
    refine ⟨F3, wipeE ρ2 vs, d, ρ3, ok3, rp, q1, fun σ4 ok4 st4 cov => ?_⟩
    have a4 := a3.step ok4 st4
    have hw : wipe σ4 vs = wipe σ vs := by
      have l4 : σ4.length = (wipe σ vs).length := ok4.ls.trans ok3.ls.symm
      rw [wipe_eq l4 fun j hj => cov j fun z => hj (sub j z), wipe_idem]
    refine ⟨hw, F3, ρ3, b, ρ4, ok4, q3, fun F5 H5 ok5 st5 => ?_⟩
    have a5 := a4.step ok5 st5
    have back : ∀ {w2 : Wd} {acc2 : List D}, Acc K L ⟨F1, H1, σ, ρ1⟩ Dl w2 acc2 → wipe w2.σ vs = wipe σ vs → mLc2L (ds.drop (i + 1)) g t mi1 g1 t1 e vs vs1 acc2 w2.ρ = some (acc, ρe) →
        ∃ F2 ρ2 a, Acc K L ⟨F1, H1, σ, ρ1⟩ Dl ⟨F2, w2.H, wipe σ vs, wipeE ρ2 vs⟩ a ∧ ρ2.length = O.length ∧ mLc2L (ds.drop (i + 1)) g t mi1 g1 t1 e vs vs1 a ρ2 = some (acc, ρe) := fun {w2 acc2} a6 hs m6 => by
      have a7 := a6.wipe hv
      rw [hs] at a7
      exact ⟨w2.F, w2.ρ, acc2, a7, (a6.ok.lr).trans (lk_len hl).symm, m6⟩
    cases b with
    | false =>
      dsimp only at q4 ⊢
      rw [if_neg Bool.false_ne_true] at q4 ⊢
      exact back a5 hw q4
    | true =>
      dsimp only at q4 ⊢
      rw [if_pos rfl] at q4 ⊢
      obtain ⟨⟨es, ρ6⟩, q5, q6⟩ := bind_some q4
      obtain ⟨⟨acc6, ρ7⟩, q7, q8⟩ := bind_some q6
      refine ⟨F5, ρ4, es, ρ6, ok5, q5, fun J1 F6 H6 G1 ok6 st6 wk1 hG1 => ?_⟩
      have a6 := a5.step ok6 st6
      have hz : Zok L ⟨F5, H5, σ4, ρ4⟩ (fun b => b = Dl) := fun b hb => by
        subst hb
        obtain ⟨xs, x1, _⟩ := a5.at_
        exact ⟨⟨_, x1⟩, a5.nf, a5.np⟩
      refine in_it wk1 (fun j H7 => ∃ F7 ρ8 a, Acc K L ⟨F1, H1, σ, ρ1⟩ Dl ⟨F7, H7, wipe σ4 vs1, wipeE ρ8 vs1⟩ a ∧ Stq L (fun b => b = Dl) ⟨F6, H6, σ4, ρ6⟩ ⟨F7, H7, wipe σ4 vs1, wipeE ρ8 vs1⟩ ∧ ρ8.length = O.length ∧ mLcL (es.drop j) g1 t1 e vs1 a ρ8 = some (acc6, ρ7))
        ⟨F6, ρ6, a, a6.wipe fz1, ((Stp.refl _ _).wipe fz1).q _, (ok6.lr).trans (lk_len hl).symm, q7⟩ (fun j H7 _ ⟨F7, ρ8, a, a7, s7, _, _⟩ => hG1 _ hz _ a7.ok s7) (fun j x H7 H8 hj ⟨F7, ρ8, a, a7, s7, l7, m7⟩ y => ?_) fun H7 ⟨F7, ρ8, a, a7, s7, l7, m7⟩ => ?_
      · obtain ⟨F8, pu, d, hd, rp⟩ := y F7 s7.ex a7.ok.sub
        rw [drop_get hd] at m7
        obtain ⟨ρ9, r1, r2⟩ := bind_some m7
        obtain ⟨ok8, st8⟩ := a7.ok.pur pu
        have a8 := a7.step ok8 st8
        refine ⟨F8, wipeE ρ8 vs1, d, ρ9, ok8, rp, r1, fun σ9 ok9 st9 cov => ?_⟩
        have a9 := a8.step ok9 st9
        have hw1 : wipe σ9 vs1 = wipe σ4 vs1 := by
          have l4 : σ9.length = (wipe σ4 vs1).length := ok9.ls.trans ok8.ls.symm
          rw [wipe_eq l4 fun j hj => cov j fun z => hj (sub1 j z), wipe_idem]
        refine ⟨hw1, turn_elt a9 r2 (fun u => Stq L (fun b => b = Dl) ⟨F6, H6, σ4, ρ6⟩ u) ((s7.step st8).step st9) (fun u u' h s => h.step s) (fun u xs h n => ?_) fun w2 acc2 a10 s10 hs m10 => ?_⟩
        · refine ⟨h.ex, fun b o z hb nb => ?_, h.pn, h.lk, fun i k p d' g1 g2 g3 g4 => ?_⟩
          · obtain ⟨z1, z2⟩ := h.kp b o z hb nb
            exact ⟨by show upd u.H Dl _ b = _; rw [upd_ne z]; exact z1, z2⟩
          · have z1 := h.lo i k p d' g1 g2 g3 g4
            have hp : p ≠ Dl := fun e => n (by
              rw [← e]
              exact ⟨i, k, d', g1, Kd.own_of g2, (h.lk i k g1 g2).trans g3, (h.pn i k g1 (Kd.pin_of g2)).trans g4⟩)
            show upd u.H Dl _ p = _
            rw [upd_ne hp]
            exact z1
        · have a11 := a10.wipe fz1
          have s11 : Stq L (fun b => b = Dl) ⟨F6, H6, σ4, ρ6⟩ ⟨w2.F, w2.H, wipe w2.σ vs1, wipeE w2.ρ vs1⟩ := s10.step ((Stp.refl _ _).wipe fz1)
          rw [hs, hw1] at a11 s11
          exact ⟨w2.F, w2.ρ, acc2, a11, s11, (a10.ok.lr).trans (lk_len hl).symm, m10⟩
      · rw [List.drop_length] at m7
        cases m7
        have a8 := a7.wipe hv
        have e8 : wipe (wipe σ4 vs1) vs = wipe σ vs := by
          rw [← hw]
          exact wipe_eq (wipe_length _ _) fun j hj => wipe_get_out fun z => hj (subv j z)
        rw [show wipeE (wipeE ρ7 vs1) vs = wipeE ρ7 vs from wipeE_sub subv] at a8
        rw [show wipe (wipe σ4 vs1) vs = wipe σ vs from e8] at a8
        exact ⟨F7, ρ7, acc6, a8, l7, q8⟩
  · rw [List.drop_length] at m2
    cases m2
    exact lc_fin hv hl ok1 st1 hD a2 l2 q
end
section
variable {X : Cx} {O L : List Kd} {elt tg iter tg1 iter1 : Expr} {ifs ifs1 : List Expr} {scope : Scope} {own : List (Str × Nat)} {pos spos : Pos} {mi mi1 : MI} {g g1 : MG} {is is1 vs1 : List Nat} {t t1 : MT} {e : M} {r : Ak}
theorem PTsi {X : Cx} {t t' : TT} (h : PTs X ifs t) (k : ∀ σ H Q, t' σ H Q → t σ H Q) : PTs X ifs t' := ⟨fun pins s σ H Q I q => h.run pins s σ H Q I (k σ H Q q)⟩
theorem ts_nil {X : Cx} {K : PySem.W.Frag} : PTs X [] (tT K L mYes) := PTsi pts_nil fun σ H Q ⟨F, ρ, b, ρ', ok, hm, q⟩ => by
  cases hm
  exact q F H ok (.refl _ _)
theorem ts_one {X : Cx} {c : Expr} {K : PySem.W.Frag} (h : PT X c (tT K L t)) : PTs X [c] (tT K L t) := pts_one h
theorem e_lc (hc : X.calm = true) (hN : X.N.Nodup) (hi : PI X tg iter (tI X.K O L mi)) (ok : BlkOk X.N X.env.scope scope own)
    (hg : ∀ (s : Shared) (H : Hp) (C : Addr) (cl : List (Str × Addr)) (fp : List Addr), PG (X.blk s H scope (compEnvC scope cl C X.env) fp) tg (tG X.K L g is)) (ht : ∀ (s : Shared) (H : Hp) (C : Addr) (cl : List (Str × Addr)) (fp : List Addr), PTs (X.blk s H scope (compEnvC scope cl C X.env) fp) ifs (tT X.K L t))
    (he : ∀ (s : Shared) (H : Hp) (C : Addr) (cl : List (Str × Addr)) (fp : List Addr), PE (X.blk s H scope (compEnvC scope cl C X.env) fp) elt (tE X.K L e .fz)) (hv : fzAt L (own.map (·.2)) = true := by rfl) (hl : lkOf O L = true := by rfl) (his : subL is (own.map (·.2)) = true := by rfl) (hs : ∀ x, foldedSetIterable iter X.env x = pure x := by intro _; rfl) :
    PE X (.ListComp elt [⟨tg, iter, ifs, 0⟩] scope pos) (tE X.K O (mLc mi g t e (own.map (·.2))) .ow) := PEi (pe_lc hc hN hi ok hg ht he hs) fun _ _ _ h => tLc_of hv hl his h
theorem asg_imp {te te' : TE} {i : Nat} {D : Ends} {σ : L2.St} {H : Hp} (k : ∀ σ H Q, te' σ H Q → te σ H Q) (h : tAsg te' (gName i) D σ H) : tAsg te (gName i) D σ H := k _ _ _ h
/-- name = [..] on one line, the name a plain local, an owned slot -/
theorem s_lcO (i : Nat) {y : Str} {py : Pos} (hc : X.calm = true) (hN : X.N.Nodup) (hi : PI X tg iter (tI X.K O L mi)) (ok : BlkOk X.N X.env.scope scope own)
    (hg : ∀ (s : Shared) (H : Hp) (C : Addr) (cl : List (Str × Addr)) (fp : List Addr), PG (X.blk s H scope (compEnvC scope cl C X.env) fp) tg (tG X.K L g is)) (ht : ∀ (s : Shared) (H : Hp) (C : Addr) (cl : List (Str × Addr)) (fp : List Addr), PTs (X.blk s H scope (compEnvC scope cl C X.env) fp) ifs (tT X.K L t))
    (he : ∀ (s : Shared) (H : Hp) (C : Addr) (cl : List (Str × Addr)) (fp : List Addr), PE (X.blk s H scope (compEnvC scope cl C X.env) fp) elt (tE X.K L e .fz)) (hsw : swapsWith (.ListComp elt [⟨tg, iter, ifs, 0⟩] scope pos) (some (.Name y py)) spos.line X.env = pure true)
    (hO : O[i]? = some Kd.ow := by rfl) (hy : X.N[i]? = some y := by rfl) (hyl : X.env.scope.names.lookup y = some .local := by rfl) (hv : fzAt L (own.map (·.2)) = true := by rfl) (hl : lkOf O L = true := by rfl) (his : subL is (own.map (·.2)) = true := by rfl) (hs : ∀ x, foldedSetIterable iter X.env x = pure x := by intro _; rfl) :
    PS X (.Assign [.Name y py] (.ListComp elt [⟨tg, iter, ifs, 0⟩] scope pos) spos) (tS X.K O (mSet i (mLc mi g t e (own.map (·.2)))) r) :=
  PSi (ps_setLc hc hN hy hyl hsw hi ok hg ht he hs) fun _ _ _ h => asg_imp (fun _ _ _ z => tLc_of hv hl his z) (asgOw hO h)
theorem frzE {K : PySem.W.Frag} {m : M} {σ : L2.St} {H : Hp} {Q : VK} (h : tE K O m .fz σ H Q) : tE K O m .ow σ H Q := by
  obtain ⟨F, ρ, d, ρ', ok, hm, k⟩ := h
  refine ⟨F, ρ, d, ρ', ok, hm, fun v F' H' ok' st r => ?_⟩
  obtain ⟨F2, a, b, c⟩ := frz_out ok' st r
  exact k v F2 H' a b c
theorem s_lcF (i : Nat) {y : Str} {py : Pos} (hc : X.calm = true) (hN : X.N.Nodup) (hi : PI X tg iter (tI X.K O L mi)) (ok : BlkOk X.N X.env.scope scope own)
    (hg : ∀ (s : Shared) (H : Hp) (C : Addr) (cl : List (Str × Addr)) (fp : List Addr), PG (X.blk s H scope (compEnvC scope cl C X.env) fp) tg (tG X.K L g is)) (ht : ∀ (s : Shared) (H : Hp) (C : Addr) (cl : List (Str × Addr)) (fp : List Addr), PTs (X.blk s H scope (compEnvC scope cl C X.env) fp) ifs (tT X.K L t))
    (he : ∀ (s : Shared) (H : Hp) (C : Addr) (cl : List (Str × Addr)) (fp : List Addr), PE (X.blk s H scope (compEnvC scope cl C X.env) fp) elt (tE X.K L e .fz)) (hsw : swapsWith (.ListComp elt [⟨tg, iter, ifs, 0⟩] scope pos) (some (.Name y py)) spos.line X.env = pure true)
    (hO : O[i]? = some Kd.fz := by rfl) (hy : X.N[i]? = some y := by rfl) (hyl : X.env.scope.names.lookup y = some .local := by rfl) (hv : fzAt L (own.map (·.2)) = true := by rfl) (hl : lkOf O L = true := by rfl) (his : subL is (own.map (·.2)) = true := by rfl) (hs : ∀ x, foldedSetIterable iter X.env x = pure x := by intro _; rfl) :
    PS X (.Assign [.Name y py] (.ListComp elt [⟨tg, iter, ifs, 0⟩] scope pos) spos) (tS X.K O (mSet i (mLc mi g t e (own.map (·.2)))) r) :=
  PSi (ps_setLc hc hN hy hyl hsw hi ok hg ht he hs) fun _ _ _ h => asg_imp (fun _ _ _ z => tLc_of hv hl his (frzE z)) (asgFz hO h)
theorem e_lc2 (hc : X.calm = true) (hN : X.N.Nodup) (hi : PI X tg iter (tI X.K O L mi)) (ok : BlkOk X.N X.env.scope scope own) (hg : ∀ (s : Shared) (H : Hp) (C : Addr) (cl : List (Str × Addr)) (fp : List Addr), PG (X.blk s H scope (compEnvC scope cl C X.env) fp) tg (tG X.K L g is))
    (ht : ∀ (s : Shared) (H : Hp) (C : Addr) (cl : List (Str × Addr)) (fp : List Addr), PTs (X.blk s H scope (compEnvC scope cl C X.env) fp) ifs (tT X.K L t)) (hi1 : ∀ (s : Shared) (H : Hp) (C : Addr) (cl : List (Str × Addr)) (fp : List Addr), PI (X.blk s H scope (compEnvC scope cl C X.env) fp) tg1 iter1 (tI X.K L L mi1))
    (hg1 : ∀ (s : Shared) (H : Hp) (C : Addr) (cl : List (Str × Addr)) (fp : List Addr), PG (X.blk s H scope (compEnvC scope cl C X.env) fp) tg1 (tG X.K L g1 is1)) (ht1 : ∀ (s : Shared) (H : Hp) (C : Addr) (cl : List (Str × Addr)) (fp : List Addr), PTs (X.blk s H scope (compEnvC scope cl C X.env) fp) ifs1 (tT X.K L t1))
    (he : ∀ (s : Shared) (H : Hp) (C : Addr) (cl : List (Str × Addr)) (fp : List Addr), PE (X.blk s H scope (compEnvC scope cl C X.env) fp) elt (tE X.K L e .fz)) (hv1 : subL vs1 (own.map (·.2)) = true := by rfl) (hv : fzAt L (own.map (·.2)) = true := by rfl) (hl : lkOf O L = true := by rfl) (his : subL is (own.map (·.2)) = true := by rfl) (his1 : subL is1 vs1 = true := by rfl)
    (hs : ∀ x, foldedSetIterable iter X.env x = pure x := by intro _; rfl) (hs1 : ∀ env x, foldedSetIterable iter1 env x = pure x := by intro _ _; rfl) :
    PE X (.ListComp elt [⟨tg, iter, ifs, 0⟩, ⟨tg1, iter1, ifs1, 0⟩] scope pos) (tE X.K O (mLc2 mi g t mi1 g1 t1 e (own.map (·.2)) vs1) .ow) :=
  PEi (pe_lc2 hc hN hi ok (fun i hi => of_decide_eq_true (List.all_eq_true.mp hv1 i hi)) hg ht hi1 hg1 ht1 he hs hs1) fun _ _ _ h => tLc2_of hv hl his his1 hv1 h
end
end DL

/-! DLA: built-ins, subscripts, slices, methods that change a slot's list. -/
namespace DL
open PySem PySem.Spec PyProof.Rows L2

section
variable {X : Cx} {O L : List Kd} {e a b : Expr} {es : List Expr} {ma : MA} {m mb : M} {ks : List Ak} {ka kb k : Ak} {op : List D → Option D} {x : Str} {p pos : Pos} {r : List V → Hp → VK → Prop} {id T : String}
/-! ### calls of built-ins -/
theorem e_blt (hc : CallR X (.builtin id) r) (hs : LSem X.K r op k) (hm : X.mg x = none) (hv : bootBuiltins x = some (.builtin id)) (ha : PA X (e :: es) (tA X.K O ma ks)) (hg : Gl X x := by rfl) (hn : x ≠ "__name__" := by decide) (hdb : (x == ("__debug__" : Str)) = false := by decide)
    (he : starEach (e :: es) X.env = (false, eval e X.env) :: starEach es X.env := by rfl) (hpl : (backTo pos (starEach es X.env)).any (·.1) = false := by rfl) : PE X (.Call (.Name x p) (e :: es) [] pos) (tE X.K O (mOp ks ma op) k) :=
  PEi (pe_callB hc hg hm hv ha hn hdb he hpl) fun _ _ _ h => tA_op hs h
theorem e_bty (hc : CallR X (.type T) r) (hs : LSem X.K r op k) (hm : X.mg x = none) (hv : bootBuiltins x = some (.type T)) (ha : PA X (e :: es) (tA X.K O ma ks)) (hg : Gl X x := by rfl) (hn : x ≠ "__name__" := by decide) (hdb : (x == ("__debug__" : Str)) = false := by decide)
    (he : starEach (e :: es) X.env = (false, eval e X.env) :: starEach es X.env := by rfl) (hpl : (backTo pos (starEach es X.env)).any (·.1) = false := by rfl) : PE X (.Call (.Name x p) (e :: es) [] pos) (tE X.K O (mOp ks ma op) k) :=
  PEi (pe_callTy hc hg hm hv ha hn hdb he hpl) fun _ _ _ h => tA_op hs h
end

/-! ### what they make -/
section
variable {K : PySem.W.Frag}
def dLen : List D → Option D
  | [.list ds] => some (.int ds.length)
  | [.tuple ds] => some (.int ds.length)
  | [.str z] => if z.length ≤ 100000 then some (.int z.length) else none
  | _ => none
theorem s_len : LSem K (fun xs H Q => ∃ x n, xs = [x] ∧ LenV K x H n ∧ Q (.int n) H) dLen .fz := by
  intro F H ds vs d Q s hv ho q
  unfold dLen at ho
  split at ho
  · rename_i es
    cases ho
    obtain ⟨v, rfl, a, xs, rfl, h1, h2⟩ := hv.one
    exact ⟨_, es.length, rfl, .inl ⟨xs, h1, by rw [h2.length]⟩, q.now s rfl⟩
  · rename_i es
    cases ho
    obtain ⟨v, rfl, a, xs, rfl, h1, h2⟩ := hv.one
    exact ⟨_, es.length, rfl, .inr ⟨xs, same_sqt s h1, by rw [h2.length]⟩, q.now s rfl⟩
  · rename_i z
    split at ho
    · rename_i hz
      cases ho
      obtain ⟨v, rfl, h⟩ := hv.one
      have h : v = .str z := h
      subst h
      exact ⟨_, z.length, rfl, ⟨Nat.le_trans hz (by decide), rfl⟩, q.now s rfl⟩
    · cases ho
  · cases ho
def dList : List D → Option D
  | [.list ds] => some (.list ds)
  | [.tuple ds] => some (.list ds)
  | _ => none
theorem s_list : LSem K (fun xs H Q => ∃ p ys, xs = [.ref p] ∧ (SqL K H p ys ∨ SqT K H p ys) ∧ ∀ l, H l = none → Q (.ref l) (upd H l (.lst ys))) dList .ow := by
  intro F H ds vs d Q s hv ho q
  unfold dList at ho
  split at ho
  · rename_i es
    cases ho
    obtain ⟨v, rfl, a, xs, rfl, h1, h2⟩ := hv.one
    exact ⟨a, xs, rfl, .inl h1, q.lst s h2⟩
  · rename_i es
    cases ho
    obtain ⟨v, rfl, a, xs, rfl, h1, h2⟩ := hv.one
    exact ⟨a, xs, rfl, .inr (same_sqt s h1), q.lst s h2⟩
  · cases ho
def dTuple : List D → Option D
  | [.list ds] => some (.tuple ds)
  | [.tuple ds] => some (.tuple ds)
  | _ => none
theorem s_tuple : LSem K (fun xs H Q => ∃ p ys, xs = [.ref p] ∧ ((SqL K H p ys ∧ ∀ l, H l = none → Q (.ref l) (upd H l (.tup ys))) ∨ (SqT K H p ys ∧ Q (.ref p) H))) dTuple .fz := by
  intro F H ds vs d Q s hv ho q
  unfold dTuple at ho
  split at ho
  · rename_i es
    cases ho
    obtain ⟨v, rfl, a, xs, rfl, h1, h2⟩ := hv.one
    exact ⟨a, xs, rfl, .inl ⟨h1, q.tup s h2⟩⟩
  · rename_i es
    cases ho
    obtain ⟨v, rfl, a, xs, rfl, h1, h2⟩ := hv.one
    exact ⟨a, xs, rfl, .inr ⟨same_sqt s h1, q.now s ⟨a, xs, rfl, h1, h2⟩⟩⟩
  · cases ho
def bools : List D → Option (List Bool)
  | [] => some []
  | .bool b :: ds => (bools ds).map (b :: ·)
  | _ :: _ => none
theorem bools_v {F : Hp} : ∀ {ds : List D} {bs : List Bool} {xs : List V}, bools ds = some bs → RpA K F ds xs → xs = bs.map V.bl
  | [], bs, xs, h, r => by
    cases h
    exact r
  | .bool b :: ds, bs, xs, h, r => by
    obtain ⟨cs, h1, rfl⟩ := map_some h
    obtain ⟨v, vs, rfl, r1, r2⟩ := r
    have r1 : v = .bl b := r1
    rw [r1, bools_v h1 r2]
    rfl
  | .none :: _, _, _, h, _ => by cases h
  | .int _ :: _, _, _, h, _ => by cases h
  | .str _ :: _, _, _, h, _ => by cases h
  | .list _ :: _, _, _, h, _ => by cases h
  | .tuple _ :: _, _, _, h, _ => by cases h
  | .dict _ :: _, _, _, h, _ => by cases h
def dAll : List D → Option D
  | [.list ds] => (bools ds).map fun bs => .bool (bs.all id)
  | _ => none
def dAny : List D → Option D
  | [.list ds] => (bools ds).map fun bs => .bool (bs.any id)
  | _ => none
theorem s_all : LSem K (rAll K) dAll .fz := by
  intro F H ds vs d Q s hv ho q
  unfold dAll at ho
  split at ho
  · rename_i es
    obtain ⟨bs, h1, rfl⟩ := map_some ho
    obtain ⟨v, rfl, a, xs, rfl, h2, h3⟩ := hv.one
    have e := bools_v h1 h3
    subst e
    exact ⟨a, bs, rfl, h2, q.now s rfl⟩
  · cases ho
theorem s_any : LSem K (rAny K) dAny .fz := by
  intro F H ds vs d Q s hv ho q
  unfold dAny at ho
  split at ho
  · rename_i es
    obtain ⟨bs, h1, rfl⟩ := map_some ho
    obtain ⟨v, rfl, a, xs, rfl, h2, h3⟩ := hv.one
    have e := bools_v h1 h3
    subst e
    exact ⟨a, bs, rfl, h2, q.now s rfl⟩
  · cases ho
/-! ### isinstance against a built-in type -/
def tyD : D → String
  | .none => "NoneType"
  | .bool _ => "bool"
  | .int _ => "int"
  | .str _ => "str"
  | .list _ => "list"
  | .tuple _ => "tuple"
  | .dict _ => "dict"
def dIs (n : String) : List D → Option D
  | [d] => (match n with
    | "int" => some (.bool (match d with | .int _ => true | .bool _ => true | _ => false))
    | "bool" => some (.bool (match d with | .bool _ => true | _ => false))
    | "str" => some (.bool (match d with | .str _ => true | _ => false))
    | "list" => some (.bool (match d with | .list _ => true | _ => false))
    | "tuple" => some (.bool (match d with | .tuple _ => true | _ => false))
    | "dict" => some (.bool (match d with | .dict _ => true | _ => false))
    | _ => none)
  | _ => none
theorem sql_ty {H : Hp} {a : Addr} {xs : List V} (h : SqL K H a xs) : TyX K H (.ref a) (.type "list") := by
  rcases h with (h | ⟨o, h⟩) | ⟨o, _, _, h1, h2, _⟩
  · exact .base (.lst h)
  · exact .base (.frz h)
  · exact .kList h1 h2
theorem sqt_ty {H : Hp} {a : Addr} {xs : List V} (h : SqT K H a xs) : TyX K H (.ref a) (.type "tuple") := by
  rcases h with (h | ⟨o, h⟩) | ⟨o, _, _, h1, h2, _⟩
  · exact .base (.tup h)
  · exact .fTuple h
  · exact .kTuple h1 h2
theorem dk_ty {H : Hp} {a : Addr} {kvs : List (Key × V)} (h : Rd H a (.dK kvs)) : TyX K H (.ref a) (.type "dict") := by
  rcases h with h | ⟨o, h⟩
  · exact .base (.dK h)
  · exact .fDict h
theorem vw_ty {F H : Hp} (s : Same F H) : ∀ {d : D} {v : V}, Vw K F H d v → TyX K H v (.type (tyD d))
  | .none, v, h => by
    have h : v = .non := h
    rw [h]
    exact .base .non
  | .bool b, v, h => by
    have h : v = .bl b := h
    rw [h]
    exact .base (.bl b)
  | .int i, v, h => by
    have h : v = .int i := h
    rw [h]
    exact .base (.int i)
  | .str z, v, h => by
    have h : v = .str z := h
    rw [h]
    exact .base (.str z)
  | .list ds, v, ⟨a, xs, e, h1, _⟩ => by
    rw [e]
    exact sql_ty h1
  | .tuple ds, v, ⟨a, xs, e, h1, _⟩ => by
    rw [e]
    exact sqt_ty (same_sqt s h1)
  | .dict ds, v, ⟨a, xs, e, h1, _⟩ => by
    rw [e]
    exact dk_ty h1
theorem is_kit : ∀ {n : String} {d : D} {z : D}, dIs n [d] = some z → ∃ b, z = .bool b ∧ PySem.W.kitOne K (.type (tyD d)) (.type n) = some b := fun {n d z} h => by
  unfold dIs at h
  dsimp only at h
  split at h <;> first
    | (cases h; done)
    | (cases h; refine ⟨_, rfl, ?_⟩; cases d <;> (dsimp only [tyD]; exact kit_ty (by decide +kernel)))
end
section
variable {X : Cx} {O L : List Kd} {e a b : Expr} {es : List Expr} {ma : MA} {m mb : M} {ks : List Ak} {ka kb k : Ak} {op : List D → Option D} {x : Str} {p q pos apos : Pos} {T id : String} {i : Nat}
theorem e_isi {n : String} {nx : Str} (hm : X.mg "isinstance" = none) (hn : X.mg nx = none) (hv : bootBuiltins nx = some (.type n)) (ha : PE X e (tE X.K O m ka)) (hg : Gl X "isinstance" := by rfl) (hgn : Gl X nx := by rfl) (h1 : nx ≠ "__name__" := by decide) (h2 : (nx == ("__debug__" : Str)) = false := by decide)
    (he : starEach (e :: [.Name nx q]) X.env = (false, eval e X.env) :: starEach [.Name nx q] X.env := by rfl) (hpl : (backTo pos (starEach [.Name nx q] X.env)).any (·.1) = false := by rfl) (hs2 : starEach [.Name nx q] X.env = (false, eval (.Name nx q) X.env) :: starEach [] X.env := by rfl) :
    PE X (.Call (.Name "isinstance" p) [e, .Name nx q] [] pos) (tE X.K O (m1 ka m (dIs n)) .fz) := by
  refine PEi (pe_callB call_isi hg hm (by decide +kernel) (pa_cons ha (pa_cons (pe_bltn (v := .ty n) hgn hn hv rfl h1 h2) pa_nil hs2) he) (by decide) (by decide) he hpl) fun σ H Q h => ?_
  have hs : LSem X.K (fun vs H Q => ∃ v, vs = [v] ∧ rIsi X.K [v, .ty n] H Q) (dIs n) .fz := by
    intro F H ds vs d Q s hv ho q
    cases ds with
    | nil => cases ho
    | cons d0 r =>
      cases r with
      | cons _ _ => cases ho
      | nil =>
        obtain ⟨v, rfl, h1⟩ := hv.one
        obtain ⟨b, rfl, kb⟩ := is_kit (K := X.K) ho
        exact ⟨v, rfl, v, .ty n, _, _, b, rfl, .ty n, vw_ty s h1, kb, q.now s rfl⟩
  have z := tA_cons (tA_op hs h)
  obtain ⟨F, ρ, d, ρ', ok, hmm, z⟩ := z
  refine ⟨F, ρ, d, ρ', ok, hmm, fun v F1 H1 ok1 st1 r1 => ?_⟩
  obtain ⟨F4, ρ4, ds, ρ4', ok4, hm4, q4⟩ := z v F1 H1 ok1 st1 r1
  cases hm4
  obtain ⟨v', e1, z1⟩ := q4 [] F4 H1 ok4 (.refl _ _) ⟨rfl, rfl⟩
  cases e1
  exact z1
/-! ### subscripts -/
def dIx : List D → Option D
  | [.list ds, .int i] => atI ds i
  | [.tuple ds, .int i] => atI ds i
  | [.str z, .int i] => if z.length ≤ 100000 then (atI z.cps.toList i).map fun c => .str ⟨#[c]⟩ else none
  | _ => none
theorem atI_v {K : PySem.W.Frag} {F : Hp} {ds : List D} {xs : List V} {i : Int} {d : D} (r : RpA K F ds xs) (h : atI ds i = some d) : ∃ v, atI xs i = some v ∧ Rp K F d v := by
  unfold atI at h ⊢
  rw [r.length]
  obtain ⟨j, h1, h2⟩ := bind_some h
  obtain ⟨v, h3, h4⟩ := r.get h2
  exact ⟨v, by rw [h1]; exact h3, h4⟩
theorem s_ix {K : PySem.W.Frag} : LSem K (rL2 (rIx K)) dIx .fz := by
  intro F H ds vs d Q s hv ho q
  unfold dIx at ho
  split at ho
  · rename_i es i
    obtain ⟨v, u, rfl, ⟨a, xs, rfl, h1, h2⟩, h3⟩ := hv.two
    have h3 : u = .int i := h3
    subst h3
    obtain ⟨w, h4, h5⟩ := atI_v h2 ho
    exact ⟨_, _, rfl, .inl ⟨a, xs, i, w, rfl, rfl, h1, h4, q.now s h5⟩⟩
  · rename_i es i
    obtain ⟨v, u, rfl, ⟨a, xs, rfl, h1, h2⟩, h3⟩ := hv.two
    have h3 : u = .int i := h3
    subst h3
    obtain ⟨w, h4, h5⟩ := atI_v h2 ho
    exact ⟨_, _, rfl, .inr (.inl ⟨a, xs, i, w, rfl, rfl, same_sqt s h1, h4, q.now s h5⟩)⟩
  · rename_i z i
    split at ho
    · rename_i hz
      obtain ⟨v, u, rfl, h1, h3⟩ := hv.two
      have h1 : v = .str z := h1
      have h3 : u = .int i := h3
      subst h1 h3
      obtain ⟨c, h4, rfl⟩ := map_some ho
      exact ⟨_, _, rfl, .inr (.inr ⟨z, i, c, rfl, rfl, Nat.le_trans hz (by decide), h4, q.now s rfl⟩)⟩
    · cases ho
  · cases ho
theorem e_ix (ha : PE X a (tE X.K O m ka)) (hb : PE X b (tE X.K O mb kb)) (hs : PlainIx b := by exact fun _ _ => rfl) : PE X (.Subscript a b pos) (tE X.K O (m2 ka kb m mb dIx) .fz) :=
  PEi (pe_ix ix_seq ha hb hs) fun _ _ _ h => tOp_of s_ix h
/-! ### xs[i] = v of a slot's list -/
def mSetIx (i : Nat) (mi mv : M) : MS := fun ρ => (mv ρ).bind fun p => (mBr i p.2).bind fun _ => (mi p.2).bind fun q => match q.1, q.2[i]? with
  | .int j, some (some (.list ds)) => (ixN ds.length j).map fun n => (.nx, q.2.set i (some (.list (ds.set n p.1))))
  | _, _ => none
theorem s_setIx (i : Nat) {o ix : Expr} {mi mv : M} {r : Ak} {spos : Pos} (hO : mutK O[i]? = true) (ho : PE X o (tE X.K O (mBr i) (.br i))) (hi : PE X ix (tE X.K O mi .fz)) (he : PE X e (tE X.K O mv .fz)) (hs : swapsWithSole [.Subscript o ix spos] e pos.line X.env = pure false := by rfl)
    (hw : swappedStores [.Subscript o ix spos] e X.env = pure none := by rfl) (h1 : (assignEach [.Subscript o ix spos] X.env).map (·.2) = [assign (.Subscript o ix spos) X.env] := by rfl)
    (ha : ∀ v, assign (.Subscript o ix spos) X.env v = (do
      let ov ← holding [v] (eval o X.env)
      let iv ← holding [v, ov] (eval ix X.env)
      standAt spos
      holding [v, ov, iv] (setItem ov iv v)
      release [v, ov, iv] []) := by intro _; rfl) : PS X (.Assign [.Subscript o ix spos] e pos) (tS X.K O (mSetIx i mi mv) r) := by
  refine PSi (ps_asg he (pg_sub ho hi set_list ha) hs hw h1) fun Dn σ H ⟨F, ρ, fl, ρ', ok, hm, q⟩ => ?_
  obtain ⟨⟨d1, ρ1⟩, e1, e2⟩ := bind_some hm
  obtain ⟨⟨d2, ρ2⟩, e3, e4⟩ := bind_some e2
  obtain ⟨⟨d3, ρ3⟩, e5, e6⟩ := bind_some e4
  dsimp only at e5 e6
  split at e6
  · rename_i _ _ j ds g2
    obtain ⟨n, g3, g4⟩ := map_some e6
    cases g4
    have hρ : ρ2 = ρ1 := by
      obtain ⟨_, _, z⟩ := slot_some e3
      cases z
      rfl
    subst hρ
    refine ⟨F, ρ, d1, ρ2, ok, e1, fun v F1 H1 ok1 st1 r1 => ?_⟩
    refine ⟨F1, ρ2, d2, ρ2, ok1, e3, fun o F2 H2 ok2 st2 r2 => ?_⟩
    refine ⟨F2, ρ2, _, ρ3, ok2, e5, fun iv F3 H3 ok3 st3 r3 => ?_⟩
    have go := (st1.trans st2).trans st3
    obtain ⟨r2, k0, k1, k2⟩ := r2.step st3 rfl
    obtain ⟨pp, y1, y2, oo, y3, xs, y4, y5⟩ := ok3.ow i k0 _ k1 k2 g2
    rw [y1] at r2
    cases r2
    subst y4
    have r3 : iv = .int j := r3
    subst r3
    have rv : Rp X.K F3 d1 v := Rp.mono (st2.trans st3).ex _ _ r1
    refine ⟨pp, xs, j, n, rfl, rfl, y3, by rw [y5.length]; exact g3, ?_⟩
    have kl : k0.lock = false := by
      rw [k1] at hO
      cases k0 <;> first | rfl | cases hO
    obtain ⟨z1, z2⟩ := ok3.chg (o := .lst (xs.set n v)) (d := .list (ds.set n d1)) k1 k2 kl g2 y1 y2 ⟨_, rfl, y5.set rv n⟩
    exact q σ F3 _ z1 (go.trans z2)
  · cases e6
/-! ### slices -/
def cutG {α : Type} (xs : List α) (lo hi : Option Int) : List α := (xs.drop (HT.sIx xs.length 0 lo)).take (HT.sIx xs.length xs.length hi - HT.sIx xs.length 0 lo)
theorem cutG_v {K : PySem.W.Frag} {F : Hp} {ds : List D} {xs : List V} (r : RpA K F ds xs) (lo hi : Option Int) : RpA K F (cutG ds lo hi) (cutV xs lo hi) := by
  unfold cutG cutV
  rw [r.length]
  exact (r.drop _).take _
abbrev MO := En → Option (Option Int × En)
def tO (K : PySem.W.Frag) (O : List Kd) (m : MO) : TO := fun σ H Q => ∃ F ρ b ρ', Ok K O ⟨F, H, σ, ρ⟩ ∧ m ρ = some (b, ρ') ∧ ∀ F' H', Ok K O ⟨F', H', σ, ρ'⟩ → Stp O ⟨F, H, σ, ρ⟩ ⟨F', H', σ, ρ'⟩ → Q b H'
def mNo : MO := fun ρ => some (none, ρ)
def mPt (m : M) : MO := fun ρ => (m ρ).bind fun p => match p.1 with
  | .int i => some (some i, p.2)
  | _ => none
theorem POi {t t' : TO} {oe : Option Expr} (h : PO X oe t) (k : ∀ σ H Q, t' σ H Q → t σ H Q) : PO X oe t' := ⟨fun pins s σ H Q I q => h.run pins s σ H Q I (k σ H Q q)⟩
theorem o_no : PO X none (tO X.K O mNo) := POi po_none fun σ H Q ⟨F, ρ, b, ρ', ok, hm, q⟩ => by
  cases hm
  exact q F H ok (.refl _ _)
theorem o_pt (h : PE X e (tE X.K O m .fz)) : PO X (some e) (tO X.K O (mPt m)) := POi (po_some h) fun σ H Q ⟨F, ρ, b, ρ', ok, hm, q⟩ => by
  obtain ⟨⟨d, ρ1⟩, e1, e2⟩ := bind_some hm
  cases d <;> cases e2
  exact ⟨F, ρ, _, ρ1, ok, e1, fun v F1 H1 ok1 st1 r1 => ⟨_, r1, q F1 H1 ok1 st1⟩⟩
def mSl (ka : Ak) (m : M) (lo hi : MO) (op : D → Option Int → Option Int → Option D) : M := fun ρ => (m ρ).bind fun p => (lo p.2).bind fun q => (hi q.2).bind fun z => (fill [ka] [p.1] z.2).bind fun ds => match ds with
  | [d] => (op d q.1 z.1).map fun y => (y, z.2)
  | _ => none
def dSlL (d : D) (lo hi : Option Int) : Option D := match d with
  | .list ds => some (.list (cutG ds lo hi))
  | _ => none
def dSlT (d : D) (lo hi : Option Int) : Option D := match d with
  | .tuple ds => some (.tuple (cutG ds lo hi))
  | _ => none
def SlSem (K : PySem.W.Frag) (r : V → Option Int → Option Int → Hp → VK → Prop) (op : D → Option Int → Option Int → Option D) (k : Ak) : Prop := ∀ (F H : Hp) (d : D) (v : V) (lo hi : Option Int) (z : D) (Q : VK), Same F H → Vw K F H d v → op d lo hi = some z → Post K F H k z Q → r v lo hi H Q
theorem sl_l {K : PySem.W.Frag} : SlSem K (rSlL K) dSlL .ow := by
  intro F H d v lo hi z Q s hv ho q
  unfold dSlL at ho
  split at ho
  · cases ho
    obtain ⟨a, xs, e, h1, h2⟩ := hv
    exact ⟨a, xs, e, h1, q.lst s (cutG_v h2 lo hi)⟩
  · cases ho
theorem cut_all {α : Type} {xs : List α} {lo hi : Option Int} (h : HT.sIx xs.length 0 lo = 0 ∧ HT.sIx xs.length xs.length hi = xs.length) : cutG xs lo hi = xs := by
  unfold cutG
  rw [h.1, h.2, List.drop_zero, Nat.sub_zero, List.take_length]
theorem sl_t {K : PySem.W.Frag} : SlSem K (rSlA K) dSlT .fz := by
  intro F H d v lo hi z Q s hv ho q
  unfold dSlT at ho
  split at ho
  · rename_i ds
    cases ho
    obtain ⟨a, xs, e, h1, h2⟩ := hv
    refine ⟨a, xs, e, same_sqt s h1, fun h => ?_, fun _ => q.tup s (cutG_v h2 lo hi)⟩
    rw [h2.length] at h
    rw [cut_all h] at q
    subst e
    exact q.now s ⟨a, xs, rfl, h1, h2⟩
  · cases ho
theorem e_sl {r : V → Option Int → Option Int → Hp → VK → Prop} {sop : D → Option Int → Option Int → Option D} {lo hi : Option Expr} {ml mh : MO} (hr : SlR X r) (hs : SlSem X.K r sop k) (he : PE X e (tE X.K O m ka)) (h1 : PO X lo (tO X.K O ml)) (h2 : PO X hi (tO X.K O mh)) :
    PE X (.Subscript e (.Slice lo hi none p) pos) (tE X.K O (mSl ka m ml mh sop) k) := by
  refine PEi (pe_slice hr he h1 h2) fun σ H Q ⟨F, ρ, d, ρ', ok, hm, q⟩ => ?_
  obtain ⟨⟨d1, ρ1⟩, e1, e2⟩ := bind_some hm
  obtain ⟨⟨b1, ρ2⟩, e3, e4⟩ := bind_some e2
  obtain ⟨⟨b2, ρ3⟩, e5, e6⟩ := bind_some e4
  obtain ⟨ds, e7, e8⟩ := bind_some e6
  refine ⟨F, ρ, d1, ρ1, ok, e1, fun v F1 H1 ok1 st1 r1 => ⟨F1, ρ1, b1, ρ2, ok1, e3, fun F2 H2 ok2 st2 => ⟨F2, ρ2, b2, ρ3, ok2, e5, fun F3 H3 ok3 st3 => ?_⟩⟩⟩
  have rr : Rss X.K O ⟨F, H, σ, ρ⟩ ⟨F3, H3, σ, ρ3⟩ [ka] [d1] [v] := ⟨d1, [], v, [], rfl, rfl, (r1.step st2 rfl).step st3 rfl, rfl, rfl⟩
  have vw := rr.views ok3 e7
  split at e8
  · rename_i dd
    obtain ⟨y, e9, ea⟩ := map_some e8
    cases ea
    obtain ⟨v', ev, vw⟩ := vw.one
    cases ev
    refine hs F3 H3 dd v b1 b2 d Q ok3.sub vw e9 fun u F4 H4 pu r4 => ?_
    obtain ⟨ok4, st4⟩ := ok3.pur pu
    have go := (st1.trans st2).trans st3
    exact q u F4 H4 ok4 (go.trans st4) ((r4.rs ok3).pre go)
  · cases e8
/-- xs[::-1] -/
def dRev : List D → Option D
  | [.list ds] => some (.list ds.reverse)
  | _ => none
theorem e_rev {c : Nat} {p1 p2 p3 : Pos} (he : PE X e (tE X.K O m ka)) : PE X (.Subscript e (.Slice none none (some (.UnaryOp .USub (.Constant (.int 1) c p1) p2)) p3) pos) (tE X.K O (m1 ka m dRev) .ow) := by
  refine PEi (pe_revL he) fun σ H Q h => ?_
  have hs : LSem X.K (rL1 fun v H Q => ∃ a xs, v = .ref a ∧ SqL X.K H a xs ∧ ∀ p, H p = none → Q (.ref p) (upd H p (.lst xs.reverse))) dRev .ow := by
    intro F H ds vs d Q s hv ho q
    unfold dRev at ho
    split at ho
    · cases ho
      obtain ⟨v, rfl, a, xs, rfl, h1, h2⟩ := hv.one
      exact ⟨_, rfl, a, xs, rfl, h1, q.lst s h2.reverse⟩
    · cases ho
  exact tUn_of hs h
/-! ### + of lists -/
def dCat : List D → Option D
  | [.list xs, .list ys] => if xs.length + ys.length ≤ 1000000 then some (.list (xs ++ ys)) else none
  | _ => none
/-- both stand as lists of the run's own -/
def rCatS (K : PySem.W.Frag) : R2 := fun x y H Q => ∃ l b xs zs, x = .ref l ∧ y = .ref b ∧ SqL K H l xs ∧ SqL K H b zs ∧ xs.length + zs.length ≤ sizeLine ∧ ∀ p, H p = none → Q (.ref p) (upd H p (.lst (xs ++ zs)))
theorem op_catS : OpR X (binaryOp .Add) (rCatS X.K) := by
  intro pins s σ H x y v u Q I rx ry h
  obtain ⟨l, b, xs, zs, rfl, rfl, hl, hb, hz, q⟩ := h
  cases rx
  cases ry
  obtain ⟨its, r1, ⟨⟨cls1, dd1, dt1, sl1⟩, n1, o1, c1, _, t1⟩, _⟩ := I.list hl
  obtain ⟨jts, r2, ⟨⟨cls2, dd2, dt2, sl2⟩, n2, o2, c2, _, t2⟩, _⟩ := I.list hb
  simp only at c1 t1 c2 t2
  subst c1 t1 c2 t2
  have l1 := r1.length
  have l2 := r2.length
  refine concat_meets ⟨_, o1, rfl⟩ ⟨_, o2, rfl⟩ noFill_list_add seq_list_add PySem.F.slot_list_add PySem.F.entry_list_add (PySem.F.args_list_add_2 _ _) (list_addW l b its.toArray jts.toArray n1 n2 dd1 dd2 sl1 sl2 (by rw [List.size_toArray, List.size_toArray]; omega)) ⟨o1, o2, ?_⟩
  rw [show its.toArray ++ jts.toArray = (its ++ jts).toArray by simp]
  exact ⟨.ref _, _, I.lnew (t' := s.toks) (r1.append r2) (by rw [List.length_append]; omega), rfl, q _ I.fresh⟩
theorem s_cat {K : PySem.W.Frag} : LSem K (rL2 (rCatS K)) dCat .ow := by
  intro F H ds vs d Q s hv ho q
  unfold dCat at ho
  split at ho
  · rename_i es fs
    split at ho
    · rename_i hz
      cases ho
      obtain ⟨v, u, rfl, ⟨a, xs, rfl, h1, h2⟩, b, ys, rfl, h3, h4⟩ := hv.two
      exact ⟨_, _, rfl, a, b, xs, ys, rfl, rfl, h1, h3, by rw [h2.length, h4.length]; exact Nat.le_trans hz (by decide), q.lst s (h2.append h4)⟩
    · cases ho
  · cases ho
/-! ### a slot's list changed by a method -/
/-- what the method makes of the content: a value, the new content -/
def MSem (K : PySem.W.Frag) (r : V → List V → Hp → VK → Prop) (op : D → List D → Option (D × D)) : Prop := ∀ (F H : Hp) (p : Addr) (d0 : D) (vs : List V) (ds : List D) (d d0' : D) (Q : VK), Same F H → F p = none → OwnO K F H p d0 → RpA K F ds vs → op d0 ds = some (d, d0') →
  (∀ v o, OwnC K F o d0' → Rp K F d v → Q v (upd H p o)) → r (.ref p) vs H Q
def isTy (T : String) (d : D) : Bool := match d with
  | .list _ => decide (T = "list")
  | .dict _ => decide (T = "dict")
  | .str _ => decide (T = "str")
  | _ => false
def mMut (i : Nat) (T : String) (ma : MA) (op : D → List D → Option (D × D)) : M := fun ρ => match ρ[i]? with
  | some (some d1) => if isTy T d1 = true then (ma ρ).bind fun q => (match q.2[i]? with
    | some (some d0) => (op d0 q.1).map fun z => (z.1, q.2.set i (some z.2))
    | _ => none) else none
  | _ => none
theorem own_ty {K : PySem.W.Frag} {F H : Hp} {p : Addr} {T : String} : ∀ {d : D}, isTy T d = true → OwnO K F H p d → tyV K T (.ref p) H
  | .list ds, h, ⟨o, h1, xs, h2, h3⟩ => .inl ⟨of_decide_eq_true h, xs, .inl (.inl (by rw [h1, h2]))⟩
  | .dict ds, h, ⟨o, h1, xs, h2, h3⟩ => .inr (.inr (.inl ⟨of_decide_eq_true h, .inl ⟨xs, by rw [h1, h2]⟩⟩))
  | .none, h, _ => by cases h
  | .bool _, h, _ => by cases h
  | .int _, h, _ => by cases h
  | .str _, _, ⟨_, _, h⟩ => h.elim
  | .tuple _, h, _ => by cases h
theorem mut_core {K : PySem.W.Frag} {r : V → List V → Hp → VK → Prop} {mop : D → List D → Option (D × D)} {F F1 H H1 : Hp} {σ : L2.St} {ρ ρ1 : En} {d0 d d0' : D} {ds : List D} {vs : List V} {xv : V} {Q : VK} (hO : mutK O[i]? = true) (hs : MSem K r mop) (st1 : Stp O ⟨F, H, σ, ρ⟩ ⟨F1, H1, σ, ρ1⟩) (ok1 : Ok K O ⟨F1, H1, σ, ρ1⟩)
    (hx : σ[i]? = some (some xv)) (h0 : ρ1[i]? = some (some d0)) (ra : RpA K F1 ds vs) (ho : mop d0 ds = some (d, d0'))
    (q : ∀ v F' H', Ok K O ⟨F', H', σ, ρ1.set i (some d0')⟩ → Stp O ⟨F, H, σ, ρ⟩ ⟨F', H', σ, ρ1.set i (some d0')⟩ → Rs K O ⟨F, H, σ, ρ⟩ ⟨F', H', σ, ρ1.set i (some d0')⟩ .fz d v → Q v H') : r xv vs H1 Q := by
  have hk : ∃ k : Kd, O[i]? = some k ∧ k.own = true ∧ k.lock = false := by
    cases e : O[i]? with
    | none =>
      rw [e] at hO
      cases hO
    | some k =>
      rw [e] at hO
      cases k <;> first | exact ⟨_, rfl, rfl, rfl⟩ | cases hO
  obtain ⟨k, k1, k2, k3⟩ := hk
  obtain ⟨p, y1, y2, y3⟩ := ok1.ow i k d0 k1 k2 h0
  have y1 : σ[i]? = some (some (.ref p)) := y1
  rw [hx] at y1
  cases y1
  refine hs F1 H1 p d0 vs ds d d0' Q ok1.sub y2 y3 ra ho fun v o hc rv => ?_
  obtain ⟨z1, z2⟩ := ok1.chg (o := o) (d := d0') k1 k2 k3 h0 hx y2 hc
  exact q v F1 _ z1 (st1.trans z2) rv
theorem mut_pre {K : PySem.W.Frag} {T : String} {mop : D → List D → Option (D × D)} {ρ ρ' : En} {d : D} (h : mMut i T ma mop ρ = some (d, ρ')) :
    ∃ d1 ds ρ1 d0 z, ρ[i]? = some (some d1) ∧ isTy T d1 = true ∧ ma ρ = some (ds, ρ1) ∧ ρ1[i]? = some (some d0) ∧ mop d0 ds = some (d, z) ∧ ρ' = ρ1.set i (some z) := by
  obtain ⟨d1, e1, e2⟩ := slot_some h
  split at e2
  · rename_i ht
    obtain ⟨⟨ds, ρ1⟩, e3, e4⟩ := bind_some e2
    obtain ⟨d0, e5, e6⟩ := slot_some e4
    obtain ⟨⟨d2, z⟩, e7, e8⟩ := map_some e6
    cases e8
    exact ⟨d1, ds, ρ1, d0, z, e1, ht, e3, e5, e7, rfl⟩
  · cases e2
theorem e_mut (i : Nat) {name : Str} {rr : V → List V → Hp → VK → Prop} {mop : D → List D → Option (D × D)} (pa : PlainAttrs T) (slot : Slot T name id) (hty : typeOf (.builtin id) = pure (.type "method_descriptor")) (hmr : MtR X id rr) (hs : MSem X.K rr mop) (ho : PE X a (tE X.K O (mBr i) (.br i))) (ha : PA X (e :: es) (tA X.K O ma ks))
    (hO : mutK O[i]? = true := by rfl) (hks : allFz ks = true := by rfl) (hbase : attributeBase a name X.env (eval a X.env) = eval a X.env := by rfl)
    (hfew : ((backTo pos (starEach (e :: es) X.env)).all (fun x => !x.1) && (backToKw pos (keywordEach [] X.env)).all (fun x => x.1.isSome)
      && decide ((e :: es).length + ([] : List Keyword).length + (if ([] : List Keyword).isEmpty then 0 else 1) < 30)) = true := by rfl)
    (hline : (apos.endLine == pos.line) = true := by rfl) (hst : starEach (e :: es) X.env = (false, eval e X.env) :: starEach es X.env := by rfl) (hplain : (backTo pos (starEach es X.env)).any (·.1) = false := by rfl) :
    PE X (.Call (.Attribute a name apos) (e :: es) [] pos) (tE X.K O (mMut i T ma mop) .fz) := by
  refine PEi (pe_bm pa slot hty hmr ho ha hbase hfew hline hst hplain) fun σ H Q ⟨F, ρ, d, ρ', ok, hm, q⟩ => ?_
  obtain ⟨d1, ds, ρ1, d0, z, e1, ht, e3, e5, e7, rfl⟩ := mut_pre (K := X.K) hm
  refine ⟨F, ρ, .none, ρ, ok, by unfold mBr; rw [e1], fun v F1 H1 ok1 st1 r1 => ?_⟩
  obtain ⟨r1, k0, k1, k2⟩ := r1
  obtain ⟨p, y1, y2, y3⟩ := ok1.ow i k0 _ k1 k2 e1
  have r1 : σ[i]? = some (some v) := r1
  have y1 : σ[i]? = some (some (.ref p)) := y1
  rw [y1] at r1
  cases r1
  refine ⟨own_ty ht y3, F1, ρ, ds, ρ1, ok1, e3, fun vs F2 H2 ok2 st2 r2 => ?_⟩
  obtain ⟨ra, _⟩ := r2.fz hks
  exact mut_core hO hs (st1.trans st2) ok2 y1 e5 ra e7 q
theorem e_mut0 (i : Nat) {name : Str} {rr : V → List V → Hp → VK → Prop} {mop : D → List D → Option (D × D)} (pa : PlainAttrs T) (slot : Slot T name id) (hty : typeOf (.builtin id) = pure (.type "method_descriptor")) (hmr : MtR X id rr) (hs : MSem X.K rr mop) (ho : PE X a (tE X.K O (mBr i) (.br i)))
    (hO : mutK O[i]? = true := by rfl) (hbase : attributeBase a name X.env (eval a X.env) = eval a X.env := by rfl) (hline : (apos.endLine == pos.line) = true := by rfl) :
    PE X (.Call (.Attribute a name apos) [] [] pos) (tE X.K O (mMut i T maNil mop) .fz) := by
  refine PEi (pe_bm0 pa slot hty hmr ho hbase hline) fun σ H Q ⟨F, ρ, d, ρ', ok, hm, q⟩ => ?_
  obtain ⟨d1, ds, ρ1, d0, z, e1, ht, e3, e5, e7, rfl⟩ := mut_pre (K := X.K) hm
  cases e3
  refine ⟨F, ρ, .none, ρ, ok, by unfold mBr; rw [e1], fun v F1 H1 ok1 st1 r1 => ?_⟩
  obtain ⟨r1, k0, k1, k2⟩ := r1
  obtain ⟨p, y1, y2, y3⟩ := ok1.ow i k0 _ k1 k2 e1
  have r1 : σ[i]? = some (some v) := r1
  have y1 : σ[i]? = some (some (.ref p)) := y1
  rw [y1] at r1
  cases r1
  exact ⟨own_ty ht y3, mut_core (ds := []) (vs := []) hO hs st1 ok1 y1 e5 rfl e7 q⟩
def dAppend (d0 : D) (ds : List D) : Option (D × D) := match d0, ds with
  | .list xs, [d] => if xs.length < 1000000 then some (.none, .list (xs ++ [d])) else none
  | _, _ => none
theorem ms_append {K : PySem.W.Frag} : MSem K rAppend dAppend := by
  intro F H p d0 vs ds d d0' Q s hp ow ra ho q
  unfold dAppend at ho
  split at ho
  · rename_i xs y
    split at ho
    · rename_i hz
      cases ho
      obtain ⟨o, h1, us, rfl, h3⟩ := ow
      obtain ⟨v, rfl, rv⟩ := ra.one
      exact ⟨p, us, v, rfl, rfl, h1, by rw [h3.length]; exact Nat.lt_of_lt_of_le hz (by decide), q .non _ ⟨_, rfl, h3.append (.cons rv .nil)⟩ rfl⟩
    · cases ho
  · cases ho
def dInsert (d0 : D) (ds : List D) : Option (D × D) := match d0, ds with
  | .list xs, [.int i, d] => if xs.length < 1000000 ∧ 0 ≤ i ∧ i < 2 ^ 63 then some (.none, .list (xs.take i.toNat ++ [d] ++ xs.drop i.toNat)) else none
  | _, _ => none
theorem ms_insert {K : PySem.W.Frag} : MSem K (fun x vs H Q => ∃ (l : Addr) (xs : List V) (i : Int) (y : V), x = .ref l ∧ vs = [.int i, y] ∧ H l = some (.lst xs) ∧ xs.length < sizeLine ∧ 0 ≤ i ∧ i < 2 ^ 63 ∧ Q .non (upd H l (.lst (xs.take i.toNat ++ [y] ++ xs.drop i.toNat)))) dInsert := by
  intro F H p d0 vs ds d d0' Q s hp ow ra ho q
  unfold dInsert at ho
  split at ho
  · rename_i xs i y
    split at ho
    · rename_i hz
      cases ho
      obtain ⟨o, h1, us, rfl, h3⟩ := ow
      obtain ⟨u, v, rfl, ru, rv⟩ := ra.two
      have ru : u = .int i := ru
      subst ru
      exact ⟨p, us, i, v, rfl, rfl, h1, by rw [h3.length]; exact Nat.lt_of_lt_of_le hz.1 (by decide), hz.2.1, hz.2.2, q .non _ ⟨_, rfl, ((h3.take i.toNat).append (.cons rv .nil)).append (h3.drop i.toNat)⟩ rfl⟩
    · cases ho
  · cases ho
def dPop (d0 : D) (ds : List D) : Option (D × D) := match d0, ds with
  | .list xs, [] => (xs[xs.length - 1]?).map fun d => (d, .list xs.dropLast)
  | _, _ => none
theorem rpa_dropLast {K : PySem.W.Frag} {F : Hp} {ds : List D} {vs : List V} (r : RpA K F ds vs) : RpA K F ds.dropLast vs.dropLast := by
  rw [List.dropLast_eq_take, List.dropLast_eq_take, r.length]
  exact r.take _
theorem ms_pop {K : PySem.W.Frag} : MSem K rPop dPop := by
  intro F H p d0 vs ds d d0' Q s hp ow ra ho q
  unfold dPop at ho
  split at ho
  · rename_i xs
    obtain ⟨y, e1, e2⟩ := map_some ho
    cases e2
    obtain ⟨o, h1, us, rfl, h3⟩ := ow
    have ra : vs = [] := ra
    subst ra
    obtain ⟨v, g1, g2⟩ := h3.get e1
    exact ⟨p, us, v, rfl, rfl, h1, by rw [h3.length]; exact g1, q v _ ⟨_, rfl, rpa_dropLast h3⟩ g2⟩
  · cases ho
end
/-! ### a slot's list frozen for the rest of a block -/
def mFz (i : Nat) (m : MS) : MS := fun ρ => (m ρ).map fun p => (p.1, p.2.set i none)
end DL

/-! DLB: freezing for a block, more walked things, chains. -/
namespace DL
open PySem PySem.Spec PyProof.Rows L2

section
variable {X : Cx} {O L : List Kd} {e a b c : Expr} {es : List Expr} {ma : MA} {m mb mc : M} {ks : List Ak} {ka kb kc k : Ak} {x : Str} {p q pos apos : Pos} {i : Nat}
/-! ### a slot's list frozen for the rest of a block -/
theorem ss_frz (i : Nat) {rest : List Stmt} {mm : MS} {r : Ak} (h : PSs X rest (tS X.K (O.set i .fz) mm r)) (hO : O[i]? = some Kd.ow := by rfl) (hr : ∀ j, r ≠ .br j := by exact fun _ z => by cases z) : PSs X rest (tS X.K O (mFz i mm) r) := by
  refine PSsi h fun Dn σ H ⟨F, ρ, fl, ρ', ok, hm, q⟩ => ?_
  obtain ⟨⟨f, ρ1⟩, e1, e2⟩ := map_some hm
  cases e2
  have hil : i < O.length := (List.getElem?_eq_some_iff.mp hO).1
  have getne : ∀ {j : Nat}, j ≠ i → (O.set i Kd.fz)[j]? = O[j]? := fun {j} h => List.getElem?_set_ne fun z => h z.symm
  have geti : (O.set i Kd.fz)[i]? = some Kd.fz := List.getElem?_set_self hil
  -- owners but the slot's own
  have sub : ∀ {F' H' : Hp} {σ' : L2.St} {ρ'' : En} {j : Nat} {pp : Addr}, OwnAt (O.set i .fz) ⟨F', H', σ', ρ''⟩ j pp → j ≠ i ∧ OwnAt O ⟨F', H', σ', ρ''⟩ j pp := fun {F' H' σ' ρ'' j pp} ⟨k, d, h1, h2, h3, h4⟩ => by
    have hj : j ≠ i := fun z => by
      subst z
      rw [geti] at h1
      cases h1
      cases h2
    exact ⟨hj, k, d, by rw [← getne hj]; exact h1, h2, h3, h4⟩
  have sup : ∀ {F' H' : Hp} {σ' : L2.St} {ρ'' : En} {j : Nat} {pp : Addr}, OwnAt O ⟨F', H', σ', ρ''.set i none⟩ j pp → OwnAt (O.set i .fz) ⟨F', H', σ', ρ''⟩ j pp := fun {F' H' σ' ρ'' j pp} h => by
    obtain ⟨⟨k, d, h1, h2, h3, h4⟩, hj⟩ := own_unset (F := F') (H := H') pp j h
    exact ⟨k, d, by rw [getne hj]; exact h1, h2, h3, h4⟩
  -- the frozen heap
  have start : ∃ F1, Same F F1 ∧ Same F1 H ∧ (∀ bb, ¬ Fp O ⟨F, H, σ, ρ⟩ bb → F bb = none → F1 bb = none) ∧ (∀ j pp, j ≠ i → OwnAt O ⟨F, H, σ, ρ⟩ j pp → F1 pp = none) ∧ ∀ d, ρ[i]? = some (some d) → ∃ v, σ[i]? = some (some v) ∧ Rp X.K F1 d v := by
    cases hd : ρ[i]? with
    | none => exact ⟨F, .refl _, ok.sub, fun _ _ z => z, fun j pp _ o => (ok.ownF ⟨j, o⟩).1, fun d z => by cases z⟩
    | some od =>
      cases od with
      | none => exact ⟨F, .refl _, ok.sub, fun _ _ z => z, fun j pp _ o => (ok.ownF ⟨j, o⟩).1, fun d z => by cases z⟩
      | some d =>
        obtain ⟨pp, g1, g2, o, g3, g4⟩ := ok.ow i _ d hO rfl hd
        have e' : Same F (upd F pp o) := fun bb u hb => by
          rw [upd_ne (ne_of_none hb g2)]
          exact hb
        have at_i : OwnAt O ⟨F, H, σ, ρ⟩ i pp := ⟨_, d, hO, rfl, hd, g1⟩
        refine ⟨upd F pp o, e', fun bb u hb => ?_, fun bb z f => ?_, fun j qq hj oo => ?_, fun d' z => ?_⟩
        · by_cases ee : bb = pp
          · subst ee
            rw [upd_same] at hb
            cases hb
            exact g3
          · rw [upd_ne ee] at hb
            exact ok.sub bb u hb
        · rw [upd_ne fun y => z (by rw [y]; exact ⟨i, at_i⟩)]
          exact f
        · rw [upd_ne fun y => hj (ok.ap j i pp (by rw [← y]; exact oo) at_i)]
          exact (ok.ownF ⟨j, oo⟩).1
        · cases z
          exact ⟨.ref pp, g1, (g4.mono e').rp upd_same⟩
  obtain ⟨F1, f1, f2, f3, f4, f5⟩ := start
  have ok1 : Ok X.K (O.set i .fz) ⟨F1, H, σ, ρ⟩ := by
    refine ⟨f2, by rw [List.length_set]; exact ok.ls, by rw [List.length_set]; exact ok.lr, fun j d h1 h2 => ?_, fun j k d h1 h2 h3 => ?_, fun j j' pp h1 h2 => ok.ap j j' pp (sub h1).2 (sub h2).2⟩
    · by_cases hj : j = i
      · subst hj
        exact f5 d h2
      · rw [getne hj] at h1
        obtain ⟨v, g1, g2⟩ := ok.fz j d h1 h2
        exact ⟨v, g1, g2.mono f1⟩
    · by_cases hj : j = i
      · subst hj
        rw [geti] at h1
        cases h1
        cases h2
      · rw [getne hj] at h1
        obtain ⟨pp, g1, g2, g3⟩ := ok.ow j k d h1 h2 h3
        exact ⟨pp, g1, f4 j pp hj ⟨k, d, h1, h2, h3, g1⟩, g3.mono f1 fun _ z => z⟩
  have fin : ∀ {σ' : L2.St} {F' H' : Hp}, Ok X.K (O.set i .fz) ⟨F', H', σ', ρ1⟩ → Stp (O.set i .fz) ⟨F1, H, σ, ρ⟩ ⟨F', H', σ', ρ1⟩ → Ok X.K O ⟨F', H', σ', ρ1.set i none⟩ ∧ Stp O ⟨F, H, σ, ρ⟩ ⟨F', H', σ', ρ1.set i none⟩ := fun {σ' F' H'} ok' st => by
    have fpn : ∀ {bb : Addr}, ¬ Fp O ⟨F, H, σ, ρ⟩ bb → ¬ Fp (O.set i .fz) ⟨F1, H, σ, ρ⟩ bb := fun {bb} z ⟨j, h⟩ => z ⟨j, (sub h).2⟩
    refine ⟨⟨ok'.sub, ?_, ?_, fun j d h1 h2 => ?_, fun j k d h1 h2 h3 => ?_, fun j j' pp h1 h2 => ok'.ap j j' pp (sup h1) (sup h2)⟩,
      ⟨f1.trans st.ex, fun bb o h z => st.kp bb o h (fpn z), fun bb o h z f => st.nw bb o h (fpn z) (f3 bb z f), fun bb ⟨j, h⟩ => ?_, fun j k h1 h2 => ?_, fun j k h1 h2 => ?_, fun j k pp d h1 h2 h3 h4 => ?_⟩⟩
    · have z : σ'.length = _ := ok'.ls
      rw [List.length_set] at z
      exact z
    · have z : ρ1.length = _ := ok'.lr
      rw [List.length_set] at z
      show (ρ1.set i none).length = _
      rw [List.length_set]
      exact z
    · rcases set_get (show (ρ1.set i none)[j]? = _ from h2) with ⟨_, y⟩ | ⟨y, y2⟩
      · cases y
      · exact ok'.fz j d (by rw [getne fun z => y z.symm]; exact h1) y2
    · rcases set_get (show (ρ1.set i none)[j]? = _ from h3) with ⟨_, y⟩ | ⟨y, y2⟩
      · cases y
      · exact ok'.ow j k d (by rw [getne fun z => y z.symm]; exact h1) h2 y2
    · rcases st.fp bb ⟨j, sup h⟩ with ⟨j', z⟩ | z
      · exact .inl ⟨j', (sub z).2⟩
      · exact .inr z
    · have hj : j ≠ i := fun z => by
        subst z
        rw [hO] at h1
        cases h1
        cases h2
      exact st.pn j k (by rw [getne hj]; exact h1) h2
    · have hj : j ≠ i := fun z => by
        subst z
        rw [hO] at h1
        cases h1
        cases h2
      show (ρ1.set i none)[j]? = _
      rw [List.getElem?_set_ne fun z => hj z.symm]
      exact st.lk j k (by rw [getne hj]; exact h1) h2
    · have hj : j ≠ i := fun z => by
        subst z
        rw [hO] at h1
        cases h1
        cases h2
      exact st.lo j k pp d (by rw [getne hj]; exact h1) h2 h3 h4
  refine ⟨F1, ρ, f, ρ1, ok1, e1, ?_⟩
  cases f with
  | nx => exact fun σ' F' H' ok' st => q σ' F' H' (fin ok' st).1 (fin ok' st).2
  | bk => exact fun σ' F' H' ok' st => q σ' F' H' (fin ok' st).1 (fin ok' st).2
  | ct => exact fun σ' F' H' ok' st => q σ' F' H' (fin ok' st).1 (fin ok' st).2
  | rt d =>
    intro v σ' F' H' ok' st rs
    refine q v σ' F' H' (fin ok' st).1 (fin ok' st).2 ?_
    cases r with
    | fz => exact rs
    | ow =>
      obtain ⟨pp, ee, g1, g2, g3, g4⟩ := rs
      refine ⟨pp, ee, g1, g2, fun ⟨j, z⟩ => g3 ⟨j, sup z⟩, ?_⟩
      rcases g4 with ⟨j, z⟩ | z
      · exact .inl ⟨j, (sub z).2⟩
      · exact .inr z
    | br j => exact (hr j rfl).elim

/-! ### constants of the module -/
theorem e_glob {v : V} {u : Value} {d : D} (hm : X.mg x = some u) (r : RelV v u) (hd : ∀ F : Hp, Rp X.K F d v) (hg : Gl X x := by rfl) (h1 : (x == ("__debug__" : Str)) = false := by decide) : PE X (.Name x p) (tE X.K O (mC d) .fz) := e_const (pe_glob hg hm r h1) hd

/-! ### a < b < c -/
def mChain (f g : Int → Int → Bool) (ma mb mc : M) : M := fun ρ => (ma ρ).bind fun p => (mb p.2).bind fun q => match p.1, q.1 with
  | .int i, .int j => if f i j = true then (mc q.2).bind fun z => (match z.1 with
      | .int n => some (.bool (g j n), z.2)
      | _ => none)
    else some (.bool false, q.2)
  | _, _ => none
theorem chain_out {f g : Int → Int → Bool} {σ : L2.St} {H : Hp} {Q : VK} (h : tE X.K O (mChain f g m mb mc) .fz σ H Q) :
    tChain (rI0 fun i j => .bl (f i j)) (rI0 fun i j => .bl (g i j)) (tE X.K O m .fz) (tE X.K O mb .fz) (tE X.K O mc .fz) σ H Q := by
  obtain ⟨F, ρ, d, ρ', ok, hm, qq⟩ := h
  obtain ⟨⟨d1, ρ1⟩, e1, e2⟩ := bind_some hm
  obtain ⟨⟨d2, ρ2⟩, e3, e4⟩ := bind_some e2
  refine ⟨F, ρ, d1, ρ1, ok, e1, fun v F1 H1 ok1 st1 r1 => ⟨F1, ρ1, d2, ρ2, ok1, e3, fun u F2 H2 ok2 st2 r2 => ?_⟩⟩
  cases d1 <;> cases d2 <;> try (cases e4; done)
  rename_i i j
  dsimp only at e4
  have r1 : v = .int i := r1
  have r2 : u = .int j := r2
  subst r1 r2
  refine ⟨i, j, rfl, rfl, f i j, rfl, ?_⟩
  cases hf : f i j with
  | false =>
    rw [hf, if_neg Bool.false_ne_true] at e4
    cases e4
    rw [if_neg Bool.false_ne_true]
    exact qq _ F2 H2 ok2 (st1.trans st2) rfl
  | true =>
    rw [hf, if_pos rfl] at e4
    rw [if_pos rfl]
    obtain ⟨⟨d3, ρ3⟩, e5, e6⟩ := bind_some e4
    refine ⟨F2, ρ2, d3, ρ3, ok2, e5, fun t F3 H3 ok3 st3 r3 => ?_⟩
    cases d3 <;> try (cases e6; done)
    rename_i n
    cases e6
    have r3 : t = .int n := r3
    subst r3
    exact ⟨j, n, rfl, rfl, qq _ F3 H3 ok3 ((st1.trans st2).trans st3) rfl⟩
theorem e_chain {f g : Int → Int → Bool} {o1 o2 : CmpOp} (h1 : OpR X (compareOp o1) (rI0 fun i j => .bl (f i j))) (h2 : OpR X (compareOp o2) (rI0 fun i j => .bl (g i j))) (ha : PE X a (tE X.K O m .fz)) (hb : PE X b (tE X.K O mb .fz)) (hc : PE X c (tE X.K O mc .fz))
    (hm : lastMarks [o1, o2] [b, c] = false := by with_unfolding_all rfl) : PE X (.Compare a [o1, o2] [b, c] pos) (tE X.K O (mChain f g m mb mc) .fz) := PEi (pe_chain h1 h2 ha hb hc hm) fun _ _ _ h => chain_out h
theorem t_chain {f g : Int → Int → Bool} {o1 o2 : CmpOp} (h1 : OpR X (compareOp o1) (rI0 fun i j => .bl (f i j))) (h2 : OpR X (compareOp o2) (rI0 fun i j => .bl (g i j))) (ha : PE X a (tE X.K O m .fz)) (hb : PE X b (tE X.K O mb .fz)) (hc : PE X c (tE X.K O mc .fz))
    (hm : lastMarks [o1, o2] [b, c] = false := by with_unfolding_all rfl) : PT X (.Compare a [o1, o2] [b, c] pos) (tT X.K O (mTr (mChain f g m mb mc))) := PTi (pt_chain h1 h2 ha hb hc hm) fun _ _ _ h => chain_out (tTr h)

/-! ### zip, enumerate, range with a step -/
def zipD : List D → List D → List D
  | x :: xs, y :: ys => .tuple [x, y] :: zipD xs ys
  | _, _ => []
theorem zipD_len : ∀ {xs ys : List D}, (zipD xs ys).length = min xs.length ys.length
  | [], _ => by simp [zipD]
  | _ :: _, [] => by simp [zipD]
  | x :: xs, y :: ys => by
    show (zipD xs ys).length + 1 = _
    rw [zipD_len, List.length_cons, List.length_cons]
    omega
theorem zipD_get : ∀ {xs ys : List D} {i : Nat} {x y : D}, xs[i]? = some x → ys[i]? = some y → (zipD xs ys)[i]? = some (.tuple [x, y])
  | [], _, _, _, _, h, _ => by simp at h
  | _ :: _, [], _, _, _, _, h => by simp at h
  | a :: xs, b :: ys, 0, x, y, h, h' => by
    have h : a = x := by simpa using h
    have h' : b = y := by simpa using h'
    rw [h, h'] <;> rfl
  | a :: xs, b :: ys, i + 1, x, y, h, h' => by
    show (_ :: zipD xs ys)[i + 1]? = _
    rw [List.getElem?_cons_succ]
    exact zipD_get (by simpa using h) (by simpa using h')
theorem yd_pair {K : PySem.W.Frag} {F0 : Hp} {ds es : List D} {f g : Nat → Option V} (hf : ∀ {i v}, f i = some v → ∃ d, ds[i]? = some d ∧ Rp K F0 d v) (hg : ∀ {i v}, g i = some v → ∃ d, es[i]? = some d ∧ Rp K F0 d v) {i : Nat} {H : Hp} {x : V} {H' : Hp} (y : YPair f g i H x H') : YD K F0 (zipD ds es) i H x H' := fun F e s => by
  obtain ⟨T, u, v, rfl, hT, rfl, h1, h2⟩ := y
  obtain ⟨d1, g1, g2⟩ := hf h1
  obtain ⟨d2, g3, g4⟩ := hg h2
  have pu := Pur.frozen s hT (.tup [u, v])
  exact ⟨_, pu, _, zipD_get g1 g3, T, [u, v], rfl, .inl (.inl upd_same), .cons (g2.mono (e.trans pu.ex)) (.cons (g4.mono (e.trans pu.ex)) .nil)⟩
def mIt2 (ks : List Ak) (ma : MA) (f : List D → Option (List D)) : MI := fun ρ => (ma ρ).bind fun p => (fill ks p.1 p.2).bind fun ds => (f ds).map fun r => (r, p.2)
end
end DL

/-! DLC: zip, enumerate, range with a step; lists or tuples walked. -/
namespace DL
open PySem PySem.Spec PyProof.Rows L2

/-- slots lent among the arguments are locked in L -/
def lkArgs (L : List Kd) : List Ak → Bool
  | [] => true
  | .br i :: ks => (match L[i]? with
    | some k => k.lock
    | none => false) && lkArgs L ks
  | .fz :: ks => lkArgs L ks
  | .ow :: ks => lkArgs L ks
/-- a list or a tuple that stands through the loop -/
def Stands (K : PySem.W.Frag) (O L : List Kd) (w w1 : Wd) (d : D) (v : V) : Prop := match d with
  | .list ds => ∃ a xs, v = .ref a ∧ SqL K w1.H a xs ∧ RpA K w1.F ds xs ∧ ∀ Z, Zok O w Z → ∀ w2, Ok K L w2 → Stq L Z w1 w2 → SqL K w2.H a xs
  | .tuple ds => ∃ a xs, v = .ref a ∧ SqT K w1.H a xs ∧ RpA K w1.F ds xs ∧ ∀ Z, Zok O w Z → ∀ w2, Ok K L w2 → Stq L Z w1 w2 → SqT K w2.H a xs
  | _ => True
section
variable {K : PySem.W.Frag} {O L : List Kd} {w w1 : Wd}
theorem stands_fz {d : D} {v : V} (ok : Ok K O w1) (r : Rp K w1.F d v) : Stands K O L w w1 d v := by
  unfold Stands
  split
  · obtain ⟨a, xs, e, h1, h2⟩ := r
    exact ⟨a, xs, e, ok.sub.seq h1, h2, fun Z _ w2 ok2 st2 => ok2.sub.seq (st2.ex.seq h1)⟩
  · obtain ⟨a, xs, e, h1, h2⟩ := r
    exact ⟨a, xs, e, same_sqt ok.sub h1, h2, fun Z _ w2 ok2 st2 => same_sqt ok2.sub (same_sqt st2.ex h1)⟩
  · trivial
theorem stands_ow {d : D} {v : V} (hl : lkOf O L = true) (ok : Ok K O w1) (r : Rs K O w w1 .ow d v) : Stands K O L w w1 d v := by
  obtain ⟨p, rfl, h1, ⟨o, h2, h3⟩, h5, h6⟩ := r
  unfold Stands
  split
  · obtain ⟨xs, rfl, h4⟩ := h3
    refine ⟨p, xs, rfl, .inl (.inl h2), h4, fun Z hz w2 ok2 st2 => .inl (.inl ((Stq.unlock (K := K) hl st2).kp p _ (fun z => ?_) h2 h5).1)⟩
    obtain ⟨⟨u, z1⟩, _, z3⟩ := hz p z
    rcases h6 with h6 | h6
    · exact z3 h6
    · rw [h6] at z1
      cases z1
  · exact h3.elim
  · trivial
theorem stands_br {d : D} {v : V} {i : Nat} (hL : lkArgs L [.br i] = true) (ok : Ok K O w1) (r : Rs K O w w1 (.br i) d v) {e : D} (he : w1.ρ[i]? = some (some e)) : Stands K O L w w1 e v := by
  obtain ⟨r1, q, r2, r3⟩ := r
  obtain ⟨p, e1, e2, o, e3, e4⟩ := ok.ow i q e r2 r3 he
  rw [e1] at r1
  cases r1
  have hk : ∃ k : Kd, L[i]? = some k ∧ k.lock = true := by
    have z : ((match L[i]? with | some k => k.lock | none => false) && true) = true := hL
    cases y : L[i]? with
    | none =>
      rw [y] at z
      cases z
    | some k =>
      rw [y] at z
      exact ⟨k, rfl, (Bool.and_eq_true_iff.mp z).1⟩
  obtain ⟨k, k1, k2⟩ := hk
  unfold Stands
  split
  · obtain ⟨xs, rfl, h4⟩ := e4
    refine ⟨p, xs, rfl, .inl (.inl e3), h4, fun Z _ w2 ok2 st2 => .inl (.inl ?_)⟩
    rw [st2.lo i k p _ k1 k2 he e1]
    exact e3
  · exact e4.elim
  · trivial
def StandsA (K : PySem.W.Frag) (O L : List Kd) (w w1 : Wd) : List D → List V → Prop
  | [], vs => vs = []
  | d :: ds, vs => ∃ v r, vs = v :: r ∧ Stands K O L w w1 d v ∧ StandsA K O L w w1 ds r
theorem Rss.stands (hl : lkOf O L = true) (ok : Ok K O w1) : ∀ {ks : List Ak} {ds : List D} {vs : List V} {es : List D}, lkArgs L ks = true → Rss K O w w1 ks ds vs → fill ks ds w1.ρ = some es → StandsA K O L w w1 es vs
  | [], _, _, _, _, ⟨h1, h2⟩, hf => by
    subst h1 h2
    cases hf
    rfl
  | .br i :: ks, _, _, _, hk, ⟨d, ds', v, vs', h1, h2, h3, h4⟩, hf => by
    subst h1 h2
    obtain ⟨d', e1, e2⟩ := slot_some hf
    obtain ⟨es', e3, e4⟩ := map_some e2
    subst e4
    obtain ⟨k1, k2⟩ := Bool.and_eq_true_iff.mp (show (_ && lkArgs L ks) = true from hk)
    exact ⟨v, vs', rfl, stands_br (Bool.and_eq_true_iff.mpr ⟨k1, rfl⟩) ok h3 e1, h4.stands hl ok k2 e3⟩
  | .fz :: ks, _, _, _, hk, ⟨d, ds', v, vs', h1, h2, h3, h4⟩, hf => by
    subst h1 h2
    obtain ⟨es', e3, e4⟩ := map_some hf
    subst e4
    exact ⟨v, vs', rfl, stands_fz ok h3, Rss.stands hl ok (ks := ks) hk h4 e3⟩
  | .ow :: ks, _, _, _, hk, ⟨d, ds', v, vs', h1, h2, h3, h4⟩, hf => by
    subst h1 h2
    obtain ⟨es', e3, e4⟩ := map_some hf
    subst e4
    exact ⟨v, vs', rfl, stands_ow hl ok h3, Rss.stands hl ok (ks := ks) hk h4 e3⟩
end
section
variable {X : Cx} {O L : List Kd} {tg e e2 : Expr} {ma : MA} {m : M} {ks : List Ak} {p pos tpos : Pos} {elts : List Expr} {kk : Nat}
/-! ### a list or a tuple -/
def mItS (m : M) : MI := fun ρ => (m ρ).bind fun p => match p.1 with
  | .list ds => some (ds, p.2)
  | .tuple ds => some (ds, p.2)
  | _ => none
theorem PI.or {w w' : TI} (h : PI X tg e w) (h' : PI X tg e w') : PI X tg e (fun σ H R => w σ H R ∨ w' σ H R) := ⟨fun pins s σ H R I q => by
  rcases q with q | q
  · exact h.run pins s σ H R I q
  · exact h'.run pins s σ H R I q⟩
theorem i_seq (h : PE X e (tE X.K O m .fz)) : PI X tg e (tI X.K O L (mItS m)) := by
  refine PIi (PI.or (i_list (L := L) h) (i_tup (L := L) h)) fun σ H R ⟨F, ρ, ds, ρ', ok, hm, q⟩ => ?_
  obtain ⟨⟨d, ρ1⟩, e1, e3⟩ := bind_some hm
  cases d <;> cases e3
  · exact .inl ⟨F, ρ, _, ρ1, ok, by unfold mItL; rw [e1]; rfl, q⟩
  · exact .inr ⟨F, ρ, _, ρ1, ok, by unfold mItT; rw [e1]; rfl, q⟩
/-! ### zip -/
def dZip : List D → Option (List D)
  | [.list xs, .list ys] => some (zipD xs ys)
  | [.tuple xs, .tuple ys] => some (zipD xs ys)
  | _ => none
theorem i_zip (hm : X.mg "zip" = none) (ha : PA X [e, e2] (tA X.K O ma ks)) (hk : lkArgs L ks = true := by rfl) (hl : lkOf O L = true := by rfl) (hg : Gl X "zip" := by rfl) (hs : starEach [e, e2] X.env = (false, eval e X.env) :: starEach [e2] X.env := by rfl) (hpl : (backTo pos (starEach [e2] X.env)).any (·.1) = false := by rfl) :
    PI X (.Tuple elts kk tpos) (.Call (.Name "zip" p) [e, e2] [] pos) (tI X.K O L (mIt2 ks ma dZip)) := by
  refine PIi (RZ.pi_zipA hg hm ha hs hpl) fun σ H R ⟨F, ρ, ds, ρ', ok, hmm, q⟩ => ?_
  obtain ⟨⟨as, ρ1⟩, e1, e3⟩ := bind_some hmm
  obtain ⟨es, e4, e5⟩ := bind_some e3
  obtain ⟨ds', e6, e7⟩ := map_some e5
  cases e7
  refine ⟨F, ρ, as, ρ1, ok, e1, fun vs F1 H1 ok1 st1 r1 => ?_⟩
  have sa := r1.stands hl ok1 hk e4
  unfold dZip at e6
  split at e6
  · rename_i xs ys
    cases e6
    obtain ⟨v, r, rfl, ⟨a, us, rfl, a1, a2, a3⟩, v2, r2, rfl, ⟨b, ws, rfl, b1, b2, b3⟩, rfl⟩ := sa
    refine ⟨a, b, us, ws, rfl, .inl ⟨a1, b1, q _ F1 H1 _ ok1 st1 ((walk_zip (n := (zipD xs ys).length) (by rw [zipD_len, a2.length, b2.length])).mono (fun _ h => h) fun i H2 x H3 _ _ y => yd_pair (fun {i v} h => a2.getV h) (fun {i v} h => b2.getV h) y) fun Z hz w2 ok2 st2 => ⟨a3 Z hz w2 ok2 st2, b3 Z hz w2 ok2 st2⟩⟩⟩
  · rename_i xs ys
    cases e6
    obtain ⟨v, r, rfl, ⟨a, us, rfl, a1, a2, a3⟩, v2, r2, rfl, ⟨b, ws, rfl, b1, b2, b3⟩, rfl⟩ := sa
    refine ⟨a, b, us, ws, rfl, .inr ⟨a1, b1, q _ F1 H1 (fun H => SqT X.K H a us ∧ SqT X.K H b ws) ok1 st1 ⟨fun i H2 hi ⟨g1, g2⟩ => ?_, fun H2 ⟨g1, g2⟩ => ⟨us, ws, g1, g2, ?_⟩, fun i H2 x H3 hi ⟨g1, g2⟩ y => ?_⟩ fun Z hz w2 ok2 st2 => ⟨a3 Z hz w2 ok2 st2, b3 Z hz w2 ok2 st2⟩⟩⟩
    · rw [zipD_len] at hi
      have h1 : i < us.length := by rw [a2.length]; omega
      have h2 : i < ws.length := by rw [b2.length]; omega
      exact ⟨us, ws, us[i], ws[i], g1, g2, List.getElem?_eq_getElem h1, List.getElem?_eq_getElem h2⟩
    · rw [zipD_len, a2.length, b2.length]
      omega
    · obtain ⟨T, u, t, y1, y2, y3, y4, y5⟩ := y
      exact yd_pair (fun {i v} h => a2.getV h) (fun {i v} h => b2.getV h) ⟨T, u, t, y1, y2, y3, y4 us g1, y5 ws g2⟩
  · cases e6
/-! ### enumerate -/
def enumD (ds : List D) : List D := zipD ((List.range ds.length).map fun (i : Nat) => PyData.int (i : Int)) ds
def dEnum : List D → Option (List D)
  | [.list xs] => some (enumD xs)
  | _ => none
theorem i_enum (hm : X.mg "enumerate" = none) (ha : PA X [e] (tA X.K O ma ks)) (hk : lkArgs L ks = true := by rfl) (hl : lkOf O L = true := by rfl) (hg : Gl X "enumerate" := by rfl) (hs : starEach [e] X.env = [(false, eval e X.env)] := by rfl) :
    PI X (.Tuple elts kk tpos) (.Call (.Name "enumerate" p) [e] [] pos) (tI X.K O L (mIt2 ks ma dEnum)) := by
  refine PIi (pi_enum hg hm ha hs) fun σ H R ⟨F, ρ, ds, ρ', ok, hmm, q⟩ => ?_
  obtain ⟨⟨as, ρ1⟩, e1, e3⟩ := bind_some hmm
  obtain ⟨es, e4, e5⟩ := bind_some e3
  obtain ⟨ds', e6, e7⟩ := map_some e5
  cases e7
  refine ⟨F, ρ, as, ρ1, ok, e1, fun vs F1 H1 ok1 st1 r1 => ?_⟩
  have sa := r1.stands hl ok1 hk e4
  unfold dEnum at e6
  split at e6
  · rename_i xs
    cases e6
    obtain ⟨v, r, rfl, ⟨a, us, rfl, a1, a2, a3⟩, rfl⟩ := sa
    have hlen : (enumD xs).length = us.length := by
      unfold enumD
      rw [zipD_len, List.length_map, List.length_range, a2.length]
      omega
    refine ⟨a, us, rfl, a1, q _ F1 H1 (fun H => SqL X.K H a us) ok1 st1 ?_ fun Z hz w2 ok2 st2 => a3 Z hz w2 ok2 st2⟩
    rw [hlen]
    refine ⟨walk_enum.goes, walk_enum.stops, fun i H2 x H3 hi g y => ?_⟩
    have y := walk_enum.yields i H2 x H3 hi g y
    obtain ⟨T, u, t, y1, y2, y3, y4, y5⟩ := y
    have hi2 : i < xs.length := by rw [← a2.length]; exact hi
    refine yd_pair (f := fun j => if j < xs.length then some (V.int (j : Nat)) else none) (g := fun j => us[j]?) (fun {j v} h => ?_) (fun {j v} h => a2.getV h) ⟨T, u, t, y1, y2, y3, ?_, y5⟩
    · split at h
      · rename_i hj
        cases h
        exact ⟨.int (j : Nat), by rw [List.getElem?_map, List.getElem?_range hj]; rfl, rfl⟩
      · cases h
    · show (if i < xs.length then some (V.int (i : Nat)) else none) = some u
      rw [if_pos hi2]
      exact y4
  · cases e6
/-! ### range with a step -/
def dRngC (lo c : Int) (n : Nat) : List D := (List.range n).map fun (i : Nat) => PyData.int (lo + (i : Int) * c)
theorem dRngC_len {lo c : Int} {n : Nat} : (dRngC lo c n).length = n := by
  unfold dRngC
  rw [List.length_map, List.length_range]
def rngN (i j c : Int) : Nat := (Builtin.Range.rangeSize i j c).toNat
def rngOk (i j c : Int) : Bool := decide (c ≠ 0 ∧ c.natAbs < 1073741824) && (Builtin.Range.small i j c && decide (Builtin.Range.rangeSize i j c = (rngN i j c : Int)))
def mRng3 (ma : MA) : MI := fun ρ => (ma ρ).bind fun p => match p.1 with
  | [.int i, .int j, .int c] => if rngOk i j c = true then some (dRngC i c (rngN i j c), p.2) else none
  | _ => none
theorem i_rng3 {a b c : Expr} (hm : X.mg "range" = none) (ha : PA X [a, b, c] (tA X.K O ma [.fz, .fz, .fz])) (hg : Gl X "range" := by rfl) (hs : starEach [a, b, c] X.env = (false, eval a X.env) :: starEach [b, c] X.env := by rfl) (hpl : (backTo pos (starEach [b, c] X.env)).any (·.1) = false := by rfl) :
    PI X tg (.Call (.Name "range" p) [a, b, c] [] pos) (tI X.K O L (mRng3 ma)) := by
  refine PIi (pi_range3 hg hm ha hs hpl) fun σ H R ⟨F, ρ, ds, ρ', ok, hm, q⟩ => ?_
  obtain ⟨⟨as, ρ1⟩, e1, e2⟩ := bind_some hm
  refine ⟨F, ρ, as, ρ1, ok, e1, fun vs F1 H1 ok1 st1 r1 => ?_⟩
  dsimp only at e2
  split at e2
  · rename_i i j c
    split at e2
    · rename_i hj
      cases e2
      obtain ⟨h1, h2⟩ := Bool.and_eq_true_iff.mp hj
      obtain ⟨h2, h3⟩ := Bool.and_eq_true_iff.mp h2
      have h1 := of_decide_eq_true h1
      have h3 := of_decide_eq_true h3
      obtain ⟨r, _⟩ := r1.fz rfl
      obtain ⟨v, vs', rfl, hv, r'⟩ := r
      obtain ⟨u, t, rfl, hu, ht⟩ := RpA.two r'
      have hv : v = .int i := hv
      have hu : u = .int j := hu
      have ht : t = .int c := ht
      subst hv hu ht
      refine ⟨i, j, c, rngN i j c, rfl, ⟨h1.1, h1.2, h2, h3⟩, q _ F1 H1 (fun _ => True) ok1 st1 ?_ fun _ _ _ _ _ => trivial⟩
      rw [dRngC_len]
      refine ⟨walk_rangeC.goes, walk_rangeC.stops, fun i' H2 x H3 hi g y F e s => ?_⟩
      obtain ⟨rfl, rfl⟩ := walk_rangeC.yields i' H2 x H3 hi g y
      refine ⟨F, .refl s, .int (i + (i' : Int) * c), ?_, rfl⟩
      unfold dRngC
      rw [List.getElem?_map, List.getElem?_range hi]
      rfl
    · cases e2
  · cases e2
end
end DL

/-! DLD: what the printed texts lean on: built-in names, defs by names, small constants. -/
namespace DL
open PySem PySem.Spec PyProof.Rows L2

/-- built-in names that the module leaves as they are -/
def bltNames : List Str := ["len", "isinstance", "int", "bool", "str", "list", "tuple", "dict", "set", "range", "zip", "enumerate", "all", "any", "max", "min", "abs", "sorted", "sum", "reversed"]
structure Bt (mg : Str → Option Value) : Prop where
  no : ∀ x, x ∈ bltNames → mg x = none
section
variable {mg : Str → Option Value} (B : Bt mg)
theorem Bt.len (B : Bt mg) : mg "len" = none := B.no _ (by decide +kernel)
theorem Bt.isinstance (B : Bt mg) : mg "isinstance" = none := B.no _ (by decide +kernel)
theorem Bt.int (B : Bt mg) : mg "int" = none := B.no _ (by decide +kernel)
theorem Bt.bool (B : Bt mg) : mg "bool" = none := B.no _ (by decide +kernel)
theorem Bt.str (B : Bt mg) : mg "str" = none := B.no _ (by decide +kernel)
theorem Bt.list (B : Bt mg) : mg "list" = none := B.no _ (by decide +kernel)
theorem Bt.tuple (B : Bt mg) : mg "tuple" = none := B.no _ (by decide +kernel)
theorem Bt.dict (B : Bt mg) : mg "dict" = none := B.no _ (by decide +kernel)
theorem Bt.set (B : Bt mg) : mg "set" = none := B.no _ (by decide +kernel)
theorem Bt.range (B : Bt mg) : mg "range" = none := B.no _ (by decide +kernel)
theorem Bt.zip (B : Bt mg) : mg "zip" = none := B.no _ (by decide +kernel)
theorem Bt.enumerate (B : Bt mg) : mg "enumerate" = none := B.no _ (by decide +kernel)
theorem Bt.all (B : Bt mg) : mg "all" = none := B.no _ (by decide +kernel)
theorem Bt.any (B : Bt mg) : mg "any" = none := B.no _ (by decide +kernel)
theorem Bt.max (B : Bt mg) : mg "max" = none := B.no _ (by decide +kernel)
theorem Bt.min (B : Bt mg) : mg "min" = none := B.no _ (by decide +kernel)
theorem Bt.abs (B : Bt mg) : mg "abs" = none := B.no _ (by decide +kernel)
theorem Bt.sorted (B : Bt mg) : mg "sorted" = none := B.no _ (by decide +kernel)
end
/-- a def of the module, by its name -/
structure FnX (P : Program) (w : World) (K : PySem.W.Frag) (mg : Str → Option Value) (base : Heap) (x : Str) (k : Nat) (ps : List Str) (sp : Sp) : Prop where
  ex : ∃ (f : Addr) (fd : FuncData), FnG P w K mg base CX0 k f fd ps sp ∧ mg x = some (.ref f) ∧ PySem.W.keepIn K (.ref f) = true ∧ Binds K fd ps []
section
variable {X : Cx} {O Oi L : List Kd} {mf : En → Option (D × En)} {r ka kb : Ak} {x : Str} {p pos : Pos} {e a b : Expr} {es : List Expr} {ma : MA} {m mb : M} {ks : List Ak} {j k : Nat} {ps : List Str} {op : List D → Option D}
theorem e_callX (h : FnX X.prog X.w X.K X.mg X.base x k ps (spF X.K Oi mf r)) (hgd : X.A.guards = some []) (hr : Room j X.A) (ha : PA X (e :: es) (tA X.K O ma ks)) (hj : k ≤ j := by decide) (hs : sigOk O ks Oi = true := by rfl) (hln : ks.length + 0 = Oi.length := by rfl) (hnl : noLk Oi = true := by rfl) (hrr : ∀ i, r ≠ .br i := by exact fun _ z => by cases z)
    (hg : Gl X x := by rfl) (hdb : (x == ("__debug__" : Str)) = false := by decide) (he : starEach (e :: es) X.env = (false, eval e X.env) :: starEach es X.env := by rfl) (hpl : (backTo pos (starEach es X.env)).any (·.1) = false := by rfl) :
    PE X (.Call (.Name x p) (e :: es) [] pos) (tE X.K O (mCall mf ks [] ma) r) := by
  obtain ⟨f, fd, G, h1, h2, h3⟩ := h.ex
  exact e_call G hgd (hr.mono hj) h1 h2 h3 ha hs hln hnl hrr hg hdb he hpl
theorem e_gint {n : Int} (h : ∃ t, X.mg x = some (.int n t)) (hg : Gl X x := by rfl) (h1 : (x == ("__debug__" : Str)) = false := by decide) : PE X (.Name x p) (tE X.K O (mC (.int n)) .fz) := by
  obtain ⟨t, h⟩ := h
  exact e_glob (v := V.int n) h ⟨t, rfl⟩ (fun _ => rfl) hg h1
theorem e_gstr {z : Str} (h : ∃ t, X.mg x = some (.str z t)) (hg : Gl X x := by rfl) (h1 : (x == ("__debug__" : Str)) = false := by decide) : PE X (.Name x p) (tE X.K O (mC (.str z)) .fz) := by
  obtain ⟨t, h⟩ := h
  exact e_glob (v := V.str z) h ⟨t, rfl⟩ (fun _ => rfl) hg h1
/-! ### short forms -/
def dNeg : List D → Option D
  | [.int i] => some (.int (-i))
  | _ => none
theorem s_neg {K : PySem.W.Frag} : LSem K (rL1 (rU fun i => .int (-i))) dNeg .fz := by
  intro F H ds vs d Q s hv ho q
  unfold dNeg at ho
  split at ho
  · cases ho
    obtain ⟨v, rfl, h1⟩ := hv.one
    exact ⟨v, rfl, _, h1, q.now s rfl⟩
  · cases ho
theorem e_len (B : Bt X.mg) (ha : PA X [a] (tA X.K O ma ks)) (hg : Gl X "len" := by rfl) (he : starEach [a] X.env = (false, eval a X.env) :: starEach [] X.env := by rfl) (hpl : (backTo pos (starEach [] X.env)).any (·.1) = false := by rfl) : PE X (.Call (.Name "len" p) [a] [] pos) (tE X.K O (mOp ks ma dLen) .fz) :=
  e_blt call_len s_len B.len boot_len ha hg (by decide) (by decide) he hpl
theorem e_all (B : Bt X.mg) (hc : X.calm = true) (ha : PA X [a] (tA X.K O ma ks)) (hg : Gl X "all" := by rfl) (he : starEach [a] X.env = (false, eval a X.env) :: starEach [] X.env := by rfl) (hpl : (backTo pos (starEach [] X.env)).any (·.1) = false := by rfl) : PE X (.Call (.Name "all" p) [a] [] pos) (tE X.K O (mOp ks ma dAll) .fz) :=
  e_blt (cr_all hc) s_all B.all (by decide +kernel) ha hg (by decide) (by decide) he hpl
theorem e_any (B : Bt X.mg) (hc : X.calm = true) (ha : PA X [a] (tA X.K O ma ks)) (hg : Gl X "any" := by rfl) (he : starEach [a] X.env = (false, eval a X.env) :: starEach [] X.env := by rfl) (hpl : (backTo pos (starEach [] X.env)).any (·.1) = false := by rfl) : PE X (.Call (.Name "any" p) [a] [] pos) (tE X.K O (mOp ks ma dAny) .fz) :=
  e_blt (cr_any hc) s_any B.any (by decide +kernel) ha hg (by decide) (by decide) he hpl
theorem e_list (B : Bt X.mg) (ha : PA X [a] (tA X.K O ma ks)) (hg : Gl X "list" := by rfl) (he : starEach [a] X.env = (false, eval a X.env) :: starEach [] X.env := by rfl) (hpl : (backTo pos (starEach [] X.env)).any (·.1) = false := by rfl) : PE X (.Call (.Name "list" p) [a] [] pos) (tE X.K O (mOp ks ma dList) .ow) :=
  e_bty call_list_of s_list B.list (by decide +kernel) ha hg (by decide) (by decide) he hpl
theorem e_tuple (B : Bt X.mg) (ha : PA X [a] (tA X.K O ma ks)) (hg : Gl X "tuple" := by rfl) (he : starEach [a] X.env = (false, eval a X.env) :: starEach [] X.env := by rfl) (hpl : (backTo pos (starEach [] X.env)).any (·.1) = false := by rfl) : PE X (.Call (.Name "tuple" p) [a] [] pos) (tE X.K O (mOp ks ma dTuple) .fz) :=
  e_bty call_tuple_of s_tuple B.tuple (by decide +kernel) ha hg (by decide) (by decide) he hpl
end
end DL

/-! DLZ: zip of a tuple and a list. -/
namespace DL
open PySem PySem.Spec PyProof.Rows L2
section
variable {prog : Program} {w : World} {A : Around} {E : Value → Shared → Prop} {s : Shared}
/-- the zip at z over a tuple's and a list's iterator -/
structure MZip (h : Heap) (z p q i j a b : Addr) (m n : Nat) (f0 u v : Value) : Prop where
  zip : IsZip h z p q f0
  its : IsPair h p (.ref i) (.ref j)
  out : IsPair h q u v
  fst : h.IsTupleIter i a m
  snd : h.IsListIter j b n
theorem ztl_item {z p q i j a b : Addr} {m n : Nat} {xs ys : Array Value} {x y u v : Value} {Q : Value → Shared → Prop} (D : ZipApart z p q i j a b) (M : MZip s.heap z p q i j a b m n .none u v)
    (ha : s.heap.IsTuple a xs) (hb : s.heap.IsList b ys) (hx : xs[m]? = some x) (hy : ys[n]? = some y)
    (hQ : ∀ g, MZip g z p q i j a b (m + 1) (n + 1) (rawInt s.heap.objs.size) x y → IsPair g s.heap.objs.size x y → (∀ c o, c ≠ z → c ≠ q → c ≠ i → c ≠ j → s.heap.get? c = some o → g.get? c = some o) → Q (.ref s.heap.objs.size) { s with heap := g }) :
    wpAny (model prog w) A (Builtin.«zip.__next__» ⟨[.ref z], []⟩) (fun fin t => ∃ r, fin = .done (.ret r) ∧ Q r t) E s := by
  obtain ⟨M1, M2, M3, M4, M5⟩ := M
  show wpAny _ _ (field (.ref z) 2 >>= _) _ _ _
  refine wpAny_bind (wpAny_field M1 rfl (x := .bool false) rfl ?_); show wpAny _ _ (field (.ref z) 3 >>= _) _ _ _
  refine wpAny_bind (wpAny_field M1 rfl (x := .ref p) rfl (wpAny_bind (wpAny_seqItems M2 rfl ?_)))
  show wpAny _ _ (Builtin.SmallTypes.ownedTupleIsFree (.ref z) >>= _) _ _ _; refine wpAny_bind ?_; unfold Builtin.SmallTypes.ownedTupleIsFree
  refine wpAny_bind (wpAny_field M1 rfl (x := .none) rfl (wpAny_pure ?_)); simp only [if_true]
  refine wpAny_bind (wpAny_rule (wpAny_bind (wpAny_field M1 rfl (x := .ref q) rfl (wpAny_bind (wpAny_setField_rec M1 (by simp) fun g1 z1 b1 => ?_)))))
  have z1 : IsZip g1 z p q .ellipsis := z1; refine wpAny_bind ?_; simp only [List.zipIdx_cons, List.zipIdx_nil, List.forIn_cons, List.forIn_nil]
  refine wpAny_bind (wpAny_bind (wpAny_onRaise ?_)); show wpAny _ _ (Builtin.SmallTypes.nextOf (.ref i) >>= _) _ _ _
  refine wpAny_bind (RZ.nextOf_tuple_item (M4.extBut b1.extBut D.i1z) (ha.extBut b1.extBut D.l1z) hx fun g2 i2 b2 => wpAny_pure ?_)
  have o2 : IsPair g2 q u v := b2.extBut _ _ D.TOi1 (b1.extBut _ _ D.TOz M3)
  refine wpAny_bind (wpAny_seqItems o2 rfl (wpAny_bind (wpAny_updateSeq_pair o2 fun g3 o3 b3 => wpAny_bind (wpAny_letGo (wpAny_pure ?_)))))
  have o3 : IsPair g3 q x v := o3; refine wpAny_bind (wpAny_bind (wpAny_onRaise ?_)); show wpAny _ _ (Builtin.SmallTypes.nextOf (.ref j) >>= _) _ _ _
  have bb : ∀ c o, c ≠ z → c ≠ i → c ≠ q → s.heap.get? c = some o → g3.get? c = some o := fun c o c1 c2 c3 e => b3.extBut _ _ c3 (b2.extBut _ _ c2 (b1.extBut _ _ c1 e))
  have j3 : g3.IsListIter j b n := ((M5.extBut b1.extBut D.i2z).extBut b2.extBut D.i12.symm).extBut b3.extBut D.TOi2.symm
  have l3 : g3.IsList b ys := ((hb.extBut b1.extBut D.l2z).extBut b2.extBut D.l2i1).extBut b3.extBut D.l2TO
  refine wpAny_bind (wpAny_nextOf_list_item j3 l3 hy fun g4 j4 b4 => wpAny_pure ?_)
  have o4 : IsPair g4 q x v := b4.extBut _ _ D.TOi2 o3
  refine wpAny_bind (wpAny_seqItems o4 rfl (wpAny_bind (wpAny_updateSeq_pair o4 fun g5 o5 b5 => wpAny_bind (wpAny_letGo (wpAny_pure (wpAny_pure ?_))))))
  have o5 : IsPair g5 q x y := o5; refine wpAny_bind (wpAny_seqItems o5 rfl (wpAny_bind (wpAny_newTuple ?_)))
  have n5 : g5.objs.size = s.heap.objs.size := by rw [b5.1, b4.1, b3.1, b2.1, b1.1]
  have z5 : IsZip g5 z p q .ellipsis := b5.extBut _ _ D.TOz.symm (b4.extBut _ _ D.i2z.symm (b3.extBut _ _ D.TOz.symm (b2.extBut _ _ D.i1z.symm z1)))
  have k5 : ∀ c o, c ≠ z → c ≠ q → c ≠ i → c ≠ j → s.heap.get? c = some o → g5.get? c = some o := fun c o c1 c2 c3 c4 e => b5.extBut _ _ c2 (b4.extBut _ _ c4 (bb c o c1 c3 c2 e))
  have i5 : g5.IsTupleIter i a (m + 1) := ((i2.extBut b3.extBut D.TOi1.symm).extBut b4.extBut D.i12).extBut b5.extBut D.TOi1.symm
  have j5 : g5.IsListIter j b (n + 1) := j4.extBut b5.extBut D.TOi2.symm
  have zl : z < g5.objs.size := Heap.lt_size z5
  show wpAny _ _ (Builtin.SmallTypes.ownedTupleHandOut (.ref z) (.ref g5.objs.size) >>= _) _ _ _; refine wpAny_bind ?_; unfold Builtin.SmallTypes.ownedTupleHandOut
  have z6 : IsZip (g5.push { cls := .type "tuple", data := .seq #[x, y] }) z p q .ellipsis := Heap.get?_push_of_some _ z5
  refine wpAny_bind (wpAny_setField_rec z6 (by simp) fun g7 z7 b7 => ?_)
  have z7 : IsZip g7 z p q (rawInt g5.objs.size) := z7; refine wpAny_setField_rec z7 (by simp) fun g8 z8 b8 => ?_
  have z8 : IsZip g8 z p q (rawInt g5.objs.size) := z8
  have up : ∀ c o, c ≠ z → g5.get? c = some o → g8.get? c = some o := fun c o c1 e => b8.extBut _ _ c1 (b7.extBut _ _ c1 (Heap.get?_push_of_some _ e))
  have t8 : IsPair g8 g5.objs.size x y := b8.extBut _ _ (Nat.ne_of_gt zl) (b7.extBut _ _ (Nat.ne_of_gt zl) (Heap.get?_push_size _ rfl))
  rw [n5] at z8 t8; refine wpAny_pure ⟨_, rfl, ?_⟩; show Q (.ref g5.objs.size) _
  rw [n5]
  have p5 : IsPair g8 p (.ref i) (.ref j) := up _ _ D.TIz (k5 _ _ D.TIz D.TITO D.TIi1 D.TIi2 M2)
  exact hQ g8 ⟨z8, p5, up _ _ D.TOz o5, i5.at fun o e => up _ o D.i1z e, j5.at fun o e => up _ o D.i2z e⟩ t8 fun c o c1 c2 c3 c4 e => up c o c1 (k5 c o c1 c2 c3 c4 e)
theorem ztl_end {z p q i j a b : Addr} {m n : Nat} {xs ys : Array Value} {u v : Value} {Q : Fin → Shared → Prop} (hh : A.handled = none) (D : ZipApart z p q i j a b) (M : MZip s.heap z p q i j a b m n .none u v)
    (ha : s.heap.IsTuple a xs) (hb : s.heap.IsList b ys) (he : xs[m]? = none ∨ ys[n]? = none)
    (hE : ∀ g e, (∀ c o, c ≠ z → c ≠ q → c ≠ i → c ≠ j → s.heap.get? c = some o → g.get? c = some o) → (∃ o, g.get? e = some o ∧ o.cls = .type "StopIteration") → E (.ref e) { s with heap := g }) :
    wpAny (model prog w) A (Builtin.«zip.__next__» ⟨[.ref z], []⟩) Q E s := by
  obtain ⟨M1, M2, M3, M4, M5⟩ := M
  show wpAny _ _ (field (.ref z) 2 >>= _) _ _ _
  refine wpAny_bind (wpAny_field M1 rfl (x := .bool false) rfl ?_); show wpAny _ _ (field (.ref z) 3 >>= _) _ _ _
  refine wpAny_bind (wpAny_field M1 rfl (x := .ref p) rfl (wpAny_bind (wpAny_seqItems M2 rfl ?_)))
  show wpAny _ _ (Builtin.SmallTypes.ownedTupleIsFree (.ref z) >>= _) _ _ _; refine wpAny_bind ?_; unfold Builtin.SmallTypes.ownedTupleIsFree
  refine wpAny_bind (wpAny_field M1 rfl (x := .none) rfl (wpAny_pure ?_)); simp only [if_true]
  refine wpAny_bind (wpAny_rule (wpAny_bind (wpAny_field M1 rfl (x := .ref q) rfl (wpAny_bind (wpAny_setField_rec M1 (by simp) fun g1 z1 b1 => ?_)))))
  have z1 : IsZip g1 z p q .ellipsis := z1; refine wpAny_bind ?_; simp only [List.zipIdx_cons, List.zipIdx_nil, List.forIn_cons, List.forIn_nil]
  refine wpAny_bind (wpAny_bind (wpAny_onRaise ?_)); show wpAny _ _ (Builtin.SmallTypes.nextOf (.ref i) >>= _) _ _ _
  have fin : ∀ (g : Heap) (e : Addr), IsZip g z p q .ellipsis → (∃ o, g.get? e = some o ∧ o.cls = .type "StopIteration") → e ≠ z := fun g e y ⟨o, e1, e2⟩ c => by
    rw [c, y] at e1
    cases e1
    simp at e2
  cases hx : xs[m]? with
  | none =>
    refine wpAny_bind (RZ.nextOf_tuple_end hh (M4.extBut b1.extBut D.i1z) (ha.extBut b1.extBut D.l1z) hx fun g2 e b2 h2 => ?_)
    have y2 : IsZip g2 z p q .ellipsis := b2 _ _ D.i1z.symm z1
    have ne := fin g2 e y2 h2
    obtain ⟨o, e1, e2⟩ := h2
    exact wpAny_setField_rec y2 (by simp) fun g3 _ b3 => hE g3 e (fun c o c1 _ c3 _ h => b3.extBut _ _ c1 (b2 _ _ c3 (b1.extBut _ _ c1 h))) ⟨o, b3.extBut _ _ ne e1, e2⟩
  | some x =>
    have hy : ys[n]? = none := he.resolve_left (by rw [hx]; exact nofun)
    refine wpAny_bind (RZ.nextOf_tuple_item (M4.extBut b1.extBut D.i1z) (ha.extBut b1.extBut D.l1z) hx fun g2 i2 b2 => wpAny_pure ?_)
    have o2 : IsPair g2 q u v := b2.extBut _ _ D.TOi1 (b1.extBut _ _ D.TOz M3)
    refine wpAny_bind (wpAny_seqItems o2 rfl (wpAny_bind (wpAny_updateSeq_pair o2 fun g3 o3 b3 => wpAny_bind (wpAny_letGo (wpAny_pure ?_)))))
    refine wpAny_bind (wpAny_bind (wpAny_onRaise ?_)); show wpAny _ _ (Builtin.SmallTypes.nextOf (.ref j) >>= _) _ _ _
    have j3 : g3.IsListIter j b n := ((M5.extBut b1.extBut D.i2z).extBut b2.extBut D.i12.symm).extBut b3.extBut D.TOi2.symm
    have l3 : g3.IsList b ys := ((hb.extBut b1.extBut D.l2z).extBut b2.extBut D.l2i1).extBut b3.extBut D.l2TO
    refine wpAny_bind (wpAny_nextOf_list_end hh j3 l3 hy fun g4 e b4 h4 => ?_)
    have y4 : IsZip g4 z p q .ellipsis := b4 _ _ D.i2z.symm (b3.extBut _ _ D.TOz.symm (b2.extBut _ _ D.i1z.symm z1))
    have ne := fin g4 e y4 h4
    obtain ⟨o, e1, e2⟩ := h4
    exact wpAny_setField_rec y4 (by simp) fun g5 _ b5 => hE g5 e (fun c o c1 c2 c3 c4 h => b5.extBut _ _ c1 (b4 _ _ c4 (b3.extBut _ _ c2 (b2.extBut _ _ c3 (b1.extBut _ _ c1 h))))) ⟨o, b5.extBut _ _ ne e1, e2⟩
theorem ztl_next {z p q i j a b : Addr} {m n : Nat} {xs ys : Array Value} {x y u v : Value} {Q : Option Value → Shared → Prop} (D : ZipApart z p q i j a b) (M : MZip s.heap z p q i j a b m n .none u v)
    (ha : s.heap.IsTuple a xs) (hb : s.heap.IsList b ys) (hx : xs[m]? = some x) (hy : ys[n]? = some y)
    (hQ : ∀ g, MZip g z p q i j a b (m + 1) (n + 1) (rawInt s.heap.objs.size) x y → IsPair g s.heap.objs.size x y → (∀ c o, c ≠ z → c ≠ q → c ≠ i → c ≠ j → s.heap.get? c = some o → g.get? c = some o) → Q (some (.ref s.heap.objs.size)) { s with heap := g }) :
    wpAny (model prog w) A (pyNext (.ref z)) Q E s := by
  have T : s.TypeIs (.ref z) "zip" := ⟨_, M.zip, rfl⟩
  unfold pyNext
  refine wpAny_bind (wpAny_attempt (wpAny_callSpecial?_slot (name := Str.ofString "__next__") T F.slot_zip_next (wpAny_call_entry F.slot_zip_next T F.entry_zip_next ?_ (F.args_zip_next_1 _))))
  exact ztl_item D M ha hb hx hy fun g a1 a2 a3 => wpAny_pure (hQ g a1 a2 a3)
theorem ztl_stop {z p q i j a b : Addr} {m n : Nat} {xs ys : Array Value} {u v : Value} {Q : Option Value → Shared → Prop} (hh : A.handled = none) (D : ZipApart z p q i j a b) (M : MZip s.heap z p q i j a b m n .none u v)
    (ha : s.heap.IsTuple a xs) (hb : s.heap.IsList b ys) (he : xs[m]? = none ∨ ys[n]? = none)
    (hQ : ∀ g, (∀ c o, c ≠ z → c ≠ q → c ≠ i → c ≠ j → s.heap.get? c = some o → g.get? c = some o) → Q none { s with heap := g }) : wpAny (model prog w) A (pyNext (.ref z)) Q E s := by
  have T : s.TypeIs (.ref z) "zip" := ⟨_, M.zip, rfl⟩
  unfold pyNext
  refine wpAny_bind (wpAny_attempt (wpAny_callSpecial?_slot (name := Str.ofString "__next__") T F.slot_zip_next (wpAny_call_entry F.slot_zip_next T F.entry_zip_next ?_ (F.args_zip_next_1 _))))
  refine ztl_end hh D M ha hb he fun g e hk ⟨o, e1, e2⟩ => ?_
  exact wpAny_bind (wpAny_isInstance (T := "StopIteration") (b := true) ⟨o, e1, e2⟩ isSubtype_stop (wpAny_pure (hQ _ hk)))
end
/-! ### the object made -/
abbrev tz1 (h : Heap) (a : Addr) : Heap := h.push { cls := .type "tuple_iterator", data := .fields #[.ref a, .int 0 0] }
abbrev tz2 (h : Heap) (a b : Addr) : Heap := (tz1 h a).push { cls := .type "list_iterator", data := .fields #[.ref b, .int 0 0] }
abbrev tz3 (h : Heap) (a b : Addr) : Heap := (tz2 h a b).push { cls := .type "tuple", data := .seq #[.ref h.objs.size, .ref (tz1 h a).objs.size] }
abbrev tz4 (h : Heap) (a b : Addr) : Heap := (tz3 h a b).push { cls := .type "tuple", data := .seq #[.none, .none] }
abbrev tz5 (h : Heap) (a b : Addr) : Heap := (tz4 h a b).push { cls := .type "zip", data := .fields #[.none, .bool false, .bool false, .ref (tz2 h a b).objs.size, .ref (tz3 h a b).objs.size] }
theorem made_tz (a b : Addr) (xs ys : Array Value) : Meets (Builtin.«zip.__new__» ⟨[.type "zip", .ref a, .ref b], []⟩) (fun _ R s => s.heap.IsTuple a xs ∧ s.heap.IsList b ys ∧ R (.ok (.ret (.ref (tz4 s.heap a b).objs.size))) { s with heap := tz5 s.heap a b }) :=
  .of_wp fun prog w A R s h => by
    obtain ⟨hp, g, d, tk, os⟩ := s
    obtain ⟨ha, hb, h⟩ := h
    have isz := sub_zip
    have A1 : Heap.IsTuple (Shared.heap ⟨hp, g, d, tk, os⟩) a xs := ha
    have A2 : Heap.IsList (Shared.heap ⟨tz1 hp a, g, d, tk, os⟩) b ys := Heap.IsList.push hb _
    wp_walk using wpAny_pyIter_tuple A1, wpAny_pyIter_list A2
    exact ⟨_, rfl, h⟩
theorem call_tz {prog : Program} {w : World} {A : Around} {E : Value → Shared → Prop} {s : Shared} {a b : Addr} {xs ys : Array Value} {Q : Value → Shared → Prop} (ha : s.heap.IsTuple a xs) (hb : s.heap.IsList b ys)
    (h : ∀ g, MZip g (s.heap.objs.size + 4) (s.heap.objs.size + 2) (s.heap.objs.size + 3) s.heap.objs.size (s.heap.objs.size + 1) a b 0 0 .none .none .none → (∀ c o, s.heap.get? c = some o → g.get? c = some o) → Q (.ref (s.heap.objs.size + 4)) { s with heap := g }) :
    wpAny (model prog w) A (call (.type "zip") [.ref a, .ref b]) Q E s := by
  refine callType_new F.called_zip (by decide) (F.typeCall_zip_2 _ _) (F.newCall_zip_2 _ _) (fun o => F.args_object_init_3 o _ _) F.entry_zip_new (made_tz a b xs ys) ⟨ha, hb, ?_⟩
  have n1 : (tz1 s.heap a).objs.size = s.heap.objs.size + 1 := Heap.size_push ..
  have n2 : (tz2 s.heap a b).objs.size = s.heap.objs.size + 2 := (Heap.size_push ..).trans (congrArg (· + 1) n1)
  have n3 : (tz3 s.heap a b).objs.size = s.heap.objs.size + 3 := (Heap.size_push ..).trans (congrArg (· + 1) n2)
  have n4 : (tz4 s.heap a b).objs.size = s.heap.objs.size + 4 := (Heap.size_push ..).trans (congrArg (· + 1) n3)
  have up : ∀ {g : Heap} {o : Obj} {c : Addr} {o' : Obj}, g.get? c = some o' → (g.push o).get? c = some o' := fun e => Heap.get?_push_of_some _ e
  have g5 : (tz5 s.heap a b).get? (tz4 s.heap a b).objs.size = some _ := Heap.get?_push_size _ rfl
  have g4 : (tz5 s.heap a b).get? (tz3 s.heap a b).objs.size = some _ := up (Heap.get?_push_size _ rfl)
  have g3 : (tz5 s.heap a b).get? (tz2 s.heap a b).objs.size = some _ := up (up (Heap.get?_push_size _ rfl))
  have g2 : (tz5 s.heap a b).get? (tz1 s.heap a).objs.size = some _ := up (up (up (Heap.get?_push_size _ rfl)))
  have g1 : (tz5 s.heap a b).get? s.heap.objs.size = some _ := up (up (up (up (Heap.get?_push_size _ rfl))))
  show _ ∧ _
  rw [n2, n3, n4] at g5
  rw [n1, n2] at g3
  rw [n3] at g4
  rw [n1] at g2
  rw [n4]
  exact ⟨⟨_, g5, rfl⟩, h _ ⟨g5, g3, g4, ⟨_, g1, rfl, rfl⟩, ⟨_, g2, rfl, rfl⟩⟩ fun c o x => up (up (up (up (up x))))⟩
/-! ### its turns -/
/-- the tuple at a and the list at b as they stand at each turn -/
def ItzM (K : PySem.W.Frag) (a b : Addr) : It :=
  ⟨fun i H => ∃ (us ws : List V) (u w : V), SqT K H a us ∧ SqL K H b ws ∧ us[i]? = some u ∧ ws[i]? = some w,
    fun i H v H' => ∃ T u w, v = .ref T ∧ H T = none ∧ H' = upd H T (.tup [u, w]) ∧ (∀ us, SqT K H a us → us[i]? = some u) ∧ ∀ ws, SqL K H b ws → ws[i]? = some w,
    fun i H => ∃ us ws : List V, SqT K H a us ∧ SqL K H b ws ∧ (us.length ≤ i ∨ ws.length ≤ i)⟩
theorem five {z p q i j c : Addr} (h : c ∈ [z, p, q, i, j]) : c = z ∨ c = p ∨ c = q ∨ c = i ∨ c = j := by simpa using h
theorem turn_tz {P : Program} {w : World} {K : PySem.W.Frag} {elts : List Expr} {kk : Nat} {tpos : Pos} {a b z p q i1 i2 : Addr} (D : ZipApart z p q i1 i2 a b) :
    Turn P w K (.Tuple elts kk tpos) (ItzM K a b) [z, p, q, i1, i2] z (fun i h => ∃ u v, MZip h z p q i1 i2 a b i i .none u v) where
  mem := by simp
  obj := fun i h st c hc => by
    obtain ⟨u, v, m1, m2, m3, ⟨o1, e1, _, d1⟩, ⟨o2, e2, _, d2⟩⟩ := st
    rcases five hc with e | e | e | e | e <;> subst e
    · exact ⟨_, m1, fun v q => nomatch q⟩
    · exact ⟨_, m2, fun v q => nomatch q⟩
    · exact ⟨_, m3, fun v q => nomatch q⟩
    · exact ⟨o1, e1, fun v q => by rw [d1] at q; cases q⟩
    · exact ⟨o2, e2, fun v q => by rw [d2] at q; cases q⟩
  keep := fun i h h' st k => by
    obtain ⟨u, v, m1, m2, m3, m4, m5⟩ := st
    exact ⟨u, v, k z (by simp) _ m1, k p (by simp) _ m2, k q (by simp) _ m3, m4.at fun o e => k i1 (by simp) o e, m5.at fun o e => k i2 (by simp) o e⟩
  item := by
    intro X hP hw hK hc i pins s σ H E I hf st hg
    subst hP hw hK
    obtain ⟨u0, v0, M⟩ := st
    obtain ⟨us, ws, x, y, hus, hws, hx, hy⟩ := hg
    obtain ⟨ts, ra, pa, _⟩ := I.tuple hus
    obtain ⟨ts2, rb, pb, _⟩ := I.list hws
    obtain ⟨vx, ex, rx⟩ := ra.get hx
    obtain ⟨vy, ey, ry⟩ := rb.get hy
    have zl : z < s.heap.objs.size := Heap.lt_size M.zip
    refine ztl_next D M pa pb.isList (x := vx) (y := vy) (by simpa using ex) (by simpa using ey) fun g M' hT hk => ?_
    refine ⟨_, rfl, wpAny_letOwnedTupleGo_zip (s := { s with heap := g }) M'.zip fun g2 z2 sb => ?_⟩
    have T2 : g2.get? s.heap.objs.size = some { cls := .type "tuple", data := .seq #[vx, vy] } := (sb.2 _ (Nat.ne_of_gt zl)).trans hT
    have new : ObjOk X.prog X.w (upd H s.heap.objs.size (.tup [x, y])) g2 s.heap.objs.size (.tup [x, y]) := ⟨by show 2 ≤ sizeLine; decide, [vx, vy], .cons rx (.cons ry .nil), ⟨_, T2, rfl, _, rfl⟩⟩
    have hk2 : ∀ c o, c ∉ [z, p, q, i1, i2] → s.heap.get? c = some o → g2.get? c = some o := fun c o hb e => by
      have nz : c ≠ z := fun e => hb (by simp [e])
      exact (sb.2 c nz).trans (hk c o nz (fun e => hb (by simp [e])) (fun e => hb (by simp [e])) (fun e => hb (by simp [e])) e)
    have I1 : Inv X pins σ (upd H s.heap.objs.size (.tup [x, y])) { s with heap := g2 } := I.turnedNew (t' := s.toks) (ch := [z, p, q, i1, i2]) hk2 hf (Nat.le_refl _) new
    have ext : ∀ c o, c ≠ z → g.get? c = some o → g2.get? c = some o := fun c o n e => (sb.2 c n).trans e
    refine ⟨.ref s.heap.objs.size, _, I1, rfl, ⟨_, x, y, rfl, I.hok.fresh (Nat.le_refl _), rfl, fun l hl => by rw [I.tuple_inj hl hus]; exact hx, fun l hl => by rw [I.list_inj hl hws]; exact hy⟩, ⟨vx, vy, z2, ext _ _ D.TIz M'.its, ext _ _ D.TOz M'.out, M'.fst.at fun o e => ext _ _ D.i1z e, M'.snd.at fun o e => ext _ _ D.i2z e⟩, fun c hm => ?_⟩
    have lt : c < s.heap.objs.size := by
      obtain ⟨o1, e1, _⟩ := M.fst
      obtain ⟨o2, e2, _⟩ := M.snd
      rcases five hm with e | e | e | e | e <;> subst e
      · exact zl
      · exact Heap.lt_size M.its
      · exact Heap.lt_size M.out
      · exact Heap.lt_size e1
      · exact Heap.lt_size e2
    rw [upd_ne (Nat.ne_of_lt lt)]
    exact (hf c hm).1
  done := by
    intro X hP hw hK hc i pins s σ H E I hf st hg
    subst hP hw hK
    obtain ⟨u0, v0, M⟩ := st
    obtain ⟨us, ws, hus, hws, hend⟩ := hg
    obtain ⟨ts, ra, pa, _⟩ := I.tuple hus
    obtain ⟨ts2, rb, pb, _⟩ := I.list hws
    have la := ra.length
    have lb := rb.length
    have he : ts.toArray[i]? = none ∨ ts2.toArray[i]? = none := hend.imp (fun e => by simp; omega) fun e => by simp; omega
    refine ztl_stop (I.ok.hd hc) D M pa pb.isList he fun g hk => ⟨rfl, I.turnedL (t' := s.toks) (ch := [z, p, q, i1, i2]) (fun c o hb e => ?_) hf⟩
    exact hk c o (fun e => hb (by simp [e])) (fun e => hb (by simp [e])) (fun e => hb (by simp [e])) (fun e => hb (by simp [e])) e
  self := fun A i s Q E ⟨_, _, M⟩ h => wpAny_pyIter_zip M.zip h
def iZipM (K : PySem.W.Frag) (ta : TA) : TI := fun σ H R => ta σ H fun vs H1 => ∃ a b us ws, vs = [.ref a, .ref b] ∧ SqT K H1 a us ∧ SqL K H1 b ws ∧ R (ItzM K a b) H1
theorem pi_zipM {X : Cx} {e e2 : Expr} {ta : TA} {p pos tpos : Pos} {elts : List Expr} {kk : Nat} (hg : Gl X "zip") (hm : X.mg "zip" = none) (ha : PA X [e, e2] ta)
    (hs : starEach [e, e2] X.env = (false, eval e X.env) :: starEach [e2] X.env) (hpl : (backTo pos (starEach [e2] X.env)).any (·.1) = false) :
    PI X (.Tuple elts kk tpos) (.Call (.Name "zip" p) [e, e2] [] pos) (iZipM X.K ta) := by
  refine ⟨fun pins s σ H R I h => Call_ (ld_blt I hg hm PyProof.Rows.boot_zip (PyProof.Rows.callWith_type1 (thn (ha.run pos pins s σ H _ I h) fun us s1 ⟨vs, H1, I1, r1, a, b, xs, ys, ex, q1, q2, q3⟩ => ?_) hs hpl))⟩
  subst ex
  cases r1 with
  | cons r rr => cases rr with
    | cons r' rr =>
      cases rr
      cases r
      cases r'
      have fr : ∀ c, c ∈ [s1.heap.objs.size + 4, s1.heap.objs.size + 2, s1.heap.objs.size + 3, s1.heap.objs.size, s1.heap.objs.size + 1] → FpOk X pins H1 c := fun c hm => by
        have le : s1.heap.objs.size ≤ c := by
          rcases five hm with e | e | e | e | e <;> rw [e] <;> first | exact Nat.le_refl _ | exact Nat.le_add_right _ _
        exact I1.fpOk le (I1.hok.fresh le)
      obtain ⟨ts, ra, pa, _⟩ := I1.tuple q1
      obtain ⟨ts2, rb, pb, _⟩ := I1.list q2
      obtain ⟨o1, e1, _⟩ := id pa
      refine call_tz (show s1.heap.IsTuple a ts.toArray from pa) pb.isList fun g M hk => wpAny_pyIter_zip M.zip ?_
      have I2 : Inv X pins σ H1 { s1 with heap := g } := I1.kept (t' := s1.toks) hk
      exact ⟨_, [s1.heap.objs.size + 4, s1.heap.objs.size + 2, s1.heap.objs.size + 3, s1.heap.objs.size, s1.heap.objs.size + 1], _, _, H1, rfl, I2, turn_tz (PySem.W.ktu_apart s1.heap.objs.size a b (Heap.lt_size e1) pb.lt), ⟨_, _, M⟩, fr, q3⟩
section
variable {X : Cx} {O L : List Kd} {e e2 : Expr} {ma : MA} {ks : List Ak} {p pos tpos : Pos} {elts : List Expr} {kk : Nat}
def dZipM : List D → Option (List D)
  | [.tuple xs, .list ys] => some (zipD xs ys)
  | _ => none
theorem i_zipM (hm : X.mg "zip" = none) (ha : PA X [e, e2] (tA X.K O ma ks)) (hk : lkArgs L ks = true := by rfl) (hl : lkOf O L = true := by rfl) (hg : Gl X "zip" := by rfl) (hs : starEach [e, e2] X.env = (false, eval e X.env) :: starEach [e2] X.env := by rfl) (hpl : (backTo pos (starEach [e2] X.env)).any (·.1) = false := by rfl) :
    PI X (.Tuple elts kk tpos) (.Call (.Name "zip" p) [e, e2] [] pos) (tI X.K O L (mIt2 ks ma dZipM)) := by
  refine PIi (pi_zipM hg hm ha hs hpl) fun σ H R ⟨F, ρ, ds, ρ', ok, hmm, q⟩ => ?_
  obtain ⟨⟨as, ρ1⟩, e1, e3⟩ := bind_some hmm
  obtain ⟨es, e4, e5⟩ := bind_some e3
  obtain ⟨ds', e6, e7⟩ := map_some e5
  cases e7
  refine ⟨F, ρ, as, ρ1, ok, e1, fun vs F1 H1 ok1 st1 r1 => ?_⟩
  have sa := r1.stands hl ok1 hk e4
  unfold dZipM at e6
  split at e6
  · rename_i xs ys
    cases e6
    obtain ⟨v, r, rfl, ⟨a, us, rfl, a1, a2, a3⟩, v2, r2, rfl, ⟨b, ws, rfl, b1, b2, b3⟩, rfl⟩ := sa
    refine ⟨a, b, us, ws, rfl, a1, b1, q _ F1 H1 (fun H => SqT X.K H a us ∧ SqL X.K H b ws) ok1 st1 ⟨fun i H2 hi ⟨g1, g2⟩ => ?_, fun H2 ⟨g1, g2⟩ => ⟨us, ws, g1, g2, ?_⟩, fun i H2 x H3 hi ⟨g1, g2⟩ y => ?_⟩ fun Z hz w2 ok2 st2 => ⟨a3 Z hz w2 ok2 st2, b3 Z hz w2 ok2 st2⟩⟩
    · rw [zipD_len] at hi
      have h1 : i < us.length := by rw [a2.length]; omega
      have h2 : i < ws.length := by rw [b2.length]; omega
      exact ⟨us, ws, us[i], ws[i], g1, g2, List.getElem?_eq_getElem h1, List.getElem?_eq_getElem h2⟩
    · rw [zipD_len, a2.length, b2.length]
      omega
    · obtain ⟨T, u, t, y1, y2, y3, y4, y5⟩ := y
      exact yd_pair (fun {i v} h => a2.getV h) (fun {i v} h => b2.getV h) ⟨T, u, t, y1, y2, y3, y4 us g1, y5 ws g2⟩
  · cases e6
def dZip2 : List D → Option (List D)
  | [.list xs, .list ys] => some (zipD xs ys)
  | [.tuple xs, .tuple ys] => some (zipD xs ys)
  | [.tuple xs, .list ys] => some (zipD xs ys)
  | _ => none
/-- zip of two lists, two tuples, a tuple and a list -/
theorem i_zip2 (hm : X.mg "zip" = none) (ha : PA X [e, e2] (tA X.K O ma ks)) (hk : lkArgs L ks = true := by rfl) (hl : lkOf O L = true := by rfl) (hg : Gl X "zip" := by rfl) (hs : starEach [e, e2] X.env = (false, eval e X.env) :: starEach [e2] X.env := by rfl) (hpl : (backTo pos (starEach [e2] X.env)).any (·.1) = false := by rfl) :
    PI X (.Tuple elts kk tpos) (.Call (.Name "zip" p) [e, e2] [] pos) (tI X.K O L (mIt2 ks ma dZip2)) := by
  refine PIi (PI.or (i_zip (L := L) hm ha hk hl hg hs hpl) (i_zipM (L := L) hm ha hk hl hg hs hpl)) fun σ H R ⟨F, ρ, ds, ρ', ok, hmm, q⟩ => ?_
  obtain ⟨⟨as, ρ1⟩, e1, e3⟩ := bind_some hmm
  obtain ⟨es, e4, e5⟩ := bind_some e3
  obtain ⟨ds', e6, e7⟩ := map_some e5
  cases e7
  have mk : ∀ {d : List D → Option (List D)}, d es = some ds → mIt2 ks ma d ρ = some (ds, ρ1) := fun h => by
    unfold mIt2
    rw [e1]
    show ((fill ks as ρ1).bind fun es => (_ : Option (List D)).map _) = _
    rw [e4]
    show (_ : Option (List D)).map _ = _
    rw [h]
    rfl
  unfold dZip2 at e6
  split at e6
  · exact .inl ⟨F, ρ, _, ρ1, ok, mk e6, q⟩
  · exact .inl ⟨F, ρ, _, ρ1, ok, mk e6, q⟩
  · exact .inr ⟨F, ρ, _, ρ1, ok, mk e6, q⟩
  · cases e6
end
end DL

/-! DLE: more operators. -/
namespace DL
open PySem PySem.Spec PyProof.Rows L2
section
variable {K : PySem.W.Frag}
theorem s_divP : LSem K (rL2 (rI CDivN fun i j => .int (i.fdiv j))) dDiv .fz := s_div
theorem iop_fdivS {X : Cx} : OpR X (inplaceOp .FloorDiv) (rI CDivN fun i j => .int (i.fdiv j)) := L2.opI fun _ _ _ _ _ _ _ hc q => ifloordiv_int hc.1 q (.inl (PyProof.noPylong_small hc.2))
/-- the law's promise, from what its text computes -/
theorem rpA_ints {F : Hp} : ∀ ns : List Int, RpA K F (ns.map PyData.int) (ns.map V.int)
  | [] => rfl
  | n :: ns => ⟨.int n, ns.map V.int, rfl, rfl, rpA_ints ns⟩
theorem law_sp0 {mf : En → Option (D × En)} {o : En} {ns : List Int} {a : Addr} {H : Hp} (e : mf [some (.list (ns.map PyData.int))] = some (.bool true, o)) (hS : SqL K H a (ns.map V.int)) : spF K [.fz] mf .fz [.ref a] H (fun v _ => v = .bl true) fun _ _ _ => False := by
  refine ⟨H, _, _, o, ⟨fun _ _ z => z, rfl, rfl, fun i d h1 h2 => ?_, fun i k d h1 h2 h3 => ?_, fun i j p h1 h2 => ?_⟩, e, fun v F2 H2 _ _ r => r⟩
  · match i with
    | 0 =>
      cases h2
      exact ⟨.ref a, rfl, a, _, rfl, hS, rpA_ints ns⟩
    | i + 1 => cases h2
  · match i with
    | 0 =>
      cases h1
      cases h2
    | i + 1 => cases h3
  · obtain ⟨k, d, g1, g2, g3, g4⟩ := h1
    match i with
    | 0 =>
      cases g1
      cases g2
    | i + 1 => cases g3
end
end DL

namespace DL
open PySem PySem.Spec PyProof.Rows L2
/-! ### the text's defs, each as a function on data -/
def topS (i : Nat) : Stmt := PySem.Challenge.pw_codemill_k75_whole_packed.main.body.getD i (.Pass ⟨0, 0, 0, 0⟩)
structure Ct (mg : Str → Option Value) : Prop where
  GREAT_PLACE : ∃ t, mg "GREAT_PLACE" = some (.int 9999 t)
  PART : ∃ t, mg "PART" = some (.int 64 t)
abbrev s_is_number : Stmt := topS 4
abbrev N_is_number : List Str := ["thing", "least", "most"]
theorem sc_is_number : FnScope N_is_number ["thing", "least", "most"] (defScope s_is_number) := ⟨rfl, rfl, rfl, by decide +kernel, rfl, by decide +kernel, by decide +kernel⟩
abbrev O_is_number : List Kd := [.fz, .fz, .fz]
def m_is_number : MS := (mRet (mAndV (m1 (.fz) (mVar 0) (dIs "int")) (mAndV (mNotV (m1 (.fz) (mVar 0) (dIs "bool"))) (mChain (fun i j => decide (i ≤ j)) (fun i j => decide (i ≤ j)) (mVar 1) (mVar 0) (mVar 2)))))
def f_is_number : En → Option (D × En) := mFun [.fz, .fz, .fz] 0 .fz m_is_number
theorem ok_is_number {P : Program} {w : World} {K : PySem.W.Frag} {mg : Str → Option Value} {base : Heap} {f : Addr} {fd : FuncData} (F : FunD K "is_number" "is_number" (defArgs s_is_number) (defBody s_is_number) (defScope s_is_number) [] [] f fd) (B : Bt mg) (C : Ct mg) :
    FnG P w K mg base CX0 1 f fd ["thing", "least", "most"] (spF K [.fz, .fz, .fz] f_is_number .fz) :=
  fn_data (Oi := [.fz, .fz, .fz]) (Ol := []) (r := .fz) F sc_is_number rfl rfl rfl (fun _ z => by cases z) fun cd A outer s H E hgd hr =>
    have hu := hr.units
    (s_one (s_ret (e_and (e_isi B.isinstance B.int (by decide +kernel) (e_var 0)) (e_and (e_not (e_isi B.isinstance B.bool (by decide +kernel) (e_var 0))) (e_one (e_chain op_le op_le (e_var 1) (e_var 0) (e_var 2)))))))
abbrev s_is_entry : Stmt := topS 6
abbrev N_is_entry : List Str := ["thing", "many"]
theorem sc_is_entry : FnScope N_is_entry ["thing", "many"] (defScope s_is_entry) := ⟨rfl, rfl, rfl, by decide +kernel, rfl, by decide +kernel, by decide +kernel⟩
abbrev O_is_entry : List Kd := [.fz, .fz]
def m_is_entry : MS := (mSeq (mIte (mOr (mNot (mTr (m1 (.fz) (mVar 0) (dIs "tuple")))) (mOr (mTr (m2 (.fz) (.fz) (mOp [.fz] (maCons (mVar 0) maNil) dLen) (mC (.int 4)) dNe)) (mNot (mTr (mCall f_is_number [.fz, .fz, .fz] [] (maCons (m2 (.fz) (.fz) (mVar 0) (mC (.int 3)) dIx) (maCons (mC (.int 0)) (maCons (mC (.int 999)) maNil)))))))) (mRet (mC (.bool false))) mSkip)
  (mRet (mAndV (mCall f_is_number [.fz, .fz, .fz] [] (maCons (m2 (.fz) (.fz) (mVar 0) (mC (.int 0)) dIx) (maCons (mC (.int 0)) (maCons (mVar 1) maNil)))) (mAndV (mCall f_is_number [.fz, .fz, .fz] [] (maCons (m2 (.fz) (.fz) (mVar 0) (mC (.int 1)) dIx) (maCons (m2 (.fz) (.fz) (m2 (.fz) (.fz) (mVar 0) (mC (.int 0)) dIx) (mC (.int 1)) dAdd) (maCons (mVar 1) maNil)))) (mCall f_is_number [.fz, .fz, .fz] [] (maCons (m2 (.fz) (.fz) (mVar 0) (mC (.int 2)) dIx) (maCons (mC (.int 0)) (maCons (mVar 1) maNil))))))))
def f_is_entry : En → Option (D × En) := mFun [.fz, .fz] 0 .fz m_is_entry
theorem ok_is_entry {P : Program} {w : World} {K : PySem.W.Frag} {mg : Str → Option Value} {base : Heap} {f : Addr} {fd : FuncData} (F : FunD K "is_entry" "is_entry" (defArgs s_is_entry) (defBody s_is_entry) (defScope s_is_entry) [] [] f fd) (B : Bt mg) (C : Ct mg) (G_is_number : FnX P w K mg base "is_number" 1 ["thing", "least", "most"] (spF K [.fz, .fz, .fz] f_is_number .fz)) :
    FnG P w K mg base CX0 2 f fd ["thing", "many"] (spF K [.fz, .fz] f_is_entry .fz) :=
  fn_data (Oi := [.fz, .fz]) (Ol := []) (r := .fz) F sc_is_entry rfl rfl rfl (fun _ z => by cases z) fun cd A outer s H E hgd hr =>
    have hu := hr.units
    (s_cons (s_if (PW.pt (w_or (t_not (t_val (e_isi B.isinstance B.tuple (by decide +kernel) (e_var 0)))) (w_or (t_cmp (op_neD hu) s_ne (e_len B (a_cons (e_var 0) a_nil)) e_int) (w_or1 (t_not (t_val (e_callX G_is_number hgd hr (a_cons (e_ix (e_var 0) e_int) (a_cons e_int (a_cons e_int a_nil)))))))))) (s_one (s_ret e_bl)) s_nil)
    (s_one (s_ret (e_and (e_callX G_is_number hgd hr (a_cons (e_ix (e_var 0) e_int) (a_cons e_int (a_cons (e_var 1) a_nil)))) (e_and (e_callX G_is_number hgd hr (a_cons (e_ix (e_var 0) e_int) (a_cons (e_op op_add s_add (e_ix (e_var 0) e_int) e_int) (a_cons (e_var 1) a_nil)))) (e_one (e_callX G_is_number hgd hr (a_cons (e_ix (e_var 0) e_int) (a_cons e_int (a_cons (e_var 1) a_nil))))))))))
abbrev s_is_line : Stmt := topS 7
abbrev N_is_line : List Str := ["thing"]
theorem sc_is_line : FnScope N_is_line ["thing"] (defScope s_is_line) := ⟨rfl, rfl, rfl, by decide +kernel, rfl, by decide +kernel, by decide +kernel⟩
abbrev O_is_line : List Kd := [.fz]
def m_is_line : MS := (mSeq (mIte (mOr (mNot (mTr (m1 (.fz) (mVar 0) (dIs "tuple")))) (mTr (m2 (.fz) (.fz) (mOp [.fz] (maCons (mVar 0) maNil) dLen) (mC (.int 2)) dNe))) (mRet (mC (.bool false))) mSkip)
  (mRet (mAndV (mCall f_is_number [.fz, .fz, .fz] [] (maCons (m2 (.fz) (.fz) (mVar 0) (mC (.int 0)) dIx) (maCons (mC (.int 1)) (maCons (mC (.int 9999)) maNil)))) (mCall f_is_number [.fz, .fz, .fz] [] (maCons (m2 (.fz) (.fz) (mVar 0) (mC (.int 1)) dIx) (maCons (mC (.int 0)) (maCons (mC (.int 9999)) maNil)))))))
def f_is_line : En → Option (D × En) := mFun [.fz] 0 .fz m_is_line
theorem ok_is_line {P : Program} {w : World} {K : PySem.W.Frag} {mg : Str → Option Value} {base : Heap} {f : Addr} {fd : FuncData} (F : FunD K "is_line" "is_line" (defArgs s_is_line) (defBody s_is_line) (defScope s_is_line) [] [] f fd) (B : Bt mg) (C : Ct mg) (G_is_number : FnX P w K mg base "is_number" 1 ["thing", "least", "most"] (spF K [.fz, .fz, .fz] f_is_number .fz)) :
    FnG P w K mg base CX0 2 f fd ["thing"] (spF K [.fz] f_is_line .fz) :=
  fn_data (Oi := [.fz]) (Ol := []) (r := .fz) F sc_is_line rfl rfl rfl (fun _ z => by cases z) fun cd A outer s H E hgd hr =>
    have hu := hr.units
    (s_cons (s_if (PW.pt (w_or (t_not (t_val (e_isi B.isinstance B.tuple (by decide +kernel) (e_var 0)))) (w_or1 (t_cmp (op_neD hu) s_ne (e_len B (a_cons (e_var 0) a_nil)) e_int)))) (s_one (s_ret e_bl)) s_nil)
    (s_one (s_ret (e_and (e_callX G_is_number hgd hr (a_cons (e_ix (e_var 0) e_int) (a_cons e_int (a_cons e_int a_nil)))) (e_one (e_callX G_is_number hgd hr (a_cons (e_ix (e_var 0) e_int) (a_cons e_int (a_cons e_int a_nil)))))))))
abbrev s_pack_number : Stmt := topS 11
abbrev N_pack_number : List Str := ["number", "found"]
theorem sc_pack_number : FnScope N_pack_number ["number"] (defScope s_pack_number) := ⟨rfl, rfl, rfl, by decide +kernel, rfl, by decide +kernel, by decide +kernel⟩
abbrev O_pack_number : List Kd := [.fz, .ow]
noncomputable def m_pack_number : MS := (mSeq (mSet 1 (mLst (maCons (m2 (.fz) (.fz) (mVar 0) (mC (.int 64)) dMod) maNil)))
  (mSeq (mWhile (mTr (m2 (.fz) (.fz) (mVar 0) (mC (.int 64)) dGe)) (mSeq (mAug 0 (mC (.int 64)) dDiv)
  (mDrop (mMut 1 "list" (maCons (m2 (.fz) (.fz) (m2 (.fz) (.fz) (mVar 0) (mC (.int 64)) dMod) (mC (.int 64)) dAdd) maNil) dAppend))))
  (mRet (m1 (.br 1) (mBr 1) dRev))))
noncomputable def f_pack_number : En → Option (D × En) := mFun [.fz] 1 .ow m_pack_number
theorem ok_pack_number {P : Program} {w : World} {K : PySem.W.Frag} {mg : Str → Option Value} {base : Heap} {f : Addr} {fd : FuncData} (F : FunD K "pack_number" "pack_number" (defArgs s_pack_number) (defBody s_pack_number) (defScope s_pack_number) [] [] f fd) (B : Bt mg) (C : Ct mg) :
    FnG P w K mg base CX0 1 f fd ["number"] (spF K [.fz] f_pack_number .ow) :=
  fn_data (Oi := [.fz]) (Ol := [.ow]) (r := .ow) F sc_pack_number rfl rfl rfl (fun _ z => by cases z) fun cd A outer s H E hgd hr =>
    have hu := hr.units
    (s_cons (s_setO 1 sc_pack_number.nd (e_lst (a_cons (e_op op_modN s_mod (e_var 0) (e_gint C.PART)) a_nil)))
    (s_cons (s_while PassesOwn.never (t_cmp op_ge s_ge (e_var 0) (e_gint C.PART)) (s_cons (s_aug 0 sc_pack_number.nd iop_fdivS s_divP (e_gint C.PART))
    (s_one (s_expr (e_mut 1 PySem.F.plainAttrs_list PySem.F.slot_list_append PySem.F.type_list_append mt_append ms_append (e_br 1) (a_cons (e_op op_add s_add (e_op op_modN s_mod (e_var 0) (e_gint C.PART)) (e_gint C.PART)) a_nil))))))
    (s_one (s_ret (e_rev (e_br 1))))))
abbrev s_pack_all : Stmt := topS 12
abbrev N_pack_all : List Str := ["numbers", "number", "part"]
theorem sc_pack_all : FnScope N_pack_all ["numbers"] (defScope s_pack_all) := ⟨rfl, rfl, rfl, by decide +kernel, rfl, by decide +kernel, by decide +kernel⟩
abbrev O_pack_all : List Kd := [.fz, .fz, .fz]
noncomputable def m_pack_all : MS := (mRet (mLc2 (mItS (mVar 0)) (mgN 1) mYes (mItL (mCall f_pack_number [.fz] [] (maCons (mVar 1) maNil))) (mgN 2) mYes (mVar 2) [1, 2] [2]))
noncomputable def f_pack_all : En → Option (D × En) := mFun [.fz] 2 .ow m_pack_all
theorem ok_pack_all {P : Program} {w : World} {K : PySem.W.Frag} {mg : Str → Option Value} {base : Heap} {f : Addr} {fd : FuncData} (F : FunD K "pack_all" "pack_all" (defArgs s_pack_all) (defBody s_pack_all) (defScope s_pack_all) [] [] f fd) (B : Bt mg) (C : Ct mg) (G_pack_number : FnX P w K mg base "pack_number" 1 ["number"] (spF K [.fz] f_pack_number .ow)) :
    FnG P w K mg base CX0 2 f fd ["numbers"] (spF K [.fz] f_pack_all .ow) :=
  fn_data (Oi := [.fz]) (Ol := [.fz, .fz]) (r := .ow) F sc_pack_all rfl rfl rfl (fun _ z => by cases z) fun cd A outer s H E hgd hr =>
    have hu := hr.units
    (s_one (s_ret (e_lc2 (own := [("number", 1), ("part", 2)]) (L := O_pack_all) (vs1 := [2]) rfl sc_pack_all.nd (i_seq (e_var 0)) (blkOk_by (N := N_pack_all) (sc := defScope s_pack_all) (by decide +kernel)) (fun _ _ _ _ _ => (g_name 1 sc_pack_all.nd)) (fun _ _ _ _ _ => ts_nil) (fun _ _ _ _ _ => (i_ow (e_callX G_pack_number hgd hr (a_cons (e_var 1) a_nil)))) (fun _ _ _ _ _ => (g_name 2 sc_pack_all.nd)) (fun _ _ _ _ _ => ts_nil) (fun _ _ _ _ _ => (e_var 2)))))
abbrev s_unpack_all : Stmt := topS 13
abbrev N_unpack_all : List Str := ["parts", "found", "number", "fresh", "part"]
theorem sc_unpack_all : FnScope N_unpack_all ["parts"] (defScope s_unpack_all) := ⟨rfl, rfl, rfl, by decide +kernel, rfl, by decide +kernel, by decide +kernel⟩
abbrev O_unpack_all : List Kd := [.fz, .ow, .fz, .fz, .fz]
def m_unpack_all : MS := (mSeq (mIte (mNot (mTr (m1 (.fz) (mVar 0) (dIs "list")))) mNever mSkip)
  (mSeq (mSet 1 (mLst maNil))
  (mSeq (mSet 2 (mC (.int 0)))
  (mSeq (mSet 3 (mC (.bool true)))
  (mSeq (mFor (mItS (mVar 0)) (mgN 4) (mSeq (mIte (mOr (mNot (mTr (m1 (.fz) (mVar 4) (dIs "int")))) (mOr (mTr (m1 (.fz) (mVar 4) (dIs "bool"))) (mOr (mNot (mTr (mChain (fun i j => decide (i ≤ j)) (fun i j => decide (i < j)) (mC (.int 0)) (mVar 4) (m2 (.fz) (.fz) (mC (.int 2)) (mC (.int 64)) dMul)))) (mAnd (mTr (mVar 3)) (mTr (m2 (.fz) (.fz) (mVar 4) (mC (.int 64)) dEq)))))) mNever mSkip)
  (mSeq (mSet 2 (m2 (.fz) (.fz) (m2 (.fz) (.fz) (mVar 2) (mC (.int 64)) dMul) (m2 (.fz) (.fz) (mVar 4) (mC (.int 64)) dMod) dAdd))
  (mSeq (mSet 3 (m2 (.fz) (.fz) (mVar 4) (mC (.int 64)) dLt))
  (mIte (mTr (mVar 3)) (mSeq (mDrop (mMut 1 "list" (maCons (mVar 2) maNil) dAppend))
  (mSet 2 (mC (.int 0)))) mSkip)))))
  (mSeq (mIte (mNot (mTr (mVar 3))) mNever mSkip)
  (mRet (mMv 1))))))))
def f_unpack_all : En → Option (D × En) := mFun [.fz] 4 .ow m_unpack_all
theorem ok_unpack_all {P : Program} {w : World} {K : PySem.W.Frag} {mg : Str → Option Value} {base : Heap} {f : Addr} {fd : FuncData} (F : FunD K "unpack_all" "unpack_all" (defArgs s_unpack_all) (defBody s_unpack_all) (defScope s_unpack_all) [] [] f fd) (B : Bt mg) (C : Ct mg) :
    FnG P w K mg base CX0 1 f fd ["parts"] (spF K [.fz] f_unpack_all .ow) :=
  fn_data (Oi := [.fz]) (Ol := [.ow, .fz, .fz, .fz]) (r := .ow) F sc_unpack_all rfl rfl rfl (fun _ z => by cases z) fun cd A outer s H E hgd hr =>
    have hu := hr.units
    (s_cons (s_if (t_not (t_val (e_isi B.isinstance B.list (by decide +kernel) (e_var 0)))) (s_one s_never) s_nil)
    (s_cons (s_setO 1 sc_unpack_all.nd (e_lst a_nil))
    (s_cons (s_setF 2 sc_unpack_all.nd e_int)
    (s_cons (s_setF 3 sc_unpack_all.nd e_bl)
    (s_cons (s_for (L := O_unpack_all) PassesOwn.never rfl (i_seq (e_var 0)) (g_name 4 sc_unpack_all.nd) (s_cons (s_if (PW.pt (w_or (t_not (t_val (e_isi B.isinstance B.int (by decide +kernel) (e_var 4)))) (w_or (t_val (e_isi B.isinstance B.bool (by decide +kernel) (e_var 4))) (w_or (t_not (t_chain op_le op_lt e_int (e_var 4) (e_op op_mulW s_mul e_int (e_gint C.PART)))) (w_or1 (PW.pt (w_and (t_val (e_var 3)) (w_and1 (t_cmp (op_eqD hu) s_eq (e_var 4) (e_gint C.PART)))))))))) (s_one s_never) s_nil)
    (s_cons (s_setF 2 sc_unpack_all.nd (e_op op_add s_add (e_op op_mulW s_mul (e_var 2) (e_gint C.PART)) (e_op op_modN s_mod (e_var 4) (e_gint C.PART))))
    (s_cons (s_setF 3 sc_unpack_all.nd (e_cmp op_lt s_lt (e_var 4) (e_gint C.PART)))
    (s_one (s_if (t_val (e_var 3)) (s_cons (s_expr (e_mut 1 PySem.F.plainAttrs_list PySem.F.slot_list_append PySem.F.type_list_append mt_append ms_append (e_br 1) (a_cons (e_var 2) a_nil)))
    (s_one (s_setF 2 sc_unpack_all.nd e_int))) s_nil))))))
    (s_cons (s_if (t_not (t_val (e_var 3))) (s_one s_never) s_nil)
    (s_one (s_ret (e_mv 1)))))))))
abbrev s_look_table : Stmt := topS 14
abbrev N_look_table : List Str := ["table", "one", "other"]
theorem sc_look_table : FnScope N_look_table ["table"] (defScope s_look_table) := ⟨rfl, rfl, rfl, by decide +kernel, rfl, by decide +kernel, by decide +kernel⟩
abbrev O_look_table : List Kd := [.fz, .fz, .fz]
def m_look_table : MS := (mSeq (mIte (mOr (mNot (mTr (m1 (.fz) (mVar 0) (dIs "tuple")))) (mNot (mTr (mOp [.ow] (maCons (mLc (mItS (mVar 0)) (mgN 1) mYes (mCall f_is_entry [.fz, .fz] [] (maCons (mVar 1) (maCons (mC (.int 9999)) maNil))) [1]) maNil) dAll)))) mNever mSkip)
  (mIte (mNot (mTr (mOp [.ow] (maCons (mLc (mIt2 [.fz, .fz] (maCons (mVar 0) (maCons (mSl (.fz) (mVar 0) (mPt (mC (.int 1))) mNo dSlT) maNil)) dZip2) (mgT 2 (mgCons (mgN 1) (mgCons (mgN 2) mgNil))) mYes (m2 (.fz) (.fz) (m2 (.fz) (.fz) (mVar 1) (mC (.int 1)) dIx) (m2 (.fz) (.fz) (mVar 2) (mC (.int 0)) dIx) dLe) [1, 2]) maNil) dAll))) mNever mSkip))
def f_look_table : En → Option (D × En) := mFun [.fz] 2 .fz m_look_table
theorem ok_look_table {P : Program} {w : World} {K : PySem.W.Frag} {mg : Str → Option Value} {base : Heap} {f : Addr} {fd : FuncData} (F : FunD K "look_table" "look_table" (defArgs s_look_table) (defBody s_look_table) (defScope s_look_table) [] [] f fd) (B : Bt mg) (C : Ct mg) (G_is_entry : FnX P w K mg base "is_entry" 2 ["thing", "many"] (spF K [.fz, .fz] f_is_entry .fz)) :
    FnG P w K mg base CX0 3 f fd ["table"] (spF K [.fz] f_look_table .fz) :=
  fn_data (Oi := [.fz]) (Ol := [.fz, .fz]) (r := .fz) F sc_look_table rfl rfl rfl (fun _ z => by cases z) fun cd A outer s H E hgd hr =>
    have hu := hr.units
    (s_cons (s_if (PW.pt (w_or (t_not (t_val (e_isi B.isinstance B.tuple (by decide +kernel) (e_var 0)))) (w_or1 (t_not (t_val (e_all B rfl (a_cons (e_lc (own := [("one", 1)]) (L := O_look_table) rfl sc_look_table.nd (i_seq (e_var 0)) (blkOk_by (N := N_look_table) (sc := defScope s_look_table) (by decide +kernel)) (fun _ _ _ _ _ => (g_name 1 sc_look_table.nd)) (fun _ _ _ _ _ => ts_nil) (fun _ _ _ _ _ => (e_callX G_is_entry hgd hr (a_cons (e_var 1) (a_cons (e_gint C.GREAT_PLACE) a_nil))))) a_nil))))))) (s_one s_never) s_nil)
    (s_one (s_if (t_not (t_val (e_all B rfl (a_cons (e_lc (own := [("one", 1), ("other", 2)]) (L := O_look_table) rfl sc_look_table.nd (i_zip2 B.zip (a_cons (e_var 0) (a_cons (e_sl sl_tupA sl_t (e_var 0) (o_pt e_int) o_no) a_nil))) (blkOk_by (N := N_look_table) (sc := defScope s_look_table) (by decide +kernel)) (fun _ _ _ _ _ => (g_tup rfl (gs_cons (g_name 1 sc_look_table.nd) (gs_cons (g_name 2 sc_look_table.nd) gs_nil)))) (fun _ _ _ _ _ => ts_nil) (fun _ _ _ _ _ => (e_cmp op_le s_le (e_ix (e_var 1) e_int) (e_ix (e_var 2) e_int)))) a_nil)))) (s_one s_never) s_nil)))
abbrev s_pack_table : Stmt := topS 15
abbrev N_pack_table : List Str := ["table", "begin", "end", "goal", "depth", "number"]
theorem sc_pack_table : FnScope N_pack_table ["table"] (defScope s_pack_table) := ⟨rfl, rfl, rfl, by decide +kernel, rfl, by decide +kernel, by decide +kernel⟩
abbrev O_pack_table : List Kd := [.fz, .fz, .fz, .fz, .fz, .fz]
noncomputable def m_pack_table : MS := (mSeq (mDrop (mCall f_look_table [.fz] [] (maCons (mVar 0) maNil)))
  (mRet (mCall f_pack_all [.fz] [] (maCons (mLc2 (mItS (mVar 0)) (mgT 4 (mgCons (mgN 1) (mgCons (mgN 2) (mgCons (mgN 3) (mgCons (mgN 4) mgNil))))) mYes (mItS (mTup (maCons (mVar 1) (maCons (m2 (.fz) (.fz) (mVar 2) (mVar 1) dSub) (maCons (mVar 3) (maCons (mVar 4) maNil)))))) (mgN 5) mYes (mVar 5) [1, 2, 3, 4, 5] [5]) maNil))))
noncomputable def f_pack_table : En → Option (D × En) := mFun [.fz] 5 .ow m_pack_table
theorem ok_pack_table {P : Program} {w : World} {K : PySem.W.Frag} {mg : Str → Option Value} {base : Heap} {f : Addr} {fd : FuncData} (F : FunD K "pack_table" "pack_table" (defArgs s_pack_table) (defBody s_pack_table) (defScope s_pack_table) [] [] f fd) (B : Bt mg) (C : Ct mg) (G_look_table : FnX P w K mg base "look_table" 3 ["table"] (spF K [.fz] f_look_table .fz)) (G_pack_all : FnX P w K mg base "pack_all" 2 ["numbers"] (spF K [.fz] f_pack_all .ow)) :
    FnG P w K mg base CX0 4 f fd ["table"] (spF K [.fz] f_pack_table .ow) :=
  fn_data (Oi := [.fz]) (Ol := [.fz, .fz, .fz, .fz, .fz]) (r := .ow) F sc_pack_table rfl rfl rfl (fun _ z => by cases z) fun cd A outer s H E hgd hr =>
    have hu := hr.units
    (s_cons (s_expr (e_callX G_look_table hgd hr (a_cons (e_var 0) a_nil)))
    (s_one (s_ret (e_callX G_pack_all hgd hr (a_cons (e_frz (e_lc2 (own := [("begin", 1), ("end", 2), ("goal", 3), ("depth", 4), ("number", 5)]) (L := O_pack_table) (vs1 := [5]) rfl sc_pack_table.nd (i_seq (e_var 0)) (blkOk_by (N := N_pack_table) (sc := defScope s_pack_table) (by decide +kernel)) (fun _ _ _ _ _ => (g_tup rfl (gs_cons (g_name 1 sc_pack_table.nd) (gs_cons (g_name 2 sc_pack_table.nd) (gs_cons (g_name 3 sc_pack_table.nd) (gs_cons (g_name 4 sc_pack_table.nd) gs_nil)))))) (fun _ _ _ _ _ => ts_nil) (fun _ _ _ _ _ => (i_seq (e_tup (a_cons (e_var 1) (a_cons (e_op op_sub s_sub (e_var 2) (e_var 1)) (a_cons (e_var 3) (a_cons (e_var 4) a_nil))))))) (fun _ _ _ _ _ => (g_name 5 sc_pack_table.nd)) (fun _ _ _ _ _ => ts_nil) (fun _ _ _ _ _ => (e_var 5)))) a_nil)))))
abbrev s_unpack_table : Stmt := topS 16
abbrev N_unpack_table : List Str := ["parts", "numbers", "found", "at", "begin", "long", "goal", "depth"]
theorem sc_unpack_table : FnScope N_unpack_table ["parts"] (defScope s_unpack_table) := ⟨rfl, rfl, rfl, by decide +kernel, rfl, by decide +kernel, by decide +kernel⟩
abbrev O_unpack_table : List Kd := [.fz, .fz, .ow, .fz, .fz, .fz, .fz, .fz]
def m_unpack_table : MS := (mSeq (mSet 1 (mCall f_unpack_all [.fz] [] (maCons (mVar 0) maNil)))
  (mSeq (mIte (mTr (m2 (.fz) (.fz) (m2 (.fz) (.fz) (mOp [.fz] (maCons (mVar 1) maNil) dLen) (mC (.int 4)) dMod) (mC (.int 0)) dNe)) mNever mSkip)
  (mSeq (mSet 2 (mLst maNil))
  (mSeq (mFor (mRng3 (maCons (mC (.int 0)) (maCons (mOp [.fz] (maCons (mVar 1) maNil) dLen) (maCons (mC (.int 4)) maNil)))) (mgN 3) (mSeq (mAsg (mgL 4 (mgCons (mgN 4) (mgCons (mgN 5) (mgCons (mgN 6) (mgCons (mgN 7) mgNil))))) (mSl (.fz) (mVar 1) (mPt (mVar 3)) (mPt (m2 (.fz) (.fz) (mVar 3) (mC (.int 4)) dAdd)) dSlL))
  (mDrop (mMut 2 "list" (maCons (mTup (maCons (mVar 4) (maCons (m2 (.fz) (.fz) (mVar 4) (mVar 5) dAdd) (maCons (mVar 6) (maCons (mVar 7) maNil))))) maNil) dAppend))))
  (mSeq (mDrop (mCall f_look_table [.fz] [] (maCons (mOp [.br 2] (maCons (mBr 2) maNil) dTuple) maNil)))
  (mRet (mOp [.br 2] (maCons (mBr 2) maNil) dTuple)))))))
def f_unpack_table : En → Option (D × En) := mFun [.fz] 7 .fz m_unpack_table
theorem ok_unpack_table {P : Program} {w : World} {K : PySem.W.Frag} {mg : Str → Option Value} {base : Heap} {f : Addr} {fd : FuncData} (F : FunD K "unpack_table" "unpack_table" (defArgs s_unpack_table) (defBody s_unpack_table) (defScope s_unpack_table) [] [] f fd) (B : Bt mg) (C : Ct mg) (G_look_table : FnX P w K mg base "look_table" 3 ["table"] (spF K [.fz] f_look_table .fz)) (G_unpack_all : FnX P w K mg base "unpack_all" 1 ["parts"] (spF K [.fz] f_unpack_all .ow)) :
    FnG P w K mg base CX0 4 f fd ["parts"] (spF K [.fz] f_unpack_table .fz) :=
  fn_data (Oi := [.fz]) (Ol := [.fz, .ow, .fz, .fz, .fz, .fz, .fz]) (r := .fz) F sc_unpack_table rfl rfl rfl (fun _ z => by cases z) fun cd A outer s H E hgd hr =>
    have hu := hr.units
    (s_cons (s_setF 1 sc_unpack_table.nd (e_frz (e_callX G_unpack_all hgd hr (a_cons (e_var 0) a_nil))))
    (s_cons (s_if (t_cmp (op_neD hu) s_ne (e_op op_modN s_mod (e_len B (a_cons (e_var 1) a_nil)) e_int) e_int) (s_one s_never) s_nil)
    (s_cons (s_setO 2 sc_unpack_table.nd (e_lst a_nil))
    (s_cons (s_for (L := O_unpack_table) PassesOwn.never rfl (i_rng3 B.range (a_cons e_int (a_cons (e_len B (a_cons (e_var 1) a_nil)) (a_cons e_int a_nil)))) (g_name 3 sc_unpack_table.nd) (s_cons (s_asg (e_frz (e_sl sl_list sl_l (e_var 1) (o_pt (e_var 3)) (o_pt (e_op op_add s_add (e_var 3) e_int)))) (g_unl rfl (gs_cons (g_name 4 sc_unpack_table.nd) (gs_cons (g_name 5 sc_unpack_table.nd) (gs_cons (g_name 6 sc_unpack_table.nd) (gs_cons (g_name 7 sc_unpack_table.nd) gs_nil))))))
    (s_one (s_expr (e_mut 2 PySem.F.plainAttrs_list PySem.F.slot_list_append PySem.F.type_list_append mt_append ms_append (e_br 2) (a_cons (e_tup (a_cons (e_var 4) (a_cons (e_op op_add s_add (e_var 4) (e_var 5)) (a_cons (e_var 6) (a_cons (e_var 7) a_nil))))) a_nil))))))
    (s_cons (s_expr (e_callX G_look_table hgd hr (a_cons (e_tuple B (a_cons (e_br 2) a_nil)) a_nil)))
    (s_one (s_ret (e_tuple B (a_cons (e_br 2) a_nil)))))))))
abbrev s_folded_sign : Stmt := topS 17
abbrev N_folded_sign : List Str := ["number"]
theorem sc_folded_sign : FnScope N_folded_sign ["number"] (defScope s_folded_sign) := ⟨rfl, rfl, rfl, by decide +kernel, rfl, by decide +kernel, by decide +kernel⟩
abbrev O_folded_sign : List Kd := [.fz]
def m_folded_sign : MS := (mRet (mIf (mTr (m2 (.fz) (.fz) (mVar 0) (mC (.int 0)) dGe)) (m2 (.fz) (.fz) (mC (.int 2)) (mVar 0) dMul) (m2 (.fz) (.fz) (m2 (.fz) (.fz) (m1 (.fz) (mC (.int 2)) dNeg) (mVar 0) dMul) (mC (.int 1)) dSub)))
def f_folded_sign : En → Option (D × En) := mFun [.fz] 0 .fz m_folded_sign
theorem ok_folded_sign {P : Program} {w : World} {K : PySem.W.Frag} {mg : Str → Option Value} {base : Heap} {f : Addr} {fd : FuncData} (F : FunD K "folded_sign" "folded_sign" (defArgs s_folded_sign) (defBody s_folded_sign) (defScope s_folded_sign) [] [] f fd) (B : Bt mg) (C : Ct mg) :
    FnG P w K mg base CX0 1 f fd ["number"] (spF K [.fz] f_folded_sign .fz) :=
  fn_data (Oi := [.fz]) (Ol := []) (r := .fz) F sc_folded_sign rfl rfl rfl (fun _ z => by cases z) fun cd A outer s H E hgd hr =>
    have hu := hr.units
    (s_one (s_ret (e_if (t_cmp op_ge s_ge (e_var 0) e_int) (e_op op_mulW s_mul e_int (e_var 0)) (e_op op_sub s_sub (e_op op_mulW s_mul (e_un un_neg s_neg e_int) (e_var 0)) e_int))))
abbrev s_unfolded_sign : Stmt := topS 18
abbrev N_unfolded_sign : List Str := ["number"]
theorem sc_unfolded_sign : FnScope N_unfolded_sign ["number"] (defScope s_unfolded_sign) := ⟨rfl, rfl, rfl, by decide +kernel, rfl, by decide +kernel, by decide +kernel⟩
abbrev O_unfolded_sign : List Kd := [.fz]
def m_unfolded_sign : MS := (mRet (mIf (mTr (m2 (.fz) (.fz) (m2 (.fz) (.fz) (mVar 0) (mC (.int 2)) dMod) (mC (.int 0)) dEq)) (m2 (.fz) (.fz) (mVar 0) (mC (.int 2)) dDiv) (m2 (.fz) (.fz) (m1 (.fz) (m2 (.fz) (.fz) (mVar 0) (mC (.int 1)) dAdd) dNeg) (mC (.int 2)) dDiv)))
def f_unfolded_sign : En → Option (D × En) := mFun [.fz] 0 .fz m_unfolded_sign
theorem ok_unfolded_sign {P : Program} {w : World} {K : PySem.W.Frag} {mg : Str → Option Value} {base : Heap} {f : Addr} {fd : FuncData} (F : FunD K "unfolded_sign" "unfolded_sign" (defArgs s_unfolded_sign) (defBody s_unfolded_sign) (defScope s_unfolded_sign) [] [] f fd) (B : Bt mg) (C : Ct mg) :
    FnG P w K mg base CX0 1 f fd ["number"] (spF K [.fz] f_unfolded_sign .fz) :=
  fn_data (Oi := [.fz]) (Ol := []) (r := .fz) F sc_unfolded_sign rfl rfl rfl (fun _ z => by cases z) fun cd A outer s H E hgd hr =>
    have hu := hr.units
    (s_one (s_ret (e_if (t_cmp (op_eqD hu) s_eq (e_op op_modN s_mod (e_var 0) e_int) e_int) (e_op op_fdivN s_div (e_var 0) e_int) (e_op op_fdivN s_div (e_un un_neg s_neg (e_op op_add s_add (e_var 0) e_int)) e_int))))
abbrev s_look_lines : Stmt := topS 19
abbrev N_look_lines : List Str := ["lines", "one"]
theorem sc_look_lines : FnScope N_look_lines ["lines"] (defScope s_look_lines) := ⟨rfl, rfl, rfl, by decide +kernel, rfl, by decide +kernel, by decide +kernel⟩
abbrev O_look_lines : List Kd := [.fz, .fz]
def m_look_lines : MS := (mIte (mOr (mNot (mTr (m1 (.fz) (mVar 0) (dIs "tuple")))) (mNot (mTr (mOp [.ow] (maCons (mLc (mItS (mVar 0)) (mgN 1) mYes (mCall f_is_line [.fz] [] (maCons (mVar 1) maNil)) [1]) maNil) dAll)))) mNever mSkip)
def f_look_lines : En → Option (D × En) := mFun [.fz] 1 .fz m_look_lines
theorem ok_look_lines {P : Program} {w : World} {K : PySem.W.Frag} {mg : Str → Option Value} {base : Heap} {f : Addr} {fd : FuncData} (F : FunD K "look_lines" "look_lines" (defArgs s_look_lines) (defBody s_look_lines) (defScope s_look_lines) [] [] f fd) (B : Bt mg) (C : Ct mg) (G_is_line : FnX P w K mg base "is_line" 2 ["thing"] (spF K [.fz] f_is_line .fz)) :
    FnG P w K mg base CX0 3 f fd ["lines"] (spF K [.fz] f_look_lines .fz) :=
  fn_data (Oi := [.fz]) (Ol := [.fz]) (r := .fz) F sc_look_lines rfl rfl rfl (fun _ z => by cases z) fun cd A outer s H E hgd hr =>
    have hu := hr.units
    (s_one (s_if (PW.pt (w_or (t_not (t_val (e_isi B.isinstance B.tuple (by decide +kernel) (e_var 0)))) (w_or1 (t_not (t_val (e_all B rfl (a_cons (e_lc (own := [("one", 1)]) (L := O_look_lines) rfl sc_look_lines.nd (i_seq (e_var 0)) (blkOk_by (N := N_look_lines) (sc := defScope s_look_lines) (by decide +kernel)) (fun _ _ _ _ _ => (g_name 1 sc_look_lines.nd)) (fun _ _ _ _ _ => ts_nil) (fun _ _ _ _ _ => (e_callX G_is_line hgd hr (a_cons (e_var 1) a_nil)))) a_nil))))))) (s_one s_never) s_nil))
abbrev s_pack_lines : Stmt := topS 20
abbrev N_pack_lines : List Str := ["lines", "ahead", "many", "line", "last", "part"]
theorem sc_pack_lines : FnScope N_pack_lines ["lines"] (defScope s_pack_lines) := ⟨rfl, rfl, rfl, by decide +kernel, rfl, by decide +kernel, by decide +kernel⟩
abbrev O_pack_lines : List Kd := [.fz, .fz, .fz, .fz, .fz, .fz]
noncomputable def m_pack_lines : MS := (mSeq (mDrop (mCall f_look_lines [.fz] [] (maCons (mVar 0) maNil)))
  (mSeq (mSet 1 (m2 (.ow) (.ow) (mLst (maCons (mC (.int 0)) maNil)) (mLc (mItS (mVar 0)) (mgT 2 (mgCons (mgN 2) (mgCons (mgN 3) mgNil))) mYes (mVar 3) [2, 3]) dCat))
  (mRet (mCall f_pack_all [.fz] [] (maCons (mLc2 (mIt2 [.fz, .fz] (maCons (mVar 0) (maCons (mVar 1) maNil)) dZip2) (mgT 2 (mgCons (mgT 2 (mgCons (mgN 2) (mgCons (mgN 3) mgNil))) (mgCons (mgN 4) mgNil))) mYes (mItS (mTup (maCons (mVar 2) (maCons (mCall f_folded_sign [.fz] [] (maCons (m2 (.fz) (.fz) (mVar 3) (mVar 4) dSub) maNil)) maNil)))) (mgN 5) mYes (mVar 5) [2, 3, 4, 5] [5]) maNil)))))
noncomputable def f_pack_lines : En → Option (D × En) := mFun [.fz] 5 .ow m_pack_lines
theorem ok_pack_lines {P : Program} {w : World} {K : PySem.W.Frag} {mg : Str → Option Value} {base : Heap} {f : Addr} {fd : FuncData} (F : FunD K "pack_lines" "pack_lines" (defArgs s_pack_lines) (defBody s_pack_lines) (defScope s_pack_lines) [] [] f fd) (B : Bt mg) (C : Ct mg) (G_folded_sign : FnX P w K mg base "folded_sign" 1 ["number"] (spF K [.fz] f_folded_sign .fz)) (G_look_lines : FnX P w K mg base "look_lines" 3 ["lines"] (spF K [.fz] f_look_lines .fz)) (G_pack_all : FnX P w K mg base "pack_all" 2 ["numbers"] (spF K [.fz] f_pack_all .ow)) :
    FnG P w K mg base CX0 4 f fd ["lines"] (spF K [.fz] f_pack_lines .ow) :=
  fn_data (Oi := [.fz]) (Ol := [.fz, .fz, .fz, .fz, .fz]) (r := .ow) F sc_pack_lines rfl rfl rfl (fun _ z => by cases z) fun cd A outer s H E hgd hr =>
    have hu := hr.units
    (s_cons (s_expr (e_callX G_look_lines hgd hr (a_cons (e_var 0) a_nil)))
    (s_cons (s_setF 1 sc_pack_lines.nd (e_frz (e_op op_catS s_cat (e_lst (a_cons e_int a_nil)) (e_lc (own := [("many", 2), ("line", 3)]) (L := O_pack_lines) rfl sc_pack_lines.nd (i_seq (e_var 0)) (blkOk_by (N := N_pack_lines) (sc := defScope s_pack_lines) (by decide +kernel)) (fun _ _ _ _ _ => (g_tup rfl (gs_cons (g_name 2 sc_pack_lines.nd) (gs_cons (g_name 3 sc_pack_lines.nd) gs_nil)))) (fun _ _ _ _ _ => ts_nil) (fun _ _ _ _ _ => (e_var 3))))))
    (s_one (s_ret (e_callX G_pack_all hgd hr (a_cons (e_frz (e_lc2 (own := [("many", 2), ("line", 3), ("last", 4), ("part", 5)]) (L := O_pack_lines) (vs1 := [5]) rfl sc_pack_lines.nd (i_zip2 B.zip (a_cons (e_var 0) (a_cons (e_var 1) a_nil))) (blkOk_by (N := N_pack_lines) (sc := defScope s_pack_lines) (by decide +kernel)) (fun _ _ _ _ _ => (g_tup rfl (gs_cons (g_tup rfl (gs_cons (g_name 2 sc_pack_lines.nd) (gs_cons (g_name 3 sc_pack_lines.nd) gs_nil))) (gs_cons (g_name 4 sc_pack_lines.nd) gs_nil)))) (fun _ _ _ _ _ => ts_nil) (fun _ _ _ _ _ => (i_seq (e_tup (a_cons (e_var 2) (a_cons (e_callX G_folded_sign hgd hr (a_cons (e_op op_sub s_sub (e_var 3) (e_var 4)) a_nil)) a_nil))))) (fun _ _ _ _ _ => (g_name 5 sc_pack_lines.nd)) (fun _ _ _ _ _ => ts_nil) (fun _ _ _ _ _ => (e_var 5)))) a_nil))))))
abbrev s_unpack_lines : Stmt := topS 21
abbrev N_unpack_lines : List Str := ["parts", "numbers", "found", "line", "at"]
theorem sc_unpack_lines : FnScope N_unpack_lines ["parts"] (defScope s_unpack_lines) := ⟨rfl, rfl, rfl, by decide +kernel, rfl, by decide +kernel, by decide +kernel⟩
abbrev O_unpack_lines : List Kd := [.fz, .fz, .ow, .fz, .fz]
def m_unpack_lines : MS := (mSeq (mSet 1 (mCall f_unpack_all [.fz] [] (maCons (mVar 0) maNil)))
  (mSeq (mIte (mTr (m2 (.fz) (.fz) (m2 (.fz) (.fz) (mOp [.fz] (maCons (mVar 1) maNil) dLen) (mC (.int 2)) dMod) (mC (.int 0)) dNe)) mNever mSkip)
  (mSeq (mSet 2 (mLst maNil))
  (mSeq (mSet 3 (mC (.int 0)))
  (mSeq (mFor (mRng3 (maCons (mC (.int 0)) (maCons (mOp [.fz] (maCons (mVar 1) maNil) dLen) (maCons (mC (.int 2)) maNil)))) (mgN 4) (mSeq (mAug 3 (mCall f_unfolded_sign [.fz] [] (maCons (m2 (.fz) (.fz) (mVar 1) (m2 (.fz) (.fz) (mVar 4) (mC (.int 1)) dAdd) dIx) maNil)) dAdd)
  (mDrop (mMut 2 "list" (maCons (mTup (maCons (m2 (.fz) (.fz) (mVar 1) (mVar 4) dIx) (maCons (mVar 3) maNil))) maNil) dAppend))))
  (mSeq (mDrop (mCall f_look_lines [.fz] [] (maCons (mOp [.br 2] (maCons (mBr 2) maNil) dTuple) maNil)))
  (mRet (mOp [.br 2] (maCons (mBr 2) maNil) dTuple))))))))
def f_unpack_lines : En → Option (D × En) := mFun [.fz] 4 .fz m_unpack_lines
theorem ok_unpack_lines {P : Program} {w : World} {K : PySem.W.Frag} {mg : Str → Option Value} {base : Heap} {f : Addr} {fd : FuncData} (F : FunD K "unpack_lines" "unpack_lines" (defArgs s_unpack_lines) (defBody s_unpack_lines) (defScope s_unpack_lines) [] [] f fd) (B : Bt mg) (C : Ct mg) (G_look_lines : FnX P w K mg base "look_lines" 3 ["lines"] (spF K [.fz] f_look_lines .fz)) (G_unfolded_sign : FnX P w K mg base "unfolded_sign" 1 ["number"] (spF K [.fz] f_unfolded_sign .fz)) (G_unpack_all : FnX P w K mg base "unpack_all" 1 ["parts"] (spF K [.fz] f_unpack_all .ow)) :
    FnG P w K mg base CX0 4 f fd ["parts"] (spF K [.fz] f_unpack_lines .fz) :=
  fn_data (Oi := [.fz]) (Ol := [.fz, .ow, .fz, .fz]) (r := .fz) F sc_unpack_lines rfl rfl rfl (fun _ z => by cases z) fun cd A outer s H E hgd hr =>
    have hu := hr.units
    (s_cons (s_setF 1 sc_unpack_lines.nd (e_frz (e_callX G_unpack_all hgd hr (a_cons (e_var 0) a_nil))))
    (s_cons (s_if (t_cmp (op_neD hu) s_ne (e_op op_modN s_mod (e_len B (a_cons (e_var 1) a_nil)) e_int) e_int) (s_one s_never) s_nil)
    (s_cons (s_setO 2 sc_unpack_lines.nd (e_lst a_nil))
    (s_cons (s_setF 3 sc_unpack_lines.nd e_int)
    (s_cons (s_for (L := O_unpack_lines) PassesOwn.never rfl (i_rng3 B.range (a_cons e_int (a_cons (e_len B (a_cons (e_var 1) a_nil)) (a_cons e_int a_nil)))) (g_name 4 sc_unpack_lines.nd) (s_cons (s_aug 3 sc_unpack_lines.nd iop_add s_add (e_callX G_unfolded_sign hgd hr (a_cons (e_ix (e_var 1) (e_op op_add s_add (e_var 4) e_int)) a_nil)))
    (s_one (s_expr (e_mut 2 PySem.F.plainAttrs_list PySem.F.slot_list_append PySem.F.type_list_append mt_append ms_append (e_br 2) (a_cons (e_tup (a_cons (e_ix (e_var 1) (e_var 4)) (a_cons (e_var 3) a_nil))) a_nil))))))
    (s_cons (s_expr (e_callX G_look_lines hgd hr (a_cons (e_tuple B (a_cons (e_br 2) a_nil)) a_nil)))
    (s_one (s_ret (e_tuple B (a_cons (e_br 2) a_nil))))))))))
abbrev s__law_town : Stmt := topS 23
abbrev N__law_town : List Str := ["_law_script"]
theorem sc__law_town : FnScope N__law_town ["_law_script"] (defScope s__law_town) := ⟨rfl, rfl, rfl, by decide +kernel, rfl, by decide +kernel, by decide +kernel⟩
abbrev O__law_town : List Kd := [.fz]
def m__law_town : MS := (mRet (m2 (.ow) (.ow) (mLst (maCons (mC (.int 0)) maNil)) (mOp [.fz] (maCons (mVar 0) maNil) dList) dCat))
def f__law_town : En → Option (D × En) := mFun [.fz] 0 .ow m__law_town
theorem ok__law_town {P : Program} {w : World} {K : PySem.W.Frag} {mg : Str → Option Value} {base : Heap} {f : Addr} {fd : FuncData} (F : FunD K "_law_town" "_law_town" (defArgs s__law_town) (defBody s__law_town) (defScope s__law_town) [] [] f fd) (B : Bt mg) (C : Ct mg) :
    FnG P w K mg base CX0 1 f fd ["_law_script"] (spF K [.fz] f__law_town .ow) :=
  fn_data (Oi := [.fz]) (Ol := []) (r := .ow) F sc__law_town rfl rfl rfl (fun _ z => by cases z) fun cd A outer s H E hgd hr =>
    have hu := hr.units
    (s_one (s_ret (e_op op_catS s_cat (e_lst (a_cons e_int a_nil)) (e_list B (a_cons (e_var 0) a_nil)))))
abbrev s__law_draw : Stmt := topS 24
abbrev N__law_draw : List Str := ["_law_script", "_law_town_here", "_law_many", "_law_at", "_law_left", "_law_number"]
theorem sc__law_draw : FnScope N__law_draw ["_law_script", "_law_town_here", "_law_many"] (defScope s__law_draw) := ⟨rfl, rfl, rfl, by decide +kernel, rfl, by decide +kernel, by decide +kernel⟩
abbrev O__law_draw : List Kd := [.fz, .io, .fz, .fz, .fz, .fz]
def m__law_draw : MS := (mSeq (mSetIx 1 (mC (.int 0)) (m2 (.fz) (.fz) (m2 (.br 1) (.fz) (mBr 1) (mC (.int 0)) dIx) (mC (.int 1)) dAdd))
  (mSeq (mIte (mTr (m2 (.fz) (.ow) (mVar 0) (mLst maNil) dEq)) (mRet (m2 (.fz) (.fz) (m2 (.fz) (.fz) (m2 (.fz) (.fz) (m2 (.fz) (.fz) (m2 (.br 1) (.fz) (mBr 1) (mC (.int 0)) dIx) (m2 (.br 1) (.fz) (mBr 1) (mC (.int 0)) dIx) dMul) (mC (.int 7)) dMul) (mC (.int 3)) dDiv) (mVar 2) dMod)) mSkip)
  (mSeq (mSet 3 (m2 (.fz) (.fz) (m2 (.br 1) (.fz) (mBr 1) (mC (.int 0)) dIx) (mOp [.fz] (maCons (mVar 0) maNil) dLen) dMod))
  (mSeq (mSet 4 (m2 (.br 1) (.fz) (mBr 1) (m2 (.fz) (.fz) (mC (.int 1)) (mVar 3) dAdd) dIx))
  (mSeq (mIte (mAnd (mTr (m2 (.fz) (.fz) (m2 (.fz) (.fz) (mVar 0) (mVar 3) dIx) (m2 (.fz) (.fz) (mC (.int 10)) (mC (.int 18)) dPow) dGe)) (mTr (m2 (.fz) (.fz) (mVar 4) (mC (.int 0)) dGt))) (mSeq (mSetIx 1 (m2 (.fz) (.fz) (mC (.int 1)) (mVar 3) dAdd) (m2 (.fz) (.fz) (mVar 4) (mVar 2) dDiv))
  (mRet (m2 (.fz) (.fz) (mVar 4) (mVar 2) dMod))) mSkip)
  (mSeq (mSet 5 (m2 (.fz) (.fz) (m2 (.fz) (.fz) (m2 (.fz) (.fz) (mVar 0) (mVar 3) dIx) (m2 (.fz) (.fz) (mC (.int 104729)) (m2 (.br 1) (.fz) (mBr 1) (mC (.int 0)) dIx) dMul) dAdd) (mC (.int 4294967291)) dMod))
  (mSeq (mSet 5 (m2 (.fz) (.fz) (m2 (.fz) (.fz) (mVar 5) (mC (.int 5)) dPow) (mC (.int 4294967279)) dMod))
  (mRet (m2 (.fz) (.fz) (m2 (.fz) (.fz) (m2 (.fz) (.fz) (m2 (.fz) (.fz) (m2 (.fz) (.fz) (m2 (.fz) (.fz) (mVar 5) (mC (.int 64)) dDiv) (mC (.int 69621)) dMul) (mVar 5) dAdd) (mC (.int 4294967231)) dMod) (mC (.int 8)) dDiv) (mVar 2) dMod)))))))))
def f__law_draw : En → Option (D × En) := mFun [.fz, .io, .fz] 3 .fz m__law_draw
theorem ok__law_draw {P : Program} {w : World} {K : PySem.W.Frag} {mg : Str → Option Value} {base : Heap} {f : Addr} {fd : FuncData} (F : FunD K "_law_draw" "_law_draw" (defArgs s__law_draw) (defBody s__law_draw) (defScope s__law_draw) [] [] f fd) (B : Bt mg) (C : Ct mg) :
    FnG P w K mg base CX0 1 f fd ["_law_script", "_law_town_here", "_law_many"] (spF K [.fz, .io, .fz] f__law_draw .fz) :=
  fn_data (Oi := [.fz, .io, .fz]) (Ol := [.fz, .fz, .fz]) (r := .fz) F sc__law_draw rfl rfl rfl (fun _ z => by cases z) fun cd A outer s H E hgd hr =>
    have hu := hr.units
    (s_cons (s_setIx 1 rfl (e_br 1) e_int (e_op op_add s_add (e_ix (e_br 1) e_int) e_int))
    (s_cons (s_if (t_cmp (op_eqD hu) s_eq (e_var 0) (e_lst a_nil)) (s_one (s_ret (e_op op_modN s_mod (e_op op_fdivN s_div (e_op op_mulW s_mul (e_op op_mulW s_mul (e_ix (e_br 1) e_int) (e_ix (e_br 1) e_int)) e_int) e_int) (e_var 2)))) s_nil)
    (s_cons (s_setF 3 sc__law_draw.nd (e_op op_modN s_mod (e_ix (e_br 1) e_int) (e_len B (a_cons (e_var 0) a_nil))))
    (s_cons (s_setF 4 sc__law_draw.nd (e_ix (e_br 1) (e_op op_add s_add e_int (e_var 3))))
    (s_cons (s_if (PW.pt (w_and (t_cmp op_ge s_ge (e_ix (e_var 0) (e_var 3)) (e_op op_pow s_pow e_int e_int)) (w_and1 (t_cmp op_gt s_gt (e_var 4) e_int)))) (s_cons (s_setIx 1 rfl (e_br 1) (e_op op_add s_add e_int (e_var 3)) (e_op op_fdivN s_div (e_var 4) (e_var 2)))
    (s_one (s_ret (e_op op_modN s_mod (e_var 4) (e_var 2))))) s_nil)
    (s_cons (s_setF 5 sc__law_draw.nd (e_op op_modN s_mod (e_op op_add s_add (e_ix (e_var 0) (e_var 3)) (e_op op_mulW s_mul e_int (e_ix (e_br 1) e_int))) e_int))
    (s_cons (s_setF 5 sc__law_draw.nd (e_op op_modN s_mod (e_op op_pow s_pow (e_var 5) e_int) e_int))
    (s_one (s_ret (e_op op_modN s_mod (e_op op_fdivN s_div (e_op op_modN s_mod (e_op op_add s_add (e_op op_mulW s_mul (e_op op_fdivN s_div (e_var 5) e_int) e_int) (e_var 5)) e_int) e_int) (e_var 2)))))))))))
abbrev s__law_pick : Stmt := topS 25
abbrev N__law_pick : List Str := ["_law_script", "_law_town_here", "_law_some"]
theorem sc__law_pick : FnScope N__law_pick ["_law_script", "_law_town_here", "_law_some"] (defScope s__law_pick) := ⟨rfl, rfl, rfl, by decide +kernel, rfl, by decide +kernel, by decide +kernel⟩
abbrev O__law_pick : List Kd := [.fz, .io, .fz]
def m__law_pick : MS := (mRet (m2 (.fz) (.fz) (mVar 2) (mCall f__law_draw [.fz, .br 1, .fz] [] (maCons (mVar 0) (maCons (mBr 1) (maCons (mOp [.fz] (maCons (mVar 2) maNil) dLen) maNil)))) dIx))
def f__law_pick : En → Option (D × En) := mFun [.fz, .io, .fz] 0 .fz m__law_pick
theorem ok__law_pick {P : Program} {w : World} {K : PySem.W.Frag} {mg : Str → Option Value} {base : Heap} {f : Addr} {fd : FuncData} (F : FunD K "_law_pick" "_law_pick" (defArgs s__law_pick) (defBody s__law_pick) (defScope s__law_pick) [] [] f fd) (B : Bt mg) (C : Ct mg) (G__law_draw : FnX P w K mg base "_law_draw" 1 ["_law_script", "_law_town_here", "_law_many"] (spF K [.fz, .io, .fz] f__law_draw .fz)) :
    FnG P w K mg base CX0 2 f fd ["_law_script", "_law_town_here", "_law_some"] (spF K [.fz, .io, .fz] f__law_pick .fz) :=
  fn_data (Oi := [.fz, .io, .fz]) (Ol := []) (r := .fz) F sc__law_pick rfl rfl rfl (fun _ z => by cases z) fun cd A outer s H E hgd hr =>
    have hu := hr.units
    (s_one (s_ret (e_ix (e_var 2) (e_callX G__law_draw hgd hr (a_cons (e_var 0) (a_cons (e_br 1) (a_cons (e_len B (a_cons (e_var 2) a_nil)) a_nil)))))))
abbrev s__law_whole : Stmt := topS 26
abbrev N__law_whole : List Str := ["_law_thing"]
theorem sc__law_whole : FnScope N__law_whole ["_law_thing"] (defScope s__law_whole) := ⟨rfl, rfl, rfl, by decide +kernel, rfl, by decide +kernel, by decide +kernel⟩
abbrev O__law_whole : List Kd := [.fz]
def m__law_whole : MS := (mRet (mAndV (m1 (.fz) (mVar 0) (dIs "int")) (mNotV (m1 (.fz) (mVar 0) (dIs "bool")))))
def f__law_whole : En → Option (D × En) := mFun [.fz] 0 .fz m__law_whole
theorem ok__law_whole {P : Program} {w : World} {K : PySem.W.Frag} {mg : Str → Option Value} {base : Heap} {f : Addr} {fd : FuncData} (F : FunD K "_law_whole" "_law_whole" (defArgs s__law_whole) (defBody s__law_whole) (defScope s__law_whole) [] [] f fd) (B : Bt mg) (C : Ct mg) :
    FnG P w K mg base CX0 1 f fd ["_law_thing"] (spF K [.fz] f__law_whole .fz) :=
  fn_data (Oi := [.fz]) (Ol := []) (r := .fz) F sc__law_whole rfl rfl rfl (fun _ z => by cases z) fun cd A outer s H E hgd hr =>
    have hu := hr.units
    (s_one (s_ret (e_and (e_isi B.isinstance B.int (by decide +kernel) (e_var 0)) (e_one (e_not (e_isi B.isinstance B.bool (by decide +kernel) (e_var 0)))))))
abbrev s__law_wholes : Stmt := topS 27
abbrev N__law_wholes : List Str := ["_law_thing", "_law_one"]
theorem sc__law_wholes : FnScope N__law_wholes ["_law_thing"] (defScope s__law_wholes) := ⟨rfl, rfl, rfl, by decide +kernel, rfl, by decide +kernel, by decide +kernel⟩
abbrev O__law_wholes : List Kd := [.fz, .fz]
def m__law_wholes : MS := (mRet (mAndV (m1 (.fz) (mVar 0) (dIs "list")) (m2 (.ow) (.ow) (mLc (mItS (mVar 0)) (mgN 1) (mNot (mTr (mCall f__law_whole [.fz] [] (maCons (mVar 1) maNil)))) (mVar 1) [1]) (mLst maNil) dEq)))
def f__law_wholes : En → Option (D × En) := mFun [.fz] 1 .fz m__law_wholes
theorem ok__law_wholes {P : Program} {w : World} {K : PySem.W.Frag} {mg : Str → Option Value} {base : Heap} {f : Addr} {fd : FuncData} (F : FunD K "_law_wholes" "_law_wholes" (defArgs s__law_wholes) (defBody s__law_wholes) (defScope s__law_wholes) [] [] f fd) (B : Bt mg) (C : Ct mg) (G__law_whole : FnX P w K mg base "_law_whole" 1 ["_law_thing"] (spF K [.fz] f__law_whole .fz)) :
    FnG P w K mg base CX0 2 f fd ["_law_thing"] (spF K [.fz] f__law_wholes .fz) :=
  fn_data (Oi := [.fz]) (Ol := [.fz]) (r := .fz) F sc__law_wholes rfl rfl rfl (fun _ z => by cases z) fun cd A outer s H E hgd hr =>
    have hu := hr.units
    (s_one (s_ret (e_and (e_isi B.isinstance B.list (by decide +kernel) (e_var 0)) (e_one (e_cmp (op_eqD hu) s_eq (e_lc (own := [("_law_one", 1)]) (L := O__law_wholes) rfl sc__law_wholes.nd (i_seq (e_var 0)) (blkOk_by (N := N__law_wholes) (sc := defScope s__law_wholes) (by decide +kernel)) (fun _ _ _ _ _ => (g_name 1 sc__law_wholes.nd)) (fun _ _ _ _ _ => (ts_one (t_not (t_val (e_callX G__law_whole hgd hr (a_cons (e_var 1) a_nil)))))) (fun _ _ _ _ _ => (e_var 1))) (e_lst a_nil))))))
abbrev s__law_parts : Stmt := topS 28
abbrev N__law_parts : List Str := ["_law_number", "_law_found"]
theorem sc__law_parts : FnScope N__law_parts ["_law_number"] (defScope s__law_parts) := ⟨rfl, rfl, rfl, by decide +kernel, rfl, by decide +kernel, by decide +kernel⟩
abbrev O__law_parts : List Kd := [.fz, .fz]
noncomputable def m__law_parts : MS := (mSeq (mSet 1 (mLst (maCons (m2 (.fz) (.fz) (mVar 0) (mC (.int 64)) dMod) maNil)))
  (mSeq (mWhile (mTr (m2 (.fz) (.fz) (mVar 0) (mC (.int 64)) dGe)) (mSeq (mSet 0 (m2 (.fz) (.fz) (mVar 0) (mC (.int 64)) dDiv))
  (mSet 1 (m2 (.ow) (.fz) (mLst (maCons (m2 (.fz) (.fz) (mC (.int 64)) (m2 (.fz) (.fz) (mVar 0) (mC (.int 64)) dMod) dAdd) maNil)) (mVar 1) dCat))))
  (mRet (mVar 1))))
noncomputable def f__law_parts : En → Option (D × En) := mFun [.fz] 1 .fz m__law_parts
theorem ok__law_parts {P : Program} {w : World} {K : PySem.W.Frag} {mg : Str → Option Value} {base : Heap} {f : Addr} {fd : FuncData} (F : FunD K "_law_parts" "_law_parts" (defArgs s__law_parts) (defBody s__law_parts) (defScope s__law_parts) [] [] f fd) (B : Bt mg) (C : Ct mg) :
    FnG P w K mg base CX0 1 f fd ["_law_number"] (spF K [.fz] f__law_parts .fz) :=
  fn_data (Oi := [.fz]) (Ol := [.fz]) (r := .fz) F sc__law_parts rfl rfl rfl (fun _ z => by cases z) fun cd A outer s H E hgd hr =>
    have hu := hr.units
    (s_cons (s_setF 1 sc__law_parts.nd (e_frz (e_lst (a_cons (e_op op_modN s_mod (e_var 0) e_int) a_nil))))
    (s_cons (s_while PassesOwn.never (t_cmp op_ge s_ge (e_var 0) e_int) (s_cons (s_setF 0 sc__law_parts.nd (e_op op_fdivN s_div (e_var 0) e_int))
    (s_one (s_setF 1 sc__law_parts.nd (e_frz (e_op op_catS s_cat (e_lst (a_cons (e_op op_add s_add e_int (e_op op_modN s_mod (e_var 0) e_int)) a_nil)) (e_var 1)))))))
    (s_one (s_ret (e_var 1)))))
abbrev s__law_table : Stmt := topS 29
abbrev N__law_table : List Str := ["_law_script", "_law_town_here", "_law_found", "_law_at", "_law_k", "_law_end", "_law_goal"]
theorem sc__law_table : FnScope N__law_table ["_law_script", "_law_town_here"] (defScope s__law_table) := ⟨rfl, rfl, rfl, by decide +kernel, rfl, by decide +kernel, by decide +kernel⟩
abbrev O__law_table : List Kd := [.fz, .io, .ow, .fz, .fz, .fz, .fz]
def m__law_table : MS := (mSeq (mSet 2 (mLst maNil))
  (mSeq (mSet 3 (mC (.int 0)))
  (mSeq (mFor (mRng1 (maCons (mCall f__law_draw [.fz, .br 1, .fz] [] (maCons (mVar 0) (maCons (mBr 1) (maCons (mC (.int 6)) maNil)))) maNil)) (mgN 4) (mSeq (mSet 3 (m2 (.fz) (.fz) (mVar 3) (mCall f__law_draw [.fz, .br 1, .fz] [] (maCons (mVar 0) (maCons (mBr 1) (maCons (mCall f__law_pick [.fz, .br 1, .fz] [] (maCons (mVar 0) (maCons (mBr 1) (maCons (mLst (maCons (mC (.int 2)) (maCons (mC (.int 70)) (maCons (mC (.int 900)) maNil)))) maNil)))) maNil)))) dAdd))
  (mSeq (mSet 5 (m2 (.fz) (.fz) (m2 (.fz) (.fz) (mVar 3) (mC (.int 1)) dAdd) (mCall f__law_draw [.fz, .br 1, .fz] [] (maCons (mVar 0) (maCons (mBr 1) (maCons (mCall f__law_pick [.fz, .br 1, .fz] [] (maCons (mVar 0) (maCons (mBr 1) (maCons (mLst (maCons (mC (.int 3)) (maCons (mC (.int 70)) (maCons (mC (.int 600)) maNil)))) maNil)))) maNil)))) dAdd))
  (mSeq (mSet 6 (mCall f__law_draw [.fz, .br 1, .fz] [] (maCons (mVar 0) (maCons (mBr 1) (maCons (mC (.int 10000)) maNil)))))
  (mSeq (mDrop (mMut 2 "list" (maCons (mTup (maCons (mVar 3) (maCons (mVar 5) (maCons (mVar 6) (maCons (mCall f__law_draw [.fz, .br 1, .fz] [] (maCons (mVar 0) (maCons (mBr 1) (maCons (mCall f__law_pick [.fz, .br 1, .fz] [] (maCons (mVar 0) (maCons (mBr 1) (maCons (mLst (maCons (mC (.int 3)) (maCons (mC (.int 1000)) maNil))) maNil)))) maNil)))) maNil))))) maNil) dAppend))
  (mSet 3 (mVar 5)))))))
  (mRet (mOp [.br 2] (maCons (mBr 2) maNil) dTuple)))))
def f__law_table : En → Option (D × En) := mFun [.fz, .io] 5 .fz m__law_table
theorem ok__law_table {P : Program} {w : World} {K : PySem.W.Frag} {mg : Str → Option Value} {base : Heap} {f : Addr} {fd : FuncData} (F : FunD K "_law_table" "_law_table" (defArgs s__law_table) (defBody s__law_table) (defScope s__law_table) [] [] f fd) (B : Bt mg) (C : Ct mg) (G__law_draw : FnX P w K mg base "_law_draw" 1 ["_law_script", "_law_town_here", "_law_many"] (spF K [.fz, .io, .fz] f__law_draw .fz)) (G__law_pick : FnX P w K mg base "_law_pick" 2 ["_law_script", "_law_town_here", "_law_some"] (spF K [.fz, .io, .fz] f__law_pick .fz)) :
    FnG P w K mg base CX0 3 f fd ["_law_script", "_law_town_here"] (spF K [.fz, .io] f__law_table .fz) :=
  fn_data (Oi := [.fz, .io]) (Ol := [.ow, .fz, .fz, .fz, .fz]) (r := .fz) F sc__law_table rfl rfl rfl (fun _ z => by cases z) fun cd A outer s H E hgd hr =>
    have hu := hr.units
    (s_cons (s_setO 2 sc__law_table.nd (e_lst a_nil))
    (s_cons (s_setF 3 sc__law_table.nd e_int)
    (s_cons (s_for (L := O__law_table) PassesOwn.never rfl (i_rng1 B.range (a_cons (e_callX G__law_draw hgd hr (a_cons (e_var 0) (a_cons (e_br 1) (a_cons e_int a_nil)))) a_nil)) (g_name 4 sc__law_table.nd) (s_cons (s_setF 3 sc__law_table.nd (e_op op_add s_add (e_var 3) (e_callX G__law_draw hgd hr (a_cons (e_var 0) (a_cons (e_br 1) (a_cons (e_callX G__law_pick hgd hr (a_cons (e_var 0) (a_cons (e_br 1) (a_cons (e_frz (e_lst (a_cons e_int (a_cons e_int (a_cons e_int a_nil))))) a_nil)))) a_nil))))))
    (s_cons (s_setF 5 sc__law_table.nd (e_op op_add s_add (e_op op_add s_add (e_var 3) e_int) (e_callX G__law_draw hgd hr (a_cons (e_var 0) (a_cons (e_br 1) (a_cons (e_callX G__law_pick hgd hr (a_cons (e_var 0) (a_cons (e_br 1) (a_cons (e_frz (e_lst (a_cons e_int (a_cons e_int (a_cons e_int a_nil))))) a_nil)))) a_nil))))))
    (s_cons (s_setF 6 sc__law_table.nd (e_callX G__law_draw hgd hr (a_cons (e_var 0) (a_cons (e_br 1) (a_cons e_int a_nil)))))
    (s_cons (s_expr (e_mut 2 PySem.F.plainAttrs_list PySem.F.slot_list_append PySem.F.type_list_append mt_append ms_append (e_br 2) (a_cons (e_tup (a_cons (e_var 3) (a_cons (e_var 5) (a_cons (e_var 6) (a_cons (e_callX G__law_draw hgd hr (a_cons (e_var 0) (a_cons (e_br 1) (a_cons (e_callX G__law_pick hgd hr (a_cons (e_var 0) (a_cons (e_br 1) (a_cons (e_frz (e_lst (a_cons e_int (a_cons e_int a_nil)))) a_nil)))) a_nil)))) a_nil))))) a_nil)))
    (s_one (s_setF 3 sc__law_table.nd (e_var 5))))))))
    (s_one (s_ret (e_tuple B (a_cons (e_br 2) a_nil)))))))
abbrev s_law : Stmt := topS 30
abbrev N_law : List Str := ["_law_script", "_law_town_here", "_law_table_here", "_law_lines", "_law_k", "_law_top", "_law_line", "_law_due", "_law_begin", "_law_end", "_law_goal", "_law_depth", "_law_number", "_law_told", "_law_last", "_law_many", "_law_step", "_law_one"]
theorem sc_law : FnScope N_law ["_law_script"] (defScope s_law) := ⟨rfl, rfl, rfl, by decide +kernel, rfl, by decide +kernel, by decide +kernel⟩
abbrev O_law : List Kd := [.fz, .ow, .fz, .ow, .fz, .fz, .fz, .fz, .fz, .fz, .fz, .fz, .fz, .fz, .fz, .fz, .fz, .fz]
noncomputable def m_law : MS := (mSeq (mSet 1 (mCall f__law_town [.fz] [] (maCons (mVar 0) maNil)))
  (mSeq (mSet 2 (mCall f__law_table [.fz, .br 1] [] (maCons (mVar 0) (maCons (mBr 1) maNil))))
  (mSeq (mSet 3 (mLst maNil))
  (mSeq (mFor (mRng1 (maCons (mCall f__law_draw [.fz, .br 1, .fz] [] (maCons (mVar 0) (maCons (mBr 1) (maCons (mC (.int 8)) maNil)))) maNil)) (mgN 4) (mSeq (mSet 5 (mCall f__law_pick [.fz, .br 1, .fz] [] (maCons (mVar 0) (maCons (mBr 1) (maCons (mLst (maCons (mC (.int 3)) (maCons (mC (.int 70)) (maCons (mC (.int 9999)) maNil)))) maNil)))))
  (mSeq (mSet 6 (mCall f__law_draw [.fz, .br 1, .fz] [] (maCons (mVar 0) (maCons (mBr 1) (maCons (mCall f__law_pick [.fz, .br 1, .fz] [] (maCons (mVar 0) (maCons (mBr 1) (maCons (mLst (maCons (mC (.int 9)) (maCons (mC (.int 200)) (maCons (mC (.int 10000)) maNil)))) maNil)))) maNil)))))
  (mDrop (mMut 3 "list" (maCons (mTup (maCons (m2 (.fz) (.fz) (mC (.int 1)) (mCall f__law_draw [.fz, .br 1, .fz] [] (maCons (mVar 0) (maCons (mBr 1) (maCons (mVar 5) maNil)))) dAdd) (maCons (mVar 6) maNil))) maNil) dAppend)))))
  (mFz 3 (mSeq (mSet 3 (mOp [.fz] (maCons (mVar 3) maNil) dTuple))
  (mSeq (mSet 7 (mLst maNil))
  (mSeq (mFor (mItS (mVar 2)) (mgT 4 (mgCons (mgN 8) (mgCons (mgN 9) (mgCons (mgN 10) (mgCons (mgN 11) mgNil))))) (mFor (mItS (mTup (maCons (mVar 8) (maCons (m2 (.fz) (.fz) (mVar 9) (mVar 8) dSub) (maCons (mVar 10) (maCons (mVar 11) maNil)))))) (mgN 12) (mSet 7 (m2 (.fz) (.fz) (mVar 7) (mCall f__law_parts [.fz] [] (maCons (mVar 12) maNil)) dCat))))
  (mSeq (mSet 13 (mCall f_pack_table [.fz] [] (maCons (mVar 2) maNil)))
  (mSeq (mIte (mOr (mTr (m2 (.fz) (.fz) (mVar 13) (mVar 7) dNe)) (mOr (mNot (mTr (mCall f__law_wholes [.fz] [] (maCons (mVar 13) maNil)))) (mOr (mTr (m2 (.fz) (.fz) (mCall f_unpack_table [.fz] [] (maCons (mVar 13) maNil)) (mVar 2) dNe)) (mNot (mTr (m1 (.fz) (mCall f_unpack_table [.fz] [] (maCons (mVar 13) maNil)) (dIs "tuple"))))))) (mRet (mC (.bool false))) mSkip)
  (mSeq (mSet 7 (mLst maNil))
  (mSeq (mSet 14 (mC (.int 0)))
  (mSeq (mFor (mItS (mVar 3)) (mgT 2 (mgCons (mgN 15) (mgCons (mgN 6) mgNil))) (mSeq (mSet 16 (m2 (.fz) (.fz) (mVar 6) (mVar 14) dSub))
  (mSeq (mSet 7 (m2 (.ow) (.fz) (m2 (.fz) (.fz) (mVar 7) (mCall f__law_parts [.fz] [] (maCons (mVar 15) maNil)) dCat) (mCall f__law_parts [.fz] [] (maCons (mIf (mTr (m2 (.fz) (.fz) (mVar 16) (mC (.int 0)) dGe)) (m2 (.fz) (.fz) (mC (.int 2)) (mVar 16) dMul) (m2 (.fz) (.fz) (m2 (.fz) (.fz) (m1 (.fz) (mC (.int 2)) dNeg) (mVar 16) dMul) (mC (.int 1)) dSub)) maNil)) dCat))
  (mSet 14 (mVar 6)))))
  (mSeq (mSet 13 (mCall f_pack_lines [.fz] [] (maCons (mVar 3) maNil)))
  (mSeq (mIte (mOr (mTr (m2 (.fz) (.fz) (mVar 13) (mVar 7) dNe)) (mOr (mNot (mTr (mCall f__law_wholes [.fz] [] (maCons (mVar 13) maNil)))) (mOr (mTr (m2 (.fz) (.fz) (mCall f_unpack_lines [.fz] [] (maCons (mVar 13) maNil)) (mVar 3) dNe)) (mNot (mTr (m1 (.fz) (mCall f_unpack_lines [.fz] [] (maCons (mVar 13) maNil)) (dIs "tuple"))))))) (mRet (mC (.bool false))) mSkip)
  (mSeq (mIte (mTr (m2 (.ow) (.ow) (mLc (mItS (mVar 13)) (mgN 17) (mOr (mTr (m2 (.fz) (.fz) (mVar 17) (mC (.int 0)) dLt)) (mTr (m2 (.fz) (.fz) (mVar 17) (mC (.int 127)) dGt))) (mVar 17) [17]) (mLst maNil) dNe)) (mRet (mC (.bool false))) mSkip)
  (mRet (mAndV (m2 (.fz) (.fz) (mCall f_unpack_table [.fz] [] (maCons (mCall f_pack_table [.fz] [] (maCons (mTup maNil) maNil)) maNil)) (mTup maNil) dEq) (m2 (.fz) (.fz) (mCall f_unpack_lines [.fz] [] (maCons (mCall f_pack_lines [.fz] [] (maCons (mTup maNil) maNil)) maNil)) (mTup maNil) dEq)))))))))))))))))))
noncomputable def f_law : En → Option (D × En) := mFun [.fz] 17 .fz m_law
theorem ok_law {P : Program} {w : World} {K : PySem.W.Frag} {mg : Str → Option Value} {base : Heap} {f : Addr} {fd : FuncData} (F : FunD K "law" "law" (defArgs s_law) (defBody s_law) (defScope s_law) [] [] f fd) (B : Bt mg) (C : Ct mg) (G__law_draw : FnX P w K mg base "_law_draw" 1 ["_law_script", "_law_town_here", "_law_many"] (spF K [.fz, .io, .fz] f__law_draw .fz)) (G__law_parts : FnX P w K mg base "_law_parts" 1 ["_law_number"] (spF K [.fz] f__law_parts .fz)) (G__law_pick : FnX P w K mg base "_law_pick" 2 ["_law_script", "_law_town_here", "_law_some"] (spF K [.fz, .io, .fz] f__law_pick .fz)) (G__law_table : FnX P w K mg base "_law_table" 3 ["_law_script", "_law_town_here"] (spF K [.fz, .io] f__law_table .fz)) (G__law_town : FnX P w K mg base "_law_town" 1 ["_law_script"] (spF K [.fz] f__law_town .ow)) (G__law_wholes : FnX P w K mg base "_law_wholes" 2 ["_law_thing"] (spF K [.fz] f__law_wholes .fz)) (G_pack_lines : FnX P w K mg base "pack_lines" 4 ["lines"] (spF K [.fz] f_pack_lines .ow)) (G_pack_table : FnX P w K mg base "pack_table" 4 ["table"] (spF K [.fz] f_pack_table .ow)) (G_unpack_lines : FnX P w K mg base "unpack_lines" 4 ["parts"] (spF K [.fz] f_unpack_lines .fz)) (G_unpack_table : FnX P w K mg base "unpack_table" 4 ["parts"] (spF K [.fz] f_unpack_table .fz)) :
    FnG P w K mg base CX0 5 f fd ["_law_script"] (spF K [.fz] f_law .fz) :=
  fn_data (Oi := [.fz]) (Ol := [.ow, .fz, .ow, .fz, .fz, .fz, .fz, .fz, .fz, .fz, .fz, .fz, .fz, .fz, .fz, .fz, .fz]) (r := .fz) F sc_law rfl rfl rfl (fun _ z => by cases z) fun cd A outer s H E hgd hr =>
    have hu := hr.units
    (s_cons (s_setO 1 sc_law.nd (e_callX G__law_town hgd hr (a_cons (e_var 0) a_nil)))
    (s_cons (s_setF 2 sc_law.nd (e_callX G__law_table hgd hr (a_cons (e_var 0) (a_cons (e_br 1) a_nil))))
    (s_cons (s_setO 3 sc_law.nd (e_lst a_nil))
    (s_cons (s_for (L := O_law) PassesOwn.never rfl (i_rng1 B.range (a_cons (e_callX G__law_draw hgd hr (a_cons (e_var 0) (a_cons (e_br 1) (a_cons e_int a_nil)))) a_nil)) (g_name 4 sc_law.nd) (s_cons (s_setF 5 sc_law.nd (e_callX G__law_pick hgd hr (a_cons (e_var 0) (a_cons (e_br 1) (a_cons (e_frz (e_lst (a_cons e_int (a_cons e_int (a_cons e_int a_nil))))) a_nil)))))
    (s_cons (s_setF 6 sc_law.nd (e_callX G__law_draw hgd hr (a_cons (e_var 0) (a_cons (e_br 1) (a_cons (e_callX G__law_pick hgd hr (a_cons (e_var 0) (a_cons (e_br 1) (a_cons (e_frz (e_lst (a_cons e_int (a_cons e_int (a_cons e_int a_nil))))) a_nil)))) a_nil)))))
    (s_one (s_expr (e_mut 3 PySem.F.plainAttrs_list PySem.F.slot_list_append PySem.F.type_list_append mt_append ms_append (e_br 3) (a_cons (e_tup (a_cons (e_op op_add s_add e_int (e_callX G__law_draw hgd hr (a_cons (e_var 0) (a_cons (e_br 1) (a_cons (e_var 5) a_nil))))) (a_cons (e_var 6) a_nil))) a_nil)))))))
    (ss_frz 3 (s_cons (s_setF 3 sc_law.nd (e_tuple B (a_cons (e_var 3) a_nil)))
    (s_cons (s_setF 7 sc_law.nd (e_frz (e_lst a_nil)))
    (s_cons (s_for (L := (List.set O_law 3 .fz)) PassesOwn.never rfl (i_seq (e_var 2)) (g_tup rfl (gs_cons (g_name 8 sc_law.nd) (gs_cons (g_name 9 sc_law.nd) (gs_cons (g_name 10 sc_law.nd) (gs_cons (g_name 11 sc_law.nd) gs_nil))))) (s_one (s_for (L := (List.set O_law 3 .fz)) PassesOwn.never rfl (i_seq (e_tup (a_cons (e_var 8) (a_cons (e_op op_sub s_sub (e_var 9) (e_var 8)) (a_cons (e_var 10) (a_cons (e_var 11) a_nil)))))) (g_name 12 sc_law.nd) (s_one (s_setF 7 sc_law.nd (e_frz (e_op op_catS s_cat (e_var 7) (e_callX G__law_parts hgd hr (a_cons (e_var 12) a_nil)))))))))
    (s_cons (s_setF 13 sc_law.nd (e_frz (e_callX G_pack_table hgd hr (a_cons (e_var 2) a_nil))))
    (s_cons (s_if (PW.pt (w_or (t_cmp (op_neD hu) s_ne (e_var 13) (e_var 7)) (w_or (t_not (t_val (e_callX G__law_wholes hgd hr (a_cons (e_var 13) a_nil)))) (w_or (t_cmp (op_neD hu) s_ne (e_callX G_unpack_table hgd hr (a_cons (e_var 13) a_nil)) (e_var 2)) (w_or1 (t_not (t_val (e_isi B.isinstance B.tuple (by decide +kernel) (e_callX G_unpack_table hgd hr (a_cons (e_var 13) a_nil)))))))))) (s_one (s_ret e_bl)) s_nil)
    (s_cons (s_setF 7 sc_law.nd (e_frz (e_lst a_nil)))
    (s_cons (s_setF 14 sc_law.nd e_int)
    (s_cons (s_for (L := (List.set O_law 3 .fz)) PassesOwn.never rfl (i_seq (e_var 3)) (g_tup rfl (gs_cons (g_name 15 sc_law.nd) (gs_cons (g_name 6 sc_law.nd) gs_nil))) (s_cons (s_setF 16 sc_law.nd (e_op op_sub s_sub (e_var 6) (e_var 14)))
    (s_cons (s_setF 7 sc_law.nd (e_frz (e_op op_catS s_cat (e_op op_catS s_cat (e_var 7) (e_callX G__law_parts hgd hr (a_cons (e_var 15) a_nil))) (e_callX G__law_parts hgd hr (a_cons (e_if (t_cmp op_ge s_ge (e_var 16) e_int) (e_op op_mulW s_mul e_int (e_var 16)) (e_op op_sub s_sub (e_op op_mulW s_mul (e_un un_neg s_neg e_int) (e_var 16)) e_int)) a_nil)))))
    (s_one (s_setF 14 sc_law.nd (e_var 6))))))
    (s_cons (s_setF 13 sc_law.nd (e_frz (e_callX G_pack_lines hgd hr (a_cons (e_var 3) a_nil))))
    (s_cons (s_if (PW.pt (w_or (t_cmp (op_neD hu) s_ne (e_var 13) (e_var 7)) (w_or (t_not (t_val (e_callX G__law_wholes hgd hr (a_cons (e_var 13) a_nil)))) (w_or (t_cmp (op_neD hu) s_ne (e_callX G_unpack_lines hgd hr (a_cons (e_var 13) a_nil)) (e_var 3)) (w_or1 (t_not (t_val (e_isi B.isinstance B.tuple (by decide +kernel) (e_callX G_unpack_lines hgd hr (a_cons (e_var 13) a_nil)))))))))) (s_one (s_ret e_bl)) s_nil)
    (s_cons (s_if (t_cmp (op_neD hu) s_ne (e_lc (own := [("_law_one", 17)]) (L := (List.set O_law 3 .fz)) rfl sc_law.nd (i_seq (e_var 13)) (blkOk_by (N := N_law) (sc := defScope s_law) (by decide +kernel)) (fun _ _ _ _ _ => (g_name 17 sc_law.nd)) (fun _ _ _ _ _ => (ts_one (PW.pt (w_or (t_cmp op_lt s_lt (e_var 17) e_int) (w_or1 (t_cmp op_gt s_gt (e_var 17) e_int)))))) (fun _ _ _ _ _ => (e_var 17))) (e_lst a_nil)) (s_one (s_ret e_bl)) s_nil)
    (s_one (s_ret (e_and (e_cmp (op_eqD hu) s_eq (e_callX G_unpack_table hgd hr (a_cons (e_frz (e_callX G_pack_table hgd hr (a_cons (e_tup a_nil) a_nil))) a_nil)) (e_tup a_nil)) (e_one (e_cmp (op_eqD hu) s_eq (e_callX G_unpack_lines hgd hr (a_cons (e_frz (e_callX G_pack_lines hgd hr (a_cons (e_tup a_nil) a_nil))) a_nil)) (e_tup a_nil))))))))))))))))))))))
end DL

/-! DW1: what a text computes, reasoned about: W m Q says that m answers and the answer keeps Q. -/
namespace DL
open PySem PySem.Spec PyProof.Rows L2

def W {α : Type} (m : Option (α × En)) (Q : α → En → Prop) : Prop := ∃ a ρ, m = some (a, ρ) ∧ Q a ρ
section
variable {α β : Type} {m : Option (α × En)} {Q R : α → En → Prop} {ρ : En} {i : Nat} {d : D}
theorem W.mono (h : W m Q) (k : ∀ a ρ, Q a ρ → R a ρ) : W m R := by
  obtain ⟨a, ρ, e, q⟩ := h
  exact ⟨a, ρ, e, k a ρ q⟩
/-- the aim held apart -/
theorem W_hold (h : ∀ K : α → En → Prop, (∀ a ρ, Q a ρ → K a ρ) → W m K) : W m Q := h Q fun _ _ q => q
@[simp] theorem W_some {a : α} : W (some (a, ρ)) Q ↔ Q a ρ := ⟨fun ⟨_, _, e, q⟩ => by cases e; exact q, fun q => ⟨a, ρ, rfl, q⟩⟩
@[simp] theorem W_none : W (none : Option (α × En)) Q ↔ False := ⟨fun ⟨_, _, e, _⟩ => by (cases e), False.elim⟩
theorem W_bind {f : α × En → Option (β × En)} {R : β → En → Prop} : W (m.bind f) R ↔ W m fun a ρ => W (f (a, ρ)) R := by
  constructor
  · rintro ⟨b, ρ', e, q⟩
    obtain ⟨⟨a, ρ1⟩, e1, e2⟩ := Option.bind_eq_some_iff.mp e
    exact ⟨a, ρ1, e1, b, ρ', e2, q⟩
  · rintro ⟨a, ρ1, e1, b, ρ', e2, q⟩
    exact ⟨b, ρ', by rw [e1]; exact e2, q⟩
theorem W_map {f : α × En → β × En} {R : β → En → Prop} : W (m.map f) R ↔ W m fun a ρ => R (f (a, ρ)).1 (f (a, ρ)).2 := by
  constructor
  · rintro ⟨b, ρ', e, q⟩
    obtain ⟨⟨a, ρ1⟩, e1, e2⟩ := Option.map_eq_some_iff.mp e
    exact ⟨a, ρ1, e1, by show R (f (a, ρ1)).1 (f (a, ρ1)).2; rw [e2]; exact q⟩
  · rintro ⟨a, ρ1, e1, q⟩
    exact ⟨_, _, by rw [e1]; rfl, q⟩
theorem W_eq {a : α} {ρ' : En} (e : m = some (a, ρ')) : W m Q ↔ Q a ρ' := by rw [e, W_some]
theorem W_ite {c : Prop} [Decidable c] {a b : Option (α × En)} : W (if c then a else b) Q ↔ if c then W a Q else W b Q := by
  split <;> rfl
/-- a slot that is read -/
def at? (ρ : En) (i : Nat) : Option D := (ρ[i]?).join
@[simp] theorem at_nil : at? [] i = none := rfl
@[simp] theorem at_zero {x : Option D} : at? (x :: ρ) 0 = x := rfl
@[simp] theorem at_succ {x : Option D} : at? (x :: ρ) (i + 1) = at? ρ i := rfl
end
section
variable {Q : D → En → Prop} {QT : Bool → En → Prop} {QA : List D → En → Prop} {QS : Fl → En → Prop} {ρ : En} {i : Nat} {d : D}
theorem slot_at : (∃ d, ρ[i]? = some (some d) ∧ Q d ρ) ↔ ∃ d, at? ρ i = some d ∧ Q d ρ := by
  unfold at?
  cases h : ρ[i]? with
  | none => simp
  | some o => simp
@[simp] theorem W_var : W (mVar i ρ) Q ↔ ∃ d, at? ρ i = some d ∧ Q d ρ := by
  unfold mVar at?
  cases h : ρ[i]? with
  | none => simp
  | some o => cases o <;> simp
@[simp] theorem W_mv : W (mMv i ρ) Q ↔ ∃ d, at? ρ i = some d ∧ Q d (ρ.set i none) := by
  unfold mMv at?
  cases h : ρ[i]? with
  | none => simp
  | some o => cases o <;> simp
@[simp] theorem W_br : W (mBr i ρ) Q ↔ ∃ d, at? ρ i = some d ∧ Q .none ρ := by
  unfold mBr at?
  cases h : ρ[i]? with
  | none => simp
  | some o => cases o <;> simp
@[simp] theorem W_C : W (mC d ρ) Q ↔ Q d ρ := W_some
@[simp] theorem W_aNil : W (maNil ρ) QA ↔ QA [] ρ := W_some
@[simp] theorem W_aCons {m : M} {r : MA} : W (maCons m r ρ) QA ↔ W (m ρ) fun d ρ1 => W (r ρ1) fun ds ρ2 => QA (d :: ds) ρ2 := by
  unfold maCons
  rw [W_bind]
  simp only [W_bind, W_some]
@[simp] theorem W_op {ks : List Ak} {ma : MA} {op : List D → Option D} : W (mOp ks ma op ρ) Q ↔ W (ma ρ) fun ds ρ1 => ∃ es, fill ks ds ρ1 = some es ∧ ∃ z, op es = some z ∧ Q z ρ1 := by
  unfold mOp
  rw [W_bind]
  refine ⟨fun h => h.mono fun ds ρ1 ⟨a, ρ', e, q⟩ => ?_, fun h => h.mono fun ds ρ1 ⟨es, e1, z, e2, q⟩ => ?_⟩
  · obtain ⟨es, e1, e2⟩ := Option.bind_eq_some_iff.mp e
    obtain ⟨z, e3, e4⟩ := Option.map_eq_some_iff.mp e2
    cases e4
    exact ⟨es, e1, _, e3, q⟩
  · exact ⟨z, ρ1, by rw [e1]; show (op es).map _ = _; rw [e2]; rfl, q⟩
@[simp] theorem W_m1 {k : Ak} {m : M} {op : List D → Option D} : W (m1 k m op ρ) Q ↔ W (m ρ) fun d ρ1 => ∃ es, fill [k] [d] ρ1 = some es ∧ ∃ z, op es = some z ∧ Q z ρ1 := by
  unfold m1
  simp only [W_op, W_aCons, W_aNil]
@[simp] theorem W_m2 {k k2 : Ak} {m m' : M} {op : List D → Option D} : W (m2 k k2 m m' op ρ) Q ↔ W (m ρ) fun d ρ1 => W (m' ρ1) fun d' ρ2 => ∃ es, fill [k, k2] [d, d'] ρ2 = some es ∧ ∃ z, op es = some z ∧ Q z ρ2 := by
  unfold m2
  simp only [W_op, W_aCons, W_aNil]
@[simp] theorem fill_nil : fill [] [] ρ = some [] := rfl
@[simp] theorem fill_fz {ks : List Ak} {ds : List D} : fill (.fz :: ks) (d :: ds) ρ = (fill ks ds ρ).map (d :: ·) := rfl
@[simp] theorem fill_ow {ks : List Ak} {ds : List D} : fill (.ow :: ks) (d :: ds) ρ = (fill ks ds ρ).map (d :: ·) := rfl
@[simp] theorem fill_br {ks : List Ak} {ds : List D} : fill (.br i :: ks) (d :: ds) ρ = (at? ρ i).bind fun d => (fill ks ds ρ).map (d :: ·) := by
  unfold at?
  show (match ρ[i]? with | some (some d) => _ | _ => none) = _
  cases h : ρ[i]? with
  | none => rfl
  | some o => cases o <;> rfl
@[simp] theorem W_tr {m : M} : W (mTr m ρ) QT ↔ W (m ρ) fun d ρ1 => ∃ b, d = .bool b ∧ QT b ρ1 := by
  unfold mTr
  rw [W_bind]
  refine ⟨fun h => h.mono fun d ρ1 q => ?_, fun h => h.mono fun d ρ1 ⟨b, e, q⟩ => by rw [e]; exact W_some.mpr q⟩
  cases d <;> first | exact ⟨_, rfl, W_some.mp q⟩ | exact (W_none.mp q).elim
@[simp] theorem W_and {a b : MT} : W (mAnd a b ρ) QT ↔ W (a ρ) fun c ρ1 => if c = true then W (b ρ1) QT else QT false ρ1 := by
  unfold mAnd
  rw [W_bind]
  simp only [W_ite, W_some]
@[simp] theorem W_or {a b : MT} : W (mOr a b ρ) QT ↔ W (a ρ) fun c ρ1 => if c = true then QT true ρ1 else W (b ρ1) QT := by
  unfold mOr
  rw [W_bind]
  simp only [W_ite, W_some]
@[simp] theorem W_not {a : MT} : W (mNot a ρ) QT ↔ W (a ρ) fun c ρ1 => QT (!c) ρ1 := W_map
@[simp] theorem W_andV {a b : M} : W (mAndV a b ρ) Q ↔ W (mTr a ρ) fun c ρ1 => if c = true then W (b ρ1) Q else Q (.bool false) ρ1 := by
  unfold mAndV
  rw [W_bind]
  simp only [W_ite, W_some]
@[simp] theorem W_orV {a b : M} : W (mOrV a b ρ) Q ↔ W (mTr a ρ) fun c ρ1 => if c = true then Q (.bool true) ρ1 else W (b ρ1) Q := by
  unfold mOrV
  rw [W_bind]
  simp only [W_ite, W_some]
@[simp] theorem W_notV {a : M} : W (mNotV a ρ) Q ↔ W (mTr a ρ) fun c ρ1 => Q (.bool (!c)) ρ1 := W_map
@[simp] theorem W_if {t : MT} {a b : M} : W (mIf t a b ρ) Q ↔ W (t ρ) fun c ρ1 => if c = true then W (a ρ1) Q else W (b ρ1) Q := by
  unfold mIf
  rw [W_bind]
  simp only [W_ite]
@[simp] theorem W_tup {ma : MA} : W (mTup ma ρ) Q ↔ W (ma ρ) fun ds ρ1 => Q (.tuple ds) ρ1 := W_map
@[simp] theorem W_lst {ma : MA} : W (mLst ma ρ) Q ↔ W (ma ρ) fun ds ρ1 => Q (.list ds) ρ1 := W_map
@[simp] theorem W_chain {f g : Int → Int → Bool} {a b c : M} : W (mChain f g a b c ρ) Q ↔ W (a ρ) fun x ρ1 => W (b ρ1) fun y ρ2 => ∃ i j, x = .int i ∧ y = .int j ∧ if f i j = true then W (c ρ2) fun z ρ3 => ∃ n, z = .int n ∧ Q (.bool (g j n)) ρ3 else Q (.bool false) ρ2 := by
  unfold mChain
  rw [W_bind]
  simp only [W_bind]
  refine ⟨fun h => h.mono fun x ρ1 h => h.mono fun y ρ2 q => ?_, fun h => h.mono fun x ρ1 h => h.mono fun y ρ2 ⟨i, j, e1, e2, q⟩ => ?_⟩
  · cases x <;> cases y <;> first | (exact (W_none.mp q).elim) | skip
    refine ⟨_, _, rfl, rfl, ?_⟩
    have q := W_ite.mp q
    split at q
    · rename_i h
      rw [if_pos h]
      refine (W_bind.mp q).mono fun z ρ3 q => ?_
      cases z <;> first | exact ⟨_, rfl, W_some.mp q⟩ | exact (W_none.mp q).elim
    · rename_i h
      rw [if_neg h]
      exact W_some.mp q
  · subst e1 e2
    refine W_ite.mpr ?_
    split at q
    · rename_i h
      rw [if_pos h]
      refine W_bind.mpr (q.mono fun z ρ3 ⟨n, e, q⟩ => ?_)
      subst e
      exact W_some.mpr q
    · rename_i h
      rw [if_neg h]
      exact W_some.mpr q
/-! ### statements -/
/-- behind a statement: on, or out -/
def nxK (f : Fl) (ρ : En) (K : En → Prop) (Q : Fl → En → Prop) : Prop := match f with
  | .nx => K ρ
  | f => Q f ρ
@[simp] theorem nxK_nx {K : En → Prop} : nxK .nx ρ K QS ↔ K ρ := Iff.rfl
@[simp] theorem nxK_bk {K : En → Prop} : nxK .bk ρ K QS ↔ QS .bk ρ := Iff.rfl
@[simp] theorem nxK_ct {K : En → Prop} : nxK .ct ρ K QS ↔ QS .ct ρ := Iff.rfl
@[simp] theorem nxK_rt {K : En → Prop} : nxK (.rt d) ρ K QS ↔ QS (.rt d) ρ := Iff.rfl
theorem W_seq {a b : MS} : W (mSeq a b ρ) QS ↔ W (a ρ) fun f ρ1 => nxK f ρ1 (fun ρ => W (b ρ) QS) QS := by
  unfold mSeq
  rw [W_bind]
  refine ⟨fun h => h.mono fun f ρ1 q => ?_, fun h => h.mono fun f ρ1 q => ?_⟩ <;> cases f <;> first | exact q | exact W_some.mp q | exact W_some.mpr q
@[simp] theorem W_skip : W (mSkip ρ) QS ↔ QS .nx ρ := W_some
@[simp] theorem W_break : W (mBreak ρ) QS ↔ QS .bk ρ := W_some
@[simp] theorem W_cont : W (mCont ρ) QS ↔ QS .ct ρ := W_some
@[simp] theorem W_never : W (mNever ρ) QS ↔ False := W_none
@[simp] theorem W_drop {m : M} : W (mDrop m ρ) QS ↔ W (m ρ) fun _ ρ1 => QS .nx ρ1 := W_map
@[simp] theorem W_ret {m : M} : W (mRet m ρ) QS ↔ W (m ρ) fun d ρ1 => QS (.rt d) ρ1 := W_map
@[simp] theorem W_iteS {c : MT} {a b : MS} : W (mIte c a b ρ) QS ↔ W (c ρ) fun t ρ1 => if t = true then W (a ρ1) QS else W (b ρ1) QS := by
  unfold mIte
  rw [W_bind]
  simp only [W_ite]
@[simp] theorem W_set {m : M} : W (mSet i m ρ) QS ↔ W (m ρ) fun d ρ1 => QS .nx (ρ1.set i (some d)) := W_map
@[simp] theorem W_fz {m : MS} : W (mFz i m ρ) QS ↔ W (m ρ) fun f ρ1 => QS f (ρ1.set i none) := W_map
@[simp] theorem W_asg {g : MG} {m : M} : W (mAsg g m ρ) QS ↔ W (m ρ) fun d ρ1 => ∃ ρ2, g d ρ1 = some ρ2 ∧ QS .nx ρ2 := by
  unfold mAsg
  rw [W_bind]
  refine ⟨fun h => h.mono fun d ρ1 ⟨a, ρ', e, q⟩ => ?_, fun h => h.mono fun d ρ1 ⟨ρ2, e, q⟩ => ⟨_, ρ2, by show (g d ρ1).map _ = _; rw [e]; rfl, q⟩⟩
  obtain ⟨ρ2, e1, e2⟩ := Option.map_eq_some_iff.mp e
  cases e2
  exact ⟨_, e1, q⟩
@[simp] theorem W_aug {m : M} {op : List D → Option D} : W (mAug i m op ρ) QS ↔ ∃ d, at? ρ i = some d ∧ W (m ρ) fun d2 ρ1 => ∃ z, op [d, d2] = some z ∧ QS .nx (ρ1.set i (some z)) := by
  unfold mAug at?
  cases h : ρ[i]? with
  | none => simp
  | some o =>
    cases o with
    | none => simp
    | some d =>
      simp only [Option.join_some, Option.some.injEq, exists_eq_left']
      show W ((m ρ).bind _) _ ↔ _
      rw [W_bind]
      refine ⟨fun h => h.mono fun d2 ρ1 ⟨a, ρ', e, q⟩ => ?_, fun h => h.mono fun d2 ρ1 ⟨z, e, q⟩ => ⟨_, _, by show (op [d, d2]).map _ = _; rw [e]; rfl, q⟩⟩
      obtain ⟨z, e1, e2⟩ := Option.map_eq_some_iff.mp e
      cases e2
      exact ⟨_, e1, q⟩
@[simp] theorem W_call {mf : En → Option (D × En)} {ks : List Ak} {dd : List D} {ma : MA} : W (mCall mf ks dd ma ρ) Q ↔ W (ma ρ) fun ds ρ1 => ∃ es, fill ks ds ρ1 = some es ∧ W (mf ((es ++ dd).map some)) fun z out => Q z (putB ks out ρ1) := by
  unfold mCall
  rw [W_bind]
  refine ⟨fun h => h.mono fun ds ρ1 ⟨a, ρ', e, q⟩ => ?_, fun h => h.mono fun ds ρ1 ⟨es, e1, z, out, e2, q⟩ => ⟨_, _, by rw [e1]; show (mf _).bind _ = _; rw [e2]; rfl, q⟩⟩
  obtain ⟨es, e1, e2⟩ := Option.bind_eq_some_iff.mp e
  obtain ⟨⟨z, out⟩, e3, e4⟩ := Option.bind_eq_some_iff.mp e2
  cases e4
  exact ⟨es, e1, z, out, e3, q⟩
@[simp] theorem putB_nil {out : En} : putB [] out ρ = ρ := rfl
@[simp] theorem putB_br {ks : List Ak} {o : Option D} {os : En} : putB (.br i :: ks) (o :: os) ρ = putB ks os (ρ.set i o) := rfl
@[simp] theorem putB_fz {ks : List Ak} {o : Option D} {os : En} : putB (.fz :: ks) (o :: os) ρ = putB ks os ρ := rfl
@[simp] theorem putB_ow {ks : List Ak} {o : Option D} {os : En} : putB (.ow :: ks) (o :: os) ρ = putB ks os ρ := rfl
theorem W_fun {Oi : List Kd} {n : Nat} {r : Ak} {b : MS} : W (mFun Oi n r b ρ) Q ↔ W (b (ρ ++ List.replicate n none)) fun f ρ1 => (∃ d, f = .rt d ∧ Q d (outE Oi ρ1)) ∨ (f = .nx ∧ r = .fz ∧ Q .none (outE Oi ρ1)) := by
  unfold mFun
  rw [W_bind]
  refine ⟨fun h => h.mono fun f ρ1 q => ?_, fun h => h.mono fun f ρ1 q => ?_⟩
  · cases f with
    | rt d => exact .inl ⟨d, rfl, W_some.mp q⟩
    | nx =>
      cases r with
      | fz => exact .inr ⟨rfl, rfl, W_some.mp q⟩
      | ow => exact (W_none.mp q).elim
      | br _ => exact (W_none.mp q).elim
    | bk => exact (W_none.mp q).elim
    | ct => exact (W_none.mp q).elim
  · rcases q with ⟨d, rfl, q⟩ | ⟨rfl, rfl, q⟩ <;> exact W_some.mpr q
@[simp] theorem outE_nil : outE [] ρ = [] := rfl
@[simp] theorem outE_cons {k : Kd} {ks : List Kd} {r : Option D} : outE (k :: ks) (r :: ρ) = (if k = .io then r else none) :: outE ks ρ := rfl
@[simp] theorem W_setIx {mi mv : M} : W (mSetIx i mi mv ρ) QS ↔ W (mv ρ) fun v ρ1 => ∃ d, at? ρ1 i = some d ∧ W (mi ρ1) fun x ρ2 => ∃ j ds n, x = .int j ∧ at? ρ2 i = some (.list ds) ∧ ixN ds.length j = some n ∧ QS .nx (ρ2.set i (some (.list (ds.set n v)))) := by
  unfold mSetIx
  rw [W_bind]
  refine ⟨fun h => h.mono fun v ρ1 h => ?_, fun h => h.mono fun v ρ1 ⟨d, e, h⟩ => ?_⟩
  · obtain ⟨d, e, h⟩ := W_br.mp (W_bind.mp h)
    refine ⟨d, e, (W_bind.mp h).mono fun x ρ2 q => ?_⟩
    obtain ⟨a, ρ3, e1, q⟩ := q
    dsimp only at e1
    split at e1
    · rename_i j ds e3
      obtain ⟨n, e4, e5⟩ := Option.map_eq_some_iff.mp e1
      cases e5
      refine ⟨j, ds, _, rfl, by unfold at?; rw [e3]; rfl, e4, q⟩
    · cases e1
  · refine W_bind.mpr (W_br.mpr ⟨d, e, W_bind.mpr (h.mono fun x ρ2 ⟨j, ds, n, e1, e2, e3, q⟩ => ?_)⟩)
    subst e1
    have e4 : ρ2[i]? = some (some (.list ds)) := by
      unfold at? at e2
      cases h : ρ2[i]? with
      | none => rw [h] at e2; cases e2
      | some o => rw [h] at e2; rw [show o = some _ from e2]
    refine ⟨_, _, ?_, q⟩
    rw [e4]
    show (ixN ds.length j).map _ = _
    rw [e3]
    rfl
theorem W_mut0 {T : String} {ma : MA} {op : D → List D → Option (D × D)} : W (mMut i T ma op ρ) Q ↔ ∃ d1, at? ρ i = some d1 ∧ isTy T d1 = true ∧ W (ma ρ) fun ds ρ1 => ∃ d0, at? ρ1 i = some d0 ∧ ∃ z, op d0 ds = some z ∧ Q z.1 (ρ1.set i (some z.2)) := by
  unfold mMut at?
  cases h : ρ[i]? with
  | none => simp
  | some o =>
    cases o with
    | none => simp
    | some d1 =>
      simp only [Option.join_some, Option.some.injEq, exists_eq_left']
      show W (if isTy T d1 = true then _ else none) _ ↔ _
      rw [W_ite]
      by_cases hT : isTy T d1 = true
      · rw [if_pos hT, W_bind]
        refine ⟨fun h => ⟨hT, h.mono fun ds ρ1 ⟨a, ρ', e, q⟩ => ?_⟩, fun ⟨_, h⟩ => h.mono fun ds ρ1 ⟨d0, e, z, e1, q⟩ => ?_⟩
        · dsimp only at e
          split at e
          · rename_i d0 e0
            obtain ⟨z, e1, e2⟩ := Option.map_eq_some_iff.mp e
            cases e2
            exact ⟨d0, by rw [e0]; rfl, _, e1, q⟩
          · cases e
        · have e4 : ρ1[i]? = some (some d0) := by
            cases h : ρ1[i]? with
            | none => rw [h] at e; cases e
            | some o => rw [h] at e; rw [show o = some _ from e]
          refine ⟨z.1, _, ?_, q⟩
          rw [e4]
          show (op d0 ds).map _ = _
          rw [e1]
          rfl
      · rw [if_neg hT]
        exact ⟨fun h => (W_none.mp h).elim, fun h => (hT h.1).elim⟩
@[simp] theorem W_mut {T : String} {ma : MA} {op : D → List D → Option (D × D)} : W (mMut i T ma op ρ) Q ↔ ∃ d1, at? ρ i = some d1 ∧ isTy T d1 = true ∧ W (ma ρ) fun ds ρ1 => ∃ d0, at? ρ1 i = some d0 ∧ ∃ x y, op d0 ds = some (x, y) ∧ Q x (ρ1.set i (some y)) := by
  rw [W_mut0]
  simp only [Prod.exists]
/-! ### slices -/
@[simp] theorem W_sl {ka : Ak} {m : M} {lo hi : MO} {op : D → Option Int → Option Int → Option D} : W (mSl ka m lo hi op ρ) Q ↔ W (m ρ) fun d ρ1 => W (lo ρ1) fun l ρ2 => W (hi ρ2) fun h ρ3 => ∃ es, fill [ka] [d] ρ3 = some es ∧ ∃ x, es = [x] ∧ ∃ z, op x l h = some z ∧ Q z ρ3 := by
  unfold mSl
  rw [W_bind]
  simp only [W_bind]
  refine ⟨fun h => h.mono fun d ρ1 h => h.mono fun l ρ2 h => h.mono fun hh ρ3 ⟨a, ρ', e, q⟩ => ?_, fun h => h.mono fun d ρ1 h => h.mono fun l ρ2 h => h.mono fun hh ρ3 ⟨es, e1, x, e2, z, e3, q⟩ => ⟨z, ρ3, ?_, q⟩⟩
  · obtain ⟨es, e1, e2⟩ := Option.bind_eq_some_iff.mp e
    split at e2
    · obtain ⟨z, e3, e4⟩ := Option.map_eq_some_iff.mp e2
      cases e4
      exact ⟨_, e1, _, rfl, _, e3, q⟩
    · cases e2
  · subst e2
    rw [e1]
    show (op x l hh).map _ = _
    rw [e3]
    rfl
@[simp] theorem W_no {QO : Option Int → En → Prop} : W (mNo ρ) QO ↔ QO none ρ := W_some
@[simp] theorem W_pt {QO : Option Int → En → Prop} {m : M} : W (mPt m ρ) QO ↔ W (m ρ) fun d ρ1 => ∃ i, d = .int i ∧ QO (some i) ρ1 := by
  unfold mPt
  rw [W_bind]
  refine ⟨fun h => h.mono fun d ρ1 q => ?_, fun h => h.mono fun d ρ1 ⟨b, e, q⟩ => by rw [e]; exact W_some.mpr q⟩
  cases d <;> first | exact ⟨_, rfl, W_some.mp q⟩ | exact (W_none.mp q).elim
end
end DL

/-! DW2: operators on data, loops, comprehensions. -/
namespace DL
open PySem PySem.Spec PyProof.Rows L2

/-! ### the end of a def -/
def fnK (Oi : List Kd) (r : Ak) (Q : D → En → Prop) (f : Fl) (ρ : En) : Prop := match f with
  | .rt d => Q d (outE Oi ρ)
  | .nx => r = .fz ∧ Q .none (outE Oi ρ)
  | _ => False
section
variable {Oi : List Kd} {r : Ak} {Q : D → En → Prop} {ρ : En} {d : D} {n : Nat} {b : MS}
@[simp] theorem fnK_rt : fnK Oi r Q (.rt d) ρ ↔ Q d (outE Oi ρ) := Iff.rfl
@[simp] theorem fnK_nx : fnK Oi .fz Q .nx ρ ↔ Q .none (outE Oi ρ) := ⟨fun h => h.2, fun h => ⟨rfl, h⟩⟩
theorem W_fn : W (mFun Oi n r b ρ) Q ↔ W (b (ρ ++ List.replicate n none)) (fnK Oi r Q) := by
  rw [W_fun]
  refine ⟨fun h => h.mono fun f ρ1 q => ?_, fun h => h.mono fun f ρ1 q => ?_⟩
  · rcases q with ⟨d, rfl, q⟩ | ⟨rfl, e, q⟩
    · exact q
    · exact ⟨e, q⟩
  · cases f with
    | rt d => exact .inl ⟨d, rfl, q⟩
    | nx => exact .inr ⟨rfl, q.1, q.2⟩
    | bk => exact q.elim
    | ct => exact q.elim
end
@[simp] theorem ex_cond {α : Type} {c : Prop} {x : α} {P : α → Prop} : (∃ z, (c ∧ z = x) ∧ P z) ↔ c ∧ P x := ⟨fun ⟨_, ⟨h, e⟩, p⟩ => ⟨h, by rw [← e]; exact p⟩, fun ⟨h, p⟩ => ⟨x, ⟨h, rfl⟩, p⟩⟩
@[simp] theorem ex_cond2 {α β : Type} {c : Prop} {x : α} {y : β} {P : α → β → Prop} : (∃ a b, (c ∧ a = x ∧ b = y) ∧ P a b) ↔ c ∧ P x y := ⟨fun ⟨_, _, ⟨h, e, e2⟩, p⟩ => ⟨h, by rw [← e, ← e2]; exact p⟩, fun ⟨h, p⟩ => ⟨x, y, ⟨h, rfl, rfl⟩, p⟩⟩
@[simp] theorem ixN_0 {n : Nat} : ixN (n + 1) 0 = some 0 := by
  unfold ixN
  rw [if_pos (by omega), if_pos (by omega)]
  rfl
/-! ### operators -/
section
variable {i j : Int} {Q : D → Prop}
@[simp] theorem dAdd_i : dAdd [.int i, .int j] = some (.int (i + j)) := rfl
@[simp] theorem dSub_i : dSub [.int i, .int j] = some (.int (i - j)) := rfl
@[simp] theorem dLt_i : dLt [.int i, .int j] = some (.bool (decide (i < j))) := rfl
@[simp] theorem dLe_i : dLe [.int i, .int j] = some (.bool (decide (i ≤ j))) := rfl
@[simp] theorem dGt_i : dGt [.int i, .int j] = some (.bool (decide (j < i))) := rfl
@[simp] theorem dGe_i : dGe [.int i, .int j] = some (.bool (decide (j ≤ i))) := rfl
@[simp] theorem dNeg_i : dNeg [.int i] = some (.int (-i)) := rfl
/-- sizes that the product is shown for -/
def MulOk (i j : Int) : Prop := i.natAbs.log2 + j.natAbs.log2 < 1000000
theorem log2_small {n : Nat} (h : n < 2 ^ 4000) : n.log2 < 4000 := by
  by_cases z : n = 0
  · rw [z]
    decide
  · exact (Nat.log2_lt z).mpr h
theorem pow64 : (2 : Nat) ^ 64 < 2 ^ 4000 := by decide +kernel
theorem mulOk_of (h : i.natAbs < 2 ^ 64) (h' : j.natAbs < 2 ^ 64) : MulOk i j := by
  have a := log2_small (Nat.lt_trans h pow64)
  have b := log2_small (Nat.lt_trans h' pow64)
  unfold MulOk
  omega
@[simp] theorem dMul_i {d : D} : dMul [.int i, .int j] = some d ↔ MulOk i j ∧ d = .int (i * j) := by
  unfold dMul opIc MulOk
  simp only [decide_eq_true_eq]
  split
  · rename_i h
    exact ⟨fun e => ⟨h, by cases e; rfl⟩, fun e => by rw [e.2]⟩
  · rename_i h
    exact ⟨fun e => (by cases e), fun e => (h e.1).elim⟩
theorem fdiv_lit (n : Nat) : Int.fdiv i (@OfNat.ofNat Int n instOfNat) = i / (@OfNat.ofNat Int n instOfNat) := Int.fdiv_eq_ediv_of_nonneg _ (Int.natCast_nonneg n)
theorem fmod_lit (n : Nat) : Int.fmod i (@OfNat.ofNat Int n instOfNat) = i % (@OfNat.ofNat Int n instOfNat) := Int.fmod_eq_emod_of_nonneg _ (Int.natCast_nonneg n)
@[simp] theorem dDiv_i {d : D} (hj : 0 < j) : dDiv [.int i, .int j] = some d ↔ j < 1073741824 ∧ d = .int (i / j) := by
  unfold dDiv opIc
  simp only [decide_eq_true_eq]
  split
  · rename_i h
    rw [Int.fdiv_eq_ediv_of_nonneg _ (Int.le_of_lt hj)]
    exact ⟨fun e => ⟨by omega, by cases e; rfl⟩, fun e => by rw [e.2]⟩
  · rename_i h
    exact ⟨fun e => (by cases e), fun e => (h ⟨by omega, by omega⟩).elim⟩
@[simp] theorem dMod_i {d : D} (hj : 0 < j) : dMod [.int i, .int j] = some d ↔ d = .int (i % j) := by
  unfold dMod opIc
  simp only [decide_eq_true_eq]
  rw [if_pos (by omega), Int.fmod_eq_emod_of_nonneg _ (Int.le_of_lt hj)]
  exact ⟨fun e => by cases e; rfl, fun e => by rw [e]⟩
@[simp] theorem dPow_i {d : D} : dPow [.int i, .int j] = some d ↔ (0 ≤ j ∧ j ≤ 1000000 ∧ i.natAbs < 2 ^ 64) ∧ d = .int (i ^ j.toNat) := by
  unfold dPow opIc
  simp only [decide_eq_true_eq]
  split
  · rename_i h
    exact ⟨fun e => ⟨h, by cases e; rfl⟩, fun e => by rw [e.2]⟩
  · rename_i h
    exact ⟨fun e => (by cases e), fun e => (h e.1).elim⟩
variable {ds es : List D} {d x : D}
@[simp] theorem dLen_l : dLen [.list ds] = some (.int ds.length) := rfl
@[simp] theorem dLen_t : dLen [.tuple ds] = some (.int ds.length) := rfl
@[simp] theorem dList_l : dList [.list ds] = some (.list ds) := rfl
@[simp] theorem dList_t : dList [.tuple ds] = some (.list ds) := rfl
@[simp] theorem dTuple_l : dTuple [.list ds] = some (.tuple ds) := rfl
@[simp] theorem dTuple_t : dTuple [.tuple ds] = some (.tuple ds) := rfl
@[simp] theorem dRev_l : dRev [.list ds] = some (.list ds.reverse) := rfl
@[simp] theorem dCat_l : dCat [.list ds, .list es] = some d ↔ ds.length + es.length ≤ 1000000 ∧ d = .list (ds ++ es) := by
  unfold dCat
  dsimp only
  split
  · rename_i h
    exact ⟨fun e => ⟨h, by cases e; rfl⟩, fun e => by rw [e.2]⟩
  · rename_i h
    exact ⟨fun e => (by cases e), fun e => (h e.1).elim⟩
@[simp] theorem dAppend_l {x y : D} : dAppend (.list ds) [d] = some (x, y) ↔ ds.length < 1000000 ∧ x = .none ∧ y = .list (ds ++ [d]) := by
  unfold dAppend
  dsimp only
  split
  · rename_i h
    exact ⟨fun e => ⟨h, by cases e; exact ⟨rfl, rfl⟩⟩, fun e => by rw [e.2.1, e.2.2]⟩
  · rename_i h
    exact ⟨fun e => (by cases e), fun e => (h e.1).elim⟩
@[simp] theorem isTy_l : isTy "list" (.list ds) = true := rfl
@[simp] theorem dIs_int_i : dIs "int" [.int i] = some (.bool true) := rfl
@[simp] theorem dIs_bool_i : dIs "bool" [.int i] = some (.bool false) := rfl
@[simp] theorem dIs_list_l : dIs "list" [.list ds] = some (.bool true) := rfl
@[simp] theorem dIs_tuple_t : dIs "tuple" [.tuple ds] = some (.bool true) := rfl
@[simp] theorem dIx_l : dIx [.list ds, .int i] = atI ds i := rfl
@[simp] theorem dIx_t : dIx [.tuple ds, .int i] = atI ds i := rfl
theorem atI_lit {α : Type} {xs : List α} {v : α} (n : Nat) (h : xs[n]? = some v) : atI xs (n : Int) = some v := atI_nat h
@[simp] theorem atI_0 {α : Type} {x : α} {xs : List α} : atI (x :: xs) 0 = some x := atI_nat (j := 0) rfl
@[simp] theorem atI_1 {α : Type} {x y : α} {xs : List α} : atI (x :: y :: xs) 1 = some y := atI_nat (j := 1) rfl
@[simp] theorem atI_2 {α : Type} {x y z : α} {xs : List α} : atI (x :: y :: z :: xs) 2 = some z := atI_nat (j := 2) rfl
@[simp] theorem atI_3 {α : Type} {x y z u : α} {xs : List α} : atI (x :: y :: z :: u :: xs) 3 = some u := atI_nat (j := 3) rfl
@[simp] theorem dSlL_l {l h : Option Int} : dSlL (.list ds) l h = some (.list (cutG ds l h)) := rfl
@[simp] theorem dSlT_t {l h : Option Int} : dSlT (.tuple ds) l h = some (.tuple (cutG ds l h)) := rfl
@[simp] theorem mgN_e {ρ : En} {k : Nat} : mgN k d ρ = some (ρ.set k (some d)) := rfl
@[simp] theorem mgNil_e {ρ : En} : mgNil [] ρ = some ρ := rfl
@[simp] theorem mgCons_e {ρ : En} {g : MG} {r : List D → En → Option En} : mgCons g r (d :: ds) ρ = (g d ρ).bind (r ds) := rfl
@[simp] theorem mgT_e {ρ : En} {n : Nat} {r : List D → En → Option En} : mgT n r (.tuple ds) ρ = if ds.length = n then r ds ρ else none := rfl
@[simp] theorem mgL_e {ρ : En} {n : Nat} {r : List D → En → Option En} : mgL n r (.list ds) ρ = if ds.length = n then r ds ρ else none := rfl
@[simp] theorem dAll_b {bs : List Bool} : dAll [.list (bs.map PyData.bool)] = some (.bool (bs.all id)) := by
  have h : ∀ bs : List Bool, bools (bs.map PyData.bool) = some bs := fun bs => by
    induction bs with
    | nil => rfl
    | cons b bs ih =>
      show (bools (bs.map PyData.bool)).map _ = _
      rw [ih]
      rfl
  show (bools (bs.map PyData.bool)).map _ = _
  rw [h]
  rfl
end
/-! ### == -/
/-- data that == is shown for, of a depth -/
structure Eq0 (n : Nat) (d : D) : Prop where
  lay : d.canLay0 = true
  nod : d.hasDict = false
  dep : d.depth ≤ n
theorem Eq0.ok {n : Nat} {d : D} (h : Eq0 n d) (hn : n ≤ 64 := by decide) : eqOk d = true := by
  unfold eqOk SeqAt.shaped
  rw [h.lay, h.nod, decide_eq_true (Nat.le_trans h.dep hn)]
  rfl
theorem Eq0.int {n : Nat} {i : Int} : Eq0 n (.int i) := ⟨rfl, rfl, by simp [PyData.depth]⟩
theorem Eq0.bool {n : Nat} {i : Bool} : Eq0 n (.bool i) := ⟨rfl, rfl, by simp [PyData.depth]⟩
theorem Eq0.none {n : Nat} : Eq0 n .none := ⟨rfl, rfl, by simp [PyData.depth]⟩
theorem eq0_all {n : Nat} : ∀ {ds : List D}, (∀ d, d ∈ ds → Eq0 n d) → PyData.canLayAll0 ds = true ∧ PyData.hasDictAll ds = false ∧ PyData.depthAll ds ≤ n
  | [], _ => ⟨rfl, rfl, Nat.zero_le _⟩
  | d :: ds, h => by
    obtain ⟨a, b, c⟩ := eq0_all fun d m => h d (List.mem_cons_of_mem _ m)
    have z := h d List.mem_cons_self
    refine ⟨?_, ?_, ?_⟩
    · rw [PyData.canLayAll0, z.lay, a]
      rfl
    · rw [PyData.hasDictAll, z.nod, b]
      rfl
    · rw [PyData.depthAll]
      exact Nat.max_le.mpr ⟨z.dep, c⟩
theorem Eq0.list {n : Nat} {ds : List D} (h : ∀ d, d ∈ ds → Eq0 n d) : Eq0 (n + 1) (.list ds) := by
  obtain ⟨a, b, c⟩ := eq0_all h
  exact ⟨by rw [PyData.canLay0]; exact a, by rw [PyData.hasDict]; exact b, by rw [PyData.depth]; omega⟩
theorem Eq0.tuple {n : Nat} {ds : List D} (h : ∀ d, d ∈ ds → Eq0 n d) : Eq0 (n + 1) (.tuple ds) := by
  obtain ⟨a, b, c⟩ := eq0_all h
  exact ⟨by rw [PyData.canLay0]; exact a, by rw [PyData.hasDict]; exact b, by rw [PyData.depth]; omega⟩
theorem Eq0.up {n m : Nat} {d : D} (h : Eq0 n d) (hn : n ≤ m) : Eq0 m d := ⟨h.lay, h.nod, Nat.le_trans h.dep hn⟩
theorem Eq0.ints {ns : List Int} : Eq0 1 (.list (ns.map PyData.int)) := .list fun d m => by
  obtain ⟨n, _, rfl⟩ := List.mem_map.mp m
  exact .int
mutual
theorem eqv_same : ∀ d : D, d.hasDict = false → PyData.eqv d d = true
  | .none, _ => by rw [PyData.eqv]
  | .bool b, _ => by rw [PyData.eqv]; exact beq_self_eq_true b
  | .int i, _ => by rw [PyData.eqv]; exact beq_self_eq_true i
  | .str x, _ => by rw [PyData.eqv]; exact beq_self_eq_true x
  | .list ds, h => by rw [PyData.eqv]; exact eqvAll_same ds (by rw [PyData.hasDict] at h; exact h)
  | .tuple ds, h => by rw [PyData.eqv]; exact eqvAll_same ds (by rw [PyData.hasDict] at h; exact h)
  | .dict _, h => by rw [PyData.hasDict] at h; cases h
theorem eqvAll_same : ∀ ds : List D, PyData.hasDictAll ds = false → PyData.eqvAll ds ds = true
  | [], _ => by rw [PyData.eqvAll]
  | d :: ds, h => by
    rw [PyData.hasDictAll] at h
    have z := Bool.or_eq_false_iff.mp h
    rw [PyData.eqvAll, eqv_same d z.1, eqvAll_same ds z.2]
    rfl
end
section
variable {i j : Int} {n m : Nat} {d e x : D} {ds : List D}
@[simp] theorem dEq_i : dEq [.int i, .int j] = some (.bool (decide (i = j))) := by
  unfold dEq
  dsimp only
  rw [Eq0.ok (n := 0) Eq0.int, Eq0.ok (n := 0) Eq0.int, if_pos (by decide), PyData.eqv]
  rfl
@[simp] theorem dNe_i : dNe [.int i, .int j] = some (.bool (!decide (i = j))) := by
  unfold dNe
  dsimp only
  rw [Eq0.ok (n := 0) Eq0.int, Eq0.ok (n := 0) Eq0.int, if_pos (by decide), PyData.eqv]
  rfl
theorem dEq_same (h : Eq0 n d) (hn : n ≤ 64 := by decide) : dEq [d, d] = some (.bool true) := by
  unfold dEq
  dsimp only
  rw [h.ok hn, if_pos (by decide), eqv_same d h.nod]
theorem dNe_same (h : Eq0 n d) (hn : n ≤ 64 := by decide) : dNe [d, d] = some (.bool false) := by
  unfold dNe
  dsimp only
  rw [h.ok hn, if_pos (by decide), eqv_same d h.nod]
  rfl
theorem dEq_nil (h : Eq0 n (.list ds)) (hn : n ≤ 64 := by decide) : dEq [.list ds, .list []] = some (.bool ds.isEmpty) := by
  unfold dEq
  dsimp only
  rw [h.ok hn, Eq0.ok (n := 1) (Eq0.list (n := 0) fun _ z => (List.not_mem_nil z).elim), if_pos (by decide)]
  cases ds <;> simp [PyData.eqv, PyData.eqvAll]
end
/-! ### loops -/
def lpK (f : Fl) (ρ : En) (K : En → Prop) (Q : Fl → En → Prop) : Prop := match f with
  | .nx => K ρ
  | .ct => K ρ
  | .bk => Q .nx ρ
  | .rt d => Q (.rt d) ρ
section
variable {ρ : En} {Q : Fl → En → Prop} {QD : D → En → Prop} {QI : List D → En → Prop} {d : D}
@[simp] theorem lpK_nx {K : En → Prop} : lpK .nx ρ K Q ↔ K ρ := Iff.rfl
@[simp] theorem lpK_ct {K : En → Prop} : lpK .ct ρ K Q ↔ K ρ := Iff.rfl
@[simp] theorem lpK_bk {K : En → Prop} : lpK .bk ρ K Q ↔ Q .nx ρ := Iff.rfl
@[simp] theorem lpK_rt {K : En → Prop} : lpK (.rt d) ρ K Q ↔ Q (.rt d) ρ := Iff.rfl
theorem W_for {mi : MI} {g : MG} {b : MS} : W (mFor mi g b ρ) Q ↔ W (mi ρ) fun ds ρ1 => W (mForL ds g b ρ1) Q := W_bind
theorem W_forL {g : MG} {b : MS} (I : List D → En → Prop) (hs : ∀ d r ρ, I (d :: r) ρ → ∃ ρ1, g d ρ = some ρ1 ∧ W (b ρ1) fun f ρ2 => lpK f ρ2 (I r) Q) (hd : ∀ ρ, I [] ρ → Q .nx ρ) : ∀ {ds : List D} {ρ : En}, I ds ρ → W (mForL ds g b ρ) Q
  | [], ρ, h => W_some.mpr (hd ρ h)
  | d :: ds, ρ, h => by
    obtain ⟨ρ1, e1, e2⟩ := hs d ds ρ h
    show W ((g d ρ).bind fun ρ1 => (b ρ1).bind _) Q
    rw [e1]
    show W ((b ρ1).bind _) Q
    rw [W_bind]
    refine e2.mono fun f ρ2 q => ?_
    cases f with
    | nx => exact W_forL I hs hd q
    | ct => exact W_forL I hs hd q
    | bk => exact W_some.mpr q
    | rt x => exact W_some.mpr q
theorem W_while {c : MT} {b : MS} (I : Nat → En → Prop) (hs : ∀ n ρ, I n ρ → W (c ρ) fun t ρ1 => if t = true then W (b ρ1) fun f ρ2 => lpK f ρ2 (fun ρ => ∃ m, m < n ∧ I m ρ) Q else Q .nx ρ1) {n : Nat} {ρ : En} (h : I n ρ) : W (mWhile c b ρ) Q := by
  have main : ∀ (N n : Nat) (ρ : En), n < N → I n ρ → W (whN c b N ρ) Q := by
    intro N
    induction N with
    | zero => exact fun n ρ h => (Nat.not_lt_zero _ h).elim
    | succ N ih =>
      intro n ρ hn h
      show W ((c ρ).bind _) Q
      rw [W_bind]
      refine (hs n ρ h).mono fun t ρ1 q => W_ite.mpr ?_
      split at q
      · rename_i ht
        rw [if_pos ht, W_bind]
        refine q.mono fun f ρ2 q => ?_
        cases f with
        | nx =>
          obtain ⟨m, hm, z⟩ := q
          exact ih m ρ2 (by omega) z
        | ct =>
          obtain ⟨m, hm, z⟩ := q
          exact ih m ρ2 (by omega) z
        | bk => exact W_some.mpr q
        | rt x => exact W_some.mpr q
      · rename_i ht
        rw [if_neg ht]
        exact W_some.mpr q
  obtain ⟨a, ρ', e, q⟩ := main (n + 1) n ρ (Nat.lt_succ_self n) h
  exact ⟨a, ρ', mWhile_of e, q⟩
/-! ### what is walked -/
@[simp] theorem W_itS {m : M} : W (mItS m ρ) QI ↔ W (m ρ) fun d ρ1 => (∃ ds, (d = .list ds ∨ d = .tuple ds) ∧ QI ds ρ1) := by
  unfold mItS
  rw [W_bind]
  refine ⟨fun h => h.mono fun d ρ1 q => ?_, fun h => h.mono fun d ρ1 ⟨ds, e, q⟩ => ?_⟩
  · cases d <;> first | exact ⟨_, .inl rfl, W_some.mp q⟩ | exact ⟨_, .inr rfl, W_some.mp q⟩ | exact (W_none.mp q).elim
  · rcases e with e | e <;> rw [e] <;> exact W_some.mpr q
@[simp] theorem W_itL {m : M} : W (mItL m ρ) QI ↔ W (m ρ) fun d ρ1 => (∃ ds, d = .list ds ∧ QI ds ρ1) := by
  unfold mItL
  rw [W_bind]
  refine ⟨fun h => h.mono fun d ρ1 q => ?_, fun h => h.mono fun d ρ1 ⟨ds, e, q⟩ => ?_⟩
  · cases d <;> first | exact ⟨_, rfl, W_some.mp q⟩ | exact (W_none.mp q).elim
  · rw [e]
    exact W_some.mpr q
@[simp] theorem W_itB {i : Nat} : W (mItB i ρ) QI ↔ ∃ ds, at? ρ i = some (.list ds) ∧ QI ds ρ := by
  unfold mItB at?
  cases h : ρ[i]? with
  | none => simp
  | some o => cases o with
    | none => simp
    | some d => cases d <;> simp
@[simp] theorem W_rng1 {ma : MA} : W (mRng1 ma ρ) QI ↔ W (ma ρ) fun ds ρ1 => ∃ j, ds = [.int j] ∧ (-(2 ^ 62) ≤ j ∧ j < 2 ^ 62) ∧ QI (dRng 0 j.toNat) ρ1 := by
  unfold mRng1
  rw [W_bind]
  refine ⟨fun h => h.mono fun ds ρ1 q => ?_, fun h => h.mono fun ds ρ1 ⟨j, e, hj, q⟩ => ?_⟩
  · dsimp only at q
    split at q
    · rename_i j
      have q := W_ite.mp q
      split at q
      · rename_i hj
        exact ⟨j, rfl, hj, W_some.mp q⟩
      · exact (W_none.mp q).elim
    · exact (W_none.mp q).elim
  · subst e
    dsimp only
    rw [if_pos hj]
    exact W_some.mpr q
@[simp] theorem W_rng2 {ma : MA} : W (mRng2 ma ρ) QI ↔ W (ma ρ) fun ds ρ1 => ∃ i j, ds = [.int i, .int j] ∧ (-(2 ^ 62) ≤ i ∧ i < 2 ^ 62 ∧ -(2 ^ 62) ≤ j ∧ j < 2 ^ 62) ∧ QI (dRng i (j - i).toNat) ρ1 := by
  unfold mRng2
  rw [W_bind]
  refine ⟨fun h => h.mono fun ds ρ1 q => ?_, fun h => h.mono fun ds ρ1 ⟨i, j, e, hj, q⟩ => ?_⟩
  · dsimp only at q
    split at q
    · rename_i i j
      have q := W_ite.mp q
      split at q
      · rename_i hj
        exact ⟨i, j, rfl, hj, W_some.mp q⟩
      · exact (W_none.mp q).elim
    · exact (W_none.mp q).elim
  · subst e
    dsimp only
    rw [if_pos hj]
    exact W_some.mpr q
@[simp] theorem W_rng3 {ma : MA} : W (mRng3 ma ρ) QI ↔ W (ma ρ) fun ds ρ1 => ∃ i j c, ds = [.int i, .int j, .int c] ∧ rngOk i j c = true ∧ QI (dRngC i c (rngN i j c)) ρ1 := by
  unfold mRng3
  rw [W_bind]
  refine ⟨fun h => h.mono fun ds ρ1 q => ?_, fun h => h.mono fun ds ρ1 ⟨i, j, c, e, hj, q⟩ => ?_⟩
  · dsimp only at q
    split at q
    · rename_i i j c
      have q := W_ite.mp q
      split at q
      · rename_i hj
        exact ⟨i, j, c, rfl, hj, W_some.mp q⟩
      · exact (W_none.mp q).elim
    · exact (W_none.mp q).elim
  · subst e
    dsimp only
    rw [if_pos hj]
    exact W_some.mpr q
@[simp] theorem W_it2 {ks : List Ak} {ma : MA} {f : List D → Option (List D)} : W (mIt2 ks ma f ρ) QI ↔ W (ma ρ) fun ds ρ1 => ∃ es, fill ks ds ρ1 = some es ∧ ∃ z, f es = some z ∧ QI z ρ1 := by
  unfold mIt2
  rw [W_bind]
  refine ⟨fun h => h.mono fun ds ρ1 ⟨a, ρ', e, q⟩ => ?_, fun h => h.mono fun ds ρ1 ⟨es, e1, z, e2, q⟩ => ⟨z, ρ1, by rw [e1]; show (f es).map _ = _; rw [e2]; rfl, q⟩⟩
  obtain ⟨es, e1, e2⟩ := Option.bind_eq_some_iff.mp e
  obtain ⟨z, e3, e4⟩ := Option.map_eq_some_iff.mp e2
  cases e4
  exact ⟨es, e1, _, e3, q⟩
/-! ### comprehensions -/
@[simp] theorem wipe_nil : wipeE ρ [] = ρ := rfl
@[simp] theorem wipe_cons {v : Nat} {vs : List Nat} : wipeE ρ (v :: vs) = (wipeE ρ vs).set v none := rfl
theorem rest_same {ρ' : En} {vs : List Nat} (h : wipeE ρ' vs = wipeE ρ vs) : restE ρ vs ρ' = ρ := by
  have hl : ρ'.length = ρ.length := by rw [← wipeE_len (vs := vs), h, wipeE_len]
  refine List.ext_getElem? fun i => ?_
  by_cases m : i ∈ vs
  · by_cases hi : i < ρ.length
    · have main : ∀ us : List Nat, i ∈ us → (restE ρ us ρ')[i]? = ρ[i]? := by
        intro us
        induction us with
        | nil => exact fun h => (List.not_mem_nil h).elim
        | cons v us ih =>
          intro hm
          show ((restE ρ us ρ').set v (ρ.getD v none))[i]? = _
          by_cases e : v = i
          · subst e
            rw [List.getElem?_set_self (by rw [restE_len, hl]; exact hi), List.getD_eq_getElem?_getD, List.getElem?_eq_getElem hi]
            rfl
          · rw [List.getElem?_set_ne e]
            exact ih ((List.mem_cons.mp hm).resolve_left fun z => e z.symm)
      exact main vs m
    · rw [List.getElem?_eq_none (by rw [restE_len]; omega), List.getElem?_eq_none (by omega)]
  · rw [restE_out m, ← wipeE_out (ρ := ρ') m, h, wipeE_out m]
theorem lcL {τ : Type} {u : τ → D} {F : τ → Option D} {g : MG} {t : MT} {e : M} {vs : List Nat} {B : En} : ∀ {xs : List τ} {acc : List D} {ρ : En}, wipeE ρ vs = B →
    (∀ x, x ∈ xs → ∃ ρ1, g (u x) B = some ρ1 ∧ W (t ρ1) fun b ρ2 => if b = true then W (e ρ2) fun y ρ3 => F x = some y ∧ wipeE ρ3 vs = B else F x = none ∧ wipeE ρ2 vs = B) →
    acc.length + xs.length ≤ 1000000 → ∃ ρ', mLcL (xs.map u) g t e vs acc ρ = some (acc ++ xs.filterMap F, ρ') ∧ wipeE ρ' vs = B
  | [], acc, ρ, hw, _, _ => ⟨ρ, by rw [List.filterMap_nil, List.append_nil]; rfl, hw⟩
  | x :: xs, acc, ρ, hw, hs, hl => by
    obtain ⟨ρ1, e1, b, ρ2, e2, q⟩ := hs x List.mem_cons_self
    have hl : acc.length + (xs.length + 1) ≤ 1000000 := hl
    show ∃ ρ', ((g (u x) (wipeE ρ vs)).bind _) = _ ∧ _
    rw [hw, e1]
    show ∃ ρ', ((t ρ1).bind _) = _ ∧ _
    rw [e2]
    show ∃ ρ', (if b = true then _ else _) = _ ∧ _
    split at q
    · rename_i hb
      obtain ⟨y, ρ3, e3, h1, h2⟩ := q
      rw [if_pos hb, e3]
      show ∃ ρ', (if acc.length < 1000000 then _ else _) = _ ∧ _
      rw [if_pos (by omega)]
      obtain ⟨ρ', h3, h4⟩ := lcL (xs := xs) (acc := acc ++ [y]) (ρ := ρ3) h2 (fun x m => hs x (List.mem_cons_of_mem _ m)) (by rw [List.length_append, List.length_singleton]; omega)
      refine ⟨ρ', ?_, h4⟩
      rw [List.filterMap_cons_some h1]
      show mLcL (xs.map u) g t e vs (acc ++ [y]) ρ3 = _
      rw [h3, List.append_assoc]
      rfl
    · rename_i hb
      obtain ⟨h1, h2⟩ := q
      rw [if_neg hb]
      obtain ⟨ρ', h3, h4⟩ := lcL (xs := xs) (acc := acc) (ρ := ρ2) h2 (fun x m => hs x (List.mem_cons_of_mem _ m)) (by omega)
      exact ⟨ρ', by rw [List.filterMap_cons_none h1]; exact h3, h4⟩
/-- [e for x in xs if t] -/
theorem W_lcF {τ : Type} (u : τ → D) (F : τ → Option D) (xs : List τ) {mi : MI} {g : MG} {t : MT} {e : M} {vs : List Nat}
    (h : W (mi ρ) fun ds ρ1 => ds = xs.map u ∧ xs.length ≤ 1000000 ∧ QD (.list (xs.filterMap F)) ρ1 ∧ ∀ x, x ∈ xs → ∃ ρ2, g (u x) (wipeE ρ1 vs) = some ρ2 ∧ W (t ρ2) fun b ρ2 => if b = true then W (e ρ2) fun y ρ3 => F x = some y ∧ wipeE ρ3 vs = wipeE ρ1 vs else F x = none ∧ wipeE ρ2 vs = wipeE ρ1 vs) :
    W (mLc mi g t e vs ρ) QD := by
  obtain ⟨ds, ρ1, e1, rfl, hl, q, hs⟩ := h
  obtain ⟨ρ', h1, h2⟩ := lcL (acc := []) (ρ := ρ1) rfl hs (by rw [List.length_nil]; omega)
  refine ⟨.list (xs.filterMap F), ρ1, ?_, q⟩
  unfold mLc
  rw [e1]
  show (mLcL (xs.map u) g t e vs [] ρ1).map _ = _
  rw [h1]
  show some (PyData.list _, restE ρ1 vs ρ') = _
  rw [rest_same h2]
  rfl
/-- [e for x in xs] -/
theorem W_lc {τ : Type} (u : τ → D) (F : τ → D) (xs : List τ) {mi : MI} {g : MG} {e : M} {vs : List Nat}
    (h : W (mi ρ) fun ds ρ1 => ds = xs.map u ∧ xs.length ≤ 1000000 ∧ QD (.list (xs.map F)) ρ1 ∧ ∀ x, x ∈ xs → ∃ ρ2, g (u x) (wipeE ρ1 vs) = some ρ2 ∧ W (e ρ2) fun y ρ3 => y = F x ∧ wipeE ρ3 vs = wipeE ρ1 vs) :
    W (mLc mi g mYes e vs ρ) QD := by
  refine W_lcF u (fun x => some (F x)) xs (h.mono fun ds ρ1 ⟨a, b, c, k⟩ => ⟨a, b, by rw [List.filterMap_eq_map']; exact c, fun x m => ?_⟩)
  obtain ⟨ρ2, e1, q⟩ := k x m
  refine ⟨ρ2, e1, W_some.mpr ?_⟩
  rw [if_pos rfl]
  exact q.mono fun y ρ3 q => ⟨congrArg some q.1.symm, q.2⟩
theorem lc2L {τ : Type} {u : τ → D} {G : τ → List D} {g g1 : MG} {t1 : MT} {mi1 : MI} {e : M} {vs vs1 : List Nat} {B : En} : ∀ {xs : List τ} {acc : List D} {ρ : En}, wipeE ρ vs = B →
    (∀ x, x ∈ xs → ∀ acc : List D, acc.length + (G x).length ≤ 1000000 → ∃ ρ1, g (u x) B = some ρ1 ∧ W (mi1 ρ1) fun zs ρ2 => ∃ ρ3, mLcL zs g1 t1 e vs1 acc ρ2 = some (acc ++ G x, ρ3) ∧ wipeE ρ3 vs = B) →
    acc.length + (xs.flatMap G).length ≤ 1000000 → ∃ ρ', mLc2L (xs.map u) g mYes mi1 g1 t1 e vs vs1 acc ρ = some (acc ++ xs.flatMap G, ρ') ∧ wipeE ρ' vs = B
  | [], acc, ρ, hw, _, _ => ⟨ρ, by rw [List.flatMap_nil, List.append_nil]; rfl, hw⟩
  | x :: xs, acc, ρ, hw, hs, hl => by
    rw [List.flatMap_cons, List.length_append] at hl
    obtain ⟨ρ1, e1, zs, ρ2, e2, ρ3, e3, e4⟩ := hs x List.mem_cons_self acc (by omega)
    obtain ⟨ρ', h3, h4⟩ := lc2L (xs := xs) (acc := acc ++ G x) (ρ := ρ3) e4 (fun x m => hs x (List.mem_cons_of_mem _ m)) (by rw [List.length_append]; omega)
    refine ⟨ρ', ?_, h4⟩
    show (g (u x) (wipeE ρ vs)).bind _ = _
    rw [hw, e1]
    show (mi1 ρ1).bind _ = _
    rw [e2]
    show (mLcL zs g1 t1 e vs1 acc ρ2).bind _ = _
    rw [e3]
    show mLc2L (xs.map u) g mYes mi1 g1 t1 e vs vs1 (acc ++ G x) ρ3 = _
    rw [h3, List.append_assoc, List.flatMap_cons]
/-- [e for x in xs for y in ys] -/
theorem W_lc2 {τ υ : Type} (u : τ → D) (ys : τ → List υ) (v : υ → D) (F : τ → υ → D) (xs : List τ) {mi mi1 : MI} {g g1 : MG} {e : M} {vs vs1 : List Nat} (hv : ∀ i, i ∈ vs1 → i ∈ vs)
    (h : W (mi ρ) fun ds ρ1 => ds = xs.map u ∧ (xs.flatMap fun x => (ys x).map (F x)).length ≤ 1000000 ∧ QD (.list (xs.flatMap fun x => (ys x).map (F x))) ρ1 ∧ ∀ x, x ∈ xs → ∃ ρ2, g (u x) (wipeE ρ1 vs) = some ρ2 ∧ W (mi1 ρ2) fun zs ρ3 => zs = (ys x).map v ∧ wipeE ρ3 vs = wipeE ρ1 vs ∧
      ∀ y, y ∈ ys x → ∃ ρ4, g1 (v y) (wipeE ρ3 vs1) = some ρ4 ∧ W (e ρ4) fun z ρ5 => z = F x y ∧ wipeE ρ5 vs1 = wipeE ρ3 vs1) :
    W (mLc2 mi g mYes mi1 g1 mYes e vs vs1 ρ) QD := by
  obtain ⟨ds, ρ1, e1, rfl, hl, q, hs⟩ := h
  obtain ⟨ρ', h1, h2⟩ := lc2L (G := fun x => (ys x).map (F x)) (acc := []) (ρ := ρ1) (g := g) (mi1 := mi1) (g1 := g1) (t1 := mYes) (e := e) (vs := vs) (vs1 := vs1) (xs := xs) (u := u) rfl (fun x m acc ha => by
    obtain ⟨ρ2, e2, zs, ρ3, e3, rfl, e4, e5⟩ := hs x m
    refine ⟨ρ2, e2, _, ρ3, e3, ?_⟩
    obtain ⟨ρ4, h3, h4⟩ := lcL (xs := ys x) (u := v) (F := fun y => some (F x y)) (g := g1) (t := mYes) (e := e) (vs := vs1) (acc := acc) (ρ := ρ3) rfl (fun y my => by
      obtain ⟨ρ4, h5, h6⟩ := e5 y my
      refine ⟨ρ4, h5, W_some.mpr ?_⟩
      rw [if_pos rfl]
      exact h6.mono fun z ρ5 q => ⟨congrArg some q.1.symm, q.2⟩) (by rw [List.length_map] at ha; exact ha)
    refine ⟨ρ4, by rw [List.filterMap_eq_map'] at h3; exact h3, ?_⟩
    rw [← wipeE_sub (us := vs1) hv, h4, wipeE_sub hv, e4]) (by rw [List.length_nil, Nat.zero_add]; exact hl)
  refine ⟨_, ρ1, ?_, q⟩
  unfold mLc2
  rw [e1]
  show (mLc2L (xs.map u) g mYes mi1 g1 mYes e vs vs1 [] ρ1).map _ = _
  rw [h1]
  show some (PyData.list _, restE ρ1 vs ρ') = _
  rw [rest_same h2]
  rfl
end
end DL

/-! P75a: the draws. -/
namespace DL
open PySem PySem.Spec PyProof.Rows L2

abbrev dI (i : Int) : D := .int i
abbrev dL (ns : List Int) : D := .list (ns.map PyData.int)
/-- the script's town behind at most k draws -/
def Town (ns : List Int) (k : Nat) (t : D) : Prop := ∃ (c : Int) (cs : List Int), t = dL (c :: cs) ∧ 0 ≤ c ∧ c ≤ k ∧ cs.length = ns.length
theorem Town.up {ns : List Int} {k k' : Nat} {t : D} (h : Town ns k t) (hk : k ≤ k') : Town ns k' t := by
  obtain ⟨c, cs, e, h1, h2, h3⟩ := h
  exact ⟨c, cs, e, h1, by omega, h3⟩
theorem map_set_int {ns : List Int} {n : Nat} {i : Int} : (ns.map PyData.int).set n (.int i) = (ns.set n i).map PyData.int := by
  rw [List.map_set]
theorem atI_ints {ns : List Int} {i : Int} (h0 : 0 ≤ i) (h1 : i < ns.length) : atI (ns.map PyData.int) i = some (.int (ns.getD i.toNat 0)) := by
  have e : i = (i.toNat : Int) := by omega
  have hl : i.toNat < ns.length := by omega
  rw [e, atI_nat (v := .int (ns.getD i.toNat 0))]
  · rfl
  · rw [List.getElem?_map, List.getD_eq_getElem?_getD, List.getElem?_eq_getElem hl]
    rfl
theorem ixN_int {n : Nat} {i : Int} (h0 : 0 ≤ i) (h1 : i < n) : ixN n i = some i.toNat := by
  have e : i = (i.toNat : Int) := by omega
  conv => lhs; rw [e]
  unfold ixN
  rw [if_pos (by omega), if_pos (by omega)]
  show some (i.toNat : Int).toNat = _
  rw [Int.toNat_natCast]
theorem town_ok {ns : List Int} (hn : ns.length ≤ 63) : W (f__law_town [some (dL ns)]) fun d out => out = [none] ∧ Town ns 0 d := by
  unfold f__law_town m__law_town
  rw [W_fn]
  simp
  exact ⟨by omega, 0, ns, rfl, by omega, by omega, rfl⟩
theorem draw_ok {ns : List Int} {k : Nat} {t : D} {many : Int} (hT : Town ns k t) (hk : k < 1000000) (hm : 0 < many) (hM : many < 1073741824) :
    W (f__law_draw [some (dL ns), some t, some (dI many)]) fun d out => ∃ r t', d = .int r ∧ 0 ≤ r ∧ r < many ∧ out = [none, some t', none] ∧ Town ns (k + 1) t' := by
  obtain ⟨c, cs, rfl, h1, h2, h3⟩ := hT
  have modlt : ∀ x : Int, 0 ≤ x % many ∧ x % many < many := fun x => ⟨Int.emod_nonneg _ (by omega), Int.emod_lt_of_pos _ hm⟩
  generalize hQ : (fun (d : D) (out : En) => ∃ r t', d = .int r ∧ 0 ≤ r ∧ r < many ∧ out = [none, some t', none] ∧ Town ns (k + 1) t') = Q
  have fin : ∀ (x : Int) (cs' : List Int), cs'.length = ns.length → Q (.int (x % many)) [none, some (dL ((c + 1) :: cs')), none] := fun x cs' hl => by
    rw [← hQ]
    exact ⟨_, _, rfl, (modlt x).1, (modlt x).2, rfl, c + 1, cs', rfl, by omega, by omega, hl⟩
  have finL : ∀ (x : Int) (ds : List D) (cs' : List Int), ds = cs'.map PyData.int → cs'.length = ns.length → Q (.int (x % many)) [none, some (.list (.int (c + 1) :: ds)), none] := fun x ds cs' e hl => by
    rw [e]
    exact fin x cs' hl
  unfold f__law_draw m__law_draw
  rw [W_fn, W_seq]
  simp
  rw [W_seq]
  simp [dEq_nil Eq0.ints]
  cases ns with
  | nil =>
    simp [hm]
    refine ⟨mulOk_of (by omega) (by omega), mulOk_of ?_ (by omega), finL _ _ cs rfl h3⟩
    rw [Int.natAbs_mul]
    exact Nat.lt_of_le_of_lt (Nat.mul_le_mul (show (c + 1).natAbs ≤ 1000001 by omega) (show (c + 1).natAbs ≤ 1000001 by omega)) (by decide)
  | cons n0 ns0 =>
    have hl : (0 : Int) < ↑ns0.length + 1 := by omega
    have hl3 : cs.length = ns0.length + 1 := h3
    simp
    rw [W_seq]
    simp [hl]
    have p1 := Int.emod_nonneg (c + 1) (show ((ns0.length : Int) + 1) ≠ 0 by omega)
    have p2 := Int.emod_lt_of_pos (c + 1) hl
    generalize (c + 1) % ((ns0.length : Int) + 1) = at_ at p1 p2 ⊢
    have h5 : atI (PyData.int (c + 1) :: cs.map PyData.int) (1 + at_) = some (.int (((c + 1) :: cs).getD (1 + at_).toNat 0)) := atI_ints (ns := (c + 1) :: cs) (by omega) (by rw [List.length_cons]; omega)
    generalize ((c + 1) :: cs).getD (1 + at_).toNat 0 = left at h5
    have h6 : atI (PyData.int n0 :: ns0.map PyData.int) at_ = some (.int ((n0 :: ns0).getD at_.toNat 0)) := atI_ints (ns := n0 :: ns0) (by omega) (by rw [List.length_cons]; omega)
    generalize (n0 :: ns0).getD at_.toNat 0 = cell at h6
    rw [W_seq]
    simp [h5]
    rw [W_seq]
    simp [h6]
    have rest : ∀ ρ : En, ρ = [some (dL (n0 :: ns0)), some (.list (.int (c + 1) :: cs.map PyData.int)), some (dI many), some (dI at_), some (dI left), none] → W (mSeq (mSet 5 (m2 (.fz) (.fz) (m2 (.fz) (.fz) (m2 (.fz) (.fz) (mVar 0) (mVar 3) dIx) (m2 (.fz) (.fz) (mC (.int 104729)) (m2 (.br 1) (.fz) (mBr 1) (mC (.int 0)) dIx) dMul) dAdd) (mC (.int 4294967291)) dMod))
  (mSeq (mSet 5 (m2 (.fz) (.fz) (m2 (.fz) (.fz) (mVar 5) (mC (.int 5)) dPow) (mC (.int 4294967279)) dMod))
  (mRet (m2 (.fz) (.fz) (m2 (.fz) (.fz) (m2 (.fz) (.fz) (m2 (.fz) (.fz) (m2 (.fz) (.fz) (m2 (.fz) (.fz) (mVar 5) (mC (.int 64)) dDiv) (mC (.int 69621)) dMul) (mVar 5) dAdd) (mC (.int 4294967231)) dMod) (mC (.int 8)) dDiv) (mVar 2) dMod))) ρ) (fnK [.fz, .io, .fz] .fz Q) := by
      rintro ρ rfl
      rw [W_seq]
      simp [h6]
      have q1 := Int.emod_nonneg (cell + 104729 * (c + 1)) (show (4294967291 : Int) ≠ 0 by decide)
      have q2 := Int.emod_lt_of_pos (cell + 104729 * (c + 1)) (show (0 : Int) < 4294967291 by decide)
      generalize (cell + 104729 * (c + 1)) % 4294967291 = x at q1 q2 ⊢
      refine ⟨mulOk_of (by omega) (by omega), ?_⟩
      rw [W_seq]
      simp
      refine ⟨by omega, ?_⟩
      have q3 := Int.emod_nonneg (x ^ 5) (show (4294967279 : Int) ≠ 0 by decide)
      have q4 := Int.emod_lt_of_pos (x ^ 5) (show (0 : Int) < 4294967279 by decide)
      generalize x ^ 5 % 4294967279 = y at q3 q4 ⊢
      simp [hm]
      exact ⟨mulOk_of (by omega) (by omega), finL _ _ cs rfl h3⟩
    by_cases z1 : (10 : Int) ^ 18 ≤ cell <;> by_cases z2 : (0 : Int) < left
    all_goals simp at z1
    all_goals simp [z1, z2]
    · refine .inr (.inr ?_)
      rw [W_seq]
      simp [hm, hM]
      refine ⟨(1 + at_).toNat, ixN_int (by omega) (by omega), ?_⟩
      have e : (1 + at_).toNat = at_.toNat + 1 := by omega
      rw [e, List.set_cons_succ, map_set_int]
      exact finL _ _ _ rfl (by rw [List.length_set]; exact h3)
    all_goals first | exact rest _ rfl | exact .inl (rest _ rfl) | exact .inl ⟨by omega, rest _ rfl⟩ | exact .inr ⟨by omega, rest _ rfl⟩ | exact .inr (.inl ⟨by omega, rest _ rfl⟩)
theorem pick_ok {ns : List Int} {k : Nat} {t : D} {some_ : List Int} (hT : Town ns k t) (hk : k < 1000000) (hm : 0 < some_.length) (hM : some_.length < 1073741824) :
    W (f__law_pick [some (dL ns), some t, some (dL some_)]) fun d out => ∃ r t', d = .int r ∧ r ∈ some_ ∧ out = [none, some t', none] ∧ Town ns (k + 1) t' := by
  unfold f__law_pick m__law_pick
  rw [W_fn]
  simp
  refine (draw_ok hT hk (many := some_.length) (by omega) (by omega)).mono fun d out ⟨r, t', e1, h1, h2, e2, h3⟩ => ?_
  subst e1 e2
  simp
  refine ⟨_, atI_ints h1 h2, _, rfl, ?_, h3⟩
  rw [List.getD_eq_getElem?_getD, List.getElem?_eq_getElem (by omega)]
  exact List.getElem_mem _
end DL

/-! P75b: digits, numbers packed and unpacked. -/
namespace DL
open PySem PySem.Spec PyProof.Rows L2

/-! ### digits -/
def preN (n : Nat) : List Int := if h : n = 0 then [] else preN (n / 64) ++ [((n % 64 : Nat) : Int) + 64]
termination_by n
decreasing_by exact Nat.div_lt_self (by omega) (by decide)
theorem preN_zero : preN 0 = [] := by rw [preN]; rfl
theorem preN_pos {n : Nat} (h : n ≠ 0) : preN n = preN (n / 64) ++ [((n % 64 : Nat) : Int) + 64] := by
  rw [preN, dif_neg h]
theorem preN_len : ∀ n : Nat, (preN n).length ≤ n := fun n => by
  induction n using Nat.strongRecOn with
  | ind n ih =>
    by_cases h : n = 0
    · rw [h, preN_zero]
      exact Nat.le_refl _
    · rw [preN_pos h, List.length_append, List.length_singleton]
      have := ih (n / 64) (by omega)
      omega
def enc (n : Nat) : List Int := preN (n / 64) ++ [((n % 64 : Nat) : Int)]
theorem enc_len (n : Nat) : (enc n).length ≤ n + 1 := by
  unfold enc
  rw [List.length_append, List.length_singleton]
  have := preN_len (n / 64)
  omega
theorem pack_number_ok {n : Nat} (hn : n < 100000) : W (f_pack_number [some (dI n)]) fun d out => d = dL (enc n) ∧ out = [none] := by
  unfold f_pack_number m_pack_number
  rw [W_fn, W_seq]
  simp
  rw [W_seq]
  refine W_while (fun k ρ => ∃ (m : Nat) (found : List Int), k = m ∧ found.length + m ≤ n + 1 ∧ ρ = [some (dI m), some (dL found)] ∧ enc n = preN (m / 64) ++ found.reverse) ?_ (n := n) ⟨n, [((n % 64 : Nat) : Int)], rfl, ?_, ?_, ?_⟩
  · rintro m ρ ⟨_, found, rfl, h1, rfl, h2⟩
    simp
    by_cases h : 64 ≤ m
    · have h' : (64 : Int) ≤ m := by omega
      refine .inr ⟨h', ?_⟩
      rw [W_seq]
      simp
      refine ⟨by omega, m / 64, by omega, found ++ [((m / 64 % 64 : Nat) : Int) + 64], ?_, ?_, ?_⟩
      · rw [List.length_append, List.length_singleton]
        omega
      · simp
      · rw [h2, preN_pos (n := m / 64) (by omega)]
        simp
    · have h' : ¬ (64 : Int) ≤ m := by omega
      refine .inl ⟨by omega, ?_⟩
      rw [h2, show m / 64 = 0 by omega, preN_zero]
      simp
  · rw [List.length_singleton]
    omega
  · simp
  · rfl
theorem parts_ok {n : Nat} (hn : n < 100000) : W (f__law_parts [some (dI n)]) fun d out => d = dL (enc n) ∧ out = [none] := by
  unfold f__law_parts m__law_parts
  rw [W_fn, W_seq]
  simp
  rw [W_seq]
  refine W_while (fun k ρ => ∃ (m : Nat) (found : List Int), k = m ∧ found.length + m ≤ n + 1 ∧ ρ = [some (dI m), some (dL found)] ∧ enc n = preN (m / 64) ++ found) ?_ (n := n) ⟨n, [((n % 64 : Nat) : Int)], rfl, ?_, ?_, ?_⟩
  · rintro m ρ ⟨_, found, rfl, h1, rfl, h2⟩
    simp
    by_cases h : 64 ≤ m
    · have h' : (64 : Int) ≤ m := by omega
      refine .inr ⟨h', ?_⟩
      rw [W_seq]
      simp
      refine ⟨by omega, m / 64, by omega, (64 + ((m / 64 % 64 : Nat) : Int)) :: found, ?_, ?_, ?_⟩
      · rw [List.length_cons]
        omega
      · simp
      · rw [h2, preN_pos (n := m / 64) (by omega), List.append_assoc, Int.add_comm 64]
        rfl
    · have h' : ¬ (64 : Int) ≤ m := by omega
      refine .inl ⟨by omega, ?_⟩
      rw [h2, show m / 64 = 0 by omega, preN_zero]
      simp
  · rw [List.length_singleton]
    omega
  · simp
  · rfl
def dN (n : Nat) : D := .int n
abbrev dNs (ns : List Nat) : D := .list (ns.map dN)
theorem pack_all_ok {ns : List Nat} (hn : ∀ n, n ∈ ns → n < 100000) (hl : (ns.flatMap enc).length ≤ 1000000) (hl2 : ns.length ≤ 1000000) : W (f_pack_all [some (dNs ns)]) fun d out => d = dL (ns.flatMap enc) ∧ out = [none] := by
  unfold f_pack_all m_pack_all
  rw [W_fn]
  simp
  have e : (ns.flatMap fun x => (enc x).map PyData.int) = (ns.flatMap enc).map PyData.int := by rw [List.map_flatMap]
  refine W_lc2 dN enc PyData.int (fun _ y => .int y) ns (by decide) ?_
  simp
  rw [e]
  refine ⟨by simpa using hl, by simp, fun x hx => (pack_number_ok (hn x hx)).mono fun d out q => ?_⟩
  obtain ⟨rfl, rfl⟩ := q
  simp
end DL

/-! P75c: numbers unpacked. -/
namespace DL
open PySem PySem.Spec PyProof.Rows L2

def urun : List Int → List Nat → Nat → Bool → Option (List Nat × Nat × Bool)
  | [], f, a, fr => some (f, a, fr)
  | p :: ps, f, a, fr => if 0 ≤ p ∧ p < 128 ∧ ¬ (fr = true ∧ p = 64) ∧ a < 1000000 ∧ f.length < 1000000 then (if p < 64 then urun ps (f ++ [a * 64 + p.toNat % 64]) 0 true else urun ps f (a * 64 + p.toNat % 64) false) else none
theorem urun_cons {p : Int} {ps : List Int} {f : List Nat} {a : Nat} {fr : Bool} : urun (p :: ps) f a fr = if 0 ≤ p ∧ p < 128 ∧ ¬ (fr = true ∧ p = 64) ∧ a < 1000000 ∧ f.length < 1000000 then (if p < 64 then urun ps (f ++ [a * 64 + p.toNat % 64]) 0 true else urun ps f (a * 64 + p.toNat % 64) false) else none := by
  conv => lhs; unfold urun
theorem urun_app : ∀ {ps qs : List Int} {f : List Nat} {a : Nat} {fr : Bool} {g : List Nat} {b : Nat} {gr : Bool}, urun ps f a fr = some (g, b, gr) → urun (ps ++ qs) f a fr = urun qs g b gr
  | [], qs, f, a, fr, g, b, gr, h => by
    cases h
    rfl
  | p :: ps, qs, f, a, fr, g, b, gr, h => by
    show urun (p :: (ps ++ qs)) f a fr = _
    rw [urun_cons] at h ⊢
    split at h
    · rename_i hc
      rw [if_pos hc]
      split at h
      · rename_i hp
        rw [if_pos hp]
        exact urun_app h
      · rename_i hp
        rw [if_neg hp]
        exact urun_app h
    · cases h
theorem urun_hi {f : List Nat} {a k : Nat} {fr : Bool} (hk : k < 64) (hz : fr = true → k ≠ 0) (ha : a < 1000000) (hf : f.length < 1000000) : urun [(k : Int) + 64] f a fr = some (f, a * 64 + k, false) := by
  unfold urun
  rw [if_pos ⟨by omega, by omega, fun h => hz h.1 (by have := h.2; omega), ha, hf⟩, if_neg (by omega)]
  unfold urun
  rw [show ((k : Int) + 64).toNat % 64 = k by omega]
theorem urun_lo {f : List Nat} {a k : Nat} {fr : Bool} (hk : k < 64) (ha : a < 1000000) (hf : f.length < 1000000) : urun [(k : Int)] f a fr = some (f ++ [a * 64 + k], 0, true) := by
  unfold urun
  rw [if_pos ⟨by omega, by omega, fun h => by have := h.2; omega, ha, hf⟩, if_pos (by omega)]
  unfold urun
  rw [show (k : Int).toNat % 64 = k by omega]
theorem urun_pre {f : List Nat} (hf : f.length < 1000000) : ∀ m : Nat, 0 < m → m < 1000000 → urun (preN m) f 0 true = some (f, m, false) := fun m => by
  induction m using Nat.strongRecOn with
  | ind m ih =>
    intro h0 h1
    rw [preN_pos (by omega)]
    by_cases h : m / 64 = 0
    · rw [h, preN_zero, List.nil_append, urun_hi (by omega) (fun _ => by omega) (by omega) hf]
      rw [show 0 * 64 + m % 64 = m by omega]
    · rw [urun_app (ih (m / 64) (by omega) (by omega) (by omega)), urun_hi (by omega) (fun z => by cases z) (by omega) hf]
      rw [show m / 64 * 64 + m % 64 = m by omega]
theorem urun_enc {f : List Nat} {n : Nat} (hf : f.length < 1000000) (hn : n < 100000) : urun (enc n) f 0 true = some (f ++ [n], 0, true) := by
  unfold enc
  by_cases h : n / 64 = 0
  · rw [h, preN_zero, List.nil_append, urun_lo (by omega) (by omega) hf, show 0 * 64 + n % 64 = n by omega]
  · rw [urun_app (urun_pre hf (n / 64) (by omega) (by omega)), urun_lo (by omega) (by omega) hf, show n / 64 * 64 + n % 64 = n by omega]
theorem urun_all : ∀ {ns f : List Nat}, (∀ n, n ∈ ns → n < 100000) → f.length + ns.length ≤ 1000000 → urun (ns.flatMap enc) f 0 true = some (f ++ ns, 0, true)
  | [], f, _, _ => by
    rw [List.flatMap_nil, List.append_nil]
    rfl
  | n :: ns, f, h, hl => by
    have hl : f.length + (ns.length + 1) ≤ 1000000 := hl
    rw [List.flatMap_cons, urun_app (urun_enc (by omega) (h n List.mem_cons_self)), urun_all (fun m hm => h m (List.mem_cons_of_mem _ hm)) (by rw [List.length_append, List.length_singleton]; omega), List.append_assoc]
    rfl
theorem dNs_ints (ns : List Nat) : dNs ns = dL (ns.map fun n : Nat => (n : Int)) := by
  show PyData.list _ = PyData.list _
  rw [List.map_map]
  rfl
theorem unpack_all_ok {ns : List Nat} (hn : ∀ n, n ∈ ns → n < 100000) (hl : ns.length ≤ 1000000) : W (f_unpack_all [some (dL (ns.flatMap enc))]) fun d out => d = dNs ns ∧ out = [none] := by
  unfold f_unpack_all m_unpack_all
  rw [W_fn, W_seq]
  simp
  rw [W_seq]
  simp
  rw [W_seq]
  simp
  rw [W_seq]
  simp
  rw [W_seq, W_for]
  simp
  refine W_forL (fun rem ρ => ∃ (ps : List Int) (f : List Nat) (a : Nat) (fr : Bool) (x : Option D), rem = ps.map PyData.int ∧ ρ = [some (dL (ns.flatMap enc)), some (dNs f), some (dI a), some (.bool fr), x] ∧ urun ps f a fr = some (ns, 0, true)) ?_ ?_ ⟨ns.flatMap enc, [], 0, true, none, by rw [List.map_flatMap], rfl, urun_all hn (by simpa using hl)⟩
  · rintro d r ρ ⟨ps, f, a, fr, x, e1, rfl, e2⟩
    cases ps with
    | nil => cases e1
    | cons p ps =>
      cases e1
      rw [urun_cons] at e2
      split at e2
      · rename_i hc
        obtain ⟨c1, c2, c3, c4, c5⟩ := hc
        refine ⟨_, mgN_e, W_hold fun K hK => ?_⟩
        have main : ∀ ρ : En, ρ = [some (dL (ns.flatMap enc)), some (dNs f), some (dI a), some (.bool fr), some (dI p)] → (∀ (f' : List Nat) (a' : Nat) (fr' : Bool), urun ps f' a' fr' = some (ns, 0, true) → K .nx [some (dL (ns.flatMap enc)), some (dNs f'), some (dI a'), some (.bool fr'), some (dI p)]) →
            W (mSeq (mSet 2 (m2 (.fz) (.fz) (m2 (.fz) (.fz) (mVar 2) (mC (.int 64)) dMul) (m2 (.fz) (.fz) (mVar 4) (mC (.int 64)) dMod) dAdd)) (mSeq (mSet 3 (m2 (.fz) (.fz) (mVar 4) (mC (.int 64)) dLt)) (mIte (mTr (mVar 3)) (mSeq (mDrop (mMut 1 "list" (maCons (mVar 2) maNil) dAppend)) (mSet 2 (mC (.int 0)))) mSkip)) ρ) K := by
          rintro ρ rfl hk
          have en : ((a * 64 + p.toNat % 64 : Nat) : Int) = (a : Int) * 64 + p % 64 := by omega
          rw [W_seq]
          simp
          refine ⟨mulOk_of (by omega) (by decide), ?_⟩
          rw [W_seq]
          simp
          by_cases hp : p < 64
          · rw [if_pos hp] at e2
            simp [hp]
            rw [W_seq]
            simp
            refine .inr ⟨c5, ?_⟩
            have z := hk _ _ _ e2
            have z2 : dNs (f ++ [a * 64 + p.toNat % 64]) = PyData.list (f.map dN ++ [PyData.int ((a : Int) * 64 + p % 64)]) := by
              show PyData.list _ = _
              rw [List.map_append, ← en]
              rfl
            rw [z2] at z
            exact z
          · rw [if_neg hp] at e2
            have z := hk _ _ _ e2
            simp [hp]
            refine ⟨by omega, ?_⟩
            rw [en] at z
            exact z
        have k1 : ∀ (f' : List Nat) (a' : Nat) (fr' : Bool), urun ps f' a' fr' = some (ns, 0, true) → K .nx [some (dL (ns.flatMap enc)), some (dNs f'), some (dI a'), some (.bool fr'), some (dI p)] := fun f' a' fr' e => hK _ _ ⟨ps, f', a', fr', _, rfl, rfl, e⟩
        rw [W_seq]
        simp
        refine ⟨c1, mulOk_of (by decide) (by decide), c2, ?_⟩
        cases fr with
        | false => exact .inl ⟨rfl, main _ rfl k1⟩
        | true => exact .inr ⟨rfl, fun z => c3 ⟨rfl, z⟩, main _ rfl k1⟩
      · cases e2
  · rintro ρ ⟨ps, f, a, fr, x, e1, rfl, e2⟩
    cases ps with
    | cons p ps => cases e1
    | nil =>
      cases e2
      simp
      rw [W_seq]
      simp
end DL

/-! P75d: entries, lines, tables. -/
namespace DL
open PySem PySem.Spec PyProof.Rows L2

structure E4 where
  b : Nat
  e : Nat
  g : Nat
  d : Nat
def eD (x : E4) : D := .tuple [dN x.b, dN x.e, dN x.g, dN x.d]
structure Valid (x : E4) : Prop where
  be : x.b < x.e
  e9 : x.e ≤ 9999
  g9 : x.g ≤ 9999
  d9 : x.d ≤ 999
def Rise : Nat → List E4 → Prop
  | _, [] => True
  | lo, x :: xs => lo ≤ x.b ∧ Rise x.e xs
def nums (x : E4) : List Nat := [x.b, x.e - x.b, x.g, x.d]
theorem is_number_ok {x a b : Int} (h1 : a ≤ x) (h2 : x ≤ b) : W (f_is_number [some (dI x), some (dI a), some (dI b)]) fun d out => d = .bool true ∧ out = [none, none, none] := by
  unfold f_is_number m_is_number
  rw [W_fn]
  simp [h1, h2]
theorem is_entry_ok {x : E4} (h : Valid x) : W (f_is_entry [some (eD x), some (dI 9999)]) fun d out => d = .bool true ∧ out = [none, none] := by
  obtain ⟨h1, h2, h3, h4⟩ := h
  unfold f_is_entry m_is_entry
  rw [W_fn]
  refine W_hold fun K hK => ?_
  rw [W_seq]
  simp [eD, dN]
  refine (is_number_ok (by omega) (by omega)).mono fun d out ⟨e1, e2⟩ => ?_
  subst e1 e2
  simp
  refine (is_number_ok (by omega) (by omega)).mono fun d out ⟨e1, e2⟩ => ?_
  subst e1 e2
  simp
  refine (is_number_ok (by omega) (by omega)).mono fun d out ⟨e1, e2⟩ => ?_
  subst e1 e2
  simp
  refine (is_number_ok (by omega) (by omega)).mono fun d out ⟨e1, e2⟩ => ?_
  subst e1 e2
  exact hK _ _ ⟨rfl, rfl⟩
/-- the pairs of neighbours -/
theorem zipD_map {τ υ : Type} (f : τ → D) (g : υ → D) : ∀ (xs : List τ) (ys : List υ), zipD (xs.map f) (ys.map g) = (xs.zip ys).map fun p => .tuple [f p.1, g p.2]
  | [], _ => rfl
  | _ :: _, [] => rfl
  | x :: xs, y :: ys => congrArg (PyData.tuple [f x, g y] :: ·) (zipD_map f g xs ys)
theorem rise_zip : ∀ {xs : List E4} {lo : Nat}, Rise lo xs → ∀ p, p ∈ xs.zip xs.tail → p.1.e ≤ p.2.b
  | [], _, _, p, hp => by simp at hp
  | [x], _, _, p, hp => by simp at hp
  | x :: y :: xs, lo, h, p, hp => by
    rcases List.mem_cons.mp (show p ∈ (x, y) :: (y :: xs).zip (y :: xs).tail from hp) with e | e
    · rw [e]
      exact h.2.1
    · exact rise_zip (xs := y :: xs) h.2 p e
theorem cutG_1 {α : Type} {xs : List α} : cutG xs (some 1) none = xs.drop 1 := by
  unfold cutG
  rw [show HT.sIx xs.length 0 (some 1) = min 1 xs.length from HT.sIx_nat _ _ 1, HT.sIx_none]
  rw [List.take_of_length_le (by rw [List.length_drop]; omega)]
  cases xs with
  | nil => rfl
  | cons x xs => rw [show min 1 (x :: xs).length = 1 by rw [List.length_cons]; omega]
theorem all_true {n : Nat} : dAll [.list (List.replicate n (.bool true))] = some (.bool true) := by
  have e : List.replicate n (PyData.bool true) = (List.replicate n true).map PyData.bool := by rw [List.map_replicate]
  rw [e, dAll_b]
  simp
theorem map_true {τ : Type} (xs : List τ) : (xs.map fun _ => PyData.bool true) = List.replicate xs.length (.bool true) := by
  induction xs with
  | nil => rfl
  | cons x xs ih => exact congrArg (PyData.bool true :: ·) ih
theorem flat_len : ∀ (ns : List Nat) (b : Nat), (∀ n, n ∈ ns → n ≤ b) → (ns.flatMap enc).length ≤ ns.length * (b + 1)
  | [], _, _ => by simp
  | n :: ns, b, h => by
    have a := flat_len ns b fun n m => h n (List.mem_cons_of_mem _ m)
    have c := enc_len n
    have e := h n List.mem_cons_self
    rw [List.flatMap_cons, List.length_append, List.length_cons, Nat.succ_mul]
    omega
theorem look_table_ok {xs : List E4} {lo : Nat} (hv : ∀ x, x ∈ xs → Valid x) (hr : Rise lo xs) (hl : xs.length ≤ 1000) : W (f_look_table [some (.tuple (xs.map eD))]) fun d out => d = .none ∧ out = [none] := by
  unfold f_look_table m_look_table
  rw [W_fn]
  refine W_hold fun K hK => ?_
  rw [W_seq]
  simp
  refine W_lc eD (fun _ => .bool true) xs ?_
  simp
  rw [map_true, all_true]
  refine ⟨by omega, ?_, fun x hx => (is_entry_ok (hv x hx)).mono fun d out ⟨e1, e2⟩ => ?_⟩
  · simp
    refine W_lc (fun p : E4 × E4 => .tuple [eD p.1, eD p.2]) (fun _ => .bool true) (xs.zip (xs.drop 1)) ?_
    simp [cutG_1]
    refine ⟨_, (congrArg (fun ds => dZip2 [PyData.tuple (xs.map eD), .tuple ds]) (List.map_tail (f := eD) (l := xs)).symm).trans (congrArg some (zipD_map eD eD xs xs.tail)), rfl, by omega, ⟨_, by rw [map_true, all_true], rfl, hK _ _ ⟨rfl, rfl, rfl⟩⟩, fun a b hab => ?_⟩
    have hab := rise_zip hr _ hab
    simp [eD, dN]
    exact hab
  · subst e1 e2
    simp
theorem nums_len : ∀ xs : List E4, (xs.flatMap nums).length = 4 * xs.length
  | [] => rfl
  | x :: xs => by
    rw [List.flatMap_cons, List.length_append, nums_len xs, List.length_cons, Nat.mul_succ, Nat.add_comm]
    rfl
theorem pack_table_ok {xs : List E4} {lo : Nat} (hv : ∀ x, x ∈ xs → Valid x) (hr : Rise lo xs) (hl : xs.length ≤ 10) : W (f_pack_table [some (.tuple (xs.map eD))]) fun d out => d = dL ((xs.flatMap nums).flatMap enc) ∧ out = [none] := by
  have small : ∀ n, n ∈ xs.flatMap nums → n ≤ 9999 := fun n hn => by
    obtain ⟨x, hx, hn⟩ := List.mem_flatMap.mp hn
    obtain ⟨h1, h2, h3, h4⟩ := hv x hx
    simp [nums] at hn
    omega
  have len := nums_len xs
  have len2 : (xs.flatMap fun x => (nums x).map dN).length = 4 * xs.length := by
    rw [← List.map_flatMap, List.length_map, len]
  unfold f_pack_table m_pack_table
  rw [W_fn]
  refine W_hold fun K hK => ?_
  rw [W_seq]
  simp
  refine (look_table_ok hv hr (by omega)).mono fun d out ⟨e1, e2⟩ => ?_
  subst e1 e2
  simp
  refine W_lc2 eD nums dN (fun _ y => dN y) xs (by decide) ?_
  simp [-List.length_flatMap]
  refine ⟨Nat.le_trans (Nat.le_of_eq len2) (by omega), ?_, fun x hx => ?_⟩
  · have e : (xs.flatMap fun x => (nums x).map dN) = (xs.flatMap nums).map dN := by rw [List.map_flatMap]
    rw [e]
    refine (pack_all_ok (fun n hn => Nat.lt_of_le_of_lt (small n hn) (by decide)) ?_ (by omega)).mono fun d out ⟨e1, e2⟩ => ?_
    · have := flat_len (xs.flatMap nums) 9999 small
      rw [len] at this
      omega
    · subst e1 e2
      exact hK _ _ ⟨rfl, rfl⟩
  · have h := (hv x hx).be
    simp [eD, nums, dN]
    omega
end DL

/-! P75e: tables unpacked; lines. -/
namespace DL
open PySem PySem.Spec PyProof.Rows L2

theorem rngN_mul {c n : Nat} (hc : 0 < c) : rngN 0 ((c * n : Nat) : Int) (c : Int) = n ∧ Builtin.Range.rangeSize 0 ((c * n : Nat) : Int) (c : Int) = n := by
  have e : Builtin.Range.rangeSize 0 ((c * n : Nat) : Int) (c : Int) = n := by
    unfold Builtin.Range.rangeSize
    rw [if_pos (by omega)]
    by_cases h : n = 0
    · subst h
      simp
    · have hp : 0 < c * n := Nat.mul_pos hc (by omega)
      rw [if_pos (by omega)]
      have e2 : (((c * n : Nat) : Int) - 0 - 1) = ((c * n - 1 : Nat) : Int) := by omega
      rw [e2, ← Int.natCast_ediv]
      have e3 : (c * n - 1) / c = n - 1 := by
        have z : c * n - 1 = (c - 1) + c * (n - 1) := by
          obtain ⟨m, rfl⟩ : ∃ m, n = m + 1 := ⟨n - 1, by omega⟩
          rw [Nat.mul_succ, Nat.add_sub_cancel]
          omega
        rw [z, Nat.add_mul_div_left _ _ hc, Nat.div_eq_of_lt (by omega), Nat.zero_add]
      rw [e3]
      omega
  exact ⟨by unfold rngN; rw [e]; rfl, e⟩
theorem rngOk_mul {c n : Nat} (hc : 0 < c) (hc2 : c < 1000) (hn : c * n < 1000000) : rngOk 0 ((c * n : Nat) : Int) (c : Int) = true := by
  obtain ⟨e1, e2⟩ := rngN_mul (n := n) hc
  unfold rngOk
  rw [e1, e2, decide_eq_true (show (c : Int) ≠ 0 ∧ (c : Int).natAbs < 1073741824 by omega)]
  unfold Builtin.Range.small
  rw [e2]
  have h1 : n ≤ c * n := Nat.le_mul_of_pos_left n hc
  have hf : ∀ i : Int, 0 ≤ i → i < 10000000 → Builtin.Range.rangeFitsLong i = true := fun i h0 h1 => by
    unfold Builtin.Range.rangeFitsLong
    simp
    omega
  rw [hf 0 (by omega) (by omega), hf ((c * n : Nat) : Int) (by omega) (by omega), hf (c : Int) (by omega) (by omega), hf (n : Int) (by omega) (by omega), if_pos (by omega), hf _ (by omega) (by omega)]
  simp
/-- the turns of range(0, c * n, c), from the k-th on -/
def turns (c k n : Nat) : List D := (List.range' k n).map fun i : Nat => PyData.int ((i : Int) * c)
theorem dRngC_turns (c n : Nat) : dRngC 0 (c : Int) n = turns c 0 n := by
  unfold dRngC turns
  rw [List.range_eq_range']
  refine List.map_congr_left fun i _ => ?_
  rw [Int.zero_add]
theorem turns_succ (c k n : Nat) : turns c k (n + 1) = .int ((k : Int) * c) :: turns c (k + 1) n := rfl
theorem cutG_mid {α : Type} {as bs cs : List α} {a b : Int} (ha : a = as.length) (hb : b = as.length + bs.length) : cutG (as ++ (bs ++ cs)) (some a) (some b) = bs := by
  subst ha hb
  unfold cutG
  have e1 : HT.sIx (as ++ (bs ++ cs)).length 0 (some (as.length : Int)) = as.length := by
    rw [HT.sIx_nat, List.length_append]
    omega
  have e2 : HT.sIx (as ++ (bs ++ cs)).length (as ++ (bs ++ cs)).length (some ((as.length : Int) + bs.length)) = as.length + bs.length := by
    rw [← Int.natCast_add, HT.sIx_nat, List.length_append, List.length_append]
    omega
  rw [e1, e2, List.drop_left, Nat.add_sub_cancel_left, List.take_left]
theorem unpack_table_ok {xs : List E4} {lo : Nat} (hv : ∀ x, x ∈ xs → Valid x) (hr : Rise lo xs) (hl : xs.length ≤ 10) : W (f_unpack_table [some (dL ((xs.flatMap nums).flatMap enc))]) fun d out => d = .tuple (xs.map eD) ∧ out = [none] := by
  have small : ∀ n, n ∈ xs.flatMap nums → n < 100000 := fun n hn => by
    obtain ⟨x, hx, hn⟩ := List.mem_flatMap.mp hn
    obtain ⟨h1, h2, h3, h4⟩ := hv x hx
    simp [nums] at hn
    omega
  have len := nums_len xs
  unfold f_unpack_table m_unpack_table
  rw [W_fn]
  refine W_hold fun K hK => ?_
  rw [W_seq]
  simp
  refine (unpack_all_ok small (by omega)).mono fun d out ⟨e1, e2⟩ => ?_
  subst e1 e2
  simp
  rw [W_seq]
  simp [-List.length_flatMap, len]
  rw [W_seq]
  simp
  rw [W_seq, W_for]
  simp [-List.length_flatMap, len]
  refine ⟨_, _, _, ⟨rfl, rfl, rfl⟩, ?_, ?_⟩
  · exact rngOk_mul (c := 4) (n := xs.length) (by decide) (by decide) (by omega)
  rw [show rngN 0 (4 * (xs.length : Int)) 4 = xs.length from (rngN_mul (c := 4) (n := xs.length) (by decide)).1, show dRngC 0 4 xs.length = turns 4 0 xs.length from dRngC_turns 4 xs.length]
  refine W_forL (fun rem ρ => ∃ (ds rest : List E4) (x3 x4 x5 x6 x7 : Option D), xs = ds ++ rest ∧ rem = turns 4 ds.length rest.length ∧ ρ = [some (dL ((xs.flatMap nums).flatMap enc)), some (dNs (xs.flatMap nums)), some (.list (ds.map eD)), x3, x4, x5, x6, x7]) ?_ ?_ ⟨[], xs, none, none, none, none, none, rfl, rfl, rfl⟩
  · rintro d r ρ ⟨ds, rest, x3, x4, x5, x6, x7, hx, e1, rfl⟩
    cases rest with
    | nil => cases e1
    | cons x rest =>
      rw [List.length_cons, turns_succ] at e1
      cases e1
      refine ⟨_, mgN_e, W_hold fun K2 hK2 => ?_⟩
      have cut : cutG ((xs.flatMap nums).map dN) (some ((ds.length : Int) * (4 : Nat))) (some ((ds.length : Int) * (4 : Nat) + 4)) = (nums x).map dN := by
        rw [hx, List.flatMap_append, List.flatMap_cons, List.map_append, List.map_append]
        have l1 := nums_len ds
        refine cutG_mid ?_ ?_
        · rw [List.length_map, l1]
          omega
        · rw [List.length_map, List.length_map, l1]
          show _ = _ + ((4 : Nat) : Int)
          omega
      have hb := (hv x (by rw [hx]; simp)).be
      have lx : ds.length + (rest.length + 1) ≤ 10 := by
        rw [hx, List.length_append, List.length_cons] at hl
        exact hl
      rw [W_seq]
      simp
      have cut4 : cutG ((xs.flatMap nums).map dN) (some ((ds.length : Int) * 4)) (some ((ds.length : Int) * 4 + 4)) = (nums x).map dN := cut
      refine ⟨_, by rw [cut4]; exact ⟨rfl, rfl⟩, ?_⟩
      simp [dN]
      refine ⟨by omega, ?_⟩
      have ee : PyData.tuple [PyData.int (x.b : Int), PyData.int ((x.b : Int) + ((x.e - x.b : Nat) : Int)), PyData.int (x.g : Int), PyData.int (x.d : Int)] = eD x := by
        unfold eD dN
        rw [show ((x.b : Int) + ((x.e - x.b : Nat) : Int)) = (x.e : Int) by omega]
      have el : ds.map eD ++ [eD x] = (ds ++ [x]).map eD := by
        rw [List.map_append]
        rfl
      rw [ee, el]
      refine hK2 _ _ ⟨ds ++ [x], rest, _, _, _, _, _, ?_, ?_, rfl⟩
      · rw [hx, List.append_assoc]
        rfl
      · rw [List.length_append, List.length_singleton]
  · rintro ρ ⟨ds, rest, x3, x4, x5, x6, x7, hx, e1, rfl⟩
    cases rest with
    | cons x rest => cases e1
    | nil =>
      rw [List.append_nil] at hx
      subst hx
      simp
      rw [W_seq]
      simp
      refine (look_table_ok hv hr (by omega)).mono fun d out ⟨e1, e2⟩ => ?_
      subst e1 e2
      simp
      exact hK _ _ ⟨rfl, rfl⟩
end DL

/-! P75f: lines. -/
namespace DL
open PySem PySem.Spec PyProof.Rows L2

def folded (s : Int) : Nat := if 0 ≤ s then (2 * s).toNat else (-2 * s - 1).toNat
theorem fold_ok {s : Int} (h : s.natAbs < 20000) : W (f_folded_sign [some (dI s)]) fun d out => d = dN (folded s) ∧ out = [none] := by
  unfold f_folded_sign m_folded_sign
  rw [W_fn]
  simp [dN, folded]
  by_cases h0 : 0 ≤ s
  · simp [h0]
    refine .inr ⟨mulOk_of (by decide) (by omega), by omega⟩
  · simp [h0]
    refine ⟨by omega, mulOk_of (by decide) (by omega), by omega⟩
theorem unfold_ok {s : Int} (h : s.natAbs < 20000) : W (f_unfolded_sign [some (dN (folded s))]) fun d out => d = dI s ∧ out = [none] := by
  unfold f_unfolded_sign m_unfolded_sign
  rw [W_fn]
  simp [dN]
  by_cases h0 : 0 ≤ s
  · have e : ((folded s : Nat) : Int) = 2 * s := by unfold folded; rw [if_pos h0]; omega
    rw [e]
    simp
  · have e : ((folded s : Nat) : Int) = -2 * s - 1 := by unfold folded; rw [if_neg h0]; omega
    rw [e]
    simp
    omega
abbrev Ln := Nat × Nat
def lD (p : Ln) : D := .tuple [dN p.1, dN p.2]
structure LOk (p : Ln) : Prop where
  m1 : 1 ≤ p.1
  m9 : p.1 ≤ 9999
  l9 : p.2 ≤ 9999
def lnums : Nat → List Ln → List Nat
  | _, [] => []
  | last, p :: r => p.1 :: folded ((p.2 : Int) - last) :: lnums p.2 r
def lastL : Nat → List Ln → Nat
  | a, [] => a
  | _, p :: r => lastL p.2 r
theorem lnums_len : ∀ (last : Nat) (xs : List Ln), (lnums last xs).length = 2 * xs.length
  | _, [] => rfl
  | last, p :: r => by
    show (lnums p.2 r).length + 2 = _
    rw [lnums_len p.2 r, List.length_cons]
    omega
theorem lnums_app : ∀ (last : Nat) (xs ys : List Ln), lnums last (xs ++ ys) = lnums last xs ++ lnums (lastL last xs) ys
  | _, [], _ => rfl
  | last, p :: r, ys => by
    show p.1 :: folded _ :: lnums p.2 (r ++ ys) = _
    rw [lnums_app p.2 r ys]
    rfl
theorem lastL_app : ∀ (last : Nat) (xs : List Ln) (p : Ln), lastL last (xs ++ [p]) = p.2
  | _, [], _ => rfl
  | _, q :: r, p => lastL_app q.2 r p
theorem last_le {b : Nat} : ∀ {last : Nat} {xs : List Ln}, last ≤ b → (∀ p, p ∈ xs → p.2 ≤ b) → lastL last xs ≤ b
  | _, [], h, _ => h
  | _, p :: r, _, h => last_le (xs := r) (h p List.mem_cons_self) fun q m => h q (List.mem_cons_of_mem _ m)
theorem folded_le {a b : Nat} (ha : a ≤ 9999) (hb : b ≤ 9999) : folded ((a : Int) - b) ≤ 19998 := by
  unfold folded
  split <;> omega
theorem lnums_le : ∀ {last : Nat} {xs : List Ln}, last ≤ 9999 → (∀ p, p ∈ xs → LOk p) → ∀ n, n ∈ lnums last xs → n ≤ 19998
  | _, [], _, _, n, hn => by cases hn
  | last, p :: r, hl, h, n, hn => by
    obtain ⟨h1, h2, h3⟩ := h p List.mem_cons_self
    rcases List.mem_cons.mp hn with e | hn
    · omega
    · rcases List.mem_cons.mp hn with e | hn
      · rw [e]
        exact folded_le h3 hl
      · exact lnums_le h3 (fun q m => h q (List.mem_cons_of_mem _ m)) n hn
theorem zip_lnums : ∀ (last : Nat) (xs : List Ln), (xs.zip (last :: xs.map Prod.snd)).flatMap (fun q => [q.1.1, folded ((q.1.2 : Int) - q.2)]) = lnums last xs
  | _, [] => rfl
  | last, p :: r => by
    show [p.1, folded ((p.2 : Int) - last)] ++ (r.zip (p.2 :: r.map Prod.snd)).flatMap _ = _
    rw [zip_lnums p.2 r]
    rfl
theorem is_line_ok {p : Ln} (h : LOk p) : W (f_is_line [some (lD p)]) fun d out => d = .bool true ∧ out = [none] := by
  obtain ⟨h1, h2, h3⟩ := h
  unfold f_is_line m_is_line
  rw [W_fn]
  refine W_hold fun K hK => ?_
  rw [W_seq]
  simp [lD, dN]
  refine (is_number_ok (by omega) (by omega)).mono fun d out ⟨e1, e2⟩ => ?_
  subst e1 e2
  simp
  refine (is_number_ok (by omega) (by omega)).mono fun d out ⟨e1, e2⟩ => ?_
  subst e1 e2
  exact hK _ _ ⟨rfl, rfl⟩
theorem look_lines_ok {xs : List Ln} (hv : ∀ x, x ∈ xs → LOk x) (hl : xs.length ≤ 1000) : W (f_look_lines [some (.tuple (xs.map lD))]) fun d out => d = .none ∧ out = [none] := by
  unfold f_look_lines m_look_lines
  rw [W_fn]
  refine W_hold fun K hK => ?_
  simp
  refine W_lc lD (fun _ => .bool true) xs ?_
  simp
  rw [map_true, all_true]
  refine ⟨by omega, ?_, fun a b hx => (is_line_ok (hv (a, b) hx)).mono fun d out ⟨e1, e2⟩ => ?_⟩
  · simp
    exact hK _ _ ⟨rfl, rfl, rfl⟩
  · subst e1 e2
    simp
theorem pack_lines_ok {xs : List Ln} (hv : ∀ x, x ∈ xs → LOk x) (hl : xs.length ≤ 10) : W (f_pack_lines [some (.tuple (xs.map lD))]) fun d out => d = dL ((lnums 0 xs).flatMap enc) ∧ out = [none] := by
  have small := lnums_le (last := 0) (by decide) hv
  have len := lnums_len 0 xs
  unfold f_pack_lines m_pack_lines
  rw [W_fn]
  refine W_hold fun K hK => ?_
  rw [W_seq]
  simp
  refine (look_lines_ok hv (by omega)).mono fun d out ⟨e1, e2⟩ => ?_
  subst e1 e2
  simp
  rw [W_seq]
  simp
  refine W_lc lD (fun p => dN p.2) xs ?_
  simp [lD]
  refine ⟨by omega, by omega, ?_⟩
  have ah : (PyData.int 0 :: xs.map fun p => dN p.2) = (0 :: xs.map Prod.snd).map dN := by
    rw [List.map_cons, List.map_map]
    rfl
  have len2 : ((xs.zip (0 :: xs.map Prod.snd)).flatMap fun q => (([q.1.1, folded ((q.1.2 : Int) - q.2)] : List Nat)).map dN).length = 2 * xs.length := by
    rw [← List.map_flatMap, List.length_map, zip_lnums, len]
  refine W_lc2 (fun q : Ln × Nat => .tuple [lD q.1, dN q.2]) (fun q => [q.1.1, folded ((q.1.2 : Int) - q.2)]) dN (fun _ y => dN y) (xs.zip (0 :: xs.map Prod.snd)) (by decide) ?_
  simp [-List.length_flatMap, -List.map_cons]
  refine ⟨_, (congrArg (fun ds => dZip2 [PyData.tuple (xs.map lD), .list ds]) ah).trans (congrArg some (zipD_map lD dN xs (0 :: xs.map Prod.snd))), rfl, Nat.le_trans (Nat.le_of_eq len2) (by omega), ?_, fun a b c hx => ?_⟩
  · have e : ((xs.zip (0 :: xs.map Prod.snd)).flatMap fun q => (([q.1.1, folded ((q.1.2 : Int) - q.2)] : List Nat)).map fun y => dN y) = (lnums 0 xs).map dN := by
      rw [← zip_lnums, List.map_flatMap]
    rw [e]
    refine (pack_all_ok (fun n hn => Nat.lt_of_le_of_lt (small n hn) (by decide)) ?_ (by omega)).mono fun d out ⟨e1, e2⟩ => ?_
    · have := flat_len (lnums 0 xs) 19998 small
      rw [len] at this
      omega
    · subst e1 e2
      exact hK _ _ ⟨rfl, rfl⟩
  · have hm := (List.of_mem_zip hx).1
    obtain ⟨h1, h2, h3⟩ := hv _ hm
    have h4 := (List.of_mem_zip hx).2
    have h5 : c ≤ 9999 := by
      rcases List.mem_cons.mp h4 with e | e
      · omega
      · obtain ⟨q, hq, e⟩ := List.mem_map.mp e
        have := (hv q hq).l9
        omega
    have h3 : b ≤ 9999 := h3
    simp [lD]
    refine ⟨_, rfl, (fold_ok (by omega)).mono fun d out ⟨e1, e2⟩ => ?_⟩
    subst e1 e2
    simp
theorem unpack_lines_ok {xs : List Ln} (hv : ∀ x, x ∈ xs → LOk x) (hl : xs.length ≤ 10) : W (f_unpack_lines [some (dL ((lnums 0 xs).flatMap enc))]) fun d out => d = .tuple (xs.map lD) ∧ out = [none] := by
  have small := lnums_le (last := 0) (by decide) hv
  have len := lnums_len 0 xs
  unfold f_unpack_lines m_unpack_lines
  rw [W_fn]
  refine W_hold fun K hK => ?_
  rw [W_seq]
  simp
  refine (unpack_all_ok (fun n hn => Nat.lt_of_le_of_lt (small n hn) (by decide)) (by omega)).mono fun d out ⟨e1, e2⟩ => ?_
  subst e1 e2
  simp
  rw [W_seq]
  simp [len]
  rw [W_seq]
  simp
  rw [W_seq]
  simp
  rw [W_seq, W_for]
  simp [len]
  refine ⟨_, _, _, ⟨rfl, rfl, rfl⟩, ?_, ?_⟩
  · exact rngOk_mul (c := 2) (n := xs.length) (by decide) (by decide) (by omega)
  rw [show rngN 0 (2 * (xs.length : Int)) 2 = xs.length from (rngN_mul (c := 2) (n := xs.length) (by decide)).1, show dRngC 0 2 xs.length = turns 2 0 xs.length from dRngC_turns 2 xs.length]
  refine W_forL (fun rem ρ => ∃ (ds rest : List Ln) (x4 : Option D), xs = ds ++ rest ∧ rem = turns 2 ds.length rest.length ∧ ρ = [some (dL ((lnums 0 xs).flatMap enc)), some (dNs (lnums 0 xs)), some (.list (ds.map lD)), some (dN (lastL 0 ds)), x4]) ?_ ?_ ⟨[], xs, none, rfl, rfl, rfl⟩
  · rintro d r ρ ⟨ds, rest, x4, hx, e1, rfl⟩
    cases rest with
    | nil => cases e1
    | cons x rest =>
      rw [List.length_cons, turns_succ] at e1
      cases e1
      refine ⟨_, mgN_e, W_hold fun K2 hK2 => ?_⟩
      have l1 := lnums_len 0 ds
      have hnum : (lnums 0 xs).map dN = (lnums 0 ds).map dN ++ (dN x.1 :: dN (folded ((x.2 : Int) - lastL 0 ds)) :: (lnums x.2 rest).map dN) := by
        rw [hx, lnums_app, List.map_append]
        rfl
      have l2 : ((lnums 0 ds).map dN).length = 2 * ds.length := by rw [List.length_map, l1]
      have i0 : atI ((lnums 0 xs).map dN) ((ds.length : Int) * 2) = some (dN x.1) := by
        rw [show ((ds.length : Int) * 2) = ((2 * ds.length : Nat) : Int) by omega, hnum]
        refine atI_nat ?_
        rw [List.getElem?_append_right (by omega), l2, Nat.sub_self]
        rfl
      have i1 : atI ((lnums 0 xs).map dN) ((ds.length : Int) * 2 + 1) = some (dN (folded ((x.2 : Int) - lastL 0 ds))) := by
        rw [show ((ds.length : Int) * 2 + 1) = ((2 * ds.length + 1 : Nat) : Int) by omega, hnum]
        refine atI_nat ?_
        rw [List.getElem?_append_right (by omega), l2, show 2 * ds.length + 1 - 2 * ds.length = 1 by omega]
        rfl
      have lx : ds.length + (rest.length + 1) ≤ 10 := by
        rw [hx, List.length_append, List.length_cons] at hl
        exact hl
      have hlx : x.2 ≤ 9999 := (hv x (by rw [hx]; simp)).l9
      have hla : lastL 0 ds ≤ 9999 := last_le (by decide) fun q m => (hv q (by rw [hx]; simp [m])).l9
      rw [W_seq]
      simp [i1]
      refine (unfold_ok (by omega)).mono fun d out ⟨e1, e2⟩ => ?_
      subst e1 e2
      simp [dN]
      rw [show ((lastL 0 ds : Nat) : Int) + ((x.2 : Int) - (lastL 0 ds : Nat)) = (x.2 : Int) by omega]
      refine ⟨_, i0, by omega, ?_⟩
      have el : ds.map lD ++ [PyData.tuple [dN x.1, PyData.int (x.2 : Int)]] = (ds ++ [x]).map lD := by
        rw [List.map_append]
        rfl
      rw [el]
      exact hK2 _ _ ⟨ds ++ [x], rest, _, by rw [hx, List.append_assoc]; rfl, by rw [List.length_append, List.length_singleton], by rw [lastL_app]; rfl⟩
  · rintro ρ ⟨ds, rest, x4, hx, e1, rfl⟩
    cases rest with
    | cons x rest => cases e1
    | nil =>
      rw [List.append_nil] at hx
      subst hx
      simp
      rw [W_seq]
      simp
      refine (look_lines_ok hv (by omega)).mono fun d out ⟨e1, e2⟩ => ?_
      subst e1 e2
      simp
      exact hK _ _ ⟨rfl, rfl⟩
end DL

/-! P75g: the law's table. -/
namespace DL
open PySem PySem.Spec PyProof.Rows L2

theorem drawN {ns : List Int} {k : Nat} {t : D} {many : Int} {Q : D → En → Prop} (hT : Town ns k t) (hk : k < 1000000) (hm : 0 < many) (hM : many < 1073741824) (h : ∀ (r : Nat) (t' : D), (r : Int) < many → Town ns (k + 1) t' → Q (.int (r : Int)) [none, some t', none]) : W (f__law_draw [some (dL ns), some t, some (dI many)]) Q := by
  refine (draw_ok hT hk hm hM).mono fun d out ⟨r, t', e1, h1, h2, e2, h3⟩ => ?_
  subst e1 e2
  obtain ⟨n, rfl⟩ : ∃ n : Nat, r = n := ⟨r.toNat, by omega⟩
  exact h n t' h2 h3
theorem pickN {ns : List Int} {k : Nat} {t : D} {some_ : List Int} {Q : D → En → Prop} (hT : Town ns k t) (hk : k < 1000000) (hm : 0 < some_.length) (hM : some_.length < 1073741824) (h : ∀ (r : Int) (t' : D), r ∈ some_ → Town ns (k + 1) t' → Q (.int r) [none, some t', none]) : W (f__law_pick [some (dL ns), some t, some (dL some_)]) Q := by
  refine (pick_ok hT hk hm hM).mono fun d out ⟨r, t', e1, h1, e2, h3⟩ => ?_
  subst e1 e2
  exact h r t' h1 h3
def lastE : Nat → List E4 → Nat
  | a, [] => a
  | _, x :: r => lastE x.e r
theorem rise_app : ∀ {lo : Nat} {xs : List E4} {x : E4}, Rise lo xs → lastE lo xs ≤ x.b → Rise lo (xs ++ [x])
  | _, [], _, _, h => ⟨h, trivial⟩
  | _, y :: ys, x, h, h2 => ⟨h.1, rise_app (xs := ys) h.2 h2⟩
theorem lastE_app : ∀ {lo : Nat} {xs : List E4} {x : E4}, lastE lo (xs ++ [x]) = x.e
  | _, [], _ => rfl
  | _, y :: ys, x => lastE_app (xs := ys)
theorem wholes_ok {ns : List Int} (hl : ns.length ≤ 1000000) : W (f__law_wholes [some (dL ns)]) fun d out => d = .bool true ∧ out = [none] := by
  have whole : ∀ n : Int, W (f__law_whole [some (dI n)]) fun d out => d = .bool true ∧ out = [none] := fun n => by
    unfold f__law_whole m__law_whole
    rw [W_fn]
    simp
  unfold f__law_wholes m__law_wholes
  rw [W_fn]
  refine W_hold fun K hK => ?_
  simp
  refine W_lcF PyData.int (fun _ => none) ns ?_
  simp
  refine ⟨hl, ⟨_, dEq_nil (n := 1) (.list fun d z => by simp at z), hK _ _ ⟨by simp, rfl⟩⟩, fun x hx => (whole x).mono fun d out ⟨e1, e2⟩ => ?_⟩
  subst e1 e2
  simp
theorem table_ok {ns : List Int} {t : D} (hT : Town ns 0 t) : W (f__law_table [some (dL ns), some t]) fun d out => ∃ (xs : List E4) (t' : D), d = .tuple (xs.map eD) ∧ out = [none, some t'] ∧ Town ns 60 t' ∧ xs.length ≤ 5 ∧ (∀ x, x ∈ xs → Valid x) ∧ Rise 0 xs := by
  unfold f__law_table m__law_table
  rw [W_fn]
  refine W_hold fun K hK => ?_
  rw [W_seq]
  simp
  rw [W_seq]
  simp
  rw [W_seq, W_for]
  simp
  refine drawN hT (by omega) (by decide) (by decide) fun n t1 hn hT1 => ?_
  simp
  refine ⟨by omega, ?_⟩
  refine W_forL (fun rem ρ => ∃ (xs : List E4) (a : Nat) (t : D) (x4 x5 x6 : Option D), Town ns (1 + 7 * xs.length) t ∧ (∀ x, x ∈ xs → Valid x) ∧ Rise 0 xs ∧ lastE 0 xs ≤ a ∧ a ≤ 1499 * xs.length ∧ xs.length + rem.length ≤ 5 ∧ ρ = [some (dL ns), some t, some (.list (xs.map eD)), some (dN a), x4, x5, x6]) ?_ ?_ ⟨[], 0, t1, none, none, none, hT1, fun _ z => (List.not_mem_nil z).elim, trivial, Nat.le_refl _, Nat.le_refl _, ?_, rfl⟩
  · rintro d r ρ ⟨xs, a, t, x4, x5, x6, hT, hv, hr, hla, ha, hlen, rfl⟩
    rw [List.length_cons] at hlen
    refine ⟨_, mgN_e, W_hold fun K2 hK2 => ?_⟩
    rw [W_seq]
    simp [dN]
    refine pickN (some_ := [2, 70, 900]) hT (by omega) (by decide) (by decide) fun p1 t hp1 hT => ?_
    simp at hp1 ⊢
    refine drawN hT (by omega) (by omega) (by omega) fun r1 t hr1 hT => ?_
    simp
    rw [W_seq]
    simp
    refine pickN (some_ := [3, 70, 600]) hT (by omega) (by decide) (by decide) fun p2 t hp2 hT => ?_
    simp at hp2 ⊢
    refine drawN hT (by omega) (by omega) (by omega) fun r2 t hr2 hT => ?_
    simp
    rw [W_seq]
    simp
    refine drawN hT (by omega) (by omega) (by omega) fun r3 t hr3 hT => ?_
    simp
    rw [W_seq]
    simp
    refine pickN (some_ := [3, 1000]) hT (by omega) (by decide) (by decide) fun p4 t hp4 hT => ?_
    simp at hp4 ⊢
    refine drawN hT (by omega) (by omega) (by omega) fun r4 t hr4 hT => ?_
    simp
    refine ⟨by omega, ?_⟩
    have el : xs.map eD ++ [PyData.tuple [PyData.int ((a : Int) + r1), PyData.int ((a : Int) + r1 + 1 + r2), PyData.int (r3 : Int), PyData.int (r4 : Int)]] = (xs ++ [E4.mk (a + r1) (a + r1 + 1 + r2) r3 r4]).map eD := by
      rw [List.map_append]
      rfl
    rw [el]
    refine hK2 _ _ ⟨xs ++ [E4.mk (a + r1) (a + r1 + 1 + r2) r3 r4], a + r1 + 1 + r2, t, _, _, _, ?_, ?_, ?_, ?_, ?_, ?_, rfl⟩
    · refine hT.up ?_
      rw [List.length_append, List.length_singleton]
      omega
    · intro x hx
      rcases List.mem_append.mp hx with z | z
      · exact hv x z
      · rw [List.mem_singleton.mp z]
        refine ⟨?_, ?_, ?_, ?_⟩ <;> dsimp only <;> omega
    · exact rise_app hr (by dsimp only; omega)
    · rw [lastE_app]
      exact Nat.le_refl _
    · rw [List.length_append, List.length_singleton]
      omega
    · rw [List.length_append, List.length_singleton]
      omega
  · rintro ρ ⟨xs, a, t, x4, x5, x6, hT, hv, hr, hla, ha, hlen, rfl⟩
    simp at hlen ⊢
    refine hK (.rt (.tuple (xs.map eD))) _ ?_
    exact ⟨xs, t, rfl, rfl, hT.up (by omega), hlen, hv, hr⟩
  · simp [dRng]
    omega
end DL

/-! P75h: the law. -/
namespace DL
open PySem PySem.Spec PyProof.Rows L2

theorem W_forL_cons {d : D} {ds : List D} {g : MG} {b : MS} {ρ : En} {Q : Fl → En → Prop} : W (mForL (d :: ds) g b ρ) Q ↔ ∃ ρ1, g d ρ = some ρ1 ∧ W (b ρ1) fun f ρ2 => lpK f ρ2 (fun ρ => W (mForL ds g b ρ) Q) Q := by
  show W ((g d ρ).bind fun ρ1 => (b ρ1).bind _) Q ↔ _
  cases h : g d ρ with
  | none => simp
  | some ρ1 =>
    show W ((b ρ1).bind _) Q ↔ _
    rw [W_bind]
    simp only [Option.some.injEq, exists_eq_left']
    refine ⟨fun h => h.mono fun f ρ2 q => ?_, fun h => h.mono fun f ρ2 q => ?_⟩ <;> cases f <;> first | exact q | exact W_some.mp q | exact W_some.mpr q
theorem W_forL_nil {g : MG} {b : MS} {ρ : En} {Q : Fl → En → Prop} : W (mForL [] g b ρ) Q ↔ Q .nx ρ := W_some
theorem eq0_eD (x : E4) : Eq0 1 (eD x) := .tuple fun d m => by
  simp at m
  rcases m with e | e | e | e <;> rw [e] <;> exact .int
theorem eq0_T (xs : List E4) : Eq0 2 (.tuple (xs.map eD)) := .tuple fun d m => by
  obtain ⟨x, _, rfl⟩ := List.mem_map.mp m
  exact eq0_eD x
theorem eq0_lD (x : Ln) : Eq0 1 (lD x) := .tuple fun d m => by
  simp at m
  rcases m with e | e <;> rw [e] <;> exact .int
theorem eq0_L (xs : List Ln) : Eq0 2 (.tuple (xs.map lD)) := .tuple fun d m => by
  obtain ⟨x, _, rfl⟩ := List.mem_map.mp m
  exact eq0_lD x
theorem nums_le {xs : List E4} (hv : ∀ x, x ∈ xs → Valid x) : ∀ n, n ∈ xs.flatMap nums → n ≤ 9999 := fun n hn => by
  obtain ⟨x, hx, hn⟩ := List.mem_flatMap.mp hn
  obtain ⟨h1, h2, h3, h4⟩ := hv x hx
  simp [nums] at hn
  omega
theorem enc_small {n b : Nat} (h : n ≤ b) : (enc n).length ≤ b + 1 := Nat.le_trans (enc_len n) (by omega)
theorem pre_range : ∀ (n : Nat) (y : Int), y ∈ preN n → 0 ≤ y ∧ y ≤ 127 := fun n => by
  induction n using Nat.strongRecOn with
  | ind n ih =>
    intro y hy
    by_cases h : n = 0
    · rw [h, preN_zero] at hy
      cases hy
    · rw [preN_pos h] at hy
      rcases List.mem_append.mp hy with z | z
      · exact ih (n / 64) (by omega) y z
      · have := List.mem_singleton.mp z
        omega
theorem enc_range (n : Nat) (y : Int) (hy : y ∈ enc n) : 0 ≤ y ∧ y ≤ 127 := by
  unfold enc at hy
  rcases List.mem_append.mp hy with z | z
  · exact pre_range _ y z
  · have := List.mem_singleton.mp z
    omega
theorem partsN {n : Nat} {Q : D → En → Prop} (hn : n < 100000) (h : Q (dL (enc n)) [none]) : W (f__law_parts [some (.int (n : Int))]) Q := (parts_ok hn).mono fun d out ⟨e1, e2⟩ => by
  rw [e1, e2]
  exact h
theorem law_true : ∀ ns : List Int, ns.length ≤ 63 → ∃ o, f_law [some (.list (ns.map PyData.int))] = some (.bool true, o) := by
  intro ns hns
  have goal : W (f_law [some (dL ns)]) fun d out => d = .bool true := by
    unfold f_law m_law
    rw [W_fn]
    refine W_hold fun K hK => ?_
    rw [W_seq]
    simp
    refine (town_ok hns).mono fun t out ⟨e1, hT⟩ => ?_
    subst e1
    simp
    rw [W_seq]
    simp
    refine (table_ok hT).mono fun d out ⟨xs, t, e1, e2, hT, hxl, hxv, hxr⟩ => ?_
    subst e1 e2
    simp
    rw [W_seq]
    simp
    rw [W_seq, W_for]
    simp
    refine drawN hT (by omega) (by decide) (by decide) fun n t hn hT => ?_
    simp
    refine ⟨by omega, ?_⟩
    refine W_forL (fun rem ρ => ∃ (ys : List Ln) (t : D) (x4 x5 x6 : Option D), Town ns (61 + 4 * ys.length) t ∧ (∀ y, y ∈ ys → LOk y) ∧ ys.length + rem.length ≤ 7 ∧ ρ = [some (dL ns), some t, some (.tuple (xs.map eD)), some (.list (ys.map lD)), x4, x5, x6, none, none, none, none, none, none, none, none, none, none, none]) ?_ ?_ ⟨[], t, none, none, none, hT, fun _ z => (List.not_mem_nil z).elim, by simp [dRng]; omega, rfl⟩
    · rintro d r ρ ⟨ys, t, x4, x5, x6, hT, hv, hlen, rfl⟩
      rw [List.length_cons] at hlen
      refine ⟨_, mgN_e, W_hold fun K2 hK2 => ?_⟩
      rw [W_seq]
      simp
      refine pickN (some_ := [3, 70, 9999]) hT (by omega) (by decide) (by decide) fun p1 t hp1 hT => ?_
      simp at hp1 ⊢
      rw [W_seq]
      simp
      refine pickN (some_ := [9, 200, 10000]) hT (by omega) (by decide) (by decide) fun p2 t hp2 hT => ?_
      simp at hp2 ⊢
      refine drawN hT (by omega) (by omega) (by omega) fun r1 t hr1 hT => ?_
      simp
      refine drawN hT (by omega) (by omega) (by omega) fun r2 t hr2 hT => ?_
      simp
      refine ⟨by omega, ?_⟩
      have el : ys.map lD ++ [PyData.tuple [PyData.int (1 + (r2 : Int)), PyData.int (r1 : Int)]] = (ys ++ [((1 + r2, r1) : Ln)]).map lD := by
        rw [List.map_append]
        show _ = _ ++ [PyData.tuple [PyData.int ((1 + r2 : Nat) : Int), PyData.int (r1 : Int)]]
        rw [Int.natCast_add]
        rfl
      rw [el]
      refine hK2 .nx _ ⟨ys ++ [((1 + r2, r1) : Ln)], t, _, _, _, ?_, ?_, ?_, rfl⟩
      · refine hT.up ?_
        rw [List.length_append, List.length_singleton]
        omega
      · intro y hy
        rcases List.mem_append.mp hy with z | z
        · exact hv y z
        · rw [List.mem_singleton.mp z]
          refine ⟨?_, ?_, ?_⟩ <;> dsimp only <;> omega
      · rw [List.length_append, List.length_singleton]
        omega
    · rintro ρ ⟨ys, t, x4, x5, x6, hT, hyv, hyl, rfl⟩
      rw [List.length_nil] at hyl
      simp
      rw [W_seq]
      simp
      rw [W_seq]
      simp
      rw [W_seq, W_for]
      simp
      refine W_forL (fun rem ρ => ∃ (ds rest : List E4) (x8 x9 x10 x11 x12 : Option D), xs = ds ++ rest ∧ rem = rest.map eD ∧ ρ = [some (dL ns), some t, some (.tuple (xs.map eD)), some (.tuple (ys.map lD)), x4, x5, x6, some (dL ((ds.flatMap nums).flatMap enc)), x8, x9, x10, x11, x12, none, none, none, none, none]) ?_ ?_ ⟨[], xs, none, none, none, none, none, rfl, rfl, rfl⟩
      · rintro d r ρ ⟨ds, rest, x8, x9, x10, x11, x12, hx, e1, rfl⟩
        cases rest with
        | nil => cases e1
        | cons x rest =>
          cases e1
          refine ⟨_, rfl, W_hold fun K2 hK2 => ?_⟩
          obtain ⟨v1, v2, v3, v4⟩ := hxv x (by rw [hx]; simp)
          have es : ((x.e : Int) - x.b) = ((x.e - x.b : Nat) : Int) := by omega
          have hds : ds.length + (rest.length + 1) ≤ 5 := by
            rw [hx, List.length_append, List.length_cons] at hxl
            exact hxl
          have hA := flat_len (ds.flatMap nums) 9999 (nums_le fun y m => hxv y (by rw [hx]; simp [m]))
          rw [nums_len] at hA
          have fin : ((ds ++ [x]).flatMap nums).flatMap enc = (ds.flatMap nums).flatMap enc ++ (enc x.b ++ (enc (x.e - x.b) ++ (enc x.g ++ enc x.d))) := by
            simp [List.flatMap_append, nums]
          generalize hAe : (ds.flatMap nums).flatMap enc = A at hA fin
          have b1 := enc_small (n := x.b) (b := 9999) (by omega)
          have b2 := enc_small (n := x.e - x.b) (b := 9999) (by omega)
          have b3 := enc_small (n := x.g) (b := 9999) (by omega)
          have b4 := enc_small (n := x.d) (b := 9999) (by omega)
          rw [W_for]
          simp [dN, es]
          rw [W_forL_cons]
          simp
          refine partsN (by omega) ?_
          simp
          refine ⟨by omega, ?_⟩
          rw [W_forL_cons]
          simp
          refine partsN (by omega) ?_
          simp
          refine ⟨by omega, ?_⟩
          rw [W_forL_cons]
          simp
          refine partsN (by omega) ?_
          simp
          refine ⟨by omega, ?_⟩
          rw [W_forL_cons]
          simp
          refine partsN (by omega) ?_
          simp
          refine ⟨by omega, ?_⟩
          rw [W_forL_nil]
          have fin2 : PyData.list (A.map PyData.int ++ ((enc x.b).map PyData.int ++ ((enc (x.e - x.b)).map PyData.int ++ ((enc x.g).map PyData.int ++ (enc x.d).map PyData.int)))) = dL (((ds ++ [x]).flatMap nums).flatMap enc) := by
            rw [fin]
            simp
          rw [fin2]
          exact hK2 .nx _ ⟨ds ++ [x], rest, _, _, _, _, _, by rw [hx, List.append_assoc]; rfl, rfl, rfl⟩
      · rintro ρ ⟨ds, rest, x8, x9, x10, x11, x12, hx, e1, rfl⟩
        have hr0 : rest = [] := by
          cases rest with
          | nil => rfl
          | cons x rest => cases e1
        rw [hr0, List.append_nil] at hx
        rw [← hx]
        have hX := flat_len (xs.flatMap nums) 9999 (nums_le hxv)
        rw [nums_len] at hX
        have pk := pack_table_ok hxv hxr (by omega)
        have up := unpack_table_ok hxv hxr (by omega)
        have eT := eq0_T xs
        generalize hTe : PyData.tuple (xs.map eD) = T at pk up eT
        have isT : dIs "tuple" [T] = some (.bool true) := by rw [← hTe]; rfl
        generalize hXe : (xs.flatMap nums).flatMap enc = X at pk up hX
        have neX : dNe [dL X, dL X] = some (.bool false) := dNe_same Eq0.ints
        have neT : dNe [T, T] = some (.bool false) := dNe_same eT
        simp
        rw [W_seq]
        simp
        refine pk.mono fun d out ⟨e1, e2⟩ => ?_
        rw [e1, e2]
        simp
        rw [W_seq]
        simp [neX]
        refine (wholes_ok (by omega)).mono fun d out ⟨e1, e2⟩ => ?_
        rw [e1, e2]
        simp
        refine up.mono fun d out ⟨e1, e2⟩ => ?_
        rw [e1, e2]
        simp [neT]
        refine up.mono fun d out ⟨e1, e2⟩ => ?_
        rw [e1, e2]
        simp [isT]
        rw [W_seq]
        simp
        rw [W_seq]
        simp
        rw [W_seq, W_for]
        simp
        refine W_forL (fun rem ρ => ∃ (ds rest : List Ln) (x6 x15 x16 : Option D), ys = ds ++ rest ∧ rem = rest.map lD ∧ ρ = [some (dL ns), some t, some T, some (.tuple (ys.map lD)), x4, x5, x6, some (dL ((lnums 0 ds).flatMap enc)), x8, x9, x10, x11, x12, some (dL X), some (dN (lastL 0 ds)), x15, x16, none]) ?_ ?_ ⟨[], ys, x6, none, none, rfl, rfl, rfl⟩
        · rintro d r ρ ⟨ds, rest, x6, x15, x16, hy, e1, rfl⟩
          cases rest with
          | nil => cases e1
          | cons p rest =>
            cases e1
            refine ⟨_, rfl, W_hold fun K2 hK2 => ?_⟩
            obtain ⟨v1, v2, v3⟩ := hyv p (by rw [hy]; simp)
            have hla : lastL 0 ds ≤ 9999 := last_le (by decide) fun q m => (hyv q (by rw [hy]; simp [m])).l9
            have hds : ds.length + (rest.length + 1) ≤ 7 := by
              rw [hy, List.length_append, List.length_cons] at hyl
              exact hyl
            have hA := flat_len (lnums 0 ds) 19998 (lnums_le (by decide) fun y m => hyv y (by rw [hy]; simp [m]))
            rw [lnums_len] at hA
            have fin : (lnums 0 (ds ++ [p])).flatMap enc = (lnums 0 ds).flatMap enc ++ (enc p.1 ++ enc (folded ((p.2 : Int) - lastL 0 ds))) := by
              rw [lnums_app]
              simp [lnums]
            have hla2 : lastL 0 (ds ++ [p]) = p.2 := lastL_app 0 ds p
            generalize hl0 : lastL 0 ds = l0 at hla fin
            generalize hAe : (lnums 0 ds).flatMap enc = A at hA fin
            have hf := folded_le v3 hla
            have b1 := enc_small (n := p.1) (b := 9999) (by omega)
            have b2 := enc_small (n := folded ((p.2 : Int) - l0)) (b := 19998) hf
            have fin2 : PyData.list (A.map PyData.int ++ ((enc p.1).map PyData.int ++ (enc (folded ((p.2 : Int) - l0))).map PyData.int)) = dL ((lnums 0 (ds ++ [p])).flatMap enc) := by
              rw [fin]
              simp
            rw [W_seq]
            simp [dN]
            rw [W_seq]
            simp
            refine partsN (by omega) ?_
            simp
            refine ⟨by omega, ?_⟩
            have hy2 : ys = ds ++ [p] ++ rest := by
              rw [hy, List.append_assoc]
              rfl
            by_cases h : l0 ≤ p.2
            · refine .inr ⟨h, mulOk_of (by decide) (by omega), ?_⟩
              rw [show (2 * ((p.2 : Int) - l0)) = ((folded ((p.2 : Int) - l0) : Nat) : Int) by unfold folded; rw [if_pos (by omega)]; omega]
              refine partsN (by omega) ?_
              simp
              refine ⟨by omega, ?_⟩
              rw [fin2]
              exact hK2 .nx _ ⟨ds ++ [p], rest, _, _, _, hy2, rfl, by rw [hla2]; rfl⟩
            · refine .inl ⟨by omega, mulOk_of (by decide) (by omega), ?_⟩
              rw [show (-2 * ((p.2 : Int) - l0) - 1) = ((folded ((p.2 : Int) - l0) : Nat) : Int) by unfold folded; rw [if_neg (by omega)]; omega]
              refine partsN (by omega) ?_
              simp
              refine ⟨by omega, ?_⟩
              rw [fin2]
              exact hK2 .nx _ ⟨ds ++ [p], rest, _, _, _, hy2, rfl, by rw [hla2]; rfl⟩
        · rintro ρ ⟨ds, rest, x6, x15, x16, hy, e1, rfl⟩
          have hr0 : rest = [] := by
            cases rest with
            | nil => rfl
            | cons x rest => cases e1
          rw [hr0, List.append_nil] at hy
          rw [← hy]
          have hZ := flat_len (lnums 0 ys) 19998 (lnums_le (by decide) hyv)
          rw [lnums_len] at hZ
          have pl := pack_lines_ok hyv (by omega)
          have ul := unpack_lines_ok hyv (by omega)
          have eL := eq0_L ys
          have rZ : ∀ y, y ∈ (lnums 0 ys).flatMap enc → 0 ≤ y ∧ y ≤ 127 := fun y hy => by
            obtain ⟨n, _, h⟩ := List.mem_flatMap.mp hy
            exact enc_range n y h
          generalize hLe : PyData.tuple (ys.map lD) = L at pl ul eL
          have isL : dIs "tuple" [L] = some (.bool true) := by rw [← hLe]; rfl
          generalize hZe : (lnums 0 ys).flatMap enc = Z at pl ul hZ rZ
          have neZ : dNe [dL Z, dL Z] = some (.bool false) := dNe_same Eq0.ints
          have neL : dNe [L, L] = some (.bool false) := dNe_same eL
          have neN : dNe [.list [], .list []] = some (.bool false) := dNe_same (Eq0.ints (ns := []))
          have eqN : dEq [.tuple [], .tuple []] = some (.bool true) := dEq_same (Eq0.tuple (n := 0) fun _ z => (List.not_mem_nil z).elim)
          simp
          rw [W_seq]
          simp
          refine pl.mono fun d out ⟨e1, e2⟩ => ?_
          rw [e1, e2]
          simp
          rw [W_seq]
          simp [neZ]
          refine (wholes_ok (by omega)).mono fun d out ⟨e1, e2⟩ => ?_
          rw [e1, e2]
          simp
          refine ul.mono fun d out ⟨e1, e2⟩ => ?_
          rw [e1, e2]
          simp [neL]
          refine ul.mono fun d out ⟨e1, e2⟩ => ?_
          rw [e1, e2]
          simp [isL]
          rw [W_seq]
          simp
          refine W_lcF PyData.int (fun _ => none) Z ?_
          have fmN : Z.filterMap (fun _ => (none : Option D)) = [] := by
            rw [List.filterMap_eq_nil_iff]
            exact fun _ _ => rfl
          simp [fmN, neN]
          refine ⟨by omega, ?_, fun y hy => ?_⟩
          · refine (pack_table_ok (xs := []) (lo := 0) (fun _ z => (List.not_mem_nil z).elim) trivial (by simp)).mono fun d out ⟨e1, e2⟩ => ?_
            rw [e1, e2]
            simp
            refine (unpack_table_ok (xs := []) (lo := 0) (fun _ z => (List.not_mem_nil z).elim) trivial (by simp)).mono fun d out ⟨e1, e2⟩ => ?_
            rw [e1, e2]
            simp [eqN]
            refine (pack_lines_ok (xs := []) (fun _ z => (List.not_mem_nil z).elim) (by simp)).mono fun d out ⟨e1, e2⟩ => ?_
            rw [e1, e2]
            simp
            refine (unpack_lines_ok (xs := []) (fun _ z => (List.not_mem_nil z).elim) (by simp)).mono fun d out ⟨e1, e2⟩ => ?_
            rw [e1, e2]
            simp [eqN]
            exact hK (.rt (.bool true)) _ rfl
          · obtain ⟨h1, h2⟩ := rZ y hy
            exact ⟨h1, h2⟩
  obtain ⟨d, out, e, rfl⟩ := goal
  exact ⟨out, e⟩
end DL

namespace DL
open PySem PySem.Spec PyProof.Rows L2
/-! ### the head: facts by names, the run -/
def d_is_number : He.DefD := ⟨("is_number", none), "is_number", "is_number", defArgs s_is_number, defBody s_is_number, defScope s_is_number, [], []⟩
def d_is_entry : He.DefD := ⟨("is_entry", none), "is_entry", "is_entry", defArgs s_is_entry, defBody s_is_entry, defScope s_is_entry, [], []⟩
def d_is_line : He.DefD := ⟨("is_line", none), "is_line", "is_line", defArgs s_is_line, defBody s_is_line, defScope s_is_line, [], []⟩
def d_pack_number : He.DefD := ⟨("pack_number", none), "pack_number", "pack_number", defArgs s_pack_number, defBody s_pack_number, defScope s_pack_number, [], []⟩
def d_pack_all : He.DefD := ⟨("pack_all", none), "pack_all", "pack_all", defArgs s_pack_all, defBody s_pack_all, defScope s_pack_all, [], []⟩
def d_unpack_all : He.DefD := ⟨("unpack_all", none), "unpack_all", "unpack_all", defArgs s_unpack_all, defBody s_unpack_all, defScope s_unpack_all, [], []⟩
def d_look_table : He.DefD := ⟨("look_table", none), "look_table", "look_table", defArgs s_look_table, defBody s_look_table, defScope s_look_table, [], []⟩
def d_pack_table : He.DefD := ⟨("pack_table", none), "pack_table", "pack_table", defArgs s_pack_table, defBody s_pack_table, defScope s_pack_table, [], []⟩
def d_unpack_table : He.DefD := ⟨("unpack_table", none), "unpack_table", "unpack_table", defArgs s_unpack_table, defBody s_unpack_table, defScope s_unpack_table, [], []⟩
def d_folded_sign : He.DefD := ⟨("folded_sign", none), "folded_sign", "folded_sign", defArgs s_folded_sign, defBody s_folded_sign, defScope s_folded_sign, [], []⟩
def d_unfolded_sign : He.DefD := ⟨("unfolded_sign", none), "unfolded_sign", "unfolded_sign", defArgs s_unfolded_sign, defBody s_unfolded_sign, defScope s_unfolded_sign, [], []⟩
def d_look_lines : He.DefD := ⟨("look_lines", none), "look_lines", "look_lines", defArgs s_look_lines, defBody s_look_lines, defScope s_look_lines, [], []⟩
def d_pack_lines : He.DefD := ⟨("pack_lines", none), "pack_lines", "pack_lines", defArgs s_pack_lines, defBody s_pack_lines, defScope s_pack_lines, [], []⟩
def d_unpack_lines : He.DefD := ⟨("unpack_lines", none), "unpack_lines", "unpack_lines", defArgs s_unpack_lines, defBody s_unpack_lines, defScope s_unpack_lines, [], []⟩
def d__law_town : He.DefD := ⟨("_law_town", none), "_law_town", "_law_town", defArgs s__law_town, defBody s__law_town, defScope s__law_town, [], []⟩
def d__law_draw : He.DefD := ⟨("_law_draw", none), "_law_draw", "_law_draw", defArgs s__law_draw, defBody s__law_draw, defScope s__law_draw, [], []⟩
def d__law_pick : He.DefD := ⟨("_law_pick", none), "_law_pick", "_law_pick", defArgs s__law_pick, defBody s__law_pick, defScope s__law_pick, [], []⟩
def d__law_whole : He.DefD := ⟨("_law_whole", none), "_law_whole", "_law_whole", defArgs s__law_whole, defBody s__law_whole, defScope s__law_whole, [], []⟩
def d__law_wholes : He.DefD := ⟨("_law_wholes", none), "_law_wholes", "_law_wholes", defArgs s__law_wholes, defBody s__law_wholes, defScope s__law_wholes, [], []⟩
def d__law_parts : He.DefD := ⟨("_law_parts", none), "_law_parts", "_law_parts", defArgs s__law_parts, defBody s__law_parts, defScope s__law_parts, [], []⟩
def d__law_table : He.DefD := ⟨("_law_table", none), "_law_table", "_law_table", defArgs s__law_table, defBody s__law_table, defScope s__law_table, [], []⟩
def d_law : He.DefD := ⟨("law", none), "law", "law", defArgs s_law, defBody s_law, defScope s_law, [], []⟩
def fn : List He.DefD := [d_is_number, d_is_entry, d_is_line, d_pack_number, d_pack_all, d_unpack_all, d_look_table, d_pack_table, d_unpack_table, d_folded_sign, d_unfolded_sign, d_look_lines, d_pack_lines, d_unpack_lines, d__law_town, d__law_draw, d__law_pick, d__law_whole, d__law_wholes, d__law_parts, d__law_table, d_law]
def fa : List He.Fa := bltNames.map He.Fa.free ++ [.glo "is_number", .glo "is_entry", .glo "is_line", .glo "pack_number", .glo "pack_all", .glo "unpack_all", .glo "look_table", .glo "pack_table", .glo "unpack_table", .glo "folded_sign", .glo "unfolded_sign", .glo "look_lines", .glo "pack_lines", .glo "unpack_lines", .glo "_law_town", .glo "_law_draw", .glo "_law_pick", .glo "_law_whole", .glo "_law_wholes", .glo "_law_parts", .glo "_law_table", .glo "law", .int "GREAT_PLACE" (9999), .int "PART" (64)]
abbrev R : PySem.W.OpenRow := PySem.W.OpenLaw.row PySem.Challenge.rw_codemill_k75_whole_packed
abbrev hk : PySem.W.Hook := He.hookD 4 fa fn
def ob (s : PySem.W.SharedT) : He.AlD := He.obsDG 4 fa fn (HandSHeadRun.getT s)
theorem ob_eq (s : PySem.W.SharedT) : ob s = hk.obs s.abs := He.obsDG_eq (HandSHeadRun.getT_eq s)
theorem run (w : World) : HandSHeadRun.RunEq R (PySem.W.view R.prog [30]) hk ob 1200 ["MillError", "BadBytes", "is_number", "is_entry", "is_line", "PART", "GREAT_PLACE", "pack_number", "pack_all", "unpack_all", "look_table", "pack_table", "unpack_table", "folded_sign", "unfolded_sign", "look_lines", "pack_lines", "unpack_lines", "_law_town", "_law_draw", "_law_pick", "_law_whole", "_law_wholes", "_law_parts", "_law_table"] w := by
  intro os
  kernel_rfl
theorem facts {P : Program} {w : World} {K : PySem.W.Frag} {h : Heap} {mg : Str → Option Value} {f : Addr} (X : K.In h) (G : h.Ns mainGlobals mg) (hfa : mg ("law" : Str) = some (.ref f)) (c : He.SaysD fa fn K) :
    ∃ fd : FuncData, (∀ (s : Shared) (v : Value), BindsTo s fd ⟨[v], []⟩ [("_law_script", v)]) ∧ ∀ base : Heap, K.In base → base.Ns mainGlobals mg → FnG P w K mg base CX0 5 f fd ["_law_script"] (spF K [.fz] f_law .fz) := by
  have B : Bt mg := ⟨fun x hx => by
    obtain ⟨i, hi⟩ := List.mem_iff_getElem?.mp hx
    refine He.free_ok X G (c.fact i (f := .free x) ?_)
    unfold fa
    rw [List.getElem?_append_left (by rw [List.length_map]; exact (List.getElem?_eq_some_iff.mp hi).1), List.getElem?_map, hi]
    rfl⟩
  have C : Ct mg := ⟨He.int_ok X G (c.fact 42 (f := .int "GREAT_PLACE" (9999)) rfl), He.int_ok X G (c.fact 43 (f := .int "PART" (64)) rfl)⟩
  obtain ⟨fd_is_number, F_is_number⟩ := c.def_ 0 (d := d_is_number) rfl
  have M_is_number := He.glo_ok X G (c.fact 20 (f := .glo "is_number") rfl)
  obtain ⟨fd_is_entry, F_is_entry⟩ := c.def_ 1 (d := d_is_entry) rfl
  have M_is_entry := He.glo_ok X G (c.fact 21 (f := .glo "is_entry") rfl)
  obtain ⟨fd_is_line, F_is_line⟩ := c.def_ 2 (d := d_is_line) rfl
  have M_is_line := He.glo_ok X G (c.fact 22 (f := .glo "is_line") rfl)
  obtain ⟨fd_pack_number, F_pack_number⟩ := c.def_ 3 (d := d_pack_number) rfl
  have M_pack_number := He.glo_ok X G (c.fact 23 (f := .glo "pack_number") rfl)
  obtain ⟨fd_pack_all, F_pack_all⟩ := c.def_ 4 (d := d_pack_all) rfl
  have M_pack_all := He.glo_ok X G (c.fact 24 (f := .glo "pack_all") rfl)
  obtain ⟨fd_unpack_all, F_unpack_all⟩ := c.def_ 5 (d := d_unpack_all) rfl
  have M_unpack_all := He.glo_ok X G (c.fact 25 (f := .glo "unpack_all") rfl)
  obtain ⟨fd_look_table, F_look_table⟩ := c.def_ 6 (d := d_look_table) rfl
  have M_look_table := He.glo_ok X G (c.fact 26 (f := .glo "look_table") rfl)
  obtain ⟨fd_pack_table, F_pack_table⟩ := c.def_ 7 (d := d_pack_table) rfl
  have M_pack_table := He.glo_ok X G (c.fact 27 (f := .glo "pack_table") rfl)
  obtain ⟨fd_unpack_table, F_unpack_table⟩ := c.def_ 8 (d := d_unpack_table) rfl
  have M_unpack_table := He.glo_ok X G (c.fact 28 (f := .glo "unpack_table") rfl)
  obtain ⟨fd_folded_sign, F_folded_sign⟩ := c.def_ 9 (d := d_folded_sign) rfl
  have M_folded_sign := He.glo_ok X G (c.fact 29 (f := .glo "folded_sign") rfl)
  obtain ⟨fd_unfolded_sign, F_unfolded_sign⟩ := c.def_ 10 (d := d_unfolded_sign) rfl
  have M_unfolded_sign := He.glo_ok X G (c.fact 30 (f := .glo "unfolded_sign") rfl)
  obtain ⟨fd_look_lines, F_look_lines⟩ := c.def_ 11 (d := d_look_lines) rfl
  have M_look_lines := He.glo_ok X G (c.fact 31 (f := .glo "look_lines") rfl)
  obtain ⟨fd_pack_lines, F_pack_lines⟩ := c.def_ 12 (d := d_pack_lines) rfl
  have M_pack_lines := He.glo_ok X G (c.fact 32 (f := .glo "pack_lines") rfl)
  obtain ⟨fd_unpack_lines, F_unpack_lines⟩ := c.def_ 13 (d := d_unpack_lines) rfl
  have M_unpack_lines := He.glo_ok X G (c.fact 33 (f := .glo "unpack_lines") rfl)
  obtain ⟨fd__law_town, F__law_town⟩ := c.def_ 14 (d := d__law_town) rfl
  have M__law_town := He.glo_ok X G (c.fact 34 (f := .glo "_law_town") rfl)
  obtain ⟨fd__law_draw, F__law_draw⟩ := c.def_ 15 (d := d__law_draw) rfl
  have M__law_draw := He.glo_ok X G (c.fact 35 (f := .glo "_law_draw") rfl)
  obtain ⟨fd__law_pick, F__law_pick⟩ := c.def_ 16 (d := d__law_pick) rfl
  have M__law_pick := He.glo_ok X G (c.fact 36 (f := .glo "_law_pick") rfl)
  obtain ⟨fd__law_whole, F__law_whole⟩ := c.def_ 17 (d := d__law_whole) rfl
  have M__law_whole := He.glo_ok X G (c.fact 37 (f := .glo "_law_whole") rfl)
  obtain ⟨fd__law_wholes, F__law_wholes⟩ := c.def_ 18 (d := d__law_wholes) rfl
  have M__law_wholes := He.glo_ok X G (c.fact 38 (f := .glo "_law_wholes") rfl)
  obtain ⟨fd__law_parts, F__law_parts⟩ := c.def_ 19 (d := d__law_parts) rfl
  have M__law_parts := He.glo_ok X G (c.fact 39 (f := .glo "_law_parts") rfl)
  obtain ⟨fd__law_table, F__law_table⟩ := c.def_ 20 (d := d__law_table) rfl
  have M__law_table := He.glo_ok X G (c.fact 40 (f := .glo "_law_table") rfl)
  obtain ⟨fd_law, F_law⟩ := c.def_ 21 (d := d_law) rfl
  have e := hfa.symm.trans (He.glo_ok X G (c.fact 41 (f := .glo "law") rfl))
  cases e
  have b := FunD.bindsA (ps := ["_law_script"]) F_law fun _ _ _ _ _ _ us hl => match us, hl with | [_], _ => rfl
  refine ⟨fd_law, fun s v => b s [v] rfl, fun base _ _ => ?_⟩
  have G_is_number : FnX P w K mg base "is_number" 1 ["thing", "least", "most"] (spF K [.fz, .fz, .fz] f_is_number .fz) := ⟨_, fd_is_number, ok_is_number F_is_number B C, M_is_number, F_is_number.kp, F_is_number.bindsN fun _ _ _ _ _ _ us hl => match us, hl with | [_, _, _], _ => rfl⟩
  have G_is_entry : FnX P w K mg base "is_entry" 2 ["thing", "many"] (spF K [.fz, .fz] f_is_entry .fz) := ⟨_, fd_is_entry, ok_is_entry F_is_entry B C G_is_number, M_is_entry, F_is_entry.kp, F_is_entry.bindsN fun _ _ _ _ _ _ us hl => match us, hl with | [_, _], _ => rfl⟩
  have G_is_line : FnX P w K mg base "is_line" 2 ["thing"] (spF K [.fz] f_is_line .fz) := ⟨_, fd_is_line, ok_is_line F_is_line B C G_is_number, M_is_line, F_is_line.kp, F_is_line.bindsN fun _ _ _ _ _ _ us hl => match us, hl with | [_], _ => rfl⟩
  have G_pack_number : FnX P w K mg base "pack_number" 1 ["number"] (spF K [.fz] f_pack_number .ow) := ⟨_, fd_pack_number, ok_pack_number F_pack_number B C, M_pack_number, F_pack_number.kp, F_pack_number.bindsN fun _ _ _ _ _ _ us hl => match us, hl with | [_], _ => rfl⟩
  have G_pack_all : FnX P w K mg base "pack_all" 2 ["numbers"] (spF K [.fz] f_pack_all .ow) := ⟨_, fd_pack_all, ok_pack_all F_pack_all B C G_pack_number, M_pack_all, F_pack_all.kp, F_pack_all.bindsN fun _ _ _ _ _ _ us hl => match us, hl with | [_], _ => rfl⟩
  have G_unpack_all : FnX P w K mg base "unpack_all" 1 ["parts"] (spF K [.fz] f_unpack_all .ow) := ⟨_, fd_unpack_all, ok_unpack_all F_unpack_all B C, M_unpack_all, F_unpack_all.kp, F_unpack_all.bindsN fun _ _ _ _ _ _ us hl => match us, hl with | [_], _ => rfl⟩
  have G_look_table : FnX P w K mg base "look_table" 3 ["table"] (spF K [.fz] f_look_table .fz) := ⟨_, fd_look_table, ok_look_table F_look_table B C G_is_entry, M_look_table, F_look_table.kp, F_look_table.bindsN fun _ _ _ _ _ _ us hl => match us, hl with | [_], _ => rfl⟩
  have G_pack_table : FnX P w K mg base "pack_table" 4 ["table"] (spF K [.fz] f_pack_table .ow) := ⟨_, fd_pack_table, ok_pack_table F_pack_table B C G_look_table G_pack_all, M_pack_table, F_pack_table.kp, F_pack_table.bindsN fun _ _ _ _ _ _ us hl => match us, hl with | [_], _ => rfl⟩
  have G_unpack_table : FnX P w K mg base "unpack_table" 4 ["parts"] (spF K [.fz] f_unpack_table .fz) := ⟨_, fd_unpack_table, ok_unpack_table F_unpack_table B C G_look_table G_unpack_all, M_unpack_table, F_unpack_table.kp, F_unpack_table.bindsN fun _ _ _ _ _ _ us hl => match us, hl with | [_], _ => rfl⟩
  have G_folded_sign : FnX P w K mg base "folded_sign" 1 ["number"] (spF K [.fz] f_folded_sign .fz) := ⟨_, fd_folded_sign, ok_folded_sign F_folded_sign B C, M_folded_sign, F_folded_sign.kp, F_folded_sign.bindsN fun _ _ _ _ _ _ us hl => match us, hl with | [_], _ => rfl⟩
  have G_unfolded_sign : FnX P w K mg base "unfolded_sign" 1 ["number"] (spF K [.fz] f_unfolded_sign .fz) := ⟨_, fd_unfolded_sign, ok_unfolded_sign F_unfolded_sign B C, M_unfolded_sign, F_unfolded_sign.kp, F_unfolded_sign.bindsN fun _ _ _ _ _ _ us hl => match us, hl with | [_], _ => rfl⟩
  have G_look_lines : FnX P w K mg base "look_lines" 3 ["lines"] (spF K [.fz] f_look_lines .fz) := ⟨_, fd_look_lines, ok_look_lines F_look_lines B C G_is_line, M_look_lines, F_look_lines.kp, F_look_lines.bindsN fun _ _ _ _ _ _ us hl => match us, hl with | [_], _ => rfl⟩
  have G_pack_lines : FnX P w K mg base "pack_lines" 4 ["lines"] (spF K [.fz] f_pack_lines .ow) := ⟨_, fd_pack_lines, ok_pack_lines F_pack_lines B C G_folded_sign G_look_lines G_pack_all, M_pack_lines, F_pack_lines.kp, F_pack_lines.bindsN fun _ _ _ _ _ _ us hl => match us, hl with | [_], _ => rfl⟩
  have G_unpack_lines : FnX P w K mg base "unpack_lines" 4 ["parts"] (spF K [.fz] f_unpack_lines .fz) := ⟨_, fd_unpack_lines, ok_unpack_lines F_unpack_lines B C G_look_lines G_unfolded_sign G_unpack_all, M_unpack_lines, F_unpack_lines.kp, F_unpack_lines.bindsN fun _ _ _ _ _ _ us hl => match us, hl with | [_], _ => rfl⟩
  have G__law_town : FnX P w K mg base "_law_town" 1 ["_law_script"] (spF K [.fz] f__law_town .ow) := ⟨_, fd__law_town, ok__law_town F__law_town B C, M__law_town, F__law_town.kp, F__law_town.bindsN fun _ _ _ _ _ _ us hl => match us, hl with | [_], _ => rfl⟩
  have G__law_draw : FnX P w K mg base "_law_draw" 1 ["_law_script", "_law_town_here", "_law_many"] (spF K [.fz, .io, .fz] f__law_draw .fz) := ⟨_, fd__law_draw, ok__law_draw F__law_draw B C, M__law_draw, F__law_draw.kp, F__law_draw.bindsN fun _ _ _ _ _ _ us hl => match us, hl with | [_, _, _], _ => rfl⟩
  have G__law_pick : FnX P w K mg base "_law_pick" 2 ["_law_script", "_law_town_here", "_law_some"] (spF K [.fz, .io, .fz] f__law_pick .fz) := ⟨_, fd__law_pick, ok__law_pick F__law_pick B C G__law_draw, M__law_pick, F__law_pick.kp, F__law_pick.bindsN fun _ _ _ _ _ _ us hl => match us, hl with | [_, _, _], _ => rfl⟩
  have G__law_whole : FnX P w K mg base "_law_whole" 1 ["_law_thing"] (spF K [.fz] f__law_whole .fz) := ⟨_, fd__law_whole, ok__law_whole F__law_whole B C, M__law_whole, F__law_whole.kp, F__law_whole.bindsN fun _ _ _ _ _ _ us hl => match us, hl with | [_], _ => rfl⟩
  have G__law_wholes : FnX P w K mg base "_law_wholes" 2 ["_law_thing"] (spF K [.fz] f__law_wholes .fz) := ⟨_, fd__law_wholes, ok__law_wholes F__law_wholes B C G__law_whole, M__law_wholes, F__law_wholes.kp, F__law_wholes.bindsN fun _ _ _ _ _ _ us hl => match us, hl with | [_], _ => rfl⟩
  have G__law_parts : FnX P w K mg base "_law_parts" 1 ["_law_number"] (spF K [.fz] f__law_parts .fz) := ⟨_, fd__law_parts, ok__law_parts F__law_parts B C, M__law_parts, F__law_parts.kp, F__law_parts.bindsN fun _ _ _ _ _ _ us hl => match us, hl with | [_], _ => rfl⟩
  have G__law_table : FnX P w K mg base "_law_table" 3 ["_law_script", "_law_town_here"] (spF K [.fz, .io] f__law_table .fz) := ⟨_, fd__law_table, ok__law_table F__law_table B C G__law_draw G__law_pick, M__law_table, F__law_table.kp, F__law_table.bindsN fun _ _ _ _ _ _ us hl => match us, hl with | [_, _], _ => rfl⟩
  exact ok_law F_law B C G__law_draw G__law_parts G__law_pick G__law_table G__law_town G__law_wholes G_pack_lines G_pack_table G_unpack_lines G_unpack_table
/-- the law, over what its text computes -/
theorem law_sp {K : PySem.W.Frag} (hl : ∀ ns : List Int, ns.length ≤ 63 → ∃ o, f_law [some (.list (ns.map PyData.int))] = some (.bool true, o)) (H : Hp) (a : Addr) (ns : List Int) (hn : ns.length ≤ 63) (hS : SqL K H a (ns.map V.int)) : spF K [.fz] f_law .fz [.ref a] H (fun v _ => v = .bl true) fun _ _ _ => False := by
  obtain ⟨o, e⟩ := hl ns hn
  exact law_sp0 e hS
end DL
open PySem PySem.W PySem.Calls PyProof.Rows
theorem PySem.Challenge.cw_codemill_k75_whole_packed_holds : PySem.Challenge.rw_codemill_k75_whole_packed.Holds := by
  w_on; o_law
  refine HandSHeadRun.head_any (r := OpenLaw.row PySem.Challenge.rw_codemill_k75_whole_packed) (q := view (OpenLaw.row PySem.Challenge.rw_codemill_k75_whole_packed).prog [30]) (H := DL.hk) (ob := DL.ob) (M := 1200) (loose := ["MillError", "BadBytes", "is_number", "is_entry", "is_line", "PART", "GREAT_PLACE", "pack_number", "pack_all", "unpack_all", "look_table", "pack_table", "unpack_table", "folded_sign", "unfolded_sign", "look_lines", "pack_lines", "unpack_lines", "_law_town", "_law_draw", "_law_pick", "_law_whole", "_law_wholes", "_law_parts", "_law_table"]) (d := HandSHeadRun.topDef (OpenLaw.row PySem.Challenge.rw_codemill_k75_whole_packed).prog 30) (kwd := []) DL.ob_eq
    (by kernel_rfl) (fun s => by kernel_rfl) DL.run (by kernel_rfl) (by kernel_rfl) (by kernel_rfl) (by rfl) (by first | assumption | decide +kernel) (by decide +kernel) ⟨rfl, rfl, rfl, rfl, rfl, by decide +kernel⟩ ?hw ?hc
  case hw => w_witness2
  case hc =>
    refine DL.walk_law (l := PySem.Challenge.rw_codemill_k75_whole_packed) (n := 63) (k := 5) (x := "_law_script") rfl (by decide) (by kernel_rfl) ⟨rfl, by decide, by decide⟩ fun w mg fa h Y G hmg0 => ?_
    obtain ⟨K, KX, c⟩ := Y
    have hn : (HandSHeadRun.topDef (OpenLaw.row PySem.Challenge.rw_codemill_k75_whole_packed).prog 30).name = ("law" : PySem.Str) := by kernel_rfl
    obtain ⟨fd, hb, hF⟩ := DL.facts (P := PySem.Challenge.rw_codemill_k75_whole_packed.prog) (w := w) KX G (by rw [← hn]; exact hmg0) c
    exact ⟨K, fd, _, KX, hb, fun H a ns hl hS => DL.law_sp DL.law_true H a ns hl hS, hF⟩

