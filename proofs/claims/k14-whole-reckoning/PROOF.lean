import PyProof.Rows.All
import Wide.All
import OpenK.AllK
import Wide.FinOn
import HandS.ForMost
import HandS.ForExc
import HandS.IsInst
import HandS.Wide
import HandS.Flow
import HandS.Deep
import HandS.Zip
import HandS.HeadHook1
import HandS.Style
import HandS.TupAny
import HandS.Steps
import HandS.Walk
import HandS.NoneIn
import HandS.Defaults
import HandS.HeadEnd
import HandS.RevRange
import HandS.HeadHook2
import HandS.HeadHook3
import HandS.HeadHook4
import HandS.Zip0
import HandS.FStr
import HandS.More
import HandS.DictComp
import KE.KUnpackStar
import PyProof.MakeMany
import PyProof.FactsLen
import HandS.WordsDict
import HandS.Text
import HandS.Small
import HandS.Head0
import HandS.Head1
import HandS.Head2
import HandS.Words
import HandS.WordsExc
import PySem.Challenge.RW_codemill_k14_whole_reckoning
set_option Elab.async false
set_option linter.all false
set_option maxRecDepth 100000
set_option maxHeartbeats 0
set_option autoImplicit false
/-! DL: Python on plain data. The core: frozen data, owned objects, worlds, steps. -/
namespace DL
open PySem PySem.Spec PyProof.Rows L2

abbrev D := PyData
abbrev En := List (Option D)

/-- kinds of slots -/
inductive Kd where
  | fz | ow | io | lk | li
  /-- the object whose attributes stand ahead of it -/
  | cell (o : Nat) (c : Str) (as : List Str)
  deriving DecidableEq
def Kd.own : Kd → Bool
  | .fz => false
  | .cell _ _ _ => false
  | _ => true
def Kd.pin : Kd → Bool
  | .io => true
  | .lk => true
  | .li => true
  | _ => false
def Kd.lock : Kd → Bool
  | .lk => true
  | .li => true
  | _ => false
theorem Kd.pin_of {k : Kd} (h : k.lock = true) : k.pin = true := by
  cases k <;> first | rfl | cases h
theorem Kd.own_of {k : Kd} (h : k.lock = true) : k.own = true := by
  cases k <;> first | rfl | cases h
/-- kinds of results: frozen, owned and new, a slot lent -/
inductive Ak where
  | fz | ow | br (i : Nat)
  deriving DecidableEq

def kD : Key → D
  | .inl i => .int i
  | .inr x => .str x

mutual
/-- v is d, as long as what is frozen stays -/
def Rp (K : PySem.W.Frag) (F : Hp) : D → V → Prop
  | .none, v => v = .non
  | .bool b, v => v = .bl b
  | .int i, v => v = .int i
  | .str x, v => v = .str x
  | .list ds, v => ∃ a xs, v = .ref a ∧ SqL K F a xs ∧ RpA K F ds xs
  | .tuple ds, v => ∃ a xs, v = .ref a ∧ SqT K F a xs ∧ RpA K F ds xs
  | .dict kvs, v => ∃ a vs, v = .ref a ∧ Rd F a (.dK vs) ∧ RpD K F kvs vs
def RpA (K : PySem.W.Frag) (F : Hp) : List D → List V → Prop
  | [], xs => xs = []
  | d :: ds, xs => ∃ v vs, xs = v :: vs ∧ Rp K F d v ∧ RpA K F ds vs
def RpD (K : PySem.W.Frag) (F : Hp) : List (D × D) → List (Key × V) → Prop
  | [], vs => vs = []
  | (k, d) :: r, vs => ∃ q v vr, vs = (q, v) :: vr ∧ k = kD q ∧ Rp K F d v ∧ RpD K F r vr
end

theorem same_rd {F F' : Hp} (e : Same F F') {a : Addr} {o : HO} (h : Rd F a o) : Rd F' a o := by
  rcases h with h | ⟨u, h⟩
  · exact .inl (e _ _ h)
  · exact .inr ⟨u, e _ _ h⟩
theorem same_sqt {K : PySem.W.Frag} {F F' : Hp} (e : Same F F') {a : Addr} {xs : List V} (h : SqT K F a xs) : SqT K F' a xs := by
  rcases h with h | h
  · exact .inl (same_rd e h)
  · exact .inr h

mutual
theorem Rp.mono {K : PySem.W.Frag} {F F' : Hp} (e : Same F F') : ∀ (d : D) (v : V), Rp K F d v → Rp K F' d v
  | .none, _, h => h
  | .bool _, _, h => h
  | .int _, _, h => h
  | .str _, _, h => h
  | .list ds, _, h => by
    obtain ⟨a, xs, h1, h2, h3⟩ := h
    exact ⟨a, xs, h1, e.seq h2, RpA.mono e ds xs h3⟩
  | .tuple ds, _, h => by
    obtain ⟨a, xs, h1, h2, h3⟩ := h
    exact ⟨a, xs, h1, same_sqt e h2, RpA.mono e ds xs h3⟩
  | .dict kvs, _, h => by
    obtain ⟨a, vs, h1, h2, h3⟩ := h
    exact ⟨a, vs, h1, same_rd e h2, RpD.mono e kvs vs h3⟩
theorem RpA.mono {K : PySem.W.Frag} {F F' : Hp} (e : Same F F') : ∀ (ds : List D) (vs : List V), RpA K F ds vs → RpA K F' ds vs
  | [], _, h => h
  | d :: ds, _, h => by
    obtain ⟨v, vs, h1, h2, h3⟩ := h
    exact ⟨v, vs, h1, Rp.mono e d v h2, RpA.mono e ds vs h3⟩
theorem RpD.mono {K : PySem.W.Frag} {F F' : Hp} (e : Same F F') : ∀ (ds : List (D × D)) (vs : List (Key × V)), RpD K F ds vs → RpD K F' ds vs
  | [], _, h => h
  | (k, d) :: r, _, h => by
    obtain ⟨q, v, vr, h1, h2, h3, h4⟩ := h
    exact ⟨q, v, vr, h1, h2, Rp.mono e d v h3, RpD.mono e r vr h4⟩
end

section
variable {K : PySem.W.Frag} {F : Hp}
theorem RpA.length : ∀ {ds : List D} {vs : List V}, RpA K F ds vs → vs.length = ds.length
  | [], _, h => by
    have h : _ = [] := h
    rw [h]
    rfl
  | d :: ds, _, h => by
    obtain ⟨v, vs, h1, h2, h3⟩ := h
    rw [h1, List.length_cons, List.length_cons, RpA.length h3]
theorem RpA.nil : RpA K F [] [] := rfl
theorem RpA.cons {d : D} {v : V} {ds : List D} {vs : List V} (h : Rp K F d v) (t : RpA K F ds vs) : RpA K F (d :: ds) (v :: vs) := ⟨v, vs, rfl, h, t⟩
theorem RpA.inv_cons {d : D} {v : V} {ds : List D} {vs : List V} (h : RpA K F (d :: ds) (v :: vs)) : Rp K F d v ∧ RpA K F ds vs := by
  obtain ⟨v', vs', h1, h2, h3⟩ := h
  injection h1 with e1 e2
  subst e1 e2
  exact ⟨h2, h3⟩
theorem RpA.append : ∀ {ds es : List D} {vs us : List V}, RpA K F ds vs → RpA K F es us → RpA K F (ds ++ es) (vs ++ us)
  | [], es, vs, us, h, g => by
    have h : vs = [] := h
    rw [h]
    exact g
  | d :: ds, es, _, us, h, g => by
    obtain ⟨v, vs, h1, h2, h3⟩ := h
    rw [h1]
    exact .cons h2 (RpA.append h3 g)
theorem RpA.get : ∀ {ds : List D} {vs : List V} {i : Nat} {d : D}, RpA K F ds vs → ds[i]? = some d → ∃ v, vs[i]? = some v ∧ Rp K F d v
  | [], _, _, _, _, e => by simp at e
  | d :: ds, _, 0, d', h, e => by
    obtain ⟨v, vs, h1, h2, h3⟩ := h
    have e : d = d' := by simpa using e
    subst e h1
    exact ⟨v, rfl, h2⟩
  | d :: ds, _, i + 1, d', h, e => by
    obtain ⟨v, vs, h1, h2, h3⟩ := h
    subst h1
    obtain ⟨u, q1, q2⟩ := RpA.get (i := i) (d := d') h3 (by simpa using e)
    exact ⟨u, by simpa using q1, q2⟩
theorem RpA.getV {ds : List D} {vs : List V} {i : Nat} {v : V} (h : RpA K F ds vs) (e : vs[i]? = some v) : ∃ d, ds[i]? = some d ∧ Rp K F d v := by
  have hl := h.length
  have hi : i < ds.length := by
    have := (List.getElem?_eq_some_iff.mp e).1
    omega
  obtain ⟨u, q1, q2⟩ := h.get (List.getElem?_eq_getElem hi)
  rw [e] at q1
  cases q1
  exact ⟨_, List.getElem?_eq_getElem hi, q2⟩
theorem RpA.set {d : D} {v : V} (g : Rp K F d v) : ∀ {ds : List D} {vs : List V} (i : Nat), RpA K F ds vs → RpA K F (ds.set i d) (vs.set i v)
  | [], vs, i, h => by
    have h : vs = [] := h
    rw [h]
    exact rfl
  | _ :: ds, _, 0, h => by
    obtain ⟨v, vs, h1, h2, h3⟩ := h
    rw [h1]
    exact .cons g h3
  | _ :: ds, _, i + 1, h => by
    obtain ⟨v, vs, h1, h2, h3⟩ := h
    rw [h1]
    exact .cons h2 (RpA.set g i h3)
theorem RpA.take : ∀ {ds : List D} {vs : List V} (n : Nat), RpA K F ds vs → RpA K F (ds.take n) (vs.take n)
  | [], vs, n, h => by
    have h : vs = [] := h
    rw [h, List.take_nil, List.take_nil]
    exact rfl
  | d :: ds, _, 0, h => by
    rw [List.take_zero, List.take_zero]
    exact rfl
  | d :: ds, _, n + 1, h => by
    obtain ⟨v, vs, h1, h2, h3⟩ := h
    rw [h1]
    exact .cons h2 (RpA.take n h3)
theorem RpA.drop : ∀ {ds : List D} {vs : List V} (n : Nat), RpA K F ds vs → RpA K F (ds.drop n) (vs.drop n)
  | [], vs, n, h => by
    have h : vs = [] := h
    rw [h, List.drop_nil, List.drop_nil]
    exact rfl
  | d :: ds, _, 0, h => h
  | d :: ds, _, n + 1, h => by
    obtain ⟨v, vs, h1, h2, h3⟩ := h
    rw [h1]
    exact RpA.drop n h3
theorem RpA.reverse : ∀ {ds : List D} {vs : List V}, RpA K F ds vs → RpA K F ds.reverse vs.reverse
  | [], vs, h => by
    have h : vs = [] := h
    rw [h]
    exact rfl
  | d :: ds, _, h => by
    obtain ⟨v, vs, h1, h2, h3⟩ := h
    rw [h1, List.reverse_cons, List.reverse_cons]
    exact (RpA.reverse h3).append (.cons h2 .nil)
theorem RpA.one {d : D} {vs : List V} (h : RpA K F [d] vs) : ∃ v, vs = [v] ∧ Rp K F d v := by
  obtain ⟨v, vs, h1, h2, h3⟩ := h
  have h3 : vs = [] := h3
  rw [h3] at h1
  exact ⟨v, h1, h2⟩
theorem RpA.two {d e : D} {vs : List V} (h : RpA K F [d, e] vs) : ∃ v u, vs = [v, u] ∧ Rp K F d v ∧ Rp K F e u := by
  obtain ⟨v, vs, h1, h2, h3⟩ := h
  obtain ⟨u, rfl, h4⟩ := h3.one
  exact ⟨v, u, h1, h2, h4⟩
end

/-! ### what is owned -/
/-- the content of an owned object -/
def OwnC (K : PySem.W.Frag) (F : Hp) (o : HO) : D → Prop
  | .list ds => ∃ xs, o = .lst xs ∧ RpA K F ds xs
  | .dict kvs => ∃ vs, o = .dK vs ∧ RpD K F kvs vs
  | _ => False
def OwnO (K : PySem.W.Frag) (F H : Hp) (p : Addr) (d : D) : Prop := ∃ o, H p = some o ∧ OwnC K F o d
theorem OwnC.mono {K : PySem.W.Frag} {F F' : Hp} (e : Same F F') {o : HO} : ∀ {d : D}, OwnC K F o d → OwnC K F' o d
  | .none, h => h
  | .bool _, h => h
  | .int _, h => h
  | .str _, h => h
  | .tuple _, h => h
  | .list ds, ⟨xs, h1, h2⟩ => ⟨xs, h1, h2.mono e⟩
  | .dict kvs, ⟨xs, h1, h2⟩ => ⟨xs, h1, h2.mono e⟩
theorem OwnO.mono {K : PySem.W.Frag} {F F' H H' : Hp} {p : Addr} {d : D} (e : Same F F') (h : OwnO K F H p d) (k : ∀ o, H p = some o → H' p = some o) : OwnO K F' H' p d := by
  obtain ⟨o, h1, h2⟩ := h
  exact ⟨o, k o h1, h2.mono e⟩
/-- frozen from now on -/
theorem OwnC.rp {K : PySem.W.Frag} {F : Hp} {p : Addr} {o : HO} (hp : F p = some o) : ∀ {d : D}, OwnC K F o d → Rp K F d (.ref p)
  | .none, h => h.elim
  | .bool _, h => h.elim
  | .int _, h => h.elim
  | .str _, h => h.elim
  | .tuple _, h => h.elim
  | .list ds, ⟨xs, h1, h2⟩ => ⟨p, xs, rfl, .inl (.inl (by rw [hp, h1])), h2⟩
  | .dict kvs, ⟨xs, h1, h2⟩ => ⟨p, xs, rfl, .inl (by rw [hp, h1]), h2⟩

/-! ### worlds -/
structure Wd where
  F : Hp
  H : Hp
  σ : L2.St
  ρ : En
/-- the attributes' names; none without an object -/
def ats (O : List Kd) : List Str := match O.getLast? with
  | some (.cell _ _ as) => as
  | _ => []
def hasO (O : List Kd) : Bool := match O.getLast? with
  | some (.cell _ _ _) => true
  | _ => false
/-- how many of the slots are local names -/
def nl (O : List Kd) : Nat := if hasO O = true then O.length - (ats O).length - 1 else O.length
/-- what the object at p has -/
def attrs (H : Hp) (p : Addr) : List (Str × V) := match H p with
  | some (.ins _ _ fs) => fs
  | _ => []
/-- the object's own slot -/
def oi (O : List Kd) : Nat := match O.getLast? with
  | some (.cell o _ _) => o
  | _ => 0
/-- the object's class -/
def cn (O : List Kd) : Str := match O.getLast? with
  | some (.cell _ c _) => c
  | _ => Str.empty
/-- the object's address -/
def ob (O : List Kd) (σ : L2.St) : Addr := match σ[oi O]? with
  | some (some (V.ref p)) => p
  | _ => (0 : Nat)
/-- a slot's value -/
def sv (O : List Kd) (H : Hp) (σ : L2.St) (i : Nat) : Option (Option V) := if i < nl O then σ[i]? else match (ats O)[i - nl O]? with
  | some a => some ((attrs H (ob O σ)).lookup a)
  | none => none
abbrev Wd.sv (w : Wd) (O : List Kd) (i : Nat) : Option (Option V) := DL.sv O w.H w.σ i
theorem sv_loc {O : List Kd} {H : Hp} {σ : L2.St} {i : Nat} (h : i < nl O) : sv O H σ i = σ[i]? := if_pos h
def OwnAt (O : List Kd) (w : Wd) (i : Nat) (p : Addr) : Prop := ∃ (k : Kd) (d : D), O[i]? = some k ∧ k.own = true ∧ w.ρ[i]? = some (some d) ∧ w.sv O i = some (some (.ref p))
def Fp (O : List Kd) (w : Wd) (p : Addr) : Prop := ∃ i, OwnAt O w i p
/-- an object's attributes: each once, of the told names -/
def KeysOk (as : List Str) (fs : List (Str × V)) : Prop := (fs.map (·.1)).Nodup ∧ ∀ f, f ∈ fs.map (·.1) → f ∈ as
/-- the object stands -/
structure ObOk (K : PySem.W.Frag) (O : List Kd) (w : Wd) : Prop where
  at0 : w.σ[oi O]? = some (some (.ref (ob O w.σ)))
  n0 : oi O < nl O
  ex : ∃ C dx fs, w.H (ob O w.σ) = some (.ins C dx fs) ∧ w.H dx = some (.own (ob O w.σ))
  fr : w.F (ob O w.σ) = none
  nf : ¬ Fp O w (ob O w.σ)
  cls : ∀ C dx fs, w.H (ob O w.σ) = some (.ins C dx fs) → C = He.ga K (cn O) ∧ KeysOk (ats O) fs
structure Ok (K : PySem.W.Frag) (O : List Kd) (w : Wd) : Prop where
  sub : Same w.F w.H
  ls : w.σ.length = nl O
  lr : w.ρ.length = O.length
  fz : ∀ (i : Nat) (d : D), O[i]? = some Kd.fz → w.ρ[i]? = some (some d) → ∃ v : V, w.sv O i = some (some v) ∧ Rp K w.F d v
  ow : ∀ (i : Nat) (k : Kd) (d : D), O[i]? = some k → k.own = true → w.ρ[i]? = some (some d) → ∃ p : Addr, w.sv O i = some (some (.ref p)) ∧ w.F p = none ∧ OwnO K w.F w.H p d
  ap : ∀ i j p, OwnAt O w i p → OwnAt O w j p → i = j
  obj : hasO O = true → ObOk K O w
/-- a statement's step: the object may have changed -/
structure StpS (O : List Kd) (w w' : Wd) : Prop where
  ex : Same w.F w'.F
  kp : ∀ b o, w.H b = some o → ¬ Fp O w b → (hasO O = true → b ≠ ob O w.σ) → w'.H b = some o
  nw : ∀ b o, w.H b = some o → ¬ Fp O w b → w.F b = none → w'.F b = none
  fp : ∀ b, Fp O w' b → Fp O w b ∨ w.H b = none
  pn : ∀ (i : Nat) (k : Kd), O[i]? = some k → k.pin = true → w'.sv O i = w.sv O i
  lk : ∀ (i : Nat) (k : Kd), O[i]? = some k → k.lock = true → w'.ρ[i]? = w.ρ[i]?
  lo : ∀ (i : Nat) (k : Kd) (p : Addr) (d : D), O[i]? = some k → k.lock = true → w.ρ[i]? = some (some d) → w.sv O i = some (some (.ref p)) → w'.H p = w.H p
  o0 : hasO O = true → ob O w'.σ = ob O w.σ ∧ (w.H (ob O w.σ) ≠ none → w'.H (ob O w.σ) ≠ none)
/-- an expression's step: the object is as it was -/
structure Stp (O : List Kd) (w w' : Wd) : Prop extends StpS O w w' where
  ost : hasO O = true → w'.H (ob O w.σ) = w.H (ob O w.σ)
instance {O : List Kd} {w w' : Wd} : Coe (Stp O w w') (StpS O w w') := ⟨Stp.toStpS⟩
/-- how a result stands -/
def Rs (K : PySem.W.Frag) (O : List Kd) (w w' : Wd) (k : Ak) (d : D) (v : V) : Prop := match k with
  | .fz => Rp K w'.F d v
  | .ow => ∃ p : Addr, v = .ref p ∧ w'.F p = none ∧ OwnO K w'.F w'.H p d ∧ ¬ Fp O w' p ∧ (Fp O w p ∨ w.H p = none) ∧ (hasO O = true → p ≠ ob O w'.σ)
  | .br i => w'.sv O i = some (some v) ∧ ∃ q : Kd, O[i]? = some q ∧ q.own = true

section
variable {K : PySem.W.Frag} {O : List Kd} {w w1 w2 : Wd}
theorem Ok.ownF (ok : Ok K O w) {p : Addr} (h : Fp O w p) : w.F p = none ∧ ∃ o, w.H p = some o := by
  obtain ⟨i, k, d, h1, h2, h3, h4⟩ := h
  obtain ⟨q, e1, e2, o, e3, e4⟩ := ok.ow i k d h1 h2 h3
  rw [h4] at e1
  cases e1
  exact ⟨e2, o, e3⟩
theorem Stp.refl (O : List Kd) (w : Wd) : Stp O w w := ⟨⟨Same.refl _, fun _ _ h _ _ => h, fun _ _ _ _ h => h, fun _ h => .inl h, fun _ _ _ _ => rfl, fun _ _ _ _ => rfl, fun _ _ _ _ _ _ _ _ => rfl, fun _ => ⟨rfl, id⟩⟩, fun _ => rfl⟩
theorem StpS.refl (O : List Kd) (w : Wd) : StpS O w w := (Stp.refl O w).toStpS
theorem Stp.kp' (a : Stp O w w1) {b : Addr} {o : HO} (h : w.H b = some o) (z : ¬ Fp O w b) : w1.H b = some o := by
  by_cases e : hasO O = true ∧ b = ob O w.σ
  · obtain ⟨e1, e2⟩ := e
    subst e2
    rw [a.ost e1]
    exact h
  · exact a.kp b o h z fun e1 e2 => e ⟨e1, e2⟩
theorem StpS.back (a : StpS O w w1) {b : Addr} (h : w1.H b = none) : Fp O w b ∨ w.H b = none := by
  cases e : w.H b with
  | none => exact .inr rfl
  | some o =>
    refine .inl (Classical.byContradiction fun z => ?_)
    by_cases e2 : hasO O = true ∧ b = ob O w.σ
    · obtain ⟨e1, e2⟩ := e2
      subst e2
      exact (a.o0 e1).2 (by rw [e]; exact fun z => by cases z) h
    · rw [a.kp b o e z fun e1 e3 => e2 ⟨e1, e3⟩] at h
      cases h
theorem StpS.nofp (a : StpS O w w1) {b : Addr} {o : HO} (h : w.H b = some o) (z : ¬ Fp O w b) : ¬ Fp O w1 b := fun q => by
  rcases a.fp b q with q | q
  · exact z q
  · rw [h] at q
    cases q
theorem StpS.trans (a : StpS O w w1) (b : StpS O w1 w2) : StpS O w w2 where
  ex := a.ex.trans b.ex
  kp := fun c o h z y => b.kp c o (a.kp c o h z y) (a.nofp h z) fun e => by rw [(a.o0 e).1]; exact y e
  nw := fun c o h z f => by
    have f1 := a.nw c o h z f
    cases e : w1.H c with
    | none =>
      exact (Classical.byContradiction fun y => by
        rcases a.back e with q | q
        · exact z q
        · rw [h] at q
          cases q)
    | some o1 => exact b.nw c o1 e (a.nofp h z) f1
  fp := fun c h => by
    rcases b.fp c h with h | h
    · exact a.fp c h
    · exact a.back h
  pn := fun i k h1 h2 => (b.pn i k h1 h2).trans (a.pn i k h1 h2)
  lk := fun i k h1 h2 => (b.lk i k h1 h2).trans (a.lk i k h1 h2)
  lo := fun i k p d h1 h2 h3 h4 => (b.lo i k p d h1 h2 ((a.lk i k h1 h2).trans h3) ((a.pn i k h1 (Kd.pin_of h2)).trans h4)).trans (a.lo i k p d h1 h2 h3 h4)
  o0 := fun e => by
    obtain ⟨a1, a2⟩ := a.o0 e
    obtain ⟨b1, b2⟩ := b.o0 e
    rw [a1] at b1 b2
    exact ⟨b1, fun z => b2 (a2 z)⟩
theorem Stp.trans (a : Stp O w w1) (b : Stp O w1 w2) : Stp O w w2 := ⟨a.toStpS.trans b.toStpS, fun e => by
  have z := b.ost e
  rw [(a.o0 e).1] at z
  exact z.trans (a.ost e)⟩
theorem Stp.back (a : Stp O w w1) {b : Addr} (h : w1.H b = none) : Fp O w b ∨ w.H b = none := a.toStpS.back h
theorem Stp.nofp (a : Stp O w w1) {b : Addr} {o : HO} (h : w.H b = some o) (z : ¬ Fp O w b) : ¬ Fp O w1 b := a.toStpS.nofp h z
theorem sv_same {H H' : Hp} {σ : L2.St} {i : Nat} (h : hasO O = true → H' (ob O σ) = H (ob O σ)) : sv O H' σ i = sv O H σ i := by
  unfold sv
  split
  · rfl
  · rename_i z
    cases e : hasO O with
    | false =>
      have : ats O = [] := by
        unfold hasO at e
        unfold ats
        split at e
        · cases e
        · first
            | rfl
            | (rename_i y
               split
               · rename_i _ _ as e2
                 exact (y _ _ as e2).elim
               · rfl)
      rw [this]
      rfl
    | true =>
      unfold attrs
      rw [h e]
theorem own_same {F F' H H' : Hp} {σ : L2.St} {ρ : En} {i : Nat} {b : Addr} (h : hasO O = true → H' (ob O σ) = H (ob O σ)) : OwnAt O ⟨F', H', σ, ρ⟩ i b ↔ OwnAt O ⟨F, H, σ, ρ⟩ i b := by
  show (∃ k d, _ ∧ _ ∧ _ ∧ sv O H' σ i = _) ↔ ∃ k d, _ ∧ _ ∧ _ ∧ sv O H σ i = _
  rw [sv_same h]
theorem fp_same {F F' H H' : Hp} {σ : L2.St} {ρ : En} {b : Addr} (h : hasO O = true → H' (ob O σ) = H (ob O σ)) : Fp O ⟨F', H', σ, ρ⟩ b ↔ Fp O ⟨F, H, σ, ρ⟩ b :=
  ⟨fun ⟨i, z⟩ => ⟨i, (own_same h).mp z⟩, fun ⟨i, z⟩ => ⟨i, (own_same h).mpr z⟩⟩
/-! ### a local stored -/
theorem ob_set {σ : L2.St} {i : Nat} {x : Option V} (h : i ≠ oi O) : ob O (σ.set i x) = ob O σ := by
  unfold ob
  rw [List.getElem?_set_ne h]
theorem no_ats (h : hasO O = false) : ats O = [] := by
  unfold hasO at h
  unfold ats
  split at h
  · cases h
  · first
      | rfl
      | (rename_i y
         split
         · rename_i _ _ as e2
           exact (y _ _ as e2).elim
         · rfl)
theorem sv_ob {H : Hp} {σ σ' : L2.St} {j : Nat} (h : hasO O = false ∨ ob O σ' = ob O σ) (hj : ¬ j < nl O) : sv O H σ' j = sv O H σ j := by
  unfold sv
  rw [if_neg hj, if_neg hj]
  rcases h with h | h
  · rw [no_ats h]
    rfl
  · rw [h]
theorem sv_set_ne {H : Hp} {σ : L2.St} {i j : Nat} {x : Option V} (h0 : hasO O = false ∨ i ≠ oi O) (e : i ≠ j) : sv O H (σ.set i x) j = sv O H σ j := by
  by_cases hj : j < nl O
  · rw [sv_loc hj, sv_loc hj, List.getElem?_set_ne e]
  · exact sv_ob (h0.imp id ob_set) hj
theorem sv_set_eq {H : Hp} {σ : L2.St} {i : Nat} {x : Option V} (hl : i < nl O) (hi : i < σ.length) : sv O H (σ.set i x) i = some x := by
  rw [sv_loc hl, List.getElem?_set_self hi]
/-- a result stays through a further step -/
theorem Rs.step {k : Ak} {d : D} {v : V} (h : Rs K O w w1 k d v) (b : Stp O w1 w2) (hs : w2.σ = w1.σ) : Rs K O w w2 k d v := by
  cases k with
  | fz => exact Rp.mono b.ex _ _ h
  | ow =>
    obtain ⟨p, e, h1, h2, h3, h4, h5⟩ := h
    obtain ⟨o, e1, e2⟩ := h2
    exact ⟨p, e, b.nw p o e1 h3 h1, ⟨o, b.kp' e1 h3, e2.mono b.ex⟩, b.nofp e1 h3, h4, fun z => by rw [hs]; exact h5 z⟩
  | br i =>
    obtain ⟨h1, h2⟩ := h
    refine ⟨?_, h2⟩
    show sv O w2.H w2.σ i = _
    rw [hs, sv_same (H := w1.H) b.ost]
    exact h1
/-- .. and counts from an earlier world -/
theorem Rs.pre {k : Ak} {d : D} {v : V} (a : StpS O w w1) (h : Rs K O w1 w2 k d v) : Rs K O w w2 k d v := by
  cases k with
  | fz => exact h
  | ow =>
    obtain ⟨p, e, h1, h2, h3, h4, h5⟩ := h
    refine ⟨p, e, h1, h2, h3, ?_, h5⟩
    rcases h4 with h4 | h4
    · exact a.fp p h4
    · exact a.back h4
  | br i => exact h
/-- nothing but new objects: what holds behind -/
structure Pur (F H F' H' : Hp) : Prop where
  ex : Same F F'
  hh : Same H H'
  sub : Same F' H'
  nw : ∀ b o, H b = some o → F b = none → F' b = none
theorem Pur.refl {F H : Hp} (s : Same F H) : Pur F H F H := ⟨.refl _, .refl _, s, fun _ _ _ h => h⟩
theorem Ok.pur {F' H' : Hp} (ok : Ok K O w) (p : Pur w.F w.H F' H') : Ok K O ⟨F', H', w.σ, w.ρ⟩ ∧ Stp O w ⟨F', H', w.σ, w.ρ⟩ := by
  have hO : hasO O = true → H' (ob O w.σ) = w.H (ob O w.σ) := fun e => by
    obtain ⟨C, dx, fs, e1, _⟩ := (ok.obj e).ex
    rw [e1]
    exact p.hh _ _ e1
  have hs : ∀ i, sv O H' w.σ i = w.sv O i := fun i => sv_same hO
  have hA : ∀ i b, OwnAt O ⟨F', H', w.σ, w.ρ⟩ i b ↔ OwnAt O w i b := fun i b => by
    show (∃ k d, _ ∧ _ ∧ _ ∧ sv O H' w.σ i = _) ↔ _
    rw [hs]
    exact Iff.rfl
  have hF : ∀ b, Fp O ⟨F', H', w.σ, w.ρ⟩ b ↔ Fp O w b := fun b => ⟨fun ⟨i, h⟩ => ⟨i, (hA i b).mp h⟩, fun ⟨i, h⟩ => ⟨i, (hA i b).mpr h⟩⟩
  refine ⟨⟨p.sub, ok.ls, ok.lr, fun i d h1 h2 => ?_, fun i k d h1 h2 h3 => ?_, fun i j b h1 h2 => ok.ap i j b ((hA i b).mp h1) ((hA j b).mp h2), fun e => ?_⟩, ⟨p.ex, fun b o h _ _ => p.hh b o h, fun b o h _ f => p.nw b o h f, fun b h => .inl ((hF b).mp h), fun i _ _ _ => hs i, fun _ _ _ _ => rfl, fun i k q d h1 h2 h3 h4 => ?_, fun e => ⟨rfl, fun z y => ?_⟩⟩, hO⟩
  · obtain ⟨v, e, r⟩ := ok.fz i d h1 h2
    exact ⟨v, (hs i).trans e, r.mono p.ex⟩
  · obtain ⟨q, e, f, o, e1, e2⟩ := ok.ow i k d h1 h2 h3
    exact ⟨q, (hs i).trans e, p.nw q o e1 f, o, p.hh q o e1, e2.mono p.ex⟩
  · obtain ⟨a0, a1, ⟨C, dx, fs, a2, a3⟩, a4, a5, a6⟩ := ok.obj e
    exact ⟨a0, a1, ⟨C, dx, fs, p.hh _ _ a2, p.hh _ _ a3⟩, p.nw _ _ a2 a4, fun z => a5 ((hF _).mp z), fun C dx fs z => a6 C dx fs ((hO e).symm.trans z)⟩
  · obtain ⟨q', e, f, o, e1, e2⟩ := ok.ow i k d h1 (Kd.own_of h2) h3
    rw [h4] at e
    cases e
    show H' q = w.H q
    rw [e1]
    exact p.hh q o e1
  · have y : H' (ob O w.σ) = none := y
    rw [hO e] at y
    exact z y
end
end DL

/-! DL2: readings of expressions by functions on slots. -/
namespace DL
open PySem PySem.Spec PyProof.Rows L2

abbrev M := En → Option (D × En)
abbrev MT := En → Option (Bool × En)
abbrev MA := En → Option (List D × En)

def Rss (K : PySem.W.Frag) (O : List Kd) (w w' : Wd) : List Ak → List D → List V → Prop
  | [], ds, vs => ds = [] ∧ vs = []
  | k :: ks, ds, vs => ∃ d ds' v vs', ds = d :: ds' ∧ vs = v :: vs' ∧ Rs K O w w' k d v ∧ Rss K O w w' ks ds' vs'
theorem Rss.step {K : PySem.W.Frag} {O : List Kd} {w w1 w2 : Wd} (b : Stp O w1 w2) (hs : w2.σ = w1.σ) : ∀ {ks : List Ak} {ds : List D} {vs : List V}, Rss K O w w1 ks ds vs → Rss K O w w2 ks ds vs
  | [], _, _, h => h
  | k :: ks, _, _, ⟨d, ds', v, vs', e1, e2, h1, h2⟩ => ⟨d, ds', v, vs', e1, e2, h1.step b hs, h2.step b hs⟩
theorem Rss.pre {K : PySem.W.Frag} {O : List Kd} {w w1 w2 : Wd} (a : Stp O w w1) : ∀ {ks : List Ak} {ds : List D} {vs : List V}, Rss K O w1 w2 ks ds vs → Rss K O w w2 ks ds vs
  | [], _, _, h => h
  | k :: ks, _, _, ⟨d, ds', v, vs', e1, e2, h1, h2⟩ => ⟨d, ds', v, vs', e1, e2, h1.pre a, h2.pre a⟩

def tE (K : PySem.W.Frag) (O : List Kd) (m : M) (k : Ak) : TE := fun σ H Q => ∃ F ρ d ρ', Ok K O ⟨F, H, σ, ρ⟩ ∧ m ρ = some (d, ρ') ∧
  ∀ v F' H', Ok K O ⟨F', H', σ, ρ'⟩ → Stp O ⟨F, H, σ, ρ⟩ ⟨F', H', σ, ρ'⟩ → Rs K O ⟨F, H, σ, ρ⟩ ⟨F', H', σ, ρ'⟩ k d v → Q v H'
def tT (K : PySem.W.Frag) (O : List Kd) (m : MT) : TT := fun σ H Q => ∃ F ρ b ρ', Ok K O ⟨F, H, σ, ρ⟩ ∧ m ρ = some (b, ρ') ∧
  ∀ F' H', Ok K O ⟨F', H', σ, ρ'⟩ → Stp O ⟨F, H, σ, ρ⟩ ⟨F', H', σ, ρ'⟩ → Q b H'
def tA (K : PySem.W.Frag) (O : List Kd) (m : MA) (ks : List Ak) : TA := fun σ H Q => ∃ F ρ ds ρ', Ok K O ⟨F, H, σ, ρ⟩ ∧ m ρ = some (ds, ρ') ∧
  ∀ vs F' H', Ok K O ⟨F', H', σ, ρ'⟩ → Stp O ⟨F, H, σ, ρ⟩ ⟨F', H', σ, ρ'⟩ → Rss K O ⟨F, H, σ, ρ⟩ ⟨F', H', σ, ρ'⟩ ks ds vs → Q vs H'

/-! ### weakening -/
section
variable {X : Cx} {e : Expr} {es : List Expr}
theorem PEi {t t' : TE} (h : PE X e t) (k : ∀ σ H Q, t' σ H Q → t σ H Q) : PE X e t' := ⟨fun pins s σ H Q I q => h.run pins s σ H Q I (k σ H Q q)⟩
theorem PTi {t t' : TT} (h : PT X e t) (k : ∀ σ H Q, t' σ H Q → t σ H Q) : PT X e t' := ⟨fun pins s σ H Q I q => h.run pins s σ H Q I (k σ H Q q)⟩
theorem PWi {t t' : TT} (h : PW X e t) (k : ∀ σ H Q, t' σ H Q → t σ H Q) : PW X e t' := ⟨fun wh pins s σ H Q I q => h.run wh pins s σ H Q I (k σ H Q q)⟩
theorem PAi {t t' : TA} (h : PA X es t) (k : ∀ σ H Q, t' σ H Q → t σ H Q) : PA X es t' := ⟨fun pos pins s σ H Q I q => h.run pos pins s σ H Q I (k σ H Q q)⟩
end

/-! ### names, constants -/
def mVar (i : Nat) : M := fun ρ => match ρ[i]? with
  | some (some d) => some (d, ρ)
  | _ => none
def mMv (i : Nat) : M := fun ρ => match ρ[i]? with
  | some (some d) => some (d, ρ.set i none)
  | _ => none
def mBr (i : Nat) : M := fun ρ => match ρ[i]? with
  | some (some _) => some (.none, ρ)
  | _ => none
def mC (d : D) : M := fun ρ => some (d, ρ)
theorem slot_some {ρ : En} {i : Nat} {α : Type} {f : D → Option α} {x : α} (h : (match ρ[i]? with | some (some d) => f d | _ => none) = some x) : ∃ d, ρ[i]? = some (some d) ∧ f d = some x := by
  split at h
  · exact ⟨_, by assumption, h⟩
  · cases h
section
variable {K : PySem.W.Frag} {O : List Kd} {w : Wd} {i : Nat}
theorem own_unset (p : Addr) {σ : L2.St} {ρ : En} {F H F' : Hp} (j : Nat) (h : OwnAt O ⟨F', H, σ, ρ.set i none⟩ j p) : OwnAt O ⟨F, H, σ, ρ⟩ j p ∧ j ≠ i := by
  obtain ⟨k, d, h1, h2, h3, h4⟩ := h
  by_cases e : i = j
  · subst e
    have h3 : (ρ.set i none)[i]? = some (some d) := h3
    rw [List.getElem?_set] at h3
    split at h3
    · split at h3 <;> cases h3
    · contradiction
  · have h3 : (ρ.set i none)[j]? = some (some d) := h3
    rw [List.getElem?_set_ne e] at h3
    exact ⟨⟨k, d, h1, h2, h3, h4⟩, fun z => e z.symm⟩
theorem Ok.unset (ok : Ok K O w) (i : Nat) : Ok K O ⟨w.F, w.H, w.σ, w.ρ.set i none⟩ := by
  refine ⟨ok.sub, ok.ls, by show (w.ρ.set i none).length = _; rw [List.length_set]; exact ok.lr, fun j d h1 h2 => ?_, fun j k d h1 h2 h3 => ?_, fun a b p h1 h2 => ok.ap a b p (own_unset p a h1).1 (own_unset p b h2).1, fun e => ⟨(ok.obj e).at0, (ok.obj e).n0, (ok.obj e).ex, (ok.obj e).fr, fun ⟨j, z⟩ => (ok.obj e).nf ⟨j, (own_unset (F := w.F) _ j z).1⟩, (ok.obj e).cls⟩⟩
  · have h2 : (w.ρ.set i none)[j]? = some (some d) := h2
    by_cases e : i = j
    · subst e
      rw [List.getElem?_set] at h2
      split at h2
      · split at h2 <;> cases h2
      · contradiction
    · rw [List.getElem?_set_ne e] at h2
      exact ok.fz j d h1 h2
  · have h3 : (w.ρ.set i none)[j]? = some (some d) := h3
    by_cases e : i = j
    · subst e
      rw [List.getElem?_set] at h3
      split at h3
      · split at h3 <;> cases h3
      · contradiction
    · rw [List.getElem?_set_ne e] at h3
      exact ok.ow j k d h1 h2 h3
end

section
variable {X : Cx} {O : List Kd} {x : Str} {pos : Pos} {i : Nat}
theorem e_var (i : Nat) (hO : O[i]? = some Kd.fz := by rfl) (hl : i < nl O := by decide) (hN : X.N[i]? = some x := by rfl) (hv : Vis X.env.scope x := by first | exact Or.inl rfl | exact Or.inr (Or.inl rfl) | exact Or.inr (Or.inr rfl)) (hd : (x == ("__debug__" : Str)) = false := by decide)
    (hcd : (x == ("__classdict__" : Str)) = false := by decide) : PE X (.Name x pos) (tE X.K O (mVar i) .fz) := by
  refine PEi (pe_var hN hv hd hcd) fun σ H Q h => ?_
  obtain ⟨F, ρ, d, ρ', ok, hm, k⟩ := h
  obtain ⟨d', e1, e2⟩ := slot_some hm
  cases e2
  obtain ⟨v, e3, r⟩ := ok.fz i _ hO e1
  exact ⟨v, (sv_loc hl).symm.trans e3, k v F H ok (.refl _ _) r⟩
theorem e_mv (i : Nat) (hO : O[i]? = some Kd.ow := by rfl) (hl : i < nl O := by decide) (hN : X.N[i]? = some x := by rfl) (hv : Vis X.env.scope x := by first | exact Or.inl rfl | exact Or.inr (Or.inl rfl) | exact Or.inr (Or.inr rfl)) (hd : (x == ("__debug__" : Str)) = false := by decide)
    (hcd : (x == ("__classdict__" : Str)) = false := by decide) : PE X (.Name x pos) (tE X.K O (mMv i) .ow) := by
  refine PEi (pe_var hN hv hd hcd) fun σ H Q h => ?_
  obtain ⟨F, ρ, d, ρ', ok, hm, k⟩ := h
  obtain ⟨d', e1, e2⟩ := slot_some hm
  cases e2
  obtain ⟨p, e3, f, r⟩ := ok.ow i Kd.ow _ hO rfl e1
  have at_i : OwnAt O ⟨F, H, σ, ρ⟩ i p := ⟨Kd.ow, d, hO, rfl, e1, e3⟩
  refine ⟨.ref p, (sv_loc hl).symm.trans e3, k _ F H (ok.unset i) ⟨⟨Same.refl _, fun _ _ h _ _ => h, fun _ _ _ _ h => h, fun b h => ?_, fun _ _ _ _ => rfl, fun j q h1 h2 => ?_, fun _ _ _ _ _ _ _ _ => rfl, fun _ => ⟨rfl, id⟩⟩, fun _ => rfl⟩ ⟨p, rfl, f, r, fun z => ?_, .inl ⟨i, at_i⟩, fun e z => (ok.obj e).nf (by rw [← show p = ob O σ from z]; exact ⟨i, at_i⟩)⟩⟩
  · obtain ⟨j, h⟩ := h
    exact .inl ⟨j, (own_unset b j h).1⟩
  · have e : i ≠ j := fun z => by
      subst z
      rw [hO] at h1
      cases h1
      cases h2
    exact List.getElem?_set_ne e
  · obtain ⟨j, h⟩ := z
    obtain ⟨h1, h2⟩ := own_unset (F := F) (H := H) p j h
    exact h2 (ok.ap j i p h1 at_i)
theorem e_br (i : Nat) (hO : ∃ q : Kd, O[i]? = some q ∧ q.own = true := by exact ⟨_, rfl, rfl⟩) (hl : i < nl O := by decide) (hN : X.N[i]? = some x := by rfl) (hv : Vis X.env.scope x := by first | exact Or.inl rfl | exact Or.inr (Or.inl rfl) | exact Or.inr (Or.inr rfl)) (hd : (x == ("__debug__" : Str)) = false := by decide)
    (hcd : (x == ("__classdict__" : Str)) = false := by decide) : PE X (.Name x pos) (tE X.K O (mBr i) (.br i)) := by
  refine PEi (pe_var hN hv hd hcd) fun σ H Q h => ?_
  obtain ⟨F, ρ, d, ρ', ok, hm, k⟩ := h
  obtain ⟨d', e1, e2⟩ := slot_some hm
  cases e2
  obtain ⟨q, h1, h2⟩ := hO
  obtain ⟨p, e3, f, r⟩ := ok.ow i q _ h1 h2 e1
  exact ⟨.ref p, (sv_loc hl).symm.trans e3, k _ F H ok (.refl _ _) ⟨e3, q, h1, h2⟩⟩
/-- anything that is data wherever it stands -/
theorem e_const {e : Expr} {v : V} {d : D} (h : PE X e (tC v)) (r : ∀ F : Hp, Rp X.K F d v) : PE X e (tE X.K O (mC d) .fz) := by
  refine PEi h fun σ H Q q => ?_
  obtain ⟨F, ρ, d', ρ', ok, hm, k⟩ := q
  cases hm
  exact k v F H ok (.refl _ _) (r F)
theorem e_int {n : Int} {j : Nat} : PE X (.Constant (.int n) j pos) (tE X.K O (mC (.int n)) .fz) := e_const pe_int fun _ => rfl
theorem e_bl {b : Bool} {j : Nat} : PE X (.Constant (.bool b) j pos) (tE X.K O (mC (.bool b)) .fz) := e_const pe_bl fun _ => rfl
theorem e_non {j : Nat} : PE X (.Constant .none j pos) (tE X.K O (mC .none) .fz) := e_const pe_non fun _ => rfl
theorem e_str {z : Str} {j : Nat} : PE X (.Constant (.str z) j pos) (tE X.K O (mC (.str z)) .fz) := e_const pe_str fun _ => rfl
/-- what is owned and new is frozen -/
theorem frz_out {K : PySem.W.Frag} {w w' : Wd} {d : D} {v : V} (ok : Ok K O w') (st : Stp O w w') (r : Rs K O w w' .ow d v) : ∃ F', Ok K O ⟨F', w'.H, w'.σ, w'.ρ⟩ ∧ Stp O w ⟨F', w'.H, w'.σ, w'.ρ⟩ ∧ Rs K O w ⟨F', w'.H, w'.σ, w'.ρ⟩ .fz d v := by
  obtain ⟨p, rfl, h1, ⟨o, h2, h3⟩, h4, h5, h6⟩ := r
  have e' : Same w'.F (upd w'.F p o) := fun b u hb => by
    rw [upd_ne (ne_of_none hb h1)]
    exact hb
  refine ⟨upd w'.F p o, ⟨fun b u hb => ?_, ok.ls, ok.lr, fun i d g1 g2 => ?_, fun i q d g1 g2 g3 => ?_, ok.ap, fun e => ⟨(ok.obj e).at0, (ok.obj e).n0, (ok.obj e).ex, by show upd w'.F p o _ = none; rw [upd_ne (fun z => h6 e z.symm)]; exact (ok.obj e).fr, (ok.obj e).nf, (ok.obj e).cls⟩⟩, ⟨⟨st.ex.trans e', st.kp, fun b u hb z f => ?_, st.fp, st.pn, st.lk, st.lo, st.o0⟩, st.ost⟩, (h3.mono e').rp upd_same⟩
  · by_cases e : b = p
    · subst e
      have hb : upd w'.F b o b = some u := hb
      rw [upd_same] at hb
      cases hb
      exact h2
    · have hb : upd w'.F p o b = some u := hb
      rw [upd_ne e] at hb
      exact ok.sub b u hb
  · obtain ⟨v, e, r⟩ := ok.fz i d g1 g2
    exact ⟨v, e, r.mono e'⟩
  · obtain ⟨c, e, f, r⟩ := ok.ow i q d g1 g2 g3
    refine ⟨c, e, ?_, r.mono e' fun _ z => z⟩
    have hc : c ≠ p := fun z => by
      subst z
      exact h4 ⟨i, q, d, g1, g2, g3, e⟩
    show upd w'.F p o c = none
    rw [upd_ne hc]
    exact f
  · have hc : b ≠ p := fun y => by
      subst y
      rcases h5 with h5 | h5
      · exact z h5
      · rw [h5] at hb
        cases hb
    show upd w'.F p o b = none
    rw [upd_ne hc]
    exact st.nw b u hb z f
theorem e_frz {e : Expr} {m : M} (h : PE X e (tE X.K O m .ow)) : PE X e (tE X.K O m .fz) := by
  refine PEi h fun σ H Q q => ?_
  obtain ⟨F, ρ, d, ρ', ok, hm, k⟩ := q
  refine ⟨F, ρ, d, ρ', ok, hm, fun v F' H' ok' st r => ?_⟩
  obtain ⟨F2, a, b, c⟩ := frz_out ok' st r
  exact k v F2 H' a b c
end
/-! ### argument lists -/
def maNil : MA := fun ρ => some ([], ρ)
def maCons (m : M) (r : MA) : MA := fun ρ => (m ρ).bind fun p => (r p.2).bind fun q => some (p.1 :: q.1, q.2)
section
variable {X : Cx} {O : List Kd} {e : Expr} {es : List Expr} {σ : L2.St} {H : Hp}
theorem tA_nil {Q : List V → Hp → Prop} (h : tA X.K O maNil [] σ H Q) : tNil σ H Q := by
  obtain ⟨F, ρ, d, ρ', ok, hm, k⟩ := h
  cases hm
  exact k [] F H ok (.refl _ _) ⟨rfl, rfl⟩
theorem bind_some {α β : Type} {o : Option α} {f : α → Option β} {x : β} (h : o.bind f = some x) : ∃ a, o = some a ∧ f a = some x := by
  cases o with
  | none => cases h
  | some a => exact ⟨a, rfl, h⟩
theorem map_some {α β : Type} {o : Option α} {f : α → β} {x : β} (h : o.map f = some x) : ∃ a, o = some a ∧ f a = x := by
  cases o with
  | none => cases h
  | some a => exact ⟨a, rfl, Option.some.inj h⟩
theorem tA_cons {K : PySem.W.Frag} {m : M} {r : MA} {k : Ak} {ks : List Ak} {Q : List V → Hp → Prop} (h : tA K O (maCons m r) (k :: ks) σ H Q) : tCons (tE K O m k) (tA K O r ks) σ H Q := by
  obtain ⟨F, ρ, ds, ρ', ok, hm, q⟩ := h
  obtain ⟨⟨d, ρ1⟩, h1, h2⟩ := bind_some hm
  obtain ⟨⟨ds', ρ2⟩, h3, h4⟩ := bind_some h2
  cases h4
  refine ⟨F, ρ, d, ρ1, ok, h1, fun v F1 H1 ok1 st1 r1 => ⟨F1, ρ1, ds', ρ2, ok1, h3, fun vs F2 H2 ok2 st2 r2 => ?_⟩⟩
  exact q (v :: vs) F2 H2 ok2 (st1.trans st2) ⟨d, ds', v, vs, rfl, rfl, r1.step st2 rfl, r2.pre st1⟩
theorem a_nil : PA X [] (tA X.K O maNil []) := PAi pa_nil fun _ _ _ h => tA_nil h
theorem a_cons {m : M} {r : MA} {k : Ak} {ks : List Ak} (h : PE X e (tE X.K O m k)) (t : PA X es (tA X.K O r ks)) (hs : starEach (e :: es) X.env = (false, eval e X.env) :: starEach es X.env := by rfl) : PA X (e :: es) (tA X.K O (maCons m r) (k :: ks)) :=
  PAi (pa_cons h t hs) fun _ _ _ h => tA_cons h
end
/-! ### operands seen -/
mutual
/-- v is seen as d: what d's outermost list or dict holds may change later -/
def Vw (K : PySem.W.Frag) (F H : Hp) (d : D) (v : V) : Prop := match d with
  | .list ds => ∃ a xs, v = .ref a ∧ SqL K H a xs ∧ RpA K F ds xs
  | .dict kvs => ∃ a vs, v = .ref a ∧ Rd H a (.dK vs) ∧ RpD K F kvs vs
  | d => Rp K F d v
end
def VwA (K : PySem.W.Frag) (F H : Hp) : List D → List V → Prop
  | [], vs => vs = []
  | d :: ds, vs => ∃ v r, vs = v :: r ∧ Vw K F H d v ∧ VwA K F H ds r
theorem Rp.vw {K : PySem.W.Frag} {F H : Hp} (s : Same F H) : ∀ {d : D} {v : V}, Rp K F d v → Vw K F H d v
  | .none, _, h => h
  | .bool _, _, h => h
  | .int _, _, h => h
  | .str _, _, h => h
  | .tuple _, _, h => h
  | .list ds, _, ⟨a, xs, e, h1, h2⟩ => ⟨a, xs, e, s.seq h1, h2⟩
  | .dict ds, _, ⟨a, xs, e, h1, h2⟩ => ⟨a, xs, e, same_rd s h1, h2⟩
theorem OwnO.vw {K : PySem.W.Frag} {F H : Hp} {p : Addr} : ∀ {d : D}, OwnO K F H p d → Vw K F H d (.ref p)
  | .none, ⟨_, _, h⟩ => h.elim
  | .bool _, ⟨_, _, h⟩ => h.elim
  | .int _, ⟨_, _, h⟩ => h.elim
  | .str _, ⟨_, _, h⟩ => h.elim
  | .tuple _, ⟨_, _, h⟩ => h.elim
  | .list ds, ⟨o, h1, xs, h2, h3⟩ => ⟨p, xs, rfl, .inl (.inl (by rw [h1, h2])), h3⟩
  | .dict ds, ⟨o, h1, xs, h2, h3⟩ => ⟨p, xs, rfl, .inl (by rw [h1, h2]), h3⟩
def fill : List Ak → List D → En → Option (List D)
  | [], [], _ => some []
  | .br i :: ks, _ :: ds, ρ => (match ρ[i]? with
    | some (some d) => (fill ks ds ρ).map (d :: ·)
    | _ => none)
  | .fz :: ks, d :: ds, ρ => (fill ks ds ρ).map (d :: ·)
  | .ow :: ks, d :: ds, ρ => (fill ks ds ρ).map (d :: ·)
  | _, _, _ => none
theorem Rss.views {K : PySem.W.Frag} {O : List Kd} {w w' : Wd} (ok : Ok K O w') : ∀ {ks : List Ak} {ds : List D} {vs : List V} {es : List D}, Rss K O w w' ks ds vs → fill ks ds w'.ρ = some es → VwA K w'.F w'.H es vs
  | [], _, _, _, ⟨h1, h2⟩, hf => by
    subst h1 h2
    cases hf
    rfl
  | .br i :: ks, _, _, _, ⟨d, ds', v, vs', h1, h2, h3, h4⟩, hf => by
    subst h1 h2
    obtain ⟨d', e1, e2⟩ := slot_some hf
    obtain ⟨es', e3, e4⟩ := map_some e2
    subst e4
    obtain ⟨g1, q, g2, g3⟩ := h3
    obtain ⟨p, r1, r2, r3⟩ := ok.ow i q d' g2 g3 e1
    rw [g1] at r1
    cases r1
    exact ⟨.ref p, vs', rfl, r3.vw, h4.views ok e3⟩
  | .fz :: ks, _, _, _, ⟨d, ds', v, vs', h1, h2, h3, h4⟩, hf => by
    subst h1 h2
    obtain ⟨es', e3, e4⟩ := map_some hf
    subst e4
    exact ⟨v, vs', rfl, Rp.vw ok.sub h3, h4.views ok e3⟩
  | .ow :: ks, _, _, _, ⟨d, ds', v, vs', h1, h2, h3, h4⟩, hf => by
    subst h1 h2
    obtain ⟨es', e3, e4⟩ := map_some hf
    subst e4
    obtain ⟨p, rfl, g1, g2, g3, g4⟩ := h3
    exact ⟨.ref p, vs', rfl, g2.vw, h4.views ok e3⟩

/-! ### operations by values -/
def mOp (ks : List Ak) (ma : MA) (op : List D → Option D) : M := fun ρ => (ma ρ).bind fun p => (fill ks p.1 p.2).bind fun ds => (op ds).map fun d => (d, p.2)
/-- a result that stands over new objects alone -/
def Rs1 (K : PySem.W.Frag) (H F' H' : Hp) (k : Ak) (d : D) (v : V) : Prop := match k with
  | .fz => Rp K F' d v
  | .ow => ∃ p, v = .ref p ∧ F' p = none ∧ OwnO K F' H' p d ∧ H p = none
  | .br _ => False
def Post (K : PySem.W.Frag) (F H : Hp) (k : Ak) (d : D) (Q : VK) : Prop := ∀ v F' H', Pur F H F' H' → Rs1 K H F' H' k d v → Q v H'
/-- an operation on values as a function on data -/
def LSem (K : PySem.W.Frag) (r : List V → Hp → VK → Prop) (op : List D → Option D) (k : Ak) : Prop := ∀ (F H : Hp) (ds : List D) (vs : List V) (d : D) (Q : VK), Same F H → VwA K F H ds vs → op ds = some d → Post K F H k d Q → r vs H Q
section
variable {K : PySem.W.Frag} {O : List Kd} {w : Wd}
theorem Rs1.rs {k : Ak} {d : D} {v : V} {F' H' : Hp} (ok : Ok K O w) (st : Stp O w ⟨F', H', w.σ, w.ρ⟩) (h : Rs1 K w.H F' H' k d v) : Rs K O w ⟨F', H', w.σ, w.ρ⟩ k d v := by
  cases k with
  | fz => exact h
  | ow =>
    obtain ⟨p, e, h1, h2, h3⟩ := h
    refine ⟨p, e, h1, h2, fun z => ?_, .inr h3, fun e z => ?_⟩
    · obtain ⟨_, o, z⟩ := ok.ownF (p := p) ((fp_same (F := w.F) (H := w.H) st.ost).mp z)
      rw [h3] at z
      cases z
    · obtain ⟨C, dx, fs, y, _⟩ := (ok.obj e).ex
      have z : p = ob O w.σ := z
      rw [z, y] at h3
      cases h3
  | br i => exact h.elim
/-- the arguments are there: what the operation makes -/
theorem tA_op {ks : List Ak} {ma : MA} {op : List D → Option D} {r : List V → Hp → VK → Prop} {k : Ak} {σ : L2.St} {H : Hp} {Q : VK} (hs : LSem K r op k) (h : tE K O (mOp ks ma op) k σ H Q) : tA K O ma ks σ H fun vs H1 => r vs H1 Q := by
  obtain ⟨F, ρ, d, ρ', ok, hm, q⟩ := h
  obtain ⟨⟨ds, ρ1⟩, h1, h2⟩ := bind_some hm
  obtain ⟨es, h3, h4⟩ := bind_some h2
  obtain ⟨d', h5, h6⟩ := map_some h4
  cases h6
  refine ⟨F, ρ, ds, ρ1, ok, h1, fun vs F1 H1 ok1 st1 r1 => ?_⟩
  refine hs F1 H1 es vs d Q ok1.sub (r1.views ok1 h3) h5 fun v F2 H2 pu r2 => ?_
  obtain ⟨ok2, st2⟩ := ok1.pur pu
  exact q v F2 H2 ok2 (st1.trans st2) ((r2.rs ok1 st2).pre st1)
end
section
variable {X : Cx} {O : List Kd} {e a b : Expr} {es : List Expr} {ma mb : M} {ka kb k : Ak} {op : List D → Option D} {σ : L2.St} {H : Hp} {Q : VK}
def m2 (ka kb : Ak) (ma mb : M) (op : List D → Option D) : M := mOp [ka, kb] (maCons ma (maCons mb maNil)) op
def m1 (ka : Ak) (ma : M) (op : List D → Option D) : M := mOp [ka] (maCons ma maNil) op
/-- a relation of two values, of one, as one of lists -/
def rL2 (r : R2) : List V → Hp → VK → Prop := fun vs H Q => ∃ x y, vs = [x, y] ∧ r x y H Q
def rL1 (r : V → Hp → VK → Prop) : List V → Hp → VK → Prop := fun vs H Q => ∃ x, vs = [x] ∧ r x H Q
theorem tOp_of {K : PySem.W.Frag} {r : R2} (hs : LSem K (rL2 r) op k) (h : tE K O (m2 ka kb ma mb op) k σ H Q) : tOp r (tE K O ma ka) (tE K O mb kb) σ H Q := by
  have q := tA_cons (tA_op hs h)
  obtain ⟨F, ρ, d, ρ', ok, hm, q⟩ := q
  refine ⟨F, ρ, d, ρ', ok, hm, fun v F1 H1 ok1 st1 r1 => ?_⟩
  have q1 := tA_cons (q v F1 H1 ok1 st1 r1)
  obtain ⟨F2, ρ2, d2, ρ2', ok2, hm2, q2⟩ := q1
  refine ⟨F2, ρ2, d2, ρ2', ok2, hm2, fun v2 F3 H3 ok3 st3 r3 => ?_⟩
  obtain ⟨F4, ρ4, ds, ρ4', ok4, hm4, q4⟩ := q2 v2 F3 H3 ok3 st3 r3
  cases hm4
  obtain ⟨x, y, e1, z⟩ := q4 [] F4 H3 ok4 (.refl _ _) ⟨rfl, rfl⟩
  cases e1
  exact z
theorem tUn_of {K : PySem.W.Frag} {r : V → Hp → VK → Prop} (hs : LSem K (rL1 r) op k) (h : tE K O (m1 ka ma op) k σ H Q) : tUn r (tE K O ma ka) σ H Q := by
  have q := tA_cons (tA_op hs h)
  obtain ⟨F, ρ, d, ρ', ok, hm, q⟩ := q
  refine ⟨F, ρ, d, ρ', ok, hm, fun v F1 H1 ok1 st1 r1 => ?_⟩
  obtain ⟨F4, ρ4, ds, ρ4', ok4, hm4, q4⟩ := q v F1 H1 ok1 st1 r1
  cases hm4
  obtain ⟨x, e1, z⟩ := q4 [] F4 H1 ok4 (.refl _ _) ⟨rfl, rfl⟩
  cases e1
  exact z
theorem e_op {bo : Operator} {r : R2} {pos : Pos} (ho : OpR X (binaryOp bo) r) (hs : LSem X.K (rL2 r) op k) (ha : PE X a (tE X.K O ma ka)) (hb : PE X b (tE X.K O mb kb)) : PE X (.BinOp a bo b pos) (tE X.K O (m2 ka kb ma mb op) k) :=
  PEi (pe_op ho ha hb) fun _ _ _ h => tOp_of hs h
theorem e_cmp {co : CmpOp} {r : R2} {pos : Pos} (ho : OpR X (compareOp co) r) (hs : LSem X.K (rL2 r) op k) (ha : PE X a (tE X.K O ma ka)) (hb : PE X b (tE X.K O mb kb)) (hm : behindInMarks co b = false := by first | exact nomark _ | rfl | with_unfolding_all rfl) :
    PE X (.Compare a [co] [b] pos) (tE X.K O (m2 ka kb ma mb op) k) := PEi (pe_cmpR ho ha hb hm) fun _ _ _ h => tOp_of hs h
theorem e_un {uo : UnaryOp} {r : V → Hp → VK → Prop} {pos : Pos} (ho : UnR X (unaryOp uo) r) (hs : LSem X.K (rL1 r) op k) (ha : PE X a (tE X.K O ma ka)) : PE X (.UnaryOp uo a pos) (tE X.K O (m1 ka ma op) k) :=
  PEi (pe_un ho ha) fun _ _ _ h => tUn_of hs h
/-- a truth as a test -/
def mTr (m : M) : MT := fun ρ => (m ρ).bind fun p => match p.1 with
  | .bool b => some (b, p.2)
  | _ => none
theorem tr_some {m : M} {ρ : En} {b : Bool} {ρ' : En} (h : mTr m ρ = some (b, ρ')) : m ρ = some (.bool b, ρ') := by
  obtain ⟨⟨d, ρ1⟩, h1, h2⟩ := bind_some h
  cases d <;> cases h2
  exact h1
theorem tTr {K : PySem.W.Frag} {m : M} {Q : Bool → Hp → Prop} (h : tT K O (mTr m) σ H Q) : tE K O m .fz σ H fun x H1 => ∃ c, x = .bl c ∧ Q c H1 := by
  obtain ⟨F, ρ, b, ρ', ok, hm, q⟩ := h
  exact ⟨F, ρ, _, ρ', ok, tr_some hm, fun v F1 H1 ok1 st1 r1 => ⟨b, r1, q F1 H1 ok1 st1⟩⟩
theorem t_cmp {co : CmpOp} {r : R2} {pos : Pos} (ho : OpR X (compareOp co) r) (hs : LSem X.K (rL2 r) op .fz) (ha : PE X a (tE X.K O ma ka)) (hb : PE X b (tE X.K O mb kb)) (hm : behindInMarks co b = false := by first | exact nomark _ | rfl | with_unfolding_all rfl) :
    PT X (.Compare a [co] [b] pos) (tT X.K O (mTr (m2 ka kb ma mb op))) := PTi (pt_cmpR ho ha hb hm) fun _ _ _ h => tOp_of hs (tTr h)
theorem t_val {m : M} (h : PE X e (tE X.K O m .fz)) (he : ∀ whole, isTrue e X.env whole = (do let v ← whole; standAt e.pos; holding [v] (truthy v)) := by intro _; rfl) : PT X e (tT X.K O (mTr m)) :=
  PTi (pt_val h he) fun _ _ _ h => tTr h
/-! ### and, or, not -/
variable {ta tb : MT} {rest : List Expr} {pos : Pos}
def mAnd (a b : MT) : MT := fun ρ => (a ρ).bind fun p => if p.1 = true then b p.2 else some (false, p.2)
def mOr (a b : MT) : MT := fun ρ => (a ρ).bind fun p => if p.1 = true then some (true, p.2) else b p.2
def mNot (a : MT) : MT := fun ρ => (a ρ).map fun p => (!p.1, p.2)
theorem w_and1 (ha : PT X a (tT X.K O ta)) : PW X (.BoolOp .And [a] pos) (tT X.K O ta) := pw_and1 ha
theorem w_or1 (ha : PT X a (tT X.K O ta)) : PW X (.BoolOp .Or [a] pos) (tT X.K O ta) := pw_or1 ha
theorem w_and (ha : PT X a (tT X.K O ta)) (hb : PW X (.BoolOp .And (b :: rest) pos) (tT X.K O tb)) : PW X (.BoolOp .And (a :: b :: rest) pos) (tT X.K O (mAnd ta tb)) := by
  refine PWi (pw_and ha hb) fun σ H Q h => ?_
  obtain ⟨F, ρ, c, ρ', ok, hm, q⟩ := h
  obtain ⟨⟨c1, ρ1⟩, h1, h2⟩ := bind_some hm
  refine ⟨F, ρ, c1, ρ1, ok, h1, fun F1 H1 ok1 st1 => ?_⟩
  cases c1 with
  | true =>
    rw [if_pos rfl] at h2 ⊢
    exact ⟨F1, ρ1, c, ρ', ok1, h2, fun F2 H2 ok2 st2 => q F2 H2 ok2 (st1.trans st2)⟩
  | false =>
    rw [if_neg Bool.false_ne_true] at h2 ⊢
    cases h2
    exact q F1 H1 ok1 st1
theorem w_or (ha : PT X a (tT X.K O ta)) (hb : PW X (.BoolOp .Or (b :: rest) pos) (tT X.K O tb)) : PW X (.BoolOp .Or (a :: b :: rest) pos) (tT X.K O (mOr ta tb)) := by
  refine PWi (pw_or ha hb) fun σ H Q h => ?_
  obtain ⟨F, ρ, c, ρ', ok, hm, q⟩ := h
  obtain ⟨⟨c1, ρ1⟩, h1, h2⟩ := bind_some hm
  refine ⟨F, ρ, c1, ρ1, ok, h1, fun F1 H1 ok1 st1 => ?_⟩
  cases c1 with
  | false =>
    rw [if_neg Bool.false_ne_true] at h2 ⊢
    exact ⟨F1, ρ1, c, ρ', ok1, h2, fun F2 H2 ok2 st2 => q F2 H2 ok2 (st1.trans st2)⟩
  | true =>
    rw [if_pos rfl] at h2 ⊢
    cases h2
    exact q F1 H1 ok1 st1
theorem t_not (ha : PT X a (tT X.K O ta)) : PT X (.UnaryOp .Not a pos) (tT X.K O (mNot ta)) := by
  refine PTi (pt_not ha) fun σ H Q h => ?_
  obtain ⟨F, ρ, c, ρ', ok, hm, q⟩ := h
  obtain ⟨⟨c1, ρ1⟩, h1, h2⟩ := map_some hm
  cases h2
  exact ⟨F, ρ, c1, ρ1, ok, h1, fun F1 H1 ok1 st1 => q F1 H1 ok1 st1⟩
/-- as values, truths all -/
def mAndV (a b : M) : M := fun ρ => (mTr a ρ).bind fun p => if p.1 = true then b p.2 else some (.bool false, p.2)
def mOrV (a b : M) : M := fun ρ => (mTr a ρ).bind fun p => if p.1 = true then some (.bool true, p.2) else b p.2
def mNotV (a : M) : M := fun ρ => (mTr a ρ).map fun p => (.bool (!p.1), p.2)
theorem e_one {bo} (h : PE X a (tE X.K O ma .fz)) : PE X (.BoolOp bo [a] pos) (tE X.K O ma .fz) := pe_one h
theorem e_and (ha : PE X a (tE X.K O ma .fz)) (hb : PE X (.BoolOp .And (b :: rest) pos) (tE X.K O mb .fz)) : PE X (.BoolOp .And (a :: b :: rest) pos) (tE X.K O (mAndV ma mb) .fz) := by
  refine PEi (pe_and ha hb) fun σ H Q h => ?_
  obtain ⟨F, ρ, d, ρ', ok, hm, q⟩ := h
  obtain ⟨⟨c1, ρ1⟩, h1, h2⟩ := bind_some hm
  refine ⟨F, ρ, _, ρ1, ok, tr_some h1, fun v F1 H1 ok1 st1 r1 => ⟨c1, r1, ?_⟩⟩
  cases c1 with
  | true =>
    rw [if_pos rfl] at h2 ⊢
    exact ⟨F1, ρ1, d, ρ', ok1, h2, fun v F2 H2 ok2 st2 r2 => q v F2 H2 ok2 (st1.trans st2) (r2.pre st1)⟩
  | false =>
    rw [if_neg Bool.false_ne_true] at h2 ⊢
    cases h2
    exact q _ F1 H1 ok1 st1 rfl
theorem e_or (ha : PE X a (tE X.K O ma .fz)) (hb : PE X (.BoolOp .Or (b :: rest) pos) (tE X.K O mb .fz)) : PE X (.BoolOp .Or (a :: b :: rest) pos) (tE X.K O (mOrV ma mb) .fz) := by
  refine PEi (pe_or ha hb) fun σ H Q h => ?_
  obtain ⟨F, ρ, d, ρ', ok, hm, q⟩ := h
  obtain ⟨⟨c1, ρ1⟩, h1, h2⟩ := bind_some hm
  refine ⟨F, ρ, _, ρ1, ok, tr_some h1, fun v F1 H1 ok1 st1 r1 => ⟨c1, r1, ?_⟩⟩
  cases c1 with
  | false =>
    rw [if_neg Bool.false_ne_true] at h2 ⊢
    exact ⟨F1, ρ1, d, ρ', ok1, h2, fun v F2 H2 ok2 st2 r2 => q v F2 H2 ok2 (st1.trans st2) (r2.pre st1)⟩
  | true =>
    rw [if_pos rfl] at h2 ⊢
    cases h2
    exact q _ F1 H1 ok1 st1 rfl
theorem e_not (ha : PE X a (tE X.K O ma .fz)) : PE X (.UnaryOp .Not a pos) (tE X.K O (mNotV ma) .fz) := by
  refine PEi (pe_not ha) fun σ H Q h => ?_
  obtain ⟨F, ρ, d, ρ', ok, hm, q⟩ := h
  obtain ⟨⟨c1, ρ1⟩, h1, h2⟩ := map_some hm
  cases h2
  exact ⟨F, ρ, _, ρ1, ok, tr_some h1, fun v F1 H1 ok1 st1 r1 => ⟨c1, r1, q _ F1 H1 ok1 st1 rfl⟩⟩
/-- a if t else b -/
def mIf (t : MT) (a b : M) : M := fun ρ => (t ρ).bind fun p => if p.1 = true then a p.2 else b p.2
theorem e_if {c : Expr} (hc : PT X c (tT X.K O ta)) (ha : PE X a (tE X.K O ma k)) (hb : PE X b (tE X.K O mb k)) : PE X (.IfExp c a b pos) (tE X.K O (mIf ta ma mb) k) := by
  refine PEi (pe_ifExp hc ha hb) fun σ H Q h => ?_
  obtain ⟨F, ρ, d, ρ', ok, hm, q⟩ := h
  obtain ⟨⟨c1, ρ1⟩, h1, h2⟩ := bind_some hm
  refine ⟨F, ρ, c1, ρ1, ok, h1, fun F1 H1 ok1 st1 => ?_⟩
  cases c1 with
  | true =>
    rw [if_pos rfl] at h2 ⊢
    exact ⟨F1, ρ1, d, ρ', ok1, h2, fun v F2 H2 ok2 st2 r2 => q v F2 H2 ok2 (st1.trans st2) (r2.pre st1)⟩
  | false =>
    rw [if_neg Bool.false_ne_true] at h2 ⊢
    exact ⟨F1, ρ1, d, ρ', ok1, h2, fun v F2 H2 ok2 st2 r2 => q v F2 H2 ok2 (st1.trans st2) (r2.pre st1)⟩
end
end DL

/-! DL3: displays, operators, subscripts, built-ins on data. -/
namespace DL
open PySem PySem.Spec PyProof.Rows L2

/-! ### new objects -/
section
variable {K : PySem.W.Frag} {F H : Hp}
theorem Pur.frozen (s : Same F H) {p : Addr} (hp : H p = none) (o : HO) : Pur F H (upd F p o) (upd H p o) := by
  have fp : F p = none := s.free hp
  refine ⟨fun b u e => ?_, fun b u e => ?_, fun b u e => ?_, fun b u e f => ?_⟩
  · rw [upd_ne (ne_of_none e fp)]
    exact e
  · rw [upd_ne (ne_of_none e hp)]
    exact e
  · by_cases z : b = p
    · subst z
      rw [upd_same] at e ⊢
      exact e
    · rw [upd_ne z] at e ⊢
      exact s b u e
  · rw [upd_ne (ne_of_none e hp)]
    exact f
theorem Pur.owned (s : Same F H) {p : Addr} (hp : H p = none) (o : HO) : Pur F H F (upd H p o) := by
  refine ⟨.refl _, fun b u e => ?_, fun b u e => ?_, fun b u e f => f⟩
  · rw [upd_ne (ne_of_none e hp)]
    exact e
  · rw [upd_ne (ne_of_none e (s.free hp))]
    exact s b u e
theorem Post.now {d : D} {v : V} {Q : VK} (s : Same F H) (q : Post K F H .fz d Q) (r : Rp K F d v) : Q v H := q v F H (.refl s) r
theorem Post.tup {ds : List D} {vs : List V} {Q : VK} (s : Same F H) (q : Post K F H .fz (.tuple ds) Q) (r : RpA K F ds vs) : ∀ p, H p = none → Q (.ref p) (upd H p (.tup vs)) := fun p hp => by
  have pu := Pur.frozen s hp (.tup vs)
  exact q (.ref p) _ _ pu ⟨p, vs, rfl, .inl (.inl upd_same), r.mono pu.ex⟩
theorem Post.lst {ds : List D} {vs : List V} {Q : VK} (s : Same F H) (q : Post K F H .ow (.list ds) Q) (r : RpA K F ds vs) : ∀ p, H p = none → Q (.ref p) (upd H p (.lst vs)) := fun p hp => by
  have pu := Pur.owned s hp (.lst vs)
  exact q (.ref p) _ _ pu ⟨p, rfl, s.free hp, ⟨.lst vs, upd_same, vs, rfl, r⟩, hp⟩
theorem Post.dic {ds : List (D × D)} {vs : List (Key × V)} {Q : VK} (s : Same F H) (q : Post K F H .ow (.dict ds) Q) (r : RpD K F ds vs) : ∀ p, H p = none → Q (.ref p) (upd H p (.dK vs)) := fun p hp => by
  have pu := Pur.owned s hp (.dK vs)
  exact q (.ref p) _ _ pu ⟨p, rfl, s.free hp, ⟨.dK vs, upd_same, vs, rfl, r⟩, hp⟩
theorem VwA.one {d : D} {vs : List V} (h : VwA K F H [d] vs) : ∃ v, vs = [v] ∧ Vw K F H d v := by
  obtain ⟨v, r, e, h1, h2⟩ := h
  have h2 : r = [] := h2
  rw [h2] at e
  exact ⟨v, e, h1⟩
theorem VwA.two {d e : D} {vs : List V} (h : VwA K F H [d, e] vs) : ∃ v u, vs = [v, u] ∧ Vw K F H d v ∧ Vw K F H e u := by
  obtain ⟨v, r, e1, h1, h2⟩ := h
  obtain ⟨u, rfl, h3⟩ := h2.one
  exact ⟨v, u, e1, h1, h3⟩
theorem VwA.three {d e f : D} {vs : List V} (h : VwA K F H [d, e, f] vs) : ∃ v u t, vs = [v, u, t] ∧ Vw K F H d v ∧ Vw K F H e u ∧ Vw K F H f t := by
  obtain ⟨v, r, e1, h1, h2⟩ := h
  obtain ⟨u, t, rfl, h3, h4⟩ := h2.two
  exact ⟨v, u, t, e1, h1, h3, h4⟩
end

/-! ### displays -/
def allFz : List Ak → Bool
  | [] => true
  | k :: ks => decide (k = .fz) && allFz ks
theorem Rss.fz {K : PySem.W.Frag} {O : List Kd} {w w' : Wd} : ∀ {ks : List Ak} {ds : List D} {vs : List V}, allFz ks = true → Rss K O w w' ks ds vs → RpA K w'.F ds vs ∧ ks.length = vs.length
  | [], _, _, _, ⟨h1, h2⟩ => by
    subst h1 h2
    exact ⟨rfl, rfl⟩
  | k :: ks, _, _, h, ⟨d, ds', v, vs', h1, h2, h3, h4⟩ => by
    subst h1 h2
    have hb := Bool.and_eq_true_iff.mp (show (decide (k = .fz) && allFz ks) = true from h)
    have e := of_decide_eq_true hb.1
    subst e
    obtain ⟨r1, r2⟩ := h4.fz hb.2
    exact ⟨.cons h3 r1, by rw [List.length_cons, List.length_cons, r2]⟩
def mTup (ma : MA) : M := fun ρ => (ma ρ).map fun p => (.tuple p.1, p.2)
def mLst (ma : MA) : M := fun ρ => (ma ρ).map fun p => (.list p.1, p.2)
section
variable {X : Cx} {O : List Kd} {es : List Expr} {e a b : Expr} {ma : MA} {m mb : M} {ks : List Ak} {pos : Pos}
theorem e_tup {c} (h : PA X es (tA X.K O ma ks)) (hk : allFz ks = true := by rfl) (hn : ks.length ≤ 1000 := by decide) : PE X (.Tuple es c pos) (tE X.K O (mTup ma) .fz) := by
  refine PEi (pe_tup h) fun σ H Q q => ?_
  obtain ⟨F, ρ, d, ρ', ok, hm, q⟩ := q
  obtain ⟨⟨ds, ρ1⟩, h1, h2⟩ := map_some hm
  cases h2
  refine ⟨F, ρ, ds, ρ1, ok, h1, fun vs F1 H1 ok1 st1 r1 => ?_⟩
  obtain ⟨r, hl⟩ := r1.fz hk
  refine ⟨Nat.le_trans (by omega : vs.length ≤ 1000) (by decide), Post.tup (K := X.K) (ds := ds) ok1.sub (fun v F2 H2 pu r2 => ?_) r⟩
  obtain ⟨ok2, st2⟩ := ok1.pur pu
  exact q v F2 H2 ok2 (st1.trans st2) ((r2.rs ok1 st2).pre st1)
theorem e_lst (h : PA X es (tA X.K O ma ks)) (hk : allFz ks = true := by rfl) (hn : ks.length ≤ 1000 := by decide) : PE X (.List es pos) (tE X.K O (mLst ma) .ow) := by
  refine PEi (pe_lst h) fun σ H Q q => ?_
  obtain ⟨F, ρ, d, ρ', ok, hm, q⟩ := q
  obtain ⟨⟨ds, ρ1⟩, h1, h2⟩ := map_some hm
  cases h2
  refine ⟨F, ρ, ds, ρ1, ok, h1, fun vs F1 H1 ok1 st1 r1 => ?_⟩
  obtain ⟨r, hl⟩ := r1.fz hk
  refine ⟨Nat.le_trans (by omega : vs.length ≤ 1000) (by decide), Post.lst (K := X.K) (ds := ds) ok1.sub (fun v F2 H2 pu r2 => ?_) r⟩
  obtain ⟨ok2, st2⟩ := ok1.pur pu
  exact q v F2 H2 ok2 (st1.trans st2) ((r2.rs ok1 st2).pre st1)
end

/-! ### operators on ints -/
section
variable {K : PySem.W.Frag}
theorem vInt {F H : Hp} {d : D} {v : V} {i : Int} (e : d = .int i) (h : Vw K F H d v) : v = .int i := by
  subst e
  exact h
def opI (f : Int → Int → D) : List D → Option D
  | [.int i, .int j] => some (f i j)
  | _ => none
/-- .. with a condition -/
def opIc (c : Int → Int → Bool) (f : Int → Int → D) : List D → Option D
  | [.int i, .int j] => if c i j = true then some (f i j) else none
  | _ => none
theorem sI0 {g : Int → Int → V} {f : Int → Int → D} (hg : ∀ F i j, Rp K F (f i j) (g i j)) : LSem K (rL2 (rI0 g)) (opI f) .fz := by
  intro F H ds vs d Q s hv ho q
  unfold opI at ho
  split at ho
  · rename_i i j
    cases ho
    obtain ⟨v, u, e, h1, h2⟩ := hv.two
    exact ⟨v, u, e, i, j, h1, h2, q.now s (hg F i j)⟩
  · cases ho
theorem sIc {C : Int → Int → Prop} {c : Int → Int → Bool} {g : Int → Int → V} {f : Int → Int → D} (hc : ∀ i j, c i j = true → C i j) (hg : ∀ F i j, Rp K F (f i j) (g i j)) : LSem K (rL2 (rI C g)) (opIc c f) .fz := by
  intro F H ds vs d Q s hv ho q
  unfold opIc at ho
  split at ho
  · rename_i i j
    split at ho
    · rename_i hij
      cases ho
      obtain ⟨v, u, e, h1, h2⟩ := hv.two
      exact ⟨v, u, e, i, j, h1, h2, hc i j hij, q.now s (hg F i j)⟩
    · cases ho
  · cases ho
def dAdd := opI fun i j => .int (i + j)
def dSub := opI fun i j => .int (i - j)
def dMul := opIc (fun i j => decide (i.natAbs.log2 + j.natAbs.log2 < 1000000)) fun i j => .int (i * j)
def dDiv := opIc (fun i j => decide (j ≠ 0 ∧ j.natAbs < 1073741824)) fun i j => .int (i.fdiv j)
def dDivW := opIc (fun i j => decide (0 < j ∧ j.natAbs.log2 < 9000)) fun i j => .int (i / j)
def dMod := opIc (fun i j => decide (j ≠ 0)) fun i j => .int (i.fmod j)
def dPow := opIc (fun i j => decide (0 ≤ j ∧ j ≤ 1000000 ∧ i.natAbs < 2 ^ 64)) fun i j => .int (i ^ j.toNat)
def dLt := opI fun i j => .bool (decide (i < j))
def dLe := opI fun i j => .bool (decide (i ≤ j))
def dGt := opI fun i j => .bool (decide (j < i))
def dGe := opI fun i j => .bool (decide (j ≤ i))
theorem s_add : LSem K (rL2 (rI0 fun i j => .int (i + j))) dAdd .fz := sI0 fun _ _ _ => rfl
theorem s_sub : LSem K (rL2 (rI0 fun i j => .int (i - j))) dSub .fz := sI0 fun _ _ _ => rfl
theorem s_mul : LSem K (rL2 (rI CMulW fun i j => .int (i * j))) dMul .fz := sIc (fun i j h => of_decide_eq_true (p := i.natAbs.log2 + j.natAbs.log2 < 1000000) h) fun _ _ _ => rfl
theorem s_div : LSem K (rL2 (rI CDivN fun i j => .int (i.fdiv j))) dDiv .fz := sIc (fun i j h => of_decide_eq_true (p := j ≠ 0 ∧ j.natAbs < 1073741824) h) fun _ _ _ => rfl
theorem s_divW : LSem K (rL2 (rI CDivW fun i j => .int (i / j))) dDivW .fz := sIc (fun i j h => of_decide_eq_true (p := 0 < j ∧ j.natAbs.log2 < 9000) h) fun _ _ _ => rfl
theorem s_mod : LSem K (rL2 (rI (fun _ j => j ≠ 0) fun i j => .int (i.fmod j))) dMod .fz := sIc (fun _ _ h => of_decide_eq_true h) fun _ _ _ => rfl
theorem s_pow : LSem K (rL2 (rI CPow fun i j => .int (i ^ j.toNat))) dPow .fz := sIc (fun i j h => of_decide_eq_true (p := 0 ≤ j ∧ j ≤ 1000000 ∧ i.natAbs < 2 ^ 64) h) fun _ _ _ => rfl
theorem s_lt : LSem K (rL2 (rI0 fun i j => .bl (decide (i < j)))) dLt .fz := sI0 fun _ _ _ => rfl
theorem s_le : LSem K (rL2 (rI0 fun i j => .bl (decide (i ≤ j)))) dLe .fz := sI0 fun _ _ _ => rfl
theorem s_gt : LSem K (rL2 (rI0 fun i j => .bl (decide (j < i)))) dGt .fz := sI0 fun _ _ _ => rfl
theorem s_ge : LSem K (rL2 (rI0 fun i j => .bl (decide (j ≤ i)))) dGe .fz := sI0 fun _ _ _ => rfl
/-! ### == and != of data -/
mutual
theorem Rp.dp {F : Hp} : ∀ (d : D) (v : V), d.hasDict = false → Rp K F d v → Dp K F v d
  | .none, _, _, h => by
    have h : _ = V.non := h
    rw [h]
    exact .non
  | .bool b, _, _, h => by
    have h : _ = V.bl b := h
    rw [h]
    exact .bl b
  | .int i, _, _, h => by
    have h : _ = V.int i := h
    rw [h]
    exact .int i
  | .str x, _, _, h => by
    have h : _ = V.str x := h
    rw [h]
    exact .str x
  | .list ds, _, z, ⟨a, xs, e, h1, h2⟩ => by
    rw [e]
    exact .lst h1 (RpA.dp ds xs (by simpa [PyData.hasDict] using z) h2)
  | .tuple ds, _, z, ⟨a, xs, e, h1, h2⟩ => by
    rw [e]
    exact .tup h1 (RpA.dp ds xs (by simpa [PyData.hasDict] using z) h2)
  | .dict _, _, z, _ => by simp [PyData.hasDict] at z
theorem RpA.dp {F : Hp} : ∀ (ds : List D) (vs : List V), PyData.hasDictAll ds = false → RpA K F ds vs → DpAll K F vs ds
  | [], _, _, h => by
    have h : _ = [] := h
    rw [h]
    exact .nil
  | d :: ds, _, z, ⟨v, vs, e, h1, h2⟩ => by
    rw [e]
    have z2 : d.hasDict = false ∧ PyData.hasDictAll ds = false := by simpa [PyData.hasDictAll] using z
    exact .cons (Rp.dp d v z2.1 h1) (RpA.dp ds vs z2.2 h2)
end
mutual
theorem dp_mono {F H : Hp} (s : Same F H) : ∀ (d : D) (v : V), Dp K F v d → Dp K H v d
  | .none, _, h => by cases h; exact .non
  | .bool b, _, h => by cases h; exact .bl b
  | .int i, _, h => by cases h; exact .int i
  | .str x, _, h => by cases h; exact .str x
  | .list ds, _, h => by
    cases h with
    | lst h1 h2 => exact .lst (s.seq h1) (dpa_mono s ds _ h2)
  | .tuple ds, _, h => by
    cases h with
    | tup h1 h2 => exact .tup (same_sqt s h1) (dpa_mono s ds _ h2)
  | .dict _, _, h => by cases h
theorem dpa_mono {F H : Hp} (s : Same F H) : ∀ (ds : List D) (vs : List V), DpAll K F vs ds → DpAll K H vs ds
  | [], _, h => by cases h; exact .nil
  | d :: ds, _, h => by
    cases h with
    | cons h1 h2 => exact .cons (dp_mono s d _ h1) (dpa_mono s ds _ h2)
end
theorem Vw.dp {F H : Hp} (s : Same F H) : ∀ {d : D} {v : V}, d.hasDict = false → Vw K F H d v → Dp K H v d
  | .none, _, z, h => dp_mono s _ _ (Rp.dp _ _ z h)
  | .bool b, _, z, h => dp_mono s _ _ (Rp.dp _ _ z h)
  | .int i, _, z, h => dp_mono s _ _ (Rp.dp _ _ z h)
  | .str x, _, z, h => dp_mono s _ _ (Rp.dp _ _ z h)
  | .tuple ds, _, z, h => dp_mono s _ _ (Rp.dp _ _ z h)
  | .dict _, _, z, _ => by simp [PyData.hasDict] at z
  | .list ds, _, z, ⟨a, xs, e, h1, h2⟩ => by
    rw [e]
    exact .lst h1 (dpa_mono s ds xs (RpA.dp ds xs (by simpa [PyData.hasDict] using z) h2))
/-- fit for ==: no dicts, not too deep -/
def eqOk (d : D) : Bool := SeqAt.shaped d && !d.hasDict
def dEq : List D → Option D
  | [a, b] => if (eqOk a && eqOk b) = true then some (.bool (PyData.eqv a b)) else none
  | _ => none
def dNe : List D → Option D
  | [a, b] => if (eqOk a && eqOk b) = true then some (.bool (!PyData.eqv a b)) else none
  | _ => none
theorem eqOk_of {d : D} (h : eqOk d = true) : SeqAt.shaped d = true ∧ d.hasDict = false := by
  obtain ⟨h1, h2⟩ := Bool.and_eq_true_iff.mp h
  exact ⟨h1, by simpa using h2⟩
theorem s_eq : LSem K (rL2 (rEqD K)) dEq .fz := by
  intro F H ds vs d Q s hv ho q
  unfold dEq at ho
  split at ho
  · rename_i a b
    split at ho
    · rename_i h
      cases ho
      obtain ⟨v, u, e, h1, h2⟩ := hv.two
      obtain ⟨ha, hb⟩ := Bool.and_eq_true_iff.mp h
      obtain ⟨a1, a2⟩ := eqOk_of ha
      obtain ⟨b1, b2⟩ := eqOk_of hb
      exact ⟨v, u, e, a, b, h1.dp s a2, h2.dp s b2, a1, b1, q.now s rfl⟩
    · cases ho
  · cases ho
theorem s_ne : LSem K (rL2 (rNeD K)) dNe .fz := by
  intro F H ds vs d Q s hv ho q
  unfold dNe at ho
  split at ho
  · rename_i a b
    split at ho
    · rename_i h
      cases ho
      obtain ⟨v, u, e, h1, h2⟩ := hv.two
      obtain ⟨ha, hb⟩ := Bool.and_eq_true_iff.mp h
      obtain ⟨a1, a2⟩ := eqOk_of ha
      obtain ⟨b1, b2⟩ := eqOk_of hb
      exact ⟨v, u, e, a, b, h1.dp s a2, h2.dp s b2, a1, b1, q.now s rfl⟩
    · cases ho
  · cases ho
/-! ### is None -/
def dIsN : List D → Option D
  | [d, .none] => some (.bool (match d with | .none => true | _ => false))
  | _ => none
def dNotN : List D → Option D
  | [d, .none] => some (.bool (match d with | .none => false | _ => true))
  | _ => none
theorem vw_non {F H : Hp} : ∀ {d : D} {v : V}, Vw K F H d v → decide (v = V.non) = (match d with | .none => true | _ => false)
  | .none, _, h => by
    have h : _ = V.non := h
    rw [h]
    rfl
  | .bool b, _, h => by
    have h : _ = V.bl b := h
    rw [h]
    rfl
  | .int i, _, h => by
    have h : _ = V.int i := h
    rw [h]
    rfl
  | .str x, _, h => by
    have h : _ = V.str x := h
    rw [h]
    rfl
  | .list ds, _, ⟨a, xs, e, _⟩ => by
    rw [e]
    rfl
  | .tuple ds, _, ⟨a, xs, e, _⟩ => by
    rw [e]
    rfl
  | .dict ds, _, ⟨a, xs, e, _⟩ => by
    rw [e]
    rfl
theorem s_isN : LSem K (rL2 rIsN) dIsN .fz := by
  intro F H ds vs d Q s hv ho q
  unfold dIsN at ho
  split at ho
  · rename_i a
    cases ho
    obtain ⟨v, u, e, h1, h2⟩ := hv.two
    refine ⟨v, u, e, h2, q.now s ?_⟩
    show V.bl _ = V.bl _
    rw [vw_non h1]
  · cases ho
theorem s_notN : LSem K (rL2 rNotN) dNotN .fz := by
  intro F H ds vs d Q s hv ho q
  unfold dNotN at ho
  split at ho
  · rename_i a
    cases ho
    obtain ⟨v, u, e, h1, h2⟩ := hv.two
    refine ⟨v, u, e, h2, q.now s ?_⟩
    show V.bl _ = V.bl _
    rw [vw_non h1]
    cases a <;> rfl
  · cases ho
end
end DL

/-! DL4: stores, statements, loops. -/
namespace DL
open PySem PySem.Spec PyProof.Rows L2

inductive Fl where
  | nx | bk | ct | rt (d : D)
abbrev MS := En → Option (Fl × En)
abbrev MG := D → En → Option En
abbrev MI := En → Option (List D × En)

/-! ### stores -/
section
variable {K : PySem.W.Frag} {O : List Kd} {w : Wd} {i : Nat} {d : D} {v : V}
theorem set_get {α : Type} {l : List α} {i j : Nat} {a b : α} (h : (l.set i a)[j]? = some b) : (i = j ∧ b = a) ∨ (i ≠ j ∧ l[j]? = some b) := by
  by_cases e : i = j
  · subst e
    rw [List.getElem?_set] at h
    split at h
    · split at h
      · exact .inl ⟨rfl, (Option.some.inj h).symm⟩
      · cases h
    · contradiction
  · rw [List.getElem?_set_ne e] at h
    exact .inr ⟨e, h⟩
theorem own_set {p : Addr} {j : Nat} {σ : L2.St} {ρ : En} {F H F' : Hp} (hl : i < nl O) (hs : i < σ.length) (h0 : hasO O = false ∨ i ≠ oi O) (h : OwnAt O ⟨F', H, σ.set i (some v), ρ.set i (some d)⟩ j p) : (j = i ∧ v = .ref p ∧ ∃ k : Kd, O[i]? = some k ∧ k.own = true) ∨ (j ≠ i ∧ OwnAt O ⟨F, H, σ, ρ⟩ j p) := by
  obtain ⟨k, d', h1, h2, h3, h4⟩ := h
  by_cases e : i = j
  · subst e
    have h4 : sv O H (σ.set i (some v)) i = some (some (.ref p)) := h4
    rw [sv_set_eq hl hs] at h4
    exact .inl ⟨rfl, Option.some.inj (Option.some.inj h4), k, h1, h2⟩
  · have h4 : sv O H (σ.set i (some v)) j = some (some (.ref p)) := h4
    rw [sv_set_ne h0 e] at h4
    refine .inr ⟨fun z => e z.symm, k, d', h1, h2, ?_, h4⟩
    have h3 : (ρ.set i (some d))[j]? = some (some d') := h3
    rw [List.getElem?_set_ne e] at h3
    exact h3
theorem ObOk.set {w' : Wd} (h : ObOk K O w) (hi : i ≠ oi O) (e1 : w'.σ = w.σ.set i (some v)) (e2 : w'.H = w.H) (e3 : w'.F = w.F) (nf : ¬ Fp O w' (ob O w.σ)) : ObOk K O w' := by
  have e : ob O w'.σ = ob O w.σ := by rw [e1, ob_set hi]
  obtain ⟨a0, a1, ⟨C, dx, fs, a2, a3⟩, a4, _, a6⟩ := h
  exact ⟨by rw [e, e1, List.getElem?_set_ne hi]; exact a0, a1, ⟨C, dx, fs, by rw [e, e2]; exact a2, by rw [e, e2]; exact a3⟩, by rw [e, e3]; exact a4, by rw [e]; exact nf, by rw [e, e2]; exact a6⟩
/-- frozen data into a slot -/
theorem Ok.setFz (ok : Ok K O w) (hi : O[i]? = some Kd.fz) (hl : i < nl O) (h0 : hasO O = false ∨ i ≠ oi O) (r : Rp K w.F d v) : Ok K O ⟨w.F, w.H, w.σ.set i (some v), w.ρ.set i (some d)⟩ ∧ Stp O w ⟨w.F, w.H, w.σ.set i (some v), w.ρ.set i (some d)⟩ := by
  have hln : i < w.σ.length := by
    rw [ok.ls]
    exact hl
  have noi : ∀ {p : Addr} {j : Nat}, OwnAt O ⟨w.F, w.H, w.σ.set i (some v), w.ρ.set i (some d)⟩ j p → OwnAt O w j p := fun {p j} h => by
    rcases own_set (F := w.F) hl hln h0 h with ⟨_, _, k, h1, h2⟩ | ⟨_, h⟩
    · rw [hi] at h1
      cases h1
      cases h2
    · exact h
  have hob : hasO O = true → ob O (w.σ.set i (some v)) = ob O w.σ := fun e => by
    rcases h0 with h | h
    · rw [e] at h
      cases h
    · exact ob_set h
  refine ⟨⟨ok.sub, by show (w.σ.set i _).length = _; rw [List.length_set]; exact ok.ls, by show (w.ρ.set i _).length = _; rw [List.length_set]; exact ok.lr, fun j d' h1 h2 => ?_, fun j k d' h1 h2 h3 => ?_, fun a b p h1 h2 => ok.ap a b p (noi h1) (noi h2), fun e => ?_⟩,
    ⟨⟨.refl _, fun _ _ h _ _ => h, fun _ _ _ _ h => h, fun b ⟨j, h⟩ => .inl ⟨j, noi h⟩, fun j k h1 h2 => ?_, fun j k h1 h2 => ?_, fun _ _ _ _ _ _ _ _ => rfl, fun e => ⟨hob e, id⟩⟩, fun _ => rfl⟩⟩
  · rcases set_get (show (w.ρ.set i (some d))[j]? = _ from h2) with ⟨e, q⟩ | ⟨e, q⟩
    · subst e
      cases q
      exact ⟨v, sv_set_eq hl hln, r⟩
    · obtain ⟨u, g1, g2⟩ := ok.fz j d' h1 q
      exact ⟨u, (sv_set_ne h0 e).trans g1, g2⟩
  · rcases set_get (show (w.ρ.set i (some d))[j]? = _ from h3) with ⟨e, q⟩ | ⟨e, q⟩
    · subst e
      rw [hi] at h1
      cases h1
      cases h2
    · obtain ⟨p, g1, g2⟩ := ok.ow j k d' h1 h2 q
      exact ⟨p, (sv_set_ne h0 e).trans g1, g2⟩
  · have hi0 : i ≠ oi O := h0.resolve_left (by rw [e]; exact fun z => by cases z)
    exact (ok.obj e).set hi0 rfl rfl rfl fun ⟨j, h⟩ => (ok.obj e).nf ⟨j, noi h⟩
  · have e : i ≠ j := fun z => by
      subst z
      rw [hi] at h1
      cases h1
      cases h2
    exact sv_set_ne h0 e
  · have e : i ≠ j := fun z => by
      subst z
      rw [hi] at h1
      cases h1
      cases h2
    exact List.getElem?_set_ne e
/-- a new owned object into a slot -/
theorem Ok.setOw {p : Addr} (ok : Ok K O w) (hi : O[i]? = some Kd.ow) (hl : i < nl O) (h0 : hasO O = false ∨ i ≠ oi O) (hF : w.F p = none) (r : OwnO K w.F w.H p d) (np : ¬ Fp O w p) (npo : hasO O = true → p ≠ ob O w.σ) :
    Ok K O ⟨w.F, w.H, w.σ.set i (some (.ref p)), w.ρ.set i (some d)⟩ ∧ (∀ b, Fp O ⟨w.F, w.H, w.σ.set i (some (.ref p)), w.ρ.set i (some d)⟩ b → b = p ∨ Fp O w b) ∧
    (∀ (j : Nat) (k : Kd), O[j]? = some k → k.pin = true → sv O w.H (w.σ.set i (some (.ref p))) j = w.sv O j ∧ (w.ρ.set i (some d))[j]? = w.ρ[j]?) ∧ (hasO O = true → ob O (w.σ.set i (some (.ref p))) = ob O w.σ) := by
  have hln : i < w.σ.length := by
    rw [ok.ls]
    exact hl
  have hob : hasO O = true → ob O (w.σ.set i (some (.ref p))) = ob O w.σ := fun e => by
    rcases h0 with h | h
    · rw [e] at h
      cases h
    · exact ob_set h
  have fpb : ∀ b, Fp O ⟨w.F, w.H, w.σ.set i (some (.ref p)), w.ρ.set i (some d)⟩ b → b = p ∨ Fp O w b := fun b ⟨j, h⟩ => by
    rcases own_set (F := w.F) hl hln h0 h with ⟨_, q, _⟩ | ⟨_, q⟩
    · cases q
      exact .inl rfl
    · exact .inr ⟨j, q⟩
  refine ⟨⟨ok.sub, by show (w.σ.set i _).length = _; rw [List.length_set]; exact ok.ls, by show (w.ρ.set i _).length = _; rw [List.length_set]; exact ok.lr, fun j d' h1 h2 => ?_, fun j k d' h1 h2 h3 => ?_, fun a b q h1 h2 => ?_, fun e => ?_⟩, fpb, fun j k h1 h2 => ?_, hob⟩
  · rcases set_get (show (w.ρ.set i (some d))[j]? = _ from h2) with ⟨e, q⟩ | ⟨e, q⟩
    · subst e
      rw [hi] at h1
      cases h1
    · obtain ⟨u, g1, g2⟩ := ok.fz j d' h1 q
      exact ⟨u, (sv_set_ne h0 e).trans g1, g2⟩
  · rcases set_get (show (w.ρ.set i (some d))[j]? = _ from h3) with ⟨e, q⟩ | ⟨e, q⟩
    · subst e
      cases q
      exact ⟨p, sv_set_eq hl hln, hF, r⟩
    · obtain ⟨c, g1, g2⟩ := ok.ow j k d' h1 h2 q
      exact ⟨c, (sv_set_ne h0 e).trans g1, g2⟩
  · rcases own_set (F := w.F) hl hln h0 h1 with ⟨e1, q1, _⟩ | ⟨e1, q1⟩ <;> rcases own_set (F := w.F) hl hln h0 h2 with ⟨e2, q2, _⟩ | ⟨e2, q2⟩
    · rw [e1, e2]
    · cases q1
      exact (np ⟨b, q2⟩).elim
    · cases q2
      exact (np ⟨a, q1⟩).elim
    · exact ok.ap a b q q1 q2
  · have hi0 : i ≠ oi O := h0.resolve_left (by rw [e]; exact fun z => by cases z)
    refine (ok.obj e).set hi0 rfl rfl rfl fun h => ?_
    rcases fpb _ h with z | z
    · exact npo e z.symm
    · exact (ok.obj e).nf z
  · have e : i ≠ j := fun z => by
      subst z
      rw [hi] at h1
      cases h1
      cases h2
    exact ⟨sv_set_ne h0 e, List.getElem?_set_ne e⟩
/-- an owned object changed in its place -/
theorem Ok.chg {p : Addr} {o : HO} {d0 : D} {k : Kd} (ok : Ok K O w) (hi : O[i]? = some k) (hk : k.own = true) (hl : k.lock = false) (h0 : w.ρ[i]? = some (some d0)) (hs : w.sv O i = some (some (.ref p))) (hF : w.F p = none) (r : OwnC K w.F o d) :
    Ok K O ⟨w.F, upd w.H p o, w.σ, w.ρ.set i (some d)⟩ ∧ Stp O w ⟨w.F, upd w.H p o, w.σ, w.ρ.set i (some d)⟩ := by
  have at_i : OwnAt O w i p := ⟨k, d0, hi, hk, h0, hs⟩
  have hlen : i < w.ρ.length := (List.getElem?_eq_some_iff.mp h0).1
  have npo : hasO O = true → ob O w.σ ≠ p := fun e z => (ok.obj e).nf (by rw [z]; exact ⟨i, at_i⟩)
  have hO : hasO O = true → upd w.H p o (ob O w.σ) = w.H (ob O w.σ) := fun e => upd_ne (npo e)
  have hsv : ∀ j, sv O (upd w.H p o) w.σ j = w.sv O j := fun j => sv_same hO
  have back : ∀ {q : Addr} {j : Nat}, OwnAt O ⟨w.F, upd w.H p o, w.σ, w.ρ.set i (some d)⟩ j q → OwnAt O w j q := fun {q j} ⟨k', d', h1, h2, h3, h4⟩ => by
    have h4 : sv O (upd w.H p o) w.σ j = some (some (.ref q)) := h4
    rw [hsv] at h4
    rcases set_get (show (w.ρ.set i (some d))[j]? = _ from h3) with ⟨e, z⟩ | ⟨e, z⟩
    · subst e
      exact ⟨k', d0, h1, h2, h0, h4⟩
    · exact ⟨k', d', h1, h2, z, h4⟩
  refine ⟨⟨fun b u hb => ?_, ok.ls, by show (w.ρ.set i _).length = _; rw [List.length_set]; exact ok.lr, fun j d' h1 h2 => ?_, fun j k' d' h1 h2 h3 => ?_, fun a b q h1 h2 => ok.ap a b q (back h1) (back h2), fun e => ?_⟩,
    ⟨⟨.refl _, fun b u hb z _ => ?_, fun _ _ _ _ h => h, fun b ⟨j, h⟩ => .inl ⟨j, back h⟩, fun j _ _ _ => hsv j, fun j k' h1 h2 => ?_, fun j k' q d' h1 h2 h3 h4 => ?_, fun e => ⟨rfl, fun z y => ?_⟩⟩, hO⟩⟩
  · show upd w.H p o b = some u
    rw [upd_ne (ne_of_none hb hF)]
    exact ok.sub b u hb
  · rcases set_get (show (w.ρ.set i (some d))[j]? = _ from h2) with ⟨e, z⟩ | ⟨e, z⟩
    · subst e
      rw [hi] at h1
      cases h1
      cases hk
    · obtain ⟨u, g1, g2⟩ := ok.fz j d' h1 z
      exact ⟨u, (hsv j).trans g1, g2⟩
  · rcases set_get (show (w.ρ.set i (some d))[j]? = _ from h3) with ⟨e, z⟩ | ⟨e, z⟩
    · subst e
      cases z
      exact ⟨p, (hsv i).trans hs, hF, o, upd_same, r⟩
    · obtain ⟨c, g1, g2, u, g3, g4⟩ := ok.ow j k' d' h1 h2 z
      have hc : c ≠ p := fun y => by
        subst y
        exact e (ok.ap i j c at_i ⟨k', d', h1, h2, z, g1⟩)
      exact ⟨c, (hsv j).trans g1, g2, u, by show upd w.H p o c = _; rw [upd_ne hc]; exact g3, g4⟩
  · obtain ⟨a0, a1, ⟨C, dx, fs, a2, a3⟩, a4, a5, a6⟩ := ok.obj e
    have hd : dx ≠ p := fun z => by
      obtain ⟨q, y1, y2, u, y3, y4⟩ := ok.ow i k d0 hi hk h0
      rw [hs] at y1
      cases y1
      rw [← z, a3] at y3
      cases y3
      cases d0 <;> first | exact y4.elim | (obtain ⟨_, y5, _⟩ := y4; cases y5)
    exact ⟨a0, a1, ⟨C, dx, fs, (hO e).trans a2, by show upd w.H p o dx = _; rw [upd_ne hd]; exact a3⟩, a4, fun ⟨j, h⟩ => a5 ⟨j, back h⟩, fun C dx fs z => a6 C dx fs ((hO e).symm.trans z)⟩
  · show upd w.H p o b = some u
    have hc : b ≠ p := fun y => by
      subst y
      exact z ⟨i, at_i⟩
    rw [upd_ne hc]
    exact hb
  · have e : i ≠ j := fun y => by
      subst y
      rw [hi] at h1
      cases h1
      rw [hl] at h2
      cases h2
    exact List.getElem?_set_ne e
  · have hq : q ≠ p := fun y => by
      subst y
      have e := ok.ap j i q ⟨k', d', h1, Kd.own_of h2, h3, h4⟩ at_i
      subst e
      rw [hi] at h1
      cases h1
      rw [hl] at h2
      cases h2
    exact upd_ne hq
  · have y : upd w.H p o (ob O w.σ) = none := y
    rw [hO e] at y
    exact z y
end

/-! ### targets -/
def tG (K : PySem.W.Frag) (O : List Kd) (g : MG) (is : List Nat) : TG := fun v σ H Q => ∃ F ρ d ρ', Ok K O ⟨F, H, σ, ρ⟩ ∧ Rp K F d v ∧ g d ρ = some ρ' ∧
  ∀ σ', Ok K O ⟨F, H, σ', ρ'⟩ → Stp O ⟨F, H, σ, ρ⟩ ⟨F, H, σ', ρ'⟩ → (∀ j, j ∉ is → σ'[j]? = σ[j]?) → Q σ' H
def tGs (K : PySem.W.Frag) (O : List Kd) (g : List D → En → Option En) (is : List Nat) : TGs := fun vs σ H Q => ∃ F ρ ds ρ', Ok K O ⟨F, H, σ, ρ⟩ ∧ RpA K F ds vs ∧ g ds ρ = some ρ' ∧
  ∀ σ', Ok K O ⟨F, H, σ', ρ'⟩ → Stp O ⟨F, H, σ, ρ⟩ ⟨F, H, σ', ρ'⟩ → (∀ j, j ∉ is → σ'[j]? = σ[j]?) → Q σ' H
def mgN (i : Nat) : MG := fun d ρ => some (ρ.set i (some d))
def mgNil : List D → En → Option En := fun ds ρ => match ds with
  | [] => some ρ
  | _ => none
def mgCons (g : MG) (r : List D → En → Option En) : List D → En → Option En := fun ds ρ => match ds with
  | d :: ds => (g d ρ).bind (r ds)
  | _ => none
/-- a tuple taken apart -/
def mgT (n : Nat) (r : List D → En → Option En) : MG := fun d ρ => match d with
  | .tuple ds => if ds.length = n then r ds ρ else none
  | _ => none
/-- a list taken apart -/
def mgL (n : Nat) (r : List D → En → Option En) : MG := fun d ρ => match d with
  | .list ds => if ds.length = n then r ds ρ else none
  | _ => none
section
variable {X : Cx} {O : List Kd} {e : Expr} {es : List Expr} {x : Str} {pos : Pos} {g : MG} {gs : List D → En → Option En} {is js : List Nat}
theorem PGi {t t' : TG} {tg : Expr} (h : PG X tg t) (k : ∀ v σ H Q, t' v σ H Q → t v σ H Q) : PG X tg t' := ⟨fun pins s σ H v u Q I r q => h.run pins s σ H v u Q I r (k v σ H Q q)⟩
theorem PGsi {t t' : TGs} {tg : List Expr} (h : PGs X tg t) (k : ∀ v σ H Q, t' v σ H Q → t v σ H Q) : PGs X tg t' := ⟨fun pins s σ H v u Q I r q => h.run pins s σ H v u Q I r (k v σ H Q q)⟩
theorem g_name (i : Nat) (hN : X.N.Nodup) (hO : O[i]? = some Kd.fz := by rfl) (hl : i < nl O := by decide) (h0 : hasO O = false ∨ i ≠ oi O := by decide) (hi : X.N[i]? = some x := by rfl) (hx : Loc X.env.scope x := by first | exact Or.inl rfl | exact Or.inr rfl) (hf : X.fn x = true ∨ X.env.scope.names.lookup x = some .local := by first | exact .inl rfl | exact .inr rfl | assumption) :
    PG X (.Name x pos) (tG X.K O (mgN i) [i]) := by
  refine PGi (pg_name hN hi hx hf) fun v σ H Q q => ?_
  obtain ⟨F, ρ, d, ρ', ok, r, hg, k⟩ := q
  cases hg
  obtain ⟨h1, h2⟩ := ok.setFz hO hl h0 r
  exact k _ h1 h2 fun j hj => List.getElem?_set_ne fun e => hj (by rw [e]; exact List.mem_singleton.mpr rfl)
theorem gs_nil : PGs X [] (tGs X.K O mgNil []) := by
  refine PGsi pgs_nil fun v σ H Q q => ?_
  obtain ⟨F, ρ, ds, ρ', ok, r, hg, k⟩ := q
  cases ds with
  | nil =>
    cases hg
    exact ⟨r, k σ ok (.refl _ _) fun _ _ => rfl⟩
  | cons d ds => cases hg
theorem gs_cons (h1 : PG X e (tG X.K O g is)) (h2 : PGs X es (tGs X.K O gs js)) (hs : (assignEach (e :: es) X.env).map (·.2) = assign e X.env :: (assignEach es X.env).map (·.2) := by rfl) : PGs X (e :: es) (tGs X.K O (mgCons g gs) (is ++ js)) := by
  refine PGsi (pgs_cons h1 h2 hs) fun v σ H Q q => ?_
  obtain ⟨F, ρ, ds, ρ', ok, r, hg, k⟩ := q
  cases ds with
  | nil => cases hg
  | cons d ds =>
    obtain ⟨v1, vs, e1, r1, r2⟩ := r
    obtain ⟨ρ1, g1, g2⟩ := bind_some hg
    refine ⟨v1, vs, e1, F, ρ, d, ρ1, ok, r1, g1, fun σ1 ok1 st1 c1 => ⟨F, ρ1, ds, ρ', ok1, r2, g2, fun σ2 ok2 st2 c2 => k σ2 ok2 (st1.trans st2) fun j hj => ?_⟩⟩
    rw [c2 j fun z => hj (List.mem_append_right _ z), c1 j fun z => hj (List.mem_append_left _ z)]
theorem g_tup {n c : Nat} (hc : X.calm = true) (h : PGs X es (tGs X.K O gs is)) (hn : (assignEach es X.env).length = n := by rfl) (hst : (assignEach es X.env).findIdx? (·.1) = none := by rfl) : PG X (.Tuple es c pos) (tG X.K O (mgT n gs) is) := by
  refine PGi (pg_tup hc h hn hst) fun v σ H Q q => ?_
  obtain ⟨F, ρ, d, ρ', ok, r, hg, k⟩ := q
  unfold mgT at hg
  split at hg
  · rename_i ds
    split at hg
    · rename_i hl
      obtain ⟨a, xs, e1, h1, h2⟩ := r
      exact ⟨a, xs, e1, same_sqt ok.sub h1, by rw [h2.length]; exact hl, F, ρ, ds, ρ', ok, h2, hg, k⟩
    · cases hg
  · cases hg
theorem g_unl {n c : Nat} (hc : X.calm = true) (h : PGs X es (tGs X.K O gs is)) (hn : (assignEach es X.env).length = n := by rfl) (hst : (assignEach es X.env).findIdx? (·.1) = none := by rfl) : PG X (.Tuple es c pos) (tG X.K O (mgL n gs) is) := by
  refine PGi (pg_unl hc h hn hst) fun v σ H Q q => ?_
  obtain ⟨F, ρ, d, ρ', ok, r, hg, k⟩ := q
  unfold mgL at hg
  split at hg
  · rename_i ds
    split at hg
    · rename_i hl
      obtain ⟨a, xs, e1, h1, h2⟩ := r
      exact ⟨a, xs, e1, ok.sub.seq h1, by rw [h2.length]; exact hl, F, ρ, ds, ρ', ok, h2, hg, k⟩
    · cases hg
  · cases hg
end

/-! ### statements -/
def tS (K : PySem.W.Frag) (O : List Kd) (m : MS) (r : Ak) : TS := fun Dn σ H => ∃ F ρ fl ρ', Ok K O ⟨F, H, σ, ρ⟩ ∧ m ρ = some (fl, ρ') ∧ (match fl with
  | .nx => ∀ σ' F' H', Ok K O ⟨F', H', σ', ρ'⟩ → StpS O ⟨F, H, σ, ρ⟩ ⟨F', H', σ', ρ'⟩ → Dn.nx σ' H'
  | .bk => ∀ σ' F' H', Ok K O ⟨F', H', σ', ρ'⟩ → StpS O ⟨F, H, σ, ρ⟩ ⟨F', H', σ', ρ'⟩ → Dn.bk σ' H'
  | .ct => ∀ σ' F' H', Ok K O ⟨F', H', σ', ρ'⟩ → StpS O ⟨F, H, σ, ρ⟩ ⟨F', H', σ', ρ'⟩ → Dn.ct σ' H'
  | .rt d => ∀ v σ' F' H', Ok K O ⟨F', H', σ', ρ'⟩ → StpS O ⟨F, H, σ, ρ⟩ ⟨F', H', σ', ρ'⟩ → Rs K O ⟨F, H, σ, ρ⟩ ⟨F', H', σ', ρ'⟩ r d v → Dn.rt v H')
theorem PSi {X : Cx} {st : Stmt} {t t' : TS} (h : PS X st t) (k : ∀ Dn σ H, t' Dn σ H → t Dn σ H) : PS X st t' := ⟨fun pins s σ H Dn I q => h.run pins s σ H Dn I (k Dn σ H q)⟩
theorem PSsi {X : Cx} {st : List Stmt} {t t' : TS} (h : PSs X st t) (k : ∀ Dn σ H, t' Dn σ H → t Dn σ H) : PSs X st t' := ⟨fun pins s σ H Dn I q => h.run pins s σ H Dn I (k Dn σ H q)⟩
def mSkip : MS := fun ρ => some (.nx, ρ)
def mBreak : MS := fun ρ => some (.bk, ρ)
def mCont : MS := fun ρ => some (.ct, ρ)
def mSeq (a b : MS) : MS := fun ρ => (a ρ).bind fun p => match p.1 with
  | .nx => b p.2
  | f => some (f, p.2)
def mDrop (m : M) : MS := fun ρ => (m ρ).map fun p => (.nx, p.2)
def mRet (m : M) : MS := fun ρ => (m ρ).map fun p => (.rt p.1, p.2)
def mIte (c : MT) (a b : MS) : MS := fun ρ => (c ρ).bind fun p => if p.1 = true then a p.2 else b p.2
def mSet (i : Nat) (m : M) : MS := fun ρ => (m ρ).map fun p => (.nx, p.2.set i (some p.1))
def mAsg (g : MG) (m : M) : MS := fun ρ => (m ρ).bind fun p => (g p.1 p.2).map fun ρ' => (.nx, ρ')
/-- never come to -/
def mNever : MS := fun _ => none
section
variable {X : Cx} {O : List Kd} {r : Ak} {st : Stmt} {rest : List Stmt} {e : Expr} {m : M} {a b : MS} {c : MT} {k : Ak} {pos : Pos} {x : Str} {i : Nat} {g : MG} {is : List Nat}
theorem s_nil : PSs X [] (tS X.K O mSkip r) := PSsi pss_nil fun Dn σ H ⟨F, ρ, fl, ρ', ok, hm, q⟩ => by
  cases hm
  exact q σ F H ok (StpS.refl _ _)
theorem s_pass : PS X (.Pass pos) (tS X.K O mSkip r) := PSi ps_pass fun Dn σ H ⟨F, ρ, fl, ρ', ok, hm, q⟩ => by
  cases hm
  exact q σ F H ok (StpS.refl _ _)
theorem s_break : PS X (.Break pos) (tS X.K O mBreak r) := PSi ps_break fun Dn σ H ⟨F, ρ, fl, ρ', ok, hm, q⟩ => by
  cases hm
  exact q σ F H ok (StpS.refl _ _)
theorem s_continue : PS X (.Continue pos) (tS X.K O mCont r) := PSi ps_continue fun Dn σ H ⟨F, ρ, fl, ρ', ok, hm, q⟩ => by
  cases hm
  exact q σ F H ok (StpS.refl _ _)
theorem s_never : PS X st (tS X.K O mNever r) := PSi ps_never fun Dn σ H ⟨F, ρ, fl, ρ', ok, hm, q⟩ => by cases hm
theorem Rs.prew {K : PySem.W.Frag} {w w1 w2 : Wd} {d : D} {v : V} (a : StpS O w w1) (h : Rs K O w1 w2 k d v) : Rs K O w w2 k d v := h.pre a
theorem s_cons (h1 : PS X st (tS X.K O a r)) (h2 : PSs X rest (tS X.K O b r)) : PSs X (st :: rest) (tS X.K O (mSeq a b) r) := by
  refine PSsi (pss_cons h1 h2) fun Dn σ H ⟨F, ρ, fl, ρ', ok, hm, q⟩ => ?_
  obtain ⟨⟨f1, ρ1⟩, e1, e2⟩ := bind_some hm
  refine ⟨F, ρ, f1, ρ1, ok, e1, ?_⟩
  cases f1 with
  | nx =>
    intro σ1 F1 H1 ok1 st1
    refine ⟨F1, ρ1, fl, ρ', ok1, e2, ?_⟩
    cases fl with
    | nx => exact fun σ2 F2 H2 ok2 st2 => q σ2 F2 H2 ok2 (st1.trans st2)
    | bk => exact fun σ2 F2 H2 ok2 st2 => q σ2 F2 H2 ok2 (st1.trans st2)
    | ct => exact fun σ2 F2 H2 ok2 st2 => q σ2 F2 H2 ok2 (st1.trans st2)
    | rt d => exact fun v σ2 F2 H2 ok2 st2 r2 => q v σ2 F2 H2 ok2 (st1.trans st2) (r2.pre st1)
  | bk =>
    cases e2
    exact q
  | ct =>
    cases e2
    exact q
  | rt d =>
    cases e2
    exact q
theorem s_one (h1 : PS X st (tS X.K O a r)) : PSs X [st] (tS X.K O a r) := pss_one h1
theorem s_expr (h : PE X e (tE X.K O m k)) (hs : swapsWith e none pos.line X.env = pure false := by rfl) : PS X (.Expr e pos) (tS X.K O (mDrop m) r) := by
  refine PSi (ps_expr h hs) fun Dn σ H ⟨F, ρ, fl, ρ', ok, hm, q⟩ => ?_
  obtain ⟨⟨d, ρ1⟩, e1, e2⟩ := map_some hm
  cases e2
  exact ⟨F, ρ, d, ρ1, ok, e1, fun v F1 H1 ok1 st1 _ => q σ F1 H1 ok1 st1⟩
theorem s_ret (h : PE X e (tE X.K O m r)) : PS X (.Return (some e) pos) (tS X.K O (mRet m) r) := by
  refine PSi (ps_ret h) fun Dn σ H ⟨F, ρ, fl, ρ', ok, hm, q⟩ => ?_
  obtain ⟨⟨d, ρ1⟩, e1, e2⟩ := map_some hm
  cases e2
  exact ⟨F, ρ, d, ρ1, ok, e1, fun v F1 H1 ok1 st1 r1 => q v σ F1 H1 ok1 st1 r1⟩
theorem s_retN : PS X (.Return none pos) (tS X.K O (mRet (mC .none)) .fz) := PSi ps_retN fun Dn σ H ⟨F, ρ, fl, ρ', ok, hm, q⟩ => by
  cases hm
  exact q .non σ F H ok (StpS.refl _ _) rfl
theorem s_if {tc : Expr} {sa sb : List Stmt} (hc : PT X tc (tT X.K O c)) (ha : PSs X sa (tS X.K O a r)) (hb : PSs X sb (tS X.K O b r)) : PS X (.If tc sa sb pos) (tS X.K O (mIte c a b) r) := by
  refine PSi (ps_if hc ha hb) fun Dn σ H ⟨F, ρ, fl, ρ', ok, hm, q⟩ => ?_
  obtain ⟨⟨t, ρ1⟩, e1, e2⟩ := bind_some hm
  refine ⟨F, ρ, t, ρ1, ok, e1, fun F1 H1 ok1 st1 => ?_⟩
  cases t with
  | true =>
    rw [if_pos rfl] at e2 ⊢
    refine ⟨F1, ρ1, fl, ρ', ok1, e2, ?_⟩
    cases fl with
    | nx => exact fun σ2 F2 H2 ok2 st2 => q σ2 F2 H2 ok2 (st1.toStpS.trans st2)
    | bk => exact fun σ2 F2 H2 ok2 st2 => q σ2 F2 H2 ok2 (st1.toStpS.trans st2)
    | ct => exact fun σ2 F2 H2 ok2 st2 => q σ2 F2 H2 ok2 (st1.toStpS.trans st2)
    | rt d => exact fun v σ2 F2 H2 ok2 st2 r2 => q v σ2 F2 H2 ok2 (st1.toStpS.trans st2) (r2.pre st1)
  | false =>
    rw [if_neg Bool.false_ne_true] at e2 ⊢
    refine ⟨F1, ρ1, fl, ρ', ok1, e2, ?_⟩
    cases fl with
    | nx => exact fun σ2 F2 H2 ok2 st2 => q σ2 F2 H2 ok2 (st1.toStpS.trans st2)
    | bk => exact fun σ2 F2 H2 ok2 st2 => q σ2 F2 H2 ok2 (st1.toStpS.trans st2)
    | ct => exact fun σ2 F2 H2 ok2 st2 => q σ2 F2 H2 ok2 (st1.toStpS.trans st2)
    | rt d => exact fun v σ2 F2 H2 ok2 st2 r2 => q v σ2 F2 H2 ok2 (st1.toStpS.trans st2) (r2.pre st1)
theorem asgFz {K : PySem.W.Frag} {Dn : Ends} {σ : L2.St} {H : Hp} (hO : O[i]? = some Kd.fz) (hl : i < nl O) (h0 : hasO O = false ∨ i ≠ oi O) (h : tS K O (mSet i m) r Dn σ H) : tAsg (tE K O m .fz) (gName i) Dn σ H := by
  obtain ⟨F, ρ, fl, ρ', ok, hm, q⟩ := h
  obtain ⟨⟨d, ρ1⟩, e1, e2⟩ := map_some hm
  cases e2
  refine ⟨F, ρ, d, ρ1, ok, e1, fun v F1 H1 ok1 st1 r1 => ?_⟩
  obtain ⟨h1, h2⟩ := ok1.setFz hO hl h0 r1
  exact q _ F1 H1 h1 (st1.trans h2)
theorem asgOw {K : PySem.W.Frag} {Dn : Ends} {σ : L2.St} {H : Hp} (hO : O[i]? = some Kd.ow) (hl : i < nl O) (h0 : hasO O = false ∨ i ≠ oi O) (h : tS K O (mSet i m) r Dn σ H) : tAsg (tE K O m .ow) (gName i) Dn σ H := by
  obtain ⟨F, ρ, fl, ρ', ok, hm, q⟩ := h
  obtain ⟨⟨d, ρ1⟩, e1, e2⟩ := map_some hm
  cases e2
  refine ⟨F, ρ, d, ρ1, ok, e1, fun v F1 H1 ok1 st1 r1 => ?_⟩
  obtain ⟨p, rfl, r1, r2, r3, r4, r5⟩ := r1
  obtain ⟨h1, h2, h3, h4⟩ := ok1.setOw (p := p) hO hl h0 r1 r2 r3 r5
  refine q _ F1 H1 h1 ⟨st1.ex, st1.kp, st1.nw, fun b hb => ?_, fun j kk g1 g2 => (h3 j kk g1 g2).1.trans (st1.pn j kk g1 g2), fun j kk g1 g2 => ?_, st1.lo, fun e => ⟨(h4 e).trans (st1.o0 e).1, (st1.o0 e).2⟩⟩
  · rcases h2 b hb with z | z
    · rw [z]
      exact r4
    · exact st1.fp b z
  · have gp : kk.pin = true := by
      cases kk <;> first | rfl | cases g2
    exact (h3 j kk g1 gp).2.trans (st1.lk j kk g1 g2)
theorem s_setF (i : Nat) {pos' : Pos} (hN : X.N.Nodup) (he : PE X e (tE X.K O m .fz)) (hO : O[i]? = some Kd.fz := by rfl) (hl : i < nl O := by decide) (h0 : hasO O = false ∨ i ≠ oi O := by decide) (hi : X.N[i]? = some x := by rfl) (hx : Loc X.env.scope x := by first | exact Or.inl rfl | exact Or.inr rfl) (hs : swapsWith e (some (.Name x pos')) pos.line X.env = pure false := by rfl) (hf : X.fn x = true ∨ X.env.scope.names.lookup x = some .local := by first | exact .inl rfl | exact .inr rfl | assumption) :
    PS X (.Assign [.Name x pos'] e pos) (tS X.K O (mSet i m) r) := PSi (ps_set hN hi hx he hs hf) fun _ _ _ h => asgFz hO hl h0 h
theorem s_setO (i : Nat) {pos' : Pos} (hN : X.N.Nodup) (he : PE X e (tE X.K O m .ow)) (hO : O[i]? = some Kd.ow := by rfl) (hl : i < nl O := by decide) (h0 : hasO O = false ∨ i ≠ oi O := by decide) (hi : X.N[i]? = some x := by rfl) (hx : Loc X.env.scope x := by first | exact Or.inl rfl | exact Or.inr rfl) (hs : swapsWith e (some (.Name x pos')) pos.line X.env = pure false := by rfl) (hf : X.fn x = true ∨ X.env.scope.names.lookup x = some .local := by first | exact .inl rfl | exact .inr rfl | assumption) :
    PS X (.Assign [.Name x pos'] e pos) (tS X.K O (mSet i m) r) := PSi (ps_set hN hi hx he hs hf) fun _ _ _ h => asgOw hO hl h0 h
/-- a target of any form -/
theorem s_asg {tg : Expr} (he : PE X e (tE X.K O m .fz)) (hg : PG X tg (tG X.K O g is)) (hs : swapsWithSole [tg] e pos.line X.env = pure false := by rfl) (hw : swappedStores [tg] e X.env = pure none := by rfl)
    (h1 : (assignEach [tg] X.env).map (·.2) = [assign tg X.env] := by rfl) : PS X (.Assign [tg] e pos) (tS X.K O (mAsg g m) r) := by
  refine PSi (ps_asg he hg hs hw h1) fun Dn σ H ⟨F, ρ, fl, ρ', ok, hm, q⟩ => ?_
  obtain ⟨⟨d, ρ1⟩, e1, e2⟩ := bind_some hm
  obtain ⟨ρ2, e3, e4⟩ := map_some e2
  cases e4
  exact ⟨F, ρ, d, ρ1, ok, e1, fun v F1 H1 ok1 st1 r1 => ⟨F1, ρ1, d, ρ', ok1, r1, e3, fun σ2 ok2 st2 _ => q σ2 F1 H1 ok2 (st1.trans st2)⟩⟩
/-- x op= e on frozen values -/
def mAug (i : Nat) (m : M) (op : List D → Option D) : MS := fun ρ => match ρ[i]? with
  | some (some d) => (m ρ).bind fun p => (op [d, p.1]).map fun z => (.nx, p.2.set i (some z))
  | _ => none
theorem s_aug (i : Nat) {bo : Operator} {rr : R2} {op : List D → Option D} {pos' : Pos} (hN : X.N.Nodup) (ho : OpR X (inplaceOp bo) rr) (hsem : LSem X.K (rL2 rr) op .fz) (he : PE X e (tE X.K O m .fz)) (hO : O[i]? = some Kd.fz := by rfl) (hl : i < nl O := by decide) (h0 : hasO O = false ∨ i ≠ oi O := by decide) (hi : X.N[i]? = some x := by rfl) (hx : Loc X.env.scope x := by first | exact Or.inl rfl | exact Or.inr rfl)
    (hf : X.fn x = true ∨ X.env.scope.names.lookup x = some .local := by first | exact .inl rfl | exact .inr rfl | assumption) : PS X (.AugAssign (.Name x pos') bo e pos) (tS X.K O (mAug i m op) r) := by
  refine PSi (ps_aug hN hi hx he (fun pins s σ H x y v u Q I rx ry h => ho pins s σ H x y v u Q I rx ry h) hf) fun Dn σ H ⟨F, ρ, fl, ρ', ok, hm, q⟩ => ?_
  obtain ⟨d, e1, e2⟩ := slot_some hm
  obtain ⟨⟨d2, ρ1⟩, e3, e4⟩ := bind_some e2
  obtain ⟨z, e5, e6⟩ := map_some e4
  cases e6
  obtain ⟨v, g1, g2⟩ := ok.fz i d hO e1
  refine ⟨v, (sv_loc hl).symm.trans g1, F, ρ, d2, ρ1, ok, e3, fun u F1 H1 ok1 st1 r1 => ?_⟩
  have key : rL2 rr [v, u] H1 fun zv H2 => Dn.nx (σ.set i (some zv)) H2 := by
    refine hsem F1 H1 [d, d2] [v, u] z _ ok1.sub ⟨v, [u], rfl, Rp.vw ok1.sub (g2.mono st1.ex), u, [], rfl, Rp.vw ok1.sub r1, rfl⟩ e5 fun zv F2 H2 pu r2 => ?_
    obtain ⟨ok2, st2⟩ := ok1.pur pu
    obtain ⟨h1, h2⟩ := ok2.setFz hO hl h0 r2
    exact q _ F2 H2 h1 ((st1.trans st2).trans h2)
  obtain ⟨x', y', ee, kk⟩ := key
  cases ee
  exact kk
end
end DL

/-! DL5: what is walked, for, while. -/
namespace DL
open PySem PySem.Spec PyProof.Rows L2

/-! ### slots lent for the time of a loop -/
def lkOf : List Kd → List Kd → Bool
  | [], [] => true
  | a :: as, b :: bs => (decide (a = b) || (decide (a = .ow) && decide (b = .lk)) || (decide (a = .io) && decide (b = .li))) && lkOf as bs
  | _, _ => false
def Lk1 (a b : Kd) : Prop := a = b ∨ (a = .ow ∧ b = .lk) ∨ (a = .io ∧ b = .li)
theorem lk_get : ∀ {O L : List Kd} {i : Nat}, lkOf O L = true → (∀ a, O[i]? = some a → ∃ b, L[i]? = some b ∧ Lk1 a b) ∧ (∀ b, L[i]? = some b → ∃ a, O[i]? = some a ∧ Lk1 a b)
  | [], [], i, _ => ⟨fun a h => by simp at h, fun b h => by simp at h⟩
  | a :: as, b :: bs, i, h => by
    obtain ⟨h1, h2⟩ := Bool.and_eq_true_iff.mp (show (_ && lkOf as bs) = true from h)
    have e : Lk1 a b := by
      unfold Lk1
      simpa [or_assoc] using h1
    cases i with
    | zero =>
      refine ⟨fun c hc => ?_, fun c hc => ?_⟩
      · have hc : a = c := by simpa using hc
        subst hc
        exact ⟨b, by simp, e⟩
      · have hc : b = c := by simpa using hc
        subst hc
        exact ⟨a, by simp, e⟩
    | succ i =>
      have q := lk_get (i := i) h2
      simpa using q
  | [], b :: bs, _, h => by cases h
  | a :: as, [], _, h => by cases h
theorem lk_len : ∀ {O L : List Kd}, lkOf O L = true → O.length = L.length
  | [], [], _ => rfl
  | a :: as, b :: bs, h => by
    obtain ⟨h1, h2⟩ := Bool.and_eq_true_iff.mp (show (_ && lkOf as bs) = true from h)
    rw [List.length_cons, List.length_cons, lk_len h2]
  | [], b :: bs, h => by cases h
  | a :: as, [], h => by cases h
theorem Lk1.own {a b : Kd} (h : Lk1 a b) : a.own = b.own := by
  rcases h with h | ⟨h1, h2⟩ | ⟨h1, h2⟩
  · rw [h]
  · rw [h1, h2] <;> rfl
  · rw [h1, h2] <;> rfl
theorem Lk1.pin {a b : Kd} (h : Lk1 a b) (p : a.pin = true) : b.pin = true := by
  rcases h with h | ⟨h1, h2⟩ | ⟨h1, h2⟩
  · rw [← h]
    exact p
  · rw [h2] <;> rfl
  · rw [h2] <;> rfl
theorem Lk1.lock {a b : Kd} (h : Lk1 a b) (p : a.lock = true) : b.lock = true := by
  rcases h with h | ⟨h1, h2⟩ | ⟨h1, h2⟩
  · rw [← h]
    exact p
  · rw [h2] <;> rfl
  · rw [h2] <;> rfl
section
variable {K : PySem.W.Frag} {O L : List Kd} {w w' : Wd}
theorem lk_cell (hl : lkOf O L = true) (k : Nat) (c : Str) (as : List Str) : O.getLast? = some (.cell k c as) ↔ L.getLast? = some (.cell k c as) := by
  rw [List.getLast?_eq_getElem?, List.getLast?_eq_getElem?, ← lk_len hl]
  constructor
  · intro h
    obtain ⟨b, g1, g2⟩ := (lk_get hl).1 _ h
    rcases g2 with g2 | ⟨g2, _⟩ | ⟨g2, _⟩
    · rw [g1, g2]
    · cases g2
    · cases g2
  · intro h
    obtain ⟨b, g1, g2⟩ := (lk_get hl).2 _ h
    rcases g2 with g2 | ⟨_, g2⟩ | ⟨_, g2⟩
    · rw [g1, g2]
    · cases g2
    · cases g2
theorem hasO_iff {O : List Kd} : hasO O = true ↔ ∃ k c as, O.getLast? = some (.cell k c as) := by
  unfold hasO
  split
  · rename_i k c as e
    exact ⟨fun _ => ⟨k, c, as, e⟩, fun _ => rfl⟩
  · rename_i y
    exact ⟨fun z => (by cases z), fun z => by
      obtain ⟨k, c, as, z⟩ := z
      exact (y k c as z).elim⟩
theorem lk_has (hl : lkOf O L = true) : hasO L = hasO O := by
  have h : hasO L = true ↔ hasO O = true := by
    rw [hasO_iff, hasO_iff]
    exact ⟨fun ⟨k, c, as, z⟩ => ⟨k, c, as, (lk_cell hl k c as).mpr z⟩, fun ⟨k, c, as, z⟩ => ⟨k, c, as, (lk_cell hl k c as).mp z⟩⟩
  exact Bool.eq_iff_iff.mpr h
theorem lk_ats (hl : lkOf O L = true) : ats L = ats O := by
  cases e : hasO O with
  | false => rw [no_ats e, no_ats ((lk_has hl).trans e)]
  | true =>
    obtain ⟨k, c, as, z⟩ := hasO_iff.mp e
    unfold ats
    rw [z, (lk_cell hl k c as).mp z]
theorem no_oi {O : List Kd} (h : hasO O = false) : oi O = 0 := by
  unfold oi
  split
  · rename_i k c as e
    have := hasO_iff.mpr ⟨k, c, as, e⟩
    rw [h] at this
    cases this
  · rfl
theorem nl_no {O : List Kd} (h : hasO O = false) : nl O = O.length := by
  unfold nl
  rw [h]
  rfl
theorem sv_no {O : List Kd} {H : Hp} {σ : L2.St} {i : Nat} (h : hasO O = false) (hs : σ.length = O.length) : sv O H σ i = σ[i]? := by
  by_cases hi : i < nl O
  · exact sv_loc hi
  · have hi2 : σ.length ≤ i := by
      rw [nl_no h] at hi
      omega
    rw [List.getElem?_eq_none hi2]
    unfold sv
    rw [if_neg hi, no_ats h]
    rfl
theorem StpS.no {O : List Kd} {w w' : Wd} (h : hasO O = false) (st : StpS O w w') : Stp O w w' := ⟨st, fun e => by rw [h] at e; cases e⟩
theorem lk_oi (hl : lkOf O L = true) : oi L = oi O := by
  cases e : hasO O with
  | false => rw [no_oi e, no_oi ((lk_has hl).trans e)]
  | true =>
    obtain ⟨k, c, as, z⟩ := hasO_iff.mp e
    unfold oi
    rw [z, (lk_cell hl k c as).mp z]
theorem no_cn {O : List Kd} (h : hasO O = false) : cn O = Str.empty := by
  unfold cn
  split
  · rename_i k c as e
    have := hasO_iff.mpr ⟨k, c, as, e⟩
    rw [h] at this
    cases this
  · rfl
theorem lk_cn (hl : lkOf O L = true) : cn L = cn O := by
  cases e : hasO O with
  | false => rw [no_cn e, no_cn ((lk_has hl).trans e)]
  | true =>
    obtain ⟨k, c, as, z⟩ := hasO_iff.mp e
    unfold cn
    rw [z, (lk_cell hl k c as).mp z]
theorem lk_ob (hl : lkOf O L = true) (σ : L2.St) : ob L σ = ob O σ := by
  unfold ob
  rw [lk_oi hl]
theorem lk_nl (hl : lkOf O L = true) : nl L = nl O := by
  unfold nl
  rw [lk_has hl, lk_ats hl, lk_len hl]
theorem lk_sv (hl : lkOf O L = true) {H : Hp} {σ : L2.St} {i : Nat} : sv L H σ i = sv O H σ i := by
  unfold sv
  rw [lk_nl hl, lk_ats hl, lk_ob hl]
theorem lk_at (hl : lkOf O L = true) {i : Nat} {p : Addr} : OwnAt L w i p ↔ OwnAt O w i p := by
  constructor
  · rintro ⟨k, d, h1, h2, h3, h4⟩
    obtain ⟨a, g1, g2⟩ := (lk_get hl).2 k h1
    exact ⟨a, d, g1, g2.own.trans h2, h3, (lk_sv hl).symm.trans h4⟩
  · rintro ⟨k, d, h1, h2, h3, h4⟩
    obtain ⟨a, g1, g2⟩ := (lk_get hl).1 k h1
    exact ⟨a, d, g1, g2.own.symm.trans h2, h3, (lk_sv hl).trans h4⟩
theorem lk_fp (hl : lkOf O L = true) {p : Addr} : Fp L w p ↔ Fp O w p :=
  ⟨fun ⟨i, h⟩ => ⟨i, (lk_at hl).mp h⟩, fun ⟨i, h⟩ => ⟨i, (lk_at hl).mpr h⟩⟩
theorem lk_obj (hl : lkOf O L = true) : ObOk K L w ↔ ObOk K O w := by
  have e := lk_ob hl w.σ
  constructor
  · rintro ⟨a0, a1, a2, a3, a4, a5⟩
    rw [e] at a0 a2 a3 a4 a5
    rw [lk_cn hl, lk_ats hl] at a5
    rw [lk_oi hl] at a0 a1
    rw [lk_nl hl] at a1
    exact ⟨a0, a1, a2, a3, fun z => a4 ((lk_fp hl).mpr z), a5⟩
  · rintro ⟨a0, a1, a2, a3, a4, a5⟩
    rw [← e] at a0 a2 a3 a4 a5
    rw [← lk_cn hl, ← lk_ats hl] at a5
    rw [← lk_oi hl] at a0 a1
    rw [← lk_nl hl] at a1
    exact ⟨a0, a1, a2, a3, fun z => a4 ((lk_fp hl).mp z), a5⟩
theorem Ok.lock (hl : lkOf O L = true) (ok : Ok K O w) : Ok K L w := by
  refine ⟨ok.sub, ok.ls.trans (lk_nl hl).symm, ok.lr.trans (lk_len hl), fun i d h1 h2 => ?_, fun i k d h1 h2 h3 => ?_, fun i j p h1 h2 => ok.ap i j p ((lk_at hl).mp h1) ((lk_at hl).mp h2), fun e => ?_⟩
  · obtain ⟨a, g1, g2⟩ := (lk_get hl).2 _ h1
    rcases g2 with g2 | ⟨g2, g3⟩ | ⟨g2, g3⟩
    · rw [g2] at g1
      obtain ⟨v, y1, y2⟩ := ok.fz i d g1 h2
      exact ⟨v, (lk_sv hl).trans y1, y2⟩
    · cases g3
    · cases g3
  · obtain ⟨a, g1, g2⟩ := (lk_get hl).2 _ h1
    obtain ⟨v, y1, y2⟩ := ok.ow i a d g1 (g2.own.trans h2) h3
    exact ⟨v, (lk_sv hl).trans y1, y2⟩
  · exact (lk_obj hl).mpr (ok.obj ((lk_has hl).symm.trans e))
theorem Ok.unlock (hl : lkOf O L = true) (ok : Ok K L w) : Ok K O w := by
  refine ⟨ok.sub, ok.ls.trans (lk_nl hl), ok.lr.trans (lk_len hl).symm, fun i d h1 h2 => ?_, fun i k d h1 h2 h3 => ?_, fun i j p h1 h2 => ok.ap i j p ((lk_at hl).mpr h1) ((lk_at hl).mpr h2), fun e => ?_⟩
  · obtain ⟨a, g1, g2⟩ := (lk_get hl).1 _ h1
    rcases g2 with g2 | ⟨g2, g3⟩ | ⟨g2, g3⟩
    · rw [← g2] at g1
      obtain ⟨v, y1, y2⟩ := ok.fz i d g1 h2
      exact ⟨v, (lk_sv hl).symm.trans y1, y2⟩
    · cases g2
    · cases g2
  · obtain ⟨a, g1, g2⟩ := (lk_get hl).1 _ h1
    obtain ⟨v, y1, y2⟩ := ok.ow i a d g1 (g2.own.symm.trans h2) h3
    exact ⟨v, (lk_sv hl).symm.trans y1, y2⟩
  · exact (lk_obj hl).mp (ok.obj ((lk_has hl).trans e))
theorem StpS.unlock (hl : lkOf O L = true) (st : StpS L w w') : StpS O w w' where
  ex := st.ex
  kp := fun b o h z y => st.kp b o h (fun q => z ((lk_fp hl).mp q)) fun e => by rw [lk_ob hl]; exact y ((lk_has hl).symm.trans e)
  nw := fun b o h z => st.nw b o h fun q => z ((lk_fp hl).mp q)
  fp := fun b h => by
    rcases st.fp b ((lk_fp hl).mpr h) with q | q
    · exact .inl ((lk_fp hl).mp q)
    · exact .inr q
  pn := fun i k h1 h2 => by
    obtain ⟨a, g1, g2⟩ := (lk_get hl).1 k h1
    exact (lk_sv hl).symm.trans ((st.pn i a g1 (g2.pin h2)).trans (lk_sv hl))
  lk := fun i k h1 h2 => by
    obtain ⟨a, g1, g2⟩ := (lk_get hl).1 k h1
    exact st.lk i a g1 (g2.lock h2)
  lo := fun i k p d h1 h2 h3 h4 => by
    obtain ⟨a, g1, g2⟩ := (lk_get hl).1 k h1
    exact st.lo i a p d g1 (g2.lock h2) h3 ((lk_sv hl).trans h4)
  o0 := fun e => by
    have z := st.o0 ((lk_has hl).trans e)
    rw [lk_ob hl, lk_ob hl] at z
    exact z
theorem Stp.unlock (hl : lkOf O L = true) (st : Stp L w w') : Stp O w w' := ⟨st.toStpS.unlock hl, fun e => by
  have z := st.ost ((lk_has hl).trans e)
  rw [lk_ob hl] at z
  exact z⟩
theorem Rs.unlock (hl : lkOf O L = true) {k : Ak} {d : D} {v : V} (h : Rs K L w w' k d v) : Rs K O w w' k d v := by
  cases k with
  | fz => exact h
  | ow =>
    obtain ⟨p, e, h1, h2, h3, h4, h5⟩ := h
    refine ⟨p, e, h1, h2, fun z => h3 ((lk_fp hl).mpr z), ?_, fun e => by
      have z := h5 ((lk_has hl).trans e)
      rw [lk_ob hl] at z
      exact z⟩
    rcases h4 with h4 | h4
    · exact .inl ((lk_fp hl).mp h4)
    · exact .inr h4
  | br i =>
    obtain ⟨h1, q, h2, h3⟩ := h
    obtain ⟨a, g1, g2⟩ := (lk_get hl).2 q h2
    exact ⟨(lk_sv hl).symm.trans h1, a, g1, g2.own.trans h3⟩
theorem lk_refl : ∀ O : List Kd, lkOf O O = true
  | [] => rfl
  | a :: as => by
    show ((decide (a = a) || _ || _) && lkOf as as) = true
    rw [lk_refl as, decide_eq_true rfl] <;> rfl
end

/-! ### what is walked -/
/-- the turn i gives the i-th of ds -/
def YD (K : PySem.W.Frag) (F0 : Hp) (ds : List D) : Nat → Hp → V → Hp → Prop := fun i H x H' => ∀ F, Same F0 F → Same F H → ∃ F', Pur F H F' H' ∧ ∃ d, ds[i]? = some d ∧ Rp K F' d x
/-- a step, but for what Z tells -/
structure Stq (O : List Kd) (Z : Addr → Prop) (w w' : Wd) : Prop where
  ex : Same w.F w'.F
  kp : ∀ b o, ¬ Z b → w.H b = some o → ¬ Fp O w b → (hasO O = true → b ≠ ob O w.σ) → w'.H b = some o ∧ ¬ Fp O w' b
  pn : ∀ (i : Nat) (k : Kd), O[i]? = some k → k.pin = true → w'.sv O i = w.sv O i
  lk : ∀ (i : Nat) (k : Kd), O[i]? = some k → k.lock = true → w'.ρ[i]? = w.ρ[i]?
  lo : ∀ (i : Nat) (k : Kd) (p : Addr) (d : D), O[i]? = some k → k.lock = true → w.ρ[i]? = some (some d) → w.sv O i = some (some (.ref p)) → w'.H p = w.H p
  o0 : hasO O = true → ob O w'.σ = ob O w.σ
theorem StpS.q {O : List Kd} {w w' : Wd} (st : StpS O w w') (Z : Addr → Prop) : Stq O Z w w' := ⟨st.ex, fun b o _ h n y => ⟨st.kp b o h n y, st.nofp h n⟩, st.pn, st.lk, st.lo, fun e => (st.o0 e).1⟩
theorem Stp.q {O : List Kd} {w w' : Wd} (st : Stp O w w') (Z : Addr → Prop) : Stq O Z w w' := st.toStpS.q Z
theorem Stq.step {O : List Kd} {Z : Addr → Prop} {w w1 w2 : Wd} (a : Stq O Z w w1) (b : StpS O w1 w2) : Stq O Z w w2 where
  ex := a.ex.trans b.ex
  kp := fun c o z h n y => by
    obtain ⟨h1, h2⟩ := a.kp c o z h n y
    exact ⟨b.kp c o h1 h2 fun e => by rw [a.o0 e]; exact y e, b.nofp h1 h2⟩
  pn := fun i k h1 h2 => (b.pn i k h1 h2).trans (a.pn i k h1 h2)
  lk := fun i k h1 h2 => (b.lk i k h1 h2).trans (a.lk i k h1 h2)
  lo := fun i k p d h1 h2 h3 h4 => (b.lo i k p d h1 h2 ((a.lk i k h1 h2).trans h3) ((a.pn i k h1 (Kd.pin_of h2)).trans h4)).trans (a.lo i k p d h1 h2 h3 h4)
  o0 := fun e => (b.o0 e).1.trans (a.o0 e)
theorem Stq.unlock {K : PySem.W.Frag} {O L : List Kd} {Z : Addr → Prop} {w w' : Wd} (hl : lkOf O L = true) (st : Stq L Z w w') : Stq O Z w w' where
  ex := st.ex
  kp := fun b o z h n y => by
    obtain ⟨h1, h2⟩ := st.kp b o z h (fun q => n ((lk_fp hl).mp q)) fun e => by rw [lk_ob hl]; exact y ((lk_has hl).symm.trans e)
    exact ⟨h1, fun q => h2 ((lk_fp hl).mpr q)⟩
  pn := fun i k h1 h2 => by
    obtain ⟨a, g1, g2⟩ := (lk_get hl).1 k h1
    exact (lk_sv hl).symm.trans ((st.pn i a g1 (g2.pin h2)).trans (lk_sv hl))
  lk := fun i k h1 h2 => by
    obtain ⟨a, g1, g2⟩ := (lk_get hl).1 k h1
    exact st.lk i a g1 (g2.lock h2)
  lo := fun i k p d h1 h2 h3 h4 => by
    obtain ⟨a, g1, g2⟩ := (lk_get hl).1 k h1
    exact st.lo i a p d g1 (g2.lock h2) h3 ((lk_sv hl).trans h4)
  o0 := fun e => by
    have z := st.o0 ((lk_has hl).trans e)
    rw [lk_ob hl, lk_ob hl] at z
    exact z
/-- what Z may tell of: there at the start, neither frozen nor a slot's -/
def Zok (O : List Kd) (w : Wd) (Z : Addr → Prop) : Prop := ∀ b, Z b → (∃ o, w.H b = some o) ∧ w.F b = none ∧ ¬ Fp O w b ∧ (hasO O = true → b ≠ ob O w.σ)
def Zno : Addr → Prop := fun _ => False
theorem zno {O : List Kd} {w : Wd} : Zok O w Zno := fun _ h => h.elim
def tI (K : PySem.W.Frag) (O L : List Kd) (m : MI) : TI := fun σ H R => ∃ F ρ ds ρ', Ok K O ⟨F, H, σ, ρ⟩ ∧ m ρ = some (ds, ρ') ∧
  ∀ J F' H' G, Ok K O ⟨F', H', σ, ρ'⟩ → Stp O ⟨F, H, σ, ρ⟩ ⟨F', H', σ, ρ'⟩ → Walk J ds.length G (YD K F' ds) → (∀ Z, Zok O ⟨F, H, σ, ρ⟩ Z → ∀ w2, Ok K L w2 → Stq L Z ⟨F', H', σ, ρ'⟩ w2 → G w2.H) → R J H'
def mForL : List D → MG → MS → MS
  | [], _, _ => fun ρ => some (.nx, ρ)
  | d :: ds, g, b => fun ρ => (g d ρ).bind fun ρ1 => (b ρ1).bind fun p => match p.1 with
    | .nx => mForL ds g b p.2
    | .ct => mForL ds g b p.2
    | .bk => some (.nx, p.2)
    | .rt d => some (.rt d, p.2)
def mFor (mi : MI) (g : MG) (b : MS) : MS := fun ρ => (mi ρ).bind fun p => mForL p.1 g b p.2
section
variable {X : Cx} {O L : List Kd} {tg iter e : Expr} {mi : MI} {g : MG} {is : List Nat} {b : MS} {r : Ak} {body : List Stmt} {pos : Pos}
theorem PIi {w w' : TI} (h : PI X tg e w) (k : ∀ σ H R, w' σ H R → w σ H R) : PI X tg e w' := ⟨fun pins s σ H R I q => h.run pins s σ H R I (k σ H R q)⟩
theorem drop_get {ds : List D} {i : Nat} {d : D} (h : ds[i]? = some d) : ds.drop i = d :: ds.drop (i + 1) := by
  obtain ⟨hi, e⟩ := List.getElem?_eq_some_iff.mp h
  rw [List.drop_eq_getElem_cons hi, e]
theorem s_for (hp : PassesOwn (model X.prog X.w) X.A X.env X.xe) (hc : X.calm = true) (hi : PI X tg iter (tI X.K O L mi)) (hg : PG X tg (tG X.K L g is)) (hb : PSs X body (tS X.K L b r)) (hl : lkOf O L = true := by rfl)
    (hs : ∀ x, foldedSetIterable iter X.env x = pure x := by intro _; rfl) : PS X (.For tg iter body [] pos) (tS X.K O (mFor mi g b) r) := by
  refine PSi (ps_for hp hc hi hg hb hs) fun Dn σ H ⟨F, ρ, fl, ρ', ok, hm, q⟩ => ?_
  obtain ⟨⟨ds, ρ1⟩, e1, e2⟩ := bind_some hm
  refine ⟨F, ρ, ds, ρ1, ok, e1, fun J F1 H1 G ok1 st1 wk hG => ?_⟩
  have e2 : mForL ds g b ρ1 = some (fl, ρ') := e2
  refine for_it wk (fun i σ2 H2 => ∃ F2 ρ2, Ok X.K L ⟨F2, H2, σ2, ρ2⟩ ∧ StpS L ⟨F1, H1, σ, ρ1⟩ ⟨F2, H2, σ2, ρ2⟩ ∧ mForL (ds.drop i) g b ρ2 = some (fl, ρ'))
    ⟨F1, ρ1, ok1.lock hl, StpS.refl _ _, e2⟩ (fun i σ2 H2 _ ⟨F2, ρ2, ok2, st2, _⟩ => hG Zno zno _ ok2 (st2.q _)) (fun i x σ2 H2 H3 hi ⟨F2, ρ2, ok2, st2, m2⟩ y => ?_) fun σ2 H2 ⟨F2, ρ2, ok2, st2, m2⟩ => ?_
  · obtain ⟨F3, pu, d, hd, rp⟩ := y F2 st2.ex ok2.sub
    rw [drop_get hd] at m2
    obtain ⟨ρ3, g1, g2⟩ := bind_some m2
    obtain ⟨⟨f, ρ4⟩, g3, g4⟩ := bind_some g2
    obtain ⟨ok3, st3⟩ := ok2.pur pu
    refine ⟨F3, ρ2, d, ρ3, ok3, rp, g1, fun σ3 ok4 st4 _ => ⟨F3, ρ3, f, ρ4, ok4, g3, ?_⟩⟩
    have go : StpS L _ _ := (st2.trans st3.toStpS).trans st4.toStpS
    cases f with
    | nx => exact fun σ5 F5 H5 ok5 st5 => ⟨F5, ρ4, ok5, go.trans st5, g4⟩
    | ct => exact fun σ5 F5 H5 ok5 st5 => ⟨F5, ρ4, ok5, go.trans st5, g4⟩
    | bk =>
      cases g4
      exact fun σ5 F5 H5 ok5 st5 => q σ5 F5 H5 (ok5.unlock hl) (st1.toStpS.trans ((go.trans st5).unlock hl))
    | rt d =>
      cases g4
      exact fun v σ5 F5 H5 ok5 st5 r5 => q v σ5 F5 H5 (ok5.unlock hl) (st1.toStpS.trans ((go.trans st5).unlock hl)) (((r5.pre go).unlock hl).pre st1.toStpS)
  · rw [List.drop_length] at m2
    cases m2
    exact q σ2 F2 H2 (ok2.unlock hl) (st1.toStpS.trans (st2.unlock hl))

/-! ### what is walked, by kinds -/
def mItL (m : M) : MI := fun ρ => (m ρ).bind fun p => match p.1 with
  | .list ds => some (ds, p.2)
  | _ => none
def mItT (m : M) : MI := fun ρ => (m ρ).bind fun p => match p.1 with
  | .tuple ds => some (ds, p.2)
  | _ => none
/-- a slot's own list -/
def mItB (i : Nat) : MI := fun ρ => match ρ[i]? with
  | some (some (.list ds)) => some (ds, ρ)
  | _ => none
theorem itL_some {m : M} {ρ ρ' : En} {ds : List D} (h : mItL m ρ = some (ds, ρ')) : m ρ = some (.list ds, ρ') := by
  obtain ⟨⟨d, ρ1⟩, h1, h2⟩ := bind_some h
  cases d <;> cases h2
  exact h1
theorem itT_some {m : M} {ρ ρ' : En} {ds : List D} (h : mItT m ρ = some (ds, ρ')) : m ρ = some (.tuple ds, ρ') := by
  obtain ⟨⟨d, ρ1⟩, h1, h2⟩ := bind_some h
  cases d <;> cases h2
  exact h1
theorem yd_at {K : PySem.W.Frag} {F0 : Hp} {ds : List D} {xs : List V} (r : RpA K F0 ds xs) {i : Nat} {H : Hp} {x : V} {H' : Hp} (y : YAt xs i H x H') : YD K F0 ds i H x H' := fun F e s => by
  obtain ⟨rfl, y⟩ := y
  obtain ⟨d, h1, h2⟩ := r.getV y
  exact ⟨F, .refl s, d, h1, h2.mono e⟩
theorem walk_of_list {K : PySem.W.Frag} {F0 : Hp} {ds : List D} {xs : List V} {a : Addr} (r : RpA K F0 ds xs) : Walk (Itl K a) ds.length (fun H => SqL K H a xs) (YD K F0 ds) := by
  rw [← r.length]
  exact walk_list.mono (fun _ h => h) fun i H x H' _ _ y => yd_at r y
theorem walk_of_tup {K : PySem.W.Frag} {F0 : Hp} {ds : List D} {xs : List V} {a : Addr} (r : RpA K F0 ds xs) : Walk (Itt K a) ds.length (fun H => SqT K H a xs) (YD K F0 ds) := by
  rw [← r.length]
  exact walk_tup.mono (fun _ h => h) fun i H x H' _ _ y => yd_at r y
theorem i_list {m : M} (h : PE X e (tE X.K O m .fz)) : PI X tg e (tI X.K O L (mItL m)) := by
  refine PIi (pi_list h) fun σ H R ⟨F, ρ, ds, ρ', ok, hm, q⟩ => ?_
  refine ⟨F, ρ, _, ρ', ok, itL_some hm, fun v F1 H1 ok1 st1 r1 => ?_⟩
  obtain ⟨a, xs, e1, h1, h2⟩ := r1
  refine ⟨a, e1, ⟨xs, ok1.sub.seq h1⟩, q _ F1 H1 _ ok1 st1 (walk_of_list h2) fun Z _ w2 ok2 st2 => ok2.sub.seq (st2.ex.seq h1)⟩
theorem i_tup {m : M} (h : PE X e (tE X.K O m .fz)) : PI X tg e (tI X.K O L (mItT m)) := by
  refine PIi (pi_tup h) fun σ H R ⟨F, ρ, ds, ρ', ok, hm, q⟩ => ?_
  refine ⟨F, ρ, _, ρ', ok, itT_some hm, fun v F1 H1 ok1 st1 r1 => ?_⟩
  obtain ⟨a, xs, e1, h1, h2⟩ := r1
  exact ⟨a, e1, ⟨xs, same_sqt ok1.sub h1⟩, q _ F1 H1 _ ok1 st1 (walk_of_tup h2) fun Z _ w2 ok2 st2 => same_sqt ok2.sub (same_sqt st2.ex h1)⟩
theorem i_br (i : Nat) (h : PE X e (tE X.K O (mBr i) (.br i))) (hL : ∃ k : Kd, L[i]? = some k ∧ k.lock = true := by exact ⟨_, rfl, rfl⟩) (hl : lkOf O L = true := by rfl) : PI X tg e (tI X.K O L (mItB i)) := by
  refine PIi (pi_list h) fun σ H R ⟨F, ρ, ds, ρ', ok, hm, q⟩ => ?_
  have hm2 : ρ[i]? = some (some (.list ds)) ∧ ρ' = ρ := by
    unfold mItB at hm
    split at hm
    · rename_i ds' e1
      cases hm
      exact ⟨e1, rfl⟩
    · cases hm
  obtain ⟨g1, rfl⟩ := hm2
  refine ⟨F, ρ', .none, ρ', ok, by unfold mBr; rw [g1], fun v F1 H1 ok1 st1 r1 => ?_⟩
  obtain ⟨r1, k0, r2, r3⟩ := r1
  obtain ⟨p, e1, e2, o, e3, xs, e4, e5⟩ := ok1.ow i k0 _ r2 r3 g1
  rw [e1] at r1
  cases r1
  subst e4
  obtain ⟨k, k1, k2⟩ := hL
  refine ⟨p, rfl, ⟨xs, .inl (.inl e3)⟩, q _ F1 H1 _ ok1 st1 (walk_of_list (xs := xs) (a := p) e5) fun Z _ w2 ok2 st2 => .inl (.inl ?_)⟩
  rw [st2.lo i k p _ k1 k2 g1 ((lk_sv hl).trans e1)]
  exact e3
theorem i_ow {m : M} (h : PE X e (tE X.K O m .ow)) (hl : lkOf O L = true := by rfl) : PI X tg e (tI X.K O L (mItL m)) := by
  refine PIi (pi_list h) fun σ H R ⟨F, ρ, ds, ρ', ok, hm, q⟩ => ?_
  refine ⟨F, ρ, _, ρ', ok, itL_some hm, fun v F1 H1 ok1 st1 r1 => ?_⟩
  obtain ⟨p, rfl, h1, ⟨o, h2, xs, h3, h4⟩, h5, h6, h7⟩ := r1
  subst h3
  refine ⟨p, rfl, ⟨xs, .inl (.inl h2)⟩, q _ F1 H1 _ ok1 st1 (walk_of_list (xs := xs) (a := p) h4) fun Z hz w2 ok2 st2 => .inl (.inl ((Stq.unlock (K := X.K) hl st2).kp p _ (fun z => ?_) h2 h5 h7).1)⟩
  obtain ⟨⟨o, z1⟩, _, z3, _⟩ := hz p z
  rcases h6 with h6 | h6
  · exact z3 h6
  · rw [h6] at z1
    cases z1
/-! ### ranges -/
def dRng (lo : Int) (n : Nat) : List D := (List.range n).map fun (i : Nat) => PyData.int (lo + (i : Int))
theorem dRng_get {lo : Int} {n i : Nat} (h : i < n) : (dRng lo n)[i]? = some (.int (lo + (i : Int))) := by
  unfold dRng
  rw [List.getElem?_map, List.getElem?_range h]
  rfl
theorem dRng_len {lo : Int} {n : Nat} : (dRng lo n).length = n := by
  unfold dRng
  rw [List.length_map, List.length_range]
def mRng1 (ma : MA) : MI := fun ρ => (ma ρ).bind fun p => match p.1 with
  | [.int j] => if -(2 ^ 62) ≤ j ∧ j < 2 ^ 62 then some (dRng 0 j.toNat, p.2) else none
  | _ => none
def mRng2 (ma : MA) : MI := fun ρ => (ma ρ).bind fun p => match p.1 with
  | [.int i, .int j] => if -(2 ^ 62) ≤ i ∧ i < 2 ^ 62 ∧ -(2 ^ 62) ≤ j ∧ j < 2 ^ 62 then some (dRng i (j - i).toNat, p.2) else none
  | _ => none
theorem walk_of_range {K : PySem.W.Frag} {F0 : Hp} {lo : Int} {n : Nat} : Walk (Itr lo n) (dRng lo n).length (fun _ => True) (YD K F0 (dRng lo n)) := by
  rw [dRng_len]
  refine walk_range.mono (fun _ h => h) fun i H x H' hi _ y F e s => ?_
  obtain ⟨rfl, rfl⟩ := y
  exact ⟨F, .refl s, _, dRng_get hi, rfl⟩
theorem i_rng1 {a : Expr} {ma : MA} {p : Pos} (hm : X.mg "range" = none) (ha : PA X [a] (tA X.K O ma [.fz])) (hg : Gl X "range" := by rfl) (hs : starEach [a] X.env = [(false, eval a X.env)] := by rfl) : PI X tg (.Call (.Name "range" p) [a] [] pos) (tI X.K O L (mRng1 ma)) := by
  refine PIi (pi_range1 hg hm ha hs) fun σ H R ⟨F, ρ, ds, ρ', ok, hm, q⟩ => ?_
  obtain ⟨⟨as, ρ1⟩, e1, e2⟩ := bind_some hm
  refine ⟨F, ρ, as, ρ1, ok, e1, fun vs F1 H1 ok1 st1 r1 => ?_⟩
  dsimp only at e2
  split at e2
  · rename_i j
    split at e2
    · rename_i hj
      cases e2
      obtain ⟨r, _⟩ := r1.fz rfl
      obtain ⟨v, rfl, hv⟩ := r.one
      have hv : v = .int j := hv
      subst hv
      exact ⟨j, rfl, hj.1, hj.2, q _ F1 H1 _ ok1 st1 walk_of_range fun _ _ _ _ _ => trivial⟩
    · cases e2
  · cases e2
theorem i_rng2 {a c : Expr} {ma : MA} {p : Pos} (hm : X.mg "range" = none) (ha : PA X [a, c] (tA X.K O ma [.fz, .fz])) (hg : Gl X "range" := by rfl) (hs : starEach [a, c] X.env = [(false, eval a X.env), (false, eval c X.env)] := by rfl) (hs2 : starEach [c] X.env = [(false, eval c X.env)] := by rfl) :
    PI X tg (.Call (.Name "range" p) [a, c] [] pos) (tI X.K O L (mRng2 ma)) := by
  refine PIi (pi_range2 hg hm ha hs hs2) fun σ H R ⟨F, ρ, ds, ρ', ok, hm, q⟩ => ?_
  obtain ⟨⟨as, ρ1⟩, e1, e2⟩ := bind_some hm
  refine ⟨F, ρ, as, ρ1, ok, e1, fun vs F1 H1 ok1 st1 r1 => ?_⟩
  dsimp only at e2
  split at e2
  · rename_i i j
    split at e2
    · rename_i hj
      cases e2
      obtain ⟨r, _⟩ := r1.fz rfl
      obtain ⟨v, u, rfl, hv, hu⟩ := r.two
      have hv : v = .int i := hv
      have hu : u = .int j := hu
      subst hv hu
      exact ⟨i, j, rfl, hj, q _ F1 H1 _ ok1 st1 walk_of_range fun _ _ _ _ _ => trivial⟩
    · cases e2
  · cases e2
end

/-! ### while -/
def whN (c : MT) (b : MS) : Nat → MS
  | 0 => fun _ => none
  | n + 1 => fun ρ => (c ρ).bind fun p => if p.1 = true then (b p.2).bind fun q => match q.1 with
      | .nx => whN c b n q.2
      | .ct => whN c b n q.2
      | .bk => some (.nx, q.2)
      | .rt d => some (.rt d, q.2)
    else some (.nx, p.2)
theorem whN_more {c : MT} {b : MS} : ∀ {n : Nat} {ρ : En} {x : Fl × En}, whN c b n ρ = some x → whN c b (n + 1) ρ = some x
  | 0, _, _, h => by cases h
  | n + 1, ρ, x, h => by
    obtain ⟨⟨t, ρ1⟩, h1, h2⟩ := bind_some h
    show (c ρ).bind _ = some x
    rw [h1]
    show (if t = true then _ else _) = some x
    have h2 : (if t = true then _ else _) = some x := h2
    cases t with
    | false => exact h2
    | true =>
      rw [if_pos rfl] at h2 ⊢
      obtain ⟨⟨f, ρ2⟩, h3, h4⟩ := bind_some h2
      rw [show b ρ1 = _ from h3]
      clear h3 h2
      cases f with
      | nx => exact whN_more h4
      | ct => exact whN_more h4
      | bk => exact h4
      | rt d => exact h4
theorem whN_le {c : MT} {b : MS} {ρ : En} {x : Fl × En} : ∀ {n m : Nat}, n ≤ m → whN c b n ρ = some x → whN c b m ρ = some x := fun {n m} h q => by
  induction h with
  | refl => exact q
  | step _ ih => exact whN_more ih
/-- turns that a loop is shown for: as many as any run has -/
def whFuel : Nat := 100000000
def mWhile (c : MT) (b : MS) : MS := whN c b whFuel
theorem mWhile_of {c : MT} {b : MS} {n : Nat} {ρ : En} {x : Fl × En} (hn : n ≤ whFuel) (h : whN c b n ρ = some x) : mWhile c b ρ = some x := whN_le hn h
theorem mWhile_some {c : MT} {b : MS} {ρ : En} {x : Fl × En} (h : mWhile c b ρ = some x) : ∃ n, whN c b n ρ = some x := ⟨_, h⟩
section
variable {X : Cx} {O : List Kd} {e : Expr} {c : MT} {b : MS} {r : Ak} {body : List Stmt} {pos : Pos}
theorem s_while (hp : PassesOwn (model X.prog X.w) X.A X.env X.xe) (hc : PT X e (tT X.K O c)) (hb : PSs X body (tS X.K O b r)) : PS X (.While e body [] pos) (tS X.K O (mWhile c b) r) := by
  refine PSi (ps_while hp hc hb) fun Dn σ H ⟨F, ρ, fl, ρ', ok, hm, q⟩ => ?_
  obtain ⟨n, hn⟩ := mWhile_some hm
  refine ⟨fun m σ2 H2 => ∃ F2 ρ2, Ok X.K O ⟨F2, H2, σ2, ρ2⟩ ∧ StpS O ⟨F, H, σ, ρ⟩ ⟨F2, H2, σ2, ρ2⟩ ∧ whN c b m ρ2 = some (fl, ρ'), ⟨n, F, ρ, ok, StpS.refl _ _, hn⟩, fun m σ2 H2 ⟨F2, ρ2, ok2, st2, m2⟩ => ?_⟩
  cases m with
  | zero => cases m2
  | succ m =>
    obtain ⟨⟨t, ρ3⟩, h1, h2⟩ := bind_some m2
    refine ⟨F2, ρ2, t, ρ3, ok2, h1, fun F3 H3 ok3 st3 => ?_⟩
    have go : StpS O _ _ := st2.trans st3.toStpS
    cases t with
    | false =>
      dsimp only at h2 ⊢
      rw [if_neg Bool.false_ne_true] at h2 ⊢
      cases h2
      exact q σ2 F3 H3 ok3 go
    | true =>
      dsimp only at h2 ⊢
      rw [if_pos rfl] at h2 ⊢
      obtain ⟨⟨f, ρ4⟩, h3, h4⟩ := bind_some h2
      refine ⟨_, fun _ _ z => z, ?_⟩
      refine ⟨F3, ρ3, f, ρ4, ok3, h3, ?_⟩
      cases f with
      | nx => exact fun σ5 F5 H5 ok5 st5 => ⟨m, Nat.lt_succ_self m, F5, ρ4, ok5, go.trans st5, h4⟩
      | ct => exact fun σ5 F5 H5 ok5 st5 => ⟨m, Nat.lt_succ_self m, F5, ρ4, ok5, go.trans st5, h4⟩
      | bk =>
        cases h4
        exact fun σ5 F5 H5 ok5 st5 => q σ5 F5 H5 ok5 (go.trans st5)
      | rt d =>
        cases h4
        exact fun v σ5 F5 H5 ok5 st5 r5 => q v σ5 F5 H5 ok5 (go.trans st5) (r5.pre go)
end
end DL

/-! DL6: defs and their calls; no recursion guard is up while a def of the text runs. -/
namespace DL
open PySem PySem.Spec PyProof.Rows L2

/-- a def keeps its promise, as long as no repr is under way -/
structure FnG (P : Program) (w : World) (K : PySem.W.Frag) (mg : Str → Option Value) (base : Heap) (CX : CXT) (k : Nat) (f : Addr) (fd : FuncData) (ps : List Str) (sp : Sp) : Prop where
  ar : ∀ vs H Q E, sp vs H Q E → vs.length = ps.length
  go : ∀ (A : Around) (outer : List Env) (s : Shared) (H : Hp) (args : Args) (us : List Value) (vs : List V) (Q : VK) (E : XK), A.guards = some [] → Room k A → Env0 P w K mg base A outer s H → BindsTo s fd args (ps.zip us) →
    Vals vs us → sp vs H Q E → codeAny (model P w) A (.call (.ref f) args) (CR CX outer P w H s Q E) s
section
variable {P : Program} {w : World} {K : PySem.W.Frag} {mg : Str → Option Value} {base : Heap} {CX : CXT} {f : Addr} {fd : FuncData}
theorem FnG.up {j k : Nat} {ps : List Str} {sp : Sp} (G : FnG P w K mg base CX j f fd ps sp) (h : j ≤ k) : FnG P w K mg base CX k f fd ps sp :=
  ⟨G.ar, fun A outer s H args us vs Q E g hr => G.go A outer s H args us vs Q E g (hr.mono h)⟩
theorem FnG.imp {k : Nat} {ps : List Str} {sp sp' : Sp} (G : FnG P w K mg base CX k f fd ps sp) (h : ∀ vs H Q E, sp' vs H Q E → sp vs H Q E) : FnG P w K mg base CX k f fd ps sp' :=
  ⟨fun vs H Q E z => G.ar vs H Q E (h _ _ _ _ z), fun A outer s H args us vs Q E g hr e hb r z => G.go A outer s H args us vs Q E g hr e hb r (h _ _ _ _ z)⟩
/-- from the body -/
theorem fnG_of {x qual : Str} {params : Arguments} {body : List Stmt} {scope : Scope} {dvs : List V} {kws : List (Str × V)} {N ps : List Str} {k : Nat} {sp : Sp} (F : FunD K x qual params body scope dvs kws f fd) (S : FnScope N ps scope)
    (ar : ∀ vs H Q E, sp vs H Q E → vs.length = ps.length)
    (hb : ∀ (cd : Value) (A : Around) (outer : List Env) (s : Shared) (H : Hp) (vs : List V) (Q : VK) (E : XK), A.guards = some [] → Room k (A.deeper (envOfC qual scope s.heap.objs.size f cd)) → sp vs H Q E →
      ∃ t, PSs (cxOf CX P w K mg base N qual scope f cd A outer s H E) body t ∧ t { nx := fun _ H' => Q .non H', rt := Q } (L2.start N vs) H) : FnG P w K mg base CX (k + 1) f fd ps sp := by
  obtain ⟨oc, od, dV, kV, doc, pm, an, cd, ct, osl, rfl, lk, code, _, _⟩ := F.ex
  refine ⟨ar, fun A outer s H args us vs Q E g hr e bt rv z => ?_⟩
  have cnt := ar _ _ _ _ z
  have inS : K.In s.heap := e.mod.kin.keeps fun b o h => (e.bs b o h).1
  have noLim : s.heap.NoLimit := e.mod.nolimit.keeps fun b o h => (e.bs b o h).1
  have kinds : ∀ y ∈ ps.zip us, scope.names.lookup y.1 = some .local ∨
      (scope.names.lookup y.1 = some .cell ∧ ((cellsFrom (s.heap.objs.size + 1) scope.names []).lookup y.1).isSome = true) := by
    rintro ⟨n, v⟩ hy
    rcases S.par n (List.of_mem_zip hy).1 with h | h
    · exact Or.inl h
    · exact Or.inr ⟨h, PySem.W.cellsFrom_some _ _ _ (Or.inl h)⟩
  refine codeAny_call_function hr.depth (inS _ _ lk) rfl S.co S.gen rfl (PySem.W.codeRec_of inS code) (bt _ _ _ _ ?_)
  refine wpAny_newFunctionEnv_cells S.kind kinds fun en he s1 q => ?_
  subst he
  refine ⟨noLim.keeps q.toInCall.keep, codeAny_func ?_⟩
  obtain ⟨t, ht, h0⟩ := hb cd A outer s H vs Q E g (hr.deeper _) z
  have I := inv_start (CX := CX) (E := E) (f := f) (cd := cd) (A := A) (outer := outer) (P := P) (w := w) (base := base) S hr.hd e cnt rv q
  refine wpAny_mono (ht.run [] s1 (L2.start N vs) H _ I h0) (fun fl s' hs => ?_) fun _ _ hs => hs
  cases fl with
  | ret u =>
    obtain ⟨v, σ', H', J, r, h⟩ := hs
    exact ⟨v, H', J.os, J.bare, J.base, J.hok, r, h⟩
  | next =>
    obtain ⟨σ', H', J, h⟩ := hs
    exact ⟨V.non, H', J.os, J.bare, J.base, J.hok, rfl, h⟩
  | brk =>
    obtain ⟨_, _, _, h⟩ := hs
    exact h.elim
  | cont =>
    obtain ⟨_, _, _, h⟩ := hs
    exact h.elim
end
section
variable {X : Cx} {CX : CXT} {k : Nat} {f : Addr} {fd : FuncData} {ps : List Str} {sp : Sp} {dvs : List V} {ds : List Value} {E : XK} {x : Str} {p pos : Pos} {e : Expr} {es : List Expr} {t : TA}
theorem goFn {pins : List (Addr × Obj)} {σ : L2.St} {H : Hp} {s : Shared} {Q : VK} {us : List Value} {vs : List V} (G : FnG X.prog X.w X.K X.mg X.base CX k f fd ps sp) (hgd : X.A.guards = some []) (hr : Room k X.A) (hb : Binds X.K fd ps ds) (hd : Vals dvs ds)
    (hx : Passes CX X E) (I : Inv X pins σ H s) (r : Vals vs us) (h : sp (vs ++ dvs) H Q E) : wpAny (model X.prog X.w) X.A (call (.ref f) us) (EP X pins σ Q) X.xe s := by
  have both : Vals (vs ++ dvs) (us ++ ds) := r.append hd
  have cnt : (us ++ ds).length = ps.length := both.length.symm.trans (G.ar _ _ _ _ h)
  refine wpAny_call (codeAny_mono (G.go X.A X.stack s H ⟨us, []⟩ (us ++ ds) (vs ++ dvs) Q E hgd hr I.env0 (hb s us I.kIn cnt) both h) fun res s' hq => ?_)
  rcases res with e | fl
  · exact hx pins σ H s e s' I hq
  · cases fl with
    | ret u => exact I.after hq
    | next => exact hq.elim
    | brk => exact hq.elim
    | cont => exact hq.elim
theorem pe_callG (G : FnG X.prog X.w X.K X.mg X.base CX k f fd ps sp) (hgd : X.A.guards = some []) (hr : Room k X.A) (hm : X.mg x = some (.ref f)) (hk : PySem.W.keepIn X.K (.ref f) = true) (hb : Binds X.K fd ps ds) (hd : Vals dvs ds) (hx : Passes CX X E)
    (ha : PA X (e :: es) t) (hg : Gl X x := by rfl) (hdb : (x == ("__debug__" : Str)) = false := by decide) (he : starEach (e :: es) X.env = (false, eval e X.env) :: starEach es X.env := by rfl) (hpl : (backTo pos (starEach es X.env)).any (·.1) = false := by rfl) :
    PE X (.Call (.Name x p) (e :: es) [] pos) (tCall sp dvs E t) := ⟨fun pins s σ H Q I h => wpAny_Call_Name_kw (ld_glob I hg hm
      (PySem.W.callWith_K (h₀ := X.base) I.ok.mod.kin hk (thn (ha.run pos pins s σ H _ I h) fun us s1 ⟨vs, H1, I1, r, q⟩ => ⟨I1.kIn, goFn G hgd hr hb hd hx I1 r q⟩) he hpl) hdb)⟩
end

/-! ### the promise of a function on data -/
def outE : List Kd → En → En
  | [], _ => []
  | k :: ks, [] => none :: outE ks []
  | k :: ks, r :: ρ => (if k = .io then r else none) :: outE ks ρ
theorem outE_get : ∀ {ks : List Kd} {ρ : En} {i : Nat} {d : D}, (outE ks ρ)[i]? = some (some d) → ks[i]? = some Kd.io ∧ ρ[i]? = some (some d)
  | [], _, _, _, h => by
    unfold outE at h
    simp at h
  | k :: ks, [], 0, _, h => by
    have h : (none :: outE ks [])[0]? = _ := h
    simp at h
  | k :: ks, [], i + 1, d, h => by
    have h : (none :: outE ks [])[i + 1]? = _ := h
    rw [List.getElem?_cons_succ] at h
    have z := (outE_get h).2
    simp at z
  | k :: ks, r :: ρ, 0, d, h => by
    have h : ((if k = .io then r else none) :: outE ks ρ)[0]? = _ := h
    rw [List.getElem?_cons_zero] at h
    by_cases e : k = .io
    · rw [if_pos e] at h
      rw [e]
      exact ⟨rfl, h⟩
    · rw [if_neg e] at h
      cases h
  | k :: ks, r :: ρ, i + 1, d, h => by
    have h : ((if k = .io then r else none) :: outE ks ρ)[i + 1]? = _ := h
    rw [List.getElem?_cons_succ] at h
    have z := outE_get h
    simpa using z
theorem outE_len : ∀ {ks : List Kd} {ρ : En}, (outE ks ρ).length = ks.length
  | [], _ => rfl
  | k :: ks, [] => by
    show (none :: outE ks []).length = _
    rw [List.length_cons, outE_len, List.length_cons]
  | k :: ks, r :: ρ => by
    show (_ :: outE ks ρ).length = _
    rw [List.length_cons, outE_len, List.length_cons]
/-- a body as a function on its parameters -/
def mFun (Oi : List Kd) (n : Nat) (r : Ak) (b : MS) : En → Option (D × En) := fun ρ => (b (ρ ++ List.replicate n none)).bind fun p => match p.1 with
  | .rt d => some (d, outE Oi p.2)
  | .nx => (match r with
    | .fz => some (.none, outE Oi p.2)
    | _ => none)
  | _ => none
def noLk : List Kd → Bool
  | [] => true
  | k :: ks => !k.lock && noLk ks
theorem noLk_get : ∀ {ks : List Kd} {i : Nat} {k : Kd}, noLk ks = true → ks[i]? = some k → k.lock = false
  | [], _, _, _, h => by simp at h
  | a :: ks, 0, k, h, e => by
    have e : a = k := by simpa using e
    subst e
    have h := (Bool.and_eq_true_iff.mp (show (!a.lock && noLk ks) = true from h)).1
    simpa using h
  | a :: ks, i + 1, k, h, e => noLk_get (Bool.and_eq_true_iff.mp (show (!a.lock && noLk ks) = true from h)).2 (by simpa using e)
def spF (K : PySem.W.Frag) (Oi : List Kd) (mf : En → Option (D × En)) (r : Ak) : Sp := fun vs H Q _ => tE K Oi mf r (vs.map some) H Q
theorem spF_len {K : PySem.W.Frag} {Oi : List Kd} {mf : En → Option (D × En)} {r : Ak} {vs : List V} {H : Hp} {Q : VK} {E : XK} (n1 : hasO Oi = false) (h : spF K Oi mf r vs H Q E) : vs.length = Oi.length := by
  obtain ⟨F, ρ, d, ρ', ok, _⟩ := h
  have h : (vs.map some).length = nl Oi := ok.ls
  rw [List.length_map, nl_no n1] at h
  exact h
section
variable {K : PySem.W.Frag} {Oi Ol : List Kd} {N : List Str} {vs : List V} {F H : Hp} {ρ : En}
theorem start_get {i : Nat} (hi : i < vs.length) : (L2.start N vs)[i]? = (vs.map some)[i]? := by
  unfold L2.start
  rw [List.getElem?_append_left (by rw [List.length_map]; exact hi)]
theorem ent_own {σ : L2.St} (n1 : hasO Oi = false) (n2 : hasO (Oi ++ Ol) = false) (hl : ρ.length = Oi.length) (hs : σ.length = Oi.length) {σl : L2.St} (hσ : σl.length = Ol.length) {m : Nat} {i : Nat} {p : Addr} : OwnAt (Oi ++ Ol) ⟨F, H, σ ++ σl, ρ ++ List.replicate m none⟩ i p ↔ OwnAt Oi ⟨F, H, σ, ρ⟩ i p := by
  have s2 : sv (Oi ++ Ol) H (σ ++ σl) i = (σ ++ σl)[i]? := sv_no n2 (by rw [List.length_append, List.length_append]; omega)
  have s1 : sv Oi H σ i = σ[i]? := sv_no n1 hs
  constructor
  · rintro ⟨k, d, h1, h2, h3, h4⟩
    have h3 : (ρ ++ List.replicate m none)[i]? = some (some d) := h3
    have hi : i < ρ.length := by
      by_cases z : i < ρ.length
      · exact z
      · rw [List.getElem?_append_right (Nat.le_of_not_lt z), List.getElem?_replicate] at h3
        split at h3 <;> cases h3
    rw [List.getElem?_append_left hi] at h3
    rw [List.getElem?_append_left (by omega)] at h1
    have h4 := s2.symm.trans h4
    rw [List.getElem?_append_left (by omega)] at h4
    exact ⟨k, d, h1, h2, h3, s1.trans h4⟩
  · rintro ⟨k, d, h1, h2, h3, h4⟩
    have h3 : ρ[i]? = some (some d) := h3
    have hi : i < ρ.length := (List.getElem?_eq_some_iff.mp h3).1
    refine ⟨k, d, ?_, h2, ?_, s2.trans ?_⟩
    · rw [List.getElem?_append_left (by omega)]
      exact h1
    · show (ρ ++ List.replicate m none)[i]? = _
      rw [List.getElem?_append_left hi]
      exact h3
    · rw [List.getElem?_append_left (by omega)]
      exact s1.symm.trans h4
theorem ent_ok {σ : L2.St} {σl : L2.St} (n1 : hasO Oi = false) (n2 : hasO (Oi ++ Ol) = false) (ok : Ok K Oi ⟨F, H, σ, ρ⟩) (hσ : σl.length = Ol.length) : Ok K (Oi ++ Ol) ⟨F, H, σ ++ σl, ρ ++ List.replicate Ol.length none⟩ := by
  have hl : ρ.length = Oi.length := ok.lr
  have hs : σ.length = Oi.length := (show σ.length = nl Oi from ok.ls).trans (nl_no n1)
  have s2 : ∀ i, sv (Oi ++ Ol) H (σ ++ σl) i = (σ ++ σl)[i]? := fun i => sv_no n2 (by rw [List.length_append, List.length_append]; omega)
  have s1 : ∀ i, sv Oi H σ i = σ[i]? := fun i => sv_no n1 hs
  have low : ∀ {i : Nat} {d : D}, (ρ ++ List.replicate Ol.length none)[i]? = some (some d) → i < ρ.length ∧ ρ[i]? = some (some d) := fun {i d} h => by
    have hi : i < ρ.length := by
      by_cases z : i < ρ.length
      · exact z
      · rw [List.getElem?_append_right (Nat.le_of_not_lt z), List.getElem?_replicate] at h
        split at h <;> cases h
    rw [List.getElem?_append_left hi] at h
    exact ⟨hi, h⟩
  refine ⟨ok.sub, ?_, ?_, fun i d h1 h2 => ?_, fun i k d h1 h2 h3 => ?_, fun i j p h1 h2 => ok.ap i j p ((ent_own n1 n2 hl hs hσ).mp h1) ((ent_own n1 n2 hl hs hσ).mp h2), fun e => by rw [n2] at e; cases e⟩
  · show (σ ++ σl).length = _
    rw [nl_no n2, List.length_append, List.length_append, hs, hσ]
  · show (ρ ++ _).length = _
    rw [List.length_append, List.length_append, List.length_replicate, hl]
  · obtain ⟨hi, h3⟩ := low h2
    rw [List.getElem?_append_left (by omega)] at h1
    obtain ⟨v, g1, g2⟩ := ok.fz i d h1 h3
    exact ⟨v, (s2 i).trans (by rw [List.getElem?_append_left (by omega)]; exact (s1 i).symm.trans g1), g2⟩
  · obtain ⟨hi, h4⟩ := low h3
    rw [List.getElem?_append_left (by omega)] at h1
    obtain ⟨p, g1, g2⟩ := ok.ow i k d h1 h2 h4
    exact ⟨p, (s2 i).trans (by rw [List.getElem?_append_left (by omega)]; exact (s1 i).symm.trans g1), g2⟩
/-- behind the body: what the caller gets -/
theorem ext_ok {σ σ' : L2.St} {σl : L2.St} {F' H' : Hp} {ρ' : En} {r : Ak} {d : D} {v : V} (n1 : hasO Oi = false) (n2 : hasO (Oi ++ Ol) = false) (hσ : σl.length = Ol.length) (hnl : noLk Oi = true) (hr : ∀ i, r ≠ .br i) (ok : Ok K Oi ⟨F, H, σ, ρ⟩) (ok' : Ok K (Oi ++ Ol) ⟨F', H', σ', ρ'⟩)
    (st : StpS (Oi ++ Ol) ⟨F, H, σ ++ σl, ρ ++ List.replicate Ol.length none⟩ ⟨F', H', σ', ρ'⟩) (rs : Rs K (Oi ++ Ol) ⟨F, H, σ ++ σl, ρ ++ List.replicate Ol.length none⟩ ⟨F', H', σ', ρ'⟩ r d v) :
    Ok K Oi ⟨F', H', σ, outE Oi ρ'⟩ ∧ Stp Oi ⟨F, H, σ, ρ⟩ ⟨F', H', σ, outE Oi ρ'⟩ ∧ Rs K Oi ⟨F, H, σ, ρ⟩ ⟨F', H', σ, outE Oi ρ'⟩ r d v := by
  have hl : ρ.length = Oi.length := ok.lr
  have hs : σ.length = Oi.length := (show σ.length = nl Oi from ok.ls).trans (nl_no n1)
  have hs' : σ'.length = (Oi ++ Ol).length := (show σ'.length = nl (Oi ++ Ol) from ok'.ls).trans (nl_no n2)
  have s2 : ∀ i, sv (Oi ++ Ol) H (σ ++ σl) i = (σ ++ σl)[i]? := fun i => sv_no n2 (by rw [List.length_append, List.length_append]; omega)
  have s2' : ∀ i, sv (Oi ++ Ol) H' σ' i = σ'[i]? := fun i => sv_no n2 hs'
  have s1 : ∀ (H : Hp) i, sv Oi H σ i = σ[i]? := fun H i => sv_no n1 hs
  have fp : ∀ {b : Addr}, Fp (Oi ++ Ol) ⟨F, H, σ ++ σl, ρ ++ List.replicate Ol.length none⟩ b ↔ Fp Oi ⟨F, H, σ, ρ⟩ b := ⟨fun ⟨i, h⟩ => ⟨i, (ent_own n1 n2 hl hs hσ).mp h⟩, fun ⟨i, h⟩ => ⟨i, (ent_own n1 n2 hl hs hσ).mpr h⟩⟩
  have at_ : ∀ {i : Nat}, Oi[i]? = some Kd.io → (Oi ++ Ol)[i]? = some Kd.io ∧ σ'[i]? = σ[i]? := fun {i} h => by
    have hi : i < Oi.length := (List.getElem?_eq_some_iff.mp h).1
    have h' : (Oi ++ Ol)[i]? = some Kd.io := by
      rw [List.getElem?_append_left hi]
      exact h
    have z := st.pn i _ h' rfl
    have z : σ'[i]? = (σ ++ σl)[i]? := (s2' i).symm.trans ((show sv (Oi ++ Ol) H' σ' i = sv (Oi ++ Ol) H (σ ++ σl) i from z).trans (s2 i))
    rw [List.getElem?_append_left (by omega)] at z
    exact ⟨h', z⟩
  have back : ∀ {i : Nat} {p : Addr}, OwnAt Oi ⟨F', H', σ, outE Oi ρ'⟩ i p → OwnAt (Oi ++ Ol) ⟨F', H', σ', ρ'⟩ i p := fun {i p} ⟨k, d', h1, h2, h3, h4⟩ => by
    obtain ⟨g1, g2⟩ := outE_get h3
    obtain ⟨e1, e2⟩ := at_ g1
    exact ⟨_, d', e1, rfl, g2, (s2' i).trans (e2.trans ((s1 H' i).symm.trans h4))⟩
  refine ⟨⟨ok'.sub, ok.ls, outE_len, fun i d' h1 h2 => ?_, fun i k d' h1 h2 h3 => ?_, fun i j p h1 h2 => ok'.ap i j p (back h1) (back h2), fun e => by rw [n1] at e; cases e⟩,
    StpS.no n1 ⟨st.ex, fun b o h z _ => st.kp b o h (fun q => z (fp.mp q)) (fun e => by rw [n2] at e; cases e), fun b o h z => st.nw b o h fun q => z (fp.mp q), fun b ⟨i, h⟩ => ?_, fun i _ _ _ => (s1 H' i).trans (s1 H i).symm, fun i k h1 h2 => ?_, fun i k p d' h1 h2 => ?_, fun e => by rw [n1] at e; cases e⟩, ?_⟩
  · have := (outE_get h2).1
    rw [h1] at this
    cases this
  · obtain ⟨g1, g2⟩ := outE_get h3
    obtain ⟨e1, e2⟩ := at_ g1
    obtain ⟨p, q1, q2⟩ := ok'.ow i _ d' e1 rfl g2
    exact ⟨p, (s1 H' i).trans (e2.symm.trans ((s2' i).symm.trans q1)), q2⟩
  · rcases st.fp b ⟨i, back h⟩ with q | q
    · exact .inl (fp.mp q)
    · exact .inr q
  · rw [noLk_get hnl h1] at h2
    cases h2
  · rw [noLk_get hnl h1] at h2
    cases h2
  · cases r with
    | fz => exact rs
    | ow =>
      obtain ⟨p, e, h1, h2, h3, h4, h5⟩ := rs
      refine ⟨p, e, h1, h2, fun ⟨i, z⟩ => h3 ⟨i, back z⟩, ?_, fun e => by rw [n1] at e; cases e⟩
      rcases h4 with h4 | h4
      · exact .inl (fp.mp h4)
      · exact .inr h4
    | br i => exact (hr i rfl).elim
end
section
variable {P : Program} {w : World} {K : PySem.W.Frag} {mg : Str → Option Value} {base : Heap} {f : Addr} {fd : FuncData}
/-- a def of the text as a function on data -/
theorem fn_data {x qual : Str} {params : Arguments} {body : List Stmt} {scope : Scope} {dvs : List V} {kws : List (Str × V)} {N ps : List Str} {k : Nat} {Oi Ol : List Kd} {b : MS} {r : Ak} (F : FunD K x qual params body scope dvs kws f fd) (S : FnScope N ps scope)
    (hi : Oi.length = ps.length) (hN : N.length = Oi.length + Ol.length) (hnl : noLk Oi = true) (hr : ∀ i, r ≠ .br i)
    (hb : ∀ (cd : Value) (A : Around) (outer : List Env) (s : Shared) (H : Hp) (E : XK), A.guards = some [] → Room k (A.deeper (envOfC qual scope s.heap.objs.size f cd)) →
      PSs (cxOf CX0 P w K mg base N qual scope f cd A outer s H E).nox body (tS K (Oi ++ Ol) b r)) (n1 : hasO Oi = false := by rfl) (n2 : hasO (Oi ++ Ol) = false := by rfl) : FnG P w K mg base CX0 (k + 1) f fd ps (spF K Oi (mFun Oi Ol.length r b) r) := by
  refine fnG_of F S (fun vs H Q E h => (spF_len n1 h).trans hi) fun cd A outer s H vs Q E g hr' h => ?_
  refine ⟨_, (hb cd A outer s H E g hr').nox, ?_⟩
  have hv := spF_len n1 h
  obtain ⟨Fz, ρ, d, ρ', ok, hm, q⟩ := h
  obtain ⟨⟨fl, ρ1⟩, h1, h2⟩ := bind_some hm
  have hst : L2.start N vs = vs.map some ++ List.replicate Ol.length none := by
    unfold L2.start
    rw [hN, hv, Nat.add_sub_cancel_left]
  rw [hst]
  refine ⟨Fz, _, fl, ρ1, ent_ok (Ol := Ol) n1 n2 ok (List.length_replicate), h1, ?_⟩
  cases fl with
  | nx =>
    cases r with
    | ow => cases h2
    | br i => cases h2
    | fz =>
    cases h2
    intro σ' F' H' ok' st
    obtain ⟨o1, o2, o3⟩ := ext_ok (d := .none) (v := .non) (r := .fz) n1 n2 (List.length_replicate) hnl (fun _ z => by cases z) ok ok' st rfl
    exact q .non F' H' o1 o2 o3
  | rt d' =>
    cases h2
    intro v σ' F' H' ok' st rs
    obtain ⟨o1, o2, o3⟩ := ext_ok n1 n2 (List.length_replicate) hnl hr ok ok' st rs
    exact q v F' H' o1 o2 o3
  | bk => cases h2
  | ct => cases h2
end
end DL

/-! DL7: calls of defs; the law's own end. -/
namespace DL
open PySem PySem.Spec PyProof.Rows L2

/-! ### arguments against parameters -/
def brs : List Ak → List Nat
  | [] => []
  | .br i :: ks => i :: brs ks
  | .fz :: ks => brs ks
  | .ow :: ks => brs ks
def ows : List Ak → Nat
  | [] => 0
  | .ow :: ks => ows ks + 1
  | .fz :: ks => ows ks
  | .br _ :: ks => ows ks
def mutK : Option Kd → Bool
  | some .ow => true
  | some .io => true
  | _ => false
def sig1 (O : List Kd) : List Ak → List Kd → Bool
  | [], oi => oi.all fun k => decide (k = .fz)
  | .fz :: ks, .fz :: oi => sig1 O ks oi
  | .ow :: ks, .ow :: oi => sig1 O ks oi
  | .br i :: ks, .io :: oi => mutK O[i]? && sig1 O ks oi
  | _, _ => false
def sigOk (O : List Kd) (ks : List Ak) (oi : List Kd) : Bool := sig1 O ks oi && (decide (brs ks).Nodup && decide (ows ks ≤ 1))
def putB : List Ak → En → En → En
  | [], _, ρ => ρ
  | .br i :: ks, o :: os, ρ => putB ks os (ρ.set i o)
  | .fz :: ks, _ :: os, ρ => putB ks os ρ
  | .ow :: ks, _ :: os, ρ => putB ks os ρ
  | _ :: _, [], ρ => ρ
def mCall (mf : En → Option (D × En)) (ks : List Ak) (dd : List D) (ma : MA) : M := fun ρ => (ma ρ).bind fun p => (fill ks p.1 p.2).bind fun ds => (mf ((ds ++ dd).map some)).bind fun z => some (z.1, putB ks z.2 p.2)
theorem putB_len : ∀ {ks : List Ak} {os ρ : En}, (putB ks os ρ).length = ρ.length
  | [], _, _ => rfl
  | .br i :: ks, o :: os, ρ => by
    show (putB ks os (ρ.set i o)).length = _
    rw [putB_len, List.length_set]
  | .fz :: ks, o :: os, ρ => putB_len (ks := ks) (os := os)
  | .ow :: ks, o :: os, ρ => putB_len (ks := ks) (os := os)
  | .br i :: ks, [], ρ => rfl
  | .fz :: ks, [], ρ => rfl
  | .ow :: ks, [], ρ => rfl
/-- a slot behind a call: as it was, or handed back -/
theorem putB_get : ∀ {ks : List Ak} {os ρ : En} {i : Nat}, (brs ks).Nodup → (i ∉ brs ks ∧ (putB ks os ρ)[i]? = ρ[i]?) ∨ (i ∈ brs ks ∧ ∃ j : Nat, ks[j]? = some (.br i) ∧ ((∃ o, os[j]? = some o ∧ (putB ks os ρ)[i]? = (ρ.set i o)[i]?) ∨ (os[j]? = none ∧ (putB ks os ρ)[i]? = ρ[i]?)))
  | [], _, _, i, _ => .inl ⟨by simp [brs], rfl⟩
  | .br n :: ks, o :: os, ρ, i, h => by
    have hn : n ∉ brs ks ∧ (brs ks).Nodup := List.nodup_cons.mp h
    have ih := putB_get (ks := ks) (os := os) (ρ := ρ.set n o) (i := i) hn.2
    by_cases e : n = i
    · subst e
      rcases ih with ⟨_, q⟩ | ⟨z, _⟩
      · exact .inr ⟨List.mem_cons_self, 0, rfl, .inl ⟨o, rfl, q⟩⟩
      · exact (hn.1 z).elim
    · rcases ih with ⟨z, q⟩ | ⟨z, j, j1, j2⟩
      · refine .inl ⟨fun m => ?_, ?_⟩
        · rcases List.mem_cons.mp m with m | m
          · exact e m.symm
          · exact z m
        · show (putB ks os (ρ.set n o))[i]? = _
          rw [q, List.getElem?_set_ne e]
      · refine .inr ⟨List.mem_cons_of_mem _ z, j + 1, j1, ?_⟩
        rcases j2 with ⟨o', j2, j3⟩ | ⟨j2, j3⟩
        · refine .inl ⟨o', by simpa using j2, ?_⟩
          show (putB ks os (ρ.set n o))[i]? = _
          rw [j3]
          by_cases hl : i < ρ.length
          · rw [List.getElem?_set_self (by rw [List.length_set]; exact hl), List.getElem?_set_self hl]
          · rw [List.getElem?_eq_none (by rw [List.length_set, List.length_set]; omega), List.getElem?_eq_none (by rw [List.length_set]; omega)]
        · refine .inr ⟨by simpa using j2, ?_⟩
          show (putB ks os (ρ.set n o))[i]? = _
          rw [j3, List.getElem?_set_ne e]
  | .br n :: ks, [], ρ, i, h => by
    have hn : n ∉ brs ks ∧ (brs ks).Nodup := List.nodup_cons.mp h
    by_cases m : i ∈ brs (.br n :: ks)
    · refine .inr ⟨m, ?_⟩
      have key : ∀ {ks : List Ak}, i ∈ brs ks → ∃ j : Nat, ks[j]? = some (.br i) := fun {ks} => by
        induction ks with
        | nil => exact fun h => by simp [brs] at h
        | cons a ks ih =>
          intro h
          cases a with
          | br n =>
            rcases List.mem_cons.mp h with e | e
            · exact ⟨0, by rw [e]; rfl⟩
            · obtain ⟨j, q⟩ := ih e
              exact ⟨j + 1, by simpa using q⟩
          | fz =>
            obtain ⟨j, q⟩ := ih h
            exact ⟨j + 1, by simpa using q⟩
          | ow =>
            obtain ⟨j, q⟩ := ih h
            exact ⟨j + 1, by simpa using q⟩
      obtain ⟨j, q⟩ := key m
      exact ⟨j, q, .inr ⟨by simp, rfl⟩⟩
    · exact .inl ⟨m, rfl⟩
  | .fz :: ks, o :: os, ρ, i, h => by
    rcases putB_get (ks := ks) (os := os) (ρ := ρ) (i := i) h with ⟨z, q⟩ | ⟨z, j, j1, j2⟩
    · exact .inl ⟨z, q⟩
    · exact .inr ⟨z, j + 1, by simpa using j1, by simpa [putB] using j2⟩
  | .ow :: ks, o :: os, ρ, i, h => by
    rcases putB_get (ks := ks) (os := os) (ρ := ρ) (i := i) h with ⟨z, q⟩ | ⟨z, j, j1, j2⟩
    · exact .inl ⟨z, q⟩
    · exact .inr ⟨z, j + 1, by simpa using j1, by simpa [putB] using j2⟩
  | .fz :: ks, [], ρ, i, h => by
    by_cases m : i ∈ brs (.fz :: ks)
    · have key : ∀ {ks : List Ak}, i ∈ brs ks → ∃ j : Nat, ks[j]? = some (.br i) := fun {ks} => by
        induction ks with
        | nil => exact fun h => by simp [brs] at h
        | cons a ks ih =>
          intro h
          cases a with
          | br n =>
            rcases List.mem_cons.mp h with e | e
            · exact ⟨0, by rw [e]; rfl⟩
            · obtain ⟨j, q⟩ := ih e
              exact ⟨j + 1, by simpa using q⟩
          | fz =>
            obtain ⟨j, q⟩ := ih h
            exact ⟨j + 1, by simpa using q⟩
          | ow =>
            obtain ⟨j, q⟩ := ih h
            exact ⟨j + 1, by simpa using q⟩
      obtain ⟨j, q⟩ := key m
      exact .inr ⟨m, j, q, .inr ⟨by simp, rfl⟩⟩
    · exact .inl ⟨m, rfl⟩
  | .ow :: ks, [], ρ, i, h => by
    by_cases m : i ∈ brs (.ow :: ks)
    · have key : ∀ {ks : List Ak}, i ∈ brs ks → ∃ j : Nat, ks[j]? = some (.br i) := fun {ks} => by
        induction ks with
        | nil => exact fun h => by simp [brs] at h
        | cons a ks ih =>
          intro h
          cases a with
          | br n =>
            rcases List.mem_cons.mp h with e | e
            · exact ⟨0, by rw [e]; rfl⟩
            · obtain ⟨j, q⟩ := ih e
              exact ⟨j + 1, by simpa using q⟩
          | fz =>
            obtain ⟨j, q⟩ := ih h
            exact ⟨j + 1, by simpa using q⟩
          | ow =>
            obtain ⟨j, q⟩ := ih h
            exact ⟨j + 1, by simpa using q⟩
      obtain ⟨j, q⟩ := key m
      exact .inr ⟨m, j, q, .inr ⟨by simp, rfl⟩⟩
    · exact .inl ⟨m, rfl⟩
theorem brs_mem {i : Nat} : ∀ {ks : List Ak} {j : Nat}, ks[j]? = some (.br i) → i ∈ brs ks
  | [], _, h => by simp at h
  | a :: ks, 0, h => by
    have h : a = .br i := by simpa using h
    rw [h]
    exact List.mem_cons_self
  | a :: ks, j + 1, h => by
    have q := brs_mem (ks := ks) (j := j) (by simpa using h)
    cases a with
    | br n => exact List.mem_cons_of_mem _ q
    | fz => exact q
    | ow => exact q
theorem brs_inj {i : Nat} : ∀ {ks : List Ak} {j j' : Nat}, (brs ks).Nodup → ks[j]? = some (.br i) → ks[j']? = some (.br i) → j = j'
  | [], _, _, _, h, _ => by simp at h
  | a :: ks, 0, 0, _, _, _ => rfl
  | a :: ks, 0, j' + 1, hn, h, h' => by
    have h : a = .br i := by simpa using h
    subst h
    exact ((List.nodup_cons.mp (show (i :: brs ks).Nodup from hn)).1 (brs_mem (by simpa using h'))).elim
  | a :: ks, j + 1, 0, hn, h, h' => by
    have h' : a = .br i := by simpa using h'
    subst h'
    exact ((List.nodup_cons.mp (show (i :: brs ks).Nodup from hn)).1 (brs_mem (by simpa using h))).elim
  | a :: ks, j + 1, j' + 1, hn, h, h' => by
    have hn' : (brs ks).Nodup := by
      cases a with
      | br n => exact (List.nodup_cons.mp (show (n :: brs ks).Nodup from hn)).2
      | fz => exact hn
      | ow => exact hn
    exact congrArg (· + 1) (brs_inj (ks := ks) (j := j) (j' := j') hn' (by simpa using h) (by simpa using h'))
theorem ows_pos : ∀ {ks : List Ak} {j : Nat}, ks[j]? = some .ow → 0 < ows ks
  | [], _, h => by simp at h
  | a :: ks, 0, h => by
    have h : a = .ow := by simpa using h
    rw [h]
    exact Nat.succ_pos _
  | a :: ks, j + 1, h => by
    have q := ows_pos (ks := ks) (j := j) (by simpa using h)
    cases a with
    | br n => exact q
    | fz => exact q
    | ow => exact Nat.succ_pos _
theorem ows_inj : ∀ {ks : List Ak} {j j' : Nat}, ows ks ≤ 1 → ks[j]? = some .ow → ks[j']? = some .ow → j = j'
  | [], _, _, _, h, _ => by simp at h
  | a :: ks, 0, 0, _, _, _ => rfl
  | a :: ks, 0, j' + 1, hn, h, h' => by
    have h : a = .ow := by simpa using h
    subst h
    have q := ows_pos (ks := ks) (j := j') (by simpa using h')
    have hn : ows ks + 1 ≤ 1 := hn
    omega
  | a :: ks, j + 1, 0, hn, h, h' => by
    have h' : a = .ow := by simpa using h'
    subst h'
    have q := ows_pos (ks := ks) (j := j) (by simpa using h)
    have hn : ows ks + 1 ≤ 1 := hn
    omega
  | a :: ks, j + 1, j' + 1, hn, h, h' => by
    have hn' : ows ks ≤ 1 := by
      cases a with
      | br n => exact hn
      | fz => exact hn
      | ow =>
        have hn : ows ks + 1 ≤ 1 := hn
        omega
    exact congrArg (· + 1) (ows_inj (ks := ks) (j := j) (j' := j') hn' (by simpa using h) (by simpa using h'))
theorem sig1_get {O : List Kd} : ∀ {ks : List Ak} {oi : List Kd} {j : Nat} {q : Kd}, sig1 O ks oi = true → oi[j]? = some q →
    (ks[j]? = none ∧ q = .fz) ∨ (ks[j]? = some .fz ∧ q = .fz) ∨ (ks[j]? = some .ow ∧ q = .ow) ∨ ∃ i, ks[j]? = some (.br i) ∧ q = .io ∧ mutK O[i]? = true
  | [], oi, j, q, h, e => .inl ⟨by simp, by
    have h : (oi.all fun k => decide (k = .fz)) = true := h
    exact of_decide_eq_true (List.all_eq_true.mp h q (List.mem_of_getElem? e))⟩
  | .fz :: ks, .fz :: oi, 0, q, h, e => .inr (.inl ⟨rfl, by simpa using e.symm⟩)
  | .fz :: ks, .fz :: oi, j + 1, q, h, e => by simpa using sig1_get (ks := ks) (oi := oi) (j := j) h (by simpa using e)
  | .ow :: ks, .ow :: oi, 0, q, h, e => .inr (.inr (.inl ⟨rfl, by simpa using e.symm⟩))
  | .ow :: ks, .ow :: oi, j + 1, q, h, e => by simpa using sig1_get (ks := ks) (oi := oi) (j := j) h (by simpa using e)
  | .br i :: ks, .io :: oi, 0, q, h, e => .inr (.inr (.inr ⟨i, rfl, by simpa using e.symm, (Bool.and_eq_true_iff.mp h).1⟩))
  | .br i :: ks, .io :: oi, j + 1, q, h, e => by simpa using sig1_get (ks := ks) (oi := oi) (j := j) (Bool.and_eq_true_iff.mp h).2 (by simpa using e)
  | .fz :: ks, [], _, _, h, _ => by cases h
  | .ow :: ks, [], _, _, h, _ => by cases h
  | .br _ :: ks, [], _, _, h, _ => by cases h
  | .fz :: ks, .ow :: oi, _, _, h, _ => by cases h
  | .fz :: ks, .io :: oi, _, _, h, _ => by cases h
  | .fz :: ks, .lk :: oi, _, _, h, _ => by cases h
  | .fz :: ks, .li :: oi, _, _, h, _ => by cases h
  | .ow :: ks, .fz :: oi, _, _, h, _ => by cases h
  | .ow :: ks, .io :: oi, _, _, h, _ => by cases h
  | .ow :: ks, .lk :: oi, _, _, h, _ => by cases h
  | .ow :: ks, .li :: oi, _, _, h, _ => by cases h
  | .br _ :: ks, .fz :: oi, _, _, h, _ => by cases h
  | .br _ :: ks, .ow :: oi, _, _, h, _ => by cases h
  | .br _ :: ks, .lk :: oi, _, _, h, _ => by cases h
  | .br _ :: ks, .li :: oi, _, _, h, _ => by cases h
/-- an argument at its place -/
theorem Rss.at {K : PySem.W.Frag} {O : List Kd} {w w' : Wd} : ∀ {ks : List Ak} {ds es : List D} {vs : List V} {ρ : En} {j : Nat} {k : Ak}, Rss K O w w' ks ds vs → fill ks ds ρ = some es → ks[j]? = some k →
    ∃ d v e, vs[j]? = some v ∧ es[j]? = some e ∧ Rs K O w w' k d v ∧ (k = .fz ∨ k = .ow → e = d) ∧ ∀ i, k = .br i → ρ[i]? = some (some e)
  | [], _, _, _, _, _, _, _, _, h => by simp at h
  | .br i :: ks, _, es, _, ρ, j, k, ⟨d, ds', v, vs', h1, h2, h3, h4⟩, hf, hj => by
    subst h1 h2
    obtain ⟨d', e1, e2⟩ := slot_some hf
    obtain ⟨es', e3, e4⟩ := map_some e2
    subst e4
    cases j with
    | zero =>
      have hj : .br i = k := by simpa using hj
      subst hj
      refine ⟨d, v, d', rfl, rfl, h3, fun z => ?_, fun n z => ?_⟩
      · rcases z with z | z <;> cases z
      · cases z
        exact e1
    | succ j =>
      obtain ⟨d2, v2, e, g1, g2, g3⟩ := h4.at e3 (j := j) (by simpa using hj)
      exact ⟨d2, v2, e, by simpa using g1, by simpa using g2, g3⟩
  | .fz :: ks, _, es, _, ρ, j, k, ⟨d, ds', v, vs', h1, h2, h3, h4⟩, hf, hj => by
    subst h1 h2
    obtain ⟨es', e3, e4⟩ := map_some hf
    subst e4
    cases j with
    | zero =>
      have hj : .fz = k := by simpa using hj
      subst hj
      exact ⟨d, v, d, rfl, rfl, h3, fun _ => rfl, fun n z => by cases z⟩
    | succ j =>
      obtain ⟨d2, v2, e, g1, g2, g3⟩ := h4.at e3 (j := j) (by simpa using hj)
      exact ⟨d2, v2, e, by simpa using g1, by simpa using g2, g3⟩
  | .ow :: ks, _, es, _, ρ, j, k, ⟨d, ds', v, vs', h1, h2, h3, h4⟩, hf, hj => by
    subst h1 h2
    obtain ⟨es', e3, e4⟩ := map_some hf
    subst e4
    cases j with
    | zero =>
      have hj : .ow = k := by simpa using hj
      subst hj
      exact ⟨d, v, d, rfl, rfl, h3, fun _ => rfl, fun n z => by cases z⟩
    | succ j =>
      obtain ⟨d2, v2, e, g1, g2, g3⟩ := h4.at e3 (j := j) (by simpa using hj)
      exact ⟨d2, v2, e, by simpa using g1, by simpa using g2, g3⟩
theorem Rss.len {K : PySem.W.Frag} {O : List Kd} {w w' : Wd} : ∀ {ks : List Ak} {ds es : List D} {vs : List V} {ρ : En}, Rss K O w w' ks ds vs → fill ks ds ρ = some es → vs.length = ks.length ∧ es.length = ks.length
  | [], _, _, _, _, ⟨h1, h2⟩, hf => by
    subst h1 h2
    cases hf
    exact ⟨rfl, rfl⟩
  | .br i :: ks, _, es, _, ρ, ⟨d, ds', v, vs', h1, h2, h3, h4⟩, hf => by
    subst h1 h2
    obtain ⟨d', e1, e2⟩ := slot_some hf
    obtain ⟨es', e3, e4⟩ := map_some e2
    subst e4
    obtain ⟨a, b⟩ := h4.len e3
    exact ⟨by simp [a], by simp [b]⟩
  | .fz :: ks, _, es, _, ρ, ⟨d, ds', v, vs', h1, h2, h3, h4⟩, hf => by
    subst h1 h2
    obtain ⟨es', e3, e4⟩ := map_some hf
    subst e4
    obtain ⟨a, b⟩ := h4.len e3
    exact ⟨by simp [a], by simp [b]⟩
  | .ow :: ks, _, es, _, ρ, ⟨d, ds', v, vs', h1, h2, h3, h4⟩, hf => by
    subst h1 h2
    obtain ⟨es', e3, e4⟩ := map_some hf
    subst e4
    obtain ⟨a, b⟩ := h4.len e3
    exact ⟨by simp [a], by simp [b]⟩
end DL

/-! DL8: the rule for a call of a def; the law's own end. -/
namespace DL
open PySem PySem.Spec PyProof.Rows L2

section
variable {K : PySem.W.Frag} {O Oi : List Kd} {ks : List Ak} {dd : List D} {dvs : List V}
/-- the callee's world -/
theorem call_ok {w w1 : Wd} {ds es : List D} {vs : List V} (n1 : hasO Oi = false) (hl : es.length + dd.length = Oi.length) (hs : sigOk O ks Oi = true) (hdd : ∀ F : Hp, RpA K F dd dvs) (st : Stp O w w1) (ok : Ok K O w1) (r : Rss K O w w1 ks ds vs) (hf : fill ks ds w1.ρ = some es) :
    Ok K Oi ⟨w1.F, w1.H, (vs ++ dvs).map some, (es ++ dd).map some⟩ ∧
    (∀ (j : Nat) (p : Addr), OwnAt Oi ⟨w1.F, w1.H, (vs ++ dvs).map some, (es ++ dd).map some⟩ j p → (∃ i, ks[j]? = some (.br i) ∧ OwnAt O w1 i p) ∨ (ks[j]? = some .ow ∧ ¬ Fp O w1 p ∧ (Fp O w p ∨ w.H p = none) ∧ (hasO O = true → p ≠ ob O w1.σ))) := by
  obtain ⟨h1, h2⟩ := Bool.and_eq_true_iff.mp hs
  obtain ⟨h2, h3⟩ := Bool.and_eq_true_iff.mp h2
  have h2 := of_decide_eq_true h2
  have h3 := of_decide_eq_true h3
  obtain ⟨l1, l2⟩ := r.len hf
  have ld : dvs.length = dd.length := (hdd fun _ => none).length
  have inL : ∀ {j : Nat} {v : V}, vs[j]? = some v → ((vs ++ dvs).map some)[j]? = some (some v) := fun {j v} e => by
    have hj := (List.getElem?_eq_some_iff.mp e).1
    rw [List.getElem?_map, List.getElem?_append_left hj, e]
    rfl
  have lv : ((vs ++ dvs).map some).length = Oi.length := by
    rw [List.length_map, List.length_append]
    omega
  have s1 : ∀ j, sv Oi w1.H ((vs ++ dvs).map some) j = ((vs ++ dvs).map some)[j]? := fun j => sv_no n1 lv
  have inD : ∀ {j : Nat} {d : D}, es[j]? = some d → ((es ++ dd).map some)[j]? = some (some d) := fun {j d} e => by
    have hj := (List.getElem?_eq_some_iff.mp e).1
    rw [List.getElem?_map, List.getElem?_append_left hj, e]
    rfl
  have own : ∀ (j : Nat) (p : Addr), OwnAt Oi ⟨w1.F, w1.H, (vs ++ dvs).map some, (es ++ dd).map some⟩ j p → (∃ i, ks[j]? = some (.br i) ∧ OwnAt O w1 i p) ∨ (ks[j]? = some .ow ∧ ¬ Fp O w1 p ∧ (Fp O w p ∨ w.H p = none) ∧ (hasO O = true → p ≠ ob O w1.σ)) := by
    rintro j p ⟨k, d, g1, g2, g3, g4⟩
    rcases sig1_get h1 g1 with ⟨_, e⟩ | ⟨_, e⟩ | ⟨e1, e⟩ | ⟨i, e1, e, e2⟩
    · rw [e] at g2
      cases g2
    · rw [e] at g2
      cases g2
    · obtain ⟨d', v, e', q1, q2, q3, q4, q5⟩ := r.at hf e1
      have g4 : ((vs ++ dvs).map some)[j]? = some (some (.ref p)) := (s1 j).symm.trans g4
      rw [inL q1] at g4
      cases g4
      obtain ⟨p', z1, z2, z3, z4, z5, z6⟩ := q3
      cases z1
      exact .inr ⟨e1, z4, z5, z6⟩
    · obtain ⟨d', v, e', q1, q2, q3, q4, q5⟩ := r.at hf e1
      have g4 : ((vs ++ dvs).map some)[j]? = some (some (.ref p)) := (s1 j).symm.trans g4
      rw [inL q1] at g4
      cases g4
      obtain ⟨z1, q, z2, z3⟩ := q3
      exact .inl ⟨i, e1, q, e', z2, z3, q5 i rfl, z1⟩
  refine ⟨⟨ok.sub, ?_, ?_, fun j d g1 g2 => ?_, fun j k d g1 g2 g3 => ?_, fun j j' p g1 g2 => ?_, fun e => by rw [n1] at e; cases e⟩, own⟩
  · show ((vs ++ dvs).map some).length = _
    rw [nl_no n1]
    exact lv
  · show ((es ++ dd).map some).length = _
    rw [List.length_map, List.length_append]
    exact hl
  · have g2 : ((es ++ dd).map some)[j]? = some (some d) := g2
    by_cases hj : j < es.length
    · rcases sig1_get h1 g1 with ⟨e1, e⟩ | ⟨e1, e⟩ | ⟨e1, e⟩ | ⟨i, e1, e, e2⟩
      · rw [List.getElem?_eq_none_iff] at e1
        omega
      · obtain ⟨d', v, e', q1, q2, q3, q4, q5⟩ := r.at hf e1
        rw [inD q2] at g2
        cases g2
        have := q4 (.inl rfl)
        subst this
        exact ⟨v, (s1 j).trans (inL q1), q3⟩
      · cases e
      · cases e
    · rw [List.getElem?_map, List.getElem?_append_right (Nat.le_of_not_lt hj)] at g2
      cases e : dd[j - es.length]? with
      | none =>
        rw [e] at g2
        cases g2
      | some d' =>
        rw [e] at g2
        cases g2
        obtain ⟨v, q1, q2⟩ := (hdd w1.F).get e
        refine ⟨v, (s1 j).trans ?_, q2⟩
        rw [List.getElem?_map, List.getElem?_append_right (by omega), show j - vs.length = j - es.length by omega, q1]
        rfl
  · have g3 : ((es ++ dd).map some)[j]? = some (some d) := g3
    rcases sig1_get h1 g1 with ⟨_, e⟩ | ⟨_, e⟩ | ⟨e1, e⟩ | ⟨i, e1, e, e2⟩
    · rw [e] at g2
      cases g2
    · rw [e] at g2
      cases g2
    · obtain ⟨d', v, e', q1, q2, q3, q4, q5⟩ := r.at hf e1
      rw [inD q2] at g3
      cases g3
      have := q4 (.inr rfl)
      subst this
      obtain ⟨p, rfl, z2, z3, z4⟩ := q3
      exact ⟨p, (s1 j).trans (inL q1), z2, z3⟩
    · obtain ⟨d', v, e', q1, q2, q3, q4, q5⟩ := r.at hf e1
      rw [inD q2] at g3
      cases g3
      obtain ⟨z1, q, z2, z3⟩ := q3
      obtain ⟨p, y1, y2, y3⟩ := ok.ow i q _ z2 z3 (q5 i rfl)
      rw [z1] at y1
      cases y1
      exact ⟨p, (s1 j).trans (inL q1), y2, y3⟩
  · rcases own j p g1 with ⟨i, e1, o1⟩ | ⟨e1, n1, _⟩ <;> rcases own j' p g2 with ⟨i', e2, o2⟩ | ⟨e2, n2, _⟩
    · have := ok.ap i i' p o1 o2
      subst this
      exact brs_inj h2 e1 e2
    · exact (n2 ⟨i, o1⟩).elim
    · exact (n1 ⟨i', o2⟩).elim
    · exact ows_inj h3 e1 e2
/-- behind the call -/
theorem call_back {w w1 : Wd} {es : List D} {vs : List V} {F2 H2 : Hp} {out : En} {r : Ak} {d : D} {v : V} (n1 : hasO Oi = false) (hs : sigOk O ks Oi = true) (hnl : noLk Oi = true) (hr : ∀ i, r ≠ .br i) (st : Stp O w w1) (ok : Ok K O w1)
    (okc : Ok K Oi ⟨w1.F, w1.H, (vs ++ dvs).map some, (es ++ dd).map some⟩)
    (own : ∀ (j : Nat) (p : Addr), OwnAt Oi ⟨w1.F, w1.H, (vs ++ dvs).map some, (es ++ dd).map some⟩ j p → (∃ i, ks[j]? = some (.br i) ∧ OwnAt O w1 i p) ∨ (ks[j]? = some .ow ∧ ¬ Fp O w1 p ∧ (Fp O w p ∨ w.H p = none) ∧ (hasO O = true → p ≠ ob O w1.σ)))
    (hbr : ∀ (j i : Nat), ks[j]? = some (.br i) → ∃ v', ((vs ++ dvs).map some)[j]? = some (some v') ∧ w1.sv O i = some (some v'))
    (okr : Ok K Oi ⟨F2, H2, (vs ++ dvs).map some, out⟩) (str : Stp Oi ⟨w1.F, w1.H, (vs ++ dvs).map some, (es ++ dd).map some⟩ ⟨F2, H2, (vs ++ dvs).map some, out⟩)
    (rs : Rs K Oi ⟨w1.F, w1.H, (vs ++ dvs).map some, (es ++ dd).map some⟩ ⟨F2, H2, (vs ++ dvs).map some, out⟩ r d v) (hlk : ks.length ≤ Oi.length) :
    Ok K O ⟨F2, H2, w1.σ, putB ks out w1.ρ⟩ ∧ Stp O w ⟨F2, H2, w1.σ, putB ks out w1.ρ⟩ ∧ Rs K O w ⟨F2, H2, w1.σ, putB ks out w1.ρ⟩ r d v := by
  obtain ⟨h1, h2⟩ := Bool.and_eq_true_iff.mp hs
  obtain ⟨h2, h3⟩ := Bool.and_eq_true_iff.mp h2
  have h2 := of_decide_eq_true h2
  have hio : ∀ {j i : Nat}, ks[j]? = some (.br i) → Oi[j]? = some Kd.io ∧ mutK O[i]? = true := fun {j i} e => by
    have hj : j < Oi.length := Nat.lt_of_lt_of_le (List.getElem?_eq_some_iff.mp e).1 hlk
    rcases sig1_get h1 (List.getElem?_eq_getElem hj) with ⟨e1, _⟩ | ⟨e1, _⟩ | ⟨e1, _⟩ | ⟨i', e1, e2, e3⟩
    · rw [e] at e1
      cases e1
    · rw [e] at e1
      cases e1
    · rw [e] at e1
      cases e1
    · rw [e] at e1
      cases e1
      exact ⟨by rw [List.getElem?_eq_getElem hj, e2], e3⟩
  -- the callee's footprint
  have fpc : ∀ {b : Addr}, Fp Oi ⟨w1.F, w1.H, (vs ++ dvs).map some, (es ++ dd).map some⟩ b → Fp O w b ∨ w.H b = none := fun {b} ⟨j, h⟩ => by
    rcases own j b h with ⟨i, _, o⟩ | ⟨_, _, o, _⟩
    · exact st.fp b ⟨i, o⟩
    · exact o
  have nfpc : ∀ {b : Addr} {o : HO}, w.H b = some o → ¬ Fp O w b → ¬ Fp Oi ⟨w1.F, w1.H, (vs ++ dvs).map some, (es ++ dd).map some⟩ b := fun {b o} e z q => by
    rcases fpc q with q | q
    · exact z q
    · rw [e] at q
      cases q
  have lv : ((vs ++ dvs).map some).length = Oi.length := (show ((vs ++ dvs).map some).length = nl Oi from okc.ls).trans (nl_no n1)
  have s1 : ∀ (H : Hp) j, sv Oi H ((vs ++ dvs).map some) j = ((vs ++ dvs).map some)[j]? := fun H j => sv_no n1 lv
  have kp2 : ∀ {b : Addr} {o : HO}, w1.H b = some o → ¬ Fp Oi ⟨w1.F, w1.H, (vs ++ dvs).map some, (es ++ dd).map some⟩ b → H2 b = some o := fun {b o} h z => str.kp b o h z fun e => by rw [n1] at e; cases e
  have nob : hasO O = true → ¬ Fp Oi ⟨w1.F, w1.H, (vs ++ dvs).map some, (es ++ dd).map some⟩ (ob O w1.σ) := fun e ⟨j, h⟩ => by
    rcases own j _ h with ⟨i, _, o⟩ | ⟨_, _, _, o⟩
    · exact (ok.obj e).nf ⟨i, o⟩
    · exact o e rfl
  have hob : hasO O = true → H2 (ob O w1.σ) = w1.H (ob O w1.σ) := fun e => by
    obtain ⟨C, dx, fs, y, _⟩ := (ok.obj e).ex
    rw [y]
    exact kp2 y (nob e)
  have svO : ∀ i, sv O H2 w1.σ i = w1.sv O i := fun i => sv_same hob
  -- a slot's owner behind the call
  have slot : ∀ {i : Nat} {d' : D}, (putB ks out w1.ρ)[i]? = some (some d') → (i ∉ brs ks ∧ w1.ρ[i]? = some (some d')) ∨ (∃ j : Nat, ks[j]? = some (Ak.br i) ∧ out[j]? = some (some d')) := fun {i d'} e => by
    rcases putB_get (ks := ks) (os := out) (ρ := w1.ρ) (i := i) h2 with ⟨z, q⟩ | ⟨z, j, j1, ⟨o, j2, j3⟩ | ⟨j2, j3⟩⟩
    · rw [q] at e
      exact .inl ⟨z, e⟩
    · rw [j3] at e
      rcases set_get e with ⟨_, q⟩ | ⟨q, _⟩
      · subst q
        exact .inr ⟨j, j1, j2⟩
      · exact (q rfl).elim
    · have hj : j < Oi.length := Nat.lt_of_lt_of_le (List.getElem?_eq_some_iff.mp j1).1 hlk
      rw [List.getElem?_eq_none_iff] at j2
      have : out.length = Oi.length := okr.lr
      omega
  have back : ∀ {i : Nat} {p : Addr}, OwnAt O ⟨F2, H2, w1.σ, putB ks out w1.ρ⟩ i p → (i ∉ brs ks ∧ OwnAt O w1 i p) ∨ (∃ j, ks[j]? = some (.br i) ∧ OwnAt Oi ⟨F2, H2, (vs ++ dvs).map some, out⟩ j p) := fun {i p} ⟨k, d', e1, e2, e3, e4⟩ => by
    rcases slot e3 with ⟨z, q⟩ | ⟨j, q1, q2⟩
    · exact .inl ⟨z, k, d', e1, e2, q, (svO i).symm.trans e4⟩
    · obtain ⟨v', u1, u2⟩ := hbr j i q1
      have e4 := (svO i).symm.trans e4
      rw [u2] at e4
      cases e4
      exact .inr ⟨j, q1, _, d', (hio q1).1, rfl, q2, (s1 H2 j).trans u1⟩
  -- what was owned by a slot that was not lent stands as it stood
  have keepO : ∀ {i : Nat} {p : Addr}, i ∉ brs ks → OwnAt O w1 i p → ¬ Fp Oi ⟨w1.F, w1.H, (vs ++ dvs).map some, (es ++ dd).map some⟩ p := fun {i p} z o ⟨j, h⟩ => by
    rcases own j p h with ⟨i', e, o'⟩ | ⟨_, n, _, _⟩
    · have := ok.ap i i' p o o'
      subst this
      exact z (brs_mem e)
    · exact n ⟨i, o⟩
  have fpr : ∀ {b : Addr}, Fp O ⟨F2, H2, w1.σ, putB ks out w1.ρ⟩ b → Fp O w1 b ∨ w1.H b = none ∨ Fp Oi ⟨w1.F, w1.H, (vs ++ dvs).map some, (es ++ dd).map some⟩ b := fun {b} ⟨i, h⟩ => by
    rcases back h with ⟨z, q⟩ | ⟨j, q1, q2⟩
    · exact .inl ⟨i, q⟩
    · rcases str.fp b ⟨j, q2⟩ with q | q
      · exact .inr (.inr q)
      · exact .inr (.inl q)
  have okO : Ok K O ⟨F2, H2, w1.σ, putB ks out w1.ρ⟩ := by
    refine ⟨okr.sub, ok.ls, by show (putB ks out w1.ρ).length = _; rw [putB_len]; exact ok.lr, fun i d' e1 e2 => ?_, fun i k d' e1 e2 e3 => ?_, fun i i' p e1 e2 => ?_, fun e => ?_⟩
    · rcases slot e2 with ⟨z, q⟩ | ⟨j, q1, q2⟩
      · obtain ⟨u, u1, u2⟩ := ok.fz i d' e1 q
        exact ⟨u, (svO i).trans u1, u2.mono str.ex⟩
      · have := (hio q1).2
        rw [e1] at this
        cases this
    · rcases slot e3 with ⟨z, q⟩ | ⟨j, q1, q2⟩
      · obtain ⟨p, u1, u2, o, u3, u4⟩ := ok.ow i k d' e1 e2 q
        have np := keepO z ⟨k, d', e1, e2, q, u1⟩
        exact ⟨p, (svO i).trans u1, str.nw p o u3 np u2, o, kp2 u3 np, u4.mono str.ex⟩
      · obtain ⟨v', y1, y2⟩ := hbr j i q1
        obtain ⟨p, u1, u2, u3⟩ := okr.ow j _ d' (hio q1).1 rfl q2
        have u1 : ((vs ++ dvs).map some)[j]? = some (some (.ref p)) := (s1 H2 j).symm.trans u1
        rw [y1] at u1
        cases u1
        exact ⟨p, (svO i).trans y2, u2, u3⟩
    · rcases back e1 with ⟨z, q⟩ | ⟨j, q1, q2⟩ <;> rcases back e2 with ⟨z', q'⟩ | ⟨j', q1', q2'⟩
      · exact ok.ap i i' p q q'
      · obtain ⟨_, o, u⟩ := ok.ownF ⟨i, q⟩
        rcases str.fp p ⟨j', q2'⟩ with y | y
        · exact (keepO z q y).elim
        · rw [show w1.H p = none from y] at u
          cases u
      · obtain ⟨_, o, u⟩ := ok.ownF ⟨i', q'⟩
        rcases str.fp p ⟨j, q2⟩ with y | y
        · exact (keepO z' q' y).elim
        · rw [show w1.H p = none from y] at u
          cases u
      · have := okr.ap j j' p q2 q2'
        subst this
        rw [q1] at q1'
        cases q1'
        rfl
    · obtain ⟨a0, a1, ⟨C, dx, fs, a2, a3⟩, a4, a5, a6⟩ := ok.obj e
      have ndx : ¬ Fp Oi ⟨w1.F, w1.H, (vs ++ dvs).map some, (es ++ dd).map some⟩ dx := fun ⟨j, kk, d', g1, g2, g3, g4⟩ => by
        obtain ⟨q, y1, y2, u, y3, y4⟩ := okc.ow j kk d' g1 g2 g3
        rw [g4] at y1
        cases y1
        rw [show w1.H dx = some (.own (ob O w1.σ)) from a3] at y3
        cases y3
        cases d' <;> first | exact y4.elim | (obtain ⟨_, y5, _⟩ := y4; cases y5)
      refine ⟨a0, a1, ⟨C, dx, fs, kp2 a2 (nob e), kp2 a3 ndx⟩, str.nw _ _ a2 (nob e) a4, fun h => ?_, fun C dx fs z => a6 C dx fs ((hob e).symm.trans z)⟩
      rcases fpr h with q | q | q
      · exact a5 q
      · rw [a2] at q
        cases q
      · exact nob e q
  refine ⟨okO, ⟨⟨st.ex.trans str.ex, fun b o e z _ => kp2 (st.kp' e z) (nfpc e z), fun b o e z f => str.nw b o (st.kp' e z) (nfpc e z) (st.nw b o e z f), fun b h => ?_, fun i k e1 e2 => (svO i).trans (st.pn i k e1 e2), fun i k e1 e2 => ?_, fun i k p d' e1 e2 e3 e4 => ?_, fun e => ⟨(st.o0 e).1, fun z => ?_⟩⟩, fun e => ?_⟩, ?_⟩
  · rcases fpr h with q | q | q
    · exact st.fp b q
    · exact st.back q
    · exact fpc q
  · have hi : i ∉ brs ks := fun m => by
      rcases putB_get (ks := ks) (os := out) (ρ := w1.ρ) (i := i) h2 with ⟨z, _⟩ | ⟨_, j, j1, _⟩
      · exact z m
      · have := (hio j1).2
        rw [e1] at this
        cases k <;> first | (cases e2; done) | (cases this; done)
    rcases putB_get (ks := ks) (os := out) (ρ := w1.ρ) (i := i) h2 with ⟨_, q⟩ | ⟨m, _⟩
    · exact q.trans (st.lk i k e1 e2)
    · exact (hi m).elim
  · have hi : i ∉ brs ks := fun m => by
      rcases putB_get (ks := ks) (os := out) (ρ := w1.ρ) (i := i) h2 with ⟨z, _⟩ | ⟨_, j, j1, _⟩
      · exact z m
      · have := (hio j1).2
        rw [e1] at this
        cases k <;> first | (cases e2; done) | (cases this; done)
    have o1 : OwnAt O w1 i p := ⟨k, d', e1, Kd.own_of e2, (st.lk i k e1 e2).trans e3, (st.pn i k e1 (Kd.pin_of e2)).trans e4⟩
    obtain ⟨_, o, u⟩ := ok.ownF ⟨i, o1⟩
    have a1 : H2 p = some o := kp2 u (keepO hi o1)
    have a2 := st.lo i k p d' e1 e2 e3 e4
    show H2 p = w.H p
    rw [a1, ← a2, u]
  · have y := (st.o0 e).2 z
    have y2 := hob e
    rw [(st.o0 e).1] at y2
    exact fun q => y (y2.symm.trans q)
  · have y2 := hob e
    rw [(st.o0 e).1] at y2
    exact y2.trans (st.ost e)
  · cases r with
    | fz => exact rs
    | ow =>
      obtain ⟨p, e, g1, g2, g3, g4, _⟩ := rs
      refine ⟨p, e, g1, g2, fun ⟨i, h⟩ => ?_, ?_, fun e y => ?_⟩
      · rcases back h with ⟨z, q⟩ | ⟨j, q1, q2⟩
        · obtain ⟨_, o, u⟩ := ok.ownF ⟨i, q⟩
          rcases g4 with y | y
          · exact keepO z q y
          · rw [show w1.H p = none from y] at u
            cases u
        · exact g3 ⟨j, q2⟩
      · rcases g4 with y | y
        · exact fpc y
        · exact st.back y
      · have y : p = ob O w1.σ := y
        rcases g4 with z | z
        · exact nob e (y ▸ z)
        · obtain ⟨C, dx, fs, y2, _⟩ := (ok.obj e).ex
          rw [y, show w1.H (ob O w1.σ) = _ from y2] at z
          cases z
    | br i => exact (hr i rfl).elim
end
section
variable {X : Cx} {k : Nat} {f : Addr} {fd : FuncData} {ps : List Str} {O Oi : List Kd} {mf : En → Option (D × En)} {r : Ak} {dd : List D} {dvs : List V} {ds : List Value} {x : Str} {p pos : Pos} {e : Expr} {es : List Expr} {ma : MA} {ks : List Ak}
/-- f(e, ..), defaults behind -/
theorem e_callD (G : FnG X.prog X.w X.K X.mg X.base CX0 k f fd ps (spF X.K Oi mf r)) (hgd : X.A.guards = some []) (hr : Room k X.A) (hm : X.mg x = some (.ref f)) (hk : PySem.W.keepIn X.K (.ref f) = true) (hb : Binds X.K fd ps ds) (hd : Vals dvs ds) (hdd : ∀ F : Hp, RpA X.K F dd dvs)
    (ha : PA X (e :: es) (tA X.K O ma ks)) (hs : sigOk O ks Oi = true := by rfl) (hln : ks.length + dd.length = Oi.length := by rfl) (hnl : noLk Oi = true := by rfl) (n1 : hasO Oi = false := by rfl) (hrr : ∀ i, r ≠ .br i := by exact fun _ z => by cases z) (hg : Gl X x := by rfl) (hdb : (x == ("__debug__" : Str)) = false := by decide)
    (he : starEach (e :: es) X.env = (false, eval e X.env) :: starEach es X.env := by rfl) (hpl : (backTo pos (starEach es X.env)).any (·.1) = false := by rfl) :
    PE X (.Call (.Name x p) (e :: es) [] pos) (tE X.K O (mCall mf ks dd ma) r) := by
  refine PEi (pe_callG G hgd hr hm hk hb hd (pass0 (X := X)) ha hg hdb he hpl) fun σ H Q ⟨F, ρ, d, ρ', ok, hm, q⟩ => ?_
  obtain ⟨⟨ds0, ρ1⟩, h1, h2⟩ := bind_some hm
  obtain ⟨es0, h3, h4⟩ := bind_some h2
  obtain ⟨⟨d1, out⟩, h5, h6⟩ := bind_some h4
  cases h6
  refine ⟨F, ρ, ds0, ρ1, ok, h1, fun vs F1 H1 ok1 st1 r1 => ?_⟩
  have hl := (r1.len h3).2
  obtain ⟨okc, own⟩ := call_ok (K := X.K) (O := O) (Oi := Oi) (dd := dd) (dvs := dvs) n1 (by omega) hs hdd st1 ok1 r1 h3
  refine ⟨F1, _, d1, out, okc, h5, fun v F2 H2 okr str rs => ?_⟩
  have hbr : ∀ (j i : Nat), ks[j]? = some (.br i) → ∃ v', ((vs ++ dvs).map some)[j]? = some (some v') ∧ sv O H1 σ i = some (some v') := fun j i ej => by
    obtain ⟨d', v', e', q1, q2, q3, _⟩ := r1.at h3 ej
    have hj := (List.getElem?_eq_some_iff.mp q1).1
    refine ⟨v', ?_, q3.1⟩
    rw [List.getElem?_map, List.getElem?_append_left hj, q1]
    rfl
  obtain ⟨a, b, c⟩ := call_back (K := X.K) (O := O) (Oi := Oi) (ks := ks) n1 hs hnl hrr st1 ok1 okc own hbr okr str rs (by omega)
  exact q v F2 H2 a b c
theorem e_call (G : FnG X.prog X.w X.K X.mg X.base CX0 k f fd ps (spF X.K Oi mf r)) (hgd : X.A.guards = some []) (hr : Room k X.A) (hm : X.mg x = some (.ref f)) (hk : PySem.W.keepIn X.K (.ref f) = true) (hb : Binds X.K fd ps [])
    (ha : PA X (e :: es) (tA X.K O ma ks)) (hs : sigOk O ks Oi = true := by rfl) (hln : ks.length + 0 = Oi.length := by rfl) (hnl : noLk Oi = true := by rfl) (n1 : hasO Oi = false := by rfl) (hrr : ∀ i, r ≠ .br i := by exact fun _ z => by cases z) (hg : Gl X x := by rfl) (hdb : (x == ("__debug__" : Str)) = false := by decide)
    (he : starEach (e :: es) X.env = (false, eval e X.env) :: starEach es X.env := by rfl) (hpl : (backTo pos (starEach es X.env)).any (·.1) = false := by rfl) :
    PE X (.Call (.Name x p) (e :: es) [] pos) (tE X.K O (mCall mf ks [] ma) r) := e_callD (dd := []) (dvs := []) G hgd hr hm hk hb .nil (fun _ => rfl) ha hs hln hnl n1 hrr hg hdb he hpl
end

/-! ### the law's own end -/
theorem law_goes {P : Program} {w : World} {K : PySem.W.Frag} {mg mb : Str → Option Value} {k : Nat} {fa a : Addr} {fd : FuncData} {x : Str} {sp : Sp} {s1 : Shared} {its : List Value} {ns : List Int} (inS : K.In s1.heap) (hM : s1.heap.Ns mainGlobals mg) (hB : s1.heap.Ns builtinsNs mb)
    (hv : ∀ y : Str, y ≠ "__name__" → mb y = bootBuiltins y) (noLim : s1.heap.NoLimit) (noGen : s1.gens = #[]) (hA : s1.heap.get? a = some { cls := .type "list", data := .seq its.toArray }) (hin : IntsAre its ns) (small : ns.length ≤ sizeLine) (hr : Room k callerA)
    (G : ∀ base : Heap, K.In base → base.Ns mainGlobals mg → FnG P w K mg base CX0 k fa fd [x] sp) (bt : ∀ (s : Shared) (u : Value), BindsTo s fd ⟨[u], []⟩ [(x, u)])
    (hsp : ∀ H : Hp, SqL K H a (ns.map V.int) → sp [.ref a] H (fun v _ => v = .bl true) fun _ _ _ => False) :
    codeAny (model P w) callerA (.call (.ref fa) ⟨[.ref a], []⟩) (fun r s' => r = .ok (.ret (.bool true)) ∧ OldK s1.heap s'.heap ∧ s'.os = s1.os ∧ AllBare s'.gens) s1 := by
  have rv := vals_ints hin
  have cnt := hin.length
  -- H tracks at most the script, and that as a locked list
  have main : ∀ H : Hp, (∀ b u, H b = some u → b = a ∧ ∃ o xs, u = .frz o (.lst xs)) → SqL K H a (ns.map V.int) → HOk P w H s1.heap → (H a ≠ none → K.lookup a = none) →
      codeAny (model P w) callerA (.call (.ref fa) ⟨[.ref a], []⟩) (fun r s' => r = .ok (.ret (.bool true)) ∧ OldK s1.heap s'.heap ∧ s'.os = s1.os ∧ AllBare s'.gens) s1 := by
    intro H only hS hok hK
    have untr : ∀ {b : Addr} {o : Obj}, s1.heap.get? b = some o → (b = a → False) → H b = none := fun {b o} _ ne => by
      cases q : H b with
      | none => rfl
      | some u => exact (ne (only b u q).1).elim
    have hid : ∀ {b : Addr} {m : Str → Option Value}, s1.heap.Ns b m → (hidT s1.heap H).Ns b m := by
      rintro b m ⟨o, en, ep, g1, g2, g3⟩
      refine ⟨o, en, ep, hidT_get g1 (untr g1 fun z => ?_), g2, g3⟩
      subst z
      rw [hA] at g1
      cases g1
      cases g2
    have inB : K.In (hidT s1.heap H) := fun b o g => by
      refine hidT_get (inS b o g) ?_
      cases q : H b with
      | none => rfl
      | some u =>
        obtain ⟨z, _⟩ := only b u q
        subst z
        have y := hK (by rw [q]; exact fun z => by cases z)
        rw [y] at g
        cases g
    obtain ⟨mc, c1, c2⟩ := noLim
    have env0 : Env0 P w K mg (hidT s1.heap H) callerA [] s1 H :=
      { frames := rfl, mod := ⟨inB, hid hM, ⟨mb, hid hB, hv⟩, ⟨mc, hid c1, c2⟩⟩, bs := fun b o g => of_hidT g, bsz := Nat.le_of_eq (hidT_size _ _), funs := trivial, frf := fun b z => (List.not_mem_nil z).elim, hok := hok, bare := .of_eq noGen }
    refine codeAny_mono ((G _ inB (hid hM)).go callerA [] s1 H ⟨[.ref a], []⟩ [.ref a] [.ref a] _ _ rfl hr env0 (bt s1 (.ref a)) (.cons rfl .nil) (hsp H hS)) fun res s' h => ?_
    rcases res with e | fl
    · exact (h : False).elim
    · cases fl with
      | next => exact (h : False).elim
      | brk => exact (h : False).elim
      | cont => exact (h : False).elim
      | ret u =>
        obtain ⟨v, H', os, bare, un, hok', r', q⟩ := h
        have q : v = .bl true := q
        subst q
        have r' : u = Value.bool true := r'
        subst r'
        refine ⟨rfl, OldK.of_keep fun b o g => ?_, os, bare⟩
        cases q : H b with
        | none => exact un.keep b o g q (fun z => by cases z) (fun z => by cases z)
        | some u =>
          obtain ⟨_, ob, xs, z⟩ := only b u q
          subst z
          obtain ⟨e1, _⟩ := hok b _ q
          obtain ⟨e2, _⟩ := hok' b _ (un.frzs b ob _ q)
          rw [g] at e1
          cases e1
          exact e2
  cases hk : K.lookup a with
  | some o =>
    have g := inS a o hk
    rw [hA] at g
    cases g
    exact main (fun _ => none) (fun b u z => by cases z) (.inr ⟨_, its.toArray, _, hk, rfl, rfl, rfl, by rw [List.size_toArray, cnt]; exact small, by simpa using rv⟩) (fun b u z => by cases z) fun z => (z rfl).elim
  | none =>
    have at_a : (fun b => if b = a then some (HO.frz { cls := .type "list", data := .seq its.toArray } (.lst (ns.map V.int))) else none) a = some (HO.frz { cls := .type "list", data := .seq its.toArray } (.lst (ns.map V.int))) := if_pos rfl
    refine main (fun b => if b = a then some (.frz { cls := .type "list", data := .seq its.toArray } (.lst (ns.map V.int))) else none) (fun b u z => ?_) (.inl (.inr ⟨_, at_a⟩)) (fun b u z => ?_) fun _ => hk
    · by_cases hb : b = a
      · have z := (if_pos hb).symm.trans z
        cases z
        exact ⟨hb, _, _, rfl⟩
      · have z := (if_neg hb).symm.trans z
        cases z
    · by_cases hb : b = a
      · have z := (if_pos hb).symm.trans z
        cases z
        subst hb
        exact ⟨hA, by rw [List.length_map]; exact small, its, _, rv, hA⟩
      · have z := (if_neg hb).symm.trans z
        cases z
theorem walk_law {l : PySem.W.OpenLaw} {n k : Nat} {q : Program} {loose : List Str} {XP : (Str → Option Value) → Heap → Prop} {YP : World → Heap → Prop} {d : DefRec} {x : Str} (hn : l.most = some n) (small : n ≤ sizeLine) (hdf : d.params.defaults = []) (hr : Room k callerA)
    (G : ∀ (w : World) (mg : Str → Option Value) (fa : Addr) (h : Heap), YP w h → h.Ns mainGlobals mg → mg d.name = some (.ref fa) → ∃ (K : PySem.W.Frag) (fd : FuncData) (sp : Sp), K.In h ∧ (∀ (s : Shared) (u : Value), BindsTo s fd ⟨[u], []⟩ [(x, u)]) ∧
      (∀ (H : Hp) (a : Addr) (ns : List Int), ns.length ≤ n → SqL K H a (ns.map V.int) → sp [.ref a] H (fun v _ => v = .bl true) fun _ _ _ => False) ∧ ∀ base : Heap, K.In base → base.Ns mainGlobals mg → FnG l.prog w K mg base CX0 k fa fd [x] sp) :
    PySem.W.WalkO q loose XP YP l.row.toRowW d [] (fun f vs => PySem.call f vs) := by
  refine Att.attach_call hn hdf fun w s0 s1 mg mb fa o pm cd doc a its ns Gr Y ho hd hcd hmg hobj hints hlen hg => ?_
  obtain ⟨K, fd, sp, inS, bt, hsp, hF⟩ := G w mg fa _ Y Gr.T.g hmg
  exact law_goes inS Gr.T.g Gr.T.b Gr.T.builtins Gr.T.nolimit hg hobj hints (Nat.le_trans hlen small) hr hF bt fun H hS => hsp H a ns hlen hS
end DL

/-! DL9: list comprehensions of one clause and of two. -/
namespace DL
open PySem PySem.Spec PyProof.Rows L2

def wipeE (ρ : En) : List Nat → En
  | [] => ρ
  | v :: vs => (wipeE ρ vs).set v none
def restE (ρ0 : En) : List Nat → En → En
  | [], ρ => ρ
  | v :: vs, ρ => (restE ρ0 vs ρ).set v (ρ0.getD v none)
theorem wipeE_len {ρ : En} : ∀ {vs : List Nat}, (wipeE ρ vs).length = ρ.length
  | [] => rfl
  | v :: vs => by
    show ((wipeE ρ vs).set v none).length = _
    rw [List.length_set, wipeE_len]
theorem restE_len {ρ0 ρ : En} : ∀ {vs : List Nat}, (restE ρ0 vs ρ).length = ρ.length
  | [] => rfl
  | v :: vs => by
    show ((restE ρ0 vs ρ).set v _).length = _
    rw [List.length_set, restE_len]
theorem wipeE_get {ρ : En} {i : Nat} {d : D} : ∀ {vs : List Nat}, (wipeE ρ vs)[i]? = some (some d) → ρ[i]? = some (some d) ∧ i ∉ vs
  | [], h => ⟨h, by simp⟩
  | v :: vs, h => by
    rcases set_get (show ((wipeE ρ vs).set v none)[i]? = _ from h) with ⟨_, q⟩ | ⟨e, q⟩
    · cases q
    · obtain ⟨a, b⟩ := wipeE_get q
      exact ⟨a, fun z => by
        rcases List.mem_cons.mp z with z | z
        · exact e z.symm
        · exact b z⟩
theorem wipeE_out {ρ : En} {i : Nat} : ∀ {vs : List Nat}, i ∉ vs → (wipeE ρ vs)[i]? = ρ[i]?
  | [], _ => rfl
  | v :: vs, h => by
    show ((wipeE ρ vs).set v none)[i]? = _
    rw [List.getElem?_set_ne fun z => h (by rw [z]; exact List.mem_cons_self), wipeE_out fun z => h (List.mem_cons_of_mem _ z)]
theorem restE_get {ρ0 ρ : En} {i : Nat} {d : D} : ∀ {vs : List Nat}, (restE ρ0 vs ρ)[i]? = some (some d) → (i ∈ vs ∧ ρ0[i]? = some (some d)) ∨ (i ∉ vs ∧ ρ[i]? = some (some d))
  | [], h => .inr ⟨by simp, h⟩
  | v :: vs, h => by
    rcases set_get (show ((restE ρ0 vs ρ).set v (ρ0.getD v none))[i]? = _ from h) with ⟨e, q⟩ | ⟨e, q⟩
    · subst e
      refine .inl ⟨List.mem_cons_self, ?_⟩
      rw [List.getD_eq_getElem?_getD] at q
      cases z : ρ0[v]? with
      | none =>
        rw [z] at q
        cases q
      | some o =>
        rw [z] at q
        exact congrArg some q.symm
    · rcases restE_get q with ⟨a, b⟩ | ⟨a, b⟩
      · exact .inl ⟨List.mem_cons_of_mem _ a, b⟩
      · exact .inr ⟨fun z => by
          rcases List.mem_cons.mp z with z | z
          · exact e z.symm
          · exact a z, b⟩
theorem restE_out {ρ0 ρ : En} {i : Nat} : ∀ {vs : List Nat}, i ∉ vs → (restE ρ0 vs ρ)[i]? = ρ[i]?
  | [], _ => rfl
  | v :: vs, h => by
    show ((restE ρ0 vs ρ).set v _)[i]? = _
    rw [List.getElem?_set_ne fun z => h (by rw [z]; exact List.mem_cons_self), restE_out fun z => h (List.mem_cons_of_mem _ z)]
theorem wipeE_in {ρ : En} {i : Nat} (hi : i < ρ.length) : ∀ {vs : List Nat}, i ∈ vs → (wipeE ρ vs)[i]? = some none
  | [], h => by simp at h
  | v :: vs, h => by
    show ((wipeE ρ vs).set v none)[i]? = _
    by_cases e : v = i
    · subst e
      rw [List.getElem?_set_self (by rw [wipeE_len]; exact hi)]
    · rw [List.getElem?_set_ne e]
      rcases List.mem_cons.mp h with z | z
      · exact (e z.symm).elim
      · exact wipeE_in hi z
theorem wipeE_sub {ρ : En} {us vs : List Nat} (h : ∀ i, i ∈ us → i ∈ vs) : wipeE (wipeE ρ us) vs = wipeE ρ vs := by
  refine List.ext_getElem? fun i => ?_
  by_cases m : i ∈ vs
  · by_cases hi : i < ρ.length
    · rw [wipeE_in hi m, wipeE_in (by rw [wipeE_len]; exact hi) m]
    · rw [List.getElem?_eq_none (by rw [wipeE_len, wipeE_len]; omega), List.getElem?_eq_none (by rw [wipeE_len]; omega)]
  · rw [wipeE_out m, wipeE_out m, wipeE_out fun z => m (h i z)]
/-- the names of the block are frozen slots -/
def fzAt (O : List Kd) : List Nat → Bool
  | [] => true
  | v :: vs => (decide (O[v]? = some .fz) && (decide (v < nl O) && (!hasO O || decide (v ≠ oi O)))) && fzAt O vs
theorem fzAt_all {O : List Kd} {v : Nat} : ∀ {vs : List Nat}, fzAt O vs = true → v ∈ vs → O[v]? = some .fz ∧ v < nl O ∧ (hasO O = true → v ≠ oi O)
  | [], _, h => by simp at h
  | a :: vs, h, m => by
    obtain ⟨h1, h2⟩ := Bool.and_eq_true_iff.mp (show (_ && fzAt O vs) = true from h)
    rcases List.mem_cons.mp m with e | e
    · rw [e]
      obtain ⟨h3, h4⟩ := Bool.and_eq_true_iff.mp h1
      obtain ⟨h5, h6⟩ := Bool.and_eq_true_iff.mp h4
      refine ⟨of_decide_eq_true h3, of_decide_eq_true h5, fun z => ?_⟩
      rw [z] at h6
      exact of_decide_eq_true (by simpa using h6)
    · exact fzAt_all h2 e
theorem fzAt_one {O : List Kd} {v : Nat} (h : O[v]? = some .fz ∧ v < nl O ∧ (hasO O = true → v ≠ oi O)) : (decide (O[v]? = some .fz) && (decide (v < nl O) && (!hasO O || decide (v ≠ oi O)))) = true := by
  obtain ⟨h1, h2, h3⟩ := h
  rw [decide_eq_true h1, decide_eq_true h2]
  cases e : hasO O with
  | false => rfl
  | true =>
    rw [decide_eq_true (h3 e)]
    rfl
theorem fzAt_get {O : List Kd} {v : Nat} {vs : List Nat} (h : fzAt O vs = true) (m : v ∈ vs) : O[v]? = some .fz := (fzAt_all h m).1
section
variable {K : PySem.W.Frag} {O : List Kd} {F H : Hp} {σ : L2.St} {ρ : En} {vs : List Nat}
theorem wipe_get_out {i : Nat} : ∀ {vs : List Nat}, i ∉ vs → (wipe σ vs)[i]? = σ[i]?
  | [], _ => rfl
  | v :: vs, h => by
    show ((wipe σ vs).set v none)[i]? = _
    rw [List.getElem?_set_ne fun z => h (by rw [z]; exact List.mem_cons_self), wipe_get_out fun z => h (List.mem_cons_of_mem _ z)]
theorem wipe_get_in {i : Nat} (hi : i < σ.length) : ∀ {vs : List Nat}, i ∈ vs → (wipe σ vs)[i]? = some none
  | [], h => by simp at h
  | v :: vs, h => by
    show ((wipe σ vs).set v none)[i]? = _
    by_cases e : v = i
    · subst e
      rw [List.getElem?_set_self (by rw [wipe_length]; exact hi)]
    · rw [List.getElem?_set_ne e]
      rcases List.mem_cons.mp h with z | z
      · exact (e z.symm).elim
      · exact wipe_get_in hi z
theorem wipe_eq {σ' : L2.St} (hl : σ'.length = σ.length) (h : ∀ j, j ∉ vs → σ'[j]? = σ[j]?) : wipe σ' vs = wipe σ vs := by
  refine List.ext_getElem? fun i => ?_
  by_cases m : i ∈ vs
  · by_cases hi : i < σ.length
    · rw [wipe_get_in hi m, wipe_get_in (by omega) m]
    · rw [List.getElem?_eq_none (by rw [wipe_length]; omega), List.getElem?_eq_none (by rw [wipe_length]; omega)]
  · rw [wipe_get_out m, wipe_get_out m, h i m]
theorem wipe_idem : wipe (wipe σ vs) vs = wipe σ vs := wipe_eq (wipe_length σ vs) fun j hj => wipe_get_out hj
theorem ob_wipe (hv : fzAt O vs = true) (e : hasO O = true) : ob O (wipe σ vs) = ob O σ := by
  unfold ob
  rw [wipe_get_out fun m => (fzAt_all hv m).2.2 e rfl]
theorem sv_wipe (hv : fzAt O vs = true) {H : Hp} {i : Nat} (hi : i ∉ vs) : sv O H (wipe σ vs) i = sv O H σ i := by
  by_cases hj : i < nl O
  · rw [sv_loc hj, sv_loc hj, wipe_get_out hi]
  · refine sv_ob ?_ hj
    cases e : hasO O with
    | false => exact .inl rfl
    | true => exact .inr (ob_wipe hv e)
theorem own_wipe (hv : fzAt O vs = true) {F' : Hp} {i : Nat} {p : Addr} : OwnAt O ⟨F', H, wipe σ vs, wipeE ρ vs⟩ i p ↔ OwnAt O ⟨F, H, σ, ρ⟩ i p := by
  have ni : ∀ {k : Kd}, O[i]? = some k → k.own = true → i ∉ vs := fun {k} h1 h2 m => by
    rw [fzAt_get hv m] at h1
    cases h1
    cases h2
  constructor
  · rintro ⟨k, d, h1, h2, h3, h4⟩
    have z := ni h1 h2
    have h3 : (wipeE ρ vs)[i]? = _ := h3
    rw [wipeE_out z] at h3
    exact ⟨k, d, h1, h2, h3, (sv_wipe hv z).symm.trans h4⟩
  · rintro ⟨k, d, h1, h2, h3, h4⟩
    have z := ni h1 h2
    exact ⟨k, d, h1, h2, by show (wipeE ρ vs)[i]? = _; rw [wipeE_out z]; exact h3, (sv_wipe hv z).trans h4⟩
theorem Ok.wipe (hv : fzAt O vs = true) (ok : Ok K O ⟨F, H, σ, ρ⟩) : Ok K O ⟨F, H, wipe σ vs, wipeE ρ vs⟩ := by
  refine ⟨ok.sub, (wipe_length σ vs).trans ok.ls, wipeE_len.trans ok.lr, fun i d h1 h2 => ?_, fun i k d h1 h2 h3 => ?_, fun i j p h1 h2 => ok.ap i j p ((own_wipe hv).mp h1) ((own_wipe hv).mp h2), fun e => ?_⟩
  · obtain ⟨g1, g2⟩ := wipeE_get h2
    obtain ⟨v, g3, g4⟩ := ok.fz i d h1 g1
    exact ⟨v, (sv_wipe hv g2).trans g3, g4⟩
  · obtain ⟨g1, g2⟩ := wipeE_get h3
    obtain ⟨p, g3, g4⟩ := ok.ow i k d h1 h2 g1
    exact ⟨p, (sv_wipe hv g2).trans g3, g4⟩
  · obtain ⟨a0, a1, ⟨C, dx, fs, a2, a3⟩, a4, a5, a6⟩ := ok.obj e
    have eo : ob O (L2.wipe σ vs) = ob O σ := ob_wipe hv e
    refine ⟨?_, a1, ⟨C, dx, fs, by rw [eo]; exact a2, by rw [eo]; exact a3⟩, by rw [eo]; exact a4, by rw [eo]; exact fun ⟨i, h⟩ => a5 ⟨i, (own_wipe hv).mp h⟩, by rw [eo]; exact a6⟩
    rw [eo]
    show (L2.wipe σ vs)[oi O]? = _
    rw [wipe_get_out fun m => (fzAt_all hv m).2.2 e rfl]
    exact a0
theorem StpS.wipe (hv : fzAt O vs = true) {w : Wd} (st : StpS O w ⟨F, H, σ, ρ⟩) : StpS O w ⟨F, H, wipe σ vs, wipeE ρ vs⟩ := by
  have ni : ∀ {i : Nat} {k : Kd}, O[i]? = some k → k.pin = true → i ∉ vs := fun {i k} h1 h2 m => by
    rw [fzAt_get hv m] at h1
    cases h1
    cases h2
  refine ⟨st.ex, st.kp, st.nw, fun b ⟨i, h⟩ => st.fp b ⟨i, (own_wipe hv).mp h⟩, fun i k h1 h2 => ?_, fun i k h1 h2 => ?_, st.lo, fun e => ?_⟩
  · exact (sv_wipe hv (ni h1 h2)).trans (st.pn i k h1 h2)
  · show (wipeE ρ vs)[i]? = _
    rw [wipeE_out (ni h1 (Kd.pin_of h2))]
    exact st.lk i k h1 h2
  · exact ⟨(ob_wipe hv e).trans (st.o0 e).1, (st.o0 e).2⟩
theorem Stp.wipe (hv : fzAt O vs = true) {w : Wd} (st : Stp O w ⟨F, H, σ, ρ⟩) : Stp O w ⟨F, H, wipe σ vs, wipeE ρ vs⟩ := ⟨st.toStpS.wipe hv, st.ost⟩
end
/-- the new list at Dl on the way: what it holds so far -/
structure Acc (K : PySem.W.Frag) (L : List Kd) (w1 : Wd) (Dl : Addr) (w : Wd) (acc : List D) : Prop where
  ok : Ok K L w
  st : Stp L w1 w
  at_ : ∃ xs, w.H Dl = some (.lst xs) ∧ RpA K w.F acc xs
  nf : w.F Dl = none
  np : ¬ Fp L w Dl
  fr : w1.H Dl = none
  no : hasO L = true → Dl ≠ ob L w.σ
section
variable {K : PySem.W.Frag} {L : List Kd} {w1 w w' : Wd} {Dl : Addr} {acc : List D}
theorem Acc.step (a : Acc K L w1 Dl w acc) (ok : Ok K L w') (st : Stp L w w') : Acc K L w1 Dl w' acc := by
  obtain ⟨xs, h1, h2⟩ := a.at_
  exact ⟨ok, a.st.trans st, ⟨xs, st.kp' h1 a.np, h2.mono st.ex⟩, st.nw _ _ h1 a.np a.nf, st.nofp h1 a.np, a.fr, fun e => by rw [(st.o0 e).1]; exact a.no e⟩
theorem Acc.wipe {vs : List Nat} (hv : fzAt L vs = true) (a : Acc K L w1 Dl w acc) : Acc K L w1 Dl ⟨w.F, w.H, wipe w.σ vs, wipeE w.ρ vs⟩ acc :=
  ⟨a.ok.wipe hv, a.st.wipe hv, a.at_, a.nf, fun ⟨i, h⟩ => a.np ⟨i, (own_wipe hv).mp h⟩, a.fr, fun e => by show Dl ≠ ob L (L2.wipe w.σ vs); rw [ob_wipe hv e]; exact a.no e⟩
/-- another content of what no slot owns -/
theorem Acc.push {d : D} {v : V} {xs : List V} (a : Acc K L w1 Dl w acc) (hx : w.H Dl = some (.lst xs)) (r : Rp K w.F d v) : Acc K L w1 Dl ⟨w.F, upd w.H Dl (.lst (xs ++ [v])), w.σ, w.ρ⟩ (acc ++ [d]) := by
  obtain ⟨ys, h1, h2⟩ := a.at_
  rw [hx] at h1
  cases h1
  have hne : ∀ {b : Addr}, Fp L w b → b ≠ Dl := fun {b} h z => a.np (by rw [← z]; exact h)
  have hO : hasO L = true → upd w.H Dl (.lst (xs ++ [v])) (ob L w.σ) = w.H (ob L w.σ) := fun e => upd_ne fun z => a.no e z.symm
  have hsv : ∀ j, sv L (upd w.H Dl (.lst (xs ++ [v]))) w.σ j = w.sv L j := fun j => sv_same hO
  have hfp : ∀ {b : Addr}, Fp L ⟨w.F, upd w.H Dl (.lst (xs ++ [v])), w.σ, w.ρ⟩ b ↔ Fp L w b := fp_same hO
  have hat : ∀ {i : Nat} {b : Addr}, OwnAt L ⟨w.F, upd w.H Dl (.lst (xs ++ [v])), w.σ, w.ρ⟩ i b ↔ OwnAt L w i b := own_same hO
  refine ⟨⟨fun b u hb => ?_, a.ok.ls, a.ok.lr, fun i d' e1 e2 => ?_, fun i k d' e1 e2 e3 => ?_, fun i j p e1 e2 => a.ok.ap i j p (hat.mp e1) (hat.mp e2), fun e => ?_⟩, ⟨⟨a.st.ex, fun b o hb z _ => ?_, fun b o hb z f => a.st.nw b o hb z f, fun b h => a.st.fp b (hfp.mp h), fun i k e1 e2 => (hsv i).trans (a.st.pn i k e1 e2), a.st.lk, fun i k p d' e1 e2 e3 e4 => ?_, fun e => ⟨(a.st.o0 e).1, fun z => ?_⟩⟩, fun e => ?_⟩, ⟨xs ++ [v], upd_same, h2.append (.cons r .nil)⟩, a.nf, fun h => a.np (hfp.mp h), a.fr, a.no⟩
  · show upd w.H Dl _ b = _
    rw [upd_ne (ne_of_none hb a.nf)]
    exact a.ok.sub b u hb
  · obtain ⟨u, g1, g2⟩ := a.ok.fz i d' e1 e2
    exact ⟨u, (hsv i).trans g1, g2⟩
  · obtain ⟨p, g1, g2, o, g3, g4⟩ := a.ok.ow i k d' e1 e2 e3
    exact ⟨p, (hsv i).trans g1, g2, o, by show upd w.H Dl _ p = _; rw [upd_ne (hne ⟨i, k, d', e1, e2, e3, g1⟩)]; exact g3, g4⟩
  · obtain ⟨a0, a1, ⟨C, dx, fs, a2, a3⟩, a4, a5, a6⟩ := a.ok.obj e
    have hd : dx ≠ Dl := fun z => by
      rw [z, hx] at a3
      cases a3
    exact ⟨a0, a1, ⟨C, dx, fs, (hO e).trans a2, by show upd w.H Dl _ dx = _; rw [upd_ne hd]; exact a3⟩, a4, fun h => a5 (hfp.mp h), fun C dx fs z => a6 C dx fs ((hO e).symm.trans z)⟩
  · show upd w.H Dl _ b = _
    rw [upd_ne (ne_of_none hb a.fr)]
    exact a.st.kp' hb z
  · have g := a.st.lo i k p d' e1 e2 e3 e4
    show upd w.H Dl _ p = _
    rw [upd_ne (hne ⟨i, k, d', e1, Kd.own_of e2, (a.st.lk i k e1 e2).trans e3, (a.st.pn i k e1 (Kd.pin_of e2)).trans e4⟩)]
    exact g
  · have y := (a.st.o0 e).2 z
    have y2 := hO e
    rw [(a.st.o0 e).1] at y2
    exact fun q => y (y2.symm.trans q)
  · have y2 := hO e
    rw [(a.st.o0 e).1] at y2
    exact y2.trans (a.st.ost e)
theorem Acc.new (ok : Ok K L w) (st : Stp L w1 w) (h : w.H Dl = none) (h1 : w1.H Dl = none) : Acc K L w1 Dl ⟨w.F, upd w.H Dl (.lst []), w.σ, w.ρ⟩ [] := by
  have pu := Pur.owned (F := w.F) ok.sub h (.lst [])
  obtain ⟨a, b⟩ := ok.pur pu
  have no : hasO L = true → Dl ≠ ob L w.σ := fun e z => by
    obtain ⟨C, dx, fs, y, _⟩ := (ok.obj e).ex
    rw [z, y] at h
    cases h
  exact ⟨a, st.trans b, ⟨[], upd_same, rfl⟩, ok.sub.free h, fun z => (by
    obtain ⟨_, o, q⟩ := ok.ownF (p := Dl) ((fp_same (F := w.F) (H := w.H) b.ost).mp z)
    rw [h] at q
    cases q), h1, no⟩
end
/-- a loop by turns: Pv by the turn and the heap -/
theorem in_it {J : It} {n : Nat} {G : Hp → Prop} {Y : Nat → Hp → V → Hp → Prop} (w : Walk J n G Y) {Nx : Hp → Prop} {Body : (Hp → Prop) → V → Hp → Prop} {H : Hp} (Pv : Nat → Hp → Prop) (h0 : Pv 0 H) (hG : ∀ i H, i ≤ n → Pv i H → G H)
    (hs : ∀ i x H H', i < n → Pv i H → Y i H x H' → Body (Pv (i + 1)) x H') (hd : ∀ H, Pv n H → Nx H) :
    ∃ W : Nat → Nat → Hp → Prop, (∃ m, W 0 m H) ∧ ∀ i m H, W i m H → (J.stop i H ∧ Nx H) ∨ (J.go i H ∧ ∃ N : Hp → Prop, (∀ H', N H' → ∃ m', m' < m ∧ W (i + 1) m' H') ∧ ∀ x H', J.yld i H x H' → Body N x H') := by
  refine ⟨fun i m H => m = n - i ∧ i ≤ n ∧ Pv i H, ⟨n, rfl, Nat.zero_le _, h0⟩, ?_⟩
  rintro i m H ⟨rfl, hi, p⟩
  have g := hG i H hi p
  by_cases lt : i < n
  · exact .inr ⟨w.goes i H lt g, Pv (i + 1), fun H' p' => ⟨n - (i + 1), by omega, rfl, lt, p'⟩, fun x H' y => hs i x H H' lt p (w.yields i H x H' lt g y)⟩
  · have e : i = n := by omega
    subst e
    exact .inl ⟨w.stops H g, hd H p⟩

def mYes : MT := fun ρ => some (true, ρ)
/-- the turns of a clause: target, tests, element -/
def mLcL : List D → MG → MT → M → List Nat → List D → En → Option (List D × En)
  | [], _, _, _, _, acc, ρ => some (acc, ρ)
  | d :: ds, g, t, e, vs, acc, ρ => (g d (wipeE ρ vs)).bind fun ρ1 => (t ρ1).bind fun p => if p.1 = true then (e p.2).bind fun q => if acc.length < 1000000 then mLcL ds g t e vs (acc ++ [q.1]) q.2 else none
      else mLcL ds g t e vs acc p.2
def mLc (mi : MI) (g : MG) (t : MT) (e : M) (vs : List Nat) : M := fun ρ => (mi ρ).bind fun p => (mLcL p.1 g t e vs [] p.2).map fun q => (.list q.1, restE p.2 vs q.2)
def mLc2L : List D → MG → MT → MI → MG → MT → M → List Nat → List Nat → List D → En → Option (List D × En)
  | [], _, _, _, _, _, _, _, _, acc, ρ => some (acc, ρ)
  | d :: ds, g, t, mi1, g1, t1, e, vs, vs1, acc, ρ => (g d (wipeE ρ vs)).bind fun ρ1 => (t ρ1).bind fun p => if p.1 = true then (mi1 p.2).bind fun z => (mLcL z.1 g1 t1 e vs1 acc z.2).bind fun q => mLc2L ds g t mi1 g1 t1 e vs vs1 q.1 q.2
      else mLc2L ds g t mi1 g1 t1 e vs vs1 acc p.2
def mLc2 (mi : MI) (g : MG) (t : MT) (mi1 : MI) (g1 : MG) (t1 : MT) (e : M) (vs vs1 : List Nat) : M := fun ρ => (mi ρ).bind fun p => (mLc2L p.1 g t mi1 g1 t1 e vs vs1 [] p.2).map fun q => (.list q.1, restE p.2 vs q.2)
def subL (is vs : List Nat) : Bool := is.all fun i => decide (i ∈ vs)
section
variable {K : PySem.W.Frag} {O L : List Kd} {g g1 : MG} {t t1 : MT} {e : M} {vs vs1 is is1 : List Nat} {σ : L2.St} {H : Hp} {Q : VK} {mi mi1 : MI}
/-- test and element of one turn -/
theorem turn_elt {w1 w : Wd} {Dl : Addr} {acc acc' : List D} {ρ' : En} {ds : List D} {Nx : Hp → Prop} (a : Acc K L w1 Dl w acc)
    (hm : ((t w.ρ).bind fun p => if p.1 = true then (e p.2).bind fun q => if acc.length < 1000000 then mLcL ds g t e vs (acc ++ [q.1]) q.2 else none else mLcL ds g t e vs acc p.2) = some (acc', ρ'))
    (I : Wd → Prop) (i0 : I w) (hI : ∀ u u', I u → Stp L u u' → I u') (hP : ∀ u xs, I u → ¬ Fp L u Dl → (hasO L = true → Dl ≠ ob L u.σ) → I ⟨u.F, upd u.H Dl (.lst xs), u.σ, u.ρ⟩)
    (k : ∀ w2 acc2, Acc K L w1 Dl w2 acc2 → I w2 → w2.σ = w.σ → mLcL ds g t e vs acc2 w2.ρ = some (acc', ρ') → Nx w2.H) :
    tT K L t w.σ w.H fun b H3 => if b = true then tE K L e .fz w.σ H3 fun y H4 => ∃ xs, H4 Dl = some (.lst xs) ∧ xs.length < sizeLine ∧ Nx (upd H4 Dl (.lst (xs ++ [y]))) else Nx H3 := by
  obtain ⟨⟨b, ρ2⟩, e1, e2⟩ := bind_some hm
  refine ⟨w.F, w.ρ, b, ρ2, a.ok, e1, fun F3 H3 ok3 st3 => ?_⟩
  have a3 := a.step ok3 st3
  have i3 := hI _ _ i0 st3
  cases b with
  | false =>
    dsimp only at e2 ⊢
    rw [if_neg Bool.false_ne_true] at e2 ⊢
    exact k _ _ a3 i3 rfl e2
  | true =>
    dsimp only at e2 ⊢
    rw [if_pos rfl] at e2 ⊢
    obtain ⟨⟨d, ρ3⟩, e3, e4⟩ := bind_some e2
    dsimp only at e4
    split at e4
    · rename_i hlt
      refine ⟨F3, ρ2, d, ρ3, ok3, e3, fun v F4 H4 ok4 st4 r4 => ?_⟩
      have a4 := a3.step ok4 st4
      obtain ⟨xs, x1, x2⟩ := a4.at_
      refine ⟨xs, x1, ?_, k _ _ (a4.push x1 r4) (hP _ _ (hI _ _ i3 st4) a4.np a4.no) rfl e4⟩
      rw [x2.length]
      exact Nat.lt_of_lt_of_le hlt (by decide)
    · cases e4
theorem lc_fin {F F1 H1 F2 H2 : Hp} {ρ ρ1 ρe : En} {Dl : Addr} {acc : List D} (hv : fzAt L vs = true) (hl : lkOf O L = true) (ok1 : Ok K O ⟨F1, H1, σ, ρ1⟩) (st1 : Stp O ⟨F, H, σ, ρ⟩ ⟨F1, H1, σ, ρ1⟩) (hD : H1 Dl = none)
    (a2 : Acc K L ⟨F1, H1, σ, ρ1⟩ Dl ⟨F2, H2, wipe σ vs, wipeE ρe vs⟩ acc) (l2 : ρe.length = O.length)
    (q : ∀ v F' H', Ok K O ⟨F', H', σ, restE ρ1 vs ρe⟩ → Stp O ⟨F, H, σ, ρ⟩ ⟨F', H', σ, restE ρ1 vs ρe⟩ → Rs K O ⟨F, H, σ, ρ⟩ ⟨F', H', σ, restE ρ1 vs ρe⟩ .ow (.list acc) v → Q v H') : Q (.ref Dl) H2 := by
  obtain ⟨xs, x1, x2⟩ := a2.at_
  have l1 : ρ1.length = O.length := ok1.lr
  have ow_of : ∀ {i : Nat} {p : Addr}, OwnAt O ⟨F2, H2, σ, restE ρ1 vs ρe⟩ i p → OwnAt L ⟨F2, H2, wipe σ vs, wipeE ρe vs⟩ i p := fun {i p} ⟨k, d', h1, h2, h3, h4⟩ => by
    have o : OwnAt L ⟨F2, H2, σ, restE ρ1 vs ρe⟩ i p := (lk_at hl).mpr ⟨k, d', h1, h2, h3, h4⟩
    obtain ⟨k, d', h1, h2, h3, h4⟩ := o
    have ni : i ∉ vs := fun m => by
      rw [fzAt_get hv m] at h1
      cases h1
      cases h2
    refine (own_wipe (F := F2) (H := H2) hv).mpr ⟨k, d', h1, h2, ?_, h4⟩
    have h3 : (restE ρ1 vs ρe)[i]? = _ := h3
    rw [restE_out ni] at h3
    exact h3
  have st2 := a2.st.unlock hl
  have svO : ∀ i, sv O H2 σ i = sv O H1 σ i := fun i => sv_same st2.ost
  have hob : hasO O = true → ob L (wipe σ vs) = ob O σ := fun e => (ob_wipe hv ((lk_has hl).trans e)).trans (lk_ob hl σ)
  refine q (.ref Dl) F2 H2 ⟨a2.ok.sub, ok1.ls, by show (restE ρ1 vs ρe).length = _; rw [restE_len]; exact l2, fun i d' h1 h2 => ?_, fun i k d' h1 h2 h3 => ?_, fun i j p h1 h2 => a2.ok.ap i j p (ow_of h1) (ow_of h2), fun e => ?_⟩
    (st1.trans ⟨⟨a2.st.ex, st2.kp, st2.nw, fun b ⟨i, h⟩ => ?_, fun i _ _ _ => svO i, fun i k h1 h2 => ?_, st2.lo, fun e => ⟨rfl, (st2.o0 e).2⟩⟩, st2.ost⟩) ⟨Dl, rfl, a2.nf, ⟨_, x1, xs, rfl, x2⟩, fun ⟨i, h⟩ => a2.np ⟨i, ow_of h⟩, st1.back hD, fun e => by show Dl ≠ ob O σ; rw [← hob e]; exact a2.no ((lk_has hl).trans e)⟩
  · rcases restE_get h2 with ⟨m, z⟩ | ⟨m, z⟩
    · obtain ⟨v, g1, g2⟩ := ok1.fz i d' h1 z
      exact ⟨v, (svO i).trans g1, g2.mono a2.st.ex⟩
    · obtain ⟨a', u1, u2⟩ := (lk_get hl).1 _ h1
      have u3 : L[i]? = some Kd.fz := by
        rcases u2 with u2 | ⟨u2, _⟩ | ⟨u2, _⟩
        · rw [u2]
          exact u1
        · cases u2
        · cases u2
      obtain ⟨v, g1, g2⟩ := a2.ok.fz i d' u3 (show (wipeE ρe vs)[i]? = _ by rw [wipeE_out m]; exact z)
      exact ⟨v, (lk_sv hl).symm.trans ((sv_wipe hv m).symm.trans g1), g2⟩
  · obtain ⟨a', u1, u2⟩ := (lk_get hl).1 _ h1
    have ni : i ∉ vs := fun m => by
      have z := fzAt_get hv m
      rw [u1] at z
      cases z
      rw [u2.own] at h2
      cases h2
    have h3 : (restE ρ1 vs ρe)[i]? = _ := h3
    rw [restE_out ni] at h3
    obtain ⟨p, g1, g2⟩ := a2.ok.ow i a' d' u1 (u2.own.symm.trans h2) (show (wipeE ρe vs)[i]? = _ by rw [wipeE_out ni]; exact h3)
    exact ⟨p, (lk_sv hl).symm.trans ((sv_wipe hv ni).symm.trans g1), g2⟩
  · obtain ⟨b0, b1, ⟨C, dx, fs, b2, b3⟩, b4, b5, b6⟩ := a2.ok.obj ((lk_has hl).trans e)
    have eo := hob e
    have eo : ob L (L2.wipe σ vs) = ob O σ := eo
    rw [eo] at b2 b3 b4 b5 b6
    rw [lk_cn hl, lk_ats hl] at b6
    exact ⟨(ok1.obj e).at0, (ok1.obj e).n0, ⟨C, dx, fs, b2, b3⟩, b4, fun ⟨i, h⟩ => b5 ⟨i, ow_of h⟩, b6⟩
  · exact st2.fp b ((lk_fp hl).mp ⟨i, ow_of h⟩)
  · obtain ⟨a', u1, u2⟩ := (lk_get hl).1 _ h1
    have ni : i ∉ vs := fun m => by
      have z := fzAt_get hv m
      rw [u1] at z
      cases z
      have := u2.lock h2
      cases this
    have z := st2.lk i k h1 h2
    show (restE ρ1 vs ρe)[i]? = _
    rw [restE_out ni]
    have z : (wipeE ρe vs)[i]? = ρ1[i]? := z
    rw [wipeE_out ni] at z
    exact z
theorem tLc_of (hv : fzAt L vs = true) (hl : lkOf O L = true) (his : subL is vs = true) (h : tE K O (mLc mi g t e vs) .ow σ H Q) : tLc (tI K O L mi) (tG K L g is) (tT K L t) (tE K L e .fz) vs σ H Q := by
  obtain ⟨F, ρ, d, ρ', ok, hm, q⟩ := h
  obtain ⟨⟨ds, ρ1⟩, e1, e2⟩ := bind_some hm
  obtain ⟨⟨acc, ρe⟩, e3, e4⟩ := map_some e2
  cases e4
  refine ⟨F, ρ, ds, ρ1, ok, e1, fun J F1 H1 G ok1 st1 wk hG Dl hD => ?_⟩
  have sub : ∀ i, i ∈ is → i ∈ vs := fun i hi => of_decide_eq_true (List.all_eq_true.mp his i hi)
  have okL := ok1.lock hl
  have a0 : Acc K L ⟨F1, H1, σ, ρ1⟩ Dl ⟨F1, upd H1 Dl (.lst []), wipe σ vs, wipeE ρ1 vs⟩ [] := (Acc.new okL (.refl _ _) hD hD).wipe hv
  refine in_it wk (fun i H2 => ∃ F2 ρ2 a, Acc K L ⟨F1, H1, σ, ρ1⟩ Dl ⟨F2, H2, wipe σ vs, wipeE ρ2 vs⟩ a ∧ ρ2.length = O.length ∧ mLcL (ds.drop i) g t e vs a ρ2 = some (acc, ρe))
    ⟨F1, ρ1, [], a0, ok1.lr, e3⟩ (fun i H2 _ ⟨F2, ρ2, a, a2, _, _⟩ => hG Zno zno _ a2.ok (a2.st.q _)) (fun i x H2 H3 hi ⟨F2, ρ2, a, a2, l2, m2⟩ y => ?_) fun H2 ⟨F2, ρ2, a, a2, l2, m2⟩ => ?_
  · obtain ⟨F3, pu, d, hd, rp⟩ := y F2 a2.st.ex a2.ok.sub
    rw [drop_get hd] at m2
    obtain ⟨ρ3, g1, g2⟩ := bind_some m2
    obtain ⟨ok3, st3⟩ := a2.ok.pur pu
    have a3 := a2.step ok3 st3
    refine ⟨F3, wipeE ρ2 vs, d, ρ3, ok3, rp, g1, fun σ4 ok4 st4 cov => ?_⟩
    have a4 := a3.step ok4 st4
    have hw : wipe σ4 vs = wipe σ vs := by
      have l4 : σ4.length = (wipe σ vs).length := ok4.ls.trans ok3.ls.symm
      rw [wipe_eq l4 fun j hj => cov j fun z => hj (sub j z), wipe_idem]
    refine ⟨hw, turn_elt a4 g2 (fun _ => True) trivial (fun _ _ _ _ => trivial) (fun _ _ _ _ _ => trivial) fun w2 acc2 a5 _ hs m5 => ⟨w2.F, w2.ρ, acc2, ?_, (a5.ok.lr).trans (lk_len hl).symm, m5⟩⟩
    have a6 := a5.wipe hv
    rw [hs, hw] at a6
    exact a6
  · rw [List.drop_length] at m2
    cases m2
    exact lc_fin hv hl ok1 st1 hD a2 l2 q
theorem tLc2_of (hv : fzAt L vs = true) (hl : lkOf O L = true) (his : subL is vs = true) (his1 : subL is1 vs1 = true) (hv1 : subL vs1 vs = true) (h : tE K O (mLc2 mi g t mi1 g1 t1 e vs vs1) .ow σ H Q) :
    tLc2 (tI K O L mi) (tG K L g is) (tT K L t) (tI K L L mi1) (tG K L g1 is1) (tT K L t1) (tE K L e .fz) vs vs1 σ H Q := by
  obtain ⟨F, ρ, d, ρ', ok, hm, q⟩ := h
  obtain ⟨⟨ds, ρ1⟩, e1, e2⟩ := bind_some hm
  obtain ⟨⟨acc, ρe⟩, e3, e4⟩ := map_some e2
  cases e4
  refine ⟨F, ρ, ds, ρ1, ok, e1, fun J F1 H1 G ok1 st1 wk hG Dl hD => ?_⟩
  have sub : ∀ i, i ∈ is → i ∈ vs := fun i hi => of_decide_eq_true (List.all_eq_true.mp his i hi)
  have sub1 : ∀ i, i ∈ is1 → i ∈ vs1 := fun i hi => of_decide_eq_true (List.all_eq_true.mp his1 i hi)
  have subv : ∀ i, i ∈ vs1 → i ∈ vs := fun i hi => of_decide_eq_true (List.all_eq_true.mp hv1 i hi)
  have fz1 : fzAt L vs1 = true := by
    have key : ∀ l : List Nat, (∀ i, i ∈ l → i ∈ vs) → fzAt L l = true := fun l => by
      induction l with
      | nil => exact fun _ => rfl
      | cons a l ih => exact fun z => Bool.and_eq_true_iff.mpr ⟨fzAt_one (fzAt_all hv (z a List.mem_cons_self)), ih fun i hi => z i (List.mem_cons_of_mem _ hi)⟩
    exact key vs1 subv
  have okL := ok1.lock hl
  have a0 : Acc K L ⟨F1, H1, σ, ρ1⟩ Dl ⟨F1, upd H1 Dl (.lst []), wipe σ vs, wipeE ρ1 vs⟩ [] := (Acc.new okL (.refl _ _) hD hD).wipe hv
  refine in_it wk (fun i H2 => ∃ F2 ρ2 a, Acc K L ⟨F1, H1, σ, ρ1⟩ Dl ⟨F2, H2, wipe σ vs, wipeE ρ2 vs⟩ a ∧ ρ2.length = O.length ∧ mLc2L (ds.drop i) g t mi1 g1 t1 e vs vs1 a ρ2 = some (acc, ρe))
    ⟨F1, ρ1, [], a0, ok1.lr, e3⟩ (fun i H2 _ ⟨F2, ρ2, a, a2, _, _⟩ => hG Zno zno _ a2.ok (a2.st.q _)) (fun i x H2 H3 hi ⟨F2, ρ2, a, a2, l2, m2⟩ y => ?_) fun H2 ⟨F2, ρ2, a, a2, l2, m2⟩ => ?_
  · obtain ⟨F3, pu, d, hd, rp⟩ := y F2 a2.st.ex a2.ok.sub
    rw [drop_get hd] at m2
    obtain ⟨ρ3, q1, q2⟩ := bind_some m2
    obtain ⟨⟨b, ρ4⟩, q3, q4⟩ := bind_some q2
    obtain ⟨ok3, st3⟩ := a2.ok.pur pu
    have a3 := a2.step ok3 st3
    refine ⟨F3, wipeE ρ2 vs, d, ρ3, ok3, rp, q1, fun σ4 ok4 st4 cov => ?_⟩
    have a4 := a3.step ok4 st4
    have hw : wipe σ4 vs = wipe σ vs := by
      have l4 : σ4.length = (wipe σ vs).length := ok4.ls.trans ok3.ls.symm
      rw [wipe_eq l4 fun j hj => cov j fun z => hj (sub j z), wipe_idem]
    refine ⟨hw, F3, ρ3, b, ρ4, ok4, q3, fun F5 H5 ok5 st5 => ?_⟩
    have a5 := a4.step ok5 st5
    have back : ∀ {w2 : Wd} {acc2 : List D}, Acc K L ⟨F1, H1, σ, ρ1⟩ Dl w2 acc2 → wipe w2.σ vs = wipe σ vs → mLc2L (ds.drop (i + 1)) g t mi1 g1 t1 e vs vs1 acc2 w2.ρ = some (acc, ρe) →
        ∃ F2 ρ2 a, Acc K L ⟨F1, H1, σ, ρ1⟩ Dl ⟨F2, w2.H, wipe σ vs, wipeE ρ2 vs⟩ a ∧ ρ2.length = O.length ∧ mLc2L (ds.drop (i + 1)) g t mi1 g1 t1 e vs vs1 a ρ2 = some (acc, ρe) := fun {w2 acc2} a6 hs m6 => by
      have a7 := a6.wipe hv
      rw [hs] at a7
      exact ⟨w2.F, w2.ρ, acc2, a7, (a6.ok.lr).trans (lk_len hl).symm, m6⟩
    cases b with
    | false =>
      dsimp only at q4 ⊢
      rw [if_neg Bool.false_ne_true] at q4 ⊢
      exact back a5 hw q4
    | true =>
      dsimp only at q4 ⊢
      rw [if_pos rfl] at q4 ⊢
      obtain ⟨⟨es, ρ6⟩, q5, q6⟩ := bind_some q4
      obtain ⟨⟨acc6, ρ7⟩, q7, q8⟩ := bind_some q6
      refine ⟨F5, ρ4, es, ρ6, ok5, q5, fun J1 F6 H6 G1 ok6 st6 wk1 hG1 => ?_⟩
      have a6 := a5.step ok6 st6
      have hz : Zok L ⟨F5, H5, σ4, ρ4⟩ (fun b => b = Dl) := fun b hb => by
        subst hb
        obtain ⟨xs, x1, _⟩ := a5.at_
        exact ⟨⟨_, x1⟩, a5.nf, a5.np, a5.no⟩
      refine in_it wk1 (fun j H7 => ∃ F7 ρ8 a, Acc K L ⟨F1, H1, σ, ρ1⟩ Dl ⟨F7, H7, wipe σ4 vs1, wipeE ρ8 vs1⟩ a ∧ Stq L (fun b => b = Dl) ⟨F6, H6, σ4, ρ6⟩ ⟨F7, H7, wipe σ4 vs1, wipeE ρ8 vs1⟩ ∧ ρ8.length = O.length ∧ mLcL (es.drop j) g1 t1 e vs1 a ρ8 = some (acc6, ρ7))
        ⟨F6, ρ6, a, a6.wipe fz1, ((StpS.refl _ _).wipe fz1).q _, (ok6.lr).trans (lk_len hl).symm, q7⟩ (fun j H7 _ ⟨F7, ρ8, a, a7, s7, _, _⟩ => hG1 _ hz _ a7.ok s7) (fun j x H7 H8 hj ⟨F7, ρ8, a, a7, s7, l7, m7⟩ y => ?_) fun H7 ⟨F7, ρ8, a, a7, s7, l7, m7⟩ => ?_
      · obtain ⟨F8, pu, d, hd, rp⟩ := y F7 s7.ex a7.ok.sub
        rw [drop_get hd] at m7
        obtain ⟨ρ9, r1, r2⟩ := bind_some m7
        obtain ⟨ok8, st8⟩ := a7.ok.pur pu
        have a8 := a7.step ok8 st8
        refine ⟨F8, wipeE ρ8 vs1, d, ρ9, ok8, rp, r1, fun σ9 ok9 st9 cov => ?_⟩
        have a9 := a8.step ok9 st9
        have hw1 : wipe σ9 vs1 = wipe σ4 vs1 := by
          have l4 : σ9.length = (wipe σ4 vs1).length := ok9.ls.trans ok8.ls.symm
          rw [wipe_eq l4 fun j hj => cov j fun z => hj (sub1 j z), wipe_idem]
        refine ⟨hw1, turn_elt a9 r2 (fun u => Stq L (fun b => b = Dl) ⟨F6, H6, σ4, ρ6⟩ u) ((s7.step st8.toStpS).step st9.toStpS) (fun u u' h s => h.step s.toStpS) (fun u xs h n no => ?_) fun w2 acc2 a10 s10 hs m10 => ?_⟩
        · have hO : hasO L = true → upd u.H Dl (.lst xs) (ob L u.σ) = u.H (ob L u.σ) := fun e => upd_ne fun z => no e z.symm
          refine ⟨h.ex, fun b o z hb nb y => ?_, fun i k g1 g2 => (sv_same hO).trans (h.pn i k g1 g2), h.lk, fun i k p d' g1 g2 g3 g4 => ?_, h.o0⟩
          · obtain ⟨z1, z2⟩ := h.kp b o z hb nb y
            exact ⟨by show upd u.H Dl _ b = _; rw [upd_ne z]; exact z1, fun q => z2 ((fp_same (F := u.F) hO).mp q)⟩
          · have z1 := h.lo i k p d' g1 g2 g3 g4
            have hp : p ≠ Dl := fun e => n (by
              rw [← e]
              exact ⟨i, k, d', g1, Kd.own_of g2, (h.lk i k g1 g2).trans g3, (h.pn i k g1 (Kd.pin_of g2)).trans g4⟩)
            show upd u.H Dl _ p = _
            rw [upd_ne hp]
            exact z1
        · have a11 := a10.wipe fz1
          have s11 : Stq L (fun b => b = Dl) ⟨F6, H6, σ4, ρ6⟩ ⟨w2.F, w2.H, wipe w2.σ vs1, wipeE w2.ρ vs1⟩ := s10.step ((StpS.refl _ _).wipe fz1)
          rw [hs, hw1] at a11 s11
          exact ⟨w2.F, w2.ρ, acc2, a11, s11, (a10.ok.lr).trans (lk_len hl).symm, m10⟩
      · rw [List.drop_length] at m7
        cases m7
        have a8 := a7.wipe hv
        have e8 : wipe (wipe σ4 vs1) vs = wipe σ vs := by
          rw [← hw]
          exact wipe_eq (wipe_length _ _) fun j hj => wipe_get_out fun z => hj (subv j z)
        rw [show wipeE (wipeE ρ7 vs1) vs = wipeE ρ7 vs from wipeE_sub subv] at a8
        rw [show wipe (wipe σ4 vs1) vs = wipe σ vs from e8] at a8
        exact ⟨F7, ρ7, acc6, a8, l7, q8⟩
  · rw [List.drop_length] at m2
    cases m2
    exact lc_fin hv hl ok1 st1 hD a2 l2 q
end
section
variable {X : Cx} {O L : List Kd} {elt tg iter tg1 iter1 : Expr} {ifs ifs1 : List Expr} {scope : Scope} {own : List (Str × Nat)} {pos spos : Pos} {mi mi1 : MI} {g g1 : MG} {is is1 vs1 : List Nat} {t t1 : MT} {e : M} {r : Ak}
theorem PTsi {X : Cx} {t t' : TT} (h : PTs X ifs t) (k : ∀ σ H Q, t' σ H Q → t σ H Q) : PTs X ifs t' := ⟨fun pins s σ H Q I q => h.run pins s σ H Q I (k σ H Q q)⟩
theorem ts_nil {X : Cx} {K : PySem.W.Frag} : PTs X [] (tT K L mYes) := PTsi pts_nil fun σ H Q ⟨F, ρ, b, ρ', ok, hm, q⟩ => by
  cases hm
  exact q F H ok (.refl _ _)
theorem ts_one {X : Cx} {c : Expr} {K : PySem.W.Frag} (h : PT X c (tT K L t)) : PTs X [c] (tT K L t) := pts_one h
theorem e_lc (hc : X.calm = true) (hN : X.N.Nodup) (hi : PI X tg iter (tI X.K O L mi)) (ok : BlkOk X.N X.env.scope scope own)
    (hg : ∀ (s : Shared) (H : Hp) (C : Addr) (cl : List (Str × Addr)) (fp : List Addr), PG (X.blk s H scope (compEnvC scope cl C X.env) fp) tg (tG X.K L g is)) (ht : ∀ (s : Shared) (H : Hp) (C : Addr) (cl : List (Str × Addr)) (fp : List Addr), PTs (X.blk s H scope (compEnvC scope cl C X.env) fp) ifs (tT X.K L t))
    (he : ∀ (s : Shared) (H : Hp) (C : Addr) (cl : List (Str × Addr)) (fp : List Addr), PE (X.blk s H scope (compEnvC scope cl C X.env) fp) elt (tE X.K L e .fz)) (hv : fzAt L (own.map (·.2)) = true := by rfl) (hl : lkOf O L = true := by rfl) (his : subL is (own.map (·.2)) = true := by rfl) (hs : ∀ x, foldedSetIterable iter X.env x = pure x := by intro _; rfl) :
    PE X (.ListComp elt [⟨tg, iter, ifs, 0⟩] scope pos) (tE X.K O (mLc mi g t e (own.map (·.2))) .ow) := PEi (pe_lc hc hN hi ok hg ht he hs) fun _ _ _ h => tLc_of hv hl his h
theorem asg_imp {te te' : TE} {i : Nat} {D : Ends} {σ : L2.St} {H : Hp} (k : ∀ σ H Q, te' σ H Q → te σ H Q) (h : tAsg te' (gName i) D σ H) : tAsg te (gName i) D σ H := k _ _ _ h
/-- name = [..] on one line, the name a plain local, an owned slot -/
theorem s_lcO (i : Nat) {y : Str} {py : Pos} (hc : X.calm = true) (hN : X.N.Nodup) (hi : PI X tg iter (tI X.K O L mi)) (ok : BlkOk X.N X.env.scope scope own)
    (hg : ∀ (s : Shared) (H : Hp) (C : Addr) (cl : List (Str × Addr)) (fp : List Addr), PG (X.blk s H scope (compEnvC scope cl C X.env) fp) tg (tG X.K L g is)) (ht : ∀ (s : Shared) (H : Hp) (C : Addr) (cl : List (Str × Addr)) (fp : List Addr), PTs (X.blk s H scope (compEnvC scope cl C X.env) fp) ifs (tT X.K L t))
    (he : ∀ (s : Shared) (H : Hp) (C : Addr) (cl : List (Str × Addr)) (fp : List Addr), PE (X.blk s H scope (compEnvC scope cl C X.env) fp) elt (tE X.K L e .fz)) (hsw : swapsWith (.ListComp elt [⟨tg, iter, ifs, 0⟩] scope pos) (some (.Name y py)) spos.line X.env = pure true)
    (hO : O[i]? = some Kd.ow := by rfl) (hlc : i < nl O := by decide) (h0 : hasO O = false ∨ i ≠ oi O := by decide) (hy : X.N[i]? = some y := by rfl) (hyl : X.env.scope.names.lookup y = some .local := by rfl) (hv : fzAt L (own.map (·.2)) = true := by rfl) (hl : lkOf O L = true := by rfl) (his : subL is (own.map (·.2)) = true := by rfl) (hs : ∀ x, foldedSetIterable iter X.env x = pure x := by intro _; rfl) :
    PS X (.Assign [.Name y py] (.ListComp elt [⟨tg, iter, ifs, 0⟩] scope pos) spos) (tS X.K O (mSet i (mLc mi g t e (own.map (·.2)))) r) :=
  PSi (ps_setLc hc hN hy hyl hsw hi ok hg ht he hs) fun _ _ _ h => asg_imp (fun _ _ _ z => tLc_of hv hl his z) (asgOw hO hlc h0 h)
theorem frzE {K : PySem.W.Frag} {m : M} {σ : L2.St} {H : Hp} {Q : VK} (h : tE K O m .fz σ H Q) : tE K O m .ow σ H Q := by
  obtain ⟨F, ρ, d, ρ', ok, hm, k⟩ := h
  refine ⟨F, ρ, d, ρ', ok, hm, fun v F' H' ok' st r => ?_⟩
  obtain ⟨F2, a, b, c⟩ := frz_out ok' st r
  exact k v F2 H' a b c
theorem s_lcF (i : Nat) {y : Str} {py : Pos} (hc : X.calm = true) (hN : X.N.Nodup) (hi : PI X tg iter (tI X.K O L mi)) (ok : BlkOk X.N X.env.scope scope own)
    (hg : ∀ (s : Shared) (H : Hp) (C : Addr) (cl : List (Str × Addr)) (fp : List Addr), PG (X.blk s H scope (compEnvC scope cl C X.env) fp) tg (tG X.K L g is)) (ht : ∀ (s : Shared) (H : Hp) (C : Addr) (cl : List (Str × Addr)) (fp : List Addr), PTs (X.blk s H scope (compEnvC scope cl C X.env) fp) ifs (tT X.K L t))
    (he : ∀ (s : Shared) (H : Hp) (C : Addr) (cl : List (Str × Addr)) (fp : List Addr), PE (X.blk s H scope (compEnvC scope cl C X.env) fp) elt (tE X.K L e .fz)) (hsw : swapsWith (.ListComp elt [⟨tg, iter, ifs, 0⟩] scope pos) (some (.Name y py)) spos.line X.env = pure true)
    (hO : O[i]? = some Kd.fz := by rfl) (hlc : i < nl O := by decide) (h0 : hasO O = false ∨ i ≠ oi O := by decide) (hy : X.N[i]? = some y := by rfl) (hyl : X.env.scope.names.lookup y = some .local := by rfl) (hv : fzAt L (own.map (·.2)) = true := by rfl) (hl : lkOf O L = true := by rfl) (his : subL is (own.map (·.2)) = true := by rfl) (hs : ∀ x, foldedSetIterable iter X.env x = pure x := by intro _; rfl) :
    PS X (.Assign [.Name y py] (.ListComp elt [⟨tg, iter, ifs, 0⟩] scope pos) spos) (tS X.K O (mSet i (mLc mi g t e (own.map (·.2)))) r) :=
  PSi (ps_setLc hc hN hy hyl hsw hi ok hg ht he hs) fun _ _ _ h => asg_imp (fun _ _ _ z => tLc_of hv hl his (frzE z)) (asgFz hO hlc h0 h)
theorem e_lc2 (hc : X.calm = true) (hN : X.N.Nodup) (hi : PI X tg iter (tI X.K O L mi)) (ok : BlkOk X.N X.env.scope scope own) (hg : ∀ (s : Shared) (H : Hp) (C : Addr) (cl : List (Str × Addr)) (fp : List Addr), PG (X.blk s H scope (compEnvC scope cl C X.env) fp) tg (tG X.K L g is))
    (ht : ∀ (s : Shared) (H : Hp) (C : Addr) (cl : List (Str × Addr)) (fp : List Addr), PTs (X.blk s H scope (compEnvC scope cl C X.env) fp) ifs (tT X.K L t)) (hi1 : ∀ (s : Shared) (H : Hp) (C : Addr) (cl : List (Str × Addr)) (fp : List Addr), PI (X.blk s H scope (compEnvC scope cl C X.env) fp) tg1 iter1 (tI X.K L L mi1))
    (hg1 : ∀ (s : Shared) (H : Hp) (C : Addr) (cl : List (Str × Addr)) (fp : List Addr), PG (X.blk s H scope (compEnvC scope cl C X.env) fp) tg1 (tG X.K L g1 is1)) (ht1 : ∀ (s : Shared) (H : Hp) (C : Addr) (cl : List (Str × Addr)) (fp : List Addr), PTs (X.blk s H scope (compEnvC scope cl C X.env) fp) ifs1 (tT X.K L t1))
    (he : ∀ (s : Shared) (H : Hp) (C : Addr) (cl : List (Str × Addr)) (fp : List Addr), PE (X.blk s H scope (compEnvC scope cl C X.env) fp) elt (tE X.K L e .fz)) (hv1 : subL vs1 (own.map (·.2)) = true := by rfl) (hv : fzAt L (own.map (·.2)) = true := by rfl) (hl : lkOf O L = true := by rfl) (his : subL is (own.map (·.2)) = true := by rfl) (his1 : subL is1 vs1 = true := by rfl)
    (hs : ∀ x, foldedSetIterable iter X.env x = pure x := by intro _; rfl) (hs1 : ∀ env x, foldedSetIterable iter1 env x = pure x := by intro _ _; rfl) :
    PE X (.ListComp elt [⟨tg, iter, ifs, 0⟩, ⟨tg1, iter1, ifs1, 0⟩] scope pos) (tE X.K O (mLc2 mi g t mi1 g1 t1 e (own.map (·.2)) vs1) .ow) :=
  PEi (pe_lc2 hc hN hi ok (fun i hi => of_decide_eq_true (List.all_eq_true.mp hv1 i hi)) hg ht hi1 hg1 ht1 he hs hs1) fun _ _ _ h => tLc2_of hv hl his his1 hv1 h
end
end DL

/-! DLA: built-ins, subscripts, slices, methods that change a slot's list. -/
namespace DL
open PySem PySem.Spec PyProof.Rows L2

section
variable {X : Cx} {O L : List Kd} {e a b : Expr} {es : List Expr} {ma : MA} {m mb : M} {ks : List Ak} {ka kb k : Ak} {op : List D → Option D} {x : Str} {p pos : Pos} {r : List V → Hp → VK → Prop} {id T : String}
/-! ### calls of built-ins -/
theorem e_blt (hc : CallR X (.builtin id) r) (hs : LSem X.K r op k) (hm : X.mg x = none) (hv : bootBuiltins x = some (.builtin id)) (ha : PA X (e :: es) (tA X.K O ma ks)) (hg : Gl X x := by rfl) (hn : x ≠ "__name__" := by decide) (hdb : (x == ("__debug__" : Str)) = false := by decide)
    (he : starEach (e :: es) X.env = (false, eval e X.env) :: starEach es X.env := by rfl) (hpl : (backTo pos (starEach es X.env)).any (·.1) = false := by rfl) : PE X (.Call (.Name x p) (e :: es) [] pos) (tE X.K O (mOp ks ma op) k) :=
  PEi (pe_callB hc hg hm hv ha hn hdb he hpl) fun _ _ _ h => tA_op hs h
theorem e_bty (hc : CallR X (.type T) r) (hs : LSem X.K r op k) (hm : X.mg x = none) (hv : bootBuiltins x = some (.type T)) (ha : PA X (e :: es) (tA X.K O ma ks)) (hg : Gl X x := by rfl) (hn : x ≠ "__name__" := by decide) (hdb : (x == ("__debug__" : Str)) = false := by decide)
    (he : starEach (e :: es) X.env = (false, eval e X.env) :: starEach es X.env := by rfl) (hpl : (backTo pos (starEach es X.env)).any (·.1) = false := by rfl) : PE X (.Call (.Name x p) (e :: es) [] pos) (tE X.K O (mOp ks ma op) k) :=
  PEi (pe_callTy hc hg hm hv ha hn hdb he hpl) fun _ _ _ h => tA_op hs h
end

/-! ### what they make -/
section
variable {K : PySem.W.Frag}
def dLen : List D → Option D
  | [.list ds] => some (.int ds.length)
  | [.tuple ds] => some (.int ds.length)
  | [.str z] => if z.length ≤ 100000 then some (.int z.length) else none
  | _ => none
theorem s_len : LSem K (fun xs H Q => ∃ x n, xs = [x] ∧ LenV K x H n ∧ Q (.int n) H) dLen .fz := by
  intro F H ds vs d Q s hv ho q
  unfold dLen at ho
  split at ho
  · rename_i es
    cases ho
    obtain ⟨v, rfl, a, xs, rfl, h1, h2⟩ := hv.one
    exact ⟨_, es.length, rfl, .inl ⟨xs, h1, by rw [h2.length]⟩, q.now s rfl⟩
  · rename_i es
    cases ho
    obtain ⟨v, rfl, a, xs, rfl, h1, h2⟩ := hv.one
    exact ⟨_, es.length, rfl, .inr ⟨xs, same_sqt s h1, by rw [h2.length]⟩, q.now s rfl⟩
  · rename_i z
    split at ho
    · rename_i hz
      cases ho
      obtain ⟨v, rfl, h⟩ := hv.one
      have h : v = .str z := h
      subst h
      exact ⟨_, z.length, rfl, ⟨Nat.le_trans hz (by decide), rfl⟩, q.now s rfl⟩
    · cases ho
  · cases ho
def dList : List D → Option D
  | [.list ds] => some (.list ds)
  | [.tuple ds] => some (.list ds)
  | _ => none
theorem s_list : LSem K (fun xs H Q => ∃ p ys, xs = [.ref p] ∧ (SqL K H p ys ∨ SqT K H p ys) ∧ ∀ l, H l = none → Q (.ref l) (upd H l (.lst ys))) dList .ow := by
  intro F H ds vs d Q s hv ho q
  unfold dList at ho
  split at ho
  · rename_i es
    cases ho
    obtain ⟨v, rfl, a, xs, rfl, h1, h2⟩ := hv.one
    exact ⟨a, xs, rfl, .inl h1, q.lst s h2⟩
  · rename_i es
    cases ho
    obtain ⟨v, rfl, a, xs, rfl, h1, h2⟩ := hv.one
    exact ⟨a, xs, rfl, .inr (same_sqt s h1), q.lst s h2⟩
  · cases ho
def dTuple : List D → Option D
  | [.list ds] => some (.tuple ds)
  | [.tuple ds] => some (.tuple ds)
  | _ => none
theorem s_tuple : LSem K (fun xs H Q => ∃ p ys, xs = [.ref p] ∧ ((SqL K H p ys ∧ ∀ l, H l = none → Q (.ref l) (upd H l (.tup ys))) ∨ (SqT K H p ys ∧ Q (.ref p) H))) dTuple .fz := by
  intro F H ds vs d Q s hv ho q
  unfold dTuple at ho
  split at ho
  · rename_i es
    cases ho
    obtain ⟨v, rfl, a, xs, rfl, h1, h2⟩ := hv.one
    exact ⟨a, xs, rfl, .inl ⟨h1, q.tup s h2⟩⟩
  · rename_i es
    cases ho
    obtain ⟨v, rfl, a, xs, rfl, h1, h2⟩ := hv.one
    exact ⟨a, xs, rfl, .inr ⟨same_sqt s h1, q.now s ⟨a, xs, rfl, h1, h2⟩⟩⟩
  · cases ho
def bools : List D → Option (List Bool)
  | [] => some []
  | .bool b :: ds => (bools ds).map (b :: ·)
  | _ :: _ => none
theorem bools_v {F : Hp} : ∀ {ds : List D} {bs : List Bool} {xs : List V}, bools ds = some bs → RpA K F ds xs → xs = bs.map V.bl
  | [], bs, xs, h, r => by
    cases h
    exact r
  | .bool b :: ds, bs, xs, h, r => by
    obtain ⟨cs, h1, rfl⟩ := map_some h
    obtain ⟨v, vs, rfl, r1, r2⟩ := r
    have r1 : v = .bl b := r1
    rw [r1, bools_v h1 r2]
    rfl
  | .none :: _, _, _, h, _ => by cases h
  | .int _ :: _, _, _, h, _ => by cases h
  | .str _ :: _, _, _, h, _ => by cases h
  | .list _ :: _, _, _, h, _ => by cases h
  | .tuple _ :: _, _, _, h, _ => by cases h
  | .dict _ :: _, _, _, h, _ => by cases h
def dAll : List D → Option D
  | [.list ds] => (bools ds).map fun bs => .bool (bs.all id)
  | _ => none
def dAny : List D → Option D
  | [.list ds] => (bools ds).map fun bs => .bool (bs.any id)
  | _ => none
theorem s_all : LSem K (rAll K) dAll .fz := by
  intro F H ds vs d Q s hv ho q
  unfold dAll at ho
  split at ho
  · rename_i es
    obtain ⟨bs, h1, rfl⟩ := map_some ho
    obtain ⟨v, rfl, a, xs, rfl, h2, h3⟩ := hv.one
    have e := bools_v h1 h3
    subst e
    exact ⟨a, bs, rfl, h2, q.now s rfl⟩
  · cases ho
theorem s_any : LSem K (rAny K) dAny .fz := by
  intro F H ds vs d Q s hv ho q
  unfold dAny at ho
  split at ho
  · rename_i es
    obtain ⟨bs, h1, rfl⟩ := map_some ho
    obtain ⟨v, rfl, a, xs, rfl, h2, h3⟩ := hv.one
    have e := bools_v h1 h3
    subst e
    exact ⟨a, bs, rfl, h2, q.now s rfl⟩
  · cases ho
/-! ### isinstance against a built-in type -/
def tyD : D → String
  | .none => "NoneType"
  | .bool _ => "bool"
  | .int _ => "int"
  | .str _ => "str"
  | .list _ => "list"
  | .tuple _ => "tuple"
  | .dict _ => "dict"
def dIs (n : String) : List D → Option D
  | [d] => (match n with
    | "int" => some (.bool (match d with | .int _ => true | .bool _ => true | _ => false))
    | "bool" => some (.bool (match d with | .bool _ => true | _ => false))
    | "str" => some (.bool (match d with | .str _ => true | _ => false))
    | "list" => some (.bool (match d with | .list _ => true | _ => false))
    | "tuple" => some (.bool (match d with | .tuple _ => true | _ => false))
    | "dict" => some (.bool (match d with | .dict _ => true | _ => false))
    | _ => none)
  | _ => none
theorem sql_ty {H : Hp} {a : Addr} {xs : List V} (h : SqL K H a xs) : TyX K H (.ref a) (.type "list") := by
  rcases h with (h | ⟨o, h⟩) | ⟨o, _, _, h1, h2, _⟩
  · exact .base (.lst h)
  · exact .base (.frz h)
  · exact .kList h1 h2
theorem sqt_ty {H : Hp} {a : Addr} {xs : List V} (h : SqT K H a xs) : TyX K H (.ref a) (.type "tuple") := by
  rcases h with (h | ⟨o, h⟩) | ⟨o, _, _, h1, h2, _⟩
  · exact .base (.tup h)
  · exact .fTuple h
  · exact .kTuple h1 h2
theorem dk_ty {H : Hp} {a : Addr} {kvs : List (Key × V)} (h : Rd H a (.dK kvs)) : TyX K H (.ref a) (.type "dict") := by
  rcases h with h | ⟨o, h⟩
  · exact .base (.dK h)
  · exact .fDict h
theorem vw_ty {F H : Hp} (s : Same F H) : ∀ {d : D} {v : V}, Vw K F H d v → TyX K H v (.type (tyD d))
  | .none, v, h => by
    have h : v = .non := h
    rw [h]
    exact .base .non
  | .bool b, v, h => by
    have h : v = .bl b := h
    rw [h]
    exact .base (.bl b)
  | .int i, v, h => by
    have h : v = .int i := h
    rw [h]
    exact .base (.int i)
  | .str z, v, h => by
    have h : v = .str z := h
    rw [h]
    exact .base (.str z)
  | .list ds, v, ⟨a, xs, e, h1, _⟩ => by
    rw [e]
    exact sql_ty h1
  | .tuple ds, v, ⟨a, xs, e, h1, _⟩ => by
    rw [e]
    exact sqt_ty (same_sqt s h1)
  | .dict ds, v, ⟨a, xs, e, h1, _⟩ => by
    rw [e]
    exact dk_ty h1
theorem is_kit : ∀ {n : String} {d : D} {z : D}, dIs n [d] = some z → ∃ b, z = .bool b ∧ PySem.W.kitOne K (.type (tyD d)) (.type n) = some b := fun {n d z} h => by
  unfold dIs at h
  dsimp only at h
  split at h <;> first
    | (cases h; done)
    | (cases h; refine ⟨_, rfl, ?_⟩; cases d <;> (dsimp only [tyD]; exact kit_ty (by decide +kernel)))
end
section
variable {X : Cx} {O L : List Kd} {e a b : Expr} {es : List Expr} {ma : MA} {m mb : M} {ks : List Ak} {ka kb k : Ak} {op : List D → Option D} {x : Str} {p q pos apos : Pos} {T id : String} {i : Nat}
theorem e_isi {n : String} {nx : Str} (hm : X.mg "isinstance" = none) (hn : X.mg nx = none) (hv : bootBuiltins nx = some (.type n)) (ha : PE X e (tE X.K O m ka)) (hg : Gl X "isinstance" := by rfl) (hgn : Gl X nx := by rfl) (h1 : nx ≠ "__name__" := by decide) (h2 : (nx == ("__debug__" : Str)) = false := by decide)
    (he : starEach (e :: [.Name nx q]) X.env = (false, eval e X.env) :: starEach [.Name nx q] X.env := by rfl) (hpl : (backTo pos (starEach [.Name nx q] X.env)).any (·.1) = false := by rfl) (hs2 : starEach [.Name nx q] X.env = (false, eval (.Name nx q) X.env) :: starEach [] X.env := by rfl) :
    PE X (.Call (.Name "isinstance" p) [e, .Name nx q] [] pos) (tE X.K O (m1 ka m (dIs n)) .fz) := by
  refine PEi (pe_callB call_isi hg hm (by decide +kernel) (pa_cons ha (pa_cons (pe_bltn (v := .ty n) hgn hn hv rfl h1 h2) pa_nil hs2) he) (by decide) (by decide) he hpl) fun σ H Q h => ?_
  have hs : LSem X.K (fun vs H Q => ∃ v, vs = [v] ∧ rIsi X.K [v, .ty n] H Q) (dIs n) .fz := by
    intro F H ds vs d Q s hv ho q
    cases ds with
    | nil => cases ho
    | cons d0 r =>
      cases r with
      | cons _ _ => cases ho
      | nil =>
        obtain ⟨v, rfl, h1⟩ := hv.one
        obtain ⟨b, rfl, kb⟩ := is_kit (K := X.K) ho
        exact ⟨v, rfl, v, .ty n, _, _, b, rfl, .ty n, vw_ty s h1, kb, q.now s rfl⟩
  have z := tA_cons (tA_op hs h)
  obtain ⟨F, ρ, d, ρ', ok, hmm, z⟩ := z
  refine ⟨F, ρ, d, ρ', ok, hmm, fun v F1 H1 ok1 st1 r1 => ?_⟩
  obtain ⟨F4, ρ4, ds, ρ4', ok4, hm4, q4⟩ := z v F1 H1 ok1 st1 r1
  cases hm4
  obtain ⟨v', e1, z1⟩ := q4 [] F4 H1 ok4 (.refl _ _) ⟨rfl, rfl⟩
  cases e1
  exact z1
/-! ### subscripts -/
def dIx : List D → Option D
  | [.list ds, .int i] => atI ds i
  | [.tuple ds, .int i] => atI ds i
  | [.str z, .int i] => if z.length ≤ 100000 then (atI z.cps.toList i).map fun c => .str ⟨#[c]⟩ else none
  | _ => none
theorem atI_v {K : PySem.W.Frag} {F : Hp} {ds : List D} {xs : List V} {i : Int} {d : D} (r : RpA K F ds xs) (h : atI ds i = some d) : ∃ v, atI xs i = some v ∧ Rp K F d v := by
  unfold atI at h ⊢
  rw [r.length]
  obtain ⟨j, h1, h2⟩ := bind_some h
  obtain ⟨v, h3, h4⟩ := r.get h2
  exact ⟨v, by rw [h1]; exact h3, h4⟩
theorem s_ix {K : PySem.W.Frag} : LSem K (rL2 (rIx K)) dIx .fz := by
  intro F H ds vs d Q s hv ho q
  unfold dIx at ho
  split at ho
  · rename_i es i
    obtain ⟨v, u, rfl, ⟨a, xs, rfl, h1, h2⟩, h3⟩ := hv.two
    have h3 : u = .int i := h3
    subst h3
    obtain ⟨w, h4, h5⟩ := atI_v h2 ho
    exact ⟨_, _, rfl, .inl ⟨a, xs, i, w, rfl, rfl, h1, h4, q.now s h5⟩⟩
  · rename_i es i
    obtain ⟨v, u, rfl, ⟨a, xs, rfl, h1, h2⟩, h3⟩ := hv.two
    have h3 : u = .int i := h3
    subst h3
    obtain ⟨w, h4, h5⟩ := atI_v h2 ho
    exact ⟨_, _, rfl, .inr (.inl ⟨a, xs, i, w, rfl, rfl, same_sqt s h1, h4, q.now s h5⟩)⟩
  · rename_i z i
    split at ho
    · rename_i hz
      obtain ⟨v, u, rfl, h1, h3⟩ := hv.two
      have h1 : v = .str z := h1
      have h3 : u = .int i := h3
      subst h1 h3
      obtain ⟨c, h4, rfl⟩ := map_some ho
      exact ⟨_, _, rfl, .inr (.inr ⟨z, i, c, rfl, rfl, Nat.le_trans hz (by decide), h4, q.now s rfl⟩)⟩
    · cases ho
  · cases ho
theorem e_ix (ha : PE X a (tE X.K O m ka)) (hb : PE X b (tE X.K O mb kb)) (hs : PlainIx b := by exact fun _ _ => rfl) : PE X (.Subscript a b pos) (tE X.K O (m2 ka kb m mb dIx) .fz) :=
  PEi (pe_ix ix_seq ha hb hs) fun _ _ _ h => tOp_of s_ix h
/-! ### xs[i] = v of a slot's list -/
def mSetIx (i : Nat) (mi mv : M) : MS := fun ρ => (mv ρ).bind fun p => (mBr i p.2).bind fun _ => (mi p.2).bind fun q => match q.1, q.2[i]? with
  | .int j, some (some (.list ds)) => (ixN ds.length j).map fun n => (.nx, q.2.set i (some (.list (ds.set n p.1))))
  | _, _ => none
theorem s_setIx (i : Nat) {o ix : Expr} {mi mv : M} {r : Ak} {spos : Pos} (hO : mutK O[i]? = true) (ho : PE X o (tE X.K O (mBr i) (.br i))) (hi : PE X ix (tE X.K O mi .fz)) (he : PE X e (tE X.K O mv .fz)) (hs : swapsWithSole [.Subscript o ix spos] e pos.line X.env = pure false := by rfl)
    (hw : swappedStores [.Subscript o ix spos] e X.env = pure none := by rfl) (h1 : (assignEach [.Subscript o ix spos] X.env).map (·.2) = [assign (.Subscript o ix spos) X.env] := by rfl)
    (ha : ∀ v, assign (.Subscript o ix spos) X.env v = (do
      let ov ← holding [v] (eval o X.env)
      let iv ← holding [v, ov] (eval ix X.env)
      standAt spos
      holding [v, ov, iv] (setItem ov iv v)
      release [v, ov, iv] []) := by intro _; rfl) : PS X (.Assign [.Subscript o ix spos] e pos) (tS X.K O (mSetIx i mi mv) r) := by
  refine PSi (ps_asg he (pg_sub ho hi set_list ha) hs hw h1) fun Dn σ H ⟨F, ρ, fl, ρ', ok, hm, q⟩ => ?_
  obtain ⟨⟨d1, ρ1⟩, e1, e2⟩ := bind_some hm
  obtain ⟨⟨d2, ρ2⟩, e3, e4⟩ := bind_some e2
  obtain ⟨⟨d3, ρ3⟩, e5, e6⟩ := bind_some e4
  dsimp only at e5 e6
  split at e6
  · rename_i _ _ j ds g2
    obtain ⟨n, g3, g4⟩ := map_some e6
    cases g4
    have hρ : ρ2 = ρ1 := by
      obtain ⟨_, _, z⟩ := slot_some e3
      cases z
      rfl
    subst hρ
    refine ⟨F, ρ, d1, ρ2, ok, e1, fun v F1 H1 ok1 st1 r1 => ?_⟩
    refine ⟨F1, ρ2, d2, ρ2, ok1, e3, fun o F2 H2 ok2 st2 r2 => ?_⟩
    refine ⟨F2, ρ2, _, ρ3, ok2, e5, fun iv F3 H3 ok3 st3 r3 => ?_⟩
    have go := (st1.trans st2).trans st3
    obtain ⟨r2, k0, k1, k2⟩ := r2.step st3 rfl
    obtain ⟨pp, y1, y2, oo, y3, xs, y4, y5⟩ := ok3.ow i k0 _ k1 k2 g2
    rw [y1] at r2
    cases r2
    subst y4
    have r3 : iv = .int j := r3
    subst r3
    have rv : Rp X.K F3 d1 v := Rp.mono (st2.trans st3).ex _ _ r1
    refine ⟨pp, xs, j, n, rfl, rfl, y3, by rw [y5.length]; exact g3, ?_⟩
    have kl : k0.lock = false := by
      rw [k1] at hO
      cases k0 <;> first | rfl | cases hO
    obtain ⟨z1, z2⟩ := ok3.chg (o := .lst (xs.set n v)) (d := .list (ds.set n d1)) k1 k2 kl g2 y1 y2 ⟨_, rfl, y5.set rv n⟩
    exact q σ F3 _ z1 (go.trans z2)
  · cases e6
/-! ### slices -/
def cutG {α : Type} (xs : List α) (lo hi : Option Int) : List α := (xs.drop (HT.sIx xs.length 0 lo)).take (HT.sIx xs.length xs.length hi - HT.sIx xs.length 0 lo)
theorem cutG_v {K : PySem.W.Frag} {F : Hp} {ds : List D} {xs : List V} (r : RpA K F ds xs) (lo hi : Option Int) : RpA K F (cutG ds lo hi) (cutV xs lo hi) := by
  unfold cutG cutV
  rw [r.length]
  exact (r.drop _).take _
abbrev MO := En → Option (Option Int × En)
def tO (K : PySem.W.Frag) (O : List Kd) (m : MO) : TO := fun σ H Q => ∃ F ρ b ρ', Ok K O ⟨F, H, σ, ρ⟩ ∧ m ρ = some (b, ρ') ∧ ∀ F' H', Ok K O ⟨F', H', σ, ρ'⟩ → Stp O ⟨F, H, σ, ρ⟩ ⟨F', H', σ, ρ'⟩ → Q b H'
def mNo : MO := fun ρ => some (none, ρ)
def mPt (m : M) : MO := fun ρ => (m ρ).bind fun p => match p.1 with
  | .int i => some (some i, p.2)
  | _ => none
theorem POi {t t' : TO} {oe : Option Expr} (h : PO X oe t) (k : ∀ σ H Q, t' σ H Q → t σ H Q) : PO X oe t' := ⟨fun pins s σ H Q I q => h.run pins s σ H Q I (k σ H Q q)⟩
theorem o_no : PO X none (tO X.K O mNo) := POi po_none fun σ H Q ⟨F, ρ, b, ρ', ok, hm, q⟩ => by
  cases hm
  exact q F H ok (.refl _ _)
theorem o_pt (h : PE X e (tE X.K O m .fz)) : PO X (some e) (tO X.K O (mPt m)) := POi (po_some h) fun σ H Q ⟨F, ρ, b, ρ', ok, hm, q⟩ => by
  obtain ⟨⟨d, ρ1⟩, e1, e2⟩ := bind_some hm
  cases d <;> cases e2
  exact ⟨F, ρ, _, ρ1, ok, e1, fun v F1 H1 ok1 st1 r1 => ⟨_, r1, q F1 H1 ok1 st1⟩⟩
def mSl (ka : Ak) (m : M) (lo hi : MO) (op : D → Option Int → Option Int → Option D) : M := fun ρ => (m ρ).bind fun p => (lo p.2).bind fun q => (hi q.2).bind fun z => (fill [ka] [p.1] z.2).bind fun ds => match ds with
  | [d] => (op d q.1 z.1).map fun y => (y, z.2)
  | _ => none
def dSlL (d : D) (lo hi : Option Int) : Option D := match d with
  | .list ds => some (.list (cutG ds lo hi))
  | _ => none
def dSlT (d : D) (lo hi : Option Int) : Option D := match d with
  | .tuple ds => some (.tuple (cutG ds lo hi))
  | _ => none
def SlSem (K : PySem.W.Frag) (r : V → Option Int → Option Int → Hp → VK → Prop) (op : D → Option Int → Option Int → Option D) (k : Ak) : Prop := ∀ (F H : Hp) (d : D) (v : V) (lo hi : Option Int) (z : D) (Q : VK), Same F H → Vw K F H d v → op d lo hi = some z → Post K F H k z Q → r v lo hi H Q
theorem sl_l {K : PySem.W.Frag} : SlSem K (rSlL K) dSlL .ow := by
  intro F H d v lo hi z Q s hv ho q
  unfold dSlL at ho
  split at ho
  · cases ho
    obtain ⟨a, xs, e, h1, h2⟩ := hv
    exact ⟨a, xs, e, h1, q.lst s (cutG_v h2 lo hi)⟩
  · cases ho
theorem cut_all {α : Type} {xs : List α} {lo hi : Option Int} (h : HT.sIx xs.length 0 lo = 0 ∧ HT.sIx xs.length xs.length hi = xs.length) : cutG xs lo hi = xs := by
  unfold cutG
  rw [h.1, h.2, List.drop_zero, Nat.sub_zero, List.take_length]
theorem sl_t {K : PySem.W.Frag} : SlSem K (rSlA K) dSlT .fz := by
  intro F H d v lo hi z Q s hv ho q
  unfold dSlT at ho
  split at ho
  · rename_i ds
    cases ho
    obtain ⟨a, xs, e, h1, h2⟩ := hv
    refine ⟨a, xs, e, same_sqt s h1, fun h => ?_, fun _ => q.tup s (cutG_v h2 lo hi)⟩
    rw [h2.length] at h
    rw [cut_all h] at q
    subst e
    exact q.now s ⟨a, xs, rfl, h1, h2⟩
  · cases ho
theorem e_sl {r : V → Option Int → Option Int → Hp → VK → Prop} {sop : D → Option Int → Option Int → Option D} {lo hi : Option Expr} {ml mh : MO} (hr : SlR X r) (hs : SlSem X.K r sop k) (he : PE X e (tE X.K O m ka)) (h1 : PO X lo (tO X.K O ml)) (h2 : PO X hi (tO X.K O mh)) :
    PE X (.Subscript e (.Slice lo hi none p) pos) (tE X.K O (mSl ka m ml mh sop) k) := by
  refine PEi (pe_slice hr he h1 h2) fun σ H Q ⟨F, ρ, d, ρ', ok, hm, q⟩ => ?_
  obtain ⟨⟨d1, ρ1⟩, e1, e2⟩ := bind_some hm
  obtain ⟨⟨b1, ρ2⟩, e3, e4⟩ := bind_some e2
  obtain ⟨⟨b2, ρ3⟩, e5, e6⟩ := bind_some e4
  obtain ⟨ds, e7, e8⟩ := bind_some e6
  refine ⟨F, ρ, d1, ρ1, ok, e1, fun v F1 H1 ok1 st1 r1 => ⟨F1, ρ1, b1, ρ2, ok1, e3, fun F2 H2 ok2 st2 => ⟨F2, ρ2, b2, ρ3, ok2, e5, fun F3 H3 ok3 st3 => ?_⟩⟩⟩
  have rr : Rss X.K O ⟨F, H, σ, ρ⟩ ⟨F3, H3, σ, ρ3⟩ [ka] [d1] [v] := ⟨d1, [], v, [], rfl, rfl, (r1.step st2 rfl).step st3 rfl, rfl, rfl⟩
  have vw := rr.views ok3 e7
  split at e8
  · rename_i dd
    obtain ⟨y, e9, ea⟩ := map_some e8
    cases ea
    obtain ⟨v', ev, vw⟩ := vw.one
    cases ev
    refine hs F3 H3 dd v b1 b2 d Q ok3.sub vw e9 fun u F4 H4 pu r4 => ?_
    obtain ⟨ok4, st4⟩ := ok3.pur pu
    have go := (st1.trans st2).trans st3
    exact q u F4 H4 ok4 (go.trans st4) ((r4.rs ok3 st4).pre go)
  · cases e8
/-- xs[::-1] -/
def dRev : List D → Option D
  | [.list ds] => some (.list ds.reverse)
  | _ => none
theorem e_rev {c : Nat} {p1 p2 p3 : Pos} (he : PE X e (tE X.K O m ka)) : PE X (.Subscript e (.Slice none none (some (.UnaryOp .USub (.Constant (.int 1) c p1) p2)) p3) pos) (tE X.K O (m1 ka m dRev) .ow) := by
  refine PEi (pe_revL he) fun σ H Q h => ?_
  have hs : LSem X.K (rL1 fun v H Q => ∃ a xs, v = .ref a ∧ SqL X.K H a xs ∧ ∀ p, H p = none → Q (.ref p) (upd H p (.lst xs.reverse))) dRev .ow := by
    intro F H ds vs d Q s hv ho q
    unfold dRev at ho
    split at ho
    · cases ho
      obtain ⟨v, rfl, a, xs, rfl, h1, h2⟩ := hv.one
      exact ⟨_, rfl, a, xs, rfl, h1, q.lst s h2.reverse⟩
    · cases ho
  exact tUn_of hs h
/-! ### + of lists -/
def dCat : List D → Option D
  | [.list xs, .list ys] => if xs.length + ys.length ≤ 1000000 then some (.list (xs ++ ys)) else none
  | _ => none
/-- both stand as lists of the run's own -/
def rCatS (K : PySem.W.Frag) : R2 := fun x y H Q => ∃ l b xs zs, x = .ref l ∧ y = .ref b ∧ SqL K H l xs ∧ SqL K H b zs ∧ xs.length + zs.length ≤ sizeLine ∧ ∀ p, H p = none → Q (.ref p) (upd H p (.lst (xs ++ zs)))
theorem op_catS : OpR X (binaryOp .Add) (rCatS X.K) := by
  intro pins s σ H x y v u Q I rx ry h
  obtain ⟨l, b, xs, zs, rfl, rfl, hl, hb, hz, q⟩ := h
  cases rx
  cases ry
  obtain ⟨its, r1, ⟨⟨cls1, dd1, dt1, sl1⟩, n1, o1, c1, _, t1⟩, _⟩ := I.list hl
  obtain ⟨jts, r2, ⟨⟨cls2, dd2, dt2, sl2⟩, n2, o2, c2, _, t2⟩, _⟩ := I.list hb
  simp only at c1 t1 c2 t2
  subst c1 t1 c2 t2
  have l1 := r1.length
  have l2 := r2.length
  refine concat_meets ⟨_, o1, rfl⟩ ⟨_, o2, rfl⟩ noFill_list_add seq_list_add PySem.F.slot_list_add PySem.F.entry_list_add (PySem.F.args_list_add_2 _ _) (list_addW l b its.toArray jts.toArray n1 n2 dd1 dd2 sl1 sl2 (by rw [List.size_toArray, List.size_toArray]; omega)) ⟨o1, o2, ?_⟩
  rw [show its.toArray ++ jts.toArray = (its ++ jts).toArray by simp]
  exact ⟨.ref _, _, I.lnew (t' := s.toks) (r1.append r2) (by rw [List.length_append]; omega), rfl, q _ I.fresh⟩
theorem s_cat {K : PySem.W.Frag} : LSem K (rL2 (rCatS K)) dCat .ow := by
  intro F H ds vs d Q s hv ho q
  unfold dCat at ho
  split at ho
  · rename_i es fs
    split at ho
    · rename_i hz
      cases ho
      obtain ⟨v, u, rfl, ⟨a, xs, rfl, h1, h2⟩, b, ys, rfl, h3, h4⟩ := hv.two
      exact ⟨_, _, rfl, a, b, xs, ys, rfl, rfl, h1, h3, by rw [h2.length, h4.length]; exact Nat.le_trans hz (by decide), q.lst s (h2.append h4)⟩
    · cases ho
  · cases ho
/-! ### a slot's list changed by a method -/
/-- what the method makes of the content: a value, the new content -/
def MSem (K : PySem.W.Frag) (r : V → List V → Hp → VK → Prop) (op : D → List D → Option (D × D)) : Prop := ∀ (F H : Hp) (p : Addr) (d0 : D) (vs : List V) (ds : List D) (d d0' : D) (Q : VK), Same F H → F p = none → OwnO K F H p d0 → RpA K F ds vs → op d0 ds = some (d, d0') →
  (∀ v o, OwnC K F o d0' → Rp K F d v → Q v (upd H p o)) → r (.ref p) vs H Q
def isTy (T : String) (d : D) : Bool := match d with
  | .list _ => decide (T = "list")
  | .dict _ => decide (T = "dict")
  | .str _ => decide (T = "str")
  | _ => false
def mMut (i : Nat) (T : String) (ma : MA) (op : D → List D → Option (D × D)) : M := fun ρ => match ρ[i]? with
  | some (some d1) => if isTy T d1 = true then (ma ρ).bind fun q => (match q.2[i]? with
    | some (some d0) => (op d0 q.1).map fun z => (z.1, q.2.set i (some z.2))
    | _ => none) else none
  | _ => none
theorem own_ty {K : PySem.W.Frag} {F H : Hp} {p : Addr} {T : String} : ∀ {d : D}, isTy T d = true → OwnO K F H p d → tyV K T (.ref p) H
  | .list ds, h, ⟨o, h1, xs, h2, h3⟩ => .inl ⟨of_decide_eq_true h, xs, .inl (.inl (by rw [h1, h2]))⟩
  | .dict ds, h, ⟨o, h1, xs, h2, h3⟩ => .inr (.inr (.inl ⟨of_decide_eq_true h, .inl ⟨xs, by rw [h1, h2]⟩⟩))
  | .none, h, _ => by cases h
  | .bool _, h, _ => by cases h
  | .int _, h, _ => by cases h
  | .str _, _, ⟨_, _, h⟩ => h.elim
  | .tuple _, h, _ => by cases h
theorem mut_core {K : PySem.W.Frag} {r : V → List V → Hp → VK → Prop} {mop : D → List D → Option (D × D)} {F F1 H H1 : Hp} {σ : L2.St} {ρ ρ1 : En} {d0 d d0' : D} {ds : List D} {vs : List V} {xv : V} {Q : VK} (hO : mutK O[i]? = true) (hs : MSem K r mop) (st1 : Stp O ⟨F, H, σ, ρ⟩ ⟨F1, H1, σ, ρ1⟩) (ok1 : Ok K O ⟨F1, H1, σ, ρ1⟩)
    (hx : sv O H1 σ i = some (some xv)) (h0 : ρ1[i]? = some (some d0)) (ra : RpA K F1 ds vs) (ho : mop d0 ds = some (d, d0'))
    (q : ∀ v F' H', Ok K O ⟨F', H', σ, ρ1.set i (some d0')⟩ → Stp O ⟨F, H, σ, ρ⟩ ⟨F', H', σ, ρ1.set i (some d0')⟩ → Rs K O ⟨F, H, σ, ρ⟩ ⟨F', H', σ, ρ1.set i (some d0')⟩ .fz d v → Q v H') : r xv vs H1 Q := by
  have hk : ∃ k : Kd, O[i]? = some k ∧ k.own = true ∧ k.lock = false := by
    cases e : O[i]? with
    | none =>
      rw [e] at hO
      cases hO
    | some k =>
      rw [e] at hO
      cases k <;> first | exact ⟨_, rfl, rfl, rfl⟩ | cases hO
  obtain ⟨k, k1, k2, k3⟩ := hk
  obtain ⟨p, y1, y2, y3⟩ := ok1.ow i k d0 k1 k2 h0
  have y1 : sv O H1 σ i = some (some (.ref _)) := y1
  rw [hx] at y1
  cases y1
  refine hs F1 H1 p d0 vs ds d d0' Q ok1.sub y2 y3 ra ho fun v o hc rv => ?_
  obtain ⟨z1, z2⟩ := ok1.chg (o := o) (d := d0') k1 k2 k3 h0 hx y2 hc
  exact q v F1 _ z1 (st1.trans z2) rv
theorem mut_pre {K : PySem.W.Frag} {T : String} {mop : D → List D → Option (D × D)} {ρ ρ' : En} {d : D} (h : mMut i T ma mop ρ = some (d, ρ')) :
    ∃ d1 ds ρ1 d0 z, ρ[i]? = some (some d1) ∧ isTy T d1 = true ∧ ma ρ = some (ds, ρ1) ∧ ρ1[i]? = some (some d0) ∧ mop d0 ds = some (d, z) ∧ ρ' = ρ1.set i (some z) := by
  obtain ⟨d1, e1, e2⟩ := slot_some h
  split at e2
  · rename_i ht
    obtain ⟨⟨ds, ρ1⟩, e3, e4⟩ := bind_some e2
    obtain ⟨d0, e5, e6⟩ := slot_some e4
    obtain ⟨⟨d2, z⟩, e7, e8⟩ := map_some e6
    cases e8
    exact ⟨d1, ds, ρ1, d0, z, e1, ht, e3, e5, e7, rfl⟩
  · cases e2
theorem e_mut (i : Nat) {name : Str} {rr : V → List V → Hp → VK → Prop} {mop : D → List D → Option (D × D)} (pa : PlainAttrs T) (slot : Slot T name id) (hty : typeOf (.builtin id) = pure (.type "method_descriptor")) (hmr : MtR X id rr) (hs : MSem X.K rr mop) (ho : PE X a (tE X.K O (mBr i) (.br i))) (ha : PA X (e :: es) (tA X.K O ma ks))
    (hO : mutK O[i]? = true := by rfl) (hks : allFz ks = true := by rfl) (hbase : attributeBase a name X.env (eval a X.env) = eval a X.env := by rfl)
    (hfew : ((backTo pos (starEach (e :: es) X.env)).all (fun x => !x.1) && (backToKw pos (keywordEach [] X.env)).all (fun x => x.1.isSome)
      && decide ((e :: es).length + ([] : List Keyword).length + (if ([] : List Keyword).isEmpty then 0 else 1) < 30)) = true := by rfl)
    (hline : (apos.endLine == pos.line) = true := by rfl) (hst : starEach (e :: es) X.env = (false, eval e X.env) :: starEach es X.env := by rfl) (hplain : (backTo pos (starEach es X.env)).any (·.1) = false := by rfl) :
    PE X (.Call (.Attribute a name apos) (e :: es) [] pos) (tE X.K O (mMut i T ma mop) .fz) := by
  refine PEi (pe_bm pa slot hty hmr ho ha hbase hfew hline hst hplain) fun σ H Q ⟨F, ρ, d, ρ', ok, hm, q⟩ => ?_
  obtain ⟨d1, ds, ρ1, d0, z, e1, ht, e3, e5, e7, rfl⟩ := mut_pre (K := X.K) hm
  refine ⟨F, ρ, .none, ρ, ok, by unfold mBr; rw [e1], fun v F1 H1 ok1 st1 r1 => ?_⟩
  obtain ⟨r1, k0, k1, k2⟩ := r1
  obtain ⟨p, y1, y2, y3⟩ := ok1.ow i k0 _ k1 k2 e1
  have y1 : sv O H1 σ i = some (some (.ref p)) := y1
  have r1 : sv O H1 σ i = some (some v) := r1
  rw [y1] at r1
  cases r1
  refine ⟨own_ty ht y3, F1, ρ, ds, ρ1, ok1, e3, fun vs F2 H2 ok2 st2 r2 => ?_⟩
  obtain ⟨ra, _⟩ := r2.fz hks
  exact mut_core hO hs (st1.trans st2) ok2 ((sv_same st2.ost).trans y1) e5 ra e7 q
theorem e_mut0 (i : Nat) {name : Str} {rr : V → List V → Hp → VK → Prop} {mop : D → List D → Option (D × D)} (pa : PlainAttrs T) (slot : Slot T name id) (hty : typeOf (.builtin id) = pure (.type "method_descriptor")) (hmr : MtR X id rr) (hs : MSem X.K rr mop) (ho : PE X a (tE X.K O (mBr i) (.br i)))
    (hO : mutK O[i]? = true := by rfl) (hbase : attributeBase a name X.env (eval a X.env) = eval a X.env := by rfl) (hline : (apos.endLine == pos.line) = true := by rfl) :
    PE X (.Call (.Attribute a name apos) [] [] pos) (tE X.K O (mMut i T maNil mop) .fz) := by
  refine PEi (pe_bm0 pa slot hty hmr ho hbase hline) fun σ H Q ⟨F, ρ, d, ρ', ok, hm, q⟩ => ?_
  obtain ⟨d1, ds, ρ1, d0, z, e1, ht, e3, e5, e7, rfl⟩ := mut_pre (K := X.K) hm
  cases e3
  refine ⟨F, ρ, .none, ρ, ok, by unfold mBr; rw [e1], fun v F1 H1 ok1 st1 r1 => ?_⟩
  obtain ⟨r1, k0, k1, k2⟩ := r1
  obtain ⟨p, y1, y2, y3⟩ := ok1.ow i k0 _ k1 k2 e1
  have y1 : sv O H1 σ i = some (some (.ref p)) := y1
  have r1 : sv O H1 σ i = some (some v) := r1
  rw [y1] at r1
  cases r1
  exact ⟨own_ty ht y3, mut_core (ds := []) (vs := []) hO hs st1 ok1 y1 e5 rfl e7 q⟩
def dAppend (d0 : D) (ds : List D) : Option (D × D) := match d0, ds with
  | .list xs, [d] => if xs.length < 1000000 then some (.none, .list (xs ++ [d])) else none
  | _, _ => none
theorem ms_append {K : PySem.W.Frag} : MSem K rAppend dAppend := by
  intro F H p d0 vs ds d d0' Q s hp ow ra ho q
  unfold dAppend at ho
  split at ho
  · rename_i xs y
    split at ho
    · rename_i hz
      cases ho
      obtain ⟨o, h1, us, rfl, h3⟩ := ow
      obtain ⟨v, rfl, rv⟩ := ra.one
      exact ⟨p, us, v, rfl, rfl, h1, by rw [h3.length]; exact Nat.lt_of_lt_of_le hz (by decide), q .non _ ⟨_, rfl, h3.append (.cons rv .nil)⟩ rfl⟩
    · cases ho
  · cases ho
def dInsert (d0 : D) (ds : List D) : Option (D × D) := match d0, ds with
  | .list xs, [.int i, d] => if xs.length < 1000000 ∧ 0 ≤ i ∧ i < 2 ^ 63 then some (.none, .list (xs.take i.toNat ++ [d] ++ xs.drop i.toNat)) else none
  | _, _ => none
theorem ms_insert {K : PySem.W.Frag} : MSem K (fun x vs H Q => ∃ (l : Addr) (xs : List V) (i : Int) (y : V), x = .ref l ∧ vs = [.int i, y] ∧ H l = some (.lst xs) ∧ xs.length < sizeLine ∧ 0 ≤ i ∧ i < 2 ^ 63 ∧ Q .non (upd H l (.lst (xs.take i.toNat ++ [y] ++ xs.drop i.toNat)))) dInsert := by
  intro F H p d0 vs ds d d0' Q s hp ow ra ho q
  unfold dInsert at ho
  split at ho
  · rename_i xs i y
    split at ho
    · rename_i hz
      cases ho
      obtain ⟨o, h1, us, rfl, h3⟩ := ow
      obtain ⟨u, v, rfl, ru, rv⟩ := ra.two
      have ru : u = .int i := ru
      subst ru
      exact ⟨p, us, i, v, rfl, rfl, h1, by rw [h3.length]; exact Nat.lt_of_lt_of_le hz.1 (by decide), hz.2.1, hz.2.2, q .non _ ⟨_, rfl, ((h3.take i.toNat).append (.cons rv .nil)).append (h3.drop i.toNat)⟩ rfl⟩
    · cases ho
  · cases ho
def dPop (d0 : D) (ds : List D) : Option (D × D) := match d0, ds with
  | .list xs, [] => (xs[xs.length - 1]?).map fun d => (d, .list xs.dropLast)
  | _, _ => none
theorem rpa_dropLast {K : PySem.W.Frag} {F : Hp} {ds : List D} {vs : List V} (r : RpA K F ds vs) : RpA K F ds.dropLast vs.dropLast := by
  rw [List.dropLast_eq_take, List.dropLast_eq_take, r.length]
  exact r.take _
theorem ms_pop {K : PySem.W.Frag} : MSem K rPop dPop := by
  intro F H p d0 vs ds d d0' Q s hp ow ra ho q
  unfold dPop at ho
  split at ho
  · rename_i xs
    obtain ⟨y, e1, e2⟩ := map_some ho
    cases e2
    obtain ⟨o, h1, us, rfl, h3⟩ := ow
    have ra : vs = [] := ra
    subst ra
    obtain ⟨v, g1, g2⟩ := h3.get e1
    exact ⟨p, us, v, rfl, rfl, h1, by rw [h3.length]; exact g1, q v _ ⟨_, rfl, rpa_dropLast h3⟩ g2⟩
  · cases ho
end
/-! ### a slot's list frozen for the rest of a block -/
def mFz (i : Nat) (m : MS) : MS := fun ρ => (m ρ).map fun p => (p.1, p.2.set i none)
end DL

/-! DLB: freezing for a block, more walked things, chains. -/
namespace DL
open PySem PySem.Spec PyProof.Rows L2

section
variable {X : Cx} {O L : List Kd} {e a b c : Expr} {es : List Expr} {ma : MA} {m mb mc : M} {ks : List Ak} {ka kb kc k : Ak} {x : Str} {p q pos apos : Pos} {i : Nat}
/-! ### a slot's list frozen for the rest of a block -/
theorem nl_set (n1 : hasO O = false) {k : Kd} (n2 : hasO (O.set i k) = false) : nl (O.set i k) = nl O := by
  rw [nl_no n1, nl_no n2, List.length_set]
theorem sv_set_no (n1 : hasO O = false) {k : Kd} (n2 : hasO (O.set i k) = false) {H : Hp} {σ : L2.St} {j : Nat} : sv (O.set i k) H σ j = sv O H σ j := by
  unfold sv
  rw [nl_set n1 n2, no_ats n1, no_ats n2]
  rfl
theorem ss_frz (i : Nat) {rest : List Stmt} {mm : MS} {r : Ak} (h : PSs X rest (tS X.K (O.set i .fz) mm r)) (hO : O[i]? = some Kd.ow := by rfl) (hr : ∀ j, r ≠ .br j := by exact fun _ z => by cases z) (n1 : hasO O = false := by rfl) (n2 : hasO (O.set i .fz) = false := by rfl) : PSs X rest (tS X.K O (mFz i mm) r) := by
  refine PSsi h fun Dn σ H ⟨F, ρ, fl, ρ', ok, hm, q⟩ => ?_
  obtain ⟨⟨f, ρ1⟩, e1, e2⟩ := map_some hm
  cases e2
  have hil : i < O.length := (List.getElem?_eq_some_iff.mp hO).1
  have getne : ∀ {j : Nat}, j ≠ i → (O.set i Kd.fz)[j]? = O[j]? := fun {j} h => List.getElem?_set_ne fun z => h z.symm
  have geti : (O.set i Kd.fz)[i]? = some Kd.fz := List.getElem?_set_self hil
  -- owners but the slot's own
  have sub : ∀ {F' H' : Hp} {σ' : L2.St} {ρ'' : En} {j : Nat} {pp : Addr}, OwnAt (O.set i .fz) ⟨F', H', σ', ρ''⟩ j pp → j ≠ i ∧ OwnAt O ⟨F', H', σ', ρ''⟩ j pp := fun {F' H' σ' ρ'' j pp} ⟨k, d, h1, h2, h3, h4⟩ => by
    have hj : j ≠ i := fun z => by
      subst z
      rw [geti] at h1
      cases h1
      cases h2
    exact ⟨hj, k, d, by rw [← getne hj]; exact h1, h2, h3, (sv_set_no n1 n2).symm.trans h4⟩
  have sup : ∀ {F' H' : Hp} {σ' : L2.St} {ρ'' : En} {j : Nat} {pp : Addr}, OwnAt O ⟨F', H', σ', ρ''.set i none⟩ j pp → OwnAt (O.set i .fz) ⟨F', H', σ', ρ''⟩ j pp := fun {F' H' σ' ρ'' j pp} h => by
    obtain ⟨⟨k, d, h1, h2, h3, h4⟩, hj⟩ := own_unset (F := F') (H := H') pp j h
    exact ⟨k, d, by rw [getne hj]; exact h1, h2, h3, (sv_set_no n1 n2).trans h4⟩
  -- the frozen heap
  have start : ∃ F1, Same F F1 ∧ Same F1 H ∧ (∀ bb, ¬ Fp O ⟨F, H, σ, ρ⟩ bb → F bb = none → F1 bb = none) ∧ (∀ j pp, j ≠ i → OwnAt O ⟨F, H, σ, ρ⟩ j pp → F1 pp = none) ∧ ∀ d, ρ[i]? = some (some d) → ∃ v, sv O H σ i = some (some v) ∧ Rp X.K F1 d v := by
    cases hd : ρ[i]? with
    | none => exact ⟨F, .refl _, ok.sub, fun _ _ z => z, fun j pp _ o => (ok.ownF ⟨j, o⟩).1, fun d z => by cases z⟩
    | some od =>
      cases od with
      | none => exact ⟨F, .refl _, ok.sub, fun _ _ z => z, fun j pp _ o => (ok.ownF ⟨j, o⟩).1, fun d z => by cases z⟩
      | some d =>
        obtain ⟨pp, g1, g2, o, g3, g4⟩ := ok.ow i _ d hO rfl hd
        have e' : Same F (upd F pp o) := fun bb u hb => by
          rw [upd_ne (ne_of_none hb g2)]
          exact hb
        have at_i : OwnAt O ⟨F, H, σ, ρ⟩ i pp := ⟨_, d, hO, rfl, hd, g1⟩
        refine ⟨upd F pp o, e', fun bb u hb => ?_, fun bb z f => ?_, fun j qq hj oo => ?_, fun d' z => ?_⟩
        · by_cases ee : bb = pp
          · subst ee
            rw [upd_same] at hb
            cases hb
            exact g3
          · rw [upd_ne ee] at hb
            exact ok.sub bb u hb
        · rw [upd_ne fun y => z (by rw [y]; exact ⟨i, at_i⟩)]
          exact f
        · rw [upd_ne fun y => hj (ok.ap j i pp (by rw [← y]; exact oo) at_i)]
          exact (ok.ownF ⟨j, oo⟩).1
        · cases z
          exact ⟨.ref pp, g1, (g4.mono e').rp upd_same⟩
  obtain ⟨F1, f1, f2, f3, f4, f5⟩ := start
  have ok1 : Ok X.K (O.set i .fz) ⟨F1, H, σ, ρ⟩ := by
    refine ⟨f2, by rw [nl_set n1 n2]; exact ok.ls, by rw [List.length_set]; exact ok.lr, fun j d h1 h2 => ?_, fun j k d h1 h2 h3 => ?_, fun j j' pp h1 h2 => ok.ap j j' pp (sub h1).2 (sub h2).2, fun e => by rw [n2] at e; cases e⟩
    · by_cases hj : j = i
      · subst hj
        obtain ⟨v, g1, g2⟩ := f5 d h2
        exact ⟨v, (sv_set_no n1 n2).trans g1, g2⟩
      · rw [getne hj] at h1
        obtain ⟨v, g1, g2⟩ := ok.fz j d h1 h2
        exact ⟨v, (sv_set_no n1 n2).trans g1, g2.mono f1⟩
    · by_cases hj : j = i
      · subst hj
        rw [geti] at h1
        cases h1
        cases h2
      · rw [getne hj] at h1
        obtain ⟨pp, g1, g2, g3⟩ := ok.ow j k d h1 h2 h3
        exact ⟨pp, (sv_set_no n1 n2).trans g1, f4 j pp hj ⟨k, d, h1, h2, h3, g1⟩, g3.mono f1 fun _ z => z⟩
  have fin : ∀ {σ' : L2.St} {F' H' : Hp}, Ok X.K (O.set i .fz) ⟨F', H', σ', ρ1⟩ → StpS (O.set i .fz) ⟨F1, H, σ, ρ⟩ ⟨F', H', σ', ρ1⟩ → Ok X.K O ⟨F', H', σ', ρ1.set i none⟩ ∧ StpS O ⟨F, H, σ, ρ⟩ ⟨F', H', σ', ρ1.set i none⟩ := fun {σ' F' H'} ok' st => by
    have fpn : ∀ {bb : Addr}, ¬ Fp O ⟨F, H, σ, ρ⟩ bb → ¬ Fp (O.set i .fz) ⟨F1, H, σ, ρ⟩ bb := fun {bb} z ⟨j, h⟩ => z ⟨j, (sub h).2⟩
    refine ⟨⟨ok'.sub, ?_, ?_, fun j d h1 h2 => ?_, fun j k d h1 h2 h3 => ?_, fun j j' pp h1 h2 => ok'.ap j j' pp (sup h1) (sup h2), fun e => by rw [n1] at e; cases e⟩,
      ⟨f1.trans st.ex, fun bb o h z _ => st.kp bb o h (fpn z) (fun e => by rw [n2] at e; cases e), fun bb o h z f => st.nw bb o h (fpn z) (f3 bb z f), fun bb ⟨j, h⟩ => ?_, fun j k h1 h2 => ?_, fun j k h1 h2 => ?_, fun j k pp d h1 h2 h3 h4 => ?_, fun e => by rw [n1] at e; cases e⟩⟩
    · have z : σ'.length = _ := ok'.ls
      rw [nl_set n1 n2] at z
      exact z
    · have z : ρ1.length = _ := ok'.lr
      rw [List.length_set] at z
      show (ρ1.set i none).length = _
      rw [List.length_set]
      exact z
    · rcases set_get (show (ρ1.set i none)[j]? = _ from h2) with ⟨_, y⟩ | ⟨y, y2⟩
      · cases y
      · obtain ⟨v, g1, g2⟩ := ok'.fz j d (by rw [getne fun z => y z.symm]; exact h1) y2
        exact ⟨v, (sv_set_no n1 n2).symm.trans g1, g2⟩
    · rcases set_get (show (ρ1.set i none)[j]? = _ from h3) with ⟨_, y⟩ | ⟨y, y2⟩
      · cases y
      · obtain ⟨v, g1, g2⟩ := ok'.ow j k d (by rw [getne fun z => y z.symm]; exact h1) h2 y2
        exact ⟨v, (sv_set_no n1 n2).symm.trans g1, g2⟩
    · rcases st.fp bb ⟨j, sup h⟩ with ⟨j', z⟩ | z
      · exact .inl ⟨j', (sub z).2⟩
      · exact .inr z
    · have hj : j ≠ i := fun z => by
        subst z
        rw [hO] at h1
        cases h1
        cases h2
      exact (sv_set_no n1 n2).symm.trans ((st.pn j k (by rw [getne hj]; exact h1) h2).trans (sv_set_no n1 n2))
    · have hj : j ≠ i := fun z => by
        subst z
        rw [hO] at h1
        cases h1
        cases h2
      show (ρ1.set i none)[j]? = _
      rw [List.getElem?_set_ne fun z => hj z.symm]
      exact st.lk j k (by rw [getne hj]; exact h1) h2
    · have hj : j ≠ i := fun z => by
        subst z
        rw [hO] at h1
        cases h1
        cases h2
      exact st.lo j k pp d (by rw [getne hj]; exact h1) h2 h3 ((sv_set_no n1 n2).trans h4)
  refine ⟨F1, ρ, f, ρ1, ok1, e1, ?_⟩
  cases f with
  | nx => exact fun σ' F' H' ok' st => q σ' F' H' (fin ok' st).1 (fin ok' st).2
  | bk => exact fun σ' F' H' ok' st => q σ' F' H' (fin ok' st).1 (fin ok' st).2
  | ct => exact fun σ' F' H' ok' st => q σ' F' H' (fin ok' st).1 (fin ok' st).2
  | rt d =>
    intro v σ' F' H' ok' st rs
    refine q v σ' F' H' (fin ok' st).1 (fin ok' st).2 ?_
    cases r with
    | fz => exact rs
    | ow =>
      obtain ⟨pp, ee, g1, g2, g3, g4, _⟩ := rs
      refine ⟨pp, ee, g1, g2, fun ⟨j, z⟩ => g3 ⟨j, sup z⟩, ?_, fun e => by rw [n1] at e; cases e⟩
      rcases g4 with ⟨j, z⟩ | z
      · exact .inl ⟨j, (sub z).2⟩
      · exact .inr z
    | br j => exact (hr j rfl).elim

/-! ### constants of the module -/
theorem e_glob {v : V} {u : Value} {d : D} (hm : X.mg x = some u) (r : RelV v u) (hd : ∀ F : Hp, Rp X.K F d v) (hg : Gl X x := by rfl) (h1 : (x == ("__debug__" : Str)) = false := by decide) : PE X (.Name x p) (tE X.K O (mC d) .fz) := e_const (pe_glob hg hm r h1) hd

/-! ### a < b < c -/
def mChain (f g : Int → Int → Bool) (ma mb mc : M) : M := fun ρ => (ma ρ).bind fun p => (mb p.2).bind fun q => match p.1, q.1 with
  | .int i, .int j => if f i j = true then (mc q.2).bind fun z => (match z.1 with
      | .int n => some (.bool (g j n), z.2)
      | _ => none)
    else some (.bool false, q.2)
  | _, _ => none
theorem chain_out {f g : Int → Int → Bool} {σ : L2.St} {H : Hp} {Q : VK} (h : tE X.K O (mChain f g m mb mc) .fz σ H Q) :
    tChain (rI0 fun i j => .bl (f i j)) (rI0 fun i j => .bl (g i j)) (tE X.K O m .fz) (tE X.K O mb .fz) (tE X.K O mc .fz) σ H Q := by
  obtain ⟨F, ρ, d, ρ', ok, hm, qq⟩ := h
  obtain ⟨⟨d1, ρ1⟩, e1, e2⟩ := bind_some hm
  obtain ⟨⟨d2, ρ2⟩, e3, e4⟩ := bind_some e2
  refine ⟨F, ρ, d1, ρ1, ok, e1, fun v F1 H1 ok1 st1 r1 => ⟨F1, ρ1, d2, ρ2, ok1, e3, fun u F2 H2 ok2 st2 r2 => ?_⟩⟩
  cases d1 <;> cases d2 <;> try (cases e4; done)
  rename_i i j
  dsimp only at e4
  have r1 : v = .int i := r1
  have r2 : u = .int j := r2
  subst r1 r2
  refine ⟨i, j, rfl, rfl, f i j, rfl, ?_⟩
  cases hf : f i j with
  | false =>
    rw [hf, if_neg Bool.false_ne_true] at e4
    cases e4
    rw [if_neg Bool.false_ne_true]
    exact qq _ F2 H2 ok2 (st1.trans st2) rfl
  | true =>
    rw [hf, if_pos rfl] at e4
    rw [if_pos rfl]
    obtain ⟨⟨d3, ρ3⟩, e5, e6⟩ := bind_some e4
    refine ⟨F2, ρ2, d3, ρ3, ok2, e5, fun t F3 H3 ok3 st3 r3 => ?_⟩
    cases d3 <;> try (cases e6; done)
    rename_i n
    cases e6
    have r3 : t = .int n := r3
    subst r3
    exact ⟨j, n, rfl, rfl, qq _ F3 H3 ok3 ((st1.trans st2).trans st3) rfl⟩
theorem e_chain {f g : Int → Int → Bool} {o1 o2 : CmpOp} (h1 : OpR X (compareOp o1) (rI0 fun i j => .bl (f i j))) (h2 : OpR X (compareOp o2) (rI0 fun i j => .bl (g i j))) (ha : PE X a (tE X.K O m .fz)) (hb : PE X b (tE X.K O mb .fz)) (hc : PE X c (tE X.K O mc .fz))
    (hm : lastMarks [o1, o2] [b, c] = false := by with_unfolding_all rfl) : PE X (.Compare a [o1, o2] [b, c] pos) (tE X.K O (mChain f g m mb mc) .fz) := PEi (pe_chain h1 h2 ha hb hc hm) fun _ _ _ h => chain_out h
theorem t_chain {f g : Int → Int → Bool} {o1 o2 : CmpOp} (h1 : OpR X (compareOp o1) (rI0 fun i j => .bl (f i j))) (h2 : OpR X (compareOp o2) (rI0 fun i j => .bl (g i j))) (ha : PE X a (tE X.K O m .fz)) (hb : PE X b (tE X.K O mb .fz)) (hc : PE X c (tE X.K O mc .fz))
    (hm : lastMarks [o1, o2] [b, c] = false := by with_unfolding_all rfl) : PT X (.Compare a [o1, o2] [b, c] pos) (tT X.K O (mTr (mChain f g m mb mc))) := PTi (pt_chain h1 h2 ha hb hc hm) fun _ _ _ h => chain_out (tTr h)

/-! ### zip, enumerate, range with a step -/
def zipD : List D → List D → List D
  | x :: xs, y :: ys => .tuple [x, y] :: zipD xs ys
  | _, _ => []
theorem zipD_len : ∀ {xs ys : List D}, (zipD xs ys).length = min xs.length ys.length
  | [], _ => by simp [zipD]
  | _ :: _, [] => by simp [zipD]
  | x :: xs, y :: ys => by
    show (zipD xs ys).length + 1 = _
    rw [zipD_len, List.length_cons, List.length_cons]
    omega
theorem zipD_get : ∀ {xs ys : List D} {i : Nat} {x y : D}, xs[i]? = some x → ys[i]? = some y → (zipD xs ys)[i]? = some (.tuple [x, y])
  | [], _, _, _, _, h, _ => by simp at h
  | _ :: _, [], _, _, _, _, h => by simp at h
  | a :: xs, b :: ys, 0, x, y, h, h' => by
    have h : a = x := by simpa using h
    have h' : b = y := by simpa using h'
    rw [h, h'] <;> rfl
  | a :: xs, b :: ys, i + 1, x, y, h, h' => by
    show (_ :: zipD xs ys)[i + 1]? = _
    rw [List.getElem?_cons_succ]
    exact zipD_get (by simpa using h) (by simpa using h')
theorem yd_pair {K : PySem.W.Frag} {F0 : Hp} {ds es : List D} {f g : Nat → Option V} (hf : ∀ {i v}, f i = some v → ∃ d, ds[i]? = some d ∧ Rp K F0 d v) (hg : ∀ {i v}, g i = some v → ∃ d, es[i]? = some d ∧ Rp K F0 d v) {i : Nat} {H : Hp} {x : V} {H' : Hp} (y : YPair f g i H x H') : YD K F0 (zipD ds es) i H x H' := fun F e s => by
  obtain ⟨T, u, v, rfl, hT, rfl, h1, h2⟩ := y
  obtain ⟨d1, g1, g2⟩ := hf h1
  obtain ⟨d2, g3, g4⟩ := hg h2
  have pu := Pur.frozen s hT (.tup [u, v])
  exact ⟨_, pu, _, zipD_get g1 g3, T, [u, v], rfl, .inl (.inl upd_same), .cons (g2.mono (e.trans pu.ex)) (.cons (g4.mono (e.trans pu.ex)) .nil)⟩
def mIt2 (ks : List Ak) (ma : MA) (f : List D → Option (List D)) : MI := fun ρ => (ma ρ).bind fun p => (fill ks p.1 p.2).bind fun ds => (f ds).map fun r => (r, p.2)
end
end DL

/-! DLC: zip, enumerate, range with a step; lists or tuples walked. -/
namespace DL
open PySem PySem.Spec PyProof.Rows L2

/-- slots lent among the arguments are locked in L -/
def lkArgs (L : List Kd) : List Ak → Bool
  | [] => true
  | .br i :: ks => (match L[i]? with
    | some k => k.lock
    | none => false) && lkArgs L ks
  | .fz :: ks => lkArgs L ks
  | .ow :: ks => lkArgs L ks
/-- a list or a tuple that stands through the loop -/
def Stands (K : PySem.W.Frag) (O L : List Kd) (w w1 : Wd) (d : D) (v : V) : Prop := match d with
  | .list ds => ∃ a xs, v = .ref a ∧ SqL K w1.H a xs ∧ RpA K w1.F ds xs ∧ ∀ Z, Zok O w Z → ∀ w2, Ok K L w2 → Stq L Z w1 w2 → SqL K w2.H a xs
  | .tuple ds => ∃ a xs, v = .ref a ∧ SqT K w1.H a xs ∧ RpA K w1.F ds xs ∧ ∀ Z, Zok O w Z → ∀ w2, Ok K L w2 → Stq L Z w1 w2 → SqT K w2.H a xs
  | _ => True
section
variable {K : PySem.W.Frag} {O L : List Kd} {w w1 : Wd}
theorem stands_fz {d : D} {v : V} (ok : Ok K O w1) (r : Rp K w1.F d v) : Stands K O L w w1 d v := by
  unfold Stands
  split
  · obtain ⟨a, xs, e, h1, h2⟩ := r
    exact ⟨a, xs, e, ok.sub.seq h1, h2, fun Z _ w2 ok2 st2 => ok2.sub.seq (st2.ex.seq h1)⟩
  · obtain ⟨a, xs, e, h1, h2⟩ := r
    exact ⟨a, xs, e, same_sqt ok.sub h1, h2, fun Z _ w2 ok2 st2 => same_sqt ok2.sub (same_sqt st2.ex h1)⟩
  · trivial
theorem stands_ow {d : D} {v : V} (hl : lkOf O L = true) (ok : Ok K O w1) (r : Rs K O w w1 .ow d v) : Stands K O L w w1 d v := by
  obtain ⟨p, rfl, h1, ⟨o, h2, h3⟩, h5, h6, h7⟩ := r
  unfold Stands
  split
  · obtain ⟨xs, rfl, h4⟩ := h3
    refine ⟨p, xs, rfl, .inl (.inl h2), h4, fun Z hz w2 ok2 st2 => .inl (.inl ((Stq.unlock (K := K) hl st2).kp p _ (fun z => ?_) h2 h5 h7).1)⟩
    obtain ⟨⟨u, z1⟩, _, z3, _⟩ := hz p z
    rcases h6 with h6 | h6
    · exact z3 h6
    · rw [h6] at z1
      cases z1
  · exact h3.elim
  · trivial
theorem stands_br {d : D} {v : V} {i : Nat} (hl : lkOf O L = true) (hL : lkArgs L [.br i] = true) (ok : Ok K O w1) (r : Rs K O w w1 (.br i) d v) {e : D} (he : w1.ρ[i]? = some (some e)) : Stands K O L w w1 e v := by
  obtain ⟨r1, q, r2, r3⟩ := r
  obtain ⟨p, e1, e2, o, e3, e4⟩ := ok.ow i q e r2 r3 he
  rw [e1] at r1
  cases r1
  have hk : ∃ k : Kd, L[i]? = some k ∧ k.lock = true := by
    have z : ((match L[i]? with | some k => k.lock | none => false) && true) = true := hL
    cases y : L[i]? with
    | none =>
      rw [y] at z
      cases z
    | some k =>
      rw [y] at z
      exact ⟨k, rfl, (Bool.and_eq_true_iff.mp z).1⟩
  obtain ⟨k, k1, k2⟩ := hk
  unfold Stands
  split
  · obtain ⟨xs, rfl, h4⟩ := e4
    refine ⟨p, xs, rfl, .inl (.inl e3), h4, fun Z _ w2 ok2 st2 => .inl (.inl ?_)⟩
    rw [st2.lo i k p _ k1 k2 he ((lk_sv hl).trans e1)]
    exact e3
  · exact e4.elim
  · trivial
def StandsA (K : PySem.W.Frag) (O L : List Kd) (w w1 : Wd) : List D → List V → Prop
  | [], vs => vs = []
  | d :: ds, vs => ∃ v r, vs = v :: r ∧ Stands K O L w w1 d v ∧ StandsA K O L w w1 ds r
theorem Rss.stands (hl : lkOf O L = true) (ok : Ok K O w1) : ∀ {ks : List Ak} {ds : List D} {vs : List V} {es : List D}, lkArgs L ks = true → Rss K O w w1 ks ds vs → fill ks ds w1.ρ = some es → StandsA K O L w w1 es vs
  | [], _, _, _, _, ⟨h1, h2⟩, hf => by
    subst h1 h2
    cases hf
    rfl
  | .br i :: ks, _, _, _, hk, ⟨d, ds', v, vs', h1, h2, h3, h4⟩, hf => by
    subst h1 h2
    obtain ⟨d', e1, e2⟩ := slot_some hf
    obtain ⟨es', e3, e4⟩ := map_some e2
    subst e4
    obtain ⟨k1, k2⟩ := Bool.and_eq_true_iff.mp (show (_ && lkArgs L ks) = true from hk)
    exact ⟨v, vs', rfl, stands_br hl (Bool.and_eq_true_iff.mpr ⟨k1, rfl⟩) ok h3 e1, h4.stands hl ok k2 e3⟩
  | .fz :: ks, _, _, _, hk, ⟨d, ds', v, vs', h1, h2, h3, h4⟩, hf => by
    subst h1 h2
    obtain ⟨es', e3, e4⟩ := map_some hf
    subst e4
    exact ⟨v, vs', rfl, stands_fz ok h3, Rss.stands hl ok (ks := ks) hk h4 e3⟩
  | .ow :: ks, _, _, _, hk, ⟨d, ds', v, vs', h1, h2, h3, h4⟩, hf => by
    subst h1 h2
    obtain ⟨es', e3, e4⟩ := map_some hf
    subst e4
    exact ⟨v, vs', rfl, stands_ow hl ok h3, Rss.stands hl ok (ks := ks) hk h4 e3⟩
end
section
variable {X : Cx} {O L : List Kd} {tg e e2 : Expr} {ma : MA} {m : M} {ks : List Ak} {p pos tpos : Pos} {elts : List Expr} {kk : Nat}
/-! ### a list or a tuple -/
def mItS (m : M) : MI := fun ρ => (m ρ).bind fun p => match p.1 with
  | .list ds => some (ds, p.2)
  | .tuple ds => some (ds, p.2)
  | _ => none
theorem PI.or {w w' : TI} (h : PI X tg e w) (h' : PI X tg e w') : PI X tg e (fun σ H R => w σ H R ∨ w' σ H R) := ⟨fun pins s σ H R I q => by
  rcases q with q | q
  · exact h.run pins s σ H R I q
  · exact h'.run pins s σ H R I q⟩
theorem i_seq (h : PE X e (tE X.K O m .fz)) : PI X tg e (tI X.K O L (mItS m)) := by
  refine PIi (PI.or (i_list (L := L) h) (i_tup (L := L) h)) fun σ H R ⟨F, ρ, ds, ρ', ok, hm, q⟩ => ?_
  obtain ⟨⟨d, ρ1⟩, e1, e3⟩ := bind_some hm
  cases d <;> cases e3
  · exact .inl ⟨F, ρ, _, ρ1, ok, by unfold mItL; rw [e1]; rfl, q⟩
  · exact .inr ⟨F, ρ, _, ρ1, ok, by unfold mItT; rw [e1]; rfl, q⟩
/-! ### zip -/
def dZip : List D → Option (List D)
  | [.list xs, .list ys] => some (zipD xs ys)
  | [.tuple xs, .tuple ys] => some (zipD xs ys)
  | _ => none
theorem i_zip (hm : X.mg "zip" = none) (ha : PA X [e, e2] (tA X.K O ma ks)) (hk : lkArgs L ks = true := by rfl) (hl : lkOf O L = true := by rfl) (hg : Gl X "zip" := by rfl) (hs : starEach [e, e2] X.env = (false, eval e X.env) :: starEach [e2] X.env := by rfl) (hpl : (backTo pos (starEach [e2] X.env)).any (·.1) = false := by rfl) :
    PI X (.Tuple elts kk tpos) (.Call (.Name "zip" p) [e, e2] [] pos) (tI X.K O L (mIt2 ks ma dZip)) := by
  refine PIi (RZ.pi_zipA hg hm ha hs hpl) fun σ H R ⟨F, ρ, ds, ρ', ok, hmm, q⟩ => ?_
  obtain ⟨⟨as, ρ1⟩, e1, e3⟩ := bind_some hmm
  obtain ⟨es, e4, e5⟩ := bind_some e3
  obtain ⟨ds', e6, e7⟩ := map_some e5
  cases e7
  refine ⟨F, ρ, as, ρ1, ok, e1, fun vs F1 H1 ok1 st1 r1 => ?_⟩
  have sa := r1.stands hl ok1 hk e4
  unfold dZip at e6
  split at e6
  · rename_i xs ys
    cases e6
    obtain ⟨v, r, rfl, ⟨a, us, rfl, a1, a2, a3⟩, v2, r2, rfl, ⟨b, ws, rfl, b1, b2, b3⟩, rfl⟩ := sa
    refine ⟨a, b, us, ws, rfl, .inl ⟨a1, b1, q _ F1 H1 _ ok1 st1 ((walk_zip (n := (zipD xs ys).length) (by rw [zipD_len, a2.length, b2.length])).mono (fun _ h => h) fun i H2 x H3 _ _ y => yd_pair (fun {i v} h => a2.getV h) (fun {i v} h => b2.getV h) y) fun Z hz w2 ok2 st2 => ⟨a3 Z hz w2 ok2 st2, b3 Z hz w2 ok2 st2⟩⟩⟩
  · rename_i xs ys
    cases e6
    obtain ⟨v, r, rfl, ⟨a, us, rfl, a1, a2, a3⟩, v2, r2, rfl, ⟨b, ws, rfl, b1, b2, b3⟩, rfl⟩ := sa
    refine ⟨a, b, us, ws, rfl, .inr ⟨a1, b1, q _ F1 H1 (fun H => SqT X.K H a us ∧ SqT X.K H b ws) ok1 st1 ⟨fun i H2 hi ⟨g1, g2⟩ => ?_, fun H2 ⟨g1, g2⟩ => ⟨us, ws, g1, g2, ?_⟩, fun i H2 x H3 hi ⟨g1, g2⟩ y => ?_⟩ fun Z hz w2 ok2 st2 => ⟨a3 Z hz w2 ok2 st2, b3 Z hz w2 ok2 st2⟩⟩⟩
    · rw [zipD_len] at hi
      have h1 : i < us.length := by rw [a2.length]; omega
      have h2 : i < ws.length := by rw [b2.length]; omega
      exact ⟨us, ws, us[i], ws[i], g1, g2, List.getElem?_eq_getElem h1, List.getElem?_eq_getElem h2⟩
    · rw [zipD_len, a2.length, b2.length]
      omega
    · obtain ⟨T, u, t, y1, y2, y3, y4, y5⟩ := y
      exact yd_pair (fun {i v} h => a2.getV h) (fun {i v} h => b2.getV h) ⟨T, u, t, y1, y2, y3, y4 us g1, y5 ws g2⟩
  · cases e6
/-! ### enumerate -/
def enumD (ds : List D) : List D := zipD ((List.range ds.length).map fun (i : Nat) => PyData.int (i : Int)) ds
def dEnum : List D → Option (List D)
  | [.list xs] => some (enumD xs)
  | _ => none
theorem i_enum (hm : X.mg "enumerate" = none) (ha : PA X [e] (tA X.K O ma ks)) (hk : lkArgs L ks = true := by rfl) (hl : lkOf O L = true := by rfl) (hg : Gl X "enumerate" := by rfl) (hs : starEach [e] X.env = [(false, eval e X.env)] := by rfl) :
    PI X (.Tuple elts kk tpos) (.Call (.Name "enumerate" p) [e] [] pos) (tI X.K O L (mIt2 ks ma dEnum)) := by
  refine PIi (pi_enum hg hm ha hs) fun σ H R ⟨F, ρ, ds, ρ', ok, hmm, q⟩ => ?_
  obtain ⟨⟨as, ρ1⟩, e1, e3⟩ := bind_some hmm
  obtain ⟨es, e4, e5⟩ := bind_some e3
  obtain ⟨ds', e6, e7⟩ := map_some e5
  cases e7
  refine ⟨F, ρ, as, ρ1, ok, e1, fun vs F1 H1 ok1 st1 r1 => ?_⟩
  have sa := r1.stands hl ok1 hk e4
  unfold dEnum at e6
  split at e6
  · rename_i xs
    cases e6
    obtain ⟨v, r, rfl, ⟨a, us, rfl, a1, a2, a3⟩, rfl⟩ := sa
    have hlen : (enumD xs).length = us.length := by
      unfold enumD
      rw [zipD_len, List.length_map, List.length_range, a2.length]
      omega
    refine ⟨a, us, rfl, a1, q _ F1 H1 (fun H => SqL X.K H a us) ok1 st1 ?_ fun Z hz w2 ok2 st2 => a3 Z hz w2 ok2 st2⟩
    rw [hlen]
    refine ⟨walk_enum.goes, walk_enum.stops, fun i H2 x H3 hi g y => ?_⟩
    have y := walk_enum.yields i H2 x H3 hi g y
    obtain ⟨T, u, t, y1, y2, y3, y4, y5⟩ := y
    have hi2 : i < xs.length := by rw [← a2.length]; exact hi
    refine yd_pair (f := fun j => if j < xs.length then some (V.int (j : Nat)) else none) (g := fun j => us[j]?) (fun {j v} h => ?_) (fun {j v} h => a2.getV h) ⟨T, u, t, y1, y2, y3, ?_, y5⟩
    · split at h
      · rename_i hj
        cases h
        exact ⟨.int (j : Nat), by rw [List.getElem?_map, List.getElem?_range hj]; rfl, rfl⟩
      · cases h
    · show (if i < xs.length then some (V.int (i : Nat)) else none) = some u
      rw [if_pos hi2]
      exact y4
  · cases e6
/-! ### range with a step -/
def dRngC (lo c : Int) (n : Nat) : List D := (List.range n).map fun (i : Nat) => PyData.int (lo + (i : Int) * c)
theorem dRngC_len {lo c : Int} {n : Nat} : (dRngC lo c n).length = n := by
  unfold dRngC
  rw [List.length_map, List.length_range]
def rngN (i j c : Int) : Nat := (Builtin.Range.rangeSize i j c).toNat
def rngOk (i j c : Int) : Bool := decide (c ≠ 0 ∧ c.natAbs < 1073741824) && (Builtin.Range.small i j c && decide (Builtin.Range.rangeSize i j c = (rngN i j c : Int)))
def mRng3 (ma : MA) : MI := fun ρ => (ma ρ).bind fun p => match p.1 with
  | [.int i, .int j, .int c] => if rngOk i j c = true then some (dRngC i c (rngN i j c), p.2) else none
  | _ => none
theorem i_rng3 {a b c : Expr} (hm : X.mg "range" = none) (ha : PA X [a, b, c] (tA X.K O ma [.fz, .fz, .fz])) (hg : Gl X "range" := by rfl) (hs : starEach [a, b, c] X.env = (false, eval a X.env) :: starEach [b, c] X.env := by rfl) (hpl : (backTo pos (starEach [b, c] X.env)).any (·.1) = false := by rfl) :
    PI X tg (.Call (.Name "range" p) [a, b, c] [] pos) (tI X.K O L (mRng3 ma)) := by
  refine PIi (pi_range3 hg hm ha hs hpl) fun σ H R ⟨F, ρ, ds, ρ', ok, hm, q⟩ => ?_
  obtain ⟨⟨as, ρ1⟩, e1, e2⟩ := bind_some hm
  refine ⟨F, ρ, as, ρ1, ok, e1, fun vs F1 H1 ok1 st1 r1 => ?_⟩
  dsimp only at e2
  split at e2
  · rename_i i j c
    split at e2
    · rename_i hj
      cases e2
      obtain ⟨h1, h2⟩ := Bool.and_eq_true_iff.mp hj
      obtain ⟨h2, h3⟩ := Bool.and_eq_true_iff.mp h2
      have h1 := of_decide_eq_true h1
      have h3 := of_decide_eq_true h3
      obtain ⟨r, _⟩ := r1.fz rfl
      obtain ⟨v, vs', rfl, hv, r'⟩ := r
      obtain ⟨u, t, rfl, hu, ht⟩ := RpA.two r'
      have hv : v = .int i := hv
      have hu : u = .int j := hu
      have ht : t = .int c := ht
      subst hv hu ht
      refine ⟨i, j, c, rngN i j c, rfl, ⟨h1.1, h1.2, h2, h3⟩, q _ F1 H1 (fun _ => True) ok1 st1 ?_ fun _ _ _ _ _ => trivial⟩
      rw [dRngC_len]
      refine ⟨walk_rangeC.goes, walk_rangeC.stops, fun i' H2 x H3 hi g y F e s => ?_⟩
      obtain ⟨rfl, rfl⟩ := walk_rangeC.yields i' H2 x H3 hi g y
      refine ⟨F, .refl s, .int (i + (i' : Int) * c), ?_, rfl⟩
      unfold dRngC
      rw [List.getElem?_map, List.getElem?_range hi]
      rfl
    · cases e2
  · cases e2
end
end DL

/-! DLD: what the printed texts lean on: built-in names, defs by names, small constants. -/
namespace DL
open PySem PySem.Spec PyProof.Rows L2

/-- built-in names that the module leaves as they are -/
def bltNames : List Str := ["len", "isinstance", "int", "bool", "str", "list", "tuple", "dict", "set", "range", "zip", "enumerate", "all", "any", "max", "min", "abs", "sorted", "sum", "reversed"]
structure Bt (mg : Str → Option Value) : Prop where
  no : ∀ x, x ∈ bltNames → mg x = none
section
variable {mg : Str → Option Value} (B : Bt mg)
theorem Bt.len (B : Bt mg) : mg "len" = none := B.no _ (by decide +kernel)
theorem Bt.isinstance (B : Bt mg) : mg "isinstance" = none := B.no _ (by decide +kernel)
theorem Bt.int (B : Bt mg) : mg "int" = none := B.no _ (by decide +kernel)
theorem Bt.bool (B : Bt mg) : mg "bool" = none := B.no _ (by decide +kernel)
theorem Bt.str (B : Bt mg) : mg "str" = none := B.no _ (by decide +kernel)
theorem Bt.list (B : Bt mg) : mg "list" = none := B.no _ (by decide +kernel)
theorem Bt.tuple (B : Bt mg) : mg "tuple" = none := B.no _ (by decide +kernel)
theorem Bt.dict (B : Bt mg) : mg "dict" = none := B.no _ (by decide +kernel)
theorem Bt.set (B : Bt mg) : mg "set" = none := B.no _ (by decide +kernel)
theorem Bt.range (B : Bt mg) : mg "range" = none := B.no _ (by decide +kernel)
theorem Bt.zip (B : Bt mg) : mg "zip" = none := B.no _ (by decide +kernel)
theorem Bt.enumerate (B : Bt mg) : mg "enumerate" = none := B.no _ (by decide +kernel)
theorem Bt.all (B : Bt mg) : mg "all" = none := B.no _ (by decide +kernel)
theorem Bt.any (B : Bt mg) : mg "any" = none := B.no _ (by decide +kernel)
theorem Bt.max (B : Bt mg) : mg "max" = none := B.no _ (by decide +kernel)
theorem Bt.min (B : Bt mg) : mg "min" = none := B.no _ (by decide +kernel)
theorem Bt.abs (B : Bt mg) : mg "abs" = none := B.no _ (by decide +kernel)
theorem Bt.sorted (B : Bt mg) : mg "sorted" = none := B.no _ (by decide +kernel)
end
/-- a def of the module, by its name -/
structure FnX (P : Program) (w : World) (K : PySem.W.Frag) (mg : Str → Option Value) (base : Heap) (x : Str) (k : Nat) (ps : List Str) (sp : Sp) : Prop where
  ex : ∃ (f : Addr) (fd : FuncData), FnG P w K mg base CX0 k f fd ps sp ∧ mg x = some (.ref f) ∧ PySem.W.keepIn K (.ref f) = true ∧ Binds K fd ps []
section
variable {X : Cx} {O Oi L : List Kd} {mf : En → Option (D × En)} {r ka kb : Ak} {x : Str} {p pos : Pos} {e a b : Expr} {es : List Expr} {ma : MA} {m mb : M} {ks : List Ak} {j k : Nat} {ps : List Str} {op : List D → Option D}
theorem e_callX (h : FnX X.prog X.w X.K X.mg X.base x k ps (spF X.K Oi mf r)) (hgd : X.A.guards = some []) (hr : Room j X.A) (ha : PA X (e :: es) (tA X.K O ma ks)) (hj : k ≤ j := by decide) (hs : sigOk O ks Oi = true := by rfl) (hln : ks.length + 0 = Oi.length := by rfl) (hnl : noLk Oi = true := by rfl) (n1 : hasO Oi = false := by rfl) (hrr : ∀ i, r ≠ .br i := by exact fun _ z => by cases z)
    (hg : Gl X x := by rfl) (hdb : (x == ("__debug__" : Str)) = false := by decide) (he : starEach (e :: es) X.env = (false, eval e X.env) :: starEach es X.env := by rfl) (hpl : (backTo pos (starEach es X.env)).any (·.1) = false := by rfl) :
    PE X (.Call (.Name x p) (e :: es) [] pos) (tE X.K O (mCall mf ks [] ma) r) := by
  obtain ⟨f, fd, G, h1, h2, h3⟩ := h.ex
  exact e_call G hgd (hr.mono hj) h1 h2 h3 ha hs hln hnl n1 hrr hg hdb he hpl
theorem e_gint {n : Int} (h : ∃ t, X.mg x = some (.int n t)) (hg : Gl X x := by rfl) (h1 : (x == ("__debug__" : Str)) = false := by decide) : PE X (.Name x p) (tE X.K O (mC (.int n)) .fz) := by
  obtain ⟨t, h⟩ := h
  exact e_glob (v := V.int n) h ⟨t, rfl⟩ (fun _ => rfl) hg h1
theorem e_gstr {z : Str} (h : ∃ t, X.mg x = some (.str z t)) (hg : Gl X x := by rfl) (h1 : (x == ("__debug__" : Str)) = false := by decide) : PE X (.Name x p) (tE X.K O (mC (.str z)) .fz) := by
  obtain ⟨t, h⟩ := h
  exact e_glob (v := V.str z) h ⟨t, rfl⟩ (fun _ => rfl) hg h1
/-! ### short forms -/
def dNeg : List D → Option D
  | [.int i] => some (.int (-i))
  | _ => none
theorem s_neg {K : PySem.W.Frag} : LSem K (rL1 (rU fun i => .int (-i))) dNeg .fz := by
  intro F H ds vs d Q s hv ho q
  unfold dNeg at ho
  split at ho
  · cases ho
    obtain ⟨v, rfl, h1⟩ := hv.one
    exact ⟨v, rfl, _, h1, q.now s rfl⟩
  · cases ho
theorem e_len (B : Bt X.mg) (ha : PA X [a] (tA X.K O ma ks)) (hg : Gl X "len" := by rfl) (he : starEach [a] X.env = (false, eval a X.env) :: starEach [] X.env := by rfl) (hpl : (backTo pos (starEach [] X.env)).any (·.1) = false := by rfl) : PE X (.Call (.Name "len" p) [a] [] pos) (tE X.K O (mOp ks ma dLen) .fz) :=
  e_blt call_len s_len B.len boot_len ha hg (by decide) (by decide) he hpl
theorem e_all (B : Bt X.mg) (hc : X.calm = true) (ha : PA X [a] (tA X.K O ma ks)) (hg : Gl X "all" := by rfl) (he : starEach [a] X.env = (false, eval a X.env) :: starEach [] X.env := by rfl) (hpl : (backTo pos (starEach [] X.env)).any (·.1) = false := by rfl) : PE X (.Call (.Name "all" p) [a] [] pos) (tE X.K O (mOp ks ma dAll) .fz) :=
  e_blt (cr_all hc) s_all B.all (by decide +kernel) ha hg (by decide) (by decide) he hpl
theorem e_any (B : Bt X.mg) (hc : X.calm = true) (ha : PA X [a] (tA X.K O ma ks)) (hg : Gl X "any" := by rfl) (he : starEach [a] X.env = (false, eval a X.env) :: starEach [] X.env := by rfl) (hpl : (backTo pos (starEach [] X.env)).any (·.1) = false := by rfl) : PE X (.Call (.Name "any" p) [a] [] pos) (tE X.K O (mOp ks ma dAny) .fz) :=
  e_blt (cr_any hc) s_any B.any (by decide +kernel) ha hg (by decide) (by decide) he hpl
theorem e_list (B : Bt X.mg) (ha : PA X [a] (tA X.K O ma ks)) (hg : Gl X "list" := by rfl) (he : starEach [a] X.env = (false, eval a X.env) :: starEach [] X.env := by rfl) (hpl : (backTo pos (starEach [] X.env)).any (·.1) = false := by rfl) : PE X (.Call (.Name "list" p) [a] [] pos) (tE X.K O (mOp ks ma dList) .ow) :=
  e_bty call_list_of s_list B.list (by decide +kernel) ha hg (by decide) (by decide) he hpl
theorem e_tuple (B : Bt X.mg) (ha : PA X [a] (tA X.K O ma ks)) (hg : Gl X "tuple" := by rfl) (he : starEach [a] X.env = (false, eval a X.env) :: starEach [] X.env := by rfl) (hpl : (backTo pos (starEach [] X.env)).any (·.1) = false := by rfl) : PE X (.Call (.Name "tuple" p) [a] [] pos) (tE X.K O (mOp ks ma dTuple) .fz) :=
  e_bty call_tuple_of s_tuple B.tuple (by decide +kernel) ha hg (by decide) (by decide) he hpl
end
end DL

/-! DLZ: zip of a tuple and a list. -/
namespace DL
open PySem PySem.Spec PyProof.Rows L2
section
variable {prog : Program} {w : World} {A : Around} {E : Value → Shared → Prop} {s : Shared}
/-- the zip at z over a tuple's and a list's iterator -/
structure MZip (h : Heap) (z p q i j a b : Addr) (m n : Nat) (f0 u v : Value) : Prop where
  zip : IsZip h z p q f0
  its : IsPair h p (.ref i) (.ref j)
  out : IsPair h q u v
  fst : h.IsTupleIter i a m
  snd : h.IsListIter j b n
theorem ztl_item {z p q i j a b : Addr} {m n : Nat} {xs ys : Array Value} {x y u v : Value} {Q : Value → Shared → Prop} (D : ZipApart z p q i j a b) (M : MZip s.heap z p q i j a b m n .none u v)
    (ha : s.heap.IsTuple a xs) (hb : s.heap.IsList b ys) (hx : xs[m]? = some x) (hy : ys[n]? = some y)
    (hQ : ∀ g, MZip g z p q i j a b (m + 1) (n + 1) (rawInt s.heap.objs.size) x y → IsPair g s.heap.objs.size x y → (∀ c o, c ≠ z → c ≠ q → c ≠ i → c ≠ j → s.heap.get? c = some o → g.get? c = some o) → Q (.ref s.heap.objs.size) { s with heap := g }) :
    wpAny (model prog w) A (Builtin.«zip.__next__» ⟨[.ref z], []⟩) (fun fin t => ∃ r, fin = .done (.ret r) ∧ Q r t) E s := by
  obtain ⟨M1, M2, M3, M4, M5⟩ := M
  show wpAny _ _ (field (.ref z) 2 >>= _) _ _ _
  refine wpAny_bind (wpAny_field M1 rfl (x := .bool false) rfl ?_); show wpAny _ _ (field (.ref z) 3 >>= _) _ _ _
  refine wpAny_bind (wpAny_field M1 rfl (x := .ref p) rfl (wpAny_bind (wpAny_seqItems M2 rfl ?_)))
  show wpAny _ _ (Builtin.SmallTypes.ownedTupleIsFree (.ref z) >>= _) _ _ _; refine wpAny_bind ?_; unfold Builtin.SmallTypes.ownedTupleIsFree
  refine wpAny_bind (wpAny_field M1 rfl (x := .none) rfl (wpAny_pure ?_)); simp only [if_true]
  refine wpAny_bind (wpAny_rule (wpAny_bind (wpAny_field M1 rfl (x := .ref q) rfl (wpAny_bind (wpAny_setField_rec M1 (by simp) fun g1 z1 b1 => ?_)))))
  have z1 : IsZip g1 z p q .ellipsis := z1; refine wpAny_bind ?_; simp only [List.zipIdx_cons, List.zipIdx_nil, List.forIn_cons, List.forIn_nil]
  refine wpAny_bind (wpAny_bind (wpAny_onRaise ?_)); show wpAny _ _ (Builtin.SmallTypes.nextOf (.ref i) >>= _) _ _ _
  refine wpAny_bind (RZ.nextOf_tuple_item (M4.extBut b1.extBut D.i1z) (ha.extBut b1.extBut D.l1z) hx fun g2 i2 b2 => wpAny_pure ?_)
  have o2 : IsPair g2 q u v := b2.extBut _ _ D.TOi1 (b1.extBut _ _ D.TOz M3)
  refine wpAny_bind (wpAny_seqItems o2 rfl (wpAny_bind (wpAny_updateSeq_pair o2 fun g3 o3 b3 => wpAny_bind (wpAny_letGo (wpAny_pure ?_)))))
  have o3 : IsPair g3 q x v := o3; refine wpAny_bind (wpAny_bind (wpAny_onRaise ?_)); show wpAny _ _ (Builtin.SmallTypes.nextOf (.ref j) >>= _) _ _ _
  have bb : ∀ c o, c ≠ z → c ≠ i → c ≠ q → s.heap.get? c = some o → g3.get? c = some o := fun c o c1 c2 c3 e => b3.extBut _ _ c3 (b2.extBut _ _ c2 (b1.extBut _ _ c1 e))
  have j3 : g3.IsListIter j b n := ((M5.extBut b1.extBut D.i2z).extBut b2.extBut D.i12.symm).extBut b3.extBut D.TOi2.symm
  have l3 : g3.IsList b ys := ((hb.extBut b1.extBut D.l2z).extBut b2.extBut D.l2i1).extBut b3.extBut D.l2TO
  refine wpAny_bind (wpAny_nextOf_list_item j3 l3 hy fun g4 j4 b4 => wpAny_pure ?_)
  have o4 : IsPair g4 q x v := b4.extBut _ _ D.TOi2 o3
  refine wpAny_bind (wpAny_seqItems o4 rfl (wpAny_bind (wpAny_updateSeq_pair o4 fun g5 o5 b5 => wpAny_bind (wpAny_letGo (wpAny_pure (wpAny_pure ?_))))))
  have o5 : IsPair g5 q x y := o5; refine wpAny_bind (wpAny_seqItems o5 rfl (wpAny_bind (wpAny_newTuple ?_)))
  have n5 : g5.objs.size = s.heap.objs.size := by rw [b5.1, b4.1, b3.1, b2.1, b1.1]
  have z5 : IsZip g5 z p q .ellipsis := b5.extBut _ _ D.TOz.symm (b4.extBut _ _ D.i2z.symm (b3.extBut _ _ D.TOz.symm (b2.extBut _ _ D.i1z.symm z1)))
  have k5 : ∀ c o, c ≠ z → c ≠ q → c ≠ i → c ≠ j → s.heap.get? c = some o → g5.get? c = some o := fun c o c1 c2 c3 c4 e => b5.extBut _ _ c2 (b4.extBut _ _ c4 (bb c o c1 c3 c2 e))
  have i5 : g5.IsTupleIter i a (m + 1) := ((i2.extBut b3.extBut D.TOi1.symm).extBut b4.extBut D.i12).extBut b5.extBut D.TOi1.symm
  have j5 : g5.IsListIter j b (n + 1) := j4.extBut b5.extBut D.TOi2.symm
  have zl : z < g5.objs.size := Heap.lt_size z5
  show wpAny _ _ (Builtin.SmallTypes.ownedTupleHandOut (.ref z) (.ref g5.objs.size) >>= _) _ _ _; refine wpAny_bind ?_; unfold Builtin.SmallTypes.ownedTupleHandOut
  have z6 : IsZip (g5.push { cls := .type "tuple", data := .seq #[x, y] }) z p q .ellipsis := Heap.get?_push_of_some _ z5
  refine wpAny_bind (wpAny_setField_rec z6 (by simp) fun g7 z7 b7 => ?_)
  have z7 : IsZip g7 z p q (rawInt g5.objs.size) := z7; refine wpAny_setField_rec z7 (by simp) fun g8 z8 b8 => ?_
  have z8 : IsZip g8 z p q (rawInt g5.objs.size) := z8
  have up : ∀ c o, c ≠ z → g5.get? c = some o → g8.get? c = some o := fun c o c1 e => b8.extBut _ _ c1 (b7.extBut _ _ c1 (Heap.get?_push_of_some _ e))
  have t8 : IsPair g8 g5.objs.size x y := b8.extBut _ _ (Nat.ne_of_gt zl) (b7.extBut _ _ (Nat.ne_of_gt zl) (Heap.get?_push_size _ rfl))
  rw [n5] at z8 t8; refine wpAny_pure ⟨_, rfl, ?_⟩; show Q (.ref g5.objs.size) _
  rw [n5]
  have p5 : IsPair g8 p (.ref i) (.ref j) := up _ _ D.TIz (k5 _ _ D.TIz D.TITO D.TIi1 D.TIi2 M2)
  exact hQ g8 ⟨z8, p5, up _ _ D.TOz o5, i5.at fun o e => up _ o D.i1z e, j5.at fun o e => up _ o D.i2z e⟩ t8 fun c o c1 c2 c3 c4 e => up c o c1 (k5 c o c1 c2 c3 c4 e)
theorem ztl_end {z p q i j a b : Addr} {m n : Nat} {xs ys : Array Value} {u v : Value} {Q : Fin → Shared → Prop} (hh : A.handled = none) (D : ZipApart z p q i j a b) (M : MZip s.heap z p q i j a b m n .none u v)
    (ha : s.heap.IsTuple a xs) (hb : s.heap.IsList b ys) (he : xs[m]? = none ∨ ys[n]? = none)
    (hE : ∀ g e, (∀ c o, c ≠ z → c ≠ q → c ≠ i → c ≠ j → s.heap.get? c = some o → g.get? c = some o) → (∃ o, g.get? e = some o ∧ o.cls = .type "StopIteration") → E (.ref e) { s with heap := g }) :
    wpAny (model prog w) A (Builtin.«zip.__next__» ⟨[.ref z], []⟩) Q E s := by
  obtain ⟨M1, M2, M3, M4, M5⟩ := M
  show wpAny _ _ (field (.ref z) 2 >>= _) _ _ _
  refine wpAny_bind (wpAny_field M1 rfl (x := .bool false) rfl ?_); show wpAny _ _ (field (.ref z) 3 >>= _) _ _ _
  refine wpAny_bind (wpAny_field M1 rfl (x := .ref p) rfl (wpAny_bind (wpAny_seqItems M2 rfl ?_)))
  show wpAny _ _ (Builtin.SmallTypes.ownedTupleIsFree (.ref z) >>= _) _ _ _; refine wpAny_bind ?_; unfold Builtin.SmallTypes.ownedTupleIsFree
  refine wpAny_bind (wpAny_field M1 rfl (x := .none) rfl (wpAny_pure ?_)); simp only [if_true]
  refine wpAny_bind (wpAny_rule (wpAny_bind (wpAny_field M1 rfl (x := .ref q) rfl (wpAny_bind (wpAny_setField_rec M1 (by simp) fun g1 z1 b1 => ?_)))))
  have z1 : IsZip g1 z p q .ellipsis := z1; refine wpAny_bind ?_; simp only [List.zipIdx_cons, List.zipIdx_nil, List.forIn_cons, List.forIn_nil]
  refine wpAny_bind (wpAny_bind (wpAny_onRaise ?_)); show wpAny _ _ (Builtin.SmallTypes.nextOf (.ref i) >>= _) _ _ _
  have fin : ∀ (g : Heap) (e : Addr), IsZip g z p q .ellipsis → (∃ o, g.get? e = some o ∧ o.cls = .type "StopIteration") → e ≠ z := fun g e y ⟨o, e1, e2⟩ c => by
    rw [c, y] at e1
    cases e1
    simp at e2
  cases hx : xs[m]? with
  | none =>
    refine wpAny_bind (RZ.nextOf_tuple_end hh (M4.extBut b1.extBut D.i1z) (ha.extBut b1.extBut D.l1z) hx fun g2 e b2 h2 => ?_)
    have y2 : IsZip g2 z p q .ellipsis := b2 _ _ D.i1z.symm z1
    have ne := fin g2 e y2 h2
    obtain ⟨o, e1, e2⟩ := h2
    exact wpAny_setField_rec y2 (by simp) fun g3 _ b3 => hE g3 e (fun c o c1 _ c3 _ h => b3.extBut _ _ c1 (b2 _ _ c3 (b1.extBut _ _ c1 h))) ⟨o, b3.extBut _ _ ne e1, e2⟩
  | some x =>
    have hy : ys[n]? = none := he.resolve_left (by rw [hx]; exact nofun)
    refine wpAny_bind (RZ.nextOf_tuple_item (M4.extBut b1.extBut D.i1z) (ha.extBut b1.extBut D.l1z) hx fun g2 i2 b2 => wpAny_pure ?_)
    have o2 : IsPair g2 q u v := b2.extBut _ _ D.TOi1 (b1.extBut _ _ D.TOz M3)
    refine wpAny_bind (wpAny_seqItems o2 rfl (wpAny_bind (wpAny_updateSeq_pair o2 fun g3 o3 b3 => wpAny_bind (wpAny_letGo (wpAny_pure ?_)))))
    refine wpAny_bind (wpAny_bind (wpAny_onRaise ?_)); show wpAny _ _ (Builtin.SmallTypes.nextOf (.ref j) >>= _) _ _ _
    have j3 : g3.IsListIter j b n := ((M5.extBut b1.extBut D.i2z).extBut b2.extBut D.i12.symm).extBut b3.extBut D.TOi2.symm
    have l3 : g3.IsList b ys := ((hb.extBut b1.extBut D.l2z).extBut b2.extBut D.l2i1).extBut b3.extBut D.l2TO
    refine wpAny_bind (wpAny_nextOf_list_end hh j3 l3 hy fun g4 e b4 h4 => ?_)
    have y4 : IsZip g4 z p q .ellipsis := b4 _ _ D.i2z.symm (b3.extBut _ _ D.TOz.symm (b2.extBut _ _ D.i1z.symm z1))
    have ne := fin g4 e y4 h4
    obtain ⟨o, e1, e2⟩ := h4
    exact wpAny_setField_rec y4 (by simp) fun g5 _ b5 => hE g5 e (fun c o c1 c2 c3 c4 h => b5.extBut _ _ c1 (b4 _ _ c4 (b3.extBut _ _ c2 (b2.extBut _ _ c3 (b1.extBut _ _ c1 h))))) ⟨o, b5.extBut _ _ ne e1, e2⟩
theorem ztl_next {z p q i j a b : Addr} {m n : Nat} {xs ys : Array Value} {x y u v : Value} {Q : Option Value → Shared → Prop} (D : ZipApart z p q i j a b) (M : MZip s.heap z p q i j a b m n .none u v)
    (ha : s.heap.IsTuple a xs) (hb : s.heap.IsList b ys) (hx : xs[m]? = some x) (hy : ys[n]? = some y)
    (hQ : ∀ g, MZip g z p q i j a b (m + 1) (n + 1) (rawInt s.heap.objs.size) x y → IsPair g s.heap.objs.size x y → (∀ c o, c ≠ z → c ≠ q → c ≠ i → c ≠ j → s.heap.get? c = some o → g.get? c = some o) → Q (some (.ref s.heap.objs.size)) { s with heap := g }) :
    wpAny (model prog w) A (pyNext (.ref z)) Q E s := by
  have T : s.TypeIs (.ref z) "zip" := ⟨_, M.zip, rfl⟩
  unfold pyNext
  refine wpAny_bind (wpAny_attempt (wpAny_callSpecial?_slot (name := Str.ofString "__next__") T F.slot_zip_next (wpAny_call_entry F.slot_zip_next T F.entry_zip_next ?_ (F.args_zip_next_1 _))))
  exact ztl_item D M ha hb hx hy fun g a1 a2 a3 => wpAny_pure (hQ g a1 a2 a3)
theorem ztl_stop {z p q i j a b : Addr} {m n : Nat} {xs ys : Array Value} {u v : Value} {Q : Option Value → Shared → Prop} (hh : A.handled = none) (D : ZipApart z p q i j a b) (M : MZip s.heap z p q i j a b m n .none u v)
    (ha : s.heap.IsTuple a xs) (hb : s.heap.IsList b ys) (he : xs[m]? = none ∨ ys[n]? = none)
    (hQ : ∀ g, (∀ c o, c ≠ z → c ≠ q → c ≠ i → c ≠ j → s.heap.get? c = some o → g.get? c = some o) → Q none { s with heap := g }) : wpAny (model prog w) A (pyNext (.ref z)) Q E s := by
  have T : s.TypeIs (.ref z) "zip" := ⟨_, M.zip, rfl⟩
  unfold pyNext
  refine wpAny_bind (wpAny_attempt (wpAny_callSpecial?_slot (name := Str.ofString "__next__") T F.slot_zip_next (wpAny_call_entry F.slot_zip_next T F.entry_zip_next ?_ (F.args_zip_next_1 _))))
  refine ztl_end hh D M ha hb he fun g e hk ⟨o, e1, e2⟩ => ?_
  exact wpAny_bind (wpAny_isInstance (T := "StopIteration") (b := true) ⟨o, e1, e2⟩ isSubtype_stop (wpAny_pure (hQ _ hk)))
end
/-! ### the object made -/
abbrev tz1 (h : Heap) (a : Addr) : Heap := h.push { cls := .type "tuple_iterator", data := .fields #[.ref a, .int 0 0] }
abbrev tz2 (h : Heap) (a b : Addr) : Heap := (tz1 h a).push { cls := .type "list_iterator", data := .fields #[.ref b, .int 0 0] }
abbrev tz3 (h : Heap) (a b : Addr) : Heap := (tz2 h a b).push { cls := .type "tuple", data := .seq #[.ref h.objs.size, .ref (tz1 h a).objs.size] }
abbrev tz4 (h : Heap) (a b : Addr) : Heap := (tz3 h a b).push { cls := .type "tuple", data := .seq #[.none, .none] }
abbrev tz5 (h : Heap) (a b : Addr) : Heap := (tz4 h a b).push { cls := .type "zip", data := .fields #[.none, .bool false, .bool false, .ref (tz2 h a b).objs.size, .ref (tz3 h a b).objs.size] }
theorem made_tz (a b : Addr) (xs ys : Array Value) : Meets (Builtin.«zip.__new__» ⟨[.type "zip", .ref a, .ref b], []⟩) (fun _ R s => s.heap.IsTuple a xs ∧ s.heap.IsList b ys ∧ R (.ok (.ret (.ref (tz4 s.heap a b).objs.size))) { s with heap := tz5 s.heap a b }) :=
  .of_wp fun prog w A R s h => by
    obtain ⟨hp, g, d, tk, os⟩ := s
    obtain ⟨ha, hb, h⟩ := h
    have isz := sub_zip
    have A1 : Heap.IsTuple (Shared.heap ⟨hp, g, d, tk, os⟩) a xs := ha
    have A2 : Heap.IsList (Shared.heap ⟨tz1 hp a, g, d, tk, os⟩) b ys := Heap.IsList.push hb _
    wp_walk using wpAny_pyIter_tuple A1, wpAny_pyIter_list A2
    exact ⟨_, rfl, h⟩
theorem call_tz {prog : Program} {w : World} {A : Around} {E : Value → Shared → Prop} {s : Shared} {a b : Addr} {xs ys : Array Value} {Q : Value → Shared → Prop} (ha : s.heap.IsTuple a xs) (hb : s.heap.IsList b ys)
    (h : ∀ g, MZip g (s.heap.objs.size + 4) (s.heap.objs.size + 2) (s.heap.objs.size + 3) s.heap.objs.size (s.heap.objs.size + 1) a b 0 0 .none .none .none → (∀ c o, s.heap.get? c = some o → g.get? c = some o) → Q (.ref (s.heap.objs.size + 4)) { s with heap := g }) :
    wpAny (model prog w) A (call (.type "zip") [.ref a, .ref b]) Q E s := by
  refine callType_new F.called_zip (by decide) (F.typeCall_zip_2 _ _) (F.newCall_zip_2 _ _) (fun o => F.args_object_init_3 o _ _) F.entry_zip_new (made_tz a b xs ys) ⟨ha, hb, ?_⟩
  have n1 : (tz1 s.heap a).objs.size = s.heap.objs.size + 1 := Heap.size_push ..
  have n2 : (tz2 s.heap a b).objs.size = s.heap.objs.size + 2 := (Heap.size_push ..).trans (congrArg (· + 1) n1)
  have n3 : (tz3 s.heap a b).objs.size = s.heap.objs.size + 3 := (Heap.size_push ..).trans (congrArg (· + 1) n2)
  have n4 : (tz4 s.heap a b).objs.size = s.heap.objs.size + 4 := (Heap.size_push ..).trans (congrArg (· + 1) n3)
  have up : ∀ {g : Heap} {o : Obj} {c : Addr} {o' : Obj}, g.get? c = some o' → (g.push o).get? c = some o' := fun e => Heap.get?_push_of_some _ e
  have g5 : (tz5 s.heap a b).get? (tz4 s.heap a b).objs.size = some _ := Heap.get?_push_size _ rfl
  have g4 : (tz5 s.heap a b).get? (tz3 s.heap a b).objs.size = some _ := up (Heap.get?_push_size _ rfl)
  have g3 : (tz5 s.heap a b).get? (tz2 s.heap a b).objs.size = some _ := up (up (Heap.get?_push_size _ rfl))
  have g2 : (tz5 s.heap a b).get? (tz1 s.heap a).objs.size = some _ := up (up (up (Heap.get?_push_size _ rfl)))
  have g1 : (tz5 s.heap a b).get? s.heap.objs.size = some _ := up (up (up (up (Heap.get?_push_size _ rfl))))
  show _ ∧ _
  rw [n2, n3, n4] at g5
  rw [n1, n2] at g3
  rw [n3] at g4
  rw [n1] at g2
  rw [n4]
  exact ⟨⟨_, g5, rfl⟩, h _ ⟨g5, g3, g4, ⟨_, g1, rfl, rfl⟩, ⟨_, g2, rfl, rfl⟩⟩ fun c o x => up (up (up (up (up x))))⟩
/-! ### its turns -/
/-- the tuple at a and the list at b as they stand at each turn -/
def ItzM (K : PySem.W.Frag) (a b : Addr) : It :=
  ⟨fun i H => ∃ (us ws : List V) (u w : V), SqT K H a us ∧ SqL K H b ws ∧ us[i]? = some u ∧ ws[i]? = some w,
    fun i H v H' => ∃ T u w, v = .ref T ∧ H T = none ∧ H' = upd H T (.tup [u, w]) ∧ (∀ us, SqT K H a us → us[i]? = some u) ∧ ∀ ws, SqL K H b ws → ws[i]? = some w,
    fun i H => ∃ us ws : List V, SqT K H a us ∧ SqL K H b ws ∧ (us.length ≤ i ∨ ws.length ≤ i)⟩
theorem five {z p q i j c : Addr} (h : c ∈ [z, p, q, i, j]) : c = z ∨ c = p ∨ c = q ∨ c = i ∨ c = j := by simpa using h
theorem turn_tz {P : Program} {w : World} {K : PySem.W.Frag} {elts : List Expr} {kk : Nat} {tpos : Pos} {a b z p q i1 i2 : Addr} (D : ZipApart z p q i1 i2 a b) :
    Turn P w K (.Tuple elts kk tpos) (ItzM K a b) [z, p, q, i1, i2] z (fun i h => ∃ u v, MZip h z p q i1 i2 a b i i .none u v) where
  mem := by simp
  obj := fun i h st c hc => by
    obtain ⟨u, v, m1, m2, m3, ⟨o1, e1, _, d1⟩, ⟨o2, e2, _, d2⟩⟩ := st
    rcases five hc with e | e | e | e | e <;> subst e
    · exact ⟨_, m1, fun v q => nomatch q⟩
    · exact ⟨_, m2, fun v q => nomatch q⟩
    · exact ⟨_, m3, fun v q => nomatch q⟩
    · exact ⟨o1, e1, fun v q => by rw [d1] at q; cases q⟩
    · exact ⟨o2, e2, fun v q => by rw [d2] at q; cases q⟩
  keep := fun i h h' st k => by
    obtain ⟨u, v, m1, m2, m3, m4, m5⟩ := st
    exact ⟨u, v, k z (by simp) _ m1, k p (by simp) _ m2, k q (by simp) _ m3, m4.at fun o e => k i1 (by simp) o e, m5.at fun o e => k i2 (by simp) o e⟩
  item := by
    intro X hP hw hK hc i pins s σ H E I hf st hg
    subst hP hw hK
    obtain ⟨u0, v0, M⟩ := st
    obtain ⟨us, ws, x, y, hus, hws, hx, hy⟩ := hg
    obtain ⟨ts, ra, pa, _⟩ := I.tuple hus
    obtain ⟨ts2, rb, pb, _⟩ := I.list hws
    obtain ⟨vx, ex, rx⟩ := ra.get hx
    obtain ⟨vy, ey, ry⟩ := rb.get hy
    have zl : z < s.heap.objs.size := Heap.lt_size M.zip
    refine ztl_next D M pa pb.isList (x := vx) (y := vy) (by simpa using ex) (by simpa using ey) fun g M' hT hk => ?_
    refine ⟨_, rfl, wpAny_letOwnedTupleGo_zip (s := { s with heap := g }) M'.zip fun g2 z2 sb => ?_⟩
    have T2 : g2.get? s.heap.objs.size = some { cls := .type "tuple", data := .seq #[vx, vy] } := (sb.2 _ (Nat.ne_of_gt zl)).trans hT
    have new : ObjOk X.prog X.w (upd H s.heap.objs.size (.tup [x, y])) g2 s.heap.objs.size (.tup [x, y]) := ⟨by show 2 ≤ sizeLine; decide, [vx, vy], .cons rx (.cons ry .nil), ⟨_, T2, rfl, _, rfl⟩⟩
    have hk2 : ∀ c o, c ∉ [z, p, q, i1, i2] → s.heap.get? c = some o → g2.get? c = some o := fun c o hb e => by
      have nz : c ≠ z := fun e => hb (by simp [e])
      exact (sb.2 c nz).trans (hk c o nz (fun e => hb (by simp [e])) (fun e => hb (by simp [e])) (fun e => hb (by simp [e])) e)
    have I1 : Inv X pins σ (upd H s.heap.objs.size (.tup [x, y])) { s with heap := g2 } := I.turnedNew (t' := s.toks) (ch := [z, p, q, i1, i2]) hk2 hf (Nat.le_refl _) new
    have ext : ∀ c o, c ≠ z → g.get? c = some o → g2.get? c = some o := fun c o n e => (sb.2 c n).trans e
    refine ⟨.ref s.heap.objs.size, _, I1, rfl, ⟨_, x, y, rfl, I.hok.fresh (Nat.le_refl _), rfl, fun l hl => by rw [I.tuple_inj hl hus]; exact hx, fun l hl => by rw [I.list_inj hl hws]; exact hy⟩, ⟨vx, vy, z2, ext _ _ D.TIz M'.its, ext _ _ D.TOz M'.out, M'.fst.at fun o e => ext _ _ D.i1z e, M'.snd.at fun o e => ext _ _ D.i2z e⟩, fun c hm => ?_⟩
    have lt : c < s.heap.objs.size := by
      obtain ⟨o1, e1, _⟩ := M.fst
      obtain ⟨o2, e2, _⟩ := M.snd
      rcases five hm with e | e | e | e | e <;> subst e
      · exact zl
      · exact Heap.lt_size M.its
      · exact Heap.lt_size M.out
      · exact Heap.lt_size e1
      · exact Heap.lt_size e2
    rw [upd_ne (Nat.ne_of_lt lt)]
    exact (hf c hm).1
  done := by
    intro X hP hw hK hc i pins s σ H E I hf st hg
    subst hP hw hK
    obtain ⟨u0, v0, M⟩ := st
    obtain ⟨us, ws, hus, hws, hend⟩ := hg
    obtain ⟨ts, ra, pa, _⟩ := I.tuple hus
    obtain ⟨ts2, rb, pb, _⟩ := I.list hws
    have la := ra.length
    have lb := rb.length
    have he : ts.toArray[i]? = none ∨ ts2.toArray[i]? = none := hend.imp (fun e => by simp; omega) fun e => by simp; omega
    refine ztl_stop (I.ok.hd hc) D M pa pb.isList he fun g hk => ⟨rfl, I.turnedL (t' := s.toks) (ch := [z, p, q, i1, i2]) (fun c o hb e => ?_) hf⟩
    exact hk c o (fun e => hb (by simp [e])) (fun e => hb (by simp [e])) (fun e => hb (by simp [e])) (fun e => hb (by simp [e])) e
  self := fun A i s Q E ⟨_, _, M⟩ h => wpAny_pyIter_zip M.zip h
def iZipM (K : PySem.W.Frag) (ta : TA) : TI := fun σ H R => ta σ H fun vs H1 => ∃ a b us ws, vs = [.ref a, .ref b] ∧ SqT K H1 a us ∧ SqL K H1 b ws ∧ R (ItzM K a b) H1
theorem pi_zipM {X : Cx} {e e2 : Expr} {ta : TA} {p pos tpos : Pos} {elts : List Expr} {kk : Nat} (hg : Gl X "zip") (hm : X.mg "zip" = none) (ha : PA X [e, e2] ta)
    (hs : starEach [e, e2] X.env = (false, eval e X.env) :: starEach [e2] X.env) (hpl : (backTo pos (starEach [e2] X.env)).any (·.1) = false) :
    PI X (.Tuple elts kk tpos) (.Call (.Name "zip" p) [e, e2] [] pos) (iZipM X.K ta) := by
  refine ⟨fun pins s σ H R I h => Call_ (ld_blt I hg hm PyProof.Rows.boot_zip (PyProof.Rows.callWith_type1 (thn (ha.run pos pins s σ H _ I h) fun us s1 ⟨vs, H1, I1, r1, a, b, xs, ys, ex, q1, q2, q3⟩ => ?_) hs hpl))⟩
  subst ex
  cases r1 with
  | cons r rr => cases rr with
    | cons r' rr =>
      cases rr
      cases r
      cases r'
      have fr : ∀ c, c ∈ [s1.heap.objs.size + 4, s1.heap.objs.size + 2, s1.heap.objs.size + 3, s1.heap.objs.size, s1.heap.objs.size + 1] → FpOk X pins H1 c := fun c hm => by
        have le : s1.heap.objs.size ≤ c := by
          rcases five hm with e | e | e | e | e <;> rw [e] <;> first | exact Nat.le_refl _ | exact Nat.le_add_right _ _
        exact I1.fpOk le (I1.hok.fresh le)
      obtain ⟨ts, ra, pa, _⟩ := I1.tuple q1
      obtain ⟨ts2, rb, pb, _⟩ := I1.list q2
      obtain ⟨o1, e1, _⟩ := id pa
      refine call_tz (show s1.heap.IsTuple a ts.toArray from pa) pb.isList fun g M hk => wpAny_pyIter_zip M.zip ?_
      have I2 : Inv X pins σ H1 { s1 with heap := g } := I1.kept (t' := s1.toks) hk
      exact ⟨_, [s1.heap.objs.size + 4, s1.heap.objs.size + 2, s1.heap.objs.size + 3, s1.heap.objs.size, s1.heap.objs.size + 1], _, _, H1, rfl, I2, turn_tz (PySem.W.ktu_apart s1.heap.objs.size a b (Heap.lt_size e1) pb.lt), ⟨_, _, M⟩, fr, q3⟩
section
variable {X : Cx} {O L : List Kd} {e e2 : Expr} {ma : MA} {ks : List Ak} {p pos tpos : Pos} {elts : List Expr} {kk : Nat}
def dZipM : List D → Option (List D)
  | [.tuple xs, .list ys] => some (zipD xs ys)
  | _ => none
theorem i_zipM (hm : X.mg "zip" = none) (ha : PA X [e, e2] (tA X.K O ma ks)) (hk : lkArgs L ks = true := by rfl) (hl : lkOf O L = true := by rfl) (hg : Gl X "zip" := by rfl) (hs : starEach [e, e2] X.env = (false, eval e X.env) :: starEach [e2] X.env := by rfl) (hpl : (backTo pos (starEach [e2] X.env)).any (·.1) = false := by rfl) :
    PI X (.Tuple elts kk tpos) (.Call (.Name "zip" p) [e, e2] [] pos) (tI X.K O L (mIt2 ks ma dZipM)) := by
  refine PIi (pi_zipM hg hm ha hs hpl) fun σ H R ⟨F, ρ, ds, ρ', ok, hmm, q⟩ => ?_
  obtain ⟨⟨as, ρ1⟩, e1, e3⟩ := bind_some hmm
  obtain ⟨es, e4, e5⟩ := bind_some e3
  obtain ⟨ds', e6, e7⟩ := map_some e5
  cases e7
  refine ⟨F, ρ, as, ρ1, ok, e1, fun vs F1 H1 ok1 st1 r1 => ?_⟩
  have sa := r1.stands hl ok1 hk e4
  unfold dZipM at e6
  split at e6
  · rename_i xs ys
    cases e6
    obtain ⟨v, r, rfl, ⟨a, us, rfl, a1, a2, a3⟩, v2, r2, rfl, ⟨b, ws, rfl, b1, b2, b3⟩, rfl⟩ := sa
    refine ⟨a, b, us, ws, rfl, a1, b1, q _ F1 H1 (fun H => SqT X.K H a us ∧ SqL X.K H b ws) ok1 st1 ⟨fun i H2 hi ⟨g1, g2⟩ => ?_, fun H2 ⟨g1, g2⟩ => ⟨us, ws, g1, g2, ?_⟩, fun i H2 x H3 hi ⟨g1, g2⟩ y => ?_⟩ fun Z hz w2 ok2 st2 => ⟨a3 Z hz w2 ok2 st2, b3 Z hz w2 ok2 st2⟩⟩
    · rw [zipD_len] at hi
      have h1 : i < us.length := by rw [a2.length]; omega
      have h2 : i < ws.length := by rw [b2.length]; omega
      exact ⟨us, ws, us[i], ws[i], g1, g2, List.getElem?_eq_getElem h1, List.getElem?_eq_getElem h2⟩
    · rw [zipD_len, a2.length, b2.length]
      omega
    · obtain ⟨T, u, t, y1, y2, y3, y4, y5⟩ := y
      exact yd_pair (fun {i v} h => a2.getV h) (fun {i v} h => b2.getV h) ⟨T, u, t, y1, y2, y3, y4 us g1, y5 ws g2⟩
  · cases e6
def dZip2 : List D → Option (List D)
  | [.list xs, .list ys] => some (zipD xs ys)
  | [.tuple xs, .tuple ys] => some (zipD xs ys)
  | [.tuple xs, .list ys] => some (zipD xs ys)
  | _ => none
/-- zip of two lists, two tuples, a tuple and a list -/
theorem i_zip2 (hm : X.mg "zip" = none) (ha : PA X [e, e2] (tA X.K O ma ks)) (hk : lkArgs L ks = true := by rfl) (hl : lkOf O L = true := by rfl) (hg : Gl X "zip" := by rfl) (hs : starEach [e, e2] X.env = (false, eval e X.env) :: starEach [e2] X.env := by rfl) (hpl : (backTo pos (starEach [e2] X.env)).any (·.1) = false := by rfl) :
    PI X (.Tuple elts kk tpos) (.Call (.Name "zip" p) [e, e2] [] pos) (tI X.K O L (mIt2 ks ma dZip2)) := by
  refine PIi (PI.or (i_zip (L := L) hm ha hk hl hg hs hpl) (i_zipM (L := L) hm ha hk hl hg hs hpl)) fun σ H R ⟨F, ρ, ds, ρ', ok, hmm, q⟩ => ?_
  obtain ⟨⟨as, ρ1⟩, e1, e3⟩ := bind_some hmm
  obtain ⟨es, e4, e5⟩ := bind_some e3
  obtain ⟨ds', e6, e7⟩ := map_some e5
  cases e7
  have mk : ∀ {d : List D → Option (List D)}, d es = some ds → mIt2 ks ma d ρ = some (ds, ρ1) := fun h => by
    unfold mIt2
    rw [e1]
    show ((fill ks as ρ1).bind fun es => (_ : Option (List D)).map _) = _
    rw [e4]
    show (_ : Option (List D)).map _ = _
    rw [h]
    rfl
  unfold dZip2 at e6
  split at e6
  · exact .inl ⟨F, ρ, _, ρ1, ok, mk e6, q⟩
  · exact .inl ⟨F, ρ, _, ρ1, ok, mk e6, q⟩
  · exact .inr ⟨F, ρ, _, ρ1, ok, mk e6, q⟩
  · cases e6
end
end DL

/-! DLE: more operators. -/
namespace DL
open PySem PySem.Spec PyProof.Rows L2
section
variable {K : PySem.W.Frag}
theorem s_divP : LSem K (rL2 (rI CDivN fun i j => .int (i.fdiv j))) dDiv .fz := s_div
theorem iop_fdivS {X : Cx} : OpR X (inplaceOp .FloorDiv) (rI CDivN fun i j => .int (i.fdiv j)) := L2.opI fun _ _ _ _ _ _ _ hc q => ifloordiv_int hc.1 q (.inl (PyProof.noPylong_small hc.2))
/-- the law's promise, from what its text computes -/
theorem rpA_ints {F : Hp} : ∀ ns : List Int, RpA K F (ns.map PyData.int) (ns.map V.int)
  | [] => rfl
  | n :: ns => ⟨.int n, ns.map V.int, rfl, rfl, rpA_ints ns⟩
theorem law_sp0 {mf : En → Option (D × En)} {o : En} {ns : List Int} {a : Addr} {H : Hp} (e : mf [some (.list (ns.map PyData.int))] = some (.bool true, o)) (hS : SqL K H a (ns.map V.int)) : spF K [.fz] mf .fz [.ref a] H (fun v _ => v = .bl true) fun _ _ _ => False := by
  refine ⟨H, _, _, o, ⟨fun _ _ z => z, rfl, rfl, fun i d h1 h2 => ?_, fun i k d h1 h2 h3 => ?_, fun i j p h1 h2 => ?_, fun e => by cases e⟩, e, fun v F2 H2 _ _ r => r⟩
  · match i with
    | 0 =>
      cases h2
      exact ⟨.ref a, rfl, a, _, rfl, hS, rpA_ints ns⟩
    | i + 1 => cases h2
  · match i with
    | 0 =>
      cases h1
      cases h2
    | i + 1 => cases h3
  · obtain ⟨k, d, g1, g2, g3, g4⟩ := h1
    match i with
    | 0 =>
      cases g1
      cases g2
    | i + 1 => cases g3
end
end DL

/-! DLF: in, int, repetition, tuples and texts joined, texts of data, never. -/
namespace DL
open PySem PySem.Spec PyProof.Rows L2

/-! ### never come to -/
def mNev : M := fun _ => none
def mNevT : MT := fun _ => none
theorem e_never {X : Cx} {O : List Kd} {e : Expr} {k : Ak} : PE X e (tE X.K O mNev k) := ⟨fun pins s σ H Q I ⟨F, ρ, d, ρ', ok, hm, q⟩ => by cases hm⟩
theorem t_never {X : Cx} {O : List Kd} {e : Expr} : PT X e (tT X.K O mNevT) := ⟨fun pins s σ H Q I ⟨F, ρ, d, ρ', ok, hm, q⟩ => by cases hm⟩
/-! ### x in a list or tuple of flat data; a sign in a text -/
def flV : D → Option V
  | .none => some .non
  | .bool b => some (.bl b)
  | .int i => some (.int i)
  | .str x => some (.str x)
  | _ => none
def flVs : List D → Option (List V)
  | [] => some []
  | d :: ds => (flV d).bind fun v => (flVs ds).map (v :: ·)
section
variable {K : PySem.W.Frag} {F H : Hp}
theorem flV_rp : ∀ {d : D} {v u : V}, flV d = some v → Vw K F H d u → u = v ∧ flatV v = true
  | .none, _, _, e, h => by cases e; exact ⟨h, rfl⟩
  | .bool _, _, _, e, h => by cases e; exact ⟨h, rfl⟩
  | .int _, _, _, e, h => by cases e; exact ⟨h, rfl⟩
  | .str _, _, _, e, h => by cases e; exact ⟨h, rfl⟩
  | .list _, _, _, e, _ => by cases e
  | .tuple _, _, _, e, _ => by cases e
  | .dict _, _, _, e, _ => by cases e
theorem flV_fz : ∀ {d : D} {v u : V}, flV d = some v → Rp K F d u → u = v ∧ flatV v = true
  | .none, _, _, e, h => by cases e; exact ⟨h, rfl⟩
  | .bool _, _, _, e, h => by cases e; exact ⟨h, rfl⟩
  | .int _, _, _, e, h => by cases e; exact ⟨h, rfl⟩
  | .str _, _, _, e, h => by cases e; exact ⟨h, rfl⟩
  | .list _, _, _, e, _ => by cases e
  | .tuple _, _, _, e, _ => by cases e
  | .dict _, _, _, e, _ => by cases e
theorem flVs_fz : ∀ {ds : List D} {vs us : List V}, flVs ds = some vs → RpA K F ds us → us = vs ∧ vs.all flatV = true
  | [], _, _, e, h => by
    cases e
    exact ⟨h, rfl⟩
  | d :: ds, _, _, e, ⟨u, us, e2, h1, h2⟩ => by
    obtain ⟨v, e3, e4⟩ := bind_some e
    obtain ⟨vs, e5, e6⟩ := map_some e4
    obtain ⟨a, b⟩ := flV_fz e3 h1
    obtain ⟨a2, b2⟩ := flVs_fz e5 h2
    subst e2 e6 a a2
    refine ⟨rfl, ?_⟩
    rw [List.all_cons, b, b2]
    rfl
def inD (neg : Bool) : List D → Option D
  | [x, .list ds] => (flV x).bind fun v => (flVs ds).map fun vs => .bool (if neg then !inV v vs else inV v vs)
  | [x, .tuple ds] => (flV x).bind fun v => (flVs ds).map fun vs => .bool (if neg then !inV v vs else inV v vs)
  | [.str x, .str z] => match x.cps with
    | ⟨[c]⟩ => some (.bool (if neg then !decide (c ∈ z.cps.toList) else decide (c ∈ z.cps.toList)))
    | _ => none
  | _ => none
def dIn := inD false
def dNin := inD true
def rInA (K : PySem.W.Frag) (neg : Bool) : R2 := fun x y H Q => rIn K neg x y H Q ∨ ∃ (c : Nat) (z : Str), x = .str ⟨#[c]⟩ ∧ y = .str z ∧ Q (.bl (if neg then !decide (c ∈ z.cps.toList) else decide (c ∈ z.cps.toList))) H
theorem op_inA {X : Cx} : OpR X (compareOp .In) (rInA X.K false) := fun pins s σ H x y v u Q I rx ry h => by
  rcases h with h | h
  · exact op_in_seq pins s σ H x y v u Q I rx ry h
  · exact op_in_sign pins s σ H x y v u Q I rx ry h
theorem op_ninA {X : Cx} : OpR X (compareOp .NotIn) (rInA X.K true) := fun pins s σ H x y v u Q I rx ry h => by
  rcases h with h | h
  · exact op_notIn_seq pins s σ H x y v u Q I rx ry h
  · exact op_notIn_sign pins s σ H x y v u Q I rx ry h
theorem s_inD {neg : Bool} : LSem K (rL2 (rInA K neg)) (inD neg) .fz := by
  intro F H ds vs d Q s hv ho q
  unfold inD at ho
  split at ho
  · rename_i x es
    obtain ⟨v, u, rfl, h1, a, xs, rfl, h3, h4⟩ := hv.two
    obtain ⟨v', e1, e2⟩ := bind_some ho
    obtain ⟨vs', e3, rfl⟩ := map_some e2
    obtain ⟨rfl, f1⟩ := flV_rp e1 h1
    obtain ⟨rfl, f2⟩ := flVs_fz e3 h4
    exact ⟨_, _, rfl, .inl ⟨a, _, rfl, .inl h3, f1, f2, q.now s rfl⟩⟩
  · rename_i x es
    obtain ⟨v, u, rfl, h1, a, xs, rfl, h3, h4⟩ := hv.two
    obtain ⟨v', e1, e2⟩ := bind_some ho
    obtain ⟨vs', e3, rfl⟩ := map_some e2
    obtain ⟨rfl, f1⟩ := flV_rp e1 h1
    obtain ⟨rfl, f2⟩ := flVs_fz e3 h4
    exact ⟨_, _, rfl, .inl ⟨a, _, rfl, .inr (same_sqt s h3), f1, f2, q.now s rfl⟩⟩
  · rename_i x z
    obtain ⟨v, u, rfl, h1, h3⟩ := hv.two
    have h1 : v = .str x := h1
    have h3 : u = .str z := h3
    subst h1 h3
    split at ho
    · rename_i c e
      cases ho
      refine ⟨_, _, rfl, .inr ⟨c, z, ?_, rfl, q.now s rfl⟩⟩
      obtain ⟨cp⟩ := x
      have e : cp = #[c] := e
      rw [e]
    · cases ho
  · cases ho
theorem s_in : LSem K (rL2 (rInA K false)) dIn .fz := s_inD
theorem s_nin : LSem K (rL2 (rInA K true)) dNin .fz := s_inD
/-! ### int(x) -/
def dInt : List D → Option D
  | [.int i] => some (.int i)
  | [.bool b] => some (.int (if b then 1 else 0))
  | _ => none
theorem s_int1 : LSem K (fun xs H Q => (∃ i, xs = [.int i] ∧ Q (.int i) H) ∨ ∃ k, xs = [.bl k] ∧ Q (.int (if k then 1 else 0)) H) dInt .fz := by
  intro F H ds vs d Q s hv ho q
  unfold dInt at ho
  split at ho
  · rename_i i
    cases ho
    obtain ⟨v, rfl, h1⟩ := hv.one
    have h1 : v = .int i := h1
    subst h1
    exact .inl ⟨i, rfl, q.now s rfl⟩
  · rename_i b
    cases ho
    obtain ⟨v, rfl, h1⟩ := hv.one
    have h1 : v = .bl b := h1
    subst h1
    exact .inr ⟨b, rfl, q.now s rfl⟩
  · cases ho
/-! ### tuples, texts joined -/
def dCatT : List D → Option D
  | [.tuple xs, .tuple ys] => if xs.length + ys.length ≤ 1000000 then some (.tuple (xs ++ ys)) else none
  | _ => none
theorem s_catT : LSem K (rL2 (rCatA K)) dCatT .fz := by
  intro F H ds vs d Q s hv ho q
  unfold dCatT at ho
  split at ho
  · rename_i es fs
    split at ho
    · rename_i hz
      cases ho
      obtain ⟨v, u, rfl, ⟨a, xs, rfl, h1, h2⟩, b, ys, rfl, h3, h4⟩ := hv.two
      have l1 := h2.length
      have l2 := h4.length
      refine ⟨_, _, rfl, a, b, xs, ys, rfl, rfl, same_sqt s h1, same_sqt s h3, by rw [l1, l2]; exact Nat.le_trans hz (by decide), fun e => ?_, fun _ e => ?_, fun _ _ => Post.tup s q (h2.append h4)⟩
      · have : es = [] := by
          rw [e] at l1
          exact List.length_eq_zero_iff.mp l1.symm
        subst this
        exact q.now s ⟨b, ys, rfl, h3, h4⟩
      · have : fs = [] := by
          rw [e] at l2
          exact List.length_eq_zero_iff.mp l2.symm
        subst this
        refine q.now s ?_
        rw [List.append_nil]
        exact ⟨a, xs, rfl, h1, h2⟩
    · cases ho
  · cases ho
def dAddS : List D → Option D
  | [.str x, .str y] => if x.length + y.length ≤ 100000 then some (.str (x ++ y)) else none
  | _ => none
theorem s_addS : LSem K (rL2 fun x y H Q => ∃ i j, x = .str i ∧ y = .str j ∧ i.length + j.length ≤ sizeLine ∧ Q (.str (i ++ j)) H) dAddS .fz := by
  intro F H ds vs d Q s hv ho q
  unfold dAddS at ho
  split at ho
  · rename_i x y
    split at ho
    · rename_i hz
      cases ho
      obtain ⟨v, u, rfl, h1, h3⟩ := hv.two
      have h1 : v = .str x := h1
      have h3 : u = .str y := h3
      subst h1 h3
      exact ⟨_, _, rfl, x, y, rfl, rfl, Nat.le_trans hz (by decide), q.now s rfl⟩
    · cases ho
  · cases ho
/-! ### dicts read -/
def dKey : D → Option Key
  | .int i => some (.inl i)
  | .str x => some (.inr x)
  | _ => none
theorem dKey_kD : ∀ k : Key, dKey (kD k) = some k
  | .inl _ => rfl
  | .inr _ => rfl
theorem dKey_rp : ∀ {d : D} {k : Key} {u : V}, dKey d = some k → Vw K F H d u → u = kV k
  | .none, _, _, e, _ => by cases e
  | .bool _, _, _, e, _ => by cases e
  | .int _, _, _, e, h => by cases e; exact h
  | .str _, _, _, e, h => by cases e; exact h
  | .list _, _, _, e, _ => by cases e
  | .tuple _, _, _, e, _ => by cases e
  | .dict _, _, _, e, _ => by cases e
/-- what the pairs hold at k -/
def getD' (k : Key) : List (D × D) → Option D
  | [] => none
  | (a, b) :: r => if dKey a = some k then some b else getD' k r
theorem getD_rp {k : Key} : ∀ {kvs : List (D × D)} {vs : List (Key × V)}, RpD K F kvs vs → (getD' k kvs = none ∧ valV vs k = none) ∨ ∃ d v, getD' k kvs = some d ∧ valV vs k = some v ∧ Rp K F d v
  | [], vs, h => by
    have h : vs = [] := h
    subst h
    exact .inl ⟨rfl, rfl⟩
  | (a, b) :: r, vs, ⟨q, v, vr, e1, e2, h1, h2⟩ => by
    subst e1 e2
    by_cases e : q = k
    · subst e
      refine .inr ⟨b, v, ?_, valV_pos rfl, h1⟩
      show (if dKey (kD q) = some q then _ else _) = _
      rw [if_pos (dKey_kD q)]
    · have e2 : dKey (kD q) ≠ some k := by
        rw [dKey_kD]
        exact fun z => e (Option.some.inj z)
      rcases getD_rp (k := k) h2 with ⟨a1, a2⟩ | ⟨d, v', a1, a2, a3⟩
      · refine .inl ⟨?_, by rw [valV_neg e]; exact a2⟩
        show (if dKey (kD q) = some k then _ else _) = _
        rw [if_neg e2]
        exact a1
      · refine .inr ⟨d, v', ?_, by rw [valV_neg e]; exact a2, a3⟩
        show (if dKey (kD q) = some k then _ else _) = _
        rw [if_neg e2]
        exact a1
def dDget : List D → Option D
  | [.dict kvs, x] => (dKey x).bind fun k => getD' k kvs
  | _ => none
def rDGet : R2 := fun x y H Q => ∃ a v, x = .ref a ∧ DGet H a y (some v) ∧ Q v H
theorem s_dget : LSem K (rL2 rDGet) dDget .fz := by
  intro F H ds vs d Q s hv ho q
  unfold dDget at ho
  split at ho
  · rename_i kvs x
    obtain ⟨k, e1, e2⟩ := bind_some ho
    obtain ⟨v, u, rfl, ⟨a, ws, rfl, h1, h2⟩, h3⟩ := hv.two
    have := dKey_rp e1 h3
    subst this
    rcases getD_rp (k := k) h2 with ⟨a1, a2⟩ | ⟨d', v', a1, a2, a3⟩
    · rw [a1] at e2
      cases e2
    · rw [a1] at e2
      cases e2
      exact ⟨_, _, rfl, a, v', rfl, .inl ⟨ws, k, h1, rfl, a2.symm⟩, q.now s a3⟩
  · cases ho
def dDin (neg : Bool) : List D → Option D
  | [x, .dict kvs] => (dKey x).map fun k => .bool (if neg then !(getD' k kvs).isSome else (getD' k kvs).isSome)
  | _ => none
def rDIn (neg : Bool) : R2 := fun y x H Q => ∃ a o, x = .ref a ∧ DGet H a y o ∧ Q (.bl (if neg then !o.isSome else o.isSome)) H
theorem s_din {neg : Bool} : LSem K (rL2 (rDIn neg)) (dDin neg) .fz := by
  intro F H ds vs d Q s hv ho q
  unfold dDin at ho
  split at ho
  · rename_i x kvs
    obtain ⟨k, e1, rfl⟩ := map_some ho
    obtain ⟨v, u, rfl, h3, a, ws, rfl, h1, h2⟩ := hv.two
    have := dKey_rp e1 h3
    subst this
    refine ⟨_, _, rfl, a, valV ws k, rfl, .inl ⟨ws, k, h1, rfl, rfl⟩, ?_⟩
    have e3 : (valV ws k).isSome = (getD' k kvs).isSome := by
      rcases getD_rp (k := k) h2 with ⟨a1, a2⟩ | ⟨d', v', a1, a2, a3⟩
      · rw [a1, a2]
        rfl
      · rw [a1, a2]
        rfl
    rw [e3]
    exact q.now s rfl
  · cases ho
end
section
variable {X : Cx} {O : List Kd} {ka kb : Ak} {p pos : Pos} {e a b : Expr} {ma : MA} {m mb : M} {ks : List Ak}
theorem e_dget (hu : X.A.units + 65 < cLine) (ha : PE X a (tE X.K O m ka)) (hb : PE X b (tE X.K O mb kb)) (hs : NoSl b := by exact fun _ _ => rfl) : PE X (.Subscript a b pos) (tE X.K O (m2 ka kb m mb dDget) .fz) :=
  PEi (pe_dget (by omega) ha hb hs) fun _ _ _ h => tOp_of s_dget h
theorem e_din (hu : X.A.units + 65 < cLine) (ha : PE X a (tE X.K O m ka)) (hb : PE X b (tE X.K O mb kb)) (h1 : behindInMarks .In b = false := by first | exact nobehind _ (by decide) (by decide) | rfl) : PE X (.Compare a [.In] [b] pos) (tE X.K O (m2 ka kb m mb (dDin false)) .fz) :=
  PEi (pe_cmp (pc_din (by omega) ha hb) h1) fun _ _ _ h => tOp_of (r := rDIn false) s_din h
theorem e_dnin (hu : X.A.units + 65 < cLine) (ha : PE X a (tE X.K O m ka)) (hb : PE X b (tE X.K O mb kb)) (h1 : behindInMarks .NotIn b = false := by first | exact nobehind _ (by decide) (by decide) | rfl) : PE X (.Compare a [.NotIn] [b] pos) (tE X.K O (m2 ka kb m mb (dDin true)) .fz) :=
  PEi (pe_cmp (pc_dnotin (by omega) ha hb) h1) fun _ _ _ h => tOp_of (r := rDIn true) s_din h
theorem t_din (hu : X.A.units + 65 < cLine) (ha : PE X a (tE X.K O m ka)) (hb : PE X b (tE X.K O mb kb)) (h1 : behindInMarks .In b = false := by first | exact nobehind _ (by decide) (by decide) | rfl) : PT X (.Compare a [.In] [b] pos) (tT X.K O (mTr (m2 ka kb m mb (dDin false)))) :=
  PTi (pt_cmp (pc_din (by omega) ha hb) h1) fun _ _ _ h => tOp_of (r := rDIn false) s_din (tTr h)
theorem t_dnin (hu : X.A.units + 65 < cLine) (ha : PE X a (tE X.K O m ka)) (hb : PE X b (tE X.K O mb kb)) (h1 : behindInMarks .NotIn b = false := by first | exact nobehind _ (by decide) (by decide) | rfl) : PT X (.Compare a [.NotIn] [b] pos) (tT X.K O (mTr (m2 ka kb m mb (dDin true)))) :=
  PTi (pt_cmp (pc_dnotin (by omega) ha hb) h1) fun _ _ _ h => tOp_of (r := rDIn true) s_din (tTr h)
/-- int(x) -/
theorem e_int1 (B : Bt X.mg) (ha : PA X [a] (tA X.K O ma ks)) (hg : Gl X "int" := by rfl) (he : starEach [a] X.env = (false, eval a X.env) :: starEach [] X.env := by rfl) (hpl : (backTo pos (starEach [] X.env)).any (·.1) = false := by rfl) : PE X (.Call (.Name "int" p) [a] [] pos) (tE X.K O (mOp ks ma dInt) .fz) :=
  e_bty call_int1 s_int1 B.int (by decide +kernel) ha hg (by decide) (by decide) he hpl
/-- {} -/
def mDnew : M := fun ρ => some (.dict [], ρ)
end
end DL

/-! DLG: data as texts, constants that are tuples, dicts made and changed. -/
namespace DL
open PySem PySem.Spec PyProof.Rows L2

/-! ### f"{x}" of a list or a tuple -/
def showOk (d : D) : Bool := d.showable && !d.hasDict && decide (d.depth ≤ 60) && decide (d.shown.length ≤ 100000)
def dShow : List D → Option D
  | [.list ds] => if showOk (.list ds) = true then some (.str (PyData.shown (.list ds))) else none
  | [.tuple ds] => if showOk (.tuple ds) = true then some (.str (PyData.shown (.tuple ds))) else none
  | _ => none
def rShow (K : PySem.W.Frag) : V → Hp → VK → Prop := fun x H Q => ∃ a d, x = .ref a ∧ Dp K H x d ∧ showOk d = true ∧ Q (.str d.shown) H
theorem s_show {K : PySem.W.Frag} : LSem K (rL1 (rShow K)) dShow .fz := by
  intro F H ds vs d Q s hv ho q
  unfold dShow at ho
  split at ho
  · split at ho
    · rename_i es hs
      cases ho
      obtain ⟨v, rfl, h1⟩ := hv.one
      have hd : (PyData.list es).hasDict = false := by
        unfold showOk at hs
        simp only [Bool.and_eq_true, Bool.not_eq_true'] at hs
        exact hs.1.1.2
      have dp := h1.dp s hd
      obtain ⟨a, xs, rfl, _⟩ := h1
      exact ⟨_, rfl, a, _, rfl, dp, hs, q.now s rfl⟩
    · cases ho
  · split at ho
    · rename_i es hs
      cases ho
      obtain ⟨v, rfl, h1⟩ := hv.one
      have hd : (PyData.tuple es).hasDict = false := by
        unfold showOk at hs
        simp only [Bool.and_eq_true, Bool.not_eq_true'] at hs
        exact hs.1.1.2
      have dp := h1.dp s hd
      obtain ⟨a, xs, rfl, _⟩ := h1
      exact ⟨_, rfl, a, _, rfl, dp, hs, q.now s rfl⟩
    · cases ho
  · cases ho
section
variable {X : Cx} {O : List Kd} {ka : Ak} {p pos : Pos} {e : Expr} {m : M}
theorem e_show (hgd : X.A.guards = some []) (hu : X.A.units + 65 < cLine) (he : PE X e (tE X.K O m ka)) : PE X (.JoinedStr [.FormattedValue e (-1) none p] pos) (tE X.K O (m1 ka m dShow) .fz) := by
  refine pe_joined1 (PEi (t := tUn (rShow X.K) (tE X.K O m ka)) ⟨fun pins s σ H Q I h => ?_⟩ fun _ _ _ h => tUn_of s_show h)
  refine wpAny_FormattedValue_plain (thn (he.run pins s σ H _ I h) fun u s1 hv => ?_)
  obtain ⟨x, H1, I1, r1, a, d, rfl, dp, hs, q⟩ := hv
  obtain ⟨as, rd⟩ := Dp.reads I1 d _ u dp r1
  have hua : u = Value.ref a := r1
  subst hua
  unfold showOk at hs
  simp only [Bool.and_eq_true, Bool.not_eq_true', decide_eq_true_eq] at hs
  obtain ⟨⟨⟨h1, h2⟩, h3⟩, h4⟩ := hs
  exact formatField_of_reads rd h1 (fun z => by rw [h2] at z; cases z) hgd (by omega) (fun _ _ z => z) (fun h' u tk hk => ⟨.str d.shown, H1, I1.kept (t' := tk) hk, ⟨u, rfl⟩, q⟩) (Nat.le_trans h4 (by decide))
end
/-! ### a constant tuple -/
structure GTup (K : PySem.W.Frag) (mg : Str → Option Value) (x : Str) (ds : List D) : Prop where
  ex : ∃ (a : Addr) (vs : List V), mg x = some (.ref a) ∧ (∀ H : Hp, SqT K H a vs) ∧ ∀ F : Hp, RpA K F ds vs
theorem e_gtup {X : Cx} {O : List Kd} {x : Str} {p : Pos} {ds : List D} (h : GTup X.K X.mg x ds) (hg : Gl X x := by rfl) (h1 : (x == ("__debug__" : Str)) = false := by decide) : PE X (.Name x p) (tE X.K O (mC (.tuple ds)) .fz) := by
  obtain ⟨a, vs, e, e1, e2⟩ := h.ex
  exact e_glob (v := V.ref a) e rfl (fun F => ⟨a, vs, rfl, e1 F, e2 F⟩) hg h1
/-! ### dicts made -/

theorem e_dnew {X : Cx} {O : List Kd} {pos : Pos} : PE X (.Dict [] [] pos) (tE X.K O mDnew .ow) := by
  refine PEi pe_dnewK fun σ H Q ⟨F, ρ, d, ρ', ok, hm, q⟩ => ?_
  cases hm
  refine Post.dic (K := X.K) (F := F) (ds := []) (vs := []) ok.sub (fun v F2 H2 pu r2 => ?_) rfl
  obtain ⟨ok2, st2⟩ := ok.pur pu
  exact q v F2 H2 ok2 st2 (r2.rs ok st2)
/-! ### d[k] = v -/
def hasD' (k : Key) (kvs : List (D × D)) : Bool := kvs.any fun p => decide (dKey p.1 = some k)
def putD' (k : Key) (v : D) (kvs : List (D × D)) : List (D × D) := if hasD' k kvs = true then kvs.map (fun p => if dKey p.1 = some k then (p.1, v) else p) else kvs ++ [(kD k, v)]
section
variable {K : PySem.W.Frag} {F : Hp}
theorem RpD.length : ∀ {kvs : List (D × D)} {vs : List (Key × V)}, RpD K F kvs vs → vs.length = kvs.length
  | [], _, h => by
    rw [show _ = [] from h]
    rfl
  | (_, _) :: r, _, ⟨_, _, _, e, _, _, h⟩ => by
    rw [e, List.length_cons, List.length_cons, RpD.length h]
theorem RpD.any {k : Key} : ∀ {kvs : List (D × D)} {vs : List (Key × V)}, RpD K F kvs vs → (vs.any fun kv => decide (kv.1 = k)) = hasD' k kvs
  | [], _, h => by
    rw [show _ = [] from h]
    rfl
  | (_, _) :: r, _, ⟨q, v, vr, e, e2, h1, h⟩ => by
    subst e e2
    unfold hasD'
    rw [List.any_cons, List.any_cons]
    have z : decide (q = k) = decide (dKey (kD q) = some k) := by
      rw [dKey_kD]
      exact decide_eq_decide.mpr ⟨fun e => by rw [e], fun e => Option.some.inj e⟩
    have ih := RpD.any (k := k) h
    unfold hasD' at ih
    rw [ih]
    dsimp only
    rw [z]
theorem RpD.repl {k : Key} {d : D} {v : V} (hd : Rp K F d v) : ∀ {kvs : List (D × D)} {vs : List (Key × V)}, RpD K F kvs vs → RpD K F (kvs.map fun p => if dKey p.1 = some k then (p.1, d) else p) (vs.map fun kv => if kv.1 = k then (kv.1, v) else kv)
  | [], _, h => by
    rw [show _ = [] from h]
    rfl
  | (_, b) :: r, _, ⟨q, u, vr, e, e2, h1, h⟩ => by
    subst e e2
    have ih := RpD.repl (k := k) hd h
    rw [List.map_cons, List.map_cons]
    by_cases e : q = k
    · subst e
      rw [if_pos (dKey_kD q), if_pos rfl]
      exact ⟨q, v, _, rfl, rfl, hd, ih⟩
    · rw [if_neg (fun z => e (Option.some.inj ((dKey_kD q).symm.trans z))), if_neg e]
      exact ⟨q, u, _, rfl, rfl, h1, ih⟩
theorem RpD.snoc {k : Key} {d : D} {v : V} (hd : Rp K F d v) : ∀ {kvs : List (D × D)} {vs : List (Key × V)}, RpD K F kvs vs → RpD K F (kvs ++ [(kD k, d)]) (vs ++ [(k, v)])
  | [], _, h => by
    rw [show _ = [] from h]
    exact ⟨k, v, [], rfl, rfl, hd, rfl⟩
  | (_, b) :: r, _, ⟨q, u, vr, e, e2, h1, h⟩ => by
    subst e e2
    exact ⟨q, u, _, rfl, rfl, h1, RpD.snoc hd h⟩
theorem RpD.put {k : Key} {d : D} {v : V} (hd : Rp K F d v) {kvs : List (D × D)} {vs : List (Key × V)} (h : RpD K F kvs vs) : RpD K F (putD' k d kvs) (putK vs k v) := by
  unfold putD' putK
  rw [h.any]
  split
  · exact h.repl hd
  · exact h.snoc hd
end
/-- d[k] = v of a slot's dict -/
def mDput (i : Nat) (mi mv : M) : MS := fun ρ => (mv ρ).bind fun p => (mBr i p.2).bind fun _ => (mi p.2).bind fun q => match q.2[i]? with
  | some (some (.dict kvs)) => if kvs.length < 1000000 then (dKey q.1).map fun k => (.nx, q.2.set i (some (.dict (putD' k p.1 kvs)))) else none
  | _ => none
section
variable {X : Cx} {O : List Kd} {pos : Pos} {e : Expr}
theorem s_dput (i : Nat) {o ix : Expr} {mi mv : M} {r : Ak} {spos : Pos} (hu : X.A.units + 65 < cLine) (hO : mutK O[i]? = true) (ho : PE X o (tE X.K O (mBr i) (.br i))) (hi : PE X ix (tE X.K O mi .fz)) (he : PE X e (tE X.K O mv .fz))
    (hs : swapsWith e (some (.Subscript o ix spos)) pos.line X.env = pure false := by rfl) : PS X (.Assign [.Subscript o ix spos] e pos) (tS X.K O (mDput i mi mv) r) := by
  refine PSi (ps_dput (by omega) ho hi he hs) fun Dn σ H ⟨F, ρ, fl, ρ', ok, hm, q⟩ => ?_
  obtain ⟨⟨d1, ρ1⟩, e1, e2⟩ := bind_some hm
  obtain ⟨⟨d2, ρ2⟩, e3, e4⟩ := bind_some e2
  obtain ⟨⟨d3, ρ3⟩, e5, e6⟩ := bind_some e4
  dsimp only at e5 e6
  split at e6
  · rename_i kvs g2
    split at e6
    · rename_i hlen
      obtain ⟨k, g3, g4⟩ := map_some e6
      cases g4
      have hρ : ρ2 = ρ1 := by
        obtain ⟨_, _, z⟩ := slot_some e3
        cases z
        rfl
      subst hρ
      refine ⟨F, ρ, d1, ρ2, ok, e1, fun v F1 H1 ok1 st1 r1 => ?_⟩
      refine ⟨F1, ρ2, d2, ρ2, ok1, e3, fun o F2 H2 ok2 st2 r2 => ?_⟩
      refine ⟨F2, ρ2, d3, ρ3, ok2, e5, fun iv F3 H3 ok3 st3 r3 => ?_⟩
      have go := (st1.trans st2).trans st3
      obtain ⟨r2, k0, k1, k2⟩ := r2.step st3 rfl
      obtain ⟨pp, y1, y2, oo, y3, xs, y4, y5⟩ := ok3.ow i k0 _ k1 k2 g2
      rw [y1] at r2
      cases r2
      subst y4
      have r3 : iv = kV k := dKey_rp g3 (Rp.vw (H := H3) ok3.sub r3)
      subst r3
      have rv : Rp X.K F3 d1 v := Rp.mono (st2.trans st3).ex _ _ r1
      have kl : k0.lock = false := by
        rw [k1] at hO
        cases k0 <;> first | rfl | cases hO
      obtain ⟨z1, z2⟩ := ok3.chg (o := .dK (putK xs k v)) (d := .dict (putD' k d1 kvs)) k1 k2 kl g2 y1 y2 ⟨_, rfl, y5.put rv⟩
      exact ⟨pp, _, rfl, .inl ⟨xs, k, y3, rfl, by rw [y5.length]; exact Nat.lt_of_lt_of_le hlen (by decide), rfl⟩, q σ F3 _ z1 (go.trans z2)⟩
    · cases e6
  · cases e6
end
end DL

/-! EH1: an object's attributes read. -/
namespace DL
open PySem PySem.Spec PyProof.Rows L2
theorem sv_attr {O : List Kd} {H : Hp} {σ : L2.St} {i : Nat} {f : Str} {C dx : Addr} {fs : List (Str × V)} (hi : ¬ i < nl O) (hf : (ats O)[i - nl O]? = some f) (e : H (ob O σ) = some (.ins C dx fs)) : sv O H σ i = some (fs.lookup f) := by
  unfold sv attrs
  rw [if_neg hi, hf, e]
section
variable {X : Cx} {O : List Kd} {x f : Str} {p pos : Pos}
/-- what the object's class must be -/
structure ClsF (K : PySem.W.Frag) (c f : Str) : Prop where
  cls : Cls K (He.ga K c)
  no : NoAttr K (He.ga K c) f
/-- o.f, frozen -/
theorem e_attr (i : Nat) (hc : ClsF X.K (cn O) f) (hn : hasO O = true := by rfl) (hO : O[i]? = some Kd.fz := by rfl) (hi : ¬ i < nl O := by decide) (hf : (ats O)[i - nl O]? = some f := by rfl) (hN : X.N[oi O]? = some x := by rfl)
    (hv : Vis X.env.scope x := by first | exact Or.inl rfl | exact Or.inr (Or.inl rfl) | exact Or.inr (Or.inr rfl)) (hd : (x == ("__debug__" : Str)) = false := by decide) (hcd : (x == ("__classdict__" : Str)) = false := by decide)
    (hb : attributeBase (.Name x p) f X.env (eval (.Name x p) X.env) = eval (.Name x p) X.env := by rfl) : PE X (.Attribute (.Name x p) f pos) (tE X.K O (mVar i) .fz) := by
  refine PEi (pe_fld (pe_var hN hv hd hcd) hb) fun σ H Q h => ?_
  obtain ⟨F, ρ, d, ρ', ok, hm, k⟩ := h
  obtain ⟨d', e1, e2⟩ := slot_some hm
  cases e2
  obtain ⟨v, e3, r⟩ := ok.fz i _ hO e1
  have bo := ok.obj hn
  obtain ⟨C, dx, fs, e4, e5⟩ := bo.ex
  have eC := (bo.cls _ _ _ e4).1
  subst eC
  have e6 := (sv_attr hi hf e4).symm.trans e3
  exact ⟨.ref (ob O σ), bo.at0, ob O σ, _, dx, fs, v, rfl, e4, hc.cls, hc.no, Option.some.inj e6, k v F H ok (.refl _ _) r⟩
/-- o.f, owned, lent -/
theorem e_brA (i : Nat) (hc : ClsF X.K (cn O) f) (hn : hasO O = true := by rfl) (hO : ∃ q : Kd, O[i]? = some q ∧ q.own = true := by exact ⟨_, rfl, rfl⟩) (hi : ¬ i < nl O := by decide) (hf : (ats O)[i - nl O]? = some f := by rfl) (hN : X.N[oi O]? = some x := by rfl)
    (hv : Vis X.env.scope x := by first | exact Or.inl rfl | exact Or.inr (Or.inl rfl) | exact Or.inr (Or.inr rfl)) (hd : (x == ("__debug__" : Str)) = false := by decide) (hcd : (x == ("__classdict__" : Str)) = false := by decide)
    (hb : attributeBase (.Name x p) f X.env (eval (.Name x p) X.env) = eval (.Name x p) X.env := by rfl) : PE X (.Attribute (.Name x p) f pos) (tE X.K O (mBr i) (.br i)) := by
  refine PEi (pe_fld (pe_var hN hv hd hcd) hb) fun σ H Q h => ?_
  obtain ⟨F, ρ, d, ρ', ok, hm, k⟩ := h
  obtain ⟨d', e1, e2⟩ := slot_some hm
  cases e2
  obtain ⟨q, h1, h2⟩ := hO
  obtain ⟨a, e3, g, r⟩ := ok.ow i q _ h1 h2 e1
  have bo := ok.obj hn
  obtain ⟨C, dx, fs, e4, e5⟩ := bo.ex
  have eC := (bo.cls _ _ _ e4).1
  subst eC
  have e6 := (sv_attr hi hf e4).symm.trans e3
  exact ⟨.ref (ob O σ), bo.at0, ob O σ, _, dx, fs, .ref a, rfl, e4, hc.cls, hc.no, Option.some.inj e6, k _ F H ok (.refl _ _) ⟨e3, q, h1, h2⟩⟩
end
end DL

/-! EH2: an object's attributes stored. -/
namespace DL
open PySem PySem.Spec PyProof.Rows L2

theorem keys_put {as : List Str} {fs : List (Str × V)} {f : Str} {v : V} (hf : f ∈ as) (h : KeysOk as fs) : KeysOk as (putF f v fs) := by
  have mem : ∀ (fs : List (Str × V)) (g : Str), g ∈ (putF f v fs).map (·.1) → g = f ∨ g ∈ fs.map (·.1) := fun fs => by
    induction fs with
    | nil =>
      intro g hg
      have hg : g ∈ [f] := hg
      exact .inl (List.mem_singleton.mp hg)
    | cons a r ih =>
      intro g hg
      obtain ⟨k, x⟩ := a
      rw [show putF f v ((k, x) :: r) = (if k = f then (k, v) :: r else (k, x) :: putF f v r) from rfl] at hg
      by_cases hk : k = f
      · rw [if_pos hk] at hg
        exact .inr hg
      · rw [if_neg hk] at hg
        rcases List.mem_cons.mp (show g ∈ k :: (putF f v r).map (·.1) from hg) with z | z
        · exact .inr (by rw [z]; exact List.mem_cons_self)
        · rcases ih g z with z | z
          · exact .inl z
          · exact .inr (List.mem_cons_of_mem _ z)
  have nd : ∀ fs : List (Str × V), (fs.map (·.1)).Nodup → ((putF f v fs).map (·.1)).Nodup := fun fs => by
    induction fs with
    | nil =>
      intro _
      exact List.nodup_cons.mpr ⟨fun z => (by cases z), List.nodup_nil⟩
    | cons a r ih =>
      intro hn
      obtain ⟨k, x⟩ := a
      obtain ⟨n1, n2⟩ := List.nodup_cons.mp (show (k :: r.map (·.1)).Nodup from hn)
      rw [show putF f v ((k, x) :: r) = (if k = f then (k, v) :: r else (k, x) :: putF f v r) from rfl]
      by_cases hk : k = f
      · rw [if_pos hk]
        exact hn
      · rw [if_neg hk]
        refine List.nodup_cons.mpr ⟨fun z => ?_, ih n2⟩
        rcases mem r _ z with z | z
        · exact hk z
        · exact n1 z
  refine ⟨nd fs h.1, fun g hg => ?_⟩
  rcases mem fs g hg with z | z
  · rw [z]
    exact hf
  · exact h.2 g z
theorem nodup_len : ∀ {as bs : List Str}, as.Nodup → (∀ a, a ∈ as → a ∈ bs) → as.length ≤ bs.length
  | [], _, _, _ => Nat.zero_le _
  | a :: as, bs, h, m => by
    obtain ⟨n1, n2⟩ := List.nodup_cons.mp h
    have ha : a ∈ bs := m a List.mem_cons_self
    have ih := nodup_len (bs := bs.erase a) n2 fun b hb => (List.mem_erase_of_ne fun z => n1 (by rw [← z]; exact hb)).mpr (m b (List.mem_cons_of_mem _ hb))
    rw [List.length_erase_of_mem ha] at ih
    have : 0 < bs.length := List.length_pos_of_mem ha
    rw [List.length_cons]
    omega
theorem KeysOk.len {as : List Str} {fs : List (Str × V)} (h : KeysOk as fs) : fs.length ≤ as.length := by
  have := nodup_len h.1 h.2
  rw [List.length_map] at this
  exact this
theorem KeysOk.non {as : List Str} {fs : List (Str × V)} (h : KeysOk as fs) {m : Str} (hm : m ∉ as) : fs.lookup m = none := by
  cases e : fs.lookup m with
  | none => rfl
  | some v => exact (hm (h.2 m (List.mem_map.mpr ⟨(m, v), PySem.mem_of_lookup e, rfl⟩))).elim
section
variable {K : PySem.W.Frag} {O : List Kd} {w : Wd} {i : Nat} {f : Str} {C dx : Addr} {fs : List (Str × V)} {v : V} {d : D}
theorem sv_store {H : Hp} {σ : L2.St} {j : Nat} (e : H (ob O σ) = some (.ins C dx fs)) (hi : ¬ i < nl O) (hf : (ats O)[i - nl O]? = some f) (nd : (ats O).Nodup) :
    sv O (upd H (ob O σ) (.ins C dx (putF f v fs))) σ j = if j = i then some (some v) else sv O H σ j := by
  by_cases hj : j < nl O
  · rw [sv_loc hj, sv_loc hj, if_neg fun z => hi (by rw [← z]; exact hj)]
  · cases ha : (ats O)[j - nl O]? with
    | none =>
      have ne : j ≠ i := fun z => by
        rw [z, hf] at ha
        cases ha
      rw [if_neg ne]
      unfold sv
      rw [if_neg hj, if_neg hj, ha]
    | some a =>
      rw [sv_attr hj ha (upd_same (o := HO.ins C dx (putF f v fs))), sv_attr hj ha e, lookup_putF]
      by_cases z : a = f
      · rw [if_pos z]
        have q : j - nl O = i - nl O := by
          obtain ⟨h1, e1⟩ := List.getElem?_eq_some_iff.mp ha
          obtain ⟨h2, e2⟩ := List.getElem?_eq_some_iff.mp hf
          exact (List.getElem_inj nd).mp (by rw [e1, e2, z])
        rw [if_pos (by omega)]
      · rw [if_neg z, if_neg fun q => z (by
          rw [q, hf] at ha
          exact (Option.some.inj ha).symm)]
theorem own_store {F' : Hp} {j : Nat} {b : Addr} (e : w.H (ob O w.σ) = some (.ins C dx fs)) (hi : ¬ i < nl O) (hf : (ats O)[i - nl O]? = some f) (nd : (ats O).Nodup)
    (h : OwnAt O ⟨F', upd w.H (ob O w.σ) (.ins C dx (putF f v fs)), w.σ, w.ρ.set i (some d)⟩ j b) : (j = i ∧ v = .ref b ∧ ∃ k : Kd, O[i]? = some k ∧ k.own = true) ∨ (j ≠ i ∧ OwnAt O w j b) := by
  obtain ⟨k, d', h1, h2, h3, h4⟩ := h
  have h5 := (sv_store (j := j) e hi hf nd).symm.trans h4
  by_cases z : j = i
  · rw [if_pos z] at h5
    subst z
    exact .inl ⟨rfl, Option.some.inj (Option.some.inj h5), k, h1, h2⟩
  · rw [if_neg z] at h5
    have h3 : (w.ρ.set i (some d))[j]? = some (some d') := h3
    rw [List.getElem?_set_ne fun q => z q.symm] at h3
    exact .inr ⟨z, k, d', h1, h2, h3, h5⟩
/-- the heap but for the object -/
theorem ins_ne {b : Addr} {o : HO} (e : w.H (ob O w.σ) = some (.ins C dx fs)) (h : w.H b = some o) (hn : ∀ a c g, o ≠ .ins a c g) : b ≠ ob O w.σ := fun z => by
  rw [z, e] at h
  cases h
  exact hn _ _ _ rfl
theorem ObOk.store {w' : Wd} (h : ObOk K O w) (e : w.H (ob O w.σ) = some (.ins C dx fs)) (hf : f ∈ ats O) (e1 : w'.σ = w.σ) (e2 : w'.H = upd w.H (ob O w.σ) (.ins C dx (putF f v fs))) (e3 : w'.F = w.F) (nf : ¬ Fp O w' (ob O w.σ)) : ObOk K O w' := by
  have eo : ob O w'.σ = ob O w.σ := by rw [e1]
  obtain ⟨a0, a1, ⟨C', dx', fs', a2, a3⟩, a4, _, a6⟩ := h
  rw [e] at a2
  cases a2
  have hd : dx ≠ ob O w.σ := fun z => by
    rw [z, e] at a3
    cases a3
  refine ⟨by rw [eo, e1]; exact a0, a1, ⟨C, dx, putF f v fs, by rw [eo, e2, upd_same], by rw [eo, e2, upd_ne hd]; exact a3⟩, by rw [eo, e3]; exact a4, by rw [eo]; exact nf, fun C' dx' fs' z => ?_⟩
  rw [eo, e2, upd_same] at z
  cases z
  obtain ⟨b1, b2⟩ := a6 C dx fs e
  exact ⟨b1, keys_put hf b2⟩
/-- frozen data into an attribute -/
theorem Ok.setAF (ok : Ok K O w) (hn : hasO O = true) (hO : O[i]? = some Kd.fz) (hi : ¬ i < nl O) (hf : (ats O)[i - nl O]? = some f) (nd : (ats O).Nodup) (e : w.H (ob O w.σ) = some (.ins C dx fs)) (r : Rp K w.F d v) :
    Ok K O ⟨w.F, upd w.H (ob O w.σ) (.ins C dx (putF f v fs)), w.σ, w.ρ.set i (some d)⟩ ∧ StpS O w ⟨w.F, upd w.H (ob O w.σ) (.ins C dx (putF f v fs)), w.σ, w.ρ.set i (some d)⟩ := by
  have bo := ok.obj hn
  have svj : ∀ {j : Nat}, j ≠ i → sv O (upd w.H (ob O w.σ) (.ins C dx (putF f v fs))) w.σ j = w.sv O j := fun {j} z => (sv_store e hi hf nd).trans (if_neg z)
  have noi : ∀ {j : Nat} {b : Addr}, OwnAt O ⟨w.F, upd w.H (ob O w.σ) (.ins C dx (putF f v fs)), w.σ, w.ρ.set i (some d)⟩ j b → OwnAt O w j b := fun {j b} h => by
    rcases own_store e hi hf nd h with ⟨_, _, k, h1, h2⟩ | ⟨_, h⟩
    · rw [hO] at h1
      cases h1
      cases h2
    · exact h
  have fr : w.F (ob O w.σ) = none := bo.fr
  refine ⟨⟨fun b u hb => ?_, ok.ls, by show (w.ρ.set i _).length = _; rw [List.length_set]; exact ok.lr, fun j d' h1 h2 => ?_, fun j k d' h1 h2 h3 => ?_, fun a b p h1 h2 => ok.ap a b p (noi h1) (noi h2), fun _ => ?_⟩,
    ⟨.refl _, fun b o h _ z => ?_, fun _ _ _ _ h => h, fun b ⟨j, h⟩ => .inl ⟨j, noi h⟩, fun j k h1 h2 => ?_, fun j k h1 h2 => ?_, fun j k p d' h1 h2 h3 h4 => ?_, fun _ => ⟨rfl, fun _ z => ?_⟩⟩⟩
  · show upd w.H _ _ b = some u
    rw [upd_ne (ne_of_none hb fr)]
    exact ok.sub b u hb
  · rcases set_get (show (w.ρ.set i (some d))[j]? = _ from h2) with ⟨z, q⟩ | ⟨z, q⟩
    · subst z
      cases q
      exact ⟨v, (sv_store e hi hf nd).trans (if_pos rfl), r⟩
    · obtain ⟨u, g1, g2⟩ := ok.fz j d' h1 q
      exact ⟨u, (svj fun y => z y.symm).trans g1, g2⟩
  · rcases set_get (show (w.ρ.set i (some d))[j]? = _ from h3) with ⟨z, q⟩ | ⟨z, q⟩
    · subst z
      rw [hO] at h1
      cases h1
      cases h2
    · obtain ⟨p, g1, g2, u, g3, g4⟩ := ok.ow j k d' h1 h2 q
      have np : p ≠ ob O w.σ := fun y => bo.nf (by rw [← y]; exact ⟨j, k, d', h1, h2, q, g1⟩)
      exact ⟨p, (svj fun y => z y.symm).trans g1, g2, u, by show upd w.H _ _ p = _; rw [upd_ne np]; exact g3, g4⟩
  · exact bo.store e (List.mem_of_getElem? hf) rfl rfl rfl fun ⟨j, h⟩ => bo.nf ⟨j, noi h⟩
  · show upd w.H _ _ b = some o
    rw [upd_ne (z hn)]
    exact h
  · refine svj fun z => ?_
    subst z
    rw [hO] at h1
    cases h1
    cases h2
  · refine List.getElem?_set_ne fun z => ?_
    subst z
    rw [hO] at h1
    cases h1
    cases h2
  · have np : p ≠ ob O w.σ := fun y => bo.nf (by rw [← y]; exact ⟨j, k, d', h1, Kd.own_of h2, h3, h4⟩)
    exact upd_ne np
  · have z : upd w.H (ob O w.σ) (.ins C dx (putF f v fs)) (ob O w.σ) = none := z
    rw [upd_same] at z
    cases z
/-- a new owned object into an attribute -/
theorem Ok.setAO {q : Addr} (ok : Ok K O w) (hn : hasO O = true) (hO : O[i]? = some Kd.ow) (hi : ¬ i < nl O) (hf : (ats O)[i - nl O]? = some f) (nd : (ats O).Nodup) (e : w.H (ob O w.σ) = some (.ins C dx fs))
    (hF : w.F q = none) (r : OwnO K w.F w.H q d) (np : ¬ Fp O w q) (npo : q ≠ ob O w.σ) {w0 : Wd} (st : StpS O w0 w) (hq : Fp O w0 q ∨ w0.H q = none) :
    Ok K O ⟨w.F, upd w.H (ob O w.σ) (.ins C dx (putF f (.ref q) fs)), w.σ, w.ρ.set i (some d)⟩ ∧ StpS O w0 ⟨w.F, upd w.H (ob O w.σ) (.ins C dx (putF f (.ref q) fs)), w.σ, w.ρ.set i (some d)⟩ := by
  have bo := ok.obj hn
  have svj : ∀ {j : Nat}, j ≠ i → sv O (upd w.H (ob O w.σ) (.ins C dx (putF f (.ref q) fs))) w.σ j = w.sv O j := fun {j} z => (sv_store e hi hf nd).trans (if_neg z)
  have noi : ∀ {j : Nat} {b : Addr}, OwnAt O ⟨w.F, upd w.H (ob O w.σ) (.ins C dx (putF f (.ref q) fs)), w.σ, w.ρ.set i (some d)⟩ j b → (j = i ∧ b = q) ∨ (j ≠ i ∧ OwnAt O w j b) := fun {j b} h => by
    rcases own_store e hi hf nd h with ⟨z, y, _⟩ | h
    · cases y
      exact .inl ⟨z, rfl⟩
    · exact .inr h
  have fr : w.F (ob O w.σ) = none := bo.fr
  obtain ⟨o, r1, r2⟩ := r
  refine ⟨⟨fun b u hb => ?_, ok.ls, by show (w.ρ.set i _).length = _; rw [List.length_set]; exact ok.lr, fun j d' h1 h2 => ?_, fun j k d' h1 h2 h3 => ?_, fun a b p h1 h2 => ?_, fun _ => ?_⟩,
    ⟨st.ex, fun b u h z y => ?_, st.nw, fun b ⟨j, h⟩ => ?_, fun j k h1 h2 => ?_, fun j k h1 h2 => ?_, fun j k p d' h1 h2 h3 h4 => ?_, fun _ => ⟨(st.o0 hn).1, fun _ z => ?_⟩⟩⟩
  · show upd w.H _ _ b = some u
    rw [upd_ne (ne_of_none hb fr)]
    exact ok.sub b u hb
  · rcases set_get (show (w.ρ.set i (some d))[j]? = _ from h2) with ⟨z, y⟩ | ⟨z, y⟩
    · subst z
      rw [hO] at h1
      cases h1
    · obtain ⟨u, g1, g2⟩ := ok.fz j d' h1 y
      exact ⟨u, (svj fun y => z y.symm).trans g1, g2⟩
  · rcases set_get (show (w.ρ.set i (some d))[j]? = _ from h3) with ⟨z, y⟩ | ⟨z, y⟩
    · subst z
      cases y
      exact ⟨q, (sv_store e hi hf nd).trans (if_pos rfl), hF, o, by show upd w.H _ _ q = _; rw [upd_ne npo]; exact r1, r2⟩
    · obtain ⟨p, g1, g2, u, g3, g4⟩ := ok.ow j k d' h1 h2 y
      have np : p ≠ ob O w.σ := fun x => bo.nf (by rw [← x]; exact ⟨j, k, d', h1, h2, y, g1⟩)
      exact ⟨p, (svj fun y => z y.symm).trans g1, g2, u, by show upd w.H _ _ p = _; rw [upd_ne np]; exact g3, g4⟩
  · rcases noi h1 with ⟨e1, q1⟩ | ⟨e1, q1⟩ <;> rcases noi h2 with ⟨e2, q2⟩ | ⟨e2, q2⟩
    · rw [e1, e2]
    · rw [q1] at q2
      exact (np ⟨b, q2⟩).elim
    · rw [q2] at q1
      exact (np ⟨a, q1⟩).elim
    · exact ok.ap a b p q1 q2
  · exact bo.store e (List.mem_of_getElem? hf) rfl rfl rfl fun ⟨j, h⟩ => by
      rcases noi h with ⟨_, y⟩ | ⟨_, y⟩
      · exact npo y.symm
      · exact bo.nf ⟨j, y⟩
  · show upd w.H _ _ b = some u
    have y := y hn
    rw [← (st.o0 hn).1] at y
    rw [upd_ne y]
    exact st.kp b u h z fun _ => by rw [← (st.o0 hn).1]; exact y
  · rcases noi h with ⟨_, y⟩ | ⟨_, y⟩
    · rw [y]
      exact hq
    · exact st.fp b ⟨j, y⟩
  · have z : j ≠ i := fun z => by
      subst z
      rw [hO] at h1
      cases h1
      cases h2
    exact (svj z).trans (st.pn j k h1 h2)
  · have z : i ≠ j := fun z => by
      subst z
      rw [hO] at h1
      cases h1
      cases h2
    exact (List.getElem?_set_ne z).trans (st.lk j k h1 h2)
  · have g3 := (st.lk j k h1 h2).trans h3
    have g4 := (st.pn j k h1 (Kd.pin_of h2)).trans h4
    have np : p ≠ ob O w.σ := fun y => bo.nf (by rw [← y]; exact ⟨j, k, d', h1, Kd.own_of h2, g3, g4⟩)
    exact (upd_ne np).trans (st.lo j k p d' h1 h2 h3 h4)
  · have z : upd w.H (ob O w.σ) (.ins C dx (putF f (.ref q) fs)) (ob O w0.σ) = none := z
    rw [← (st.o0 hn).1, upd_same] at z
    cases z
end
section
variable {X : Cx} {O : List Kd} {x f : Str} {p pos pos' : Pos} {e : Expr} {m : M} {r : Ak}
/-- o.f = frozen -/
theorem s_attrF (i : Nat) (hc : ClsF X.K (cn O) f) (he : PE X e (tE X.K O m .fz)) (hn : hasO O = true := by rfl) (hO : O[i]? = some Kd.fz := by rfl) (hi : ¬ i < nl O := by decide) (hf : (ats O)[i - nl O]? = some f := by rfl) (nd : (ats O).Nodup := by decide +kernel) (hsz : (ats O).length < 1000 := by decide) (hN : X.N[oi O]? = some x := by rfl)
    (hv : Vis X.env.scope x := by first | exact Or.inl rfl | exact Or.inr (Or.inl rfl) | exact Or.inr (Or.inr rfl)) (hd : (x == ("__debug__" : Str)) = false := by decide) (hcd : (x == ("__classdict__" : Str)) = false := by decide)
    (hs : swapsWith e (some (.Attribute (.Name x p) f pos')) pos.line X.env = pure false := by rfl) : PS X (.Assign [.Attribute (.Name x p) f pos'] e pos) (tS X.K O (mSet i m) r) := by
  refine PSi (ps_fld (pe_var hN hv hd hcd) he hs) fun Dn σ H ⟨F, ρ, fl, ρ', ok, hm, q⟩ => ?_
  obtain ⟨⟨d, ρ1⟩, e1, e2⟩ := map_some hm
  cases e2
  refine ⟨F, ρ, d, ρ1, ok, e1, fun v F1 H1 ok1 st1 r1 => ?_⟩
  have bo := ok1.obj hn
  obtain ⟨C, dx, fs, g1, g2⟩ := bo.ex
  obtain ⟨g3, g4⟩ := bo.cls _ _ _ g1
  subst g3
  obtain ⟨ok2, st2⟩ := ok1.setAF hn hO hi hf nd g1 r1
  exact ⟨.ref (ob O σ), bo.at0, ob O σ, _, dx, fs, rfl, g1, hc.cls, hc.no, Nat.lt_of_le_of_lt g4.len hsz, q σ F1 _ ok2 (st1.toStpS.trans st2)⟩
/-- o.f = new -/
theorem s_attrO (i : Nat) (hc : ClsF X.K (cn O) f) (he : PE X e (tE X.K O m .ow)) (hn : hasO O = true := by rfl) (hO : O[i]? = some Kd.ow := by rfl) (hi : ¬ i < nl O := by decide) (hf : (ats O)[i - nl O]? = some f := by rfl) (nd : (ats O).Nodup := by decide +kernel) (hsz : (ats O).length < 1000 := by decide) (hN : X.N[oi O]? = some x := by rfl)
    (hv : Vis X.env.scope x := by first | exact Or.inl rfl | exact Or.inr (Or.inl rfl) | exact Or.inr (Or.inr rfl)) (hd : (x == ("__debug__" : Str)) = false := by decide) (hcd : (x == ("__classdict__" : Str)) = false := by decide)
    (hs : swapsWith e (some (.Attribute (.Name x p) f pos')) pos.line X.env = pure false := by rfl) : PS X (.Assign [.Attribute (.Name x p) f pos'] e pos) (tS X.K O (mSet i m) r) := by
  refine PSi (ps_fld (pe_var hN hv hd hcd) he hs) fun Dn σ H ⟨F, ρ, fl, ρ', ok, hm, q⟩ => ?_
  obtain ⟨⟨d, ρ1⟩, e1, e2⟩ := map_some hm
  cases e2
  refine ⟨F, ρ, d, ρ1, ok, e1, fun v F1 H1 ok1 st1 r1 => ?_⟩
  have bo := ok1.obj hn
  obtain ⟨C, dx, fs, g1, g2⟩ := bo.ex
  obtain ⟨g3, g4⟩ := bo.cls _ _ _ g1
  subst g3
  obtain ⟨a, rfl, k1, k2, k3, k4, k5⟩ := r1
  obtain ⟨ok2, st2⟩ := ok1.setAO hn hO hi hf nd g1 k1 k2 k3 (k5 hn) st1.toStpS k4
  exact ⟨.ref (ob O σ), bo.at0, ob O σ, _, dx, fs, rfl, g1, hc.cls, hc.no, Nat.lt_of_le_of_lt g4.len hsz, q σ F1 _ ok2 st2⟩
/-- o.f op= frozen -/
theorem s_attrAug (i : Nat) {bo : Operator} {rr : R2} {op : List D → Option D} (ho : OpR X (inplaceOp bo) rr) (hsem : LSem X.K (rL2 rr) op .fz) (hc : ClsF X.K (cn O) f) (he : PE X e (tE X.K O m .fz)) (hn : hasO O = true := by rfl) (hO : O[i]? = some Kd.fz := by rfl) (hi : ¬ i < nl O := by decide) (hf : (ats O)[i - nl O]? = some f := by rfl) (nd : (ats O).Nodup := by decide +kernel) (hsz : (ats O).length < 1000 := by decide) (hN : X.N[oi O]? = some x := by rfl)
    (hv : Vis X.env.scope x := by first | exact Or.inl rfl | exact Or.inr (Or.inl rfl) | exact Or.inr (Or.inr rfl)) (hd : (x == ("__debug__" : Str)) = false := by decide) (hcd : (x == ("__classdict__" : Str)) = false := by decide) :
    PS X (.AugAssign (.Attribute (.Name x p) f pos') bo e pos) (tS X.K O (mAug i m op) r) := by
  refine PSi (ps_fldaug (pe_var hN hv hd hcd) he (fun pins s σ H x y v u Q I rx ry h => ho pins s σ H x y v u Q I rx ry h)) fun Dn σ H ⟨F, ρ, fl, ρ', ok, hm, q⟩ => ?_
  obtain ⟨d, e1, e2⟩ := slot_some hm
  obtain ⟨⟨d2, ρ1⟩, e3, e4⟩ := bind_some e2
  obtain ⟨z, e5, e6⟩ := map_some e4
  cases e6
  obtain ⟨v, g1, g2⟩ := ok.fz i d hO e1
  have b0 := ok.obj hn
  obtain ⟨C, dx, fs, k1, k2⟩ := b0.ex
  obtain ⟨k3, k4⟩ := b0.cls _ _ _ k1
  subst k3
  have lk := Option.some.inj ((sv_attr hi hf k1).symm.trans g1)
  refine ⟨.ref (ob O σ), b0.at0, ob O σ, _, dx, fs, v, rfl, k1, hc.cls, hc.no, lk, F, ρ, d2, ρ1, ok, e3, fun u F1 H1 ok1 st1 r1 => ?_⟩
  have key : rL2 rr [v, u] H1 fun zv H2 => ∃ dx' fs', H2 (ob O σ) = some (.ins (He.ga X.K (cn O)) dx' fs') ∧ fs'.length < 1000 ∧ Dn.nx σ (upd H2 (ob O σ) (.ins (He.ga X.K (cn O)) dx' (putF f zv fs'))) := by
    refine hsem F1 H1 [d, d2] [v, u] z _ ok1.sub ⟨v, [u], rfl, Rp.vw ok1.sub (g2.mono st1.ex), u, [], rfl, Rp.vw ok1.sub r1, rfl⟩ e5 fun zv F2 H2 pu r2 => ?_
    obtain ⟨ok2, st2⟩ := ok1.pur pu
    have b2 := ok2.obj hn
    obtain ⟨C, dx', fs', y1, y2⟩ := b2.ex
    obtain ⟨y3, y4⟩ := b2.cls _ _ _ y1
    subst y3
    obtain ⟨ok3, st3⟩ := ok2.setAF hn hO hi hf nd y1 r2
    exact ⟨dx', fs', y1, Nat.lt_of_le_of_lt y4.len hsz, q σ F2 _ ok3 ((st1.trans st2).toStpS.trans st3)⟩
  obtain ⟨x', y', ee, kk⟩ := key
  cases ee
  exact kk
end
end DL

/-! EH3: expressions that may change the object; methods: entry and exit. -/
namespace DL
open PySem PySem.Spec PyProof.Rows L2

/-- a step; the object is as it was, if b -/
structure StpB (b : Bool) (O : List Kd) (w w' : Wd) : Prop extends StpS O w w' where
  ostB : b = true → hasO O = true → w'.H (ob O w.σ) = w.H (ob O w.σ)
theorem Stp.toB {O : List Kd} {w w' : Wd} {b : Bool} (st : Stp O w w') : StpB b O w w' := ⟨st.toStpS, fun _ => st.ost⟩
theorem StpB.stp {O : List Kd} {w w' : Wd} (st : StpB true O w w') : Stp O w w' := ⟨st.toStpS, st.ostB rfl⟩
theorem StpS.toB {O : List Kd} {w w' : Wd} (st : StpS O w w') : StpB false O w w' := ⟨st, fun z => by cases z⟩
def tEB (b : Bool) (K : PySem.W.Frag) (O : List Kd) (m : M) (k : Ak) : TE := fun σ H Q => ∃ F ρ d ρ', Ok K O ⟨F, H, σ, ρ⟩ ∧ m ρ = some (d, ρ') ∧
  ∀ v F' H', Ok K O ⟨F', H', σ, ρ'⟩ → StpB b O ⟨F, H, σ, ρ⟩ ⟨F', H', σ, ρ'⟩ → Rs K O ⟨F, H, σ, ρ⟩ ⟨F', H', σ, ρ'⟩ k d v → Q v H'
def tES (K : PySem.W.Frag) (O : List Kd) (m : M) (k : Ak) : TE := fun σ H Q => ∃ F ρ d ρ', Ok K O ⟨F, H, σ, ρ⟩ ∧ m ρ = some (d, ρ') ∧
  ∀ v F' H', Ok K O ⟨F', H', σ, ρ'⟩ → StpS O ⟨F, H, σ, ρ⟩ ⟨F', H', σ, ρ'⟩ → Rs K O ⟨F, H, σ, ρ⟩ ⟨F', H', σ, ρ'⟩ k d v → Q v H'
def tTS (K : PySem.W.Frag) (O : List Kd) (m : MT) : TT := fun σ H Q => ∃ F ρ b ρ', Ok K O ⟨F, H, σ, ρ⟩ ∧ m ρ = some (b, ρ') ∧
  ∀ F' H', Ok K O ⟨F', H', σ, ρ'⟩ → StpS O ⟨F, H, σ, ρ⟩ ⟨F', H', σ, ρ'⟩ → Q b H'
section
variable {X : Cx} {O : List Kd} {e a b : Expr} {m : M} {k : Ak} {ta tb : MT} {r : Ak} {pos : Pos} {rest : List Expr} {ma mb : MS} {body : List Stmt} {x : Str} {i : Nat}
theorem es_b (h : PE X e (tEB false X.K O m k)) : PE X e (tES X.K O m k) := PEi h fun σ H Q ⟨F, ρ, d, ρ', ok, hm, q⟩ => ⟨F, ρ, d, ρ', ok, hm, fun v F1 H1 ok1 st1 r1 => q v F1 H1 ok1 st1.toStpS r1⟩
theorem e_b (h : PE X e (tEB true X.K O m k)) : PE X e (tE X.K O m k) := PEi h fun σ H Q ⟨F, ρ, d, ρ', ok, hm, q⟩ => ⟨F, ρ, d, ρ', ok, hm, fun v F1 H1 ok1 st1 r1 => q v F1 H1 ok1 st1.stp r1⟩
theorem es_of (h : PE X e (tE X.K O m k)) : PE X e (tES X.K O m k) := PEi h fun σ H Q ⟨F, ρ, d, ρ', ok, hm, q⟩ => ⟨F, ρ, d, ρ', ok, hm, fun v F1 H1 ok1 st1 r1 => q v F1 H1 ok1 st1.toStpS r1⟩
theorem ts_of (h : PT X e (tT X.K O ta)) : PT X e (tTS X.K O ta) := PTi h fun σ H Q ⟨F, ρ, d, ρ', ok, hm, q⟩ => ⟨F, ρ, d, ρ', ok, hm, fun F1 H1 ok1 st1 => q F1 H1 ok1 st1.toStpS⟩
theorem ts_val (h : PE X e (tES X.K O m .fz)) (he : ∀ whole, isTrue e X.env whole = (do let v ← whole; standAt e.pos; holding [v] (truthy v)) := by intro _; rfl) : PT X e (tTS X.K O (mTr m)) :=
  PTi (pt_val h he) fun σ H Q ⟨F, ρ, c, ρ', ok, hm, q⟩ => ⟨F, ρ, _, ρ', ok, tr_some hm, fun v F1 H1 ok1 st1 r1 => ⟨c, r1, q F1 H1 ok1 st1⟩⟩
theorem ws_and1 (ha : PT X a (tTS X.K O ta)) : PW X (.BoolOp .And [a] pos) (tTS X.K O ta) := pw_and1 ha
theorem ws_and (ha : PT X a (tTS X.K O ta)) (hb : PW X (.BoolOp .And (b :: rest) pos) (tTS X.K O tb)) : PW X (.BoolOp .And (a :: b :: rest) pos) (tTS X.K O (mAnd ta tb)) := by
  refine PWi (pw_and ha hb) fun σ H Q h => ?_
  obtain ⟨F, ρ, c, ρ', ok, hm, q⟩ := h
  obtain ⟨⟨c1, ρ1⟩, h1, h2⟩ := bind_some hm
  refine ⟨F, ρ, c1, ρ1, ok, h1, fun F1 H1 ok1 st1 => ?_⟩
  cases c1 with
  | true =>
    rw [if_pos rfl] at h2 ⊢
    exact ⟨F1, ρ1, c, ρ', ok1, h2, fun F2 H2 ok2 st2 => q F2 H2 ok2 (st1.trans st2)⟩
  | false =>
    rw [if_neg Bool.false_ne_true] at h2 ⊢
    cases h2
    exact q F1 H1 ok1 st1
theorem s_exprS (h : PE X e (tES X.K O m k)) (hs : swapsWith e none pos.line X.env = pure false := by rfl) : PS X (.Expr e pos) (tS X.K O (mDrop m) r) := by
  refine PSi (ps_expr h hs) fun Dn σ H ⟨F, ρ, fl, ρ', ok, hm, q⟩ => ?_
  obtain ⟨⟨d, ρ1⟩, e1, e2⟩ := map_some hm
  cases e2
  exact ⟨F, ρ, d, ρ1, ok, e1, fun v F1 H1 ok1 st1 _ => q σ F1 H1 ok1 st1⟩
theorem s_retS (h : PE X e (tES X.K O m r)) : PS X (.Return (some e) pos) (tS X.K O (mRet m) r) := by
  refine PSi (ps_ret h) fun Dn σ H ⟨F, ρ, fl, ρ', ok, hm, q⟩ => ?_
  obtain ⟨⟨d, ρ1⟩, e1, e2⟩ := map_some hm
  cases e2
  exact ⟨F, ρ, d, ρ1, ok, e1, fun v F1 H1 ok1 st1 r1 => q v σ F1 H1 ok1 st1 r1⟩
theorem asgFzS {K : PySem.W.Frag} {Dn : Ends} {σ : L2.St} {H : Hp} (hO : O[i]? = some Kd.fz) (hl : i < nl O) (h0 : hasO O = false ∨ i ≠ oi O) (h : tS K O (mSet i m) r Dn σ H) : tAsg (tES K O m .fz) (gName i) Dn σ H := by
  obtain ⟨F, ρ, fl, ρ', ok, hm, q⟩ := h
  obtain ⟨⟨d, ρ1⟩, e1, e2⟩ := map_some hm
  cases e2
  refine ⟨F, ρ, d, ρ1, ok, e1, fun v F1 H1 ok1 st1 r1 => ?_⟩
  obtain ⟨h1, h2⟩ := ok1.setFz hO hl h0 r1
  exact q _ F1 H1 h1 (st1.trans h2)
theorem asgOwS {K : PySem.W.Frag} {Dn : Ends} {σ : L2.St} {H : Hp} (hO : O[i]? = some Kd.ow) (hl : i < nl O) (h0 : hasO O = false ∨ i ≠ oi O) (h : tS K O (mSet i m) r Dn σ H) : tAsg (tES K O m .ow) (gName i) Dn σ H := by
  obtain ⟨F, ρ, fl, ρ', ok, hm, q⟩ := h
  obtain ⟨⟨d, ρ1⟩, e1, e2⟩ := map_some hm
  cases e2
  refine ⟨F, ρ, d, ρ1, ok, e1, fun v F1 H1 ok1 st1 r1 => ?_⟩
  obtain ⟨p, rfl, r1, r2, r3, r4, r5⟩ := r1
  obtain ⟨h1, h2, h3, h4⟩ := ok1.setOw (p := p) hO hl h0 r1 r2 r3 r5
  refine q _ F1 H1 h1 ⟨st1.ex, st1.kp, st1.nw, fun b hb => ?_, fun j kk g1 g2 => (h3 j kk g1 g2).1.trans (st1.pn j kk g1 g2), fun j kk g1 g2 => ?_, st1.lo, fun e => ⟨(h4 e).trans (st1.o0 e).1, (st1.o0 e).2⟩⟩
  · rcases h2 b hb with z | z
    · rw [z]
      exact r4
    · exact st1.fp b z
  · have gp : kk.pin = true := by
      cases kk <;> first | rfl | cases g2
    exact (h3 j kk g1 gp).2.trans (st1.lk j kk g1 g2)
theorem s_setFS (i : Nat) {pos' : Pos} (hN : X.N.Nodup) (he : PE X e (tES X.K O m .fz)) (hO : O[i]? = some Kd.fz := by rfl) (hl : i < nl O := by decide) (h0 : hasO O = false ∨ i ≠ oi O := by decide) (hi : X.N[i]? = some x := by rfl) (hx : Loc X.env.scope x := by first | exact Or.inl rfl | exact Or.inr rfl) (hs : swapsWith e (some (.Name x pos')) pos.line X.env = pure false := by rfl) (hf : X.fn x = true ∨ X.env.scope.names.lookup x = some .local := by first | exact .inl rfl | exact .inr rfl | assumption) :
    PS X (.Assign [.Name x pos'] e pos) (tS X.K O (mSet i m) r) := PSi (ps_set hN hi hx he hs hf) fun _ _ _ h => asgFzS hO hl h0 h
theorem s_setOS (i : Nat) {pos' : Pos} (hN : X.N.Nodup) (he : PE X e (tES X.K O m .ow)) (hO : O[i]? = some Kd.ow := by rfl) (hl : i < nl O := by decide) (h0 : hasO O = false ∨ i ≠ oi O := by decide) (hi : X.N[i]? = some x := by rfl) (hx : Loc X.env.scope x := by first | exact Or.inl rfl | exact Or.inr rfl) (hs : swapsWith e (some (.Name x pos')) pos.line X.env = pure false := by rfl) (hf : X.fn x = true ∨ X.env.scope.names.lookup x = some .local := by first | exact .inl rfl | exact .inr rfl | assumption) :
    PS X (.Assign [.Name x pos'] e pos) (tS X.K O (mSet i m) r) := PSi (ps_set hN hi hx he hs hf) fun _ _ _ h => asgOwS hO hl h0 h
theorem s_ifS {tc : Expr} {sa sb : List Stmt} {c : MT} (hc : PT X tc (tTS X.K O c)) (ha : PSs X sa (tS X.K O ma r)) (hb : PSs X sb (tS X.K O mb r)) : PS X (.If tc sa sb pos) (tS X.K O (mIte c ma mb) r) := by
  refine PSi (ps_if hc ha hb) fun Dn σ H ⟨F, ρ, fl, ρ', ok, hm, q⟩ => ?_
  obtain ⟨⟨t, ρ1⟩, e1, e2⟩ := bind_some hm
  refine ⟨F, ρ, t, ρ1, ok, e1, fun F1 H1 ok1 st1 => ?_⟩
  cases t with
  | true =>
    rw [if_pos rfl] at e2 ⊢
    refine ⟨F1, ρ1, fl, ρ', ok1, e2, ?_⟩
    cases fl with
    | nx => exact fun σ2 F2 H2 ok2 st2 => q σ2 F2 H2 ok2 (st1.trans st2)
    | bk => exact fun σ2 F2 H2 ok2 st2 => q σ2 F2 H2 ok2 (st1.trans st2)
    | ct => exact fun σ2 F2 H2 ok2 st2 => q σ2 F2 H2 ok2 (st1.trans st2)
    | rt d => exact fun v σ2 F2 H2 ok2 st2 r2 => q v σ2 F2 H2 ok2 (st1.trans st2) (r2.pre st1)
  | false =>
    rw [if_neg Bool.false_ne_true] at e2 ⊢
    refine ⟨F1, ρ1, fl, ρ', ok1, e2, ?_⟩
    cases fl with
    | nx => exact fun σ2 F2 H2 ok2 st2 => q σ2 F2 H2 ok2 (st1.trans st2)
    | bk => exact fun σ2 F2 H2 ok2 st2 => q σ2 F2 H2 ok2 (st1.trans st2)
    | ct => exact fun σ2 F2 H2 ok2 st2 => q σ2 F2 H2 ok2 (st1.trans st2)
    | rt d => exact fun v σ2 F2 H2 ok2 st2 r2 => q v σ2 F2 H2 ok2 (st1.trans st2) (r2.pre st1)
theorem s_whileS {c : MT} {b : MS} (hp : PassesOwn (model X.prog X.w) X.A X.env X.xe) (hc : PT X e (tTS X.K O c)) (hb : PSs X body (tS X.K O b r)) : PS X (.While e body [] pos) (tS X.K O (mWhile c b) r) := by
  refine PSi (ps_while hp hc hb) fun Dn σ H ⟨F, ρ, fl, ρ', ok, hm, q⟩ => ?_
  obtain ⟨n, hn⟩ := mWhile_some hm
  refine ⟨fun m σ2 H2 => ∃ F2 ρ2, Ok X.K O ⟨F2, H2, σ2, ρ2⟩ ∧ StpS O ⟨F, H, σ, ρ⟩ ⟨F2, H2, σ2, ρ2⟩ ∧ whN c b m ρ2 = some (fl, ρ'), ⟨n, F, ρ, ok, StpS.refl _ _, hn⟩, fun m σ2 H2 ⟨F2, ρ2, ok2, st2, m2⟩ => ?_⟩
  cases m with
  | zero => cases m2
  | succ m =>
    obtain ⟨⟨t, ρ3⟩, h1, h2⟩ := bind_some m2
    refine ⟨F2, ρ2, t, ρ3, ok2, h1, fun F3 H3 ok3 st3 => ?_⟩
    have go : StpS O _ _ := st2.trans st3
    cases t with
    | false =>
      dsimp only at h2 ⊢
      rw [if_neg Bool.false_ne_true] at h2 ⊢
      cases h2
      exact q σ2 F3 H3 ok3 go
    | true =>
      dsimp only at h2 ⊢
      rw [if_pos rfl] at h2 ⊢
      obtain ⟨⟨f, ρ4⟩, h3, h4⟩ := bind_some h2
      refine ⟨_, fun _ _ z => z, ?_⟩
      refine ⟨F3, ρ3, f, ρ4, ok3, h3, ?_⟩
      cases f with
      | nx => exact fun σ5 F5 H5 ok5 st5 => ⟨m, Nat.lt_succ_self m, F5, ρ4, ok5, go.trans st5, h4⟩
      | ct => exact fun σ5 F5 H5 ok5 st5 => ⟨m, Nat.lt_succ_self m, F5, ρ4, ok5, go.trans st5, h4⟩
      | bk =>
        cases h4
        exact fun σ5 F5 H5 ok5 st5 => q σ5 F5 H5 ok5 (go.trans st5)
      | rt d =>
        cases h4
        exact fun v σ5 F5 H5 ok5 st5 r5 => q v σ5 F5 H5 ok5 (go.trans st5) (r5.pre go)
end
/-! ### a method's world -/
/-- what the caller's and the body's slots have to do with each other: Oi parameters (self first) and attributes, Ob with the locals between -/
structure MShape (Oi Ol Ob : List Kd) : Prop where
  hi : hasO Oi = true
  hb : hasO Ob = true
  ea : ats Ob = ats Oi
  ec : cn Ob = cn Oi
  o1 : oi Oi = 0
  o2 : oi Ob = 0
  en : nl Ob = nl Oi + Ol.length
  eq : Ob = Oi.take (nl Oi) ++ (Ol ++ Oi.drop (nl Oi))
  np : ∀ (i : Nat) (k : Kd), Oi[i]? = some k → k.pin = false
  ps : 0 < nl Oi
  le : nl Oi ≤ Oi.length
def npin (O : List Kd) : Bool := O.all fun k => !k.pin
theorem npin_get {O : List Kd} (h : npin O = true) (i : Nat) (k : Kd) (e : O[i]? = some k) : k.pin = false := by
  have := List.all_eq_true.mp h k (List.mem_of_getElem? e)
  simpa using this
theorem npl {k : Kd} (h : k.pin = false) : k.lock = false := by
  cases k <;> first | rfl | cases h
def upM (n c i : Nat) : Nat := if i < n then i else i + c
def entM (n c : Nat) (ρ : En) : En := ρ.take n ++ (List.replicate c none ++ ρ.drop n)
def outM (n c : Nat) (ρ : En) : En := List.replicate n none ++ ρ.drop (n + c)
section
variable {K : PySem.W.Frag} {Oi Ol Ob : List Kd} {F H : Hp} {σ σl : L2.St} {ρ : En}
theorem MShape.get (S : MShape Oi Ol Ob) (i : Nat) : Ob[upM (nl Oi) Ol.length i]? = Oi[i]? := by
  have lt : (Oi.take (nl Oi)).length = nl Oi := by rw [List.length_take]; exact Nat.min_eq_left S.le
  rw [S.eq]
  unfold upM
  by_cases h : i < nl Oi
  · rw [if_pos h, List.getElem?_append_left (by omega), List.getElem?_take_of_lt h]
  · rw [if_neg h, List.getElem?_append_right (by omega), List.getElem?_append_right (by omega), List.getElem?_drop, lt]
    congr 1
    omega
theorem entM_get {n c : Nat} (hn : n ≤ ρ.length) (i : Nat) : (entM n c ρ)[upM n c i]? = ρ[i]? := by
  have lt : (ρ.take n).length = n := by rw [List.length_take]; exact Nat.min_eq_left hn
  unfold entM upM
  by_cases h : i < n
  · rw [if_pos h, List.getElem?_append_left (by omega), List.getElem?_take_of_lt h]
  · rw [if_neg h, List.getElem?_append_right (by omega), List.getElem?_append_right (by rw [List.length_replicate]; omega), List.getElem?_drop, List.length_replicate, lt]
    congr 1
    omega
theorem entM_loc {n c : Nat} (hn : n ≤ ρ.length) {i : Nat} (h1 : n ≤ i) (h2 : i < n + c) : (entM n c ρ)[i]? = some none := by
  have lt : (ρ.take n).length = n := by rw [List.length_take]; exact Nat.min_eq_left hn
  unfold entM
  rw [List.getElem?_append_right (by omega), List.getElem?_append_left (by rw [List.length_replicate]; omega), List.getElem?_replicate, if_pos (by omega)]
theorem upM_cases (n c i : Nat) : (∃ j, i = upM n c j) ∨ (n ≤ i ∧ i < n + c) := by
  by_cases h : i < n
  · exact .inl ⟨i, by unfold upM; rw [if_pos h]⟩
  · by_cases h2 : i < n + c
    · exact .inr ⟨by omega, h2⟩
    · exact .inl ⟨i - c, by unfold upM; rw [if_neg (by omega)]; omega⟩
theorem upM_inj {n c i j : Nat} (h : upM n c i = upM n c j) : i = j := by
  unfold upM at h
  split at h <;> split at h <;> omega
theorem MShape.gob (S : MShape Oi Ol Ob) (h : σ.length = nl Oi) : ob Ob (σ ++ σl) = ob Oi σ := by
  unfold ob
  rw [S.o1, S.o2, List.getElem?_append_left (by have := S.ps; omega)]
theorem MShape.gsv (S : MShape Oi Ol Ob) (h : σ.length = nl Oi) (i : Nat) : sv Ob H (σ ++ σl) (upM (nl Oi) Ol.length i) = sv Oi H σ i := by
  unfold upM
  by_cases z : i < nl Oi
  · rw [if_pos z, sv_loc (by rw [S.en]; omega), sv_loc z, List.getElem?_append_left (by omega)]
  · rw [if_neg z]
    unfold sv
    rw [if_neg (by rw [S.en]; omega), if_neg z, S.ea, S.en, S.gob h, show i + Ol.length - (nl Oi + Ol.length) = i - nl Oi by omega]
theorem MShape.gown (S : MShape Oi Ol Ob) (ok : Ok K Oi ⟨F, H, σ, ρ⟩) {F' : Hp} {i : Nat} {p : Addr} : OwnAt Ob ⟨F', H, σ ++ σl, entM (nl Oi) Ol.length ρ⟩ i p ↔ ∃ j, i = upM (nl Oi) Ol.length j ∧ OwnAt Oi ⟨F, H, σ, ρ⟩ j p := by
  have hs : σ.length = nl Oi := ok.ls
  have hr : nl Oi ≤ ρ.length := by rw [show ρ.length = Oi.length from ok.lr]; exact S.le
  constructor
  · rintro ⟨k, d, h1, h2, h3, h4⟩
    have h3 : (entM (nl Oi) Ol.length ρ)[i]? = some (some d) := h3
    rcases upM_cases (nl Oi) Ol.length i with ⟨j, e⟩ | ⟨e1, e2⟩
    · subst e
      rw [S.get] at h1
      rw [entM_get hr] at h3
      exact ⟨j, rfl, k, d, h1, h2, h3, (S.gsv hs j).symm.trans h4⟩
    · rw [entM_loc hr e1 e2] at h3
      cases h3
  · rintro ⟨j, rfl, k, d, h1, h2, h3, h4⟩
    exact ⟨k, d, (S.get j).trans h1, h2, (entM_get hr j).trans h3, (S.gsv hs j).trans h4⟩
theorem MShape.gfp (S : MShape Oi Ol Ob) (ok : Ok K Oi ⟨F, H, σ, ρ⟩) {F' : Hp} {p : Addr} : Fp Ob ⟨F', H, σ ++ σl, entM (nl Oi) Ol.length ρ⟩ p ↔ Fp Oi ⟨F, H, σ, ρ⟩ p :=
  ⟨fun ⟨i, h⟩ => by
    obtain ⟨j, _, h⟩ := (S.gown ok).mp h
    exact ⟨j, h⟩, fun ⟨j, h⟩ => ⟨_, (S.gown ok).mpr ⟨j, rfl, h⟩⟩⟩
theorem MShape.ent (S : MShape Oi Ol Ob) (ok : Ok K Oi ⟨F, H, σ, ρ⟩) (hσ : σl.length = Ol.length) : Ok K Ob ⟨F, H, σ ++ σl, entM (nl Oi) Ol.length ρ⟩ := by
  have hs : σ.length = nl Oi := ok.ls
  have hl : ρ.length = Oi.length := ok.lr
  have hr : nl Oi ≤ ρ.length := by rw [hl]; exact S.le
  refine ⟨ok.sub, ?_, ?_, fun i d h1 h2 => ?_, fun i k d h1 h2 h3 => ?_, fun i j p h1 h2 => ?_, fun _ => ?_⟩
  · show (σ ++ σl).length = _
    rw [List.length_append, S.en, hs, hσ]
  · show (entM _ _ ρ).length = _
    rw [S.eq]
    unfold entM
    rw [List.length_append, List.length_append, List.length_append, List.length_append, List.length_replicate, List.length_take, List.length_take, List.length_drop, List.length_drop, hl]
  · have h2 : (entM (nl Oi) Ol.length ρ)[i]? = some (some d) := h2
    rcases upM_cases (nl Oi) Ol.length i with ⟨j, e⟩ | ⟨e1, e2⟩
    · subst e
      rw [S.get] at h1
      rw [entM_get hr] at h2
      obtain ⟨v, g1, g2⟩ := ok.fz j d h1 h2
      exact ⟨v, (S.gsv hs j).trans g1, g2⟩
    · rw [entM_loc hr e1 e2] at h2
      cases h2
  · have h3 : (entM (nl Oi) Ol.length ρ)[i]? = some (some d) := h3
    rcases upM_cases (nl Oi) Ol.length i with ⟨j, e⟩ | ⟨e1, e2⟩
    · subst e
      rw [S.get] at h1
      rw [entM_get hr] at h3
      obtain ⟨p, g1, g2⟩ := ok.ow j k d h1 h2 h3
      exact ⟨p, (S.gsv hs j).trans g1, g2⟩
    · rw [entM_loc hr e1 e2] at h3
      cases h3
  · obtain ⟨a, e1, h1⟩ := (S.gown ok).mp h1
    obtain ⟨b, e2, h2⟩ := (S.gown ok).mp h2
    rw [e1, e2, ok.ap a b p h1 h2]
  · obtain ⟨a0, a1, ⟨C, dx, fs, a2, a3⟩, a4, a5, a6⟩ := ok.obj S.hi
    have eo : ob Ob (σ ++ σl) = ob Oi σ := S.gob hs
    refine ⟨?_, ?_, ⟨C, dx, fs, by rw [eo]; exact a2, by rw [eo]; exact a3⟩, by rw [eo]; exact a4, by rw [eo]; exact fun z => a5 ((S.gfp ok).mp z), by rw [eo, S.ec, S.ea]; exact a6⟩
    · rw [eo, S.o2]
      show (σ ++ σl)[0]? = _
      rw [List.getElem?_append_left (by have := S.ps; omega)]
      rw [S.o1] at a0
      exact a0
    · rw [S.o2, S.en]
      have := S.ps
      omega
theorem outM_get {n c : Nat} {i : Nat} {d : D} (h : (outM n c ρ)[i]? = some (some d)) : n ≤ i ∧ ρ[upM n c i]? = some (some d) := by
  unfold outM at h
  by_cases z : i < n
  · rw [List.getElem?_append_left (by rw [List.length_replicate]; exact z), List.getElem?_replicate, if_pos z] at h
    cases h
  · rw [List.getElem?_append_right (by rw [List.length_replicate]; omega), List.getElem?_drop, List.length_replicate] at h
    refine ⟨by omega, ?_⟩
    unfold upM
    rw [if_neg z]
    rw [show n + c + (i - n) = i + c by omega] at h
    exact h
theorem MShape.ext (S : MShape Oi Ol Ob) {σ' : L2.St} {F' H' : Hp} {ρ' : En} {r : Ak} {d : D} {v : V} {b : Bool} (hσ : σl.length = Ol.length) (hr : ∀ i, r ≠ .br i) (ok : Ok K Oi ⟨F, H, σ, ρ⟩) (ok' : Ok K Ob ⟨F', H', σ', ρ'⟩)
    (st : StpB b Ob ⟨F, H, σ ++ σl, entM (nl Oi) Ol.length ρ⟩ ⟨F', H', σ', ρ'⟩) (rs : Rs K Ob ⟨F, H, σ ++ σl, entM (nl Oi) Ol.length ρ⟩ ⟨F', H', σ', ρ'⟩ r d v) :
    Ok K Oi ⟨F', H', σ, outM (nl Oi) Ol.length ρ'⟩ ∧ StpB b Oi ⟨F, H, σ, ρ⟩ ⟨F', H', σ, outM (nl Oi) Ol.length ρ'⟩ ∧ Rs K Oi ⟨F, H, σ, ρ⟩ ⟨F', H', σ, outM (nl Oi) Ol.length ρ'⟩ r d v := by
  have hs : σ.length = nl Oi := ok.ls
  have hl : ρ.length = Oi.length := ok.lr
  have hl' : ρ'.length = Ob.length := ok'.lr
  have eo : ob Ob (σ ++ σl) = ob Oi σ := S.gob hs
  have eo' : ob Ob σ' = ob Oi σ := (st.o0 S.hb).1.trans eo
  have fp : ∀ {p : Addr}, Fp Ob ⟨F, H, σ ++ σl, entM (nl Oi) Ol.length ρ⟩ p ↔ Fp Oi ⟨F, H, σ, ρ⟩ p := fun {p} => S.gfp ok
  have lb : Ob.length = Oi.length + Ol.length := by
    rw [congrArg List.length S.eq, List.length_append, List.length_append, List.length_take, List.length_drop, Nat.min_eq_left S.le]
    have := S.le
    omega
  -- attributes as they are
  have svA : ∀ {j : Nat}, nl Oi ≤ j → sv Ob H' σ' (upM (nl Oi) Ol.length j) = sv Oi H' σ j := fun {j} hj => by
    unfold upM
    rw [if_neg (by omega)]
    unfold sv
    rw [if_neg (by rw [S.en]; omega), if_neg (by omega), S.ea, S.en, eo', show j + Ol.length - (nl Oi + Ol.length) = j - nl Oi by omega]
  have back : ∀ {j : Nat} {p : Addr}, OwnAt Oi ⟨F', H', σ, outM (nl Oi) Ol.length ρ'⟩ j p → OwnAt Ob ⟨F', H', σ', ρ'⟩ (upM (nl Oi) Ol.length j) p := fun {j p} ⟨k, d', h1, h2, h3, h4⟩ => by
    obtain ⟨g1, g2⟩ := outM_get h3
    exact ⟨k, d', (S.get j).trans h1, h2, g2, (svA g1).trans h4⟩
  have fpb : ∀ {p : Addr}, Fp Oi ⟨F', H', σ, outM (nl Oi) Ol.length ρ'⟩ p → Fp Ob ⟨F', H', σ', ρ'⟩ p := fun ⟨j, h⟩ => ⟨_, back h⟩
  have bo := ok.obj S.hi
  have bo' := ok'.obj S.hb
  have okO : Ok K Oi ⟨F', H', σ, outM (nl Oi) Ol.length ρ'⟩ := by
    refine ⟨ok'.sub, ok.ls, ?_, fun j d' h1 h2 => ?_, fun j k d' h1 h2 h3 => ?_, fun i j p h1 h2 => upM_inj (ok'.ap _ _ p (back h1) (back h2)), fun _ => ?_⟩
    · show (outM _ _ ρ').length = _
      unfold outM
      rw [List.length_append, List.length_replicate, List.length_drop, hl', lb]
      have := S.le
      omega
    · obtain ⟨g1, g2⟩ := outM_get h2
      obtain ⟨u, g3, g4⟩ := ok'.fz _ d' ((S.get j).trans h1) g2
      exact ⟨u, (svA g1).symm.trans g3, g4⟩
    · obtain ⟨g1, g2⟩ := outM_get h3
      obtain ⟨p, g3, g4⟩ := ok'.ow _ k d' ((S.get j).trans h1) h2 g2
      exact ⟨p, (svA g1).symm.trans g3, g4⟩
    · obtain ⟨a0, a1, ⟨C, dx, fs, a2, a3⟩, a4, a5, a6⟩ := bo'
      rw [eo'] at a2 a3 a4 a5 a6
      rw [S.ec, S.ea] at a6
      exact ⟨bo.at0, bo.n0, ⟨C, dx, fs, a2, a3⟩, a4, fun z => a5 (fpb z), a6⟩
  refine ⟨okO, ⟨⟨st.ex, fun p o h z y => st.kp p o h (fun q => z (fp.mp q)) (fun _ => by rw [eo]; exact y S.hi), fun p o h z f => st.nw p o h (fun q => z (fp.mp q)) f, fun p h => ?_, fun j k h1 h2 => ?_, fun j k h1 h2 => ?_, fun j k p d' h1 h2 => ?_, fun _ => ⟨rfl, fun z => ?_⟩⟩, fun hb _ => ?_⟩, ?_⟩
  · rcases st.fp p (fpb h) with q | q
    · exact .inl (fp.mp q)
    · exact .inr q
  · rw [S.np j k h1] at h2
    cases h2
  · rw [npl (S.np j k h1)] at h2
    cases h2
  · rw [npl (S.np j k h1)] at h2
    cases h2
  · have y := (st.o0 S.hb).2
    rw [eo] at y
    exact y z
  · have y := st.ostB hb S.hb
    rw [eo] at y
    exact y
  · cases r with
    | fz => exact rs
    | ow =>
      obtain ⟨p, e, g1, g2, g3, g4, g5⟩ := rs
      refine ⟨p, e, g1, g2, fun z => g3 (fpb z), ?_, fun _ => ?_⟩
      · rcases g4 with z | z
        · exact .inl (fp.mp z)
        · exact .inr z
      · have g5 := g5 S.hb
        rw [eo'] at g5
        exact g5
    | br i => exact (hr i rfl).elim
end
end DL

/-! EH4: methods as functions on data; their calls. -/
namespace DL
open PySem PySem.Spec PyProof.Rows L2

def tSB (b : Bool) (K : PySem.W.Frag) (O : List Kd) (m : MS) (r : Ak) : TS := fun Dn σ H => ∃ F ρ fl ρ', Ok K O ⟨F, H, σ, ρ⟩ ∧ m ρ = some (fl, ρ') ∧ (match fl with
  | .nx => ∀ σ' F' H', Ok K O ⟨F', H', σ', ρ'⟩ → StpB b O ⟨F, H, σ, ρ⟩ ⟨F', H', σ', ρ'⟩ → Dn.nx σ' H'
  | .bk => ∀ σ' F' H', Ok K O ⟨F', H', σ', ρ'⟩ → StpB b O ⟨F, H, σ, ρ⟩ ⟨F', H', σ', ρ'⟩ → Dn.bk σ' H'
  | .ct => ∀ σ' F' H', Ok K O ⟨F', H', σ', ρ'⟩ → StpB b O ⟨F, H, σ, ρ⟩ ⟨F', H', σ', ρ'⟩ → Dn.ct σ' H'
  | .rt d => ∀ v σ' F' H', Ok K O ⟨F', H', σ', ρ'⟩ → StpB b O ⟨F, H, σ, ρ⟩ ⟨F', H', σ', ρ'⟩ → Rs K O ⟨F, H, σ, ρ⟩ ⟨F', H', σ', ρ'⟩ r d v → Dn.rt v H')
section
variable {X : Cx} {O : List Kd} {e : Expr} {m : M} {ms : MS} {r : Ak} {pos : Pos} {body : List Stmt}
theorem sb_of (h : PSs X body (tS X.K O ms r)) : PSs X body (tSB false X.K O ms r) := PSsi h fun Dn σ H ⟨F, ρ, fl, ρ', ok, hm, q⟩ => by
  refine ⟨F, ρ, fl, ρ', ok, hm, ?_⟩
  cases fl with
  | nx => exact fun σ' F' H' a b => q σ' F' H' a b.toB
  | bk => exact fun σ' F' H' a b => q σ' F' H' a b.toB
  | ct => exact fun σ' F' H' a b => q σ' F' H' a b.toB
  | rt d => exact fun v σ' F' H' a b => q v σ' F' H' a b.toB
/-- a body that is one return: the object stays -/
theorem sb_ret (h : PE X e (tE X.K O m r)) : PSs X [.Return (some e) pos] (tSB true X.K O (mRet m) r) := by
  refine PSsi (pss_one (ps_ret h)) fun Dn σ H ⟨F, ρ, fl, ρ', ok, hm, q⟩ => ?_
  obtain ⟨⟨d, ρ1⟩, e1, e2⟩ := map_some hm
  cases e2
  exact ⟨F, ρ, d, ρ1, ok, e1, fun v F1 H1 ok1 st1 r1 => q v σ F1 H1 ok1 st1.toB r1⟩
end
def mMet (n c : Nat) (r : Ak) (b : MS) : En → Option (D × En) := fun ρ => (b (entM n c ρ)).bind fun p => match p.1 with
  | .rt d => some (d, outM n c p.2)
  | .nx => (match r with
    | .fz => some (.none, outM n c p.2)
    | _ => none)
  | _ => none
/-- the promise of a method: the object first -/
def spM (b : Bool) (K : PySem.W.Frag) (Oi : List Kd) (mf : En → Option (D × En)) (r : Ak) : Sp := fun vs H Q _ => tEB b K Oi mf r (vs.map some) H Q
section
variable {P : Program} {w : World} {K : PySem.W.Frag} {mg : Str → Option Value} {base : Heap} {f : Addr} {fd : FuncData}
theorem spM_len {b : Bool} {Oi : List Kd} {mf : En → Option (D × En)} {r : Ak} {vs : List V} {H : Hp} {Q : VK} {E : XK} (h : spM b K Oi mf r vs H Q E) : vs.length = nl Oi := by
  obtain ⟨F, ρ, d, ρ', ok, _⟩ := h
  have h : (vs.map some).length = nl Oi := ok.ls
  rw [List.length_map] at h
  exact h
/-- a method of the text as a function on data -/
theorem fn_meth {b : Bool} {x qual : Str} {params : Arguments} {body : List Stmt} {scope : Scope} {dvs : List V} {kws : List (Str × V)} {N ps : List Str} {k : Nat} {Oi Ol Ob : List Kd} {m : MS} {r : Ak} (F : FunD K x qual params body scope dvs kws f fd) (S : FnScope N ps scope)
    (Sh : MShape Oi Ol Ob) (hi : nl Oi = ps.length) (hN : N.length = ps.length + Ol.length) (hr : ∀ i, r ≠ .br i)
    (hb : ∀ (cd : Value) (A : Around) (outer : List Env) (s : Shared) (H : Hp) (E : XK), A.guards = some [] → Room k (A.deeper (envOfC qual scope s.heap.objs.size f cd)) →
      PSs (cxOf CX0 P w K mg base N qual scope f cd A outer s H E).nox body (tSB b K Ob m r)) : FnG P w K mg base CX0 (k + 1) f fd ps (spM b K Oi (mMet (nl Oi) Ol.length r m) r) := by
  refine fnG_of F S (fun vs H Q E h => (spM_len h).trans hi) fun cd A outer s H vs Q E g hr' h => ?_
  refine ⟨_, (hb cd A outer s H E g hr').nox, ?_⟩
  have hv := spM_len h
  obtain ⟨Fz, ρ, d, ρ', ok, hm, q⟩ := h
  obtain ⟨⟨fl, ρ1⟩, h1, h2⟩ := bind_some hm
  have hst : L2.start N vs = vs.map some ++ List.replicate Ol.length none := by
    unfold L2.start
    rw [hN, hv, ← hi, Nat.add_sub_cancel_left]
  rw [hst]
  refine ⟨Fz, _, fl, ρ1, Sh.ent ok (List.length_replicate), h1, ?_⟩
  cases fl with
  | nx =>
    cases r with
    | ow => cases h2
    | br i => cases h2
    | fz =>
    cases h2
    intro σ' F' H' ok' st
    obtain ⟨o1, o2, o3⟩ := Sh.ext (d := .none) (v := .non) (r := .fz) (List.length_replicate) (fun _ z => by cases z) ok ok' st rfl
    exact q .non F' H' o1 o2 o3
  | rt d' =>
    cases h2
    intro v σ' F' H' ok' st rs
    obtain ⟨o1, o2, o3⟩ := Sh.ext (List.length_replicate) hr ok ok' st rs
    exact q v F' H' o1 o2 o3
  | bk => cases h2
  | ct => cases h2
end
/-! ### the call -/
/-- caller's slots against a method's -/
structure CShape (O Oi : List Kd) (n : Nat) : Prop where
  ho : hasO O = true
  hi : hasO Oi = true
  ea : ats Oi = ats O
  ec : cn Oi = cn O
  o1 : oi Oi = 0
  ln : nl Oi = n + 1
  lo : Oi.length = nl Oi + (ats O).length + 1
  lo2 : O.length = nl O + (ats O).length + 1
  fzs : ∀ i, i < nl Oi → Oi[i]? = some .fz
  kk : ∀ i, i < (ats O).length → Oi[nl Oi + i]? = O[nl O + i]?
  np : ∀ (i : Nat) (k : Kd), Oi[i]? = some k → k.pin = false
def csh (O Oi : List Kd) (n : Nat) : Bool := hasO O && (hasO Oi && (decide (ats Oi = ats O) && (decide (cn Oi = cn O) && (decide (oi Oi = 0) && (decide (nl Oi = n + 1) && (decide (Oi.length = nl Oi + (ats O).length + 1) && (decide (O.length = nl O + (ats O).length + 1) && (decide (Oi.take (nl Oi) = List.replicate (nl Oi) .fz) && (decide ((Oi.drop (nl Oi)).take (ats O).length = (O.drop (nl O)).take (ats O).length) && npin Oi)))))))))
theorem csh_of {O Oi : List Kd} {n : Nat} (h : csh O Oi n = true) : CShape O Oi n := by
  obtain ⟨h1, h⟩ := Bool.and_eq_true_iff.mp h
  obtain ⟨h2, h⟩ := Bool.and_eq_true_iff.mp h
  obtain ⟨h3, h⟩ := Bool.and_eq_true_iff.mp h
  obtain ⟨h4, h⟩ := Bool.and_eq_true_iff.mp h
  obtain ⟨h5, h⟩ := Bool.and_eq_true_iff.mp h
  obtain ⟨h6, h⟩ := Bool.and_eq_true_iff.mp h
  obtain ⟨h7, h⟩ := Bool.and_eq_true_iff.mp h
  obtain ⟨h8, h⟩ := Bool.and_eq_true_iff.mp h
  obtain ⟨h9, h⟩ := Bool.and_eq_true_iff.mp h
  obtain ⟨h10, h11⟩ := Bool.and_eq_true_iff.mp h
  have h9 := of_decide_eq_true h9
  have h10 := of_decide_eq_true h10
  refine ⟨h1, h2, of_decide_eq_true h3, of_decide_eq_true h4, of_decide_eq_true h5, of_decide_eq_true h6, of_decide_eq_true h7, of_decide_eq_true h8, fun i hi => ?_, fun i hi => ?_, fun i k e => npin_get h11 i k e⟩
  · have e := congrArg (fun l => l[i]?) h9
    have e : (Oi.take (nl Oi))[i]? = (List.replicate (nl Oi) Kd.fz)[i]? := e
    rw [List.getElem?_take_of_lt hi, List.getElem?_replicate, if_pos hi] at e
    exact e
  · have e : ((Oi.drop (nl Oi)).take (ats O).length)[i]? = ((O.drop (nl O)).take (ats O).length)[i]? := congrArg (fun l => l[i]?) h10
    rw [List.getElem?_take_of_lt hi, List.getElem?_take_of_lt hi, List.getElem?_drop, List.getElem?_drop] at e
    exact e
def mCallM (nc np : Nat) (mf : En → Option (D × En)) (ma : MA) : M := fun ρ => (ma ρ).bind fun p => (mf ((none :: p.1.map some) ++ p.2.drop nc)).bind fun z => some (z.1, p.2.take nc ++ z.2.drop np)
section
variable {K : PySem.W.Frag} {O Oi : List Kd} {n : Nat} {w1 : Wd} {ds : List D} {vs : List V}
theorem cell_last {O : List Kd} (h : hasO O = true) : ∃ o c as, O.getLast? = some (.cell o c as) := hasO_iff.mp h
theorem CShape.at_ (S : CShape O Oi n) {i : Nat} {k : Kd} (h : Oi[i]? = some k) (hk : k.own = true ∨ (k = .fz ∧ nl Oi ≤ i)) : nl Oi ≤ i ∧ i < nl Oi + (ats O).length ∧ O[nl O + (i - nl Oi)]? = some k := by
  have hi : i < Oi.length := (List.getElem?_eq_some_iff.mp h).1
  have h1 : nl Oi ≤ i := by
    rcases hk with hk | hk
    · refine Nat.le_of_not_lt fun z => ?_
      rw [S.fzs i z] at h
      cases h
      cases hk
    · exact hk.2
  have h2 : i < nl Oi + (ats O).length := by
    refine Classical.byContradiction fun z => ?_
    have e : i = Oi.length - 1 := by rw [S.lo] at hi ⊢; omega
    obtain ⟨o, c, as, hl⟩ := cell_last S.hi
    rw [List.getLast?_eq_getElem?, ← e, h] at hl
    cases hl
    rcases hk with hk | ⟨hk, _⟩
    · cases hk
    · cases hk
  refine ⟨h1, h2, ?_⟩
  have e := S.kk (i - nl Oi) (by omega)
  rw [show nl Oi + (i - nl Oi) = i by omega, h] at e
  exact e.symm
/-- the callee's world -/
def cwd (O : List Kd) (w1 : Wd) (ds : List D) (vs : List V) : Wd := ⟨w1.F, w1.H, (V.ref (ob O w1.σ) :: vs).map some, (none :: ds.map some) ++ w1.ρ.drop (nl O)⟩
theorem CShape.gob (S : CShape O Oi n) {vs : List V} : ob Oi ((V.ref (ob O w1.σ) :: vs).map some) = ob O w1.σ := by
  show (match ((V.ref (ob O w1.σ) :: vs).map some)[oi Oi]? with | some (some (V.ref p)) => p | _ => 0) = _
  rw [S.o1] <;> rfl
theorem CShape.gsv (S : CShape O Oi n) (H : Hp) {i : Nat} (h1 : nl Oi ≤ i) : sv Oi H ((V.ref (ob O w1.σ) :: vs).map some) i = sv O H w1.σ (nl O + (i - nl Oi)) := by
  unfold sv
  rw [if_neg (by omega), if_neg (by omega), S.gob, S.ea, show nl O + (i - nl Oi) - nl O = i - nl Oi by omega]
theorem CShape.grho (S : CShape O Oi n) (hd : ds.length = n) {ρ : En} {i : Nat} (h1 : nl Oi ≤ i) : ((none :: ds.map some) ++ ρ.drop (nl O))[i]? = ρ[nl O + (i - nl Oi)]? := by
  have hl : (none :: ds.map some).length = nl Oi := by rw [List.length_cons, List.length_map, hd, S.ln]
  rw [List.getElem?_append_right (by omega), hl, List.getElem?_drop]
theorem CShape.gown (S : CShape O Oi n) (hd : ds.length = n) {F' H' : Hp} {ρ : En} {i : Nat} {p : Addr} (h : OwnAt Oi ⟨F', H', (V.ref (ob O w1.σ) :: vs).map some, (none :: ds.map some) ++ ρ.drop (nl O)⟩ i p) :
    nl Oi ≤ i ∧ OwnAt O ⟨F', H', w1.σ, ρ⟩ (nl O + (i - nl Oi)) p := by
  obtain ⟨k, d, h1, h2, h3, h4⟩ := h
  obtain ⟨g1, g2, g3⟩ := S.at_ h1 (.inl h2)
  exact ⟨g1, k, d, g3, h2, (S.grho hd g1).symm.trans h3, (S.gsv H' g1).symm.trans h4⟩
theorem call_okM (S : CShape O Oi n) (hd : ds.length = n) (hv : vs.length = n) (ok : Ok K O w1) (r : RpA K w1.F ds vs) : Ok K Oi (cwd O w1 ds vs) := by
  have hr : w1.ρ.length = O.length := ok.lr
  have bo := ok.obj S.ho
  refine ⟨ok.sub, ?_, ?_, fun i d h1 h2 => ?_, fun i k d h1 h2 h3 => ?_, fun i j p h1 h2 => ?_, fun _ => ?_⟩
  · show ((V.ref (ob O w1.σ) :: vs).map some).length = _
    rw [List.length_map, List.length_cons, hv, S.ln]
  · show ((none :: ds.map some) ++ w1.ρ.drop (nl O)).length = _
    rw [List.length_append, List.length_cons, List.length_map, List.length_drop, hd, hr, S.lo, S.lo2, S.ln]
    omega
  · have h2 : ((none :: ds.map some) ++ w1.ρ.drop (nl O))[i]? = some (some d) := h2
    by_cases z : i < nl Oi
    · have hl : (none :: ds.map some).length = nl Oi := by rw [List.length_cons, List.length_map, hd, S.ln]
      rw [List.getElem?_append_left (by omega)] at h2
      cases i with
      | zero => cases h2
      | succ i =>
        rw [List.getElem?_cons_succ, List.getElem?_map] at h2
        cases e : ds[i]? with
        | none =>
          rw [e] at h2
          cases h2
        | some d' =>
          rw [e] at h2
          cases h2
          obtain ⟨v, g1, g2⟩ := r.get e
          refine ⟨v, ?_, g2⟩
          show sv Oi w1.H ((V.ref (ob O w1.σ) :: vs).map some) (i + 1) = _
          rw [sv_loc z, List.getElem?_map, List.getElem?_cons_succ, g1]
          rfl
    · rw [S.grho hd (by omega)] at h2
      obtain ⟨g1, g2, g3⟩ := S.at_ h1 (.inr ⟨rfl, by omega⟩)
      obtain ⟨v, g4, g5⟩ := ok.fz _ d g3 h2
      exact ⟨v, (S.gsv w1.H g1).trans g4, g5⟩
  · have h3 : ((none :: ds.map some) ++ w1.ρ.drop (nl O))[i]? = some (some d) := h3
    obtain ⟨g1, g2, g3⟩ := S.at_ h1 (.inl h2)
    rw [S.grho hd g1] at h3
    obtain ⟨p, g4, g5⟩ := ok.ow _ k d g3 h2 h3
    exact ⟨p, (S.gsv w1.H g1).trans g4, g5⟩
  · obtain ⟨g1, o1⟩ := S.gown hd h1
    obtain ⟨g2, o2⟩ := S.gown hd h2
    have := ok.ap _ _ p o1 o2
    omega
  · obtain ⟨a0, a1, ⟨C, dx, fs, a2, a3⟩, a4, a5, a6⟩ := bo
    have eo : ob Oi (cwd O w1 ds vs).σ = ob O w1.σ := S.gob
    refine ⟨?_, ?_, ⟨C, dx, fs, by rw [eo]; exact a2, by rw [eo]; exact a3⟩, by rw [eo]; exact a4, ?_, by rw [eo, S.ec, S.ea]; exact a6⟩
    · rw [eo, S.o1] <;> rfl
    · rw [S.o1, S.ln]
      omega
    · rw [eo]
      rintro ⟨i, h⟩
      exact a5 ⟨_, (S.gown hd h).2⟩
/-- behind the call -/
theorem call_backM {w : Wd} {b : Bool} {F2 H2 : Hp} {out : En} {r : Ak} {d : D} {v : V} (S : CShape O Oi n) (hd : ds.length = n) (hv : vs.length = n) (hr : ∀ i, r ≠ .br i) (st : StpS O w w1) (hst : b = true → Stp O w w1) (ok : Ok K O w1)
    (okr : Ok K Oi ⟨F2, H2, (V.ref (ob O w1.σ) :: vs).map some, out⟩) (str : StpB b Oi (cwd O w1 ds vs) ⟨F2, H2, (V.ref (ob O w1.σ) :: vs).map some, out⟩) (rs : Rs K Oi (cwd O w1 ds vs) ⟨F2, H2, (V.ref (ob O w1.σ) :: vs).map some, out⟩ r d v) :
    Ok K O ⟨F2, H2, w1.σ, w1.ρ.take (nl O) ++ out.drop (nl Oi)⟩ ∧ StpB b O w ⟨F2, H2, w1.σ, w1.ρ.take (nl O) ++ out.drop (nl Oi)⟩ ∧ Rs K O w ⟨F2, H2, w1.σ, w1.ρ.take (nl O) ++ out.drop (nl Oi)⟩ r d v := by
  have hrl : w1.ρ.length = O.length := ok.lr
  have hol : out.length = Oi.length := okr.lr
  have bo := ok.obj S.ho
  have bo' := okr.obj S.hi
  have eo : ob Oi ((V.ref (ob O w1.σ) :: vs).map some) = ob O w1.σ := S.gob
  have lt : (w1.ρ.take (nl O)).length = nl O := by
    rw [List.length_take, hrl, S.lo2]
    omega
  have loc : ∀ {i : Nat}, i < nl O → (w1.ρ.take (nl O) ++ out.drop (nl Oi))[i]? = w1.ρ[i]? := fun {i} h => by
    rw [List.getElem?_append_left (by omega), List.getElem?_take_of_lt h]
  have att : ∀ {i : Nat}, nl O ≤ i → (w1.ρ.take (nl O) ++ out.drop (nl Oi))[i]? = out[nl Oi + (i - nl O)]? := fun {i} h => by
    rw [List.getElem?_append_right (by omega), lt, List.getElem?_drop]
  have svA : ∀ {i : Nat}, nl O ≤ i → sv O H2 w1.σ i = sv Oi H2 ((V.ref (ob O w1.σ) :: vs).map some) (nl Oi + (i - nl O)) := fun {i} h => by
    rw [S.gsv H2 (by omega), show nl O + (nl Oi + (i - nl O) - nl Oi) = i by omega]
  have fpc : ∀ {p : Addr}, Fp Oi (cwd O w1 ds vs) p → ∃ i, nl O ≤ i ∧ OwnAt O w1 i p := fun ⟨i, h⟩ => ⟨_, Nat.le_add_right _ _, (S.gown hd h).2⟩
  have atO : ∀ {i : Nat} {k : Kd}, nl O ≤ i → O[i]? = some k → (k.own = true ∨ k = .fz) → Oi[nl Oi + (i - nl O)]? = some k := fun {i k} h e hk => by
    have hi : i < O.length := (List.getElem?_eq_some_iff.mp e).1
    have h2 : i - nl O < (ats O).length := by
      refine Classical.byContradiction fun z => ?_
      have e2 : i = O.length - 1 := by rw [S.lo2] at hi ⊢; omega
      obtain ⟨o, c, as, hl⟩ := cell_last S.ho
      rw [List.getLast?_eq_getElem?, ← e2, e] at hl
      cases hl
      rcases hk with hk | hk
      · cases hk
      · cases hk
    have e3 := S.kk (i - nl O) h2
    rw [show nl O + (i - nl O) = i by omega, e] at e3
    exact e3
  have back : ∀ {i : Nat} {p : Addr}, OwnAt O ⟨F2, H2, w1.σ, w1.ρ.take (nl O) ++ out.drop (nl Oi)⟩ i p → (i < nl O ∧ OwnAt O w1 i p) ∨ (nl O ≤ i ∧ OwnAt Oi ⟨F2, H2, (V.ref (ob O w1.σ) :: vs).map some, out⟩ (nl Oi + (i - nl O)) p) := fun {i p} ⟨k, d', h1, h2, h3, h4⟩ => by
    by_cases z : i < nl O
    · have h3 := (loc z).symm.trans h3
      have h4 : sv O H2 w1.σ i = some (some (.ref p)) := h4
      rw [sv_loc z] at h4
      exact .inl ⟨z, k, d', h1, h2, h3, (sv_loc z).trans h4⟩
    · have z : nl O ≤ i := by omega
      exact .inr ⟨z, k, d', atO z h1 (.inl h2), h2, (att z).symm.trans h3, (svA z).symm.trans h4⟩
  -- what locals own is not the callee's
  have sep : ∀ {i : Nat} {p : Addr}, i < nl O → OwnAt O w1 i p → ¬ Fp Oi (cwd O w1 ds vs) p := fun {i p} z h q => by
    obtain ⟨j, hj, o⟩ := fpc q
    have := ok.ap _ _ p h o
    omega
  have nob : ¬ Fp Oi (cwd O w1 ds vs) (ob O w1.σ) := fun q => by
    obtain ⟨j, _, o⟩ := fpc q
    exact bo.nf ⟨j, o⟩
  have kp2 : ∀ {p : Addr} {o : HO}, w1.H p = some o → ¬ Fp Oi (cwd O w1 ds vs) p → p ≠ ob O w1.σ → H2 p = some o := fun {p o} h z y => str.kp p o h z fun _ => by
    show p ≠ ob Oi ((V.ref (ob O w1.σ) :: vs).map some)
    rw [eo]
    exact y
  have npo : ∀ {i : Nat} {p : Addr}, OwnAt O w1 i p → p ≠ ob O w1.σ := fun {i p} h z => bo.nf (by rw [← z]; exact ⟨i, h⟩)
  have fpr : ∀ {p : Addr}, Fp O ⟨F2, H2, w1.σ, w1.ρ.take (nl O) ++ out.drop (nl Oi)⟩ p → Fp O w1 p ∨ w1.H p = none := fun {p} ⟨i, h⟩ => by
    rcases back h with ⟨_, q⟩ | ⟨_, q⟩
    · exact .inl ⟨i, q⟩
    · rcases str.fp p ⟨_, q⟩ with y | y
      · obtain ⟨j, _, o⟩ := fpc y
        exact .inl ⟨j, o⟩
      · exact .inr y
  have okO : Ok K O ⟨F2, H2, w1.σ, w1.ρ.take (nl O) ++ out.drop (nl Oi)⟩ := by
    refine ⟨okr.sub, ok.ls, ?_, fun i d' h1 h2 => ?_, fun i k d' h1 h2 h3 => ?_, fun i j p h1 h2 => ?_, fun _ => ?_⟩
    · show (w1.ρ.take (nl O) ++ out.drop (nl Oi)).length = _
      rw [List.length_append, lt, List.length_drop, hol, S.lo, S.lo2]
      omega
    · by_cases z : i < nl O
      · have h2 := (loc z).symm.trans h2
        obtain ⟨u, g1, g2⟩ := ok.fz i d' h1 h2
        exact ⟨u, (sv_loc z).trans ((sv_loc z).symm.trans g1), g2.mono str.ex⟩
      · have z : nl O ≤ i := by omega
        obtain ⟨u, g1, g2⟩ := okr.fz _ d' (atO z h1 (.inr rfl)) ((att z).symm.trans h2)
        exact ⟨u, (svA z).trans g1, g2⟩
    · by_cases z : i < nl O
      · have h3 := (loc z).symm.trans h3
        obtain ⟨p, g1, g2, o, g3, g4⟩ := ok.ow i k d' h1 h2 h3
        have oa : OwnAt O w1 i p := ⟨k, d', h1, h2, h3, g1⟩
        exact ⟨p, (sv_loc z).trans ((sv_loc z).symm.trans g1), str.nw p o g3 (sep z oa) g2, o, kp2 g3 (sep z oa) (npo oa), g4.mono str.ex⟩
      · have z : nl O ≤ i := by omega
        obtain ⟨p, g1, g2⟩ := okr.ow _ k d' (atO z h1 (.inl h2)) h2 ((att z).symm.trans h3)
        exact ⟨p, (svA z).trans g1, g2⟩
    · have cross : ∀ {i j : Nat}, i < nl O → OwnAt O w1 i p → nl O ≤ j → OwnAt Oi ⟨F2, H2, (V.ref (ob O w1.σ) :: vs).map some, out⟩ (nl Oi + (j - nl O)) p → False := fun {i j} z q z' q' => by
        obtain ⟨_, o, u⟩ := ok.ownF ⟨i, q⟩
        rcases str.fp p ⟨_, q'⟩ with y | y
        · exact sep z q y
        · rw [show w1.H p = none from y] at u
          cases u
      rcases back h1 with ⟨z, q⟩ | ⟨z, q⟩ <;> rcases back h2 with ⟨z', q'⟩ | ⟨z', q'⟩
      · exact ok.ap i j p q q'
      · exact (cross z q z' q').elim
      · exact (cross z' q' z q).elim
      · have := okr.ap _ _ p q q'
        omega
    · obtain ⟨a0, a1, ⟨C, dx, fs, a2, a3⟩, a4, a5, a6⟩ := bo'
      have e2 : ob Oi (Wd.mk F2 H2 ((V.ref (ob O w1.σ) :: vs).map some) out).σ = ob O w1.σ := eo
      rw [e2] at a2 a3 a4 a5 a6
      rw [S.ec, S.ea] at a6
      refine ⟨bo.at0, bo.n0, ⟨C, dx, fs, a2, a3⟩, a4, fun ⟨i, h⟩ => ?_, a6⟩
      rcases back h with ⟨_, q⟩ | ⟨_, q⟩
      · exact bo.nf ⟨i, q⟩
      · exact a5 ⟨_, q⟩
  have svL : ∀ {i : Nat}, i < nl O → sv O H2 w1.σ i = w1.sv O i := fun {i} z => (sv_loc z).trans (sv_loc z).symm
  refine ⟨okO, ⟨⟨st.ex.trans str.ex, fun p o h z y => ?_, fun p o h z f => ?_, fun p h => ?_, fun i k h1 h2 => ?_, fun i k h1 h2 => ?_, fun i k p d' h1 h2 h3 h4 => ?_, fun e => ⟨(st.o0 e).1, fun z => ?_⟩⟩, fun hb _ => ?_⟩, ?_⟩
  · have h1 := st.kp p o h z y
    have n1 := st.nofp h z
    exact kp2 h1 (fun q => by
      obtain ⟨j, _, q⟩ := fpc q
      exact n1 ⟨j, q⟩) (by rw [(st.o0 S.ho).1]; exact y S.ho)
  · by_cases y : p = ob O w1.σ
    · rw [y]
      have a4 := bo'.fr
      have a4 : F2 (ob Oi ((V.ref (ob O w1.σ) :: vs).map some)) = none := a4
      rw [eo] at a4
      exact a4
    · have h1 := st.kp p o h z fun _ => by rw [← (st.o0 S.ho).1]; exact y
      exact str.nw p o h1 (fun q => by
        obtain ⟨j, _, q⟩ := fpc q
        exact st.nofp h z ⟨j, q⟩) (st.nw p o h z f)
  · rcases fpr h with q | q
    · exact st.fp p q
    · exact st.back q
  · have z : i < nl O := by
      refine Classical.byContradiction fun z => ?_
      have z : nl O ≤ i := by omega
      have := S.np _ k (atO z h1 (.inl (by cases k <;> first | rfl | cases h2)))
      rw [this] at h2
      cases h2
    exact (svL z).trans (st.pn i k h1 h2)
  · have z : i < nl O := by
      refine Classical.byContradiction fun z => ?_
      have z : nl O ≤ i := by omega
      have := S.np _ k (atO z h1 (.inl (Kd.own_of h2)))
      rw [npl this] at h2
      cases h2
    exact (loc z).trans (st.lk i k h1 h2)
  · have z : i < nl O := by
      refine Classical.byContradiction fun z => ?_
      have z : nl O ≤ i := by omega
      have := S.np _ k (atO z h1 (.inl (Kd.own_of h2)))
      rw [npl this] at h2
      cases h2
    have oa : OwnAt O w1 i p := ⟨k, d', h1, Kd.own_of h2, (st.lk i k h1 h2).trans h3, (st.pn i k h1 (Kd.pin_of h2)).trans h4⟩
    obtain ⟨_, o, u⟩ := ok.ownF ⟨i, oa⟩
    have a1 : H2 p = some o := kp2 u (sep z oa) (npo oa)
    have a2 := st.lo i k p d' h1 h2 h3 h4
    show H2 p = w.H p
    rw [a1, ← a2, u]
  · show H2 (ob O w.σ) ≠ none
    have y := (st.o0 e).2 z
    obtain ⟨C, dx, fs, a2, a3⟩ := bo'.ex
    have a2 : H2 (ob Oi ((V.ref (ob O w1.σ) :: vs).map some)) = some (.ins C dx fs) := a2
    rw [eo, (st.o0 e).1] at a2
    rw [a2]
    exact fun z => by cases z
  · have y := str.ostB hb S.hi
    have y : H2 (ob Oi ((V.ref (ob O w1.σ) :: vs).map some)) = w1.H (ob Oi ((V.ref (ob O w1.σ) :: vs).map some)) := y
    rw [eo, (st.o0 S.ho).1] at y
    exact y.trans ((hst hb).ost S.ho)
  · cases r with
    | fz => exact rs
    | ow =>
      obtain ⟨p, e, g1, g2, g3, g4, g5⟩ := rs
      refine ⟨p, e, g1, g2, fun ⟨i, h⟩ => ?_, ?_, fun e y => ?_⟩
      · rcases back h with ⟨z, q⟩ | ⟨z, q⟩
        · obtain ⟨_, o, u⟩ := ok.ownF ⟨i, q⟩
          rcases g4 with y | y
          · exact sep z q y
          · rw [show w1.H p = none from y] at u
            cases u
        · exact g3 ⟨_, q⟩
      · rcases g4 with y | y
        · obtain ⟨j, _, o⟩ := fpc y
          exact st.fp p ⟨j, o⟩
        · exact st.back y
      · have g5 := g5 S.hi
        have g5 : p ≠ ob Oi ((V.ref (ob O w1.σ) :: vs).map some) := g5
        rw [eo] at g5
        exact g5 y
    | br i => exact (hr i rfl).elim
end
end DL

/-! EH5: the rules for calls of methods; an object made. -/
namespace DL
open PySem PySem.Spec PyProof.Rows L2

section
variable {X : Cx} {CX : CXT} {k : Nat} {f C : Addr} {fd : FuncData} {ps : List Str} {sp : Sp} {dvs : List V} {ds : List Value} {E : XK} {x m : Str} {p pos apos : Pos} {e o : Expr} {es : List Expr} {ta : TE} {t : TA}
theorem pe_methG {pl : Sem Bool} (he : PE X o ta) (c : Cls X.K C) (hm : Meth X.K C m f) (G : FnG X.prog X.w X.K X.mg X.base CX k f fd ps sp) (hgd : X.A.guards = some []) (hr : Room k X.A) (hb : Binds X.K fd ps ds) (hd : Vals dvs ds) (hx : Passes CX X E) (ha : PA X (e :: es) t)
    (hst : starEach (e :: es) X.env = (false, eval e X.env) :: starEach es X.env := by rfl) (hpl : (backTo pos (starEach es X.env)).any (·.1) = false := by rfl)
    (ht : eval (.Call (.Attribute o m apos) (e :: es) [] pos) X.env = (do
      let ov ← eval o X.env
      standAt apos.atName
      let (f, first) ← holding [ov] (getMethod ov m pl)
      callWith pos f first (backTo pos (starEach (e :: es) X.env)) (backToKw pos (keywordEach [] X.env))) := by rfl) :
    PE X (.Call (.Attribute o m apos) (e :: es) [] pos) (tMeth C m sp dvs E ta t) := by
  refine ⟨fun pins s σ H Q I h => ?_⟩
  refine PySem.W.methodCall_KW (pl := pl) (thn (he.run pins s σ H _ I h) fun u s1 ⟨x, H1, I1, rx, a, dx, fs, ex, ea, l, q⟩ => ?_) ht
  subst ex
  obtain rfl : u = Value.ref a := rx
  refine getmeth_ok I1 ea c hm l ?_
  refine PySem.W.callWith_K (first := [.ref a]) (h₀ := X.base) I.ok.mod.kin hm.kp (thn (ha.run pos pins s1 σ H1 _ I1 q) fun us s2 ⟨vs, H2, I2, r, q2⟩ => ⟨I2.kIn, ?_⟩) hst hpl
  exact goFn (us := .ref a :: us) (vs := .ref a :: vs) G hgd hr hb hd hx I2 (.cons rfl r) q2
theorem pe_methG0 {pl : Sem Bool} (he : PE X o ta) (c : Cls X.K C) (hm : Meth X.K C m f) (G : FnG X.prog X.w X.K X.mg X.base CX k f fd ps sp) (hgd : X.A.guards = some []) (hr : Room k X.A) (hb : Binds X.K fd ps ds) (hd : Vals dvs ds) (hx : Passes CX X E)
    (ht : eval (.Call (.Attribute o m apos) [] [] pos) X.env = (do
      let ov ← eval o X.env
      standAt apos.atName
      let (f, first) ← holding [ov] (getMethod ov m pl)
      callWith pos f first (backTo pos (starEach [] X.env)) (backToKw pos (keywordEach [] X.env))) := by rfl) :
    PE X (.Call (.Attribute o m apos) [] [] pos) (tMeth C m sp dvs E ta tNil) := by
  refine ⟨fun pins s σ H Q I h => ?_⟩
  refine PySem.W.methodCall_KW (pl := pl) (thn (he.run pins s σ H _ I h) fun u s1 ⟨x, H1, I1, rx, a, dx, fs, ex, ea, l, q⟩ => ?_) ht
  subst ex
  obtain rfl : u = Value.ref a := rx
  refine getmeth_ok I1 ea c hm l ?_
  exact PySem.W.callWith_K0 (first := [.ref a]) I1.kIn hm.kp (goFn (us := [.ref a]) (vs := [.ref a]) G hgd hr hb hd hx I1 (.cons rfl .nil) q)
theorem go_make {pins : List (Addr × Obj)} {σ : L2.St} {H : Hp} {s : Shared} {Q : VK} {us : List Value} {vs : List V} (M : Mk X.K C f) (G : FnG X.prog X.w X.K X.mg X.base CX k f fd ps sp) (hgd : X.A.guards = some []) (hr : Room (k + 1) X.A) (hb : Binds X.K fd ps ds) (hd : Vals dvs ds)
    (hx : Passes CX X E) (I : Inv X pins σ H s) (r : Vals vs us)
    (h : ∀ x dx, H x = none → H dx = none → dx ≠ x → sp (.ref x :: (vs ++ dvs)) (upd (upd H dx (.own x)) x (.ins C dx [])) (fun v H2 => v = .non ∧ Q (.ref x) H2) E) :
    wpAny (model X.prog X.w) X.A (call (.ref C) us) (EP X pins σ Q) X.xe s := by
  have hq := h (s.heap.objs.size + 1) s.heap.objs.size (I.hok.fresh (Nat.le_succ _)) (I.hok.fresh (Nat.le_refl _)) (Nat.ne_of_lt (Nat.lt_succ_self _))
  have I2 := Inv.made (C := C) I
  have r2 : Vals (V.ref (s.heap.objs.size + 1) :: (vs ++ dvs)) (Value.ref (s.heap.objs.size + 1) :: (us ++ ds)) := .cons rfl (r.append hd)
  have hl : (Value.ref (s.heap.objs.size + 1) :: us ++ ds).length = ps.length := by
    have e := r2.length
    rw [G.ar _ _ _ _ hq] at e
    exact e.symm
  refine wpAny_call (make_map (f := f) I.kIn M.makes M.init (beq_iff_eq.mp M.fn) (codeAny_mono (G.go _ X.stack _ _ ⟨Value.ref (s.heap.objs.size + 1) :: us, []⟩ (Value.ref (s.heap.objs.size + 1) :: (us ++ ds)) _ _ E hgd (hr.make C us [])
    (I2.env0.make C us []) (hb _ (Value.ref (s.heap.objs.size + 1) :: us) I2.kIn hl) r2 hq) fun r s' hq' => ?_))
  cases r with
  | error e => exact hx pins σ _ _ e s' I2 hq'
  | ok fl =>
    cases fl with
    | ret u =>
      obtain ⟨v, H', I3, rv, ev, q3⟩ := I2.after hq'
      subst ev
      exact ⟨rv, ⟨V.ref (s.heap.objs.size + 1), H', I3, rfl, q3⟩⟩
    | next => exact False.elim hq'
    | brk => exact False.elim hq'
    | cont => exact False.elim hq'
theorem pe_makeG (M : Mk X.K C f) (G : FnG X.prog X.w X.K X.mg X.base CX k f fd ps sp) (hgd : X.A.guards = some []) (hr : Room (k + 1) X.A) (hm : X.mg x = some (.ref C)) (hb : Binds X.K fd ps ds) (hd : Vals dvs ds) (hx : Passes CX X E)
    (ha : PA X (e :: es) t) (hg : Gl X x := by rfl) (hdb : (x == ("__debug__" : Str)) = false := by decide) (he : starEach (e :: es) X.env = (false, eval e X.env) :: starEach es X.env := by rfl) (hpl : (backTo pos (starEach es X.env)).any (·.1) = false := by rfl) :
    PE X (.Call (.Name x p) (e :: es) [] pos) (tMake C sp dvs E t) := by
  refine ⟨fun pins s σ H Q I h => ?_⟩
  refine wpAny_Call_Name_kw (ld_glob I hg hm ?_ hdb)
  refine PySem.W.callWith_K (h₀ := X.base) I.ok.mod.kin M.kp (thn (ha.run pos pins s σ H _ I h) fun us s1 ⟨vs, H1, I1, r, q⟩ => ⟨I1.kIn, ?_⟩) he hpl
  exact go_make M G hgd hr hb hd hx I1 r q
theorem pe_makeG0 (M : Mk X.K C f) (G : FnG X.prog X.w X.K X.mg X.base CX k f fd ps sp) (hgd : X.A.guards = some []) (hr : Room (k + 1) X.A) (hm : X.mg x = some (.ref C)) (hb : Binds X.K fd ps ds) (hd : Vals dvs ds) (hx : Passes CX X E)
    (hg : Gl X x := by rfl) (hdb : (x == ("__debug__" : Str)) = false := by decide) :
    PE X (.Call (.Name x p) [] [] pos) (tMake C sp dvs E tNil) := by
  refine ⟨fun pins s σ H Q I h => ?_⟩
  refine wpAny_Call_Name_kw (ld_glob I hg hm ?_ hdb)
  exact PySem.W.callWith_K0 I.kIn M.kp (go_make (us := []) M G hgd hr hb hd hx I .nil h)
end
/-- a method of the class c -/
structure MtX (P : Program) (w : World) (K : PySem.W.Frag) (mg : Str → Option Value) (base : Heap) (c m : Str) (k : Nat) (ps : List Str) (sp : Sp) : Prop where
  cls : Cls K (He.ga K c)
  mt : Meth K (He.ga K c) m (He.ma K (He.ga K c) m)
  ex : ∃ fd : FuncData, FnG P w K mg base CX0 k (He.ma K (He.ga K c) m) fd ps sp ∧ Binds K fd ps []
/-- a class with its __init__ -/
structure MkX (P : Program) (w : World) (K : PySem.W.Frag) (mg : Str → Option Value) (base : Heap) (c : Str) (k : Nat) (ps : List Str) (sp : Sp) : Prop where
  mkr : Mk K (He.ga K c) (He.ma K (He.ga K c) "__init__")
  gl : mg c = some (.ref (He.ga K c))
  ex : ∃ fd : FuncData, FnG P w K mg base CX0 k (He.ma K (He.ga K c) "__init__") fd ps sp ∧ Binds K fd ps []
section
variable {X : Cx} {O Oi : List Kd} {b : Bool} {k j n : Nat} {ps : List Str} {mf : En → Option (D × En)} {r : Ak} {x m : Str} {p pos apos : Pos} {e : Expr} {es : List Expr} {ma : MA} {ks : List Ak}
/-- o.m(e, ..) -/
theorem eb_meth {pl : Sem Bool} (G : MtX X.prog X.w X.K X.mg X.base (cn O) m k ps (spM b X.K Oi mf r)) (hgd : X.A.guards = some []) (hr : Room j X.A) (ha : PA X (e :: es) (tA X.K O ma ks)) (hj : k ≤ j := by decide) (hk : allFz ks = true := by rfl) (hs : csh O Oi ks.length = true := by decide +kernel) (hm : m ∉ ats O := by decide +kernel) (hrr : ∀ i, r ≠ .br i := by exact fun _ z => by cases z)
    (hN : X.N[oi O]? = some x := by rfl) (hv : Vis X.env.scope x := by first | exact Or.inl rfl | exact Or.inr (Or.inl rfl) | exact Or.inr (Or.inr rfl)) (hd : (x == ("__debug__" : Str)) = false := by decide) (hcd : (x == ("__classdict__" : Str)) = false := by decide)
    (hst : starEach (e :: es) X.env = (false, eval e X.env) :: starEach es X.env := by rfl) (hpl : (backTo pos (starEach es X.env)).any (·.1) = false := by rfl)
    (ht : eval (.Call (.Attribute (.Name x p) m apos) (e :: es) [] pos) X.env = (do
      let ov ← eval (.Name x p) X.env
      standAt apos.atName
      let (f, first) ← holding [ov] (getMethod ov m pl)
      callWith pos f first (backTo pos (starEach (e :: es) X.env)) (backToKw pos (keywordEach [] X.env))) := by rfl) :
    PE X (.Call (.Attribute (.Name x p) m apos) (e :: es) [] pos) (tEB b X.K O (mCallM (nl O) (nl Oi) mf ma) r) := by
  obtain ⟨fd, G1, G2⟩ := G.ex
  have S := csh_of hs
  refine PEi (pe_methG (pl := pl) (E := E0) (dvs := []) (ds := []) (pe_var hN hv hd hcd) G.cls G.mt G1 hgd (hr.mono hj) G2 .nil pass0 ha hst hpl ht) fun σ H Q ⟨F, ρ, d, ρ', ok, hm', q⟩ => ?_
  obtain ⟨⟨ds0, ρ1⟩, h1, h2⟩ := bind_some hm'
  obtain ⟨⟨d1, out⟩, h3, h4⟩ := bind_some h2
  cases h4
  have bo := ok.obj S.ho
  obtain ⟨C, dx, fs, e4, e5⟩ := bo.ex
  obtain ⟨eC, eK⟩ := bo.cls _ _ _ e4
  subst eC
  refine ⟨.ref (ob O σ), bo.at0, ob O σ, dx, fs, rfl, e4, eK.non hm, F, ρ, ds0, ρ1, ok, h1, fun vs F1 H1 ok1 st1 r1 => ?_⟩
  obtain ⟨g1, g2⟩ := r1.fz hk
  have gl := g1.length
  have okc : Ok X.K Oi (cwd O ⟨F1, H1, σ, ρ1⟩ ds0 vs) := call_okM S (by omega) (by omega) ok1 g1
  rw [List.append_nil]
  refine ⟨F1, _, d1, out, okc, h3, fun v F2 H2 okr str rs => ?_⟩
  obtain ⟨a, b', c⟩ := call_backM (w := ⟨F, H, σ, ρ⟩) (w1 := ⟨F1, H1, σ, ρ1⟩) S (by omega) (by omega) hrr st1.toStpS (fun _ => st1) ok1 okr str rs
  exact q v F2 H2 a b' c
/-- o.m() -/
theorem eb_meth0 {pl : Sem Bool} (G : MtX X.prog X.w X.K X.mg X.base (cn O) m k ps (spM b X.K Oi mf r)) (hgd : X.A.guards = some []) (hr : Room j X.A) (hj : k ≤ j := by decide) (hs : csh O Oi 0 = true := by decide +kernel) (hm : m ∉ ats O := by decide +kernel) (hrr : ∀ i, r ≠ .br i := by exact fun _ z => by cases z)
    (hN : X.N[oi O]? = some x := by rfl) (hv : Vis X.env.scope x := by first | exact Or.inl rfl | exact Or.inr (Or.inl rfl) | exact Or.inr (Or.inr rfl)) (hd : (x == ("__debug__" : Str)) = false := by decide) (hcd : (x == ("__classdict__" : Str)) = false := by decide)
    (ht : eval (.Call (.Attribute (.Name x p) m apos) [] [] pos) X.env = (do
      let ov ← eval (.Name x p) X.env
      standAt apos.atName
      let (f, first) ← holding [ov] (getMethod ov m pl)
      callWith pos f first (backTo pos (starEach [] X.env)) (backToKw pos (keywordEach [] X.env))) := by rfl) :
    PE X (.Call (.Attribute (.Name x p) m apos) [] [] pos) (tEB b X.K O (mCallM (nl O) (nl Oi) mf maNil) r) := by
  obtain ⟨fd, G1, G2⟩ := G.ex
  have S := csh_of hs
  refine PEi (pe_methG0 (pl := pl) (E := E0) (dvs := []) (ds := []) (pe_var hN hv hd hcd) G.cls G.mt G1 hgd (hr.mono hj) G2 .nil pass0 ht) fun σ H Q ⟨F, ρ, d, ρ', ok, hm', q⟩ => ?_
  obtain ⟨⟨ds0, ρ1⟩, h1, h2⟩ := bind_some hm'
  cases h1
  obtain ⟨⟨d1, out⟩, h3, h4⟩ := bind_some h2
  cases h4
  have bo := ok.obj S.ho
  obtain ⟨C, dx, fs, e4, e5⟩ := bo.ex
  obtain ⟨eC, eK⟩ := bo.cls _ _ _ e4
  subst eC
  refine ⟨.ref (ob O σ), bo.at0, ob O σ, dx, fs, rfl, e4, eK.non hm, ?_⟩
  have okc : Ok X.K Oi (cwd O ⟨F, H, σ, ρ⟩ [] []) := call_okM S rfl rfl ok rfl
  refine ⟨F, _, d1, out, okc, h3, fun v F2 H2 okr str rs => ?_⟩
  obtain ⟨a, b', c⟩ := call_backM (w := ⟨F, H, σ, ρ⟩) (w1 := ⟨F, H, σ, ρ⟩) (ds := []) (vs := []) S rfl rfl hrr (StpS.refl _ _) (fun _ => .refl _ _) ok okr str rs
  exact q v F2 H2 a b' c
end
/-! ### an object made -/
structure KShape (O Oi O' : List Kd) (i n : Nat) : Prop where
  n0 : hasO O = false
  hi : hasO Oi = true
  h' : hasO O' = true
  ea : ats O' = ats Oi
  ec : cn O' = cn Oi
  o1 : oi Oi = 0
  o2 : oi O' = i
  ln : nl Oi = n + 1
  l' : nl O' = O.length
  lo : Oi.length = nl Oi + (ats Oi).length + 1
  lo2 : O'.length = O.length + (ats Oi).length + 1
  oi_ : O[i]? = some .fz
  lc : ∀ j, j < O.length → O'[j]? = O[j]?
  fzs : ∀ j, j < nl Oi → Oi[j]? = some .fz
  kk : ∀ j, j < (ats Oi).length → Oi[nl Oi + j]? = O'[O.length + j]?
  np : ∀ (j : Nat) (k : Kd), Oi[j]? = some k → k.pin = false
def ksh (O Oi O' : List Kd) (i n : Nat) : Bool := !hasO O && (hasO Oi && (hasO O' && (decide (ats O' = ats Oi) && (decide (cn O' = cn Oi) && (decide (oi Oi = 0) && (decide (oi O' = i) && (decide (nl Oi = n + 1) && (decide (nl O' = O.length) && (decide (Oi.length = nl Oi + (ats Oi).length + 1) && (decide (O'.length = O.length + (ats Oi).length + 1) && (decide (O[i]? = some .fz) && (decide (O'.take O.length = O) && (decide (Oi.take (nl Oi) = List.replicate (nl Oi) .fz) && (decide ((Oi.drop (nl Oi)).take (ats Oi).length = (O'.drop O.length).take (ats Oi).length) && npin Oi))))))))))))))
theorem ksh_of {O Oi O' : List Kd} {i n : Nat} (h : ksh O Oi O' i n = true) : KShape O Oi O' i n := by
  obtain ⟨h1, h⟩ := Bool.and_eq_true_iff.mp h
  obtain ⟨h2, h⟩ := Bool.and_eq_true_iff.mp h
  obtain ⟨h3, h⟩ := Bool.and_eq_true_iff.mp h
  obtain ⟨h4, h⟩ := Bool.and_eq_true_iff.mp h
  obtain ⟨h5, h⟩ := Bool.and_eq_true_iff.mp h
  obtain ⟨h6, h⟩ := Bool.and_eq_true_iff.mp h
  obtain ⟨h7, h⟩ := Bool.and_eq_true_iff.mp h
  obtain ⟨h8, h⟩ := Bool.and_eq_true_iff.mp h
  obtain ⟨h9, h⟩ := Bool.and_eq_true_iff.mp h
  obtain ⟨h10, h⟩ := Bool.and_eq_true_iff.mp h
  obtain ⟨h11, h⟩ := Bool.and_eq_true_iff.mp h
  obtain ⟨h12, h⟩ := Bool.and_eq_true_iff.mp h
  obtain ⟨h13, h⟩ := Bool.and_eq_true_iff.mp h
  obtain ⟨h14, h⟩ := Bool.and_eq_true_iff.mp h
  obtain ⟨h15, h16⟩ := Bool.and_eq_true_iff.mp h
  have h13 := of_decide_eq_true h13
  have h14 := of_decide_eq_true h14
  have h15 := of_decide_eq_true h15
  refine ⟨by simpa using h1, h2, h3, of_decide_eq_true h4, of_decide_eq_true h5, of_decide_eq_true h6, of_decide_eq_true h7, of_decide_eq_true h8, of_decide_eq_true h9, of_decide_eq_true h10, of_decide_eq_true h11, of_decide_eq_true h12, fun j hj => ?_, fun j hj => ?_, fun j hj => ?_, fun j k e => npin_get h16 j k e⟩
  · have e : (O'.take O.length)[j]? = O[j]? := congrArg (fun l => l[j]?) h13
    rw [List.getElem?_take_of_lt hj] at e
    exact e
  · have e : (Oi.take (nl Oi))[j]? = (List.replicate (nl Oi) Kd.fz)[j]? := congrArg (fun l => l[j]?) h14
    rw [List.getElem?_take_of_lt hj, List.getElem?_replicate, if_pos hj] at e
    exact e
  · have e : ((Oi.drop (nl Oi)).take (ats Oi).length)[j]? = ((O'.drop O.length).take (ats Oi).length)[j]? := congrArg (fun l => l[j]?) h15
    rw [List.getElem?_take_of_lt hj, List.getElem?_take_of_lt hj, List.getElem?_drop, List.getElem?_drop] at e
    exact e
def mMake (i n np na : Nat) (mf : En → Option (D × En)) (ma : MA) (mm : MS) : MS := fun ρ => (ma ρ).bind fun p => (mf ((none :: p.1.map some) ++ List.replicate na none)).bind fun z => match z.1 with
  | .none => (mm ((p.2.set i none) ++ z.2.drop np)).map fun q => (q.1, q.2.take n)
  | _ => none
section
variable {K : PySem.W.Frag} {O Oi O' : List Kd} {i n : Nat} {w1 : Wd} {ds : List D} {vs : List V} {x dx : Addr}
/-- the world at __init__'s entry -/
def iwd (K : PySem.W.Frag) (Oi : List Kd) (w1 : Wd) (ds : List D) (vs : List V) (x dx : Addr) : Wd := ⟨w1.F, upd (upd w1.H dx (.own x)) x (.ins (He.ga K (cn Oi)) dx []), (V.ref x :: vs).map some, (none :: ds.map some) ++ List.replicate ((ats Oi).length + 1) none⟩
theorem init_fp (hx : True) {p : Addr} (S : KShape O Oi O' i n) (hd : ds.length = n) : ¬ Fp Oi (iwd K Oi w1 ds vs x dx) p := by
  rintro ⟨j, k, d, h1, h2, h3, h4⟩
  have h3 : ((none :: ds.map some) ++ List.replicate ((ats Oi).length + 1) none)[j]? = some (some d) := h3
  have hl : (none :: ds.map some).length = nl Oi := by rw [List.length_cons, List.length_map, hd, S.ln]
  by_cases z : j < nl Oi
  · rw [S.fzs j z] at h1
    cases h1
    cases h2
  · rw [List.getElem?_append_right (by omega), List.getElem?_replicate] at h3
    split at h3 <;> cases h3
theorem init_ok (S : KShape O Oi O' i n) (hd : ds.length = n) (hv : vs.length = n) (ok : Ok K O w1) (r : RpA K w1.F ds vs) (hx : w1.H x = none) (hdx : w1.H dx = none) (ne : dx ≠ x) : Ok K Oi (iwd K Oi w1 ds vs x dx) := by
  have hl : (none :: ds.map some).length = nl Oi := by rw [List.length_cons, List.length_map, hd, S.ln]
  have eo : ob Oi (iwd K Oi w1 ds vs x dx).σ = x := by
    show (match ((V.ref x :: vs).map some)[oi Oi]? with | some (some (V.ref p)) => p | _ => 0) = _
    rw [S.o1] <;> rfl
  refine ⟨fun b u hb => ?_, ?_, ?_, fun j d h1 h2 => ?_, fun j k d h1 h2 h3 => ?_, fun a b p h1 h2 => (init_fp trivial S hd ⟨a, h1⟩).elim, fun _ => ?_⟩
  · have h := ok.sub b u hb
    show upd (upd w1.H dx _) x _ b = some u
    rw [upd_ne (ne_of_none h hx), upd_ne (ne_of_none h hdx)]
    exact h
  · show ((V.ref x :: vs).map some).length = _
    rw [List.length_map, List.length_cons, hv, S.ln]
  · show ((none :: ds.map some) ++ List.replicate ((ats Oi).length + 1) none).length = _
    rw [List.length_append, hl, List.length_replicate, S.lo]
    omega
  · have h2 : ((none :: ds.map some) ++ List.replicate ((ats Oi).length + 1) none)[j]? = some (some d) := h2
    by_cases z : j < nl Oi
    · rw [List.getElem?_append_left (by omega)] at h2
      cases j with
      | zero => cases h2
      | succ j =>
        rw [List.getElem?_cons_succ, List.getElem?_map] at h2
        cases e : ds[j]? with
        | none =>
          rw [e] at h2
          cases h2
        | some d' =>
          rw [e] at h2
          cases h2
          obtain ⟨v, g1, g2⟩ := r.get e
          refine ⟨v, ?_, g2⟩
          show sv Oi _ ((V.ref x :: vs).map some) (j + 1) = _
          rw [sv_loc z, List.getElem?_map, List.getElem?_cons_succ, g1]
          rfl
    · rw [List.getElem?_append_right (by omega), List.getElem?_replicate] at h2
      split at h2 <;> cases h2
  · have h3 : ((none :: ds.map some) ++ List.replicate ((ats Oi).length + 1) none)[j]? = some (some d) := h3
    by_cases z : j < nl Oi
    · rw [S.fzs j z] at h1
      cases h1
      cases h2
    · rw [List.getElem?_append_right (by omega), List.getElem?_replicate] at h3
      split at h3 <;> cases h3
  · refine ⟨?_, ?_, ⟨_, dx, [], by rw [eo]; exact upd_same, ?_⟩, ?_, init_fp trivial S hd, fun C d' fs z => ?_⟩
    · rw [eo, S.o1] <;> rfl
    · rw [S.o1, S.ln]
      omega
    · rw [eo]
      show upd (upd w1.H dx _) x _ dx = _
      rw [upd_ne ne, upd_same]
    · rw [eo]
      exact ok.sub.free hx
    · rw [eo] at z
      have z : upd (upd w1.H dx (.own x)) x (.ins (He.ga K (cn Oi)) dx []) x = _ := z
      rw [upd_same] at z
      cases z
      exact ⟨rfl, List.nodup_nil, fun f hf => by cases hf⟩
end
/-- what stands behind an object's making -/
structure Made (K : PySem.W.Frag) (O O' : List Kd) (w1 wm : Wd) : Prop where
  ok : Ok K O' wm
  ex : Same w1.F wm.F
  kp : ∀ b o, w1.H b = some o → wm.H b = some o
  nw : ∀ b o, w1.H b = some o → w1.F b = none → wm.F b = none
  fp : ∀ b, Fp O' wm b → Fp O w1 b ∨ w1.H b = none
  ob0 : w1.H (ob O' wm.σ) = none
section
variable {K : PySem.W.Frag} {O Oi O' : List Kd} {i n : Nat} {w1 : Wd} {ds : List D} {vs : List V} {x dx : Addr}
theorem make_ok {F2 H2 : Hp} {out : En} (S : KShape O Oi O' i n) (hd : ds.length = n) (hv : vs.length = n) (ok : Ok K O w1) (hx : w1.H x = none) (hdx : w1.H dx = none) (ne : dx ≠ x)
    (okr : Ok K Oi ⟨F2, H2, (V.ref x :: vs).map some, out⟩) (str : StpS Oi (iwd K Oi w1 ds vs x dx) ⟨F2, H2, (V.ref x :: vs).map some, out⟩) : Made K O O' w1 ⟨F2, H2, w1.σ.set i (some (.ref x)), (w1.ρ.set i none) ++ out.drop (nl Oi)⟩ := by
  have hrl : w1.ρ.length = O.length := ok.lr
  have hsl : w1.σ.length = O.length := (show w1.σ.length = nl O from ok.ls).trans (nl_no S.n0)
  have hol : out.length = Oi.length := okr.lr
  have hiO : i < O.length := (List.getElem?_eq_some_iff.mp S.oi_).1
  have eoI : ob Oi ((V.ref x :: vs).map some) = x := by
    show (match ((V.ref x :: vs).map some)[oi Oi]? with | some (some (V.ref p)) => p | _ => 0) = _
    rw [S.o1] <;> rfl
  have eo : ob O' (w1.σ.set i (some (.ref x))) = x := by
    show (match (w1.σ.set i (some (.ref x)))[oi O']? with | some (some (V.ref p)) => p | _ => 0) = _
    rw [S.o2, List.getElem?_set_self (by omega)]
  have kp : ∀ b o, w1.H b = some o → H2 b = some o := fun b o h => by
    refine str.kp b o ?_ (init_fp trivial S hd) fun _ => ?_
    · show upd (upd w1.H dx _) x _ b = some o
      rw [upd_ne (ne_of_none h hx), upd_ne (ne_of_none h hdx)]
      exact h
    · show b ≠ ob Oi ((V.ref x :: vs).map some)
      rw [eoI]
      exact ne_of_none h hx
  have nw : ∀ b o, w1.H b = some o → w1.F b = none → F2 b = none := fun b o h f => by
    refine str.nw b o ?_ (init_fp trivial S hd) f
    show upd (upd w1.H dx _) x _ b = some o
    rw [upd_ne (ne_of_none h hx), upd_ne (ne_of_none h hdx)]
    exact h
  have lw : (w1.ρ.set i none).length = O.length := by rw [List.length_set]; exact hrl
  have loc : ∀ {j : Nat} {d : D}, j < O.length → ((w1.ρ.set i none) ++ out.drop (nl Oi))[j]? = some (some d) → j ≠ i ∧ w1.ρ[j]? = some (some d) := fun {j d} h e => by
    rw [List.getElem?_append_left (by omega)] at e
    rcases set_get e with ⟨_, q⟩ | ⟨q1, q2⟩
    · cases q
    · exact ⟨fun z => q1 z.symm, q2⟩
  have att : ∀ {j : Nat}, O.length ≤ j → ((w1.ρ.set i none) ++ out.drop (nl Oi))[j]? = out[nl Oi + (j - O.length)]? := fun {j} h => by
    rw [List.getElem?_append_right (by omega), lw, List.getElem?_drop]
  have svL : ∀ {j : Nat}, j < O.length → j ≠ i → sv O' H2 (w1.σ.set i (some (.ref x))) j = w1.sv O j := fun {j} h z => by
    rw [sv_loc (by rw [S.l']; exact h), List.getElem?_set_ne fun y => z y.symm]
    exact (sv_loc (by rw [nl_no S.n0]; exact h)).symm
  have svA : ∀ {j : Nat}, O.length ≤ j → sv O' H2 (w1.σ.set i (some (.ref x))) j = sv Oi H2 ((V.ref x :: vs).map some) (nl Oi + (j - O.length)) := fun {j} h => by
    unfold sv
    rw [if_neg (by rw [S.l']; omega), if_neg (by omega), S.l', S.ea, eo, eoI, show nl Oi + (j - O.length) - nl Oi = j - O.length by omega]
  have atO : ∀ {j : Nat} {k : Kd}, O.length ≤ j → O'[j]? = some k → (k.own = true ∨ k = .fz) → Oi[nl Oi + (j - O.length)]? = some k := fun {j k} h e hk => by
    have hi : j < O'.length := (List.getElem?_eq_some_iff.mp e).1
    have h2 : j - O.length < (ats Oi).length := by
      refine Classical.byContradiction fun z => ?_
      have e2 : j = O'.length - 1 := by rw [S.lo2] at hi ⊢; omega
      obtain ⟨o, c, as, hl⟩ := hasO_iff.mp S.h'
      rw [List.getLast?_eq_getElem?, ← e2, e] at hl
      cases hl
      rcases hk with hk | hk
      · cases hk
      · cases hk
    have e3 := S.kk (j - O.length) h2
    rw [show O.length + (j - O.length) = j by omega, e] at e3
    exact e3
  have back : ∀ {j : Nat} {p : Addr}, OwnAt O' ⟨F2, H2, w1.σ.set i (some (.ref x)), (w1.ρ.set i none) ++ out.drop (nl Oi)⟩ j p → (j < O.length ∧ OwnAt O w1 j p) ∨ (O.length ≤ j ∧ OwnAt Oi ⟨F2, H2, (V.ref x :: vs).map some, out⟩ (nl Oi + (j - O.length)) p) := fun {j p} ⟨k, d', h1, h2, h3, h4⟩ => by
    by_cases z : j < O.length
    · obtain ⟨g1, g2⟩ := loc z h3
      rw [S.lc j z] at h1
      exact .inl ⟨z, k, d', h1, h2, g2, (svL z g1).symm.trans h4⟩
    · have z : O.length ≤ j := by omega
      exact .inr ⟨z, k, d', atO z h1 (.inl h2), h2, (att z).symm.trans h3, (svA z).symm.trans h4⟩
  have fpn : ∀ {p : Addr}, Fp Oi ⟨F2, H2, (V.ref x :: vs).map some, out⟩ p → w1.H p = none := fun {p} h => by
    rcases str.fp p h with q | q
    · exact (init_fp trivial S hd q).elim
    · have q : upd (upd w1.H dx (.own x)) x (.ins (He.ga K (cn Oi)) dx []) p = none := q
      by_cases e1 : p = x
      · rw [e1]
        exact hx
      · by_cases e2 : p = dx
        · rw [e2]
          exact hdx
        · rw [upd_ne e1, upd_ne e2] at q
          exact q
  have bo' := okr.obj S.hi
  refine ⟨⟨okr.sub, ?_, ?_, fun j d h1 h2 => ?_, fun j k d h1 h2 h3 => ?_, fun a b p h1 h2 => ?_, fun _ => ?_⟩, str.ex, kp, nw, fun b ⟨j, h⟩ => ?_, ?_⟩
  · show (w1.σ.set i _).length = _
    rw [List.length_set, S.l', hsl]
  · show ((w1.ρ.set i none) ++ out.drop (nl Oi)).length = _
    rw [List.length_append, lw, List.length_drop, hol, S.lo, S.lo2]
    omega
  · by_cases z : j < O.length
    · obtain ⟨g1, g2⟩ := loc z h2
      rw [S.lc j z] at h1
      obtain ⟨v, g3, g4⟩ := ok.fz j d h1 g2
      exact ⟨v, (svL z g1).trans g3, g4.mono str.ex⟩
    · have z : O.length ≤ j := by omega
      obtain ⟨v, g3, g4⟩ := okr.fz _ d (atO z h1 (.inr rfl)) ((att z).symm.trans h2)
      exact ⟨v, (svA z).trans g3, g4⟩
  · by_cases z : j < O.length
    · obtain ⟨g1, g2⟩ := loc z h3
      rw [S.lc j z] at h1
      obtain ⟨p, g3, g4, o, g5, g6⟩ := ok.ow j k d h1 h2 g2
      exact ⟨p, (svL z g1).trans g3, nw p o g5 g4, o, kp p o g5, g6.mono str.ex⟩
    · have z : O.length ≤ j := by omega
      obtain ⟨p, g3, g4⟩ := okr.ow _ k d (atO z h1 (.inl h2)) h2 ((att z).symm.trans h3)
      exact ⟨p, (svA z).trans g3, g4⟩
  · have cross : ∀ {a b : Nat}, OwnAt O w1 a p → OwnAt Oi ⟨F2, H2, (V.ref x :: vs).map some, out⟩ b p → False := fun {a b} q q' => by
      obtain ⟨_, o, u⟩ := ok.ownF ⟨a, q⟩
      rw [fpn ⟨b, q'⟩] at u
      cases u
    rcases back h1 with ⟨z, q⟩ | ⟨z, q⟩ <;> rcases back h2 with ⟨z', q'⟩ | ⟨z', q'⟩
    · exact ok.ap a b p q q'
    · exact (cross q q').elim
    · exact (cross q' q).elim
    · have := okr.ap _ _ p q q'
      omega
  · obtain ⟨a0, a1, ⟨C, d', fs, a2, a3⟩, a4, a5, a6⟩ := bo'
    have e2 : ob Oi (Wd.mk F2 H2 ((V.ref x :: vs).map some) out).σ = x := eoI
    rw [e2] at a2 a3 a4 a5 a6
    refine ⟨?_, by rw [S.o2, S.l']; exact hiO, ⟨C, d', fs, by rw [eo]; exact a2, by rw [eo]; exact a3⟩, by rw [eo]; exact a4, ?_, by rw [eo, S.ec, S.ea]; exact a6⟩
    · rw [eo, S.o2]
      show (w1.σ.set i _)[i]? = _
      rw [List.getElem?_set_self (by omega)]
    · rw [eo]
      rintro ⟨j, h⟩
      rcases back h with ⟨_, q⟩ | ⟨_, q⟩
      · obtain ⟨_, o, u⟩ := ok.ownF ⟨j, q⟩
        rw [hx] at u
        cases u
      · exact a5 ⟨_, q⟩
  · rcases back h with ⟨_, q⟩ | ⟨_, q⟩
    · exact .inl ⟨j, q⟩
    · exact .inr (fpn ⟨_, q⟩)
  · rw [eo]
    exact hx
/-- the object forgotten -/
theorem made_end {w wm w' : Wd} {r : Ak} {d : D} {v : V} (S : KShape O Oi O' i n) (st : StpS O w w1) (M : Made K O O' w1 wm) (ok1 : Ok K O w1) (hσ : wm.σ = w1.σ.set i (some (.ref x))) (hρ : ∀ j, j < O.length → j ≠ i → wm.ρ[j]? = w1.ρ[j]?)
    (ok' : Ok K O' w') (st' : StpS O' wm w') : Ok K O ⟨w'.F, w'.H, w'.σ, w'.ρ.take O.length⟩ ∧ StpS O w ⟨w'.F, w'.H, w'.σ, w'.ρ.take O.length⟩ ∧ ((∀ j, r ≠ .br j) → Rs K O' wm w' r d v → Rs K O w ⟨w'.F, w'.H, w'.σ, w'.ρ.take O.length⟩ r d v) := by
  have hlr : w'.ρ.length = O'.length := ok'.lr
  have hls : w'.σ.length = O.length := by rw [show w'.σ.length = nl O' from ok'.ls, S.l']
  have hsl : w1.σ.length = O.length := (show w1.σ.length = nl O from ok1.ls).trans (nl_no S.n0)
  have tk : ∀ {j : Nat} {o : Option D}, (w'.ρ.take O.length)[j]? = some o → j < O.length ∧ w'.ρ[j]? = some o := fun {j o} h => by
    have hj : j < O.length := by
      have := (List.getElem?_eq_some_iff.mp h).1
      rw [List.length_take] at this
      omega
    rw [List.getElem?_take_of_lt hj] at h
    exact ⟨hj, h⟩
  have svL : ∀ {H : Hp} {σ : L2.St} {j : Nat}, j < O.length → sv O H σ j = sv O' H σ j := fun {H σ j} h => by
    rw [sv_loc (by rw [nl_no S.n0]; exact h), sv_loc (by rw [S.l']; exact h)]
  have sup : ∀ {j : Nat} {p : Addr}, OwnAt O ⟨w'.F, w'.H, w'.σ, w'.ρ.take O.length⟩ j p → OwnAt O' w' j p := fun {j p} ⟨k, d', h1, h2, h3, h4⟩ => by
    obtain ⟨g1, g2⟩ := tk h3
    exact ⟨k, d', (S.lc j g1).trans h1, h2, g2, (svL g1).symm.trans h4⟩
  have noO : hasO O = true → False := fun e => by
    rw [S.n0] at e
    cases e
  have nfp : ∀ {b : Addr} {o : HO}, w1.H b = some o → ¬ Fp O w1 b → ¬ Fp O' wm b := fun {b o} h z q => by
    rcases M.fp b q with y | y
    · exact z y
    · rw [h] at y
      cases y
  have keep : ∀ {b : Addr} {o : HO}, w1.H b = some o → ¬ Fp O w1 b → w'.H b = some o := fun {b o} h z => st'.kp b o (M.kp b o h) (nfp h z) fun _ y => by
    rw [y, M.ob0] at h
    cases h
  have ni : ∀ {j : Nat} {k : Kd}, O[j]? = some k → k.pin = true → j ≠ i ∧ j < O.length := fun {j k} h1 h2 => by
    refine ⟨fun z => ?_, (List.getElem?_eq_some_iff.mp h1).1⟩
    rw [z, S.oi_] at h1
    cases h1
    cases h2
  have pnm : ∀ {j : Nat}, j < O.length → j ≠ i → sv O' wm.H wm.σ j = w1.sv O j := fun {j} h z => by
    rw [sv_loc (by rw [S.l']; exact h), hσ, List.getElem?_set_ne fun y => z y.symm]
    exact (sv_loc (by rw [nl_no S.n0]; exact h)).symm
  have fpb : ∀ {b : Addr}, Fp O ⟨w'.F, w'.H, w'.σ, w'.ρ.take O.length⟩ b → Fp O w b ∨ w.H b = none := fun {b} ⟨j, h⟩ => by
    have up : Fp O w1 b ∨ w1.H b = none → Fp O w b ∨ w.H b = none := fun q => by
      rcases q with q | q
      · exact st.fp b q
      · exact st.back q
    rcases st'.fp b ⟨j, sup h⟩ with q | q
    · exact up (M.fp b q)
    · refine up ?_
      cases e : w1.H b with
      | none => exact .inr rfl
      | some o =>
        have := M.kp b o e
        rw [q] at this
        cases this
  refine ⟨⟨ok'.sub, ?_, ?_, fun j d h1 h2 => ?_, fun j k d h1 h2 h3 => ?_, fun a b p h1 h2 => ok'.ap a b p (sup h1) (sup h2), fun e => (noO e).elim⟩,
    ⟨(st.ex.trans M.ex).trans st'.ex, fun b o h z _ => keep (st.kp b o h z fun e => (noO e).elim) (st.nofp h z), fun b o h z f => ?_, fun b h => fpb h, fun j k h1 h2 => ?_, fun j k h1 h2 => ?_, fun j k p d' h1 h2 h3 h4 => ?_, fun e => (noO e).elim⟩, fun hr rs => ?_⟩
  · show w'.σ.length = _
    rw [hls, nl_no S.n0]
  · show (w'.ρ.take O.length).length = _
    rw [List.length_take, hlr, S.lo2]
    omega
  · obtain ⟨g1, g2⟩ := tk h2
    obtain ⟨v, g3, g4⟩ := ok'.fz j d ((S.lc j g1).trans h1) g2
    exact ⟨v, (svL g1).trans g3, g4⟩
  · obtain ⟨g1, g2⟩ := tk h3
    obtain ⟨p, g3, g4⟩ := ok'.ow j k d ((S.lc j g1).trans h1) h2 g2
    exact ⟨p, (svL g1).trans g3, g4⟩
  · have h1 := st.kp b o h z fun e => (noO e).elim
    have n1 := st.nofp h z
    exact st'.nw b o (M.kp b o h1) (nfp h1 n1) (M.nw b o h1 (st.nw b o h z f))
  · obtain ⟨g1, g2⟩ := ni h1 h2
    exact (svL g2).trans ((st'.pn j k ((S.lc j g2).trans h1) h2).trans ((pnm g2 g1).trans (st.pn j k h1 h2)))
  · obtain ⟨g1, g2⟩ := ni h1 (Kd.pin_of h2)
    show (w'.ρ.take O.length)[j]? = _
    rw [List.getElem?_take_of_lt g2, st'.lk j k ((S.lc j g2).trans h1) h2, hρ j g2 g1]
    exact st.lk j k h1 h2
  · obtain ⟨g1, g2⟩ := ni h1 (Kd.pin_of h2)
    have a1 := st.lo j k p d' h1 h2 h3 h4
    have e3 := (st.lk j k h1 h2).trans h3
    have e4 := (st.pn j k h1 (Kd.pin_of h2)).trans h4
    obtain ⟨_, o, u⟩ := ok1.ownF ⟨j, k, d', h1, Kd.own_of h2, e3, e4⟩
    have a2 := st'.lo j k p d' ((S.lc j g2).trans h1) h2 ((hρ j g2 g1).trans e3) ((pnm g2 g1).trans e4)
    show w'.H p = w.H p
    rw [a2, M.kp p o u, ← a1, u]
  · cases r with
    | fz => exact rs
    | ow =>
      obtain ⟨p, e, g1, g2, g3, g4, g5⟩ := rs
      refine ⟨p, e, g1, g2, fun ⟨j, h⟩ => g3 ⟨j, sup h⟩, ?_, fun e => (noO e).elim⟩
      have up : Fp O w1 p ∨ w1.H p = none → Fp O w p ∨ w.H p = none := fun q => by
        rcases q with q | q
        · exact st.fp p q
        · exact st.back q
      rcases g4 with q | q
      · exact up (M.fp p q)
      · refine up ?_
        cases e : w1.H p with
        | none => exact .inr rfl
        | some o =>
          have := M.kp p o e
          rw [q] at this
          cases this
    | br j => exact (hr j rfl).elim
end
section
variable {X : Cx} {O Oi O' : List Kd} {k j : Nat} {ps : List Str} {mf : En → Option (D × En)} {r : Ak} {x c : Str} {p pos pos' spos : Pos} {e : Expr} {es : List Expr} {ma : MA} {ks : List Ak} {rest : List Stmt} {mm : MS}
/-- x = C(e, ..), and the block behind -/
theorem ss_make (i : Nat) (hN : X.N.Nodup) (G : MkX X.prog X.w X.K X.mg X.base c k ps (spM false X.K Oi mf .fz)) (hgd : X.A.guards = some []) (hr : Room j X.A) (ha : PA X (e :: es) (tA X.K O ma ks)) (h : PSs X rest (tS X.K O' mm r)) (hj : k + 1 ≤ j := by decide) (hk : allFz ks = true := by rfl) (hs : ksh O Oi O' i ks.length = true := by decide +kernel) (hc : cn Oi = c := by rfl) (hrr : ∀ i, r ≠ .br i := by exact fun _ z => by cases z)
    (hg : Gl X c := by rfl) (hdb : (c == ("__debug__" : Str)) = false := by decide) (he : starEach (e :: es) X.env = (false, eval e X.env) :: starEach es X.env := by rfl) (hpl : (backTo pos (starEach es X.env)).any (·.1) = false := by rfl)
    (hi : X.N[i]? = some x := by rfl) (hx : Loc X.env.scope x := by first | exact Or.inl rfl | exact Or.inr rfl) (hsw : swapsWith (.Call (.Name c p) (e :: es) [] pos) (some (.Name x pos')) spos.line X.env = pure false := by rfl) (hf : X.fn x = true ∨ X.env.scope.names.lookup x = some .local := by first | exact .inl rfl | exact .inr rfl | assumption) :
    PSs X (.Assign [.Name x pos'] (.Call (.Name c p) (e :: es) [] pos) spos :: rest) (tS X.K O (mMake i O.length (nl Oi) ((ats Oi).length + 1) mf ma mm) r) := by
  obtain ⟨fd, G1, G2⟩ := G.ex
  have S := ksh_of hs
  refine PSsi (pss_cons (ps_set hN hi hx (pe_makeG (E := E0) (dvs := []) (ds := []) G.mkr G1 hgd (hr.mono hj) G.gl G2 .nil pass0 ha hg hdb he hpl) hsw hf) h) fun Dn σ H ⟨F, ρ, fl, ρ', ok, hm, q⟩ => ?_
  obtain ⟨⟨ds0, ρ1⟩, h1, h2⟩ := bind_some hm
  obtain ⟨⟨d1, out⟩, h3, h4⟩ := bind_some h2
  have ed : d1 = .none := by
    cases d1 <;> first | rfl | cases h4
  subst ed
  obtain ⟨⟨f1, ρ2⟩, h5, h6⟩ := map_some h4
  cases h6
  refine ⟨F, ρ, ds0, ρ1, ok, h1, fun vs F1 H1 ok1 st1 r1 a dx hA hD ne => ?_⟩
  obtain ⟨g1, g2⟩ := r1.fz hk
  have gl := g1.length
  have okc : Ok X.K Oi (iwd X.K Oi ⟨F1, H1, σ, ρ1⟩ ds0 vs a dx) := init_ok S (by omega) (by omega) ok1 g1 hA hD ne
  rw [List.append_nil]
  have okc2 : Ok X.K Oi ⟨F1, upd (upd H1 dx (.own a)) a (.ins (He.ga X.K c) dx []), (V.ref a :: vs).map some, (none :: ds0.map some) ++ List.replicate ((ats Oi).length + 1) none⟩ := by
    rw [← hc]
    exact okc
  refine ⟨F1, _, .none, out, okc2, h3, fun v F2 H2 okr str rs => ?_⟩
  refine ⟨rs, ?_⟩
  have M := make_ok (K := X.K) (w1 := ⟨F1, H1, σ, ρ1⟩) (ds := ds0) (vs := vs) S (by omega) (by omega) ok1 hA hD ne okr (by
    have z := str.toStpS
    rw [← hc] at z
    exact z)
  refine ⟨F2, _, f1, ρ2, M.ok, h5, ?_⟩
  have hρ : ∀ j, j < O.length → j ≠ i → ((ρ1.set i none) ++ out.drop (nl Oi))[j]? = ρ1[j]? := fun j hj hji => by
    rw [List.getElem?_append_left (by rw [List.length_set, show ρ1.length = O.length from ok1.lr]; exact hj), List.getElem?_set_ne fun z => hji z.symm]
  cases f1 with
  | nx =>
    intro σ' F' H' ok' st'
    obtain ⟨a1, a2, _⟩ := made_end (r := .fz) (d := .none) (v := .non) S st1.toStpS M ok1 rfl hρ ok' st'
    exact q σ' F' H' a1 a2
  | bk =>
    intro σ' F' H' ok' st'
    obtain ⟨a1, a2, _⟩ := made_end (r := .fz) (d := .none) (v := .non) S st1.toStpS M ok1 rfl hρ ok' st'
    exact q σ' F' H' a1 a2
  | ct =>
    intro σ' F' H' ok' st'
    obtain ⟨a1, a2, _⟩ := made_end (r := .fz) (d := .none) (v := .non) S st1.toStpS M ok1 rfl hρ ok' st'
    exact q σ' F' H' a1 a2
  | rt d =>
    intro v σ' F' H' ok' st' rs'
    obtain ⟨a1, a2, a3⟩ := made_end (r := r) (d := d) (v := v) S st1.toStpS M ok1 rfl hρ ok' st'
    exact q v σ' F' H' a1 a2 (a3 hrr rs')
end
end DL

/-! EI1: texts walked; dicts: get, pop, copied, displayed. -/
namespace DL
open PySem PySem.Spec PyProof.Rows L2

/-! ### a text walked -/
def signs (x : Str) : List D := x.cps.toList.map fun c => .str ⟨#[c]⟩
def mItStr (m : M) : MI := fun ρ => (m ρ).bind fun p => match p.1 with
  | .str x => some (signs x, p.2)
  | _ => none
theorem signs_len {x : Str} : (signs x).length = x.cps.size := by
  unfold signs
  rw [List.length_map, Array.length_toList]
section
variable {X : Cx} {O L : List Kd} {tg e : Expr} {k : Ak}
theorem i_str {m : M} (h : PE X e (tE X.K O m .fz)) : PI X tg e (tI X.K O L (mItStr m)) := by
  refine PIi (pi_str h) fun σ H R ⟨F, ρ, ds, ρ', ok, hm, q⟩ => ?_
  obtain ⟨⟨d, ρ1⟩, e1, e2⟩ := bind_some hm
  cases d <;> first | (cases e2; done) | skip
  rename_i x
  cases e2
  refine ⟨F, ρ, _, _, ok, e1, fun v F1 H1 ok1 st1 r1 => ?_⟩
  have r1 : v = .str x := r1
  subst r1
  refine ⟨x, rfl, q _ F1 H1 (fun _ => True) ok1 st1 ?_ fun _ _ _ _ _ => trivial⟩
  rw [signs_len]
  refine walk_str.mono (fun _ h => h) fun i H x' H' hi _ y F e s => ?_
  obtain ⟨rfl, c, hc, rfl⟩ := y
  refine ⟨F, .refl s, .str ⟨#[c]⟩, ?_, rfl⟩
  unfold signs
  rw [List.getElem?_map, Array.getElem?_toList, hc]
  rfl
end
/-! ### d.get(k) -/
def mGet1 (ka : Ak) (m mb : M) : M := fun ρ => (m ρ).bind fun p => match fill [ka] [p.1] p.2 with
  | some [.dict _] => (mb p.2).bind fun q => (match fill [ka] [p.1] q.2 with
    | some [.dict kvs] => (dKey q.1).map fun k => ((getD' k kvs).getD .none, q.2)
    | _ => none)
  | _ => none
theorem vw_dict {K : PySem.W.Frag} {F H : Hp} {kvs : List (D × D)} {v : V} (h : Vw K F H (.dict kvs) v) : ∃ a vs, v = .ref a ∧ Rd H a (.dK vs) ∧ RpD K F kvs vs := h
section
variable {K : PySem.W.Frag} {O : List Kd} {w w' : Wd}
theorem rs_view {k : Ak} {d e : D} {v : V} (ok : Ok K O w') (r : Rs K O w w' k d v) (hf : fill [k] [d] w'.ρ = some [e]) : Vw K w'.F w'.H e v := by
  have h : VwA K w'.F w'.H [e] [v] := Rss.views (O := O) (w := w) (w' := w') (ks := [k]) (ds := [d]) (vs := [v]) ok ⟨d, [], v, [], rfl, rfl, r, rfl, rfl⟩ hf
  obtain ⟨u, hu, z⟩ := h.one
  cases hu
  exact z
end
section
variable {X : Cx} {O : List Kd} {o e f : Expr} {apos cpos : Pos} {ka : Ak} {m mb : M}
theorem e_get1 (hu : X.A.units + 65 < cLine) (ho : PE X o (tE X.K O m ka)) (he : PE X e (tE X.K O mb .fz)) (mm : M1 X o "get" apos e cpos := by exact ⟨rfl, rfl, rfl, rfl⟩) : PE X (.Call (.Attribute o "get" apos) [e] [] cpos) (tE X.K O (mGet1 ka m mb) .fz) := by
  refine PEi (pe_dget1 (by omega) ho he mm) fun σ H Q ⟨F, ρ, d, ρ', ok, hm, q⟩ => ?_
  obtain ⟨⟨d1, ρ1⟩, e1, e2⟩ := bind_some hm
  dsimp only at e2
  split at e2
  · rename_i kv0 f1
    obtain ⟨⟨d2, ρ2⟩, e3, e4⟩ := bind_some e2
    dsimp only at e4
    split at e4
    · rename_i kvs f2
      obtain ⟨k, e5, e6⟩ := map_some e4
      cases e6
      refine ⟨F, ρ, d1, ρ1, ok, e1, fun v F1 H1 ok1 st1 r1 => ?_⟩
      obtain ⟨a, vs, rfl, g1, g2⟩ := vw_dict (rs_view ok1 r1 f1)
      refine ⟨a, rfl, .inl ⟨vs, g1⟩, F1, ρ1, d2, _, ok1, e3, fun u F2 H2 ok2 st2 r2 => ?_⟩
      obtain ⟨a', vs', ea, g3, g4⟩ := vw_dict (rs_view ok2 (r1.step st2 rfl) f2)
      cases ea
      have r2 : u = kV k := dKey_rp e5 (Rp.vw (H := H2) ok2.sub r2)
      subst r2
      refine ⟨valV vs' k, .inl ⟨vs', k, g3, rfl, rfl⟩, q _ F2 H2 ok2 (st1.trans st2) ?_⟩
      rcases getD_rp (k := k) g4 with ⟨a1, a2⟩ | ⟨d', v', a1, a2, a3⟩
      · rw [a1, a2]
        exact rfl
      · rw [a1, a2]
        exact a3
    · cases e4
  · cases e2
end
/-! ### d.pop(k) of a slot's dict -/
def dropD' (k : Key) (kvs : List (D × D)) : List (D × D) := kvs.filter fun p => decide (dKey p.1 ≠ some k)
theorem RpD.drp {K : PySem.W.Frag} {F : Hp} {k : Key} : ∀ {kvs : List (D × D)} {vs : List (Key × V)}, RpD K F kvs vs → RpD K F (dropD' k kvs) (dropK vs k)
  | [], _, h => by
    rw [show _ = [] from h]
    rfl
  | (_, b) :: r, _, ⟨q, u, vr, e, e2, h1, h⟩ => by
    subst e e2
    have ih := RpD.drp (k := k) h
    unfold dropD' dropK at ih ⊢
    by_cases e : q = k
    · subst e
      rw [List.filter_cons_of_neg (by simp [dKey_kD]), List.filter_cons_of_neg (by simp)]
      exact ih
    · rw [List.filter_cons_of_pos (by simp [dKey_kD, e]), List.filter_cons_of_pos (by simp [e])]
      exact ⟨q, u, _, rfl, rfl, h1, ih⟩
def mDpop (i : Nat) (mb : M) : M := fun ρ => match ρ[i]? with
  | some (some (.dict _)) => (mb ρ).bind fun q => (match q.2[i]? with
    | some (some (.dict kvs)) => (dKey q.1).bind fun k => (getD' k kvs).map fun d => (d, q.2.set i (some (.dict (dropD' k kvs))))
    | _ => none)
  | _ => none
section
variable {X : Cx} {O : List Kd} {o e f : Expr} {apos cpos : Pos} {m mb : M}
theorem e_dpop (i : Nat) (ho : PE X o (tE X.K O (mBr i) (.br i))) (he : PE X e (tE X.K O mb .fz)) (hO : mutK O[i]? = true := by rfl) (mm : M1 X o "pop" apos e cpos := by exact ⟨rfl, rfl, rfl, rfl⟩) : PE X (.Call (.Attribute o "pop" apos) [e] [] cpos) (tE X.K O (mDpop i mb) .fz) := by
  refine PEi (pe_dpop1 ho he mm) fun σ H Q ⟨F, ρ, d, ρ', ok, hm, q⟩ => ?_
  unfold mDpop at hm
  split at hm
  · rename_i kv0 f1
    obtain ⟨⟨d2, ρ2⟩, e3, e4⟩ := bind_some hm
    dsimp only at e4
    split at e4
    · rename_i kvs f2
      obtain ⟨k, e5, e6⟩ := bind_some e4
      obtain ⟨d3, e7, e8⟩ := map_some e6
      cases e8
      refine ⟨F, ρ, .none, ρ, ok, by unfold mBr; rw [f1], fun v F1 H1 ok1 st1 r1 => ?_⟩
      obtain ⟨r2, k0, k1, k2⟩ := r1
      obtain ⟨a, y1, y2, oo, y3, xs, y4, y5⟩ := ok1.ow i k0 _ k1 k2 f1
      rw [y1] at r2
      cases r2
      subst y4
      refine ⟨a, rfl, .inl ⟨xs, .inl y3⟩, F1, ρ, d2, ρ2, ok1, e3, fun u F2 H2 ok2 st2 r2 => ?_⟩
      obtain ⟨b, z1, z2, oo, z3, ys, z4, z5⟩ := ok2.ow i k0 _ k1 k2 f2
      have eb : a = b := by
        have y1 : sv O H1 σ i = some (some (.ref a)) := y1
        have z1 : sv O H2 σ i = some (some (.ref b)) := z1
        rw [sv_same (H := H1) st2.ost, y1] at z1
        cases z1
        rfl
      subst eb z4
      have r2 : u = kV k := dKey_rp e5 (Rp.vw (H := H2) ok2.sub r2)
      subst r2
      rcases getD_rp (k := k) z5 with ⟨a1, a2⟩ | ⟨d', v', a1, a2, a3⟩
      · rw [a1] at e7
        cases e7
      · rw [a1] at e7
        cases e7
        have kl : k0.lock = false := by
          rw [k1] at hO
          cases k0 <;> first | rfl | cases hO
        obtain ⟨x1, x2⟩ := ok2.chg (o := .dK (dropK ys k)) (d := .dict (dropD' k kvs)) k1 k2 kl f2 z1 z2 ⟨_, rfl, z5.drp⟩
        exact ⟨ys, k, v', z3, rfl, a2, q v' F2 _ x1 ((st1.trans st2).trans x2) a3⟩
    · cases e4
  · cases hm
end
/-! ### dict(d) -/
def dDict : List D → Option D
  | [.dict kvs] => some (.dict kvs)
  | _ => none
section
variable {X : Cx} {O : List Kd} {p pos : Pos} {a : Expr} {ma : MA} {ks : List Ak}
theorem s_dict {K : PySem.W.Frag} : LSem K (fun xs H Q => ∃ (a : Addr) (kvs : List (Key × V)), xs = [.ref a] ∧ Rd H a (.dK kvs) ∧ ∀ p, H p = none → Q (.ref p) (upd H p (.dK kvs))) dDict .ow := by
  intro F H ds vs d Q s hv ho q
  unfold dDict at ho
  split at ho
  · rename_i kvs
    cases ho
    obtain ⟨v, rfl, h⟩ := hv.one
    obtain ⟨a, ws, rfl, h1, h2⟩ := vw_dict h
    exact ⟨a, ws, rfl, h1, Post.dic (K := K) s q h2⟩
  · cases ho
theorem e_dict (B : Bt X.mg) (ha : PA X [a] (tA X.K O ma ks)) (hg : Gl X "dict" := by rfl) (he : starEach [a] X.env = (false, eval a X.env) :: starEach [] X.env := by rfl) (hpl : (backTo pos (starEach [] X.env)).any (·.1) = false := by rfl) : PE X (.Call (.Name "dict" p) [a] [] pos) (tE X.K O (mOp ks ma dDict) .ow) :=
  e_bty call_dictD s_dict B.dict (by decide +kernel) ha hg (by decide) (by decide) he hpl
end
/-! ### what no slot owns, with another content -/
section
variable {K : PySem.W.Frag} {O : List Kd} {w : Wd} {p : Addr} {o o' : HO}
theorem Ok.oth (ok : Ok K O w) (hp : w.H p = some o) (hF : w.F p = none) (np : ¬ Fp O w p) (npo : hasO O = true → p ≠ ob O w.σ) (ho : ∀ a, o ≠ .own a) :
    Ok K O ⟨w.F, upd w.H p o', w.σ, w.ρ⟩ := by
  have hO : hasO O = true → upd w.H p o' (ob O w.σ) = w.H (ob O w.σ) := fun e => upd_ne fun z => npo e z.symm
  have hsv : ∀ j, sv O (upd w.H p o') w.σ j = w.sv O j := fun j => sv_same hO
  have hfp : ∀ {b : Addr}, Fp O ⟨w.F, upd w.H p o', w.σ, w.ρ⟩ b ↔ Fp O w b := fp_same hO
  have hat : ∀ {i : Nat} {b : Addr}, OwnAt O ⟨w.F, upd w.H p o', w.σ, w.ρ⟩ i b ↔ OwnAt O w i b := own_same hO
  refine ⟨fun b u hb => ?_, ok.ls, ok.lr, fun i d e1 e2 => ?_, fun i k d e1 e2 e3 => ?_, fun i j q e1 e2 => ok.ap i j q (hat.mp e1) (hat.mp e2), fun e => ?_⟩
  · show upd w.H p _ b = _
    rw [upd_ne (ne_of_none hb hF)]
    exact ok.sub b u hb
  · obtain ⟨u, g1, g2⟩ := ok.fz i d e1 e2
    exact ⟨u, (hsv i).trans g1, g2⟩
  · obtain ⟨q, g1, g2, u, g3, g4⟩ := ok.ow i k d e1 e2 e3
    have ne : q ≠ p := fun z => np (by rw [← z]; exact ⟨i, k, d, e1, e2, e3, g1⟩)
    exact ⟨q, (hsv i).trans g1, g2, u, by show upd w.H p _ q = _; rw [upd_ne ne]; exact g3, g4⟩
  · obtain ⟨a0, a1, ⟨C, dx, fs, a2, a3⟩, a4, a5, a6⟩ := ok.obj e
    have hd : dx ≠ p := fun z => by
      rw [z, hp] at a3
      cases a3
      exact ho _ rfl
    exact ⟨a0, a1, ⟨C, dx, fs, (hO e).trans a2, by show upd w.H p _ dx = _; rw [upd_ne hd]; exact a3⟩, a4, fun h => a5 (hfp.mp h), fun C dx fs z => a6 C dx fs ((hO e).symm.trans z)⟩
/-- .. counted from a world where it was not -/
theorem Stp.oth {w0 : Wd} (st : Stp O w0 w) (ok : Ok K O w) (h0 : w0.H p = none) (np : ¬ Fp O w p) (npo : hasO O = true → p ≠ ob O w.σ) : Stp O w0 ⟨w.F, upd w.H p o', w.σ, w.ρ⟩ := by
  have hO : hasO O = true → upd w.H p o' (ob O w.σ) = w.H (ob O w.σ) := fun e => upd_ne fun z => npo e z.symm
  have hsv : ∀ j, sv O (upd w.H p o') w.σ j = w.sv O j := fun j => sv_same hO
  have hfp : ∀ {b : Addr}, Fp O ⟨w.F, upd w.H p o', w.σ, w.ρ⟩ b ↔ Fp O w b := fp_same hO
  refine ⟨⟨st.ex, fun b u hb z _ => ?_, st.nw, fun b h => st.fp b (hfp.mp h), fun i k e1 e2 => (hsv i).trans (st.pn i k e1 e2), st.lk, fun i k q d e1 e2 e3 e4 => ?_, fun e => ⟨(st.o0 e).1, fun z => ?_⟩⟩, fun e => ?_⟩
  · show upd w.H p _ b = _
    rw [upd_ne (ne_of_none hb h0)]
    exact st.kp' hb z
  · have g := st.lo i k q d e1 e2 e3 e4
    have ne : q ≠ p := fun z => np (by
      rw [← z]
      exact ⟨i, k, d, e1, Kd.own_of e2, (st.lk i k e1 e2).trans e3, (st.pn i k e1 (Kd.pin_of e2)).trans e4⟩)
    show upd w.H p _ q = _
    rw [upd_ne ne]
    exact g
  · have y := (st.o0 e).2 z
    have y2 := hO e
    rw [(st.o0 e).1] at y2
    exact fun q => y (y2.symm.trans q)
  · have y2 := hO e
    rw [(st.o0 e).1] at y2
    exact y2.trans (st.ost e)
end
/-! ### {k: v, ..} -/
abbrev MPs := En → Option (List (Key × D) × En)
def mpNil : MPs := fun ρ => some ([], ρ)
def mpCons (mk mv : M) (r : MPs) : MPs := fun ρ => (mk ρ).bind fun p => (dKey p.1).bind fun k => (mv p.2).bind fun q => (r q.2).map fun z => ((k, q.1) :: z.1, z.2)
def mergeD (kvs : List (D × D)) (more : List (Key × D)) : List (D × D) := more.foldl (fun acc kv => putD' kv.1 kv.2 acc) kvs
def mDisp (r : MPs) : M := fun ρ => (r ρ).map fun z => (.dict (mergeD [] z.1), z.2)
inductive RpP (K : PySem.W.Frag) (F : Hp) : List (Key × D) → List (Key × V) → Prop
  | nil : RpP K F [] []
  | cons {k : Key} {d : D} {v : V} {ds : List (Key × D)} {vs : List (Key × V)} : Rp K F d v → RpP K F ds vs → RpP K F ((k, d) :: ds) ((k, v) :: vs)
theorem RpP.mono {K : PySem.W.Frag} {F F' : Hp} (e : Same F F') {ds : List (Key × D)} {vs : List (Key × V)} (h : RpP K F ds vs) : RpP K F' ds vs := by
  induction h with
  | nil => exact .nil
  | cons h1 _ ih => exact .cons (Rp.mono e _ _ h1) ih
theorem RpP.len {K : PySem.W.Frag} {F : Hp} {ds : List (Key × D)} {vs : List (Key × V)} (h : RpP K F ds vs) : vs.length = ds.length := by
  induction h with
  | nil => rfl
  | cons _ _ ih => rw [List.length_cons, List.length_cons, ih]
theorem RpP.merge {K : PySem.W.Frag} {F : Hp} {ds : List (Key × D)} {vs : List (Key × V)} (h : RpP K F ds vs) : ∀ {kvs : List (D × D)} {ws : List (Key × V)}, RpD K F kvs ws → RpD K F (mergeD kvs ds) (mergeK ws vs) := by
  induction h with
  | nil => exact fun q => q
  | cons h1 _ ih => exact fun q => ih (q.put h1)
/-- the readings of a display's pairs, against what they make -/
structure PDs (X : Cx) (O : List Kd) (pos : Pos) (keys : List (Option Expr)) (values : List Expr) (r : MPs) : Prop where
  ex : ∃ trs : List (TE × TE), PPs X pos keys values trs ∧ ∀ (σ : L2.St) (F H : Hp) (ρ : En) (zs : List (Key × D)) (ρ' : En) (Q : List (V × V) → Hp → Prop), Ok X.K O ⟨F, H, σ, ρ⟩ → r ρ = some (zs, ρ') →
    (∀ (vs : List (Key × V)) F' H', Ok X.K O ⟨F', H', σ, ρ'⟩ → Stp O ⟨F, H, σ, ρ⟩ ⟨F', H', σ, ρ'⟩ → RpP X.K F' zs vs → Q (vs.map fun kv => (kV kv.1, kv.2)) H') → tPairs trs σ H Q
section
variable {X : Cx} {O : List Kd} {pos : Pos} {k v : Expr} {ks : List (Option Expr)} {vs : List Expr} {mk mv : M} {r : MPs}
theorem pd_nil : PDs X O pos [] [] mpNil := ⟨[], pps_nil, fun σ F H ρ zs ρ' Q ok hm q => by
  cases hm
  exact q [] F H ok (.refl _ _) .nil⟩
theorem pd_cons (hk : PE X k (tE X.K O mk .fz)) (hv : PE X v (tE X.K O mv .fz)) (h : PDs X O pos ks vs r) : PDs X O pos (some k :: ks) (v :: vs) (mpCons mk mv r) := by
  obtain ⟨trs, h1, h2⟩ := h.ex
  refine ⟨_, pps_cons hk hv h1, fun σ F H ρ zs ρ' Q ok hm q => ?_⟩
  obtain ⟨⟨d1, ρ1⟩, e1, e2⟩ := bind_some hm
  obtain ⟨key, e3, e4⟩ := bind_some e2
  obtain ⟨⟨d2, ρ2⟩, e5, e6⟩ := bind_some e4
  obtain ⟨⟨zs', ρ3⟩, e7, e8⟩ := map_some e6
  cases e8
  refine ⟨F, ρ, d1, ρ1, ok, e1, fun x F1 H1 ok1 st1 r1 => ?_⟩
  refine ⟨F1, ρ1, d2, ρ2, ok1, e5, fun y F2 H2 ok2 st2 r2 => ?_⟩
  refine h2 σ F2 H2 ρ2 zs' ρ3 _ ok2 e7 fun ws F3 H3 ok3 st3 r3 => ?_
  have r1 : x = kV key := dKey_rp e3 (Rp.vw (H := H1) ok1.sub r1)
  subst r1
  have rv : Rp X.K F3 d2 y := Rp.mono st3.ex _ _ r2
  exact q ((key, y) :: ws) F3 H3 ok3 ((st1.trans st2).trans st3) (.cons rv r3)
theorem e_disp (h : PDs X O pos ks vs r) (hn : ∀ ρ z, r ρ = some z → z.1.length ≤ 15) (hall : ks.all (·.isSome) = true := by rfl) (hl : ks.length = vs.length := by rfl) (h0 : ks ≠ [] := by exact List.cons_ne_nil _ _) (h15 : ks.length ≤ 15 := by decide) : PE X (.Dict ks vs pos) (tE X.K O (mDisp r) .ow) := by
  obtain ⟨trs, h1, h2⟩ := h.ex
  refine PEi (pe_disp h1 hall hl h0 h15) fun σ H Q ⟨F, ρ, d, ρ', ok, hm, q⟩ p hp => ?_
  obtain ⟨⟨zs, ρ1⟩, e1, e2⟩ := map_some hm
  cases e2
  have pu := Pur.owned (F := F) ok.sub hp (.dK [])
  obtain ⟨ok1, st1⟩ := ok.pur pu
  have nf : F p = none := ok.sub.free hp
  have no1 : hasO O = true → p ≠ ob O σ := fun e z => by
    obtain ⟨C, dx, fs, y, _⟩ := (ok.obj e).ex
    have z : p = ob O σ := z
    have y : H (ob O σ) = _ := y
    rw [z, y] at hp
    cases hp
  have np1 : ¬ Fp O ⟨F, upd H p (.dK []), σ, ρ⟩ p := fun z => by
    obtain ⟨_, o, y⟩ := ok.ownF (p := p) ((fp_same (F := F) (H := H) st1.ost).mp z)
    have y : H p = some o := y
    rw [hp] at y
    cases y
  refine h2 σ F _ ρ zs ρ1 _ ok1 e1 fun ws F2 H2 ok2 st2 r2 => ?_
  have x1 : H2 p = some (.dK []) := st2.kp' upd_same np1
  have np2 := st2.nofp (o := .dK []) upd_same np1
  have nf2 : F2 p = none := st2.nw p (.dK []) upd_same np1 nf
  have ok3 := ok2.oth (o' := .dK (mergeK [] ws)) x1 nf2 np2 no1 fun _ z => by cases z
  have st3 := (st1.trans st2).oth (o' := .dK (mergeK [] ws)) ok2 hp np2 no1
  refine ⟨x1, ws, rfl, by rw [r2.len]; exact hn _ _ e1, q _ F2 _ ok3 st3 ⟨p, rfl, nf2, ⟨_, upd_same, _, rfl, r2.merge rfl⟩, fun z => np2 ((fp_same (F := F2) (H := H2) fun e => upd_ne fun z => no1 e z.symm).mp z), .inr hp, no1⟩⟩
end
theorem mps0 : ∀ ρ z, mpNil ρ = some z → z.1.length ≤ 0 := fun ρ z h => by
  cases h
  exact Nat.le_refl _
theorem mps1 {mk mv : M} {r : MPs} {n : Nat} (h : ∀ ρ z, r ρ = some z → z.1.length ≤ n) : ∀ ρ z, mpCons mk mv r ρ = some z → z.1.length ≤ n + 1 := fun ρ z hm => by
  obtain ⟨_, _, e2⟩ := bind_some hm
  obtain ⟨_, _, e4⟩ := bind_some e2
  obtain ⟨_, _, e6⟩ := bind_some e4
  obtain ⟨_, e7, e8⟩ := map_some e6
  subst e8
  exact Nat.succ_le_succ (h _ _ e7)
theorem mpsle {r : MPs} {n m : Nat} (h : ∀ ρ z, r ρ = some z → z.1.length ≤ n) (hn : n ≤ m) : ∀ ρ z, r ρ = some z → z.1.length ≤ m := fun ρ z e => Nat.le_trans (h ρ z e) hn
end DL

/-! EI2: dict comprehensions. -/
namespace DL
open PySem PySem.Spec PyProof.Rows L2

/-- the new object at Dl on the way -/
structure AccO (K : PySem.W.Frag) (L : List Kd) (w1 : Wd) (Dl : Addr) (w : Wd) (acc : D) : Prop where
  ok : Ok K L w
  st : Stp L w1 w
  at_ : ∃ o, w.H Dl = some o ∧ OwnC K w.F o acc
  nf : w.F Dl = none
  np : ¬ Fp L w Dl
  fr : w1.H Dl = none
  no : hasO L = true → Dl ≠ ob L w.σ
section
variable {K : PySem.W.Frag} {L : List Kd} {w1 w w' : Wd} {Dl : Addr} {acc : D}
theorem AccO.step (a : AccO K L w1 Dl w acc) (ok : Ok K L w') (st : Stp L w w') : AccO K L w1 Dl w' acc := by
  obtain ⟨xs, h1, h2⟩ := a.at_
  exact ⟨ok, a.st.trans st, ⟨xs, st.kp' h1 a.np, h2.mono st.ex⟩, st.nw _ _ h1 a.np a.nf, st.nofp h1 a.np, a.fr, fun e => by rw [(st.o0 e).1]; exact a.no e⟩
theorem AccO.wipe {vs : List Nat} (hv : fzAt L vs = true) (a : AccO K L w1 Dl w acc) : AccO K L w1 Dl ⟨w.F, w.H, wipe w.σ vs, wipeE w.ρ vs⟩ acc :=
  ⟨a.ok.wipe hv, a.st.wipe hv, a.at_, a.nf, fun ⟨i, h⟩ => a.np ⟨i, (own_wipe hv).mp h⟩, a.fr, fun e => by show Dl ≠ ob L (L2.wipe w.σ vs); rw [ob_wipe hv e]; exact a.no e⟩
theorem ownc_own {F : Hp} {o : HO} : ∀ {d : D}, OwnC K F o d → ∀ a, o ≠ .own a
  | .none, h => h.elim
  | .bool _, h => h.elim
  | .int _, h => h.elim
  | .str _, h => h.elim
  | .tuple _, h => h.elim
  | .list _, ⟨_, e, _⟩ => fun a z => by rw [e] at z; cases z
  | .dict _, ⟨_, e, _⟩ => fun a z => by rw [e] at z; cases z
theorem AccO.push {acc' : D} {o' : HO} (a : AccO K L w1 Dl w acc) (r : OwnC K w.F o' acc') : AccO K L w1 Dl ⟨w.F, upd w.H Dl o', w.σ, w.ρ⟩ acc' := by
  obtain ⟨o, h1, h2⟩ := a.at_
  have hO : hasO L = true → upd w.H Dl o' (ob L w.σ) = w.H (ob L w.σ) := fun e => upd_ne fun z => a.no e z.symm
  exact ⟨a.ok.oth h1 a.nf a.np a.no (ownc_own h2), a.st.oth a.ok a.fr a.np a.no, ⟨o', upd_same, r⟩, a.nf, fun z => a.np ((fp_same (F := w.F) (H := w.H) hO).mp z), a.fr, a.no⟩
theorem AccO.new {o : HO} {d : D} (ok : Ok K L w) (st : Stp L w1 w) (h : w.H Dl = none) (h1 : w1.H Dl = none) (hc : OwnC K w.F o d) : AccO K L w1 Dl ⟨w.F, upd w.H Dl o, w.σ, w.ρ⟩ d := by
  have pu := Pur.owned (F := w.F) ok.sub h o
  obtain ⟨a, b⟩ := ok.pur pu
  have no : hasO L = true → Dl ≠ ob L w.σ := fun e z => by
    obtain ⟨C, dx, fs, y, _⟩ := (ok.obj e).ex
    rw [z, y] at h
    cases h
  exact ⟨a, st.trans b, ⟨o, upd_same, hc⟩, ok.sub.free h, fun z => (by
    obtain ⟨_, o, q⟩ := ok.ownF (p := Dl) ((fp_same (F := w.F) (H := w.H) b.ost).mp z)
    rw [h] at q
    cases q), h1, no⟩
end
def mDcL : List D → MG → MT → M → M → List Nat → List (D × D) → En → Option (List (D × D) × En)
  | [], _, _, _, _, _, acc, ρ => some (acc, ρ)
  | d :: ds, g, t, mk, e, vs, acc, ρ => (g d (wipeE ρ vs)).bind fun ρ1 => (t ρ1).bind fun p => if p.1 = true then (mk p.2).bind fun y => (dKey y.1).bind fun k => (e y.2).bind fun q => if acc.length < 1000000 then mDcL ds g t mk e vs (putD' k q.1 acc) q.2 else none
      else mDcL ds g t mk e vs acc p.2
def mDc (mi : MI) (g : MG) (t : MT) (mk e : M) (vs : List Nat) : M := fun ρ => (mi ρ).bind fun p => (mDcL p.1 g t mk e vs [] p.2).map fun q => (.dict q.1, restE p.2 vs q.2)
section
variable {K : PySem.W.Frag} {O L : List Kd} {g : MG} {t : MT} {mk e : M} {vs is : List Nat} {σ : L2.St} {H : Hp} {Q : VK} {mi : MI}
theorem lc_finO {F F1 H1 F2 H2 : Hp} {ρ ρ1 ρe : En} {Dl : Addr} {acc : D} (hv : fzAt L vs = true) (hl : lkOf O L = true) (ok1 : Ok K O ⟨F1, H1, σ, ρ1⟩) (st1 : Stp O ⟨F, H, σ, ρ⟩ ⟨F1, H1, σ, ρ1⟩) (hD : H1 Dl = none)
    (a2 : AccO K L ⟨F1, H1, σ, ρ1⟩ Dl ⟨F2, H2, wipe σ vs, wipeE ρe vs⟩ acc) (l2 : ρe.length = O.length)
    (q : ∀ v F' H', Ok K O ⟨F', H', σ, restE ρ1 vs ρe⟩ → Stp O ⟨F, H, σ, ρ⟩ ⟨F', H', σ, restE ρ1 vs ρe⟩ → Rs K O ⟨F, H, σ, ρ⟩ ⟨F', H', σ, restE ρ1 vs ρe⟩ .ow acc v → Q v H') : Q (.ref Dl) H2 := by
  obtain ⟨o, x1, x2⟩ := a2.at_
  have l1 : ρ1.length = O.length := ok1.lr
  have ow_of : ∀ {i : Nat} {p : Addr}, OwnAt O ⟨F2, H2, σ, restE ρ1 vs ρe⟩ i p → OwnAt L ⟨F2, H2, wipe σ vs, wipeE ρe vs⟩ i p := fun {i p} ⟨k, d', h1, h2, h3, h4⟩ => by
    have o : OwnAt L ⟨F2, H2, σ, restE ρ1 vs ρe⟩ i p := (lk_at hl).mpr ⟨k, d', h1, h2, h3, h4⟩
    obtain ⟨k, d', h1, h2, h3, h4⟩ := o
    have ni : i ∉ vs := fun m => by
      rw [fzAt_get hv m] at h1
      cases h1
      cases h2
    refine (own_wipe (F := F2) (H := H2) hv).mpr ⟨k, d', h1, h2, ?_, h4⟩
    have h3 : (restE ρ1 vs ρe)[i]? = _ := h3
    rw [restE_out ni] at h3
    exact h3
  have st2 := a2.st.unlock hl
  have svO : ∀ i, sv O H2 σ i = sv O H1 σ i := fun i => sv_same st2.ost
  have hob : hasO O = true → ob L (wipe σ vs) = ob O σ := fun e => (ob_wipe hv ((lk_has hl).trans e)).trans (lk_ob hl σ)
  refine q (.ref Dl) F2 H2 ⟨a2.ok.sub, ok1.ls, by show (restE ρ1 vs ρe).length = _; rw [restE_len]; exact l2, fun i d' h1 h2 => ?_, fun i k d' h1 h2 h3 => ?_, fun i j p h1 h2 => a2.ok.ap i j p (ow_of h1) (ow_of h2), fun e => ?_⟩
    (st1.trans ⟨⟨a2.st.ex, st2.kp, st2.nw, fun b ⟨i, h⟩ => ?_, fun i _ _ _ => svO i, fun i k h1 h2 => ?_, st2.lo, fun e => ⟨rfl, (st2.o0 e).2⟩⟩, st2.ost⟩) ⟨Dl, rfl, a2.nf, ⟨o, x1, x2⟩, fun ⟨i, h⟩ => a2.np ⟨i, ow_of h⟩, st1.back hD, fun e => by show Dl ≠ ob O σ; rw [← hob e]; exact a2.no ((lk_has hl).trans e)⟩
  · rcases restE_get h2 with ⟨m, z⟩ | ⟨m, z⟩
    · obtain ⟨v, g1, g2⟩ := ok1.fz i d' h1 z
      exact ⟨v, (svO i).trans g1, g2.mono a2.st.ex⟩
    · obtain ⟨a', u1, u2⟩ := (lk_get hl).1 _ h1
      have u3 : L[i]? = some Kd.fz := by
        rcases u2 with u2 | ⟨u2, _⟩ | ⟨u2, _⟩
        · rw [u2]
          exact u1
        · cases u2
        · cases u2
      obtain ⟨v, g1, g2⟩ := a2.ok.fz i d' u3 (show (wipeE ρe vs)[i]? = _ by rw [wipeE_out m]; exact z)
      exact ⟨v, (lk_sv hl).symm.trans ((sv_wipe hv m).symm.trans g1), g2⟩
  · obtain ⟨a', u1, u2⟩ := (lk_get hl).1 _ h1
    have ni : i ∉ vs := fun m => by
      have z := fzAt_get hv m
      rw [u1] at z
      cases z
      rw [u2.own] at h2
      cases h2
    have h3 : (restE ρ1 vs ρe)[i]? = _ := h3
    rw [restE_out ni] at h3
    obtain ⟨p, g1, g2⟩ := a2.ok.ow i a' d' u1 (u2.own.symm.trans h2) (show (wipeE ρe vs)[i]? = _ by rw [wipeE_out ni]; exact h3)
    exact ⟨p, (lk_sv hl).symm.trans ((sv_wipe hv ni).symm.trans g1), g2⟩
  · obtain ⟨b0, b1, ⟨C, dx, fs, b2, b3⟩, b4, b5, b6⟩ := a2.ok.obj ((lk_has hl).trans e)
    have eo := hob e
    have eo : ob L (L2.wipe σ vs) = ob O σ := eo
    rw [eo] at b2 b3 b4 b5 b6
    rw [lk_cn hl, lk_ats hl] at b6
    exact ⟨(ok1.obj e).at0, (ok1.obj e).n0, ⟨C, dx, fs, b2, b3⟩, b4, fun ⟨i, h⟩ => b5 ⟨i, ow_of h⟩, b6⟩
  · exact st2.fp b ((lk_fp hl).mp ⟨i, ow_of h⟩)
  · obtain ⟨a', u1, u2⟩ := (lk_get hl).1 _ h1
    have ni : i ∉ vs := fun m => by
      have z := fzAt_get hv m
      rw [u1] at z
      cases z
      have := u2.lock h2
      cases this
    have z := st2.lk i k h1 h2
    show (restE ρ1 vs ρe)[i]? = _
    rw [restE_out ni]
    have z : (wipeE ρe vs)[i]? = ρ1[i]? := z
    rw [wipeE_out ni] at z
    exact z
theorem tDc_of (hv : fzAt L vs = true) (hl : lkOf O L = true) (his : subL is vs = true) (h : tE K O (mDc mi g t mk e vs) .ow σ H Q) : tDc (tI K O L mi) (tG K L g is) (tT K L t) (tE K L mk .fz) (tE K L e .fz) vs σ H Q := by
  obtain ⟨F, ρ, d, ρ', ok, hm, q⟩ := h
  obtain ⟨⟨ds, ρ1⟩, e1, e2⟩ := bind_some hm
  obtain ⟨⟨acc, ρe⟩, e3, e4⟩ := map_some e2
  cases e4
  refine ⟨F, ρ, ds, ρ1, ok, e1, fun J F1 H1 G ok1 st1 wk hG Dl hD => ?_⟩
  have sub : ∀ i, i ∈ is → i ∈ vs := fun i hi => of_decide_eq_true (List.all_eq_true.mp his i hi)
  have okL := ok1.lock hl
  have a0 : AccO K L ⟨F1, H1, σ, ρ1⟩ Dl ⟨F1, upd H1 Dl (.dK []), wipe σ vs, wipeE ρ1 vs⟩ (.dict []) := (AccO.new (o := .dK []) (d := .dict []) okL (.refl _ _) hD hD ⟨[], rfl, rfl⟩).wipe hv
  refine in_it wk (fun i H2 => ∃ F2 ρ2 a, AccO K L ⟨F1, H1, σ, ρ1⟩ Dl ⟨F2, H2, wipe σ vs, wipeE ρ2 vs⟩ (.dict a) ∧ ρ2.length = O.length ∧ mDcL (ds.drop i) g t mk e vs a ρ2 = some (acc, ρe))
    ⟨F1, ρ1, [], a0, ok1.lr, e3⟩ (fun i H2 _ ⟨F2, ρ2, a, a2, _, _⟩ => hG Zno zno _ a2.ok (a2.st.q _)) (fun i x H2 H3 hi ⟨F2, ρ2, a, a2, l2, m2⟩ y => ?_) fun H2 ⟨F2, ρ2, a, a2, l2, m2⟩ => ?_
  · obtain ⟨F3, pu, d, hd, rp⟩ := y F2 a2.st.ex a2.ok.sub
    rw [drop_get hd] at m2
    obtain ⟨ρ3, g1, g2⟩ := bind_some m2
    obtain ⟨ok3, st3⟩ := a2.ok.pur pu
    have a3 := a2.step ok3 st3
    refine ⟨F3, wipeE ρ2 vs, d, ρ3, ok3, rp, g1, fun σ4 ok4 st4 cov => ?_⟩
    have a4 := a3.step ok4 st4
    have hw : wipe σ4 vs = wipe σ vs := by
      have l4 : σ4.length = (wipe σ vs).length := ok4.ls.trans ok3.ls.symm
      rw [wipe_eq l4 fun j hj => cov j fun z => hj (sub j z), wipe_idem]
    refine ⟨hw, ?_⟩
    have back : ∀ {w2 : Wd} {acc2 : List (D × D)}, AccO K L ⟨F1, H1, σ, ρ1⟩ Dl w2 (.dict acc2) → w2.σ = σ4 → mDcL (ds.drop (i + 1)) g t mk e vs acc2 w2.ρ = some (acc, ρe) →
        ∃ F2 ρ2 a, AccO K L ⟨F1, H1, σ, ρ1⟩ Dl ⟨F2, w2.H, wipe σ vs, wipeE ρ2 vs⟩ (.dict a) ∧ ρ2.length = O.length ∧ mDcL (ds.drop (i + 1)) g t mk e vs a ρ2 = some (acc, ρe) := fun {w2 acc2} a6 hs m6 => by
      have a7 := a6.wipe hv
      rw [hs, hw] at a7
      exact ⟨w2.F, w2.ρ, acc2, a7, (a6.ok.lr).trans (lk_len hl).symm, m6⟩
    obtain ⟨⟨b, ρ4⟩, q3, q4⟩ := bind_some g2
    refine ⟨F3, ρ3, b, ρ4, ok4, q3, fun F5 H5 ok5 st5 => ?_⟩
    have a5 := a4.step ok5 st5
    cases b with
    | false =>
      dsimp only at q4 ⊢
      rw [if_neg Bool.false_ne_true] at q4 ⊢
      exact back a5 rfl q4
    | true =>
      dsimp only at q4 ⊢
      rw [if_pos rfl] at q4 ⊢
      obtain ⟨⟨d1, ρ5⟩, q5, q6⟩ := bind_some q4
      obtain ⟨k, q7, q8⟩ := bind_some q6
      obtain ⟨⟨d2, ρ6⟩, q9, q10⟩ := bind_some q8
      dsimp only at q9 q10
      split at q10
      · rename_i hlt
        refine ⟨F5, ρ4, d1, ρ5, ok5, q5, fun y F6 H6 ok6 st6 r6 => ?_⟩
        have a6 := a5.step ok6 st6
        refine ⟨F6, ρ5, d2, ρ6, ok6, q9, fun z F7 H7 ok7 st7 r7 => ?_⟩
        have a7 := a6.step ok7 st7
        have r6 : y = kV k := dKey_rp q7 (Rp.vw (H := H6) ok6.sub r6)
        obtain ⟨o, x1, xs, x2, x3⟩ := a7.at_
        subst x2
        exact ⟨xs, k, r6, x1, by rw [x3.length]; exact Nat.lt_of_lt_of_le hlt (by decide), back (a7.push (acc' := .dict (putD' k d2 a)) ⟨_, rfl, x3.put r7⟩) rfl q10⟩
      · cases q10
  · rw [List.drop_length] at m2
    cases m2
    exact lc_finO hv hl ok1 st1 hD a2 l2 q
end
section
variable {X : Cx} {O L : List Kd} {kx vx tg iter : Expr} {ifs : List Expr} {scope : Scope} {own : List (Str × Nat)} {pos spos : Pos} {mi : MI} {g : MG} {is : List Nat} {t : MT} {mk e : M}
theorem e_dc (hc : X.calm = true) (hN : X.N.Nodup) (hi : PI X tg iter (tI X.K O L mi)) (ok : BlkOk X.N X.env.scope scope own)
    (hg : ∀ (s : Shared) (H : Hp) (C : Addr) (cl : List (Str × Addr)) (fp : List Addr), PG (X.blk s H scope (compEnvC scope cl C X.env) fp) tg (tG X.K L g is)) (ht : ∀ (s : Shared) (H : Hp) (C : Addr) (cl : List (Str × Addr)) (fp : List Addr), PTs (X.blk s H scope (compEnvC scope cl C X.env) fp) ifs (tT X.K L t))
    (hk : ∀ (s : Shared) (H : Hp) (C : Addr) (cl : List (Str × Addr)) (fp : List Addr), PE (X.blk s H scope (compEnvC scope cl C X.env) fp) kx (tE X.K L mk .fz))
    (he : ∀ (s : Shared) (H : Hp) (C : Addr) (cl : List (Str × Addr)) (fp : List Addr), PE (X.blk s H scope (compEnvC scope cl C X.env) fp) vx (tE X.K L e .fz)) (hv : fzAt L (own.map (·.2)) = true := by rfl) (hl : lkOf O L = true := by rfl) (his : subL is (own.map (·.2)) = true := by rfl) (hs : ∀ x, foldedSetIterable iter X.env x = pure x := by intro _; rfl) :
    PE X (.DictComp kx vx [⟨tg, iter, ifs, 0⟩] scope pos) (tE X.K O (mDc mi g t mk e (own.map (·.2))) .ow) := PEi (pe_dc hc hN hi ok hg ht hk he hs) fun _ _ _ h => tDc_of hv hl his h
end
end DL

/-! EI3: a frozen dict locked for the time of an expression; its keys walked. -/
namespace DL
open PySem PySem.Spec PyProof.Rows L2

/-- what is read of F is read of F' -/
def RdLe (F F' : Hp) : Prop := ∀ b o, (∀ x y, o ≠ .frz x y) → Rd F b o → Rd F' b o
theorem RdLe.sqt {K : PySem.W.Frag} {F F' : Hp} (e : RdLe F F') {a : Addr} {xs : List V} (h : SqT K F a xs) : SqT K F' a xs := by
  rcases h with h | h
  · exact .inl (e _ _ (fun _ _ z => by cases z) h)
  · exact .inr h
theorem RdLe.sql {K : PySem.W.Frag} {F F' : Hp} (e : RdLe F F') {a : Addr} {xs : List V} (h : SqL K F a xs) : SqL K F' a xs := by
  rcases h with h | h
  · exact .inl (e _ _ (fun _ _ z => by cases z) h)
  · exact .inr h
mutual
theorem Rp.le {K : PySem.W.Frag} {F F' : Hp} (e : RdLe F F') : ∀ (d : D) (v : V), Rp K F d v → Rp K F' d v
  | .none, _, h => h
  | .bool _, _, h => h
  | .int _, _, h => h
  | .str _, _, h => h
  | .list ds, _, h => by
    obtain ⟨a, xs, h1, h2, h3⟩ := h
    exact ⟨a, xs, h1, e.sql h2, RpA.le e ds xs h3⟩
  | .tuple ds, _, h => by
    obtain ⟨a, xs, h1, h2, h3⟩ := h
    exact ⟨a, xs, h1, e.sqt h2, RpA.le e ds xs h3⟩
  | .dict kvs, _, h => by
    obtain ⟨a, vs, h1, h2, h3⟩ := h
    exact ⟨a, vs, h1, e _ _ (fun _ _ z => by cases z) h2, RpD.le e kvs vs h3⟩
theorem RpA.le {K : PySem.W.Frag} {F F' : Hp} (e : RdLe F F') : ∀ (ds : List D) (vs : List V), RpA K F ds vs → RpA K F' ds vs
  | [], _, h => h
  | d :: ds, _, h => by
    obtain ⟨v, vs, h1, h2, h3⟩ := h
    exact ⟨v, vs, h1, Rp.le e d v h2, RpA.le e ds vs h3⟩
theorem RpD.le {K : PySem.W.Frag} {F F' : Hp} (e : RdLe F F') : ∀ (ds : List (D × D)) (vs : List (Key × V)), RpD K F ds vs → RpD K F' ds vs
  | [], _, h => h
  | (k, d) :: r, _, h => by
    obtain ⟨q, v, vr, h1, h2, h3, h4⟩ := h
    exact ⟨q, v, vr, h1, h2, Rp.le e d v h3, RpD.le e r vr h4⟩
end
theorem OwnC.le {K : PySem.W.Frag} {F F' : Hp} (e : RdLe F F') {o : HO} : ∀ {d : D}, OwnC K F o d → OwnC K F' o d
  | .none, h => h
  | .bool _, h => h
  | .int _, h => h
  | .str _, h => h
  | .tuple _, h => h
  | .list ds, ⟨xs, h1, h2⟩ => ⟨xs, h1, RpA.le e _ _ h2⟩
  | .dict kvs, ⟨xs, h1, h2⟩ => ⟨xs, h1, RpD.le e _ _ h2⟩
section
variable {K : PySem.W.Frag} {O : List Kd} {w : Wd} {a : Addr} {u u' : HO}
/-- an entry of what is frozen exchanged for one that reads alike -/
theorem Ok.swp (ok : Ok K O w) (h : w.F a = some u) (le : RdLe w.F (upd w.F a u')) (hn : ∀ b, u ≠ .own b) : Ok K O ⟨upd w.F a u', upd w.H a u', w.σ, w.ρ⟩ := by
  have hH : w.H a = some u := ok.sub a u h
  have no : hasO O = true → a ≠ ob O w.σ := fun e z => by
    have := (ok.obj e).fr
    rw [← z, h] at this
    cases this
  have hO : hasO O = true → upd w.H a u' (ob O w.σ) = w.H (ob O w.σ) := fun e => upd_ne fun z => no e z.symm
  have hsv : ∀ j, sv O (upd w.H a u') w.σ j = w.sv O j := fun j => sv_same hO
  have hat : ∀ {i : Nat} {b : Addr}, OwnAt O ⟨upd w.F a u', upd w.H a u', w.σ, w.ρ⟩ i b ↔ OwnAt O w i b := own_same hO
  refine ⟨fun b o hb => ?_, ok.ls, ok.lr, fun i d e1 e2 => ?_, fun i k d e1 e2 e3 => ?_, fun i j q e1 e2 => ok.ap i j q (hat.mp e1) (hat.mp e2), fun e => ?_⟩
  · by_cases z : b = a
    · rw [z] at hb ⊢
      have hb : upd w.F a u' a = some o := hb
      show upd w.H a u' a = some o
      rw [upd_same] at hb ⊢
      exact hb
    · have hb : upd w.F a u' b = some o := hb
      show upd w.H a u' b = some o
      rw [upd_ne z] at hb ⊢
      exact ok.sub b o hb
  · obtain ⟨v, g1, g2⟩ := ok.fz i d e1 e2
    exact ⟨v, (hsv i).trans g1, Rp.le le _ _ g2⟩
  · obtain ⟨q, g1, g2, o, g3, g4⟩ := ok.ow i k d e1 e2 e3
    have ne : q ≠ a := fun z => by
      rw [z, h] at g2
      cases g2
    exact ⟨q, (hsv i).trans g1, by show upd w.F a u' q = none; rw [upd_ne ne]; exact g2, o, by show upd w.H a u' q = some o; rw [upd_ne ne]; exact g3, g4.le le⟩
  · obtain ⟨a0, a1, ⟨C, dx, fs, a2, a3⟩, a4, a5, a6⟩ := ok.obj e
    have hd : dx ≠ a := fun z => by
      rw [z, hH] at a3
      cases a3
      exact hn _ rfl
    exact ⟨a0, a1, ⟨C, dx, fs, (hO e).trans a2, by show upd w.H a u' dx = _; rw [upd_ne hd]; exact a3⟩, by show upd w.F a u' _ = none; rw [upd_ne fun z => no e z.symm]; exact a4, fun ⟨i, z⟩ => a5 ⟨i, hat.mp z⟩, fun C dx fs z => a6 C dx fs ((hO e).symm.trans z)⟩
end
theorem le_lock {F : Hp} {a : Addr} {od : Obj} {u : HO} (h : F a = some u) (hu : ∀ o z, u ≠ .frz o z) : RdLe F (upd F a (.frz od u)) := fun b o _ r => by
  by_cases z : b = a
  · rw [z] at r ⊢
    rcases r with r | ⟨y, r⟩
    · rw [h] at r
      cases r
      exact .inr ⟨od, upd_same⟩
    · rw [h] at r
      exact (hu _ _ (Option.some.inj r)).elim
  · rcases r with r | ⟨y, r⟩
    · exact .inl (by rw [upd_ne z]; exact r)
    · exact .inr ⟨y, by rw [upd_ne z]; exact r⟩
theorem le_unlock {F : Hp} {a : Addr} {od : Obj} {u : HO} (h : F a = some (.frz od u)) (hu : ∀ o z, u ≠ .frz o z) : RdLe F (upd F a u) := fun b o nz r => by
  by_cases z : b = a
  · rw [z] at r ⊢
    rcases r with r | ⟨y, r⟩
    · rw [h] at r
      cases r
      exact (nz _ _ rfl).elim
    · rw [h] at r
      cases r
      exact .inl upd_same
  · rcases r with r | ⟨y, r⟩
    · exact .inl (by rw [upd_ne z]; exact r)
    · exact .inr ⟨y, by rw [upd_ne z]; exact r⟩

/-- the dict of slot i stands locked -/
def LkAt (O : List Kd) (i : Nat) (F H : Hp) (σ : L2.St) : Prop := ∃ a od vs, sv O H σ i = some (some (.ref a)) ∧ F a = some (.frz od (.dK vs))
def tEL (i : Nat) (K : PySem.W.Frag) (O : List Kd) (m : M) (k : Ak) : TE := fun σ H Q => ∃ F ρ d ρ', Ok K O ⟨F, H, σ, ρ⟩ ∧ LkAt O i F H σ ∧ m ρ = some (d, ρ') ∧
  ∀ v F' H', Ok K O ⟨F', H', σ, ρ'⟩ → Stp O ⟨F, H, σ, ρ⟩ ⟨F', H', σ, ρ'⟩ → Rs K O ⟨F, H, σ, ρ⟩ ⟨F', H', σ, ρ'⟩ k d v → Q v H'
def tIL (i : Nat) (K : PySem.W.Frag) (O L : List Kd) (m : MI) : TI := fun σ H R => ∃ F ρ ds ρ', Ok K O ⟨F, H, σ, ρ⟩ ∧ LkAt O i F H σ ∧ m ρ = some (ds, ρ') ∧
  ∀ J F' H' G, Ok K O ⟨F', H', σ, ρ'⟩ → Stp O ⟨F, H, σ, ρ⟩ ⟨F', H', σ, ρ'⟩ → Walk J ds.length G (YD K F' ds) → (∀ Z, Zok O ⟨F, H, σ, ρ⟩ Z → ∀ w2, Ok K L w2 → Stq L Z ⟨F', H', σ, ρ'⟩ w2 → G w2.H) → R J H'
section
variable {X : Cx} {O L : List Kd} {e tg : Expr} {m : M} {k : Ak}
theorem e_lk (i : Nat) (h : PE X e (tEL i X.K O m k)) (hO : O[i]? = some .fz) (hm : ∀ ρ z, m ρ = some z → ∃ kvs, ρ[i]? = some (some (.dict kvs))) : PE X e (tE X.K O m k) := by
  have h2 : PE X e fun σ H Q => tEL i X.K O m k σ H Q ∨ tLockE (tEL i X.K O m k) σ H Q := ⟨fun pins s σ H Q I q => q.elim (h.run pins s σ H Q I) ((pe_lock h).run pins s σ H Q I)⟩
  refine PEi h2 fun σ H Q ⟨F, ρ, d, ρ', ok, he, q⟩ => ?_
  obtain ⟨kvs, h3⟩ := hm _ _ he
  obtain ⟨v, g1, a, vs, rfl, g3, g4⟩ := ok.fz i _ hO h3
  rcases g3 with g3 | ⟨od, g3⟩
  · right
    have g3 : F a = some (.dK vs) := g3
    refine ⟨a, .dK vs, ok.sub a _ g3, True.intro, fun od => ?_⟩
    have nf : ∀ o z, HO.dK vs ≠ .frz o z := fun _ _ z => by cases z
    have noa : hasO O = true → a ≠ ob O σ := fun e z => by
      have y : F (ob O σ) = none := (ok.obj e).fr
      have z : a = ob O σ := z
      rw [← z, g3] at y
      cases y
    have hO1 : hasO O = true → upd H a (.frz od (.dK vs)) (ob O σ) = H (ob O σ) := fun e => upd_ne fun z => noa e z.symm
    have ok1 := ok.swp g3 (le_lock (od := od) g3 nf) fun b z => by cases z
    refine ⟨_, ρ, d, ρ', ok1, ⟨a, od, vs, (sv_same hO1).trans g1, upd_same⟩, he, fun v F' H' ok' st r => ?_⟩
    have fa : F' a = some (.frz od (.dK vs)) := st.ex _ _ upd_same
    have ha : H' a = some (.frz od (.dK vs)) := ok'.sub _ _ fa
    have lu := le_unlock fa nf
    have ok2 := ok'.swp fa lu fun b z => by cases z
    have hO2 : hasO O = true → upd H' a (.dK vs) (ob O σ) = H' (ob O σ) := fun e => upd_ne fun z => noa e z.symm
    have fp1 : ∀ {b : Addr}, Fp O ⟨upd F a (.frz od (.dK vs)), upd H a (.frz od (.dK vs)), σ, ρ⟩ b ↔ Fp O ⟨F, H, σ, ρ⟩ b := fp_same hO1
    have fp2 : ∀ {b : Addr}, Fp O ⟨upd F' a (.dK vs), upd H' a (.dK vs), σ, ρ'⟩ b ↔ Fp O ⟨F', H', σ, ρ'⟩ b := fp_same hO2
    have at1 : ∀ {j : Nat} {b : Addr}, OwnAt O ⟨upd F a (.frz od (.dK vs)), upd H a (.frz od (.dK vs)), σ, ρ⟩ j b ↔ OwnAt O ⟨F, H, σ, ρ⟩ j b := own_same hO1
    have ne1 : ∀ {b : Addr} {o : HO}, b ≠ a → H b = some o → upd H a (.frz od (.dK vs)) b = some o := fun {b o} z y => by rw [upd_ne z]; exact y
    have sv1 : ∀ j, sv O (upd H a (.frz od (.dK vs))) σ j = sv O H σ j := fun j => sv_same hO1
    have sv2 : ∀ j, sv O (upd H' a (.dK vs)) σ j = sv O H' σ j := fun j => sv_same hO2
    have st2 : Stp O ⟨F, H, σ, ρ⟩ ⟨upd F' a (.dK vs), upd H' a (.dK vs), σ, ρ'⟩ := by
      refine ⟨⟨fun b o y => ?_, fun b o y z _ => ?_, fun b o y z f => ?_, fun b y => ?_, fun j kk y1 y2 => (sv2 j).trans ((st.pn j kk y1 y2).trans (sv1 j)), st.lk, fun j kk p dd y1 y2 y3 y4 => ?_, fun e => ⟨rfl, fun z => ?_⟩⟩, fun e => ?_⟩
      · by_cases z : b = a
        · subst z
          have y : F b = some o := y
          rw [g3] at y
          cases y
          exact upd_same
        · have y : F b = some o := y
          show upd F' a _ b = _
          rw [upd_ne z]
          exact st.ex b o (by show upd F a _ b = _; rw [upd_ne z]; exact y)
      · by_cases x : b = a
        · subst x
          have y : H b = some o := y
          have y2 : H b = some (.dK vs) := ok.sub b _ g3
          rw [y2] at y
          cases y
          exact upd_same
        · show upd H' a _ b = _
          rw [upd_ne x]
          exact st.kp' (ne1 x y) fun q => z (fp1.mp q)
      · have x : b ≠ a := fun x => by
          have f : F b = none := f
          rw [x, g3] at f
          cases f
        show upd F' a _ b = _
        rw [upd_ne x]
        exact st.nw b o (ne1 x y) (fun q => z (fp1.mp q)) (by show upd F a _ b = _; rw [upd_ne x]; exact f)
      · rcases st.fp b (fp2.mp y) with q | q
        · exact .inl (fp1.mp q)
        · right
          have q : upd H a (.frz od (.dK vs)) b = none := q
          by_cases x : b = a
          · rw [x, upd_same] at q
            cases q
          · rw [upd_ne x] at q
            exact q
      · have g := st.lo j kk p dd y1 y2 y3 ((sv1 j).trans y4)
        have x : p ≠ a := fun x => by
          have oo := (ok.ownF (p := p) ⟨j, kk, dd, y1, Kd.own_of y2, y3, y4⟩).1
          have oo : F p = none := oo
          rw [x, g3] at oo
          cases oo
        have g : H' p = upd H a (.frz od (.dK vs)) p := g
        show upd H' a _ p = H p
        rw [upd_ne x, g, upd_ne x]
      · have y := (st.o0 e).2
        have y : upd H a (.frz od (.dK vs)) (ob O σ) ≠ none → H' (ob O σ) ≠ none := y
        rw [hO1 e] at y
        show upd H' a _ (ob O σ) ≠ none
        rw [hO2 e]
        exact y z
      · have y : H' (ob O σ) = upd H a (.frz od (.dK vs)) (ob O σ) := st.ost e
        show upd H' a _ (ob O σ) = H (ob O σ)
        rw [hO2 e, y, hO1 e]
    refine ⟨ha, q v _ _ ok2 st2 ?_⟩
    cases k with
    | fz => exact Rp.le lu _ _ r
    | ow =>
      obtain ⟨p, ep, r1, ⟨o, r2, r3⟩, r4, r5, r6⟩ := r
      have x : p ≠ a := fun x => by
        have r1 : F' p = none := r1
        rw [x, fa] at r1
        cases r1
      refine ⟨p, ep, by show upd F' a _ p = none; rw [upd_ne x]; exact r1, ⟨o, by show upd H' a _ p = _; rw [upd_ne x]; exact r2, r3.le lu⟩, fun z => r4 (fp2.mp z), ?_, r6⟩
      rcases r5 with z | z
      · exact .inl (fp1.mp z)
      · right
        have z : upd H a (.frz od (.dK vs)) p = none := z
        rw [upd_ne x] at z
        exact z
    | br j => exact ⟨(sv2 j).trans r.1, r.2⟩
  · exact .inl ⟨F, ρ, d, ρ', ok, ⟨a, od, vs, g1, g3⟩, he, q⟩
/-- the keys of slot i's dict -/
def mItK (i : Nat) : MI := fun ρ => match ρ[i]? with
  | some (some (.dict kvs)) => some (kvs.map (·.1), ρ)
  | _ => none
theorem itK_some {i : Nat} {ρ ρ' : En} {ds : List D} (h : mItK i ρ = some (ds, ρ')) : ∃ kvs, ρ[i]? = some (some (.dict kvs)) ∧ ds = kvs.map (·.1) ∧ ρ' = ρ := by
  unfold mItK at h
  split at h
  · rename_i kvs e
    cases h
    exact ⟨kvs, e, rfl, rfl⟩
  · cases h
theorem RpD.keys {K : PySem.W.Frag} {F : Hp} : ∀ {kvs : List (D × D)} {vs : List (Key × V)}, RpD K F kvs vs → kvs.map (·.1) = vs.map fun kv => kD kv.1
  | [], _, h => by
    rw [show _ = [] from h]
    rfl
  | (_, _) :: r, _, ⟨q, v, vr, e, e2, h1, h⟩ => by
    subst e e2
    rw [List.map_cons, List.map_cons, RpD.keys h]
theorem rp_key {K : PySem.W.Frag} {F : Hp} : ∀ k : Key, Rp K F (kD k) (kV k)
  | .inl _ => rfl
  | .inr _ => rfl
theorem keys_of {i : Nat} (hO : O[i]? = some .fz) {F H : Hp} {σ : L2.St} {ρ : En} {kvs : List (D × D)} (ok : Ok X.K O ⟨F, H, σ, ρ⟩) (lk : LkAt O i F H σ) (h : ρ[i]? = some (some (.dict kvs))) :
    ∃ a o vs, sv O H σ i = some (some (.ref a)) ∧ F a = some (.frz o (.dK vs)) ∧ Walk (Itk a o vs) (kvs.map (·.1)).length (fun H => H a = some (.frz o (.dK vs))) (YD X.K F (kvs.map (·.1))) := by
  obtain ⟨a, o, vs, l1, l2⟩ := lk
  obtain ⟨v, g1, b, ws, rfl, g3, g4⟩ := ok.fz i _ hO h
  have g1 : sv O H σ i = some (some (.ref b)) := g1
  rw [l1] at g1
  cases g1
  have ews : ws = vs := by
    rcases g3 with g3 | ⟨z, g3⟩
    · have g3 : F a = some (.dK ws) := g3
      rw [l2] at g3
      cases g3
    · have g3 : F a = some (.frz z (.dK ws)) := g3
      rw [l2] at g3
      cases g3
      rfl
  subst ews
  refine ⟨a, o, ws, l1, l2, ?_⟩
  rw [RpD.keys g4, List.length_map]
  refine walk_keys.mono (fun _ h => h) fun j H' x H2 hj _ y F2 e s => ?_
  obtain ⟨rfl, kk, vv, y1, rfl⟩ := y
  refine ⟨F2, .refl s, kD kk, ?_, rp_key kk⟩
  rw [List.getElem?_map, y1]
  rfl
theorem i_keysL (i : Nat) {x : Str} {p : Pos} (hO : O[i]? = some .fz := by rfl) (hl : i < nl O := by decide) (hN : X.N[i]? = some x := by rfl) (hv : Vis X.env.scope x := by first | exact Or.inl rfl | exact Or.inr (Or.inl rfl) | exact Or.inr (Or.inr rfl)) (hd : (x == ("__debug__" : Str)) = false := by decide)
    (hcd : (x == ("__classdict__" : Str)) = false := by decide) : PI X tg (.Name x p) (tIL i X.K O L (mItK i)) := by
  refine PIi (pi_keys (pe_var hN hv hd hcd)) fun σ H R ⟨F, ρ, ds, ρ', ok, lk, hm, q⟩ => ?_
  obtain ⟨kvs, h1, h2, h3⟩ := itK_some hm
  subst h2 h3
  obtain ⟨a, o, vs, l1, l2, wk⟩ := keys_of (X := X) hO ok lk h1
  refine ⟨.ref a, (sv_loc hl).symm.trans l1, a, o, rfl, .inl ⟨vs, ok.sub _ _ l2, ?_⟩⟩
  exact q _ F H _ ok (.refl _ _) wk fun Z _ w2 ok2 st2 => ok2.sub _ _ (st2.ex _ _ l2)
theorem i_keysM (i : Nat) {x : Str} {p apos cpos : Pos} (hO : O[i]? = some .fz := by rfl) (hl : i < nl O := by decide) (hN : X.N[i]? = some x := by rfl) (hv : Vis X.env.scope x := by first | exact Or.inl rfl | exact Or.inr (Or.inl rfl) | exact Or.inr (Or.inr rfl)) (hd : (x == ("__debug__" : Str)) = false := by decide)
    (hcd : (x == ("__classdict__" : Str)) = false := by decide) (hbase : attributeBase (.Name x p) "keys" X.env (eval (.Name x p) X.env) = eval (.Name x p) X.env := by rfl) (hline : (apos.endLine == cpos.line) = true := by rfl) : PI X tg (.Call (.Attribute (.Name x p) "keys" apos) [] [] cpos) (tIL i X.K O L (mItK i)) := by
  refine PIi (pi_keysM (pe_var hN hv hd hcd) hbase hline) fun σ H R ⟨F, ρ, ds, ρ', ok, lk, hm, q⟩ => ?_
  obtain ⟨kvs, h1, h2, h3⟩ := itK_some hm
  subst h2 h3
  obtain ⟨a, o, vs, l1, l2, wk⟩ := keys_of (X := X) hO ok lk h1
  refine ⟨.ref a, (sv_loc hl).symm.trans l1, a, o, vs, rfl, ok.sub _ _ l2, ?_⟩
  exact q _ F H _ ok (.refl _ _) wk fun Z _ w2 ok2 st2 => ok2.sub _ _ (st2.ex _ _ l2)
end
section
variable {K : PySem.W.Frag} {O L : List Kd} {i : Nat} {g : MG} {t : MT} {e : M} {vs is : List Nat} {σ : L2.St} {H : Hp} {Q : VK} {mi : MI}
theorem tLcL_of (hv : fzAt L vs = true) (hl : lkOf O L = true) (his : subL is vs = true) (h : tEL i K O (mLc mi g t e vs) .ow σ H Q) : tLc (tIL i K O L mi) (tG K L g is) (tT K L t) (tE K L e .fz) vs σ H Q := by
  obtain ⟨F, ρ, d, ρ', ok, lk, hm, q⟩ := h
  obtain ⟨⟨ds, ρ1⟩, e1, e2⟩ := bind_some hm
  obtain ⟨⟨acc, ρe⟩, e3, e4⟩ := map_some e2
  cases e4
  refine ⟨F, ρ, ds, ρ1, ok, lk, e1, fun J F1 H1 G ok1 st1 wk hG Dl hD => ?_⟩
  have sub : ∀ i, i ∈ is → i ∈ vs := fun i hi => of_decide_eq_true (List.all_eq_true.mp his i hi)
  have okL := ok1.lock hl
  have a0 : Acc K L ⟨F1, H1, σ, ρ1⟩ Dl ⟨F1, upd H1 Dl (.lst []), wipe σ vs, wipeE ρ1 vs⟩ [] := (Acc.new okL (.refl _ _) hD hD).wipe hv
  refine in_it wk (fun j H2 => ∃ F2 ρ2 a, Acc K L ⟨F1, H1, σ, ρ1⟩ Dl ⟨F2, H2, wipe σ vs, wipeE ρ2 vs⟩ a ∧ ρ2.length = O.length ∧ mLcL (ds.drop j) g t e vs a ρ2 = some (acc, ρe))
    ⟨F1, ρ1, [], a0, ok1.lr, e3⟩ (fun j H2 _ ⟨F2, ρ2, a, a2, _, _⟩ => hG Zno zno _ a2.ok (a2.st.q _)) (fun j x H2 H3 hi ⟨F2, ρ2, a, a2, l2, m2⟩ y => ?_) fun H2 ⟨F2, ρ2, a, a2, l2, m2⟩ => ?_
  · obtain ⟨F3, pu, d, hd, rp⟩ := y F2 a2.st.ex a2.ok.sub
    rw [drop_get hd] at m2
    obtain ⟨ρ3, g1, g2⟩ := bind_some m2
    obtain ⟨ok3, st3⟩ := a2.ok.pur pu
    have a3 := a2.step ok3 st3
    refine ⟨F3, wipeE ρ2 vs, d, ρ3, ok3, rp, g1, fun σ4 ok4 st4 cov => ?_⟩
    have a4 := a3.step ok4 st4
    have hw : wipe σ4 vs = wipe σ vs := by
      have l4 : σ4.length = (wipe σ vs).length := ok4.ls.trans ok3.ls.symm
      rw [wipe_eq l4 fun j hj => cov j fun z => hj (sub j z), wipe_idem]
    refine ⟨hw, turn_elt a4 g2 (fun _ => True) trivial (fun _ _ _ _ => trivial) (fun _ _ _ _ _ => trivial) fun w2 acc2 a5 _ hs m5 => ⟨w2.F, w2.ρ, acc2, ?_, (a5.ok.lr).trans (lk_len hl).symm, m5⟩⟩
    have a6 := a5.wipe hv
    rw [hs, hw] at a6
    exact a6
  · rw [List.drop_length] at m2
    cases m2
    exact lc_fin hv hl ok1 st1 hD a2 l2 q
end
section
variable {X : Cx} {O L : List Kd} {elt tg iter : Expr} {ifs : List Expr} {scope : Scope} {own : List (Str × Nat)} {pos : Pos} {g : MG} {is : List Nat} {t : MT} {e : M}
/-- [.. for x in d], d a frozen dict in slot i -/
theorem e_lcK (i : Nat) (hc : X.calm = true) (hN : X.N.Nodup) (hi : PI X tg iter (tIL i X.K O L (mItK i))) (ok : BlkOk X.N X.env.scope scope own)
    (hg : ∀ (s : Shared) (H : Hp) (C : Addr) (cl : List (Str × Addr)) (fp : List Addr), PG (X.blk s H scope (compEnvC scope cl C X.env) fp) tg (tG X.K L g is)) (ht : ∀ (s : Shared) (H : Hp) (C : Addr) (cl : List (Str × Addr)) (fp : List Addr), PTs (X.blk s H scope (compEnvC scope cl C X.env) fp) ifs (tT X.K L t))
    (he : ∀ (s : Shared) (H : Hp) (C : Addr) (cl : List (Str × Addr)) (fp : List Addr), PE (X.blk s H scope (compEnvC scope cl C X.env) fp) elt (tE X.K L e .fz)) (hO : O[i]? = some .fz := by rfl) (hv : fzAt L (own.map (·.2)) = true := by rfl) (hl : lkOf O L = true := by rfl) (his : subL is (own.map (·.2)) = true := by rfl) (hs : ∀ x, foldedSetIterable iter X.env x = pure x := by intro _; rfl) :
    PE X (.ListComp elt [⟨tg, iter, ifs, 0⟩] scope pos) (tE X.K O (mLc (mItK i) g t e (own.map (·.2))) .ow) := by
  refine e_lk i (PEi (pe_lc hc hN hi ok hg ht he hs) fun _ _ _ h => tLcL_of hv hl his h) hO fun ρ z hm => ?_
  obtain ⟨⟨ds, ρ1⟩, e1, e2⟩ := bind_some hm
  obtain ⟨kvs, h1, _⟩ := itK_some e1
  exact ⟨kvs, h1⟩
end
end DL

/-! EI4: targets that change the heap: xs[i] in a tuple of targets, a star. -/
namespace DL
open PySem PySem.Spec PyProof.Rows L2

/-! ### a star target -/
section
open PySem.W PySem.Calls
variable {prog : Program} {w : World} {A : Around} {E : Value → Shared → Prop} {s : Shared}
theorem star_list {l : Addr} {items : Array Value} {n i : Nat} {Q : List Value → Shared → Prop} (hl : s.heap.IsList l items) (hh : A.handled = none) (hi : i < n) (hn : n ≤ items.size + 1) (hz : items.size ≤ 16384)
    (h : ∀ h' tk, (∀ b o, s.heap.get? b = some o → h'.get? b = some o) → wpAny (model prog w) A (newList ((items.toList.drop i).take (items.size + 1 - n))) (fun d s' => Q (items.toList.take i ++ [d] ++ (items.toList.drop i).drop (items.size + 1 - n)) s') E { s with heap := h', toks := tk }) :
    wpAny (model prog w) A (unpackItems (.ref l) n (some i)) Q E s := by
  have hlt : l ≠ s.heap.objs.size := by obtain ⟨o, ho, _⟩ := hl; exact Nat.ne_of_lt (Heap.lt_size ho)
  have hll : l < s.heap.objs.size := by obtain ⟨o, ho, _⟩ := hl; exact Heap.lt_size ho
  unfold unpackItems
  refine wpAny_bind ?_
  unfold notIterableAtAll
  refine wpAny_bind (wpAny_specialOf hl.typeIs F.slot_list_iter.lookup ?_)
  refine wpAny_pure ?_
  simp only [Bool.false_eq_true, if_false]
  refine wpAny_bind (wpAny_holding (wpAny_pyIter_list hl ?_))
  refine wpAny_bind (wpAny_holding (kun_draw hlt i 0 _ _ ⟨_, Heap.get?_push_size _ rfl, rfl, rfl⟩ (hl.push _) (by omega) fun h₁ hit₁ hs₁ => ?_))
  have hl₁ : h₁.IsList l items := (hl.push _).extBut hs₁.extBut hlt
  rw [Nat.zero_add] at hit₁
  have hit₁' := hit₁
  obtain ⟨oi, hoi, _⟩ := hit₁'
  have hl₁' := hl₁
  obtain ⟨ol, hol, _⟩ := hl₁'
  rw [List.drop_zero]
  have hfl : (items.toList.take i).length = i := by rw [List.length_take, Array.length_toList]; omega
  rw [if_neg (show ¬ ((items.toList.take i).length < i) by rw [hfl]; omega)]
  refine wpAny_bind (wpAny_holding (kun_collect (s := { s with heap := h₁ }) (T := "list_iterator") (.inr (.inr (.inl rfl))) (Walks.list (A := A.in1) hh s.heap.objs.size l hlt items) (fun j u st => st.1.typeIs) (k := i) (by omega) ⟨hit₁, hl₁⟩ (Heap.lt_size hoi) (Heap.lt_size hol) (fun h₂ tk hk => ?_) (by rw [sizeLine_eq]; omega)))
  have hrl : (items.toList.drop i).length = items.size - i := by rw [List.length_drop, Array.length_toList]
  have hmid : (items.toList.drop i).length - (n - 1 - i) = items.size + 1 - n := by rw [hrl]; omega
  show wpAny _ _ (if (items.toList.drop i).length < n - 1 - i then _ else _) _ _ _
  rw [if_neg (by rw [hrl]; omega)]
  show wpAny _ _ (newList ((items.toList.drop i).take ((items.toList.drop i).length - (n - 1 - i))) >>= fun d => pure (items.toList.take i ++ [d] ++ (items.toList.drop i).drop ((items.toList.drop i).length - (n - 1 - i)))) _ _ _
  rw [hmid]
  refine wpAny_bind (wpAny_mono (h h₂ tk fun b o e => hk b o (Nat.ne_of_lt (Heap.lt_size e)) (hs₁.extBut b o (Nat.ne_of_lt (Heap.lt_size e)) (Heap.get?_push_of_some _ e))) (fun d s' z => wpAny_pure z) fun _ _ z => z)
theorem star_tup {l : Addr} {items : Array Value} {n i : Nat} {Q : List Value → Shared → Prop} (hl : IsTup s.heap l items) (hh : A.handled = none) (hi : i < n) (hn : n ≤ items.size + 1) (hz : items.size ≤ 16384)
    (h : ∀ h' tk, (∀ b o, s.heap.get? b = some o → h'.get? b = some o) → wpAny (model prog w) A (newList ((items.toList.drop i).take (items.size + 1 - n))) (fun d s' => Q (items.toList.take i ++ [d] ++ (items.toList.drop i).drop (items.size + 1 - n)) s') E { s with heap := h', toks := tk }) :
    wpAny (model prog w) A (unpackItems (.ref l) n (some i)) Q E s := by
  have hlt : l ≠ s.heap.objs.size := by obtain ⟨o, ho, _⟩ := hl; exact Nat.ne_of_lt (Heap.lt_size ho)
  have hll : l < s.heap.objs.size := by obtain ⟨o, ho, _⟩ := hl; exact Heap.lt_size ho
  unfold unpackItems
  refine wpAny_bind ?_
  unfold notIterableAtAll
  refine wpAny_bind (wpAny_specialOf hl.typeIs F.slot_tuple_iter.lookup ?_)
  refine wpAny_pure ?_
  simp only [Bool.false_eq_true, if_false]
  refine wpAny_bind (wpAny_holding (iter_tuple hl ?_))
  refine wpAny_bind (wpAny_holding (draw_tuple hlt i 0 _ _ ⟨_, Heap.get?_push_size _ rfl, rfl, rfl⟩ (hl.push _) (by omega) fun h₁ hit₁ hs₁ => ?_))
  have hl₁ : IsTup h₁ l items := (hl.push _).extBut hs₁.extBut hlt
  rw [Nat.zero_add] at hit₁
  have hit₁' := hit₁
  obtain ⟨oi, hoi, _⟩ := hit₁'
  have hl₁' := hl₁
  obtain ⟨ol, hol, _⟩ := hl₁'
  rw [List.drop_zero]
  have hfl : (items.toList.take i).length = i := by rw [List.length_take, Array.length_toList]; omega
  rw [if_neg (show ¬ ((items.toList.take i).length < i) by rw [hfl]; omega)]
  refine wpAny_bind (wpAny_holding (kun_collect (s := { s with heap := h₁ }) (T := "tuple_iterator") (.inr (.inr (.inr rfl))) (Walks.tuple (A := A.in1) hh s.heap.objs.size l hlt items) (fun j u st => st.1.typeIs) (k := i) (by omega) ⟨hit₁, hl₁⟩ (Heap.lt_size hoi) (Heap.lt_size hol) (fun h₂ tk hk => ?_) (by rw [sizeLine_eq]; omega)))
  have hrl : (items.toList.drop i).length = items.size - i := by rw [List.length_drop, Array.length_toList]
  have hmid : (items.toList.drop i).length - (n - 1 - i) = items.size + 1 - n := by rw [hrl]; omega
  show wpAny _ _ (if (items.toList.drop i).length < n - 1 - i then _ else _) _ _ _
  rw [if_neg (by rw [hrl]; omega)]
  show wpAny _ _ (newList ((items.toList.drop i).take ((items.toList.drop i).length - (n - 1 - i))) >>= fun d => pure (items.toList.take i ++ [d] ++ (items.toList.drop i).drop ((items.toList.drop i).length - (n - 1 - i)))) _ _ _
  rw [hmid]
  refine wpAny_bind (wpAny_mono (h h₂ tk fun b o e => hk b o (Nat.ne_of_lt (Heap.lt_size e)) (hs₁.extBut b o (Nat.ne_of_lt (Heap.lt_size e)) (Heap.get?_push_of_some _ e))) (fun d s' z => wpAny_pure z) fun _ _ z => z)
end
section
variable {X : Cx} {e : Expr} {es : List Expr} {t : TG} {u : TGs} {p pos : Pos}
theorem pgs_star (h1 : PG X e t) (h2 : PGs X es u) (hs : (assignEach (.Starred e p :: es) X.env).map (·.2) = assign e X.env :: (assignEach es X.env).map (·.2) := by rfl) : PGs X (.Starred e p :: es) (gCons t u) := by
  refine ⟨fun pins s σ H vs us Q I r h => ?_⟩
  obtain ⟨v, vr, e1, h⟩ := h
  subst e1
  cases r with
  | cons r rr =>
    rw [hs]
    refine assignInOrder_cons (thn (h1.run pins s σ H _ _ _ I r h) fun _ s1 ⟨σ1, H1, I1, q1⟩ => ?_)
    exact h2.run pins s1 σ1 H1 _ _ Q I1 rr q1
def gStar (K : PySem.W.Frag) (n i : Nat) (t : TGs) : TG := fun v σ H Q => ∃ a xs, v = .ref a ∧ (SqL K H a xs ∨ SqT K H a xs) ∧ n ≤ xs.length + 1 ∧ xs.length ≤ 16384 ∧
  ∀ p, H p = none → t (xs.take i ++ [.ref p] ++ (xs.drop i).drop (xs.length + 1 - n)) σ (upd H p (.lst ((xs.drop i).take (xs.length + 1 - n)))) Q
theorem valsA {xs ys : List V} {us ws : List Value} (h : Vals xs us) (g : Vals ys ws) : Vals (xs ++ ys) (us ++ ws) := h.append g
theorem valsTake : ∀ {xs : List V} {us : List Value} (n : Nat), Vals xs us → Vals (xs.take n) (us.take n)
  | _, _, 0, _ => .nil
  | _, _, n + 1, .nil => .nil
  | _, _, n + 1, .cons h t => .cons h (valsTake n t)
theorem valsDrop : ∀ {xs : List V} {us : List Value} (n : Nat), Vals xs us → Vals (xs.drop n) (us.drop n)
  | _, _, 0, h => h
  | _, _, n + 1, .nil => .nil
  | _, _, n + 1, .cons h t => valsDrop n t
theorem pg_star {n i c : Nat} (hc : X.calm = true) (h : PGs X es u) (hi : i < n) (hn : (assignEach es X.env).length = n := by rfl) (hst : (assignEach es X.env).findIdx? (·.1) = some i := by rfl) : PG X (.Tuple es c pos) (gStar X.K n i u) := by
  refine ⟨fun pins s σ H v w Q I r hw => ?_⟩
  obtain ⟨a, xs, e1, hq, hl, hz, hw⟩ := hw
  subst e1
  cases r
  rw [PyProof.Rows.assign_Tuple]
  refine wpAny_bind (wpAny_standAt ?_)
  unfold unpack
  rw [hn, hst]
  have fin : ∀ {its : List Value}, Vals xs its → ∀ (h' : Heap) (tk : Nat), (∀ b o, s.heap.get? b = some o → h'.get? b = some o) →
      wpAny (model X.prog X.w) X.A (newList ((its.drop i).take (its.length + 1 - n))) (fun d s' => wpAny (model X.prog X.w) X.A (assignInOrder ((assignEach es X.env).map (·.2)) (its.take i ++ [d] ++ (its.drop i).drop (its.length + 1 - n))) (fun _ s' => ∃ σ' H', L2.Inv X pins σ' H' s' ∧ Q σ' H') X.xe s') X.xe { s with heap := h', toks := tk } := fun {its} rv h' tk hk => by
    have I1 : Inv X pins σ H { s with heap := h', toks := tk } := I.kept hk
    have ll : its.length = xs.length := rv.length.symm
    have hf : H h'.objs.size = none := I1.hok.fresh (Nat.le_refl _)
    refine PySem.wpAny_newList ?_ (by rw [List.length_take, List.length_drop, sizeLine_eq]; omega)
    have hm : (xs.drop i).take (xs.length + 1 - n) = (xs.drop i).take (its.length + 1 - n) := by rw [ll]
    have I2 : Inv X pins σ (upd H h'.objs.size (.lst ((xs.drop i).take (xs.length + 1 - n)))) { s with heap := h'.push { cls := .type "list", data := .seq ((its.drop i).take (its.length + 1 - n)).toArray }, toks := tk } := by
      refine I1.laid (t' := tk) (fun b u e => Heap.get?_push_of_some _ e) (Nat.le_refl _) ?_
      refine ⟨?_, (its.drop i).take (its.length + 1 - n), 0, ?_, Heap.get?_push_size _ rfl⟩
      · rw [List.length_take, List.length_drop, sizeLine_eq]
        omega
      · rw [hm]
        exact valsTake _ (valsDrop i rv)
    refine h.run pins _ σ _ _ _ Q I2 ?_ (hw _ hf)
    rw [ll]
    exact ((valsTake i rv).append (show Vals [V.ref h'.objs.size] [Value.ref h'.objs.size] from .cons (show RelV (V.ref h'.objs.size) (Value.ref h'.objs.size) from rfl) .nil)).append (valsDrop _ (valsDrop i rv))
  rcases hq with hq | hq
  · obtain ⟨its, rv, pl, hz2⟩ := I.list hq
    have ll : its.toArray.size = xs.length := by rw [List.size_toArray, rv.length]
    refine wpAny_bind (wpAny_holding (star_list (Q := fun vs s' => wpAny (model X.prog X.w) X.A (assignInOrder ((assignEach es X.env).map (·.2)) vs) (fun _ s' => ∃ σ' H', L2.Inv X pins σ' H' s' ∧ Q σ' H') X.xe s') pl.isList (I.ok.hd hc) hi (by rw [ll]; exact hl) (by rw [ll]; exact hz) fun h' tk hk => ?_))
    have := fin rv h' tk hk
    rw [List.size_toArray]
    simpa using this
  · obtain ⟨its, rv, pl, hz2⟩ := I.tuple hq
    have ll : its.toArray.size = xs.length := by rw [List.size_toArray, rv.length]
    refine wpAny_bind (wpAny_holding (star_tup (Q := fun vs s' => wpAny (model X.prog X.w) X.A (assignInOrder ((assignEach es X.env).map (·.2)) vs) (fun _ s' => ∃ σ' H', L2.Inv X pins σ' H' s' ∧ Q σ' H') X.xe s') pl (I.ok.hd hc) hi (by rw [ll]; exact hl) (by rw [ll]; exact hz) fun h' tk hk => ?_))
    have := fin rv h' tk hk
    rw [List.size_toArray]
    simpa using this
end

/-! ### targets that may change the heap, on data -/
def tGH (K : PySem.W.Frag) (O : List Kd) (g : MG) : TG := fun v σ H Q => ∃ F ρ d ρ', Ok K O ⟨F, H, σ, ρ⟩ ∧ Rp K F d v ∧ g d ρ = some ρ' ∧
  ∀ σ' F' H', Ok K O ⟨F', H', σ', ρ'⟩ → StpS O ⟨F, H, σ, ρ⟩ ⟨F', H', σ', ρ'⟩ → Q σ' H'
def tGsH (K : PySem.W.Frag) (O : List Kd) (g : List D → En → Option En) : TGs := fun vs σ H Q => ∃ F ρ ds ρ', Ok K O ⟨F, H, σ, ρ⟩ ∧ RpA K F ds vs ∧ g ds ρ = some ρ' ∧
  ∀ σ' F' H', Ok K O ⟨F', H', σ', ρ'⟩ → StpS O ⟨F, H, σ, ρ⟩ ⟨F', H', σ', ρ'⟩ → Q σ' H'
/-- xs[j] of slot i -/
def mgIx (i : Nat) (mi : M) : MG := fun d ρ => (mBr i ρ).bind fun _ => (mi ρ).bind fun q => match q.1, q.2[i]? with
  | .int j, some (some (.list ds)) => (ixN ds.length j).map fun n => q.2.set i (some (.list (ds.set n d)))
  | _, _ => none
def mgStar (n i : Nat) (r : List D → En → Option En) : MG := fun d ρ => match d with
  | .list ds => if n ≤ ds.length + 1 ∧ ds.length ≤ 16384 then r (ds.take i ++ [.list ((ds.drop i).take (ds.length + 1 - n))] ++ (ds.drop i).drop (ds.length + 1 - n)) ρ else none
  | .tuple ds => if n ≤ ds.length + 1 ∧ ds.length ≤ 16384 then r (ds.take i ++ [.list ((ds.drop i).take (ds.length + 1 - n))] ++ (ds.drop i).drop (ds.length + 1 - n)) ρ else none
  | _ => none
section
variable {X : Cx} {O : List Kd} {e o ix : Expr} {es : List Expr} {p pos spos : Pos} {g : MG} {gs : List D → En → Option En} {is : List Nat} {m mi : M} {r : Ak}
theorem gH_of (h : PG X e (tG X.K O g is)) : PG X e (tGH X.K O g) := PGi h fun v σ H Q ⟨F, ρ, d, ρ', ok, r, hg, q⟩ => ⟨F, ρ, d, ρ', ok, r, hg, fun σ' ok' st _ => q σ' F H ok' st.toStpS⟩
theorem gsH_nil : PGs X [] (tGsH X.K O mgNil) := by
  refine PGsi pgs_nil fun v σ H Q ⟨F, ρ, ds, ρ', ok, r, hg, k⟩ => ?_
  cases ds with
  | nil =>
    cases hg
    exact ⟨r, k σ F H ok (StpS.refl _ _)⟩
  | cons d ds => cases hg
theorem gsH_core {vs : List V} {σ : L2.St} {H : Hp} {Q : L2.St → Hp → Prop} (h : tGsH X.K O (mgCons g gs) vs σ H Q) : gCons (tGH X.K O g) (tGsH X.K O gs) vs σ H Q := by
  obtain ⟨F, ρ, ds, ρ', ok, r, hg, k⟩ := h
  cases ds with
  | nil => cases hg
  | cons d ds =>
    obtain ⟨v1, vs, e1, r1, r2⟩ := r
    obtain ⟨ρ1, g1, g2⟩ := bind_some hg
    exact ⟨v1, vs, e1, F, ρ, d, ρ1, ok, r1, g1, fun σ1 F1 H1 ok1 st1 => ⟨F1, ρ1, ds, ρ', ok1, r2.mono st1.ex, g2, fun σ2 F2 H2 ok2 st2 => k σ2 F2 H2 ok2 (st1.trans st2)⟩⟩
theorem gsH_cons (h1 : PG X e (tGH X.K O g)) (h2 : PGs X es (tGsH X.K O gs)) (hs : (assignEach (e :: es) X.env).map (·.2) = assign e X.env :: (assignEach es X.env).map (·.2) := by rfl) : PGs X (e :: es) (tGsH X.K O (mgCons g gs)) :=
  PGsi (pgs_cons h1 h2 hs) fun _ _ _ _ h => gsH_core h
theorem gsH_star (h1 : PG X e (tGH X.K O g)) (h2 : PGs X es (tGsH X.K O gs)) (hs : (assignEach (.Starred e p :: es) X.env).map (·.2) = assign e X.env :: (assignEach es X.env).map (·.2) := by rfl) : PGs X (.Starred e p :: es) (tGsH X.K O (mgCons g gs)) :=
  PGsi (pgs_star h1 h2 hs) fun _ _ _ _ h => gsH_core h
theorem gH_tup {n c : Nat} (hc : X.calm = true) (h : PGs X es (tGsH X.K O gs)) (hn : (assignEach es X.env).length = n := by rfl) (hst : (assignEach es X.env).findIdx? (·.1) = none := by rfl) : PG X (.Tuple es c pos) (tGH X.K O (mgT n gs)) := by
  refine PGi (pg_tup hc h hn hst) fun v σ H Q ⟨F, ρ, d, ρ', ok, r, hg, k⟩ => ?_
  unfold mgT at hg
  split at hg
  · rename_i ds
    split at hg
    · rename_i hl
      obtain ⟨a, xs, e1, h1, h2⟩ := r
      exact ⟨a, xs, e1, same_sqt ok.sub h1, by rw [h2.length]; exact hl, F, ρ, ds, ρ', ok, h2, hg, k⟩
    · cases hg
  · cases hg
theorem star_go {n i : Nat} {ds : List D} {xs : List V} {F H : Hp} {σ : L2.St} {ρ ρ' : En} {Q : L2.St → Hp → Prop} (ok : Ok X.K O ⟨F, H, σ, ρ⟩) (h2 : RpA X.K F ds xs) (hg : gs (ds.take i ++ [.list ((ds.drop i).take (ds.length + 1 - n))] ++ (ds.drop i).drop (ds.length + 1 - n)) ρ = some ρ')
    (k : ∀ σ' F' H', Ok X.K O ⟨F', H', σ', ρ'⟩ → StpS O ⟨F, H, σ, ρ⟩ ⟨F', H', σ', ρ'⟩ → Q σ' H') : ∀ p, H p = none → tGsH X.K O gs (xs.take i ++ [.ref p] ++ (xs.drop i).drop (xs.length + 1 - n)) σ (upd H p (.lst ((xs.drop i).take (xs.length + 1 - n)))) Q := fun p hp => by
  have pu := Pur.frozen (F := F) ok.sub hp (.lst ((xs.drop i).take (xs.length + 1 - n)))
  obtain ⟨ok1, st1⟩ := ok.pur pu
  have ll := h2.length
  refine ⟨_, ρ, _, ρ', ok1, ?_, hg, fun σ' F' H' ok' st' => k σ' F' H' ok' (st1.toStpS.trans st')⟩
  have h3 := h2.mono pu.ex
  refine ((h3.take i).append (.cons ?_ .nil)).append ?_
  · exact ⟨p, _, rfl, .inl (.inl upd_same), ll ▸ (h3.drop i).take (xs.length + 1 - n)⟩
  · exact ll ▸ (h3.drop i).drop (xs.length + 1 - n)
theorem gH_star {n i c : Nat} (hc : X.calm = true) (h : PGs X es (tGsH X.K O gs)) (hi : i < n := by decide) (hn : (assignEach es X.env).length = n := by rfl) (hst : (assignEach es X.env).findIdx? (·.1) = some i := by rfl) : PG X (.Tuple es c pos) (tGH X.K O (mgStar n i gs)) := by
  refine PGi (pg_star hc h hi hn hst) fun v σ H Q ⟨F, ρ, d, ρ', ok, r, hg, k⟩ => ?_
  unfold mgStar at hg
  split at hg
  · rename_i ds
    split at hg
    · rename_i hl
      obtain ⟨a, xs, e1, h1, h2⟩ := r
      exact ⟨a, xs, e1, .inl (ok.sub.seq h1), by rw [h2.length]; exact hl.1, by rw [h2.length]; exact hl.2, star_go ok h2 hg k⟩
    · cases hg
  · rename_i ds
    split at hg
    · rename_i hl
      obtain ⟨a, xs, e1, h1, h2⟩ := r
      exact ⟨a, xs, e1, .inr (same_sqt ok.sub h1), by rw [h2.length]; exact hl.1, by rw [h2.length]; exact hl.2, star_go ok h2 hg k⟩
    · cases hg
  · cases hg
theorem gH_ix (i : Nat) (ho : PE X o (tE X.K O (mBr i) (.br i))) (hi : PE X ix (tE X.K O mi .fz)) (hO : mutK O[i]? = true := by rfl)
    (ha : ∀ v, assign (.Subscript o ix spos) X.env v = (do
      let ov ← holding [v] (eval o X.env)
      let iv ← holding [v, ov] (eval ix X.env)
      standAt spos
      holding [v, ov, iv] (setItem ov iv v)
      release [v, ov, iv] []) := by intro _; rfl) : PG X (.Subscript o ix spos) (tGH X.K O (mgIx i mi)) := by
  refine PGi (pg_sub ho hi set_list ha) fun v σ H Q ⟨F, ρ, d, ρ', ok, r1, hg, q⟩ => ?_
  obtain ⟨⟨d2, ρ2⟩, e3, e4⟩ := bind_some hg
  obtain ⟨⟨d3, ρ3⟩, e5, e6⟩ := bind_some e4
  dsimp only at e5 e6
  split at e6
  · rename_i _ _ j ds g2
    obtain ⟨n, g3, g4⟩ := map_some e6
    cases g4
    have hρ : ρ2 = ρ := by
      obtain ⟨_, _, z⟩ := slot_some e3
      cases z
      rfl
    subst hρ
    refine ⟨F, ρ2, d2, ρ2, ok, e3, fun o F2 H2 ok2 st2 r2 => ?_⟩
    refine ⟨F2, ρ2, _, ρ3, ok2, e5, fun iv F3 H3 ok3 st3 r3 => ?_⟩
    have go := st2.trans st3
    obtain ⟨r2, k0, k1, k2⟩ := r2.step st3 rfl
    obtain ⟨pp, y1, y2, oo, y3, xs, y4, y5⟩ := ok3.ow i k0 _ k1 k2 g2
    rw [y1] at r2
    cases r2
    subst y4
    have r3 : iv = .int j := r3
    subst r3
    have rv : Rp X.K F3 d v := Rp.mono go.ex _ _ r1
    refine ⟨pp, xs, j, n, rfl, rfl, y3, by rw [y5.length]; exact g3, ?_⟩
    have kl : k0.lock = false := by
      rw [k1] at hO
      cases k0 <;> first | rfl | cases hO
    obtain ⟨z1, z2⟩ := ok3.chg (o := .lst (xs.set n v)) (d := .list (ds.set n d)) k1 k2 kl g2 y1 y2 ⟨_, rfl, y5.set rv n⟩
    exact q σ F3 _ z1 (go.trans z2).toStpS
  · cases e6
/-- a target of any form -/
theorem s_asgH {tg : Expr} (he : PE X e (tE X.K O m .fz)) (hg : PG X tg (tGH X.K O g)) (hs : swapsWithSole [tg] e pos.line X.env = pure false := by rfl) (hw : swappedStores [tg] e X.env = pure none := by rfl)
    (h1 : (assignEach [tg] X.env).map (·.2) = [assign tg X.env] := by rfl) : PS X (.Assign [tg] e pos) (tS X.K O (mAsg g m) r) := by
  refine PSi (ps_asg he hg hs hw h1) fun Dn σ H ⟨F, ρ, fl, ρ', ok, hm, q⟩ => ?_
  obtain ⟨⟨d, ρ1⟩, e1, e2⟩ := bind_some hm
  obtain ⟨ρ2, e3, e4⟩ := map_some e2
  cases e4
  exact ⟨F, ρ, d, ρ1, ok, e1, fun v F1 H1 ok1 st1 r1 => ⟨F1, ρ1, d, ρ', ok1, r1, e3, fun σ2 F2 H2 ok2 st2 => q σ2 F2 H2 ok2 (st1.toStpS.trans st2)⟩⟩
end
end DL

/-! EI5: constants of the module of any depth, tables with text keys; a dict compared with an empty one. -/
namespace DL
open PySem PySem.Spec PyProof.Rows L2

/-! ### constants of the module -/
mutual
def rpB (K : PySem.W.Frag) : D → Value → Bool
  | .none, u => (match u with | .none => true | _ => false)
  | .bool b, u => (match u with | .bool c => b == c | _ => false)
  | .int i, u => (match u with | .int j _ => decide (i = j) | _ => false)
  | .str x, u => (match u with | .str y _ => decide (x = y) | _ => false)
  | .tuple ds, u => (match u with
    | .ref a => (match K.lookup a with
      | some ⟨.type c, _, .seq its _, _⟩ => decide (c = "tuple") && (decide (its.size ≤ sizeLine) && rpBA K ds its.toList)
      | _ => false)
    | _ => false)
  | .list ds, u => (match u with
    | .ref a => (match K.lookup a with
      | some ⟨.type c, none, .seq its _, _⟩ => decide (c = "list") && (decide (its.size ≤ sizeLine) && rpBA K ds its.toList)
      | _ => false)
    | _ => false)
  | .dict _, _ => false
def rpBA (K : PySem.W.Frag) : List D → List Value → Bool
  | [], us => us.isEmpty
  | d :: ds, us => (match us with
    | u :: us => rpB K d u && rpBA K ds us
    | [] => false)
end
mutual
theorem rpB_ok {K : PySem.W.Frag} : ∀ (d : D) (u : Value), rpB K d u = true → ∃ v, RelV v u ∧ ∀ F : Hp, Rp K F d v
  | .none, u, h => by
    cases u <;> first | (exact ⟨.non, rfl, fun _ => rfl⟩) | cases h
  | .bool b, u, h => by
    cases u <;> first | cases h | skip
    rename_i c
    have h : b = c := by simpa [rpB] using h
    subst h
    exact ⟨.bl b, rfl, fun _ => rfl⟩
  | .int i, u, h => by
    cases u <;> first | cases h | skip
    rename_i j t
    have h : i = j := by simpa [rpB] using h
    subst h
    exact ⟨.int i, ⟨t, rfl⟩, fun _ => rfl⟩
  | .str x, u, h => by
    cases u <;> first | cases h | skip
    rename_i j t
    have h : x = j := by simpa [rpB] using h
    subst h
    exact ⟨.str x, ⟨t, rfl⟩, fun _ => rfl⟩
  | .tuple ds, u, h => by
    cases u <;> first | cases h | skip
    rename_i a
    have h : (match K.lookup a with
      | some ⟨.type c, _, .seq its _, _⟩ => decide (c = "tuple") && (decide (its.size ≤ sizeLine) && rpBA K ds its.toList)
      | _ => false) = true := h
    split at h
    · rename_i c od its n osl q
      obtain ⟨h1, h2⟩ := Bool.and_eq_true_iff.mp h
      obtain ⟨h3, h4⟩ := Bool.and_eq_true_iff.mp h2
      obtain ⟨vs, r1, r2⟩ := rpBA_ok ds its.toList h4
      exact ⟨.ref a, rfl, fun F => ⟨a, vs, rfl, .inr ⟨_, its, n, q, congrArg Value.type (of_decide_eq_true h1), rfl, of_decide_eq_true h3, r1⟩, r2 F⟩⟩
    · cases h
  | .list ds, u, h => by
    cases u <;> first | cases h | skip
    rename_i a
    have h : (match K.lookup a with
      | some ⟨.type c, none, .seq its _, _⟩ => decide (c = "list") && (decide (its.size ≤ sizeLine) && rpBA K ds its.toList)
      | _ => false) = true := h
    split at h
    · rename_i c its n osl q
      obtain ⟨h1, h2⟩ := Bool.and_eq_true_iff.mp h
      obtain ⟨h3, h4⟩ := Bool.and_eq_true_iff.mp h2
      obtain ⟨vs, r1, r2⟩ := rpBA_ok ds its.toList h4
      exact ⟨.ref a, rfl, fun F => ⟨a, vs, rfl, .inr ⟨_, its, n, q, congrArg Value.type (of_decide_eq_true h1), rfl, rfl, of_decide_eq_true h3, r1⟩, r2 F⟩⟩
    · cases h
  | .dict _, _, h => by cases h
theorem rpBA_ok {K : PySem.W.Frag} : ∀ (ds : List D) (us : List Value), rpBA K ds us = true → ∃ vs, Vals vs us ∧ ∀ F : Hp, RpA K F ds vs
  | [], us, h => by
    cases us with
    | nil => exact ⟨[], .nil, fun _ => rfl⟩
    | cons u us => cases h
  | d :: ds, us, h => by
    cases us with
    | nil => cases h
    | cons u us =>
      obtain ⟨h1, h2⟩ := Bool.and_eq_true_iff.mp (show (rpB K d u && rpBA K ds us) = true from h)
      obtain ⟨v, r1, r2⟩ := rpB_ok d u h1
      obtain ⟨vs, r3, r4⟩ := rpBA_ok ds us h2
      exact ⟨v :: vs, .cons r1 r3, fun F => ⟨v, vs, rfl, r2 F, r4 F⟩⟩
end
/-- x is the constant d -/
structure GC (K : PySem.W.Frag) (mg : Str → Option Value) (x : Str) (d : D) : Prop where
  ex : ∃ (u : Value) (v : V), mg x = some u ∧ RelV v u ∧ ∀ F : Hp, Rp K F d v
def gcB (K : PySem.W.Frag) (x : Str) (d : D) : Bool := match PySem.W.nsIn K mainGlobals x with
  | some (some u) => rpB K d u
  | _ => false
theorem gc_ok {K : PySem.W.Frag} {h : Heap} {mg : Str → Option Value} (X : K.In h) (G : h.Ns mainGlobals mg) {x : Str} {d : D} (c : gcB K x d = true) : GC K mg x d := by
  unfold gcB at c
  split at c
  · rename_i u e
    obtain ⟨v, r1, r2⟩ := rpB_ok d u c
    exact ⟨u, v, PySem.W.mg_of X G e, r1, r2⟩
  · cases c
theorem e_gc {X : Cx} {O : List Kd} {x : Str} {p : Pos} {d : D} (h : GC X.K X.mg x d) (hg : Gl X x := by rfl) (h1 : (x == ("__debug__" : Str)) = false := by decide) : PE X (.Name x p) (tE X.K O (mC d) .fz) := by
  obtain ⟨u, v, e1, e2, e3⟩ := h.ex
  exact e_glob e1 e2 e3 hg h1
/-! ### a table -/
def dvB (K : PySem.W.Frag) : List DictEntry → List (Str × D) → Bool
  | [], [] => true
  | e :: r, (k, d) :: s => (match e.key with | .str y _ => decide (y = k) | _ => false) && (rpB K d e.val && dvB K r s)
  | _, _ => false
def lkD (z : Str) : List (Str × D) → Option D
  | [] => none
  | (k, d) :: r => if k = z then some d else lkD z r
structure GD (K : PySem.W.Frag) (w : World) (mg : Str → Option Value) (x : Str) (kvs : List (Str × D)) : Prop where
  ex : ∃ (a : Addr) (es : Array DictEntry) (n : Nat), mg x = some (.ref a) ∧ KDict K w a es n ∧ ∀ z, (lkD z kvs = none ∧ PySem.W.nsIn K a z = some none) ∨ ∃ d u v, lkD z kvs = some d ∧ PySem.W.nsIn K a z = some (some u) ∧ RelV v u ∧ ∀ F : Hp, Rp K F d v
def gdB (K : PySem.W.Frag) (x : Str) (kvs : List (Str × D)) : Bool := match K.lookup (He.ga K x) with
  | some ⟨_, _, .dict es _, _⟩ => dvB K es.toList kvs
  | _ => false
theorem dv_find {K : PySem.W.Frag} {z : Str} : ∀ {l : List DictEntry} {kvs : List (Str × D)}, dvB K l kvs = true → l.any (·.refKey) = false ∧ ((lkD z kvs = none ∧ l.find? (·.key.isStr z) = none) ∨ ∃ d e v, lkD z kvs = some d ∧ l.find? (·.key.isStr z) = some e ∧ RelV v e.val ∧ ∀ F : Hp, Rp K F d v)
  | [], [], _ => ⟨rfl, .inl ⟨rfl, rfl⟩⟩
  | e :: r, (k, d) :: s, h => by
    obtain ⟨h1, h2⟩ := Bool.and_eq_true_iff.mp (show ((match e.key with | .str y _ => decide (y = k) | _ => false) && (rpB K d e.val && dvB K r s)) = true from h)
    obtain ⟨h3, h4⟩ := Bool.and_eq_true_iff.mp h2
    obtain ⟨v, r1, r2⟩ := rpB_ok d e.val h3
    obtain ⟨i1, i2⟩ := dv_find (z := z) h4
    split at h1
    · rename_i y t ek
      have h1 := of_decide_eq_true h1
      subst h1
      have rk : e.refKey = false := by
        unfold DictEntry.refKey
        rw [ek]
      refine ⟨by rw [List.any_cons, rk, i1]; rfl, ?_⟩
      have is : e.key.isStr z = decide (y = z) := by
        rw [ek]
        show (y == z) = decide (y = z)
        rw [Bool.eq_iff_iff]
        simp
      unfold lkD
      by_cases q : y = z
      · rw [if_pos q, List.find?_cons_of_pos (by rw [is]; exact decide_eq_true q)]
        exact .inr ⟨d, e, v, rfl, rfl, r1, r2⟩
      · rw [if_neg q, List.find?_cons_of_neg (by rw [is]; simpa using q)]
        exact i2
    · cases h1
  | [], _ :: _, h => by cases h
  | _ :: _, [], h => by cases h
theorem gd_ok {K : PySem.W.Frag} {h : Heap} {w : World} {mg : Str → Option Value} {x : Str} {kvs : List (Str × D)} (hm : mg x = some (.ref (He.ga K x))) (kd : ∃ es n, KDict K w (He.ga K x) es n) (c : gdB K x kvs = true) : GD K w mg x kvs := by
  obtain ⟨es, n, kd⟩ := kd
  refine ⟨He.ga K x, es, n, hm, kd, fun z => ?_⟩
  unfold gdB at c
  rw [kd.at_] at c
  obtain ⟨i1, i2⟩ := dv_find (z := z) (show dvB K es.toList kvs = true from c)
  unfold PySem.W.nsIn
  rw [kd.at_]
  rcases i2 with ⟨i2, i3⟩ | ⟨d, e, v, i2, i3, i4, i5⟩
  · refine .inl ⟨i2, ?_⟩
    show (match es.toList.find? (·.key.isStr z) with
      | some e => some (some e.val)
      | none => if es.toList.any (·.refKey) then none else some none) = _
    rw [i3]
    show (if es.toList.any (·.refKey) then none else some none) = _
    rw [i1]
    rfl
  · refine .inr ⟨d, e.val, v, i2, ?_, i4, i5⟩
    show (match es.toList.find? (·.key.isStr z) with
      | some e => some (some e.val)
      | none => if es.toList.any (·.refKey) then none else some none) = _
    rw [i3]
def dKget (kvs : List (Str × D)) : List D → Option D
  | [.str z] => lkD z kvs
  | _ => none
def dKin (neg : Bool) (kvs : List (Str × D)) : List D → Option D
  | [.str z] => some (.bool (if neg then !(lkD z kvs).isSome else (lkD z kvs).isSome))
  | _ => none
theorem pe_glb {X : Cx} {x : Str} {p : Pos} {v : V} {u : Value} (hg : Gl X x) (hm : X.mg x = some u) (r : RelV v u) (h1 : (x == ("__debug__" : Str)) = false) : PE X (.Name x p) (tC v) := by
  refine ⟨fun pins s σ H Q I h => ?_⟩
  exact ld_glob I hg hm ⟨v, H, I, r, h⟩ h1
section
variable {X : Cx} {O : List Kd} {x : Str} {p pos : Pos} {kvs : List (Str × D)} {e : Expr} {ka : Ak} {m : M} {σ : L2.St} {H : Hp} {Q : VK}
theorem one_of {K : PySem.W.Frag} {op : List D → Option D} (h : tE K O (m1 ka m op) .fz σ H Q) : ∃ F ρ d ρ1, Ok K O ⟨F, H, σ, ρ⟩ ∧ m ρ = some (d, ρ1) ∧ ∀ v F1 H1, Ok K O ⟨F1, H1, σ, ρ1⟩ → Stp O ⟨F, H, σ, ρ⟩ ⟨F1, H1, σ, ρ1⟩ → Rs K O ⟨F, H, σ, ρ⟩ ⟨F1, H1, σ, ρ1⟩ ka d v →
    ∃ e z, Vw K F1 H1 e v ∧ op [e] = some z ∧ ∀ v2, Rp K F1 z v2 → Q v2 H1 := by
  obtain ⟨F, ρ, d, ρ', ok, hm, q⟩ := h
  obtain ⟨⟨ds, ρ1⟩, h1, h2⟩ := bind_some hm
  obtain ⟨es, h3, h4⟩ := bind_some h2
  obtain ⟨z, h5, h6⟩ := map_some h4
  cases h6
  obtain ⟨⟨d1, ρ2⟩, h7, h8⟩ := bind_some h1
  obtain ⟨⟨_, _⟩, h9, h10⟩ := bind_some h8
  cases h9
  cases h10
  have hes : ∃ e, es = [e] := by
    cases ka with
    | br i =>
      obtain ⟨d', _, g2⟩ := slot_some h3
      obtain ⟨_, g3, g4⟩ := map_some g2
      cases g3
      exact ⟨_, g4.symm⟩
    | fz =>
      obtain ⟨_, g3, g4⟩ := map_some h3
      cases g3
      exact ⟨_, g4.symm⟩
    | ow =>
      obtain ⟨_, g3, g4⟩ := map_some h3
      cases g3
      exact ⟨_, g4.symm⟩
  obtain ⟨e, rfl⟩ := hes
  exact ⟨F, ρ, d1, ρ2, ok, h7, fun v F1 H1 ok1 st1 r1 => ⟨e, _, rs_view ok1 r1 h3, h5, fun v2 r2 => q v2 F1 H1 ok1 st1 r2⟩⟩
theorem vw_str {K : PySem.W.Frag} {F H : Hp} {z : Str} {v : V} (h : Vw K F H (.str z) v) : v = .str z := h
/-- T[e], T a table of the module -/
theorem e_kget (h : GD X.K X.w X.mg x kvs) (he : PE X e (tE X.K O m ka)) (hg : Gl X x := by rfl) (h1 : (x == ("__debug__" : Str)) = false := by decide) (hs : PlainIx e := by exact fun _ _ => rfl) : PE X (.Subscript (.Name x p) e pos) (tE X.K O (m1 ka m (dKget kvs)) .fz) := by
  obtain ⟨a, es, n, e1, kd, e3⟩ := h.ex
  refine PEi (pe_ix ix_kdict (pe_glb (v := V.ref a) hg e1 rfl h1) he hs) fun σ H Q hq => ?_
  obtain ⟨F, ρ, d, ρ1, ok, hm, k⟩ := one_of hq
  show tE X.K O m ka σ H _
  refine ⟨F, ρ, d, ρ1, ok, hm, fun v F1 H1 ok1 st1 r1 => ?_⟩
  obtain ⟨e, z, q1, q2, q3⟩ := k v F1 H1 ok1 st1 r1
  have hy : ∃ y, e = .str y := by
    cases e <;> first | exact ⟨_, rfl⟩ | cases q2
  obtain ⟨y, rfl⟩ := hy
  · have q2 : lkD y kvs = some z := q2
    have := vw_str q1
    subst this
    rcases e3 y with ⟨b1, b2⟩ | ⟨d', u', v', b1, b2, b3, b4⟩
    · rw [q2] at b1
      cases b1
    · rw [q2] at b1
      cases b1
      exact ⟨a, y, v', rfl, rfl, ⟨es, n, u', kd.at_, kd.lit, b2, b3⟩, q3 _ (b4 F1)⟩
theorem kin_core {neg : Bool} {a : Addr} (e3 : ∀ z, (lkD z kvs = none ∧ PySem.W.nsIn X.K a z = some none) ∨ ∃ d u v, lkD z kvs = some d ∧ PySem.W.nsIn X.K a z = some (some u) ∧ RelV v u ∧ ∀ F : Hp, Rp X.K F d v)
    (hq : tE X.K O (m1 ka m (dKin neg kvs)) .fz σ H Q) : tOp (fun x y H Q => ∃ (z : Str) (r : Option Value), x = .str z ∧ y = .ref a ∧ PySem.W.nsIn X.K a z = some r ∧ Q (.bl (if neg then !r.isSome else r.isSome)) H) (tE X.K O m ka) (tC (.ref a)) σ H Q := by
  obtain ⟨F, ρ, d, ρ1, ok, hm, k⟩ := one_of hq
  refine ⟨F, ρ, d, ρ1, ok, hm, fun v F1 H1 ok1 st1 r1 => ?_⟩
  obtain ⟨e, z, q1, q2, q3⟩ := k v F1 H1 ok1 st1 r1
  have hy : ∃ y, e = .str y := by
    cases e <;> first | exact ⟨_, rfl⟩ | cases q2
  obtain ⟨y, rfl⟩ := hy
  · cases q2
    have := vw_str q1
    subst this
    rcases e3 y with ⟨b1, b2⟩ | ⟨d', u', v', b1, b2, b3, b4⟩
    · refine ⟨y, none, rfl, rfl, b2, q3 _ ?_⟩
      rw [b1]
      rfl
    · refine ⟨y, some u', rfl, rfl, b2, q3 _ ?_⟩
      rw [b1]
      rfl
theorem e_kin (h : GD X.K X.w X.mg x kvs) (he : PE X e (tE X.K O m ka)) (hg : Gl X x := by rfl) (h1 : (x == ("__debug__" : Str)) = false := by decide) (hm : behindInMarks .In (.Name x p) = false := by rfl) : PE X (.Compare e [.In] [.Name x p] pos) (tE X.K O (m1 ka m (dKin false kvs)) .fz) := by
  obtain ⟨a, es, n, e1, kd, e3⟩ := h.ex
  exact PEi (pe_cmpR (op_in_kd kd) he (pe_glb (v := V.ref a) hg e1 rfl h1) hm) fun σ H Q hq => kin_core (neg := false) e3 hq
theorem t_kin (h : GD X.K X.w X.mg x kvs) (he : PE X e (tE X.K O m ka)) (hg : Gl X x := by rfl) (h1 : (x == ("__debug__" : Str)) = false := by decide) (hm : behindInMarks .In (.Name x p) = false := by rfl) : PT X (.Compare e [.In] [.Name x p] pos) (tT X.K O (mTr (m1 ka m (dKin false kvs)))) := by
  obtain ⟨a, es, n, e1, kd, e3⟩ := h.ex
  exact PTi (pt_cmpR (op_in_kd kd) he (pe_glb (v := V.ref a) hg e1 rfl h1) hm) fun σ H Q hq => kin_core (neg := false) e3 (tTr hq)
theorem t_knin (h : GD X.K X.w X.mg x kvs) (he : PE X e (tE X.K O m ka)) (hg : Gl X x := by rfl) (h1 : (x == ("__debug__" : Str)) = false := by decide) (hm : behindInMarks .NotIn (.Name x p) = false := by rfl) : PT X (.Compare e [.NotIn] [.Name x p] pos) (tT X.K O (mTr (m1 ka m (dKin true kvs)))) := by
  obtain ⟨a, es, n, e1, kd, e3⟩ := h.ex
  exact PTi (pt_cmpR (op_notIn_kd kd) he (pe_glb (v := V.ref a) hg e1 rfl h1) hm) fun σ H Q hq => kin_core (neg := true) e3 (tTr hq)
end
/-! ### == with an empty dict -/
def dEqE : List D → Option D
  | [.dict a, .dict b] => if a.length ≠ b.length ∨ a.length = 0 then some (.bool (decide (a.length = b.length))) else none
  | _ => none
def dNeE : List D → Option D
  | [.dict a, .dict b] => if a.length ≠ b.length ∨ a.length = 0 then some (.bool (!decide (a.length = b.length))) else none
  | _ => none
def rEqE (neg : Bool) : R2 := fun x y H Q => ∃ a b ks ls, x = .ref a ∧ y = .ref b ∧ Rd H a (.dK ks) ∧ Rd H b (.dK ls) ∧ (ks.length ≠ ls.length ∨ ks.length = 0) ∧ Q (.bl (if neg then !decide (ks.length = ls.length) else decide (ks.length = ls.length))) H
section
variable {X : Cx}
theorem keqE {K : Type} [DecidableEq K] {A : Around} {s : Shared} {va vb : List (K × Value)} (h : va.length ≠ vb.length ∨ va.length = 0) : va.length = vb.length → PySem.W.KeqHits A s vb va true := fun e => by
  rcases h with h | h
  · exact (h e).elim
  · rw [List.length_eq_zero_iff.mp h]
    exact .nil
theorem op_eqE (hu : X.A.units + 64 < cLine) : OpR X (compareOp .Eq) (rEqE false) := by
  intro pins s σ H x y v u Q I rx ry h
  obtain ⟨a, b, ks, ls, rfl, rfl, ea, eb, hc, q⟩ := h
  obtain rfl : v = Value.ref a := rx
  obtain rfl : u = Value.ref b := ry
  obtain ⟨_, ya, va, ra, da⟩ := dk_rd I.hok ea
  obtain ⟨_, yb, vb, rb, db⟩ := dk_rd I.hok eb
  have la : ks.length = va.length := Paired.length ra
  have lb : ls.length = vb.length := Paired.length rb
  rw [la, lb] at hc
  exact PySem.W.keq_eq (knd := mixKind X.prog X.w) (r := true) ya yb da db (by omega) (keqE hc) (fin_bl I q (by rw [la, lb, Bool.and_true]; exact (Bool.beq_eq_decide_eq _ _).symm))
theorem op_neE (hu : X.A.units + 64 < cLine) : OpR X (compareOp .NotEq) (rEqE true) := by
  intro pins s σ H x y v u Q I rx ry h
  obtain ⟨a, b, ks, ls, rfl, rfl, ea, eb, hc, q⟩ := h
  obtain rfl : v = Value.ref a := rx
  obtain rfl : u = Value.ref b := ry
  obtain ⟨_, ya, va, ra, da⟩ := dk_rd I.hok ea
  obtain ⟨_, yb, vb, rb, db⟩ := dk_rd I.hok eb
  have la : ks.length = va.length := Paired.length ra
  have lb : ls.length = vb.length := Paired.length rb
  rw [la, lb] at hc
  exact PySem.W.keq_ne (knd := mixKind X.prog X.w) (r := true) ya yb da db (by omega) (keqE hc) (fin_bl I q (by rw [la, lb, Bool.and_true]; exact congrArg not (Bool.beq_eq_decide_eq _ _).symm))
end
section
variable {K : PySem.W.Frag}
theorem s_eqE : LSem K (rL2 (rEqE false)) dEqE .fz := by
  intro F H ds vs d Q s hv ho q
  unfold dEqE at ho
  split at ho
  · rename_i a b
    split at ho
    · rename_i h
      cases ho
      obtain ⟨v, u, rfl, h1, h2⟩ := hv.two
      obtain ⟨p, xs, rfl, p1, p2⟩ := vw_dict h1
      obtain ⟨r, ys, rfl, r1, r2⟩ := vw_dict h2
      rw [← p2.length, ← r2.length] at h
      refine ⟨_, _, rfl, p, r, xs, ys, rfl, rfl, p1, r1, h, q.now s ?_⟩
      rw [p2.length, r2.length]
      rfl
    · cases ho
  · cases ho
theorem s_neE : LSem K (rL2 (rEqE true)) dNeE .fz := by
  intro F H ds vs d Q s hv ho q
  unfold dNeE at ho
  split at ho
  · rename_i a b
    split at ho
    · rename_i h
      cases ho
      obtain ⟨v, u, rfl, h1, h2⟩ := hv.two
      obtain ⟨p, xs, rfl, p1, p2⟩ := vw_dict h1
      obtain ⟨r, ys, rfl, r1, r2⟩ := vw_dict h2
      rw [← p2.length, ← r2.length] at h
      refine ⟨_, _, rfl, p, r, xs, ys, rfl, rfl, p1, r1, h, q.now s ?_⟩
      rw [p2.length, r2.length]
      rfl
    · cases ho
  · cases ho
end
end DL

/-! EI6: len of an object with its own __len__. -/
namespace DL
open PySem PySem.Spec PyProof.Rows L2

section
variable {X : Cx} {CX : CXT} {k : Nat} {f : Addr} {fd : FuncData} {ps : List Str} {sp : Sp} {E : XK}
theorem goFn1 {pins : List (Addr × Obj)} {σ : L2.St} {H : Hp} {s : Shared} {Q : VK} {us : List Value} {vs : List V} (G : FnG X.prog X.w X.K X.mg X.base CX k f fd ps sp) (hgd : X.A.guards = some []) (hr : Room (k + 1) X.A) (hb : Binds X.K fd ps [])
    (hx : Passes CX X E) (I : Inv X pins σ H s) (r : Vals vs us) (h : sp vs H Q E) : wpAny (model X.prog X.w) X.A.in1 (call (.ref f) us) (EP X pins σ Q) X.xe s := by
  have cnt : us.length = ps.length := r.length.symm.trans (G.ar _ _ _ _ h)
  have hb2 := hb s us I.kIn (by rw [List.append_nil]; exact cnt)
  rw [List.append_nil] at hb2
  refine wpAny_call (codeAny_mono (G.go X.A.in1 X.stack s H ⟨us, []⟩ us vs Q E hgd hr.in1 I.env0.in1 hb2 r h) fun res s' hq => ?_)
  rcases res with e | fl
  · exact hx pins σ H s e s' I hq
  · cases fl with
    | ret u => exact I.after hq
    | next => exact hq.elim
    | brk => exact hq.elim
    | cont => exact hq.elim
end
def mLenO (nc np : Nat) (mf : En → Option (D × En)) : M := fun ρ => (mCallM nc np mf maNil ρ).bind fun z => match z.1 with
  | .int n => if 0 ≤ n ∧ n < 2 ^ 62 then some (.int n, z.2) else none
  | _ => none
section
variable {X : Cx} {O Oi : List Kd} {b : Bool} {k j : Nat} {ps : List Str} {mf : En → Option (D × En)} {x : Str} {p p2 pos : Pos}
theorem eb_lenO (hB : X.mg "len" = none) (G : MtX X.prog X.w X.K X.mg X.base (cn O) "__len__" k ps (spM b X.K Oi mf .fz)) (hgd : X.A.guards = some []) (hr : Room j X.A) (hj : k + 1 ≤ j := by decide) (hs : csh O Oi 0 = true := by decide +kernel) (hm : ("__len__" : Str) ∉ ats O := by decide +kernel)
    (hN : X.N[oi O]? = some x := by rfl) (hv : Vis X.env.scope x := by first | exact Or.inl rfl | exact Or.inr (Or.inl rfl) | exact Or.inr (Or.inr rfl)) (hd : (x == ("__debug__" : Str)) = false := by decide) (hcd : (x == ("__classdict__" : Str)) = false := by decide) (hg : Gl X "len" := by rfl)
    (he : starEach [.Name x p2] X.env = (false, eval (.Name x p2) X.env) :: starEach [] X.env := by rfl) (hpl : (backTo pos (starEach [] X.env)).any (·.1) = false := by rfl) :
    PE X (.Call (.Name "len" p) [.Name x p2] [] pos) (tEB b X.K O (mLenO (nl O) (nl Oi) mf) .fz) := by
  obtain ⟨fd, G1, G2⟩ := G.ex
  have S := csh_of hs
  refine ⟨fun pins s σ H Q I ⟨F, ρ, d, ρ', ok, hm', q⟩ => ?_⟩
  obtain ⟨⟨d1, ρ1⟩, h1, h2⟩ := bind_some hm'
  obtain ⟨⟨ds0, ρ2⟩, h3, h4⟩ := bind_some h1
  cases h3
  obtain ⟨⟨d2, out⟩, h5, h6⟩ := bind_some h4
  cases h6
  have hint : ∃ n : Int, d2 = .int n ∧ 0 ≤ n ∧ n < 2 ^ 62 ∧ d = .int n ∧ ρ' = ρ.take (nl O) ++ out.drop (nl Oi) := by
    cases d2 <;> first | (cases h2; done) | skip
    rename_i n
    dsimp only at h2
    split at h2
    · rename_i hn
      cases h2
      exact ⟨n, rfl, hn.1, hn.2, rfl, rfl⟩
    · cases h2
  obtain ⟨n, rfl, n1, n2, rfl, rfl⟩ := hint
  have bo := ok.obj S.ho
  obtain ⟨C, dx, fs, e4, e5⟩ := bo.ex
  obtain ⟨eC, eK⟩ := bo.cls _ _ _ e4
  subst eC
  have okc : Ok X.K Oi (cwd O ⟨F, H, σ, ρ⟩ [] []) := call_okM S rfl rfl ok rfl
  have e4 : H (ob O σ) = some (.ins (He.ga X.K (cn O)) dx fs) := e4
  refine wpAny_Call_Name_kw (ld_blt I hg hB (show bootBuiltins "len" = some (.builtin "len") by decide +kernel) (PyProof.Rows.callWith_builtin1 ?_ he hpl) (by decide) (by decide))
  have hse : starEach [.Name x p2] X.env = [(false, eval (.Name x p2) X.env)] := rfl
  refine thn ((pa_cons (pe_var (pos := p2) hN hv hd hcd) pa_nil he).run pos pins s σ H (fun vs H' => vs = [.ref (ob O σ)] ∧ H' = H) I ⟨.ref (ob O σ), bo.at0, rfl, rfl⟩) fun us s1 ⟨vs, H1, I1, r1, q1⟩ => ?_
  obtain ⟨rfl, rfl⟩ := q1
  cases r1 with
  | cons r rr =>
  cases rr
  cases r
  obtain ⟨mA, Om, r, _, _, _⟩ := ins_get I1.hok e4
  have hn : mA "__len__" = none := RelO.none_of (by rw [← eK.non hm]; exact r _)
  obtain ⟨od, J, _⟩ := Om.look
  refine PySem.Calls.call_function_entry PySem.kind_len PySem.plain_len PySem.entry_len (PySem.args_len1 _) ?_
  unfold Builtin.«len»
  refine wpAny_bind (m := oneArg "len" _) (wpAny_pure ?_)
  have hc : ∀ {Q' : Option Value → Shared → Prop}, wpAny (model X.prog X.w) X.A.in1 (call (.ref (He.ma X.K (He.ga X.K (cn O)) "__len__")) [.ref (ob O σ)]) (fun v s' => Q' (some v) s') X.xe s1 → wpAny (model X.prog X.w) X.A.in1 (callSpecial? (.ref (ob O σ)) (Str.ofString "__len__")) Q' X.xe s1 := fun q => by
    unfold callSpecial? specialOf
    refine wpAny_bind (wpAny_bind (J.type.here ((PySem.W.looks_findIn I1.kIn G.mt.at_).here ?_)))
    refine wpAny_holding ?_
    refine wpAny_bind ((PySem.W.bind_fn I1.kIn _ (beq_iff_eq.mp G.mt.fn)).here ?_)
    exact wpAny_bind (wpAny_mono q (fun v s' z => wpAny_pure z) fun _ _ z => z)
  refine wpAny_bind (m := callSpecial? (.ref (ob O σ)) (Str.ofString "__len__")) (hc ?_)
  refine wpAny_mono (goFn1 (us := [.ref (ob O σ)]) (vs := [.ref (ob O σ)]) (E := E0) (Q := fun v H2 => ∃ n : Int, v = .int n ∧ 0 ≤ n ∧ n < 2 ^ 62 ∧ Q (.int n) H2) G1 hgd (hr.mono hj) G2 pass0 I1 (.cons rfl .nil) ?_) (fun u s2 ⟨v, H2, I2, r2, n', ev, m1, m2, q2⟩ => ?_) fun _ _ z => z
  · refine ⟨F, _, _, out, okc, h5, fun v F2 H2 okr str rs => ?_⟩
    obtain ⟨a, b', c⟩ := call_backM (w := ⟨F, H1, σ, ρ⟩) (w1 := ⟨F, H1, σ, ρ⟩) (ds := []) (vs := []) S rfl rfl (fun _ z => by cases z) (StpS.refl _ _) (fun _ => .refl _ _) ok okr str rs
    have ev : v = .int n := c
    subst ev
    exact ⟨n, rfl, n1, n2, q _ F2 H2 a b' c⟩
  · subst ev
    obtain ⟨t, rfl⟩ := r2
    refine wpAny_bind (wpAny_holding (wpAny_pure ?_))
    refine wpAny_bind (wpAny_letGo ?_)
    show wpAny _ _ (if n' < 0 then _ else _) _ _ _
    rw [if_neg (by omega)]
    show wpAny _ _ (if n' ≥ 2 ^ 63 then _ else _) _ _ _
    rw [if_neg (by omega)]
    exact wpAny_bind (wpAny_mkInt (wpAny_pure ⟨_, rfl, .int n', H2, I2.tok _, ⟨_, rfl⟩, q2⟩))
end
end DL

/-! EI7: operations whatever the kinds: subscript, in, ==, +, *, slices, what is walked, len. -/
namespace DL
open PySem PySem.Spec PyProof.Rows L2

section
variable {X : Cx} {r r' : R2} {f : Value → Value → Sem Value}
theorem orO (h : OpR X f r) (h' : OpR X f r') : OpR X f (fun x y H Q => r x y H Q ∨ r' x y H Q) := fun pins s σ H x y v u Q I rx ry q => q.elim (h pins s σ H x y v u Q I rx ry) (h' pins s σ H x y v u Q I rx ry)
theorem orIx (h : IxR X r) (h' : IxR X r') : IxR X (fun x y H Q => r x y H Q ∨ r' x y H Q) := fun a b pins s σ H x y v u Q I rx ry q => q.elim (h a b pins s σ H x y v u Q I rx ry) (h' a b pins s σ H x y v u Q I rx ry)
theorem ix_dget (hu : X.A.units + 65 < cLine) : IxR X rDGet := by
  intro value slice pins s σ H x y v u Q I rx ry h hs
  obtain ⟨a, v0, ex, g, q⟩ := h
  subst ex
  obtain rfl : v = Value.ref a := rx
  exact PyProof.Rows.tail_any (dict_typeIs I g) PySem.F.slot_dict_getitem.lookup (d_getItem (by omega) I g ry fun w' s3 I3 rw' => ⟨v0, H, I3, rw', q⟩) hs
theorem op_dinO (hu : X.A.units + 65 < cLine) : OpR X (compareOp .In) (rDIn false) := by
  intro pins s σ H y x iv u Q I ry rx h
  obtain ⟨a, o, ex, g, q⟩ := h
  subst ex
  obtain rfl : u = Value.ref a := rx
  exact d_in (by omega) I g ry fun s3 I3 => ⟨.bl o.isSome, H, I3, rfl, q⟩
theorem op_dninO (hu : X.A.units + 65 < cLine) : OpR X (compareOp .NotIn) (rDIn true) := by
  intro pins s σ H y x iv u Q I ry rx h
  obtain ⟨a, o, ex, g, q⟩ := h
  subst ex
  obtain rfl : u = Value.ref a := rx
  exact d_notIn (by omega) I g ry fun s3 I3 => ⟨.bl (!o.isSome), H, I3, rfl, q⟩
end
/-- the first of two that answers -/
def orD (f g : List D → Option D) : List D → Option D := fun ds => match f ds with
  | some z => some z
  | none => g ds
section
variable {K : PySem.W.Frag} {f g : List D → Option D} {k : Ak}
theorem s_or {r r' : List V → Hp → VK → Prop} (h : LSem K r f k) (h' : LSem K r' g k) : LSem K (fun vs H Q => r vs H Q ∨ r' vs H Q) (orD f g) k := by
  intro F H ds vs d Q s hv ho q
  unfold orD at ho
  split at ho
  · rename_i z e
    cases ho
    exact .inl (h F H ds vs _ Q s hv e q)
  · exact .inr (h' F H ds vs _ Q s hv ho q)
theorem s_or2 {r r' : R2} (h : LSem K (rL2 r) f k) (h' : LSem K (rL2 r') g k) : LSem K (rL2 fun x y H Q => r x y H Q ∨ r' x y H Q) (orD f g) k := by
  intro F H ds vs d Q s hv ho q
  rcases s_or h h' F H ds vs d Q s hv ho q with ⟨x, y, e, z⟩ | ⟨x, y, e, z⟩
  · exact ⟨x, y, e, .inl z⟩
  · exact ⟨x, y, e, .inr z⟩
/-- what is new is frozen -/
theorem Post.frz {F H : Hp} {d : D} {Q : VK} (s : Same F H) (q : Post K F H .fz d Q) : Post K F H .ow d Q := fun v F' H' pu r => by
  obtain ⟨p, rfl, h1, ⟨o, h2, h3⟩, h4⟩ := r
  have e' : Same F' (upd F' p o) := fun b u hb => by
    rw [upd_ne (ne_of_none hb h1)]
    exact hb
  refine q (.ref p) (upd F' p o) H' ⟨pu.ex.trans e', pu.hh, fun b u hb => ?_, fun b u hb f => ?_⟩ ((h3.mono e').rp upd_same)
  · by_cases e : b = p
    · subst e
      rw [upd_same] at hb
      cases hb
      exact h2
    · rw [upd_ne e] at hb
      exact pu.sub b u hb
  · rw [upd_ne (ne_of_none hb h4)]
    exact pu.nw b u hb f
theorem s_frz {r : List V → Hp → VK → Prop} (h : LSem K r f .ow) : LSem K r f .fz := fun F H ds vs d Q s hv ho q => h F H ds vs d Q s hv ho (q.frz s)
end
/-! ### xs[i], any xs -/
def dIxU := orD dIx dDget
section
variable {X : Cx} {O L : List Kd} {a b e : Expr} {ka kb : Ak} {m mb : M} {pos p : Pos}
theorem e_ixU (hu : X.A.units + 65 < cLine) (ha : PE X a (tE X.K O m ka)) (hb : PE X b (tE X.K O mb kb)) (hs : PlainIx b := by exact fun _ _ => rfl) : PE X (.Subscript a b pos) (tE X.K O (m2 ka kb m mb dIxU) .fz) :=
  PEi (pe_ix (orIx ix_seq (ix_dget hu)) ha hb hs) fun _ _ _ h => tOp_of (s_or2 s_ix s_dget) h
/-! ### in -/
def dInD (neg : Bool) : List D → Option D
  | [d, .list ds] => if (eqOk d && eqOk (.list ds)) = true then some (.bool (if neg then !ds.any (fun z => PyData.eqv z d) else ds.any fun z => PyData.eqv z d)) else none
  | _ => none
theorem s_inDD {K : PySem.W.Frag} : LSem K (rL2 (rInD K)) (dInD false) .fz := by
  intro F H ds vs d Q s hv ho q
  unfold dInD at ho
  split at ho
  · rename_i a bs
    split at ho
    · rename_i h
      cases ho
      obtain ⟨v, u, e, h1, h2⟩ := hv.two
      obtain ⟨ha, hb⟩ := Bool.and_eq_true_iff.mp h
      obtain ⟨a1, a2⟩ := eqOk_of ha
      obtain ⟨b1, b2⟩ := eqOk_of hb
      exact ⟨v, u, e, a, bs, h1.dp s a2, h2.dp s b2, a1, b1, q.now s rfl⟩
    · cases ho
  · cases ho
theorem s_ninDD {K : PySem.W.Frag} : LSem K (rL2 (rNotInD K)) (dInD true) .fz := by
  intro F H ds vs d Q s hv ho q
  unfold dInD at ho
  split at ho
  · rename_i a bs
    split at ho
    · rename_i h
      cases ho
      obtain ⟨v, u, e, h1, h2⟩ := hv.two
      obtain ⟨ha, hb⟩ := Bool.and_eq_true_iff.mp h
      obtain ⟨a1, a2⟩ := eqOk_of ha
      obtain ⟨b1, b2⟩ := eqOk_of hb
      exact ⟨v, u, e, a, bs, h1.dp s a2, h2.dp s b2, a1, b1, q.now s rfl⟩
    · cases ho
  · cases ho
def dInU := orD dIn (orD (dDin false) (dInD false))
def dNinU := orD dNin (orD (dDin true) (dInD true))
theorem e_in (hu : X.A.units + 65 < cLine) (ha : PE X a (tE X.K O m ka)) (hb : PE X b (tE X.K O mb kb)) (hm : behindInMarks .In b = false := by first | exact nomark _ | exact nobehind _ (by decide) (by decide) | rfl | with_unfolding_all rfl) : PE X (.Compare a [.In] [b] pos) (tE X.K O (m2 ka kb m mb dInU) .fz) :=
  PEi (pe_cmpR (orO op_inA (orO (op_dinO hu) (op_inD hu))) ha hb hm) fun _ _ _ h => tOp_of (s_or2 s_in (s_or2 s_din s_inDD)) h
theorem t_in (hu : X.A.units + 65 < cLine) (ha : PE X a (tE X.K O m ka)) (hb : PE X b (tE X.K O mb kb)) (hm : behindInMarks .In b = false := by first | exact nomark _ | exact nobehind _ (by decide) (by decide) | rfl | with_unfolding_all rfl) : PT X (.Compare a [.In] [b] pos) (tT X.K O (mTr (m2 ka kb m mb dInU))) :=
  PTi (pt_cmpR (orO op_inA (orO (op_dinO hu) (op_inD hu))) ha hb hm) fun _ _ _ h => tOp_of (s_or2 s_in (s_or2 s_din s_inDD)) (tTr h)
theorem e_nin (hu : X.A.units + 65 < cLine) (ha : PE X a (tE X.K O m ka)) (hb : PE X b (tE X.K O mb kb)) (hm : behindInMarks .NotIn b = false := by first | exact nomark _ | exact nobehind _ (by decide) (by decide) | rfl | with_unfolding_all rfl) : PE X (.Compare a [.NotIn] [b] pos) (tE X.K O (m2 ka kb m mb dNinU) .fz) :=
  PEi (pe_cmpR (orO op_ninA (orO (op_dninO hu) (op_notInD hu))) ha hb hm) fun _ _ _ h => tOp_of (s_or2 s_nin (s_or2 s_din s_ninDD)) h
theorem t_nin (hu : X.A.units + 65 < cLine) (ha : PE X a (tE X.K O m ka)) (hb : PE X b (tE X.K O mb kb)) (hm : behindInMarks .NotIn b = false := by first | exact nomark _ | exact nobehind _ (by decide) (by decide) | rfl | with_unfolding_all rfl) : PT X (.Compare a [.NotIn] [b] pos) (tT X.K O (mTr (m2 ka kb m mb dNinU))) :=
  PTi (pt_cmpR (orO op_ninA (orO (op_dninO hu) (op_notInD hu))) ha hb hm) fun _ _ _ h => tOp_of (s_or2 s_nin (s_or2 s_din s_ninDD)) (tTr h)
/-! ### == -/
def dEqU := orD dEq dEqE
def dNeU := orD dNe dNeE
theorem e_eq (hu : X.A.units + 65 < cLine) (ha : PE X a (tE X.K O m ka)) (hb : PE X b (tE X.K O mb kb)) (hm : behindInMarks .Eq b = false := by first | exact nomark _ | rfl | with_unfolding_all rfl) : PE X (.Compare a [.Eq] [b] pos) (tE X.K O (m2 ka kb m mb dEqU) .fz) :=
  PEi (pe_cmpR (orO (op_eqD (by omega)) (op_eqE (by omega))) ha hb hm) fun _ _ _ h => tOp_of (s_or2 s_eq s_eqE) h
theorem t_eq (hu : X.A.units + 65 < cLine) (ha : PE X a (tE X.K O m ka)) (hb : PE X b (tE X.K O mb kb)) (hm : behindInMarks .Eq b = false := by first | exact nomark _ | rfl | with_unfolding_all rfl) : PT X (.Compare a [.Eq] [b] pos) (tT X.K O (mTr (m2 ka kb m mb dEqU))) :=
  PTi (pt_cmpR (orO (op_eqD (by omega)) (op_eqE (by omega))) ha hb hm) fun _ _ _ h => tOp_of (s_or2 s_eq s_eqE) (tTr h)
theorem e_ne (hu : X.A.units + 65 < cLine) (ha : PE X a (tE X.K O m ka)) (hb : PE X b (tE X.K O mb kb)) (hm : behindInMarks .NotEq b = false := by first | exact nomark _ | rfl | with_unfolding_all rfl) : PE X (.Compare a [.NotEq] [b] pos) (tE X.K O (m2 ka kb m mb dNeU) .fz) :=
  PEi (pe_cmpR (orO (op_neD (by omega)) (op_neE (by omega))) ha hb hm) fun _ _ _ h => tOp_of (s_or2 s_ne s_neE) h
theorem t_ne (hu : X.A.units + 65 < cLine) (ha : PE X a (tE X.K O m ka)) (hb : PE X b (tE X.K O mb kb)) (hm : behindInMarks .NotEq b = false := by first | exact nomark _ | rfl | with_unfolding_all rfl) : PT X (.Compare a [.NotEq] [b] pos) (tT X.K O (mTr (m2 ka kb m mb dNeU))) :=
  PTi (pt_cmpR (orO (op_neD (by omega)) (op_neE (by omega))) ha hb hm) fun _ _ _ h => tOp_of (s_or2 s_ne s_neE) (tTr h)
/-! ### + -/
def dAddU := orD dAdd (orD dCat (orD dCatT dAddS))
theorem e_add (ha : PE X a (tE X.K O m ka)) (hb : PE X b (tE X.K O mb kb)) : PE X (.BinOp a .Add b pos) (tE X.K O (m2 ka kb m mb dAddU) .fz) :=
  PEi (pe_op (orO op_add (orO op_catS (orO op_catA op_add_str))) ha hb) fun _ _ _ h => tOp_of (s_or2 s_add (s_or2 (s_frz s_cat) (s_or2 s_catT s_addS))) h
/-! ### list * int -/
def dRep : List D → Option D
  | [.list xs, .int k] => if -(2 ^ 63) ≤ k ∧ k < 2 ^ 63 ∧ xs.length * k.toNat ≤ 1000000 then some (.list (List.replicate k.toNat xs).flatten) else none
  | _ => none
/-- [..] * n -/
def mRep (m mb : M) : M := fun ρ => (m ρ).bind fun p => (mb p.2).bind fun q => (dRep [p.1, q.1]).map fun d => (d, q.2)
theorem RpA.rep {K : PySem.W.Frag} {F : Hp} {ds : List D} {vs : List V} (h : RpA K F ds vs) : ∀ k : Nat, RpA K F (List.replicate k ds).flatten (List.replicate k vs).flatten
  | 0 => rfl
  | k + 1 => by
    rw [List.replicate_succ, List.replicate_succ, List.flatten_cons, List.flatten_cons]
    exact h.append (RpA.rep h k)
theorem e_rep (ha : PE X a (tE X.K O m .ow)) (hb : PE X b (tE X.K O mb .fz)) : PE X (.BinOp a .Mult b pos) (tE X.K O (mRep m mb) .ow) := by
  refine PEi (pe_op op_rep ha hb) fun σ H Q ⟨F, ρ, d, ρ', ok, hm, q⟩ => ?_
  obtain ⟨⟨d1, ρ1⟩, e1, e2⟩ := bind_some hm
  obtain ⟨⟨d2, ρ2⟩, e3, e4⟩ := bind_some e2
  obtain ⟨z, e5, e6⟩ := map_some e4
  cases e6
  refine ⟨F, ρ, d1, ρ1, ok, e1, fun v F1 H1 ok1 st1 r1 => ⟨F1, ρ1, d2, ρ2, ok1, e3, fun u F2 H2 ok2 st2 r2 => ?_⟩⟩
  dsimp only at e5
  unfold dRep at e5
  split at e5
  · rename_i xs k he
    injection he with he1 he2
    injection he2 with he2 _
    subst he1 he2
    split at e5
    · rename_i hk
      cases e5
      obtain ⟨p, rfl, g1, ⟨o, g2, ys, g3, g4⟩, g5, g6, g7⟩ := r1.step st2 rfl
      subst g3
      have r2 : u = .int k := r2
      subst r2
      refine ⟨p, k, ys, rfl, rfl, g2, hk.1, hk.2.1, by rw [g4.length]; exact Nat.le_trans hk.2.2 (by decide), Post.lst (K := X.K) ok2.sub (fun v F3 H3 pu r3 => ?_) (g4.rep k.toNat)⟩
      obtain ⟨ok3, st3⟩ := ok2.pur pu
      exact q v F3 H3 ok3 ((st1.trans st2).trans st3) ((r3.rs ok2 st3).pre (st1.trans st2).toStpS)
    · cases e5
  · cases e5
/-! ### slices -/
def dSlS (d : D) (lo hi : Option Int) : Option D := match d with
  | .str z => if z.length ≤ 100000 then some (.str (cutS z lo hi)) else none
  | _ => none
theorem sl_s {K : PySem.W.Frag} : SlSem K rSlS dSlS .fz := by
  intro F H d v lo hi z Q s hv ho q
  unfold dSlS at ho
  split at ho
  · rename_i x
    split at ho
    · rename_i hx
      cases ho
      have hv : v = .str x := hv
      exact ⟨x, hv, Nat.le_trans hx (by decide), q.now s rfl⟩
    · cases ho
  · cases ho
def orS (f g : D → Option Int → Option Int → Option D) : D → Option Int → Option Int → Option D := fun d lo hi => match f d lo hi with
  | some z => some z
  | none => g d lo hi
theorem sl_or {K : PySem.W.Frag} {k : Ak} {r r' : V → Option Int → Option Int → Hp → VK → Prop} {f g : D → Option Int → Option Int → Option D} (h : SlSem K r f k) (h' : SlSem K r' g k) : SlSem K (fun x lo hi H Q => r x lo hi H Q ∨ r' x lo hi H Q) (orS f g) k := by
  intro F H d v lo hi z Q s hv ho q
  unfold orS at ho
  split at ho
  · rename_i z e
    cases ho
    exact .inl (h F H d v lo hi _ Q s hv e q)
  · exact .inr (h' F H d v lo hi z Q s hv ho q)
theorem sl_frz {K : PySem.W.Frag} {r : V → Option Int → Option Int → Hp → VK → Prop} {f : D → Option Int → Option Int → Option D} (h : SlSem K r f .ow) : SlSem K r f .fz := fun F H d v lo hi z Q s hv ho q => h F H d v lo hi z Q s hv ho (q.frz s)
def dSlU := orS dSlL (orS dSlT dSlS)
theorem e_slU {lo hi : Option Expr} {ml mh : MO} (he : PE X e (tE X.K O m ka)) (h1 : PO X lo (tO X.K O ml)) (h2 : PO X hi (tO X.K O mh)) : PE X (.Subscript e (.Slice lo hi none p) pos) (tE X.K O (mSl ka m ml mh dSlU) .fz) :=
  e_sl (SlR.or sl_list (SlR.or sl_tupA sl_str)) (sl_or (sl_frz sl_l) (sl_or sl_t sl_s)) he h1 h2
/-! ### what is walked: a list, a tuple, a text -/
def mItU (m : M) : MI := fun ρ => (m ρ).bind fun p => match p.1 with
  | .list ds => some (ds, p.2)
  | .tuple ds => some (ds, p.2)
  | .str x => some (signs x, p.2)
  | _ => none
theorem i_any {tg : Expr} (h : PE X e (tE X.K O m .fz)) : PI X tg e (tI X.K O L (mItU m)) := by
  refine PIi (PI.or (i_seq (L := L) h) (i_str (L := L) h)) fun σ H R ⟨F, ρ, ds, ρ', ok, hm, q⟩ => ?_
  obtain ⟨⟨d, ρ1⟩, e1, e3⟩ := bind_some hm
  cases d <;> cases e3
  · exact .inr ⟨F, ρ, _, ρ1, ok, by unfold mItStr; rw [e1]; rfl, q⟩
  · exact .inl ⟨F, ρ, _, ρ1, ok, by unfold mItS; rw [e1]; rfl, q⟩
  · exact .inl ⟨F, ρ, _, ρ1, ok, by unfold mItS; rw [e1]; rfl, q⟩
/-! ### len, dicts too -/
def dLenD : List D → Option D
  | [.dict kvs] => some (.int kvs.length)
  | _ => none
theorem call_lenR : CallR X (.builtin "len") (fun xs H Q => ∃ a kvs, xs = [V.ref a] ∧ Rd H a (.dK kvs) ∧ Q (.int kvs.length) H) := by
  intro pins s σ H xs us Q I r h
  obtain ⟨a, kvs, rfl, ha, q⟩ := h
  obtain ⟨u, rfl, ru⟩ := L2.vals1 r
  cases ru
  exact d_len I ha fun t s' I' => ⟨.int kvs.length, H, I', ⟨t, rfl⟩, q⟩
theorem s_lenD {K : PySem.W.Frag} : LSem K (fun xs H Q => ∃ a kvs, xs = [V.ref a] ∧ Rd H a (.dK kvs) ∧ Q (.int kvs.length) H) dLenD .fz := by
  intro F H ds vs d Q s hv ho q
  unfold dLenD at ho
  split at ho
  · cases ho
    obtain ⟨v, rfl, h⟩ := hv.one
    obtain ⟨a, ws, rfl, h1, h2⟩ := vw_dict h
    refine ⟨a, ws, rfl, h1, q.now s ?_⟩
    rw [h2.length]
    rfl
  · cases ho
def dLenU := orD dLen dLenD
theorem orC {X : Cx} {f : Value} {r r' : List V → Hp → VK → Prop} (h : CallR X f r) (h' : CallR X f r') : CallR X f (fun vs H Q => r vs H Q ∨ r' vs H Q) := fun pins s σ H xs us Q I rv q => q.elim (h pins s σ H xs us Q I rv) (h' pins s σ H xs us Q I rv)
theorem e_lenU (B : Bt X.mg) {ma : MA} {ks : List Ak} (ha : PA X [a] (tA X.K O ma ks)) (hg : Gl X "len" := by rfl) (he : starEach [a] X.env = (false, eval a X.env) :: starEach [] X.env := by rfl) (hpl : (backTo pos (starEach [] X.env)).any (·.1) = false := by rfl) : PE X (.Call (.Name "len" p) [a] [] pos) (tE X.K O (mOp ks ma dLenU) .fz) :=
  e_blt (orC call_len call_lenR) (s_or s_len s_lenD) B.len (by decide +kernel) ha hg (by decide) (by decide) he hpl
end
end DL

/-! EI8: xs[i] = v of a list or a dict; // of any numbers; is True, is False. -/
namespace DL
open PySem PySem.Spec PyProof.Rows L2

theorem orSet {X : Cx} {t t' : TSet} (h : PSet X t) (h' : PSet X t') : PSet X (fun o i v H Q => t o i v H Q ∨ t' o i v H Q) := fun pins s σ H o i v ov iv u Q I ro ri rv q => q.elim (h pins s σ H o i v ov iv u Q I ro ri rv) (h' pins s σ H o i v ov iv u Q I ro ri rv)
/-- o[x] = d as a function on the content -/
def putU (c x d : D) : Option D := match c with
  | .list ds => (match x with
    | .int j => (ixN ds.length j).map fun n => .list (ds.set n d)
    | _ => none)
  | .dict kvs => if kvs.length < 1000000 then (dKey x).map fun k => .dict (putD' k d kvs) else none
  | _ => none
def mPutU (i : Nat) (mi mv : M) : MS := fun ρ => (mv ρ).bind fun p => (mBr i p.2).bind fun _ => (mi p.2).bind fun q => match q.2[i]? with
  | some (some c) => (putU c q.1 p.1).map fun z => (.nx, q.2.set i (some z))
  | _ => none
section
variable {X : Cx} {O : List Kd} {pos : Pos} {e o ix : Expr} {spos : Pos}
theorem putU_go {i : Nat} {k0 : Kd} {c x d z : D} {F3 H3 : Hp} {σ : L2.St} {ρ3 : En} {iv v : V} {pp : Addr} {Q : Hp → Prop} (k1 : O[i]? = some k0) (k2 : k0.own = true) (kl : k0.lock = false) (ok3 : Ok X.K O ⟨F3, H3, σ, ρ3⟩) (g2 : ρ3[i]? = some (some c)) (y1 : sv O H3 σ i = some (some (.ref pp)))
    (r3 : Rp X.K F3 x iv) (rv : Rp X.K F3 d v) (hz : putU c x d = some z) (q : ∀ H', Ok X.K O ⟨F3, H', σ, ρ3.set i (some z)⟩ → Stp O ⟨F3, H3, σ, ρ3⟩ ⟨F3, H', σ, ρ3.set i (some z)⟩ → Q H') : rSetL (.ref pp) iv v H3 Q ∨ rSetD (.ref pp) iv v H3 Q := by
  obtain ⟨p2, y2, y3, oo, y4, y5⟩ := ok3.ow i k0 _ k1 k2 g2
  have y2 : sv O H3 σ i = some (some (.ref p2)) := y2
  rw [y1] at y2
  cases y2
  cases c <;> first | (cases hz; done) | skip
  · rename_i ds
    cases x <;> first | (cases hz; done) | skip
    rename_i j
    obtain ⟨n, g3, rfl⟩ := map_some hz
    obtain ⟨xs, y6, y7⟩ := y5
    subst y6
    have r3 : iv = .int j := r3
    subst r3
    obtain ⟨z1, z2⟩ := ok3.chg (o := .lst (xs.set n v)) (d := .list (ds.set n d)) k1 k2 kl g2 y1 y3 ⟨_, rfl, y7.set rv n⟩
    exact .inl ⟨pp, xs, j, n, rfl, rfl, y4, by rw [y7.length]; exact g3, q _ z1 z2⟩
  · rename_i kvs
    have hz : (if kvs.length < 1000000 then (dKey x).map fun k => PyData.dict (putD' k d kvs) else none) = some z := hz
    split at hz
    · rename_i hlen
      obtain ⟨k, g3, rfl⟩ := map_some hz
      obtain ⟨xs, y6, y7⟩ := y5
      subst y6
      have r3 : iv = kV k := dKey_rp g3 (Rp.vw (H := H3) ok3.sub r3)
      subst r3
      obtain ⟨z1, z2⟩ := ok3.chg (o := .dK (putK xs k v)) (d := .dict (putD' k d kvs)) k1 k2 kl g2 y1 y3 ⟨_, rfl, y7.put rv⟩
      exact .inr ⟨pp, _, rfl, .inl ⟨xs, k, y4, rfl, by rw [y7.length]; exact Nat.lt_of_lt_of_le hlen (by decide), rfl⟩, q _ z1 z2⟩
    · cases hz
theorem s_putU (i : Nat) {mi mv : M} {r : Ak} (hu : X.A.units + 65 < cLine) (hO : mutK O[i]? = true) (ho : PE X o (tE X.K O (mBr i) (.br i))) (hi : PE X ix (tE X.K O mi .fz)) (he : PE X e (tE X.K O mv .fz)) (hs : swapsWithSole [.Subscript o ix spos] e pos.line X.env = pure false := by rfl)
    (hw : swappedStores [.Subscript o ix spos] e X.env = pure none := by rfl) (h1 : (assignEach [.Subscript o ix spos] X.env).map (·.2) = [assign (.Subscript o ix spos) X.env] := by rfl)
    (ha : ∀ v, assign (.Subscript o ix spos) X.env v = (do
      let ov ← holding [v] (eval o X.env)
      let iv ← holding [v, ov] (eval ix X.env)
      standAt spos
      holding [v, ov, iv] (setItem ov iv v)
      release [v, ov, iv] []) := by intro _; rfl) : PS X (.Assign [.Subscript o ix spos] e pos) (tS X.K O (mPutU i mi mv) r) := by
  refine PSi (ps_asg he (pg_sub ho hi (orSet set_list (set_dict (by omega))) ha) hs hw h1) fun Dn σ H ⟨F, ρ, fl, ρ', ok, hm, q⟩ => ?_
  obtain ⟨⟨d1, ρ1⟩, e1, e2⟩ := bind_some hm
  obtain ⟨⟨d2, ρ2⟩, e3, e4⟩ := bind_some e2
  obtain ⟨⟨d3, ρ3⟩, e5, e6⟩ := bind_some e4
  obtain ⟨c, g2, e7⟩ := slot_some e6
  obtain ⟨z, g3, g4⟩ := map_some e7
  cases g4
  have hρ : ρ2 = ρ1 := by
    obtain ⟨_, _, z⟩ := slot_some e3
    cases z
    rfl
  subst hρ
  refine ⟨F, ρ, d1, ρ2, ok, e1, fun v F1 H1 ok1 st1 r1 => ?_⟩
  refine ⟨F1, ρ2, d2, ρ2, ok1, e3, fun o F2 H2 ok2 st2 r2 => ?_⟩
  refine ⟨F2, ρ2, d3, ρ3, ok2, e5, fun iv F3 H3 ok3 st3 r3 => ?_⟩
  have go := (st1.trans st2).trans st3
  obtain ⟨r2, k0, k1, k2⟩ := r2.step st3 rfl
  obtain ⟨pp, y1, _⟩ := ok3.ow i k0 _ k1 k2 g2
  rw [y1] at r2
  cases r2
  have kl : k0.lock = false := by
    rw [k1] at hO
    cases k0 <;> first | rfl | cases hO
  exact putU_go (X := X) k1 k2 kl ok3 g2 y1 r3 (Rp.mono (st2.trans st3).ex _ _ r1) g3 fun H' z1 z2 => q σ F3 H' z1 (go.trans z2)
end
/-! ### // -/
def CDivX (_ j : Int) : Prop := j ≠ 0 ∧ j.natAbs.log2 < 9000
theorem op_fdivX {X : Cx} : OpR X (binaryOp .FloorDiv) (rI CDivX fun i j => .int (i.fdiv j)) := L2.opI fun _ _ _ _ _ _ _ hc q => floordiv_int hc.1 q (.inl (PyProof.noPylong_of_log2 hc.2))
def dDivX := opIc (fun i j => decide (j ≠ 0 ∧ j.natAbs.log2 < 9000)) fun i j => .int (i.fdiv j)
theorem s_divX {K : PySem.W.Frag} : LSem K (rL2 (rI CDivX fun i j => .int (i.fdiv j))) dDivX .fz := sIc (fun i j h => of_decide_eq_true (p := j ≠ 0 ∧ j.natAbs.log2 < 9000) h) fun _ _ _ => rfl
/-! ### is True, is False -/
def rIsBA (neg : Bool) : R2 := fun x y H Q => ∃ b : Bool, y = .bl b ∧ Q (.bl (if neg then !decide (x = .bl b) else decide (x = .bl b))) H
theorem op_isB {X : Cx} : OpR X (compareOp .Is) (rIsBA false) := by
  intro pins s σ H x y v u Q I rx ry h
  obtain ⟨b, rfl, q⟩ := h
  cases (show u = Value.bool b from ry)
  by_cases e : x = .bl b
  · subst e
    cases (show v = Value.bool b from rx)
    exact wpAny_is_self rfl ⟨.bl true, H, I, rfl, by simpa using q⟩
  · have q2 : Q (.bl false) H := by simpa [e] using q
    clear q
    have q := q2
    clear q2
    cases x with
    | non => cases (show v = Value.none from rx); exact wpAny_is_other rfl (fun z => by cases z) ⟨.bl false, H, I, rfl, q⟩
    | bl c =>
      cases (show v = Value.bool c from rx)
      exact wpAny_is_other rfl (fun z => by cases z; exact e rfl) ⟨.bl false, H, I, rfl, q⟩
    | int c => obtain ⟨t, rfl⟩ := (show ∃ t, v = Value.int c t from rx); exact wpAny_is_other rfl (fun z => by cases z) ⟨.bl false, H, I, rfl, q⟩
    | str c => obtain ⟨t, rfl⟩ := (show ∃ t, v = Value.str c t from rx); exact wpAny_is_other rfl (fun z => by cases z) ⟨.bl false, H, I, rfl, q⟩
    | byt c => obtain ⟨t, rfl⟩ := (show ∃ t, v = Value.bytes c t from rx); exact wpAny_is_other rfl (fun z => by cases z) ⟨.bl false, H, I, rfl, q⟩
    | flt c => obtain ⟨t, rfl⟩ := (show ∃ t, v = Value.float c t from rx); exact wpAny_is_other rfl (fun z => by cases z) ⟨.bl false, H, I, rfl, q⟩
    | ref c => cases (show v = Value.ref c from rx); exact wpAny_is_other rfl (fun z => by cases z) ⟨.bl false, H, I, rfl, q⟩
    | ty c => cases (show v = Value.type c from rx); exact wpAny_is_other rfl (fun z => by cases z) ⟨.bl false, H, I, rfl, q⟩
def dIsB : List D → Option D
  | [d, .bool b] => some (.bool (match d with | .bool c => decide (c = b) | _ => false))
  | _ => none
theorem vw_bl {K : PySem.W.Frag} {F H : Hp} {b : Bool} : ∀ {d : D} {v : V}, Vw K F H d v → decide (v = V.bl b) = (match d with | .bool c => decide (c = b) | _ => false)
  | .none, _, h => by
    rw [show _ = V.non from h]
    rfl
  | .bool c, _, h => by
    rw [show _ = V.bl c from h]
    by_cases e : c = b <;> simp [e]
  | .int i, _, h => by
    rw [show _ = V.int i from h]
    rfl
  | .str x, _, h => by
    rw [show _ = V.str x from h]
    rfl
  | .list ds, _, ⟨a, xs, e, _⟩ => by
    rw [e]
    rfl
  | .tuple ds, _, ⟨a, xs, e, _⟩ => by
    rw [e]
    rfl
  | .dict ds, _, ⟨a, xs, e, _⟩ => by
    rw [e]
    rfl
theorem s_isB {K : PySem.W.Frag} : LSem K (rL2 (rIsBA false)) dIsB .fz := by
  intro F H ds vs d Q s hv ho q
  unfold dIsB at ho
  split at ho
  · rename_i a b
    cases ho
    obtain ⟨v, u, e, h1, h2⟩ := hv.two
    refine ⟨v, u, e, b, h2, q.now s ?_⟩
    show V.bl (decide (v = V.bl b)) = V.bl _
    rw [vw_bl h1]
  · cases ho
theorem hu65 {k : Nat} {A : Around} (r : Room k A) : A.units + 65 < cLine := by
  have := r.un
  omega
end DL

/-! EJ1: a, b = x, y; abs. -/
namespace DL
open PySem PySem.Spec PyProof.Rows L2

def mPar (i j : Nat) (ma : MA) : MS := fun ρ => (ma ρ).bind fun p => match p.1 with
  | [d1, d2] => some (.nx, (p.2.set i (some d1)).set j (some d2))
  | _ => none
section
variable {X : Cx} {O : List Kd} {pos : Pos} {r : Ak}
theorem s_par (i j : Nat) {x y : Str} {a b : Expr} {ma : MA} {px py pt : Pos} {kt k2 pt2} (hN : X.N.Nodup) (ha : PA X [a, b] (tA X.K O ma [.fz, .fz])) (hOi : O[i]? = some Kd.fz := by rfl) (hOj : O[j]? = some Kd.fz := by rfl) (hli : i < nl O := by decide) (hlj : j < nl O := by decide)
    (h0i : hasO O = false ∨ i ≠ oi O := by decide) (h0j : hasO O = false ∨ j ≠ oi O := by decide) (hc : X.calm = true := by rfl) (hi : X.N[i]? = some x := by rfl) (hj : X.N[j]? = some y := by rfl) (hij : i ≠ j := by decide)
    (hx : X.env.scope.names.lookup x = some .local := by rfl) (hy : X.env.scope.names.lookup y = some .local := by rfl)
    (hw : swappedStores [.Tuple [.Name x px, .Name y py] kt pt] (.Tuple [a, b] k2 pt2) X.env = pure (some [x, y]) := by rfl)
    (hs : swapsWithSole [.Tuple [.Name x px, .Name y py] kt pt] (.Tuple [a, b] k2 pt2) pos.line X.env = pure false := by rfl) :
    PS X (.Assign [.Tuple [.Name x px, .Name y py] kt pt] (.Tuple [a, b] k2 pt2) pos) (tS X.K O (mPar i j ma) r) := by
  refine PSi (ps_par hc hN hi hj hij hx hy ha hw hs) fun Dn σ H ⟨F, ρ, fl, ρ', ok, hm, q⟩ => ?_
  obtain ⟨⟨ds, ρ1⟩, e1, e2⟩ := bind_some hm
  match ds, e1, e2 with
  | [d1, d2], e1, e2 =>
    cases e2
    refine ⟨F, ρ, _, ρ1, ok, e1, fun vs F1 H1 ok1 st1 r1 => ?_⟩
    obtain ⟨g1, g2⟩ := r1.fz rfl
    obtain ⟨v, vs1, rfl, rv, g3⟩ := g1
    obtain ⟨w, vs2, rfl, rw1, g4⟩ := g3
    have g4 : vs2 = [] := g4
    subst g4
    refine ⟨v, w, rfl, ?_⟩
    obtain ⟨h1, s1⟩ := ok1.setFz hOi hli h0i rv
    obtain ⟨h2, s2⟩ := h1.setFz hOj hlj h0j rw1
    exact q _ F1 H1 h2 ((st1.trans s1).trans s2)
end
def dAbs : List D → Option D
  | [.int i] => some (.int (if i < 0 then -i else i))
  | _ => none
theorem s_abs {K : PySem.W.Frag} : LSem K (fun xs H Q => ∃ i, xs = [.int i] ∧ Q (.int (if i < 0 then -i else i)) H) dAbs .fz := by
  intro F H ds vs d Q s hv ho q
  unfold dAbs at ho
  split at ho
  · rename_i i
    cases ho
    obtain ⟨v, rfl, h1⟩ := hv.one
    have h1 : v = .int i := h1
    subst h1
    exact ⟨i, rfl, q.now s rfl⟩
  · cases ho
section
variable {X : Cx} {O : List Kd} {pos p : Pos} {a : Expr} {ma : MA} {ks : List Ak}
theorem e_abs (B : Bt X.mg) (ha : PA X [a] (tA X.K O ma ks)) (hg : Gl X "abs" := by rfl) (he : starEach [a] X.env = (false, eval a X.env) :: starEach [] X.env := by rfl) (hpl : (backTo pos (starEach [] X.env)).any (·.1) = false := by rfl) : PE X (.Call (.Name "abs" p) [a] [] pos) (tE X.K O (mOp ks ma dAbs) .fz) :=
  e_blt call_abs s_abs B.abs (by decide +kernel) ha hg (by decide) (by decide) he hpl
end
/-! ### a frozen slot that holds an owned list for the rest of a block -/
def mTh (i : Nat) (m : MS) : MS := fun ρ => (m (ρ.set i none)).map fun p => (p.1, p.2.set i none)
theorem ss_thw {X : Cx} {O : List Kd} (i : Nat) {rest : List Stmt} {mm : MS} {r : Ak} (h : PSs X rest (tS X.K (O.set i .ow) mm r)) (hO : O[i]? = some Kd.fz := by rfl) (hr : ∀ j, r ≠ .br j := by exact fun _ z => by cases z) (n1 : hasO O = false := by rfl) (n2 : hasO (O.set i .ow) = false := by rfl) : PSs X rest (tS X.K O (mTh i mm) r) := by
  refine PSsi h fun Dn σ H ⟨F, ρ, fl, ρ', ok, hm, q⟩ => ?_
  obtain ⟨⟨f, ρ1⟩, e1, e2⟩ := map_some hm
  cases e2
  have hil : i < O.length := (List.getElem?_eq_some_iff.mp hO).1
  have getne : ∀ {j : Nat}, j ≠ i → (O.set i Kd.ow)[j]? = O[j]? := fun {j} h => List.getElem?_set_ne fun z => h z.symm
  have sub : ∀ {j : Nat} {pp : Addr}, OwnAt (O.set i .ow) ⟨F, H, σ, ρ.set i none⟩ j pp → j ≠ i ∧ OwnAt O ⟨F, H, σ, ρ⟩ j pp := fun {j pp} h => by
    obtain ⟨⟨k, d, h1, h2, h3, h4⟩, hj⟩ := own_unset (F := F) (H := H) pp j h
    exact ⟨hj, k, d, by rw [← getne hj]; exact h1, h2, h3, (sv_set_no n1 n2).symm.trans h4⟩
  have sup : ∀ {F' H' : Hp} {σ' : L2.St} {ρ'' : En} {j : Nat} {pp : Addr}, OwnAt O ⟨F', H', σ', ρ''.set i none⟩ j pp → OwnAt (O.set i .ow) ⟨F', H', σ', ρ''⟩ j pp := fun {F' H' σ' ρ'' j pp} h => by
    obtain ⟨⟨k, d, h1, h2, h3, h4⟩, hj⟩ := own_unset (F := F') (H := H') pp j h
    exact ⟨k, d, by rw [getne hj]; exact h1, h2, h3, (sv_set_no n1 n2).trans h4⟩
  have ok1 : Ok X.K (O.set i .ow) ⟨F, H, σ, ρ.set i none⟩ := by
    refine ⟨ok.sub, by rw [nl_set n1 n2]; exact ok.ls, by show (ρ.set i none).length = (O.set i Kd.ow).length; rw [List.length_set, List.length_set]; exact ok.lr, fun j d h1 h2 => ?_, fun j k d h1 h2 h3 => ?_, fun j j' pp h1 h2 => ok.ap j j' pp (sub h1).2 (sub h2).2, fun e => by rw [n2] at e; cases e⟩
    · rcases set_get (show (ρ.set i none)[j]? = _ from h2) with ⟨_, y⟩ | ⟨y, y2⟩
      · cases y
      · obtain ⟨v, g1, g2⟩ := ok.fz j d (by rw [← getne fun z => y z.symm]; exact h1) y2
        exact ⟨v, (sv_set_no n1 n2).trans g1, g2⟩
    · rcases set_get (show (ρ.set i none)[j]? = _ from h3) with ⟨_, y⟩ | ⟨y, y2⟩
      · cases y
      · obtain ⟨pp, g1, g2⟩ := ok.ow j k d (by rw [← getne fun z => y z.symm]; exact h1) h2 y2
        exact ⟨pp, (sv_set_no n1 n2).trans g1, g2⟩
  have fin : ∀ {σ' : L2.St} {F' H' : Hp}, Ok X.K (O.set i .ow) ⟨F', H', σ', ρ1⟩ → StpS (O.set i .ow) ⟨F, H, σ, ρ.set i none⟩ ⟨F', H', σ', ρ1⟩ → Ok X.K O ⟨F', H', σ', ρ1.set i none⟩ ∧ StpS O ⟨F, H, σ, ρ⟩ ⟨F', H', σ', ρ1.set i none⟩ := fun {σ' F' H'} ok' st => by
    have fpn : ∀ {bb : Addr}, ¬ Fp O ⟨F, H, σ, ρ⟩ bb → ¬ Fp (O.set i .ow) ⟨F, H, σ, ρ.set i none⟩ bb := fun {bb} z ⟨j, h⟩ => z ⟨j, (sub h).2⟩
    have nei : ∀ {j : Nat} {k : Kd}, O[j]? = some k → (k.pin = true ∨ k.lock = true) → j ≠ i := fun {j k} h1 h2 z => by
      subst z
      rw [hO] at h1
      cases h1
      rcases h2 with h2 | h2 <;> cases h2
    refine ⟨⟨ok'.sub, ?_, ?_, fun j d h1 h2 => ?_, fun j k d h1 h2 h3 => ?_, fun j j' pp h1 h2 => ok'.ap j j' pp (sup h1) (sup h2), fun e => by rw [n1] at e; cases e⟩,
      ⟨st.ex, fun bb o h z _ => st.kp bb o h (fpn z) (fun e => by rw [n2] at e; cases e), fun bb o h z f => st.nw bb o h (fpn z) f, fun bb ⟨j, h⟩ => ?_, fun j k h1 h2 => ?_, fun j k h1 h2 => ?_, fun j k pp d h1 h2 h3 h4 => ?_, fun e => by rw [n1] at e; cases e⟩⟩
    · have z : σ'.length = _ := ok'.ls
      rw [nl_set n1 n2] at z
      exact z
    · have z : ρ1.length = _ := ok'.lr
      rw [List.length_set] at z
      show (ρ1.set i none).length = _
      rw [List.length_set]
      exact z
    · rcases set_get (show (ρ1.set i none)[j]? = _ from h2) with ⟨_, y⟩ | ⟨y, y2⟩
      · cases y
      · obtain ⟨v, g1, g2⟩ := ok'.fz j d (by rw [getne fun z => y z.symm]; exact h1) y2
        exact ⟨v, (sv_set_no n1 n2).symm.trans g1, g2⟩
    · rcases set_get (show (ρ1.set i none)[j]? = _ from h3) with ⟨_, y⟩ | ⟨y, y2⟩
      · cases y
      · obtain ⟨v, g1, g2⟩ := ok'.ow j k d (by rw [getne fun z => y z.symm]; exact h1) h2 y2
        exact ⟨v, (sv_set_no n1 n2).symm.trans g1, g2⟩
    · rcases st.fp bb ⟨j, sup h⟩ with ⟨j', z⟩ | z
      · exact .inl ⟨j', (sub z).2⟩
      · exact .inr z
    · have hj := nei h1 (.inl h2)
      exact (sv_set_no n1 n2).symm.trans ((st.pn j k (by rw [getne hj]; exact h1) h2).trans (sv_set_no n1 n2))
    · have hj := nei h1 (.inr h2)
      show (ρ1.set i none)[j]? = _
      rw [List.getElem?_set_ne fun z => hj z.symm]
      have e := st.lk j k (by rw [getne hj]; exact h1) h2
      have e2 : (ρ.set i none)[j]? = ρ[j]? := List.getElem?_set_ne fun z => hj z.symm
      exact e.trans e2
    · have hj := nei h1 (.inr h2)
      have e2 : (ρ.set i none)[j]? = ρ[j]? := List.getElem?_set_ne fun z => hj z.symm
      exact st.lo j k pp d (by rw [getne hj]; exact h1) h2 (e2.trans h3) ((sv_set_no n1 n2).trans h4)
  refine ⟨F, ρ.set i none, f, ρ1, ok1, e1, ?_⟩
  cases f with
  | nx => exact fun σ' F' H' ok' st => q σ' F' H' (fin ok' st).1 (fin ok' st).2
  | bk => exact fun σ' F' H' ok' st => q σ' F' H' (fin ok' st).1 (fin ok' st).2
  | ct => exact fun σ' F' H' ok' st => q σ' F' H' (fin ok' st).1 (fin ok' st).2
  | rt d =>
    intro v σ' F' H' ok' st rs
    refine q v σ' F' H' (fin ok' st).1 (fin ok' st).2 ?_
    cases r with
    | fz => exact rs
    | ow =>
      obtain ⟨pp, ee, g1, g2, g3, g4, _⟩ := rs
      refine ⟨pp, ee, g1, g2, fun ⟨j, z⟩ => g3 ⟨j, sup z⟩, ?_, fun e => by rw [n1] at e; cases e⟩
      rcases g4 with ⟨j, z⟩ | z
      · exact .inl ⟨j, (sub z).2⟩
      · exact .inr z
    | br j => exact (hr j rfl).elim
end DL

/-! DW1: what a text computes, reasoned about: W m Q says that m answers and the answer keeps Q. -/
namespace DL
open PySem PySem.Spec PyProof.Rows L2

def W {α : Type} (m : Option (α × En)) (Q : α → En → Prop) : Prop := ∃ a ρ, m = some (a, ρ) ∧ Q a ρ
section
variable {α β : Type} {m : Option (α × En)} {Q R : α → En → Prop} {ρ : En} {i : Nat} {d : D}
theorem W.mono (h : W m Q) (k : ∀ a ρ, Q a ρ → R a ρ) : W m R := by
  obtain ⟨a, ρ, e, q⟩ := h
  exact ⟨a, ρ, e, k a ρ q⟩
/-- the aim held apart -/
theorem W_hold (h : ∀ K : α → En → Prop, (∀ a ρ, Q a ρ → K a ρ) → W m K) : W m Q := h Q fun _ _ q => q
@[simp] theorem W_some {a : α} : W (some (a, ρ)) Q ↔ Q a ρ := ⟨fun ⟨_, _, e, q⟩ => by cases e; exact q, fun q => ⟨a, ρ, rfl, q⟩⟩
@[simp] theorem W_none : W (none : Option (α × En)) Q ↔ False := ⟨fun ⟨_, _, e, _⟩ => by (cases e), False.elim⟩
theorem W_bind {f : α × En → Option (β × En)} {R : β → En → Prop} : W (m.bind f) R ↔ W m fun a ρ => W (f (a, ρ)) R := by
  constructor
  · rintro ⟨b, ρ', e, q⟩
    obtain ⟨⟨a, ρ1⟩, e1, e2⟩ := Option.bind_eq_some_iff.mp e
    exact ⟨a, ρ1, e1, b, ρ', e2, q⟩
  · rintro ⟨a, ρ1, e1, b, ρ', e2, q⟩
    exact ⟨b, ρ', by rw [e1]; exact e2, q⟩
theorem W_map {f : α × En → β × En} {R : β → En → Prop} : W (m.map f) R ↔ W m fun a ρ => R (f (a, ρ)).1 (f (a, ρ)).2 := by
  constructor
  · rintro ⟨b, ρ', e, q⟩
    obtain ⟨⟨a, ρ1⟩, e1, e2⟩ := Option.map_eq_some_iff.mp e
    exact ⟨a, ρ1, e1, by show R (f (a, ρ1)).1 (f (a, ρ1)).2; rw [e2]; exact q⟩
  · rintro ⟨a, ρ1, e1, q⟩
    exact ⟨_, _, by rw [e1]; rfl, q⟩
theorem W_eq {a : α} {ρ' : En} (e : m = some (a, ρ')) : W m Q ↔ Q a ρ' := by rw [e, W_some]
theorem W_ite {c : Prop} [Decidable c] {a b : Option (α × En)} : W (if c then a else b) Q ↔ if c then W a Q else W b Q := by
  split <;> rfl
/-- a slot that is read -/
def at? (ρ : En) (i : Nat) : Option D := (ρ[i]?).join
@[simp] theorem at_nil : at? [] i = none := rfl
@[simp] theorem at_zero {x : Option D} : at? (x :: ρ) 0 = x := rfl
@[simp] theorem at_succ {x : Option D} : at? (x :: ρ) (i + 1) = at? ρ i := rfl
end
section
variable {Q : D → En → Prop} {QT : Bool → En → Prop} {QA : List D → En → Prop} {QS : Fl → En → Prop} {ρ : En} {i : Nat} {d : D}
theorem slot_at : (∃ d, ρ[i]? = some (some d) ∧ Q d ρ) ↔ ∃ d, at? ρ i = some d ∧ Q d ρ := by
  unfold at?
  cases h : ρ[i]? with
  | none => simp
  | some o => simp
@[simp] theorem W_var : W (mVar i ρ) Q ↔ ∃ d, at? ρ i = some d ∧ Q d ρ := by
  unfold mVar at?
  cases h : ρ[i]? with
  | none => simp
  | some o => cases o <;> simp
@[simp] theorem W_mv : W (mMv i ρ) Q ↔ ∃ d, at? ρ i = some d ∧ Q d (ρ.set i none) := by
  unfold mMv at?
  cases h : ρ[i]? with
  | none => simp
  | some o => cases o <;> simp
@[simp] theorem W_br : W (mBr i ρ) Q ↔ ∃ d, at? ρ i = some d ∧ Q .none ρ := by
  unfold mBr at?
  cases h : ρ[i]? with
  | none => simp
  | some o => cases o <;> simp
@[simp] theorem W_C : W (mC d ρ) Q ↔ Q d ρ := W_some
@[simp] theorem W_aNil : W (maNil ρ) QA ↔ QA [] ρ := W_some
@[simp] theorem W_aCons {m : M} {r : MA} : W (maCons m r ρ) QA ↔ W (m ρ) fun d ρ1 => W (r ρ1) fun ds ρ2 => QA (d :: ds) ρ2 := by
  unfold maCons
  rw [W_bind]
  simp only [W_bind, W_some]
@[simp] theorem W_op {ks : List Ak} {ma : MA} {op : List D → Option D} : W (mOp ks ma op ρ) Q ↔ W (ma ρ) fun ds ρ1 => ∃ es, fill ks ds ρ1 = some es ∧ ∃ z, op es = some z ∧ Q z ρ1 := by
  unfold mOp
  rw [W_bind]
  refine ⟨fun h => h.mono fun ds ρ1 ⟨a, ρ', e, q⟩ => ?_, fun h => h.mono fun ds ρ1 ⟨es, e1, z, e2, q⟩ => ?_⟩
  · obtain ⟨es, e1, e2⟩ := Option.bind_eq_some_iff.mp e
    obtain ⟨z, e3, e4⟩ := Option.map_eq_some_iff.mp e2
    cases e4
    exact ⟨es, e1, _, e3, q⟩
  · exact ⟨z, ρ1, by rw [e1]; show (op es).map _ = _; rw [e2]; rfl, q⟩
@[simp] theorem W_m1 {k : Ak} {m : M} {op : List D → Option D} : W (m1 k m op ρ) Q ↔ W (m ρ) fun d ρ1 => ∃ es, fill [k] [d] ρ1 = some es ∧ ∃ z, op es = some z ∧ Q z ρ1 := by
  unfold m1
  simp only [W_op, W_aCons, W_aNil]
@[simp] theorem W_m2 {k k2 : Ak} {m m' : M} {op : List D → Option D} : W (m2 k k2 m m' op ρ) Q ↔ W (m ρ) fun d ρ1 => W (m' ρ1) fun d' ρ2 => ∃ es, fill [k, k2] [d, d'] ρ2 = some es ∧ ∃ z, op es = some z ∧ Q z ρ2 := by
  unfold m2
  simp only [W_op, W_aCons, W_aNil]
@[simp] theorem fill_nil : fill [] [] ρ = some [] := rfl
@[simp] theorem fill_fz {ks : List Ak} {ds : List D} : fill (.fz :: ks) (d :: ds) ρ = (fill ks ds ρ).map (d :: ·) := rfl
@[simp] theorem fill_ow {ks : List Ak} {ds : List D} : fill (.ow :: ks) (d :: ds) ρ = (fill ks ds ρ).map (d :: ·) := rfl
@[simp] theorem fill_br {ks : List Ak} {ds : List D} : fill (.br i :: ks) (d :: ds) ρ = (at? ρ i).bind fun d => (fill ks ds ρ).map (d :: ·) := by
  unfold at?
  show (match ρ[i]? with | some (some d) => _ | _ => none) = _
  cases h : ρ[i]? with
  | none => rfl
  | some o => cases o <;> rfl
@[simp] theorem W_tr {m : M} : W (mTr m ρ) QT ↔ W (m ρ) fun d ρ1 => ∃ b, d = .bool b ∧ QT b ρ1 := by
  unfold mTr
  rw [W_bind]
  refine ⟨fun h => h.mono fun d ρ1 q => ?_, fun h => h.mono fun d ρ1 ⟨b, e, q⟩ => by rw [e]; exact W_some.mpr q⟩
  cases d <;> first | exact ⟨_, rfl, W_some.mp q⟩ | exact (W_none.mp q).elim
@[simp] theorem W_and {a b : MT} : W (mAnd a b ρ) QT ↔ W (a ρ) fun c ρ1 => if c = true then W (b ρ1) QT else QT false ρ1 := by
  unfold mAnd
  rw [W_bind]
  simp only [W_ite, W_some]
@[simp] theorem W_or {a b : MT} : W (mOr a b ρ) QT ↔ W (a ρ) fun c ρ1 => if c = true then QT true ρ1 else W (b ρ1) QT := by
  unfold mOr
  rw [W_bind]
  simp only [W_ite, W_some]
@[simp] theorem W_not {a : MT} : W (mNot a ρ) QT ↔ W (a ρ) fun c ρ1 => QT (!c) ρ1 := W_map
@[simp] theorem W_andV {a b : M} : W (mAndV a b ρ) Q ↔ W (mTr a ρ) fun c ρ1 => if c = true then W (b ρ1) Q else Q (.bool false) ρ1 := by
  unfold mAndV
  rw [W_bind]
  simp only [W_ite, W_some]
@[simp] theorem W_orV {a b : M} : W (mOrV a b ρ) Q ↔ W (mTr a ρ) fun c ρ1 => if c = true then Q (.bool true) ρ1 else W (b ρ1) Q := by
  unfold mOrV
  rw [W_bind]
  simp only [W_ite, W_some]
@[simp] theorem W_notV {a : M} : W (mNotV a ρ) Q ↔ W (mTr a ρ) fun c ρ1 => Q (.bool (!c)) ρ1 := W_map
@[simp] theorem W_if {t : MT} {a b : M} : W (mIf t a b ρ) Q ↔ W (t ρ) fun c ρ1 => if c = true then W (a ρ1) Q else W (b ρ1) Q := by
  unfold mIf
  rw [W_bind]
  simp only [W_ite]
@[simp] theorem W_tup {ma : MA} : W (mTup ma ρ) Q ↔ W (ma ρ) fun ds ρ1 => Q (.tuple ds) ρ1 := W_map
@[simp] theorem W_lst {ma : MA} : W (mLst ma ρ) Q ↔ W (ma ρ) fun ds ρ1 => Q (.list ds) ρ1 := W_map
@[simp] theorem W_chain {f g : Int → Int → Bool} {a b c : M} : W (mChain f g a b c ρ) Q ↔ W (a ρ) fun x ρ1 => W (b ρ1) fun y ρ2 => ∃ i j, x = .int i ∧ y = .int j ∧ if f i j = true then W (c ρ2) fun z ρ3 => ∃ n, z = .int n ∧ Q (.bool (g j n)) ρ3 else Q (.bool false) ρ2 := by
  unfold mChain
  rw [W_bind]
  simp only [W_bind]
  refine ⟨fun h => h.mono fun x ρ1 h => h.mono fun y ρ2 q => ?_, fun h => h.mono fun x ρ1 h => h.mono fun y ρ2 ⟨i, j, e1, e2, q⟩ => ?_⟩
  · cases x <;> cases y <;> first | (exact (W_none.mp q).elim) | skip
    refine ⟨_, _, rfl, rfl, ?_⟩
    have q := W_ite.mp q
    split at q
    · rename_i h
      rw [if_pos h]
      refine (W_bind.mp q).mono fun z ρ3 q => ?_
      cases z <;> first | exact ⟨_, rfl, W_some.mp q⟩ | exact (W_none.mp q).elim
    · rename_i h
      rw [if_neg h]
      exact W_some.mp q
  · subst e1 e2
    refine W_ite.mpr ?_
    split at q
    · rename_i h
      rw [if_pos h]
      refine W_bind.mpr (q.mono fun z ρ3 ⟨n, e, q⟩ => ?_)
      subst e
      exact W_some.mpr q
    · rename_i h
      rw [if_neg h]
      exact W_some.mpr q
/-! ### statements -/
/-- behind a statement: on, or out -/
def nxK (f : Fl) (ρ : En) (K : En → Prop) (Q : Fl → En → Prop) : Prop := match f with
  | .nx => K ρ
  | f => Q f ρ
@[simp] theorem nxK_nx {K : En → Prop} : nxK .nx ρ K QS ↔ K ρ := Iff.rfl
@[simp] theorem nxK_bk {K : En → Prop} : nxK .bk ρ K QS ↔ QS .bk ρ := Iff.rfl
@[simp] theorem nxK_ct {K : En → Prop} : nxK .ct ρ K QS ↔ QS .ct ρ := Iff.rfl
@[simp] theorem nxK_rt {K : En → Prop} : nxK (.rt d) ρ K QS ↔ QS (.rt d) ρ := Iff.rfl
theorem W_seq {a b : MS} : W (mSeq a b ρ) QS ↔ W (a ρ) fun f ρ1 => nxK f ρ1 (fun ρ => W (b ρ) QS) QS := by
  unfold mSeq
  rw [W_bind]
  refine ⟨fun h => h.mono fun f ρ1 q => ?_, fun h => h.mono fun f ρ1 q => ?_⟩ <;> cases f <;> first | exact q | exact W_some.mp q | exact W_some.mpr q
@[simp] theorem W_skip : W (mSkip ρ) QS ↔ QS .nx ρ := W_some
@[simp] theorem W_break : W (mBreak ρ) QS ↔ QS .bk ρ := W_some
@[simp] theorem W_cont : W (mCont ρ) QS ↔ QS .ct ρ := W_some
@[simp] theorem W_never : W (mNever ρ) QS ↔ False := W_none
@[simp] theorem W_drop {m : M} : W (mDrop m ρ) QS ↔ W (m ρ) fun _ ρ1 => QS .nx ρ1 := W_map
@[simp] theorem W_ret {m : M} : W (mRet m ρ) QS ↔ W (m ρ) fun d ρ1 => QS (.rt d) ρ1 := W_map
@[simp] theorem W_iteS {c : MT} {a b : MS} : W (mIte c a b ρ) QS ↔ W (c ρ) fun t ρ1 => if t = true then W (a ρ1) QS else W (b ρ1) QS := by
  unfold mIte
  rw [W_bind]
  simp only [W_ite]
@[simp] theorem W_set {m : M} : W (mSet i m ρ) QS ↔ W (m ρ) fun d ρ1 => QS .nx (ρ1.set i (some d)) := W_map
@[simp] theorem W_fz {m : MS} : W (mFz i m ρ) QS ↔ W (m ρ) fun f ρ1 => QS f (ρ1.set i none) := W_map
@[simp] theorem W_asg {g : MG} {m : M} : W (mAsg g m ρ) QS ↔ W (m ρ) fun d ρ1 => ∃ ρ2, g d ρ1 = some ρ2 ∧ QS .nx ρ2 := by
  unfold mAsg
  rw [W_bind]
  refine ⟨fun h => h.mono fun d ρ1 ⟨a, ρ', e, q⟩ => ?_, fun h => h.mono fun d ρ1 ⟨ρ2, e, q⟩ => ⟨_, ρ2, by show (g d ρ1).map _ = _; rw [e]; rfl, q⟩⟩
  obtain ⟨ρ2, e1, e2⟩ := Option.map_eq_some_iff.mp e
  cases e2
  exact ⟨_, e1, q⟩
@[simp] theorem W_aug {m : M} {op : List D → Option D} : W (mAug i m op ρ) QS ↔ ∃ d, at? ρ i = some d ∧ W (m ρ) fun d2 ρ1 => ∃ z, op [d, d2] = some z ∧ QS .nx (ρ1.set i (some z)) := by
  unfold mAug at?
  cases h : ρ[i]? with
  | none => simp
  | some o =>
    cases o with
    | none => simp
    | some d =>
      simp only [Option.join_some, Option.some.injEq, exists_eq_left']
      show W ((m ρ).bind _) _ ↔ _
      rw [W_bind]
      refine ⟨fun h => h.mono fun d2 ρ1 ⟨a, ρ', e, q⟩ => ?_, fun h => h.mono fun d2 ρ1 ⟨z, e, q⟩ => ⟨_, _, by show (op [d, d2]).map _ = _; rw [e]; rfl, q⟩⟩
      obtain ⟨z, e1, e2⟩ := Option.map_eq_some_iff.mp e
      cases e2
      exact ⟨_, e1, q⟩
@[simp] theorem W_call {mf : En → Option (D × En)} {ks : List Ak} {dd : List D} {ma : MA} : W (mCall mf ks dd ma ρ) Q ↔ W (ma ρ) fun ds ρ1 => ∃ es, fill ks ds ρ1 = some es ∧ W (mf ((es ++ dd).map some)) fun z out => Q z (putB ks out ρ1) := by
  unfold mCall
  rw [W_bind]
  refine ⟨fun h => h.mono fun ds ρ1 ⟨a, ρ', e, q⟩ => ?_, fun h => h.mono fun ds ρ1 ⟨es, e1, z, out, e2, q⟩ => ⟨_, _, by rw [e1]; show (mf _).bind _ = _; rw [e2]; rfl, q⟩⟩
  obtain ⟨es, e1, e2⟩ := Option.bind_eq_some_iff.mp e
  obtain ⟨⟨z, out⟩, e3, e4⟩ := Option.bind_eq_some_iff.mp e2
  cases e4
  exact ⟨es, e1, z, out, e3, q⟩
@[simp] theorem putB_nil {out : En} : putB [] out ρ = ρ := rfl
@[simp] theorem putB_br {ks : List Ak} {o : Option D} {os : En} : putB (.br i :: ks) (o :: os) ρ = putB ks os (ρ.set i o) := rfl
@[simp] theorem putB_fz {ks : List Ak} {o : Option D} {os : En} : putB (.fz :: ks) (o :: os) ρ = putB ks os ρ := rfl
@[simp] theorem putB_ow {ks : List Ak} {o : Option D} {os : En} : putB (.ow :: ks) (o :: os) ρ = putB ks os ρ := rfl
theorem W_fun {Oi : List Kd} {n : Nat} {r : Ak} {b : MS} : W (mFun Oi n r b ρ) Q ↔ W (b (ρ ++ List.replicate n none)) fun f ρ1 => (∃ d, f = .rt d ∧ Q d (outE Oi ρ1)) ∨ (f = .nx ∧ r = .fz ∧ Q .none (outE Oi ρ1)) := by
  unfold mFun
  rw [W_bind]
  refine ⟨fun h => h.mono fun f ρ1 q => ?_, fun h => h.mono fun f ρ1 q => ?_⟩
  · cases f with
    | rt d => exact .inl ⟨d, rfl, W_some.mp q⟩
    | nx =>
      cases r with
      | fz => exact .inr ⟨rfl, rfl, W_some.mp q⟩
      | ow => exact (W_none.mp q).elim
      | br _ => exact (W_none.mp q).elim
    | bk => exact (W_none.mp q).elim
    | ct => exact (W_none.mp q).elim
  · rcases q with ⟨d, rfl, q⟩ | ⟨rfl, rfl, q⟩ <;> exact W_some.mpr q
@[simp] theorem outE_nil : outE [] ρ = [] := rfl
@[simp] theorem outE_cons {k : Kd} {ks : List Kd} {r : Option D} : outE (k :: ks) (r :: ρ) = (if k = .io then r else none) :: outE ks ρ := rfl
@[simp] theorem W_setIx {mi mv : M} : W (mSetIx i mi mv ρ) QS ↔ W (mv ρ) fun v ρ1 => ∃ d, at? ρ1 i = some d ∧ W (mi ρ1) fun x ρ2 => ∃ j ds n, x = .int j ∧ at? ρ2 i = some (.list ds) ∧ ixN ds.length j = some n ∧ QS .nx (ρ2.set i (some (.list (ds.set n v)))) := by
  unfold mSetIx
  rw [W_bind]
  refine ⟨fun h => h.mono fun v ρ1 h => ?_, fun h => h.mono fun v ρ1 ⟨d, e, h⟩ => ?_⟩
  · obtain ⟨d, e, h⟩ := W_br.mp (W_bind.mp h)
    refine ⟨d, e, (W_bind.mp h).mono fun x ρ2 q => ?_⟩
    obtain ⟨a, ρ3, e1, q⟩ := q
    dsimp only at e1
    split at e1
    · rename_i j ds e3
      obtain ⟨n, e4, e5⟩ := Option.map_eq_some_iff.mp e1
      cases e5
      refine ⟨j, ds, _, rfl, by unfold at?; rw [e3]; rfl, e4, q⟩
    · cases e1
  · refine W_bind.mpr (W_br.mpr ⟨d, e, W_bind.mpr (h.mono fun x ρ2 ⟨j, ds, n, e1, e2, e3, q⟩ => ?_)⟩)
    subst e1
    have e4 : ρ2[i]? = some (some (.list ds)) := by
      unfold at? at e2
      cases h : ρ2[i]? with
      | none => rw [h] at e2; cases e2
      | some o => rw [h] at e2; rw [show o = some _ from e2]
    refine ⟨_, _, ?_, q⟩
    rw [e4]
    show (ixN ds.length j).map _ = _
    rw [e3]
    rfl
theorem W_mut0 {T : String} {ma : MA} {op : D → List D → Option (D × D)} : W (mMut i T ma op ρ) Q ↔ ∃ d1, at? ρ i = some d1 ∧ isTy T d1 = true ∧ W (ma ρ) fun ds ρ1 => ∃ d0, at? ρ1 i = some d0 ∧ ∃ z, op d0 ds = some z ∧ Q z.1 (ρ1.set i (some z.2)) := by
  unfold mMut at?
  cases h : ρ[i]? with
  | none => simp
  | some o =>
    cases o with
    | none => simp
    | some d1 =>
      simp only [Option.join_some, Option.some.injEq, exists_eq_left']
      show W (if isTy T d1 = true then _ else none) _ ↔ _
      rw [W_ite]
      by_cases hT : isTy T d1 = true
      · rw [if_pos hT, W_bind]
        refine ⟨fun h => ⟨hT, h.mono fun ds ρ1 ⟨a, ρ', e, q⟩ => ?_⟩, fun ⟨_, h⟩ => h.mono fun ds ρ1 ⟨d0, e, z, e1, q⟩ => ?_⟩
        · dsimp only at e
          split at e
          · rename_i d0 e0
            obtain ⟨z, e1, e2⟩ := Option.map_eq_some_iff.mp e
            cases e2
            exact ⟨d0, by rw [e0]; rfl, _, e1, q⟩
          · cases e
        · have e4 : ρ1[i]? = some (some d0) := by
            cases h : ρ1[i]? with
            | none => rw [h] at e; cases e
            | some o => rw [h] at e; rw [show o = some _ from e]
          refine ⟨z.1, _, ?_, q⟩
          rw [e4]
          show (op d0 ds).map _ = _
          rw [e1]
          rfl
      · rw [if_neg hT]
        exact ⟨fun h => (W_none.mp h).elim, fun h => (hT h.1).elim⟩
@[simp] theorem W_mut {T : String} {ma : MA} {op : D → List D → Option (D × D)} : W (mMut i T ma op ρ) Q ↔ ∃ d1, at? ρ i = some d1 ∧ isTy T d1 = true ∧ W (ma ρ) fun ds ρ1 => ∃ d0, at? ρ1 i = some d0 ∧ ∃ x y, op d0 ds = some (x, y) ∧ Q x (ρ1.set i (some y)) := by
  rw [W_mut0]
  simp only [Prod.exists]
/-! ### slices -/
@[simp] theorem W_sl {ka : Ak} {m : M} {lo hi : MO} {op : D → Option Int → Option Int → Option D} : W (mSl ka m lo hi op ρ) Q ↔ W (m ρ) fun d ρ1 => W (lo ρ1) fun l ρ2 => W (hi ρ2) fun h ρ3 => ∃ es, fill [ka] [d] ρ3 = some es ∧ ∃ x, es = [x] ∧ ∃ z, op x l h = some z ∧ Q z ρ3 := by
  unfold mSl
  rw [W_bind]
  simp only [W_bind]
  refine ⟨fun h => h.mono fun d ρ1 h => h.mono fun l ρ2 h => h.mono fun hh ρ3 ⟨a, ρ', e, q⟩ => ?_, fun h => h.mono fun d ρ1 h => h.mono fun l ρ2 h => h.mono fun hh ρ3 ⟨es, e1, x, e2, z, e3, q⟩ => ⟨z, ρ3, ?_, q⟩⟩
  · obtain ⟨es, e1, e2⟩ := Option.bind_eq_some_iff.mp e
    split at e2
    · obtain ⟨z, e3, e4⟩ := Option.map_eq_some_iff.mp e2
      cases e4
      exact ⟨_, e1, _, rfl, _, e3, q⟩
    · cases e2
  · subst e2
    rw [e1]
    show (op x l hh).map _ = _
    rw [e3]
    rfl
@[simp] theorem W_no {QO : Option Int → En → Prop} : W (mNo ρ) QO ↔ QO none ρ := W_some
@[simp] theorem W_pt {QO : Option Int → En → Prop} {m : M} : W (mPt m ρ) QO ↔ W (m ρ) fun d ρ1 => ∃ i, d = .int i ∧ QO (some i) ρ1 := by
  unfold mPt
  rw [W_bind]
  refine ⟨fun h => h.mono fun d ρ1 q => ?_, fun h => h.mono fun d ρ1 ⟨b, e, q⟩ => by rw [e]; exact W_some.mpr q⟩
  cases d <;> first | exact ⟨_, rfl, W_some.mp q⟩ | exact (W_none.mp q).elim
end
end DL

/-! DW2: operators on data, loops, comprehensions. -/
namespace DL
open PySem PySem.Spec PyProof.Rows L2

/-! ### the end of a def -/
def fnK (Oi : List Kd) (r : Ak) (Q : D → En → Prop) (f : Fl) (ρ : En) : Prop := match f with
  | .rt d => Q d (outE Oi ρ)
  | .nx => r = .fz ∧ Q .none (outE Oi ρ)
  | _ => False
section
variable {Oi : List Kd} {r : Ak} {Q : D → En → Prop} {ρ : En} {d : D} {n : Nat} {b : MS}
@[simp] theorem fnK_rt : fnK Oi r Q (.rt d) ρ ↔ Q d (outE Oi ρ) := Iff.rfl
@[simp] theorem fnK_nx : fnK Oi .fz Q .nx ρ ↔ Q .none (outE Oi ρ) := ⟨fun h => h.2, fun h => ⟨rfl, h⟩⟩
theorem W_fn : W (mFun Oi n r b ρ) Q ↔ W (b (ρ ++ List.replicate n none)) (fnK Oi r Q) := by
  rw [W_fun]
  refine ⟨fun h => h.mono fun f ρ1 q => ?_, fun h => h.mono fun f ρ1 q => ?_⟩
  · rcases q with ⟨d, rfl, q⟩ | ⟨rfl, e, q⟩
    · exact q
    · exact ⟨e, q⟩
  · cases f with
    | rt d => exact .inl ⟨d, rfl, q⟩
    | nx => exact .inr ⟨rfl, q.1, q.2⟩
    | bk => exact q.elim
    | ct => exact q.elim
end
@[simp] theorem ex_cond {α : Type} {c : Prop} {x : α} {P : α → Prop} : (∃ z, (c ∧ z = x) ∧ P z) ↔ c ∧ P x := ⟨fun ⟨_, ⟨h, e⟩, p⟩ => ⟨h, by rw [← e]; exact p⟩, fun ⟨h, p⟩ => ⟨x, ⟨h, rfl⟩, p⟩⟩
@[simp] theorem ex_cond2 {α β : Type} {c : Prop} {x : α} {y : β} {P : α → β → Prop} : (∃ a b, (c ∧ a = x ∧ b = y) ∧ P a b) ↔ c ∧ P x y := ⟨fun ⟨_, _, ⟨h, e, e2⟩, p⟩ => ⟨h, by rw [← e, ← e2]; exact p⟩, fun ⟨h, p⟩ => ⟨x, y, ⟨h, rfl, rfl⟩, p⟩⟩
@[simp] theorem ixN_0 {n : Nat} : ixN (n + 1) 0 = some 0 := by
  unfold ixN
  rw [if_pos (by omega), if_pos (by omega)]
  rfl
/-! ### operators -/
section
variable {i j : Int} {Q : D → Prop}
@[simp] theorem dAdd_i : dAdd [.int i, .int j] = some (.int (i + j)) := rfl
@[simp] theorem dSub_i : dSub [.int i, .int j] = some (.int (i - j)) := rfl
@[simp] theorem dLt_i : dLt [.int i, .int j] = some (.bool (decide (i < j))) := rfl
@[simp] theorem dLe_i : dLe [.int i, .int j] = some (.bool (decide (i ≤ j))) := rfl
@[simp] theorem dGt_i : dGt [.int i, .int j] = some (.bool (decide (j < i))) := rfl
@[simp] theorem dGe_i : dGe [.int i, .int j] = some (.bool (decide (j ≤ i))) := rfl
@[simp] theorem dNeg_i : dNeg [.int i] = some (.int (-i)) := rfl
/-- sizes that the product is shown for -/
def MulOk (i j : Int) : Prop := i.natAbs.log2 + j.natAbs.log2 < 1000000
theorem log2_small {n : Nat} (h : n < 2 ^ 4000) : n.log2 < 4000 := by
  by_cases z : n = 0
  · rw [z]
    decide
  · exact (Nat.log2_lt z).mpr h
theorem pow64 : (2 : Nat) ^ 64 < 2 ^ 4000 := by decide +kernel
theorem mulOk_of (h : i.natAbs < 2 ^ 64) (h' : j.natAbs < 2 ^ 64) : MulOk i j := by
  have a := log2_small (Nat.lt_trans h pow64)
  have b := log2_small (Nat.lt_trans h' pow64)
  unfold MulOk
  omega
@[simp] theorem dMul_i {d : D} : dMul [.int i, .int j] = some d ↔ MulOk i j ∧ d = .int (i * j) := by
  unfold dMul opIc MulOk
  simp only [decide_eq_true_eq]
  split
  · rename_i h
    exact ⟨fun e => ⟨h, by cases e; rfl⟩, fun e => by rw [e.2]⟩
  · rename_i h
    exact ⟨fun e => (by cases e), fun e => (h e.1).elim⟩
theorem fdiv_lit (n : Nat) : Int.fdiv i (@OfNat.ofNat Int n instOfNat) = i / (@OfNat.ofNat Int n instOfNat) := Int.fdiv_eq_ediv_of_nonneg _ (Int.natCast_nonneg n)
theorem fmod_lit (n : Nat) : Int.fmod i (@OfNat.ofNat Int n instOfNat) = i % (@OfNat.ofNat Int n instOfNat) := Int.fmod_eq_emod_of_nonneg _ (Int.natCast_nonneg n)
@[simp] theorem dDiv_i {d : D} (hj : 0 < j) : dDiv [.int i, .int j] = some d ↔ j < 1073741824 ∧ d = .int (i / j) := by
  unfold dDiv opIc
  simp only [decide_eq_true_eq]
  split
  · rename_i h
    rw [Int.fdiv_eq_ediv_of_nonneg _ (Int.le_of_lt hj)]
    exact ⟨fun e => ⟨by omega, by cases e; rfl⟩, fun e => by rw [e.2]⟩
  · rename_i h
    exact ⟨fun e => (by cases e), fun e => (h ⟨by omega, by omega⟩).elim⟩
@[simp] theorem dMod_i {d : D} (hj : 0 < j) : dMod [.int i, .int j] = some d ↔ d = .int (i % j) := by
  unfold dMod opIc
  simp only [decide_eq_true_eq]
  rw [if_pos (by omega), Int.fmod_eq_emod_of_nonneg _ (Int.le_of_lt hj)]
  exact ⟨fun e => by cases e; rfl, fun e => by rw [e]⟩
@[simp] theorem dPow_i {d : D} : dPow [.int i, .int j] = some d ↔ (0 ≤ j ∧ j ≤ 1000000 ∧ i.natAbs < 2 ^ 64) ∧ d = .int (i ^ j.toNat) := by
  unfold dPow opIc
  simp only [decide_eq_true_eq]
  split
  · rename_i h
    exact ⟨fun e => ⟨h, by cases e; rfl⟩, fun e => by rw [e.2]⟩
  · rename_i h
    exact ⟨fun e => (by cases e), fun e => (h e.1).elim⟩
variable {ds es : List D} {d x : D}
@[simp] theorem dLen_l : dLen [.list ds] = some (.int ds.length) := rfl
@[simp] theorem dLen_t : dLen [.tuple ds] = some (.int ds.length) := rfl
@[simp] theorem dList_l : dList [.list ds] = some (.list ds) := rfl
@[simp] theorem dList_t : dList [.tuple ds] = some (.list ds) := rfl
@[simp] theorem dTuple_l : dTuple [.list ds] = some (.tuple ds) := rfl
@[simp] theorem dTuple_t : dTuple [.tuple ds] = some (.tuple ds) := rfl
@[simp] theorem dRev_l : dRev [.list ds] = some (.list ds.reverse) := rfl
@[simp] theorem dCat_l : dCat [.list ds, .list es] = some d ↔ ds.length + es.length ≤ 1000000 ∧ d = .list (ds ++ es) := by
  unfold dCat
  dsimp only
  split
  · rename_i h
    exact ⟨fun e => ⟨h, by cases e; rfl⟩, fun e => by rw [e.2]⟩
  · rename_i h
    exact ⟨fun e => (by cases e), fun e => (h e.1).elim⟩
@[simp] theorem dAppend_l {x y : D} : dAppend (.list ds) [d] = some (x, y) ↔ ds.length < 1000000 ∧ x = .none ∧ y = .list (ds ++ [d]) := by
  unfold dAppend
  dsimp only
  split
  · rename_i h
    exact ⟨fun e => ⟨h, by cases e; exact ⟨rfl, rfl⟩⟩, fun e => by rw [e.2.1, e.2.2]⟩
  · rename_i h
    exact ⟨fun e => (by cases e), fun e => (h e.1).elim⟩
@[simp] theorem isTy_l : isTy "list" (.list ds) = true := rfl
@[simp] theorem dIs_int_i : dIs "int" [.int i] = some (.bool true) := rfl
@[simp] theorem dIs_bool_i : dIs "bool" [.int i] = some (.bool false) := rfl
@[simp] theorem dIs_list_l : dIs "list" [.list ds] = some (.bool true) := rfl
@[simp] theorem dIs_tuple_t : dIs "tuple" [.tuple ds] = some (.bool true) := rfl
@[simp] theorem dIx_l : dIx [.list ds, .int i] = atI ds i := rfl
@[simp] theorem dIx_t : dIx [.tuple ds, .int i] = atI ds i := rfl
theorem atI_lit {α : Type} {xs : List α} {v : α} (n : Nat) (h : xs[n]? = some v) : atI xs (n : Int) = some v := atI_nat h
@[simp] theorem atI_0 {α : Type} {x : α} {xs : List α} : atI (x :: xs) 0 = some x := atI_nat (j := 0) rfl
@[simp] theorem atI_1 {α : Type} {x y : α} {xs : List α} : atI (x :: y :: xs) 1 = some y := atI_nat (j := 1) rfl
@[simp] theorem atI_2 {α : Type} {x y z : α} {xs : List α} : atI (x :: y :: z :: xs) 2 = some z := atI_nat (j := 2) rfl
@[simp] theorem atI_3 {α : Type} {x y z u : α} {xs : List α} : atI (x :: y :: z :: u :: xs) 3 = some u := atI_nat (j := 3) rfl
@[simp] theorem dSlL_l {l h : Option Int} : dSlL (.list ds) l h = some (.list (cutG ds l h)) := rfl
@[simp] theorem dSlT_t {l h : Option Int} : dSlT (.tuple ds) l h = some (.tuple (cutG ds l h)) := rfl
@[simp] theorem mgN_e {ρ : En} {k : Nat} : mgN k d ρ = some (ρ.set k (some d)) := rfl
@[simp] theorem mgNil_e {ρ : En} : mgNil [] ρ = some ρ := rfl
@[simp] theorem mgCons_e {ρ : En} {g : MG} {r : List D → En → Option En} : mgCons g r (d :: ds) ρ = (g d ρ).bind (r ds) := rfl
@[simp] theorem mgT_e {ρ : En} {n : Nat} {r : List D → En → Option En} : mgT n r (.tuple ds) ρ = if ds.length = n then r ds ρ else none := rfl
@[simp] theorem mgL_e {ρ : En} {n : Nat} {r : List D → En → Option En} : mgL n r (.list ds) ρ = if ds.length = n then r ds ρ else none := rfl
@[simp] theorem dAll_b {bs : List Bool} : dAll [.list (bs.map PyData.bool)] = some (.bool (bs.all id)) := by
  have h : ∀ bs : List Bool, bools (bs.map PyData.bool) = some bs := fun bs => by
    induction bs with
    | nil => rfl
    | cons b bs ih =>
      show (bools (bs.map PyData.bool)).map _ = _
      rw [ih]
      rfl
  show (bools (bs.map PyData.bool)).map _ = _
  rw [h]
  rfl
end
/-! ### == -/
/-- data that == is shown for, of a depth -/
structure Eq0 (n : Nat) (d : D) : Prop where
  lay : d.canLay0 = true
  nod : d.hasDict = false
  dep : d.depth ≤ n
theorem Eq0.ok {n : Nat} {d : D} (h : Eq0 n d) (hn : n ≤ 64 := by decide) : eqOk d = true := by
  unfold eqOk SeqAt.shaped
  rw [h.lay, h.nod, decide_eq_true (Nat.le_trans h.dep hn)]
  rfl
theorem Eq0.int {n : Nat} {i : Int} : Eq0 n (.int i) := ⟨rfl, rfl, by simp [PyData.depth]⟩
theorem Eq0.bool {n : Nat} {i : Bool} : Eq0 n (.bool i) := ⟨rfl, rfl, by simp [PyData.depth]⟩
theorem Eq0.none {n : Nat} : Eq0 n .none := ⟨rfl, rfl, by simp [PyData.depth]⟩
theorem eq0_all {n : Nat} : ∀ {ds : List D}, (∀ d, d ∈ ds → Eq0 n d) → PyData.canLayAll0 ds = true ∧ PyData.hasDictAll ds = false ∧ PyData.depthAll ds ≤ n
  | [], _ => ⟨rfl, rfl, Nat.zero_le _⟩
  | d :: ds, h => by
    obtain ⟨a, b, c⟩ := eq0_all fun d m => h d (List.mem_cons_of_mem _ m)
    have z := h d List.mem_cons_self
    refine ⟨?_, ?_, ?_⟩
    · rw [PyData.canLayAll0, z.lay, a]
      rfl
    · rw [PyData.hasDictAll, z.nod, b]
      rfl
    · rw [PyData.depthAll]
      exact Nat.max_le.mpr ⟨z.dep, c⟩
theorem Eq0.list {n : Nat} {ds : List D} (h : ∀ d, d ∈ ds → Eq0 n d) : Eq0 (n + 1) (.list ds) := by
  obtain ⟨a, b, c⟩ := eq0_all h
  exact ⟨by rw [PyData.canLay0]; exact a, by rw [PyData.hasDict]; exact b, by rw [PyData.depth]; omega⟩
theorem Eq0.tuple {n : Nat} {ds : List D} (h : ∀ d, d ∈ ds → Eq0 n d) : Eq0 (n + 1) (.tuple ds) := by
  obtain ⟨a, b, c⟩ := eq0_all h
  exact ⟨by rw [PyData.canLay0]; exact a, by rw [PyData.hasDict]; exact b, by rw [PyData.depth]; omega⟩
theorem Eq0.up {n m : Nat} {d : D} (h : Eq0 n d) (hn : n ≤ m) : Eq0 m d := ⟨h.lay, h.nod, Nat.le_trans h.dep hn⟩
theorem Eq0.ints {ns : List Int} : Eq0 1 (.list (ns.map PyData.int)) := .list fun d m => by
  obtain ⟨n, _, rfl⟩ := List.mem_map.mp m
  exact .int
mutual
theorem eqv_same : ∀ d : D, d.hasDict = false → PyData.eqv d d = true
  | .none, _ => by rw [PyData.eqv]
  | .bool b, _ => by rw [PyData.eqv]; exact beq_self_eq_true b
  | .int i, _ => by rw [PyData.eqv]; exact beq_self_eq_true i
  | .str x, _ => by rw [PyData.eqv]; exact beq_self_eq_true x
  | .list ds, h => by rw [PyData.eqv]; exact eqvAll_same ds (by rw [PyData.hasDict] at h; exact h)
  | .tuple ds, h => by rw [PyData.eqv]; exact eqvAll_same ds (by rw [PyData.hasDict] at h; exact h)
  | .dict _, h => by rw [PyData.hasDict] at h; cases h
theorem eqvAll_same : ∀ ds : List D, PyData.hasDictAll ds = false → PyData.eqvAll ds ds = true
  | [], _ => by rw [PyData.eqvAll]
  | d :: ds, h => by
    rw [PyData.hasDictAll] at h
    have z := Bool.or_eq_false_iff.mp h
    rw [PyData.eqvAll, eqv_same d z.1, eqvAll_same ds z.2]
    rfl
end
section
variable {i j : Int} {n m : Nat} {d e x : D} {ds : List D}
@[simp] theorem dEq_i : dEq [.int i, .int j] = some (.bool (decide (i = j))) := by
  unfold dEq
  dsimp only
  rw [Eq0.ok (n := 0) Eq0.int, Eq0.ok (n := 0) Eq0.int, if_pos (by decide), PyData.eqv]
  rfl
@[simp] theorem dNe_i : dNe [.int i, .int j] = some (.bool (!decide (i = j))) := by
  unfold dNe
  dsimp only
  rw [Eq0.ok (n := 0) Eq0.int, Eq0.ok (n := 0) Eq0.int, if_pos (by decide), PyData.eqv]
  rfl
theorem dEq_same (h : Eq0 n d) (hn : n ≤ 64 := by decide) : dEq [d, d] = some (.bool true) := by
  unfold dEq
  dsimp only
  rw [h.ok hn, if_pos (by decide), eqv_same d h.nod]
theorem dNe_same (h : Eq0 n d) (hn : n ≤ 64 := by decide) : dNe [d, d] = some (.bool false) := by
  unfold dNe
  dsimp only
  rw [h.ok hn, if_pos (by decide), eqv_same d h.nod]
  rfl
theorem dEq_nil (h : Eq0 n (.list ds)) (hn : n ≤ 64 := by decide) : dEq [.list ds, .list []] = some (.bool ds.isEmpty) := by
  unfold dEq
  dsimp only
  rw [h.ok hn, Eq0.ok (n := 1) (Eq0.list (n := 0) fun _ z => (List.not_mem_nil z).elim), if_pos (by decide)]
  cases ds <;> simp [PyData.eqv, PyData.eqvAll]
end
/-! ### loops -/
def lpK (f : Fl) (ρ : En) (K : En → Prop) (Q : Fl → En → Prop) : Prop := match f with
  | .nx => K ρ
  | .ct => K ρ
  | .bk => Q .nx ρ
  | .rt d => Q (.rt d) ρ
section
variable {ρ : En} {Q : Fl → En → Prop} {QD : D → En → Prop} {QI : List D → En → Prop} {d : D}
@[simp] theorem lpK_nx {K : En → Prop} : lpK .nx ρ K Q ↔ K ρ := Iff.rfl
@[simp] theorem lpK_ct {K : En → Prop} : lpK .ct ρ K Q ↔ K ρ := Iff.rfl
@[simp] theorem lpK_bk {K : En → Prop} : lpK .bk ρ K Q ↔ Q .nx ρ := Iff.rfl
@[simp] theorem lpK_rt {K : En → Prop} : lpK (.rt d) ρ K Q ↔ Q (.rt d) ρ := Iff.rfl
theorem W_for {mi : MI} {g : MG} {b : MS} : W (mFor mi g b ρ) Q ↔ W (mi ρ) fun ds ρ1 => W (mForL ds g b ρ1) Q := W_bind
theorem W_forL {g : MG} {b : MS} (I : List D → En → Prop) (hs : ∀ d r ρ, I (d :: r) ρ → ∃ ρ1, g d ρ = some ρ1 ∧ W (b ρ1) fun f ρ2 => lpK f ρ2 (I r) Q) (hd : ∀ ρ, I [] ρ → Q .nx ρ) : ∀ {ds : List D} {ρ : En}, I ds ρ → W (mForL ds g b ρ) Q
  | [], ρ, h => W_some.mpr (hd ρ h)
  | d :: ds, ρ, h => by
    obtain ⟨ρ1, e1, e2⟩ := hs d ds ρ h
    show W ((g d ρ).bind fun ρ1 => (b ρ1).bind _) Q
    rw [e1]
    show W ((b ρ1).bind _) Q
    rw [W_bind]
    refine e2.mono fun f ρ2 q => ?_
    cases f with
    | nx => exact W_forL I hs hd q
    | ct => exact W_forL I hs hd q
    | bk => exact W_some.mpr q
    | rt x => exact W_some.mpr q
theorem W_while {c : MT} {b : MS} (I : Nat → En → Prop) (hs : ∀ n ρ, I n ρ → W (c ρ) fun t ρ1 => if t = true then W (b ρ1) fun f ρ2 => lpK f ρ2 (fun ρ => ∃ m, m < n ∧ I m ρ) Q else Q .nx ρ1) {n : Nat} {ρ : En} (h : I n ρ) (hn : n < 100000000 := by omega) : W (mWhile c b ρ) Q := by
  have main : ∀ (N n : Nat) (ρ : En), n < N → I n ρ → W (whN c b N ρ) Q := by
    intro N
    induction N with
    | zero => exact fun n ρ h => (Nat.not_lt_zero _ h).elim
    | succ N ih =>
      intro n ρ hn h
      show W ((c ρ).bind _) Q
      rw [W_bind]
      refine (hs n ρ h).mono fun t ρ1 q => W_ite.mpr ?_
      split at q
      · rename_i ht
        rw [if_pos ht, W_bind]
        refine q.mono fun f ρ2 q => ?_
        cases f with
        | nx =>
          obtain ⟨m, hm, z⟩ := q
          exact ih m ρ2 (by omega) z
        | ct =>
          obtain ⟨m, hm, z⟩ := q
          exact ih m ρ2 (by omega) z
        | bk => exact W_some.mpr q
        | rt x => exact W_some.mpr q
      · rename_i ht
        rw [if_neg ht]
        exact W_some.mpr q
  obtain ⟨a, ρ', e, q⟩ := main (n + 1) n ρ (Nat.lt_succ_self n) h
  exact ⟨a, ρ', mWhile_of (show n + 1 ≤ 100000000 by omega) e, q⟩
/-! ### what is walked -/
@[simp] theorem W_itS {m : M} : W (mItS m ρ) QI ↔ W (m ρ) fun d ρ1 => (∃ ds, (d = .list ds ∨ d = .tuple ds) ∧ QI ds ρ1) := by
  unfold mItS
  rw [W_bind]
  refine ⟨fun h => h.mono fun d ρ1 q => ?_, fun h => h.mono fun d ρ1 ⟨ds, e, q⟩ => ?_⟩
  · cases d <;> first | exact ⟨_, .inl rfl, W_some.mp q⟩ | exact ⟨_, .inr rfl, W_some.mp q⟩ | exact (W_none.mp q).elim
  · rcases e with e | e <;> rw [e] <;> exact W_some.mpr q
@[simp] theorem W_itL {m : M} : W (mItL m ρ) QI ↔ W (m ρ) fun d ρ1 => (∃ ds, d = .list ds ∧ QI ds ρ1) := by
  unfold mItL
  rw [W_bind]
  refine ⟨fun h => h.mono fun d ρ1 q => ?_, fun h => h.mono fun d ρ1 ⟨ds, e, q⟩ => ?_⟩
  · cases d <;> first | exact ⟨_, rfl, W_some.mp q⟩ | exact (W_none.mp q).elim
  · rw [e]
    exact W_some.mpr q
@[simp] theorem W_itB {i : Nat} : W (mItB i ρ) QI ↔ ∃ ds, at? ρ i = some (.list ds) ∧ QI ds ρ := by
  unfold mItB at?
  cases h : ρ[i]? with
  | none => simp
  | some o => cases o with
    | none => simp
    | some d => cases d <;> simp
@[simp] theorem W_rng1 {ma : MA} : W (mRng1 ma ρ) QI ↔ W (ma ρ) fun ds ρ1 => ∃ j, ds = [.int j] ∧ (-(2 ^ 62) ≤ j ∧ j < 2 ^ 62) ∧ QI (dRng 0 j.toNat) ρ1 := by
  unfold mRng1
  rw [W_bind]
  refine ⟨fun h => h.mono fun ds ρ1 q => ?_, fun h => h.mono fun ds ρ1 ⟨j, e, hj, q⟩ => ?_⟩
  · dsimp only at q
    split at q
    · rename_i j
      have q := W_ite.mp q
      split at q
      · rename_i hj
        exact ⟨j, rfl, hj, W_some.mp q⟩
      · exact (W_none.mp q).elim
    · exact (W_none.mp q).elim
  · subst e
    dsimp only
    rw [if_pos hj]
    exact W_some.mpr q
@[simp] theorem W_rng2 {ma : MA} : W (mRng2 ma ρ) QI ↔ W (ma ρ) fun ds ρ1 => ∃ i j, ds = [.int i, .int j] ∧ (-(2 ^ 62) ≤ i ∧ i < 2 ^ 62 ∧ -(2 ^ 62) ≤ j ∧ j < 2 ^ 62) ∧ QI (dRng i (j - i).toNat) ρ1 := by
  unfold mRng2
  rw [W_bind]
  refine ⟨fun h => h.mono fun ds ρ1 q => ?_, fun h => h.mono fun ds ρ1 ⟨i, j, e, hj, q⟩ => ?_⟩
  · dsimp only at q
    split at q
    · rename_i i j
      have q := W_ite.mp q
      split at q
      · rename_i hj
        exact ⟨i, j, rfl, hj, W_some.mp q⟩
      · exact (W_none.mp q).elim
    · exact (W_none.mp q).elim
  · subst e
    dsimp only
    rw [if_pos hj]
    exact W_some.mpr q
@[simp] theorem W_rng3 {ma : MA} : W (mRng3 ma ρ) QI ↔ W (ma ρ) fun ds ρ1 => ∃ i j c, ds = [.int i, .int j, .int c] ∧ rngOk i j c = true ∧ QI (dRngC i c (rngN i j c)) ρ1 := by
  unfold mRng3
  rw [W_bind]
  refine ⟨fun h => h.mono fun ds ρ1 q => ?_, fun h => h.mono fun ds ρ1 ⟨i, j, c, e, hj, q⟩ => ?_⟩
  · dsimp only at q
    split at q
    · rename_i i j c
      have q := W_ite.mp q
      split at q
      · rename_i hj
        exact ⟨i, j, c, rfl, hj, W_some.mp q⟩
      · exact (W_none.mp q).elim
    · exact (W_none.mp q).elim
  · subst e
    dsimp only
    rw [if_pos hj]
    exact W_some.mpr q
@[simp] theorem W_it2 {ks : List Ak} {ma : MA} {f : List D → Option (List D)} : W (mIt2 ks ma f ρ) QI ↔ W (ma ρ) fun ds ρ1 => ∃ es, fill ks ds ρ1 = some es ∧ ∃ z, f es = some z ∧ QI z ρ1 := by
  unfold mIt2
  rw [W_bind]
  refine ⟨fun h => h.mono fun ds ρ1 ⟨a, ρ', e, q⟩ => ?_, fun h => h.mono fun ds ρ1 ⟨es, e1, z, e2, q⟩ => ⟨z, ρ1, by rw [e1]; show (f es).map _ = _; rw [e2]; rfl, q⟩⟩
  obtain ⟨es, e1, e2⟩ := Option.bind_eq_some_iff.mp e
  obtain ⟨z, e3, e4⟩ := Option.map_eq_some_iff.mp e2
  cases e4
  exact ⟨es, e1, _, e3, q⟩
/-! ### comprehensions -/
@[simp] theorem wipe_nil : wipeE ρ [] = ρ := rfl
@[simp] theorem wipe_cons {v : Nat} {vs : List Nat} : wipeE ρ (v :: vs) = (wipeE ρ vs).set v none := rfl
theorem rest_same {ρ' : En} {vs : List Nat} (h : wipeE ρ' vs = wipeE ρ vs) : restE ρ vs ρ' = ρ := by
  have hl : ρ'.length = ρ.length := by rw [← wipeE_len (vs := vs), h, wipeE_len]
  refine List.ext_getElem? fun i => ?_
  by_cases m : i ∈ vs
  · by_cases hi : i < ρ.length
    · have main : ∀ us : List Nat, i ∈ us → (restE ρ us ρ')[i]? = ρ[i]? := by
        intro us
        induction us with
        | nil => exact fun h => (List.not_mem_nil h).elim
        | cons v us ih =>
          intro hm
          show ((restE ρ us ρ').set v (ρ.getD v none))[i]? = _
          by_cases e : v = i
          · subst e
            rw [List.getElem?_set_self (by rw [restE_len, hl]; exact hi), List.getD_eq_getElem?_getD, List.getElem?_eq_getElem hi]
            rfl
          · rw [List.getElem?_set_ne e]
            exact ih ((List.mem_cons.mp hm).resolve_left fun z => e z.symm)
      exact main vs m
    · rw [List.getElem?_eq_none (by rw [restE_len]; omega), List.getElem?_eq_none (by omega)]
  · rw [restE_out m, ← wipeE_out (ρ := ρ') m, h, wipeE_out m]
theorem lcL {τ : Type} {u : τ → D} {F : τ → Option D} {g : MG} {t : MT} {e : M} {vs : List Nat} {B : En} : ∀ {xs : List τ} {acc : List D} {ρ : En}, wipeE ρ vs = B →
    (∀ x, x ∈ xs → ∃ ρ1, g (u x) B = some ρ1 ∧ W (t ρ1) fun b ρ2 => if b = true then W (e ρ2) fun y ρ3 => F x = some y ∧ wipeE ρ3 vs = B else F x = none ∧ wipeE ρ2 vs = B) →
    acc.length + xs.length ≤ 1000000 → ∃ ρ', mLcL (xs.map u) g t e vs acc ρ = some (acc ++ xs.filterMap F, ρ') ∧ wipeE ρ' vs = B
  | [], acc, ρ, hw, _, _ => ⟨ρ, by rw [List.filterMap_nil, List.append_nil]; rfl, hw⟩
  | x :: xs, acc, ρ, hw, hs, hl => by
    obtain ⟨ρ1, e1, b, ρ2, e2, q⟩ := hs x List.mem_cons_self
    have hl : acc.length + (xs.length + 1) ≤ 1000000 := hl
    show ∃ ρ', ((g (u x) (wipeE ρ vs)).bind _) = _ ∧ _
    rw [hw, e1]
    show ∃ ρ', ((t ρ1).bind _) = _ ∧ _
    rw [e2]
    show ∃ ρ', (if b = true then _ else _) = _ ∧ _
    split at q
    · rename_i hb
      obtain ⟨y, ρ3, e3, h1, h2⟩ := q
      rw [if_pos hb, e3]
      show ∃ ρ', (if acc.length < 1000000 then _ else _) = _ ∧ _
      rw [if_pos (by omega)]
      obtain ⟨ρ', h3, h4⟩ := lcL (xs := xs) (acc := acc ++ [y]) (ρ := ρ3) h2 (fun x m => hs x (List.mem_cons_of_mem _ m)) (by rw [List.length_append, List.length_singleton]; omega)
      refine ⟨ρ', ?_, h4⟩
      rw [List.filterMap_cons_some h1]
      show mLcL (xs.map u) g t e vs (acc ++ [y]) ρ3 = _
      rw [h3, List.append_assoc]
      rfl
    · rename_i hb
      obtain ⟨h1, h2⟩ := q
      rw [if_neg hb]
      obtain ⟨ρ', h3, h4⟩ := lcL (xs := xs) (acc := acc) (ρ := ρ2) h2 (fun x m => hs x (List.mem_cons_of_mem _ m)) (by omega)
      exact ⟨ρ', by rw [List.filterMap_cons_none h1]; exact h3, h4⟩
/-- [e for x in xs if t] -/
theorem W_lcF {τ : Type} (u : τ → D) (F : τ → Option D) (xs : List τ) {mi : MI} {g : MG} {t : MT} {e : M} {vs : List Nat}
    (h : W (mi ρ) fun ds ρ1 => ds = xs.map u ∧ xs.length ≤ 1000000 ∧ QD (.list (xs.filterMap F)) ρ1 ∧ ∀ x, x ∈ xs → ∃ ρ2, g (u x) (wipeE ρ1 vs) = some ρ2 ∧ W (t ρ2) fun b ρ2 => if b = true then W (e ρ2) fun y ρ3 => F x = some y ∧ wipeE ρ3 vs = wipeE ρ1 vs else F x = none ∧ wipeE ρ2 vs = wipeE ρ1 vs) :
    W (mLc mi g t e vs ρ) QD := by
  obtain ⟨ds, ρ1, e1, rfl, hl, q, hs⟩ := h
  obtain ⟨ρ', h1, h2⟩ := lcL (acc := []) (ρ := ρ1) rfl hs (by rw [List.length_nil]; omega)
  refine ⟨.list (xs.filterMap F), ρ1, ?_, q⟩
  unfold mLc
  rw [e1]
  show (mLcL (xs.map u) g t e vs [] ρ1).map _ = _
  rw [h1]
  show some (PyData.list _, restE ρ1 vs ρ') = _
  rw [rest_same h2]
  rfl
/-- [e for x in xs] -/
theorem W_lc {τ : Type} (u : τ → D) (F : τ → D) (xs : List τ) {mi : MI} {g : MG} {e : M} {vs : List Nat}
    (h : W (mi ρ) fun ds ρ1 => ds = xs.map u ∧ xs.length ≤ 1000000 ∧ QD (.list (xs.map F)) ρ1 ∧ ∀ x, x ∈ xs → ∃ ρ2, g (u x) (wipeE ρ1 vs) = some ρ2 ∧ W (e ρ2) fun y ρ3 => y = F x ∧ wipeE ρ3 vs = wipeE ρ1 vs) :
    W (mLc mi g mYes e vs ρ) QD := by
  refine W_lcF u (fun x => some (F x)) xs (h.mono fun ds ρ1 ⟨a, b, c, k⟩ => ⟨a, b, by rw [List.filterMap_eq_map']; exact c, fun x m => ?_⟩)
  obtain ⟨ρ2, e1, q⟩ := k x m
  refine ⟨ρ2, e1, W_some.mpr ?_⟩
  rw [if_pos rfl]
  exact q.mono fun y ρ3 q => ⟨congrArg some q.1.symm, q.2⟩
theorem lc2L {τ : Type} {u : τ → D} {G : τ → List D} {g g1 : MG} {t1 : MT} {mi1 : MI} {e : M} {vs vs1 : List Nat} {B : En} : ∀ {xs : List τ} {acc : List D} {ρ : En}, wipeE ρ vs = B →
    (∀ x, x ∈ xs → ∀ acc : List D, acc.length + (G x).length ≤ 1000000 → ∃ ρ1, g (u x) B = some ρ1 ∧ W (mi1 ρ1) fun zs ρ2 => ∃ ρ3, mLcL zs g1 t1 e vs1 acc ρ2 = some (acc ++ G x, ρ3) ∧ wipeE ρ3 vs = B) →
    acc.length + (xs.flatMap G).length ≤ 1000000 → ∃ ρ', mLc2L (xs.map u) g mYes mi1 g1 t1 e vs vs1 acc ρ = some (acc ++ xs.flatMap G, ρ') ∧ wipeE ρ' vs = B
  | [], acc, ρ, hw, _, _ => ⟨ρ, by rw [List.flatMap_nil, List.append_nil]; rfl, hw⟩
  | x :: xs, acc, ρ, hw, hs, hl => by
    rw [List.flatMap_cons, List.length_append] at hl
    obtain ⟨ρ1, e1, zs, ρ2, e2, ρ3, e3, e4⟩ := hs x List.mem_cons_self acc (by omega)
    obtain ⟨ρ', h3, h4⟩ := lc2L (xs := xs) (acc := acc ++ G x) (ρ := ρ3) e4 (fun x m => hs x (List.mem_cons_of_mem _ m)) (by rw [List.length_append]; omega)
    refine ⟨ρ', ?_, h4⟩
    show (g (u x) (wipeE ρ vs)).bind _ = _
    rw [hw, e1]
    show (mi1 ρ1).bind _ = _
    rw [e2]
    show (mLcL zs g1 t1 e vs1 acc ρ2).bind _ = _
    rw [e3]
    show mLc2L (xs.map u) g mYes mi1 g1 t1 e vs vs1 (acc ++ G x) ρ3 = _
    rw [h3, List.append_assoc, List.flatMap_cons]
/-- [e for x in xs for y in ys] -/
theorem W_lc2 {τ υ : Type} (u : τ → D) (ys : τ → List υ) (v : υ → D) (F : τ → υ → D) (xs : List τ) {mi mi1 : MI} {g g1 : MG} {e : M} {vs vs1 : List Nat} (hv : ∀ i, i ∈ vs1 → i ∈ vs)
    (h : W (mi ρ) fun ds ρ1 => ds = xs.map u ∧ (xs.flatMap fun x => (ys x).map (F x)).length ≤ 1000000 ∧ QD (.list (xs.flatMap fun x => (ys x).map (F x))) ρ1 ∧ ∀ x, x ∈ xs → ∃ ρ2, g (u x) (wipeE ρ1 vs) = some ρ2 ∧ W (mi1 ρ2) fun zs ρ3 => zs = (ys x).map v ∧ wipeE ρ3 vs = wipeE ρ1 vs ∧
      ∀ y, y ∈ ys x → ∃ ρ4, g1 (v y) (wipeE ρ3 vs1) = some ρ4 ∧ W (e ρ4) fun z ρ5 => z = F x y ∧ wipeE ρ5 vs1 = wipeE ρ3 vs1) :
    W (mLc2 mi g mYes mi1 g1 mYes e vs vs1 ρ) QD := by
  obtain ⟨ds, ρ1, e1, rfl, hl, q, hs⟩ := h
  obtain ⟨ρ', h1, h2⟩ := lc2L (G := fun x => (ys x).map (F x)) (acc := []) (ρ := ρ1) (g := g) (mi1 := mi1) (g1 := g1) (t1 := mYes) (e := e) (vs := vs) (vs1 := vs1) (xs := xs) (u := u) rfl (fun x m acc ha => by
    obtain ⟨ρ2, e2, zs, ρ3, e3, rfl, e4, e5⟩ := hs x m
    refine ⟨ρ2, e2, _, ρ3, e3, ?_⟩
    obtain ⟨ρ4, h3, h4⟩ := lcL (xs := ys x) (u := v) (F := fun y => some (F x y)) (g := g1) (t := mYes) (e := e) (vs := vs1) (acc := acc) (ρ := ρ3) rfl (fun y my => by
      obtain ⟨ρ4, h5, h6⟩ := e5 y my
      refine ⟨ρ4, h5, W_some.mpr ?_⟩
      rw [if_pos rfl]
      exact h6.mono fun z ρ5 q => ⟨congrArg some q.1.symm, q.2⟩) (by rw [List.length_map] at ha; exact ha)
    refine ⟨ρ4, by rw [List.filterMap_eq_map'] at h3; exact h3, ?_⟩
    rw [← wipeE_sub (us := vs1) hv, h4, wipeE_sub hv, e4]) (by rw [List.length_nil, Nat.zero_add]; exact hl)
  refine ⟨_, ρ1, ?_, q⟩
  unfold mLc2
  rw [e1]
  show (mLc2L (xs.map u) g mYes mi1 g1 mYes e vs vs1 [] ρ1).map _ = _
  rw [h1]
  show some (PyData.list _, restE ρ1 vs ρ') = _
  rw [rest_same h2]
  rfl
end
end DL

/-! EW3: the wide operations' answers; the draws of a law, once for all laws. -/
namespace DL
open PySem PySem.Spec PyProof.Rows L2

theorem orD_l {f g : List D → Option D} {ds : List D} {d : D} (h : f ds = some d) : orD f g ds = some d := by
  unfold orD
  rw [h]
  try rfl
theorem orD_r {f g : List D → Option D} {ds : List D} (h : f ds = none) : orD f g ds = g ds := by
  unfold orD
  rw [h]
  try rfl
section
variable {i j : Int} {ds es : List D} {Q : D → En → Prop} {QS : Fl → En → Prop} {ρ : En}
@[simp] theorem dAddU_i : dAddU [.int i, .int j] = some (.int (i + j)) := rfl
@[simp] theorem dIxU_l : dIxU [.list ds, .int i] = atI ds i := by
  unfold dIxU
  show orD dIx dDget _ = _
  unfold orD
  rw [dIx_l]
  cases atI ds i <;> rfl
@[simp] theorem dIxU_t : dIxU [.tuple ds, .int i] = atI ds i := by
  unfold dIxU
  show orD dIx dDget _ = _
  unfold orD
  rw [dIx_t]
  cases atI ds i <;> rfl
@[simp] theorem dLenU_l : dLenU [.list ds] = some (.int ds.length) := rfl
@[simp] theorem dLenU_t : dLenU [.tuple ds] = some (.int ds.length) := rfl
@[simp] theorem dEqU_i : dEqU [.int i, .int j] = some (.bool (decide (i = j))) := orD_l dEq_i
@[simp] theorem dNeU_i : dNeU [.int i, .int j] = some (.bool (!decide (i = j))) := orD_l dNe_i
theorem dEqU_nil {n : Nat} (h : Eq0 n (.list ds)) (hn : n ≤ 64 := by decide) : dEqU [.list ds, .list []] = some (.bool ds.isEmpty) := orD_l (dEq_nil h hn)
theorem divX_of {d : D} (hj : 0 < j) (hJ : j < 2 ^ 64) : dDivX [.int i, .int j] = some d ↔ d = .int (i / j) := by
  have hl : j.natAbs.log2 < 9000 := by
    have h0 : j.natAbs ≠ 0 := by omega
    have : j.natAbs < 2 ^ 64 := by omega
    have := (Nat.log2_lt h0).mpr this
    omega
  show opIc _ _ [.int i, .int j] = _ ↔ _
  unfold opIc
  simp only [decide_eq_true_eq]
  rw [if_pos ⟨by omega, hl⟩, Int.fdiv_eq_ediv_of_nonneg _ (by omega)]
  exact ⟨fun h => by cases h; rfl, fun h => by rw [h]⟩
@[simp] theorem dDivX_i {d : D} (hj : 0 < j) (hJ : j < 1073741824) : dDivX [.int i, .int j] = some d ↔ d = .int (i / j) := divX_of hj (by omega)
@[simp] theorem putU_l {d z : D} : putU (.list ds) (.int j) d = some z ↔ ∃ n, ixN ds.length j = some n ∧ z = .list (ds.set n d) := by
  show (ixN ds.length j).map _ = some z ↔ _
  rw [Option.map_eq_some_iff]
  exact ⟨fun ⟨n, h1, h2⟩ => ⟨n, h1, h2.symm⟩, fun ⟨n, h1, h2⟩ => ⟨n, h1, h2.symm⟩⟩
@[simp] theorem W_putU {k : Nat} {mi mv : M} : W (mPutU k mi mv ρ) QS ↔ W (mv ρ) fun v ρ1 => ∃ d, at? ρ1 k = some d ∧ W (mi ρ1) fun x ρ2 => ∃ c, at? ρ2 k = some c ∧ ∃ z, putU c x v = some z ∧ QS .nx (ρ2.set k (some z)) := by
  unfold mPutU
  rw [W_bind]
  refine ⟨fun h => h.mono fun v ρ1 q => ?_, fun h => h.mono fun v ρ1 q => ?_⟩
  · rw [W_bind, W_br] at q
    obtain ⟨d, h1, q⟩ := q
    refine ⟨d, h1, ?_⟩
    rw [W_bind] at q
    refine q.mono fun x ρ2 q => ?_
    unfold at?
    cases e : ρ2[k]? with
    | none =>
      simp only [e] at q
      exact (W_none.mp q).elim
    | some o =>
      cases o with
      | none =>
        simp only [e] at q
        exact (W_none.mp q).elim
      | some c =>
        simp only [e] at q
        cases e2 : putU c x v with
        | none =>
          rw [e2] at q
          exact (W_none.mp q).elim
        | some z =>
          rw [e2] at q
          exact ⟨c, rfl, z, e2, W_some.mp q⟩
  · obtain ⟨d, h1, q⟩ := q
    rw [W_bind, W_br]
    refine ⟨d, h1, ?_⟩
    rw [W_bind]
    refine q.mono fun x ρ2 ⟨c, h2, z, h3, h4⟩ => ?_
    unfold at? at h2
    cases e : ρ2[k]? with
    | none =>
      rw [e] at h2
      cases h2
    | some o =>
      rw [e] at h2
      have h2 : o = some c := h2
      subst h2
      exact ⟨_, _, by simp only [e]; rw [h3]; rfl, h4⟩
end
/-! ### the draws -/
def mL_town : MS := (mRet (m2 (.ow) (.ow) (mLst (maCons (mC (.int 0)) maNil)) (mOp [.fz] (maCons (mVar 0) maNil) dList) dCat))
def fL_town : En → Option (D × En) := mFun [.fz] 0 .ow mL_town
def mL_draw : MS := (mSeq (mPutU 1 (mC (.int 0)) (m2 (.fz) (.fz) (m2 (.br 1) (.fz) (mBr 1) (mC (.int 0)) dIxU) (mC (.int 1)) dAddU))
  (mSeq (mIte (mTr (m2 (.fz) (.ow) (mVar 0) (mLst maNil) dEqU)) (mRet (m2 (.fz) (.fz) (m2 (.fz) (.fz) (m2 (.fz) (.fz) (m2 (.fz) (.fz) (m2 (.br 1) (.fz) (mBr 1) (mC (.int 0)) dIxU) (m2 (.br 1) (.fz) (mBr 1) (mC (.int 0)) dIxU) dMul) (mC (.int 7)) dMul) (mC (.int 3)) dDivX) (mVar 2) dMod)) mSkip)
  (mSeq (mSet 3 (m2 (.fz) (.fz) (m2 (.br 1) (.fz) (mBr 1) (mC (.int 0)) dIxU) (mOp [.fz] (maCons (mVar 0) maNil) dLenU) dMod))
  (mSeq (mSet 4 (m2 (.br 1) (.fz) (mBr 1) (m2 (.fz) (.fz) (mC (.int 1)) (mVar 3) dAddU) dIxU))
  (mSeq (mIte (mAnd (mTr (m2 (.fz) (.fz) (m2 (.fz) (.fz) (mVar 0) (mVar 3) dIxU) (m2 (.fz) (.fz) (mC (.int 10)) (mC (.int 18)) dPow) dGe)) (mTr (m2 (.fz) (.fz) (mVar 4) (mC (.int 0)) dGt))) (mSeq (mPutU 1 (m2 (.fz) (.fz) (mC (.int 1)) (mVar 3) dAddU) (m2 (.fz) (.fz) (mVar 4) (mVar 2) dDivX))
  (mRet (m2 (.fz) (.fz) (mVar 4) (mVar 2) dMod))) mSkip)
  (mSeq (mSet 5 (m2 (.fz) (.fz) (m2 (.fz) (.fz) (m2 (.fz) (.fz) (mVar 0) (mVar 3) dIxU) (m2 (.fz) (.fz) (mC (.int 104729)) (m2 (.br 1) (.fz) (mBr 1) (mC (.int 0)) dIxU) dMul) dAddU) (mC (.int 4294967291)) dMod))
  (mSeq (mSet 5 (m2 (.fz) (.fz) (m2 (.fz) (.fz) (mVar 5) (mC (.int 5)) dPow) (mC (.int 4294967279)) dMod))
  (mRet (m2 (.fz) (.fz) (m2 (.fz) (.fz) (m2 (.fz) (.fz) (m2 (.fz) (.fz) (m2 (.fz) (.fz) (m2 (.fz) (.fz) (mVar 5) (mC (.int 64)) dDivX) (mC (.int 69621)) dMul) (mVar 5) dAddU) (mC (.int 4294967231)) dMod) (mC (.int 8)) dDivX) (mVar 2) dMod)))))))))
def fL_draw : En → Option (D × En) := mFun [.fz, .io, .fz] 3 .fz mL_draw
def mL_pick : MS := (mRet (m2 (.fz) (.fz) (mVar 2) (mCall fL_draw [.fz, .br 1, .fz] [] (maCons (mVar 0) (maCons (mBr 1) (maCons (mOp [.fz] (maCons (mVar 2) maNil) dLenU) maNil)))) dIxU))
def fL_pick : En → Option (D × En) := mFun [.fz, .io, .fz] 0 .fz mL_pick
abbrev dI (i : Int) : D := .int i
abbrev dL (ns : List Int) : D := .list (ns.map PyData.int)
/-- the script's town behind at most k draws -/
def Town (ns : List Int) (k : Nat) (t : D) : Prop := ∃ (c : Int) (cs : List Int), t = dL (c :: cs) ∧ 0 ≤ c ∧ c ≤ k ∧ cs.length = ns.length
theorem Town.up {ns : List Int} {k k' : Nat} {t : D} (h : Town ns k t) (hk : k ≤ k') : Town ns k' t := by
  obtain ⟨c, cs, e, h1, h2, h3⟩ := h
  exact ⟨c, cs, e, h1, by omega, h3⟩
theorem map_set_int {ns : List Int} {n : Nat} {i : Int} : (ns.map PyData.int).set n (.int i) = (ns.set n i).map PyData.int := by
  rw [List.map_set]
theorem atI_ints {ns : List Int} {i : Int} (h0 : 0 ≤ i) (h1 : i < ns.length) : atI (ns.map PyData.int) i = some (.int (ns.getD i.toNat 0)) := by
  have e : i = (i.toNat : Int) := by omega
  have hl : i.toNat < ns.length := by omega
  rw [e, atI_nat (v := .int (ns.getD i.toNat 0))]
  · rfl
  · rw [List.getElem?_map, List.getD_eq_getElem?_getD, List.getElem?_eq_getElem hl]
    rfl
theorem ixN_int {n : Nat} {i : Int} (h0 : 0 ≤ i) (h1 : i < n) : ixN n i = some i.toNat := by
  have e : i = (i.toNat : Int) := by omega
  conv => lhs; rw [e]
  unfold ixN
  rw [if_pos (by omega), if_pos (by omega)]
  show some (i.toNat : Int).toNat = _
  rw [Int.toNat_natCast]
theorem town_ok {ns : List Int} (hn : ns.length ≤ 63) : W (fL_town [some (dL ns)]) fun d out => out = [none] ∧ Town ns 0 d := by
  unfold fL_town mL_town
  rw [W_fn]
  simp
  exact ⟨by omega, 0, ns, rfl, by omega, by omega, rfl⟩
theorem draw_ok {ns : List Int} {k : Nat} {t : D} {many : Int} (hT : Town ns k t) (hk : k < 1000000) (hm : 0 < many) (hM : many < 1073741824) :
    W (fL_draw [some (dL ns), some t, some (dI many)]) fun d out => ∃ r t', d = .int r ∧ 0 ≤ r ∧ r < many ∧ out = [none, some t', none] ∧ Town ns (k + 1) t' := by
  obtain ⟨c, cs, rfl, h1, h2, h3⟩ := hT
  have modlt : ∀ x : Int, 0 ≤ x % many ∧ x % many < many := fun x => ⟨Int.emod_nonneg _ (by omega), Int.emod_lt_of_pos _ hm⟩
  generalize hQ : (fun (d : D) (out : En) => ∃ r t', d = .int r ∧ 0 ≤ r ∧ r < many ∧ out = [none, some t', none] ∧ Town ns (k + 1) t') = Q
  have fin : ∀ (x : Int) (cs' : List Int), cs'.length = ns.length → Q (.int (x % many)) [none, some (dL ((c + 1) :: cs')), none] := fun x cs' hl => by
    rw [← hQ]
    exact ⟨_, _, rfl, (modlt x).1, (modlt x).2, rfl, c + 1, cs', rfl, by omega, by omega, hl⟩
  have finL : ∀ (x : Int) (ds : List D) (cs' : List Int), ds = cs'.map PyData.int → cs'.length = ns.length → Q (.int (x % many)) [none, some (.list (.int (c + 1) :: ds)), none] := fun x ds cs' e hl => by
    rw [e]
    exact fin x cs' hl
  unfold fL_draw mL_draw
  rw [W_fn, W_seq]
  simp
  rw [W_seq]
  simp [dEqU_nil Eq0.ints]
  cases ns with
  | nil =>
    simp [hm]
    refine ⟨mulOk_of (by omega) (by omega), mulOk_of ?_ (by omega), finL _ _ cs rfl h3⟩
    rw [Int.natAbs_mul]
    exact Nat.lt_of_le_of_lt (Nat.mul_le_mul (show (c + 1).natAbs ≤ 1000001 by omega) (show (c + 1).natAbs ≤ 1000001 by omega)) (by decide)
  | cons n0 ns0 =>
    have hl : (0 : Int) < ↑ns0.length + 1 := by omega
    have hl3 : cs.length = ns0.length + 1 := h3
    simp
    rw [W_seq]
    simp [hl]
    have p1 := Int.emod_nonneg (c + 1) (show ((ns0.length : Int) + 1) ≠ 0 by omega)
    have p2 := Int.emod_lt_of_pos (c + 1) hl
    generalize (c + 1) % ((ns0.length : Int) + 1) = at_ at p1 p2 ⊢
    have h5 : atI (PyData.int (c + 1) :: cs.map PyData.int) (1 + at_) = some (.int (((c + 1) :: cs).getD (1 + at_).toNat 0)) := atI_ints (ns := (c + 1) :: cs) (by omega) (by rw [List.length_cons]; omega)
    generalize ((c + 1) :: cs).getD (1 + at_).toNat 0 = left at h5
    have h6 : atI (PyData.int n0 :: ns0.map PyData.int) at_ = some (.int ((n0 :: ns0).getD at_.toNat 0)) := atI_ints (ns := n0 :: ns0) (by omega) (by rw [List.length_cons]; omega)
    generalize (n0 :: ns0).getD at_.toNat 0 = cell at h6
    rw [W_seq]
    simp [h5]
    rw [W_seq]
    simp [h6]
    have rest : ∀ ρ : En, ρ = [some (dL (n0 :: ns0)), some (.list (.int (c + 1) :: cs.map PyData.int)), some (dI many), some (dI at_), some (dI left), none] → W (mSeq (mSet 5 (m2 (.fz) (.fz) (m2 (.fz) (.fz) (m2 (.fz) (.fz) (mVar 0) (mVar 3) dIxU) (m2 (.fz) (.fz) (mC (.int 104729)) (m2 (.br 1) (.fz) (mBr 1) (mC (.int 0)) dIxU) dMul) dAddU) (mC (.int 4294967291)) dMod))
  (mSeq (mSet 5 (m2 (.fz) (.fz) (m2 (.fz) (.fz) (mVar 5) (mC (.int 5)) dPow) (mC (.int 4294967279)) dMod))
  (mRet (m2 (.fz) (.fz) (m2 (.fz) (.fz) (m2 (.fz) (.fz) (m2 (.fz) (.fz) (m2 (.fz) (.fz) (m2 (.fz) (.fz) (mVar 5) (mC (.int 64)) dDivX) (mC (.int 69621)) dMul) (mVar 5) dAddU) (mC (.int 4294967231)) dMod) (mC (.int 8)) dDivX) (mVar 2) dMod))) ρ) (fnK [.fz, .io, .fz] .fz Q) := by
      rintro ρ rfl
      rw [W_seq]
      simp [h6]
      have q1 := Int.emod_nonneg (cell + 104729 * (c + 1)) (show (4294967291 : Int) ≠ 0 by decide)
      have q2 := Int.emod_lt_of_pos (cell + 104729 * (c + 1)) (show (0 : Int) < 4294967291 by decide)
      generalize (cell + 104729 * (c + 1)) % 4294967291 = x at q1 q2 ⊢
      refine ⟨mulOk_of (by omega) (by omega), ?_⟩
      rw [W_seq]
      simp
      refine ⟨by omega, ?_⟩
      have q3 := Int.emod_nonneg (x ^ 5) (show (4294967279 : Int) ≠ 0 by decide)
      have q4 := Int.emod_lt_of_pos (x ^ 5) (show (0 : Int) < 4294967279 by decide)
      generalize x ^ 5 % 4294967279 = y at q3 q4 ⊢
      simp [hm]
      exact ⟨mulOk_of (by omega) (by omega), finL _ _ cs rfl h3⟩
    by_cases z1 : (10 : Int) ^ 18 ≤ cell <;> by_cases z2 : (0 : Int) < left
    all_goals simp at z1
    all_goals simp [z1, z2]
    · refine .inr (.inr ?_)
      rw [W_seq]
      simp [hm, hM]
      refine ⟨_, ⟨(1 + at_).toNat, ixN_int (by omega) (by omega), rfl⟩, ?_⟩
      have e : (1 + at_).toNat = at_.toNat + 1 := by omega
      rw [e, List.set_cons_succ, map_set_int]
      exact finL _ _ _ rfl (by rw [List.length_set]; exact h3)
    all_goals first | exact rest _ rfl | exact .inl (rest _ rfl) | exact .inl ⟨by omega, rest _ rfl⟩ | exact .inr ⟨by omega, rest _ rfl⟩ | exact .inr (.inl ⟨by omega, rest _ rfl⟩)
theorem atI_mem {α : Type} {xs : List α} {i : Int} (h0 : 0 ≤ i) (h1 : i < xs.length) : ∃ v, atI xs i = some v ∧ v ∈ xs := by
  have e : i = (i.toNat : Int) := by omega
  have hl : i.toNat < xs.length := by omega
  refine ⟨xs[i.toNat], ?_, List.getElem_mem _⟩
  exact (congrArg (atI xs) e).trans (atI_nat (List.getElem?_eq_getElem hl))
theorem pick_ok {ns : List Int} {k : Nat} {t : D} {xs : List D} (hT : Town ns k t) (hk : k < 1000000) (hm : 0 < xs.length) (hM : xs.length < 1073741824) :
    W (fL_pick [some (dL ns), some t, some (.list xs)]) fun d out => ∃ t', d ∈ xs ∧ out = [none, some t', none] ∧ Town ns (k + 1) t' := by
  unfold fL_pick mL_pick
  rw [W_fn]
  simp
  refine (draw_ok hT hk (many := xs.length) (by omega) (by omega)).mono fun d out ⟨r, t', e1, h1, h2, e2, h3⟩ => ?_
  subst e1 e2
  obtain ⟨v, h4, h5⟩ := atI_mem h1 h2
  simp
  exact ⟨v, h4, h5, h3⟩
/-! ### a law's steps -/
theorem mSeq_assoc {a b c : MS} : mSeq (mSeq a b) c = mSeq a (mSeq b c) := by
  funext ρ
  show ((a ρ).bind _).bind _ = (a ρ).bind _
  cases h : a ρ with
  | none => rfl
  | some p =>
    obtain ⟨f, ρ1⟩ := p
    cases f <;> rfl
theorem W_seq_eq {a b : MS} {ρ ρ1 : En} {Q : Fl → En → Prop} (h : a ρ = some (.nx, ρ1)) (k : W (b ρ1) Q) : W (mSeq a b ρ) Q := by
  rw [W_seq, W_eq h]
  exact k
/-- the script's town at the start -/
theorem W_town {ns : List Int} {b : MS} {rest : En} {Q : Fl → En → Prop} (hn : ns.length ≤ 63) (o1 : Option D) (k : ∀ t, Town ns 0 t → W (b (some (dL ns) :: some t :: rest)) Q) :
    W (mSeq (mSet 1 (mCall fL_town [.fz] [] (maCons (mVar 0) maNil))) b (some (dL ns) :: o1 :: rest)) Q := by
  rw [W_seq]
  simp
  refine (town_ok hn).mono fun d out ⟨e, h⟩ => ?_
  subst e
  simp
  exact k d h
/-- a pick into slot i -/
theorem W_pick {ns : List Int} {k : Nat} {t : D} {lst : M} {xs : List D} {b : MS} {rest : En} {Q : Fl → En → Prop} (i : Nat) (hT : Town ns k t) (hk : k < 1000000) (hl : lst (some (dL ns) :: some t :: rest) = some (.list xs, some (dL ns) :: some t :: rest)) (hx : 0 < xs.length ∧ xs.length < 1073741824)
    (h : ∀ t', Town ns (k + 1) t' → ∀ d ∈ xs, W (b (some (dL ns) :: some t' :: rest.set i (some d))) Q) :
    W (mSeq (mSet (i + 2) (mCall fL_pick [.fz, .br 1, .fz] [] (maCons (mVar 0) (maCons (mBr 1) (maCons lst maNil))))) b (some (dL ns) :: some t :: rest)) Q := by
  rw [W_seq]
  simp
  rw [W_eq hl]
  simp
  refine (pick_ok hT hk hx.1 hx.2).mono fun d out ⟨t', h1, h2, h3⟩ => ?_
  subst h2
  simp
  exact h t' h3 d h1
/-- a value of a slot behind a step -/
def slV (x : Option (Fl × En)) (i : Nat) : Option D := match x with
  | some (_, ρ) => at? ρ i
  | none => none
def isRT (x : Option (Fl × En)) : Bool := match x with
  | some (.rt (.bool b), _) => b
  | _ => false
theorem W_isRT {x : Option (Fl × En)} {O : List Kd} (h : isRT x = true) : W x (fnK O .fz fun d _ => d = .bool true) := by
  unfold isRT at h
  split at h
  · rename_i b ρ
    subst h
    rw [W_some]
    rfl
  · cases h
/-! ### the world's one open word that a call by a special name asks -/
def setFT (b : Bool) (w : World) : World := { w with params := { w.params with followText := fun s => if s = "special-get-raises" then b else w.params.followText s } }
theorem setFT_eq (w : World) : setFT (w.params.followText "special-get-raises") w = w := by
  have e : (fun s => if s = "special-get-raises" then w.params.followText "special-get-raises" else w.params.followText s) = w.params.followText := funext fun s => by
    by_cases h : s = "special-get-raises"
    · rw [if_pos h, h]
    · rw [if_neg h]
  unfold setFT
  rw [e]
end DL

namespace DL
open PySem PySem.Spec PyProof.Rows L2
/-! ### the text's defs, each as a function on data -/
def topS (i : Nat) : Stmt := PySem.Challenge.pw_codemill_k14_whole_reckoning.main.body.getD i (.Pass ⟨0, 0, 0, 0⟩)
def clsS (s : Stmt) (j : Nat) : Stmt := match s with
  | .ClassDef (body := b) .. => b.getD j (.Pass ⟨0, 0, 0, 0⟩)
  | s => s
abbrev A_Walk : List Str := ["rows", "where", "held", "pile", "shields", "out", "trail", "last", "at"]
structure Ct (K : PySem.W.Frag) (w : World) (mg : Str → Option Value) : Prop where
  BARE : GC K mg "BARE" (.tuple [(.str "add"), (.str "sub"), (.str "mul"), (.str "div"), (.str "rest"), (.str "less"), (.str "same"), (.str "drop"), (.str "neg"), (.str "not"), (.str "tell"), (.str "return"), (.str "raise"), (.str "endtry")])
  BEGIN : GC K mg "BEGIN" (.tuple [(.int 0), (.tuple [])])
  BIG : GC K mg "BIG" (.int 1000000000000000000)
  BRANCHES : GC K mg "BRANCHES" (.tuple [(.str "iftrue"), (.str "iffalse"), (.str "ortrue"), (.str "orfalse")])
  CAPITALS : GC K mg "CAPITALS" (.str "ABCDEFGHIJKLMNOPQRSTUVWXYZ")
  COUNTED : GD K w mg "COUNTED" [("copy", (.int 1)), ("swap", (.int 2))]
  FAULTY : GC K mg "FAULTY" (.tuple [(.str "load"), (.str "clear"), (.str "add"), (.str "sub"), (.str "mul"), (.str "div"), (.str "rest"), (.str "less"), (.str "neg"), (.str "raise")])
  GREAT : GC K mg "GREAT" (.int 1000000000)
  JUMPS : GC K mg "JUMPS" (.tuple [(.str "jump"), (.str "iftrue"), (.str "iffalse"), (.str "ortrue"), (.str "orfalse"), (.str "try")])
  LETTERS : GC K mg "LETTERS" (.str "abcdefghijklmnopqrstuvwxyz")
  MOST_ROWS : GC K mg "MOST_ROWS" (.int 150)
  MOST_STEPS : GC K mg "MOST_STEPS" (.int 100000)
  NAMED : GC K mg "NAMED" (.tuple [(.str "load"), (.str "quick"), (.str "store"), (.str "clear")])
  PAIRED : GC K mg "PAIRED" (.tuple [(.str "add"), (.str "sub"), (.str "mul"), (.str "div"), (.str "rest"), (.str "less"), (.str "same")])
  PSEUDO : GC K mg "PSEUDO" (.tuple [(.str "label"), (.str "try"), (.str "endtry")])
  VALUES : GC K mg "VALUES" (.tuple [(.str "push")])
  at_Walk_rows : ClsF K "Walk" "rows"
  at_Walk_where : ClsF K "Walk" "where"
  at_Walk_held : ClsF K "Walk" "held"
  at_Walk_pile : ClsF K "Walk" "pile"
  at_Walk_shields : ClsF K "Walk" "shields"
  at_Walk_out : ClsF K "Walk" "out"
  at_Walk_trail : ClsF K "Walk" "trail"
  at_Walk_last : ClsF K "Walk" "last"
  at_Walk_at : ClsF K "Walk" "at"
abbrev s_is_number : Stmt := topS 17
abbrev N_is_number : List Str := ["thing", "least", "most"]
theorem sc_is_number : FnScope N_is_number ["thing", "least", "most"] (defScope s_is_number) := ⟨rfl, rfl, rfl, by decide +kernel, rfl, by decide +kernel, by decide +kernel⟩
abbrev O_is_number : List Kd := [.fz, .fz, .fz]
def m_is_number : MS := (mRet (mAndV (m1 (.fz) (mVar 0) (dIs "int")) (mAndV (mNotV (m1 (.fz) (mVar 0) (dIs "bool"))) (mChain (fun i j => decide (i ≤ j)) (fun i j => decide (i ≤ j)) (mVar 1) (mVar 0) (mVar 2)))))
def f_is_number : En → Option (D × En) := mFun [.fz, .fz, .fz] 0 .fz m_is_number
theorem ok_is_number {P : Program} {w : World} {K : PySem.W.Frag} {mg : Str → Option Value} {base : Heap} {f : Addr} {fd : FuncData} (F : FunD K "is_number" "is_number" (defArgs s_is_number) (defBody s_is_number) (defScope s_is_number) [] [] f fd) (B : Bt mg) (C : Ct K w mg) :
    FnG P w K mg base CX0 1 f fd ["thing", "least", "most"] (spF K [.fz, .fz, .fz] f_is_number .fz) :=
  fn_data (Oi := [.fz, .fz, .fz]) (Ol := []) (r := .fz) F sc_is_number rfl rfl rfl (fun _ z => by cases z) fun cd A outer s H E hgd hr =>
    have hu := hu65 hr
    (s_one (s_ret (e_and (e_isi B.isinstance B.int (by decide +kernel) (e_var 0)) (e_and (e_not (e_isi B.isinstance B.bool (by decide +kernel) (e_var 0))) (e_one (e_chain op_le op_le (e_var 1) (e_var 0) (e_var 2)))))))
abbrev s_is_name : Stmt := topS 18
abbrev N_is_name : List Str := ["thing", "sign"]
theorem sc_is_name : FnScope N_is_name ["thing"] (defScope s_is_name) := ⟨rfl, rfl, rfl, by decide +kernel, rfl, by decide +kernel, by decide +kernel⟩
abbrev O_is_name : List Kd := [.fz, .fz]
def m_is_name : MS := (mRet (mAndV (m1 (.fz) (mVar 0) (dIs "str")) (mAndV (mChain (fun i j => decide (i ≤ j)) (fun i j => decide (i ≤ j)) (mC (.int 1)) (mOp [.fz] (maCons (mVar 0) maNil) dLenU) (mC (.int 4))) (mOp [.ow] (maCons (mLc (mItU (mVar 0)) (mgN 1) mYes (m2 (.fz) (.fz) (mVar 1) (mC (.str "abcdefghijklmnopqrstuvwxyz")) dInU) [1]) maNil) dAll))))
def f_is_name : En → Option (D × En) := mFun [.fz] 1 .fz m_is_name
theorem ok_is_name {P : Program} {w : World} {K : PySem.W.Frag} {mg : Str → Option Value} {base : Heap} {f : Addr} {fd : FuncData} (F : FunD K "is_name" "is_name" (defArgs s_is_name) (defBody s_is_name) (defScope s_is_name) [] [] f fd) (B : Bt mg) (C : Ct K w mg) :
    FnG P w K mg base CX0 1 f fd ["thing"] (spF K [.fz] f_is_name .fz) :=
  fn_data (Oi := [.fz]) (Ol := [.fz]) (r := .fz) F sc_is_name rfl rfl rfl (fun _ z => by cases z) fun cd A outer s H E hgd hr =>
    have hu := hu65 hr
    (s_one (s_ret (e_and (e_isi B.isinstance B.str (by decide +kernel) (e_var 0)) (e_and (e_chain op_le op_le e_int (e_lenU B (a_cons (e_var 0) a_nil)) e_int) (e_one (e_all B rfl (a_cons (e_lc (own := [("sign", 1)]) (L := O_is_name) rfl sc_is_name.nd (i_any (e_var 0)) (blkOk_by (N := N_is_name) (sc := defScope s_is_name) (by decide +kernel)) (fun _ _ _ _ _ => (g_name 1 sc_is_name.nd)) (fun _ _ _ _ _ => ts_nil) (fun _ _ _ _ _ => (e_in hu (e_var 1) (e_gc C.LETTERS)))) a_nil)))))))
abbrev s_is_kind : Stmt := topS 19
abbrev N_is_kind : List Str := ["thing", "sign"]
theorem sc_is_kind : FnScope N_is_kind ["thing"] (defScope s_is_kind) := ⟨rfl, rfl, rfl, by decide +kernel, rfl, by decide +kernel, by decide +kernel⟩
abbrev O_is_kind : List Kd := [.fz, .fz]
def m_is_kind : MS := (mRet (mAndV (m1 (.fz) (mVar 0) (dIs "str")) (mAndV (mChain (fun i j => decide (i ≤ j)) (fun i j => decide (i ≤ j)) (mC (.int 1)) (mOp [.fz] (maCons (mVar 0) maNil) dLenU) (mC (.int 8))) (mOp [.ow] (maCons (mLc (mItU (mVar 0)) (mgN 1) mYes (m2 (.fz) (.fz) (mVar 1) (m2 (.fz) (.fz) (mC (.str "abcdefghijklmnopqrstuvwxyz")) (mC (.str "ABCDEFGHIJKLMNOPQRSTUVWXYZ")) dAddU) dInU) [1]) maNil) dAll))))
def f_is_kind : En → Option (D × En) := mFun [.fz] 1 .fz m_is_kind
theorem ok_is_kind {P : Program} {w : World} {K : PySem.W.Frag} {mg : Str → Option Value} {base : Heap} {f : Addr} {fd : FuncData} (F : FunD K "is_kind" "is_kind" (defArgs s_is_kind) (defBody s_is_kind) (defScope s_is_kind) [] [] f fd) (B : Bt mg) (C : Ct K w mg) :
    FnG P w K mg base CX0 1 f fd ["thing"] (spF K [.fz] f_is_kind .fz) :=
  fn_data (Oi := [.fz]) (Ol := [.fz]) (r := .fz) F sc_is_kind rfl rfl rfl (fun _ z => by cases z) fun cd A outer s H E hgd hr =>
    have hu := hu65 hr
    (s_one (s_ret (e_and (e_isi B.isinstance B.str (by decide +kernel) (e_var 0)) (e_and (e_chain op_le op_le e_int (e_lenU B (a_cons (e_var 0) a_nil)) e_int) (e_one (e_all B rfl (a_cons (e_lc (own := [("sign", 1)]) (L := O_is_kind) rfl sc_is_kind.nd (i_any (e_var 0)) (blkOk_by (N := N_is_kind) (sc := defScope s_is_kind) (by decide +kernel)) (fun _ _ _ _ _ => (g_name 1 sc_is_kind.nd)) (fun _ _ _ _ _ => ts_nil) (fun _ _ _ _ _ => (e_in hu (e_var 1) (e_add (e_gc C.LETTERS) (e_gc C.CAPITALS))))) a_nil)))))))
abbrev s_is_value : Stmt := topS 20
abbrev N_is_value : List Str := ["thing", "most"]
theorem sc_is_value : FnScope N_is_value ["thing", "most"] (defScope s_is_value) := ⟨rfl, rfl, rfl, by decide +kernel, rfl, by decide +kernel, by decide +kernel⟩
abbrev O_is_value : List Kd := [.fz, .fz]
def m_is_value : MS := (mRet (mOrV (m2 (.fz) (.fz) (mVar 0) (mC .none) dIsN) (mOrV (m1 (.fz) (mVar 0) (dIs "bool")) (mOrV (mCall f_is_number [.fz, .fz, .fz] [] (maCons (mVar 0) (maCons (m1 (.fz) (mVar 1) dNeg) (maCons (mVar 1) maNil)))) (mCall f_is_kind [.fz] [] (maCons (mVar 0) maNil))))))
def f_is_value : En → Option (D × En) := mFun [.fz, .fz] 0 .fz m_is_value
theorem ok_is_value {P : Program} {w : World} {K : PySem.W.Frag} {mg : Str → Option Value} {base : Heap} {f : Addr} {fd : FuncData} (F : FunD K "is_value" "is_value" (defArgs s_is_value) (defBody s_is_value) (defScope s_is_value) [] [] f fd) (B : Bt mg) (C : Ct K w mg) (G_is_kind : FnX P w K mg base "is_kind" 1 ["thing"] (spF K [.fz] f_is_kind .fz)) (G_is_number : FnX P w K mg base "is_number" 1 ["thing", "least", "most"] (spF K [.fz, .fz, .fz] f_is_number .fz)) :
    FnG P w K mg base CX0 2 f fd ["thing", "most"] (spF K [.fz, .fz] f_is_value .fz) :=
  fn_data (Oi := [.fz, .fz]) (Ol := []) (r := .fz) F sc_is_value rfl rfl rfl (fun _ z => by cases z) fun cd A outer s H E hgd hr =>
    have hu := hu65 hr
    (s_one (s_ret (e_or (e_cmp op_isN1 s_isN (e_var 0) e_non) (e_or (e_isi B.isinstance B.bool (by decide +kernel) (e_var 0)) (e_or (e_callX G_is_number hgd hr (a_cons (e_var 0) (a_cons (e_un un_neg s_neg (e_var 1)) (a_cons (e_var 1) a_nil)))) (e_one (e_callX G_is_kind hgd hr (a_cons (e_var 0) a_nil))))))))
abbrev s_is_mark : Stmt := topS 21
abbrev N_is_mark : List Str := ["thing"]
theorem sc_is_mark : FnScope N_is_mark ["thing"] (defScope s_is_mark) := ⟨rfl, rfl, rfl, by decide +kernel, rfl, by decide +kernel, by decide +kernel⟩
abbrev O_is_mark : List Kd := [.fz]
def m_is_mark : MS := (mRet (mCall f_is_number [.fz, .fz, .fz] [] (maCons (mVar 0) (maCons (mC (.int 0)) (maCons (mC (.int 99)) maNil)))))
def f_is_mark : En → Option (D × En) := mFun [.fz] 0 .fz m_is_mark
theorem ok_is_mark {P : Program} {w : World} {K : PySem.W.Frag} {mg : Str → Option Value} {base : Heap} {f : Addr} {fd : FuncData} (F : FunD K "is_mark" "is_mark" (defArgs s_is_mark) (defBody s_is_mark) (defScope s_is_mark) [] [] f fd) (B : Bt mg) (C : Ct K w mg) (G_is_number : FnX P w K mg base "is_number" 1 ["thing", "least", "most"] (spF K [.fz, .fz, .fz] f_is_number .fz)) :
    FnG P w K mg base CX0 2 f fd ["thing"] (spF K [.fz] f_is_mark .fz) :=
  fn_data (Oi := [.fz]) (Ol := []) (r := .fz) F sc_is_mark rfl rfl rfl (fun _ z => by cases z) fun cd A outer s H E hgd hr =>
    have hu := hu65 hr
    (s_one (s_ret (e_callX G_is_number hgd hr (a_cons (e_var 0) (a_cons e_int (a_cons e_int a_nil))))))
abbrev s_is_row : Stmt := topS 22
abbrev N_is_row : List Str := ["thing", "op", "arg", "line"]
theorem sc_is_row : FnScope N_is_row ["thing"] (defScope s_is_row) := ⟨rfl, rfl, rfl, by decide +kernel, rfl, by decide +kernel, by decide +kernel⟩
abbrev O_is_row : List Kd := [.fz, .fz, .fz, .fz]
def m_is_row : MS := (mSeq (mIte (mOr (mNot (mTr (m1 (.fz) (mVar 0) (dIs "tuple")))) (mOr (mTr (m2 (.fz) (.fz) (mOp [.fz] (maCons (mVar 0) maNil) dLenU) (mC (.int 3)) dNeU)) (mNot (mTr (m1 (.fz) (m2 (.fz) (.fz) (mVar 0) (mC (.int 0)) dIxU) (dIs "str")))))) (mRet (mC (.bool false))) mSkip)
  (mSeq (mAsg (mgT 3 (mgCons (mgN 1) (mgCons (mgN 2) (mgCons (mgN 3) mgNil)))) (mVar 0))
  (mSeq (mIte (mNot (mTr (mCall f_is_number [.fz, .fz, .fz] [] (maCons (mVar 3) (maCons (mC (.int 0)) (maCons (mC (.int 9999)) maNil)))))) (mRet (mC (.bool false))) mSkip)
  (mSeq (mIte (mTr (m1 (.fz) (mVar 1) (dKin false [("copy", (.int 1)), ("swap", (.int 2))]))) (mRet (mCall f_is_number [.fz, .fz, .fz] [] (maCons (mVar 2) (maCons (m1 (.fz) (mVar 1) (dKget [("copy", (.int 1)), ("swap", (.int 2))])) (maCons (mC (.int 9)) maNil))))) mSkip)
  (mSeq (mIte (mTr (m2 (.fz) (.fz) (mVar 1) (mC (.tuple [(.str "load"), (.str "quick"), (.str "store"), (.str "clear")])) dInU)) (mRet (mCall f_is_name [.fz] [] (maCons (mVar 2) maNil))) mSkip)
  (mSeq (mIte (mOr (mTr (m2 (.fz) (.fz) (mVar 1) (mC (.str "label")) dEqU)) (mTr (m2 (.fz) (.fz) (mVar 1) (mC (.tuple [(.str "jump"), (.str "iftrue"), (.str "iffalse"), (.str "ortrue"), (.str "orfalse"), (.str "try")])) dInU))) (mRet (mCall f_is_mark [.fz] [] (maCons (mVar 2) maNil))) mSkip)
  (mRet (mIf (mTr (m2 (.fz) (.fz) (mVar 1) (mC (.tuple [(.str "push")])) dInU)) (mCall f_is_value [.fz, .fz] [] (maCons (mVar 2) (maCons (mC (.int 1000000000)) maNil))) (mAndV (m2 (.fz) (.fz) (mVar 1) (mC (.tuple [(.str "add"), (.str "sub"), (.str "mul"), (.str "div"), (.str "rest"), (.str "less"), (.str "same"), (.str "drop"), (.str "neg"), (.str "not"), (.str "tell"), (.str "return"), (.str "raise"), (.str "endtry")])) dInU) (m2 (.fz) (.fz) (mVar 2) (mC .none) dIsN))))))))))
def f_is_row : En → Option (D × En) := mFun [.fz] 3 .fz m_is_row
theorem ok_is_row {P : Program} {w : World} {K : PySem.W.Frag} {mg : Str → Option Value} {base : Heap} {f : Addr} {fd : FuncData} (F : FunD K "is_row" "is_row" (defArgs s_is_row) (defBody s_is_row) (defScope s_is_row) [] [] f fd) (B : Bt mg) (C : Ct K w mg) (G_is_mark : FnX P w K mg base "is_mark" 2 ["thing"] (spF K [.fz] f_is_mark .fz)) (G_is_name : FnX P w K mg base "is_name" 1 ["thing"] (spF K [.fz] f_is_name .fz)) (G_is_number : FnX P w K mg base "is_number" 1 ["thing", "least", "most"] (spF K [.fz, .fz, .fz] f_is_number .fz)) (G_is_value : FnX P w K mg base "is_value" 2 ["thing", "most"] (spF K [.fz, .fz] f_is_value .fz)) :
    FnG P w K mg base CX0 3 f fd ["thing"] (spF K [.fz] f_is_row .fz) :=
  fn_data (Oi := [.fz]) (Ol := [.fz, .fz, .fz]) (r := .fz) F sc_is_row rfl rfl rfl (fun _ z => by cases z) fun cd A outer s H E hgd hr =>
    have hu := hu65 hr
    (s_cons (s_if (PW.pt (w_or (t_not (t_val (e_isi B.isinstance B.tuple (by decide +kernel) (e_var 0)))) (w_or (t_ne hu (e_lenU B (a_cons (e_var 0) a_nil)) e_int) (w_or1 (t_not (t_val (e_isi B.isinstance B.str (by decide +kernel) (e_ixU hu (e_var 0) e_int)))))))) (s_one (s_ret e_bl)) s_nil)
    (s_cons (s_asg (e_var 0) (g_tup rfl (gs_cons (g_name 1 sc_is_row.nd) (gs_cons (g_name 2 sc_is_row.nd) (gs_cons (g_name 3 sc_is_row.nd) gs_nil)))))
    (s_cons (s_if (t_not (t_val (e_callX G_is_number hgd hr (a_cons (e_var 3) (a_cons e_int (a_cons e_int a_nil)))))) (s_one (s_ret e_bl)) s_nil)
    (s_cons (s_if (t_kin C.COUNTED (e_var 1)) (s_one (s_ret (e_callX G_is_number hgd hr (a_cons (e_var 2) (a_cons (e_kget C.COUNTED (e_var 1)) (a_cons e_int a_nil)))))) s_nil)
    (s_cons (s_if (t_in hu (e_var 1) (e_gc C.NAMED)) (s_one (s_ret (e_callX G_is_name hgd hr (a_cons (e_var 2) a_nil)))) s_nil)
    (s_cons (s_if (PW.pt (w_or (t_eq hu (e_var 1) e_str) (w_or1 (t_in hu (e_var 1) (e_gc C.JUMPS))))) (s_one (s_ret (e_callX G_is_mark hgd hr (a_cons (e_var 2) a_nil)))) s_nil)
    (s_one (s_ret (e_if (t_in hu (e_var 1) (e_gc C.VALUES)) (e_callX G_is_value hgd hr (a_cons (e_var 2) (a_cons (e_gc C.GREAT) a_nil))) (e_and (e_in hu (e_var 1) (e_gc C.BARE)) (e_one (e_cmp op_isN1 s_isN (e_var 2) e_non))))))))))))
abbrev s_bad_place : Stmt := topS 23
abbrev N_bad_place : List Str := ["code", "marks", "seen", "at", "row"]
theorem sc_bad_place : FnScope N_bad_place ["code"] (defScope s_bad_place) := ⟨rfl, rfl, rfl, by decide +kernel, rfl, by decide +kernel, by decide +kernel⟩
abbrev O_bad_place : List Kd := [.fz, .fz, .ow, .fz, .fz]
def m_bad_place : MS := (mSeq (mSet 1 (mLc (mItU (mVar 0)) (mgN 4) (mAnd (mTr (mCall f_is_row [.fz] [] (maCons (mVar 4) maNil))) (mTr (m2 (.fz) (.fz) (m2 (.fz) (.fz) (mVar 4) (mC (.int 0)) dIxU) (mC (.str "label")) dEqU))) (m2 (.fz) (.fz) (mVar 4) (mC (.int 1)) dIxU) [4]))
  (mSeq (mSet 2 (mLst maNil))
  (mSeq (mFor (mIt2 [.fz] (maCons (mVar 0) maNil) dEnum) (mgT 2 (mgCons (mgN 3) (mgCons (mgN 4) mgNil))) (mSeq (mIte (mOr (mNot (mTr (mCall f_is_row [.fz] [] (maCons (mVar 4) maNil)))) (mAnd (mTr (m2 (.fz) (.fz) (m2 (.fz) (.fz) (mVar 4) (mC (.int 0)) dIxU) (mC (.tuple [(.str "jump"), (.str "iftrue"), (.str "iffalse"), (.str "ortrue"), (.str "orfalse"), (.str "try")])) dInU)) (mTr (m2 (.fz) (.fz) (m2 (.fz) (.fz) (mVar 4) (mC (.int 1)) dIxU) (mVar 1) dNinU)))) (mRet (mVar 3)) mSkip)
  (mIte (mTr (m2 (.fz) (.fz) (m2 (.fz) (.fz) (mVar 4) (mC (.int 0)) dIxU) (mC (.str "label")) dEqU)) (mSeq (mIte (mTr (m2 (.fz) (.br 2) (m2 (.fz) (.fz) (mVar 4) (mC (.int 1)) dIxU) (mBr 2) dInU)) (mRet (mVar 3)) mSkip)
  (mDrop (mMut 2 "list" (maCons (m2 (.fz) (.fz) (mVar 4) (mC (.int 1)) dIxU) maNil) dAppend))) mSkip)))
  (mRet (mC .none)))))
def f_bad_place : En → Option (D × En) := mFun [.fz] 4 .fz m_bad_place
theorem ok_bad_place {P : Program} {w : World} {K : PySem.W.Frag} {mg : Str → Option Value} {base : Heap} {f : Addr} {fd : FuncData} (F : FunD K "bad_place" "bad_place" (defArgs s_bad_place) (defBody s_bad_place) (defScope s_bad_place) [] [] f fd) (B : Bt mg) (C : Ct K w mg) (G_is_row : FnX P w K mg base "is_row" 3 ["thing"] (spF K [.fz] f_is_row .fz)) :
    FnG P w K mg base CX0 4 f fd ["code"] (spF K [.fz] f_bad_place .fz) :=
  fn_data (Oi := [.fz]) (Ol := [.fz, .ow, .fz, .fz]) (r := .fz) F sc_bad_place rfl rfl rfl (fun _ z => by cases z) fun cd A outer s H E hgd hr =>
    have hu := hu65 hr
    (s_cons (s_lcF 1 (own := [("row", 4)]) (L := O_bad_place) rfl sc_bad_place.nd (i_any (e_var 0)) (blkOk_by (N := N_bad_place) (sc := defScope s_bad_place) (by decide +kernel)) (fun _ _ _ _ _ => (g_name 4 sc_bad_place.nd)) (fun _ _ _ _ _ => (ts_one (PW.pt (w_and (t_val (e_callX G_is_row hgd hr (a_cons (e_var 4) a_nil))) (w_and1 (t_eq hu (e_ixU hu (e_var 4) e_int) e_str)))))) (fun _ _ _ _ _ => (e_ixU hu (e_var 4) e_int)) (sw_true rfl rfl rfl (by decide +kernel)))
    (s_cons (s_setO 2 sc_bad_place.nd (e_lst a_nil))
    (s_cons (s_for (L := O_bad_place) PassesOwn.never rfl (i_enum B.enumerate (a_cons (e_var 0) a_nil)) (g_tup rfl (gs_cons (g_name 3 sc_bad_place.nd) (gs_cons (g_name 4 sc_bad_place.nd) gs_nil))) (s_cons (s_if (PW.pt (w_or (t_not (t_val (e_callX G_is_row hgd hr (a_cons (e_var 4) a_nil)))) (w_or1 (PW.pt (w_and (t_in hu (e_ixU hu (e_var 4) e_int) (e_gc C.JUMPS)) (w_and1 (t_nin hu (e_ixU hu (e_var 4) e_int) (e_var 1)))))))) (s_one (s_ret (e_var 3))) s_nil)
    (s_one (s_if (t_eq hu (e_ixU hu (e_var 4) e_int) e_str) (s_cons (s_if (t_in hu (e_ixU hu (e_var 4) e_int) (e_br 2)) (s_one (s_ret (e_var 3))) s_nil)
    (s_one (s_expr (e_mut 2 PySem.F.plainAttrs_list PySem.F.slot_list_append PySem.F.type_list_append mt_append ms_append (e_br 2) (a_cons (e_ixU hu (e_var 4) e_int) a_nil))))) s_nil))))
    (s_one (s_ret e_non)))))
abbrev s_look_code : Stmt := topS 24
abbrev N_look_code : List Str := ["code", "at"]
theorem sc_look_code : FnScope N_look_code ["code"] (defScope s_look_code) := ⟨rfl, rfl, rfl, by decide +kernel, rfl, by decide +kernel, by decide +kernel⟩
abbrev O_look_code : List Kd := [.fz, .fz]
def m_look_code : MS := (mSeq (mIte (mOr (mNot (mTr (m1 (.fz) (mVar 0) (dIs "list")))) (mNot (mTr (mChain (fun i j => decide (i ≤ j)) (fun i j => decide (i ≤ j)) (mC (.int 1)) (mOp [.fz] (maCons (mVar 0) maNil) dLenU) (mC (.int 150)))))) mNever mSkip)
  (mSeq (mSet 1 (mCall f_bad_place [.fz] [] (maCons (mVar 0) maNil)))
  (mIte (mTr (m2 (.fz) (.fz) (mVar 1) (mC .none) dNotN)) mNever mSkip)))
def f_look_code : En → Option (D × En) := mFun [.fz] 1 .fz m_look_code
theorem ok_look_code {P : Program} {w : World} {K : PySem.W.Frag} {mg : Str → Option Value} {base : Heap} {f : Addr} {fd : FuncData} (F : FunD K "look_code" "look_code" (defArgs s_look_code) (defBody s_look_code) (defScope s_look_code) [] [] f fd) (B : Bt mg) (C : Ct K w mg) (G_bad_place : FnX P w K mg base "bad_place" 4 ["code"] (spF K [.fz] f_bad_place .fz)) :
    FnG P w K mg base CX0 5 f fd ["code"] (spF K [.fz] f_look_code .fz) :=
  fn_data (Oi := [.fz]) (Ol := [.fz]) (r := .fz) F sc_look_code rfl rfl rfl (fun _ z => by cases z) fun cd A outer s H E hgd hr =>
    have hu := hu65 hr
    (s_cons (s_if (PW.pt (w_or (t_not (t_val (e_isi B.isinstance B.list (by decide +kernel) (e_var 0)))) (w_or1 (t_not (t_chain op_le op_le e_int (e_lenU B (a_cons (e_var 0) a_nil)) (e_gc C.MOST_ROWS)))))) (s_one s_never) s_nil)
    (s_cons (s_setF 1 sc_look_code.nd (e_callX G_bad_place hgd hr (a_cons (e_var 0) a_nil)))
    (s_one (s_if (t_cmp op_notN1 s_notN (e_var 1) e_non) (s_one s_never) s_nil))))
abbrev s_where_of : Stmt := topS 25
abbrev N_where_of : List Str := ["code", "at", "row"]
theorem sc_where_of : FnScope N_where_of ["code"] (defScope s_where_of) := ⟨rfl, rfl, rfl, by decide +kernel, rfl, by decide +kernel, by decide +kernel⟩
abbrev O_where_of : List Kd := [.fz, .fz, .fz]
def m_where_of : MS := (mRet (mDc (mIt2 [.fz] (maCons (mVar 0) maNil) dEnum) (mgT 2 (mgCons (mgN 1) (mgCons (mgN 2) mgNil))) (mTr (m2 (.fz) (.fz) (m2 (.fz) (.fz) (mVar 2) (mC (.int 0)) dIxU) (mC (.str "label")) dEqU)) (m2 (.fz) (.fz) (mVar 2) (mC (.int 1)) dIxU) (mVar 1) [1, 2]))
def f_where_of : En → Option (D × En) := mFun [.fz] 2 .ow m_where_of
theorem ok_where_of {P : Program} {w : World} {K : PySem.W.Frag} {mg : Str → Option Value} {base : Heap} {f : Addr} {fd : FuncData} (F : FunD K "where_of" "where_of" (defArgs s_where_of) (defBody s_where_of) (defScope s_where_of) [] [] f fd) (B : Bt mg) (C : Ct K w mg) :
    FnG P w K mg base CX0 1 f fd ["code"] (spF K [.fz] f_where_of .ow) :=
  fn_data (Oi := [.fz]) (Ol := [.fz, .fz]) (r := .ow) F sc_where_of rfl rfl rfl (fun _ z => by cases z) fun cd A outer s H E hgd hr =>
    have hu := hu65 hr
    (s_one (s_ret (e_dc (own := [("at", 1), ("row", 2)]) (L := O_where_of) rfl sc_where_of.nd (i_enum B.enumerate (a_cons (e_var 0) a_nil)) (blkOk_by (N := N_where_of) (sc := defScope s_where_of) (by decide +kernel)) (fun _ _ _ _ _ => (g_tup rfl (gs_cons (g_name 1 sc_where_of.nd) (gs_cons (g_name 2 sc_where_of.nd) gs_nil)))) (fun _ _ _ _ _ => (ts_one (t_eq hu (e_ixU hu (e_var 2) e_int) e_str))) (fun _ _ _ _ _ => (e_ixU hu (e_var 2) e_int)) (fun _ _ _ _ _ => (e_var 1)))))
abbrev s_takes : Stmt := topS 30
abbrev N_takes : List Str := ["row", "op", "arg", "line"]
theorem sc_takes : FnScope N_takes ["row"] (defScope s_takes) := ⟨rfl, rfl, rfl, by decide +kernel, rfl, by decide +kernel, by decide +kernel⟩
abbrev O_takes : List Kd := [.fz, .fz, .fz, .fz]
def m_takes : MS := (mSeq (mAsg (mgT 3 (mgCons (mgN 1) (mgCons (mgN 2) (mgCons (mgN 3) mgNil)))) (mVar 0))
  (mSeq (mIte (mTr (m2 (.fz) (.fz) (mVar 1) (mTup (maCons (mC (.str "copy")) (maCons (mC (.str "swap")) maNil))) dInU)) (mRet (mVar 2)) mSkip)
  (mSeq (mIte (mTr (m2 (.fz) (.fz) (mVar 1) (mC (.tuple [(.str "add"), (.str "sub"), (.str "mul"), (.str "div"), (.str "rest"), (.str "less"), (.str "same")])) dInU)) (mRet (mC (.int 2))) mSkip)
  (mRet (mOp [.fz] (maCons (mOrV (m2 (.fz) (.fz) (mVar 1) (mTup (maCons (mC (.str "store")) (maCons (mC (.str "drop")) (maCons (mC (.str "neg")) (maCons (mC (.str "not")) (maCons (mC (.str "tell")) (maCons (mC (.str "return")) (maCons (mC (.str "raise")) maNil)))))))) dInU) (m2 (.fz) (.fz) (mVar 1) (mC (.tuple [(.str "iftrue"), (.str "iffalse"), (.str "ortrue"), (.str "orfalse")])) dInU)) maNil) dInt)))))
def f_takes : En → Option (D × En) := mFun [.fz] 3 .fz m_takes
theorem ok_takes {P : Program} {w : World} {K : PySem.W.Frag} {mg : Str → Option Value} {base : Heap} {f : Addr} {fd : FuncData} (F : FunD K "takes" "takes" (defArgs s_takes) (defBody s_takes) (defScope s_takes) [] [] f fd) (B : Bt mg) (C : Ct K w mg) :
    FnG P w K mg base CX0 1 f fd ["row"] (spF K [.fz] f_takes .fz) :=
  fn_data (Oi := [.fz]) (Ol := [.fz, .fz, .fz]) (r := .fz) F sc_takes rfl rfl rfl (fun _ z => by cases z) fun cd A outer s H E hgd hr =>
    have hu := hu65 hr
    (s_cons (s_asg (e_var 0) (g_tup rfl (gs_cons (g_name 1 sc_takes.nd) (gs_cons (g_name 2 sc_takes.nd) (gs_cons (g_name 3 sc_takes.nd) gs_nil)))))
    (s_cons (s_if (t_in hu (e_var 1) (e_tup (a_cons e_str (a_cons e_str a_nil)))) (s_one (s_ret (e_var 2))) s_nil)
    (s_cons (s_if (t_in hu (e_var 1) (e_gc C.PAIRED)) (s_one (s_ret e_int)) s_nil)
    (s_one (s_ret (e_int1 B (a_cons (e_or (e_in hu (e_var 1) (e_tup (a_cons e_str (a_cons e_str (a_cons e_str (a_cons e_str (a_cons e_str (a_cons e_str (a_cons e_str a_nil))))))))) (e_one (e_in hu (e_var 1) (e_gc C.BRANCHES)))) a_nil)))))))
abbrev s_grows : Stmt := topS 31
abbrev N_grows : List Str := ["row", "op"]
theorem sc_grows : FnScope N_grows ["row"] (defScope s_grows) := ⟨rfl, rfl, rfl, by decide +kernel, rfl, by decide +kernel, by decide +kernel⟩
abbrev O_grows : List Kd := [.fz, .fz]
def m_grows : MS := (mSeq (mSet 1 (m2 (.fz) (.fz) (mVar 0) (mC (.int 0)) dIxU))
  (mSeq (mIte (mTr (m2 (.fz) (.fz) (mVar 1) (mTup (maCons (mC (.str "push")) (maCons (mC (.str "load")) (maCons (mC (.str "quick")) (maCons (mC (.str "copy")) maNil))))) dInU)) (mRet (mC (.int 1))) mSkip)
  (mRet (mIf (mOr (mTr (m2 (.fz) (.fz) (mVar 1) (mC (.tuple [(.str "add"), (.str "sub"), (.str "mul"), (.str "div"), (.str "rest"), (.str "less"), (.str "same")])) dInU)) (mTr (m2 (.fz) (.fz) (mVar 1) (mTup (maCons (mC (.str "store")) (maCons (mC (.str "drop")) (maCons (mC (.str "tell")) maNil)))) dInU))) (m1 (.fz) (mC (.int 1)) dNeg) (mC (.int 0))))))
def f_grows : En → Option (D × En) := mFun [.fz] 1 .fz m_grows
theorem ok_grows {P : Program} {w : World} {K : PySem.W.Frag} {mg : Str → Option Value} {base : Heap} {f : Addr} {fd : FuncData} (F : FunD K "grows" "grows" (defArgs s_grows) (defBody s_grows) (defScope s_grows) [] [] f fd) (B : Bt mg) (C : Ct K w mg) :
    FnG P w K mg base CX0 1 f fd ["row"] (spF K [.fz] f_grows .fz) :=
  fn_data (Oi := [.fz]) (Ol := [.fz]) (r := .fz) F sc_grows rfl rfl rfl (fun _ z => by cases z) fun cd A outer s H E hgd hr =>
    have hu := hu65 hr
    (s_cons (s_setF 1 sc_grows.nd (e_ixU hu (e_var 0) e_int))
    (s_cons (s_if (t_in hu (e_var 1) (e_tup (a_cons e_str (a_cons e_str (a_cons e_str (a_cons e_str a_nil)))))) (s_one (s_ret e_int)) s_nil)
    (s_one (s_ret (e_if (PW.pt (w_or (t_in hu (e_var 1) (e_gc C.PAIRED)) (w_or1 (t_in hu (e_var 1) (e_tup (a_cons e_str (a_cons e_str (a_cons e_str a_nil)))))))) (e_un un_neg s_neg e_int) e_int)))))
abbrev s_plain_next : Stmt := topS 32
abbrev N_plain_next : List Str := ["where", "row", "at", "state", "op", "arg", "line", "depth", "guards", "kept"]
theorem sc_plain_next : FnScope N_plain_next ["where", "row", "at", "state"] (defScope s_plain_next) := ⟨rfl, rfl, rfl, by decide +kernel, rfl, by decide +kernel, by decide +kernel⟩
abbrev O_plain_next : List Kd := [.fz, .fz, .fz, .fz, .fz, .fz, .fz, .fz, .fz, .fz]
def m_plain_next : MS := (mSeq (mAsg (mgT 3 (mgCons (mgN 4) (mgCons (mgN 5) (mgCons (mgN 6) mgNil)))) (mVar 1))
  (mSeq (mAsg (mgT 2 (mgCons (mgN 7) (mgCons (mgN 8) mgNil))) (mVar 3))
  (mSeq (mIte (mTr (m2 (.fz) (.fz) (mVar 4) (mC (.str "jump")) dEqU)) (mRet (mLst (maCons (mTup (maCons (m2 (.fz) (.fz) (mVar 0) (mVar 5) dIxU) (maCons (mVar 3) maNil))) maNil))) mSkip)
  (mSeq (mIte (mTr (m2 (.fz) (.fz) (mVar 4) (mC (.tuple [(.str "iftrue"), (.str "iffalse"), (.str "ortrue"), (.str "orfalse")])) dInU)) (mSeq (mSet 9 (m2 (.fz) (.fz) (mVar 7) (mOp [.fz] (maCons (m2 (.fz) (.fz) (mVar 4) (mTup (maCons (mC (.str "iftrue")) (maCons (mC (.str "iffalse")) maNil))) dInU) maNil) dInt) dSub))
  (mRet (mLst (maCons (mTup (maCons (m2 (.fz) (.fz) (mVar 2) (mC (.int 1)) dAddU) (maCons (mTup (maCons (m2 (.fz) (.fz) (mVar 7) (mC (.int 1)) dSub) (maCons (mVar 8) maNil))) maNil))) (maCons (mTup (maCons (m2 (.fz) (.fz) (mVar 0) (mVar 5) dIxU) (maCons (mTup (maCons (mVar 9) (maCons (mVar 8) maNil))) maNil))) maNil))))) mSkip)
  (mSeq (mIte (mTr (m2 (.fz) (.fz) (mVar 4) (mC (.str "try")) dEqU)) (mRet (mLst (maCons (mTup (maCons (m2 (.fz) (.fz) (mVar 2) (mC (.int 1)) dAddU) (maCons (mTup (maCons (mVar 7) (maCons (m2 (.fz) (.fz) (mVar 8) (mTup (maCons (mTup (maCons (mVar 5) (maCons (mVar 7) maNil))) maNil)) dAddU) maNil))) maNil))) maNil))) mSkip)
  (mSeq (mIte (mTr (m2 (.fz) (.fz) (mVar 4) (mC (.str "endtry")) dEqU)) (mRet (mLst (maCons (mTup (maCons (m2 (.fz) (.fz) (mVar 2) (mC (.int 1)) dAddU) (maCons (mTup (maCons (mVar 7) (maCons (mSl (.fz) (mVar 8) mNo (mPt (m1 (.fz) (mC (.int 1)) dNeg)) dSlU) maNil))) maNil))) maNil))) mSkip)
  (mSeq (mIte (mTr (m2 (.fz) (.fz) (mVar 4) (mTup (maCons (mC (.str "return")) (maCons (mC (.str "raise")) maNil))) dInU)) (mRet (mLst maNil)) mSkip)
  (mRet (mLst (maCons (mTup (maCons (m2 (.fz) (.fz) (mVar 2) (mC (.int 1)) dAddU) (maCons (mTup (maCons (m2 (.fz) (.fz) (mVar 7) (mCall f_grows [.fz] [] (maCons (mVar 1) maNil)) dAddU) (maCons (mVar 8) maNil))) maNil))) maNil))))))))))
def f_plain_next : En → Option (D × En) := mFun [.fz, .fz, .fz, .fz] 6 .ow m_plain_next
theorem ok_plain_next {P : Program} {w : World} {K : PySem.W.Frag} {mg : Str → Option Value} {base : Heap} {f : Addr} {fd : FuncData} (F : FunD K "plain_next" "plain_next" (defArgs s_plain_next) (defBody s_plain_next) (defScope s_plain_next) [] [] f fd) (B : Bt mg) (C : Ct K w mg) (G_grows : FnX P w K mg base "grows" 1 ["row"] (spF K [.fz] f_grows .fz)) :
    FnG P w K mg base CX0 2 f fd ["where", "row", "at", "state"] (spF K [.fz, .fz, .fz, .fz] f_plain_next .ow) :=
  fn_data (Oi := [.fz, .fz, .fz, .fz]) (Ol := [.fz, .fz, .fz, .fz, .fz, .fz]) (r := .ow) F sc_plain_next rfl rfl rfl (fun _ z => by cases z) fun cd A outer s H E hgd hr =>
    have hu := hu65 hr
    (s_cons (s_asg (e_var 1) (g_tup rfl (gs_cons (g_name 4 sc_plain_next.nd) (gs_cons (g_name 5 sc_plain_next.nd) (gs_cons (g_name 6 sc_plain_next.nd) gs_nil)))))
    (s_cons (s_asg (e_var 3) (g_tup rfl (gs_cons (g_name 7 sc_plain_next.nd) (gs_cons (g_name 8 sc_plain_next.nd) gs_nil))))
    (s_cons (s_if (t_eq hu (e_var 4) e_str) (s_one (s_ret (e_lst (a_cons (e_tup (a_cons (e_ixU hu (e_var 0) (e_var 5)) (a_cons (e_var 3) a_nil))) a_nil)))) s_nil)
    (s_cons (s_if (t_in hu (e_var 4) (e_gc C.BRANCHES)) (s_cons (s_setF 9 sc_plain_next.nd (e_op op_sub s_sub (e_var 7) (e_int1 B (a_cons (e_in hu (e_var 4) (e_tup (a_cons e_str (a_cons e_str a_nil)))) a_nil))))
    (s_one (s_ret (e_lst (a_cons (e_tup (a_cons (e_add (e_var 2) e_int) (a_cons (e_tup (a_cons (e_op op_sub s_sub (e_var 7) e_int) (a_cons (e_var 8) a_nil))) a_nil))) (a_cons (e_tup (a_cons (e_ixU hu (e_var 0) (e_var 5)) (a_cons (e_tup (a_cons (e_var 9) (a_cons (e_var 8) a_nil))) a_nil))) a_nil)))))) s_nil)
    (s_cons (s_if (t_eq hu (e_var 4) e_str) (s_one (s_ret (e_lst (a_cons (e_tup (a_cons (e_add (e_var 2) e_int) (a_cons (e_tup (a_cons (e_var 7) (a_cons (e_add (e_var 8) (e_tup (a_cons (e_tup (a_cons (e_var 5) (a_cons (e_var 7) a_nil))) a_nil))) a_nil))) a_nil))) a_nil)))) s_nil)
    (s_cons (s_if (t_eq hu (e_var 4) e_str) (s_one (s_ret (e_lst (a_cons (e_tup (a_cons (e_add (e_var 2) e_int) (a_cons (e_tup (a_cons (e_var 7) (a_cons (e_slU (e_var 8) o_no (o_pt (e_un un_neg s_neg e_int))) a_nil))) a_nil))) a_nil)))) s_nil)
    (s_cons (s_if (t_in hu (e_var 4) (e_tup (a_cons e_str (a_cons e_str a_nil)))) (s_one (s_ret (e_lst a_nil))) s_nil)
    (s_one (s_ret (e_lst (a_cons (e_tup (a_cons (e_add (e_var 2) e_int) (a_cons (e_tup (a_cons (e_add (e_var 7) (e_callX G_grows hgd hr (a_cons (e_var 1) a_nil))) (a_cons (e_var 8) a_nil))) a_nil))) a_nil)))))))))))
abbrev s_all_next : Stmt := topS 33
abbrev N_all_next : List Str := ["where", "row", "at", "state", "found", "guards", "mark", "depth"]
theorem sc_all_next : FnScope N_all_next ["where", "row", "at", "state"] (defScope s_all_next) := ⟨rfl, rfl, rfl, by decide +kernel, rfl, by decide +kernel, by decide +kernel⟩
abbrev O_all_next : List Kd := [.fz, .fz, .fz, .fz, .ow, .fz, .fz, .fz]
def m_all_next : MS := (mSeq (mSet 4 (mCall f_plain_next [.fz, .fz, .fz, .fz] [] (maCons (mVar 0) (maCons (mVar 1) (maCons (mVar 2) (maCons (mVar 3) maNil))))))
  (mSeq (mSet 5 (m2 (.fz) (.fz) (mVar 3) (mC (.int 1)) dIxU))
  (mSeq (mIte (mAnd (mTr (m2 (.fz) (.fz) (m2 (.fz) (.fz) (mVar 1) (mC (.int 0)) dIxU) (mC (.tuple [(.str "load"), (.str "clear"), (.str "add"), (.str "sub"), (.str "mul"), (.str "div"), (.str "rest"), (.str "less"), (.str "neg"), (.str "raise")])) dInU)) (mTr (m2 (.fz) (.fz) (mVar 5) (mTup maNil) dNeU))) (mSeq (mAsg (mgT 2 (mgCons (mgN 6) (mgCons (mgN 7) mgNil))) (m2 (.fz) (.fz) (mVar 5) (m1 (.fz) (mC (.int 1)) dNeg) dIxU))
  (mDrop (mMut 4 "list" (maCons (mTup (maCons (m2 (.fz) (.fz) (mVar 0) (mVar 6) dIxU) (maCons (mTup (maCons (m2 (.fz) (.fz) (mVar 7) (mC (.int 1)) dAddU) (maCons (mSl (.fz) (mVar 5) mNo (mPt (m1 (.fz) (mC (.int 1)) dNeg)) dSlU) maNil))) maNil))) maNil) dAppend))) mSkip)
  (mRet (mMv 4)))))
def f_all_next : En → Option (D × En) := mFun [.fz, .fz, .fz, .fz] 4 .ow m_all_next
theorem ok_all_next {P : Program} {w : World} {K : PySem.W.Frag} {mg : Str → Option Value} {base : Heap} {f : Addr} {fd : FuncData} (F : FunD K "all_next" "all_next" (defArgs s_all_next) (defBody s_all_next) (defScope s_all_next) [] [] f fd) (B : Bt mg) (C : Ct K w mg) (G_plain_next : FnX P w K mg base "plain_next" 2 ["where", "row", "at", "state"] (spF K [.fz, .fz, .fz, .fz] f_plain_next .ow)) :
    FnG P w K mg base CX0 3 f fd ["where", "row", "at", "state"] (spF K [.fz, .fz, .fz, .fz] f_all_next .ow) :=
  fn_data (Oi := [.fz, .fz, .fz, .fz]) (Ol := [.ow, .fz, .fz, .fz]) (r := .ow) F sc_all_next rfl rfl rfl (fun _ z => by cases z) fun cd A outer s H E hgd hr =>
    have hu := hu65 hr
    (s_cons (s_setO 4 sc_all_next.nd (e_callX G_plain_next hgd hr (a_cons (e_var 0) (a_cons (e_var 1) (a_cons (e_var 2) (a_cons (e_var 3) a_nil))))))
    (s_cons (s_setF 5 sc_all_next.nd (e_ixU hu (e_var 3) e_int))
    (s_cons (s_if (PW.pt (w_and (t_in hu (e_ixU hu (e_var 1) e_int) (e_gc C.FAULTY)) (w_and1 (t_ne hu (e_var 5) (e_tup a_nil))))) (s_cons (s_asg (e_ixU hu (e_var 5) (e_un un_neg s_neg e_int)) (g_tup rfl (gs_cons (g_name 6 sc_all_next.nd) (gs_cons (g_name 7 sc_all_next.nd) gs_nil))))
    (s_one (s_expr (e_mut 4 PySem.F.plainAttrs_list PySem.F.slot_list_append PySem.F.type_list_append mt_append ms_append (e_br 4) (a_cons (e_tup (a_cons (e_ixU hu (e_var 0) (e_var 6)) (a_cons (e_tup (a_cons (e_add (e_var 7) e_int) (a_cons (e_slU (e_var 5) o_no (o_pt (e_un un_neg s_neg e_int))) a_nil))) a_nil))) a_nil))))) s_nil)
    (s_one (s_ret (e_mv 4))))))
abbrev s_lacks : Stmt := topS 34
abbrev N_lacks : List Str := ["code", "where", "at", "state", "row", "depth", "guards", "found", "place", "later"]
theorem sc_lacks : FnScope N_lacks ["code", "where", "at", "state"] (defScope s_lacks) := ⟨rfl, rfl, rfl, by decide +kernel, rfl, by decide +kernel, by decide +kernel⟩
abbrev O_lacks : List Kd := [.fz, .fz, .fz, .fz, .fz, .fz, .fz, .ow, .fz, .fz]
def m_lacks : MS := (mSeq (mSet 4 (m2 (.fz) (.fz) (mVar 0) (mVar 2) dIxU))
  (mSeq (mAsg (mgT 2 (mgCons (mgN 5) (mgCons (mgN 6) mgNil))) (mVar 3))
  (mSeq (mSet 7 (mLst maNil))
  (mSeq (mIte (mTr (m2 (.fz) (.fz) (mVar 5) (mCall f_takes [.fz] [] (maCons (mVar 4) maNil)) dLt)) (mDrop (mMut 7 "list" (maCons (mC (.str "takes")) maNil) dAppend)) mSkip)
  (mSeq (mIte (mAnd (mTr (m2 (.fz) (.fz) (m2 (.fz) (.fz) (mVar 4) (mC (.int 0)) dIxU) (mC (.str "endtry")) dEqU)) (mTr (m2 (.fz) (.fz) (mVar 6) (mTup maNil) dEqU))) (mDrop (mMut 7 "list" (maCons (mC (.str "guard")) maNil) dAppend)) mSkip)
  (mSeq (mIte (mAnd (mTr (m2 (.fz) (.fz) (mVar 6) (mTup maNil) dNeU)) (mAnd (mTr (m2 (.fz) (.fz) (m2 (.fz) (.fz) (mVar 4) (mC (.int 0)) dIxU) (mC (.str "copy")) dNeU)) (mAnd (mTr (m2 (.fz) (.fz) (mCall f_takes [.fz] [] (maCons (mVar 4) maNil)) (mC (.int 0)) dGt)) (mTr (m2 (.fz) (.fz) (m2 (.fz) (.fz) (mVar 5) (mCall f_takes [.fz] [] (maCons (mVar 4) maNil)) dSub) (m2 (.fz) (.fz) (m2 (.fz) (.fz) (mVar 6) (m1 (.fz) (mC (.int 1)) dNeg) dIxU) (mC (.int 1)) dIxU) dLt))))) (mDrop (mMut 7 "list" (maCons (mC (.str "beneath")) maNil) dAppend)) mSkip)
  (mSeq (mIte (mTr (mOp [.ow] (maCons (mLc (mItL (mCall f_all_next [.fz, .fz, .fz, .fz] [] (maCons (mVar 1) (maCons (mVar 4) (maCons (mVar 2) (maCons (mVar 3) maNil)))))) (mgT 2 (mgCons (mgN 8) (mgCons (mgN 9) mgNil))) mYes (m2 (.fz) (.fz) (mVar 8) (mOp [.fz] (maCons (mVar 0) maNil) dLenU) dEqU) [8, 9]) maNil) dAny)) (mDrop (mMut 7 "list" (maCons (mC (.str "end")) maNil) dAppend)) mSkip)
  (mRet (mMv 7)))))))))
def f_lacks : En → Option (D × En) := mFun [.fz, .fz, .fz, .fz] 6 .ow m_lacks
theorem ok_lacks {P : Program} {w : World} {K : PySem.W.Frag} {mg : Str → Option Value} {base : Heap} {f : Addr} {fd : FuncData} (F : FunD K "lacks" "lacks" (defArgs s_lacks) (defBody s_lacks) (defScope s_lacks) [] [] f fd) (B : Bt mg) (C : Ct K w mg) (G_all_next : FnX P w K mg base "all_next" 3 ["where", "row", "at", "state"] (spF K [.fz, .fz, .fz, .fz] f_all_next .ow)) (G_takes : FnX P w K mg base "takes" 1 ["row"] (spF K [.fz] f_takes .fz)) :
    FnG P w K mg base CX0 4 f fd ["code", "where", "at", "state"] (spF K [.fz, .fz, .fz, .fz] f_lacks .ow) :=
  fn_data (Oi := [.fz, .fz, .fz, .fz]) (Ol := [.fz, .fz, .fz, .ow, .fz, .fz]) (r := .ow) F sc_lacks rfl rfl rfl (fun _ z => by cases z) fun cd A outer s H E hgd hr =>
    have hu := hu65 hr
    (s_cons (s_setF 4 sc_lacks.nd (e_ixU hu (e_var 0) (e_var 2)))
    (s_cons (s_asg (e_var 3) (g_tup rfl (gs_cons (g_name 5 sc_lacks.nd) (gs_cons (g_name 6 sc_lacks.nd) gs_nil))))
    (s_cons (s_setO 7 sc_lacks.nd (e_lst a_nil))
    (s_cons (s_if (t_cmp op_lt s_lt (e_var 5) (e_callX G_takes hgd hr (a_cons (e_var 4) a_nil))) (s_one (s_expr (e_mut 7 PySem.F.plainAttrs_list PySem.F.slot_list_append PySem.F.type_list_append mt_append ms_append (e_br 7) (a_cons e_str a_nil)))) s_nil)
    (s_cons (s_if (PW.pt (w_and (t_eq hu (e_ixU hu (e_var 4) e_int) e_str) (w_and1 (t_eq hu (e_var 6) (e_tup a_nil))))) (s_one (s_expr (e_mut 7 PySem.F.plainAttrs_list PySem.F.slot_list_append PySem.F.type_list_append mt_append ms_append (e_br 7) (a_cons e_str a_nil)))) s_nil)
    (s_cons (s_if (PW.pt (w_and (t_ne hu (e_var 6) (e_tup a_nil)) (w_and (t_ne hu (e_ixU hu (e_var 4) e_int) e_str) (w_and (t_cmp op_gt s_gt (e_callX G_takes hgd hr (a_cons (e_var 4) a_nil)) e_int) (w_and1 (t_cmp op_lt s_lt (e_op op_sub s_sub (e_var 5) (e_callX G_takes hgd hr (a_cons (e_var 4) a_nil))) (e_ixU hu (e_ixU hu (e_var 6) (e_un un_neg s_neg e_int)) e_int))))))) (s_one (s_expr (e_mut 7 PySem.F.plainAttrs_list PySem.F.slot_list_append PySem.F.type_list_append mt_append ms_append (e_br 7) (a_cons e_str a_nil)))) s_nil)
    (s_cons (s_if (t_val (e_any B rfl (a_cons (e_lc (own := [("place", 8), ("later", 9)]) (L := O_lacks) rfl sc_lacks.nd (i_ow (e_callX G_all_next hgd hr (a_cons (e_var 1) (a_cons (e_var 4) (a_cons (e_var 2) (a_cons (e_var 3) a_nil)))))) (blkOk_by (N := N_lacks) (sc := defScope s_lacks) (by decide +kernel)) (fun _ _ _ _ _ => (g_tup rfl (gs_cons (g_name 8 sc_lacks.nd) (gs_cons (g_name 9 sc_lacks.nd) gs_nil)))) (fun _ _ _ _ _ => ts_nil) (fun _ _ _ _ _ => (e_eq hu (e_var 8) (e_lenU B (a_cons (e_var 0) a_nil))))) a_nil))) (s_one (s_expr (e_mut 7 PySem.F.plainAttrs_list PySem.F.slot_list_append PySem.F.type_list_append mt_append ms_append (e_br 7) (a_cons e_str a_nil)))) s_nil)
    (s_one (s_ret (e_mv 7))))))))))
abbrev s_explored : Stmt := topS 35
abbrev N_explored : List Str := ["code", "where", "found", "walks", "left", "at", "words", "place", "state", "row"]
theorem sc_explored : FnScope N_explored ["code"] (defScope s_explored) := ⟨rfl, rfl, rfl, by decide +kernel, rfl, by decide +kernel, by decide +kernel⟩
abbrev O_explored : List Kd := [.fz, .fz, .ow, .ow, .fz, .fz, .fz, .fz, .fz, .fz]
def m_explored : MS := (mSeq (mSet 1 (mCall f_where_of [.fz] [] (maCons (mVar 0) maNil)))
  (mSeq (mSet 2 (mLc (mItU (mVar 0)) (mgN 9) mYes (mC .none) [9]))
  (mSeq (mPutU 2 (mC (.int 0)) (mC (.tuple [(.int 0), (.tuple [])])))
  (mSeq (mSet 3 (mDisp (mpCons (mC (.int 0)) (mTup (maCons (mC (.int 0)) maNil)) mpNil)))
  (mSeq (mSet 4 (mLst (maCons (mC (.int 0)) maNil)))
  (mSeq (mWhile (mTr (m2 (.fz) (.ow) (mVar 4) (mLst maNil) dNeU)) (mSeq (mAsg (mgStar 2 1 (mgCons (mgN 5) (mgCons (mgN 4) mgNil))) (mVar 4))
  (mSeq (mSet 6 (mCall f_lacks [.fz, .fz, .fz, .fz] [] (maCons (mVar 0) (maCons (mVar 1) (maCons (mVar 5) (maCons (m2 (.br 2) (.fz) (mBr 2) (mVar 5) dIxU) maNil))))))
  (mSeq (mIte (mTr (m2 (.fz) (.ow) (mVar 6) (mLst maNil) dNeU)) (mRet (mTup (maCons (mC .none) (maCons (mTup (maCons (m2 (.fz) (.fz) (mVar 6) (mC (.int 0)) dIxU) (maCons (m2 (.br 3) (.fz) (mBr 3) (mVar 5) dIxU) maNil))) maNil)))) mSkip)
  (mFor (mItL (mCall f_all_next [.fz, .fz, .fz, .fz] [] (maCons (mVar 1) (maCons (m2 (.fz) (.fz) (mVar 0) (mVar 5) dIxU) (maCons (mVar 5) (maCons (m2 (.br 2) (.fz) (mBr 2) (mVar 5) dIxU) maNil)))))) (mgT 2 (mgCons (mgN 7) (mgCons (mgN 8) mgNil))) (mIte (mTr (m2 (.fz) (.fz) (m2 (.br 2) (.fz) (mBr 2) (mVar 7) dIxU) (mC .none) dIsN)) (mSeq (mPutU 2 (mVar 7) (mVar 8))
  (mSeq (mPutU 3 (mVar 7) (m2 (.fz) (.fz) (m2 (.br 3) (.fz) (mBr 3) (mVar 5) dIxU) (mTup (maCons (mVar 7) maNil)) dAddU))
  (mSet 4 (m2 (.fz) (.ow) (mVar 4) (mLst (maCons (mVar 7) maNil)) dAddU)))) (mIte (mTr (m2 (.fz) (.fz) (m2 (.br 2) (.fz) (mBr 2) (mVar 7) dIxU) (mVar 8) dNeU)) (mRet (mTup (maCons (mC .none) (maCons (mTup (maCons (mC (.str "unlike")) (maCons (m2 (.br 3) (.fz) (mBr 3) (mVar 7) dIxU) (maCons (m2 (.fz) (.fz) (m2 (.br 3) (.fz) (mBr 3) (mVar 5) dIxU) (mTup (maCons (mVar 7) maNil)) dAddU) maNil)))) maNil)))) mSkip)))))))
  (mRet (mTup (maCons (mMv 2) (maCons (mC .none) maNil))))))))))
def f_explored : En → Option (D × En) := mFun [.fz] 9 .fz m_explored
theorem ok_explored {P : Program} {w : World} {K : PySem.W.Frag} {mg : Str → Option Value} {base : Heap} {f : Addr} {fd : FuncData} (F : FunD K "explored" "explored" (defArgs s_explored) (defBody s_explored) (defScope s_explored) [] [] f fd) (B : Bt mg) (C : Ct K w mg) (G_all_next : FnX P w K mg base "all_next" 3 ["where", "row", "at", "state"] (spF K [.fz, .fz, .fz, .fz] f_all_next .ow)) (G_lacks : FnX P w K mg base "lacks" 4 ["code", "where", "at", "state"] (spF K [.fz, .fz, .fz, .fz] f_lacks .ow)) (G_where_of : FnX P w K mg base "where_of" 1 ["code"] (spF K [.fz] f_where_of .ow)) :
    FnG P w K mg base CX0 5 f fd ["code"] (spF K [.fz] f_explored .fz) :=
  fn_data (Oi := [.fz]) (Ol := [.fz, .ow, .ow, .fz, .fz, .fz, .fz, .fz, .fz]) (r := .fz) F sc_explored rfl rfl rfl (fun _ z => by cases z) fun cd A outer s H E hgd hr =>
    have hu := hu65 hr
    (s_cons (s_setF 1 sc_explored.nd (e_frz (e_callX G_where_of hgd hr (a_cons (e_var 0) a_nil))))
    (s_cons (s_lcO 2 (own := [("row", 9)]) (L := O_explored) rfl sc_explored.nd (i_any (e_var 0)) (blkOk_by (N := N_explored) (sc := defScope s_explored) (by decide +kernel)) (fun _ _ _ _ _ => (g_name 9 sc_explored.nd)) (fun _ _ _ _ _ => ts_nil) (fun _ _ _ _ _ => e_non) (sw_true rfl rfl rfl (by decide +kernel)))
    (s_cons (s_putU 2 hu rfl (e_br 2) e_int (e_gc C.BEGIN))
    (s_cons (s_setO 3 sc_explored.nd (e_disp (pd_cons e_int (e_tup (a_cons e_int a_nil)) pd_nil) (mpsle (mps1 mps0) (by decide))))
    (s_cons (s_setF 4 sc_explored.nd (e_frz (e_lst (a_cons e_int a_nil))))
    (s_cons (s_while PassesOwn.never (t_ne hu (e_var 4) (e_lst a_nil)) (s_cons (s_asgH (e_var 4) (gH_star (n := 2) (i := 1) rfl (gsH_cons (gH_of (g_name 5 sc_explored.nd)) (gsH_star (gH_of (g_name 4 sc_explored.nd)) gsH_nil))))
    (s_cons (s_setF 6 sc_explored.nd (e_frz (e_callX G_lacks hgd hr (a_cons (e_var 0) (a_cons (e_var 1) (a_cons (e_var 5) (a_cons (e_ixU hu (e_br 2) (e_var 5)) a_nil)))))))
    (s_cons (s_if (t_ne hu (e_var 6) (e_lst a_nil)) (s_one (s_ret (e_tup (a_cons e_non (a_cons (e_tup (a_cons (e_ixU hu (e_var 6) e_int) (a_cons (e_ixU hu (e_br 3) (e_var 5)) a_nil))) a_nil))))) s_nil)
    (s_one (s_for (L := O_explored) PassesOwn.never rfl (i_ow (e_callX G_all_next hgd hr (a_cons (e_var 1) (a_cons (e_ixU hu (e_var 0) (e_var 5)) (a_cons (e_var 5) (a_cons (e_ixU hu (e_br 2) (e_var 5)) a_nil)))))) (g_tup rfl (gs_cons (g_name 7 sc_explored.nd) (gs_cons (g_name 8 sc_explored.nd) gs_nil))) (s_one (s_if (t_cmp op_isN1 s_isN (e_ixU hu (e_br 2) (e_var 7)) e_non) (s_cons (s_putU 2 hu rfl (e_br 2) (e_var 7) (e_var 8))
    (s_cons (s_putU 3 hu rfl (e_br 3) (e_var 7) (e_add (e_ixU hu (e_br 3) (e_var 5)) (e_tup (a_cons (e_var 7) a_nil))))
    (s_one (s_setF 4 sc_explored.nd (e_add (e_var 4) (e_lst (a_cons (e_var 7) a_nil))))))) (s_one (s_if (t_ne hu (e_ixU hu (e_br 2) (e_var 7)) (e_var 8)) (s_one (s_ret (e_tup (a_cons e_non (a_cons (e_tup (a_cons e_str (a_cons (e_ixU hu (e_br 3) (e_var 7)) (a_cons (e_add (e_ixU hu (e_br 3) (e_var 5)) (e_tup (a_cons (e_var 7) a_nil))) a_nil)))) a_nil))))) s_nil))))))))))
    (s_one (s_ret (e_tup (a_cons (e_frz (e_mv 2)) (a_cons e_non a_nil)))))))))))
abbrev s_states_of : Stmt := topS 36
abbrev N_states_of : List Str := ["code", "found", "paper"]
theorem sc_states_of : FnScope N_states_of ["code"] (defScope s_states_of) := ⟨rfl, rfl, rfl, by decide +kernel, rfl, by decide +kernel, by decide +kernel⟩
abbrev O_states_of : List Kd := [.fz, .fz, .fz]
def m_states_of : MS := (mSeq (mAsg (mgT 2 (mgCons (mgN 1) (mgCons (mgN 2) mgNil))) (mCall f_explored [.fz] [] (maCons (mVar 0) maNil)))
  (mSeq (mIte (mTr (m2 (.fz) (.fz) (mVar 1) (mC .none) dIsN)) mNever mSkip)
  (mRet (mVar 1))))
def f_states_of : En → Option (D × En) := mFun [.fz] 2 .fz m_states_of
theorem ok_states_of {P : Program} {w : World} {K : PySem.W.Frag} {mg : Str → Option Value} {base : Heap} {f : Addr} {fd : FuncData} (F : FunD K "states_of" "states_of" (defArgs s_states_of) (defBody s_states_of) (defScope s_states_of) [] [] f fd) (B : Bt mg) (C : Ct K w mg) (G_explored : FnX P w K mg base "explored" 5 ["code"] (spF K [.fz] f_explored .fz)) :
    FnG P w K mg base CX0 6 f fd ["code"] (spF K [.fz] f_states_of .fz) :=
  fn_data (Oi := [.fz]) (Ol := [.fz, .fz]) (r := .fz) F sc_states_of rfl rfl rfl (fun _ z => by cases z) fun cd A outer s H E hgd hr =>
    have hu := hu65 hr
    (s_cons (s_asg (e_callX G_explored hgd hr (a_cons (e_var 0) a_nil)) (g_tup rfl (gs_cons (g_name 1 sc_states_of.nd) (gs_cons (g_name 2 sc_states_of.nd) gs_nil))))
    (s_cons (s_if (t_cmp op_isN1 s_isN (e_var 1) e_non) (s_one s_never) s_nil)
    (s_one (s_ret (e_var 1)))))
abbrev s_look_sound : Stmt := topS 37
abbrev N_look_sound : List Str := ["code"]
theorem sc_look_sound : FnScope N_look_sound ["code"] (defScope s_look_sound) := ⟨rfl, rfl, rfl, by decide +kernel, rfl, by decide +kernel, by decide +kernel⟩
abbrev O_look_sound : List Kd := [.fz]
def m_look_sound : MS := (mSeq (mDrop (mCall f_look_code [.fz] [] (maCons (mVar 0) maNil)))
  (mRet (mCall f_states_of [.fz] [] (maCons (mVar 0) maNil))))
def f_look_sound : En → Option (D × En) := mFun [.fz] 0 .fz m_look_sound
theorem ok_look_sound {P : Program} {w : World} {K : PySem.W.Frag} {mg : Str → Option Value} {base : Heap} {f : Addr} {fd : FuncData} (F : FunD K "look_sound" "look_sound" (defArgs s_look_sound) (defBody s_look_sound) (defScope s_look_sound) [] [] f fd) (B : Bt mg) (C : Ct K w mg) (G_look_code : FnX P w K mg base "look_code" 5 ["code"] (spF K [.fz] f_look_code .fz)) (G_states_of : FnX P w K mg base "states_of" 6 ["code"] (spF K [.fz] f_states_of .fz)) :
    FnG P w K mg base CX0 7 f fd ["code"] (spF K [.fz] f_look_sound .fz) :=
  fn_data (Oi := [.fz]) (Ol := []) (r := .fz) F sc_look_sound rfl rfl rfl (fun _ z => by cases z) fun cd A outer s H E hgd hr =>
    have hu := hu65 hr
    (s_cons (s_expr (e_callX G_look_code hgd hr (a_cons (e_var 0) a_nil)))
    (s_one (s_ret (e_callX G_states_of hgd hr (a_cons (e_var 0) a_nil)))))
abbrev s_is_whole : Stmt := topS 40
abbrev N_is_whole : List Str := ["value"]
theorem sc_is_whole : FnScope N_is_whole ["value"] (defScope s_is_whole) := ⟨rfl, rfl, rfl, by decide +kernel, rfl, by decide +kernel, by decide +kernel⟩
abbrev O_is_whole : List Kd := [.fz]
def m_is_whole : MS := (mRet (mAndV (m1 (.fz) (mVar 0) (dIs "int")) (mNotV (m1 (.fz) (mVar 0) (dIs "bool")))))
def f_is_whole : En → Option (D × En) := mFun [.fz] 0 .fz m_is_whole
theorem ok_is_whole {P : Program} {w : World} {K : PySem.W.Frag} {mg : Str → Option Value} {base : Heap} {f : Addr} {fd : FuncData} (F : FunD K "is_whole" "is_whole" (defArgs s_is_whole) (defBody s_is_whole) (defScope s_is_whole) [] [] f fd) (B : Bt mg) (C : Ct K w mg) :
    FnG P w K mg base CX0 1 f fd ["value"] (spF K [.fz] f_is_whole .fz) :=
  fn_data (Oi := [.fz]) (Ol := []) (r := .fz) F sc_is_whole rfl rfl rfl (fun _ z => by cases z) fun cd A outer s H E hgd hr =>
    have hu := hu65 hr
    (s_one (s_ret (e_and (e_isi B.isinstance B.int (by decide +kernel) (e_var 0)) (e_one (e_not (e_isi B.isinstance B.bool (by decide +kernel) (e_var 0)))))))
abbrev s_is_true : Stmt := topS 41
abbrev N_is_true : List Str := ["value"]
theorem sc_is_true : FnScope N_is_true ["value"] (defScope s_is_true) := ⟨rfl, rfl, rfl, by decide +kernel, rfl, by decide +kernel, by decide +kernel⟩
abbrev O_is_true : List Kd := [.fz]
def m_is_true : MS := (mRet (mNotV (mOrV (m2 (.fz) (.fz) (mVar 0) (mC .none) dIsN) (mOrV (m2 (.fz) (.fz) (mVar 0) (mC (.bool false)) dIsB) (mAndV (mCall f_is_whole [.fz] [] (maCons (mVar 0) maNil)) (m2 (.fz) (.fz) (mVar 0) (mC (.int 0)) dEqU))))))
def f_is_true : En → Option (D × En) := mFun [.fz] 0 .fz m_is_true
theorem ok_is_true {P : Program} {w : World} {K : PySem.W.Frag} {mg : Str → Option Value} {base : Heap} {f : Addr} {fd : FuncData} (F : FunD K "is_true" "is_true" (defArgs s_is_true) (defBody s_is_true) (defScope s_is_true) [] [] f fd) (B : Bt mg) (C : Ct K w mg) (G_is_whole : FnX P w K mg base "is_whole" 1 ["value"] (spF K [.fz] f_is_whole .fz)) :
    FnG P w K mg base CX0 2 f fd ["value"] (spF K [.fz] f_is_true .fz) :=
  fn_data (Oi := [.fz]) (Ol := []) (r := .fz) F sc_is_true rfl rfl rfl (fun _ z => by cases z) fun cd A outer s H E hgd hr =>
    have hu := hu65 hr
    (s_one (s_ret (e_not (e_or (e_cmp op_isN1 s_isN (e_var 0) e_non) (e_or (e_cmp op_isB s_isB (e_var 0) e_bl) (e_one (e_and (e_callX G_is_whole hgd hr (a_cons (e_var 0) a_nil)) (e_one (e_eq hu (e_var 0) e_int)))))))))
abbrev s_are_same : Stmt := topS 42
abbrev N_are_same : List Str := ["one", "other"]
theorem sc_are_same : FnScope N_are_same ["one", "other"] (defScope s_are_same) := ⟨rfl, rfl, rfl, by decide +kernel, rfl, by decide +kernel, by decide +kernel⟩
abbrev O_are_same : List Kd := [.fz, .fz]
def m_are_same : MS := (mRet (mAndV (m2 (.fz) (.fz) (m1 (.fz) (mVar 0) (dIs "bool")) (m1 (.fz) (mVar 1) (dIs "bool")) dEqU) (m2 (.fz) (.fz) (mVar 0) (mVar 1) dEqU)))
def f_are_same : En → Option (D × En) := mFun [.fz, .fz] 0 .fz m_are_same
theorem ok_are_same {P : Program} {w : World} {K : PySem.W.Frag} {mg : Str → Option Value} {base : Heap} {f : Addr} {fd : FuncData} (F : FunD K "are_same" "are_same" (defArgs s_are_same) (defBody s_are_same) (defScope s_are_same) [] [] f fd) (B : Bt mg) (C : Ct K w mg) :
    FnG P w K mg base CX0 1 f fd ["one", "other"] (spF K [.fz, .fz] f_are_same .fz) :=
  fn_data (Oi := [.fz, .fz]) (Ol := []) (r := .fz) F sc_are_same rfl rfl rfl (fun _ z => by cases z) fun cd A outer s H E hgd hr =>
    have hu := hu65 hr
    (s_one (s_ret (e_and (e_eq hu (e_isi B.isinstance B.bool (by decide +kernel) (e_var 0)) (e_isi B.isinstance B.bool (by decide +kernel) (e_var 1))) (e_one (e_eq hu (e_var 0) (e_var 1))))))
abbrev s_reckoned : Stmt := topS 43
abbrev N_reckoned : List Str := ["op", "one", "other"]
theorem sc_reckoned : FnScope N_reckoned ["op", "one", "other"] (defScope s_reckoned) := ⟨rfl, rfl, rfl, by decide +kernel, rfl, by decide +kernel, by decide +kernel⟩
abbrev O_reckoned : List Kd := [.fz, .fz, .fz]
def m_reckoned : MS := (mSeq (mIte (mTr (m2 (.fz) (.fz) (mVar 0) (mC (.str "add")) dEqU)) (mRet (m2 (.fz) (.fz) (mVar 1) (mVar 2) dAddU)) mSkip)
  (mSeq (mIte (mTr (m2 (.fz) (.fz) (mVar 0) (mC (.str "sub")) dEqU)) (mRet (m2 (.fz) (.fz) (mVar 1) (mVar 2) dSub)) mSkip)
  (mSeq (mIte (mTr (m2 (.fz) (.fz) (mVar 0) (mC (.str "mul")) dEqU)) (mRet (m2 (.fz) (.fz) (mVar 1) (mVar 2) dMul)) mSkip)
  (mSeq (mIte (mTr (m2 (.fz) (.fz) (mVar 0) (mC (.str "div")) dEqU)) (mRet (m2 (.fz) (.fz) (mVar 1) (mVar 2) dDivX)) mSkip)
  (mRet (m2 (.fz) (.fz) (mVar 1) (mVar 2) dMod))))))
def f_reckoned : En → Option (D × En) := mFun [.fz, .fz, .fz] 0 .fz m_reckoned
theorem ok_reckoned {P : Program} {w : World} {K : PySem.W.Frag} {mg : Str → Option Value} {base : Heap} {f : Addr} {fd : FuncData} (F : FunD K "reckoned" "reckoned" (defArgs s_reckoned) (defBody s_reckoned) (defScope s_reckoned) [] [] f fd) (B : Bt mg) (C : Ct K w mg) :
    FnG P w K mg base CX0 1 f fd ["op", "one", "other"] (spF K [.fz, .fz, .fz] f_reckoned .fz) :=
  fn_data (Oi := [.fz, .fz, .fz]) (Ol := []) (r := .fz) F sc_reckoned rfl rfl rfl (fun _ z => by cases z) fun cd A outer s H E hgd hr =>
    have hu := hu65 hr
    (s_cons (s_if (t_eq hu (e_var 0) e_str) (s_one (s_ret (e_add (e_var 1) (e_var 2)))) s_nil)
    (s_cons (s_if (t_eq hu (e_var 0) e_str) (s_one (s_ret (e_op op_sub s_sub (e_var 1) (e_var 2)))) s_nil)
    (s_cons (s_if (t_eq hu (e_var 0) e_str) (s_one (s_ret (e_op op_mulW s_mul (e_var 1) (e_var 2)))) s_nil)
    (s_cons (s_if (t_eq hu (e_var 0) e_str) (s_one (s_ret (e_op op_fdivX s_divX (e_var 1) (e_var 2)))) s_nil)
    (s_one (s_ret (e_op op_modN s_mod (e_var 1) (e_var 2))))))))
abbrev s_paired : Stmt := topS 44
abbrev N_paired : List Str := ["op", "one", "other", "found"]
theorem sc_paired : FnScope N_paired ["op", "one", "other"] (defScope s_paired) := ⟨rfl, rfl, rfl, by decide +kernel, rfl, by decide +kernel, by decide +kernel⟩
abbrev O_paired : List Kd := [.fz, .fz, .fz, .fz]
def m_paired : MS := (mSeq (mIte (mTr (m2 (.fz) (.fz) (mVar 0) (mC (.str "same")) dEqU)) (mRet (mTup (maCons (mC (.str "found")) (maCons (mCall f_are_same [.fz, .fz] [] (maCons (mVar 1) (maCons (mVar 2) maNil))) maNil)))) mSkip)
  (mSeq (mIte (mOr (mNot (mTr (mCall f_is_whole [.fz] [] (maCons (mVar 1) maNil)))) (mNot (mTr (mCall f_is_whole [.fz] [] (maCons (mVar 2) maNil))))) (mRet (mTup (maCons (mC (.str "fault")) (maCons (mC (.str "Type")) maNil)))) mSkip)
  (mSeq (mIte (mTr (m2 (.fz) (.fz) (mVar 0) (mC (.str "less")) dEqU)) (mRet (mTup (maCons (mC (.str "found")) (maCons (m2 (.fz) (.fz) (mVar 1) (mVar 2) dLt) maNil)))) mSkip)
  (mSeq (mIte (mAnd (mTr (m2 (.fz) (.fz) (mVar 0) (mTup (maCons (mC (.str "div")) (maCons (mC (.str "rest")) maNil))) dInU)) (mTr (m2 (.fz) (.fz) (mVar 2) (mC (.int 0)) dEqU))) (mRet (mTup (maCons (mC (.str "fault")) (maCons (mC (.str "Zero")) maNil)))) mSkip)
  (mSeq (mSet 3 (mCall f_reckoned [.fz, .fz, .fz] [] (maCons (mVar 0) (maCons (mVar 1) (maCons (mVar 2) maNil)))))
  (mRet (mIf (mTr (mChain (fun i j => decide (i ≤ j)) (fun i j => decide (i ≤ j)) (m1 (.fz) (mC (.int 1000000000000000000)) dNeg) (mVar 3) (mC (.int 1000000000000000000)))) (mTup (maCons (mC (.str "found")) (maCons (mVar 3) maNil))) (mTup (maCons (mC (.str "fault")) (maCons (mC (.str "Big")) maNil))))))))))
def f_paired : En → Option (D × En) := mFun [.fz, .fz, .fz] 1 .fz m_paired
theorem ok_paired {P : Program} {w : World} {K : PySem.W.Frag} {mg : Str → Option Value} {base : Heap} {f : Addr} {fd : FuncData} (F : FunD K "paired" "paired" (defArgs s_paired) (defBody s_paired) (defScope s_paired) [] [] f fd) (B : Bt mg) (C : Ct K w mg) (G_are_same : FnX P w K mg base "are_same" 1 ["one", "other"] (spF K [.fz, .fz] f_are_same .fz)) (G_is_whole : FnX P w K mg base "is_whole" 1 ["value"] (spF K [.fz] f_is_whole .fz)) (G_reckoned : FnX P w K mg base "reckoned" 1 ["op", "one", "other"] (spF K [.fz, .fz, .fz] f_reckoned .fz)) :
    FnG P w K mg base CX0 2 f fd ["op", "one", "other"] (spF K [.fz, .fz, .fz] f_paired .fz) :=
  fn_data (Oi := [.fz, .fz, .fz]) (Ol := [.fz]) (r := .fz) F sc_paired rfl rfl rfl (fun _ z => by cases z) fun cd A outer s H E hgd hr =>
    have hu := hu65 hr
    (s_cons (s_if (t_eq hu (e_var 0) e_str) (s_one (s_ret (e_tup (a_cons e_str (a_cons (e_callX G_are_same hgd hr (a_cons (e_var 1) (a_cons (e_var 2) a_nil))) a_nil))))) s_nil)
    (s_cons (s_if (PW.pt (w_or (t_not (t_val (e_callX G_is_whole hgd hr (a_cons (e_var 1) a_nil)))) (w_or1 (t_not (t_val (e_callX G_is_whole hgd hr (a_cons (e_var 2) a_nil))))))) (s_one (s_ret (e_tup (a_cons e_str (a_cons e_str a_nil))))) s_nil)
    (s_cons (s_if (t_eq hu (e_var 0) e_str) (s_one (s_ret (e_tup (a_cons e_str (a_cons (e_cmp op_lt s_lt (e_var 1) (e_var 2)) a_nil))))) s_nil)
    (s_cons (s_if (PW.pt (w_and (t_in hu (e_var 0) (e_tup (a_cons e_str (a_cons e_str a_nil)))) (w_and1 (t_eq hu (e_var 2) e_int)))) (s_one (s_ret (e_tup (a_cons e_str (a_cons e_str a_nil))))) s_nil)
    (s_cons (s_setF 3 sc_paired.nd (e_callX G_reckoned hgd hr (a_cons (e_var 0) (a_cons (e_var 1) (a_cons (e_var 2) a_nil)))))
    (s_one (s_ret (e_if (t_chain op_le op_le (e_un un_neg s_neg (e_gc C.BIG)) (e_var 3) (e_gc C.BIG)) (e_tup (a_cons e_str (a_cons (e_var 3) a_nil))) (e_tup (a_cons e_str (a_cons e_str a_nil)))))))))))
abbrev s_single : Stmt := topS 45
abbrev N_single : List Str := ["op", "value"]
theorem sc_single : FnScope N_single ["op", "value"] (defScope s_single) := ⟨rfl, rfl, rfl, by decide +kernel, rfl, by decide +kernel, by decide +kernel⟩
abbrev O_single : List Kd := [.fz, .fz]
def m_single : MS := (mSeq (mIte (mTr (m2 (.fz) (.fz) (mVar 0) (mC (.str "not")) dEqU)) (mRet (mTup (maCons (mC (.str "found")) (maCons (mNotV (mCall f_is_true [.fz] [] (maCons (mVar 1) maNil))) maNil)))) mSkip)
  (mRet (mIf (mTr (mCall f_is_whole [.fz] [] (maCons (mVar 1) maNil))) (mTup (maCons (mC (.str "found")) (maCons (m2 (.fz) (.fz) (mC (.int 0)) (mVar 1) dSub) maNil))) (mTup (maCons (mC (.str "fault")) (maCons (mC (.str "Type")) maNil))))))
def f_single : En → Option (D × En) := mFun [.fz, .fz] 0 .fz m_single
theorem ok_single {P : Program} {w : World} {K : PySem.W.Frag} {mg : Str → Option Value} {base : Heap} {f : Addr} {fd : FuncData} (F : FunD K "single" "single" (defArgs s_single) (defBody s_single) (defScope s_single) [] [] f fd) (B : Bt mg) (C : Ct K w mg) (G_is_true : FnX P w K mg base "is_true" 2 ["value"] (spF K [.fz] f_is_true .fz)) (G_is_whole : FnX P w K mg base "is_whole" 1 ["value"] (spF K [.fz] f_is_whole .fz)) :
    FnG P w K mg base CX0 3 f fd ["op", "value"] (spF K [.fz, .fz] f_single .fz) :=
  fn_data (Oi := [.fz, .fz]) (Ol := []) (r := .fz) F sc_single rfl rfl rfl (fun _ z => by cases z) fun cd A outer s H E hgd hr =>
    have hu := hu65 hr
    (s_cons (s_if (t_eq hu (e_var 0) e_str) (s_one (s_ret (e_tup (a_cons e_str (a_cons (e_not (e_callX G_is_true hgd hr (a_cons (e_var 1) a_nil))) a_nil))))) s_nil)
    (s_one (s_ret (e_if (t_val (e_callX G_is_whole hgd hr (a_cons (e_var 1) a_nil))) (e_tup (a_cons e_str (a_cons (e_op op_sub s_sub e_int (e_var 1)) a_nil))) (e_tup (a_cons e_str (a_cons e_str a_nil)))))))
abbrev s_takes_jump : Stmt := topS 46
abbrev N_takes_jump : List Str := ["op", "value"]
theorem sc_takes_jump : FnScope N_takes_jump ["op", "value"] (defScope s_takes_jump) := ⟨rfl, rfl, rfl, by decide +kernel, rfl, by decide +kernel, by decide +kernel⟩
abbrev O_takes_jump : List Kd := [.fz, .fz]
def m_takes_jump : MS := (mRet (mIf (mTr (m2 (.fz) (.fz) (mVar 0) (mTup (maCons (mC (.str "iftrue")) (maCons (mC (.str "ortrue")) maNil))) dInU)) (mCall f_is_true [.fz] [] (maCons (mVar 1) maNil)) (mNotV (mCall f_is_true [.fz] [] (maCons (mVar 1) maNil)))))
def f_takes_jump : En → Option (D × En) := mFun [.fz, .fz] 0 .fz m_takes_jump
theorem ok_takes_jump {P : Program} {w : World} {K : PySem.W.Frag} {mg : Str → Option Value} {base : Heap} {f : Addr} {fd : FuncData} (F : FunD K "takes_jump" "takes_jump" (defArgs s_takes_jump) (defBody s_takes_jump) (defScope s_takes_jump) [] [] f fd) (B : Bt mg) (C : Ct K w mg) (G_is_true : FnX P w K mg base "is_true" 2 ["value"] (spF K [.fz] f_is_true .fz)) :
    FnG P w K mg base CX0 3 f fd ["op", "value"] (spF K [.fz, .fz] f_takes_jump .fz) :=
  fn_data (Oi := [.fz, .fz]) (Ol := []) (r := .fz) F sc_takes_jump rfl rfl rfl (fun _ z => by cases z) fun cd A outer s H E hgd hr =>
    have hu := hu65 hr
    (s_one (s_ret (e_if (t_in hu (e_var 0) (e_tup (a_cons e_str (a_cons e_str a_nil)))) (e_callX G_is_true hgd hr (a_cons (e_var 1) a_nil)) (e_not (e_callX G_is_true hgd hr (a_cons (e_var 1) a_nil))))))
abbrev s_look_names : Stmt := topS 50
abbrev N_look_names : List Str := ["names", "name"]
theorem sc_look_names : FnScope N_look_names ["names"] (defScope s_look_names) := ⟨rfl, rfl, rfl, by decide +kernel, rfl, by decide +kernel, by decide +kernel⟩
abbrev O_look_names : List Kd := [.fz, .fz]
def m_look_names : MS := (mSeq (mIte (mOr (mNot (mTr (m1 (.fz) (mVar 0) (dIs "dict")))) (mOr (mTr (m2 (.fz) (.fz) (mOp [.fz] (maCons (mVar 0) maNil) dLenU) (mC (.int 8)) dGt)) (mNot (mTr (mOp [.ow] (maCons (mLc (mItK 0) (mgN 1) mYes (mCall f_is_name [.fz] [] (maCons (mVar 1) maNil)) [1]) maNil) dAll))))) mNever mSkip)
  (mIte (mNot (mTr (mOp [.ow] (maCons (mLc (mItK 0) (mgN 1) mYes (mCall f_is_value [.fz, .fz] [] (maCons (m2 (.fz) (.fz) (mVar 0) (mVar 1) dIxU) (maCons (mC (.int 1000000000000000000)) maNil))) [1]) maNil) dAll))) mNever mSkip))
def f_look_names : En → Option (D × En) := mFun [.fz] 1 .fz m_look_names
theorem ok_look_names {P : Program} {w : World} {K : PySem.W.Frag} {mg : Str → Option Value} {base : Heap} {f : Addr} {fd : FuncData} (F : FunD K "look_names" "look_names" (defArgs s_look_names) (defBody s_look_names) (defScope s_look_names) [] [] f fd) (B : Bt mg) (C : Ct K w mg) (G_is_name : FnX P w K mg base "is_name" 1 ["thing"] (spF K [.fz] f_is_name .fz)) (G_is_value : FnX P w K mg base "is_value" 2 ["thing", "most"] (spF K [.fz, .fz] f_is_value .fz)) :
    FnG P w K mg base CX0 3 f fd ["names"] (spF K [.fz] f_look_names .fz) :=
  fn_data (Oi := [.fz]) (Ol := [.fz]) (r := .fz) F sc_look_names rfl rfl rfl (fun _ z => by cases z) fun cd A outer s H E hgd hr =>
    have hu := hu65 hr
    (s_cons (s_if (PW.pt (w_or (t_not (t_val (e_isi B.isinstance B.dict (by decide +kernel) (e_var 0)))) (w_or (t_cmp op_gt s_gt (e_lenU B (a_cons (e_var 0) a_nil)) e_int) (w_or1 (t_not (t_val (e_all B rfl (a_cons (e_lcK 0 (own := [("name", 1)]) (L := O_look_names) rfl sc_look_names.nd (i_keysM 0) (blkOk_by (N := N_look_names) (sc := defScope s_look_names) (by decide +kernel)) (fun _ _ _ _ _ => (g_name 1 sc_look_names.nd)) (fun _ _ _ _ _ => ts_nil) (fun _ _ _ _ _ => (e_callX G_is_name hgd hr (a_cons (e_var 1) a_nil)))) a_nil)))))))) (s_one s_never) s_nil)
    (s_one (s_if (t_not (t_val (e_all B rfl (a_cons (e_lcK 0 (own := [("name", 1)]) (L := O_look_names) rfl sc_look_names.nd (i_keysL 0) (blkOk_by (N := N_look_names) (sc := defScope s_look_names) (by decide +kernel)) (fun _ _ _ _ _ => (g_name 1 sc_look_names.nd)) (fun _ _ _ _ _ => ts_nil) (fun _ _ _ _ _ => (e_callX G_is_value hgd hr (a_cons (e_ixU hu (e_var 0) (e_var 1)) (a_cons (e_gc C.BIG) a_nil))))) a_nil)))) (s_one s_never) s_nil)))
abbrev s_look_steps : Stmt := topS 51
abbrev N_look_steps : List Str := ["steps"]
theorem sc_look_steps : FnScope N_look_steps ["steps"] (defScope s_look_steps) := ⟨rfl, rfl, rfl, by decide +kernel, rfl, by decide +kernel, by decide +kernel⟩
abbrev O_look_steps : List Kd := [.fz]
def m_look_steps : MS := (mIte (mNot (mTr (mCall f_is_number [.fz, .fz, .fz] [] (maCons (mVar 0) (maCons (mC (.int 0)) (maCons (mC (.int 100000)) maNil)))))) mNever mSkip)
def f_look_steps : En → Option (D × En) := mFun [.fz] 0 .fz m_look_steps
theorem ok_look_steps {P : Program} {w : World} {K : PySem.W.Frag} {mg : Str → Option Value} {base : Heap} {f : Addr} {fd : FuncData} (F : FunD K "look_steps" "look_steps" (defArgs s_look_steps) (defBody s_look_steps) (defScope s_look_steps) [] [] f fd) (B : Bt mg) (C : Ct K w mg) (G_is_number : FnX P w K mg base "is_number" 1 ["thing", "least", "most"] (spF K [.fz, .fz, .fz] f_is_number .fz)) :
    FnG P w K mg base CX0 2 f fd ["steps"] (spF K [.fz] f_look_steps .fz) :=
  fn_data (Oi := [.fz]) (Ol := []) (r := .fz) F sc_look_steps rfl rfl rfl (fun _ z => by cases z) fun cd A outer s H E hgd hr =>
    have hu := hu65 hr
    (s_one (s_if (t_not (t_val (e_callX G_is_number hgd hr (a_cons (e_var 0) (a_cons e_int (a_cons (e_gc C.MOST_STEPS) a_nil)))))) (s_one s_never) s_nil))
abbrev s_Walk___len__ : Stmt := clsS (topS 52) 1
abbrev N_Walk___len__ : List Str := ["self"]
theorem sc_Walk___len__ : FnScope N_Walk___len__ ["self"] (defScope s_Walk___len__) := ⟨rfl, rfl, rfl, by decide +kernel, rfl, by decide +kernel, by decide +kernel⟩
abbrev Oi_Walk___len__ : List Kd := [.fz, .fz, .fz, .ow, .ow, .ow, .ow, .ow, .fz, .fz, .cell 0 "Walk" A_Walk]
abbrev O_Walk___len__ : List Kd := [.fz, .fz, .fz, .ow, .ow, .ow, .ow, .ow, .fz, .fz, .cell 0 "Walk" A_Walk]
def m_Walk___len__ : MS := (mRet (mOp [.br 7] (maCons (mBr 7) maNil) dLenU))
def f_Walk___len__ : En → Option (D × En) := mMet 1 0 .fz m_Walk___len__
theorem ok_Walk___len__ {P : Program} {w : World} {K : PySem.W.Frag} {mg : Str → Option Value} {base : Heap} {f : Addr} {fd : FuncData} (F : FunD K "__len__" "Walk.__len__" (defArgs s_Walk___len__) (defBody s_Walk___len__) (defScope s_Walk___len__) [] [] f fd) (B : Bt mg) (C : Ct K w mg) :
    FnG P w K mg base CX0 1 f fd ["self"] (spM true K Oi_Walk___len__ f_Walk___len__ .fz) :=
  fn_meth (b := true) (Oi := Oi_Walk___len__) (Ol := []) (Ob := O_Walk___len__) (r := .fz) F sc_Walk___len__ ⟨rfl, rfl, rfl, rfl, rfl, rfl, rfl, rfl, npin_get (by decide +kernel), by decide +kernel, by decide +kernel⟩ rfl rfl (fun _ z => by cases z) fun cd A outer s H E hgd hr =>
    have hu := hu65 hr
    (sb_ret (e_lenU B (a_cons (e_brA 7 C.at_Walk_trail) a_nil)))
abbrev s_Walk_pass_by : Stmt := clsS (topS 52) 2
abbrev N_Walk_pass_by : List Str := ["self", "op", "arg", "line"]
theorem sc_Walk_pass_by : FnScope N_Walk_pass_by ["self"] (defScope s_Walk_pass_by) := ⟨rfl, rfl, rfl, by decide +kernel, rfl, by decide +kernel, by decide +kernel⟩
abbrev Oi_Walk_pass_by : List Kd := [.fz, .fz, .fz, .ow, .ow, .ow, .ow, .ow, .fz, .fz, .cell 0 "Walk" A_Walk]
abbrev O_Walk_pass_by : List Kd := [.fz, .fz, .fz, .fz, .fz, .fz, .ow, .ow, .ow, .ow, .ow, .fz, .fz, .cell 0 "Walk" A_Walk]
def m_Walk_pass_by : MS := (mWhile (mTr (m2 (.fz) (.fz) (m2 (.fz) (.fz) (m2 (.fz) (.fz) (mVar 4) (mVar 12) dIxU) (mC (.int 0)) dIxU) (mC (.tuple [(.str "label"), (.str "try"), (.str "endtry")])) dInU)) (mSeq (mAsg (mgT 3 (mgCons (mgN 1) (mgCons (mgN 2) (mgCons (mgN 3) mgNil)))) (m2 (.fz) (.fz) (mVar 4) (mVar 12) dIxU))
  (mSeq (mIte (mTr (m2 (.fz) (.fz) (mVar 1) (mC (.str "try")) dEqU)) (mDrop (mMut 8 "list" (maCons (mTup (maCons (mVar 2) (maCons (mOp [.br 7] (maCons (mBr 7) maNil) dLenU) maNil))) maNil) dAppend)) (mIte (mTr (m2 (.fz) (.fz) (mVar 1) (mC (.str "endtry")) dEqU)) (mDrop (mMut 8 "list" maNil dPop)) mSkip))
  (mAug 12 (mC (.int 1)) dAdd))))
def f_Walk_pass_by : En → Option (D × En) := mMet 1 3 .fz m_Walk_pass_by
theorem ok_Walk_pass_by {P : Program} {w : World} {K : PySem.W.Frag} {mg : Str → Option Value} {base : Heap} {f : Addr} {fd : FuncData} (F : FunD K "pass_by" "Walk.pass_by" (defArgs s_Walk_pass_by) (defBody s_Walk_pass_by) (defScope s_Walk_pass_by) [] [] f fd) (B : Bt mg) (C : Ct K w mg) :
    FnG P w K mg base CX0 1 f fd ["self"] (spM false K Oi_Walk_pass_by f_Walk_pass_by .fz) :=
  fn_meth (b := false) (Oi := Oi_Walk_pass_by) (Ol := [.fz, .fz, .fz]) (Ob := O_Walk_pass_by) (r := .fz) F sc_Walk_pass_by ⟨rfl, rfl, rfl, rfl, rfl, rfl, rfl, rfl, npin_get (by decide +kernel), by decide +kernel, by decide +kernel⟩ rfl rfl (fun _ z => by cases z) fun cd A outer s H E hgd hr =>
    have hu := hu65 hr
    (sb_of (s_one (s_while PassesOwn.never (t_in hu (e_ixU hu (e_ixU hu (e_attr 4 C.at_Walk_rows) (e_attr 12 C.at_Walk_at)) e_int) (e_gc C.PSEUDO)) (s_cons (s_asg (e_ixU hu (e_attr 4 C.at_Walk_rows) (e_attr 12 C.at_Walk_at)) (g_tup rfl (gs_cons (g_name 1 sc_Walk_pass_by.nd) (gs_cons (g_name 2 sc_Walk_pass_by.nd) (gs_cons (g_name 3 sc_Walk_pass_by.nd) gs_nil)))))
    (s_cons (s_if (t_eq hu (e_var 1) e_str) (s_one (s_expr (e_mut 8 PySem.F.plainAttrs_list PySem.F.slot_list_append PySem.F.type_list_append mt_append ms_append (e_brA 8 C.at_Walk_shields) (a_cons (e_tup (a_cons (e_var 2) (a_cons (e_lenU B (a_cons (e_brA 7 C.at_Walk_pile) a_nil)) a_nil))) a_nil)))) (s_one (s_if (t_eq hu (e_var 1) e_str) (s_one (s_expr (e_mut0 8 PySem.F.plainAttrs_list PySem.F.slot_list_pop PySem.F.type_list_pop mt_pop ms_pop (e_brA 8 C.at_Walk_shields)))) s_nil)))
    (s_one (s_attrAug 12 iop_add s_add C.at_Walk_at e_int)))))))
abbrev s_Walk___init__ : Stmt := clsS (topS 52) 0
abbrev N_Walk___init__ : List Str := ["self", "code", "names"]
theorem sc_Walk___init__ : FnScope N_Walk___init__ ["self", "code", "names"] (defScope s_Walk___init__) := ⟨rfl, rfl, rfl, by decide +kernel, rfl, by decide +kernel, by decide +kernel⟩
abbrev Oi_Walk___init__ : List Kd := [.fz, .fz, .fz, .fz, .fz, .ow, .ow, .ow, .ow, .ow, .fz, .fz, .cell 0 "Walk" A_Walk]
abbrev O_Walk___init__ : List Kd := [.fz, .fz, .fz, .fz, .fz, .ow, .ow, .ow, .ow, .ow, .fz, .fz, .cell 0 "Walk" A_Walk]
def m_Walk___init__ : MS := (mSeq (mDrop (mCall f_look_sound [.fz] [] (maCons (mVar 1) maNil)))
  (mSeq (mDrop (mCall f_look_names [.fz] [] (maCons (mVar 2) maNil)))
  (mSeq (mSet 3 (mOp [.fz] (maCons (mVar 1) maNil) dList))
  (mSeq (mSet 4 (mCall f_where_of [.fz] [] (maCons (mVar 1) maNil)))
  (mSeq (mSet 5 (mOp [.fz] (maCons (mVar 2) maNil) dDict))
  (mSeq (mSet 6 (mLst maNil))
  (mSeq (mSet 7 (mLst maNil))
  (mSeq (mSet 8 (mLst maNil))
  (mSeq (mSet 9 (mLst maNil))
  (mSeq (mSet 10 (mTup (maCons (mC (.str "on")) maNil)))
  (mSeq (mSet 11 (mC (.int 0)))
  (mDrop (mCallM 3 1 f_Walk_pass_by maNil)))))))))))))
def f_Walk___init__ : En → Option (D × En) := mMet 3 0 .fz m_Walk___init__
theorem ok_Walk___init__ {P : Program} {w : World} {K : PySem.W.Frag} {mg : Str → Option Value} {base : Heap} {f : Addr} {fd : FuncData} (F : FunD K "__init__" "Walk.__init__" (defArgs s_Walk___init__) (defBody s_Walk___init__) (defScope s_Walk___init__) [] [] f fd) (B : Bt mg) (C : Ct K w mg) (G_Walk_pass_by : MtX P w K mg base "Walk" "pass_by" 1 ["self"] (spM false K Oi_Walk_pass_by f_Walk_pass_by .fz)) (G_look_names : FnX P w K mg base "look_names" 3 ["names"] (spF K [.fz] f_look_names .fz)) (G_look_sound : FnX P w K mg base "look_sound" 7 ["code"] (spF K [.fz] f_look_sound .fz)) (G_where_of : FnX P w K mg base "where_of" 1 ["code"] (spF K [.fz] f_where_of .ow)) :
    FnG P w K mg base CX0 8 f fd ["self", "code", "names"] (spM false K Oi_Walk___init__ f_Walk___init__ .fz) :=
  fn_meth (b := false) (Oi := Oi_Walk___init__) (Ol := []) (Ob := O_Walk___init__) (r := .fz) F sc_Walk___init__ ⟨rfl, rfl, rfl, rfl, rfl, rfl, rfl, rfl, npin_get (by decide +kernel), by decide +kernel, by decide +kernel⟩ rfl rfl (fun _ z => by cases z) fun cd A outer s H E hgd hr =>
    have hu := hu65 hr
    (sb_of (s_cons (s_expr (e_callX G_look_sound hgd hr (a_cons (e_var 1) a_nil)))
    (s_cons (s_expr (e_callX G_look_names hgd hr (a_cons (e_var 2) a_nil)))
    (s_cons (s_attrF 3 C.at_Walk_rows (e_frz (e_list B (a_cons (e_var 1) a_nil))))
    (s_cons (s_attrF 4 C.at_Walk_where (e_frz (e_callX G_where_of hgd hr (a_cons (e_var 1) a_nil))))
    (s_cons (s_attrO 5 C.at_Walk_held (e_dict B (a_cons (e_var 2) a_nil)))
    (s_cons (s_attrO 6 C.at_Walk_pile (e_lst a_nil))
    (s_cons (s_attrO 7 C.at_Walk_shields (e_lst a_nil))
    (s_cons (s_attrO 8 C.at_Walk_out (e_lst a_nil))
    (s_cons (s_attrO 9 C.at_Walk_trail (e_lst a_nil))
    (s_cons (s_attrF 10 C.at_Walk_last (e_tup (a_cons e_str a_nil)))
    (s_cons (s_attrF 11 C.at_Walk_at e_int)
    (s_one (s_exprS (es_b (eb_meth0 (Oi := Oi_Walk_pass_by) G_Walk_pass_by hgd hr))))))))))))))))
abbrev s_Walk_place : Stmt := clsS (topS 52) 3
abbrev N_Walk_place : List Str := ["self"]
theorem sc_Walk_place : FnScope N_Walk_place ["self"] (defScope s_Walk_place) := ⟨rfl, rfl, rfl, by decide +kernel, rfl, by decide +kernel, by decide +kernel⟩
abbrev Oi_Walk_place : List Kd := [.fz, .fz, .fz, .ow, .ow, .ow, .ow, .ow, .fz, .fz, .cell 0 "Walk" A_Walk]
abbrev O_Walk_place : List Kd := [.fz, .fz, .fz, .ow, .ow, .ow, .ow, .ow, .fz, .fz, .cell 0 "Walk" A_Walk]
def m_Walk_place : MS := (mRet (mIf (mTr (m2 (.fz) (.fz) (mVar 8) (mTup (maCons (mC (.str "on")) maNil)) dEqU)) (mVar 9) (mC .none)))
def f_Walk_place : En → Option (D × En) := mMet 1 0 .fz m_Walk_place
theorem ok_Walk_place {P : Program} {w : World} {K : PySem.W.Frag} {mg : Str → Option Value} {base : Heap} {f : Addr} {fd : FuncData} (F : FunD K "place" "Walk.place" (defArgs s_Walk_place) (defBody s_Walk_place) (defScope s_Walk_place) [] [] f fd) (B : Bt mg) (C : Ct K w mg) :
    FnG P w K mg base CX0 1 f fd ["self"] (spM true K Oi_Walk_place f_Walk_place .fz) :=
  fn_meth (b := true) (Oi := Oi_Walk_place) (Ol := []) (Ob := O_Walk_place) (r := .fz) F sc_Walk_place ⟨rfl, rfl, rfl, rfl, rfl, rfl, rfl, rfl, npin_get (by decide +kernel), by decide +kernel, by decide +kernel⟩ rfl rfl (fun _ z => by cases z) fun cd A outer s H E hgd hr =>
    have hu := hu65 hr
    (sb_ret (e_if (t_eq hu (e_attr 8 C.at_Walk_last) (e_tup (a_cons e_str a_nil))) (e_attr 9 C.at_Walk_at) e_non))
abbrev s_Walk_stack : Stmt := clsS (topS 52) 4
abbrev N_Walk_stack : List Str := ["self"]
theorem sc_Walk_stack : FnScope N_Walk_stack ["self"] (defScope s_Walk_stack) := ⟨rfl, rfl, rfl, by decide +kernel, rfl, by decide +kernel, by decide +kernel⟩
abbrev Oi_Walk_stack : List Kd := [.fz, .fz, .fz, .ow, .ow, .ow, .ow, .ow, .fz, .fz, .cell 0 "Walk" A_Walk]
abbrev O_Walk_stack : List Kd := [.fz, .fz, .fz, .ow, .ow, .ow, .ow, .ow, .fz, .fz, .cell 0 "Walk" A_Walk]
def m_Walk_stack : MS := (mRet (mOp [.br 4] (maCons (mBr 4) maNil) dList))
def f_Walk_stack : En → Option (D × En) := mMet 1 0 .ow m_Walk_stack
theorem ok_Walk_stack {P : Program} {w : World} {K : PySem.W.Frag} {mg : Str → Option Value} {base : Heap} {f : Addr} {fd : FuncData} (F : FunD K "stack" "Walk.stack" (defArgs s_Walk_stack) (defBody s_Walk_stack) (defScope s_Walk_stack) [] [] f fd) (B : Bt mg) (C : Ct K w mg) :
    FnG P w K mg base CX0 1 f fd ["self"] (spM true K Oi_Walk_stack f_Walk_stack .ow) :=
  fn_meth (b := true) (Oi := Oi_Walk_stack) (Ol := []) (Ob := O_Walk_stack) (r := .ow) F sc_Walk_stack ⟨rfl, rfl, rfl, rfl, rfl, rfl, rfl, rfl, npin_get (by decide +kernel), by decide +kernel, by decide +kernel⟩ rfl rfl (fun _ z => by cases z) fun cd A outer s H E hgd hr =>
    have hu := hu65 hr
    (sb_ret (e_list B (a_cons (e_brA 4 C.at_Walk_pile) a_nil)))
abbrev s_Walk_names : Stmt := clsS (topS 52) 5
abbrev N_Walk_names : List Str := ["self"]
theorem sc_Walk_names : FnScope N_Walk_names ["self"] (defScope s_Walk_names) := ⟨rfl, rfl, rfl, by decide +kernel, rfl, by decide +kernel, by decide +kernel⟩
abbrev Oi_Walk_names : List Kd := [.fz, .fz, .fz, .ow, .ow, .ow, .ow, .ow, .fz, .fz, .cell 0 "Walk" A_Walk]
abbrev O_Walk_names : List Kd := [.fz, .fz, .fz, .ow, .ow, .ow, .ow, .ow, .fz, .fz, .cell 0 "Walk" A_Walk]
def m_Walk_names : MS := (mRet (mOp [.br 3] (maCons (mBr 3) maNil) dDict))
def f_Walk_names : En → Option (D × En) := mMet 1 0 .ow m_Walk_names
theorem ok_Walk_names {P : Program} {w : World} {K : PySem.W.Frag} {mg : Str → Option Value} {base : Heap} {f : Addr} {fd : FuncData} (F : FunD K "names" "Walk.names" (defArgs s_Walk_names) (defBody s_Walk_names) (defScope s_Walk_names) [] [] f fd) (B : Bt mg) (C : Ct K w mg) :
    FnG P w K mg base CX0 1 f fd ["self"] (spM true K Oi_Walk_names f_Walk_names .ow) :=
  fn_meth (b := true) (Oi := Oi_Walk_names) (Ol := []) (Ob := O_Walk_names) (r := .ow) F sc_Walk_names ⟨rfl, rfl, rfl, rfl, rfl, rfl, rfl, rfl, npin_get (by decide +kernel), by decide +kernel, by decide +kernel⟩ rfl rfl (fun _ z => by cases z) fun cd A outer s H E hgd hr =>
    have hu := hu65 hr
    (sb_ret (e_dict B (a_cons (e_brA 3 C.at_Walk_held) a_nil)))
abbrev s_Walk_guards : Stmt := clsS (topS 52) 6
abbrev N_Walk_guards : List Str := ["self"]
theorem sc_Walk_guards : FnScope N_Walk_guards ["self"] (defScope s_Walk_guards) := ⟨rfl, rfl, rfl, by decide +kernel, rfl, by decide +kernel, by decide +kernel⟩
abbrev Oi_Walk_guards : List Kd := [.fz, .fz, .fz, .ow, .ow, .ow, .ow, .ow, .fz, .fz, .cell 0 "Walk" A_Walk]
abbrev O_Walk_guards : List Kd := [.fz, .fz, .fz, .ow, .ow, .ow, .ow, .ow, .fz, .fz, .cell 0 "Walk" A_Walk]
def m_Walk_guards : MS := (mRet (mOp [.br 5] (maCons (mBr 5) maNil) dList))
def f_Walk_guards : En → Option (D × En) := mMet 1 0 .ow m_Walk_guards
theorem ok_Walk_guards {P : Program} {w : World} {K : PySem.W.Frag} {mg : Str → Option Value} {base : Heap} {f : Addr} {fd : FuncData} (F : FunD K "guards" "Walk.guards" (defArgs s_Walk_guards) (defBody s_Walk_guards) (defScope s_Walk_guards) [] [] f fd) (B : Bt mg) (C : Ct K w mg) :
    FnG P w K mg base CX0 1 f fd ["self"] (spM true K Oi_Walk_guards f_Walk_guards .ow) :=
  fn_meth (b := true) (Oi := Oi_Walk_guards) (Ol := []) (Ob := O_Walk_guards) (r := .ow) F sc_Walk_guards ⟨rfl, rfl, rfl, rfl, rfl, rfl, rfl, rfl, npin_get (by decide +kernel), by decide +kernel, by decide +kernel⟩ rfl rfl (fun _ z => by cases z) fun cd A outer s H E hgd hr =>
    have hu := hu65 hr
    (sb_ret (e_list B (a_cons (e_brA 5 C.at_Walk_shields) a_nil)))
abbrev s_Walk_told : Stmt := clsS (topS 52) 7
abbrev N_Walk_told : List Str := ["self"]
theorem sc_Walk_told : FnScope N_Walk_told ["self"] (defScope s_Walk_told) := ⟨rfl, rfl, rfl, by decide +kernel, rfl, by decide +kernel, by decide +kernel⟩
abbrev Oi_Walk_told : List Kd := [.fz, .fz, .fz, .ow, .ow, .ow, .ow, .ow, .fz, .fz, .cell 0 "Walk" A_Walk]
abbrev O_Walk_told : List Kd := [.fz, .fz, .fz, .ow, .ow, .ow, .ow, .ow, .fz, .fz, .cell 0 "Walk" A_Walk]
def m_Walk_told : MS := (mRet (mOp [.br 6] (maCons (mBr 6) maNil) dList))
def f_Walk_told : En → Option (D × En) := mMet 1 0 .ow m_Walk_told
theorem ok_Walk_told {P : Program} {w : World} {K : PySem.W.Frag} {mg : Str → Option Value} {base : Heap} {f : Addr} {fd : FuncData} (F : FunD K "told" "Walk.told" (defArgs s_Walk_told) (defBody s_Walk_told) (defScope s_Walk_told) [] [] f fd) (B : Bt mg) (C : Ct K w mg) :
    FnG P w K mg base CX0 1 f fd ["self"] (spM true K Oi_Walk_told f_Walk_told .ow) :=
  fn_meth (b := true) (Oi := Oi_Walk_told) (Ol := []) (Ob := O_Walk_told) (r := .ow) F sc_Walk_told ⟨rfl, rfl, rfl, rfl, rfl, rfl, rfl, rfl, npin_get (by decide +kernel), by decide +kernel, by decide +kernel⟩ rfl rfl (fun _ z => by cases z) fun cd A outer s H E hgd hr =>
    have hu := hu65 hr
    (sb_ret (e_list B (a_cons (e_brA 6 C.at_Walk_out) a_nil)))
abbrev s_Walk_end : Stmt := clsS (topS 52) 8
abbrev N_Walk_end : List Str := ["self"]
theorem sc_Walk_end : FnScope N_Walk_end ["self"] (defScope s_Walk_end) := ⟨rfl, rfl, rfl, by decide +kernel, rfl, by decide +kernel, by decide +kernel⟩
abbrev Oi_Walk_end : List Kd := [.fz, .fz, .fz, .ow, .ow, .ow, .ow, .ow, .fz, .fz, .cell 0 "Walk" A_Walk]
abbrev O_Walk_end : List Kd := [.fz, .fz, .fz, .ow, .ow, .ow, .ow, .ow, .fz, .fz, .cell 0 "Walk" A_Walk]
def m_Walk_end : MS := (mRet (mVar 8))
def f_Walk_end : En → Option (D × En) := mMet 1 0 .fz m_Walk_end
theorem ok_Walk_end {P : Program} {w : World} {K : PySem.W.Frag} {mg : Str → Option Value} {base : Heap} {f : Addr} {fd : FuncData} (F : FunD K "end" "Walk.end" (defArgs s_Walk_end) (defBody s_Walk_end) (defScope s_Walk_end) [] [] f fd) (B : Bt mg) (C : Ct K w mg) :
    FnG P w K mg base CX0 1 f fd ["self"] (spM true K Oi_Walk_end f_Walk_end .fz) :=
  fn_meth (b := true) (Oi := Oi_Walk_end) (Ol := []) (Ob := O_Walk_end) (r := .fz) F sc_Walk_end ⟨rfl, rfl, rfl, rfl, rfl, rfl, rfl, rfl, npin_get (by decide +kernel), by decide +kernel, by decide +kernel⟩ rfl rfl (fun _ z => by cases z) fun cd A outer s H E hgd hr =>
    have hu := hu65 hr
    (sb_ret (e_attr 8 C.at_Walk_last))
abbrev s_Walk_places : Stmt := clsS (topS 52) 9
abbrev N_Walk_places : List Str := ["self"]
theorem sc_Walk_places : FnScope N_Walk_places ["self"] (defScope s_Walk_places) := ⟨rfl, rfl, rfl, by decide +kernel, rfl, by decide +kernel, by decide +kernel⟩
abbrev Oi_Walk_places : List Kd := [.fz, .fz, .fz, .ow, .ow, .ow, .ow, .ow, .fz, .fz, .cell 0 "Walk" A_Walk]
abbrev O_Walk_places : List Kd := [.fz, .fz, .fz, .ow, .ow, .ow, .ow, .ow, .fz, .fz, .cell 0 "Walk" A_Walk]
def m_Walk_places : MS := (mRet (mOp [.br 7] (maCons (mBr 7) maNil) dList))
def f_Walk_places : En → Option (D × En) := mMet 1 0 .ow m_Walk_places
theorem ok_Walk_places {P : Program} {w : World} {K : PySem.W.Frag} {mg : Str → Option Value} {base : Heap} {f : Addr} {fd : FuncData} (F : FunD K "places" "Walk.places" (defArgs s_Walk_places) (defBody s_Walk_places) (defScope s_Walk_places) [] [] f fd) (B : Bt mg) (C : Ct K w mg) :
    FnG P w K mg base CX0 1 f fd ["self"] (spM true K Oi_Walk_places f_Walk_places .ow) :=
  fn_meth (b := true) (Oi := Oi_Walk_places) (Ol := []) (Ob := O_Walk_places) (r := .ow) F sc_Walk_places ⟨rfl, rfl, rfl, rfl, rfl, rfl, rfl, rfl, npin_get (by decide +kernel), by decide +kernel, by decide +kernel⟩ rfl rfl (fun _ z => by cases z) fun cd A outer s H E hgd hr =>
    have hu := hu65 hr
    (sb_ret (e_list B (a_cons (e_brA 7 C.at_Walk_trail) a_nil)))
abbrev s_Walk_fault : Stmt := clsS (topS 52) 11
abbrev N_Walk_fault : List Str := ["self", "kind", "line", "mark", "depth"]
theorem sc_Walk_fault : FnScope N_Walk_fault ["self", "kind", "line"] (defScope s_Walk_fault) := ⟨rfl, rfl, rfl, by decide +kernel, rfl, by decide +kernel, by decide +kernel⟩
abbrev Oi_Walk_fault : List Kd := [.fz, .fz, .fz, .fz, .fz, .ow, .ow, .ow, .ow, .ow, .fz, .fz, .cell 0 "Walk" A_Walk]
abbrev O_Walk_fault : List Kd := [.fz, .fz, .fz, .fz, .fz, .fz, .fz, .ow, .ow, .ow, .ow, .ow, .fz, .fz, .cell 0 "Walk" A_Walk]
def m_Walk_fault : MS := (mSeq (mIte (mTr (m2 (.br 9) (.ow) (mBr 9) (mLst maNil) dEqU)) (mSeq (mSet 12 (mTup (maCons (mC (.str "fault")) (maCons (mVar 1) (maCons (mVar 2) maNil)))))
  (mRet (mC .none))) mSkip)
  (mSeq (mAsg (mgT 2 (mgCons (mgN 3) (mgCons (mgN 4) mgNil))) (mMut 9 "list" maNil dPop))
  (mSeq (mSet 8 (m2 (.fz) (.ow) (mSl (.br 8) (mBr 8) mNo (mPt (mVar 4)) dSlU) (mLst (maCons (mVar 1) maNil)) dCat))
  (mSet 13 (m2 (.fz) (.fz) (mVar 6) (mVar 3) dIxU)))))
def f_Walk_fault : En → Option (D × En) := mMet 3 2 .fz m_Walk_fault
theorem ok_Walk_fault {P : Program} {w : World} {K : PySem.W.Frag} {mg : Str → Option Value} {base : Heap} {f : Addr} {fd : FuncData} (F : FunD K "fault" "Walk.fault" (defArgs s_Walk_fault) (defBody s_Walk_fault) (defScope s_Walk_fault) [] [] f fd) (B : Bt mg) (C : Ct K w mg) :
    FnG P w K mg base CX0 1 f fd ["self", "kind", "line"] (spM false K Oi_Walk_fault f_Walk_fault .fz) :=
  fn_meth (b := false) (Oi := Oi_Walk_fault) (Ol := [.fz, .fz]) (Ob := O_Walk_fault) (r := .fz) F sc_Walk_fault ⟨rfl, rfl, rfl, rfl, rfl, rfl, rfl, rfl, npin_get (by decide +kernel), by decide +kernel, by decide +kernel⟩ rfl rfl (fun _ z => by cases z) fun cd A outer s H E hgd hr =>
    have hu := hu65 hr
    (sb_of (s_cons (s_if (t_eq hu (e_brA 9 C.at_Walk_shields) (e_lst a_nil)) (s_cons (s_attrF 12 C.at_Walk_last (e_tup (a_cons e_str (a_cons (e_var 1) (a_cons (e_var 2) a_nil)))))
    (s_one s_retN)) s_nil)
    (s_cons (s_asg (e_mut0 9 PySem.F.plainAttrs_list PySem.F.slot_list_pop PySem.F.type_list_pop mt_pop ms_pop (e_brA 9 C.at_Walk_shields)) (g_tup rfl (gs_cons (g_name 3 sc_Walk_fault.nd) (gs_cons (g_name 4 sc_Walk_fault.nd) gs_nil))))
    (s_cons (s_attrO 8 C.at_Walk_pile (e_op op_catS s_cat (e_slU (e_brA 8 C.at_Walk_pile) o_no (o_pt (e_var 4))) (e_lst (a_cons (e_var 1) a_nil))))
    (s_one (s_attrF 13 C.at_Walk_at (e_ixU hu (e_attr 6 C.at_Walk_where) (e_var 3))))))))
abbrev s_Walk_move : Stmt := clsS (topS 52) 13
abbrev N_Walk_move : List Str := ["self", "op", "arg", "value"]
theorem sc_Walk_move : FnScope N_Walk_move ["self", "op", "arg"] (defScope s_Walk_move) := ⟨rfl, rfl, rfl, by decide +kernel, rfl, by decide +kernel, by decide +kernel⟩
abbrev Oi_Walk_move : List Kd := [.fz, .fz, .fz, .fz, .fz, .ow, .ow, .ow, .ow, .ow, .fz, .fz, .cell 0 "Walk" A_Walk]
abbrev O_Walk_move : List Kd := [.fz, .fz, .fz, .fz, .fz, .fz, .ow, .ow, .ow, .ow, .ow, .fz, .fz, .cell 0 "Walk" A_Walk]
def m_Walk_move : MS := (mIte (mTr (m2 (.fz) (.fz) (mVar 1) (mC (.str "push")) dEqU)) (mDrop (mMut 7 "list" (maCons (mVar 2) maNil) dAppend)) (mIte (mTr (m2 (.fz) (.fz) (mVar 1) (mC (.str "copy")) dEqU)) (mDrop (mMut 7 "list" (maCons (m2 (.br 7) (.fz) (mBr 7) (m1 (.fz) (mVar 2) dNeg) dIxU) maNil) dAppend)) (mIte (mTr (m2 (.fz) (.fz) (mVar 1) (mC (.str "swap")) dEqU)) (mAsg (mgT 2 (mgCons (mgIx 7 (m1 (.fz) (mC (.int 1)) dNeg)) (mgCons (mgIx 7 (m1 (.fz) (mVar 2) dNeg)) mgNil))) (mTup (maCons (m2 (.br 7) (.fz) (mBr 7) (m1 (.fz) (mVar 2) dNeg) dIxU) (maCons (m2 (.br 7) (.fz) (mBr 7) (m1 (.fz) (mC (.int 1)) dNeg) dIxU) maNil)))) (mSeq (mSet 3 (mMut 7 "list" maNil dPop))
  (mIte (mTr (m2 (.fz) (.fz) (mVar 1) (mC (.str "tell")) dEqU)) (mDrop (mMut 9 "list" (maCons (mVar 3) maNil) dAppend)) mSkip)))))
def f_Walk_move : En → Option (D × En) := mMet 3 1 .fz m_Walk_move
theorem ok_Walk_move {P : Program} {w : World} {K : PySem.W.Frag} {mg : Str → Option Value} {base : Heap} {f : Addr} {fd : FuncData} (F : FunD K "move" "Walk.move" (defArgs s_Walk_move) (defBody s_Walk_move) (defScope s_Walk_move) [] [] f fd) (B : Bt mg) (C : Ct K w mg) :
    FnG P w K mg base CX0 1 f fd ["self", "op", "arg"] (spM false K Oi_Walk_move f_Walk_move .fz) :=
  fn_meth (b := false) (Oi := Oi_Walk_move) (Ol := [.fz]) (Ob := O_Walk_move) (r := .fz) F sc_Walk_move ⟨rfl, rfl, rfl, rfl, rfl, rfl, rfl, rfl, npin_get (by decide +kernel), by decide +kernel, by decide +kernel⟩ rfl rfl (fun _ z => by cases z) fun cd A outer s H E hgd hr =>
    have hu := hu65 hr
    (sb_of (s_one (s_if (t_eq hu (e_var 1) e_str) (s_one (s_expr (e_mut 7 PySem.F.plainAttrs_list PySem.F.slot_list_append PySem.F.type_list_append mt_append ms_append (e_brA 7 C.at_Walk_pile) (a_cons (e_var 2) a_nil)))) (s_one (s_if (t_eq hu (e_var 1) e_str) (s_one (s_expr (e_mut 7 PySem.F.plainAttrs_list PySem.F.slot_list_append PySem.F.type_list_append mt_append ms_append (e_brA 7 C.at_Walk_pile) (a_cons (e_ixU hu (e_brA 7 C.at_Walk_pile) (e_un un_neg s_neg (e_var 2))) a_nil)))) (s_one (s_if (t_eq hu (e_var 1) e_str) (s_one (s_asgH (e_tup (a_cons (e_ixU hu (e_brA 7 C.at_Walk_pile) (e_un un_neg s_neg (e_var 2))) (a_cons (e_ixU hu (e_brA 7 C.at_Walk_pile) (e_un un_neg s_neg e_int)) a_nil))) (gH_tup rfl (gsH_cons (gH_ix 7 (e_brA 7 C.at_Walk_pile) (e_un un_neg s_neg e_int)) (gsH_cons (gH_ix 7 (e_brA 7 C.at_Walk_pile) (e_un un_neg s_neg (e_var 2))) gsH_nil))))) (s_cons (s_setF 3 sc_Walk_move.nd (e_mut0 7 PySem.F.plainAttrs_list PySem.F.slot_list_pop PySem.F.type_list_pop mt_pop ms_pop (e_brA 7 C.at_Walk_pile)))
    (s_one (s_if (t_eq hu (e_var 1) e_str) (s_one (s_expr (e_mut 9 PySem.F.plainAttrs_list PySem.F.slot_list_append PySem.F.type_list_append mt_append ms_append (e_brA 9 C.at_Walk_out) (a_cons (e_var 3) a_nil)))) s_nil))))))))))
abbrev s_Walk_reckon : Stmt := clsS (topS 52) 14
abbrev N_Walk_reckon : List Str := ["self", "op", "other", "word", "found"]
theorem sc_Walk_reckon : FnScope N_Walk_reckon ["self", "op"] (defScope s_Walk_reckon) := ⟨rfl, rfl, rfl, by decide +kernel, rfl, by decide +kernel, by decide +kernel⟩
abbrev Oi_Walk_reckon : List Kd := [.fz, .fz, .fz, .fz, .ow, .ow, .ow, .ow, .ow, .fz, .fz, .cell 0 "Walk" A_Walk]
abbrev O_Walk_reckon : List Kd := [.fz, .fz, .fz, .fz, .fz, .fz, .fz, .ow, .ow, .ow, .ow, .ow, .fz, .fz, .cell 0 "Walk" A_Walk]
def m_Walk_reckon : MS := (mSeq (mIte (mTr (m2 (.fz) (.fz) (mVar 1) (mC (.tuple [(.str "add"), (.str "sub"), (.str "mul"), (.str "div"), (.str "rest"), (.str "less"), (.str "same")])) dInU)) (mSeq (mSet 2 (mMut 8 "list" maNil dPop))
  (mAsg (mgT 2 (mgCons (mgN 3) (mgCons (mgN 4) mgNil))) (mCall f_paired [.fz, .fz, .fz] [] (maCons (mVar 1) (maCons (mMut 8 "list" maNil dPop) (maCons (mVar 2) maNil)))))) (mAsg (mgT 2 (mgCons (mgN 3) (mgCons (mgN 4) mgNil))) (mCall f_single [.fz, .fz] [] (maCons (mVar 1) (maCons (mMut 8 "list" maNil dPop) maNil)))))
  (mSeq (mIte (mTr (m2 (.fz) (.fz) (mVar 3) (mC (.str "fault")) dEqU)) (mRet (mVar 4)) mSkip)
  (mSeq (mDrop (mMut 8 "list" (maCons (mVar 4) maNil) dAppend))
  (mRet (mC .none)))))
def f_Walk_reckon : En → Option (D × En) := mMet 2 3 .fz m_Walk_reckon
theorem ok_Walk_reckon {P : Program} {w : World} {K : PySem.W.Frag} {mg : Str → Option Value} {base : Heap} {f : Addr} {fd : FuncData} (F : FunD K "reckon" "Walk.reckon" (defArgs s_Walk_reckon) (defBody s_Walk_reckon) (defScope s_Walk_reckon) [] [] f fd) (B : Bt mg) (C : Ct K w mg) (G_paired : FnX P w K mg base "paired" 2 ["op", "one", "other"] (spF K [.fz, .fz, .fz] f_paired .fz)) (G_single : FnX P w K mg base "single" 3 ["op", "value"] (spF K [.fz, .fz] f_single .fz)) :
    FnG P w K mg base CX0 4 f fd ["self", "op"] (spM false K Oi_Walk_reckon f_Walk_reckon .fz) :=
  fn_meth (b := false) (Oi := Oi_Walk_reckon) (Ol := [.fz, .fz, .fz]) (Ob := O_Walk_reckon) (r := .fz) F sc_Walk_reckon ⟨rfl, rfl, rfl, rfl, rfl, rfl, rfl, rfl, npin_get (by decide +kernel), by decide +kernel, by decide +kernel⟩ rfl rfl (fun _ z => by cases z) fun cd A outer s H E hgd hr =>
    have hu := hu65 hr
    (sb_of (s_cons (s_if (t_in hu (e_var 1) (e_gc C.PAIRED)) (s_cons (s_setF 2 sc_Walk_reckon.nd (e_mut0 8 PySem.F.plainAttrs_list PySem.F.slot_list_pop PySem.F.type_list_pop mt_pop ms_pop (e_brA 8 C.at_Walk_pile)))
    (s_one (s_asg (e_callX G_paired hgd hr (a_cons (e_var 1) (a_cons (e_mut0 8 PySem.F.plainAttrs_list PySem.F.slot_list_pop PySem.F.type_list_pop mt_pop ms_pop (e_brA 8 C.at_Walk_pile)) (a_cons (e_var 2) a_nil)))) (g_tup rfl (gs_cons (g_name 3 sc_Walk_reckon.nd) (gs_cons (g_name 4 sc_Walk_reckon.nd) gs_nil)))))) (s_one (s_asg (e_callX G_single hgd hr (a_cons (e_var 1) (a_cons (e_mut0 8 PySem.F.plainAttrs_list PySem.F.slot_list_pop PySem.F.type_list_pop mt_pop ms_pop (e_brA 8 C.at_Walk_pile)) a_nil))) (g_tup rfl (gs_cons (g_name 3 sc_Walk_reckon.nd) (gs_cons (g_name 4 sc_Walk_reckon.nd) gs_nil))))))
    (s_cons (s_if (t_eq hu (e_var 3) e_str) (s_one (s_ret (e_var 4))) s_nil)
    (s_cons (s_expr (e_mut 8 PySem.F.plainAttrs_list PySem.F.slot_list_append PySem.F.type_list_append mt_append ms_append (e_brA 8 C.at_Walk_pile) (a_cons (e_var 4) a_nil)))
    (s_one (s_ret e_non))))))
abbrev s_Walk_name_done : Stmt := clsS (topS 52) 15
abbrev N_Walk_name_done : List Str := ["self", "op", "name"]
theorem sc_Walk_name_done : FnScope N_Walk_name_done ["self", "op", "name"] (defScope s_Walk_name_done) := ⟨rfl, rfl, rfl, by decide +kernel, rfl, by decide +kernel, by decide +kernel⟩
abbrev Oi_Walk_name_done : List Kd := [.fz, .fz, .fz, .fz, .fz, .ow, .ow, .ow, .ow, .ow, .fz, .fz, .cell 0 "Walk" A_Walk]
abbrev O_Walk_name_done : List Kd := [.fz, .fz, .fz, .fz, .fz, .ow, .ow, .ow, .ow, .ow, .fz, .fz, .cell 0 "Walk" A_Walk]
def m_Walk_name_done : MS := (mSeq (mIte (mTr (m2 (.fz) (.fz) (mVar 1) (mC (.str "store")) dEqU)) (mPutU 5 (mVar 2) (mMut 6 "list" maNil dPop)) (mIte (mTr (m2 (.fz) (.fz) (mVar 1) (mC (.str "quick")) dEqU)) (mDrop (mMut 6 "list" (maCons (mGet1 (.br 5) (mBr 5) (mVar 2)) maNil) dAppend)) (mIte (mTr (m2 (.fz) (.br 5) (mVar 2) (mBr 5) dNinU)) (mRet (mC (.str "Unset"))) (mIte (mTr (m2 (.fz) (.fz) (mVar 1) (mC (.str "load")) dEqU)) (mDrop (mMut 6 "list" (maCons (m2 (.br 5) (.fz) (mBr 5) (mVar 2) dIxU) maNil) dAppend)) (mDrop (mDpop 5 (mVar 2)))))))
  (mRet (mC .none)))
def f_Walk_name_done : En → Option (D × En) := mMet 3 0 .fz m_Walk_name_done
theorem ok_Walk_name_done {P : Program} {w : World} {K : PySem.W.Frag} {mg : Str → Option Value} {base : Heap} {f : Addr} {fd : FuncData} (F : FunD K "name_done" "Walk.name_done" (defArgs s_Walk_name_done) (defBody s_Walk_name_done) (defScope s_Walk_name_done) [] [] f fd) (B : Bt mg) (C : Ct K w mg) :
    FnG P w K mg base CX0 1 f fd ["self", "op", "name"] (spM false K Oi_Walk_name_done f_Walk_name_done .fz) :=
  fn_meth (b := false) (Oi := Oi_Walk_name_done) (Ol := []) (Ob := O_Walk_name_done) (r := .fz) F sc_Walk_name_done ⟨rfl, rfl, rfl, rfl, rfl, rfl, rfl, rfl, npin_get (by decide +kernel), by decide +kernel, by decide +kernel⟩ rfl rfl (fun _ z => by cases z) fun cd A outer s H E hgd hr =>
    have hu := hu65 hr
    (sb_of (s_cons (s_if (t_eq hu (e_var 1) e_str) (s_one (s_putU 5 hu rfl (e_brA 5 C.at_Walk_held) (e_var 2) (e_mut0 6 PySem.F.plainAttrs_list PySem.F.slot_list_pop PySem.F.type_list_pop mt_pop ms_pop (e_brA 6 C.at_Walk_pile)))) (s_one (s_if (t_eq hu (e_var 1) e_str) (s_one (s_expr (e_mut 6 PySem.F.plainAttrs_list PySem.F.slot_list_append PySem.F.type_list_append mt_append ms_append (e_brA 6 C.at_Walk_pile) (a_cons (e_get1 hu (e_brA 5 C.at_Walk_held) (e_var 2)) a_nil)))) (s_one (s_if (t_nin hu (e_var 2) (e_brA 5 C.at_Walk_held)) (s_one (s_ret e_str)) (s_one (s_if (t_eq hu (e_var 1) e_str) (s_one (s_expr (e_mut 6 PySem.F.plainAttrs_list PySem.F.slot_list_append PySem.F.type_list_append mt_append ms_append (e_brA 6 C.at_Walk_pile) (a_cons (e_ixU hu (e_brA 5 C.at_Walk_held) (e_var 2)) a_nil)))) (s_one (s_expr (e_dpop 5 (e_brA 5 C.at_Walk_held) (e_var 2)))))))))))
    (s_one (s_ret e_non))))
abbrev s_Walk_jump : Stmt := clsS (topS 52) 16
abbrev N_Walk_jump : List Str := ["self", "op", "mark"]
theorem sc_Walk_jump : FnScope N_Walk_jump ["self", "op", "mark"] (defScope s_Walk_jump) := ⟨rfl, rfl, rfl, by decide +kernel, rfl, by decide +kernel, by decide +kernel⟩
abbrev Oi_Walk_jump : List Kd := [.fz, .fz, .fz, .fz, .fz, .ow, .ow, .ow, .ow, .ow, .fz, .fz, .cell 0 "Walk" A_Walk]
abbrev O_Walk_jump : List Kd := [.fz, .fz, .fz, .fz, .fz, .ow, .ow, .ow, .ow, .ow, .fz, .fz, .cell 0 "Walk" A_Walk]
def m_Walk_jump : MS := (mSeq (mIte (mTr (m2 (.fz) (.fz) (mVar 1) (mC (.str "jump")) dEqU)) (mSet 11 (m2 (.fz) (.fz) (mVar 4) (mVar 2) dIxU)) (mIte (mTr (mCall f_takes_jump [.fz, .fz] [] (maCons (mVar 1) (maCons (m2 (.br 6) (.fz) (mBr 6) (m1 (.fz) (mC (.int 1)) dNeg) dIxU) maNil)))) (mSeq (mSet 11 (m2 (.fz) (.fz) (mVar 4) (mVar 2) dIxU))
  (mIte (mTr (m2 (.fz) (.fz) (mVar 1) (mTup (maCons (mC (.str "iftrue")) (maCons (mC (.str "iffalse")) maNil))) dInU)) (mDrop (mMut 6 "list" maNil dPop)) mSkip)) (mDrop (mMut 6 "list" maNil dPop))))
  (mRet (mC .none)))
def f_Walk_jump : En → Option (D × En) := mMet 3 0 .fz m_Walk_jump
theorem ok_Walk_jump {P : Program} {w : World} {K : PySem.W.Frag} {mg : Str → Option Value} {base : Heap} {f : Addr} {fd : FuncData} (F : FunD K "jump" "Walk.jump" (defArgs s_Walk_jump) (defBody s_Walk_jump) (defScope s_Walk_jump) [] [] f fd) (B : Bt mg) (C : Ct K w mg) (G_takes_jump : FnX P w K mg base "takes_jump" 3 ["op", "value"] (spF K [.fz, .fz] f_takes_jump .fz)) :
    FnG P w K mg base CX0 4 f fd ["self", "op", "mark"] (spM false K Oi_Walk_jump f_Walk_jump .fz) :=
  fn_meth (b := false) (Oi := Oi_Walk_jump) (Ol := []) (Ob := O_Walk_jump) (r := .fz) F sc_Walk_jump ⟨rfl, rfl, rfl, rfl, rfl, rfl, rfl, rfl, npin_get (by decide +kernel), by decide +kernel, by decide +kernel⟩ rfl rfl (fun _ z => by cases z) fun cd A outer s H E hgd hr =>
    have hu := hu65 hr
    (sb_of (s_cons (s_if (t_eq hu (e_var 1) e_str) (s_one (s_attrF 11 C.at_Walk_at (e_ixU hu (e_attr 4 C.at_Walk_where) (e_var 2)))) (s_one (s_if (t_val (e_callX G_takes_jump hgd hr (a_cons (e_var 1) (a_cons (e_ixU hu (e_brA 6 C.at_Walk_pile) (e_un un_neg s_neg e_int)) a_nil)))) (s_cons (s_attrF 11 C.at_Walk_at (e_ixU hu (e_attr 4 C.at_Walk_where) (e_var 2)))
    (s_one (s_if (t_in hu (e_var 1) (e_tup (a_cons e_str (a_cons e_str a_nil)))) (s_one (s_expr (e_mut0 6 PySem.F.plainAttrs_list PySem.F.slot_list_pop PySem.F.type_list_pop mt_pop ms_pop (e_brA 6 C.at_Walk_pile)))) s_nil))) (s_one (s_expr (e_mut0 6 PySem.F.plainAttrs_list PySem.F.slot_list_pop PySem.F.type_list_pop mt_pop ms_pop (e_brA 6 C.at_Walk_pile)))))))
    (s_one (s_ret e_non))))
abbrev s_Walk_done : Stmt := clsS (topS 52) 12
abbrev N_Walk_done : List Str := ["self", "row", "op", "arg", "line", "kind"]
theorem sc_Walk_done : FnScope N_Walk_done ["self", "row"] (defScope s_Walk_done) := ⟨rfl, rfl, rfl, by decide +kernel, rfl, by decide +kernel, by decide +kernel⟩
abbrev Oi_Walk_done : List Kd := [.fz, .fz, .fz, .fz, .ow, .ow, .ow, .ow, .ow, .fz, .fz, .cell 0 "Walk" A_Walk]
abbrev O_Walk_done : List Kd := [.fz, .fz, .fz, .fz, .fz, .fz, .fz, .fz, .ow, .ow, .ow, .ow, .ow, .fz, .fz, .cell 0 "Walk" A_Walk]
def m_Walk_done : MS := (mSeq (mAsg (mgT 3 (mgCons (mgN 2) (mgCons (mgN 3) (mgCons (mgN 4) mgNil)))) (mVar 1))
  (mSeq (mIte (mOr (mTr (m2 (.fz) (.fz) (mVar 2) (mC (.tuple [(.str "add"), (.str "sub"), (.str "mul"), (.str "div"), (.str "rest"), (.str "less"), (.str "same")])) dInU)) (mTr (m2 (.fz) (.fz) (mVar 2) (mTup (maCons (mC (.str "neg")) (maCons (mC (.str "not")) maNil))) dInU))) (mRet (mCallM 6 2 f_Walk_reckon (maCons (mVar 2) maNil))) mSkip)
  (mSeq (mIte (mTr (m2 (.fz) (.fz) (mVar 2) (mTup (maCons (mC (.str "load")) (maCons (mC (.str "quick")) (maCons (mC (.str "store")) (maCons (mC (.str "clear")) maNil))))) dInU)) (mRet (mCallM 6 3 f_Walk_name_done (maCons (mVar 2) (maCons (mVar 3) maNil)))) mSkip)
  (mSeq (mIte (mTr (m2 (.fz) (.fz) (mVar 2) (mTup (maCons (mC (.str "jump")) (maCons (mC (.str "iftrue")) (maCons (mC (.str "iffalse")) (maCons (mC (.str "ortrue")) (maCons (mC (.str "orfalse")) maNil)))))) dInU)) (mRet (mCallM 6 3 f_Walk_jump (maCons (mVar 2) (maCons (mVar 3) maNil)))) mSkip)
  (mSeq (mIte (mTr (m2 (.fz) (.fz) (mVar 2) (mC (.str "return")) dEqU)) (mSet 13 (mTup (maCons (mC (.str "value")) (maCons (mMut 9 "list" maNil dPop) maNil)))) (mIte (mTr (m2 (.fz) (.fz) (mVar 2) (mC (.str "raise")) dEqU)) (mSeq (mSet 5 (mMut 9 "list" maNil dPop))
  (mRet (mIf (mTr (m1 (.fz) (mVar 5) (dIs "str"))) (mVar 5) (mC (.str "Type"))))) (mDrop (mCallM 6 3 f_Walk_move (maCons (mVar 2) (maCons (mVar 3) maNil))))))
  (mRet (mC .none)))))))
def f_Walk_done : En → Option (D × En) := mMet 2 4 .fz m_Walk_done
theorem ok_Walk_done {P : Program} {w : World} {K : PySem.W.Frag} {mg : Str → Option Value} {base : Heap} {f : Addr} {fd : FuncData} (F : FunD K "done" "Walk.done" (defArgs s_Walk_done) (defBody s_Walk_done) (defScope s_Walk_done) [] [] f fd) (B : Bt mg) (C : Ct K w mg) (G_Walk_jump : MtX P w K mg base "Walk" "jump" 4 ["self", "op", "mark"] (spM false K Oi_Walk_jump f_Walk_jump .fz)) (G_Walk_move : MtX P w K mg base "Walk" "move" 1 ["self", "op", "arg"] (spM false K Oi_Walk_move f_Walk_move .fz)) (G_Walk_name_done : MtX P w K mg base "Walk" "name_done" 1 ["self", "op", "name"] (spM false K Oi_Walk_name_done f_Walk_name_done .fz)) (G_Walk_reckon : MtX P w K mg base "Walk" "reckon" 4 ["self", "op"] (spM false K Oi_Walk_reckon f_Walk_reckon .fz)) :
    FnG P w K mg base CX0 5 f fd ["self", "row"] (spM false K Oi_Walk_done f_Walk_done .fz) :=
  fn_meth (b := false) (Oi := Oi_Walk_done) (Ol := [.fz, .fz, .fz, .fz]) (Ob := O_Walk_done) (r := .fz) F sc_Walk_done ⟨rfl, rfl, rfl, rfl, rfl, rfl, rfl, rfl, npin_get (by decide +kernel), by decide +kernel, by decide +kernel⟩ rfl rfl (fun _ z => by cases z) fun cd A outer s H E hgd hr =>
    have hu := hu65 hr
    (sb_of (s_cons (s_asg (e_var 1) (g_tup rfl (gs_cons (g_name 2 sc_Walk_done.nd) (gs_cons (g_name 3 sc_Walk_done.nd) (gs_cons (g_name 4 sc_Walk_done.nd) gs_nil)))))
    (s_cons (s_if (PW.pt (w_or (t_in hu (e_var 2) (e_gc C.PAIRED)) (w_or1 (t_in hu (e_var 2) (e_tup (a_cons e_str (a_cons e_str a_nil))))))) (s_one (s_retS (es_b (eb_meth (Oi := Oi_Walk_reckon) G_Walk_reckon hgd hr (a_cons (e_var 2) a_nil))))) s_nil)
    (s_cons (s_if (t_in hu (e_var 2) (e_tup (a_cons e_str (a_cons e_str (a_cons e_str (a_cons e_str a_nil)))))) (s_one (s_retS (es_b (eb_meth (Oi := Oi_Walk_name_done) G_Walk_name_done hgd hr (a_cons (e_var 2) (a_cons (e_var 3) a_nil)))))) s_nil)
    (s_cons (s_if (t_in hu (e_var 2) (e_tup (a_cons e_str (a_cons e_str (a_cons e_str (a_cons e_str (a_cons e_str a_nil))))))) (s_one (s_retS (es_b (eb_meth (Oi := Oi_Walk_jump) G_Walk_jump hgd hr (a_cons (e_var 2) (a_cons (e_var 3) a_nil)))))) s_nil)
    (s_cons (s_if (t_eq hu (e_var 2) e_str) (s_one (s_attrF 13 C.at_Walk_last (e_tup (a_cons e_str (a_cons (e_mut0 9 PySem.F.plainAttrs_list PySem.F.slot_list_pop PySem.F.type_list_pop mt_pop ms_pop (e_brA 9 C.at_Walk_pile)) a_nil))))) (s_one (s_if (t_eq hu (e_var 2) e_str) (s_cons (s_setF 5 sc_Walk_done.nd (e_mut0 9 PySem.F.plainAttrs_list PySem.F.slot_list_pop PySem.F.type_list_pop mt_pop ms_pop (e_brA 9 C.at_Walk_pile)))
    (s_one (s_ret (e_if (t_val (e_isi B.isinstance B.str (by decide +kernel) (e_var 5))) (e_var 5) e_str)))) (s_one (s_exprS (es_b (eb_meth (Oi := Oi_Walk_move) G_Walk_move hgd hr (a_cons (e_var 2) (a_cons (e_var 3) a_nil)))))))))
    (s_one (s_ret e_non))))))))
abbrev s_Walk_step : Stmt := clsS (topS 52) 10
abbrev N_Walk_step : List Str := ["self", "row", "kind"]
theorem sc_Walk_step : FnScope N_Walk_step ["self"] (defScope s_Walk_step) := ⟨rfl, rfl, rfl, by decide +kernel, rfl, by decide +kernel, by decide +kernel⟩
abbrev Oi_Walk_step : List Kd := [.fz, .fz, .fz, .ow, .ow, .ow, .ow, .ow, .fz, .fz, .cell 0 "Walk" A_Walk]
abbrev O_Walk_step : List Kd := [.fz, .fz, .fz, .fz, .fz, .ow, .ow, .ow, .ow, .ow, .fz, .fz, .cell 0 "Walk" A_Walk]
def m_Walk_step : MS := (mSeq (mIte (mTr (m2 (.fz) (.fz) (mVar 10) (mTup (maCons (mC (.str "on")) maNil)) dNeU)) (mRet (mC (.bool false))) mSkip)
  (mSeq (mSet 1 (m2 (.fz) (.fz) (mVar 3) (mVar 11) dIxU))
  (mSeq (mDrop (mMut 9 "list" (maCons (mVar 11) maNil) dAppend))
  (mSeq (mAug 11 (mC (.int 1)) dAdd)
  (mSeq (mSet 2 (mCallM 3 2 f_Walk_done (maCons (mVar 1) maNil)))
  (mSeq (mIte (mTr (m2 (.fz) (.fz) (mVar 2) (mC .none) dNotN)) (mDrop (mCallM 3 3 f_Walk_fault (maCons (mVar 2) (maCons (m2 (.fz) (.fz) (mVar 1) (mC (.int 2)) dIxU) maNil)))) mSkip)
  (mSeq (mIte (mTr (m2 (.fz) (.fz) (mVar 10) (mTup (maCons (mC (.str "on")) maNil)) dEqU)) (mDrop (mCallM 3 1 f_Walk_pass_by maNil)) mSkip)
  (mRet (mC (.bool true))))))))))
def f_Walk_step : En → Option (D × En) := mMet 1 2 .fz m_Walk_step
theorem ok_Walk_step {P : Program} {w : World} {K : PySem.W.Frag} {mg : Str → Option Value} {base : Heap} {f : Addr} {fd : FuncData} (F : FunD K "step" "Walk.step" (defArgs s_Walk_step) (defBody s_Walk_step) (defScope s_Walk_step) [] [] f fd) (B : Bt mg) (C : Ct K w mg) (G_Walk_done : MtX P w K mg base "Walk" "done" 5 ["self", "row"] (spM false K Oi_Walk_done f_Walk_done .fz)) (G_Walk_fault : MtX P w K mg base "Walk" "fault" 1 ["self", "kind", "line"] (spM false K Oi_Walk_fault f_Walk_fault .fz)) (G_Walk_pass_by : MtX P w K mg base "Walk" "pass_by" 1 ["self"] (spM false K Oi_Walk_pass_by f_Walk_pass_by .fz)) :
    FnG P w K mg base CX0 6 f fd ["self"] (spM false K Oi_Walk_step f_Walk_step .fz) :=
  fn_meth (b := false) (Oi := Oi_Walk_step) (Ol := [.fz, .fz]) (Ob := O_Walk_step) (r := .fz) F sc_Walk_step ⟨rfl, rfl, rfl, rfl, rfl, rfl, rfl, rfl, npin_get (by decide +kernel), by decide +kernel, by decide +kernel⟩ rfl rfl (fun _ z => by cases z) fun cd A outer s H E hgd hr =>
    have hu := hu65 hr
    (sb_of (s_cons (s_if (t_ne hu (e_attr 10 C.at_Walk_last) (e_tup (a_cons e_str a_nil))) (s_one (s_ret e_bl)) s_nil)
    (s_cons (s_setF 1 sc_Walk_step.nd (e_ixU hu (e_attr 3 C.at_Walk_rows) (e_attr 11 C.at_Walk_at)))
    (s_cons (s_expr (e_mut 9 PySem.F.plainAttrs_list PySem.F.slot_list_append PySem.F.type_list_append mt_append ms_append (e_brA 9 C.at_Walk_trail) (a_cons (e_attr 11 C.at_Walk_at) a_nil)))
    (s_cons (s_attrAug 11 iop_add s_add C.at_Walk_at e_int)
    (s_cons (s_setFS 2 sc_Walk_step.nd (es_b (eb_meth (Oi := Oi_Walk_done) G_Walk_done hgd hr (a_cons (e_var 1) a_nil))))
    (s_cons (s_if (t_cmp op_notN1 s_notN (e_var 2) e_non) (s_one (s_exprS (es_b (eb_meth (Oi := Oi_Walk_fault) G_Walk_fault hgd hr (a_cons (e_var 2) (a_cons (e_ixU hu (e_var 1) e_int) a_nil)))))) s_nil)
    (s_cons (s_if (t_eq hu (e_attr 10 C.at_Walk_last) (e_tup (a_cons e_str a_nil))) (s_one (s_exprS (es_b (eb_meth0 (Oi := Oi_Walk_pass_by) G_Walk_pass_by hgd hr)))) s_nil)
    (s_one (s_ret e_bl))))))))))
abbrev s_run : Stmt := topS 53
abbrev N_run : List Str := ["code", "names", "steps", "walk"]
theorem sc_run : FnScope N_run ["code", "names", "steps"] (defScope s_run) := ⟨rfl, rfl, rfl, by decide +kernel, rfl, by decide +kernel, by decide +kernel⟩
abbrev O_run : List Kd := [.fz, .fz, .fz, .fz]
def m_run : MS := (mMake 3 4 3 10 f_Walk___init__ (maCons (mVar 0) (maCons (mVar 1) maNil))
  (mSeq (mDrop (mCall f_look_steps [.fz] [] (maCons (mVar 2) maNil)))
  (mSeq (mWhile (mAnd (mTr (m2 (.fz) (.fz) (mLenO 4 1 f_Walk___len__) (mVar 2) dLt)) (mTr (mCallM 4 1 f_Walk_step maNil))) mSkip)
  (mRet (mTup (maCons (mCallM 4 1 f_Walk_end maNil) (maCons (mCallM 4 1 f_Walk_told maNil) (maCons (mLenO 4 1 f_Walk___len__) maNil))))))))
def f_run : En → Option (D × En) := mFun [.fz, .fz, .fz] 1 .fz m_run
theorem ok_run {P : Program} {w : World} {K : PySem.W.Frag} {mg : Str → Option Value} {base : Heap} {f : Addr} {fd : FuncData} (F : FunD K "run" "run" (defArgs s_run) (defBody s_run) (defScope s_run) [] [] f fd) (B : Bt mg) (C : Ct K w mg) (G_Walk___init__ : MkX P w K mg base "Walk" 8 ["self", "code", "names"] (spM false K Oi_Walk___init__ f_Walk___init__ .fz)) (G_Walk___len__ : MtX P w K mg base "Walk" "__len__" 1 ["self"] (spM true K Oi_Walk___len__ f_Walk___len__ .fz)) (G_Walk_end : MtX P w K mg base "Walk" "end" 1 ["self"] (spM true K Oi_Walk_end f_Walk_end .fz)) (G_Walk_step : MtX P w K mg base "Walk" "step" 6 ["self"] (spM false K Oi_Walk_step f_Walk_step .fz)) (G_Walk_told : MtX P w K mg base "Walk" "told" 1 ["self"] (spM true K Oi_Walk_told f_Walk_told .ow)) (G_look_steps : FnX P w K mg base "look_steps" 2 ["steps"] (spF K [.fz] f_look_steps .fz)) :
    FnG P w K mg base CX0 10 f fd ["code", "names", "steps"] (spF K [.fz, .fz, .fz] f_run .fz) :=
  fn_data (Oi := [.fz, .fz, .fz]) (Ol := [.fz]) (r := .fz) F sc_run rfl rfl rfl (fun _ z => by cases z) fun cd A outer s H E hgd hr =>
    have hu := hu65 hr
    (ss_make (Oi := Oi_Walk___init__) (O' := (O_run ++ [.fz, .fz, .ow, .ow, .ow, .ow, .ow, .fz, .fz, .cell 3 "Walk" A_Walk])) 3 sc_run.nd G_Walk___init__ hgd hr (a_cons (e_var 0) (a_cons (e_var 1) a_nil))
    (s_cons (s_expr (e_callX G_look_steps hgd hr (a_cons (e_var 2) a_nil)))
    (s_cons (s_whileS PassesOwn.never (PW.pt (ws_and (ts_of (t_cmp op_lt s_lt (e_b (eb_lenO (Oi := Oi_Walk___len__) B.len G_Walk___len__ hgd hr)) (e_var 2))) (ws_and1 (ts_val (es_b (eb_meth0 (Oi := Oi_Walk_step) G_Walk_step hgd hr)))))) (s_one s_pass))
    (s_one (s_ret (e_tup (a_cons (e_b (eb_meth0 (Oi := Oi_Walk_end) G_Walk_end hgd hr)) (a_cons (e_frz (e_b (eb_meth0 (Oi := Oi_Walk_told) G_Walk_told hgd hr))) (a_cons (e_b (eb_lenO (Oi := Oi_Walk___len__) B.len G_Walk___len__ hgd hr)) a_nil)))))))))
abbrev s__law_town : Stmt := topS 55
abbrev N__law_town : List Str := ["_law_script"]
theorem sc__law_town : FnScope N__law_town ["_law_script"] (defScope s__law_town) := ⟨rfl, rfl, rfl, by decide +kernel, rfl, by decide +kernel, by decide +kernel⟩
abbrev O__law_town : List Kd := [.fz]
def m__law_town : MS := (mRet (m2 (.ow) (.ow) (mLst (maCons (mC (.int 0)) maNil)) (mOp [.fz] (maCons (mVar 0) maNil) dList) dCat))
def f__law_town : En → Option (D × En) := mFun [.fz] 0 .ow m__law_town
theorem ok__law_town {P : Program} {w : World} {K : PySem.W.Frag} {mg : Str → Option Value} {base : Heap} {f : Addr} {fd : FuncData} (F : FunD K "_law_town" "_law_town" (defArgs s__law_town) (defBody s__law_town) (defScope s__law_town) [] [] f fd) (B : Bt mg) (C : Ct K w mg) :
    FnG P w K mg base CX0 1 f fd ["_law_script"] (spF K [.fz] f__law_town .ow) :=
  fn_data (Oi := [.fz]) (Ol := []) (r := .ow) F sc__law_town rfl rfl rfl (fun _ z => by cases z) fun cd A outer s H E hgd hr =>
    have hu := hu65 hr
    (s_one (s_ret (e_op op_catS s_cat (e_lst (a_cons e_int a_nil)) (e_list B (a_cons (e_var 0) a_nil)))))
abbrev s__law_draw : Stmt := topS 56
abbrev N__law_draw : List Str := ["_law_script", "_law_town_here", "_law_many", "_law_at", "_law_left", "_law_number"]
theorem sc__law_draw : FnScope N__law_draw ["_law_script", "_law_town_here", "_law_many"] (defScope s__law_draw) := ⟨rfl, rfl, rfl, by decide +kernel, rfl, by decide +kernel, by decide +kernel⟩
abbrev O__law_draw : List Kd := [.fz, .io, .fz, .fz, .fz, .fz]
def m__law_draw : MS := (mSeq (mPutU 1 (mC (.int 0)) (m2 (.fz) (.fz) (m2 (.br 1) (.fz) (mBr 1) (mC (.int 0)) dIxU) (mC (.int 1)) dAddU))
  (mSeq (mIte (mTr (m2 (.fz) (.ow) (mVar 0) (mLst maNil) dEqU)) (mRet (m2 (.fz) (.fz) (m2 (.fz) (.fz) (m2 (.fz) (.fz) (m2 (.fz) (.fz) (m2 (.br 1) (.fz) (mBr 1) (mC (.int 0)) dIxU) (m2 (.br 1) (.fz) (mBr 1) (mC (.int 0)) dIxU) dMul) (mC (.int 7)) dMul) (mC (.int 3)) dDivX) (mVar 2) dMod)) mSkip)
  (mSeq (mSet 3 (m2 (.fz) (.fz) (m2 (.br 1) (.fz) (mBr 1) (mC (.int 0)) dIxU) (mOp [.fz] (maCons (mVar 0) maNil) dLenU) dMod))
  (mSeq (mSet 4 (m2 (.br 1) (.fz) (mBr 1) (m2 (.fz) (.fz) (mC (.int 1)) (mVar 3) dAddU) dIxU))
  (mSeq (mIte (mAnd (mTr (m2 (.fz) (.fz) (m2 (.fz) (.fz) (mVar 0) (mVar 3) dIxU) (m2 (.fz) (.fz) (mC (.int 10)) (mC (.int 18)) dPow) dGe)) (mTr (m2 (.fz) (.fz) (mVar 4) (mC (.int 0)) dGt))) (mSeq (mPutU 1 (m2 (.fz) (.fz) (mC (.int 1)) (mVar 3) dAddU) (m2 (.fz) (.fz) (mVar 4) (mVar 2) dDivX))
  (mRet (m2 (.fz) (.fz) (mVar 4) (mVar 2) dMod))) mSkip)
  (mSeq (mSet 5 (m2 (.fz) (.fz) (m2 (.fz) (.fz) (m2 (.fz) (.fz) (mVar 0) (mVar 3) dIxU) (m2 (.fz) (.fz) (mC (.int 104729)) (m2 (.br 1) (.fz) (mBr 1) (mC (.int 0)) dIxU) dMul) dAddU) (mC (.int 4294967291)) dMod))
  (mSeq (mSet 5 (m2 (.fz) (.fz) (m2 (.fz) (.fz) (mVar 5) (mC (.int 5)) dPow) (mC (.int 4294967279)) dMod))
  (mRet (m2 (.fz) (.fz) (m2 (.fz) (.fz) (m2 (.fz) (.fz) (m2 (.fz) (.fz) (m2 (.fz) (.fz) (m2 (.fz) (.fz) (mVar 5) (mC (.int 64)) dDivX) (mC (.int 69621)) dMul) (mVar 5) dAddU) (mC (.int 4294967231)) dMod) (mC (.int 8)) dDivX) (mVar 2) dMod)))))))))
def f__law_draw : En → Option (D × En) := mFun [.fz, .io, .fz] 3 .fz m__law_draw
theorem ok__law_draw {P : Program} {w : World} {K : PySem.W.Frag} {mg : Str → Option Value} {base : Heap} {f : Addr} {fd : FuncData} (F : FunD K "_law_draw" "_law_draw" (defArgs s__law_draw) (defBody s__law_draw) (defScope s__law_draw) [] [] f fd) (B : Bt mg) (C : Ct K w mg) :
    FnG P w K mg base CX0 1 f fd ["_law_script", "_law_town_here", "_law_many"] (spF K [.fz, .io, .fz] f__law_draw .fz) :=
  fn_data (Oi := [.fz, .io, .fz]) (Ol := [.fz, .fz, .fz]) (r := .fz) F sc__law_draw rfl rfl rfl (fun _ z => by cases z) fun cd A outer s H E hgd hr =>
    have hu := hu65 hr
    (s_cons (s_putU 1 hu rfl (e_br 1) e_int (e_add (e_ixU hu (e_br 1) e_int) e_int))
    (s_cons (s_if (t_eq hu (e_var 0) (e_lst a_nil)) (s_one (s_ret (e_op op_modN s_mod (e_op op_fdivX s_divX (e_op op_mulW s_mul (e_op op_mulW s_mul (e_ixU hu (e_br 1) e_int) (e_ixU hu (e_br 1) e_int)) e_int) e_int) (e_var 2)))) s_nil)
    (s_cons (s_setF 3 sc__law_draw.nd (e_op op_modN s_mod (e_ixU hu (e_br 1) e_int) (e_lenU B (a_cons (e_var 0) a_nil))))
    (s_cons (s_setF 4 sc__law_draw.nd (e_ixU hu (e_br 1) (e_add e_int (e_var 3))))
    (s_cons (s_if (PW.pt (w_and (t_cmp op_ge s_ge (e_ixU hu (e_var 0) (e_var 3)) (e_op op_pow s_pow e_int e_int)) (w_and1 (t_cmp op_gt s_gt (e_var 4) e_int)))) (s_cons (s_putU 1 hu rfl (e_br 1) (e_add e_int (e_var 3)) (e_op op_fdivX s_divX (e_var 4) (e_var 2)))
    (s_one (s_ret (e_op op_modN s_mod (e_var 4) (e_var 2))))) s_nil)
    (s_cons (s_setF 5 sc__law_draw.nd (e_op op_modN s_mod (e_add (e_ixU hu (e_var 0) (e_var 3)) (e_op op_mulW s_mul e_int (e_ixU hu (e_br 1) e_int))) e_int))
    (s_cons (s_setF 5 sc__law_draw.nd (e_op op_modN s_mod (e_op op_pow s_pow (e_var 5) e_int) e_int))
    (s_one (s_ret (e_op op_modN s_mod (e_op op_fdivX s_divX (e_op op_modN s_mod (e_add (e_op op_mulW s_mul (e_op op_fdivX s_divX (e_var 5) e_int) e_int) (e_var 5)) e_int) e_int) (e_var 2)))))))))))
abbrev s__law_pick : Stmt := topS 57
abbrev N__law_pick : List Str := ["_law_script", "_law_town_here", "_law_some"]
theorem sc__law_pick : FnScope N__law_pick ["_law_script", "_law_town_here", "_law_some"] (defScope s__law_pick) := ⟨rfl, rfl, rfl, by decide +kernel, rfl, by decide +kernel, by decide +kernel⟩
abbrev O__law_pick : List Kd := [.fz, .io, .fz]
def m__law_pick : MS := (mRet (m2 (.fz) (.fz) (mVar 2) (mCall f__law_draw [.fz, .br 1, .fz] [] (maCons (mVar 0) (maCons (mBr 1) (maCons (mOp [.fz] (maCons (mVar 2) maNil) dLenU) maNil)))) dIxU))
def f__law_pick : En → Option (D × En) := mFun [.fz, .io, .fz] 0 .fz m__law_pick
theorem ok__law_pick {P : Program} {w : World} {K : PySem.W.Frag} {mg : Str → Option Value} {base : Heap} {f : Addr} {fd : FuncData} (F : FunD K "_law_pick" "_law_pick" (defArgs s__law_pick) (defBody s__law_pick) (defScope s__law_pick) [] [] f fd) (B : Bt mg) (C : Ct K w mg) (G__law_draw : FnX P w K mg base "_law_draw" 1 ["_law_script", "_law_town_here", "_law_many"] (spF K [.fz, .io, .fz] f__law_draw .fz)) :
    FnG P w K mg base CX0 2 f fd ["_law_script", "_law_town_here", "_law_some"] (spF K [.fz, .io, .fz] f__law_pick .fz) :=
  fn_data (Oi := [.fz, .io, .fz]) (Ol := []) (r := .fz) F sc__law_pick rfl rfl rfl (fun _ z => by cases z) fun cd A outer s H E hgd hr =>
    have hu := hu65 hr
    (s_one (s_ret (e_ixU hu (e_var 2) (e_callX G__law_draw hgd hr (a_cons (e_var 0) (a_cons (e_br 1) (a_cons (e_lenU B (a_cons (e_var 2) a_nil)) a_nil)))))))
abbrev s__law_whole : Stmt := topS 58
abbrev N__law_whole : List Str := ["_law_thing"]
theorem sc__law_whole : FnScope N__law_whole ["_law_thing"] (defScope s__law_whole) := ⟨rfl, rfl, rfl, by decide +kernel, rfl, by decide +kernel, by decide +kernel⟩
abbrev O__law_whole : List Kd := [.fz]
def m__law_whole : MS := (mRet (mAndV (m1 (.fz) (mVar 0) (dIs "int")) (mNotV (m1 (.fz) (mVar 0) (dIs "bool")))))
def f__law_whole : En → Option (D × En) := mFun [.fz] 0 .fz m__law_whole
theorem ok__law_whole {P : Program} {w : World} {K : PySem.W.Frag} {mg : Str → Option Value} {base : Heap} {f : Addr} {fd : FuncData} (F : FunD K "_law_whole" "_law_whole" (defArgs s__law_whole) (defBody s__law_whole) (defScope s__law_whole) [] [] f fd) (B : Bt mg) (C : Ct K w mg) :
    FnG P w K mg base CX0 1 f fd ["_law_thing"] (spF K [.fz] f__law_whole .fz) :=
  fn_data (Oi := [.fz]) (Ol := []) (r := .fz) F sc__law_whole rfl rfl rfl (fun _ z => by cases z) fun cd A outer s H E hgd hr =>
    have hu := hu65 hr
    (s_one (s_ret (e_and (e_isi B.isinstance B.int (by decide +kernel) (e_var 0)) (e_one (e_not (e_isi B.isinstance B.bool (by decide +kernel) (e_var 0)))))))
abbrev s__law_true : Stmt := topS 59
abbrev N__law_true : List Str := ["_law_value"]
theorem sc__law_true : FnScope N__law_true ["_law_value"] (defScope s__law_true) := ⟨rfl, rfl, rfl, by decide +kernel, rfl, by decide +kernel, by decide +kernel⟩
abbrev O__law_true : List Kd := [.fz]
def m__law_true : MS := (mRet (mNotV (mOrV (m2 (.fz) (.fz) (mVar 0) (mC .none) dIsN) (mOrV (m2 (.fz) (.fz) (mVar 0) (mC (.bool false)) dIsB) (mAndV (mCall f__law_whole [.fz] [] (maCons (mVar 0) maNil)) (m2 (.fz) (.fz) (mVar 0) (mC (.int 0)) dEqU))))))
def f__law_true : En → Option (D × En) := mFun [.fz] 0 .fz m__law_true
theorem ok__law_true {P : Program} {w : World} {K : PySem.W.Frag} {mg : Str → Option Value} {base : Heap} {f : Addr} {fd : FuncData} (F : FunD K "_law_true" "_law_true" (defArgs s__law_true) (defBody s__law_true) (defScope s__law_true) [] [] f fd) (B : Bt mg) (C : Ct K w mg) (G__law_whole : FnX P w K mg base "_law_whole" 1 ["_law_thing"] (spF K [.fz] f__law_whole .fz)) :
    FnG P w K mg base CX0 2 f fd ["_law_value"] (spF K [.fz] f__law_true .fz) :=
  fn_data (Oi := [.fz]) (Ol := []) (r := .fz) F sc__law_true rfl rfl rfl (fun _ z => by cases z) fun cd A outer s H E hgd hr =>
    have hu := hu65 hr
    (s_one (s_ret (e_not (e_or (e_cmp op_isN1 s_isN (e_var 0) e_non) (e_or (e_cmp op_isB s_isB (e_var 0) e_bl) (e_one (e_and (e_callX G__law_whole hgd hr (a_cons (e_var 0) a_nil)) (e_one (e_eq hu (e_var 0) e_int)))))))))
abbrev s__law_pair : Stmt := topS 60
abbrev N__law_pair : List Str := ["_law_op", "_law_one", "_law_other", "_law_found"]
theorem sc__law_pair : FnScope N__law_pair ["_law_op", "_law_one", "_law_other"] (defScope s__law_pair) := ⟨rfl, rfl, rfl, by decide +kernel, rfl, by decide +kernel, by decide +kernel⟩
abbrev O__law_pair : List Kd := [.fz, .fz, .fz, .fz]
def m__law_pair : MS := (mSeq (mIte (mTr (m2 (.fz) (.fz) (mVar 0) (mC (.str "same")) dEqU)) (mRet (mTup (maCons (mC (.str "value")) (maCons (mAndV (m2 (.fz) (.fz) (m1 (.fz) (mVar 1) (dIs "bool")) (m1 (.fz) (mVar 2) (dIs "bool")) dEqU) (m2 (.fz) (.fz) (mVar 1) (mVar 2) dEqU)) maNil)))) mSkip)
  (mSeq (mIte (mOr (mNot (mTr (mCall f__law_whole [.fz] [] (maCons (mVar 1) maNil)))) (mNot (mTr (mCall f__law_whole [.fz] [] (maCons (mVar 2) maNil))))) (mRet (mTup (maCons (mC (.str "kind")) (maCons (mC (.str "Type")) maNil)))) mSkip)
  (mSeq (mIte (mTr (m2 (.fz) (.fz) (mVar 0) (mC (.str "less")) dEqU)) (mRet (mTup (maCons (mC (.str "value")) (maCons (m2 (.fz) (.fz) (mVar 1) (mVar 2) dLt) maNil)))) mSkip)
  (mSeq (mIte (mAnd (mTr (m2 (.fz) (.fz) (mVar 0) (mTup (maCons (mC (.str "div")) (maCons (mC (.str "rest")) maNil))) dInU)) (mTr (m2 (.fz) (.fz) (mVar 2) (mC (.int 0)) dEqU))) (mRet (mTup (maCons (mC (.str "kind")) (maCons (mC (.str "Zero")) maNil)))) mSkip)
  (mSeq (mIte (mTr (m2 (.fz) (.fz) (mVar 0) (mC (.str "div")) dEqU)) (mRet (mTup (maCons (mC (.str "value")) (maCons (m2 (.fz) (.fz) (mVar 1) (mVar 2) dDivX) maNil)))) mSkip)
  (mSeq (mIte (mTr (m2 (.fz) (.fz) (mVar 0) (mC (.str "rest")) dEqU)) (mRet (mTup (maCons (mC (.str "value")) (maCons (m2 (.fz) (.fz) (mVar 1) (mVar 2) dMod) maNil)))) mSkip)
  (mSeq (mSet 3 (mIf (mTr (m2 (.fz) (.fz) (mVar 0) (mC (.str "add")) dEqU)) (m2 (.fz) (.fz) (mVar 1) (mVar 2) dAddU) (mIf (mTr (m2 (.fz) (.fz) (mVar 0) (mC (.str "sub")) dEqU)) (m2 (.fz) (.fz) (mVar 1) (mVar 2) dSub) (m2 (.fz) (.fz) (mVar 1) (mVar 2) dMul))))
  (mRet (mIf (mTr (m2 (.fz) (.fz) (mOp [.fz] (maCons (mVar 3) maNil) dAbs) (m2 (.fz) (.fz) (mC (.int 10)) (mC (.int 18)) dPow) dLe)) (mTup (maCons (mC (.str "value")) (maCons (mVar 3) maNil))) (mTup (maCons (mC (.str "kind")) (maCons (mC (.str "Big")) maNil))))))))))))
def f__law_pair : En → Option (D × En) := mFun [.fz, .fz, .fz] 1 .fz m__law_pair
theorem ok__law_pair {P : Program} {w : World} {K : PySem.W.Frag} {mg : Str → Option Value} {base : Heap} {f : Addr} {fd : FuncData} (F : FunD K "_law_pair" "_law_pair" (defArgs s__law_pair) (defBody s__law_pair) (defScope s__law_pair) [] [] f fd) (B : Bt mg) (C : Ct K w mg) (G__law_whole : FnX P w K mg base "_law_whole" 1 ["_law_thing"] (spF K [.fz] f__law_whole .fz)) :
    FnG P w K mg base CX0 2 f fd ["_law_op", "_law_one", "_law_other"] (spF K [.fz, .fz, .fz] f__law_pair .fz) :=
  fn_data (Oi := [.fz, .fz, .fz]) (Ol := [.fz]) (r := .fz) F sc__law_pair rfl rfl rfl (fun _ z => by cases z) fun cd A outer s H E hgd hr =>
    have hu := hu65 hr
    (s_cons (s_if (t_eq hu (e_var 0) e_str) (s_one (s_ret (e_tup (a_cons e_str (a_cons (e_and (e_eq hu (e_isi B.isinstance B.bool (by decide +kernel) (e_var 1)) (e_isi B.isinstance B.bool (by decide +kernel) (e_var 2))) (e_one (e_eq hu (e_var 1) (e_var 2)))) a_nil))))) s_nil)
    (s_cons (s_if (PW.pt (w_or (t_not (t_val (e_callX G__law_whole hgd hr (a_cons (e_var 1) a_nil)))) (w_or1 (t_not (t_val (e_callX G__law_whole hgd hr (a_cons (e_var 2) a_nil))))))) (s_one (s_ret (e_tup (a_cons e_str (a_cons e_str a_nil))))) s_nil)
    (s_cons (s_if (t_eq hu (e_var 0) e_str) (s_one (s_ret (e_tup (a_cons e_str (a_cons (e_cmp op_lt s_lt (e_var 1) (e_var 2)) a_nil))))) s_nil)
    (s_cons (s_if (PW.pt (w_and (t_in hu (e_var 0) (e_tup (a_cons e_str (a_cons e_str a_nil)))) (w_and1 (t_eq hu (e_var 2) e_int)))) (s_one (s_ret (e_tup (a_cons e_str (a_cons e_str a_nil))))) s_nil)
    (s_cons (s_if (t_eq hu (e_var 0) e_str) (s_one (s_ret (e_tup (a_cons e_str (a_cons (e_op op_fdivX s_divX (e_var 1) (e_var 2)) a_nil))))) s_nil)
    (s_cons (s_if (t_eq hu (e_var 0) e_str) (s_one (s_ret (e_tup (a_cons e_str (a_cons (e_op op_modN s_mod (e_var 1) (e_var 2)) a_nil))))) s_nil)
    (s_cons (s_setF 3 sc__law_pair.nd (e_if (t_eq hu (e_var 0) e_str) (e_add (e_var 1) (e_var 2)) (e_if (t_eq hu (e_var 0) e_str) (e_op op_sub s_sub (e_var 1) (e_var 2)) (e_op op_mulW s_mul (e_var 1) (e_var 2)))))
    (s_one (s_ret (e_if (t_cmp op_le s_le (e_abs B (a_cons (e_var 3) a_nil)) (e_op op_pow s_pow e_int e_int)) (e_tup (a_cons e_str (a_cons (e_var 3) a_nil))) (e_tup (a_cons e_str (a_cons e_str a_nil)))))))))))))
abbrev s__law_made : Stmt := topS 61
abbrev N__law_made : List Str := ["_law_op", "_law_stack", "_law_other", "_law_told"]
theorem sc__law_made : FnScope N__law_made ["_law_op", "_law_stack"] (defScope s__law_made) := ⟨rfl, rfl, rfl, by decide +kernel, rfl, by decide +kernel, by decide +kernel⟩
abbrev O__law_made : List Kd := [.fz, .io, .fz, .fz]
def m__law_made : MS := (mSeq (mIte (mTr (m2 (.fz) (.fz) (mVar 0) (mC (.str "not")) dEqU)) (mSeq (mDrop (mMut 1 "list" (maCons (mNotV (mCall f__law_true [.fz] [] (maCons (mMut 1 "list" maNil dPop) maNil))) maNil) dAppend))
  (mRet (mC .none))) mSkip)
  (mSeq (mSet 2 (mMut 1 "list" maNil dPop))
  (mSeq (mIte (mTr (m2 (.fz) (.fz) (mVar 0) (mC (.str "neg")) dEqU)) (mSet 3 (mIf (mTr (mCall f__law_whole [.fz] [] (maCons (mVar 2) maNil))) (mTup (maCons (mC (.str "value")) (maCons (m2 (.fz) (.fz) (mC (.int 0)) (mVar 2) dSub) maNil))) (mTup (maCons (mC (.str "kind")) (maCons (mC (.str "Type")) maNil))))) (mSet 3 (mCall f__law_pair [.fz, .fz, .fz] [] (maCons (mVar 0) (maCons (mMut 1 "list" maNil dPop) (maCons (mVar 2) maNil))))))
  (mSeq (mIte (mTr (m2 (.fz) (.fz) (m2 (.fz) (.fz) (mVar 3) (mC (.int 0)) dIxU) (mC (.str "kind")) dEqU)) (mRet (m2 (.fz) (.fz) (mVar 3) (mC (.int 1)) dIxU)) mSkip)
  (mSeq (mDrop (mMut 1 "list" (maCons (m2 (.fz) (.fz) (mVar 3) (mC (.int 1)) dIxU) maNil) dAppend))
  (mRet (mC .none)))))))
def f__law_made : En → Option (D × En) := mFun [.fz, .io] 2 .fz m__law_made
theorem ok__law_made {P : Program} {w : World} {K : PySem.W.Frag} {mg : Str → Option Value} {base : Heap} {f : Addr} {fd : FuncData} (F : FunD K "_law_made" "_law_made" (defArgs s__law_made) (defBody s__law_made) (defScope s__law_made) [] [] f fd) (B : Bt mg) (C : Ct K w mg) (G__law_pair : FnX P w K mg base "_law_pair" 2 ["_law_op", "_law_one", "_law_other"] (spF K [.fz, .fz, .fz] f__law_pair .fz)) (G__law_true : FnX P w K mg base "_law_true" 2 ["_law_value"] (spF K [.fz] f__law_true .fz)) (G__law_whole : FnX P w K mg base "_law_whole" 1 ["_law_thing"] (spF K [.fz] f__law_whole .fz)) :
    FnG P w K mg base CX0 3 f fd ["_law_op", "_law_stack"] (spF K [.fz, .io] f__law_made .fz) :=
  fn_data (Oi := [.fz, .io]) (Ol := [.fz, .fz]) (r := .fz) F sc__law_made rfl rfl rfl (fun _ z => by cases z) fun cd A outer s H E hgd hr =>
    have hu := hu65 hr
    (s_cons (s_if (t_eq hu (e_var 0) e_str) (s_cons (s_expr (e_mut 1 PySem.F.plainAttrs_list PySem.F.slot_list_append PySem.F.type_list_append mt_append ms_append (e_br 1) (a_cons (e_not (e_callX G__law_true hgd hr (a_cons (e_mut0 1 PySem.F.plainAttrs_list PySem.F.slot_list_pop PySem.F.type_list_pop mt_pop ms_pop (e_br 1)) a_nil))) a_nil)))
    (s_one (s_ret e_non))) s_nil)
    (s_cons (s_setF 2 sc__law_made.nd (e_mut0 1 PySem.F.plainAttrs_list PySem.F.slot_list_pop PySem.F.type_list_pop mt_pop ms_pop (e_br 1)))
    (s_cons (s_if (t_eq hu (e_var 0) e_str) (s_one (s_setF 3 sc__law_made.nd (e_if (t_val (e_callX G__law_whole hgd hr (a_cons (e_var 2) a_nil))) (e_tup (a_cons e_str (a_cons (e_op op_sub s_sub e_int (e_var 2)) a_nil))) (e_tup (a_cons e_str (a_cons e_str a_nil)))))) (s_one (s_setF 3 sc__law_made.nd (e_callX G__law_pair hgd hr (a_cons (e_var 0) (a_cons (e_mut0 1 PySem.F.plainAttrs_list PySem.F.slot_list_pop PySem.F.type_list_pop mt_pop ms_pop (e_br 1)) (a_cons (e_var 2) a_nil)))))))
    (s_cons (s_if (t_eq hu (e_ixU hu (e_var 3) e_int) e_str) (s_one (s_ret (e_ixU hu (e_var 3) e_int))) s_nil)
    (s_cons (s_expr (e_mut 1 PySem.F.plainAttrs_list PySem.F.slot_list_append PySem.F.type_list_append mt_append ms_append (e_br 1) (a_cons (e_ixU hu (e_var 3) e_int) a_nil)))
    (s_one (s_ret e_non)))))))
abbrev s__law_shown : Stmt := topS 62
abbrev N__law_shown : List Str := ["_law_thing"]
theorem sc__law_shown : FnScope N__law_shown ["_law_thing"] (defScope s__law_shown) := ⟨rfl, rfl, rfl, by decide +kernel, rfl, by decide +kernel, by decide +kernel⟩
abbrev O__law_shown : List Kd := [.fz]
def m__law_shown : MS := (mRet (m1 (.fz) (mVar 0) dShow))
def f__law_shown : En → Option (D × En) := mFun [.fz] 0 .fz m__law_shown
theorem ok__law_shown {P : Program} {w : World} {K : PySem.W.Frag} {mg : Str → Option Value} {base : Heap} {f : Addr} {fd : FuncData} (F : FunD K "_law_shown" "_law_shown" (defArgs s__law_shown) (defBody s__law_shown) (defScope s__law_shown) [] [] f fd) (B : Bt mg) (C : Ct K w mg) :
    FnG P w K mg base CX0 1 f fd ["_law_thing"] (spF K [.fz] f__law_shown .fz) :=
  fn_data (Oi := [.fz]) (Ol := []) (r := .fz) F sc__law_shown rfl rfl rfl (fun _ z => by cases z) fun cd A outer s H E hgd hr =>
    have hu := hu65 hr
    (s_one (s_ret (e_show hgd hu (e_var 0))))
abbrev s__law_any : Stmt := topS 63
abbrev N__law_any : List Str := ["_law_script", "_law_town_here", "_law_top", "_law_some"]
theorem sc__law_any : FnScope N__law_any ["_law_script", "_law_town_here"] (defScope s__law_any) := ⟨rfl, rfl, rfl, by decide +kernel, rfl, by decide +kernel, by decide +kernel⟩
abbrev O__law_any : List Kd := [.fz, .io, .fz, .fz]
def m__law_any : MS := (mSeq (mSet 2 (m2 (.fz) (.fz) (mC (.int 10)) (mC (.int 18)) dPow))
  (mSeq (mSet 3 (mLst (maCons (mC (.int 0)) (maCons (mC (.int 1)) (maCons (m1 (.fz) (mC (.int 1)) dNeg) (maCons (mC (.int 2)) (maCons (m1 (.fz) (mC (.int 2)) dNeg) (maCons (mC (.int 7)) (maCons (m1 (.fz) (mC (.int 7)) dNeg) (maCons (mVar 2) (maCons (m1 (.fz) (mVar 2) dNeg) (maCons (m2 (.fz) (.fz) (mC (.int 10)) (mC (.int 9)) dPow) (maCons (mC (.int 999999999999999999)) (maCons (mC (.bool true)) (maCons (mC (.bool false)) (maCons (mC .none) (maCons (mC (.str "Oops")) maNil)))))))))))))))))
  (mRet (mCall f__law_pick [.fz, .br 1, .fz] [] (maCons (mVar 0) (maCons (mBr 1) (maCons (m2 (.fz) (.ow) (mVar 3) (mRep (mLst (maCons (m2 (.fz) (.fz) (mCall f__law_draw [.fz, .br 1, .fz] [] (maCons (mVar 0) (maCons (mBr 1) (maCons (mC (.int 200)) maNil)))) (mC (.int 100)) dSub) maNil)) (mC (.int 6))) dAddU) maNil)))))))
def f__law_any : En → Option (D × En) := mFun [.fz, .io] 2 .fz m__law_any
theorem ok__law_any {P : Program} {w : World} {K : PySem.W.Frag} {mg : Str → Option Value} {base : Heap} {f : Addr} {fd : FuncData} (F : FunD K "_law_any" "_law_any" (defArgs s__law_any) (defBody s__law_any) (defScope s__law_any) [] [] f fd) (B : Bt mg) (C : Ct K w mg) (G__law_draw : FnX P w K mg base "_law_draw" 1 ["_law_script", "_law_town_here", "_law_many"] (spF K [.fz, .io, .fz] f__law_draw .fz)) (G__law_pick : FnX P w K mg base "_law_pick" 2 ["_law_script", "_law_town_here", "_law_some"] (spF K [.fz, .io, .fz] f__law_pick .fz)) :
    FnG P w K mg base CX0 3 f fd ["_law_script", "_law_town_here"] (spF K [.fz, .io] f__law_any .fz) :=
  fn_data (Oi := [.fz, .io]) (Ol := [.fz, .fz]) (r := .fz) F sc__law_any rfl rfl rfl (fun _ z => by cases z) fun cd A outer s H E hgd hr =>
    have hu := hu65 hr
    (s_cons (s_setF 2 sc__law_any.nd (e_op op_pow s_pow e_int e_int))
    (s_cons (s_setF 3 sc__law_any.nd (e_frz (e_lst (a_cons e_int (a_cons e_int (a_cons (e_un un_neg s_neg e_int) (a_cons e_int (a_cons (e_un un_neg s_neg e_int) (a_cons e_int (a_cons (e_un un_neg s_neg e_int) (a_cons (e_var 2) (a_cons (e_un un_neg s_neg (e_var 2)) (a_cons (e_op op_pow s_pow e_int e_int) (a_cons e_int (a_cons e_bl (a_cons e_bl (a_cons e_non (a_cons e_str a_nil))))))))))))))))))
    (s_one (s_ret (e_callX G__law_pick hgd hr (a_cons (e_var 0) (a_cons (e_br 1) (a_cons (e_add (e_var 3) (e_rep (e_lst (a_cons (e_op op_sub s_sub (e_callX G__law_draw hgd hr (a_cons (e_var 0) (a_cons (e_br 1) (a_cons e_int a_nil)))) e_int) a_nil)) e_int)) a_nil))))))))
abbrev s_law : Stmt := topS 64
abbrev N_law : List Str := ["_law_script", "_law_town_here", "_law_one", "_law_other", "_law_op", "_law_rows", "_law_stack", "_law_kind", "_law_names", "_law_end", "_law_told", "_law_guarded", "_law_due"]
theorem sc_law : FnScope N_law ["_law_script"] (defScope s_law) := ⟨rfl, rfl, rfl, by decide +kernel, rfl, by decide +kernel, by decide +kernel⟩
abbrev O_law : List Kd := [.fz, .ow, .fz, .fz, .fz, .fz, .ow, .fz, .fz, .fz, .fz, .fz, .fz]
def m_law : MS := (mSeq (mSet 1 (mCall f__law_town [.fz] [] (maCons (mVar 0) maNil)))
  (mSeq (mPar 2 3 (maCons (mCall f__law_any [.fz, .br 1] [] (maCons (mVar 0) (maCons (mBr 1) maNil))) (maCons (mCall f__law_any [.fz, .br 1] [] (maCons (mVar 0) (maCons (mBr 1) maNil))) maNil)))
  (mSeq (mSet 4 (mCall f__law_pick [.fz, .br 1, .fz] [] (maCons (mVar 0) (maCons (mBr 1) (maCons (mLst (maCons (mC (.str "add")) (maCons (mC (.str "sub")) (maCons (mC (.str "mul")) (maCons (mC (.str "div")) (maCons (mC (.str "rest")) (maCons (mC (.str "less")) (maCons (mC (.str "same")) (maCons (mC (.str "neg")) (maCons (mC (.str "not")) maNil)))))))))) maNil)))))
  (mSeq (mSet 5 (mLst (maCons (mTup (maCons (mC (.str "load")) (maCons (mC (.str "a")) (maCons (mC (.int 3)) maNil)))) (maCons (mTup (maCons (mC (.str "load")) (maCons (mC (.str "b")) (maCons (mC (.int 4)) maNil)))) (maCons (mTup (maCons (mVar 4) (maCons (mC .none) (maCons (mC (.int 5)) maNil)))) maNil)))))
  (mSeq (mIte (mTr (m2 (.fz) (.fz) (mVar 4) (mTup (maCons (mC (.str "neg")) (maCons (mC (.str "not")) maNil))) dInU)) (mSet 5 (m2 (.fz) (.fz) (mSl (.fz) (mVar 5) mNo (mPt (mC (.int 1))) dSlU) (mSl (.fz) (mVar 5) (mPt (mC (.int 2))) mNo dSlU) dAddU)) mSkip)
  (mSeq (mSet 6 (mSl (.ow) (mLst (maCons (mVar 2) (maCons (mVar 3) maNil))) mNo (mPt (m2 (.fz) (.fz) (mOp [.fz] (maCons (mVar 5) maNil) dLenU) (mC (.int 1)) dSub)) dSlL))
  (mSeq (mSet 7 (mCall f__law_made [.fz, .br 6] [] (maCons (mVar 4) (maCons (mBr 6) maNil))))
  (mSeq (mSet 8 (mDisp (mpCons (mC (.str "a")) (mVar 2) (mpCons (mC (.str "b")) (mVar 3) mpNil))))
  (mSeq (mSet 9 (mIf (mTr (m2 (.fz) (.fz) (mVar 7) (mC .none) dNotN)) (mTup (maCons (mC (.str "fault")) (maCons (mVar 7) (maCons (mC (.int 5)) maNil)))) (mTup (maCons (mC (.str "value")) (maCons (m2 (.br 6) (.fz) (mBr 6) (m1 (.fz) (mC (.int 1)) dNeg) dIxU) maNil)))))
  (mSeq (mSet 10 (mCall f_run [.fz, .fz, .fz] [] (maCons (m2 (.fz) (.ow) (mVar 5) (mLst (maCons (mTup (maCons (mC (.str "return")) (maCons (mC .none) (maCons (mC (.int 6)) maNil)))) maNil)) dAddU) (maCons (mVar 8) (maCons (mC (.int 9)) maNil)))))
  (mSeq (mIte (mTr (m2 (.fz) (.fz) (mCall f__law_shown [.fz] [] (maCons (mVar 10) maNil)) (mCall f__law_shown [.fz] [] (maCons (mTup (maCons (mVar 9) (maCons (mLst maNil) (maCons (m2 (.fz) (.fz) (mOp [.fz] (maCons (mVar 5) maNil) dLenU) (mIf (mTr (m2 (.fz) (.fz) (mVar 7) (mC .none) dIsN)) (mC (.int 1)) (mC (.int 0))) dAddU) maNil)))) maNil)) dNeU)) (mRet (mC (.bool false))) mSkip)
  (mSeq (mSet 11 (m2 (.fz) (.ow) (m2 (.ow) (.fz) (mLst (maCons (mTup (maCons (mC (.str "try")) (maCons (mC (.int 1)) (maCons (mC (.int 1)) maNil)))) maNil)) (mVar 5) dAddU) (mLst (maCons (mTup (maCons (mC (.str "endtry")) (maCons (mC .none) (maCons (mC (.int 1)) maNil)))) (maCons (mTup (maCons (mC (.str "label")) (maCons (mC (.int 1)) (maCons (mC (.int 1)) maNil)))) (maCons (mTup (maCons (mC (.str "return")) (maCons (mC .none) (maCons (mC (.int 6)) maNil)))) maNil)))) dAddU))
  (mSeq (mSet 10 (mCall f_run [.fz, .fz, .fz] [] (maCons (mVar 11) (maCons (mVar 8) (maCons (mC (.int 9)) maNil)))))
  (mSeq (mSet 12 (mIf (mTr (m2 (.fz) (.fz) (mVar 7) (mC .none) dNotN)) (mVar 7) (m2 (.br 6) (.fz) (mBr 6) (m1 (.fz) (mC (.int 1)) dNeg) dIxU)))
  (mRet (m2 (.fz) (.fz) (mCall f__law_shown [.fz] [] (maCons (mVar 10) maNil)) (mCall f__law_shown [.fz] [] (maCons (mTup (maCons (mTup (maCons (mC (.str "value")) (maCons (mVar 12) maNil))) (maCons (mLst maNil) (maCons (m2 (.fz) (.fz) (mOp [.fz] (maCons (mVar 5) maNil) dLenU) (mC (.int 1)) dAddU) maNil)))) maNil)) dEqU))))))))))))))))
def f_law : En → Option (D × En) := mFun [.fz] 12 .fz m_law
theorem ok_law {P : Program} {w : World} {K : PySem.W.Frag} {mg : Str → Option Value} {base : Heap} {f : Addr} {fd : FuncData} (F : FunD K "law" "law" (defArgs s_law) (defBody s_law) (defScope s_law) [] [] f fd) (B : Bt mg) (C : Ct K w mg) (G__law_any : FnX P w K mg base "_law_any" 3 ["_law_script", "_law_town_here"] (spF K [.fz, .io] f__law_any .fz)) (G__law_made : FnX P w K mg base "_law_made" 3 ["_law_op", "_law_stack"] (spF K [.fz, .io] f__law_made .fz)) (G__law_pick : FnX P w K mg base "_law_pick" 2 ["_law_script", "_law_town_here", "_law_some"] (spF K [.fz, .io, .fz] f__law_pick .fz)) (G__law_shown : FnX P w K mg base "_law_shown" 1 ["_law_thing"] (spF K [.fz] f__law_shown .fz)) (G__law_town : FnX P w K mg base "_law_town" 1 ["_law_script"] (spF K [.fz] f__law_town .ow)) (G_run : FnX P w K mg base "run" 10 ["code", "names", "steps"] (spF K [.fz, .fz, .fz] f_run .fz)) :
    FnG P w K mg base CX0 11 f fd ["_law_script"] (spF K [.fz] f_law .fz) :=
  fn_data (Oi := [.fz]) (Ol := [.ow, .fz, .fz, .fz, .fz, .ow, .fz, .fz, .fz, .fz, .fz, .fz]) (r := .fz) F sc_law rfl rfl rfl (fun _ z => by cases z) fun cd A outer s H E hgd hr =>
    have hu := hu65 hr
    (s_cons (s_setO 1 sc_law.nd (e_callX G__law_town hgd hr (a_cons (e_var 0) a_nil)))
    (s_cons (s_par 2 3 sc_law.nd (a_cons (e_callX G__law_any hgd hr (a_cons (e_var 0) (a_cons (e_br 1) a_nil))) (a_cons (e_callX G__law_any hgd hr (a_cons (e_var 0) (a_cons (e_br 1) a_nil))) a_nil)))
    (s_cons (s_setF 4 sc_law.nd (e_callX G__law_pick hgd hr (a_cons (e_var 0) (a_cons (e_br 1) (a_cons (e_frz (e_lst (a_cons e_str (a_cons e_str (a_cons e_str (a_cons e_str (a_cons e_str (a_cons e_str (a_cons e_str (a_cons e_str (a_cons e_str a_nil))))))))))) a_nil)))))
    (s_cons (s_setF 5 sc_law.nd (e_frz (e_lst (a_cons (e_tup (a_cons e_str (a_cons e_str (a_cons e_int a_nil)))) (a_cons (e_tup (a_cons e_str (a_cons e_str (a_cons e_int a_nil)))) (a_cons (e_tup (a_cons (e_var 4) (a_cons e_non (a_cons e_int a_nil)))) a_nil))))))
    (s_cons (s_if (t_in hu (e_var 4) (e_tup (a_cons e_str (a_cons e_str a_nil)))) (s_one (s_setF 5 sc_law.nd (e_add (e_slU (e_var 5) o_no (o_pt e_int)) (e_slU (e_var 5) (o_pt e_int) o_no)))) s_nil)
    (s_cons (s_setO 6 sc_law.nd (e_sl sl_list sl_l (e_lst (a_cons (e_var 2) (a_cons (e_var 3) a_nil))) o_no (o_pt (e_op op_sub s_sub (e_lenU B (a_cons (e_var 5) a_nil)) e_int))))
    (s_cons (s_setF 7 sc_law.nd (e_callX G__law_made hgd hr (a_cons (e_var 4) (a_cons (e_br 6) a_nil))))
    (s_cons (s_setF 8 sc_law.nd (e_frz (e_disp (pd_cons e_str (e_var 2) (pd_cons e_str (e_var 3) pd_nil)) (mpsle (mps1 (mps1 mps0)) (by decide)))))
    (s_cons (s_setF 9 sc_law.nd (e_if (t_cmp op_notN1 s_notN (e_var 7) e_non) (e_tup (a_cons e_str (a_cons (e_var 7) (a_cons e_int a_nil)))) (e_tup (a_cons e_str (a_cons (e_ixU hu (e_br 6) (e_un un_neg s_neg e_int)) a_nil)))))
    (s_cons (s_setF 10 sc_law.nd (e_callX G_run hgd hr (a_cons (e_add (e_var 5) (e_lst (a_cons (e_tup (a_cons e_str (a_cons e_non (a_cons e_int a_nil)))) a_nil))) (a_cons (e_var 8) (a_cons e_int a_nil)))))
    (s_cons (s_if (t_ne hu (e_callX G__law_shown hgd hr (a_cons (e_var 10) a_nil)) (e_callX G__law_shown hgd hr (a_cons (e_tup (a_cons (e_var 9) (a_cons (e_frz (e_lst a_nil)) (a_cons (e_add (e_lenU B (a_cons (e_var 5) a_nil)) (e_if (t_cmp op_isN1 s_isN (e_var 7) e_non) e_int e_int)) a_nil)))) a_nil))) (s_one (s_ret e_bl)) s_nil)
    (s_cons (s_setF 11 sc_law.nd (e_add (e_add (e_lst (a_cons (e_tup (a_cons e_str (a_cons e_int (a_cons e_int a_nil)))) a_nil)) (e_var 5)) (e_lst (a_cons (e_tup (a_cons e_str (a_cons e_non (a_cons e_int a_nil)))) (a_cons (e_tup (a_cons e_str (a_cons e_int (a_cons e_int a_nil)))) (a_cons (e_tup (a_cons e_str (a_cons e_non (a_cons e_int a_nil)))) a_nil))))))
    (s_cons (s_setF 10 sc_law.nd (e_callX G_run hgd hr (a_cons (e_var 11) (a_cons (e_var 8) (a_cons e_int a_nil)))))
    (s_cons (s_setF 12 sc_law.nd (e_if (t_cmp op_notN1 s_notN (e_var 7) e_non) (e_var 7) (e_ixU hu (e_br 6) (e_un un_neg s_neg e_int))))
    (s_one (s_ret (e_eq hu (e_callX G__law_shown hgd hr (a_cons (e_var 10) a_nil)) (e_callX G__law_shown hgd hr (a_cons (e_tup (a_cons (e_tup (a_cons e_str (a_cons (e_var 12) a_nil))) (a_cons (e_frz (e_lst a_nil)) (a_cons (e_add (e_lenU B (a_cons (e_var 5) a_nil)) e_int) a_nil)))) a_nil)))))))))))))))))))
end DL

/-! EW4: equations, step by step; methods of an object. -/
namespace DL
open PySem PySem.Spec PyProof.Rows L2

section
variable {ρ ρ1 ρ2 : En} {a b : MS} {c : MT} {m : M} {d : D} {i : Nat} {ma : MA} {ks : List Ak} {dd ds es : List D} {mf : En → Option (D × En)} {o : En}
theorem E_seq (h : a ρ = some (.nx, ρ1)) : mSeq a b ρ = b ρ1 := by
  show (a ρ).bind _ = _
  rw [h]
  rfl
theorem E_seqR (h : a ρ = some (.rt d, ρ1)) : mSeq a b ρ = some (.rt d, ρ1) := by
  show (a ρ).bind _ = _
  rw [h]
  rfl
theorem E_iteT (h : c ρ = some (true, ρ1)) : mIte c a b ρ = a ρ1 := by
  show (c ρ).bind _ = _
  rw [h]
  rfl
theorem E_iteF (h : c ρ = some (false, ρ1)) : mIte c a b ρ = b ρ1 := by
  show (c ρ).bind _ = _
  rw [h]
  rfl
theorem E_set (h : m ρ = some (d, ρ1)) : mSet i m ρ = some (.nx, ρ1.set i (some d)) := by
  show (m ρ).map _ = _
  rw [h]
  rfl
theorem E_drop (h : m ρ = some (d, ρ1)) : mDrop m ρ = some (.nx, ρ1) := by
  show (m ρ).map _ = _
  rw [h]
  rfl
theorem E_ret (h : m ρ = some (d, ρ1)) : mRet m ρ = some (.rt d, ρ1) := by
  show (m ρ).map _ = _
  rw [h]
  rfl
theorem E_asg {g : MG} (h : m ρ = some (d, ρ1)) (hg : g d ρ1 = some ρ2) : mAsg g m ρ = some (.nx, ρ2) := by
  show (m ρ).bind _ = _
  rw [h]
  show (g d ρ1).map _ = _
  rw [hg]
  rfl
theorem E_call (hm : ma ρ = some (ds, ρ1)) (hf : fill ks ds ρ1 = some es) (hc : mf ((es ++ dd).map some) = some (d, o)) : mCall mf ks dd ma ρ = some (d, putB ks o ρ1) := by
  show (ma ρ).bind _ = _
  rw [hm]
  show (fill ks ds ρ1).bind _ = _
  rw [hf]
  show (mf _).bind _ = _
  rw [hc]
  rfl
theorem E_callM {nc np : Nat} (hm : ma ρ = some (ds, ρ1)) (hc : mf ((none :: ds.map some) ++ ρ1.drop nc) = some (d, o)) : mCallM nc np mf ma ρ = some (d, ρ1.take nc ++ o.drop np) := by
  show (ma ρ).bind _ = _
  rw [hm]
  show (mf _).bind _ = _
  rw [hc]
  rfl
theorem E_metR {n k : Nat} {r : Ak} (h : b (entM n k ρ) = some (.rt d, ρ1)) : mMet n k r b ρ = some (d, outM n k ρ1) := by
  show (b (entM n k ρ)).bind _ = _
  rw [h]
  rfl
theorem E_metN {n k : Nat} (h : b (entM n k ρ) = some (.nx, ρ1)) : mMet n k .fz b ρ = some (.none, outM n k ρ1) := by
  show (b (entM n k ρ)).bind _ = _
  rw [h]
  rfl
theorem E_funR {Oi : List Kd} {n : Nat} {r : Ak} (h : b (ρ ++ List.replicate n none) = some (.rt d, ρ1)) : mFun Oi n r b ρ = some (d, outE Oi ρ1) := by
  show (b _).bind _ = _
  rw [h]
  rfl
theorem E_funN {Oi : List Kd} {n : Nat} (h : b (ρ ++ List.replicate n none) = some (.nx, ρ1)) : mFun Oi n .fz b ρ = some (.none, outE Oi ρ1) := by
  show (b _).bind _ = _
  rw [h]
  rfl
theorem E_make {n np na : Nat} {mm : MS} {f : Fl} (hm : ma ρ = some (ds, ρ1)) (hc : mf ((none :: ds.map some) ++ List.replicate na none) = some (.none, o)) (hk : mm (ρ1.set i none ++ o.drop np) = some (f, ρ2)) : mMake i n np na mf ma mm ρ = some (f, ρ2.take n) := by
  show (ma ρ).bind _ = _
  rw [hm]
  show (mf _).bind _ = _
  rw [hc]
  show (mm _).map _ = _
  rw [hk]
  rfl
theorem E_and {c1 c2 : MT} {t : Bool} (h : c1 ρ = some (true, ρ1)) (k : c2 ρ1 = some (t, ρ2)) : mAnd c1 c2 ρ = some (t, ρ2) := by
  show (c1 ρ).bind _ = _
  rw [h]
  exact k
theorem E_tr {t : Bool} (h : m ρ = some (.bool t, ρ1)) : mTr m ρ = some (t, ρ1) := by
  show (m ρ).bind _ = _
  rw [h]
  rfl
/-- one turn of a while whose body does nothing -/
theorem E_turn {n : Nat} (h : c ρ = some (true, ρ1)) : whN c mSkip (n + 1) ρ = whN c mSkip n ρ1 := by
  show (c ρ).bind _ = _
  rw [h]
  rfl
theorem E_stop {n : Nat} (h : c ρ = some (false, ρ1)) : whN c mSkip (n + 1) ρ = some (.nx, ρ1) := by
  show (c ρ).bind _ = _
  rw [h]
  rfl
theorem E_while {n : Nat} {x : Fl × En} (h : whN c b n ρ = some x) (hn : n ≤ 1000 := by decide) : mWhile c b ρ = some x := mWhile_of (Nat.le_trans hn (by decide)) h
theorem E_ifT {t : MT} {x y : M} (h : t ρ = some (true, ρ1)) : mIf t x y ρ = x ρ1 := by
  show (t ρ).bind _ = _
  rw [h]
  rfl
theorem E_ifF {t : MT} {x y : M} (h : t ρ = some (false, ρ1)) : mIf t x y ρ = y ρ1 := by
  show (t ρ).bind _ = _
  rw [h]
  rfl
theorem E_aCons {r : MA} (h : m ρ = some (d, ρ1)) (k : r ρ1 = some (ds, ρ2)) : maCons m r ρ = some (d :: ds, ρ2) := by
  show (m ρ).bind _ = _
  rw [h]
  show (r ρ1).bind _ = _
  rw [k]
  rfl
theorem E_op {op : List D → Option D} {z : D} (h : ma ρ = some (ds, ρ1)) (hf : fill ks ds ρ1 = some es) (ho : op es = some z) : mOp ks ma op ρ = some (z, ρ1) := by
  show (ma ρ).bind _ = _
  rw [h]
  show (fill ks ds ρ1).bind _ = _
  rw [hf]
  show (op es).map _ = _
  rw [ho]
  rfl
theorem E_m2 {k k2 : Ak} {m' : M} {e z : D} {op : List D → Option D} (h : m ρ = some (d, ρ1)) (h2 : m' ρ1 = some (e, ρ2)) (hf : fill [k, k2] [d, e] ρ2 = some es) (ho : op es = some z) : m2 k k2 m m' op ρ = some (z, ρ2) :=
  E_op (E_aCons h (E_aCons h2 rfl)) hf ho
theorem E_tup (h : ma ρ = some (ds, ρ1)) : mTup ma ρ = some (.tuple ds, ρ1) := by
  show (ma ρ).map _ = _
  rw [h]
  rfl
end
end DL

/-! S14a: operations upon two values: the program's and the law's. -/
namespace DL
open PySem PySem.Spec PyProof.Rows L2

inductive V14 : D → Prop where
  | non : V14 .none
  | bl (b : Bool) : V14 (.bool b)
  | int (i : Int) (h : -1000000000000000000 ≤ i ∧ i ≤ 1000000000000000000) : V14 (.int i)
  | oops : V14 (.str "Oops")
abbrev n3 : En := [none, none, none]
def hwP (w : D) : Prop := (∃ i : Int, w = .int i ∧ -1000000000000000000 ≤ i ∧ i ≤ 1000000000000000000) ∨ ∃ b : Bool, w = .bool b
def hzP (z : Str) : Prop := z = "Type" ∨ z = "Zero" ∨ z = "Big"
def PR (op : Str) (one other : D) : Prop :=
  (∃ w, hwP w ∧ f_paired [some (.str op), some one, some other] = some (.tuple [.str "found", w], n3) ∧ f__law_pair [some (.str op), some one, some other] = some (.tuple [.str "value", w], n3)) ∨
  ∃ z : Str, hzP z ∧ f_paired [some (.str op), some one, some other] = some (.tuple [.str "fault", .str z], n3) ∧ f__law_pair [some (.str op), some one, some other] = some (.tuple [.str "kind", .str z], n3)
/-- what is not two numbers -/
theorem pr_type {op : Str} {one other : D} (h1 : f_paired [some (.str op), some one, some other] = some (.tuple [.str "fault", .str "Type"], n3)) (h2 : f__law_pair [some (.str op), some one, some other] = some (.tuple [.str "kind", .str "Type"], n3)) : PR op one other := .inr ⟨_, .inl rfl, h1, h2⟩
abbrev nops : List Str := ["add", "sub", "mul", "div", "rest", "less"]
theorem pr_typeL {op : Str} (ho : op ∈ nops) {one : D} (h1 : one = .none ∨ (∃ b, one = .bool b) ∨ one = .str "Oops") {other : D} (h2 : V14 other) : PR op one other := by
  simp only [nops, List.mem_cons, List.not_mem_nil, or_false] at ho
  rcases ho with rfl | rfl | rfl | rfl | rfl | rfl <;> rcases h1 with rfl | ⟨b, rfl⟩ | rfl <;> exact pr_type (by kernel_rfl) (by kernel_rfl)
theorem pr_typeR {op : Str} (ho : op ∈ nops) {i : Int} {other : D} (h1 : other = .none ∨ (∃ b, other = .bool b) ∨ other = .str "Oops") : PR op (.int i) other := by
  simp only [nops, List.mem_cons, List.not_mem_nil, or_false] at ho
  rcases ho with rfl | rfl | rfl | rfl | rfl | rfl <;> rcases h1 with rfl | ⟨b, rfl⟩ | rfl <;> exact pr_type (by kernel_rfl) (by kernel_rfl)
theorem pr_found {op : Str} {one other w : D} (h1 : f_paired [some (.str op), some one, some other] = some (.tuple [.str "found", w], n3)) (h2 : f__law_pair [some (.str op), some one, some other] = some (.tuple [.str "value", w], n3))  (hw : hwP w := by exact .inr ⟨_, rfl⟩) : PR op one other := .inl ⟨_, hw, h1, h2⟩
theorem pr_same {one other : D} (h1 : V14 one) (h2 : V14 other) : PR "same" one other := by
  cases h1 <;> cases h2
  case int.int i hi j hj => exact pr_found (w := .bool (decide (i = j))) (by kernel_rfl) (by kernel_rfl)
  case bl.bl b c => exact pr_found (w := .bool (decide (b = c))) (by cases b <;> cases c <;> kernel_rfl) (by cases b <;> cases c <;> kernel_rfl)
  case non.non => exact pr_found (w := .bool true) (by kernel_rfl) (by kernel_rfl)
  case oops.oops => exact pr_found (w := .bool true) (by kernel_rfl) (by kernel_rfl)
  all_goals exact pr_found (w := .bool false) (by kernel_rfl) (by kernel_rfl)
end DL

/-! S14b: operations upon two numbers. -/
namespace DL
open PySem PySem.Spec PyProof.Rows L2

theorem eq_of_W {x : Option (D × En)} {d : D} {o : En} (h : W x fun d' o' => d' = d ∧ o' = o) : x = some (d, o) := by
  obtain ⟨d', o', e, rfl, rfl⟩ := h
  exact e
abbrev en4 (op : Str) (i j : Int) (x : Option D) : En := [some (.str op), some (.int i), some (.int j), x]
def resP (x : Int) : D := if -1000000000000000000 ≤ x ∧ x ≤ 1000000000000000000 then .tuple [.str "found", .int x] else .tuple [.str "fault", .str "Big"]
def resL (x : Int) : D := if -1000000000000000000 ≤ x ∧ x ≤ 1000000000000000000 then .tuple [.str "value", .int x] else .tuple [.str "kind", .str "Big"]
theorem pr_big {op : Str} {one other : D} {x : Int} (h1 : f_paired [some (.str op), some one, some other] = some (resP x, n3)) (h2 : f__law_pair [some (.str op), some one, some other] = some (resL x, n3)) : PR op one other := by
  unfold resP at h1
  unfold resL at h2
  by_cases h : -1000000000000000000 ≤ x ∧ x ≤ 1000000000000000000
  · rw [if_pos h] at h1 h2
    exact .inl ⟨_, .inl ⟨_, rfl, h⟩, h1, h2⟩
  · rw [if_neg h] at h1 h2
    exact .inr ⟨_, .inr (.inr rfl), h1, h2⟩
theorem big_sum {op : Str} (ho : op = "add" ∨ op = "sub" ∨ op = "mul") {i j x : Int} (hx : f_reckoned [some (.str op), some (.int i), some (.int j)] = some (.int x, n3)) : f_paired [some (.str op), some (.int i), some (.int j)] = some (resP x, n3) := by
  refine eq_of_W ?_
  unfold f_paired m_paired
  rw [W_fn]
  refine W_seq_eq (ρ1 := en4 op i j none) (by rcases ho with rfl | rfl | rfl <;> kernel_rfl) ?_
  refine W_seq_eq (ρ1 := en4 op i j none) (by rcases ho with rfl | rfl | rfl <;> kernel_rfl) ?_
  refine W_seq_eq (ρ1 := en4 op i j none) (by rcases ho with rfl | rfl | rfl <;> kernel_rfl) ?_
  refine W_seq_eq (ρ1 := en4 op i j none) (by rcases ho with rfl | rfl | rfl <;> kernel_rfl) ?_
  refine W_seq_eq (ρ1 := en4 op i j (some (.int x))) (E_set (d := .int x) (ρ1 := en4 op i j none) (E_call (ds := [.str op, .int i, .int j]) (es := [.str op, .int i, .int j]) (ρ1 := en4 op i j none) (o := n3) rfl rfl hx)) ?_
  simp
  unfold resP
  by_cases h1 : -1000000000000000000 ≤ x <;> by_cases h2 : x ≤ 1000000000000000000 <;> simp [h1, h2] <;> omega
theorem big_law {op : Str} (ho : op = "add" ∨ op = "sub" ∨ op = "mul") {i j x : Int} (hx : (mIf (mTr (m2 (.fz) (.fz) (mVar 0) (mC (.str "add")) dEqU)) (m2 (.fz) (.fz) (mVar 1) (mVar 2) dAddU) (mIf (mTr (m2 (.fz) (.fz) (mVar 0) (mC (.str "sub")) dEqU)) (m2 (.fz) (.fz) (mVar 1) (mVar 2) dSub) (m2 (.fz) (.fz) (mVar 1) (mVar 2) dMul))) (en4 op i j none) = some (.int x, en4 op i j none)) : f__law_pair [some (.str op), some (.int i), some (.int j)] = some (resL x, n3) := by
  refine eq_of_W ?_
  unfold f__law_pair m__law_pair
  rw [W_fn]
  refine W_seq_eq (ρ1 := en4 op i j none) (by rcases ho with rfl | rfl | rfl <;> kernel_rfl) ?_
  refine W_seq_eq (ρ1 := en4 op i j none) (by rcases ho with rfl | rfl | rfl <;> kernel_rfl) ?_
  refine W_seq_eq (ρ1 := en4 op i j none) (by rcases ho with rfl | rfl | rfl <;> kernel_rfl) ?_
  refine W_seq_eq (ρ1 := en4 op i j none) (by rcases ho with rfl | rfl | rfl <;> kernel_rfl) ?_
  refine W_seq_eq (ρ1 := en4 op i j none) (by rcases ho with rfl | rfl | rfl <;> kernel_rfl) ?_
  refine W_seq_eq (ρ1 := en4 op i j none) (by rcases ho with rfl | rfl | rfl <;> kernel_rfl) ?_
  refine W_seq_eq (ρ1 := en4 op i j (some (.int x))) (E_set hx) ?_
  have ha : dAbs [.int x] = some (.int (if x < 0 then -x else x)) := rfl
  have hp : dPow [.int 10, .int 18] = some (.int 1000000000000000000) := by kernel_rfl
  simp [ha, hp]
  unfold resL
  by_cases h1 : -1000000000000000000 ≤ x <;> by_cases h2 : x ≤ 1000000000000000000 <;> by_cases h3 : x < 0 <;> simp [h1, h2, h3] <;> omega
theorem mul_ok {i j : Int} (hi : -1000000000000000000 ≤ i ∧ i ≤ 1000000000000000000) (hj : -1000000000000000000 ≤ j ∧ j ≤ 1000000000000000000) : dMul [.int i, .int j] = some (.int (i * j)) := by
  rw [dMul_i]
  exact ⟨mulOk_of (by omega) (by omega), rfl⟩
theorem pr_sum {op : Str} (ho : op = "add" ∨ op = "sub" ∨ op = "mul") {i j : Int} (hi : -1000000000000000000 ≤ i ∧ i ≤ 1000000000000000000) (hj : -1000000000000000000 ≤ j ∧ j ≤ 1000000000000000000) : PR op (.int i) (.int j) := by
  rcases ho with rfl | rfl | rfl
  · exact pr_big (x := i + j) (big_sum (.inl rfl) (by kernel_rfl)) (big_law (.inl rfl) (by kernel_rfl))
  · exact pr_big (x := i - j) (big_sum (.inr (.inl rfl)) (by kernel_rfl)) (big_law (.inr (.inl rfl)) (by kernel_rfl))
  · refine pr_big (x := i * j) (big_sum (.inr (.inr rfl)) ?_) (big_law (.inr (.inr rfl)) ?_)
    · unfold f_reckoned m_reckoned
      refine E_funR (ρ1 := [some (.str "mul"), some (.int i), some (.int j)]) ?_
      rw [E_seq (ρ1 := [some (.str "mul"), some (.int i), some (.int j)]) (by kernel_rfl), E_seq (ρ1 := [some (.str "mul"), some (.int i), some (.int j)]) (by kernel_rfl)]
      exact E_seqR ((E_iteT (ρ1 := [some (.str "mul"), some (.int i), some (.int j)]) (by kernel_rfl)).trans (E_ret (E_m2 rfl rfl rfl (mul_ok hi hj))))
    · rw [E_ifF (ρ1 := en4 "mul" i j none) (by kernel_rfl), E_ifF (ρ1 := en4 "mul" i j none) (by kernel_rfl)]
      exact E_m2 rfl rfl rfl (mul_ok hi hj)
theorem pr_less {i j : Int} : PR "less" (.int i) (.int j) := pr_found (w := .bool (decide (i < j))) (by kernel_rfl) (by kernel_rfl)
end DL

/-! S14c: quotients and rests; all pairs. -/
namespace DL
open PySem PySem.Spec PyProof.Rows L2

abbrev en3 (op : Str) (i j : Int) : En := [some (.str op), some (.int i), some (.int j)]
theorem eq0_no {j : Int} (hj : j ≠ 0) : dEqU [.int j, .int 0] = some (.bool false) := by
  rw [dEqU_i]
  simp [hj]
theorem div_opP {i j : Int} (hi : -1000000000000000000 ≤ i ∧ i ≤ 1000000000000000000) (hj : -1000000000000000000 ≤ j ∧ j ≤ 1000000000000000000) (h0 : j ≠ 0) : dDivX [.int i, .int j] = some (.int (i.fdiv j)) := by
  have hl : j.natAbs.log2 < 9000 := by
    have h1 : j.natAbs ≠ 0 := by omega
    have : j.natAbs < 2 ^ 64 := by omega
    have := (Nat.log2_lt h1).mpr this
    omega
  show opIc _ _ [.int i, .int j] = _
  unfold opIc
  simp only [decide_eq_true_eq]
  rw [if_pos ⟨h0, hl⟩]
theorem mod_opP {i j : Int} (h0 : j ≠ 0) : dMod [.int i, .int j] = some (.int (i.fmod j)) := by
  show opIc _ _ [.int i, .int j] = _
  unfold opIc
  simp only [decide_eq_true_eq]
  rw [if_pos h0]
theorem res_in {x : Int} (h : -1000000000000000000 ≤ x ∧ x ≤ 1000000000000000000) : resP x = .tuple [.str "found", .int x] := if_pos h
/-- the program's way behind the looks at zero -/
theorem big_div {op : Str} (ho : op = "div" ∨ op = "rest") {i j x : Int} (h0 : j ≠ 0) (hx : f_reckoned (en3 op i j) = some (.int x, n3)) : f_paired (en3 op i j) = some (resP x, n3) := by
  refine eq_of_W ?_
  unfold f_paired m_paired
  rw [W_fn]
  refine W_seq_eq (ρ1 := en4 op i j none) (by rcases ho with rfl | rfl <;> kernel_rfl) ?_
  refine W_seq_eq (ρ1 := en4 op i j none) (by rcases ho with rfl | rfl <;> kernel_rfl) ?_
  refine W_seq_eq (ρ1 := en4 op i j none) (by rcases ho with rfl | rfl <;> kernel_rfl) ?_
  refine W_seq_eq (ρ1 := en4 op i j none) ((E_iteF (E_and (ρ1 := en4 op i j none) (by rcases ho with rfl | rfl <;> kernel_rfl) (E_tr (E_m2 (ρ1 := en4 op i j none) (ρ2 := en4 op i j none) rfl rfl rfl (eq0_no h0))))).trans rfl) ?_
  refine W_seq_eq (ρ1 := en4 op i j (some (.int x))) (E_set (d := .int x) (ρ1 := en4 op i j none) (E_call (ds := [.str op, .int i, .int j]) (es := [.str op, .int i, .int j]) (ρ1 := en4 op i j none) (o := n3) rfl rfl hx)) ?_
  simp
  unfold resP
  by_cases h1 : -1000000000000000000 ≤ x <;> by_cases h2 : x ≤ 1000000000000000000 <;> simp [h1, h2] <;> omega
theorem reck_div {i j : Int} (hi : -1000000000000000000 ≤ i ∧ i ≤ 1000000000000000000) (hj : -1000000000000000000 ≤ j ∧ j ≤ 1000000000000000000) (h0 : j ≠ 0) : f_reckoned (en3 "div" i j) = some (.int (i.fdiv j), n3) := by
  unfold f_reckoned m_reckoned
  refine E_funR (ρ1 := en3 "div" i j) ?_
  rw [E_seq (ρ1 := en3 "div" i j) (by kernel_rfl), E_seq (ρ1 := en3 "div" i j) (by kernel_rfl), E_seq (ρ1 := en3 "div" i j) (by kernel_rfl)]
  exact E_seqR ((E_iteT (ρ1 := en3 "div" i j) (by kernel_rfl)).trans (E_ret (E_m2 rfl rfl rfl (div_opP hi hj h0))))
theorem reck_rest {i j : Int} (h0 : j ≠ 0) : f_reckoned (en3 "rest" i j) = some (.int (i.fmod j), n3) := by
  unfold f_reckoned m_reckoned
  refine E_funR (ρ1 := en3 "rest" i j) ?_
  rw [E_seq (ρ1 := en3 "rest" i j) (by kernel_rfl), E_seq (ρ1 := en3 "rest" i j) (by kernel_rfl), E_seq (ρ1 := en3 "rest" i j) (by kernel_rfl), E_seq (ρ1 := en3 "rest" i j) (by kernel_rfl)]
  exact E_ret (E_m2 rfl rfl rfl (mod_opP h0))
theorem lawp_div {i j : Int} (hi : -1000000000000000000 ≤ i ∧ i ≤ 1000000000000000000) (hj : -1000000000000000000 ≤ j ∧ j ≤ 1000000000000000000) (h0 : j ≠ 0) : f__law_pair (en3 "div" i j) = some (.tuple [.str "value", .int (i.fdiv j)], n3) := by
  unfold f__law_pair m__law_pair
  refine E_funR (ρ1 := en4 "div" i j none) ?_
  show mSeq _ _ (en4 "div" i j none) = _
  rw [E_seq (ρ1 := en4 "div" i j none) (by kernel_rfl), E_seq (ρ1 := en4 "div" i j none) (by kernel_rfl), E_seq (ρ1 := en4 "div" i j none) (by kernel_rfl),
    E_seq (ρ1 := en4 "div" i j none) ((E_iteF (E_and (ρ1 := en4 "div" i j none) (by kernel_rfl) (E_tr (E_m2 (ρ1 := en4 "div" i j none) (ρ2 := en4 "div" i j none) rfl rfl rfl (eq0_no h0))))).trans rfl)]
  exact E_seqR ((E_iteT (ρ1 := en4 "div" i j none) (by kernel_rfl)).trans (E_ret (E_tup (E_aCons rfl (E_aCons (E_m2 rfl rfl rfl (div_opP hi hj h0)) rfl)))))
theorem lawp_rest {i j : Int} (h0 : j ≠ 0) : f__law_pair (en3 "rest" i j) = some (.tuple [.str "value", .int (i.fmod j)], n3) := by
  unfold f__law_pair m__law_pair
  refine E_funR (ρ1 := en4 "rest" i j none) ?_
  show mSeq _ _ (en4 "rest" i j none) = _
  rw [E_seq (ρ1 := en4 "rest" i j none) (by kernel_rfl), E_seq (ρ1 := en4 "rest" i j none) (by kernel_rfl), E_seq (ρ1 := en4 "rest" i j none) (by kernel_rfl),
    E_seq (ρ1 := en4 "rest" i j none) ((E_iteF (E_and (ρ1 := en4 "rest" i j none) (by kernel_rfl) (E_tr (E_m2 (ρ1 := en4 "rest" i j none) (ρ2 := en4 "rest" i j none) rfl rfl rfl (eq0_no h0))))).trans rfl),
    E_seq (ρ1 := en4 "rest" i j none) (by kernel_rfl)]
  exact E_seqR ((E_iteT (ρ1 := en4 "rest" i j none) (by kernel_rfl)).trans (E_ret (E_tup (E_aCons rfl (E_aCons (E_m2 rfl rfl rfl (mod_opP h0)) rfl)))))
theorem pr_div {i j : Int} (hi : -1000000000000000000 ≤ i ∧ i ≤ 1000000000000000000) (hj : -1000000000000000000 ≤ j ∧ j ≤ 1000000000000000000) : PR "div" (.int i) (.int j) := by
  by_cases h0 : j = 0
  · subst h0
    exact .inr ⟨"Zero", .inr (.inl rfl), by kernel_rfl, by kernel_rfl⟩
  · have := Int.natAbs_fdiv_le_natAbs i j
    exact .inl ⟨_, .inl ⟨_, rfl, by omega⟩, (big_div (.inl rfl) h0 (reck_div hi hj h0)).trans (by rw [res_in (by omega)]), lawp_div hi hj h0⟩
theorem pr_rest {i j : Int} (hi : -1000000000000000000 ≤ i ∧ i ≤ 1000000000000000000) (hj : -1000000000000000000 ≤ j ∧ j ≤ 1000000000000000000) : PR "rest" (.int i) (.int j) := by
  by_cases h0 : j = 0
  · subst h0
    exact .inr ⟨"Zero", .inr (.inl rfl), by kernel_rfl, by kernel_rfl⟩
  · have := natAbs_fmod_le i j h0
    exact .inl ⟨_, .inl ⟨_, rfl, by omega⟩, (big_div (.inr rfl) h0 (reck_rest h0)).trans (by rw [res_in (by omega)]), lawp_rest h0⟩
abbrev pops : List Str := ["add", "sub", "mul", "div", "rest", "less", "same"]
theorem pr_all {op : Str} (ho : op ∈ pops) {one other : D} (h1 : V14 one) (h2 : V14 other) : PR op one other := by
  have hs : op = "same" ∨ op ∈ nops := by
    simp only [pops, nops, List.mem_cons, List.not_mem_nil, or_false] at ho ⊢
    rcases ho with rfl | rfl | rfl | rfl | rfl | rfl | rfl <;> simp
  rcases hs with rfl | hn
  · exact pr_same h1 h2
  · cases h1 with
    | non => exact pr_typeL hn (.inl rfl) h2
    | bl b => exact pr_typeL hn (.inr (.inl ⟨b, rfl⟩)) h2
    | oops => exact pr_typeL hn (.inr (.inr rfl)) h2
    | int i hi =>
      cases h2 with
      | non => exact pr_typeR hn (.inl rfl)
      | bl b => exact pr_typeR hn (.inr (.inl ⟨b, rfl⟩))
      | oops => exact pr_typeR hn (.inr (.inr rfl))
      | int j hj =>
        simp only [nops, List.mem_cons, List.not_mem_nil, or_false] at hn
        rcases hn with rfl | rfl | rfl | rfl | rfl | rfl
        · exact pr_sum (.inl rfl) hi hj
        · exact pr_sum (.inr (.inl rfl)) hi hj
        · exact pr_sum (.inr (.inr rfl)) hi hj
        · exact pr_div hi hj
        · exact pr_rest hi hj
        · exact pr_less
end DL

/-! S14d: the names looked at; what the law makes. -/
namespace DL
open PySem PySem.Spec PyProof.Rows L2

theorem E_orF {a b : M} {ρ ρ1 : En} (h : mTr a ρ = some (false, ρ1)) : mOrV a b ρ = b ρ1 := by
  show (mTr a ρ).bind _ = _
  rw [h]
  rfl
theorem E_orT {a b : M} {ρ ρ1 : En} (h : mTr a ρ = some (true, ρ1)) : mOrV a b ρ = some (.bool true, ρ1) := by
  show (mTr a ρ).bind _ = _
  rw [h]
  rfl
theorem E_not {a : MT} {ρ ρ1 : En} {t : Bool} (h : a ρ = some (t, ρ1)) : mNot a ρ = some (!t, ρ1) := by
  show (a ρ).map _ = _
  rw [h]
  rfl
theorem num_in {i l m : Int} (h : l ≤ i ∧ i ≤ m) : f_is_number [some (.int i), some (.int l), some (.int m)] = some (.bool true, [none, none, none]) := by
  refine eq_of_W ?_
  unfold f_is_number m_is_number
  rw [W_fn]
  simp [h.1, h.2]
theorem val_in {d : D} (h : V14 d) : f_is_value [some d, some (.int 1000000000000000000)] = some (.bool true, [none, none]) := by
  cases h with
  | non => kernel_rfl
  | bl b => kernel_rfl
  | oops => kernel_rfl
  | int i hi =>
    unfold f_is_value m_is_value
    refine E_funR (ρ1 := [some (.int i), some (.int 1000000000000000000)]) (E_ret ?_)
    show mOrV _ _ [some (.int i), some (.int 1000000000000000000)] = _
    rw [E_orF (ρ1 := [some (.int i), some (.int 1000000000000000000)]) (by kernel_rfl), E_orF (ρ1 := [some (.int i), some (.int 1000000000000000000)]) (by kernel_rfl)]
    exact E_orT (E_tr (E_call (ds := [.int i, .int (-1000000000000000000), .int 1000000000000000000]) (es := [.int i, .int (-1000000000000000000), .int 1000000000000000000]) (ρ1 := [some (.int i), some (.int 1000000000000000000)]) (o := n3) rfl rfl (num_in hi)))
abbrev nm (one other : D) : D := .dict [(.str "a", one), (.str "b", other)]
theorem names_ok {one other : D} (h1 : V14 one) (h2 : V14 other) : f_look_names [some (nm one other)] = some (.none, [none]) := by
  have hLC : mLc (mItK 0) (mgN 1) mYes (mCall f_is_value [.fz, .fz] [] (maCons (m2 (.fz) (.fz) (mVar 0) (mVar 1) dIxU) (maCons (mC (.int 1000000000000000000)) maNil))) [1] [some (nm one other), none] = some (.list [.bool true, .bool true], [some (nm one other), none]) := by
    refine eq_of_W (W_lc (fun k => k) (fun _ => .bool true) [.str "a", .str "b"] ?_)
    refine ⟨_, [some (nm one other), none], rfl, rfl, by decide, ⟨rfl, rfl⟩, fun x hx => ?_⟩
    simp only [List.mem_cons, List.not_mem_nil, or_false] at hx
    rcases hx with rfl | rfl
    · exact ⟨[some (nm one other), some (.str "a")], rfl, _, _, E_call (ds := [one, .int 1000000000000000000]) (es := [one, .int 1000000000000000000]) (ρ1 := [some (nm one other), some (.str "a")]) (o := [none, none]) (E_aCons (E_m2 rfl rfl rfl (by kernel_rfl)) (E_aCons rfl rfl)) rfl (val_in h1), rfl, rfl⟩
    · exact ⟨[some (nm one other), some (.str "b")], rfl, _, _, E_call (ds := [other, .int 1000000000000000000]) (es := [other, .int 1000000000000000000]) (ρ1 := [some (nm one other), some (.str "b")]) (o := [none, none]) (E_aCons (E_m2 rfl rfl rfl (by kernel_rfl)) (E_aCons rfl rfl)) rfl (val_in h2), rfl, rfl⟩
  unfold f_look_names m_look_names
  refine E_funN (ρ1 := [some (nm one other), none]) ?_
  show mSeq _ _ [some (nm one other), none] = _
  rw [E_seq (ρ1 := [some (nm one other), none]) (by kernel_rfl)]
  exact (E_iteF (ρ1 := [some (nm one other), none]) (E_not (t := true) (E_tr (E_op (op := dAll) (z := .bool true) (es := [.list [.bool true, .bool true]]) (E_aCons hLC rfl) rfl (by kernel_rfl))))).trans rfl
/-! ### what the law makes -/
/-- told alike: a value, or a fault's kind -/
def MR (x : Option (D × En)) (y : Option (D × En)) (n : En) : Prop :=
  (∃ w, hwP w ∧ x = some (.tuple [.str "found", w], n) ∧ y = some (.none, [none, some (.list [w])])) ∨ ∃ z : Str, hzP z ∧ x = some (.tuple [.str "fault", .str z], n) ∧ y = some (.str z, [none, some (.list [])])
theorem made_pair {op : Str} (ho : op ∈ pops) {one other : D} (h1 : V14 one) (h2 : V14 other) : MR (f_paired [some (.str op), some one, some other]) (f__law_made [some (.str op), some (.list [one, other])]) n3 := by
  rcases pr_all ho h1 h2 with ⟨w, hw, e1, e2⟩ | ⟨z, hz, e1, e2⟩
  · refine .inl ⟨w, hw, e1, ?_⟩
    unfold f__law_made m__law_made
    refine E_funR (ρ1 := [some (.str op), some (.list [w]), some other, some (.tuple [.str "value", w])]) ?_
    show mSeq _ _ [some (.str op), some (.list [one, other]), none, none] = _
    rw [E_seq (ρ1 := [some (.str op), some (.list [one, other]), none, none]) (by simp only [pops, List.mem_cons, List.not_mem_nil, or_false] at ho; rcases ho with rfl | rfl | rfl | rfl | rfl | rfl | rfl <;> kernel_rfl),
      E_seq (ρ1 := [some (.str op), some (.list [one]), some other, none]) (by kernel_rfl),
      E_seq (ρ1 := [some (.str op), some (.list []), some other, some (.tuple [.str "value", w])]) ((E_iteF (ρ1 := [some (.str op), some (.list [one]), some other, none]) (by simp only [pops, List.mem_cons, List.not_mem_nil, or_false] at ho; rcases ho with rfl | rfl | rfl | rfl | rfl | rfl | rfl <;> kernel_rfl)).trans (E_set (ρ1 := [some (.str op), some (.list []), some other, none]) (E_call (ds := [.str op, one, other]) (es := [.str op, one, other]) (ρ1 := [some (.str op), some (.list []), some other, none]) (o := n3) (by kernel_rfl) rfl e2)))]
    kernel_rfl
  · refine .inr ⟨z, hz, e1, ?_⟩
    unfold f__law_made m__law_made
    refine E_funR (ρ1 := [some (.str op), some (.list []), some other, some (.tuple [.str "kind", .str z])]) ?_
    show mSeq _ _ [some (.str op), some (.list [one, other]), none, none] = _
    rw [E_seq (ρ1 := [some (.str op), some (.list [one, other]), none, none]) (by simp only [pops, List.mem_cons, List.not_mem_nil, or_false] at ho; rcases ho with rfl | rfl | rfl | rfl | rfl | rfl | rfl <;> kernel_rfl),
      E_seq (ρ1 := [some (.str op), some (.list [one]), some other, none]) (by kernel_rfl),
      E_seq (ρ1 := [some (.str op), some (.list []), some other, some (.tuple [.str "kind", .str z])]) ((E_iteF (ρ1 := [some (.str op), some (.list [one]), some other, none]) (by simp only [pops, List.mem_cons, List.not_mem_nil, or_false] at ho; rcases ho with rfl | rfl | rfl | rfl | rfl | rfl | rfl <;> kernel_rfl)).trans (E_set (ρ1 := [some (.str op), some (.list []), some other, none]) (E_call (ds := [.str op, one, other]) (es := [.str op, one, other]) (ρ1 := [some (.str op), some (.list []), some other, none]) (o := n3) (by kernel_rfl) rfl e2)))]
    kernel_rfl
abbrev n2 : En := [none, none]
theorem made_single {op : Str} (ho : op = "neg" ∨ op = "not") {one : D} (h1 : V14 one) : MR (f_single [some (.str op), some one]) (f__law_made [some (.str op), some (.list [one])]) n2 := by
  rcases ho with rfl | rfl
  · cases h1 with
    | non => exact .inr ⟨"Type", .inl rfl, by kernel_rfl, by kernel_rfl⟩
    | bl b => exact .inr ⟨"Type", .inl rfl, by kernel_rfl, by kernel_rfl⟩
    | oops => exact .inr ⟨"Type", .inl rfl, by kernel_rfl, by kernel_rfl⟩
    | int i hi => exact .inl ⟨.int (0 - i), .inl ⟨_, rfl, by omega⟩, by kernel_rfl, by kernel_rfl⟩
  · cases h1 with
    | non => exact .inl ⟨.bool true, .inr ⟨_, rfl⟩, by kernel_rfl, by kernel_rfl⟩
    | bl b => exact .inl ⟨.bool (!b), .inr ⟨_, rfl⟩, by cases b <;> kernel_rfl, by cases b <;> kernel_rfl⟩
    | oops => exact .inl ⟨.bool false, .inr ⟨_, rfl⟩, by kernel_rfl, by kernel_rfl⟩
    | int i hi => exact .inl ⟨.bool (!(!(decide (i = 0)))), .inr ⟨_, rfl⟩, by kernel_rfl, by kernel_rfl⟩
end DL

/-! S14e: the runs. -/
namespace DL
open PySem PySem.Spec PyProof.Rows L2

abbrev oB14 (R W H P S O T L A : D) : En := [some R, some W, some H, some P, some S, some O, some T, some L, some A, none]
abbrev on : D := .tuple [.str "on"]
abbrev rwD (op : Str) (a : D) (n : Int) : D := .tuple [.str op, a, .int n]
abbrev cndT : MT := mTr (m2 (.fz) (.fz) (mLenO 4 1 f_Walk___len__) (mVar 2) dLt)
abbrev cnd : MT := mAnd cndT (mTr (mCallM 4 1 f_Walk_step maNil))
theorem turn {c nms st : D} {s s' : En} {n : Nat} (h : cndT ([some c, some nms, some st, none] ++ s) = some (true, [some c, some nms, some st, none] ++ s)) (hs : f_Walk_step (none :: s) = some (.bool true, none :: s')) : whN cnd mSkip (n + 1) ([some c, some nms, some st, none] ++ s) = whN cnd mSkip n ([some c, some nms, some st, none] ++ s') :=
  E_turn (E_and h (E_tr (E_callM (nc := 4) (np := 1) (ds := []) (ρ1 := [some c, some nms, some st, none] ++ s) (o := none :: s') rfl hs)))
theorem halt {c nms st : D} {s : En} {n : Nat} (h : cndT ([some c, some nms, some st, none] ++ s) = some (true, [some c, some nms, some st, none] ++ s)) (hs : f_Walk_step (none :: s) = some (.bool false, none :: s)) : whN cnd mSkip (n + 1) ([some c, some nms, some st, none] ++ s) = some (.nx, [some c, some nms, some st, none] ++ s) :=
  E_stop (E_and h (E_tr (E_callM (nc := 4) (np := 1) (ds := []) (ρ1 := [some c, some nms, some st, none] ++ s) (o := none :: s) rfl hs)))
theorem reck_b_found {op : Str} (ho : op ∈ pops) {one other : D} {w : D} (hw : hwP w) (hp : f_paired [some (.str op), some one, some other] = some (.tuple [.str "found", w], n3)) (R W H S O T L A : D) : f_Walk_reckon (none :: some (.str op) :: oB14 R W H (.list [one, other]) S O T L A) = some (.none, none :: none :: oB14 R W H (.list [w]) S O T L A) := by
  unfold f_Walk_reckon m_Walk_reckon
  refine E_metR (ρ1 := [none, some (.str op), some other, some (.str "found"), some w] ++ oB14 R W H (.list [w]) S O T L A) ?_
  show mSeq _ _ ([none, some (.str op), none, none, none] ++ oB14 R W H (.list [one, other]) S O T L A) = _
  rw [E_seq (ρ1 := [none, some (.str op), some other, some (.str "found"), some w] ++ oB14 R W H (.list []) S O T L A) ((E_iteT (ρ1 := [none, some (.str op), none, none, none] ++ oB14 R W H (.list [one, other]) S O T L A) (by simp only [pops, List.mem_cons, List.not_mem_nil, or_false] at ho; rcases ho with rfl | rfl | rfl | rfl | rfl | rfl | rfl <;> kernel_rfl)).trans ((E_seq (ρ1 := [none, some (.str op), some other, none, none] ++ oB14 R W H (.list [one]) S O T L A) (by kernel_rfl)).trans (E_asg (d := .tuple [.str "found", w]) (ρ1 := [none, some (.str op), some other, none, none] ++ oB14 R W H (.list []) S O T L A) (E_call (ds := [.str op, one, other]) (es := [.str op, one, other]) (ρ1 := [none, some (.str op), some other, none, none] ++ oB14 R W H (.list []) S O T L A) (o := n3) (by kernel_rfl) rfl hp) (by kernel_rfl))))]
  kernel_rfl
theorem done_b_found {op : Str} (ho : op ∈ pops) {one other : D} {w : D} (hw : hwP w) (hp : f_paired [some (.str op), some one, some other] = some (.tuple [.str "found", w], n3)) (R W H S O T L A : D) : f_Walk_done (none :: some (rwD op .none 5) :: oB14 R W H (.list [one, other]) S O T L A) = some (.none, none :: none :: oB14 R W H (.list [w]) S O T L A) := by
  unfold f_Walk_done m_Walk_done
  refine E_metR (ρ1 := [none, some (rwD op .none 5), some (.str op), some .none, some (.int 5), none] ++ oB14 R W H (.list [w]) S O T L A) ?_
  show mSeq _ _ ([none, some (rwD op .none 5), none, none, none, none] ++ oB14 R W H (.list [one, other]) S O T L A) = _
  rw [E_seq (ρ1 := [none, some (rwD op .none 5), some (.str op), some .none, some (.int 5), none] ++ oB14 R W H (.list [one, other]) S O T L A) (by kernel_rfl)]
  exact E_seqR ((E_iteT (ρ1 := [none, some (rwD op .none 5), some (.str op), some .none, some (.int 5), none] ++ oB14 R W H (.list [one, other]) S O T L A) (by simp only [pops, List.mem_cons, List.not_mem_nil, or_false] at ho; rcases ho with rfl | rfl | rfl | rfl | rfl | rfl | rfl <;> kernel_rfl)).trans (E_ret (E_callM (nc := 6) (np := 2) (ds := [.str op]) (ρ1 := [none, some (rwD op .none 5), some (.str op), some .none, some (.int 5), none] ++ oB14 R W H (.list [one, other]) S O T L A) (o := none :: none :: oB14 R W H (.list [w]) S O T L A) rfl (reck_b_found (one := one) (other := other) ho hw hp R W H S O T L A))))
theorem st_b_found_0_0 {op : Str} (ho : op ∈ pops) {one other : D} {w : D} (hw : hwP w) (hp : f_paired [some (.str op), some one, some other] = some (.tuple [.str "found", w], n3)) : f_Walk_step (none :: oB14 (.list [rwD "load" (.str "a") 3, rwD "load" (.str "b") 4, rwD op .none 5, rwD "return" .none 6]) (.dict []) (nm one other) (.list []) (.list []) (.list []) (.list []) on (.int 0)) = some (.bool true, none :: oB14 (.list [rwD "load" (.str "a") 3, rwD "load" (.str "b") 4, rwD op .none 5, rwD "return" .none 6]) (.dict []) (nm one other) (.list [one]) (.list []) (.list []) (.list [.int 0]) on (.int 1)) := by
  simp only [pops, List.mem_cons, List.not_mem_nil, or_false] at ho; rcases ho with rfl | rfl | rfl | rfl | rfl | rfl | rfl <;> kernel_rfl
theorem st_b_found_0_1 {op : Str} (ho : op ∈ pops) {one other : D} {w : D} (hw : hwP w) (hp : f_paired [some (.str op), some one, some other] = some (.tuple [.str "found", w], n3)) : f_Walk_step (none :: oB14 (.list [rwD "load" (.str "a") 3, rwD "load" (.str "b") 4, rwD op .none 5, rwD "return" .none 6]) (.dict []) (nm one other) (.list [one]) (.list []) (.list []) (.list [.int 0]) on (.int 1)) = some (.bool true, none :: oB14 (.list [rwD "load" (.str "a") 3, rwD "load" (.str "b") 4, rwD op .none 5, rwD "return" .none 6]) (.dict []) (nm one other) (.list [one, other]) (.list []) (.list []) (.list [.int 0, .int 1]) on (.int 2)) := by
  simp only [pops, List.mem_cons, List.not_mem_nil, or_false] at ho; rcases ho with rfl | rfl | rfl | rfl | rfl | rfl | rfl <;> kernel_rfl
theorem st_b_found_0_2 {op : Str} (ho : op ∈ pops) {one other : D} {w : D} (hw : hwP w) (hp : f_paired [some (.str op), some one, some other] = some (.tuple [.str "found", w], n3)) : f_Walk_step (none :: oB14 (.list [rwD "load" (.str "a") 3, rwD "load" (.str "b") 4, rwD op .none 5, rwD "return" .none 6]) (.dict []) (nm one other) (.list [one, other]) (.list []) (.list []) (.list [.int 0, .int 1]) on (.int 2)) = some (.bool true, none :: oB14 (.list [rwD "load" (.str "a") 3, rwD "load" (.str "b") 4, rwD op .none 5, rwD "return" .none 6]) (.dict []) (nm one other) (.list [w]) (.list []) (.list []) (.list [.int 0, .int 1, .int 2]) on (.int 3)) := by
  unfold f_Walk_step m_Walk_step
  refine E_metR (ρ1 := [none, some (rwD op .none 5), some .none] ++ oB14 (.list [rwD "load" (.str "a") 3, rwD "load" (.str "b") 4, rwD op .none 5, rwD "return" .none 6]) (.dict []) (nm one other) (.list [w]) (.list []) (.list []) (.list [.int 0, .int 1, .int 2]) on (.int 3)) ?_
  show mSeq _ _ ([none, none, none] ++ oB14 (.list [rwD "load" (.str "a") 3, rwD "load" (.str "b") 4, rwD op .none 5, rwD "return" .none 6]) (.dict []) (nm one other) (.list [one, other]) (.list []) (.list []) (.list [.int 0, .int 1]) on (.int 2)) = _
  rw [E_seq (ρ1 := [none, none, none] ++ oB14 (.list [rwD "load" (.str "a") 3, rwD "load" (.str "b") 4, rwD op .none 5, rwD "return" .none 6]) (.dict []) (nm one other) (.list [one, other]) (.list []) (.list []) (.list [.int 0, .int 1]) on (.int 2)) (by simp only [pops, List.mem_cons, List.not_mem_nil, or_false] at ho; rcases ho with rfl | rfl | rfl | rfl | rfl | rfl | rfl <;> kernel_rfl), E_seq (ρ1 := [none, some (rwD op .none 5), none] ++ oB14 (.list [rwD "load" (.str "a") 3, rwD "load" (.str "b") 4, rwD op .none 5, rwD "return" .none 6]) (.dict []) (nm one other) (.list [one, other]) (.list []) (.list []) (.list [.int 0, .int 1]) on (.int 2)) (by simp only [pops, List.mem_cons, List.not_mem_nil, or_false] at ho; rcases ho with rfl | rfl | rfl | rfl | rfl | rfl | rfl <;> kernel_rfl), E_seq (ρ1 := [none, some (rwD op .none 5), none] ++ oB14 (.list [rwD "load" (.str "a") 3, rwD "load" (.str "b") 4, rwD op .none 5, rwD "return" .none 6]) (.dict []) (nm one other) (.list [one, other]) (.list []) (.list []) (.list [.int 0, .int 1, .int 2]) on (.int 2)) (by simp only [pops, List.mem_cons, List.not_mem_nil, or_false] at ho; rcases ho with rfl | rfl | rfl | rfl | rfl | rfl | rfl <;> kernel_rfl), E_seq (ρ1 := [none, some (rwD op .none 5), none] ++ oB14 (.list [rwD "load" (.str "a") 3, rwD "load" (.str "b") 4, rwD op .none 5, rwD "return" .none 6]) (.dict []) (nm one other) (.list [one, other]) (.list []) (.list []) (.list [.int 0, .int 1, .int 2]) on (.int 3)) (by simp only [pops, List.mem_cons, List.not_mem_nil, or_false] at ho; rcases ho with rfl | rfl | rfl | rfl | rfl | rfl | rfl <;> kernel_rfl),
    E_seq (ρ1 := [none, some (rwD op .none 5), some .none] ++ oB14 (.list [rwD "load" (.str "a") 3, rwD "load" (.str "b") 4, rwD op .none 5, rwD "return" .none 6]) (.dict []) (nm one other) (.list [w]) (.list []) (.list []) (.list [.int 0, .int 1, .int 2]) on (.int 3)) (E_set (E_callM (nc := 3) (np := 2) (ds := [rwD op .none 5]) (ρ1 := [none, some (rwD op .none 5), none] ++ oB14 (.list [rwD "load" (.str "a") 3, rwD "load" (.str "b") 4, rwD op .none 5, rwD "return" .none 6]) (.dict []) (nm one other) (.list [one, other]) (.list []) (.list []) (.list [.int 0, .int 1, .int 2]) on (.int 3)) (o := none :: none :: oB14 (.list [rwD "load" (.str "a") 3, rwD "load" (.str "b") 4, rwD op .none 5, rwD "return" .none 6]) (.dict []) (nm one other) (.list [w]) (.list []) (.list []) (.list [.int 0, .int 1, .int 2]) on (.int 3)) rfl (done_b_found (one := one) (other := other) ho hw hp ..)))]
  (rcases hw with ⟨i, rfl, _⟩ | ⟨b, rfl⟩) <;> (simp only [pops, List.mem_cons, List.not_mem_nil, or_false] at ho; rcases ho with rfl | rfl | rfl | rfl | rfl | rfl | rfl) <;> kernel_rfl
theorem st_b_found_0_3 {op : Str} (ho : op ∈ pops) {one other : D} {w : D} (hw : hwP w) (hp : f_paired [some (.str op), some one, some other] = some (.tuple [.str "found", w], n3)) : f_Walk_step (none :: oB14 (.list [rwD "load" (.str "a") 3, rwD "load" (.str "b") 4, rwD op .none 5, rwD "return" .none 6]) (.dict []) (nm one other) (.list [w]) (.list []) (.list []) (.list [.int 0, .int 1, .int 2]) on (.int 3)) = some (.bool true, none :: oB14 (.list [rwD "load" (.str "a") 3, rwD "load" (.str "b") 4, rwD op .none 5, rwD "return" .none 6]) (.dict []) (nm one other) (.list []) (.list []) (.list []) (.list [.int 0, .int 1, .int 2, .int 3]) (.tuple [.str "value", w]) (.int 4)) := by
  (rcases hw with ⟨i, rfl, _⟩ | ⟨b, rfl⟩) <;> (simp only [pops, List.mem_cons, List.not_mem_nil, or_false] at ho; rcases ho with rfl | rfl | rfl | rfl | rfl | rfl | rfl) <;> kernel_rfl
theorem run_b_found_0 {op : Str} (ho : op ∈ pops) {one other : D} (h1 : V14 one) (h2 : V14 other) {w : D} (hw : hwP w) (hp : f_paired [some (.str op), some one, some other] = some (.tuple [.str "found", w], n3)) : f_run [some (.list [rwD "load" (.str "a") 3, rwD "load" (.str "b") 4, rwD op .none 5, rwD "return" .none 6]), some (nm one other), some (.int 9)] = some (.tuple [(.tuple [.str "value", w]), .list [], .int 4], n3) := by
  have hi : f_Walk___init__ ((none :: [(.list [rwD "load" (.str "a") 3, rwD "load" (.str "b") 4, rwD op .none 5, rwD "return" .none 6]), nm one other].map some) ++ List.replicate 10 none) = some (.none, [none, none, none] ++ oB14 (.list [rwD "load" (.str "a") 3, rwD "load" (.str "b") 4, rwD op .none 5, rwD "return" .none 6]) (.dict []) (nm one other) (.list []) (.list []) (.list []) (.list []) on (.int 0)) := by
    unfold f_Walk___init__ m_Walk___init__
    refine E_metN (ρ1 := [none, some (.list [rwD "load" (.str "a") 3, rwD "load" (.str "b") 4, rwD op .none 5, rwD "return" .none 6]), some (nm one other)] ++ oB14 (.list [rwD "load" (.str "a") 3, rwD "load" (.str "b") 4, rwD op .none 5, rwD "return" .none 6]) (.dict []) (nm one other) (.list []) (.list []) (.list []) (.list []) on (.int 0)) ?_
    show mSeq _ _ [none, some (.list [rwD "load" (.str "a") 3, rwD "load" (.str "b") 4, rwD op .none 5, rwD "return" .none 6]), some (nm one other), none, none, none, none, none, none, none, none, none, none] = _
    rw [E_seq (ρ1 := [none, some (.list [rwD "load" (.str "a") 3, rwD "load" (.str "b") 4, rwD op .none 5, rwD "return" .none 6]), some (nm one other), none, none, none, none, none, none, none, none, none, none]) (by simp only [pops, List.mem_cons, List.not_mem_nil, or_false] at ho; rcases ho with rfl | rfl | rfl | rfl | rfl | rfl | rfl <;> kernel_rfl), E_seq (ρ1 := [none, some (.list [rwD "load" (.str "a") 3, rwD "load" (.str "b") 4, rwD op .none 5, rwD "return" .none 6]), some (nm one other), none, none, none, none, none, none, none, none, none, none]) (E_drop (E_call (ds := [nm one other]) (es := [nm one other]) (ρ1 := [none, some (.list [rwD "load" (.str "a") 3, rwD "load" (.str "b") 4, rwD op .none 5, rwD "return" .none 6]), some (nm one other), none, none, none, none, none, none, none, none, none, none]) (o := [none]) rfl rfl (names_ok h1 h2)))]
    simp only [pops, List.mem_cons, List.not_mem_nil, or_false] at ho; rcases ho with rfl | rfl | rfl | rfl | rfl | rfl | rfl <;> kernel_rfl
  unfold f_run m_run
  refine E_funR (ρ1 := [some (.list [rwD "load" (.str "a") 3, rwD "load" (.str "b") 4, rwD op .none 5, rwD "return" .none 6]), some (nm one other), some (.int 9), none]) (E_make (ρ2 := [some (.list [rwD "load" (.str "a") 3, rwD "load" (.str "b") 4, rwD op .none 5, rwD "return" .none 6]), some (nm one other), some (.int 9), none] ++ oB14 (.list [rwD "load" (.str "a") 3, rwD "load" (.str "b") 4, rwD op .none 5, rwD "return" .none 6]) (.dict []) (nm one other) (.list []) (.list []) (.list []) (.list [.int 0, .int 1, .int 2, .int 3]) (.tuple [.str "value", w]) (.int 4)) (ds := [(.list [rwD "load" (.str "a") 3, rwD "load" (.str "b") 4, rwD op .none 5, rwD "return" .none 6]), nm one other]) (ρ1 := [some (.list [rwD "load" (.str "a") 3, rwD "load" (.str "b") 4, rwD op .none 5, rwD "return" .none 6]), some (nm one other), some (.int 9), none]) rfl hi ?_)
  show mSeq _ _ ([some (.list [rwD "load" (.str "a") 3, rwD "load" (.str "b") 4, rwD op .none 5, rwD "return" .none 6]), some (nm one other), some (.int 9), none] ++ oB14 (.list [rwD "load" (.str "a") 3, rwD "load" (.str "b") 4, rwD op .none 5, rwD "return" .none 6]) (.dict []) (nm one other) (.list []) (.list []) (.list []) (.list []) on (.int 0)) = _
  rw [E_seq (ρ1 := [some (.list [rwD "load" (.str "a") 3, rwD "load" (.str "b") 4, rwD op .none 5, rwD "return" .none 6]), some (nm one other), some (.int 9), none] ++ oB14 (.list [rwD "load" (.str "a") 3, rwD "load" (.str "b") 4, rwD op .none 5, rwD "return" .none 6]) (.dict []) (nm one other) (.list []) (.list []) (.list []) (.list []) on (.int 0)) (by kernel_rfl)]
  have hw : whN cnd mSkip 5 ([some (.list [rwD "load" (.str "a") 3, rwD "load" (.str "b") 4, rwD op .none 5, rwD "return" .none 6]), some (nm one other), some (.int 9), none] ++ oB14 (.list [rwD "load" (.str "a") 3, rwD "load" (.str "b") 4, rwD op .none 5, rwD "return" .none 6]) (.dict []) (nm one other) (.list []) (.list []) (.list []) (.list []) on (.int 0)) = some (.nx, [some (.list [rwD "load" (.str "a") 3, rwD "load" (.str "b") 4, rwD op .none 5, rwD "return" .none 6]), some (nm one other), some (.int 9), none] ++ oB14 (.list [rwD "load" (.str "a") 3, rwD "load" (.str "b") 4, rwD op .none 5, rwD "return" .none 6]) (.dict []) (nm one other) (.list []) (.list []) (.list []) (.list [.int 0, .int 1, .int 2, .int 3]) (.tuple [.str "value", w]) (.int 4)) := by
    refine (turn (by kernel_rfl) (st_b_found_0_0 ho hw hp)).trans ?_
    refine (turn (by kernel_rfl) (st_b_found_0_1 ho hw hp)).trans ?_
    refine (turn (by kernel_rfl) (st_b_found_0_2 ho hw hp)).trans ?_
    refine (turn (by kernel_rfl) (st_b_found_0_3 ho hw hp)).trans ?_
    exact halt (by kernel_rfl) (by (rcases hw with ⟨i, rfl, _⟩ | ⟨b, rfl⟩) <;> (simp only [pops, List.mem_cons, List.not_mem_nil, or_false] at ho; rcases ho with rfl | rfl | rfl | rfl | rfl | rfl | rfl) <;> kernel_rfl)
  rw [E_seq (ρ1 := [some (.list [rwD "load" (.str "a") 3, rwD "load" (.str "b") 4, rwD op .none 5, rwD "return" .none 6]), some (nm one other), some (.int 9), none] ++ oB14 (.list [rwD "load" (.str "a") 3, rwD "load" (.str "b") 4, rwD op .none 5, rwD "return" .none 6]) (.dict []) (nm one other) (.list []) (.list []) (.list []) (.list [.int 0, .int 1, .int 2, .int 3]) (.tuple [.str "value", w]) (.int 4)) (E_while hw)]
  kernel_rfl
theorem st_b_found_1_0 {op : Str} (ho : op ∈ pops) {one other : D} {w : D} (hw : hwP w) (hp : f_paired [some (.str op), some one, some other] = some (.tuple [.str "found", w], n3)) : f_Walk_step (none :: oB14 (.list [rwD "try" (.int 1) 1, rwD "load" (.str "a") 3, rwD "load" (.str "b") 4, rwD op .none 5, rwD "endtry" .none 1, rwD "label" (.int 1) 1, rwD "return" .none 6]) (.dict [(.int 1, .int 5)]) (nm one other) (.list []) (.list [.tuple [.int 1, .int 0]]) (.list []) (.list []) on (.int 1)) = some (.bool true, none :: oB14 (.list [rwD "try" (.int 1) 1, rwD "load" (.str "a") 3, rwD "load" (.str "b") 4, rwD op .none 5, rwD "endtry" .none 1, rwD "label" (.int 1) 1, rwD "return" .none 6]) (.dict [(.int 1, .int 5)]) (nm one other) (.list [one]) (.list [.tuple [.int 1, .int 0]]) (.list []) (.list [.int 1]) on (.int 2)) := by
  simp only [pops, List.mem_cons, List.not_mem_nil, or_false] at ho; rcases ho with rfl | rfl | rfl | rfl | rfl | rfl | rfl <;> kernel_rfl
theorem st_b_found_1_1 {op : Str} (ho : op ∈ pops) {one other : D} {w : D} (hw : hwP w) (hp : f_paired [some (.str op), some one, some other] = some (.tuple [.str "found", w], n3)) : f_Walk_step (none :: oB14 (.list [rwD "try" (.int 1) 1, rwD "load" (.str "a") 3, rwD "load" (.str "b") 4, rwD op .none 5, rwD "endtry" .none 1, rwD "label" (.int 1) 1, rwD "return" .none 6]) (.dict [(.int 1, .int 5)]) (nm one other) (.list [one]) (.list [.tuple [.int 1, .int 0]]) (.list []) (.list [.int 1]) on (.int 2)) = some (.bool true, none :: oB14 (.list [rwD "try" (.int 1) 1, rwD "load" (.str "a") 3, rwD "load" (.str "b") 4, rwD op .none 5, rwD "endtry" .none 1, rwD "label" (.int 1) 1, rwD "return" .none 6]) (.dict [(.int 1, .int 5)]) (nm one other) (.list [one, other]) (.list [.tuple [.int 1, .int 0]]) (.list []) (.list [.int 1, .int 2]) on (.int 3)) := by
  simp only [pops, List.mem_cons, List.not_mem_nil, or_false] at ho; rcases ho with rfl | rfl | rfl | rfl | rfl | rfl | rfl <;> kernel_rfl
theorem st_b_found_1_2 {op : Str} (ho : op ∈ pops) {one other : D} {w : D} (hw : hwP w) (hp : f_paired [some (.str op), some one, some other] = some (.tuple [.str "found", w], n3)) : f_Walk_step (none :: oB14 (.list [rwD "try" (.int 1) 1, rwD "load" (.str "a") 3, rwD "load" (.str "b") 4, rwD op .none 5, rwD "endtry" .none 1, rwD "label" (.int 1) 1, rwD "return" .none 6]) (.dict [(.int 1, .int 5)]) (nm one other) (.list [one, other]) (.list [.tuple [.int 1, .int 0]]) (.list []) (.list [.int 1, .int 2]) on (.int 3)) = some (.bool true, none :: oB14 (.list [rwD "try" (.int 1) 1, rwD "load" (.str "a") 3, rwD "load" (.str "b") 4, rwD op .none 5, rwD "endtry" .none 1, rwD "label" (.int 1) 1, rwD "return" .none 6]) (.dict [(.int 1, .int 5)]) (nm one other) (.list [w]) (.list []) (.list []) (.list [.int 1, .int 2, .int 3]) on (.int 6)) := by
  unfold f_Walk_step m_Walk_step
  refine E_metR (ρ1 := [none, some (rwD op .none 5), some .none] ++ oB14 (.list [rwD "try" (.int 1) 1, rwD "load" (.str "a") 3, rwD "load" (.str "b") 4, rwD op .none 5, rwD "endtry" .none 1, rwD "label" (.int 1) 1, rwD "return" .none 6]) (.dict [(.int 1, .int 5)]) (nm one other) (.list [w]) (.list []) (.list []) (.list [.int 1, .int 2, .int 3]) on (.int 6)) ?_
  show mSeq _ _ ([none, none, none] ++ oB14 (.list [rwD "try" (.int 1) 1, rwD "load" (.str "a") 3, rwD "load" (.str "b") 4, rwD op .none 5, rwD "endtry" .none 1, rwD "label" (.int 1) 1, rwD "return" .none 6]) (.dict [(.int 1, .int 5)]) (nm one other) (.list [one, other]) (.list [.tuple [.int 1, .int 0]]) (.list []) (.list [.int 1, .int 2]) on (.int 3)) = _
  rw [E_seq (ρ1 := [none, none, none] ++ oB14 (.list [rwD "try" (.int 1) 1, rwD "load" (.str "a") 3, rwD "load" (.str "b") 4, rwD op .none 5, rwD "endtry" .none 1, rwD "label" (.int 1) 1, rwD "return" .none 6]) (.dict [(.int 1, .int 5)]) (nm one other) (.list [one, other]) (.list [.tuple [.int 1, .int 0]]) (.list []) (.list [.int 1, .int 2]) on (.int 3)) (by simp only [pops, List.mem_cons, List.not_mem_nil, or_false] at ho; rcases ho with rfl | rfl | rfl | rfl | rfl | rfl | rfl <;> kernel_rfl), E_seq (ρ1 := [none, some (rwD op .none 5), none] ++ oB14 (.list [rwD "try" (.int 1) 1, rwD "load" (.str "a") 3, rwD "load" (.str "b") 4, rwD op .none 5, rwD "endtry" .none 1, rwD "label" (.int 1) 1, rwD "return" .none 6]) (.dict [(.int 1, .int 5)]) (nm one other) (.list [one, other]) (.list [.tuple [.int 1, .int 0]]) (.list []) (.list [.int 1, .int 2]) on (.int 3)) (by simp only [pops, List.mem_cons, List.not_mem_nil, or_false] at ho; rcases ho with rfl | rfl | rfl | rfl | rfl | rfl | rfl <;> kernel_rfl), E_seq (ρ1 := [none, some (rwD op .none 5), none] ++ oB14 (.list [rwD "try" (.int 1) 1, rwD "load" (.str "a") 3, rwD "load" (.str "b") 4, rwD op .none 5, rwD "endtry" .none 1, rwD "label" (.int 1) 1, rwD "return" .none 6]) (.dict [(.int 1, .int 5)]) (nm one other) (.list [one, other]) (.list [.tuple [.int 1, .int 0]]) (.list []) (.list [.int 1, .int 2, .int 3]) on (.int 3)) (by simp only [pops, List.mem_cons, List.not_mem_nil, or_false] at ho; rcases ho with rfl | rfl | rfl | rfl | rfl | rfl | rfl <;> kernel_rfl), E_seq (ρ1 := [none, some (rwD op .none 5), none] ++ oB14 (.list [rwD "try" (.int 1) 1, rwD "load" (.str "a") 3, rwD "load" (.str "b") 4, rwD op .none 5, rwD "endtry" .none 1, rwD "label" (.int 1) 1, rwD "return" .none 6]) (.dict [(.int 1, .int 5)]) (nm one other) (.list [one, other]) (.list [.tuple [.int 1, .int 0]]) (.list []) (.list [.int 1, .int 2, .int 3]) on (.int 4)) (by simp only [pops, List.mem_cons, List.not_mem_nil, or_false] at ho; rcases ho with rfl | rfl | rfl | rfl | rfl | rfl | rfl <;> kernel_rfl),
    E_seq (ρ1 := [none, some (rwD op .none 5), some .none] ++ oB14 (.list [rwD "try" (.int 1) 1, rwD "load" (.str "a") 3, rwD "load" (.str "b") 4, rwD op .none 5, rwD "endtry" .none 1, rwD "label" (.int 1) 1, rwD "return" .none 6]) (.dict [(.int 1, .int 5)]) (nm one other) (.list [w]) (.list [.tuple [.int 1, .int 0]]) (.list []) (.list [.int 1, .int 2, .int 3]) on (.int 4)) (E_set (E_callM (nc := 3) (np := 2) (ds := [rwD op .none 5]) (ρ1 := [none, some (rwD op .none 5), none] ++ oB14 (.list [rwD "try" (.int 1) 1, rwD "load" (.str "a") 3, rwD "load" (.str "b") 4, rwD op .none 5, rwD "endtry" .none 1, rwD "label" (.int 1) 1, rwD "return" .none 6]) (.dict [(.int 1, .int 5)]) (nm one other) (.list [one, other]) (.list [.tuple [.int 1, .int 0]]) (.list []) (.list [.int 1, .int 2, .int 3]) on (.int 4)) (o := none :: none :: oB14 (.list [rwD "try" (.int 1) 1, rwD "load" (.str "a") 3, rwD "load" (.str "b") 4, rwD op .none 5, rwD "endtry" .none 1, rwD "label" (.int 1) 1, rwD "return" .none 6]) (.dict [(.int 1, .int 5)]) (nm one other) (.list [w]) (.list [.tuple [.int 1, .int 0]]) (.list []) (.list [.int 1, .int 2, .int 3]) on (.int 4)) rfl (done_b_found (one := one) (other := other) ho hw hp ..)))]
  (rcases hw with ⟨i, rfl, _⟩ | ⟨b, rfl⟩) <;> (simp only [pops, List.mem_cons, List.not_mem_nil, or_false] at ho; rcases ho with rfl | rfl | rfl | rfl | rfl | rfl | rfl) <;> kernel_rfl
theorem st_b_found_1_3 {op : Str} (ho : op ∈ pops) {one other : D} {w : D} (hw : hwP w) (hp : f_paired [some (.str op), some one, some other] = some (.tuple [.str "found", w], n3)) : f_Walk_step (none :: oB14 (.list [rwD "try" (.int 1) 1, rwD "load" (.str "a") 3, rwD "load" (.str "b") 4, rwD op .none 5, rwD "endtry" .none 1, rwD "label" (.int 1) 1, rwD "return" .none 6]) (.dict [(.int 1, .int 5)]) (nm one other) (.list [w]) (.list []) (.list []) (.list [.int 1, .int 2, .int 3]) on (.int 6)) = some (.bool true, none :: oB14 (.list [rwD "try" (.int 1) 1, rwD "load" (.str "a") 3, rwD "load" (.str "b") 4, rwD op .none 5, rwD "endtry" .none 1, rwD "label" (.int 1) 1, rwD "return" .none 6]) (.dict [(.int 1, .int 5)]) (nm one other) (.list []) (.list []) (.list []) (.list [.int 1, .int 2, .int 3, .int 6]) (.tuple [.str "value", w]) (.int 7)) := by
  (rcases hw with ⟨i, rfl, _⟩ | ⟨b, rfl⟩) <;> (simp only [pops, List.mem_cons, List.not_mem_nil, or_false] at ho; rcases ho with rfl | rfl | rfl | rfl | rfl | rfl | rfl) <;> kernel_rfl
theorem run_b_found_1 {op : Str} (ho : op ∈ pops) {one other : D} (h1 : V14 one) (h2 : V14 other) {w : D} (hw : hwP w) (hp : f_paired [some (.str op), some one, some other] = some (.tuple [.str "found", w], n3)) : f_run [some (.list [rwD "try" (.int 1) 1, rwD "load" (.str "a") 3, rwD "load" (.str "b") 4, rwD op .none 5, rwD "endtry" .none 1, rwD "label" (.int 1) 1, rwD "return" .none 6]), some (nm one other), some (.int 9)] = some (.tuple [(.tuple [.str "value", w]), .list [], .int 4], n3) := by
  have hi : f_Walk___init__ ((none :: [(.list [rwD "try" (.int 1) 1, rwD "load" (.str "a") 3, rwD "load" (.str "b") 4, rwD op .none 5, rwD "endtry" .none 1, rwD "label" (.int 1) 1, rwD "return" .none 6]), nm one other].map some) ++ List.replicate 10 none) = some (.none, [none, none, none] ++ oB14 (.list [rwD "try" (.int 1) 1, rwD "load" (.str "a") 3, rwD "load" (.str "b") 4, rwD op .none 5, rwD "endtry" .none 1, rwD "label" (.int 1) 1, rwD "return" .none 6]) (.dict [(.int 1, .int 5)]) (nm one other) (.list []) (.list [.tuple [.int 1, .int 0]]) (.list []) (.list []) on (.int 1)) := by
    unfold f_Walk___init__ m_Walk___init__
    refine E_metN (ρ1 := [none, some (.list [rwD "try" (.int 1) 1, rwD "load" (.str "a") 3, rwD "load" (.str "b") 4, rwD op .none 5, rwD "endtry" .none 1, rwD "label" (.int 1) 1, rwD "return" .none 6]), some (nm one other)] ++ oB14 (.list [rwD "try" (.int 1) 1, rwD "load" (.str "a") 3, rwD "load" (.str "b") 4, rwD op .none 5, rwD "endtry" .none 1, rwD "label" (.int 1) 1, rwD "return" .none 6]) (.dict [(.int 1, .int 5)]) (nm one other) (.list []) (.list [.tuple [.int 1, .int 0]]) (.list []) (.list []) on (.int 1)) ?_
    show mSeq _ _ [none, some (.list [rwD "try" (.int 1) 1, rwD "load" (.str "a") 3, rwD "load" (.str "b") 4, rwD op .none 5, rwD "endtry" .none 1, rwD "label" (.int 1) 1, rwD "return" .none 6]), some (nm one other), none, none, none, none, none, none, none, none, none, none] = _
    rw [E_seq (ρ1 := [none, some (.list [rwD "try" (.int 1) 1, rwD "load" (.str "a") 3, rwD "load" (.str "b") 4, rwD op .none 5, rwD "endtry" .none 1, rwD "label" (.int 1) 1, rwD "return" .none 6]), some (nm one other), none, none, none, none, none, none, none, none, none, none]) (by simp only [pops, List.mem_cons, List.not_mem_nil, or_false] at ho; rcases ho with rfl | rfl | rfl | rfl | rfl | rfl | rfl <;> kernel_rfl), E_seq (ρ1 := [none, some (.list [rwD "try" (.int 1) 1, rwD "load" (.str "a") 3, rwD "load" (.str "b") 4, rwD op .none 5, rwD "endtry" .none 1, rwD "label" (.int 1) 1, rwD "return" .none 6]), some (nm one other), none, none, none, none, none, none, none, none, none, none]) (E_drop (E_call (ds := [nm one other]) (es := [nm one other]) (ρ1 := [none, some (.list [rwD "try" (.int 1) 1, rwD "load" (.str "a") 3, rwD "load" (.str "b") 4, rwD op .none 5, rwD "endtry" .none 1, rwD "label" (.int 1) 1, rwD "return" .none 6]), some (nm one other), none, none, none, none, none, none, none, none, none, none]) (o := [none]) rfl rfl (names_ok h1 h2)))]
    simp only [pops, List.mem_cons, List.not_mem_nil, or_false] at ho; rcases ho with rfl | rfl | rfl | rfl | rfl | rfl | rfl <;> kernel_rfl
  unfold f_run m_run
  refine E_funR (ρ1 := [some (.list [rwD "try" (.int 1) 1, rwD "load" (.str "a") 3, rwD "load" (.str "b") 4, rwD op .none 5, rwD "endtry" .none 1, rwD "label" (.int 1) 1, rwD "return" .none 6]), some (nm one other), some (.int 9), none]) (E_make (ρ2 := [some (.list [rwD "try" (.int 1) 1, rwD "load" (.str "a") 3, rwD "load" (.str "b") 4, rwD op .none 5, rwD "endtry" .none 1, rwD "label" (.int 1) 1, rwD "return" .none 6]), some (nm one other), some (.int 9), none] ++ oB14 (.list [rwD "try" (.int 1) 1, rwD "load" (.str "a") 3, rwD "load" (.str "b") 4, rwD op .none 5, rwD "endtry" .none 1, rwD "label" (.int 1) 1, rwD "return" .none 6]) (.dict [(.int 1, .int 5)]) (nm one other) (.list []) (.list []) (.list []) (.list [.int 1, .int 2, .int 3, .int 6]) (.tuple [.str "value", w]) (.int 7)) (ds := [(.list [rwD "try" (.int 1) 1, rwD "load" (.str "a") 3, rwD "load" (.str "b") 4, rwD op .none 5, rwD "endtry" .none 1, rwD "label" (.int 1) 1, rwD "return" .none 6]), nm one other]) (ρ1 := [some (.list [rwD "try" (.int 1) 1, rwD "load" (.str "a") 3, rwD "load" (.str "b") 4, rwD op .none 5, rwD "endtry" .none 1, rwD "label" (.int 1) 1, rwD "return" .none 6]), some (nm one other), some (.int 9), none]) rfl hi ?_)
  show mSeq _ _ ([some (.list [rwD "try" (.int 1) 1, rwD "load" (.str "a") 3, rwD "load" (.str "b") 4, rwD op .none 5, rwD "endtry" .none 1, rwD "label" (.int 1) 1, rwD "return" .none 6]), some (nm one other), some (.int 9), none] ++ oB14 (.list [rwD "try" (.int 1) 1, rwD "load" (.str "a") 3, rwD "load" (.str "b") 4, rwD op .none 5, rwD "endtry" .none 1, rwD "label" (.int 1) 1, rwD "return" .none 6]) (.dict [(.int 1, .int 5)]) (nm one other) (.list []) (.list [.tuple [.int 1, .int 0]]) (.list []) (.list []) on (.int 1)) = _
  rw [E_seq (ρ1 := [some (.list [rwD "try" (.int 1) 1, rwD "load" (.str "a") 3, rwD "load" (.str "b") 4, rwD op .none 5, rwD "endtry" .none 1, rwD "label" (.int 1) 1, rwD "return" .none 6]), some (nm one other), some (.int 9), none] ++ oB14 (.list [rwD "try" (.int 1) 1, rwD "load" (.str "a") 3, rwD "load" (.str "b") 4, rwD op .none 5, rwD "endtry" .none 1, rwD "label" (.int 1) 1, rwD "return" .none 6]) (.dict [(.int 1, .int 5)]) (nm one other) (.list []) (.list [.tuple [.int 1, .int 0]]) (.list []) (.list []) on (.int 1)) (by kernel_rfl)]
  have hw : whN cnd mSkip 5 ([some (.list [rwD "try" (.int 1) 1, rwD "load" (.str "a") 3, rwD "load" (.str "b") 4, rwD op .none 5, rwD "endtry" .none 1, rwD "label" (.int 1) 1, rwD "return" .none 6]), some (nm one other), some (.int 9), none] ++ oB14 (.list [rwD "try" (.int 1) 1, rwD "load" (.str "a") 3, rwD "load" (.str "b") 4, rwD op .none 5, rwD "endtry" .none 1, rwD "label" (.int 1) 1, rwD "return" .none 6]) (.dict [(.int 1, .int 5)]) (nm one other) (.list []) (.list [.tuple [.int 1, .int 0]]) (.list []) (.list []) on (.int 1)) = some (.nx, [some (.list [rwD "try" (.int 1) 1, rwD "load" (.str "a") 3, rwD "load" (.str "b") 4, rwD op .none 5, rwD "endtry" .none 1, rwD "label" (.int 1) 1, rwD "return" .none 6]), some (nm one other), some (.int 9), none] ++ oB14 (.list [rwD "try" (.int 1) 1, rwD "load" (.str "a") 3, rwD "load" (.str "b") 4, rwD op .none 5, rwD "endtry" .none 1, rwD "label" (.int 1) 1, rwD "return" .none 6]) (.dict [(.int 1, .int 5)]) (nm one other) (.list []) (.list []) (.list []) (.list [.int 1, .int 2, .int 3, .int 6]) (.tuple [.str "value", w]) (.int 7)) := by
    refine (turn (by kernel_rfl) (st_b_found_1_0 ho hw hp)).trans ?_
    refine (turn (by kernel_rfl) (st_b_found_1_1 ho hw hp)).trans ?_
    refine (turn (by kernel_rfl) (st_b_found_1_2 ho hw hp)).trans ?_
    refine (turn (by kernel_rfl) (st_b_found_1_3 ho hw hp)).trans ?_
    exact halt (by kernel_rfl) (by (rcases hw with ⟨i, rfl, _⟩ | ⟨b, rfl⟩) <;> (simp only [pops, List.mem_cons, List.not_mem_nil, or_false] at ho; rcases ho with rfl | rfl | rfl | rfl | rfl | rfl | rfl) <;> kernel_rfl)
  rw [E_seq (ρ1 := [some (.list [rwD "try" (.int 1) 1, rwD "load" (.str "a") 3, rwD "load" (.str "b") 4, rwD op .none 5, rwD "endtry" .none 1, rwD "label" (.int 1) 1, rwD "return" .none 6]), some (nm one other), some (.int 9), none] ++ oB14 (.list [rwD "try" (.int 1) 1, rwD "load" (.str "a") 3, rwD "load" (.str "b") 4, rwD op .none 5, rwD "endtry" .none 1, rwD "label" (.int 1) 1, rwD "return" .none 6]) (.dict [(.int 1, .int 5)]) (nm one other) (.list []) (.list []) (.list []) (.list [.int 1, .int 2, .int 3, .int 6]) (.tuple [.str "value", w]) (.int 7)) (E_while hw)]
  kernel_rfl
theorem reck_b_fault {op : Str} (ho : op ∈ pops) {one other : D} {z : Str} (hz : hzP z) (hp : f_paired [some (.str op), some one, some other] = some (.tuple [.str "fault", (.str z)], n3)) (R W H S O T L A : D) : f_Walk_reckon (none :: some (.str op) :: oB14 R W H (.list [one, other]) S O T L A) = some ((.str z), none :: none :: oB14 R W H (.list []) S O T L A) := by
  unfold f_Walk_reckon m_Walk_reckon
  refine E_metR (ρ1 := [none, some (.str op), some other, some (.str "fault"), some (.str z)] ++ oB14 R W H (.list []) S O T L A) ?_
  show mSeq _ _ ([none, some (.str op), none, none, none] ++ oB14 R W H (.list [one, other]) S O T L A) = _
  rw [E_seq (ρ1 := [none, some (.str op), some other, some (.str "fault"), some (.str z)] ++ oB14 R W H (.list []) S O T L A) ((E_iteT (ρ1 := [none, some (.str op), none, none, none] ++ oB14 R W H (.list [one, other]) S O T L A) (by simp only [pops, List.mem_cons, List.not_mem_nil, or_false] at ho; rcases ho with rfl | rfl | rfl | rfl | rfl | rfl | rfl <;> kernel_rfl)).trans ((E_seq (ρ1 := [none, some (.str op), some other, none, none] ++ oB14 R W H (.list [one]) S O T L A) (by kernel_rfl)).trans (E_asg (d := .tuple [.str "fault", (.str z)]) (ρ1 := [none, some (.str op), some other, none, none] ++ oB14 R W H (.list []) S O T L A) (E_call (ds := [.str op, one, other]) (es := [.str op, one, other]) (ρ1 := [none, some (.str op), some other, none, none] ++ oB14 R W H (.list []) S O T L A) (o := n3) (by kernel_rfl) rfl hp) (by kernel_rfl))))]
  kernel_rfl
theorem done_b_fault {op : Str} (ho : op ∈ pops) {one other : D} {z : Str} (hz : hzP z) (hp : f_paired [some (.str op), some one, some other] = some (.tuple [.str "fault", (.str z)], n3)) (R W H S O T L A : D) : f_Walk_done (none :: some (rwD op .none 5) :: oB14 R W H (.list [one, other]) S O T L A) = some ((.str z), none :: none :: oB14 R W H (.list []) S O T L A) := by
  unfold f_Walk_done m_Walk_done
  refine E_metR (ρ1 := [none, some (rwD op .none 5), some (.str op), some .none, some (.int 5), none] ++ oB14 R W H (.list []) S O T L A) ?_
  show mSeq _ _ ([none, some (rwD op .none 5), none, none, none, none] ++ oB14 R W H (.list [one, other]) S O T L A) = _
  rw [E_seq (ρ1 := [none, some (rwD op .none 5), some (.str op), some .none, some (.int 5), none] ++ oB14 R W H (.list [one, other]) S O T L A) (by kernel_rfl)]
  exact E_seqR ((E_iteT (ρ1 := [none, some (rwD op .none 5), some (.str op), some .none, some (.int 5), none] ++ oB14 R W H (.list [one, other]) S O T L A) (by simp only [pops, List.mem_cons, List.not_mem_nil, or_false] at ho; rcases ho with rfl | rfl | rfl | rfl | rfl | rfl | rfl <;> kernel_rfl)).trans (E_ret (E_callM (nc := 6) (np := 2) (ds := [.str op]) (ρ1 := [none, some (rwD op .none 5), some (.str op), some .none, some (.int 5), none] ++ oB14 R W H (.list [one, other]) S O T L A) (o := none :: none :: oB14 R W H (.list []) S O T L A) rfl (reck_b_fault (one := one) (other := other) ho hz hp R W H S O T L A))))
theorem st_b_fault_0_0 {op : Str} (ho : op ∈ pops) {one other : D} {z : Str} (hz : hzP z) (hp : f_paired [some (.str op), some one, some other] = some (.tuple [.str "fault", (.str z)], n3)) : f_Walk_step (none :: oB14 (.list [rwD "load" (.str "a") 3, rwD "load" (.str "b") 4, rwD op .none 5, rwD "return" .none 6]) (.dict []) (nm one other) (.list []) (.list []) (.list []) (.list []) on (.int 0)) = some (.bool true, none :: oB14 (.list [rwD "load" (.str "a") 3, rwD "load" (.str "b") 4, rwD op .none 5, rwD "return" .none 6]) (.dict []) (nm one other) (.list [one]) (.list []) (.list []) (.list [.int 0]) on (.int 1)) := by
  simp only [pops, List.mem_cons, List.not_mem_nil, or_false] at ho; rcases ho with rfl | rfl | rfl | rfl | rfl | rfl | rfl <;> kernel_rfl
theorem st_b_fault_0_1 {op : Str} (ho : op ∈ pops) {one other : D} {z : Str} (hz : hzP z) (hp : f_paired [some (.str op), some one, some other] = some (.tuple [.str "fault", (.str z)], n3)) : f_Walk_step (none :: oB14 (.list [rwD "load" (.str "a") 3, rwD "load" (.str "b") 4, rwD op .none 5, rwD "return" .none 6]) (.dict []) (nm one other) (.list [one]) (.list []) (.list []) (.list [.int 0]) on (.int 1)) = some (.bool true, none :: oB14 (.list [rwD "load" (.str "a") 3, rwD "load" (.str "b") 4, rwD op .none 5, rwD "return" .none 6]) (.dict []) (nm one other) (.list [one, other]) (.list []) (.list []) (.list [.int 0, .int 1]) on (.int 2)) := by
  simp only [pops, List.mem_cons, List.not_mem_nil, or_false] at ho; rcases ho with rfl | rfl | rfl | rfl | rfl | rfl | rfl <;> kernel_rfl
theorem st_b_fault_0_2 {op : Str} (ho : op ∈ pops) {one other : D} {z : Str} (hz : hzP z) (hp : f_paired [some (.str op), some one, some other] = some (.tuple [.str "fault", (.str z)], n3)) : f_Walk_step (none :: oB14 (.list [rwD "load" (.str "a") 3, rwD "load" (.str "b") 4, rwD op .none 5, rwD "return" .none 6]) (.dict []) (nm one other) (.list [one, other]) (.list []) (.list []) (.list [.int 0, .int 1]) on (.int 2)) = some (.bool true, none :: oB14 (.list [rwD "load" (.str "a") 3, rwD "load" (.str "b") 4, rwD op .none 5, rwD "return" .none 6]) (.dict []) (nm one other) (.list []) (.list []) (.list []) (.list [.int 0, .int 1, .int 2]) (.tuple [.str "fault", (.str z), .int 5]) (.int 3)) := by
  unfold f_Walk_step m_Walk_step
  refine E_metR (ρ1 := [none, some (rwD op .none 5), some (.str z)] ++ oB14 (.list [rwD "load" (.str "a") 3, rwD "load" (.str "b") 4, rwD op .none 5, rwD "return" .none 6]) (.dict []) (nm one other) (.list []) (.list []) (.list []) (.list [.int 0, .int 1, .int 2]) (.tuple [.str "fault", (.str z), .int 5]) (.int 3)) ?_
  show mSeq _ _ ([none, none, none] ++ oB14 (.list [rwD "load" (.str "a") 3, rwD "load" (.str "b") 4, rwD op .none 5, rwD "return" .none 6]) (.dict []) (nm one other) (.list [one, other]) (.list []) (.list []) (.list [.int 0, .int 1]) on (.int 2)) = _
  rw [E_seq (ρ1 := [none, none, none] ++ oB14 (.list [rwD "load" (.str "a") 3, rwD "load" (.str "b") 4, rwD op .none 5, rwD "return" .none 6]) (.dict []) (nm one other) (.list [one, other]) (.list []) (.list []) (.list [.int 0, .int 1]) on (.int 2)) (by simp only [pops, List.mem_cons, List.not_mem_nil, or_false] at ho; rcases ho with rfl | rfl | rfl | rfl | rfl | rfl | rfl <;> kernel_rfl), E_seq (ρ1 := [none, some (rwD op .none 5), none] ++ oB14 (.list [rwD "load" (.str "a") 3, rwD "load" (.str "b") 4, rwD op .none 5, rwD "return" .none 6]) (.dict []) (nm one other) (.list [one, other]) (.list []) (.list []) (.list [.int 0, .int 1]) on (.int 2)) (by simp only [pops, List.mem_cons, List.not_mem_nil, or_false] at ho; rcases ho with rfl | rfl | rfl | rfl | rfl | rfl | rfl <;> kernel_rfl), E_seq (ρ1 := [none, some (rwD op .none 5), none] ++ oB14 (.list [rwD "load" (.str "a") 3, rwD "load" (.str "b") 4, rwD op .none 5, rwD "return" .none 6]) (.dict []) (nm one other) (.list [one, other]) (.list []) (.list []) (.list [.int 0, .int 1, .int 2]) on (.int 2)) (by simp only [pops, List.mem_cons, List.not_mem_nil, or_false] at ho; rcases ho with rfl | rfl | rfl | rfl | rfl | rfl | rfl <;> kernel_rfl), E_seq (ρ1 := [none, some (rwD op .none 5), none] ++ oB14 (.list [rwD "load" (.str "a") 3, rwD "load" (.str "b") 4, rwD op .none 5, rwD "return" .none 6]) (.dict []) (nm one other) (.list [one, other]) (.list []) (.list []) (.list [.int 0, .int 1, .int 2]) on (.int 3)) (by simp only [pops, List.mem_cons, List.not_mem_nil, or_false] at ho; rcases ho with rfl | rfl | rfl | rfl | rfl | rfl | rfl <;> kernel_rfl),
    E_seq (ρ1 := [none, some (rwD op .none 5), some (.str z)] ++ oB14 (.list [rwD "load" (.str "a") 3, rwD "load" (.str "b") 4, rwD op .none 5, rwD "return" .none 6]) (.dict []) (nm one other) (.list []) (.list []) (.list []) (.list [.int 0, .int 1, .int 2]) on (.int 3)) (E_set (E_callM (nc := 3) (np := 2) (ds := [rwD op .none 5]) (ρ1 := [none, some (rwD op .none 5), none] ++ oB14 (.list [rwD "load" (.str "a") 3, rwD "load" (.str "b") 4, rwD op .none 5, rwD "return" .none 6]) (.dict []) (nm one other) (.list [one, other]) (.list []) (.list []) (.list [.int 0, .int 1, .int 2]) on (.int 3)) (o := none :: none :: oB14 (.list [rwD "load" (.str "a") 3, rwD "load" (.str "b") 4, rwD op .none 5, rwD "return" .none 6]) (.dict []) (nm one other) (.list []) (.list []) (.list []) (.list [.int 0, .int 1, .int 2]) on (.int 3)) rfl (done_b_fault (one := one) (other := other) ho hz hp ..)))]
  (rcases hz with rfl | rfl | rfl) <;> (simp only [pops, List.mem_cons, List.not_mem_nil, or_false] at ho; rcases ho with rfl | rfl | rfl | rfl | rfl | rfl | rfl) <;> kernel_rfl
theorem run_b_fault_0 {op : Str} (ho : op ∈ pops) {one other : D} (h1 : V14 one) (h2 : V14 other) {z : Str} (hz : hzP z) (hp : f_paired [some (.str op), some one, some other] = some (.tuple [.str "fault", (.str z)], n3)) : f_run [some (.list [rwD "load" (.str "a") 3, rwD "load" (.str "b") 4, rwD op .none 5, rwD "return" .none 6]), some (nm one other), some (.int 9)] = some (.tuple [(.tuple [.str "fault", (.str z), .int 5]), .list [], .int 3], n3) := by
  have hi : f_Walk___init__ ((none :: [(.list [rwD "load" (.str "a") 3, rwD "load" (.str "b") 4, rwD op .none 5, rwD "return" .none 6]), nm one other].map some) ++ List.replicate 10 none) = some (.none, [none, none, none] ++ oB14 (.list [rwD "load" (.str "a") 3, rwD "load" (.str "b") 4, rwD op .none 5, rwD "return" .none 6]) (.dict []) (nm one other) (.list []) (.list []) (.list []) (.list []) on (.int 0)) := by
    unfold f_Walk___init__ m_Walk___init__
    refine E_metN (ρ1 := [none, some (.list [rwD "load" (.str "a") 3, rwD "load" (.str "b") 4, rwD op .none 5, rwD "return" .none 6]), some (nm one other)] ++ oB14 (.list [rwD "load" (.str "a") 3, rwD "load" (.str "b") 4, rwD op .none 5, rwD "return" .none 6]) (.dict []) (nm one other) (.list []) (.list []) (.list []) (.list []) on (.int 0)) ?_
    show mSeq _ _ [none, some (.list [rwD "load" (.str "a") 3, rwD "load" (.str "b") 4, rwD op .none 5, rwD "return" .none 6]), some (nm one other), none, none, none, none, none, none, none, none, none, none] = _
    rw [E_seq (ρ1 := [none, some (.list [rwD "load" (.str "a") 3, rwD "load" (.str "b") 4, rwD op .none 5, rwD "return" .none 6]), some (nm one other), none, none, none, none, none, none, none, none, none, none]) (by simp only [pops, List.mem_cons, List.not_mem_nil, or_false] at ho; rcases ho with rfl | rfl | rfl | rfl | rfl | rfl | rfl <;> kernel_rfl), E_seq (ρ1 := [none, some (.list [rwD "load" (.str "a") 3, rwD "load" (.str "b") 4, rwD op .none 5, rwD "return" .none 6]), some (nm one other), none, none, none, none, none, none, none, none, none, none]) (E_drop (E_call (ds := [nm one other]) (es := [nm one other]) (ρ1 := [none, some (.list [rwD "load" (.str "a") 3, rwD "load" (.str "b") 4, rwD op .none 5, rwD "return" .none 6]), some (nm one other), none, none, none, none, none, none, none, none, none, none]) (o := [none]) rfl rfl (names_ok h1 h2)))]
    simp only [pops, List.mem_cons, List.not_mem_nil, or_false] at ho; rcases ho with rfl | rfl | rfl | rfl | rfl | rfl | rfl <;> kernel_rfl
  unfold f_run m_run
  refine E_funR (ρ1 := [some (.list [rwD "load" (.str "a") 3, rwD "load" (.str "b") 4, rwD op .none 5, rwD "return" .none 6]), some (nm one other), some (.int 9), none]) (E_make (ρ2 := [some (.list [rwD "load" (.str "a") 3, rwD "load" (.str "b") 4, rwD op .none 5, rwD "return" .none 6]), some (nm one other), some (.int 9), none] ++ oB14 (.list [rwD "load" (.str "a") 3, rwD "load" (.str "b") 4, rwD op .none 5, rwD "return" .none 6]) (.dict []) (nm one other) (.list []) (.list []) (.list []) (.list [.int 0, .int 1, .int 2]) (.tuple [.str "fault", (.str z), .int 5]) (.int 3)) (ds := [(.list [rwD "load" (.str "a") 3, rwD "load" (.str "b") 4, rwD op .none 5, rwD "return" .none 6]), nm one other]) (ρ1 := [some (.list [rwD "load" (.str "a") 3, rwD "load" (.str "b") 4, rwD op .none 5, rwD "return" .none 6]), some (nm one other), some (.int 9), none]) rfl hi ?_)
  show mSeq _ _ ([some (.list [rwD "load" (.str "a") 3, rwD "load" (.str "b") 4, rwD op .none 5, rwD "return" .none 6]), some (nm one other), some (.int 9), none] ++ oB14 (.list [rwD "load" (.str "a") 3, rwD "load" (.str "b") 4, rwD op .none 5, rwD "return" .none 6]) (.dict []) (nm one other) (.list []) (.list []) (.list []) (.list []) on (.int 0)) = _
  rw [E_seq (ρ1 := [some (.list [rwD "load" (.str "a") 3, rwD "load" (.str "b") 4, rwD op .none 5, rwD "return" .none 6]), some (nm one other), some (.int 9), none] ++ oB14 (.list [rwD "load" (.str "a") 3, rwD "load" (.str "b") 4, rwD op .none 5, rwD "return" .none 6]) (.dict []) (nm one other) (.list []) (.list []) (.list []) (.list []) on (.int 0)) (by kernel_rfl)]
  have hw : whN cnd mSkip 4 ([some (.list [rwD "load" (.str "a") 3, rwD "load" (.str "b") 4, rwD op .none 5, rwD "return" .none 6]), some (nm one other), some (.int 9), none] ++ oB14 (.list [rwD "load" (.str "a") 3, rwD "load" (.str "b") 4, rwD op .none 5, rwD "return" .none 6]) (.dict []) (nm one other) (.list []) (.list []) (.list []) (.list []) on (.int 0)) = some (.nx, [some (.list [rwD "load" (.str "a") 3, rwD "load" (.str "b") 4, rwD op .none 5, rwD "return" .none 6]), some (nm one other), some (.int 9), none] ++ oB14 (.list [rwD "load" (.str "a") 3, rwD "load" (.str "b") 4, rwD op .none 5, rwD "return" .none 6]) (.dict []) (nm one other) (.list []) (.list []) (.list []) (.list [.int 0, .int 1, .int 2]) (.tuple [.str "fault", (.str z), .int 5]) (.int 3)) := by
    refine (turn (by kernel_rfl) (st_b_fault_0_0 ho hz hp)).trans ?_
    refine (turn (by kernel_rfl) (st_b_fault_0_1 ho hz hp)).trans ?_
    refine (turn (by kernel_rfl) (st_b_fault_0_2 ho hz hp)).trans ?_
    exact halt (by kernel_rfl) (by (rcases hz with rfl | rfl | rfl) <;> (simp only [pops, List.mem_cons, List.not_mem_nil, or_false] at ho; rcases ho with rfl | rfl | rfl | rfl | rfl | rfl | rfl) <;> kernel_rfl)
  rw [E_seq (ρ1 := [some (.list [rwD "load" (.str "a") 3, rwD "load" (.str "b") 4, rwD op .none 5, rwD "return" .none 6]), some (nm one other), some (.int 9), none] ++ oB14 (.list [rwD "load" (.str "a") 3, rwD "load" (.str "b") 4, rwD op .none 5, rwD "return" .none 6]) (.dict []) (nm one other) (.list []) (.list []) (.list []) (.list [.int 0, .int 1, .int 2]) (.tuple [.str "fault", (.str z), .int 5]) (.int 3)) (E_while hw)]
  kernel_rfl
theorem st_b_fault_1_0 {op : Str} (ho : op ∈ pops) {one other : D} {z : Str} (hz : hzP z) (hp : f_paired [some (.str op), some one, some other] = some (.tuple [.str "fault", (.str z)], n3)) : f_Walk_step (none :: oB14 (.list [rwD "try" (.int 1) 1, rwD "load" (.str "a") 3, rwD "load" (.str "b") 4, rwD op .none 5, rwD "endtry" .none 1, rwD "label" (.int 1) 1, rwD "return" .none 6]) (.dict [(.int 1, .int 5)]) (nm one other) (.list []) (.list [.tuple [.int 1, .int 0]]) (.list []) (.list []) on (.int 1)) = some (.bool true, none :: oB14 (.list [rwD "try" (.int 1) 1, rwD "load" (.str "a") 3, rwD "load" (.str "b") 4, rwD op .none 5, rwD "endtry" .none 1, rwD "label" (.int 1) 1, rwD "return" .none 6]) (.dict [(.int 1, .int 5)]) (nm one other) (.list [one]) (.list [.tuple [.int 1, .int 0]]) (.list []) (.list [.int 1]) on (.int 2)) := by
  simp only [pops, List.mem_cons, List.not_mem_nil, or_false] at ho; rcases ho with rfl | rfl | rfl | rfl | rfl | rfl | rfl <;> kernel_rfl
theorem st_b_fault_1_1 {op : Str} (ho : op ∈ pops) {one other : D} {z : Str} (hz : hzP z) (hp : f_paired [some (.str op), some one, some other] = some (.tuple [.str "fault", (.str z)], n3)) : f_Walk_step (none :: oB14 (.list [rwD "try" (.int 1) 1, rwD "load" (.str "a") 3, rwD "load" (.str "b") 4, rwD op .none 5, rwD "endtry" .none 1, rwD "label" (.int 1) 1, rwD "return" .none 6]) (.dict [(.int 1, .int 5)]) (nm one other) (.list [one]) (.list [.tuple [.int 1, .int 0]]) (.list []) (.list [.int 1]) on (.int 2)) = some (.bool true, none :: oB14 (.list [rwD "try" (.int 1) 1, rwD "load" (.str "a") 3, rwD "load" (.str "b") 4, rwD op .none 5, rwD "endtry" .none 1, rwD "label" (.int 1) 1, rwD "return" .none 6]) (.dict [(.int 1, .int 5)]) (nm one other) (.list [one, other]) (.list [.tuple [.int 1, .int 0]]) (.list []) (.list [.int 1, .int 2]) on (.int 3)) := by
  simp only [pops, List.mem_cons, List.not_mem_nil, or_false] at ho; rcases ho with rfl | rfl | rfl | rfl | rfl | rfl | rfl <;> kernel_rfl
theorem st_b_fault_1_2 {op : Str} (ho : op ∈ pops) {one other : D} {z : Str} (hz : hzP z) (hp : f_paired [some (.str op), some one, some other] = some (.tuple [.str "fault", (.str z)], n3)) : f_Walk_step (none :: oB14 (.list [rwD "try" (.int 1) 1, rwD "load" (.str "a") 3, rwD "load" (.str "b") 4, rwD op .none 5, rwD "endtry" .none 1, rwD "label" (.int 1) 1, rwD "return" .none 6]) (.dict [(.int 1, .int 5)]) (nm one other) (.list [one, other]) (.list [.tuple [.int 1, .int 0]]) (.list []) (.list [.int 1, .int 2]) on (.int 3)) = some (.bool true, none :: oB14 (.list [rwD "try" (.int 1) 1, rwD "load" (.str "a") 3, rwD "load" (.str "b") 4, rwD op .none 5, rwD "endtry" .none 1, rwD "label" (.int 1) 1, rwD "return" .none 6]) (.dict [(.int 1, .int 5)]) (nm one other) (.list [(.str z)]) (.list []) (.list []) (.list [.int 1, .int 2, .int 3]) on (.int 6)) := by
  unfold f_Walk_step m_Walk_step
  refine E_metR (ρ1 := [none, some (rwD op .none 5), some (.str z)] ++ oB14 (.list [rwD "try" (.int 1) 1, rwD "load" (.str "a") 3, rwD "load" (.str "b") 4, rwD op .none 5, rwD "endtry" .none 1, rwD "label" (.int 1) 1, rwD "return" .none 6]) (.dict [(.int 1, .int 5)]) (nm one other) (.list [(.str z)]) (.list []) (.list []) (.list [.int 1, .int 2, .int 3]) on (.int 6)) ?_
  show mSeq _ _ ([none, none, none] ++ oB14 (.list [rwD "try" (.int 1) 1, rwD "load" (.str "a") 3, rwD "load" (.str "b") 4, rwD op .none 5, rwD "endtry" .none 1, rwD "label" (.int 1) 1, rwD "return" .none 6]) (.dict [(.int 1, .int 5)]) (nm one other) (.list [one, other]) (.list [.tuple [.int 1, .int 0]]) (.list []) (.list [.int 1, .int 2]) on (.int 3)) = _
  rw [E_seq (ρ1 := [none, none, none] ++ oB14 (.list [rwD "try" (.int 1) 1, rwD "load" (.str "a") 3, rwD "load" (.str "b") 4, rwD op .none 5, rwD "endtry" .none 1, rwD "label" (.int 1) 1, rwD "return" .none 6]) (.dict [(.int 1, .int 5)]) (nm one other) (.list [one, other]) (.list [.tuple [.int 1, .int 0]]) (.list []) (.list [.int 1, .int 2]) on (.int 3)) (by simp only [pops, List.mem_cons, List.not_mem_nil, or_false] at ho; rcases ho with rfl | rfl | rfl | rfl | rfl | rfl | rfl <;> kernel_rfl), E_seq (ρ1 := [none, some (rwD op .none 5), none] ++ oB14 (.list [rwD "try" (.int 1) 1, rwD "load" (.str "a") 3, rwD "load" (.str "b") 4, rwD op .none 5, rwD "endtry" .none 1, rwD "label" (.int 1) 1, rwD "return" .none 6]) (.dict [(.int 1, .int 5)]) (nm one other) (.list [one, other]) (.list [.tuple [.int 1, .int 0]]) (.list []) (.list [.int 1, .int 2]) on (.int 3)) (by simp only [pops, List.mem_cons, List.not_mem_nil, or_false] at ho; rcases ho with rfl | rfl | rfl | rfl | rfl | rfl | rfl <;> kernel_rfl), E_seq (ρ1 := [none, some (rwD op .none 5), none] ++ oB14 (.list [rwD "try" (.int 1) 1, rwD "load" (.str "a") 3, rwD "load" (.str "b") 4, rwD op .none 5, rwD "endtry" .none 1, rwD "label" (.int 1) 1, rwD "return" .none 6]) (.dict [(.int 1, .int 5)]) (nm one other) (.list [one, other]) (.list [.tuple [.int 1, .int 0]]) (.list []) (.list [.int 1, .int 2, .int 3]) on (.int 3)) (by simp only [pops, List.mem_cons, List.not_mem_nil, or_false] at ho; rcases ho with rfl | rfl | rfl | rfl | rfl | rfl | rfl <;> kernel_rfl), E_seq (ρ1 := [none, some (rwD op .none 5), none] ++ oB14 (.list [rwD "try" (.int 1) 1, rwD "load" (.str "a") 3, rwD "load" (.str "b") 4, rwD op .none 5, rwD "endtry" .none 1, rwD "label" (.int 1) 1, rwD "return" .none 6]) (.dict [(.int 1, .int 5)]) (nm one other) (.list [one, other]) (.list [.tuple [.int 1, .int 0]]) (.list []) (.list [.int 1, .int 2, .int 3]) on (.int 4)) (by simp only [pops, List.mem_cons, List.not_mem_nil, or_false] at ho; rcases ho with rfl | rfl | rfl | rfl | rfl | rfl | rfl <;> kernel_rfl),
    E_seq (ρ1 := [none, some (rwD op .none 5), some (.str z)] ++ oB14 (.list [rwD "try" (.int 1) 1, rwD "load" (.str "a") 3, rwD "load" (.str "b") 4, rwD op .none 5, rwD "endtry" .none 1, rwD "label" (.int 1) 1, rwD "return" .none 6]) (.dict [(.int 1, .int 5)]) (nm one other) (.list []) (.list [.tuple [.int 1, .int 0]]) (.list []) (.list [.int 1, .int 2, .int 3]) on (.int 4)) (E_set (E_callM (nc := 3) (np := 2) (ds := [rwD op .none 5]) (ρ1 := [none, some (rwD op .none 5), none] ++ oB14 (.list [rwD "try" (.int 1) 1, rwD "load" (.str "a") 3, rwD "load" (.str "b") 4, rwD op .none 5, rwD "endtry" .none 1, rwD "label" (.int 1) 1, rwD "return" .none 6]) (.dict [(.int 1, .int 5)]) (nm one other) (.list [one, other]) (.list [.tuple [.int 1, .int 0]]) (.list []) (.list [.int 1, .int 2, .int 3]) on (.int 4)) (o := none :: none :: oB14 (.list [rwD "try" (.int 1) 1, rwD "load" (.str "a") 3, rwD "load" (.str "b") 4, rwD op .none 5, rwD "endtry" .none 1, rwD "label" (.int 1) 1, rwD "return" .none 6]) (.dict [(.int 1, .int 5)]) (nm one other) (.list []) (.list [.tuple [.int 1, .int 0]]) (.list []) (.list [.int 1, .int 2, .int 3]) on (.int 4)) rfl (done_b_fault (one := one) (other := other) ho hz hp ..)))]
  (rcases hz with rfl | rfl | rfl) <;> (simp only [pops, List.mem_cons, List.not_mem_nil, or_false] at ho; rcases ho with rfl | rfl | rfl | rfl | rfl | rfl | rfl) <;> kernel_rfl
theorem st_b_fault_1_3 {op : Str} (ho : op ∈ pops) {one other : D} {z : Str} (hz : hzP z) (hp : f_paired [some (.str op), some one, some other] = some (.tuple [.str "fault", (.str z)], n3)) : f_Walk_step (none :: oB14 (.list [rwD "try" (.int 1) 1, rwD "load" (.str "a") 3, rwD "load" (.str "b") 4, rwD op .none 5, rwD "endtry" .none 1, rwD "label" (.int 1) 1, rwD "return" .none 6]) (.dict [(.int 1, .int 5)]) (nm one other) (.list [(.str z)]) (.list []) (.list []) (.list [.int 1, .int 2, .int 3]) on (.int 6)) = some (.bool true, none :: oB14 (.list [rwD "try" (.int 1) 1, rwD "load" (.str "a") 3, rwD "load" (.str "b") 4, rwD op .none 5, rwD "endtry" .none 1, rwD "label" (.int 1) 1, rwD "return" .none 6]) (.dict [(.int 1, .int 5)]) (nm one other) (.list []) (.list []) (.list []) (.list [.int 1, .int 2, .int 3, .int 6]) (.tuple [.str "value", (.str z)]) (.int 7)) := by
  (rcases hz with rfl | rfl | rfl) <;> (simp only [pops, List.mem_cons, List.not_mem_nil, or_false] at ho; rcases ho with rfl | rfl | rfl | rfl | rfl | rfl | rfl) <;> kernel_rfl
theorem run_b_fault_1 {op : Str} (ho : op ∈ pops) {one other : D} (h1 : V14 one) (h2 : V14 other) {z : Str} (hz : hzP z) (hp : f_paired [some (.str op), some one, some other] = some (.tuple [.str "fault", (.str z)], n3)) : f_run [some (.list [rwD "try" (.int 1) 1, rwD "load" (.str "a") 3, rwD "load" (.str "b") 4, rwD op .none 5, rwD "endtry" .none 1, rwD "label" (.int 1) 1, rwD "return" .none 6]), some (nm one other), some (.int 9)] = some (.tuple [(.tuple [.str "value", (.str z)]), .list [], .int 4], n3) := by
  have hi : f_Walk___init__ ((none :: [(.list [rwD "try" (.int 1) 1, rwD "load" (.str "a") 3, rwD "load" (.str "b") 4, rwD op .none 5, rwD "endtry" .none 1, rwD "label" (.int 1) 1, rwD "return" .none 6]), nm one other].map some) ++ List.replicate 10 none) = some (.none, [none, none, none] ++ oB14 (.list [rwD "try" (.int 1) 1, rwD "load" (.str "a") 3, rwD "load" (.str "b") 4, rwD op .none 5, rwD "endtry" .none 1, rwD "label" (.int 1) 1, rwD "return" .none 6]) (.dict [(.int 1, .int 5)]) (nm one other) (.list []) (.list [.tuple [.int 1, .int 0]]) (.list []) (.list []) on (.int 1)) := by
    unfold f_Walk___init__ m_Walk___init__
    refine E_metN (ρ1 := [none, some (.list [rwD "try" (.int 1) 1, rwD "load" (.str "a") 3, rwD "load" (.str "b") 4, rwD op .none 5, rwD "endtry" .none 1, rwD "label" (.int 1) 1, rwD "return" .none 6]), some (nm one other)] ++ oB14 (.list [rwD "try" (.int 1) 1, rwD "load" (.str "a") 3, rwD "load" (.str "b") 4, rwD op .none 5, rwD "endtry" .none 1, rwD "label" (.int 1) 1, rwD "return" .none 6]) (.dict [(.int 1, .int 5)]) (nm one other) (.list []) (.list [.tuple [.int 1, .int 0]]) (.list []) (.list []) on (.int 1)) ?_
    show mSeq _ _ [none, some (.list [rwD "try" (.int 1) 1, rwD "load" (.str "a") 3, rwD "load" (.str "b") 4, rwD op .none 5, rwD "endtry" .none 1, rwD "label" (.int 1) 1, rwD "return" .none 6]), some (nm one other), none, none, none, none, none, none, none, none, none, none] = _
    rw [E_seq (ρ1 := [none, some (.list [rwD "try" (.int 1) 1, rwD "load" (.str "a") 3, rwD "load" (.str "b") 4, rwD op .none 5, rwD "endtry" .none 1, rwD "label" (.int 1) 1, rwD "return" .none 6]), some (nm one other), none, none, none, none, none, none, none, none, none, none]) (by simp only [pops, List.mem_cons, List.not_mem_nil, or_false] at ho; rcases ho with rfl | rfl | rfl | rfl | rfl | rfl | rfl <;> kernel_rfl), E_seq (ρ1 := [none, some (.list [rwD "try" (.int 1) 1, rwD "load" (.str "a") 3, rwD "load" (.str "b") 4, rwD op .none 5, rwD "endtry" .none 1, rwD "label" (.int 1) 1, rwD "return" .none 6]), some (nm one other), none, none, none, none, none, none, none, none, none, none]) (E_drop (E_call (ds := [nm one other]) (es := [nm one other]) (ρ1 := [none, some (.list [rwD "try" (.int 1) 1, rwD "load" (.str "a") 3, rwD "load" (.str "b") 4, rwD op .none 5, rwD "endtry" .none 1, rwD "label" (.int 1) 1, rwD "return" .none 6]), some (nm one other), none, none, none, none, none, none, none, none, none, none]) (o := [none]) rfl rfl (names_ok h1 h2)))]
    simp only [pops, List.mem_cons, List.not_mem_nil, or_false] at ho; rcases ho with rfl | rfl | rfl | rfl | rfl | rfl | rfl <;> kernel_rfl
  unfold f_run m_run
  refine E_funR (ρ1 := [some (.list [rwD "try" (.int 1) 1, rwD "load" (.str "a") 3, rwD "load" (.str "b") 4, rwD op .none 5, rwD "endtry" .none 1, rwD "label" (.int 1) 1, rwD "return" .none 6]), some (nm one other), some (.int 9), none]) (E_make (ρ2 := [some (.list [rwD "try" (.int 1) 1, rwD "load" (.str "a") 3, rwD "load" (.str "b") 4, rwD op .none 5, rwD "endtry" .none 1, rwD "label" (.int 1) 1, rwD "return" .none 6]), some (nm one other), some (.int 9), none] ++ oB14 (.list [rwD "try" (.int 1) 1, rwD "load" (.str "a") 3, rwD "load" (.str "b") 4, rwD op .none 5, rwD "endtry" .none 1, rwD "label" (.int 1) 1, rwD "return" .none 6]) (.dict [(.int 1, .int 5)]) (nm one other) (.list []) (.list []) (.list []) (.list [.int 1, .int 2, .int 3, .int 6]) (.tuple [.str "value", (.str z)]) (.int 7)) (ds := [(.list [rwD "try" (.int 1) 1, rwD "load" (.str "a") 3, rwD "load" (.str "b") 4, rwD op .none 5, rwD "endtry" .none 1, rwD "label" (.int 1) 1, rwD "return" .none 6]), nm one other]) (ρ1 := [some (.list [rwD "try" (.int 1) 1, rwD "load" (.str "a") 3, rwD "load" (.str "b") 4, rwD op .none 5, rwD "endtry" .none 1, rwD "label" (.int 1) 1, rwD "return" .none 6]), some (nm one other), some (.int 9), none]) rfl hi ?_)
  show mSeq _ _ ([some (.list [rwD "try" (.int 1) 1, rwD "load" (.str "a") 3, rwD "load" (.str "b") 4, rwD op .none 5, rwD "endtry" .none 1, rwD "label" (.int 1) 1, rwD "return" .none 6]), some (nm one other), some (.int 9), none] ++ oB14 (.list [rwD "try" (.int 1) 1, rwD "load" (.str "a") 3, rwD "load" (.str "b") 4, rwD op .none 5, rwD "endtry" .none 1, rwD "label" (.int 1) 1, rwD "return" .none 6]) (.dict [(.int 1, .int 5)]) (nm one other) (.list []) (.list [.tuple [.int 1, .int 0]]) (.list []) (.list []) on (.int 1)) = _
  rw [E_seq (ρ1 := [some (.list [rwD "try" (.int 1) 1, rwD "load" (.str "a") 3, rwD "load" (.str "b") 4, rwD op .none 5, rwD "endtry" .none 1, rwD "label" (.int 1) 1, rwD "return" .none 6]), some (nm one other), some (.int 9), none] ++ oB14 (.list [rwD "try" (.int 1) 1, rwD "load" (.str "a") 3, rwD "load" (.str "b") 4, rwD op .none 5, rwD "endtry" .none 1, rwD "label" (.int 1) 1, rwD "return" .none 6]) (.dict [(.int 1, .int 5)]) (nm one other) (.list []) (.list [.tuple [.int 1, .int 0]]) (.list []) (.list []) on (.int 1)) (by kernel_rfl)]
  have hw : whN cnd mSkip 5 ([some (.list [rwD "try" (.int 1) 1, rwD "load" (.str "a") 3, rwD "load" (.str "b") 4, rwD op .none 5, rwD "endtry" .none 1, rwD "label" (.int 1) 1, rwD "return" .none 6]), some (nm one other), some (.int 9), none] ++ oB14 (.list [rwD "try" (.int 1) 1, rwD "load" (.str "a") 3, rwD "load" (.str "b") 4, rwD op .none 5, rwD "endtry" .none 1, rwD "label" (.int 1) 1, rwD "return" .none 6]) (.dict [(.int 1, .int 5)]) (nm one other) (.list []) (.list [.tuple [.int 1, .int 0]]) (.list []) (.list []) on (.int 1)) = some (.nx, [some (.list [rwD "try" (.int 1) 1, rwD "load" (.str "a") 3, rwD "load" (.str "b") 4, rwD op .none 5, rwD "endtry" .none 1, rwD "label" (.int 1) 1, rwD "return" .none 6]), some (nm one other), some (.int 9), none] ++ oB14 (.list [rwD "try" (.int 1) 1, rwD "load" (.str "a") 3, rwD "load" (.str "b") 4, rwD op .none 5, rwD "endtry" .none 1, rwD "label" (.int 1) 1, rwD "return" .none 6]) (.dict [(.int 1, .int 5)]) (nm one other) (.list []) (.list []) (.list []) (.list [.int 1, .int 2, .int 3, .int 6]) (.tuple [.str "value", (.str z)]) (.int 7)) := by
    refine (turn (by kernel_rfl) (st_b_fault_1_0 ho hz hp)).trans ?_
    refine (turn (by kernel_rfl) (st_b_fault_1_1 ho hz hp)).trans ?_
    refine (turn (by kernel_rfl) (st_b_fault_1_2 ho hz hp)).trans ?_
    refine (turn (by kernel_rfl) (st_b_fault_1_3 ho hz hp)).trans ?_
    exact halt (by kernel_rfl) (by (rcases hz with rfl | rfl | rfl) <;> (simp only [pops, List.mem_cons, List.not_mem_nil, or_false] at ho; rcases ho with rfl | rfl | rfl | rfl | rfl | rfl | rfl) <;> kernel_rfl)
  rw [E_seq (ρ1 := [some (.list [rwD "try" (.int 1) 1, rwD "load" (.str "a") 3, rwD "load" (.str "b") 4, rwD op .none 5, rwD "endtry" .none 1, rwD "label" (.int 1) 1, rwD "return" .none 6]), some (nm one other), some (.int 9), none] ++ oB14 (.list [rwD "try" (.int 1) 1, rwD "load" (.str "a") 3, rwD "load" (.str "b") 4, rwD op .none 5, rwD "endtry" .none 1, rwD "label" (.int 1) 1, rwD "return" .none 6]) (.dict [(.int 1, .int 5)]) (nm one other) (.list []) (.list []) (.list []) (.list [.int 1, .int 2, .int 3, .int 6]) (.tuple [.str "value", (.str z)]) (.int 7)) (E_while hw)]
  kernel_rfl
theorem reck_u_found {op : Str} (ho : op = "neg" ∨ op = "not") {one other : D} {w : D} (hw : hwP w) (hp : f_single [some (.str op), some one] = some (.tuple [.str "found", w], n2)) (R W H S O T L A : D) : f_Walk_reckon (none :: some (.str op) :: oB14 R W H (.list [one]) S O T L A) = some (.none, none :: none :: oB14 R W H (.list [w]) S O T L A) := by
  unfold f_Walk_reckon m_Walk_reckon
  refine E_metR (ρ1 := [none, some (.str op), none, some (.str "found"), some w] ++ oB14 R W H (.list [w]) S O T L A) ?_
  show mSeq _ _ ([none, some (.str op), none, none, none] ++ oB14 R W H (.list [one]) S O T L A) = _
  rw [E_seq (ρ1 := [none, some (.str op), none, some (.str "found"), some w] ++ oB14 R W H (.list []) S O T L A) ((E_iteF (ρ1 := [none, some (.str op), none, none, none] ++ oB14 R W H (.list [one]) S O T L A) (by rcases ho with rfl | rfl <;> kernel_rfl)).trans (E_asg (d := .tuple [.str "found", w]) (ρ1 := [none, some (.str op), none, none, none] ++ oB14 R W H (.list []) S O T L A) (E_call (ds := [.str op, one]) (es := [.str op, one]) (ρ1 := [none, some (.str op), none, none, none] ++ oB14 R W H (.list []) S O T L A) (o := n2) (by kernel_rfl) rfl hp) (by kernel_rfl)))]
  kernel_rfl
theorem done_u_found {op : Str} (ho : op = "neg" ∨ op = "not") {one other : D} {w : D} (hw : hwP w) (hp : f_single [some (.str op), some one] = some (.tuple [.str "found", w], n2)) (R W H S O T L A : D) : f_Walk_done (none :: some (rwD op .none 5) :: oB14 R W H (.list [one]) S O T L A) = some (.none, none :: none :: oB14 R W H (.list [w]) S O T L A) := by
  unfold f_Walk_done m_Walk_done
  refine E_metR (ρ1 := [none, some (rwD op .none 5), some (.str op), some .none, some (.int 5), none] ++ oB14 R W H (.list [w]) S O T L A) ?_
  show mSeq _ _ ([none, some (rwD op .none 5), none, none, none, none] ++ oB14 R W H (.list [one]) S O T L A) = _
  rw [E_seq (ρ1 := [none, some (rwD op .none 5), some (.str op), some .none, some (.int 5), none] ++ oB14 R W H (.list [one]) S O T L A) (by kernel_rfl)]
  exact E_seqR ((E_iteT (ρ1 := [none, some (rwD op .none 5), some (.str op), some .none, some (.int 5), none] ++ oB14 R W H (.list [one]) S O T L A) (by rcases ho with rfl | rfl <;> kernel_rfl)).trans (E_ret (E_callM (nc := 6) (np := 2) (ds := [.str op]) (ρ1 := [none, some (rwD op .none 5), some (.str op), some .none, some (.int 5), none] ++ oB14 R W H (.list [one]) S O T L A) (o := none :: none :: oB14 R W H (.list [w]) S O T L A) rfl (reck_u_found (one := one) (other := other) ho hw hp R W H S O T L A))))
theorem st_u_found_0_0 {op : Str} (ho : op = "neg" ∨ op = "not") {one other : D} {w : D} (hw : hwP w) (hp : f_single [some (.str op), some one] = some (.tuple [.str "found", w], n2)) : f_Walk_step (none :: oB14 (.list [rwD "load" (.str "a") 3, rwD op .none 5, rwD "return" .none 6]) (.dict []) (nm one other) (.list []) (.list []) (.list []) (.list []) on (.int 0)) = some (.bool true, none :: oB14 (.list [rwD "load" (.str "a") 3, rwD op .none 5, rwD "return" .none 6]) (.dict []) (nm one other) (.list [one]) (.list []) (.list []) (.list [.int 0]) on (.int 1)) := by
  rcases ho with rfl | rfl <;> kernel_rfl
theorem st_u_found_0_1 {op : Str} (ho : op = "neg" ∨ op = "not") {one other : D} {w : D} (hw : hwP w) (hp : f_single [some (.str op), some one] = some (.tuple [.str "found", w], n2)) : f_Walk_step (none :: oB14 (.list [rwD "load" (.str "a") 3, rwD op .none 5, rwD "return" .none 6]) (.dict []) (nm one other) (.list [one]) (.list []) (.list []) (.list [.int 0]) on (.int 1)) = some (.bool true, none :: oB14 (.list [rwD "load" (.str "a") 3, rwD op .none 5, rwD "return" .none 6]) (.dict []) (nm one other) (.list [w]) (.list []) (.list []) (.list [.int 0, .int 1]) on (.int 2)) := by
  unfold f_Walk_step m_Walk_step
  refine E_metR (ρ1 := [none, some (rwD op .none 5), some .none] ++ oB14 (.list [rwD "load" (.str "a") 3, rwD op .none 5, rwD "return" .none 6]) (.dict []) (nm one other) (.list [w]) (.list []) (.list []) (.list [.int 0, .int 1]) on (.int 2)) ?_
  show mSeq _ _ ([none, none, none] ++ oB14 (.list [rwD "load" (.str "a") 3, rwD op .none 5, rwD "return" .none 6]) (.dict []) (nm one other) (.list [one]) (.list []) (.list []) (.list [.int 0]) on (.int 1)) = _
  rw [E_seq (ρ1 := [none, none, none] ++ oB14 (.list [rwD "load" (.str "a") 3, rwD op .none 5, rwD "return" .none 6]) (.dict []) (nm one other) (.list [one]) (.list []) (.list []) (.list [.int 0]) on (.int 1)) (by rcases ho with rfl | rfl <;> kernel_rfl), E_seq (ρ1 := [none, some (rwD op .none 5), none] ++ oB14 (.list [rwD "load" (.str "a") 3, rwD op .none 5, rwD "return" .none 6]) (.dict []) (nm one other) (.list [one]) (.list []) (.list []) (.list [.int 0]) on (.int 1)) (by rcases ho with rfl | rfl <;> kernel_rfl), E_seq (ρ1 := [none, some (rwD op .none 5), none] ++ oB14 (.list [rwD "load" (.str "a") 3, rwD op .none 5, rwD "return" .none 6]) (.dict []) (nm one other) (.list [one]) (.list []) (.list []) (.list [.int 0, .int 1]) on (.int 1)) (by rcases ho with rfl | rfl <;> kernel_rfl), E_seq (ρ1 := [none, some (rwD op .none 5), none] ++ oB14 (.list [rwD "load" (.str "a") 3, rwD op .none 5, rwD "return" .none 6]) (.dict []) (nm one other) (.list [one]) (.list []) (.list []) (.list [.int 0, .int 1]) on (.int 2)) (by rcases ho with rfl | rfl <;> kernel_rfl),
    E_seq (ρ1 := [none, some (rwD op .none 5), some .none] ++ oB14 (.list [rwD "load" (.str "a") 3, rwD op .none 5, rwD "return" .none 6]) (.dict []) (nm one other) (.list [w]) (.list []) (.list []) (.list [.int 0, .int 1]) on (.int 2)) (E_set (E_callM (nc := 3) (np := 2) (ds := [rwD op .none 5]) (ρ1 := [none, some (rwD op .none 5), none] ++ oB14 (.list [rwD "load" (.str "a") 3, rwD op .none 5, rwD "return" .none 6]) (.dict []) (nm one other) (.list [one]) (.list []) (.list []) (.list [.int 0, .int 1]) on (.int 2)) (o := none :: none :: oB14 (.list [rwD "load" (.str "a") 3, rwD op .none 5, rwD "return" .none 6]) (.dict []) (nm one other) (.list [w]) (.list []) (.list []) (.list [.int 0, .int 1]) on (.int 2)) rfl (done_u_found (one := one) (other := other) ho hw hp ..)))]
  (rcases hw with ⟨i, rfl, _⟩ | ⟨b, rfl⟩) <;> (rcases ho with rfl | rfl) <;> kernel_rfl
theorem st_u_found_0_2 {op : Str} (ho : op = "neg" ∨ op = "not") {one other : D} {w : D} (hw : hwP w) (hp : f_single [some (.str op), some one] = some (.tuple [.str "found", w], n2)) : f_Walk_step (none :: oB14 (.list [rwD "load" (.str "a") 3, rwD op .none 5, rwD "return" .none 6]) (.dict []) (nm one other) (.list [w]) (.list []) (.list []) (.list [.int 0, .int 1]) on (.int 2)) = some (.bool true, none :: oB14 (.list [rwD "load" (.str "a") 3, rwD op .none 5, rwD "return" .none 6]) (.dict []) (nm one other) (.list []) (.list []) (.list []) (.list [.int 0, .int 1, .int 2]) (.tuple [.str "value", w]) (.int 3)) := by
  (rcases hw with ⟨i, rfl, _⟩ | ⟨b, rfl⟩) <;> (rcases ho with rfl | rfl) <;> kernel_rfl
theorem run_u_found_0 {op : Str} (ho : op = "neg" ∨ op = "not") {one other : D} (h1 : V14 one) (h2 : V14 other) {w : D} (hw : hwP w) (hp : f_single [some (.str op), some one] = some (.tuple [.str "found", w], n2)) : f_run [some (.list [rwD "load" (.str "a") 3, rwD op .none 5, rwD "return" .none 6]), some (nm one other), some (.int 9)] = some (.tuple [(.tuple [.str "value", w]), .list [], .int 3], n3) := by
  have hi : f_Walk___init__ ((none :: [(.list [rwD "load" (.str "a") 3, rwD op .none 5, rwD "return" .none 6]), nm one other].map some) ++ List.replicate 10 none) = some (.none, [none, none, none] ++ oB14 (.list [rwD "load" (.str "a") 3, rwD op .none 5, rwD "return" .none 6]) (.dict []) (nm one other) (.list []) (.list []) (.list []) (.list []) on (.int 0)) := by
    unfold f_Walk___init__ m_Walk___init__
    refine E_metN (ρ1 := [none, some (.list [rwD "load" (.str "a") 3, rwD op .none 5, rwD "return" .none 6]), some (nm one other)] ++ oB14 (.list [rwD "load" (.str "a") 3, rwD op .none 5, rwD "return" .none 6]) (.dict []) (nm one other) (.list []) (.list []) (.list []) (.list []) on (.int 0)) ?_
    show mSeq _ _ [none, some (.list [rwD "load" (.str "a") 3, rwD op .none 5, rwD "return" .none 6]), some (nm one other), none, none, none, none, none, none, none, none, none, none] = _
    rw [E_seq (ρ1 := [none, some (.list [rwD "load" (.str "a") 3, rwD op .none 5, rwD "return" .none 6]), some (nm one other), none, none, none, none, none, none, none, none, none, none]) (by rcases ho with rfl | rfl <;> kernel_rfl), E_seq (ρ1 := [none, some (.list [rwD "load" (.str "a") 3, rwD op .none 5, rwD "return" .none 6]), some (nm one other), none, none, none, none, none, none, none, none, none, none]) (E_drop (E_call (ds := [nm one other]) (es := [nm one other]) (ρ1 := [none, some (.list [rwD "load" (.str "a") 3, rwD op .none 5, rwD "return" .none 6]), some (nm one other), none, none, none, none, none, none, none, none, none, none]) (o := [none]) rfl rfl (names_ok h1 h2)))]
    rcases ho with rfl | rfl <;> kernel_rfl
  unfold f_run m_run
  refine E_funR (ρ1 := [some (.list [rwD "load" (.str "a") 3, rwD op .none 5, rwD "return" .none 6]), some (nm one other), some (.int 9), none]) (E_make (ρ2 := [some (.list [rwD "load" (.str "a") 3, rwD op .none 5, rwD "return" .none 6]), some (nm one other), some (.int 9), none] ++ oB14 (.list [rwD "load" (.str "a") 3, rwD op .none 5, rwD "return" .none 6]) (.dict []) (nm one other) (.list []) (.list []) (.list []) (.list [.int 0, .int 1, .int 2]) (.tuple [.str "value", w]) (.int 3)) (ds := [(.list [rwD "load" (.str "a") 3, rwD op .none 5, rwD "return" .none 6]), nm one other]) (ρ1 := [some (.list [rwD "load" (.str "a") 3, rwD op .none 5, rwD "return" .none 6]), some (nm one other), some (.int 9), none]) rfl hi ?_)
  show mSeq _ _ ([some (.list [rwD "load" (.str "a") 3, rwD op .none 5, rwD "return" .none 6]), some (nm one other), some (.int 9), none] ++ oB14 (.list [rwD "load" (.str "a") 3, rwD op .none 5, rwD "return" .none 6]) (.dict []) (nm one other) (.list []) (.list []) (.list []) (.list []) on (.int 0)) = _
  rw [E_seq (ρ1 := [some (.list [rwD "load" (.str "a") 3, rwD op .none 5, rwD "return" .none 6]), some (nm one other), some (.int 9), none] ++ oB14 (.list [rwD "load" (.str "a") 3, rwD op .none 5, rwD "return" .none 6]) (.dict []) (nm one other) (.list []) (.list []) (.list []) (.list []) on (.int 0)) (by kernel_rfl)]
  have hw : whN cnd mSkip 4 ([some (.list [rwD "load" (.str "a") 3, rwD op .none 5, rwD "return" .none 6]), some (nm one other), some (.int 9), none] ++ oB14 (.list [rwD "load" (.str "a") 3, rwD op .none 5, rwD "return" .none 6]) (.dict []) (nm one other) (.list []) (.list []) (.list []) (.list []) on (.int 0)) = some (.nx, [some (.list [rwD "load" (.str "a") 3, rwD op .none 5, rwD "return" .none 6]), some (nm one other), some (.int 9), none] ++ oB14 (.list [rwD "load" (.str "a") 3, rwD op .none 5, rwD "return" .none 6]) (.dict []) (nm one other) (.list []) (.list []) (.list []) (.list [.int 0, .int 1, .int 2]) (.tuple [.str "value", w]) (.int 3)) := by
    refine (turn (by kernel_rfl) (st_u_found_0_0 ho hw hp)).trans ?_
    refine (turn (by kernel_rfl) (st_u_found_0_1 ho hw hp)).trans ?_
    refine (turn (by kernel_rfl) (st_u_found_0_2 ho hw hp)).trans ?_
    exact halt (by kernel_rfl) (by (rcases hw with ⟨i, rfl, _⟩ | ⟨b, rfl⟩) <;> (rcases ho with rfl | rfl) <;> kernel_rfl)
  rw [E_seq (ρ1 := [some (.list [rwD "load" (.str "a") 3, rwD op .none 5, rwD "return" .none 6]), some (nm one other), some (.int 9), none] ++ oB14 (.list [rwD "load" (.str "a") 3, rwD op .none 5, rwD "return" .none 6]) (.dict []) (nm one other) (.list []) (.list []) (.list []) (.list [.int 0, .int 1, .int 2]) (.tuple [.str "value", w]) (.int 3)) (E_while hw)]
  kernel_rfl
theorem st_u_found_1_0 {op : Str} (ho : op = "neg" ∨ op = "not") {one other : D} {w : D} (hw : hwP w) (hp : f_single [some (.str op), some one] = some (.tuple [.str "found", w], n2)) : f_Walk_step (none :: oB14 (.list [rwD "try" (.int 1) 1, rwD "load" (.str "a") 3, rwD op .none 5, rwD "endtry" .none 1, rwD "label" (.int 1) 1, rwD "return" .none 6]) (.dict [(.int 1, .int 4)]) (nm one other) (.list []) (.list [.tuple [.int 1, .int 0]]) (.list []) (.list []) on (.int 1)) = some (.bool true, none :: oB14 (.list [rwD "try" (.int 1) 1, rwD "load" (.str "a") 3, rwD op .none 5, rwD "endtry" .none 1, rwD "label" (.int 1) 1, rwD "return" .none 6]) (.dict [(.int 1, .int 4)]) (nm one other) (.list [one]) (.list [.tuple [.int 1, .int 0]]) (.list []) (.list [.int 1]) on (.int 2)) := by
  rcases ho with rfl | rfl <;> kernel_rfl
theorem st_u_found_1_1 {op : Str} (ho : op = "neg" ∨ op = "not") {one other : D} {w : D} (hw : hwP w) (hp : f_single [some (.str op), some one] = some (.tuple [.str "found", w], n2)) : f_Walk_step (none :: oB14 (.list [rwD "try" (.int 1) 1, rwD "load" (.str "a") 3, rwD op .none 5, rwD "endtry" .none 1, rwD "label" (.int 1) 1, rwD "return" .none 6]) (.dict [(.int 1, .int 4)]) (nm one other) (.list [one]) (.list [.tuple [.int 1, .int 0]]) (.list []) (.list [.int 1]) on (.int 2)) = some (.bool true, none :: oB14 (.list [rwD "try" (.int 1) 1, rwD "load" (.str "a") 3, rwD op .none 5, rwD "endtry" .none 1, rwD "label" (.int 1) 1, rwD "return" .none 6]) (.dict [(.int 1, .int 4)]) (nm one other) (.list [w]) (.list []) (.list []) (.list [.int 1, .int 2]) on (.int 5)) := by
  unfold f_Walk_step m_Walk_step
  refine E_metR (ρ1 := [none, some (rwD op .none 5), some .none] ++ oB14 (.list [rwD "try" (.int 1) 1, rwD "load" (.str "a") 3, rwD op .none 5, rwD "endtry" .none 1, rwD "label" (.int 1) 1, rwD "return" .none 6]) (.dict [(.int 1, .int 4)]) (nm one other) (.list [w]) (.list []) (.list []) (.list [.int 1, .int 2]) on (.int 5)) ?_
  show mSeq _ _ ([none, none, none] ++ oB14 (.list [rwD "try" (.int 1) 1, rwD "load" (.str "a") 3, rwD op .none 5, rwD "endtry" .none 1, rwD "label" (.int 1) 1, rwD "return" .none 6]) (.dict [(.int 1, .int 4)]) (nm one other) (.list [one]) (.list [.tuple [.int 1, .int 0]]) (.list []) (.list [.int 1]) on (.int 2)) = _
  rw [E_seq (ρ1 := [none, none, none] ++ oB14 (.list [rwD "try" (.int 1) 1, rwD "load" (.str "a") 3, rwD op .none 5, rwD "endtry" .none 1, rwD "label" (.int 1) 1, rwD "return" .none 6]) (.dict [(.int 1, .int 4)]) (nm one other) (.list [one]) (.list [.tuple [.int 1, .int 0]]) (.list []) (.list [.int 1]) on (.int 2)) (by rcases ho with rfl | rfl <;> kernel_rfl), E_seq (ρ1 := [none, some (rwD op .none 5), none] ++ oB14 (.list [rwD "try" (.int 1) 1, rwD "load" (.str "a") 3, rwD op .none 5, rwD "endtry" .none 1, rwD "label" (.int 1) 1, rwD "return" .none 6]) (.dict [(.int 1, .int 4)]) (nm one other) (.list [one]) (.list [.tuple [.int 1, .int 0]]) (.list []) (.list [.int 1]) on (.int 2)) (by rcases ho with rfl | rfl <;> kernel_rfl), E_seq (ρ1 := [none, some (rwD op .none 5), none] ++ oB14 (.list [rwD "try" (.int 1) 1, rwD "load" (.str "a") 3, rwD op .none 5, rwD "endtry" .none 1, rwD "label" (.int 1) 1, rwD "return" .none 6]) (.dict [(.int 1, .int 4)]) (nm one other) (.list [one]) (.list [.tuple [.int 1, .int 0]]) (.list []) (.list [.int 1, .int 2]) on (.int 2)) (by rcases ho with rfl | rfl <;> kernel_rfl), E_seq (ρ1 := [none, some (rwD op .none 5), none] ++ oB14 (.list [rwD "try" (.int 1) 1, rwD "load" (.str "a") 3, rwD op .none 5, rwD "endtry" .none 1, rwD "label" (.int 1) 1, rwD "return" .none 6]) (.dict [(.int 1, .int 4)]) (nm one other) (.list [one]) (.list [.tuple [.int 1, .int 0]]) (.list []) (.list [.int 1, .int 2]) on (.int 3)) (by rcases ho with rfl | rfl <;> kernel_rfl),
    E_seq (ρ1 := [none, some (rwD op .none 5), some .none] ++ oB14 (.list [rwD "try" (.int 1) 1, rwD "load" (.str "a") 3, rwD op .none 5, rwD "endtry" .none 1, rwD "label" (.int 1) 1, rwD "return" .none 6]) (.dict [(.int 1, .int 4)]) (nm one other) (.list [w]) (.list [.tuple [.int 1, .int 0]]) (.list []) (.list [.int 1, .int 2]) on (.int 3)) (E_set (E_callM (nc := 3) (np := 2) (ds := [rwD op .none 5]) (ρ1 := [none, some (rwD op .none 5), none] ++ oB14 (.list [rwD "try" (.int 1) 1, rwD "load" (.str "a") 3, rwD op .none 5, rwD "endtry" .none 1, rwD "label" (.int 1) 1, rwD "return" .none 6]) (.dict [(.int 1, .int 4)]) (nm one other) (.list [one]) (.list [.tuple [.int 1, .int 0]]) (.list []) (.list [.int 1, .int 2]) on (.int 3)) (o := none :: none :: oB14 (.list [rwD "try" (.int 1) 1, rwD "load" (.str "a") 3, rwD op .none 5, rwD "endtry" .none 1, rwD "label" (.int 1) 1, rwD "return" .none 6]) (.dict [(.int 1, .int 4)]) (nm one other) (.list [w]) (.list [.tuple [.int 1, .int 0]]) (.list []) (.list [.int 1, .int 2]) on (.int 3)) rfl (done_u_found (one := one) (other := other) ho hw hp ..)))]
  (rcases hw with ⟨i, rfl, _⟩ | ⟨b, rfl⟩) <;> (rcases ho with rfl | rfl) <;> kernel_rfl
theorem st_u_found_1_2 {op : Str} (ho : op = "neg" ∨ op = "not") {one other : D} {w : D} (hw : hwP w) (hp : f_single [some (.str op), some one] = some (.tuple [.str "found", w], n2)) : f_Walk_step (none :: oB14 (.list [rwD "try" (.int 1) 1, rwD "load" (.str "a") 3, rwD op .none 5, rwD "endtry" .none 1, rwD "label" (.int 1) 1, rwD "return" .none 6]) (.dict [(.int 1, .int 4)]) (nm one other) (.list [w]) (.list []) (.list []) (.list [.int 1, .int 2]) on (.int 5)) = some (.bool true, none :: oB14 (.list [rwD "try" (.int 1) 1, rwD "load" (.str "a") 3, rwD op .none 5, rwD "endtry" .none 1, rwD "label" (.int 1) 1, rwD "return" .none 6]) (.dict [(.int 1, .int 4)]) (nm one other) (.list []) (.list []) (.list []) (.list [.int 1, .int 2, .int 5]) (.tuple [.str "value", w]) (.int 6)) := by
  (rcases hw with ⟨i, rfl, _⟩ | ⟨b, rfl⟩) <;> (rcases ho with rfl | rfl) <;> kernel_rfl
theorem run_u_found_1 {op : Str} (ho : op = "neg" ∨ op = "not") {one other : D} (h1 : V14 one) (h2 : V14 other) {w : D} (hw : hwP w) (hp : f_single [some (.str op), some one] = some (.tuple [.str "found", w], n2)) : f_run [some (.list [rwD "try" (.int 1) 1, rwD "load" (.str "a") 3, rwD op .none 5, rwD "endtry" .none 1, rwD "label" (.int 1) 1, rwD "return" .none 6]), some (nm one other), some (.int 9)] = some (.tuple [(.tuple [.str "value", w]), .list [], .int 3], n3) := by
  have hi : f_Walk___init__ ((none :: [(.list [rwD "try" (.int 1) 1, rwD "load" (.str "a") 3, rwD op .none 5, rwD "endtry" .none 1, rwD "label" (.int 1) 1, rwD "return" .none 6]), nm one other].map some) ++ List.replicate 10 none) = some (.none, [none, none, none] ++ oB14 (.list [rwD "try" (.int 1) 1, rwD "load" (.str "a") 3, rwD op .none 5, rwD "endtry" .none 1, rwD "label" (.int 1) 1, rwD "return" .none 6]) (.dict [(.int 1, .int 4)]) (nm one other) (.list []) (.list [.tuple [.int 1, .int 0]]) (.list []) (.list []) on (.int 1)) := by
    unfold f_Walk___init__ m_Walk___init__
    refine E_metN (ρ1 := [none, some (.list [rwD "try" (.int 1) 1, rwD "load" (.str "a") 3, rwD op .none 5, rwD "endtry" .none 1, rwD "label" (.int 1) 1, rwD "return" .none 6]), some (nm one other)] ++ oB14 (.list [rwD "try" (.int 1) 1, rwD "load" (.str "a") 3, rwD op .none 5, rwD "endtry" .none 1, rwD "label" (.int 1) 1, rwD "return" .none 6]) (.dict [(.int 1, .int 4)]) (nm one other) (.list []) (.list [.tuple [.int 1, .int 0]]) (.list []) (.list []) on (.int 1)) ?_
    show mSeq _ _ [none, some (.list [rwD "try" (.int 1) 1, rwD "load" (.str "a") 3, rwD op .none 5, rwD "endtry" .none 1, rwD "label" (.int 1) 1, rwD "return" .none 6]), some (nm one other), none, none, none, none, none, none, none, none, none, none] = _
    rw [E_seq (ρ1 := [none, some (.list [rwD "try" (.int 1) 1, rwD "load" (.str "a") 3, rwD op .none 5, rwD "endtry" .none 1, rwD "label" (.int 1) 1, rwD "return" .none 6]), some (nm one other), none, none, none, none, none, none, none, none, none, none]) (by rcases ho with rfl | rfl <;> kernel_rfl), E_seq (ρ1 := [none, some (.list [rwD "try" (.int 1) 1, rwD "load" (.str "a") 3, rwD op .none 5, rwD "endtry" .none 1, rwD "label" (.int 1) 1, rwD "return" .none 6]), some (nm one other), none, none, none, none, none, none, none, none, none, none]) (E_drop (E_call (ds := [nm one other]) (es := [nm one other]) (ρ1 := [none, some (.list [rwD "try" (.int 1) 1, rwD "load" (.str "a") 3, rwD op .none 5, rwD "endtry" .none 1, rwD "label" (.int 1) 1, rwD "return" .none 6]), some (nm one other), none, none, none, none, none, none, none, none, none, none]) (o := [none]) rfl rfl (names_ok h1 h2)))]
    rcases ho with rfl | rfl <;> kernel_rfl
  unfold f_run m_run
  refine E_funR (ρ1 := [some (.list [rwD "try" (.int 1) 1, rwD "load" (.str "a") 3, rwD op .none 5, rwD "endtry" .none 1, rwD "label" (.int 1) 1, rwD "return" .none 6]), some (nm one other), some (.int 9), none]) (E_make (ρ2 := [some (.list [rwD "try" (.int 1) 1, rwD "load" (.str "a") 3, rwD op .none 5, rwD "endtry" .none 1, rwD "label" (.int 1) 1, rwD "return" .none 6]), some (nm one other), some (.int 9), none] ++ oB14 (.list [rwD "try" (.int 1) 1, rwD "load" (.str "a") 3, rwD op .none 5, rwD "endtry" .none 1, rwD "label" (.int 1) 1, rwD "return" .none 6]) (.dict [(.int 1, .int 4)]) (nm one other) (.list []) (.list []) (.list []) (.list [.int 1, .int 2, .int 5]) (.tuple [.str "value", w]) (.int 6)) (ds := [(.list [rwD "try" (.int 1) 1, rwD "load" (.str "a") 3, rwD op .none 5, rwD "endtry" .none 1, rwD "label" (.int 1) 1, rwD "return" .none 6]), nm one other]) (ρ1 := [some (.list [rwD "try" (.int 1) 1, rwD "load" (.str "a") 3, rwD op .none 5, rwD "endtry" .none 1, rwD "label" (.int 1) 1, rwD "return" .none 6]), some (nm one other), some (.int 9), none]) rfl hi ?_)
  show mSeq _ _ ([some (.list [rwD "try" (.int 1) 1, rwD "load" (.str "a") 3, rwD op .none 5, rwD "endtry" .none 1, rwD "label" (.int 1) 1, rwD "return" .none 6]), some (nm one other), some (.int 9), none] ++ oB14 (.list [rwD "try" (.int 1) 1, rwD "load" (.str "a") 3, rwD op .none 5, rwD "endtry" .none 1, rwD "label" (.int 1) 1, rwD "return" .none 6]) (.dict [(.int 1, .int 4)]) (nm one other) (.list []) (.list [.tuple [.int 1, .int 0]]) (.list []) (.list []) on (.int 1)) = _
  rw [E_seq (ρ1 := [some (.list [rwD "try" (.int 1) 1, rwD "load" (.str "a") 3, rwD op .none 5, rwD "endtry" .none 1, rwD "label" (.int 1) 1, rwD "return" .none 6]), some (nm one other), some (.int 9), none] ++ oB14 (.list [rwD "try" (.int 1) 1, rwD "load" (.str "a") 3, rwD op .none 5, rwD "endtry" .none 1, rwD "label" (.int 1) 1, rwD "return" .none 6]) (.dict [(.int 1, .int 4)]) (nm one other) (.list []) (.list [.tuple [.int 1, .int 0]]) (.list []) (.list []) on (.int 1)) (by kernel_rfl)]
  have hw : whN cnd mSkip 4 ([some (.list [rwD "try" (.int 1) 1, rwD "load" (.str "a") 3, rwD op .none 5, rwD "endtry" .none 1, rwD "label" (.int 1) 1, rwD "return" .none 6]), some (nm one other), some (.int 9), none] ++ oB14 (.list [rwD "try" (.int 1) 1, rwD "load" (.str "a") 3, rwD op .none 5, rwD "endtry" .none 1, rwD "label" (.int 1) 1, rwD "return" .none 6]) (.dict [(.int 1, .int 4)]) (nm one other) (.list []) (.list [.tuple [.int 1, .int 0]]) (.list []) (.list []) on (.int 1)) = some (.nx, [some (.list [rwD "try" (.int 1) 1, rwD "load" (.str "a") 3, rwD op .none 5, rwD "endtry" .none 1, rwD "label" (.int 1) 1, rwD "return" .none 6]), some (nm one other), some (.int 9), none] ++ oB14 (.list [rwD "try" (.int 1) 1, rwD "load" (.str "a") 3, rwD op .none 5, rwD "endtry" .none 1, rwD "label" (.int 1) 1, rwD "return" .none 6]) (.dict [(.int 1, .int 4)]) (nm one other) (.list []) (.list []) (.list []) (.list [.int 1, .int 2, .int 5]) (.tuple [.str "value", w]) (.int 6)) := by
    refine (turn (by kernel_rfl) (st_u_found_1_0 ho hw hp)).trans ?_
    refine (turn (by kernel_rfl) (st_u_found_1_1 ho hw hp)).trans ?_
    refine (turn (by kernel_rfl) (st_u_found_1_2 ho hw hp)).trans ?_
    exact halt (by kernel_rfl) (by (rcases hw with ⟨i, rfl, _⟩ | ⟨b, rfl⟩) <;> (rcases ho with rfl | rfl) <;> kernel_rfl)
  rw [E_seq (ρ1 := [some (.list [rwD "try" (.int 1) 1, rwD "load" (.str "a") 3, rwD op .none 5, rwD "endtry" .none 1, rwD "label" (.int 1) 1, rwD "return" .none 6]), some (nm one other), some (.int 9), none] ++ oB14 (.list [rwD "try" (.int 1) 1, rwD "load" (.str "a") 3, rwD op .none 5, rwD "endtry" .none 1, rwD "label" (.int 1) 1, rwD "return" .none 6]) (.dict [(.int 1, .int 4)]) (nm one other) (.list []) (.list []) (.list []) (.list [.int 1, .int 2, .int 5]) (.tuple [.str "value", w]) (.int 6)) (E_while hw)]
  kernel_rfl
theorem reck_u_fault {op : Str} (ho : op = "neg" ∨ op = "not") {one other : D} {z : Str} (hz : hzP z) (hp : f_single [some (.str op), some one] = some (.tuple [.str "fault", (.str z)], n2)) (R W H S O T L A : D) : f_Walk_reckon (none :: some (.str op) :: oB14 R W H (.list [one]) S O T L A) = some ((.str z), none :: none :: oB14 R W H (.list []) S O T L A) := by
  unfold f_Walk_reckon m_Walk_reckon
  refine E_metR (ρ1 := [none, some (.str op), none, some (.str "fault"), some (.str z)] ++ oB14 R W H (.list []) S O T L A) ?_
  show mSeq _ _ ([none, some (.str op), none, none, none] ++ oB14 R W H (.list [one]) S O T L A) = _
  rw [E_seq (ρ1 := [none, some (.str op), none, some (.str "fault"), some (.str z)] ++ oB14 R W H (.list []) S O T L A) ((E_iteF (ρ1 := [none, some (.str op), none, none, none] ++ oB14 R W H (.list [one]) S O T L A) (by rcases ho with rfl | rfl <;> kernel_rfl)).trans (E_asg (d := .tuple [.str "fault", (.str z)]) (ρ1 := [none, some (.str op), none, none, none] ++ oB14 R W H (.list []) S O T L A) (E_call (ds := [.str op, one]) (es := [.str op, one]) (ρ1 := [none, some (.str op), none, none, none] ++ oB14 R W H (.list []) S O T L A) (o := n2) (by kernel_rfl) rfl hp) (by kernel_rfl)))]
  kernel_rfl
theorem done_u_fault {op : Str} (ho : op = "neg" ∨ op = "not") {one other : D} {z : Str} (hz : hzP z) (hp : f_single [some (.str op), some one] = some (.tuple [.str "fault", (.str z)], n2)) (R W H S O T L A : D) : f_Walk_done (none :: some (rwD op .none 5) :: oB14 R W H (.list [one]) S O T L A) = some ((.str z), none :: none :: oB14 R W H (.list []) S O T L A) := by
  unfold f_Walk_done m_Walk_done
  refine E_metR (ρ1 := [none, some (rwD op .none 5), some (.str op), some .none, some (.int 5), none] ++ oB14 R W H (.list []) S O T L A) ?_
  show mSeq _ _ ([none, some (rwD op .none 5), none, none, none, none] ++ oB14 R W H (.list [one]) S O T L A) = _
  rw [E_seq (ρ1 := [none, some (rwD op .none 5), some (.str op), some .none, some (.int 5), none] ++ oB14 R W H (.list [one]) S O T L A) (by kernel_rfl)]
  exact E_seqR ((E_iteT (ρ1 := [none, some (rwD op .none 5), some (.str op), some .none, some (.int 5), none] ++ oB14 R W H (.list [one]) S O T L A) (by rcases ho with rfl | rfl <;> kernel_rfl)).trans (E_ret (E_callM (nc := 6) (np := 2) (ds := [.str op]) (ρ1 := [none, some (rwD op .none 5), some (.str op), some .none, some (.int 5), none] ++ oB14 R W H (.list [one]) S O T L A) (o := none :: none :: oB14 R W H (.list []) S O T L A) rfl (reck_u_fault (one := one) (other := other) ho hz hp R W H S O T L A))))
theorem st_u_fault_0_0 {op : Str} (ho : op = "neg" ∨ op = "not") {one other : D} {z : Str} (hz : hzP z) (hp : f_single [some (.str op), some one] = some (.tuple [.str "fault", (.str z)], n2)) : f_Walk_step (none :: oB14 (.list [rwD "load" (.str "a") 3, rwD op .none 5, rwD "return" .none 6]) (.dict []) (nm one other) (.list []) (.list []) (.list []) (.list []) on (.int 0)) = some (.bool true, none :: oB14 (.list [rwD "load" (.str "a") 3, rwD op .none 5, rwD "return" .none 6]) (.dict []) (nm one other) (.list [one]) (.list []) (.list []) (.list [.int 0]) on (.int 1)) := by
  rcases ho with rfl | rfl <;> kernel_rfl
theorem st_u_fault_0_1 {op : Str} (ho : op = "neg" ∨ op = "not") {one other : D} {z : Str} (hz : hzP z) (hp : f_single [some (.str op), some one] = some (.tuple [.str "fault", (.str z)], n2)) : f_Walk_step (none :: oB14 (.list [rwD "load" (.str "a") 3, rwD op .none 5, rwD "return" .none 6]) (.dict []) (nm one other) (.list [one]) (.list []) (.list []) (.list [.int 0]) on (.int 1)) = some (.bool true, none :: oB14 (.list [rwD "load" (.str "a") 3, rwD op .none 5, rwD "return" .none 6]) (.dict []) (nm one other) (.list []) (.list []) (.list []) (.list [.int 0, .int 1]) (.tuple [.str "fault", (.str z), .int 5]) (.int 2)) := by
  unfold f_Walk_step m_Walk_step
  refine E_metR (ρ1 := [none, some (rwD op .none 5), some (.str z)] ++ oB14 (.list [rwD "load" (.str "a") 3, rwD op .none 5, rwD "return" .none 6]) (.dict []) (nm one other) (.list []) (.list []) (.list []) (.list [.int 0, .int 1]) (.tuple [.str "fault", (.str z), .int 5]) (.int 2)) ?_
  show mSeq _ _ ([none, none, none] ++ oB14 (.list [rwD "load" (.str "a") 3, rwD op .none 5, rwD "return" .none 6]) (.dict []) (nm one other) (.list [one]) (.list []) (.list []) (.list [.int 0]) on (.int 1)) = _
  rw [E_seq (ρ1 := [none, none, none] ++ oB14 (.list [rwD "load" (.str "a") 3, rwD op .none 5, rwD "return" .none 6]) (.dict []) (nm one other) (.list [one]) (.list []) (.list []) (.list [.int 0]) on (.int 1)) (by rcases ho with rfl | rfl <;> kernel_rfl), E_seq (ρ1 := [none, some (rwD op .none 5), none] ++ oB14 (.list [rwD "load" (.str "a") 3, rwD op .none 5, rwD "return" .none 6]) (.dict []) (nm one other) (.list [one]) (.list []) (.list []) (.list [.int 0]) on (.int 1)) (by rcases ho with rfl | rfl <;> kernel_rfl), E_seq (ρ1 := [none, some (rwD op .none 5), none] ++ oB14 (.list [rwD "load" (.str "a") 3, rwD op .none 5, rwD "return" .none 6]) (.dict []) (nm one other) (.list [one]) (.list []) (.list []) (.list [.int 0, .int 1]) on (.int 1)) (by rcases ho with rfl | rfl <;> kernel_rfl), E_seq (ρ1 := [none, some (rwD op .none 5), none] ++ oB14 (.list [rwD "load" (.str "a") 3, rwD op .none 5, rwD "return" .none 6]) (.dict []) (nm one other) (.list [one]) (.list []) (.list []) (.list [.int 0, .int 1]) on (.int 2)) (by rcases ho with rfl | rfl <;> kernel_rfl),
    E_seq (ρ1 := [none, some (rwD op .none 5), some (.str z)] ++ oB14 (.list [rwD "load" (.str "a") 3, rwD op .none 5, rwD "return" .none 6]) (.dict []) (nm one other) (.list []) (.list []) (.list []) (.list [.int 0, .int 1]) on (.int 2)) (E_set (E_callM (nc := 3) (np := 2) (ds := [rwD op .none 5]) (ρ1 := [none, some (rwD op .none 5), none] ++ oB14 (.list [rwD "load" (.str "a") 3, rwD op .none 5, rwD "return" .none 6]) (.dict []) (nm one other) (.list [one]) (.list []) (.list []) (.list [.int 0, .int 1]) on (.int 2)) (o := none :: none :: oB14 (.list [rwD "load" (.str "a") 3, rwD op .none 5, rwD "return" .none 6]) (.dict []) (nm one other) (.list []) (.list []) (.list []) (.list [.int 0, .int 1]) on (.int 2)) rfl (done_u_fault (one := one) (other := other) ho hz hp ..)))]
  (rcases hz with rfl | rfl | rfl) <;> (rcases ho with rfl | rfl) <;> kernel_rfl
theorem run_u_fault_0 {op : Str} (ho : op = "neg" ∨ op = "not") {one other : D} (h1 : V14 one) (h2 : V14 other) {z : Str} (hz : hzP z) (hp : f_single [some (.str op), some one] = some (.tuple [.str "fault", (.str z)], n2)) : f_run [some (.list [rwD "load" (.str "a") 3, rwD op .none 5, rwD "return" .none 6]), some (nm one other), some (.int 9)] = some (.tuple [(.tuple [.str "fault", (.str z), .int 5]), .list [], .int 2], n3) := by
  have hi : f_Walk___init__ ((none :: [(.list [rwD "load" (.str "a") 3, rwD op .none 5, rwD "return" .none 6]), nm one other].map some) ++ List.replicate 10 none) = some (.none, [none, none, none] ++ oB14 (.list [rwD "load" (.str "a") 3, rwD op .none 5, rwD "return" .none 6]) (.dict []) (nm one other) (.list []) (.list []) (.list []) (.list []) on (.int 0)) := by
    unfold f_Walk___init__ m_Walk___init__
    refine E_metN (ρ1 := [none, some (.list [rwD "load" (.str "a") 3, rwD op .none 5, rwD "return" .none 6]), some (nm one other)] ++ oB14 (.list [rwD "load" (.str "a") 3, rwD op .none 5, rwD "return" .none 6]) (.dict []) (nm one other) (.list []) (.list []) (.list []) (.list []) on (.int 0)) ?_
    show mSeq _ _ [none, some (.list [rwD "load" (.str "a") 3, rwD op .none 5, rwD "return" .none 6]), some (nm one other), none, none, none, none, none, none, none, none, none, none] = _
    rw [E_seq (ρ1 := [none, some (.list [rwD "load" (.str "a") 3, rwD op .none 5, rwD "return" .none 6]), some (nm one other), none, none, none, none, none, none, none, none, none, none]) (by rcases ho with rfl | rfl <;> kernel_rfl), E_seq (ρ1 := [none, some (.list [rwD "load" (.str "a") 3, rwD op .none 5, rwD "return" .none 6]), some (nm one other), none, none, none, none, none, none, none, none, none, none]) (E_drop (E_call (ds := [nm one other]) (es := [nm one other]) (ρ1 := [none, some (.list [rwD "load" (.str "a") 3, rwD op .none 5, rwD "return" .none 6]), some (nm one other), none, none, none, none, none, none, none, none, none, none]) (o := [none]) rfl rfl (names_ok h1 h2)))]
    rcases ho with rfl | rfl <;> kernel_rfl
  unfold f_run m_run
  refine E_funR (ρ1 := [some (.list [rwD "load" (.str "a") 3, rwD op .none 5, rwD "return" .none 6]), some (nm one other), some (.int 9), none]) (E_make (ρ2 := [some (.list [rwD "load" (.str "a") 3, rwD op .none 5, rwD "return" .none 6]), some (nm one other), some (.int 9), none] ++ oB14 (.list [rwD "load" (.str "a") 3, rwD op .none 5, rwD "return" .none 6]) (.dict []) (nm one other) (.list []) (.list []) (.list []) (.list [.int 0, .int 1]) (.tuple [.str "fault", (.str z), .int 5]) (.int 2)) (ds := [(.list [rwD "load" (.str "a") 3, rwD op .none 5, rwD "return" .none 6]), nm one other]) (ρ1 := [some (.list [rwD "load" (.str "a") 3, rwD op .none 5, rwD "return" .none 6]), some (nm one other), some (.int 9), none]) rfl hi ?_)
  show mSeq _ _ ([some (.list [rwD "load" (.str "a") 3, rwD op .none 5, rwD "return" .none 6]), some (nm one other), some (.int 9), none] ++ oB14 (.list [rwD "load" (.str "a") 3, rwD op .none 5, rwD "return" .none 6]) (.dict []) (nm one other) (.list []) (.list []) (.list []) (.list []) on (.int 0)) = _
  rw [E_seq (ρ1 := [some (.list [rwD "load" (.str "a") 3, rwD op .none 5, rwD "return" .none 6]), some (nm one other), some (.int 9), none] ++ oB14 (.list [rwD "load" (.str "a") 3, rwD op .none 5, rwD "return" .none 6]) (.dict []) (nm one other) (.list []) (.list []) (.list []) (.list []) on (.int 0)) (by kernel_rfl)]
  have hw : whN cnd mSkip 3 ([some (.list [rwD "load" (.str "a") 3, rwD op .none 5, rwD "return" .none 6]), some (nm one other), some (.int 9), none] ++ oB14 (.list [rwD "load" (.str "a") 3, rwD op .none 5, rwD "return" .none 6]) (.dict []) (nm one other) (.list []) (.list []) (.list []) (.list []) on (.int 0)) = some (.nx, [some (.list [rwD "load" (.str "a") 3, rwD op .none 5, rwD "return" .none 6]), some (nm one other), some (.int 9), none] ++ oB14 (.list [rwD "load" (.str "a") 3, rwD op .none 5, rwD "return" .none 6]) (.dict []) (nm one other) (.list []) (.list []) (.list []) (.list [.int 0, .int 1]) (.tuple [.str "fault", (.str z), .int 5]) (.int 2)) := by
    refine (turn (by kernel_rfl) (st_u_fault_0_0 ho hz hp)).trans ?_
    refine (turn (by kernel_rfl) (st_u_fault_0_1 ho hz hp)).trans ?_
    exact halt (by kernel_rfl) (by (rcases hz with rfl | rfl | rfl) <;> (rcases ho with rfl | rfl) <;> kernel_rfl)
  rw [E_seq (ρ1 := [some (.list [rwD "load" (.str "a") 3, rwD op .none 5, rwD "return" .none 6]), some (nm one other), some (.int 9), none] ++ oB14 (.list [rwD "load" (.str "a") 3, rwD op .none 5, rwD "return" .none 6]) (.dict []) (nm one other) (.list []) (.list []) (.list []) (.list [.int 0, .int 1]) (.tuple [.str "fault", (.str z), .int 5]) (.int 2)) (E_while hw)]
  kernel_rfl
theorem st_u_fault_1_0 {op : Str} (ho : op = "neg" ∨ op = "not") {one other : D} {z : Str} (hz : hzP z) (hp : f_single [some (.str op), some one] = some (.tuple [.str "fault", (.str z)], n2)) : f_Walk_step (none :: oB14 (.list [rwD "try" (.int 1) 1, rwD "load" (.str "a") 3, rwD op .none 5, rwD "endtry" .none 1, rwD "label" (.int 1) 1, rwD "return" .none 6]) (.dict [(.int 1, .int 4)]) (nm one other) (.list []) (.list [.tuple [.int 1, .int 0]]) (.list []) (.list []) on (.int 1)) = some (.bool true, none :: oB14 (.list [rwD "try" (.int 1) 1, rwD "load" (.str "a") 3, rwD op .none 5, rwD "endtry" .none 1, rwD "label" (.int 1) 1, rwD "return" .none 6]) (.dict [(.int 1, .int 4)]) (nm one other) (.list [one]) (.list [.tuple [.int 1, .int 0]]) (.list []) (.list [.int 1]) on (.int 2)) := by
  rcases ho with rfl | rfl <;> kernel_rfl
theorem st_u_fault_1_1 {op : Str} (ho : op = "neg" ∨ op = "not") {one other : D} {z : Str} (hz : hzP z) (hp : f_single [some (.str op), some one] = some (.tuple [.str "fault", (.str z)], n2)) : f_Walk_step (none :: oB14 (.list [rwD "try" (.int 1) 1, rwD "load" (.str "a") 3, rwD op .none 5, rwD "endtry" .none 1, rwD "label" (.int 1) 1, rwD "return" .none 6]) (.dict [(.int 1, .int 4)]) (nm one other) (.list [one]) (.list [.tuple [.int 1, .int 0]]) (.list []) (.list [.int 1]) on (.int 2)) = some (.bool true, none :: oB14 (.list [rwD "try" (.int 1) 1, rwD "load" (.str "a") 3, rwD op .none 5, rwD "endtry" .none 1, rwD "label" (.int 1) 1, rwD "return" .none 6]) (.dict [(.int 1, .int 4)]) (nm one other) (.list [(.str z)]) (.list []) (.list []) (.list [.int 1, .int 2]) on (.int 5)) := by
  unfold f_Walk_step m_Walk_step
  refine E_metR (ρ1 := [none, some (rwD op .none 5), some (.str z)] ++ oB14 (.list [rwD "try" (.int 1) 1, rwD "load" (.str "a") 3, rwD op .none 5, rwD "endtry" .none 1, rwD "label" (.int 1) 1, rwD "return" .none 6]) (.dict [(.int 1, .int 4)]) (nm one other) (.list [(.str z)]) (.list []) (.list []) (.list [.int 1, .int 2]) on (.int 5)) ?_
  show mSeq _ _ ([none, none, none] ++ oB14 (.list [rwD "try" (.int 1) 1, rwD "load" (.str "a") 3, rwD op .none 5, rwD "endtry" .none 1, rwD "label" (.int 1) 1, rwD "return" .none 6]) (.dict [(.int 1, .int 4)]) (nm one other) (.list [one]) (.list [.tuple [.int 1, .int 0]]) (.list []) (.list [.int 1]) on (.int 2)) = _
  rw [E_seq (ρ1 := [none, none, none] ++ oB14 (.list [rwD "try" (.int 1) 1, rwD "load" (.str "a") 3, rwD op .none 5, rwD "endtry" .none 1, rwD "label" (.int 1) 1, rwD "return" .none 6]) (.dict [(.int 1, .int 4)]) (nm one other) (.list [one]) (.list [.tuple [.int 1, .int 0]]) (.list []) (.list [.int 1]) on (.int 2)) (by rcases ho with rfl | rfl <;> kernel_rfl), E_seq (ρ1 := [none, some (rwD op .none 5), none] ++ oB14 (.list [rwD "try" (.int 1) 1, rwD "load" (.str "a") 3, rwD op .none 5, rwD "endtry" .none 1, rwD "label" (.int 1) 1, rwD "return" .none 6]) (.dict [(.int 1, .int 4)]) (nm one other) (.list [one]) (.list [.tuple [.int 1, .int 0]]) (.list []) (.list [.int 1]) on (.int 2)) (by rcases ho with rfl | rfl <;> kernel_rfl), E_seq (ρ1 := [none, some (rwD op .none 5), none] ++ oB14 (.list [rwD "try" (.int 1) 1, rwD "load" (.str "a") 3, rwD op .none 5, rwD "endtry" .none 1, rwD "label" (.int 1) 1, rwD "return" .none 6]) (.dict [(.int 1, .int 4)]) (nm one other) (.list [one]) (.list [.tuple [.int 1, .int 0]]) (.list []) (.list [.int 1, .int 2]) on (.int 2)) (by rcases ho with rfl | rfl <;> kernel_rfl), E_seq (ρ1 := [none, some (rwD op .none 5), none] ++ oB14 (.list [rwD "try" (.int 1) 1, rwD "load" (.str "a") 3, rwD op .none 5, rwD "endtry" .none 1, rwD "label" (.int 1) 1, rwD "return" .none 6]) (.dict [(.int 1, .int 4)]) (nm one other) (.list [one]) (.list [.tuple [.int 1, .int 0]]) (.list []) (.list [.int 1, .int 2]) on (.int 3)) (by rcases ho with rfl | rfl <;> kernel_rfl),
    E_seq (ρ1 := [none, some (rwD op .none 5), some (.str z)] ++ oB14 (.list [rwD "try" (.int 1) 1, rwD "load" (.str "a") 3, rwD op .none 5, rwD "endtry" .none 1, rwD "label" (.int 1) 1, rwD "return" .none 6]) (.dict [(.int 1, .int 4)]) (nm one other) (.list []) (.list [.tuple [.int 1, .int 0]]) (.list []) (.list [.int 1, .int 2]) on (.int 3)) (E_set (E_callM (nc := 3) (np := 2) (ds := [rwD op .none 5]) (ρ1 := [none, some (rwD op .none 5), none] ++ oB14 (.list [rwD "try" (.int 1) 1, rwD "load" (.str "a") 3, rwD op .none 5, rwD "endtry" .none 1, rwD "label" (.int 1) 1, rwD "return" .none 6]) (.dict [(.int 1, .int 4)]) (nm one other) (.list [one]) (.list [.tuple [.int 1, .int 0]]) (.list []) (.list [.int 1, .int 2]) on (.int 3)) (o := none :: none :: oB14 (.list [rwD "try" (.int 1) 1, rwD "load" (.str "a") 3, rwD op .none 5, rwD "endtry" .none 1, rwD "label" (.int 1) 1, rwD "return" .none 6]) (.dict [(.int 1, .int 4)]) (nm one other) (.list []) (.list [.tuple [.int 1, .int 0]]) (.list []) (.list [.int 1, .int 2]) on (.int 3)) rfl (done_u_fault (one := one) (other := other) ho hz hp ..)))]
  (rcases hz with rfl | rfl | rfl) <;> (rcases ho with rfl | rfl) <;> kernel_rfl
theorem st_u_fault_1_2 {op : Str} (ho : op = "neg" ∨ op = "not") {one other : D} {z : Str} (hz : hzP z) (hp : f_single [some (.str op), some one] = some (.tuple [.str "fault", (.str z)], n2)) : f_Walk_step (none :: oB14 (.list [rwD "try" (.int 1) 1, rwD "load" (.str "a") 3, rwD op .none 5, rwD "endtry" .none 1, rwD "label" (.int 1) 1, rwD "return" .none 6]) (.dict [(.int 1, .int 4)]) (nm one other) (.list [(.str z)]) (.list []) (.list []) (.list [.int 1, .int 2]) on (.int 5)) = some (.bool true, none :: oB14 (.list [rwD "try" (.int 1) 1, rwD "load" (.str "a") 3, rwD op .none 5, rwD "endtry" .none 1, rwD "label" (.int 1) 1, rwD "return" .none 6]) (.dict [(.int 1, .int 4)]) (nm one other) (.list []) (.list []) (.list []) (.list [.int 1, .int 2, .int 5]) (.tuple [.str "value", (.str z)]) (.int 6)) := by
  (rcases hz with rfl | rfl | rfl) <;> (rcases ho with rfl | rfl) <;> kernel_rfl
theorem run_u_fault_1 {op : Str} (ho : op = "neg" ∨ op = "not") {one other : D} (h1 : V14 one) (h2 : V14 other) {z : Str} (hz : hzP z) (hp : f_single [some (.str op), some one] = some (.tuple [.str "fault", (.str z)], n2)) : f_run [some (.list [rwD "try" (.int 1) 1, rwD "load" (.str "a") 3, rwD op .none 5, rwD "endtry" .none 1, rwD "label" (.int 1) 1, rwD "return" .none 6]), some (nm one other), some (.int 9)] = some (.tuple [(.tuple [.str "value", (.str z)]), .list [], .int 3], n3) := by
  have hi : f_Walk___init__ ((none :: [(.list [rwD "try" (.int 1) 1, rwD "load" (.str "a") 3, rwD op .none 5, rwD "endtry" .none 1, rwD "label" (.int 1) 1, rwD "return" .none 6]), nm one other].map some) ++ List.replicate 10 none) = some (.none, [none, none, none] ++ oB14 (.list [rwD "try" (.int 1) 1, rwD "load" (.str "a") 3, rwD op .none 5, rwD "endtry" .none 1, rwD "label" (.int 1) 1, rwD "return" .none 6]) (.dict [(.int 1, .int 4)]) (nm one other) (.list []) (.list [.tuple [.int 1, .int 0]]) (.list []) (.list []) on (.int 1)) := by
    unfold f_Walk___init__ m_Walk___init__
    refine E_metN (ρ1 := [none, some (.list [rwD "try" (.int 1) 1, rwD "load" (.str "a") 3, rwD op .none 5, rwD "endtry" .none 1, rwD "label" (.int 1) 1, rwD "return" .none 6]), some (nm one other)] ++ oB14 (.list [rwD "try" (.int 1) 1, rwD "load" (.str "a") 3, rwD op .none 5, rwD "endtry" .none 1, rwD "label" (.int 1) 1, rwD "return" .none 6]) (.dict [(.int 1, .int 4)]) (nm one other) (.list []) (.list [.tuple [.int 1, .int 0]]) (.list []) (.list []) on (.int 1)) ?_
    show mSeq _ _ [none, some (.list [rwD "try" (.int 1) 1, rwD "load" (.str "a") 3, rwD op .none 5, rwD "endtry" .none 1, rwD "label" (.int 1) 1, rwD "return" .none 6]), some (nm one other), none, none, none, none, none, none, none, none, none, none] = _
    rw [E_seq (ρ1 := [none, some (.list [rwD "try" (.int 1) 1, rwD "load" (.str "a") 3, rwD op .none 5, rwD "endtry" .none 1, rwD "label" (.int 1) 1, rwD "return" .none 6]), some (nm one other), none, none, none, none, none, none, none, none, none, none]) (by rcases ho with rfl | rfl <;> kernel_rfl), E_seq (ρ1 := [none, some (.list [rwD "try" (.int 1) 1, rwD "load" (.str "a") 3, rwD op .none 5, rwD "endtry" .none 1, rwD "label" (.int 1) 1, rwD "return" .none 6]), some (nm one other), none, none, none, none, none, none, none, none, none, none]) (E_drop (E_call (ds := [nm one other]) (es := [nm one other]) (ρ1 := [none, some (.list [rwD "try" (.int 1) 1, rwD "load" (.str "a") 3, rwD op .none 5, rwD "endtry" .none 1, rwD "label" (.int 1) 1, rwD "return" .none 6]), some (nm one other), none, none, none, none, none, none, none, none, none, none]) (o := [none]) rfl rfl (names_ok h1 h2)))]
    rcases ho with rfl | rfl <;> kernel_rfl
  unfold f_run m_run
  refine E_funR (ρ1 := [some (.list [rwD "try" (.int 1) 1, rwD "load" (.str "a") 3, rwD op .none 5, rwD "endtry" .none 1, rwD "label" (.int 1) 1, rwD "return" .none 6]), some (nm one other), some (.int 9), none]) (E_make (ρ2 := [some (.list [rwD "try" (.int 1) 1, rwD "load" (.str "a") 3, rwD op .none 5, rwD "endtry" .none 1, rwD "label" (.int 1) 1, rwD "return" .none 6]), some (nm one other), some (.int 9), none] ++ oB14 (.list [rwD "try" (.int 1) 1, rwD "load" (.str "a") 3, rwD op .none 5, rwD "endtry" .none 1, rwD "label" (.int 1) 1, rwD "return" .none 6]) (.dict [(.int 1, .int 4)]) (nm one other) (.list []) (.list []) (.list []) (.list [.int 1, .int 2, .int 5]) (.tuple [.str "value", (.str z)]) (.int 6)) (ds := [(.list [rwD "try" (.int 1) 1, rwD "load" (.str "a") 3, rwD op .none 5, rwD "endtry" .none 1, rwD "label" (.int 1) 1, rwD "return" .none 6]), nm one other]) (ρ1 := [some (.list [rwD "try" (.int 1) 1, rwD "load" (.str "a") 3, rwD op .none 5, rwD "endtry" .none 1, rwD "label" (.int 1) 1, rwD "return" .none 6]), some (nm one other), some (.int 9), none]) rfl hi ?_)
  show mSeq _ _ ([some (.list [rwD "try" (.int 1) 1, rwD "load" (.str "a") 3, rwD op .none 5, rwD "endtry" .none 1, rwD "label" (.int 1) 1, rwD "return" .none 6]), some (nm one other), some (.int 9), none] ++ oB14 (.list [rwD "try" (.int 1) 1, rwD "load" (.str "a") 3, rwD op .none 5, rwD "endtry" .none 1, rwD "label" (.int 1) 1, rwD "return" .none 6]) (.dict [(.int 1, .int 4)]) (nm one other) (.list []) (.list [.tuple [.int 1, .int 0]]) (.list []) (.list []) on (.int 1)) = _
  rw [E_seq (ρ1 := [some (.list [rwD "try" (.int 1) 1, rwD "load" (.str "a") 3, rwD op .none 5, rwD "endtry" .none 1, rwD "label" (.int 1) 1, rwD "return" .none 6]), some (nm one other), some (.int 9), none] ++ oB14 (.list [rwD "try" (.int 1) 1, rwD "load" (.str "a") 3, rwD op .none 5, rwD "endtry" .none 1, rwD "label" (.int 1) 1, rwD "return" .none 6]) (.dict [(.int 1, .int 4)]) (nm one other) (.list []) (.list [.tuple [.int 1, .int 0]]) (.list []) (.list []) on (.int 1)) (by kernel_rfl)]
  have hw : whN cnd mSkip 4 ([some (.list [rwD "try" (.int 1) 1, rwD "load" (.str "a") 3, rwD op .none 5, rwD "endtry" .none 1, rwD "label" (.int 1) 1, rwD "return" .none 6]), some (nm one other), some (.int 9), none] ++ oB14 (.list [rwD "try" (.int 1) 1, rwD "load" (.str "a") 3, rwD op .none 5, rwD "endtry" .none 1, rwD "label" (.int 1) 1, rwD "return" .none 6]) (.dict [(.int 1, .int 4)]) (nm one other) (.list []) (.list [.tuple [.int 1, .int 0]]) (.list []) (.list []) on (.int 1)) = some (.nx, [some (.list [rwD "try" (.int 1) 1, rwD "load" (.str "a") 3, rwD op .none 5, rwD "endtry" .none 1, rwD "label" (.int 1) 1, rwD "return" .none 6]), some (nm one other), some (.int 9), none] ++ oB14 (.list [rwD "try" (.int 1) 1, rwD "load" (.str "a") 3, rwD op .none 5, rwD "endtry" .none 1, rwD "label" (.int 1) 1, rwD "return" .none 6]) (.dict [(.int 1, .int 4)]) (nm one other) (.list []) (.list []) (.list []) (.list [.int 1, .int 2, .int 5]) (.tuple [.str "value", (.str z)]) (.int 6)) := by
    refine (turn (by kernel_rfl) (st_u_fault_1_0 ho hz hp)).trans ?_
    refine (turn (by kernel_rfl) (st_u_fault_1_1 ho hz hp)).trans ?_
    refine (turn (by kernel_rfl) (st_u_fault_1_2 ho hz hp)).trans ?_
    exact halt (by kernel_rfl) (by (rcases hz with rfl | rfl | rfl) <;> (rcases ho with rfl | rfl) <;> kernel_rfl)
  rw [E_seq (ρ1 := [some (.list [rwD "try" (.int 1) 1, rwD "load" (.str "a") 3, rwD op .none 5, rwD "endtry" .none 1, rwD "label" (.int 1) 1, rwD "return" .none 6]), some (nm one other), some (.int 9), none] ++ oB14 (.list [rwD "try" (.int 1) 1, rwD "load" (.str "a") 3, rwD op .none 5, rwD "endtry" .none 1, rwD "label" (.int 1) 1, rwD "return" .none 6]) (.dict [(.int 1, .int 4)]) (nm one other) (.list []) (.list []) (.list []) (.list [.int 1, .int 2, .int 5]) (.tuple [.str "value", (.str z)]) (.int 6)) (E_while hw)]
  kernel_rfl
end DL

/-! S14f: texts shown. -/
namespace DL
open PySem PySem.Spec PyProof.Rows L2

theorem strOk_append {a b : Str} (ha : PyData.strOk a = true) (hb : PyData.strOk b = true) : PyData.strOk (a ++ b) = true := by
  show Array.all (a.cps ++ b.cps) _ = true
  rw [Array.all_append]
  show (PyData.strOk a && PyData.strOk b) = true
  rw [ha, hb]
  rfl
theorem strOk_ofString {s : String} : PyData.strOk (Str.ofString s) = true := by
  rw [Str.ofString_eq_toList]
  show Array.all (List.map Char.toNat s.toList).toArray _ = true
  rw [List.all_toArray]
  rw [List.all_eq_true]
  intro x hx
  obtain ⟨c, _, rfl⟩ := List.mem_map.mp hx
  have := c.valid
  have h2 : c.toNat = c.val.toNat := rfl
  rcases this with h | h
  · have h3 : c.val.toNat < 0xd800 := h
    exact decide_eq_true (by omega)
  · have h3 : c.val.toNat < 0x110000 := h.2
    exact decide_eq_true (by omega)
theorem strOk_shown {w : D} (hw : hwP w) : PyData.strOk w.shown = true := by
  rcases hw with ⟨i, rfl, _⟩ | ⟨b, rfl⟩
  · exact strOk_ofString
  · cases b <;> exact strOk_ofString
theorem leaf_shown {w : D} (hw : hwP w) : w.leavesShort 30 = true := by
  rcases hw with ⟨i, rfl, h⟩ | ⟨b, rfl⟩
  · show decide ((Str.ofString (toString i)).length ≤ 30) = true
    have e := int_text_length_le10 (k := 19) (a := i) (by decide) (by omega)
    rw [PySem.ofString_length]
    exact decide_eq_true (by omega)
  · rfl
theorem able_shown {w : D} (hw : hwP w) : w.showable = true := by
  rcases hw with ⟨i, rfl, h⟩ | ⟨b, rfl⟩
  · show decide (i.natAbs.log2 < 1920) = true
    refine decide_eq_true ?_
    by_cases h0 : i.natAbs = 0
    · rw [h0]
      decide
    · have : i.natAbs < 2 ^ 64 := by omega
      have := (Nat.log2_lt h0).mpr this
      omega
  · rfl
theorem weight_le {w : D} (hw : hwP w) : w.weight ≤ 70 := by
  rcases hw with ⟨i, rfl, h⟩ | ⟨b, rfl⟩
  · show (if i == 0 then 0 else i.natAbs.log2 + 1) ≤ 70
    split
    · omega
    · rename_i h1
      have h0 : i.natAbs ≠ 0 := fun z => h1 (by simpa using z)
      have : i.natAbs < 2 ^ 64 := by omega
      have := (Nat.log2_lt h0).mpr this
      omega
  · show 0 ≤ 70
    omega
theorem nodict {w : D} (hw : hwP w) : w.hasDict = false := by
  rcases hw with ⟨i, rfl, h⟩ | ⟨b, rfl⟩ <;> rfl
theorem depth0 {w : D} (hw : hwP w) : w.depth = 0 := by
  rcases hw with ⟨i, rfl, h⟩ | ⟨b, rfl⟩ <;> rfl
/-- what is shown of a whole run that has ended with a value -/
abbrev endV (w : D) (n : Int) : D := .tuple [.tuple [.str "value", w], .list [], .int n]
theorem shown_val {w : D} (hw : hwP w) {n : Int} (hn : 0 ≤ n ∧ n ≤ 9) : ∃ s, f__law_shown [some (endV w n)] = some (.str s, [none]) ∧ PyData.strOk s = true := by
  have hn2 : hwP (.int n) := .inl ⟨n, rfl, by omega⟩
  refine ⟨(endV w n).shown, ?_, ?_⟩
  · unfold f__law_shown m__law_shown
    refine E_funR (ρ1 := [some (endV w n)]) (E_ret (E_op (E_aCons rfl rfl) rfl ?_))
    have hs : showOk (endV w n) = true := by
      have a1 : (endV w n).showable = true := by
        show ((true && (w.showable && true)) && (true && (PyData.showable (.int n) && true))) = true
        rw [able_shown hw, able_shown hn2]
        rfl
      have a2 : (endV w n).hasDict = false := by
        show ((false || (w.hasDict || false)) || (false || (false || false))) = false
        rw [nodict hw]
        rfl
      have a3 : (endV w n).depth ≤ 60 := by
        rcases hw with ⟨i, rfl, h⟩ | ⟨b, rfl⟩ <;> exact (by decide : (2 : Nat) ≤ 60)
      have a4 : (endV w n).leavesShort 30 = true := by
        show ((true && (w.leavesShort 30 && true)) && (true && (PyData.leavesShort 30 (.int n) && true))) = true
        rw [leaf_shown hw, leaf_shown hn2]
        rfl
      have a5 : (endV w n).weight ≤ 300 := by
        show ((5 + 1 + (w.weight + 1 + 0)) + 1 + (0 + 1 + (PyData.weight (.int n) + 1 + 0))) ≤ 300
        have := weight_le hw
        have := weight_le hn2
        omega
      have a6 := PyData.shown_le 30 (by decide) (endV w n) a4
      unfold showOk
      rw [a1, a2, decide_eq_true a3, decide_eq_true (show (endV w n).shown.length ≤ 100000 by omega)]
      rfl
    show (if showOk (endV w n) = true then _ else _) = _
    rw [if_pos hs]
  · have sep : PyData.strOk (", " : Str) = true := strOk_ofString
    have t1 : PyData.strOk (tupleText [reprText "value", w.shown]) = true :=
      strOk_append (strOk_append strOk_ofString (strOk_append (strOk_append (by decide +kernel) sep) (strOk_shown hw))) strOk_ofString
    have t2 : PyData.strOk (listText []) = true := strOk_append strOk_ofString strOk_ofString
    exact strOk_append (strOk_append strOk_ofString (strOk_append (strOk_append t1 sep) (strOk_append (strOk_append t2 sep) (strOk_shown hn2)))) strOk_ofString
/-- shown, and the text is plain -/
def Sh (X : D) : Prop := ∃ s, f__law_shown [some X] = some (.str s, [none]) ∧ PyData.strOk s = true
theorem sh_valZ {z : Str} (hz : hzP z) {n : Int} (hn : n = 3 ∨ n = 4) : Sh (endV (.str z) n) := by
  refine ⟨(endV (.str z) n).shown, ?_, ?_⟩
  · rcases hz with rfl | rfl | rfl <;> rcases hn with rfl | rfl <;> kernel_rfl
  · rcases hz with rfl | rfl | rfl <;> rcases hn with rfl | rfl <;> decide +kernel
abbrev endF14 (z : Str) (n : Int) : D := .tuple [.tuple [.str "fault", .str z, .int 5], .list [], .int n]
theorem sh_fault {z : Str} (hz : hzP z) {n : Int} (hn : n = 2 ∨ n = 3) : Sh (endF14 z n) := by
  refine ⟨(endF14 z n).shown, ?_, ?_⟩
  · rcases hz with rfl | rfl | rfl <;> rcases hn with rfl | rfl <;> kernel_rfl
  · rcases hz with rfl | rfl | rfl <;> rcases hn with rfl | rfl <;> decide +kernel
theorem sh_ne {s : Str} (h : PyData.strOk s = true) : dNeU [.str s, .str s] = some (.bool false) := by
  refine orD_l (dNe_same (n := 0) ⟨?_, rfl, ?_⟩)
  · exact h
  · exact Nat.le_refl 0
theorem sh_eq {s : Str} (h : PyData.strOk s = true) : dEqU [.str s, .str s] = some (.bool true) := by
  refine orD_l (dEq_same (n := 0) ⟨?_, rfl, ?_⟩)
  · exact h
  · exact Nat.le_refl 0
end DL

/-! S14g: the law. -/
namespace DL
open PySem PySem.Spec PyProof.Rows L2

theorem E_par {i j : Nat} {ma : MA} {ρ ρ1 : En} {d1 d2 : D} (h : ma ρ = some ([d1, d2], ρ1)) : mPar i j ma ρ = some (.nx, (ρ1.set i (some d1)).set j (some d2)) := by
  show (ma ρ).bind _ = _
  rw [h]
  rfl
theorem E_lst {ma : MA} {ρ ρ1 : En} {ds : List D} (h : ma ρ = some (ds, ρ1)) : mLst ma ρ = some (.list ds, ρ1) := by
  show (ma ρ).map _ = _
  rw [h]
  rfl
theorem E_rep {m mb : M} {ρ ρ1 ρ2 : En} {d e z : D} (h : m ρ = some (d, ρ1)) (k : mb ρ1 = some (e, ρ2)) (hz : dRep [d, e] = some z) : mRep m mb ρ = some (z, ρ2) := by
  show (m ρ).bind _ = _
  rw [h]
  show (mb ρ1).bind _ = _
  rw [k]
  show (dRep [d, e]).map _ = _
  rw [hz]
  rfl
/-! ### a value drawn -/
abbrev base15 : List D := [.int 0, .int 1, .int (-1), .int 2, .int (-2), .int 7, .int (-7), .int 1000000000000000000, .int (-1000000000000000000), .int 1000000000, .int 999999999999999999, .bool true, .bool false, .none, .str "Oops"]
abbrev six (x : Int) : List D := [.int x, .int x, .int x, .int x, .int x, .int x]
theorem v14_mem {x : Int} (hx : -100 ≤ x ∧ x ≤ 100) : ∀ d ∈ base15 ++ six x, V14 d := by
  intro d h
  simp only [base15, six, List.cons_append, List.nil_append, List.mem_cons, List.not_mem_nil, or_false] at h
  rcases h with rfl | rfl | rfl | rfl | rfl | rfl | rfl | rfl | rfl | rfl | rfl | rfl | rfl | rfl | rfl | rfl | rfl | rfl | rfl | rfl | rfl <;> first | exact .non | exact .bl _ | exact .oops | exact .int _ (by omega)
theorem any_ok {ns : List Int} {k : Nat} {t : D} (hT : Town ns k t) (hk : k + 1 < 1000000) : ∃ d t', f__law_any [some (dL ns), some t] = some (d, [none, some t']) ∧ V14 d ∧ Town ns (k + 2) t' := by
  obtain ⟨_, _, e1, r, t1, rfl, h1, h2, rfl, hT1⟩ := draw_ok hT (by omega) (many := 200) (by omega) (by omega)
  obtain ⟨d, _, e2, t2, h3, rfl, hT2⟩ := pick_ok (xs := base15 ++ six (r - 100)) hT1 hk (show 0 < 21 by decide) (show 21 < 1073741824 by decide)
  refine ⟨d, t2, ?_, v14_mem (by omega) d h3, hT2⟩
  unfold f__law_any m__law_any
  refine E_funR (ρ1 := [some (dL ns), some t2, some (.int 1000000000000000000), some (.list base15)]) ?_
  show mSeq _ _ [some (dL ns), some t, none, none] = _
  rw [E_seq (ρ1 := [some (dL ns), some t, some (.int 1000000000000000000), none]) (by kernel_rfl), E_seq (ρ1 := [some (dL ns), some t, some (.int 1000000000000000000), some (.list base15)]) (by kernel_rfl)]
  have hd : (mCall f__law_draw [.fz, .br 1, .fz] [] (maCons (mVar 0) (maCons (mBr 1) (maCons (mC (.int 200)) maNil)))) [some (dL ns), some t, some (.int 1000000000000000000), some (.list base15)] = some (.int r, [some (dL ns), some t1, some (.int 1000000000000000000), some (.list base15)]) :=
    E_call (ds := [dL ns, .none, .int 200]) (es := [dL ns, t, .int 200]) (ρ1 := [some (dL ns), some t, some (.int 1000000000000000000), some (.list base15)]) (o := [none, some t1, none]) rfl rfl e1
  exact E_ret (E_call (ds := [dL ns, .none, .list (base15 ++ six (r - 100))]) (es := [dL ns, t1, .list (base15 ++ six (r - 100))]) (ρ1 := [some (dL ns), some t1, some (.int 1000000000000000000), some (.list base15)]) (o := [none, some t2, none])
    (E_aCons (ρ1 := [some (dL ns), some t, some (.int 1000000000000000000), some (.list base15)]) rfl (E_aCons (ρ1 := [some (dL ns), some t, some (.int 1000000000000000000), some (.list base15)]) rfl
      (E_aCons (E_m2 (d := .list base15) (e := .list (six (r - 100))) (es := [.list base15, .list (six (r - 100))]) (ρ1 := [some (dL ns), some t, some (.int 1000000000000000000), some (.list base15)]) rfl
        (E_rep (d := .list [.int (r - 100)]) (e := .int 6) (E_lst (E_aCons (E_m2 (d := .int r) (e := .int 100) (es := [.int r, .int 100]) hd rfl rfl rfl) rfl)) rfl (by kernel_rfl)) rfl (by kernel_rfl)) rfl)))
    rfl e2)
/-! ### the law behind its draws -/
def tail14 : MS := (mSeq (mSet 5 (mLst (maCons (mTup (maCons (mC (.str "load")) (maCons (mC (.str "a")) (maCons (mC (.int 3)) maNil)))) (maCons (mTup (maCons (mC (.str "load")) (maCons (mC (.str "b")) (maCons (mC (.int 4)) maNil)))) (maCons (mTup (maCons (mVar 4) (maCons (mC .none) (maCons (mC (.int 5)) maNil)))) maNil)))))
  (mSeq (mIte (mTr (m2 (.fz) (.fz) (mVar 4) (mTup (maCons (mC (.str "neg")) (maCons (mC (.str "not")) maNil))) dInU)) (mSet 5 (m2 (.fz) (.fz) (mSl (.fz) (mVar 5) mNo (mPt (mC (.int 1))) dSlU) (mSl (.fz) (mVar 5) (mPt (mC (.int 2))) mNo dSlU) dAddU)) mSkip)
  (mSeq (mSet 6 (mSl (.ow) (mLst (maCons (mVar 2) (maCons (mVar 3) maNil))) mNo (mPt (m2 (.fz) (.fz) (mOp [.fz] (maCons (mVar 5) maNil) dLenU) (mC (.int 1)) dSub)) dSlL))
  (mSeq (mSet 7 (mCall f__law_made [.fz, .br 6] [] (maCons (mVar 4) (maCons (mBr 6) maNil))))
  (mSeq (mSet 8 (mDisp (mpCons (mC (.str "a")) (mVar 2) (mpCons (mC (.str "b")) (mVar 3) mpNil))))
  (mSeq (mSet 9 (mIf (mTr (m2 (.fz) (.fz) (mVar 7) (mC .none) dNotN)) (mTup (maCons (mC (.str "fault")) (maCons (mVar 7) (maCons (mC (.int 5)) maNil)))) (mTup (maCons (mC (.str "value")) (maCons (m2 (.br 6) (.fz) (mBr 6) (m1 (.fz) (mC (.int 1)) dNeg) dIxU) maNil)))))
  (mSeq (mSet 10 (mCall f_run [.fz, .fz, .fz] [] (maCons (m2 (.fz) (.ow) (mVar 5) (mLst (maCons (mTup (maCons (mC (.str "return")) (maCons (mC .none) (maCons (mC (.int 6)) maNil)))) maNil)) dAddU) (maCons (mVar 8) (maCons (mC (.int 9)) maNil)))))
  (mSeq (mIte (mTr (m2 (.fz) (.fz) (mCall f__law_shown [.fz] [] (maCons (mVar 10) maNil)) (mCall f__law_shown [.fz] [] (maCons (mTup (maCons (mVar 9) (maCons (mLst maNil) (maCons (m2 (.fz) (.fz) (mOp [.fz] (maCons (mVar 5) maNil) dLenU) (mIf (mTr (m2 (.fz) (.fz) (mVar 7) (mC .none) dIsN)) (mC (.int 1)) (mC (.int 0))) dAddU) maNil)))) maNil)) dNeU)) (mRet (mC (.bool false))) mSkip)
  (mSeq (mSet 11 (m2 (.fz) (.ow) (m2 (.ow) (.fz) (mLst (maCons (mTup (maCons (mC (.str "try")) (maCons (mC (.int 1)) (maCons (mC (.int 1)) maNil)))) maNil)) (mVar 5) dAddU) (mLst (maCons (mTup (maCons (mC (.str "endtry")) (maCons (mC .none) (maCons (mC (.int 1)) maNil)))) (maCons (mTup (maCons (mC (.str "label")) (maCons (mC (.int 1)) (maCons (mC (.int 1)) maNil)))) (maCons (mTup (maCons (mC (.str "return")) (maCons (mC .none) (maCons (mC (.int 6)) maNil)))) maNil)))) dAddU))
  (mSeq (mSet 10 (mCall f_run [.fz, .fz, .fz] [] (maCons (mVar 11) (maCons (mVar 8) (maCons (mC (.int 9)) maNil)))))
  (mSeq (mSet 12 (mIf (mTr (m2 (.fz) (.fz) (mVar 7) (mC .none) dNotN)) (mVar 7) (m2 (.br 6) (.fz) (mBr 6) (m1 (.fz) (mC (.int 1)) dNeg) dIxU)))
  (mRet (m2 (.fz) (.fz) (mCall f__law_shown [.fz] [] (maCons (mVar 10) maNil)) (mCall f__law_shown [.fz] [] (maCons (mTup (maCons (mTup (maCons (mC (.str "value")) (maCons (mVar 12) maNil))) (maCons (mLst maNil) (maCons (m2 (.fz) (.fz) (mOp [.fz] (maCons (mVar 5) maNil) dLenU) (mC (.int 1)) dAddU) maNil)))) maNil)) dEqU)))))))))))))
theorem tail_b_found {op : Str} (ho : op ∈ pops) {a b : Option D} {one other : D} (h1 : V14 one) (h2 : V14 other) {w : D} (hw : hwP w) (hp : f_paired [some (.str op), some one, some other] = some (.tuple [.str "found", w], n3)) (hm : f__law_made [some (.str op), some (.list [one, other])] = some (.none, [none, some (.list [w])])) : ∃ ρ, tail14 [a, b, some one, some other, some (.str op), none, none, none, none, none, none, none, none] = some (.rt (.bool true), ρ) := by
  obtain ⟨s0, q0, k0⟩ : Sh (endV w 4) := (shown_val hw (by omega))
  obtain ⟨s1, q1, k1⟩ : Sh (endV w 4) := (shown_val hw (by omega))
  have m0 : (mCall f__law_made [.fz, .br 6] [] (maCons (mVar 4) (maCons (mBr 6) maNil))) [a, b, some one, some other, some (.str op), some (.list [rwD "load" (.str "a") 3, rwD "load" (.str "b") 4, rwD op .none 5]), some (.list [one, other]), none, none, none, none, none, none] = some (.none, [a, b, some one, some other, some (.str op), some (.list [rwD "load" (.str "a") 3, rwD "load" (.str "b") 4, rwD op .none 5]), some (.list [w]), none, none, none, none, none, none]) := E_call (ds := [.str op, .none]) (es := [.str op, (.list [one, other])]) (ρ1 := [a, b, some one, some other, some (.str op), some (.list [rwD "load" (.str "a") 3, rwD "load" (.str "b") 4, rwD op .none 5]), some (.list [one, other]), none, none, none, none, none, none]) (o := [none, some (.list [w])]) rfl rfl hm
  have r0 : (mCall f_run [.fz, .fz, .fz] [] (maCons (m2 (.fz) (.ow) (mVar 5) (mLst (maCons (mTup (maCons (mC (.str "return")) (maCons (mC .none) (maCons (mC (.int 6)) maNil)))) maNil)) dAddU) (maCons (mVar 8) (maCons (mC (.int 9)) maNil)))) [a, b, some one, some other, some (.str op), some (.list [rwD "load" (.str "a") 3, rwD "load" (.str "b") 4, rwD op .none 5]), some (.list [w]), some .none, some (nm one other), some (.tuple [.str "value", w]), none, none, none] = some ((endV w 4), [a, b, some one, some other, some (.str op), some (.list [rwD "load" (.str "a") 3, rwD "load" (.str "b") 4, rwD op .none 5]), some (.list [w]), some .none, some (nm one other), some (.tuple [.str "value", w]), none, none, none]) := E_call (ds := [(.list [rwD "load" (.str "a") 3, rwD "load" (.str "b") 4, rwD op .none 5, rwD "return" .none 6]), nm one other, .int 9]) (es := [(.list [rwD "load" (.str "a") 3, rwD "load" (.str "b") 4, rwD op .none 5, rwD "return" .none 6]), nm one other, .int 9]) (ρ1 := [a, b, some one, some other, some (.str op), some (.list [rwD "load" (.str "a") 3, rwD "load" (.str "b") 4, rwD op .none 5]), some (.list [w]), some .none, some (nm one other), some (.tuple [.str "value", w]), none, none, none]) (o := n3) (by kernel_rfl) rfl (run_b_found_0 ho h1 h2 hw hp)
  have r1 : (mCall f_run [.fz, .fz, .fz] [] (maCons (mVar 11) (maCons (mVar 8) (maCons (mC (.int 9)) maNil)))) [a, b, some one, some other, some (.str op), some (.list [rwD "load" (.str "a") 3, rwD "load" (.str "b") 4, rwD op .none 5]), some (.list [w]), some .none, some (nm one other), some (.tuple [.str "value", w]), some (endV w 4), some (.list [rwD "try" (.int 1) 1, rwD "load" (.str "a") 3, rwD "load" (.str "b") 4, rwD op .none 5, rwD "endtry" .none 1, rwD "label" (.int 1) 1, rwD "return" .none 6]), none] = some ((endV w 4), [a, b, some one, some other, some (.str op), some (.list [rwD "load" (.str "a") 3, rwD "load" (.str "b") 4, rwD op .none 5]), some (.list [w]), some .none, some (nm one other), some (.tuple [.str "value", w]), some (endV w 4), some (.list [rwD "try" (.int 1) 1, rwD "load" (.str "a") 3, rwD "load" (.str "b") 4, rwD op .none 5, rwD "endtry" .none 1, rwD "label" (.int 1) 1, rwD "return" .none 6]), none]) := E_call (ds := [(.list [rwD "try" (.int 1) 1, rwD "load" (.str "a") 3, rwD "load" (.str "b") 4, rwD op .none 5, rwD "endtry" .none 1, rwD "label" (.int 1) 1, rwD "return" .none 6]), nm one other, .int 9]) (es := [(.list [rwD "try" (.int 1) 1, rwD "load" (.str "a") 3, rwD "load" (.str "b") 4, rwD op .none 5, rwD "endtry" .none 1, rwD "label" (.int 1) 1, rwD "return" .none 6]), nm one other, .int 9]) (ρ1 := [a, b, some one, some other, some (.str op), some (.list [rwD "load" (.str "a") 3, rwD "load" (.str "b") 4, rwD op .none 5]), some (.list [w]), some .none, some (nm one other), some (.tuple [.str "value", w]), some (endV w 4), some (.list [rwD "try" (.int 1) 1, rwD "load" (.str "a") 3, rwD "load" (.str "b") 4, rwD op .none 5, rwD "endtry" .none 1, rwD "label" (.int 1) 1, rwD "return" .none 6]), none]) (o := n3) (by kernel_rfl) rfl (run_b_found_1 ho h1 h2 hw hp)
  have p0 : (mCall f__law_shown [.fz] [] (maCons (mVar 10) maNil)) [a, b, some one, some other, some (.str op), some (.list [rwD "load" (.str "a") 3, rwD "load" (.str "b") 4, rwD op .none 5]), some (.list [w]), some .none, some (nm one other), some (.tuple [.str "value", w]), some (endV w 4), none, none] = some (.str s0, [a, b, some one, some other, some (.str op), some (.list [rwD "load" (.str "a") 3, rwD "load" (.str "b") 4, rwD op .none 5]), some (.list [w]), some .none, some (nm one other), some (.tuple [.str "value", w]), some (endV w 4), none, none]) := E_call (ds := [(endV w 4)]) (es := [(endV w 4)]) (ρ1 := [a, b, some one, some other, some (.str op), some (.list [rwD "load" (.str "a") 3, rwD "load" (.str "b") 4, rwD op .none 5]), some (.list [w]), some .none, some (nm one other), some (.tuple [.str "value", w]), some (endV w 4), none, none]) (o := [none]) rfl rfl q0
  have p1 : (mCall f__law_shown [.fz] [] (maCons (mTup (maCons (mVar 9) (maCons (mLst maNil) (maCons (m2 (.fz) (.fz) (mOp [.fz] (maCons (mVar 5) maNil) dLenU) (mIf (mTr (m2 (.fz) (.fz) (mVar 7) (mC .none) dIsN)) (mC (.int 1)) (mC (.int 0))) dAddU) maNil)))) maNil)) [a, b, some one, some other, some (.str op), some (.list [rwD "load" (.str "a") 3, rwD "load" (.str "b") 4, rwD op .none 5]), some (.list [w]), some .none, some (nm one other), some (.tuple [.str "value", w]), some (endV w 4), none, none] = some (.str s0, [a, b, some one, some other, some (.str op), some (.list [rwD "load" (.str "a") 3, rwD "load" (.str "b") 4, rwD op .none 5]), some (.list [w]), some .none, some (nm one other), some (.tuple [.str "value", w]), some (endV w 4), none, none]) := E_call (ds := [(endV w 4)]) (es := [(endV w 4)]) (ρ1 := [a, b, some one, some other, some (.str op), some (.list [rwD "load" (.str "a") 3, rwD "load" (.str "b") 4, rwD op .none 5]), some (.list [w]), some .none, some (nm one other), some (.tuple [.str "value", w]), some (endV w 4), none, none]) (o := [none]) (by kernel_rfl) rfl q0
  have c0 : (mIte (mTr (m2 (.fz) (.fz) (mCall f__law_shown [.fz] [] (maCons (mVar 10) maNil)) (mCall f__law_shown [.fz] [] (maCons (mTup (maCons (mVar 9) (maCons (mLst maNil) (maCons (m2 (.fz) (.fz) (mOp [.fz] (maCons (mVar 5) maNil) dLenU) (mIf (mTr (m2 (.fz) (.fz) (mVar 7) (mC .none) dIsN)) (mC (.int 1)) (mC (.int 0))) dAddU) maNil)))) maNil)) dNeU)) (mRet (mC (.bool false))) mSkip) [a, b, some one, some other, some (.str op), some (.list [rwD "load" (.str "a") 3, rwD "load" (.str "b") 4, rwD op .none 5]), some (.list [w]), some .none, some (nm one other), some (.tuple [.str "value", w]), some (endV w 4), none, none] = some (.nx, [a, b, some one, some other, some (.str op), some (.list [rwD "load" (.str "a") 3, rwD "load" (.str "b") 4, rwD op .none 5]), some (.list [w]), some .none, some (nm one other), some (.tuple [.str "value", w]), some (endV w 4), none, none]) := E_iteF (a := mRet (mC (.bool false))) (b := mSkip) (E_tr (E_m2 (k := .fz) (k2 := .fz) (op := dNeU) (es := [.str s0, .str s0]) p0 p1 rfl (sh_ne k0)))
  have p2 : (mCall f__law_shown [.fz] [] (maCons (mVar 10) maNil)) [a, b, some one, some other, some (.str op), some (.list [rwD "load" (.str "a") 3, rwD "load" (.str "b") 4, rwD op .none 5]), some (.list [w]), some .none, some (nm one other), some (.tuple [.str "value", w]), some (endV w 4), some (.list [rwD "try" (.int 1) 1, rwD "load" (.str "a") 3, rwD "load" (.str "b") 4, rwD op .none 5, rwD "endtry" .none 1, rwD "label" (.int 1) 1, rwD "return" .none 6]), some w] = some (.str s1, [a, b, some one, some other, some (.str op), some (.list [rwD "load" (.str "a") 3, rwD "load" (.str "b") 4, rwD op .none 5]), some (.list [w]), some .none, some (nm one other), some (.tuple [.str "value", w]), some (endV w 4), some (.list [rwD "try" (.int 1) 1, rwD "load" (.str "a") 3, rwD "load" (.str "b") 4, rwD op .none 5, rwD "endtry" .none 1, rwD "label" (.int 1) 1, rwD "return" .none 6]), some w]) := E_call (ds := [(endV w 4)]) (es := [(endV w 4)]) (ρ1 := [a, b, some one, some other, some (.str op), some (.list [rwD "load" (.str "a") 3, rwD "load" (.str "b") 4, rwD op .none 5]), some (.list [w]), some .none, some (nm one other), some (.tuple [.str "value", w]), some (endV w 4), some (.list [rwD "try" (.int 1) 1, rwD "load" (.str "a") 3, rwD "load" (.str "b") 4, rwD op .none 5, rwD "endtry" .none 1, rwD "label" (.int 1) 1, rwD "return" .none 6]), some w]) (o := [none]) rfl rfl q1
  have p3 : (mCall f__law_shown [.fz] [] (maCons (mTup (maCons (mTup (maCons (mC (.str "value")) (maCons (mVar 12) maNil))) (maCons (mLst maNil) (maCons (m2 (.fz) (.fz) (mOp [.fz] (maCons (mVar 5) maNil) dLenU) (mC (.int 1)) dAddU) maNil)))) maNil)) [a, b, some one, some other, some (.str op), some (.list [rwD "load" (.str "a") 3, rwD "load" (.str "b") 4, rwD op .none 5]), some (.list [w]), some .none, some (nm one other), some (.tuple [.str "value", w]), some (endV w 4), some (.list [rwD "try" (.int 1) 1, rwD "load" (.str "a") 3, rwD "load" (.str "b") 4, rwD op .none 5, rwD "endtry" .none 1, rwD "label" (.int 1) 1, rwD "return" .none 6]), some w] = some (.str s1, [a, b, some one, some other, some (.str op), some (.list [rwD "load" (.str "a") 3, rwD "load" (.str "b") 4, rwD op .none 5]), some (.list [w]), some .none, some (nm one other), some (.tuple [.str "value", w]), some (endV w 4), some (.list [rwD "try" (.int 1) 1, rwD "load" (.str "a") 3, rwD "load" (.str "b") 4, rwD op .none 5, rwD "endtry" .none 1, rwD "label" (.int 1) 1, rwD "return" .none 6]), some w]) := E_call (ds := [(endV w 4)]) (es := [(endV w 4)]) (ρ1 := [a, b, some one, some other, some (.str op), some (.list [rwD "load" (.str "a") 3, rwD "load" (.str "b") 4, rwD op .none 5]), some (.list [w]), some .none, some (nm one other), some (.tuple [.str "value", w]), some (endV w 4), some (.list [rwD "try" (.int 1) 1, rwD "load" (.str "a") 3, rwD "load" (.str "b") 4, rwD op .none 5, rwD "endtry" .none 1, rwD "label" (.int 1) 1, rwD "return" .none 6]), some w]) (o := [none]) (by kernel_rfl) rfl q1
  have c1 := E_m2 (k := .fz) (k2 := .fz) (op := dEqU) (es := [.str s1, .str s1]) p2 p3 rfl (sh_eq k1)
  refine ⟨[a, b, some one, some other, some (.str op), some (.list [rwD "load" (.str "a") 3, rwD "load" (.str "b") 4, rwD op .none 5]), some (.list [w]), some .none, some (nm one other), some (.tuple [.str "value", w]), some (endV w 4), some (.list [rwD "try" (.int 1) 1, rwD "load" (.str "a") 3, rwD "load" (.str "b") 4, rwD op .none 5, rwD "endtry" .none 1, rwD "label" (.int 1) 1, rwD "return" .none 6]), some w], ?_⟩
  unfold tail14
  refine Eq.trans (E_seq (ρ1 := [a, b, some one, some other, some (.str op), some (.list [rwD "load" (.str "a") 3, rwD "load" (.str "b") 4, rwD op .none 5]), none, none, none, none, none, none, none]) (by kernel_rfl)) ?_
  refine Eq.trans (E_seq (ρ1 := [a, b, some one, some other, some (.str op), some (.list [rwD "load" (.str "a") 3, rwD "load" (.str "b") 4, rwD op .none 5]), none, none, none, none, none, none, none]) (by simp only [pops, List.mem_cons, List.not_mem_nil, or_false] at ho; rcases ho with rfl | rfl | rfl | rfl | rfl | rfl | rfl <;> kernel_rfl)) ?_
  refine Eq.trans (E_seq (ρ1 := [a, b, some one, some other, some (.str op), some (.list [rwD "load" (.str "a") 3, rwD "load" (.str "b") 4, rwD op .none 5]), some (.list [one, other]), none, none, none, none, none, none]) (by kernel_rfl)) ?_
  refine Eq.trans (E_seq (ρ1 := [a, b, some one, some other, some (.str op), some (.list [rwD "load" (.str "a") 3, rwD "load" (.str "b") 4, rwD op .none 5]), some (.list [w]), some .none, none, none, none, none, none]) (E_set (i := 7) (d := .none) (ρ1 := [a, b, some one, some other, some (.str op), some (.list [rwD "load" (.str "a") 3, rwD "load" (.str "b") 4, rwD op .none 5]), some (.list [w]), none, none, none, none, none, none]) m0)) ?_
  refine Eq.trans (E_seq (ρ1 := [a, b, some one, some other, some (.str op), some (.list [rwD "load" (.str "a") 3, rwD "load" (.str "b") 4, rwD op .none 5]), some (.list [w]), some .none, some (nm one other), none, none, none, none]) (by kernel_rfl)) ?_
  refine Eq.trans (E_seq (ρ1 := [a, b, some one, some other, some (.str op), some (.list [rwD "load" (.str "a") 3, rwD "load" (.str "b") 4, rwD op .none 5]), some (.list [w]), some .none, some (nm one other), some (.tuple [.str "value", w]), none, none, none]) (by kernel_rfl)) ?_
  refine Eq.trans (E_seq (ρ1 := [a, b, some one, some other, some (.str op), some (.list [rwD "load" (.str "a") 3, rwD "load" (.str "b") 4, rwD op .none 5]), some (.list [w]), some .none, some (nm one other), some (.tuple [.str "value", w]), some (endV w 4), none, none]) (E_set (i := 10) (d := (endV w 4)) (ρ1 := [a, b, some one, some other, some (.str op), some (.list [rwD "load" (.str "a") 3, rwD "load" (.str "b") 4, rwD op .none 5]), some (.list [w]), some .none, some (nm one other), some (.tuple [.str "value", w]), none, none, none]) r0)) ?_
  refine Eq.trans (E_seq (ρ1 := [a, b, some one, some other, some (.str op), some (.list [rwD "load" (.str "a") 3, rwD "load" (.str "b") 4, rwD op .none 5]), some (.list [w]), some .none, some (nm one other), some (.tuple [.str "value", w]), some (endV w 4), none, none]) c0) ?_
  refine Eq.trans (E_seq (ρ1 := [a, b, some one, some other, some (.str op), some (.list [rwD "load" (.str "a") 3, rwD "load" (.str "b") 4, rwD op .none 5]), some (.list [w]), some .none, some (nm one other), some (.tuple [.str "value", w]), some (endV w 4), some (.list [rwD "try" (.int 1) 1, rwD "load" (.str "a") 3, rwD "load" (.str "b") 4, rwD op .none 5, rwD "endtry" .none 1, rwD "label" (.int 1) 1, rwD "return" .none 6]), none]) (by kernel_rfl)) ?_
  refine Eq.trans (E_seq (ρ1 := [a, b, some one, some other, some (.str op), some (.list [rwD "load" (.str "a") 3, rwD "load" (.str "b") 4, rwD op .none 5]), some (.list [w]), some .none, some (nm one other), some (.tuple [.str "value", w]), some (endV w 4), some (.list [rwD "try" (.int 1) 1, rwD "load" (.str "a") 3, rwD "load" (.str "b") 4, rwD op .none 5, rwD "endtry" .none 1, rwD "label" (.int 1) 1, rwD "return" .none 6]), none]) (E_set (i := 10) (d := (endV w 4)) (ρ1 := [a, b, some one, some other, some (.str op), some (.list [rwD "load" (.str "a") 3, rwD "load" (.str "b") 4, rwD op .none 5]), some (.list [w]), some .none, some (nm one other), some (.tuple [.str "value", w]), some (endV w 4), some (.list [rwD "try" (.int 1) 1, rwD "load" (.str "a") 3, rwD "load" (.str "b") 4, rwD op .none 5, rwD "endtry" .none 1, rwD "label" (.int 1) 1, rwD "return" .none 6]), none]) r1)) ?_
  refine Eq.trans (E_seq (ρ1 := [a, b, some one, some other, some (.str op), some (.list [rwD "load" (.str "a") 3, rwD "load" (.str "b") 4, rwD op .none 5]), some (.list [w]), some .none, some (nm one other), some (.tuple [.str "value", w]), some (endV w 4), some (.list [rwD "try" (.int 1) 1, rwD "load" (.str "a") 3, rwD "load" (.str "b") 4, rwD op .none 5, rwD "endtry" .none 1, rwD "label" (.int 1) 1, rwD "return" .none 6]), some w]) (by kernel_rfl)) ?_
  exact E_ret c1
theorem tail_b_fault {op : Str} (ho : op ∈ pops) {a b : Option D} {one other : D} (h1 : V14 one) (h2 : V14 other) {z : Str} (hz : hzP z) (hp : f_paired [some (.str op), some one, some other] = some (.tuple [.str "fault", (.str z)], n3)) (hm : f__law_made [some (.str op), some (.list [one, other])] = some ((.str z), [none, some (.list [])])) : ∃ ρ, tail14 [a, b, some one, some other, some (.str op), none, none, none, none, none, none, none, none] = some (.rt (.bool true), ρ) := by
  obtain ⟨s0, q0, k0⟩ : Sh (endF14 z 3) := (sh_fault hz (by decide))
  obtain ⟨s1, q1, k1⟩ : Sh (endV (.str z) 4) := (sh_valZ hz (by decide))
  have m0 : (mCall f__law_made [.fz, .br 6] [] (maCons (mVar 4) (maCons (mBr 6) maNil))) [a, b, some one, some other, some (.str op), some (.list [rwD "load" (.str "a") 3, rwD "load" (.str "b") 4, rwD op .none 5]), some (.list [one, other]), none, none, none, none, none, none] = some ((.str z), [a, b, some one, some other, some (.str op), some (.list [rwD "load" (.str "a") 3, rwD "load" (.str "b") 4, rwD op .none 5]), some (.list []), none, none, none, none, none, none]) := E_call (ds := [.str op, .none]) (es := [.str op, (.list [one, other])]) (ρ1 := [a, b, some one, some other, some (.str op), some (.list [rwD "load" (.str "a") 3, rwD "load" (.str "b") 4, rwD op .none 5]), some (.list [one, other]), none, none, none, none, none, none]) (o := [none, some (.list [])]) rfl rfl hm
  have r0 : (mCall f_run [.fz, .fz, .fz] [] (maCons (m2 (.fz) (.ow) (mVar 5) (mLst (maCons (mTup (maCons (mC (.str "return")) (maCons (mC .none) (maCons (mC (.int 6)) maNil)))) maNil)) dAddU) (maCons (mVar 8) (maCons (mC (.int 9)) maNil)))) [a, b, some one, some other, some (.str op), some (.list [rwD "load" (.str "a") 3, rwD "load" (.str "b") 4, rwD op .none 5]), some (.list []), some (.str z), some (nm one other), some (.tuple [.str "fault", .str z, .int 5]), none, none, none] = some ((endF14 z 3), [a, b, some one, some other, some (.str op), some (.list [rwD "load" (.str "a") 3, rwD "load" (.str "b") 4, rwD op .none 5]), some (.list []), some (.str z), some (nm one other), some (.tuple [.str "fault", .str z, .int 5]), none, none, none]) := E_call (ds := [(.list [rwD "load" (.str "a") 3, rwD "load" (.str "b") 4, rwD op .none 5, rwD "return" .none 6]), nm one other, .int 9]) (es := [(.list [rwD "load" (.str "a") 3, rwD "load" (.str "b") 4, rwD op .none 5, rwD "return" .none 6]), nm one other, .int 9]) (ρ1 := [a, b, some one, some other, some (.str op), some (.list [rwD "load" (.str "a") 3, rwD "load" (.str "b") 4, rwD op .none 5]), some (.list []), some (.str z), some (nm one other), some (.tuple [.str "fault", .str z, .int 5]), none, none, none]) (o := n3) (by kernel_rfl) rfl (run_b_fault_0 ho h1 h2 hz hp)
  have r1 : (mCall f_run [.fz, .fz, .fz] [] (maCons (mVar 11) (maCons (mVar 8) (maCons (mC (.int 9)) maNil)))) [a, b, some one, some other, some (.str op), some (.list [rwD "load" (.str "a") 3, rwD "load" (.str "b") 4, rwD op .none 5]), some (.list []), some (.str z), some (nm one other), some (.tuple [.str "fault", .str z, .int 5]), some (endF14 z 3), some (.list [rwD "try" (.int 1) 1, rwD "load" (.str "a") 3, rwD "load" (.str "b") 4, rwD op .none 5, rwD "endtry" .none 1, rwD "label" (.int 1) 1, rwD "return" .none 6]), none] = some ((endV (.str z) 4), [a, b, some one, some other, some (.str op), some (.list [rwD "load" (.str "a") 3, rwD "load" (.str "b") 4, rwD op .none 5]), some (.list []), some (.str z), some (nm one other), some (.tuple [.str "fault", .str z, .int 5]), some (endF14 z 3), some (.list [rwD "try" (.int 1) 1, rwD "load" (.str "a") 3, rwD "load" (.str "b") 4, rwD op .none 5, rwD "endtry" .none 1, rwD "label" (.int 1) 1, rwD "return" .none 6]), none]) := E_call (ds := [(.list [rwD "try" (.int 1) 1, rwD "load" (.str "a") 3, rwD "load" (.str "b") 4, rwD op .none 5, rwD "endtry" .none 1, rwD "label" (.int 1) 1, rwD "return" .none 6]), nm one other, .int 9]) (es := [(.list [rwD "try" (.int 1) 1, rwD "load" (.str "a") 3, rwD "load" (.str "b") 4, rwD op .none 5, rwD "endtry" .none 1, rwD "label" (.int 1) 1, rwD "return" .none 6]), nm one other, .int 9]) (ρ1 := [a, b, some one, some other, some (.str op), some (.list [rwD "load" (.str "a") 3, rwD "load" (.str "b") 4, rwD op .none 5]), some (.list []), some (.str z), some (nm one other), some (.tuple [.str "fault", .str z, .int 5]), some (endF14 z 3), some (.list [rwD "try" (.int 1) 1, rwD "load" (.str "a") 3, rwD "load" (.str "b") 4, rwD op .none 5, rwD "endtry" .none 1, rwD "label" (.int 1) 1, rwD "return" .none 6]), none]) (o := n3) (by kernel_rfl) rfl (run_b_fault_1 ho h1 h2 hz hp)
  have p0 : (mCall f__law_shown [.fz] [] (maCons (mVar 10) maNil)) [a, b, some one, some other, some (.str op), some (.list [rwD "load" (.str "a") 3, rwD "load" (.str "b") 4, rwD op .none 5]), some (.list []), some (.str z), some (nm one other), some (.tuple [.str "fault", .str z, .int 5]), some (endF14 z 3), none, none] = some (.str s0, [a, b, some one, some other, some (.str op), some (.list [rwD "load" (.str "a") 3, rwD "load" (.str "b") 4, rwD op .none 5]), some (.list []), some (.str z), some (nm one other), some (.tuple [.str "fault", .str z, .int 5]), some (endF14 z 3), none, none]) := E_call (ds := [(endF14 z 3)]) (es := [(endF14 z 3)]) (ρ1 := [a, b, some one, some other, some (.str op), some (.list [rwD "load" (.str "a") 3, rwD "load" (.str "b") 4, rwD op .none 5]), some (.list []), some (.str z), some (nm one other), some (.tuple [.str "fault", .str z, .int 5]), some (endF14 z 3), none, none]) (o := [none]) rfl rfl q0
  have p1 : (mCall f__law_shown [.fz] [] (maCons (mTup (maCons (mVar 9) (maCons (mLst maNil) (maCons (m2 (.fz) (.fz) (mOp [.fz] (maCons (mVar 5) maNil) dLenU) (mIf (mTr (m2 (.fz) (.fz) (mVar 7) (mC .none) dIsN)) (mC (.int 1)) (mC (.int 0))) dAddU) maNil)))) maNil)) [a, b, some one, some other, some (.str op), some (.list [rwD "load" (.str "a") 3, rwD "load" (.str "b") 4, rwD op .none 5]), some (.list []), some (.str z), some (nm one other), some (.tuple [.str "fault", .str z, .int 5]), some (endF14 z 3), none, none] = some (.str s0, [a, b, some one, some other, some (.str op), some (.list [rwD "load" (.str "a") 3, rwD "load" (.str "b") 4, rwD op .none 5]), some (.list []), some (.str z), some (nm one other), some (.tuple [.str "fault", .str z, .int 5]), some (endF14 z 3), none, none]) := E_call (ds := [(endF14 z 3)]) (es := [(endF14 z 3)]) (ρ1 := [a, b, some one, some other, some (.str op), some (.list [rwD "load" (.str "a") 3, rwD "load" (.str "b") 4, rwD op .none 5]), some (.list []), some (.str z), some (nm one other), some (.tuple [.str "fault", .str z, .int 5]), some (endF14 z 3), none, none]) (o := [none]) (by kernel_rfl) rfl q0
  have c0 : (mIte (mTr (m2 (.fz) (.fz) (mCall f__law_shown [.fz] [] (maCons (mVar 10) maNil)) (mCall f__law_shown [.fz] [] (maCons (mTup (maCons (mVar 9) (maCons (mLst maNil) (maCons (m2 (.fz) (.fz) (mOp [.fz] (maCons (mVar 5) maNil) dLenU) (mIf (mTr (m2 (.fz) (.fz) (mVar 7) (mC .none) dIsN)) (mC (.int 1)) (mC (.int 0))) dAddU) maNil)))) maNil)) dNeU)) (mRet (mC (.bool false))) mSkip) [a, b, some one, some other, some (.str op), some (.list [rwD "load" (.str "a") 3, rwD "load" (.str "b") 4, rwD op .none 5]), some (.list []), some (.str z), some (nm one other), some (.tuple [.str "fault", .str z, .int 5]), some (endF14 z 3), none, none] = some (.nx, [a, b, some one, some other, some (.str op), some (.list [rwD "load" (.str "a") 3, rwD "load" (.str "b") 4, rwD op .none 5]), some (.list []), some (.str z), some (nm one other), some (.tuple [.str "fault", .str z, .int 5]), some (endF14 z 3), none, none]) := E_iteF (a := mRet (mC (.bool false))) (b := mSkip) (E_tr (E_m2 (k := .fz) (k2 := .fz) (op := dNeU) (es := [.str s0, .str s0]) p0 p1 rfl (sh_ne k0)))
  have p2 : (mCall f__law_shown [.fz] [] (maCons (mVar 10) maNil)) [a, b, some one, some other, some (.str op), some (.list [rwD "load" (.str "a") 3, rwD "load" (.str "b") 4, rwD op .none 5]), some (.list []), some (.str z), some (nm one other), some (.tuple [.str "fault", .str z, .int 5]), some (endV (.str z) 4), some (.list [rwD "try" (.int 1) 1, rwD "load" (.str "a") 3, rwD "load" (.str "b") 4, rwD op .none 5, rwD "endtry" .none 1, rwD "label" (.int 1) 1, rwD "return" .none 6]), some (.str z)] = some (.str s1, [a, b, some one, some other, some (.str op), some (.list [rwD "load" (.str "a") 3, rwD "load" (.str "b") 4, rwD op .none 5]), some (.list []), some (.str z), some (nm one other), some (.tuple [.str "fault", .str z, .int 5]), some (endV (.str z) 4), some (.list [rwD "try" (.int 1) 1, rwD "load" (.str "a") 3, rwD "load" (.str "b") 4, rwD op .none 5, rwD "endtry" .none 1, rwD "label" (.int 1) 1, rwD "return" .none 6]), some (.str z)]) := E_call (ds := [(endV (.str z) 4)]) (es := [(endV (.str z) 4)]) (ρ1 := [a, b, some one, some other, some (.str op), some (.list [rwD "load" (.str "a") 3, rwD "load" (.str "b") 4, rwD op .none 5]), some (.list []), some (.str z), some (nm one other), some (.tuple [.str "fault", .str z, .int 5]), some (endV (.str z) 4), some (.list [rwD "try" (.int 1) 1, rwD "load" (.str "a") 3, rwD "load" (.str "b") 4, rwD op .none 5, rwD "endtry" .none 1, rwD "label" (.int 1) 1, rwD "return" .none 6]), some (.str z)]) (o := [none]) rfl rfl q1
  have p3 : (mCall f__law_shown [.fz] [] (maCons (mTup (maCons (mTup (maCons (mC (.str "value")) (maCons (mVar 12) maNil))) (maCons (mLst maNil) (maCons (m2 (.fz) (.fz) (mOp [.fz] (maCons (mVar 5) maNil) dLenU) (mC (.int 1)) dAddU) maNil)))) maNil)) [a, b, some one, some other, some (.str op), some (.list [rwD "load" (.str "a") 3, rwD "load" (.str "b") 4, rwD op .none 5]), some (.list []), some (.str z), some (nm one other), some (.tuple [.str "fault", .str z, .int 5]), some (endV (.str z) 4), some (.list [rwD "try" (.int 1) 1, rwD "load" (.str "a") 3, rwD "load" (.str "b") 4, rwD op .none 5, rwD "endtry" .none 1, rwD "label" (.int 1) 1, rwD "return" .none 6]), some (.str z)] = some (.str s1, [a, b, some one, some other, some (.str op), some (.list [rwD "load" (.str "a") 3, rwD "load" (.str "b") 4, rwD op .none 5]), some (.list []), some (.str z), some (nm one other), some (.tuple [.str "fault", .str z, .int 5]), some (endV (.str z) 4), some (.list [rwD "try" (.int 1) 1, rwD "load" (.str "a") 3, rwD "load" (.str "b") 4, rwD op .none 5, rwD "endtry" .none 1, rwD "label" (.int 1) 1, rwD "return" .none 6]), some (.str z)]) := E_call (ds := [(endV (.str z) 4)]) (es := [(endV (.str z) 4)]) (ρ1 := [a, b, some one, some other, some (.str op), some (.list [rwD "load" (.str "a") 3, rwD "load" (.str "b") 4, rwD op .none 5]), some (.list []), some (.str z), some (nm one other), some (.tuple [.str "fault", .str z, .int 5]), some (endV (.str z) 4), some (.list [rwD "try" (.int 1) 1, rwD "load" (.str "a") 3, rwD "load" (.str "b") 4, rwD op .none 5, rwD "endtry" .none 1, rwD "label" (.int 1) 1, rwD "return" .none 6]), some (.str z)]) (o := [none]) (by kernel_rfl) rfl q1
  have c1 := E_m2 (k := .fz) (k2 := .fz) (op := dEqU) (es := [.str s1, .str s1]) p2 p3 rfl (sh_eq k1)
  refine ⟨[a, b, some one, some other, some (.str op), some (.list [rwD "load" (.str "a") 3, rwD "load" (.str "b") 4, rwD op .none 5]), some (.list []), some (.str z), some (nm one other), some (.tuple [.str "fault", .str z, .int 5]), some (endV (.str z) 4), some (.list [rwD "try" (.int 1) 1, rwD "load" (.str "a") 3, rwD "load" (.str "b") 4, rwD op .none 5, rwD "endtry" .none 1, rwD "label" (.int 1) 1, rwD "return" .none 6]), some (.str z)], ?_⟩
  unfold tail14
  refine Eq.trans (E_seq (ρ1 := [a, b, some one, some other, some (.str op), some (.list [rwD "load" (.str "a") 3, rwD "load" (.str "b") 4, rwD op .none 5]), none, none, none, none, none, none, none]) (by kernel_rfl)) ?_
  refine Eq.trans (E_seq (ρ1 := [a, b, some one, some other, some (.str op), some (.list [rwD "load" (.str "a") 3, rwD "load" (.str "b") 4, rwD op .none 5]), none, none, none, none, none, none, none]) (by simp only [pops, List.mem_cons, List.not_mem_nil, or_false] at ho; rcases ho with rfl | rfl | rfl | rfl | rfl | rfl | rfl <;> kernel_rfl)) ?_
  refine Eq.trans (E_seq (ρ1 := [a, b, some one, some other, some (.str op), some (.list [rwD "load" (.str "a") 3, rwD "load" (.str "b") 4, rwD op .none 5]), some (.list [one, other]), none, none, none, none, none, none]) (by kernel_rfl)) ?_
  refine Eq.trans (E_seq (ρ1 := [a, b, some one, some other, some (.str op), some (.list [rwD "load" (.str "a") 3, rwD "load" (.str "b") 4, rwD op .none 5]), some (.list []), some (.str z), none, none, none, none, none]) (E_set (i := 7) (d := (.str z)) (ρ1 := [a, b, some one, some other, some (.str op), some (.list [rwD "load" (.str "a") 3, rwD "load" (.str "b") 4, rwD op .none 5]), some (.list []), none, none, none, none, none, none]) m0)) ?_
  refine Eq.trans (E_seq (ρ1 := [a, b, some one, some other, some (.str op), some (.list [rwD "load" (.str "a") 3, rwD "load" (.str "b") 4, rwD op .none 5]), some (.list []), some (.str z), some (nm one other), none, none, none, none]) (by kernel_rfl)) ?_
  refine Eq.trans (E_seq (ρ1 := [a, b, some one, some other, some (.str op), some (.list [rwD "load" (.str "a") 3, rwD "load" (.str "b") 4, rwD op .none 5]), some (.list []), some (.str z), some (nm one other), some (.tuple [.str "fault", .str z, .int 5]), none, none, none]) (by kernel_rfl)) ?_
  refine Eq.trans (E_seq (ρ1 := [a, b, some one, some other, some (.str op), some (.list [rwD "load" (.str "a") 3, rwD "load" (.str "b") 4, rwD op .none 5]), some (.list []), some (.str z), some (nm one other), some (.tuple [.str "fault", .str z, .int 5]), some (endF14 z 3), none, none]) (E_set (i := 10) (d := (endF14 z 3)) (ρ1 := [a, b, some one, some other, some (.str op), some (.list [rwD "load" (.str "a") 3, rwD "load" (.str "b") 4, rwD op .none 5]), some (.list []), some (.str z), some (nm one other), some (.tuple [.str "fault", .str z, .int 5]), none, none, none]) r0)) ?_
  refine Eq.trans (E_seq (ρ1 := [a, b, some one, some other, some (.str op), some (.list [rwD "load" (.str "a") 3, rwD "load" (.str "b") 4, rwD op .none 5]), some (.list []), some (.str z), some (nm one other), some (.tuple [.str "fault", .str z, .int 5]), some (endF14 z 3), none, none]) c0) ?_
  refine Eq.trans (E_seq (ρ1 := [a, b, some one, some other, some (.str op), some (.list [rwD "load" (.str "a") 3, rwD "load" (.str "b") 4, rwD op .none 5]), some (.list []), some (.str z), some (nm one other), some (.tuple [.str "fault", .str z, .int 5]), some (endF14 z 3), some (.list [rwD "try" (.int 1) 1, rwD "load" (.str "a") 3, rwD "load" (.str "b") 4, rwD op .none 5, rwD "endtry" .none 1, rwD "label" (.int 1) 1, rwD "return" .none 6]), none]) (by kernel_rfl)) ?_
  refine Eq.trans (E_seq (ρ1 := [a, b, some one, some other, some (.str op), some (.list [rwD "load" (.str "a") 3, rwD "load" (.str "b") 4, rwD op .none 5]), some (.list []), some (.str z), some (nm one other), some (.tuple [.str "fault", .str z, .int 5]), some (endV (.str z) 4), some (.list [rwD "try" (.int 1) 1, rwD "load" (.str "a") 3, rwD "load" (.str "b") 4, rwD op .none 5, rwD "endtry" .none 1, rwD "label" (.int 1) 1, rwD "return" .none 6]), none]) (E_set (i := 10) (d := (endV (.str z) 4)) (ρ1 := [a, b, some one, some other, some (.str op), some (.list [rwD "load" (.str "a") 3, rwD "load" (.str "b") 4, rwD op .none 5]), some (.list []), some (.str z), some (nm one other), some (.tuple [.str "fault", .str z, .int 5]), some (endF14 z 3), some (.list [rwD "try" (.int 1) 1, rwD "load" (.str "a") 3, rwD "load" (.str "b") 4, rwD op .none 5, rwD "endtry" .none 1, rwD "label" (.int 1) 1, rwD "return" .none 6]), none]) r1)) ?_
  refine Eq.trans (E_seq (ρ1 := [a, b, some one, some other, some (.str op), some (.list [rwD "load" (.str "a") 3, rwD "load" (.str "b") 4, rwD op .none 5]), some (.list []), some (.str z), some (nm one other), some (.tuple [.str "fault", .str z, .int 5]), some (endV (.str z) 4), some (.list [rwD "try" (.int 1) 1, rwD "load" (.str "a") 3, rwD "load" (.str "b") 4, rwD op .none 5, rwD "endtry" .none 1, rwD "label" (.int 1) 1, rwD "return" .none 6]), some (.str z)]) (by kernel_rfl)) ?_
  exact E_ret c1
theorem tail_u_found {op : Str} (ho : op = "neg" ∨ op = "not") {a b : Option D} {one other : D} (h1 : V14 one) (h2 : V14 other) {w : D} (hw : hwP w) (hp : f_single [some (.str op), some one] = some (.tuple [.str "found", w], n2)) (hm : f__law_made [some (.str op), some (.list [one])] = some (.none, [none, some (.list [w])])) : ∃ ρ, tail14 [a, b, some one, some other, some (.str op), none, none, none, none, none, none, none, none] = some (.rt (.bool true), ρ) := by
  obtain ⟨s0, q0, k0⟩ : Sh (endV w 3) := (shown_val hw (by omega))
  obtain ⟨s1, q1, k1⟩ : Sh (endV w 3) := (shown_val hw (by omega))
  have m0 : (mCall f__law_made [.fz, .br 6] [] (maCons (mVar 4) (maCons (mBr 6) maNil))) [a, b, some one, some other, some (.str op), some (.list [rwD "load" (.str "a") 3, rwD op .none 5]), some (.list [one]), none, none, none, none, none, none] = some (.none, [a, b, some one, some other, some (.str op), some (.list [rwD "load" (.str "a") 3, rwD op .none 5]), some (.list [w]), none, none, none, none, none, none]) := E_call (ds := [.str op, .none]) (es := [.str op, (.list [one])]) (ρ1 := [a, b, some one, some other, some (.str op), some (.list [rwD "load" (.str "a") 3, rwD op .none 5]), some (.list [one]), none, none, none, none, none, none]) (o := [none, some (.list [w])]) rfl rfl hm
  have r0 : (mCall f_run [.fz, .fz, .fz] [] (maCons (m2 (.fz) (.ow) (mVar 5) (mLst (maCons (mTup (maCons (mC (.str "return")) (maCons (mC .none) (maCons (mC (.int 6)) maNil)))) maNil)) dAddU) (maCons (mVar 8) (maCons (mC (.int 9)) maNil)))) [a, b, some one, some other, some (.str op), some (.list [rwD "load" (.str "a") 3, rwD op .none 5]), some (.list [w]), some .none, some (nm one other), some (.tuple [.str "value", w]), none, none, none] = some ((endV w 3), [a, b, some one, some other, some (.str op), some (.list [rwD "load" (.str "a") 3, rwD op .none 5]), some (.list [w]), some .none, some (nm one other), some (.tuple [.str "value", w]), none, none, none]) := E_call (ds := [(.list [rwD "load" (.str "a") 3, rwD op .none 5, rwD "return" .none 6]), nm one other, .int 9]) (es := [(.list [rwD "load" (.str "a") 3, rwD op .none 5, rwD "return" .none 6]), nm one other, .int 9]) (ρ1 := [a, b, some one, some other, some (.str op), some (.list [rwD "load" (.str "a") 3, rwD op .none 5]), some (.list [w]), some .none, some (nm one other), some (.tuple [.str "value", w]), none, none, none]) (o := n3) (by kernel_rfl) rfl (run_u_found_0 ho h1 h2 hw hp)
  have r1 : (mCall f_run [.fz, .fz, .fz] [] (maCons (mVar 11) (maCons (mVar 8) (maCons (mC (.int 9)) maNil)))) [a, b, some one, some other, some (.str op), some (.list [rwD "load" (.str "a") 3, rwD op .none 5]), some (.list [w]), some .none, some (nm one other), some (.tuple [.str "value", w]), some (endV w 3), some (.list [rwD "try" (.int 1) 1, rwD "load" (.str "a") 3, rwD op .none 5, rwD "endtry" .none 1, rwD "label" (.int 1) 1, rwD "return" .none 6]), none] = some ((endV w 3), [a, b, some one, some other, some (.str op), some (.list [rwD "load" (.str "a") 3, rwD op .none 5]), some (.list [w]), some .none, some (nm one other), some (.tuple [.str "value", w]), some (endV w 3), some (.list [rwD "try" (.int 1) 1, rwD "load" (.str "a") 3, rwD op .none 5, rwD "endtry" .none 1, rwD "label" (.int 1) 1, rwD "return" .none 6]), none]) := E_call (ds := [(.list [rwD "try" (.int 1) 1, rwD "load" (.str "a") 3, rwD op .none 5, rwD "endtry" .none 1, rwD "label" (.int 1) 1, rwD "return" .none 6]), nm one other, .int 9]) (es := [(.list [rwD "try" (.int 1) 1, rwD "load" (.str "a") 3, rwD op .none 5, rwD "endtry" .none 1, rwD "label" (.int 1) 1, rwD "return" .none 6]), nm one other, .int 9]) (ρ1 := [a, b, some one, some other, some (.str op), some (.list [rwD "load" (.str "a") 3, rwD op .none 5]), some (.list [w]), some .none, some (nm one other), some (.tuple [.str "value", w]), some (endV w 3), some (.list [rwD "try" (.int 1) 1, rwD "load" (.str "a") 3, rwD op .none 5, rwD "endtry" .none 1, rwD "label" (.int 1) 1, rwD "return" .none 6]), none]) (o := n3) (by kernel_rfl) rfl (run_u_found_1 ho h1 h2 hw hp)
  have p0 : (mCall f__law_shown [.fz] [] (maCons (mVar 10) maNil)) [a, b, some one, some other, some (.str op), some (.list [rwD "load" (.str "a") 3, rwD op .none 5]), some (.list [w]), some .none, some (nm one other), some (.tuple [.str "value", w]), some (endV w 3), none, none] = some (.str s0, [a, b, some one, some other, some (.str op), some (.list [rwD "load" (.str "a") 3, rwD op .none 5]), some (.list [w]), some .none, some (nm one other), some (.tuple [.str "value", w]), some (endV w 3), none, none]) := E_call (ds := [(endV w 3)]) (es := [(endV w 3)]) (ρ1 := [a, b, some one, some other, some (.str op), some (.list [rwD "load" (.str "a") 3, rwD op .none 5]), some (.list [w]), some .none, some (nm one other), some (.tuple [.str "value", w]), some (endV w 3), none, none]) (o := [none]) rfl rfl q0
  have p1 : (mCall f__law_shown [.fz] [] (maCons (mTup (maCons (mVar 9) (maCons (mLst maNil) (maCons (m2 (.fz) (.fz) (mOp [.fz] (maCons (mVar 5) maNil) dLenU) (mIf (mTr (m2 (.fz) (.fz) (mVar 7) (mC .none) dIsN)) (mC (.int 1)) (mC (.int 0))) dAddU) maNil)))) maNil)) [a, b, some one, some other, some (.str op), some (.list [rwD "load" (.str "a") 3, rwD op .none 5]), some (.list [w]), some .none, some (nm one other), some (.tuple [.str "value", w]), some (endV w 3), none, none] = some (.str s0, [a, b, some one, some other, some (.str op), some (.list [rwD "load" (.str "a") 3, rwD op .none 5]), some (.list [w]), some .none, some (nm one other), some (.tuple [.str "value", w]), some (endV w 3), none, none]) := E_call (ds := [(endV w 3)]) (es := [(endV w 3)]) (ρ1 := [a, b, some one, some other, some (.str op), some (.list [rwD "load" (.str "a") 3, rwD op .none 5]), some (.list [w]), some .none, some (nm one other), some (.tuple [.str "value", w]), some (endV w 3), none, none]) (o := [none]) (by kernel_rfl) rfl q0
  have c0 : (mIte (mTr (m2 (.fz) (.fz) (mCall f__law_shown [.fz] [] (maCons (mVar 10) maNil)) (mCall f__law_shown [.fz] [] (maCons (mTup (maCons (mVar 9) (maCons (mLst maNil) (maCons (m2 (.fz) (.fz) (mOp [.fz] (maCons (mVar 5) maNil) dLenU) (mIf (mTr (m2 (.fz) (.fz) (mVar 7) (mC .none) dIsN)) (mC (.int 1)) (mC (.int 0))) dAddU) maNil)))) maNil)) dNeU)) (mRet (mC (.bool false))) mSkip) [a, b, some one, some other, some (.str op), some (.list [rwD "load" (.str "a") 3, rwD op .none 5]), some (.list [w]), some .none, some (nm one other), some (.tuple [.str "value", w]), some (endV w 3), none, none] = some (.nx, [a, b, some one, some other, some (.str op), some (.list [rwD "load" (.str "a") 3, rwD op .none 5]), some (.list [w]), some .none, some (nm one other), some (.tuple [.str "value", w]), some (endV w 3), none, none]) := E_iteF (a := mRet (mC (.bool false))) (b := mSkip) (E_tr (E_m2 (k := .fz) (k2 := .fz) (op := dNeU) (es := [.str s0, .str s0]) p0 p1 rfl (sh_ne k0)))
  have p2 : (mCall f__law_shown [.fz] [] (maCons (mVar 10) maNil)) [a, b, some one, some other, some (.str op), some (.list [rwD "load" (.str "a") 3, rwD op .none 5]), some (.list [w]), some .none, some (nm one other), some (.tuple [.str "value", w]), some (endV w 3), some (.list [rwD "try" (.int 1) 1, rwD "load" (.str "a") 3, rwD op .none 5, rwD "endtry" .none 1, rwD "label" (.int 1) 1, rwD "return" .none 6]), some w] = some (.str s1, [a, b, some one, some other, some (.str op), some (.list [rwD "load" (.str "a") 3, rwD op .none 5]), some (.list [w]), some .none, some (nm one other), some (.tuple [.str "value", w]), some (endV w 3), some (.list [rwD "try" (.int 1) 1, rwD "load" (.str "a") 3, rwD op .none 5, rwD "endtry" .none 1, rwD "label" (.int 1) 1, rwD "return" .none 6]), some w]) := E_call (ds := [(endV w 3)]) (es := [(endV w 3)]) (ρ1 := [a, b, some one, some other, some (.str op), some (.list [rwD "load" (.str "a") 3, rwD op .none 5]), some (.list [w]), some .none, some (nm one other), some (.tuple [.str "value", w]), some (endV w 3), some (.list [rwD "try" (.int 1) 1, rwD "load" (.str "a") 3, rwD op .none 5, rwD "endtry" .none 1, rwD "label" (.int 1) 1, rwD "return" .none 6]), some w]) (o := [none]) rfl rfl q1
  have p3 : (mCall f__law_shown [.fz] [] (maCons (mTup (maCons (mTup (maCons (mC (.str "value")) (maCons (mVar 12) maNil))) (maCons (mLst maNil) (maCons (m2 (.fz) (.fz) (mOp [.fz] (maCons (mVar 5) maNil) dLenU) (mC (.int 1)) dAddU) maNil)))) maNil)) [a, b, some one, some other, some (.str op), some (.list [rwD "load" (.str "a") 3, rwD op .none 5]), some (.list [w]), some .none, some (nm one other), some (.tuple [.str "value", w]), some (endV w 3), some (.list [rwD "try" (.int 1) 1, rwD "load" (.str "a") 3, rwD op .none 5, rwD "endtry" .none 1, rwD "label" (.int 1) 1, rwD "return" .none 6]), some w] = some (.str s1, [a, b, some one, some other, some (.str op), some (.list [rwD "load" (.str "a") 3, rwD op .none 5]), some (.list [w]), some .none, some (nm one other), some (.tuple [.str "value", w]), some (endV w 3), some (.list [rwD "try" (.int 1) 1, rwD "load" (.str "a") 3, rwD op .none 5, rwD "endtry" .none 1, rwD "label" (.int 1) 1, rwD "return" .none 6]), some w]) := E_call (ds := [(endV w 3)]) (es := [(endV w 3)]) (ρ1 := [a, b, some one, some other, some (.str op), some (.list [rwD "load" (.str "a") 3, rwD op .none 5]), some (.list [w]), some .none, some (nm one other), some (.tuple [.str "value", w]), some (endV w 3), some (.list [rwD "try" (.int 1) 1, rwD "load" (.str "a") 3, rwD op .none 5, rwD "endtry" .none 1, rwD "label" (.int 1) 1, rwD "return" .none 6]), some w]) (o := [none]) (by kernel_rfl) rfl q1
  have c1 := E_m2 (k := .fz) (k2 := .fz) (op := dEqU) (es := [.str s1, .str s1]) p2 p3 rfl (sh_eq k1)
  refine ⟨[a, b, some one, some other, some (.str op), some (.list [rwD "load" (.str "a") 3, rwD op .none 5]), some (.list [w]), some .none, some (nm one other), some (.tuple [.str "value", w]), some (endV w 3), some (.list [rwD "try" (.int 1) 1, rwD "load" (.str "a") 3, rwD op .none 5, rwD "endtry" .none 1, rwD "label" (.int 1) 1, rwD "return" .none 6]), some w], ?_⟩
  unfold tail14
  refine Eq.trans (E_seq (ρ1 := [a, b, some one, some other, some (.str op), some (.list [rwD "load" (.str "a") 3, rwD "load" (.str "b") 4, rwD op .none 5]), none, none, none, none, none, none, none]) (by kernel_rfl)) ?_
  refine Eq.trans (E_seq (ρ1 := [a, b, some one, some other, some (.str op), some (.list [rwD "load" (.str "a") 3, rwD op .none 5]), none, none, none, none, none, none, none]) (by rcases ho with rfl | rfl <;> kernel_rfl)) ?_
  refine Eq.trans (E_seq (ρ1 := [a, b, some one, some other, some (.str op), some (.list [rwD "load" (.str "a") 3, rwD op .none 5]), some (.list [one]), none, none, none, none, none, none]) (by kernel_rfl)) ?_
  refine Eq.trans (E_seq (ρ1 := [a, b, some one, some other, some (.str op), some (.list [rwD "load" (.str "a") 3, rwD op .none 5]), some (.list [w]), some .none, none, none, none, none, none]) (E_set (i := 7) (d := .none) (ρ1 := [a, b, some one, some other, some (.str op), some (.list [rwD "load" (.str "a") 3, rwD op .none 5]), some (.list [w]), none, none, none, none, none, none]) m0)) ?_
  refine Eq.trans (E_seq (ρ1 := [a, b, some one, some other, some (.str op), some (.list [rwD "load" (.str "a") 3, rwD op .none 5]), some (.list [w]), some .none, some (nm one other), none, none, none, none]) (by kernel_rfl)) ?_
  refine Eq.trans (E_seq (ρ1 := [a, b, some one, some other, some (.str op), some (.list [rwD "load" (.str "a") 3, rwD op .none 5]), some (.list [w]), some .none, some (nm one other), some (.tuple [.str "value", w]), none, none, none]) (by kernel_rfl)) ?_
  refine Eq.trans (E_seq (ρ1 := [a, b, some one, some other, some (.str op), some (.list [rwD "load" (.str "a") 3, rwD op .none 5]), some (.list [w]), some .none, some (nm one other), some (.tuple [.str "value", w]), some (endV w 3), none, none]) (E_set (i := 10) (d := (endV w 3)) (ρ1 := [a, b, some one, some other, some (.str op), some (.list [rwD "load" (.str "a") 3, rwD op .none 5]), some (.list [w]), some .none, some (nm one other), some (.tuple [.str "value", w]), none, none, none]) r0)) ?_
  refine Eq.trans (E_seq (ρ1 := [a, b, some one, some other, some (.str op), some (.list [rwD "load" (.str "a") 3, rwD op .none 5]), some (.list [w]), some .none, some (nm one other), some (.tuple [.str "value", w]), some (endV w 3), none, none]) c0) ?_
  refine Eq.trans (E_seq (ρ1 := [a, b, some one, some other, some (.str op), some (.list [rwD "load" (.str "a") 3, rwD op .none 5]), some (.list [w]), some .none, some (nm one other), some (.tuple [.str "value", w]), some (endV w 3), some (.list [rwD "try" (.int 1) 1, rwD "load" (.str "a") 3, rwD op .none 5, rwD "endtry" .none 1, rwD "label" (.int 1) 1, rwD "return" .none 6]), none]) (by kernel_rfl)) ?_
  refine Eq.trans (E_seq (ρ1 := [a, b, some one, some other, some (.str op), some (.list [rwD "load" (.str "a") 3, rwD op .none 5]), some (.list [w]), some .none, some (nm one other), some (.tuple [.str "value", w]), some (endV w 3), some (.list [rwD "try" (.int 1) 1, rwD "load" (.str "a") 3, rwD op .none 5, rwD "endtry" .none 1, rwD "label" (.int 1) 1, rwD "return" .none 6]), none]) (E_set (i := 10) (d := (endV w 3)) (ρ1 := [a, b, some one, some other, some (.str op), some (.list [rwD "load" (.str "a") 3, rwD op .none 5]), some (.list [w]), some .none, some (nm one other), some (.tuple [.str "value", w]), some (endV w 3), some (.list [rwD "try" (.int 1) 1, rwD "load" (.str "a") 3, rwD op .none 5, rwD "endtry" .none 1, rwD "label" (.int 1) 1, rwD "return" .none 6]), none]) r1)) ?_
  refine Eq.trans (E_seq (ρ1 := [a, b, some one, some other, some (.str op), some (.list [rwD "load" (.str "a") 3, rwD op .none 5]), some (.list [w]), some .none, some (nm one other), some (.tuple [.str "value", w]), some (endV w 3), some (.list [rwD "try" (.int 1) 1, rwD "load" (.str "a") 3, rwD op .none 5, rwD "endtry" .none 1, rwD "label" (.int 1) 1, rwD "return" .none 6]), some w]) (by kernel_rfl)) ?_
  exact E_ret c1
theorem tail_u_fault {op : Str} (ho : op = "neg" ∨ op = "not") {a b : Option D} {one other : D} (h1 : V14 one) (h2 : V14 other) {z : Str} (hz : hzP z) (hp : f_single [some (.str op), some one] = some (.tuple [.str "fault", (.str z)], n2)) (hm : f__law_made [some (.str op), some (.list [one])] = some ((.str z), [none, some (.list [])])) : ∃ ρ, tail14 [a, b, some one, some other, some (.str op), none, none, none, none, none, none, none, none] = some (.rt (.bool true), ρ) := by
  obtain ⟨s0, q0, k0⟩ : Sh (endF14 z 2) := (sh_fault hz (by decide))
  obtain ⟨s1, q1, k1⟩ : Sh (endV (.str z) 3) := (sh_valZ hz (by decide))
  have m0 : (mCall f__law_made [.fz, .br 6] [] (maCons (mVar 4) (maCons (mBr 6) maNil))) [a, b, some one, some other, some (.str op), some (.list [rwD "load" (.str "a") 3, rwD op .none 5]), some (.list [one]), none, none, none, none, none, none] = some ((.str z), [a, b, some one, some other, some (.str op), some (.list [rwD "load" (.str "a") 3, rwD op .none 5]), some (.list []), none, none, none, none, none, none]) := E_call (ds := [.str op, .none]) (es := [.str op, (.list [one])]) (ρ1 := [a, b, some one, some other, some (.str op), some (.list [rwD "load" (.str "a") 3, rwD op .none 5]), some (.list [one]), none, none, none, none, none, none]) (o := [none, some (.list [])]) rfl rfl hm
  have r0 : (mCall f_run [.fz, .fz, .fz] [] (maCons (m2 (.fz) (.ow) (mVar 5) (mLst (maCons (mTup (maCons (mC (.str "return")) (maCons (mC .none) (maCons (mC (.int 6)) maNil)))) maNil)) dAddU) (maCons (mVar 8) (maCons (mC (.int 9)) maNil)))) [a, b, some one, some other, some (.str op), some (.list [rwD "load" (.str "a") 3, rwD op .none 5]), some (.list []), some (.str z), some (nm one other), some (.tuple [.str "fault", .str z, .int 5]), none, none, none] = some ((endF14 z 2), [a, b, some one, some other, some (.str op), some (.list [rwD "load" (.str "a") 3, rwD op .none 5]), some (.list []), some (.str z), some (nm one other), some (.tuple [.str "fault", .str z, .int 5]), none, none, none]) := E_call (ds := [(.list [rwD "load" (.str "a") 3, rwD op .none 5, rwD "return" .none 6]), nm one other, .int 9]) (es := [(.list [rwD "load" (.str "a") 3, rwD op .none 5, rwD "return" .none 6]), nm one other, .int 9]) (ρ1 := [a, b, some one, some other, some (.str op), some (.list [rwD "load" (.str "a") 3, rwD op .none 5]), some (.list []), some (.str z), some (nm one other), some (.tuple [.str "fault", .str z, .int 5]), none, none, none]) (o := n3) (by kernel_rfl) rfl (run_u_fault_0 ho h1 h2 hz hp)
  have r1 : (mCall f_run [.fz, .fz, .fz] [] (maCons (mVar 11) (maCons (mVar 8) (maCons (mC (.int 9)) maNil)))) [a, b, some one, some other, some (.str op), some (.list [rwD "load" (.str "a") 3, rwD op .none 5]), some (.list []), some (.str z), some (nm one other), some (.tuple [.str "fault", .str z, .int 5]), some (endF14 z 2), some (.list [rwD "try" (.int 1) 1, rwD "load" (.str "a") 3, rwD op .none 5, rwD "endtry" .none 1, rwD "label" (.int 1) 1, rwD "return" .none 6]), none] = some ((endV (.str z) 3), [a, b, some one, some other, some (.str op), some (.list [rwD "load" (.str "a") 3, rwD op .none 5]), some (.list []), some (.str z), some (nm one other), some (.tuple [.str "fault", .str z, .int 5]), some (endF14 z 2), some (.list [rwD "try" (.int 1) 1, rwD "load" (.str "a") 3, rwD op .none 5, rwD "endtry" .none 1, rwD "label" (.int 1) 1, rwD "return" .none 6]), none]) := E_call (ds := [(.list [rwD "try" (.int 1) 1, rwD "load" (.str "a") 3, rwD op .none 5, rwD "endtry" .none 1, rwD "label" (.int 1) 1, rwD "return" .none 6]), nm one other, .int 9]) (es := [(.list [rwD "try" (.int 1) 1, rwD "load" (.str "a") 3, rwD op .none 5, rwD "endtry" .none 1, rwD "label" (.int 1) 1, rwD "return" .none 6]), nm one other, .int 9]) (ρ1 := [a, b, some one, some other, some (.str op), some (.list [rwD "load" (.str "a") 3, rwD op .none 5]), some (.list []), some (.str z), some (nm one other), some (.tuple [.str "fault", .str z, .int 5]), some (endF14 z 2), some (.list [rwD "try" (.int 1) 1, rwD "load" (.str "a") 3, rwD op .none 5, rwD "endtry" .none 1, rwD "label" (.int 1) 1, rwD "return" .none 6]), none]) (o := n3) (by kernel_rfl) rfl (run_u_fault_1 ho h1 h2 hz hp)
  have p0 : (mCall f__law_shown [.fz] [] (maCons (mVar 10) maNil)) [a, b, some one, some other, some (.str op), some (.list [rwD "load" (.str "a") 3, rwD op .none 5]), some (.list []), some (.str z), some (nm one other), some (.tuple [.str "fault", .str z, .int 5]), some (endF14 z 2), none, none] = some (.str s0, [a, b, some one, some other, some (.str op), some (.list [rwD "load" (.str "a") 3, rwD op .none 5]), some (.list []), some (.str z), some (nm one other), some (.tuple [.str "fault", .str z, .int 5]), some (endF14 z 2), none, none]) := E_call (ds := [(endF14 z 2)]) (es := [(endF14 z 2)]) (ρ1 := [a, b, some one, some other, some (.str op), some (.list [rwD "load" (.str "a") 3, rwD op .none 5]), some (.list []), some (.str z), some (nm one other), some (.tuple [.str "fault", .str z, .int 5]), some (endF14 z 2), none, none]) (o := [none]) rfl rfl q0
  have p1 : (mCall f__law_shown [.fz] [] (maCons (mTup (maCons (mVar 9) (maCons (mLst maNil) (maCons (m2 (.fz) (.fz) (mOp [.fz] (maCons (mVar 5) maNil) dLenU) (mIf (mTr (m2 (.fz) (.fz) (mVar 7) (mC .none) dIsN)) (mC (.int 1)) (mC (.int 0))) dAddU) maNil)))) maNil)) [a, b, some one, some other, some (.str op), some (.list [rwD "load" (.str "a") 3, rwD op .none 5]), some (.list []), some (.str z), some (nm one other), some (.tuple [.str "fault", .str z, .int 5]), some (endF14 z 2), none, none] = some (.str s0, [a, b, some one, some other, some (.str op), some (.list [rwD "load" (.str "a") 3, rwD op .none 5]), some (.list []), some (.str z), some (nm one other), some (.tuple [.str "fault", .str z, .int 5]), some (endF14 z 2), none, none]) := E_call (ds := [(endF14 z 2)]) (es := [(endF14 z 2)]) (ρ1 := [a, b, some one, some other, some (.str op), some (.list [rwD "load" (.str "a") 3, rwD op .none 5]), some (.list []), some (.str z), some (nm one other), some (.tuple [.str "fault", .str z, .int 5]), some (endF14 z 2), none, none]) (o := [none]) (by kernel_rfl) rfl q0
  have c0 : (mIte (mTr (m2 (.fz) (.fz) (mCall f__law_shown [.fz] [] (maCons (mVar 10) maNil)) (mCall f__law_shown [.fz] [] (maCons (mTup (maCons (mVar 9) (maCons (mLst maNil) (maCons (m2 (.fz) (.fz) (mOp [.fz] (maCons (mVar 5) maNil) dLenU) (mIf (mTr (m2 (.fz) (.fz) (mVar 7) (mC .none) dIsN)) (mC (.int 1)) (mC (.int 0))) dAddU) maNil)))) maNil)) dNeU)) (mRet (mC (.bool false))) mSkip) [a, b, some one, some other, some (.str op), some (.list [rwD "load" (.str "a") 3, rwD op .none 5]), some (.list []), some (.str z), some (nm one other), some (.tuple [.str "fault", .str z, .int 5]), some (endF14 z 2), none, none] = some (.nx, [a, b, some one, some other, some (.str op), some (.list [rwD "load" (.str "a") 3, rwD op .none 5]), some (.list []), some (.str z), some (nm one other), some (.tuple [.str "fault", .str z, .int 5]), some (endF14 z 2), none, none]) := E_iteF (a := mRet (mC (.bool false))) (b := mSkip) (E_tr (E_m2 (k := .fz) (k2 := .fz) (op := dNeU) (es := [.str s0, .str s0]) p0 p1 rfl (sh_ne k0)))
  have p2 : (mCall f__law_shown [.fz] [] (maCons (mVar 10) maNil)) [a, b, some one, some other, some (.str op), some (.list [rwD "load" (.str "a") 3, rwD op .none 5]), some (.list []), some (.str z), some (nm one other), some (.tuple [.str "fault", .str z, .int 5]), some (endV (.str z) 3), some (.list [rwD "try" (.int 1) 1, rwD "load" (.str "a") 3, rwD op .none 5, rwD "endtry" .none 1, rwD "label" (.int 1) 1, rwD "return" .none 6]), some (.str z)] = some (.str s1, [a, b, some one, some other, some (.str op), some (.list [rwD "load" (.str "a") 3, rwD op .none 5]), some (.list []), some (.str z), some (nm one other), some (.tuple [.str "fault", .str z, .int 5]), some (endV (.str z) 3), some (.list [rwD "try" (.int 1) 1, rwD "load" (.str "a") 3, rwD op .none 5, rwD "endtry" .none 1, rwD "label" (.int 1) 1, rwD "return" .none 6]), some (.str z)]) := E_call (ds := [(endV (.str z) 3)]) (es := [(endV (.str z) 3)]) (ρ1 := [a, b, some one, some other, some (.str op), some (.list [rwD "load" (.str "a") 3, rwD op .none 5]), some (.list []), some (.str z), some (nm one other), some (.tuple [.str "fault", .str z, .int 5]), some (endV (.str z) 3), some (.list [rwD "try" (.int 1) 1, rwD "load" (.str "a") 3, rwD op .none 5, rwD "endtry" .none 1, rwD "label" (.int 1) 1, rwD "return" .none 6]), some (.str z)]) (o := [none]) rfl rfl q1
  have p3 : (mCall f__law_shown [.fz] [] (maCons (mTup (maCons (mTup (maCons (mC (.str "value")) (maCons (mVar 12) maNil))) (maCons (mLst maNil) (maCons (m2 (.fz) (.fz) (mOp [.fz] (maCons (mVar 5) maNil) dLenU) (mC (.int 1)) dAddU) maNil)))) maNil)) [a, b, some one, some other, some (.str op), some (.list [rwD "load" (.str "a") 3, rwD op .none 5]), some (.list []), some (.str z), some (nm one other), some (.tuple [.str "fault", .str z, .int 5]), some (endV (.str z) 3), some (.list [rwD "try" (.int 1) 1, rwD "load" (.str "a") 3, rwD op .none 5, rwD "endtry" .none 1, rwD "label" (.int 1) 1, rwD "return" .none 6]), some (.str z)] = some (.str s1, [a, b, some one, some other, some (.str op), some (.list [rwD "load" (.str "a") 3, rwD op .none 5]), some (.list []), some (.str z), some (nm one other), some (.tuple [.str "fault", .str z, .int 5]), some (endV (.str z) 3), some (.list [rwD "try" (.int 1) 1, rwD "load" (.str "a") 3, rwD op .none 5, rwD "endtry" .none 1, rwD "label" (.int 1) 1, rwD "return" .none 6]), some (.str z)]) := E_call (ds := [(endV (.str z) 3)]) (es := [(endV (.str z) 3)]) (ρ1 := [a, b, some one, some other, some (.str op), some (.list [rwD "load" (.str "a") 3, rwD op .none 5]), some (.list []), some (.str z), some (nm one other), some (.tuple [.str "fault", .str z, .int 5]), some (endV (.str z) 3), some (.list [rwD "try" (.int 1) 1, rwD "load" (.str "a") 3, rwD op .none 5, rwD "endtry" .none 1, rwD "label" (.int 1) 1, rwD "return" .none 6]), some (.str z)]) (o := [none]) (by kernel_rfl) rfl q1
  have c1 := E_m2 (k := .fz) (k2 := .fz) (op := dEqU) (es := [.str s1, .str s1]) p2 p3 rfl (sh_eq k1)
  refine ⟨[a, b, some one, some other, some (.str op), some (.list [rwD "load" (.str "a") 3, rwD op .none 5]), some (.list []), some (.str z), some (nm one other), some (.tuple [.str "fault", .str z, .int 5]), some (endV (.str z) 3), some (.list [rwD "try" (.int 1) 1, rwD "load" (.str "a") 3, rwD op .none 5, rwD "endtry" .none 1, rwD "label" (.int 1) 1, rwD "return" .none 6]), some (.str z)], ?_⟩
  unfold tail14
  refine Eq.trans (E_seq (ρ1 := [a, b, some one, some other, some (.str op), some (.list [rwD "load" (.str "a") 3, rwD "load" (.str "b") 4, rwD op .none 5]), none, none, none, none, none, none, none]) (by kernel_rfl)) ?_
  refine Eq.trans (E_seq (ρ1 := [a, b, some one, some other, some (.str op), some (.list [rwD "load" (.str "a") 3, rwD op .none 5]), none, none, none, none, none, none, none]) (by rcases ho with rfl | rfl <;> kernel_rfl)) ?_
  refine Eq.trans (E_seq (ρ1 := [a, b, some one, some other, some (.str op), some (.list [rwD "load" (.str "a") 3, rwD op .none 5]), some (.list [one]), none, none, none, none, none, none]) (by kernel_rfl)) ?_
  refine Eq.trans (E_seq (ρ1 := [a, b, some one, some other, some (.str op), some (.list [rwD "load" (.str "a") 3, rwD op .none 5]), some (.list []), some (.str z), none, none, none, none, none]) (E_set (i := 7) (d := (.str z)) (ρ1 := [a, b, some one, some other, some (.str op), some (.list [rwD "load" (.str "a") 3, rwD op .none 5]), some (.list []), none, none, none, none, none, none]) m0)) ?_
  refine Eq.trans (E_seq (ρ1 := [a, b, some one, some other, some (.str op), some (.list [rwD "load" (.str "a") 3, rwD op .none 5]), some (.list []), some (.str z), some (nm one other), none, none, none, none]) (by kernel_rfl)) ?_
  refine Eq.trans (E_seq (ρ1 := [a, b, some one, some other, some (.str op), some (.list [rwD "load" (.str "a") 3, rwD op .none 5]), some (.list []), some (.str z), some (nm one other), some (.tuple [.str "fault", .str z, .int 5]), none, none, none]) (by kernel_rfl)) ?_
  refine Eq.trans (E_seq (ρ1 := [a, b, some one, some other, some (.str op), some (.list [rwD "load" (.str "a") 3, rwD op .none 5]), some (.list []), some (.str z), some (nm one other), some (.tuple [.str "fault", .str z, .int 5]), some (endF14 z 2), none, none]) (E_set (i := 10) (d := (endF14 z 2)) (ρ1 := [a, b, some one, some other, some (.str op), some (.list [rwD "load" (.str "a") 3, rwD op .none 5]), some (.list []), some (.str z), some (nm one other), some (.tuple [.str "fault", .str z, .int 5]), none, none, none]) r0)) ?_
  refine Eq.trans (E_seq (ρ1 := [a, b, some one, some other, some (.str op), some (.list [rwD "load" (.str "a") 3, rwD op .none 5]), some (.list []), some (.str z), some (nm one other), some (.tuple [.str "fault", .str z, .int 5]), some (endF14 z 2), none, none]) c0) ?_
  refine Eq.trans (E_seq (ρ1 := [a, b, some one, some other, some (.str op), some (.list [rwD "load" (.str "a") 3, rwD op .none 5]), some (.list []), some (.str z), some (nm one other), some (.tuple [.str "fault", .str z, .int 5]), some (endF14 z 2), some (.list [rwD "try" (.int 1) 1, rwD "load" (.str "a") 3, rwD op .none 5, rwD "endtry" .none 1, rwD "label" (.int 1) 1, rwD "return" .none 6]), none]) (by kernel_rfl)) ?_
  refine Eq.trans (E_seq (ρ1 := [a, b, some one, some other, some (.str op), some (.list [rwD "load" (.str "a") 3, rwD op .none 5]), some (.list []), some (.str z), some (nm one other), some (.tuple [.str "fault", .str z, .int 5]), some (endV (.str z) 3), some (.list [rwD "try" (.int 1) 1, rwD "load" (.str "a") 3, rwD op .none 5, rwD "endtry" .none 1, rwD "label" (.int 1) 1, rwD "return" .none 6]), none]) (E_set (i := 10) (d := (endV (.str z) 3)) (ρ1 := [a, b, some one, some other, some (.str op), some (.list [rwD "load" (.str "a") 3, rwD op .none 5]), some (.list []), some (.str z), some (nm one other), some (.tuple [.str "fault", .str z, .int 5]), some (endF14 z 2), some (.list [rwD "try" (.int 1) 1, rwD "load" (.str "a") 3, rwD op .none 5, rwD "endtry" .none 1, rwD "label" (.int 1) 1, rwD "return" .none 6]), none]) r1)) ?_
  refine Eq.trans (E_seq (ρ1 := [a, b, some one, some other, some (.str op), some (.list [rwD "load" (.str "a") 3, rwD op .none 5]), some (.list []), some (.str z), some (nm one other), some (.tuple [.str "fault", .str z, .int 5]), some (endV (.str z) 3), some (.list [rwD "try" (.int 1) 1, rwD "load" (.str "a") 3, rwD op .none 5, rwD "endtry" .none 1, rwD "label" (.int 1) 1, rwD "return" .none 6]), some (.str z)]) (by kernel_rfl)) ?_
  exact E_ret c1
abbrev ops9 : List D := [.str "add", .str "sub", .str "mul", .str "div", .str "rest", .str "less", .str "same", .str "neg", .str "not"]
theorem tail_all {a b : Option D} {one other d : D} (h1 : V14 one) (h2 : V14 other) (hd : d ∈ ops9) : ∃ ρ, tail14 [a, b, some one, some other, some d, none, none, none, none, none, none, none, none] = some (.rt (.bool true), ρ) := by
  have hc : (∃ op ∈ pops, d = .str op) ∨ d = .str "neg" ∨ d = .str "not" := by
    simp only [ops9, pops, List.mem_cons, List.not_mem_nil, or_false] at hd ⊢
    rcases hd with rfl | rfl | rfl | rfl | rfl | rfl | rfl | rfl | rfl <;> simp
  have un : ∀ {op : Str}, (op = "neg" ∨ op = "not") → ∃ ρ, tail14 [a, b, some one, some other, some (.str op), none, none, none, none, none, none, none, none] = some (.rt (.bool true), ρ) := fun {op} ho => by
    rcases made_single ho h1 with ⟨w, hw, e1, e2⟩ | ⟨z, hz, e1, e2⟩
    · exact tail_u_found ho h1 h2 hw e1 e2
    · exact tail_u_fault ho h1 h2 hz e1 e2
  rcases hc with ⟨op, ho, rfl⟩ | rfl | rfl
  · rcases made_pair ho h1 h2 with ⟨w, hw, e1, e2⟩ | ⟨z, hz, e1, e2⟩
    · exact tail_b_found ho h1 h2 hw e1 e2
    · exact tail_b_fault ho h1 h2 hz e1 e2
  · exact un (.inl rfl)
  · exact un (.inr rfl)
theorem law_true : ∀ ns : List Int, ns.length ≤ 63 → ∃ o, f_law [some (.list (ns.map PyData.int))] = some (.bool true, o) := by
  intro ns hn
  suffices h : W (f_law [some (dL ns)]) fun d _ => d = .bool true by
    obtain ⟨d, o, e, q⟩ := h
    exact ⟨o, by rw [← q]; exact e⟩
  unfold f_law
  rw [W_fn]
  unfold m_law
  refine W_town hn none fun t0 h0 => ?_
  obtain ⟨one, t1, e1, v1, T1⟩ := any_ok h0 (by decide)
  obtain ⟨other, t2, e2, v2, T2⟩ := any_ok T1 (by decide)
  have g1 : (mCall f__law_any [.fz, .br 1] [] (maCons (mVar 0) (maCons (mBr 1) maNil))) [some (dL ns), some t0, none, none, none, none, none, none, none, none, none, none, none] = some (one, [some (dL ns), some t1, none, none, none, none, none, none, none, none, none, none, none]) := E_call (ds := [dL ns, .none]) (es := [dL ns, t0]) (o := [none, some t1]) (ρ1 := [some (dL ns), some t0, none, none, none, none, none, none, none, none, none, none, none]) rfl rfl e1
  have g2 : (mCall f__law_any [.fz, .br 1] [] (maCons (mVar 0) (maCons (mBr 1) maNil))) [some (dL ns), some t1, none, none, none, none, none, none, none, none, none, none, none] = some (other, [some (dL ns), some t2, none, none, none, none, none, none, none, none, none, none, none]) := E_call (ds := [dL ns, .none]) (es := [dL ns, t1]) (o := [none, some t2]) (ρ1 := [some (dL ns), some t1, none, none, none, none, none, none, none, none, none, none, none]) rfl rfl e2
  refine W_seq_eq (ρ1 := [some (dL ns), some t2, some one, some other, none, none, none, none, none, none, none, none, none]) (E_par (i := 2) (j := 3) (d1 := one) (d2 := other) (ρ1 := [some (dL ns), some t2, none, none, none, none, none, none, none, none, none, none, none]) (E_aCons g1 (E_aCons g2 rfl))) ?_
  refine W_pick 2 T2 (by decide) (xs := ops9) (by kernel_rfl) (by decide) fun t3 T3 d hd => ?_
  obtain ⟨ρ, e⟩ := tail_all (a := some (dL ns)) (b := some t3) v1 v2 hd
  exact ⟨_, _, e, rfl⟩
end DL

namespace DL
open PySem PySem.Spec PyProof.Rows L2
/-! ### the head: facts by names, the run -/
def d_is_number : He.DefD := ⟨("is_number", none), "is_number", "is_number", defArgs s_is_number, defBody s_is_number, defScope s_is_number, [], []⟩
def d_is_name : He.DefD := ⟨("is_name", none), "is_name", "is_name", defArgs s_is_name, defBody s_is_name, defScope s_is_name, [], []⟩
def d_is_kind : He.DefD := ⟨("is_kind", none), "is_kind", "is_kind", defArgs s_is_kind, defBody s_is_kind, defScope s_is_kind, [], []⟩
def d_is_value : He.DefD := ⟨("is_value", none), "is_value", "is_value", defArgs s_is_value, defBody s_is_value, defScope s_is_value, [], []⟩
def d_is_mark : He.DefD := ⟨("is_mark", none), "is_mark", "is_mark", defArgs s_is_mark, defBody s_is_mark, defScope s_is_mark, [], []⟩
def d_is_row : He.DefD := ⟨("is_row", none), "is_row", "is_row", defArgs s_is_row, defBody s_is_row, defScope s_is_row, [], []⟩
def d_bad_place : He.DefD := ⟨("bad_place", none), "bad_place", "bad_place", defArgs s_bad_place, defBody s_bad_place, defScope s_bad_place, [], []⟩
def d_look_code : He.DefD := ⟨("look_code", none), "look_code", "look_code", defArgs s_look_code, defBody s_look_code, defScope s_look_code, [], []⟩
def d_where_of : He.DefD := ⟨("where_of", none), "where_of", "where_of", defArgs s_where_of, defBody s_where_of, defScope s_where_of, [], []⟩
def d_takes : He.DefD := ⟨("takes", none), "takes", "takes", defArgs s_takes, defBody s_takes, defScope s_takes, [], []⟩
def d_grows : He.DefD := ⟨("grows", none), "grows", "grows", defArgs s_grows, defBody s_grows, defScope s_grows, [], []⟩
def d_plain_next : He.DefD := ⟨("plain_next", none), "plain_next", "plain_next", defArgs s_plain_next, defBody s_plain_next, defScope s_plain_next, [], []⟩
def d_all_next : He.DefD := ⟨("all_next", none), "all_next", "all_next", defArgs s_all_next, defBody s_all_next, defScope s_all_next, [], []⟩
def d_lacks : He.DefD := ⟨("lacks", none), "lacks", "lacks", defArgs s_lacks, defBody s_lacks, defScope s_lacks, [], []⟩
def d_explored : He.DefD := ⟨("explored", none), "explored", "explored", defArgs s_explored, defBody s_explored, defScope s_explored, [], []⟩
def d_states_of : He.DefD := ⟨("states_of", none), "states_of", "states_of", defArgs s_states_of, defBody s_states_of, defScope s_states_of, [], []⟩
def d_look_sound : He.DefD := ⟨("look_sound", none), "look_sound", "look_sound", defArgs s_look_sound, defBody s_look_sound, defScope s_look_sound, [], []⟩
def d_is_whole : He.DefD := ⟨("is_whole", none), "is_whole", "is_whole", defArgs s_is_whole, defBody s_is_whole, defScope s_is_whole, [], []⟩
def d_is_true : He.DefD := ⟨("is_true", none), "is_true", "is_true", defArgs s_is_true, defBody s_is_true, defScope s_is_true, [], []⟩
def d_are_same : He.DefD := ⟨("are_same", none), "are_same", "are_same", defArgs s_are_same, defBody s_are_same, defScope s_are_same, [], []⟩
def d_reckoned : He.DefD := ⟨("reckoned", none), "reckoned", "reckoned", defArgs s_reckoned, defBody s_reckoned, defScope s_reckoned, [], []⟩
def d_paired : He.DefD := ⟨("paired", none), "paired", "paired", defArgs s_paired, defBody s_paired, defScope s_paired, [], []⟩
def d_single : He.DefD := ⟨("single", none), "single", "single", defArgs s_single, defBody s_single, defScope s_single, [], []⟩
def d_takes_jump : He.DefD := ⟨("takes_jump", none), "takes_jump", "takes_jump", defArgs s_takes_jump, defBody s_takes_jump, defScope s_takes_jump, [], []⟩
def d_look_names : He.DefD := ⟨("look_names", none), "look_names", "look_names", defArgs s_look_names, defBody s_look_names, defScope s_look_names, [], []⟩
def d_look_steps : He.DefD := ⟨("look_steps", none), "look_steps", "look_steps", defArgs s_look_steps, defBody s_look_steps, defScope s_look_steps, [], []⟩
def d_Walk___len__ : He.DefD := ⟨("Walk", some "__len__"), "__len__", "Walk.__len__", defArgs s_Walk___len__, defBody s_Walk___len__, defScope s_Walk___len__, [], []⟩
def d_Walk_pass_by : He.DefD := ⟨("Walk", some "pass_by"), "pass_by", "Walk.pass_by", defArgs s_Walk_pass_by, defBody s_Walk_pass_by, defScope s_Walk_pass_by, [], []⟩
def d_Walk___init__ : He.DefD := ⟨("Walk", some "__init__"), "__init__", "Walk.__init__", defArgs s_Walk___init__, defBody s_Walk___init__, defScope s_Walk___init__, [], []⟩
def d_Walk_place : He.DefD := ⟨("Walk", some "place"), "place", "Walk.place", defArgs s_Walk_place, defBody s_Walk_place, defScope s_Walk_place, [], []⟩
def d_Walk_stack : He.DefD := ⟨("Walk", some "stack"), "stack", "Walk.stack", defArgs s_Walk_stack, defBody s_Walk_stack, defScope s_Walk_stack, [], []⟩
def d_Walk_names : He.DefD := ⟨("Walk", some "names"), "names", "Walk.names", defArgs s_Walk_names, defBody s_Walk_names, defScope s_Walk_names, [], []⟩
def d_Walk_guards : He.DefD := ⟨("Walk", some "guards"), "guards", "Walk.guards", defArgs s_Walk_guards, defBody s_Walk_guards, defScope s_Walk_guards, [], []⟩
def d_Walk_told : He.DefD := ⟨("Walk", some "told"), "told", "Walk.told", defArgs s_Walk_told, defBody s_Walk_told, defScope s_Walk_told, [], []⟩
def d_Walk_end : He.DefD := ⟨("Walk", some "end"), "end", "Walk.end", defArgs s_Walk_end, defBody s_Walk_end, defScope s_Walk_end, [], []⟩
def d_Walk_places : He.DefD := ⟨("Walk", some "places"), "places", "Walk.places", defArgs s_Walk_places, defBody s_Walk_places, defScope s_Walk_places, [], []⟩
def d_Walk_fault : He.DefD := ⟨("Walk", some "fault"), "fault", "Walk.fault", defArgs s_Walk_fault, defBody s_Walk_fault, defScope s_Walk_fault, [], []⟩
def d_Walk_move : He.DefD := ⟨("Walk", some "move"), "move", "Walk.move", defArgs s_Walk_move, defBody s_Walk_move, defScope s_Walk_move, [], []⟩
def d_Walk_reckon : He.DefD := ⟨("Walk", some "reckon"), "reckon", "Walk.reckon", defArgs s_Walk_reckon, defBody s_Walk_reckon, defScope s_Walk_reckon, [], []⟩
def d_Walk_name_done : He.DefD := ⟨("Walk", some "name_done"), "name_done", "Walk.name_done", defArgs s_Walk_name_done, defBody s_Walk_name_done, defScope s_Walk_name_done, [], []⟩
def d_Walk_jump : He.DefD := ⟨("Walk", some "jump"), "jump", "Walk.jump", defArgs s_Walk_jump, defBody s_Walk_jump, defScope s_Walk_jump, [], []⟩
def d_Walk_done : He.DefD := ⟨("Walk", some "done"), "done", "Walk.done", defArgs s_Walk_done, defBody s_Walk_done, defScope s_Walk_done, [], []⟩
def d_Walk_step : He.DefD := ⟨("Walk", some "step"), "step", "Walk.step", defArgs s_Walk_step, defBody s_Walk_step, defScope s_Walk_step, [], []⟩
def d_run : He.DefD := ⟨("run", none), "run", "run", defArgs s_run, defBody s_run, defScope s_run, [], []⟩
def d__law_town : He.DefD := ⟨("_law_town", none), "_law_town", "_law_town", defArgs s__law_town, defBody s__law_town, defScope s__law_town, [], []⟩
def d__law_draw : He.DefD := ⟨("_law_draw", none), "_law_draw", "_law_draw", defArgs s__law_draw, defBody s__law_draw, defScope s__law_draw, [], []⟩
def d__law_pick : He.DefD := ⟨("_law_pick", none), "_law_pick", "_law_pick", defArgs s__law_pick, defBody s__law_pick, defScope s__law_pick, [], []⟩
def d__law_whole : He.DefD := ⟨("_law_whole", none), "_law_whole", "_law_whole", defArgs s__law_whole, defBody s__law_whole, defScope s__law_whole, [], []⟩
def d__law_true : He.DefD := ⟨("_law_true", none), "_law_true", "_law_true", defArgs s__law_true, defBody s__law_true, defScope s__law_true, [], []⟩
def d__law_pair : He.DefD := ⟨("_law_pair", none), "_law_pair", "_law_pair", defArgs s__law_pair, defBody s__law_pair, defScope s__law_pair, [], []⟩
def d__law_made : He.DefD := ⟨("_law_made", none), "_law_made", "_law_made", defArgs s__law_made, defBody s__law_made, defScope s__law_made, [], []⟩
def d__law_shown : He.DefD := ⟨("_law_shown", none), "_law_shown", "_law_shown", defArgs s__law_shown, defBody s__law_shown, defScope s__law_shown, [], []⟩
def d__law_any : He.DefD := ⟨("_law_any", none), "_law_any", "_law_any", defArgs s__law_any, defBody s__law_any, defScope s__law_any, [], []⟩
def d_law : He.DefD := ⟨("law", none), "law", "law", defArgs s_law, defBody s_law, defScope s_law, [], []⟩
def fn : List He.DefD := [d_is_number, d_is_name, d_is_kind, d_is_value, d_is_mark, d_is_row, d_bad_place, d_look_code, d_where_of, d_takes, d_grows, d_plain_next, d_all_next, d_lacks, d_explored, d_states_of, d_look_sound, d_is_whole, d_is_true, d_are_same, d_reckoned, d_paired, d_single, d_takes_jump, d_look_names, d_look_steps, d_Walk___len__, d_Walk_pass_by, d_Walk___init__, d_Walk_place, d_Walk_stack, d_Walk_names, d_Walk_guards, d_Walk_told, d_Walk_end, d_Walk_places, d_Walk_fault, d_Walk_move, d_Walk_reckon, d_Walk_name_done, d_Walk_jump, d_Walk_done, d_Walk_step, d_run, d__law_town, d__law_draw, d__law_pick, d__law_whole, d__law_true, d__law_pair, d__law_made, d__law_shown, d__law_any, d_law]
def fa : List He.Fa := bltNames.map He.Fa.free ++ [.glo "is_number", .glo "is_name", .glo "is_kind", .glo "is_value", .glo "is_mark", .glo "is_row", .glo "bad_place", .glo "look_code", .glo "where_of", .glo "takes", .glo "grows", .glo "plain_next", .glo "all_next", .glo "lacks", .glo "explored", .glo "states_of", .glo "look_sound", .glo "is_whole", .glo "is_true", .glo "are_same", .glo "reckoned", .glo "paired", .glo "single", .glo "takes_jump", .glo "look_names", .glo "look_steps", .glo "run", .glo "_law_town", .glo "_law_draw", .glo "_law_pick", .glo "_law_whole", .glo "_law_true", .glo "_law_pair", .glo "_law_made", .glo "_law_shown", .glo "_law_any", .glo "law", .glo "COUNTED", .glo "Walk", .cls "Walk", .mkr "Walk", .noat "Walk" "rows", .noat "Walk" "where", .noat "Walk" "held", .noat "Walk" "pile", .noat "Walk" "shields", .noat "Walk" "out", .noat "Walk" "trail", .noat "Walk" "last", .noat "Walk" "at", .meth "Walk" "__len__", .meth "Walk" "pass_by", .meth "Walk" "__init__", .meth "Walk" "place", .meth "Walk" "stack", .meth "Walk" "names", .meth "Walk" "guards", .meth "Walk" "told", .meth "Walk" "end", .meth "Walk" "places", .meth "Walk" "fault", .meth "Walk" "move", .meth "Walk" "reckon", .meth "Walk" "name_done", .meth "Walk" "jump", .meth "Walk" "done", .meth "Walk" "step"]
def ts : List He.Tab := [(fun K => He.ga K "COUNTED", ["copy", "swap"])]
def exB (K : PySem.W.Frag) : Bool := (gcB K "BARE" (.tuple [(.str "add"), (.str "sub"), (.str "mul"), (.str "div"), (.str "rest"), (.str "less"), (.str "same"), (.str "drop"), (.str "neg"), (.str "not"), (.str "tell"), (.str "return"), (.str "raise"), (.str "endtry")]) && (gcB K "BEGIN" (.tuple [(.int 0), (.tuple [])]) && (gcB K "BIG" (.int 1000000000000000000) && (gcB K "BRANCHES" (.tuple [(.str "iftrue"), (.str "iffalse"), (.str "ortrue"), (.str "orfalse")]) && (gcB K "CAPITALS" (.str "ABCDEFGHIJKLMNOPQRSTUVWXYZ") && (gdB K "COUNTED" [("copy", (.int 1)), ("swap", (.int 2))] && (gcB K "FAULTY" (.tuple [(.str "load"), (.str "clear"), (.str "add"), (.str "sub"), (.str "mul"), (.str "div"), (.str "rest"), (.str "less"), (.str "neg"), (.str "raise")]) && (gcB K "GREAT" (.int 1000000000) && (gcB K "JUMPS" (.tuple [(.str "jump"), (.str "iftrue"), (.str "iffalse"), (.str "ortrue"), (.str "orfalse"), (.str "try")]) && (gcB K "LETTERS" (.str "abcdefghijklmnopqrstuvwxyz") && (gcB K "MOST_ROWS" (.int 150) && (gcB K "MOST_STEPS" (.int 100000) && (gcB K "NAMED" (.tuple [(.str "load"), (.str "quick"), (.str "store"), (.str "clear")]) && (gcB K "PAIRED" (.tuple [(.str "add"), (.str "sub"), (.str "mul"), (.str "div"), (.str "rest"), (.str "less"), (.str "same")]) && (gcB K "PSEUDO" (.tuple [(.str "label"), (.str "try"), (.str "endtry")]) && (gcB K "VALUES" (.tuple [(.str "push")]) && true))))))))))))))))
abbrev R : PySem.W.OpenRow := PySem.W.OpenLaw.row PySem.Challenge.rw_codemill_k14_whole_reckoning
abbrev hk : PySem.W.Hook := He.hookX 4 fa fn ts [] exB
def obX (s : PySem.W.SharedT) : He.AlX := He.obsX 4 fa fn ts [] exB (HandSHeadRun.getT s)
theorem ob_eq (s : PySem.W.SharedT) : obX s = hk.obs s.abs := He.obsX_eq (HandSHeadRun.getT_eq s)
def loose : List Str := (["MillError", "BadCode", "BadNames", "BadNumber", "Unsound", "LETTERS", "CAPITALS", "MOST_ROWS", "GREAT", "VALUES", "NAMED", "COUNTED", "JUMPS", "PAIRED", "BARE", "is_number"] : List Str) ++ (["is_name", "is_kind", "is_value", "is_mark", "is_row", "bad_place", "look_code", "where_of", "FAULTY", "BRANCHES", "BEGIN", "takes", "grows", "plain_next", "all_next", "lacks"] : List Str) ++ (["explored", "states_of", "look_sound", "BIG", "is_whole", "is_true", "are_same", "reckoned", "paired", "single", "takes_jump", "MOST_STEPS", "PSEUDO", "look_names", "look_steps", "Walk"] : List Str) ++ (["run", "_law_town", "_law_draw", "_law_pick", "_law_whole", "_law_true", "_law_pair", "_law_made", "_law_shown", "_law_any"] : List Str)
theorem runFT (b : Bool) (w : World) : HandSHeadRun.RunEq R (PySem.W.view R.prog [64]) hk obX 4000 loose (setFT b w) := by
  cases b
  · intro os
    kernel_rfl
  · intro os
    kernel_rfl
theorem run (w : World) : HandSHeadRun.RunEq R (PySem.W.view R.prog [64]) hk obX 4000 loose w := by
  have h := runFT (w.params.followText "special-get-raises") w
  rwa [setFT_eq] at h
theorem facts {P : Program} {w : World} {K : PySem.W.Frag} {h : Heap} {mg : Str → Option Value} {f : Addr} (X : K.In h) (G : h.Ns mainGlobals mg) (hfa : mg ("law" : Str) = some (.ref f)) (cx : He.SaysX fa fn ts [] exB w h K) :
    ∃ fd : FuncData, (∀ (s : Shared) (v : Value), BindsTo s fd ⟨[v], []⟩ [("_law_script", v)]) ∧ ∀ base : Heap, K.In base → base.Ns mainGlobals mg → FnG P w K mg base CX0 11 f fd ["_law_script"] (spF K [.fz] f_law .fz) := by
  have c := cx.t.d
  have B : Bt mg := ⟨fun x hx => by
    obtain ⟨i, hi⟩ := List.mem_iff_getElem?.mp hx
    refine He.free_ok X G (c.fact i (f := .free x) ?_)
    unfold fa
    rw [List.getElem?_append_left (by rw [List.length_map]; exact (List.getElem?_eq_some_iff.mp hi).1), List.getElem?_map, hi]
    rfl⟩
  have hx0 : exB K = true := cx.more
  unfold exB at hx0
  have hx1 := (He.ba hx0).2
  have hx2 := (He.ba hx1).2
  have hx3 := (He.ba hx2).2
  have hx4 := (He.ba hx3).2
  have hx5 := (He.ba hx4).2
  have hx6 := (He.ba hx5).2
  have hx7 := (He.ba hx6).2
  have hx8 := (He.ba hx7).2
  have hx9 := (He.ba hx8).2
  have hx10 := (He.ba hx9).2
  have hx11 := (He.ba hx10).2
  have hx12 := (He.ba hx11).2
  have hx13 := (He.ba hx12).2
  have hx14 := (He.ba hx13).2
  have hx15 := (He.ba hx14).2
  have hx16 := (He.ba hx15).2
  have C : Ct K w mg := ⟨gc_ok X G (He.ba hx0).1, gc_ok X G (He.ba hx1).1, gc_ok X G (He.ba hx2).1, gc_ok X G (He.ba hx3).1, gc_ok X G (He.ba hx4).1, gd_ok (h := h) (He.glo_ok X G (c.fact 57 (f := .glo "COUNTED") rfl)) (cx.t.tab 0 (t := (fun K => He.ga K "COUNTED", ["copy", "swap"])) rfl) (He.ba hx5).1, gc_ok X G (He.ba hx6).1, gc_ok X G (He.ba hx7).1, gc_ok X G (He.ba hx8).1, gc_ok X G (He.ba hx9).1, gc_ok X G (He.ba hx10).1, gc_ok X G (He.ba hx11).1, gc_ok X G (He.ba hx12).1, gc_ok X G (He.ba hx13).1, gc_ok X G (He.ba hx14).1, gc_ok X G (He.ba hx15).1, ⟨He.cls_ok (c.fact 59 (f := .cls "Walk") rfl), He.noat_ok (c.fact 61 (f := .noat "Walk" "rows") rfl)⟩, ⟨He.cls_ok (c.fact 59 (f := .cls "Walk") rfl), He.noat_ok (c.fact 62 (f := .noat "Walk" "where") rfl)⟩, ⟨He.cls_ok (c.fact 59 (f := .cls "Walk") rfl), He.noat_ok (c.fact 63 (f := .noat "Walk" "held") rfl)⟩, ⟨He.cls_ok (c.fact 59 (f := .cls "Walk") rfl), He.noat_ok (c.fact 64 (f := .noat "Walk" "pile") rfl)⟩, ⟨He.cls_ok (c.fact 59 (f := .cls "Walk") rfl), He.noat_ok (c.fact 65 (f := .noat "Walk" "shields") rfl)⟩, ⟨He.cls_ok (c.fact 59 (f := .cls "Walk") rfl), He.noat_ok (c.fact 66 (f := .noat "Walk" "out") rfl)⟩, ⟨He.cls_ok (c.fact 59 (f := .cls "Walk") rfl), He.noat_ok (c.fact 67 (f := .noat "Walk" "trail") rfl)⟩, ⟨He.cls_ok (c.fact 59 (f := .cls "Walk") rfl), He.noat_ok (c.fact 68 (f := .noat "Walk" "last") rfl)⟩, ⟨He.cls_ok (c.fact 59 (f := .cls "Walk") rfl), He.noat_ok (c.fact 69 (f := .noat "Walk" "at") rfl)⟩⟩
  obtain ⟨fd_is_number, F_is_number⟩ := c.def_ 0 (d := d_is_number) rfl
  have M_is_number := He.glo_ok X G (c.fact 20 (f := .glo "is_number") rfl)
  obtain ⟨fd_is_name, F_is_name⟩ := c.def_ 1 (d := d_is_name) rfl
  have M_is_name := He.glo_ok X G (c.fact 21 (f := .glo "is_name") rfl)
  obtain ⟨fd_is_kind, F_is_kind⟩ := c.def_ 2 (d := d_is_kind) rfl
  have M_is_kind := He.glo_ok X G (c.fact 22 (f := .glo "is_kind") rfl)
  obtain ⟨fd_is_value, F_is_value⟩ := c.def_ 3 (d := d_is_value) rfl
  have M_is_value := He.glo_ok X G (c.fact 23 (f := .glo "is_value") rfl)
  obtain ⟨fd_is_mark, F_is_mark⟩ := c.def_ 4 (d := d_is_mark) rfl
  have M_is_mark := He.glo_ok X G (c.fact 24 (f := .glo "is_mark") rfl)
  obtain ⟨fd_is_row, F_is_row⟩ := c.def_ 5 (d := d_is_row) rfl
  have M_is_row := He.glo_ok X G (c.fact 25 (f := .glo "is_row") rfl)
  obtain ⟨fd_bad_place, F_bad_place⟩ := c.def_ 6 (d := d_bad_place) rfl
  have M_bad_place := He.glo_ok X G (c.fact 26 (f := .glo "bad_place") rfl)
  obtain ⟨fd_look_code, F_look_code⟩ := c.def_ 7 (d := d_look_code) rfl
  have M_look_code := He.glo_ok X G (c.fact 27 (f := .glo "look_code") rfl)
  obtain ⟨fd_where_of, F_where_of⟩ := c.def_ 8 (d := d_where_of) rfl
  have M_where_of := He.glo_ok X G (c.fact 28 (f := .glo "where_of") rfl)
  obtain ⟨fd_takes, F_takes⟩ := c.def_ 9 (d := d_takes) rfl
  have M_takes := He.glo_ok X G (c.fact 29 (f := .glo "takes") rfl)
  obtain ⟨fd_grows, F_grows⟩ := c.def_ 10 (d := d_grows) rfl
  have M_grows := He.glo_ok X G (c.fact 30 (f := .glo "grows") rfl)
  obtain ⟨fd_plain_next, F_plain_next⟩ := c.def_ 11 (d := d_plain_next) rfl
  have M_plain_next := He.glo_ok X G (c.fact 31 (f := .glo "plain_next") rfl)
  obtain ⟨fd_all_next, F_all_next⟩ := c.def_ 12 (d := d_all_next) rfl
  have M_all_next := He.glo_ok X G (c.fact 32 (f := .glo "all_next") rfl)
  obtain ⟨fd_lacks, F_lacks⟩ := c.def_ 13 (d := d_lacks) rfl
  have M_lacks := He.glo_ok X G (c.fact 33 (f := .glo "lacks") rfl)
  obtain ⟨fd_explored, F_explored⟩ := c.def_ 14 (d := d_explored) rfl
  have M_explored := He.glo_ok X G (c.fact 34 (f := .glo "explored") rfl)
  obtain ⟨fd_states_of, F_states_of⟩ := c.def_ 15 (d := d_states_of) rfl
  have M_states_of := He.glo_ok X G (c.fact 35 (f := .glo "states_of") rfl)
  obtain ⟨fd_look_sound, F_look_sound⟩ := c.def_ 16 (d := d_look_sound) rfl
  have M_look_sound := He.glo_ok X G (c.fact 36 (f := .glo "look_sound") rfl)
  obtain ⟨fd_is_whole, F_is_whole⟩ := c.def_ 17 (d := d_is_whole) rfl
  have M_is_whole := He.glo_ok X G (c.fact 37 (f := .glo "is_whole") rfl)
  obtain ⟨fd_is_true, F_is_true⟩ := c.def_ 18 (d := d_is_true) rfl
  have M_is_true := He.glo_ok X G (c.fact 38 (f := .glo "is_true") rfl)
  obtain ⟨fd_are_same, F_are_same⟩ := c.def_ 19 (d := d_are_same) rfl
  have M_are_same := He.glo_ok X G (c.fact 39 (f := .glo "are_same") rfl)
  obtain ⟨fd_reckoned, F_reckoned⟩ := c.def_ 20 (d := d_reckoned) rfl
  have M_reckoned := He.glo_ok X G (c.fact 40 (f := .glo "reckoned") rfl)
  obtain ⟨fd_paired, F_paired⟩ := c.def_ 21 (d := d_paired) rfl
  have M_paired := He.glo_ok X G (c.fact 41 (f := .glo "paired") rfl)
  obtain ⟨fd_single, F_single⟩ := c.def_ 22 (d := d_single) rfl
  have M_single := He.glo_ok X G (c.fact 42 (f := .glo "single") rfl)
  obtain ⟨fd_takes_jump, F_takes_jump⟩ := c.def_ 23 (d := d_takes_jump) rfl
  have M_takes_jump := He.glo_ok X G (c.fact 43 (f := .glo "takes_jump") rfl)
  obtain ⟨fd_look_names, F_look_names⟩ := c.def_ 24 (d := d_look_names) rfl
  have M_look_names := He.glo_ok X G (c.fact 44 (f := .glo "look_names") rfl)
  obtain ⟨fd_look_steps, F_look_steps⟩ := c.def_ 25 (d := d_look_steps) rfl
  have M_look_steps := He.glo_ok X G (c.fact 45 (f := .glo "look_steps") rfl)
  obtain ⟨fd_Walk___len__, F_Walk___len__⟩ := c.def_ 26 (d := d_Walk___len__) rfl
  obtain ⟨fd_Walk_pass_by, F_Walk_pass_by⟩ := c.def_ 27 (d := d_Walk_pass_by) rfl
  obtain ⟨fd_Walk___init__, F_Walk___init__⟩ := c.def_ 28 (d := d_Walk___init__) rfl
  obtain ⟨fd_Walk_place, F_Walk_place⟩ := c.def_ 29 (d := d_Walk_place) rfl
  obtain ⟨fd_Walk_stack, F_Walk_stack⟩ := c.def_ 30 (d := d_Walk_stack) rfl
  obtain ⟨fd_Walk_names, F_Walk_names⟩ := c.def_ 31 (d := d_Walk_names) rfl
  obtain ⟨fd_Walk_guards, F_Walk_guards⟩ := c.def_ 32 (d := d_Walk_guards) rfl
  obtain ⟨fd_Walk_told, F_Walk_told⟩ := c.def_ 33 (d := d_Walk_told) rfl
  obtain ⟨fd_Walk_end, F_Walk_end⟩ := c.def_ 34 (d := d_Walk_end) rfl
  obtain ⟨fd_Walk_places, F_Walk_places⟩ := c.def_ 35 (d := d_Walk_places) rfl
  obtain ⟨fd_Walk_fault, F_Walk_fault⟩ := c.def_ 36 (d := d_Walk_fault) rfl
  obtain ⟨fd_Walk_move, F_Walk_move⟩ := c.def_ 37 (d := d_Walk_move) rfl
  obtain ⟨fd_Walk_reckon, F_Walk_reckon⟩ := c.def_ 38 (d := d_Walk_reckon) rfl
  obtain ⟨fd_Walk_name_done, F_Walk_name_done⟩ := c.def_ 39 (d := d_Walk_name_done) rfl
  obtain ⟨fd_Walk_jump, F_Walk_jump⟩ := c.def_ 40 (d := d_Walk_jump) rfl
  obtain ⟨fd_Walk_done, F_Walk_done⟩ := c.def_ 41 (d := d_Walk_done) rfl
  obtain ⟨fd_Walk_step, F_Walk_step⟩ := c.def_ 42 (d := d_Walk_step) rfl
  obtain ⟨fd_run, F_run⟩ := c.def_ 43 (d := d_run) rfl
  have M_run := He.glo_ok X G (c.fact 46 (f := .glo "run") rfl)
  obtain ⟨fd__law_town, F__law_town⟩ := c.def_ 44 (d := d__law_town) rfl
  have M__law_town := He.glo_ok X G (c.fact 47 (f := .glo "_law_town") rfl)
  obtain ⟨fd__law_draw, F__law_draw⟩ := c.def_ 45 (d := d__law_draw) rfl
  have M__law_draw := He.glo_ok X G (c.fact 48 (f := .glo "_law_draw") rfl)
  obtain ⟨fd__law_pick, F__law_pick⟩ := c.def_ 46 (d := d__law_pick) rfl
  have M__law_pick := He.glo_ok X G (c.fact 49 (f := .glo "_law_pick") rfl)
  obtain ⟨fd__law_whole, F__law_whole⟩ := c.def_ 47 (d := d__law_whole) rfl
  have M__law_whole := He.glo_ok X G (c.fact 50 (f := .glo "_law_whole") rfl)
  obtain ⟨fd__law_true, F__law_true⟩ := c.def_ 48 (d := d__law_true) rfl
  have M__law_true := He.glo_ok X G (c.fact 51 (f := .glo "_law_true") rfl)
  obtain ⟨fd__law_pair, F__law_pair⟩ := c.def_ 49 (d := d__law_pair) rfl
  have M__law_pair := He.glo_ok X G (c.fact 52 (f := .glo "_law_pair") rfl)
  obtain ⟨fd__law_made, F__law_made⟩ := c.def_ 50 (d := d__law_made) rfl
  have M__law_made := He.glo_ok X G (c.fact 53 (f := .glo "_law_made") rfl)
  obtain ⟨fd__law_shown, F__law_shown⟩ := c.def_ 51 (d := d__law_shown) rfl
  have M__law_shown := He.glo_ok X G (c.fact 54 (f := .glo "_law_shown") rfl)
  obtain ⟨fd__law_any, F__law_any⟩ := c.def_ 52 (d := d__law_any) rfl
  have M__law_any := He.glo_ok X G (c.fact 55 (f := .glo "_law_any") rfl)
  obtain ⟨fd_law, F_law⟩ := c.def_ 53 (d := d_law) rfl
  have e := hfa.symm.trans (He.glo_ok X G (c.fact 56 (f := .glo "law") rfl))
  cases e
  have b := FunD.bindsA (ps := ["_law_script"]) F_law fun _ _ _ _ _ _ us hl => match us, hl with | [_], _ => rfl
  refine ⟨fd_law, fun s v => b s [v] rfl, fun base _ _ => ?_⟩
  have G_is_number : FnX P w K mg base "is_number" 1 ["thing", "least", "most"] (spF K [.fz, .fz, .fz] f_is_number .fz) := ⟨_, fd_is_number, ok_is_number F_is_number B C, M_is_number, F_is_number.kp, F_is_number.bindsN fun _ _ _ _ _ _ us hl => match us, hl with | [_, _, _], _ => rfl⟩
  have G_is_name : FnX P w K mg base "is_name" 1 ["thing"] (spF K [.fz] f_is_name .fz) := ⟨_, fd_is_name, ok_is_name F_is_name B C, M_is_name, F_is_name.kp, F_is_name.bindsN fun _ _ _ _ _ _ us hl => match us, hl with | [_], _ => rfl⟩
  have G_is_kind : FnX P w K mg base "is_kind" 1 ["thing"] (spF K [.fz] f_is_kind .fz) := ⟨_, fd_is_kind, ok_is_kind F_is_kind B C, M_is_kind, F_is_kind.kp, F_is_kind.bindsN fun _ _ _ _ _ _ us hl => match us, hl with | [_], _ => rfl⟩
  have G_is_value : FnX P w K mg base "is_value" 2 ["thing", "most"] (spF K [.fz, .fz] f_is_value .fz) := ⟨_, fd_is_value, ok_is_value F_is_value B C G_is_kind G_is_number, M_is_value, F_is_value.kp, F_is_value.bindsN fun _ _ _ _ _ _ us hl => match us, hl with | [_, _], _ => rfl⟩
  have G_is_mark : FnX P w K mg base "is_mark" 2 ["thing"] (spF K [.fz] f_is_mark .fz) := ⟨_, fd_is_mark, ok_is_mark F_is_mark B C G_is_number, M_is_mark, F_is_mark.kp, F_is_mark.bindsN fun _ _ _ _ _ _ us hl => match us, hl with | [_], _ => rfl⟩
  have G_is_row : FnX P w K mg base "is_row" 3 ["thing"] (spF K [.fz] f_is_row .fz) := ⟨_, fd_is_row, ok_is_row F_is_row B C G_is_mark G_is_name G_is_number G_is_value, M_is_row, F_is_row.kp, F_is_row.bindsN fun _ _ _ _ _ _ us hl => match us, hl with | [_], _ => rfl⟩
  have G_bad_place : FnX P w K mg base "bad_place" 4 ["code"] (spF K [.fz] f_bad_place .fz) := ⟨_, fd_bad_place, ok_bad_place F_bad_place B C G_is_row, M_bad_place, F_bad_place.kp, F_bad_place.bindsN fun _ _ _ _ _ _ us hl => match us, hl with | [_], _ => rfl⟩
  have G_look_code : FnX P w K mg base "look_code" 5 ["code"] (spF K [.fz] f_look_code .fz) := ⟨_, fd_look_code, ok_look_code F_look_code B C G_bad_place, M_look_code, F_look_code.kp, F_look_code.bindsN fun _ _ _ _ _ _ us hl => match us, hl with | [_], _ => rfl⟩
  have G_where_of : FnX P w K mg base "where_of" 1 ["code"] (spF K [.fz] f_where_of .ow) := ⟨_, fd_where_of, ok_where_of F_where_of B C, M_where_of, F_where_of.kp, F_where_of.bindsN fun _ _ _ _ _ _ us hl => match us, hl with | [_], _ => rfl⟩
  have G_takes : FnX P w K mg base "takes" 1 ["row"] (spF K [.fz] f_takes .fz) := ⟨_, fd_takes, ok_takes F_takes B C, M_takes, F_takes.kp, F_takes.bindsN fun _ _ _ _ _ _ us hl => match us, hl with | [_], _ => rfl⟩
  have G_grows : FnX P w K mg base "grows" 1 ["row"] (spF K [.fz] f_grows .fz) := ⟨_, fd_grows, ok_grows F_grows B C, M_grows, F_grows.kp, F_grows.bindsN fun _ _ _ _ _ _ us hl => match us, hl with | [_], _ => rfl⟩
  have G_plain_next : FnX P w K mg base "plain_next" 2 ["where", "row", "at", "state"] (spF K [.fz, .fz, .fz, .fz] f_plain_next .ow) := ⟨_, fd_plain_next, ok_plain_next F_plain_next B C G_grows, M_plain_next, F_plain_next.kp, F_plain_next.bindsN fun _ _ _ _ _ _ us hl => match us, hl with | [_, _, _, _], _ => rfl⟩
  have G_all_next : FnX P w K mg base "all_next" 3 ["where", "row", "at", "state"] (spF K [.fz, .fz, .fz, .fz] f_all_next .ow) := ⟨_, fd_all_next, ok_all_next F_all_next B C G_plain_next, M_all_next, F_all_next.kp, F_all_next.bindsN fun _ _ _ _ _ _ us hl => match us, hl with | [_, _, _, _], _ => rfl⟩
  have G_lacks : FnX P w K mg base "lacks" 4 ["code", "where", "at", "state"] (spF K [.fz, .fz, .fz, .fz] f_lacks .ow) := ⟨_, fd_lacks, ok_lacks F_lacks B C G_all_next G_takes, M_lacks, F_lacks.kp, F_lacks.bindsN fun _ _ _ _ _ _ us hl => match us, hl with | [_, _, _, _], _ => rfl⟩
  have G_explored : FnX P w K mg base "explored" 5 ["code"] (spF K [.fz] f_explored .fz) := ⟨_, fd_explored, ok_explored F_explored B C G_all_next G_lacks G_where_of, M_explored, F_explored.kp, F_explored.bindsN fun _ _ _ _ _ _ us hl => match us, hl with | [_], _ => rfl⟩
  have G_states_of : FnX P w K mg base "states_of" 6 ["code"] (spF K [.fz] f_states_of .fz) := ⟨_, fd_states_of, ok_states_of F_states_of B C G_explored, M_states_of, F_states_of.kp, F_states_of.bindsN fun _ _ _ _ _ _ us hl => match us, hl with | [_], _ => rfl⟩
  have G_look_sound : FnX P w K mg base "look_sound" 7 ["code"] (spF K [.fz] f_look_sound .fz) := ⟨_, fd_look_sound, ok_look_sound F_look_sound B C G_look_code G_states_of, M_look_sound, F_look_sound.kp, F_look_sound.bindsN fun _ _ _ _ _ _ us hl => match us, hl with | [_], _ => rfl⟩
  have G_is_whole : FnX P w K mg base "is_whole" 1 ["value"] (spF K [.fz] f_is_whole .fz) := ⟨_, fd_is_whole, ok_is_whole F_is_whole B C, M_is_whole, F_is_whole.kp, F_is_whole.bindsN fun _ _ _ _ _ _ us hl => match us, hl with | [_], _ => rfl⟩
  have G_is_true : FnX P w K mg base "is_true" 2 ["value"] (spF K [.fz] f_is_true .fz) := ⟨_, fd_is_true, ok_is_true F_is_true B C G_is_whole, M_is_true, F_is_true.kp, F_is_true.bindsN fun _ _ _ _ _ _ us hl => match us, hl with | [_], _ => rfl⟩
  have G_are_same : FnX P w K mg base "are_same" 1 ["one", "other"] (spF K [.fz, .fz] f_are_same .fz) := ⟨_, fd_are_same, ok_are_same F_are_same B C, M_are_same, F_are_same.kp, F_are_same.bindsN fun _ _ _ _ _ _ us hl => match us, hl with | [_, _], _ => rfl⟩
  have G_reckoned : FnX P w K mg base "reckoned" 1 ["op", "one", "other"] (spF K [.fz, .fz, .fz] f_reckoned .fz) := ⟨_, fd_reckoned, ok_reckoned F_reckoned B C, M_reckoned, F_reckoned.kp, F_reckoned.bindsN fun _ _ _ _ _ _ us hl => match us, hl with | [_, _, _], _ => rfl⟩
  have G_paired : FnX P w K mg base "paired" 2 ["op", "one", "other"] (spF K [.fz, .fz, .fz] f_paired .fz) := ⟨_, fd_paired, ok_paired F_paired B C G_are_same G_is_whole G_reckoned, M_paired, F_paired.kp, F_paired.bindsN fun _ _ _ _ _ _ us hl => match us, hl with | [_, _, _], _ => rfl⟩
  have G_single : FnX P w K mg base "single" 3 ["op", "value"] (spF K [.fz, .fz] f_single .fz) := ⟨_, fd_single, ok_single F_single B C G_is_true G_is_whole, M_single, F_single.kp, F_single.bindsN fun _ _ _ _ _ _ us hl => match us, hl with | [_, _], _ => rfl⟩
  have G_takes_jump : FnX P w K mg base "takes_jump" 3 ["op", "value"] (spF K [.fz, .fz] f_takes_jump .fz) := ⟨_, fd_takes_jump, ok_takes_jump F_takes_jump B C G_is_true, M_takes_jump, F_takes_jump.kp, F_takes_jump.bindsN fun _ _ _ _ _ _ us hl => match us, hl with | [_, _], _ => rfl⟩
  have G_look_names : FnX P w K mg base "look_names" 3 ["names"] (spF K [.fz] f_look_names .fz) := ⟨_, fd_look_names, ok_look_names F_look_names B C G_is_name G_is_value, M_look_names, F_look_names.kp, F_look_names.bindsN fun _ _ _ _ _ _ us hl => match us, hl with | [_], _ => rfl⟩
  have G_look_steps : FnX P w K mg base "look_steps" 2 ["steps"] (spF K [.fz] f_look_steps .fz) := ⟨_, fd_look_steps, ok_look_steps F_look_steps B C G_is_number, M_look_steps, F_look_steps.kp, F_look_steps.bindsN fun _ _ _ _ _ _ us hl => match us, hl with | [_], _ => rfl⟩
  have G_Walk___len__ : MtX P w K mg base "Walk" "__len__" 1 ["self"] (spM true K Oi_Walk___len__ f_Walk___len__ .fz) := ⟨He.cls_ok (c.fact 59 (f := .cls "Walk") rfl), He.meth_ok (c.fact 70 (f := .meth "Walk" "__len__") rfl), fd_Walk___len__, ok_Walk___len__ F_Walk___len__ B C, F_Walk___len__.bindsN fun _ _ _ _ _ _ us hl => match us, hl with | [_], _ => rfl⟩
  have G_Walk_pass_by : MtX P w K mg base "Walk" "pass_by" 1 ["self"] (spM false K Oi_Walk_pass_by f_Walk_pass_by .fz) := ⟨He.cls_ok (c.fact 59 (f := .cls "Walk") rfl), He.meth_ok (c.fact 71 (f := .meth "Walk" "pass_by") rfl), fd_Walk_pass_by, ok_Walk_pass_by F_Walk_pass_by B C, F_Walk_pass_by.bindsN fun _ _ _ _ _ _ us hl => match us, hl with | [_], _ => rfl⟩
  have G_Walk___init__ : MkX P w K mg base "Walk" 8 ["self", "code", "names"] (spM false K Oi_Walk___init__ f_Walk___init__ .fz) := ⟨He.mkr_ok (c.fact 60 (f := .mkr "Walk") rfl), He.glo_ok X G (c.fact 58 (f := .glo "Walk") rfl), fd_Walk___init__, ok_Walk___init__ F_Walk___init__ B C G_Walk_pass_by G_look_names G_look_sound G_where_of, F_Walk___init__.bindsN fun _ _ _ _ _ _ us hl => match us, hl with | [_, _, _], _ => rfl⟩
  have G_Walk_place : MtX P w K mg base "Walk" "place" 1 ["self"] (spM true K Oi_Walk_place f_Walk_place .fz) := ⟨He.cls_ok (c.fact 59 (f := .cls "Walk") rfl), He.meth_ok (c.fact 73 (f := .meth "Walk" "place") rfl), fd_Walk_place, ok_Walk_place F_Walk_place B C, F_Walk_place.bindsN fun _ _ _ _ _ _ us hl => match us, hl with | [_], _ => rfl⟩
  have G_Walk_stack : MtX P w K mg base "Walk" "stack" 1 ["self"] (spM true K Oi_Walk_stack f_Walk_stack .ow) := ⟨He.cls_ok (c.fact 59 (f := .cls "Walk") rfl), He.meth_ok (c.fact 74 (f := .meth "Walk" "stack") rfl), fd_Walk_stack, ok_Walk_stack F_Walk_stack B C, F_Walk_stack.bindsN fun _ _ _ _ _ _ us hl => match us, hl with | [_], _ => rfl⟩
  have G_Walk_names : MtX P w K mg base "Walk" "names" 1 ["self"] (spM true K Oi_Walk_names f_Walk_names .ow) := ⟨He.cls_ok (c.fact 59 (f := .cls "Walk") rfl), He.meth_ok (c.fact 75 (f := .meth "Walk" "names") rfl), fd_Walk_names, ok_Walk_names F_Walk_names B C, F_Walk_names.bindsN fun _ _ _ _ _ _ us hl => match us, hl with | [_], _ => rfl⟩
  have G_Walk_guards : MtX P w K mg base "Walk" "guards" 1 ["self"] (spM true K Oi_Walk_guards f_Walk_guards .ow) := ⟨He.cls_ok (c.fact 59 (f := .cls "Walk") rfl), He.meth_ok (c.fact 76 (f := .meth "Walk" "guards") rfl), fd_Walk_guards, ok_Walk_guards F_Walk_guards B C, F_Walk_guards.bindsN fun _ _ _ _ _ _ us hl => match us, hl with | [_], _ => rfl⟩
  have G_Walk_told : MtX P w K mg base "Walk" "told" 1 ["self"] (spM true K Oi_Walk_told f_Walk_told .ow) := ⟨He.cls_ok (c.fact 59 (f := .cls "Walk") rfl), He.meth_ok (c.fact 77 (f := .meth "Walk" "told") rfl), fd_Walk_told, ok_Walk_told F_Walk_told B C, F_Walk_told.bindsN fun _ _ _ _ _ _ us hl => match us, hl with | [_], _ => rfl⟩
  have G_Walk_end : MtX P w K mg base "Walk" "end" 1 ["self"] (spM true K Oi_Walk_end f_Walk_end .fz) := ⟨He.cls_ok (c.fact 59 (f := .cls "Walk") rfl), He.meth_ok (c.fact 78 (f := .meth "Walk" "end") rfl), fd_Walk_end, ok_Walk_end F_Walk_end B C, F_Walk_end.bindsN fun _ _ _ _ _ _ us hl => match us, hl with | [_], _ => rfl⟩
  have G_Walk_places : MtX P w K mg base "Walk" "places" 1 ["self"] (spM true K Oi_Walk_places f_Walk_places .ow) := ⟨He.cls_ok (c.fact 59 (f := .cls "Walk") rfl), He.meth_ok (c.fact 79 (f := .meth "Walk" "places") rfl), fd_Walk_places, ok_Walk_places F_Walk_places B C, F_Walk_places.bindsN fun _ _ _ _ _ _ us hl => match us, hl with | [_], _ => rfl⟩
  have G_Walk_fault : MtX P w K mg base "Walk" "fault" 1 ["self", "kind", "line"] (spM false K Oi_Walk_fault f_Walk_fault .fz) := ⟨He.cls_ok (c.fact 59 (f := .cls "Walk") rfl), He.meth_ok (c.fact 80 (f := .meth "Walk" "fault") rfl), fd_Walk_fault, ok_Walk_fault F_Walk_fault B C, F_Walk_fault.bindsN fun _ _ _ _ _ _ us hl => match us, hl with | [_, _, _], _ => rfl⟩
  have G_Walk_move : MtX P w K mg base "Walk" "move" 1 ["self", "op", "arg"] (spM false K Oi_Walk_move f_Walk_move .fz) := ⟨He.cls_ok (c.fact 59 (f := .cls "Walk") rfl), He.meth_ok (c.fact 81 (f := .meth "Walk" "move") rfl), fd_Walk_move, ok_Walk_move F_Walk_move B C, F_Walk_move.bindsN fun _ _ _ _ _ _ us hl => match us, hl with | [_, _, _], _ => rfl⟩
  have G_Walk_reckon : MtX P w K mg base "Walk" "reckon" 4 ["self", "op"] (spM false K Oi_Walk_reckon f_Walk_reckon .fz) := ⟨He.cls_ok (c.fact 59 (f := .cls "Walk") rfl), He.meth_ok (c.fact 82 (f := .meth "Walk" "reckon") rfl), fd_Walk_reckon, ok_Walk_reckon F_Walk_reckon B C G_paired G_single, F_Walk_reckon.bindsN fun _ _ _ _ _ _ us hl => match us, hl with | [_, _], _ => rfl⟩
  have G_Walk_name_done : MtX P w K mg base "Walk" "name_done" 1 ["self", "op", "name"] (spM false K Oi_Walk_name_done f_Walk_name_done .fz) := ⟨He.cls_ok (c.fact 59 (f := .cls "Walk") rfl), He.meth_ok (c.fact 83 (f := .meth "Walk" "name_done") rfl), fd_Walk_name_done, ok_Walk_name_done F_Walk_name_done B C, F_Walk_name_done.bindsN fun _ _ _ _ _ _ us hl => match us, hl with | [_, _, _], _ => rfl⟩
  have G_Walk_jump : MtX P w K mg base "Walk" "jump" 4 ["self", "op", "mark"] (spM false K Oi_Walk_jump f_Walk_jump .fz) := ⟨He.cls_ok (c.fact 59 (f := .cls "Walk") rfl), He.meth_ok (c.fact 84 (f := .meth "Walk" "jump") rfl), fd_Walk_jump, ok_Walk_jump F_Walk_jump B C G_takes_jump, F_Walk_jump.bindsN fun _ _ _ _ _ _ us hl => match us, hl with | [_, _, _], _ => rfl⟩
  have G_Walk_done : MtX P w K mg base "Walk" "done" 5 ["self", "row"] (spM false K Oi_Walk_done f_Walk_done .fz) := ⟨He.cls_ok (c.fact 59 (f := .cls "Walk") rfl), He.meth_ok (c.fact 85 (f := .meth "Walk" "done") rfl), fd_Walk_done, ok_Walk_done F_Walk_done B C G_Walk_jump G_Walk_move G_Walk_name_done G_Walk_reckon, F_Walk_done.bindsN fun _ _ _ _ _ _ us hl => match us, hl with | [_, _], _ => rfl⟩
  have G_Walk_step : MtX P w K mg base "Walk" "step" 6 ["self"] (spM false K Oi_Walk_step f_Walk_step .fz) := ⟨He.cls_ok (c.fact 59 (f := .cls "Walk") rfl), He.meth_ok (c.fact 86 (f := .meth "Walk" "step") rfl), fd_Walk_step, ok_Walk_step F_Walk_step B C G_Walk_done G_Walk_fault G_Walk_pass_by, F_Walk_step.bindsN fun _ _ _ _ _ _ us hl => match us, hl with | [_], _ => rfl⟩
  have G_run : FnX P w K mg base "run" 10 ["code", "names", "steps"] (spF K [.fz, .fz, .fz] f_run .fz) := ⟨_, fd_run, ok_run F_run B C G_Walk___init__ G_Walk___len__ G_Walk_end G_Walk_step G_Walk_told G_look_steps, M_run, F_run.kp, F_run.bindsN fun _ _ _ _ _ _ us hl => match us, hl with | [_, _, _], _ => rfl⟩
  have G__law_town : FnX P w K mg base "_law_town" 1 ["_law_script"] (spF K [.fz] f__law_town .ow) := ⟨_, fd__law_town, ok__law_town F__law_town B C, M__law_town, F__law_town.kp, F__law_town.bindsN fun _ _ _ _ _ _ us hl => match us, hl with | [_], _ => rfl⟩
  have G__law_draw : FnX P w K mg base "_law_draw" 1 ["_law_script", "_law_town_here", "_law_many"] (spF K [.fz, .io, .fz] f__law_draw .fz) := ⟨_, fd__law_draw, ok__law_draw F__law_draw B C, M__law_draw, F__law_draw.kp, F__law_draw.bindsN fun _ _ _ _ _ _ us hl => match us, hl with | [_, _, _], _ => rfl⟩
  have G__law_pick : FnX P w K mg base "_law_pick" 2 ["_law_script", "_law_town_here", "_law_some"] (spF K [.fz, .io, .fz] f__law_pick .fz) := ⟨_, fd__law_pick, ok__law_pick F__law_pick B C G__law_draw, M__law_pick, F__law_pick.kp, F__law_pick.bindsN fun _ _ _ _ _ _ us hl => match us, hl with | [_, _, _], _ => rfl⟩
  have G__law_whole : FnX P w K mg base "_law_whole" 1 ["_law_thing"] (spF K [.fz] f__law_whole .fz) := ⟨_, fd__law_whole, ok__law_whole F__law_whole B C, M__law_whole, F__law_whole.kp, F__law_whole.bindsN fun _ _ _ _ _ _ us hl => match us, hl with | [_], _ => rfl⟩
  have G__law_true : FnX P w K mg base "_law_true" 2 ["_law_value"] (spF K [.fz] f__law_true .fz) := ⟨_, fd__law_true, ok__law_true F__law_true B C G__law_whole, M__law_true, F__law_true.kp, F__law_true.bindsN fun _ _ _ _ _ _ us hl => match us, hl with | [_], _ => rfl⟩
  have G__law_pair : FnX P w K mg base "_law_pair" 2 ["_law_op", "_law_one", "_law_other"] (spF K [.fz, .fz, .fz] f__law_pair .fz) := ⟨_, fd__law_pair, ok__law_pair F__law_pair B C G__law_whole, M__law_pair, F__law_pair.kp, F__law_pair.bindsN fun _ _ _ _ _ _ us hl => match us, hl with | [_, _, _], _ => rfl⟩
  have G__law_made : FnX P w K mg base "_law_made" 3 ["_law_op", "_law_stack"] (spF K [.fz, .io] f__law_made .fz) := ⟨_, fd__law_made, ok__law_made F__law_made B C G__law_pair G__law_true G__law_whole, M__law_made, F__law_made.kp, F__law_made.bindsN fun _ _ _ _ _ _ us hl => match us, hl with | [_, _], _ => rfl⟩
  have G__law_shown : FnX P w K mg base "_law_shown" 1 ["_law_thing"] (spF K [.fz] f__law_shown .fz) := ⟨_, fd__law_shown, ok__law_shown F__law_shown B C, M__law_shown, F__law_shown.kp, F__law_shown.bindsN fun _ _ _ _ _ _ us hl => match us, hl with | [_], _ => rfl⟩
  have G__law_any : FnX P w K mg base "_law_any" 3 ["_law_script", "_law_town_here"] (spF K [.fz, .io] f__law_any .fz) := ⟨_, fd__law_any, ok__law_any F__law_any B C G__law_draw G__law_pick, M__law_any, F__law_any.kp, F__law_any.bindsN fun _ _ _ _ _ _ us hl => match us, hl with | [_, _], _ => rfl⟩
  exact ok_law F_law B C G__law_any G__law_made G__law_pick G__law_shown G__law_town G_run
/-- the law, over what its text computes -/
theorem law_sp {K : PySem.W.Frag} (hl : ∀ ns : List Int, ns.length ≤ 63 → ∃ o, f_law [some (.list (ns.map PyData.int))] = some (.bool true, o)) (H : Hp) (a : Addr) (ns : List Int) (hn : ns.length ≤ 63) (hS : SqL K H a (ns.map V.int)) : spF K [.fz] f_law .fz [.ref a] H (fun v _ => v = .bl true) fun _ _ _ => False := by
  obtain ⟨o, e⟩ := hl ns hn
  exact law_sp0 e hS
end DL
open PySem PySem.W PySem.Calls PyProof.Rows
theorem PySem.Challenge.cw_codemill_k14_whole_reckoning_holds : PySem.Challenge.rw_codemill_k14_whole_reckoning.Holds := by
  w_on; o_law
  refine HandSHeadRun.head_any (r := OpenLaw.row PySem.Challenge.rw_codemill_k14_whole_reckoning) (q := view (OpenLaw.row PySem.Challenge.rw_codemill_k14_whole_reckoning).prog [64]) (H := DL.hk) (ob := DL.obX) (M := 4000) (loose := DL.loose) (d := HandSHeadRun.topDef (OpenLaw.row PySem.Challenge.rw_codemill_k14_whole_reckoning).prog 64) (kwd := []) DL.ob_eq
    (by kernel_rfl) (fun s => by kernel_rfl) DL.run (by kernel_rfl) (by kernel_rfl) (by kernel_rfl) (by rfl) (by first | assumption | decide +kernel) (by decide +kernel) ⟨rfl, rfl, rfl, rfl, rfl, by decide +kernel⟩ ?hw ?hc
  case hw => w_witness2
  case hc =>
    refine DL.walk_law (l := PySem.Challenge.rw_codemill_k14_whole_reckoning) (n := 63) (k := 11) (x := "_law_script") rfl (by decide) (by kernel_rfl) ⟨rfl, by decide, by decide⟩ fun w mg fa h Y G hmg0 => ?_
    obtain ⟨K, KX, c⟩ := Y
    have hn : (HandSHeadRun.topDef (OpenLaw.row PySem.Challenge.rw_codemill_k14_whole_reckoning).prog 64).name = ("law" : PySem.Str) := by kernel_rfl
    obtain ⟨fd, hb, hF⟩ := DL.facts (P := PySem.Challenge.rw_codemill_k14_whole_reckoning.prog) (w := w) KX G (by rw [← hn]; exact hmg0) c
    exact ⟨K, fd, _, KX, hb, fun H a ns hl hS => DL.law_sp DL.law_true H a ns hl hS, hF⟩

